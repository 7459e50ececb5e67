/-
  Proved here: the law renlaw12.EvalElements returns true for every input of the stated bulk and leaves its arguments as they were; no further condition.
  By an AI agent; no person has read it.
-/
import Derived.Test.YtdmjcmcdgepoeaaGreatDoorPartb
import Derived.Maps.RangeRun
import Derived.Scope
import Derived.Control
import Derived.Laws.Sem
import Derived.KernelRfl
import Derived.Lib.AtoiAll
import Derived.Lib.ItoaNum
import Derived.Lib.Bytealg
set_option linter.all false
set_option linter.deprecated false
namespace Go.Mach
section
variable {B : eD} {E : Env} {st : St} {o : Oper} {a : Act} {w : World} {Z : Nat → Prop} {μ : aZ} {Φ : St → Prop}
theorem tc {α : Type} {Φ : α → Prop} (h : (Res.stuck : Res α).sat Φ) : False := h
theorem pH (hR : Rel B st a w Z μ) (hE : lv E B.g) {n : Nat} (hn : cF E o ≤ n) (hF : jJ st n μ) (h : (step E st o Res.ok).sat Φ) :
    o.wp E.P a w (Nxt B st n Z μ Φ) (fun _ _ _ => False) := by
  cases hop : o.op with
  | move x => exact wu hR n hop h
  | assign x => exact u4 hR n hop h
  | pick c x y => exact xd hR n hop h
  | alloc T => exact vG hR hF (by simpa [cF, hop] using hn) hop h
  | box T x => exact zE hR hF (by simpa [cF, hop] using hn) hop h
  | build T parts => exact wH hR n hop h
  | buildSlice T k parts => exact qR hR hF (by simpa [cF, hop] using hn) hop h
  | load T x => exact xA hR n hop h
  | store T x y => exact vW hR n hop h
  | nilCheck x => exact ru hR n hop h
  | binOp op t x y u => exact yZ hR n hop h
  | unOp op t x => exact xE hR n hop h
  | convert src dst x =>
    refine tG hR hF (fun hb => ?_) hop h
    unfold sL at hb
    split at hb
    · rename_i el he
      simpa [cF, hop, he] using hn
    · cases hb
  | makeFunc fn first dt =>
    cases fn with
    | func f => exact rv hR n hop h
    | _ => simp only [step, dG, hop] at h; exact h.elim
  | makeSlice T l c => exact rF hR hF (by simpa [cF, hop] using hn) hop h
  | makeMap T r =>
    cases r with
    | none => exact tI hR hF (by simpa [cF, hop] using hn) hop h
    | some _ => simp only [step, dG, hop] at h; exact (tc h).elim
  | lookup T x i ok =>
    cases ok with
    | false => exact uy hR hF hn hop h
    | true => simp only [step, dG, hop] at h; exact (tc h).elim
  | mapUpdate T x i v => exact rE hR n hop h
  | mapEntry T x i => exact sV hR hF hn hop h
  | entryStore T x i v => exact qG hR n hop h
  | range T x => exact v8 hR hF (by simpa [cF, hop] using hn) hop h
  | entry x => exact vv hR n hop h
  | slice t x lo hi mx =>
    cases mx with
    | none =>
      cases hna : rK E.P t with
      | none => exact vq hR n hop hna h
      | some p => exact sZ hR hF hop hna (by simpa [cF, hop, hna] using hn) h
    | some _ => simp only [step, dG, hop] at h; exact h.elim
  | fieldAddr t x f => exact rD hR n hop h
  | field t x f => exact vX hR n hop h
  | indexAddr t x i =>
    cases hna : rK E.P t with
    | none => exact rL hR hF hop hna hn h
    | some q => exact rm hR n hop hna h
  | index t x i => exact wK hR n hop h
  | extract t i => exact tM hR n hop h
  | call c =>
    cases hc : c.callee with
    | value f =>
      cases hi : po E o with
      | none =>
        exact xL hR hE.specs hF hn hop hc hi h
      | some p =>
        obtain ⟨j, xs⟩ := p
        obtain ⟨c', h1, h2, rfl, h4, h5⟩ := mn hi
        rw [hop] at h1
        cases h1
        rw [hc] at h2
        cases h2
        simp only [step, dG, hop, hc, hi] at h
        refine yK hR (hE.inls j h4) hF (Nat.le_trans ?_ hn) hop hc h
        simp only [cF, hop, hc, h5]
        exact Nat.le_refl _
    | builtin b =>
      cases b with
      | len => exact y9 hR n hop hc h
      | append => exact u9 hR hF (by simpa [cF, hop, hc] using hn) hop hc h
      | copy => exact xc hR n hop hc h
      | delete => exact ub hR n hop hc h
      | min => exact yW hR n hop hc h
      | max => exact yT hR n hop hc h
      | _ => simp only [step, dG, hop, hc] at h; exact h.elim
    | invoke _ _ => simp only [step, dG, hop, hc] at h; exact h.elim
  | _ => simp only [step, dG, hop] at h; exact h.elim
end
section
variable {β : Type}
theorem Res.gh {α : Type} (b : Bool) (x : Res α) (k : α → Res β) : (Res.av b x).bind k = Res.av b (x.bind k) := by cases b <;> rfl
theorem Res.pG {α : Type} (b : Bool) (x : Res α) (k : α → Res β) : (Res.given b x).bind k = Res.given b (x.bind k) := rfl
theorem Res.vB {α : Type} (b : Bool) (x y : Res α) (k : α → Res β) : (Res.br b x y).bind k = Res.br b (x.bind k) (y.bind k) := by cases b <;> rfl
theorem Res.mF {α : Type} (t : Ty) (xs : List t.den) (i : Int) (f : t.den → Res α) (k : α → Res β) : (Res.idx t xs i f).bind k = Res.idx t xs i fun x => (f x).bind k := by
  unfold Res.idx
  split
  · split
    · rw [Res.pG]
    · rfl
  · rfl
theorem Res.tt {α : Type} (t : Sh) (xs : List t.den) (i : Int) (f : t.den → Res α) (k : α → Res β) : (Res.eF t xs i f).bind k = Res.eF t xs i fun x => (f x).bind k := by
  unfold Res.eF
  split
  · split
    · rw [Res.pG]
    · rfl
  · rfl
theorem Res.bind_assoc {α γ : Type} (m : Res α) (f : α → Res γ) (k : γ → Res β) : (m.bind f).bind k = m.bind fun x => (f x).bind k := by
  induction m with
  | ok a => rfl
  | stuck => rfl
  | given b m ih => exact congrArg (Res.given b) ih
theorem Res.oi {α γ : Type} (xs : List (List Int × γ)) (l : List Int) (f : Nat → γ → Res α) (g : Res α) (k : α → Res β) : (Res.look xs l f g).bind k = Res.look xs l (fun i x => (f i x).bind k) (g.bind k) := by
  unfold Res.look
  split
  · split <;> rfl
  · rfl
def i6 (v : AV) (m : Mem) : Res (AV × Mem) := .ok (v, m)
theorem zF {t : Bool} {a b : AV} (M : Mem) (K : AV → Mem → Res β) : sR t a b (fun v => K v M) = (sR t a b fun v => i6 v M).bind fun p => K p.1 p.2 := by
  unfold sR
  split
  · rfl
  · rw [Res.vB]; rfl
theorem zs {P : Program} {t : TypeId} {c : Bool} {op : BinOp} {x y : AV} (M : Mem) (K : AV → Mem → Res β) : rG P t c op x y (fun v => K v M) = (rG P t c op x y fun v => i6 v M).bind fun p => K p.1 p.2 := by
  unfold rG
  split
  · rw [Res.gh]; rfl
  · rw [Res.gh]; rfl
  · split
    · rfl
    · split <;> first | rfl | (rw [Res.gh]; rfl)
  · split <;> first | rfl | (rw [Res.gh]; rfl)
  · split <;> rfl
  · split <;> rfl
  · rfl
theorem sQ {α : Type} {xs : List α} {lo hi : Bnd} (f : List α → AV) (M : Mem) (K : AV → Mem → Res β) : tU xs lo hi (fun v => K (f v) M) = (tU xs lo hi fun v => i6 (f v) M).bind fun p => K p.1 p.2 := by
  unfold tU
  split <;> first | rfl | (rw [Res.gh]; rfl)
theorem zS {o n : Nat} {lo hi : Bnd} (f : Win → AV) (M : Mem) (K : AV → Mem → Res β) : uU o n lo hi (fun v => K (f v) M) = (uU o n lo hi fun v => i6 (f v) M).bind fun p => K p.1 p.2 := by
  unfold uU
  split <;> first | rfl | (rw [Res.gh]; rfl)
theorem w8 {m : Mem} {x : AV} {lo hi : Bnd} (M : Mem) (K : AV → Mem → Res β) : pF m x lo hi (fun v => K v M) = (pF m x lo hi fun v => i6 v M).bind fun p => K p.1 p.2 := by
  unfold pF
  split
  · exact sQ (fun s => .c (.str s)) M K
  · exact sQ (fun xs => .c (.lst _ xs)) M K
  · exact sQ (fun _ => .c .kP) M K
  · split
    · split
      · rfl
      · exact zS (fun w => .c (.ref _ w)) M K
    · rfl
  · rfl
theorem sk {m : Mem} {x i : AV} (K : AV → Mem → Res β) : jm m x i K = (jm m x i i6).bind fun p => K p.1 p.2 := by
  unfold jm
  split
  · rw [Res.mF]; rfl
  · split
    · rw [Res.gh]; rfl
    · split
      · rw [Res.gh]; rfl
      · rw [Res.tt]; rfl
      · rfl
    · rw [Res.mF]; rfl
    · rw [Res.tt]; rfl
    · rfl
  · rfl
theorem yQ {m : Mem} {n : Nat} {a : AV} (f : List C → AV) (M : Mem) (K : AV → Mem → Res β) : nO m n a (fun cs => K (f cs) M) = (nO m n a fun cs => i6 (f cs) M).bind fun p => K p.1 p.2 := by
  unfold nO
  split
  · split
    · split <;> rfl
    · split <;> rfl
    · rfl
  · split <;> rfl
  · split
    · rw [Res.mF]
      congr 1
      funext x
      split <;> rfl
    · rw [Res.gh]
      congr 1
      split <;> rfl
    · rfl
  · rfl
theorem xZ {m : Mem} {a : AV} {vs : List C} (v : AV) (K : AV → Mem → Res β) : qF m a vs (fun m => K v m) = (qF m a vs fun m => i6 v m).bind fun p => K p.1 p.2 := by
  unfold qF
  split
  · split
    · split <;> rfl
    · rfl
  · split
    · rw [Res.mF]
      congr 1
      funext x
      split
      · split <;> rfl
      · rfl
    · rw [Res.gh]
      congr 1
      split <;> rfl
    · rfl
  · rfl
theorem wT {P : Program} {m : Mem} {el : TypeId} {s : Sh} {d v : AV} (K : AV → Mem → Res β) : oW P m el s d v K = (oW P m el s d v i6).bind fun p => K p.1 p.2 := by
  unfold oW
  split
  · split
    · rw [Res.gh]; rfl
    · rfl
  · split
    · split
      · split
        · split
          · rw [Res.gh]; rfl
          · rfl
        · rfl
      · rfl
    · rfl
  · rfl
theorem zK {m : Mem} {e : Ty} {d : AV} {ys : List e.den} (K : AV → Mem → Res β) : ti m e d ys K = (ti m e d ys i6).bind fun p => K p.1 p.2 := by
  unfold ti
  split
  · split
    · split <;> rfl
    · rfl
  · rfl
theorem oS {f : FuncId} {args : List AV} {m : Mem} (K : AV → Mem → Res β) : ∀ (sps : List Spec), nQ sps f args m K = (nQ sps f args m i6).bind fun p => K p.1 p.2
  | [] => rfl
  | sp :: r => by
    simp only [nQ]
    split
    · split
      · split
        · rw [Res.bind_assoc]
          congr 1
          funext y
          split
          · split <;> rfl
          · rw [Res.pG]
            congr 1
            split <;> rfl
        · exact oS K r
      · exact oS K r
    · exact oS K r
theorem tT {E : Env} {m : Mem} {n : Nat} {el : TypeId} {x : AV} (K : AV → Mem → Res β) : lT E m n el x K = (lT E m n el x i6).bind fun p => K p.1 p.2 := by
  unfold lT
  split
  · split
    · split
      · split <;> rfl
      · rfl
    · rfl
  · rfl
theorem zD {m : Mem} {nw n : Nat} {z : C} {x : AV} {l : Option (List Int)} (K : AV → Mem → Res β) : sr m nw n z x l K = (sr m nw n z x l i6).bind fun p => K p.1 p.2 := by
  unfold sr
  split
  · split
    · split
      · split
        · rw [Res.oi]; rfl
        · rfl
      · rfl
    · rfl
  · rfl
theorem vu {m : Mem} {nw n : Nat} {z : C} {x : AV} {l : Option (List Int)} (K : AV → Mem → Res β) : nC m nw n z x l K = (nC m nw n z x l i6).bind fun p => K p.1 p.2 := by
  unfold nC
  split
  · split
    · split
      · split
        · rw [Res.oi]
          congr 1
          split <;> rfl
        · rfl
      · rfl
    · rfl
  · rfl
theorem vO {m : Mem} {x st v : AV} (u : AV) (K : AV → Mem → Res β) : mX m x st v (fun m => K u m) = (mX m x st v fun m => i6 u m).bind fun p => K p.1 p.2 := by
  unfold mX
  split
  · split
    · split <;> rfl
    · rfl
  · rfl
theorem zZ {m : Mem} {n : Nat} {x : AV} {l : Option (List Int)} {v : AV} (u : AV) (K : AV → Mem → Res β) : wm m n x l v (fun m => K u m) = (wm m n x l v fun m => i6 u m).bind fun p => K p.1 p.2 := by
  unfold wm
  split
  · split
    · split
      · rw [Res.oi]
        congr 1
        · funext i y
          split
          · rw [Res.gh]; rfl
          · rfl
        · split
          · rfl
          · split <;> rfl
      · rfl
    · rfl
  · rfl
theorem zm {m : Mem} {n : Nat} {x : AV} {l : Option (List Int)} (u : AV) (K : AV → Mem → Res β) : xF m n x l (fun m => K u m) = (xF m n x l fun m => i6 u m).bind fun p => K p.1 p.2 := by
  unfold xF
  split
  · split
    · split
      · split
        · rw [Res.oi]; rfl
        · rfl
      · rfl
    · rfl
  · rfl
theorem w5 {m : Mem} {x : AV} (K : AV → Mem → Res β) : pE m x K = (pE m x i6).bind fun p => K p.1 p.2 := by
  unfold pE
  split
  · split
    · split <;> rfl
    · rfl
  · rfl
theorem zO {j : Inl} {xs : List AV} {M : Mem} (K : AV → Mem → Res β) : vj j xs M K = (vj j xs M i6).bind fun p => K p.1 p.2 := by
  unfold vj
  split
  · split
    · rw [j.cps β]
      conv => rhs; rw [j.cps (AV × Mem), Res.bind_assoc]
      congr 1
      funext p
      split <;> rfl
    · rfl
  · rfl
theorem lX (E : Env) (ρ : Operand → AV) (M : Mem) (o : Oper) (K : AV → Mem → Res β) : dG E ρ M o K = (dG E ρ M o i6).bind fun p => K p.1 p.2 := by
  unfold dG
  split
  · rfl
  · rfl
  · split
    · exact zF M K
    · rfl
  · split
    · split <;> rfl
    · split <;> rfl
  · split <;> rfl
  · split
    · split <;> rfl
    · rfl
  · split
    · split
      · split
        · split
          · split <;> rfl
          · rfl
        · rfl
      · rfl
    · rfl
  · split
    · exact yQ (fun cs => lN _ cs) M K
    · rfl
  · split
    · exact xZ _ K
    · rfl
  · split <;> rfl
  · split
    · rfl
    · exact zs M K
  · split <;> rfl
  · split
    · split <;> rfl
    · split
      · rfl
      · split <;> rfl
      · rfl
    · split <;> rfl
    · rfl
  · split <;> rfl
  · split
    · split
      · split
        · rw [Res.gh]; rfl
        · rfl
      · rfl
    · rfl
  · split
    · split
      · exact tT K
      · rfl
    · split
      · split
        · exact w8 M K
        · rfl
      · rfl
  · split
    · split <;> rfl
    · rfl
  · split
    · split <;> rfl
    · rfl
  · split
    · split <;> rfl
    · split
      · exact sk K
      · rfl
  · split
    · rw [Res.mF]; rfl
    · rfl
  · split
    · split <;> rfl
    · rfl
  · split <;> rfl
  · split
    · exact zD K
    · rfl
  · split
    · exact zZ _ K
    · rfl
  · split
    · exact vu K
    · rfl
  · exact vO _ K
  · split
    · exact w5 K
    · rfl
  · split <;> rfl
  · split
    · split
      · exact zO K
      · split
        · exact oS K _
        · rfl
    · split
      · split <;> rfl
      · rfl
    · split
      · split
        · split
          · split
            · exact wT K
            · rfl
          · rfl
        · rfl
      · rfl
    · split
      · split
        · split
          · split
            · exact zK K
            · rfl
          · rfl
        · rfl
      · rfl
    · split
      · split
        · exact zm _ K
        · rfl
      · rfl
    · split <;> rfl
    · split <;> rfl
    · rfl
  · rfl
end
end Go.Mach
namespace Go.Mach
structure Touch (m m' : Mem) (n : Nat) : Prop where
  len : m'.roots.length = m.roots.length
  cur : m'.cur = m.cur + n
  dR : ∀ r, m.dR.testBit r = true → m'.dR.testBit r = true
  same : ∀ r, (r < m.cur ∨ m.cur + n ≤ r) → m'.dR.testBit r = false → m'.roots[r]? = m.roots[r]?
namespace Touch
variable {m m' m'' : Mem} {a b : Nat}
theorem refl (m : Mem) : Touch m m 0 := ⟨rfl, rfl, fun _ h => h, fun _ _ _ => rfl⟩
theorem trans (h : Touch m m' a) (h' : Touch m' m'' b) : Touch m m'' (a + b) := by
  refine ⟨h'.len.trans h.len, by rw [h'.cur, h.cur, Nat.add_assoc], fun r hr => h'.dR r (h.dR r hr), fun r hr hb => ?_⟩
  have h1 : m'.dR.testBit r = false := by
    cases hq : m'.dR.testBit r with
    | false => rfl
    | true => rw [h'.dR r hq] at hb; cases hb
  have h2 := h.cur
  rw [h'.same r (by omega) hb, h.same r (by omega) h1]
theorem et (h : Touch m m' 0) (h' : Touch m' m'' b) : Touch m m'' b := by have := h.trans h'; rwa [Nat.zero_add] at this
theorem qY (h : Touch m m' a) (h' : Touch m' m'' 0) : Touch m m'' a := by have := h.trans h'; rwa [Nat.add_zero] at this
theorem set (m : Mem) (r : Nat) (x : bk) : Touch m (m.set r x) 0 := by
  refine ⟨by simp [Mem.set], rfl, fun s hs => by simp [Mem.set, Nat.testBit_or, hs], fun s _ hb => ?_⟩
  simp only [Mem.set, Nat.testBit_or, Bool.or_eq_false_iff, Nat.testBit_two_pow, decide_eq_false_iff_not] at hb
  simp only [Mem.set]
  rw [List.getElem?_set_ne hb.2]
theorem push (m : Mem) (x : bk) : Touch m (m.push x) 1 := by
  refine ⟨by simp [Mem.push], rfl, fun s hs => hs, fun s hs _ => ?_⟩
  simp only [Mem.push]
  rw [List.getElem?_set_ne (by omega)]
theorem move (m : Mem) (q r : Nat) : Touch m (m.move q r) 0 := by
  refine ⟨by simp [Mem.move], rfl, fun s hs => by simp [Mem.move, Nat.testBit_or, hs], fun s _ hb => ?_⟩
  simp only [Mem.move, Nat.testBit_or, Bool.or_eq_false_iff, Nat.testBit_two_pow, decide_eq_false_iff_not] at hb
  simp only [Mem.move]
  rw [List.getElem?_set_ne hb.2.1, List.getElem?_set_ne hb.2.2]
end Touch
theorem kq : ∀ {cs : List C} {m m' : Mem}, jc cs m = some m' → Touch m m' 0
  | [], m, m', h => by simp only [jc, Option.some.injEq] at h; subst h; exact Touch.refl _
  | c :: cs, m, m', h => by
    by_cases hr : ∃ r wd, c = .ref r wd
    · obtain ⟨r, wd, rfl⟩ := hr
      simp only [jc] at h
      split at h
      · split at h
        · exact (Touch.set m _ _).et (kq h)
        · cases h
      · exact kq h
      · cases h
    · have h' : jc cs m = some m' := by
        cases c with
        | ref q wq => exact absurd ⟨q, wq, rfl⟩ hr
        | _ => simpa only [jc] using h
      exact kq h'
theorem iP : ∀ (s : Sh) {cs rest : List C} {x : s.den} {m m' : Mem}, s.get cs m = some (x, rest, m') → Touch m m' 0
  | .nil, cs, rest, x, m, m', h => by simp only [Sh.get, Option.some.injEq, Prod.mk.injEq] at h; obtain ⟨_, _, rfl⟩ := h; exact Touch.refl _
  | .undef, cs, rest, x, m, m', h => by
    match cs, h with
    | c :: cs, h => simp only [Sh.get, Option.some.injEq, Prod.mk.injEq] at h; obtain ⟨_, _, rfl⟩ := h; exact Touch.refl _
  | .sb p, cs, rest, x, m, m', h => by
    match cs, h with
    | .ptr r 0 :: cs, h =>
      simp only [Sh.get] at h
      split at h
      case h_2 => cases h
      split at h
      case h_2 => cases h
      simp only [Option.some.injEq, Prod.mk.injEq] at h
      obtain ⟨_, _, rfl⟩ := h
      exact Touch.set _ _ _
  | .opq, cs, rest, x, m, m', h => by
    match cs, h with
    | c :: cs, h =>
      simp only [Sh.get] at h
      split at h
      · simp only [Option.some.injEq, Prod.mk.injEq] at h; obtain ⟨_, _, rfl⟩ := h; exact Touch.refl _
      · cases h
  | .err, cs, rest, x, m, m', h => by
    match cs, h with
    | .err b :: cs, h => simp only [Sh.get, Option.some.injEq, Prod.mk.injEq] at h; obtain ⟨_, _, rfl⟩ := h; exact Touch.refl _
  | .iC, cs, rest, x, m, m', h => by
    match cs, h with
    | .iC :: cs, h => simp only [Sh.get, Option.some.injEq, Prod.mk.injEq] at h; obtain ⟨_, _, rfl⟩ := h; exact Touch.refl _
  | .frz t, cs, rest, x, m, m', h => by
    simp only [Sh.get] at h
    split at h
    case h_2 => cases h
    split at h
    case h_2 => cases h
    rename_i hfz
    simp only [Option.some.injEq, Prod.mk.injEq] at h
    obtain ⟨_, _, rfl⟩ := h
    exact kq hfz
  | .own s, cs, rest, x, m, m', h => by
    match cs, h with
    | .kP :: cs, h => simp only [Sh.get, Option.some.injEq, Prod.mk.injEq] at h; obtain ⟨_, _, rfl⟩ := h; exact Touch.refl _
    | .ref r wd :: cs, h =>
      simp only [Sh.get] at h
      split at h
      case h_2 => cases h
      split at h
      case h_2 => cases h
      split at h
      · simp only [Option.some.injEq, Prod.mk.injEq] at h
        obtain ⟨_, _, rfl⟩ := h
        exact Touch.set _ _ _
      · split at h
        case h_2 => cases h
        rename_i hy
        simp only [Option.some.injEq, Prod.mk.injEq] at h
        obtain ⟨_, _, rfl⟩ := h
        exact (Touch.set _ _ _).et (iP s hy)
  | .map n s, cs, rest, x, m, m', h => by
    match cs, h with
    | .mp r :: cs, h =>
      simp only [Sh.get] at h
      split at h
      case h_2 => cases h
      split at h
      case h_2 => cases h
      split at h
      · simp only [Option.some.injEq, Prod.mk.injEq] at h
        obtain ⟨_, _, rfl⟩ := h
        exact Touch.set _ _ _
      · split at h
        case h_2 => cases h
        rename_i hy
        simp only [Option.some.injEq, Prod.mk.injEq] at h
        obtain ⟨_, _, rfl⟩ := h
        exact (Touch.set _ _ _).et (iP s hy)
  | .box s, cs, rest, x, m, m', h => by
    match cs, h with
    | .ptr r 0 :: cs, h =>
      simp only [Sh.get] at h
      split at h
      case h_2 => cases h
      split at h
      case h_2 => cases h
      rename_i hy
      simp only [Option.some.injEq, Prod.mk.injEq] at h
      obtain ⟨_, _, rfl⟩ := h
      exact (Touch.set _ _ _).et (iP s hy)
  | .clo f s, cs, rest, x, m, m', h => by
    match cs, h with
    | .fn g dt :: cs, h =>
      simp only [Sh.get] at h
      split at h
      case h_2 => cases h
      rename_i hy
      simp only [Option.some.injEq, Prod.mk.injEq] at h
      obtain ⟨_, _, rfl⟩ := h
      exact iP s hy
  | .seq a b, cs, rest, x, m, m', h => by
    simp only [Sh.get] at h
    split at h
    case h_2 => cases h
    rename_i ha
    split at h
    case h_2 => cases h
    rename_i hb
    simp only [Option.some.injEq, Prod.mk.injEq] at h
    obtain ⟨_, _, rfl⟩ := h
    exact (iP a ha).et (iP b hb)
  | .bor s, cs, rest, x, m, m', h => by
    simp only [Sh.get] at h
    split at h
    case h_2 => cases h
    simp only [Option.some.injEq, Prod.mk.injEq] at h
    obtain ⟨_, _, rfl⟩ := h
    exact Touch.refl _
theorem ki : ∀ (s : Sh) (x : s.den) (m : Mem), Touch m (s.mkB x m).2 s.news
  | .nil, _, m => Touch.refl m
  | .undef, _, m => Touch.refl m
  | .iC, _, m => Touch.refl m
  | .err, _, m => Touch.refl m
  | .opq, _, m => Touch.refl m
  | .sb _, _, m => Touch.push m _
  | .frz _, _, m => Touch.refl m
  | .own _, _, m => Touch.push m _
  | .box s, x, m => (ki s x m).trans (Touch.push _ _)
  | .clo _ s, x, m => ki s x m
  | .map _ _, _, m => Touch.push m _
  | .seq a b, x, m => (ki a x.1 m).trans (ki b x.2 _)
  | .bor s, x, m => ki s x m
theorem j5 : ∀ (s : Sh) (x : s.den) (m : Mem), Touch m (s.mk x m).2 s.news
  | .nil, _, m => Touch.refl m
  | .undef, _, m => Touch.refl m
  | .iC, _, m => Touch.refl m
  | .err, _, m => Touch.refl m
  | .opq, _, m => Touch.refl m
  | .sb _, _, m => Touch.push m _
  | .frz _, _, m => Touch.refl m
  | .own _, _, m => Touch.push m _
  | .box s, x, m => (j5 s x m).trans (Touch.push _ _)
  | .clo _ s, x, m => j5 s x m
  | .map _ _, _, m => Touch.push m _
  | .seq a b, x, m => (j5 a x.1 m).trans (j5 b x.2 _)
  | .bor s, x, m => ki s x m
theorem qb : ∀ (l : List VSh) (x : iS l) (m : Mem), Touch m (mks l x m).2 (jy l)
  | [], _, m => Touch.refl m
  | [a], x, m => j5 a.2 x m
  | a :: b :: r, x, m => (j5 a.2 x.1 m).trans (qb (b :: r) x.2 _)
theorem o9 {a : VSh} {v : AV} {m m' : Mem} {x : a.2.den} (h : tO a v m = some (x, m')) : Touch m m' 0 := by
  unfold tO at h
  split at h
  case h_2 => cases h
  rename_i hg
  simp only [Option.some.injEq, Prod.mk.injEq] at h
  obtain ⟨_, rfl⟩ := h
  exact iP _ hg
theorem sx : ∀ {l : List VSh} {vs : List AV} {m m' : Mem} {x : iS l}, sa l vs m = some (x, m') → Touch m m' 0
  | [], vs, m, m', x, h => by
    match vs, h with
    | [], h => simp only [sa, Option.some.injEq, Prod.mk.injEq] at h; obtain ⟨_, rfl⟩ := h; exact Touch.refl _
  | [a], vs, m, m', x, h => by
    match vs, h with
    | [v], h => exact o9 h
  | a :: b :: r, vs, m, m', x, h => by
    match vs, h with
    | v :: vs, h =>
      simp only [sa] at h
      split at h
      case h_2 => cases h
      rename_i hg
      split at h
      case h_2 => cases h
      rename_i hgs
      simp only [Option.some.injEq, Prod.mk.injEq] at h
      obtain ⟨_, rfl⟩ := h
      exact (o9 hg).et (sx hgs)
theorem tA {a : VSh} {v : AV} {m m' : Mem} {g : Mem → Option a.2.den} (h : vf a v m = some (g, m')) : Touch m m' 0 := by
  unfold vf at h
  split at h
  · split at h
    · simp only [Option.some.injEq, Prod.mk.injEq] at h; obtain ⟨_, rfl⟩ := h; exact Touch.refl _
    · cases h
  · split at h
    case h_2 => cases h
    rename_i hg
    simp only [Option.some.injEq, Prod.mk.injEq] at h
    obtain ⟨_, rfl⟩ := h
    exact o9 hg
theorem qt : ∀ {l : List VSh} {vs : List AV} {m m' : Mem} {g : Mem → Option (iS l)}, nY l vs m = some (g, m') → Touch m m' 0
  | [], vs, m, m', x, h => by
    match vs, h with
    | [], h => simp only [nY, Option.some.injEq, Prod.mk.injEq] at h; obtain ⟨_, rfl⟩ := h; exact Touch.refl _
  | [a], vs, m, m', x, h => by
    match vs, h with
    | [v], h => exact tA h
  | a :: b :: r, vs, m, m', x, h => by
    match vs, h with
    | v :: vs, h =>
      simp only [nY] at h
      split at h
      case h_2 => cases h
      rename_i hg
      split at h
      case h_2 => cases h
      rename_i hgs
      simp only [Option.some.injEq, Prod.mk.injEq] at h
      obtain ⟨_, rfl⟩ := h
      exact (tA hg).et (qt hgs)
theorem ue {s : Sh} {v : AV} {x : s.den} {m m' : Mem} (h : rk s v x m = some m') : Touch m m' s.news := by
  have ht := j5 s x m
  unfold rk at h
  generalize hmk : s.mk x m = k at h ht
  obtain ⟨cs, m1⟩ := k
  simp only at h ht
  split at h
  case h_2 => cases h
  split at h
  · unfold Mem.Ad at h
    split at h
    case h_2 => cases h
    cases h
    exact ht.qY (Touch.move _ _ _)
  · cases h; exact ht
theorem nZ : ∀ {ps : List Par} {xs : List AV} {α : Type} {y : outs α (boxes ps)} {m m' : Mem}, nU ps xs y m = some m' → Touch m m' (ql (boxes ps))
  | [], xs, α, y, m, m', h => by simp only [nU, Option.some.injEq] at h; subst h; exact Touch.refl _
  | .val g s :: r, xs, α, y, m, m', h => by
    match xs, h with
    | x :: xs, h => exact nZ (ps := r) h
  | .obj s :: r, xs, α, y, m, m', h => by
    match xs, h with
    | x :: xs, h =>
      simp only [nU] at h
      split at h
      case h_2 => cases h
      rename_i hb
      exact (ue hb).trans (nZ (ps := r) h)
def qC (m m' : Mem) (n : Nat) : Prop := ∃ k, k ≤ n ∧ Touch m m' k
theorem Touch.le {m m' : Mem} {n k : Nat} (h : Touch m m' k) (hk : k ≤ n) : qC m m' n := ⟨k, hk, h⟩
def Ends (n : Nat) (M : Mem) (r : Res (AV × Mem)) : Prop := ∀ v m', r.strip = some (v, m') → qC M m' n
section
variable {M : Mem} {n : Nat}
theorem Ends.stuck : Ends n M .stuck := fun _ _ h => by cases h
theorem Ends.val {v : AV} : Ends n M (i6 v M) := fun _ _ h => by cases h; exact (Touch.refl M).le (Nat.zero_le _)
theorem Ends.ok {v : AV} {m : Mem} (h : qC M m n) : Ends n M (i6 v m) := fun _ _ e => by cases e; exact h
theorem Ends.av {b : Bool} {r : Res (AV × Mem)} (h : Ends n M r) : Ends n M (Res.av b r) := by cases b; exact Ends.stuck; exact h
theorem Ends.given {b : Bool} {r : Res (AV × Mem)} (h : Ends n M r) : Ends n M (Res.given b r) := h
theorem Ends.br {b : Bool} {r r' : Res (AV × Mem)} (h : Ends n M r) (h' : Ends n M r') : Ends n M (Res.br b r r') := by cases b; exact h'; exact h
theorem Ends.idx {t : Ty} {xs : List t.den} {i : Int} {f : t.den → Res (AV × Mem)} (h : ∀ x, Ends n M (f x)) : Ends n M (Res.idx t xs i f) := by
  unfold Res.idx
  split
  · split
    · exact (h _).given
    · exact Ends.stuck
  · exact Ends.stuck
theorem Ends.eF {t : Sh} {xs : List t.den} {i : Int} {f : t.den → Res (AV × Mem)} (h : ∀ x, Ends n M (f x)) : Ends n M (Res.eF t xs i f) := by
  unfold Res.eF
  split
  · split
    · exact (h _).given
    · exact Ends.stuck
  · exact Ends.stuck
theorem Ends.bind {α : Type} {m : Res α} {f : α → Res (AV × Mem)} (h : ∀ x, Ends n M (f x)) : Ends n M (m.bind f) := by
  intro v m' e
  rw [Res.iB] at e
  cases hs : m.strip with
  | none => rw [hs] at e; cases e
  | some a => rw [hs] at e; exact h a v m' e
end
theorem xT {m m0 : Mem} {r : Nat} (h : m.shut r = some m0) : Touch m m0 0 := by
  unfold Mem.shut at h
  split at h
  · split at h
    case h_2 => cases h
    rename_i hg
    cases h
    exact (Touch.set _ _ _).et ((iP _ hg).et (Touch.set _ _ _))
  · cases h; exact Touch.refl _
  · cases h
theorem jg {m m0 : Mem} {r : Nat} (h : m.o4 r = some m0) : Touch m m0 0 := by
  unfold Mem.o4 at h
  split at h
  · split at h
    case h_2 => cases h
    rename_i hg
    cases h
    exact (Touch.set _ _ _).et ((iP _ hg).et (Touch.set _ _ _))
  · cases h; exact Touch.refl _
  · cases h
theorem Ends.look {M : Mem} {n : Nat} {γ : Type} {xs : List (List Int × γ)} {l : List Int} {f : Nat → γ → Res (AV × Mem)} {g : Res (AV × Mem)} (h : ∀ i x, Ends n M (f i x)) (h' : Ends n M g) : Ends n M (Res.look xs l f g) := by
  unfold Res.look
  split
  · split
    · exact h _ _
    · exact Ends.stuck
  · exact h'
theorem xK {m : Mem} {nw n : Nat} {z : C} {x : AV} {l : Option (List Int)} : Ends nw m (sr m nw n z x l i6) := by
  unfold sr
  split
  · split
    · rename_i hs
      split
      · split
        · rename_i hc
          simp only [Bool.and_eq_true, decide_eq_true_eq] at hc
          exact Ends.look (fun i x => Ends.ok (((jg hs).et ((Touch.set _ _ _).et ((j5 _ _ _).qY (Touch.set _ _ _)))).le hc.2.2.2)) (Ends.ok ((jg hs).le (Nat.zero_le _)))
        · exact Ends.stuck
      · exact Ends.stuck
    · exact Ends.stuck
  · exact Ends.stuck
theorem vC {m : Mem} {nw n : Nat} {z : C} {x : AV} {l : Option (List Int)} : Ends nw m (nC m nw n z x l i6) := by
  unfold nC
  split
  · split
    · rename_i hs
      split
      · split
        · rename_i hc
          simp only [Bool.and_eq_true, decide_eq_true_eq] at hc
          refine Ends.look (fun i x => Ends.ok (((jg hs).et ((Touch.set _ _ _).et (((j5 _ _ _).trans (Touch.push _ _)).qY (Touch.set _ _ _)))).le hc.2.2.2)) ?_
          split
          · rename_i hg
            exact Ends.ok (((jg hs).et ((Touch.set _ _ _).et ((iP _ hg).et ((Touch.push _ _).qY (Touch.set _ _ _))))).le (by omega))
          · exact Ends.stuck
        · exact Ends.stuck
      · exact Ends.stuck
    · exact Ends.stuck
  · exact Ends.stuck
theorem uj {k : Nat} {m : Mem} {x st v u : AV} : Ends k m (mX m x st v fun m => i6 u m) := by
  unfold mX
  split
  · split
    · split
      · exact Ends.ok ((Touch.set _ _ _).le (Nat.zero_le _))
      · exact Ends.stuck
    · exact Ends.stuck
  · exact Ends.stuck
theorem yc {m : Mem} {k n : Nat} {x : AV} {l : Option (List Int)} {v u : AV} : Ends k m (wm m n x l v fun m => i6 u m) := by
  unfold wm
  split
  · split
    · split
      · refine Ends.look (fun i y => ?_) ?_
        · split
          · exact (Ends.ok ((Touch.set _ _ _).le (Nat.zero_le _))).av
          · exact Ends.ok ((Touch.set _ _ _).le (Nat.zero_le _))
        · split
          · exact Ends.stuck
          · split
            · rename_i hg
              exact Ends.ok (((Touch.set _ _ _).et ((iP _ hg).et (Touch.set _ _ _))).le (Nat.zero_le _))
            · exact Ends.stuck
      · exact Ends.stuck
    · exact Ends.stuck
  · exact Ends.stuck
theorem yU {m : Mem} {k n : Nat} {x : AV} {l : Option (List Int)} {u : AV} : Ends k m (xF m n x l fun m => i6 u m) := by
  unfold xF
  split
  · split
    · rename_i hs
      split
      · split
        · exact Ends.look (fun i y => Ends.ok (((jg hs).et (Touch.set _ _ _)).le (Nat.zero_le _))) (Ends.ok ((jg hs).le (Nat.zero_le _)))
        · exact Ends.stuck
      · exact Ends.stuck
    · exact Ends.stuck
  · exact Ends.stuck
theorem wD {m : Mem} {x : AV} : Ends 1 m (pE m x i6) := by
  unfold pE
  split
  · split
    · rename_i hs
      split
      · exact Ends.ok (((jg hs).et ((Touch.set _ _ _).et (Touch.push _ _))).le (Nat.le_refl _))
      · exact Ends.stuck
    · exact Ends.stuck
  · exact Ends.stuck
theorem p7 {m md m1 : Mem} {s : Sh} {v : AV} {ys : List s.den} (h : qW m md s v = some (ys, m1)) : Touch md m1 0 := by
  unfold qW at h
  split at h
  · split at h
    · simp only [Option.some.injEq, Prod.mk.injEq] at h; obtain ⟨_, rfl⟩ := h; exact Touch.refl _
    · cases h
  · simp only [Option.some.injEq, Prod.mk.injEq] at h; obtain ⟨_, rfl⟩ := h; exact Touch.refl _
  · split at h
    · split at h
      · simp only [Option.some.injEq, Prod.mk.injEq] at h; obtain ⟨_, rfl⟩ := h; exact Touch.set _ _ _
      · cases h
    · cases h
  · cases h
theorem mo (s : Sh) : ∀ (n : Nat) {cs : List C} {xs : List s.den} {m m' : Mem}, getAll s n cs m = some (xs, m') → Touch m m' 0
  | 0, cs, xs, m, m', h => by
    match cs, h with
    | [], h => simp only [getAll, Option.some.injEq, Prod.mk.injEq] at h; obtain ⟨_, rfl⟩ := h; exact Touch.refl _
  | n + 1, cs, xs, m, m', h => by
    simp only [getAll] at h
    split at h
    case h_2 => cases h
    rename_i hg
    split at h
    case h_2 => cases h
    rename_i hr
    simp only [Option.some.injEq, Prod.mk.injEq] at h
    obtain ⟨_, rfl⟩ := h
    exact (iP s hg).et (mo s n hr)
theorem xN {n : Nat} {M : Mem} {t : Bool} {a b : AV} : Ends n M (sR t a b fun v => i6 v M) := by
  unfold sR
  split
  · exact Ends.val
  · exact Ends.val.br Ends.val
theorem ye {n : Nat} {M : Mem} {P : Program} {t : TypeId} {c : Bool} {op : BinOp} {x y : AV} : Ends n M (rG P t c op x y fun v => i6 v M) := by
  unfold rG
  split
  · exact Ends.val.av
  · exact Ends.val.av
  · split
    · exact Ends.stuck
    · split <;> first | exact Ends.val | exact Ends.val.av | exact Ends.stuck
  · split <;> first | exact Ends.val | exact Ends.val.av | exact Ends.stuck
  · split <;> first | exact Ends.val | exact Ends.stuck
  · split <;> first | exact Ends.val | exact Ends.stuck
  · exact Ends.stuck
theorem qS {n : Nat} {M : Mem} {α : Type} {xs : List α} {lo hi : Bnd} {f : List α → AV} : Ends n M (tU xs lo hi fun v => i6 (f v) M) := by
  unfold tU
  split <;> first | exact Ends.val | exact Ends.val.av
theorem yJ {n : Nat} {M : Mem} {o k : Nat} {lo hi : Bnd} {f : Win → AV} : Ends n M (uU o k lo hi fun v => i6 (f v) M) := by
  unfold uU
  split <;> first | exact Ends.val | exact Ends.val.av
theorem vM {n : Nat} {M m : Mem} {x : AV} {lo hi : Bnd} : Ends n M (pF m x lo hi fun v => i6 v M) := by
  unfold pF
  split
  · exact qS (f := fun s => .c (.str s))
  · exact qS (f := fun xs => .c (.lst _ xs))
  · exact qS (f := fun _ => .c .kP)
  · split
    · split
      · exact Ends.val
      · exact yJ (f := fun w => .c (.ref _ w))
    · exact Ends.stuck
  · exact Ends.stuck
theorem rj {n : Nat} {f : FuncId} {args : List AV} {m : Mem} : ∀ {sps : List Spec}, (∀ sp ∈ sps, sp.f = f → sp.news ≤ n) → Ends n m (nQ sps f args m i6)
  | [], _ => Ends.stuck
  | sp :: r, hn => by
    have ih := rj (n := n) (f := f) (args := args) (m := m) (sps := r) fun s hs => hn s (List.mem_cons_of_mem _ hs)
    simp only [nQ]
    split
    · rename_i hb
      simp only [Bool.and_eq_true, beq_iff_eq] at hb
      have hle := hn sp List.mem_cons_self hb.1
      split
      · rename_i g m1 hg
        split
        · refine Ends.bind fun y => ?_
          have key : ∀ {m3 : Mem}, nU sp.ps args y (mks sp.rs (jF (boxes sp.ps) y) m1).2 = some m3 → qC m m3 n := fun h3 =>
            Touch.le ((qt hg).et ((qb _ _ _).trans (nZ h3))) hle
          split
          · split
            · exact Ends.ok (key (by assumption))
            · exact Ends.stuck
          · refine Ends.given ?_
            split
            · exact Ends.ok (key (by assumption))
            · exact Ends.stuck
        · exact ih
      · exact ih
    · exact ih
theorem oF : ∀ (l : List Nat) (d r : Nat), d.testBit r = true → (l.foldl (fun d r => d ||| 2 ^ r) d).testBit r = true
  | [], _, _, h => h
  | x :: l, d, r, h => by
    rw [List.foldl_cons]
    exact oF l _ r (by rw [Nat.testBit_or, h, Bool.true_or])
theorem pe : ∀ (l : List Nat) (d r : Nat), r ∈ l → (l.foldl (fun d r => d ||| 2 ^ r) d).testBit r = true
  | x :: l, d, r, h => by
    rw [List.foldl_cons]
    rcases List.mem_cons.1 h with rfl | h
    · exact oF l _ _ (by simp [Nat.testBit_or, Nat.testBit_two_pow_self])
    · exact pe l _ r h
theorem yO {j : Inl} {xs : List AV} {M : Mem} : Ends j.news M (vj j xs M i6) := by
  unfold vj
  split
  · rename_i l _
    split
    · rename_i hin
      rw [j.cps]
      refine Ends.bind fun p => ?_
      split
      · rename_i hio
        refine Ends.ok ⟨p.2.roots.length - l.length, ?_, oC M p.2 l, rfl, fun r hr => oF _ _ _ hr, fun r hr hb => ?_⟩
        · simp only [wz, Bool.and_eq_true, Nat.ble_eq] at hio
          omega
        · cases hx : M.roots[r]? with
          | none =>
            rw [List.getElem?_eq_none_iff] at hx ⊢
            rw [oC]; exact hx
          | some x =>
            rw [vL hx]
            congr 1
            cases hc : l.contains r with
            | true =>
              simp only
              cases hbit : p.2.dR.testBit (kz l r) with
              | false => rfl
              | true =>
                have : (M.lift l p.2).dR.testBit r = true := pe _ _ _ (by
                  simp only [List.mem_filter]
                  exact ⟨by simpa using hc, hbit⟩)
                rw [this] at hb; cases hb
            | false =>
              simp only
              have : (Nat.ble M.cur r && Nat.blt (r - M.cur + l.length) p.2.roots.length) = false := by
                rw [Bool.and_eq_false_iff]
                rcases hr with hr | hr
                · left
                  cases h : Nat.ble M.cur r with
                  | false => rfl
                  | true => rw [Nat.ble_eq] at h; omega
                · right
                  cases h : Nat.blt (r - M.cur + l.length) p.2.roots.length with
                  | false => rfl
                  | true =>
                    rw [Nat.blt_eq] at h
                    omega
              rw [this]
      · exact Ends.stuck
    · exact Ends.stuck
  · exact Ends.stuck
theorem rn (E : Env) (ρ : Operand → AV) (hρ : ∀ g, ρ (.func g) = .c (.fn g [])) (M : Mem) (o : Oper) : Ends (cF E o) M (dG E ρ M o i6) := by
  unfold dG
  split
  · exact Ends.val
  · exact Ends.val
  · split
    · exact xN
    · exact Ends.stuck
  · rename_i ho
    split
    · split
      · exact Ends.ok ((Touch.push _ _).le (by simp [cF, ho]))
      · exact Ends.stuck
    · split
      · exact Ends.ok ((Touch.push _ _).le (by simp [cF, ho]))
      · exact Ends.stuck
  · rename_i ho
    split
    · exact Ends.ok ((Touch.push _ _).le (by simp [cF, ho]))
    · exact Ends.stuck
  · split
    · split
      · exact Ends.val
      · exact Ends.stuck
    · exact Ends.stuck
  · rename_i ho
    split
    · split
      · split
        · split
          · split
            · rename_i hg
              exact Ends.ok (((mo _ _ hg).et (Touch.push _ _)).le (by simp [cF, ho]))
            · exact Ends.stuck
          · exact Ends.stuck
        · exact Ends.stuck
      · exact Ends.stuck
    · exact Ends.stuck
  · split
    · unfold nO
      split
      · split
        · split <;> first | exact Ends.val | exact Ends.stuck
        · split <;> first | exact Ends.val | exact Ends.stuck
        · exact Ends.stuck
      · split <;> first | exact Ends.val | exact Ends.stuck
      · split
        · refine Ends.idx fun x => ?_
          split <;> first | exact Ends.val | exact Ends.stuck
        · refine Ends.av ?_
          split <;> first | exact Ends.val | exact Ends.stuck
        · exact Ends.stuck
      · exact Ends.stuck
    · exact Ends.stuck
  · split
    · unfold qF
      split
      · split
        · split
          · exact Ends.ok ((Touch.set _ _ _).le (Nat.zero_le _))
          · exact Ends.stuck
        · exact Ends.stuck
      · split
        · refine Ends.idx fun x => ?_
          split
          · split
            · rename_i hg
              exact Ends.ok (((Touch.set _ _ _).et ((iP _ hg).et (Touch.set _ _ _))).le (Nat.zero_le _))
            · exact Ends.stuck
          · exact Ends.stuck
        · refine Ends.av ?_
          split
          · exact Ends.ok ((Touch.set _ _ _).le (Nat.zero_le _))
          · exact Ends.stuck
        · exact Ends.stuck
      · exact Ends.stuck
    · exact Ends.stuck
  · split <;> first | exact Ends.val | exact Ends.stuck
  · split
    · exact Ends.val
    · exact ye
  · split <;> first | exact Ends.val | exact Ends.stuck
  · rename_i ho
    split
    · split <;> first | exact Ends.val | exact Ends.stuck
    · split
      · exact Ends.val
      · rename_i hd
        split
        · exact Ends.ok ((Touch.push _ _).le (by simp [cF, ho, hd]))
        · exact Ends.stuck
      · exact Ends.stuck
    · split <;> first | exact Ends.val | exact Ends.stuck
    · exact Ends.stuck
  · split <;> first | exact Ends.val | exact Ends.stuck
  · rename_i ho
    split
    · split
      · split
        · exact (Ends.ok ((Touch.push _ _).le (by simp [cF, ho]))).av
        · exact Ends.stuck
      · exact Ends.stuck
    · exact Ends.stuck
  · rename_i t _ _ _ ho
    split
    · rename_i hp
      split
      · unfold lT
        split
        · split
          · split
            · split
              · rename_i hg
                exact Ends.ok (((Touch.set _ _ _).et ((mo _ _ hg).et (Touch.push _ _))).le (by simp [cF, ho, hp]))
              · exact Ends.stuck
            · exact Ends.stuck
          · exact Ends.stuck
        · exact Ends.stuck
      · exact Ends.stuck
    · split
      · split
        · exact vM
        · exact Ends.stuck
      · exact Ends.stuck
  · split
    · split <;> first | exact Ends.val | exact Ends.stuck
    · exact Ends.stuck
  · split
    · split <;> first | exact Ends.val | exact Ends.stuck
    · exact Ends.stuck
  · split
    · split <;> first | exact Ends.val | exact Ends.stuck
    · split
      · rename_i hb
        simp only [Bool.and_eq_true, decide_eq_true_eq] at hb
        have hn := hb.2
        unfold jm
        split
        · exact Ends.idx fun _ => Ends.val
        · rename_i r w k ix hx _
          rw [hx] at hn
          simp only [Mem.newsAt] at hn
          split
          · exact Ends.val.av
          · rename_i s xs foc hne hr
            split
            · exact Ends.val.av
            · refine Ends.eF fun x => Ends.ok (((Touch.set _ _ _).et ((j5 _ _ _).qY (Touch.set _ _ _))).le ?_)
              rw [hr] at hn
              cases s with
              | frz e => exact (hne e xs rfl HEq.rfl rfl).elim
              | _ => exact hn
            · exact Ends.stuck
          · exact Ends.idx fun _ => Ends.val
          · rename_i s xs hr
            rw [hr] at hn
            exact Ends.eF fun x => Ends.ok (((ki _ _ _).trans (Touch.push _ _)).le hn)
          · exact Ends.stuck
        · exact Ends.stuck
      · exact Ends.stuck
  · split
    · exact Ends.idx fun _ => Ends.val
    · exact Ends.stuck
  · split
    · split <;> first | exact Ends.val | exact Ends.stuck
    · exact Ends.stuck
  · rename_i ho
    split
    · exact Ends.ok ((Touch.push _ _).le (by simp [cF, ho]))
    · exact Ends.stuck
  · split
    · exact xK
    · exact Ends.stuck
  · split
    · exact yc
    · exact Ends.stuck
  · split
    · exact vC
    · exact Ends.stuck
  · exact uj
  · rename_i ho
    split
    · have : cF E o = 1 := by simp [cF, ho]
      rw [this]
      exact wD
    · exact Ends.stuck
  · split <;> first | exact Ends.val | exact Ends.stuck
  · rename_i c ho
    split
    · rename_i f hc
      split
      · rename_i j xs hi
        obtain ⟨c', h1, h2, _, _, h5⟩ := mn hi
        rw [ho] at h1
        cases h1
        have hnews : cF E o = j.news := by simp only [cF, ho, h2, h5]
        rw [hnews]
        exact yO
      · rename_i hi
        split
        · rename_i fid dt hf
          refine rj fun sp hs he => ?_
          obtain ⟨n1, n2⟩ := qu hs
          simp only [cF, ho, hc]
          cases f with
          | func g =>
            rw [hρ] at hf
            cases hf
            have hg : (E.inls.find? fun i => i.f == fid) = none := by
              unfold po at hi
              simp only [ho, hc] at hi
              split at hi
              · cases hi
              · assumption
            rw [he] at n1
            simp only [hg]
            exact n1
          | _ => exact n2
        · exact Ends.stuck
    · split
      · split <;> first | exact Ends.val | exact Ends.stuck
      · exact Ends.stuck
    · rename_i hc
      split
      · split
        · split
          · split
            · unfold oW
              split
              · split
                · rename_i hs
                  exact (Ends.ok (((p7 hs).et (Touch.push _ _)).le (by simp [cF, ho, hc]))).av
                · exact Ends.stuck
              · split
                · rename_i hsh
                  split
                  · split
                    · split
                      · rename_i hs
                        exact (Ends.ok (((xT hsh).et ((Touch.set _ _ _).et ((p7 hs).et (Touch.push _ _)))).le (by simp [cF, ho, hc]))).av
                      · exact Ends.stuck
                    · exact Ends.stuck
                  · exact Ends.stuck
                · exact Ends.stuck
              · exact Ends.stuck
            · exact Ends.stuck
          · exact Ends.stuck
        · exact Ends.stuck
      · exact Ends.stuck
    · split
      · split
        · split
          · split
            · unfold ti
              split
              · split
                · split
                  · exact Ends.ok ((Touch.set _ _ _).le (Nat.zero_le _))
                  · exact Ends.stuck
                · exact Ends.stuck
              · exact Ends.stuck
            · exact Ends.stuck
          · exact Ends.stuck
        · exact Ends.stuck
      · exact Ends.stuck
    · split
      · split
        · exact yU
        · exact Ends.stuck
      · exact Ends.stuck
    · split <;> first | exact Ends.val | exact Ends.stuck
    · split <;> first | exact Ends.val | exact Ends.stuck
    · exact Ends.stuck
  · exact Ends.stuck
end Go.Mach
namespace Go.Mach
theorem wF {β : Type} {E : Env} {ρ ρ' : Operand → AV} {M : Mem} {o : Oper} {K : AV → Mem → Res β} (h : ∀ x ∈ o.op.operands, ρ x = ρ' x) : dG E ρ M o K = dG E ρ' M o K := by
  obtain ⟨dst, op, type, pos, after, guard⟩ := o
  have pairs : ∀ ps : Array (Nat × Operand), (∀ x ∈ (ps.toList.map (·.2)).toArray, ρ x = ρ' x) → (ps.toList.map fun p => (p.1, ρ p.2)) = (ps.toList.map fun p => (p.1, ρ' p.2)) := fun ps hp =>
    List.map_congr_left fun p hm => by
      rw [hp p.2 (by simp only [List.mem_toArray, List.mem_map]; exact ⟨p, hm, rfl⟩)]
  cases op <;> simp only [Op.operands] at h <;> simp only [dG]
  case build t ps => rw [pairs ps h]
  case buildSlice t n ps => rw [pairs ps h]
  case makeFunc fn first captured =>
    have h1 : captured.toList.map (fun x => (ρ x).cap) = captured.toList.map (fun x => (ρ' x).cap) := List.map_congr_left fun x hx => by rw [h x (by simp; exact .inr (by simpa using hx))]
    have h2 : (captured.toList.all fun x => (ρ x).wW) = (captured.toList.all fun x => (ρ' x).wW) := by
      rw [Bool.eq_iff_iff]
      simp only [List.all_eq_true]
      constructor
      · intro g x hx
        rw [← h x (by simp; exact .inr (by simpa using hx))]; exact g x hx
      · intro g x hx
        rw [h x (by simp; exact .inr (by simpa using hx))]; exact g x hx
    cases fn <;> simp only [h1, h2]
  case slice t x lo hi mx =>
    have h0 : ρ x = ρ' x := h x (by simp)
    have h1 : lo.map ρ = lo.map ρ' := by cases lo with
      | none => rfl
      | some y => simp only [Option.map_some]; rw [h y (by simp)]
    have h2 : hi.map ρ = hi.map ρ' := by cases hi with
      | none => rfl
      | some y => simp only [Option.map_some]; rw [h y (by simp)]
    cases mx <;> simp only [h0, h1, h2]
  case call c =>
    have hargs : c.args.toList.map ρ = c.args.toList.map ρ' := List.map_congr_left fun x hx => h x (by simp [Call.operands]; exact .inr (by simpa using hx))
    cases hc : c.callee with
    | value f =>
      have hf : ρ f = ρ' f := h f (by simp [Call.operands, hc])
      cases hi : po E ⟨dst, .call c, type, pos, after, guard⟩ with
      | none => simp only [hf, hargs]
      | some p =>
        obtain ⟨j, xs⟩ := p
        obtain ⟨c', h1, _, rfl, _⟩ := mn hi
        cases h1
        simp only [hargs]
    | invoke r m => rfl
    | builtin b =>
      cases b <;> simp only [hargs]
      case len =>
        split
        · rename_i x t ts hx ht
          have : ρ x = ρ' x := h x (by simp [Call.operands]; right; rw [← Array.mem_toList_iff, hx]; simp)
          rw [this]
        · rfl
      case append =>
        split
        · rename_i d s T U r hx ht
          have h1 : ρ d = ρ' d := h d (by simp [Call.operands]; right; rw [← Array.mem_toList_iff, hx]; simp)
          have h2 : ρ s = ρ' s := h s (by simp [Call.operands]; right; rw [← Array.mem_toList_iff, hx]; simp)
          rw [h1, h2]
        · rfl
      case copy =>
        split
        · rename_i d s T r hx ht
          have h1 : ρ d = ρ' d := h d (by simp [Call.operands]; right; rw [← Array.mem_toList_iff, hx]; simp)
          have h2 : ρ s = ρ' s := h s (by simp [Call.operands]; right; rw [← Array.mem_toList_iff, hx]; simp)
          rw [h1, h2]
        · rfl
      case delete =>
        split
        · rename_i d s T U hx ht
          have h1 : ρ d = ρ' d := h d (by simp [Call.operands]; right; rw [← Array.mem_toList_iff, hx]; simp)
          have h2 : ρ s = ρ' s := h s (by simp [Call.operands]; right; rw [← Array.mem_toList_iff, hx]; simp)
          rw [h1, h2]
        · rfl
  case makeMap t r => cases r <;> rfl
  case lookup t x i ok =>
    have h0 : ρ x = ρ' x := h x (by simp)
    have h1 : ρ i = ρ' i := h i (by simp)
    cases ok <;> simp only [h0, h1]
  all_goals (first | rfl | (simp at h; simp only [h]))
theorem tk (l : List Nat) : ∀ (xs : List bk) (i k : Nat), (o5 l i xs)[k]? = (xs[k]?).map fun x => if l.contains (i + k) = true then x else .dead
  | [], _, k => by simp [o5]
  | x :: xs, i, 0 => by
    simp only [o5, List.getElem?_cons_zero, Option.map_some, Nat.add_zero]
    cases l.contains i <;> rfl
  | x :: xs, i, k + 1 => by
    simp only [o5, List.getElem?_cons_succ]
    rw [tk l xs (i + 1) k, show i + 1 + k = i + (k + 1) from by omega]
theorem uG (l : List Nat) : ∀ (xs ys : List bk) (i k : Nat), xs.length = ys.length → (oy l i xs ys)[k]? = if l.contains (i + k) = true then ys[k]? else xs[k]?
  | [], [], _, k, _ => by simp [oy]
  | x :: xs, y :: ys, i, 0, _ => by
    simp only [oy, List.getElem?_cons_zero, Nat.add_zero]
    cases l.contains i <;> simp
  | x :: xs, y :: ys, i, k + 1, h => by
    simp only [oy, List.getElem?_cons_succ]
    rw [uG l xs ys (i + 1) k (by simpa using h), show i + 1 + k = i + (k + 1) from by omega]
theorem p0 (l : List Nat) : ∀ (xs ys : List bk) (i : Nat), (oy l i xs ys).length = xs.length
  | [], _, _ => rfl
  | x :: xs, ys, i => by simp only [oy, List.length_cons, p0 l xs]
def gD.has : gD → Nat → Prop
  | some l, r => l.contains r = true
  | none, _ => True
theorem ny (m : Mem) (c : Nat) (R : gD) (r : Nat) : (R.has r → (m.view c R).roots[r]? = m.roots[r]?) ∧ (¬ R.has r → (m.view c R).roots[r]? = (m.roots[r]?).map fun _ => .dead) := by
  cases R with
  | none => exact ⟨fun _ => rfl, fun h => absurd trivial h⟩
  | some l =>
    have h1 := tk l m.roots 0 r
    rw [Nat.zero_add] at h1
    refine ⟨fun (h : l.contains r = true) => ?_, fun (h : ¬ l.contains r = true) => ?_⟩
    · show (o5 l 0 m.roots)[r]? = _
      rw [h1]; simp only [h, if_true, Option.map_id']
    · show (o5 l 0 m.roots)[r]? = _
      rw [h1]; simp only [h, if_false]; rfl
theorem nh (m : Mem) (c : Nat) (R : gD) : (m.view c R).roots.length = m.roots.length := by
  cases R with
  | none => rfl
  | some l =>
    have : ∀ (xs : List bk) (i : Nat), (o5 l i xs).length = xs.length := by
      intro xs
      induction xs with
      | nil => intro _; rfl
      | cons x xs ih => intro i; simp [o5, ih]
    exact this _ _
theorem oA {m m1 : Mem} (hl : m.roots.length = m1.roots.length) (W : gD) (r : Nat) : (W.has r → (m.over m1 W).roots[r]? = m1.roots[r]?) ∧ (¬ W.has r → (m.over m1 W).roots[r]? = m.roots[r]?) := by
  cases W with
  | none => exact ⟨fun _ => rfl, fun h => absurd trivial h⟩
  | some l =>
    cases l with
    | nil => exact ⟨fun h => by simp [gD.has] at h, fun _ => rfl⟩
    | cons a l =>
      have h1 := uG (a :: l) m.roots m1.roots 0 r hl
      rw [Nat.zero_add] at h1
      refine ⟨fun (h : (a :: l).contains r = true) => ?_, fun (h : ¬ (a :: l).contains r = true) => ?_⟩
      · show (oy (a :: l) 0 m.roots m1.roots)[r]? = _
        rw [h1, if_pos h]
      · show (oy (a :: l) 0 m.roots m1.roots)[r]? = _
        rw [h1, if_neg h]
theorem qw {m m1 : Mem} (hl : m.roots.length = m1.roots.length) (W : gD) : (m.over m1 W).roots.length = m.roots.length := by
  cases W with
  | none => exact hl.symm
  | some l =>
    cases l with
    | nil => rfl
    | cons a l => exact p0 _ _ _ _
section
variable {B : eD} {E : Env} {w w' : World} {Z Z' : Nat → Prop} {μ μ1 : aZ}
def lh {m : Mem} (h : az B m w Z μ) (R : gD) : eD := ⟨w, fun b => ∃ r, R.has r ∧ ew m μ r b, Z, B.Y, B.g, h.ui.1, fun b hb => ⟨h.ui.2 b hb, (h.frz b (h.ui.2 b hb)).1, fun ⟨r, _, y, ℓ, h1, h2, h3, h4⟩ => (h.own r y ℓ b h1 h2 h3 h4).1 (h.ui.2 b hb)⟩⟩
theorem vd {m : Mem} (h : az B m w Z μ) (c : Nat) (R : gD) : az (lh h R) (m.view c R) w Z μ := by
  have hv : ∀ r x, (m.view c R).roots[r]? = some x → x ≠ .dead → R.has r ∧ m.roots[r]? = some x := by
    intro r x hx hd
    by_cases hr : R.has r
    · exact ⟨hr, by rw [← (ny m c R r).1 hr]; exact hx⟩
    · rw [(ny m c R r).2 hr] at hx
      cases hm : m.roots[r]? with
      | none => rw [hm] at hx; cases hx
      | some y => rw [hm] at hx; cases hx; exact absurd rfl hd
  have hdead : ∀ {x : bk}, x.fj = true → x ≠ .dead := by rintro _ h rfl; simp [bk.fj] at h
  refine ⟨fun r x hx hd => h.rt r x (hv r x hx hd).2 hd, fun r s x y ℓ ℓ' hrs hx hy hox hoy => h.dj r s x y ℓ ℓ' hrs (hv r x hx (hdead hox)).2 (hv s y hy (hdead hoy)).2 hox hoy, fun r x ℓ b hx ho hl hb => ?_, fun b hb => ⟨(h.frz b hb).1, .inl hb⟩, fun _ h => h, Nat.le_refl _, fun _ _ _ => rfl, fun r hr => h.far r (by rw [nh] at hr; exact hr), fun b hb => ⟨Nat.lt_of_lt_of_le (h.ju b hb).1 h.size, ?_⟩, Io.refl _⟩
  · obtain ⟨h1, h2⟩ := hv r x hx (hdead ho)
    obtain ⟨h3, h4, _⟩ := h.own r x ℓ b h2 ho hl hb
    exact ⟨h3, h4, .inr ⟨r, h1, x, ℓ, h2, ho, hl, hb⟩⟩
  · rintro ⟨r, _, x, ℓ, h1, h2, h3, h4⟩
    have h5 := (h.own r x ℓ b h1 h2 h3 h4).2.2
    have h6 := h.ju b hb
    rcases h5 with h5 | h5
    · omega
    · exact h6.2 h5
open Classical in
theorem unmask {m m1 mf : Mem} {R : gD} (h : az B m w Z μ) (h1 : az (lh h R) m1 w' Z' μ1) (he : bP μ μ1) (hz : ∀ b, Z b → Z' b) (D : Nat → Prop)
    (hD : ∀ r, D r → mf.roots[r]? = m1.roots[r]? ∨ mf.roots[r]? = some .dead) (hnD : ∀ r, ¬ D r → mf.roots[r]? = m.roots[r]? ∧ ¬ R.has r) (hl : mf.roots.length = m.roots.length) (hl1 : m1.roots.length = m.roots.length)
    (hout : ∀ r, ¬ D r → μ r = none → μ1 r = none) :
    ∃ μ2, az B mf w' Z' μ2 ∧ bP μ1 μ2 ∧ bP μ μ2 ∧ ∀ r, μ1 r = none → μ r = none → μ2 r = none := by
  have hdead : ∀ {x : bk}, x.fj = true → x ≠ .dead := by rintro _ h rfl; simp [bk.fj] at h
  let μ2 : aZ := fun r => if D r then μ1 r else μ r
  have hμD : ∀ r, D r → μ2 r = μ1 r := fun r h => if_pos h
  have hμN : ∀ r, ¬ D r → μ2 r = μ r := fun r h => if_neg h
  have he12 : bP μ1 μ2 := fun r ℓ hr => by
    by_cases hd : D r
    · exact ⟨ℓ.S, by rw [hμD r hd, hr]⟩
    · cases hm : μ r with
      | none => rw [hout r hd hm] at hr; cases hr
      | some ℓ0 =>
        obtain ⟨S', h2⟩ := he r ℓ0 hm
        rw [hr] at h2
        cases h2
        exact ⟨ℓ0.S, by rw [hμN r hd, hm]⟩
  have hsz : w.heap.size ≤ w'.heap.size := h1.size
  have hoff : ∀ r x ℓ b, ¬ D r → m.roots[r]? = some x → x.fj = true → μ r = some ℓ → ℓ.S b → ¬ (lh h R).A b := by
    rintro r x ℓ b hd hx ho hl' hb ⟨s, hs, y, ℓ', k1, k2, k3, k4⟩
    have hrs : r ≠ s := by rintro rfl; exact (hnD r hd).2 hs
    exact h.dj r s x y ℓ ℓ' hrs hx k1 ho k2 hl' k3 b hb k4
  have hAin : ∀ b, (lh h R).A b → ¬ Z b ∧ b < w.heap.size ∧ (B.w0.heap.size ≤ b ∨ B.A b) := by
    rintro b ⟨s, hs, y, ℓ', k1, k2, k3, k4⟩
    exact h.own s y ℓ' b k1 k2 k3 k4
  have hkeep : ∀ b, b < w.heap.size → ¬ (lh h R).A b → w'.heap[b]? = w.heap[b]? := h1.nn
  have hownD : ∀ r x ℓ b, D r → mf.roots[r]? = some x → x.fj = true → μ2 r = some ℓ → ℓ.S b → m1.roots[r]? = some x ∧ μ1 r = some ℓ := by
    intro r x ℓ b hd hx ho hl' hb
    rcases hD r hd with h2 | h2
    · exact ⟨h2 ▸ hx, hμD r hd ▸ hl'⟩
    · rw [hx] at h2; cases h2; exact absurd rfl (hdead ho)
  refine ⟨μ2, ⟨fun r x hx hd => ?_, fun r s x y ℓ ℓ' hrs hx hy hox hoy hlr hls b hb hb' => ?_, fun r x ℓ b hx ho hl' hb => ?_, fun b hb => ?_, fun b hb => hz b (h.ou b hb), Nat.le_trans h.size hsz, fun b hb hA => ?_, fun r hr => ?_, h.ju, h.io.trans h1.io⟩, he12, he.trans he12, fun r a b => ?_⟩
  · by_cases hDr : D r
    · rcases hD r hDr with h2 | h2
      · rw [h2] at hx
        obtain ⟨ℓ, k1, k2⟩ := h1.rt r x hx hd
        exact ⟨ℓ, by rw [hμD r hDr]; exact k1, k2.mono (aj.refl _ _) (fun _ h => h) (fun _ h => h) he12⟩
      · rw [hx] at h2; cases h2; exact absurd rfl hd
    · obtain ⟨h2, h3⟩ := hnD r hDr
      rw [h2] at hx
      obtain ⟨ℓ, k1, k2⟩ := h.rt r x hx hd
      refine ⟨ℓ, by rw [hμN r hDr]; exact k1, ?_⟩
      have hZ : aj Z w w' := fun b hb => hkeep b (h.frz b hb).1 fun hA => (hAin b hA).1 hb
      have hY : aj B.Y w w' := fun b hb => hkeep b (Nat.lt_of_lt_of_le (h.ju b hb).1 h.size) (h1.ju b hb).2
      cases ho : x.fj with
      | true =>
        refine k2.mono (fun b hb => ?_) hz (fun _ h => h) (he.trans he12)
        rcases hb with (hb | hb) | hb
        · exact hZ b hb
        · exact hY b hb
        · exact hkeep b (h.own r x ℓ b hx ho k1 hb).2.1 (hoff r x ℓ b hDr hx ho k1 hb)
      | false =>
        exact ((k2.yY ho (fun _ => False)).mono (w' := w') (Z' := Z') (μ' := μ2) (fun b hb => by
          rcases hb with (hb | hb) | hb
          · exact hZ b hb
          · exact hY b hb
          · exact hb.elim) hz (fun _ h => h) (he.trans he12)).yY ho ℓ.S
  · have cross : ∀ {r s : Nat} {x y : bk} {ℓ ℓ' : Loc} {b : Nat}, D r → ¬ D s → mf.roots[r]? = some x → mf.roots[s]? = some y → x.fj = true → y.fj = true → μ2 r = some ℓ → μ2 s = some ℓ' → ℓ.S b → ℓ'.S b → False := by
      intro r s x y ℓ ℓ' b hr hs hx hy hox hoy hlr hls hb hb'
      obtain ⟨k1, k2⟩ := hownD r x ℓ b hr hx hox hlr hb
      rw [(hnD s hs).1] at hy
      rw [hμN s hs] at hls
      rcases (h1.own r x ℓ b k1 hox k2 hb).2.2 with k3 | k3
      · have := (h.own s y ℓ' b hy hoy hls hb').2.1
        have k3 : w.heap.size ≤ b := k3
        omega
      · exact hoff s y ℓ' b hs hy hoy hls hb' k3
    by_cases hr : D r <;> by_cases hs : D s
    · obtain ⟨k1, k2⟩ := hownD r x ℓ b hr hx hox hlr hb
      obtain ⟨k3, k4⟩ := hownD s y ℓ' b hs hy hoy hls hb'
      exact h1.dj r s x y ℓ ℓ' hrs k1 k3 hox hoy k2 k4 b hb hb'
    · exact cross hr hs hx hy hox hoy hlr hls hb hb'
    · exact cross hs hr hy hx hoy hox hls hlr hb' hb
    · rw [(hnD r hr).1] at hx
      rw [(hnD s hs).1] at hy
      rw [hμN r hr] at hlr
      rw [hμN s hs] at hls
      exact h.dj r s x y ℓ ℓ' hrs hx hy hox hoy hlr hls b hb hb'
  · by_cases hr : D r
    · obtain ⟨k1, k2⟩ := hownD r x ℓ b hr hx ho hl' hb
      obtain ⟨a1, a2, a3⟩ := h1.own r x ℓ b k1 ho k2 hb
      refine ⟨a1, a2, ?_⟩
      rcases a3 with a3 | a3
      · exact .inl (Nat.le_trans h.size a3)
      · exact (hAin b a3).2.2
    · rw [(hnD r hr).1] at hx
      rw [hμN r hr] at hl'
      obtain ⟨a1, a2, a3⟩ := h.own r x ℓ b hx ho hl' hb
      refine ⟨fun hzb => ?_, by omega, a3⟩
      obtain ⟨_, a5⟩ := h1.frz b hzb
      rcases a5 with a5 | a5 | a5
      · exact a1 a5
      · have a5 : w.heap.size ≤ b := a5
        omega
      · exact hoff r x ℓ b hr hx ho hl' hb a5
  · obtain ⟨a4, a5⟩ := h1.frz b hb
    refine ⟨a4, ?_⟩
    rcases a5 with a5 | a5 | a5
    · exact (h.frz b a5).2
    · exact .inr (.inl (Nat.le_trans h.size a5))
    · exact .inr (hAin b a5).2.2
  · rw [← h.nn b hb hA]
    refine hkeep b (Nat.lt_of_lt_of_le hb h.size) fun hA' => ?_
    rcases (hAin b hA').2.2 with k | k
    · omega
    · exact hA k
  · rw [hl] at hr
    by_cases hd : D r
    · rw [hμD r hd]; exact h1.far r (by rw [hl1]; exact hr)
    · rw [hμN r hd]; exact h.far r hr
  · show (if D r then μ1 r else μ r) = none
    split
    · exact a
    · exact b
end
theorem AP (s : St) (m : Mem) (l : List Nat) : val ⟨s.tmps, m, l⟩ = val s := by
  funext x
  cases x <;> rfl
theorem uF {P : Program} {o : Oper} {a : Act} {w : World} {next : Act → World → Prop} (h : o.wp P a w next (fun _ _ _ => False)) : ∃ a' w', next a' w' := by
  unfold Oper.wp at h
  generalize hq : (execOp a.eval o).run P w = r at h
  cases r with
  | ok n w' =>
    cases n <;> simp only [Oper.upon] at h <;> first
      | exact ⟨_, _, h⟩
      | exact h.elim
      | (obtain ⟨e, w2, fr, hr, _⟩ := h []
         cases e with
         | returned v => exact ⟨_, _, hr⟩
         | panicked c => exact hr.elim
         | outgrown => obtain ⟨_, _, hf⟩ := hr; exact hf.elim)
      | (obtain ⟨v, w2, hr, _⟩ := h default []
         exact ⟨_, _, hr⟩)
  | halt x w' => cases x <;> simp only [Oper.upon] at h
section
variable {B : eD} {E : Env} {w : World} {Z : Nat → Prop} {μ : aZ}
def NxtD (B : eD) (s' : St) (c n : Nat) (Z : Nat → Prop) (μ : aZ) (a' : Act) (w' : World) : Prop :=
  ∃ Z' μ', Rel B s' a' w' Z' μ' ∧ (∀ b, Z b → Z' b) ∧ bP μ μ' ∧ ∀ r, (r < c ∨ c + n ≤ r) → μ r = none → μ' r = none
theorem vk {s : St} {o : Oper} {a : Act} (hR : Rel B s a w Z μ) (hE : lv E B.g) {c : Nat} {R W : gD} (hfresh : ∀ k, k < cF E o → μ (c + k) = none) (hc : c + cF E o ≤ s.mem.roots.length) :
    (dG E (val s) (s.mem.view c R) o i6).facts ∧
    ∀ v m1, (dG E (val s) (s.mem.view c R) o i6).strip = some (v, m1) → uP s.mem.roots.length m1 W = true → m1.roots.length = s.mem.roots.length ∧ o.wp E.P a w (NxtD B (s.with o.dst v (s.mem.over m1 W)) c (cF E o) Z μ) (fun _ _ _ => False) := by
  let s0 : St := ⟨s.tmps, s.mem.view c R, s.dT⟩
  have hR0 : Rel (lh hR.mem R) s0 a w Z μ := ⟨vd hR.mem c R, hR.tm, hR.len, hR.df⟩
  have hF : jJ s0 (cF E o) μ := fun k hk => by
    have h1 := hfresh k hk
    refine ⟨h1, ?_⟩
    have hlt : c + k < (s.mem.view c R).roots.length := by rw [nh]; omega
    show (s.mem.view c R).roots[c + k]? = _
    cases hx : (s.mem.view c R).roots[c + k]? with
    | none => rw [List.getElem?_eq_none_iff] at hx; omega
    | some x =>
      by_cases hd : x = .dead
      · rw [hd]
      · obtain ⟨ℓ, h2, _⟩ := (vd hR.mem c R).rt _ x hx hd
        rw [h1] at h2; cases h2
  have hstep : ∀ {β : Type} (K : St → Res β), step E s0 o K = (dG E (val s) (s.mem.view c R) o i6).bind fun p => K (s0.with o.dst p.1 p.2) := fun K => by
    unfold step
    rw [show val s0 = val s from AP s _ _]
    exact lX E (val s) (s.mem.view c R) o fun v m => K (s0.with o.dst v m)
  constructor
  · apply Classical.byContradiction
    intro hv
    have h1 : (step E s0 o Res.ok).sat (fun _ => False) := by rw [hstep]; exact Res.oH (Res.iT hv)
    obtain ⟨a', w', _, _, _, _, hf, _⟩ := uF (pH hR0 hE (Nat.le_refl _) hF h1)
    exact hf
  · intro v m1 hv hok
    obtain ⟨k, hk, ht⟩ := rn E (val s) (fun g => rfl) (s.mem.view c R) o v m1 hv
    have hl1 : m1.roots.length = s.mem.roots.length := by rw [ht.len, nh]
    refine ⟨hl1, ?_⟩
    have h1 : (step E s0 o Res.ok).sat (fun s' => s' = s0.with o.dst v m1) := by rw [hstep]; exact Res.oH (Res.bA hv rfl)
    refine Oper.wp_mono ?_ (pH hR0 hE (Nat.le_refl _) hF h1)
    rintro a' w' ⟨st', Z', μ1, hR', rfl, _, _, hout, hz, he⟩
    have hm1 : az (lh hR.mem R) m1 w' Z' μ1 := by
      have := hR'.mem
      cases hd : o.dst with
      | none => rw [hd] at this; exact this
      | some d => rw [hd] at this; exact this
    have hnew : ∀ r, (c ≤ r ∧ r < c + cF E o) → s.mem.roots[r]? = some .dead := fun r hr => by
      have h2 := hfresh (r - c) (by omega)
      rw [show c + (r - c) = r from by omega] at h2
      cases hx : s.mem.roots[r]? with
      | none => rw [List.getElem?_eq_none_iff] at hx; omega
      | some x =>
        by_cases hd : x = .dead
        · rw [hd]
        · obtain ⟨ℓ, h3, _⟩ := hR.mem.rt r x hx hd
          rw [h2] at h3; cases h3
    obtain ⟨μ2, g1, g2, g3, g4⟩ := unmask (mf := s.mem.over m1 W) hR.mem hm1 he hz (fun r => W.has r ∨ R.has r ∨ (c ≤ r ∧ r < c + cF E o)) (fun r hr => by
        by_cases hW : W.has r
        · exact .inl ((oA hl1.symm W r).1 hW)
        · rw [(oA hl1.symm W r).2 hW]
          by_cases hn : c ≤ r ∧ r < c + cF E o
          · exact .inr (hnew r hn)
          · have hRr : R.has r := by rcases hr with h | h | h; exact absurd h hW; exact h; exact absurd h hn
            left
            by_cases hlt : r < s.mem.roots.length
            case neg =>
              rw [List.getElem?_eq_none (by omega), List.getElem?_eq_none (by omega)]
            have hbit : m1.dR.testBit r = false := by
              cases W with
              | none => exact absurd trivial hW
              | some l =>
                cases hb : m1.dR.testBit r with
                | false => rfl
                | true =>
                  simp only [uP, List.all_eq_true, List.mem_range] at hok
                  have := hok r hlt
                  rw [hb] at this
                  simp at this
                  exact absurd (by simpa [gD.has] using this) hW
            rw [ht.same r (by show r < c ∨ c + k ≤ r; omega) hbit, (ny s.mem c R r).1 hRr]) (fun r hr => by
        have hW : ¬ W.has r := fun h => hr (.inl h)
        exact ⟨(oA hl1.symm W r).2 hW, fun h => hr (.inr (.inl h))⟩) (qw hl1.symm W) hl1 (fun r hr hn => hout r (by show r < c ∨ c + cF E o ≤ r; omega) hn)
    have hR2 : Rel B ⟨s.tmps, s.mem.over m1 W, s.dT⟩ a w Z μ → True := fun _ => trivial
    refine ⟨Z', μ2, ⟨?_, ?_, ?_, hR'.df⟩, hz, g3, fun r hr hn => g4 r (hout r hr hn) hn⟩
    · cases hd : o.dst with
      | none => exact g1
      | some d => exact g1
    · intro i x hx
      have hx' : (s0.with o.dst v m1).tmps[i]? = some x := by
        cases hd : o.dst with
        | none => rw [hd] at hx; exact hx
        | some d => rw [hd] at hx; exact hx
      exact (hR'.tm i x hx').mono (aj.refl _ _) (fun _ h => h) g2
    · have := hR'.len
      cases hd : o.dst with
      | none => rw [hd] at this; exact this
      | some d => rw [hd] at this; exact this
end
end Go.Mach
namespace Go.Mach
abbrev Ent := Option (AV × gD × gD × Mem)
namespace Ent
def val : Ent → AV
  | none => .tup []
  | some e => e.1
def rd : Ent → gD
  | none => some []
  | some e => e.2.1
def wr : Ent → gD
  | none => some []
  | some e => e.2.2.1
def put (e : Ent) (o : Oper) (s : St) : St :=
  match e with
  | none => s.put o.dst (.tup [])
  | some (v, _, W, m1) => s.with o.dst v (s.mem.over m1 W)
def fits (e : Ent) (N : Nat) : Prop := ∀ v R W m1, e = some (v, R, W, m1) → m1.roots.length = N
def root (e : Ent) (r : Nat) : Option bk :=
  match e with
  | none => none
  | some (_, _, _, m1) => m1.roots[r]?
theorem kS (e : Ent) (o : Oper) (s : St) : (e.put o s).tmps = (match o.dst with | some d => s.tmps.set d e.val | none => s.tmps) := by
  cases e with
  | none => cases h : o.dst <;> simp [put, St.put, h, val]
  | some e => cases h : o.dst <;> simp [put, St.with, St.put, h, val]
theorem xH (e : Ent) (o : Oper) (s : St) : (e.put o s).dT = s.dT := by
  cases e with
  | none => cases h : o.dst <;> simp [put, St.put, h]
  | some e => cases h : o.dst <;> simp [put, St.with, St.put, h]
theorem js {e : Ent} {N : Nat} (hf : e.fits N) (o : Oper) {s : St} (hs : s.mem.roots.length = N) : (e.put o s).mem.roots.length = N ∧ ∀ r, (e.wr.has r → (e.put o s).mem.roots[r]? = e.root r) ∧ (¬ e.wr.has r → (e.put o s).mem.roots[r]? = s.mem.roots[r]?) := by
  cases e with
  | none =>
    have : (put none o s).mem = s.mem := by cases h : o.dst <;> simp [put, St.put, h]
    rw [this]
    exact ⟨hs, fun r => ⟨fun h => by simp [wr, gD.has] at h, fun _ => rfl⟩⟩
  | some e =>
    obtain ⟨v, R, W, m1⟩ := e
    have : (put (some (v, R, W, m1)) o s).mem = s.mem.over m1 W := by cases h : o.dst <;> simp [put, St.with, St.put, h]
    rw [this]
    have hl : s.mem.roots.length = m1.roots.length := by rw [hs, hf v R W m1 rfl]
    exact ⟨(qw hl W).trans hs, fun r => oA hl W r⟩
end Ent
def stS : List (Oper × Ent) → (Nat → Bool) → Nat → St → St
  | [], _, _, s => s
  | (o, e) :: L, S, i, s => stS L S (i + 1) (match S i with
    | true => e.put o s
    | false => s)
theorem lf (L1 L2 : List (Oper × Ent)) (S : Nat → Bool) : ∀ (i : Nat) (s : St), stS (L1 ++ L2) S i s = stS L2 S (i + L1.length) (stS L1 S i s) := by
  induction L1 with
  | nil => intro i s; rfl
  | cons p L1 ih =>
    intro i s
    obtain ⟨o, e⟩ := p
    simp only [List.cons_append, stS, ih, List.length_cons]
    congr 1
    omega
theorem lV (L : List (Oper × Ent)) : ∀ (S : Nat → Bool) (i : Nat) (s : St), (∀ k, k < L.length → S (i + k) = false) → stS L S i s = s := by
  induction L with
  | nil => intro _ _ _ _; rfl
  | cons p L ih =>
    intro S i s h
    obtain ⟨o, e⟩ := p
    have h0 := h 0 (by simp)
    rw [Nat.add_zero] at h0
    simp only [stS, h0]
    exact ih S (i + 1) s fun k hk => by have := h (k + 1) (by simpa using hk); rwa [show i + 1 + k = i + (k + 1) from by omega]
theorem pb (d : Nat) : ∀ (L : List (Oper × Ent)) (S S' : Nat → Bool) (i : Nat) (s s' : St), s.tmps[d]? = s'.tmps[d]? → s.tmps.length = s'.tmps.length →
    (∀ k (h : k < L.length), L[k].1.dst = some d → S (i + k) = S' (i + k)) → (stS L S i s).tmps[d]? = (stS L S' i s').tmps[d]? ∧ (stS L S i s).tmps.length = (stS L S' i s').tmps.length
  | [], _, _, _, _, _, h, hl, _ => ⟨h, hl⟩
  | (o, e) :: L, S, S', i, s, s', h, hl, hk => by
    simp only [stS]
    have hlen : ∀ (b : Bool) (s : St), (match b with | true => e.put o s | false => s).tmps.length = s.tmps.length := by
      intro b s
      cases b
      · rfl
      · rw [Ent.kS]; cases o.dst <;> simp
    refine pb d L S S' (i + 1) _ _ ?_ (by rw [hlen, hlen]; exact hl) fun k hk' hd => by
      have := hk (k + 1) (by simpa using hk') hd
      rwa [show i + 1 + k = i + (k + 1) from by omega]
    by_cases hd : o.dst = some d
    · have h0 := hk 0 (by simp) hd
      rw [Nat.add_zero] at h0
      rw [h0]
      cases S' i with
      | false => exact h
      | true =>
        simp only [Ent.kS, hd, List.getElem?_set_self', h]
    · have : ∀ (b : Bool) (s : St), (match b with | true => e.put o s | false => s).tmps[d]? = s.tmps[d]? := by
        intro b s
        cases b
        · rfl
        · rw [Ent.kS]
          cases ho : o.dst with
          | none => rfl
          | some d' =>
            have hne : d' ≠ d := by rintro rfl; exact hd ho
            simp only
            rw [List.getElem?_set_ne hne]
      rw [this, this]; exact h
theorem nx {N : Nat} (r : Nat) : ∀ (L : List (Oper × Ent)) (S S' : Nat → Bool) (i : Nat) (s s' : St), (∀ p ∈ L, p.2.fits N) → s.mem.roots[r]? = s'.mem.roots[r]? → s.mem.roots.length = N → s'.mem.roots.length = N →
    (∀ k (h : k < L.length), L[k].2.wr.has r → S (i + k) = S' (i + k)) → (stS L S i s).mem.roots[r]? = (stS L S' i s').mem.roots[r]? ∧ (stS L S i s).mem.roots.length = N
  | [], _, _, _, _, _, _, h, hl, _, _ => ⟨h, hl⟩
  | (o, e) :: L, S, S', i, s, s', hf, h, hl, hl', hk => by
    simp only [stS]
    have hfe := hf (o, e) List.mem_cons_self
    have hlen : ∀ (b : Bool) (s : St), s.mem.roots.length = N → (match b with | true => e.put o s | false => s).mem.roots.length = N := by
      intro b s hs
      cases b
      · exact hs
      · exact (Ent.js hfe o hs).1
    refine nx r L S S' (i + 1) _ _ (fun p hp => hf p (List.mem_cons_of_mem _ hp)) ?_ (hlen _ _ hl) (hlen _ _ hl') fun k hk' hd => by
      have := hk (k + 1) (by simpa using hk') hd
      rwa [show i + 1 + k = i + (k + 1) from by omega]
    by_cases hd : e.wr.has r
    · have h0 := hk 0 (by simp) hd
      rw [Nat.add_zero] at h0
      rw [h0]
      cases S' i with
      | false => exact h
      | true => simp only; rw [((Ent.js hfe o hl).2 r).1 hd, ((Ent.js hfe o hl').2 r).1 hd]
    · have : ∀ (b : Bool) (s : St), s.mem.roots.length = N → (match b with | true => e.put o s | false => s).mem.roots[r]? = s.mem.roots[r]? := by
        intro b s hs
        cases b
        · rfl
        · exact ((Ent.js hfe o hs).2 r).2 hd
      rw [this _ _ hl, this _ _ hl']; exact h
theorem om {N : Nat} {L : List (Oper × Ent)} {S : Nat → Bool} {i : Nat} {s : St} (hf : ∀ p ∈ L, p.2.fits N) (hl : s.mem.roots.length = N) : (stS L S i s).mem.roots.length = N :=
  (nx 0 L S S i s s hf rfl hl hl fun _ _ _ => rfl).2
theorem zb {L : List (Oper × Ent)} {S S' : Nat → Bool} {i : Nat} {s : St} : (stS L S i s).tmps.length = (stS L S' i s).tmps.length := by
  have h1 : ∀ (L : List (Oper × Ent)) (S : Nat → Bool) (i : Nat) (s : St), (stS L S i s).tmps.length = s.tmps.length := by
    intro L
    induction L with
    | nil => intro _ _ _; rfl
    | cons p L ih =>
      intro S i s
      obtain ⟨o, e⟩ := p
      simp only [stS]
      rw [ih]
      cases S i
      · rfl
      · simp only [Ent.kS]; cases o.dst <;> simp
  rw [h1, h1]
def Alike (s s' : St) : Prop := s.tmps = s'.tmps ∧ s.mem.roots = s'.mem.roots
theorem Rel.alike {B : eD} {s s' : St} {a : Act} {w : World} {Z : Nat → Prop} {μ : aZ} (h : Rel B s a w Z μ) (he : Alike s s') : Rel B s' a w Z μ :=
  ⟨h.mem.congr he.2.symm, fun i x hx => h.tm i x (he.1 ▸ hx), he.1 ▸ h.len, h.df⟩
section
variable {ops : Array Oper} {A : List Nat}
theorem td {A : List Nat} {o : Oper} {i : Nat} (h : (yF A o).testBit i = true) : ∃ e ∈ o.after.toList, Region.binds .any e = true ∧ (i = e.on ∨ ((A[e.on]?).getD 0).testBit i = true) := by
  unfold yF at h
  have : ∀ (l : List Edge) (s : Nat), (l.foldl (fun s e => match Region.binds .any e with | true => s ||| 2 ^ e.on ||| (A[e.on]?).getD 0 | false => s) s).testBit i = true →
      s.testBit i = true ∨ ∃ e ∈ l, Region.binds .any e = true ∧ (i = e.on ∨ ((A[e.on]?).getD 0).testBit i = true) := by
    intro l
    induction l with
    | nil => intro s h; exact .inl h
    | cons e l ih =>
      intro s h
      rw [List.foldl_cons] at h
      rcases ih _ h with h | ⟨e', h1, h2⟩
      · cases hb : Region.binds .any e with
        | false => rw [hb] at h; exact .inl h
        | true =>
          rw [hb] at h
          simp only [Nat.testBit_or, Bool.or_eq_true, Nat.testBit_two_pow, decide_eq_true_eq] at h
          rcases h with (h | h) | h
          · exact .inl h
          · exact .inr ⟨e, List.mem_cons_self, hb, .inl h.symm⟩
          · exact .inr ⟨e, List.mem_cons_self, hb, .inr h⟩
      · exact .inr ⟨e', List.mem_cons_of_mem _ h1, h2⟩
  rcases this _ _ h with h | h
  · simp at h
  · exact h
theorem xU (hA : qD ops A = true) {i j : Nat} (h : ahead A i j = true) : ∃ o, ops.toList[j]? = some o → ∃ e ∈ o.after.toList, Region.binds .any e = true ∧ (i = e.on ∨ ahead A i e.on = true) := by
  cases ho : ops.toList[j]? with
  | none => exact ⟨default, fun h => by cases h⟩
  | some o =>
    refine ⟨o, fun _ => ?_⟩
    unfold ahead at h
    cases ha : A[j]? with
    | none => rw [ha] at h; simp at h
    | some x =>
      rw [ha] at h
      simp only [Option.getD_some] at h
      have hz : (ops.toList.zip A)[j]? = some (o, x) := by rw [List.getElem?_zip_eq_some]; exact ⟨ho, ha⟩
      have := List.all_eq_true.1 hA (o, x) (List.mem_of_getElem? hz)
      simp only [beq_iff_eq] at this
      rw [this] at h
      exact td h
def sM (ops : Array Oper) (S : Nat → Bool) : Prop := ∀ j o, ops.toList[j]? = some o → S j = true → ∀ e ∈ o.after.toList, Region.binds .any e = true → S e.on = true
theorem nA (hA : qD ops A = true) (he : lP ops = true) {S : Nat → Bool} (hS : sM ops S) : ∀ (j : Nat) {i : Nat} {o : Oper}, ops.toList[j]? = some o → (∀ e ∈ o.after.toList, Region.binds .any e = true → S e.on = true) → ahead A i j = true → S i = true ∧ i < j := by
  intro j
  induction j using Nat.strongRecOn with
  | _ j ih =>
    intro i o ho hall h
    obtain ⟨o', h'⟩ := xU hA h
    unfold ahead at h
    have ho' : ops.toList[j]? = some o' → o' = o := fun h => by rw [ho] at h; cases h; rfl
    have hz : ∃ e ∈ o.after.toList, Region.binds .any e = true ∧ (i = e.on ∨ ahead A i e.on = true) := by
      cases ha : A[j]? with
      | none => rw [ha] at h; simp at h
      | some x =>
        rw [ha] at h
        simp only [Option.getD_some] at h
        have hz : (ops.toList.zip A)[j]? = some (o, x) := by rw [List.getElem?_zip_eq_some]; exact ⟨ho, ha⟩
        have := List.all_eq_true.1 hA (o, x) (List.mem_of_getElem? hz)
        simp only [beq_iff_eq] at this
        rw [this] at h
        exact td h
    obtain ⟨e, e1, e2, e3⟩ := hz
    have hlt : e.on < j := by
      have hm : (o, j) ∈ ops.toList.zipIdx := by
        rw [List.mem_zipIdx_iff_getElem?]; exact ho
      have h1 := List.all_eq_true.1 he (o, j) hm
      have h2 := List.all_eq_true.1 h1 e e1
      simp only [e2, Bool.not_true, Bool.false_or, decide_eq_true_eq] at h2
      exact h2
    have hSe := hall e e1 e2
    rcases e3 with e3 | e3
    · subst e3; exact ⟨hSe, hlt⟩
    · have hlen : j < ops.toList.length := (List.getElem?_eq_some_iff.1 ho).1
      have hoe : ops.toList[e.on]? = some ops.toList[e.on] := List.getElem?_eq_getElem (by omega)
      obtain ⟨k1, k2⟩ := ih e.on hlt hoe (fun e' he' hb => hS e.on _ hoe hSe e' he' hb) e3
      exact ⟨k1, by omega⟩
end
end Go.Mach
namespace Go.Mach
def cAt (E : Env) (ops : Array Oper) (c0 i : Nat) : Nat := c0 + ct E (ops.toList.take i)
theorem vD (E : Env) (l : List Oper) (o : Oper) : ct E (l ++ [o]) = ct E l + cF E o := by simp [ct]
theorem xX (E : Env) (l l' : List Oper) : ct E l ≤ ct E (l ++ l') := by
  unfold ct
  rw [List.foldl_append]
  have : ∀ (l : List Oper) (n : Nat), n ≤ l.foldl (fun n o => n + cF E o) n := by
    intro l
    induction l with
    | nil => intro n; exact Nat.le_refl n
    | cons o l ih => intro n; exact Nat.le_trans (Nat.le_add_right _ _) (ih _)
  exact this _ _
theorem v7 {E : Env} {ops : Array Oper} {c0 i : Nat} {o : Oper} (h : ops.toList[i]? = some o) : cAt E ops c0 (i + 1) = cAt E ops c0 i + cF E o := by
  unfold cAt
  rw [List.take_succ, h]
  simp only [Option.toList_some]
  rw [vD, Nat.add_assoc]
theorem sT {E : Env} {ops : Array Oper} {c0 i j : Nat} (h : i ≤ j) : cAt E ops c0 i ≤ cAt E ops c0 j := by
  unfold cAt
  have : ops.toList.take j = ops.toList.take i ++ (ops.toList.take j).drop i := by
    conv => lhs; rw [← List.take_append_drop i (ops.toList.take j)]
    rw [List.take_take, Nat.min_eq_left h]
  rw [this]
  have := xX E (ops.toList.take i) ((ops.toList.take j).drop i)
  omega
def sAt (ops : Array Oper) (es : List Ent) (s0 : St) (i : Nat) : St := stS (ops.toList.zip es) (fun j => decide (j < i)) 0 s0
def gD.sv (R W : gD) : Prop := R = some [] ∧ W = some []
def zY (E : Env) (ops : Array Oper) (c0 : Nat) (s : St) (o : Oper) (i : Nat) : Ent → Prop
  | none => lM ops s o = some false
  | some (v, R, W, m1) => lM ops s o = some true ∧ (dG E (val s) (s.mem.view (cAt E ops c0 i) R) o i6).strip = some (v, m1) ∧ uP s.mem.roots.length m1 W = true ∧ m1.roots.length = s.mem.roots.length ∧
      (rW ops o.dst = true → ∃ b, v = .c (.bool b))
structure qX (E : Env) (ops : Array Oper) (A : List Nat) (s0 : St) (c0 : Nat) (es : List Ent) : Prop where
  len : es.length ≤ ops.toList.length
  at_ : ∀ i (hi : i < es.length) (ho : i < ops.toList.length), zY E ops c0 (sAt ops es s0 i) ops.toList[i] i es[i]
  log : ∀ j i (hj : j < es.length) (hi : i < es.length), j < i → ¬ gD.sv es[i].rd es[i].wr → ¬ gD.sv es[j].rd es[j].wr →
    ((es[j].wr.off es[i].rd && (es[i].wr.off es[j].rd && es[i].wr.off es[j].wr)) || ahead A j i) = true
section
variable {E : Env} {ops : Array Oper} {A : List Nat} {s0 : St} {c0 : Nat} {es : List Ent}
theorem wB {es : List Ent} {e : Ent} {o : Oper} (h : ops.toList[es.length]? = some o) : ops.toList.zip (es ++ [e]) = ops.toList.zip es ++ [(o, e)] := by
  have hlt := (List.getElem?_eq_some_iff.1 h).1
  have hsz : ops.toList.length = ops.size := by simp
  apply List.ext_getElem?
  intro k
  rw [List.getElem?_append]
  simp only [List.length_zip, Nat.min_eq_right (Nat.le_of_lt hlt)]
  by_cases h1 : k < es.length
  · rw [if_pos h1]
    have h2 : k < ops.toList.length := by omega
    rw [List.getElem?_eq_getElem (by simp; omega), List.getElem?_eq_getElem (by simp; omega)]
    simp [List.getElem_zip, List.getElem_append_left h1]
  · rw [if_neg h1]
    by_cases h2 : k = es.length
    · subst h2
      rw [Nat.sub_self]
      rw [List.getElem?_eq_getElem (by simp; omega)]
      have := (List.getElem?_eq_some_iff.1 h).2
      simp [List.getElem_zip, this]
    · rw [List.getElem?_eq_none (by simp; omega), List.getElem?_eq_none (by simp; omega)]
theorem AX {e : Ent} {o : Oper} (h : ops.toList[es.length]? = some o) {i : Nat} (hi : i ≤ es.length) : sAt ops (es ++ [e]) s0 i = sAt ops es s0 i := by
  unfold sAt
  rw [wB h, lf]
  refine lV _ _ _ _ fun k hk => ?_
  have h1 : k = 0 := by simpa using hk
  have hlt := (List.getElem?_eq_some_iff.1 h).1
  simp only [List.length_zip, Nat.min_eq_right (Nat.le_of_lt hlt), decide_eq_false_iff_not]
  omega
theorem mS : ∀ (L : List (Oper × Ent)) (S S' : Nat → Bool) (i : Nat) (s : St), (∀ k, k < L.length → S (i + k) = S' (i + k)) → stS L S i s = stS L S' i s
  | [], _, _, _, _, _ => rfl
  | (o, e) :: L, S, S', i, s, h => by
    have h0 := h 0 (by simp)
    rw [Nat.add_zero] at h0
    simp only [stS, h0]
    exact mS L S S' (i + 1) _ fun k hk => by have := h (k + 1) (by simpa using hk); rwa [show i + 1 + k = i + (k + 1) from by omega]
theorem vm {e : Ent} {o : Oper} (h : ops.toList[es.length]? = some o) : sAt ops (es ++ [e]) s0 (es.length + 1) = e.put o (sAt ops es s0 es.length) := by
  have hlt := (List.getElem?_eq_some_iff.1 h).1
  unfold sAt
  rw [wB h, lf]
  simp only [List.length_zip, Nat.min_eq_right (Nat.le_of_lt hlt), stS, Nat.zero_add]
  rw [show (decide (es.length < es.length + 1)) = true from by simp]
  simp only
  congr 1
  exact mS _ _ _ _ _ fun k hk => by simp at hk ⊢; omega
theorem qX.fits {N : Nat} (h : qX E ops A s0 c0 es) (hN : s0.mem.roots.length = N) : ∀ p ∈ ops.toList.zip es, p.2.fits N := by
  have key : ∀ n, n ≤ es.length → ∀ i (hi : i < es.length), i < n → es[i].fits N := by
    intro n
    induction n with
    | zero => intro _ i _ h; omega
    | succ n ih =>
      intro hn i hi hin
      by_cases hlt : i < n
      · exact ih (by omega) i hi hlt
      · have : i = n := by omega
        subst this
        intro v R W m1 he
        have ho : i < ops.toList.length := Nat.lt_of_lt_of_le hi h.len
        have h1 := h.at_ i hi ho
        rw [he] at h1
        rw [h1.2.2.2.1]
        have h2 : sAt ops es s0 i = stS (ops.toList.zip (es.take i)) (fun j => decide (j < i)) 0 s0 := by
          unfold sAt
          have hz : ops.toList.zip es = ops.toList.zip (es.take i) ++ (ops.toList.drop i).zip (es.drop i) := by
            have : (ops.toList.zip (es.take i)) = (ops.toList.take i).zip (es.take i) := by
              have hsz : ops.toList.length = ops.size := by simp
              apply List.ext_getElem (by simp; omega)
              intro k k1 k2
              simp [List.getElem_zip]
            rw [this, ← List.zip_append (by rw [List.length_take, List.length_take]; omega), List.take_append_drop, List.take_append_drop]
          rw [hz, lf]
          refine lV _ _ _ _ fun k hk => ?_
          simp only [List.length_zip, List.length_take, decide_eq_false_iff_not]
          omega
        rw [h2]
        refine om (N := N) (fun p hp => ?_) hN
        obtain ⟨k, hk, rfl⟩ := List.getElem_of_mem hp
        simp only [List.length_zip, List.length_take] at hk
        simp only [List.getElem_zip, List.getElem_take]
        exact ih (by omega) k (by omega) (by omega)
  intro p hp
  obtain ⟨k, hk, rfl⟩ := List.getElem_of_mem hp
  simp only [List.length_zip] at hk
  simp only [List.getElem_zip]
  exact key es.length (Nat.le_refl _) k (by omega) (by omega)
theorem qX.snoc {e : Ent} {o : Oper} (h : qX E ops A s0 c0 es) (ho : ops.toList[es.length]? = some o) (he : zY E ops c0 (sAt ops es s0 es.length) o es.length e)
    (hlog : ∀ j (hj : j < es.length), ¬ gD.sv e.rd e.wr → ¬ gD.sv es[j].rd es[j].wr → ((es[j].wr.off e.rd && (e.wr.off es[j].rd && e.wr.off es[j].wr)) || ahead A j es.length) = true) : qX E ops A s0 c0 (es ++ [e]) := by
  obtain ⟨hlt, hoe⟩ := List.getElem?_eq_some_iff.1 ho
  refine ⟨by rw [List.length_append, List.length_singleton]; omega, fun i hi ho' => ?_, fun j i hj hi hji h1 h2 => ?_⟩
  · rw [AX ho (by simp at hi; omega)]
    by_cases hil : i < es.length
    · rw [List.getElem_append_left hil]; exact h.at_ i hil ho'
    · have : i = es.length := by simp at hi; omega
      subst this
      rw [List.getElem_append_right (Nat.le_refl _)]
      simp only [Nat.sub_self, List.getElem_cons_zero]
      rw [hoe]; exact he
  · have hjl : j < es.length := by simp at hi; omega
    rw [List.getElem_append_left hjl] at h2 ⊢
    by_cases hil : i < es.length
    · rw [List.getElem_append_left hil] at h1 ⊢
      exact h.log j i hjl hil hji h1 h2
    · have : i = es.length := by simp at hi; omega
      subst this
      rw [List.getElem_append_right (Nat.le_refl _)] at h1 ⊢
      simp only [Nat.sub_self, List.getElem_cons_zero] at h1 ⊢
      exact hlog j hjl h1 h2
variable {β : Type} {Ψ : β → Prop} {K : St → Res β} {B : eD}
theorem qK {ops : Array Oper} {dst : Option Tmp} {st : St} (h : (mw ops dst st K).sat Ψ) : (K st).sat Ψ ∧ (rW ops dst = true → ∃ d b, dst = some d ∧ st.get d = .c (.bool b)) := by
  unfold mw at h
  split at h
  · rename_i hg
    unfold wi at h
    cases dst with
    | none => simp [rW] at hg
    | some d =>
      simp only at h
      split at h
      · rename_i b hb
        have hput : st.put (some d) (.c (.bool b)) = st := by
          have : st.tmps[d]? = some (.c (.bool b)) := by
            unfold St.get at hb
            cases hx : st.tmps[d]? with
            | none => rw [hx] at hb; cases hb
            | some x => rw [hx] at hb; rw [show x = _ from hb]
          obtain ⟨hd, he⟩ := List.getElem?_eq_some_iff.1 this
          show (⟨st.tmps.set d (.c (.bool b)), st.mem, st.dT⟩ : St) = st
          have : st.tmps.set d (.c (.bool b)) = st.tmps := by rw [← he, List.set_getElem_self]
          rw [this]
        rcases wo h with ⟨rfl, h⟩ | ⟨rfl, h⟩ <;> rw [hput] at h <;> exact ⟨h, fun _ => ⟨d, _, rfl, hb⟩⟩
      · exact h.elim
  · rename_i hg
    exact ⟨h, fun h' => by rw [h'] at hg; cases hg⟩
theorem St.A7 {st : St} {d : Nat} {v : AV} {m : Mem} (h : (∃ b, (st.with (some d) v m).get d = .c (.bool b))) : ∃ b, v = .c (.bool b) := by
  obtain ⟨b, hb⟩ := h
  simp only [St.get, St.with, St.put] at hb
  rw [List.getElem?_set_self'] at hb
  cases hx : st.tmps[d]? with
  | none => rw [hx] at hb; cases hb
  | some x => rw [hx] at hb; exact ⟨b, hb⟩
theorem mC (hdr : E.dr = true) (hE : lv E B.g) (hN : c0 + ct E ops.toList ≤ s0.mem.roots.length) : ∀ (rest : List Oper) (es : List Ent) (l : Log) {a : Act} {w : World} {Z : Nat → Prop} {μ : aZ},
    rest = ops.toList.drop es.length → qX E ops A s0 c0 es → Rel B (sAt ops es s0 es.length) a w Z μ → (∀ r, cAt E ops c0 es.length ≤ r → r < c0 + ct E ops.toList → μ r = none) →
    (∀ j (hj : j < es.length), ¬ gD.sv es[j].rd es[j].wr → (j, es[j].rd, es[j].wr) ∈ l) →
    (jQ E ops A rest es.length (cAt E ops c0 es.length) l (sAt ops es s0 es.length) K).sat Ψ →
    ∃ es', qX E ops A s0 c0 es' ∧ es'.length = ops.toList.length ∧ (K ⟨(sAt ops es' s0 es'.length).tmps, (sAt ops es' s0 es'.length).mem.at (cAt E ops c0 es'.length), (sAt ops es' s0 es'.length).dT⟩).sat Ψ
  | [], es, l, a, w, Z, μ, hrest, hT, hR, hfree, hlog, h => by
    have : es.length = ops.toList.length := by
      have h1 := congrArg List.length hrest
      simp only [List.length_nil, List.length_drop] at h1
      have := hT.len
      omega
    exact ⟨es, hT, this, h⟩
  | o :: rest, es, l, a, w, Z, μ, hrest, hT, hR, hfree, hlog, h => by
    have ho : ops.toList[es.length]? = some o := by
      have h1 := congrArg (fun l : List Oper => l[0]?) hrest
      simpa using h1.symm
    have hrest' : ∀ e : Ent, rest = ops.toList.drop (es ++ [e]).length := fun e => by
      have h1 := congrArg List.tail hrest
      simpa using h1
    have hlt := (List.getElem?_eq_some_iff.1 ho).1
    have hc1 := v7 (E := E) (c0 := c0) ho
    have hcall : cAt E ops c0 (es.length + 1) ≤ c0 + ct E ops.toList := by
      have := sT (E := E) (ops := ops) (c0 := c0) (i := es.length + 1) (j := ops.toList.length) (by omega)
      unfold cAt at this ⊢
      rw [List.take_length] at this
      exact this
    have hslen : (sAt ops es s0 es.length).mem.roots.length = s0.mem.roots.length := om (hT.fits rfl) rfl
    simp only [jQ] at h
    split at h
    · rename_i hw
      rw [hdr] at h
      simp only at h
      split at h
      case h_2 => exact h.elim
      rename_i hfits
      generalize hfoot : foot E ⟨(sAt ops es s0 es.length).tmps, (sAt ops es s0 es.length).mem.at (cAt E ops c0 es.length), (sAt ops es s0 es.length).dT⟩ o = f at h hfits
      obtain ⟨R, W⟩ := f
      rw [lX] at h
      obtain ⟨hop1, hop2⟩ := vk (E := E) (o := o) (c := cAt E ops c0 es.length) (R := R) (W := W) hR hE (fun k hk => hfree _ (by omega) (by omega)) (by omega)
      generalize hsv : dG E (val (sAt ops es s0 es.length)) ((sAt ops es s0 es.length).mem.view (cAt E ops c0 es.length) R) o i6 = r at h hop1 hop2
      obtain ⟨⟨v, m1⟩, hp, h⟩ := Res.oY (j8 h) hop1
      simp only at h
      split at h
      case h_2 => exact h.elim
      rename_i hok
      obtain ⟨h, hg⟩ := qK h
      obtain ⟨hl1, hwp⟩ := hop2 v m1 hp hok
      obtain ⟨a', w', Z', μ', hR', hzz, hext, hout⟩ := uF hwp
      have hEnt : zY E ops c0 (sAt ops es s0 es.length) o es.length (some (v, R, W, m1)) := ⟨hw, hsv ▸ hp, hok, hl1, fun hgd => by
        obtain ⟨d, b, hd, hb⟩ := hg hgd
        rw [hd] at hb
        exact St.A7 ⟨b, hb⟩⟩
      have hput : Ent.put (some (v, R, W, m1)) o (sAt ops es s0 es.length) = (sAt ops es s0 es.length).with o.dst v ((sAt ops es s0 es.length).mem.over m1 W) := rfl
      have hT' := hT.snoc (e := some (v, R, W, m1)) ho hEnt fun j hj hn1 hn2 => by
        have hm := hlog j hj hn2
        have hn1 : ¬ (R = some [] ∧ W = some []) := hn1
        unfold xi at hfits
        split at hfits
        · rename_i heq
          cases heq
          exact absurd ⟨rfl, rfl⟩ hn1
        · have := List.all_eq_true.1 hfits _ hm
          exact this
      have hsnoc := vm (s0 := s0) (e := some (v, R, W, m1)) ho
      rw [← hput, ← hsnoc, ← hc1] at h
      have hlen' : (es ++ [some (v, R, W, m1)]).length = es.length + 1 := by simp
      rw [← hlen'] at h hc1
      refine mC hdr hE hN rest (es ++ [some (v, R, W, m1)]) _ (hrest' _) hT' (by rw [hlen', hsnoc, hput]; exact hR') (fun r h1 h2 => hout r (by omega) (hfree r (by omega) h2)) (fun j hj hn => ?_) h
      by_cases hjl : j < es.length
      · rw [List.getElem_append_left hjl] at hn ⊢
        have := hlog j hjl hn
        unfold wj
        split
        · exact this
        · exact List.mem_cons_of_mem _ this
      · have hje : j = es.length := by simp at hj; omega
        subst hje
        rw [List.getElem_append_right (Nat.le_refl _)] at hn ⊢
        simp only [Nat.sub_self, List.getElem_cons_zero] at hn ⊢
        have hn : ¬ (R = some [] ∧ W = some []) := hn
        unfold wj
        split
        · rename_i heq; cases heq; exact absurd ⟨rfl, rfl⟩ hn
        · exact List.mem_cons_self
    · rename_i hw
      have hT' := hT.snoc (e := none) ho hw fun j hj hn1 => absurd ⟨rfl, rfl⟩ hn1
      have hsnoc := vm (s0 := s0) (e := none) ho
      have hput : Ent.put none o (sAt ops es s0 es.length) = (sAt ops es s0 es.length).put o.dst (.tup []) := rfl
      rw [← hput, ← hsnoc, ← hc1] at h
      have hlen' : (es ++ [(none : Ent)]).length = es.length + 1 := by simp
      rw [← hlen'] at h hc1
      have hR' : Rel B ((sAt ops es s0 es.length).put o.dst (.tup [])) (a.put o.dst Go.undef) w Z μ := hR.pW o.dst ⟨[], rfl, rfl, fun k h => by simp at h⟩
      refine mC hdr hE hN rest (es ++ [none]) _ (hrest' _) hT' (by rw [hlen', hsnoc, hput]; exact hR') (fun r h1 h2 => hfree r (by omega) h2) (fun j hj hn => ?_) h
      by_cases hjl : j < es.length
      · rw [List.getElem_append_left hjl] at hn ⊢
        exact hlog j hjl hn
      · have hje : j = es.length := by simp at hj; omega
        subst hje
        rw [List.getElem_append_right (Nat.le_refl _)] at hn
        simp only [Nat.sub_self, List.getElem_cons_zero] at hn
        exact absurd ⟨rfl, rfl⟩ hn
    · exact h.elim
end
end Go.Mach
namespace Go.Mach
theorem Oper.xI {P : Program} {o : Oper} {a : Act} {w : World} {K : Act → World → Prop} {Q : Exit → Act → World → Prop} (hh : o.wp P a w K (fun _ _ _ => False)) : o.wp P a w K Q := by
  unfold Oper.wp at *
  generalize (execOp a.eval o).run P w = r at *
  cases r with
  | ok n w' =>
    cases n <;> simp only [Oper.upon] at hh ⊢ <;> first
      | exact hh
      | exact Calls.mono hh (fun e w'' he => by
          cases e with
          | returned v => exact he
          | panicked c => exact he.elim
          | outgrown => exact (by obtain ⟨_, _, hf⟩ := he; exact hf.elim))
  | halt x w' => cases x <;> simp only [Oper.upon] at hh ⊢
theorem Rel.drew {B : eD} {s : St} {a : Act} {w : World} {Z : Nat → Prop} {μ : aZ} (h : Rel B s a w Z μ) : Rel B s a { w with drawn := w.drawn + 1 } Z μ := by
  have hL : bX B s.mem w Z μ (fun _ => False) := ⟨fun _ h => h.elim, fun _ _ h => h.elim⟩
  have hs0 : aj Z w { w with drawn := w.drawn + 1 } := fun _ _ => rfl
  have h1 := (gX (w' := { w with drawn := w.drawn + 1 }) h.mem hL (fun _ _ _ => rfl) (Nat.le_refl _)).1
  exact ⟨h1, fun i x hx => (h.tm i x hx).mono hs0 (fun _ h => h) (bP.refl μ), h.len, h.df⟩
theorem nI {B : eD} {ops : Array Oper} {o : Oper} {s : St} {a : Act} {w : World} {Z : Nat → Prop} {μ : aZ} (h : Rel B s a w Z μ) {b : Bool} (hw : lM ops s o = some b) :
    Region.wanted o (yielded ops a.tmps) = b := by
  unfold lM at hw
  unfold Region.wanted
  cases hg : o.guard with
  | none => rw [hg] at hw; simp only [Option.some.injEq] at hw; simp [← hw]
  | some gw =>
    obtain ⟨j, want⟩ := gw
    rw [hg] at hw
    simp only at hw
    split at hw
    case h_2 => cases hw
    rename_i p hp
    split at hw
    case h_2 => cases hw
    rename_i d hd
    have hr := h.get d
    have hy : yielded ops a.tmps j = match a.tmps.getD d undef with | .bool b => some b | _ => none := by
      unfold yielded
      rw [hp]
      simp only [Option.bind_some, hd]
      rw [Array.getD_eq_getD_getElem?]
      cases hx : a.tmps[d]? with
      | none => rfl
      | some v => cases v <;> rfl
    simp only [hy]
    split at hw
    · rename_i t ht
      rw [ht] at hr
      have hr : a.tmps.getD d undef = .bool t := hr
      rw [hr]
      simp only [Option.some.injEq] at hw
      rw [← hw]
      cases t <;> cases want <;> rfl
    · rename_i l ht
      rw [ht] at hr
      obtain ⟨vs, hr, _⟩ := hr
      rw [hr]
      simp only [Option.some.injEq] at hw
      rw [← hw]
      cases want <;> rfl
    · cases hw
section
variable {E : Env} {ops : Array Oper} {A : List Nat} {s0 : St} {c0 : Nat} {es : List Ent}
structure Apart (ops : Array Oper) (o p : Oper) (e f : Ent) : Prop where
  slot : ∀ d, p.dst = some d → d ∉ o.looksAt ops ∧ o.dst ≠ some d
  root : ∀ r, f.wr.has r → ¬ e.rd.has r ∧ ¬ e.wr.has r
theorem gD.pU {a b : gD} (h : a.off b = true) {r : Nat} (ha : a.has r) : ¬ b.has r := by
  unfold gD.off at h
  split at h
  · intro hb
    have h1 := List.all_eq_true.1 h r (by simpa [gD.has] using ha)
    have hb : List.contains _ r = true := hb
    rw [hb] at h1
    cases h1
  · simp [gD.has] at ha
  · intro hb; simp [gD.has] at hb
  · cases h
theorem ra (hT : qX E ops A s0 c0 es) (hes : es.length = ops.toList.length) (he : lP ops = true) (hA : qD ops A = true) (hs : lY ops A = true) {S : Nat → Bool} (hS : sM ops S) {i j : Nat} (hi : i < ops.toList.length) (hj : j < ops.toList.length)
    (hSi : S i = false) (hready : ∀ e ∈ ops.toList[i].after.toList, Region.binds .any e = true → S e.on = true) (hij : j ≠ i) (hne : S j ≠ decide (j < i)) :
    Apart ops ops.toList[i] ops.toList[j] es[i] es[j] := by
  have hoi : ops.toList[i]? = some ops.toList[i] := List.getElem?_eq_getElem hi
  have hoj : ops.toList[j]? = some ops.toList[j] := List.getElem?_eq_getElem hj
  have h1 : ahead A j i = false := by
    cases h : ahead A j i with
    | false => rfl
    | true =>
      obtain ⟨h2, h3⟩ := nA hA he hS i hoi hready h
      rw [h2] at hne
      simp [h3] at hne
  have h2 : ahead A i j = false := by
    cases h : ahead A i j with
    | false => rfl
    | true =>
      have hlt : i < j := (nA hA he (S := fun _ => true) (fun _ _ _ _ _ _ _ => rfl) j hoj (fun _ _ _ => rfl) h).2
      cases hSj : S j with
      | true =>
        have := (nA hA he hS j hoj (fun e he' hb => hS j _ hoj hSj e he' hb) h).1
        rw [hSi] at this; cases this
      | false =>
        rw [hSj] at hne
        simp at hne
        omega
  refine ⟨fun d hd => ?_, fun r hr => ?_⟩
  · have hm1 : (ops.toList[i], i) ∈ ops.toList.zipIdx := by rw [List.mem_zipIdx_iff_getElem?]; exact hoi
    have hm2 : (ops.toList[j], j) ∈ ops.toList.zipIdx := by rw [List.mem_zipIdx_iff_getElem?]; exact hoj
    have h3 := List.all_eq_true.1 (List.all_eq_true.1 hs _ hm1) _ hm2
    simp only [yA] at h3
    have hbeq : (j == i) = false := by simpa using hij
    rw [hbeq] at h3
    simp only [hd, h1, h2, Bool.or_self] at h3
    cases h4 : ((ops.toList[i].looksAt ops).contains d || ops.toList[i].dst == some d) with
    | true => rw [h4] at h3; cases h3
    | false =>
      simp only [Bool.or_eq_false_iff, List.contains_eq_mem, decide_eq_false_iff_not, beq_eq_false_iff_ne] at h4
      exact h4
  · by_cases n1 : gD.sv es[i].rd es[i].wr
    · obtain ⟨n2, n3⟩ := n1
      rw [n2, n3]
      exact ⟨by simp [gD.has], by simp [gD.has]⟩
    by_cases n2 : gD.sv es[j].rd es[j].wr
    · obtain ⟨_, n3⟩ := n2
      rw [n3] at hr
      simp [gD.has] at hr
    rcases Nat.lt_or_gt_of_ne hij with hlt | hlt
    · have h3 := hT.log j i (by omega) (by omega) hlt n1 n2
      rw [h1, Bool.or_false, Bool.and_eq_true, Bool.and_eq_true] at h3
      exact ⟨gD.pU h3.1 hr, fun hh => gD.pU h3.2.2 hh hr⟩
    · have h3 := hT.log i j (by omega) (by omega) hlt n2 n1
      rw [h2, Bool.or_false, Bool.and_eq_true, Bool.and_eq_true] at h3
      exact ⟨gD.pU h3.2.1 hr, gD.pU h3.2.2 hr⟩
end
end Go.Mach
namespace Go.Mach
theorem zt {s s' : St} {x : Operand} (h : ∀ t, x = .tmp t → s.tmps[t]? = s'.tmps[t]?) : val s x = val s' x := by
  cases x with
  | tmp t => simp only [val, St.get, h t rfl]
  | _ => rfl
def pK (S : Nat → Bool) (i : Nat) : Nat → Bool := fun j => S j || j == i
section
variable {E : Env} {ops : Array Oper} {A : List Nat} {s0 : St} {c0 : Nat} {es : List Ent}
theorem A2 {m m' : Mem} (hl : m.roots.length = m'.roots.length) (c : Nat) (R : gD) (h : ∀ r, R.has r → m.roots[r]? = m'.roots[r]?) : m.view c R = m'.view c R := by
  have : (m.mask R).roots = (m'.mask R).roots := by
    apply List.ext_getElem?
    intro r
    have h1 := ny m c R r
    have h2 := ny m' c R r
    by_cases hr : R.has r
    · exact (h1.1 hr).trans ((h r hr).trans (h2.1 hr).symm)
    · refine (h1.2 hr).trans (.trans ?_ (h2.2 hr).symm)
      by_cases hlt : r < m.roots.length
      · rw [List.getElem?_eq_getElem hlt, List.getElem?_eq_getElem (by omega)]; rfl
      · rw [List.getElem?_eq_none (by omega), List.getElem?_eq_none (by omega)]
  unfold Mem.view
  rw [this]
variable (hT : qX E ops A s0 c0 es) (hes : es.length = ops.toList.length) (he : lP ops = true) (hA : qD ops A = true) (hs : lY ops A = true)
  {S : Nat → Bool} (hS : sM ops S) {i : Nat} (hi : i < ops.toList.length) (hSi : S i = false) (hready : ∀ e ∈ ops.toList[i].after.toList, Region.binds .any e = true → S e.on = true)
theorem xx (hes : es.length = ops.toList.length) {k : Nat} (hk : k < (ops.toList.zip es).length) : k < ops.toList.length ∧ ∃ (h : k < ops.toList.length) (h' : k < es.length), (ops.toList.zip es)[k] = (ops.toList[k], es[k]) := by
  have h1 : k < ops.toList.length := by rw [List.length_zip] at hk; omega
  have h2 : k < es.length := by omega
  exact ⟨h1, h1, h2, List.getElem_zip⟩
include hT hes he hA hs hS hSi hready
theorem wS {d : Nat} (hd : d ∈ ops.toList[i].looksAt ops) : (stS (ops.toList.zip es) S 0 s0).tmps[d]? = (sAt ops es s0 i).tmps[d]? := by
  refine (pb d _ _ _ 0 s0 s0 rfl rfl fun k hk hkd => ?_).1
  obtain ⟨h1, _, h2, h3⟩ := xx hes hk
  rw [h3] at hkd
  rw [Nat.zero_add]
  by_cases hki : k = i
  · subst hki; rw [hSi]; simp
  · by_cases hne : S k = decide (k < i)
    · exact hne
    · exact absurd hd ((ra hT hes he hA hs hS hi h1 hSi hready hki hne).slot d hkd).1
theorem BK (hi' : i < es.length) {r : Nat} (hr : es[i].rd.has r) : (stS (ops.toList.zip es) S 0 s0).mem.roots[r]? = (sAt ops es s0 i).mem.roots[r]? := by
  refine (nx r _ _ _ 0 s0 s0 (hT.fits rfl) rfl rfl rfl fun k hk hkd => ?_).1
  obtain ⟨h1, _, h2, h3⟩ := xx hes hk
  rw [h3] at hkd
  rw [Nat.zero_add]
  by_cases hki : k = i
  · subst hki; rw [hSi]; simp
  · by_cases hne : S k = decide (k < i)
    · exact hne
    · exact absurd hr ((ra hT hes he hA hs hS hi h1 hSi hready hki hne).root r hkd).1
theorem BQ {x : Operand} (hx : x ∈ ops.toList[i].op.operands) : val (stS (ops.toList.zip es) S 0 s0) x = val (sAt ops es s0 i) x :=
  zt fun t ht => wS hT hes he hA hs hS hi hSi hready (by
    subst ht
    exact List.mem_append_left _ (List.mem_filterMap.2 ⟨.tmp t, by simpa using hx, rfl⟩))
theorem xG : lM ops (stS (ops.toList.zip es) S 0 s0) ops.toList[i] = lM ops (sAt ops es s0 i) ops.toList[i] := by
  have key : ∀ d, d ∈ ops.toList[i].looksAt ops → (stS (ops.toList.zip es) S 0 s0).get d = (sAt ops es s0 i).get d := fun d hd => by
    unfold St.get; rw [wS hT hes he hA hs hS hi hSi hready hd]
  unfold lM
  cases hg : ops.toList[i].guard with
  | none => rfl
  | some gw =>
    obtain ⟨j, want⟩ := gw
    simp only
    cases hp : ops[j]? with
    | none => rfl
    | some p =>
      simp only
      cases hd : p.dst with
      | none => rfl
      | some d =>
        simp only
        rw [key d (by
          unfold Oper.looksAt
          rw [hg]
          refine List.mem_append_right _ ?_
          simp [hp, hd])]
theorem yN (hi' : i < es.length) : Alike (es[i].put ops.toList[i] (stS (ops.toList.zip es) S 0 s0)) (stS (ops.toList.zip es) (pK S i) 0 s0) := by
  have hsz : ops.toList.length = ops.size := by simp
  have hfits := hT.fits (N := s0.mem.roots.length) rfl
  have hz : ops.toList.zip es = (ops.toList.take i).zip (es.take i) ++ (ops.toList[i], es[i]) :: (ops.toList.drop (i + 1)).zip (es.drop (i + 1)) := by
    have h1 : ops.toList = ops.toList.take i ++ ops.toList[i] :: ops.toList.drop (i + 1) := by
      rw [List.getElem_cons_drop, List.take_append_drop]
    have h2 : es = es.take i ++ es[i] :: es.drop (i + 1) := by
      rw [List.getElem_cons_drop, List.take_append_drop]
    conv => lhs; rw [h1, h2]
    rw [List.zip_append (by rw [List.length_take, List.length_take]; omega), List.zip_cons_cons]
  generalize hL1 : (ops.toList.take i).zip (es.take i) = L1 at hz
  generalize hL2 : (ops.toList.drop (i + 1)).zip (es.drop (i + 1)) = L2 at hz
  have hl1 : L1.length = i := by rw [← hL1, List.length_zip, List.length_take, List.length_take]; omega
  let X : St := stS L1 S 0 s0
  have hLS : stS (ops.toList.zip es) S 0 s0 = stS L2 S (i + 1) X := by
    rw [hz, lf]
    simp only [stS, Nat.zero_add, hl1, hSi]
    rfl
  have hLS' : stS (ops.toList.zip es) (pK S i) 0 s0 = stS L2 S (i + 1) (es[i].put ops.toList[i] X) := by
    rw [hz, lf]
    have hb : pK S i i = true := by simp [pK]
    simp only [stS, Nat.zero_add, hl1, hb]
    rw [mS L1 (pK S i) S 0 s0 (fun k hk => by
      rw [Nat.zero_add]; unfold pK
      have : (k == i) = false := by simp; omega
      rw [this, Bool.or_false])]
    exact mS L2 (pK S i) S (i + 1) _ (fun k hk => by
      unfold pK
      have : (i + 1 + k == i) = false := by simp; omega
      rw [this, Bool.or_false])
  have hfL2 : ∀ p ∈ L2, p.2.fits s0.mem.roots.length := fun p hp => hfits p (by rw [hz]; simp [hp])
  have hfe : es[i].fits s0.mem.roots.length := hfits (ops.toList[i], es[i]) (by rw [hz]; simp)
  have hXl : X.mem.roots.length = s0.mem.roots.length := om (fun p hp => hfits p (by rw [hz]; simp [hp])) rfl
  have hap : ∀ k (hk : k < L2.length), S (i + 1 + k) = true → Apart ops ops.toList[i] L2[k].1 es[i] L2[k].2 := by
    intro k hk hSk
    have hk' : i + 1 + k < ops.toList.length := by rw [← hL2, List.length_zip, List.length_drop] at hk; omega
    have h2 : L2[k] = (ops.toList[i + 1 + k], es[i + 1 + k]) := by
      have h3 : L2[k]? = some (ops.toList[i + 1 + k], es[i + 1 + k]) := by
        rw [← hL2, List.getElem?_zip_eq_some]
        simp only [List.getElem?_drop]
        exact ⟨List.getElem?_eq_getElem hk', List.getElem?_eq_getElem (by omega)⟩
      rw [List.getElem?_eq_getElem hk] at h3
      exact Option.some.inj h3
    rw [h2]
    exact ra hT hes he hA hs hS hi hk' hSi hready (by omega) (by rw [hSk]; simp; omega)
  have htl : ∀ {Y Y' : St}, Y.tmps.length = Y'.tmps.length → (stS L2 S (i + 1) Y).tmps.length = Y'.tmps.length := by
    intro Y Y' h
    have h1 := zb (L := L2) (S := S) (S' := fun _ => false) (i := i + 1) (s := Y)
    rw [h1, lV L2 (fun _ => false) (i + 1) _ (fun _ _ => rfl)]
    exact h
  have hpl : (es[i].put ops.toList[i] X).tmps.length = X.tmps.length := by rw [Ent.kS]; cases ops.toList[i].dst <;> simp
  rw [hLS, hLS']
  constructor
  · apply List.ext_getElem?
    intro d
    by_cases hd : ops.toList[i].dst = some d
    · have h1 := (pb d L2 S (fun _ => false) (i + 1) (es[i].put ops.toList[i] X) (es[i].put ops.toList[i] X) rfl rfl fun k hk hkd => by
        cases hSk : S (i + 1 + k) with
        | false => rfl
        | true => exact absurd hd ((hap k hk hSk).slot d hkd).2).1
      rw [h1, lV L2 (fun _ => false) (i + 1) _ (fun _ _ => rfl)]
      simp only [Ent.kS, hd]
      have hl := htl (Y := X) (Y' := X) rfl
      by_cases hlt : d < X.tmps.length
      · rw [List.getElem?_set_self (by omega), List.getElem?_set_self hlt]
      · rw [List.getElem?_eq_none (by rw [List.length_set]; omega), List.getElem?_eq_none (by rw [List.length_set]; omega)]
    · have hput : ∀ Y : St, (es[i].put ops.toList[i] Y).tmps[d]? = Y.tmps[d]? := fun Y => by
        rw [Ent.kS]
        cases ho : ops.toList[i].dst with
        | none => rfl
        | some d' =>
          have hne : d' ≠ d := by rintro rfl; exact hd ho
          simp only
          rw [List.getElem?_set_ne hne]
      rw [hput]
      exact (pb d L2 S S (i + 1) X (es[i].put ops.toList[i] X) (hput X).symm hpl.symm fun _ _ _ => rfl).1
  · apply List.ext_getElem?
    intro r
    have hX2 : (stS L2 S (i + 1) X).mem.roots.length = s0.mem.roots.length := om hfL2 hXl
    obtain ⟨hp1, hp2⟩ := Ent.js hfe ops.toList[i] hXl
    by_cases hr : es[i].wr.has r
    · rw [((Ent.js hfe ops.toList[i] hX2).2 r).1 hr]
      have h1 := (nx r L2 S (fun _ => false) (i + 1) (es[i].put ops.toList[i] X) (es[i].put ops.toList[i] X) hfL2 rfl hp1 hp1 fun k hk hkd => by
        cases hSk : S (i + 1 + k) with
        | false => rfl
        | true => exact absurd hr ((hap k hk hSk).root r hkd).2).1
      rw [h1, lV L2 (fun _ => false) (i + 1) _ (fun _ _ => rfl), (hp2 r).1 hr]
    · rw [((Ent.js hfe ops.toList[i] hX2).2 r).2 hr]
      exact (nx r L2 S S (i + 1) X (es[i].put ops.toList[i] X) hfL2 ((hp2 r).2 hr).symm hXl hp1 fun _ _ _ => rfl).1
end
end Go.Mach
namespace Go.Mach
section
variable {B : eD} {E : Env} {ops : Array Oper} {A : List Nat} {s0 : St} {c0 : Nat} {es : List Ent}
def uR (B : eD) (E : Env) (ops : Array Oper) (s0 : St) (c0 : Nat) (es : List Ent) (Z0 : Nat → Prop) (μ0 : aZ) (S : Nat → Bool) (a : Act) (w : World) : Prop :=
  ∃ Z μ, Rel B (stS (ops.toList.zip es) S 0 s0) a w Z μ ∧ (∀ b, Z0 b → Z b) ∧ bP μ0 μ ∧ (∀ r, (r < c0 ∨ c0 + ct E ops.toList ≤ r) → μ0 r = none → μ r = none) ∧
    ∀ i, i < ops.toList.length → S i = false → ∀ r, cAt E ops c0 i ≤ r → r < cAt E ops c0 (i + 1) → μ r = none
variable {Z0 : Nat → Prop} {μ0 : aZ}
theorem uR.step {Q : Exit → Act → World → Prop} (hE : lv E B.g) (hN : c0 + ct E ops.toList ≤ s0.mem.roots.length) (hT : qX E ops A s0 c0 es) (hes : es.length = ops.toList.length) (he : lP ops = true) (hA : qD ops A = true) (hs : lY ops A = true)
    {S : Nat → Bool} (hS : sM ops S) {i : Nat} (hi : i < ops.toList.length) (hSi : S i = false) (hready : ∀ e ∈ ops.toList[i].after.toList, Region.binds .any e = true → S e.on = true) {a : Act} {w : World} (h : uR B E ops s0 c0 es Z0 μ0 S a w)
    {K : Act → World → Prop} (hK : ∀ a w, uR B E ops s0 c0 es Z0 μ0 (pK S i) a w → K a w) : wpOp E.P ops Q i K a w := by
  obtain ⟨Z, μ, hR, hz, hm, hfar, hfree⟩ := h
  have hi' : i < es.length := by omega
  have hsz : ops.toList.length = ops.size := by simp
  have ho : ops[i]? = some ops.toList[i] := by
    have : ops.toList[i]? = some ops.toList[i] := List.getElem?_eq_getElem hi
    simpa using this
  have hcs := v7 (E := E) (c0 := c0) (List.getElem?_eq_getElem hi : ops.toList[i]? = some ops.toList[i])
  have hcall : cAt E ops c0 (i + 1) ≤ c0 + ct E ops.toList := by
    have := sT (E := E) (ops := ops) (c0 := c0) (i := i + 1) (j := ops.toList.length) (by omega)
    unfold cAt at this ⊢
    rw [List.take_length] at this
    exact this
  have hc0 : c0 ≤ cAt E ops c0 i := Nat.le_add_right _ _
  have hlen : (stS (ops.toList.zip es) S 0 s0).mem.roots.length = s0.mem.roots.length := om (hT.fits rfl) rfl
  have hlen' : (sAt ops es s0 i).mem.roots.length = s0.mem.roots.length := om (hT.fits rfl) rfl
  have hal := yN hT hes he hA hs hS hi hSi hready hi'
  have hat := hT.at_ i hi' hi
  have hweq := xG hT hes he hA hs hS hi hSi hready
  have hrest : ∀ (μ' : aZ), (∀ r, (r < cAt E ops c0 i ∨ cAt E ops c0 (i + 1) ≤ r) → μ r = none → μ' r = none) →
      (∀ r, (r < c0 ∨ c0 + ct E ops.toList ≤ r) → μ0 r = none → μ' r = none) ∧ ∀ j, j < ops.toList.length → pK S i j = false → ∀ r, cAt E ops c0 j ≤ r → r < cAt E ops c0 (j + 1) → μ' r = none := by
    intro μ' hout
    refine ⟨fun r hr h0 => hout r (by omega) (hfar r hr h0), fun j hj hSj r h1 h2 => ?_⟩
    simp only [pK, Bool.or_eq_false_iff, beq_eq_false_iff_ne] at hSj
    refine hout r ?_ (hfree j hj hSj.1 r h1 h2)
    rcases Nat.lt_or_gt_of_ne hSj.2 with hlt | hlt
    · have := sT (E := E) (ops := ops) (c0 := c0) (i := j + 1) (j := i) (by omega)
      omega
    · have := sT (E := E) (ops := ops) (c0 := c0) (i := i + 1) (j := j) (by omega)
      omega
  unfold wpOp
  rw [ho]
  simp only
  generalize hent : es[i] = e at hat hal
  cases e with
  | none =>
    have hat : lM ops (sAt ops es s0 i) ops.toList[i] = some false := hat
    rw [nI hR (hweq.trans hat)]
    simp only [Bool.false_eq_true, if_false]
    have hR' : Rel B ((stS (ops.toList.zip es) S 0 s0).put ops.toList[i].dst (.tup [])) (a.put ops.toList[i].dst Go.undef) w Z μ := hR.pW ops.toList[i].dst ⟨[], rfl, rfl, fun k h => by simp at h⟩
    obtain ⟨h1, h2⟩ := hrest μ (fun _ _ h => h)
    exact hK _ _ ⟨Z, μ, hR'.alike hal, hz, hm, h1, h2⟩
  | some e =>
    obtain ⟨v, R, W, m1⟩ := e
    obtain ⟨hw, hsv, hok, hl1, _⟩ := hat
    rw [nI hR (hweq.trans hw)]
    simp only [if_true]
    left
    have hview : (stS (ops.toList.zip es) S 0 s0).mem.view (cAt E ops c0 i) R = (sAt ops es s0 i).mem.view (cAt E ops c0 i) R :=
      A2 (hlen.trans hlen'.symm) _ R fun r hr => BK hT hes he hA hs hS hi hSi hready hi' (by rw [hent]; exact hr)
    have hsv' : (dG E (val (stS (ops.toList.zip es) S 0 s0)) ((stS (ops.toList.zip es) S 0 s0).mem.view (cAt E ops c0 i) R) ops.toList[i] i6).strip = some (v, m1) := by
      rw [hview, wF (fun x hx => BQ hT hes he hA hs hS hi hSi hready hx)]
      exact hsv
    have hop := (vk (E := E) (o := ops.toList[i]) (c := cAt E ops c0 i) (R := R) (W := W) hR hE (fun k hk => hfree i hi hSi _ (by omega) (by omega)) (by omega)).2 v m1 hsv' (by rw [hlen, ← hlen']; exact hok)
    refine Oper.xI (Oper.wp_mono ?_ hop.2)
    rintro a' w' ⟨Z', μ', hR', hzz, hext, hout⟩
    obtain ⟨h1, h2⟩ := hrest μ' (fun r hr h0 => hout r (by omega) h0)
    exact hK _ _ ⟨Z', μ', Rel.alike hR' hal, fun b hb => hzz b (hz b hb), hm.trans hext, h1, h2⟩
theorem tY {p p' : Nat → Bool} (hpp : ∀ j, p' j = true → p j = true) {i : Nat} (h1 : p i = true) (h2 : p' i = false) : ∀ (l : List Nat), i ∈ l → l.countP p' < l.countP p
  | [], h => by cases h
  | x :: l, h => by
    rw [List.countP_cons, List.countP_cons]
    have hle : l.countP p' ≤ l.countP p := List.countP_mono_left fun x _ hx => hpp x hx
    by_cases hx : x = i
    · subst hx
      rw [h1, h2]
      simp only [if_true, Bool.false_eq_true, if_false]
      omega
    · have hm : i ∈ l := by simpa [Ne.symm hx] using h
      have := tY hpp h1 h2 l hm
      cases hp' : p' x with
      | false => simp only [Bool.false_eq_true, if_false]; omega
      | true => rw [hpp x hp']; simp only [if_true]; omega
theorem uC (he : lP ops = true) {listed : Array Bool} (hsz : listed.size = ops.size) (h : Region.ready .any ops listed = []) : ∀ j, j < ops.size → listed.getD j false = true := by
  intro j
  induction j using Nat.strongRecOn with
  | _ j ih =>
    intro hj
    have hoj : ops[j]? = some ops[j] := Array.getElem?_eq_getElem hj
    have hnr : j ∉ Region.ready .any ops listed := by rw [h]; simp
    rw [mem_ready] at hnr
    cases hl : listed.getD j true with
    | true => simpa [Array.getD, hsz, hj] using hl
    | false =>
      exfalso
      refine hnr ⟨hl, ops[j], hoj, fun e he' hb => ?_⟩
      have hm : (ops[j], j) ∈ ops.toList.zipIdx := by rw [List.mem_zipIdx_iff_getElem?]; simpa using hoj
      have h1 := List.all_eq_true.1 (List.all_eq_true.1 he _ hm) e (by simpa using he')
      simp only [hb, Bool.not_true, Bool.false_or, decide_eq_true_eq] at h1
      exact ih e.on h1 (by omega)
theorem uR.any {Q : Exit → Act → World → Prop} (hE : lv E B.g) (hN : c0 + ct E ops.toList ≤ s0.mem.roots.length) (hT : qX E ops A s0 c0 es) (hes : es.length = ops.toList.length) (he : lP ops = true) (hA : qD ops A = true) (hs : lY ops A = true)
    (hQ : ∀ S a w, (∀ j, j < ops.size → S j = true) → uR B E ops s0 c0 es Z0 μ0 S a w → Q .normal a w) : ∀ (fuel : Nat) (listed : Array Bool) (a : Act) (w : World), listed.size = ops.size → sM ops (fun j => listed.getD j false) →
      (List.range ops.size).countP (fun j => !listed.getD j true) ≤ fuel → uR B E ops s0 c0 es Z0 μ0 (fun j => listed.getD j false) a w → wpAny E.P .any ops Q fuel listed a w
  | 0, listed, a, w, hsz, hC, hc, h => by
    have hn : Region.ready .any ops listed = [] := by
      cases hr : Region.ready .any ops listed with
      | nil => rfl
      | cons j l =>
        have hj : j ∈ Region.ready .any ops listed := by rw [hr]; simp
        obtain ⟨h1, o, h2, _⟩ := mem_ready.1 hj
        have hlt : j < ops.size := (Array.getElem?_eq_some_iff.1 h2).1
        have : 0 < (List.range ops.size).countP (fun j => !listed.getD j true) := List.countP_pos_iff.2 ⟨j, by simpa using hlt, by rw [h1]; rfl⟩
        omega
    exact ⟨hn, hQ _ a w (uC he hsz hn) h⟩
  | fuel + 1, listed, a, w, hsz, hC, hc, h => by
    refine ⟨fun hn => hQ _ a w (uC he hsz hn) h, fun i hi => ?_⟩
    obtain ⟨h1, o, h2, h3⟩ := mem_ready.1 hi
    have hlt : i < ops.size := (Array.getElem?_eq_some_iff.1 h2).1
    have hlt' : i < ops.toList.length := by simpa using hlt
    have hoi : ops.toList[i] = o := by
      have := (Array.getElem?_eq_some_iff.1 h2).2
      simpa using this
    have hun : listed.getD i false = false := by
      have hl : i < listed.size := by omega
      simpa [Array.getD, hl] using h1
    have hadd : ∀ j, (listed.setIfInBounds i true).getD j false = pK (fun j => listed.getD j false) i j := by
      intro j
      unfold pK
      by_cases hji : i = j
      · subst hji
        have hl : i < listed.size := by omega
        simp [hl]
      · have : (j == i) = false := by simp; omega
        rw [getD_set_ne false hji, this, Bool.or_false]
    have hadd' : (fun j => (listed.setIfInBounds i true).getD j false) = pK (fun j => listed.getD j false) i := funext hadd
    refine uR.step hE hN hT hes he hA hs hC hlt' hun (fun e he' hb => h3 e (by rw [hoi] at he'; simpa using he') hb) h fun a' w' h' => ?_
    refine uR.any hE hN hT hes he hA hs hQ fuel _ a' w' (by simp [hsz]) ?_ ?_ (by rw [hadd']; exact h')
    · rw [hadd']
      intro j oj hj hSj e he' hb
      simp only [pK, Bool.or_eq_true, beq_iff_eq] at hSj ⊢
      rcases hSj with hSj | rfl
      · exact .inl (hC j oj hj hSj e he' hb)
      · have : oj = o := by
          have h4 : ops.toList[j]? = some ops.toList[j] := List.getElem?_eq_getElem hlt'
          rw [hj] at h4
          exact (Option.some.inj h4).trans hoi
        subst this
        exact .inl (h3 e (by simpa using he') hb)
    · have hlt2 := tY (p := fun j => !listed.getD j true) (p' := fun j => !(listed.setIfInBounds i true).getD j true) (fun j hj => by
          by_cases hji : i = j
          · subst hji
            have hl : i < listed.size := by omega
            simp [hl] at hj
          · rw [getD_set_ne true hji] at hj; exact hj) (i := i) (by simp only [h1]; rfl) (by
            have hl : i < listed.size := by omega
            simp [hl]) (List.range ops.size) (by simpa using hlt)
      omega
variable {β : Type} {Ψ : β → Prop} {K : St → Res β}
theorem xR {Q : Exit → Act → World → Prop} {id : Nat} (hm : E.P.follows .mixedOrders = true) (hdr : E.dr = true) (hE : lv E B.g) (he : lP ops = true) (hA : qD ops A = true) (hs : lY ops A = true)
    (hN : c0 + ct E ops.toList ≤ s0.mem.roots.length) {a : Act} {w : World} {Z : Nat → Prop} {μ : aZ} (hR : Rel B s0 a w Z μ) (hfree : ∀ r, c0 ≤ r → r < c0 + ct E ops.toList → μ r = none)
    (h : (jQ E ops A ops.toList 0 c0 [] s0 K).sat Ψ)
    (hQ : ∀ es, qX E ops A s0 c0 es → es.length = ops.toList.length → (K ⟨(sAt ops es s0 es.length).tmps, (sAt ops es s0 es.length).mem.at (cAt E ops c0 es.length), (sAt ops es s0 es.length).dT⟩).sat Ψ →
      ∀ a' w' Z' μ', Rel B (sAt ops es s0 es.length) a' w' Z' μ' → (∀ b, Z b → Z' b) → bP μ μ' → (∀ r, (r < c0 ∨ c0 + ct E ops.toList ≤ r) → μ r = none → μ' r = none) → Q .normal a' w') :
    (Code.region id ops true).wp E.P Q a w := by
  have hc00 : cAt E ops c0 0 = c0 := by simp [cAt, ct]
  have hT0 : qX E ops A s0 c0 [] := ⟨by simp, fun i hi => by simp at hi, fun j i hj => by simp at hj⟩
  have hs00 : sAt ops [] s0 0 = s0 := by simp [sAt, stS]
  obtain ⟨es, hT, hes, hKs⟩ := mC hdr hE hN ops.toList [] [] (a := a) (w := w) (Z := Z) (μ := μ) (B := B) (by simp) hT0 (by simpa [hs00] using hR) (fun r h1 h2 => hfree r (by simpa [hc00] using h1) h2) (fun j hj => by simp at hj) (by simpa [hs00, hc00] using h)
  have hrep : (fun j => (Array.replicate ops.size false).getD j false) = fun _ => false := by
    funext j
    simp only [Array.getD]
    split <;> simp
  refine wp_region_any hm ?_
  refine uR.any (B := B) (Z0 := Z) (μ0 := μ) hE hN hT hes he hA hs (fun S a' w' hall hI => ?_) ops.size _ a _ (by simp) (by rw [hrep]; intro j o hj hSj; cases hSj) ?_ ?_
  · obtain ⟨Z', μ', hR', h1, h2, h3, _⟩ := hI
    refine hQ es hT hes hKs a' w' Z' μ' (hR'.alike ?_) h1 h2 h3
    have : stS (ops.toList.zip es) S 0 s0 = sAt ops es s0 es.length := by
      unfold sAt
      refine mS _ _ _ _ _ fun k hk => ?_
      have hsz : ops.toList.length = ops.size := by simp
      rw [List.length_zip] at hk
      rw [Nat.zero_add, hall k (by omega)]
      simp; omega
    rw [this]
    exact ⟨rfl, rfl⟩
  · refine Nat.le_trans List.countP_le_length ?_
    simp
  · refine ⟨Z, μ, ?_, fun _ h => h, bP.refl μ, fun _ _ h => h, fun i hi _ r h1 h2 => hfree r ?_ ?_⟩
    · rw [hrep, lV _ _ _ _ (fun _ _ => rfl)]
      exact hR.drew
    · exact Nat.le_trans (Nat.le_add_right _ _) h1
    · have := sT (E := E) (ops := ops) (c0 := c0) (i := i + 1) (j := ops.toList.length) (by omega)
      unfold cAt at this h2
      rw [List.take_length] at this
      omega
end
end Go.Mach
namespace Go.Mach
section
variable {w0 w : World} {Z0 Z : Nat → Prop} {μ0 μ μr : aZ} (hr : ∀ r, μ0 r ≠ none → μr r = μ r)
include hr
theorem l7.restrict {r off : Nat} {v0 v : Value} (h0 : l7 μ0 r off v0) (h : l7 μ r off v) : l7 μr r off v := by
  obtain ⟨ℓ0, _, h1, _⟩ := h0
  obtain ⟨ℓ, b, h2, h3⟩ := h
  exact ⟨ℓ, b, by rw [hr r (by rw [h1]; simp)]; exact h2, h3⟩
theorem CR.restrict {c : C} {v0 v : Value} (h0 : CR w0 Z0 μ0 c v0) (h : CR w Z μ c v) : CR w Z μr c v := by
  cases c with
  | ref r wd =>
    obtain ⟨ℓ0, h1, _⟩ := h0
    obtain ⟨ℓ, h2, h3⟩ := h
    exact ⟨ℓ, by rw [hr r (by rw [h1]; simp)]; exact h2, h3⟩
  | ptr r off => exact l7.restrict hr h0 h
  | kO r i off =>
    obtain ⟨ℓ0, _, h1, _⟩ := h0
    obtain ⟨ℓ, b, h2, h3⟩ := h
    exact ⟨ℓ, b, by rw [hr r (by rw [h1]; simp)]; exact h2, h3⟩
  | stp q =>
    obtain ⟨ℓ0, h1, _⟩ := h0
    obtain ⟨ℓ, h2, h3⟩ := h
    exact ⟨ℓ, by rw [hr q (by rw [h1]; simp)]; exact h2, h3⟩
  | mp r =>
    obtain ⟨ℓ0, _, h1, _⟩ := h0
    obtain ⟨ℓ, b, h2, h3⟩ := h
    exact ⟨ℓ, b, by rw [hr r (by rw [h1]; simp)]; exact h2, h3⟩
  | fn f dt =>
    obtain ⟨vs0, _, g2, g3⟩ := h0
    obtain ⟨vs, h1, h2, h3⟩ := h
    refine ⟨vs, h1, h2, fun k hk hk' => ?_⟩
    have a := g3 k hk (by omega)
    have b := h3 k hk hk'
    cases hc : dt[k] with
    | root r => rw [hc] at a b; exact l7.restrict hr a b
    | frz e x => rw [hc] at b; exact b
  | _ => exact h
theorem CRs.restrict {cs : List C} {vs0 vs : List Value} (h0 : CRs w0 Z0 μ0 cs vs0) (h : CRs w Z μ cs vs) : CRs w Z μr cs vs :=
  ⟨h.1, fun k hk hk' => CR.restrict hr (h0.2 k hk (by have := h0.1; omega)) (h.2 k hk hk')⟩
theorem AR.restrict {x : AV} {v0 v : Value} (h0 : AR w0 Z0 μ0 x v0) (h : AR w Z μ x v) : AR w Z μr x v := by
  cases x with
  | c x => exact CR.restrict hr h0 h
  | agg cs =>
    obtain ⟨_, _, h1⟩ := h0
    obtain ⟨vs, h2, h3⟩ := h
    exact ⟨vs, h2, h1.restrict hr h3⟩
  | tup l =>
    obtain ⟨vs0, _, g2, g3⟩ := h0
    obtain ⟨vs, h1, h2, h3⟩ := h
    refine ⟨vs, h1, h2, fun k hk hk' => ?_⟩
    have a := g3 k hk (by omega)
    have b := h3 k hk hk'
    rcases hl : l[k] with ⟨ag, cs⟩
    rw [hl] at a b
    cases ag with
    | true =>
      obtain ⟨_, _, a⟩ := a
      obtain ⟨us, b1, b2⟩ := b
      exact ⟨us, b1, a.restrict hr b2⟩
    | false =>
      match cs, a, b with
      | c :: _, a, b => exact CR.restrict hr a b
      | [], _, _ => trivial
theorem fa.restrict {Y0 Y : Nat → Prop} {ℓ0 ℓ : Loc} {x : bk} (h0 : fa w0 Z0 Y0 μ0 ℓ0 x) (h : fa w Z Y μ ℓ x) : fa w Z Y μr ℓ x := by
  cases x with
  | dead => trivial
  | frz e xs => exact h
  | bor s xs => exact h
  | mj cs =>
    obtain ⟨_, _, _, us0, _, g⟩ := h0
    obtain ⟨b, h1, h2, us, h3, h4⟩ := h
    exact ⟨b, h1, h2, us, h3, g.restrict hr h4⟩
  | box cs =>
    obtain ⟨_, _, _, _, us0, _, g⟩ := h0
    obtain ⟨b, h1, h2, h3, us, h4, h5⟩ := h
    exact ⟨b, h1, h2, h3, us, h4, g.restrict hr h5⟩
  | arr s xs foc =>
    refine ⟨h.1, h.2.mono (aj.refl _ _) fun i us x S _ _ hR => ?_⟩
    cases foc with
    | none => exact hR
    | some f =>
      simp only [ElR] at hR ⊢
      by_cases hi : f.i = i
      · rw [if_pos hi] at hR ⊢
        have hlt := h0.1 f rfl
        obtain ⟨_, _, _, _, _, g⟩ := h0.2
        cases hb : ℓ0.blk with
        | none =>
          rw [hb] at g
          obtain ⟨g, _⟩ := g
          rw [g] at hlt
          simp at hlt
        | some b =>
          rw [hb] at g
          obtain ⟨_, _, N, _, _, g⟩ := g
          obtain ⟨us0, _, _, g⟩ := g f.i hlt
          simp only [ElR, if_true] at g
          exact g.restrict hr hR
      · rw [if_neg hi] at hR ⊢; exact hR
  | pT n s xs i cs q =>
    obtain ⟨_, _, es0, _, _, _, g3, g4, _, g6⟩ := h0
    obtain ⟨h1, b, es, clock, ℓq, h2, h3, h4, h5, h6⟩ := h
    refine ⟨h1, b, es, clock, ℓq, h2, h3, by rw [hr q (by rw [g4]; simp)]; exact h4, h5, h6.mono rfl (fun _ h => h) fun j us x T _ hR => ?_⟩
    obtain ⟨_, es1, _, e1, e2, _, _, _, _, M, _, _, e9⟩ := g6
    have e3 := (e9 i h1 (by omega)).2
    simp only [EnR, ElR, if_true] at e3
    simp only [EnR, ElR] at hR ⊢
    by_cases hi : i = j
    · rw [if_pos hi] at hR ⊢
      exact e3.restrict hr hR
    · rw [if_neg hi] at hR ⊢; exact hR
  | itr r n s xs left cur =>
    obtain ⟨itb, b, ℓr, es, clock, seen, foc, S, h1, h2, h3, h4, h5, h6, h7, h9, h11, h12, h13⟩ := h
    obtain ⟨_, _, ℓr0, es0, _, _, foc0, _, _, _, _, _, g5, _, _, g9, _, g12, g13⟩ := h0
    refine ⟨itb, b, ℓr, es, clock, seen, foc, S, h1, h2, h3, h4, by rw [hr r (by rw [g5]; simp)]; exact h5, h6, h7, h9, h11, h12.mono rfl (fun _ h => h) fun i us x T _ hR => ?_, h13⟩
    cases cur with
    | none => subst h13; exact hR
    | some p =>
      obtain ⟨k, N⟩ := p
      obtain ⟨j, rfl, hj, hj', _⟩ := h13
      obtain ⟨j0, rfl, hk, hk', _⟩ := g13
      obtain ⟨_, es1, _, e1, _, _, _, _, _, M, _, _, e9⟩ := g12
      rw [g9] at e1; cases e1
      have e2 := (e9 j0 hk hk').2
      simp only [EnR, ElR, if_true] at e2
      simp only [EnR, ElR] at hR ⊢
      by_cases hi : j = i
      · rw [if_pos hi] at hR ⊢
        exact e2.restrict hr hR
      · rw [if_neg hi] at hR ⊢; exact hR
  | sb p xs => exact h
  | iR n s xs foc =>
    obtain ⟨h1, b, h2, h3⟩ := h
    refine ⟨h1, b, h2, h3.mono rfl (fun _ h => h) fun i us x S _ hR => ?_⟩
    cases foc with
    | none => exact hR
    | some f =>
      simp only [EnR, ElR] at hR ⊢
      by_cases hi : f.i = i
      · rw [if_pos hi] at hR ⊢
        have hlt := h0.1 f rfl
        obtain ⟨_, _, _, _, es, clock, _, g2, _, _, _, _, N, _, _, g⟩ := h0
        obtain ⟨_, g⟩ := g f.i hlt (by omega)
        simp only [EnR, ElR, if_true] at g
        exact g.restrict hr hR
      · rw [if_neg hi] at hR ⊢; exact hR
end
section
variable {B : eD} {w : World} {Z : Nat → Prop} {μ μr : aZ}
theorem az.restrict {m m0 : Mem} (h : az B m w Z μ) (hm : ∀ r x, m0.roots[r]? = some x → x ≠ .dead → m.roots[r]? = some x ∧ μr r = μ r ∧ ∀ ℓ, fa w Z B.Y μ ℓ x → fa w Z B.Y μr ℓ x)
    (hfar : ∀ r, m0.roots.length ≤ r → μr r = none) : az B m0 w Z μr := by
  have hd : ∀ {x : bk}, x.fj = true → x ≠ .dead := by rintro _ h rfl; simp [bk.fj] at h
  refine ⟨fun r x hx hx' => ?_, fun r s x y ℓ ℓ' hrs hx hy hox hoy hl hl' => ?_, fun r x ℓ b hx ho hl => ?_, h.frz, h.ou, h.size, h.nn, hfar, h.ju, h.io⟩
  · obtain ⟨h1, h2, h3⟩ := hm r x hx hx'
    obtain ⟨ℓ, h4, h5⟩ := h.rt r x h1 hx'
    exact ⟨ℓ, by rw [h2]; exact h4, h3 ℓ h5⟩
  · obtain ⟨h1, h2, _⟩ := hm r x hx (hd hox)
    obtain ⟨h3, h4, _⟩ := hm s y hy (hd hoy)
    exact h.dj r s x y ℓ ℓ' hrs h1 h3 hox hoy (h2 ▸ hl) (h4 ▸ hl')
  · obtain ⟨h1, h2, _⟩ := hm r x hx (hd ho)
    exact h.own r x ℓ b h1 ho (h2 ▸ hl)
theorem bX.restrict {m m0 : Mem} {F : Nat → Prop} (hF : bX B m w Z μ F) (hm : ∀ r x, m0.roots[r]? = some x → x ≠ .dead → m.roots[r]? = some x ∧ μr r = μ r) : bX B m0 w Z μr F := by
  refine ⟨hF.ok, fun b r hb => ?_⟩
  rintro ⟨x, ℓ, h1, h2, h3, h4⟩
  obtain ⟨g1, g2⟩ := hm r x h1 (by rintro rfl; simp [bk.fj] at h2)
  exact hF.off b r hb ⟨x, ℓ, g1, h2, g2 ▸ h3, h4⟩
end
theorem la : ∀ (l : List Nat) (xs : List bk), (jd xs l).length = xs.length
  | [], _ => rfl
  | r :: l, xs => by rw [jd, la l, List.length_set]
theorem lz : ∀ (l : List Nat) (xs : List bk) (k : Nat), (k ∉ l → (jd xs l)[k]? = xs[k]?) ∧ (k ∈ l → (jd xs l)[k]? = (xs[k]?).map fun _ => .dead)
  | [], xs, k => ⟨fun _ => rfl, fun h => by cases h⟩
  | r :: l, xs, k => by
    obtain ⟨h1, h2⟩ := lz l (xs.set r .dead) k
    rw [jd]
    refine ⟨fun h => ?_, fun h => ?_⟩
    · rw [h1 (fun hk => h (List.mem_cons_of_mem _ hk)), List.getElem?_set_ne (by rintro rfl; exact h List.mem_cons_self)]
    · by_cases hl : k ∈ l
      · rw [h2 hl]
        by_cases hkr : r = k
        · subst hkr
          rw [List.getElem?_set_self']
          cases xs[r]? <;> rfl
        · rw [List.getElem?_set_ne hkr]
      · have hkr : k = r := by simpa [hl] using h
        subst hkr
        rw [h1 hl, List.getElem?_set_self']
        cases xs[k]? <;> rfl
theorem l0 : ∀ (l : List (Nat × AV)) (ts : List AV), (lb ts l).length = ts.length
  | [], _ => rfl
  | (i, v) :: l, ts => by rw [lb, l0 l, List.length_set]
theorem sX : ∀ (l : List (Nat × AV)) (ts : List AV) (k : Nat) (x : AV), (lb ts l)[k]? = some x → (k, x) ∈ l ∨ (ts[k]? = some x ∧ ∀ v, (k, v) ∉ l)
  | [], ts, k, x, h => .inr ⟨h, fun _ h => by cases h⟩
  | (i, v) :: l, ts, k, x, h => by
    rw [lb] at h
    rcases sX l _ k x h with h1 | ⟨h1, h2⟩
    · exact .inl (List.mem_cons_of_mem _ h1)
    · by_cases hik : i = k
      · subst hik
        rw [List.getElem?_set_self'] at h1
        left
        cases ht : ts[i]? with
        | none => rw [ht] at h1; cases h1
        | some y => rw [ht] at h1; simp at h1; subst h1; exact List.mem_cons_self
      · rw [List.getElem?_set_ne hik] at h1
        refine .inr ⟨h1, fun v' hm => ?_⟩
        rcases List.mem_cons.1 hm with hm | hm
        · cases hm; exact hik rfl
        · exact h2 v' hm
end Go.Mach
namespace Go.Mach
section
variable {B : eD} {w : World} {Z : Nat → Prop}
def uH (μ : aZ) (r : Nat) : Sh → Value → Prop
  | .own s, u => ∃ ℓ, μ r = some ℓ ∧ ℓ.sz = s.cells ∧ ℓ.odd = none ∧ u = .slice (ℓ.addr 0) ℓ.len ℓ.cap
  | .box _, u => ∃ ℓ b, μ r = some ℓ ∧ ℓ.blk = some b ∧ u = .pointer (some ⟨b, ℓ.base + 0, none⟩)
  | .sb _, u => ∃ ℓ b, μ r = some ℓ ∧ ℓ.blk = some b ∧ u = .pointer (some ⟨b, ℓ.base + 0, none⟩)
  | _, _ => False
theorem uH.ext {μ μ' : aZ} (he : bP μ μ') {r : Nat} {s : Sh} {u : Value} (h : uH μ r s u) : uH μ' r s u := by
  cases s with
  | own s =>
    obtain ⟨ℓ, h1, h2, h3, h4⟩ := h
    obtain ⟨S', h5⟩ := he r ℓ h1
    exact ⟨_, h5, h2, h3, h4⟩
  | box s =>
    obtain ⟨ℓ, b, h1, h2, h3⟩ := h
    obtain ⟨S', h5⟩ := he r ℓ h1
    exact ⟨_, b, h5, h2, h3⟩
  | sb p =>
    obtain ⟨ℓ, b, h1, h2, h3⟩ := h
    obtain ⟨S', h5⟩ := he r ℓ h1
    exact ⟨_, b, h5, h2, h3⟩
  | _ => exact h
def nD (B : eD) (w : World) (Z : Nat → Prop) (m : Mem) (μ : aZ) (lo hi : Nat) (o : Option Nat) (v : AV) : Prop :=
  ∀ r, o = some r → ∀ c q, v = .c c → c.kc = some q → lo ≤ q ∧ q < hi ∧ ∃ x ℓq ℓp, m.roots[q]? = some x ∧ x.fj = true ∧ μ q = some ℓq ∧ μ r = some ℓp ∧ fa w Z B.Y μ { ℓp with S := ℓq.S } x
def kt (B : eD) (w : World) (Z : Nat → Prop) (m : Mem) (μ : aZ) : Nat → List (Option Nat) → List AV → Prop
  | lo, o :: os, v :: vs => ∃ hi, lo ≤ hi ∧ nD B w Z m μ lo hi o v ∧ kt B w Z m μ hi os vs
  | _, _, _ => True
def mD (μ : aZ) : List (Option Nat) → List VSh → List Value → Prop
  | o :: os, a :: l, u :: us => (∀ r, o = some r → a.1 = false ∧ uH μ r a.2 u) ∧ mD μ os l us
  | _, _, _ => True
theorem mD.ext {μ μ' : aZ} (he : bP μ μ') : ∀ {os : List (Option Nat)} {l : List VSh} {us : List Value}, mD μ os l us → mD μ' os l us
  | [], _, _, _ => trivial
  | _ :: _, [], _, _ => trivial
  | _ :: _, _ :: _, [], _ => trivial
  | _ :: _, _ :: _, _ :: _, h => ⟨fun r hr => ⟨(h.1 r hr).1, (h.1 r hr).2.ext he⟩, h.2.ext he⟩
theorem yC {s : Sh} {u : Value} {x : s.den} {m : Mem} {F S : Nat → Prop} {μ : aZ} {o : Option Nat} (hM : az B m w Z μ) (hF : bX B m w Z μ F) (hf : iM m μ s.news) (hx : SR w Z B.Y s [u] x S) (hS : ∀ b, S b → F b)
    (hl : ∀ r, o = some r → uH μ r s u) :
    ∃ μ', az B (s.mk x m).2 w Z μ' ∧ bX B (s.mk x m).2 w Z μ' (fun b => F b ∧ ¬ S b) ∧ CRs w Z μ' (s.mk x m).1 [u] ∧ Grow m (s.mk x m).2 μ μ' s.news ∧ nD B w Z (s.mk x m).2 μ' m.cur (m.cur + s.news) o (lN false (s.mk x m).1) := by
  obtain ⟨⟨μ1, e1, e2, e3, e4⟩, _⟩ := iJ s hM hF hf hx hS
  refine ⟨μ1, e1, e2, e3, e4, ?_⟩
  intro r ho c q hv hq
  have hld := (hl r ho).ext e4.ext
  cases s with
  | own s =>
    simp only [Sh.mk, lN] at hv e1 e2 e3 e4 ⊢
    cases hv
    simp only [C.kc, Option.some.injEq] at hq
    subst hq
    have hcc : CR w Z μ1 (.ref m.cur .full) u := by
      obtain ⟨v', hv', g⟩ := e3.one
      cases hv'; exact g
    obtain ⟨ℓq, μq, sq⟩ := hcc
    have hcq : m.cur < m.roots.length := (List.getElem?_eq_some_iff.1 (hf 0 (by simp [Sh.news])).2).1
    have hroot : (m.push (.arr s x none)).roots[m.cur]? = some (.arr s x none) := by simp [Mem.push, hcq]
    obtain ⟨ℓ', k1, k2, k3⟩ := e1.rt _ _ hroot (by simp)
    rw [μq] at k1; cases k1
    obtain ⟨ℓp, p1, p2, p3, p4⟩ := hld
    have he : Value.slice (ℓq.addr 0) ℓq.len ℓq.cap = .slice (ℓp.addr 0) ℓp.len ℓp.cap := by
      rw [← (show u = _ from sq), ← p4]
    refine ⟨Nat.le_refl _, by simp [Sh.news], _, ℓq, ℓp, hroot, rfl, μq, p1, ⟨(fun f hf => by cases hf), (k3.place p2 p3 he).mono (aj.refl _ _) fun i us x S _ _ hR => hR⟩⟩
  | box s =>
    simp only [Sh.mk, lN] at hv e1 e2 e3 e4 ⊢
    cases hv
    simp only [C.kc, Option.some.injEq] at hq
    subst hq
    have hcc : CR w Z μ1 (.ptr (s.mk x m).2.cur 0) u := by
      obtain ⟨v', hv', g⟩ := e3.one
      cases hv'; exact g
    obtain ⟨ℓq, bq, μq, hbq, huq⟩ := hcc
    have h2 := e4.cur
    simp only [Mem.push, Sh.news] at h2
    have hcq : (s.mk x m).2.cur < (s.mk x m).2.roots.length := by
      have h1 := e4.len
      simp only [Mem.push, List.length_set, Sh.news] at h1
      have h3 := (hf s.news (by simp [Sh.news])).2
      have h4 := (List.getElem?_eq_some_iff.1 h3).1
      omega
    have hroot : ((s.mk x m).2.push (.box (s.mk x m).1)).roots[(s.mk x m).2.cur]? = some (.box (s.mk x m).1) := by simp [Mem.push, hcq]
    obtain ⟨ℓ', k1, b', k2, k3, k4, us, k5, k6⟩ := e1.rt _ _ hroot (by simp)
    rw [μq] at k1; cases k1
    rw [hbq] at k2; cases k2
    obtain ⟨ℓp, bp, p1, p2, p3⟩ := hld
    rw [huq] at p3
    simp only [Value.pointer.injEq, Option.some.injEq, Addr.mk.injEq, Nat.add_zero, and_true] at p3
    obtain ⟨rfl, hbase⟩ := p3
    exact ⟨by omega, by simp only [Sh.news]; omega, _, ℓq, ℓp, hroot, rfl, μq, p1, ⟨bq, p2, k3, by rw [← hbase]; exact k4, us, by rw [← hbase]; exact k5, k6⟩⟩
  | sb p =>
    simp only [Sh.mk, lN] at hv e1 e2 e3 e4 ⊢
    cases hv
    simp only [C.kc, Option.some.injEq] at hq
    subst hq
    have hcc : CR w Z μ1 (.ptr m.cur 0) u := by
      obtain ⟨v', hv', g⟩ := e3.one
      cases hv'; exact g
    obtain ⟨ℓq, bq, μq, hbq, huq⟩ := hcc
    have hcq : m.cur < m.roots.length := (List.getElem?_eq_some_iff.1 (hf 0 (by simp [Sh.news])).2).1
    have hroot : (m.push (.sb p x)).roots[m.cur]? = some (.sb p x) := by simp [Mem.push, hcq]
    obtain ⟨ℓ', k1, b', k2, k3, k4⟩ := e1.rt _ _ hroot (by simp)
    rw [μq] at k1; cases k1
    rw [hbq] at k2; cases k2
    obtain ⟨ℓp, bp, p1, p2, p3⟩ := hld
    rw [huq] at p3
    simp only [Value.pointer.injEq, Option.some.injEq, Addr.mk.injEq, Nat.add_zero, and_true] at p3
    obtain ⟨rfl, hbase⟩ := p3
    exact ⟨Nat.le_refl _, by simp [Sh.news], _, ℓq, ℓp, hroot, rfl, μq, p1, ⟨bq, p2, by rw [← hbase]; exact k3, k4⟩⟩
  | _ => exact hld.elim
theorem nD.grow {m m' : Mem} {μ μ' : aZ} {n lo hi : Nat} {o : Option Nat} {v : AV} (h : nD B w Z m μ lo hi o v) (hg : Grow m m' μ μ' n) (hhi : hi ≤ m.cur) : nD B w Z m' μ' lo hi o v := by
  intro r ho c q hv hq
  obtain ⟨h1, h2, x, ℓq, ℓp, h3, h4, h5, h6, h7⟩ := h r ho c q hv hq
  obtain ⟨S', h8⟩ := hg.ext r ℓp h6
  obtain ⟨g1, g2⟩ := hg.old q (.inl (by omega))
  exact ⟨h1, h2, x, ℓq, _, by rw [g2]; exact h3, h4, by rw [g1]; exact h5, h8, h7.mono (aj.refl _ _) (fun _ h => h) (fun _ h => h) hg.ext⟩
theorem vn : ∀ {l : List VSh} {os : List (Option Nat)} {vs : List Value} {x : iS l} {m : Mem} {F S : Nat → Prop} {μ : aZ}, az B m w Z μ → bX B m w Z μ F → iM m μ (jy l) → i7 w Z B.Y l vs x S → (∀ b, S b → F b) → mD μ os l vs →
    ∃ μ', az B (mks l x m).2 w Z μ' ∧ bX B (mks l x m).2 w Z μ' (fun b => F b ∧ ¬ S b) ∧ ARs w Z μ' (mks l x m).1 vs ∧ Grow m (mks l x m).2 μ μ' (jy l) ∧ kt B w Z (mks l x m).2 μ' m.cur os (mks l x m).1
  | [], os, vs, x, m, F, S, μ, hM, hF, hf, h, hS, _ => ⟨μ, hM, hF.grow fun b hb => hb.1, h, Grow.refl m μ, by cases os <;> trivial⟩
  | [a], os, vs, x, m, F, S, μ, hM, hF, hf, h, hS, hl => by
    obtain ⟨v, rfl, us, h1, h2, h3⟩ := h
    match os, hl with
    | [], _ =>
      obtain ⟨⟨μ', e1, e2, e3, e4⟩, _⟩ := iJ a.2 hM hF hf h3 hS
      exact ⟨μ', e1, e2, ⟨v, [], rfl, h1.ar e3, rfl⟩, e4, trivial⟩
    | none :: os, _ =>
      obtain ⟨⟨μ', e1, e2, e3, e4⟩, _⟩ := iJ a.2 hM hF hf h3 hS
      exact ⟨μ', e1, e2, ⟨v, [], rfl, h1.ar e3, rfl⟩, e4, m.cur, Nat.le_refl _, (fun r hr => by cases hr), by cases os <;> trivial⟩
    | some r :: os, hl =>
      obtain ⟨g, s⟩ := a
      obtain ⟨hg, hlr⟩ := hl.1 r rfl
      simp only at hg
      subst hg
      have h1' : us = [v] := h1
      subst h1'
      obtain ⟨μ', e1, e2, e3, e4, e5⟩ := yC (o := some r) hM hF hf h3 hS (fun r' hr => by cases hr; exact hlr)
      exact ⟨μ', e1, e2, ⟨v, [], rfl, h1.ar e3, rfl⟩, e4, _, Nat.le_add_right _ _, e5, by cases os <;> trivial⟩
  | a :: b :: l, os, vs, x, m, F, S, μ, hM, hF, hf, h, hS, hl => by
    obtain ⟨v, vs', S1, S2, rfl, h2, h3, h4, ⟨us, h5, h6, h7⟩, h8⟩ := h
    have key : ∃ μ1, az B (a.2.mk x.1 m).2 w Z μ1 ∧ bX B (a.2.mk x.1 m).2 w Z μ1 (fun b => F b ∧ ¬ S1 b) ∧ CRs w Z μ1 (a.2.mk x.1 m).1 us ∧ Grow m (a.2.mk x.1 m).2 μ μ1 a.2.news ∧
        ∀ o os', os = o :: os' → nD B w Z (a.2.mk x.1 m).2 μ1 m.cur (m.cur + a.2.news) o (lN a.1 (a.2.mk x.1 m).1) := by
      match os, hl with
      | some r :: os, hl =>
        obtain ⟨g, s⟩ := a
        obtain ⟨hg, hlr⟩ := hl.1 r rfl
        simp only at hg
        subst hg
        have h5' : us = [v] := h5
        subst h5'
        obtain ⟨μ', e1, e2, e3, e4, e5⟩ := yC (o := some r) hM hF hf.left h7 (fun d hd => hS d (h2 d hd)) (fun r' hr => by cases hr; exact hlr)
        exact ⟨μ', e1, e2, e3, e4, fun o os' he => by cases he; exact e5⟩
      | none :: os, _ =>
        obtain ⟨⟨μ1, e1, e2, e3, e4⟩, _⟩ := iJ a.2 hM hF hf.left h7 (fun d hd => hS d (h2 d hd))
        exact ⟨μ1, e1, e2, e3, e4, fun o os' he => by cases he; intro r hr; cases hr⟩
      | [], _ =>
        obtain ⟨⟨μ1, e1, e2, e3, e4⟩, _⟩ := iJ a.2 hM hF hf.left h7 (fun d hd => hS d (h2 d hd))
        exact ⟨μ1, e1, e2, e3, e4, fun o os' he => by cases he⟩
    obtain ⟨μ1, e1, e2, e3, e4, e5⟩ := key
    have hl' : mD μ1 os.tail (b :: l) vs' := by
      match os, hl with
      | [], _ => trivial
      | _ :: os, hl => exact hl.2.ext e4.ext
    obtain ⟨μ2, g1, g2, g3, g4, g5⟩ := vn (l := b :: l) (os := os.tail) e1 e2 (hf.right e4) h8 (fun d hd => ⟨hS d (h3 d hd), fun h => h4 d h hd⟩) hl'
    refine ⟨μ2, g1, g2.grow fun d hd => ⟨⟨hd.1, fun h => hd.2 (h2 d h)⟩, fun h => hd.2 (h3 d h)⟩, ⟨v, vs', rfl, (h5.ar e3).mono (aj.refl _ _) (fun _ h => h) g4.ext, g3⟩, e4.trans g4, ?_⟩
    match os with
    | [] => trivial
    | o :: os =>
      refine ⟨m.cur + a.2.news, Nat.le_add_right _ _, (e5 o os rfl).grow g4 (by rw [e4.cur]; exact Nat.le_refl _), ?_⟩
      rw [e4.cur] at g5
      exact g5
theorem nD.move {m : Mem} {μ : aZ} {lo hi q0 r0 : Nat} {ℓ : Loc} {o : Option Nat} {v : AV} (h : nD B w Z m μ lo hi o v) (hq : q0 < lo) (hr : r0 < lo) (hne : o ≠ some r0) (he : bP μ (μ.set r0 ℓ)) : nD B w Z (m.move q0 r0) (μ.set r0 ℓ) lo hi o v := by
  intro r ho c q hv hq'
  obtain ⟨h1, h2, x, ℓq, ℓp, h3, h4, h5, h6, h7⟩ := h r ho c q hv hq'
  have hrr : r ≠ r0 := by rintro rfl; exact hne ho
  refine ⟨h1, h2, x, ℓq, ℓp, ?_, h4, by rw [aZ.eb _ _ (by omega)]; exact h5, by rw [aZ.eb _ _ hrr]; exact h6, h7.mono (aj.refl _ _) (fun _ h => h) (fun _ h => h) he⟩
  simp only [Mem.move]
  rw [List.getElem?_set_ne (by omega), List.getElem?_set_ne (by omega)]; exact h3
theorem kt.move {m : Mem} {μ : aZ} {q0 r0 : Nat} {ℓ : Loc} (he : bP μ (μ.set r0 ℓ)) : ∀ {os : List (Option Nat)} {vs : List AV} {lo : Nat}, kt B w Z m μ lo os vs → q0 < lo → r0 < lo → (∀ o ∈ os, o ≠ some r0) → kt B w Z (m.move q0 r0) (μ.set r0 ℓ) lo os vs
  | [], _, _, _, _, _, _ => trivial
  | _ :: _, [], _, _, _, _, _ => trivial
  | o :: os, v :: vs, lo, h, hq, hr, hne => by
    obtain ⟨hi, h1, h2, h3⟩ := h
    exact ⟨hi, h1, h2.move hq hr (hne o List.mem_cons_self) he, h3.move he (by omega) (by omega) fun o ho => hne o (List.mem_cons_of_mem _ ho)⟩
theorem kt.up {m : Mem} {μ : aZ} : ∀ {os : List (Option Nat)} {vs : List AV} {lo k : Nat}, kt B w Z m μ lo os vs → k ≤ os.length → k ≤ vs.length → ∃ lo', lo ≤ lo' ∧ kt B w Z m μ lo' (os.drop k) (vs.drop k)
  | os, vs, lo, 0, h, _, _ => ⟨lo, Nat.le_refl _, h⟩
  | [], _, _, _ + 1, _, h, _ => by simp at h
  | _ :: _, [], _, _ + 1, _, _, h => by simp at h
  | o :: os, v :: vs, lo, k + 1, h, hk, hk' => by
    obtain ⟨hi, h1, _, h3⟩ := h
    obtain ⟨lo', h4, h5⟩ := h3.up (k := k) (by simpa using hk) (by simpa using hk')
    exact ⟨lo', by omega, h5⟩
theorem lI : ∀ {rs : List Nat} {vs : List AV} {m : Mem} {F : Nat → Prop} {μ : aZ} {lo : Nat}, az B m w Z μ → bX B m w Z μ F → oR rs = true → (∀ r ∈ rs, r < lo ∧ m.roots[r]? = some .dead) → kt B w Z m μ lo (rs.map some) vs →
    ∃ μ', az B (dU m rs vs) w Z μ' ∧ bP μ μ' ∧ (∀ r, μ r = none → μ' r = none) ∧ (dU m rs vs).roots.length = m.roots.length ∧ bX B (dU m rs vs) w Z μ' F
  | [], vs, m, F, μ, lo, hM, hF, _, _, _ => by
    simp only [dU]
    exact ⟨μ, hM, bP.refl μ, fun _ h => h, trivial, hF⟩
  | r :: rs, [], m, F, μ, lo, hM, hF, _, _, _ => by
    simp only [dU]
    exact ⟨μ, hM, bP.refl μ, fun _ h => h, trivial, hF⟩
  | r :: rs, v :: vs, m, F, μ, lo, hM, hF, hn, hd, hb => by
    obtain ⟨hi, h1, h2, h3⟩ := hb
    simp only [oR, Bool.and_eq_true, Bool.not_eq_true', List.contains_eq_mem, decide_eq_false_iff_not] at hn
    have hd' : ∀ r' ∈ rs, r' < hi ∧ m.roots[r']? = some .dead := fun r' hr' => by
      obtain ⟨a, b⟩ := hd r' (List.mem_cons_of_mem _ hr')
      exact ⟨by omega, b⟩
    have skip : ∃ μ', az B (dU m rs vs) w Z μ' ∧ bP μ μ' ∧ (∀ r, μ r = none → μ' r = none) ∧ (dU m rs vs).roots.length = m.roots.length ∧ bX B (dU m rs vs) w Z μ' F := lI hM hF hn.2 hd' h3
    cases v with
    | c x =>
      simp only [dU]
      cases hx : x.kc with
      | none => exact skip
      | some q =>
        simp only
        obtain ⟨a1, a2, y, ℓq, ℓp, a3, a4, a5, a6, a7⟩ := h2 r rfl x q rfl hx
        obtain ⟨b1, b2⟩ := hd r List.mem_cons_self
        have he : bP μ (μ.set r { ℓp with S := ℓq.S }) := bP.mJ a6
        obtain ⟨k1, k2⟩ := tD hM hF a3 a4 a5 b2 a6 (a7.mono (aj.refl _ _) (fun _ h => h) (fun _ h => h) he)
        obtain ⟨μ', g1, g2, g3, g4, g5⟩ := lI (rs := rs) (vs := vs) (lo := hi) k1 k2 hn.2 (fun r' hr' => by
            obtain ⟨c1, c2⟩ := hd r' (List.mem_cons_of_mem _ hr')
            refine ⟨by omega, ?_⟩
            have hne : r ≠ r' := by rintro rfl; exact hn.1 hr'
            simp only [Mem.move]
            rw [List.getElem?_set_ne hne, List.getElem?_set_ne (by omega)]; exact c2) (h3.move he (by omega) (by omega) (fun o ho => by
            obtain ⟨r', hr', rfl⟩ := List.mem_map.1 ho
            rintro he; cases he; exact hn.1 hr'))
        refine ⟨μ', g1, he.trans g2, fun s hs => g3 s ?_, by rw [g4]; simp [Mem.move], g5⟩
        have hne : s ≠ r := by rintro rfl; rw [hs] at a6; cases a6
        rw [aZ.eb _ _ hne]; exact hs
    | agg cs => simp only [dU]; exact skip
    | tup l => simp only [dU]; exact skip
end
end Go.Mach
namespace Go.Mach
structure Ev (b s : St) : Prop where
  tl : s.tmps.length = b.tmps.length
  rl : b.mem.roots.length ≤ s.mem.roots.length
  tm : ∀ i, i ∉ s.dT → s.tmps[i]? = b.tmps[i]?
  rt : ∀ r, r < b.mem.roots.length → s.mem.dR.testBit r = false → s.mem.roots[r]? = b.mem.roots[r]?
theorem Ev.congr {b b' s : St} (h : Ev b s) (hb : Alike b b') : Ev b' s := ⟨by rw [← hb.1]; exact h.tl, by rw [← hb.2]; exact h.rl, fun i hi => by rw [← hb.1]; exact h.tm i hi, fun r hr hd => by rw [← hb.2] at hr ⊢; exact h.rt r hr hd⟩
theorem Ev.refl (b : St) : Ev b b := ⟨rfl, Nat.le_refl _, fun _ _ => rfl, fun _ _ _ => rfl⟩
def mh (m : Mem) (μ : aZ) (r : Nat) : Value :=
  match m.roots[r]?, μ r with
  | some (.arr _ _ _), some ℓ => .slice (ℓ.addr 0) ℓ.len ℓ.cap
  | some (.box _), some ℓ => .pointer (ℓ.blk.map fun b => ⟨b, ℓ.base + 0, none⟩)
  | some (.sb _ _), some ℓ => .pointer (ℓ.blk.map fun b => ⟨b, ℓ.base + 0, none⟩)
  | _, _ => undef
section
variable {B : eD} {w : World} {Z : Nat → Prop} {μ : aZ}
theorem vQ {m : Mem} (hM : az B m w Z μ) (r : Nat) : AR w Z μ (.c (kx m r)) (mh m μ r) := by
  unfold kx mh
  cases hx : m.roots[r]? with
  | none => trivial
  | some x =>
    cases x with
    | box cs =>
      obtain ⟨ℓ, h1, b, h2, _⟩ := hM.rt r _ hx (by simp)
      rw [h1]
      exact ⟨ℓ, b, h1, h2, by simp [h2]⟩
    | sb p xs =>
      obtain ⟨ℓ, h1, b, h2, _⟩ := hM.rt r _ hx (by simp)
      rw [h1]
      exact ⟨ℓ, b, h1, h2, by simp [h2]⟩
    | arr s xs foc =>
      obtain ⟨ℓ, h1, _⟩ := hM.rt r _ hx (by simp)
      rw [h1]
      exact ⟨ℓ, h1, rfl⟩
    | _ => trivial
theorem tg {s : Sh} {m0 m m' : Mem} {r : Nat} {y : s.den} (hM : az B m w Z μ) (hs : s.jw = true) (h : tO (false, s) (.c (kx m0 r)) m = some (y, m')) : uH μ r s (mh m0 μ r) := by
  unfold tO at h
  split at h
  case h_2 => cases h
  rename_i x' m1' _ hg
  simp only [AV.cells] at hg
  unfold kx at hg
  unfold mh
  cases hx : m0.roots[r]? with
  | none => rw [hx] at hg; cases s <;> simp [Sh.jw] at hs <;> simp [Sh.get] at hg
  | some x =>
    rw [hx] at hg
    cases x with
    | box cs =>
      cases s with
      | own s => simp [Sh.get] at hg
      | sb p =>
        simp only [Sh.get] at hg
        split at hg
        case h_2 => cases hg
        rename_i q xs2 hb
        obtain ⟨ℓ, h1, b, h2, _⟩ := hM.rt r _ hb (by simp)
        rw [h1]
        exact ⟨ℓ, b, h1, h2, by simp [h2]⟩
      | box s =>
        simp only [Sh.get] at hg
        split at hg
        case h_2 => cases hg
        rename_i bs hb
        obtain ⟨ℓ, h1, b, h2, _⟩ := hM.rt r _ hb (by simp)
        rw [h1]
        exact ⟨ℓ, b, h1, h2, by simp [h2]⟩
      | _ => simp [Sh.jw] at hs
    | arr s' xs foc =>
      cases s with
      | own s =>
        simp only [Sh.get] at hg
        split at hg
        case h_2 => cases hg
        rename_i s2 xs2 foc2 hb
        split at hg
        case h_2 => cases hg
        rename_i _ he _ _
        subst he
        obtain ⟨ℓ, h1, h2, h3⟩ := hM.rt r _ hb (by simp)
        rw [h1]
        exact ⟨ℓ, h1, h3.1, h3.2.2.2.2.1, rfl⟩
      | box s => simp [Sh.get] at hg
      | sb p => simp [Sh.get] at hg
      | _ => simp [Sh.jw] at hs
    | sb pq xs =>
      cases s with
      | own s => simp [Sh.get] at hg
      | box s =>
        simp only [Sh.get] at hg
        split at hg
        case h_2 => cases hg
        rename_i bs hb
        obtain ⟨ℓ, h1, b, h2, _⟩ := hM.rt r _ hb (by simp)
        rw [h1]
        exact ⟨ℓ, b, h1, h2, by simp [h2]⟩
      | sb p =>
        simp only [Sh.get] at hg
        split at hg
        case h_2 => cases hg
        rename_i q xs2 hb
        obtain ⟨ℓ, h1, b, h2, _⟩ := hM.rt r _ hb (by simp)
        rw [h1]
        exact ⟨ℓ, b, h1, h2, by simp [h2]⟩
      | _ => simp [Sh.jw] at hs
    | dead => cases s <;> simp [Sh.jw] at hs <;> simp [Sh.get] at hg
    | frz e xs => cases s <;> simp [Sh.jw] at hs <;> simp [Sh.get] at hg
    | mj cs => cases s <;> simp [Sh.jw] at hs <;> simp [Sh.get] at hg
    | bor s' xs => cases s <;> simp [Sh.jw] at hs <;> simp [Sh.get] at hg
    | iR n s' xs foc => cases s <;> simp [Sh.jw] at hs <;> simp [Sh.get] at hg
    | pT n s' xs i cs q => cases s <;> simp [Sh.jw] at hs <;> simp [Sh.get] at hg
    | itr r' n s' xs left cur => cases s <;> simp [Sh.jw] at hs <;> simp [Sh.get] at hg
def mr (m0 : Mem) (μ : aZ) : List (Option Nat) → List VSh → List AV → List Value → Prop
  | o :: os, a :: l, x :: xs, u :: us => (∀ r, o = some r → a.1 = false ∧ a.2.jw = true ∧ x = .c (kx m0 r) ∧ u = mh m0 μ r) ∧ mr m0 μ os l xs us
  | _, _, _, _ => True
theorem tu {m0 : Mem} : ∀ {l : List VSh} {os : List (Option Nat)} {xs : List AV} {vs : List Value} {m m' : Mem} {Z F : Nat → Prop} {y : iS l}, az B m w Z μ → bX B m w Z μ F → ARs w Z μ xs vs → sa l xs m = some (y, m') → mr m0 μ os l xs vs → mD μ os l vs
  | [], os, xs, vs, m, m', Z, F, y, hM, hF, hx, h, hr => by cases os <;> trivial
  | [a], os, xs, vs, m, m', Z, F, y, hM, hF, hx, h, hr => by
    match xs, h with
    | [x], h =>
      obtain ⟨v, vs', rfl, h1, h2⟩ := hx
      have h2 : vs' = [] := h2
      subst h2
      match os, hr with
      | [], _ => trivial
      | o :: os, hr =>
        refine ⟨fun r ho => ?_, by cases os <;> trivial⟩
        obtain ⟨k1, k2, k3, k4⟩ := hr.1 r ho
        obtain ⟨g, s⟩ := a
        simp only at k1 k2
        subst k1
        subst k3
        subst k4
        exact ⟨rfl, tg hM k2 h⟩
  | a :: b :: l, os, xs, vs, m, m', Z, F, y, hM, hF, hx, h, hr => by
    match xs, h with
    | x :: xs, h =>
      obtain ⟨v, vs', rfl, h1, h2⟩ := hx
      simp only [sa] at h
      split at h
      case h_2 => cases h
      rename_i y1 m1 hg
      split at h
      case h_2 => cases h
      rename_i y2 m2 hgs
      obtain ⟨Z1, F1, S1, e1, e2, e3, _⟩ := mi hM hF h1 hg
      match os, hr with
      | [], _ => trivial
      | o :: os, hr =>
        refine ⟨fun r ho => ?_, tu (l := b :: l) e1 e2 (h2.mono (aj.refl _ _) e3 (bP.refl μ)) hgs hr.2⟩
        obtain ⟨k1, k2, k3, k4⟩ := hr.1 r ho
        obtain ⟨g, s⟩ := a
        simp only at k1 k2
        subst k1
        subst k3
        subst k4
        exact ⟨rfl, tg hM k2 hg⟩
theorem mD.restrict {μr : aZ} : ∀ {os : List (Option Nat)} {l : List VSh} {us : List Value}, (∀ r, some r ∈ os → μr r = μ r) → mD μ os l us → mD μr os l us
  | [], _, _, _, _ => trivial
  | _ :: _, [], _, _, _ => trivial
  | _ :: _, _ :: _, [], _, _ => trivial
  | o :: os, a :: l, u :: us, h, hl => by
    refine ⟨fun r ho => ?_, hl.2.restrict fun r hr => h r (List.mem_cons_of_mem _ hr)⟩
    obtain ⟨h1, h2⟩ := hl.1 r ho
    refine ⟨h1, ?_⟩
    have he := h r (by rw [ho]; exact List.mem_cons_self)
    cases hs : a.2 with
    | own s => rw [hs] at h2; obtain ⟨ℓ, k1, k2⟩ := h2; exact ⟨ℓ, by rw [he]; exact k1, k2⟩
    | box s => rw [hs] at h2; obtain ⟨ℓ, b, k1, k2⟩ := h2; exact ⟨ℓ, b, by rw [he]; exact k1, k2⟩
    | sb p => rw [hs] at h2; obtain ⟨ℓ, b, k1, k2⟩ := h2; exact ⟨ℓ, b, by rw [he]; exact k1, k2⟩
    | _ => rw [hs] at h2; exact h2.elim
theorem mr.cut {m0 : Mem} : ∀ {sl : List (Nat × VSh)} {rt : List (Nat × Sh)} {s : St} {a : Act}, (∀ p ∈ rt, p.2.jw = true) →
    mr m0 μ (sl.map (fun _ => none) ++ rt.map fun p => some p.1) (sl.map (·.2) ++ rt.map fun p => (false, p.2)) (sl.map (fun p => s.get p.1) ++ rt.map fun p => .c (kx m0 p.1)) (sl.map (fun p => a.tmps.getD p.1 undef) ++ rt.map fun p => mh m0 μ p.1)
  | _ :: sl, rt, s, a, h => ⟨(fun r hr => by cases hr), mr.cut (sl := sl) h⟩
  | [], p :: rt, s, a, h => ⟨(fun r hr => by cases hr; exact ⟨rfl, h p List.mem_cons_self, rfl, rfl⟩), mr.cut (sl := []) (a := a) (s := s) fun q hq => h q (List.mem_cons_of_mem _ hq)⟩
  | [], [], _, _, _ => trivial
theorem ARs.cutL {s : St} {a : Act} (hR : Rel B s a w Z μ) : ∀ (sl : List (Nat × VSh)), ARs w Z μ (sl.map fun p => s.get p.1) (sl.map fun p => a.tmps.getD p.1 undef)
  | [] => rfl
  | p :: sl => ⟨_, _, rfl, hR.get p.1, ARs.cutL hR sl⟩
theorem ARs.cutR {m : Mem} (hM : az B m w Z μ) : ∀ (rt : List (Nat × Sh)), ARs w Z μ (rt.map fun p => .c (kx m p.1)) (rt.map fun p => mh m μ p.1)
  | [] => rfl
  | p :: rt => ⟨_, _, rfl, vQ hM p.1, ARs.cutR hM rt⟩
theorem ARs.at_ : ∀ {xs : List AV} {vs : List Value}, ARs w Z μ xs vs → ∀ (k : Nat) (x : AV), xs[k]? = some x → ∃ v, vs[k]? = some v ∧ AR w Z μ x v
  | [], _, _, k, x, h => by simp at h
  | y :: xs, vs, hx, 0, x, h => by
    obtain ⟨v, vs', rfl, h1, _⟩ := hx
    simp at h; subst h
    exact ⟨v, rfl, h1⟩
  | y :: xs, vs, hx, k + 1, x, h => by
    obtain ⟨v, vs', rfl, _, h2⟩ := hx
    simpa using ARs.at_ h2 k x (by simpa using h)
end
theorem rA {a b : List Nat} (h : subset a b = true) {x : Nat} (hx : x ∈ a) : x ∈ b := by
  have := List.all_eq_true.1 h x hx
  simpa using this
section
variable {B : eD} {w0 w : World} {Z0 Z : Nat → Prop} {μ0 μ : aZ}
theorem mY {c : Cut} {b s : St} {y : c.den} {a0 a : Act} {F : Nat → Prop} (hb : Rel B b a0 w0 Z0 μ0) (hs : Rel B s a w Z μ) (hL0 : bX B s.mem w Z μ F) (hev : Ev b s) (hext : bP μ0 μ) (h : c.get b.mem.roots.length s = some y) :
    ∃ Z' μ', Rel B (c.put b y) a w Z' μ' ∧ (∀ d, Z d → Z' d) ∧ bP μ0 μ' ∧ bX B (c.put b y).mem w Z' μ' F := by
  unfold Cut.get at h
  split at h
  case h_2 => cases h
  rename_i x m hg
  split at h
  case h_2 => cases h
  rename_i hsub1 hsub2
  cases h
  simp only [Bool.and_eq_true, List.all_eq_true, decide_eq_true_eq] at hsub1
  obtain ⟨hdT, hnr, hns, hobj⟩ := hsub1
  have hxs := (ARs.cutL hs c.sl).append (ARs.cutR hs.mem c.rt)
  have hlead := tu hs.mem hL0 hxs hg (mr.cut (m0 := s.mem) (s := s) (a := a) fun p hp => (hobj p hp).1)
  obtain ⟨Z', F', S, hM, hF, hZ, hFF, hS, _, hV⟩ := mq hs.mem hL0 hxs hg
  have hgt := sx hg
  let n0 := b.mem.roots.length
  let μr : aZ := fun r => if r < n0 then μ r else none
  have hμr : ∀ r, r < n0 → μr r = μ r := fun r hr => if_pos hr
  have hμr' : ∀ r, n0 ≤ r → μr r = none := fun r hr => if_neg (by omega)
  have hμ0 : ∀ r, μ0 r ≠ none → r < n0 := fun r hr => by
    rcases Nat.lt_or_ge r n0 with h1 | h1
    · exact h1
    · exact absurd (hb.mem.far r h1) hr
  have hrr : ∀ r, μ0 r ≠ none → μr r = μ r := fun r hr => hμr r (hμ0 r hr)
  have hx0 : bP μ0 μr := fun r ℓ hr => by rw [hrr r (by rw [hr]; simp)]; exact hext r ℓ hr
  let m0 : Mem := ⟨jd b.mem.roots (c.kr ++ c.rt.map (·.1)) ++ List.replicate (jy c.shs) .dead, (c.kr ++ c.rt.map (·.1)).foldl (fun d r => d ||| 2 ^ r) b.mem.dR, b.mem.roots.length⟩
  have hkl : (jd b.mem.roots (c.kr ++ c.rt.map (·.1))).length = n0 := la _ _
  have hm0 : ∀ r x, m0.roots[r]? = some x → x ≠ .dead → r < n0 ∧ b.mem.roots[r]? = some x ∧ m.roots[r]? = some x := by
    intro r x hx hd
    rcases Nat.lt_or_ge r n0 with h1 | h1
    · have h2 : (jd b.mem.roots (c.kr ++ c.rt.map (·.1)))[r]? = some x := by
        have : m0.roots[r]? = _ := List.getElem?_append_left (by rw [hkl]; exact h1)
        rw [this] at hx; exact hx
      obtain ⟨k1, k2⟩ := lz (c.kr ++ c.rt.map (·.1)) b.mem.roots r
      by_cases hmem : r ∈ c.kr ++ c.rt.map (·.1)
      · rw [k2 hmem] at h2
        cases hbr : b.mem.roots[r]? with
        | none => rw [hbr] at h2; cases h2
        | some z => rw [hbr] at h2; cases h2; exact absurd rfl hd
      · rw [k1 hmem] at h2
        refine ⟨h1, h2, ?_⟩
        have hbit : m.dR.testBit r = false := by
          cases hbb : m.dR.testBit r with
          | false => rfl
          | true =>
            have := rA hsub2 (x := r) (by simp only [List.mem_filter, List.mem_range]; exact ⟨h1, hbb⟩)
            simp only [List.mem_append] at this hmem
            exact absurd this.symm hmem
        have hbit' : s.mem.dR.testBit r = false := by
          cases hbb : s.mem.dR.testBit r with
          | false => rfl
          | true => rw [hgt.dR r hbb] at hbit; cases hbit
        rw [hgt.same r (by omega) hbit, hev.rt r h1 hbit']
        exact h2
    · have : m0.roots[r]? = _ := List.getElem?_append_right (by rw [hkl]; exact h1)
      rw [this, List.getElem?_replicate] at hx
      split at hx
      · cases hx; exact absurd rfl hd
      · cases hx
  have hml : m0.roots.length = n0 + jy c.shs := by
    have hroots : m0.roots = jd b.mem.roots (c.kr ++ c.rt.map (·.1)) ++ List.replicate (jy c.shs) bk.dead := rfl
    rw [hroots, List.length_append, hkl, List.length_replicate]
  have hM0 : az B m0 w Z' μr := hM.restrict (fun r x hx hd => by
      obtain ⟨k1, k2, k3⟩ := hm0 r x hx hd
      refine ⟨k3, hμr r k1, fun ℓ hℓ => ?_⟩
      obtain ⟨ℓ0, _, g⟩ := hb.mem.rt r x k2 hd
      exact fa.restrict hrr g hℓ) (fun r hr => hμr' r (by omega))
  have hF0 : bX B m0 w Z' μr F' := hF.restrict fun r x hx hd => by
    obtain ⟨k1, k2, k3⟩ := hm0 r x hx hd
    exact ⟨k3, hμr r k1⟩
  have hfree : iM m0 μr (jy c.shs) := fun k hk => by
    refine ⟨hμr' _ (by show n0 ≤ n0 + k; omega), ?_⟩
    have : m0.roots[m0.cur + k]? = _ := List.getElem?_append_right (by rw [hkl]; show n0 ≤ n0 + k; omega)
    rw [this, List.getElem?_replicate, if_pos (by rw [hkl]; show n0 + k - n0 < _; omega)]
  obtain ⟨μ2, e1, e2, e3, e4, e5⟩ := vn hM0 hF0 hfree hV (fun d hd => (hS d hd).1) (hlead.restrict (μr := μr) fun r hr => by
    simp only [List.mem_append, List.mem_map, reduceCtorEq, and_false, exists_false, Option.some.injEq, false_or] at hr
    obtain ⟨p, hp, rfl⟩ := hr
    exact hμr _ (hobj p hp).2)
  have hput : c.put b y = ⟨lb b.tmps ((c.sl.map (·.1)).zip (mks c.shs y m0).1 ++ c.kill.map fun k => (k, .c .undef)), dU (mks c.shs y m0).2 (c.rt.map (·.1)) ((mks c.shs y m0).1.drop c.sl.length), c.sl.map (·.1) ++ (c.kill ++ b.dT)⟩ := rfl
  rw [hput]
  obtain ⟨hfl, _⟩ := sH (l := c.shs) (x := y) (m := m0)
  generalize hmk : mks c.shs y m0 = k at e1 e2 e3 e4 e5 hfl
  obtain ⟨vs', m2⟩ := k
  simp only at e1 e2 e3 e4 e5 hfl ⊢
  have hfl' : vs'.length = c.sl.length + c.rt.length := by rw [hfl]; simp [Cut.shs]
  obtain ⟨lo', hlo, hbk⟩ := e5.up (k := c.sl.length) (by simp) (by omega)
  have hbk' : kt B w Z' m2 μ2 lo' ((c.rt.map (·.1)).map some) (vs'.drop c.sl.length) := by
    have : (c.sl.map (fun _ => (none : Option Nat)) ++ c.rt.map fun p => some p.1).drop c.sl.length = (c.rt.map (·.1)).map some := by
      rw [List.drop_append_of_le_length (by simp), List.drop_of_length_le (by simp)]
      simp
    rw [← this]; exact hbk
  obtain ⟨μ3, g1, g2, _, _, g5⟩ := lI e1 e2 hnr (fun r hr => by
    obtain ⟨p, hp, rfl⟩ := List.mem_map.1 hr
    have hlt : p.1 < n0 := (hobj p hp).2
    have hcur : m0.cur = n0 := rfl
    refine ⟨by omega, ?_⟩
    rw [(e4.old p.1 (.inl hlt)).2]
    have h1 : m0.roots[p.1]? = _ := List.getElem?_append_left (by rw [hkl]; exact hlt)
    rw [h1, (lz _ _ _).2 (List.mem_append_right _ hr), List.getElem?_eq_getElem hlt]
    rfl) hbk'
  refine ⟨Z', μ3, ⟨g1, fun i z hz => ?_, ?_, hs.df⟩, hZ, hx0.trans (e4.ext.trans g2), g5.grow fun d hd => ⟨hFF d hd, fun h => (hS d h).2 hd⟩⟩
  · rcases sX _ _ i z hz with h1 | ⟨h1, h2⟩
    · rcases List.mem_append.1 h1 with h1 | h1
      · obtain ⟨k, hk⟩ := List.getElem?_of_mem h1
        rw [List.getElem?_zip_eq_some] at hk
        obtain ⟨hk1, hk2⟩ := hk
        obtain ⟨v, hv, har⟩ := ARs.at_ e3 k z hk2
        have hkl2 : k < c.sl.length := by
          have := (List.getElem?_eq_some_iff.1 hk1).1
          simpa using this
        rw [List.getElem?_append_left (by simpa using hkl2), List.getElem?_map] at hv
        rw [List.getElem?_map] at hk1
        rw [List.getElem?_eq_getElem hkl2] at hv hk1
        simp only [Option.map_some, Option.some.injEq] at hv hk1
        rw [← hk1, hv]
        exact har.mono (aj.refl _ _) (fun _ h => h) g2
      · obtain ⟨k, _, hk⟩ := List.mem_map.1 h1
        cases hk
        exact AR.undef _
    · have hnot : i ∉ s.dT := fun hi => by
        have := rA hdT hi
        rcases List.mem_append.1 this with h3 | h3
        · obtain ⟨k, hk⟩ := List.getElem?_of_mem h3
          have hkl2 : k < c.sl.length := by
            have := (List.getElem?_eq_some_iff.1 hk).1
            simpa using this
          refine h2 vs'[k] (List.mem_append_left _ (List.mem_of_getElem? (i := k) ?_))
          rw [List.getElem?_zip_eq_some]
          exact ⟨hk, List.getElem?_eq_getElem (by omega)⟩
        · exact h2 (.c .undef) (List.mem_append_right _ (List.mem_map.2 ⟨i, h3, rfl⟩))
      have h4 := hs.tm i z ((hev.tm i hnot).trans h1)
      have h5 := hb.tm i z h1
      exact (AR.restrict hrr h5 h4).mono (aj.refl _ _) hZ (e4.ext.trans g2)
  · show (lb b.tmps _).length = _
    rw [l0, ← hev.tl]
    exact hs.len
theorem og {c : Cut} {b s : St} {y : c.den} {a0 a : Act} (hb : Rel B b a0 w0 Z0 μ0) (hs : Rel B s a w Z μ) (hev : Ev b s) (hext : bP μ0 μ) (h : c.get b.mem.roots.length s = some y) :
    ∃ Z' μ', Rel B (c.put b y) a w Z' μ' ∧ (∀ d, Z d → Z' d) ∧ bP μ0 μ' := by
  obtain ⟨Z', μ', h1, h2, h3, _⟩ := mY hb hs (bX.none B s.mem w Z μ) hev hext h
  exact ⟨Z', μ', h1, h2, h3⟩
end
end Go.Mach
namespace Go.Mach
theorem qZ : ∀ (l : List Nat) (d r : Nat), (l.foldl (fun d r => d ||| 2 ^ r) d).testBit r = (d.testBit r || l.contains r)
  | [], d, r => by simp
  | x :: l, d, r => by
    rw [List.foldl_cons, qZ l, Nat.testBit_or, Nat.testBit_two_pow, List.contains_cons]
    have hx : decide (x = r) = (r == x) := by
      rw [Bool.eq_iff_iff]; simp only [decide_eq_true_eq, beq_iff_eq]; exact eq_comm
    rw [hx, Bool.or_assoc]
theorem jT : ∀ (rs : List Nat) (vs : List AV) (m : Mem), Touch m (dU m rs vs) 0
  | [], _, m => by simp only [dU]; exact Touch.refl m
  | _ :: _, [], m => by simp only [dU]; exact Touch.refl m
  | r :: rs, v :: vs, m => by
    cases v with
    | c x =>
      simp only [dU]
      cases x.kc with
      | none => exact jT rs vs m
      | some q => exact (Touch.move m q r).et (jT rs vs _)
    | agg cs => simp only [dU]; exact jT rs vs m
    | tup l => simp only [dU]; exact jT rs vs m
theorem tW : ∀ (l : List (Nat × AV)) (ts : List AV) (k : Nat), (∀ v, (k, v) ∉ l) → (lb ts l)[k]? = ts[k]?
  | [], _, _, _ => rfl
  | (i, v) :: l, ts, k, h => by
    rw [lb, tW l _ k fun v' hm => h v' (List.mem_cons_of_mem _ hm)]
    rw [List.getElem?_set_ne (by rintro rfl; exact h v List.mem_cons_self)]
theorem pA {b0 b : St} {c : Cut} {y : c.den} (h : Ev b0 b) : Ev b0 (c.put b y) := by
  let m0 : Mem := ⟨jd b.mem.roots (c.kr ++ c.rt.map (·.1)) ++ List.replicate (jy c.shs) .dead, (c.kr ++ c.rt.map (·.1)).foldl (fun d r => d ||| 2 ^ r) b.mem.dR, b.mem.roots.length⟩
  have hput : c.put b y = ⟨lb b.tmps ((c.sl.map (·.1)).zip (mks c.shs y m0).1 ++ c.kill.map fun k => (k, .c .undef)), dU (mks c.shs y m0).2 (c.rt.map (·.1)) ((mks c.shs y m0).1.drop c.sl.length), c.sl.map (·.1) ++ (c.kill ++ b.dT)⟩ := rfl
  rw [hput]
  have ht : Touch m0 (dU (mks c.shs y m0).2 (c.rt.map (·.1)) ((mks c.shs y m0).1.drop c.sl.length)) (jy c.shs) := (qb c.shs y m0).qY (jT _ _ _)
  have hkl : (jd b.mem.roots (c.kr ++ c.rt.map (·.1))).length = b.mem.roots.length := la _ _
  refine ⟨(l0 _ _).trans h.tl, ?_, fun i hi => ?_, fun r hr hd => ?_⟩
  · show b0.mem.roots.length ≤ (dU _ _ _).roots.length
    rw [ht.len]
    have hroots : m0.roots = jd b.mem.roots (c.kr ++ c.rt.map (·.1)) ++ List.replicate (jy c.shs) bk.dead := rfl
    rw [hroots, List.length_append, hkl]
    have := h.rl
    omega
  · simp only [List.mem_append, not_or] at hi
    obtain ⟨h1, h2, h3⟩ := hi
    refine (tW _ _ i fun v hm => ?_).trans (h.tm i h3)
    rcases List.mem_append.1 hm with hm | hm
    · exact h1 (List.of_mem_zip hm).1
    · obtain ⟨k, hk, he⟩ := List.mem_map.1 hm
      cases he
      exact h2 hk
  · have hrl := h.rl
    have hd0 : m0.dR.testBit r = false := by
      cases hb : m0.dR.testBit r with
      | false => rfl
      | true =>
        have := ht.dR r hb
        have hd : (dU (mks c.shs y m0).2 (c.rt.map (·.1)) ((mks c.shs y m0).1.drop c.sl.length)).dR.testBit r = false := hd
        rw [this] at hd; cases hd
    have hd1 : ((c.kr ++ c.rt.map (·.1)).foldl (fun d r => d ||| 2 ^ r) b.mem.dR).testBit r = false := hd0
    rw [qZ] at hd1
    simp only [Bool.or_eq_false_iff, List.contains_eq_mem, decide_eq_false_iff_not] at hd1
    have h1 := ht.same r (.inl (show r < b.mem.roots.length by omega)) hd
    refine h1.trans (.trans ?_ (h.rt r hr hd1.1))
    have h2 : m0.roots[r]? = _ := List.getElem?_append_left (by rw [hkl]; omega)
    rw [h2]
    exact (lz _ _ r).1 hd1.2
theorem mA.xt {a b : mA} (h : a.same b = true) : a = b := by
  cases a <;> cases b <;> simp [mA.same] at h <;> first | rfl | (subst h; rfl)
theorem pS {n0 : Nat} {k : mA} {s : St} : ∀ (ex : iU) {Φ : ex.den → Prop}, (ex.inj n0 k s).sat Φ → ∃ z, Φ z ∧ ∃ (c : Cut) (y : c.den), c.get n0 s = some y ∧ ∀ {β : Type} (K : gP β) (st : St), ex.go st K z = K.at k (c.put st y)
  | [], Φ, h => h.elim
  | [a], Φ, h => by
    simp only [iU.inj] at h
    split at h
    case h_2 => exact h.elim
    rename_i hk
    split at h
    case h_2 => exact h.elim
    rename_i x hx
    refine ⟨x, h, a.2, x, hx, fun K st => ?_⟩
    simp only [iU.go]
    rw [mA.xt hk]
  | a :: b :: r, Φ, h => by
    simp only [iU.inj] at h
    split at h
    · rename_i hk
      split at h
      case h_2 => exact h.elim
      rename_i x hx
      refine ⟨.inl x, h, a.2, x, hx, fun K st => ?_⟩
      simp only [iU.go, Res.sum]
      rw [mA.xt hk]
    · have h' : (iU.inj n0 k s (b :: r)).sat fun y => Φ (.inr y) := by
        exact Res.qd h
      obtain ⟨z, h1, c, y, h2, h3⟩ := pS (b :: r) h'
      exact ⟨.inr z, h1, c, y, h2, fun K st => by simp only [iU.go, Res.sum]; exact h3 K st⟩
theorem Ent.pA {b s : St} {e : Ent} {o : Oper} (hd : ∀ d, o.dst = some d → d ∈ s.dT) (hf : e.fits s.mem.roots.length) (h : Ev b s) : Ev b (e.put o s) := by
  have hl := (Ent.js hf o rfl).1
  refine ⟨?_, by rw [hl]; exact h.rl, fun i hi => ?_, fun r hr hb => ?_⟩
  · rw [Ent.kS, ← h.tl]; cases o.dst <;> simp
  · rw [Ent.xH] at hi
    rw [Ent.kS, ← h.tm i hi]
    cases hdst : o.dst with
    | none => rfl
    | some d =>
      simp only
      rw [List.getElem?_set_ne (by rintro rfl; exact hi (hd d hdst))]
  · have hlt : r < s.mem.roots.length := Nat.lt_of_lt_of_le hr h.rl
    cases e with
    | none =>
      have hm : (Ent.put none o s).mem = s.mem := by cases h : o.dst <;> simp [Ent.put, St.put, h]
      rw [hm] at hb ⊢
      exact h.rt r hr hb
    | some e =>
      obtain ⟨v, R, W, m1⟩ := e
      have hm : (Ent.put (some (v, R, W, m1)) o s).mem = s.mem.over m1 W := by cases h : o.dst <;> simp [Ent.put, St.with, St.put, h]
      rw [hm] at hb ⊢
      have hW : ¬ W.has r ∧ s.mem.dR.testBit r = false := by
        cases W with
        | none =>
          simp only [Mem.over, Nat.testBit_or, Nat.testBit_two_pow_sub_one, Bool.or_eq_false_iff, decide_eq_false_iff_not] at hb
          exact absurd hlt hb.2
        | some l =>
          cases l with
          | nil => exact ⟨by simp [gD.has], hb⟩
          | cons x l =>
            have hb' : ((x :: l).foldl (fun d r => d ||| 2 ^ r) s.mem.dR).testBit r = false := hb
            rw [qZ] at hb'
            simp only [Bool.or_eq_false_iff] at hb'
            exact ⟨(fun hh => by rw [show (x :: l).contains r = true from hh] at hb'; cases hb'.2), hb'.1⟩
      rw [(oA (by rw [hf v R W m1 rfl]) W r).2 hW.1]
      exact h.rt r hr hW.2
theorem wk {b : St} {N : Nat} : ∀ (L : List (Oper × Ent)) (S : Nat → Bool) (i : Nat) (s : St), (∀ p ∈ L, ∀ d, p.1.dst = some d → d ∈ s.dT) → (∀ p ∈ L, p.2.fits N) → s.mem.roots.length = N → Ev b s → Ev b (stS L S i s) ∧ (stS L S i s).dT = s.dT
  | [], _, _, _, _, _, _, h => ⟨h, rfl⟩
  | (o, e) :: L, S, i, s, hd, hf, hN, h => by
    simp only [stS]
    have hfe := hf (o, e) List.mem_cons_self
    cases S i with
    | false => exact wk L S (i + 1) s (fun p hp => hd p (List.mem_cons_of_mem _ hp)) (fun p hp => hf p (List.mem_cons_of_mem _ hp)) hN h
    | true =>
      have h1 := wk (b := b) L S (i + 1) (e.put o s) (fun p hp d hdd => by rw [Ent.xH]; exact hd p (List.mem_cons_of_mem _ hp) d hdd) (fun p hp => hf p (List.mem_cons_of_mem _ hp)) (Ent.js hfe o hN).1 (Ent.pA (fun d hdd => hd (o, e) List.mem_cons_self d hdd) (by rw [hN]; exact hfe) h)
      exact ⟨h1.1, h1.2.trans (Ent.xH e o s)⟩
end Go.Mach
namespace Go.Mach
theorem ur (E : Env) (o : Oper) (l : List Oper) : ct E (o :: l) = cF E o + ct E l := by
  have : ∀ (l : List Oper) (n : Nat), l.foldl (fun n o => n + cF E o) n = n + l.foldl (fun n o => n + cF E o) 0 := by
    intro l
    induction l with
    | nil => intro n; rfl
    | cons x l ih => intro n; rw [List.foldl_cons, List.foldl_cons, ih, ih (0 + cF E x)]; omega
  unfold ct
  rw [List.foldl_cons, this]
  omega
theorem az.room {B : eD} {m : Mem} {w : World} {Z : Nat → Prop} {μ : aZ} (h : az B m w Z μ) (n : Nat) : az B (m.room n) w Z μ := by
  refine h.restrict (fun r x hx hd => ?_) (fun r hr => h.far r ?_)
  · have hx : (m.roots ++ List.replicate n .dead)[r]? = some x := hx
    rcases Nat.lt_or_ge r m.roots.length with h1 | h1
    · rw [List.getElem?_append_left h1] at hx
      exact ⟨hx, rfl, fun _ h => h⟩
    · rw [List.getElem?_append_right h1, List.getElem?_replicate] at hx
      split at hx
      · cases hx; exact absurd rfl hd
      · cases hx
  · have hr : (m.roots ++ List.replicate n bk.dead).length ≤ r := hr
    rw [List.length_append] at hr
    omega
end Go.Mach
namespace Go.Mach
section
variable {B : eD} {E : Env} {ops : Array Oper} {A : List Nat} {β : Type} {Ψ : β → Prop} {K : St → Res β}
theorem ly {Q : Exit → Act → World → Prop} {b : St} {μ0 : aZ} (hdr : E.dr = false) (hE : lv E B.g)
    (hQ : ∀ s a w Z μ, (K s).sat Ψ → Rel B s a w Z μ → Ev b s → bP μ0 μ → Q .normal a w) : ∀ (rest : List Oper) (i c N : Nat) (l : Log) (st : St) {a : Act} {w : World} {Z : Nat → Prop} {μ : aZ},
    rest = ops.toList.drop i → c + ct E rest ≤ N → N ≤ st.mem.roots.length → b.mem.roots.length ≤ c → (∀ o ∈ ops.toList, ∀ d, o.dst = some d → d ∈ st.dT) → Rel B st a w Z μ → Ev b st → bP μ0 μ →
    (∀ r, c ≤ r → r < N → μ r = none) → (jQ E ops A rest i c l st K).sat Ψ → wpOps E.P ops Q (List.range' i rest.length) a w
  | [], i, c, N, l, st, a, w, Z, μ, hrest, hc, hN, hbl, hd, hR, hev, hext, hfree, h => by
    simp only [List.length_nil, List.range'_zero, wpOps]
    refine hQ _ a w Z μ h ⟨hR.mem.congr rfl, hR.tm, hR.len, hR.df⟩ ⟨hev.tl, hev.rl, hev.tm, hev.rt⟩ hext
  | o :: rest, i, c, N, l, st, a, w, Z, μ, hrest, hc, hN, hbl, hd, hR, hev, hext, hfree, h => by
    rw [ur] at hc
    have ho : ops.toList[i]? = some o := by
      have h1 := congrArg (fun l : List Oper => l[0]?) hrest
      simpa using h1.symm
    have ho' : ops[i]? = some o := by simpa using ho
    have hmem : o ∈ ops.toList := List.mem_of_getElem? ho
    have hrest' : rest = ops.toList.drop (i + 1) := by
      have h1 := congrArg List.tail hrest
      simpa using h1
    simp only [List.length_cons, List.range'_succ, wpOps, ho']
    simp only [jQ] at h
    split at h
    · rename_i hw
      rw [hdr] at h
      simp only at h
      rw [nI hR hw]
      simp only [if_true]
      left
      let st' : St := ⟨st.tmps, st.mem.at c, st.dT⟩
      have hR' : Rel B st' a w Z μ := ⟨hR.mem.congr rfl, hR.tm, hR.len, hR.df⟩
      split at h
      ·
        rename_i j xs hj
        obtain ⟨cl, hop, hcal, rfl, hjm, _⟩ := mn hj
        have hok := hE.inls j hjm
        obtain ⟨fn, hfn, hbody, hname⟩ := hok.fn
        have hexec : (execOp a.eval o).run E.P w = .ok (.enter j.f (cl.args.toList.map a.eval).toArray) w := by
          have hfv : a.eval (.func j.f) = .func (.func j.f) #[] #[] := rfl
          simp only [execOp, hop, resolve, hcal, hfv, Deferred.ofValue, Sem.run_bind, Sem.run_pure, Result.andThen_ok, invoke]
          have hb : fn.body.isNone = false := by cases hfb : fn.body with
            | none => rw [hfb] at hbody; cases hbody
            | some _ => rfl
          simp only [callFunc]
          have hprog : (program : Sem Program).run E.P w = .ok E.P w := rfl
          simp only [Sem.run_bind, hprog, Result.andThen_ok, hfn, hname, hb, Bool.false_eq_true, if_false, Sem.run_pure]
          have : (cl.args.toList.map a.eval).toArray = cl.args.map a.eval := by
            apply Array.ext'
            simp
          rw [this]
          simp
        refine Oper.xI (oN hexec (Calls.mono (hok.run B β Ψ _ _ _ w Z μ _ rfl hR'.mem (ARs.gz hR _) h) ?_))
        rintro e w' ⟨vr, v, m', Z', μ', rfl, hk, hM, hv, hsame, hzz, hext', hlen, hkeep, hbits⟩
        refine ⟨vr, rfl, ?_⟩
        have hg := (qK hk).1
        have hmem' : (st.with o.dst v (m'.room (ct E rest))).mem = m'.room (ct E rest) := by cases hx : o.dst <;> simp [St.with, St.put, hx]
        have hdT' : (st.with o.dst v (m'.room (ct E rest))).dT = st.dT := by cases hx : o.dst <;> simp [St.with, St.put, hx]
        have htm : (st.with o.dst v (m'.room (ct E rest))).tmps = (match o.dst with | some d => st.tmps.set d v | none => st.tmps) := by cases hx : o.dst <;> simp [St.with, St.put, hx]
        have hlen : st.mem.roots.length ≤ m'.roots.length := hlen
        have hkeep : ∀ r, r < st.mem.roots.length → m'.dR.testBit r = false → m'.roots[r]? = st.mem.roots[r]? := hkeep
        have hbits : ∀ r, st.mem.dR.testBit r = true → m'.dR.testBit r = true := hbits
        have hrl : (m'.room (ct E rest)).roots.length = m'.roots.length + ct E rest := by simp [Mem.room]
        refine ly hdr hE hQ rest (i + 1) m'.roots.length (m'.roots.length + ct E rest) l _ hrest' (Nat.le_refl _) (by rw [hmem', hrl]; exact Nat.le_refl _) (Nat.le_trans hev.rl hlen) (by rw [hdT']; exact hd)
          (hR.put (hM.room _) hsame hzz hext' o.dst hv) ⟨?_, by rw [hmem', hrl]; exact Nat.le_trans hev.rl (Nat.le_trans hlen (Nat.le_add_right _ _)), fun k hk => ?_, fun r hr hb => ?_⟩ (hext.trans hext') (fun r h1 _ => hM.far r h1) hg
        · rw [htm, ← hev.tl]; cases o.dst <;> simp
        · rw [hdT'] at hk
          rw [htm, ← hev.tm k hk]
          cases hdst : o.dst with
          | none => rfl
          | some d =>
            simp only
            rw [List.getElem?_set_ne (by rintro rfl; exact hk (hd o hmem d hdst))]
        · rw [hmem'] at hb ⊢
          have hb : m'.dR.testBit r = false := hb
          have hb0 : st.mem.dR.testBit r = false := by
            cases hbb : st.mem.dR.testBit r with
            | false => rfl
            | true => rw [hbits r hbb] at hb; cases hb
          have hrs : r < st.mem.roots.length := Nat.lt_of_lt_of_le hr hev.rl
          show (m'.roots ++ List.replicate (ct E rest) bk.dead)[r]? = _
          rw [List.getElem?_append_left (Nat.lt_of_lt_of_le hrs hlen), hkeep r hrs hb]
          exact hev.rt r hr hb0
      have hF : jJ st' (cF E o) μ := fun k hk => by
        have h1 : μ (c + k) = none := hfree _ (by omega) (by omega)
        refine ⟨h1, ?_⟩
        show st.mem.roots[c + k]? = _
        cases hx : st.mem.roots[c + k]? with
        | none => rw [List.getElem?_eq_none_iff] at hx; omega
        | some x =>
          by_cases hdd : x = .dead
          · rw [hdd]
          · obtain ⟨ℓ, h2, _⟩ := hR.mem.rt _ x hx hdd
            rw [h1] at h2; cases h2
      rw [lX] at h
      have h1 : (step E st' o Res.ok).sat fun s' => ∃ v m, s' = st.with o.dst v m ∧ qC (st.mem.at c) m (cF E o) ∧ (mw ops o.dst (st.with o.dst v m) fun st' => jQ E ops A rest (i + 1) (c + cF E o) l st' K).sat Ψ := by
        have h2 := j8 h
        have hends := rn E (val st) (fun g => rfl) (st.mem.at c) o
        unfold step
        rw [show val st' = val st from AP st _ _, lX E (val st) st'.mem o]
        show ((dG E (val st) (st.mem.at c) o i6).bind _).sat _
        exact Res.oH (Res.vA (fun p hp => ⟨p.1, p.2, rfl, hp.2, hp.1⟩) (Res.yt h2 fun p hp => hends p.1 p.2 hp))
      refine Oper.xI (Oper.wp_mono ?_ (pH hR' hE (Nat.le_refl _) hF h1))
      rintro a' w' ⟨s', Z', μ', hR2, ⟨v, m, rfl, ⟨k, hk, ht⟩, hg⟩, hlen, hdT, hout, hzz, hext'⟩
      have hg := (qK hg).1
      have hmem' : (st.with o.dst v m).mem = m := by cases hx : o.dst <;> simp [St.with, St.put, hx]
      have hdT' : (st.with o.dst v m).dT = st.dT := by cases hx : o.dst <;> simp [St.with, St.put, hx]
      have htm : (st.with o.dst v m).tmps = (match o.dst with | some d => st.tmps.set d v | none => st.tmps) := by cases hx : o.dst <;> simp [St.with, St.put, hx]
      have hml : m.roots.length = st.mem.roots.length := ht.len
      rw [hmem'] at hlen
      refine ly hdr hE hQ rest (i + 1) (c + cF E o) N l _ hrest' (by omega) (by rw [hmem', hml]; exact hN) (by omega) (by rw [hdT']; exact hd) hR2 ⟨?_, by rw [hmem', hml]; exact hev.rl, fun j hj => ?_, fun r hr hb => ?_⟩ (hext.trans hext') (fun r h1 h2 => hout r (.inr (show c + cF E o ≤ r from h1)) (hfree r (by omega) h2)) hg
      · rw [htm, ← hev.tl]; cases o.dst <;> simp
      · rw [hdT'] at hj
        rw [htm, ← hev.tm j hj]
        cases hdst : o.dst with
        | none => rfl
        | some d =>
          simp only
          rw [List.getElem?_set_ne (by rintro rfl; exact hj (hd o hmem d hdst))]
      · rw [hmem'] at hb ⊢
        have hb0 : st.mem.dR.testBit r = false := by
          cases hbb : st.mem.dR.testBit r with
          | false => rfl
          | true => rw [ht.dR r hbb] at hb; cases hb
        rw [ht.same r (.inl (show r < c by omega)) hb]
        exact hev.rt r hr hb0
    · rename_i hw
      rw [nI hR hw]
      simp only [Bool.false_eq_true, if_false]
      have hR' : Rel B (st.put o.dst (.tup [])) (a.put o.dst Go.undef) w Z μ := hR.pW o.dst ⟨[], rfl, rfl, fun k h => by simp at h⟩
      have hmem' : (st.put o.dst (.tup [])).mem = st.mem := by cases hx : o.dst <;> simp [St.put, hx]
      have hdT' : (st.put o.dst (.tup [])).dT = st.dT := by cases hx : o.dst <;> simp [St.put, hx]
      have htm : (st.put o.dst (.tup [])).tmps = (match o.dst with | some d => st.tmps.set d (.tup []) | none => st.tmps) := by cases hx : o.dst <;> simp [St.put, hx]
      refine ly hdr hE hQ rest (i + 1) (c + cF E o) N l _ hrest' (by omega) (by rw [hmem']; exact hN) (by omega) (by rw [hdT']; exact hd) hR' ⟨?_, by rw [hmem']; exact hev.rl, fun j hj => ?_, fun r hr hb => ?_⟩ hext (fun r h1 h2 => hfree r (by omega) h2) h
      · rw [htm, ← hev.tl]; cases o.dst <;> simp
      · rw [hdT'] at hj
        rw [htm, ← hev.tm j hj]
        cases hdst : o.dst with
        | none => rfl
        | some d =>
          simp only
          rw [List.getElem?_set_ne (by rintro rfl; exact hj (hd o hmem d hdst))]
      · rw [hmem'] at hb ⊢
        exact hev.rt r hr hb
    · exact h.elim
end
end Go.Mach
namespace Go.Mach
def mA.exit : mA → Exit
  | .nrm => .normal
  | .ret => .ret
  | .ext n => .exit n
section
variable {B : eD}
theorem Rel.more {st : St} {a : Act} {w : World} {Z : Nat → Prop} {μ : aZ} (h : Rel B st a w Z μ) (n c : Nat) (l : List Nat) : Rel B ⟨st.tmps, ⟨st.mem.roots ++ List.replicate n .dead, st.mem.dR, c⟩, l⟩ a w Z μ := by
  refine ⟨h.mem.restrict (fun r x hx hd => ?_) (fun r hr => h.mem.far r ?_), h.tm, h.len, h.df⟩
  · have hx : (st.mem.roots ++ List.replicate n .dead)[r]? = some x := hx
    rcases Nat.lt_or_ge r st.mem.roots.length with h1 | h1
    · rw [List.getElem?_append_left h1] at hx
      exact ⟨hx, rfl, fun _ h => h⟩
    · rw [List.getElem?_append_right h1, List.getElem?_replicate] at hx
      split at hx
      · cases hx; exact absurd rfl hd
      · cases hx
  · have hr : (st.mem.roots ++ List.replicate n bk.dead).length ≤ r := hr
    rw [List.length_append] at hr
    omega
theorem Ev.more {b st : St} (h : Ev b st) (n c : Nat) (l : List Nat) : Ev b ⟨st.tmps, ⟨st.mem.roots ++ List.replicate n .dead, st.mem.dR, c⟩, l ++ st.dT⟩ := by
  refine ⟨h.tl, ?_, fun i hi => h.tm i fun hm => hi (List.mem_append_right _ hm), fun r hr hb => ?_⟩
  · show b.mem.roots.length ≤ (st.mem.roots ++ List.replicate n bk.dead).length
    rw [List.length_append]
    have := h.rl
    omega
  · show (st.mem.roots ++ List.replicate n bk.dead)[r]? = _
    rw [List.getElem?_append_left (Nat.lt_of_lt_of_le hr h.rl)]
    exact h.rt r hr hb
variable {E : Env}
def Sound (B : eD) (E : Env) (c : Code) {β : Type} (r : Res β) (st : St) (K : gP β) : Prop :=
  ∀ (Ψ : β → Prop) (Q : Exit → Act → World → Prop) (b : St) (a0 a : Act) (w0 w : World) (Z0 Z : Nat → Prop) (μ0 μ : aZ), r.sat Ψ → Rel B b a0 w0 Z0 μ0 → Rel B st a w Z μ → Ev b st → bP μ0 μ →
    (∀ (e : mA) (s : St) (a' : Act) (w' : World) (Z' : Nat → Prop) (μ' : aZ), (K.at e s).sat Ψ → Rel B s a' w' Z' μ' → Ev b s → bP μ0 μ' → Q e.exit a' w') → c.wp E.P Q a w
theorem ky {c : Code} {β : Type} {ann : Ann} {st : St} {K : gP β} {run : (γ : Type) → Ann → St → gP γ → Res γ} (hrun : ∀ (γ : Type) (ann : Ann) (st : St) (K : gP γ), Sound B E c (run γ ann st K) st K) :
    Sound B E c (cutAt ann st K run) st K := by
  intro Ψ Q b a0 a w0 w Z0 Z μ0 μ h hb hR hev hext hK
  unfold cutAt at h
  split at h
  · rename_i ex hex
    have hal : Alike st (fresh st) := ⟨rfl, rfl⟩
    refine hrun ex.den ann.inner (fresh st) (kex st.mem.roots.length ex) _ Q (fresh st) a a w w Z Z μ μ (j8 h) (hR.alike hal) (hR.alike hal) (Ev.refl _) (bP.refl μ) ?_
    intro e s a' w' Z' μ' hs hR' hev' hext'
    have hs' : (ex.inj st.mem.roots.length e s).sat fun x => (ex.go st K x).sat Ψ := by
      cases e <;> exact hs
    obtain ⟨z, hz, c', y, hget, hgo⟩ := pS ex hs'
    rw [hgo K st] at hz
    obtain ⟨Z2, μ2, g1, g2, g3⟩ := og (b := st) hR hR' (hev'.congr ⟨rfl, rfl⟩) hext' hget
    exact hK e _ a' w' Z2 μ2 hz g1 (pA hev) (hext.trans g3)
  · exact hrun β ann st K Ψ Q b a0 a w0 w Z0 Z μ0 μ h hb hR hev hext hK
theorem uV (hm : E.P.follows .mixedOrders = true) (hE : lv E B.g) {id : Nat} {ops : Array Oper} {draw : Bool} {β : Type} (st : St) (K : gP β) :
    Sound B E (.region id ops draw) (match (match draw with | true => ancs ops.toList [] | false => []) with
    | A => match !draw || (lP ops && (qD ops A && (lY ops A && Region.noSelect ops))) with
      | true => jQ { E with dr := draw } ops A ops.toList 0 st.mem.roots.length []
          ⟨st.tmps, ⟨st.mem.roots ++ List.replicate (ct E ops.toList) .dead, st.mem.dR, st.mem.roots.length⟩, yX ops ++ st.dT⟩ K.nrm
      | false => .stuck) st K := by
  intro Ψ Q b a0 a w0 w Z0 Z μ0 μ h hb hR hev hext hK
  generalize (match draw with | true => ancs ops.toList [] | false => []) = A at h
  simp only at h
  split at h
  case h_2 => exact h.elim
  rename_i hg
  have hR1 := hR.more (ct E ops.toList) st.mem.roots.length (yX ops ++ st.dT)
  have hev1 := hev.more (ct E ops.toList) st.mem.roots.length (yX ops)
  have hnews : ct { E with dr := draw } ops.toList = ct E ops.toList := rfl
  have hdst : ∀ o ∈ ops.toList, ∀ d, o.dst = some d → d ∈ yX ops ++ st.dT := fun o ho d hd => List.mem_append_left _ (List.mem_filterMap.2 ⟨o, ho, hd⟩)
  have hN : st.mem.roots.length + ct { E with dr := draw } ops.toList ≤ (st.mem.roots ++ List.replicate (ct E ops.toList) bk.dead).length := by
    rw [List.length_append, List.length_replicate, hnews]; exact Nat.le_refl _
  cases draw with
  | false =>
    have h1 := ly (B := B) (E := { E with dr := false }) (ops := ops) (A := A) (Ψ := Ψ) (K := K.nrm) (Q := Q) (b := b) (μ0 := μ0) rfl ⟨hE.specs, hE.inls⟩
      (fun s a' w' Z' μ' hs hR' hev' hext' => hK .nrm s a' w' Z' μ' hs hR' hev' hext') ops.toList 0 st.mem.roots.length _ [] _ (by simp) hN (Nat.le_refl _) hev.rl hdst hR1 hev1 hext (fun r h1 _ => hR.mem.far r h1) h
    refine wp_region ?_
    have : List.range ops.size = List.range' 0 ops.toList.length := by rw [List.range_eq_range']; simp
    rw [this]
    exact h1
  | true =>
    simp only [Bool.not_true, Bool.false_or, Bool.and_eq_true] at hg
    obtain ⟨he, hA, hs, _⟩ := hg
    refine xR (E := { E with dr := true }) (B := B) hm rfl ⟨hE.specs, hE.inls⟩ he hA hs hN hR1 (fun r h1 _ => hR.mem.far r h1) h ?_
    intro es hT hes hKs a' w' Z' μ' hR' _ hext' _
    have hst := wk (b := b) (ops.toList.zip es) (fun j => decide (j < es.length)) 0 ⟨st.tmps, ⟨st.mem.roots ++ List.replicate (ct E ops.toList) .dead, st.mem.dR, st.mem.roots.length⟩, yX ops ++ st.dT⟩
      (fun p hp d hd => hdst p.1 (List.of_mem_zip hp).1 d hd) (hT.fits rfl) rfl hev1
    exact hK .nrm _ a' w' Z' μ' hKs ⟨hR'.mem.congr rfl, hR'.tm, hR'.len, hR'.df⟩ ⟨hst.1.tl, hst.1.rl, hst.1.tm, hst.1.rt⟩ (hext.trans hext')
def Ann.depth : Ann → Nat
  | .unr _ r => r.depth + 1
  | _ => 0
theorem u7 {c : Code} {β : Type} {run : Ann → St → gP β → Res β} (hc : ∀ (ann : Ann) (st : St) (K : gP β), Sound B E c (run ann st K) st K) {K : gP β}
    {Ψ : β → Prop} {Q : Exit → Act → World → Prop} {b : St} {a0 : Act} {w0 : World} {Z0 : Nat → Prop} {μ0 : aZ} (hb : Rel B b a0 w0 Z0 μ0)
    (hK : ∀ (e : mA) (s : St) (a' : Act) (w' : World) (Z' : Nat → Prop) (μ' : aZ), (K.at e s).sat Ψ → Rel B s a' w' Z' μ' → Ev b s → bP μ0 μ' → Q e.exit a' w') :
    ∀ (ann : Ann) (st : St) (a : Act) (w : World) (Z : Nat → Prop) (μ : aZ), (oc run ann st K).sat Ψ → Rel B st a w Z μ → Ev b st → bP μ0 μ → Code.rounds E.P c Q ann.depth a w := by
  intro ann
  induction ann with
  | unr a1 r _ ih =>
    intro st a w Z μ h hR hev hext
    simp only [Ann.depth]
    rw [rounds_succ]
    refine hc a1 st _ Ψ (Exit.then (Code.rounds E.P c Q r.depth) Q) b a0 a w0 w Z0 Z μ0 μ h hb hR hev hext ?_
    intro e s a' w' Z' μ' hs hR' hev' hext'
    cases e with
    | nrm => exact ih s a' w' Z' μ' hs hR' hev' hext'
    | ret => exact hK .ret s a' w' Z' μ' hs hR' hev' hext'
    | ext n => exact hK (.ext n) s a' w' Z' μ' hs hR' hev' hext'
  | _ => intro st a w Z μ h; exact h.elim
theorem rq {c : Code} {β : Type} {head : Cut} {ex : iU} {a' : Ann} {st : St} {K : gP β} (hc : ∀ (γ : Type) (ann : Ann) (st : St) (K : gP γ), Sound B E c (exec E c γ ann st K) st K)
    {Ψ : β → Prop} {Q : Exit → Act → World → Prop} {b : St} {a1 : Act} {w1 : World} {Z1 : Nat → Prop} {μ0 μ : aZ} (hR : Rel B st a1 w1 Z1 μ) (hev : Ev b st) (hext : bP μ0 μ)
    (hK : ∀ (e : mA) (s : St) (a' : Act) (w' : World) (Z' : Nat → Prop) (μ' : aZ), (K.at e s).sat Ψ → Rel B s a' w' Z' μ' → Ev b s → bP μ0 μ' → Q e.exit a' w') :
    ∀ (n : Nat) (x : head.den) (a : Act) (w : World) (Z : Nat → Prop) (μ' : aZ), (Res.loop (fun x => exec E c (Res.Step head.den ex.den) a' (head.put (fresh st) x) (xw st.mem.roots.length head ex)) n x).sat (fun y => (ex.go st K y).sat Ψ) →
      Rel B (head.put (fresh st) x) a w Z μ' → bP μ μ' → Code.rounds E.P c Q n a w
  | 0, x, a, w, Z, μ', h, _, _ => h.elim
  | n + 1, x, a, w, Z, μ', h, hRx, hxx => by
    have hal : Alike st (fresh st) := ⟨rfl, rfl⟩
    rw [rounds_succ]
    refine hc _ a' (head.put (fresh st) x) (xw st.mem.roots.length head ex) _ (Exit.then (Code.rounds E.P c Q n) Q) (fresh st) a1 a w1 w Z1 Z μ μ' (j8 h) (hR.alike hal) hRx (pA (Ev.refl _)) hxx ?_
    intro e s a2 w2 Z2 μ2 hs hR' hev' hext'
    have out : ∀ (Φ : Res.Step head.den ex.den → Prop), (∀ y, Φ (.done y) → (ex.go st K y).sat Ψ) → ((ex.inj st.mem.roots.length e s).bind fun y => (.ok (.done y) : Res (Res.Step head.den ex.den))).sat Φ → Q e.exit a2 w2 := fun Φ hΦ hs => by
      have hs' : (ex.inj st.mem.roots.length e s).sat fun x => (ex.go st K x).sat Ψ := by
        exact Res.vA (fun y hy => hΦ y hy) (j8 hs)
      obtain ⟨z, hz, c', y, hget, hgo⟩ := pS ex hs'
      rw [hgo K st] at hz
      obtain ⟨Z3, μ3, g1, g2, g3⟩ := og (b := st) hR hR' (hev'.congr ⟨rfl, rfl⟩) hext' hget
      exact hK e _ a2 w2 Z3 μ3 hz g1 (pA hev) (hext.trans g3)
    cases e with
    | nrm =>
      simp only [gP.at, xw] at hs
      split at hs
      case h_2 => exact hs.elim
      rename_i y hy
      have hs : (Res.loop _ n y).sat _ := hs
      obtain ⟨Z3, μ3, g1, g2, g3⟩ := og (b := fresh st) (hR.alike hal) hR' hev' hext' hy
      exact rq hc hR hev hext hK n y a2 w2 Z3 μ3 hs g1 g3
    | ret => exact out _ (fun y hy => hy) hs
    | ext k => exact out _ (fun y hy => hy) hs
end
end Go.Mach
namespace Go.Mach
open Go.ChangeMaps (setBlock)
theorem IntKind.gN (k : IntKind) : IntKind.same k k = some ⟨rfl⟩ := by cases k <;> rfl
theorem Ty.gN : ∀ (t : Ty), Ty.same t t = some ⟨rfl⟩
  | .unit => rfl
  | .int k => by simp only [Ty.same, IntKind.gN]
  | .bool => rfl
  | .str => rfl
  | .list e => by simp only [Ty.same, Ty.gN e]
  | .pair a b => by simp only [Ty.same, Ty.gN a, Ty.gN b]
  | .rose a => by simp only [Ty.same, Ty.gN a]
theorem sw (n : Nat) : Nat.decEq n n = .isTrue rfl := by
  cases h : Nat.decEq n n with
  | isTrue _ => rfl
  | isFalse h' => exact absurd rfl h'
theorem Sh.gN : ∀ (s : Sh), Sh.same s s = some ⟨rfl⟩
  | .nil => rfl
  | .undef => rfl
  | .iC => rfl
  | .err => rfl
  | .opq => rfl
  | .sb p => by
    simp only [Sh.same]
    split
    · rfl
    · rename_i h; exact (h rfl (Subsingleton.elim _ _)).elim
  | .frz t => by simp only [Sh.same, Ty.gN t]
  | .own s => by simp only [Sh.same, Sh.gN s]
  | .box s => by simp only [Sh.same, Sh.gN s]
  | .bor s => by simp only [Sh.same, Sh.gN s]
  | .map n s => by simp only [Sh.same, sw, Sh.gN s]
  | .clo f s => by simp only [Sh.same, sw, Sh.gN s]
  | .seq a b => by simp only [Sh.same, Sh.gN a, Sh.gN b]
theorem uO {ops : Array Oper} {it a b : Tmp} (h : p9 ops = some (it, a, b)) : a ≠ b ∧ ∃ t1 p1 e1 t2 p2 e2, ops = #[⟨some a, .next (.tmp it) false, t1, p1, e1, none⟩, ⟨some b, .extract (.tmp a) 0, t2, p2, e2, none⟩] := by
  unfold p9 at h
  split at h
  case h_2 => cases h
  rename_i a0 it0 t1 p1 e1 b0 a0' t2 p2 e2 hl
  split at h
  case h_2 => cases h
  rename_i hc
  simp only [Bool.and_eq_true, beq_iff_eq, Bool.not_eq_true', beq_eq_false_iff_ne, ne_eq] at hc
  obtain ⟨rfl, hne⟩ := hc
  cases h
  exact ⟨hne, t1, p1, e1, t2, p2, e2, by apply Array.ext'; rw [hl]⟩
theorem nj {a : Act} {t : Tmp} {v : Value} (h : t < a.tmps.size) : (a.put (some t) v).eval (.tmp t) = v := by
  simp [Act.put, Act.eval, h]
theorem A3 {P : Program} {id : Nat} {ops : Array Oper} {it ta tb : Tmp} (hops : p9 ops = some (it, ta, tb)) {a : Act} {w : World} (hta : ta < a.tmps.size) {itb bm clock : Nat} {seen : Array Nat} {es : Array MapEntry}
    (hit : a.eval (.tmp it) = .pointer (some ⟨itb, 0, none⟩)) (hr : w.heap[itb]? = some (.mapIter (some bm) clock seen clock)) (hb : w.heap[bm]? = some (.map es clock)) (hold : ∀ x ∈ es.toList, x.born < clock)
    {Q : Exit → Act → World → Prop} (h0 : (leftOf es seen).size = 0 → Q .normal ((a.put (some ta) (.tuple #[.bool false])).put (some tb) (.bool false)) w)
    (h1 : ∀ e ∈ (leftOf es seen).toList, ∀ w1 : World, (w1 = w ∨ w1 = w.drew) → Q .normal ((a.put (some ta) (.tuple #[.bool true, e.key, e.val])).put (some tb) (.bool true)) (setBlock w1 itb (.mapIter (some bm) clock (seen.push e.born) clock))) :
    (Code.region id ops false).wp P Q a w := by
  obtain ⟨hne, t1, p1, e1, t2, p2, e2, rfl⟩ := uO hops
  refine wp_region ?_
  have hrg : List.range (#[(⟨some ta, .next (.tmp it) false, t1, p1, e1, none⟩ : Oper), ⟨some tb, .extract (.tmp ta) 0, t2, p2, e2, none⟩]).size = [0, 1] := rfl
  rw [hrg]
  simp only [wpOps, List.getElem?_toArray, List.getElem?_cons_zero, List.getElem?_cons_succ, Region.wanted, if_true]
  left
  have second : ∀ (v : Value) (vs : Array Value) (w' : World) (t : Bool), v = .tuple vs → vs[0]? = some (.bool t) → Q .normal ((a.put (some ta) v).put (some tb) (.bool t)) w' →
      (⟨some tb, .extract (.tmp ta) 0, t2, p2, e2, none⟩ : Oper).wp P (a.put (some ta) v) w' (fun a w => Q .normal a w) Q := by
    intro v vs w' t hv hvs hq
    refine ji (v := .bool t) (w' := w') ?_ hq
    simp only [execOp, nj hta, hv]
    simp [Instr.extract, hvs]
  have hw2 : ∀ a' : Act, wpOps P #[(⟨some ta, .next (.tmp it) false, t1, p1, e1, none⟩ : Oper), ⟨some tb, .extract (.tmp ta) 0, t2, p2, e2, none⟩] Q [1] a' = fun w' => (⟨some tb, .extract (.tmp ta) 0, t2, p2, e2, none⟩ : Oper).wp P a' w' (fun a w => Q .normal a w) Q ∨ ((⟨some tb, .extract (.tmp ta) 0, t2, p2, e2, none⟩ : Oper).asks P a' w' ∧ LetsOut Q) := by
    intro a'
    funext w'
    simp only [wpOps, List.getElem?_toArray, List.getElem?_cons_zero, List.getElem?_cons_succ, Region.wanted, if_true]
  rcases run_next_at (P := P) w t1 itb bm clock clock seen es clock hr hb hold (Nat.le_refl _) with ⟨hz, hrun⟩ | ⟨e, he, w1, hw1, hrun⟩
  · refine ji (v := .tuple #[.bool false]) (w' := w) ?_ (.inl (second _ #[.bool false] w false rfl rfl (h0 hz)))
    simp only [execOp, hit]
    simp [hrun]
  · refine ji (v := .tuple #[.bool true, e.key, e.val]) (w' := setBlock w1 itb (.mapIter (some bm) clock (seen.push e.born) clock)) ?_ (.inl (second _ #[.bool true, e.key, e.val] _ true rfl rfl (h1 e he w1 hw1)))
    simp only [execOp, hit]
    simp [hrun]
theorem wL (w : World) {b d : Nat} (o : Obj) (h : d ≠ b) : (setBlock w b o).heap[d]? = w.heap[d]? := jR w o h
theorem wR (w : World) {b : Nat} (o : Obj) (h : b < w.heap.size) : (setBlock w b o).heap[b]? = some o := nB w o h
theorem tR (w : World) (b : Nat) (o : Obj) : (setBlock w b o).heap.size = w.heap.size := lW w b o
section
variable {B : eD} {w : World} {Z F : Nat → Prop} {μ : aZ}
def qn (B : eD) (w : World) (Z F : Nat → Prop) (itb bm n : Nat) (s : Sh) (xs : List (List Int × s.den)) (left : List Int → Bool) (es : Array MapEntry) (clock : Nat) (seen : Array Nat) : Prop :=
  F itb ∧ ∃ S : Nat → Prop, (∀ d, S d → F d ∧ d ≠ itb) ∧ w.heap[itb]? = some (.mapIter (some bm) clock seen clock) ∧ w.heap[bm]? = some (.map es clock) ∧
    (∀ i (h : i < xs.length) (h' : i < es.size), left xs[i].1 = true ↔ seen.contains es[i].born = false) ∧ pt w n xs (fun _ us x S => SR w Z B.Y s us x S) bm S
theorem qn.up {Z' F' : Nat → Prop} {itb bm n : Nat} {s : Sh} {xs : List (List Int × s.den)} {left : List Int → Bool} {es : Array MapEntry} {clock : Nat} {seen : Array Nat} (h : qn B w Z F itb bm n s xs left es clock seen) (hz : ∀ b, Z b → Z' b) (hf : ∀ b, F b → F' b) :
    qn B w Z' F' itb bm n s xs left es clock seen := by
  obtain ⟨h1, S, h2, h3, h4, h5, h6⟩ := h
  exact ⟨hf _ h1, S, fun d hd => ⟨hf d (h2 d hd).1, (h2 d hd).2⟩, h3, h4, h5, h6.mono rfl (fun _ h => h) fun i us x T _ hR => hR.up hz⟩
theorem vh {s : St} {a : Act} (hR : Rel B s a w Z μ) (hL : bX B s.mem w Z μ F) {itb bm n q r clock : Nat} {sh : Sh} {xs rest' : List (List Int × (Sh.own sh).den)} {left : List Int → Bool} {es : Array MapEntry} {seen : Array Nat}
    (hI : qn B w Z F itb bm n (.own sh) xs left es clock seen) (hq : s.mem.roots[q]? = some .dead) {ℓq ℓr : Loc} (hμq : μ q = some ℓq) (hb1 : ℓq.blk = some itb) (hb2 : ℓq.base = 0) (hμr : μ r = some ℓr) (hb3 : ℓr.blk = some bm)
    {i : Nat} (hi : i < xs.length) (hi' : i < es.size) {w1 : World} (hw1 : w1 = w ∨ w1 = w.drew)
    (hleft : ∀ j (h : j < xs.length) (h' : j < es.size), Res.kL rest' xs[j].1 = true ↔ (seen.push es[i].born).contains es[j].born = false) (ta tb : Tmp) (v v' : Value) :
    ∃ μ', Rel B (s.enter ta tb q r n sh xs rest' xs[i]) ((a.put (some ta) v).put (some tb) v') (setBlock w1 itb (.mapIter (some bm) clock (seen.push es[i].born) clock)) Z μ' ∧ bP μ μ' ∧ aj Z w (setBlock w1 itb (.mapIter (some bm) clock (seen.push es[i].born) clock)) := by
  obtain ⟨hF, S, hS, hit, hbm, _, hMap⟩ := hI
  obtain ⟨f1, f2, f3⟩ := hL.ok itb hF
  let w2 := setBlock w1 itb (.mapIter (some bm) clock (seen.push es[i].born) clock)
  have hh1 : w1.heap = w.heap := by rcases hw1 with rfl | rfl <;> rfl
  have hio : Io w w2 := by rcases hw1 with rfl | rfl; exact Io.same rfl rfl rfl (.inl rfl); exact Io.same rfl rfl rfl (.inr rfl)
  have hne : ∀ d, d ≠ itb → w2.heap[d]? = w.heap[d]? := fun d hd => by
    have : w2.heap[d]? = w1.heap[d]? := wL w1 _ hd
    rw [this, hh1]
  have hat : w2.heap[itb]? = some (.mapIter (some bm) clock (seen.push es[i].born) clock) := wR w1 _ (by rw [hh1]; exact f2)
  have hsz : w2.heap.size = w.heap.size := by
    have : w2.heap.size = w1.heap.size := tR w1 _ _
    rw [this, hh1]
  have hY : ¬ B.Y itb := hL.ju hR.mem itb hF
  have hsameZ : aj Z w w2 := fun d hd => hne d (by rintro rfl; exact f1 hd)
  obtain ⟨d1, d2⟩ := gX (w' := w2) hR.mem hL (fun d _ hn => hne d (by rintro rfl; exact hn hF)) (by rw [hsz]; exact Nat.le_refl _) hio
  have hSR : ∀ {us : List Value} {x : (Sh.own sh).den} {T : Nat → Prop}, (∀ d, T d → S d) → SR w Z B.Y (.own sh) us x T → SR w2 Z B.Y (.own sh) us x T := fun hT h =>
    h.same (fun _ h => h) (fun _ h => h) fun d hd => hne d (by
      rintro rfl
      rcases hd with (hd | hd) | hd
      · exact f1 hd
      · exact hY hd
      · exact (hS _ (hT _ hd)).2 rfl)
  obtain ⟨q0, es', clock', q1, q2, q3, q4, q5, q6, N, q7, q8, q9⟩ := hMap
  rw [hbm] at q1; cases q1
  have hbm2 : w2.heap[bm]? = some (.map es clock) := by rw [hne bm (hS bm q0).2]; exact hbm
  let ma : Mem := ⟨s.mem.roots ++ [.dead], s.mem.dR, s.mem.roots.length⟩
  have hsub : ∀ r0 x, ma.roots[r0]? = some x → x ≠ .dead → s.mem.roots[r0]? = some x ∧ μ r0 = μ r0 := fun r0 x hx hd => by
    have hx : (s.mem.roots ++ [bk.dead])[r0]? = some x := hx
    rcases Nat.lt_or_ge r0 s.mem.roots.length with h1 | h1
    · rw [List.getElem?_append_left h1] at hx; exact ⟨hx, rfl⟩
    · rw [List.getElem?_append_right h1] at hx
      cases h2 : r0 - s.mem.roots.length with
      | zero => rw [h2] at hx; cases hx; exact absurd rfl hd
      | succ k => rw [h2] at hx; cases hx
  have hMa : az B ma w2 Z μ := d1.restrict (fun r0 x hx hd => ⟨(hsub r0 x hx hd).1, rfl, fun _ h => h⟩) (fun r0 hr0 => hR.mem.far r0 (by
    have : (s.mem.roots ++ [bk.dead]).length ≤ r0 := hr0
    simp at this; omega))
  have hLa : bX B ma w2 Z μ (fun b => F b ∨ (w.heap.size ≤ b ∧ b < w2.heap.size)) := d2.restrict hsub
  have hnew : μ s.mem.roots.length = none := hR.mem.far _ (Nat.le_refl _)
  have hfree : iM ma μ (Sh.own sh).news := fun k hk => by
    have hk : k < 1 := hk
    have : k = 0 := by omega
    subst this
    refine ⟨hnew, ?_⟩
    show (s.mem.roots ++ [bk.dead])[s.mem.roots.length]? = _
    simp
  obtain ⟨n1, n2⟩ := q9 i hi hi'
  obtain ⟨⟨μ1, p1, p2, p3, p4⟩, _⟩ := iJ (.own sh) hMa hLa hfree (hSR (fun d hd => (q7 i hi d hd).1) n2) (fun d hd => .inl (hS d (q7 i hi d hd).1).1)
  have p1 : az B (ma.push (.arr sh xs[i].2 none)) w2 Z μ1 := p1
  have p3 : CRs w2 Z μ1 [.ref s.mem.roots.length .full] [es[i].val] := p3
  have hlq : q < s.mem.roots.length := (List.getElem?_eq_some_iff.1 hq).1
  have hqne : q < ma.cur ∨ ma.cur + (Sh.own sh).news ≤ q := .inl hlq
  obtain ⟨o1, o2⟩ := p4.old q hqne
  have hdead : (ma.push (.arr sh xs[i].2 none)).roots[q]? = some .dead := by
    have o2 : (ma.push (.arr sh xs[i].2 none)).roots[q]? = ma.roots[q]? := o2
    rw [o2]
    show (s.mem.roots ++ [bk.dead])[q]? = _
    rw [List.getElem?_append_left hlq]; exact hq
  obtain ⟨Sr, hr1⟩ := p4.ext r ℓr hμr
  let ℓ2 : Loc := { ℓq with S := fun d => F d ∧ ¬ N i d }
  have hext : bP μ1 (μ1.set q ℓ2) := bP.mJ (S := ℓ2.S) (o1.trans hμq)
  obtain ⟨Sr', hr2⟩ := hext r _ hr1
  obtain ⟨k1, _⟩ := iz (x := .itr r n (.own sh) xs (some (Res.kL rest')) (some (xs[i].1, s.mem.roots.length))) (ℓ := ℓ2) p1 p2 hdead hext ⟨itb, bm, _, es, clock, seen.push es[i].born, some ⟨i, [.ref s.mem.roots.length .full]⟩, fun d => S d ∧ ¬ N i d, hb1, hb2,
    ⟨hF, fun h => (hS _ (q7 i hi _ h).1).2 rfl⟩, fun d hd => ⟨⟨(hS d hd.1).1, hd.2⟩, (hS d hd.1).2⟩, hr2, hb3, hat, hbm2, hleft, ⟨⟨q0, fun h => (q7 i hi _ h).2 rfl⟩, es, clock, hbm2, q2, q3, q4, q5, q6, fun j => if i = j then fun _ => False else N j, fun j hj d hd => by
      dsimp only at hd
      split at hd
      · exact hd.elim
      · rename_i hne
        exact ⟨⟨(q7 j hj d hd).1, fun h' => q8 _ j hi hj hne d h' hd⟩, (q7 j hj d hd).2⟩, fun j k hj hk hjk d hd hd' => by
      dsimp only at hd hd'
      split at hd
      · exact hd.elim
      · split at hd'
        · exact hd'.elim
        · exact q8 j k hj hk hjk d hd hd', fun j hj hj' => by
      obtain ⟨m1, m2⟩ := q9 j hj hj'
      refine ⟨m1, ?_⟩
      by_cases hij : i = j
      · subst hij
        simp only [EnR, ElR, if_true]
        exact p3.mono (aj.refl _ _) (fun _ h => h) hext
      · simp only [EnR, ElR, if_neg hij]
        exact hSR (fun d hd => (q7 j hj d hd).1) m2⟩, i, rfl, hi, hi', rfl, by simp⟩ (fun _ d hd => ⟨.inl hd.1, hd.2⟩)
  have hx2 : bP μ (μ1.set q ℓ2) := p4.ext.trans hext
  have hroots : (s.enter ta tb q r n sh xs rest' xs[i]).mem.roots = ((ma.push (.arr sh xs[i].2 none)).set q (.itr r n (.own sh) xs (some (Res.kL rest')) (some (xs[i].1, s.mem.roots.length)))).roots := by
    show ((s.mem.roots ++ [bk.arr sh xs[i].2 none]).set q _) = ((s.mem.roots ++ [bk.dead]).set s.mem.roots.length _).set q _
    rw [List.set_append_right _ _ (Nat.le_refl _), Nat.sub_self]; rfl
  have hR3 := ((hR.put (m' := (s.enter ta tb q r n sh xs rest' xs[i]).mem) (k1.congr hroots) hsameZ (fun _ h => h) hx2 (some ta) (AR.undef v)).pW (some tb) (AR.undef v'))
  exact ⟨_, ⟨hR3.mem, hR3.tm, hR3.len, hR3.df⟩, hx2, hsameZ⟩
theorem vo {m : Mem} (hM : az B m w Z μ) {n q r N : Nat} {sh : Sh} {xs : List (List Int × (Sh.own sh).den)} {left : List Int → Bool} {e : List Int × (Sh.own sh).den} (he : e ∈ xs)
    (hq : m.roots[q]? = some (.itr r n (.own sh) xs (some left) (some (e.1, N)))) (hN : m.roots[N]? = some (.arr sh e.2 none)) {ℓq ℓr : Loc} {itb bm : Nat} (hμq : μ q = some ℓq) (hb1 : ℓq.blk = some itb) (hμr : μ r = some ℓr) (hb3 : ℓr.blk = some bm) :
    ∃ (Z' F' : Nat → Prop) (es : Array MapEntry) (clock : Nat) (seen : Array Nat), az B ⟨(m.roots.set q .dead).set N .dead, m.dR, m.cur⟩ w Z' μ ∧ bX B ⟨(m.roots.set q .dead).set N .dead, m.dR, m.cur⟩ w Z' μ F' ∧ (∀ b, Z b → Z' b) ∧ qn B w Z' F' itb bm n (.own sh) xs left es clock seen := by
  obtain ⟨ℓ, g1, itb', bm', ℓr', es, clock, seen, foc, S, h1, h2, h3, h4, h5, h6, h7, h9, h11, h12, i, rfl, hi, hi', hk, _⟩ := hM.rt q _ hq (by simp)
  rw [hμq] at g1; cases g1
  rw [hb1] at h1; cases h1
  rw [hμr] at h5; cases h5
  rw [hb3] at h6; cases h6
  obtain ⟨t1, t2⟩ := ev hM (bX.none B m w Z μ) hq hμq rfl
  have hne : q ≠ N := by rintro rfl; rw [hq] at hN; cases hN
  have hN' : (m.set q .dead).roots[N]? = some (.arr sh e.2 none) := by simp only [Mem.set]; rw [List.getElem?_set_ne hne]; exact hN
  have h12' := h12
  obtain ⟨q0, es', clock', q1, q2, q3, q4, q5, q6, M, q7, q8, q9⟩ := h12
  rw [h9] at q1; cases q1
  have hcr : CRs w Z μ [.ref N .full] [es[i].val] := by
    have := (q9 i hi hi').2
    simpa only [EnR, ElR, if_true] using this
  have hget : (Sh.own sh).get [.ref N .full] (m.set q .dead) = some (e.2, [], (m.set q .dead).set N .dead) := by
    simp only [Sh.get, hN', Sh.gN, Win.whole]; rfl
  obtain ⟨⟨Z', F', S1, us1, us2, e1, e2, e3, e4, e5, e6, e7, e8, e9⟩, ek⟩ := gj (.own sh) t1 t2 hcr hget
  have := e9.hB
  subst this
  rw [List.append_nil] at e1
  subst e1
  have hxe : xs[i] = e := by
    obtain ⟨j, hj, hje⟩ := List.getElem_of_mem he
    have h1 : (xs.map (·.1))[i]'(by simpa using hi) = (xs.map (·.1))[j]'(by simpa using hj) := by simp [hk, hje]
    have h2 := (List.getElem_inj q5).1 h1
    subst h2
    exact hje
  have key : pt w n (xs.modify i fun e' => (e'.1, e.2)) (fun _ us x S => SR w Z' B.Y (.own sh) us x S) bm (fun d => S d ∨ S1 d) := by
    refine h12'.oe (fun d hd hS => (e7 d hd).2 (.inr (h4 d hS).1)) (fun es' clock' hes h => ?_) fun j us x T hj hR => ?_
    · rw [h9] at hes; cases hes
      exact e8
    · simp only [EnR, ElR, if_neg (Ne.symm hj)] at hR
      exact hR.up e5
  have hmod : (xs.modify i fun e' => (e'.1, e.2)) = xs := by
    refine List.ext_getElem (by simp) fun j h1 h2 => ?_
    rw [List.getElem_modify]
    split
    · rename_i hij; subst hij; exact Prod.ext rfl (congrArg Prod.snd hxe).symm
    · rfl
  rw [hmod] at key
  exact ⟨Z', F', es, clock, seen, e3.congr rfl, e4.congr rfl, e5, e6 _ (.inr h3), _, fun d hd => by
    rcases hd with hd | hd
    · exact ⟨e6 d (.inr (h4 d hd).1), (h4 d hd).2⟩
    · exact ⟨(e7 d hd).1, fun e => (e7 d hd).2 (e ▸ .inr h3)⟩, h7, h9, h11, key⟩
end
theorem Ev.join {b0 b s : St} (h : Ev b0 b) (h' : Ev (fresh b) s) : Ev b0 (b.join s) := by
  refine ⟨h'.tl.trans h.tl, Nat.le_trans h.rl h'.rl, fun i hi => ?_, fun r hr hb => ?_⟩
  · have hi : i ∉ s.dT ++ b.dT := hi
    rw [List.mem_append] at hi
    exact (h'.tm i fun h => hi (.inl h)).trans (h.tm i fun h => hi (.inr h))
  · have hb : (b.mem.dR ||| s.mem.dR).testBit r = false := hb
    rw [Nat.testBit_or, Bool.or_eq_false_iff] at hb
    exact (h'.rt r (Nat.lt_of_lt_of_le hr h.rl) hb.2).trans (h.rt r hr hb.1)
theorem Ev.set {b s : St} (h : Ev b s) (r : Nat) (x : bk) : Ev b ⟨s.tmps, s.mem.set r x, s.dT⟩ := by
  refine ⟨h.tl, ?_, h.tm, fun r' hr hb => ?_⟩
  · show _ ≤ (s.mem.roots.set r x).length
    rw [List.length_set]; exact h.rl
  · have hb : (s.mem.dR ||| 2 ^ r).testBit r' = false := hb
    rw [Nat.testBit_or, Nat.testBit_two_pow, Bool.or_eq_false_iff, decide_eq_false_iff_not] at hb
    show (s.mem.roots.set r x)[r']? = _
    rw [List.getElem?_set_ne hb.2]
    exact h.rt r' hr hb.1
theorem Ev.yz {b s : St} (h : Ev b s) (ta tb : Tmp) : Ev b (s.yz ta tb) := by
  refine ⟨by show ((s.tmps.set ta _).set tb _).length = _; rw [List.length_set, List.length_set]; exact h.tl, h.rl, fun i hi => ?_, h.rt⟩
  have hi : i ∉ ta :: tb :: s.dT := hi
  simp only [List.mem_cons, not_or] at hi
  show ((s.tmps.set ta _).set tb _)[i]? = _
  rw [List.getElem?_set_ne (Ne.symm hi.2.1), List.getElem?_set_ne (Ne.symm hi.1)]
  exact h.tm i hi.2.2
theorem Ev.leave {b s0 s s2 : St} {ta tb q r n : Nat} {sh : Sh} {xs rest : List (List Int × (Sh.own sh).den)} {e : List Int × (Sh.own sh).den} (h : Ev (fresh b) s0) (hq : q < b.mem.roots.length) (hbq : b.mem.roots[q]? = some .dead)
    (h' : Ev (s0.enter ta tb q r n sh xs rest e) s) (hl : s0.leave ta tb q s = some s2) : Ev b s2 := by
  unfold St.leave at hl
  split at hl
  · cases hl
  cases hl
  have hlen : (s0.enter ta tb q r n sh xs rest e).mem.roots.length = s0.mem.roots.length + 1 := by
    show ((s0.mem.roots ++ [bk.arr sh e.2 none]).set q _).length = _
    simp
  have hb0 : b.mem.roots.length ≤ s0.mem.roots.length := h.rl
  refine ⟨?_, ?_, fun i hi => ?_, fun r' hr hb => ?_⟩
  · refine (h'.tl).trans ?_
    show ((s0.tmps.set ta _).set tb _).length = _
    rw [List.length_set, List.length_set]; exact h.tl
  · show _ ≤ ((s.mem.roots.set q .dead).set _ .dead).length
    rw [List.length_set, List.length_set]
    have := h'.rl
    omega
  · have hi : i ∉ ta :: tb :: s.dT ++ s0.dT := hi
    simp only [List.cons_append, List.mem_cons, List.mem_append, not_or] at hi
    obtain ⟨h1, h2, h3, h4⟩ := hi
    refine (h'.tm i h3).trans ?_
    show ((s0.tmps.set ta _).set tb _)[i]? = _
    rw [List.getElem?_set_ne (Ne.symm h2), List.getElem?_set_ne (Ne.symm h1)]
    exact h.tm i h4
  · have hb : (s0.mem.dR ||| s.mem.dR).testBit r' = false := hb
    rw [Nat.testBit_or, Bool.or_eq_false_iff] at hb
    show ((s.mem.roots.set q .dead).set s0.mem.roots.length .dead)[r']? = _
    rw [List.getElem?_set_ne (by omega)]
    by_cases hrq : q = r'
    · subst hrq
      rw [hbq, List.getElem?_set_self (by have := h'.rl; omega)]
    · rw [List.getElem?_set_ne hrq, h'.rt r' (by omega) hb.2]
      show ((s0.mem.roots ++ [bk.arr sh e.2 none]).set q _)[r']? = _
      rw [List.getElem?_set_ne hrq, List.getElem?_append_left (by omega)]
      exact h.rt r' hr hb.1
theorem sY {B : eD} {w : World} {Z F : Nat → Prop} {μ : aZ} {s s' : St} {a : Act} (hR : Rel B s a w Z μ) (hL : bX B s.mem w Z μ F) {itb bm n r : Nat} {sh : Sh} {xs : List (List Int × (Sh.own sh).den)} {left : List Int → Bool} {es : Array MapEntry} {clock : Nat} {seen : Array Nat}
    (hI : qn B w Z F itb bm n (.own sh) xs left es clock seen) {ℓr : Loc} (hμr : μ r = some ℓr) (hb : ℓr.blk = some bm) (h : s.back r (.iR n (.own sh) xs none) = some s') : ∃ μ', Rel B s' a w Z μ' ∧ bP μ μ' := by
  unfold St.back at h
  split at h
  case h_2 => cases h
  rename_i hd
  cases h
  obtain ⟨_, S, hS, _, _, _, hM⟩ := hI
  have hext : bP μ (μ.set r { ℓr with S := S }) := bP.mJ hμr
  obtain ⟨p1, _⟩ := iz (x := .iR n (.own sh) xs none) (ℓ := { ℓr with S := S }) hR.mem hL hd hext ⟨fun f hf => by (cases hf), bm, hb, hM⟩ (fun _ d hd => (hS d hd).1)
  have h2 := hR.put p1 (aj.refl _ _) (fun _ h => h) hext none (x := .c .undef) (v := undef) trivial
  exact ⟨_, ⟨h2.mem, h2.tm, h2.len, h2.df⟩, hext⟩
theorem so {β : Type} {K : gP β} {r : Nat} {x : bk} {e : mA} {s : St} {Ψ : β → Prop} (h : ((qm K r x).at e s).sat Ψ) : ∃ s', s.back r x = some s' ∧ (K.at e s').sat Ψ := by
  cases e <;> simp only [gP.at, qm] at h
  all_goals
    split at h
    · exact ⟨_, by assumption, h⟩
    · exact h.elim
theorem oq {β : Type} {s : St} {it q : Nat} {k : Res β} {Ψ : β → Prop} (h : (s.yx it q k).sat Ψ) : s.get it = .c (.ptr q 0) ∧ s.mem.roots[q]? = some .dead ∧ k.sat Ψ := by
  unfold St.yx at h
  split at h
  · rename_i q' h1 h2
    split at h
    · rename_i hq
      have : q' = q := by simpa using hq
      subst this
      exact ⟨h1, h2, h⟩
    · exact h.elim
  · exact h.elim
theorem BE {α γ : Type} {m : Res α} {p : γ → Prop} {Φ : γ → α → Prop} (h : ∀ x, p x → m.sat (Φ x)) (hx : ∃ x, p x) : m.sat fun y => ∀ x, p x → Φ x y := by
  induction m with
  | ok a => exact fun x hx => h x hx
  | stuck => obtain ⟨x, hx⟩ := hx; exact h x hx
  | given b k ih => exact fun hb => ih fun x hx => h x hx hb
theorem sN {γ : Type} {p p' : List (List Int × γ)} (h : p.Perm p') : Res.kL p = Res.kL p' := by
  funext k
  unfold Res.kL
  congr 1
  exact propext (h.map _).mem_iff
theorem xC {s0 s s2 : St} {ta tb q : Nat} (h : s0.leave ta tb q s = some s2) : s.mem.dR.testBit q = false ∧ s.mem.dR.testBit s0.mem.roots.length = false ∧ s2.tmps = s.tmps ∧ s2.mem.roots = (s.mem.roots.set q .dead).set s0.mem.roots.length .dead := by
  unfold St.leave at h
  split at h
  · cases h
  rename_i hb
  cases h
  rw [Bool.or_eq_false_iff] at hb
  exact ⟨hb.1, hb.2, rfl, rfl⟩
theorem uA {α β γ : Type} (f : γ → List γ → α → Res (Res.Step α β)) (x : γ) (xs : List γ) (a : α) : Res.each f (x :: xs) a = (f x xs a).bind fun
    | .next a' => Res.each f xs a'
    | .done b => .ok (.done b) := rfl
section
variable {B : eD} {E : Env} {body : Code} {β : Type} {ops : Array Oper} {it ta tb : Tmp} {id i2 : Nat} {head : Cut} {ex : iU} {an : Ann} {st1 : St} {K : gP β} {Ψ : β → Prop} {Q : Exit → Act → World → Prop} {b : St} {a1 : Act} {w1 : World} {Z1 : Nat → Prop} {μ0 μ : aZ}
  {q r n itb bm : Nat} {sh : Sh} {xs : List (List Int × (Sh.own sh).den)} {ℓq ℓr : Loc}
theorem pn (hc : ∀ (γ : Type) (ann : Ann) (st : St) (K : gP γ), Sound B E body (exec E body γ ann st K) st K) (hops : p9 ops = some (it, ta, tb)) (hta : ta < st1.tmps.length) (htb : tb < st1.tmps.length) (hqd : st1.mem.roots[q]? = some .dead)
    (hR0 : Rel B st1 a1 w1 Z1 μ) (hev : Ev b st1) (hext : bP μ0 μ) (hμq : μ q = some ℓq) (hb1 : ℓq.blk = some itb) (hb2 : ℓq.base = 0) (hμr : μ r = some ℓr) (hb3 : ℓr.blk = some bm) (hnx : (xs.map (·.1)).Nodup)
    (hK : ∀ (e : mA) (s : St) (a' : Act) (w' : World) (Z' : Nat → Prop) (μ' : aZ), (K.at e s).sat Ψ → Rel B s a' w' Z' μ' → Ev b s → bP μ0 μ' → Q e.exit a' w') :
    ∀ (N : Nat) (rest : List (List Int × (Sh.own sh).den)) (x : head.den) (a : Act) (w : World) (Z : Nat → Prop) (μ' : aZ) (F : Nat → Prop) (es : Array MapEntry) (clock : Nat) (seen : Array Nat), rest.length < N → (∀ e ∈ rest, e ∈ xs) → (rest.map (·.1)).Nodup →
      (∀ p, p.Perm rest → ((Res.each (fun e left x => (head.put (fresh st1) x).yx it q
          (exec E body (Res.Step head.den ex.den) an ((head.put (fresh st1) x).enter ta tb q r n sh xs left e) (qc st1.mem.roots.length head ex (head.put (fresh st1) x) ta tb q))) p x).bind fun
        | .next x => (head.put (fresh st1) x).yx it q ((qm K r (.iR n (.own sh) xs none)).ext id ((st1.join (head.put (fresh st1) x)).yz ta tb))
        | .done y => ex.go st1 (qm K r (.iR n (.own sh) xs none)) y).sat Ψ) →
      Rel B (head.put (fresh st1) x) a w Z μ' → bP μ μ' → bX B (head.put (fresh st1) x).mem w Z μ' F → qn B w Z F itb bm n (.own sh) xs (Res.kL rest) es clock seen →
      Code.rounds E.P (.seq (.region i2 ops false) (.seq (.cond (.tmp tb) .skip (.exit id)) body)) Q N a w
  | 0, rest, x, a, w, Z, μ', F, es, clock, seen, hlt, _, _, _, _, _, _, _ => by omega
  | N + 1, rest, x, a, w, Z, μ', F, es, clock, seen, hlt, hsub, hnd, h, hR, hxx, hL, hI => by
    have hI' := hI
    obtain ⟨hF, S, hS, hit, hbm, hlf, hMap⟩ := hI
    have hMap' := hMap
    obtain ⟨q0, es', clock', z1, z2, z3, z4, z5, z6, M, z7, z8, z9⟩ := hMap
    rw [hbm] at z1; cases z1
    rw [rounds_succ]
    have hevx : Ev (fresh st1) (head.put (fresh st1) x) := pA (Ev.refl _)
    have hsz : a.tmps.size = st1.tmps.length := by rw [← hR.len, hevx.tl]; rfl
    have hat : (head.put (fresh st1) x).get it = .c (.ptr q 0) ∧ (head.put (fresh st1) x).mem.roots[q]? = some .dead := by
      have h1 := h rest (List.Perm.refl _)
      cases rest with
      | nil => obtain ⟨k1, k2, _⟩ := oq h1; exact ⟨k1, k2⟩
      | cons e0 r0 =>
        rw [uA, Res.bind_assoc] at h1
        obtain ⟨k1, k2, _⟩ := oq (j8 h1)
        exact ⟨k1, k2⟩
    obtain ⟨hat1, hat2⟩ := hat
    obtain ⟨Sq, hμq'⟩ := hxx q ℓq hμq
    obtain ⟨Sr, hμr'⟩ := hxx r ℓr hμr
    have hiteval : a.eval (.tmp it) = .pointer (some ⟨itb, 0, none⟩) := by
      have h1 := hR.val (.tmp it)
      rw [show val (head.put (fresh st1) x) (.tmp it) = _ from hat1] at h1
      obtain ⟨ℓ, b', g1, g2, g3⟩ := h1
      rw [hμq'] at g1; cases g1
      have g2 : ℓq.blk = some b' := g2
      rw [hb1] at g2; cases g2
      rw [g3]
      simp [hb2]
    refine wp_seq (A3 hops (by rw [hsz]; exact hta) hiteval hit hbm z3 (fun h0 => ?_) fun e' he' w2 hw2 => ?_)
    ·
      have hrest : rest = [] := by
        apply List.eq_nil_iff_forall_not_mem.2
        intro e he
        obtain ⟨i, hi, hie⟩ := List.getElem_of_mem (hsub e he)
        have hi' : i < es.size := by omega
        have h1 : seen.contains es[i].born = false := (hlf i hi hi').1 (by unfold Res.kL; rw [hie]; simpa using ⟨e.2, he⟩)
        have h2 : es[i] ∈ leftOf es seen := by
          unfold leftOf
          simp only [Array.mem_filter]
          exact ⟨by simp, by rw [h1]; rfl⟩
        have := Array.size_pos_of_mem h2
        omega
      subst hrest
      obtain ⟨_, _, h1⟩ := oq (h [] (List.Perm.refl _))
      obtain ⟨s', hs', hsat⟩ := so (e := .ext id) h1
      have hR2 := (hR.pW (some ta) (AR.undef (.tuple #[.bool false]))).pW (some tb) (AR.undef (.bool false))
      have hR3 : Rel B ((st1.join (head.put (fresh st1) x)).yz ta tb) ((a.put (some ta) (.tuple #[.bool false])).put (some tb) (.bool false)) w Z μ' := ⟨hR.mem.congr rfl, hR2.tm, hR2.len, hR2.df⟩
      obtain ⟨μ2, k1, k2⟩ := sY hR3 (hL.congr rfl) hI' hμr' hb3 hs'
      have hevs : Ev b s' := by
        unfold St.back at hs'
        split at hs'
        · cases hs'; exact ((hev.join hevx).yz ta tb).set r _
        · cases hs'
      exact wp_seq (wp_cond_false (nj (by simpa [Act.put, hsz] using htb)) (wp_exit (hK (.ext id) s' _ w Z μ2 hsat k1 hevs (hext.trans (hxx.trans k2)))))
    ·
      have he2 : e' ∈ es.toList ∧ seen.contains e'.born = false := by
        unfold leftOf at he'
        rw [Array.mem_toList_iff, Array.mem_filter] at he'
        exact ⟨by simpa using he'.1, by simpa using he'.2⟩
      obtain ⟨i, hi', hie⟩ := List.getElem_of_mem he2.1
      have hi' : i < es.size := by simpa using hi'
      have hi : i < xs.length := by omega
      have hie : es[i] = e' := by simpa using hie
      subst hie
      have hkin : Res.kL rest xs[i].1 = true := (hlf i hi hi').2 he2.2
      have hmem : xs[i] ∈ rest := by
        unfold Res.kL at hkin
        simp only [decide_eq_true_eq, List.mem_map] at hkin
        obtain ⟨e0, h1, h2⟩ := hkin
        obtain ⟨j, hj, hje⟩ := List.getElem_of_mem (hsub e0 h1)
        have h3 : (xs.map (·.1))[j]'(by simpa using hj) = (xs.map (·.1))[i]'(by simpa using hi) := by simp [hje, h2]
        have h4 := (List.getElem_inj hnx).1 h3
        subst h4
        rw [hje]; exact h1
      obtain ⟨l1, l2, hl⟩ := List.append_of_mem hmem
      have hperm : rest.Perm (xs[i] :: (l1 ++ l2)) := by rw [hl]; exact List.perm_middle
      generalize l1 ++ l2 = rest' at hperm
      have hnd' : (xs[i].1 :: rest'.map (·.1)).Nodup := by
        have := (hperm.map (·.1)).nodup_iff.1 hnd
        simpa using this
      have hleft : ∀ j (h : j < xs.length) (h' : j < es.size), Res.kL rest' xs[j].1 = true ↔ (seen.push es[i].born).contains es[j].born = false := by
        intro j hj hj'
        have h1 : (Res.kL rest xs[j].1 = true) ↔ (xs[j].1 = xs[i].1 ∨ Res.kL rest' xs[j].1 = true) := by
          rw [sN hperm]
          simp [Res.kL]
        have h2 := hlf j hj hj'
        have h3 : (seen.push es[i].born).contains es[j].born = (seen.contains es[j].born || es[j].born == es[i].born) := by
          rw [Bool.eq_iff_iff]
          simp
        rw [h3, Bool.or_eq_false_iff, ← h2, h1]
        by_cases hij : j = i
        · subst hij
          simp only [beq_self_eq_true, Bool.true_eq_false, and_false, iff_false]
          intro h4
          unfold Res.kL at h4
          simp only [decide_eq_true_eq] at h4
          exact (List.nodup_cons.1 hnd').1 h4
        · have h4 : xs[j].1 ≠ xs[i].1 := fun e => by
            have h3 : (xs.map (·.1))[j]'(by simpa using hj) = (xs.map (·.1))[i]'(by simpa using hi) := by simp [e]
            exact hij ((List.getElem_inj hnx).1 h3)
          have h5 : (es[j].born == es[i].born) = false := by
            rw [beq_eq_false_iff_ne]
            intro e
            have h3 : (es.toList.map (·.born))[j]'(by simpa using hj') = (es.toList.map (·.born))[i]'(by simpa using hi') := by simp [e]
            exact hij ((List.getElem_inj z4).1 h3)
          simp [h4, h5]
      obtain ⟨μ1, e1, e2, e3⟩ := vh hR hL hI' hat2 hμq' hb1 hb2 hμr' hb3 hi hi' hw2 hleft ta tb (.tuple #[.bool true, es[i].key, es[i].val]) (.bool true)
      have hall := BE (p := fun p' => List.Perm p' rest') (fun p' hp' => by
        have h1 := h (xs[i] :: p') ((List.Perm.cons _ hp').trans hperm.symm)
        rw [uA, Res.bind_assoc] at h1
        obtain ⟨_, _, h2⟩ := oq (j8 h1)
        have h3 : (head.put (fresh st1) x).enter ta tb q r n sh xs p' xs[i] = (head.put (fresh st1) x).enter ta tb q r n sh xs rest' xs[i] := by unfold St.enter; rw [sN hp']
        rw [h3] at h2
        exact h2) ⟨rest', List.Perm.refl _⟩
      refine wp_seq (wp_cond_true (nj (by simpa [Act.put, hsz] using htb)) (wp_skip ?_))
      refine hc _ an _ _ _ (Exit.then (Code.rounds E.P _ Q N) Q) _ _ _ _ _ Z Z μ1 μ1 hall e1 e1 (Ev.refl _) (bP.refl _) ?_
      intro e s a2 w3 Z2 μ2 hs hR' hev' hext'
      have hleave : ∃ s2, (head.put (fresh st1) x).leave ta tb q s = some s2 := by
        cases hl : (head.put (fresh st1) x).leave ta tb q s with
        | some s2 => exact ⟨s2, rfl⟩
        | none => cases e <;> simp only [gP.at, qc, hl] at hs <;> exact hs.elim
      obtain ⟨s2, hl2⟩ := hleave
      obtain ⟨t1, t2, t3, t4⟩ := xC hl2
      have hlq : q < (head.put (fresh st1) x).mem.roots.length := (List.getElem?_eq_some_iff.1 hat2).1
      have hrq : s.mem.roots[q]? = some (.itr r n (.own sh) xs (some (Res.kL rest')) (some (xs[i].1, (head.put (fresh st1) x).mem.roots.length))) := by
        rw [hev'.rt q (by show q < ((head.put (fresh st1) x).mem.roots ++ [bk.arr sh xs[i].2 none] |>.set q _).length; simp; omega) t1]
        show (((head.put (fresh st1) x).mem.roots ++ [bk.arr sh xs[i].2 none]).set q _)[q]? = _
        rw [List.getElem?_set_self (by simp; omega)]
      have hrN : s.mem.roots[(head.put (fresh st1) x).mem.roots.length]? = some (.arr sh xs[i].2 none) := by
        rw [hev'.rt _ (by show _ < ((head.put (fresh st1) x).mem.roots ++ [bk.arr sh xs[i].2 none] |>.set q _).length; simp) t2]
        show (((head.put (fresh st1) x).mem.roots ++ [bk.arr sh xs[i].2 none]).set q _)[_]? = _
        rw [List.getElem?_set_ne (by omega), List.getElem?_append_right (Nat.le_refl _), Nat.sub_self]; rfl
      obtain ⟨Sq2, hμq2⟩ := (e2.trans hext') q _ hμq'
      obtain ⟨Sr2, hμr2⟩ := (e2.trans hext') r _ hμr'
      obtain ⟨Z3, F3, es3, clock3, seen3, j1, j2, j3, j4⟩ := vo hR'.mem (List.getElem_mem hi) hrq hrN hμq2 hb1 hμr2 hb3
      have hRs2 : Rel B s2 a2 w3 Z3 μ2 := by
        have h2 := hR'.put j1 (aj.refl _ _) j3 (bP.refl _) none (x := .c .undef) (v := undef) trivial
        exact ⟨j1.congr t4, fun k y hy => h2.tm k y (by rw [t3] at hy; exact hy), by rw [t3]; exact h2.len, h2.df⟩
      have hLs2 : bX B s2.mem w3 Z3 μ2 F3 := j2.congr t4
      have hevs2 : Ev st1 s2 := Ev.leave (b := st1) hevx (List.getElem?_eq_some_iff.1 hqd).1 hqd hev' hl2
      have hx2 : bP μ μ2 := hxx.trans (e2.trans hext')
      have out : ∀ (Φ : Res.Step head.den ex.den → Prop), (∀ y, Φ (.done y) → (ex.go st1 (qm K r (.iR n (.own sh) xs none)) y).sat Ψ) → ((ex.inj st1.mem.roots.length e s2).bind fun y => (.ok (.done y) : Res (Res.Step head.den ex.den))).sat Φ → Q e.exit a2 w3 := fun Φ hΦ hs => by
        have hs' : (ex.inj st1.mem.roots.length e s2).sat fun x => (ex.go st1 (qm K r (.iR n (.own sh) xs none)) x).sat Ψ := by
          exact Res.vA (fun y hy => hΦ y hy) (j8 hs)
        obtain ⟨z, hz, c', y, hget, hgo⟩ := pS ex hs'
        rw [hgo _ st1] at hz
        obtain ⟨s4, hs4, hsat⟩ := so hz
        obtain ⟨Z4, μ4, g1, g2, g3, g4⟩ := mY (b := st1) hR0 hRs2 hLs2 hevs2 hx2 hget
        obtain ⟨Sr4, hμr4⟩ := g3 r ℓr hμr
        obtain ⟨μ5, k1, k2⟩ := sY g1 g4 (j4.up g2 fun _ h => h) hμr4 hb3 hs4
        have hevs : Ev b s4 := by
          unfold St.back at hs4
          split at hs4
          · cases hs4; exact (pA hev).set r _
          · cases hs4
        exact hK e s4 a2 w3 Z4 μ5 hsat k1 hevs (hext.trans (g3.trans k2))
      cases e with
      | nrm =>
        simp only [gP.at, qc, hl2] at hs
        split at hs
        case h_2 => exact hs.elim
        rename_i y hy
        obtain ⟨Z4, μ4, g1, g2, g3, g4⟩ := mY (b := fresh st1) (hR0.alike ⟨rfl, rfl⟩) hRs2 hLs2 (hevs2.congr ⟨rfl, rfl⟩) hx2 hy
        have hlen : rest'.length < N := by
          have := hperm.length_eq
          simp at this; omega
        exact pn hc hops hta htb hqd hR0 hev hext hμq hb1 hb2 hμr hb3 hnx hK N rest' y a2 w3 Z4 μ4 F3 es3 clock3 seen3 hlen (fun e he => hsub e (hperm.mem_iff.2 (List.mem_cons_of_mem _ he))) (List.nodup_cons.1 hnd').2 hs g1 g3 g4 (j4.up g2 fun _ h => h)
      | ret =>
        simp only [gP.at, qc, hl2] at hs
        exact out _ (fun y hy => hy rest' (List.Perm.refl _)) hs
      | ext k =>
        simp only [gP.at, qc, hl2] at hs
        exact out _ (fun y hy => hy rest' (List.Perm.refl _)) hs
theorem yi {α β : Type} {xs : List α} {F : List α → Res β} {Φ : β → Prop} (h : (Res.order xs F).sat Φ) : ∀ p, p.Perm xs → (F p).sat Φ := by
  unfold Res.order at h
  split at h
  · rename_i hy
    intro p hp
    have h1 := hy.choose_spec p hp
    by_cases hf : (F p).facts
    · obtain ⟨a, ha, he⟩ := Res.oY h1 hf
      exact Res.bA ha (he ▸ h (@decide_eq_true _ (Classical.propDecidable _) ⟨p, hp, hf⟩))
    · exact Res.iT hf
  · exact h.elim
theorem wM {c : Operand} {st : St} (hc : ∀ (γ : Type) (ann : Ann) (st : St) (K : gP γ), Sound B E body (exec E body γ ann st K) st K) :
    Sound B E (.loop (.seq (.region i2 ops false) (.seq (.cond c .skip (.exit id)) body))) (rangeLoop (fun γ ann st K => exec E body γ ann st K) ops c id head ex an st K) st K := by
  intro Ψ Q b a0 a w0 w Z0 Z μ0 μ h hb hR hev hext hK
  unfold rangeLoop at h
  split at h
  case h_2 => exact h.elim
  rename_i it ta tb g hops
  split at h
  case h_2 => exact h.elim
  rename_i q hcond hget
  simp only [Bool.and_eq_true, beq_iff_eq, decide_eq_true_eq] at hcond
  obtain ⟨rfl, hta, htb⟩ := hcond
  split at h
  case h_2 => exact h.elim
  rename_i r n sh xs hq
  split at h
  case h_2 => exact h.elim
  rename_i x0 hx0
  have hlq : q < st.mem.roots.length := (List.getElem?_eq_some_iff.1 hq).1
  obtain ⟨ℓq, hμq, itb, bm, ℓr, es, clock, seen, foc, S, h1, h2, h3, h4, h5, h6, h7, h9, h11, h12, rfl⟩ := hR.mem.rt q _ hq (by simp)
  obtain ⟨t1, t2⟩ := ev hR.mem (bX.none B st.mem w Z μ) hq hμq rfl
  generalize hst1 : (⟨st.tmps, st.mem.set q .dead, st.dT⟩ : St) = st1 at h hx0
  have hmem : st1.mem = st.mem.set q .dead := by rw [← hst1]
  have htm : st1.tmps = st.tmps := by rw [← hst1]
  have hlen : st1.mem.roots.length = st.mem.roots.length := by rw [hmem]; simp [Mem.set]
  have hqd : st1.mem.roots[q]? = some .dead := by rw [hmem]; simp [Mem.set, hlq]
  have hR1 : Rel B st1 a w Z μ := by
    have h2 := hR.put t1 (aj.refl _ _) (fun _ h => h) (bP.refl _) none (x := .c .undef) (v := undef) trivial
    exact ⟨by rw [hmem]; exact h2.mem, by rw [htm]; exact h2.tm, by rw [htm]; exact h2.len, h2.df⟩
  have hev1 : Ev b st1 := by rw [← hst1]; exact hev.set q _
  have hL1 : bX B (fresh st1).mem w Z μ (fun b => False ∨ ℓq.S b) := t2.congr (by show st1.mem.roots = _; rw [hmem])
  rw [← hlen] at h hx0
  obtain ⟨Z1, μ1, g1, g2, g3, g4⟩ := mY (b := fresh st1) (s := fresh st1) (hR1.alike ⟨rfl, rfl⟩) (hR1.alike ⟨rfl, rfl⟩) hL1 (Ev.refl _) (bP.refl μ) hx0
  have hh := yi h
  have h12' := h12
  obtain ⟨q0, es', clock', z1, z2, z3, z4, z5, z6, M, z7, z8, z9⟩ := h12
  rw [h9] at z1; cases z1
  have hI : qn B w Z1 (fun b => False ∨ ℓq.S b) itb bm n (.own sh) xs (Res.kL xs) es clock seen := ⟨.inr h3, S, fun d hd => ⟨.inr (h4 d hd).1, (h4 d hd).2⟩, h7, h9, h11, h12'.mono rfl (fun _ h => h) fun i us x T _ hR => SR.up (show SR w Z B.Y (.own sh) us x T from hR) g2⟩
  exact wp_loop_rounds (xs.length + 1) (pn hc hops (by rw [htm]; exact hta) (by rw [htm]; exact htb) hqd hR1 hev1 hext hμq h1 h2 h5 h6 z5 hK (xs.length + 1) xs x0 a w Z1 μ1 _ es clock seen (Nat.lt_succ_self _) (fun _ h => h) z5 hh g1 g3 g4 hI)
end
end Go.Mach
namespace Go.Mach
section
variable {B : eD} {E : Env}
theorem iD (hm : E.P.follows .mixedOrders = true) (hE : lv E B.g) : ∀ (c : Code) (β : Type) (ann : Ann) (st : St) (K : gP β), Sound B E c (exec E c β ann st K) st K
  | .skip, β, ann, st, K => by
    intro Ψ Q b a0 a w0 w Z0 Z μ0 μ h hb hR hev hext hK
    exact wp_skip (hK .nrm st a w Z μ h hR hev hext)
  | .region id ops draw, β, ann, st, K => by
    unfold exec
    exact ky fun γ ann st K => uV hm hE st K
  | .seq x y, β, ann, st, K => by
    unfold exec
    refine ky fun γ ann st K => ?_
    intro Ψ Q b a0 a w0 w Z0 Z μ0 μ h hb hR hev hext hK
    refine wp_seq (iD hm hE x γ ann.left st _ Ψ _ b a0 a w0 w Z0 Z μ0 μ h hb hR hev hext ?_)
    intro e s a' w' Z' μ' hs hR' hev' hext'
    cases e with
    | nrm => exact iD hm hE y γ ann.right s K Ψ Q b a0 a' w0 w' Z0 Z' μ0 μ' hs hb hR' hev' hext' hK
    | ret => exact hK .ret s a' w' Z' μ' hs hR' hev' hext'
    | ext n => exact hK (.ext n) s a' w' Z' μ' hs hR' hev' hext'
  | .cond c x y, β, ann, st, K => by
    unfold exec
    refine ky fun γ ann st K => ?_
    intro Ψ Q b a0 a w0 w Z0 Z μ0 μ h hb hR hev hext hK
    split at h
    case h_2 => exact h.elim
    rename_i t ht
    have hv := hR.val c
    rw [ht] at hv
    have hv : a.eval c = .bool t := hv
    rcases wo h with ⟨rfl, h⟩ | ⟨rfl, h⟩
    · exact wp_cond_true hv (iD hm hE x γ ann.left st K Ψ Q b a0 a w0 w Z0 Z μ0 μ h hb hR hev hext hK)
    · exact wp_cond_false hv (iD hm hE y γ ann.right st K Ψ Q b a0 a w0 w Z0 Z μ0 μ h hb hR hev hext hK)
  | .block id x, β, ann, st, K => by
    unfold exec
    refine ky fun γ ann st K => ?_
    intro Ψ Q b a0 a w0 w Z0 Z μ0 μ h hb hR hev hext hK
    refine wp_block (iD hm hE x γ ann.left st _ Ψ _ b a0 a w0 w Z0 Z μ0 μ h hb hR hev hext ?_)
    intro e s a' w' Z' μ' hs hR' hev' hext'
    cases e with
    | nrm => exact hK .nrm s a' w' Z' μ' hs hR' hev' hext'
    | ret => exact hK .ret s a' w' Z' μ' hs hR' hev' hext'
    | ext n =>
      simp only [mA.exit, Exit.inBlock]
      simp only [gP.at] at hs
      split at hs
      · rename_i hn
        rw [if_pos (by simpa using hn)]
        exact hK .nrm s a' w' Z' μ' hs hR' hev' hext'
      · rename_i hn
        rw [if_neg (by simpa using hn)]
        exact hK (.ext n) s a' w' Z' μ' hs hR' hev' hext'
  | .loop x, β, ann, st, K => by
    intro Ψ Q b a0 a w0 w Z0 Z μ0 μ h hb hR hev hext hK
    unfold exec at h
    split at h
    · rename_i head ex a'
      split at h
      case h_2 => exact h.elim
      rename_i x0 hx0
      have hal : Alike st (fresh st) := ⟨rfl, rfl⟩
      obtain ⟨Z1, μ1, g1, g2, g3⟩ := og (b := fresh st) (hR.alike hal) (hR.alike hal) (Ev.refl _) (bP.refl μ) hx0
      exact wp_loop_rounds fuel (rq (fun γ ann st K => iD hm hE x γ ann st K) hR hev hext hK fuel x0 a w Z1 μ1 (j8 h) g1 g3)
    · rename_i head ex a'
      split at h
      case h_2 => exact h.elim
      exact wM (fun γ ann st K => iD hm hE _ γ ann st K) Ψ Q b a0 a w0 w Z0 Z μ0 μ h hb hR hev hext hK
    · exact wp_loop_rounds _ (u7 (run := fun ann st K => exec E x β ann st K) (fun ann st K => iD hm hE x β ann st K) hb hK _ st a w Z μ h hR hev hext)
    · exact h.elim
  | .exit id, β, ann, st, K => by
    intro Ψ Q b a0 a w0 w Z0 Z μ0 μ h hb hR hev hext hK
    exact wp_exit (hK (.ext id) st a w Z μ h hR hev hext)
  | .ret, β, ann, st, K => by
    intro Ψ Q b a0 a w0 w Z0 Z μ0 μ h hb hR hev hext hK
    exact wp_ret (hK .ret st a w Z μ h hR hev hext)
  | .rangeFunc _ _ _ _, β, ann, st, K => by intro Ψ Q b a0 a w0 w Z0 Z μ0 μ h; unfold exec at h; exact h.elim
  | .scope x, β, ann, st, K => by
    unfold exec
    refine ky fun γ ann st K => ?_
    intro Ψ Q b a0 a w0 w Z0 Z μ0 μ h hb hR hev hext hK
    refine wp_scope_straight (iD hm hE x γ ann.left st K Ψ _ b a0 a w0 w Z0 Z μ0 μ h hb hR hev hext ?_)
    intro e s a' w' Z' μ' hs hR' hev' hext'
    have := hK e s a' w' Z' μ' hs hR' hev' hext'
    cases e <;> exact this
  | .label _, β, ann, st, K => by
    intro Ψ Q b a0 a w0 w Z0 Z μ0 μ h hb hR hev hext hK
    exact wp_label (hK .nrm st a w Z μ h hR hev hext)
  | .refuse _, β, ann, st, K => by intro Ψ Q b a0 a w0 w Z0 Z μ0 μ h; unfold exec at h; exact h.elim
  | .goto _, β, ann, st, K => by intro Ψ Q b a0 a w0 w Z0 Z μ0 μ h; unfold exec at h; exact h.elim
end
end Go.Mach
namespace Go.Mach
section
variable {w : World} {Z : Nat → Prop}
theorem SR.noY {Y Y' : Nat → Prop} : ∀ {s : Sh} {us : List Value} {x : s.den} {S : Nat → Prop}, s.lB = true → SR w Z Y s us x S → SR w Z Y' s us x S
  | .nil, _, _, _, _, hc => hc
  | .undef, _, _, _, _, hc => hc
  | .iC, _, _, _, _, hc => hc
  | .err, _, _, _, _, hc => hc
  | .opq, _, _, _, _, hc => hc
  | .sb _, _, _, _, _, hc => hc
  | .frz _, _, _, _, _, hc => hc
  | .own s, us, xs, S, hn, hc => by
    simp only [SR] at hc ⊢
    obtain ⟨ℓ, h1, h2, h3⟩ := hc
    exact ⟨ℓ, h1, h2, h3.mono (aj.refl _ _) fun i us x T _ _ hR => SR.noY (s := s) hn hR⟩
  | .box s, us, x, S, hn, hc => by
    simp only [SR] at hc ⊢
    obtain ⟨b, o, us', T, h1, h2, h3, h4, h5, h6, h7⟩ := hc
    exact ⟨b, o, us', T, h1, h2, h3, h4, h5, h6, SR.noY (s := s) hn h7⟩
  | .map n s, us, xs, S, hn, hc => by
    simp only [SR] at hc ⊢
    obtain ⟨b, h1, h2⟩ := hc
    exact ⟨b, h1, h2.mono rfl (fun _ h => h) fun _ _ _ _ _ hR => SR.noY (s := s) hn hR⟩
  | .clo f s, us, x, S, hn, hc => by
    simp only [SR] at hc ⊢
    obtain ⟨h0, vs, h1, h2⟩ := hc
    exact ⟨h0, vs, h1, SR.noY (s := s) hn h2⟩
  | .seq a b, us, x, S, hn, hc => by
    simp only [SR] at hc ⊢
    simp only [Sh.lB, Bool.and_eq_true] at hn
    obtain ⟨u1, u2, S1, S2, h1, h2, h3, h4, h5, h6⟩ := hc
    exact ⟨u1, u2, S1, S2, h1, h2, h3, h4, SR.noY hn.1 h5, SR.noY hn.2 h6⟩
  | .bor _, _, _, _, hn, _ => by simp [Sh.lB] at hn
theorem i7.noY {Y Y' : Nat → Prop} : ∀ {l : List VSh} {vs : List Value} {x : iS l} {S : Nat → Prop}, (l.all fun s => s.2.lB) = true → i7 w Z Y l vs x S → i7 w Z Y' l vs x S
  | [], _, _, _, _, h => h
  | [a], _, _, _, hn, h => by
    obtain ⟨v, h0, us, h1, h2, h3⟩ := h
    exact ⟨v, h0, us, h1, h2, h3.noY (by simpa using hn)⟩
  | a :: b :: r, _, _, _, hn, h => by
    rw [List.all_cons, Bool.and_eq_true] at hn
    obtain ⟨v, vs', S1, S2, h0, h1, h2, h3, ⟨us, h4, h5, h6⟩, h7⟩ := h
    exact ⟨v, vs', S1, S2, h0, h1, h2, h3, ⟨us, h4, h5, h6.noY hn.1⟩, h7.noY hn.2⟩
theorem jl.noY {Y Y' : Nat → Prop} : ∀ {ps : List Par} {vs : List Value} {α : Type} {y : outs α (boxes ps)} {S : Nat → Prop}, ((boxes ps).all Sh.lB) = true → jl w Z Y ps vs y S → jl w Z Y' ps vs y S
  | [], _, _, _, _, _, _ => trivial
  | .val _ _ :: r, _, _, _, _, hn, h => by
    obtain ⟨v, vs', h0, h⟩ := h
    exact ⟨v, vs', h0, jl.noY (ps := r) hn h⟩
  | .obj s :: r, _, _, _, _, hn, h => by
    simp only [boxes, List.all_cons, Bool.and_eq_true] at hn
    obtain ⟨v, vs', S1, S2, h0, h1, h2, h3, h4, h5⟩ := h
    exact ⟨v, vs', S1, S2, h0, h1, h2, h3, h4.noY hn.1, jl.noY (ps := r) hn.2 h5⟩
theorem i7.up {Z' Y : Nat → Prop} (hz : ∀ b, Z b → Z' b) : ∀ {l : List VSh} {vs : List Value} {x : iS l} {S : Nat → Prop}, i7 w Z Y l vs x S → i7 w Z' Y l vs x S
  | [], _, _, _, h => h
  | [a], _, _, _, h => by
    obtain ⟨v, h0, h1⟩ := h
    exact ⟨v, h0, h1.up hz⟩
  | a :: b :: r, _, _, _, h => by
    obtain ⟨v, vs', S1, S2, h0, h1, h2, h3, h6, h7⟩ := h
    exact ⟨v, vs', S1, S2, h0, h1, h2, h3, h6.up hz, h7.up hz⟩
theorem i7.len {Y : Nat → Prop} : ∀ {l : List VSh} {vs : List Value} {x : iS l} {S : Nat → Prop}, i7 w Z Y l vs x S → vs.length = l.length
  | [], _, _, _, h => by rw [show _ = [] from h]; rfl
  | [a], _, _, _, h => by obtain ⟨v, rfl, _⟩ := h; rfl
  | a :: b :: r, _, _, _, h => by
    obtain ⟨v, vs', S1, S2, rfl, h1, h2, h3, h6, h7⟩ := h
    simp only [List.length_cons, i7.len h7]
end
section
variable {B : eD} {w : World} {Z : Nat → Prop} {μ : aZ}
theorem ARs.len : ∀ {xs : List AV} {vs : List Value}, ARs w Z μ xs vs → vs.length = xs.length
  | [], _, h => by rw [show _ = [] from h]; rfl
  | x :: xs, _, h => by
    obtain ⟨v, vs', rfl, _, h2⟩ := h
    simp only [List.length_cons, ARs.len h2]
def pI (tmps : Array Value) : ResultVar → Sem Value
  | .tmp t => pure (tmps.getD t undef)
  | .cell a t => do loadVar t (← asAddr (tmps.getD a undef))
theorem sC (fn : Func) (tmps : Array Value) : results fn tmps = (do
    let vs ← fn.results.mapM (pI tmps)
    pure (if h : vs.size = 1 then vs[0] else .tuple vs)) := by
  unfold results
  rfl
def tr (P : Program) : ResultVar → Bool
  | .tmp _ => true
  | .cell _ T => kindOk P T
theorem lK {P : Program} {s : St} {a : Act} {β : Type} {Ψ : β → Prop} (hR : Rel B s a w Z μ) : ∀ (rs : List ResultVar) {K : List AV → Res β}, (rs.all (tr P)) = true → (lG P s rs K).sat Ψ →
    ∃ xs vs, (rs.mapM (pI a.tmps)).run P w = .ok vs w ∧ ARs w Z μ xs vs ∧ (K xs).sat Ψ
  | [], K, _, h => ⟨[], [], by simp [Sem.run_pure], rfl, h⟩
  | r :: rs, K, hk, h => by
    simp only [List.all_cons, Bool.and_eq_true] at hk
    simp only [lG] at h
    have key : ∃ x v, (pI a.tmps r).run P w = .ok v w ∧ AR w Z μ x v ∧ (lG P s rs fun vs => K (x :: vs)).sat Ψ := by
      cases r with
      | tmp t => exact ⟨s.get t, a.tmps.getD t undef, by simp [pI, Sem.run_pure], hR.get t, h⟩
      | cell p T =>
        have h : (nO s.mem (P.cellsOf T) (s.get p) fun cs => lG P s rs fun vs => K (lN (kn P T) cs :: vs)).sat Ψ := h
        obtain ⟨b, o, cs, us, h1, h2, h3, h4, h5⟩ := uJ hR.mem (hR.get p) h
        obtain ⟨v, h6, h7⟩ := qk (w := w) (show kindOk P T = true from hk.1) (by rw [← h4.1, h2]) h3
        refine ⟨_, v, ?_, uZ h4 h7, h5⟩
        simp only [pI, h1]
        simp [asAddr, Sem.run_bind, h6]
    obtain ⟨x, v, h1, h2, h3⟩ := key
    obtain ⟨xs, vs, g1, g2, g3⟩ := lK hR rs hk.2 h3
    refine ⟨x :: xs, v :: vs, ?_, ⟨v, vs, rfl, h2, g2⟩, g3⟩
    rw [List.mapM_cons]
    simp only [Sem.run_bind, h1, Result.andThen_ok, g1, Sem.run_pure]
theorem s5 {P : Program} {fn : Func} {tmps : Array Value} {rs : List VSh} {vs : List Value} (h : (fn.results.toList.mapM (pI tmps)).run P w = .ok vs w) (hl : vs.length = rs.length) :
    ∃ v, (results fn tmps).run P w = .ok v w ∧ wP rs v vs := by
  rw [sC, Array.mapM_eq_mapM_toList]
  simp only [Sem.run_bind, Sem.run_map, h, Result.andThen_ok, Sem.run_pure]
  refine ⟨_, rfl, ?_⟩
  unfold wP
  split
  · match vs, hl with
    | [v], _ => simp
  · rename_i hne
    have h1 : ¬ vs.length = 1 := fun he => by
      match rs, hl with
      | [r], _ => exact hne r rfl
      | [], hl => rw [he] at hl; simp at hl
      | _ :: _ :: _, hl => rw [he] at hl; simp at hl
    simp [h1]
def yr : List Par → List AV → Prop
  | .obj _ :: r, v :: vs => (∃ c, v = .c c) ∧ yr r vs
  | .val _ _ :: r, _ :: vs => yr r vs
  | _, _ => True
theorem rz : ∀ {ps : List Par} {x : iS (ps.map Par.v)} {m : Mem}, yr ps (mks (ps.map Par.v) x m).1
  | [], _, _ => trivial
  | [.val g s], x, m => trivial
  | [.obj s], x, m => by
    refine ⟨?_, trivial⟩
    simp only [List.map, mks, Par.v, lN]
    cases (s.mk x m).1 <;> exact ⟨_, rfl⟩
  | .val g s :: q :: r, x, m => rz (ps := q :: r) (x := x.2) (m := (s.mk x.1 m).2)
  | .obj s :: q :: r, x, m => by
    refine ⟨?_, rz (ps := q :: r) (x := x.2) (m := (s.mk x.1 m).2)⟩
    simp only [Par.v, lN]
    cases (s.mk x.1 m).1 <;> exact ⟨_, rfl⟩
theorem ko : ∀ {ps : List Par} {xs : List AV} {us : List Value} {α : Type} {y : α} {z : outs α (boxes ps)} {m : Mem} {Z F : Nat → Prop}, az B m w Z μ → bX B m w Z μ F → ARs w Z μ xs us → yr ps xs → oU ps xs y m = some z →
    ∃ (m' : Mem) (Z' F' S : Nat → Prop), az B m' w Z' μ ∧ bX B m' w Z' μ F' ∧ (∀ b, Z b → Z' b) ∧ (∀ b, F b → F' b) ∧ (∀ b, S b → F' b ∧ ¬ F b) ∧ jl w Z' B.Y ps us z S ∧ jF (boxes ps) z = y
  | [], xs, us, α, y, z, m, Z, F, hM, hF, hx, ho, h => by
    simp only [oU, Option.some.injEq] at h
    exact ⟨m, Z, F, fun _ => False, hM, hF, fun _ h => h, fun _ h => h, fun _ h => h.elim, trivial, h.symm⟩
  | .val g s :: r, xs, us, α, y, z, m, Z, F, hM, hF, hx, ho, h => by
    match xs, h with
    | x :: xs, h =>
      obtain ⟨v, vs', rfl, h1, h2⟩ := hx
      obtain ⟨m', Z', F', S, e1, e2, e3, e4, e5, e6, e7⟩ := ko (ps := r) hM hF h2 ho h
      exact ⟨m', Z', F', S, e1, e2, e3, e4, e5, ⟨v, vs', rfl, e6⟩, e7⟩
  | .obj s :: r, xs, us, α, y, z, m, Z, F, hM, hF, hx, ho, h => by
    match xs, h with
    | x :: xs, h =>
      obtain ⟨v, vs', rfl, h1, h2⟩ := hx
      obtain ⟨⟨c, rfl⟩, ho⟩ := ho
      simp only [oU] at h
      split at h
      case h_2 => cases h
      rename_i x1 m1 hg
      split at h
      case h_2 => cases h
      rename_i z1 hz
      simp only [Option.some.injEq] at h
      subst h
      obtain ⟨⟨Z1, F1, S1, us1, us2, e1, e2, e3, e4, e5, e6, e7, e8, e9⟩, _⟩ := gj s hM hF (CRs.mk1 (show CR w Z μ c v from h1)) hg
      have := e9.hB
      subst this
      rw [List.append_nil] at e1
      subst e1
      obtain ⟨m', Z', F', S2, g1, g2, g3, g4, g5, g6, g7⟩ := ko (ps := r) e3 e4 (h2.mono (aj.refl _ _) e5 (bP.refl μ)) ho hz
      refine ⟨m', Z', F', fun d => S1 d ∨ S2 d, g1, g2, fun b hb => g3 b (e5 b hb), fun b hb => g4 b (e6 b hb), fun d hd => ?_, ⟨v, vs', S1, S2, rfl, fun _ h => .inl h, fun _ h => .inr h, fun d a b => (g5 d b).2 (e7 d a).1, ?_, g6⟩, rfl⟩
      · rcases hd with hd | hd
        · exact ⟨g4 d (e7 d hd).1, (e7 d hd).2⟩
        · exact ⟨(g5 d hd).1, fun hf => (g5 d hd).2 (e6 d hf)⟩
      · show SR w Z' B.Y s [v] (jF (boxes r) z1) S1
        rw [g7]
        exact e8.up g3
end
end Go.Mach
namespace Go.Mach
theorem wI {sp : Spec} {E : Env} {G : nX} {fn : Func} {ann : Ann} (hm : E.P.follows .mixedOrders = true) (hE : lv E G) (hfn : E.P.funcs[sp.f]? = some fn) (hbody : fn.body.isSome = true) (hname : (fn.name == "runtime.NumGoroutine") = false)
    (hobj : (boxes sp.ps).all Sh.jw = true) (hnb : (sp.rs.all fun s => s.2.lB) = true) (hnb2 : (boxes sp.ps).all Sh.lB = true) (hres : fn.results.toList.all (tr E.P) = true)
    (heq : ∀ x, rN E fn sp.ps sp.rs ann x = sp.run x) : iK E.P G sp := by
  refine ⟨⟨fn, hfn, hbody, hname⟩, hobj, fun w Z Y S args x Ψ hsat hG hZ hY hS hV => ?_⟩
  rw [← heq x] at hsat
  unfold rN at hsat
  split at hsat
  case h_2 => exact hsat.elim
  rename_i code hcode
  let B : eD := ⟨w, S, Z, Y, G, hG.1, fun b hb => ⟨hG.2 b hb, hZ b (hG.2 b hb), fun h => (hS b h).2 (hG.2 b hb)⟩⟩
  let m0 : Mem := ⟨List.replicate (jy (sp.ps.map Par.v)) bk.dead, 0, 0⟩
  have hdead : ∀ (r : Nat) (y : bk), m0.roots[r]? = some y → y = bk.dead := fun r y hy => by
    have hy : (List.replicate (jy (sp.ps.map Par.v)) bk.dead)[r]? = some y := hy
    rw [List.getElem?_replicate] at hy
    split at hy
    · exact (Option.some.inj hy).symm
    · cases hy
  have hM0 : az B m0 w Z (fun _ => none) := by
    refine ⟨(fun r y hy hd => absurd (hdead r y hy) hd), (fun r s y z ℓ ℓ' _ _ _ _ _ hl => by cases hl), (fun r y ℓ b _ _ hl => by cases hl), fun b hb => ⟨hZ b hb, .inl hb⟩, fun b hb => hb, Nat.le_refl _, fun b _ _ => rfl, fun _ _ => rfl, fun b hb => hY b hb, Io.refl _⟩
  have hL0 : bX B m0 w Z (fun _ => none) S := by
    refine ⟨fun b hb => ⟨(hS b hb).2, (hS b hb).1, .inr hb⟩, fun b r hb => ?_⟩
    rintro ⟨y, ℓ, _, _, hl, _⟩
    cases hl
  have hF0 : iM m0 (fun _ => none) (jy (sp.ps.map Par.v)) := fun k hk => ⟨rfl, by
    show (List.replicate (jy (sp.ps.map Par.v)) bk.dead)[0 + k]? = _
    rw [Nat.zero_add, List.getElem?_replicate, if_pos hk]⟩
  obtain ⟨μ1, e1, e2, e3, e4⟩ := od hM0 hL0 hF0 hV (fun _ h => h)
  have hobjc := rz (ps := sp.ps) (x := x) (m := m0)
  have hm0 : (⟨List.replicate (jy (sp.ps.map Par.v)) bk.dead, 0, 0⟩ : Mem) = m0 := rfl
  rw [hm0] at hsat
  generalize mks (sp.ps.map Par.v) x m0 = k at hsat e1 e2 e3 e4 hobjc
  obtain ⟨vs, m⟩ := k
  simp only at hsat e1 e2 e3 e4 hobjc
  have hsat := oa hsat hV.ok
  refine calls_of_wp hfn hcode ?_
  let st : St := ⟨vs ++ List.replicate (fn.ntmps - vs.length) (.c .undef), m, []⟩
  have hlen := e3.len
  have hR : Rel B st { tmps := args.toArray ++ Array.replicate (fn.ntmps - args.toArray.size) undef, defers := [] } w Z μ1 := by
    refine ⟨e1, fun i z hz => ?_, ?_, rfl⟩
    · have hz : (vs ++ List.replicate (fn.ntmps - vs.length) (AV.c .undef))[i]? = some z := hz
      rcases Nat.lt_or_ge i vs.length with h1 | h1
      · rw [List.getElem?_append_left h1] at hz
        obtain ⟨v, hv, har⟩ := ARs.at_ e3 i z hz
        have : (args.toArray ++ Array.replicate (fn.ntmps - args.toArray.size) undef).getD i undef = v := by
          rw [Array.getD_eq_getD_getElem?, Array.getElem?_append_left (by simp; omega)]
          simp [hv]
        show AR w Z μ1 z ((args.toArray ++ Array.replicate (fn.ntmps - args.toArray.size) undef).getD i undef)
        rw [this]; exact har
      · rw [List.getElem?_append_right h1, List.getElem?_replicate] at hz
        split at hz
        · cases hz; exact AR.undef _
        · cases hz
    · show (vs ++ List.replicate (fn.ntmps - vs.length) (AV.c .undef)).length = (args.toArray ++ Array.replicate (fn.ntmps - args.toArray.size) undef).size
      simp [hlen]
  refine iD (B := B) hm hE code _ ann st _ Ψ _ st _ _ w w Z Z μ1 μ1 hsat hR hR (Ev.refl _) (bP.refl _) ?_
  intro e s a' w' Z' μ' hs hR' _ hext'
  have hfin : (fin E.P fn sp.ps sp.rs vs s).sat Ψ → a'.defers = [] ∧ ∃ v, (results fn a'.tmps).run E.P w' = .ok v w' ∧ (∃ y v' gz, ∃ Z' S1 S2 : Nat → Prop, Ending.returned v = .returned v' ∧ Ψ y ∧ wP sp.rs v' gz ∧
      i7 w' Z' (fun _ => False) sp.rs gz (jF (boxes sp.ps) y) S1 ∧ jl w' Z' (fun _ => False) sp.ps args y S2 ∧ (∀ d, S1 d → S2 d → False) ∧
      (∀ b, S1 b ∨ S2 b → b < w'.heap.size ∧ ¬ Z' b ∧ (S b ∨ w.heap.size ≤ b)) ∧ (∀ b, Z b → Z' b) ∧ (∀ b, Z' b → b < w'.heap.size ∧ (Z b ∨ S b ∨ w.heap.size ≤ b)) ∧
      w.heap.size ≤ w'.heap.size ∧ (∀ b, b < w.heap.size → ¬ S b → w'.heap[b]? = w.heap[b]?) ∧ Io w w') := by
    intro hs
    unfold fin at hs
    obtain ⟨xs, gz, hrun, hxs, hs⟩ := lK hR' fn.results.toList hres hs
    split at hs
    case h_2 => exact hs.elim
    rename_i y m1 hg
    split at hs
    case h_2 => exact hs.elim
    rename_i z ho
    obtain ⟨Z1, F1, S1, a1, a2, a3, a4, a5, a6, a7⟩ := mq hR'.mem (bX.none B s.mem w' Z' μ') hxs hg
    have hsame : aj Z w w' := fun b hb => a1.nn b (hZ b hb) fun hS' => (hS b hS').2 hb
    obtain ⟨m2, Z2, F2, S2, b1, b2, b3, b4, b5, b6, b7⟩ := ko (ps := sp.ps) a1 a2 (e3.mono hsame a1.ou hext') hobjc ho
    obtain ⟨v, hv, hret⟩ := s5 (rs := sp.rs) hrun a7.len
    refine ⟨hR'.df, v, hv, z, v, gz, Z2, S1, S2, rfl, hs, hret, ?_, b6.noY hnb2, fun d h1 h2 => (b5 d h2).2 (a5 d h1).1, fun b hb => ?_, b1.ou, fun b hb => ?_, b1.size, b1.nn, b1.io⟩
    · rw [b7]
      exact (a7.up b3).noY hnb
    · have hF : F2 b := by
        rcases hb with hb | hb
        · exact b4 b (a5 b hb).1
        · exact (b5 b hb).1
      obtain ⟨c1, c2, c3⟩ := b2.ok b hF
      exact ⟨c2, c1, c3.symm⟩
    · obtain ⟨c1, c2⟩ := b1.frz b hb
      exact ⟨c1, c2.imp id Or.symm⟩
  cases e with
  | nrm => exact hfin hs
  | ret => exact hfin hs
  | ext n => exact hs.elim
theorem rb {sp : Spec} {P : Program} {G : nX} {fn : Func} (hfn : P.funcs[sp.f]? = some fn) (hbody : fn.body.isSome = true) (hname : (fn.name == "runtime.NumGoroutine") = false) (hobj : (boxes sp.ps).all Sh.jw = true) (h0 : ∀ x, sp.run x = .stuck) : iK P G sp :=
  ⟨⟨fn, hfn, hbody, hname⟩, hobj, fun w Z Y S args x Ψ hsat => by rw [h0] at hsat; exact hsat.elim⟩
end Go.Mach
namespace Go.Mach
section
variable {α β : Type} (f : α → Res β)
noncomputable def gP.then (K : gP α) : gP β := { nrm := fun st => (K.nrm st).bind f, ext := fun n st => (K.ext n st).bind f, ret := fun st => (K.ret st).bind f }
theorem Res.AB {γ δ : Type} (x : γ ⊕ δ) (g : γ → Res α) (h : δ → Res α) : (Res.sum x g h).bind f = Res.sum x (fun y => (g y).bind f) fun y => (h y).bind f := by cases x <;> rfl
theorem tz (E : Env) (ρ : Operand → AV) (M : Mem) (o : Oper) (K : AV → Mem → Res α) : dG E ρ M o (fun v m => (K v m).bind f) = (dG E ρ M o K).bind f := by
  rw [lX, lX E ρ M o K, Res.bind_assoc]
theorem pC (ops : Array Oper) (dst : Option Tmp) (st : St) (K : St → Res α) : mw ops dst st (fun s => (K s).bind f) = (mw ops dst st K).bind f := by
  unfold mw
  split
  · unfold wi
    split
    · split
      · rw [Res.vB]
      · rfl
    · rfl
  · rfl
theorem lE (E : Env) (ops : Array Oper) (A : List Nat) (K : St → Res α) : ∀ (rest : List Oper) (i c : Nat) (l : Log) (st : St), jQ E ops A rest i c l st (fun s => (K s).bind f) = (jQ E ops A rest i c l st K).bind f
  | [], _, _, _, _ => rfl
  | o :: rest, i, c, l, st => by
    simp only [jQ]
    split
    · split
      · split
        · rw [← tz]
          congr 1
          funext v m
          split
          · rw [← pC]
            congr 1
            funext s
            exact lE E ops A K rest _ _ _ _
          · rfl
        · rfl
      · split
        · rename_i j xs _
          rw [j.cps, j.cps α, Res.bind_assoc]
          congr 1
          funext p
          rw [← pC]
          congr 1
          funext s
          exact lE E ops A K rest _ _ _ _
        · rw [← tz]
          congr 1
          funext v m
          rw [← pC]
          congr 1
          funext s
          exact lE E ops A K rest _ _ _ _
    · exact lE E ops A K rest _ _ _ _
    · rfl
theorem gP.xq (K : gP α) (k : mA) (st : St) : (K.then f).at k st = (K.at k st).bind f := by cases k <;> rfl
theorem xO (st : St) (K : gP α) : ∀ (l : iU) (x : l.den), iU.go st (K.then f) l x = (iU.go st K l x).bind f
  | [], _ => rfl
  | [a], x => by simp only [iU.go]; exact gP.xq f K _ _
  | a :: b :: r, x => by
    simp only [iU.go]
    rw [Res.AB]
    congr 1
    · funext y; exact gP.xq f K _ _
    · funext y; exact xO st K (b :: r) y
theorem mL {run : (γ : Type) → Ann → St → gP γ → Res γ} {ann : Ann} (h : ∀ st (K : gP α), run β ann st (K.then f) = (run α ann st K).bind f) (st : St) (K : gP α) :
    cutAt ann st (K.then f) run = (cutAt ann st K run).bind f := by
  unfold cutAt
  split
  · rename_i ex _
    rw [Res.bind_assoc]
    congr 1
    funext x
    exact xO f st K ex x
  · exact h st K
theorem Ann.rU {a : Ann} (h : a.iN = true) : a.left.iN = true := by
  cases a with
  | two a b => simp only [Ann.iN, Bool.and_eq_true] at h; exact h.1
  | _ => rfl
theorem Ann.ve {a : Ann} (h : a.iN = true) : a.right.iN = true := by
  cases a with
  | two a b => simp only [Ann.iN, Bool.and_eq_true] at h; exact h.2
  | _ => rfl
theorem vp {run : (γ : Type) → Ann → St → gP γ → Res γ} (h : ∀ ann st (K : gP α), ann.iN = true → run β ann st (K.then f) = (run α ann st K).bind f) (K : gP α) : ∀ (ann : Ann) (st : St), ann.iN = true → oc (run β) ann st (K.then f) = (oc (run α) ann st K).bind f := by
  intro ann
  induction ann with
  | unr a r _ ih =>
    intro st hn
    simp only [Ann.iN, Bool.and_eq_true] at hn
    simp only [oc]
    rw [← h _ _ _ hn.1]
    congr 1
    simp only [gP.then]
    congr 1
    funext s
    exact ih s hn.2
  | _ => intro st _; rfl
theorem lC (E : Env) : ∀ (c : Code) (ann : Ann) (st : St) (K : gP α), ann.iN = true → exec E c β ann st (K.then f) = (exec E c α ann st K).bind f
  | .skip, ann, st, K, _ => rfl
  | .region _ ops draw, ann, st, K, _ => by
    unfold exec
    refine mL f (fun st K => ?_) st K
    simp only
    split
    · exact lE f _ ops _ K.nrm _ _ _ _ _
    · rfl
  | .seq x y, ann, st, K, h => by
    unfold exec
    refine mL f (ann := ann) (run := fun γ ann st K => exec E x γ ann.left st { nrm := fun st => exec E y γ ann.right st K, ext := K.ext, ret := K.ret }) (fun st K => ?_) st K
    rw [← lC E x ann.left st _ (Ann.rU h)]
    congr 1
    simp only [gP.then]
    congr 1
    funext s
    exact lC E y ann.right s K (Ann.ve h)
  | .cond c x y, ann, st, K, h => by
    unfold exec
    refine mL f (fun st K => ?_) st K
    split
    · rw [Res.vB, lC E x ann.left st K (Ann.rU h), lC E y ann.right st K (Ann.ve h)]
    · rfl
  | .block id x, ann, st, K, h => by
    unfold exec
    refine mL f (fun st K => ?_) st K
    rw [← lC E x ann.left st _ (Ann.rU h)]
    congr 1
    simp only [gP.then]
    congr 1
    funext n s
    split <;> rfl
  | .loop x, ann, st, K, h => by
    unfold exec
    split
    · split
      · rw [Res.bind_assoc]
        congr 1
        funext y
        exact xO f st K _ y
      · rfl
    · cases h
    · exact vp f (run := fun γ ann st K => exec E x γ ann st K) (fun ann st K hn => lC E x ann st K hn) K _ st h
    · rfl
  | .scope x, ann, st, K, h => by
    unfold exec
    exact mL f (ann := ann) (run := fun γ ann st K => exec E x γ ann.left st K) (fun st K => lC E x ann.left st K (Ann.rU h)) st K
  | .label _, ann, st, K, _ => rfl
  | .exit id, ann, st, K, _ => rfl
  | .ret, ann, st, K, _ => rfl
  | .rangeFunc _ _ _ _, ann, st, K, _ => by unfold exec; rfl
  | .refuse _, ann, st, K, _ => by unfold exec; rfl
  | .goto _, ann, st, K, _ => by unfold exec; rfl
theorem ml (P : Program) (st : St) : ∀ (rs : List ResultVar) (K : List AV → Res α), lG P st rs (fun vs => (K vs).bind f) = (lG P st rs K).bind f
  | [], K => rfl
  | r :: rs, K => by
    simp only [lG, resAV]
    split
    · exact ml P st rs _
    · have hl : ∀ {m : Mem} {n : Nat} {a : AV} (k : List C → Res α), nO m n a (fun cs => (k cs).bind f) = (nO m n a k).bind f := by
        intro m n a k
        unfold nO
        split
        · split
          · split <;> rfl
          · split <;> rfl
          · rfl
        · split <;> rfl
        · split
          · rw [Res.mF]
            congr 1
            funext x
            split <;> rfl
          · rw [Res.gh]
            congr 1
            split <;> rfl
          · rfl
        · rfl
      rw [← hl]
      congr 1
      funext cs
      exact ml P st rs _
end
end Go.Mach
namespace Go.Mach
def sd : List AV → AV
  | [v] => v
  | vs => .tup (vs.map fun v => match v with
    | .c x => (false, [x])
    | .agg cs => (true, cs)
    | .tup _ => (false, [.undef]))
noncomputable def qg (E : Env) (fn : Func) (ann : Ann) (β : Type) (xs : List AV) (m : Mem) (K : AV → Mem → Res β) : Res β :=
  match fn.body with
  | some code => exec E code β ann ⟨xs ++ List.replicate (fn.ntmps - xs.length) (.c .undef), ⟨m.roots, 0, m.cur⟩, []⟩
      { nrm := fun st => lG E.P st fn.results.toList fun vs => K (sd vs) ⟨st.mem.roots, m.dR ||| st.mem.dR, st.mem.cur⟩
        ext := fun _ _ => .stuck
        ret := fun st => lG E.P st fn.results.toList fun vs => K (sd vs) ⟨st.mem.roots, m.dR ||| st.mem.dR, st.mem.cur⟩ }
  | none => .stuck
theorem xP {E : Env} {fn : Func} {ann : Ann} (h : ann.iN = true) (β : Type) (xs : List AV) (m : Mem) (K : AV → Mem → Res β) : qg E fn ann β xs m K = (qg E fn ann (AV × Mem) xs m fun v m => .ok (v, m)).bind fun p => K p.1 p.2 := by
  unfold qg
  split
  · refine Eq.trans ?_ (lC (fun p : AV × Mem => K p.1 p.2) E _ ann _ _ h)
    congr 1
    simp only [gP.then]
    congr 1
    · funext s
      exact ml (fun p : AV × Mem => K p.1 p.2) E.P s _ fun vs => Res.ok (sd vs, ⟨s.mem.roots, m.dR ||| s.mem.dR, s.mem.cur⟩)
    · funext s
      exact ml (fun p : AV × Mem => K p.1 p.2) E.P s _ fun vs => Res.ok (sd vs, ⟨s.mem.roots, m.dR ||| s.mem.dR, s.mem.cur⟩)
  · rfl
noncomputable def wC (f : FuncId) (E : Env) (fn : Func) (ann : Ann) (n : Nat := 0) (h : ann.iN = true := by rfl) : Inl := ⟨f, qg E fn ann, n, xP h⟩
theorem zx {w : World} {Z : Nat → Prop} {μ : aZ} {xs : List AV} {gz : List Value} (h : ARs w Z μ xs gz) {v : Value} (hv : (gz.length = 1 ∧ gz = [v]) ∨ (gz.length ≠ 1 ∧ v = .tuple gz.toArray)) : AR w Z μ (sd xs) v := by
  have hl := h.len
  rcases hv with ⟨h1, rfl⟩ | ⟨h1, rfl⟩
  · match xs, h with
    | [x], h =>
      obtain ⟨v', vs', he, h2, h3⟩ := h
      cases he
      exact h2
    | [], h => simp at hl
    | _ :: _ :: _, h => simp at hl
  · have hp : sd xs = .tup (xs.map fun v => match v with
      | .c x => (false, [x])
      | .agg cs => (true, cs)
      | .tup _ => (false, [.undef])) := by
      match xs with
      | [] => rfl
      | [x] => simp at hl; exact absurd hl h1
      | _ :: _ :: _ => rfl
    rw [hp]
    refine ⟨gz, rfl, by simp [hl], fun k hk hk' => ?_⟩
    simp only [List.getElem_map]
    have hk2 : k < xs.length := by simpa using hk
    obtain ⟨u, hu, har⟩ := ARs.at_ h k xs[k] (List.getElem?_eq_getElem hk2)
    have hu : gz[k] = u := by rw [List.getElem?_eq_getElem hk'] at hu; exact Option.some.inj hu
    rw [hu]
    generalize xs[k] = x at har
    cases x with
    | c c => exact har
    | agg cs => exact har
    | tup l => exact trivial
theorem uQ {P : Program} {w : World} {fn : Func} {tmps : Array Value} {vs : List Value} (h : (fn.results.toList.mapM (pI tmps)).run P w = .ok vs w) :
    ∃ v, (results fn tmps).run P w = .ok v w ∧ ((vs.length = 1 ∧ vs = [v]) ∨ (vs.length ≠ 1 ∧ v = .tuple vs.toArray)) := by
  rw [sC, Array.mapM_eq_mapM_toList]
  simp only [Sem.run_bind, Sem.run_map, h, Result.andThen_ok, Sem.run_pure]
  refine ⟨_, rfl, ?_⟩
  by_cases h1 : vs.length = 1
  · match vs, h1 with
    | [v], _ => exact .inl ⟨rfl, by simp⟩
  · exact .inr ⟨h1, by simp [h1]⟩
theorem oE {E : Env} {G : nX} {f : FuncId} {fn : Func} {ann : Ann} (hm : E.P.follows .mixedOrders = true) (hE : lv E G) (hfn : E.P.funcs[f]? = some fn) (hbody : fn.body.isSome = true) (hname : (fn.name == "runtime.NumGoroutine") = false)
    (hres : fn.results.toList.all (tr E.P) = true) {n : Nat} {hnr : ann.iN = true} : xv E.P G (wC f E fn ann n hnr) := by
  refine ⟨⟨fn, hfn, hbody, hname⟩, ?_⟩
  rintro B β Ψ xs args m w Z μ K rfl hM hx h
  have h : (qg E fn ann β xs m K).sat Ψ := h
  unfold qg at h
  split at h
  case h_2 => exact h.elim
  rename_i code hcode
  let B2 : eD := ⟨w, fun b => ¬ Z b ∧ (B.w0.heap.size ≤ b ∨ B.A b), Z, B.Y, B.g, hM.ui.1, fun b hb => ⟨hM.ui.2 b hb, (hM.frz b (hM.ui.2 b hb)).1, fun h => h.1 (hM.ui.2 b hb)⟩⟩
  let m0 : Mem := ⟨m.roots, 0, m.cur⟩
  have hM2 : az B2 m0 w Z μ := ⟨hM.rt, hM.dj, fun r x ℓ b h1 h2 h3 h4 => by
      obtain ⟨g1, g2, g3⟩ := hM.own r x ℓ b h1 h2 h3 h4
      exact ⟨g1, g2, .inr ⟨g1, g3⟩⟩, fun b hb => ⟨(hM.frz b hb).1, .inl hb⟩, fun b hb => hb, Nat.le_refl _, fun b _ _ => rfl, hM.far, fun b hb => ⟨Nat.lt_of_lt_of_le (hM.ju b hb).1 hM.size, fun hA => by
      obtain ⟨g1, g2⟩ := hM.ju b hb
      rcases hA.2 with h2 | h2
      · omega
      · exact g2 h2⟩, Io.refl _⟩
  refine calls_of_wp hfn hcode ?_
  let st : St := ⟨xs ++ List.replicate (fn.ntmps - xs.length) (.c .undef), m0, []⟩
  have hlen := hx.len
  have hR : Rel B2 st { tmps := args.toArray ++ Array.replicate (fn.ntmps - args.toArray.size) undef, defers := [] } w Z μ := by
    refine ⟨hM2, fun i z hz => ?_, ?_, rfl⟩
    · have hz : (xs ++ List.replicate (fn.ntmps - xs.length) (AV.c .undef))[i]? = some z := hz
      rcases Nat.lt_or_ge i xs.length with h1 | h1
      · rw [List.getElem?_append_left h1] at hz
        obtain ⟨v, hv, har⟩ := ARs.at_ hx i z hz
        have : (args.toArray ++ Array.replicate (fn.ntmps - args.toArray.size) undef).getD i undef = v := by
          rw [Array.getD_eq_getD_getElem?, Array.getElem?_append_left (by simp; omega)]
          simp [hv]
        show AR w Z μ z ((args.toArray ++ Array.replicate (fn.ntmps - args.toArray.size) undef).getD i undef)
        rw [this]; exact har
      · rw [List.getElem?_append_right h1, List.getElem?_replicate] at hz
        split at hz
        · cases hz; exact AR.undef _
        · cases hz
    · show (xs ++ List.replicate (fn.ntmps - xs.length) (AV.c .undef)).length = (args.toArray ++ Array.replicate (fn.ntmps - args.toArray.size) undef).size
      simp [hlen]
  refine iD (B := B2) hm hE code _ ann st _ Ψ _ st _ _ w w Z Z μ μ h hR hR (Ev.refl _) (bP.refl _) ?_
  intro e s a' w' Z' μ' hs hR' hev hext'
  have hfin : (lG E.P s fn.results.toList fun vs => K (sd vs) ⟨s.mem.roots, m.dR ||| s.mem.dR, s.mem.cur⟩).sat Ψ → a'.defers = [] ∧ ∃ v, (results fn a'.tmps).run E.P w' = .ok v w' ∧ (∃ vr v' m', ∃ Z' : Nat → Prop, ∃ μ', Ending.returned v = .returned vr ∧ (K v' m').sat Ψ ∧ az B m' w' Z' μ' ∧ AR w' Z' μ' v' vr ∧ aj Z w w' ∧ (∀ b, Z b → Z' b) ∧ bP μ μ' ∧ m.roots.length ≤ m'.roots.length ∧
      (∀ r, r < m.roots.length → m'.dR.testBit r = false → m'.roots[r]? = m.roots[r]?) ∧ (∀ r, m.dR.testBit r = true → m'.dR.testBit r = true)) := by
    intro hs
    obtain ⟨ys, gz, hrun, hys, hs⟩ := lK hR' fn.results.toList hres hs
    obtain ⟨v, hv, hp⟩ := uQ hrun
    have hN := hR'.mem
    refine ⟨hR'.df, v, hv, v, _, _, Z', μ', rfl, hs, ?_, zx hys hp, ?_, hN.ou, hext', hev.rl, fun r hr hb => ?_, fun r hr => ?_⟩
    · refine az.congr (m := s.mem) ?_ rfl
      refine ⟨hN.rt, hN.dj, fun r x ℓ b h1 h2 h3 h4 => ?_, fun b hb => ?_, fun b hb => hN.ou b (hM.ou b hb), Nat.le_trans hM.size hN.size, fun b hb hA => ?_, hN.far, hM.ju, hM.io.trans hN.io⟩
      · obtain ⟨g1, g2, g3⟩ := hN.own r x ℓ b h1 h2 h3 h4
        refine ⟨g1, g2, ?_⟩
        rcases g3 with g3 | g3
        · exact .inl (Nat.le_trans hM.size g3)
        · exact g3.2
      · obtain ⟨g1, g2⟩ := hN.frz b hb
        refine ⟨g1, ?_⟩
        rcases g2 with g2 | g2 | g2
        · exact (hM.frz b g2).2
        · exact .inr (.inl (Nat.le_trans hM.size g2))
        · exact .inr g2.2
      · refine (hN.nn b (Nat.lt_of_lt_of_le hb hM.size) fun h2 => ?_).trans (hM.nn b hb hA)
        rcases h2.2 with h3 | h3
        · omega
        · exact hA h3
    · exact fun b hb => hN.nn b (hM.frz b hb).1 fun h2 => h2.1 hb
    · simp only [Nat.testBit_or, Bool.or_eq_false_iff] at hb
      exact hev.rt r hr hb.2
    · simp only [Nat.testBit_or, hr, Bool.true_or]
  cases e with
  | nrm => exact hfin hs
  | ret => exact hfin hs
  | ext n => exact hs.elim
end Go.Mach
namespace Go.Mach
structure Sg where
  ps : List Par
  rs : List VSh
abbrev Sg.I (g : Sg) : Type := iS (g.ps.map Par.v)
abbrev Sg.O (g : Sg) : Type := outs (iS g.rs) (boxes g.ps)
@[reducible] def Sg.i (g : Sg) (x : g.I) : Bool := oks (g.ps.map Par.v) x
def Sg.o (g : Sg) (y : g.O) : Bool := nF (oks g.rs) (boxes g.ps) y
@[reducible] def Sg.sp (g : Sg) (f : FuncId) (run : g.I → Res g.O) : Spec := ⟨f, g.ps, g.rs, run⟩
abbrev Ann.r (a : Ann) : Ann := .two .none a
abbrev Ann.l (a : Ann) : Ann := .two a .none
abbrev rg (a n : Nat) : List Nat := List.range' a n
abbrev Sh.i : Sh := .frz (.int .i64)
abbrev Sh.h : Sh := .frz (.int .u16)
abbrev Sh.y : Sh := .frz (.int .u8)
abbrev Sh.w : Sh := .frz (.int .u32)
abbrev Sh.b : Sh := .frz .bool
abbrev Sh.s : Sh := .frz .str
abbrev vi : VSh := (false, .i)
abbrev vb : VSh := (false, .b)
abbrev vs : VSh := (false, .s)
abbrev Par.i : Par := .val false .i
abbrev Par.b : Par := .val false .b
abbrev Par.s : Par := .val false .s
def fnOk (P : Program) (ps : List Par) (rs : List VSh) (fn : Func) : Bool :=
  fn.body.isSome && (!(fn.name == "runtime.NumGoroutine") && ((boxes ps).all Sh.jw && ((rs.all fun s => s.2.lB) && ((boxes ps).all Sh.lB && fn.results.toList.all (tr P)))))
def Eqn (E : Env) (sp : Spec) (ann : Ann) : Prop := ∃ fn, E.P.funcs[sp.f]? = some fn ∧ fnOk E.P sp.ps sp.rs fn = true ∧ ∀ x, rN E fn sp.ps sp.rs ann x = sp.run x
theorem eqn {E : Env} {f : FuncId} {ps : List Par} {rs : List VSh} {run : iS (ps.map Par.v) → Res (outs (iS rs) (boxes ps))} {ann : Ann} (fn : Func) (h1 : E.P.funcs[f]? = some fn := by kernel_rfl) (h2 : fnOk E.P ps rs fn = true := by kernel_rfl) (h3 : ∀ x, rN E fn ps rs ann x = run x := by intro x; kernel_rfl) : Eqn E ⟨f, ps, rs, run⟩ ann := ⟨fn, h1, h2, h3⟩
theorem Eqn.sF {E : Env} {G : nX} {sp : Spec} {ann : Ann} (h : Eqn E sp ann) (hm : E.P.follows .mixedOrders = true) (hE : lv E G) : iK E.P G sp := by
  obtain ⟨fn, h1, h2, h3⟩ := h
  simp only [fnOk, Bool.and_eq_true, Bool.not_eq_true'] at h2
  exact wI hm hE h1 h2.1 h2.2.1 h2.2.2.1 h2.2.2.2.1 h2.2.2.2.2.1 h2.2.2.2.2.2 h3
theorem Eqn.stuck {E : Env} {G : nX} {sp : Spec} {ann : Ann} {run : iS (sp.ps.map Par.v) → Res (outs (iS sp.rs) (boxes sp.ps))} (h : Eqn E sp ann) (h0 : ∀ x, run x = .stuck) : iK E.P G ⟨sp.f, sp.ps, sp.rs, run⟩ := by
  obtain ⟨fn, h1, h2, h3⟩ := h
  simp only [fnOk, Bool.and_eq_true, Bool.not_eq_true'] at h2
  exact rb h1 h2.1 h2.2.1 h2.2.2.1 h0
end Go.Mach
namespace Go.Mach
def si (n : Int) : Res (List UInt8) := .ok (Lib.itoa n)
@[reducible] def pk.ps : List Par := [.val false (.frz (.int .i64))]
@[reducible] def pk.rs : List VSh := [(false, .frz .str)]
abbrev pk.g : Sg := ⟨pk.ps, pk.rs⟩
def qP (f : FuncId) : Spec := ⟨f, pk.ps, pk.rs, fun x => si x⟩
def vN (s : List UInt8) : Res (Int × Bool) :=
  match Lib.atoiAll s with
  | .ok v => .ok (v, true)
  | .range => .ok (Lib.atoiSat s, false)
  | _ => .ok (0, false)
def ixbRun (s : List UInt8) (c : Int) : Res Int := .ok (Lib.indexByte s c.toNat.toUInt8)
end Go.Mach
