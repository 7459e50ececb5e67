/-
  Proved here: the law renlaw12.EvalWithin returns true for every input of the stated bulk and leaves its arguments as they were; no further condition.
  By an AI agent; no person has read it.
-/
import Derived.Test.YtdmjcmcdgepoeaaGreatDoorPartb
import Derived.Scope
import Derived.Control
import Derived.Laws.Sem
import Derived.KernelRfl
import Derived.Lib.AtoiAll
import Derived.Lib.ItoaNum
import Derived.Lib.Bytealg
set_option linter.all false
set_option linter.deprecated false
namespace Go.Mach
def qN.exit:qN->Exit
 |.nrm=>.normal
 |.ret=>.ret
 |.ext n=>.exit n
section
variable {B:gr}
theorem Rel.more {st:St}{a:Act}{w:World}{Z:Nat->Prop}{μ:bV}(h:Rel B st a w Z μ) (n c:Nat) (l:List Nat):Rel B ⟨st.tmps,⟨st.mem.roots++List.replicate n .dead,st.mem.dR,c⟩,l⟩ a w Z μ:=by
 refine ⟨h.mem.restrict (fun r x hx hd=>?_) (fun r hr=>h.mem.far r ?_),h.tm,h.len,h.df⟩
 ·have hx:(st.mem.roots++List.replicate n .dead)[r]?=some x:=hx
  rcases Nat.lt_or_ge r st.mem.roots.length with h1|h1
  ·rw [List.getElem?_append_left h1] at hx
   exact ⟨hx,rfl,fun _ h=>h⟩
  ·rw [List.getElem?_append_right h1,List.getElem?_replicate] at hx
   split at hx
   ·cases hx;exact absurd rfl hd
   ·cases hx
 ·have hr:(st.mem.roots++List.replicate n cu.dead).length<=r:=hr
  rw [List.length_append] at hr
  omega
theorem Ev.more {b st:St}(h:Ev b st) (n c:Nat) (l:List Nat):Ev b ⟨st.tmps,⟨st.mem.roots++List.replicate n .dead,st.mem.dR,c⟩,l++st.dT⟩:=by
 refine ⟨h.tl,?_,fun i hi=>h.tm i fun hm=>hi (List.mem_append_right _ hm),fun r hr hb=>?_⟩
 ·show b.mem.roots.length<=(st.mem.roots++List.replicate n cu.dead).length
  rw [List.length_append]
  have:=h.rl
  omega
 ·show (st.mem.roots++List.replicate n cu.dead)[r]?=_
  rw [List.getElem?_append_left (Nat.lt_of_lt_of_le hr h.rl)]
  exact h.rt r hr hb
variable {E:Env}
def Sound (B:gr) (E:Env) (c:Code){β:Type}(r:Res β) (st:St) (K:lY β):Prop :=
 ∀ (Ψ:β->Prop) (Q:Exit->Act->World->Prop) (b:St) (a0 a:Act) (w0 w:World) (Z0 Z:Nat->Prop) (μ0 μ:bV),r.sat Ψ->Rel B b a0 w0 Z0 μ0->Rel B st a w Z μ->Ev b st->dG μ0 μ ->
  (∀ (e:qN) (s:St) (a':Act) (w':World) (Z':Nat->Prop) (μ':bV),(K.at e s).sat Ψ->Rel B s a' w' Z' μ'->Ev b s->dG μ0 μ'->Q e.exit a' w')->c.wp E.P Q a w
theorem oN {c:Code}{β:Type}{ann:Ann}{st:St}{K:lY β}{run:(γ:Type)->Ann->St->lY γ->Res γ}(hrun:∀ (γ:Type) (ann:Ann) (st:St) (K:lY γ),Sound B E c (run γ ann st K) st K) :
  Sound B E c (cutAt ann st K run) st K:=by
 intro Ψ Q b a0 a w0 w Z0 Z μ0 μ h hb hR hev hext hK
 unfold cutAt at h
 split at h
 ·rename_i ex hex
  have hal:Alike st (fresh st):=⟨rfl,rfl⟩
  refine hrun ex.den ann.inner (fresh st) (kex st.mem.roots.length ex) _ Q (fresh st) a a w w Z Z μ μ (pB h) (hR.alike hal) (hR.alike hal) (Ev.refl _) (dG.refl μ) ?_
  intro e s a' w' Z' μ' hs hR' hev' hext'
  have hs':(ex.inj st.mem.roots.length e s).sat fun x=>(ex.go st K x).sat Ψ:=by
   cases e<;>exact hs
  obtain ⟨z,hz,c',y,hget,hgo⟩:=vV ex hs'
  rw [hgo K st] at hz
  obtain ⟨Z2,μ2,g1,g2,g3⟩:=ru (b:=st) hR hR' (hev'.congr ⟨rfl,rfl⟩) hext' hget
  exact hK e _ a' w' Z2 μ2 hz g1 (wJ hev) (hext.trans g3)
 ·exact hrun β ann st K Ψ Q b a0 a w0 w Z0 Z μ0 μ h hb hR hev hext hK
theorem xm (hm:E.P.follows .mixedOrders=true) (hE:pK E B.g){id:Nat}{ops:Array Oper}{draw:Bool}{β:Type}(st:St) (K:lY β) :
  Sound B E (.region id ops draw) (match (match draw with|true=>ancs ops.toList []|false=>[]) with
  |A=>match !draw || (og ops && (tF ops A && (oz ops A && Region.noSelect ops))) with
   |true=>mL { E with dr:=draw } ops A ops.toList 0 st.mem.roots.length []
     ⟨st.tmps,⟨st.mem.roots++List.replicate (eG E ops.toList) .dead,st.mem.dR,st.mem.roots.length⟩,Cv ops++st.dT⟩ K.nrm
   |false=>.stuck) st K:=by
 intro Ψ Q b a0 a w0 w Z0 Z μ0 μ h hb hR hev hext hK
 generalize (match draw with|true=>ancs ops.toList []|false=>[])=A at h
 simp only at h
 split at h
 case h_2=>exact h.elim
 rename_i hg
 have hR1:=hR.more (eG E ops.toList) st.mem.roots.length (Cv ops++st.dT)
 have hev1:=hev.more (eG E ops.toList) st.mem.roots.length (Cv ops)
 have hnews:eG { E with dr:=draw } ops.toList=eG E ops.toList:=rfl
 have hdst:∀ o∈ops.toList,∀ d,o.dst=some d->d∈Cv ops++st.dT:=fun o ho d hd=>List.mem_append_left _ (List.mem_filterMap.2 ⟨o,ho,hd⟩)
 have hN:st.mem.roots.length+eG { E with dr:=draw } ops.toList<=(st.mem.roots++List.replicate (eG E ops.toList) cu.dead).length:=by
  rw [List.length_append,List.length_replicate,hnews];exact Nat.le_refl _
 cases draw with
 |false =>
  have h1:=pP (B:=B) (E:={ E with dr:=false }) (ops:=ops) (A:=A) (Ψ:=Ψ) (K:=K.nrm) (Q:=Q) (b:=b) (μ0:=μ0) rfl ⟨hE.specs,hE.inls⟩
   (fun s a' w' Z' μ' hs hR' hev' hext'=>hK .nrm s a' w' Z' μ' hs hR' hev' hext') ops.toList 0 st.mem.roots.length _ [] _ (by simp) hN (Nat.le_refl _) hev.rl hdst hR1 hev1 hext (fun r h1 _=>hR.mem.far r h1) h
  refine wp_region ?_
  have:List.range ops.size=List.range' 0 ops.toList.length:=by rw [List.range_eq_range'];simp
  rw [this]
  exact h1
 |true =>
  simp only [Bool.not_true,Bool.false_or,Bool.and_eq_true] at hg
  obtain ⟨he,hA,hs,_⟩:=hg
  refine A3 (E:={ E with dr:=true }) (B:=B) hm rfl ⟨hE.specs,hE.inls⟩ he hA hs hN hR1 (fun r h1 _=>hR.mem.far r h1) h ?_
  intro es hT hes hKs a' w' Z' μ' hR' _ hext' _
  have hst:=A9 (b:=b) (ops.toList.zip es) (fun j=>decide (j < es.length)) 0 ⟨st.tmps,⟨st.mem.roots++List.replicate (eG E ops.toList) .dead,st.mem.dR,st.mem.roots.length⟩,Cv ops++st.dT⟩
   (fun p hp d hd=>hdst p.1 (List.of_mem_zip hp).1 d hd) (hT.fits rfl) rfl hev1
  exact hK .nrm _ a' w' Z' μ' hKs ⟨hR'.mem.congr rfl,hR'.tm,hR'.len,hR'.df⟩ ⟨hst.1.tl,hst.1.rl,hst.1.tm,hst.1.rt⟩ (hext.trans hext')
def Ann.depth:Ann->Nat
 |.unr _ r=>r.depth+1
 |_=>0
theorem yX {c:Code}{β:Type}{run:Ann->St->lY β->Res β}(hc:∀ (ann:Ann) (st:St) (K:lY β),Sound B E c (run ann st K) st K){K:lY β}
  {Ψ:β->Prop}{Q:Exit->Act->World->Prop}{b:St}{a0:Act}{w0:World}{Z0:Nat->Prop}{μ0:bV}(hb:Rel B b a0 w0 Z0 μ0)
  (hK:∀ (e:qN) (s:St) (a':Act) (w':World) (Z':Nat->Prop) (μ':bV),(K.at e s).sat Ψ->Rel B s a' w' Z' μ'->Ev b s->dG μ0 μ'->Q e.exit a' w') :
  ∀ (ann:Ann) (st:St) (a:Act) (w:World) (Z:Nat->Prop) (μ:bV),(sB run ann st K).sat Ψ->Rel B st a w Z μ->Ev b st->dG μ0 μ->Code.rounds E.P c Q ann.depth a w:=by
 intro ann
 induction ann with
 |unr a1 r _ ih =>
  intro st a w Z μ h hR hev hext
  simp only [Ann.depth]
  rw [rounds_succ]
  refine hc a1 st _ Ψ (Exit.then (Code.rounds E.P c Q r.depth) Q) b a0 a w0 w Z0 Z μ0 μ h hb hR hev hext ?_
  intro e s a' w' Z' μ' hs hR' hev' hext'
  cases e with
  |nrm=>exact ih s a' w' Z' μ' hs hR' hev' hext'
  |ret=>exact hK .ret s a' w' Z' μ' hs hR' hev' hext'
  |ext n=>exact hK (.ext n) s a' w' Z' μ' hs hR' hev' hext'
 |_=>intro st a w Z μ h;exact h.elim
theorem vR {c:Code}{β:Type}{head:Cut}{ex:lh}{a':Ann}{st:St}{K:lY β}(hc:∀ (γ:Type) (ann:Ann) (st:St) (K:lY γ),Sound B E c (exec E c γ ann st K) st K)
  {Ψ:β->Prop}{Q:Exit->Act->World->Prop}{b:St}{a1:Act}{w1:World}{Z1:Nat->Prop}{μ0 μ:bV}(hR:Rel B st a1 w1 Z1 μ) (hev:Ev b st) (hext:dG μ0 μ)
  (hK:∀ (e:qN) (s:St) (a':Act) (w':World) (Z':Nat->Prop) (μ':bV),(K.at e s).sat Ψ->Rel B s a' w' Z' μ'->Ev b s->dG μ0 μ'->Q e.exit a' w') :
  ∀ (n:Nat) (x:head.den) (a:Act) (w:World) (Z:Nat->Prop) (μ':bV),(Res.loop (fun x=>exec E c (Res.Step head.den ex.den) a' (head.put (fresh st) x) (B0 st.mem.roots.length head ex)) n x).sat (fun y=>(ex.go st K y).sat Ψ) ->
   Rel B (head.put (fresh st) x) a w Z μ'->dG μ μ'->Code.rounds E.P c Q n a w
 |0,x,a,w,Z,μ',h,_,_=>h.elim
 |n+1,x,a,w,Z,μ',h,hRx,hxx=>by
  have hal:Alike st (fresh st):=⟨rfl,rfl⟩
  rw [rounds_succ]
  refine hc _ a' (head.put (fresh st) x) (B0 st.mem.roots.length head ex) _ (Exit.then (Code.rounds E.P c Q n) Q) (fresh st) a1 a w1 w Z1 Z μ μ' (pB h) (hR.alike hal) hRx (wJ (Ev.refl _)) hxx ?_
  intro e s a2 w2 Z2 μ2 hs hR' hev' hext'
  have out:∀ (Φ:Res.Step head.den ex.den->Prop),(∀ y,Φ (.done y)->(ex.go st K y).sat Ψ)->((ex.inj st.mem.roots.length e s).bind fun y=>(.ok (.done y):Res (Res.Step head.den ex.den))).sat Φ->Q e.exit a2 w2:=fun Φ hΦ hs=>by
   have hs':(ex.inj st.mem.roots.length e s).sat fun x=>(ex.go st K x).sat Ψ:=by
    exact Res.BW (fun y hy=>hΦ y hy) (pB hs)
   obtain ⟨z,hz,c',y,hget,hgo⟩:=vV ex hs'
   rw [hgo K st] at hz
   obtain ⟨Z3,μ3,g1,g2,g3⟩:=ru (b:=st) hR hR' (hev'.congr ⟨rfl,rfl⟩) hext' hget
   exact hK e _ a2 w2 Z3 μ3 hz g1 (wJ hev) (hext.trans g3)
  cases e with
  |nrm =>
   simp only [lY.at,B0] at hs
   split at hs
   case h_2=>exact hs.elim
   rename_i y hy
   have hs:(Res.loop _ n y).sat _:=hs
   obtain ⟨Z3,μ3,g1,g2,g3⟩:=ru (b:=fresh st) (hR.alike hal) hR' hev' hext' hy
   exact vR hc hR hev hext hK n y a2 w2 Z3 μ3 hs g1 g3
  |ret=>exact out _ (fun y hy=>hy) hs
  |ext k=>exact out _ (fun y hy=>hy) hs
end
end Go.Mach

namespace Go.Mach
section
variable {B:gr}{E:Env}
theorem lJ (hm:E.P.follows .mixedOrders=true) (hE:pK E B.g):∀ (c:Code) (β:Type) (ann:Ann) (st:St) (K:lY β),Sound B E c (exec E c β ann st K) st K
 |.skip,β,ann,st,K=>by
  intro Ψ Q b a0 a w0 w Z0 Z μ0 μ h hb hR hev hext hK
  exact wp_skip (hK .nrm st a w Z μ h hR hev hext)
 |.region id ops draw,β,ann,st,K=>by
  unfold exec
  exact oN fun γ ann st K=>xm hm hE st K
 |.seq x y,β,ann,st,K=>by
  unfold exec
  refine oN fun γ ann st K=>?_
  intro Ψ Q b a0 a w0 w Z0 Z μ0 μ h hb hR hev hext hK
  refine wp_seq (lJ hm hE x γ ann.left st _ Ψ _ b a0 a w0 w Z0 Z μ0 μ h hb hR hev hext ?_)
  intro e s a' w' Z' μ' hs hR' hev' hext'
  cases e with
  |nrm=>exact lJ hm hE y γ ann.right s K Ψ Q b a0 a' w0 w' Z0 Z' μ0 μ' hs hb hR' hev' hext' hK
  |ret=>exact hK .ret s a' w' Z' μ' hs hR' hev' hext'
  |ext n=>exact hK (.ext n) s a' w' Z' μ' hs hR' hev' hext'
 |.cond c x y,β,ann,st,K=>by
  unfold exec
  refine oN fun γ ann st K=>?_
  intro Ψ Q b a0 a w0 w Z0 Z μ0 μ h hb hR hev hext hK
  split at h
  case h_2=>exact h.elim
  rename_i t ht
  have hv:=hR.val c
  rw [ht] at hv
  have hv:a.eval c=.bool t:=hv
  rcases Av h with ⟨rfl,h⟩|⟨rfl,h⟩
  ·exact wp_cond_true hv (lJ hm hE x γ ann.left st K Ψ Q b a0 a w0 w Z0 Z μ0 μ h hb hR hev hext hK)
  ·exact wp_cond_false hv (lJ hm hE y γ ann.right st K Ψ Q b a0 a w0 w Z0 Z μ0 μ h hb hR hev hext hK)
 |.block id x,β,ann,st,K=>by
  unfold exec
  refine oN fun γ ann st K=>?_
  intro Ψ Q b a0 a w0 w Z0 Z μ0 μ h hb hR hev hext hK
  refine wp_block (lJ hm hE x γ ann.left st _ Ψ _ b a0 a w0 w Z0 Z μ0 μ h hb hR hev hext ?_)
  intro e s a' w' Z' μ' hs hR' hev' hext'
  cases e with
  |nrm=>exact hK .nrm s a' w' Z' μ' hs hR' hev' hext'
  |ret=>exact hK .ret s a' w' Z' μ' hs hR' hev' hext'
  |ext n =>
   simp only [qN.exit,Exit.inBlock]
   simp only [lY.at] at hs
   split at hs
   ·rename_i hn
    rw [if_pos (by simpa using hn)]
    exact hK .nrm s a' w' Z' μ' hs hR' hev' hext'
   ·rename_i hn
    rw [if_neg (by simpa using hn)]
    exact hK (.ext n) s a' w' Z' μ' hs hR' hev' hext'
 |.loop x,β,ann,st,K=>by
  intro Ψ Q b a0 a w0 w Z0 Z μ0 μ h hb hR hev hext hK
  unfold exec at h
  split at h
  ·rename_i head ex a'
   split at h
   case h_2=>exact h.elim
   rename_i x0 hx0
   have hal:Alike st (fresh st):=⟨rfl,rfl⟩
   obtain ⟨Z1,μ1,g1,g2,g3⟩:=ru (b:=fresh st) (hR.alike hal) (hR.alike hal) (Ev.refl _) (dG.refl μ) hx0
   exact wp_loop_rounds fuel (vR (fun γ ann st K=>lJ hm hE x γ ann st K) hR hev hext hK fuel x0 a w Z1 μ1 (pB h) g1 g3)
  ·exact wp_loop_rounds _ (yX (run:=fun ann st K=>exec E x β ann st K) (fun ann st K=>lJ hm hE x β ann st K) hb hK _ st a w Z μ h hR hev hext)
  ·exact h.elim
 |.exit id,β,ann,st,K=>by
  intro Ψ Q b a0 a w0 w Z0 Z μ0 μ h hb hR hev hext hK
  exact wp_exit (hK (.ext id) st a w Z μ h hR hev hext)
 |.ret,β,ann,st,K=>by
  intro Ψ Q b a0 a w0 w Z0 Z μ0 μ h hb hR hev hext hK
  exact wp_ret (hK .ret st a w Z μ h hR hev hext)
 |.rangeFunc _ _ _ _,β,ann,st,K=>by intro Ψ Q b a0 a w0 w Z0 Z μ0 μ h;unfold exec at h;exact h.elim
 |.scope x,β,ann,st,K=>by
  unfold exec
  refine oN fun γ ann st K=>?_
  intro Ψ Q b a0 a w0 w Z0 Z μ0 μ h hb hR hev hext hK
  refine wp_scope_straight (lJ hm hE x γ ann.left st K Ψ _ b a0 a w0 w Z0 Z μ0 μ h hb hR hev hext ?_)
  intro e s a' w' Z' μ' hs hR' hev' hext'
  have:=hK e s a' w' Z' μ' hs hR' hev' hext'
  cases e<;>exact this
 |.label _,β,ann,st,K=>by
  intro Ψ Q b a0 a w0 w Z0 Z μ0 μ h hb hR hev hext hK
  exact wp_label (hK .nrm st a w Z μ h hR hev hext)
 |.refuse _,β,ann,st,K=>by intro Ψ Q b a0 a w0 w Z0 Z μ0 μ h;unfold exec at h;exact h.elim
 |.goto _,β,ann,st,K=>by intro Ψ Q b a0 a w0 w Z0 Z μ0 μ h;unfold exec at h;exact h.elim
end
end Go.Mach

namespace Go.Mach
section
variable {w:World}{Z:Nat->Prop}
theorem SR.noY {Y Y':Nat->Prop}:∀ {s:Sh}{us:List Value}{x:s.den}{S:Nat->Prop},s.oK=true->SR w Z Y s us x S->SR w Z Y' s us x S
 |.nil,_,_,_,_,hc=>hc
 |.undef,_,_,_,_,hc=>hc
 |.kt,_,_,_,_,hc=>hc
 |.err,_,_,_,_,hc=>hc
 |.opq,_,_,_,_,hc=>hc
 |.sb _,_,_,_,_,hc=>hc
 |.frz _,_,_,_,_,hc=>hc
 |.own s,us,xs,S,hn,hc=>by
  simp only [SR] at hc ⊢
  obtain ⟨ℓ,h1,h2,h3⟩:=hc
  exact ⟨ℓ,h1,h2,h3.mono (ba.refl _ _) fun i us x T _ _ hR=>SR.noY (s:=s) hn hR⟩
 |.box s,us,x,S,hn,hc=>by
  simp only [SR] at hc ⊢
  obtain ⟨b,o,us',T,h1,h2,h3,h4,h5,h6,h7⟩:=hc
  exact ⟨b,o,us',T,h1,h2,h3,h4,h5,h6,SR.noY (s:=s) hn h7⟩
 |.map n s,us,xs,S,hn,hc=>by
  simp only [SR] at hc ⊢
  obtain ⟨b,h1,h2⟩:=hc
  exact ⟨b,h1,h2.mono rfl (fun _ h=>h) fun _ _ _ _ _ hR=>SR.noY (s:=s) hn hR⟩
 |.clo f s,us,x,S,hn,hc=>by
  simp only [SR] at hc ⊢
  obtain ⟨h0,vs,h1,h2⟩:=hc
  exact ⟨h0,vs,h1,SR.noY (s:=s) hn h2⟩
 |.seq a b,us,x,S,hn,hc=>by
  simp only [SR] at hc ⊢
  simp only [Sh.oK,Bool.and_eq_true] at hn
  obtain ⟨u1,u2,S1,S2,h1,h2,h3,h4,h5,h6⟩:=hc
  exact ⟨u1,u2,S1,S2,h1,h2,h3,h4,SR.noY hn.1 h5,SR.noY hn.2 h6⟩
 |.bor _,_,_,_,hn,_=>by simp [Sh.oK] at hn
theorem lS.noY {Y Y':Nat->Prop}:∀ {l:List VSh}{vs:List Value}{x:lA l}{S:Nat->Prop},(l.all fun s=>s.2.oK)=true->lS w Z Y l vs x S->lS w Z Y' l vs x S
 |[],_,_,_,_,h=>h
 |[a],_,_,_,hn,h=>by
  obtain ⟨v,h0,us,h1,h2,h3⟩:=h
  exact ⟨v,h0,us,h1,h2,h3.noY (by simpa using hn)⟩
 |a::b::r,_,_,_,hn,h=>by
  rw [List.all_cons,Bool.and_eq_true] at hn
  obtain ⟨v,vs',S1,S2,h0,h1,h2,h3,⟨us,h4,h5,h6⟩,h7⟩:=h
  exact ⟨v,vs',S1,S2,h0,h1,h2,h3,⟨us,h4,h5,h6.noY hn.1⟩,h7.noY hn.2⟩
theorem mZ.noY {Y Y':Nat->Prop}:∀ {ps:List Par}{vs:List Value}{α:Type}{y:outs α (boxes ps)}{S:Nat->Prop},((boxes ps).all Sh.oK)=true->mZ w Z Y ps vs y S->mZ w Z Y' ps vs y S
 |[],_,_,_,_,_,_=>trivial
 |.val _ _::r,_,_,_,_,hn,h=>by
  obtain ⟨v,vs',h0,h⟩:=h
  exact ⟨v,vs',h0,mZ.noY (ps:=r) hn h⟩
 |.obj s::r,_,_,_,_,hn,h=>by
  simp only [boxes,List.all_cons,Bool.and_eq_true] at hn
  obtain ⟨v,vs',S1,S2,h0,h1,h2,h3,h4,h5⟩:=h
  exact ⟨v,vs',S1,S2,h0,h1,h2,h3,h4.noY hn.1,mZ.noY (ps:=r) hn.2 h5⟩
theorem lS.up {Z' Y:Nat->Prop}(hz:∀ b,Z b->Z' b):∀ {l:List VSh}{vs:List Value}{x:lA l}{S:Nat->Prop},lS w Z Y l vs x S->lS w Z' Y l vs x S
 |[],_,_,_,h=>h
 |[a],_,_,_,h=>by
  obtain ⟨v,h0,h1⟩:=h
  exact ⟨v,h0,h1.up hz⟩
 |a::b::r,_,_,_,h=>by
  obtain ⟨v,vs',S1,S2,h0,h1,h2,h3,h6,h7⟩:=h
  exact ⟨v,vs',S1,S2,h0,h1,h2,h3,h6.up hz,h7.up hz⟩
theorem lS.len {Y:Nat->Prop}:∀ {l:List VSh}{vs:List Value}{x:lA l}{S:Nat->Prop},lS w Z Y l vs x S->vs.length=l.length
 |[],_,_,_,h=>by rw [show _=[] from h];rfl
 |[a],_,_,_,h=>by obtain ⟨v,rfl,_⟩:=h;rfl
 |a::b::r,_,_,_,h=>by
  obtain ⟨v,vs',S1,S2,rfl,h1,h2,h3,h6,h7⟩:=h
  simp only [List.length_cons,lS.len h7]
end
section
variable {B:gr}{w:World}{Z:Nat->Prop}{μ:bV}
theorem ARs.len:∀ {xs:List AV}{vs:List Value},ARs w Z μ xs vs->vs.length=xs.length
 |[],_,h=>by rw [show _=[] from h];rfl
 |x::xs,_,h=>by
  obtain ⟨v,vs',rfl,_,h2⟩:=h
  simp only [List.length_cons,ARs.len h2]
def sT (tmps:Array Value):ResultVar->Sem Value
 |.tmp t=>pure (tmps.getD t undef)
 |.cell a t=>do loadVar t (<- asAddr (tmps.getD a undef))
theorem wE (fn:Func) (tmps:Array Value):results fn tmps=(do
  let vs <- fn.results.mapM (sT tmps)
  pure (if h:vs.size=1 then vs[0] else .tuple vs)):=by
 unfold results
 rfl
def xe (P:Program):ResultVar->Bool
 |.tmp _=>true
 |.cell _ T=>kindOk P T
theorem oh {P:Program}{s:St}{a:Act}{β:Type}{Ψ:β->Prop}(hR:Rel B s a w Z μ):∀ (rs:List ResultVar){K:List AV->Res β},(rs.all (xe P))=true->(oR P s rs K).sat Ψ ->
  ∃ xs vs,(rs.mapM (sT a.tmps)).run P w=.ok vs w/\ARs w Z μ xs vs/\(K xs).sat Ψ
 |[],K,_,h=>⟨[],[],by simp [Sem.run_pure],rfl,h⟩
 |r::rs,K,hk,h=>by
  simp only [List.all_cons,Bool.and_eq_true] at hk
  simp only [oR] at h
  have key:∃ x v,(sT a.tmps r).run P w=.ok v w/\AR w Z μ x v/\(oR P s rs fun vs=>K (x::vs)).sat Ψ:=by
   cases r with
   |tmp t=>exact ⟨s.get t,a.tmps.getD t undef,by simp [sT,Sem.run_pure],hR.get t,h⟩
   |cell p T =>
    have h:(qk s.mem (P.cellsOf T) (s.get p) fun cs=>oR P s rs fun vs=>K (pH (nj P T) cs::vs)).sat Ψ:=h
    obtain ⟨b,o,cs,us,h1,h2,h3,h4,h5⟩:=xT hR.mem (hR.get p) h
    obtain ⟨v,h6,h7⟩:=uV (w:=w) (show kindOk P T=true from hk.1) (by rw [<- h4.1,h2]) h3
    refine ⟨_,v,?_,yQ h4 h7,h5⟩
    simp only [sT,h1]
    simp [asAddr,Sem.run_bind,h6]
  obtain ⟨x,v,h1,h2,h3⟩:=key
  obtain ⟨xs,vs,g1,g2,g3⟩:=oh hR rs hk.2 h3
  refine ⟨x::xs,v::vs,?_,⟨v,vs,rfl,h2,g2⟩,g3⟩
  rw [List.mapM_cons]
  simp only [Sem.run_bind,h1,Result.andThen_ok,g1,Sem.run_pure]
theorem ve {P:Program}{fn:Func}{tmps:Array Value}{rs:List VSh}{vs:List Value}(h:(fn.results.toList.mapM (sT tmps)).run P w=.ok vs w) (hl:vs.length=rs.length) :
  ∃ v,(results fn tmps).run P w=.ok v w/\ya rs v vs:=by
 rw [wE,Array.mapM_eq_mapM_toList]
 simp only [Sem.run_bind,Sem.run_map,h,Result.andThen_ok,Sem.run_pure]
 refine ⟨_,rfl,?_⟩
 unfold ya
 split
 ·match vs,hl with
  |[v],_=>simp
 ·rename_i hne
  have h1:¬ vs.length=1:=fun he=>by
   match rs,hl with
   |[r],_=>exact hne r rfl
   |[],hl=>rw [he] at hl;simp at hl
   |_::_::_,hl=>rw [he] at hl;simp at hl
  simp [h1]
def CJ:List Par->List AV->Prop
 |.obj _::r,v::vs=>(∃ c,v=.c c)/\CJ r vs
 |.val _ _::r,_::vs=>CJ r vs
 |_,_=>True
theorem vL:∀ {ps:List Par}{x:lA (ps.map Par.v)}{m:Mem},CJ ps (mks (ps.map Par.v) x m).1
 |[],_,_=>trivial
 |[.val g s],x,m=>trivial
 |[.obj s],x,m=>by
  refine ⟨?_,trivial⟩
  simp only [List.map,mks,Par.v,pH]
  cases (s.mk x m).1<;>exact ⟨_,rfl⟩
 |.val g s::q::r,x,m=>vL (ps:=q::r) (x:=x.2) (m:=(s.mk x.1 m).2)
 |.obj s::q::r,x,m=>by
  refine ⟨?_,vL (ps:=q::r) (x:=x.2) (m:=(s.mk x.1 m).2)⟩
  simp only [Par.v,pH]
  cases (s.mk x.1 m).1<;>exact ⟨_,rfl⟩
theorem oB:∀ {ps:List Par}{xs:List AV}{us:List Value}{α:Type}{y:α}{z:outs α (boxes ps)}{m:Mem}{Z F:Nat->Prop},bZ B m w Z μ->cr B m w Z μ F->ARs w Z μ xs us->CJ ps xs->sD ps xs y m=some z ->
  ∃ (m':Mem) (Z' F' S:Nat->Prop),bZ B m' w Z' μ/\cr B m' w Z' μ F'/\(∀ b,Z b->Z' b)/\(∀ b,F b->F' b)/\(∀ b,S b->F' b/\¬ F b)/\mZ w Z' B.Y ps us z S/\lf (boxes ps) z=y
 |[],xs,us,α,y,z,m,Z,F,hM,hF,hx,ho,h=>by
  simp only [sD,Option.some.injEq] at h
  exact ⟨m,Z,F,fun _=>False,hM,hF,fun _ h=>h,fun _ h=>h,fun _ h=>h.elim,trivial,h.symm⟩
 |.val g s::r,xs,us,α,y,z,m,Z,F,hM,hF,hx,ho,h=>by
  match xs,h with
  |x::xs,h =>
   obtain ⟨v,vs',rfl,h1,h2⟩:=hx
   obtain ⟨m',Z',F',S,e1,e2,e3,e4,e5,e6,e7⟩:=oB (ps:=r) hM hF h2 ho h
   exact ⟨m',Z',F',S,e1,e2,e3,e4,e5,⟨v,vs',rfl,e6⟩,e7⟩
 |.obj s::r,xs,us,α,y,z,m,Z,F,hM,hF,hx,ho,h=>by
  match xs,h with
  |x::xs,h =>
   obtain ⟨v,vs',rfl,h1,h2⟩:=hx
   obtain ⟨⟨c,rfl⟩,ho⟩:=ho
   simp only [sD] at h
   split at h
   case h_2=>cases h
   rename_i x1 m1 hg
   split at h
   case h_2=>cases h
   rename_i z1 hz
   simp only [Option.some.injEq] at h
   subst h
   obtain ⟨⟨Z1,F1,S1,us1,us2,e1,e2,e3,e4,e5,e6,e7,e8,e9⟩,_⟩:=lu s hM hF (CRs.mk1 (show CR w Z μ c v from h1)) hg
   have:=e9.mD
   subst this
   rw [List.append_nil] at e1
   subst e1
   obtain ⟨m',Z',F',S2,g1,g2,g3,g4,g5,g6,g7⟩:=oB (ps:=r) e3 e4 (h2.mono (ba.refl _ _) e5 (dG.refl μ)) ho hz
   refine ⟨m',Z',F',fun d=>S1 d\/S2 d,g1,g2,fun b hb=>g3 b (e5 b hb),fun b hb=>g4 b (e6 b hb),fun d hd=>?_,⟨v,vs',S1,S2,rfl,fun _ h=>.inl h,fun _ h=>.inr h,fun d a b=>(g5 d b).2 (e7 d a).1,?_,g6⟩,rfl⟩
   ·rcases hd with hd|hd
    ·exact ⟨g4 d (e7 d hd).1,(e7 d hd).2⟩
    ·exact ⟨(g5 d hd).1,fun hf=>(g5 d hd).2 (e6 d hf)⟩
   ·show SR w Z' B.Y s [v] (lf (boxes r) z1) S1
    rw [g7]
    exact e8.up g3
end
end Go.Mach

namespace Go.Mach
theorem yh {sp:Spec}{E:Env}{G:qs}{fn:Func}{ann:Ann}(hm:E.P.follows .mixedOrders=true) (hE:pK E G) (hfn:E.P.funcs[sp.f]?=some fn) (hbody:fn.body.isSome=true) (hname:(fn.name == "runtime.NumGoroutine")=false)
  (hobj:(boxes sp.ps).all Sh.mq=true) (hnb:(sp.rs.all fun s=>s.2.oK)=true) (hnb2:(boxes sp.ps).all Sh.oK=true) (hres:fn.results.toList.all (xe E.P)=true)
  (heq:∀ x,uv E fn sp.ps sp.rs ann x=sp.run x):kf E.P G sp:=by
 refine ⟨⟨fn,hfn,hbody,hname⟩,hobj,fun w Z Y S args x Ψ hsat hG hZ hY hS hV=>?_⟩
 rw [<- heq x] at hsat
 unfold uv at hsat
 split at hsat
 case h_2=>exact hsat.elim
 rename_i code hcode
 let B:gr:=⟨w,S,Z,Y,G,hG.1,fun b hb=>⟨hG.2 b hb,hZ b (hG.2 b hb),fun h=>(hS b h).2 (hG.2 b hb)⟩⟩
 let m0:Mem:=⟨List.replicate (mr (sp.ps.map Par.v)) cu.dead,0,0⟩
 have hdead:∀ (r:Nat) (y:cu),m0.roots[r]?=some y->y=cu.dead:=fun r y hy=>by
  have hy:(List.replicate (mr (sp.ps.map Par.v)) cu.dead)[r]?=some y:=hy
  rw [List.getElem?_replicate] at hy
  split at hy
  ·exact (Option.some.inj hy).symm
  ·cases hy
 have hM0:bZ B m0 w Z (fun _=>none):=by
  refine ⟨(fun r y hy hd=>absurd (hdead r y hy) hd),(fun r s y z ℓ ℓ' _ _ _ _ _ hl=>by cases hl),(fun r y ℓ b _ _ hl=>by cases hl),fun b hb=>⟨hZ b hb,.inl hb⟩,fun b hb=>hb,Nat.le_refl _,fun b _ _=>rfl,fun _ _=>rfl,fun b hb=>hY b hb,Io.refl _⟩
 have hL0:cr B m0 w Z (fun _=>none) S:=by
  refine ⟨fun b hb=>⟨(hS b hb).2,(hS b hb).1,.inr hb⟩,fun b r hb=>?_⟩
  rintro ⟨y,ℓ,_,_,hl,_⟩
  cases hl
 have hF0:mg m0 (fun _=>none) (mr (sp.ps.map Par.v)):=fun k hk=>⟨rfl,by
  show (List.replicate (mr (sp.ps.map Par.v)) cu.dead)[0+k]?=_
  rw [Nat.zero_add,List.getElem?_replicate,if_pos hk]⟩
 obtain ⟨μ1,e1,e2,e3,e4⟩:=sE hM0 hL0 hF0 hV (fun _ h=>h)
 have hobjc:=vL (ps:=sp.ps) (x:=x) (m:=m0)
 have hm0:(⟨List.replicate (mr (sp.ps.map Par.v)) cu.dead,0,0⟩:Mem)=m0:=rfl
 rw [hm0] at hsat
 generalize mks (sp.ps.map Par.v) x m0=k at hsat e1 e2 e3 e4 hobjc
 obtain ⟨vs,m⟩:=k
 simp only at hsat e1 e2 e3 e4 hobjc
 have hsat:=rp hsat hV.ok
 refine calls_of_wp hfn hcode ?_
 let st:St:=⟨vs++List.replicate (fn.ntmps-vs.length) (.c .undef),m,[]⟩
 have hlen:=e3.len
 have hR:Rel B st { tmps:=args.toArray++Array.replicate (fn.ntmps-args.toArray.size) undef,defers:=[] } w Z μ1:=by
  refine ⟨e1,fun i z hz=>?_,?_,rfl⟩
  ·have hz:(vs++List.replicate (fn.ntmps-vs.length) (AV.c .undef))[i]?=some z:=hz
   rcases Nat.lt_or_ge i vs.length with h1|h1
   ·rw [List.getElem?_append_left h1] at hz
    obtain ⟨v,hv,har⟩:=ARs.at_ e3 i z hz
    have:(args.toArray++Array.replicate (fn.ntmps-args.toArray.size) undef).getD i undef=v:=by
     rw [Array.getD_eq_getD_getElem?,Array.getElem?_append_left (by simp;omega)]
     simp [hv]
    show AR w Z μ1 z ((args.toArray++Array.replicate (fn.ntmps-args.toArray.size) undef).getD i undef)
    rw [this];exact har
   ·rw [List.getElem?_append_right h1,List.getElem?_replicate] at hz
    split at hz
    ·cases hz;exact AR.undef _
    ·cases hz
  ·show (vs++List.replicate (fn.ntmps-vs.length) (AV.c .undef)).length=(args.toArray++Array.replicate (fn.ntmps-args.toArray.size) undef).size
   simp [hlen]
 refine lJ (B:=B) hm hE code _ ann st _ Ψ _ st _ _ w w Z Z μ1 μ1 hsat hR hR (Ev.refl _) (dG.refl _) ?_
 intro e s a' w' Z' μ' hs hR' _ hext'
 have hfin:(fin E.P fn sp.ps sp.rs vs s).sat Ψ->a'.defers=[]/\∃ v,(results fn a'.tmps).run E.P w'=.ok v w'/\(∃ y v' kC,∃ Z' S1 S2:Nat->Prop,Ending.returned v=.returned v'/\Ψ y/\ya sp.rs v' kC /\
   lS w' Z' (fun _=>False) sp.rs kC (lf (boxes sp.ps) y) S1/\mZ w' Z' (fun _=>False) sp.ps args y S2/\(∀ d,S1 d->S2 d->False) /\
   (∀ b,S1 b\/S2 b->b < w'.heap.size/\¬ Z' b/\(S b\/w.heap.size<=b))/\(∀ b,Z b->Z' b)/\(∀ b,Z' b->b < w'.heap.size/\(Z b\/S b\/w.heap.size<=b)) /\
   w.heap.size<=w'.heap.size/\(∀ b,b < w.heap.size->¬ S b->w'.heap[b]?=w.heap[b]?)/\Io w w'):=by
  intro hs
  unfold fin at hs
  obtain ⟨xs,kC,hrun,hxs,hs⟩:=oh hR' fn.results.toList hres hs
  split at hs
  case h_2=>exact hs.elim
  rename_i y m1 hg
  split at hs
  case h_2=>exact hs.elim
  rename_i z ho
  obtain ⟨Z1,F1,S1,a1,a2,a3,a4,a5,a6,a7⟩:=qF hR'.mem (cr.none B s.mem w' Z' μ') hxs hg
  have hsame:ba Z w w':=fun b hb=>a1.rP b (hZ b hb) fun hS'=>(hS b hS').2 hb
  obtain ⟨m2,Z2,F2,S2,b1,b2,b3,b4,b5,b6,b7⟩:=oB (ps:=sp.ps) a1 a2 (e3.mono hsame a1.sG hext') hobjc ho
  obtain ⟨v,hv,hret⟩:=ve (rs:=sp.rs) hrun a7.len
  refine ⟨hR'.df,v,hv,z,v,kC,Z2,S1,S2,rfl,hs,hret,?_,b6.noY hnb2,fun d h1 h2=>(b5 d h2).2 (a5 d h1).1,fun b hb=>?_,b1.sG,fun b hb=>?_,b1.size,b1.rP,b1.io⟩
  ·rw [b7]
   exact (a7.up b3).noY hnb
  ·have hF:F2 b:=by
    rcases hb with hb|hb
    ·exact b4 b (a5 b hb).1
    ·exact (b5 b hb).1
   obtain ⟨c1,c2,c3⟩:=b2.ok b hF
   exact ⟨c2,c1,c3.symm⟩
  ·obtain ⟨c1,c2⟩:=b1.frz b hb
   exact ⟨c1,c2.imp id Or.symm⟩
 cases e with
 |nrm=>exact hfin hs
 |ret=>exact hfin hs
 |ext n=>exact hs.elim
theorem wC {sp:Spec}{P:Program}{G:qs}{fn:Func}(hfn:P.funcs[sp.f]?=some fn) (hbody:fn.body.isSome=true) (hname:(fn.name == "runtime.NumGoroutine")=false) (hobj:(boxes sp.ps).all Sh.mq=true) (h0:∀ x,sp.run x=.stuck):kf P G sp :=
 ⟨⟨fn,hfn,hbody,hname⟩,hobj,fun w Z Y S args x Ψ hsat=>by rw [h0] at hsat;exact hsat.elim⟩
end Go.Mach

namespace Go.Mach
section
variable {α β:Type}(f:α->Res β)
noncomputable def lY.then (K:lY α):lY β:={ nrm:=fun st=>(K.nrm st).bind f,ext:=fun n st=>(K.ext n st).bind f,ret:=fun st=>(K.ret st).bind f }
theorem Res.D5 {γ δ:Type}(x:γ ⊕ δ) (g:γ->Res α) (h:δ->Res α):(Res.sum x g h).bind f=Res.sum x (fun y=>(g y).bind f) fun y=>(h y).bind f:=by cases x<;>rfl
theorem xb (E:Env) (ρ:Operand->AV) (M:Mem) (o:Oper) (K:AV->Mem->Res α):gH E ρ M o (fun v m=>(K v m).bind f)=(gH E ρ M o K).bind f:=by
 rw [oq,oq E ρ M o K,Res.bind_assoc]
theorem sX (ops:Array Oper) (dst:Option Tmp) (st:St) (K:St->Res α):qf ops dst st (fun s=>(K s).bind f)=(qf ops dst st K).bind f:=by
 unfold qf
 split
 ·unfold BI
  split
  ·split
   ·rw [Res.yP]
   ·rfl
  ·rfl
 ·rfl
theorem oL (E:Env) (ops:Array Oper) (A:List Nat) (K:St->Res α):∀ (rest:List Oper) (i c:Nat) (l:Log) (st:St),mL E ops A rest i c l st (fun s=>(K s).bind f)=(mL E ops A rest i c l st K).bind f
 |[],_,_,_,_=>rfl
 |o::rest,i,c,l,st=>by
  simp only [mL]
  split
  ·split
   ·split
    ·rw [<- xb]
     congr 1
     funext v m
     split
     ·rw [<- sX]
      congr 1
      funext s
      exact oL E ops A K rest _ _ _ _
     ·rfl
    ·rfl
   ·split
    ·rename_i j xs _
     rw [j.cps,j.cps α,Res.bind_assoc]
     congr 1
     funext p
     rw [<- sX]
     congr 1
     funext s
     exact oL E ops A K rest _ _ _ _
    ·rw [<- xb]
     congr 1
     funext v m
     rw [<- sX]
     congr 1
     funext s
     exact oL E ops A K rest _ _ _ _
  ·exact oL E ops A K rest _ _ _ _
  ·rfl
theorem lY.Bk (K:lY α) (k:qN) (st:St):(K.then f).at k st=(K.at k st).bind f:=by cases k<;>rfl
theorem BT (st:St) (K:lY α):∀ (l:lh) (x:l.den),lh.go st (K.then f) l x=(lh.go st K l x).bind f
 |[],_=>rfl
 |[a],x=>by simp only [lh.go];exact lY.Bk f K _ _
 |a::b::r,x=>by
  simp only [lh.go]
  rw [Res.D5]
  congr 1
  ·funext y;exact lY.Bk f K _ _
  ·funext y;exact BT st K (b::r) y
theorem pg {run:(γ:Type)->Ann->St->lY γ->Res γ}{ann:Ann}(h:∀ st (K:lY α),run β ann st (K.then f)=(run α ann st K).bind f) (st:St) (K:lY α) :
  cutAt ann st (K.then f) run=(cutAt ann st K run).bind f:=by
 unfold cutAt
 split
 ·rename_i ex _
  rw [Res.bind_assoc]
  congr 1
  funext x
  exact BT f st K ex x
 ·exact h st K
theorem Ann.uw {a:Ann}(h:a.ky=true):a.left.ky=true:=by
 cases a with
 |two a b=>simp only [Ann.ky,Bool.and_eq_true] at h;exact h.1
 |_=>rfl
theorem Ann.yr {a:Ann}(h:a.ky=true):a.right.ky=true:=by
 cases a with
 |two a b=>simp only [Ann.ky,Bool.and_eq_true] at h;exact h.2
 |_=>rfl
theorem AG {run:(γ:Type)->Ann->St->lY γ->Res γ}(h:∀ ann st (K:lY α),ann.ky=true->run β ann st (K.then f)=(run α ann st K).bind f) (K:lY α):∀ (ann:Ann) (st:St),ann.ky=true->sB (run β) ann st (K.then f)=(sB (run α) ann st K).bind f:=by
 intro ann
 induction ann with
 |unr a r _ ih =>
  intro st hn
  simp only [Ann.ky,Bool.and_eq_true] at hn
  simp only [sB]
  rw [<- h _ _ _ hn.1]
  congr 1
  simp only [lY.then]
  congr 1
  funext s
  exact ih s hn.2
 |_=>intro st _;rfl
theorem oI (E:Env):∀ (c:Code) (ann:Ann) (st:St) (K:lY α),ann.ky=true->exec E c β ann st (K.then f)=(exec E c α ann st K).bind f
 |.skip,ann,st,K,_=>rfl
 |.region _ ops draw,ann,st,K,_=>by
  unfold exec
  refine pg f (fun st K=>?_) st K
  simp only
  split
  ·exact oL f _ ops _ K.nrm _ _ _ _ _
  ·rfl
 |.seq x y,ann,st,K,h=>by
  unfold exec
  refine pg f (ann:=ann) (run:=fun γ ann st K=>exec E x γ ann.left st { nrm:=fun st=>exec E y γ ann.right st K,ext:=K.ext,ret:=K.ret }) (fun st K=>?_) st K
  rw [<- oI E x ann.left st _ (Ann.uw h)]
  congr 1
  simp only [lY.then]
  congr 1
  funext s
  exact oI E y ann.right s K (Ann.yr h)
 |.cond c x y,ann,st,K,h=>by
  unfold exec
  refine pg f (fun st K=>?_) st K
  split
  ·rw [Res.yP,oI E x ann.left st K (Ann.uw h),oI E y ann.right st K (Ann.yr h)]
  ·rfl
 |.block id x,ann,st,K,h=>by
  unfold exec
  refine pg f (fun st K=>?_) st K
  rw [<- oI E x ann.left st _ (Ann.uw h)]
  congr 1
  simp only [lY.then]
  congr 1
  funext n s
  split<;>rfl
 |.loop x,ann,st,K,h=>by
  unfold exec
  split
  ·split
   ·rw [Res.bind_assoc]
    congr 1
    funext y
    exact BT f st K _ y
   ·rfl
  ·exact AG f (run:=fun γ ann st K=>exec E x γ ann st K) (fun ann st K hn=>oI E x ann st K hn) K _ st h
  ·rfl
 |.scope x,ann,st,K,h=>by
  unfold exec
  exact pg f (ann:=ann) (run:=fun γ ann st K=>exec E x γ ann.left st K) (fun st K=>oI E x ann.left st K (Ann.uw h)) st K
 |.label _,ann,st,K,_=>rfl
 |.exit id,ann,st,K,_=>rfl
 |.ret,ann,st,K,_=>rfl
 |.rangeFunc _ _ _ _,ann,st,K,_=>by unfold exec;rfl
 |.refuse _,ann,st,K,_=>by unfold exec;rfl
 |.goto _,ann,st,K,_=>by unfold exec;rfl
theorem qV (P:Program) (st:St):∀ (rs:List ResultVar) (K:List AV->Res α),oR P st rs (fun vs=>(K vs).bind f)=(oR P st rs K).bind f
 |[],K=>rfl
 |r::rs,K=>by
  simp only [oR,resAV]
  split
  ·exact qV P st rs _
  ·have hl:∀ {m:Mem}{n:Nat}{a:AV}(k:List C->Res α),qk m n a (fun cs=>(k cs).bind f)=(qk m n a k).bind f:=by
    intro m n a k
    unfold qk
    split
    ·split
     ·split<;>rfl
     ·split<;>rfl
     ·rfl
    ·split<;>rfl
    ·split
     ·rw [Res.pc]
      congr 1
      funext x
      split<;>rfl
     ·rw [Res.ko]
      congr 1
      split<;>rfl
     ·rfl
    ·rfl
   rw [<- hl]
   congr 1
   funext cs
   exact qV P st rs _
end
end Go.Mach

namespace Go.Mach
def vp:List AV->AV
 |[v]=>v
 |vs=>.tup (vs.map fun v=>match v with
  |.c x=>(false,[x])
  |.agg cs=>(true,cs)
  |.tup _=>(false,[.undef]))
noncomputable def te (E:Env) (fn:Func) (ann:Ann) (β:Type) (xs:List AV) (m:Mem) (K:AV->Mem->Res β):Res β :=
 match fn.body with
 |some code=>exec E code β ann ⟨xs++List.replicate (fn.ntmps-xs.length) (.c .undef),⟨m.roots,0,m.cur⟩,[]⟩
   {nrm:=fun st=>oR E.P st fn.results.toList fun vs=>K (vp vs) ⟨st.mem.roots,m.dR ||| st.mem.dR,st.mem.cur⟩
    ext:=fun _ _=>.stuck
    ret:=fun st=>oR E.P st fn.results.toList fun vs=>K (vp vs) ⟨st.mem.roots,m.dR ||| st.mem.dR,st.mem.cur⟩ }
 |none=>.stuck
theorem BJ {E:Env}{fn:Func}{ann:Ann}(h:ann.ky=true) (β:Type) (xs:List AV) (m:Mem) (K:AV->Mem->Res β):te E fn ann β xs m K=(te E fn ann (AV×Mem) xs m fun v m=>.ok (v,m)).bind fun p=>K p.1 p.2:=by
 unfold te
 split
 ·refine Eq.trans ?_ (oI (fun p:AV×Mem=>K p.1 p.2) E _ ann _ _ h)
  congr 1
  simp only [lY.then]
  congr 1
  ·funext s
   exact qV (fun p:AV×Mem=>K p.1 p.2) E.P s _ fun vs=>Res.ok (vp vs,⟨s.mem.roots,m.dR ||| s.mem.dR,s.mem.cur⟩)
  ·funext s
   exact qV (fun p:AV×Mem=>K p.1 p.2) E.P s _ fun vs=>Res.ok (vp vs,⟨s.mem.roots,m.dR ||| s.mem.dR,s.mem.cur⟩)
 ·rfl
noncomputable def zT (f:FuncId) (E:Env) (fn:Func) (ann:Ann) (n:Nat:=0) (h:ann.ky=true:=by rfl):Inl:=⟨f,te E fn ann,n,BJ h⟩
theorem ER {w:World}{Z:Nat->Prop}{μ:bV}{xs:List AV}{kC:List Value}(h:ARs w Z μ xs kC){v:Value}(hv:(kC.length=1/\kC=[v])\/(kC.length≠1/\v=.tuple kC.toArray)):AR w Z μ (vp xs) v:=by
 have hl:=h.len
 rcases hv with ⟨h1,rfl⟩|⟨h1,rfl⟩
 ·match xs,h with
  |[x],h =>
   obtain ⟨v',vs',he,h2,h3⟩:=h
   cases he
   exact h2
  |[],h=>simp at hl
  |_::_::_,h=>simp at hl
 ·have hp:vp xs=.tup (xs.map fun v=>match v with
   |.c x=>(false,[x])
   |.agg cs=>(true,cs)
   |.tup _=>(false,[.undef])):=by
   match xs with
   |[]=>rfl
   |[x]=>simp at hl;exact absurd hl h1
   |_::_::_=>rfl
  rw [hp]
  refine ⟨kC,rfl,by simp [hl],fun k hk hk'=>?_⟩
  simp only [List.getElem_map]
  have hk2:k < xs.length:=by simpa using hk
  obtain ⟨u,hu,har⟩:=ARs.at_ h k xs[k] (List.getElem?_eq_getElem hk2)
  have hu:kC[k]=u:=by rw [List.getElem?_eq_getElem hk'] at hu;exact Option.some.inj hu
  rw [hu]
  generalize xs[k]=x at har
  cases x with
  |c c=>exact har
  |agg cs=>exact har
  |tup l=>exact trivial
theorem yb {P:Program}{w:World}{fn:Func}{tmps:Array Value}{vs:List Value}(h:(fn.results.toList.mapM (sT tmps)).run P w=.ok vs w) :
  ∃ v,(results fn tmps).run P w=.ok v w/\((vs.length=1/\vs=[v])\/(vs.length≠1/\v=.tuple vs.toArray)):=by
 rw [wE,Array.mapM_eq_mapM_toList]
 simp only [Sem.run_bind,Sem.run_map,h,Result.andThen_ok,Sem.run_pure]
 refine ⟨_,rfl,?_⟩
 by_cases h1:vs.length=1
 ·match vs,h1 with
  |[v],_=>exact .inl ⟨rfl,by simp⟩
 ·exact .inr ⟨h1,by simp [h1]⟩
theorem qx {E:Env}{G:qs}{f:FuncId}{fn:Func}{ann:Ann}(hm:E.P.follows .mixedOrders=true) (hE:pK E G) (hfn:E.P.funcs[f]?=some fn) (hbody:fn.body.isSome=true) (hname:(fn.name == "runtime.NumGoroutine")=false)
  (hres:fn.results.toList.all (xe E.P)=true){n:Nat}{hnr:ann.ky=true}:B7 E.P G (zT f E fn ann n hnr):=by
 refine ⟨⟨fn,hfn,hbody,hname⟩,?_⟩
 rintro B β Ψ xs args m w Z μ K rfl hM hx h
 have h:(te E fn ann β xs m K).sat Ψ:=h
 unfold te at h
 split at h
 case h_2=>exact h.elim
 rename_i code hcode
 let B2:gr:=⟨w,fun b=>¬ Z b/\(B.w0.heap.size<=b\/B.A b),Z,B.Y,B.g,hM.xh.1,fun b hb=>⟨hM.xh.2 b hb,(hM.frz b (hM.xh.2 b hb)).1,fun h=>h.1 (hM.xh.2 b hb)⟩⟩
 let m0:Mem:=⟨m.roots,0,m.cur⟩
 have hM2:bZ B2 m0 w Z μ:=⟨hM.rt,hM.dj,fun r x ℓ b h1 h2 h3 h4=>by
   obtain ⟨g1,g2,g3⟩:=hM.own r x ℓ b h1 h2 h3 h4
   exact ⟨g1,g2,.inr ⟨g1,g3⟩⟩,fun b hb=>⟨(hM.frz b hb).1,.inl hb⟩,fun b hb=>hb,Nat.le_refl _,fun b _ _=>rfl,hM.far,fun b hb=>⟨Nat.lt_of_lt_of_le (hM.nX b hb).1 hM.size,fun hA=>by
   obtain ⟨g1,g2⟩:=hM.nX b hb
   rcases hA.2 with h2|h2
   ·omega
   ·exact g2 h2⟩,Io.refl _⟩
 refine calls_of_wp hfn hcode ?_
 let st:St:=⟨xs++List.replicate (fn.ntmps-xs.length) (.c .undef),m0,[]⟩
 have hlen:=hx.len
 have hR:Rel B2 st { tmps:=args.toArray++Array.replicate (fn.ntmps-args.toArray.size) undef,defers:=[] } w Z μ:=by
  refine ⟨hM2,fun i z hz=>?_,?_,rfl⟩
  ·have hz:(xs++List.replicate (fn.ntmps-xs.length) (AV.c .undef))[i]?=some z:=hz
   rcases Nat.lt_or_ge i xs.length with h1|h1
   ·rw [List.getElem?_append_left h1] at hz
    obtain ⟨v,hv,har⟩:=ARs.at_ hx i z hz
    have:(args.toArray++Array.replicate (fn.ntmps-args.toArray.size) undef).getD i undef=v:=by
     rw [Array.getD_eq_getD_getElem?,Array.getElem?_append_left (by simp;omega)]
     simp [hv]
    show AR w Z μ z ((args.toArray++Array.replicate (fn.ntmps-args.toArray.size) undef).getD i undef)
    rw [this];exact har
   ·rw [List.getElem?_append_right h1,List.getElem?_replicate] at hz
    split at hz
    ·cases hz;exact AR.undef _
    ·cases hz
  ·show (xs++List.replicate (fn.ntmps-xs.length) (AV.c .undef)).length=(args.toArray++Array.replicate (fn.ntmps-args.toArray.size) undef).size
   simp [hlen]
 refine lJ (B:=B2) hm hE code _ ann st _ Ψ _ st _ _ w w Z Z μ μ h hR hR (Ev.refl _) (dG.refl _) ?_
 intro e s a' w' Z' μ' hs hR' hev hext'
 have hfin:(oR E.P s fn.results.toList fun vs=>K (vp vs) ⟨s.mem.roots,m.dR ||| s.mem.dR,s.mem.cur⟩).sat Ψ->a'.defers=[]/\∃ v,(results fn a'.tmps).run E.P w'=.ok v w'/\(∃ vr v' m',∃ Z':Nat->Prop,∃ μ',Ending.returned v=.returned vr/\(K v' m').sat Ψ/\bZ B m' w' Z' μ'/\AR w' Z' μ' v' vr/\ba Z w w'/\(∀ b,Z b->Z' b)/\dG μ μ'/\m.roots.length<=m'.roots.length /\
   (∀ r,r < m.roots.length->m'.dR.testBit r=false->m'.roots[r]?=m.roots[r]?)/\(∀ r,m.dR.testBit r=true->m'.dR.testBit r=true)):=by
  intro hs
  obtain ⟨ys,kC,hrun,hys,hs⟩:=oh hR' fn.results.toList hres hs
  obtain ⟨v,hv,hp⟩:=yb hrun
  have hN:=hR'.mem
  refine ⟨hR'.df,v,hv,v,_,_,Z',μ',rfl,hs,?_,ER hys hp,?_,hN.sG,hext',hev.rl,fun r hr hb=>?_,fun r hr=>?_⟩
  ·refine bZ.congr (m:=s.mem) ?_ rfl
   refine ⟨hN.rt,hN.dj,fun r x ℓ b h1 h2 h3 h4=>?_,fun b hb=>?_,fun b hb=>hN.sG b (hM.sG b hb),Nat.le_trans hM.size hN.size,fun b hb hA=>?_,hN.far,hM.nX,hM.io.trans hN.io⟩
   ·obtain ⟨g1,g2,g3⟩:=hN.own r x ℓ b h1 h2 h3 h4
    refine ⟨g1,g2,?_⟩
    rcases g3 with g3|g3
    ·exact .inl (Nat.le_trans hM.size g3)
    ·exact g3.2
   ·obtain ⟨g1,g2⟩:=hN.frz b hb
    refine ⟨g1,?_⟩
    rcases g2 with g2|g2|g2
    ·exact (hM.frz b g2).2
    ·exact .inr (.inl (Nat.le_trans hM.size g2))
    ·exact .inr g2.2
   ·refine (hN.rP b (Nat.lt_of_lt_of_le hb hM.size) fun h2=>?_).trans (hM.rP b hb hA)
    rcases h2.2 with h3|h3
    ·omega
    ·exact hA h3
  ·exact fun b hb=>hN.rP b (hM.frz b hb).1 fun h2=>h2.1 hb
  ·simp only [Nat.testBit_or,Bool.or_eq_false_iff] at hb
   exact hev.rt r hr hb.2
  ·simp only [Nat.testBit_or,hr,Bool.true_or]
 cases e with
 |nrm=>exact hfin hs
 |ret=>exact hfin hs
 |ext n=>exact hs.elim
end Go.Mach

namespace Go.Mach
structure Sg where
 ps:List Par
 rs:List VSh
abbrev Sg.I (g:Sg):Type:=lA (g.ps.map Par.v)
abbrev Sg.O (g:Sg):Type:=outs (lA g.rs) (boxes g.ps)
@[reducible] def Sg.i (g:Sg) (x:g.I):Bool:=oks (g.ps.map Par.v) x
def Sg.o (g:Sg) (y:g.O):Bool:=qu (oks g.rs) (boxes g.ps) y
@[reducible] def Sg.sp (g:Sg) (f:FuncId) (run:g.I->Res g.O):Spec:=⟨f,g.ps,g.rs,run⟩
abbrev Ann.r (a:Ann):Ann:=.two .none a
abbrev Ann.l (a:Ann):Ann:=.two a .none
abbrev rg (a n:Nat):List Nat:=List.range' a n
abbrev Sh.i:Sh:=.frz (.int .i64)
abbrev Sh.h:Sh:=.frz (.int .u16)
abbrev Sh.y:Sh:=.frz (.int .u8)
abbrev Sh.w:Sh:=.frz (.int .u32)
abbrev Sh.b:Sh:=.frz .bool
abbrev Sh.s:Sh:=.frz .str
abbrev vi:VSh:=(false,.i)
abbrev vb:VSh:=(false,.b)
abbrev vs:VSh:=(false,.s)
abbrev Par.i:Par:=.val false .i
abbrev Par.b:Par:=.val false .b
abbrev Par.s:Par:=.val false .s
def fnOk (P:Program) (ps:List Par) (rs:List VSh) (fn:Func):Bool :=
 fn.body.isSome && (!(fn.name == "runtime.NumGoroutine") && ((boxes ps).all Sh.mq && ((rs.all fun s=>s.2.oK) && ((boxes ps).all Sh.oK && fn.results.toList.all (xe P)))))
def Eqn (E:Env) (sp:Spec) (ann:Ann):Prop:=∃ fn,E.P.funcs[sp.f]?=some fn/\fnOk E.P sp.ps sp.rs fn=true/\∀ x,uv E fn sp.ps sp.rs ann x=sp.run x
theorem eqn {E:Env}{f:FuncId}{ps:List Par}{rs:List VSh}{run:lA (ps.map Par.v)->Res (outs (lA rs) (boxes ps))}{ann:Ann}(fn:Func) (h1:E.P.funcs[f]?=some fn:=by kernel_rfl) (h2:fnOk E.P ps rs fn=true:=by kernel_rfl) (h3:∀ x,uv E fn ps rs ann x=run x:=by intro x;kernel_rfl):Eqn E ⟨f,ps,rs,run⟩ ann:=⟨fn,h1,h2,h3⟩
theorem Eqn.ym {E:Env}{G:qs}{sp:Spec}{ann:Ann}(h:Eqn E sp ann) (hm:E.P.follows .mixedOrders=true) (hE:pK E G):kf E.P G sp:=by
 obtain ⟨fn,h1,h2,h3⟩:=h
 simp only [fnOk,Bool.and_eq_true,Bool.not_eq_true'] at h2
 exact yh hm hE h1 h2.1 h2.2.1 h2.2.2.1 h2.2.2.2.1 h2.2.2.2.2.1 h2.2.2.2.2.2 h3
theorem Eqn.stuck {E:Env}{G:qs}{sp:Spec}{ann:Ann}{run:lA (sp.ps.map Par.v)->Res (outs (lA sp.rs) (boxes sp.ps))}(h:Eqn E sp ann) (h0:∀ x,run x=.stuck):kf E.P G ⟨sp.f,sp.ps,sp.rs,run⟩:=by
 obtain ⟨fn,h1,h2,h3⟩:=h
 simp only [fnOk,Bool.and_eq_true,Bool.not_eq_true'] at h2
 exact wC h1 h2.1 h2.2.1 h2.2.2.1 h0
end Go.Mach

namespace Go.Mach
def rU (n:Int):Res (List UInt8):=.ok (Lib.itoa n)
@[reducible] def rQ.ps:List Par:=[.val false (.frz (.int .i64))]
@[reducible] def rQ.rs:List VSh:=[(false,.frz .str)]
abbrev rQ.g:Sg:=⟨rQ.ps,rQ.rs⟩
def pj (f:FuncId):Spec:=⟨f,rQ.ps,rQ.rs,fun x=>rU x⟩
def ph (s:List UInt8):Res (Int×Bool) :=
 match Lib.atoiAll s with
 |.ok v=>.ok (v,true)
 |.range=>.ok (Lib.atoiSat s,false)
 |_=>.ok (0,false)
@[reducible] def qB.ps:List Par:=[.val false (.frz .str)]
@[reducible] def qB.rs:List VSh:=[(false,.frz (.int .i64)),(false,.err)]
abbrev qB.g:Sg:=⟨qB.ps,qB.rs⟩
def uD (f:FuncId):Spec:=⟨f,qB.ps,qB.rs,fun x=>ph x⟩
def ixbRun (s:List UInt8) (c:Int):Res Int:=.ok (Lib.indexByte s c.toNat.toUInt8)
end Go.Mach

set_option linter.unusedVariables false
set_option maxRecDepth 20000
noncomputable section
namespace Go.Mach
open Res
abbrev aH:Ty:=(.pair (.int .i64) (.int .i64))
abbrev ax:Ty:=(.pair .bool (.list (.int .u32)))
abbrev gl:Ty:=(.pair (.int .i64) (.list (.int .u16)))
abbrev kS:Ty:=(.pair (.list (.int .u16)) (.int .i64))
abbrev eu:Ty:=(.pair (.int .i64) aH)
abbrev fF:Ty:=(.pair (.int .u64) (.pair (.int .i64) (.pair (.int .i64) gl)))
abbrev aC:Ty:=(.pair (.int .i64) (.pair aH (.pair ax kS)))
abbrev aE:Ty:=(.pair (.int .i64) (.pair .str (.pair (.list (.int .u16)) (.pair aH (.pair ax (.list (.int .i64)))))))
abbrev bO:Ty:=(.pair (.list (.int .u16)) aC)
abbrev cN:Ty:=(.pair (.int .i64) (.pair .str (.pair (.list (.int .u16)) (.pair aH (.pair ax (.pair (.int .i64) .bool))))))
abbrev aX:Ty:=(.pair (.int .i64) (.pair .str aC))
abbrev aO:Ty:=(.pair (.int .i64) (.pair aC .bool))
abbrev bJ:Ty:=(.pair .str (.pair aC (.pair .bool .bool)))
abbrev mj:Ty:=(.pair (.list cN) eu)
abbrev eZ:Ty:=(.pair (.int .i64) (.pair (.int .i64) (.pair (.int .i64) (.pair (.int .i64) (.pair (.int .i64) (.pair .bool (.pair .bool (.pair (.int .u64) (.pair (.int .u64) (.pair aH kS))))))))))
abbrev fX:Ty:=(.pair .str (.pair aC aC))
abbrev jw:Ty:=(.pair (.int .i64) (.pair (.int .i64) (.pair (.list bO) (.pair (.list bJ) (.pair .str (.pair (.int .i64) (.pair (.int .i64) (.pair aC (.pair (.int .i64) (.pair (.int .i64) (.pair (.int .i64) (.pair (.int .i64) (.list (.int .u8))))))))))))))
abbrev gy:Ty:=(.pair (.int .i64) (.list jw))
abbrev bd {α β:Type}(m:Res α) (k:α->Res β):Res β:=Res.bind m k
abbrev zV:aC.den:=(0,((0,0),((false,([]:List Int)),(([]:List Int),0))))
abbrev kv:Sh:=(.seq .i (.seq .i (.seq (.own (.frz bO)) (.seq (.own (.frz bJ)) (.seq .s (.seq .i (.seq .i (.seq (.frz aC) (.seq .i (.seq .i (.seq .i (.seq .i (.own .y)))))))))))))
abbrev kq:Sh:=(.seq .i (.seq .i (.seq .opq (.seq .opq (.seq .s (.seq .i (.seq .i (.seq (.frz aC) (.seq .i (.seq .i (.seq .i (.seq .i .opq))))))))))))
abbrev F3:Sh:=(.seq .i (.own kv))
abbrev dz:Sh:=(.box F3)
abbrev S_run0:Sh:=(.seq (.frz (.list aE)) (.seq (.frz eu) (.seq (.frz (.list fF)) (.seq .i (.seq dz (.seq .i (.seq .i (.seq (.frz eZ) (.frz gl)))))))))
abbrev aG:Sh:=(.box S_run0)
abbrev C4:Sh:=(.seq (.frz (.list (.int .u16))) .i)
abbrev cO:Sh:=(.box C4)
abbrev Cc:Sh:=(.seq (.frz (.list cN)) (.seq .i (.seq .i .i)))
abbrev aL:Sh:=(.box Cc)
abbrev lM:Sh:=(.own (.frz aE))
abbrev pb:Sh:=(.box lM)
abbrev o7:Sh:=(.seq (.frz aE) (.own (.frz (.rose aE))))
@[reducible] def uo (e:Ty):List Par:=[.val false (.bor (.own (.frz e)))]
@[reducible] def u3 (e:Ty):List VSh:=[(false,.own (.frz e))]
def ma (e:Ty):outs (lA (u3 e)) (boxes (uo e))->Bool:=qu (oks (u3 e)) (boxes (uo e))
def jb (f:FuncId) (e:Ty):Spec:=⟨f,uo e,u3 e,fun x=>ok x⟩
def qK (k:Nat) (f:FuncId) (e:Ty):Spec:=⟨f,uo e,u3 e,fun x=>ah (decide ((0+x.length)*k<=2^47)) (ok x)⟩
abbrev fY.g:Sg:=⟨[.val false (.bor (.own .y))],[(false,(.frz (.int .i32))),vi]⟩
def R.fY (p_0:(List Int)):Res ((Int×Int)) :=
 given (fY.g.i p_0) (bd (loop (α:=Int) (β:=(Unit ⊕ (Int×Int))) (fun x1=>br (ilt x1 (p_0.length:Int)) (dC .y p_0 x1 fun e2=>br (ilt e2 128) (ok (.done (.inr (IntKind.wrap .i32 e2,1)))) (ok (.done (.inl ())))) (ok (.done (.inl ())))) fuel 0) fun x3=>sum x3 (fun x4=>Res.stuck) (fun z5=>ok z5))
abbrev kD.g:Sg:=⟨[.val false (.bor (.own .y))],[(false,(.own .h)),vi,vi]⟩
def R.kD (b_0:(List Int)):Res (((List Int)×(Int×Int))) :=
 given (kD.g.i b_0) (br (ilt 4096 (b_0.length:Int)) (ok ((([]:List Int),(0,3)))) (bd (loop (α:=((List Int)×Int)) (β:=((List Int) ⊕ ((List Int)×(Int×Int)))) (fun l1=>br (ilt l1.2 (b_0.length:Int)) (ah (ile 0 l1.2 && ile l1.2 b_0.length) (bd (R.fY (List.take (b_0.length-(Int.toNat l1.2)) (List.drop (0+(Int.toNat l1.2)) b_0))) fun r2=>given (fY.g.o r2) (bd (α:=Bool) (br (r2.1 == 65533) (ok ((ile r2.2 1))) (ok false)) fun x3=>br x3 (ok (.done (.inr (([]:List Int),(l1.2,2))))) (br (ilt r2.1 65536) (ah (decide ((l1.1.length+[IntKind.wrap .u16 r2.1].length)*2<=2^47)) (ok (.next (((l1.1++[IntKind.wrap .u16 r2.1]),IntKind.wrap .i64 (l1.2+r2.2)))))) (ah (ile 0 10) (ah (decide ((l1.1.length+[IntKind.wrap .u16 (IntKind.wrap .i32 (55296+(ir .i32 (IntKind.wrap .i32 (r2.1-65536)) 10))),IntKind.wrap .u16 (IntKind.wrap .i32 (56320+(fm .and .i32 (IntKind.wrap .i32 (r2.1-65536)) 1023)))].length)*2<=2^47)) (ok (.next (((l1.1++[IntKind.wrap .u16 (IntKind.wrap .i32 (55296+(ir .i32 (IntKind.wrap .i32 (r2.1-65536)) 10))),IntKind.wrap .u16 (IntKind.wrap .i32 (56320+(fm .and .i32 (IntKind.wrap .i32 (r2.1-65536)) 1023)))]),IntKind.wrap .i64 (l1.2+r2.2))))))))))) (ok (.done (.inl l1.1)))) fuel (([]:List Int),0)) fun l4=>sum l4 (fun l5=>ok ((l5,(0,0)))) (fun z6=>ok z6)))
abbrev lR.g:Sg:=⟨[.val false .h],[vb]⟩
def R.lR (x_0:Int):Res (Bool) :=
 given (lR.g.i x_0) (br (x_0 == 9) (ok true) (br (x_0 == 11) (ok true) (br (x_0 == 12) (ok true) (ok ((x_0 == 32))))))
abbrev lI.g:Sg:=⟨[.val false .h],[vb]⟩
def R.lI (x_0:Int):Res (Bool) :=
 given (lI.g.i x_0) (br (x_0 == 10) (ok true) (ok ((x_0 == 13))))
abbrev dK.g:Sg:=⟨[.val false (.bor cO),.s],[vb]⟩
def R.dK (r_0:kS.den) (s_1:(List UInt8)):Res (Bool) :=
 given (dK.g.i (r_0,s_1)) (bd (loop (α:=Int) (β:=(Unit ⊕ Bool)) (fun x1=>br (ilt x1 (s_1.length:Int)) (bd (α:=Bool) (br (ile (r_0.1.length:Int) (IntKind.wrap .i64 (r_0.2+x1))) (ok true) (idx (.int .u16) r_0.1 (IntKind.wrap .i64 (r_0.2+x1)) fun e2=>idx (.int .u8) (lT s_1) x1 fun e3=>ok ((!(e2 == (IntKind.wrap .u16 e3)))))) fun x4=>br x4 (ok (.done (.inr false))) (ok (.next (IntKind.wrap .i64 (x1+1))))) (ok (.done (.inl ())))) fuel 0) fun x5=>sum x5 (fun x6=>ok true) (fun z7=>ok z7))
abbrev fb.g:Sg:=⟨[.obj cO],[vb,vi,vi]⟩
def R.fb (r_0:cO.den):Res ((Bool×(Int×Int))×cO.den) :=
 given (fb.g.i r_0) (bd (loop (α:=(Bool×cO.den)) (β:=(Bool×cO.den)) (fun nl1=>br (ilt nl1.2.2 (nl1.2.1.length:Int)) (idx (.int .u16) nl1.2.1 nl1.2.2 fun e2=>bd (α:=Bool) (bd (R.lR e2) fun r3=>br r3 (ok true) (bd (R.lI e2) fun r4=>ok r4)) fun x5=>br x5 (bd (α:=Bool) (br nl1.1 (ok true) (bd (R.lI e2) fun r6=>ok r6)) fun nl7=>ok (.next ((nl7,(nl1.2.1,IntKind.wrap .i64 (nl1.2.2+1)))))) (bd (α:=Bool) (bd (R.dK nl1.2 [47,47]) fun r8=>br r8 (ok true) (bd (R.dK nl1.2 [47,42]) fun r9=>ok r9)) fun x10=>br x10 (Res.stuck) (ok (.done (nl1))))) (ok (.done (nl1)))) fuel (false,r_0)) fun nl11=>ok (((nl11.1,(0,0)),nl11.2)))
abbrev gV.g:Sg:=⟨[.val false .h],[vb]⟩
def R.gV (x_0:Int):Res (Bool) :=
 given (gV.g.i x_0) (br (ile 97 x_0) (br (ile x_0 122) (ok true) (br (ile 65 x_0) (br (ile x_0 90) (ok true) (br (x_0 == 95) (ok true) (ok ((x_0 == 36))))) (br (x_0 == 95) (ok true) (ok ((x_0 == 36)))))) (br (ile 65 x_0) (br (ile x_0 90) (ok true) (br (x_0 == 95) (ok true) (ok ((x_0 == 36))))) (br (x_0 == 95) (ok true) (ok ((x_0 == 36))))))
abbrev iO.g:Sg:=⟨[.val false .h],[vb]⟩
def R.iO (x_0:Int):Res (Bool) :=
 given (iO.g.i x_0) (br (ile 48 x_0) (ok ((ile x_0 57))) (ok false))
abbrev fC.g:Sg:=⟨[.val false .h],[vb]⟩
def R.fC (x_0:Int):Res (Bool) :=
 given (fC.g.i x_0) (bd (R.gV x_0) fun r1=>br r1 (ok true) (bd (R.iO x_0) fun r2=>ok r2))
abbrev bW.g:Sg:=⟨[.val false (.bor cO),.i,.val false (.bor (.clo 208 .nil))],[vb]⟩
def R.bW (r_0:kS.den) (k_1:Int) (f_2:Unit):Res (Bool) :=
 given (bW.g.i (r_0,(k_1,f_2))) (br (ilt (IntKind.wrap .i64 (r_0.2+k_1)) (r_0.1.length:Int)) (idx (.int .u16) r_0.1 (IntKind.wrap .i64 (r_0.2+k_1)) fun e1=>bd (R.fC e1) fun r2=>ok r2) (ok false))
abbrev bK.g:Sg:=⟨[.obj cO,.val false (.bor (.clo 208 .nil))],[vs]⟩
def R.bK (r_0:cO.den) (f_1:Unit):Res ((List UInt8)×cO.den) :=
 given (bK.g.i (r_0,f_1)) (bd (loop (α:=((List Int)×cO.den)) (β:=((List Int)×cO.den)) (fun b1=>bd (R.bW b1.2 0 ()) fun r2=>br r2 (idx (.int .u16) b1.2.1 b1.2.2 fun e3=>ah (decide ((b1.1.length+[IntKind.wrap .u8 e3].length)*1<=2^47)) (ok (.next (((b1.1++[IntKind.wrap .u8 e3]),(b1.2.1,IntKind.wrap .i64 (b1.2.2+1))))))) (ok (.done (b1)))) fuel (([]:List Int),r_0)) fun b4=>ok ((rR b4.1,b4.2)))
abbrev j7.g:Sg:=⟨[.s],[vi]⟩
def R.j7 (s_0:(List UInt8)):Res (Int) :=
 given (j7.g.i s_0) (bd (α:=Bool) (br (s_0 == [98,114,101,97,107]) (ok ((s_0 == [98,114,101,97,107]))) (br (s_0 == [99,97,116,99,104]) (ok ((s_0 == [99,97,116,99,104]))) (br (s_0 == [99,111,110,115,116]) (ok ((s_0 == [99,111,110,115,116]))) (br (s_0 == [99,111,110,116,105,110,117,101]) (ok ((s_0 == [99,111,110,116,105,110,117,101]))) (br (s_0 == [101,108,115,101]) (ok ((s_0 == [101,108,115,101]))) (br (s_0 == [102,97,108,115,101]) (ok ((s_0 == [102,97,108,115,101]))) (br (s_0 == [102,105,110,97,108,108,121]) (ok ((s_0 == [102,105,110,97,108,108,121]))) (br (s_0 == [102,111,114]) (ok ((s_0 == [102,111,114]))) (br (s_0 == [102,117,110,99,116,105,111,110]) (ok ((s_0 == [102,117,110,99,116,105,111,110]))) (br (s_0 == [105,102]) (ok ((s_0 == [105,102]))) (br (s_0 == [105,110]) (ok ((s_0 == [105,110]))) (br (s_0 == [108,101,116]) (ok ((s_0 == [108,101,116]))) (br (s_0 == [110,101,119]) (ok ((s_0 == [110,101,119]))) (br (s_0 == [110,117,108,108]) (ok ((s_0 == [110,117,108,108]))) (br (s_0 == [114,101,116,117,114,110]) (ok ((s_0 == [114,101,116,117,114,110]))) (br (s_0 == [116,104,105,115]) (ok ((s_0 == [116,104,105,115]))) (br (s_0 == [116,104,114,111,119]) (ok ((s_0 == [116,104,114,111,119]))) (br (s_0 == [116,114,117,101]) (ok ((s_0 == [116,114,117,101]))) (br (s_0 == [116,114,121]) (ok ((s_0 == [116,114,121]))) (br (s_0 == [116,121,112,101,111,102]) (ok ((s_0 == [116,121,112,101,111,102]))) (br (s_0 == [118,111,105,100]) (ok ((s_0 == [118,111,105,100]))) (ok ((s_0 == [119,104,105,108,101])))))))))))))))))))))))) fun x1=>br x1 (ok 1) (bd (α:=Bool) (br (s_0 == [97,114,103,117,109,101,110,116,115]) (ok ((s_0 == [97,114,103,117,109,101,110,116,115]))) (br (s_0 == [97,115,121,110,99]) (ok ((s_0 == [97,115,121,110,99]))) (br (s_0 == [97,119,97,105,116]) (ok ((s_0 == [97,119,97,105,116]))) (br (s_0 == [99,97,115,101]) (ok ((s_0 == [99,97,115,101]))) (br (s_0 == [99,108,97,115,115]) (ok ((s_0 == [99,108,97,115,115]))) (br (s_0 == [100,101,98,117,103,103,101,114]) (ok ((s_0 == [100,101,98,117,103,103,101,114]))) (br (s_0 == [100,101,102,97,117,108,116]) (ok ((s_0 == [100,101,102,97,117,108,116]))) (br (s_0 == [100,101,108,101,116,101]) (ok ((s_0 == [100,101,108,101,116,101]))) (br (s_0 == [100,111]) (ok ((s_0 == [100,111]))) (br (s_0 == [101,110,117,109]) (ok ((s_0 == [101,110,117,109]))) (br (s_0 == [101,118,97,108]) (ok ((s_0 == [101,118,97,108]))) (br (s_0 == [101,120,112,111,114,116]) (ok ((s_0 == [101,120,112,111,114,116]))) (br (s_0 == [101,120,116,101,110,100,115]) (ok ((s_0 == [101,120,116,101,110,100,115]))) (br (s_0 == [105,109,112,108,101,109,101,110,116,115]) (ok ((s_0 == [105,109,112,108,101,109,101,110,116,115]))) (br (s_0 == [105,109,112,111,114,116]) (ok ((s_0 == [105,109,112,111,114,116]))) (br (s_0 == [105,110,115,116,97,110,99,101,111,102]) (ok ((s_0 == [105,110,115,116,97,110,99,101,111,102]))) (br (s_0 == [105,110,116,101,114,102,97,99,101]) (ok ((s_0 == [105,110,116,101,114,102,97,99,101]))) (br (s_0 == [112,97,99,107,97,103,101]) (ok ((s_0 == [112,97,99,107,97,103,101]))) (br (s_0 == [112,114,105,118,97,116,101]) (ok ((s_0 == [112,114,105,118,97,116,101]))) (br (s_0 == [112,114,111,116,101,99,116,101,100]) (ok ((s_0 == [112,114,111,116,101,99,116,101,100]))) (br (s_0 == [112,117,98,108,105,99]) (ok ((s_0 == [112,117,98,108,105,99]))) (br (s_0 == [115,116,97,116,105,99]) (ok ((s_0 == [115,116,97,116,105,99]))) (br (s_0 == [115,117,112,101,114]) (ok ((s_0 == [115,117,112,101,114]))) (br (s_0 == [115,119,105,116,99,104]) (ok ((s_0 == [115,119,105,116,99,104]))) (br (s_0 == [118,97,114]) (ok ((s_0 == [118,97,114]))) (br (s_0 == [119,105,116,104]) (ok ((s_0 == [119,105,116,104]))) (ok ((s_0 == [121,105,101,108,100]))))))))))))))))))))))))))))) fun x2=>br x2 (ok 2) (ok 0)))
abbrev fZ.g:Sg:=⟨[.obj cO],[(true,(.frz cN)),vi]⟩
def R.fZ (r_0:cO.den):Res ((cN.den×Int)×cO.den) :=
 given (fZ.g.i r_0) (bd (R.bK r_0 ()) fun r1=>given (bK.g.o r1) (bd (R.dK r1.2 [92]) fun r2=>br r2 (ok ((((0,(([]:List UInt8),(([]:List Int),((0,0),((false,([]:List Int)),(0,false)))))),6),r1.2))) (bd (R.j7 r1.1) fun r3=>given (j7.g.o r3) (br (ilt 0 r3) (ok ((((6,(r1.1,(([]:List Int),((0,0),((false,([]:List Int)),(0,false)))))),0),r1.2))) (ok ((((1,(r1.1,(([]:List Int),((0,0),((false,([]:List Int)),(0,false)))))),0),r1.2)))))))
abbrev bh.g:Sg:=⟨[.val false (.bor cO),.i,.val false (.bor (.clo 144 .nil))],[vb]⟩
def R.bh (r_0:kS.den) (k_1:Int) (f_2:Unit):Res (Bool) :=
 given (bh.g.i (r_0,(k_1,f_2))) (br (ilt (IntKind.wrap .i64 (r_0.2+k_1)) (r_0.1.length:Int)) (idx (.int .u16) r_0.1 (IntKind.wrap .i64 (r_0.2+k_1)) fun e1=>bd (R.iO e1) fun r2=>ok r2) (ok false))
abbrev cF.g:Sg:=⟨[.obj cO,.val false (.bor (.clo 144 .nil))],[vs]⟩
def R.cF (r_0:cO.den) (f_1:Unit):Res ((List UInt8)×cO.den) :=
 given (cF.g.i (r_0,f_1)) (bd (loop (α:=((List Int)×cO.den)) (β:=((List Int)×cO.den)) (fun b1=>bd (R.bh b1.2 0 ()) fun r2=>br r2 (idx (.int .u16) b1.2.1 b1.2.2 fun e3=>ah (decide ((b1.1.length+[IntKind.wrap .u8 e3].length)*1<=2^47)) (ok (.next (((b1.1++[IntKind.wrap .u8 e3]),(b1.2.1,IntKind.wrap .i64 (b1.2.2+1))))))) (ok (.done (b1)))) fuel (([]:List Int),r_0)) fun b4=>ok ((rR b4.1,b4.2)))
abbrev dN.g:Sg:=⟨[.val false .h,.val false (.bor (.box .b))],[vb]⟩
def R.dN (x_0:Int) (a_1:Bool):Res (Bool) :=
 given (dN.g.i (x_0,a_1)) (bd (α:=Bool) (br (x_0 == 46) (ok ((x_0 == 46))) (br (x_0 == 101) (ok ((x_0 == 101))) (br (x_0 == 69) (ok ((x_0 == 69))) (ok ((x_0 == 95)))))) fun x1=>br x1 (ok true) (bd (α:=Bool) (br (x_0 == 120) (ok ((x_0 == 120))) (br (x_0 == 88) (ok ((x_0 == 88))) (br (x_0 == 111) (ok ((x_0 == 111))) (br (x_0 == 79) (ok ((x_0 == 79))) (br (x_0 == 98) (ok ((x_0 == 98))) (ok ((x_0 == 66)))))))) fun x2=>br x2 (ok a_1) (ok false)))
abbrev bL.g:Sg:=⟨[.val false (.bor cO),.i,.val false (.bor (.clo 241 (.box .b)))],[vb]⟩
def R.bL (r_0:kS.den) (k_1:Int) (f_2:Bool):Res (Bool) :=
 given (bL.g.i (r_0,(k_1,f_2))) (br (ilt (IntKind.wrap .i64 (r_0.2+k_1)) (r_0.1.length:Int)) (idx (.int .u16) r_0.1 (IntKind.wrap .i64 (r_0.2+k_1)) fun e1=>bd (R.dN e1 f_2) fun r2=>ok r2) (ok false))
abbrev eU.g:Sg:=⟨[.val false (.bor cO),.b],[vb]⟩
def R.eU (r_0:kS.den) (zero_1:Bool):Res (Bool) :=
 given (eU.g.i (r_0,zero_1)) (bd (R.bL r_0 0 zero_1) fun r1=>ok r1)
abbrev cY.g:Sg:=⟨[.val false (.bor cO),.i,.val false (.bor (.clo 143 .nil))],[vb]⟩
def R.cY (r_0:kS.den) (k_1:Int) (f_2:Unit):Res (Bool) :=
 given (cY.g.i (r_0,(k_1,f_2))) (br (ilt (IntKind.wrap .i64 (r_0.2+k_1)) (r_0.1.length:Int)) (idx (.int .u16) r_0.1 (IntKind.wrap .i64 (r_0.2+k_1)) fun e1=>bd (R.gV e1) fun r2=>ok r2) (ok false))
abbrev ai.g:Sg:=⟨[.s],[(false,(.own .h))]⟩
def R.ai (s_0:(List UInt8)):Res ((List Int)) :=
 given (ai.g.i s_0) (bd (loop (α:=((List Int)×Int)) (β:=(List Int)) (fun l1=>br (ilt l1.2 (s_0.length:Int)) (idx (.int .u8) (lT s_0) l1.2 fun e2=>ah (decide ((l1.1.length+[IntKind.wrap .u16 e2].length)*2<=2^47)) (ok (.next (((l1.1++[IntKind.wrap .u16 e2]),IntKind.wrap .i64 (l1.2+1)))))) (ok (.done (l1.1)))) fuel (([]:List Int),0)) fun l3=>ok l3)
abbrev jT.g:Sg:=⟨[.val false .h],[vb]⟩
def R.jT (x_0:Int):Res (Bool) :=
 given (jT.g.i x_0) (br (x_0 == 32) (ok true) (br (x_0 == 9) (ok true) (br (x_0 == 10) (ok true) (ok ((x_0 == 13))))))
abbrev gT.g:Sg:=⟨[.val false .h],[vb]⟩
def R.gT (x_0:Int):Res (Bool) :=
 given (gT.g.i x_0) (br (ile 48 x_0) (ok ((ile x_0 57))) (ok false))
abbrev cn.g:Sg:=⟨[.val false (.bor (.own .h)),.val false .h],[vi]⟩
def R.cn (s_0:(List Int)) (v_1:Int):Res (Int) :=
 given (cn.g.i (s_0,v_1)) (bd (loop (α:=Int) (β:=(Unit ⊕ Int)) (fun x1=>br (ilt x1 (s_0.length:Int)) (dC .h s_0 x1 fun e2=>br (v_1 == e2) (ok (.done (.inr x1))) (ok (.next (IntKind.wrap .i64 (x1+1))))) (ok (.done (.inl ())))) fuel 0) fun x3=>sum x3 (fun x4=>ok ((-1))) (fun z5=>ok z5))
abbrev cU.g:Sg:=⟨[.val false (.bor (.own .h)),.val false .h],[vb]⟩
def R.cU (s_0:(List Int)) (v_1:Int):Res (Bool) :=
 given (cU.g.i (s_0,v_1)) (bd (R.cn s_0 v_1) fun r1=>given (cn.g.o r1) (ok ((ile 0 r1))))
abbrev iG.g:Sg:=⟨[.val false (.bor (.own .h))],[vb]⟩
def R.iG (u_0:(List Int)):Res (Bool) :=
 given (iG.g.i u_0) (bd (loop (α:=(Bool×Int)) (β:=(Bool ⊕ Bool)) (fun some1=>br (ilt some1.2 (u_0.length:Int)) (dC .h u_0 some1.2 fun e2=>bd (α:=Bool) (br some1.1 (ok true) (bd (R.gT e2) fun r3=>ok r3)) fun some4=>bd (α:=Bool) (bd (R.gT e2) fun r5=>br r5 (ok r5) (bd (α:=Bool) (br (ile 97 e2) (ok ((ile e2 102))) (ok false)) fun x6=>br x6 (ok x6) (br (ile 65 e2) (ok ((ile e2 70))) (ok false)))) fun x7=>br x7 (ok (.next ((some4,IntKind.wrap .i64 (some1.2+1))))) (bd (R.ai [120,88,111,79,46,43,45,95]) fun r8=>given (ai.g.o r8) (bd (R.cU r8 e2) fun r9=>br r9 (ok (.next ((some4,IntKind.wrap .i64 (some1.2+1))))) (ok (.done (.inr false)))))) (ok (.done (.inl some1.1)))) fuel (false,0)) fun some10=>sum some10 (fun some11=>ok some11) (fun z12=>ok z12))
abbrev cc.g:Sg:=⟨[.val false (.bor (.own .h)),.val false (.bor (.own .h))],[vb]⟩
def R.cc (s1_0:(List Int)) (s2_1:(List Int)):Res (Bool) :=
 given (cc.g.i (s1_0,s2_1)) (br (!((s1_0.length:Int) == (s2_1.length:Int))) (ok false) (bd (loop (α:=Int) (β:=(Unit ⊕ Bool)) (fun x1=>br (ilt x1 (s1_0.length:Int)) (dC .h s1_0 x1 fun e2=>dC .h s2_1 x1 fun e3=>br (!(e2 == e3)) (ok (.done (.inr false))) (ok (.next (IntKind.wrap .i64 (x1+1))))) (ok (.done (.inl ())))) fuel 0) fun x4=>sum x4 (fun x5=>ok true) (fun z6=>ok z6)))
abbrev gf.g:Sg:=⟨[.val false (.bor (.own .h)),.val false (.bor (.own .h))],[vb]⟩
def R.gf (a_0:(List Int)) (b_1:(List Int)):Res (Bool) :=
 given (gf.g.i (a_0,b_1)) (bd (R.cc a_0 b_1) fun r1=>ok r1)
abbrev gW.g:Sg:=⟨[.val false .h],[vb]⟩
def R.gW (x_0:Int):Res (Bool) :=
 given (gW.g.i x_0) (bd (R.gT x_0) fun r1=>ok ((!r1)))
abbrev aq.g:Sg:=⟨[.val false (.bor (.own .h)),.val false (.bor (.clo 86 .nil))],[vi]⟩
def R.aq (s_0:(List Int)) (f_1:Unit):Res (Int) :=
 given (aq.g.i (s_0,f_1)) (bd (loop (α:=Int) (β:=(Unit ⊕ Int)) (fun x1=>br (ilt x1 (s_0.length:Int)) (dC .h s_0 x1 fun e2=>bd (R.gW e2) fun r3=>br r3 (ok (.done (.inr x1))) (ok (.next (IntKind.wrap .i64 (x1+1))))) (ok (.done (.inl ())))) fuel 0) fun x4=>sum x4 (fun x5=>ok ((-1))) (fun z6=>ok z6))
abbrev ak.g:Sg:=⟨[.val false (.bor (.own .h)),.val false (.bor (.clo 86 .nil))],[vb]⟩
def R.ak (s_0:(List Int)) (f_1:Unit):Res (Bool) :=
 given (ak.g.i (s_0,f_1)) (bd (R.aq s_0 ()) fun r1=>given (aq.g.o r1) (ok ((ile 0 r1))))
abbrev jN.g:Sg:=⟨[.val false (.bor (.own .h))],[vi,vb]⟩
def R.jN (d_0:(List Int)):Res ((Int×Bool)) :=
 given (jN.g.i d_0) (bd (loop (α:=(Int×Int)) (β:=(Int ⊕ (Int×Bool))) (fun n1=>br (ilt n1.2 (d_0.length:Int)) (dC .h d_0 n1.2 fun e2=>br (ilt 900719925474099 n1.1) (ok (.done (.inr (0,false)))) (ok (.next ((IntKind.wrap .i64 ((IntKind.wrap .i64 (10*n1.1))+(IntKind.wrap .i64 (IntKind.wrap .u16 (e2-48)))),IntKind.wrap .i64 (n1.2+1)))))) (ok (.done (.inl n1.1)))) fuel (0,0)) fun n3=>sum n3 (fun n4=>ok ((n4,(ile n4 9007199254740991)))) (fun z5=>ok z5))
abbrev kW.g:Sg:=⟨[.val true (.frz aH)],[vb]⟩
def R.kW (a_0:aH.den):Res (Bool) :=
 given (kW.g.i a_0) (br (a_0.1 == 0) (br (ile (-9007199254740991) a_0.2) (ok ((ile a_0.2 9007199254740991))) (ok false)) (bd (α:=Bool) (br (a_0.1 == 1) (ok ((a_0.1 == 1))) (br (a_0.1 == 2) (ok ((a_0.1 == 2))) (br (a_0.1 == 3) (ok ((a_0.1 == 3))) (ok ((a_0.1 == 4)))))) fun x1=>br x1 (ok ((a_0.2 == 0))) (ok false)))
abbrev dv.g:Sg:=⟨[],[(true,(.frz aH))]⟩
def R.dv :Res (aH.den) :=
 given (dv.g.i ()) (ok ((2,0)))
abbrev da.g:Sg:=⟨[.val true (.frz aH)],[(true,(.frz aH))]⟩
def R.da (a_0:aH.den):Res (aH.den) :=
 given (da.g.i a_0) (bd (R.kW a_0) fun r1=>br (!r1) (bd (R.dv) fun r2=>given (dv.g.o r2) (ok r2)) (ok a_0))
abbrev i6.g:Sg:=⟨[.b],[(true,(.frz aH))]⟩
def R.i6 (neg_0:Bool):Res (aH.den) :=
 given (i6.g.i neg_0) (br neg_0 (ok ((4,0))) (ok ((3,0))))
abbrev cK.g:Sg:=⟨[.i],[(true,(.frz aH))]⟩
def R.cK (n_0:Int):Res (aH.den) :=
 given (cK.g.i n_0) (ok ((0,n_0)))
abbrev eh.g:Sg:=⟨[.b],[(true,(.frz aH))]⟩
def R.eh (neg_0:Bool):Res (aH.den) :=
 given (eh.g.i neg_0) (br neg_0 (ok ((1,0))) (bd (R.cK 0) fun r1=>given (cK.g.o r1) (ok r1)))
abbrev kZ.g:Sg:=⟨[.val true (.frz aH)],[(true,(.frz aH))]⟩
def R.kZ (a_0:aH.den):Res (aH.den) :=
 given (kZ.g.i a_0) (bd (R.da a_0) fun r1=>given (da.g.o r1) (br (r1.1 == 2) (ok r1) (bd (α:=Bool) (br (r1.1 == 3) (ok ((r1.1 == 3))) (ok ((r1.1 == 4)))) fun x2=>br x2 (bd (R.i6 (r1.1 == 3)) fun r3=>given (i6.g.o r3) (ok r3)) (br (r1.1 == 1) (bd (R.cK 0) fun r4=>given (cK.g.o r4) (ok r4)) (br (r1.2 == 0) (bd (R.eh true) fun r5=>given (eh.g.o r5) (ok r5)) (bd (R.cK (IntKind.wrap .i64 (0-r1.2))) fun r6=>given (cK.g.o r6) (ok r6)))))))
abbrev gK.g:Sg:=⟨[.val false (.bor (.own .h))],[(true,(.frz aH)),vb]⟩
def R.gK (u_0:(List Int)):Res ((aH.den×Bool)) :=
 given (gK.g.i u_0) (bd (loop (α:=(List Int)) (β:=(List Int)) (fun u1=>bd (α:=Bool) (br (ilt 0 (u1.length:Int)) (dC .h u1 0 fun e2=>bd (R.jT e2) fun r3=>ok r3) (ok false)) fun x4=>br x4 (ah (ile 0 1 && ile 1 u1.length) (ok (.next ((List.take (u1.length-(Int.toNat 1)) (List.drop (0+(Int.toNat 1)) u1)))))) (ok (.done (u1)))) fuel u_0) fun u5=>bd (loop (α:=(List Int)) (β:=(List Int)) (fun u6=>bd (α:=Bool) (br (ilt 0 (u6.length:Int)) (dC .h u6 (IntKind.wrap .i64 ((u6.length:Int)-1)) fun e7=>bd (R.jT e7) fun r8=>ok r8) (ok false)) fun x9=>br x9 (ah (ile 0 (IntKind.wrap .i64 ((u6.length:Int)-1)) && ile (IntKind.wrap .i64 ((u6.length:Int)-1)) u6.length) (ok (.next ((List.take (Int.toNat (IntKind.wrap .i64 ((u6.length:Int)-1))) (List.drop 0 u6)))))) (ok (.done (u6)))) fuel u5) fun u10=>br ((u10.length:Int) == 0) (ok (((0,0),true))) (dC .h u10 0 fun e11=>bd (α:=(List Int)) (bd (α:=Bool) (br (e11 == 45) (ok true) (dC .h u10 0 fun e12=>ok ((e12 == 43)))) fun x13=>br x13 (ah (ile 0 1 && ile 1 u10.length) (ok ((List.take (u10.length-(Int.toNat 1)) (List.drop (0+(Int.toNat 1)) u10))))) (ok u10)) fun d14=>bd (R.iG u10) fun r15=>bd (α:=((Bool×aH.den) ⊕ (Bool×aH.den))) (bd (R.ai [73,110,102,105,110,105,116,121]) fun r16=>given (ai.g.o r16) (bd (R.gf d14 r16) fun r17=>br r17 (ok (.inl ((!r15),(3,0)))) (bd (α:=Bool) (br (ilt 0 (d14.length:Int)) (bd (R.ak d14 ()) fun r18=>ok ((!r18))) (ok false)) fun x19=>br x19 (bd (R.jN d14) fun r20=>given (jN.g.o r20) (br (!r20.2) (ok (.inr (false,(2,0)))) (ok (.inl (true,(0,r20.1)))))) (ok (.inl ((!r15),(2,0))))))) fun ok21=>sum ok21 (fun ok22=>br (e11 == 45) (bd (R.kZ ok22.2) fun r24=>given (kZ.g.o r24) (ok ((r24,ok22.1)))) (ok ((ok22.2,ok22.1)))) (fun z23=>ok ((z23.2,z23.1)))))
abbrev eK.g:Sg:=⟨[.obj cO],[(true,(.frz cN)),vi]⟩
def R.eK (r_0:cO.den):Res ((cN.den×Int)×cO.den) :=
 given (eK.g.i r_0) (bd (R.cF r_0 ()) fun r1=>given (cF.g.o r1) (bd (α:=Bool) (idx (.int .u8) (lT r1.1) 0 fun e2=>br (e2 == 48) (ok ((!(r1.1 == [48])))) (ok false)) fun x3=>br x3 (ok ((((0,(([]:List UInt8),(([]:List Int),((0,0),((false,([]:List Int)),(0,false)))))),5),r1.2))) (bd (R.dK r1.2 [110]) fun r4=>br r4 (Res.stuck) (bd (R.eU r1.2 (r1.1 == [48])) fun r5=>br r5 (ok ((((0,(([]:List UInt8),(([]:List Int),((0,0),((false,([]:List Int)),(0,false)))))),6),r1.2))) (bd (R.cY r1.2 0 ()) fun r6=>br r6 (ok ((((0,(([]:List UInt8),(([]:List Int),((0,0),((false,([]:List Int)),(0,false)))))),5),r1.2))) (bd (R.ai r1.1) fun r7=>given (ai.g.o r7) (bd (R.gK r7) fun r8=>given (gK.g.o r8) (br (!r8.2) (ok ((((0,(([]:List UInt8),(([]:List Int),((0,0),((false,([]:List Int)),(0,false)))))),6),r1.2))) (ok ((((2,(([]:List UInt8),(([]:List Int),(r8.1,((false,([]:List Int)),(0,false)))))),0),r1.2)))))))))))
abbrev eF.g:Sg:=⟨[.obj cO],[(true,(.frz cN)),vi]⟩
def R.eF (r_0:cO.den):Res ((cN.den×Int)×cO.den) :=
 given (eF.g.i r_0) (idx (.int .u16) r_0.1 r_0.2 fun e1=>bd (loop (α:=(cO.den×cN.den)) (β:=(cO.den ⊕ (Int×(cO.den×cN.den)))) (fun x2=>bd (α:=Bool) (br (ilt x2.1.2 (x2.1.1.length:Int)) (idx (.int .u16) x2.1.1 x2.1.2 fun e3=>bd (R.lI e3) fun r4=>ok ((!r4))) (ok false)) fun x5=>br x5 (idx (.int .u16) x2.1.1 x2.1.2 fun e6=>br (e6 == e1) (ok (.done (.inr (0,((x2.1.1,IntKind.wrap .i64 (x2.1.2+1)),x2.2))))) (bd (α:=Unit) (br (e6 == 92) (Res.stuck) (ok (()))) fun x7=>ah (decide ((x2.2.2.2.1.length+[e6].length)*2<=2^47)) (ok (.next (((x2.1.1,IntKind.wrap .i64 (x2.1.2+1)),(x2.2.1,(x2.2.2.1,((x2.2.2.2.1++[e6]),x2.2.2.2.2))))))))) (ok (.done (.inl x2.1)))) fuel ((r_0.1,IntKind.wrap .i64 (r_0.2+1)),(4,(([]:List UInt8),(([]:List Int),((0,0),((false,([]:List Int)),(0,false)))))))) fun x8=>sum x8 (fun x9=>ok ((((0,(([]:List UInt8),(([]:List Int),((0,0),((false,([]:List Int)),(0,false)))))),5),x9))) (fun z10=>ok (((z10.2.2,z10.1),z10.2.1))))
abbrev eA.g:Sg:=⟨[.val false (.bor (.own .h))],[vs,vb]⟩
def R.eA (u_0:(List Int)):Res (((List UInt8)×Bool)) :=
 given (eA.g.i u_0) (bd (loop (α:=((List Int)×Int)) (β:=((List Int) ⊕ ((List UInt8)×Bool))) (fun b1=>br (ilt b1.2 (u_0.length:Int)) (dC .h u_0 b1.2 fun e2=>br (ilt 127 e2) (ok (.done (.inr (([]:List UInt8),false)))) (ah (decide ((b1.1.length+[IntKind.wrap .u8 e2].length)*1<=2^47)) (ok (.next (((b1.1++[IntKind.wrap .u8 e2]),IntKind.wrap .i64 (b1.2+1))))))) (ok (.done (.inl b1.1)))) fuel (([]:List Int),0)) fun b3=>sum b3 (fun b4=>ok ((rR b4,true))) (fun z5=>ok z5))
abbrev lH.g:Sg:=⟨[.s],[vi]⟩
def R.lH (s_0:(List UInt8)):Res (Int) :=
 given (lH.g.i s_0) (bd (α:=Bool) (br (s_0 == [123]) (ok ((s_0 == [123]))) (br (s_0 == [125]) (ok ((s_0 == [125]))) (br (s_0 == [40]) (ok ((s_0 == [40]))) (br (s_0 == [41]) (ok ((s_0 == [41]))) (br (s_0 == [91]) (ok ((s_0 == [91]))) (br (s_0 == [93]) (ok ((s_0 == [93]))) (br (s_0 == [59]) (ok ((s_0 == [59]))) (br (s_0 == [44]) (ok ((s_0 == [44]))) (br (s_0 == [46]) (ok ((s_0 == [46]))) (br (s_0 == [63]) (ok ((s_0 == [63]))) (br (s_0 == [58]) (ok ((s_0 == [58]))) (br (s_0 == [126]) (ok ((s_0 == [126]))) (br (s_0 == [60]) (ok ((s_0 == [60]))) (br (s_0 == [62]) (ok ((s_0 == [62]))) (br (s_0 == [60,61]) (ok ((s_0 == [60,61]))) (br (s_0 == [62,61]) (ok ((s_0 == [62,61]))) (br (s_0 == [61,61]) (ok ((s_0 == [61,61]))) (br (s_0 == [33,61]) (ok ((s_0 == [33,61]))) (br (s_0 == [61,61,61]) (ok ((s_0 == [61,61,61]))) (br (s_0 == [33,61,61]) (ok ((s_0 == [33,61,61]))) (br (s_0 == [43]) (ok ((s_0 == [43]))) (br (s_0 == [45]) (ok ((s_0 == [45]))) (br (s_0 == [42]) (ok ((s_0 == [42]))) (br (s_0 == [47]) (ok ((s_0 == [47]))) (br (s_0 == [37]) (ok ((s_0 == [37]))) (br (s_0 == [38]) (ok ((s_0 == [38]))) (br (s_0 == [124]) (ok ((s_0 == [124]))) (br (s_0 == [94]) (ok ((s_0 == [94]))) (br (s_0 == [33]) (ok ((s_0 == [33]))) (br (s_0 == [38,38]) (ok ((s_0 == [38,38]))) (br (s_0 == [124,124]) (ok ((s_0 == [124,124]))) (br (s_0 == [63,63]) (ok ((s_0 == [63,63]))) (br (s_0 == [61]) (ok ((s_0 == [61]))) (br (s_0 == [43,61]) (ok ((s_0 == [43,61]))) (br (s_0 == [45,61]) (ok ((s_0 == [45,61]))) (br (s_0 == [42,61]) (ok ((s_0 == [42,61]))) (br (s_0 == [47,61]) (ok ((s_0 == [47,61]))) (br (s_0 == [37,61]) (ok ((s_0 == [37,61]))) (br (s_0 == [38,61]) (ok ((s_0 == [38,61]))) (br (s_0 == [124,61]) (ok ((s_0 == [124,61]))) (br (s_0 == [94,61]) (ok ((s_0 == [94,61]))) (br (s_0 == [60,60,61]) (ok ((s_0 == [60,60,61]))) (br (s_0 == [62,62,61]) (ok ((s_0 == [62,62,61]))) (br (s_0 == [62,62,62,61]) (ok ((s_0 == [62,62,62,61]))) (br (s_0 == [43,43]) (ok ((s_0 == [43,43]))) (br (s_0 == [45,45]) (ok ((s_0 == [45,45]))) (br (s_0 == [60,60]) (ok ((s_0 == [60,60]))) (br (s_0 == [62,62]) (ok ((s_0 == [62,62]))) (br (s_0 == [62,62,62]) (ok ((s_0 == [62,62,62]))) (ok ((s_0 == [61,62])))))))))))))))))))))))))))))))))))))))))))))))))))) fun x1=>br x1 (ok 1) (bd (α:=Bool) (br (s_0 == [46,46,46]) (ok ((s_0 == [46,46,46]))) (br (s_0 == [63,46]) (ok ((s_0 == [63,46]))) (br (s_0 == [42,42]) (ok ((s_0 == [42,42]))) (br (s_0 == [42,42,61]) (ok ((s_0 == [42,42,61]))) (br (s_0 == [38,38,61]) (ok ((s_0 == [38,38,61]))) (br (s_0 == [124,124,61]) (ok ((s_0 == [124,124,61]))) (ok ((s_0 == [63,63,61]))))))))) fun x2=>br x2 (ok 2) (ok 0)))
abbrev fc.g:Sg:=⟨[.obj cO],[(true,(.frz cN)),vi]⟩
def R.fc (r_0:cO.den):Res ((cN.den×Int)×cO.den) :=
 given (fc.g.i r_0) (bd (loop (α:=Int) (β:=(Unit ⊕ (Int×(cO.den×cN.den)))) (fun n1=>br (ilt 0 n1) (ah (ile 0 r_0.2 && (ile r_0.2 (IntKind.wrap .i64 (r_0.2+n1)) && ile (IntKind.wrap .i64 (r_0.2+n1)) r_0.1.length)) (bd (R.eA (List.drop (Int.toNat r_0.2) (List.take (Int.toNat (IntKind.wrap .i64 (r_0.2+n1))) r_0.1))) fun r2=>given (eA.g.o r2) (bd (α:=Bool) (br (!r2.2) (ok true) (bd (R.lH r2.1) fun r3=>given (lH.g.o r3) (br (r3 == 0) (ok true) (br (r2.1 == [63,46]) (bd (R.bh r_0 2 ()) fun r4=>ok r4) (ok false))))) fun x5=>br x5 (ok (.next (IntKind.wrap .i64 (n1-1)))) (bd (R.lH r2.1) fun r6=>given (lH.g.o r6) (br (r6 == 2) (ok (.done (.inr (6,(r_0,(0,(([]:List UInt8),(([]:List Int),((0,0),((false,([]:List Int)),(0,false))))))))))) (ok (.done (.inr (0,((r_0.1,IntKind.wrap .i64 (r_0.2+n1)),(5,(r2.1,(([]:List Int),((0,0),((false,([]:List Int)),(0,false)))))))))))))))) (ok (.done (.inl ())))) fuel (lX 4 (IntKind.wrap .i64 ((r_0.1.length:Int)-r_0.2)))) fun x7=>sum x7 (fun x8=>idx (.int .u16) r_0.1 r_0.2 fun e10=>bd (α:=Bool) (br (ile 128 e10) (ok true) (br (e10 == 96) (ok true) (br (e10 == 92) (ok true) (br (r_0.2 == 0) (bd (R.dK r_0 [35,33]) fun r11=>ok r11) (ok false))))) fun x12=>br x12 (ok ((((0,(([]:List UInt8),(([]:List Int),((0,0),((false,([]:List Int)),(0,false)))))),6),r_0))) (ok ((((0,(([]:List UInt8),(([]:List Int),((0,0),((false,([]:List Int)),(0,false)))))),5),r_0)))) (fun z9=>ok (((z9.2.2,z9.1),z9.2.1))))
abbrev ez.g:Sg:=⟨[.obj cO],[(true,(.frz cN)),vi]⟩
def R.ez (r_0:cO.den):Res ((cN.den×Int)×cO.den) :=
 given (ez.g.i r_0) (idx (.int .u16) r_0.1 r_0.2 fun e1=>bd (R.gV e1) fun r2=>br r2 (bd (R.fZ r_0) fun r3=>given (fZ.g.o r3) (ok r3)) (bd (R.iO e1) fun r4=>br r4 (bd (R.eK r_0) fun r5=>given (eK.g.o r5) (ok r5)) (bd (α:=Bool) (br (e1 == 39) (ok true) (ok ((e1 == 34)))) fun x6=>br x6 (bd (R.eF r_0) fun r7=>given (eF.g.o r7) (ok r7)) (bd (α:=Bool) (br (e1 == 46) (bd (R.bh r_0 1 ()) fun r8=>ok r8) (ok false)) fun x9=>br x9 (ok ((((0,(([]:List UInt8),(([]:List Int),((0,0),((false,([]:List Int)),(0,false)))))),6),r_0))) (bd (R.fc r_0) fun r10=>given (fc.g.o r10) (ok r10))))))
abbrev kQ.g:Sg:=⟨[.val false (.frz (.list (.int .u16)))],[(false,(.own (.frz cN))),vi,vi]⟩
def R.kQ (u_0:(List Int)):Res (((List cN.den)×(Int×Int))) :=
 given (kQ.g.i u_0) (br (ilt 4096 (u_0.length:Int)) (ok ((([]:List cN.den),(0,3)))) (bd (loop (α:=((List cN.den)×kS.den)) (β:=((List cN.den)×(Int×Int))) (fun l1=>bd (R.fb l1.2) fun r2=>given (fb.g.o r2) (br (!(r2.1.2.2 == 0)) (ok (.done ((([]:List cN.den),r2.1.2)))) (br (r2.2.2 == (u_0.length:Int)) (ah (decide ((l1.1.length+[(0,(([]:List UInt8),(([]:List Int),((0,0),((false,([]:List Int)),(r2.2.2,r2.1.1))))))].length)*112<=2^47)) (ok (.done (((l1.1++[(0,(([]:List UInt8),(([]:List Int),((0,0),((false,([]:List Int)),(r2.2.2,r2.1.1))))))]),(0,0)))))) (bd (R.ez r2.2) fun r3=>given (ez.g.o r3) (br (!(r3.1.2 == 0)) (ok (.done ((([]:List cN.den),(r2.2.2,r3.1.2))))) (ah (decide ((l1.1.length+[(r3.1.1.1,(r3.1.1.2.1,(r3.1.1.2.2.1,(r3.1.1.2.2.2.1,(r3.1.1.2.2.2.2.1,(r2.2.2,r2.1.1))))))].length)*112<=2^47)) (ok (.next (((l1.1++[(r3.1.1.1,(r3.1.1.2.1,(r3.1.1.2.2.1,(r3.1.1.2.2.2.1,(r3.1.1.2.2.2.2.1,(r2.2.2,r2.1.1))))))]),r3.2)))))))))) fuel (([]:List cN.den),(u_0,0))) fun x4=>ok x4))
abbrev az.g:Sg:=⟨[.i,.val false (.own (.frz (.rose aE)))],[(true,o7)]⟩
def R.az (kind_0:Int) (of_1:(List (aS aE.den))):Res (o7.den) :=
 given (az.g.i (kind_0,of_1)) (ok (((kind_0,(([]:List UInt8),(([]:List Int),((0,0),((false,([]:List Int)),([]:List Int)))))),of_1)))
abbrev aR.g:Sg:=⟨[.val false (.bor aL)],[(true,(.frz cN))]⟩
def R.aR (p_0:mj.den):Res (cN.den) :=
 given (aR.g.i p_0) (idx cN p_0.1 p_0.2.1 fun e1=>ok e1)
abbrev gI.g:Sg:=⟨[.val true (.bor (.seq .i (.seq .s (.seq (.own .h) (.seq (.frz aH) (.seq (.seq .b (.own .w)) (.seq .i .b))))))),.s],[vb]⟩
def R.gI (t_0:cN.den) (s_1:(List UInt8)):Res (Bool) :=
 given (gI.g.i (t_0,s_1)) (br (t_0.2.1 == s_1) (br (t_0.1 == 5) (ok true) (ok ((t_0.1 == 6)))) (ok false))
abbrev bT.g:Sg:=⟨[.val false (.bor aL),.s],[vb]⟩
def R.bT (p_0:mj.den) (s_1:(List UInt8)):Res (Bool) :=
 given (bT.g.i (p_0,s_1)) (bd (R.aR p_0) fun r1=>given (aR.g.o r1) (bd (R.gI r1 s_1) fun r2=>ok r2))
abbrev aM.g:Sg:=⟨[.obj aL,.s],[vb]⟩
def R.aM (p_0:aL.den) (s_1:(List UInt8)):Res (Bool×aL.den) :=
 given (aM.g.i (p_0,s_1)) (bd (R.bT p_0 s_1) fun r1=>br (!r1) (ok ((false,p_0))) (ok ((true,(p_0.1,(IntKind.wrap .i64 (p_0.2.1+1),p_0.2.2))))))
abbrev cT.g:Sg:=⟨[.obj aL],[]⟩
def R.cT (p_0:aL.den):Res (Unit×aL.den) :=
 given (cT.g.i p_0) (bd (R.aR p_0) fun r1=>given (aR.g.o r1) (bd (α:=(Bool×aL.den)) (bd (R.aM p_0 [59]) fun r2=>given (aM.g.o r2) (br r2.1 (ok ((true,r2.2))) (bd (R.gI r1 [125]) fun r3=>br r3 (ok ((true,r2.2))) (br (r1.1 == 0) (ok ((true,r2.2))) (ok ((r1.2.2.2.2.2.2,r2.2))))))) fun x4=>br x4.1 (ok (((),x4.2))) (Res.stuck)))
abbrev bS.g:Sg:=⟨[.obj aL],[vs]⟩
def R.bS (p_0:aL.den):Res ((List UInt8)×aL.den) :=
 given (bS.g.i p_0) (bd (R.aR p_0) fun r1=>given (aR.g.o r1) (br (!(r1.1 == 1)) (Res.stuck) (ok ((r1.2.1,(p_0.1,(IntKind.wrap .i64 (p_0.2.1+1),p_0.2.2)))))))
abbrev af.g:Sg:=⟨[.obj aL,.s],[]⟩
def R.af (p_0:aL.den) (s_1:(List UInt8)):Res (Unit×aL.den) :=
 given (af.g.i (p_0,s_1)) (bd (R.aM p_0 s_1) fun r1=>given (aM.g.o r1) (br (!r1.1) (Res.stuck) (ok (((),r1.2)))))
abbrev bD.g:Sg:=⟨[.i,.s,.val false (.own (.frz (.rose aE)))],[(true,o7)]⟩
def R.bD (kind_0:Int) (name_1:(List UInt8)) (of_2:(List (aS aE.den))):Res (o7.den) :=
 given (bD.g.i (kind_0,(name_1,of_2))) (ok (((kind_0,(name_1,(([]:List Int),((0,0),((false,([]:List Int)),([]:List Int)))))),of_2)))
abbrev cB.g:Sg:=⟨[.val false (.bor aL)],[vb]⟩
def R.cB (p_0:mj.den):Res (Bool) :=
 given (cB.g.i p_0) (ok ((p_0.2.2.1 == 0)))
abbrev bC.g:Sg:=⟨[.val false (.bor aL),.i],[(true,(.frz cN))]⟩
def R.bC (p_0:mj.den) (k_1:Int):Res (cN.den) :=
 given (bC.g.i (p_0,k_1)) (idx cN p_0.1 (lX (IntKind.wrap .i64 (p_0.2.1+k_1)) (IntKind.wrap .i64 ((p_0.1.length:Int)-1))) fun e1=>ok e1)
abbrev eQ.g:Sg:=⟨[.val false (.bor aL)],[vb]⟩
def R.eQ (p_0:mj.den):Res (Bool) :=
 given (eQ.g.i p_0) (bd (R.bT p_0 [40]) fun r1=>br (!r1) (ok false) (bd (α:=(Int ⊕ Bool)) (bd (R.bC p_0 1) fun r2=>given (bC.g.o r2) (bd (R.gI r2 [41]) fun r3=>br (!r3) (bd (loop (α:=Int) (β:=(Int ⊕ Bool)) (fun k4=>bd (R.bC p_0 k4) fun r5=>given (bC.g.o r5) (br (!(r5.1 == 1)) (ok (.done (.inr false))) (bd (R.bC p_0 (IntKind.wrap .i64 (k4+1))) fun r6=>given (bC.g.o r6) (bd (R.gI r6 [44]) fun r7=>br (!r7) (ok (.done (.inl (IntKind.wrap .i64 (k4+1))))) (ok (.next (IntKind.wrap .i64 ((IntKind.wrap .i64 (k4+1))+1)))))))) fuel 1) fun k8=>sum k8 (fun k9=>ok (.inl k9)) (fun z10=>ok (.inr z10))) (ok (.inl 1)))) fun k11=>sum k11 (fun k12=>bd (R.bC p_0 k12) fun r14=>given (bC.g.o r14) (bd (R.gI r14 [41]) fun r15=>br r15 (bd (R.bC p_0 (IntKind.wrap .i64 (k12+1))) fun r16=>given (bC.g.o r16) (bd (R.gI r16 [61,62]) fun r17=>ok r17)) (ok false))) (fun z13=>ok z13)))
abbrev dL.g:Sg:=⟨[.obj aL],[(false,(.own (.frz (.rose aE))))]⟩
def R.dL (p_0:aL.den):Res ((List (aS aE.den))×aL.den) :=
 given (dL.g.i p_0) (bd (R.af p_0 [40]) fun r1=>given (af.g.o r1) (bd (R.aM r1.2 [41]) fun r2=>given (aM.g.o r2) (br r2.1 (ok ((([]:List (aS aE.den)),r2.2))) (bd (loop (α:=((List (aS aE.den))×aL.den)) (β:=((List (aS aE.den))×aL.den)) (fun l3=>bd (R.bS l3.2) fun r4=>given (bS.g.o r4) (bd (R.bD 20 r4.1 ([]:List (aS aE.den))) fun r5=>given (bD.g.o r5) (ah (decide ((l3.1.length+[(aS.mk r5.1 r5.2)].length)*144<=2^47)) (bd (α:=(Bool×aL.den)) (bd (R.cB r4.2) fun r6=>br (!r6) (ok ((true,r4.2))) (bd (R.aM r4.2 [41]) fun r7=>given (aM.g.o r7) (ok r7))) fun x8=>br x8.1 (ok (.done (((l3.1++[(aS.mk r5.1 r5.2)]),x8.2)))) (bd (R.af x8.2 [44]) fun r9=>given (af.g.o r9) (ok (.next (((l3.1++[(aS.mk r5.1 r5.2)]),r9.2))))))))) fuel (([]:List (aS aE.den)),r2.2)) fun x10=>ok x10))))
abbrev gS.g:Sg:=⟨[.i],[(false,(.own .s))]⟩
def R.gS (kind_0:Int):Res ((List (List UInt8))) :=
 given (gS.g.i kind_0) (br (kind_0 == 43) (ok ([[45],[43],[33],[126],[116,121,112,101,111,102],[118,111,105,100]])) (bd (α:=Bool) (br (kind_0 == 44) (ok ((kind_0 == 44))) (ok ((kind_0 == 45)))) fun x1=>br x1 (ok ([[43,43],[45,45]])) (br (kind_0 == 46) (ok ([[43],[45],[42],[47],[37],[38],[124],[94],[60,60],[62,62],[62,62,62],[60],[62],[60,61],[62,61],[61,61],[33,61],[61,61,61],[33,61,61],[105,110]])) (br (kind_0 == 47) (ok ([[38,38],[124,124],[63,63]])) (br (kind_0 == 49) (ok ([[61],[43,61],[45,61],[42,61],[47,61],[37,61],[38,61],[124,61],[94,61],[60,60,61],[62,62,61],[62,62,62,61]])) (ok (([]:List (List UInt8)))))))))
abbrev bQ.g:Sg:=⟨[.val false (.bor (.own .s)),.s],[vi]⟩
def R.bQ (s_0:(List (List UInt8))) (v_1:(List UInt8)):Res (Int) :=
 given (bQ.g.i (s_0,v_1)) (bd (loop (α:=Int) (β:=(Unit ⊕ Int)) (fun x1=>br (ilt x1 (s_0.length:Int)) (dC .s s_0 x1 fun e2=>br (v_1 == e2) (ok (.done (.inr x1))) (ok (.next (IntKind.wrap .i64 (x1+1))))) (ok (.done (.inl ())))) fuel 0) fun x3=>sum x3 (fun x4=>ok ((-1))) (fun z5=>ok z5))
abbrev aQ.g:Sg:=⟨[.val false (.bor (.own .s)),.s],[vb]⟩
def R.aQ (s_0:(List (List UInt8))) (v_1:(List UInt8)):Res (Bool) :=
 given (aQ.g.i (s_0,v_1)) (bd (R.bQ s_0 v_1) fun r1=>given (bQ.g.o r1) (ok ((ile 0 r1))))
abbrev lj.g:Sg:=⟨[.i,.s],[vb]⟩
def R.lj (kind_0:Int) (s_1:(List UInt8)):Res (Bool) :=
 given (lj.g.i (kind_0,s_1)) (bd (R.gS kind_0) fun r1=>given (gS.g.o r1) (bd (R.aQ r1 s_1) fun r2=>ok r2))
abbrev fl.g:Sg:=⟨[.i],[vb]⟩
def R.fl (kind_0:Int):Res (Bool) :=
 given (fl.g.i kind_0) (br (kind_0 == 33) (ok true) (br (kind_0 == 52) (ok true) (ok ((kind_0 == 53)))))
abbrev ja.g:Sg:=⟨[.val true (.bor (.seq .i (.seq .s (.seq (.own .h) (.seq (.frz aH) (.seq (.seq .b (.own .w)) (.seq .i .b)))))))],[vi]⟩
def R.ja (t_0:cN.den):Res (Int) :=
 given (ja.g.i t_0) (bd (α:=Bool) (br (!(t_0.1 == 5)) (bd (R.gI t_0 [105,110]) fun r1=>ok ((!r1))) (ok false)) fun x2=>br x2 (ok ((-1))) (br (t_0.2.1 == [124]) (ok 0) (br (t_0.2.1 == [94]) (ok 1) (br (t_0.2.1 == [38]) (ok 2) (bd (α:=Bool) (br (t_0.2.1 == [61,61]) (ok ((t_0.2.1 == [61,61]))) (br (t_0.2.1 == [33,61]) (ok ((t_0.2.1 == [33,61]))) (br (t_0.2.1 == [61,61,61]) (ok ((t_0.2.1 == [61,61,61]))) (ok ((t_0.2.1 == [33,61,61])))))) fun x3=>br x3 (ok 3) (bd (α:=Bool) (br (t_0.2.1 == [60]) (ok ((t_0.2.1 == [60]))) (br (t_0.2.1 == [62]) (ok ((t_0.2.1 == [62]))) (br (t_0.2.1 == [60,61]) (ok ((t_0.2.1 == [60,61]))) (br (t_0.2.1 == [62,61]) (ok ((t_0.2.1 == [62,61]))) (ok ((t_0.2.1 == [105,110]))))))) fun x4=>br x4 (ok 4) (bd (α:=Bool) (br (t_0.2.1 == [60,60]) (ok ((t_0.2.1 == [60,60]))) (br (t_0.2.1 == [62,62]) (ok ((t_0.2.1 == [62,62]))) (ok ((t_0.2.1 == [62,62,62]))))) fun x5=>br x5 (ok 5) (bd (α:=Bool) (br (t_0.2.1 == [43]) (ok ((t_0.2.1 == [43]))) (ok ((t_0.2.1 == [45])))) fun x6=>br x6 (ok 6) (bd (α:=Bool) (br (t_0.2.1 == [42]) (ok ((t_0.2.1 == [42]))) (br (t_0.2.1 == [47]) (ok ((t_0.2.1 == [47]))) (ok ((t_0.2.1 == [37]))))) fun x7=>br x7 (ok 7) (ok ((-1))))))))))))
end Go.Mach
end

set_option linter.unusedVariables false
set_option maxRecDepth 20000
noncomputable section
namespace Go.Mach
open Res
abbrev parse_parser_item.g:Sg:=⟨[.obj aL],[(true,(.frz (.rose aE)))]⟩
abbrev parse_parser_declares.g:Sg:=⟨[.obj aL],[(true,(.frz (.rose aE)))]⟩
abbrev parse_parser_statement.g:Sg:=⟨[.obj aL],[(true,(.frz (.rose aE)))]⟩
abbrev parse_parser_assign.g:Sg:=⟨[.obj aL],[(true,(.frz (.rose aE)))]⟩
abbrev parse_parser_word.g:Sg:=⟨[.obj aL,.s],[(true,(.frz (.rose aE)))]⟩
abbrev parse_parser_simple.g:Sg:=⟨[.obj aL],[(true,(.frz (.rose aE)))]⟩
abbrev parse_parser_body.g:Sg:=⟨[.obj aL,.val false (.own (.frz (.rose aE)))],[(true,(.frz (.rose aE)))]⟩
abbrev parse_parser_cond.g:Sg:=⟨[.obj aL],[(true,(.frz (.rose aE)))]⟩
abbrev parse_parser_either.g:Sg:=⟨[.obj aL],[(true,(.frz (.rose aE)))]⟩
abbrev parse_parser_level.g:Sg:=⟨[.obj aL,.i],[(true,(.frz (.rose aE)))]⟩
abbrev parse_parser_both.g:Sg:=⟨[.obj aL,.val true (.frz (.rose aE))],[(true,(.frz (.rose aE)))]⟩
abbrev parse_parser_unary.g:Sg:=⟨[.obj aL],[(true,(.frz (.rose aE)))]⟩
abbrev parse_parser_calls.g:Sg:=⟨[.obj aL],[(true,(.frz (.rose aE)))]⟩
abbrev parse_parser_head.g:Sg:=⟨[.obj aL],[(true,(.frz (.rose aE)))]⟩
abbrev parse_parser_arguments.g:Sg:=⟨[.obj aL],[(false,(.own (.frz (.rose aE))))]⟩
abbrev parse_parser_member.g:Sg:=⟨[.obj aL,.val true (.frz (.rose aE))],[(true,(.frz (.rose aE))),vb]⟩
abbrev parse_parser_primary.g:Sg:=⟨[.obj aL],[(true,(.frz (.rose aE)))]⟩
abbrev parse_parser_list.g:Sg:=⟨[.obj aL,.s],[(false,(.own (.frz (.rose aE))))]⟩
structure bu where
 parse_parser_item:aL.den->Res ((aS aE.den)×aL.den)
 parse_parser_declares:aL.den->Res ((aS aE.den)×aL.den)
 parse_parser_statement:aL.den->Res ((aS aE.den)×aL.den)
 parse_parser_assign:aL.den->Res ((aS aE.den)×aL.den)
 parse_parser_word:aL.den->(List UInt8)->Res ((aS aE.den)×aL.den)
 parse_parser_simple:aL.den->Res ((aS aE.den)×aL.den)
 parse_parser_body:aL.den->(List (aS aE.den))->Res ((aS aE.den)×aL.den)
 parse_parser_cond:aL.den->Res ((aS aE.den)×aL.den)
 parse_parser_either:aL.den->Res ((aS aE.den)×aL.den)
 parse_parser_level:aL.den->Int->Res ((aS aE.den)×aL.den)
 parse_parser_both:aL.den->(aS aE.den)->Res ((aS aE.den)×aL.den)
 parse_parser_unary:aL.den->Res ((aS aE.den)×aL.den)
 parse_parser_calls:aL.den->Res ((aS aE.den)×aL.den)
 parse_parser_head:aL.den->Res ((aS aE.den)×aL.den)
 parse_parser_arguments:aL.den->Res ((List (aS aE.den))×aL.den)
 parse_parser_member:aL.den->(aS aE.den)->Res (((aS aE.den)×Bool)×aL.den)
 parse_parser_primary:aL.den->Res ((aS aE.den)×aL.den)
 parse_parser_list:aL.den->(List UInt8)->Res ((List (aS aE.den))×aL.den)
def R.parse_parser_item (G:bu) (p_0:aL.den):Res ((aS aE.den)×aL.den) :=
 given (parse_parser_item.g.i p_0) (bd (R.aR p_0) fun r1=>given (aR.g.o r1) (bd (α:=Bool) (bd (R.gI r1 [108,101,116]) fun r2=>br r2 (ok true) (bd (R.gI r1 [99,111,110,115,116]) fun r3=>ok r3)) fun x4=>br x4 (bd (G.parse_parser_declares p_0) fun r5=>given (parse_parser_declares.g.o r5) (bd (R.cT r5.2) fun r6=>given (cT.g.o r6) (ok (((aS.mk (aS.lab r5.1) (aS.kids r5.1)),r6.2))))) (bd (R.aM p_0 [102,117,110,99,116,105,111,110]) fun r7=>given (aM.g.o r7) (br r7.1 (bd (R.bS r7.2) fun r8=>given (bS.g.o r8) (Res.stuck)) (bd (G.parse_parser_statement r7.2) fun r9=>given (parse_parser_statement.g.o r9) (ok (((aS.mk (aS.lab r9.1) (aS.kids r9.1)),r9.2))))))))
def R.parse_parser_declares (G:bu) (p_0:aL.den):Res ((aS aE.den)×aL.den) :=
 given (parse_parser_declares.g.i p_0) (bd (R.az 5 ([]:List (aS aE.den))) fun r1=>given (az.g.o r1) (bd (α:=(aL.den×(aE.den×(List (aS aE.den))))) (bd (R.aM p_0 [99,111,110,115,116]) fun r2=>given (aM.g.o r2) (br r2.1 (bd (R.az 6 ([]:List (aS aE.den))) fun r3=>given (az.g.o r3) (ok ((r2.2,r3)))) (bd (R.af r2.2 [108,101,116]) fun r4=>given (af.g.o r4) (ok ((r4.2,r1)))))) fun x5=>bd (loop (α:=(aL.den×(aE.den×(List (aS aE.den))))) (β:=(aL.den×(aE.den×(List (aS aE.den))))) (fun x6=>bd (R.bS x6.1) fun r7=>given (bS.g.o r7) (bd (R.bD 7 r7.1 ([]:List (aS aE.den))) fun r8=>given (bD.g.o r8) (bd (α:=(aL.den×(aE.den×(List (aS aE.den))))) (bd (R.aM r7.2 [61]) fun r9=>given (aM.g.o r9) (br r9.1 (bd (G.parse_parser_assign r9.2) fun r10=>given (parse_parser_assign.g.o r10) (ah (decide ((r8.2.length+[(aS.mk (aS.lab r10.1) (aS.kids r10.1))].length)*144<=2^47)) (ok ((r10.2,(r8.1,(r8.2++[(aS.mk (aS.lab r10.1) (aS.kids r10.1))]))))))) (ok ((r9.2,r8))))) fun x11=>ah (decide ((x6.2.2.length+[(aS.mk x11.2.1 x11.2.2)].length)*144<=2^47)) (bd (α:=(Bool×aL.den)) (bd (R.cB x11.1) fun r12=>br (!r12) (ok ((true,x11.1))) (bd (R.aM x11.1 [44]) fun r13=>given (aM.g.o r13) (ok (((!r13.1),r13.2))))) fun x14=>br x14.1 (ok (.done ((x14.2,(x6.2.1,(x6.2.2++[(aS.mk x11.2.1 x11.2.2)])))))) (ok (.next ((x14.2,(x6.2.1,(x6.2.2++[(aS.mk x11.2.1 x11.2.2)])))))))))) fuel x5) fun x15=>ok (((aS.mk x15.2.1 x15.2.2),x15.1))))
def R.parse_parser_statement (G:bu) (p_0:aL.den):Res ((aS aE.den)×aL.den) :=
 given (parse_parser_statement.g.i p_0) (bd (R.aR p_0) fun r1=>given (aR.g.o r1) (bd (α:=Bool) (br (r1.1 == 1) (bd (R.bC p_0 1) fun r2=>given (bC.g.o r2) (bd (R.gI r2 [58]) fun r3=>ok r3)) (ok false)) fun x4=>br x4 (bd (G.parse_parser_statement (p_0.1,(IntKind.wrap .i64 (p_0.2.1+2),p_0.2.2))) fun r5=>given (parse_parser_statement.g.o r5) (bd (R.bD 18 r1.2.1 [(aS.mk (aS.lab r5.1) (aS.kids r5.1))]) fun r6=>given (bD.g.o r6) (ok (((aS.mk r6.1 r6.2),r5.2))))) (br (r1.1 == 6) (bd (G.parse_parser_word p_0 r1.2.1) fun r7=>given (parse_parser_word.g.o r7) (ok (((aS.mk (aS.lab r7.1) (aS.kids r7.1)),r7.2)))) (bd (R.aM p_0 [59]) fun r8=>given (aM.g.o r8) (br r8.1 (bd (R.az 2 ([]:List (aS aE.den))) fun r9=>given (az.g.o r9) (ok (((aS.mk r9.1 r9.2),r8.2)))) (bd (R.bT r8.2 [123]) fun r10=>br r10 (Res.stuck) (bd (G.parse_parser_simple r8.2) fun r11=>given (parse_parser_simple.g.o r11) (ok (((aS.mk (aS.lab r11.1) (aS.kids r11.1)),r11.2))))))))))
def R.parse_parser_assign (G:bu) (p_0:aL.den):Res ((aS aE.den)×aL.den) :=
 given (parse_parser_assign.g.i p_0) (bd (R.aR p_0) fun r1=>given (aR.g.o r1) (bd (α:=Bool) (br (r1.1 == 1) (bd (R.bC p_0 1) fun r2=>given (bC.g.o r2) (bd (R.gI r2 [61,62]) fun r3=>br r3 (bd (R.bC p_0 1) fun r4=>given (bC.g.o r4) (ok ((!r4.2.2.2.2.2.2)))) (ok false))) (ok false)) fun x5=>br x5 (bd (R.bD 20 r1.2.1 ([]:List (aS aE.den))) fun r6=>given (bD.g.o r6) (bd (G.parse_parser_body (p_0.1,(IntKind.wrap .i64 (p_0.2.1+1),p_0.2.2)) [(aS.mk r6.1 r6.2)]) fun r7=>given (parse_parser_body.g.o r7) (ok (((aS.mk (aS.lab r7.1) (aS.kids r7.1)),r7.2))))) (bd (R.eQ p_0) fun r8=>br r8 (bd (R.dL p_0) fun r9=>given (dL.g.o r9) (bd (G.parse_parser_body r9.2 r9.1) fun r10=>given (parse_parser_body.g.o r10) (ok (((aS.mk (aS.lab r10.1) (aS.kids r10.1)),r10.2))))) (bd (G.parse_parser_cond p_0) fun r11=>given (parse_parser_cond.g.o r11) (bd (R.aR r11.2) fun r12=>given (aR.g.o r12) (bd (α:=Bool) (br (!(r12.1 == 5)) (ok true) (bd (R.lj 49 r12.2.1) fun r13=>ok ((!r13)))) fun x14=>br x14 (ok (((aS.mk (aS.lab r11.1) (aS.kids r11.1)),r11.2))) (bd (R.fl (aS.lab r11.1).1) fun r15=>br (!r15) (Res.stuck) (bd (G.parse_parser_assign (r11.2.1,(IntKind.wrap .i64 (r11.2.2.1+1),r11.2.2.2))) fun r16=>given (parse_parser_assign.g.o r16) (bd (R.bD 49 r12.2.1 [(aS.mk (aS.lab r11.1) (aS.kids r11.1)),(aS.mk (aS.lab r16.1) (aS.kids r16.1))]) fun r17=>given (bD.g.o r17) (ok (((aS.mk r17.1 r17.2),r16.2))))))))))))
def R.parse_parser_word (G:bu) (p_0:aL.den) (s_1:(List UInt8)):Res ((aS aE.den)×aL.den) :=
 given (parse_parser_word.g.i (p_0,s_1)) (br (s_1 == [105,102]) (Res.stuck) (br (s_1 == [119,104,105,108,101]) (Res.stuck) (br (s_1 == [102,111,114]) (Res.stuck) (br (s_1 == [98,114,101,97,107]) (Res.stuck) (br (s_1 == [99,111,110,116,105,110,117,101]) (Res.stuck) (br (s_1 == [114,101,116,117,114,110]) (bd (R.az 14 ([]:List (aS aE.den))) fun r1=>given (az.g.o r1) (Res.stuck)) (br (s_1 == [116,104,114,111,119]) (bd (α:=Unit) (bd (R.aR (p_0.1,(IntKind.wrap .i64 (p_0.2.1+1),p_0.2.2))) fun r2=>given (aR.g.o r2) (br r2.2.2.2.2.2.2 (Res.stuck) (ok (())))) fun x3=>bd (G.parse_parser_assign (p_0.1,(IntKind.wrap .i64 (p_0.2.1+1),p_0.2.2))) fun r4=>given (parse_parser_assign.g.o r4) (bd (R.az 15 [(aS.mk (aS.lab r4.1) (aS.kids r4.1))]) fun r5=>given (az.g.o r5) (bd (R.cT r4.2) fun r6=>given (cT.g.o r6) (ok (((aS.mk r5.1 r5.2),r6.2)))))) (br (s_1 == [116,114,121]) (Res.stuck) (bd (α:=Bool) (br (s_1 == [102,117,110,99,116,105,111,110]) (ok ((s_1 == [102,117,110,99,116,105,111,110]))) (br (s_1 == [108,101,116]) (ok ((s_1 == [108,101,116]))) (ok ((s_1 == [99,111,110,115,116]))))) fun x7=>br x7 (Res.stuck) (bd (G.parse_parser_simple p_0) fun r8=>given (parse_parser_simple.g.o r8) (ok (((aS.mk (aS.lab r8.1) (aS.kids r8.1)),r8.2)))))))))))))
def R.parse_parser_simple (G:bu) (p_0:aL.den):Res ((aS aE.den)×aL.den) :=
 given (parse_parser_simple.g.i p_0) (bd (G.parse_parser_assign p_0) fun r1=>given (parse_parser_assign.g.o r1) (bd (R.az 3 [(aS.mk (aS.lab r1.1) (aS.kids r1.1))]) fun r2=>given (az.g.o r2) (bd (R.cT r1.2) fun r3=>given (cT.g.o r3) (ok (((aS.mk r2.1 r2.2),r3.2))))))
def R.parse_parser_body (G:bu) (p_0:aL.den) (l_1:(List (aS aE.den))):Res ((aS aE.den)×aL.den) :=
 given (parse_parser_body.g.i (p_0,l_1)) (bd (α:=Unit) (bd (R.aR p_0) fun r1=>given (aR.g.o r1) (br r1.2.2.2.2.2.2 (Res.stuck) (ok (())))) fun x2=>bd (R.af p_0 [61,62]) fun r3=>given (af.g.o r3) (bd (R.az 42 l_1) fun r4=>given (az.g.o r4) (bd (R.bT r3.2 [123]) fun r5=>br r5 (Res.stuck) (bd (G.parse_parser_assign r3.2) fun r6=>given (parse_parser_assign.g.o r6) (ah (decide ((r4.2.length+[(aS.mk (aS.lab r6.1) (aS.kids r6.1))].length)*144<=2^47)) (ok (((aS.mk r4.1 (r4.2++[(aS.mk (aS.lab r6.1) (aS.kids r6.1))])),r6.2))))))))
def R.parse_parser_cond (G:bu) (p_0:aL.den):Res ((aS aE.den)×aL.den) :=
 given (parse_parser_cond.g.i p_0) (bd (G.parse_parser_either p_0) fun r1=>given (parse_parser_either.g.o r1) (bd (R.aM r1.2 [63]) fun r2=>given (aM.g.o r2) (br (!r2.1) (ok (((aS.mk (aS.lab r1.1) (aS.kids r1.1)),r2.2))) (bd (G.parse_parser_assign r2.2) fun r3=>given (parse_parser_assign.g.o r3) (bd (R.af r3.2 [58]) fun r4=>given (af.g.o r4) (bd (G.parse_parser_assign r4.2) fun r5=>given (parse_parser_assign.g.o r5) (bd (R.az 48 [(aS.mk (aS.lab r1.1) (aS.kids r1.1)),(aS.mk (aS.lab r3.1) (aS.kids r3.1)),(aS.mk (aS.lab r5.1) (aS.kids r5.1))]) fun r6=>given (az.g.o r6) (ok (((aS.mk r6.1 r6.2),r5.2))))))))))
def R.parse_parser_either (G:bu) (p_0:aL.den):Res ((aS aE.den)×aL.den) :=
 given (parse_parser_either.g.i p_0) (bd (G.parse_parser_level p_0 0) fun r1=>given (parse_parser_level.g.o r1) (bd (R.bT r1.2 [63,63]) fun r2=>br r2 (bd (loop (α:=(aL.den×(aS aE.den))) (β:=(aL.den×(aS aE.den))) (fun x3=>bd (R.aM x3.1 [63,63]) fun r4=>given (aM.g.o r4) (br r4.1 (bd (G.parse_parser_level r4.2 0) fun r5=>given (parse_parser_level.g.o r5) (bd (R.bD 47 [63,63] [(aS.mk (aS.lab x3.2) (aS.kids x3.2)),(aS.mk (aS.lab r5.1) (aS.kids r5.1))]) fun r6=>given (bD.g.o r6) (ok (.next ((r5.2,(aS.mk r6.1 r6.2))))))) (ok (.done ((r4.2,(aS.mk (aS.lab x3.2) (aS.kids x3.2)))))))) fuel (r1.2,(aS.mk (aS.lab r1.1) (aS.kids r1.1)))) fun x7=>bd (α:=Unit) (bd (α:=Bool) (bd (R.bT x7.1 [124,124]) fun r8=>br r8 (ok true) (bd (R.bT x7.1 [38,38]) fun r9=>ok r9)) fun x10=>br x10 (Res.stuck) (ok (()))) fun x11=>ok (((aS.mk (aS.lab x7.2) (aS.kids x7.2)),x7.1))) (bd (G.parse_parser_both r1.2 (aS.mk (aS.lab r1.1) (aS.kids r1.1))) fun r12=>given (parse_parser_both.g.o r12) (bd (loop (α:=(aL.den×(aS aE.den))) (β:=(aL.den×(aS aE.den))) (fun x13=>bd (R.aM x13.1 [124,124]) fun r14=>given (aM.g.o r14) (br r14.1 (bd (G.parse_parser_level r14.2 0) fun r15=>given (parse_parser_level.g.o r15) (bd (G.parse_parser_both r15.2 (aS.mk (aS.lab r15.1) (aS.kids r15.1))) fun r16=>given (parse_parser_both.g.o r16) (bd (R.bD 47 [124,124] [(aS.mk (aS.lab x13.2) (aS.kids x13.2)),(aS.mk (aS.lab r16.1) (aS.kids r16.1))]) fun r17=>given (bD.g.o r17) (ok (.next ((r16.2,(aS.mk r17.1 r17.2)))))))) (ok (.done ((r14.2,(aS.mk (aS.lab x13.2) (aS.kids x13.2)))))))) fuel (r12.2,(aS.mk (aS.lab r12.1) (aS.kids r12.1)))) fun x18=>bd (R.bT x18.1 [63,63]) fun r19=>br r19 (Res.stuck) (ok (((aS.mk (aS.lab x18.2) (aS.kids x18.2)),x18.1)))))))
def R.parse_parser_level (G:bu) (p_0:aL.den) (n_1:Int):Res ((aS aE.den)×aL.den) :=
 given (parse_parser_level.g.i (p_0,n_1)) (br (n_1 == 8) (bd (G.parse_parser_unary p_0) fun r1=>given (parse_parser_unary.g.o r1) (ok (((aS.mk (aS.lab r1.1) (aS.kids r1.1)),r1.2)))) (bd (G.parse_parser_level p_0 (IntKind.wrap .i64 (n_1+1))) fun r2=>given (parse_parser_level.g.o r2) (bd (loop (α:=(aL.den×(aS aE.den))) (β:=(aL.den×(aS aE.den))) (fun x3=>bd (R.aR x3.1) fun r4=>given (aR.g.o r4) (bd (R.ja r4) fun r5=>given (ja.g.o r5) (br (r5 == n_1) (bd (R.aR x3.1) fun r6=>given (aR.g.o r6) (bd (G.parse_parser_level (x3.1.1,(IntKind.wrap .i64 (x3.1.2.1+1),x3.1.2.2)) (IntKind.wrap .i64 (n_1+1))) fun r7=>given (parse_parser_level.g.o r7) (bd (R.bD 46 r6.2.1 [(aS.mk (aS.lab x3.2) (aS.kids x3.2)),(aS.mk (aS.lab r7.1) (aS.kids r7.1))]) fun r8=>given (bD.g.o r8) (ok (.next ((r7.2,(aS.mk r8.1 r8.2)))))))) (ok (.done ((x3.1,(aS.mk (aS.lab x3.2) (aS.kids x3.2))))))))) fuel (r2.2,(aS.mk (aS.lab r2.1) (aS.kids r2.1)))) fun x9=>ok (((aS.mk (aS.lab x9.2) (aS.kids x9.2)),x9.1)))))
def R.parse_parser_both (G:bu) (p_0:aL.den) (x_1:(aS aE.den)):Res ((aS aE.den)×aL.den) :=
 given (parse_parser_both.g.i (p_0,x_1)) (bd (loop (α:=(aL.den×(aS aE.den))) (β:=(aL.den×(aS aE.den))) (fun x1=>bd (R.aM x1.1 [38,38]) fun r2=>given (aM.g.o r2) (br r2.1 (bd (G.parse_parser_level r2.2 0) fun r3=>given (parse_parser_level.g.o r3) (bd (R.bD 47 [38,38] [(aS.mk (aS.lab x1.2) (aS.kids x1.2)),(aS.mk (aS.lab r3.1) (aS.kids r3.1))]) fun r4=>given (bD.g.o r4) (ok (.next ((r3.2,(aS.mk r4.1 r4.2))))))) (ok (.done ((r2.2,(aS.mk (aS.lab x1.2) (aS.kids x1.2)))))))) fuel (p_0,(aS.mk (aS.lab x_1) (aS.kids x_1)))) fun x5=>ok (((aS.mk (aS.lab x5.2) (aS.kids x5.2)),x5.1)))
def R.parse_parser_unary (G:bu) (p_0:aL.den):Res ((aS aE.den)×aL.den) :=
 given (parse_parser_unary.g.i p_0) (bd (R.aR p_0) fun r1=>given (aR.g.o r1) (bd (α:=(Unit ⊕ (aL.den×(aE.den×(List (aS aE.den)))))) (bd (α:=Bool) (br (r1.1 == 5) (ok true) (ok ((r1.1 == 6)))) fun x2=>br x2 (bd (R.lj 43 r1.2.1) fun r3=>br r3 (bd (G.parse_parser_unary (p_0.1,(IntKind.wrap .i64 (p_0.2.1+1),p_0.2.2))) fun r4=>given (parse_parser_unary.g.o r4) (bd (R.bD 43 r1.2.1 [(aS.mk (aS.lab r4.1) (aS.kids r4.1))]) fun r5=>given (bD.g.o r5) (ok (.inr (r4.2,r5))))) (bd (R.lj 44 r1.2.1) fun r6=>br r6 (bd (G.parse_parser_unary (p_0.1,(IntKind.wrap .i64 (p_0.2.1+1),p_0.2.2))) fun r7=>given (parse_parser_unary.g.o r7) (bd (α:=Unit) (bd (α:=Bool) (bd (R.cB r7.2) fun r8=>br r8 (bd (R.fl (aS.lab r7.1).1) fun r9=>ok ((!r9))) (ok false)) fun x10=>br x10 (Res.stuck) (ok (()))) fun x11=>bd (R.bD 44 r1.2.1 [(aS.mk (aS.lab r7.1) (aS.kids r7.1))]) fun r12=>given (bD.g.o r12) (ok (.inr (r7.2,r12))))) (ok (.inl ())))) (ok (.inl ()))) fun x13=>sum x13 (fun x14=>bd (G.parse_parser_calls p_0) fun r16=>given (parse_parser_calls.g.o r16) (bd (R.aR r16.2) fun r17=>given (aR.g.o r17) (bd (α:=Bool) (br (r17.1 == 5) (bd (R.lj 45 r17.2.1) fun r18=>br r18 (ok ((!r17.2.2.2.2.2.2))) (ok false)) (ok false)) fun x19=>br x19 (bd (R.fl (aS.lab r16.1).1) fun r20=>br (!r20) (Res.stuck) (bd (R.bD 45 r17.2.1 [(aS.mk (aS.lab r16.1) (aS.kids r16.1))]) fun r21=>given (bD.g.o r21) (ok (((aS.mk r21.1 r21.2),(r16.2.1,(IntKind.wrap .i64 (r16.2.2.1+1),r16.2.2.2))))))) (ok (((aS.mk (aS.lab r16.1) (aS.kids r16.1)),r16.2)))))) (fun z15=>ok (((aS.mk z15.2.1 z15.2.2),z15.1)))))
def R.parse_parser_calls (G:bu) (p_0:aL.den):Res ((aS aE.den)×aL.den) :=
 given (parse_parser_calls.g.i p_0) (bd (G.parse_parser_head p_0) fun r1=>given (parse_parser_head.g.o r1) (bd (loop (α:=(aL.den×(aS aE.den))) (β:=(aL.den×(aS aE.den))) (fun x2=>bd (R.bT x2.1 [40]) fun r3=>br r3 (bd (G.parse_parser_arguments x2.1) fun r4=>given (parse_parser_arguments.g.o r4) (ah (decide (([(aS.mk (aS.lab x2.2) (aS.kids x2.2))].length+r4.1.length)*144<=2^47)) (bd (R.az 50 ([(aS.mk (aS.lab x2.2) (aS.kids x2.2))]++r4.1)) fun r5=>given (az.g.o r5) (ok (.next ((r4.2,(aS.mk r5.1 r5.2)))))))) (bd (G.parse_parser_member x2.1 (aS.mk (aS.lab x2.2) (aS.kids x2.2))) fun r6=>given (parse_parser_member.g.o r6) (br (!r6.1.2) (ok (.done ((r6.2,(aS.mk (aS.lab x2.2) (aS.kids x2.2)))))) (ok (.next ((r6.2,(aS.mk (aS.lab r6.1.1) (aS.kids r6.1.1))))))))) fuel (r1.2,(aS.mk (aS.lab r1.1) (aS.kids r1.1)))) fun x7=>ok (((aS.mk (aS.lab x7.2) (aS.kids x7.2)),x7.1))))
def R.parse_parser_head (G:bu) (p_0:aL.den):Res ((aS aE.den)×aL.den) :=
 given (parse_parser_head.g.i p_0) (bd (R.aM p_0 [110,101,119]) fun r1=>given (aM.g.o r1) (br (!r1.1) (bd (G.parse_parser_primary r1.2) fun r2=>given (parse_parser_primary.g.o r2) (ok (((aS.mk (aS.lab r2.1) (aS.kids r2.1)),r2.2)))) (bd (G.parse_parser_head r1.2) fun r3=>given (parse_parser_head.g.o r3) (bd (loop (α:=(Bool×(aL.den×(aS aE.den)))) (β:=(aL.den×(aS aE.den))) (fun more4=>br more4.1 (bd (G.parse_parser_member more4.2.1 (aS.mk (aS.lab more4.2.2) (aS.kids more4.2.2))) fun r5=>given (parse_parser_member.g.o r5) (ok (.next ((r5.1.2,(r5.2,(aS.mk (aS.lab r5.1.1) (aS.kids r5.1.1)))))))) (ok (.done ((more4.2.1,(aS.mk (aS.lab more4.2.2) (aS.kids more4.2.2))))))) fuel (true,(r3.2,(aS.mk (aS.lab r3.1) (aS.kids r3.1))))) fun x6=>bd (R.bT x6.1 [40]) fun r7=>br r7 (bd (G.parse_parser_arguments x6.1) fun r8=>given (parse_parser_arguments.g.o r8) (ah (decide (([(aS.mk (aS.lab x6.2) (aS.kids x6.2))].length+r8.1.length)*144<=2^47)) (bd (R.az 51 ([(aS.mk (aS.lab x6.2) (aS.kids x6.2))]++r8.1)) fun r9=>given (az.g.o r9) (ok (((aS.mk r9.1 r9.2),r8.2)))))) (bd (R.az 51 [(aS.mk (aS.lab x6.2) (aS.kids x6.2))]) fun r10=>given (az.g.o r10) (ok (((aS.mk r10.1 r10.2),x6.1))))))))
def R.parse_parser_arguments (G:bu) (p_0:aL.den):Res ((List (aS aE.den))×aL.den) :=
 given (parse_parser_arguments.g.i p_0) (bd (R.af p_0 [40]) fun r1=>given (af.g.o r1) (bd (G.parse_parser_list r1.2 [41]) fun r2=>given (parse_parser_list.g.o r2) (ok r2)))
def R.parse_parser_member (G:bu) (p_0:aL.den) (x_1:(aS aE.den)):Res (((aS aE.den)×Bool)×aL.den) :=
 given (parse_parser_member.g.i (p_0,x_1)) (bd (R.aM p_0 [46]) fun r1=>given (aM.g.o r1) (br r1.1 (bd (R.aR r1.2) fun r2=>given (aR.g.o r2) (bd (α:=Bool) (br (!(r2.1 == 1)) (ok ((!(r2.1 == 6)))) (ok false)) fun x3=>br x3 (Res.stuck) (bd (R.bD 52 r2.2.1 [(aS.mk (aS.lab x_1) (aS.kids x_1))]) fun r4=>given (bD.g.o r4) (ok ((((aS.mk r4.1 r4.2),true),(r1.2.1,(IntKind.wrap .i64 (r1.2.2.1+1),r1.2.2.2)))))))) (bd (R.aM r1.2 [91]) fun r5=>given (aM.g.o r5) (br r5.1 (bd (G.parse_parser_assign r5.2) fun r6=>given (parse_parser_assign.g.o r6) (bd (R.az 53 [(aS.mk (aS.lab x_1) (aS.kids x_1)),(aS.mk (aS.lab r6.1) (aS.kids r6.1))]) fun r7=>given (az.g.o r7) (bd (R.af r6.2 [93]) fun r8=>given (af.g.o r8) (ok ((((aS.mk r7.1 r7.2),true),r8.2)))))) (ok ((((aS.mk (aS.lab x_1) (aS.kids x_1)),false),r5.2)))))))
def R.parse_parser_primary (G:bu) (p_0:aL.den):Res ((aS aE.den)×aL.den) :=
 given (parse_parser_primary.g.i p_0) (bd (R.aR p_0) fun r1=>given (aR.g.o r1) (br (r1.1 == 0) (Res.stuck) (br (r1.1 == 2) (ok (((aS.mk (30,(([]:List UInt8),(([]:List Int),(r1.2.2.2.1,((false,([]:List Int)),([]:List Int)))))) ([]:List (aS aE.den))),(p_0.1,(IntKind.wrap .i64 (p_0.2.1+1),p_0.2.2))))) (br (r1.1 == 3) (ok (((aS.mk (31,(([]:List UInt8),(([]:List Int),((0,0),(r1.2.2.2.2.1,([]:List Int)))))) ([]:List (aS aE.den))),(p_0.1,(IntKind.wrap .i64 (p_0.2.1+1),p_0.2.2))))) (br (r1.1 == 4) (ok (((aS.mk (32,(([]:List UInt8),(r1.2.2.1,((0,0),((false,([]:List Int)),([]:List Int)))))) ([]:List (aS aE.den))),(p_0.1,(IntKind.wrap .i64 (p_0.2.1+1),p_0.2.2))))) (br (r1.1 == 1) (bd (R.bD 33 r1.2.1 ([]:List (aS aE.den))) fun r2=>given (bD.g.o r2) (ok (((aS.mk r2.1 r2.2),(p_0.1,(IntKind.wrap .i64 (p_0.2.1+1),p_0.2.2)))))) (br (r1.2.1 == [116,114,117,101]) (bd (R.az 34 ([]:List (aS aE.den))) fun r3=>given (az.g.o r3) (ok (((aS.mk r3.1 r3.2),(p_0.1,(IntKind.wrap .i64 (p_0.2.1+1),p_0.2.2)))))) (br (r1.2.1 == [102,97,108,115,101]) (bd (R.az 35 ([]:List (aS aE.den))) fun r4=>given (az.g.o r4) (ok (((aS.mk r4.1 r4.2),(p_0.1,(IntKind.wrap .i64 (p_0.2.1+1),p_0.2.2)))))) (br (r1.2.1 == [110,117,108,108]) (bd (R.az 36 ([]:List (aS aE.den))) fun r5=>given (az.g.o r5) (ok (((aS.mk r5.1 r5.2),(p_0.1,(IntKind.wrap .i64 (p_0.2.1+1),p_0.2.2)))))) (br (r1.2.1 == [116,104,105,115]) (bd (R.az 37 ([]:List (aS aE.den))) fun r6=>given (az.g.o r6) (ok (((aS.mk r6.1 r6.2),(p_0.1,(IntKind.wrap .i64 (p_0.2.1+1),p_0.2.2)))))) (br (r1.2.1 == [91]) (bd (G.parse_parser_list (p_0.1,(IntKind.wrap .i64 (p_0.2.1+1),p_0.2.2)) [93]) fun r7=>given (parse_parser_list.g.o r7) (bd (R.az 38 r7.1) fun r8=>given (az.g.o r8) (ok (((aS.mk r8.1 r8.2),r7.2))))) (br (r1.2.1 == [123]) (Res.stuck) (br (r1.2.1 == [102,117,110,99,116,105,111,110]) (bd (α:=((List UInt8)×aL.den)) (bd (R.aR (p_0.1,(IntKind.wrap .i64 (p_0.2.1+1),p_0.2.2))) fun r9=>given (aR.g.o r9) (br (r9.1 == 1) (bd (R.bS (p_0.1,(IntKind.wrap .i64 (p_0.2.1+1),p_0.2.2))) fun r10=>given (bS.g.o r10) (ok r10)) (ok ((([]:List UInt8),(p_0.1,(IntKind.wrap .i64 (p_0.2.1+1),p_0.2.2))))))) fun name11=>Res.stuck) (br (r1.2.1 == [40]) (bd (G.parse_parser_assign (p_0.1,(IntKind.wrap .i64 (p_0.2.1+1),p_0.2.2))) fun r12=>given (parse_parser_assign.g.o r12) (bd (R.af r12.2 [41]) fun r13=>given (af.g.o r13) (ok (((aS.mk (aS.lab r12.1) (aS.kids r12.1)),r13.2))))) (bd (α:=Bool) (bd (R.bT (p_0.1,(IntKind.wrap .i64 ((IntKind.wrap .i64 (p_0.2.1+1))-1),p_0.2.2)) [47]) fun r14=>br r14 (ok true) (bd (R.bT (p_0.1,(IntKind.wrap .i64 ((IntKind.wrap .i64 (p_0.2.1+1))-1),p_0.2.2)) [47,61]) fun r15=>ok r15)) fun x16=>br x16 (Res.stuck) (Res.stuck))))))))))))))))
def R.parse_parser_list (G:bu) (p_0:aL.den) (s_1:(List UInt8)):Res ((List (aS aE.den))×aL.den) :=
 given (parse_parser_list.g.i (p_0,s_1)) (bd (R.aM p_0 s_1) fun r1=>given (aM.g.o r1) (br r1.1 (ok ((([]:List (aS aE.den)),r1.2))) (bd (loop (α:=((List (aS aE.den))×aL.den)) (β:=((List (aS aE.den))×aL.den)) (fun l2=>bd (G.parse_parser_assign l2.2) fun r3=>given (parse_parser_assign.g.o r3) (ah (decide ((l2.1.length+[(aS.mk (aS.lab r3.1) (aS.kids r3.1))].length)*144<=2^47)) (bd (α:=(Bool×aL.den)) (bd (R.cB r3.2) fun r4=>br (!r4) (ok ((true,r3.2))) (bd (R.aM r3.2 s_1) fun r5=>given (aM.g.o r5) (ok r5))) fun x6=>br x6.1 (ok (.done (((l2.1++[(aS.mk (aS.lab r3.1) (aS.kids r3.1))]),x6.2)))) (bd (R.af x6.2 [44]) fun r7=>given (af.g.o r7) (ok (.next (((l2.1++[(aS.mk (aS.lab r3.1) (aS.kids r3.1))]),r7.2)))))))) fuel (([]:List (aS aE.den)),r1.2)) fun x8=>ok x8)))
def dS:Nat->bu
 |0=>{ parse_parser_item:=fun _=>.stuck,parse_parser_declares:=fun _=>.stuck,parse_parser_statement:=fun _=>.stuck,parse_parser_assign:=fun _=>.stuck,parse_parser_word:=fun _ _=>.stuck,parse_parser_simple:=fun _=>.stuck,parse_parser_body:=fun _ _=>.stuck,parse_parser_cond:=fun _=>.stuck,parse_parser_either:=fun _=>.stuck,parse_parser_level:=fun _ _=>.stuck,parse_parser_both:=fun _ _=>.stuck,parse_parser_unary:=fun _=>.stuck,parse_parser_calls:=fun _=>.stuck,parse_parser_head:=fun _=>.stuck,parse_parser_arguments:=fun _=>.stuck,parse_parser_member:=fun _ _=>.stuck,parse_parser_primary:=fun _=>.stuck,parse_parser_list:=fun _ _=>.stuck }
 |n+1=>{ parse_parser_item:=R.parse_parser_item (dS n),parse_parser_declares:=R.parse_parser_declares (dS n),parse_parser_statement:=R.parse_parser_statement (dS n),parse_parser_assign:=R.parse_parser_assign (dS n),parse_parser_word:=R.parse_parser_word (dS n),parse_parser_simple:=R.parse_parser_simple (dS n),parse_parser_body:=R.parse_parser_body (dS n),parse_parser_cond:=R.parse_parser_cond (dS n),parse_parser_either:=R.parse_parser_either (dS n),parse_parser_level:=R.parse_parser_level (dS n),parse_parser_both:=R.parse_parser_both (dS n),parse_parser_unary:=R.parse_parser_unary (dS n),parse_parser_calls:=R.parse_parser_calls (dS n),parse_parser_head:=R.parse_parser_head (dS n),parse_parser_arguments:=R.parse_parser_arguments (dS n),parse_parser_member:=R.parse_parser_member (dS n),parse_parser_primary:=R.parse_parser_primary (dS n),parse_parser_list:=R.parse_parser_list (dS n) }
abbrev cz.g:Sg:=⟨[.obj aL],[(true,(.frz (.rose aE)))]⟩
def R.cz (p_0:aL.den):Res ((aS aE.den)×aL.den) :=
 given (cz.g.i p_0) (bd (R.az 1 ([]:List (aS aE.den))) fun r1=>given (az.g.o r1) (bd (loop (α:=(aL.den×(aE.den×(List (aS aE.den))))) (β:=(aL.den×(aE.den×(List (aS aE.den))))) (fun x2=>bd (R.aR x2.1) fun r3=>given (aR.g.o r3) (br (!(r3.1 == 0)) (bd ((dS fuel).parse_parser_item x2.1) fun r4=>given (parse_parser_item.g.o r4) (ah (decide ((x2.2.2.length+[(aS.mk (aS.lab r4.1) (aS.kids r4.1))].length)*144<=2^47)) (ok (.next ((r4.2,(x2.2.1,(x2.2.2++[(aS.mk (aS.lab r4.1) (aS.kids r4.1))])))))))) (ok (.done (x2))))) fuel (p_0,r1)) fun x5=>ok (((aS.mk x5.2.1 x5.2.2),x5.1))))
abbrev ic.g:Sg:=⟨[.obj pb,.val true (.bor (.frz (.rose aE)))],[vi]⟩
def R.ic:Nat->pb.den->(aS aE.den)->Res (Int×pb.den)
 |0,_,_=>.stuck
 |fu+1,t_0,x_1=>given (ic.g.i (t_0,x_1)) (ah (decide ((t_0.length+[(aS.lab x_1)].length)*120<=2^47)) (bd (loop (α:=((List Int)×(Int×pb.den))) (β:=((List Int)×pb.den)) (fun l1=>br (ilt l1.2.1 ((aS.kids x_1).length:Int)) (idx (.rose aE) (aS.kids x_1) l1.2.1 fun e2=>bd (R.ic fu l1.2.2 (aS.mk (aS.lab e2) (aS.kids e2))) fun r3=>given (ic.g.o r3) (ah (decide ((l1.1.length+[r3.1].length)*8<=2^47)) (ok (.next (((l1.1++[r3.1]),(IntKind.wrap .i64 (l1.2.1+1),r3.2))))))) (ok (.done ((l1.1,l1.2.2))))) fuel (([]:List Int),(0,(t_0++[(aS.lab x_1)])))) fun l4=>ah (ile 0 (t_0.length:Int) && ilt (t_0.length:Int) l4.2.length) (idx aE l4.2 (0+Int.toNat (t_0.length:Int)) fun e5=>ok (((t_0.length:Int),(List.set l4.2 (0+Int.toNat (t_0.length:Int)) (e5.1,(e5.2.1,(e5.2.2.1,(e5.2.2.2.1,(e5.2.2.2.2.1,l4.1)))))))))))
abbrev kR.g:Sg:=⟨[.val true (.bor (.frz (.rose aE)))],[(true,(.frz (.list aE)))]⟩
def R.kR (root_0:(aS aE.den)):Res ((List aE.den)) :=
 given (kR.g.i root_0) (bd (R.ic fuel ([]:List aE.den) (aS.mk (aS.lab root_0) (aS.kids root_0))) fun r1=>given (ic.g.o r1) (ok (r1.2)))
abbrev jD.g:Sg:=⟨[.val true (.bor lM)],[(false,(.own .i))]⟩
def R.jD (t_0:(List aE.den)):Res ((List Int)) :=
 given (jD.g.i t_0) (ah (ile 0 (t_0.length:Int) && (ile (t_0.length:Int) (t_0.length:Int) && decide ((Int.toNat (t_0.length:Int))*8<=2^47))) (bd (loop (α:=(Int×(List Int))) (β:=(List Int)) (fun x1=>br (ilt x1.1 (t_0.length:Int)) (dC (.frz aE) t_0 x1.1 fun e2=>ah (ile 0 x1.1 && ilt x1.1 x1.2.length) (idx (.int .i64) x1.2 (0+Int.toNat x1.1) fun e3=>ah (ile 0 x1.1 && ilt x1.1 x1.2.length) (idx (.int .i64) x1.2 (0+Int.toNat x1.1) fun e4=>bd (loop (α:=(Int×(List Int))) (β:=(List Int)) (fun x5=>br (ilt x5.1 (e2.2.2.2.2.2.length:Int)) (idx (.int .i64) e2.2.2.2.2.2 x5.1 fun e6=>ah (ile 0 x1.1 && ilt x1.1 x5.2.length) (idx (.int .i64) x5.2 (0+Int.toNat x1.1) fun e7=>ah (ile 0 e6 && ilt e6 x5.2.length) (idx (.int .i64) x5.2 (0+Int.toNat e6) fun e8=>ok (.next ((IntKind.wrap .i64 (x5.1+1),(List.set x5.2 (0+Int.toNat e6) (IntKind.wrap .i64 (e7+1))))))))) (ok (.done (x5.2)))) fuel (0,(List.set x1.2 (0+Int.toNat x1.1) (sK e3 1)))) fun x9=>ok (.next ((IntKind.wrap .i64 (x1.1+1),x9)))))) (ok (.done (x1.2)))) fuel (0,(List.replicate (Int.toNat (t_0.length:Int)) (0:Int)))) fun x10=>ok x10))
abbrev dX.g:Sg:=⟨[.val false (.bor (.own .i))],[vi]⟩
def R.dX (x_0:(List Int)):Res (Int) :=
 given (dX.g.i x_0) (bd (α:=Unit) (br (ilt (x_0.length:Int) 1) (Res.stuck) (ok (()))) fun x1=>dC .i x_0 0 fun e2=>bd (loop (α:=(Int×Int)) (β:=Int) (fun m3=>br (ilt m3.2 (x_0.length:Int)) (dC .i x_0 m3.2 fun e4=>ok (.next (((sK m3.1 e4),IntKind.wrap .i64 (m3.2+1))))) (ok (.done (m3.1)))) fuel (e2,1)) fun m5=>ok m5)
abbrev jW.g:Sg:=⟨[.val false (.frz (.list (.int .u16)))],[(true,(.frz (.list aE))),vi,vi]⟩
def R.jW (u_0:(List Int)):Res (((List aE.den)×(Int×Int))) :=
 given (jW.g.i u_0) (bd (R.kQ u_0) fun r1=>given (kQ.g.o r1) (br (!(r1.2.2 == 0)) (ok ((([]:List aE.den),r1.2))) (bd (R.cz (r1.1,(0,(0,0)))) fun r2=>given (cz.g.o r2) (br (!(r2.2.2.2.1 == 0)) (ok ((([]:List aE.den),(r2.2.2.2.2,r2.2.2.2.1)))) (bd (R.kR (aS.mk (aS.lab r2.1) (aS.kids r2.1))) fun r3=>given (kR.g.o r3) (br (ilt 4096 (r3.length:Int)) (ok ((([]:List aE.den),(0,3)))) (bd (R.jD r3) fun r4=>given (jD.g.o r4) (bd (R.dX r4) fun r5=>given (dX.g.o r5) (br (ilt 48 r5) (ok ((([]:List aE.den),(0,7)))) (ok ((r3,(0,0)))))))))))))
abbrev jq.g:Sg:=⟨[.val true (.bor lM)],[vb]⟩
def R.jq (t_0:(List aE.den)):Res (Bool) :=
 given (jq.g.i t_0) (bd (loop (α:=((List Int)×Int)) (β:=((List Int) ⊕ Bool)) (fun next1=>br (ilt next1.2 (t_0.length:Int)) (dC (.frz aE) t_0 next1.2 fun e2=>bd (α:=((List Int) ⊕ Bool)) (br (ilt 0 next1.2) (bd (α:=Bool) (br ((next1.1.length:Int) == 0) (ok true) (ah (ile 0 (IntKind.wrap .i64 ((next1.1.length:Int)-1)) && ilt (IntKind.wrap .i64 ((next1.1.length:Int)-1)) next1.1.length) (idx (.int .i64) next1.1 (0+Int.toNat (IntKind.wrap .i64 ((next1.1.length:Int)-1))) fun e3=>ok ((!(e3 == next1.2)))))) fun x4=>br x4 (ok (.inr false)) (ah (ile 0 (IntKind.wrap .i64 ((next1.1.length:Int)-1)) && ile (IntKind.wrap .i64 ((next1.1.length:Int)-1)) next1.1.length) (ok (.inl (List.take (Int.toNat (IntKind.wrap .i64 ((next1.1.length:Int)-1))) (List.drop 0 next1.1)))))) (ok (.inl next1.1))) fun next5=>sum next5 (fun next6=>bd (loop (α:=((List Int)×Int)) (β:=((List Int) ⊕ Bool)) (fun next8=>br (ile 0 next8.2) (bd (α:=Bool) (idx (.int .i64) e2.2.2.2.2.2 next8.2 fun e9=>br (ile e9 next1.2) (ok true) (idx (.int .i64) e2.2.2.2.2.2 next8.2 fun e10=>ok ((ile (t_0.length:Int) e10)))) fun x11=>br x11 (ok (.done (.inr false))) (idx (.int .i64) e2.2.2.2.2.2 next8.2 fun e12=>ah (decide ((next8.1.length+[e12].length)*8<=2^47)) (ok (.next (((next8.1++[e12]),IntKind.wrap .i64 (next8.2-1))))))) (ok (.done (.inl next8.1)))) fuel (next6,IntKind.wrap .i64 ((e2.2.2.2.2.2.length:Int)-1))) fun next13=>sum next13 (fun next14=>ok (.next ((next14,IntKind.wrap .i64 (next1.2+1))))) (fun z15=>ok (.done (.inr z15)))) (fun z7=>ok (.done (.inr z7)))) (ok (.done (.inl next1.1)))) fuel (([]:List Int),0)) fun next16=>sum next16 (fun next17=>ok (((next17.length:Int) == 0))) (fun z18=>ok z18))
abbrev jy.g:Sg:=⟨[.val true (.bor (.seq .b (.own .w)))],[vb]⟩
def R.jy (a_0:ax.den):Res (Bool) :=
 given (jy.g.i a_0) (br (ile (a_0.2.length:Int) 8) (br ((a_0.2.length:Int) == 0) (br (!a_0.1) (ok true) (br (ilt 0 (a_0.2.length:Int)) (dC .w a_0.2 (IntKind.wrap .i64 ((a_0.2.length:Int)-1)) fun e1=>ok ((!(e1 == 0)))) (ok false))) (br (ilt 0 (a_0.2.length:Int)) (dC .w a_0.2 (IntKind.wrap .i64 ((a_0.2.length:Int)-1)) fun e2=>ok ((!(e2 == 0)))) (ok false))) (ok false))
abbrev kz.g:Sg:=⟨[.s],[vb]⟩
def R.kz (s_0:(List UInt8)):Res (Bool) :=
 given (kz.g.i s_0) (bd (loop (α:=Int) (β:=(Unit ⊕ Bool)) (fun x1=>br (ilt x1 (s_0.length:Int)) (idx (.int .u8) (lT s_0) x1 fun e2=>bd (α:=Bool) (bd (R.gV (IntKind.wrap .u16 e2)) fun r3=>br (!r3) (br (x1 == 0) (ok true) (bd (R.iO (IntKind.wrap .u16 e2)) fun r4=>ok ((!r4)))) (ok false)) fun x5=>br x5 (ok (.done (.inr false))) (ok (.next (IntKind.wrap .i64 (x1+1))))) (ok (.done (.inl ())))) fuel 0) fun x6=>sum x6 (fun x7=>ok ((!(s_0 == ([]:List UInt8))))) (fun z8=>ok z8))
abbrev j9.g:Sg:=⟨[.s],[vb]⟩
def R.j9 (s_0:(List UInt8)):Res (Bool) :=
 given (j9.g.i s_0) (bd (R.kz s_0) fun r1=>br r1 (bd (R.j7 s_0) fun r2=>given (j7.g.o r2) (ok ((r2 == 0)))) (ok false))
abbrev fG.g:Sg:=⟨[.val true (.bor (.seq .i (.seq .s (.seq (.own .h) (.seq (.frz aH) (.seq (.seq .b (.own .w)) (.own .i)))))))],[vb]⟩
def R.fG (x_0:aE.den):Res (Bool) :=
 given (fG.g.i x_0) (bd (α:=Bool) (br (x_0.1 == 7) (ok ((x_0.1 == 7))) (br (x_0.1 == 18) (ok ((x_0.1 == 18))) (br (x_0.1 == 19) (ok ((x_0.1 == 19))) (br (x_0.1 == 20) (ok ((x_0.1 == 20))) (ok ((x_0.1 == 33))))))) fun x1=>br x1 (bd (R.j9 x_0.2.1) fun r2=>ok r2) (bd (α:=Bool) (br (x_0.1 == 12) (ok ((x_0.1 == 12))) (br (x_0.1 == 13) (ok ((x_0.1 == 13))) (br (x_0.1 == 17) (ok ((x_0.1 == 17))) (ok ((x_0.1 == 41)))))) fun x3=>br x3 (br (x_0.2.1 == ([]:List UInt8)) (ok true) (bd (R.j9 x_0.2.1) fun r4=>ok r4)) (br (x_0.1 == 52) (bd (R.kz x_0.2.1) fun r5=>ok r5) (br (x_0.1 == 43) (bd (R.aQ [[45],[43],[33],[126],[116,121,112,101,111,102],[118,111,105,100]] x_0.2.1) fun r6=>ok r6) (br (x_0.1 == 44) (br (x_0.1 == 44) (bd (R.aQ [[43,43],[45,45]] x_0.2.1) fun r7=>ok r7) (br (x_0.1 == 46) (bd (R.aQ [[43],[45],[42],[47],[37],[38],[124],[94],[60,60],[62,62],[62,62,62],[60],[62],[60,61],[62,61],[61,61],[33,61],[61,61,61],[33,61,61],[105,110]] x_0.2.1) fun r8=>ok r8) (br (x_0.1 == 47) (bd (R.aQ [[38,38],[124,124],[63,63]] x_0.2.1) fun r9=>ok r9) (br (x_0.1 == 49) (bd (R.aQ [[61],[43,61],[45,61],[42,61],[47,61],[37,61],[38,61],[124,61],[94,61],[60,60,61],[62,62,61],[62,62,62,61]] x_0.2.1) fun r10=>ok r10) (ok ((x_0.2.1 == ([]:List UInt8)))))))) (br (x_0.1 == 45) (bd (R.aQ [[43,43],[45,45]] x_0.2.1) fun r11=>ok r11) (br (x_0.1 == 46) (bd (R.aQ [[43],[45],[42],[47],[37],[38],[124],[94],[60,60],[62,62],[62,62,62],[60],[62],[60,61],[62,61],[61,61],[33,61],[61,61,61],[33,61,61],[105,110]] x_0.2.1) fun r12=>ok r12) (br (x_0.1 == 47) (bd (R.aQ [[38,38],[124,124],[63,63]] x_0.2.1) fun r13=>ok r13) (br (x_0.1 == 49) (bd (R.aQ [[61],[43,61],[45,61],[42,61],[47,61],[37,61],[38,61],[124,61],[94,61],[60,60,61],[62,62,61],[62,62,62,61]] x_0.2.1) fun r14=>ok r14) (ok ((x_0.2.1 == ([]:List UInt8)))))))))))))
abbrev gx.g:Sg:=⟨[.val true (.bor (.seq .i (.seq .s (.seq (.own .h) (.seq (.frz aH) (.seq (.seq .b (.own .w)) (.own .i)))))))],[vb]⟩
def R.gx (x_0:aE.den):Res (Bool) :=
 given (gx.g.i x_0) (bd (α:=Bool) (br (ilt 4096 (x_0.2.1.length:Int)) (ok true) (br (!(x_0.1 == 32)) (br (!(x_0.1 == 40)) (br (ilt 0 (x_0.2.2.1.length:Int)) (ok true) (br (!(x_0.1 == 30)) (br (!((x_0.2.2.2.1.1 == 0) && ((x_0.2.2.2.1.2 == 0) && true))) (ok true) (br (!(x_0.1 == 31)) (br x_0.2.2.2.2.1.1 (ok true) (ok ((ilt 0 (x_0.2.2.2.2.1.2.length:Int))))) (ok false))) (br (!(x_0.1 == 31)) (br x_0.2.2.2.2.1.1 (ok true) (ok ((ilt 0 (x_0.2.2.2.2.1.2.length:Int))))) (ok false)))) (br (!(x_0.1 == 30)) (br (!((x_0.2.2.2.1.1 == 0) && ((x_0.2.2.2.1.2 == 0) && true))) (ok true) (br (!(x_0.1 == 31)) (br x_0.2.2.2.2.1.1 (ok true) (ok ((ilt 0 (x_0.2.2.2.2.1.2.length:Int))))) (ok false))) (br (!(x_0.1 == 31)) (br x_0.2.2.2.2.1.1 (ok true) (ok ((ilt 0 (x_0.2.2.2.2.1.2.length:Int))))) (ok false)))) (br (!(x_0.1 == 30)) (br (!((x_0.2.2.2.1.1 == 0) && ((x_0.2.2.2.1.2 == 0) && true))) (ok true) (br (!(x_0.1 == 31)) (br x_0.2.2.2.2.1.1 (ok true) (ok ((ilt 0 (x_0.2.2.2.2.1.2.length:Int))))) (ok false))) (br (!(x_0.1 == 31)) (br x_0.2.2.2.2.1.1 (ok true) (ok ((ilt 0 (x_0.2.2.2.2.1.2.length:Int))))) (ok false))))) fun x1=>br x1 (ok false) (bd (α:=Bool) (br (x_0.1 == 32) (ok ((x_0.1 == 32))) (ok ((x_0.1 == 40)))) fun x2=>br x2 (br (x_0.2.1 == ([]:List UInt8)) (ok ((ile (x_0.2.2.1.length:Int) 4096))) (ok false)) (br (x_0.1 == 30) (br (x_0.2.1 == ([]:List UInt8)) (br (x_0.2.2.2.1.1 == 0) (bd (R.kW x_0.2.2.2.1) fun r3=>br r3 (ok ((ile 0 x_0.2.2.2.1.2))) (ok false)) (ok false)) (ok false)) (br (x_0.1 == 31) (br (x_0.2.1 == ([]:List UInt8)) (bd (R.jy x_0.2.2.2.2.1) fun r4=>br r4 (ok ((!x_0.2.2.2.2.1.1))) (ok false)) (ok false)) (bd (R.fG x_0) fun r5=>ok r5)))))
abbrev ga.g:Sg:=⟨[.i,.i],[(false,(.own .i))]⟩
def R.ga (n_0:Int) (last_1:Int):Res ((List Int)) :=
 given (ga.g.i (n_0,last_1)) (bd (loop (α:=((List Int)×Int)) (β:=(List Int)) (fun l1=>br (ilt l1.2 (IntKind.wrap .i64 (n_0-1))) (ah (decide ((l1.1.length+[6].length)*8<=2^47)) (ok (.next (((l1.1++[6]),IntKind.wrap .i64 (l1.2+1)))))) (ok (.done (l1.1)))) fuel (([]:List Int),0)) fun l2=>ah (decide ((l2.length+[last_1].length)*8<=2^47)) (ok ((l2++[last_1]))))
abbrev jR.g:Sg:=⟨[.i,.i],[(false,(.own .i)),vi]⟩
def R.jR (kind_0:Int) (n_1:Int):Res (((List Int)×Int)) :=
 given (jR.g.i (kind_0,n_1)) (bd (α:=Bool) (br (kind_0 == 1) (ok ((kind_0 == 1))) (ok ((kind_0 == 4)))) fun x1=>br x1 (ok ((([]:List Int),1))) (bd (α:=Bool) (br (kind_0 == 3) (ok ((kind_0 == 3))) (br (kind_0 == 15) (ok ((kind_0 == 15))) (br (kind_0 == 40) (ok ((kind_0 == 40))) (br (kind_0 == 43) (ok ((kind_0 == 43))) (ok ((kind_0 == 52))))))) fun x2=>br x2 (ok (([3],0))) (bd (α:=Bool) (br (kind_0 == 5) (ok ((kind_0 == 5))) (ok ((kind_0 == 6)))) fun x3=>br x3 (ok (([5],5))) (bd (α:=Bool) (br (kind_0 == 7) (ok ((kind_0 == 7))) (ok ((kind_0 == 14)))) fun x4=>br x4 (ah (ile 0 (lX n_1 1) && ile (lX n_1 1) [3].length) (ok (((List.take (Int.toNat (lX n_1 1)) (List.drop 0 [3])),0)))) (br (kind_0 == 8) (ah (ile 0 (lX (sK n_1 2) 3) && ile (lX (sK n_1 2) 3) [3,2,2].length) (ok (((List.take (Int.toNat (lX (sK n_1 2) 3)) (List.drop 0 [3,2,2])),0)))) (br (kind_0 == 9) (ok (([3,2],0))) (br (kind_0 == 10) (ok (([10,9,9,2],0))) (br (kind_0 == 16) (ok (([8,11,12],0))) (br (kind_0 == 17) (ok (([8],0))) (br (kind_0 == 18) (ok (([2],0))) (bd (α:=Bool) (br (kind_0 == 19) (ok ((kind_0 == 19))) (ok ((kind_0 == 41)))) fun x5=>br x5 (bd (R.ga n_1 8) fun r6=>given (ga.g.o r6) (ok ((r6,0)))) (br (kind_0 == 42) (bd (R.ga n_1 13) fun r7=>given (ga.g.o r7) (ok ((r7,0)))) (br (kind_0 == 38) (ok ((([]:List Int),3))) (br (kind_0 == 39) (ok ((([]:List Int),7))) (bd (α:=Bool) (br (kind_0 == 44) (ok ((kind_0 == 44))) (ok ((kind_0 == 45)))) fun x8=>br x8 (ok (([4],0))) (bd (α:=Bool) (br (kind_0 == 46) (ok ((kind_0 == 46))) (br (kind_0 == 47) (ok ((kind_0 == 47))) (ok ((kind_0 == 53))))) fun x9=>br x9 (ok (([3,3],0))) (br (kind_0 == 48) (ok (([3,3,3],0))) (br (kind_0 == 49) (ok (([4,3],0))) (bd (α:=Bool) (br (kind_0 == 50) (ok ((kind_0 == 50))) (ok ((kind_0 == 51)))) fun x10=>br x10 (ok (([3],3))) (ok ((([]:List Int),0))))))))))))))))))))))
abbrev jo.g:Sg:=⟨[.i],[vb]⟩
def R.jo (kind_0:Int):Res (Bool) :=
 given (jo.g.i kind_0) (br (ile 1 kind_0) (br (ile kind_0 20) (ok true) (br (ile 30 kind_0) (ok ((ile kind_0 53))) (ok false))) (br (ile 30 kind_0) (ok ((ile kind_0 53))) (ok false)))
abbrev dy.g:Sg:=⟨[.i],[vb]⟩
def R.dy (kind_0:Int):Res (Bool) :=
 given (dy.g.i kind_0) (br (ile 2 kind_0) (br (ile kind_0 19) (br (!(kind_0 == 7)) (br (!(kind_0 == 11)) (ok ((!(kind_0 == 17)))) (ok false)) (ok false)) (ok false)) (ok false))
abbrev lL.g:Sg:=⟨[.i],[vb]⟩
def R.lL (kind_0:Int):Res (Bool) :=
 given (lL.g.i kind_0) (bd (R.dy kind_0) fun r1=>br r1 (br (!(kind_0 == 5)) (br (!(kind_0 == 6)) (ok ((!(kind_0 == 19)))) (ok false)) (ok false)) (ok false))
abbrev dO.g:Sg:=⟨[.i],[vb]⟩
def R.dO (kind_0:Int):Res (Bool) :=
 given (dO.g.i kind_0) (br (ile 30 kind_0) (br (ile kind_0 53) (ok ((!(kind_0 == 40)))) (ok false)) (ok false))
abbrev ki.g:Sg:=⟨[.i,.i],[vb]⟩
def R.ki (sort_0:Int) (kind_1:Int):Res (Bool) :=
 given (ki.g.i (sort_0,kind_1)) (br (sort_0 == 1) (bd (R.dy kind_1) fun r1=>ok r1) (br (sort_0 == 2) (bd (R.lL kind_1) fun r2=>ok r2) (br (sort_0 == 3) (bd (R.dO kind_1) fun r3=>ok r3) (br (sort_0 == 4) (bd (R.fl kind_1) fun r4=>ok r4) (br (sort_0 == 5) (ok ((kind_1 == 7))) (br (sort_0 == 6) (ok ((kind_1 == 20))) (br (sort_0 == 7) (ok ((kind_1 == 40))) (br (sort_0 == 8) (ok ((kind_1 == 4))) (br (sort_0 == 9) (br (kind_1 == 11) (ok true) (bd (R.dO kind_1) fun r5=>ok r5)) (br (sort_0 == 10) (br (kind_1 == 11) (ok true) (br (kind_1 == 5) (ok true) (br (kind_1 == 6) (ok true) (bd (R.dO kind_1) fun r6=>ok r6)))) (br (sort_0 == 11) (br (kind_1 == 11) (ok true) (ok ((kind_1 == 17)))) (br (sort_0 == 12) (br (kind_1 == 11) (ok true) (ok ((kind_1 == 4)))) (br (sort_0 == 13) (br (kind_1 == 4) (ok true) (bd (R.dO kind_1) fun r7=>ok r7)) (ok false))))))))))))))
abbrev iF.g:Sg:=⟨[.val true (.bor lM),.i],[vb]⟩
def R.iF (t_0:(List aE.den)) (n_1:Int):Res (Bool) :=
 given (iF.g.i (t_0,n_1)) (bd (loop (α:=Int) (β:=Bool) (fun n1=>dC (.frz aE) t_0 n1 fun e2=>bd (α:=(Unit ⊕ Bool)) (br (e2.1 == 8) (br ((e2.2.2.2.2.2.length:Int) == 2) (ok (.inr true)) (ok (.inl ()))) (bd (α:=Bool) (br (e2.1 == 9) (ok ((e2.1 == 9))) (br (e2.1 == 10) (ok ((e2.1 == 10))) (ok ((e2.1 == 18))))) fun x3=>br x3 (ok (.inl ())) (ok (.inr false)))) fun x4=>sum x4 (fun x5=>br ((e2.2.2.2.2.2.length:Int) == 0) (ok (.done (false))) (idx (.int .i64) e2.2.2.2.2.2 (IntKind.wrap .i64 ((e2.2.2.2.2.2.length:Int)-1)) fun e7=>ok (.next (e7)))) (fun z6=>ok (.done (z6)))) fuel n_1) fun x8=>ok x8)
abbrev ju.g:Sg:=⟨[.val true (.bor lM),.i],[vb]⟩
def R.ju (t_0:(List aE.den)) (n_1:Int):Res (Bool) :=
 given (ju.g.i (t_0,n_1)) (dC (.frz aE) t_0 n_1 fun e1=>bd (R.jR e1.1 (e1.2.2.2.2.2.length:Int)) fun r2=>given (jR.g.o r2) (bd (α:=Bool) (bd (R.jo e1.1) fun r3=>br (!r3) (ok true) (ok ((ilt (e1.2.2.2.2.2.length:Int) (r2.1.length:Int))))) fun x4=>br x4 (ok false) (bd (loop (α:=Int) (β:=(Unit ⊕ Bool)) (fun x5=>br (ilt x5 (e1.2.2.2.2.2.length:Int)) (idx (.int .i64) e1.2.2.2.2.2 x5 fun e6=>bd (α:=Int) (br (ilt x5 (r2.1.length:Int)) (ah (ile 0 x5 && ilt x5 r2.1.length) (idx (.int .i64) r2.1 (0+Int.toNat x5) fun e7=>ok e7)) (ok (r2.2))) fun sort8=>dC (.frz aE) t_0 e6 fun e9=>bd (R.ki sort8 e9.1) fun r10=>br (!r10) (ok (.done (.inr false))) (ok (.next (IntKind.wrap .i64 (x5+1))))) (ok (.done (.inl ())))) fuel 0) fun x11=>sum x11 (fun x12=>br (e1.1 == 16) (idx (.int .i64) e1.2.2.2.2.2 1 fun e14=>dC (.frz aE) t_0 e14 fun e15=>br (e15.1 == 17) (ok true) (idx (.int .i64) e1.2.2.2.2.2 2 fun e16=>dC (.frz aE) t_0 e16 fun e17=>ok ((e17.1 == 4)))) (bd (α:=Bool) (br (e1.1 == 8) (ok (((e1.2.2.2.2.2.length:Int) == 3))) (ok false)) fun x18=>br x18 (idx (.int .i64) e1.2.2.2.2.2 1 fun e19=>bd (R.iF t_0 e19) fun r20=>ok ((!r20))) (ok true))) (fun z13=>ok z13))))
abbrev lU.g:Sg:=⟨[.val true (.bor lM)],[vb]⟩
def R.lU (t_0:(List aE.den)):Res (Bool) :=
 given (lU.g.i t_0) (bd (α:=Bool) (br ((t_0.length:Int) == 0) (ok true) (br (ilt 4096 (t_0.length:Int)) (ok true) (dC (.frz aE) t_0 0 fun e1=>br (!(e1.1 == 1)) (ok true) (bd (R.jq t_0) fun r2=>ok ((!r2)))))) fun x3=>br x3 (ok false) (bd (loop (α:=Int) (β:=(Unit ⊕ Bool)) (fun x4=>br (ilt x4 (t_0.length:Int)) (bd (α:=Bool) (br (ilt 0 x4) (dC (.frz aE) t_0 x4 fun e5=>br (e5.1 == 1) (ok true) (dC (.frz aE) t_0 x4 fun e6=>bd (R.gx e6) fun r7=>br (!r7) (ok true) (bd (R.ju t_0 x4) fun r8=>ok ((!r8))))) (dC (.frz aE) t_0 x4 fun e9=>bd (R.gx e9) fun r10=>br (!r10) (ok true) (bd (R.ju t_0 x4) fun r11=>ok ((!r11))))) fun x12=>br x12 (ok (.done (.inr false))) (ok (.next (IntKind.wrap .i64 (x4+1))))) (ok (.done (.inl ())))) fuel 0) fun x13=>sum x13 (fun x14=>bd (R.jD t_0) fun r16=>given (jD.g.o r16) (bd (R.dX r16) fun r17=>given (dX.g.o r17) (ok ((ile r17 48))))) (fun z15=>ok z15)))
abbrev fp.g:Sg:=⟨[.val true (.bor lM)],[(false,(.own .i))]⟩
def R.fp (t_0:(List aE.den)):Res ((List Int)) :=
 given (fp.g.i t_0) (ah (ile 0 (t_0.length:Int) && (ile (t_0.length:Int) (t_0.length:Int) && decide ((Int.toNat (t_0.length:Int))*8<=2^47))) (ah (ile 0 0 && ilt 0 (List.replicate (Int.toNat (t_0.length:Int)) (0:Int)).length) (idx (.int .i64) (List.replicate (Int.toNat (t_0.length:Int)) (0:Int)) (0+Int.toNat 0) fun e1=>bd (loop (α:=(Int×(List Int))) (β:=(List Int)) (fun x2=>br (ilt x2.1 (t_0.length:Int)) (dC (.frz aE) t_0 x2.1 fun e3=>bd (loop (α:=(Int×(List Int))) (β:=(List Int)) (fun x4=>br (ilt x4.1 (e3.2.2.2.2.2.length:Int)) (idx (.int .i64) e3.2.2.2.2.2 x4.1 fun e5=>ah (ile 0 e5 && ilt e5 x4.2.length) (idx (.int .i64) x4.2 (0+Int.toNat e5) fun e6=>ok (.next ((IntKind.wrap .i64 (x4.1+1),(List.set x4.2 (0+Int.toNat e5) x2.1)))))) (ok (.done (x4.2)))) fuel (0,x2.2)) fun x7=>ok (.next ((IntKind.wrap .i64 (x2.1+1),x7)))) (ok (.done (x2.2)))) fuel (0,(List.set (List.replicate (Int.toNat (t_0.length:Int)) (0:Int)) (0+Int.toNat 0) (-1)))) fun x8=>ok x8)))
abbrev fP.g:Sg:=⟨[.i],[vb]⟩
def R.fP (kind_0:Int):Res (Bool) :=
 given (fP.g.i kind_0) (br (kind_0 == 5) (ok true) (ok ((kind_0 == 6))))
abbrev gY.g:Sg:=⟨[.val true (.bor lM),.i],[(false,(.own .s))]⟩
def R.gY (t_0:(List aE.den)) (n_1:Int):Res ((List (List UInt8))) :=
 given (gY.g.i (t_0,n_1)) (dC (.frz aE) t_0 n_1 fun e1=>bd (loop (α:=((List (List UInt8))×Int)) (β:=(List (List UInt8))) (fun l2=>br (ilt l2.2 (e1.2.2.2.2.2.length:Int)) (idx (.int .i64) e1.2.2.2.2.2 l2.2 fun e3=>dC (.frz aE) t_0 e3 fun e4=>ah (decide ((l2.1.length+[e4.2.1].length)*16<=2^47)) (ok (.next (((l2.1++[e4.2.1]),IntKind.wrap .i64 (l2.2+1)))))) (ok (.done (l2.1)))) fuel (([]:List (List UInt8)),0)) fun l5=>ok l5)
abbrev dY.g:Sg:=⟨[.i],[vb]⟩
def R.dY (kind_0:Int):Res (Bool) :=
 given (dY.g.i kind_0) (br (kind_0 == 19) (ok true) (br (kind_0 == 41) (ok true) (ok ((kind_0 == 42)))))
end Go.Mach
end

set_option linter.unusedVariables false
set_option maxRecDepth 20000
noncomputable section
namespace Go.Mach
open Res
abbrev eC.g:Sg:=⟨[.val true (.bor lM),.i],[(false,(.own .s))]⟩
def R.eC (t_0:(List aE.den)) (n_1:Int):Res ((List (List UInt8))) :=
 given (eC.g.i (t_0,n_1)) (dC (.frz aE) t_0 n_1 fun e1=>bd (α:=Bool) (br (e1.1 == 1) (ok true) (ok ((e1.1 == 4)))) fun x2=>br x2 (bd (loop (α:=((List (List UInt8))×Int)) (β:=(List (List UInt8))) (fun l3=>br (ilt l3.2 (e1.2.2.2.2.2.length:Int)) (idx (.int .i64) e1.2.2.2.2.2 l3.2 fun e4=>dC (.frz aE) t_0 e4 fun e5=>bd (R.fP e5.1) fun r6=>br r6 (bd (R.gY t_0 e4) fun r7=>given (gY.g.o r7) (ah (decide ((l3.1.length+r7.length)*16<=2^47)) (ok (.next (((l3.1++r7),IntKind.wrap .i64 (l3.2+1))))))) (br (e5.1 == 19) (ah (decide ((l3.1.length+[e5.2.1].length)*16<=2^47)) (ok (.next (((l3.1++[e5.2.1]),IntKind.wrap .i64 (l3.2+1)))))) (ok (.next ((l3.1,IntKind.wrap .i64 (l3.2+1))))))) (ok (.done (l3.1)))) fuel (([]:List (List UInt8)),0)) fun l8=>ok l8) (bd (α:=Bool) (br (e1.1 == 10) (idx (.int .i64) e1.2.2.2.2.2 0 fun e9=>dC (.frz aE) t_0 e9 fun e10=>bd (R.fP e10.1) fun r11=>ok r11) (ok false)) fun x12=>br x12 (idx (.int .i64) e1.2.2.2.2.2 0 fun e13=>bd (R.gY t_0 e13) fun r14=>given (gY.g.o r14) (ok r14)) (bd (α:=Bool) (br (e1.1 == 17) (ok ((!(e1.2.1 == ([]:List UInt8))))) (ok false)) fun x15=>br x15 (ok ([e1.2.1])) (bd (R.dY e1.1) fun r16=>br r16 (bd (loop (α:=((List (List UInt8))×Int)) (β:=(List (List UInt8))) (fun l17=>br (ilt l17.2 (e1.2.2.2.2.2.length:Int)) (idx (.int .i64) e1.2.2.2.2.2 l17.2 fun e18=>dC (.frz aE) t_0 e18 fun e19=>br (e19.1 == 20) (dC (.frz aE) t_0 e18 fun e20=>ah (decide ((l17.1.length+[e20.2.1].length)*16<=2^47)) (ok (.next (((l17.1++[e20.2.1]),IntKind.wrap .i64 (l17.2+1)))))) (ok (.next ((l17.1,IntKind.wrap .i64 (l17.2+1)))))) (ok (.done (l17.1)))) fuel (([]:List (List UInt8)),0)) fun l21=>ok l21) (ok (([]:List (List UInt8))))))))
abbrev iw.g:Sg:=⟨[.val false (.bor (.own .s))],[vb]⟩
def R.iw (l_0:(List (List UInt8))):Res (Bool) :=
 given (iw.g.i l_0) (bd (loop (α:=Int) (β:=(Unit ⊕ Bool)) (fun x1=>br (ilt x1 (l_0.length:Int)) (dC .s l_0 x1 fun e2=>ah (ile 0 x1 && ile x1 l_0.length) (bd (R.aQ (List.take (Int.toNat x1) (List.drop 0 l_0)) e2) fun r3=>br r3 (ok (.done (.inr true))) (ok (.next (IntKind.wrap .i64 (x1+1)))))) (ok (.done (.inl ())))) fuel 0) fun x4=>sum x4 (fun x5=>ok false) (fun z6=>ok z6))
abbrev gX.g:Sg:=⟨[.s,.val false (.bor (.box (.own .s)))],[vb]⟩
def R.gX (s_0:(List UInt8)) (a_1:(List (List UInt8))):Res (Bool) :=
 given (gX.g.i (s_0,a_1)) (bd (R.aQ a_1 s_0) fun r1=>ok r1)
abbrev aw.g:Sg:=⟨[.val false (.bor (.own .s)),.val false (.bor (.clo 134 (.box (.own .s))))],[vi]⟩
def R.aw (s_0:(List (List UInt8))) (f_1:(List (List UInt8))):Res (Int) :=
 given (aw.g.i (s_0,f_1)) (bd (loop (α:=Int) (β:=(Unit ⊕ Int)) (fun x1=>br (ilt x1 (s_0.length:Int)) (dC .s s_0 x1 fun e2=>bd (R.gX e2 f_1) fun r3=>br r3 (ok (.done (.inr x1))) (ok (.next (IntKind.wrap .i64 (x1+1))))) (ok (.done (.inl ())))) fuel 0) fun x4=>sum x4 (fun x5=>ok ((-1))) (fun z6=>ok z6))
abbrev al.g:Sg:=⟨[.val false (.bor (.own .s)),.val false (.bor (.clo 134 (.box (.own .s))))],[vb]⟩
def R.al (s_0:(List (List UInt8))) (f_1:(List (List UInt8))):Res (Bool) :=
 given (al.g.i (s_0,f_1)) (bd (R.aw s_0 f_1) fun r1=>given (aw.g.o r1) (ok ((ile 0 r1))))
abbrev jB.g:Sg:=⟨[.val true (.bor lM),.i,.i],[vb]⟩
def R.jB (t_0:(List aE.den)) (n_1:Int) (parent_2:Int):Res (Bool) :=
 given (jB.g.i (t_0,(n_1,parent_2))) (bd (α:=Bool) (br (ilt parent_2 0) (ok true) (dC (.frz aE) t_0 n_1 fun e1=>br (!(e1.1 == 4)) (ok true) (dC (.frz aE) t_0 parent_2 fun e2=>bd (R.dY e2.1) fun r3=>br (!r3) (dC (.frz aE) t_0 parent_2 fun e4=>ok ((!(e4.1 == 17)))) (ok false)))) fun x5=>br x5 (ok false) (bd (R.eC t_0 parent_2) fun r6=>given (eC.g.o r6) (bd (R.eC t_0 n_1) fun r7=>given (eC.g.o r7) (bd (R.al r7 r6) fun r8=>ok r8))))
abbrev ei.g:Sg:=⟨[.val true (.bor lM),.val false (.bor (.own .i)),.i],[(false,(.own .i)),vi]⟩
def R.ei (t_0:(List aE.den)) (up_1:(List Int)) (n_2:Int):Res (((List Int)×Int)) :=
 given (ei.g.i (t_0,(up_1,n_2))) (dC .i up_1 n_2 fun e1=>bd (loop (α:=(Int×(List Int))) (β:=((List Int) ⊕ ((List Int)×Int))) (fun n2=>br (ile 0 n2.1) (dC (.frz aE) t_0 n2.1 fun e3=>bd (R.dY e3.1) fun r4=>br r4 (ok (.done (.inr (n2.2,n2.1)))) (ah (decide ((n2.2.length+[n2.1].length)*8<=2^47)) (dC .i up_1 n2.1 fun e5=>ok (.next ((e5,(n2.2++[n2.1]))))))) (ok (.done (.inl n2.2)))) fuel (e1,([]:List Int))) fun l6=>sum l6 (fun l7=>ok ((l7,(-1)))) (fun z8=>ok z8))
abbrev gv.g:Sg:=⟨[.i,.val false (.bor pb),.val false (.bor (.box (.seq .i (.seq .s (.seq (.own .h) (.seq .i (.seq .i (.seq .b (.seq (.own .w) (.own .i))))))))))],[vb]⟩
def R.gv (k_0:Int) (a_1:(List aE.den)) (a_2:(Int×((List UInt8)×((List Int)×(Int×(Int×(Bool×((List Int)×(List Int))))))))):Res (Bool) :=
 given (gv.g.i (k_0,(a_1,a_2))) (dC (.frz aE) a_1 k_0 fun e1=>br (e1.1 == 18) (dC (.frz aE) a_1 k_0 fun e2=>ok ((e2.2.1 == a_2.2.1))) (ok false))
abbrev bA.g:Sg:=⟨[.val false (.bor (.own .i)),.val false (.bor (.clo 95 (.seq pb (.box (.seq .i (.seq .s (.seq (.own .h) (.seq .i (.seq .i (.seq .b (.seq (.own .w) (.own .i))))))))))))],[vi]⟩
def R.bA (s_0:(List Int)) (f_1:((List aE.den)×(Int×((List UInt8)×((List Int)×(Int×(Int×(Bool×((List Int)×(List Int)))))))))):Res (Int) :=
 given (bA.g.i (s_0,f_1)) (bd (loop (α:=Int) (β:=(Unit ⊕ Int)) (fun x1=>br (ilt x1 (s_0.length:Int)) (dC .i s_0 x1 fun e2=>bd (R.gv e2 f_1.1 f_1.2) fun r3=>br r3 (ok (.done (.inr x1))) (ok (.next (IntKind.wrap .i64 (x1+1))))) (ok (.done (.inl ())))) fuel 0) fun x4=>sum x4 (fun x5=>ok ((-1))) (fun z6=>ok z6))
abbrev av.g:Sg:=⟨[.val false (.bor (.own .i)),.val false (.bor (.clo 95 (.seq pb (.box (.seq .i (.seq .s (.seq (.own .h) (.seq .i (.seq .i (.seq .b (.seq (.own .w) (.own .i))))))))))))],[vb]⟩
def R.av (s_0:(List Int)) (f_1:((List aE.den)×(Int×((List UInt8)×((List Int)×(Int×(Int×(Bool×((List Int)×(List Int)))))))))):Res (Bool) :=
 given (av.g.i (s_0,f_1)) (bd (R.bA s_0 f_1) fun r1=>given (bA.g.o r1) (ok ((ile 0 r1))))
abbrev jP.g:Sg:=⟨[.i],[vb]⟩
def R.jP (kind_0:Int):Res (Bool) :=
 given (jP.g.i kind_0) (br (kind_0 == 9) (ok true) (ok ((kind_0 == 10))))
abbrev fK.g:Sg:=⟨[.val true (.bor lM),.i],[vi]⟩
def R.fK (t_0:(List aE.den)) (n_1:Int):Res (Int) :=
 given (fK.g.i (t_0,n_1)) (bd (loop (α:=Int) (β:=Int) (fun n1=>dC (.frz aE) t_0 n1 fun e2=>br (e2.1 == 18) (dC (.frz aE) t_0 n1 fun e3=>idx (.int .i64) e3.2.2.2.2.2 0 fun e4=>ok (.next (e4))) (ok (.done (n1)))) fuel n_1) fun n5=>dC (.frz aE) t_0 n5 fun e6=>ok (e6.1))
abbrev iy.g:Sg:=⟨[.val true (.bor lM),.val true (.bor (.seq .i (.seq .s (.seq (.own .h) (.seq (.frz aH) (.seq (.seq .b (.own .w)) (.own .i))))))),.val false (.bor (.own .i))],[vb]⟩
def R.iy (t_0:(List aE.den)) (x_1:aE.den) (l_2:(List Int)):Res (Bool) :=
 given (iy.g.i (t_0,(x_1,l_2))) (bd (loop (α:=Int) (β:=(Unit ⊕ Bool)) (fun x1=>br (ilt x1 (l_2.length:Int)) (dC .i l_2 x1 fun e2=>dC (.frz aE) t_0 e2 fun e3=>bd (α:=Bool) (br (x_1.2.1 == ([]:List UInt8)) (bd (R.jP e3.1) fun r4=>ok r4) (ok false)) fun x5=>br x5 (ok (.done (.inr true))) (bd (α:=Bool) (br (!(x_1.2.1 == ([]:List UInt8))) (br (e3.1 == 18) (ok ((e3.2.1 == x_1.2.1))) (ok false)) (ok false)) fun x6=>br x6 (br (x_1.1 == 12) (ok (.done (.inr true))) (bd (R.fK t_0 e2) fun r7=>given (fK.g.o r7) (bd (R.jP r7) fun r8=>ok (.done (.inr r8))))) (ok (.next (IntKind.wrap .i64 (x1+1)))))) (ok (.done (.inl ())))) fuel 0) fun x9=>sum x9 (fun x10=>ok false) (fun z11=>ok z11))
abbrev iz.g:Sg:=⟨[.val true (.bor lM),.val false (.bor (.own .i)),.i],[vb]⟩
def R.iz (t_0:(List aE.den)) (up_1:(List Int)) (n_2:Int):Res (Bool) :=
 given (iz.g.i (t_0,(up_1,n_2))) (dC (.frz aE) t_0 n_2 fun e1=>bd (α:=Bool) (bd (R.eC t_0 n_2) fun r2=>given (eC.g.o r2) (bd (R.iw r2) fun r3=>br r3 (ok true) (dC .i up_1 n_2 fun e4=>bd (R.jB t_0 n_2 e4) fun r5=>ok r5))) fun x6=>br x6 (ok true) (br (e1.1 == 7) (dC .i up_1 n_2 fun e7=>dC (.frz aE) t_0 e7 fun e8=>br (e8.1 == 6) (ok (((e1.2.2.2.2.2.length:Int) == 0))) (ok false)) (br (e1.1 == 18) (bd (R.ei t_0 up_1 n_2) fun r9=>given (ei.g.o r9) (bd (R.av r9.1 (t_0,(e1.1,(e1.2.1,(e1.2.2.1,(e1.2.2.2.1.1,(e1.2.2.2.1.2,(e1.2.2.2.2.1.1,(e1.2.2.2.2.1.2,e1.2.2.2.2.2))))))))) fun r10=>ok r10)) (bd (α:=Bool) (br (e1.1 == 12) (ok ((e1.1 == 12))) (ok ((e1.1 == 13)))) fun x11=>br x11 (bd (R.ei t_0 up_1 n_2) fun r12=>given (ei.g.o r12) (bd (R.iy t_0 e1 r12.1) fun r13=>ok ((!r13)))) (br (e1.1 == 14) (bd (R.ei t_0 up_1 n_2) fun r14=>given (ei.g.o r14) (ok ((ilt r14.2 0)))) (ok false))))))
abbrev ec.g:Sg:=⟨[.val true (.bor lM)],[vi,vi]⟩
def R.ec (t_0:(List aE.den)):Res ((Int×Int)) :=
 given (ec.g.i t_0) (bd (R.lU t_0) fun r1=>br (!r1) (ok ((0,2))) (bd (R.fp t_0) fun r2=>given (fp.g.o r2) (bd (loop (α:=Int) (β:=(Unit ⊕ (Int×Int))) (fun x3=>br (ilt x3 (t_0.length:Int)) (bd (R.iz t_0 r2 x3) fun r4=>br r4 (ok (.done (.inr (x3,5)))) (ok (.next (IntKind.wrap .i64 (x3+1))))) (ok (.done (.inl ())))) fuel 0) fun x5=>sum x5 (fun x6=>ok ((0,0))) (fun z7=>ok z7))))
abbrev ij.g:Sg:=⟨[.val false (.bor (.own .y))],[(true,(.frz (.list aE))),vi,vi]⟩
def R.ij (source_0:(List Int)):Res (((List aE.den)×(Int×Int))) :=
 given (ij.g.i source_0) (bd (R.kD source_0) fun r1=>given (kD.g.o r1) (br (!(r1.2.2 == 0)) (ok ((([]:List aE.den),r1.2))) (bd (R.jW r1.1) fun r2=>given (jW.g.o r2) (br (!(r2.2.2 == 0)) (ok ((([]:List aE.den),r2.2))) (bd (R.ec r2.1) fun r3=>given (ec.g.o r3) (br (!(r3.2 == 0)) (ok ((([]:List aE.den),r3))) (ok ((r2.1,(0,0))))))))))
abbrev ke.g:Sg:=⟨[.val true (.frz eu)],[vb]⟩
def R.ke (lim_0:eu.den):Res (Bool) :=
 given (ke.g.i lim_0) (br (ile 0 lim_0.1) (br (ile lim_0.1 4096) (br (ile 1 lim_0.2.1) (br (ile lim_0.2.1 200) (br (ile 0 lim_0.2.2) (ok ((ile lim_0.2.2 100000))) (ok false)) (ok false)) (ok false)) (ok false)) (ok false))
abbrev lZ.g:Sg:=⟨[.i],[(false,dz)]⟩
def R.lZ (room_0:Int):Res (dz.den) :=
 given (lZ.g.i room_0) (ok (((lX (sK room_0 0) 4096),([]:List jw.den))))
abbrev dJ.g:Sg:=⟨[.val true (.bor (.seq .i (.seq (.frz aH) (.seq (.seq .b (.own .w)) (.seq (.own .h) .i)))))],[(true,(.frz aC))]⟩
def R.dJ (v_0:aC.den):Res (aC.den) :=
 given (dJ.g.i v_0) (bd (ok v_0.2.2.1.2) fun r1=>given (ma (.int .u32) r1) (bd (ok v_0.2.2.2.1) fun r2=>given (ma (.int .u16) r2) (ok ((v_0.1,(v_0.2.1,((v_0.2.2.1.1,r1),(r2,v_0.2.2.2.2))))))))
abbrev gL.g:Sg:=⟨[.val true (.bor (.seq .i (.seq .i (.seq (.own (.frz bO)) (.seq (.own (.frz bJ)) (.seq .s (.seq .i (.seq .i (.seq (.seq .i (.seq (.frz aH) (.seq (.seq .b (.own .w)) (.seq (.own .h) .i)))) (.seq .i (.seq .i (.seq .i (.seq .i (.own .y))))))))))))))],[(true,kv)]⟩
def R.gL (c_0:jw.den):Res (kv.den) :=
 given (gL.g.i c_0) (bd (ah (decide ((0+c_0.2.2.1.length)*112<=2^47)) (ok c_0.2.2.1)) fun r1=>given (ma bO r1) (bd (ah (decide ((0+c_0.2.2.2.1.length)*112<=2^47)) (ok c_0.2.2.2.1)) fun r2=>given (ma bJ r2) (bd (ok c_0.2.2.2.2.2.2.2.2.2.2.2.2) fun r3=>given (ma (.int .u8) r3) (bd (R.dJ c_0.2.2.2.2.2.2.2.1) fun r4=>given (dJ.g.o r4) (bd (loop (α:=(Int×(List bO.den))) (β:=(List bO.den)) (fun x5=>br (ilt x5.1 (r1.length:Int)) (ah (ile 0 x5.1 && ilt x5.1 x5.2.length) (idx bO x5.2 (0+Int.toNat x5.1) fun e6=>bd (ok e6.1) fun r7=>given (ma (.int .u16) r7) (bd (R.dJ e6.2) fun r8=>given (dJ.g.o r8) (ah (ile 0 x5.1 && ilt x5.1 x5.2.length) (idx bO x5.2 (0+Int.toNat x5.1) fun e9=>ok (.next ((IntKind.wrap .i64 (x5.1+1),(List.set x5.2 (0+Int.toNat x5.1) (r7,r8)))))))))) (ok (.done (x5.2)))) fuel (0,r1)) fun x10=>bd (loop (α:=(Int×(List bJ.den))) (β:=(List bJ.den)) (fun x11=>br (ilt x11.1 (r2.length:Int)) (ah (ile 0 x11.1 && ilt x11.1 x11.2.length) (idx bJ x11.2 (0+Int.toNat x11.1) fun e12=>bd (R.dJ e12.2.1) fun r13=>given (dJ.g.o r13) (ah (ile 0 x11.1 && ilt x11.1 x11.2.length) (idx bJ x11.2 (0+Int.toNat x11.1) fun e14=>ok (.next ((IntKind.wrap .i64 (x11.1+1),(List.set x11.2 (0+Int.toNat x11.1) (e14.1,(r13,e14.2.2)))))))))) (ok (.done (x11.2)))) fuel (0,r2)) fun x15=>ok ((c_0.1,(c_0.2.1,(x10,(x15,(c_0.2.2.2.2.1,(c_0.2.2.2.2.2.1,(c_0.2.2.2.2.2.2.1,(r4,(c_0.2.2.2.2.2.2.2.2.1,(c_0.2.2.2.2.2.2.2.2.2.1,(c_0.2.2.2.2.2.2.2.2.2.2.1,(c_0.2.2.2.2.2.2.2.2.2.2.2.1,r3))))))))))))))))))
abbrev fN.g:Sg:=⟨[.obj dz,.val true (.bor (.seq .i (.seq .i (.seq (.own (.frz bO)) (.seq (.own (.frz bJ)) (.seq .s (.seq .i (.seq .i (.seq (.seq .i (.seq (.frz aH) (.seq (.seq .b (.own .w)) (.seq (.own .h) .i)))) (.seq .i (.seq .i (.seq .i (.seq .i (.own .y))))))))))))))],[vi,vb]⟩
def R.fN (h_0:dz.den) (c_1:jw.den):Res ((Int×Bool)×dz.den) :=
 given (fN.g.i (h_0,c_1)) (br (ile h_0.1 (h_0.2.length:Int)) (ok (((0,false),h_0))) (bd (R.gL c_1) fun r1=>given (gL.g.o r1) (ah (decide ((h_0.2.length+[r1].length)*240<=2^47)) (ok (((IntKind.wrap .i64 (((h_0.2++[r1]).length:Int)-1),true),(h_0.1,(h_0.2++[r1]))))))))
abbrev cA.g:Sg:=⟨[.obj aG,.i],[vi]⟩
def R.cA (r_0:aG.den) (kind_1:Int):Res (Int×aG.den) :=
 given (cA.g.i (r_0,kind_1)) (ok ((5,(r_0.1,(r_0.2.1,(r_0.2.2.1,(r_0.2.2.2.1,(r_0.2.2.2.2.1,(r_0.2.2.2.2.2.1,(r_0.2.2.2.2.2.2.1,(r_0.2.2.2.2.2.2.2.1,(kind_1,([]:List Int)))))))))))))
abbrev aT.g:Sg:=⟨[.obj aG,.val true (.bor (.seq .i (.seq .i (.seq (.own (.frz bO)) (.seq (.own (.frz bJ)) (.seq .s (.seq .i (.seq .i (.seq (.seq .i (.seq (.frz aH) (.seq (.seq .b (.own .w)) (.seq (.own .h) .i)))) (.seq .i (.seq .i (.seq .i (.seq .i (.own .y))))))))))))))],[(true,(.frz aC)),vi]⟩
def R.aT (r_0:aG.den) (c_1:jw.den):Res ((aC.den×Int)×aG.den) :=
 given (aT.g.i (r_0,c_1)) (bd (R.fN r_0.2.2.2.2.1 c_1) fun r1=>given (fN.g.o r1) (br (!r1.1.2) (bd (R.cA (r_0.1,(r_0.2.1,(r_0.2.2.1,(r_0.2.2.2.1,(r1.2,r_0.2.2.2.2.2))))) 4) fun r2=>given (cA.g.o r2) (ok (((zV,r2.1),r2.2)))) (ok ((((6,((0,0),((false,([]:List Int)),(([]:List Int),r1.1.1)))),0),(r_0.1,(r_0.2.1,(r_0.2.2.1,(r_0.2.2.2.1,(r1.2,r_0.2.2.2.2.2))))))))))
abbrev bk.g:Sg:=⟨[.obj aG,.i],[vi,vi]⟩
def R.bk (r_0:aG.den) (around_1:Int):Res ((Int×Int)×aG.den) :=
 given (bk.g.i (r_0,around_1)) (bd (R.aT r_0 (9,(0,(([]:List bO.den),(([]:List bJ.den),(([]:List UInt8),(0,(around_1,(zV,(0,(0,(0,(0,([]:List Int)))))))))))))) fun r1=>given (aT.g.o r1) (ok (((r1.1.1.2.2.2.2,r1.1.2),r1.2))))
abbrev bB.g:Sg:=⟨[.val false (.bor dz),.i],[vb]⟩
def R.bB (h_0:gy.den) (ref_1:Int):Res (Bool) :=
 given (bB.g.i (h_0,ref_1)) (br (ile 0 ref_1) (ok ((ilt ref_1 (h_0.2.length:Int)))) (ok false))
abbrev ey.g:Sg:=⟨[.val true (.bor (.seq .s (.seq (.seq .i (.seq (.frz aH) (.seq (.seq .b (.own .w)) (.seq (.own .h) .i)))) (.seq .b .b)))),.val false (.bor (.box .s))],[vb]⟩
def R.ey (s_0:bJ.den) (a_1:(List UInt8)):Res (Bool) :=
 given (ey.g.i (s_0,a_1)) (ok ((s_0.1 == a_1)))
abbrev aa.g:Sg:=⟨[.val false (.bor (.own (.frz bJ))),.val false (.bor (.clo 190 (.box .s)))],[vi]⟩
def R.aa (s_0:(List bJ.den)) (f_1:(List UInt8)):Res (Int) :=
 given (aa.g.i (s_0,f_1)) (bd (loop (α:=Int) (β:=(Unit ⊕ Int)) (fun x1=>br (ilt x1 (s_0.length:Int)) (dC (.frz bJ) s_0 x1 fun e2=>bd (R.ey e2 f_1) fun r3=>br r3 (ok (.done (.inr x1))) (ok (.next (IntKind.wrap .i64 (x1+1))))) (ok (.done (.inl ())))) fuel 0) fun x4=>sum x4 (fun x5=>ok ((-1))) (fun z6=>ok z6))
abbrev cp.g:Sg:=⟨[.val false (.bor dz),.i,.s],[vi]⟩
def R.cp (h_0:gy.den) (scope_1:Int) (name_2:(List UInt8)):Res (Int) :=
 given (cp.g.i (h_0,(scope_1,name_2))) (dC kv h_0.2 scope_1 fun e1=>bd (R.aa e1.2.2.2.1 name_2) fun r2=>given (aa.g.o r2) (ok r2))
abbrev bF.g:Sg:=⟨[.obj dz,.i,.s,.val true (.bor (.seq .i (.seq (.frz aH) (.seq (.seq .b (.own .w)) (.seq (.own .h) .i))))),.b,.b],[vb]⟩
def R.bF (h_0:dz.den) (scope_1:Int) (name_2:(List UInt8)) (v_3:aC.den) (ready_4:Bool) (fixed_5:Bool):Res (Bool×dz.den) :=
 given (bF.g.i (h_0,(scope_1,(name_2,(v_3,(ready_4,fixed_5)))))) (bd (α:=Bool) (bd (R.bB h_0 scope_1) fun r1=>br (!r1) (ok true) (bd (R.cp h_0 scope_1 name_2) fun r2=>given (cp.g.o r2) (ok ((ile 0 r2))))) fun x3=>br x3 (ok ((false,h_0))) (dC kv h_0.2 scope_1 fun e4=>ah ((Int.toNat scope_1) == (Int.toNat scope_1)) (bd (R.dJ v_3) fun r5=>given (dJ.g.o r5) (ah (decide ((e4.2.2.2.1.length+[(name_2,(r5,(ready_4,fixed_5)))].length)*112<=2^47)) (ah ((Int.toNat scope_1) == (Int.toNat scope_1)) (ok ((true,(h_0.1,(List.set h_0.2 (Int.toNat scope_1) (e4.1,(e4.2.1,(e4.2.2.1,((e4.2.2.2.1++[(name_2,(r5,(ready_4,fixed_5)))]),e4.2.2.2.2))))))))))))))
abbrev eM.g:Sg:=⟨[.val true (.bor (.seq (.own .h) (.seq .i (.seq (.frz aH) (.seq (.seq .b (.own .w)) (.seq (.own .h) .i)))))),.val false (.bor (.box (.own .h)))],[vb]⟩
def R.eM (p_0:bO.den) (a_1:(List Int)):Res (Bool) :=
 given (eM.g.i (p_0,a_1)) (bd (R.gf p_0.1 a_1) fun r1=>ok r1)
abbrev aZ.g:Sg:=⟨[.val false (.bor (.own (.frz bO))),.val false (.bor (.clo 228 (.box (.own .h))))],[vi]⟩
def R.aZ (s_0:(List bO.den)) (f_1:(List Int)):Res (Int) :=
 given (aZ.g.i (s_0,f_1)) (bd (loop (α:=Int) (β:=(Unit ⊕ Int)) (fun x1=>br (ilt x1 (s_0.length:Int)) (dC (.frz bO) s_0 x1 fun e2=>bd (R.eM e2 f_1) fun r3=>br r3 (ok (.done (.inr x1))) (ok (.next (IntKind.wrap .i64 (x1+1))))) (ok (.done (.inl ())))) fuel 0) fun x4=>sum x4 (fun x5=>ok ((-1))) (fun z6=>ok z6))
abbrev dA.g:Sg:=⟨[.val false (.bor dz),.i,.val false (.bor (.own .h))],[vi]⟩
def R.dA (h_0:gy.den) (ref_1:Int) (key_2:(List Int)):Res (Int) :=
 given (dA.g.i (h_0,(ref_1,key_2))) (dC kv h_0.2 ref_1 fun e1=>bd (R.aZ e1.2.2.1 key_2) fun r2=>given (aZ.g.o r2) (ok r2))
abbrev bj.g:Sg:=⟨[.obj dz,.i,.val false (.bor (.own .h)),.val true (.bor (.seq .i (.seq (.frz aH) (.seq (.seq .b (.own .w)) (.seq (.own .h) .i)))))],[vb]⟩
def R.bj (h_0:dz.den) (ref_1:Int) (key_2:(List Int)) (v_3:aC.den):Res (Bool×dz.den) :=
 given (bj.g.i (h_0,(ref_1,(key_2,v_3)))) (bd (R.bB h_0 ref_1) fun r1=>br (!r1) (ok ((false,h_0))) (dC kv h_0.2 ref_1 fun e2=>bd (R.dA (h_0.1,(List.set h_0.2 (Int.toNat ref_1) e2)) ref_1 key_2) fun r3=>given (dA.g.o r3) (br (ile 0 r3) (ah ((Int.toNat ref_1) == (Int.toNat ref_1)) (bd (R.dJ v_3) fun r4=>given (dJ.g.o r4) (ah (ile 0 r3 && ilt r3 e2.2.2.1.length) (idx bO e2.2.2.1 (0+Int.toNat r3) fun e5=>ok ((true,(h_0.1,(List.set h_0.2 (Int.toNat ref_1) (e2.1,(e2.2.1,((List.set e2.2.2.1 (0+Int.toNat r3) (e5.1,r4)),e2.2.2.2))))))))))) (ah ((Int.toNat ref_1) == (Int.toNat ref_1)) (bd (ok key_2) fun r6=>given (ma (.int .u16) r6) (bd (R.dJ v_3) fun r7=>given (dJ.g.o r7) (ah (decide ((e2.2.2.1.length+[(r6,r7)].length)*112<=2^47)) (ah ((Int.toNat ref_1) == (Int.toNat ref_1)) (ok ((true,(h_0.1,(List.set h_0.2 (Int.toNat ref_1) (e2.1,(e2.2.1,((e2.2.2.1++[(r6,r7)]),e2.2.2.2))))))))))))))))
abbrev ch.g:Sg:=⟨[.obj dz,.i,.s,.val true (.bor (.seq .i (.seq (.frz aH) (.seq (.seq .b (.own .w)) (.seq (.own .h) .i))))),.b],[vb]⟩
def R.ch (h_0:dz.den) (scope_1:Int) (name_2:(List UInt8)) (v_3:aC.den) (ready_4:Bool):Res (Bool×dz.den) :=
 given (ch.g.i (h_0,(scope_1,(name_2,(v_3,ready_4))))) (bd (R.bB h_0 scope_1) fun r1=>br (!r1) (ok ((false,h_0))) (bd (R.cp h_0 scope_1 name_2) fun r2=>given (cp.g.o r2) (br (ilt r2 0) (ok ((false,h_0))) (dC kv h_0.2 scope_1 fun e3=>ah ((Int.toNat scope_1) == (Int.toNat scope_1)) (ah (ile 0 r2 && ilt r2 e3.2.2.2.1.length) (bd (R.dJ v_3) fun r4=>given (dJ.g.o r4) (idx bJ e3.2.2.2.1 (0+Int.toNat r2) fun e5=>idx bJ (List.set e3.2.2.2.1 (0+Int.toNat r2) (e5.1,(r4,e5.2.2))) (0+Int.toNat r2) fun e6=>ok ((true,(h_0.1,(List.set h_0.2 (Int.toNat scope_1) (e3.1,(e3.2.1,(e3.2.2.1,((List.set (List.set e3.2.2.2.1 (0+Int.toNat r2) (e5.1,(r4,e5.2.2))) (0+Int.toNat r2) (e6.1,(e6.2.1,(ready_4,e6.2.2.2)))),e3.2.2.2.2)))))))))))))))
abbrev cd.g:Sg:=⟨[.obj aG,.i,.val true (.frz aO)],[(true,(.frz aC)),vi]⟩
def R.cd (r_0:aG.den) (n_1:Int) (e_2:aO.den):Res ((aC.den×Int)×aG.den) :=
 given (cd.g.i (r_0,(n_1,e_2))) (idx aE r_0.1 n_1 fun e1=>bd (α:=Bool) (br (e1.1 == 41) (ok ((!(e1.2.1 == ([]:List UInt8))))) (ok false)) fun own2=>bd (α:=((aG.den×jw.den) ⊕ (Int×(aG.den×aC.den)))) (br own2 (bd (R.bk r_0 e_2.1) fun r3=>given (bk.g.o r3) (br (!(r3.1.2 == 0)) (ok (.inr (r3.1.2,(r3.2,zV)))) (bd (R.bF r3.2.2.2.2.2.1 r3.1.1 e1.2.1 zV false true) fun r4=>given (bF.g.o r4) (ok (.inl ((r3.2.1,(r3.2.2.1,(r3.2.2.2.1,(r3.2.2.2.2.1,(r4.2,r3.2.2.2.2.2.2))))),(3,(0,(([]:List bO.den),(([]:List bJ.den),(([]:List UInt8),(n_1,(r3.1.1,(zV,(0,(0,(0,(0,([]:List Int))))))))))))))))))) (ok (.inl (r_0,(3,(0,(([]:List bO.den),(([]:List bJ.den),(([]:List UInt8),(n_1,(e_2.1,(zV,(0,(0,(0,(0,([]:List Int))))))))))))))))) fun x5=>sum x5 (fun x6=>bd (α:=jw.den) (bd (α:=Bool) (br (e1.1 == 42) (ok (e_2.2.2)) (ok false)) fun x8=>br x8 (ok ((x6.2.1,(x6.2.2.1,(x6.2.2.2.1,(x6.2.2.2.2.1,(x6.2.2.2.2.2.1,(x6.2.2.2.2.2.2.1,(x6.2.2.2.2.2.2.2.1,(e_2.2.1,(1,x6.2.2.2.2.2.2.2.2.2.2))))))))))) (br (e1.1 == 42) (ok ((x6.2.1,(x6.2.2.1,(x6.2.2.2.1,(x6.2.2.2.2.1,(x6.2.2.2.2.2.1,(x6.2.2.2.2.2.2.1,(x6.2.2.2.2.2.2.2.1,(x6.2.2.2.2.2.2.2.2.1,(2,x6.2.2.2.2.2.2.2.2.2.2))))))))))) (ok (x6.2)))) fun x9=>bd (R.aT x6.1 x9) fun r10=>given (aT.g.o r10) (bd (α:=Bool) (br (!(r10.1.2 == 0)) (ok true) (ok ((e1.1 == 42)))) fun x11=>br x11 (ok r10) (bd (R.aT r10.2 (1,((-1),(([]:List bO.den),(([]:List bJ.den),(([]:List UInt8),(0,(0,(zV,(0,(0,(0,(0,([]:List Int)))))))))))))) fun r12=>given (aT.g.o r12) (br (!(r12.1.2 == 0)) (ok r12) (bd (R.ai [112,114,111,116,111,116,121,112,101]) fun r13=>given (ai.g.o r13) (bd (R.bj r12.2.2.2.2.2.1 r10.1.1.2.2.2.2 r13 r12.1.1) fun r14=>given (bj.g.o r14) (br own2 (bd (R.ch r14.2 x9.2.2.2.2.2.2.1 e1.2.1 r10.1.1 true) fun r15=>given (ch.g.o r15) (ok (((r10.1.1,0),(r12.2.1,(r12.2.2.1,(r12.2.2.2.1,(r12.2.2.2.2.1,(r15.2,r12.2.2.2.2.2.2))))))))) (ok (((r10.1.1,0),(r12.2.1,(r12.2.2.1,(r12.2.2.2.1,(r12.2.2.2.2.1,(r14.2,r12.2.2.2.2.2.2))))))))))))))) (fun z7=>ok (((z7.2.2,z7.1),z7.2.1))))
abbrev cL.g:Sg:=⟨[.obj aG,.i,.val true (.frz aO)],[(true,(.frz aC)),vi]⟩
def R.cL (r_0:aG.den) (n_1:Int) (e_2:aO.den):Res ((aC.den×Int)×aG.den) :=
 given (cL.g.i (r_0,(n_1,e_2))) (idx aE r_0.1 n_1 fun e1=>bd (loop (α:=(Int×aG.den)) (β:=(aG.den ⊕ (Int×(aG.den×aC.den)))) (fun x2=>br (ilt x2.1 (e1.2.2.2.2.2.length:Int)) (idx (.int .i64) e1.2.2.2.2.2 x2.1 fun e3=>idx aE x2.2.1 e3 fun e4=>bd (α:=Bool) (br (e4.1 == 5) (ok ((e4.1 == 5))) (ok ((e4.1 == 6)))) fun x5=>br x5 (bd (loop (α:=(Int×dz.den)) (β:=dz.den) (fun x6=>br (ilt x6.1 (e4.2.2.2.2.2.length:Int)) (idx (.int .i64) e4.2.2.2.2.2 x6.1 fun e7=>idx aE x2.2.1 e7 fun e8=>bd (R.bF x6.2 e_2.1 e8.2.1 zV false (e4.1 == 6)) fun r9=>given (bF.g.o r9) (ok (.next ((IntKind.wrap .i64 (x6.1+1),r9.2))))) (ok (.done (x6.2)))) fuel (0,x2.2.2.2.2.2.1)) fun x10=>ok (.next ((IntKind.wrap .i64 (x2.1+1),(x2.2.1,(x2.2.2.1,(x2.2.2.2.1,(x2.2.2.2.2.1,(x10,x2.2.2.2.2.2.2))))))))) (br (e4.1 == 19) (bd (R.cd x2.2 e3 e_2) fun r11=>given (cd.g.o r11) (br (!(r11.1.2 == 0)) (ok (.done (.inr (r11.1.2,(r11.2,r11.1.1))))) (bd (R.bF r11.2.2.2.2.2.1 e_2.1 e4.2.1 r11.1.1 true false) fun r12=>given (bF.g.o r12) (ok (.next ((IntKind.wrap .i64 (x2.1+1),(r11.2.1,(r11.2.2.1,(r11.2.2.2.1,(r11.2.2.2.2.1,(r12.2,r11.2.2.2.2.2.2)))))))))))) (ok (.next ((IntKind.wrap .i64 (x2.1+1),x2.2)))))) (ok (.done (.inl x2.2)))) fuel (0,r_0)) fun x13=>sum x13 (fun x14=>ok (((zV,0),x14))) (fun z15=>ok (((z15.2.2,z15.1),z15.2.1))))
abbrev bz.g:Sg:=⟨[.obj aG],[vb]⟩
def R.bz (r_0:aG.den):Res (Bool×aG.den) :=
 given (bz.g.i r_0) (br (ile r_0.2.1.2.1 r_0.2.2.2.2.2.1) (bd (R.cA r_0 5) fun r1=>given (cA.g.o r1) (ok ((false,r1.2)))) (br (ile r_0.2.1.2.2 r_0.2.2.2.2.2.2.1) (bd (R.cA r_0 6) fun r2=>given (cA.g.o r2) (ok ((false,r2.2)))) (ok ((true,(r_0.1,(r_0.2.1,(r_0.2.2.1,(r_0.2.2.2.1,(r_0.2.2.2.2.1,(IntKind.wrap .i64 (r_0.2.2.2.2.2.1+1),(IntKind.wrap .i64 (r_0.2.2.2.2.2.2.1+1),r_0.2.2.2.2.2.2.2))))))))))))
abbrev ej.g:Sg:=⟨[.i,.val true (.frz aC),.i],[(true,(.frz aX))]⟩
def R.ej (kind_0:Int) (v_1:aC.den) (how_2:Int):Res (aX.den) :=
 given (ej.g.i (kind_0,(v_1,how_2))) (br (!(how_2 == 0)) (ok ((how_2,(([]:List UInt8),v_1)))) (ok ((kind_0,(([]:List UInt8),v_1)))))
abbrev eg.g:Sg:=⟨[.val true (.bor lM),.i],[(false,(.own .s))]⟩
def R.eg (t_0:(List aE.den)) (n_1:Int):Res ((List (List UInt8))) :=
 given (eg.g.i (t_0,n_1)) (bd (R.eC t_0 n_1) fun r1=>given (eC.g.o r1) (ok r1))
abbrev jF.g:Sg:=⟨[.val true (.frz aX),.val false (.bor (.own .s))],[vb,(true,(.frz aX))]⟩
def R.jF (o_0:aX.den) (labels_1:(List (List UInt8))):Res ((Bool×aX.den)) :=
 given (jF.g.i (o_0,labels_1)) (br (o_0.1 == 0) (ok ((true,o_0))) (bd (α:=Bool) (br (o_0.1 == 1) (ok ((o_0.2.1 == ([]:List UInt8)))) (ok false)) fun x1=>br x1 (ok ((false,(0,(([]:List UInt8),zV))))) (bd (α:=Bool) (br (o_0.1 == 2) (br (o_0.2.1 == ([]:List UInt8)) (ok true) (bd (R.aQ labels_1 o_0.2.1) fun r2=>ok r2)) (ok false)) fun x3=>br x3 (ok ((true,(0,(([]:List UInt8),zV))))) (ok ((false,o_0))))))
abbrev fI.g:Sg:=⟨[.val false (.bor dz),.i],[(true,(.frz jw)),vb]⟩
def R.fI (h_0:gy.den) (ref_1:Int):Res ((jw.den×Bool)) :=
 given (fI.g.i (h_0,ref_1)) (bd (R.bB h_0 ref_1) fun r1=>br (!r1) (ok (((0,(0,(([]:List bO.den),(([]:List bJ.den),(([]:List UInt8),(0,(0,(zV,(0,(0,(0,(0,([]:List Int))))))))))))),false))) (dC kv h_0.2 ref_1 fun e2=>bd (R.gL e2) fun r3=>given (gL.g.o r3) (ok ((r3,true)))))
abbrev dt.g:Sg:=⟨[.obj aG,.val true (.frz aO)],[(true,(.frz aO)),vi]⟩
def R.dt (r_0:aG.den) (e_1:aO.den):Res ((aO.den×Int)×aG.den) :=
 given (dt.g.i (r_0,e_1)) (bd (R.fI r_0.2.2.2.2.1 e_1.1) fun r1=>given (fI.g.o r1) (bd (R.aT r_0 (9,(0,(([]:List bO.den),(r1.1.2.2.2.1,(([]:List UInt8),(0,(r1.1.2.2.2.2.2.2.1,(zV,(0,(0,(0,(0,([]:List Int)))))))))))))) fun r2=>given (aT.g.o r2) (ok ((((r2.1.1.2.2.2.2,e_1.2),r2.1.2),r2.2)))))
abbrev b8.g:Sg:=⟨[.val true (.frz aH)],[(true,(.frz aC))]⟩
def R.b8 (a_0:aH.den):Res (aC.den) :=
 given (b8.g.i a_0) (ok ((3,(a_0,((false,([]:List Int)),(([]:List Int),0))))))
abbrev dB.g:Sg:=⟨[.val true (.frz ax)],[(true,(.frz aC))]⟩
def R.dB (b_0:ax.den):Res (aC.den) :=
 given (dB.g.i b_0) (ok ((4,((0,0),(b_0,(([]:List Int),0))))))
abbrev bw.g:Sg:=⟨[.val false (.bor (.own .h))],[(true,(.frz aC))]⟩
def R.bw (u_0:(List Int)):Res (aC.den) :=
 given (bw.g.i u_0) (ah (ile 0 (lX (u_0.length:Int) 4096) && ile (lX (u_0.length:Int) 4096) u_0.length) (bd (ok (List.take (Int.toNat (lX (u_0.length:Int) 4096)) (List.drop 0 u_0))) fun r1=>given (ma (.int .u16) r1) (ok ((5,((0,0),((false,([]:List Int)),(r1,0))))))))
abbrev dZ.g:Sg:=⟨[.val false (.bor dz),.i,.s],[(true,(.frz bJ)),vi,vb]⟩
def R.dZ (h_0:gy.den) (scope_1:Int) (name_2:(List UInt8)):Res ((bJ.den×(Int×Bool))) :=
 given (dZ.g.i (h_0,(scope_1,name_2))) (bd (loop (α:=(Int×Int)) (β:=(Unit ⊕ (Int×(Bool×bJ.den)))) (fun scope1=>br (ilt scope1.2 (h_0.2.length:Int)) (bd (R.bB h_0 scope1.1) fun r2=>br (!r2) (ok (.done (.inl ()))) (bd (R.cp h_0 scope1.1 name_2) fun r3=>given (cp.g.o r3) (br (ile 0 r3) (dC kv h_0.2 scope1.1 fun e4=>dC (.frz bJ) e4.2.2.2.1 r3 fun e5=>bd (R.dJ e5.2.1) fun r6=>given (dJ.g.o r6) (ok (.done (.inr (scope1.1,(true,(e5.1,(r6,e5.2.2)))))))) (dC kv h_0.2 scope1.1 fun e7=>ok (.next ((e7.2.2.2.2.2.2.1,IntKind.wrap .i64 (scope1.2+1)))))))) (ok (.done (.inl ())))) fuel (scope_1,0)) fun x8=>sum x8 (fun x9=>ok (((([]:List UInt8),(zV,(false,false))),((-1),false)))) (fun z10=>ok ((z10.2.2,(z10.1,z10.2.1)))))
abbrev cq.g:Sg:=⟨[.obj aG,.s],[(true,(.frz aC)),vi]⟩
def R.cq (r_0:aG.den) (name_1:(List UInt8)):Res ((aC.den×Int)×aG.den) :=
 given (cq.g.i (r_0,name_1)) (bd (R.bw ([]:List Int)) fun r1=>given (bw.g.o r1) (bd (R.aT r_0 (10,(0,(([]:List bO.den),(([]:List bJ.den),(name_1,(0,(0,(r1,(0,(0,(0,(0,([]:List Int)))))))))))))) fun r2=>given (aT.g.o r2) (br (!(r2.1.2 == 0)) (ok r2) (ok (((r2.1.1,4),r2.2))))))
abbrev aF.g:Sg:=⟨[.obj aG,.i],[(true,(.frz aC)),vi]⟩
def R.aF (r_0:aG.den) (s_1:Int):Res ((aC.den×Int)×aG.den) :=
 given (aF.g.i (r_0,s_1)) (br (s_1 == 1) (bd (R.cq r_0 [84,121,112,101,69,114,114,111,114]) fun r1=>given (cq.g.o r1) (ok r1)) (br (s_1 == 2) (bd (R.cq r_0 [82,97,110,103,101,69,114,114,111,114]) fun r2=>given (cq.g.o r2) (ok r2)) (br (s_1 == 4) (bd (R.cq r_0 [82,101,102,101,114,101,110,99,101,69,114,114,111,114]) fun r3=>given (cq.g.o r3) (ok r3)) (br (s_1 == 5) (bd (R.cq r_0 [83,121,110,116,97,120,69,114,114,111,114]) fun r4=>given (cq.g.o r4) (ok r4)) (bd (R.cA r_0 3) fun r5=>given (cA.g.o r5) (ok (((zV,r5.1),r5.2))))))))
abbrev gU.g:Sg:=⟨[],[(false,(.own .s))]⟩
def R.gU :Res ((List (List UInt8))) :=
 given (gU.g.i ()) (ok ([[79,98,106,101,99,116],[65,114,114,97,121],[78,117,109,98,101,114],[66,105,103,73,110,116],[83,116,114,105,110,103],[66,111,111,108,101,97,110],[69,114,114,111,114],[84,121,112,101,69,114,114,111,114],[82,97,110,103,101,69,114,114,111,114],[82,101,102,101,114,101,110,99,101,69,114,114,111,114],[83,121,110,116,97,120,69,114,114,111,114],[65,114,114,97,121,66,117,102,102,101,114],[83,104,97,114,101,100,65,114,114,97,121,66,117,102,102,101,114],[68,97,116,97,86,105,101,119],[73,110,116,56,65,114,114,97,121],[85,105,110,116,56,65,114,114,97,121],[73,110,116,49,54,65,114,114,97,121],[85,105,110,116,49,54,65,114,114,97,121],[73,110,116,51,50,65,114,114,97,121],[85,105,110,116,51,50,65,114,114,97,121],[66,105,103,73,110,116,54,52,65,114,114,97,121],[66,105,103,85,105,110,116,54,52,65,114,114,97,121],[65,116,111,109,105,99,115],[36,50,54,50]]))
abbrev fT.g:Sg:=⟨[.s],[(false,(.own .s))]⟩
def R.fT (root_0:(List UInt8)):Res ((List (List UInt8))) :=
 given (fT.g.i root_0) (br (root_0 == [79,98,106,101,99,116]) (ok ([[107,101,121,115],[99,114,101,97,116,101]])) (br (root_0 == [65,114,114,97,121]) (ok ([[105,115,65,114,114,97,121]])) (br (root_0 == [65,116,111,109,105,99,115]) (ok ([[108,111,97,100],[115,116,111,114,101],[97,100,100],[97,110,100],[111,114],[115,117,98],[120,111,114],[101,120,99,104,97,110,103,101],[99,111,109,112,97,114,101,69,120,99,104,97,110,103,101],[105,115,76,111,99,107,70,114,101,101],[119,97,105,116],[110,111,116,105,102,121]])) (br (root_0 == [36,50,54,50]) (ok ([[97,103,101,110,116]])) (br (root_0 == [36,50,54,50,46,97,103,101,110,116]) (ok ([[115,116,97,114,116],[98,114,111,97,100,99,97,115,116],[114,101,99,101,105,118,101,66,114,111,97,100,99,97,115,116],[114,101,112,111,114,116],[103,101,116,82,101,112,111,114,116],[115,108,101,101,112],[109,111,110,111,116,111,110,105,99,78,111,119]])) (ok (([]:List (List UInt8)))))))))
abbrev ep.g:Sg:=⟨[],[(false,(.own .s))]⟩
def R.ep :Res ((List (List UInt8))) :=
 given (ep.g.i ()) (ok ([[73,110,116,56],[85,105,110,116,56],[73,110,116,49,54],[85,105,110,116,49,54],[73,110,116,51,50],[85,105,110,116,51,50],[66,105,103,73,110,116,54,52],[66,105,103,85,105,110,116,54,52]]))
abbrev cX.g:Sg:=⟨[],[(false,(.own .s))]⟩
def R.cX :Res ((List (List UInt8))) :=
 given (cX.g.i ()) (bd (R.gU) fun r1=>given (gU.g.o r1) (bd (R.gU) fun r2=>given (gU.g.o r2) (ah (decide ((r2.length+[[36,50,54,50,46,97,103,101,110,116]].length)*16<=2^47)) (bd (loop (α:=((List (List UInt8))×Int)) (β:=(List (List UInt8))) (fun l3=>br (ilt l3.2 ((r2++[[36,50,54,50,46,97,103,101,110,116]]).length:Int)) (ah (ile 0 l3.2 && ilt l3.2 (r2++[[36,50,54,50,46,97,103,101,110,116]]).length) (idx .str (r2++[[36,50,54,50,46,97,103,101,110,116]]) (0+Int.toNat l3.2) fun e4=>bd (R.fT e4) fun r5=>given (fT.g.o r5) (bd (loop (α:=((List (List UInt8))×Int)) (β:=(List (List UInt8))) (fun l6=>br (ilt l6.2 (r5.length:Int)) (ah (ile 0 l6.2 && ilt l6.2 r5.length) (idx .str r5 (0+Int.toNat l6.2) fun e7=>ah (lP (e4.length+[46].length)) (ah (lP ((e4++[46]).length+e7.length)) (ah (decide ((l6.1.length+[((e4++[46])++e7)].length)*16<=2^47)) (ok (.next (((l6.1++[((e4++[46])++e7)]),IntKind.wrap .i64 (l6.2+1))))))))) (ok (.done (l6.1)))) fuel (l3.1,0)) fun l8=>ok (.next ((l8,IntKind.wrap .i64 (l3.2+1))))))) (ok (.done (l3.1)))) fuel (r1,0)) fun l9=>ah (decide ((l9.length+[[65,114,114,97,121,35,112,117,115,104],[65,114,114,97,121,35,112,111,112]].length)*16<=2^47)) (bd (R.ep) fun r10=>given (ep.g.o r10) (bd (loop (α:=((List (List UInt8))×Int)) (β:=(List (List UInt8))) (fun l11=>br (ilt l11.2 (r10.length:Int)) (ah (ile 0 l11.2 && ilt l11.2 r10.length) (idx .str r10 (0+Int.toNat l11.2) fun e12=>ah (lP ([68,97,116,97,86,105,101,119,35,103,101,116].length+e12.length)) (ah (lP ([68,97,116,97,86,105,101,119,35,115,101,116].length+e12.length)) (ah (decide ((l11.1.length+[([68,97,116,97,86,105,101,119,35,103,101,116]++e12),([68,97,116,97,86,105,101,119,35,115,101,116]++e12)].length)*16<=2^47)) (ok (.next (((l11.1++[([68,97,116,97,86,105,101,119,35,103,101,116]++e12),([68,97,116,97,86,105,101,119,35,115,101,116]++e12)]),IntKind.wrap .i64 (l11.2+1))))))))) (ok (.done (l11.1)))) fuel ((l9++[[65,114,114,97,121,35,112,117,115,104],[65,114,114,97,121,35,112,111,112]]),0)) fun l13=>ok l13))))))
abbrev cW.g:Sg:=⟨[.s],[(true,(.frz aC))]⟩
def R.cW (s_0:(List UInt8)):Res (aC.den) :=
 given (cW.g.i s_0) (bd (R.cX) fun r1=>given (cX.g.o r1) (bd (R.bQ r1 s_0) fun r2=>given (bQ.g.o r2) (ok ((6,((0,0),((false,([]:List Int)),(([]:List Int),IntKind.wrap .i64 (4096+r2)))))))))
abbrev iB.g:Sg:=⟨[.s],[(true,(.frz aC)),vb]⟩
def R.iB (s_0:(List UInt8)):Res ((aC.den×Bool)) :=
 given (iB.g.i s_0) (br (s_0 == [117,110,100,101,102,105,110,101,100]) (ok ((zV,true))) (br (s_0 == [78,97,78]) (bd (R.b8 (2,0)) fun r1=>given (b8.g.o r1) (ok ((r1,true)))) (br (s_0 == [73,110,102,105,110,105,116,121]) (bd (R.b8 (3,0)) fun r2=>given (b8.g.o r2) (ok ((r2,true)))) (bd (R.gU) fun r3=>given (gU.g.o r3) (bd (R.aQ r3 s_0) fun r4=>br r4 (bd (R.cW s_0) fun r5=>given (cW.g.o r5) (ok ((r5,true)))) (ok ((zV,false))))))))
abbrev jt.g:Sg:=⟨[.s],[vb]⟩
def R.jt (s_0:(List UInt8)):Res (Bool) :=
 given (jt.g.i s_0) (bd (α:=Bool) (br (s_0 == [103,108,111,98,97,108,84,104,105,115]) (ok ((s_0 == [103,108,111,98,97,108,84,104,105,115]))) (br (s_0 == [65,103,103,114,101,103,97,116,101,69,114,114,111,114]) (ok ((s_0 == [65,103,103,114,101,103,97,116,101,69,114,114,111,114]))) (br (s_0 == [68,97,116,101]) (ok ((s_0 == [68,97,116,101]))) (br (s_0 == [69,118,97,108,69,114,114,111,114]) (ok ((s_0 == [69,118,97,108,69,114,114,111,114]))) (br (s_0 == [70,105,110,97,108,105,122,97,116,105,111,110,82,101,103,105,115,116,114,121]) (ok ((s_0 == [70,105,110,97,108,105,122,97,116,105,111,110,82,101,103,105,115,116,114,121]))) (br (s_0 == [70,108,111,97,116,51,50,65,114,114,97,121]) (ok ((s_0 == [70,108,111,97,116,51,50,65,114,114,97,121]))) (br (s_0 == [70,108,111,97,116,54,52,65,114,114,97,121]) (ok ((s_0 == [70,108,111,97,116,54,52,65,114,114,97,121]))) (br (s_0 == [70,117,110,99,116,105,111,110]) (ok ((s_0 == [70,117,110,99,116,105,111,110]))) (br (s_0 == [73,116,101,114,97,116,111,114]) (ok ((s_0 == [73,116,101,114,97,116,111,114]))) (br (s_0 == [74,83,79,78]) (ok ((s_0 == [74,83,79,78]))) (br (s_0 == [77,97,112]) (ok ((s_0 == [77,97,112]))) (br (s_0 == [77,97,116,104]) (ok ((s_0 == [77,97,116,104]))) (br (s_0 == [80,114,111,109,105,115,101]) (ok ((s_0 == [80,114,111,109,105,115,101]))) (br (s_0 == [80,114,111,120,121]) (ok ((s_0 == [80,114,111,120,121]))) (br (s_0 == [82,101,102,108,101,99,116]) (ok ((s_0 == [82,101,102,108,101,99,116]))) (br (s_0 == [82,101,103,69,120,112]) (ok ((s_0 == [82,101,103,69,120,112]))) (br (s_0 == [83,101,116]) (ok ((s_0 == [83,101,116]))) (br (s_0 == [83,121,109,98,111,108]) (ok ((s_0 == [83,121,109,98,111,108]))) (br (s_0 == [85,82,73,69,114,114,111,114]) (ok ((s_0 == [85,82,73,69,114,114,111,114]))) (br (s_0 == [85,105,110,116,56,67,108,97,109,112,101,100,65,114,114,97,121]) (ok ((s_0 == [85,105,110,116,56,67,108,97,109,112,101,100,65,114,114,97,121]))) (br (s_0 == [87,101,97,107,77,97,112]) (ok ((s_0 == [87,101,97,107,77,97,112]))) (br (s_0 == [87,101,97,107,82,101,102]) (ok ((s_0 == [87,101,97,107,82,101,102]))) (br (s_0 == [87,101,97,107,83,101,116]) (ok ((s_0 == [87,101,97,107,83,101,116]))) (br (s_0 == [100,101,99,111,100,101,85,82,73]) (ok ((s_0 == [100,101,99,111,100,101,85,82,73]))) (br (s_0 == [100,101,99,111,100,101,85,82,73,67,111,109,112,111,110,101,110,116]) (ok ((s_0 == [100,101,99,111,100,101,85,82,73,67,111,109,112,111,110,101,110,116]))) (br (s_0 == [101,110,99,111,100,101,85,82,73]) (ok ((s_0 == [101,110,99,111,100,101,85,82,73]))) (br (s_0 == [101,110,99,111,100,101,85,82,73,67,111,109,112,111,110,101,110,116]) (ok ((s_0 == [101,110,99,111,100,101,85,82,73,67,111,109,112,111,110,101,110,116]))) (br (s_0 == [101,115,99,97,112,101]) (ok ((s_0 == [101,115,99,97,112,101]))) (br (s_0 == [105,115,70,105,110,105,116,101]) (ok ((s_0 == [105,115,70,105,110,105,116,101]))) (br (s_0 == [105,115,78,97,78]) (ok ((s_0 == [105,115,78,97,78]))) (br (s_0 == [112,97,114,115,101,70,108,111,97,116]) (ok ((s_0 == [112,97,114,115,101,70,108,111,97,116]))) (br (s_0 == [112,97,114,115,101,73,110,116]) (ok ((s_0 == [112,97,114,115,101,73,110,116]))) (ok ((s_0 == [117,110,101,115,99,97,112,101]))))))))))))))))))))))))))))))))))) fun x1=>br x1 (ok true) (ok false))
abbrev aK.g:Sg:=⟨[.obj aG],[(true,(.frz aC)),vi]⟩
def R.aK (r_0:aG.den):Res ((aC.den×Int)×aG.den) :=
 given (aK.g.i r_0) (bd (R.cA r_0 3) fun r1=>given (cA.g.o r1) (ok (((zV,r1.1),r1.2))))
abbrev dW.g:Sg:=⟨[.obj aG,.s,.val true (.bor (.seq .i (.seq (.seq .i (.seq (.frz aH) (.seq (.seq .b (.own .w)) (.seq (.own .h) .i)))) .b))),.b],[(true,(.frz aC)),vi]⟩
def R.dW (r_0:aG.den) (s_1:(List UInt8)) (e_2:aO.den) (loose_3:Bool):Res ((aC.den×Int)×aG.den) :=
 given (dW.g.i (r_0,(s_1,(e_2,loose_3)))) (bd (R.dZ r_0.2.2.2.2.1 e_2.1 s_1) fun r1=>given (dZ.g.o r1) (bd (α:=Bool) (br r1.2.2 (ok ((!r1.1.2.2.1))) (ok false)) fun x2=>br x2 (bd (R.aF r_0 4) fun r3=>given (aF.g.o r3) (ok r3)) (br r1.2.2 (ok (((r1.1.2.1,0),r_0))) (bd (R.iB s_1) fun r4=>given (iB.g.o r4) (br r4.2 (ok (((r4.1,0),r_0))) (bd (R.jt s_1) fun r5=>br r5 (bd (R.aK r_0) fun r6=>given (aK.g.o r6) (ok r6)) (br loose_3 (ok (((zV,0),r_0))) (bd (R.aF r_0 4) fun r7=>given (aF.g.o r7) (ok r7)))))))))
abbrev eN.g:Sg:=⟨[.obj aG,.s,.val true (.bor (.seq .i (.seq (.seq .i (.seq (.frz aH) (.seq (.seq .b (.own .w)) (.seq (.own .h) .i)))) .b)))],[(true,(.frz aC)),vi]⟩
def R.eN (r_0:aG.den) (s_1:(List UInt8)) (e_2:aO.den):Res ((aC.den×Int)×aG.den) :=
 given (eN.g.i (r_0,(s_1,e_2))) (bd (R.dW r_0 s_1 e_2 false) fun r1=>given (dW.g.o r1) (ok r1))
abbrev bE.g:Sg:=⟨[.b],[(true,(.frz aC))]⟩
def R.bE (b_0:Bool):Res (aC.den) :=
 given (bE.g.i b_0) (br b_0 (ok ((2,((0,0),((false,([]:List Int)),(([]:List Int),1)))))) (ok ((2,((0,0),((false,([]:List Int)),(([]:List Int),0)))))))
abbrev ia.g:Sg:=⟨[.val true (.bor (.seq .i (.seq (.frz aH) (.seq (.seq .b (.own .w)) (.seq (.own .h) .i)))))],[vb]⟩
def R.ia (v_0:aC.den):Res (Bool) :=
 given (ia.g.i v_0) (br ((v_0.2.1.1 == 0) && ((v_0.2.1.2 == 0) && true)) (br (!v_0.2.2.1.1) (br ((v_0.2.2.1.2.length:Int) == 0) (br ((v_0.2.2.2.1.length:Int) == 0) (ok ((v_0.2.2.2.2 == 0))) (ok false)) (ok false)) (ok false)) (ok false))
abbrev lW.g:Sg:=⟨[.val true (.bor (.seq .i (.seq (.frz aH) (.seq (.seq .b (.own .w)) (.seq (.own .h) .i)))))],[vb]⟩
def R.lW (v_0:aC.den):Res (Bool) :=
 given (lW.g.i v_0) (bd (α:=Bool) (br (v_0.1 == 0) (ok ((v_0.1 == 0))) (ok ((v_0.1 == 1)))) fun x1=>br x1 (bd (R.ia v_0) fun r2=>ok r2) (br (v_0.1 == 2) (bd (R.ia (v_0.1,(v_0.2.1,(v_0.2.2.1,(v_0.2.2.2.1,0))))) fun r3=>br r3 (br (v_0.2.2.2.2 == 0) (ok true) (ok ((v_0.2.2.2.2 == 1)))) (ok false)) (br (v_0.1 == 3) (bd (R.ia (v_0.1,((0,0),v_0.2.2))) fun r4=>br r4 (bd (R.kW v_0.2.1) fun r5=>ok r5) (ok false)) (br (v_0.1 == 4) (bd (R.ia (v_0.1,(v_0.2.1,((false,([]:List Int)),v_0.2.2.2)))) fun r6=>br r6 (bd (R.jy v_0.2.2.1) fun r7=>ok r7) (ok false)) (br (v_0.1 == 5) (bd (R.ia (v_0.1,(v_0.2.1,(v_0.2.2.1,(([]:List Int),v_0.2.2.2.2))))) fun r8=>br r8 (ok ((ile (v_0.2.2.2.1.length:Int) 4096))) (ok false)) (br (v_0.1 == 6) (bd (R.ia (v_0.1,(v_0.2.1,(v_0.2.2.1,(v_0.2.2.2.1,0))))) fun r9=>br r9 (ok ((ile 0 v_0.2.2.2.2))) (ok false)) (ok false)))))))
abbrev bl.g:Sg:=⟨[.val true (.frz aC)],[(true,(.frz aC))]⟩
def R.bl (v_0:aC.den):Res (aC.den) :=
 given (bl.g.i v_0) (bd (R.lW v_0) fun r1=>br (!r1) (ok zV) (ok v_0))
abbrev eH.g:Sg:=⟨[.val true (.frz aH)],[vb]⟩
def R.eH (a_0:aH.den):Res (Bool) :=
 given (eH.g.i a_0) (ok ((a_0.1 == 2)))
abbrev iH.g:Sg:=⟨[.val true (.frz aH)],[vi]⟩
def R.iH (a_0:aH.den):Res (Int) :=
 given (iH.g.i a_0) (br (a_0.1 == 3) (ok 9007199254740992) (br (a_0.1 == 4) (ok ((-9007199254740992))) (ok (a_0.2))))
abbrev iN.g:Sg:=⟨[.val true (.frz aH),.val true (.frz aH)],[vb]⟩
def R.iN (a_0:aH.den) (b_1:aH.den):Res (Bool) :=
 given (iN.g.i (a_0,b_1)) (bd (R.da a_0) fun r1=>given (da.g.o r1) (bd (R.da b_1) fun r2=>given (da.g.o r2) (bd (R.eH r1) fun r3=>br (!r3) (bd (R.eH r2) fun r4=>br (!r4) (bd (R.iH r1) fun r5=>given (iH.g.o r5) (bd (R.iH r2) fun r6=>given (iH.g.o r6) (ok ((r5 == r6))))) (ok false)) (ok false))))
abbrev fa.g:Sg:=⟨[.val true (.frz aC)],[vb]⟩
def R.fa (v_0:aC.den):Res (Bool) :=
 given (fa.g.i v_0) (bd (R.bl v_0) fun r1=>given (bl.g.o r1) (br (r1.1 == 2) (ok ((r1.2.2.2.2 == 1))) (br (r1.1 == 3) (br (!(r1.2.1.1 == 2)) (bd (R.iN r1.2.1 (0,0)) fun r2=>ok ((!r2))) (ok false)) (br (r1.1 == 4) (ok ((ilt 0 (r1.2.2.1.2.length:Int)))) (br (r1.1 == 5) (ok ((ilt 0 (r1.2.2.2.1.length:Int)))) (ok ((r1.1 == 6))))))))
abbrev fL.g:Sg:=⟨[.i],[(false,(.own .h))]⟩
def R.fL (n_0:Int):Res ((List Int)) :=
 given (fL.g.i n_0) (bd (rU n_0) fun r1=>given (rQ.g.o r1) (bd (R.ai r1) fun r2=>given (ai.g.o r2) (ok r2)))
abbrev bP.g:Sg:=⟨[.val true (.frz aC)],[(true,(.frz aH)),vi]⟩
def R.bP (v_0:aC.den):Res ((aH.den×Int)) :=
 given (bP.g.i v_0) (bd (R.bl v_0) fun r1=>given (bl.g.o r1) (br (r1.1 == 0) (ok (((2,0),0))) (bd (α:=Bool) (br (r1.1 == 1) (ok ((r1.1 == 1))) (ok ((r1.1 == 2)))) fun x2=>br x2 (ok (((0,r1.2.2.2.2),0))) (br (r1.1 == 3) (ok ((r1.2.1,0))) (br (r1.1 == 4) (ok (((0,0),1))) (br (r1.1 == 5) (bd (R.gK r1.2.2.2.1) fun r3=>given (gK.g.o r3) (br r3.2 (ok ((r3.1,0))) (ok (((0,0),3))))) (ok (((0,0),3)))))))))
abbrev j8.g:Sg:=⟨[.val true (.bor (.seq .b (.own .w)))],[(true,(.frz ax))]⟩
def R.j8 (b_0:ax.den):Res (ax.den) :=
 given (j8.g.i b_0) (bd (ok b_0.2) fun r1=>given (ma (.int .u32) r1) (ok ((b_0.1,r1))))
abbrev bx.g:Sg:=⟨[.val true (.frz aC)],[(true,(.frz aC)),vi]⟩
def R.bx (v_0:aC.den):Res ((aC.den×Int)) :=
 given (bx.g.i v_0) (bd (R.bl v_0) fun r1=>given (bl.g.o r1) (br (r1.1 == 4) (bd (R.j8 r1.2.2.1) fun r2=>given (j8.g.o r2) (bd (R.dB r2) fun r3=>given (dB.g.o r3) (ok ((r3,0))))) (bd (R.bP r1) fun r4=>given (bP.g.o r4) (br (!(r4.2 == 0)) (ok ((zV,r4.2))) (bd (R.b8 r4.1) fun r5=>given (b8.g.o r5) (ok ((r5,0))))))))
abbrev cf.g:Sg:=⟨[.val true (.bor (.seq .b (.own .w)))],[(false,(.own .w))]⟩
def R.cf (a_0:ax.den):Res ((List Int)) :=
 given (cf.g.i a_0) (bd (R.jy a_0) fun r1=>br (!r1) (ok (([]:List Int))) (bd (ok a_0.2) fun r2=>given (ma (.int .u32) r2) (ok r2)))
abbrev fg.g:Sg:=⟨[.val true (.bor (.seq .b (.own .w)))],[vb]⟩
def R.fg (a_0:ax.den):Res (Bool) :=
 given (fg.g.i a_0) (bd (R.jy a_0) fun r1=>br r1 (ok (a_0.1)) (ok false))
abbrev iD.g:Sg:=⟨[.val false (.frz (.list (.int .u32)))],[(false,(.frz (.list (.int .u32))))]⟩
def R.iD (m_0:(List Int)):Res ((List Int)) :=
 given (iD.g.i m_0) (bd (loop (α:=(List Int)) (β:=(List Int)) (fun m1=>bd (α:=Bool) (br (ilt 0 (m1.length:Int)) (idx (.int .u32) m1 (IntKind.wrap .i64 ((m1.length:Int)-1)) fun e2=>ok ((e2 == 0))) (ok false)) fun x3=>br x3 (ah (ile 0 (IntKind.wrap .i64 ((m1.length:Int)-1)) && ile (IntKind.wrap .i64 ((m1.length:Int)-1)) m1.length) (ok (.next ((List.take (Int.toNat (IntKind.wrap .i64 ((m1.length:Int)-1))) m1))))) (ok (.done (m1)))) fuel m_0) fun m4=>ok m4)
end Go.Mach
end

set_option linter.unusedVariables false
set_option maxRecDepth 20000
noncomputable section
namespace Go.Mach
open Res
abbrev fk.g:Sg:=⟨[.val false (.own .w)],[(false,(.own .w))]⟩
def R.fk (m_0:(List Int)):Res ((List Int)) :=
 given (fk.g.i m_0) (bd (loop (α:=(List Int)) (β:=(List Int)) (fun m1=>bd (α:=Bool) (br (ilt 0 (m1.length:Int)) (ah (ile 0 (IntKind.wrap .i64 ((m1.length:Int)-1)) && ilt (IntKind.wrap .i64 ((m1.length:Int)-1)) m1.length) (idx (.int .u32) m1 (0+Int.toNat (IntKind.wrap .i64 ((m1.length:Int)-1))) fun e2=>ok ((e2 == 0)))) (ok false)) fun x3=>br x3 (ah (ile 0 (IntKind.wrap .i64 ((m1.length:Int)-1)) && ile (IntKind.wrap .i64 ((m1.length:Int)-1)) m1.length) (ok (.next ((List.take (Int.toNat (IntKind.wrap .i64 ((m1.length:Int)-1))) (List.drop 0 m1)))))) (ok (.done (m1)))) fuel m_0) fun m4=>ok m4)
abbrev dQ.g:Sg:=⟨[.val false (.frz (.list (.int .u32))),.b],[(true,(.frz ax))]⟩
def R.dQ (m_0:(List Int)) (neg_1:Bool):Res (ax.den) :=
 given (dQ.g.i (m_0,neg_1)) (bd (R.iD m_0) fun r1=>given (iD.g.o r1) (br ((r1.length:Int) == 0) (ok ((false,([]:List Int)))) (ok ((neg_1,r1)))))
abbrev kU.g:Sg:=⟨[.val true (.bor (.seq .b (.own .w)))],[(true,(.frz ax))]⟩
def R.kU (a_0:ax.den):Res (ax.den) :=
 given (kU.g.i a_0) (bd (R.cf a_0) fun r1=>given (cf.g.o r1) (bd (R.fg a_0) fun r2=>bd (R.dQ r1 (!r2)) fun r3=>given (dQ.g.o r3) (ok r3)))
abbrev gR.g:Sg:=⟨[.val true (.frz aH)],[vi]⟩
def R.gR (a_0:aH.den):Res (Int) :=
 given (gR.g.i a_0) (bd (R.da a_0) fun r1=>given (da.g.o r1) (br (!(r1.1 == 0)) (ok 0) (ok (IntKind.wrap .i64 (IntKind.wrap .u32 r1.2)))))
abbrev jc.g:Sg:=⟨[.val true (.frz aH)],[vi]⟩
def R.jc (a_0:aH.den):Res (Int) :=
 given (jc.g.i a_0) (bd (R.gR a_0) fun r1=>given (gR.g.o r1) (ok (IntKind.wrap .i64 (IntKind.wrap .i32 (IntKind.wrap .u32 r1)))))
abbrev lN.g:Sg:=⟨[.i,.val true (.frz aH),.val true (.frz aH)],[(true,(.frz aH))]⟩
def R.lN (op_0:Int) (a_1:aH.den) (b_2:aH.den):Res (aH.den) :=
 given (lN.g.i (op_0,(a_1,b_2))) (bd (R.jc a_1) fun r1=>given (jc.g.o r1) (bd (R.jc b_2) fun r2=>given (jc.g.o r2) (bd (R.gR b_2) fun r3=>given (gR.g.o r3) (ah (!(32 == 0)) (br (op_0 == 1) (bd (R.cK (fm .and .i64 r1 r2)) fun r4=>given (cK.g.o r4) (ok r4)) (br (op_0 == 2) (bd (R.cK (fm .or .i64 r1 r2)) fun r5=>given (cK.g.o r5) (ok r5)) (br (op_0 == 3) (bd (R.cK (fm .xor .i64 r1 r2)) fun r6=>given (cK.g.o r6) (ok r6)) (br (op_0 == 4) (ah (ile 0 (Int.tmod r3 32)) (bd (R.cK (IntKind.wrap .i64 (IntKind.wrap .i32 (nf .u32 (IntKind.wrap .u32 r1) (Int.tmod r3 32))))) fun r7=>given (cK.g.o r7) (ok r7))) (br (op_0 == 5) (ah (ile 0 (Int.tmod r3 32)) (bd (R.cK (ir .i64 r1 (Int.tmod r3 32))) fun r8=>given (cK.g.o r8) (ok r8))) (br (op_0 == 6) (bd (R.gR a_1) fun r9=>given (gR.g.o r9) (ah (ile 0 (Int.tmod r3 32)) (bd (R.cK (ir .i64 r9 (Int.tmod r3 32))) fun r10=>given (cK.g.o r10) (ok r10)))) (bd (R.dv) fun r11=>given (dv.g.o r11) (ok r11))))))))))))
abbrev jO.g:Sg:=⟨[.s,.val true (.frz aC)],[(true,(.frz aC)),vi]⟩
def R.jO (op_0:(List UInt8)) (v_1:aC.den):Res ((aC.den×Int)) :=
 given (jO.g.i (op_0,v_1)) (br (op_0 == [33]) (bd (R.fa v_1) fun r1=>bd (R.bE (!r1)) fun r2=>given (bE.g.o r2) (ok ((r2,0)))) (br (op_0 == [118,111,105,100]) (ok ((zV,0))) (br (op_0 == [43]) (bd (R.bP v_1) fun r3=>given (bP.g.o r3) (br (!(r3.2 == 0)) (ok ((zV,r3.2))) (bd (R.b8 r3.1) fun r4=>given (b8.g.o r4) (ok ((r4,0)))))) (bd (α:=Bool) (br (op_0 == [45]) (ok ((op_0 == [45]))) (ok ((op_0 == [126])))) fun x5=>br x5 (bd (R.bx v_1) fun r6=>given (bx.g.o r6) (br (!(r6.2 == 0)) (ok ((zV,r6.2))) (bd (α:=Bool) (br (op_0 == [45]) (ok ((r6.1.1 == 4))) (ok false)) fun x7=>br x7 (bd (R.kU r6.1.2.2.1) fun r8=>given (kU.g.o r8) (bd (R.dB r8) fun r9=>given (dB.g.o r9) (ok ((r9,0))))) (br (op_0 == [45]) (bd (R.kZ r6.1.2.1) fun r10=>given (kZ.g.o r10) (bd (R.b8 r10) fun r11=>given (b8.g.o r11) (ok ((r11,0))))) (br (r6.1.1 == 4) (ok ((zV,3))) (bd (R.lN 3 r6.1.2.1 (0,(-1))) fun r12=>given (lN.g.o r12) (bd (R.b8 r12) fun r13=>given (b8.g.o r13) (ok ((r13,0)))))))))) (ok ((zV,3)))))))
abbrev bm.g:Sg:=⟨[.obj aG,.val true (.frz aC),.i],[(true,(.frz aC)),vi]⟩
def R.bm (r_0:aG.den) (v_1:aC.den) (s_2:Int):Res ((aC.den×Int)×aG.den) :=
 given (bm.g.i (r_0,(v_1,s_2))) (br (!(s_2 == 0)) (bd (R.aF r_0 s_2) fun r1=>given (aF.g.o r1) (ok r1)) (ok (((v_1,0),r_0))))
abbrev ay.g:Sg:=⟨[.val false (.bor dz),.i],[vi]⟩
def R.ay (h_0:gy.den) (ref_1:Int):Res (Int) :=
 given (ay.g.i (h_0,ref_1)) (bd (R.bB h_0 ref_1) fun r1=>br (!r1) (ok 0) (dC kv h_0.2 ref_1 fun e2=>ok (e2.1)))
abbrev gF.g:Sg:=⟨[.i],[vs]⟩
def R.gF (ref_0:Int):Res ((List UInt8)) :=
 given (gF.g.i ref_0) (bd (R.cX) fun r1=>given (cX.g.o r1) (bd (α:=Bool) (br (ilt ref_0 4096) (ok true) (ok ((ile (IntKind.wrap .i64 (4096+(r1.length:Int))) ref_0)))) fun x2=>br x2 (ok (([]:List UInt8))) (ah (ile 0 (IntKind.wrap .i64 (ref_0-4096)) && ilt (IntKind.wrap .i64 (ref_0-4096)) r1.length) (idx .str r1 (0+Int.toNat (IntKind.wrap .i64 (ref_0-4096))) fun e3=>ok e3))))
abbrev gz.g:Sg:=⟨[.s],[vb]⟩
def R.gz (s_0:(List UInt8)):Res (Bool) :=
 given (gz.g.i s_0) (br (!(s_0 == ([]:List UInt8))) (br (!(s_0 == [65,116,111,109,105,99,115])) (br (!(s_0 == [36,50,54,50])) (ok ((!(s_0 == [36,50,54,50,46,97,103,101,110,116])))) (ok false)) (ok false)) (ok false))
abbrev fy.g:Sg:=⟨[.val false (.bor aG),.val true (.bor (.seq .i (.seq (.frz aH) (.seq (.seq .b (.own .w)) (.seq (.own .h) .i)))))],[vs]⟩
def R.fy (r_0:((List aE.den)×(eu.den×((List fF.den)×(Int×(gy.den×(Int×(Int×(eZ.den×gl.den))))))))) (v_1:aC.den):Res ((List UInt8)) :=
 given (fy.g.i (r_0,v_1)) (br (v_1.1 == 0) (ok ([117,110,100,101,102,105,110,101,100])) (br (v_1.1 == 2) (ok ([98,111,111,108,101,97,110])) (br (v_1.1 == 3) (ok ([110,117,109,98,101,114])) (br (v_1.1 == 4) (ok ([98,105,103,105,110,116])) (br (v_1.1 == 5) (ok ([115,116,114,105,110,103])) (br (v_1.1 == 6) (bd (α:=Bool) (bd (R.ay r_0.2.2.2.2.1 v_1.2.2.2.2) fun r1=>given (ay.g.o r1) (br (r1 == 3) (ok true) (bd (R.gF v_1.2.2.2.2) fun r2=>given (gF.g.o r2) (bd (R.gz r2) fun r3=>ok r3)))) fun x4=>br x4 (ok ([102,117,110,99,116,105,111,110])) (ok ([111,98,106,101,99,116]))) (ok ([111,98,106,101,99,116]))))))))
abbrev jC.g:Sg:=⟨[.val true (.bor (.seq .i (.seq (.frz aH) (.seq (.seq .b (.own .w)) (.seq (.own .h) .i)))))],[vb]⟩
def R.jC (v_0:aC.den):Res (Bool) :=
 given (jC.g.i v_0) (br (v_0.1 == 0) (ok true) (ok ((v_0.1 == 1))))
abbrev lC.g:Sg:=⟨[.val true (.frz aH)],[vs]⟩
def R.lC (a_0:aH.den):Res ((List UInt8)) :=
 given (lC.g.i a_0) (bd (R.da a_0) fun r1=>given (da.g.o r1) (br (r1.1 == 2) (ok ([78,97,78])) (br (r1.1 == 3) (ok ([73,110,102,105,110,105,116,121])) (br (r1.1 == 4) (ok ([45,73,110,102,105,110,105,116,121])) (bd (rU r1.2) fun r2=>given (rQ.g.o r2) (ok r2))))))
abbrev bc.g:Sg:=⟨[.obj (.own .y)],[]⟩
def R.bc (s_0:(List Int)):Res (Unit×(List Int)) :=
 given (bc.g.i s_0) (bd (loop (α:=(Int×(Int×(List Int)))) (β:=(List Int)) (fun i1=>br (ilt i1.1 i1.2.1) (ah (ile 0 i1.2.1 && ilt i1.2.1 i1.2.2.length) (idx (.int .u8) i1.2.2 (0+Int.toNat i1.2.1) fun e2=>ah (ile 0 i1.1 && ilt i1.1 i1.2.2.length) (idx (.int .u8) i1.2.2 (0+Int.toNat i1.1) fun e3=>ah (ile 0 i1.1 && ilt i1.1 i1.2.2.length) (idx (.int .u8) i1.2.2 (0+Int.toNat i1.1) fun e4=>ah (ile 0 i1.2.1 && ilt i1.2.1 (List.set i1.2.2 (0+Int.toNat i1.1) e2).length) (idx (.int .u8) (List.set i1.2.2 (0+Int.toNat i1.1) e2) (0+Int.toNat i1.2.1) fun e5=>ok (.next ((IntKind.wrap .i64 (i1.1+1),(IntKind.wrap .i64 (i1.2.1-1),(List.set (List.set i1.2.2 (0+Int.toNat i1.1) e2) (0+Int.toNat i1.2.1) e3)))))))))) (ok (.done (i1.2.2)))) fuel (0,(IntKind.wrap .i64 ((s_0.length:Int)-1),s_0))) fun x6=>ok (((),x6)))
abbrev kA.g:Sg:=⟨[.val true (.bor (.seq .b (.own .w)))],[vs]⟩
def R.kA (a_0:ax.den):Res ((List UInt8)) :=
 given (kA.g.i a_0) (bd (R.cf a_0) fun r1=>given (cf.g.o r1) (br ((r1.length:Int) == 0) (ok ([48])) (bd (loop (α:=((List Int)×(List Int))) (β:=(List Int)) (fun m2=>br (ilt 0 (m2.1.length:Int)) (bd (loop (α:=(Int×(Int×(List Int)))) (β:=(Int×(List Int))) (fun r3=>br (ile 0 r3.2.1) (ah (ile 0 32) (ah (ile 0 r3.2.1 && ilt r3.2.1 r3.2.2.length) (idx (.int .u32) r3.2.2 (0+Int.toNat r3.2.1) fun e4=>ah (!(10 == 0)) (ah (ile 0 r3.2.1 && ilt r3.2.1 r3.2.2.length) (idx (.int .u32) r3.2.2 (0+Int.toNat r3.2.1) fun e5=>ah (!(10 == 0)) (ok (.next ((Int.tmod (fm .or .u64 (nf .u64 r3.1 32) (IntKind.wrap .u64 e4)) 10,(IntKind.wrap .i64 (r3.2.1-1),(List.set r3.2.2 (0+Int.toNat r3.2.1) (IntKind.wrap .u32 (IntKind.wrap .u64 (Int.tdiv (fm .or .u64 (nf .u64 r3.1 32) (IntKind.wrap .u64 e4)) 10)))))))))))))) (ok (.done ((r3.1,r3.2.2))))) fuel (0,(IntKind.wrap .i64 ((m2.1.length:Int)-1),m2.1))) fun r6=>ah (decide ((m2.2.length+[IntKind.wrap .u8 (IntKind.wrap .u64 (48+r6.1))].length)*1<=2^47)) (bd (R.fk r6.2) fun r7=>given (fk.g.o r7) (ok (.next ((r7,(m2.2++[IntKind.wrap .u8 (IntKind.wrap .u64 (48+r6.1))]))))))) (ok (.done (m2.2)))) fuel (r1,([]:List Int))) fun l8=>bd (R.fg a_0) fun r9=>br r9 (ah (decide ((l8.length+[45].length)*1<=2^47)) (bd (R.bc (l8++[45])) fun r10=>given (bc.g.o r10) (ok (rR r10.2)))) (bd (R.bc l8) fun r11=>given (bc.g.o r11) (ok (rR r11.2))))))
abbrev cm.g:Sg:=⟨[.val true (.frz aC)],[(false,(.own .h)),vi]⟩
def R.cm (v_0:aC.den):Res (((List Int)×Int)) :=
 given (cm.g.i v_0) (bd (R.bl v_0) fun r1=>given (bl.g.o r1) (br (r1.1 == 0) (bd (R.ai [117,110,100,101,102,105,110,101,100]) fun r2=>given (ai.g.o r2) (ok ((r2,0)))) (br (r1.1 == 1) (bd (R.ai [110,117,108,108]) fun r3=>given (ai.g.o r3) (ok ((r3,0)))) (br (r1.1 == 2) (br (r1.2.2.2.2 == 1) (bd (R.ai [116,114,117,101]) fun r4=>given (ai.g.o r4) (ok ((r4,0)))) (bd (R.ai [102,97,108,115,101]) fun r5=>given (ai.g.o r5) (ok ((r5,0))))) (br (r1.1 == 3) (bd (R.lC r1.2.1) fun r6=>given (lC.g.o r6) (bd (R.ai r6) fun r7=>given (ai.g.o r7) (ok ((r7,0))))) (br (r1.1 == 4) (bd (R.kA r1.2.2.1) fun r8=>given (kA.g.o r8) (bd (R.ai r8) fun r9=>given (ai.g.o r9) (ok ((r9,0))))) (br (r1.1 == 5) (bd (ok r1.2.2.2.1) fun r10=>given (ma (.int .u16) r10) (ok ((r10,0)))) (ok ((([]:List Int),3))))))))))
abbrev bY.g:Sg:=⟨[.i],[(true,(.frz aC))]⟩
def R.bY (n_0:Int):Res (aC.den) :=
 given (bY.g.i n_0) (bd (R.b8 (0,n_0)) fun r1=>given (b8.g.o r1) (ok r1))
abbrev eI.g:Sg:=⟨[.val false (.bor (.own .h))],[vi,vb]⟩
def R.eI (u_0:(List Int)):Res ((Int×Bool)) :=
 given (eI.g.i u_0) (bd (α:=Bool) (br ((u_0.length:Int) == 0) (ok true) (br (ilt 10 (u_0.length:Int)) (ok true) (dC .h u_0 0 fun e1=>br (e1 == 48) (ok ((ilt 1 (u_0.length:Int)))) (ok false)))) fun x2=>br x2 (ok ((0,false))) (bd (loop (α:=(Int×Int)) (β:=(Int ⊕ (Int×Bool))) (fun n3=>br (ilt n3.2 (u_0.length:Int)) (dC .h u_0 n3.2 fun e4=>bd (R.gT e4) fun r5=>br (!r5) (ok (.done (.inr (0,false)))) (ok (.next ((IntKind.wrap .i64 ((IntKind.wrap .i64 (10*n3.1))+(IntKind.wrap .i64 (IntKind.wrap .u16 (e4-48)))),IntKind.wrap .i64 (n3.2+1)))))) (ok (.done (.inl n3.1)))) fuel (0,0)) fun n6=>sum n6 (fun n7=>br (ilt 4294967294 n7) (ok ((0,false))) (ok ((n7,true)))) (fun z8=>ok z8)))
abbrev gA.g:Sg:=⟨[.obj aG,.val false (.bor (.own .h)),.val false (.bor (.own .h))],[(true,(.frz aC)),vi]⟩
def R.gA (r_0:aG.den) (u_1:(List Int)) (key_2:(List Int)):Res ((aC.den×Int)×aG.den) :=
 given (gA.g.i (r_0,(u_1,key_2))) (bd (R.ai [108,101,110,103,116,104]) fun r1=>given (ai.g.o r1) (bd (R.gf key_2 r1) fun r2=>br r2 (bd (R.bY (u_1.length:Int)) fun r3=>given (bY.g.o r3) (ok (((r3,0),r_0)))) (bd (R.eI key_2) fun r4=>given (eI.g.o r4) (br (!r4.2) (bd (R.aK r_0) fun r5=>given (aK.g.o r5) (ok r5)) (br (ile (u_1.length:Int) r4.1) (ok (((zV,0),r_0))) (ah (ile 0 r4.1 && (ile r4.1 (IntKind.wrap .i64 (r4.1+1)) && ile (IntKind.wrap .i64 (r4.1+1)) u_1.length)) (bd (R.bw (List.take ((Int.toNat (IntKind.wrap .i64 (r4.1+1)))-(Int.toNat r4.1)) (List.drop (0+(Int.toNat r4.1)) u_1))) fun r6=>given (bw.g.o r6) (ok (((r6,0),r_0))))))))))
abbrev aj.g:Sg:=⟨[.val false (.bor dz),.i],[(true,kq),vb]⟩
def R.aj (h_0:gy.den) (ref_1:Int):Res ((kq.den×Bool)) :=
 given (aj.g.i (h_0,ref_1)) (bd (R.bB h_0 ref_1) fun r1=>br (!r1) (ok (((0,(0,((),((),(([]:List UInt8),(0,(0,(zV,(0,(0,(0,(0,())))))))))))),false))) (dC kv h_0.2 ref_1 fun e2=>ok (((e2.1,(e2.2.1,((),((),(e2.2.2.2.2.1,(e2.2.2.2.2.2.1,(e2.2.2.2.2.2.2.1,(e2.2.2.2.2.2.2.2.1,(e2.2.2.2.2.2.2.2.2.1,(e2.2.2.2.2.2.2.2.2.2.1,(e2.2.2.2.2.2.2.2.2.2.2.1,(e2.2.2.2.2.2.2.2.2.2.2.2.1,())))))))))))),true))))
abbrev cM.g:Sg:=⟨[.val false (.bor dz),.i,.val false (.bor (.own .h))],[(true,(.frz aC)),vb]⟩
def R.cM (h_0:gy.den) (ref_1:Int) (key_2:(List Int)):Res ((aC.den×Bool)) :=
 given (cM.g.i (h_0,(ref_1,key_2))) (bd (R.bB h_0 ref_1) fun r1=>br (!r1) (ok ((zV,false))) (bd (R.dA h_0 ref_1 key_2) fun r2=>given (dA.g.o r2) (br (ilt r2 0) (ok ((zV,false))) (dC kv h_0.2 ref_1 fun e3=>dC (.frz bO) e3.2.2.1 r2 fun e4=>bd (R.dJ e4.2) fun r5=>given (dJ.g.o r5) (ok ((r5,true)))))))
abbrev db.g:Sg:=⟨[.val false (.bor dz),.i,.val false (.bor (.own .h))],[(true,(.frz aC)),vi,vb]⟩
def R.db (h_0:gy.den) (ref_1:Int) (key_2:(List Int)):Res ((aC.den×(Int×Bool))) :=
 given (db.g.i (h_0,(ref_1,key_2))) (bd (loop (α:=(Int×Int)) (β:=(Unit ⊕ (Int×(Bool×aC.den)))) (fun ref1=>br (ilt ref1.2 (h_0.2.length:Int)) (bd (R.cM h_0 ref1.1 key_2) fun r2=>given (cM.g.o r2) (br r2.2 (ok (.done (.inr (0,(true,r2.1))))) (bd (R.bB h_0 ref1.1) fun r3=>br (!r3) (ok (.done (.inr ((-2),(false,zV))))) (dC kv h_0.2 ref1.1 fun e4=>br (ilt e4.2.1 0) (ok (.done (.inr (e4.2.1,(false,zV))))) (ok (.next ((e4.2.1,IntKind.wrap .i64 (ref1.2+1))))))))) (ok (.done (.inl ())))) fuel (ref_1,0)) fun x5=>sum x5 (fun x6=>ok ((zV,((-2),false)))) (fun z7=>ok ((z7.2.2,(z7.1,z7.2.1)))))
abbrev gQ.g:Sg:=⟨[.s],[vb]⟩
def R.gQ (s_0:(List UInt8)):Res (Bool) :=
 given (gQ.g.i s_0) (bd (α:=Bool) (br (s_0 == [99,111,110,115,116,114,117,99,116,111,114]) (ok ((s_0 == [99,111,110,115,116,114,117,99,116,111,114]))) (br (s_0 == [95,95,100,101,102,105,110,101,71,101,116,116,101,114,95,95]) (ok ((s_0 == [95,95,100,101,102,105,110,101,71,101,116,116,101,114,95,95]))) (br (s_0 == [95,95,100,101,102,105,110,101,83,101,116,116,101,114,95,95]) (ok ((s_0 == [95,95,100,101,102,105,110,101,83,101,116,116,101,114,95,95]))) (br (s_0 == [104,97,115,79,119,110,80,114,111,112,101,114,116,121]) (ok ((s_0 == [104,97,115,79,119,110,80,114,111,112,101,114,116,121]))) (br (s_0 == [95,95,108,111,111,107,117,112,71,101,116,116,101,114,95,95]) (ok ((s_0 == [95,95,108,111,111,107,117,112,71,101,116,116,101,114,95,95]))) (br (s_0 == [95,95,108,111,111,107,117,112,83,101,116,116,101,114,95,95]) (ok ((s_0 == [95,95,108,111,111,107,117,112,83,101,116,116,101,114,95,95]))) (br (s_0 == [105,115,80,114,111,116,111,116,121,112,101,79,102]) (ok ((s_0 == [105,115,80,114,111,116,111,116,121,112,101,79,102]))) (br (s_0 == [112,114,111,112,101,114,116,121,73,115,69,110,117,109,101,114,97,98,108,101]) (ok ((s_0 == [112,114,111,112,101,114,116,121,73,115,69,110,117,109,101,114,97,98,108,101]))) (br (s_0 == [116,111,83,116,114,105,110,103]) (ok ((s_0 == [116,111,83,116,114,105,110,103]))) (br (s_0 == [118,97,108,117,101,79,102]) (ok ((s_0 == [118,97,108,117,101,79,102]))) (br (s_0 == [95,95,112,114,111,116,111,95,95]) (ok ((s_0 == [95,95,112,114,111,116,111,95,95]))) (ok ((s_0 == [116,111,76,111,99,97,108,101,83,116,114,105,110,103])))))))))))))) fun x1=>br x1 (ok true) (ok false))
abbrev bM.g:Sg:=⟨[.val false (.bor dz),.i],[vi]⟩
def R.bM (h_0:gy.den) (ref_1:Int):Res (Int) :=
 given (bM.g.i (h_0,ref_1)) (bd (R.bB h_0 ref_1) fun r1=>br (!r1) (ok 0) (dC kv h_0.2 ref_1 fun e2=>ok ((e2.2.2.1.length:Int))))
abbrev gB.g:Sg:=⟨[.obj aG,.i,.s,.val false (.bor (.own .h)),.b],[(true,(.frz aC)),vi]⟩
def R.gB (r_0:aG.den) (ref_1:Int) (s_2:(List UInt8)) (key_3:(List Int)) (place_4:Bool):Res ((aC.den×Int)×aG.den) :=
 given (gB.g.i (r_0,(ref_1,(s_2,(key_3,place_4))))) (br place_4 (bd (R.cM r_0.2.2.2.2.1 ref_1 key_3) fun r1=>given (cM.g.o r1) (ok (((r1.1,0),r_0)))) (br (s_2 == [108,101,110,103,116,104]) (bd (R.bM r_0.2.2.2.2.1 ref_1) fun r2=>given (bM.g.o r2) (bd (R.bY r2) fun r3=>given (bY.g.o r3) (ok (((r3,0),r_0))))) (bd (α:=Bool) (br (s_2 == [112,117,115,104]) (ok true) (ok ((s_2 == [112,111,112])))) fun x4=>br x4 (ah (lP ([65,114,114,97,121,35].length+s_2.length)) (bd (R.cW ([65,114,114,97,121,35]++s_2)) fun r5=>given (cW.g.o r5) (ok (((r5,0),r_0))))) (bd (R.aK r_0) fun r6=>given (aK.g.o r6) (ok r6)))))
abbrev dD.g:Sg:=⟨[.val false (.bor aG),.i],[vi]⟩
def R.dD (r_0:((List aE.den)×(eu.den×((List fF.den)×(Int×(gy.den×(Int×(Int×(eZ.den×gl.den))))))))) (ref_1:Int):Res (Int) :=
 given (dD.g.i (r_0,ref_1)) (bd (R.bB r_0.2.2.2.2.1 ref_1) fun r1=>br (!r1) (br (0 == 6) (ok 0) (ok 0)) (dC kv r_0.2.2.2.2.1.2 ref_1 fun e2=>br (e2.1 == 6) (ok (e2.2.2.2.2.2.2.2.2.2.2.2.1)) (ok ((e2.2.2.2.2.2.2.2.2.2.2.2.2.length:Int)))))
abbrev bN.g:Sg:=⟨[.i],[vi]⟩
def R.bN (kind_0:Int):Res (Int) :=
 given (bN.g.i kind_0) (bd (α:=Bool) (br (kind_0 == 1) (ok ((kind_0 == 1))) (ok ((kind_0 == 2)))) fun x1=>br x1 (ok 1) (bd (α:=Bool) (br (kind_0 == 3) (ok ((kind_0 == 3))) (ok ((kind_0 == 4)))) fun x2=>br x2 (ok 2) (bd (α:=Bool) (br (kind_0 == 5) (ok ((kind_0 == 5))) (ok ((kind_0 == 6)))) fun x3=>br x3 (ok 4) (bd (α:=Bool) (br (kind_0 == 7) (ok ((kind_0 == 7))) (ok ((kind_0 == 8)))) fun x4=>br x4 (ok 8) (ok 0)))))
abbrev c7.g:Sg:=⟨[.i],[vb]⟩
def R.c7 (kind_0:Int):Res (Bool) :=
 given (c7.g.i kind_0) (br (kind_0 == 7) (ok true) (ok ((kind_0 == 8))))
abbrev cZ.g:Sg:=⟨[.i],[vi]⟩
def R.cZ (size_0:Int):Res (Int) :=
 given (cZ.g.i size_0) (br (size_0 == 1) (ok 2) (br (size_0 == 2) (ok 4) (br (size_0 == 4) (ok 6) (ok 8))))
abbrev gg.g:Sg:=⟨[.i,.val false (.bor (.own .y))],[(false,(.frz (.int .u64))),vb]⟩
def R.gg (kind_0:Int) (b_1:(List Int)):Res ((Int×Bool)) :=
 given (gg.g.i (kind_0,b_1)) (bd (α:=Bool) (bd (R.bN kind_0) fun r1=>given (bN.g.o r1) (br (r1 == 0) (ok true) (bd (R.bN kind_0) fun r2=>given (bN.g.o r2) (ok ((!((b_1.length:Int) == r2))))))) fun x3=>br x3 (ok ((0,false))) (bd (loop (α:=(Int×Int)) (β:=Int) (fun w4=>br (ilt w4.2 (b_1.length:Int)) (dC .y b_1 w4.2 fun e5=>ah (ile 0 (IntKind.wrap .i64 (8*w4.2))) (ok (.next ((fm .or .u64 w4.1 (nf .u64 (IntKind.wrap .u64 e5) (IntKind.wrap .i64 (8*w4.2))),IntKind.wrap .i64 (w4.2+1)))))) (ok (.done (w4.1)))) fuel (0,0)) fun w6=>ok ((w6,true))))
abbrev bX.g:Sg:=⟨[.obj aG,.val true (.frz eZ)],[(true,(.frz fF)),vi]⟩
def R.bX (r_0:aG.den) (q_1:eZ.den):Res ((fF.den×Int)×aG.den) :=
 given (bX.g.i (r_0,q_1)) (br (r_0.2.2.2.1 == (r_0.2.2.1.length:Int)) (bd (R.cA (r_0.1,(r_0.2.1,(r_0.2.2.1,(r_0.2.2.2.1,(r_0.2.2.2.2.1,(r_0.2.2.2.2.2.1,(r_0.2.2.2.2.2.2.1,(q_1,r_0.2.2.2.2.2.2.2.2)))))))) 0) fun r1=>given (cA.g.o r1) (ok ((((0,(0,(0,(0,([]:List Int))))),r1.1),r1.2)))) (idx fF r_0.2.2.1 (IntKind.wrap .i64 ((IntKind.wrap .i64 (r_0.2.2.2.1+1))-1)) fun e2=>bd (ok e2.2.2.2.2) fun r3=>given (ma (.int .u16) r3) (ok ((((e2.1,(e2.2.1,(e2.2.2.1,(e2.2.2.2.1,r3)))),0),(r_0.1,(r_0.2.1,(r_0.2.2.1,(IntKind.wrap .i64 (r_0.2.2.2.1+1),r_0.2.2.2.2)))))))))
abbrev cj.g:Sg:=⟨[.obj aG,.val true kq,.i,.i,.b,.b],[(false,(.frz (.int .u64))),vi]⟩
def R.cj (r_0:aG.den) (c_1:kq.den) (at_2:Int) (size_3:Int) (seq_4:Bool) (noTear_5:Bool):Res ((Int×Int)×aG.den) :=
 given (cj.g.i (r_0,(c_1,(at_2,(size_3,(seq_4,noTear_5)))))) (bd (R.bB r_0.2.2.2.2.1 c_1.2.2.2.2.2.2.2.2.2.1) fun r1=>br (!r1) (br (0 == 5) (bd (R.cZ size_3) fun r2=>given (cZ.g.o r2) (ah (ile 0 at_2 && (ile at_2 (IntKind.wrap .i64 (at_2+size_3)) && ile (IntKind.wrap .i64 (at_2+size_3)) ([]:List Unit).length)) (bd (R.gg r2 ([]:List Int)) fun r3=>given (gg.g.o r3) (ok (((r3.1,0),r_0)))))) (bd (R.bX r_0 (2,(0,(at_2,(size_3,(0,(seq_4,(noTear_5,(0,(0,((0,0),(([]:List Int),0)))))))))))) fun r4=>given (bX.g.o r4) (ok (((r4.1.1.1,r4.1.2),r4.2))))) (dC kv r_0.2.2.2.2.1.2 c_1.2.2.2.2.2.2.2.2.2.1 fun e5=>ah ((Int.toNat c_1.2.2.2.2.2.2.2.2.2.1) == (Int.toNat c_1.2.2.2.2.2.2.2.2.2.1)) (br (e5.1 == 5) (bd (R.cZ size_3) fun r6=>given (cZ.g.o r6) (ah (ile 0 at_2 && (ile at_2 (IntKind.wrap .i64 (at_2+size_3)) && ile (IntKind.wrap .i64 (at_2+size_3)) e5.2.2.2.2.2.2.2.2.2.2.2.2.length)) (bd (R.gg r6 (List.take ((Int.toNat (IntKind.wrap .i64 (at_2+size_3)))-(Int.toNat at_2)) (List.drop (0+(Int.toNat at_2)) e5.2.2.2.2.2.2.2.2.2.2.2.2))) fun r7=>given (gg.g.o r7) (ok (((r7.1,0),(r_0.1,(r_0.2.1,(r_0.2.2.1,(r_0.2.2.2.1,((r_0.2.2.2.2.1.1,(List.set r_0.2.2.2.2.1.2 (Int.toNat c_1.2.2.2.2.2.2.2.2.2.1) e5)),r_0.2.2.2.2.2))))))))))) (bd (R.bX (r_0.1,(r_0.2.1,(r_0.2.2.1,(r_0.2.2.2.1,((r_0.2.2.2.2.1.1,(List.set r_0.2.2.2.2.1.2 (Int.toNat c_1.2.2.2.2.2.2.2.2.2.1) e5)),r_0.2.2.2.2.2))))) (2,(e5.2.2.2.2.2.2.2.2.2.1,(at_2,(size_3,(0,(seq_4,(noTear_5,(0,(0,((0,0),(([]:List Int),0)))))))))))) fun r8=>given (bX.g.o r8) (ok (((r8.1.1.1,r8.1.2),r8.2)))))))
abbrev gi.g:Sg:=⟨[.val false (.frz (.int .u64)),.b],[(true,(.frz ax))]⟩
def R.gi (w_0:Int) (signed_1:Bool):Res (ax.den) :=
 given (gi.g.i (w_0,signed_1)) (bd (α:=Bool) (br signed_1 (ah (ile 0 63) (ok (((ir .u64 w_0 63) == 1)))) (ok false)) fun neg1=>bd (α:=Int) (br neg1 (ok (IntKind.wrap .u64 (0-w_0))) (ok w_0)) fun w2=>ah (ile 0 32) (bd (R.dQ [IntKind.wrap .u32 w2,IntKind.wrap .u32 (ir .u64 w2 32)] neg1) fun r3=>given (dQ.g.o r3) (ok r3)))
abbrev jQ.g:Sg:=⟨[.i,.val false (.frz (.int .u64))],[(true,(.frz ax))]⟩
def R.jQ (kind_0:Int) (w_1:Int):Res (ax.den) :=
 given (jQ.g.i (kind_0,w_1)) (bd (R.c7 kind_0) fun r1=>br (!r1) (ok ((false,([]:List Int)))) (bd (R.gi w_1 (kind_0 == 7)) fun r2=>given (gi.g.o r2) (ok r2)))
abbrev ef.g:Sg:=⟨[.i,.val false (.frz (.int .u64))],[(false,(.frz (.int .u64)))]⟩
def R.ef (kind_0:Int) (w_1:Int):Res (Int) :=
 given (ef.g.i (kind_0,w_1)) (bd (R.bN kind_0) fun r1=>given (bN.g.o r1) (br (ilt r1 8) (ah (ile 0 (IntKind.wrap .i64 (8*r1))) (ok (fm .and .u64 w_1 (IntKind.wrap .u64 ((nf .u64 1 (IntKind.wrap .i64 (8*r1)))-1))))) (ok w_1)))
abbrev jL.g:Sg:=⟨[.i,.val false (.frz (.int .u64))],[(true,(.frz aH))]⟩
def R.jL (kind_0:Int) (w_1:Int):Res (aH.den) :=
 given (jL.g.i (kind_0,w_1)) (br (kind_0 == 1) (ok ((0,IntKind.wrap .i64 (IntKind.wrap .i8 w_1)))) (br (kind_0 == 3) (ok ((0,IntKind.wrap .i64 (IntKind.wrap .i16 w_1)))) (br (kind_0 == 5) (ok ((0,IntKind.wrap .i64 (IntKind.wrap .i32 w_1)))) (bd (α:=Bool) (br (kind_0 == 2) (ok ((kind_0 == 2))) (br (kind_0 == 4) (ok ((kind_0 == 4))) (ok ((kind_0 == 6))))) fun x1=>br x1 (bd (R.ef kind_0 w_1) fun r2=>given (ef.g.o r2) (ok ((0,IntKind.wrap .i64 r2)))) (ok ((0,0)))))))
abbrev ct.g:Sg:=⟨[.i,.val false (.frz (.int .u64))],[(true,(.frz aC))]⟩
def R.ct (kind_0:Int) (w_1:Int):Res (aC.den) :=
 given (ct.g.i (kind_0,w_1)) (bd (R.c7 kind_0) fun r1=>br r1 (bd (R.jQ kind_0 w_1) fun r2=>given (jQ.g.o r2) (bd (R.dB r2) fun r3=>given (dB.g.o r3) (ok r3))) (bd (R.jL kind_0 w_1) fun r4=>given (jL.g.o r4) (bd (R.b8 r4) fun r5=>given (b8.g.o r5) (ok r5))))
abbrev dh.g:Sg:=⟨[.obj aG,.val true kq,.i],[(true,(.frz aC)),vi]⟩
def R.dh (r_0:aG.den) (c_1:kq.den) (n_2:Int):Res ((aC.den×Int)×aG.den) :=
 given (dh.g.i (r_0,(c_1,n_2))) (bd (R.bN c_1.2.2.2.2.2.2.2.2.1) fun r1=>given (bN.g.o r1) (bd (R.c7 c_1.2.2.2.2.2.2.2.2.1) fun r2=>bd (R.cj r_0 (c_1.1,(c_1.2.1,((),((),(c_1.2.2.2.2.1,(c_1.2.2.2.2.2.1,(c_1.2.2.2.2.2.2.1,(c_1.2.2.2.2.2.2.2.1,(c_1.2.2.2.2.2.2.2.2.1,(c_1.2.2.2.2.2.2.2.2.2.1,(c_1.2.2.2.2.2.2.2.2.2.2.1,(c_1.2.2.2.2.2.2.2.2.2.2.2.1,())))))))))))) (IntKind.wrap .i64 (c_1.2.2.2.2.2.2.2.2.2.2.1+(IntKind.wrap .i64 (n_2*r1)))) r1 false (!r2)) fun r3=>given (cj.g.o r3) (br (!(r3.1.2 == 0)) (ok (((zV,r3.1.2),r3.2))) (bd (R.ct c_1.2.2.2.2.2.2.2.2.1 r3.1.1) fun r4=>given (ct.g.o r4) (ok (((r4,0),r3.2)))))))
abbrev eo.g:Sg:=⟨[.obj aG,.val true kq,.s,.i],[(true,(.frz aC)),vi]⟩
def R.eo (r_0:aG.den) (c_1:kq.den) (s_2:(List UInt8)) (size_3:Int):Res ((aC.den×Int)×aG.den) :=
 given (eo.g.i (r_0,(c_1,(s_2,size_3)))) (bd (α:=(Unit ⊕ (Int×aC.den))) (br (s_2 == [98,121,116,101,76,101,110,103,116,104]) (bd (R.bY (IntKind.wrap .i64 (c_1.2.2.2.2.2.2.2.2.2.2.2.1*size_3))) fun r1=>given (bY.g.o r1) (ok (.inr (0,r1)))) (br (s_2 == [98,121,116,101,79,102,102,115,101,116]) (bd (R.bY c_1.2.2.2.2.2.2.2.2.2.2.1) fun r2=>given (bY.g.o r2) (ok (.inr (0,r2)))) (br (s_2 == [98,117,102,102,101,114]) (ok (.inr (0,(6,((0,0),((false,([]:List Int)),(([]:List Int),c_1.2.2.2.2.2.2.2.2.2.1))))))) (br (s_2 == [108,101,110,103,116,104]) (br (c_1.1 == 7) (bd (R.bY c_1.2.2.2.2.2.2.2.2.2.2.2.1) fun r3=>given (bY.g.o r3) (ok (.inr (0,r3)))) (ok (.inl ()))) (ok (.inl ())))))) fun x4=>sum x4 (fun x5=>bd (α:=Bool) (br (c_1.1 == 8) (bd (R.cX) fun r7=>given (cX.g.o r7) (ah (lP ([68,97,116,97,86,105,101,119,35].length+s_2.length)) (bd (R.aQ r7 ([68,97,116,97,86,105,101,119,35]++s_2)) fun r8=>ok r8))) (ok false)) fun x9=>br x9 (ah (lP ([68,97,116,97,86,105,101,119,35].length+s_2.length)) (bd (R.cW ([68,97,116,97,86,105,101,119,35]++s_2)) fun r10=>given (cW.g.o r10) (ok (((r10,0),r_0))))) (bd (R.aK r_0) fun r11=>given (aK.g.o r11) (ok r11))) (fun z6=>ok (((z6.2,z6.1),r_0))))
abbrev eX.g:Sg:=⟨[.obj aG,.i,.val false (.bor (.own .h))],[(true,(.frz aC)),vi]⟩
def R.eX (r_0:aG.den) (ref_1:Int) (key_2:(List Int)):Res ((aC.den×Int)×aG.den) :=
 given (eX.g.i (r_0,(ref_1,key_2))) (bd (R.eA key_2) fun r1=>given (eA.g.o r1) (bd (α:=(List UInt8)) (br (!r1.2) (ok ([35])) (ok (r1.1))) fun s2=>bd (R.aj r_0.2.2.2.2.1 ref_1) fun r3=>given (aj.g.o r3) (br (!r3.2) (bd (R.gF ref_1) fun r4=>given (gF.g.o r4) (bd (R.fT r4) fun r5=>given (fT.g.o r5) (bd (R.aQ r5 s2) fun r6=>br r6 (ah (lP (r4.length+[46].length)) (ah (lP ((r4++[46]).length+s2.length)) (bd (R.cW ((r4++[46])++s2)) fun r7=>given (cW.g.o r7) (ok (((r7,0),r_0)))))) (bd (R.aK r_0) fun r8=>given (aK.g.o r8) (ok r8))))) (bd (R.eI key_2) fun r9=>given (eI.g.o r9) (br (r3.1.1 == 1) (bd (R.db r_0.2.2.2.2.1 ref_1 key_2) fun r10=>given (db.g.o r10) (bd (α:=Bool) (br (!r10.2.2) (br (r10.2.1 == (-1)) (bd (R.gQ s2) fun r11=>ok r11) (ok false)) (ok false)) fun x12=>br x12 (bd (R.aK r_0) fun r13=>given (aK.g.o r13) (ok r13)) (ok (((r10.1,0),r_0))))) (br (r3.1.1 == 2) (bd (R.gB r_0 ref_1 s2 key_2 r9.2) fun r14=>given (gB.g.o r14) (ok r14)) (br (r3.1.1 == 3) (bd (R.cM r_0.2.2.2.2.1 ref_1 key_2) fun r15=>given (cM.g.o r15) (br r15.2 (ok (((r15.1,0),r_0))) (bd (R.aK r_0) fun r16=>given (aK.g.o r16) (ok r16)))) (br (r3.1.1 == 10) (br (s2 == [110,97,109,101]) (bd (R.ai r3.1.2.2.2.2.1) fun r17=>given (ai.g.o r17) (bd (R.bw r17) fun r18=>given (bw.g.o r18) (ok (((r18,0),r_0))))) (br (s2 == [109,101,115,115,97,103,101]) (ok (((r3.1.2.2.2.2.2.2.2.1,0),r_0))) (bd (R.aK r_0) fun r19=>given (aK.g.o r19) (ok r19)))) (bd (α:=Bool) (br (r3.1.1 == 5) (ok ((r3.1.1 == 5))) (ok ((r3.1.1 == 6)))) fun x20=>br x20 (br (s2 == [98,121,116,101,76,101,110,103,116,104]) (bd (R.dD r_0 ref_1) fun r21=>given (dD.g.o r21) (bd (R.bY r21) fun r22=>given (bY.g.o r22) (ok (((r22,0),r_0))))) (bd (R.aK r_0) fun r23=>given (aK.g.o r23) (ok r23))) (br (r3.1.1 == 7) (br r9.2 (br (ile r3.1.2.2.2.2.2.2.2.2.2.2.2.1 r9.1) (ok (((zV,0),r_0))) (bd (R.dh r_0 (r3.1.1,(r3.1.2.1,((),((),(r3.1.2.2.2.2.1,(r3.1.2.2.2.2.2.1,(r3.1.2.2.2.2.2.2.1,(r3.1.2.2.2.2.2.2.2.1,(r3.1.2.2.2.2.2.2.2.2.1,(r3.1.2.2.2.2.2.2.2.2.2.1,(r3.1.2.2.2.2.2.2.2.2.2.2.1,(r3.1.2.2.2.2.2.2.2.2.2.2.2.1,())))))))))))) r9.1) fun r24=>given (dh.g.o r24) (ok r24))) (bd (R.bN r3.1.2.2.2.2.2.2.2.2.1) fun r25=>given (bN.g.o r25) (bd (R.eo r_0 (r3.1.1,(r3.1.2.1,((),((),(r3.1.2.2.2.2.1,(r3.1.2.2.2.2.2.1,(r3.1.2.2.2.2.2.2.1,(r3.1.2.2.2.2.2.2.2.1,(r3.1.2.2.2.2.2.2.2.2.1,(r3.1.2.2.2.2.2.2.2.2.2.1,(r3.1.2.2.2.2.2.2.2.2.2.2.1,(r3.1.2.2.2.2.2.2.2.2.2.2.2.1,())))))))))))) s2 r25) fun r26=>given (eo.g.o r26) (ok r26)))) (br (r3.1.1 == 8) (bd (R.eo r_0 (r3.1.1,(r3.1.2.1,((),((),(r3.1.2.2.2.2.1,(r3.1.2.2.2.2.2.1,(r3.1.2.2.2.2.2.2.1,(r3.1.2.2.2.2.2.2.2.1,(r3.1.2.2.2.2.2.2.2.2.1,(r3.1.2.2.2.2.2.2.2.2.2.1,(r3.1.2.2.2.2.2.2.2.2.2.2.1,(r3.1.2.2.2.2.2.2.2.2.2.2.2.1,())))))))))))) s2 1) fun r27=>given (eo.g.o r27) (ok r27)) (bd (R.aK r_0) fun r28=>given (aK.g.o r28) (ok r28)))))))))))))
abbrev dw.g:Sg:=⟨[.obj aG,.val true (.frz fX)],[(true,(.frz aC)),vi]⟩
def R.dw (r_0:aG.den) (p_1:fX.den):Res ((aC.den×Int)×aG.den) :=
 given (dw.g.i (r_0,p_1)) (bd (R.jC p_1.2.1) fun r1=>br r1 (bd (R.aF r_0 1) fun r2=>given (aF.g.o r2) (ok r2)) (bd (R.cm p_1.2.2) fun r3=>given (cm.g.o r3) (br (!(r3.2 == 0)) (bd (R.aF r_0 r3.2) fun r4=>given (aF.g.o r4) (ok r4)) (br (p_1.2.1.1 == 5) (bd (R.gA r_0 p_1.2.1.2.2.2.1 r3.1) fun r5=>given (gA.g.o r5) (ok r5)) (br (p_1.2.1.1 == 6) (bd (R.eX r_0 p_1.2.1.2.2.2.2 r3.1) fun r6=>given (eX.g.o r6) (ok r6)) (bd (R.aK r_0) fun r7=>given (aK.g.o r7) (ok r7)))))))
abbrev eP.g:Sg:=⟨[.obj aG,.val true (.frz fX),.val true (.bor (.seq .i (.seq (.seq .i (.seq (.frz aH) (.seq (.seq .b (.own .w)) (.seq (.own .h) .i)))) .b)))],[(true,(.frz aC)),vi]⟩
def R.eP (r_0:aG.den) (p_1:fX.den) (e_2:aO.den):Res ((aC.den×Int)×aG.den) :=
 given (eP.g.i (r_0,(p_1,e_2))) (br (!(p_1.1 == ([]:List UInt8))) (bd (R.eN r_0 p_1.1 e_2) fun r1=>given (eN.g.o r1) (ok r1)) (bd (R.dw r_0 p_1) fun r2=>given (dw.g.o r2) (ok r2)))
abbrev jl.g:Sg:=⟨[.i],[(true,(.frz ax))]⟩
def R.jl (n_0:Int):Res (ax.den) :=
 given (jl.g.i n_0) (bd (α:=Int) (br (ilt n_0 0) (ok (IntKind.wrap .u64 (0-(IntKind.wrap .u64 n_0)))) (ok (IntKind.wrap .u64 n_0))) fun u1=>ah (ile 0 32) (bd (R.dQ [IntKind.wrap .u32 u1,IntKind.wrap .u32 (ir .u64 u1 32)] (ilt n_0 0)) fun r2=>given (dQ.g.o r2) (ok r2)))
abbrev lG.g:Sg:=⟨[.val false (.bor (.own .w)),.val false (.bor (.own .w))],[(false,(.own .w))]⟩
def R.lG (a_0:(List Int)) (b_1:(List Int)):Res ((List Int)) :=
 given (lG.g.i (a_0,b_1)) (bd (loop (α:=((List Int)×(Int×Int))) (β:=((List Int)×Int)) (fun l1=>br (ilt l1.2.2 (sK (a_0.length:Int) (b_1.length:Int))) (bd (α:=Int) (br (ilt l1.2.2 (a_0.length:Int)) (dC .w a_0 l1.2.2 fun e2=>ok (IntKind.wrap .u64 (l1.2.1+(IntKind.wrap .u64 e2)))) (ok (l1.2.1))) fun c3=>bd (α:=Int) (br (ilt l1.2.2 (b_1.length:Int)) (dC .w b_1 l1.2.2 fun e4=>ok (IntKind.wrap .u64 (c3+(IntKind.wrap .u64 e4)))) (ok c3)) fun c5=>ah (decide ((l1.1.length+[IntKind.wrap .u32 c5].length)*4<=2^47)) (ah (ile 0 32) (ok (.next (((l1.1++[IntKind.wrap .u32 c5]),(ir .u64 c5 32,IntKind.wrap .i64 (l1.2.2+1)))))))) (ok (.done ((l1.1,l1.2.1))))) fuel (([]:List Int),(0,0))) fun l6=>ah (decide ((l6.1.length+[IntKind.wrap .u32 l6.2].length)*4<=2^47)) (ok ((l6.1++[IntKind.wrap .u32 l6.2]))))
abbrev iq.g:Sg:=⟨[.val false (.frz (.list (.int .u32))),.b],[(true,(.frz ax)),vb]⟩
def R.iq (m_0:(List Int)) (neg_1:Bool):Res ((ax.den×Bool)) :=
 given (iq.g.i (m_0,neg_1)) (bd (R.iD m_0) fun r1=>given (iD.g.o r1) (br (ilt 8 (r1.length:Int)) (ok (((false,([]:List Int)),false))) (bd (R.dQ r1 neg_1) fun r2=>given (dQ.g.o r2) (ok ((r2,true))))))
abbrev kc.g:Sg:=⟨[.i],[vi]⟩
def R.kc (n_0:Int):Res (Int) :=
 given (kc.g.i n_0) (ok ((lX (sK n_0 (-1)) 1)))
abbrev jm.g:Sg:=⟨[.val false (.bor (.own .w)),.val false (.bor (.own .w))],[vi]⟩
def R.jm (a_0:(List Int)) (b_1:(List Int)):Res (Int) :=
 given (jm.g.i (a_0,b_1)) (br (!((a_0.length:Int) == (b_1.length:Int))) (bd (R.kc (IntKind.wrap .i64 ((a_0.length:Int)-(b_1.length:Int)))) fun r1=>given (kc.g.o r1) (ok r1)) (bd (loop (α:=Int) (β:=(Unit ⊕ Int)) (fun i2=>br (ile 0 i2) (dC .w a_0 i2 fun e3=>dC .w b_1 i2 fun e4=>br (!(e3 == e4)) (dC .w a_0 i2 fun e5=>dC .w b_1 i2 fun e6=>bd (R.kc (IntKind.wrap .i64 ((IntKind.wrap .i64 e5)-(IntKind.wrap .i64 e6)))) fun r7=>given (kc.g.o r7) (ok (.done (.inr r7)))) (ok (.next (IntKind.wrap .i64 (i2-1))))) (ok (.done (.inl ())))) fuel (IntKind.wrap .i64 ((a_0.length:Int)-1))) fun x8=>sum x8 (fun x9=>ok 0) (fun z10=>ok z10)))
abbrev jM.g:Sg:=⟨[.val false .w,.val false .w,.val false .w],[(false,.w),(false,.w)]⟩
def R.jM (x_0:Int) (y_1:Int) (borrow_2:Int):Res ((Int×Int)) :=
 given (jM.g.i (x_0,(y_1,borrow_2))) (ah (ile 0 31) (ok ((IntKind.wrap .u32 ((IntKind.wrap .u32 (x_0-y_1))-borrow_2),ir .u32 (fm .or .u32 (fm .and .u32 (fm .xor .u32 (IntKind.max .u32) x_0) y_1) (fm .and .u32 (fm .xor .u32 (IntKind.max .u32) (fm .xor .u32 x_0 y_1)) (IntKind.wrap .u32 ((IntKind.wrap .u32 (x_0-y_1))-borrow_2)))) 31))))
abbrev iU.g:Sg:=⟨[.val false (.bor (.own .w)),.val false (.bor (.own .w))],[(false,(.own .w))]⟩
def R.iU (a_0:(List Int)) (b_1:(List Int)):Res ((List Int)) :=
 given (iU.g.i (a_0,b_1)) (bd (loop (α:=((List Int)×(Int×Int))) (β:=(List Int)) (fun l1=>br (ilt l1.2.2 (a_0.length:Int)) (dC .w a_0 l1.2.2 fun e2=>bd (α:=Int) (br (ilt l1.2.2 (b_1.length:Int)) (dC .w b_1 l1.2.2 fun e3=>ok e3) (ok 0)) fun y4=>bd (R.jM e2 y4 l1.2.1) fun r5=>given (jM.g.o r5) (ah (decide ((l1.1.length+[r5.1].length)*4<=2^47)) (ok (.next (((l1.1++[r5.1]),(r5.2,IntKind.wrap .i64 (l1.2.2+1)))))))) (ok (.done (l1.1)))) fuel (([]:List Int),(0,0))) fun l6=>ok l6)
abbrev kV.g:Sg:=⟨[.val true (.bor (.seq .b (.own .w))),.val true (.bor (.seq .b (.own .w)))],[(true,(.frz ax)),vb]⟩
def R.kV (a_0:ax.den) (b_1:ax.den):Res ((ax.den×Bool)) :=
 given (kV.g.i (a_0,b_1)) (bd (R.cf a_0) fun r1=>given (cf.g.o r1) (bd (R.cf b_1) fun r2=>given (cf.g.o r2) (bd (R.fg a_0) fun r3=>bd (R.fg b_1) fun r4=>br (r3 == r4) (bd (R.lG r1 r2) fun r5=>given (lG.g.o r5) (bd (R.fg a_0) fun r6=>bd (R.iq r5 r6) fun r7=>given (iq.g.o r7) (ok r7))) (bd (R.jm r1 r2) fun r8=>given (jm.g.o r8) (br (ilt r8 0) (bd (R.iU r2 r1) fun r9=>given (iU.g.o r9) (bd (R.fg b_1) fun r10=>bd (R.iq r9 r10) fun r11=>given (iq.g.o r11) (ok r11))) (bd (R.iU r1 r2) fun r12=>given (iU.g.o r12) (bd (R.fg a_0) fun r13=>bd (R.iq r12 r13) fun r14=>given (iq.g.o r14) (ok r14))))))))
abbrev ed.g:Sg:=⟨[.val true (.frz ax),.b],[(true,(.frz aC)),vi]⟩
def R.ed (b_0:ax.den) (ok_1:Bool):Res ((aC.den×Int)) :=
 given (ed.g.i (b_0,ok_1)) (br (!ok_1) (ok ((zV,3))) (bd (R.dB b_0) fun r1=>given (dB.g.o r1) (ok ((r1,0)))))
abbrev dk.g:Sg:=⟨[.val true (.frz aH)],[vb]⟩
def R.dk (a_0:aH.den):Res (Bool) :=
 given (dk.g.i a_0) (br (a_0.1 == 3) (ok true) (ok ((a_0.1 == 4))))
abbrev mV.g:Sg:=⟨[.i],[(true,(.frz aH)),vb]⟩
def R.mV (n_0:Int):Res ((aH.den×Bool)) :=
 given (mV.g.i n_0) (bd (α:=Bool) (br (ilt n_0 (-9007199254740991)) (ok true) (ok ((ilt 9007199254740991 n_0)))) fun x1=>br x1 (bd (R.dv) fun r2=>given (dv.g.o r2) (ok ((r2,false)))) (bd (R.cK n_0) fun r3=>given (cK.g.o r3) (ok ((r3,true)))))
abbrev kT.g:Sg:=⟨[.val true (.frz aH),.val true (.frz aH)],[(true,(.frz aH)),vb]⟩
def R.kT (a_0:aH.den) (b_1:aH.den):Res ((aH.den×Bool)) :=
 given (kT.g.i (a_0,b_1)) (bd (R.da a_0) fun r1=>given (da.g.o r1) (bd (R.da b_1) fun r2=>given (da.g.o r2) (bd (α:=Bool) (bd (R.eH r1) fun r3=>br r3 (ok true) (bd (R.eH r2) fun r4=>br r4 (ok true) (bd (R.dk r1) fun r5=>br r5 (bd (R.dk r2) fun r6=>br r6 (ok ((!(r1.1 == r2.1)))) (ok false)) (ok false)))) fun x7=>br x7 (bd (R.dv) fun r8=>given (dv.g.o r8) (ok ((r8,true)))) (bd (R.dk r1) fun r9=>br r9 (ok ((r1,true))) (bd (R.dk r2) fun r10=>br r10 (ok ((r2,true))) (bd (α:=Bool) (br (r1.1 == 1) (ok ((r2.1 == 1))) (ok false)) fun x11=>br x11 (ok ((r1,true))) (bd (R.mV (IntKind.wrap .i64 (r1.2+r2.2))) fun r12=>given (mV.g.o r12) (ok r12))))))))
abbrev ca.g:Sg:=⟨[.val true (.frz aH),.b],[(true,(.frz aC)),vi]⟩
def R.ca (a_0:aH.den) (ok_1:Bool):Res ((aC.den×Int)) :=
 given (ca.g.i (a_0,ok_1)) (br (!ok_1) (ok ((zV,3))) (bd (R.b8 a_0) fun r1=>given (b8.g.o r1) (ok ((r1,0)))))
abbrev kF.g:Sg:=⟨[.val true (.frz aC),.i],[(true,(.frz aC)),vi]⟩
def R.kF (v_0:aC.den) (by_1:Int):Res ((aC.den×Int)) :=
 given (kF.g.i (v_0,by_1)) (bd (R.bx v_0) fun r1=>given (bx.g.o r1) (br (!(r1.2 == 0)) (ok ((zV,r1.2))) (bd (α:=Bool) (br (!(by_1 == 1)) (ok ((!(by_1 == (-1))))) (ok false)) fun x2=>br x2 (ok ((zV,3))) (br (r1.1.1 == 4) (bd (R.jl by_1) fun r3=>given (jl.g.o r3) (bd (R.kV r1.1.2.2.1 r3) fun r4=>given (kV.g.o r4) (bd (R.ed r4.1 r4.2) fun r5=>given (ed.g.o r5) (ok r5)))) (bd (R.kT r1.1.2.1 (0,by_1)) fun r6=>given (kT.g.o r6) (bd (R.ca r6.1 r6.2) fun r7=>given (ca.g.o r7) (ok r7)))))))
abbrev fM.g:Sg:=⟨[.obj aG,.s,.val true (.frz aC),.val true (.bor (.seq .i (.seq (.seq .i (.seq (.frz aH) (.seq (.seq .b (.own .w)) (.seq (.own .h) .i)))) .b)))],[(true,(.frz aC)),vi]⟩
def R.fM (r_0:aG.den) (s_1:(List UInt8)) (v_2:aC.den) (e_3:aO.den):Res ((aC.den×Int)×aG.den) :=
 given (fM.g.i (r_0,(s_1,(v_2,e_3)))) (bd (R.dZ r_0.2.2.2.2.1 e_3.1 s_1) fun r1=>given (dZ.g.o r1) (bd (α:=Bool) (br r1.2.2 (ok ((!r1.1.2.2.1))) (ok false)) fun x2=>br x2 (bd (R.aF r_0 4) fun r3=>given (aF.g.o r3) (ok r3)) (bd (α:=Bool) (br r1.2.2 (ok (r1.1.2.2.2)) (ok false)) fun x4=>br x4 (bd (R.aF r_0 1) fun r5=>given (aF.g.o r5) (ok r5)) (br r1.2.2 (bd (R.ch r_0.2.2.2.2.1 r1.2.1 s_1 v_2 true) fun r6=>given (ch.g.o r6) (ok (((v_2,0),(r_0.1,(r_0.2.1,(r_0.2.2.1,(r_0.2.2.2.1,(r6.2,r_0.2.2.2.2.2))))))))) (bd (R.iB s_1) fun r7=>given (iB.g.o r7) (bd (α:=Bool) (br r7.2 (ok true) (bd (R.jt s_1) fun r8=>ok r8)) fun x9=>br x9 (bd (R.aK r_0) fun r10=>given (aK.g.o r10) (ok r10)) (bd (R.aF r_0 4) fun r11=>given (aF.g.o r11) (ok r11))))))))
abbrev jU.g:Sg:=⟨[.val false .h],[vb]⟩
def R.jU (x_0:Int):Res (Bool) :=
 given (jU.g.i x_0) (br (x_0 == 32) (ok true) (br (x_0 == 9) (ok true) (br (x_0 == 10) (ok true) (ok ((x_0 == 13))))))
abbrev kM.g:Sg:=⟨[.val false (.frz (.list (.int .u16)))],[(false,(.frz (.list (.int .u16))))]⟩
def R.kM (u_0:(List Int)):Res ((List Int)) :=
 given (kM.g.i u_0) (bd (loop (α:=(List Int)) (β:=(List Int)) (fun u1=>bd (α:=Bool) (br (ilt 0 (u1.length:Int)) (idx (.int .u16) u1 0 fun e2=>bd (R.jU e2) fun r3=>ok r3) (ok false)) fun x4=>br x4 (ah (ile 0 1 && ile 1 u1.length) (ok (.next ((List.drop (Int.toNat 1) u1))))) (ok (.done (u1)))) fuel u_0) fun u5=>bd (loop (α:=(List Int)) (β:=(List Int)) (fun u6=>bd (α:=Bool) (br (ilt 0 (u6.length:Int)) (idx (.int .u16) u6 (IntKind.wrap .i64 ((u6.length:Int)-1)) fun e7=>bd (R.jU e7) fun r8=>ok r8) (ok false)) fun x9=>br x9 (ah (ile 0 (IntKind.wrap .i64 ((u6.length:Int)-1)) && ile (IntKind.wrap .i64 ((u6.length:Int)-1)) u6.length) (ok (.next ((List.take (Int.toNat (IntKind.wrap .i64 ((u6.length:Int)-1))) u6))))) (ok (.done (u6)))) fuel u5) fun u10=>ok u10)
abbrev iZ.g:Sg:=⟨[.val false .h],[vb]⟩
def R.iZ (x_0:Int):Res (Bool) :=
 given (iZ.g.i x_0) (br (ile 48 x_0) (ok ((ile x_0 57))) (ok false))
abbrev iv.g:Sg:=⟨[.val false (.bor (.own .h))],[vb]⟩
def R.iv (u_0:(List Int)):Res (Bool) :=
 given (iv.g.i u_0) (bd (loop (α:=Int) (β:=(Unit ⊕ Bool)) (fun x1=>br (ilt x1 (u_0.length:Int)) (dC .h u_0 x1 fun e2=>bd (R.iZ e2) fun r3=>br (!r3) (ok (.done (.inr false))) (ok (.next (IntKind.wrap .i64 (x1+1))))) (ok (.done (.inl ())))) fuel 0) fun x4=>sum x4 (fun x5=>ok ((ilt 0 (u_0.length:Int)))) (fun z6=>ok z6))
abbrev jk.g:Sg:=⟨[.s],[vb]⟩
def R.jk (s_0:(List UInt8)):Res (Bool) :=
 given (jk.g.i s_0) (bd (loop (α:=Int) (β:=(Unit ⊕ Bool)) (fun x1=>br (ilt x1 (s_0.length:Int)) (bd (α:=Bool) (idx (.int .u8) (lT s_0) x1 fun e2=>br (ilt e2 48) (ok true) (idx (.int .u8) (lT s_0) x1 fun e3=>ok ((ilt 57 e3)))) fun x4=>br x4 (ok (.done (.inr false))) (ok (.next (IntKind.wrap .i64 (x1+1))))) (ok (.done (.inl ())))) fuel 0) fun x5=>sum x5 (fun x6=>br (!(s_0 == ([]:List UInt8))) (idx (.int .u8) (lT s_0) 0 fun e8=>br (!(e8 == 48)) (ok true) (ok ((s_0 == [48])))) (ok false)) (fun z7=>ok z7))
abbrev kK.g:Sg:=⟨[.s],[(true,(.frz ax)),vi]⟩
def R.kK (s_0:(List UInt8)):Res ((ax.den×Int)) :=
 given (kK.g.i s_0) (bd (α:=((List UInt8)×Bool)) (br (ilt 0 (s_0.length:Int)) (idx (.int .u8) (lT s_0) 0 fun e1=>ok ((s_0,(e1 == 45)))) (ok ((s_0,false)))) fun d2=>bd (α:=(List UInt8)) (br d2.2 (ah (ile 0 1 && ile 1 s_0.length) (ok ((List.drop (Int.toNat 1) s_0)))) (ok (d2.1))) fun d3=>bd (α:=Bool) (bd (R.jk d3) fun r4=>br (!r4) (ok true) (ok ((s_0 == [45,48])))) fun x5=>br x5 (ok (((false,([]:List Int)),2))) (bd (loop (α:=((List Int)×Int)) (β:=((List Int) ⊕ (Int×ax.den))) (fun m6=>br (ilt m6.2 (d3.length:Int)) (idx (.int .u8) (lT d3) m6.2 fun e7=>bd (loop (α:=(Int×(Int×(List Int)))) (β:=(Int×(List Int))) (fun c8=>br (ilt c8.2.1 (m6.1.length:Int)) (ah (ile 0 c8.2.1 && ilt c8.2.1 c8.2.2.length) (idx (.int .u32) c8.2.2 (0+Int.toNat c8.2.1) fun e9=>ah (ile 0 c8.2.1 && ilt c8.2.1 c8.2.2.length) (idx (.int .u32) c8.2.2 (0+Int.toNat c8.2.1) fun e10=>ah (ile 0 32) (ok (.next ((ir .u64 (IntKind.wrap .u64 (c8.1+(IntKind.wrap .u64 (10*(IntKind.wrap .u64 e9))))) 32,(IntKind.wrap .i64 (c8.2.1+1),(List.set c8.2.2 (0+Int.toNat c8.2.1) (IntKind.wrap .u32 (IntKind.wrap .u64 (c8.1+(IntKind.wrap .u64 (10*(IntKind.wrap .u64 e9))))))))))))))) (ok (.done ((c8.1,c8.2.2))))) fuel (IntKind.wrap .u64 (IntKind.wrap .u8 (e7-48)),(0,m6.1))) fun c11=>ah (decide ((c11.2.length+[IntKind.wrap .u32 c11.1].length)*4<=2^47)) (bd (R.fk (c11.2++[IntKind.wrap .u32 c11.1])) fun r12=>given (fk.g.o r12) (br (ilt 8 (r12.length:Int)) (ok (.done (.inr (3,(false,([]:List Int)))))) (ok (.next ((r12,IntKind.wrap .i64 (m6.2+1)))))))) (ok (.done (.inl m6.1)))) fuel (([]:List Int),0)) fun m13=>sum m13 (fun m14=>bd (R.dQ m14 d2.2) fun r16=>given (dQ.g.o r16) (ok ((r16,0)))) (fun z15=>ok ((z15.2,z15.1)))))
abbrev iI.g:Sg:=⟨[.val false (.bor (.own .h))],[vb]⟩
def R.iI (u_0:(List Int)):Res (Bool) :=
 given (iI.g.i u_0) (bd (loop (α:=(Bool×Int)) (β:=(Bool ⊕ Bool)) (fun some1=>br (ilt some1.2 (u_0.length:Int)) (dC .h u_0 some1.2 fun e2=>bd (α:=Bool) (br some1.1 (ok true) (bd (R.iZ e2) fun r3=>ok r3)) fun some4=>bd (α:=Bool) (bd (R.iZ e2) fun r5=>br (!r5) (br (ilt e2 97) (br (ilt e2 65) (br (!(e2 == 120)) (br (!(e2 == 88)) (br (!(e2 == 111)) (ok ((!(e2 == 79)))) (ok false)) (ok false)) (ok false)) (br (ilt 70 e2) (br (!(e2 == 120)) (br (!(e2 == 88)) (br (!(e2 == 111)) (ok ((!(e2 == 79)))) (ok false)) (ok false)) (ok false)) (ok false))) (br (ilt 102 e2) (br (ilt e2 65) (br (!(e2 == 120)) (br (!(e2 == 88)) (br (!(e2 == 111)) (ok ((!(e2 == 79)))) (ok false)) (ok false)) (ok false)) (br (ilt 70 e2) (br (!(e2 == 120)) (br (!(e2 == 88)) (br (!(e2 == 111)) (ok ((!(e2 == 79)))) (ok false)) (ok false)) (ok false)) (ok false))) (ok false))) (ok false)) fun x6=>br x6 (ok (.done (.inr false))) (ok (.next ((some4,IntKind.wrap .i64 (some1.2+1)))))) (ok (.done (.inl some1.1)))) fuel (false,0)) fun some7=>sum some7 (fun some8=>ok some8) (fun z9=>ok z9))
abbrev iQ.g:Sg:=⟨[.val false (.frz (.list (.int .u16)))],[(true,(.frz ax)),vi]⟩
def R.iQ (u_0:(List Int)):Res ((ax.den×Int)) :=
 given (iQ.g.i u_0) (bd (R.kM u_0) fun r1=>given (kM.g.o r1) (br ((r1.length:Int) == 0) (ok (((false,([]:List Int)),0))) (idx (.int .u16) r1 0 fun e2=>bd (α:=(List Int)) (bd (α:=Bool) (br (e2 == 45) (ok true) (idx (.int .u16) r1 0 fun e3=>ok ((e3 == 43)))) fun x4=>br x4 (ah (ile 0 1 && ile 1 r1.length) (ok ((List.drop (Int.toNat 1) r1)))) (ok r1)) fun d5=>bd (R.iv d5) fun r6=>br r6 (bd (loop (α:=(List Int)) (β:=(List Int)) (fun d7=>bd (α:=Bool) (br (ilt 1 (d7.length:Int)) (idx (.int .u16) d7 0 fun e8=>ok ((e8 == 48))) (ok false)) fun x9=>br x9 (ah (ile 0 1 && ile 1 d7.length) (ok (.next ((List.drop (Int.toNat 1) d7))))) (ok (.done (d7)))) fuel d5) fun d10=>bd (R.eA d10) fun r11=>given (eA.g.o r11) (bd (R.kK r11.1) fun r12=>given (kK.g.o r12) (br (!(r12.2 == 0)) (ok (((false,([]:List Int)),3))) (br (e2 == 45) (bd (R.kU r12.1) fun r13=>given (kU.g.o r13) (ok ((r13,0)))) (ok ((r12.1,0))))))) (bd (R.iI r1) fun r14=>br r14 (ok (((false,([]:List Int)),3))) (ok (((false,([]:List Int)),5)))))))
abbrev ev.g:Sg:=⟨[.val true (.frz aC)],[(true,(.frz ax)),vi]⟩
def R.ev (v_0:aC.den):Res ((ax.den×Int)) :=
 given (ev.g.i v_0) (bd (R.bl v_0) fun r1=>given (bl.g.o r1) (br (r1.1 == 2) (bd (R.jl r1.2.2.2.2) fun r2=>given (jl.g.o r2) (ok ((r2,0)))) (br (r1.1 == 4) (bd (R.j8 r1.2.2.1) fun r3=>given (j8.g.o r3) (ok ((r3,0)))) (br (r1.1 == 5) (bd (R.iQ r1.2.2.2.1) fun r4=>given (iQ.g.o r4) (ok r4)) (br (r1.1 == 6) (ok (((false,([]:List Int)),3))) (ok (((false,([]:List Int)),1))))))))
end Go.Mach
end

set_option linter.unusedVariables false
set_option maxRecDepth 20000
noncomputable section
namespace Go.Mach
open Res
abbrev mG.g:Sg:=⟨[.val false (.bor (.own .w)),.i],[(false,(.own .w))]⟩
def R.mG (m_0:(List Int)) (n_1:Int):Res ((List Int)) :=
 given (mG.g.i (m_0,n_1)) (ah (ile 0 8 && (ile 8 8 && decide ((Int.toNat 8)*4<=2^47))) (bd (loop (α:=(Int×(List Int))) (β:=(List Int)) (fun x1=>br (ilt x1.1 ((List.take 0 (List.replicate (Int.toNat 8) (0:Int))++(List.take (min m_0.length (List.replicate (Int.toNat 8) (0:Int)).length) m_0++List.drop (0+(min m_0.length (List.replicate (Int.toNat 8) (0:Int)).length)) (List.replicate (Int.toNat 8) (0:Int)))).length:Int)) (br (ile n_1 (IntKind.wrap .i64 (32*x1.1))) (ah (ile 0 x1.1 && ilt x1.1 x1.2.length) (idx (.int .u32) x1.2 (0+Int.toNat x1.1) fun e2=>ok (.next ((IntKind.wrap .i64 (x1.1+1),(List.set x1.2 (0+Int.toNat x1.1) 0)))))) (br (ilt n_1 (IntKind.wrap .i64 ((IntKind.wrap .i64 (32*x1.1))+32))) (ah (ile 0 x1.1 && ilt x1.1 x1.2.length) (idx (.int .u32) x1.2 (0+Int.toNat x1.1) fun e3=>ah (ile 0 (IntKind.wrap .i64 (n_1-(IntKind.wrap .i64 (32*x1.1))))) (ah (ile 0 x1.1 && ilt x1.1 x1.2.length) (idx (.int .u32) x1.2 (0+Int.toNat x1.1) fun e4=>ok (.next ((IntKind.wrap .i64 (x1.1+1),(List.set x1.2 (0+Int.toNat x1.1) (fm .and .u32 e3 (IntKind.wrap .u32 ((nf .u32 1 (IntKind.wrap .i64 (n_1-(IntKind.wrap .i64 (32*x1.1)))))-1))))))))))) (ok (.next ((IntKind.wrap .i64 (x1.1+1),x1.2)))))) (ok (.done (x1.2)))) fuel (0,(List.take 0 (List.replicate (Int.toNat 8) (0:Int))++(List.take (min m_0.length (List.replicate (Int.toNat 8) (0:Int)).length) m_0++List.drop (0+(min m_0.length (List.replicate (Int.toNat 8) (0:Int)).length)) (List.replicate (Int.toNat 8) (0:Int)))))) fun x5=>ok x5))
abbrev kN.g:Sg:=⟨[.i],[(false,(.own .w))]⟩
def R.kN (n_0:Int):Res ((List Int)) :=
 given (kN.g.i n_0) (ah (!(32 == 0)) (ah (ile 0 (IntKind.wrap .i64 ((IntKind.wrap .i64 (Int.tdiv n_0 32))+1)) && (ile (IntKind.wrap .i64 ((IntKind.wrap .i64 (Int.tdiv n_0 32))+1)) (IntKind.wrap .i64 ((IntKind.wrap .i64 (Int.tdiv n_0 32))+1)) && decide ((Int.toNat (IntKind.wrap .i64 ((IntKind.wrap .i64 (Int.tdiv n_0 32))+1)))*4<=2^47))) (ah (!(32 == 0)) (ah (!(32 == 0)) (ah (ile 0 (Int.tmod n_0 32)) (ah (ile 0 (IntKind.wrap .i64 (Int.tdiv n_0 32)) && ilt (IntKind.wrap .i64 (Int.tdiv n_0 32)) (List.replicate (Int.toNat (IntKind.wrap .i64 ((IntKind.wrap .i64 (Int.tdiv n_0 32))+1))) (0:Int)).length) (idx (.int .u32) (List.replicate (Int.toNat (IntKind.wrap .i64 ((IntKind.wrap .i64 (Int.tdiv n_0 32))+1))) (0:Int)) (0+Int.toNat (IntKind.wrap .i64 (Int.tdiv n_0 32))) fun e1=>ok ((List.set (List.replicate (Int.toNat (IntKind.wrap .i64 ((IntKind.wrap .i64 (Int.tdiv n_0 32))+1))) (0:Int)) (0+Int.toNat (IntKind.wrap .i64 (Int.tdiv n_0 32))) (nf .u32 1 (Int.tmod n_0 32)))))))))))
abbrev iu.g:Sg:=⟨[.i,.val true (.bor (.seq .b (.own .w)))],[(true,(.frz ax)),vi]⟩
def R.iu (n_0:Int) (a_1:ax.den):Res ((ax.den×Int)) :=
 given (iu.g.i (n_0,a_1)) (bd (α:=Bool) (br (ilt n_0 0) (ok true) (ok ((ilt 256 n_0)))) fun x1=>br x1 (ok (((false,([]:List Int)),1))) (bd (R.cf a_1) fun r2=>given (cf.g.o r2) (bd (R.mG r2 n_0) fun r3=>given (mG.g.o r3) (bd (R.fk r3) fun r4=>given (fk.g.o r4) (bd (α:=Bool) (bd (R.fg a_1) fun r5=>br r5 (ok ((ilt 0 (r4.length:Int)))) (ok false)) fun x6=>br x6 (bd (R.kN n_0) fun r7=>given (kN.g.o r7) (bd (R.iU r7 r4) fun r8=>given (iU.g.o r8) (bd (R.dQ r8 false) fun r9=>given (dQ.g.o r9) (ok ((r9,0)))))) (bd (R.dQ r4 false) fun r10=>given (dQ.g.o r10) (ok ((r10,0)))))))))
abbrev lD.g:Sg:=⟨[.val true (.bor (.seq .b (.own .w)))],[(false,(.frz (.int .u64)))]⟩
def R.lD (a_0:ax.den):Res (Int) :=
 given (lD.g.i a_0) (bd (R.iu 64 a_0) fun r1=>given (iu.g.o r1) (bd (loop (α:=(Int×Int)) (β:=Int) (fun w2=>br (ilt w2.2 (r1.1.2.length:Int)) (idx (.int .u32) r1.1.2 w2.2 fun e3=>ah (ile 0 (IntKind.wrap .i64 (32*w2.2))) (ok (.next ((fm .or .u64 w2.1 (nf .u64 (IntKind.wrap .u64 e3) (IntKind.wrap .i64 (32*w2.2))),IntKind.wrap .i64 (w2.2+1)))))) (ok (.done (w2.1)))) fuel (0,0)) fun w4=>ok w4))
abbrev fS.g:Sg:=⟨[.i,.val true (.bor (.seq .b (.own .w)))],[(false,(.frz (.int .u64)))]⟩
def R.fS (kind_0:Int) (a_1:ax.den):Res (Int) :=
 given (fS.g.i (kind_0,a_1)) (bd (R.c7 kind_0) fun r1=>br (!r1) (ok 0) (bd (R.lD a_1) fun r2=>given (lD.g.o r2) (ok r2)))
abbrev fR.g:Sg:=⟨[.i,.val true (.frz aH)],[(false,(.frz (.int .u64)))]⟩
def R.fR (kind_0:Int) (a_1:aH.den):Res (Int) :=
 given (fR.g.i (kind_0,a_1)) (bd (α:=Bool) (bd (R.c7 kind_0) fun r1=>br r1 (ok true) (br (!(a_1.1 == 0)) (ok true) (br (ilt a_1.2 (-9007199254740991)) (ok true) (ok ((ilt 9007199254740991 a_1.2)))))) fun x2=>br x2 (ok 0) (bd (R.ef kind_0 (IntKind.wrap .u64 a_1.2)) fun r3=>given (ef.g.o r3) (ok r3)))
abbrev gq.g:Sg:=⟨[.i,.val true (.frz aC)],[(false,(.frz (.int .u64))),vi]⟩
def R.gq (kind_0:Int) (v_1:aC.den):Res ((Int×Int)) :=
 given (gq.g.i (kind_0,v_1)) (bd (R.c7 kind_0) fun r1=>br r1 (bd (R.ev v_1) fun r2=>given (ev.g.o r2) (bd (R.fS kind_0 r2.1) fun r3=>given (fS.g.o r3) (ok ((r3,r2.2))))) (bd (R.bP v_1) fun r4=>given (bP.g.o r4) (bd (R.fR kind_0 r4.1) fun r5=>given (fR.g.o r5) (ok ((r5,r4.2))))))
abbrev iC.g:Sg:=⟨[.i,.val false (.frz (.int .u64))],[(false,(.own .y))]⟩
def R.iC (kind_0:Int) (w_1:Int):Res ((List Int)) :=
 given (iC.g.i (kind_0,w_1)) (bd (R.bN kind_0) fun r1=>given (bN.g.o r1) (bd (loop (α:=((List Int)×Int)) (β:=(List Int)) (fun b2=>br (ilt b2.2 r1) (ah (ile 0 (IntKind.wrap .i64 (8*b2.2))) (ah (decide ((b2.1.length+[IntKind.wrap .u8 (ir .u64 w_1 (IntKind.wrap .i64 (8*b2.2)))].length)*1<=2^47)) (ok (.next (((b2.1++[IntKind.wrap .u8 (ir .u64 w_1 (IntKind.wrap .i64 (8*b2.2)))]),IntKind.wrap .i64 (b2.2+1))))))) (ok (.done (b2.1)))) fuel (([]:List Int),0)) fun b3=>ok b3))
abbrev eY.g:Sg:=⟨[.obj dz,.i,.i,.val false (.bor (.own .y))],[vb]⟩
def R.eY (h_0:dz.den) (ref_1:Int) (at_2:Int) (b_3:(List Int)):Res (Bool×dz.den) :=
 given (eY.g.i (h_0,(ref_1,(at_2,b_3)))) (bd (R.bB h_0 ref_1) fun r1=>br (!r1) (ok ((false,h_0))) (dC kv h_0.2 ref_1 fun e2=>bd (α:=Bool) (br (ilt at_2 0) (ok true) (ah ((Int.toNat ref_1) == (Int.toNat ref_1)) (br (ilt (e2.2.2.2.2.2.2.2.2.2.2.2.2.length:Int) at_2) (ok true) (ah ((Int.toNat ref_1) == (Int.toNat ref_1)) (ok ((ilt (IntKind.wrap .i64 ((e2.2.2.2.2.2.2.2.2.2.2.2.2.length:Int)-at_2)) (b_3.length:Int)))))))) fun x3=>br x3 (ok ((false,(h_0.1,(List.set h_0.2 (Int.toNat ref_1) e2))))) (ah ((Int.toNat ref_1) == (Int.toNat ref_1)) (ah (ile 0 at_2 && ile at_2 e2.2.2.2.2.2.2.2.2.2.2.2.2.length) (ok ((true,(h_0.1,(List.set h_0.2 (Int.toNat ref_1) (e2.1,(e2.2.1,(e2.2.2.1,(e2.2.2.2.1,(e2.2.2.2.2.1,(e2.2.2.2.2.2.1,(e2.2.2.2.2.2.2.1,(e2.2.2.2.2.2.2.2.1,(e2.2.2.2.2.2.2.2.2.1,(e2.2.2.2.2.2.2.2.2.2.1,(e2.2.2.2.2.2.2.2.2.2.2.1,(e2.2.2.2.2.2.2.2.2.2.2.2.1,(List.take (0+(Int.toNat at_2)) e2.2.2.2.2.2.2.2.2.2.2.2.2++(List.take (min b_3.length (e2.2.2.2.2.2.2.2.2.2.2.2.2.length-(Int.toNat at_2))) b_3++List.drop ((0+(Int.toNat at_2))+(min b_3.length (e2.2.2.2.2.2.2.2.2.2.2.2.2.length-(Int.toNat at_2)))) e2.2.2.2.2.2.2.2.2.2.2.2.2)))))))))))))))))))))))
abbrev cS.g:Sg:=⟨[.obj aG,.val true kq,.i,.i,.val false (.frz (.int .u64)),.b,.b],[vi]⟩
def R.cS (r_0:aG.den) (c_1:kq.den) (at_2:Int) (size_3:Int) (w_4:Int) (seq_5:Bool) (noTear_6:Bool):Res (Int×aG.den) :=
 given (cS.g.i (r_0,(c_1,(at_2,(size_3,(w_4,(seq_5,noTear_6))))))) (bd (R.aj r_0.2.2.2.2.1 c_1.2.2.2.2.2.2.2.2.2.1) fun r1=>given (aj.g.o r1) (br (r1.1.1 == 5) (bd (R.cZ size_3) fun r2=>given (cZ.g.o r2) (bd (R.iC r2 w_4) fun r3=>given (iC.g.o r3) (bd (R.eY r_0.2.2.2.2.1 c_1.2.2.2.2.2.2.2.2.2.1 at_2 r3) fun r4=>given (eY.g.o r4) (ok ((0,(r_0.1,(r_0.2.1,(r_0.2.2.1,(r_0.2.2.2.1,(r4.2,r_0.2.2.2.2.2))))))))))) (bd (R.bX r_0 (3,(r1.1.2.2.2.2.2.2.2.2.2.1,(at_2,(size_3,(0,(seq_5,(noTear_6,(w_4,(0,((0,0),(([]:List Int),0)))))))))))) fun r5=>given (bX.g.o r5) (ok ((r5.1.2,r5.2))))))
abbrev gj.g:Sg:=⟨[.obj aG,.val true kq,.i,.val true (.frz aC)],[(true,(.frz aC)),vi]⟩
def R.gj (r_0:aG.den) (c_1:kq.den) (n_2:Int) (v_3:aC.den):Res ((aC.den×Int)×aG.den) :=
 given (gj.g.i (r_0,(c_1,(n_2,v_3)))) (bd (R.gq c_1.2.2.2.2.2.2.2.2.1 v_3) fun r1=>given (gq.g.o r1) (br (!(r1.2 == 0)) (bd (R.aF r_0 r1.2) fun r2=>given (aF.g.o r2) (ok r2)) (br (ilt n_2 c_1.2.2.2.2.2.2.2.2.2.2.2.1) (bd (R.bN c_1.2.2.2.2.2.2.2.2.1) fun r3=>given (bN.g.o r3) (bd (R.bN c_1.2.2.2.2.2.2.2.2.1) fun r4=>given (bN.g.o r4) (bd (R.c7 c_1.2.2.2.2.2.2.2.2.1) fun r5=>bd (R.cS r_0 (c_1.1,(c_1.2.1,((),((),(c_1.2.2.2.2.1,(c_1.2.2.2.2.2.1,(c_1.2.2.2.2.2.2.1,(c_1.2.2.2.2.2.2.2.1,(c_1.2.2.2.2.2.2.2.2.1,(c_1.2.2.2.2.2.2.2.2.2.1,(c_1.2.2.2.2.2.2.2.2.2.2.1,(c_1.2.2.2.2.2.2.2.2.2.2.2.1,())))))))))))) (IntKind.wrap .i64 (c_1.2.2.2.2.2.2.2.2.2.2.1+(IntKind.wrap .i64 (n_2*r3)))) r4 r1.1 false (!r5)) fun r6=>given (cS.g.o r6) (br (!(r6.1 == 0)) (ok (((zV,r6.1),r6.2))) (ok (((v_3,0),r6.2))))))) (ok (((v_3,0),r_0))))))
abbrev gh.g:Sg:=⟨[.obj aG,.val true (.frz fX),.val true (.frz aC)],[(true,(.frz aC)),vi]⟩
def R.gh (r_0:aG.den) (p_1:fX.den) (v_2:aC.den):Res ((aC.den×Int)×aG.den) :=
 given (gh.g.i (r_0,(p_1,v_2))) (bd (R.jC p_1.2.1) fun r1=>br r1 (bd (R.aF r_0 1) fun r2=>given (aF.g.o r2) (ok r2)) (bd (R.cm p_1.2.2) fun r3=>given (cm.g.o r3) (br (!(r3.2 == 0)) (bd (R.aF r_0 r3.2) fun r4=>given (aF.g.o r4) (ok r4)) (br (!(p_1.2.1.1 == 6)) (bd (R.aF r_0 1) fun r5=>given (aF.g.o r5) (ok r5)) (bd (R.aj r_0.2.2.2.2.1 p_1.2.1.2.2.2.2) fun r6=>given (aj.g.o r6) (bd (R.eI r3.1) fun r7=>given (eI.g.o r7) (bd (α:=(Unit ⊕ (Int×(aG.den×aC.den)))) (br (r6.1.1 == 1) (bd (R.ai [95,95,112,114,111,116,111,95,95]) fun r8=>given (ai.g.o r8) (bd (R.gf r3.1 r8) fun r9=>br r9 (bd (R.aK r_0) fun r10=>given (aK.g.o r10) (ok (.inr (r10.1.2,(r10.2,r10.1.1))))) (ok (.inl ())))) (br (r6.1.1 == 2) (bd (α:=Bool) (br (!r7.2) (ok true) (bd (R.bM r_0.2.2.2.2.1 p_1.2.1.2.2.2.2) fun r11=>given (bM.g.o r11) (ok ((ilt r11 r7.1))))) fun x12=>br x12 (bd (R.aK r_0) fun r13=>given (aK.g.o r13) (ok (.inr (r13.1.2,(r13.2,r13.1.1))))) (ok (.inl ()))) (br (r6.1.1 == 3) (bd (R.cM r_0.2.2.2.2.1 p_1.2.1.2.2.2.2 r3.1) fun r14=>given (cM.g.o r14) (br (!r14.2) (bd (R.aK r_0) fun r15=>given (aK.g.o r15) (ok (.inr (r15.1.2,(r15.2,r15.1.1))))) (ok (.inl ())))) (br (r6.1.1 == 7) (br (!r7.2) (bd (R.aK r_0) fun r16=>given (aK.g.o r16) (ok (.inr (r16.1.2,(r16.2,r16.1.1))))) (bd (R.gj r_0 (r6.1.1,(r6.1.2.1,((),((),(r6.1.2.2.2.2.1,(r6.1.2.2.2.2.2.1,(r6.1.2.2.2.2.2.2.1,(r6.1.2.2.2.2.2.2.2.1,(r6.1.2.2.2.2.2.2.2.2.1,(r6.1.2.2.2.2.2.2.2.2.2.1,(r6.1.2.2.2.2.2.2.2.2.2.2.1,(r6.1.2.2.2.2.2.2.2.2.2.2.2.1,())))))))))))) r7.1 v_2) fun r17=>given (gj.g.o r17) (ok (.inr (r17.1.2,(r17.2,r17.1.1)))))) (bd (R.aK r_0) fun r18=>given (aK.g.o r18) (ok (.inr (r18.1.2,(r18.2,r18.1.1))))))))) fun x19=>sum x19 (fun x20=>bd (R.bj r_0.2.2.2.2.1 p_1.2.1.2.2.2.2 r3.1 v_2) fun r22=>given (bj.g.o r22) (ok (((v_2,0),(r_0.1,(r_0.2.1,(r_0.2.2.1,(r_0.2.2.2.1,(r22.2,r_0.2.2.2.2.2))))))))) (fun z21=>ok (((z21.2.2,z21.1),z21.2.1))))))))))
abbrev fU.g:Sg:=⟨[.obj aG,.val true (.frz fX),.val true (.frz aC),.val true (.bor (.seq .i (.seq (.seq .i (.seq (.frz aH) (.seq (.seq .b (.own .w)) (.seq (.own .h) .i)))) .b)))],[(true,(.frz aC)),vi]⟩
def R.fU (r_0:aG.den) (p_1:fX.den) (v_2:aC.den) (e_3:aO.den):Res ((aC.den×Int)×aG.den) :=
 given (fU.g.i (r_0,(p_1,(v_2,e_3)))) (br (!(p_1.1 == ([]:List UInt8))) (bd (R.fM r_0 p_1.1 v_2 e_3) fun r1=>given (fM.g.o r1) (ok r1)) (bd (R.gh r_0 p_1 v_2) fun r2=>given (gh.g.o r2) (ok r2)))
abbrev iW.g:Sg:=⟨[.obj aG,.val true (.frz aC),.val true (.bor (.seq .i (.seq (.frz aH) (.seq (.seq .b (.own .w)) (.seq (.own .h) .i)))))],[(true,(.frz aC)),vi]⟩
def R.iW (r_0:aG.den) (a_1:aC.den) (b_2:aC.den):Res ((aC.den×Int)×aG.den) :=
 given (iW.g.i (r_0,(a_1,b_2))) (br (!(b_2.1 == 6)) (bd (R.aF r_0 1) fun r1=>given (aF.g.o r1) (ok r1)) (bd (R.cm a_1) fun r2=>given (cm.g.o r2) (br (!(r2.2 == 0)) (bd (R.aF r_0 r2.2) fun r3=>given (aF.g.o r3) (ok r3)) (bd (R.aj r_0.2.2.2.2.1 b_2.2.2.2.2) fun r4=>given (aj.g.o r4) (bd (R.eI r2.1) fun r5=>given (eI.g.o r5) (br (r4.1.1 == 1) (bd (R.db r_0.2.2.2.2.1 b_2.2.2.2.2 r2.1) fun r6=>given (db.g.o r6) (bd (R.eA r2.1) fun r7=>given (eA.g.o r7) (bd (α:=Bool) (br (!r6.2.2) (br (r6.2.1 == (-1)) (br r7.2 (bd (R.gQ r7.1) fun r8=>ok r8) (ok false)) (ok false)) (ok false)) fun x9=>br x9 (bd (R.aK r_0) fun r10=>given (aK.g.o r10) (ok r10)) (bd (R.bE r6.2.2) fun r11=>given (bE.g.o r11) (ok (((r11,0),r_0))))))) (bd (α:=Bool) (br (r4.1.1 == 2) (ok (r5.2)) (ok false)) fun x12=>br x12 (bd (R.bM r_0.2.2.2.2.1 b_2.2.2.2.2) fun r13=>given (bM.g.o r13) (bd (R.bE (ilt r5.1 r13)) fun r14=>given (bE.g.o r14) (ok (((r14,0),r_0))))) (bd (α:=Bool) (br (r4.1.1 == 7) (ok (r5.2)) (ok false)) fun x15=>br x15 (bd (R.bE (ilt r5.1 r4.1.2.2.2.2.2.2.2.2.2.2.2.1)) fun r16=>given (bE.g.o r16) (ok (((r16,0),r_0)))) (bd (R.aK r_0) fun r17=>given (aK.g.o r17) (ok r17))))))))))
abbrev kG.g:Sg:=⟨[.val true (.frz aC),.val true (.frz aC)],[(true,(.frz aC)),vi]⟩
def R.kG (a_0:aC.den) (b_1:aC.den):Res ((aC.den×Int)) :=
 given (kG.g.i (a_0,b_1)) (bd (R.cm a_0) fun r1=>given (cm.g.o r1) (br (!(r1.2 == 0)) (ok ((zV,r1.2))) (bd (R.cm b_1) fun r2=>given (cm.g.o r2) (br (!(r2.2 == 0)) (ok ((zV,r2.2))) (br (ilt 4096 (IntKind.wrap .i64 ((r1.1.length:Int)+(r2.1.length:Int)))) (ok ((zV,3))) (ah (decide ((r1.1.length+r2.1.length)*2<=2^47)) (bd (R.bw (r1.1++r2.1)) fun r3=>given (bw.g.o r3) (ok ((r3,0))))))))))
abbrev eO.g:Sg:=⟨[.val true (.frz aC),.val true (.frz aC)],[(true,(.frz aC)),(true,(.frz aC)),vi]⟩
def R.eO (a_0:aC.den) (b_1:aC.den):Res ((aC.den×(aC.den×Int))) :=
 given (eO.g.i (a_0,b_1)) (bd (R.bx a_0) fun r1=>given (bx.g.o r1) (br (!(r1.2 == 0)) (ok ((zV,(zV,r1.2)))) (bd (R.bx b_1) fun r2=>given (bx.g.o r2) (br (!(r2.2 == 0)) (ok ((zV,(zV,r2.2)))) (br (!(r1.1.1 == r2.1.1)) (ok ((zV,(zV,1)))) (ok ((r1.1,(r2.1,0)))))))))
abbrev mO.g:Sg:=⟨[.val true (.bor (.seq .b (.own .w))),.val true (.bor (.seq .b (.own .w)))],[(true,(.frz ax)),vb]⟩
def R.mO (a_0:ax.den) (b_1:ax.den):Res ((ax.den×Bool)) :=
 given (mO.g.i (a_0,b_1)) (bd (R.kU b_1) fun r1=>given (kU.g.o r1) (bd (R.kV a_0 r1) fun r2=>given (kV.g.o r2) (ok r2)))
abbrev mK.g:Sg:=⟨[.val true (.bor (.seq .b (.own .w))),.val true (.bor (.seq .b (.own .w)))],[(true,(.frz ax)),vb]⟩
def R.mK (a_0:ax.den) (b_1:ax.den):Res ((ax.den×Bool)) :=
 given (mK.g.i (a_0,b_1)) (bd (R.cf a_0) fun r1=>given (cf.g.o r1) (bd (R.cf b_1) fun r2=>given (cf.g.o r2) (ah (ile 0 (IntKind.wrap .i64 ((r1.length:Int)+(r2.length:Int))) && (ile (IntKind.wrap .i64 ((r1.length:Int)+(r2.length:Int))) (IntKind.wrap .i64 ((r1.length:Int)+(r2.length:Int))) && decide ((Int.toNat (IntKind.wrap .i64 ((r1.length:Int)+(r2.length:Int))))*4<=2^47))) (bd (loop (α:=(Int×(List Int))) (β:=(List Int)) (fun x3=>br (ilt x3.1 (r1.length:Int)) (ah (ile 0 x3.1 && ilt x3.1 r1.length) (idx (.int .u32) r1 (0+Int.toNat x3.1) fun e4=>bd (loop (α:=(Int×(Int×(List Int)))) (β:=(Int×(List Int))) (fun c5=>br (ilt c5.2.1 (r2.length:Int)) (ah (ile 0 c5.2.1 && ilt c5.2.1 r2.length) (idx (.int .u32) r2 (0+Int.toNat c5.2.1) fun e6=>ah (ile 0 (IntKind.wrap .i64 (x3.1+c5.2.1)) && ilt (IntKind.wrap .i64 (x3.1+c5.2.1)) c5.2.2.length) (idx (.int .u32) c5.2.2 (0+Int.toNat (IntKind.wrap .i64 (x3.1+c5.2.1))) fun e7=>ah (ile 0 (IntKind.wrap .i64 (x3.1+c5.2.1)) && ilt (IntKind.wrap .i64 (x3.1+c5.2.1)) c5.2.2.length) (idx (.int .u32) c5.2.2 (0+Int.toNat (IntKind.wrap .i64 (x3.1+c5.2.1))) fun e8=>ah (ile 0 32) (ok (.next ((ir .u64 (IntKind.wrap .u64 (c5.1+(IntKind.wrap .u64 ((IntKind.wrap .u64 ((IntKind.wrap .u64 e4)*(IntKind.wrap .u64 e6)))+(IntKind.wrap .u64 e7))))) 32,(IntKind.wrap .i64 (c5.2.1+1),(List.set c5.2.2 (0+Int.toNat (IntKind.wrap .i64 (x3.1+c5.2.1))) (IntKind.wrap .u32 (IntKind.wrap .u64 (c5.1+(IntKind.wrap .u64 ((IntKind.wrap .u64 ((IntKind.wrap .u64 e4)*(IntKind.wrap .u64 e6)))+(IntKind.wrap .u64 e7)))))))))))))))) (ok (.done ((c5.1,c5.2.2))))) fuel (0,(0,x3.2))) fun c9=>ah (ile 0 (IntKind.wrap .i64 (x3.1+(r2.length:Int))) && ilt (IntKind.wrap .i64 (x3.1+(r2.length:Int))) c9.2.length) (idx (.int .u32) c9.2 (0+Int.toNat (IntKind.wrap .i64 (x3.1+(r2.length:Int)))) fun e10=>ok (.next ((IntKind.wrap .i64 (x3.1+1),(List.set c9.2 (0+Int.toNat (IntKind.wrap .i64 (x3.1+(r2.length:Int)))) (IntKind.wrap .u32 c9.1)))))))) (ok (.done (x3.2)))) fuel (0,(List.replicate (Int.toNat (IntKind.wrap .i64 ((r1.length:Int)+(r2.length:Int)))) (0:Int)))) fun x11=>bd (R.fg a_0) fun r12=>bd (R.fg b_1) fun r13=>bd (R.iq x11 (!(r12 == r13))) fun r14=>given (iq.g.o r14) (ok r14)))))
abbrev jH.g:Sg:=⟨[.val false (.bor (.own .w)),.val false .w],[(false,(.own .w))]⟩
def R.jH (a_0:(List Int)) (bit_1:Int):Res ((List Int)) :=
 given (jH.g.i (a_0,bit_1)) (bd (loop (α:=(Int×((List Int)×Int))) (β:=(Int×(List Int))) (fun bit1=>br (ilt bit1.2.2 (a_0.length:Int)) (dC .w a_0 bit1.2.2 fun e2=>ah (ile 0 1) (ah (decide ((bit1.2.1.length+[fm .or .u32 (nf .u32 e2 1) bit1.1].length)*4<=2^47)) (ah (ile 0 31) (ok (.next ((ir .u32 e2 31,((bit1.2.1++[fm .or .u32 (nf .u32 e2 1) bit1.1]),IntKind.wrap .i64 (bit1.2.2+1))))))))) (ok (.done ((bit1.1,bit1.2.1))))) fuel (bit_1,(([]:List Int),0))) fun bit3=>ah (decide ((bit3.2.length+[bit3.1].length)*4<=2^47)) (bd (R.fk (bit3.2++[bit3.1])) fun r4=>given (fk.g.o r4) (ok r4)))
abbrev iE.g:Sg:=⟨[.val false (.bor (.own .w)),.val false (.bor (.own .w))],[(false,(.own .w)),(false,(.own .w))]⟩
def R.iE (a_0:(List Int)) (b_1:(List Int)):Res (((List Int)×(List Int))) :=
 given (iE.g.i (a_0,b_1)) (ah (ile 0 (a_0.length:Int) && (ile (a_0.length:Int) (a_0.length:Int) && decide ((Int.toNat (a_0.length:Int))*4<=2^47))) (bd (loop (α:=((List Int)×(Int×(List Int)))) (β:=((List Int)×(List Int))) (fun rest1=>br (ile 0 rest1.2.1) (bd (loop (α:=((List Int)×(Int×(List Int)))) (β:=((List Int)×(List Int))) (fun rest2=>br (ile 0 rest2.2.1) (dC .w a_0 rest1.2.1 fun e3=>ah (ile 0 rest2.2.1) (bd (R.jH rest2.1 (fm .and .u32 (ir .u32 e3 rest2.2.1) 1)) fun r4=>given (jH.g.o r4) (bd (R.jm r4 b_1) fun r5=>given (jm.g.o r5) (br (ile 0 r5) (bd (R.iU r4 b_1) fun r6=>given (iU.g.o r6) (bd (R.fk r6) fun r7=>given (fk.g.o r7) (ah (ile 0 rest1.2.1 && ilt rest1.2.1 rest2.2.2.length) (idx (.int .u32) rest2.2.2 (0+Int.toNat rest1.2.1) fun e8=>ah (ile 0 rest2.2.1) (ah (ile 0 rest1.2.1 && ilt rest1.2.1 rest2.2.2.length) (idx (.int .u32) rest2.2.2 (0+Int.toNat rest1.2.1) fun e9=>ok (.next ((r7,(IntKind.wrap .i64 (rest2.2.1-1),(List.set rest2.2.2 (0+Int.toNat rest1.2.1) (fm .or .u32 e8 (nf .u32 1 rest2.2.1))))))))))))) (ok (.next ((r4,(IntKind.wrap .i64 (rest2.2.1-1),rest2.2.2))))))))) (ok (.done ((rest2.1,rest2.2.2))))) fuel (rest1.1,(31,rest1.2.2))) fun rest10=>ok (.next ((rest10.1,(IntKind.wrap .i64 (rest1.2.1-1),rest10.2))))) (ok (.done ((rest1.1,rest1.2.2))))) fuel (([]:List Int),(IntKind.wrap .i64 ((a_0.length:Int)-1),(List.replicate (Int.toNat (a_0.length:Int)) (0:Int))))) fun rest11=>ok ((rest11.2,rest11.1))))
abbrev mC.g:Sg:=⟨[.val true (.bor (.seq .b (.own .w))),.val true (.bor (.seq .b (.own .w)))],[(true,(.frz ax)),vi]⟩
def R.mC (a_0:ax.den) (b_1:ax.den):Res ((ax.den×Int)) :=
 given (mC.g.i (a_0,b_1)) (bd (R.cf b_1) fun r1=>given (cf.g.o r1) (br ((r1.length:Int) == 0) (ok (((false,([]:List Int)),4))) (bd (R.cf a_0) fun r2=>given (cf.g.o r2) (bd (R.cf b_1) fun r3=>given (cf.g.o r3) (bd (R.iE r2 r3) fun r4=>given (iE.g.o r4) (bd (R.fg a_0) fun r5=>bd (R.fg b_1) fun r6=>bd (R.dQ r4.1 (!(r5 == r6))) fun r7=>given (dQ.g.o r7) (ok ((r7,0)))))))))
abbrev mM.g:Sg:=⟨[.val true (.bor (.seq .b (.own .w))),.val true (.bor (.seq .b (.own .w)))],[(true,(.frz ax)),vi]⟩
def R.mM (a_0:ax.den) (b_1:ax.den):Res ((ax.den×Int)) :=
 given (mM.g.i (a_0,b_1)) (bd (R.cf b_1) fun r1=>given (cf.g.o r1) (br ((r1.length:Int) == 0) (ok (((false,([]:List Int)),4))) (bd (R.cf a_0) fun r2=>given (cf.g.o r2) (bd (R.cf b_1) fun r3=>given (cf.g.o r3) (bd (R.iE r2 r3) fun r4=>given (iE.g.o r4) (bd (R.fg a_0) fun r5=>bd (R.dQ r4.2 r5) fun r6=>given (dQ.g.o r6) (ok ((r6,0)))))))))
abbrev kH.g:Sg:=⟨[.s,.val true (.bor (.seq .b (.own .w))),.val true (.bor (.seq .b (.own .w)))],[(true,(.frz aC)),vi]⟩
def R.kH (op_0:(List UInt8)) (a_1:ax.den) (b_2:ax.den):Res ((aC.den×Int)) :=
 given (kH.g.i (op_0,(a_1,b_2))) (br (op_0 == [43]) (bd (R.kV a_1 b_2) fun r1=>given (kV.g.o r1) (bd (R.ed r1.1 r1.2) fun r2=>given (ed.g.o r2) (ok r2))) (br (op_0 == [45]) (bd (R.mO a_1 b_2) fun r3=>given (mO.g.o r3) (bd (R.ed r3.1 r3.2) fun r4=>given (ed.g.o r4) (ok r4))) (br (op_0 == [42]) (bd (R.mK a_1 b_2) fun r5=>given (mK.g.o r5) (bd (R.ed r5.1 r5.2) fun r6=>given (ed.g.o r6) (ok r6))) (bd (R.mC a_1 b_2) fun r7=>given (mC.g.o r7) (bd (α:=(Int×ax.den)) (br (op_0 == [37]) (bd (R.mM a_1 b_2) fun r8=>given (mM.g.o r8) (ok ((r8.2,r8.1)))) (ok ((r7.2,r7.1)))) fun e9=>br (!(e9.1 == 0)) (ok ((zV,2))) (bd (R.dB e9.2) fun r10=>given (dB.g.o r10) (ok ((r10,0)))))))))
abbrev mB.g:Sg:=⟨[.val true (.frz aH),.val true (.frz aH)],[(true,(.frz aH)),vb]⟩
def R.mB (a_0:aH.den) (b_1:aH.den):Res ((aH.den×Bool)) :=
 given (mB.g.i (a_0,b_1)) (bd (R.kZ b_1) fun r1=>given (kZ.g.o r1) (bd (R.kT a_0 r1) fun r2=>given (kT.g.o r2) (ok r2)))
abbrev jE.g:Sg:=⟨[.val true (.frz aH)],[vb]⟩
def R.jE (a_0:aH.den):Res (Bool) :=
 given (jE.g.i a_0) (br (a_0.1 == 1) (ok true) (br (a_0.1 == 4) (ok true) (br (a_0.1 == 0) (ok ((ilt a_0.2 0))) (ok false))))
abbrev cb.g:Sg:=⟨[.val true (.frz aH)],[vb]⟩
def R.cb (a_0:aH.den):Res (Bool) :=
 given (cb.g.i a_0) (br (a_0.1 == 1) (ok true) (br (a_0.1 == 0) (ok ((a_0.2 == 0))) (ok false)))
abbrev fO.g:Sg:=⟨[.i],[(false,(.frz (.int .u64)))]⟩
def R.fO (n_0:Int):Res (Int) :=
 given (fO.g.i n_0) (ok (IntKind.wrap .u64 (sK n_0 (IntKind.wrap .i64 (0-n_0)))))
abbrev jV.g:Sg:=⟨[.val false (.frz (.int .u64)),.val false (.frz (.int .u64))],[(false,(.frz (.int .u64))),(false,(.frz (.int .u64)))]⟩
def R.jV (x_0:Int) (y_1:Int):Res ((Int×Int)) :=
 given (jV.g.i (x_0,y_1)) (ah (ile 0 32) (ah (ile 0 32) (ah (ile 0 32) (ah (ile 0 32) (ah (ile 0 32) (ok ((IntKind.wrap .u64 ((IntKind.wrap .u64 ((IntKind.wrap .u64 ((ir .u64 x_0 32)*(ir .u64 y_1 32)))+(ir .u64 (IntKind.wrap .u64 ((IntKind.wrap .u64 ((ir .u64 x_0 32)*(fm .and .u64 y_1 4294967295)))+(ir .u64 (IntKind.wrap .u64 ((fm .and .u64 x_0 4294967295)*(fm .and .u64 y_1 4294967295))) 32))) 32)))+(ir .u64 (IntKind.wrap .u64 ((fm .and .u64 (IntKind.wrap .u64 ((IntKind.wrap .u64 ((ir .u64 x_0 32)*(fm .and .u64 y_1 4294967295)))+(ir .u64 (IntKind.wrap .u64 ((fm .and .u64 x_0 4294967295)*(fm .and .u64 y_1 4294967295))) 32))) 4294967295)+(IntKind.wrap .u64 ((fm .and .u64 x_0 4294967295)*(ir .u64 y_1 32))))) 32)),IntKind.wrap .u64 (x_0*y_1)))))))))
abbrev gD.g:Sg:=⟨[.val false (.frz (.int .u64)),.b],[(true,(.frz aH))]⟩
def R.gD (n_0:Int) (neg_1:Bool):Res (aH.den) :=
 given (gD.g.i (n_0,neg_1)) (br neg_1 (bd (R.cK (IntKind.wrap .i64 (0-(IntKind.wrap .i64 n_0)))) fun r1=>given (cK.g.o r1) (ok r1)) (bd (R.cK (IntKind.wrap .i64 n_0)) fun r2=>given (cK.g.o r2) (ok r2)))
abbrev mN.g:Sg:=⟨[.val true (.frz aH),.val true (.frz aH)],[(true,(.frz aH)),vb]⟩
def R.mN (a_0:aH.den) (b_1:aH.den):Res ((aH.den×Bool)) :=
 given (mN.g.i (a_0,b_1)) (bd (R.da a_0) fun r1=>given (da.g.o r1) (bd (R.da b_1) fun r2=>given (da.g.o r2) (bd (R.jE r1) fun r3=>bd (R.jE r2) fun r4=>bd (α:=Bool) (bd (R.eH r1) fun r5=>br r5 (ok true) (bd (R.eH r2) fun r6=>br r6 (ok true) (bd (R.dk r1) fun r7=>br r7 (bd (R.cb r2) fun r8=>br r8 (ok true) (bd (R.cb r1) fun r9=>br r9 (bd (R.dk r2) fun r10=>ok r10) (ok false))) (bd (R.cb r1) fun r11=>br r11 (bd (R.dk r2) fun r12=>ok r12) (ok false))))) fun x13=>br x13 (bd (R.dv) fun r14=>given (dv.g.o r14) (ok ((r14,true)))) (bd (α:=Bool) (bd (R.dk r1) fun r15=>br r15 (ok true) (bd (R.dk r2) fun r16=>ok r16)) fun x17=>br x17 (bd (R.i6 (!(r3 == r4))) fun r18=>given (i6.g.o r18) (ok ((r18,true)))) (bd (α:=Bool) (bd (R.cb r1) fun r19=>br r19 (ok true) (bd (R.cb r2) fun r20=>ok r20)) fun x21=>br x21 (bd (R.eh (!(r3 == r4))) fun r22=>given (eh.g.o r22) (ok ((r22,true)))) (bd (R.fO r1.2) fun r23=>given (fO.g.o r23) (bd (R.fO r2.2) fun r24=>given (fO.g.o r24) (bd (R.jV r23 r24) fun r25=>given (jV.g.o r25) (bd (α:=Bool) (br (ilt 0 r25.1) (ok true) (ok ((ilt 9007199254740991 r25.2)))) fun x26=>br x26 (bd (R.dv) fun r27=>given (dv.g.o r27) (ok ((r27,false)))) (bd (R.gD r25.2 (!(r3 == r4))) fun r28=>given (gD.g.o r28) (ok ((r28,true)))))))))))))
abbrev mJ.g:Sg:=⟨[.val true (.frz aH),.val true (.frz aH)],[(true,(.frz aH)),vb]⟩
def R.mJ (a_0:aH.den) (b_1:aH.den):Res ((aH.den×Bool)) :=
 given (mJ.g.i (a_0,b_1)) (bd (R.da a_0) fun r1=>given (da.g.o r1) (bd (R.da b_1) fun r2=>given (da.g.o r2) (bd (R.jE r1) fun r3=>bd (R.jE r2) fun r4=>bd (α:=Bool) (bd (R.eH r1) fun r5=>br r5 (ok true) (bd (R.eH r2) fun r6=>br r6 (ok true) (bd (R.dk r1) fun r7=>br r7 (bd (R.dk r2) fun r8=>br r8 (ok true) (bd (R.cb r1) fun r9=>br r9 (bd (R.cb r2) fun r10=>ok r10) (ok false))) (bd (R.cb r1) fun r11=>br r11 (bd (R.cb r2) fun r12=>ok r12) (ok false))))) fun x13=>br x13 (bd (R.dv) fun r14=>given (dv.g.o r14) (ok ((r14,true)))) (bd (α:=Bool) (bd (R.dk r1) fun r15=>br r15 (ok true) (bd (R.cb r2) fun r16=>ok r16)) fun x17=>br x17 (bd (R.i6 (!(r3 == r4))) fun r18=>given (i6.g.o r18) (ok ((r18,true)))) (bd (α:=Bool) (bd (R.dk r2) fun r19=>br r19 (ok true) (bd (R.cb r1) fun r20=>ok r20)) fun x21=>br x21 (bd (R.eh (!(r3 == r4))) fun r22=>given (eh.g.o r22) (ok ((r22,true)))) (bd (R.fO r1.2) fun r23=>given (fO.g.o r23) (bd (R.fO r2.2) fun r24=>given (fO.g.o r24) (ah (!(r24 == 0)) (br (!((Int.tmod r23 r24) == 0)) (bd (R.dv) fun r25=>given (dv.g.o r25) (ok ((r25,false)))) (bd (R.fO r1.2) fun r26=>given (fO.g.o r26) (bd (R.fO r2.2) fun r27=>given (fO.g.o r27) (ah (!(r27 == 0)) (bd (R.gD (IntKind.wrap .u64 (Int.tdiv r26 r27)) (!(r3 == r4))) fun r28=>given (gD.g.o r28) (ok ((r28,true))))))))))))))))
abbrev mF.g:Sg:=⟨[.val true (.frz aH),.val true (.frz aH)],[(true,(.frz aH))]⟩
def R.mF (a_0:aH.den) (b_1:aH.den):Res (aH.den) :=
 given (mF.g.i (a_0,b_1)) (bd (R.da a_0) fun r1=>given (da.g.o r1) (bd (R.da b_1) fun r2=>given (da.g.o r2) (bd (α:=Bool) (bd (R.eH r1) fun r3=>br r3 (ok true) (bd (R.eH r2) fun r4=>br r4 (ok true) (bd (R.dk r1) fun r5=>br r5 (ok true) (bd (R.cb r2) fun r6=>ok r6)))) fun x7=>br x7 (bd (R.dv) fun r8=>given (dv.g.o r8) (ok r8)) (bd (α:=Bool) (bd (R.dk r2) fun r9=>br r9 (ok true) (bd (R.cb r1) fun r10=>ok r10)) fun x11=>br x11 (ok r1) (bd (R.fO r1.2) fun r12=>given (fO.g.o r12) (bd (R.fO r2.2) fun r13=>given (fO.g.o r13) (ah (!(r13 == 0)) (br ((Int.tmod r12 r13) == 0) (bd (R.eh (ilt r1.2 0)) fun r14=>given (eh.g.o r14) (ok r14)) (bd (R.gD (Int.tmod r12 r13) (ilt r1.2 0)) fun r15=>given (gD.g.o r15) (ok r15))))))))))
abbrev jZ.g:Sg:=⟨[.s,.val true (.frz aC),.val true (.frz aC)],[(true,(.frz aC)),vi]⟩
def R.jZ (op_0:(List UInt8)) (a_1:aC.den) (b_2:aC.den):Res ((aC.den×Int)) :=
 given (jZ.g.i (op_0,(a_1,b_2))) (bd (R.eO a_1 b_2) fun r1=>given (eO.g.o r1) (br (!(r1.2.2 == 0)) (ok ((zV,r1.2.2))) (br (r1.1.1 == 4) (bd (R.kH op_0 r1.1.2.2.1 r1.2.1.2.2.1) fun r2=>given (kH.g.o r2) (ok r2)) (br (op_0 == [43]) (bd (R.kT r1.1.2.1 r1.2.1.2.1) fun r3=>given (kT.g.o r3) (bd (R.ca r3.1 r3.2) fun r4=>given (ca.g.o r4) (ok r4))) (br (op_0 == [45]) (bd (R.mB r1.1.2.1 r1.2.1.2.1) fun r5=>given (mB.g.o r5) (bd (R.ca r5.1 r5.2) fun r6=>given (ca.g.o r6) (ok r6))) (br (op_0 == [42]) (bd (R.mN r1.1.2.1 r1.2.1.2.1) fun r7=>given (mN.g.o r7) (bd (R.ca r7.1 r7.2) fun r8=>given (ca.g.o r8) (ok r8))) (br (op_0 == [47]) (bd (R.mJ r1.1.2.1 r1.2.1.2.1) fun r9=>given (mJ.g.o r9) (bd (R.ca r9.1 r9.2) fun r10=>given (ca.g.o r10) (ok r10))) (bd (R.mF r1.1.2.1 r1.2.1.2.1) fun r11=>given (mF.g.o r11) (bd (R.ca r11 true) fun r12=>given (ca.g.o r12) (ok r12))))))))))
abbrev kO.g:Sg:=⟨[.s,.val true (.frz aC),.val true (.frz aC)],[(true,(.frz aC)),vi]⟩
def R.kO (op_0:(List UInt8)) (a_1:aC.den) (b_2:aC.den):Res ((aC.den×Int)) :=
 given (kO.g.i (op_0,(a_1,b_2))) (bd (R.eO a_1 b_2) fun r1=>given (eO.g.o r1) (br (!(r1.2.2 == 0)) (ok ((zV,r1.2.2))) (bd (α:=Bool) (br (r1.1.1 == 4) (ok ((op_0 == [62,62,62]))) (ok false)) fun x2=>br x2 (ok ((zV,1))) (br (r1.1.1 == 4) (ok ((zV,3))) (bd (α:=Int) (br (op_0 == [38]) (ok 1) (br (op_0 == [124]) (ok 2) (br (op_0 == [94]) (ok 3) (br (op_0 == [60,60]) (ok 4) (br (op_0 == [62,62]) (ok 5) (br (op_0 == [62,62,62]) (ok 6) (ok 0))))))) fun n3=>bd (R.lN n3 r1.1.2.1 r1.2.1.2.1) fun r4=>given (lN.g.o r4) (bd (R.b8 r4) fun r5=>given (b8.g.o r5) (ok ((r5,0)))))))))
abbrev dm.g:Sg:=⟨[.val false .h],[vb]⟩
def R.dm (x_0:Int):Res (Bool) :=
 given (dm.g.i x_0) (ok ((!(x_0 == x_0))))
abbrev cw.g:Sg:=⟨[.val false .h,.val false .h],[vi]⟩
def R.cw (x_0:Int) (y_1:Int):Res (Int) :=
 given (cw.g.i (x_0,y_1)) (bd (R.dm x_0) fun r1=>bd (R.dm y_1) fun r2=>br r1 (br r2 (ok 0) (ok ((-1)))) (br r2 (ok 1) (br (ilt x_0 y_1) (ok ((-1))) (br (ilt y_1 x_0) (ok 1) (ok 0)))))
abbrev cR.g:Sg:=⟨[.val false (.bor (.own .h)),.val false (.bor (.own .h))],[vi]⟩
def R.cR (s1_0:(List Int)) (s2_1:(List Int)):Res (Int) :=
 given (cR.g.i (s1_0,s2_1)) (bd (loop (α:=Int) (β:=(Unit ⊕ Int)) (fun x1=>br (ilt x1 (s1_0.length:Int)) (dC .h s1_0 x1 fun e2=>br (ile (s2_1.length:Int) x1) (ok (.done (.inr 1))) (dC .h s2_1 x1 fun e3=>bd (R.cw e2 e3) fun r4=>given (cw.g.o r4) (br (!(r4 == 0)) (ok (.done (.inr r4))) (ok (.next (IntKind.wrap .i64 (x1+1))))))) (ok (.done (.inl ())))) fuel 0) fun x5=>sum x5 (fun x6=>br (ilt (s1_0.length:Int) (s2_1.length:Int)) (ok ((-1))) (ok 0)) (fun z7=>ok z7))
abbrev kh.g:Sg:=⟨[.val false (.bor (.own .h)),.val false (.bor (.own .h))],[vb]⟩
def R.kh (a_0:(List Int)) (b_1:(List Int)):Res (Bool) :=
 given (kh.g.i (a_0,b_1)) (bd (R.cR a_0 b_1) fun r1=>given (cR.g.o r1) (ok ((ilt r1 0))))
abbrev kY.g:Sg:=⟨[.val true (.bor (.seq .b (.own .w))),.val true (.bor (.seq .b (.own .w)))],[vi]⟩
def R.kY (a_0:ax.den) (b_1:ax.den):Res (Int) :=
 given (kY.g.i (a_0,b_1)) (bd (R.fg a_0) fun r1=>bd (R.fg b_1) fun r2=>bd (α:=Bool) (br r1 (ok ((!r2))) (ok false)) fun x3=>br x3 (ok ((-1))) (bd (α:=Bool) (br r2 (ok ((!r1))) (ok false)) fun x4=>br x4 (ok 1) (br r1 (bd (R.cf b_1) fun r5=>given (cf.g.o r5) (bd (R.cf a_0) fun r6=>given (cf.g.o r6) (bd (R.jm r5 r6) fun r7=>given (jm.g.o r7) (ok r7)))) (bd (R.cf a_0) fun r8=>given (cf.g.o r8) (bd (R.cf b_1) fun r9=>given (cf.g.o r9) (bd (R.jm r8 r9) fun r10=>given (jm.g.o r10) (ok r10)))))))
abbrev gd.g:Sg:=⟨[.val true (.bor (.seq .b (.own .w))),.val true (.frz aH)],[vi,vb]⟩
def R.gd (b_0:ax.den) (a_1:aH.den):Res ((Int×Bool)) :=
 given (gd.g.i (b_0,a_1)) (br (a_1.1 == 2) (ok ((0,false))) (br (a_1.1 == 3) (ok (((-1),true))) (br (a_1.1 == 4) (ok ((1,true))) (bd (R.jl a_1.2) fun r1=>given (jl.g.o r1) (bd (R.kY b_0 r1) fun r2=>given (kY.g.o r2) (ok ((r2,true))))))))
abbrev jn.g:Sg:=⟨[.val true (.frz aH),.val true (.frz aH)],[vb]⟩
def R.jn (a_0:aH.den) (b_1:aH.den):Res (Bool) :=
 given (jn.g.i (a_0,b_1)) (bd (R.da a_0) fun r1=>given (da.g.o r1) (bd (R.da b_1) fun r2=>given (da.g.o r2) (bd (R.eH r1) fun r3=>br (!r3) (bd (R.eH r2) fun r4=>br (!r4) (bd (R.iH r1) fun r5=>given (iH.g.o r5) (bd (R.iH r2) fun r6=>given (iH.g.o r6) (ok ((ilt r5 r6))))) (ok false)) (ok false))))
abbrev jI.g:Sg:=⟨[.val true (.bor (.seq .i (.seq (.frz aH) (.seq (.seq .b (.own .w)) (.seq (.own .h) .i))))),.val true (.bor (.seq .i (.seq (.frz aH) (.seq (.seq .b (.own .w)) (.seq (.own .h) .i)))))],[vi,vb]⟩
def R.jI (x_0:aC.den) (y_1:aC.den):Res ((Int×Bool)) :=
 given (jI.g.i (x_0,y_1)) (bd (α:=Bool) (br (x_0.1 == 4) (ok ((y_1.1 == 4))) (ok false)) fun x1=>br x1 (bd (R.kY x_0.2.2.1 y_1.2.2.1) fun r2=>given (kY.g.o r2) (ok ((r2,true)))) (br (x_0.1 == 4) (bd (R.gd x_0.2.2.1 y_1.2.1) fun r3=>given (gd.g.o r3) (ok r3)) (br (y_1.1 == 4) (bd (R.gd y_1.2.2.1 x_0.2.1) fun r4=>given (gd.g.o r4) (ok ((IntKind.wrap .i64 (0-r4.1),r4.2)))) (bd (R.jn x_0.2.1 y_1.2.1) fun r5=>br r5 (ok (((-1),true))) (bd (R.iN x_0.2.1 y_1.2.1) fun r6=>br r6 (ok ((0,true))) (bd (R.jn y_1.2.1 x_0.2.1) fun r7=>ok ((1,r7))))))))
abbrev gu.g:Sg:=⟨[.val true (.frz aC),.val true (.frz aC),.b,.b],[(true,(.frz aC)),vi]⟩
def R.gu (a_0:aC.den) (b_1:aC.den) (turned_2:Bool) (not_3:Bool):Res ((aC.den×Int)) :=
 given (gu.g.i (a_0,(b_1,(turned_2,not_3)))) (bd (α:=Bool) (br (a_0.1 == 6) (ok true) (ok ((b_1.1 == 6)))) fun x1=>br x1 (ok ((zV,3))) (bd (α:=Bool) (br (a_0.1 == 5) (ok ((b_1.1 == 5))) (ok false)) fun x2=>br x2 (bd (α:=(aC.den×aC.den)) (br turned_2 (ok ((b_1,a_0))) (ok ((a_0,b_1)))) fun x3=>bd (R.kh x3.1.2.2.2.1 x3.2.2.2.2.1) fun r4=>bd (R.bE (!(r4 == not_3))) fun r5=>given (bE.g.o r5) (ok ((r5,0)))) (bd (α:=Bool) (br (a_0.1 == 5) (br (b_1.1 == 4) (ok true) (br (a_0.1 == 4) (ok ((b_1.1 == 5))) (ok false))) (br (a_0.1 == 4) (ok ((b_1.1 == 5))) (ok false))) fun x6=>br x6 (ok ((zV,3))) (bd (R.bx a_0) fun r7=>given (bx.g.o r7) (br (!(r7.2 == 0)) (ok ((zV,r7.2))) (bd (R.bx b_1) fun r8=>given (bx.g.o r8) (br (!(r8.2 == 0)) (ok ((zV,r8.2))) (bd (α:=(aC.den×aC.den)) (br turned_2 (ok ((r8.1,r7.1))) (ok ((r7.1,r8.1)))) fun x9=>bd (R.jI x9.1 x9.2) fun r10=>given (jI.g.o r10) (br r10.2 (bd (R.bE (!((ilt r10.1 0) == not_3))) fun r11=>given (bE.g.o r11) (ok ((r11,0)))) (bd (R.bE false) fun r12=>given (bE.g.o r12) (ok ((r12,0)))))))))))))
abbrev cx.g:Sg:=⟨[.val false (.bor (.own .w)),.val false (.bor (.own .w))],[vb]⟩
def R.cx (s1_0:(List Int)) (s2_1:(List Int)):Res (Bool) :=
 given (cx.g.i (s1_0,s2_1)) (br (!((s1_0.length:Int) == (s2_1.length:Int))) (ok false) (bd (loop (α:=Int) (β:=(Unit ⊕ Bool)) (fun x1=>br (ilt x1 (s1_0.length:Int)) (dC .w s1_0 x1 fun e2=>dC .w s2_1 x1 fun e3=>br (!(e2 == e3)) (ok (.done (.inr false))) (ok (.next (IntKind.wrap .i64 (x1+1))))) (ok (.done (.inl ())))) fuel 0) fun x4=>sum x4 (fun x5=>ok true) (fun z6=>ok z6)))
abbrev kj.g:Sg:=⟨[.val true (.bor (.seq .i (.seq (.frz aH) (.seq (.seq .b (.own .w)) (.seq (.own .h) .i))))),.val true (.bor (.seq .i (.seq (.frz aH) (.seq (.seq .b (.own .w)) (.seq (.own .h) .i)))))],[vb]⟩
def R.kj (a_0:aC.den) (b_1:aC.den):Res (Bool) :=
 given (kj.g.i (a_0,b_1)) (br (a_0.1 == b_1.1) (br ((a_0.2.1.1 == b_1.2.1.1) && ((a_0.2.1.2 == b_1.2.1.2) && true)) (br (a_0.2.2.1.1 == b_1.2.2.1.1) (bd (R.cx a_0.2.2.1.2 b_1.2.2.1.2) fun r1=>br r1 (bd (R.cc a_0.2.2.2.1 b_1.2.2.2.1) fun r2=>br r2 (ok ((a_0.2.2.2.2 == b_1.2.2.2.2))) (ok false)) (ok false)) (ok false)) (ok false)) (ok false))
abbrev gN.g:Sg:=⟨[.val true (.frz aC),.val true (.frz aC)],[vb]⟩
def R.gN (a_0:aC.den) (b_1:aC.den):Res (Bool) :=
 given (gN.g.i (a_0,b_1)) (bd (R.bl a_0) fun r1=>given (bl.g.o r1) (bd (R.bl b_1) fun r2=>given (bl.g.o r2) (br (!(r1.1 == r2.1)) (ok false) (br (r1.1 == 3) (bd (R.iN r1.2.1 r2.2.1) fun r3=>ok r3) (bd (R.kj r1 r2) fun r4=>ok r4)))))
abbrev jY.g:Sg:=⟨[.val true (.bor (.seq .i (.seq (.frz aH) (.seq (.seq .b (.own .w)) (.seq (.own .h) .i)))))],[vb]⟩
def R.jY (v_0:aC.den):Res (Bool) :=
 given (jY.g.i v_0) (br (v_0.1 == 0) (ok true) (ok ((v_0.1 == 1))))
abbrev fh.g:Sg:=⟨[.val true (.frz aC)],[(true,(.frz aC))]⟩
def R.fh (v_0:aC.den):Res (aC.den) :=
 given (fh.g.i v_0) (br (v_0.1 == 2) (bd (R.b8 (0,v_0.2.2.2.2)) fun r1=>given (b8.g.o r1) (ok r1)) (ok v_0))
abbrev lK.g:Sg:=⟨[.val true (.bor (.seq .b (.own .w))),.val true (.bor (.seq .b (.own .w)))],[vb]⟩
def R.lK (a_0:ax.den) (b_1:ax.den):Res (Bool) :=
 given (lK.g.i (a_0,b_1)) (bd (R.kY a_0 b_1) fun r1=>given (kY.g.o r1) (ok ((r1 == 0))))
abbrev js.g:Sg:=⟨[.val true (.bor (.seq .b (.own .w))),.val true (.frz aH)],[vb]⟩
def R.js (b_0:ax.den) (a_1:aH.den):Res (Bool) :=
 given (js.g.i (b_0,a_1)) (br (a_1.1 == 1) (br ((b_0.2.length:Int) == 0) (ok true) (br (a_1.1 == 0) (bd (R.jl a_1.2) fun r1=>given (jl.g.o r1) (bd (R.lK b_0 r1) fun r2=>ok r2)) (ok false))) (br (a_1.1 == 0) (bd (R.jl a_1.2) fun r3=>given (jl.g.o r3) (bd (R.lK b_0 r3) fun r4=>ok r4)) (ok false)))
abbrev jS.g:Sg:=⟨[.val true (.frz aC),.val true (.frz aC)],[vb,vi]⟩
def R.jS (a_0:aC.den) (b_1:aC.den):Res ((Bool×Int)) :=
 given (jS.g.i (a_0,b_1)) (bd (R.bl a_0) fun r1=>given (bl.g.o r1) (bd (R.bl b_1) fun r2=>given (bl.g.o r2) (br (r1.1 == r2.1) (bd (R.gN r1 r2) fun r3=>ok ((r3,0))) (bd (α:=Bool) (bd (R.jY r1) fun r4=>br r4 (ok true) (bd (R.jY r2) fun r5=>ok r5)) fun x6=>br x6 (bd (R.jY r1) fun r7=>br r7 (bd (R.jY r2) fun r8=>ok ((r8,0))) (ok ((false,0)))) (bd (R.fh r1) fun r9=>given (fh.g.o r9) (bd (R.fh r2) fun r10=>given (fh.g.o r10) (bd (α:=(aC.den×aC.den)) (br (ilt r10.1 r9.1) (ok ((r10,r9))) (ok ((r9,r10)))) fun x11=>br (x11.1.1 == x11.2.1) (bd (R.gN x11.1 x11.2) fun r12=>ok ((r12,0))) (bd (α:=Bool) (br (x11.1.1 == 3) (ok ((x11.2.1 == 4))) (ok false)) fun x13=>br x13 (bd (R.js x11.2.2.2.1 x11.1.2.1) fun r14=>ok ((r14,0))) (bd (α:=Bool) (br (x11.1.1 == 3) (ok ((x11.2.1 == 5))) (ok false)) fun x15=>br x15 (bd (R.bP x11.2) fun r16=>given (bP.g.o r16) (br (r16.2 == 0) (bd (R.iN x11.1.2.1 r16.1) fun r17=>ok ((r17,r16.2))) (ok ((false,r16.2))))) (ok ((false,3))))))))))))
abbrev gM.g:Sg:=⟨[.s,.val true (.frz aC),.val true (.frz aC)],[(true,(.frz aC)),vi]⟩
def R.gM (op_0:(List UInt8)) (a_1:aC.den) (b_2:aC.den):Res ((aC.den×Int)) :=
 given (gM.g.i (op_0,(a_1,b_2))) (bd (R.bl a_1) fun r1=>given (bl.g.o r1) (bd (R.bl b_2) fun r2=>given (bl.g.o r2) (br (op_0 == [43]) (bd (α:=Bool) (br (r1.1 == 5) (ok true) (ok ((r2.1 == 5)))) fun x3=>br x3 (bd (R.kG r1 r2) fun r4=>given (kG.g.o r4) (ok r4)) (bd (R.jZ op_0 r1 r2) fun r5=>given (jZ.g.o r5) (ok r5))) (bd (α:=Bool) (br (op_0 == [45]) (ok ((op_0 == [45]))) (br (op_0 == [42]) (ok ((op_0 == [42]))) (br (op_0 == [47]) (ok ((op_0 == [47]))) (ok ((op_0 == [37])))))) fun x6=>br x6 (bd (R.jZ op_0 r1 r2) fun r7=>given (jZ.g.o r7) (ok r7)) (bd (α:=Bool) (br (op_0 == [38]) (ok ((op_0 == [38]))) (br (op_0 == [124]) (ok ((op_0 == [124]))) (br (op_0 == [94]) (ok ((op_0 == [94]))) (br (op_0 == [60,60]) (ok ((op_0 == [60,60]))) (br (op_0 == [62,62]) (ok ((op_0 == [62,62]))) (ok ((op_0 == [62,62,62])))))))) fun x8=>br x8 (bd (R.kO op_0 r1 r2) fun r9=>given (kO.g.o r9) (ok r9)) (br (op_0 == [60]) (bd (R.gu r1 r2 false false) fun r10=>given (gu.g.o r10) (ok r10)) (br (op_0 == [62]) (bd (R.gu r1 r2 true false) fun r11=>given (gu.g.o r11) (ok r11)) (br (op_0 == [60,61]) (bd (R.gu r1 r2 true true) fun r12=>given (gu.g.o r12) (ok r12)) (br (op_0 == [62,61]) (bd (R.gu r1 r2 false true) fun r13=>given (gu.g.o r13) (ok r13)) (br (op_0 == [61,61,61]) (bd (R.gN r1 r2) fun r14=>bd (R.bE r14) fun r15=>given (bE.g.o r15) (ok ((r15,0)))) (br (op_0 == [33,61,61]) (bd (R.gN r1 r2) fun r16=>bd (R.bE (!r16)) fun r17=>given (bE.g.o r17) (ok ((r17,0)))) (bd (α:=Bool) (br (op_0 == [61,61]) (ok ((op_0 == [61,61]))) (ok ((op_0 == [33,61])))) fun x18=>br x18 (bd (R.jS r1 r2) fun r19=>given (jS.g.o r19) (br (!(r19.2 == 0)) (ok ((zV,r19.2))) (bd (R.bE (r19.1 == (op_0 == [61,61]))) fun r20=>given (bE.g.o r20) (ok ((r20,0)))))) (ok ((zV,3)))))))))))))))
abbrev bU.g:Sg:=⟨[.val false (.bor (.own (.frz aC))),.i],[(true,(.frz aC))]⟩
def R.bU (l_0:(List aC.den)) (i_1:Int):Res (aC.den) :=
 given (bU.g.i (l_0,i_1)) (br (ilt i_1 (l_0.length:Int)) (dC (.frz aC) l_0 i_1 fun e1=>ok e1) (ok zV))
abbrev eJ.g:Sg:=⟨[.val true (.frz aH)],[(true,(.frz aH))]⟩
def R.eJ (a_0:aH.den):Res (aH.den) :=
 given (eJ.g.i a_0) (bd (R.da a_0) fun r1=>given (da.g.o r1) (bd (α:=Bool) (br (r1.1 == 2) (ok true) (ok ((r1.1 == 1)))) fun x2=>br x2 (bd (R.cK 0) fun r3=>given (cK.g.o r3) (ok r3)) (ok r1)))
abbrev kP.g:Sg:=⟨[.val true (.frz aH)],[vi,vb]⟩
def R.kP (a_0:aH.den):Res ((Int×Bool)) :=
 given (kP.g.i a_0) (bd (R.eJ a_0) fun r1=>given (eJ.g.o r1) (bd (α:=Bool) (br (!(r1.1 == 0)) (ok true) (ok ((ilt r1.2 0)))) fun x2=>br x2 (ok ((0,false))) (ok ((r1.2,true)))))
abbrev cQ.g:Sg:=⟨[.val true (.frz aC)],[vi,vi]⟩
def R.cQ (v_0:aC.den):Res ((Int×Int)) :=
 given (cQ.g.i v_0) (bd (R.bl v_0) fun r1=>given (bl.g.o r1) (br (r1.1 == 0) (ok ((0,0))) (bd (R.bP r1) fun r2=>given (bP.g.o r2) (br (!(r2.2 == 0)) (ok ((0,r2.2))) (bd (R.kP r2.1) fun r3=>given (kP.g.o r3) (br (!r3.2) (ok ((0,2))) (ok ((r3.1,0)))))))))
abbrev dc.g:Sg:=⟨[.obj aG,.val false (.bor (.own (.frz aC)))],[(true,(.frz aC)),vi]⟩
def R.dc (r_0:aG.den) (l_1:(List aC.den)):Res ((aC.den×Int)×aG.den) :=
 given (dc.g.i (r_0,l_1)) (bd (R.bU l_1 0) fun r1=>given (bU.g.o r1) (bd (R.cQ r1) fun r2=>given (cQ.g.o r2) (br (!(r2.2 == 0)) (bd (R.aF r_0 r2.2) fun r3=>given (aF.g.o r3) (ok r3)) (bd (R.bU l_1 1) fun r4=>given (bU.g.o r4) (br (!(r4.1 == 0)) (bd (R.aK r_0) fun r5=>given (aK.g.o r5) (ok r5)) (bd (R.bX r_0 (1,(0,(0,(0,(0,(false,(false,(0,(0,((0,0),(([]:List Int),r2.1)))))))))))) fun r6=>given (bX.g.o r6) (br (!(r6.1.2 == 0)) (ok (((zV,r6.1.2),r6.2))) (br (!(r6.1.1.2.1 == 0)) (bd (R.aF r6.2 2) fun r7=>given (aF.g.o r7) (ok r7)) (bd (R.aT r6.2 (6,(0,(([]:List bO.den),(([]:List bJ.den),(([]:List UInt8),(0,(0,(zV,(0,(r6.1.1.2.2.1,(0,(r2.1,([]:List Int)))))))))))))) fun r8=>given (aT.g.o r8) (ok r8))))))))))
abbrev dq.g:Sg:=⟨[.val false (.bor aG),.val true (.bor (.seq .i (.seq (.frz aH) (.seq (.seq .b (.own .w)) (.seq (.own .h) .i)))))],[vb]⟩
def R.dq (r_0:((List aE.den)×(eu.den×((List fF.den)×(Int×(gy.den×(Int×(Int×(eZ.den×gl.den))))))))) (v_1:aC.den):Res (Bool) :=
 given (dq.g.i (r_0,v_1)) (br (!(v_1.1 == 6)) (ok false) (bd (R.ay r_0.2.2.2.2.1 v_1.2.2.2.2) fun r1=>given (ay.g.o r1) (br (r1 == 5) (ok true) (ok ((r1 == 6))))))
abbrev dd.g:Sg:=⟨[.obj aG,.val false (.bor (.own (.frz aC)))],[(true,(.frz aC)),vi]⟩
def R.dd (r_0:aG.den) (l_1:(List aC.den)):Res ((aC.den×Int)×aG.den) :=
 given (dd.g.i (r_0,l_1)) (bd (R.bU l_1 0) fun r1=>given (bU.g.o r1) (bd (R.dq r_0 r1) fun r2=>br (!r2) (bd (R.aF r_0 1) fun r3=>given (aF.g.o r3) (ok r3)) (bd (R.dD r_0 r1.2.2.2.2) fun r4=>given (dD.g.o r4) (bd (R.bU l_1 1) fun r5=>given (bU.g.o r5) (bd (R.cQ r5) fun r6=>given (cQ.g.o r6) (br (!(r6.2 == 0)) (bd (R.aF r_0 r6.2) fun r7=>given (aF.g.o r7) (ok r7)) (br (ilt r4 r6.1) (bd (R.aF r_0 2) fun r8=>given (aF.g.o r8) (ok r8)) (bd (α:=(Int ⊕ (Int×(aG.den×aC.den)))) (bd (R.bU l_1 2) fun r9=>given (bU.g.o r9) (br (!(r9.1 == 0)) (bd (R.cQ r9) fun r10=>given (cQ.g.o r10) (br (!(r10.2 == 0)) (bd (R.aF r_0 r10.2) fun r11=>given (aF.g.o r11) (ok (.inr (r11.1.2,(r11.2,r11.1.1))))) (br (ilt (IntKind.wrap .i64 (r4-r6.1)) r10.1) (bd (R.aF r_0 2) fun r12=>given (aF.g.o r12) (ok (.inr (r12.1.2,(r12.2,r12.1.1))))) (ok (.inl r10.1))))) (ok (.inl (IntKind.wrap .i64 (r4-r6.1)))))) fun n13=>sum n13 (fun n14=>bd (R.aT r_0 (8,(0,(([]:List bO.den),(([]:List bJ.den),(([]:List UInt8),(0,(0,(zV,(0,(r1.2.2.2.2,(r6.1,(n14,([]:List Int)))))))))))))) fun r16=>given (aT.g.o r16) (ok r16)) (fun z15=>ok (((z15.2.2,z15.1),z15.2.1)))))))))))
end Go.Mach
end

