/-
  Proved here: the law renlaw12.EvalFurther returns true for every input of the stated bulk and leaves its arguments as they were; no further condition.
  By an AI agent; no person has read it.
-/
import Derived.Test.YtdmjcmcdgepoeaaGreatDoorPartl
import Derived.KernelRfl
import GoSem.ClaimGoes
set_option linter.all false
set_option linter.deprecated false
set_option maxRecDepth 1000000
namespace Go.Mach
theorem EU:R.eY.strip=some true:=by kernel_rfl
end Go.Mach

set_option maxRecDepth 100000
namespace Go.Mach
open Res
theorem FE:∀ F:Res Bool,F=R.eY->F.sat (·=true):=by
 intro F h;have h2:=EU;rw [<- h] at h2;exact ox h2 rfl
theorem HY {l:List DT}:(R.iI l).sat fun r=>r=true->l.length<=100:=by
 unfold R.iI
 refine aA fun _=>aB (hJ (Q:=fun _:Int=>True) (fun y=>y.2) 100 (by decide) (fun _=>True) (by decide) (by decide) trivial fun y y0 y1 _=>?_) fun r _=>lp (fun h=>aD fun _=>by have h:(l.length:Int)<=100:=h;omega) fun _=>aD fun e=>by cases e
 obtain ⟨a,j⟩:=y;have y0:0<=j:=y0;refine aB (R:=fun b=>b=true->j < (l.length:Int)/\j < 100) (fY (fun h=>aD fun e=>⟨h,of_decide_eq_true e⟩) fun _=>aD fun e=>by cases e) fun b hb=>aH (fun e=>?_) fun _=>aD trivial;obtain ⟨h1,h2⟩:=hb e;exact bO y0 (by omega) fun _ _ _=>aD ⟨rfl,h2,trivial⟩
theorem Fm {lim:w8}:(R.gE lim).sat fun r=>r=true->LE.le (α:=Int) (lim.2.2) (3000)/\LE.le (α:=Int) (lim.2.1) (200)/\LE.le (α:=Int) (lim.1) (1000):=by
 unfold R.gE
 exact aA fun _=>lp (fun h1=>lp (fun h2=>aD fun e=>⟨h1,h2,of_decide_eq_true e⟩) fun _=>aD fun e=>by cases e) fun _=>aD fun e=>by cases e
theorem C3 {a b:List Int}(h:fN.g.i (a,b)=true):a.length<=2^47:=by
 have h1:(fj .h a.length && fj .h b.length)=true:=by first|exact h|simpa [oks] using h
 have h2:=of_decide_eq_true (Bool.and_eq_true_iff.1 h1).1;have:Sh.h.jt=2:=rfl;rw [this] at h2;omega
theorem wg {a:List Int}:(R.fN a a).sat (·=true):=by
 unfold R.fN;refine aA fun hg=>?_;have hl:=C3 hg;refine eT (bK (fun _=>?_) fun h=>absurd rfl h);refine aB (R:=fun x=>x=.inl ()) (tg (fun i=>i) a.length (by omega) (fun i=>0<=i/\i<=(a.length:Int)) ⟨Int.le_refl 0,by omega⟩ (fun i h=>h) fun i ⟨h0,h1⟩=>fY (fun h=>?_) fun _=>aD rfl) fun x hx=>?_
 ·refine bO h0 (by omega) fun x hx _=>bO h0 (by omega) fun y hy _=>?_;rw [hx] at hy;cases hy;exact eT (bK (fun _=>aD (by rw [wrap64 (by omega)];exact ⟨rfl,by omega,by omega⟩)) fun h=>absurd rfl h)
 ·subst hx;exact aD rfl
theorem zE {e:EndI}:(R.dq e e).sat (·=true):=by
 unfold R.dq;exact aA fun _=>bK (fun _=>ae wg (aD rfl)) fun h=>absurd rfl h
theorem Ez {a:Int×Int}:(R.jj a a).sat (·=true):=by
 unfold R.jj;exact aA fun _=>bK (fun _=>aD (beq_self_eq_true _)) fun h=>absurd rfl h
theorem Eu {q:wE}:(R.eO q q).sat (·=true):=by
 unfold R.eO
 have s:∀ {b:Bool}{m n:Res Bool},b=true->m.sat (·=true)->(br b m n).sat (·=true):=fun h g=>by subst h;exact g
 exact aA fun _=>s (beq_self_eq_true _) (s (beq_self_eq_true _) (s (beq_self_eq_true _) (s (beq_self_eq_true _) (s (beq_self_eq_true _) (s (beq_self_eq_true _) (s (beq_self_eq_true _) (s (beq_self_eq_true _) (s (beq_self_eq_true _) (ae Ez (s rfl (ae wg (s rfl (aD (beq_self_eq_true _))))))))))))))
theorem two_s {m m':Res (wE×EndI)}{P:Int->Prop}(h:Sy Eq (fun r=>P r.2.1) m m'){a b:wE×EndI}(ha:m.strip=some a) (hb:m'.strip=some b):P a.2.1\/b=a:=(h a ha).imp id fun ⟨_,h1,h2⟩=>by rw [hb] at h1;cases h1;exact h2.symm
theorem DL {r:wE×EndI}:(bind (R.ej r.1) fun r17=>given (ej.g.o r17) (bind (R.ej r.1) fun r18=>given (ej.g.o r18) (bind (R.eO r17 r18) fun r19=>br r19 (bind (R.dJ r.2) fun r20=>given (dJ.g.o r20) (bind (R.dJ r.2) fun r21=>given (dJ.g.o r21) (bind (R.dq r20 r21) fun r22=>ok r22))) (ok false)))).sat (·=true):=by
 unfold R.ej R.dJ;exact ep (aA fun _=>aD (aA fun _=>ep (aA fun _=>aD (aA fun _=>ae Eu (jg rfl (ep (aA fun _=>aD (aA fun _=>ep (aA fun _=>aD (aA fun _=>ae zE (aD rfl)))))))))))
end Go.Mach

set_option maxRecDepth 100000
namespace Go.Mach
open Res
theorem xQ {t:NdT}{lim:w8}{A A':List DT}(h:A <+: A') (hl:A.length<=2^40) (hg:yK lim=true):Sy Eq (fun r=>r.2.1=(0:Int)) (R.eU t lim A) (R.eU t lim A') :=
 next_s (W:=⟨lim,lim,A,A',kv (pK lim.1 0) 4096,kv (pK lim.1 0) 4096,(·=0),.inl ⟨rfl,h⟩,.inr rfl,.inr rfl,.inr rfl,hl⟩) rfl rfl hg hg
theorem u9 (t:List gN) (lim:w8) (l:List DT) (n:Int):mB (R.dQ t lim l n) (·=true):=by
 constructor;unfold R.dQ;have firstF:=FE;generalize hF:R.eY=F at firstF ⊢;have first_t:=firstF _ rfl;refine aA fun _=>ae first_t (iY rfl (aB (R:=fun b=>b=false->(t.length<=20000/\ru t)/\l.length<=100/\LE.le (α:=Int) (lim.2.2) (3000)/\0<=n/\n<=l.length/\yK lim=true) (aB few_ok fun b1 h1=>eT (aH (fun e1=>aB HY fun b2 h2=>eT (aH (fun e2=>aB Fm fun b3 h3=>eT (aH (fun e3=>fY (fun _=>aD fun e=>by cases e) fun h4=>fY (fun _=>aD fun e=>by cases e) fun h5=>ae vx (aD fun e=>⟨h1 e1,h2 e2,(h3 e3).1,h4,h5,by simpa using e⟩)) fun _=>aD fun e=>by cases e)) fun _=>aD fun e=>by cases e)) fun _=>aD fun e=>by cases e)) fun b hb=>aH (fun _=>ae first_t (aD rfl)) fun e=>?_));obtain ⟨⟨ht,hf⟩,hl,h3,n0,n1,hg⟩:=hb e;refine bH (by rw [Bool.and_eq_true,lF,lF];exact ⟨n0,n1⟩) ?_;have hk:(List.take n.toNat l).length<=2^40:=Nat.le_trans (List.length_take_le' ..) (by omega);rcases HF (zY hf) with ⟨q,hq,_⟩|hno
 ·refine aB (p8 (vK hf h3 hk hq) fun a h=>h) fun r8 ⟨_,s8⟩=>aA fun _=>aB (p8 (vK hf h3 (by omega) hq) fun a h=>h) fun r9 ⟨_,s9⟩=>aA fun _=>?_;have hr:=two_s (P:=(·=0)) (xQ (List.take_prefix ..) hk hg) s8 s9;refine aB (R:=fun b=>b=false) (cE (fun h=>?_) fun _=>aD rfl) fun b hb=>iY hb ?_
  ·rw [hr.resolve_left h];unfold R.dJ;exact ep (aA fun _=>aD (aA fun _=>ep (aA fun _=>aD (aA fun _=>ae zE (aD rfl)))))
  ·refine aB (p8 (vK hf h3 (by omega) hq) fun a h=>h) fun r14 ⟨_,s14⟩=>aA fun _=>bH (decide_eq_true (by simp;omega)) (bH (decide_eq_true (by simp;omega)) (aB (p8 (vK hf h3 (by simp;omega) hq) fun a h=>h) fun r15 ⟨_,s15⟩=>aA fun _=>ae first_t (jg rfl (bK (fun _=>aD rfl) fun h=>?_))));have hr:=two_s (P:=(·=0)) (xQ (t:=t) (lim:=lim) (A:=l) (A':=([]++l)++[(1,(0,(0,(0,[]))))]) (by simp) (by omega) hg) s14 s15;rw [hr.resolve_left h];exact DL
 ·refine ep ?_;unfold R.eU;exact aA fun _=>ep (hno _)
end Go.Mach

namespace Go.Mach
theorem BL {P:Program}{c:OpenClaim}(h:P.funcs.any Func.goes=false) (hs:c.start=.entering):false=c.goesBy P:=by
 have h1:∀ g:Nat,(P.funcs[g]?).any Func.goes=false:=fun g=>by
  cases hg:P.funcs[g]? with
  |none=>rfl
  |some fn=>simpa using (Array.any_eq_false'.1 h) fn (Array.mem_of_getElem? hg)
 have h2:∀ f,P.goes f=false:=fun f=>by
  unfold Program.goes;rw [h,Bool.and_false,Bool.or_false,List.any_eq_false]
  exact fun g _=>by rw [h1 g];decide
 have h3:P.goesFrom c.func=false:=by
  unfold Program.goesFrom
  cases P.funcNamed c.func with
  |none=>rfl
  |some f=>exact h2 f
 unfold OpenClaim.goesBy Program.goesAt;rw [h3,hs];rfl
end Go.Mach

