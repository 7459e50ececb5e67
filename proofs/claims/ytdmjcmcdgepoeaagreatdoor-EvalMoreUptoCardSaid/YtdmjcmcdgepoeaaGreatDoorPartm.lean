/-
  Proved here: the law renlaw12.EvalMore returns true for every input of the stated bulk and leaves its arguments as they were; no further condition.
  By an AI agent; no person has read it.
-/
import Derived.Test.YtdmjcmcdgepoeaaGreatDoorPartl
import Derived.KernelRfl
import GoSem.ClaimGoes
set_option linter.all false
set_option linter.deprecated false
set_option maxRecDepth 1000000
namespace Go.Mach
theorem Db:R.eS.strip=some true:=by kernel_rfl
end Go.Mach

set_option maxRecDepth 100000
namespace Go.Mach
open Res
theorem E0:∀ F:Res Bool,F=R.eS->F.sat (·=true):=by
 intro F h;have h2:=Db;rw [<- h] at h2;exact ox h2 rfl
theorem G9 {l:List DY}:(R.iL l).sat fun r=>r=true->l.length<=100:=by
 unfold R.iL
 refine aA fun _=>aB (iC (Q:=fun _:Int=>True) (fun y=>y.2) 100 (by decide) (fun _=>True) (by decide) (by decide) trivial fun y y0 y1 _=>?_) fun r _=>lg (fun h=>aD fun _=>by have h:(l.length:Int)<=100:=h;omega) fun _=>aD fun e=>by cases e
 obtain ⟨a,j⟩:=y;have y0:0<=j:=y0;refine aB (R:=fun b=>b=true->j < (l.length:Int)/\j < 100) (fZ (fun h=>aD fun e=>⟨h,of_decide_eq_true e⟩) fun _=>aD fun e=>by cases e) fun b hb=>aH (fun e=>?_) fun _=>aD trivial;obtain ⟨h1,h2⟩:=hb e;exact bN y0 (by omega) fun _ _ _=>aD ⟨rfl,h2,trivial⟩
theorem zu {lim:xB}:(R.fX lim).sat fun r=>r=true->LE.le (α:=Int) (lim.2.2) (3000)/\LE.le (α:=Int) (lim.2.1) (200)/\LE.le (α:=Int) (lim.1) (1000):=by
 unfold R.fX
 exact aA fun _=>lg (fun h1=>lg (fun h2=>aD fun e=>⟨h1,h2,of_decide_eq_true e⟩) fun _=>aD fun e=>by cases e) fun _=>aD fun e=>by cases e
theorem DM {a b:List Int}(h:fK.g.i (a,b)=true):a.length<=2^47:=by
 have h1:(fk .h a.length && fk .h b.length)=true:=by first|exact h|simpa [oks] using h
 have h2:=of_decide_eq_true (Bool.and_eq_true_iff.1 h1).1;have:Sh.h.jq=2:=rfl;rw [this] at h2;omega
theorem vN {a:List Int}:(R.fK a a).sat (·=true):=by
 unfold R.fK;refine aA fun hg=>?_;have hl:=DM hg;refine eD (bL (fun _=>?_) fun h=>absurd rfl h);refine aB (R:=fun x=>x=.inl ()) (tN (fun i=>i) a.length (by omega) (fun i=>0<=i/\i<=(a.length:Int)) ⟨Int.le_refl 0,by omega⟩ (fun i h=>h) fun i ⟨h0,h1⟩=>fZ (fun h=>?_) fun _=>aD rfl) fun x hx=>?_
 ·refine bN h0 (by omega) fun x hx _=>bN h0 (by omega) fun y hy _=>?_;rw [hx] at hy;cases hy;exact eD (bL (fun _=>aD (by rw [wrap64 (by omega)];exact ⟨rfl,by omega,by omega⟩)) fun h=>absurd rfl h)
 ·subst hx;exact aD rfl
theorem F9 {e:EndI}:(R.eN e e).sat (·=true):=by
 unfold R.eN;exact aA fun _=>bL (fun _=>ae vN (aD rfl)) fun h=>absurd rfl h
theorem E3 {a:Int×Int}:(R.ji a a).sat (·=true):=by
 unfold R.ji;exact aA fun _=>bL (fun _=>aD (beq_self_eq_true _)) fun h=>absurd rfl h
theorem Ew {q:wc}:(R.eL q q).sat (·=true):=by
 unfold R.eL
 have s:∀ {b:Bool}{m n:Res Bool},b=true->m.sat (·=true)->(br b m n).sat (·=true):=fun h g=>by subst h;exact g
 exact aA fun _=>s (beq_self_eq_true _) (s (beq_self_eq_true _) (s (beq_self_eq_true _) (s (beq_self_eq_true _) (s (beq_self_eq_true _) (s (beq_self_eq_true _) (s (beq_self_eq_true _) (s (beq_self_eq_true _) (s (beq_self_eq_true _) (ae E3 (s rfl (ae vN (s rfl (aD (beq_self_eq_true _))))))))))))))
theorem two_s {m m':Res (wc×EndI)}{P:Int->Prop}(h:Sy Eq (fun r=>P r.2.1) m m'){a b:wc×EndI}(ha:m.strip=some a) (hb:m'.strip=some b):P a.2.1\/b=a:=(h a ha).imp id fun ⟨_,h1,h2⟩=>by rw [hb] at h1;cases h1;exact h2.symm
theorem Ds {r:wc×EndI}:(bind (R.eo r.1) fun r17=>given (eo.g.o r17) (bind (R.eo r.1) fun r18=>given (eo.g.o r18) (bind (R.eL r17 r18) fun r19=>br r19 (bind (R.ef r.2) fun r20=>given (ef.g.o r20) (bind (R.ef r.2) fun r21=>given (ef.g.o r21) (bind (R.eN r20 r21) fun r22=>ok r22))) (ok false)))).sat (·=true):=by
 unfold R.eo R.ef;exact fP (aA fun _=>aD (aA fun _=>fP (aA fun _=>aD (aA fun _=>ae Ew (jh rfl (fP (aA fun _=>aD (aA fun _=>fP (aA fun _=>aD (aA fun _=>ae F9 (aD rfl)))))))))))
end Go.Mach

set_option maxRecDepth 100000
namespace Go.Mach
open Res
theorem more_s {t:NdT}{lim more:xB}{A:List DY}(hl:A.length<=2^40) (h1:LE.le (α:=Int) lim.1 more.1) (h2:LE.le (α:=Int) lim.2.1 more.2.1) (h3:LE.le (α:=Int) lim.2.2 more.2.2) (hg:vM lim=true) (hg':vM more=true):Sy Eq (fun r=>(4:Int)<=r.2.1) (R.fh t lim A) (R.fh t more A) :=
 next_s (W:=⟨lim,more,A,A,kv (pH lim.1 0) 4096,kv (pH more.1 0) 4096,((4:Int)<=·),.inr rfl,.inl ⟨by decide,by rw [gf,gf,jv,jv];omega⟩,.inl ⟨by decide,h2⟩,.inl ⟨by decide,h3⟩,hl⟩) rfl rfl hg hg'
theorem yq (t:List gN) (lim more:xB) (l:List DY):mD (R.ec t lim more l) (·=true):=by
 constructor;unfold R.ec;have firstF:=E0;generalize hF:R.eS=F at firstF ⊢;have first_t:=firstF _ rfl
 have no:∀ {p:Prop},(true:Bool)=false->p:=fun e=>by cases e
 refine aA fun _=>ae first_t (ik rfl (aB (R:=fun b=>b=false->(t.length<=20000/\rF t)/\l.length<=100/\(LE.le (α:=Int) (lim.2.2) (3000)/\LE.le (α:=Int) (more.2.2) (3000))/\(vM lim=true/\vM more=true)/\LE.le (α:=Int) (lim.1) (more.1)/\LE.le (α:=Int) (lim.2.1) (more.2.1)/\LE.le (α:=Int) (lim.2.2) (more.2.2)) (aB few_ok fun b1 h1=>eD (aH (fun e1=>aB G9 fun b2 h2=>eD (aH (fun e2=>aB zu fun b3 h3=>eD (aH (fun e3=>aB zu fun b4 h4=>eD (aH (fun e4=>ae sj (eD (aH (fun e5=>ae sj (eD (aH (fun e6=>fZ (fun _=>aD no) fun h7=>fZ (fun _=>aD no) fun h8=>aD fun h9=>⟨h1 e1,h2 e2,⟨(h3 e3).1,(h4 e4).1⟩,⟨e5,e6⟩,by rw [ly] at h9;exact h9,h8,h7⟩) fun _=>aD no))) fun _=>aD no))) fun _=>aD no)) fun _=>aD no)) fun _=>aD no)) fun _=>aD no)) fun b hb=>aH (fun _=>ae first_t (aD rfl)) fun e=>?_));obtain ⟨⟨ht,hf⟩,hl,⟨h3,h3'⟩,⟨hg,hg'⟩,m1,m2,m3⟩:=hb e;rcases IF (AH hf) with ⟨q,hq,_⟩|hno
 ·refine aB (uA (CX hf h3 (by omega) hq) fun a h=>h) fun r8 ⟨_,s8⟩=>aA fun _=>aB (uA (CX hf h3' (by omega) hq) fun a h=>h) fun r9 ⟨_,s9⟩=>aA fun _=>ae first_t (jh rfl (lg (fun _=>aD rfl) fun h=>?_));have hr:=two_s (P:=((4:Int)<=·)) (more_s (by omega) m1 m2 m3 hg hg') s8 s9;rw [hr.resolve_left (Int.not_le.2 h)];exact Ds
 ·refine fP ?_;unfold R.fh;exact aA fun _=>fP (hno _)
end Go.Mach

namespace Go.Mach
theorem Bf {P:Program}{c:OpenClaim}(h:P.funcs.any Func.goes=false) (hs:c.start=.entering):false=c.goesBy P:=by
 have h1:∀ g:Nat,(P.funcs[g]?).any Func.goes=false:=fun g=>by
  cases hg:P.funcs[g]? with
  |none=>rfl
  |some fn=>simpa using (Array.any_eq_false'.1 h) fn (Array.mem_of_getElem? hg)
 have h2:∀ f,P.goes f=false:=fun f=>by
  unfold Program.goes;rw [h,Bool.and_false,Bool.or_false,List.any_eq_false]
  exact fun g _=>by rw [h1 g];decide
 have h3:P.goesFrom c.func=false:=by
  unfold Program.goesFrom
  cases P.funcNamed c.func with
  |none=>rfl
  |some f=>exact h2 f
 unfold OpenClaim.goesBy Program.goesAt;rw [h3,hs];rfl
end Go.Mach

