/-
  Proved here: the law renlaw13.AgentIs returns true for every input of the stated bulk and leaves its arguments as they were; no further condition.
  By an AI agent; no person has read it.
-/
import Derived.Test.YtfmfdkbpemiocaaGreatDoorPbb
set_option linter.all false
set_option linter.deprecated false
set_option maxRecDepth 100000
namespace Go.Mach
open Res
theorem AJ(t:List eH)(lim:uc)(l:List qO):lb (R.dc t lim l) (·=true):=by
 constructor;unfold R.dc;have firstF:=wH;generalize hF:R.bB=F at firstF ⊢;have first_t:=firstF _ rfl;refine aA λ_=>aO first_t (fb rfl (aB vo λb1 h1=>dK (aG (λe1=>?_) λ_=>aO first_t (aD rfl))));obtain ⟨⟨ht,hf⟩,hl,h3⟩:=h1 e1;refine nZ (uL hf) λq hgo hq=>aA λ_=>bZ (λ_=>mQ (fS rfl (aO first_t (fS rfl (aD rfl))))) λh0=>aO qf (dK (aG (λem=>?_) λ_=>mQ (fS rfl (aO first_t (fS rfl (aD rfl))))));obtain ⟨hg,ho⟩:=hgo h0;obtain ⟨m1,m2,m3,m4⟩:=of_decide_eq_true em;have hres:∀ g:List qO,g.length<=2^40->(R.dN t lim g).sat tg:=λg hl=>uw hg hf ho m1 m2 ⟨m3,Int.le_trans h3 (by decide)⟩ hl;refine aB (BQ ht) λr16 e16=>aA λ_=>?_;subst e16;refine aB (yj (hres [] (by simp))) λr17 h17=>aA λ_=>mQ (fb rfl ?_);refine aB (R:=λx:List qO×FlT=>∃ a,x.2=fl a/\te r16 lim x.1 a/\x.1.length<=2^38) (fP (λs:List qO×(Int×FlT)=>s.2.1) l.length (by omega) (λs=>∃ a,s.2.2=fl a/\te r16 lim s.1 a/\(s.1.length:Int)<=s.2.1) (Int.le_refl 0) (by show (0:Int)<=_;omega) ⟨r17.2,rfl,h17,Int.le_refl _⟩ λs i0 i1 hI=>?_) λx hx=>?_
 ·obtain ⟨g,i,f⟩:=s;obtain ⟨a,hfl,ha,hgl⟩:=hI;have hfl:f=fl a:=hfl;subst hfl;have i0:0<=i:=i0;have hgl:(g.length:Int)<=i:=hgl;have ha:te r16 lim g a:=ha;have i1:i<=(l.length:Int):=i1;refine dt (λhi=>?_) λ_=>aD ⟨a,rfl,ha,by show g.length<=2^38;omega⟩;have hi:i < (l.length:Int):=hi;have hw:w6 (i+1)=i+1:=wrap64 (by omega);refine bP i0 (by show i.toNat < l.length;omega) λx hx _=>aB (BX ha (by omega) (hres _ (by simp;omega))) λr22 ⟨g1,g2⟩=>aA λ_=>bH (λk=>?_) λk=>?_
  ·have e:Eq (α:=Int) a.2.2.2.2.1 0:=Classical.byContradiction λe=>by rw [g1 e] at k;exact absurd (show (10:Int)=0 from k) (by decide)
   refine bP i0 (by show i.toNat < l.length;omega) λz hz _=>?_;have hx:l[i.toNat]?=some x:=hx;have hz:l[i.toNat]?=some z:=hz;rw [hx] at hz;cases hz;refine ax (decide_eq_true (by show (g.length+1)*56<=2^47;omega)) (aD ⟨rfl,hi,r22.2,rfl,(g2 e).2,?_⟩);show ((g++[x]).length:Int)<=w6 (i+1);rw [hw];simp;omega
  ·have e:Ne (α:=Int) a.2.2.2.2.1 0:=λe=>k (g2 e).1;have e':=g1 e;subst e';refine aD ⟨rfl,hi,a,rfl,ha,?_⟩;show (g.length:Int)<=w6 (i+1);rw [hw];omega
 ·obtain ⟨g,f⟩:=x;obtain ⟨a,hfl,ha,hgl⟩:=hx;have hfl:f=fl a:=hfl;subst hfl;have ha:te r16 lim g a:=ha;have hgl:g.length<=2^38:=hgl;obtain ⟨y,hy,hs,_⟩:=ha;refine aB (vG a) λr25 h25=>aA λ_=>aB (next_l hf hq h0 em (hres g (by omega))) λr26 h26=>aA λ_=>aO first_t (fS rfl (aB (pe a) λr28 h28=>aA λ_=>bH (λ_=>?_) λh=>absurd ?_ h))
  ·rw [hs] at h26;cases h26;subst h25 hy;exact Db
  ·rw [h28,hy]
end Go.Mach

