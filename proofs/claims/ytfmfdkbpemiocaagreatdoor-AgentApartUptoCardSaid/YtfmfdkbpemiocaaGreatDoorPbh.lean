/-
  Proved here: the law renlaw13.AgentApart returns true for every input of the stated bulk and leaves its arguments as they were; no further condition.
  By an AI agent; no person has read it.
-/
import Derived.Test.YtfmfdkbpemiocaaGreatDoorPbb
set_option linter.all false
set_option linter.deprecated false
set_option maxRecDepth 100000
namespace Go.Mach
open Res
theorem EB{a:AgT}(ha:a.2.2.1.length<=2^38):(R.dH a).sat (·=a.2.2.1):=by
 unfold R.dH;refine aA λ_=>mQ (aA λ_=>aB (fP (Q:=(·=a.2.2.1)) (λx=>x.1) a.2.2.1.length (by omega) (λx=>x.2=a.2.2.1) (Int.le_refl 0) (by show (0:Int)<=_;omega) rfl λx h0 hn hI=>?_) λr hr=>aD hr);obtain ⟨i,l⟩:=x;have h0:0<=i:=h0;have hI:l=a.2.2.1:=hI;rw [<- hI];refine dt (λhi=>?_) λ_=>aD rfl;have hi:i < (l.length:Int):=hi
 have n0:(ile 0 i && ilt i (l.length:Int))=true:=by rw [Bool.and_eq_true,mR,gI];exact ⟨h0,hi⟩
 refine ax n0 (bP (Int.natCast_nonneg _) (by show ((0+Int.toNat i:Nat):Int).toNat < l.length;omega) λe3 h3 _=>mQ (aA λ_=>ax n0 (bP (Int.natCast_nonneg _) (by show ((0+Int.toNat i:Nat):Int).toNat < l.length;omega) λe7 h7 _=>?_)));have h3:l[0+i.toNat]?=some e3:=h3;have h7:l[0+i.toNat]?=some e7:=h7;rw [h3] at h7;cases h7
 have s1:List.set l (0+i.toNat) e3=l:=by
  obtain ⟨hl,rfl⟩:=List.getElem?_eq_some_iff.1 h3;exact List.set_getElem_self hl
 have s2:List.set l (0+i.toNat) (e3.1,(e3.2.1,(e3.2.2.1,(e3.2.2.2.1,e3.2.2.2.2))))=l:=s1;rw [s2];exact aD ⟨rfl,hi,rfl⟩
theorem copy_l{a:AgT}(ha:a.2.2.1.length<=2^38):(R.cq a).sat (·=fl a):=by
 unfold R.cq;refine aA λ_=>aB (EB ha) λr1 h1=>aA λ_=>aB (vG a) λr2 h2=>aA λ_=>aD ?_;subst h1 h2;rfl
theorem FQ{t:List eH}{lim:uc}{g:List qO}{a:AgT}(ha:te t lim g a)(hg:g.length<=2^38){x:qO}(h:(R.dN t lim (g++[x])).sat tg):(R.aZ a x).sat λr=>∃ g',te t lim g' r.2/\g'.length<=g.length+1:=by
 refine bG (BX ha hg h) λr ⟨g1,g2⟩=>?_;by_cases e:Eq (α:=Int) a.2.2.2.2.1 0
 ·exact ⟨g++[x],(g2 e).2,by simp⟩
 ·rw [g1 e];exact ⟨g,ha,by omega⟩
theorem wO(t:List eH)(lim:uc)(l:List qO)(n:Int):lb (R.cn t lim l n) (·=true):=by
 constructor;unfold R.cn;have firstF:=wH;generalize hF:R.bB=F at firstF ⊢;have first_t:=firstF _ rfl
 have no:∀ {p:Prop},(true:Bool)=false->p:=λe=>by cases e
 refine aA λ_=>aO first_t (fb rfl (aB (R:=λb=>b=false->((t.length<=20000/\rK t)/\l.length<=100/\LE.le (α:=Int) lim.2.2 1000)/\0<=n/\n<=(l.length:Int)) (aB vo λb1 h1=>dK (aG (λe1=>dt (λ_=>aD no) λh2=>aD λh3=>⟨h1 e1,h2,by rw [lu] at h3;exact h3⟩) λ_=>aD no)) λb hb=>aG (λ_=>aO first_t (aD rfl)) λe=>?_));obtain ⟨⟨⟨ht,hf⟩,hl,h3⟩,n0,n1⟩:=hb e;refine nZ (uL hf) λq hgo hq=>aA λ_=>bZ (λ_=>mQ (fS rfl (aO first_t (fS rfl (aD rfl))))) λh0=>aO qf (dK (aG (λem=>?_) λ_=>mQ (fS rfl (aO first_t (fS rfl (aD rfl))))));obtain ⟨hg,ho⟩:=hgo h0;obtain ⟨m1,m2,m3,m4⟩:=of_decide_eq_true em;have hres:∀ g:List qO,g.length<=2^40->(R.dN t lim g).sat tg:=λg hl=>uw hg hf ho m1 m2 ⟨m3,Int.le_trans h3 (by decide)⟩ hl;refine aB (BQ ht) λr16 e16=>aA λ_=>?_;subst e16;refine aB (yj (hres [] (by simp))) λr17 h17=>aA λ_=>mQ (fb rfl ?_)
 let I:Int×FlT->Prop:=λs=>∃ g a,s.2=fl a/\te r16 lim g a/\(g.length:Int)<=s.1
 let O:FlT->Prop:=λf=>∃ g a,f=fl a/\te r16 lim g a/\g.length<=2^38
 refine aB (R:=λf:FlT=>∃ g a,f=fl a/\te r16 lim g a/\(g.length:Int)<=n) (fP (λs:Int×FlT=>s.1) n.toNat (by omega) I (Int.le_refl 0) (by show (0:Int)<=_;omega) ⟨[],r17.2,rfl,h17,Int.le_refl _⟩ λs i0 i1 hI=>?_) λx24 hx24=>?_
 ·obtain ⟨i,f⟩:=s;obtain ⟨g,a,hfl,ha,hgl⟩:=hI;have hfl:f=fl a:=hfl;subst hfl;have i0:0<=i:=i0;have i1:i<=(n.toNat:Int):=i1;have hgl:(g.length:Int)<=i:=hgl;refine dt (λhi=>?_) λ_=>aD ⟨g,a,rfl,ha,by omega⟩;have hi:i < n:=hi;have hw:w6 (i+1)=i+1:=wrap64 (by omega);refine bP i0 (by show i.toNat < l.length;omega) λx hx _=>aB (FQ ha (by omega) (hres _ (by simp;omega))) λr ⟨g',k1,k2⟩=>aA λ_=>aD ⟨rfl,by show i < (n.toNat:Int);omega,g',r.2,rfl,k1,?_⟩;show (g'.length:Int)<=w6 (i+1);rw [hw];omega
 obtain ⟨g,a,hfl,ha,hgl⟩:=hx24;subst hfl
 have hal:a.2.2.1.length<=2^38:=by
  obtain ⟨y,hy,_⟩:=ha;rw [hy];show g.length<=2^38;omega
 refine aB (copy_l hal) λr25 h25=>aA λ_=>?_;subst h25
 have step:∀ (s:Int×FlT),0<=s.1->s.1<=l.length->I s->(br (ilt s.1 (l.length:Int)) (idx aS l s.1 λe29=>cl (R.aZ (s.2.1,((s.2.2.1,(s.2.2.2.1,s.2.2.2.2.1)),(s.2.2.2.2.2.1,((s.2.2.2.2.2.2.1,(s.2.2.2.2.2.2.2.1,(s.2.2.2.2.2.2.2.2.1,(s.2.2.2.2.2.2.2.2.2.1,(s.2.2.2.2.2.2.2.2.2.2.1,(s.2.2.2.2.2.2.2.2.2.2.2.1,(s.2.2.2.2.2.2.2.2.2.2.2.2.1,(s.2.2.2.2.2.2.2.2.2.2.2.2.2.1,(s.2.2.2.2.2.2.2.2.2.2.2.2.2.2.1,((s.2.2.2.2.2.2.2.2.2.2.2.2.2.2.2.1,s.2.2.2.2.2.2.2.2.2.2.2.2.2.2.2.2.1),(s.2.2.2.2.2.2.2.2.2.2.2.2.2.2.2.2.2.1,s.2.2.2.2.2.2.2.2.2.2.2.2.2.2.2.2.2.2.1))))))))))),s.2.2.2.2.2.2.2.2.2.2.2.2.2.2.2.2.2.2.2)))) e29) aZ.g.o λr30=>ok (Res.Step.next (w6 (s.1+1),fl r30.2))) (ok (.done s.2))).sat (Nx (λs:Int×FlT=>s.1) l.length I O s):=λs i0 i1 hI=>by
  obtain ⟨i,f⟩:=s;obtain ⟨g,a,hfl,ha,hgl⟩:=hI;have hfl:f=fl a:=hfl;subst hfl;have i0:0<=i:=i0;have i1:i<=(l.length:Int):=i1;have hgl:(g.length:Int)<=i:=hgl;refine dt (λhi=>?_) λ_=>aD ⟨g,a,rfl,ha,by omega⟩;have hi:i < (l.length:Int):=hi;have hw:w6 (i+1)=i+1:=wrap64 (by omega);refine bP i0 (by show i.toNat < l.length;omega) λx hx _=>aB (FQ ha (by omega) (hres _ (by simp;omega))) λr ⟨g',k1,k2⟩=>aA λ_=>aD ⟨rfl,hi,g',r.2,rfl,k1,?_⟩;show (g'.length:Int)<=w6 (i+1);rw [hw];omega
 have h2:=fP (Q:=O) (a:=(n,fl a)) (λs:Int×FlT=>s.1) l.length (by omega) I n0 n1 ⟨g,a,rfl,ha,hgl⟩ step;refine aB (vG a) λr26 h26=>aA λ_=>aB (pe a) λr27 h27=>aA λ_=>nZ h2 λx31 hx31 s31=>aB (vG a) λr32 h32=>aA λ_=>?_;subst h26 h27 h32;refine aB (R:=(·=false)) ?_ λb hb=>fb hb (nZ h2 λx44 hx44 s44=>?_)
 ·unfold R.bl R.bJ;exact cz (aA λ_=>aD (aA λ_=>cz (aA λ_=>aD (aA λ_=>aO wo (fb rfl (cz (aA λ_=>aD (aA λ_=>cz (aA λ_=>aD (aA λ_=>aO uA (fb rfl (aB (pe a) λr39 h39=>aA λ_=>aD (by rw [h39];simp)))))))))))))
 ·rw [s31] at s44;cases s44;obtain ⟨g2,a2,hfl,ha2,_⟩:=hx31;subst hfl;refine aB (vG a2) λr45 h45=>aA λ_=>aB (vG a2) λr46 h46=>aA λ_=>aO first_t (fS rfl ?_);subst h45 h46;unfold R.bl R.bJ;exact cz (aA λ_=>aD (aA λ_=>cz (aA λ_=>aD (aA λ_=>aO wo (fS rfl (cz (aA λ_=>aD (aA λ_=>cz (aA λ_=>aD (aA λ_=>aO uA (fS rfl (aB (pe a2) λr54 h54=>aA λ_=>aB (pe a2) λr55 h55=>aA λ_=>aD (by rw [h54,h55];simp)))))))))))))
end Go.Mach

