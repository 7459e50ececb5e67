/-
  Shared texts of the proofs of the laws renlaw13.AgentRefuses, renlaw13.AgentIs and renlaw13.AgentApart: each returns true for every input of the stated bulk and leaves its arguments as they were; no further condition.
  By an AI agent; no person has read it.
-/
import Derived.Test.YtfmfdkbpemiocaaGreatDoorPaz
import Derived.Test.YtfmfdkbpemiocaaGreatDoorPba
set_option linter.all false
set_option linter.deprecated false
set_option maxRecDepth 100000
namespace Go.Mach
open Res
theorem wH:∀ F:Res Bool,F=R.bB->F.sat (·=true):=by
 intro F h;have h2:=D7;rw [<- h] at h2;exact pD h2 rfl
theorem G9{l:List qO}:(R.iS l).sat λr=>r=true->l.length<=100:=by
 unfold R.iS
 refine aA λ_=>aB (fP (Q:=λ_:Int=>True) (λy=>y.2) 100 (by decide) (λ_=>True) (by decide) (by decide) trivial λy y0 y1 _=>?_) λr _=>lW (λh=>aD λ_=>by have h:(l.length:Int)<=100:=h;omega) λ_=>aD λe=>by cases e
 obtain ⟨a,j⟩:=y;have y0:0<=j:=y0;refine aB (R:=λb=>b=true->j < (l.length:Int)/\j < 100) (dt (λh=>aD λe=>⟨h,of_decide_eq_true e⟩) λ_=>aD λe=>by cases e) λb hb=>aG (λe=>?_) λ_=>aD trivial;obtain ⟨h1,h2⟩:=hb e;exact bM y0 (by omega) λ_ _ _=>aD ⟨rfl,h2,trivial⟩
theorem Er{lim:uc}:(R.gH lim).sat λr=>r=true->LE.le (α:=Int) (lim.2.2) (3000)/\LE.le (α:=Int) (lim.2.1) (200)/\LE.le (α:=Int) (lim.1) (1000):=by
 unfold R.gH
 exact aA λ_=>lW (λh1=>lW (λh2=>aD λe=>⟨h1,h2,of_decide_eq_true e⟩) λ_=>aD λe=>by cases e) λ_=>aD λe=>by cases e
theorem Df{a b:List Int}(h:gZ.g.i (a,b)=true):a.length<=2^47:=by
 have h1:(eP .h a.length && eP .h b.length)=true:=by first|exact h|simpa [oks] using h
 have h2:=of_decide_eq_true (Bool.and_eq_true_iff.1 h1).1;have:Sh.h.jH=2:=rfl;rw [this] at h2;omega
theorem xA{a:List Int}:(R.gZ a a).sat (·=true):=by
 unfold R.gZ;refine aA λhg=>?_;have hl:=Df hg;refine dK (bH (λ_=>?_) λh=>absurd rfl h);refine aB (R:=λx=>x=.inl ()) (tf (λi=>i) a.length (by omega) (λi=>0<=i/\i<=(a.length:Int)) ⟨Int.le_refl 0,by omega⟩ (λi h=>h) λi ⟨h0,h1⟩=>dt (λh=>?_) λ_=>aD rfl) λx hx=>?_
 ·refine bM h0 (by omega) λx hx _=>bM h0 (by omega) λy hy _=>?_;rw [hx] at hy;cases hy;exact dK (bH (λ_=>aD (by rw [wrap64 (by omega)];exact ⟨rfl,by omega,by omega⟩)) λh=>absurd rfl h)
 ·subst hx;exact aD rfl
theorem uA{e:EndI}:(R.bt e e).sat (·=true):=by
 unfold R.bt;exact aA λ_=>bH (λ_=>aO xA (aD rfl)) λh=>absurd rfl h
theorem En{a:Int×Int}:(R.kN a a).sat (·=true):=by
 unfold R.kN;exact aA λ_=>bH (λ_=>aD (beq_self_eq_true _)) λh=>absurd rfl h
theorem wo{q:vm}:(R.cI q q).sat (·=true):=by
 unfold R.cI
 have s:∀ {b:Bool}{m n:Res Bool},b=true->m.sat (·=true)->(br b m n).sat (·=true):=λh g=>by subst h;exact g
 exact aA λ_=>s (beq_self_eq_true _) (s (beq_self_eq_true _) (s (beq_self_eq_true _) (s (beq_self_eq_true _) (s (beq_self_eq_true _) (s (beq_self_eq_true _) (s (beq_self_eq_true _) (s (beq_self_eq_true _) (s (beq_self_eq_true _) (aO En (s rfl (aO xA (s rfl (aD (beq_self_eq_true _))))))))))))))
theorem Db{r:vm×EndI}:(bind (R.bl r.1) λr17=>given (bl.g.o r17) (bind (R.bl r.1) λr18=>given (bl.g.o r18) (bind (R.cI r17 r18) λr19=>br r19 (bind (R.bJ r.2) λr20=>given (bJ.g.o r20) (bind (R.bJ r.2) λr21=>given (bJ.g.o r21) (bind (R.bt r20 r21) λr22=>ok r22))) (ok false)))).sat (·=true):=by
 unfold R.bl R.bJ;exact cz (aA λ_=>aD (aA λ_=>cz (aA λ_=>aD (aA λ_=>aO wo (fS rfl (cz (aA λ_=>aD (aA λ_=>cz (aA λ_=>aD (aA λ_=>aO uA (aD rfl)))))))))))
end Go.Mach

set_option maxRecDepth 100000
namespace Go.Mach
open Res
abbrev AgT:=kA.den
theorem nZ{α β:Type}{m:Res α}{k:α->Res β}{P:α->Prop}{Q:β->Prop}(h:m.sat P)(hk:∀ a,P a->m.strip=some a->(k a).sat Q):(m.bind k).sat Q:=aB (yX h λ_ e=>e) λa h=>hk a h.1 h.2
theorem vG(a:AgT):(R.ak a).sat (·=a.2.2.2):=by
 unfold R.ak;exact aA λ_=>mQ (aA λ_=>mQ (aA λ_=>aD rfl))
theorem pe(a:AgT):(R.aT a).sat (·=(a.2.2.1.length:Int)):=by
 unfold R.aT;exact aA λ_=>aD rfl
theorem BQ{t:List eH}(ht:t.length<=20000):(R.cb t).sat (·=t):=by
 unfold R.cb;refine aA λ_=>aB (R:=(·=t)) (ax (decide_eq_true (by omega)) (aD rfl)) λr1 h1=>?_;subst h1;refine aA λ_=>aB (fP (Q:=(·=r1)) (λx=>x.1) r1.length (by omega) (λx=>x.2=r1) (Int.le_refl 0) (by show (0:Int)<=_;omega) rfl λx h0 hn hI=>?_) λr hr=>aD hr;obtain ⟨i,l⟩:=x;have h0:0<=i:=h0;have hI:l=r1:=hI;subst hI;refine dt (λhi=>?_) λ_=>aD rfl;have hi:i < (l.length:Int):=hi
 have n0:∀ {k:List eH},k.length=l.length->(ile 0 i && ilt i (k.length:Int))=true:=λh=>by rw [Bool.and_eq_true,mR,gI,h];exact ⟨h0,hi⟩
 have z:(0+Int.toNat i)=i.toNat:=by omega
 refine ax (n0 rfl) (bP (Int.natCast_nonneg _) (by show ((0+Int.toNat i:Nat):Int).toNat < l.length;omega) λe3 h3 _=>mQ (aA λ_=>mQ (aA λ_=>mQ (aA λ_=>ax (n0 rfl) (bP (Int.natCast_nonneg _) (by show ((0+Int.toNat i:Nat):Int).toNat < l.length;omega) λe7 h7 _=>?_)))));have h3:l[0+i.toNat]?=some e3:=h3;have h7:l[0+i.toNat]?=some e7:=h7;rw [h3] at h7;cases h7
 have s1:List.set l (0+i.toNat) e3=l:=by
  rw [z] at h3 ⊢;obtain ⟨hl,rfl⟩:=List.getElem?_eq_some_iff.1 h3;exact List.set_getElem_self hl
 have s2:List.set l (0+i.toNat) (e3.1,(e3.2.1,(e3.2.2.1,e3.2.2.2)))=l:=s1;rw [s2];refine ax (n0 rfl) (bP (Int.natCast_nonneg _) (by show ((0+Int.toNat i:Nat):Int).toNat < l.length;omega) λe8 h8 _=>?_);have h8:l[0+i.toNat]?=some e8:=h8;rw [h3] at h8;cases h8;have s3:List.set l (0+i.toNat) (e3.1,(e3.2.1,(e3.2.2.1,(e3.2.2.2.1,((e3.2.2.2.2.1.1,e3.2.2.2.2.1.2),e3.2.2.2.2.2)))))=l:=s1;rw [s3];refine ax (n0 rfl) (bP (Int.natCast_nonneg _) (by show ((0+Int.toNat i:Nat):Int).toNat < l.length;omega) λe9 h9 _=>?_);have h9:l[0+i.toNat]?=some e9:=h9;rw [h3] at h9;cases h9;have s4:List.set l (0+i.toNat) (e3.1,(e3.2.1,(e3.2.2.1,(e3.2.2.2.1,(e3.2.2.2.2.1,e3.2.2.2.2.2)))))=l:=s1;rw [s4];exact aD ⟨rfl,hi,rfl⟩
def te(t:List eH)(lim:uc)(g:List qO)(a:AgT):Prop:=∃ y:vm×EndI,a=(t,(lim,(g,y)))/\(R.dN t lim g).strip=some y/\tg y
theorem yj{t:List eH}{lim:uc}{g:List qO}{z:vm×EndI}(h:(R.dN t lim g).sat tg):(R.bA (t,(lim,(g,z)))).sat λr=>te t lim g r.2:=by
 unfold R.bA;exact aA λ_=>nZ h λy h1 h2=>aA λ_=>aD ⟨y,rfl,h2,h1⟩
theorem BX{t:List eH}{lim:uc}{g:List qO}{a:AgT}(ha:te t lim g a)(hg:g.length<=2^38){x:qO}(h:(R.dN t lim (g++[x])).sat tg):(R.aZ a x).sat λr=>(Ne (α:=Int) a.2.2.2.2.1 0->r=(10,a))/\(Eq (α:=Int) a.2.2.2.2.1 0->r.1=0/\te t lim (g++[x]) r.2):=by
 obtain ⟨y,rfl,h1,h2⟩:=ha;unfold R.aZ;refine aA λ_=>bZ (λe=>aD ⟨λ_=>rfl,λe'=>absurd e' e⟩) λe=>mQ (aA λ_=>ax (decide_eq_true (by show (g.length+1)*56<=2^47;omega)) (aB (yj (z:=y) h) λr hr=>aA λ_=>aD ⟨λe'=>absurd e e',λ_=>⟨rfl,hr⟩⟩))
theorem vo{t:List eH}{lim:uc}{l:List qO}:(R.dd t lim l).sat λr=>r=true->(t.length<=20000/\rK t)/\l.length<=100/\LE.le (α:=Int) lim.2.2 1000:=by
 unfold R.dd
 exact aA λ_=>aB few_ok λb1 h1=>aG (λe1=>aB G9 λb2 h2=>aG (λe2=>lW (λ_=>aB Er λb3 h3=>aG (λe3=>aD λe=>⟨h1 e1,h2 e2,of_decide_eq_true e⟩) λ_=>aD λe=>by cases e) λ_=>aD λe=>by cases e) λ_=>aD λe=>by cases e) λ_=>aD λe=>by cases e
theorem next_l{t:List eH}{lim:uc}{g:List qO}{q:Int×Int}(hf:rK t)(hq:(R.bj t).strip=some q)(h0:q.2=0)(hm:mayL lim=true)(h:(R.dN t lim g).sat tg):(R.iz t lim g).sat λr=>(R.dN t lim g).strip=some r:=by
 unfold R.iz;refine aA λ_=>nZ (uL hf) λx _ hx=>aA λ_=>?_;rw [hq] at hx;cases hx;exact aB (R:=(·=false)) (bZ (λh=>absurd h0 h) λ_=>aO qf (aD (by rw [hm];rfl))) λb hb=>fb hb (nZ h λr _ hr=>aA λ_=>aD hr)
end Go.Mach

set_option maxRecDepth 100000
namespace Go.Mach
open Res
abbrev FlT:=List eH×(Int×(Int×(Int×(List qO×(Int×(Int×(Int×(Int×(Int×(Bool×(Bool×(Int×(Int×(Int×(Int×(List Int×(Int×cE.den)))))))))))))))))
abbrev fl(a:AgT):FlT:=(a.1,(a.2.1.1,(a.2.1.2.1,(a.2.1.2.2,(a.2.2.1,(a.2.2.2.1.1,(a.2.2.2.1.2.1,(a.2.2.2.1.2.2.1,(a.2.2.2.1.2.2.2.1,(a.2.2.2.1.2.2.2.2.1,(a.2.2.2.1.2.2.2.2.2.1,(a.2.2.2.1.2.2.2.2.2.2.1,(a.2.2.2.1.2.2.2.2.2.2.2.1,(a.2.2.2.1.2.2.2.2.2.2.2.2.1,(a.2.2.2.1.2.2.2.2.2.2.2.2.2.1.1,(a.2.2.2.1.2.2.2.2.2.2.2.2.2.1.2,(a.2.2.2.1.2.2.2.2.2.2.2.2.2.2.1,(a.2.2.2.1.2.2.2.2.2.2.2.2.2.2.2,a.2.2.2.2))))))))))))))))))
theorem uV(t:List eH)(lim:uc)(l:List qO):lb (R.cO t lim l) (·=true):=by
 constructor;unfold R.cO;have firstF:=wH;generalize hF:R.bB=F at firstF ⊢;have first_t:=firstF _ rfl;refine aA λ_=>aO first_t (fb rfl (aB vo λb1 h1=>dK (aG (λe1=>?_) λ_=>aO first_t (aD rfl))));obtain ⟨⟨ht,hf⟩,hl,h3⟩:=h1 e1;refine nZ (uL hf) λq hgo hq=>aA λ_=>bZ (λ_=>mQ (fS rfl (aO first_t (fS rfl (aD rfl))))) λh0=>aO qf (dK (aG (λem=>?_) λ_=>mQ (fS rfl (aO first_t (fS rfl (aD rfl))))));obtain ⟨hg,ho⟩:=hgo h0;obtain ⟨m1,m2,m3,m4⟩:=of_decide_eq_true em;have hres:∀ g:List qO,g.length<=2^40->(R.dN t lim g).sat tg:=λg hl=>uw hg hf ho m1 m2 ⟨m3,Int.le_trans h3 (by decide)⟩ hl;refine aB (BQ ht) λr16 e16=>aA λ_=>?_;subst e16;refine aB (yj (hres [] (by simp))) λr17 h17=>aA λ_=>mQ (fb rfl ?_);refine aB (R:=λx:Unit ⊕ Bool=>x=.inl ()) (fP (λs:Int×FlT=>s.1) l.length (by omega) (λs=>∃ g a,s.2=fl a/\te r16 lim g a/\(g.length:Int)<=s.1) (Int.le_refl 0) (by show (0:Int)<=_;omega) ⟨[],r17.2,rfl,h17,Int.le_refl _⟩ λs i0 i1 hI=>?_) λx hx=>?_
 ·obtain ⟨i,f⟩:=s;obtain ⟨g,a,hfl,ha,hgl⟩:=hI;have hfl:f=fl a:=hfl;subst hfl;have i0:0<=i:=i0;have hgl:(g.length:Int)<=i:=hgl;refine dt (λhi=>?_) λ_=>aD rfl;have hi:i < (l.length:Int):=hi;refine aB (vG a) λr21 h21=>aA λ_=>aB (pe a) λr22 h22=>aA λ_=>bP i0 (by show i.toNat < l.length;omega) λx hx _=>aB (BX ha (by omega) (hres _ (by simp;omega))) λr24 ⟨g1,g2⟩=>aA λ_=>aB (vG r24.2) λr25 h25=>aA λ_=>?_;subst h21 h22 h25;have hw:w6 (i+1)=i+1:=wrap64 (by omega);refine aB (R:=(·=false)) ?_ λb hb=>fb hb (aD ⟨rfl,hi,?_⟩)
  ·by_cases e:Eq (α:=Int) a.2.2.2.2.1 0
   ·obtain ⟨k1,y,k2,_⟩:=g2 e;refine bH (λ_=>bZ (λh=>absurd k1 h) λ_=>aB (pe r24.2) λr26 h26=>aA λ_=>?_) λh=>absurd e h
    have hc:r26=w6 ((a.2.2.1.length:Int)+1):=by
     obtain ⟨z,hz,_⟩:=ha;rw [h26,k2,hz];show ((g++[x]).length:Int)=w6 ((g.length:Int)+1);rw [wrap64 (by omega)];simp
    exact dK (bH (λ_=>bZ (λh=>absurd e h) λ_=>aD rfl) λh=>absurd hc h)
   ·have e':=g1 e;subst e';refine bH (λh=>absurd h e) λ_=>bZ (λ_=>dK (bH (λ_=>aB (pe a) λr31 h31=>aA λ_=>dK (bH (λ_=>?_) λh=>absurd h31 h)) λh=>absurd rfl h)) λh=>absurd h e;unfold R.bJ;exact cz (aA λ_=>aD (aA λ_=>cz (aA λ_=>aD (aA λ_=>aO uA (aD rfl)))))
  ·show ∃ g' a',fl r24.2=fl a'/\te r16 lim g' a'/\(g'.length:Int)<=w6 (i+1);rw [hw];by_cases e:Eq (α:=Int) a.2.2.2.2.1 0
   ·exact ⟨g++[x],r24.2,rfl,(g2 e).2,by simp;omega⟩
   ·have e':=g1 e;subst e';exact ⟨g,a,rfl,ha,by omega⟩
 ·subst hx;exact aO first_t (aD rfl)
end Go.Mach

