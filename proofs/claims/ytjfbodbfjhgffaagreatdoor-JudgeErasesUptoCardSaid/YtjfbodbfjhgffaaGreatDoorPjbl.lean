/-
  Proved here: the law renlaw25.JudgeErases returns true for every input of the stated bulk and leaves its arguments as they were; no further condition.
  By an AI agent; no person has read it.
-/
import Derived.Test.YtjfbodbfjhgffaaGreatDoorPjac
import Derived.Test.YtjfbodbfjhgffaaGreatDoorPjaf
set_option linter.all false
set_option linter.deprecated false
set_option maxRecDepth 20000
namespace Go.Mach
open Res
def keepA(a:T_cluster_Act.den):Bool:=!(a.1 == 2) && !(a.1 == 3)
theorem keep_take{l:List T_cluster_Act.den}{i:Int}{x:T_cluster_Act.den}(h0:0<=i)(hx:l[i.toNat]?=some x):l.take (i+1).toNat=l.take i.toNat++[x]:=by
 rw [show (i+1).toNat=i.toNat+1 by omega,List.take_add_one,hx];rfl
theorem wrapJ{i:Int}{n:Nat}(h0:0<=i)(h1:i<=n)(hn:n<=2000):w6 (i+1)=i+1:=wrap64 (by omega)
theorem erase_law(l:List T_cluster_Act.den)(hl:l.length<=2000):(R.judge_Erase l).sat (·=l.filter keepA):=by
 unfold R.judge_Erase;refine law_given λ_=>?_;refine law_bind_eq (a:=l.filter keepA) ?_ rfl;refine law_for (λ(x:List T_cluster_Act.den×Int)=>x.2) l.length (by omega) (λ(x:List T_cluster_Act.den×Int)=>0<=x.2/\x.2<=l.length/\x.1=(l.take x.2.toNat).filter keepA) ?_ (λx h=>⟨h.1,h.2.1⟩) ?_
 ·simp
 ·rintro ⟨o,i⟩ ⟨h0,h1,h2⟩;dsimp only at h0 h1 h2 ⊢;refine law_br (λhb=>?_) (λhb=>?_)
  ·have hb:i < l.length:=by simpa [ilt] using hb
   refine law_idxS h0 (by omega) λx hx _=>?_
   have hlen:o.length<=2000:=by rw [h2];exact Nat.le_trans (List.length_filter_le ..) (by simp;omega)
   have ht:=keep_take h0 hx;have hw:=wrapJ h0 (by omega:i<=l.length) hl;refine law_bind_eq (a:=keepA x) ?_ ?_
   ·unfold keepA
    cases x.1 == 2<;>rfl
   ·refine law_br (λhk=>?_) (λhk=>?_)
    ·refine law_need (by simp;omega) ?_;refine ⟨hw,?_⟩;dsimp only;rw [hw,ht,List.filter_append,<- h2];exact ⟨by omega,by omega,by simp [hk]⟩
    ·refine ⟨hw,?_⟩;dsimp only;rw [hw,ht,List.filter_append,<- h2];exact ⟨by omega,by omega,by simp [hk]⟩
  ·have hb:¬ i < l.length:=by simpa [ilt] using hb
   show o=_;rw [h2,List.take_of_length_le (by omega)]
theorem erase24_law(l:List T_cluster_Act.den)(hl:l.length<=2000):(R.renref24_Erase l).sat (·=l.filter keepA):=by
 unfold R.renref24_Erase;refine law_given λ_=>?_;refine law_bind_eq (a:=l.filter keepA) ?_ rfl;refine law_for (λ(x:List T_cluster_Act.den×Int)=>x.2) l.length (by omega) (λ(x:List T_cluster_Act.den×Int)=>0<=x.2/\x.2<=l.length/\x.1=(l.take x.2.toNat).filter keepA) ?_ (λx h=>⟨h.1,h.2.1⟩) ?_
 ·simp
 ·rintro ⟨o,i⟩ ⟨h0,h1,h2⟩;dsimp only at h0 h1 h2 ⊢;refine law_br (λhb=>?_) (λhb=>?_)
  ·have hb:i < l.length:=by simpa [ilt] using hb
   obtain ⟨x,hx⟩:∃ x,l[i.toNat]?=some x:=⟨_,List.getElem?_eq_getElem (by omega)⟩
   have hlen:o.length<=2000:=by rw [h2];exact Nat.le_trans (List.length_filter_le ..) (by simp;omega)
   have ht:=keep_take h0 hx;have hw:=wrapJ h0 (by omega:i<=l.length) hl;refine law_bind_eq (a:=keepA x) ?_ ?_
   ·refine law_idxS h0 (by omega) λy hy _=>?_;rw [hx] at hy;cases hy;refine law_br (λhk=>?_) (λhk=>?_)
    ·refine law_idxS h0 (by omega) λy hy _=>?_;rw [hx] at hy;cases hy;show _=_;unfold keepA;rw [hk];rfl
    ·show _=_;unfold keepA;rw [hk];rfl
   ·refine law_br (λhk=>?_) (λhk=>?_)
    ·refine law_idxS h0 (by omega) λy hy _=>?_;rw [hx] at hy;cases hy;refine law_need (by simp;omega) ?_;refine ⟨hw,?_⟩;dsimp only;rw [hw,ht,List.filter_append,<- h2];exact ⟨by omega,by omega,by simp [hk]⟩
    ·refine ⟨hw,?_⟩;dsimp only;rw [hw,ht,List.filter_append,<- h2];exact ⟨by omega,by omega,by simp [hk]⟩
  ·have hb:¬ i < l.length:=by simpa [ilt] using hb
   show o=_;rw [h2,List.take_of_length_le (by omega)]
theorem acts_law(l:List T_cluster_Act.den)(hl:l.length<=2000):(R.renlaw24_Acts l).sat (·=l):=by
 unfold R.renlaw24_Acts;refine law_given λ_=>?_;refine law_bind_eq (a:=l) ?_ rfl;refine law_for (λ(x:List T_cluster_Act.den×Int)=>x.2) l.length (by omega) (λ(x:List T_cluster_Act.den×Int)=>0<=x.2/\x.2<=l.length/\x.1=l.take x.2.toNat) ?_ (λx h=>⟨h.1,h.2.1⟩) ?_
 ·simp
 ·rintro ⟨o,i⟩ ⟨h0,h1,h2⟩;dsimp only at h0 h1 h2 ⊢;refine law_br (λhb=>?_) (λhb=>?_)
  ·have hb:i < l.length:=by simpa [ilt] using hb
   have hlen:o.length<=2000:=by rw [h2];simp;omega
   have hw:=wrapJ h0 (by omega:i<=l.length) hl;refine law_idxS h0 (by omega) λx hx _=>?_;have ht:=keep_take h0 hx;refine law_idxS h0 (by omega) λy hy _=>?_;rw [hx] at hy;cases hy;refine law_idxS h0 (by omega) λy hy _=>?_;rw [hx] at hy;cases hy;refine law_need (by simp;omega) ?_;refine ⟨hw,?_⟩;dsimp only;rw [hw,ht,<- h2];exact ⟨by omega,by omega,rfl⟩
  ·have hb:¬ i < l.length:=by simpa [ilt] using hb
   show o=_;rw [h2,List.take_of_length_le (by omega)]
theorem JudgeErases_law(l:List T_cluster_Act.den):SafeP (R.renlaw25_JudgeErases l) (·=true):=by
 constructor;unfold R.renlaw25_JudgeErases;refine law_given λ_=>?_;refine law_bind_eq first_ok ?_;refine law_f rfl ?_;refine law_br (λ_=>law_bind_eq first_ok rfl) (λhb=>?_)
 have hl:l.length<=2000:=by
  have:(l.length:Int)<=2000:=by simpa [ilt] using hb
  omega
 refine law_bind_eq (erase_law l hl) ?_;refine law_given λ_=>?_;refine law_bind_eq (acts_law l hl) ?_;refine law_given λ_=>?_;refine law_bind_eq (erase24_law l hl) ?_;refine law_given λ_=>?_;refine law_f (by simp) ?_;have hn:(l.filter keepA).length<=2000:=Nat.le_trans (List.length_filter_le ..) hl;generalize l.filter keepA=m at hn;refine law_bind_eq (a:=.inl ()) ?_ ?_
 ·refine law_for (λ(x:Int)=>x) m.length (by omega) (λ(x:Int)=>0<=x/\x<=m.length) ⟨by omega,by omega⟩ (λx h=>h) ?_;rintro i ⟨h0,h1⟩;refine law_br (λhb=>?_) (λhb=>?_)
  ·have hb:i < m.length:=by simpa [ilt] using hb
   obtain ⟨x,hx⟩:∃ x,m[i.toNat]?=some x:=⟨_,List.getElem?_eq_getElem (by omega)⟩;have hw:=wrapJ h0 (by omega:i<=m.length) hn
   have hi:∀ {k:T_cluster_Act.den->Res Bool}{Q:Bool->Prop},(k x).sat Q->(need (ile 0 i && ilt i m.length) (idx T_cluster_Act m (0+Int.toNat i) k)).sat Q:=by
    intro k Q h;refine law_need (by simp [ile,ilt,h0,hb]) ?_;refine law_idx (by omega) (by rw [idx0];omega) λy hy _=>?_;rw [idx0,hx] at hy;cases hy;exact h
   refine law_bind_eq (a:=false) ?_ ?_
   ·refine hi (hi ?_);refine law_f (by simp) ?_;refine hi (hi ?_);refine law_f (by simp) ?_;refine hi (hi ?_);show _=_;simp
   ·refine law_f rfl ?_;refine ⟨hw,?_⟩;rw [hw];exact ⟨by omega,by omega⟩
  ·rfl
 ·exact law_bind_eq first_ok rfl
end Go.Mach

