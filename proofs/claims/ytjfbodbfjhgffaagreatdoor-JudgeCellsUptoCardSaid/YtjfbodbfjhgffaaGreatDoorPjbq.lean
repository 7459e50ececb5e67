/-
  Proved here: the law renlaw25.JudgeCells returns true for every input of the stated bulk and leaves its arguments as they were; no further condition.
  By an AI agent; no person has read it.
-/
import Derived.Test.YtjfbodbfjhgffaaGreatDoorPjag
set_option linter.all false
set_option linter.deprecated false
set_option maxRecDepth 20000
namespace Go.Mach
open Res
def keyE(e:EvT):P3:=(e.2.2.2.2.1,(e.2.2.2.2.2.1,e.2.2.2.2.2.2.1))
def SeenP(l:LogT)(i:Nat)(p:P3):Prop:=∃ m < i,∃ e,l.1[m]?=some e/\Ne (α:=Int) e.2.1 0/\keyE e=p
abbrev ClnP(l:LogT)(p:P3):Prop:=CleanP l p.1 p.2.1 p.2.2
theorem seen_step{l:LogT}{i:Nat}{e:EvT}(he:l.1[i]?=some e){p:P3}:SeenP l (i+1) p ↔ SeenP l i p\/Ne (α:=Int) e.2.1 0/\keyE e=p:=by
 constructor
 ·rintro ⟨m,hm,e',h1,h2⟩;rcases Nat.lt_or_ge m i with h|h
  ·exact .inl ⟨m,h,e',h1,h2⟩
  ·obtain rfl:m=i:=by omega
   rw [he] at h1;cases h1;exact .inr h2
 ·rintro (⟨m,hm,h⟩|h)
  ·exact ⟨m,by omega,h⟩
  ·exact ⟨i,by omega,e,he,h⟩
def OutP(l:LogT)(i:Nat)(out:List P3):Prop:=out.length<=i/\∀ p,p∈out ↔ SeenP l i p/\ClnP l p
section
variable {l:LogT}
theorem nn_of{b:Bool}{P:Prop}(h:b=true ↔ P)(t:(!b)=false):P:=h.1 (by cases b<;>simp_all)
theorem out_skip{i:Nat}{out:List P3}{e:EvT}(he:l.1[i]?=some e)(h:OutP l i out)(hs:Ne (α:=Int) e.2.1 0->ClnP l (keyE e)->SeenP l i (keyE e)):OutP l (i+1) out:=by
 refine ⟨Nat.le_succ_of_le h.1,λp=>?_⟩;rw [h.2 p,seen_step he];constructor
 ·exact λ⟨a,b⟩=>⟨.inl a,b⟩
 ·rintro ⟨a|⟨a,rfl⟩,b⟩
  ·exact ⟨a,b⟩
  ·exact ⟨hs a b,b⟩
theorem out_add{i:Nat}{out out':List P3}{e:EvT}(he:l.1[i]?=some e)(h:OutP l i out)(h0:Ne (α:=Int) e.2.1 0)(hc:ClnP l (keyE e))(hl:out'.length=out.length+1)(hm:∀ p,p∈out' ↔ p∈out\/p=keyE e):OutP l (i+1) out':=by
 refine ⟨by have:=h.1;omega,λp=>?_⟩;rw [hm,h.2 p,seen_step he];constructor
 ·rintro (⟨a,b⟩|rfl)
  ·exact ⟨.inl a,b⟩
  ·exact ⟨.inr ⟨h0,rfl⟩,hc⟩
 ·rintro ⟨a|⟨a,rfl⟩,b⟩
  ·exact .inl ⟨a,b⟩
  ·exact .inr rfl
theorem at_l(out:List P3)(p:P3)(hl:out.length<=1000):(loop (α:=Int) (β:=Int) (λat4=>bd (α:=Bool) (br (ilt at4 (out.length:Int)) (need (ile 0 at4 && ilt at4 out.length) (idx T_cluster_Act out (0+Int.toNat at4) λe5=>bd (R.renref24_less e5 p) λr6=>ok r6)) (ok false)) λx7=>br x7 (ok (.next (w6 (at4+1)))) (ok (.done (at4)))) fuel 0).sat λa=>∃ n:Nat,a=(n:Int)/\n<=out.length/\(∀ j < n,∀ q,out[j]?=some q->lt3 q p)/\∀ q,out[n]?=some q->¬ lt3 q p:=by
 refine law_for (λx:Int=>x) out.length (by omega) (λx=>0<=x/\x<=out.length/\∀ j < x.toNat,∀ q,out[j]?=some q->lt3 q p) ⟨Int.le_refl 0,by omega,λj hj=>by simp at hj⟩ (λx h=>⟨h.1,h.2.1⟩) ?_;rintro x ⟨h0,h1,h2⟩;obtain ⟨i,rfl⟩:∃ i:Nat,x=i:=⟨x.toNat,by omega⟩;refine law_bind' (R:=λb=>(b=true->i < out.length/\∀ q,out[i]?=some q->lt3 q p)/\(b=false->∀ q,out[i]?=some q->¬ lt3 q p)) (q_lt (λhi=>?_) λhi=>law_ok ⟨λe=>(by cases e),λ_ q hq=>?_⟩) λb hb=>law_br (λt=>law_ok ?_) λt=>law_ok ⟨i,rfl,by omega,by simpa using h2,hb.2 t⟩
 ·have hi:i < out.length:=by omega
  refine law_need (by rw [Bool.and_eq_true,ile_true,ilt_true];omega) (law_idx (Int.natCast_nonneg _) (by show ((0+Int.toNat (i:Int):Nat):Int).toNat < out.length;omega) λq hq _=>law_bind' (less_l q p) λr hr=>law_ok ?_)
  have hq:out[i]?=some q:=by
   have e:((0+Int.toNat (i:Int):Nat):Int).toNat=i:=by omega
   have hq:out[((0+Int.toNat (i:Int):Nat):Int).toNat]?=some q:=hq;rw [e] at hq;exact hq
  exact ⟨λe=>⟨hi,λq' h'=>by rw [hq] at h';cases h';exact hr.1 e⟩,λe q' h'=>by rw [hq] at h';cases h';exact f_of hr e⟩
 ·rw [List.getElem?_eq_none (by omega)] at hq;cases hq
 ·obtain ⟨h3,h4⟩:=hb.1 t;have hw:w6 ((i:Int)+1)=(i:Int)+1:=wrap64 (by omega);refine ⟨hw,?_⟩;rw [hw];refine ⟨by omega,by omega,λj hj q hq=>?_⟩;rcases Nat.lt_or_ge j i with h|h
  ·exact h2 j (by omega) q hq
  ·obtain rfl:j=i:=by omega
   exact h4 q hq
theorem cells24_l(hl:l.1.length<=40):(R.renref24_Cells l).sat λr=>r.Pairwise lt3/\(∀ p,p∈r ↔ SeenP l l.1.length p/\ClnP l p)/\r.length<=l.1.length:=by
 unfold R.renref24_Cells;refine law_given λ_=>law_bind' (may14_l l) λr1 h1=>q_not (law_br (λt=>?_) λt=>law_ok ⟨List.Pairwise.nil,λp=>⟨λh=>(by cases h),λh=>absurd h.2.1.1 (f_of h1 t)⟩,Nat.zero_le _⟩);refine law_bind' (R:=λout:List P3=>out.Pairwise lt3/\OutP l l.1.length out) (q_for (λx:List P3×Int=>x.2) l.1.length (by omega) (λx=>x.1.Pairwise lt3/\OutP l x.2.toNat x.1) (Int.le_refl 0) (by show (0:Int)<=_;omega) ⟨List.Pairwise.nil,Nat.le_refl 0,λp=>⟨λh=>(by cases h),λ⟨⟨m,hm,_⟩,_⟩=>by simp at hm⟩⟩ ?_) λout ho=>law_ok ⟨ho.1,ho.2.2,ho.2.1⟩;rintro ⟨out,x⟩ h0 h1 ⟨hs,hI⟩;have h0:0<=x:=h0;have h1:x<=(l.1.length:Int):=h1;obtain ⟨i,rfl⟩:∃ i:Nat,x=i:=⟨x.toNat,by omega⟩
 have hI:OutP l i out:=by simpa using hI
 have hs:out.Pairwise lt3:=hs;have hol:=hI.1
 refine q_lt (λhi=>?_) λhi=>law_ok ⟨hs,by
  have hi:(l.1.length:Int)<=(i:Int):=hi
  obtain rfl:i=l.1.length:=by omega
  exact hI⟩
 have hi:(i:Int) < (l.1.length:Int):=hi;refine law_idxS h0 (by show ((i:Int)).toNat < _;omega) λe he _=>?_
 have he:l.1[i]?=some e:=by simpa using he
 have hw:w6 ((i:Int)+1)=((i+1:Nat):Int):=(wrap64 (by omega)).trans (by omega)
 have hwt:(w6 ((i:Int)+1)).toNat=i+1:=by rw [hw];omega
 refine law_bind' (at_l out (keyE e) (by omega)) ?_;rintro a ⟨n,rfl,hn,hlt,hge⟩
 have idxO:∀ {β:Type}{k:P3->Res β}{Q:β->Prop},n < out.length->(∀ q,out[n]?=some q->(k q).sat Q)->(need (ile 0 (n:Int) && ilt (n:Int) out.length) (idx T_cluster_Act out (0+Int.toNat (n:Int)) k)).sat Q:=by
  intro β k Q hn h;refine law_need (by rw [Bool.and_eq_true,ile_true,ilt_true];omega) (law_idx (Int.natCast_nonneg _) (by show ((0+Int.toNat (n:Int):Nat):Int).toNat < out.length;omega) λq hq _=>h q ?_)
  have e:((0+Int.toNat (n:Int):Nat):Int).toNat=n:=by omega
  have hq:out[((0+Int.toNat (n:Int):Nat):Int).toNat]?=some q:=hq;rw [e] at hq;exact hq
 refine law_bind' (R:=λb=>(b=true->Eq (α:=Int) e.2.1 0\/keyE e∈out\/¬ ClnP l (keyE e))/\(b=false->Ne (α:=Int) e.2.1 0/\ClnP l (keyE e)/\∀ q,out[n]?=some q->q≠keyE e)) (q_eq (λh=>law_ok ⟨λ_=>.inl h,λe=>(by cases e)⟩) λhk=>q_lt (λhn2=>?_) λhn2=>?_) λb hb=>?_
 ·have hn2:(n:Int) < (out.length:Int):=hn2;refine idxO (by omega) λq hq=>?_
  have heq:((q.1 == e.2.2.2.2.1) && ((q.2.1 == e.2.2.2.2.2.1) && ((q.2.2 == e.2.2.2.2.2.2.1) && true)))=true ↔ q=keyE e:=by
   simp only [Bool.and_eq_true,beq_iff_eq,and_true];exact ⟨λ⟨a,b,c⟩=>Prod.ext a (Prod.ext b c),λh=>by subst h;exact ⟨rfl,rfl,rfl⟩⟩
  refine law_br (λt=>law_ok ⟨λ_=>.inr (.inl ?_),λe=>(by cases e)⟩) λt=>law_bind' (clean18_l l _ _ _) λr hr=>law_ok ⟨λh=>.inr (.inr ((not_not_b hr).1 h)),λh=>⟨hk,nn_of hr h,λq' h'=>?_⟩⟩
  ·rw [<- heq.1 t];exact List.mem_of_getElem? hq
  ·rw [hq] at h';cases h'
   exact λg=>by rw [heq.2 g] at t;cases t
 ·have hn2:(out.length:Int)<=(n:Int):=hn2;exact law_bind' (clean18_l l _ _ _) λr hr=>law_ok ⟨λh=>.inr (.inr ((not_not_b hr).1 h)),λh=>⟨hk,nn_of hr h,λq' h'=>by rw [List.getElem?_eq_none (by omega)] at h';cases h'⟩⟩
 ·refine law_br (λt=>law_ok ⟨rfl,hi,hs,?_⟩) λt=>?_
  ·show OutP l (w6 ((i:Int)+1)).toNat out;rw [hwt];refine out_skip he hI λa b=>?_;rcases hb.1 t with h|h|h
   ·exact absurd h a
   ·exact ((hI.2 _).1 h).1
   ·exact absurd b h
  ·obtain ⟨hk,hc,hne⟩:=hb.2 t
   have s1:(ile 0 (n:Int) && ile (n:Int) out.length)=true:=by rw [Bool.and_eq_true,ile_true,ile_true];omega
   have l1:(List.take (out.length-Int.toNat (n:Int)) (List.drop (0+Int.toNat (n:Int)) out)).length<=40:=by simp;omega
   have dr:List.take (out.length-Int.toNat (n:Int)) (List.drop (0+Int.toNat (n:Int)) out)=List.drop n out:=by
    rw [Nat.zero_add,Int.toNat_natCast];exact List.take_of_length_le (by simp)
   refine law_need s1 (law_need s1 (law_need (decide_eq_true ?_) (law_need (decide_eq_true ?_) (law_ok ⟨rfl,hi,?_⟩))))
   ·simp;omega
   ·simp;omega
   ·show (List.take (Int.toNat (n:Int)) (List.drop 0 out)++([keyE e]++List.take (out.length-Int.toNat (n:Int)) (List.drop (0+Int.toNat (n:Int)) out))).Pairwise lt3/\OutP l (w6 ((i:Int)+1)).toNat (List.take (Int.toNat (n:Int)) (List.drop 0 out)++([keyE e]++List.take (out.length-Int.toNat (n:Int)) (List.drop (0+Int.toNat (n:Int)) out)));rw [dr,hwt,List.drop_zero,Int.toNat_natCast];refine ⟨insert_sorted hs (λq hq=>?_) λq hq=>?_,out_add he hI hk hc (by simp;omega) λp=>?_⟩
    ·obtain ⟨j,hj,rfl⟩:=List.getElem_of_mem hq;rw [List.length_take] at hj;exact hlt j (by omega) _ (by rw [List.getElem_take];exact List.getElem?_eq_getElem (by omega))
    ·obtain ⟨j,hj,rfl⟩:=List.getElem_of_mem hq;rw [List.length_drop] at hj
     have hn3:n < out.length:=by omega
     have a1:lt3 (keyE e) out[n]:=lt3_tot (hge _ (List.getElem?_eq_getElem hn3)) (hne _ (List.getElem?_eq_getElem hn3));rw [List.getElem_drop];rcases Nat.eq_zero_or_pos j with rfl|hj0
     ·exact a1
     ·exact lt3_tr a1 (List.pairwise_iff_getElem.1 hs n (n+j) hn3 (by omega) (by omega))
    ·rw [List.mem_append,List.mem_append,List.mem_singleton]
     conv=>rhs;rw [<- List.take_append_drop n out,List.mem_append]
     constructor
     ·rintro (h|h|h)<;>simp [h]
     ·rintro ((h|h)|h)<;>simp [h]
end
end Go.Mach

set_option maxRecDepth 20000
namespace Go.Mach
open Res
abbrev MapT:=List (List Int×Bool)
def keyL(p:P3):List Int:=[p.1,p.2.1,p.2.2]
theorem keyL_inj{p q:P3}(h:keyL p=keyL q):p=q:=by
 simp only [keyL,List.cons.injEq,and_true] at h;exact Prod.ext h.1 (Prod.ext h.2.1 h.2.2)
theorem ix_none{met:MapT}{k:List Int}(h:keyIx met k=none):∀ x∈met,x.1≠k:=by
 intro x hx e;have:=List.findIdx?_eq_none_iff.1 h x hx;simp [e] at this
def MetP(l:LogT)(i:Nat)(met:MapT):Prop:=(met.map (·.1)).Nodup/\(∀ p b,(keyL p,b)∈met->(b=true ↔ SeenP l i p))/\∀ p,SeenP l i p->∃ b,(keyL p,b)∈met
section
variable {l:LogT}{i:Nat}{met:MapT}
theorem met_at(h:MetP l i met){j:Nat}{x:List Int×Bool}{p:P3}(hx:met[j]?=some x)(hk:x.1=keyL p):x.2=true ↔ SeenP l i p:=by
 have hm:=List.mem_of_getElem? hx;obtain ⟨k,b⟩:=x;have hk:k=keyL p:=hk;subst hk;exact h.2.1 p b hm
theorem met_no(h:MetP l i met){p:P3}(hk:keyIx met (keyL p)=none):¬ SeenP l i p:=λhs=>by
 obtain ⟨b,hb⟩:=h.2.2 p hs;exact ix_none hk _ hb rfl
theorem modify_self{j:Nat}{x:List Int×Bool}(hx:met[j]?=some x):(met.modify j λkv=>(kv.1,x.2))=met:=by
 apply List.ext_getElem?;intro n;rw [List.getElem?_modify];split
 ·subst_vars
  rw [hx];rfl
 ·cases met[n]?<;>rfl
theorem met_set(h:MetP l i met){e:EvT}(he:l.1[i]?=some e){j:Nat}{x:List Int×Bool}(hx:met[j]?=some x)(hk:x.1=keyL (keyE e)){v:Bool}(hv:v=true ↔ SeenP l (i+1) (keyE e)):MetP l (i+1) (met.modify j λkv=>(kv.1,v)):=by
 have hkeys:(met.modify j λkv=>(kv.1,v)).map (·.1)=met.map (·.1):=by
  apply List.ext_getElem?;intro n;rw [List.getElem?_map,List.getElem?_map,List.getElem?_modify]
  cases met[n]? with
  |none=>rfl
  |some y =>
   show Option.map (·.1) (some (if j=n then (y.1,v) else y))=some y.1
   split<;>rfl
 have hlt:j < met.length:=(List.getElem?_eq_some_iff.1 hx).1
 have hmem:∀ p b,(keyL p,b)∈(met.modify j λkv=>(kv.1,v)) ↔ ((keyL p,b)∈met/\p≠keyE e)\/(p=keyE e/\b=v):=by
  intro p b;rw [List.mem_iff_getElem?];constructor
  ·rintro ⟨n,hn⟩;rw [List.getElem?_modify] at hn;split at hn
   ·subst_vars
    rw [hx] at hn;have hn:some (x.1,v)=some (keyL p,b):=hn;rw [Option.some.injEq,Prod.mk.injEq] at hn;exact .inr ⟨keyL_inj (hn.1.symm.trans hk),hn.2.symm⟩
   ·rename_i hne
    have hn:met[n]?=some (keyL p,b):=by cases hm:met[n]?<;>simp_all
    refine .inl ⟨List.mem_of_getElem? hn,λhp=>hne ?_⟩;subst hp
    have h1:(met.map (·.1))[n]?=some (keyL (keyE e)):=by rw [List.getElem?_map,hn];rfl
    have h2:(met.map (·.1))[j]?=some (keyL (keyE e)):=by rw [List.getElem?_map,hx,Option.map_some,hk]
    obtain ⟨g1,e1⟩:=List.getElem?_eq_some_iff.1 h1;obtain ⟨g2,e2⟩:=List.getElem?_eq_some_iff.1 h2;rcases Nat.lt_trichotomy j n with g|g|g
    ·exact absurd (e2.trans e1.symm) (List.pairwise_iff_getElem.1 h.1 j n g2 g1 g)
    ·exact g
    ·exact absurd (e1.trans e2.symm) (List.pairwise_iff_getElem.1 h.1 n j g1 g2 g)
  ·rintro (⟨hm,hp⟩|⟨rfl,hbv⟩)
   ·obtain ⟨n,hn⟩:=List.mem_iff_getElem?.1 hm;refine ⟨n,?_⟩;rw [List.getElem?_modify,hn]
    show some (if j=n then ((keyL p,b).1,v) else (keyL p,b))=some (keyL p,b)
    rw [if_neg];rintro rfl;rw [hx] at hn;cases hn;exact hp (keyL_inj hk)
   ·refine ⟨j,?_⟩;rw [List.getElem?_modify,hx]
    show some (if j=j then (x.1,v) else x)=some (keyL (keyE e),b)
    rw [if_pos rfl,hk,hbv]
 refine ⟨by rw [hkeys];exact h.1,λp b hb=>?_,λp hs=>?_⟩
 ·rcases (hmem p b).1 hb with ⟨hm,hp⟩|⟨rfl,rfl⟩
  ·rw [h.2.1 p b hm,seen_step he];exact ⟨.inl,λg=>g.resolve_right λg=>hp g.2.symm⟩
  ·exact hv
 ·by_cases hp:p=keyE e
  ·exact ⟨v,(hmem p v).2 (.inr ⟨hp,rfl⟩)⟩
  ·rcases (seen_step he).1 hs with g|g
   ·obtain ⟨b,hb⟩:=h.2.2 p g;exact ⟨b,(hmem p b).2 (.inl ⟨hb,hp⟩)⟩
   ·exact absurd g.2.symm hp
theorem met_add(h:MetP l i met){e:EvT}(he:l.1[i]?=some e)(hk:keyIx met (keyL (keyE e))=none){v:Bool}(hv:v=true ↔ SeenP l (i+1) (keyE e)):MetP l (i+1) (met++[(keyL (keyE e),v)]):=by
 have hno:=ix_none hk;refine ⟨?_,λp b hb=>?_,λp hs=>?_⟩
 ·rw [List.map_append];refine List.nodup_append.2 ⟨h.1,by simp,λa ha b hb=>?_⟩;obtain ⟨x,hx,rfl⟩:=List.mem_map.1 ha;simp only [List.map_cons,List.map_nil,List.mem_singleton] at hb;subst hb;exact hno x hx
 ·rcases List.mem_append.1 hb with hm|hm
  ·rw [h.2.1 p b hm,seen_step he];refine ⟨.inl,λg=>g.resolve_right λg=>?_⟩;have:=g.2;subst this;exact hno _ hm rfl
  ·simp only [List.mem_singleton,Prod.mk.injEq] at hm;obtain ⟨hm,rfl⟩:=hm;rw [keyL_inj hm];exact hv
 ·rcases (seen_step he).1 hs with g|g
  ·obtain ⟨b,hb⟩:=h.2.2 p g;exact ⟨b,by simp [hb]⟩
  ·obtain ⟨_,rfl⟩:=g;exact ⟨v,by simp⟩
theorem cells_l(hl:l.1.length<=40):(R.judge_Cells l).sat λr=>r.Pairwise lt3/\∀ p,p∈r ↔ SeenP l l.1.length p/\ClnP l p:=by
 unfold R.judge_Cells;refine law_given λ_=>law_bind' (R:=λout:List P3=>out.Nodup/\OutP l l.1.length out) (q_for (λx:MapT×(List P3×Int)=>x.2.2) l.1.length (by omega) (λx=>MetP l x.2.2.toNat x.1/\x.2.1.Nodup/\OutP l x.2.2.toNat x.2.1) (Int.le_refl 0) (by show (0:Int)<=_;omega) ⟨⟨List.nodup_nil,λp b h=>(by cases h),λp ⟨m,hm,_⟩=>by simp at hm⟩,List.nodup_nil,Nat.le_refl 0,λp=>⟨λh=>(by cases h),λ⟨⟨m,hm,_⟩,_⟩=>by simp at hm⟩⟩ ?_) λout ho=>?_
 ·rintro ⟨met,out,x⟩ h0 h1 ⟨hM,hN,hI⟩;have h0:0<=x:=h0;have h1:x<=(l.1.length:Int):=h1;obtain ⟨i,rfl⟩:∃ i:Nat,x=i:=⟨x.toNat,by omega⟩
  have hM:MetP l i met:=by simpa using hM
  have hI:OutP l i out:=by simpa using hI
  have hN:out.Nodup:=hN;have hol:=hI.1
  refine q_lt (λhi=>?_) λhi=>law_ok ⟨hN,by
   have hi:(l.1.length:Int)<=(i:Int):=hi
   obtain rfl:i=l.1.length:=by omega
   exact hI⟩
  have hi:(i:Int) < (l.1.length:Int):=hi;refine law_idxS h0 (by show ((i:Int)).toNat < _;omega) λe he _=>?_
  have he:l.1[i]?=some e:=by simpa using he
  have hw:w6 ((i:Int)+1)=((i+1:Nat):Int):=(wrap64 (by omega)).trans (by omega)
  have hwt:(w6 ((i:Int)+1)).toNat=i+1:=by rw [hw];omega
  refine law_bind' (R:=λr:MapT×List P3=>r.1=met/\r.2.Nodup/\OutP l (i+1) r.2) (law_bind' (R:=λr:MapT×Bool=>r.1=met/\(r.2=true ↔ Ne (α:=Int) e.2.1 0/\¬ SeenP l i (keyE e)/\ClnP l (keyE e))) ?_ ?_) ?_
  ·refine q_not (q_eq (λhk=>law_ok ⟨rfl,λh=>(by cases h),λh=>absurd hk h.1⟩) λhk=>law_look (λj x hj hx hxk=>?_) λhj=>?_)
   ·have hs:=met_at hM hx (p:=keyE e) hxk;refine q_not (law_br (λt=>law_ok ⟨modify_self hx,λh=>(by cases h),λh=>absurd (hs.1 t) h.2.1⟩) λt=>law_bind' (clean_l l _ _ _) λr5 h5=>law_ok ⟨modify_self hx,h5.trans ⟨λg=>⟨hk,f_of hs t,g⟩,λg=>g.2.2⟩⟩)
   ·exact law_bind' (clean_l l _ _ _) λr6 h6=>law_ok ⟨rfl,h6.trans ⟨λg=>⟨hk,met_no hM hj,g⟩,λg=>g.2.2⟩⟩
  ·rintro ⟨met7,b7⟩ ⟨hm7,h7⟩;have hm7:met=met7:=hm7.symm;subst hm7;have h7:b7=true ↔ _:=h7;refine law_br (λt=>?_) λt=>law_ok ⟨rfl,hN,out_skip he hI λa c=>Classical.byContradiction λg=>f_of h7 t ⟨a,g,c⟩⟩;obtain ⟨hk,hns,hc⟩:=h7.1 t;have hnm:keyE e ∉ out:=λg=>hns ((hI.2 _).1 g).1;refine law_need (decide_eq_true (by simp;omega)) (law_ok ⟨rfl,?_,out_add he hI hk hc (by simp) λp=>by simp [keyE]⟩);refine List.nodup_append.2 ⟨hN,by simp,λa ha b hb=>?_⟩;rw [List.mem_singleton] at hb;subst hb;rintro rfl;exact hnm ha
  ·rintro ⟨met8,out8⟩ ⟨hm8,hN8,hO8⟩;have hm8:met=met8:=hm8.symm;subst hm8;have hN8:out8.Nodup:=hN8;have hO8:OutP l (i+1) out8:=hO8;have hsk:∀ {b:Bool},(b=true ↔ SeenP l i (keyE e))->b=true->(true=true ↔ SeenP l (i+1) (keyE e)):=λhb t=>⟨λ_=>(seen_step he).2 (.inl (hb.1 t)),λ_=>rfl⟩
   have hns:¬ SeenP l i (keyE e)->((!(e.2.1 == (0:Int)))=true ↔ SeenP l (i+1) (keyE e)):=λhn=>by
    rw [Bool.not_eq_true',beq_eq_false_iff_ne,seen_step he];exact ⟨λg=>.inr ⟨g,rfl⟩,λg=>(g.resolve_left hn).1⟩
   have fin:∀ {m:MapT},MetP l (i+1) m->Nx (λx:MapT×(List P3×Int)=>x.2.2) l.1.length (λx=>MetP l x.2.2.toNat x.1/\x.2.1.Nodup/\OutP l x.2.2.toNat x.2.1) (λout:List P3=>out.Nodup/\OutP l l.1.length out) (met,(out,(i:Int))) (.next (m,(out8,w6 ((i:Int)+1)))):=λhm=>⟨rfl,hi,by show MetP l (w6 ((i:Int)+1)).toNat _/\_/\OutP l (w6 ((i:Int)+1)).toNat _;rw [hwt];exact ⟨hm,hN8,hO8⟩⟩
   refine law_look (λj x hj hx hxk=>?_) λhj=>law_look (λj2 x2 hj2 _ _=>by rw [hj] at hj2;cases hj2) λ_=>law_ok (fin (met_add hM he hj (hns (met_no hM hj))));have hs:=met_at hM hx (p:=keyE e) hxk
   refine law_br (λt=>law_look (λj2 x2 hj2 hx2 _=>law_need ?_ (law_ok (fin (met_set hM he ?_ hxk (hsk hs t))))) λhj2=>by rw [hj] at hj2;cases hj2) λt=>law_look (λj2 x2 hj2 hx2 _=>law_need ?_ (law_ok (fin (met_set hM he ?_ hxk (hns (f_of hs t)))))) λhj2=>by rw [hj] at hj2;cases hj2
   ·rw [hj] at hj2;cases hj2;simp
   ·rw [hj] at hj2;cases hj2;exact hx
   ·rw [hj] at hj2;cases hj2;simp
   ·rw [hj] at hj2;cases hj2;exact hx
 ·have hlen:=ho.2.1;refine law_bind (law_need (decide_eq_true (by omega)) (law_ok (law_given λ_=>law_ok ⟨sort3_sorted ho.1,λp=>?_⟩)));exact mem_sort3.trans (ho.2.2 p)
end
theorem few_l(l:LogT):(R.renlaw14_Few l 40).sat λb=>b=true->l.1.length<=40:=by
 unfold R.renlaw14_Few
 refine law_given λhg=>law_bind' (R:=λ_=>True) (q_for (Q:=λ_:Int=>True) (λx:Int×Int=>x.2) 41 (by decide) (λx=>x.2<=(l.1.length:Int)) (by decide) (by decide) (by show (0:Int)<=_;omega) ?_) λr _=>q_le (λh=>?_) λ_=>law_ok λe=>by cases e
 ·rintro ⟨a,x⟩ h0 h1 h2;have h0:0<=x:=h0;refine law_bind' (R:=λb=>b=true->x < (l.1.length:Int)/\x<=40) (q_lt (λh=>law_ok λe=>⟨h,by rw [ile_true] at e;exact e⟩) λ_=>law_ok λe=>by cases e) λb hb=>law_br (λt=>?_) λ_=>law_ok trivial;obtain ⟨g1,g2⟩:=hb t
  have hx:x.toNat < l.1.length:=by omega
  refine law_idxS h0 hx λ_ _ _=>law_idxS h0 hx λ_ _ _=>law_idxS h0 hx λ_ _ _=>law_ok ⟨rfl,by show x < ((41:Nat):Int);omega,?_⟩;show w6 (x+1)<=(l.1.length:Int);have hw:w6 (x+1)=x+1:=wrap64 (by omega);rw [hw];omega
 ·have h:(l.1.length:Int)<=40:=h
  exact q_le (λ_=>law_ok λ_=>by omega) λ_=>law_ok λe=>by cases e
theorem log_l(l:LogT)(hl:l.1.length<=40):(R.renlaw14_Log l).sat (·=l):=by
 unfold R.renlaw14_Log;refine law_given λ_=>law_bind' (R:=λr:LogT=>r.1=l.1) (q_for (λx:Int×LogT=>x.1) l.1.length (by omega) (λx=>x.2.1=l.1.take x.1.toNat) (Int.le_refl 0) (by show (0:Int)<=_;omega) rfl ?_) λr hr=>law_ok (by show (r.1,l.2)=l;rw [hr]);rintro ⟨x,o⟩ h0 h1 hI;have h0:0<=x:=h0;have h1:x<=(l.1.length:Int):=h1;have hI:o.1=l.1.take x.toNat:=hI;refine q_lt (λhi=>?_) λhi=>law_ok (by have hi:(l.1.length:Int)<=x:=hi;show o.1=l.1;rw [hI,List.take_of_length_le (by omega)]);have hi:x < (l.1.length:Int):=hi;refine law_idx h0 (by show x.toNat < _;omega) λe he _=>law_bind' (R:=(·=e)) (by unfold R.renlaw14_Event;exact law_given λ_=>law_ok rfl) λr hr=>law_given λ_=>?_;subst hr
 have hol:o.1.length<=40:=by rw [hI];simp;omega
 refine law_need (decide_eq_true (by simp;omega)) (law_ok ⟨rfl,hi,?_⟩);show o.1++[r]=l.1.take (w6 (x+1)).toNat;have hw:w6 (x+1)=x+1:=wrap64 (by omega);rw [hw,show (x+1).toNat=x.toNat+1 by omega,List.take_add_one,he,hI];rfl
theorem JudgeCells_law(l:LogT):SafeP (R.renlaw25_JudgeCells l) (·=true):=by
 constructor;unfold R.renlaw25_JudgeCells;refine law_given λ_=>law_bind_eq first_ok (law_f rfl (law_bind' (few_l l) λb hb=>q_not (law_br (λt=>?_) λ_=>law_bind_eq first_ok (law_ok rfl))));have hl:=hb t;refine law_bind' (cells_l hl) λr ⟨r1,r2⟩=>law_given λ_=>law_bind_eq (log_l l hl) (law_given λ_=>law_bind' (cells24_l hl) λr' ⟨r3,r4,hlen⟩=>law_given λ_=>?_);have e:r'=r:=sorted_ext r3 r1 λx=>(r4 x).trans (r2 x).symm;subst e;refine q_not (law_t (beq_self_eq_true _) ?_);refine all_loop (k:=λ_=>bd R.renlaw25_first λr18=>ok r18) r'.length (by omega) (λ_=>True) (λi hi _=>?_) (law_f (by rw [ilt_false];exact Int.le_refl _) (law_ok rfl)) (λ_=>law_bind_eq first_ok (law_ok rfl)) λh=>absurd (λ_ _=>trivial) h
 have idxO:∀ {β:Type}{k:P3->Res β}{Q:β->Prop},(∀ q,r'[i]?=some q->(k q).sat Q)->(need (ile 0 (i:Int) && ilt (i:Int) r'.length) (idx T_cluster_Act r' (0+Int.toNat (i:Int)) k)).sat Q:=by
  intro β k Q h;refine law_need (by rw [Bool.and_eq_true,ile_true,ilt_true];omega) (law_idx (Int.natCast_nonneg _) (by show ((0+Int.toNat (i:Int):Nat):Int).toNat < r'.length;omega) λq hq _=>h q ?_)
  have e:((0+Int.toNat (i:Int):Nat):Int).toNat=i:=by omega
  have hq:r'[((0+Int.toNat (i:Int):Nat):Int).toNat]?=some q:=hq;rw [e] at hq;exact hq
 refine law_t (by rw [ilt_true];omega) (all_br (idxO λq hq=>idxO λq2 h2=>?_));rw [hq] at h2;cases h2;refine q_not (law_t (by simp) (idxO λq2 h2=>idxO λq3 h3=>idxO λq4 h4=>law_bind' (clean_l l _ _ _) λr13 h13=>law_ok ?_));rw [hq] at h2 h3 h4;cases h2;cases h3;cases h4;have hc:r13=true:=h13.2 ((r2 q).1 (List.mem_of_getElem? hq)).2;rw [hc];simp
end Go.Mach

