/-
  A part of the proofs of renlaw25.JudgeErases and renlaw25.JudgeCells: each law returns true for every input of the stated bulk and leaves its arguments as they were; no further condition.
  By an AI agent; no person has read it.
-/
import Derived.Test.YtjfbodbfjhgffaaGreatDoorPjaa
import Derived.Test.YtjfbodbfjhgffaaGreatDoorPjab
import Derived.Maps.RangeRun
import Derived.Scope
import Derived.Control
import Derived.Laws.Sem
import Derived.KernelRfl
import Derived.ChangeArms
import Derived.DataReads
import Derived.ChangeSame
import Derived.OpenShut
import Derived.RowKit
import GoSem.ClaimGoes
set_option linter.all false
set_option linter.deprecated false
namespace Go.Mach
theorem stepV_congr{β:Type}{E:Env}{ρ ρ':Operand->AV}{M:Mem}{o:Oper}{K:AV->Mem->Res β}(h:∀ x∈o.op.operands,ρ x=ρ' x):stepV E ρ M o K=stepV E ρ' M o K:=by
 obtain ⟨dst,op,type,pos,after,guard⟩:=o
 have pairs:∀ ps:Array (Nat×Operand),(∀ x∈(ps.toList.map (·.2)).toArray,ρ x=ρ' x)->(ps.toList.map λp=>(p.1,ρ p.2))=(ps.toList.map λp=>(p.1,ρ' p.2)):=λps hp =>
  List.map_congr_left λp hm=>by
   rw [hp p.2 (by simp only [List.mem_toArray,List.mem_map];exact ⟨p,hm,rfl⟩)]
 cases op<;>simp only [Op.operands] at h<;>simp only [stepV]
 case build t ps=>rw [pairs ps h]
 case buildSlice t n ps=>rw [pairs ps h]
 case makeFunc fn first captured =>
  have h1:captured.toList.map (λx=>(ρ x).cap)=captured.toList.map (λx=>(ρ' x).cap):=List.map_congr_left λx hx=>by rw [h x (by simp;exact .inr (by simpa using hx))]
  have h2:(captured.toList.all λx=>(ρ x).capOk)=(captured.toList.all λx=>(ρ' x).capOk):=by
   rw [Bool.eq_iff_iff];simp only [List.all_eq_true];constructor
   ·intro g x hx;rw [<- h x (by simp;exact .inr (by simpa using hx))];exact g x hx
   ·intro g x hx;rw [h x (by simp;exact .inr (by simpa using hx))];exact g x hx
  cases fn<;>simp only [h1,h2]
 case slice t x lo hi mx =>
  have h0:ρ x=ρ' x:=h x (by simp)
  have h1:lo.map ρ=lo.map ρ':=by cases lo with
   |none=>rfl
   |some y=>simp only [Option.map_some];rw [h y (by simp)]
  have h2:hi.map ρ=hi.map ρ':=by cases hi with
   |none=>rfl
   |some y=>simp only [Option.map_some];rw [h y (by simp)]
  cases mx<;>simp only [h0,h1,h2]
 case call c =>
  have hargs:c.args.toList.map ρ=c.args.toList.map ρ':=List.map_congr_left λx hx=>h x (by simp [Call.operands];exact .inr (by simpa using hx))
  cases hc:c.callee with
  |value f =>
   have hf:ρ f=ρ' f:=h f (by simp [Call.operands,hc])
   cases hi:inlOf E ⟨dst,.call c,type,pos,after,guard⟩ with
   |none=>simp only [hf,hargs]
   |some p =>
    obtain ⟨j,xs⟩:=p;obtain ⟨c',h1,_,rfl,_⟩:=inlOf_spec hi;cases h1;simp only [hargs]
  |invoke r m=>rfl
  |builtin b =>
   cases b<;>simp only [hargs]
   case len =>
    split
    ·rename_i x t ts hx ht;have:ρ x=ρ' x:=h x (by simp [Call.operands];right;rw [<- Array.mem_toList_iff,hx];simp);rw [this]
    ·rfl
   case append =>
    split
    ·rename_i d s T U r hx ht;have h1:ρ d=ρ' d:=h d (by simp [Call.operands];right;rw [<- Array.mem_toList_iff,hx];simp);have h2:ρ s=ρ' s:=h s (by simp [Call.operands];right;rw [<- Array.mem_toList_iff,hx];simp);rw [h1,h2]
    ·rfl
   case copy =>
    split
    ·rename_i d s T r hx ht;have h1:ρ d=ρ' d:=h d (by simp [Call.operands];right;rw [<- Array.mem_toList_iff,hx];simp);have h2:ρ s=ρ' s:=h s (by simp [Call.operands];right;rw [<- Array.mem_toList_iff,hx];simp);rw [h1,h2]
    ·rfl
   case delete =>
    split
    ·rename_i d s T U hx ht;have h1:ρ d=ρ' d:=h d (by simp [Call.operands];right;rw [<- Array.mem_toList_iff,hx];simp);have h2:ρ s=ρ' s:=h s (by simp [Call.operands];right;rw [<- Array.mem_toList_iff,hx];simp);rw [h1,h2]
    ·rfl
 case makeMap t r=>cases r<;>rfl
 case lookup t x i ok =>
  have h0:ρ x=ρ' x:=h x (by simp);have h1:ρ i=ρ' i:=h i (by simp)
  cases ok<;>simp only [h0,h1]
 all_goals (first|rfl|(simp at h;simp only [h]))
theorem maskR_get(l:List Nat):∀ (xs:List Root) (i k:Nat),(maskR l i xs)[k]?=(xs[k]?).map λx=>if l.contains (i+k)=true then x else .dead
 |[],_,k=>by simp [maskR]
 |x::xs,i,0=>by
  simp only [maskR,List.getElem?_cons_zero,Option.map_some,Nat.add_zero]
  cases l.contains i<;>rfl
 |x::xs,i,k+1=>by
  simp only [maskR,List.getElem?_cons_succ]
  rw [maskR_get l xs (i+1) k,show i+1+k=i+(k+1) from by omega]
theorem takeR_get(l:List Nat):∀ (xs ys:List Root) (i k:Nat),xs.length=ys.length->(takeR l i xs ys)[k]?=if l.contains (i+k)=true then ys[k]? else xs[k]?
 |[],[],_,k,_=>by simp [takeR]
 |x::xs,y::ys,i,0,_=>by
  simp only [takeR,List.getElem?_cons_zero,Nat.add_zero]
  cases l.contains i<;>simp
 |x::xs,y::ys,i,k+1,h=>by
  simp only [takeR,List.getElem?_cons_succ]
  rw [takeR_get l xs ys (i+1) k (by simpa using h),show i+1+k=i+(k+1) from by omega]
theorem takeR_length(l:List Nat):∀ (xs ys:List Root) (i:Nat),(takeR l i xs ys).length=xs.length
 |[],_,_=>rfl
 |x::xs,ys,i=>by simp only [takeR,List.length_cons,takeR_length l xs]
def Foot.has:Foot->Nat->Prop
 |some l,r=>l.contains r=true
 |none,_=>True
theorem view_get(m:Mem)(c:Nat)(R:Foot)(r:Nat):(R.has r->(m.view c R).roots[r]?=m.roots[r]?)/\(¬ R.has r->(m.view c R).roots[r]?=(m.roots[r]?).map λ_=>.dead):=by
 cases R with
 |none=>exact ⟨λ_=>rfl,λh=>absurd trivial h⟩
 |some l =>
  have h1:=maskR_get l m.roots 0 r;rw [Nat.zero_add] at h1;refine ⟨λ(h:l.contains r=true)=>?_,λ(h:¬ l.contains r=true)=>?_⟩
  ·show (maskR l 0 m.roots)[r]?=_;rw [h1];simp only [h,if_true,Option.map_id']
  ·show (maskR l 0 m.roots)[r]?=_;rw [h1];simp only [h,if_false];rfl
theorem view_length(m:Mem)(c:Nat)(R:Foot):(m.view c R).roots.length=m.roots.length:=by
 cases R with
 |none=>rfl
 |some l =>
  have:∀ (xs:List Root) (i:Nat),(maskR l i xs).length=xs.length:=by
   intro xs
   induction xs with
   |nil=>intro _;rfl
   |cons x xs ih=>intro i;simp [maskR,ih]
  exact this _ _
theorem over_get{m m1:Mem}(hl:m.roots.length=m1.roots.length)(W:Foot)(r:Nat):(W.has r->(m.over m1 W).roots[r]?=m1.roots[r]?)/\(¬ W.has r->(m.over m1 W).roots[r]?=m.roots[r]?):=by
 cases W with
 |none=>exact ⟨λ_=>rfl,λh=>absurd trivial h⟩
 |some l =>
  cases l with
  |nil=>exact ⟨λh=>by simp [Foot.has] at h,λ_=>rfl⟩
  |cons a l =>
   have h1:=takeR_get (a::l) m.roots m1.roots 0 r hl;rw [Nat.zero_add] at h1;refine ⟨λ(h:(a::l).contains r=true)=>?_,λ(h:¬ (a::l).contains r=true)=>?_⟩
   ·show (takeR (a::l) 0 m.roots m1.roots)[r]?=_;rw [h1,if_pos h]
   ·show (takeR (a::l) 0 m.roots m1.roots)[r]?=_;rw [h1,if_neg h]
theorem over_length{m m1:Mem}(hl:m.roots.length=m1.roots.length)(W:Foot):(m.over m1 W).roots.length=m.roots.length:=by
 cases W with
 |none=>exact hl.symm
 |some l =>
  cases l with
  |nil=>rfl
  |cons a l=>exact takeR_length _ _ _ _
section
variable {B:Base}{E:Env}{w w':World}{Z Z':Nat->Prop}{μ μ1:Locs}
def partBase{m:Mem}(h:MemOk B m w Z μ)(R:Foot):Base:=⟨w,λb=>∃ r,R.has r/\OwnsAt m μ r b,Z,B.Y,B.g,h.glob.1,λb hb=>⟨h.glob.2 b hb,(h.frz b (h.glob.2 b hb)).1,λ⟨r,_,y,ℓ,h1,h2,h3,h4⟩=>(h.own r y ℓ b h1 h2 h3 h4).1 (h.glob.2 b hb)⟩⟩
theorem view_rel{m:Mem}(h:MemOk B m w Z μ)(c:Nat)(R:Foot):MemOk (partBase h R) (m.view c R) w Z μ:=by
 have hv:∀ r x,(m.view c R).roots[r]?=some x->x≠.dead->R.has r/\m.roots[r]?=some x:=by
  intro r x hx hd;by_cases hr:R.has r
  ·exact ⟨hr,by rw [<- (view_get m c R r).1 hr];exact hx⟩
  ·rw [(view_get m c R r).2 hr] at hx
   cases hm:m.roots[r]? with
   |none=>rw [hm] at hx;cases hx
   |some y=>rw [hm] at hx;cases hx;exact absurd rfl hd
 have hdead:∀ {x:Root},x.owns=true->x≠.dead:=by rintro _ h rfl;simp [Root.owns] at h
 refine ⟨λr x hx hd=>h.rt r x (hv r x hx hd).2 hd,λr s x y ℓ ℓ' hrs hx hy hox hoy=>h.dj r s x y ℓ ℓ' hrs (hv r x hx (hdead hox)).2 (hv s y hy (hdead hoy)).2 hox hoy,λr x ℓ b hx ho hl hb=>?_,λb hb=>⟨(h.frz b hb).1,.inl hb⟩,λ_ h=>h,Nat.le_refl _,λ_ _ _=>rfl,λr hr=>h.far r (by rw [view_length] at hr;exact hr),λb hb=>⟨Nat.lt_of_lt_of_le (h.lent b hb).1 h.size,?_⟩,Io.refl _⟩
 ·obtain ⟨h1,h2⟩:=hv r x hx (hdead ho);obtain ⟨h3,h4,_⟩:=h.own r x ℓ b h2 ho hl hb;exact ⟨h3,h4,.inr ⟨r,h1,x,ℓ,h2,ho,hl,hb⟩⟩
 ·rintro ⟨r,_,x,ℓ,h1,h2,h3,h4⟩;have h5:=(h.own r x ℓ b h1 h2 h3 h4).2.2;have h6:=h.lent b hb;rcases h5 with h5|h5
  ·omega
  ·exact h6.2 h5
open Classical in
theorem unmask{m m1 mf:Mem}{R:Foot}(h:MemOk B m w Z μ)(h1:MemOk (partBase h R) m1 w' Z' μ1)(he:ExtL μ μ1)(hz:∀ b,Z b->Z' b)(D:Nat->Prop)
  (hD:∀ r,D r->mf.roots[r]?=m1.roots[r]?\/mf.roots[r]?=some .dead) (hnD:∀ r,¬ D r->mf.roots[r]?=m.roots[r]?/\¬ R.has r) (hl:mf.roots.length=m.roots.length) (hl1:m1.roots.length=m.roots.length)
  (hout:∀ r,¬ D r->μ r=none->μ1 r=none) :
  ∃ μ2,MemOk B mf w' Z' μ2/\ExtL μ1 μ2/\ExtL μ μ2/\∀ r,μ1 r=none->μ r=none->μ2 r=none:=by
 have hdead:∀ {x:Root},x.owns=true->x≠.dead:=by rintro _ h rfl;simp [Root.owns] at h
 let μ2:Locs:=λr=>if D r then μ1 r else μ r
 have hμD:∀ r,D r->μ2 r=μ1 r:=λr h=>if_pos h;have hμN:∀ r,¬ D r->μ2 r=μ r:=λr h=>if_neg h
 have he12:ExtL μ1 μ2:=λr ℓ hr=>by
  by_cases hd:D r
  ·exact ⟨ℓ.S,by rw [hμD r hd,hr]⟩
  ·cases hm:μ r with
   |none=>rw [hout r hd hm] at hr;cases hr
   |some ℓ0 =>
    obtain ⟨S',h2⟩:=he r ℓ0 hm;rw [hr] at h2;cases h2;exact ⟨ℓ0.S,by rw [hμN r hd,hm]⟩
 have hsz:w.heap.size<=w'.heap.size:=h1.size
 have hoff:∀ r x ℓ b,¬ D r->m.roots[r]?=some x->x.owns=true->μ r=some ℓ->ℓ.S b->¬ (partBase h R).A b:=by
  rintro r x ℓ b hd hx ho hl' hb ⟨s,hs,y,ℓ',k1,k2,k3,k4⟩
  have hrs:r≠s:=by rintro rfl;exact (hnD r hd).2 hs
  exact h.dj r s x y ℓ ℓ' hrs hx k1 ho k2 hl' k3 b hb k4
 have hAin:∀ b,(partBase h R).A b->¬ Z b/\b < w.heap.size/\(B.w0.heap.size<=b\/B.A b):=by
  rintro b ⟨s,hs,y,ℓ',k1,k2,k3,k4⟩;exact h.own s y ℓ' b k1 k2 k3 k4
 have hkeep:∀ b,b < w.heap.size->¬ (partBase h R).A b->w'.heap[b]?=w.heap[b]?:=h1.keep
 have hownD:∀ r x ℓ b,D r->mf.roots[r]?=some x->x.owns=true->μ2 r=some ℓ->ℓ.S b->m1.roots[r]?=some x/\μ1 r=some ℓ:=by
  intro r x ℓ b hd hx ho hl' hb;rcases hD r hd with h2|h2
  ·exact ⟨h2▸hx,hμD r hd▸hl'⟩
  ·rw [hx] at h2;cases h2;exact absurd rfl (hdead ho)
 refine ⟨μ2,⟨λr x hx hd=>?_,λr s x y ℓ ℓ' hrs hx hy hox hoy hlr hls b hb hb'=>?_,λr x ℓ b hx ho hl' hb=>?_,λb hb=>?_,λb hb=>hz b (h.frz0 b hb),Nat.le_trans h.size hsz,λb hb hA=>?_,λr hr=>?_,h.lent,h.io.trans h1.io⟩,he12,he.trans he12,λr a b=>?_⟩
 ·by_cases hDr:D r
  ·rcases hD r hDr with h2|h2
   ·rw [h2] at hx;obtain ⟨ℓ,k1,k2⟩:=h1.rt r x hx hd;exact ⟨ℓ,by rw [hμD r hDr];exact k1,k2.mono (SameOn.refl _ _) (λ_ h=>h) (λ_ h=>h) he12⟩
   ·rw [hx] at h2;cases h2;exact absurd rfl hd
  ·obtain ⟨h2,h3⟩:=hnD r hDr;rw [h2] at hx;obtain ⟨ℓ,k1,k2⟩:=h.rt r x hx hd;refine ⟨ℓ,by rw [hμN r hDr];exact k1,?_⟩;have hZ:SameOn Z w w':=λb hb=>hkeep b (h.frz b hb).1 λhA=>(hAin b hA).1 hb;have hY:SameOn B.Y w w':=λb hb=>hkeep b (Nat.lt_of_lt_of_le (h.lent b hb).1 h.size) (h1.lent b hb).2
   cases ho:x.owns with
   |true =>
    refine k2.mono (λb hb=>?_) hz (λ_ h=>h) (he.trans he12);rcases hb with (hb|hb)|hb
    ·exact hZ b hb
    ·exact hY b hb
    ·exact hkeep b (h.own r x ℓ b hx ho k1 hb).2.1 (hoff r x ℓ b hDr hx ho k1 hb)
   |false =>
    exact ((k2.frzS ho (λ_=>False)).mono (w':=w') (Z':=Z') (μ':=μ2) (λb hb=>by
     rcases hb with (hb|hb)|hb
     ·exact hZ b hb
     ·exact hY b hb
     ·exact hb.elim) hz (λ_ h=>h) (he.trans he12)).frzS ho ℓ.S
 ·have cross:∀ {r s:Nat}{x y:Root}{ℓ ℓ':Loc}{b:Nat},D r->¬ D s->mf.roots[r]?=some x->mf.roots[s]?=some y->x.owns=true->y.owns=true->μ2 r=some ℓ->μ2 s=some ℓ'->ℓ.S b->ℓ'.S b->False:=by
   intro r s x y ℓ ℓ' b hr hs hx hy hox hoy hlr hls hb hb';obtain ⟨k1,k2⟩:=hownD r x ℓ b hr hx hox hlr hb;rw [(hnD s hs).1] at hy;rw [hμN s hs] at hls;rcases (h1.own r x ℓ b k1 hox k2 hb).2.2 with k3|k3
   ·have:=(h.own s y ℓ' b hy hoy hls hb').2.1;have k3:w.heap.size<=b:=k3;omega
   ·exact hoff s y ℓ' b hs hy hoy hls hb' k3
  by_cases hr:D r<;>by_cases hs:D s
  ·obtain ⟨k1,k2⟩:=hownD r x ℓ b hr hx hox hlr hb;obtain ⟨k3,k4⟩:=hownD s y ℓ' b hs hy hoy hls hb';exact h1.dj r s x y ℓ ℓ' hrs k1 k3 hox hoy k2 k4 b hb hb'
  ·exact cross hr hs hx hy hox hoy hlr hls hb hb'
  ·exact cross hs hr hy hx hoy hox hls hlr hb' hb
  ·rw [(hnD r hr).1] at hx;rw [(hnD s hs).1] at hy;rw [hμN r hr] at hlr;rw [hμN s hs] at hls;exact h.dj r s x y ℓ ℓ' hrs hx hy hox hoy hlr hls b hb hb'
 ·by_cases hr:D r
  ·obtain ⟨k1,k2⟩:=hownD r x ℓ b hr hx ho hl' hb;obtain ⟨a1,a2,a3⟩:=h1.own r x ℓ b k1 ho k2 hb;refine ⟨a1,a2,?_⟩;rcases a3 with a3|a3
   ·exact .inl (Nat.le_trans h.size a3)
   ·exact (hAin b a3).2.2
  ·rw [(hnD r hr).1] at hx;rw [hμN r hr] at hl';obtain ⟨a1,a2,a3⟩:=h.own r x ℓ b hx ho hl' hb;refine ⟨λhzb=>?_,by omega,a3⟩;obtain ⟨_,a5⟩:=h1.frz b hzb;rcases a5 with a5|a5|a5
   ·exact a1 a5
   ·have a5:w.heap.size<=b:=a5;omega
   ·exact hoff r x ℓ b hr hx ho hl' hb a5
 ·obtain ⟨a4,a5⟩:=h1.frz b hb;refine ⟨a4,?_⟩;rcases a5 with a5|a5|a5
  ·exact (h.frz b a5).2
  ·exact .inr (.inl (Nat.le_trans h.size a5))
  ·exact .inr (hAin b a5).2.2
 ·rw [<- h.keep b hb hA];refine hkeep b (Nat.lt_of_lt_of_le hb h.size) λhA'=>?_;rcases (hAin b hA').2.2 with k|k
  ·omega
  ·exact hA k
 ·rw [hl] at hr;by_cases hd:D r
  ·rw [hμD r hd];exact h1.far r (by rw [hl1];exact hr)
  ·rw [hμN r hd];exact h.far r hr
 ·show (if D r then μ1 r else μ r)=none
  split
  ·exact a
  ·exact b
end
theorem val_eq(s:St)(m:Mem)(l:List Nat):val ⟨s.tmps,m,l⟩=val s:=by
 funext x
 cases x<;>rfl
theorem wp_exists{P:Program}{o:Oper}{a:Act}{w:World}{next:Act->World->Prop}(h:o.wp P a w next (λ_ _ _=>False)):∃ a' w',next a' w':=by
 unfold Oper.wp at h;generalize hq:(execOp a.eval o).run P w=r at h
 cases r with
 |ok n w' =>
  cases n<;>simp only [Oper.upon] at h<;>first
   |exact ⟨_,_,h⟩
   |exact h.elim
   |(obtain ⟨e,w2,fr,hr,_⟩:=h []
     cases e with
     |returned v=>exact ⟨_,_,hr⟩
     |panicked c=>exact hr.elim
     |outgrown=>obtain ⟨_,_,hf⟩:=hr;exact hf.elim)
   |(obtain ⟨v,w2,hr,_⟩:=h default []
     exact ⟨_,_,hr⟩)
 |halt x w'=>cases x<;>simp only [Oper.upon] at h
section
variable {B:Base}{E:Env}{w:World}{Z:Nat->Prop}{μ:Locs}
def NxtD(B:Base)(s':St)(c n:Nat)(Z:Nat->Prop)(μ:Locs)(a':Act)(w':World):Prop :=
 ∃ Z' μ',Rel B s' a' w' Z' μ'/\(∀ b,Z b->Z' b)/\ExtL μ μ'/\∀ r,(r < c\/c+n<=r)->μ r=none->μ' r=none
theorem op_sound{s:St}{o:Oper}{a:Act}(hR:Rel B s a w Z μ)(hE:EnvOk E B.g){c:Nat}{R W:Foot}(hfresh:∀ k,k < newsOf E o->μ (c+k)=none)(hc:c+newsOf E o<=s.mem.roots.length) :
  (stepV E (val s) (s.mem.view c R) o endV).facts /\
  ∀ v m1,(stepV E (val s) (s.mem.view c R) o endV).strip=some (v,m1)->overOk s.mem.roots.length m1 W=true->m1.roots.length=s.mem.roots.length/\o.wp E.P a w (NxtD B (s.with o.dst v (s.mem.over m1 W)) c (newsOf E o) Z μ) (λ_ _ _=>False):=by
 let s0:St:=⟨s.tmps,s.mem.view c R,s.dT⟩
 have hR0:Rel (partBase hR.mem R) s0 a w Z μ:=⟨view_rel hR.mem c R,hR.tm,hR.len,hR.df⟩
 have hF:Fresh s0 (newsOf E o) μ:=λk hk=>by
  have h1:=hfresh k hk;refine ⟨h1,?_⟩
  have hlt:c+k < (s.mem.view c R).roots.length:=by rw [view_length];omega
  show (s.mem.view c R).roots[c+k]?=_
  cases hx:(s.mem.view c R).roots[c+k]? with
  |none=>rw [List.getElem?_eq_none_iff] at hx;omega
  |some x =>
   by_cases hd:x=.dead
   ·rw [hd]
   ·obtain ⟨ℓ,h2,_⟩:=(view_rel hR.mem c R).rt _ x hx hd;rw [h1] at h2;cases h2
 have hstep:∀ {β:Type}(K:St->Res β),step E s0 o K=(stepV E (val s) (s.mem.view c R) o endV).bind λp=>K (s0.with o.dst p.1 p.2):=λK=>by
  unfold step
  rw [show val s0=val s from val_eq s _ _]
  exact stepV_cps E (val s) (s.mem.view c R) o λv m=>K (s0.with o.dst v m)
 constructor
 ·apply Classical.byContradiction;intro hv
  have h1:(step E s0 o Res.ok).sat (λ_=>False):=by rw [hstep];exact Res.bind_sat (Res.sat_of_not_facts hv)
  obtain ⟨a',w',_,_,_,_,hf,_⟩:=wp_exists (step_sound hR0 hE (Nat.le_refl _) hF h1);exact hf
 ·intro v m1 hv hok;obtain ⟨k,hk,ht⟩:=stepV_ends E (val s) (λg=>rfl) (s.mem.view c R) o v m1 hv
  have hl1:m1.roots.length=s.mem.roots.length:=by rw [ht.len,view_length]
  refine ⟨hl1,?_⟩
  have h1:(step E s0 o Res.ok).sat (λs'=>s'=s0.with o.dst v m1):=by rw [hstep];exact Res.bind_sat (Res.strip_sat hv rfl)
  refine Oper.wp_mono ?_ (step_sound hR0 hE (Nat.le_refl _) hF h1);rintro a' w' ⟨st',Z',μ1,hR',rfl,_,_,hout,hz,he⟩
  have hm1:MemOk (partBase hR.mem R) m1 w' Z' μ1:=by
   have:=hR'.mem
   cases hd:o.dst with
   |none=>rw [hd] at this;exact this
   |some d=>rw [hd] at this;exact this
  have hnew:∀ r,(c<=r/\r < c+newsOf E o)->s.mem.roots[r]?=some .dead:=λr hr=>by
   have h2:=hfresh (r-c) (by omega)
   rw [show c+(r-c)=r from by omega] at h2
   cases hx:s.mem.roots[r]? with
   |none=>rw [List.getElem?_eq_none_iff] at hx;omega
   |some x =>
    by_cases hd:x=.dead
    ·rw [hd]
    ·obtain ⟨ℓ,h3,_⟩:=hR.mem.rt r x hx hd;rw [h2] at h3;cases h3
  obtain ⟨μ2,g1,g2,g3,g4⟩:=unmask (mf:=s.mem.over m1 W) hR.mem hm1 he hz (λr=>W.has r\/R.has r\/(c<=r/\r < c+newsOf E o)) (λr hr=>by
    by_cases hW:W.has r
    ·exact .inl ((over_get hl1.symm W r).1 hW)
    ·rw [(over_get hl1.symm W r).2 hW];by_cases hn:c<=r/\r < c+newsOf E o
     ·exact .inr (hnew r hn)
     ·have hRr:R.has r:=by rcases hr with h|h|h;exact absurd h hW;exact h;exact absurd h hn
      left;by_cases hlt:r < s.mem.roots.length
      case neg =>
       rw [List.getElem?_eq_none (by omega),List.getElem?_eq_none (by omega)]
      have hbit:m1.dR.testBit r=false:=by
       cases W with
       |none=>exact absurd trivial hW
       |some l =>
        cases hb:m1.dR.testBit r with
        |false=>rfl
        |true =>
         simp only [overOk,List.all_eq_true,List.mem_range] at hok;have:=hok r hlt;rw [hb] at this;simp at this;exact absurd (by simpa [Foot.has] using this) hW
      rw [ht.same r (by show r < c\/c+k<=r;omega) hbit,(view_get s.mem c R r).1 hRr]) (λr hr=>by
    have hW:¬ W.has r:=λh=>hr (.inl h)
    exact ⟨(over_get hl1.symm W r).2 hW,λh=>hr (.inr (.inl h))⟩) (over_length hl1.symm W) hl1 (λr hr hn=>hout r (by show r < c\/c+newsOf E o<=r;omega) hn)
  have hR2:Rel B ⟨s.tmps,s.mem.over m1 W,s.dT⟩ a w Z μ->True:=λ_=>trivial;refine ⟨Z',μ2,⟨?_,?_,?_,hR'.df⟩,hz,g3,λr hr hn=>g4 r (hout r hr hn) hn⟩
  ·cases hd:o.dst with
   |none=>exact g1
   |some d=>exact g1
  ·intro i x hx
   have hx':(s0.with o.dst v m1).tmps[i]?=some x:=by
    cases hd:o.dst with
    |none=>rw [hd] at hx;exact hx
    |some d=>rw [hd] at hx;exact hx
   exact (hR'.tm i x hx').mono (SameOn.refl _ _) (λ_ h=>h) g2
  ·have:=hR'.len
   cases hd:o.dst with
   |none=>rw [hd] at this;exact this
   |some d=>rw [hd] at this;exact this
end
end Go.Mach

namespace Go.Mach
abbrev Ent:=Option (AV×Foot×Foot×Mem)
namespace Ent
def val:Ent->AV
 |none=>.tup []
 |some e=>e.1
def rd:Ent->Foot
 |none=>some []
 |some e=>e.2.1
def wr:Ent->Foot
 |none=>some []
 |some e=>e.2.2.1
def put(e:Ent)(o:Oper)(s:St):St :=
 match e with
 |none=>s.put o.dst (.tup [])
 |some (v,_,W,m1)=>s.with o.dst v (s.mem.over m1 W)
def fits(e:Ent)(N:Nat):Prop:=∀ v R W m1,e=some (v,R,W,m1)->m1.roots.length=N
def root(e:Ent)(r:Nat):Option Root :=
 match e with
 |none=>none
 |some (_,_,_,m1)=>m1.roots[r]?
theorem put_tmps(e:Ent)(o:Oper)(s:St):(e.put o s).tmps=(match o.dst with|some d=>s.tmps.set d e.val|none=>s.tmps):=by
 cases e with
 |none=>cases h:o.dst<;>simp [put,St.put,h,val]
 |some e=>cases h:o.dst<;>simp [put,St.with,St.put,h,val]
theorem put_dT(e:Ent)(o:Oper)(s:St):(e.put o s).dT=s.dT:=by
 cases e with
 |none=>cases h:o.dst<;>simp [put,St.put,h]
 |some e=>cases h:o.dst<;>simp [put,St.with,St.put,h]
theorem put_roots{e:Ent}{N:Nat}(hf:e.fits N)(o:Oper){s:St}(hs:s.mem.roots.length=N):(e.put o s).mem.roots.length=N/\∀ r,(e.wr.has r->(e.put o s).mem.roots[r]?=e.root r)/\(¬ e.wr.has r->(e.put o s).mem.roots[r]?=s.mem.roots[r]?):=by
 cases e with
 |none =>
  have:(put none o s).mem=s.mem:=by cases h:o.dst<;>simp [put,St.put,h]
  rw [this];exact ⟨hs,λr=>⟨λh=>by simp [wr,Foot.has] at h,λ_=>rfl⟩⟩
 |some e =>
  obtain ⟨v,R,W,m1⟩:=e
  have:(put (some (v,R,W,m1)) o s).mem=s.mem.over m1 W:=by cases h:o.dst<;>simp [put,St.with,St.put,h]
  rw [this]
  have hl:s.mem.roots.length=m1.roots.length:=by rw [hs,hf v R W m1 rfl]
  exact ⟨(over_length hl W).trans hs,λr=>over_get hl W r⟩
end Ent
def stS:List (Oper×Ent)->(Nat->Bool)->Nat->St->St
 |[],_,_,s=>s
 |(o,e)::L,S,i,s=>stS L S (i+1) (match S i with
  |true=>e.put o s
  |false=>s)
theorem stS_append(L1 L2:List (Oper×Ent))(S:Nat->Bool):∀ (i:Nat) (s:St),stS (L1++L2) S i s=stS L2 S (i+L1.length) (stS L1 S i s):=by
 induction L1 with
 |nil=>intro i s;rfl
 |cons p L1 ih =>
  intro i s;obtain ⟨o,e⟩:=p;simp only [List.cons_append,stS,ih,List.length_cons];congr 1;omega
theorem stS_false(L:List (Oper×Ent)):∀ (S:Nat->Bool) (i:Nat) (s:St),(∀ k,k < L.length->S (i+k)=false)->stS L S i s=s:=by
 induction L with
 |nil=>intro _ _ _ _;rfl
 |cons p L ih =>
  intro S i s h;obtain ⟨o,e⟩:=p;have h0:=h 0 (by simp);rw [Nat.add_zero] at h0;simp only [stS,h0]
  exact ih S (i+1) s λk hk=>by have:=h (k+1) (by simpa using hk);rwa [show i+1+k=i+(k+1) from by omega]
theorem stS_slot(d:Nat):∀ (L:List (Oper×Ent)) (S S':Nat->Bool) (i:Nat) (s s':St),s.tmps[d]?=s'.tmps[d]?->s.tmps.length=s'.tmps.length ->
  (∀ k (h:k < L.length),L[k].1.dst=some d->S (i+k)=S' (i+k))->(stS L S i s).tmps[d]?=(stS L S' i s').tmps[d]?/\(stS L S i s).tmps.length=(stS L S' i s').tmps.length
 |[],_,_,_,_,_,h,hl,_=>⟨h,hl⟩
 |(o,e)::L,S,S',i,s,s',h,hl,hk=>by
  simp only [stS]
  have hlen:∀ (b:Bool) (s:St),(match b with|true=>e.put o s|false=>s).tmps.length=s.tmps.length:=by
   intro b s;cases b
   ·rfl
   ·rw [Ent.put_tmps];cases o.dst<;>simp
  refine stS_slot d L S S' (i+1) _ _ ?_ (by rw [hlen,hlen];exact hl) λk hk' hd=>by
   have:=hk (k+1) (by simpa using hk') hd
   rwa [show i+1+k=i+(k+1) from by omega]
  by_cases hd:o.dst=some d
  ·have h0:=hk 0 (by simp) hd;rw [Nat.add_zero] at h0;rw [h0]
   cases S' i with
   |false=>exact h
   |true =>
    simp only [Ent.put_tmps,hd,List.getElem?_set_self',h]
  ·have:∀ (b:Bool) (s:St),(match b with|true=>e.put o s|false=>s).tmps[d]?=s.tmps[d]?:=by
    intro b s;cases b
    ·rfl
    ·rw [Ent.put_tmps]
     cases ho:o.dst with
     |none=>rfl
     |some d' =>
      have hne:d'≠d:=by rintro rfl;exact hd ho
      simp only;rw [List.getElem?_set_ne hne]
   rw [this,this];exact h
theorem stS_root{N:Nat}(r:Nat):∀ (L:List (Oper×Ent)) (S S':Nat->Bool) (i:Nat) (s s':St),(∀ p∈L,p.2.fits N)->s.mem.roots[r]?=s'.mem.roots[r]?->s.mem.roots.length=N->s'.mem.roots.length=N ->
  (∀ k (h:k < L.length),L[k].2.wr.has r->S (i+k)=S' (i+k))->(stS L S i s).mem.roots[r]?=(stS L S' i s').mem.roots[r]?/\(stS L S i s).mem.roots.length=N
 |[],_,_,_,_,_,_,h,hl,_,_=>⟨h,hl⟩
 |(o,e)::L,S,S',i,s,s',hf,h,hl,hl',hk=>by
  simp only [stS];have hfe:=hf (o,e) List.mem_cons_self
  have hlen:∀ (b:Bool) (s:St),s.mem.roots.length=N->(match b with|true=>e.put o s|false=>s).mem.roots.length=N:=by
   intro b s hs;cases b
   ·exact hs
   ·exact (Ent.put_roots hfe o hs).1
  refine stS_root r L S S' (i+1) _ _ (λp hp=>hf p (List.mem_cons_of_mem _ hp)) ?_ (hlen _ _ hl) (hlen _ _ hl') λk hk' hd=>by
   have:=hk (k+1) (by simpa using hk') hd
   rwa [show i+1+k=i+(k+1) from by omega]
  by_cases hd:e.wr.has r
  ·have h0:=hk 0 (by simp) hd;rw [Nat.add_zero] at h0;rw [h0]
   cases S' i with
   |false=>exact h
   |true=>simp only;rw [((Ent.put_roots hfe o hl).2 r).1 hd,((Ent.put_roots hfe o hl').2 r).1 hd]
  ·have:∀ (b:Bool) (s:St),s.mem.roots.length=N->(match b with|true=>e.put o s|false=>s).mem.roots[r]?=s.mem.roots[r]?:=by
    intro b s hs;cases b
    ·rfl
    ·exact ((Ent.put_roots hfe o hs).2 r).2 hd
   rw [this _ _ hl,this _ _ hl'];exact h
theorem stS_len{N:Nat}{L:List (Oper×Ent)}{S:Nat->Bool}{i:Nat}{s:St}(hf:∀ p∈L,p.2.fits N)(hl:s.mem.roots.length=N):(stS L S i s).mem.roots.length=N :=
 (stS_root 0 L S S i s s hf rfl hl hl λ_ _ _=>rfl).2
theorem stS_tlen{L:List (Oper×Ent)}{S S':Nat->Bool}{i:Nat}{s:St}:(stS L S i s).tmps.length=(stS L S' i s).tmps.length:=by
 have h1:∀ (L:List (Oper×Ent)) (S:Nat->Bool) (i:Nat) (s:St),(stS L S i s).tmps.length=s.tmps.length:=by
  intro L
  induction L with
  |nil=>intro _ _ _;rfl
  |cons p L ih =>
   intro S i s;obtain ⟨o,e⟩:=p;simp only [stS];rw [ih];cases S i
   ·rfl
   ·simp only [Ent.put_tmps];cases o.dst<;>simp
 rw [h1,h1]
def Alike(s s':St):Prop:=s.tmps=s'.tmps/\s.mem.roots=s'.mem.roots
theorem Rel.alike{B:Base}{s s':St}{a:Act}{w:World}{Z:Nat->Prop}{μ:Locs}(h:Rel B s a w Z μ)(he:Alike s s'):Rel B s' a w Z μ :=
 ⟨h.mem.congr he.2.symm,λi x hx=>h.tm i x (he.1▸hx),he.1▸h.len,h.df⟩
section
variable {ops:Array Oper}{A:List Nat}
theorem ancOf_bit{A:List Nat}{o:Oper}{i:Nat}(h:(ancOf A o).testBit i=true):∃ e∈o.after.toList,Region.binds .any e=true/\(i=e.on\/((A[e.on]?).getD 0).testBit i=true):=by
 unfold ancOf at h
 have:∀ (l:List Edge) (s:Nat),(l.foldl (λs e=>match Region.binds .any e with|true=>s ||| 2^e.on ||| (A[e.on]?).getD 0|false=>s) s).testBit i=true ->
   s.testBit i=true\/∃ e∈l,Region.binds .any e=true/\(i=e.on\/((A[e.on]?).getD 0).testBit i=true):=by
  intro l
  induction l with
  |nil=>intro s h;exact .inl h
  |cons e l ih =>
   intro s h;rw [List.foldl_cons] at h;rcases ih _ h with h|⟨e',h1,h2⟩
   ·cases hb:Region.binds .any e with
    |false=>rw [hb] at h;exact .inl h
    |true =>
     rw [hb] at h;simp only [Nat.testBit_or,Bool.or_eq_true,Nat.testBit_two_pow,decide_eq_true_eq] at h;rcases h with (h|h)|h
     ·exact .inl h
     ·exact .inr ⟨e,List.mem_cons_self,hb,.inl h.symm⟩
     ·exact .inr ⟨e,List.mem_cons_self,hb,.inr h⟩
   ·exact .inr ⟨e',List.mem_cons_of_mem _ h1,h2⟩
 rcases this _ _ h with h|h
 ·simp at h
 ·exact h
theorem ahead_spec(hA:ancOk ops A=true){i j:Nat}(h:ahead A i j=true):∃ o,ops.toList[j]?=some o->∃ e∈o.after.toList,Region.binds .any e=true/\(i=e.on\/ahead A i e.on=true):=by
 cases ho:ops.toList[j]? with
 |none=>exact ⟨default,λh=>by cases h⟩
 |some o =>
  refine ⟨o,λ_=>?_⟩;unfold ahead at h
  cases ha:A[j]? with
  |none=>rw [ha] at h;simp at h
  |some x =>
   rw [ha] at h;simp only [Option.getD_some] at h
   have hz:(ops.toList.zip A)[j]?=some (o,x):=by rw [List.getElem?_zip_eq_some];exact ⟨ho,ha⟩
   have:=List.all_eq_true.1 hA (o,x) (List.mem_of_getElem? hz);simp only [beq_iff_eq] at this;rw [this] at h;exact ancOf_bit h
def Closed(ops:Array Oper)(S:Nat->Bool):Prop:=∀ j o,ops.toList[j]?=some o->S j=true->∀ e∈o.after.toList,Region.binds .any e=true->S e.on=true
theorem ahead_closed(hA:ancOk ops A=true)(he:edgesOk ops=true){S:Nat->Bool}(hS:Closed ops S):∀ (j:Nat){i:Nat}{o:Oper},ops.toList[j]?=some o->(∀ e∈o.after.toList,Region.binds .any e=true->S e.on=true)->ahead A i j=true->S i=true/\i < j:=by
 intro j
 induction j using Nat.strongRecOn with
 |_ j ih =>
  intro i o ho hall h;obtain ⟨o',h'⟩:=ahead_spec hA h;unfold ahead at h
  have ho':ops.toList[j]?=some o'->o'=o:=λh=>by rw [ho] at h;cases h;rfl
  have hz:∃ e∈o.after.toList,Region.binds .any e=true/\(i=e.on\/ahead A i e.on=true):=by
   cases ha:A[j]? with
   |none=>rw [ha] at h;simp at h
   |some x =>
    rw [ha] at h;simp only [Option.getD_some] at h
    have hz:(ops.toList.zip A)[j]?=some (o,x):=by rw [List.getElem?_zip_eq_some];exact ⟨ho,ha⟩
    have:=List.all_eq_true.1 hA (o,x) (List.mem_of_getElem? hz);simp only [beq_iff_eq] at this;rw [this] at h;exact ancOf_bit h
  obtain ⟨e,e1,e2,e3⟩:=hz
  have hlt:e.on < j:=by
   have hm:(o,j)∈ops.toList.zipIdx:=by
    rw [List.mem_zipIdx_iff_getElem?];exact ho
   have h1:=List.all_eq_true.1 he (o,j) hm;have h2:=List.all_eq_true.1 h1 e e1;simp only [e2,Bool.not_true,Bool.false_or,decide_eq_true_eq] at h2;exact h2
  have hSe:=hall e e1 e2;rcases e3 with e3|e3
  ·subst e3;exact ⟨hSe,hlt⟩
  ·have hlen:j < ops.toList.length:=(List.getElem?_eq_some_iff.1 ho).1;have hoe:ops.toList[e.on]?=some ops.toList[e.on]:=List.getElem?_eq_getElem (by omega);obtain ⟨k1,k2⟩:=ih e.on hlt hoe (λe' he' hb=>hS e.on _ hoe hSe e' he' hb) e3;exact ⟨k1,by omega⟩
end
end Go.Mach

namespace Go.Mach
def cAt(E:Env)(ops:Array Oper)(c0 i:Nat):Nat:=c0+newsAll E (ops.toList.take i)
theorem newsAll_snoc(E:Env)(l:List Oper)(o:Oper):newsAll E (l++[o])=newsAll E l+newsOf E o:=by simp [newsAll]
theorem newsAll_le(E:Env)(l l':List Oper):newsAll E l<=newsAll E (l++l'):=by
 unfold newsAll;rw [List.foldl_append]
 have:∀ (l:List Oper) (n:Nat),n<=l.foldl (λn o=>n+newsOf E o) n:=by
  intro l
  induction l with
  |nil=>intro n;exact Nat.le_refl n
  |cons o l ih=>intro n;exact Nat.le_trans (Nat.le_add_right _ _) (ih _)
 exact this _ _
theorem cAt_succ{E:Env}{ops:Array Oper}{c0 i:Nat}{o:Oper}(h:ops.toList[i]?=some o):cAt E ops c0 (i+1)=cAt E ops c0 i+newsOf E o:=by
 unfold cAt;rw [List.take_succ,h];simp only [Option.toList_some];rw [newsAll_snoc,Nat.add_assoc]
theorem cAt_le{E:Env}{ops:Array Oper}{c0 i j:Nat}(h:i<=j):cAt E ops c0 i<=cAt E ops c0 j:=by
 unfold cAt
 have:ops.toList.take j=ops.toList.take i++(ops.toList.take j).drop i:=by
  conv=>lhs;rw [<- List.take_append_drop i (ops.toList.take j)]
  rw [List.take_take,Nat.min_eq_left h]
 rw [this];have:=newsAll_le E (ops.toList.take i) ((ops.toList.take j).drop i);omega
def sAt(ops:Array Oper)(es:List Ent)(s0:St)(i:Nat):St:=stS (ops.toList.zip es) (λj=>decide (j < i)) 0 s0
def Foot.none'(R W:Foot):Prop:=R=some []/\W=some []
def EntAt(E:Env)(ops:Array Oper)(c0:Nat)(s:St)(o:Oper)(i:Nat):Ent->Prop
 |none=>wantedA ops s o=some false
 |some (v,R,W,m1)=>wantedA ops s o=some true/\(stepV E (val s) (s.mem.view (cAt E ops c0 i) R) o endV).strip=some (v,m1)/\overOk s.mem.roots.length m1 W=true/\m1.roots.length=s.mem.roots.length /\
   (isGuard ops o.dst=true->∃ b,v=.c (.bool b))
structure TrOk (E:Env) (ops:Array Oper) (A:List Nat) (s0:St) (c0:Nat) (es:List Ent):Prop where
 len:es.length<=ops.toList.length
 at_:∀ i (hi:i < es.length) (ho:i < ops.toList.length),EntAt E ops c0 (sAt ops es s0 i) ops.toList[i] i es[i]
 log:∀ j i (hj:j < es.length) (hi:i < es.length),j < i->¬ Foot.none' es[i].rd es[i].wr->¬ Foot.none' es[j].rd es[j].wr ->
  ((es[j].wr.off es[i].rd && (es[i].wr.off es[j].rd && es[i].wr.off es[j].wr)) || ahead A j i)=true
section
variable {E:Env}{ops:Array Oper}{A:List Nat}{s0:St}{c0:Nat}{es:List Ent}
theorem zip_snoc{es:List Ent}{e:Ent}{o:Oper}(h:ops.toList[es.length]?=some o):ops.toList.zip (es++[e])=ops.toList.zip es++[(o,e)]:=by
 have hlt:=(List.getElem?_eq_some_iff.1 h).1
 have hsz:ops.toList.length=ops.size:=by simp
 apply List.ext_getElem?;intro k;rw [List.getElem?_append];simp only [List.length_zip,Nat.min_eq_right (Nat.le_of_lt hlt)];by_cases h1:k < es.length
 ·rw [if_pos h1]
  have h2:k < ops.toList.length:=by omega
  rw [List.getElem?_eq_getElem (by simp;omega),List.getElem?_eq_getElem (by simp;omega)];simp [List.getElem_zip,List.getElem_append_left h1]
 ·rw [if_neg h1];by_cases h2:k=es.length
  ·subst h2;rw [Nat.sub_self];rw [List.getElem?_eq_getElem (by simp;omega)];have:=(List.getElem?_eq_some_iff.1 h).2;simp [List.getElem_zip,this]
  ·rw [List.getElem?_eq_none (by simp;omega),List.getElem?_eq_none (by simp;omega)]
theorem sAt_snoc{e:Ent}{o:Oper}(h:ops.toList[es.length]?=some o){i:Nat}(hi:i<=es.length):sAt ops (es++[e]) s0 i=sAt ops es s0 i:=by
 unfold sAt;rw [zip_snoc h,stS_append];refine stS_false _ _ _ _ λk hk=>?_
 have h1:k=0:=by simpa using hk
 have hlt:=(List.getElem?_eq_some_iff.1 h).1;simp only [List.length_zip,Nat.min_eq_right (Nat.le_of_lt hlt),decide_eq_false_iff_not];omega
theorem stS_congr:∀ (L:List (Oper×Ent)) (S S':Nat->Bool) (i:Nat) (s:St),(∀ k,k < L.length->S (i+k)=S' (i+k))->stS L S i s=stS L S' i s
 |[],_,_,_,_,_=>rfl
 |(o,e)::L,S,S',i,s,h=>by
  have h0:=h 0 (by simp);rw [Nat.add_zero] at h0;simp only [stS,h0]
  exact stS_congr L S S' (i+1) _ λk hk=>by have:=h (k+1) (by simpa using hk);rwa [show i+1+k=i+(k+1) from by omega]
theorem sAt_succ{e:Ent}{o:Oper}(h:ops.toList[es.length]?=some o):sAt ops (es++[e]) s0 (es.length+1)=e.put o (sAt ops es s0 es.length):=by
 have hlt:=(List.getElem?_eq_some_iff.1 h).1;unfold sAt;rw [zip_snoc h,stS_append];simp only [List.length_zip,Nat.min_eq_right (Nat.le_of_lt hlt),stS,Nat.zero_add]
 rw [show (decide (es.length < es.length+1))=true from by simp]
 simp only;congr 1
 exact stS_congr _ _ _ _ _ λk hk=>by simp at hk ⊢;omega
theorem TrOk.fits{N:Nat}(h:TrOk E ops A s0 c0 es)(hN:s0.mem.roots.length=N):∀ p∈ops.toList.zip es,p.2.fits N:=by
 have key:∀ n,n<=es.length->∀ i (hi:i < es.length),i < n->es[i].fits N:=by
  intro n
  induction n with
  |zero=>intro _ i _ h;omega
  |succ n ih =>
   intro hn i hi hin;by_cases hlt:i < n
   ·exact ih (by omega) i hi hlt
   ·have:i=n:=by omega
    subst this;intro v R W m1 he;have ho:i < ops.toList.length:=Nat.lt_of_lt_of_le hi h.len;have h1:=h.at_ i hi ho;rw [he] at h1;rw [h1.2.2.2.1]
    have h2:sAt ops es s0 i=stS (ops.toList.zip (es.take i)) (λj=>decide (j < i)) 0 s0:=by
     unfold sAt
     have hz:ops.toList.zip es=ops.toList.zip (es.take i)++(ops.toList.drop i).zip (es.drop i):=by
      have:(ops.toList.zip (es.take i))=(ops.toList.take i).zip (es.take i):=by
       have hsz:ops.toList.length=ops.size:=by simp
       apply List.ext_getElem (by simp;omega);intro k k1 k2;simp [List.getElem_zip]
      rw [this,<- List.zip_append (by rw [List.length_take,List.length_take];omega),List.take_append_drop,List.take_append_drop]
     rw [hz,stS_append];refine stS_false _ _ _ _ λk hk=>?_;simp only [List.length_zip,List.length_take,decide_eq_false_iff_not];omega
    rw [h2];refine stS_len (N:=N) (λp hp=>?_) hN;obtain ⟨k,hk,rfl⟩:=List.getElem_of_mem hp;simp only [List.length_zip,List.length_take] at hk;simp only [List.getElem_zip,List.getElem_take];exact ih (by omega) k (by omega) (by omega)
 intro p hp;obtain ⟨k,hk,rfl⟩:=List.getElem_of_mem hp;simp only [List.length_zip] at hk;simp only [List.getElem_zip];exact key es.length (Nat.le_refl _) k (by omega) (by omega)
theorem TrOk.snoc{e:Ent}{o:Oper}(h:TrOk E ops A s0 c0 es)(ho:ops.toList[es.length]?=some o)(he:EntAt E ops c0 (sAt ops es s0 es.length) o es.length e)
  (hlog:∀ j (hj:j < es.length),¬ Foot.none' e.rd e.wr->¬ Foot.none' es[j].rd es[j].wr->((es[j].wr.off e.rd && (e.wr.off es[j].rd && e.wr.off es[j].wr)) || ahead A j es.length)=true):TrOk E ops A s0 c0 (es++[e]):=by
 obtain ⟨hlt,hoe⟩:=List.getElem?_eq_some_iff.1 ho;refine ⟨by rw [List.length_append,List.length_singleton];omega,λi hi ho'=>?_,λj i hj hi hji h1 h2=>?_⟩
 ·rw [sAt_snoc ho (by simp at hi;omega)];by_cases hil:i < es.length
  ·rw [List.getElem_append_left hil];exact h.at_ i hil ho'
  ·have:i=es.length:=by simp at hi;omega
   subst this;rw [List.getElem_append_right (Nat.le_refl _)];simp only [Nat.sub_self,List.getElem_cons_zero];rw [hoe];exact he
 ·have hjl:j < es.length:=by simp at hi;omega
  rw [List.getElem_append_left hjl] at h2 ⊢;by_cases hil:i < es.length
  ·rw [List.getElem_append_left hil] at h1 ⊢;exact h.log j i hjl hil hji h1 h2
  ·have:i=es.length:=by simp at hi;omega
   subst this;rw [List.getElem_append_right (Nat.le_refl _)] at h1 ⊢;simp only [Nat.sub_self,List.getElem_cons_zero] at h1 ⊢;exact hlog j hjl h1 h2
variable {β:Type}{Ψ:β->Prop}{K:St->Res β}{B:Base}
theorem guard_sat{ops:Array Oper}{dst:Option Tmp}{st:St}(h:(guardK ops dst st K).sat Ψ):(K st).sat Ψ/\(isGuard ops dst=true->∃ d b,dst=some d/\st.get d=.c (.bool b)):=by
 unfold guardK at h;split at h
 ·rename_i hg;unfold splitK at h
  cases dst with
  |none=>simp [isGuard] at hg
  |some d =>
   simp only at h;split at h
   ·rename_i b hb
    have hput:st.put (some d) (.c (.bool b))=st:=by
     have:st.tmps[d]?=some (.c (.bool b)):=by
      unfold St.get at hb
      cases hx:st.tmps[d]? with
      |none=>rw [hx] at hb;cases hb
      |some x=>rw [hx] at hb;rw [show x=_ from hb]
     obtain ⟨hd,he⟩:=List.getElem?_eq_some_iff.1 this;show (⟨st.tmps.set d (.c (.bool b)),st.mem,st.dT⟩:St)=st
     have:st.tmps.set d (.c (.bool b))=st.tmps:=by rw [<- he,List.set_getElem_self]
     rw [this]
    rcases sat_br h with ⟨rfl,h⟩|⟨rfl,h⟩<;>rw [hput] at h<;>exact ⟨h,λ_=>⟨d,_,rfl,hb⟩⟩
   ·exact h.elim
 ·rename_i hg;exact ⟨h,λh'=>by rw [h'] at hg;cases hg⟩
theorem St.get_put{st:St}{d:Nat}{v:AV}{m:Mem}(h:(∃ b,(st.with (some d) v m).get d=.c (.bool b))):∃ b,v=.c (.bool b):=by
 obtain ⟨b,hb⟩:=h;simp only [St.get,St.with,St.put] at hb;rw [List.getElem?_set_self'] at hb
 cases hx:st.tmps[d]? with
 |none=>rw [hx] at hb;cases hb
 |some x=>rw [hx] at hb;exact ⟨b,hb⟩
theorem execOps_trace(hdr:E.dr=true)(hE:EnvOk E B.g)(hN:c0+newsAll E ops.toList<=s0.mem.roots.length):∀ (rest:List Oper) (es:List Ent) (l:Log){a:Act}{w:World}{Z:Nat->Prop}{μ:Locs},
  rest=ops.toList.drop es.length->TrOk E ops A s0 c0 es->Rel B (sAt ops es s0 es.length) a w Z μ->(∀ r,cAt E ops c0 es.length<=r->r < c0+newsAll E ops.toList->μ r=none) ->
  (∀ j (hj:j < es.length),¬ Foot.none' es[j].rd es[j].wr->(j,es[j].rd,es[j].wr)∈l) ->
  (execOps E ops A rest es.length (cAt E ops c0 es.length) l (sAt ops es s0 es.length) K).sat Ψ ->
  ∃ es',TrOk E ops A s0 c0 es'/\es'.length=ops.toList.length/\(K ⟨(sAt ops es' s0 es'.length).tmps,(sAt ops es' s0 es'.length).mem.at (cAt E ops c0 es'.length),(sAt ops es' s0 es'.length).dT⟩).sat Ψ
 |[],es,l,a,w,Z,μ,hrest,hT,hR,hfree,hlog,h=>by
  have:es.length=ops.toList.length:=by
   have h1:=congrArg List.length hrest;simp only [List.length_nil,List.length_drop] at h1;have:=hT.len;omega
  exact ⟨es,hT,this,h⟩
 |o::rest,es,l,a,w,Z,μ,hrest,hT,hR,hfree,hlog,h=>by
  have ho:ops.toList[es.length]?=some o:=by
   have h1:=congrArg (λl:List Oper=>l[0]?) hrest;simpa using h1.symm
  have hrest':∀ e:Ent,rest=ops.toList.drop (es++[e]).length:=λe=>by
   have h1:=congrArg List.tail hrest;simpa using h1
  have hlt:=(List.getElem?_eq_some_iff.1 ho).1;have hc1:=cAt_succ (E:=E) (c0:=c0) ho
  have hcall:cAt E ops c0 (es.length+1)<=c0+newsAll E ops.toList:=by
   have:=cAt_le (E:=E) (ops:=ops) (c0:=c0) (i:=es.length+1) (j:=ops.toList.length) (by omega);unfold cAt at this ⊢;rw [List.take_length] at this;exact this
  have hslen:(sAt ops es s0 es.length).mem.roots.length=s0.mem.roots.length:=stS_len (hT.fits rfl) rfl;simp only [execOps] at h;split at h
  ·rename_i hw;rw [hdr] at h;simp only at h;split at h
   case h_2=>exact h.elim
   rename_i hfits;generalize hfoot:foot E ⟨(sAt ops es s0 es.length).tmps,(sAt ops es s0 es.length).mem.at (cAt E ops c0 es.length),(sAt ops es s0 es.length).dT⟩ o=f at h hfits;obtain ⟨R,W⟩:=f;rw [stepV_cps] at h;obtain ⟨hop1,hop2⟩:=op_sound (E:=E) (o:=o) (c:=cAt E ops c0 es.length) (R:=R) (W:=W) hR hE (λk hk=>hfree _ (by omega) (by omega)) (by omega);generalize hsv:stepV E (val (sAt ops es s0 es.length)) ((sAt ops es s0 es.length).mem.view (cAt E ops c0 es.length) R) o endV=r at h hop1 hop2;obtain ⟨⟨v,m1⟩,hp,h⟩:=Res.facts_sat (sat_bind h) hop1;simp only at h;split at h
   case h_2=>exact h.elim
   rename_i hok;obtain ⟨h,hg⟩:=guard_sat h;obtain ⟨hl1,hwp⟩:=hop2 v m1 hp hok;obtain ⟨a',w',Z',μ',hR',hzz,hext,hout⟩:=wp_exists hwp
   have hEnt:EntAt E ops c0 (sAt ops es s0 es.length) o es.length (some (v,R,W,m1)):=⟨hw,hsv▸hp,hok,hl1,λhgd=>by
    obtain ⟨d,b,hd,hb⟩:=hg hgd;rw [hd] at hb
    exact St.get_put ⟨b,hb⟩⟩
   have hput:Ent.put (some (v,R,W,m1)) o (sAt ops es s0 es.length)=(sAt ops es s0 es.length).with o.dst v ((sAt ops es s0 es.length).mem.over m1 W):=rfl
   have hT':=hT.snoc (e:=some (v,R,W,m1)) ho hEnt λj hj hn1 hn2=>by
    have hm:=hlog j hj hn2;have hn1:¬ (R=some []/\W=some []):=hn1;unfold logFits at hfits;split at hfits
    ·rename_i heq;cases heq;exact absurd ⟨rfl,rfl⟩ hn1
    ·have:=List.all_eq_true.1 hfits _ hm;exact this
   have hsnoc:=sAt_succ (s0:=s0) (e:=some (v,R,W,m1)) ho;rw [<- hput,<- hsnoc,<- hc1] at h
   have hlen':(es++[some (v,R,W,m1)]).length=es.length+1:=by simp
   rw [<- hlen'] at h hc1;refine execOps_trace hdr hE hN rest (es++[some (v,R,W,m1)]) _ (hrest' _) hT' (by rw [hlen',hsnoc,hput];exact hR') (λr h1 h2=>hout r (by omega) (hfree r (by omega) h2)) (λj hj hn=>?_) h;by_cases hjl:j < es.length
   ·rw [List.getElem_append_left hjl] at hn ⊢;have:=hlog j hjl hn;unfold logPut;split
    ·exact this
    ·exact List.mem_cons_of_mem _ this
   ·have hje:j=es.length:=by simp at hj;omega
    subst hje;rw [List.getElem_append_right (Nat.le_refl _)] at hn ⊢;simp only [Nat.sub_self,List.getElem_cons_zero] at hn ⊢;have hn:¬ (R=some []/\W=some []):=hn;unfold logPut;split
    ·rename_i heq;cases heq;exact absurd ⟨rfl,rfl⟩ hn
    ·exact List.mem_cons_self
  ·rename_i hw;have hT':=hT.snoc (e:=none) ho hw λj hj hn1=>absurd ⟨rfl,rfl⟩ hn1;have hsnoc:=sAt_succ (s0:=s0) (e:=none) ho;have hput:Ent.put none o (sAt ops es s0 es.length)=(sAt ops es s0 es.length).put o.dst (.tup []):=rfl;rw [<- hput,<- hsnoc,<- hc1] at h
   have hlen':(es++[(none:Ent)]).length=es.length+1:=by simp
   rw [<- hlen'] at h hc1;have hR':Rel B ((sAt ops es s0 es.length).put o.dst (.tup [])) (a.put o.dst Go.undef) w Z μ:=hR.put0 o.dst ⟨[],rfl,rfl,λk h=>by simp at h⟩;refine execOps_trace hdr hE hN rest (es++[none]) _ (hrest' _) hT' (by rw [hlen',hsnoc,hput];exact hR') (λr h1 h2=>hfree r (by omega) h2) (λj hj hn=>?_) h;by_cases hjl:j < es.length
   ·rw [List.getElem_append_left hjl] at hn ⊢;exact hlog j hjl hn
   ·have hje:j=es.length:=by simp at hj;omega
    subst hje;rw [List.getElem_append_right (Nat.le_refl _)] at hn;simp only [Nat.sub_self,List.getElem_cons_zero] at hn;exact absurd ⟨rfl,rfl⟩ hn
  ·exact h.elim
end
end Go.Mach

namespace Go.Mach
theorem Oper.wp_any{P:Program}{o:Oper}{a:Act}{w:World}{K:Act->World->Prop}{Q:Exit->Act->World->Prop}(hh:o.wp P a w K (λ_ _ _=>False)):o.wp P a w K Q:=by
 unfold Oper.wp at *;generalize (execOp a.eval o).run P w=r at *
 cases r with
 |ok n w' =>
  cases n<;>simp only [Oper.upon] at hh ⊢<;>first
   |exact hh
   |exact Calls.mono hh (λe w'' he=>by
     cases e with
     |returned v=>exact he
     |panicked c=>exact he.elim
     |outgrown=>exact (by obtain ⟨_,_,hf⟩:=he;exact hf.elim))
 |halt x w'=>cases x<;>simp only [Oper.upon] at hh ⊢
theorem Rel.drew{B:Base}{s:St}{a:Act}{w:World}{Z:Nat->Prop}{μ:Locs}(h:Rel B s a w Z μ):Rel B s a { w with drawn:=w.drawn+1 } Z μ:=by
 have hL:Loose B s.mem w Z μ (λ_=>False):=⟨λ_ h=>h.elim,λ_ _ h=>h.elim⟩;have hs0:SameOn Z w { w with drawn:=w.drawn+1 }:=λ_ _=>rfl;have h1:=(world_step (w':={ w with drawn:=w.drawn+1 }) h.mem hL (λ_ _ _=>rfl) (Nat.le_refl _)).1;exact ⟨h1,λi x hx=>(h.tm i x hx).mono hs0 (λ_ h=>h) (ExtL.refl μ),h.len,h.df⟩
theorem wanted_rel{B:Base}{ops:Array Oper}{o:Oper}{s:St}{a:Act}{w:World}{Z:Nat->Prop}{μ:Locs}(h:Rel B s a w Z μ){b:Bool}(hw:wantedA ops s o=some b) :
  Region.wanted o (yielded ops a.tmps)=b:=by
 unfold wantedA at hw;unfold Region.wanted
 cases hg:o.guard with
 |none=>rw [hg] at hw;simp only [Option.some.injEq] at hw;simp [<- hw]
 |some gw =>
  obtain ⟨j,want⟩:=gw;rw [hg] at hw;simp only at hw;split at hw
  case h_2=>cases hw
  rename_i p hp;split at hw
  case h_2=>cases hw
  rename_i d hd;have hr:=h.get d
  have hy:yielded ops a.tmps j=match a.tmps.getD d undef with|.bool b=>some b|_=>none:=by
   unfold yielded;rw [hp];simp only [Option.bind_some,hd];rw [Array.getD_eq_getD_getElem?]
   cases hx:a.tmps[d]? with
   |none=>rfl
   |some v=>cases v<;>rfl
  simp only [hy];split at hw
  ·rename_i t ht;rw [ht] at hr;have hr:a.tmps.getD d undef=.bool t:=hr;rw [hr];simp only [Option.some.injEq] at hw;rw [<- hw]
   cases t<;>cases want<;>rfl
  ·rename_i l ht;rw [ht] at hr;obtain ⟨vs,hr,_⟩:=hr;rw [hr];simp only [Option.some.injEq] at hw;rw [<- hw]
   cases want<;>rfl
  ·cases hw
section
variable {E:Env}{ops:Array Oper}{A:List Nat}{s0:St}{c0:Nat}{es:List Ent}
structure Apart (ops:Array Oper) (o p:Oper) (e f:Ent):Prop where
 slot:∀ d,p.dst=some d->d ∉ o.looksAt ops/\o.dst≠some d
 root:∀ r,f.wr.has r->¬ e.rd.has r/\¬ e.wr.has r
theorem Foot.off_spec{a b:Foot}(h:a.off b=true){r:Nat}(ha:a.has r):¬ b.has r:=by
 unfold Foot.off at h;split at h
 ·intro hb;have h1:=List.all_eq_true.1 h r (by simpa [Foot.has] using ha);have hb:List.contains _ r=true:=hb;rw [hb] at h1;cases h1
 ·simp [Foot.has] at ha
 ·intro hb;simp [Foot.has] at hb
 ·cases h
theorem apart_of(hT:TrOk E ops A s0 c0 es)(hes:es.length=ops.toList.length)(he:edgesOk ops=true)(hA:ancOk ops A=true)(hs:slotsAll ops A=true){S:Nat->Bool}(hS:Closed ops S){i j:Nat}(hi:i < ops.toList.length)(hj:j < ops.toList.length)
  (hSi:S i=false) (hready:∀ e∈ops.toList[i].after.toList,Region.binds .any e=true->S e.on=true) (hij:j≠i) (hne:S j≠decide (j < i)) :
  Apart ops ops.toList[i] ops.toList[j] es[i] es[j]:=by
 have hoi:ops.toList[i]?=some ops.toList[i]:=List.getElem?_eq_getElem hi;have hoj:ops.toList[j]?=some ops.toList[j]:=List.getElem?_eq_getElem hj
 have h1:ahead A j i=false:=by
  cases h:ahead A j i with
  |false=>rfl
  |true =>
   obtain ⟨h2,h3⟩:=ahead_closed hA he hS i hoi hready h;rw [h2] at hne;simp [h3] at hne
 have h2:ahead A i j=false:=by
  cases h:ahead A i j with
  |false=>rfl
  |true =>
   have hlt:i < j:=(ahead_closed hA he (S:=λ_=>true) (λ_ _ _ _ _ _ _=>rfl) j hoj (λ_ _ _=>rfl) h).2
   cases hSj:S j with
   |true =>
    have:=(ahead_closed hA he hS j hoj (λe he' hb=>hS j _ hoj hSj e he' hb) h).1;rw [hSi] at this;cases this
   |false =>
    rw [hSj] at hne;simp at hne;omega
 refine ⟨λd hd=>?_,λr hr=>?_⟩
 ·have hm1:(ops.toList[i],i)∈ops.toList.zipIdx:=by rw [List.mem_zipIdx_iff_getElem?];exact hoi
  have hm2:(ops.toList[j],j)∈ops.toList.zipIdx:=by rw [List.mem_zipIdx_iff_getElem?];exact hoj
  have h3:=List.all_eq_true.1 (List.all_eq_true.1 hs _ hm1) _ hm2;simp only [slotsOk] at h3
  have hbeq:(j == i)=false:=by simpa using hij
  rw [hbeq] at h3;simp only [hd,h1,h2,Bool.or_self] at h3
  cases h4:((ops.toList[i].looksAt ops).contains d || ops.toList[i].dst == some d) with
  |true=>rw [h4] at h3;cases h3
  |false =>
   simp only [Bool.or_eq_false_iff,List.contains_eq_mem,decide_eq_false_iff_not,beq_eq_false_iff_ne] at h4;exact h4
 ·by_cases n1:Foot.none' es[i].rd es[i].wr
  ·obtain ⟨n2,n3⟩:=n1;rw [n2,n3];exact ⟨by simp [Foot.has],by simp [Foot.has]⟩
  by_cases n2:Foot.none' es[j].rd es[j].wr
  ·obtain ⟨_,n3⟩:=n2;rw [n3] at hr;simp [Foot.has] at hr
  rcases Nat.lt_or_gt_of_ne hij with hlt|hlt
  ·have h3:=hT.log j i (by omega) (by omega) hlt n1 n2;rw [h1,Bool.or_false,Bool.and_eq_true,Bool.and_eq_true] at h3;exact ⟨Foot.off_spec h3.1 hr,λhh=>Foot.off_spec h3.2.2 hh hr⟩
  ·have h3:=hT.log i j (by omega) (by omega) hlt n2 n1;rw [h2,Bool.or_false,Bool.and_eq_true,Bool.and_eq_true] at h3;exact ⟨Foot.off_spec h3.2.1 hr,Foot.off_spec h3.2.2 hr⟩
end
end Go.Mach

namespace Go.Mach
theorem val_slot{s s':St}{x:Operand}(h:∀ t,x=.tmp t->s.tmps[t]?=s'.tmps[t]?):val s x=val s' x:=by
 cases x with
 |tmp t=>simp only [val,St.get,h t rfl]
 |_=>rfl
def addS(S:Nat->Bool)(i:Nat):Nat->Bool:=λj=>S j || j == i
section
variable {E:Env}{ops:Array Oper}{A:List Nat}{s0:St}{c0:Nat}{es:List Ent}
theorem view_eq{m m':Mem}(hl:m.roots.length=m'.roots.length)(c:Nat)(R:Foot)(h:∀ r,R.has r->m.roots[r]?=m'.roots[r]?):m.view c R=m'.view c R:=by
 have:(m.mask R).roots=(m'.mask R).roots:=by
  apply List.ext_getElem?;intro r;have h1:=view_get m c R r;have h2:=view_get m' c R r;by_cases hr:R.has r
  ·exact (h1.1 hr).trans ((h r hr).trans (h2.1 hr).symm)
  ·refine (h1.2 hr).trans (.trans ?_ (h2.2 hr).symm);by_cases hlt:r < m.roots.length
   ·rw [List.getElem?_eq_getElem hlt,List.getElem?_eq_getElem (by omega)];rfl
   ·rw [List.getElem?_eq_none (by omega),List.getElem?_eq_none (by omega)]
 unfold Mem.view;rw [this]
variable (hT:TrOk E ops A s0 c0 es) (hes:es.length=ops.toList.length) (he:edgesOk ops=true) (hA:ancOk ops A=true) (hs:slotsAll ops A=true)
 {S:Nat->Bool}(hS:Closed ops S){i:Nat}(hi:i < ops.toList.length) (hSi:S i=false) (hready:∀ e∈ops.toList[i].after.toList,Region.binds .any e=true->S e.on=true)
theorem zip_get(hes:es.length=ops.toList.length){k:Nat}(hk:k < (ops.toList.zip es).length):k < ops.toList.length/\∃ (h:k < ops.toList.length) (h':k < es.length),(ops.toList.zip es)[k]=(ops.toList[k],es[k]):=by
 have h1:k < ops.toList.length:=by rw [List.length_zip] at hk;omega
 have h2:k < es.length:=by omega
 exact ⟨h1,h1,h2,List.getElem_zip⟩
include hT hes he hA hs hS hSi hready
theorem slot_eq{d:Nat}(hd:d∈ops.toList[i].looksAt ops)(hii:∀ h:i < ops.toList.length,ops.toList[i].dst=some d->False):(stS (ops.toList.zip es) S 0 s0).tmps[d]?=(sAt ops es s0 i).tmps[d]?:=by
 refine (stS_slot d _ _ _ 0 s0 s0 rfl rfl λk hk hkd=>?_).1;obtain ⟨h1,_,h2,h3⟩:=zip_get hes hk;rw [h3] at hkd;rw [Nat.zero_add];by_cases hki:k=i
 ·subst hki;exact (hii hi hkd).elim
 ·by_cases hne:S k=decide (k < i)
  ·exact hne
  ·exact absurd hd ((apart_of hT hes he hA hs hS hi h1 hSi hready hki hne).slot d hkd).1
theorem slot_eq'{d:Nat}(hd:d∈ops.toList[i].looksAt ops):(stS (ops.toList.zip es) S 0 s0).tmps[d]?=(sAt ops es s0 i).tmps[d]?:=by
 refine (stS_slot d _ _ _ 0 s0 s0 rfl rfl λk hk hkd=>?_).1;obtain ⟨h1,_,h2,h3⟩:=zip_get hes hk;rw [h3] at hkd;rw [Nat.zero_add];by_cases hki:k=i
 ·subst hki;rw [hSi];simp
 ·by_cases hne:S k=decide (k < i)
  ·exact hne
  ·exact absurd hd ((apart_of hT hes he hA hs hS hi h1 hSi hready hki hne).slot d hkd).1
theorem root_eq(hi':i < es.length){r:Nat}(hr:es[i].rd.has r):(stS (ops.toList.zip es) S 0 s0).mem.roots[r]?=(sAt ops es s0 i).mem.roots[r]?:=by
 refine (stS_root r _ _ _ 0 s0 s0 (hT.fits rfl) rfl rfl rfl λk hk hkd=>?_).1;obtain ⟨h1,_,h2,h3⟩:=zip_get hes hk;rw [h3] at hkd;rw [Nat.zero_add];by_cases hki:k=i
 ·subst hki;rw [hSi];simp
 ·by_cases hne:S k=decide (k < i)
  ·exact hne
  ·exact absurd hr ((apart_of hT hes he hA hs hS hi h1 hSi hready hki hne).root r hkd).1
theorem val_eqS{x:Operand}(hx:x∈ops.toList[i].op.operands):val (stS (ops.toList.zip es) S 0 s0) x=val (sAt ops es s0 i) x :=
 val_slot λt ht=>slot_eq' hT hes he hA hs hS hi hSi hready (by
  subst ht
  exact List.mem_append_left _ (List.mem_filterMap.2 ⟨.tmp t,by simpa using hx,rfl⟩))
theorem wanted_eqS:wantedA ops (stS (ops.toList.zip es) S 0 s0) ops.toList[i]=wantedA ops (sAt ops es s0 i) ops.toList[i]:=by
 have key:∀ d,d∈ops.toList[i].looksAt ops->(stS (ops.toList.zip es) S 0 s0).get d=(sAt ops es s0 i).get d:=λd hd=>by
  unfold St.get;rw [slot_eq' hT hes he hA hs hS hi hSi hready hd]
 unfold wantedA
 cases hg:ops.toList[i].guard with
 |none=>rfl
 |some gw =>
  obtain ⟨j,want⟩:=gw;simp only
  cases hp:ops[j]? with
  |none=>rfl
  |some p =>
   simp only
   cases hd:p.dst with
   |none=>rfl
   |some d =>
    simp only
    rw [key d (by
     unfold Oper.looksAt;rw [hg];refine List.mem_append_right _ ?_
     simp [hp,hd])]
theorem put_alike(hi':i < es.length):Alike (es[i].put ops.toList[i] (stS (ops.toList.zip es) S 0 s0)) (stS (ops.toList.zip es) (addS S i) 0 s0):=by
 have hsz:ops.toList.length=ops.size:=by simp
 have hfits:=hT.fits (N:=s0.mem.roots.length) rfl
 have hz:ops.toList.zip es=(ops.toList.take i).zip (es.take i)++(ops.toList[i],es[i])::(ops.toList.drop (i+1)).zip (es.drop (i+1)):=by
  have h1:ops.toList=ops.toList.take i++ops.toList[i]::ops.toList.drop (i+1):=by
   rw [List.getElem_cons_drop,List.take_append_drop]
  have h2:es=es.take i++es[i]::es.drop (i+1):=by
   rw [List.getElem_cons_drop,List.take_append_drop]
  conv=>lhs;rw [h1,h2]
  rw [List.zip_append (by rw [List.length_take,List.length_take];omega),List.zip_cons_cons]
 generalize hL1:(ops.toList.take i).zip (es.take i)=L1 at hz;generalize hL2:(ops.toList.drop (i+1)).zip (es.drop (i+1))=L2 at hz
 have hl1:L1.length=i:=by rw [<- hL1,List.length_zip,List.length_take,List.length_take];omega
 let X:St:=stS L1 S 0 s0
 have hLS:stS (ops.toList.zip es) S 0 s0=stS L2 S (i+1) X:=by
  rw [hz,stS_append];simp only [stS,Nat.zero_add,hl1,hSi];rfl
 have hLS':stS (ops.toList.zip es) (addS S i) 0 s0=stS L2 S (i+1) (es[i].put ops.toList[i] X):=by
  rw [hz,stS_append]
  have hb:addS S i i=true:=by simp [addS]
  simp only [stS,Nat.zero_add,hl1,hb]
  rw [stS_congr L1 (addS S i) S 0 s0 (λk hk=>by
   rw [Nat.zero_add];unfold addS
   have:(k == i)=false:=by simp;omega
   rw [this,Bool.or_false])]
  exact stS_congr L2 (addS S i) S (i+1) _ (λk hk=>by
   unfold addS
   have:(i+1+k == i)=false:=by simp;omega
   rw [this,Bool.or_false])
 have hfL2:∀ p∈L2,p.2.fits s0.mem.roots.length:=λp hp=>hfits p (by rw [hz];simp [hp]);have hfe:es[i].fits s0.mem.roots.length:=hfits (ops.toList[i],es[i]) (by rw [hz];simp);have hXl:X.mem.roots.length=s0.mem.roots.length:=stS_len (λp hp=>hfits p (by rw [hz];simp [hp])) rfl
 have hap:∀ k (hk:k < L2.length),S (i+1+k)=true->Apart ops ops.toList[i] L2[k].1 es[i] L2[k].2:=by
  intro k hk hSk
  have hk':i+1+k < ops.toList.length:=by rw [<- hL2,List.length_zip,List.length_drop] at hk;omega
  have h2:L2[k]=(ops.toList[i+1+k],es[i+1+k]):=by
   have h3:L2[k]?=some (ops.toList[i+1+k],es[i+1+k]):=by
    rw [<- hL2,List.getElem?_zip_eq_some];simp only [List.getElem?_drop];exact ⟨List.getElem?_eq_getElem hk',List.getElem?_eq_getElem (by omega)⟩
   rw [List.getElem?_eq_getElem hk] at h3;exact Option.some.inj h3
  rw [h2];exact apart_of hT hes he hA hs hS hi hk' hSi hready (by omega) (by rw [hSk];simp;omega)
 have htl:∀ {Y Y':St},Y.tmps.length=Y'.tmps.length->(stS L2 S (i+1) Y).tmps.length=Y'.tmps.length:=by
  intro Y Y' h;have h1:=stS_tlen (L:=L2) (S:=S) (S':=λ_=>false) (i:=i+1) (s:=Y);rw [h1,stS_false L2 (λ_=>false) (i+1) _ (λ_ _=>rfl)];exact h
 have hpl:(es[i].put ops.toList[i] X).tmps.length=X.tmps.length:=by rw [Ent.put_tmps];cases ops.toList[i].dst<;>simp
 rw [hLS,hLS'];constructor
 ·apply List.ext_getElem?;intro d;by_cases hd:ops.toList[i].dst=some d
  ·have h1:=(stS_slot d L2 S (λ_=>false) (i+1) (es[i].put ops.toList[i] X) (es[i].put ops.toList[i] X) rfl rfl λk hk hkd=>by
    cases hSk:S (i+1+k) with
    |false=>rfl
    |true=>exact absurd hd ((hap k hk hSk).slot d hkd).2).1
   rw [h1,stS_false L2 (λ_=>false) (i+1) _ (λ_ _=>rfl)];simp only [Ent.put_tmps,hd];have hl:=htl (Y:=X) (Y':=X) rfl;by_cases hlt:d < X.tmps.length
   ·rw [List.getElem?_set_self (by omega),List.getElem?_set_self hlt]
   ·rw [List.getElem?_eq_none (by rw [List.length_set];omega),List.getElem?_eq_none (by rw [List.length_set];omega)]
  ·have hput:∀ Y:St,(es[i].put ops.toList[i] Y).tmps[d]?=Y.tmps[d]?:=λY=>by
    rw [Ent.put_tmps]
    cases ho:ops.toList[i].dst with
    |none=>rfl
    |some d' =>
     have hne:d'≠d:=by rintro rfl;exact hd ho
     simp only;rw [List.getElem?_set_ne hne]
   rw [hput];exact (stS_slot d L2 S S (i+1) X (es[i].put ops.toList[i] X) (hput X).symm hpl.symm λ_ _ _=>rfl).1
 ·apply List.ext_getElem?;intro r;have hX2:(stS L2 S (i+1) X).mem.roots.length=s0.mem.roots.length:=stS_len hfL2 hXl;obtain ⟨hp1,hp2⟩:=Ent.put_roots hfe ops.toList[i] hXl;by_cases hr:es[i].wr.has r
  ·rw [((Ent.put_roots hfe ops.toList[i] hX2).2 r).1 hr]
   have h1:=(stS_root r L2 S (λ_=>false) (i+1) (es[i].put ops.toList[i] X) (es[i].put ops.toList[i] X) hfL2 rfl hp1 hp1 λk hk hkd=>by
    cases hSk:S (i+1+k) with
    |false=>rfl
    |true=>exact absurd hr ((hap k hk hSk).root r hkd).2).1
   rw [h1,stS_false L2 (λ_=>false) (i+1) _ (λ_ _=>rfl),(hp2 r).1 hr]
  ·rw [((Ent.put_roots hfe ops.toList[i] hX2).2 r).2 hr];exact (stS_root r L2 S S (i+1) X (es[i].put ops.toList[i] X) hfL2 ((hp2 r).2 hr).symm hXl hp1 λ_ _ _=>rfl).1
end
end Go.Mach

namespace Go.Mach
section
variable {B:Base}{E:Env}{ops:Array Oper}{A:List Nat}{s0:St}{c0:Nat}{es:List Ent}
def InvD(B:Base)(E:Env)(ops:Array Oper)(s0:St)(c0:Nat)(es:List Ent)(Z0:Nat->Prop)(μ0:Locs)(S:Nat->Bool)(a:Act)(w:World):Prop :=
 ∃ Z μ,Rel B (stS (ops.toList.zip es) S 0 s0) a w Z μ/\(∀ b,Z0 b->Z b)/\ExtL μ0 μ/\(∀ r,(r < c0\/c0+newsAll E ops.toList<=r)->μ0 r=none->μ r=none) /\
  ∀ i,i < ops.toList.length->S i=false->∀ r,cAt E ops c0 i<=r->r < cAt E ops c0 (i+1)->μ r=none
variable {Z0:Nat->Prop}{μ0:Locs}
theorem InvD.step{Q:Exit->Act->World->Prop}(hE:EnvOk E B.g)(hN:c0+newsAll E ops.toList<=s0.mem.roots.length)(hT:TrOk E ops A s0 c0 es)(hes:es.length=ops.toList.length)(he:edgesOk ops=true)(hA:ancOk ops A=true)(hs:slotsAll ops A=true)
  {S:Nat->Bool}(hS:Closed ops S){i:Nat}(hi:i < ops.toList.length) (hSi:S i=false) (hready:∀ e∈ops.toList[i].after.toList,Region.binds .any e=true->S e.on=true){a:Act}{w:World}(h:InvD B E ops s0 c0 es Z0 μ0 S a w)
  {K:Act->World->Prop}(hK:∀ a w,InvD B E ops s0 c0 es Z0 μ0 (addS S i) a w->K a w):wpOp E.P ops Q i K a w:=by
 obtain ⟨Z,μ,hR,hz,hm,hfar,hfree⟩:=h
 have hi':i < es.length:=by omega
 have hsz:ops.toList.length=ops.size:=by simp
 have ho:ops[i]?=some ops.toList[i]:=by
  have:ops.toList[i]?=some ops.toList[i]:=List.getElem?_eq_getElem hi;simpa using this
 have hcs:=cAt_succ (E:=E) (c0:=c0) (List.getElem?_eq_getElem hi:ops.toList[i]?=some ops.toList[i])
 have hcall:cAt E ops c0 (i+1)<=c0+newsAll E ops.toList:=by
  have:=cAt_le (E:=E) (ops:=ops) (c0:=c0) (i:=i+1) (j:=ops.toList.length) (by omega);unfold cAt at this ⊢;rw [List.take_length] at this;exact this
 have hc0:c0<=cAt E ops c0 i:=Nat.le_add_right _ _;have hlen:(stS (ops.toList.zip es) S 0 s0).mem.roots.length=s0.mem.roots.length:=stS_len (hT.fits rfl) rfl;have hlen':(sAt ops es s0 i).mem.roots.length=s0.mem.roots.length:=stS_len (hT.fits rfl) rfl;have hal:=put_alike hT hes he hA hs hS hi hSi hready hi';have hat:=hT.at_ i hi' hi;have hweq:=wanted_eqS hT hes he hA hs hS hi hSi hready
 have hrest:∀ (μ':Locs),(∀ r,(r < cAt E ops c0 i\/cAt E ops c0 (i+1)<=r)->μ r=none->μ' r=none) ->
   (∀ r,(r < c0\/c0+newsAll E ops.toList<=r)->μ0 r=none->μ' r=none)/\∀ j,j < ops.toList.length->addS S i j=false->∀ r,cAt E ops c0 j<=r->r < cAt E ops c0 (j+1)->μ' r=none:=by
  intro μ' hout;refine ⟨λr hr h0=>hout r (by omega) (hfar r hr h0),λj hj hSj r h1 h2=>?_⟩;simp only [addS,Bool.or_eq_false_iff,beq_eq_false_iff_ne] at hSj;refine hout r ?_ (hfree j hj hSj.1 r h1 h2);rcases Nat.lt_or_gt_of_ne hSj.2 with hlt|hlt
  ·have:=cAt_le (E:=E) (ops:=ops) (c0:=c0) (i:=j+1) (j:=i) (by omega);omega
  ·have:=cAt_le (E:=E) (ops:=ops) (c0:=c0) (i:=i+1) (j:=j) (by omega);omega
 unfold wpOp;rw [ho];simp only;generalize hent:es[i]=e at hat hal
 cases e with
 |none =>
  have hat:wantedA ops (sAt ops es s0 i) ops.toList[i]=some false:=hat;rw [wanted_rel hR (hweq.trans hat)];simp only [Bool.false_eq_true,if_false];have hR':Rel B ((stS (ops.toList.zip es) S 0 s0).put ops.toList[i].dst (.tup [])) (a.put ops.toList[i].dst Go.undef) w Z μ:=hR.put0 ops.toList[i].dst ⟨[],rfl,rfl,λk h=>by simp at h⟩;obtain ⟨h1,h2⟩:=hrest μ (λ_ _ h=>h);exact hK _ _ ⟨Z,μ,hR'.alike hal,hz,hm,h1,h2⟩
 |some e =>
  obtain ⟨v,R,W,m1⟩:=e;obtain ⟨hw,hsv,hok,hl1,_⟩:=hat;rw [wanted_rel hR (hweq.trans hw)];simp only [if_true];left
  have hview:(stS (ops.toList.zip es) S 0 s0).mem.view (cAt E ops c0 i) R=(sAt ops es s0 i).mem.view (cAt E ops c0 i) R :=
   view_eq (hlen.trans hlen'.symm) _ R λr hr=>root_eq hT hes he hA hs hS hi hSi hready hi' (by rw [hent];exact hr)
  have hsv':(stepV E (val (stS (ops.toList.zip es) S 0 s0)) ((stS (ops.toList.zip es) S 0 s0).mem.view (cAt E ops c0 i) R) ops.toList[i] endV).strip=some (v,m1):=by
   rw [hview,stepV_congr (λx hx=>val_eqS hT hes he hA hs hS hi hSi hready hx)];exact hsv
  have hop:=(op_sound (E:=E) (o:=ops.toList[i]) (c:=cAt E ops c0 i) (R:=R) (W:=W) hR hE (λk hk=>hfree i hi hSi _ (by omega) (by omega)) (by omega)).2 v m1 hsv' (by rw [hlen,<- hlen'];exact hok);refine Oper.wp_any (Oper.wp_mono ?_ hop.2);rintro a' w' ⟨Z',μ',hR',hzz,hext,hout⟩;obtain ⟨h1,h2⟩:=hrest μ' (λr hr h0=>hout r (by omega) h0);exact hK _ _ ⟨Z',μ',Rel.alike hR' hal,λb hb=>hzz b (hz b hb),hm.trans hext,h1,h2⟩
theorem countP_lt{p p':Nat->Bool}(hpp:∀ j,p' j=true->p j=true){i:Nat}(h1:p i=true)(h2:p' i=false):∀ (l:List Nat),i∈l->l.countP p' < l.countP p
 |[],h=>by cases h
 |x::l,h=>by
  rw [List.countP_cons,List.countP_cons];have hle:l.countP p'<=l.countP p:=List.countP_mono_left λx _ hx=>hpp x hx;by_cases hx:x=i
  ·subst hx;rw [h1,h2];simp only [if_true,Bool.false_eq_true,if_false];omega
  ·have hm:i∈l:=by simpa [Ne.symm hx] using h
   have:=countP_lt hpp h1 h2 l hm
   cases hp':p' x with
   |false=>simp only [Bool.false_eq_true,if_false];omega
   |true=>rw [hpp x hp'];simp only [if_true];omega
theorem ready_nil(he:edgesOk ops=true){listed:Array Bool}(hsz:listed.size=ops.size)(h:Region.ready .any ops listed=[]):∀ j,j < ops.size->listed.getD j false=true:=by
 intro j
 induction j using Nat.strongRecOn with
 |_ j ih =>
  intro hj;have hoj:ops[j]?=some ops[j]:=Array.getElem?_eq_getElem hj
  have hnr:j ∉ Region.ready .any ops listed:=by rw [h];simp
  rw [mem_ready] at hnr
  cases hl:listed.getD j true with
  |true=>simpa [Array.getD,hsz,hj] using hl
  |false =>
   exfalso;refine hnr ⟨hl,ops[j],hoj,λe he' hb=>?_⟩
   have hm:(ops[j],j)∈ops.toList.zipIdx:=by rw [List.mem_zipIdx_iff_getElem?];simpa using hoj
   have h1:=List.all_eq_true.1 (List.all_eq_true.1 he _ hm) e (by simpa using he');simp only [hb,Bool.not_true,Bool.false_or,decide_eq_true_eq] at h1;exact ih e.on h1 (by omega)
theorem InvD.any{Q:Exit->Act->World->Prop}(hE:EnvOk E B.g)(hN:c0+newsAll E ops.toList<=s0.mem.roots.length)(hT:TrOk E ops A s0 c0 es)(hes:es.length=ops.toList.length)(he:edgesOk ops=true)(hA:ancOk ops A=true)(hs:slotsAll ops A=true)
  (hQ:∀ S a w,(∀ j,j < ops.size->S j=true)->InvD B E ops s0 c0 es Z0 μ0 S a w->Q .normal a w):∀ (fuel:Nat) (listed:Array Bool) (a:Act) (w:World),listed.size=ops.size->Closed ops (λj=>listed.getD j false) ->
   (List.range ops.size).countP (λj=>!listed.getD j true)<=fuel->InvD B E ops s0 c0 es Z0 μ0 (λj=>listed.getD j false) a w->wpAny E.P .any ops Q fuel listed a w
 |0,listed,a,w,hsz,hC,hc,h=>by
  have hn:Region.ready .any ops listed=[]:=by
   cases hr:Region.ready .any ops listed with
   |nil=>rfl
   |cons j l =>
    have hj:j∈Region.ready .any ops listed:=by rw [hr];simp
    obtain ⟨h1,o,h2,_⟩:=mem_ready.1 hj;have hlt:j < ops.size:=(Array.getElem?_eq_some_iff.1 h2).1;have:0 < (List.range ops.size).countP (λj=>!listed.getD j true):=List.countP_pos_iff.2 ⟨j,by simpa using hlt,by rw [h1];rfl⟩;omega
  exact ⟨hn,hQ _ a w (ready_nil he hsz hn) h⟩
 |fuel+1,listed,a,w,hsz,hC,hc,h=>by
  refine ⟨λhn=>hQ _ a w (ready_nil he hsz hn) h,λi hi=>?_⟩;obtain ⟨h1,o,h2,h3⟩:=mem_ready.1 hi;have hlt:i < ops.size:=(Array.getElem?_eq_some_iff.1 h2).1
  have hlt':i < ops.toList.length:=by simpa using hlt
  have hoi:ops.toList[i]=o:=by
   have:=(Array.getElem?_eq_some_iff.1 h2).2;simpa using this
  have hun:listed.getD i false=false:=by
   have hl:i < listed.size:=by omega
   simpa [Array.getD,hl] using h1
  have hadd:∀ j,(listed.setIfInBounds i true).getD j false=addS (λj=>listed.getD j false) i j:=by
   intro j;unfold addS;by_cases hji:i=j
   ·subst hji
    have hl:i < listed.size:=by omega
    simp [hl]
   ·have:(j == i)=false:=by simp;omega
    rw [getD_set_ne false hji,this,Bool.or_false]
  have hadd':(λj=>(listed.setIfInBounds i true).getD j false)=addS (λj=>listed.getD j false) i:=funext hadd;refine InvD.step hE hN hT hes he hA hs hC hlt' hun (λe he' hb=>h3 e (by rw [hoi] at he';simpa using he') hb) h λa' w' h'=>?_;refine InvD.any hE hN hT hes he hA hs hQ fuel _ a' w' (by simp [hsz]) ?_ ?_ (by rw [hadd'];exact h')
  ·rw [hadd'];intro j oj hj hSj e he' hb;simp only [addS,Bool.or_eq_true,beq_iff_eq] at hSj ⊢;rcases hSj with hSj|rfl
   ·exact .inl (hC j oj hj hSj e he' hb)
   ·have:oj=o:=by
     have h4:ops.toList[j]?=some ops.toList[j]:=List.getElem?_eq_getElem hlt';rw [hj] at h4;exact (Option.some.inj h4).trans hoi
    subst this;exact .inl (h3 e (by simpa using he') hb)
  ·have hlt2:=countP_lt (p:=λj=>!listed.getD j true) (p':=λj=>!(listed.setIfInBounds i true).getD j true) (λj hj=>by
     by_cases hji:i=j
     ·subst hji
      have hl:i < listed.size:=by omega
      simp [hl] at hj
     ·rw [getD_set_ne true hji] at hj;exact hj) (i:=i) (by simp only [h1];rfl) (by
      have hl:i < listed.size:=by omega
      simp [hl]) (List.range ops.size) (by simpa using hlt)
   omega
variable {β:Type}{Ψ:β->Prop}{K:St->Res β}
theorem draw_sound{Q:Exit->Act->World->Prop}{id:Nat}(hm:E.P.follows .mixedOrders=true)(hdr:E.dr=true)(hE:EnvOk E B.g)(he:edgesOk ops=true)(hA:ancOk ops A=true)(hs:slotsAll ops A=true)
  (hN:c0+newsAll E ops.toList<=s0.mem.roots.length){a:Act}{w:World}{Z:Nat->Prop}{μ:Locs}(hR:Rel B s0 a w Z μ) (hfree:∀ r,c0<=r->r < c0+newsAll E ops.toList->μ r=none)
  (h:(execOps E ops A ops.toList 0 c0 [] s0 K).sat Ψ)
  (hQ:∀ es,TrOk E ops A s0 c0 es->es.length=ops.toList.length->(K ⟨(sAt ops es s0 es.length).tmps,(sAt ops es s0 es.length).mem.at (cAt E ops c0 es.length),(sAt ops es s0 es.length).dT⟩).sat Ψ ->
   ∀ a' w' Z' μ',Rel B (sAt ops es s0 es.length) a' w' Z' μ'->(∀ b,Z b->Z' b)->ExtL μ μ'->(∀ r,(r < c0\/c0+newsAll E ops.toList<=r)->μ r=none->μ' r=none)->Q .normal a' w') :
  (Code.region id ops true).wp E.P Q a w:=by
 have hc00:cAt E ops c0 0=c0:=by simp [cAt,newsAll]
 have hT0:TrOk E ops A s0 c0 []:=⟨by simp,λi hi=>by simp at hi,λj i hj=>by simp at hj⟩
 have hs00:sAt ops [] s0 0=s0:=by simp [sAt,stS]
 obtain ⟨es,hT,hes,hKs⟩:=execOps_trace hdr hE hN ops.toList [] [] (a:=a) (w:=w) (Z:=Z) (μ:=μ) (B:=B) (by simp) hT0 (by simpa [hs00] using hR) (λr h1 h2=>hfree r (by simpa [hc00] using h1) h2) (λj hj=>by simp at hj) (by simpa [hs00,hc00] using h)
 have hrep:(λj=>(Array.replicate ops.size false).getD j false)=λ_=>false:=by
  funext j;simp only [Array.getD]
  split<;>simp
 refine wp_region_any hm ?_;refine InvD.any (B:=B) (Z0:=Z) (μ0:=μ) hE hN hT hes he hA hs (λS a' w' hall hI=>?_) ops.size _ a _ (by simp) (by rw [hrep];intro j o hj hSj;cases hSj) ?_ ?_
 ·obtain ⟨Z',μ',hR',h1,h2,h3,_⟩:=hI;refine hQ es hT hes hKs a' w' Z' μ' (hR'.alike ?_) h1 h2 h3
  have:stS (ops.toList.zip es) S 0 s0=sAt ops es s0 es.length:=by
   unfold sAt;refine stS_congr _ _ _ _ _ λk hk=>?_
   have hsz:ops.toList.length=ops.size:=by simp
   rw [List.length_zip] at hk;rw [Nat.zero_add,hall k (by omega)];simp;omega
  rw [this];exact ⟨rfl,rfl⟩
 ·refine Nat.le_trans List.countP_le_length ?_;simp
 ·refine ⟨Z,μ,?_,λ_ h=>h,ExtL.refl μ,λ_ _ h=>h,λi hi _ r h1 h2=>hfree r ?_ ?_⟩
  ·rw [hrep,stS_false _ _ _ _ (λ_ _=>rfl)];exact hR.drew
  ·exact Nat.le_trans (Nat.le_add_right _ _) h1
  ·have:=cAt_le (E:=E) (ops:=ops) (c0:=c0) (i:=i+1) (j:=ops.toList.length) (by omega);unfold cAt at this h2;rw [List.take_length] at this;omega
end
end Go.Mach

namespace Go.Mach
section
variable {w0 w:World}{Z0 Z:Nat->Prop}{μ0 μ μr:Locs}(hr:∀ r,μ0 r≠none->μr r=μ r)
include hr
theorem PtrR.restrict{r off:Nat}{v0 v:Value}(h0:PtrR μ0 r off v0)(h:PtrR μ r off v):PtrR μr r off v:=by
 obtain ⟨ℓ0,_,h1,_⟩:=h0;obtain ⟨ℓ,b,h2,h3⟩:=h;exact ⟨ℓ,b,by rw [hr r (by rw [h1];simp)];exact h2,h3⟩
theorem CR.restrict{c:C}{v0 v:Value}(h0:CR w0 Z0 μ0 c v0)(h:CR w Z μ c v):CR w Z μr c v:=by
 cases c with
 |ref r wd =>
  obtain ⟨ℓ0,h1,_⟩:=h0;obtain ⟨ℓ,h2,h3⟩:=h;exact ⟨ℓ,by rw [hr r (by rw [h1];simp)];exact h2,h3⟩
 |ptr r off=>exact PtrR.restrict hr h0 h
 |eptr r i off =>
  obtain ⟨ℓ0,_,h1,_⟩:=h0;obtain ⟨ℓ,b,h2,h3⟩:=h;exact ⟨ℓ,b,by rw [hr r (by rw [h1];simp)];exact h2,h3⟩
 |stp q =>
  obtain ⟨ℓ0,h1,_⟩:=h0;obtain ⟨ℓ,h2,h3⟩:=h;exact ⟨ℓ,by rw [hr q (by rw [h1];simp)];exact h2,h3⟩
 |mp r =>
  obtain ⟨ℓ0,_,h1,_⟩:=h0;obtain ⟨ℓ,b,h2,h3⟩:=h;exact ⟨ℓ,b,by rw [hr r (by rw [h1];simp)];exact h2,h3⟩
 |fn f caps =>
  obtain ⟨vs0,_,g2,g3⟩:=h0;obtain ⟨vs,h1,h2,h3⟩:=h;refine ⟨vs,h1,h2,λk hk hk'=>?_⟩;have a:=g3 k hk (by omega);have b:=h3 k hk hk'
  cases hc:caps[k] with
  |root r=>rw [hc] at a b;exact PtrR.restrict hr a b
  |frz e x=>rw [hc] at b;exact b
 |_=>exact h
theorem CRs.restrict{cs:List C}{vs0 vs:List Value}(h0:CRs w0 Z0 μ0 cs vs0)(h:CRs w Z μ cs vs):CRs w Z μr cs vs :=
 ⟨h.1,λk hk hk'=>CR.restrict hr (h0.2 k hk (by have:=h0.1;omega)) (h.2 k hk hk')⟩
theorem AR.restrict{x:AV}{v0 v:Value}(h0:AR w0 Z0 μ0 x v0)(h:AR w Z μ x v):AR w Z μr x v:=by
 cases x with
 |c x=>exact CR.restrict hr h0 h
 |agg cs =>
  obtain ⟨_,_,h1⟩:=h0;obtain ⟨vs,h2,h3⟩:=h;exact ⟨vs,h2,h1.restrict hr h3⟩
 |tup l =>
  obtain ⟨vs0,_,g2,g3⟩:=h0;obtain ⟨vs,h1,h2,h3⟩:=h;refine ⟨vs,h1,h2,λk hk hk'=>?_⟩;have a:=g3 k hk (by omega);have b:=h3 k hk hk';rcases hl:l[k] with ⟨ag,cs⟩;rw [hl] at a b
  cases ag with
  |true =>
   obtain ⟨_,_,a⟩:=a;obtain ⟨us,b1,b2⟩:=b;exact ⟨us,b1,a.restrict hr b2⟩
  |false =>
   match cs,a,b with
   |c::_,a,b=>exact CR.restrict hr a b
   |[],_,_=>trivial
theorem RootOk.restrict{Y0 Y:Nat->Prop}{ℓ0 ℓ:Loc}{x:Root}(h0:RootOk w0 Z0 Y0 μ0 ℓ0 x)(h:RootOk w Z Y μ ℓ x):RootOk w Z Y μr ℓ x:=by
 cases x with
 |dead=>trivial
 |frz e xs=>exact h
 |bor s xs=>exact h
 |bbox cs =>
  obtain ⟨_,_,_,us0,_,g⟩:=h0;obtain ⟨b,h1,h2,us,h3,h4⟩:=h;exact ⟨b,h1,h2,us,h3,g.restrict hr h4⟩
 |box cs =>
  obtain ⟨_,_,_,_,us0,_,g⟩:=h0;obtain ⟨b,h1,h2,h3,us,h4,h5⟩:=h;exact ⟨b,h1,h2,h3,us,h4,g.restrict hr h5⟩
 |arr s xs foc =>
  refine ⟨h.1,h.2.mono (SameOn.refl _ _) λi us x S _ _ hR=>?_⟩
  cases foc with
  |none=>exact hR
  |some f =>
   simp only [ElR] at hR ⊢;by_cases hi:f.i=i
   ·rw [if_pos hi] at hR ⊢;have hlt:=h0.1 f rfl;obtain ⟨_,_,_,_,_,g⟩:=h0.2
    cases hb:ℓ0.blk with
    |none =>
     rw [hb] at g;obtain ⟨g,_⟩:=g;rw [g] at hlt;simp at hlt
    |some b =>
     rw [hb] at g;obtain ⟨_,_,N,_,_,g⟩:=g;obtain ⟨us0,_,_,g⟩:=g f.i hlt;simp only [ElR,if_true] at g;exact g.restrict hr hR
   ·rw [if_neg hi] at hR ⊢;exact hR
 |mape n s xs i cs q =>
  obtain ⟨_,_,es0,_,_,_,g3,g4,_,g6⟩:=h0;obtain ⟨h1,b,es,clock,ℓq,h2,h3,h4,h5,h6⟩:=h;refine ⟨h1,b,es,clock,ℓq,h2,h3,by rw [hr q (by rw [g4];simp)];exact h4,h5,h6.mono rfl (λ_ h=>h) λj us x T _ hR=>?_⟩;obtain ⟨_,es1,_,e1,e2,_,_,_,_,M,_,_,e9⟩:=g6;have e3:=(e9 i h1 (by omega)).2;simp only [EnR,ElR,if_true] at e3;simp only [EnR,ElR] at hR ⊢;by_cases hi:i=j
  ·rw [if_pos hi] at hR ⊢;exact e3.restrict hr hR
  ·rw [if_neg hi] at hR ⊢;exact hR
 |itr r n s xs left cur =>
  obtain ⟨itb,b,ℓr,es,clock,seen,foc,S,h1,h2,h3,h4,h5,h6,h7,h9,h11,h12,h13⟩:=h;obtain ⟨_,_,ℓr0,es0,_,_,foc0,_,_,_,_,_,g5,_,_,g9,_,g12,g13⟩:=h0;refine ⟨itb,b,ℓr,es,clock,seen,foc,S,h1,h2,h3,h4,by rw [hr r (by rw [g5];simp)];exact h5,h6,h7,h9,h11,h12.mono rfl (λ_ h=>h) λi us x T _ hR=>?_,h13⟩
  cases cur with
  |none=>subst h13;exact hR
  |some p =>
   obtain ⟨k,N⟩:=p;obtain ⟨j,rfl,hj,hj',_⟩:=h13;obtain ⟨j0,rfl,hk,hk',_⟩:=g13;obtain ⟨_,es1,_,e1,_,_,_,_,_,M,_,_,e9⟩:=g12;rw [g9] at e1;cases e1;have e2:=(e9 j0 hk hk').2;simp only [EnR,ElR,if_true] at e2;simp only [EnR,ElR] at hR ⊢;by_cases hi:j=i
   ·rw [if_pos hi] at hR ⊢;exact e2.restrict hr hR
   ·rw [if_neg hi] at hR ⊢;exact hR
 |sb p xs=>exact h
 |mapr n s xs foc =>
  obtain ⟨h1,b,h2,h3⟩:=h;refine ⟨h1,b,h2,h3.mono rfl (λ_ h=>h) λi us x S _ hR=>?_⟩
  cases foc with
  |none=>exact hR
  |some f =>
   simp only [EnR,ElR] at hR ⊢;by_cases hi:f.i=i
   ·rw [if_pos hi] at hR ⊢;have hlt:=h0.1 f rfl;obtain ⟨_,_,_,_,es,clock,_,g2,_,_,_,_,N,_,_,g⟩:=h0;obtain ⟨_,g⟩:=g f.i hlt (by omega);simp only [EnR,ElR,if_true] at g;exact g.restrict hr hR
   ·rw [if_neg hi] at hR ⊢;exact hR
end
section
variable {B:Base}{w:World}{Z:Nat->Prop}{μ μr:Locs}
theorem MemOk.restrict{m m0:Mem}(h:MemOk B m w Z μ)(hm:∀ r x,m0.roots[r]?=some x->x≠.dead->m.roots[r]?=some x/\μr r=μ r/\∀ ℓ,RootOk w Z B.Y μ ℓ x->RootOk w Z B.Y μr ℓ x)
  (hfar:∀ r,m0.roots.length<=r->μr r=none):MemOk B m0 w Z μr:=by
 have hd:∀ {x:Root},x.owns=true->x≠.dead:=by rintro _ h rfl;simp [Root.owns] at h
 refine ⟨λr x hx hx'=>?_,λr s x y ℓ ℓ' hrs hx hy hox hoy hl hl'=>?_,λr x ℓ b hx ho hl=>?_,h.frz,h.frz0,h.size,h.keep,hfar,h.lent,h.io⟩
 ·obtain ⟨h1,h2,h3⟩:=hm r x hx hx';obtain ⟨ℓ,h4,h5⟩:=h.rt r x h1 hx';exact ⟨ℓ,by rw [h2];exact h4,h3 ℓ h5⟩
 ·obtain ⟨h1,h2,_⟩:=hm r x hx (hd hox);obtain ⟨h3,h4,_⟩:=hm s y hy (hd hoy);exact h.dj r s x y ℓ ℓ' hrs h1 h3 hox hoy (h2▸hl) (h4▸hl')
 ·obtain ⟨h1,h2,_⟩:=hm r x hx (hd ho);exact h.own r x ℓ b h1 ho (h2▸hl)
theorem Loose.restrict{m m0:Mem}{F:Nat->Prop}(hF:Loose B m w Z μ F)(hm:∀ r x,m0.roots[r]?=some x->x≠.dead->m.roots[r]?=some x/\μr r=μ r):Loose B m0 w Z μr F:=by
 refine ⟨hF.ok,λb r hb=>?_⟩;rintro ⟨x,ℓ,h1,h2,h3,h4⟩;obtain ⟨g1,g2⟩:=hm r x h1 (by rintro rfl;simp [Root.owns] at h2);exact hF.off b r hb ⟨x,ℓ,g1,h2,g2▸h3,h4⟩
end
theorem killAll_length:∀ (l:List Nat) (xs:List Root),(killAll xs l).length=xs.length
 |[],_=>rfl
 |r::l,xs=>by rw [killAll,killAll_length l,List.length_set]
theorem killAll_get:∀ (l:List Nat) (xs:List Root) (k:Nat),(k ∉ l->(killAll xs l)[k]?=xs[k]?)/\(k∈l->(killAll xs l)[k]?=(xs[k]?).map λ_=>.dead)
 |[],xs,k=>⟨λ_=>rfl,λh=>by cases h⟩
 |r::l,xs,k=>by
  obtain ⟨h1,h2⟩:=killAll_get l (xs.set r .dead) k;rw [killAll];refine ⟨λh=>?_,λh=>?_⟩
  ·rw [h1 (λhk=>h (List.mem_cons_of_mem _ hk)),List.getElem?_set_ne (by rintro rfl;exact h List.mem_cons_self)]
  ·by_cases hl:k∈l
   ·rw [h2 hl];by_cases hkr:r=k
    ·subst hkr;rw [List.getElem?_set_self']
     cases xs[r]?<;>rfl
    ·rw [List.getElem?_set_ne hkr]
   ·have hkr:k=r:=by simpa [hl] using h
    subst hkr;rw [h1 hl,List.getElem?_set_self']
    cases xs[k]?<;>rfl
theorem setAll_length:∀ (l:List (Nat×AV)) (ts:List AV),(setAll ts l).length=ts.length
 |[],_=>rfl
 |(i,v)::l,ts=>by rw [setAll,setAll_length l,List.length_set]
theorem setAll_get:∀ (l:List (Nat×AV)) (ts:List AV) (k:Nat) (x:AV),(setAll ts l)[k]?=some x->(k,x)∈l\/(ts[k]?=some x/\∀ v,(k,v) ∉ l)
 |[],ts,k,x,h=>.inr ⟨h,λ_ h=>by cases h⟩
 |(i,v)::l,ts,k,x,h=>by
  rw [setAll] at h;rcases setAll_get l _ k x h with h1|⟨h1,h2⟩
  ·exact .inl (List.mem_cons_of_mem _ h1)
  ·by_cases hik:i=k
   ·subst hik;rw [List.getElem?_set_self'] at h1;left
    cases ht:ts[i]? with
    |none=>rw [ht] at h1;cases h1
    |some y=>rw [ht] at h1;simp at h1;subst h1;exact List.mem_cons_self
   ·rw [List.getElem?_set_ne hik] at h1;refine .inr ⟨h1,λv' hm=>?_⟩;rcases List.mem_cons.1 hm with hm|hm
    ·cases hm;exact hik rfl
    ·exact h2 v' hm
end Go.Mach

namespace Go.Mach
section
variable {B:Base}{w:World}{Z:Nat->Prop}
def LeadR(μ:Locs)(r:Nat):Sh->Value->Prop
 |.own s,u=>∃ ℓ,μ r=some ℓ/\ℓ.sz=s.cells/\ℓ.odd=none/\u=.slice (ℓ.addr 0) ℓ.len ℓ.cap
 |.box _,u=>∃ ℓ b,μ r=some ℓ/\ℓ.blk=some b/\u=.pointer (some ⟨b,ℓ.base+0,none⟩)
 |.sb _,u=>∃ ℓ b,μ r=some ℓ/\ℓ.blk=some b/\u=.pointer (some ⟨b,ℓ.base+0,none⟩)
 |_,_=>False
theorem LeadR.ext{μ μ':Locs}(he:ExtL μ μ'){r:Nat}{s:Sh}{u:Value}(h:LeadR μ r s u):LeadR μ' r s u:=by
 cases s with
 |own s =>
  obtain ⟨ℓ,h1,h2,h3,h4⟩:=h;obtain ⟨S',h5⟩:=he r ℓ h1;exact ⟨_,h5,h2,h3,h4⟩
 |box s =>
  obtain ⟨ℓ,b,h1,h2,h3⟩:=h;obtain ⟨S',h5⟩:=he r ℓ h1;exact ⟨_,b,h5,h2,h3⟩
 |sb p =>
  obtain ⟨ℓ,b,h1,h2,h3⟩:=h;obtain ⟨S',h5⟩:=he r ℓ h1;exact ⟨_,b,h5,h2,h3⟩
 |_=>exact h
def BackAt(B:Base)(w:World)(Z:Nat->Prop)(m:Mem)(μ:Locs)(lo hi:Nat)(o:Option Nat)(v:AV):Prop :=
 ∀ r,o=some r->∀ c q,v=.c c->c.root?=some q->lo<=q/\q < hi/\∃ x ℓq ℓp,m.roots[q]?=some x/\x.owns=true/\μ q=some ℓq/\μ r=some ℓp/\RootOk w Z B.Y μ { ℓp with S:=ℓq.S } x
def BacksOk(B:Base)(w:World)(Z:Nat->Prop)(m:Mem)(μ:Locs):Nat->List (Option Nat)->List AV->Prop
 |lo,o::os,v::vs=>∃ hi,lo<=hi/\BackAt B w Z m μ lo hi o v/\BacksOk B w Z m μ hi os vs
 |_,_,_=>True
def LeadsR(μ:Locs):List (Option Nat)->List VSh->List Value->Prop
 |o::os,a::l,u::us=>(∀ r,o=some r->a.1=false/\LeadR μ r a.2 u)/\LeadsR μ os l us
 |_,_,_=>True
theorem LeadsR.ext{μ μ':Locs}(he:ExtL μ μ'):∀ {os:List (Option Nat)}{l:List VSh}{us:List Value},LeadsR μ os l us->LeadsR μ' os l us
 |[],_,_,_=>trivial
 |_::_,[],_,_=>trivial
 |_::_,_::_,[],_=>trivial
 |_::_,_::_,_::_,h=>⟨λr hr=>⟨(h.1 r hr).1,(h.1 r hr).2.ext he⟩,h.2.ext he⟩
theorem mk_back{s:Sh}{u:Value}{x:s.den}{m:Mem}{F S:Nat->Prop}{μ:Locs}{o:Option Nat}(hM:MemOk B m w Z μ)(hF:Loose B m w Z μ F)(hf:Free m μ s.news)(hx:SR w Z B.Y s [u] x S)(hS:∀ b,S b->F b)
  (hl:∀ r,o=some r->LeadR μ r s u) :
  ∃ μ',MemOk B (s.mk x m).2 w Z μ'/\Loose B (s.mk x m).2 w Z μ' (λb=>F b/\¬ S b)/\CRs w Z μ' (s.mk x m).1 [u]/\Grow m (s.mk x m).2 μ μ' s.news/\BackAt B w Z (s.mk x m).2 μ' m.cur (m.cur+s.news) o (avOf false (s.mk x m).1):=by
 obtain ⟨⟨μ1,e1,e2,e3,e4⟩,_⟩:=mk_sound s hM hF hf hx hS;refine ⟨μ1,e1,e2,e3,e4,?_⟩;intro r ho c q hv hq;have hld:=(hl r ho).ext e4.ext
 cases s with
 |own s =>
  simp only [Sh.mk,avOf] at hv e1 e2 e3 e4 ⊢;cases hv;simp only [C.root?,Option.some.injEq] at hq;subst hq
  have hcc:CR w Z μ1 (.ref m.cur .full) u:=by
   obtain ⟨v',hv',g⟩:=e3.one;cases hv';exact g
  obtain ⟨ℓq,μq,sq⟩:=hcc;have hcq:m.cur < m.roots.length:=(List.getElem?_eq_some_iff.1 (hf 0 (by simp [Sh.news])).2).1
  have hroot:(m.push (.arr s x none)).roots[m.cur]?=some (.arr s x none):=by simp [Mem.push,hcq]
  obtain ⟨ℓ',k1,k2,k3⟩:=e1.rt _ _ hroot (by simp);rw [μq] at k1;cases k1;obtain ⟨ℓp,p1,p2,p3,p4⟩:=hld
  have he:Value.slice (ℓq.addr 0) ℓq.len ℓq.cap=.slice (ℓp.addr 0) ℓp.len ℓp.cap:=by
   rw [<- (show u=_ from sq),<- p4]
  refine ⟨Nat.le_refl _,by simp [Sh.news],_,ℓq,ℓp,hroot,rfl,μq,p1,⟨(λf hf=>by cases hf),(k3.place p2 p3 he).mono (SameOn.refl _ _) λi us x S _ _ hR=>hR⟩⟩
 |box s =>
  simp only [Sh.mk,avOf] at hv e1 e2 e3 e4 ⊢;cases hv;simp only [C.root?,Option.some.injEq] at hq;subst hq
  have hcc:CR w Z μ1 (.ptr (s.mk x m).2.cur 0) u:=by
   obtain ⟨v',hv',g⟩:=e3.one;cases hv';exact g
  obtain ⟨ℓq,bq,μq,hbq,huq⟩:=hcc;have h2:=e4.cur;simp only [Mem.push,Sh.news] at h2
  have hcq:(s.mk x m).2.cur < (s.mk x m).2.roots.length:=by
   have h1:=e4.len;simp only [Mem.push,List.length_set,Sh.news] at h1;have h3:=(hf s.news (by simp [Sh.news])).2;have h4:=(List.getElem?_eq_some_iff.1 h3).1;omega
  have hroot:((s.mk x m).2.push (.box (s.mk x m).1)).roots[(s.mk x m).2.cur]?=some (.box (s.mk x m).1):=by simp [Mem.push,hcq]
  obtain ⟨ℓ',k1,b',k2,k3,k4,us,k5,k6⟩:=e1.rt _ _ hroot (by simp);rw [μq] at k1;cases k1;rw [hbq] at k2;cases k2;obtain ⟨ℓp,bp,p1,p2,p3⟩:=hld;rw [huq] at p3;simp only [Value.pointer.injEq,Option.some.injEq,Addr.mk.injEq,Nat.add_zero,and_true] at p3;obtain ⟨rfl,hbase⟩:=p3;exact ⟨by omega,by simp only [Sh.news];omega,_,ℓq,ℓp,hroot,rfl,μq,p1,⟨bq,p2,k3,by rw [<- hbase];exact k4,us,by rw [<- hbase];exact k5,k6⟩⟩
 |sb p =>
  simp only [Sh.mk,avOf] at hv e1 e2 e3 e4 ⊢;cases hv;simp only [C.root?,Option.some.injEq] at hq;subst hq
  have hcc:CR w Z μ1 (.ptr m.cur 0) u:=by
   obtain ⟨v',hv',g⟩:=e3.one;cases hv';exact g
  obtain ⟨ℓq,bq,μq,hbq,huq⟩:=hcc;have hcq:m.cur < m.roots.length:=(List.getElem?_eq_some_iff.1 (hf 0 (by simp [Sh.news])).2).1
  have hroot:(m.push (.sb p x)).roots[m.cur]?=some (.sb p x):=by simp [Mem.push,hcq]
  obtain ⟨ℓ',k1,b',k2,k3,k4⟩:=e1.rt _ _ hroot (by simp);rw [μq] at k1;cases k1;rw [hbq] at k2;cases k2;obtain ⟨ℓp,bp,p1,p2,p3⟩:=hld;rw [huq] at p3;simp only [Value.pointer.injEq,Option.some.injEq,Addr.mk.injEq,Nat.add_zero,and_true] at p3;obtain ⟨rfl,hbase⟩:=p3;exact ⟨Nat.le_refl _,by simp [Sh.news],_,ℓq,ℓp,hroot,rfl,μq,p1,⟨bq,p2,by rw [<- hbase];exact k3,k4⟩⟩
 |_=>exact hld.elim
theorem BackAt.grow{m m':Mem}{μ μ':Locs}{n lo hi:Nat}{o:Option Nat}{v:AV}(h:BackAt B w Z m μ lo hi o v)(hg:Grow m m' μ μ' n)(hhi:hi<=m.cur):BackAt B w Z m' μ' lo hi o v:=by
 intro r ho c q hv hq;obtain ⟨h1,h2,x,ℓq,ℓp,h3,h4,h5,h6,h7⟩:=h r ho c q hv hq;obtain ⟨S',h8⟩:=hg.ext r ℓp h6;obtain ⟨g1,g2⟩:=hg.old q (.inl (by omega));exact ⟨h1,h2,x,ℓq,_,by rw [g2];exact h3,h4,by rw [g1];exact h5,h8,h7.mono (SameOn.refl _ _) (λ_ h=>h) (λ_ h=>h) hg.ext⟩
theorem mks_back:∀ {l:List VSh}{os:List (Option Nat)}{vs:List Value}{x:dens l}{m:Mem}{F S:Nat->Prop}{μ:Locs},MemOk B m w Z μ->Loose B m w Z μ F->Free m μ (newsL l)->ValsR w Z B.Y l vs x S->(∀ b,S b->F b)->LeadsR μ os l vs ->
  ∃ μ',MemOk B (mks l x m).2 w Z μ'/\Loose B (mks l x m).2 w Z μ' (λb=>F b/\¬ S b)/\ARs w Z μ' (mks l x m).1 vs/\Grow m (mks l x m).2 μ μ' (newsL l)/\BacksOk B w Z (mks l x m).2 μ' m.cur os (mks l x m).1
 |[],os,vs,x,m,F,S,μ,hM,hF,hf,h,hS,_=>⟨μ,hM,hF.grow λb hb=>hb.1,h,Grow.refl m μ,by cases os<;>trivial⟩
 |[a],os,vs,x,m,F,S,μ,hM,hF,hf,h,hS,hl=>by
  obtain ⟨v,rfl,us,h1,h2,h3⟩:=h
  match os,hl with
  |[],_ =>
   obtain ⟨⟨μ',e1,e2,e3,e4⟩,_⟩:=mk_sound a.2 hM hF hf h3 hS;exact ⟨μ',e1,e2,⟨v,[],rfl,h1.ar e3,rfl⟩,e4,trivial⟩
  |none::os,_ =>
   obtain ⟨⟨μ',e1,e2,e3,e4⟩,_⟩:=mk_sound a.2 hM hF hf h3 hS
   exact ⟨μ',e1,e2,⟨v,[],rfl,h1.ar e3,rfl⟩,e4,m.cur,Nat.le_refl _,(λr hr=>by cases hr),by cases os<;>trivial⟩
  |some r::os,hl =>
   obtain ⟨g,s⟩:=a;obtain ⟨hg,hlr⟩:=hl.1 r rfl;simp only at hg;subst hg;have h1':us=[v]:=h1;subst h1';obtain ⟨μ',e1,e2,e3,e4,e5⟩:=mk_back (o:=some r) hM hF hf h3 hS (λr' hr=>by cases hr;exact hlr)
   exact ⟨μ',e1,e2,⟨v,[],rfl,h1.ar e3,rfl⟩,e4,_,Nat.le_add_right _ _,e5,by cases os<;>trivial⟩
 |a::b::l,os,vs,x,m,F,S,μ,hM,hF,hf,h,hS,hl=>by
  obtain ⟨v,vs',S1,S2,rfl,h2,h3,h4,⟨us,h5,h6,h7⟩,h8⟩:=h
  have key:∃ μ1,MemOk B (a.2.mk x.1 m).2 w Z μ1/\Loose B (a.2.mk x.1 m).2 w Z μ1 (λb=>F b/\¬ S1 b)/\CRs w Z μ1 (a.2.mk x.1 m).1 us/\Grow m (a.2.mk x.1 m).2 μ μ1 a.2.news /\
    ∀ o os',os=o::os'->BackAt B w Z (a.2.mk x.1 m).2 μ1 m.cur (m.cur+a.2.news) o (avOf a.1 (a.2.mk x.1 m).1):=by
   match os,hl with
   |some r::os,hl =>
    obtain ⟨g,s⟩:=a;obtain ⟨hg,hlr⟩:=hl.1 r rfl;simp only at hg;subst hg;have h5':us=[v]:=h5;subst h5';obtain ⟨μ',e1,e2,e3,e4,e5⟩:=mk_back (o:=some r) hM hF hf.left h7 (λd hd=>hS d (h2 d hd)) (λr' hr=>by cases hr;exact hlr);exact ⟨μ',e1,e2,e3,e4,λo os' he=>by cases he;exact e5⟩
   |none::os,_ =>
    obtain ⟨⟨μ1,e1,e2,e3,e4⟩,_⟩:=mk_sound a.2 hM hF hf.left h7 (λd hd=>hS d (h2 d hd));exact ⟨μ1,e1,e2,e3,e4,λo os' he=>by cases he;intro r hr;cases hr⟩
   |[],_ =>
    obtain ⟨⟨μ1,e1,e2,e3,e4⟩,_⟩:=mk_sound a.2 hM hF hf.left h7 (λd hd=>hS d (h2 d hd));exact ⟨μ1,e1,e2,e3,e4,λo os' he=>by cases he⟩
  obtain ⟨μ1,e1,e2,e3,e4,e5⟩:=key
  have hl':LeadsR μ1 os.tail (b::l) vs':=by
   match os,hl with
   |[],_=>trivial
   |_::os,hl=>exact hl.2.ext e4.ext
  obtain ⟨μ2,g1,g2,g3,g4,g5⟩:=mks_back (l:=b::l) (os:=os.tail) e1 e2 (hf.right e4) h8 (λd hd=>⟨hS d (h3 d hd),λh=>h4 d h hd⟩) hl';refine ⟨μ2,g1,g2.grow λd hd=>⟨⟨hd.1,λh=>hd.2 (h2 d h)⟩,λh=>hd.2 (h3 d h)⟩,⟨v,vs',rfl,(h5.ar e3).mono (SameOn.refl _ _) (λ_ h=>h) g4.ext,g3⟩,e4.trans g4,?_⟩
  match os with
  |[]=>trivial
  |o::os =>
   refine ⟨m.cur+a.2.news,Nat.le_add_right _ _,(e5 o os rfl).grow g4 (by rw [e4.cur];exact Nat.le_refl _),?_⟩;rw [e4.cur] at g5;exact g5
theorem BackAt.move{m:Mem}{μ:Locs}{lo hi q0 r0:Nat}{ℓ:Loc}{o:Option Nat}{v:AV}(h:BackAt B w Z m μ lo hi o v)(hq:q0 < lo)(hr:r0 < lo)(hne:o≠some r0)(he:ExtL μ (μ.set r0 ℓ)):BackAt B w Z (m.move q0 r0) (μ.set r0 ℓ) lo hi o v:=by
 intro r ho c q hv hq';obtain ⟨h1,h2,x,ℓq,ℓp,h3,h4,h5,h6,h7⟩:=h r ho c q hv hq'
 have hrr:r≠r0:=by rintro rfl;exact hne ho
 refine ⟨h1,h2,x,ℓq,ℓp,?_,h4,by rw [Locs.set_ne _ _ (by omega)];exact h5,by rw [Locs.set_ne _ _ hrr];exact h6,h7.mono (SameOn.refl _ _) (λ_ h=>h) (λ_ h=>h) he⟩;simp only [Mem.move];rw [List.getElem?_set_ne (by omega),List.getElem?_set_ne (by omega)];exact h3
theorem BacksOk.move{m:Mem}{μ:Locs}{q0 r0:Nat}{ℓ:Loc}(he:ExtL μ (μ.set r0 ℓ)):∀ {os:List (Option Nat)}{vs:List AV}{lo:Nat},BacksOk B w Z m μ lo os vs->q0 < lo->r0 < lo->(∀ o∈os,o≠some r0)->BacksOk B w Z (m.move q0 r0) (μ.set r0 ℓ) lo os vs
 |[],_,_,_,_,_,_=>trivial
 |_::_,[],_,_,_,_,_=>trivial
 |o::os,v::vs,lo,h,hq,hr,hne=>by
  obtain ⟨hi,h1,h2,h3⟩:=h;exact ⟨hi,h1,h2.move hq hr (hne o List.mem_cons_self) he,h3.move he (by omega) (by omega) λo ho=>hne o (List.mem_cons_of_mem _ ho)⟩
theorem BacksOk.up{m:Mem}{μ:Locs}:∀ {os:List (Option Nat)}{vs:List AV}{lo k:Nat},BacksOk B w Z m μ lo os vs->k<=os.length->k<=vs.length->∃ lo',lo<=lo'/\BacksOk B w Z m μ lo' (os.drop k) (vs.drop k)
 |os,vs,lo,0,h,_,_=>⟨lo,Nat.le_refl _,h⟩
 |[],_,_,_+1,_,h,_=>by simp at h
 |_::_,[],_,_+1,_,_,h=>by simp at h
 |o::os,v::vs,lo,k+1,h,hk,hk'=>by
  obtain ⟨hi,h1,_,h3⟩:=h;obtain ⟨lo',h4,h5⟩:=h3.up (k:=k) (by simpa using hk) (by simpa using hk');exact ⟨lo',by omega,h5⟩
theorem rootsBack_sound:∀ {rs:List Nat}{vs:List AV}{m:Mem}{F:Nat->Prop}{μ:Locs}{lo:Nat},MemOk B m w Z μ->Loose B m w Z μ F->nodupN rs=true->(∀ r∈rs,r < lo/\m.roots[r]?=some .dead)->BacksOk B w Z m μ lo (rs.map some) vs ->
  ∃ μ',MemOk B (rootsBack m rs vs) w Z μ'/\ExtL μ μ'/\(∀ r,μ r=none->μ' r=none)/\(rootsBack m rs vs).roots.length=m.roots.length/\Loose B (rootsBack m rs vs) w Z μ' F
 |[],vs,m,F,μ,lo,hM,hF,_,_,_=>by
  simp only [rootsBack];exact ⟨μ,hM,ExtL.refl μ,λ_ h=>h,trivial,hF⟩
 |r::rs,[],m,F,μ,lo,hM,hF,_,_,_=>by
  simp only [rootsBack];exact ⟨μ,hM,ExtL.refl μ,λ_ h=>h,trivial,hF⟩
 |r::rs,v::vs,m,F,μ,lo,hM,hF,hn,hd,hb=>by
  obtain ⟨hi,h1,h2,h3⟩:=hb;simp only [nodupN,Bool.and_eq_true,Bool.not_eq_true',List.contains_eq_mem,decide_eq_false_iff_not] at hn
  have hd':∀ r'∈rs,r' < hi/\m.roots[r']?=some .dead:=λr' hr'=>by
   obtain ⟨a,b⟩:=hd r' (List.mem_cons_of_mem _ hr');exact ⟨by omega,b⟩
  have skip:∃ μ',MemOk B (rootsBack m rs vs) w Z μ'/\ExtL μ μ'/\(∀ r,μ r=none->μ' r=none)/\(rootsBack m rs vs).roots.length=m.roots.length/\Loose B (rootsBack m rs vs) w Z μ' F:=rootsBack_sound hM hF hn.2 hd' h3
  cases v with
  |c x =>
   simp only [rootsBack]
   cases hx:x.root? with
   |none=>exact skip
   |some q =>
    simp only;obtain ⟨a1,a2,y,ℓq,ℓp,a3,a4,a5,a6,a7⟩:=h2 r rfl x q rfl hx;obtain ⟨b1,b2⟩:=hd r List.mem_cons_self;have he:ExtL μ (μ.set r { ℓp with S:=ℓq.S }):=ExtL.setS a6;obtain ⟨k1,k2⟩:=move_sound hM hF a3 a4 a5 b2 a6 (a7.mono (SameOn.refl _ _) (λ_ h=>h) (λ_ h=>h) he)
    obtain ⟨μ',g1,g2,g3,g4,g5⟩:=rootsBack_sound (rs:=rs) (vs:=vs) (lo:=hi) k1 k2 hn.2 (λr' hr'=>by
      obtain ⟨c1,c2⟩:=hd r' (List.mem_cons_of_mem _ hr');refine ⟨by omega,?_⟩
      have hne:r≠r':=by rintro rfl;exact hn.1 hr'
      simp only [Mem.move]
      rw [List.getElem?_set_ne hne,List.getElem?_set_ne (by omega)];exact c2) (h3.move he (by omega) (by omega) (λo ho=>by
      obtain ⟨r',hr',rfl⟩:=List.mem_map.1 ho
      rintro he;cases he;exact hn.1 hr'))
    refine ⟨μ',g1,he.trans g2,λs hs=>g3 s ?_,by rw [g4];simp [Mem.move],g5⟩
    have hne:s≠r:=by rintro rfl;rw [hs] at a6;cases a6
    rw [Locs.set_ne _ _ hne];exact hs
  |agg cs=>simp only [rootsBack];exact skip
  |tup l=>simp only [rootsBack];exact skip
end
end Go.Mach

namespace Go.Mach
structure Ev (b s:St):Prop where
 tl:s.tmps.length=b.tmps.length
 rl:b.mem.roots.length<=s.mem.roots.length
 tm:∀ i,i ∉ s.dT->s.tmps[i]?=b.tmps[i]?
 rt:∀ r,r < b.mem.roots.length->s.mem.dR.testBit r=false->s.mem.roots[r]?=b.mem.roots[r]?
theorem Ev.congr{b b' s:St}(h:Ev b s)(hb:Alike b b'):Ev b' s:=⟨by rw [<- hb.1];exact h.tl,by rw [<- hb.2];exact h.rl,λi hi=>by rw [<- hb.1];exact h.tm i hi,λr hr hd=>by rw [<- hb.2] at hr ⊢;exact h.rt r hr hd⟩
theorem Ev.refl(b:St):Ev b b:=⟨rfl,Nat.le_refl _,λ_ _=>rfl,λ_ _ _=>rfl⟩
def rootVal(m:Mem)(μ:Locs)(r:Nat):Value :=
 match m.roots[r]?,μ r with
 |some (.arr _ _ _),some ℓ=>.slice (ℓ.addr 0) ℓ.len ℓ.cap
 |some (.box _),some ℓ=>.pointer (ℓ.blk.map λb=>⟨b,ℓ.base+0,none⟩)
 |some (.sb _ _),some ℓ=>.pointer (ℓ.blk.map λb=>⟨b,ℓ.base+0,none⟩)
 |_,_=>undef
section
variable {B:Base}{w:World}{Z:Nat->Prop}{μ:Locs}
theorem rootCell_ok{m:Mem}(hM:MemOk B m w Z μ)(r:Nat):AR w Z μ (.c (rootCell m r)) (rootVal m μ r):=by
 unfold rootCell rootVal
 cases hx:m.roots[r]? with
 |none=>trivial
 |some x =>
  cases x with
  |box cs =>
   obtain ⟨ℓ,h1,b,h2,_⟩:=hM.rt r _ hx (by simp);rw [h1];exact ⟨ℓ,b,h1,h2,by simp [h2]⟩
  |sb p xs =>
   obtain ⟨ℓ,h1,b,h2,_⟩:=hM.rt r _ hx (by simp);rw [h1];exact ⟨ℓ,b,h1,h2,by simp [h2]⟩
  |arr s xs foc =>
   obtain ⟨ℓ,h1,_⟩:=hM.rt r _ hx (by simp);rw [h1];exact ⟨ℓ,h1,rfl⟩
  |_=>trivial
theorem getV_lead{s:Sh}{m0 m m':Mem}{r:Nat}{y:s.den}(hM:MemOk B m w Z μ)(hs:s.objOk=true)(h:getV (false,s) (.c (rootCell m0 r)) m=some (y,m')):LeadR μ r s (rootVal m0 μ r):=by
 unfold getV at h;split at h
 case h_2=>cases h
 rename_i x' m1' _ hg;simp only [AV.cells] at hg;unfold rootCell at hg;unfold rootVal
 cases hx:m0.roots[r]? with
 |none=>rw [hx] at hg;cases s<;>simp [Sh.objOk] at hs<;>simp [Sh.get] at hg
 |some x =>
  rw [hx] at hg
  cases x with
  |box cs =>
   cases s with
   |own s=>simp [Sh.get] at hg
   |sb p =>
    simp only [Sh.get] at hg;split at hg
    case h_2=>cases hg
    rename_i q xs2 hb;obtain ⟨ℓ,h1,b,h2,_⟩:=hM.rt r _ hb (by simp);rw [h1];exact ⟨ℓ,b,h1,h2,by simp [h2]⟩
   |box s =>
    simp only [Sh.get] at hg;split at hg
    case h_2=>cases hg
    rename_i bs hb;obtain ⟨ℓ,h1,b,h2,_⟩:=hM.rt r _ hb (by simp);rw [h1];exact ⟨ℓ,b,h1,h2,by simp [h2]⟩
   |_=>simp [Sh.objOk] at hs
  |arr s' xs foc =>
   cases s with
   |own s =>
    simp only [Sh.get] at hg;split at hg
    case h_2=>cases hg
    rename_i s2 xs2 foc2 hb;split at hg
    case h_2=>cases hg
    rename_i _ he _ _;subst he;obtain ⟨ℓ,h1,h2,h3⟩:=hM.rt r _ hb (by simp);rw [h1];exact ⟨ℓ,h1,h3.1,h3.2.2.2.2.1,rfl⟩
   |box s=>simp [Sh.get] at hg
   |sb p=>simp [Sh.get] at hg
   |_=>simp [Sh.objOk] at hs
  |sb pq xs =>
   cases s with
   |own s=>simp [Sh.get] at hg
   |box s =>
    simp only [Sh.get] at hg;split at hg
    case h_2=>cases hg
    rename_i bs hb;obtain ⟨ℓ,h1,b,h2,_⟩:=hM.rt r _ hb (by simp);rw [h1];exact ⟨ℓ,b,h1,h2,by simp [h2]⟩
   |sb p =>
    simp only [Sh.get] at hg;split at hg
    case h_2=>cases hg
    rename_i q xs2 hb;obtain ⟨ℓ,h1,b,h2,_⟩:=hM.rt r _ hb (by simp);rw [h1];exact ⟨ℓ,b,h1,h2,by simp [h2]⟩
   |_=>simp [Sh.objOk] at hs
  |dead=>cases s<;>simp [Sh.objOk] at hs<;>simp [Sh.get] at hg
  |frz e xs=>cases s<;>simp [Sh.objOk] at hs<;>simp [Sh.get] at hg
  |bbox cs=>cases s<;>simp [Sh.objOk] at hs<;>simp [Sh.get] at hg
  |bor s' xs=>cases s<;>simp [Sh.objOk] at hs<;>simp [Sh.get] at hg
  |mapr n s' xs foc=>cases s<;>simp [Sh.objOk] at hs<;>simp [Sh.get] at hg
  |mape n s' xs i cs q=>cases s<;>simp [Sh.objOk] at hs<;>simp [Sh.get] at hg
  |itr r' n s' xs left cur=>cases s<;>simp [Sh.objOk] at hs<;>simp [Sh.get] at hg
def RootsAt(m0:Mem)(μ:Locs):List (Option Nat)->List VSh->List AV->List Value->Prop
 |o::os,a::l,x::xs,u::us=>(∀ r,o=some r->a.1=false/\a.2.objOk=true/\x=.c (rootCell m0 r)/\u=rootVal m0 μ r)/\RootsAt m0 μ os l xs us
 |_,_,_,_=>True
theorem gets_lead{m0:Mem}:∀ {l:List VSh}{os:List (Option Nat)}{xs:List AV}{vs:List Value}{m m':Mem}{Z F:Nat->Prop}{y:dens l},MemOk B m w Z μ->Loose B m w Z μ F->ARs w Z μ xs vs->gets l xs m=some (y,m')->RootsAt m0 μ os l xs vs->LeadsR μ os l vs
 |[],os,xs,vs,m,m',Z,F,y,hM,hF,hx,h,hr=>by cases os<;>trivial
 |[a],os,xs,vs,m,m',Z,F,y,hM,hF,hx,h,hr=>by
  match xs,h with
  |[x],h =>
   obtain ⟨v,vs',rfl,h1,h2⟩:=hx;have h2:vs'=[]:=h2;subst h2
   match os,hr with
   |[],_=>trivial
   |o::os,hr =>
    refine ⟨λr ho=>?_,by cases os<;>trivial⟩
    obtain ⟨k1,k2,k3,k4⟩:=hr.1 r ho;obtain ⟨g,s⟩:=a;simp only at k1 k2;subst k1;subst k3;subst k4;exact ⟨rfl,getV_lead hM k2 h⟩
 |a::b::l,os,xs,vs,m,m',Z,F,y,hM,hF,hx,h,hr=>by
  match xs,h with
  |x::xs,h =>
   obtain ⟨v,vs',rfl,h1,h2⟩:=hx;simp only [gets] at h;split at h
   case h_2=>cases h
   rename_i y1 m1 hg;split at h
   case h_2=>cases h
   rename_i y2 m2 hgs;obtain ⟨Z1,F1,S1,e1,e2,e3,_⟩:=getV_sound hM hF h1 hg
   match os,hr with
   |[],_=>trivial
   |o::os,hr =>
    refine ⟨λr ho=>?_,gets_lead (l:=b::l) e1 e2 (h2.mono (SameOn.refl _ _) e3 (ExtL.refl μ)) hgs hr.2⟩;obtain ⟨k1,k2,k3,k4⟩:=hr.1 r ho;obtain ⟨g,s⟩:=a;simp only at k1 k2;subst k1;subst k3;subst k4;exact ⟨rfl,getV_lead hM k2 hg⟩
theorem LeadsR.restrict{μr:Locs}:∀ {os:List (Option Nat)}{l:List VSh}{us:List Value},(∀ r,some r∈os->μr r=μ r)->LeadsR μ os l us->LeadsR μr os l us
 |[],_,_,_,_=>trivial
 |_::_,[],_,_,_=>trivial
 |_::_,_::_,[],_,_=>trivial
 |o::os,a::l,u::us,h,hl=>by
  refine ⟨λr ho=>?_,hl.2.restrict λr hr=>h r (List.mem_cons_of_mem _ hr)⟩;obtain ⟨h1,h2⟩:=hl.1 r ho;refine ⟨h1,?_⟩;have he:=h r (by rw [ho];exact List.mem_cons_self)
  cases hs:a.2 with
  |own s=>rw [hs] at h2;obtain ⟨ℓ,k1,k2⟩:=h2;exact ⟨ℓ,by rw [he];exact k1,k2⟩
  |box s=>rw [hs] at h2;obtain ⟨ℓ,b,k1,k2⟩:=h2;exact ⟨ℓ,b,by rw [he];exact k1,k2⟩
  |sb p=>rw [hs] at h2;obtain ⟨ℓ,b,k1,k2⟩:=h2;exact ⟨ℓ,b,by rw [he];exact k1,k2⟩
  |_=>rw [hs] at h2;exact h2.elim
theorem RootsAt.cut{m0:Mem}:∀ {sl:List (Nat×VSh)}{rt:List (Nat×Sh)}{s:St}{a:Act},(∀ p∈rt,p.2.objOk=true) ->
  RootsAt m0 μ (sl.map (λ_=>none)++rt.map λp=>some p.1) (sl.map (·.2)++rt.map λp=>(false,p.2)) (sl.map (λp=>s.get p.1)++rt.map λp=>.c (rootCell m0 p.1)) (sl.map (λp=>a.tmps.getD p.1 undef)++rt.map λp=>rootVal m0 μ p.1)
 |_::sl,rt,s,a,h=>⟨(λr hr=>by cases hr),RootsAt.cut (sl:=sl) h⟩
 |[],p::rt,s,a,h=>⟨(λr hr=>by cases hr;exact ⟨rfl,h p List.mem_cons_self,rfl,rfl⟩),RootsAt.cut (sl:=[]) (a:=a) (s:=s) λq hq=>h q (List.mem_cons_of_mem _ hq)⟩
 |[],[],_,_,_=>trivial
theorem ARs.cutL{s:St}{a:Act}(hR:Rel B s a w Z μ):∀ (sl:List (Nat×VSh)),ARs w Z μ (sl.map λp=>s.get p.1) (sl.map λp=>a.tmps.getD p.1 undef)
 |[]=>rfl
 |p::sl=>⟨_,_,rfl,hR.get p.1,ARs.cutL hR sl⟩
theorem ARs.cutR{m:Mem}(hM:MemOk B m w Z μ):∀ (rt:List (Nat×Sh)),ARs w Z μ (rt.map λp=>.c (rootCell m p.1)) (rt.map λp=>rootVal m μ p.1)
 |[]=>rfl
 |p::rt=>⟨_,_,rfl,rootCell_ok hM p.1,ARs.cutR hM rt⟩
theorem ARs.at_:∀ {xs:List AV}{vs:List Value},ARs w Z μ xs vs->∀ (k:Nat) (x:AV),xs[k]?=some x->∃ v,vs[k]?=some v/\AR w Z μ x v
 |[],_,_,k,x,h=>by simp at h
 |y::xs,vs,hx,0,x,h=>by
  obtain ⟨v,vs',rfl,h1,_⟩:=hx;simp at h;subst h;exact ⟨v,rfl,h1⟩
 |y::xs,vs,hx,k+1,x,h=>by
  obtain ⟨v,vs',rfl,_,h2⟩:=hx;simpa using ARs.at_ h2 k x (by simpa using h)
end
theorem subset_spec{a b:List Nat}(h:subset a b=true){x:Nat}(hx:x∈a):x∈b:=by
 have:=List.all_eq_true.1 h x hx;simpa using this
section
variable {B:Base}{w0 w:World}{Z0 Z:Nat->Prop}{μ0 μ:Locs}
theorem cut_soundF{c:Cut}{b s:St}{y:c.den}{a0 a:Act}{F:Nat->Prop}(hb:Rel B b a0 w0 Z0 μ0)(hs:Rel B s a w Z μ)(hL0:Loose B s.mem w Z μ F)(hev:Ev b s)(hext:ExtL μ0 μ)(h:c.get b.mem.roots.length s=some y) :
  ∃ Z' μ',Rel B (c.put b y) a w Z' μ'/\(∀ d,Z d->Z' d)/\ExtL μ0 μ'/\Loose B (c.put b y).mem w Z' μ' F:=by
 unfold Cut.get at h;split at h
 case h_2=>cases h
 rename_i x m hg;split at h
 case h_2=>cases h
 rename_i hsub1 hsub2;cases h;simp only [Bool.and_eq_true,List.all_eq_true,decide_eq_true_eq] at hsub1;obtain ⟨hdT,hnr,hns,hobj⟩:=hsub1;have hxs:=(ARs.cutL hs c.sl).append (ARs.cutR hs.mem c.rt);have hlead:=gets_lead hs.mem hL0 hxs hg (RootsAt.cut (m0:=s.mem) (s:=s) (a:=a) λp hp=>(hobj p hp).1);obtain ⟨Z',F',S,hM,hF,hZ,hFF,hS,_,hV⟩:=gets_sound hs.mem hL0 hxs hg;have hgt:=gets_touch hg
 let n0:=b.mem.roots.length
 let μr:Locs:=λr=>if r < n0 then μ r else none
 have hμr:∀ r,r < n0->μr r=μ r:=λr hr=>if_pos hr;have hμr':∀ r,n0<=r->μr r=none:=λr hr=>if_neg (by omega)
 have hμ0:∀ r,μ0 r≠none->r < n0:=λr hr=>by
  rcases Nat.lt_or_ge r n0 with h1|h1
  ·exact h1
  ·exact absurd (hb.mem.far r h1) hr
 have hrr:∀ r,μ0 r≠none->μr r=μ r:=λr hr=>hμr r (hμ0 r hr)
 have hx0:ExtL μ0 μr:=λr ℓ hr=>by rw [hrr r (by rw [hr];simp)];exact hext r ℓ hr
 let m0:Mem:=⟨killAll b.mem.roots (c.kr++c.rt.map (·.1))++List.replicate (newsL c.shs) .dead,(c.kr++c.rt.map (·.1)).foldl (λd r=>d ||| 2^r) b.mem.dR,b.mem.roots.length⟩
 have hkl:(killAll b.mem.roots (c.kr++c.rt.map (·.1))).length=n0:=killAll_length _ _
 have hm0:∀ r x,m0.roots[r]?=some x->x≠.dead->r < n0/\b.mem.roots[r]?=some x/\m.roots[r]?=some x:=by
  intro r x hx hd;rcases Nat.lt_or_ge r n0 with h1|h1
  ·have h2:(killAll b.mem.roots (c.kr++c.rt.map (·.1)))[r]?=some x:=by
    have:m0.roots[r]?=_:=List.getElem?_append_left (by rw [hkl];exact h1);rw [this] at hx;exact hx
   obtain ⟨k1,k2⟩:=killAll_get (c.kr++c.rt.map (·.1)) b.mem.roots r;by_cases hmem:r∈c.kr++c.rt.map (·.1)
   ·rw [k2 hmem] at h2
    cases hbr:b.mem.roots[r]? with
    |none=>rw [hbr] at h2;cases h2
    |some z=>rw [hbr] at h2;cases h2;exact absurd rfl hd
   ·rw [k1 hmem] at h2;refine ⟨h1,h2,?_⟩
    have hbit:m.dR.testBit r=false:=by
     cases hbb:m.dR.testBit r with
     |false=>rfl
     |true =>
      have:=subset_spec hsub2 (x:=r) (by simp only [List.mem_filter,List.mem_range];exact ⟨h1,hbb⟩);simp only [List.mem_append] at this hmem;exact absurd this.symm hmem
    have hbit':s.mem.dR.testBit r=false:=by
     cases hbb:s.mem.dR.testBit r with
     |false=>rfl
     |true=>rw [hgt.dR r hbb] at hbit;cases hbit
    rw [hgt.same r (by omega) hbit,hev.rt r h1 hbit'];exact h2
  ·have:m0.roots[r]?=_:=List.getElem?_append_right (by rw [hkl];exact h1);rw [this,List.getElem?_replicate] at hx;split at hx
   ·cases hx;exact absurd rfl hd
   ·cases hx
 have hml:m0.roots.length=n0+newsL c.shs:=by
  have hroots:m0.roots=killAll b.mem.roots (c.kr++c.rt.map (·.1))++List.replicate (newsL c.shs) Root.dead:=rfl;rw [hroots,List.length_append,hkl,List.length_replicate]
 have hM0:MemOk B m0 w Z' μr:=hM.restrict (λr x hx hd=>by
   obtain ⟨k1,k2,k3⟩:=hm0 r x hx hd;refine ⟨k3,hμr r k1,λℓ hℓ=>?_⟩;obtain ⟨ℓ0,_,g⟩:=hb.mem.rt r x k2 hd
   exact RootOk.restrict hrr g hℓ) (λr hr=>hμr' r (by omega))
 have hF0:Loose B m0 w Z' μr F':=hF.restrict λr x hx hd=>by
  obtain ⟨k1,k2,k3⟩:=hm0 r x hx hd;exact ⟨k3,hμr r k1⟩
 have hfree:Free m0 μr (newsL c.shs):=λk hk=>by
  refine ⟨hμr' _ (by show n0<=n0+k;omega),?_⟩;have:m0.roots[m0.cur+k]?=_:=List.getElem?_append_right (by rw [hkl];show n0<=n0+k;omega);rw [this,List.getElem?_replicate,if_pos (by rw [hkl];show n0+k-n0 < _;omega)]
 obtain ⟨μ2,e1,e2,e3,e4,e5⟩:=mks_back hM0 hF0 hfree hV (λd hd=>(hS d hd).1) (hlead.restrict (μr:=μr) λr hr=>by
  simp only [List.mem_append,List.mem_map,reduceCtorEq,and_false,exists_false,Option.some.injEq,false_or] at hr;obtain ⟨p,hp,rfl⟩:=hr
  exact hμr _ (hobj p hp).2)
 have hput:c.put b y=⟨setAll b.tmps ((c.sl.map (·.1)).zip (mks c.shs y m0).1++c.kill.map λk=>(k,.c .undef)),rootsBack (mks c.shs y m0).2 (c.rt.map (·.1)) ((mks c.shs y m0).1.drop c.sl.length),c.sl.map (·.1)++(c.kill++b.dT)⟩:=rfl;rw [hput];obtain ⟨hfl,_⟩:=mks_form (l:=c.shs) (x:=y) (m:=m0);generalize hmk:mks c.shs y m0=k at e1 e2 e3 e4 e5 hfl;obtain ⟨vs',m2⟩:=k;simp only at e1 e2 e3 e4 e5 hfl ⊢
 have hfl':vs'.length=c.sl.length+c.rt.length:=by rw [hfl];simp [Cut.shs]
 obtain ⟨lo',hlo,hbk⟩:=e5.up (k:=c.sl.length) (by simp) (by omega)
 have hbk':BacksOk B w Z' m2 μ2 lo' ((c.rt.map (·.1)).map some) (vs'.drop c.sl.length):=by
  have:(c.sl.map (λ_=>(none:Option Nat))++c.rt.map λp=>some p.1).drop c.sl.length=(c.rt.map (·.1)).map some:=by
   rw [List.drop_append_of_le_length (by simp),List.drop_of_length_le (by simp)];simp
  rw [<- this];exact hbk
 obtain ⟨μ3,g1,g2,_,_,g5⟩:=rootsBack_sound e1 e2 hnr (λr hr=>by
  obtain ⟨p,hp,rfl⟩:=List.mem_map.1 hr;have hlt:p.1 < n0:=(hobj p hp).2;have hcur:m0.cur=n0:=rfl;refine ⟨by omega,?_⟩;rw [(e4.old p.1 (.inl hlt)).2];have h1:m0.roots[p.1]?=_:=List.getElem?_append_left (by rw [hkl];exact hlt);rw [h1,(killAll_get _ _ _).2 (List.mem_append_right _ hr),List.getElem?_eq_getElem hlt]
  rfl) hbk'
 refine ⟨Z',μ3,⟨g1,λi z hz=>?_,?_,hs.df⟩,hZ,hx0.trans (e4.ext.trans g2),g5.grow λd hd=>⟨hFF d hd,λh=>(hS d h).2 hd⟩⟩
 ·rcases setAll_get _ _ i z hz with h1|⟨h1,h2⟩
  ·rcases List.mem_append.1 h1 with h1|h1
   ·obtain ⟨k,hk⟩:=List.getElem?_of_mem h1;rw [List.getElem?_zip_eq_some] at hk;obtain ⟨hk1,hk2⟩:=hk;obtain ⟨v,hv,har⟩:=ARs.at_ e3 k z hk2
    have hkl2:k < c.sl.length:=by
     have:=(List.getElem?_eq_some_iff.1 hk1).1;simpa using this
    rw [List.getElem?_append_left (by simpa using hkl2),List.getElem?_map] at hv;rw [List.getElem?_map] at hk1;rw [List.getElem?_eq_getElem hkl2] at hv hk1;simp only [Option.map_some,Option.some.injEq] at hv hk1;rw [<- hk1,hv];exact har.mono (SameOn.refl _ _) (λ_ h=>h) g2
   ·obtain ⟨k,_,hk⟩:=List.mem_map.1 h1;cases hk;exact AR.undef _
  ·have hnot:i ∉ s.dT:=λhi=>by
    have:=subset_spec hdT hi;rcases List.mem_append.1 this with h3|h3
    ·obtain ⟨k,hk⟩:=List.getElem?_of_mem h3
     have hkl2:k < c.sl.length:=by
      have:=(List.getElem?_eq_some_iff.1 hk).1;simpa using this
     refine h2 vs'[k] (List.mem_append_left _ (List.mem_of_getElem? (i:=k) ?_));rw [List.getElem?_zip_eq_some];exact ⟨hk,List.getElem?_eq_getElem (by omega)⟩
    ·exact h2 (.c .undef) (List.mem_append_right _ (List.mem_map.2 ⟨i,h3,rfl⟩))
   have h4:=hs.tm i z ((hev.tm i hnot).trans h1);have h5:=hb.tm i z h1;exact (AR.restrict hrr h5 h4).mono (SameOn.refl _ _) hZ (e4.ext.trans g2)
 ·show (setAll b.tmps _).length=_;rw [setAll_length,<- hev.tl];exact hs.len
theorem cut_sound{c:Cut}{b s:St}{y:c.den}{a0 a:Act}(hb:Rel B b a0 w0 Z0 μ0)(hs:Rel B s a w Z μ)(hev:Ev b s)(hext:ExtL μ0 μ)(h:c.get b.mem.roots.length s=some y) :
  ∃ Z' μ',Rel B (c.put b y) a w Z' μ'/\(∀ d,Z d->Z' d)/\ExtL μ0 μ':=by
 obtain ⟨Z',μ',h1,h2,h3,_⟩:=cut_soundF hb hs (Loose.none B s.mem w Z μ) hev hext h;exact ⟨Z',μ',h1,h2,h3⟩
end
end Go.Mach

namespace Go.Mach
theorem fold_bits:∀ (l:List Nat) (d r:Nat),(l.foldl (λd r=>d ||| 2^r) d).testBit r=(d.testBit r || l.contains r)
 |[],d,r=>by simp
 |x::l,d,r=>by
  rw [List.foldl_cons,fold_bits l,Nat.testBit_or,Nat.testBit_two_pow,List.contains_cons]
  have hx:decide (x=r)=(r == x):=by
   rw [Bool.eq_iff_iff];simp only [decide_eq_true_eq,beq_iff_eq];exact eq_comm
  rw [hx,Bool.or_assoc]
theorem rootsBack_touch:∀ (rs:List Nat) (vs:List AV) (m:Mem),Touch m (rootsBack m rs vs) 0
 |[],_,m=>by simp only [rootsBack];exact Touch.refl m
 |_::_,[],m=>by simp only [rootsBack];exact Touch.refl m
 |r::rs,v::vs,m=>by
  cases v with
  |c x =>
   simp only [rootsBack]
   cases x.root? with
   |none=>exact rootsBack_touch rs vs m
   |some q=>exact (Touch.move m q r).trans0 (rootsBack_touch rs vs _)
  |agg cs=>simp only [rootsBack];exact rootsBack_touch rs vs m
  |tup l=>simp only [rootsBack];exact rootsBack_touch rs vs m
theorem setAll_ne:∀ (l:List (Nat×AV)) (ts:List AV) (k:Nat),(∀ v,(k,v) ∉ l)->(setAll ts l)[k]?=ts[k]?
 |[],_,_,_=>rfl
 |(i,v)::l,ts,k,h=>by
  rw [setAll,setAll_ne l _ k λv' hm=>h v' (List.mem_cons_of_mem _ hm)];rw [List.getElem?_set_ne (by rintro rfl;exact h v List.mem_cons_self)]
theorem put_ev{b0 b:St}{c:Cut}{y:c.den}(h:Ev b0 b):Ev b0 (c.put b y):=by
 let m0:Mem:=⟨killAll b.mem.roots (c.kr++c.rt.map (·.1))++List.replicate (newsL c.shs) .dead,(c.kr++c.rt.map (·.1)).foldl (λd r=>d ||| 2^r) b.mem.dR,b.mem.roots.length⟩
 have hput:c.put b y=⟨setAll b.tmps ((c.sl.map (·.1)).zip (mks c.shs y m0).1++c.kill.map λk=>(k,.c .undef)),rootsBack (mks c.shs y m0).2 (c.rt.map (·.1)) ((mks c.shs y m0).1.drop c.sl.length),c.sl.map (·.1)++(c.kill++b.dT)⟩:=rfl;rw [hput];have ht:Touch m0 (rootsBack (mks c.shs y m0).2 (c.rt.map (·.1)) ((mks c.shs y m0).1.drop c.sl.length)) (newsL c.shs):=(mks_touch c.shs y m0).trans1 (rootsBack_touch _ _ _);have hkl:(killAll b.mem.roots (c.kr++c.rt.map (·.1))).length=b.mem.roots.length:=killAll_length _ _;refine ⟨(setAll_length _ _).trans h.tl,?_,λi hi=>?_,λr hr hd=>?_⟩
 ·show b0.mem.roots.length<=(rootsBack _ _ _).roots.length;rw [ht.len];have hroots:m0.roots=killAll b.mem.roots (c.kr++c.rt.map (·.1))++List.replicate (newsL c.shs) Root.dead:=rfl;rw [hroots,List.length_append,hkl];have:=h.rl;omega
 ·simp only [List.mem_append,not_or] at hi;obtain ⟨h1,h2,h3⟩:=hi;refine (setAll_ne _ _ i λv hm=>?_).trans (h.tm i h3);rcases List.mem_append.1 hm with hm|hm
  ·exact h1 (List.of_mem_zip hm).1
  ·obtain ⟨k,hk,he⟩:=List.mem_map.1 hm;cases he;exact h2 hk
 ·have hrl:=h.rl
  have hd0:m0.dR.testBit r=false:=by
   cases hb:m0.dR.testBit r with
   |false=>rfl
   |true =>
    have:=ht.dR r hb;have hd:(rootsBack (mks c.shs y m0).2 (c.rt.map (·.1)) ((mks c.shs y m0).1.drop c.sl.length)).dR.testBit r=false:=hd;rw [this] at hd;cases hd
  have hd1:((c.kr++c.rt.map (·.1)).foldl (λd r=>d ||| 2^r) b.mem.dR).testBit r=false:=hd0;rw [fold_bits] at hd1;simp only [Bool.or_eq_false_iff,List.contains_eq_mem,decide_eq_false_iff_not] at hd1;have h1:=ht.same r (.inl (show r < b.mem.roots.length by omega)) hd;refine h1.trans (.trans ?_ (h.rt r hr hd1.1));have h2:m0.roots[r]?=_:=List.getElem?_append_left (by rw [hkl];omega);rw [h2];exact (killAll_get _ _ r).1 hd1.2
theorem EKey.same_eq{a b:EKey}(h:a.same b=true):a=b:=by
 cases a<;>cases b<;>simp [EKey.same] at h<;>first|rfl|(subst h;rfl)
theorem inj_spec{n0:Nat}{k:EKey}{s:St}:∀ (ex:Exits){Φ:ex.den->Prop},(ex.inj n0 k s).sat Φ->∃ z,Φ z/\∃ (c:Cut) (y:c.den),c.get n0 s=some y/\∀ {β:Type}(K:Kont β) (st:St),ex.go st K z=K.at k (c.put st y)
 |[],Φ,h=>h.elim
 |[a],Φ,h=>by
  simp only [Exits.inj] at h;split at h
  case h_2=>exact h.elim
  rename_i hk;split at h
  case h_2=>exact h.elim
  rename_i x hx;refine ⟨x,h,a.2,x,hx,λK st=>?_⟩;simp only [Exits.go];rw [EKey.same_eq hk]
 |a::b::r,Φ,h=>by
  simp only [Exits.inj] at h;split at h
  ·rename_i hk;split at h
   case h_2=>exact h.elim
   rename_i x hx;refine ⟨.inl x,h,a.2,x,hx,λK st=>?_⟩;simp only [Exits.go,Res.sum];rw [EKey.same_eq hk]
  ·have h':(Exits.inj n0 k s (b::r)).sat λy=>Φ (.inr y):=by
    exact Res.sat_bind' h
   obtain ⟨z,h1,c,y,h2,h3⟩:=inj_spec (b::r) h';exact ⟨.inr z,h1,c,y,h2,λK st=>by simp only [Exits.go,Res.sum];exact h3 K st⟩
theorem Ent.put_ev{b s:St}{e:Ent}{o:Oper}(hd:∀ d,o.dst=some d->d∈s.dT)(hf:e.fits s.mem.roots.length)(h:Ev b s):Ev b (e.put o s):=by
 have hl:=(Ent.put_roots hf o rfl).1;refine ⟨?_,by rw [hl];exact h.rl,λi hi=>?_,λr hr hb=>?_⟩
 ·rw [Ent.put_tmps,<- h.tl];cases o.dst<;>simp
 ·rw [Ent.put_dT] at hi;rw [Ent.put_tmps,<- h.tm i hi]
  cases hdst:o.dst with
  |none=>rfl
  |some d =>
   simp only;rw [List.getElem?_set_ne (by rintro rfl;exact hi (hd d hdst))]
 ·have hlt:r < s.mem.roots.length:=Nat.lt_of_lt_of_le hr h.rl
  cases e with
  |none =>
   have hm:(Ent.put none o s).mem=s.mem:=by cases h:o.dst<;>simp [Ent.put,St.put,h]
   rw [hm] at hb ⊢;exact h.rt r hr hb
  |some e =>
   obtain ⟨v,R,W,m1⟩:=e
   have hm:(Ent.put (some (v,R,W,m1)) o s).mem=s.mem.over m1 W:=by cases h:o.dst<;>simp [Ent.put,St.with,St.put,h]
   rw [hm] at hb ⊢
   have hW:¬ W.has r/\s.mem.dR.testBit r=false:=by
    cases W with
    |none =>
     simp only [Mem.over,Nat.testBit_or,Nat.testBit_two_pow_sub_one,Bool.or_eq_false_iff,decide_eq_false_iff_not] at hb;exact absurd hlt hb.2
    |some l =>
     cases l with
     |nil=>exact ⟨by simp [Foot.has],hb⟩
     |cons x l =>
      have hb':((x::l).foldl (λd r=>d ||| 2^r) s.mem.dR).testBit r=false:=hb;rw [fold_bits] at hb';simp only [Bool.or_eq_false_iff] at hb'
      exact ⟨(λhh=>by rw [show (x::l).contains r=true from hh] at hb';cases hb'.2),hb'.1⟩
   rw [(over_get (by rw [hf v R W m1 rfl]) W r).2 hW.1];exact h.rt r hr hW.2
theorem stS_ev{b:St}{N:Nat}:∀ (L:List (Oper×Ent)) (S:Nat->Bool) (i:Nat) (s:St),(∀ p∈L,∀ d,p.1.dst=some d->d∈s.dT)->(∀ p∈L,p.2.fits N)->s.mem.roots.length=N->Ev b s->Ev b (stS L S i s)/\(stS L S i s).dT=s.dT
 |[],_,_,_,_,_,_,h=>⟨h,rfl⟩
 |(o,e)::L,S,i,s,hd,hf,hN,h=>by
  simp only [stS];have hfe:=hf (o,e) List.mem_cons_self
  cases S i with
  |false=>exact stS_ev L S (i+1) s (λp hp=>hd p (List.mem_cons_of_mem _ hp)) (λp hp=>hf p (List.mem_cons_of_mem _ hp)) hN h
  |true =>
   have h1:=stS_ev (b:=b) L S (i+1) (e.put o s) (λp hp d hdd=>by rw [Ent.put_dT];exact hd p (List.mem_cons_of_mem _ hp) d hdd) (λp hp=>hf p (List.mem_cons_of_mem _ hp)) (Ent.put_roots hfe o hN).1 (Ent.put_ev (λd hdd=>hd (o,e) List.mem_cons_self d hdd) (by rw [hN];exact hfe) h);exact ⟨h1.1,h1.2.trans (Ent.put_dT e o s)⟩
end Go.Mach

namespace Go.Mach
theorem newsAll_cons(E:Env)(o:Oper)(l:List Oper):newsAll E (o::l)=newsOf E o+newsAll E l:=by
 have:∀ (l:List Oper) (n:Nat),l.foldl (λn o=>n+newsOf E o) n=n+l.foldl (λn o=>n+newsOf E o) 0:=by
  intro l
  induction l with
  |nil=>intro n;rfl
  |cons x l ih=>intro n;rw [List.foldl_cons,List.foldl_cons,ih,ih (0+newsOf E x)];omega
 unfold newsAll;rw [List.foldl_cons,this];omega
theorem MemOk.room{B:Base}{m:Mem}{w:World}{Z:Nat->Prop}{μ:Locs}(h:MemOk B m w Z μ)(n:Nat):MemOk B (m.room n) w Z μ:=by
 refine h.restrict (λr x hx hd=>?_) (λr hr=>h.far r ?_)
 ·have hx:(m.roots++List.replicate n .dead)[r]?=some x:=hx;rcases Nat.lt_or_ge r m.roots.length with h1|h1
  ·rw [List.getElem?_append_left h1] at hx;exact ⟨hx,rfl,λ_ h=>h⟩
  ·rw [List.getElem?_append_right h1,List.getElem?_replicate] at hx;split at hx
   ·cases hx;exact absurd rfl hd
   ·cases hx
 ·have hr:(m.roots++List.replicate n Root.dead).length<=r:=hr;rw [List.length_append] at hr;omega
end Go.Mach

namespace Go.Mach
section
variable {B:Base}{E:Env}{ops:Array Oper}{A:List Nat}{β:Type}{Ψ:β->Prop}{K:St->Res β}
theorem plain_sound{Q:Exit->Act->World->Prop}{b:St}{μ0:Locs}(hdr:E.dr=false)(hE:EnvOk E B.g)
  (hQ:∀ s a w Z μ,(K s).sat Ψ->Rel B s a w Z μ->Ev b s->ExtL μ0 μ->Q .normal a w):∀ (rest:List Oper) (i c N:Nat) (l:Log) (st:St){a:Act}{w:World}{Z:Nat->Prop}{μ:Locs},
  rest=ops.toList.drop i->c+newsAll E rest<=N->N<=st.mem.roots.length->b.mem.roots.length<=c->(∀ o∈ops.toList,∀ d,o.dst=some d->d∈st.dT)->Rel B st a w Z μ->Ev b st->ExtL μ0 μ ->
  (∀ r,c<=r->r < N->μ r=none)->(execOps E ops A rest i c l st K).sat Ψ->wpOps E.P ops Q (List.range' i rest.length) a w
 |[],i,c,N,l,st,a,w,Z,μ,hrest,hc,hN,hbl,hd,hR,hev,hext,hfree,h=>by
  simp only [List.length_nil,List.range'_zero,wpOps];refine hQ _ a w Z μ h ⟨hR.mem.congr rfl,hR.tm,hR.len,hR.df⟩ ⟨hev.tl,hev.rl,hev.tm,hev.rt⟩ hext
 |o::rest,i,c,N,l,st,a,w,Z,μ,hrest,hc,hN,hbl,hd,hR,hev,hext,hfree,h=>by
  rw [newsAll_cons] at hc
  have ho:ops.toList[i]?=some o:=by
   have h1:=congrArg (λl:List Oper=>l[0]?) hrest;simpa using h1.symm
  have ho':ops[i]?=some o:=by simpa using ho
  have hmem:o∈ops.toList:=List.mem_of_getElem? ho
  have hrest':rest=ops.toList.drop (i+1):=by
   have h1:=congrArg List.tail hrest;simpa using h1
  simp only [List.length_cons,List.range'_succ,wpOps,ho'];simp only [execOps] at h;split at h
  ·rename_i hw;rw [hdr] at h;simp only at h;rw [wanted_rel hR hw];simp only [if_true];left
   let st':St:=⟨st.tmps,st.mem.at c,st.dT⟩
   have hR':Rel B st' a w Z μ:=⟨hR.mem.congr rfl,hR.tm,hR.len,hR.df⟩;split at h
   ·
    rename_i j xs hj;obtain ⟨cl,hop,hcal,rfl,hjm,_⟩:=inlOf_spec hj;have hok:=hE.inls j hjm;obtain ⟨fn,hfn,hbody,hname⟩:=hok.fn
    have hexec:(execOp a.eval o).run E.P w=.ok (.enter j.f (cl.args.toList.map a.eval).toArray) w:=by
     have hfv:a.eval (.func j.f)=.func (.func j.f) #[] #[]:=rfl;simp only [execOp,hop,resolve,hcal,hfv,Deferred.ofValue,Sem.run_bind,Sem.run_pure,Result.andThen_ok,invoke]
     have hb:fn.body.isNone=false:=by cases hfb:fn.body with
      |none=>rw [hfb] at hbody;cases hbody
      |some _=>rfl
     simp only [callFunc];have hprog:(program:Sem Program).run E.P w=.ok E.P w:=rfl;simp only [Sem.run_bind,hprog,Result.andThen_ok,hfn,hname,hb,Bool.false_eq_true,if_false,Sem.run_pure]
     have:(cl.args.toList.map a.eval).toArray=cl.args.map a.eval:=by
      apply Array.ext';simp
     rw [this];simp
    refine Oper.wp_any (wp_of_enter hexec (Calls.mono (hok.run B β Ψ _ _ _ w Z μ _ rfl hR'.mem (ARs.vals hR _) h) ?_));rintro e w' ⟨vr,v,m',Z',μ',rfl,hk,hM,hv,hsame,hzz,hext',hlen,hkeep,hbits⟩;refine ⟨vr,rfl,?_⟩;have hg:=(guard_sat hk).1
    have hmem':(st.with o.dst v (m'.room (newsAll E rest))).mem=m'.room (newsAll E rest):=by cases hx:o.dst<;>simp [St.with,St.put,hx]
    have hdT':(st.with o.dst v (m'.room (newsAll E rest))).dT=st.dT:=by cases hx:o.dst<;>simp [St.with,St.put,hx]
    have htm:(st.with o.dst v (m'.room (newsAll E rest))).tmps=(match o.dst with|some d=>st.tmps.set d v|none=>st.tmps):=by cases hx:o.dst<;>simp [St.with,St.put,hx]
    have hlen:st.mem.roots.length<=m'.roots.length:=hlen;have hkeep:∀ r,r < st.mem.roots.length->m'.dR.testBit r=false->m'.roots[r]?=st.mem.roots[r]?:=hkeep;have hbits:∀ r,st.mem.dR.testBit r=true->m'.dR.testBit r=true:=hbits
    have hrl:(m'.room (newsAll E rest)).roots.length=m'.roots.length+newsAll E rest:=by simp [Mem.room]
    refine plain_sound hdr hE hQ rest (i+1) m'.roots.length (m'.roots.length+newsAll E rest) l _ hrest' (Nat.le_refl _) (by rw [hmem',hrl];exact Nat.le_refl _) (Nat.le_trans hev.rl hlen) (by rw [hdT'];exact hd)
     (hR.put (hM.room _) hsame hzz hext' o.dst hv) ⟨?_,by rw [hmem',hrl];exact Nat.le_trans hev.rl (Nat.le_trans hlen (Nat.le_add_right _ _)),λk hk=>?_,λr hr hb=>?_⟩ (hext.trans hext') (λr h1 _=>hM.far r h1) hg
    ·rw [htm,<- hev.tl];cases o.dst<;>simp
    ·rw [hdT'] at hk;rw [htm,<- hev.tm k hk]
     cases hdst:o.dst with
     |none=>rfl
     |some d =>
      simp only;rw [List.getElem?_set_ne (by rintro rfl;exact hk (hd o hmem d hdst))]
    ·rw [hmem'] at hb ⊢;have hb:m'.dR.testBit r=false:=hb
     have hb0:st.mem.dR.testBit r=false:=by
      cases hbb:st.mem.dR.testBit r with
      |false=>rfl
      |true=>rw [hbits r hbb] at hb;cases hb
     have hrs:r < st.mem.roots.length:=Nat.lt_of_lt_of_le hr hev.rl;show (m'.roots++List.replicate (newsAll E rest) Root.dead)[r]?=_;rw [List.getElem?_append_left (Nat.lt_of_lt_of_le hrs hlen),hkeep r hrs hb];exact hev.rt r hr hb0
   have hF:Fresh st' (newsOf E o) μ:=λk hk=>by
    have h1:μ (c+k)=none:=hfree _ (by omega) (by omega);refine ⟨h1,?_⟩;show st.mem.roots[c+k]?=_
    cases hx:st.mem.roots[c+k]? with
    |none=>rw [List.getElem?_eq_none_iff] at hx;omega
    |some x =>
     by_cases hdd:x=.dead
     ·rw [hdd]
     ·obtain ⟨ℓ,h2,_⟩:=hR.mem.rt _ x hx hdd;rw [h1] at h2;cases h2
   rw [stepV_cps] at h
   have h1:(step E st' o Res.ok).sat λs'=>∃ v m,s'=st.with o.dst v m/\TouchLe (st.mem.at c) m (newsOf E o)/\(guardK ops o.dst (st.with o.dst v m) λst'=>execOps E ops A rest (i+1) (c+newsOf E o) l st' K).sat Ψ:=by
    have h2:=sat_bind h;have hends:=stepV_ends E (val st) (λg=>rfl) (st.mem.at c) o;unfold step
    rw [show val st'=val st from val_eq st _ _,stepV_cps E (val st) st'.mem o]
    show ((stepV E (val st) (st.mem.at c) o endV).bind _).sat _;exact Res.bind_sat (Res.sat_imp (λp hp=>⟨p.1,p.2,rfl,hp.2,hp.1⟩) (Res.sat_strip h2 λp hp=>hends p.1 p.2 hp))
   refine Oper.wp_any (Oper.wp_mono ?_ (step_sound hR' hE (Nat.le_refl _) hF h1));rintro a' w' ⟨s',Z',μ',hR2,⟨v,m,rfl,⟨k,hk,ht⟩,hg⟩,hlen,hdT,hout,hzz,hext'⟩;have hg:=(guard_sat hg).1
   have hmem':(st.with o.dst v m).mem=m:=by cases hx:o.dst<;>simp [St.with,St.put,hx]
   have hdT':(st.with o.dst v m).dT=st.dT:=by cases hx:o.dst<;>simp [St.with,St.put,hx]
   have htm:(st.with o.dst v m).tmps=(match o.dst with|some d=>st.tmps.set d v|none=>st.tmps):=by cases hx:o.dst<;>simp [St.with,St.put,hx]
   have hml:m.roots.length=st.mem.roots.length:=ht.len;rw [hmem'] at hlen
   refine plain_sound hdr hE hQ rest (i+1) (c+newsOf E o) N l _ hrest' (by omega) (by rw [hmem',hml];exact hN) (by omega) (by rw [hdT'];exact hd) hR2 ⟨?_,by rw [hmem',hml];exact hev.rl,λj hj=>?_,λr hr hb=>?_⟩ (hext.trans hext') (λr h1 h2=>hout r (.inr (show c+newsOf E o<=r from h1)) (hfree r (by omega) h2)) hg
   ·rw [htm,<- hev.tl];cases o.dst<;>simp
   ·rw [hdT'] at hj;rw [htm,<- hev.tm j hj]
    cases hdst:o.dst with
    |none=>rfl
    |some d =>
     simp only;rw [List.getElem?_set_ne (by rintro rfl;exact hj (hd o hmem d hdst))]
   ·rw [hmem'] at hb ⊢
    have hb0:st.mem.dR.testBit r=false:=by
     cases hbb:st.mem.dR.testBit r with
     |false=>rfl
     |true=>rw [ht.dR r hbb] at hb;cases hb
    rw [ht.same r (.inl (show r < c by omega)) hb];exact hev.rt r hr hb0
  ·rename_i hw;rw [wanted_rel hR hw];simp only [Bool.false_eq_true,if_false];have hR':Rel B (st.put o.dst (.tup [])) (a.put o.dst Go.undef) w Z μ:=hR.put0 o.dst ⟨[],rfl,rfl,λk h=>by simp at h⟩
   have hmem':(st.put o.dst (.tup [])).mem=st.mem:=by cases hx:o.dst<;>simp [St.put,hx]
   have hdT':(st.put o.dst (.tup [])).dT=st.dT:=by cases hx:o.dst<;>simp [St.put,hx]
   have htm:(st.put o.dst (.tup [])).tmps=(match o.dst with|some d=>st.tmps.set d (.tup [])|none=>st.tmps):=by cases hx:o.dst<;>simp [St.put,hx]
   refine plain_sound hdr hE hQ rest (i+1) (c+newsOf E o) N l _ hrest' (by omega) (by rw [hmem'];exact hN) (by omega) (by rw [hdT'];exact hd) hR' ⟨?_,by rw [hmem'];exact hev.rl,λj hj=>?_,λr hr hb=>?_⟩ hext (λr h1 h2=>hfree r (by omega) h2) h
   ·rw [htm,<- hev.tl];cases o.dst<;>simp
   ·rw [hdT'] at hj;rw [htm,<- hev.tm j hj]
    cases hdst:o.dst with
    |none=>rfl
    |some d =>
     simp only;rw [List.getElem?_set_ne (by rintro rfl;exact hj (hd o hmem d hdst))]
   ·rw [hmem'] at hb ⊢;exact hev.rt r hr hb
  ·exact h.elim
end
end Go.Mach

namespace Go.Mach
def EKey.exit:EKey->Exit
 |.nrm=>.normal
 |.ret=>.ret
 |.ext n=>.exit n
section
variable {B:Base}
theorem Rel.more{st:St}{a:Act}{w:World}{Z:Nat->Prop}{μ:Locs}(h:Rel B st a w Z μ)(n c:Nat)(l:List Nat):Rel B ⟨st.tmps,⟨st.mem.roots++List.replicate n .dead,st.mem.dR,c⟩,l⟩ a w Z μ:=by
 refine ⟨h.mem.restrict (λr x hx hd=>?_) (λr hr=>h.mem.far r ?_),h.tm,h.len,h.df⟩
 ·have hx:(st.mem.roots++List.replicate n .dead)[r]?=some x:=hx;rcases Nat.lt_or_ge r st.mem.roots.length with h1|h1
  ·rw [List.getElem?_append_left h1] at hx;exact ⟨hx,rfl,λ_ h=>h⟩
  ·rw [List.getElem?_append_right h1,List.getElem?_replicate] at hx;split at hx
   ·cases hx;exact absurd rfl hd
   ·cases hx
 ·have hr:(st.mem.roots++List.replicate n Root.dead).length<=r:=hr;rw [List.length_append] at hr;omega
theorem Ev.more{b st:St}(h:Ev b st)(n c:Nat)(l:List Nat):Ev b ⟨st.tmps,⟨st.mem.roots++List.replicate n .dead,st.mem.dR,c⟩,l++st.dT⟩:=by
 refine ⟨h.tl,?_,λi hi=>h.tm i λhm=>hi (List.mem_append_right _ hm),λr hr hb=>?_⟩
 ·show b.mem.roots.length<=(st.mem.roots++List.replicate n Root.dead).length;rw [List.length_append];have:=h.rl;omega
 ·show (st.mem.roots++List.replicate n Root.dead)[r]?=_;rw [List.getElem?_append_left (Nat.lt_of_lt_of_le hr h.rl)];exact h.rt r hr hb
variable {E:Env}
def Sound(B:Base)(E:Env)(c:Code){β:Type}(r:Res β)(st:St)(K:Kont β):Prop :=
 ∀ (Ψ:β->Prop) (Q:Exit->Act->World->Prop) (b:St) (a0 a:Act) (w0 w:World) (Z0 Z:Nat->Prop) (μ0 μ:Locs),r.sat Ψ->Rel B b a0 w0 Z0 μ0->Rel B st a w Z μ->Ev b st->ExtL μ0 μ ->
  (∀ (e:EKey) (s:St) (a':Act) (w':World) (Z':Nat->Prop) (μ':Locs),(K.at e s).sat Ψ->Rel B s a' w' Z' μ'->Ev b s->ExtL μ0 μ'->Q e.exit a' w')->c.wp E.P Q a w
theorem cutAt_sound{c:Code}{β:Type}{ann:Ann}{st:St}{K:Kont β}{run:(γ:Type)->Ann->St->Kont γ->Res γ}(hrun:∀ (γ:Type) (ann:Ann) (st:St) (K:Kont γ),Sound B E c (run γ ann st K) st K) :
  Sound B E c (cutAt ann st K run) st K:=by
 intro Ψ Q b a0 a w0 w Z0 Z μ0 μ h hb hR hev hext hK;unfold cutAt at h;split at h
 ·rename_i ex hex;have hal:Alike st (fresh st):=⟨rfl,rfl⟩;refine hrun ex.den ann.inner (fresh st) (kex st.mem.roots.length ex) _ Q (fresh st) a a w w Z Z μ μ (sat_bind h) (hR.alike hal) (hR.alike hal) (Ev.refl _) (ExtL.refl μ) ?_;intro e s a' w' Z' μ' hs hR' hev' hext'
  have hs':(ex.inj st.mem.roots.length e s).sat λx=>(ex.go st K x).sat Ψ:=by
   cases e<;>exact hs
  obtain ⟨z,hz,c',y,hget,hgo⟩:=inj_spec ex hs';rw [hgo K st] at hz;obtain ⟨Z2,μ2,g1,g2,g3⟩:=cut_sound (b:=st) hR hR' (hev'.congr ⟨rfl,rfl⟩) hext' hget;exact hK e _ a' w' Z2 μ2 hz g1 (put_ev hev) (hext.trans g3)
 ·exact hrun β ann st K Ψ Q b a0 a w0 w Z0 Z μ0 μ h hb hR hev hext hK
theorem region_sound(hm:E.P.follows .mixedOrders=true)(hE:EnvOk E B.g){id:Nat}{ops:Array Oper}{draw:Bool}{β:Type}(st:St)(K:Kont β) :
  Sound B E (.region id ops draw) (match (match draw with|true=>ancs ops.toList []|false=>[]) with
  |A=>match !draw || (edgesOk ops && (ancOk ops A && (slotsAll ops A && Region.noSelect ops))) with
   |true=>execOps { E with dr:=draw } ops A ops.toList 0 st.mem.roots.length []
     ⟨st.tmps,⟨st.mem.roots++List.replicate (newsAll E ops.toList) .dead,st.mem.dR,st.mem.roots.length⟩,dsts ops++st.dT⟩ K.nrm
   |false=>.stuck) st K:=by
 intro Ψ Q b a0 a w0 w Z0 Z μ0 μ h hb hR hev hext hK
 generalize (match draw with|true=>ancs ops.toList []|false=>[])=A at h
 simp only at h;split at h
 case h_2=>exact h.elim
 rename_i hg;have hR1:=hR.more (newsAll E ops.toList) st.mem.roots.length (dsts ops++st.dT);have hev1:=hev.more (newsAll E ops.toList) st.mem.roots.length (dsts ops);have hnews:newsAll { E with dr:=draw } ops.toList=newsAll E ops.toList:=rfl;have hdst:∀ o∈ops.toList,∀ d,o.dst=some d->d∈dsts ops++st.dT:=λo ho d hd=>List.mem_append_left _ (List.mem_filterMap.2 ⟨o,ho,hd⟩)
 have hN:st.mem.roots.length+newsAll { E with dr:=draw } ops.toList<=(st.mem.roots++List.replicate (newsAll E ops.toList) Root.dead).length:=by
  rw [List.length_append,List.length_replicate,hnews];exact Nat.le_refl _
 cases draw with
 |false =>
  have h1:=plain_sound (B:=B) (E:={ E with dr:=false }) (ops:=ops) (A:=A) (Ψ:=Ψ) (K:=K.nrm) (Q:=Q) (b:=b) (μ0:=μ0) rfl ⟨hE.specs,hE.inls⟩
   (λs a' w' Z' μ' hs hR' hev' hext'=>hK .nrm s a' w' Z' μ' hs hR' hev' hext') ops.toList 0 st.mem.roots.length _ [] _ (by simp) hN (Nat.le_refl _) hev.rl hdst hR1 hev1 hext (λr h1 _=>hR.mem.far r h1) h
  refine wp_region ?_
  have:List.range ops.size=List.range' 0 ops.toList.length:=by rw [List.range_eq_range'];simp
  rw [this];exact h1
 |true =>
  simp only [Bool.not_true,Bool.false_or,Bool.and_eq_true] at hg;obtain ⟨he,hA,hs,_⟩:=hg;refine draw_sound (E:={ E with dr:=true }) (B:=B) hm rfl ⟨hE.specs,hE.inls⟩ he hA hs hN hR1 (λr h1 _=>hR.mem.far r h1) h ?_;intro es hT hes hKs a' w' Z' μ' hR' _ hext' _
  have hst:=stS_ev (b:=b) (ops.toList.zip es) (λj=>decide (j < es.length)) 0 ⟨st.tmps,⟨st.mem.roots++List.replicate (newsAll E ops.toList) .dead,st.mem.dR,st.mem.roots.length⟩,dsts ops++st.dT⟩
   (λp hp d hd=>hdst p.1 (List.of_mem_zip hp).1 d hd) (hT.fits rfl) rfl hev1
  exact hK .nrm _ a' w' Z' μ' hKs ⟨hR'.mem.congr rfl,hR'.tm,hR'.len,hR'.df⟩ ⟨hst.1.tl,hst.1.rl,hst.1.tm,hst.1.rt⟩ (hext.trans hext')
def Ann.depth:Ann->Nat
 |.unr _ r=>r.depth+1
 |_=>0
theorem unroll_sound{c:Code}{β:Type}{run:Ann->St->Kont β->Res β}(hc:∀ (ann:Ann) (st:St) (K:Kont β),Sound B E c (run ann st K) st K){K:Kont β}
  {Ψ:β->Prop}{Q:Exit->Act->World->Prop}{b:St}{a0:Act}{w0:World}{Z0:Nat->Prop}{μ0:Locs}(hb:Rel B b a0 w0 Z0 μ0)
  (hK:∀ (e:EKey) (s:St) (a':Act) (w':World) (Z':Nat->Prop) (μ':Locs),(K.at e s).sat Ψ->Rel B s a' w' Z' μ'->Ev b s->ExtL μ0 μ'->Q e.exit a' w') :
  ∀ (ann:Ann) (st:St) (a:Act) (w:World) (Z:Nat->Prop) (μ:Locs),(unrollK run ann st K).sat Ψ->Rel B st a w Z μ->Ev b st->ExtL μ0 μ->Code.rounds E.P c Q ann.depth a w:=by
 intro ann
 induction ann with
 |unr a1 r _ ih =>
  intro st a w Z μ h hR hev hext;simp only [Ann.depth];rw [rounds_succ];refine hc a1 st _ Ψ (Exit.then (Code.rounds E.P c Q r.depth) Q) b a0 a w0 w Z0 Z μ0 μ h hb hR hev hext ?_;intro e s a' w' Z' μ' hs hR' hev' hext'
  cases e with
  |nrm=>exact ih s a' w' Z' μ' hs hR' hev' hext'
  |ret=>exact hK .ret s a' w' Z' μ' hs hR' hev' hext'
  |ext n=>exact hK (.ext n) s a' w' Z' μ' hs hR' hev' hext'
 |_=>intro st a w Z μ h;exact h.elim
theorem loop_sound{c:Code}{β:Type}{head:Cut}{ex:Exits}{a':Ann}{st:St}{K:Kont β}(hc:∀ (γ:Type) (ann:Ann) (st:St) (K:Kont γ),Sound B E c (exec E c γ ann st K) st K)
  {Ψ:β->Prop}{Q:Exit->Act->World->Prop}{b:St}{a1:Act}{w1:World}{Z1:Nat->Prop}{μ0 μ:Locs}(hR:Rel B st a1 w1 Z1 μ) (hev:Ev b st) (hext:ExtL μ0 μ)
  (hK:∀ (e:EKey) (s:St) (a':Act) (w':World) (Z':Nat->Prop) (μ':Locs),(K.at e s).sat Ψ->Rel B s a' w' Z' μ'->Ev b s->ExtL μ0 μ'->Q e.exit a' w') :
  ∀ (n:Nat) (x:head.den) (a:Act) (w:World) (Z:Nat->Prop) (μ':Locs),(Res.loop (λx=>exec E c (Res.Step head.den ex.den) a' (head.put (fresh st) x) (kloop st.mem.roots.length head ex)) n x).sat (λy=>(ex.go st K y).sat Ψ) ->
   Rel B (head.put (fresh st) x) a w Z μ'->ExtL μ μ'->Code.rounds E.P c Q n a w
 |0,x,a,w,Z,μ',h,_,_=>h.elim
 |n+1,x,a,w,Z,μ',h,hRx,hxx=>by
  have hal:Alike st (fresh st):=⟨rfl,rfl⟩;rw [rounds_succ];refine hc _ a' (head.put (fresh st) x) (kloop st.mem.roots.length head ex) _ (Exit.then (Code.rounds E.P c Q n) Q) (fresh st) a1 a w1 w Z1 Z μ μ' (sat_bind h) (hR.alike hal) hRx (put_ev (Ev.refl _)) hxx ?_;intro e s a2 w2 Z2 μ2 hs hR' hev' hext'
  have out:∀ (Φ:Res.Step head.den ex.den->Prop),(∀ y,Φ (.done y)->(ex.go st K y).sat Ψ)->((ex.inj st.mem.roots.length e s).bind λy=>(.ok (.done y):Res (Res.Step head.den ex.den))).sat Φ->Q e.exit a2 w2:=λΦ hΦ hs=>by
   have hs':(ex.inj st.mem.roots.length e s).sat λx=>(ex.go st K x).sat Ψ:=by
    exact Res.sat_imp (λy hy=>hΦ y hy) (sat_bind hs)
   obtain ⟨z,hz,c',y,hget,hgo⟩:=inj_spec ex hs';rw [hgo K st] at hz;obtain ⟨Z3,μ3,g1,g2,g3⟩:=cut_sound (b:=st) hR hR' (hev'.congr ⟨rfl,rfl⟩) hext' hget;exact hK e _ a2 w2 Z3 μ3 hz g1 (put_ev hev) (hext.trans g3)
  cases e with
  |nrm =>
   simp only [Kont.at,kloop] at hs;split at hs
   case h_2=>exact hs.elim
   rename_i y hy;have hs:(Res.loop _ n y).sat _:=hs;obtain ⟨Z3,μ3,g1,g2,g3⟩:=cut_sound (b:=fresh st) (hR.alike hal) hR' hev' hext' hy;exact loop_sound hc hR hev hext hK n y a2 w2 Z3 μ3 hs g1 g3
  |ret=>exact out _ (λy hy=>hy) hs
  |ext k=>exact out _ (λy hy=>hy) hs
end
end Go.Mach

namespace Go.Mach
open Go.ChangeMaps (setBlock)
theorem IntKind.same_self(k:IntKind):IntKind.same k k=some ⟨rfl⟩:=by cases k<;>rfl
theorem Ty.same_self:∀ (t:Ty),Ty.same t t=some ⟨rfl⟩
 |.unit=>rfl
 |.int k=>by simp only [Ty.same,IntKind.same_self]
 |.bool=>rfl
 |.str=>rfl
 |.list e=>by simp only [Ty.same,Ty.same_self e]
 |.pair a b=>by simp only [Ty.same,Ty.same_self a,Ty.same_self b]
 |.rose a=>by simp only [Ty.same,Ty.same_self a]
theorem natEq_self(n:Nat):Nat.decEq n n=.isTrue rfl:=by
 cases h:Nat.decEq n n with
 |isTrue _=>rfl
 |isFalse h'=>exact absurd rfl h'
theorem Sh.same_self:∀ (s:Sh),Sh.same s s=some ⟨rfl⟩
 |.nil=>rfl
 |.undef=>rfl
 |.nilp=>rfl
 |.nilz=>rfl
 |.err=>rfl
 |.opq=>rfl
 |.sb p=>by
  simp only [Sh.same];split
  ·rfl
  ·rename_i h;exact (h rfl (Subsingleton.elim _ _)).elim
 |.frz t=>by simp only [Sh.same,Ty.same_self t]
 |.own s=>by simp only [Sh.same,Sh.same_self s]
 |.box s=>by simp only [Sh.same,Sh.same_self s]
 |.bor s=>by simp only [Sh.same,Sh.same_self s]
 |.map n s=>by simp only [Sh.same,natEq_self,Sh.same_self s]
 |.clo f s=>by simp only [Sh.same,natEq_self,Sh.same_self s]
 |.seq a b=>by simp only [Sh.same,Sh.same_self a,Sh.same_self b]
theorem nextOps_spec{ops:Array Oper}{it a b:Tmp}(h:nextOps ops=some (it,a,b)):a≠b/\∃ t1 p1 e1 t2 p2 e2,ops=#[⟨some a,.next (.tmp it) false,t1,p1,e1,none⟩,⟨some b,.extract (.tmp a) 0,t2,p2,e2,none⟩]:=by
 unfold nextOps at h;split at h
 case h_2=>cases h
 rename_i a0 it0 t1 p1 e1 b0 a0' t2 p2 e2 hl;split at h
 case h_2=>cases h
 rename_i hc;simp only [Bool.and_eq_true,beq_iff_eq,Bool.not_eq_true',beq_eq_false_iff_ne,ne_eq] at hc;obtain ⟨rfl,hne⟩:=hc;cases h;exact ⟨hne,t1,p1,e1,t2,p2,e2,by apply Array.ext';rw [hl]⟩
theorem put_eval_at{a:Act}{t:Tmp}{v:Value}(h:t < a.tmps.size):(a.put (some t) v).eval (.tmp t)=v:=by
 simp [Act.put,Act.eval,h]
theorem put_eval_ne{a:Act}{t u:Tmp}{v:Value}(h:t≠u):(a.put (some t) v).eval (.tmp u)=a.eval (.tmp u):=by
 simp [Act.put,Act.eval,Array.getElem?_setIfInBounds,h]
theorem step_wp{P:Program}{id:Nat}{ops:Array Oper}{it ta tb:Tmp}(hops:nextOps ops=some (it,ta,tb)){a:Act}{w:World}(hta:ta < a.tmps.size){itb bm clock:Nat}{seen:Array Nat}{es:Array MapEntry}
  (hit:a.eval (.tmp it)=.pointer (some ⟨itb,0,none⟩)) (hr:w.heap[itb]?=some (.mapIter (some bm) clock seen clock)) (hb:w.heap[bm]?=some (.map es clock)) (hold:∀ x∈es.toList,x.born < clock)
  {Q:Exit->Act->World->Prop}(h0:(leftOf es seen).size=0->Q .normal ((a.put (some ta) (.tuple #[.bool false])).put (some tb) (.bool false)) w)
  (h1:∀ e∈(leftOf es seen).toList,∀ w1:World,(w1=w\/w1=w.drew)->Q .normal ((a.put (some ta) (.tuple #[.bool true,e.key,e.val])).put (some tb) (.bool true)) (setBlock w1 itb (.mapIter (some bm) clock (seen.push e.born) clock))) :
  (Code.region id ops false).wp P Q a w:=by
 obtain ⟨hne,t1,p1,e1,t2,p2,e2,rfl⟩:=nextOps_spec hops;refine wp_region ?_
 have hrg:List.range (#[(⟨some ta,.next (.tmp it) false,t1,p1,e1,none⟩:Oper),⟨some tb,.extract (.tmp ta) 0,t2,p2,e2,none⟩]).size=[0,1]:=rfl
 rw [hrg];simp only [wpOps,List.getElem?_toArray,List.getElem?_cons_zero,List.getElem?_cons_succ,Region.wanted,if_true];left
 have second:∀ (v:Value) (vs:Array Value) (w':World) (t:Bool),v=.tuple vs->vs[0]?=some (.bool t)->Q .normal ((a.put (some ta) v).put (some tb) (.bool t)) w' ->
   (⟨some tb,.extract (.tmp ta) 0,t2,p2,e2,none⟩:Oper).wp P (a.put (some ta) v) w' (λa w=>Q .normal a w) Q:=by
  intro v vs w' t hv hvs hq;refine wp_of_value (v:=.bool t) (w':=w') ?_ hq;simp only [execOp,put_eval_at hta,hv];simp [Instr.extract,hvs]
 have hw2:∀ a':Act,wpOps P #[(⟨some ta,.next (.tmp it) false,t1,p1,e1,none⟩:Oper),⟨some tb,.extract (.tmp ta) 0,t2,p2,e2,none⟩] Q [1] a'=λw'=>(⟨some tb,.extract (.tmp ta) 0,t2,p2,e2,none⟩:Oper).wp P a' w' (λa w=>Q .normal a w) Q\/((⟨some tb,.extract (.tmp ta) 0,t2,p2,e2,none⟩:Oper).asks P a' w'/\LetsOut Q):=by
  intro a';funext w';simp only [wpOps,List.getElem?_toArray,List.getElem?_cons_zero,List.getElem?_cons_succ,Region.wanted,if_true]
 rcases run_next_at (P:=P) w t1 itb bm clock clock seen es clock hr hb hold (Nat.le_refl _) with ⟨hz,hrun⟩|⟨e,he,w1,hw1,hrun⟩
 ·refine wp_of_value (v:=.tuple #[.bool false]) (w':=w) ?_ (.inl (second _ #[.bool false] w false rfl rfl (h0 hz)));simp only [execOp,hit];simp [hrun]
 ·refine wp_of_value (v:=.tuple #[.bool true,e.key,e.val]) (w':=setBlock w1 itb (.mapIter (some bm) clock (seen.push e.born) clock)) ?_ (.inl (second _ #[.bool true,e.key,e.val] _ true rfl rfl (h1 e he w1 hw1)));simp only [execOp,hit];simp [hrun]
theorem setBlock_ne(w:World){b d:Nat}(o:Obj)(h:d≠b):(setBlock w b o).heap[d]?=w.heap[d]?:=setB_ne w o h
theorem setBlock_at(w:World){b:Nat}(o:Obj)(h:b < w.heap.size):(setBlock w b o).heap[b]?=some o:=setB_at w o h
theorem setBlock_size(w:World)(b:Nat)(o:Obj):(setBlock w b o).heap.size=w.heap.size:=setB_size w b o
section
variable {B:Base}{w:World}{Z F:Nat->Prop}{μ:Locs}
def ItInv(B:Base)(w:World)(Z F:Nat->Prop)(itb bm n:Nat)(s:Sh)(xs:List (List Int×s.den))(left:List Int->Bool)(es:Array MapEntry)(clock:Nat)(seen:Array Nat):Prop :=
 F itb/\∃ S:Nat->Prop,(∀ d,S d->F d/\d≠itb)/\w.heap[itb]?=some (.mapIter (some bm) clock seen clock)/\w.heap[bm]?=some (.map es clock) /\
  (∀ i (h:i < xs.length) (h':i < es.size),left xs[i].1=true ↔ seen.contains es[i].born=false)/\MapR w n xs (λ_ us x S=>SR w Z B.Y s us x S) bm S
theorem ItInv.up{Z' F':Nat->Prop}{itb bm n:Nat}{s:Sh}{xs:List (List Int×s.den)}{left:List Int->Bool}{es:Array MapEntry}{clock:Nat}{seen:Array Nat}(h:ItInv B w Z F itb bm n s xs left es clock seen)(hz:∀ b,Z b->Z' b)(hf:∀ b,F b->F' b) :
  ItInv B w Z' F' itb bm n s xs left es clock seen:=by
 obtain ⟨h1,S,h2,h3,h4,h5,h6⟩:=h;exact ⟨hf _ h1,S,λd hd=>⟨hf d (h2 d hd).1,(h2 d hd).2⟩,h3,h4,h5,h6.mono rfl (λ_ h=>h) λi us x T _ hR=>hR.up hz⟩
theorem enter_sound{s:St}{a:Act}(hR:Rel B s a w Z μ)(hL:Loose B s.mem w Z μ F){itb bm n q r clock:Nat}{sh:Sh}{xs rest':List (List Int×(Sh.own sh).den)}{left:List Int->Bool}{es:Array MapEntry}{seen:Array Nat}
  (hI:ItInv B w Z F itb bm n (.own sh) xs left es clock seen) (hq:s.mem.roots[q]?=some .dead){ℓq ℓr:Loc}(hμq:μ q=some ℓq) (hb1:ℓq.blk=some itb) (hb2:ℓq.base=0) (hμr:μ r=some ℓr) (hb3:ℓr.blk=some bm)
  {i:Nat}(hi:i < xs.length) (hi':i < es.size){w1:World}(hw1:w1=w\/w1=w.drew)
  (hleft:∀ j (h:j < xs.length) (h':j < es.size),Res.keyIn rest' xs[j].1=true ↔ (seen.push es[i].born).contains es[j].born=false) (ta tb:Tmp) (v v':Value) :
  ∃ μ',Rel B (s.enter ta tb q r n sh xs rest' xs[i]) ((a.put (some ta) v).put (some tb) v') (setBlock w1 itb (.mapIter (some bm) clock (seen.push es[i].born) clock)) Z μ'/\ExtL μ μ'/\SameOn Z w (setBlock w1 itb (.mapIter (some bm) clock (seen.push es[i].born) clock)):=by
 obtain ⟨hF,S,hS,hit,hbm,_,hMap⟩:=hI;obtain ⟨f1,f2,f3⟩:=hL.ok itb hF
 let w2:=setBlock w1 itb (.mapIter (some bm) clock (seen.push es[i].born) clock)
 have hh1:w1.heap=w.heap:=by rcases hw1 with rfl|rfl<;>rfl
 have hio:Io B.g.dr w w2:=by rcases hw1 with rfl|rfl;exact Io.same rfl rfl rfl (.inl rfl);exact Io.same rfl rfl rfl (.inr rfl)
 have hne:∀ d,d≠itb->w2.heap[d]?=w.heap[d]?:=λd hd=>by
  have:w2.heap[d]?=w1.heap[d]?:=setBlock_ne w1 _ hd;rw [this,hh1]
 have hat:w2.heap[itb]?=some (.mapIter (some bm) clock (seen.push es[i].born) clock):=setBlock_at w1 _ (by rw [hh1];exact f2)
 have hsz:w2.heap.size=w.heap.size:=by
  have:w2.heap.size=w1.heap.size:=setBlock_size w1 _ _;rw [this,hh1]
 have hY:¬ B.Y itb:=hL.lent hR.mem itb hF;have hsameZ:SameOn Z w w2:=λd hd=>hne d (by rintro rfl;exact f1 hd);obtain ⟨d1,d2⟩:=world_step (w':=w2) hR.mem hL (λd _ hn=>hne d (by rintro rfl;exact hn hF)) (by rw [hsz];exact Nat.le_refl _) hio
 have hSR:∀ {us:List Value}{x:(Sh.own sh).den}{T:Nat->Prop},(∀ d,T d->S d)->SR w Z B.Y (.own sh) us x T->SR w2 Z B.Y (.own sh) us x T:=λhT h =>
  h.same (λ_ h=>h) (λ_ h=>h) λd hd=>hne d (by
   rintro rfl;rcases hd with (hd|hd)|hd
   ·exact f1 hd
   ·exact hY hd
   ·exact (hS _ (hT _ hd)).2 rfl)
 obtain ⟨q0,es',clock',q1,q2,q3,q4,q5,q6,N,q7,q8,q9⟩:=hMap;rw [hbm] at q1;cases q1
 have hbm2:w2.heap[bm]?=some (.map es clock):=by rw [hne bm (hS bm q0).2];exact hbm
 let ma:Mem:=⟨s.mem.roots++[.dead],s.mem.dR,s.mem.roots.length⟩
 have hsub:∀ r0 x,ma.roots[r0]?=some x->x≠.dead->s.mem.roots[r0]?=some x/\μ r0=μ r0:=λr0 x hx hd=>by
  have hx:(s.mem.roots++[Root.dead])[r0]?=some x:=hx;rcases Nat.lt_or_ge r0 s.mem.roots.length with h1|h1
  ·rw [List.getElem?_append_left h1] at hx;exact ⟨hx,rfl⟩
  ·rw [List.getElem?_append_right h1] at hx
   cases h2:r0-s.mem.roots.length with
   |zero=>rw [h2] at hx;cases hx;exact absurd rfl hd
   |succ k=>rw [h2] at hx;cases hx
 have hMa:MemOk B ma w2 Z μ:=d1.restrict (λr0 x hx hd=>⟨(hsub r0 x hx hd).1,rfl,λ_ h=>h⟩) (λr0 hr0=>hR.mem.far r0 (by
  have:(s.mem.roots++[Root.dead]).length<=r0:=hr0
  simp at this;omega))
 have hLa:Loose B ma w2 Z μ (λb=>F b\/(w.heap.size<=b/\b < w2.heap.size)):=d2.restrict hsub;have hnew:μ s.mem.roots.length=none:=hR.mem.far _ (Nat.le_refl _)
 have hfree:Free ma μ (Sh.own sh).news:=λk hk=>by
  have hk:k < 1:=hk
  have:k=0:=by omega
  subst this;refine ⟨hnew,?_⟩;show (s.mem.roots++[Root.dead])[s.mem.roots.length]?=_;simp
 obtain ⟨n1,n2⟩:=q9 i hi hi';obtain ⟨⟨μ1,p1,p2,p3,p4⟩,_⟩:=mk_sound (.own sh) hMa hLa hfree (hSR (λd hd=>(q7 i hi d hd).1) n2) (λd hd=>.inl (hS d (q7 i hi d hd).1).1);have p1:MemOk B (ma.push (.arr sh xs[i].2 none)) w2 Z μ1:=p1;have p3:CRs w2 Z μ1 [.ref s.mem.roots.length .full] [es[i].val]:=p3;have hlq:q < s.mem.roots.length:=(List.getElem?_eq_some_iff.1 hq).1;have hqne:q < ma.cur\/ma.cur+(Sh.own sh).news<=q:=.inl hlq;obtain ⟨o1,o2⟩:=p4.old q hqne
 have hdead:(ma.push (.arr sh xs[i].2 none)).roots[q]?=some .dead:=by
  have o2:(ma.push (.arr sh xs[i].2 none)).roots[q]?=ma.roots[q]?:=o2;rw [o2];show (s.mem.roots++[Root.dead])[q]?=_;rw [List.getElem?_append_left hlq];exact hq
 obtain ⟨Sr,hr1⟩:=p4.ext r ℓr hμr
 let ℓ2:Loc:={ ℓq with S:=λd=>F d/\¬ N i d }
 have hext:ExtL μ1 (μ1.set q ℓ2):=ExtL.setS (S:=ℓ2.S) (o1.trans hμq);obtain ⟨Sr',hr2⟩:=hext r _ hr1
 obtain ⟨k1,_⟩:=put_root (x:=.itr r n (.own sh) xs (some (Res.keyIn rest')) (some (xs[i].1,s.mem.roots.length))) (ℓ:=ℓ2) p1 p2 hdead hext ⟨itb,bm,_,es,clock,seen.push es[i].born,some ⟨i,[.ref s.mem.roots.length .full]⟩,λd=>S d/\¬ N i d,hb1,hb2,
  ⟨hF,λh=>(hS _ (q7 i hi _ h).1).2 rfl⟩,λd hd=>⟨⟨(hS d hd.1).1,hd.2⟩,(hS d hd.1).2⟩,hr2,hb3,hat,hbm2,hleft,⟨⟨q0,λh=>(q7 i hi _ h).2 rfl⟩,es,clock,hbm2,q2,q3,q4,q5,q6,λj=>if i=j then λ_=>False else N j,λj hj d hd=>by
   dsimp only at hd;split at hd
   ·exact hd.elim
   ·rename_i hne
    exact ⟨⟨(q7 j hj d hd).1,λh'=>q8 _ j hi hj hne d h' hd⟩,(q7 j hj d hd).2⟩,λj k hj hk hjk d hd hd'=>by
   dsimp only at hd hd';split at hd
   ·exact hd.elim
   ·split at hd'
    ·exact hd'.elim
    ·exact q8 j k hj hk hjk d hd hd',λj hj hj'=>by
   obtain ⟨m1,m2⟩:=q9 j hj hj';refine ⟨m1,?_⟩;by_cases hij:i=j
   ·subst hij;simp only [EnR,ElR,if_true];exact p3.mono (SameOn.refl _ _) (λ_ h=>h) hext
   ·simp only [EnR,ElR,if_neg hij]
    exact hSR (λd hd=>(q7 j hj d hd).1) m2⟩,i,rfl,hi,hi',rfl,by simp⟩ (λ_ d hd=>⟨.inl hd.1,hd.2⟩)
 have hx2:ExtL μ (μ1.set q ℓ2):=p4.ext.trans hext
 have hroots:(s.enter ta tb q r n sh xs rest' xs[i]).mem.roots=((ma.push (.arr sh xs[i].2 none)).set q (.itr r n (.own sh) xs (some (Res.keyIn rest')) (some (xs[i].1,s.mem.roots.length)))).roots:=by
  show ((s.mem.roots++[Root.arr sh xs[i].2 none]).set q _)=((s.mem.roots++[Root.dead]).set s.mem.roots.length _).set q _;rw [List.set_append_right _ _ (Nat.le_refl _),Nat.sub_self];rfl
 have hR3:=((hR.put (m':=(s.enter ta tb q r n sh xs rest' xs[i]).mem) (k1.congr hroots) hsameZ (λ_ h=>h) hx2 (some ta) (AR.undef v)).put0 (some tb) (AR.undef v'));exact ⟨_,⟨hR3.mem,hR3.tm,hR3.len,hR3.df⟩,hx2,hsameZ⟩
theorem leave_sound{m:Mem}(hM:MemOk B m w Z μ){n q r N:Nat}{sh:Sh}{xs:List (List Int×(Sh.own sh).den)}{left:List Int->Bool}{e:List Int×(Sh.own sh).den}(he:e∈xs)
  (hq:m.roots[q]?=some (.itr r n (.own sh) xs (some left) (some (e.1,N)))) (hN:m.roots[N]?=some (.arr sh e.2 none)){ℓq ℓr:Loc}{itb bm:Nat}(hμq:μ q=some ℓq) (hb1:ℓq.blk=some itb) (hμr:μ r=some ℓr) (hb3:ℓr.blk=some bm) :
  ∃ (Z' F':Nat->Prop) (es:Array MapEntry) (clock:Nat) (seen:Array Nat),MemOk B ⟨(m.roots.set q .dead).set N .dead,m.dR,m.cur⟩ w Z' μ/\Loose B ⟨(m.roots.set q .dead).set N .dead,m.dR,m.cur⟩ w Z' μ F'/\(∀ b,Z b->Z' b)/\ItInv B w Z' F' itb bm n (.own sh) xs left es clock seen:=by
 obtain ⟨ℓ,g1,itb',bm',ℓr',es,clock,seen,foc,S,h1,h2,h3,h4,h5,h6,h7,h9,h11,h12,i,rfl,hi,hi',hk,_⟩:=hM.rt q _ hq (by simp);rw [hμq] at g1;cases g1;rw [hb1] at h1;cases h1;rw [hμr] at h5;cases h5;rw [hb3] at h6;cases h6;obtain ⟨t1,t2⟩:=take_root hM (Loose.none B m w Z μ) hq hμq rfl
 have hne:q≠N:=by rintro rfl;rw [hq] at hN;cases hN
 have hN':(m.set q .dead).roots[N]?=some (.arr sh e.2 none):=by simp only [Mem.set];rw [List.getElem?_set_ne hne];exact hN
 have h12':=h12;obtain ⟨q0,es',clock',q1,q2,q3,q4,q5,q6,M,q7,q8,q9⟩:=h12;rw [h9] at q1;cases q1
 have hcr:CRs w Z μ [.ref N .full] [es[i].val]:=by
  have:=(q9 i hi hi').2;simpa only [EnR,ElR,if_true] using this
 have hget:(Sh.own sh).get [.ref N .full] (m.set q .dead)=some (e.2,[],(m.set q .dead).set N .dead):=by
  simp only [Sh.get,hN',Sh.same_self,Win.whole];rfl
 obtain ⟨⟨Z',F',S1,us1,us2,e1,e2,e3,e4,e5,e6,e7,e8,e9⟩,ek⟩:=get_sound (.own sh) t1 t2 hcr hget;have:=e9.nil_inv;subst this;rw [List.append_nil] at e1;subst e1
 have hxe:xs[i]=e:=by
  obtain ⟨j,hj,hje⟩:=List.getElem_of_mem he
  have h1:(xs.map (·.1))[i]'(by simpa using hi)=(xs.map (·.1))[j]'(by simpa using hj):=by simp [hk,hje]
  have h2:=(List.getElem_inj q5).1 h1;subst h2;exact hje
 have key:MapR w n (xs.modify i λe'=>(e'.1,e.2)) (λ_ us x S=>SR w Z' B.Y (.own sh) us x S) bm (λd=>S d\/S1 d):=by
  refine h12'.putBack (λd hd hS=>(e7 d hd).2 (.inr (h4 d hS).1)) (λes' clock' hes h=>?_) λj us x T hj hR=>?_
  ·rw [h9] at hes;cases hes;exact e8
  ·simp only [EnR,ElR,if_neg (Ne.symm hj)] at hR;exact hR.up e5
 have hmod:(xs.modify i λe'=>(e'.1,e.2))=xs:=by
  refine List.ext_getElem (by simp) λj h1 h2=>?_;rw [List.getElem_modify];split
  ·rename_i hij;subst hij;exact Prod.ext rfl (congrArg Prod.snd hxe).symm
  ·rfl
 rw [hmod] at key
 exact ⟨Z',F',es,clock,seen,e3.congr rfl,e4.congr rfl,e5,e6 _ (.inr h3),_,λd hd=>by
  rcases hd with hd|hd
  ·exact ⟨e6 d (.inr (h4 d hd).1),(h4 d hd).2⟩
  ·exact ⟨(e7 d hd).1,λe=>(e7 d hd).2 (e▸.inr h3)⟩,h7,h9,h11,key⟩
end
theorem Ev.join{b0 b s:St}(h:Ev b0 b)(h':Ev (fresh b) s):Ev b0 (b.join s):=by
 refine ⟨h'.tl.trans h.tl,Nat.le_trans h.rl h'.rl,λi hi=>?_,λr hr hb=>?_⟩
 ·have hi:i ∉ s.dT++b.dT:=hi;rw [List.mem_append] at hi;exact (h'.tm i λh=>hi (.inl h)).trans (h.tm i λh=>hi (.inr h))
 ·have hb:(b.mem.dR ||| s.mem.dR).testBit r=false:=hb;rw [Nat.testBit_or,Bool.or_eq_false_iff] at hb;exact (h'.rt r (Nat.lt_of_lt_of_le hr h.rl) hb.2).trans (h.rt r hr hb.1)
theorem Ev.set{b s:St}(h:Ev b s)(r:Nat)(x:Root):Ev b ⟨s.tmps,s.mem.set r x,s.dT⟩:=by
 refine ⟨h.tl,?_,h.tm,λr' hr hb=>?_⟩
 ·show _<=(s.mem.roots.set r x).length;rw [List.length_set];exact h.rl
 ·have hb:(s.mem.dR ||| 2^r).testBit r'=false:=hb;rw [Nat.testBit_or,Nat.testBit_two_pow,Bool.or_eq_false_iff,decide_eq_false_iff_not] at hb;show (s.mem.roots.set r x)[r']?=_;rw [List.getElem?_set_ne hb.2];exact h.rt r' hr hb.1
theorem Ev.lose{b s:St}(h:Ev b s)(ta tb:Tmp):Ev b (s.lose ta tb):=by
 refine ⟨by show ((s.tmps.set ta _).set tb _).length=_;rw [List.length_set,List.length_set];exact h.tl,h.rl,λi hi=>?_,h.rt⟩;have hi:i ∉ ta::tb::s.dT:=hi;simp only [List.mem_cons,not_or] at hi;show ((s.tmps.set ta _).set tb _)[i]?=_;rw [List.getElem?_set_ne (Ne.symm hi.2.1),List.getElem?_set_ne (Ne.symm hi.1)];exact h.tm i hi.2.2
theorem Ev.leave{b s0 s s2:St}{ta tb q r n:Nat}{sh:Sh}{xs rest:List (List Int×(Sh.own sh).den)}{e:List Int×(Sh.own sh).den}(h:Ev (fresh b) s0)(hq:q < b.mem.roots.length)(hbq:b.mem.roots[q]?=some .dead)
  (h':Ev (s0.enter ta tb q r n sh xs rest e) s) (hl:s0.leave ta tb q s=some s2):Ev b s2:=by
 unfold St.leave at hl;split at hl
 ·cases hl
 cases hl
 have hlen:(s0.enter ta tb q r n sh xs rest e).mem.roots.length=s0.mem.roots.length+1:=by
  show ((s0.mem.roots++[Root.arr sh e.2 none]).set q _).length=_;simp
 have hb0:b.mem.roots.length<=s0.mem.roots.length:=h.rl;refine ⟨?_,?_,λi hi=>?_,λr' hr hb=>?_⟩
 ·refine (h'.tl).trans ?_;show ((s0.tmps.set ta _).set tb _).length=_;rw [List.length_set,List.length_set];exact h.tl
 ·show _<=((s.mem.roots.set q .dead).set _ .dead).length;rw [List.length_set,List.length_set];have:=h'.rl;omega
 ·have hi:i ∉ ta::tb::s.dT++s0.dT:=hi;simp only [List.cons_append,List.mem_cons,List.mem_append,not_or] at hi;obtain ⟨h1,h2,h3,h4⟩:=hi;refine (h'.tm i h3).trans ?_;show ((s0.tmps.set ta _).set tb _)[i]?=_;rw [List.getElem?_set_ne (Ne.symm h2),List.getElem?_set_ne (Ne.symm h1)];exact h.tm i h4
 ·have hb:(s0.mem.dR ||| s.mem.dR).testBit r'=false:=hb;rw [Nat.testBit_or,Bool.or_eq_false_iff] at hb;show ((s.mem.roots.set q .dead).set s0.mem.roots.length .dead)[r']?=_;rw [List.getElem?_set_ne (by omega)];by_cases hrq:q=r'
  ·subst hrq;rw [hbq,List.getElem?_set_self (by have:=h'.rl;omega)]
  ·rw [List.getElem?_set_ne hrq,h'.rt r' (by omega) hb.2];show ((s0.mem.roots++[Root.arr sh e.2 none]).set q _)[r']?=_;rw [List.getElem?_set_ne hrq,List.getElem?_append_left (by omega)];exact h.rt r' hr hb.1
theorem back_sound{B:Base}{w:World}{Z F:Nat->Prop}{μ:Locs}{s s':St}{a:Act}(hR:Rel B s a w Z μ)(hL:Loose B s.mem w Z μ F){itb bm n r:Nat}{sh:Sh}{xs:List (List Int×(Sh.own sh).den)}{left:List Int->Bool}{es:Array MapEntry}{clock:Nat}{seen:Array Nat}
  (hI:ItInv B w Z F itb bm n (.own sh) xs left es clock seen){ℓr:Loc}(hμr:μ r=some ℓr) (hb:ℓr.blk=some bm) (h:s.back r (.mapr n (.own sh) xs none)=some s'):∃ μ',Rel B s' a w Z μ'/\ExtL μ μ':=by
 unfold St.back at h;split at h
 case h_2=>cases h
 rename_i hd;cases h;obtain ⟨_,S,hS,_,_,_,hM⟩:=hI;have hext:ExtL μ (μ.set r { ℓr with S:=S }):=ExtL.setS hμr;obtain ⟨p1,_⟩:=put_root (x:=.mapr n (.own sh) xs none) (ℓ:={ ℓr with S:=S }) hR.mem hL hd hext ⟨λf hf=>by (cases hf),bm,hb,hM⟩ (λ_ d hd=>(hS d hd).1);have h2:=hR.put p1 (SameOn.refl _ _) (λ_ h=>h) hext none (x:=.c .undef) (v:=undef) trivial;exact ⟨_,⟨h2.mem,h2.tm,h2.len,h2.df⟩,hext⟩
theorem kback_spec{β:Type}{K:Kont β}{r:Nat}{x:Root}{e:EKey}{s:St}{Ψ:β->Prop}(h:((kback K r x).at e s).sat Ψ):∃ s',s.back r x=some s'/\(K.at e s').sat Ψ:=by
 cases e<;>simp only [Kont.at,kback] at h
 all_goals
  split at h
  ·exact ⟨_,by assumption,h⟩
  ·exact h.elim
theorem atIt_spec{β:Type}{s:St}{it q:Nat}{k:Res β}{Ψ:β->Prop}(h:(s.atIt it q k).sat Ψ):s.get it=.c (.ptr q 0)/\s.mem.roots[q]?=some .dead/\k.sat Ψ:=by
 unfold St.atIt at h;split at h
 ·rename_i q' h1 h2;split at h
  ·rename_i hq
   have:q'=q:=by simpa using hq
   subst this;exact ⟨h1,h2,h⟩
  ·exact h.elim
 ·exact h.elim
theorem sat_all{α γ:Type}{m:Res α}{p:γ->Prop}{Φ:γ->α->Prop}(h:∀ x,p x->m.sat (Φ x))(hx:∃ x,p x):m.sat λy=>∀ x,p x->Φ x y:=by
 induction m with
 |ok a=>exact λx hx=>h x hx
 |stuck=>obtain ⟨x,hx⟩:=hx;exact h x hx
 |given b k ih=>exact λhb=>ih λx hx=>h x hx hb
theorem keyIn_perm{γ:Type}{p p':List (List Int×γ)}(h:p.Perm p'):Res.keyIn p=Res.keyIn p':=by
 funext k;unfold Res.keyIn;congr 1;exact propext (h.map _).mem_iff
theorem leave_some{s0 s s2:St}{ta tb q:Nat}(h:s0.leave ta tb q s=some s2):s.mem.dR.testBit q=false/\s.mem.dR.testBit s0.mem.roots.length=false/\s2.tmps=s.tmps/\s2.mem.roots=(s.mem.roots.set q .dead).set s0.mem.roots.length .dead:=by
 unfold St.leave at h;split at h
 ·cases h
 rename_i hb;cases h;rw [Bool.or_eq_false_iff] at hb;exact ⟨hb.1,hb.2,rfl,rfl⟩
theorem each_cons{α β γ:Type}(f:γ->List γ->α->Res (Res.Step α β))(x:γ)(xs:List γ)(a:α):Res.each f (x::xs) a=(f x xs a).bind fun
  |.next a'=>Res.each f xs a'
  |.done b=>.ok (.done b):=rfl
section
variable {B:Base}{E:Env}{body:Code}{β:Type}{ops:Array Oper}{it ta tb:Tmp}{id i2:Nat}{head:Cut}{ex:Exits}{an:Ann}{st1:St}{K:Kont β}{Ψ:β->Prop}{Q:Exit->Act->World->Prop}{b:St}{a1:Act}{w1:World}{Z1:Nat->Prop}{μ0 μ:Locs}
 {q r n itb bm:Nat}{sh:Sh}{xs:List (List Int×(Sh.own sh).den)}{ℓq ℓr:Loc}
theorem range_rounds(hc:∀ (γ:Type) (ann:Ann) (st:St) (K:Kont γ),Sound B E body (exec E body γ ann st K) st K)(hops:nextOps ops=some (it,ta,tb))(hta:ta < st1.tmps.length)(htb:tb < st1.tmps.length)(hqd:st1.mem.roots[q]?=some .dead)
  (hR0:Rel B st1 a1 w1 Z1 μ) (hev:Ev b st1) (hext:ExtL μ0 μ) (hμq:μ q=some ℓq) (hb1:ℓq.blk=some itb) (hb2:ℓq.base=0) (hμr:μ r=some ℓr) (hb3:ℓr.blk=some bm) (hnx:(xs.map (·.1)).Nodup)
  (hK:∀ (e:EKey) (s:St) (a':Act) (w':World) (Z':Nat->Prop) (μ':Locs),(K.at e s).sat Ψ->Rel B s a' w' Z' μ'->Ev b s->ExtL μ0 μ'->Q e.exit a' w') :
  ∀ (N:Nat) (rest:List (List Int×(Sh.own sh).den)) (x:head.den) (a:Act) (w:World) (Z:Nat->Prop) (μ':Locs) (F:Nat->Prop) (es:Array MapEntry) (clock:Nat) (seen:Array Nat),rest.length < N->(∀ e∈rest,e∈xs)->(rest.map (·.1)).Nodup ->
   (∀ p,p.Perm rest->((Res.each (λe left x=>(head.put (fresh st1) x).atIt it q
     (exec E body (Res.Step head.den ex.den) an ((head.put (fresh st1) x).enter ta tb q r n sh xs left e) (kround st1.mem.roots.length head ex (head.put (fresh st1) x) ta tb q))) p x).bind fun
    |.next x=>(head.put (fresh st1) x).atIt it q ((kback K r (.mapr n (.own sh) xs none)).ext id ((st1.join (head.put (fresh st1) x)).lose ta tb))
    |.done y=>ex.go st1 (kback K r (.mapr n (.own sh) xs none)) y).sat Ψ) ->
   Rel B (head.put (fresh st1) x) a w Z μ'->ExtL μ μ'->Loose B (head.put (fresh st1) x).mem w Z μ' F->ItInv B w Z F itb bm n (.own sh) xs (Res.keyIn rest) es clock seen ->
   Code.rounds E.P (.seq (.region i2 ops false) (.seq (.cond (.tmp tb) .skip (.exit id)) body)) Q N a w
 |0,rest,x,a,w,Z,μ',F,es,clock,seen,hlt,_,_,_,_,_,_,_=>by omega
 |N+1,rest,x,a,w,Z,μ',F,es,clock,seen,hlt,hsub,hnd,h,hR,hxx,hL,hI=>by
  have hI':=hI;obtain ⟨hF,S,hS,hit,hbm,hlf,hMap⟩:=hI;have hMap':=hMap;obtain ⟨q0,es',clock',z1,z2,z3,z4,z5,z6,M,z7,z8,z9⟩:=hMap;rw [hbm] at z1;cases z1;rw [rounds_succ];have hevx:Ev (fresh st1) (head.put (fresh st1) x):=put_ev (Ev.refl _)
  have hsz:a.tmps.size=st1.tmps.length:=by rw [<- hR.len,hevx.tl];rfl
  have hat:(head.put (fresh st1) x).get it=.c (.ptr q 0)/\(head.put (fresh st1) x).mem.roots[q]?=some .dead:=by
   have h1:=h rest (List.Perm.refl _)
   cases rest with
   |nil=>obtain ⟨k1,k2,_⟩:=atIt_spec h1;exact ⟨k1,k2⟩
   |cons e0 r0 =>
    rw [each_cons,Res.bind_assoc] at h1;obtain ⟨k1,k2,_⟩:=atIt_spec (sat_bind h1);exact ⟨k1,k2⟩
  obtain ⟨hat1,hat2⟩:=hat;obtain ⟨Sq,hμq'⟩:=hxx q ℓq hμq;obtain ⟨Sr,hμr'⟩:=hxx r ℓr hμr
  have hiteval:a.eval (.tmp it)=.pointer (some ⟨itb,0,none⟩):=by
   have h1:=hR.val (.tmp it)
   rw [show val (head.put (fresh st1) x) (.tmp it)=_ from hat1] at h1
   obtain ⟨ℓ,b',g1,g2,g3⟩:=h1;rw [hμq'] at g1;cases g1;have g2:ℓq.blk=some b':=g2;rw [hb1] at g2;cases g2;rw [g3];simp [hb2]
  refine wp_seq (step_wp hops (by rw [hsz];exact hta) hiteval hit hbm z3 (λh0=>?_) λe' he' w2 hw2=>?_)
  ·
   have hrest:rest=[]:=by
    apply List.eq_nil_iff_forall_not_mem.2;intro e he;obtain ⟨i,hi,hie⟩:=List.getElem_of_mem (hsub e he)
    have hi':i < es.size:=by omega
    have h1:seen.contains es[i].born=false:=(hlf i hi hi').1 (by unfold Res.keyIn;rw [hie];simpa using ⟨e.2,he⟩)
    have h2:es[i]∈leftOf es seen:=by
     unfold leftOf;simp only [Array.mem_filter];exact ⟨by simp,by rw [h1];rfl⟩
    have:=Array.size_pos_of_mem h2;omega
   subst hrest;obtain ⟨_,_,h1⟩:=atIt_spec (h [] (List.Perm.refl _));obtain ⟨s',hs',hsat⟩:=kback_spec (e:=.ext id) h1;have hR2:=(hR.put0 (some ta) (AR.undef (.tuple #[.bool false]))).put0 (some tb) (AR.undef (.bool false));have hR3:Rel B ((st1.join (head.put (fresh st1) x)).lose ta tb) ((a.put (some ta) (.tuple #[.bool false])).put (some tb) (.bool false)) w Z μ':=⟨hR.mem.congr rfl,hR2.tm,hR2.len,hR2.df⟩;obtain ⟨μ2,k1,k2⟩:=back_sound hR3 (hL.congr rfl) hI' hμr' hb3 hs'
   have hevs:Ev b s':=by
    unfold St.back at hs';split at hs'
    ·cases hs';exact ((hev.join hevx).lose ta tb).set r _
    ·cases hs'
   exact wp_seq (wp_cond_false (put_eval_at (by simpa [Act.put,hsz] using htb)) (wp_exit (hK (.ext id) s' _ w Z μ2 hsat k1 hevs (hext.trans (hxx.trans k2)))))
  ·
   have he2:e'∈es.toList/\seen.contains e'.born=false:=by
    unfold leftOf at he';rw [Array.mem_toList_iff,Array.mem_filter] at he';exact ⟨by simpa using he'.1,by simpa using he'.2⟩
   obtain ⟨i,hi',hie⟩:=List.getElem_of_mem he2.1
   have hi':i < es.size:=by simpa using hi'
   have hi:i < xs.length:=by omega
   have hie:es[i]=e':=by simpa using hie
   subst hie;have hkin:Res.keyIn rest xs[i].1=true:=(hlf i hi hi').2 he2.2
   have hmem:xs[i]∈rest:=by
    unfold Res.keyIn at hkin;simp only [decide_eq_true_eq,List.mem_map] at hkin;obtain ⟨e0,h1,h2⟩:=hkin;obtain ⟨j,hj,hje⟩:=List.getElem_of_mem (hsub e0 h1)
    have h3:(xs.map (·.1))[j]'(by simpa using hj)=(xs.map (·.1))[i]'(by simpa using hi):=by simp [hje,h2]
    have h4:=(List.getElem_inj hnx).1 h3;subst h4;rw [hje];exact h1
   obtain ⟨l1,l2,hl⟩:=List.append_of_mem hmem
   have hperm:rest.Perm (xs[i]::(l1++l2)):=by rw [hl];exact List.perm_middle
   generalize l1++l2=rest' at hperm
   have hnd':(xs[i].1::rest'.map (·.1)).Nodup:=by
    have:=(hperm.map (·.1)).nodup_iff.1 hnd;simpa using this
   have hleft:∀ j (h:j < xs.length) (h':j < es.size),Res.keyIn rest' xs[j].1=true ↔ (seen.push es[i].born).contains es[j].born=false:=by
    intro j hj hj'
    have h1:(Res.keyIn rest xs[j].1=true) ↔ (xs[j].1=xs[i].1\/Res.keyIn rest' xs[j].1=true):=by
     rw [keyIn_perm hperm];simp [Res.keyIn]
    have h2:=hlf j hj hj'
    have h3:(seen.push es[i].born).contains es[j].born=(seen.contains es[j].born || es[j].born == es[i].born):=by
     rw [Bool.eq_iff_iff];simp
    rw [h3,Bool.or_eq_false_iff,<- h2,h1];by_cases hij:j=i
    ·subst hij;simp only [beq_self_eq_true,Bool.true_eq_false,and_false,iff_false];intro h4;unfold Res.keyIn at h4;simp only [decide_eq_true_eq] at h4;exact (List.nodup_cons.1 hnd').1 h4
    ·have h4:xs[j].1≠xs[i].1:=λe=>by
      have h3:(xs.map (·.1))[j]'(by simpa using hj)=(xs.map (·.1))[i]'(by simpa using hi):=by simp [e]
      exact hij ((List.getElem_inj hnx).1 h3)
     have h5:(es[j].born == es[i].born)=false:=by
      rw [beq_eq_false_iff_ne];intro e
      have h3:(es.toList.map (·.born))[j]'(by simpa using hj')=(es.toList.map (·.born))[i]'(by simpa using hi'):=by simp [e]
      exact hij ((List.getElem_inj z4).1 h3)
     simp [h4,h5]
   obtain ⟨μ1,e1,e2,e3⟩:=enter_sound hR hL hI' hat2 hμq' hb1 hb2 hμr' hb3 hi hi' hw2 hleft ta tb (.tuple #[.bool true,es[i].key,es[i].val]) (.bool true)
   have hall:=sat_all (p:=λp'=>List.Perm p' rest') (λp' hp'=>by
    have h1:=h (xs[i]::p') ((List.Perm.cons _ hp').trans hperm.symm);rw [each_cons,Res.bind_assoc] at h1;obtain ⟨_,_,h2⟩:=atIt_spec (sat_bind h1)
    have h3:(head.put (fresh st1) x).enter ta tb q r n sh xs p' xs[i]=(head.put (fresh st1) x).enter ta tb q r n sh xs rest' xs[i]:=by unfold St.enter;rw [keyIn_perm hp']
    rw [h3] at h2
    exact h2) ⟨rest',List.Perm.refl _⟩
   refine wp_seq (wp_cond_true (put_eval_at (by simpa [Act.put,hsz] using htb)) (wp_skip ?_));refine hc _ an _ _ _ (Exit.then (Code.rounds E.P _ Q N) Q) _ _ _ _ _ Z Z μ1 μ1 hall e1 e1 (Ev.refl _) (ExtL.refl _) ?_;intro e s a2 w3 Z2 μ2 hs hR' hev' hext'
   have hleave:∃ s2,(head.put (fresh st1) x).leave ta tb q s=some s2:=by
    cases hl:(head.put (fresh st1) x).leave ta tb q s with
    |some s2=>exact ⟨s2,rfl⟩
    |none=>cases e<;>simp only [Kont.at,kround,hl] at hs<;>exact hs.elim
   obtain ⟨s2,hl2⟩:=hleave;obtain ⟨t1,t2,t3,t4⟩:=leave_some hl2;have hlq:q < (head.put (fresh st1) x).mem.roots.length:=(List.getElem?_eq_some_iff.1 hat2).1
   have hrq:s.mem.roots[q]?=some (.itr r n (.own sh) xs (some (Res.keyIn rest')) (some (xs[i].1,(head.put (fresh st1) x).mem.roots.length))):=by
    rw [hev'.rt q (by show q < ((head.put (fresh st1) x).mem.roots++[Root.arr sh xs[i].2 none] |>.set q _).length;simp;omega) t1];show (((head.put (fresh st1) x).mem.roots++[Root.arr sh xs[i].2 none]).set q _)[q]?=_;rw [List.getElem?_set_self (by simp;omega)]
   have hrN:s.mem.roots[(head.put (fresh st1) x).mem.roots.length]?=some (.arr sh xs[i].2 none):=by
    rw [hev'.rt _ (by show _ < ((head.put (fresh st1) x).mem.roots++[Root.arr sh xs[i].2 none] |>.set q _).length;simp) t2];show (((head.put (fresh st1) x).mem.roots++[Root.arr sh xs[i].2 none]).set q _)[_]?=_;rw [List.getElem?_set_ne (by omega),List.getElem?_append_right (Nat.le_refl _),Nat.sub_self];rfl
   obtain ⟨Sq2,hμq2⟩:=(e2.trans hext') q _ hμq';obtain ⟨Sr2,hμr2⟩:=(e2.trans hext') r _ hμr';obtain ⟨Z3,F3,es3,clock3,seen3,j1,j2,j3,j4⟩:=leave_sound hR'.mem (List.getElem_mem hi) hrq hrN hμq2 hb1 hμr2 hb3
   have hRs2:Rel B s2 a2 w3 Z3 μ2:=by
    have h2:=hR'.put j1 (SameOn.refl _ _) j3 (ExtL.refl _) none (x:=.c .undef) (v:=undef) trivial;exact ⟨j1.congr t4,λk y hy=>h2.tm k y (by rw [t3] at hy;exact hy),by rw [t3];exact h2.len,h2.df⟩
   have hLs2:Loose B s2.mem w3 Z3 μ2 F3:=j2.congr t4;have hevs2:Ev st1 s2:=Ev.leave (b:=st1) hevx (List.getElem?_eq_some_iff.1 hqd).1 hqd hev' hl2;have hx2:ExtL μ μ2:=hxx.trans (e2.trans hext')
   have out:∀ (Φ:Res.Step head.den ex.den->Prop),(∀ y,Φ (.done y)->(ex.go st1 (kback K r (.mapr n (.own sh) xs none)) y).sat Ψ)->((ex.inj st1.mem.roots.length e s2).bind λy=>(.ok (.done y):Res (Res.Step head.den ex.den))).sat Φ->Q e.exit a2 w3:=λΦ hΦ hs=>by
    have hs':(ex.inj st1.mem.roots.length e s2).sat λx=>(ex.go st1 (kback K r (.mapr n (.own sh) xs none)) x).sat Ψ:=by
     exact Res.sat_imp (λy hy=>hΦ y hy) (sat_bind hs)
    obtain ⟨z,hz,c',y,hget,hgo⟩:=inj_spec ex hs';rw [hgo _ st1] at hz;obtain ⟨s4,hs4,hsat⟩:=kback_spec hz;obtain ⟨Z4,μ4,g1,g2,g3,g4⟩:=cut_soundF (b:=st1) hR0 hRs2 hLs2 hevs2 hx2 hget;obtain ⟨Sr4,hμr4⟩:=g3 r ℓr hμr;obtain ⟨μ5,k1,k2⟩:=back_sound g1 g4 (j4.up g2 λ_ h=>h) hμr4 hb3 hs4
    have hevs:Ev b s4:=by
     unfold St.back at hs4;split at hs4
     ·cases hs4;exact (put_ev hev).set r _
     ·cases hs4
    exact hK e s4 a2 w3 Z4 μ5 hsat k1 hevs (hext.trans (g3.trans k2))
   cases e with
   |nrm =>
    simp only [Kont.at,kround,hl2] at hs;split at hs
    case h_2=>exact hs.elim
    rename_i y hy;obtain ⟨Z4,μ4,g1,g2,g3,g4⟩:=cut_soundF (b:=fresh st1) (hR0.alike ⟨rfl,rfl⟩) hRs2 hLs2 (hevs2.congr ⟨rfl,rfl⟩) hx2 hy
    have hlen:rest'.length < N:=by
     have:=hperm.length_eq;simp at this;omega
    exact range_rounds hc hops hta htb hqd hR0 hev hext hμq hb1 hb2 hμr hb3 hnx hK N rest' y a2 w3 Z4 μ4 F3 es3 clock3 seen3 hlen (λe he=>hsub e (hperm.mem_iff.2 (List.mem_cons_of_mem _ he))) (List.nodup_cons.1 hnd').2 hs g1 g3 g4 (j4.up g2 λ_ h=>h)
   |ret =>
    simp only [Kont.at,kround,hl2] at hs;exact out _ (λy hy=>hy rest' (List.Perm.refl _)) hs
   |ext k =>
    simp only [Kont.at,kround,hl2] at hs;exact out _ (λy hy=>hy rest' (List.Perm.refl _)) hs
theorem sat_order{α β:Type}{xs:List α}{F:List α->Res β}{Φ:β->Prop}(h:(Res.order xs F).sat Φ):∀ p,p.Perm xs->(F p).sat Φ:=by
 unfold Res.order at h;split at h
 ·rename_i hy;intro p hp;have h1:=hy.choose_spec p hp;by_cases hf:(F p).facts
  ·obtain ⟨a,ha,he⟩:=Res.facts_sat h1 hf;exact Res.strip_sat ha (he▸h (@decide_eq_true _ (Classical.propDecidable _) ⟨p,hp,hf⟩))
  ·exact Res.sat_of_not_facts hf
 ·exact h.elim
theorem range_sound{c:Operand}{st:St}(hc:∀ (γ:Type) (ann:Ann) (st:St) (K:Kont γ),Sound B E body (exec E body γ ann st K) st K) :
  Sound B E (.loop (.seq (.region i2 ops false) (.seq (.cond c .skip (.exit id)) body))) (rangeLoop (λγ ann st K=>exec E body γ ann st K) ops c id head ex an st K) st K:=by
 intro Ψ Q b a0 a w0 w Z0 Z μ0 μ h hb hR hev hext hK;unfold rangeLoop at h;split at h
 case h_2=>exact h.elim
 rename_i it ta tb g hops;split at h
 case h_2=>exact h.elim
 rename_i q hcond hget;simp only [Bool.and_eq_true,beq_iff_eq,decide_eq_true_eq] at hcond;obtain ⟨rfl,hta,htb⟩:=hcond;split at h
 case h_2=>exact h.elim
 rename_i r n sh xs hq;split at h
 case h_2=>exact h.elim
 rename_i x0 hx0;have hlq:q < st.mem.roots.length:=(List.getElem?_eq_some_iff.1 hq).1;obtain ⟨ℓq,hμq,itb,bm,ℓr,es,clock,seen,foc,S,h1,h2,h3,h4,h5,h6,h7,h9,h11,h12,rfl⟩:=hR.mem.rt q _ hq (by simp);obtain ⟨t1,t2⟩:=take_root hR.mem (Loose.none B st.mem w Z μ) hq hμq rfl;generalize hst1:(⟨st.tmps,st.mem.set q .dead,st.dT⟩:St)=st1 at h hx0
 have hmem:st1.mem=st.mem.set q .dead:=by rw [<- hst1]
 have htm:st1.tmps=st.tmps:=by rw [<- hst1]
 have hlen:st1.mem.roots.length=st.mem.roots.length:=by rw [hmem];simp [Mem.set]
 have hqd:st1.mem.roots[q]?=some .dead:=by rw [hmem];simp [Mem.set,hlq]
 have hR1:Rel B st1 a w Z μ:=by
  have h2:=hR.put t1 (SameOn.refl _ _) (λ_ h=>h) (ExtL.refl _) none (x:=.c .undef) (v:=undef) trivial;exact ⟨by rw [hmem];exact h2.mem,by rw [htm];exact h2.tm,by rw [htm];exact h2.len,h2.df⟩
 have hev1:Ev b st1:=by rw [<- hst1];exact hev.set q _
 have hL1:Loose B (fresh st1).mem w Z μ (λb=>False\/ℓq.S b):=t2.congr (by show st1.mem.roots=_;rw [hmem]);rw [<- hlen] at h hx0;obtain ⟨Z1,μ1,g1,g2,g3,g4⟩:=cut_soundF (b:=fresh st1) (s:=fresh st1) (hR1.alike ⟨rfl,rfl⟩) (hR1.alike ⟨rfl,rfl⟩) hL1 (Ev.refl _) (ExtL.refl μ) hx0;have hh:=sat_order h;have h12':=h12;obtain ⟨q0,es',clock',z1,z2,z3,z4,z5,z6,M,z7,z8,z9⟩:=h12;rw [h9] at z1;cases z1
 have hI:ItInv B w Z1 (λb=>False\/ℓq.S b) itb bm n (.own sh) xs (Res.keyIn xs) es clock seen:=⟨.inr h3,S,λd hd=>⟨.inr (h4 d hd).1,(h4 d hd).2⟩,h7,h9,h11,h12'.mono rfl (λ_ h=>h) λi us x T _ hR=>SR.up (show SR w Z B.Y (.own sh) us x T from hR) g2⟩
 exact wp_loop_rounds (xs.length+1) (range_rounds hc hops (by rw [htm];exact hta) (by rw [htm];exact htb) hqd hR1 hev1 hext hμq h1 h2 h5 h6 z5 hK (xs.length+1) xs x0 a w Z1 μ1 _ es clock seen (Nat.lt_succ_self _) (λ_ h=>h) z5 hh g1 g3 g4 hI)
end
end Go.Mach

namespace Go.Mach
section
variable {B:Base}{E:Env}
theorem exec_sound(hm:E.P.follows .mixedOrders=true)(hE:EnvOk E B.g):∀ (c:Code) (β:Type) (ann:Ann) (st:St) (K:Kont β),Sound B E c (exec E c β ann st K) st K
 |.skip,β,ann,st,K=>by
  intro Ψ Q b a0 a w0 w Z0 Z μ0 μ h hb hR hev hext hK;exact wp_skip (hK .nrm st a w Z μ h hR hev hext)
 |.region id ops draw,β,ann,st,K=>by
  unfold exec;exact cutAt_sound λγ ann st K=>region_sound hm hE st K
 |.seq x y,β,ann,st,K=>by
  unfold exec;refine cutAt_sound λγ ann st K=>?_;intro Ψ Q b a0 a w0 w Z0 Z μ0 μ h hb hR hev hext hK;refine wp_seq (exec_sound hm hE x γ ann.left st _ Ψ _ b a0 a w0 w Z0 Z μ0 μ h hb hR hev hext ?_);intro e s a' w' Z' μ' hs hR' hev' hext'
  cases e with
  |nrm=>exact exec_sound hm hE y γ ann.right s K Ψ Q b a0 a' w0 w' Z0 Z' μ0 μ' hs hb hR' hev' hext' hK
  |ret=>exact hK .ret s a' w' Z' μ' hs hR' hev' hext'
  |ext n=>exact hK (.ext n) s a' w' Z' μ' hs hR' hev' hext'
 |.cond c x y,β,ann,st,K=>by
  unfold exec;refine cutAt_sound λγ ann st K=>?_;intro Ψ Q b a0 a w0 w Z0 Z μ0 μ h hb hR hev hext hK;split at h
  case h_2=>exact h.elim
  rename_i t ht;have hv:=hR.val c;rw [ht] at hv;have hv:a.eval c=.bool t:=hv;rcases sat_br h with ⟨rfl,h⟩|⟨rfl,h⟩
  ·exact wp_cond_true hv (exec_sound hm hE x γ ann.left st K Ψ Q b a0 a w0 w Z0 Z μ0 μ h hb hR hev hext hK)
  ·exact wp_cond_false hv (exec_sound hm hE y γ ann.right st K Ψ Q b a0 a w0 w Z0 Z μ0 μ h hb hR hev hext hK)
 |.block id x,β,ann,st,K=>by
  unfold exec;refine cutAt_sound λγ ann st K=>?_;intro Ψ Q b a0 a w0 w Z0 Z μ0 μ h hb hR hev hext hK;refine wp_block (exec_sound hm hE x γ ann.left st _ Ψ _ b a0 a w0 w Z0 Z μ0 μ h hb hR hev hext ?_);intro e s a' w' Z' μ' hs hR' hev' hext'
  cases e with
  |nrm=>exact hK .nrm s a' w' Z' μ' hs hR' hev' hext'
  |ret=>exact hK .ret s a' w' Z' μ' hs hR' hev' hext'
  |ext n =>
   simp only [EKey.exit,Exit.inBlock];simp only [Kont.at] at hs;split at hs
   ·rename_i hn;rw [if_pos (by simpa using hn)];exact hK .nrm s a' w' Z' μ' hs hR' hev' hext'
   ·rename_i hn;rw [if_neg (by simpa using hn)];exact hK (.ext n) s a' w' Z' μ' hs hR' hev' hext'
 |.loop x,β,ann,st,K=>by
  intro Ψ Q b a0 a w0 w Z0 Z μ0 μ h hb hR hev hext hK;unfold exec at h;split at h
  ·rename_i head ex a';split at h
   case h_2=>exact h.elim
   rename_i x0 hx0;have hal:Alike st (fresh st):=⟨rfl,rfl⟩;obtain ⟨Z1,μ1,g1,g2,g3⟩:=cut_sound (b:=fresh st) (hR.alike hal) (hR.alike hal) (Ev.refl _) (ExtL.refl μ) hx0;exact wp_loop_rounds fuel (loop_sound (λγ ann st K=>exec_sound hm hE x γ ann st K) hR hev hext hK fuel x0 a w Z1 μ1 (sat_bind h) g1 g3)
  ·rename_i head ex a';split at h
   case h_2=>exact h.elim
   exact range_sound (λγ ann st K=>exec_sound hm hE _ γ ann st K) Ψ Q b a0 a w0 w Z0 Z μ0 μ h hb hR hev hext hK
  ·exact wp_loop_rounds _ (unroll_sound (run:=λann st K=>exec E x β ann st K) (λann st K=>exec_sound hm hE x β ann st K) hb hK _ st a w Z μ h hR hev hext)
  ·exact h.elim
 |.exit id,β,ann,st,K=>by
  intro Ψ Q b a0 a w0 w Z0 Z μ0 μ h hb hR hev hext hK;exact wp_exit (hK (.ext id) st a w Z μ h hR hev hext)
 |.ret,β,ann,st,K=>by
  intro Ψ Q b a0 a w0 w Z0 Z μ0 μ h hb hR hev hext hK;exact wp_ret (hK .ret st a w Z μ h hR hev hext)
 |.rangeFunc _ _ _ _,β,ann,st,K=>by intro Ψ Q b a0 a w0 w Z0 Z μ0 μ h;unfold exec at h;exact h.elim
 |.scope x,β,ann,st,K=>by
  unfold exec;refine cutAt_sound λγ ann st K=>?_;intro Ψ Q b a0 a w0 w Z0 Z μ0 μ h hb hR hev hext hK;refine wp_scope_straight (exec_sound hm hE x γ ann.left st K Ψ _ b a0 a w0 w Z0 Z μ0 μ h hb hR hev hext ?_);intro e s a' w' Z' μ' hs hR' hev' hext';have:=hK e s a' w' Z' μ' hs hR' hev' hext'
  cases e<;>exact this
 |.label _,β,ann,st,K=>by
  intro Ψ Q b a0 a w0 w Z0 Z μ0 μ h hb hR hev hext hK;exact wp_label (hK .nrm st a w Z μ h hR hev hext)
 |.refuse _,β,ann,st,K=>by intro Ψ Q b a0 a w0 w Z0 Z μ0 μ h;unfold exec at h;exact h.elim
 |.goto _,β,ann,st,K=>by intro Ψ Q b a0 a w0 w Z0 Z μ0 μ h;unfold exec at h;exact h.elim
end
end Go.Mach

namespace Go.Mach
section
variable {w:World}{Z:Nat->Prop}
theorem OutsR.up{Z' Y:Nat->Prop}(hz:∀ b,Z b->Z' b):∀ {ps:List Par}{vs:List Value}{α:Type}{y:outs α (boxes ps)}{S:Nat->Prop},OutsR w Z Y ps vs y S->OutsR w Z' Y ps vs y S
 |[],_,_,_,_,_=>trivial
 |.val _ _::r,_,_,_,_,h=>by
  obtain ⟨v,vs',h0,h⟩:=h;exact ⟨v,vs',h0,OutsR.up hz (ps:=r) h⟩
 |.obj s::r,_,_,_,_,h=>by
  obtain ⟨v,vs',S1,S2,h0,h1,h2,h3,h4,h5⟩:=h;exact ⟨v,vs',S1,S2,h0,h1,h2,h3,h4.up hz,OutsR.up hz (ps:=r) h5⟩
theorem ValsR.up{Z' Y:Nat->Prop}(hz:∀ b,Z b->Z' b):∀ {l:List VSh}{vs:List Value}{x:dens l}{S:Nat->Prop},ValsR w Z Y l vs x S->ValsR w Z' Y l vs x S
 |[],_,_,_,h=>h
 |[a],_,_,_,h=>by
  obtain ⟨v,h0,h1⟩:=h;exact ⟨v,h0,h1.up hz⟩
 |a::b::r,_,_,_,h=>by
  obtain ⟨v,vs',S1,S2,h0,h1,h2,h3,h6,h7⟩:=h;exact ⟨v,vs',S1,S2,h0,h1,h2,h3,h6.up hz,h7.up hz⟩
theorem ValsR.len{Y:Nat->Prop}:∀ {l:List VSh}{vs:List Value}{x:dens l}{S:Nat->Prop},ValsR w Z Y l vs x S->vs.length=l.length
 |[],_,_,_,h=>by rw [show _=[] from h];rfl
 |[a],_,_,_,h=>by obtain ⟨v,rfl,_⟩:=h;rfl
 |a::b::r,_,_,_,h=>by
  obtain ⟨v,vs',S1,S2,rfl,h1,h2,h3,h6,h7⟩:=h;simp only [List.length_cons,ValsR.len h7]
end
section
variable {B:Base}{w:World}{Z:Nat->Prop}{μ:Locs}
theorem ARs.len:∀ {xs:List AV}{vs:List Value},ARs w Z μ xs vs->vs.length=xs.length
 |[],_,h=>by rw [show _=[] from h];rfl
 |x::xs,_,h=>by
  obtain ⟨v,vs',rfl,_,h2⟩:=h;simp only [List.length_cons,ARs.len h2]
def resSem(tmps:Array Value):ResultVar->Sem Value
 |.tmp t=>pure (tmps.getD t undef)
 |.cell a t=>do loadVar t (<- asAddr (tmps.getD a undef))
theorem results_eq(fn:Func)(tmps:Array Value):results fn tmps=(do
  let vs <- fn.results.mapM (resSem tmps)
  pure (if h:vs.size=1 then vs[0] else .tuple vs)):=by
 unfold results;rfl
def resOk(P:Program):ResultVar->Bool
 |.tmp _=>true
 |.cell _ T=>kindOk P T
theorem resAVs_sound{P:Program}{s:St}{a:Act}{β:Type}{Ψ:β->Prop}(hR:Rel B s a w Z μ):∀ (rs:List ResultVar){K:List AV->Res β},(rs.all (resOk P))=true->(resAVs P s rs K).sat Ψ ->
  ∃ xs vs,(rs.mapM (resSem a.tmps)).run P w=.ok vs w/\ARs w Z μ xs vs/\(K xs).sat Ψ
 |[],K,_,h=>⟨[],[],by simp [Sem.run_pure],rfl,h⟩
 |r::rs,K,hk,h=>by
  simp only [List.all_cons,Bool.and_eq_true] at hk;simp only [resAVs] at h
  have key:∃ x v,(resSem a.tmps r).run P w=.ok v w/\AR w Z μ x v/\(resAVs P s rs λvs=>K (x::vs)).sat Ψ:=by
   cases r with
   |tmp t=>exact ⟨s.get t,a.tmps.getD t undef,by simp [resSem,Sem.run_pure],hR.get t,h⟩
   |cell p T =>
    have h:(loadK s.mem (P.cellsOf T) (s.get p) λcs=>resAVs P s rs λvs=>K (avOf (aggT P T) cs::vs)).sat Ψ:=h;obtain ⟨b,o,cs,us,h1,h2,h3,h4,h5⟩:=load_spec hR.mem (hR.get p) h
    obtain ⟨v,h6,h7⟩:=run_loadVar (w:=w) (show kindOk P T=true from hk.1) (by rw [<- h4.1,h2]) h3
    refine ⟨_,v,?_,avOf_ok h4 h7,h5⟩;simp only [resSem,h1];simp [asAddr,Sem.run_bind,h6]
  obtain ⟨x,v,h1,h2,h3⟩:=key;obtain ⟨xs,vs,g1,g2,g3⟩:=resAVs_sound hR rs hk.2 h3;refine ⟨x::xs,v::vs,?_,⟨v,vs,rfl,h2,g2⟩,g3⟩;rw [List.mapM_cons];simp only [Sem.run_bind,h1,Result.andThen_ok,g1,Sem.run_pure]
theorem results_ok{P:Program}{fn:Func}{tmps:Array Value}{rs:List VSh}{vs:List Value}(h:(fn.results.toList.mapM (resSem tmps)).run P w=.ok vs w)(hl:vs.length=rs.length) :
  ∃ v,(results fn tmps).run P w=.ok v w/\RetR rs v vs:=by
 rw [results_eq,Array.mapM_eq_mapM_toList];simp only [Sem.run_bind,Sem.run_map,h,Result.andThen_ok,Sem.run_pure];refine ⟨_,rfl,?_⟩;unfold RetR;split
 ·match vs,hl with
  |[v],_=>simp
 ·rename_i hne
  have h1:¬ vs.length=1:=λhe=>by
   match rs,hl with
   |[r],_=>exact hne r rfl
   |[],hl=>rw [he] at hl;simp at hl
   |_::_::_,hl=>rw [he] at hl;simp at hl
  simp [h1]
def ObjC:List Par->List AV->Prop
 |.obj _::r,v::vs=>(∃ c,v=.c c)/\ObjC r vs
 |.val _ _::r,_::vs=>ObjC r vs
 |_,_=>True
theorem mks_objC:∀ {ps:List Par}{x:dens (ps.map Par.v)}{m:Mem},ObjC ps (mks (ps.map Par.v) x m).1
 |[],_,_=>trivial
 |[.val g s],x,m=>trivial
 |[.obj s],x,m=>by
  refine ⟨?_,trivial⟩;simp only [List.map,mks,Par.v,avOf]
  cases (s.mk x m).1<;>exact ⟨_,rfl⟩
 |.val g s::q::r,x,m=>mks_objC (ps:=q::r) (x:=x.2) (m:=(s.mk x.1 m).2)
 |.obj s::q::r,x,m=>by
  refine ⟨?_,mks_objC (ps:=q::r) (x:=x.2) (m:=(s.mk x.1 m).2)⟩;simp only [Par.v,avOf]
  cases (s.mk x.1 m).1<;>exact ⟨_,rfl⟩
theorem outsGet_sound:∀ {ps:List Par}{xs:List AV}{us:List Value}{α:Type}{y:α}{z:outs α (boxes ps)}{m:Mem}{Z F:Nat->Prop},MemOk B m w Z μ->Loose B m w Z μ F->ARs w Z μ xs us->ObjC ps xs->outsGet ps xs y m=some z ->
  ∃ (m':Mem) (Z' F' S:Nat->Prop),MemOk B m' w Z' μ/\Loose B m' w Z' μ F'/\(∀ b,Z b->Z' b)/\(∀ b,F b->F' b)/\(∀ b,S b->F' b/\¬ F b)/\OutsR w Z' B.Y ps us z S/\outFst (boxes ps) z=y
 |[],xs,us,α,y,z,m,Z,F,hM,hF,hx,ho,h=>by
  simp only [outsGet,Option.some.injEq] at h;exact ⟨m,Z,F,λ_=>False,hM,hF,λ_ h=>h,λ_ h=>h,λ_ h=>h.elim,trivial,h.symm⟩
 |.val g s::r,xs,us,α,y,z,m,Z,F,hM,hF,hx,ho,h=>by
  match xs,h with
  |x::xs,h =>
   obtain ⟨v,vs',rfl,h1,h2⟩:=hx;obtain ⟨m',Z',F',S,e1,e2,e3,e4,e5,e6,e7⟩:=outsGet_sound (ps:=r) hM hF h2 ho h;exact ⟨m',Z',F',S,e1,e2,e3,e4,e5,⟨v,vs',rfl,e6⟩,e7⟩
 |.obj s::r,xs,us,α,y,z,m,Z,F,hM,hF,hx,ho,h=>by
  match xs,h with
  |x::xs,h =>
   obtain ⟨v,vs',rfl,h1,h2⟩:=hx;obtain ⟨⟨c,rfl⟩,ho⟩:=ho;simp only [outsGet] at h;split at h
   case h_2=>cases h
   rename_i x1 m1 hg;split at h
   case h_2=>cases h
   rename_i z1 hz;simp only [Option.some.injEq] at h;subst h
   obtain ⟨⟨Z1,F1,S1,us1,us2,e1,e2,e3,e4,e5,e6,e7,e8,e9⟩,_⟩:=get_sound s hM hF (CRs.mk1 (show CR w Z μ c v from h1)) hg
   have:=e9.nil_inv;subst this;rw [List.append_nil] at e1;subst e1;obtain ⟨m',Z',F',S2,g1,g2,g3,g4,g5,g6,g7⟩:=outsGet_sound (ps:=r) e3 e4 (h2.mono (SameOn.refl _ _) e5 (ExtL.refl μ)) ho hz;refine ⟨m',Z',F',λd=>S1 d\/S2 d,g1,g2,λb hb=>g3 b (e5 b hb),λb hb=>g4 b (e6 b hb),λd hd=>?_,⟨v,vs',S1,S2,rfl,λ_ h=>.inl h,λ_ h=>.inr h,λd a b=>(g5 d b).2 (e7 d a).1,?_,g6⟩,rfl⟩
   ·rcases hd with hd|hd
    ·exact ⟨g4 d (e7 d hd).1,(e7 d hd).2⟩
    ·exact ⟨(g5 d hd).1,λhf=>(g5 d hd).2 (e6 d hf)⟩
   ·show SR w Z' B.Y s [v] (outFst (boxes r) z1) S1;rw [g7];exact e8.up g3
end
end Go.Mach

namespace Go.Mach
theorem contract_at{sp:Spec}{E:Env}{G:Glob}{fn:Func}{ann:Ann}(hm:E.P.follows .mixedOrders=true)(hE:EnvOk E G)(hfn:E.P.funcs[sp.f]?=some fn)(hbody:fn.body.isSome=true)(hname:(fn.name == "runtime.NumGoroutine")=false)
  (hobj:(boxes sp.ps).all Sh.objOk=true) (hnb:(sp.rs.all λs=>s.2.noBor)=true) (hres:fn.results.toList.all (resOk E.P)=true)
  (heq:∀ x,runBody E fn sp.ps sp.rs ann x=sp.run x):Contract E.P G sp:=by
 refine ⟨⟨fn,hfn,hbody,hname⟩,hobj,λw Z Y S args x Ψ hsat hG hZ hY hS hV=>?_⟩;rw [<- heq x] at hsat;unfold runBody at hsat;split at hsat
 case h_2=>exact hsat.elim
 rename_i code hcode
 let B:Base:=⟨w,S,Z,Y,G,hG.1,λb hb=>⟨hG.2 b hb,hZ b (hG.2 b hb),λh=>(hS b h).2 (hG.2 b hb)⟩⟩
 let m0:Mem:=⟨List.replicate (newsL (sp.ps.map Par.v)) Root.dead,0,0⟩
 have hdead:∀ (r:Nat) (y:Root),m0.roots[r]?=some y->y=Root.dead:=λr y hy=>by
  have hy:(List.replicate (newsL (sp.ps.map Par.v)) Root.dead)[r]?=some y:=hy;rw [List.getElem?_replicate] at hy;split at hy
  ·exact (Option.some.inj hy).symm
  ·cases hy
 have hM0:MemOk B m0 w Z (λ_=>none):=by
  refine ⟨(λr y hy hd=>absurd (hdead r y hy) hd),(λr s y z ℓ ℓ' _ _ _ _ _ hl=>by cases hl),(λr y ℓ b _ _ hl=>by cases hl),λb hb=>⟨hZ b hb,.inl hb⟩,λb hb=>hb,Nat.le_refl _,λb _ _=>rfl,λ_ _=>rfl,λb hb=>hY b hb,Io.refl _⟩
 have hL0:Loose B m0 w Z (λ_=>none) S:=by
  refine ⟨λb hb=>⟨(hS b hb).2,(hS b hb).1,.inr hb⟩,λb r hb=>?_⟩;rintro ⟨y,ℓ,_,_,hl,_⟩;cases hl
 have hF0:Free m0 (λ_=>none) (newsL (sp.ps.map Par.v)):=λk hk=>⟨rfl,by
  show (List.replicate (newsL (sp.ps.map Par.v)) Root.dead)[0+k]?=_
  rw [Nat.zero_add,List.getElem?_replicate,if_pos hk]⟩
 obtain ⟨μ1,e1,e2,e3,e4⟩:=mks_sound hM0 hL0 hF0 hV (λ_ h=>h);have hobjc:=mks_objC (ps:=sp.ps) (x:=x) (m:=m0);have hm0:(⟨List.replicate (newsL (sp.ps.map Par.v)) Root.dead,0,0⟩:Mem)=m0:=rfl;rw [hm0] at hsat;generalize mks (sp.ps.map Par.v) x m0=k at hsat e1 e2 e3 e4 hobjc;obtain ⟨vs,m⟩:=k;simp only at hsat e1 e2 e3 e4 hobjc;have hsat:=sat_given hsat hV.ok;refine calls_of_wp hfn hcode ?_
 let st:St:=⟨vs++List.replicate (fn.ntmps-vs.length) (.c .undef),m,[]⟩
 have hlen:=e3.len
 have hR:Rel B st { tmps:=args.toArray++Array.replicate (fn.ntmps-args.toArray.size) undef,defers:=[] } w Z μ1:=by
  refine ⟨e1,λi z hz=>?_,?_,rfl⟩
  ·have hz:(vs++List.replicate (fn.ntmps-vs.length) (AV.c .undef))[i]?=some z:=hz;rcases Nat.lt_or_ge i vs.length with h1|h1
   ·rw [List.getElem?_append_left h1] at hz;obtain ⟨v,hv,har⟩:=ARs.at_ e3 i z hz
    have:(args.toArray++Array.replicate (fn.ntmps-args.toArray.size) undef).getD i undef=v:=by
     rw [Array.getD_eq_getD_getElem?,Array.getElem?_append_left (by simp;omega)];simp [hv]
    show AR w Z μ1 z ((args.toArray++Array.replicate (fn.ntmps-args.toArray.size) undef).getD i undef);rw [this];exact har
   ·rw [List.getElem?_append_right h1,List.getElem?_replicate] at hz;split at hz
    ·cases hz;exact AR.undef _
    ·cases hz
  ·show (vs++List.replicate (fn.ntmps-vs.length) (AV.c .undef)).length=(args.toArray++Array.replicate (fn.ntmps-args.toArray.size) undef).size;simp [hlen]
 refine exec_sound (B:=B) hm hE code _ ann st _ Ψ _ st _ _ w w Z Z μ1 μ1 hsat hR hR (Ev.refl _) (ExtL.refl _) ?_;intro e s a' w' Z' μ' hs hR' _ hext'
 have hfin:(fin E.P fn sp.ps sp.rs vs s).sat Ψ->a'.defers=[]/\∃ v,(results fn a'.tmps).run E.P w'=.ok v w'/\(∃ y v' vals,∃ Z' S1 S2:Nat->Prop,Ending.returned v=.returned v'/\Ψ y/\RetR sp.rs v' vals /\
   ValsR w' Z' (λ_=>False) sp.rs vals (outFst (boxes sp.ps) y) S1/\OutsR w' Z' Y sp.ps args y S2/\(∀ d,S1 d->S2 d->False) /\
   (∀ b,S1 b\/S2 b->b < w'.heap.size/\¬ Z' b/\(S b\/w.heap.size<=b))/\(∀ b,Z b->Z' b)/\(∀ b,Z' b->b < w'.heap.size/\(Z b\/S b\/w.heap.size<=b)) /\
   w.heap.size<=w'.heap.size/\(∀ b,b < w.heap.size->¬ S b->w'.heap[b]?=w.heap[b]?)/\Io G.dr w w'):=by
  intro hs;unfold fin at hs;obtain ⟨xs,vals,hrun,hxs,hs⟩:=resAVs_sound hR' fn.results.toList hres hs;split at hs
  case h_2=>exact hs.elim
  rename_i y m1 hg;split at hs
  case h_2=>exact hs.elim
  rename_i z ho;obtain ⟨Z1,F1,S1,a1,a2,a3,a4,a5,a6,a7⟩:=gets_sound hR'.mem (Loose.none B s.mem w' Z' μ') hxs hg;have hsame:SameOn Z w w':=λb hb=>a1.keep b (hZ b hb) λhS'=>(hS b hS').2 hb;obtain ⟨m2,Z2,F2,S2,b1,b2,b3,b4,b5,b6,b7⟩:=outsGet_sound (ps:=sp.ps) a1 a2 (e3.mono hsame a1.frz0 hext') hobjc ho;obtain ⟨v,hv,hret⟩:=results_ok (rs:=sp.rs) hrun a7.len;refine ⟨hR'.df,v,hv,z,v,vals,Z2,S1,S2,rfl,hs,hret,?_,b6,λd h1 h2=>(b5 d h2).2 (a5 d h1).1,λb hb=>?_,b1.frz0,λb hb=>?_,b1.size,b1.keep,b1.io⟩
  ·rw [b7];exact (a7.up b3).noY hnb
  ·have hF:F2 b:=by
    rcases hb with hb|hb
    ·exact b4 b (a5 b hb).1
    ·exact (b5 b hb).1
   obtain ⟨c1,c2,c3⟩:=b2.ok b hF;exact ⟨c2,c1,c3.symm⟩
  ·obtain ⟨c1,c2⟩:=b1.frz b hb;exact ⟨c1,c2.imp id Or.symm⟩
 cases e with
 |nrm=>exact hfin hs
 |ret=>exact hfin hs
 |ext n=>exact hs.elim
theorem contract_of{sp:Spec}{E:Env}{G:Glob}{fn:Func}{ann:Ann}(hm:E.P.follows .mixedOrders=true)(hE:∀ sp∈E.specs,Contract E.P G sp)(hfn:E.P.funcs[sp.f]?=some fn)(hbody:fn.body.isSome=true)(hname:(fn.name == "runtime.NumGoroutine")=false)
  (hobj:(boxes sp.ps).all Sh.objOk=true) (hnb:(sp.rs.all λs=>s.2.noBor)=true) (hres:fn.results.toList.all (resOk E.P)=true)
  (heq:∀ x,runBody E fn sp.ps sp.rs ann x=sp.run x) (hi:E.inls=[]:=by rfl):Contract E.P G sp:=contract_at hm (.of_specs hE hi) hfn hbody hname hobj hnb hres heq
theorem contract_stuck{sp:Spec}{P:Program}{G:Glob}{fn:Func}(hfn:P.funcs[sp.f]?=some fn)(hbody:fn.body.isSome=true)(hname:(fn.name == "runtime.NumGoroutine")=false)(hobj:(boxes sp.ps).all Sh.objOk=true)(h0:∀ x,sp.run x=.stuck):Contract P G sp :=
 ⟨⟨fn,hfn,hbody,hname⟩,hobj,λw Z Y S args x Ψ hsat=>by rw [h0] at hsat;exact hsat.elim⟩
theorem contract_rec{f:FuncId}{ps:List Par}{rs:List VSh}{run:Nat->dens (ps.map Par.v)->Res (outs (dens rs) (boxes ps))}{E:Nat->Env}{P:Program}{G:Glob}{fn:Func}{ann:Ann}(hP:∀ n,(E n).P=P)(hm:P.follows .mixedOrders=true)
  (hE:∀ n,Contract P G ⟨f,ps,rs,run n⟩->∀ sp∈(E n).specs,Contract P G sp) (hfn:P.funcs[f]?=some fn) (hbody:fn.body.isSome=true) (hname:(fn.name == "runtime.NumGoroutine")=false)
  (hobj:(boxes ps).all Sh.objOk=true) (hnb:(rs.all λs=>s.2.noBor)=true) (hres:fn.results.toList.all (resOk P)=true)
  (h0:∀ x,run 0 x=.stuck) (heq:∀ n x,runBody (E n) fn ps rs ann x=run (n+1) x) (hi:∀ n,(E n).inls=[]:=by exact λ_=>rfl):∀ n,Contract P G ⟨f,ps,rs,run n⟩
 |0=>⟨⟨fn,hfn,hbody,hname⟩,hobj,λw Z Y S args x Ψ hsat=>by
   have hsat:(run 0 x).sat Ψ:=hsat
   rw [h0] at hsat;exact hsat.elim⟩
 |n+1=>by
  have ih:=contract_rec hP hm hE hfn hbody hname hobj hnb hres h0 heq hi n;have hPn:=hP n;have hEn:=hE n ih;have heqn:=heq n;have hin:=hi n;generalize E n=En at hPn hEn heqn hin;subst hPn;exact contract_of (sp:=⟨f,ps,rs,run (n+1)⟩) (E:=En) (ann:=ann) hm hEn hfn hbody hname hobj hnb hres heqn hin
end Go.Mach

namespace Go.Mach
section
variable {α β:Type}(f:α->Res β)
noncomputable def Kont.then(K:Kont α):Kont β:={ nrm:=λst=>(K.nrm st).bind f,ext:=λn st=>(K.ext n st).bind f,ret:=λst=>(K.ret st).bind f }
theorem Res.bind_sum{γ δ:Type}(x:γ ⊕ δ)(g:γ->Res α)(h:δ->Res α):(Res.sum x g h).bind f=Res.sum x (λy=>(g y).bind f) λy=>(h y).bind f:=by cases x<;>rfl
theorem stepV_nat(E:Env)(ρ:Operand->AV)(M:Mem)(o:Oper)(K:AV->Mem->Res α):stepV E ρ M o (λv m=>(K v m).bind f)=(stepV E ρ M o K).bind f:=by
 rw [stepV_cps,stepV_cps E ρ M o K,Res.bind_assoc]
theorem guardK_nat(ops:Array Oper)(dst:Option Tmp)(st:St)(K:St->Res α):guardK ops dst st (λs=>(K s).bind f)=(guardK ops dst st K).bind f:=by
 unfold guardK;split
 ·unfold splitK;split
  ·split
   ·rw [Res.bind_br]
   ·rfl
  ·rfl
 ·rfl
theorem execOps_nat(E:Env)(ops:Array Oper)(A:List Nat)(K:St->Res α):∀ (rest:List Oper) (i c:Nat) (l:Log) (st:St),execOps E ops A rest i c l st (λs=>(K s).bind f)=(execOps E ops A rest i c l st K).bind f
 |[],_,_,_,_=>rfl
 |o::rest,i,c,l,st=>by
  simp only [execOps];split
  ·split
   ·split
    ·rw [<- stepV_nat];congr 1;funext v m;split
     ·rw [<- guardK_nat];congr 1;funext s;exact execOps_nat E ops A K rest _ _ _ _
     ·rfl
    ·rfl
   ·split
    ·rename_i j xs _;rw [j.cps,j.cps α,Res.bind_assoc];congr 1;funext p;rw [<- guardK_nat];congr 1;funext s;exact execOps_nat E ops A K rest _ _ _ _
    ·rw [<- stepV_nat];congr 1;funext v m;rw [<- guardK_nat];congr 1;funext s;exact execOps_nat E ops A K rest _ _ _ _
  ·exact execOps_nat E ops A K rest _ _ _ _
  ·rfl
theorem Kont.then_at(K:Kont α)(k:EKey)(st:St):(K.then f).at k st=(K.at k st).bind f:=by cases k<;>rfl
theorem go_nat(st:St)(K:Kont α):∀ (l:Exits) (x:l.den),Exits.go st (K.then f) l x=(Exits.go st K l x).bind f
 |[],_=>rfl
 |[a],x=>by simp only [Exits.go];exact Kont.then_at f K _ _
 |a::b::r,x=>by
  simp only [Exits.go];rw [Res.bind_sum];congr 1
  ·funext y;exact Kont.then_at f K _ _
  ·funext y;exact go_nat st K (b::r) y
theorem cutAt_nat{run:(γ:Type)->Ann->St->Kont γ->Res γ}{ann:Ann}(h:∀ st (K:Kont α),run β ann st (K.then f)=(run α ann st K).bind f)(st:St)(K:Kont α) :
  cutAt ann st (K.then f) run=(cutAt ann st K run).bind f:=by
 unfold cutAt;split
 ·rename_i ex _;rw [Res.bind_assoc];congr 1;funext x;exact go_nat f st K ex x
 ·exact h st K
theorem Ann.inner_nr{a:Ann}(h:a.noRange=true):a.inner.noRange=true:=by cases a<;>first|exact h|exact h
theorem Ann.left_nr{a:Ann}(h:a.noRange=true):a.left.noRange=true:=by
 cases a with
 |two a b=>simp only [Ann.noRange,Bool.and_eq_true] at h;exact h.1
 |_=>rfl
theorem Ann.right_nr{a:Ann}(h:a.noRange=true):a.right.noRange=true:=by
 cases a with
 |two a b=>simp only [Ann.noRange,Bool.and_eq_true] at h;exact h.2
 |_=>rfl
theorem unrollK_nat{run:(γ:Type)->Ann->St->Kont γ->Res γ}(h:∀ ann st (K:Kont α),ann.noRange=true->run β ann st (K.then f)=(run α ann st K).bind f)(K:Kont α):∀ (ann:Ann) (st:St),ann.noRange=true->unrollK (run β) ann st (K.then f)=(unrollK (run α) ann st K).bind f:=by
 intro ann
 induction ann with
 |unr a r _ ih =>
  intro st hn;simp only [Ann.noRange,Bool.and_eq_true] at hn;simp only [unrollK];rw [<- h _ _ _ hn.1];congr 1;simp only [Kont.then];congr 1;funext s;exact ih s hn.2
 |_=>intro st _;rfl
theorem exec_nat(E:Env):∀ (c:Code) (ann:Ann) (st:St) (K:Kont α),ann.noRange=true->exec E c β ann st (K.then f)=(exec E c α ann st K).bind f
 |.skip,ann,st,K,_=>rfl
 |.region _ ops draw,ann,st,K,_=>by
  unfold exec;refine cutAt_nat f (λst K=>?_) st K;simp only;split
  ·exact execOps_nat f _ ops _ K.nrm _ _ _ _ _
  ·rfl
 |.seq x y,ann,st,K,h=>by
  unfold exec;refine cutAt_nat f (ann:=ann) (run:=λγ ann st K=>exec E x γ ann.left st { nrm:=λst=>exec E y γ ann.right st K,ext:=K.ext,ret:=K.ret }) (λst K=>?_) st K;rw [<- exec_nat E x ann.left st _ (Ann.left_nr h)];congr 1;simp only [Kont.then];congr 1;funext s;exact exec_nat E y ann.right s K (Ann.right_nr h)
 |.cond c x y,ann,st,K,h=>by
  unfold exec;refine cutAt_nat f (λst K=>?_) st K;split
  ·rw [Res.bind_br,exec_nat E x ann.left st K (Ann.left_nr h),exec_nat E y ann.right st K (Ann.right_nr h)]
  ·rfl
 |.block id x,ann,st,K,h=>by
  unfold exec;refine cutAt_nat f (λst K=>?_) st K;rw [<- exec_nat E x ann.left st _ (Ann.left_nr h)];congr 1;simp only [Kont.then];congr 1;funext n s
  split<;>rfl
 |.loop x,ann,st,K,h=>by
  unfold exec;split
  ·split
   ·rw [Res.bind_assoc];congr 1;funext y;exact go_nat f st K _ y
   ·rfl
  ·cases h
  ·exact unrollK_nat f (run:=λγ ann st K=>exec E x γ ann st K) (λann st K hn=>exec_nat E x ann st K hn) K _ st h
  ·rfl
 |.scope x,ann,st,K,h=>by
  unfold exec;exact cutAt_nat f (ann:=ann) (run:=λγ ann st K=>exec E x γ ann.left st K) (λst K=>exec_nat E x ann.left st K (Ann.left_nr h)) st K
 |.label _,ann,st,K,_=>rfl
 |.exit id,ann,st,K,_=>rfl
 |.ret,ann,st,K,_=>rfl
 |.rangeFunc _ _ _ _,ann,st,K,_=>by unfold exec;rfl
 |.refuse _,ann,st,K,_=>by unfold exec;rfl
 |.goto _,ann,st,K,_=>by unfold exec;rfl
theorem resAVs_nat(P:Program)(st:St):∀ (rs:List ResultVar) (K:List AV->Res α),resAVs P st rs (λvs=>(K vs).bind f)=(resAVs P st rs K).bind f
 |[],K=>rfl
 |r::rs,K=>by
  simp only [resAVs,resAV];split
  ·exact resAVs_nat P st rs _
  ·have hl:∀ {m:Mem}{n:Nat}{a:AV}(k:List C->Res α),loadK m n a (λcs=>(k cs).bind f)=(loadK m n a k).bind f:=by
    intro m n a k;unfold loadK;split
    ·split
     ·split<;>rfl
     ·split<;>rfl
     ·rfl
    ·split<;>rfl
    ·split
     ·rw [Res.bind_idx];congr 1;funext x
      split<;>rfl
     ·rw [Res.bind_need];congr 1
      split<;>rfl
     ·rfl
    ·rfl
   rw [<- hl];congr 1;funext cs;exact resAVs_nat P st rs _
end
end Go.Mach

namespace Go.Mach
def packA:List AV->AV
 |[v]=>v
 |vs=>.tup (vs.map λv=>match v with
  |.c x=>(false,[x])
  |.agg cs=>(true,cs)
  |.tup _=>(false,[.undef]))
noncomputable def inlRun(E:Env)(fn:Func)(ann:Ann)(β:Type)(xs:List AV)(m:Mem)(K:AV->Mem->Res β):Res β :=
 match fn.body with
 |some code=>exec E code β ann ⟨xs++List.replicate (fn.ntmps-xs.length) (.c .undef),⟨m.roots,0,m.cur⟩,[]⟩
   {nrm:=λst=>resAVs E.P st fn.results.toList λvs=>K (packA vs) ⟨st.mem.roots,m.dR ||| st.mem.dR,st.mem.cur⟩
    ext:=λ_ _=>.stuck
    ret:=λst=>resAVs E.P st fn.results.toList λvs=>K (packA vs) ⟨st.mem.roots,m.dR ||| st.mem.dR,st.mem.cur⟩ }
 |none=>.stuck
theorem inlRun_cps{E:Env}{fn:Func}{ann:Ann}(h:ann.noRange=true)(β:Type)(xs:List AV)(m:Mem)(K:AV->Mem->Res β):inlRun E fn ann β xs m K=(inlRun E fn ann (AV×Mem) xs m λv m=>.ok (v,m)).bind λp=>K p.1 p.2:=by
 unfold inlRun;split
 ·refine Eq.trans ?_ (exec_nat (λp:AV×Mem=>K p.1 p.2) E _ ann _ _ h);congr 1;simp only [Kont.then];congr 1
  ·funext s;exact resAVs_nat (λp:AV×Mem=>K p.1 p.2) E.P s _ λvs=>Res.ok (packA vs,⟨s.mem.roots,m.dR ||| s.mem.dR,s.mem.cur⟩)
  ·funext s;exact resAVs_nat (λp:AV×Mem=>K p.1 p.2) E.P s _ λvs=>Res.ok (packA vs,⟨s.mem.roots,m.dR ||| s.mem.dR,s.mem.cur⟩)
 ·rfl
noncomputable def inlFn(f:FuncId)(E:Env)(fn:Func)(ann:Ann)(n:Nat:=0)(h:ann.noRange=true:=by rfl):Inl:=⟨f,inlRun E fn ann,n,inlRun_cps h⟩
theorem packA_ok{w:World}{Z:Nat->Prop}{μ:Locs}{xs:List AV}{vals:List Value}(h:ARs w Z μ xs vals){v:Value}(hv:(vals.length=1/\vals=[v])\/(vals.length≠1/\v=.tuple vals.toArray)):AR w Z μ (packA xs) v:=by
 have hl:=h.len;rcases hv with ⟨h1,rfl⟩|⟨h1,rfl⟩
 ·match xs,h with
  |[x],h =>
   obtain ⟨v',vs',he,h2,h3⟩:=h;cases he;exact h2
  |[],h=>simp at hl
  |_::_::_,h=>simp at hl
 ·have hp:packA xs=.tup (xs.map λv=>match v with
   |.c x=>(false,[x])
   |.agg cs=>(true,cs)
   |.tup _=>(false,[.undef])):=by
   match xs with
   |[]=>rfl
   |[x]=>simp at hl;exact absurd hl h1
   |_::_::_=>rfl
  rw [hp];refine ⟨vals,rfl,by simp [hl],λk hk hk'=>?_⟩;simp only [List.getElem_map]
  have hk2:k < xs.length:=by simpa using hk
  obtain ⟨u,hu,har⟩:=ARs.at_ h k xs[k] (List.getElem?_eq_getElem hk2)
  have hu:vals[k]=u:=by rw [List.getElem?_eq_getElem hk'] at hu;exact Option.some.inj hu
  rw [hu];generalize xs[k]=x at har
  cases x with
  |c c=>exact har
  |agg cs=>exact har
  |tup l=>exact trivial
theorem results_pack{P:Program}{w:World}{fn:Func}{tmps:Array Value}{vs:List Value}(h:(fn.results.toList.mapM (resSem tmps)).run P w=.ok vs w) :
  ∃ v,(results fn tmps).run P w=.ok v w/\((vs.length=1/\vs=[v])\/(vs.length≠1/\v=.tuple vs.toArray)):=by
 rw [results_eq,Array.mapM_eq_mapM_toList];simp only [Sem.run_bind,Sem.run_map,h,Result.andThen_ok,Sem.run_pure];refine ⟨_,rfl,?_⟩;by_cases h1:vs.length=1
 ·match vs,h1 with
  |[v],_=>exact .inl ⟨rfl,by simp⟩
 ·exact .inr ⟨h1,by simp [h1]⟩
theorem inl_of_exec{E:Env}{G:Glob}{f:FuncId}{fn:Func}{ann:Ann}(hm:E.P.follows .mixedOrders=true)(hE:EnvOk E G)(hfn:E.P.funcs[f]?=some fn)(hbody:fn.body.isSome=true)(hname:(fn.name == "runtime.NumGoroutine")=false)
  (hres:fn.results.toList.all (resOk E.P)=true){n:Nat}{hnr:ann.noRange=true}:InlOk E.P G (inlFn f E fn ann n hnr):=by
 refine ⟨⟨fn,hfn,hbody,hname⟩,?_⟩;rintro B β Ψ xs args m w Z μ K rfl hM hx h;have h:(inlRun E fn ann β xs m K).sat Ψ:=h;unfold inlRun at h;split at h
 case h_2=>exact h.elim
 rename_i code hcode
 let B2:Base:=⟨w,λb=>¬ Z b/\(B.w0.heap.size<=b\/B.A b),Z,B.Y,B.g,hM.glob.1,λb hb=>⟨hM.glob.2 b hb,(hM.frz b (hM.glob.2 b hb)).1,λh=>h.1 (hM.glob.2 b hb)⟩⟩
 let m0:Mem:=⟨m.roots,0,m.cur⟩
 have hM2:MemOk B2 m0 w Z μ:=⟨hM.rt,hM.dj,λr x ℓ b h1 h2 h3 h4=>by
   obtain ⟨g1,g2,g3⟩:=hM.own r x ℓ b h1 h2 h3 h4
   exact ⟨g1,g2,.inr ⟨g1,g3⟩⟩,λb hb=>⟨(hM.frz b hb).1,.inl hb⟩,λb hb=>hb,Nat.le_refl _,λb _ _=>rfl,hM.far,λb hb=>⟨Nat.lt_of_lt_of_le (hM.lent b hb).1 hM.size,λhA=>by
   obtain ⟨g1,g2⟩:=hM.lent b hb;rcases hA.2 with h2|h2
   ·omega
   ·exact g2 h2⟩,Io.refl _⟩
 refine calls_of_wp hfn hcode ?_
 let st:St:=⟨xs++List.replicate (fn.ntmps-xs.length) (.c .undef),m0,[]⟩
 have hlen:=hx.len
 have hR:Rel B2 st { tmps:=args.toArray++Array.replicate (fn.ntmps-args.toArray.size) undef,defers:=[] } w Z μ:=by
  refine ⟨hM2,λi z hz=>?_,?_,rfl⟩
  ·have hz:(xs++List.replicate (fn.ntmps-xs.length) (AV.c .undef))[i]?=some z:=hz;rcases Nat.lt_or_ge i xs.length with h1|h1
   ·rw [List.getElem?_append_left h1] at hz;obtain ⟨v,hv,har⟩:=ARs.at_ hx i z hz
    have:(args.toArray++Array.replicate (fn.ntmps-args.toArray.size) undef).getD i undef=v:=by
     rw [Array.getD_eq_getD_getElem?,Array.getElem?_append_left (by simp;omega)];simp [hv]
    show AR w Z μ z ((args.toArray++Array.replicate (fn.ntmps-args.toArray.size) undef).getD i undef);rw [this];exact har
   ·rw [List.getElem?_append_right h1,List.getElem?_replicate] at hz;split at hz
    ·cases hz;exact AR.undef _
    ·cases hz
  ·show (xs++List.replicate (fn.ntmps-xs.length) (AV.c .undef)).length=(args.toArray++Array.replicate (fn.ntmps-args.toArray.size) undef).size;simp [hlen]
 refine exec_sound (B:=B2) hm hE code _ ann st _ Ψ _ st _ _ w w Z Z μ μ h hR hR (Ev.refl _) (ExtL.refl _) ?_;intro e s a' w' Z' μ' hs hR' hev hext'
 have hfin:(resAVs E.P s fn.results.toList λvs=>K (packA vs) ⟨s.mem.roots,m.dR ||| s.mem.dR,s.mem.cur⟩).sat Ψ->a'.defers=[]/\∃ v,(results fn a'.tmps).run E.P w'=.ok v w'/\(∃ vr v' m',∃ Z':Nat->Prop,∃ μ',Ending.returned v=.returned vr/\(K v' m').sat Ψ/\MemOk B m' w' Z' μ'/\AR w' Z' μ' v' vr/\SameOn Z w w'/\(∀ b,Z b->Z' b)/\ExtL μ μ'/\m.roots.length<=m'.roots.length /\
   (∀ r,r < m.roots.length->m'.dR.testBit r=false->m'.roots[r]?=m.roots[r]?)/\(∀ r,m.dR.testBit r=true->m'.dR.testBit r=true)):=by
  intro hs;obtain ⟨ys,vals,hrun,hys,hs⟩:=resAVs_sound hR' fn.results.toList hres hs;obtain ⟨v,hv,hp⟩:=results_pack hrun;have hN:=hR'.mem;refine ⟨hR'.df,v,hv,v,_,_,Z',μ',rfl,hs,?_,packA_ok hys hp,?_,hN.frz0,hext',hev.rl,λr hr hb=>?_,λr hr=>?_⟩
  ·refine MemOk.congr (m:=s.mem) ?_ rfl;refine ⟨hN.rt,hN.dj,λr x ℓ b h1 h2 h3 h4=>?_,λb hb=>?_,λb hb=>hN.frz0 b (hM.frz0 b hb),Nat.le_trans hM.size hN.size,λb hb hA=>?_,hN.far,hM.lent,hM.io.trans hN.io⟩
   ·obtain ⟨g1,g2,g3⟩:=hN.own r x ℓ b h1 h2 h3 h4;refine ⟨g1,g2,?_⟩;rcases g3 with g3|g3
    ·exact .inl (Nat.le_trans hM.size g3)
    ·exact g3.2
   ·obtain ⟨g1,g2⟩:=hN.frz b hb;refine ⟨g1,?_⟩;rcases g2 with g2|g2|g2
    ·exact (hM.frz b g2).2
    ·exact .inr (.inl (Nat.le_trans hM.size g2))
    ·exact .inr g2.2
   ·refine (hN.keep b (Nat.lt_of_lt_of_le hb hM.size) λh2=>?_).trans (hM.keep b hb hA);rcases h2.2 with h3|h3
    ·omega
    ·exact hA h3
  ·exact λb hb=>hN.keep b (hM.frz b hb).1 λh2=>h2.1 hb
  ·simp only [Nat.testBit_or,Bool.or_eq_false_iff] at hb;exact hev.rt r hr hb.2
  ·simp only [Nat.testBit_or,hr,Bool.true_or]
 cases e with
 |nrm=>exact hfin hs
 |ret=>exact hfin hs
 |ext n=>exact hs.elim
end Go.Mach

namespace Go.Mach
structure Sg where
 ps:List Par
 rs:List VSh
abbrev Sg.I(g:Sg):Type:=dens (g.ps.map Par.v)
abbrev Sg.O(g:Sg):Type:=outs (dens g.rs) (boxes g.ps)
@[reducible] def Sg.i(g:Sg)(x:g.I):Bool:=oks (g.ps.map Par.v) x
def Sg.o(g:Sg)(y:g.O):Bool:=outsOk (oks g.rs) (boxes g.ps) y
@[reducible] def Sg.sp(g:Sg)(f:FuncId)(run:g.I->Res g.O):Spec:=⟨f,g.ps,g.rs,run⟩
abbrev Ann.n:Ann:=.none
abbrev Ann.r(a:Ann):Ann:=.two .none a
abbrev Ann.l(a:Ann):Ann:=.two a .none
abbrev rg(a n:Nat):List Nat:=List.range' a n
abbrev Sh.i:Sh:=.frz (.int .i64)
abbrev Sh.h:Sh:=.frz (.int .u16)
abbrev Sh.y:Sh:=.frz (.int .u8)
abbrev Sh.w:Sh:=.frz (.int .u32)
abbrev Sh.b:Sh:=.frz .bool
abbrev Sh.s:Sh:=.frz .str
abbrev vi:VSh:=(false,.i)
abbrev vb:VSh:=(false,.b)
abbrev vs:VSh:=(false,.s)
abbrev Par.i:Par:=.val false .i
abbrev Par.b:Par:=.val false .b
abbrev Par.s:Par:=.val false .s
def fnOk(P:Program)(ps:List Par)(rs:List VSh)(fn:Func):Bool :=
 fn.body.isSome && (!(fn.name == "runtime.NumGoroutine") && ((boxes ps).all Sh.objOk && ((rs.all λs=>s.2.noBor) && fn.results.toList.all (resOk P))))
def Eqn(E:Env)(sp:Spec)(ann:Ann):Prop:=∃ fn,E.P.funcs[sp.f]?=some fn/\fnOk E.P sp.ps sp.rs fn=true/\∀ x,runBody E fn sp.ps sp.rs ann x=sp.run x
theorem eqn{E:Env}{f:FuncId}{ps:List Par}{rs:List VSh}{run:dens (ps.map Par.v)->Res (outs (dens rs) (boxes ps))}{ann:Ann}(fn:Func)(h1:E.P.funcs[f]?=some fn:=by kernel_rfl)(h2:fnOk E.P ps rs fn=true:=by kernel_rfl)(h3:∀ x,runBody E fn ps rs ann x=run x:=by intro x;kernel_rfl):Eqn E ⟨f,ps,rs,run⟩ ann:=⟨fn,h1,h2,h3⟩
theorem Eqn.contract{E:Env}{G:Glob}{sp:Spec}{ann:Ann}(h:Eqn E sp ann)(hm:E.P.follows .mixedOrders=true)(hE:EnvOk E G):Contract E.P G sp:=by
 obtain ⟨fn,h1,h2,h3⟩:=h;simp only [fnOk,Bool.and_eq_true,Bool.not_eq_true'] at h2;exact contract_at hm hE h1 h2.1 h2.2.1 h2.2.2.1 h2.2.2.2.1 h2.2.2.2.2 h3
theorem Eqn.stuck{E:Env}{G:Glob}{sp:Spec}{ann:Ann}{run:dens (sp.ps.map Par.v)->Res (outs (dens sp.rs) (boxes sp.ps))}(h:Eqn E sp ann)(h0:∀ x,run x=.stuck):Contract E.P G ⟨sp.f,sp.ps,sp.rs,run⟩:=by
 obtain ⟨fn,h1,h2,h3⟩:=h;simp only [fnOk,Bool.and_eq_true,Bool.not_eq_true'] at h2;exact contract_stuck h1 h2.1 h2.2.1 h2.2.2.1 h0
end Go.Mach

namespace Go.Mach
def w6(x:Int):Int:=IntKind.wrap .i64 x
end Go.Mach

namespace Go.Mach
namespace Res
variable {α β γ:Type}{Q:β->Prop}
theorem law_ok{Q:α->Prop}{a:α}(h:Q a):(Res.ok a).sat Q:=h
theorem law_mono{Q Q':α->Prop}{m:Res α}(h:m.sat Q)(hq:∀ a,Q a->Q' a):m.sat Q':=by
 exact sat_imp' hq h
theorem law_bind{m:Res α}{k:α->Res β}(h:m.sat λa=>(k a).sat Q):(m.bind k).sat Q:=by
 exact bind_sat h
theorem law_bind'{m:Res α}{k:α->Res β}{R:α->Prop}(h:m.sat R)(hk:∀ a,R a->(k a).sat Q):(m.bind k).sat Q:=law_bind (law_mono h hk)
theorem law_bind_eq{m:Res α}{k:α->Res β}{a:α}(h:m.sat (·=a))(hk:(k a).sat Q):(m.bind k).sat Q:=law_bind' h λ_ e=>e▸hk
theorem law_given{b:Bool}{k:Res β}(h:b=true->k.sat Q):(given b k).sat Q:=by
 exact h
theorem law_need{b:Bool}{k:Res β}(hb:b=true)(h:k.sat Q):(need b k).sat Q:=by
 subst hb;exact h
theorem law_br{b:Bool}{x y:Res β}(h1:b=true->x.sat Q)(h2:b=false->y.sat Q):(br b x y).sat Q:=by
 cases b<;>simp_all [br]
theorem law_idx{t:Ty}{xs:List t.den}{i:Int}{k:t.den->Res β}(h0:0<=i)(h1:i.toNat < xs.length)(h:∀ x,xs[i.toNat]?=some x->t.ok x=true->(k x).sat Q):(idx t xs i k).sat Q:=by
 unfold idx;rw [decide_eq_true h0,List.getElem?_eq_getElem h1];exact law_given λhk=>h _ (List.getElem?_eq_getElem h1) hk
theorem law_idxS{s:Sh}{xs:List s.den}{i:Int}{k:s.den->Res β}(h0:0<=i)(h1:i.toNat < xs.length)(h:∀ x,xs[i.toNat]?=some x->s.ok x=true->(k x).sat Q):(idxS s xs i k).sat Q:=by
 unfold idxS;rw [decide_eq_true h0,List.getElem?_eq_getElem h1];exact law_given λhk=>h _ (List.getElem?_eq_getElem h1) hk
theorem law_loop {f:α->Res (Step α β)}(I:Nat->α->Prop) (h:∀ k a,I k a->(f a).sat fun
   |.next a'=>∃ k',k' < k/\I k' a'
   |.done b=>Q b):∀ (n k:Nat) (a:α),k < n->I k a->(loop f n a).sat Q
 |0,_,_,hk,_=>by omega
 |n+1,k,a,hk,hI=>by
  unfold loop;refine law_bind' (h k a hI) λs hs=>?_
  cases s with
  |next a' =>
   obtain ⟨k',h1,h2⟩:=hs;exact law_loop I h n k' a' (by omega) h2
  |done b=>exact hs
theorem law_for{f:α->Res (Step α β)}(ix:α->Int)(n:Nat)(hn:n < 2^69)(I:α->Prop){a:α}(ha:I a)(hix:∀ a,I a->0<=ix a/\ix a<=n)
  (h:∀ a,I a->(f a).sat fun
   |.next a'=>ix a'=ix a+1/\I a'
   |.done b=>Q b):(loop f fuel a).sat Q:=by
 refine law_loop (λk a=>I a/\k=n-(ix a).toNat) (λk a ⟨hI,hk⟩=>?_) _ (n-(ix a).toNat) a (Nat.lt_of_le_of_lt (Nat.sub_le _ _) (Nat.lt_trans hn (by decide))) ⟨ha,rfl⟩;refine law_mono (h a hI) λs hs=>?_
 cases s with
 |next a' =>
  obtain ⟨h1,h2⟩:=hs;have h3:=hix a hI;have h4:=hix a' h2;exact ⟨_,by omega,h2,rfl⟩
 |done b=>exact hs
end Res
theorem wrap64{n:Int}(h:-9223372036854775808<=n/\n < 9223372036854775808):w6 n=n:=by
 unfold w6;simp [IntKind.wrap,IntKind.signed,IntKind.bits];omega
theorem ilt_true{a b:Int}:(ilt a b=true)=(a < b):=by simp [ilt]
theorem ile_true{a b:Int}:(ile a b=true)=(a<=b):=by simp [ile]
theorem ilt_false{a b:Int}:(ilt a b=false)=(b<=a):=by simp [ilt]
theorem ile_false{a b:Int}:(ile a b=false)=(b < a):=by simp [ile]
theorem minI_eq(x y:Int):minI x y=min x y:=by unfold minI;split<;>omega
theorem maxI_eq(x y:Int):maxI x y=max x y:=by unfold maxI;split<;>omega
theorem idx0(i:Int):((0:Int)+(i.toNat:Int)).toNat=i.toNat:=by omega
theorem range64{n:Int}:(inRange .i64 n=true)=(-9223372036854775808<=n/\n < 9223372036854775808):=by
 simp [inRange,IntKind.wrap,IntKind.signed,IntKind.bits];omega
theorem set_self{α:Type}{xs:List α}{i:Nat}{x:α}(h:xs[i]?=some x):xs.set i x=xs:=by
 apply List.ext_getElem?;intro j;rw [List.getElem?_set];split
 ·subst_vars;split
  ·exact h.symm
  ·rename_i hl;rw [List.getElem?_eq_none (by omega)]
 ·rfl
end Go.Mach
namespace Go.Mach
namespace Res
variable {α β:Type}{Q:β->Prop}
theorem law_bind_iff{m:Res α}{k:α->Res β}:(m.bind k).sat Q=m.sat λa=>(k a).sat Q:=propext ⟨sat_bind',bind_sat⟩
theorem law_given_iff{b:Bool}{k:Res β}:(given b k).sat Q=(b=true->k.sat Q):=rfl
theorem law_need_iff{b:Bool}{k:Res β}:(need b k).sat Q=(b=true/\k.sat Q):=by cases b<;>simp [need,sat]
theorem law_br_iff{b:Bool}{x y:Res β}:(br b x y).sat Q=((b=true->x.sat Q)/\(b=false->y.sat Q)):=by cases b<;>simp [br]
theorem law_ok_iff{Q:α->Prop}{a:α}:(Res.ok a).sat Q=Q a:=rfl
theorem law_idx_iff{t:Ty}{xs:List t.den}{i:Int}{k:t.den->Res β}:(idx t xs i k).sat Q=(0<=i/\∃ x,xs[i.toNat]?=some x/\(t.ok x=true->(k x).sat Q)):=by
 unfold idx;by_cases h:0<=i
 ·rw [decide_eq_true h]
  cases hx:xs[i.toNat]? with
  |none=>simp [sat]
  |some x=>simp only [law_given_iff];simp [h]
 ·rw [decide_eq_false h];simp [h,sat]
theorem law_idxS_iff{s:Sh}{xs:List s.den}{i:Int}{k:s.den->Res β}:(idxS s xs i k).sat Q=(0<=i/\∃ x,xs[i.toNat]?=some x/\(s.ok x=true->(k x).sat Q)):=by
 unfold idxS;by_cases h:0<=i
 ·rw [decide_eq_true h]
  cases hx:xs[i.toNat]? with
  |none=>simp [sat]
  |some x=>simp only [law_given_iff];simp [h]
 ·rw [decide_eq_false h];simp [h,sat]
theorem law_sum_iff{γ δ:Type}{x:γ ⊕ δ}{f:γ->Res β}{g:δ->Res β}:(sum x f g).sat Q=match x with|.inl a=>(f a).sat Q|.inr c=>(g c).sat Q:=by cases x<;>rfl
theorem law_t{b:Bool}{x y:Res β}(h:b=true)(hx:x.sat Q):(br b x y).sat Q:=by subst h;exact hx
theorem law_f{b:Bool}{x y:Res β}(h:b=false)(hx:y.sat Q):(br b x y).sat Q:=by subst h;exact hx
theorem law_bind_ok{m:Res α}{k:α->Res β}{a:α}(h:m=.ok a)(hk:(k a).sat Q):(m.bind k).sat Q:=by subst h;exact hk
theorem law_inl{γ δ:Type}{a:γ}{f:γ->Res β}{g:δ->Res β}(h:(f a).sat Q):(sum (.inl a) f g).sat Q:=h
theorem law_inr{γ δ:Type}{a:δ}{f:γ->Res β}{g:δ->Res β}(h:(g a).sat Q):(sum (.inr a) f g).sat Q:=h
theorem law_call{Q:α->Prop}{m:Res α}{a:α}(h:m.sat (·=a))(hq:Q a):m.sat Q:=law_mono h λ_ e=>e▸hq
end Res
namespace Res
theorem law_order{α β:Type}{xs:List α}{F:List α->Res β}{Q:β->Prop}(y:β)(h:∀ p,p.Perm xs->(F p).sat (·=y))(hq:Q y):(order xs F).sat Q:=by
 unfold order;have hex:∃ y,∀ p,p.Perm xs->(F p).sat (·=y):=⟨y,h⟩;rw [dif_pos hex];intro hp;obtain ⟨p,hp,hf⟩:=(@of_decide_eq_true _ (Classical.propDecidable _) hp:∃ p,p.Perm xs/\(F p).facts);obtain ⟨a,ha,h1⟩:=facts_sat (h p hp) hf;obtain ⟨b,hb,h2⟩:=facts_sat (hex.choose_spec p hp) hf;rw [ha] at hb;cases hb;show Q hex.choose;rw [<- h2,h1];exact hq
theorem law_each {α β γ:Type}{f:γ->List γ->α->Res (Step α β)}{Q:Step α β->Prop}(I:List γ->α->Prop) (h:∀ x xs a,I (x::xs) a->(f x xs a).sat fun
   |.next a'=>I xs a'
   |.done b=>Q (.done b)) (hend:∀ a,I [] a->Q (.next a)):∀ (xs:List γ) (a:α),I xs a->(each f xs a).sat Q
 |[],a,hI=>hend a hI
 |x::xs,a,hI=>by
  unfold each;refine law_bind' (h x xs a hI) λs hs=>?_
  cases s with
  |next a'=>exact law_each I h hend xs a' hs
  |done b=>exact hs
theorem law_look{β γ:Type}{xs:List (List Int×γ)}{l:List Int}{f:Nat->γ->Res β}{g:Res β}{Q:β->Prop}(h:∀ i (x:List Int×γ),keyIx xs l=some i->xs[i]?=some x->x.1=l->(f i x.2).sat Q)(h':keyIx xs l=none->g.sat Q):(look xs l f g).sat Q:=by
 unfold look;split
 ·rename_i i hi;have h1:=List.findIdx?_eq_some_iff_getElem.1 hi;obtain ⟨hlt,h2,_⟩:=h1;rw [List.getElem?_eq_getElem hlt];exact h i xs[i] hi (List.getElem?_eq_getElem hlt) (by simpa using h2)
 ·rename_i hi;exact h' hi
end Res
end Go.Mach

namespace Go.Mach
open Res
class Safe {α:Type}(m:Res α):Prop where
 ok:m.sat λ_=>True
namespace Safe
variable {α β γ:Type}
instance {a:α}:Safe (Res.ok a):=⟨trivial⟩
theorem g'{b:Bool}{k:Res α}(h:Safe k):Safe (given b k):=⟨λ_=>h.ok⟩
theorem bd'{m:Res α}{k:α->Res β}(h:Safe m)(h2:∀ a,Safe (k a)):Safe (m.bind k):=⟨law_bind' h.ok λa _=>(h2 a).ok⟩
theorem br'{b:Bool}{x y:Res α}(h1:Safe x)(h2:Safe y):Safe (Res.br b x y):=⟨law_br (λ_=>h1.ok) λ_=>h2.ok⟩
theorem sm'{x:α ⊕ β}{f:α->Res γ}{g:β->Res γ}(h1:∀ a,Safe (f a))(h2:∀ a,Safe (g a)):Safe (sum x f g):=by
 cases x
 ·exact h1 _
 ·exact h2 _
end Safe
class SafeE {α:Type}(m:Res α) (v:outParam α):Prop where
 ok:m.sat (·=v)
instance (priority:=low){α:Type}{m:Res α}{v:α} [h:SafeE m v]:Safe m:=⟨Res.law_mono h.ok λ_ _=>trivial⟩
class SafeP {α:Type}(m:Res α) (P:outParam (α->Prop)):Prop where
 ok:m.sat P
instance (priority:=low){α:Type}{m:Res α}{P:α->Prop} [h:SafeP m P]:Safe m:=⟨Res.law_mono h.ok λ_ _=>trivial⟩
namespace Res
variable {α β:Type}{Q:β->Prop}
theorem q_e{m:Res α}{v:α}[h:SafeE m v]{k:α->Res β}(hk:(k v).sat Q):(m.bind k).sat Q:=law_bind_eq h.ok hk
theorem q_ok{a:α}{k:α->Res β}(h:(k a).sat Q):((Res.ok a).bind k).sat Q:=h
theorem q_or{a b:Bool}{x y:Res β}(h:(br a x (br b x y)).sat Q):(br (a || b) x y).sat Q:=by cases a<;>exact h
theorem q_and{a b:Bool}{x y:Res β}(h:(br a (br b x y) y).sat Q):(br (a && b) x y).sat Q:=by cases a<;>exact h
theorem q_p{m:Res α}{P:α->Prop}[h:SafeP m P]{k:α->Res β}(hk:∀ a,P a->(k a).sat Q):(m.bind k).sat Q:=law_bind' h.ok hk
theorem safe{m:Res α}[h:Safe m]:m.sat λ_=>True:=h.ok
theorem q_b{m:Res α}[h:Safe m]{k:α->Res β}(hk:∀ a,(k a).sat Q):(m.bind k).sat Q:=law_bind' h.ok λa _=>hk a
theorem q_lt{a b:Int}{x y:Res β}(h1:a < b->x.sat Q)(h2:b<=a->y.sat Q):(br (ilt a b) x y).sat Q:=law_br (λh=>h1 (of_decide_eq_true h)) λh=>h2 (Int.not_lt.1 (of_decide_eq_false h))
theorem q_le{a b:Int}{x y:Res β}(h1:a<=b->x.sat Q)(h2:b < a->y.sat Q):(br (ile a b) x y).sat Q:=law_br (λh=>h1 (of_decide_eq_true h)) λh=>h2 (Int.not_le.1 (of_decide_eq_false h))
theorem q_eq{a b:Int}{x y:Res β}(h1:a=b->x.sat Q)(h2:a≠b->y.sat Q):(br (a == b) x y).sat Q:=law_br (λh=>h1 (eq_of_beq h)) λh=>h2 (ne_of_beq_false h)
theorem q_not{b:Bool}{x y:Res β}(h:(br b y x).sat Q):(br (!b) x y).sat Q:=by cases b<;>exact h
theorem n_and{a b:Bool}{k:Res β}(h:(need a (need b k)).sat Q):(need (a && b) k).sat Q:=by cases a<;>cases b<;>exact h
theorem n_le{a b:Int}{k:Res β}(h:a<=b)(hk:k.sat Q):(need (ile a b) k).sat Q:=law_need (decide_eq_true h) hk
theorem n_lt{a b:Int}{k:Res β}(h:a < b)(hk:k.sat Q):(need (ilt a b) k).sat Q:=law_need (decide_eq_true h) hk
theorem n_d{p:Prop}[Decidable p]{k:Res β}(h:p)(hk:k.sat Q):(need (decide p) k).sat Q:=law_need (decide_eq_true h) hk
theorem n_ne{a b:Int}{k:Res β}(h:a≠b)(hk:k.sat Q):(need (!(a == b)) k).sat Q:=law_need (by simpa using h) hk
theorem q_sum{γ δ:Type}{x:γ ⊕ δ}{f:γ->Res β}{g:δ->Res β}(h1:∀ a,(f a).sat Q)(h2:∀ a,(g a).sat Q):(sum x f g).sat Q:=by
 cases x
 ·exact h1 _
 ·exact h2 _
def Nx{α β:Type}(ix:α->Int)(n:Nat)(I:α->Prop)(P:β->Prop)(a:α):Step α β->Prop
 |.next a'=>ix a'=w6 (ix a+1)/\ix a < n/\I a'
 |.done b=>P b
theorem q_for{f:α->Res (Step α β)}{a:α}(ix:α->Int)(n:Nat)(hn:n<=2^60)(I:α->Prop)(h0:0<=ix a)(h1:ix a<=n)(hI:I a)(h:∀ a,0<=ix a->ix a<=n->I a->(f a).sat (Nx ix n I Q a)):(loop f fuel a).sat Q:=by
 refine law_for ix n (by omega) (λa=>0<=ix a/\ix a<=n/\I a) ⟨h0,h1,hI⟩ (λa h=>⟨h.1,h.2.1⟩) λa ⟨i0,i1,i2⟩=>?_;refine law_mono (h a i0 i1 i2) λs hs=>?_
 cases s with
 |next a' =>
  obtain ⟨e,hl,hI'⟩:=hs;rw [wrap64 (by omega)] at e;exact ⟨e,by omega,by omega,hI'⟩
 |done b=>exact hs
def Dn{α β:Type}(mz:α->Nat)(I:α->Prop)(P:β->Prop)(a:α):Step α β->Prop
 |.next a'=>mz a' < mz a/\I a'
 |.done b=>P b
theorem q_while{f:α->Res (Step α β)}{a:α}(mz:α->Nat)(hn:mz a<=2^60)(I:α->Prop)(hI:I a)(h:∀ a,I a->(f a).sat (Dn mz I Q a)):(loop f fuel a).sat Q:=by
 refine law_loop (λk a=>I a/\k=mz a) (λk a ⟨hI,hk⟩=>?_) _ (mz a) a (Nat.lt_of_le_of_lt hn (by decide)) ⟨hI,rfl⟩;refine law_mono (h a hI) λs hs=>?_
 cases s with
 |next a'=>exact ⟨_,hk▸hs.1,hs.2,rfl⟩
 |done b=>exact hs
theorem q_loop{f:α->Res (Step α β)}{a:α}(ix:α->Int)(n:Nat)(hn:n<=2^60)(h0:0<=ix a)(h1:ix a<=n)(h:∀ a,0<=ix a->ix a<=n->(f a).sat (Nx ix n (λ_=>True) (λ_=>True) a)):Safe (loop f fuel a):=⟨q_for ix n hn (λ_=>True) h0 h1 trivial λa i0 i1 _=>h a i0 i1⟩
end Res
theorem len_le{s:Sh}{n:Nat}(h:lenOkS s n=true)(hs:0 < s.minB:=by decide):n<=2^47:=Nat.le_trans (Nat.le_mul_of_pos_right n hs) (of_decide_eq_true h)
theorem len_le'{e:Ty}{n:Nat}(h:lenOk e n=true)(hs:0 < e.minB:=by decide):n<=2^47:=Nat.le_trans (Nat.le_mul_of_pos_right n hs) (of_decide_eq_true h)
theorem wrap_u32(n:Int):0<=IntKind.wrap .u32 n/\IntKind.wrap .u32 n < 4294967296:=by
 simp [w6,w6,w6,w6,w6,IntKind.wrap,IntKind.signed,IntKind.bits];omega
theorem wrap_i32(n:Int):-2147483648<=IntKind.wrap .i32 n/\IntKind.wrap .i32 n < 2147483648:=by
 simp [w6,w6,w6,w6,w6,IntKind.wrap,IntKind.signed,IntKind.bits];omega
theorem lenOk_le{e:Ty}{n:Nat}(h:lenOk e n=true):n*e.minB<=2^47:=of_decide_eq_true h
theorem lenOkS_le{s:Sh}{n:Nat}(h:lenOkS s n=true):n*s.minB<=2^47:=of_decide_eq_true h
theorem strOk_le'{n:Nat}(h:strOk n=true):n<=2^47:=of_decide_eq_true h
end Go.Mach

namespace Go.Mach
noncomputable section
def numOf(n:Nat):Nat×Nat :=
 cond (Nat.blt (n % 16) 8) (n % 16,n / 16) (cond (Nat.blt (n % 16) 14) (8+(n % 16-8)*16+n / 16 % 16,n / 256)
  (cond (Nat.beq (n % 16) 14) (104+n / 16 % 16*16+n / 256 % 16,n / 4096) (360+n / 16 % 16*256+n / 256 % 16*16+n / 4096 % 16,n / 65536)))
def manyOf{α:Type}(f:Nat->Nat->(α×Nat)×Nat)(k:Nat):Nat->Nat->List α×Nat :=
 Nat.rec (λ_ n=>([],n)) (λ_ ih p n=>((f p n).1.1::(ih (f p n).1.2 (f p n).2).1,(ih (f p n).1.2 (f p n).2).2)) k
def fromOf(p n:Nat):Nat×Nat:=cond (Nat.beq (numOf n).1 0) (numOf (numOf n).2) (p+((numOf n).1-1),(numOf n).2)
def listOf{α:Type}(f:Nat->Nat->(α×Nat)×Nat)(n:Nat):List α×Nat:=manyOf f (numOf n).1 0 (numOf n).2
def slotOf(T:List Sh)(p n:Nat):((Nat×VSh)×Nat)×Nat :=
 let a:=fromOf p n;let b:=numOf a.2
 (((a.1,(Nat.beq (b.1 % 2) 1,T.getD (b.1 / 2) .nil)),a.1),b.2)
def runOf(p n:Nat):(List Nat×Nat)×Nat :=
 let a:=fromOf p n;let b:=numOf a.2
 ((List.range' a.1 b.1,a.1+b.1),b.2)
def rootOf(T:List Sh)(p n:Nat):((Nat×Sh)×Nat)×Nat :=
 let a:=numOf n;let b:=numOf a.2
 (((a.1,T.getD b.1 .nil),p),b.2)
def cutOf(T:List Sh)(n:Nat):Cut×Nat :=
 let a:=listOf (slotOf T) n;let b:=listOf runOf a.2;let c:=listOf (rootOf T) b.2;let d:=listOf runOf c.2
 (⟨a.1,b.1.flatten,c.1,d.1.flatten⟩,d.2)
def exitOf(T:List Sh)(p n:Nat):((EKey×Cut)×Nat)×Nat :=
 let a:=numOf n;let b:=cutOf T a.2
 (((cond (Nat.beq a.1 0) .nrm (cond (Nat.beq a.1 1) .ret (.ext (a.1-2))),b.1),p),b.2)
def annGo(T:List Sh)(fuel:Nat):Nat->Ann×Nat :=
 Nat.rec (λn=>(.none,n)) (λ_ ih n =>
  let r:=n / 16
  match n % 16 with
  |0=>(.none,r)
  |1=>(.two .none (ih r).1,(ih r).2)
  |2=>(.two (ih r).1 .none,(ih r).2)
  |3=>(.two (ih r).1 (ih (ih r).2).1,(ih (ih r).2).2)
  |4=>let e:=listOf (exitOf T) r;(.piece e.1 (ih e.2).1,(ih e.2).2)
  |5=>let c:=cutOf T r;let e:=listOf (exitOf T) c.2;(.loop c.1 e.1 (ih e.2).1,(ih e.2).2)
  |6=>let c:=cutOf T r;let e:=listOf (exitOf T) c.2;(.range c.1 e.1 (ih e.2).1,(ih e.2).2)
  |_=>(.unr (ih r).1 (ih (ih r).2).1,(ih (ih r).2).2)) fuel
def annOf(T:List Sh)(n:Nat):Ann:=(annGo T 1000 n).1
end
end Go.Mach

namespace Go.Mach
def cloneHead(T:TypeId):Code:=.region 0 #[{ dst:=some 2,op:=.assign (.const (.slice none 0 0)),type:=T,pos := "slices.go:355",after:=#[],guard:=none }] false
def cloneTest(T B:TypeId):Code:=.region 1 #[{ dst:=some 3,op:=.move (.tmp 0),type:=T,pos := "slices.go:357",after:=#[],guard:=none },
 {dst:=some 4,op:=.binOp .eql T (.tmp 3) (.const (.slice none 0 0)) T,type:=B,pos := "slices.go:357",after:=#[{ on:=0,ground:=.data }],guard:=none }] false
def cloneNil(T:TypeId):Code:=(Code.region 2 #[{ dst:=some 2,op:=.assign (.const (.slice none 0 0)),type:=T,pos := "slices.go:358",after:=#[],guard:=none }] false).seq .ret
def cloneCopy(T:TypeId):Code:=(Code.region 3 #[{ dst:=some 5,op:=.buildSlice T 0 #[],type:=T,pos := "slices.go:362",after:=#[],guard:=none },
 {dst:=some 6,op:=.move (.tmp 0),type:=T,pos := "slices.go:362",after:=#[],guard:=none },
 {dst:=some 7,op:=.call { callee:=.builtin .append,args:=#[.tmp 5,.tmp 6],argTypes:=#[T,T] },type:=T,pos := "slices.go:362",after:=#[{ on:=0,ground:=.data },{ on:=1,ground:=.data }],guard:=none },
 {dst:=some 2,op:=.assign (.tmp 7),type:=T,pos := "slices.go:362",after:=#[{ on:=2,ground:=.data },{ on:=2,ground:=.chain },{ on:=0,ground:=.phase },{ on:=1,ground:=.phase },{ on:=2,ground:=.phase }],guard:=none }] false).seq .ret
def cloneBody(T B:TypeId):Code:=(cloneHead T).seq (((cloneTest T B).seq (.cond (.tmp 4) (cloneNil T) .skip)).seq (cloneCopy T))
theorem op_value{P:Program}{ops:Array Oper}{Q:Exit->Act->World->Prop}{i:Nat}{rest:List Nat}{o:Oper}{a:Act}{w:World}{v:Value}(ho:ops[i]?=some o)(hg:o.guard=none)(h:(execOp a.eval o).run P w=.ok (.value v) w)
  (hn:wpOps P ops Q rest (a.put o.dst v) w):wpOps P ops Q (i::rest) a w:=by
 simp only [wpOps,ho]
 rw [show Region.wanted o (yielded ops a.tmps)=true from by unfold Region.wanted;rw [hg]]
 simp only [if_true];exact .inl (wp_of_value h hn)
theorem clone_walk{P:Program}{T B:TypeId}{w:World}{v0:Value}{b:Bool}{Q:Exit->Act->World->Prop}{a:Act}(h0:a.eval (.tmp 0)=v0)(hsz:a.tmps.size=8)
  (hb:(binOp .eql T v0 (.slice none 0 0)).run P w=.ok (.bool b) w) (hgd:(eqGuard .eql T (.tmp 3) (.const (.slice none 0 0)) v0 (.slice none 0 0)).run P w=.ok () w)
  (ht:b=true->Q .ret ((((a.put (some 2) (.slice none 0 0)).put (some 3) v0).put (some 4) (.bool b)).put (some 2) (.slice none 0 0)) w)
  (hf:b=false->(cloneCopy T).wp P Q (((a.put (some 2) (.slice none 0 0)).put (some 3) v0).put (some 4) (.bool b)) w):(cloneBody T B).wp P Q a w:=by
 have e2:∀ (a:Act) (d:Nat) (v:Value) (t:Nat),t < a.tmps.size->(a.put (some d) v).eval (.tmp t)=if d=t then v else a.eval (.tmp t):=by
  intro a d v t ht;simp only [Act.eval,Act.put];by_cases hd:d=t
  ·subst hd;simp [ht]
  ·simp [hd,Array.getElem?_setIfInBounds_ne hd]
 have s2:∀ (a:Act) (d:Nat) (v:Value),(a.put (some d) v).tmps.size=a.tmps.size:=by intro a d v;simp [Act.put]
 refine wp_seq (wp_region (op_value (o:=_) (v:=.slice none 0 0) rfl rfl (by rfl) ?_));show Exit.then _ Q .normal _ w;refine wp_seq (wp_seq (wp_region (op_value (o:=_) (v:=v0) rfl rfl ?_ ?_)))
 ·have hv0:(a.put (some 2) (.slice none 0 0)).eval (.tmp 0)=v0:=by rw [e2 _ _ _ _ (by omega)];simpa using h0
  exact congrArg (λv=>Result.ok (Next.value v) w) hv0
 have hv3:((a.put (some 2) (.slice none 0 0)).put (some 3) v0).eval (.tmp 3)=v0:=by rw [e2 _ _ _ _ (by rw [s2];omega)];simp
 have hrun:=run_binOp (E:={ P:=P,specs:=[],ety:=λ_=>none }) (w:=w) (a:=(a.put (some 2) (.slice none 0 0)).put (some 3) v0) (o:={ dst:=some 4,op:=.binOp .eql T (.tmp 3) (.const (.slice none 0 0)) T,type:=B,pos := "slices.go:357",after:=#[{ on:=0,ground:=.data }],guard:=none }) (v:=.bool b) rfl (by rw [hv3];exact hgd) (by rw [hv3];exact hb)
 refine op_value (o:=_) (v:=.bool b) rfl rfl hrun ?_;show Exit.then _ _ .normal _ w
 have h4:(((a.put (some 2) (.slice none 0 0)).put (some 3) v0).put (some 4) (.bool b)).eval (.tmp 4)=.bool b:=by
  rw [e2 _ _ _ _ (by rw [s2,s2];omega)];simp
 cases b with
 |true=>exact wp_cond_true h4 (wp_seq (wp_region (op_value (o:=_) (v:=.slice none 0 0) rfl rfl (by rfl) (wp_ret (ht rfl)))))
 |false=>exact wp_cond_false h4 (wp_skip (hf rfl))
end Go.Mach

namespace Go.Mach
theorem fin_sound{P:Program}{sp:Spec}{fn:Func}{w w':World}{Z Z' Y S:Nat->Prop}{args:List Value}{vs:List AV}{s:St}{a':Act}{μ1 μ':Locs}{G:Glob}{hg:G.holds w/\∀ b,b < G.n->Z b/\b < w.heap.size/\¬ S b}{Ψ:outs (dens sp.rs) (boxes sp.ps)->Prop}
  (hnb:(sp.rs.all λs=>s.2.noBor)=true) (hres:fn.results.toList.all (resOk P)=true)
  (hZ:∀ b,Z b->b < w.heap.size) (hS:∀ b,S b->b < w.heap.size/\¬ Z b) (e3:ARs w Z μ1 vs args) (hobjc:ObjC sp.ps vs) (hext':ExtL μ1 μ') (hR':Rel ⟨w,S,Z,Y,G,hg⟩ s a' w' Z' μ') (hs:(fin P fn sp.ps sp.rs vs s).sat Ψ) :
  a'.defers=[]/\∃ v,(results fn a'.tmps).run P w'=.ok v w'/\(∃ y v' vals,∃ Z' S1 S2:Nat->Prop,Ending.returned v=.returned v'/\Ψ y/\RetR sp.rs v' vals /\
   ValsR w' Z' (λ_=>False) sp.rs vals (outFst (boxes sp.ps) y) S1/\OutsR w' Z' Y sp.ps args y S2/\(∀ d,S1 d->S2 d->False) /\
   (∀ b,S1 b\/S2 b->b < w'.heap.size/\¬ Z' b/\(S b\/w.heap.size<=b))/\(∀ b,Z b->Z' b)/\(∀ b,Z' b->b < w'.heap.size/\(Z b\/S b\/w.heap.size<=b)) /\
   w.heap.size<=w'.heap.size/\(∀ b,b < w.heap.size->¬ S b->w'.heap[b]?=w.heap[b]?)/\Io G.dr w w'):=by
 unfold fin at hs;obtain ⟨xs,vals,hrun,hxs,hs⟩:=resAVs_sound hR' fn.results.toList hres hs;split at hs
 case h_2=>exact hs.elim
 rename_i y m1 hgt;split at hs
 case h_2=>exact hs.elim
 rename_i z ho;obtain ⟨Z1,F1,S1,a1,a2,a3,a4,a5,a6,a7⟩:=gets_sound hR'.mem (Loose.none ⟨w,S,Z,Y,G,hg⟩ s.mem w' Z' μ') hxs hgt;have hsame:SameOn Z w w':=λb hb=>a1.keep b (hZ b hb) λhS'=>(hS b hS').2 hb;obtain ⟨m2,Z2,F2,S2,b1,b2,b3,b4,b5,b6,b7⟩:=outsGet_sound (ps:=sp.ps) a1 a2 (e3.mono hsame a1.frz0 hext') hobjc ho;obtain ⟨v,hv,hret⟩:=results_ok (rs:=sp.rs) hrun a7.len;refine ⟨hR'.df,v,hv,z,v,vals,Z2,S1,S2,rfl,hs,hret,?_,b6,λd h1 h2=>(b5 d h2).2 (a5 d h1).1,λb hb=>?_,b1.frz0,λb hb=>?_,b1.size,b1.keep,b1.io⟩
 ·rw [b7];exact (a7.up b3).noY hnb
 ·have hF:F2 b:=by
   rcases hb with hb|hb
   ·exact b4 b (a5 b hb).1
   ·exact (b5 b hb).1
  obtain ⟨c1,c2,c3⟩:=b2.ok b hF;exact ⟨c2,c1,c3.symm⟩
 ·obtain ⟨c1,c2⟩:=b1.frz b hb;exact ⟨c1,c2.imp id Or.symm⟩
@[reducible] def cloneP(e:Ty):List Par:=[.val false (.bor (.own (.frz e)))]
@[reducible] def cloneR(e:Ty):List VSh:=[(false,.own (.frz e))]
def cloneSp(f:FuncId)(e:Ty)(g:List e.den->Bool):Spec:=⟨f,cloneP e,cloneR e,λx=>Res.need (g x) (Res.ok x)⟩
def undefs(n:Nat):List AV:=List.replicate n (.c .undef)
theorem clone_contract{P:Program}{G:Glob}{f:FuncId}{fn:Func}{e:Ty}{T B el:TypeId}{g:List e.den->Bool}{ety:TypeId->Option Sh}(hm:P.follows .mixedOrders=true)(hfn:P.funcs[f]?=some fn)(hcode:fn.body=some (cloneBody T B))
  (hname:(fn.name == "runtime.NumGoroutine")=false) (hresE:fn.results=#[.tmp 2]) (hnt:fn.ntmps=8) (hT:P.underlying T=some (.slice el))
  (hcopy:∀ xs:List e.den,exec { P:=P,specs:=[],ety:=ety } (cloneCopy T) (List e.den) .none ⟨.c (.ref 0 .full)::undefs 7,⟨[.bor (.frz e) xs],0,1⟩,[]⟩ { nrm:=fin P fn (cloneP e) (cloneR e) [.c (.ref 0 .full)],ext:=λ_ _=>.stuck,ret:=fin P fn (cloneP e) (cloneR e) [.c (.ref 0 .full)] }=Res.need (g xs) (.ok xs)) :
  Contract P G (cloneSp f e g):=by
 refine ⟨⟨fn,hfn,by rw [hcode];rfl,hname⟩,rfl,λw Z Y S args x Ψ hsat hG hZ hY hS hV=>?_⟩
 have hres:fn.results.toList.all (resOk P)=true:=by rw [hresE];rfl
 have hV':=hV;obtain ⟨v0,rfl,us,hus,hlen1,hbr⟩:=hV;have hus:us=[v0]:=hus;subst hus;have hbr:BR w Z (λb=>Y b\/Z b) (.own (.frz e)) [v0] x:=hbr;simp only [BR] at hbr;obtain ⟨ad,cap,h1,h2,h3,h4⟩:=hbr;simp only [List.cons.injEq,and_true] at h1
 let Bs:Base:=⟨w,S,Z,Y,G,hG.1,λb hb=>⟨hG.2 b hb,hZ b (hG.2 b hb),λh=>(hS b h).2 (hG.2 b hb)⟩⟩
 have hE:∀ sp∈({ P:=P,specs:=[],ety:=ety }:Env).specs,Contract ({ P:=P,specs:=[],ety:=ety }:Env).P G sp:=λsp h=>by cases h
 let m0:Mem:=⟨[Root.dead],0,0⟩
 have hdead:∀ (r:Nat) (y:Root),m0.roots[r]?=some y->y=Root.dead:=λr y hy=>by
  have hy:[Root.dead][r]?=some y:=hy
  cases r with
  |zero=>simpa using hy.symm
  |succ r=>simp at hy
 have hM0:MemOk Bs m0 w Z (λ_=>none) :=
  ⟨(λr y hy hd=>absurd (hdead r y hy) hd),(λr s y z ℓ ℓ' _ hy _ _ _ hl=>by cases hl),(λr y ℓ b _ _ hl=>by cases hl),λb hb=>⟨hZ b hb,.inl hb⟩,λb hb=>hb,Nat.le_refl _,λb _ _=>rfl,λ_ _=>rfl,λb hb=>hY b hb,Io.refl _⟩
 have hL0:Loose Bs m0 w Z (λ_=>none) S:=by
  refine ⟨λb hb=>⟨(hS b hb).2,(hS b hb).1,.inr hb⟩,λb r hb=>?_⟩;rintro ⟨y,ℓ,_,_,hl,_⟩;cases hl
 have hF0:Free m0 (λ_=>none) (newsL ((cloneP e).map Par.v)):=λk hk=>⟨rfl,by
  have hk:k < 1:=hk
  have:k=0:=by omega
  subst this;rfl⟩
 obtain ⟨μ1,e1,_,e3,_⟩:=mks_sound hM0 hL0 hF0 hV' (λ_ h=>h);have e1:MemOk Bs ⟨[.bor (.frz e) x],0,1⟩ w Z μ1:=e1;have e3:ARs w Z μ1 [.c (.ref 0 .full)] [v0]:=e3
 let st:St:=⟨.c (.ref 0 .full)::undefs 7,⟨[.bor (.frz e) x],0,1⟩,[]⟩
 have hsz:([v0].toArray++Array.replicate (fn.ntmps-[v0].toArray.size) undef).size=8:=by rw [hnt];rfl
 have hev0:(Act.eval { tmps:=[v0].toArray++Array.replicate (fn.ntmps-[v0].toArray.size) undef,defers:=[] } (.tmp 0))=v0:=by rw [hnt];rfl
 have hR:Rel Bs st { tmps:=[v0].toArray++Array.replicate (fn.ntmps-[v0].toArray.size) undef,defers:=[] } w Z μ1:=by
  refine ⟨e1,λi z hz=>?_,?_,rfl⟩
  ·have hz:(AV.c (.ref 0 .full)::undefs 7)[i]?=some z:=hz
   cases i with
   |zero =>
    simp only [List.getElem?_cons_zero,Option.some.injEq] at hz;subst hz;obtain ⟨v',hv',har⟩:=ARs.at_ e3 0 _ rfl
    have:v'=v0:=by simpa using hv'.symm
    subst this;rw [hnt];exact har
   |succ i =>
    simp only [List.getElem?_cons_succ,undefs,List.getElem?_replicate] at hz;split at hz
    ·cases hz;exact AR.undef _
    ·cases hz
  ·rw [hsz];rfl
 have hob:ObjC (cloneP e) [.c (.ref 0 .full)]:=trivial;refine calls_of_wp hfn hcode ?_
 have hb:(binOp .eql T v0 (.slice none 0 0)).run P w=.ok (.bool ad.isNone) w:=by
  rw [h1]
  cases ad with
  |none=>exact (eq_run (w:=w) (P:=P) (t:=T) (v:=.slice none _ cap) (u:=.slice none 0 0) (b:=true) (by rintro op (rfl|rfl)<;>rfl) ((λd=>by simp [Op.equalIn,run_underlying hT]:∀ d,(Op.equalIn (d+1) T _ _).run P w=.ok _ w) 9999)).1
  |some p=>exact (eq_run (w:=w) (P:=P) (t:=T) (v:=.slice (some p) _ cap) (u:=.slice none 0 0) (b:=false) (by rintro op (rfl|rfl)<;>rfl) ((λd=>by simp [Op.equalIn,run_underlying hT]:∀ d,(Op.equalIn (d+1) T _ _).run P w=.ok _ w) 9999)).1
 refine clone_walk (b:=ad.isNone) hev0 hsz hb (by rw [h1];rfl) (λhn=>?_) (λhn=>?_)
 ·have hx:x=[]:=by
   rcases h4 with h4|⟨b,o,h4,_⟩
   ·exact h4
   ·rw [h4] at hn;cases hn
  subst hx
  have hΨ:Ψ ([]:List e.den):=by
   have:(Res.need (g []) (Res.ok ([]:List e.den))).sat Ψ:=hsat;exact (sat_need this).2
  have hR4:=(((hR.put0 (some 2) (AR.undef (.slice none 0 0))).put0 (some 3) (AR.undef v0)).put0 (some 4) (AR.undef (.bool ad.isNone))).put0 (some 2) (x:=.c .nils) (v:=.slice none 0 0) rfl;refine fin_sound (sp:=cloneSp f e g) (Ψ:=Ψ) (vs:=[.c (.ref 0 .full)]) (args:=[v0]) rfl hres hZ hS e3 hob (ExtL.refl _) hR4 ?_;unfold fin;rw [hresE];exact hΨ
 ·have hR3:=((hR.put0 (some 2) (AR.undef (.slice none 0 0))).put0 (some 3) (AR.undef v0)).put0 (some 4) (AR.undef (.bool ad.isNone));have hR3:Rel Bs st _ w Z μ1:=hR3
  let K:Kont (List e.den):={ nrm:=fin P fn (cloneP e) (cloneR e) [.c (.ref 0 .full)],ext:=λ_ _=>.stuck,ret:=fin P fn (cloneP e) (cloneR e) [.c (.ref 0 .full)] }
  have hx0:(exec { P:=P,specs:=[],ety:=ety } (cloneCopy T) (List e.den) .none st K).sat (show List e.den->Prop from Ψ):=(congrArg (λr:Res (List e.den)=>r.sat (show List e.den->Prop from Ψ)) (hcopy x)).mpr hsat
  refine exec_sound (B:=Bs) (E:={ P:=P,specs:=[],ety:=ety }) hm (.of_specs hE rfl) (cloneCopy T) (List e.den) .none st K Ψ _ st _ _ w w Z Z μ1 μ1 hx0 hR3 hR3 (Ev.refl _) (ExtL.refl _) ?_;intro k s a' w' Z' μ' hs hR' _ hext'
  cases k with
  |nrm=>exact fin_sound (sp:=cloneSp f e g) (Ψ:=Ψ) (vs:=[.c (.ref 0 .full)]) (args:=[v0]) rfl hres hZ hS e3 hob hext' hR' hs
  |ret=>exact fin_sound (sp:=cloneSp f e g) (Ψ:=Ψ) (vs:=[.c (.ref 0 .full)]) (args:=[v0]) rfl hres hZ hS e3 hob hext' hR' hs
  |ext n=>exact hs.elim
end Go.Mach

namespace Go.Mach
def chkParts(ck:TypeId->Ty->Bool)(cells:TypeId->Nat):List (Nat×TypeId)->Nat->Ty->Bool
 |[],_,.unit=>true
 |[p],o,τ=>p.1 == o && (cells p.2 == τ.cells && ck p.2 τ)
 |p::q::r,o,.pair a b=>p.1 == o && (cells p.2 == a.cells && (ck p.2 a && chkParts ck cells (q::r) (o+a.cells) b))
 |_,_,_=>false
def chkT(P:Program):Nat->TypeId->Ty->Bool
 |0,_,_=>false
 |n+1,t,τ=>match P.underlying t,τ with
  |some (.int k),.int j=>match IntKind.same j k with
   |some _=>true
   |none=>false
  |some .bool,.bool=>true
  |some .string,.str=>true
  |some (.slice e),.list τ=>chkT P n e τ && (P.cellsOf e == τ.cells && (!(τ.cells == 0) && decide (τ.minB<=2^20)))
  |some (.struct fs),τ=>P.cellsOf t == τ.cells && chkParts (chkT P n) P.cellsOf (fs.toList.map λf=>(f.offset,f.type)) 0 τ
  |some (.array k e),τ=>P.cellsOf t == τ.cells && chkParts (chkT P n) P.cellsOf ((List.range k).map λi=>(i*P.cellsOf e,e)) 0 τ
  |_,_=>false
def Ty.small(n:Nat):(t:Ty)->t.den->Prop
 |.unit,_|.int _,_|.bool,_=>True
 |.str,s=>s.length<=n
 |.list e,xs=>xs.length<=n/\∀ x∈xs,e.small n x
 |.pair a b,x=>a.small n x.1/\b.small n x.2
 |.rose _,_=>False
structure Sm {H:Type}(n:Nat) (sm:DataW H->Prop):Prop where
 str:∀ b,sm (.lit (.string b))->b.length<=n
 sl:∀ es sp,sm (.slice es sp)->es.length<=n/\∀ d∈es,sm d
 agg:∀ l,sm (.agg l)->∀ d∈l,sm d
theorem inRange_of_wf{k:IntKind}{n:Int}(h:(Lit.int k n).wf=true):inRange k n=true:=by
 unfold inRange
 have h:k.min<=n/\n<=k.max:=by simpa [Lit.wf] using h
 cases k<;>simp [IntKind.wrap,IntKind.min,IntKind.max,IntKind.signed,IntKind.bits] at h ⊢<;>omega
theorem mapM_all{α β:Type}{f:α->Option β}:∀ {l:List α}{ys:List β},l.mapM f=some ys->ys.length=l.length/\∀ i (h:i < l.length) (h':i < ys.length),f l[i]=some ys[i]
 |[],ys,h=>by simp at h;subst h;exact ⟨rfl,λi h=>by simp at h⟩
 |a::l,ys,h=>by
  rw [List.mapM_cons] at h
  cases ha:f a with
  |none=>rw [ha] at h;cases h
  |some y =>
   cases hl:l.mapM f with
   |none=>rw [ha,hl] at h;cases h
   |some ys' =>
    rw [ha,hl] at h;cases h;obtain ⟨h1,h2⟩:=mapM_all hl;refine ⟨by simp [h1],λi hi hi'=>?_⟩
    cases i with
    |zero=>simpa using ha
    |succ i=>simpa using h2 i (by simpa using hi) (by simpa using hi')
theorem mapM_again{α β:Type}{f f':α->Option β}:∀ {l:List α}{ys:List β},l.mapM f=some ys->(∀ a∈l,∀ y∈ys,f a=some y->f' a=some y)->l.mapM f'=some ys
 |[],ys,h,_=>by simpa using h
 |a::l,ys,h,hs=>by
  rw [List.mapM_cons] at h ⊢
  cases ha:f a with
  |none=>rw [ha] at h;cases h
  |some y =>
   cases hl:l.mapM f with
   |none=>rw [ha,hl] at h;cases h
   |some ys' =>
    rw [ha,hl] at h;cases h;rw [hs a (List.mem_cons_self) y (List.mem_cons_self) ha,mapM_again hl λb hb z hz=>hs b (List.mem_cons_of_mem _ hb) z (List.mem_cons_of_mem _ hz)];rfl
theorem list_of{α:Type}(p:Nat->α->Prop):∀ (n:Nat),(∀ i,i < n->∃ x,p i x)->∃ xs:List α,xs.length=n/\∀ i (h:i < xs.length),p i xs[i]
 |0,_=>⟨[],rfl,λi h=>by simp at h⟩
 |n+1,h=>by
  obtain ⟨xs,h1,h2⟩:=list_of p n λi hi=>h i (by omega);obtain ⟨x,hx⟩:=h n (by omega);refine ⟨xs++[x],by simp [h1],λi hi=>?_⟩;by_cases he:i < xs.length
  ·rw [List.getElem_append_left he];exact h2 i he
  ·have:i=n:=by simp at hi;omega
   subst this;rw [List.getElem_append_right (by omega)];simpa using hx
section
variable {H:Type}{enc:TypeId×Value->H}{P:Program}{W:World}{N:Nat}{sm:DataW H->Prop}
abbrev Old(W:World)(b:Nat):Prop:=b < W.heap.size
theorem cell_old{a:Addr}{v:Value}(h:W.cell? a=some v):a.block < W.heap.size/\a.spot=none:=by
 unfold World.cell? at h;split at h
 ·rename_i c T fz hb;split at h
  ·cases h
  ·rename_i hs;refine ⟨(Array.getElem?_eq_some_iff.1 hb).1,?_⟩
   cases hq:a.spot with
   |none=>rfl
   |some _=>rw [hq] at hs;exact absurd rfl hs
 ·cases h
theorem frz_parts{rec:TypeId->List Value->Option (DataW H×List MemPlace)}{ck:TypeId->Ty->Bool}
  (hrec:∀ t τ cs y,rec t cs=some y->ck t τ=true->sm y.1->∃ x,Frz W (Old W) τ cs x/\τ.small N x) (cs:List Value) :
  ∀ (l:List (Nat×TypeId)) (o:Nat) (τ:Ty) (ys:List (DataW H×List MemPlace)),l.mapM (λp=>rec p.2 ((cs.drop p.1).take (P.cellsOf p.2)))=some ys->chkParts ck P.cellsOf l o τ=true ->
   (∀ y∈ys,sm y.1)->cs.length=o+τ.cells->∃ x,Frz W (Old W) τ (cs.drop o) x/\τ.small N x
 |[],o,τ,ys,h,hc,hs,hl=>by
  cases τ<;>simp [chkParts] at hc
  refine ⟨(),?_,trivial⟩;simp only [Frz,List.drop_eq_nil_iff];simp [Ty.cells] at hl;omega
 |[p],o,τ,ys,h,hc,hs,hl=>by
  have hc:(p.1 == o && (P.cellsOf p.2 == τ.cells && ck p.2 τ))=true:=by
   cases τ<;>exact hc
  simp only [Bool.and_eq_true,beq_iff_eq] at hc;obtain ⟨h1,h2,h3⟩:=hc;obtain ⟨h4,h5⟩:=mapM_all h
  match ys,h4 with
  |[y],_ =>
   have h6:=h5 0 (by simp) (by simp);simp only [List.getElem_cons_zero] at h6;obtain ⟨x,hx⟩:=hrec _ _ _ _ h6 h3 (hs y (by simp));refine ⟨x,?_⟩;rw [h1,h2,List.take_of_length_le (by simp;omega)] at hx;exact hx
 |p::q::r,o,τ,ys,h,hc,hs,hl=>by
  cases τ with
  |pair a b =>
   simp only [chkParts,Bool.and_eq_true,beq_iff_eq] at hc;obtain ⟨h1,h2,h3,h4⟩:=hc;rw [List.mapM_cons] at h
   cases hy:rec p.2 ((cs.drop p.1).take (P.cellsOf p.2)) with
   |none=>rw [hy] at h;cases h
   |some y =>
    cases hl':(q::r).mapM (λp=>rec p.2 ((cs.drop p.1).take (P.cellsOf p.2))) with
    |none=>rw [hy,hl'] at h;cases h
    |some ys' =>
     rw [hy,hl'] at h;cases h;obtain ⟨x,hx⟩:=hrec _ _ _ _ hy h3 (hs y (by simp));simp only [Ty.cells] at hl;obtain ⟨z,hz⟩:=frz_parts hrec cs (q::r) (o+a.cells) b ys' hl' h4 (λz hz=>hs z (List.mem_cons_of_mem _ hz)) (by omega);refine ⟨(x,z),?_,hx.2,hz.2⟩;simp only [Frz];refine ⟨_,_,?_,hx.1,hz.1⟩;rw [h1,h2,show cs.drop (o+a.cells)=(cs.drop o).drop a.cells by rw [List.drop_drop],List.take_append_drop]
  |_=>simp [chkParts] at hc
theorem frz_of_trod(S:Sm N sm)(hN:N<=2^20):∀ (fuel:Nat){n:Nat}{t:TypeId}{τ:Ty}{cs:List Value}{y:DataW H×List MemPlace},DataW.trod enc P W 0 (λ_=>true) true fuel t cs=some y ->
  chkT P n t τ=true->sm y.1->∃ x,Frz W (Old W) τ cs x/\τ.small N x
 |0,_,_,_,_,_,h,_,_=>by simp [DataW.trod] at h
 |fuel+1,0,_,_,_,_,_,hc,_=>by simp [chkT] at hc
 |fuel+1,n+1,t,τ,cs,y,h,hc,hs=>by
  simp only [chkT] at hc;split at hc
  ·rename_i k j hu;split at hc
   case h_2=>cases hc
   rename_i hk _;obtain ⟨hk⟩:=hk;subst hk;obtain ⟨m,rfl,rfl,hwf⟩:=DataW.trod_int hu h;exact ⟨m,⟨rfl,inRange_of_wf hwf⟩,trivial⟩
  ·rename_i hu;obtain ⟨b,rfl,rfl⟩:=DataW.trod_bool hu h;exact ⟨b,rfl,trivial⟩
  ·rename_i hu;obtain ⟨s,rfl,rfl,_⟩:=DataW.trod_string hu h;have h3:=S.str _ hs;exact ⟨s.data.toList,⟨rfl,by simp only [strOk,decide_eq_true_eq];omega⟩,h3⟩
  ·rename_i e τ hu;simp only [Bool.and_eq_true,beq_iff_eq,Bool.not_eq_true',beq_eq_false_iff_ne,decide_eq_true_eq] at hc;obtain ⟨h1,h2,h3,h4⟩:=hc;rcases DataW.trod_slice hu h with ⟨rfl,rfl⟩|⟨a,len,cap,elems,rest,m,hm,rfl,rfl,_,hlen,_,hel,hall,_,_⟩
   ·refine ⟨[],?_,by simp [Ty.small]⟩;simp only [Frz];exact ⟨none,0,rfl,Nat.le_refl _,by simp [lenOk],.inl trivial⟩
   ·obtain ⟨rfl⟩:fuel=m:=by omega
    obtain ⟨s1,s2⟩:=S.sl _ _ hs;simp only [List.length_map] at s1
    have key:∀ i,i < len->∃ x,(∃ us,us.length=τ.cells/\(a.block < W.heap.size/\a.spot=none)/\CellsAt W a.block (a.off+i*τ.cells) us/\Frz W (Old W) τ us x)/\τ.small N x:=by
     intro i hi;have h5:=hall i hi;rw [List.getElem?_eq_getElem (by omega)] at h5;obtain ⟨us,h6,h7⟩:=Option.bind_eq_some_iff.1 h5;obtain ⟨_,h8,h9⟩:=World.cells?_some h6;obtain ⟨x,h10,h11⟩:=frz_of_trod S hN fuel h7 h1 (s2 _ (List.mem_map.2 ⟨elems[i],List.getElem_mem _,rfl⟩))
     have hsp:a.block < W.heap.size/\a.spot=none:=by
      have h12:=hall 0 (by omega);rw [List.getElem?_eq_getElem (by omega)] at h12;obtain ⟨us',h13,_⟩:=Option.bind_eq_some_iff.1 h12;obtain ⟨_,h14,h15⟩:=World.cells?_some h13;have h16:=h15 0 (by omega);rw [List.getElem?_eq_getElem (by omega)] at h16;have h17:=cell_old h16;simpa [Addr.add] using h17
     refine ⟨x,⟨us,by omega,hsp,λk hk=>?_,h10⟩,h11⟩;have h18:=h9 k (by omega);rw [List.getElem?_eq_getElem hk,h2] at h18;rw [<- h18];congr 1;obtain ⟨ab,ao,asp⟩:=a;obtain ⟨_,rfl⟩:=hsp;unfold Addr.add
     by_cases hz:i*τ.cells=0<;>by_cases hz':k=0<;>simp [hz,hz']
    obtain ⟨xs,g1,g2⟩:=list_of _ len key;refine ⟨xs,?_,by omega,λx hx=>?_⟩
    ·simp only [Frz];refine ⟨some a,cap,by rw [g1],by omega,?_,?_⟩
     ·have:xs.length*τ.minB<=2^20*2^20:=Nat.mul_le_mul (by omega) h4;simp only [lenOk,decide_eq_true_eq];omega
     ·by_cases hx:xs=[]
      ·exact .inl hx
      ·have h0:0 < xs.length:=List.length_pos_iff.2 hx;obtain ⟨⟨_,_,hsp,_⟩,_⟩:=g2 0 h0;refine .inr ⟨a.block,a.off,?_,hsp.1,λi hi=>?_⟩
       ·obtain ⟨ab,ao,asp⟩:=a;obtain ⟨_,rfl⟩:=hsp;rfl
       ·obtain ⟨⟨us,q1,_,q3,q4⟩,_⟩:=g2 i hi;exact ⟨us,q1,q3,q4⟩
    ·obtain ⟨i,hi,rfl⟩:=List.getElem_of_mem hx;exact (g2 i hi).2
  ·rename_i _ _ fs hu;simp only [Bool.and_eq_true,beq_iff_eq] at hc
   have h':(if cs.length=P.cellsOf t then (fs.toList.mapM λf=>DataW.trod enc P W 0 (λ_=>true) true fuel f.type ((cs.drop f.offset).take (P.cellsOf f.type))).map λxs=>(DataW.agg (xs.map (·.1)),xs.flatMap (·.2)) else none)=some y:=by
    unfold DataW.trod at h;rw [hu] at h
    split at h<;>simp_all
   split at h'
   case isFalse=>cases h'
   rename_i hlen;obtain ⟨ys,q1,q2⟩:=Option.map_eq_some_iff.1 h';subst q2
   have q3:(fs.toList.map λf=>(f.offset,f.type)).mapM (λp=>DataW.trod enc P W 0 (λ_=>true) true fuel p.2 ((cs.drop p.1).take (P.cellsOf p.2)))=some ys:=by
    rw [List.mapM_map];exact q1
   obtain ⟨x,hx⟩:=frz_parts (P:=P) (ck:=chkT P n) (λt τ cs y a b c=>frz_of_trod S hN fuel a b c) cs _ 0 _ ys q3 hc.2 (λy hy=>S.agg _ hs _ (List.mem_map.2 ⟨y,hy,rfl⟩)) (by rw [hlen,hc.1];exact (Nat.zero_add _).symm);exact ⟨x,by simpa using hx⟩
  ·rename_i _ _ k e hu;simp only [Bool.and_eq_true,beq_iff_eq] at hc
   have h':(if cs.length=P.cellsOf t then ((List.range k).mapM λi=>DataW.trod enc P W 0 (λ_=>true) true fuel e ((cs.drop (i*P.cellsOf e)).take (P.cellsOf e))).map λxs=>(DataW.agg (xs.map (·.1)),xs.flatMap (·.2)) else none)=some y:=by
    unfold DataW.trod at h;rw [hu] at h
    split at h<;>simp_all
   split at h'
   case isFalse=>cases h'
   rename_i hlen;obtain ⟨ys,q1,q2⟩:=Option.map_eq_some_iff.1 h';subst q2
   have q3:((List.range k).map λi=>(i*P.cellsOf e,e)).mapM (λp=>DataW.trod enc P W 0 (λ_=>true) true fuel p.2 ((cs.drop p.1).take (P.cellsOf p.2)))=some ys:=by
    rw [List.mapM_map];exact q1
   obtain ⟨x,hx⟩:=frz_parts (P:=P) (ck:=chkT P n) (λt τ cs y a b c=>frz_of_trod S hN fuel a b c) cs _ 0 _ ys q3 hc.2 (λy hy=>S.agg _ hs _ (List.mem_map.2 ⟨y,hy,rfl⟩)) (by rw [hlen,hc.1];exact (Nat.zero_add _).symm);exact ⟨x,by simpa using hx⟩
  ·cases hc
theorem row_block{a:Addr}{n:Nat}{p:MemPlace}(h:p∈MemPlace.row a n):p.block=a.block:=by
 simp only [MemPlace.row,List.mem_map] at h;obtain ⟨i,_,rfl⟩:=h;rfl
theorem cells_again{W':World}(hw:∀ b,b < W.heap.size->W'.heap[b]?=W.heap[b]?){a:Addr}{n:Nat}{us:List Value}(h:W.cells? 0 a n=some us):W'.cells? 0 a n=some us:=by
 unfold World.cells? at h ⊢;simp only [Nat.zero_le,if_true] at h ⊢;refine mapM_again h λi _ v _ hv=>?_;have h1:=cell_old hv;rw [<- hv];simp only [World.cell?,hw _ h1.1]
theorem parts_again{rec rec':TypeId->List Value->Option (DataW H×List MemPlace)}{ck:TypeId->Ty->Bool}{ok:DataW H×List MemPlace->Prop}
  (hrec:∀ t τ cs y,rec t cs=some y->ck t τ=true->ok y->rec' t cs=some y) (cs:List Value) :
  ∀ (l:List (Nat×TypeId)) (o:Nat) (τ:Ty) (ys:List (DataW H×List MemPlace)),l.mapM (λp=>rec p.2 ((cs.drop p.1).take (P.cellsOf p.2)))=some ys->chkParts ck P.cellsOf l o τ=true ->
   (∀ y∈ys,ok y)->l.mapM (λp=>rec' p.2 ((cs.drop p.1).take (P.cellsOf p.2)))=some ys
 |[],o,τ,ys,h,_,_=>by simpa using h
 |[p],o,τ,ys,h,hc,hs=>by
  have hc:(p.1 == o && (P.cellsOf p.2 == τ.cells && ck p.2 τ))=true:=by
   cases τ<;>exact hc
  simp only [Bool.and_eq_true,beq_iff_eq] at hc;refine mapM_again h λq hq y hy hr=>?_;obtain rfl:=List.mem_singleton.1 hq;exact hrec _ _ _ _ hr hc.2.2 (hs y hy)
 |p::q::r,o,τ,ys,h,hc,hs=>by
  cases τ with
  |pair a b =>
   simp only [chkParts,Bool.and_eq_true,beq_iff_eq] at hc;obtain ⟨h1,h2,h3,h4⟩:=hc;rw [List.mapM_cons] at h ⊢
   cases hy:rec p.2 ((cs.drop p.1).take (P.cellsOf p.2)) with
   |none=>rw [hy] at h;cases h
   |some y =>
    cases hl':(q::r).mapM (λp=>rec p.2 ((cs.drop p.1).take (P.cellsOf p.2))) with
    |none=>rw [hy,hl'] at h;cases h
    |some ys' =>
     rw [hy,hl'] at h;cases h;rw [hrec _ _ _ _ hy h3 (hs y (by simp)),parts_again hrec cs (q::r) _ b ys' hl' h4 λz hz=>hs z (List.mem_cons_of_mem _ hz)];rfl
  |_=>simp [chkParts] at hc
theorem trod_again{W':World}{sp:Nat->Bool}(hw:∀ b,b < W.heap.size->W'.heap[b]?=W.heap[b]?):∀ (fuel:Nat){n:Nat}{t:TypeId}{τ:Ty}{cs:List Value}{y:DataW H×List MemPlace},DataW.trod enc P W 0 (λ_=>true) true fuel t cs=some y ->
  chkT P n t τ=true->(∀ p∈y.2,sp p.block=true)->DataW.trod enc P W' 0 sp true fuel t cs=some y
 |0,_,_,_,_,_,h,_,_=>by simp [DataW.trod] at h
 |fuel+1,0,_,_,_,_,_,hc,_=>by simp [chkT] at hc
 |fuel+1,n+1,t,τ,cs,y,h,hc,hs=>by
  simp only [chkT] at hc;split at hc
  ·rename_i k j hu;obtain ⟨m,rfl,rfl,hwf⟩:=DataW.trod_int hu h;unfold DataW.trod at h ⊢;simpa [hu] using h
  ·rename_i hu;obtain ⟨b,rfl,rfl⟩:=DataW.trod_bool hu h;unfold DataW.trod at h ⊢;simpa [hu] using h
  ·rename_i hu;obtain ⟨s,rfl,rfl,_⟩:=DataW.trod_string hu h;unfold DataW.trod at h ⊢;simpa [hu] using h
  ·rename_i e τ hu;simp only [Bool.and_eq_true,beq_iff_eq,Bool.not_eq_true',beq_eq_false_iff_ne,decide_eq_true_eq] at hc;obtain ⟨h1,h2,h3,h4⟩:=hc;have h0:=h;rcases DataW.trod_slice hu h with ⟨rfl,rfl⟩|⟨a,len,cap,elems0,rest0,m,hm,rfl,rfl,_,hlen,_,hel,hall,hsp,_⟩
   ·unfold DataW.trod at h ⊢;simpa [hu] using h
   ·obtain ⟨rfl⟩:fuel=m:=by omega
    have hrl:=(hsp rfl).1
    have hspa:elems0.length+rest0.length≠0->sp a.block=true:=λhne=>by
     have hpos:0 < (elems0.length+rest0.length)*P.cellsOf e:=Nat.mul_pos (by omega) (by omega);refine hs (.cell a.block (a.off+0)) (List.mem_append_left _ ?_);exact List.mem_map.2 ⟨0,List.mem_range.2 hpos,rfl⟩
    unfold DataW.trod at h ⊢;simp only [hu,Nat.zero_le,true_and] at h ⊢;split at h
    case isFalse=>cases h
    rename_i hb;rw [if_pos hb];simp only [Option.bind_eq_some_iff,Option.map_eq_some_iff] at h;obtain ⟨elems,he,rest,hr,hy⟩:=h;simp only [Prod.mk.injEq,DataW.slice.injEq] at hy
    have hel':∀ (l:List Nat) (ys:List (DataW H×List MemPlace)) (g:Nat->Nat),(∀ z∈ys,∀ p∈z.2,sp p.block=true)->l.mapM (λi=>(W.cells? 0 (a.add (g i*P.cellsOf e)) (P.cellsOf e)).bind (DataW.trod enc P W 0 (λ_=>true) true fuel e))=some ys ->
      l.mapM (λi=>(W'.cells? 0 (a.add (g i*P.cellsOf e)) (P.cellsOf e)).bind (DataW.trod enc P W' 0 sp true fuel e))=some ys:=λl ys g hz h=>by
     refine mapM_again h λi _ z hz' hi=>?_;obtain ⟨us,q1,q2⟩:=Option.bind_eq_some_iff.1 hi;rw [cells_again hw q1];exact trod_again hw fuel q2 h1 (hz z hz')
    have hplaces:∀ z∈elems++rest,∀ p∈z.2,sp p.block=true:=λz hz p hp=>hs p (by
     rw [<- hy.2]
     exact List.mem_append_right _ (List.mem_flatMap.2 ⟨z,hz,hp⟩))
    have hr':(List.range (cap-len)).mapM (λj=>(W.cells? 0 (a.add ((len+j)*P.cellsOf e)) (P.cellsOf e)).bind (DataW.trod enc P W 0 (λ_=>true) true fuel e))=some rest:=by simpa using hr
    rw [hel' _ elems (λi=>i) (λz hz=>hplaces z (List.mem_append_left _ hz)) he];have hr2:=hel' _ rest (λj=>len+j) (λz hz=>hplaces z (List.mem_append_right _ hz)) hr'
    have hsel:(if sp a.block=true then (List.range (cap-len)).mapM (λj=>(W'.cells? 0 (a.add ((len+j)*P.cellsOf e)) (P.cellsOf e)).bind (DataW.trod enc P W' 0 sp true fuel e)) else some [])=some rest:=by
     by_cases hq:sp a.block=true
     ·rw [if_pos hq];exact hr2
     ·rw [if_neg hq]
      have:rest=[]:=by
       by_cases hz:elems0.length+rest0.length=0
       ·have h5:cap-len=0:=by omega
        rw [h5] at hr';simpa using hr'.symm
       ·exact absurd (hspa hz) hq
      rw [this]
    simp only [Option.bind_some,hsel,Option.map_some];rw [hy.1.1,hy.1.2,hy.2]
  ·rename_i _ _ fs hu;simp only [Bool.and_eq_true,beq_iff_eq] at hc
   have h':(if cs.length=P.cellsOf t then (fs.toList.mapM λf=>DataW.trod enc P W 0 (λ_=>true) true fuel f.type ((cs.drop f.offset).take (P.cellsOf f.type))).map λxs=>(DataW.agg (xs.map (·.1)),xs.flatMap (·.2)) else none)=some y:=by
    unfold DataW.trod at h;rw [hu] at h
    split at h<;>simp_all
   split at h'
   case isFalse=>cases h'
   rename_i hlen;obtain ⟨ys,q1,q2⟩:=Option.map_eq_some_iff.1 h'
   have q3:(fs.toList.map λf=>(f.offset,f.type)).mapM (λp=>DataW.trod enc P W 0 (λ_=>true) true fuel p.2 ((cs.drop p.1).take (P.cellsOf p.2)))=some ys:=by
    rw [List.mapM_map];exact q1
   have q4:=parts_again (P:=P) (ck:=chkT P n) (rec':=DataW.trod enc P W' 0 sp true fuel) (ok:=λy=>∀ p∈y.2,sp p.block=true) (λt τ cs y a b c=>trod_again hw fuel a b c) cs _ 0 _ ys q3 hc.2
    (λy hy p hp=>hs p (by rw [<- q2];exact List.mem_flatMap.2 ⟨y,hy,hp⟩))
   rw [List.mapM_map] at q4;have q5:(fs.toList.mapM λf=>DataW.trod enc P W' 0 sp true fuel f.type ((cs.drop f.offset).take (P.cellsOf f.type)))=some ys:=q4;unfold DataW.trod;rw [hu];rw [<- q2]
   split<;>simp_all
  ·rename_i _ _ k e hu;simp only [Bool.and_eq_true,beq_iff_eq] at hc
   have h':(if cs.length=P.cellsOf t then ((List.range k).mapM λi=>DataW.trod enc P W 0 (λ_=>true) true fuel e ((cs.drop (i*P.cellsOf e)).take (P.cellsOf e))).map λxs=>(DataW.agg (xs.map (·.1)),xs.flatMap (·.2)) else none)=some y:=by
    unfold DataW.trod at h;rw [hu] at h
    split at h<;>simp_all
   split at h'
   case isFalse=>cases h'
   rename_i hlen;obtain ⟨ys,q1,q2⟩:=Option.map_eq_some_iff.1 h'
   have q3:((List.range k).map λi=>(i*P.cellsOf e,e)).mapM (λp=>DataW.trod enc P W 0 (λ_=>true) true fuel p.2 ((cs.drop p.1).take (P.cellsOf p.2)))=some ys:=by
    rw [List.mapM_map];exact q1
   have q4:=parts_again (P:=P) (ck:=chkT P n) (rec':=DataW.trod enc P W' 0 sp true fuel) (ok:=λy=>∀ p∈y.2,sp p.block=true) (λt τ cs y a b c=>trod_again hw fuel a b c) cs _ 0 _ ys q3 hc.2
    (λy hy p hp=>hs p (by rw [<- q2];exact List.mem_flatMap.2 ⟨y,hy,hp⟩))
   rw [List.mapM_map] at q4;have q5:((List.range k).mapM λi=>DataW.trod enc P W' 0 sp true fuel e ((cs.drop (i*P.cellsOf e)).take (P.cellsOf e)))=some ys:=q4;unfold DataW.trod;rw [hu];rw [<- q2]
   split<;>simp_all
  ·cases hc
end
end Go.Mach

namespace Go.Mach
open Go.ChangeShapes Go.RowKit
def Sh.lend:Sh->Bool
 |.frz _=>true
 |.own s=>s.lend
 |.seq a b=>a.lend && b.lend
 |_=>false
def chkPar(P:Program)(t:TypeId):Par->Bool
 |.val g (.frz τ)=>(g == aggT P t) && chkT P 20 t τ
 |.val g (.bor s)=>(g == aggT P t) && (s.lend && chkT P 20 t s.ty)
 |_=>false
def chkPars(P:Program):List TypeId->List Par->Bool
 |[],[]=>true
 |t::ts,p::ps=>chkPar P t p && chkPars P ts ps
 |_,_=>false
def smalls(n:Nat):(ps:List VSh)->dens ps->Prop
 |[],_=>True
 |[a],x=>a.2.ty.small n x
 |a::b::r,x=>a.2.ty.small n x.1/\smalls n (b::r) x.2
section
variable {W:World}{Z V:Nat->Prop}
theorem lend_cells:∀ {s:Sh},s.lend=true->s.cells=s.ty.cells
 |.frz _,_=>rfl
 |.own _,_=>rfl
 |.seq a b,h=>by
  simp only [Sh.lend,Bool.and_eq_true] at h;simp only [Sh.cells,Sh.ty,Ty.cells,lend_cells h.1,lend_cells h.2]
theorem lend_minB:∀ {s:Sh},s.lend=true->s.minB=s.ty.minB
 |.frz _,_=>rfl
 |.own _,_=>rfl
 |.seq a b,h=>by
  simp only [Sh.lend,Bool.and_eq_true] at h;simp only [Sh.minB,Sh.ty,Ty.minB,lend_minB h.1,lend_minB h.2]
theorem lend_of_frz(hz:∀ b,Z b->V b):∀ {s:Sh}{us:List Value}{x:s.den},s.lend=true->Frz W Z s.ty us x->BR W Z V s us x
 |.frz _,_,_,_,h=>h
 |.own s,us,xs,hl,h=>by
  simp only [Sh.ty,Frz] at h;simp only [BR];obtain ⟨a,cap,h1,h2,h3,h4⟩:=h;refine ⟨a,cap,h1,h2,?_,h4.imp id ?_⟩
  ·simpa [lenOkS,lenOk,lend_minB (s:=s) hl] using h3
  ·rintro ⟨b,o,h5,h6,h7⟩;refine ⟨b,o,h5,hz b h6,λi hi=>?_⟩;obtain ⟨us,h8,h9,h10⟩:=h7 i hi;rw [lend_cells (s:=s) hl];exact ⟨us,h8,h9,lend_of_frz hz (s:=s) hl h10⟩
 |.seq a b,us,x,hl,h=>by
  simp only [Sh.lend,Bool.and_eq_true] at hl;simp only [Sh.ty,Frz] at h;simp only [BR];obtain ⟨u1,u2,h1,h2,h3⟩:=h;exact ⟨u1,u2,h1,lend_of_frz hz hl.1 h2,lend_of_frz hz hl.2 h3⟩
end
section
variable {H:Type}{enc:TypeId×Value->H}{P:Program}{W:World}{N:Nat}{sm:DataW H->Prop}
theorem form_of_ok{r:Reach}{b0:Nat}{t:TypeId}{τ:Ty}{v:Value}(hc:chkT P 20 t τ=true)(h:Value.okWide P W r b0 t v):FormR (aggT P t) v.cells.toList v:=by
 unfold aggT;unfold Value.okWide at h;have hc:chkT P (19+1) t τ=true:=hc;unfold chkT at hc
 cases hu:P.underlying t with
 |none=>simp [hu] at hc
 |some D =>
  rw [hu] at hc h
  have one:∀ {w:Value},Cell.okWide P W r b0 t w->(∀ cs,w≠.agg cs)->FormR false w.cells.toList w:=λ{w} _ hw=>by
   cases w<;>simp [FormR,Value.cells] at hw ⊢
  have noagg:∀ {cs:Array Value},(D=.bool\/D=.string\/(∃ k,D=.int k)\/∃ e,D=.slice e)->¬ Cell.okWide P W r b0 t (.agg cs):=λ{cs} hd h=>by
   unfold Cell.okWide Cell.ok at h;rw [hu] at h
   rcases hd with rfl|rfl|⟨k,rfl⟩|⟨e,rfl⟩<;>simp at h
  cases D with
  |bool=>exact one h λcs he=>noagg (.inl rfl) (he▸h)
  |string=>exact one h λcs he=>noagg (.inr (.inl rfl)) (he▸h)
  |int k=>exact one h λcs he=>noagg (.inr (.inr (.inl ⟨k,rfl⟩))) (he▸h)
  |slice e=>exact one h λcs he=>noagg (.inr (.inr (.inr ⟨e,rfl⟩))) (he▸h)
  |struct fs=>obtain ⟨cs,rfl,_⟩:=h;simp [FormR,Value.cells]
  |array n e=>obtain ⟨cs,rfl,_⟩:=h;simp [FormR,Value.cells]
  |_=>cases τ<;>cases hc
theorem val_of_trod(S:Sm N sm)(hN:N<=2^20){r:Reach}{b0:Nat}{t:TypeId}{v:Value}{d:DataW H}{ps:List MemPlace}{p:Par}(h:DataW.Trod enc P W 0 (λ_=>true) true t v d ps)(hv:Value.okWide P W r b0 t v)
  (hc:chkPar P t p=true) (hs:sm d) (T:Nat->Prop):∃ x:p.v.2.den,ValR W (Old W) (λ_=>False) p.v v x T/\p.v.2.ty.small N x:=by
 obtain ⟨fuel,h⟩:=h
 match p with
 |.obj _=>simp [chkPar] at hc
 |.val g s =>
  cases s with
  |frz τ =>
   simp only [chkPar,Bool.and_eq_true,beq_iff_eq] at hc;obtain ⟨rfl,hc⟩:=hc;obtain ⟨x,h1,h2⟩:=frz_of_trod S hN fuel h hc hs;exact ⟨x,⟨_,form_of_ok hc hv,h1.length,h1⟩,h2⟩
  |bor s =>
   simp only [chkPar,Bool.and_eq_true,beq_iff_eq] at hc;obtain ⟨rfl,hl,hc⟩:=hc;obtain ⟨x,h1,h2⟩:=frz_of_trod S hN fuel h hc hs;refine ⟨x,⟨_,form_of_ok hc hv,?_,?_⟩,h2⟩
   ·exact h1.length.trans (lend_cells hl).symm
   ·exact lend_of_frz (λb hb=>.inr hb) hl h1
  |_=>simp [chkPar] at hc
theorem vals_of_trod(S:Sm N sm)(hN:N<=2^20){r:Reach}{b0:Nat}:∀ {ts:List TypeId}{vs:List Value}{ds:List (DataW H)}{q:List MemPlace}{ps:List Par},DataW.TrodAll enc P W 0 (λ_=>true) true ts vs ds q ->
  (∀ (j:Nat) t v,ts[j]?=some t->vs[j]?=some v->Value.okWide P W r b0 t v)->chkPars P ts ps=true->(∀ d∈ds,sm d) ->
  ∃ x:dens (ps.map Par.v),ValsR W (Old W) (λ_=>False) (ps.map Par.v) vs x (λ_=>False)/\smalls N (ps.map Par.v) x
 |[],vs,ds,q,ps,h,hv,hc,hs=>by
  obtain ⟨rfl,rfl,rfl⟩:=trodAll_nil h
  match ps,hc with
  |[],_=>exact ⟨(),rfl,trivial⟩
 |t::ts,vs,ds,q,ps,h,hv,hc,hs=>by
  obtain ⟨v,vs',d,ds',p1,p2,rfl,rfl,rfl,h1,h2⟩:=trodAll_cons h
  match ps,hc with
  |p::ps,hc =>
   simp only [chkPars,Bool.and_eq_true] at hc;obtain ⟨x,g1,g2⟩:=val_of_trod S hN h1 (hv 0 t v rfl rfl) hc.1 (hs d (by simp)) (λ_=>False);obtain ⟨y,g3,g4⟩:=vals_of_trod S hN h2 (λj t v ht hv'=>hv (j+1) t v (by simpa using ht) (by simpa using hv')) hc.2 (λd hd=>hs d (List.mem_cons_of_mem _ hd))
   match ps,y,g3,g4 with
   |[],y,g3,g4 =>
    obtain rfl:vs'=[]:=g3;exact ⟨x,⟨v,rfl,g1⟩,g2⟩
   |p'::r,y,g3,g4=>exact ⟨(x,y),⟨v,vs',λ_=>False,λ_=>False,rfl,λ_ h=>h,λ_ h=>h,λ_ h _=>h,g1,g3⟩,g2,g4⟩
theorem trodAll_again{W':World}{sp:Nat->Bool}(hw:∀ b,b < W.heap.size->W'.heap[b]?=W.heap[b]?):∀ {ts:List TypeId}{vs:List Value}{ds:List (DataW H)}{q:List MemPlace}{ps:List Par},DataW.TrodAll enc P W 0 (λ_=>true) true ts vs ds q ->
  chkPars P ts ps=true->(∀ p∈q,sp p.block=true)->DataW.TrodAll enc P W' 0 sp true ts vs ds q
 |[],vs,ds,q,ps,h,hc,hs=>by
  obtain ⟨rfl,rfl,rfl⟩:=trodAll_nil h;exact trodAll_mk0
 |t::ts,vs,ds,q,ps,h,hc,hs=>by
  obtain ⟨v,vs',d,ds',p1,p2,rfl,rfl,rfl,⟨fuel,h1⟩,h2⟩:=trodAll_cons h
  match ps,hc with
  |p::ps,hc =>
   simp only [chkPars,Bool.and_eq_true] at hc
   have hck:∃ τ,chkT P 20 t τ=true:=by
    match p,hc.1 with
    |.val g (.frz τ),hc=>simp only [chkPar,Bool.and_eq_true] at hc;exact ⟨_,hc.2⟩
    |.val g (.bor s),hc=>simp only [chkPar,Bool.and_eq_true] at hc;exact ⟨_,hc.2.2⟩
   obtain ⟨τ,hck⟩:=hck;exact ⟨p1,p2,⟨fuel,trod_again hw fuel h1 hck λp hp=>hs p (List.mem_append_left _ hp)⟩,trodAll_again hw h2 hc.2 λp hp=>hs p (List.mem_append_right _ hp),rfl⟩
theorem chkPars_boxes:∀ {ts:List TypeId}{ps:List Par},chkPars P ts ps=true->boxes ps=[]
 |[],[],_=>rfl
 |t::ts,p::ps,h=>by
  simp only [chkPars,Bool.and_eq_true] at h
  match p,h.1 with
  |.val g s,_=>exact chkPars_boxes (ps:=ps) h.2
theorem post_of_same_old{f:Func}{s:ChangeSpec}{apart fresh handsOn again:Bool}{W W':World}{args:Array Value}{v:Value}{ds gs:List (DataW H)}{before pa pv:List MemPlace}
  (hW:DataW.Whole enc P f.params.toList s.vars apart W args.toList ds gs before)
  (hres:∀ (b:Nat) (sp:Nat->Bool) (hd:Bool),DataW.TrodAll enc P W' b sp hd f.resultTypes.toList (v.resultList f.resultTypes.size) (s.fn H (ds++gs)).results [])
  (hargs:∀ sp:Nat->Bool,(∀ p∈before,sp p.block=true)->DataW.TrodAll enc P W' 0 sp true f.params.toList args.toList (s.fn H (ds++gs)).args pa)
  (hvars:∀ sp:Nat->Bool,(∀ p∈before,sp p.block=true)->DataW.TrodVars enc P W' sp s.vars (s.fn H (ds++gs)).vars pv)
  (hps:before=pa++pv) (hk:W.keptBut W' (·∈before)) (hfz:∀ a,a.block < W.heap.size->W'.frozen? a=W.frozen? a)
  (hok:∀ (j:Nat) (t:TypeId) (r:Value),f.resultTypes[j]?=some t->(v.resultList f.resultTypes.size)[j]?=some r->Value.okWide P W' .any 0 t r) :
  s.post enc P f apart fresh handsOn again W args v W':=by
 have hold:∀ p∈before,(λb=>decide (b < W.heap.size)) p.block=true:=λp hp=>by simpa using hW.lt p hp
 have hlt:=hW.lt;refine ⟨ds,gs,before,[],pa,pv,hW,hres _ _ _,hargs _ hold,hvars _ hold,World.keptBut_mono (λp hp=>⟨hp,?_⟩) hk,λ_=>?_⟩
 ·rw [hps,List.mem_append] at hp;exact Or.inr hp
 ·obtain ⟨_,_,_,_,_,hz,hn⟩:=hW;refine ⟨hok,_,_,([]++pa)++pv,⟨[]++pa,pv,trodAll_append (hargs _ (λ_ _=>rfl)) (hres _ _ _),hvars _ (λ_ _=>rfl),rfl,?_,?_⟩,?_⟩
  ·intro b off hp
   have hp':MemPlace.cell b off∈before:=by rw [hps];simpa using hp
   rw [hfz _ (hlt _ hp')];exact hz b off hp'
  ·intro ha;have:=hn ha;rw [hps] at this;simpa using this
  ·intro p hp _;rw [hps];simpa using hp
theorem frozen_same{W':World}{a:Addr}(hw:W'.heap[a.block]?=W.heap[a.block]?):W'.frozen? a=W.frozen? a:=by
 simp only [World.frozen?,hw]
theorem law_post{f:FuncId}{fn:Func}{ps:List Par}{run:dens (ps.map Par.v)->Res (outs Bool (boxes ps))}{s:ChangeSpec}{apart fresh handsOn again:Bool}{tb:TypeId}
  {G:Glob}(hct:Contract P G ⟨f,ps,[(false,.frz .bool)],run⟩) (hck:chkPars P fn.params.toList ps=true) (hN:N<=2^20) (hvars:s.vars=[]) (hrt:fn.resultTypes=#[tb]) (htb:P.underlying tb=some .bool)
  (hspec:∀ ds:List (DataW H),ds.length=fn.params.toList.length->s.fn H ds={ results:=[.lit (.bool true)],args:=ds })
  (hlaw:∀ x,smalls N (ps.map Par.v) x->(run x).sat λy=>outFst (boxes ps) y=true)
  (S:Sm N sm) (hG:G.At W (Old W)){base:Nat}{args:Array Value}{ds gs:List (DataW H)}{before:List MemPlace}
  (hval:∀ (j:Nat) t v,fn.params[j]?=some t->args[j]?=some v->Value.okWide P W .any base t v)
  (hW:DataW.Whole enc P fn.params.toList s.vars apart W args.toList ds gs before) (hsm:∀ d∈ds,sm d) :
  Calls P f args W λe W'=>∃ v,e=.returned v/\s.post enc P fn apart fresh handsOn again W args v W':=by
 have hW':=hW;obtain ⟨p,q,hA,hV,hpq,_,_⟩:=hW;rw [hvars] at hV;obtain ⟨hgs,hq⟩:=trodVars_none hV;obtain ⟨x,hx,hxs⟩:=vals_of_trod S hN hA (λj t v ht hv=>hval j t v (by simpa using ht) (by simpa using hv)) hck hsm
 have hlen:ds.length=fn.params.toList.length:=by
  have:∀ {ts:List TypeId}{vs:List Value}{ds:List (DataW H)}{ps:List MemPlace},DataW.TrodAll enc P W 0 (λ_=>true) true ts vs ds ps->ds.length=ts.length:=by
   intro ts
   induction ts with
   |nil=>intro vs ds ps h;obtain ⟨_,rfl,_⟩:=trodAll_nil h;rfl
   |cons t ts ih=>intro vs ds ps h;obtain ⟨_,_,_,_,_,_,_,rfl,_,_,h2⟩:=trodAll_cons h;simp [ih h2]
  exact this hA
 have hsp:=hspec ds hlen;have hcall:=hct.run W (Old W) (λ_=>False) (λ_=>False) args.toList x _ (hlaw x hxs) hG (λ_ h=>h) (λ_ h=>h.elim) (λ_ h=>h.elim) hx
 have harr:args.toList.toArray=args:=by simp
 rw [harr] at hcall;refine hcall.mono ?_;rintro e W' ⟨y,v,vals,Z',S1,S2,rfl,hy,hret,hv1,_,_,_,_,_,hsz,hkeep,hio⟩;have hkeep':∀ b,b < W.heap.size->W'.heap[b]?=W.heap[b]?:=λb hb=>hkeep b hb λh=>h
 have hvb:v=.bool true:=by
  obtain ⟨v',rfl,us,hf,_,hsr⟩:=hv1;have hret:[v']=[v]:=hret;cases hret;have hf:us=[v]:=hf;have hsr:us=[.bool (outFst (boxes ps) y)]:=hsr;rw [hf,hy] at hsr;simpa using hsr
 subst hvb;refine ⟨_,rfl,post_of_same_old (pa:=p) (pv:=q) hW' ?_ ?_ ?_ hpq ⟨hio.1,hio.2.1,λi hi=>?_⟩ (λa ha=>frozen_same (hkeep' _ ha)) (ok_one hrt rfl (okWide_bool_mk htb _))⟩
 ·intro b sp hd;rw [hgs,List.append_nil,hsp,hrt];exact trodAll_mk1 (shut_bool htb _)
 ·intro sp hsp';rw [hgs,List.append_nil,hsp];exact trodAll_again hkeep' hA hck λp hp=>hsp' p (by rw [hpq];exact List.mem_append_left _ hp)
 ·intro sp _;rw [hgs,List.append_nil,hsp,hvars,hq];rfl
 ·rw [hkeep' i hi]
  split<;>simp_all
theorem law_post'{f:FuncId}{fn:Func}{ps:List Par}{run:dens (ps.map Par.v)->Res (outs Bool (boxes ps))}{s:ChangeSpec}{apart fresh handsOn again:Bool}{tb:TypeId}
  {G:Glob}(hct:Contract P G ⟨f,ps,[(false,.frz .bool)],run⟩) (hck:chkPars P fn.params.toList ps=true) (hN:N<=2^20) (hvars:s.vars=[]) (hrt:fn.resultTypes=#[tb]) (htb:P.underlying tb=some .bool)
  (hspec:∀ ds:List (DataW H),ds.length=fn.params.toList.length->s.fn H ds={ results:=[.lit (.bool true)],args:=ds })
  (hlaw:∀ x,smalls N (ps.map Par.v) x->SafeP (run x) λy=>outFst (boxes ps) y=true)
  (S:Sm N sm) (hG:G.At W (Old W)){base:Nat}{args:Array Value}{ds gs:List (DataW H)}{before:List MemPlace}
  (hval:∀ (j:Nat) t v,fn.params[j]?=some t->args[j]?=some v->Value.okWide P W .any base t v)
  (hW:DataW.Whole enc P fn.params.toList s.vars apart W args.toList ds gs before) (hsm:∀ d∈ds,sm d) :
  Calls P f args W λe W'=>∃ v,e=.returned v/\s.post enc P fn apart fresh handsOn again W args v W' :=
 law_post hct hck hN hvars hrt htb hspec (λx hx=>(hlaw x hx).ok) S hG hval hW hsm
end
end Go.Mach

namespace Go.Mach
theorem goes_false{P:Program}{c:OpenClaim}(h:P.funcs.any Func.goes=false)(hs:c.start=.entering):false=c.goesBy P:=by
 have h1:∀ g:Nat,(P.funcs[g]?).any Func.goes=false:=λg=>by
  cases hg:P.funcs[g]? with
  |none=>rfl
  |some fn=>simpa using (Array.any_eq_false'.1 h) fn (Array.mem_of_getElem? hg)
 have h2:∀ f,P.goes f=false:=λf=>by
  unfold Program.goes;rw [h,Bool.and_false,Bool.or_false,List.any_eq_false]
  exact λg _=>by rw [h1 g];decide
 have h3:P.goesFrom c.func=false:=by
  unfold Program.goesFrom
  cases P.funcNamed c.func with
  |none=>rfl
  |some f=>exact h2 f
 unfold OpenClaim.goesBy Program.goesAt;rw [h3,hs];rfl
end Go.Mach

