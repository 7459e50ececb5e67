/-
  A part of the proofs of renlaw25.JudgeErases and renlaw25.JudgeCells: each law returns true for every input of the stated bulk and leaves its arguments as they were; no further condition.
  By an AI agent; no person has read it.
-/
import Derived.Test.YtjfbodbfjhgffaaGreatDoorPjaa
import Derived.Great.BuildSlice
import Derived.ArgAppend
import Derived.DeepKeys5
import Derived.Maps.Keyed
set_option linter.all false
set_option linter.deprecated false
namespace Go.Mach
section
variable {B:Base}{w:World}{μ:Locs}
structure Kept (m m':Mem):Prop where
 len:m'.roots.length=m.roots.length
 cur:m'.cur=m.cur
 dead:∀ r:Nat,m.roots[r]?=some Root.dead->m'.roots[r]?=some Root.dead
theorem Kept.refl(m:Mem):Kept m m:=⟨rfl,rfl,λ_ h=>h⟩
theorem Kept.trans{m m' m'':Mem}(h:Kept m m')(h':Kept m' m''):Kept m m'':=⟨h'.len.trans h.len,h'.cur.trans h.cur,λr hr=>h'.dead r (h.dead r hr)⟩
theorem Kept.set{m:Mem}{r:Nat}{x y:Root}(hr:m.roots[r]?=some x)(hx:x≠.dead):Kept m (m.set r y):=by
 refine ⟨by simp [Mem.set],rfl,λs hs=>?_⟩
 have:r≠s:=by rintro rfl;rw [hr] at hs;cases hs;exact hx rfl
 simpa [Mem.set,List.getElem?_set_ne this] using hs
theorem Kept.setDead{m:Mem}{r:Nat}:Kept m (m.set r .dead):=by
 refine ⟨by simp [Mem.set],rfl,λs hs=>?_⟩;by_cases h:r=s
 ·subst h;have:=(List.getElem?_eq_some_iff.1 hs).1;simp [Mem.set,this]
 ·simpa [Mem.set,List.getElem?_set_ne h] using hs
theorem list0_frz{roots:List Root}{q:Nat}{s:Sh}{xs:List s.den}(ht:s.tame=true)(hq:roots[q]?=some (.arr s xs none)){e:Ty}{c:C} :
  C.list0? (roots.set q (.frz s.ty xs)) e c=C.list0? roots e c:=by
 cases c with
 |ref r wd =>
  by_cases h:q=r
  ·subst h;have hlt:=(List.getElem?_eq_some_iff.1 hq).1;simp only [C.list0?];rw [hq,List.getElem?_set_self hlt];simp only [ht]
   cases Ty.same s.ty e with
   |none=>rfl
   |some h=>rfl
  ·simp only [C.list0?,List.getElem?_set_ne h]
 |_=>rfl
theorem frz_win{Z Y:Nat->Prop}{ℓ:Loc}{e:Ty}{xs:List e.den}{wd:Win}{v:Value}(h:RootOk w Z Y μ ℓ (.frz e xs))(hv:SlR ℓ wd v):Frz w Z (.list e) [v] (wd.of xs):=by
 obtain ⟨g1,g2⟩:=RdR.win (show RdR _ _ _ _ _ _ _ from h) hv
 exact g1.frz (lenOk_mono (n:=xs.length) h.2.2.2.1 g2)
theorem Frz.up{Z Z':Nat->Prop}{t:Ty}{us:List Value}{x:t.den}(h:Frz w Z t us x)(hz:∀ b,Z b->Z' b):Frz w Z' t us x:=h.same (SameOn.refl _ _) hz
theorem CRs.up{Z Z':Nat->Prop}{cs:List C}{us:List Value}(h:CRs w Z μ cs us)(hz:∀ b,Z b->Z' b):CRs w Z' μ cs us:=h.mono (SameOn.refl _ _) hz (ExtL.refl μ)
theorem SR.up{Z Z' Y:Nat->Prop}{s:Sh}{us:List Value}{x:s.den}{S:Nat->Prop}(h:SR w Z Y s us x S)(hz:∀ b,Z b->Z' b):SR w Z' Y s us x S:=h.same hz (λ_ h=>h) (SameOn.refl _ _)
theorem freezeM_spec:∀ {cs:List C}{us:List Value}{m m':Mem}{Z F:Nat->Prop},MemOk B m w Z μ->Loose B m w Z μ F->CRs w Z μ cs us->freezeM cs m=some m' ->
  ∃ Z':Nat->Prop,MemOk B m' w Z' μ/\Loose B m' w Z' μ F/\(∀ b,Z b->Z' b)/\Kept m m' /\
   ∀ c∈cs,∀ v,CR w Z μ c v->∀ (e:Ty) (xs:List e.den),C.list0? m.roots e c=some xs->Frz w Z' (.list e) [v] xs
 |[],us,m,m',Z,F,h,hF,hc,ht=>by
  simp only [freezeM,Option.some.injEq] at ht;subst ht;exact ⟨Z,h,hF,λ_ h=>h,Kept.refl m,λc hc=>by simp at hc⟩
 |c::cs,us,m,m',Z,F,h,hF,hc,ht=>by
  obtain ⟨v0,us',rfl,cv0,c2⟩:=hc.cons_inv;by_cases hr:∃ r wd,c=.ref r wd
  ·obtain ⟨r,wd,rfl⟩:=hr;obtain ⟨ℓ,m1,_⟩:=cv0;simp only [freezeM] at ht;split at ht
   ·rename_i s xs hq;split at ht
    case h_2=>cases ht
    rename_i hta;have hlt:r < m.roots.length:=(List.getElem?_eq_some_iff.1 hq).1;obtain ⟨h1,h2⟩:=freeze_root h hF hta hq m1;obtain ⟨Z',g1,g2,g3,g4,g5⟩:=freezeM_spec h1 h2 (c2.up λ_ h=>.inl h) ht;refine ⟨Z',g1,g2,λb hb=>g3 b (.inl hb),(Kept.set hq (by simp)).trans g4,λc hc v cv e ys hl=>?_⟩;rcases List.mem_cons.1 hc with rfl|hc
    ·obtain ⟨ℓ'',m1',m2⟩:=cv;rw [m1] at m1';cases m1';obtain ⟨ℓ',j1,j2⟩:=h1.rt r (.frz s.ty xs) (by simp [Mem.set,hlt]) (by simp);rw [m1] at j1;cases j1;simp only [C.list0?,hq] at hl;split at hl
     case h_2=>cases hl
     rename_i _ he _ _;subst he;cases hl;exact (frz_win j2 m2).up g3
    ·refine g5 c hc v (cv.mono (SameOn.refl _ _) (λ_ h=>.inl h) (ExtL.refl μ)) e ys ?_;rw [<- hl];exact list0_frz hta hq
   ·rename_i e xs hq;obtain ⟨Z',g1,g2,g3,g4,g5⟩:=freezeM_spec h hF c2 ht;refine ⟨Z',g1,g2,g3,g4,λc hc v cv e' ys hl=>?_⟩;rcases List.mem_cons.1 hc with rfl|hc
    ·obtain ⟨ℓ'',m1',m2⟩:=cv;rw [m1] at m1';cases m1';obtain ⟨ℓ',j1,j2⟩:=h.rt r (.frz e xs) hq (by simp);rw [m1] at j1;cases j1;simp only [C.list0?,hq] at hl;split at hl
     case h_2=>cases hl
     rename_i he _;subst he;cases hl;exact (frz_win j2 m2).up g3
    ·exact g5 c hc v cv e' ys hl
   ·cases ht
  ·have ht':freezeM cs m=some m':=by
    cases c with
    |ref q wq=>exact absurd ⟨q,wq,rfl⟩ hr
    |_=>simpa only [freezeM] using ht
   obtain ⟨Z',g1,g2,g3,g4,g5⟩:=freezeM_spec h hF c2 ht';refine ⟨Z',g1,g2,g3,g4,λc' hc v cv e xs hl=>?_⟩;rcases List.mem_cons.1 hc with rfl|hc
   ·cases c' with
    |ref q wq=>exact absurd ⟨q,wq,rfl⟩ hr
    |lst e' ys =>
     simp only [C.list0?] at hl;split at hl
     case h_2=>cases hl
     rename_i he _;subst he;cases hl
     exact (show Frz w Z (.list e') [v] ys from cv).up g3
    |nils =>
     simp only [C.list0?,Option.some.injEq] at hl;subst hl;have hv:v=.slice none 0 0:=cv;simp only [Frz];exact ⟨none,0,by rw [hv];rfl,by simp,by simp [lenOk],by simp⟩
    |_=>simp [C.list0?] at hl
   ·exact g5 c' hc v cv e xs hl
theorem ArrR.win{c:Nat}{α:Type}{xs:List α}{lok lok':Bool}{R:List Value->α->(Nat->Prop)->Prop}{ℓ:Loc}{wd:Win}{v:Value}(h:ArrR w c xs lok (λ_=>R) ℓ)(hv:SlR ℓ wd v)(hl:(wd.of xs).length<=xs.length->lok'=true) :
  ∃ n:Loc,n.S=ℓ.S/\ArrR w c (wd.of xs) lok' (λ_=>R) n/\v=.slice (n.addr 0) n.len n.cap:=by
 obtain ⟨h1,h2,h3,h4,h0,h6⟩:=h;obtain ⟨p,k,p1,p2,p3,p4,p5,p6⟩:=hv.slice' (by omega);have p3':=p3;rw [h2] at p3';obtain ⟨w1,w2⟩:=win_of xs wd p3';refine ⟨⟨ℓ.blk,ℓ.base+p*ℓ.sz,ℓ.sz,wd.len ℓ.len,k,ℓ.S,none⟩,rfl,⟨h1,by rw [w1,h2],by rw [w1,<- h2];exact p2,hl (by rw [w1];omega),rfl,?_⟩,?_⟩
 ·cases hb:ℓ.blk with
  |none =>
   rw [hb] at h6;obtain ⟨rfl,h7⟩:=h6
   exact ⟨by cases wd<;>simp [Win.of],by show k=0;omega⟩
  |some b =>
   rw [hb] at h6;obtain ⟨g1,g2,N,g3,g4,g5⟩:=h6;refine ⟨g1,?_,λi=>N (wd.off+i),λi hi=>?_,λi j hi hj hij=>?_,λi hi=>?_⟩
   ·obtain ⟨vs,T,fz,k1,k2,k3⟩:=g2;refine ⟨vs,T,fz,k1,?_,k3⟩
    have hpc:p+k<=ℓ.cap:=by omega
    have:=Nat.mul_le_mul_right ℓ.sz hpc;rw [Nat.add_mul] at this;show ℓ.base+p*ℓ.sz+k*ℓ.sz<=vs.size;omega
   ·obtain ⟨hj,_⟩:=w2 i hi;exact g3 _ hj
   ·obtain ⟨hi',_⟩:=w2 i hi;obtain ⟨hj',_⟩:=w2 j hj;exact g4 _ _ hi' hj' (by omega)
   ·obtain ⟨hj,he⟩:=w2 i hi
    have hpo:p=wd.off:=by
     rcases p6 with p6|p6
     ·exact p6
     ·rw [w1] at hi;rw [h2] at p2;omega
    obtain ⟨us,k1,k2,k3⟩:=g5 _ hj;refine ⟨us,k1,?_,by rw [he];exact k3⟩;show CellsAt w b (ℓ.base+p*ℓ.sz+i*ℓ.sz) us;rw [hpo,Nat.add_assoc,<- Nat.add_mul];exact k2
 ·rw [p1];simp [Loc.addr,h0]
theorem ArrR.putBack{c:Nat}{α:Type}{xs:List α}{lok:Bool}{R:Nat->List Value->α->(Nat->Prop)->Prop}{R':List Value->α->(Nat->Prop)->Prop}{ℓ:Loc}(h:ArrR w c xs lok R ℓ){i:Nat}(hi:i < xs.length){y:α}{S1:Nat->Prop}
  (hS1:∀ d,S1 d->¬ ℓ.S d) (hat:∀ b,ℓ.blk=some b->∃ wf:List Value,wf.length=c/\CellsAt w b (ℓ.base+i*ℓ.sz) wf/\R' wf y S1)
  (hoth:∀ j us S (hj:j < xs.length),j≠i->R j us xs[j] S->R' us xs[j] S):ArrR w c (xs.set i y) lok (λ_=>R') { ℓ with S:=λd=>ℓ.S d\/S1 d }:=by
 obtain ⟨q1,q2,q3,q4,q0,q5⟩:=h;refine ⟨q1,by rw [List.length_set];exact q2,by rw [List.length_set];exact q3,q4,q0,?_⟩
 cases hb:ℓ.blk with
 |none=>rw [hb] at q5;obtain ⟨rfl,_⟩:=q5;simp at hi
 |some b =>
  rw [hb] at q5;obtain ⟨k1,k2,N,k3,k4,k5⟩:=q5;simp only
  refine ⟨.inl k1,k2,λj=>if i=j then S1 else N j,λj hj d hd=>?_,λj k hj hk hjk d hd hd'=>?_,λj hj=>?_⟩
  ·dsimp only at hd;by_cases hij:i=j
   ·rw [if_pos hij] at hd;exact ⟨.inr hd,λhdb=>hS1 d hd (hdb▸k1)⟩
   ·rw [if_neg hij] at hd;exact ⟨.inl (k3 j (by simpa using hj) d hd).1,(k3 j (by simpa using hj) d hd).2⟩
  ·dsimp only at hd hd';by_cases hij:i=j
   ·have hik:i≠k:=λe=>hjk (hij.symm.trans e);rw [if_pos hij] at hd;rw [if_neg hik] at hd';exact hS1 d hd (k3 k (by simpa using hk) d hd').1
   ·rw [if_neg hij] at hd;by_cases hik:i=k
    ·rw [if_pos hik] at hd';exact hS1 d hd' (k3 j (by simpa using hj) d hd).1
    ·rw [if_neg hik] at hd';exact k4 j k (by simpa using hj) (by simpa using hk) hjk d hd hd'
  ·by_cases hij:i=j
   ·subst hij;obtain ⟨wf,g1,g2,g3⟩:=hat b hb;exact ⟨wf,g1,g2,by simpa using g3⟩
   ·obtain ⟨us,g1,g2,g3⟩:=k5 j (by simpa using hj);refine ⟨us,g1,g2,?_⟩;dsimp only;rw [List.getElem_set_ne hij,if_neg hij];exact hoth j us _ (by simpa using hj) (λe=>hij e.symm) g3
theorem modify_fst{α:Type}(xs:List (List Int×α))(i:Nat)(y:α):(xs.modify i λe=>(e.1,y)).map (·.1)=xs.map (·.1):=by
 refine List.ext_getElem (by simp) λj h1 h2=>?_;simp only [List.getElem_map,List.getElem_modify]
 split<;>rfl
theorem MapR.putBack{n:Nat}{α:Type}{xs:List (List Int×α)}{R R':Nat->List Value->α->(Nat->Prop)->Prop}{b i:Nat}{S S1:Nat->Prop}{y:α}(h:MapR w n xs R b S)(hS1:∀ d,S1 d->¬ S d)
  (hat:∀ es clock,w.heap[b]?=some (.map es clock)->∀ h:i < es.size,R' i [es[i].val] y S1) (hoth:∀ j us x T,j≠i->R j us x T->R' j us x T) :
  MapR w n (xs.modify i λe=>(e.1,y)) R' b (λd=>S d\/S1 d):=by
 obtain ⟨h0,es,clock,h1,h2,h3,h4,h5,h6,N,h7,h8,h9⟩:=h
 refine ⟨.inl h0,es,clock,h1,by simpa using h2,h3,h4,by rw [modify_fst];exact h5,λx hx=>?_,λj d=>if i=j then S1 d else N j d,λj hj d hd=>?_,λj k hj hk hjk d hd hd'=>?_,λj hj hj'=>?_⟩
 ·have:x.1∈(xs.modify i λe=>(e.1,y)).map (·.1):=List.mem_map_of_mem hx;rw [modify_fst] at this;obtain ⟨z,hz,hz'⟩:=List.mem_map.1 this;rw [<- hz'];exact h6 z hz
 ·simp only [List.length_modify] at hj;dsimp only at hd;split at hd
  ·exact ⟨.inr hd,λe=>hS1 d hd (e▸h0)⟩
  ·exact ⟨.inl (h7 j hj d hd).1,(h7 j hj d hd).2⟩
 ·simp only [List.length_modify] at hj hk;dsimp only at hd hd';split at hd
  ·rename_i e;rw [if_neg λe'=>hjk (e.symm.trans e')] at hd';exact hS1 d hd (h7 k hk d hd').1
  ·split at hd'
   ·exact hS1 d hd' (h7 j hj d hd).1
   ·exact h8 j k hj hk hjk d hd hd'
 ·simp only [List.length_modify] at hj;obtain ⟨h10,h11⟩:=h9 j hj hj';simp only [List.getElem_modify];by_cases e:i=j
  ·subst e;simp only [if_true];exact ⟨h10,hat es clock h1 hj'⟩
  ·simp only [if_neg e];exact ⟨h10,hoth j _ _ _ (λe'=>e e'.symm) h11⟩
structure Got (B:Base) (m m':Mem) (w:World) (Z:Nat->Prop) (μ:Locs) (F:Nat->Prop) (s:Sh) (us:List Value) (x:s.den) (rest:List C):Prop where
 ex:∃ (Z' F' S:Nat->Prop) (us1 us2:List Value),us=us1++us2/\us1.length=s.cells/\MemOk B m' w Z' μ/\Loose B m' w Z' μ F'/\(∀ b,Z b->Z' b)/\(∀ b,F b->F' b) /\
  (∀ b,S b->F' b/\¬ F b)/\SR w Z' B.Y s us1 x S/\CRs w Z' μ rest us2
 kept:Kept m m'
theorem Loose.grow{m:Mem}{Z F F':Nat->Prop}(h:Loose B m w Z μ F')(hf:∀ b,F b->F' b):Loose B m w Z μ F:=⟨λb hb=>h.ok b (hf b hb),λb r hb=>h.off b r (hf b hb)⟩
theorem get_sound:∀ (s:Sh){cs rest:List C}{us:List Value}{x:s.den}{m m':Mem}{Z F:Nat->Prop},MemOk B m w Z μ->Loose B m w Z μ F->CRs w Z μ cs us->s.get cs m=some (x,rest,m') ->
  Got B m m' w Z μ F s us x rest
 |.nil,cs,rest,us,x,m,m',Z,F,hM,hF,hc,h=>by
  simp only [Sh.get,Option.some.injEq,Prod.mk.injEq] at h;obtain ⟨_,rfl,rfl⟩:=h;exact ⟨⟨Z,F,λ_=>False,[],us,rfl,rfl,hM,hF,λ_ h=>h,λ_ h=>h,λ_ h=>h.elim,by simp only [SR],hc⟩,Kept.refl _⟩
 |.undef,cs,rest,us,x,m,m',Z,F,hM,hF,hc,h=>by
  match cs,h with
  |c::cs,h =>
   simp only [Sh.get,Option.some.injEq,Prod.mk.injEq] at h;obtain ⟨_,rfl,rfl⟩:=h;obtain ⟨v,us',rfl,h1,h2⟩:=hc.cons_inv;exact ⟨⟨Z,F,λ_=>False,[v],us',rfl,rfl,hM,hF,λ_ h=>h,λ_ h=>h,λ_ h=>h.elim,by simp only [SR,List.length_singleton],h2⟩,Kept.refl _⟩
 |.sb p,cs,rest,us,x,m,m',Z,F,hM,hF,hc,h=>by
  match cs,h with
  |.ptr r 0::cs,h =>
   simp only [Sh.get] at h;obtain ⟨v,us',rfl,⟨ℓ,b,m1,m2,rfl⟩,h2⟩:=hc.cons_inv;split at h
   case h_2=>cases h
   rename_i q xs hr;split at h
   case h_2=>cases h
   rename_i hq _;subst hq;simp only [Option.some.injEq,Prod.mk.injEq] at h;obtain ⟨rfl,rfl,rfl⟩:=h;obtain ⟨ℓ',h5,b',h6,h7,h8⟩:=hM.rt r _ hr (by simp);rw [m1] at h5;cases h5;rw [m2] at h6;cases h6;obtain ⟨t1,t2⟩:=take_root hM hF hr m1 rfl;have hOff:∀ b,ℓ.S b->¬ F b:=λb hb hf=>hF.off b r hf ⟨_,ℓ,hr,rfl,m1,hb⟩;refine ⟨⟨Z,_,ℓ.S,[_],us',rfl,rfl,t1,t2,λ_ h=>h,λ_ h=>.inl h,λb hb=>⟨.inr hb,hOff b hb⟩,?_,h2⟩,Kept.setDead⟩;simp only [SR];exact ⟨b,by rw [h7],h8⟩
 |.opq,cs,rest,us,x,m,m',Z,F,hM,hF,hc,h=>by
  match cs,h with
  |c::cs,h =>
   simp only [Sh.get] at h;split at h
   case h_2=>cases h
   rename_i hu;simp only [Option.some.injEq,Prod.mk.injEq] at h;obtain ⟨_,rfl,rfl⟩:=h;obtain ⟨v,us',rfl,h1,h2⟩:=hc.cons_inv;exact ⟨⟨Z,F,λ_=>False,[v],us',rfl,rfl,hM,hF,λ_ h=>h,λ_ h=>h,λ_ h=>h.elim,by simp only [SR];exact ⟨v,rfl,h1.one hu⟩,h2⟩,Kept.refl _⟩
 |.err,cs,rest,us,x,m,m',Z,F,hM,hF,hc,h=>by
  match cs,h with
  |.err b::cs,h =>
   simp only [Sh.get,Option.some.injEq,Prod.mk.injEq] at h;obtain ⟨rfl,rfl,rfl⟩:=h;obtain ⟨v,us',rfl,h1,h2⟩:=hc.cons_inv;exact ⟨⟨Z,F,λ_=>False,[v],us',rfl,rfl,hM,hF,λ_ h=>h,λ_ h=>h,λ_ h=>h.elim,by simp only [SR];exact ⟨v,rfl,h1⟩,h2⟩,Kept.refl _⟩
 |.nilp,cs,rest,us,x,m,m',Z,F,hM,hF,hc,h=>by
  match cs,h with
  |.nilp::cs,h =>
   simp only [Sh.get,Option.some.injEq,Prod.mk.injEq] at h;obtain ⟨_,rfl,rfl⟩:=h;obtain ⟨v,us',rfl,h1,h2⟩:=hc.cons_inv
   exact ⟨⟨Z,F,λ_=>False,[v],us',rfl,rfl,hM,hF,λ_ h=>h,λ_ h=>h,λ_ h=>h.elim,by simp only [SR];rw [show v=_ from h1],h2⟩,Kept.refl _⟩
 |.nilz,cs,rest,us,x,m,m',Z,F,hM,hF,hc,h=>by
  match cs,h with
  |.nils::cs,h =>
   simp only [Sh.get,Option.some.injEq,Prod.mk.injEq] at h;obtain ⟨_,rfl,rfl⟩:=h;obtain ⟨v,us',rfl,h1,h2⟩:=hc.cons_inv
   exact ⟨⟨Z,F,λ_=>False,[v],us',rfl,rfl,hM,hF,λ_ h=>h,λ_ h=>h,λ_ h=>h.elim,by simp only [SR];rw [show v=_ from h1],h2⟩,Kept.refl _⟩
 |.frz t,cs,rest,us,x,m,m',Z,F,hM,hF,hc,h=>by
  simp only [Sh.get] at h;split at h
  case h_2=>cases h
  rename_i y cs' hrd;split at h
  case h_2=>cases h
  rename_i m1 hfz;simp only [Option.some.injEq,Prod.mk.injEq] at h;obtain ⟨rfl,rfl,rfl⟩:=h;obtain ⟨pre,rfl,hl,hrd'⟩:=rdBy_pre t hrd;obtain ⟨us1,us2,rfl,c1,c2⟩:=CRs.split hc;rw [<- hl,List.take_left] at hfz;obtain ⟨Z',g1,g2,g3,g4,g5⟩:=freezeM_spec hM hF c1 hfz;obtain ⟨pre',us3,us4,e1,e2,e3,e4,e5⟩:=rdBy_spec (w:=w) (Z:=Z) (w':=w) (Z':=Z') (μ:=μ) t (cs:=pre) (us:=us1) (λe c v xs hm hcv hl=>g5 c hm v hcv e xs hl) c1 hrd';have:=e5.nil_inv;subst this;rw [List.append_nil] at e1;subst e1;exact ⟨⟨Z',F,λ_=>False,us1,us2,rfl,by rw [e4.length];rfl,g1,g2,g3,λ_ h=>h,λ_ h=>h.elim,by simp only [SR];exact e4,c2.up g3⟩,g4⟩
 |.own s,cs,rest,us,x,m,m',Z,F,hM,hF,hc,h=>by
  match cs,h with
  |.nils::cs,h =>
   simp only [Sh.get,Option.some.injEq,Prod.mk.injEq] at h;obtain ⟨rfl,rfl,rfl⟩:=h;obtain ⟨v,us',rfl,h1,h2⟩:=hc.cons_inv;refine ⟨⟨Z,F,λ_=>False,[v],us',rfl,rfl,hM,hF,λ_ h=>h,λ_ h=>h,λ_ h=>h.elim,?_,h2⟩,Kept.refl _⟩;simp only [SR]
   exact ⟨⟨none,0,s.cells,0,0,λ_=>False,none⟩,by rw [show v=_ from h1];rfl,λ_ h=>h.elim,rfl,rfl,by simp,by simp [lenOkS],rfl,rfl,rfl⟩
  |.ref r wd::cs,h =>
   simp only [Sh.get] at h;obtain ⟨v,us',rfl,⟨ℓ,m1,m2⟩,h2⟩:=hc.cons_inv;split at h
   case h_2=>cases h
   rename_i s' xs foc hr;split at h
   case h_2=>cases h
   rename_i _ he _ _;subst he;obtain ⟨ℓ',h5,h6,h7⟩:=hM.rt r _ hr (by simp);rw [m1] at h5;cases h5;obtain ⟨t1,t2⟩:=take_root hM hF hr m1 rfl;have hOff:∀ b,ℓ.S b->¬ F b:=λb hb hf=>hF.off b r hf ⟨_,ℓ,hr,rfl,m1,hb⟩;split at h
   ·simp only [Option.some.injEq,Prod.mk.injEq] at h;obtain ⟨rfl,rfl,rfl⟩:=h;obtain ⟨n,n1,n2,n3⟩:=ArrR.win (lok':=lenOkS s' (wd.of (xs:List s'.den)).length) (R:=λus x S=>SR w Z B.Y s' us x S) h7 m2 (λhl=>lenOkS_mono h7.2.2.2.1 hl);refine ⟨⟨Z,_,ℓ.S,[v],us',rfl,rfl,t1,t2,λ_ h=>h,λ_ h=>.inl h,λb hb=>⟨.inr hb,hOff b hb⟩,?_,h2⟩,Kept.setDead⟩;simp only [SR];exact ⟨n,by rw [n3],by rw [n1];exact λ_ h=>h,n2⟩
   ·rename_i f;split at h
    case h_2=>cases h
    rename_i y m2' hy;simp only [Option.some.injEq,Prod.mk.injEq] at h;obtain ⟨rfl,rfl,rfl⟩:=h;have hi:=h6 f rfl;have h7':=h7;obtain ⟨q1,q2,q3,q4,q0,q5⟩:=h7
    cases hb:ℓ.blk with
    |none=>rw [hb] at q5;obtain ⟨rfl,_⟩:=q5;simp at hi
    |some b =>
     rw [hb] at q5;obtain ⟨k1,k2,N,k3,k4,k5⟩:=q5;obtain ⟨wf,j1,j2,j3⟩:=k5 f.i hi;simp only [ElR,if_true] at j3;obtain ⟨⟨Z',F',S1,us1,us2,e1,e2,e3,e4,e5,e6,e7,e8,e9⟩,ek⟩:=get_sound s' t1 t2 j3 hy;have:=e9.nil_inv;subst this;rw [List.append_nil] at e1;subst e1
     have key:ArrR w s'.cells ((xs:List s'.den).set f.i y) (lenOkS s' xs.length) (λ_ us x S=>SR w Z' B.Y s' us x S) { ℓ with S:=λd=>ℓ.S d\/S1 d }:=by
      refine h7'.putBack (R':=λus x S=>SR w Z' B.Y s' us x S) hi (λd hd hS=>(e7 d hd).2 (.inr hS)) (λb' hb'=>?_) λj us S hj hji hR=>?_
      ·rw [hb] at hb';cases hb';exact ⟨wf,j1,j2,e8⟩
      ·simp only [ElR,if_neg (Ne.symm hji)] at hR;exact hR.up e5
     obtain ⟨n,n1,n2,n3⟩:=ArrR.win (lok':=lenOkS s' (wd.of ((xs:List s'.den).set f.i y)).length) (R:=λus x S=>SR w Z' B.Y s' us x S) key (show SlR { ℓ with S:=λd=>ℓ.S d\/S1 d } wd v from m2.withS) (λhl=>lenOkS_mono q4 (by simpa using hl))
     refine ⟨⟨Z',F',λd=>ℓ.S d\/S1 d,[v],us',rfl,rfl,e3,e4,e5,λb hb=>e6 b (.inl hb),λd hd=>?_,?_,h2.up e5⟩,Kept.setDead.trans ek⟩
     ·rcases hd with hd|hd
      ·exact ⟨e6 d (.inr hd),hOff d hd⟩
      ·exact ⟨(e7 d hd).1,λhf=>(e7 d hd).2 (.inl hf)⟩
     ·simp only [SR];exact ⟨n,by rw [n3],by rw [n1];exact λ_ h=>h,n2⟩
 |.map n s,cs,rest,us,x,m,m',Z,F,hM,hF,hc,h=>by
  match cs,h with
  |.mp r::cs,h =>
   simp only [Sh.get] at h;obtain ⟨v,us',rfl,⟨ℓ,b,m1,m2,rfl⟩,h2⟩:=hc.cons_inv;split at h
   case h_2=>cases h
   rename_i n' s' xs foc hr;split at h
   case h_2=>cases h
   rename_i _ _ hn he _ _;subst hn;subst he;obtain ⟨ℓ',h5,h6,b',h7,h8⟩:=hM.rt r _ hr (by simp);rw [m1] at h5;cases h5;rw [m2] at h7;cases h7;obtain ⟨t1,t2⟩:=take_root hM hF hr m1 rfl;have hOff:∀ b,ℓ.S b->¬ F b:=λb hb hf=>hF.off b r hf ⟨_,ℓ,hr,rfl,m1,hb⟩;split at h
   ·simp only [Option.some.injEq,Prod.mk.injEq] at h;obtain ⟨rfl,rfl,rfl⟩:=h;refine ⟨⟨Z,_,ℓ.S,[_],us',rfl,rfl,t1,t2,λ_ h=>h,λ_ h=>.inl h,λb hb=>⟨.inr hb,hOff b hb⟩,?_,h2⟩,Kept.setDead⟩;simp only [SR];exact ⟨b,rfl,h8⟩
   ·rename_i f;split at h
    case h_2=>cases h
    rename_i y m2' hy;simp only [Option.some.injEq,Prod.mk.injEq] at h;obtain ⟨rfl,rfl,rfl⟩:=h;have hi:=h6 f rfl;have h8':=h8;obtain ⟨q0,es,clock,q1,q2,q3,q4,q5,q6,N,q7,q8,q9⟩:=h8;obtain ⟨_,j3⟩:=q9 f.i hi (by omega);simp only [EnR,ElR,if_true] at j3;obtain ⟨⟨Z',F',S1,us1,us2,e1,e2,e3,e4,e5,e6,e7,e8,e9⟩,ek⟩:=get_sound s' t1 t2 j3 hy;have:=e9.nil_inv;subst this;rw [List.append_nil] at e1;subst e1;refine ⟨⟨Z',F',λd=>ℓ.S d\/S1 d,[_],us',rfl,rfl,e3,e4,e5,λb hb=>e6 b (.inl hb),λd hd=>?_,?_,h2.up e5⟩,Kept.setDead.trans ek⟩
    ·rcases hd with hd|hd
     ·exact ⟨e6 d (.inr hd),hOff d hd⟩
     ·exact ⟨(e7 d hd).1,λhf=>(e7 d hd).2 (.inl hf)⟩
    ·simp only [SR];refine ⟨b,rfl,h8'.putBack (λd hd hS=>(e7 d hd).2 (.inr hS)) (λes' clock' hes h=>?_) λj us x T hj hR=>?_⟩
     ·rw [q1] at hes;cases hes;exact e8
     ·simp only [EnR,ElR,if_neg (Ne.symm hj)] at hR;exact hR.up e5
 |.box s,cs,rest,us,x,m,m',Z,F,hM,hF,hc,h=>by
  match cs,h with
  |.ptr r 0::cs,h =>
   simp only [Sh.get] at h;obtain ⟨v,us',rfl,⟨ℓ,b,m1,m2,rfl⟩,h2⟩:=hc.cons_inv;split at h
   case h_2=>cases h
   rename_i bs hr;split at h
   case h_2=>cases h
   rename_i y m2' hy;simp only [Option.some.injEq,Prod.mk.injEq] at h;obtain ⟨rfl,rfl,rfl⟩:=h;obtain ⟨ℓ',h5,b',h6,h7,h8,ws,h9,h10⟩:=hM.rt r _ hr (by simp);rw [m1] at h5;cases h5;rw [m2] at h6;cases h6;obtain ⟨t1,t2⟩:=take_root hM hF hr m1 rfl;have hOff:∀ b,ℓ.S b->¬ F b:=λb hb hf=>hF.off b r hf ⟨_,ℓ,hr,rfl,m1,hb⟩;obtain ⟨⟨Z',F',S1,us1,us2,e1,e2,e3,e4,e5,e6,e7,e8,e9⟩,ek⟩:=get_sound s t1 t2 h10 hy;have:=e9.nil_inv;subst this;rw [List.append_nil] at e1;subst e1;refine ⟨⟨Z',F',λd=>d=b\/S1 d,[_],us',rfl,rfl,e3,e4,e5,λb hb=>e6 b (.inl hb),λd hd=>?_,?_,h2.up e5⟩,Kept.setDead.trans ek⟩
   ·rcases hd with rfl|hd
    ·exact ⟨e6 d (.inr h7),hOff d h7⟩
    ·exact ⟨(e7 d hd).1,λhf=>(e7 d hd).2 (.inl hf)⟩
   ·simp only [SR];refine ⟨b,_,ws,S1,rfl,.inl rfl,?_,e2,h9,λd hd=>⟨.inr hd,?_⟩,e8⟩
    ·have e:s.cells=bs.length:=by rw [<- e2,h10.1]
     rw [e];exact h8
    ·rintro rfl;exact (e7 d hd).2 (.inr h7)
 |.clo f s,cs,rest,us,x,m,m',Z,F,hM,hF,hc,h=>by
  match cs,h with
  |.fn g caps::cs,h =>
   simp only [Sh.get] at h;split at h
   case h_2=>cases h
   rename_i y m2' hfg hy;simp only [Option.some.injEq,Prod.mk.injEq] at h;obtain ⟨rfl,rfl,rfl⟩:=h;obtain ⟨v,us',rfl,⟨vs,rfl,h4,h5⟩,h2⟩:=hc.cons_inv;obtain ⟨⟨Z',F',S1,us1,us2,e1,e2,e3,e4,e5,e6,e7,e8,e9⟩,ek⟩:=get_sound s hM hF (CRs.caps h4 h5) hy;have:=e9.nil_inv;subst this;rw [List.append_nil] at e1;subst e1;simp only [Bool.and_eq_true,beq_iff_eq] at hfg;obtain ⟨hfg,hcp⟩:=hfg;subst hfg;refine ⟨⟨Z',F',S1,[_],us',rfl,rfl,e3,e4,e5,e6,e7,?_,h2.up e5⟩,ek⟩;simp only [SR];exact ⟨hcp,vs,rfl,e8⟩
 |.seq a b,cs,rest,us,x,m,m',Z,F,hM,hF,hc,h=>by
  simp only [Sh.get] at h;split at h
  case h_2=>cases h
  rename_i y cs1 m1 ha;split at h
  case h_2=>cases h
  rename_i z cs2 m2 hb;simp only [Option.some.injEq,Prod.mk.injEq] at h;obtain ⟨rfl,rfl,rfl⟩:=h;obtain ⟨⟨Z1,F1,S1,us1,us2,rfl,e2,e3,e4,e5,e6,e7,e8,e9⟩,ek⟩:=get_sound a hM hF hc ha;obtain ⟨⟨Z2,F2,S2,us3,us4,rfl,g2,g3,g4,g5,g6,g7,g8,g9⟩,gk⟩:=get_sound b e3 e4 e9 hb;refine ⟨⟨Z2,F2,λd=>S1 d\/S2 d,us1++us3,us4,by simp,by simp [Sh.cells,e2,g2],g3,g4,λb hb=>g5 b (e5 b hb),λb hb=>g6 b (e6 b hb),λd hd=>?_,?_,g9⟩,ek.trans gk⟩
  ·rcases hd with hd|hd
   ·exact ⟨g6 d (e7 d hd).1,(e7 d hd).2⟩
   ·exact ⟨(g7 d hd).1,λhf=>(g7 d hd).2 (e6 d hf)⟩
  ·simp only [SR];exact ⟨us1,us3,S1,S2,rfl,λ_ h=>.inl h,λ_ h=>.inr h,λd h1 h2=>(g7 d h2).2 (e7 d h1).1,e8.up g5,g8⟩
 |.bor s,cs,rest,us,x,m,m',Z,F,hM,hF,hc,h=>by
  simp only [Sh.get] at h;split at h
  case h_2=>cases h
  rename_i y cs1 ha;simp only [Option.some.injEq,Prod.mk.injEq] at h;obtain ⟨rfl,rfl,rfl⟩:=h;obtain ⟨us1,us2,e1,e2,e3,e4⟩:=getB_spec (st:=true) (V:=λb=>B.Y b\/Z b) hM (λ_ h=>h) (by simp) s hc ha;exact ⟨⟨Z,F,λ_=>False,us1,us2,e1,e2,hM,hF,λ_ h=>h,λ_ h=>h,λ_ h=>h.elim,by simp only [SR];exact e3,e4⟩,Kept.refl _⟩
end
end Go.Mach

namespace Go.Mach
section
variable {B:Base}{w:World}
def Free(m:Mem)(μ:Locs)(n:Nat):Prop:=∀ k,k < n->μ (m.cur+k)=none/\m.roots[m.cur+k]?=some .dead
structure Grow (m m':Mem) (μ μ':Locs) (n:Nat):Prop where
 len:m'.roots.length=m.roots.length
 cur:m'.cur=m.cur+n
 dR:m'.dR=m.dR
 ext:ExtL μ μ'
 old:∀ r,(r < m.cur\/m.cur+n<=r)->μ' r=μ r/\m'.roots[r]?=m.roots[r]?
theorem Grow.refl(m:Mem)(μ:Locs):Grow m m μ μ 0:=⟨rfl,rfl,rfl,ExtL.refl μ,λ_ _=>⟨rfl,rfl⟩⟩
theorem Grow.trans{m m' m'':Mem}{μ μ' μ'':Locs}{a b:Nat}(h:Grow m m' μ μ' a)(h':Grow m' m'' μ' μ'' b):Grow m m'' μ μ'' (a+b):=by
 refine ⟨h'.len.trans h.len,by rw [h'.cur,h.cur,Nat.add_assoc],h'.dR.trans h.dR,h.ext.trans h'.ext,λr hr=>?_⟩;obtain ⟨h1,h2⟩:=h.old r (by omega);obtain ⟨h3,h4⟩:=h'.old r (by have:=h.cur;omega);exact ⟨h3.trans h1,h4.trans h2⟩
theorem Free.left{m:Mem}{μ:Locs}{a b:Nat}(h:Free m μ (a+b)):Free m μ a:=λk hk=>h k (by omega)
theorem Free.mono{m:Mem}{μ:Locs}{a b:Nat}(h:Free m μ b)(hab:a<=b):Free m μ a:=λk hk=>h k (by omega)
theorem Free.right{m m':Mem}{μ μ':Locs}{a b:Nat}(h:Free m μ (a+b))(hg:Grow m m' μ μ' a):Free m' μ' b:=λk hk=>by
 obtain ⟨h1,h2⟩:=h (a+k) (by omega);obtain ⟨h3,h4⟩:=hg.old (m.cur+(a+k)) (by omega);rw [hg.cur,Nat.add_assoc,h3,h4];exact ⟨h1,h2⟩
theorem Grow.push{m:Mem}{μ:Locs}{ℓ:Loc}{x:Root}(hf:Free m μ 1):Grow m (m.push x) μ (μ.set m.cur ℓ) 1:=by
 obtain ⟨h1,h2⟩:=hf 0 (by omega);rw [Nat.add_zero] at h1 h2;refine ⟨by simp [Mem.push],rfl,rfl,ExtL.set h1,λr hr=>⟨Locs.set_ne _ _ (by omega),?_⟩⟩;simp only [Mem.push];rw [List.getElem?_set_ne (by omega)]
def Made(B:Base)(m m':Mem)(w:World)(Z:Nat->Prop)(μ:Locs)(F':Nat->Prop)(n:Nat)(cs:List C)(us:List Value):Prop :=
 ∃ μ',MemOk B m' w Z μ'/\Loose B m' w Z μ' F'/\CRs w Z μ' cs us/\Grow m m' μ μ' n
def allPtr(cs:List C):Prop:=∀ c∈cs,∃ r,c=.ptr r 0
theorem CRs.fn{Z:Nat->Prop}{μ:Locs}{cs:List C}{vs:List Value}{f:FuncId}(h:CRs w Z μ cs vs)(hp:allPtr cs):CRs w Z μ [.fn f (cs.map C.cap)] [.func (.func f) #[] vs.toArray]:=by
 refine CRs.mk1 ⟨vs,rfl,by simp [h.1],λk h1 h2=>?_⟩;simp only [List.getElem_map]
 have h3:k < cs.length:=by simpa using h1
 obtain ⟨r,hr⟩:=hp cs[k] (List.getElem_mem _);have h4:=h.2 k h3 h2;rw [hr] at h4 ⊢;exact h4
theorem mkB_sound:∀ (s:Sh){us:List Value}{x:s.den}{m:Mem}{Z F:Nat->Prop}{μ:Locs},MemOk B m w Z μ->Loose B m w Z μ F->Free m μ s.news->BR w Z (λb=>B.Y b\/Z b) s us x ->
  Made B m (s.mkB x m).2 w Z μ F s.news (s.mkB x m).1 us/\(s.caps=true->allPtr (s.mkB x m).1)
 |.nil,us,x,m,Z,F,μ,hM,hF,hf,h=>by
  simp only [BR] at h;subst h;exact ⟨⟨μ,hM,hF,CRs.nil,Grow.refl m μ⟩,λ_ c hc=>by simp [Sh.mkB] at hc⟩
 |.undef,us,x,m,Z,F,μ,hM,hF,hf,h=>by
  simp only [BR] at h
  match us,h with
  |[v],_=>exact ⟨⟨μ,hM,hF,CRs.mk1 trivial,Grow.refl m μ⟩,λh=>by simp [Sh.caps] at h⟩
 |.sb p,us,xs,m,Z,F,μ,hM,hF,hf,h=>by
  simp only [BR] at h;obtain ⟨f1,f2⟩:=hf 0 (by simp [Sh.news]);rw [Nat.add_zero] at f1 f2;obtain ⟨g1,g2⟩:=make_root (x:=.dead) (ℓ:=⟨none,0,0,0,0,λ_=>False,none⟩) hM hF f2 f1 trivial (λh=>by simp [Root.owns] at h)
  match us,h with
  |[v],_ =>
   refine ⟨⟨_,g1,g2.grow λb hb=>⟨hb,λh=>by simp [Root.owns] at h⟩,CRs.mk1 trivial,Grow.push (λk hk=>by
    have:k=0:=by omega
    subst this;exact ⟨f1,f2⟩)⟩,λh=>by simp [Sh.caps] at h⟩
 |.opq,us,x,m,Z,F,μ,hM,hF,hf,h=>by
  simp only [BR] at h;obtain ⟨v,rfl,h⟩:=h;exact ⟨⟨μ,hM,hF,CRs.mk1 h,Grow.refl m μ⟩,λh=>by simp [Sh.caps] at h⟩
 |.err,us,x,m,Z,F,μ,hM,hF,hf,h=>by
  simp only [BR] at h;obtain ⟨v,rfl,h⟩:=h;exact ⟨⟨μ,hM,hF,CRs.mk1 h,Grow.refl m μ⟩,λh=>by simp [Sh.caps] at h⟩
 |.nilp,us,x,m,Z,F,μ,hM,hF,hf,h=>by
  simp only [BR] at h;subst h;exact ⟨⟨μ,hM,hF,CRs.mk1 rfl,Grow.refl m μ⟩,λh=>by simp [Sh.caps] at h⟩
 |.nilz,us,x,m,Z,F,μ,hM,hF,hf,h=>by
  simp only [BR] at h;subst h;exact ⟨⟨μ,hM,hF,CRs.mk1 rfl,Grow.refl m μ⟩,λh=>by simp [Sh.caps] at h⟩
 |.frz t,us,x,m,Z,F,μ,hM,hF,hf,h=>⟨⟨μ,hM,hF,Frz.flat (show Frz w Z t us x from h),Grow.refl m μ⟩,λh=>by simp [Sh.caps] at h⟩
 |.map n s,us,xs,m,Z,F,μ,hM,hF,hf,h=>by
  simp only [BR] at h;obtain ⟨b,rfl,_⟩:=h;obtain ⟨f1,f2⟩:=hf 0 (by simp [Sh.news]);rw [Nat.add_zero] at f1 f2;obtain ⟨g1,g2⟩:=make_root (x:=.dead) (ℓ:=⟨none,0,0,0,0,λ_=>False,none⟩) hM hF f2 f1 trivial (λh=>by simp [Root.owns] at h)
  refine ⟨⟨_,g1,g2.grow λb hb=>⟨hb,λh=>by simp [Root.owns] at h⟩,CRs.mk1 trivial,Grow.push (λk hk=>by
   have:k=0:=by omega
   subst this;exact ⟨f1,f2⟩)⟩,λh=>by simp [Sh.caps] at h⟩
 |.own s,us,xs,m,Z,F,μ,hM,hF,hf,h=>by
  simp only [BR] at h;obtain ⟨a,cap,rfl,h2,h3,h4⟩:=h;obtain ⟨f1,f2⟩:=hf 0 (by simp [Sh.news]);rw [Nat.add_zero] at f1 f2
  have key:∃ ℓ:Loc,ℓ.addr 0=a/\ℓ.len=xs.length/\ℓ.cap=cap/\RdR w s.cells xs (lenOkS s xs.length) (λb=>B.Y b\/Z b) (λus x=>BR w Z (λb=>B.Y b\/Z b) s us x) ℓ:=by
   rcases h4 with h4|⟨b,o,rfl,h5,h6⟩
   ·refine ⟨⟨none,0,s.cells,xs.length,cap,λ_=>False,a⟩,?_,rfl,rfl,rfl,rfl,h2,h3,.inr h4,h4⟩
    cases a with
    |none=>rfl
    |some a=>simp [Loc.addr,Addr.add]
   ·exact ⟨⟨some b,o,s.cells,xs.length,cap,λ_=>False,none⟩,by simp [Loc.addr],rfl,rfl,rfl,rfl,h2,h3,.inl rfl,.inr h5,h6⟩
  obtain ⟨ℓ,e1,e2,e3,e4⟩:=key;obtain ⟨g1,g2⟩:=make_root (x:=.bor s xs) (ℓ:=ℓ) hM hF f2 f1 e4 (λh=>by simp [Root.owns] at h)
  refine ⟨⟨_,g1,g2.grow λb hb=>⟨hb,λh=>by simp [Root.owns] at h⟩,CRs.mk1 ⟨ℓ,Locs.set_at _ _ _,?_⟩,Grow.push (λk hk=>by
   have:k=0:=by omega
   subst this;exact ⟨f1,f2⟩)⟩,λh=>by simp [Sh.caps] at h⟩
  show _=_;rw [e1,e2,e3]
 |.box s,us,x,m,Z,F,μ,hM,hF,hf,h=>by
  simp only [BR] at h;obtain ⟨b,o,us',rfl,h2,h3,h4,h5⟩:=h;obtain ⟨⟨μ1,m1,m2,m3,m4⟩,_⟩:=mkB_sound s hM hF (Free.left (b:=1) hf) h5;have hf1:=Free.right (b:=1) hf m4;obtain ⟨f1,f2⟩:=hf1 0 (by omega);rw [Nat.add_zero] at f1 f2;obtain ⟨g1,g2⟩:=make_root (x:=.bbox (s.mkB x m).1) (ℓ:=⟨some b,o,0,0,0,λ_=>False,none⟩) m1 m2 f2 f1 ⟨b,rfl,h2,us',h4,m3.mono (SameOn.refl _ _) (λ_ h=>h) (ExtL.set f1)⟩ (λh=>by simp [Root.owns] at h);refine ⟨⟨_,g1,g2.grow λb hb=>⟨hb,λh=>by simp [Root.owns] at h⟩,CRs.mk1 ⟨_,b,Locs.set_at _ _ _,rfl,rfl⟩,m4.trans (Grow.push hf1)⟩,λ_ c hc=>?_⟩;simp only [Sh.mkB,List.mem_singleton] at hc;exact ⟨_,hc⟩
 |.clo f s,us,x,m,Z,F,μ,hM,hF,hf,h=>by
  simp only [BR] at h;obtain ⟨h0,vs,rfl,h2⟩:=h;obtain ⟨⟨μ1,m1,m2,m3,m4⟩,m5⟩:=mkB_sound s hM hF hf h2;exact ⟨⟨μ1,m1,m2,m3.fn (m5 h0),m4⟩,λh=>by simp [Sh.caps] at h⟩
 |.seq a b,us,x,m,Z,F,μ,hM,hF,hf,h=>by
  simp only [BR] at h;obtain ⟨u1,u2,rfl,h2,h3⟩:=h;obtain ⟨⟨μ1,m1,m2,m3,m4⟩,m5⟩:=mkB_sound a hM hF hf.left h2;obtain ⟨⟨μ2,n1,n2,n3,n4⟩,n5⟩:=mkB_sound b m1 m2 (hf.right m4) h3;refine ⟨⟨μ2,n1,n2,(m3.mono (SameOn.refl _ _) (λ_ h=>h) n4.ext).append n3,m4.trans n4⟩,λhc c hm=>?_⟩;simp only [Sh.caps,Bool.and_eq_true] at hc;simp only [Sh.mkB,List.mem_append] at hm;exact hm.elim (m5 hc.1 c) (n5 hc.2 c)
 |.bor s,us,x,m,Z,F,μ,hM,hF,hf,h=>by
  simp only [BR] at h;exact mkB_sound s hM hF hf h
theorem mk_sound:∀ (s:Sh){us:List Value}{x:s.den}{m:Mem}{Z F S:Nat->Prop}{μ:Locs},MemOk B m w Z μ->Loose B m w Z μ F->Free m μ s.news->SR w Z B.Y s us x S->(∀ b,S b->F b) ->
  Made B m (s.mk x m).2 w Z μ (λb=>F b/\¬ S b) s.news (s.mk x m).1 us/\(s.caps=true->allPtr (s.mk x m).1)
 |.nil,us,x,m,Z,F,S,μ,hM,hF,hf,h,hS=>by
  simp only [SR] at h;subst h;exact ⟨⟨μ,hM,hF.grow λb hb=>hb.1,CRs.nil,Grow.refl m μ⟩,λ_ c hc=>by simp [Sh.mk] at hc⟩
 |.undef,us,x,m,Z,F,S,μ,hM,hF,hf,h,hS=>by
  simp only [SR] at h
  match us,h with
  |[v],_=>exact ⟨⟨μ,hM,hF.grow λb hb=>hb.1,CRs.mk1 trivial,Grow.refl m μ⟩,λh=>by simp [Sh.caps] at h⟩
 |.sb p,us,xs,m,Z,F,S,μ,hM,hF,hf,h,hS=>by
  simp only [SR] at h;obtain ⟨b,rfl,h2⟩:=h;obtain ⟨f1,f2⟩:=hf 0 (by simp [Sh.news]);rw [Nat.add_zero] at f1 f2;obtain ⟨g1,g2⟩:=make_root (x:=.sb p xs) (ℓ:=⟨some b,0,0,0,0,S,none⟩) hM hF f2 f1 ⟨b,rfl,rfl,h2⟩ (λ_ b hb=>hS b hb)
  refine ⟨⟨_,g1,g2.grow λb hb=>⟨hb.1,λ_ h=>hb.2 h⟩,CRs.mk1 ⟨_,b,Locs.set_at _ _ _,rfl,rfl⟩,Grow.push (λk hk=>by
   have:k=0:=by omega
   subst this;exact ⟨f1,f2⟩)⟩,λh=>by simp [Sh.caps] at h⟩
 |.opq,us,x,m,Z,F,S,μ,hM,hF,hf,h,hS=>by
  simp only [SR] at h;obtain ⟨v,rfl,h⟩:=h;exact ⟨⟨μ,hM,hF.grow λb hb=>hb.1,CRs.mk1 h,Grow.refl m μ⟩,λh=>by simp [Sh.caps] at h⟩
 |.err,us,x,m,Z,F,S,μ,hM,hF,hf,h,hS=>by
  simp only [SR] at h;obtain ⟨v,rfl,h⟩:=h;exact ⟨⟨μ,hM,hF.grow λb hb=>hb.1,CRs.mk1 h,Grow.refl m μ⟩,λh=>by simp [Sh.caps] at h⟩
 |.nilp,us,x,m,Z,F,S,μ,hM,hF,hf,h,hS=>by
  simp only [SR] at h;subst h;exact ⟨⟨μ,hM,hF.grow λb hb=>hb.1,CRs.mk1 rfl,Grow.refl m μ⟩,λh=>by simp [Sh.caps] at h⟩
 |.nilz,us,x,m,Z,F,S,μ,hM,hF,hf,h,hS=>by
  simp only [SR] at h;subst h;exact ⟨⟨μ,hM,hF.grow λb hb=>hb.1,CRs.mk1 rfl,Grow.refl m μ⟩,λh=>by simp [Sh.caps] at h⟩
 |.frz t,us,x,m,Z,F,S,μ,hM,hF,hf,h,hS=>⟨⟨μ,hM,hF.grow λb hb=>hb.1,Frz.flat (show Frz w Z t us x from h),Grow.refl m μ⟩,λh=>by simp [Sh.caps] at h⟩
 |.map n s,us,xs,m,Z,F,S,μ,hM,hF,hf,h,hS=>by
  simp only [SR] at h;obtain ⟨b,rfl,h2⟩:=h;obtain ⟨f1,f2⟩:=hf 0 (by simp [Sh.news]);rw [Nat.add_zero] at f1 f2;obtain ⟨g1,g2⟩:=make_root (x:=.mapr n s xs none) (ℓ:=⟨some b,0,0,0,0,S,none⟩) hM hF f2 f1 ⟨(λf hf=>by cases hf),b,rfl,h2⟩ (λ_ b hb=>hS b hb)
  refine ⟨⟨_,g1,g2.grow λb hb=>⟨hb.1,λ_ h=>hb.2 h⟩,CRs.mk1 ⟨_,b,Locs.set_at _ _ _,rfl,rfl⟩,Grow.push (λk hk=>by
   have:k=0:=by omega
   subst this;exact ⟨f1,f2⟩)⟩,λh=>by simp [Sh.caps] at h⟩
 |.own s,us,xs,m,Z,F,S,μ,hM,hF,hf,h,hS=>by
  simp only [SR] at h;obtain ⟨ℓ,rfl,h2,h3⟩:=h;obtain ⟨f1,f2⟩:=hf 0 (by simp [Sh.news]);rw [Nat.add_zero] at f1 f2;obtain ⟨g1,g2⟩:=make_root (x:=.arr s xs none) (ℓ:=ℓ) hM hF f2 f1 ⟨(λf hf=>by cases hf),h3⟩ (λ_ b hb=>hS b (h2 b hb))
  refine ⟨⟨_,g1,g2.grow λb hb=>⟨hb.1,λ_ h=>hb.2 (h2 b h)⟩,CRs.mk1 ⟨ℓ,Locs.set_at _ _ _,rfl⟩,Grow.push (λk hk=>by
   have:k=0:=by omega
   subst this;exact ⟨f1,f2⟩)⟩,λh=>by simp [Sh.caps] at h⟩
 |.box s,us,x,m,Z,F,S,μ,hM,hF,hf,h,hS=>by
  simp only [SR] at h;obtain ⟨b,o,us',S',rfl,h2,h3,h4,h5,h6,h7⟩:=h;obtain ⟨⟨μ1,m1,m2,m3,m4⟩,_⟩:=mk_sound s hM hF (Free.left (b:=1) hf) h7 (λd hd=>hS d (h6 d hd).1);have hf1:=Free.right (b:=1) hf m4;obtain ⟨f1,f2⟩:=hf1 0 (by omega);rw [Nat.add_zero] at f1 f2
  have hl:(s.mk x m).1.length=s.cells:=by rw [m3.1,h4]
  obtain ⟨g1,g2⟩:=make_root (x:=.box (s.mk x m).1) (ℓ:=⟨some b,o,0,0,0,λd=>d=b,none⟩) m1 m2 f2 f1
   ⟨b,rfl,rfl,by rw [hl];exact h3,us',h5,m3.mono (SameOn.refl _ _) (λ_ h=>h) (ExtL.set f1)⟩ (λ_ d hd=>by
    have hd':d=b:=hd;subst hd'
    exact ⟨hS d h2,λhd=>(h6 d hd).2 rfl⟩)
  refine ⟨⟨_,g1,g2.grow λd hd=>⟨⟨hd.1,λh=>hd.2 (h6 d h).1⟩,λ_ (h:d=b)=>hd.2 (h▸h2)⟩,CRs.mk1 ⟨_,b,Locs.set_at _ _ _,rfl,rfl⟩,m4.trans (Grow.push hf1)⟩,λ_ c hc=>?_⟩;simp only [Sh.mk,List.mem_singleton] at hc;exact ⟨_,hc⟩
 |.clo f s,us,x,m,Z,F,S,μ,hM,hF,hf,h,hS=>by
  simp only [SR] at h;obtain ⟨h0,vs,rfl,h2⟩:=h;obtain ⟨⟨μ1,m1,m2,m3,m4⟩,m5⟩:=mk_sound s hM hF hf h2 hS;exact ⟨⟨μ1,m1,m2,m3.fn (m5 h0),m4⟩,λh=>by simp [Sh.caps] at h⟩
 |.seq a b,us,x,m,Z,F,S,μ,hM,hF,hf,h,hS=>by
  simp only [SR] at h;obtain ⟨u1,u2,S1,S2,rfl,h2,h3,h4,h5,h6⟩:=h;obtain ⟨⟨μ1,m1,m2,m3,m4⟩,m5⟩:=mk_sound a hM hF hf.left h5 (λd hd=>hS d (h2 d hd));obtain ⟨⟨μ2,n1,n2,n3,n4⟩,n5⟩:=mk_sound b m1 m2 (hf.right m4) h6 (λd hd=>⟨hS d (h3 d hd),λh=>h4 d h hd⟩);refine ⟨⟨μ2,n1,n2.grow λd hd=>⟨⟨hd.1,λh=>hd.2 (h2 d h)⟩,λh=>hd.2 (h3 d h)⟩,(m3.mono (SameOn.refl _ _) (λ_ h=>h) n4.ext).append n3,m4.trans n4⟩,λhc c hm=>?_⟩;simp only [Sh.caps,Bool.and_eq_true] at hc;simp only [Sh.mk,List.mem_append] at hm;exact hm.elim (m5 hc.1 c) (n5 hc.2 c)
 |.bor s,us,x,m,Z,F,S,μ,hM,hF,hf,h,hS=>by
  simp only [SR] at h;obtain ⟨⟨μ1,m1,m2,m3,m4⟩,m5⟩:=mkB_sound s hM hF hf h;exact ⟨⟨μ1,m1,m2.grow λb hb=>hb.1,m3,m4⟩,m5⟩
end
end Go.Mach

namespace Go.Mach
section
variable {w w':World}
theorem CellsAt.append{b o:Nat}{us vs:List Value}(h:CellsAt w b o us)(h':CellsAt w b (o+us.length) vs):CellsAt w b o (us++vs):=by
 intro k hk;by_cases h1:k < us.length
 ·rw [List.getElem_append_left h1];exact h k h1
 ·rw [List.getElem_append_right (by omega)];have:=h' (k-us.length) (by simp at hk;omega)
  rw [show o+us.length+(k-us.length)=o+k from by omega] at this
  exact this
theorem CellsAt.nil{b o:Nat}:CellsAt w b o []:=λk hk=>by simp at hk
theorem part_append_left{α:Type}{us vs:List α}{i c n:Nat}(hl:us.length=n*c)(hi:i < n):((us++vs).drop (i*c)).take c=(us.drop (i*c)).take c:=by
 have h1:(i+1)*c<=n*c:=Nat.mul_le_mul_right _ hi;rw [Nat.add_mul] at h1;rw [List.drop_append_of_le_length (by omega),List.take_append_of_le_length (by simp;omega)]
theorem part_append_right{α:Type}{us vs:List α}{i c n:Nat}(hl:us.length=n*c):((us++vs).drop ((n+i)*c)).take c=(vs.drop (i*c)).take c:=by
 rw [List.drop_append,Nat.add_mul,hl,Nat.add_sub_cancel_left,List.drop_of_length_le (by omega)];simp
theorem join_cells{b o c:Nat}:∀ (n:Nat){R:(i:Nat)->List Value->Prop},(∀ i,i < n->∃ us,us.length=c/\CellsAt w b (o+i*c) us/\R i us) ->
  ∃ us:List Value,us.length=n*c/\CellsAt w b o us/\∀ i,i < n->R i ((us.drop (i*c)).take c)
 |0,R,_=>⟨[],by simp,CellsAt.nil,λi hi=>by omega⟩
 |n+1,R,h=>by
  obtain ⟨us,h1,h2,h3⟩:=join_cells n λi hi=>h i (by omega);obtain ⟨vs,g1,g2,g3⟩:=h n (by omega);refine ⟨us++vs,by rw [List.length_append,h1,g1,Nat.add_mul,Nat.one_mul],h2.append (by rw [h1];exact g2),λi hi=>?_⟩;by_cases hin:i < n
  ·rw [part_append_left h1 hin];exact h3 i hin
  ·have:i=n:=by omega
   subst this;have e:=part_append_right (us:=us) (vs:=vs) (i:=0) h1;rw [Nat.add_zero] at e;rw [e];simp only [Nat.zero_mul,List.drop_zero];rw [List.take_of_length_le (by omega)];exact g3
theorem part_at{b o c n i:Nat}{us:List Value}(h:CellsAt w b o us)(hl:us.length=n*c)(hi:i < n):((us.drop (i*c)).take c).length=c/\CellsAt w b (o+i*c) ((us.drop (i*c)).take c):=by
 have h1:(i+1)*c<=n*c:=Nat.mul_le_mul_right _ hi;rw [Nat.add_mul] at h1;exact ⟨by simp;omega,h.sub⟩
section
variable (w:World) (Z Y:Nat->Prop)
def SeqR(s:Sh)(us:List Value)(xs:List s.den)(S:Nat->Prop):Prop :=
 us.length=xs.length*s.cells/\∃ N:Nat->Nat->Prop,(∀ i,i < xs.length->∀ d,N i d->S d)/\(∀ i j,i < xs.length->j < xs.length->i≠j->∀ d,N i d->N j d->False) /\
  ∀ i (h:i < xs.length),SR w Z Y s ((us.drop (i*s.cells)).take s.cells) xs[i] (N i)
end
variable {Z Z' Y:Nat->Prop}
theorem SeqR.nil{s:Sh}{S:Nat->Prop}:SeqR w Z Y s [] [] S:=⟨by simp,λ_ _=>False,λi hi=>by simp at hi,λi _ hi=>by simp at hi,λi hi=>by simp at hi⟩
theorem SeqR.same{s:Sh}{us:List Value}{xs:List s.den}{S:Nat->Prop}(h:SameOn (λb=>(Z b\/Y b)\/S b) w w')(hz:∀ b,Z b->Z' b)(hc:SeqR w Z Y s us xs S):SeqR w' Z' Y s us xs S:=by
 obtain ⟨h1,N,h2,h3,h4⟩:=hc;exact ⟨h1,N,h2,h3,λi hi=>(h4 i hi).same hz (λ_ h=>h) (h.mono λb hb=>hb.imp id (h2 i hi b))⟩
theorem SeqR.up{s:Sh}{us:List Value}{xs:List s.den}{S:Nat->Prop}(hz:∀ b,Z b->Z' b)(hc:SeqR w Z Y s us xs S):SeqR w Z' Y s us xs S:=hc.same (SameOn.refl _ _) hz
theorem SeqR.grow{s:Sh}{us:List Value}{xs:List s.den}{S S':Nat->Prop}(hS:∀ b,S b->S' b)(hc:SeqR w Z Y s us xs S):SeqR w Z Y s us xs S':=by
 obtain ⟨h1,N,h2,h3,h4⟩:=hc;exact ⟨h1,N,λi hi d hd=>hS d (h2 i hi d hd),h3,h4⟩
theorem SeqR.append{s:Sh}{us vs:List Value}{xs ys:List s.den}{S T:Nat->Prop}(h:SeqR w Z Y s us xs S)(h':SeqR w Z Y s vs ys T)(hd:∀ d,S d->T d->False):SeqR w Z Y s (us++vs) (xs++ys) (λd=>S d\/T d):=by
 obtain ⟨h1,N,h2,h3,h4⟩:=h;obtain ⟨g1,M,g2,g3,g4⟩:=h'
 refine ⟨by simp [h1,g1,Nat.add_mul],λi=>if i < xs.length then N i else M (i-xs.length),λi hi d hN=>?_,λi j hi hj hij d hN hM=>?_,λi hi=>?_⟩
 ·dsimp only at hN;simp only [List.length_append] at hi;split at hN
  ·rename_i h;exact .inl (h2 i h d hN)
  ·exact .inr (g2 _ (by omega) d hN)
 ·dsimp only at hN hM;simp only [List.length_append] at hi hj
  split at hN<;>split at hM
  ·rename_i a b;exact h3 i j a b hij d hN hM
  ·rename_i a b;exact hd d (h2 i a d hN) (g2 _ (by omega) d hM)
  ·rename_i a b;exact hd d (h2 j b d hM) (g2 _ (by omega) d hN)
  ·exact g3 _ _ (by omega) (by omega) (by omega) d hN hM
 ·dsimp only;simp only [List.length_append] at hi;split
  ·rename_i a;rw [part_append_left h1 a,List.getElem_append_left a];exact h4 i a
  ·rename_i a
   have e:i=xs.length+(i-xs.length):=by omega
   rw [List.getElem_append_right (by omega)];have:=part_append_right (us:=us) (vs:=vs) (i:=i-xs.length) h1;rw [<- e] at this;rw [this];exact g4 _ (by omega)
theorem part_part{α:Type}(us:List α)(a c n i:Nat)(hi:i < n):((((us.drop (a*c)).take (n*c)).drop (i*c)).take c)=(us.drop ((a+i)*c)).take c:=by
 have h1:(i+1)*c<=n*c:=Nat.mul_le_mul_right _ hi;rw [Nat.add_mul] at h1;rw [List.drop_take,List.take_take,List.drop_drop,<- Nat.add_mul,Nat.min_eq_left (by omega)]
theorem SeqR.part{s:Sh}{us:List Value}{xs:List s.den}{S:Nat->Prop}(h:SeqR w Z Y s us xs S)(a n:Nat)(ha:a+n<=xs.length):SeqR w Z Y s ((us.drop (a*s.cells)).take (n*s.cells)) ((xs.drop a).take n) S:=by
 obtain ⟨h1,N,h2,h3,h4⟩:=h
 have hn:((xs.drop a).take n).length=n:=by simp;omega
 have h5:(a+n)*s.cells<=xs.length*s.cells:=Nat.mul_le_mul_right _ ha;rw [Nat.add_mul] at h5;refine ⟨by rw [hn];simp;omega,λi=>N (a+i),λi hi d hd=>h2 _ (by omega) d hd,λi j hi hj hij d hd hd'=>h3 _ _ (by omega) (by omega) (by omega) d hd hd',λi hi=>?_⟩;rw [hn] at hi;rw [part_part _ _ _ _ _ hi];simp only [List.getElem_take,List.getElem_drop];exact h4 (a+i) (by omega)
theorem win_part{α:Type}(xs:List α)(wd:Win)(h:wd.off+wd.len xs.length<=xs.length):wd.of xs=(xs.drop wd.off).take (wd.len xs.length):=by
 cases wd with
 |full=>simp [Win.of,Win.off,Win.len]
 |sub o n=>rfl
theorem ArrR.seq{s:Sh}{xs:List s.den}{lok:Bool}{ℓ:Loc}{b:Nat}(h:ArrR w s.cells xs lok (λ_ us x S=>SR w Z Y s us x S) ℓ)(hb:ℓ.blk=some b) :
  ∃ us,CellsAt w b ℓ.base us/\SeqR w Z Y s us xs (λd=>ℓ.S d/\d≠b):=by
 obtain ⟨h1,h2,h3,h4,h0,h5⟩:=h;rw [hb] at h5;obtain ⟨h6,h7,N,h8,h9,h10⟩:=h5
 obtain ⟨us,g1,g2,g3⟩:=join_cells (w:=w) (b:=b) (o:=ℓ.base) (c:=s.cells) xs.length (R:=λi us=>∀ h:i < xs.length,SR w Z Y s us xs[i] (N i)) λi hi=>by
  obtain ⟨us,k1,k2,k3⟩:=h10 i hi;exact ⟨us,k1,by rw [<- h1];exact k2,λ_=>k3⟩
 exact ⟨us,g2,g1,N,h8,h9,λi hi=>g3 i hi hi⟩
theorem SeqR.arr{s:Sh}{us:List Value}{xs:List s.den}{S:Nat->Prop}(h:SeqR w Z Y s us xs S){b o cap:Nat}(hc:CellsAt w b o us)(hb:BlockOk w b (o+cap*s.cells))(hcap:xs.length<=cap)(hS:¬ S b)(hl:lenOkS s xs.length=true) :
  ArrR w s.cells xs (lenOkS s xs.length) (λ_ us x S=>SR w Z Y s us x S) ⟨some b,o,s.cells,xs.length,cap,λd=>d=b\/S d,none⟩:=by
 obtain ⟨h1,N,h2,h3,h4⟩:=h;refine ⟨rfl,rfl,hcap,hl,rfl,.inl rfl,hb,N,λi hi d hd=>⟨.inr (h2 i hi d hd),λe=>hS (e▸h2 i hi d hd)⟩,h3,λi hi=>?_⟩;obtain ⟨g1,g2⟩:=part_at hc h1 hi;exact ⟨_,g1,g2,h4 i hi⟩
theorem SliceR.seq{e:Ty}{V:Nat->Prop}{v:Value}{l:List e.den}(h:SliceR w e.cells V (λus x=>Frz w Z e us x) v l):∃ us,us.length=l.length*e.cells/\SeqR w Z Y (.frz e) us l (λ_=>False) /\
  ∃ a cap,v=.slice a l.length cap/\l.length<=cap/\(l=[]\/∃ b p,a=some ⟨b,p,none⟩/\V b/\CellsAt w b p us):=by
 obtain ⟨a,cap,h1,h2,h3⟩:=h;rcases h3 with rfl|⟨b,p,h4,h5,h6⟩
 ·exact ⟨[],by simp,SeqR.nil,a,cap,h1,h2,.inl rfl⟩
 ·obtain ⟨us,g1,g2,g3⟩:=join_cells (w:=w) (b:=b) (o:=p) (c:=e.cells) l.length (R:=λi us=>∀ h:i < l.length,Frz w Z e us l[i]) λi hi=>by
   obtain ⟨us,k1,k2,k3⟩:=h6 i hi;exact ⟨us,k1,k2,λ_=>k3⟩
  exact ⟨us,g1,⟨g1,λ_ _=>False,λ_ _ _ h=>h,λ_ _ _ _ _ _ h=>h.elim,λi hi=>g3 i hi hi⟩,a,cap,h1,h2,.inr ⟨b,p,h4,h5,g2⟩⟩
end
section
variable {B:Base}{m m':Mem}{w w':World}{Z:Nat->Prop}{μ:Locs}{F:Nat->Prop}
theorem world_step(h:MemOk B m w Z μ)(hF:Loose B m w Z μ F)(hw:∀ b,b < w.heap.size->¬ F b->w'.heap[b]?=w.heap[b]?)(hs:w.heap.size<=w'.heap.size)(hio:Io B.g.dr w w':=by first|exact Io.same rfl rfl rfl (.inl rfl)|exact Io.same rfl rfl rfl (.inr rfl)) :
  MemOk B m w' Z μ/\Loose B m w' Z μ (λb=>F b\/(w.heap.size<=b/\b < w'.heap.size)):=by
 have hFY:∀ b,F b->¬ B.Y b:=λb hb hy=>by
  have h1:=(hF.ok b hb).2.2;have h2:=h.lent b hy;rcases h1 with h1|h1
  ·omega
  ·exact h2.2 h1
 have hZ:SameOn Z w w':=λb hb=>hw b (h.frz b hb).1 λhf=>(hF.ok b hf).1 hb;have hY:SameOn B.Y w w':=λb hb=>hw b (Nat.lt_of_lt_of_le (h.lent b hb).1 h.size) λhf=>hFY b hf hb;refine ⟨⟨λr x hx hd=>?_,h.dj,λr x ℓ b hx ho hl hb=>?_,λb hb=>?_,h.frz0,Nat.le_trans h.size hs,λb hb hA=>?_,h.far,h.lent,h.io.trans hio⟩,λb hb=>?_,λb r hb hO=>?_⟩
 ·obtain ⟨ℓ,h1,h2⟩:=h.rt r x hx hd;refine ⟨ℓ,h1,?_⟩
  cases ho:x.owns with
  |true =>
   refine h2.mono (λb hb=>?_) (λ_ h=>h) (λ_ h=>h) (ExtL.refl μ);rcases hb with (hb|hb)|hb
   ·exact hZ b hb
   ·exact hY b hb
   ·exact hw b (h.own r x ℓ b hx ho h1 hb).2.1 λhf=>hF.off b r hf ⟨x,ℓ,hx,ho,h1,hb⟩
  |false =>
   exact ((h2.frzS ho (λ_=>False)).mono (w':=w') (Z':=Z) (μ':=μ) (λb hb=>by
    rcases hb with (hb|hb)|hb
    ·exact hZ b hb
    ·exact hY b hb
    ·exact hb.elim) (λ_ h=>h) (λ_ h=>h) (ExtL.refl μ)).frzS ho ℓ.S
 ·obtain ⟨h1,h2,h3⟩:=h.own r x ℓ b hx ho hl hb;exact ⟨h1,by omega,h3⟩
 ·obtain ⟨h1,h2⟩:=h.frz b hb;exact ⟨by omega,h2⟩
 ·rw [<- h.keep b hb hA];refine hw b (Nat.lt_of_lt_of_le hb h.size) λhf=>?_;rcases (hF.ok b hf).2.2 with h1|h1
  ·omega
  ·exact hA h1
 ·rcases hb with hb|⟨h1,h2⟩
  ·obtain ⟨h1,h2,h3⟩:=hF.ok b hb;exact ⟨h1,by omega,h3⟩
  ·exact ⟨λhz=>by have:=(h.frz b hz).1;omega,h2,.inl (Nat.le_trans h.size h1)⟩
 ·rcases hb with hb|⟨h1,h2⟩
  ·exact hF.off b r hb hO
  ·obtain ⟨x,ℓ,a1,a2,a3,a4⟩:=hO;have:=(h.own r x ℓ b a1 a2 a3 a4).2.1;omega
theorem getAll_sound(s:Sh):∀ (n:Nat){cs:List C}{us:List Value}{xs:List s.den}{m m':Mem}{Z F:Nat->Prop},MemOk B m w Z μ->Loose B m w Z μ F->CRs w Z μ cs us->getAll s n cs m=some (xs,m') ->
  ∃ (Z' F' S:Nat->Prop),MemOk B m' w Z' μ/\Loose B m' w Z' μ F'/\(∀ b,Z b->Z' b)/\(∀ b,F b->F' b)/\(∀ b,S b->F' b/\¬ F b)/\Kept m m'/\xs.length=n/\SeqR w Z' B.Y s us xs S
 |0,cs,us,xs,m,m',Z,F,hM,hF,hc,h=>by
  match cs,h with
  |[],h =>
   simp only [getAll,Option.some.injEq,Prod.mk.injEq] at h;obtain ⟨rfl,rfl⟩:=h;have:=hc.nil_inv;subst this;exact ⟨Z,F,λ_=>False,hM,hF,λ_ h=>h,λ_ h=>h,λ_ h=>h.elim,Kept.refl _,rfl,SeqR.nil⟩
 |n+1,cs,us,xs,m,m',Z,F,hM,hF,hc,h=>by
  simp only [getAll] at h;split at h
  case h_2=>cases h
  rename_i x cs' m1 hg;split at h
  case h_2=>cases h
  rename_i ys m2 hr;simp only [Option.some.injEq,Prod.mk.injEq] at h;obtain ⟨rfl,rfl⟩:=h;obtain ⟨⟨Z1,F1,S1,us1,us2,rfl,e2,e3,e4,e5,e6,e7,e8,e9⟩,ek⟩:=get_sound s hM hF hc hg;obtain ⟨Z2,F2,S2,g1,g2,g3,g4,g5,g6,g7,g8⟩:=getAll_sound s n e3 e4 e9 hr;refine ⟨Z2,F2,λd=>S1 d\/S2 d,g1,g2,λb hb=>g3 b (e5 b hb),λb hb=>g4 b (e6 b hb),λd hd=>?_,ek.trans g6,by simp [g7],?_⟩
  ·rcases hd with hd|hd
   ·exact ⟨g4 d (e7 d hd).1,(e7 d hd).2⟩
   ·exact ⟨(g5 d hd).1,λhf=>(g5 d hd).2 (e6 d hf)⟩
  ·have h1:SeqR w Z2 B.Y s us1 [x] S1:=⟨by simp [e2],λ_=>S1,λ_ _ _ h=>h,λi j hi hj hij=>by simp at hi hj;omega,λi hi=>by
    have:i=0:=by simpa using hi
    subst this;simp only [Nat.zero_mul,List.drop_zero,List.getElem_cons_zero];rw [List.take_of_length_le (by omega)]
    exact e8.up g3⟩
   exact h1.append g8 λd a b=>(g5 d b).2 (e7 d a).1
end
end Go.Mach

namespace Go.Mach
section
variable {w:World}{Z:Nat->Prop}
theorem SR.ok{Y:Nat->Prop}:∀ {s:Sh}{us:List Value}{x:s.den}{S:Nat->Prop},SR w Z Y s us x S->s.ok x=true
 |.nil,_,_,_,_=>rfl
 |.undef,_,_,_,_=>rfl
 |.nilp,_,_,_,_=>rfl
 |.nilz,_,_,_,_=>rfl
 |.err,_,_,_,_=>rfl
 |.opq,_,_,_,_=>rfl
 |.sb _,_,_,_,_=>rfl
 |.frz t,us,x,_,h=>Frz.ok (show Frz w Z t us x from h)
 |.own s,_,_,_,h=>by simp only [SR] at h;obtain ⟨ℓ,_,_,h3⟩:=h;exact h3.2.2.2.1
 |.box s,_,_,_,h=>by simp only [SR] at h;obtain ⟨_,_,_,_,_,_,_,_,_,_,h7⟩:=h;exact SR.ok (s:=s) h7
 |.map _ _,_,_,_,_=>rfl
 |.clo f s,_,_,_,h=>by simp only [SR] at h;obtain ⟨_,_,_,h2⟩:=h;exact SR.ok (s:=s) h2
 |.seq a b,_,_,_,h=>by
  simp only [SR] at h;obtain ⟨_,_,_,_,_,_,_,_,h5,h6⟩:=h;simp only [Sh.ok,SR.ok (s:=a) h5,SR.ok (s:=b) h6,Bool.and_self]
 |.bor s,_,_,_,h=>by
  simp only [SR] at h;exact brok h
where
 brok {V:Nat->Prop}:∀ {s:Sh}{us:List Value}{x:s.den},BR w Z V s us x->s.ok x=true
 |.nil,_,_,_=>rfl
 |.undef,_,_,_=>rfl
 |.nilp,_,_,_=>rfl
 |.nilz,_,_,_=>rfl
 |.err,_,_,_=>rfl
 |.opq,_,_,_=>rfl
 |.sb _,_,_,_=>rfl
 |.frz t,us,x,h=>Frz.ok (show Frz w Z t us x from h)
 |.own s,_,_,h=>by simp only [BR] at h;obtain ⟨_,_,_,_,h3,_⟩:=h;exact h3
 |.box s,_,_,h=>by simp only [BR] at h;obtain ⟨_,_,_,_,_,_,_,h7⟩:=h;exact brok (s:=s) h7
 |.map _ _,_,_,_=>rfl
 |.clo f s,_,_,h=>by simp only [BR] at h;obtain ⟨_,_,_,h2⟩:=h;exact brok (s:=s) h2
 |.seq a b,_,_,h=>by
  simp only [BR] at h;obtain ⟨_,_,_,h5,h6⟩:=h;simp only [Sh.ok,brok (s:=a) h5,brok (s:=b) h6,Bool.and_self]
 |.bor s,_,_,h=>by
  simp only [BR] at h;exact brok (s:=s) h
theorem sat_idxS{β:Type}{s:Sh}{xs:List s.den}{i:Int}{k:s.den->Res β}{Φ:β->Prop}(h:(Res.idxS s xs i k).sat Φ) :
  0<=i/\∃ hi:i.toNat < xs.length,(s.ok xs[i.toNat]=true->(k xs[i.toNat]).sat Φ):=by
 unfold Res.idxS at h;split at h
 ·rename_i h0;refine ⟨by simpa using h0,?_⟩;split at h
  ·rename_i x hx;obtain ⟨hi,rfl⟩:=List.getElem?_eq_some_iff.1 hx;exact ⟨hi,λhok=>sat_given h hok⟩
  ·exact h.elim
 ·exact h.elim
end
section
variable {B:Base}{E:Env}{st:St}{o:Oper}{a:Act}{w:World}{Z:Nat->Prop}{μ:Locs}{Φ:St->Prop}
theorem Fresh.free{n:Nat}(hF:Fresh st n μ):Free st.mem μ n:=hF
theorem Free.setRoot{m:Mem}{n r:Nat}{x y:Root}(hF:Free m μ n)(hr:m.roots[r]?=some x)(hx:x≠.dead):Free (m.set r y) μ n:=λk hk=>by
 obtain ⟨h1,h2⟩:=hF k hk;refine ⟨h1,?_⟩
 have:r≠m.cur+k:=by rintro rfl;rw [hr] at h2;cases h2;exact hx rfl
 show (m.roots.set r y)[m.cur+k]?=_;rw [List.getElem?_set_ne this];exact h2
theorem fin_value(hR:Rel B st a w Z μ){n:Nat}{m':Mem}{w':World}{Z':Nat->Prop}{μ':Locs}{x:AV}{v:Value}(hrun:(execOp a.eval o).run E.P w=.ok (.value v) w')
  (hm:MemOk B m' w' Z' μ') (hw:SameOn Z w w') (hz:∀ b,Z b->Z' b) (he:ExtL μ μ') (hx:AR w' Z' μ' x v) (hΦ:Φ (st.with o.dst x m')) (hl:m'.roots.length=st.mem.roots.length)
  (hout:∀ r,(r < st.mem.cur\/st.mem.cur+n<=r)->μ r=none->μ' r=none):o.wp E.P a w (Nxt B st n Z μ Φ) (λ_ _ _=>False):=by
 refine wp_of_value hrun ⟨_,Z',μ',hR.put hm hw hz he o.dst hx,hΦ,?_,?_,hout,hz,he⟩
 ·cases o.dst<;>exact hl
 ·cases o.dst<;>rfl
theorem fin_skip(hR:Rel B st a w Z μ){n:Nat}{m':Mem}{w':World}{Z':Nat->Prop}{μ':Locs}(hrun:(execOp a.eval o).run E.P w=.ok .skip w')
  (hm:MemOk B m' w' Z' μ') (hw:SameOn Z w w') (hz:∀ b,Z b->Z' b) (he:ExtL μ μ') (hΦ:Φ (st.with o.dst (.c .undef) m')) (hl:m'.roots.length=st.mem.roots.length)
  (hout:∀ r,(r < st.mem.cur\/st.mem.cur+n<=r)->μ r=none->μ' r=none):o.wp E.P a w (Nxt B st n Z μ Φ) (λ_ _ _=>False):=by
 refine wp_of_skip hrun ⟨_,Z',μ',hR.put hm hw hz he o.dst (AR.undef _),hΦ,?_,?_,hout,hz,he⟩
 ·cases o.dst<;>exact hl
 ·cases o.dst<;>rfl
theorem sound_indexAddr(hR:Rel B st a w Z μ){n:Nat}(hF:Fresh st n μ){t:TypeId}{x i:Operand}(ho:o.op=.indexAddr t x i)(hna:arrT E.P t=none)(hn:newsOf E o<=n)(h:(step E st o Res.ok).sat Φ) :
  o.wp E.P a w (Nxt B st n Z μ Φ) (λ_ _ _=>False):=by
 by_cases hc1:∃ r w' s xs,val st x=.c (.ref r w')/\st.mem.roots[r]?=some (.arr s xs none)/\s.isFrz=false
 ·obtain ⟨r,wd,s,xs,hx,hr,hs⟩:=hc1;simp only [step,stepV,ho,hna] at h;split at h
  case h_2=>exact h.elim
  rename_i ht;simp only [Bool.and_eq_true,decide_eq_true_eq] at ht;obtain ⟨ht,hnews⟩:=ht;have hX:=hR.val x;have hI:=hR.val i;rw [hx] at hX h ht hnews;generalize hqi:val st i=I at h hI;simp only [indexAddrK] at h;split at h
  case h_3=>exact h.elim
  ·rename_i e;simp at e
  rename_i r' w' k ix he;cases he
  have hnn:s.news<=n:=by
   refine Nat.le_trans ?_ (Nat.le_trans hnews hn);simp only [Mem.newsAt,hr]
   cases s<;>simp [Sh.isFrz] at hs ⊢<;>exact Nat.le_refl _
  have hset:(Res.idxS s xs ix λx=>match s.mk x (st.mem.set r .dead) with
    |(cs,m')=>(Res.ok (st.with o.dst (.c (.eptr r ix.toNat 0)) (m'.set r (.arr s xs (some ⟨ix.toNat,cs⟩)))))).sat Φ/\wd=.full:=by
   rw [hr] at h
   cases s<;>simp [Sh.isFrz] at hs<;>(cases wd<;>first|exact ⟨h,rfl⟩|exact h.elim)
  obtain ⟨hh,rfl⟩:=hset;clear h;obtain ⟨hge,hi,h⟩:=sat_idxS hh;clear hh;obtain ⟨hI1,hI2⟩:=hI;obtain ⟨el,e1,e2,e3⟩:=slT_spec ht;obtain ⟨ℓ,m1,m2⟩:=hX;obtain ⟨ℓ',h5,h6,h7⟩:=hR.mem.rt r _ hr (by simp);rw [m1] at h5;cases h5;have h7':=h7;obtain ⟨q1,q2,q3,q4,q0,q5⟩:=h7
  rw [show st.mem.sz? r=s.cells from sz_arr hr] at e2 e3
  cases hb:ℓ.blk with
  |none=>rw [hb] at q5;obtain ⟨rfl,_⟩:=q5;simp at hi
  |some b =>
   rw [hb] at q5;obtain ⟨k1,k2,N,k3,k4,k5⟩:=q5;obtain ⟨us,j1,j2,j3⟩:=k5 ix.toNat hi;have j3:SR w Z B.Y s us xs[ix.toNat] (N ix.toNat):=j3;obtain ⟨t1,t2⟩:=take_root hR.mem (Loose.none B st.mem w Z μ) hr m1 rfl;have hfree:Free (st.mem.set r .dead) μ s.news:=(Free.setRoot (Fresh.free hF) hr (by simp)).mono hnn;obtain ⟨⟨μ1,g1,g2,g3,g4⟩,_⟩:=mk_sound s t1 t2 hfree j3 (λd hd=>.inr (k3 _ hi d hd).1)
   have hrc:r < st.mem.cur\/st.mem.cur+s.news<=r:=by
    rcases Nat.lt_or_ge r st.mem.cur with h'|h'
    ·exact .inl h'
    ·right;rcases Nat.lt_or_ge r (st.mem.cur+s.news) with h''|h''
     ·have:=(hF (r-st.mem.cur) (by omega)).2
      rw [show st.mem.cur+(r-st.mem.cur)=r from by omega,hr] at this
      cases this
     ·exact h''
   obtain ⟨o1,o2⟩:=g4.old r hrc;have hlt:r < st.mem.roots.length:=(List.getElem?_eq_some_iff.1 hr).1
   have hdead:(s.mk xs[ix.toNat] (st.mem.set r .dead)).2.roots[r]?=some .dead:=by
    rw [o2];simp [Mem.set,hlt]
   have hμ1:μ1 r=some ℓ:=o1.trans m1
   let ℓ2:Loc:={ ℓ with S:=λd=>ℓ.S d/\¬ N ix.toNat d }
   have hext:=ExtL.setS (S:=ℓ2.S) hμ1
   have hrun:(execOp a.eval o).run E.P w=.ok (.value (.pointer (some ⟨b,ℓ.base+ix.toNat*ℓ.sz,none⟩))) w:=by
    have hv:a.eval x=.slice (ℓ.addr 0) ℓ.len ℓ.cap:=m2;rw [ℓ.addr_some q0 hb,Nat.zero_mul,Nat.add_zero] at hv
    simp only [execOp,ho,hv,show a.eval i=_ from hI1]
    have:=index_run (w:=w) (P:=E.P) (b:=b) (p:=ℓ.base) (len:=ℓ.len) (cap:=ℓ.cap) (k:=k) e1 (by omega) hge (show ix.toNat < ℓ.len by omega);simp [this,q1,e2]
   obtain ⟨p1,p2⟩:=put_root (x:=.arr s xs (some ⟨ix.toNat,(s.mk xs[ix.toNat] (st.mem.set r .dead)).1⟩)) (ℓ:=ℓ2) g1 g2 hdead hext ⟨λf hf=>by cases hf;exact hi,by
    refine ⟨q1,q2,q3,q4,q0,?_⟩
    rw [show ℓ2.blk=some b from hb]
    have hnb:¬ N ix.toNat b:=λh=>(k3 _ hi b h).2 rfl
    refine ⟨⟨k1,hnb⟩,k2,λj=>if ix.toNat=j then λ_=>False else N j,λj hj d hd=>?_,λj k hj hk hjk d hd hd'=>?_,λj hj=>?_⟩
    ·dsimp only at hd;split at hd
     ·exact hd.elim
     ·rename_i hne;exact ⟨⟨(k3 j hj d hd).1,λh'=>k4 _ j hi hj hne d h' hd⟩,(k3 j hj d hd).2⟩
    ·dsimp only at hd hd';split at hd
     ·exact hd.elim
     ·split at hd'
      ·exact hd'.elim
      ·exact k4 j k hj hk hjk d hd hd'
    ·by_cases hij:ix.toNat=j
     ·subst hij;exact ⟨us,j1,j2,by simp only [ElR,if_true];exact g3.mono (SameOn.refl _ _) (λ_ h=>h) hext⟩
     ·obtain ⟨us',n1,n2,n3⟩:=k5 j hj
      exact ⟨us',n1,n2,by simp only [ElR,if_neg hij];exact n3⟩⟩ (λ_ d hd=>⟨.inr hd.1,hd.2⟩)
   refine fin_value (x:=.c (.eptr r ix.toNat 0)) hR hrun p1 (SameOn.refl _ _) (λ_ h=>h) (g4.ext.trans hext) ⟨ℓ2,b,Locs.set_at _ _ _,hb,by show ix.toNat < ℓ.len;omega,by simp [ℓ2]⟩ (h j3.ok) ?_ λr' hr' hμ=>?_
   ·show (List.set _ _ _).length=_;rw [List.length_set,g4.len];simp [Mem.set]
   ·have hne:r'≠r:=by rintro rfl;rw [m1] at hμ;cases hμ
    rw [Locs.set_ne _ _ hne,(g4.old r' (by show r' < st.mem.cur\/st.mem.cur+s.news<=r';omega)).1];exact hμ
 ·by_cases hc2:∃ r w' s xs,val st x=.c (.ref r w')/\st.mem.roots[r]?=some (.bor s xs)
  ·obtain ⟨r,wd,s,xs,hx,hr⟩:=hc2;simp only [step,stepV,ho,hna] at h;split at h
   case h_2=>exact h.elim
   rename_i ht;simp only [Bool.and_eq_true,decide_eq_true_eq] at ht;obtain ⟨ht,hnews⟩:=ht;have hX:=hR.val x;have hI:=hR.val i;rw [hx] at hX h ht hnews;generalize hqi:val st i=I at h hI;simp only [indexAddrK] at h;split at h
   case h_3=>exact h.elim
   ·rename_i e;simp at e
   rename_i r' w' k ix he;cases he;rw [hr] at h;simp only [Mem.newsAt,hr] at hnews;have hnn:s.news+1<=n:=Nat.le_trans hnews hn;obtain ⟨hge,hi,h⟩:=sat_idxS h;obtain ⟨hI1,hI2⟩:=hI;obtain ⟨el,e1,e2,e3⟩:=slT_spec ht;obtain ⟨ℓ,m1,m2⟩:=hX;obtain ⟨ℓ',h5,h6⟩:=hR.mem.rt r _ hr (by simp);rw [m1] at h5;cases h5;rw [sz_bor hr] at e2 e3
   obtain ⟨⟨q,cap,p1,p2,p3⟩,_⟩:=RdR.win (show RdR _ _ _ _ _ _ _ from h6) m2
   rcases p3 with p3|⟨b,p,rfl,p5,p6⟩
   ·rw [p3] at hi;simp at hi
   ·obtain ⟨us,j1,j2,j3⟩:=p6 ix.toNat hi;have hfree:Free st.mem μ (s.news+1):=(Fresh.free hF).mono hnn;obtain ⟨⟨μ1,g1,g2,g3,g4⟩,_⟩:=mkB_sound s hR.mem (Loose.none B st.mem w Z μ) hfree.left j3;have hf1:=Free.right (b:=1) hfree g4;obtain ⟨f1,f2⟩:=hf1 0 (by omega);rw [Nat.add_zero] at f1 f2;obtain ⟨d1,d2⟩:=make_root (x:=.bbox (s.mkB (wd.of (xs:List s.den))[ix.toNat] st.mem).1) (ℓ:=⟨some b,p+ix.toNat*s.cells,0,0,0,λ_=>False,none⟩) g1 g2 f2 f1 ⟨b,rfl,p5,us,j2,g3.mono (SameOn.refl _ _) (λ_ h=>h) (ExtL.set f1)⟩ (λh=>by simp [Root.owns] at h);have hg:=g4.trans (Grow.push (ℓ:=⟨some b,p+ix.toNat*s.cells,0,0,0,λ_=>False,none⟩) (x:=.bbox (s.mkB (wd.of (xs:List s.den))[ix.toNat] st.mem).1) hf1)
    have hrun:(execOp a.eval o).run E.P w=.ok (.value (.pointer (some ⟨b,p+ix.toNat*s.cells,none⟩))) w:=by
     simp only [execOp,ho,show a.eval x=_ from p1,show a.eval i=_ from hI1]
     have:=index_run (w:=w) (P:=E.P) (b:=b) (p:=p) (len:=(wd.of xs).length) (cap:=cap) (k:=k) e1 (by omega) hge hi;simp [this,e2]
    refine fin_value (x:=.c (.ptr (s.mkB (wd.of (xs:List s.den))[ix.toNat] st.mem).2.cur 0)) hR hrun d1 (SameOn.refl _ _) (λ_ h=>h) hg.ext ⟨_,b,Locs.set_at _ _ _,rfl,by simp⟩ (h (SR.ok.brok j3)) hg.len λr' hr' hμ=>?_;rw [(hg.old r' (by omega)).1];exact hμ
  ·refine sound_indexAddr_plain hR n ho hna h (λr w' s xs hx hr=>?_) (λr w' s xs hx hr=>hc2 ⟨r,w',s,xs,hx,hr⟩)
   cases hs:s.isFrz with
   |true=>rfl
   |false=>exact absurd ⟨r,w',s,xs,hx,hr,hs⟩ hc1
end
end Go.Mach

namespace Go.Mach
section
variable {B:Base}{E:Env}{st:St}{o:Oper}{a:Act}{w:World}{Z:Nat->Prop}{μ:Locs}{Φ:St->Prop}
theorem Loose.lent{B:Base}{m:Mem}{F:Nat->Prop}(hM:MemOk B m w Z μ)(hF:Loose B m w Z μ F):∀ b,F b->¬ B.Y b:=λb hb hy=>by
 have h1:=(hF.ok b hb).2.2;have h2:=hM.lent b hy;rcases h1 with h1|h1
 ·omega
 ·exact h2.2 h1
theorem store_closed(hR:Rel B st a w Z μ)(n:Nat){T:TypeId}{x y:Operand}{r i off:Nat}{e:Ty}{xs:List e.den}(ho:o.op=.store T x y)(hx:val st x=.c (.eptr r i off))
  (hr:st.mem.roots[r]?=some (.arr (.frz e) xs none))
  (hk:kindOk E.P T=true) (hreal:(val st y).real=true) (hlen:(val st y).cells.length=E.P.cellsOf T) (hu:((val st y).cells.any C.isUndef)=false)
  (hi:i < xs.length){cs':List C}(hs:splice (e.flat xs[i]) off (val st y).cells=some cs'){z:e.den}{m':Mem}(hg:(Sh.frz e).get cs' (st.mem.set r .dead)=some (z,[],m'))
  (hΦ:Φ (st.with o.dst (.c .undef) (m'.set r (.arr (.frz e) (xs.set i z) none)))) :
  o.wp E.P a w (Nxt B st n Z μ Φ) (λ_ _ _=>False):=by
 have hX:=hR.val x;rw [hx] at hX;obtain ⟨ℓ,b,m1,m2,m3,m4⟩:=hX;obtain ⟨ws,v1,v2⟩:=(hR.val y).real hreal;obtain ⟨ℓ',h5,h6,h7⟩:=hR.mem.rt r _ hr (by simp);rw [m1] at h5;cases h5;have h7':=h7;obtain ⟨q1,q2,q3,q4,q0,q5⟩:=h7;rw [m2] at q5;obtain ⟨k1,k2,N,k3,k4,k5⟩:=q5;obtain ⟨us,j1,j2,j3⟩:=k5 i hi;have j3:Frz w Z e us xs[i]:=j3;obtain ⟨t1,t2⟩:=take_root hR.mem (Loose.none B st.mem w Z μ) hr m1 rfl;obtain ⟨s1,rfl⟩:=splice_ok hs;have hws:ws.length=(val st y).cells.length:=v2.1.symm;have hcs:=(j3.flat (μ:=μ)).splice v2 off;obtain ⟨⟨Z',F',S1,us1,us2,e1,e2,e3,e4,e5,e6,e7,e8,e9⟩,ek⟩:=get_sound (.frz e) t1 t2 hcs hg;have:=e9.nil_inv;subst this;rw [List.append_nil] at e1;have hbF:F' b:=e6 b (.inr k1)
 have hfl:(e.flat xs[i]).length=e.cells:=by rw [(j3.flat (μ:=μ)).1];exact j1
 have hin:=mul_last (sz:=ℓ.sz) m3 (show ℓ.len<=ℓ.cap by omega);have q1':ℓ.sz=e.cells:=q1;have hrun:=run_storeVar (P:=E.P) (p:=ℓ.base+i*ℓ.sz+off) hk v1 (by omega) k2 (by omega) (v2.one_cells hu);have hOth:∀ c,c≠b->(w.setCells b (ℓ.base+i*ℓ.sz+off) ws).heap[c]?=w.heap[c]?:=λc hc=>setCells_other b hc _ _ _;obtain ⟨d1,d2⟩:=world_step (hio:=setCells_io _ _ _ _) (w':=w.setCells b (ℓ.base+i*ℓ.sz+off) ws) e3 e4 (λc _ hc=>hOth c λe=>hc (e▸hbF)) (by rw [setCells_size];exact Nat.le_refl _);have hlt:r < st.mem.roots.length:=(List.getElem?_eq_some_iff.1 hr).1;have hdead:m'.roots[r]?=some .dead:=ek.dead r (by simp [Mem.set,hlt]);have hSame:SameOn Z w (w.setCells b (ℓ.base+i*ℓ.sz+off) ws):=λc hc=>hOth c (λe=>(e4.ok b hbF).1 (e5 b (e▸hc)));have hSame':SameOn Z' w (w.setCells b (ℓ.base+i*ℓ.sz+off) ws):=λc hc=>hOth c (λe=>(e4.ok b hbF).1 (e▸hc));have hext:=ExtL.setS (S:=ℓ.S) m1
 obtain ⟨p1,p2⟩:=put_root (x:=.arr (.frz e) (xs.set i z) none) (ℓ:=ℓ) d1 d2 hdead hext ⟨(λf hf=>by cases hf),by
  have:=h7'.write (R':=ElR (w.setCells b (ℓ.base+i*ℓ.sz+off) ws) Z' B.Y (μ.set r ℓ) (.frz e) none) (xs':=xs.set i z) m2 hi (by simp) (show off+ws.length<=(Sh.frz e).cells by show _<=e.cells;omega) ?_ ?_
  ·rwa [show (xs.set i z).length=xs.length from by simp]
  ·intro us' S hi' hus hc _ _;have:us'=us:=hc.unique j2 (by rw [hus,j1]);subst this;show Frz _ Z' e _ _;rw [List.getElem_set_self];have e8':Frz w Z' e us1 z:=e8;rw [<- e1] at e8';exact e8'.same hSame' (λ_ h=>h)
  ·intro j us' S hj hj' hij hRR _;show Frz _ Z' e _ _;rw [List.getElem_set_ne (Ne.symm hij)]
   exact (show Frz w Z e us' xs[j] from hRR).same hSame e5⟩ (λ_ d hd=>.inl (e6 d (.inr hd)))
 have hrun':(execOp a.eval o).run E.P w=.ok .skip (w.setCells b (ℓ.base+i*ℓ.sz+off) ws):=by
  simp only [execOp,ho,m4];simp [Instr.storeAt,Instr.sureAddr,hrun]
 refine fin_skip hR hrun' p1 hSame e5 hext hΦ ?_ λr' hr' hμ=>?_
 ·show (List.set _ _ _).length=_;rw [List.length_set,ek.len];simp [Mem.set]
 ·have hne:r'≠r:=by rintro rfl;rw [m1] at hμ;cases hμ
  rw [Locs.set_ne _ _ hne];exact hμ
theorem sound_store(hR:Rel B st a w Z μ)(n:Nat){T:TypeId}{x y:Operand}(ho:o.op=.store T x y)(h:(step E st o Res.ok).sat Φ) :
  o.wp E.P a w (Nxt B st n Z μ Φ) (λ_ _ _=>False):=by
 simp only [step,stepV,ho] at h;split at h
 case h_2=>exact h.elim
 rename_i hb;simp only [Bool.and_eq_true,Bool.not_eq_true',beq_iff_eq] at hb;obtain ⟨hk,hreal,hlen,hu⟩:=hb;unfold storeK at h;split at h
 ·rename_i r off hx;split at h
  case h_2=>exact h.elim
  rename_i cs hr;split at h
  case h_2=>exact h.elim
  rename_i cs' hs;exact store_box hR n ho hx hr hk hreal hlen hu hs h
 ·rename_i r i off hx;split at h
  ·rename_i e xs hr;obtain ⟨h0,hi,h⟩:=sat_idx h
   have hi':i < xs.length:=by simpa using hi
   have hok:e.ok xs[(i:Int).toNat]=true:=by
    obtain ⟨ℓ',h5,h6,h7⟩:=hR.mem.rt r _ hr (by simp);obtain ⟨q1,q2,q3,q4,q0,q5⟩:=h7
    cases hb:ℓ'.blk with
    |none=>rw [hb] at q5;obtain ⟨rfl,_⟩:=q5;simp at hi
    |some b =>
     rw [hb] at q5;obtain ⟨k1,k2,N,k3,k4,k5⟩:=q5;obtain ⟨us,j1,j2,j3⟩:=k5 _ hi
     exact Frz.ok (show Frz w Z e us xs[(i:Int).toNat] from j3)
   have h:=h hok;simp only [Int.toNat_natCast] at h;split at h
   case h_2=>exact h.elim
   rename_i cs' hs;split at h
   case h_2=>exact h.elim
   rename_i z m' hg;exact store_closed hR n ho hx hr hk hreal hlen hu hi' hs hg h
  ·rename_i s xs f hr;obtain ⟨hfi,h⟩:=sat_need h
   have hfi:f.i=i:=by simpa using hfi
   split at h
   case h_2=>exact h.elim
   rename_i cs' hs;exact store_foc hR n ho hx hr hfi hk hreal hlen hu hs h
  ·exact h.elim
 ·exact h.elim
theorem repl_cells(us:List Value):∀ (n:Nat),∃ vs:List Value,((Array.range (n*us.length)).map (us.toArray[· % us.toArray.size]!))=vs.toArray/\∀ {cs:List C},CRs w Z μ cs us->CRs w Z μ (repl n cs) vs
 |0=>⟨[],by simp,λ_=>CRs.nil⟩
 |n+1=>by
  obtain ⟨vs,h1,h2⟩:=repl_cells us n;refine ⟨us++vs,?_,λhc=>hc.append (h2 hc)⟩;apply Array.ext';have h1':=congrArg Array.toList h1;simp only [Array.toList_map,Array.toList_range] at h1' ⊢;refine List.ext_getElem ?_ λk k1 k2=>?_
  ·have:=congrArg List.length h1';simp at this ⊢;rw [<- this,Nat.add_mul];omega
  ·simp at k1;by_cases hk:k < us.length
   ·simp [List.getElem_append_left hk,Nat.mod_eq_of_lt hk,hk]
   ·have hpos:0 < us.length:=by
     rcases Nat.eq_zero_or_pos us.length with h|h
     ·rw [h] at k1;simp at k1
     ·exact h
    have e:k=us.length+(k-us.length):=by omega
    have h3:(k-us.length) < n*us.length:=by rw [Nat.add_mul] at k1;omega
    have h4:=List.getElem_of_eq h1' (i:=k-us.length) (by simpa using h3);simp only [List.getElem_map,List.getElem_range] at h4 ⊢;rw [List.getElem_append_right (by omega),<- h4];congr 1
    conv=>lhs;rw [e]
    simp [Nat.add_mod_left]
theorem run_buildSlice0{P:Program}(w:World)(t e:TypeId)(ie:TypeInfo)(hu:P.underlying t=some (.slice e))(hie:P.info? e=some ie) :
  (Instr.buildSlice t 0 #[]).run P w=.ok (.slice (some ⟨w.heap.size,0,none⟩) 0 0) (w.alloc (.cells #[] e)):=by
 have e0:Array.range 0=#[]:=rfl;simp [Instr.buildSlice,run_underlying hu,sizeOf,typeInfo,hie,newRow,Instr.fill,e0]
theorem sound_buildSlice(hR:Rel B st a w Z μ){n:Nat}(hF:Fresh st n μ)(hn:1<=n){T:TypeId}{k:Nat}{parts:Array (Nat×Operand)}(ho:o.op=.buildSlice T k parts)(h:(step E st o Res.ok).sat Φ) :
  o.wp E.P a w (Nxt B st n Z μ Φ) (λ_ _ _=>False):=by
 simp only [step,stepV,ho] at h;split at h
 case h_2=>exact h.elim
 rename_i el hT;split at h
 case h_2=>exact h.elim
 rename_i s z hs hz;split at h
 case h_2=>exact h.elim
 rename_i hb;split at h
 case h_2=>exact h.elim
 rename_i cs hc;split at h
 case h_2=>exact h.elim
 rename_i xs m hg;simp only [etyOk,Bool.and_eq_true,beq_iff_eq,Bool.not_eq_true',beq_eq_false_iff_ne,decide_eq_true_eq] at hb;obtain ⟨b1,⟨b2,b3,b4,_⟩,b5,b6⟩:=hb;unfold elemOf at hT;split at hT
 case h_2=>cases hT
 rename_i el' hT';cases hT;unfold zeroC at hz;split at hz
 case h_2=>cases hz
 rename_i i hi;split at hz
 case h_2=>cases hz
 rename_i zv hzv;cases hz
 have hsz:E.P.cellsOf el=i.size:=by simp [Program.cellsOf,hi]
 obtain ⟨vs,r1,r2⟩:=repl_cells (w:=w) (Z:=Z) (μ:=μ) zv.cells.toList k
 have hzl:zv.cells.toList.length=i.size:=by rw [<- hsz,<- b1];simp
 obtain ⟨us,f1,f2⟩:=fill_ok hR parts.toList (r2 (CRs_map zv.cells.toList)) hc;obtain ⟨Z',F',S,g1,g2,g3,g4,g5,g6,g7,g8⟩:=getAll_sound s k hR.mem (Loose.none B st.mem w Z μ) f2 hg
 have hrun:(execOp a.eval o).run E.P w=.ok (.value (.slice (some ⟨w.heap.size,0,none⟩) k k)) (w.alloc (.cells us.toArray el)):=by
  simp only [execOp,ho];by_cases hk0:k=0
  ·subst hk0
   have hpe:parts=#[]:=by
    cases hp:parts.toList with
    |nil=>simpa using hp
    |cons p ps =>
     rw [hp] at hc;simp only [List.map_cons,fillC] at hc;split at hc
     ·rename_i hb';split at hc
      ·rename_i cs1 hs1;have h1:=(splice_ok hs1).1;simp only [Bool.and_eq_true,beq_iff_eq] at hb';simp only [repl,List.length_nil] at h1;omega
      ·cases hc
     ·cases hc
   subst hpe
   have hus:us=[]:=by
    have:=g8.1;rw [g7] at this;exact List.eq_nil_of_length_eq_zero (by simpa using this)
   subst hus;have:=run_buildSlice0 (P:=E.P) w T el i hT' hi;simp [this]
  ·have hpos:¬ k*i.size=0:=by
    rw [Nat.mul_eq_zero];omega
   have:=run_buildSlice (P:=E.P) w T el k (parts.map λ(p:Nat×Operand)=>(p.1,a.eval p.2)) us.toArray i zv hT' hi hzv (by rw [<- hsz];omega) hpos (by
    have e1:(Array.range (k*i.size)).map (zv.cells[· % zv.cells.size]!)=vs.toArray:=by
     have:=r1;rw [hzl] at this;simpa using this
    rw [e1]
    simpa [hsz] using f1)
   simp [this]
 obtain ⟨d1,d2⟩:=world_step (w':=w.alloc (.cells us.toArray el)) g1 g2 (λb hb _=>alloc_old _ _ hb) (by rw [alloc_size];omega);obtain ⟨c1,c2⟩:=hF 0 (by omega);rw [Nat.add_zero] at c1 c2;have hcur:m.cur=st.mem.cur:=g6.cur;have c2':=g6.dead _ c2;rw [<- hcur] at c1 c2';have hSameZ:SameOn Z w (w.alloc (.cells us.toArray el)):=λb hb=>alloc_old _ _ (hR.mem.frz b hb).1
 have hseq:SeqR (w.alloc (.cells us.toArray el)) Z' B.Y s us xs S:=g8.same (λb hb=>by
  refine alloc_old _ _ ?_;rcases hb with (hb|hb)|hb
  ·exact (g1.frz b hb).1
  ·exact Nat.lt_of_lt_of_le (g1.lent b hb).1 g1.size
  ·exact (g2.ok b (g5 b hb).1).2.1) (λ_ h=>h)
 have hul:us.length=k*s.cells:=by rw [g8.1,g7]
 have harr:=hseq.arr (b:=w.heap.size) (o:=0) (cap:=k) (alloc_cells w us el) (alloc_block w us el (by omega)) (by omega) (λhS=>by have:=(g2.ok _ (g5 _ hS).1).2.1;omega) (by rw [g7];exact b6)
 obtain ⟨p1,p2⟩:=make_root (x:=.arr s xs none) (ℓ:=⟨some w.heap.size,0,s.cells,xs.length,k,λd=>d=w.heap.size\/S d,none⟩) d1 d2 c2' c1 ⟨(λf hf=>by cases hf),harr⟩ (λ_ d hd=>by
  rcases hd with rfl|hd
  ·exact .inr ⟨Nat.le_refl _,by rw [alloc_size];omega⟩
  ·exact .inl (g5 d hd).1)
 refine fin_value (x:=.c (.ref m.cur .full)) hR hrun p1 hSameZ g3 (ExtL.set c1) ⟨_,Locs.set_at _ _ _,?_⟩ h ?_ λr hr hμ=>?_
 ·show _=_;simp [Loc.addr,g7]
 ·simp only [Mem.push,List.length_set];exact g6.len
 ·rw [Locs.set_ne _ _ (by omega)];exact hμ
theorem sound_sliceArr(hR:Rel B st a w Z μ){n:Nat}(hF:Fresh st n μ){t:TypeId}{x:Operand}{lo hi:Option Operand}(ho:o.op=.slice t x lo hi none){p:Nat×TypeId}(hp:arrT E.P t=some p)(hn:1<=n)(h:(step E st o Res.ok).sat Φ) :
  o.wp E.P a w (Nxt B st n Z μ Φ) (λ_ _ _=>False):=by
 simp only [step,stepV,ho,hp] at h;have hx:=hR.val x;obtain ⟨k,el⟩:=p;split at h
 case h_2=>exact h.elim
 unfold sliceArrK at h;split at h
 case h_2=>exact h.elim
 rename_i r s hX hs;rw [hX] at hx;split at h
 case h_2=>exact h.elim
 rename_i cs hr;split at h
 case h_2=>exact h.elim
 rename_i hb;split at h
 case h_2=>exact h.elim
 rename_i xs m hg;simp only [etyOk,Bool.and_eq_true,beq_iff_eq,Bool.not_eq_true',beq_eq_false_iff_ne,decide_eq_true_eq] at hb;obtain ⟨⟨b2,b3,b4,_⟩,b6⟩:=hb
 have ht:E.P.underlying t=some (.array k el):=by
  unfold arrT at hp;split at hp
  ·cases hp;assumption
  ·cases hp
 obtain ⟨ℓ,b,g1,g2,g3⟩:=hx;obtain ⟨ℓ',h5,b',h6,h7,h8,us,h9,h10⟩:=hR.mem.rt r _ hr (by simp);rw [g1] at h5;cases h5;rw [g2] at h6;cases h6;obtain ⟨t1,t2⟩:=take_root hR.mem (Loose.none B st.mem w Z μ) hr g1 rfl;obtain ⟨Z',F',S,k1,k2,k3,k4,k5,k6,k7,k8⟩:=getAll_sound s k t1 t2 h10 hg
 have hul:us.length=k*s.cells:=by rw [k8.1,k7]
 have hsz:=run_sizeOf (w:=w) (P:=E.P) (t:=el) (by rw [<- b2];exact b3)
 have hrun:(execOp a.eval o).run E.P w=.ok (.value (.slice (some ⟨b,ℓ.base,none⟩) k k)) w:=by
  simp only [execOp,ho,show a.eval x=_ from g3]
  simp [Instr.sliceAt,run_underlying ht,Instr.sureAddr,Instr.sliceBounds,hsz,Addr.add,Result.andThen]
 obtain ⟨c1,c2⟩:=hF 0 (by omega);rw [Nat.add_zero] at c1 c2;have hcur:m.cur=st.mem.cur:=k6.cur;have hlt:r < st.mem.roots.length:=(List.getElem?_eq_some_iff.1 hr).1
 have hrc:r≠st.mem.cur:=by rintro rfl;rw [hr] at c2;cases c2
 have c2':m.roots[m.cur]?=some .dead:=by
  rw [hcur];refine k6.dead _ ?_;simp only [Mem.set];rw [List.getElem?_set_ne hrc];exact c2
 rw [<- hcur] at c1;have hSb:¬ S b:=λhS=>(k5 b hS).2 (.inr h7);have harr:=k8.arr (b:=b) (o:=ℓ.base) (cap:=k) h9 (by rw [<- hul,<- h10.1];exact h8) (by omega) hSb (by rw [k7];exact b6)
 obtain ⟨p1,p2⟩:=make_root (x:=.arr s xs none) (ℓ:=⟨some b,ℓ.base,s.cells,xs.length,k,λd=>d=b\/S d,none⟩) k1 k2 c2' c1 ⟨(λf hf=>by cases hf),harr⟩ (λ_ d hd=>by
  rcases hd with rfl|hd
  ·exact k4 _ (.inr h7)
  ·exact (k5 d hd).1)
 refine fin_value (x:=.c (.ref m.cur .full)) hR hrun p1 (SameOn.refl _ _) k3 (ExtL.set c1) ⟨_,Locs.set_at _ _ _,?_⟩ h ?_ λr hr hμ=>?_
 ·show _=_;simp [Loc.addr,k7]
 ·simp only [Mem.push,List.length_set];rw [k6.len];simp [Mem.set]
 ·rw [Locs.set_ne _ _ (by omega)];exact hμ
end
end Go.Mach

namespace Go.Mach
section
variable {w:World}{Z:Nat->Prop}
theorem flat_real:∀ (t:Ty) (x:t.den),((t.flat x).any C.isUndef)=false
 |.unit,_=>rfl
 |.int _,_=>rfl
 |.bool,_=>rfl
 |.str,_=>rfl
 |.list _,_=>rfl
 |.pair a b,x=>by simp only [Ty.flat,List.any_append,flat_real a,flat_real b,Bool.or_self]
 |.rose a,x=>by simp only [Ty.flat,List.any_append,flat_real a];rfl
theorem Frz.one{t:Ty}{us:List Value}{x:t.den}(h:Frz w Z t us x):∀ u∈us,u.oneCell'=true:=(h.flat (μ:=λ_=>none)).one_cells (flat_real t x)
theorem SR.one{Y:Nat->Prop}:∀ {s:Sh}{us:List Value}{x:s.den}{S:Nat->Prop},s.real=true->SR w Z Y s us x S->∀ u∈us,u.oneCell'=true
 |.nil,_,_,_,_,h=>by simp only [SR] at h;subst h;simp
 |.undef,_,_,_,hr,_=>by simp [Sh.real] at hr
 |.nilp,_,_,_,_,h=>by simp only [SR] at h;subst h;simp [Value.oneCell']
 |.nilz,_,_,_,_,h=>by simp only [SR] at h;subst h;simp [Value.oneCell']
 |.sb _,_,_,_,_,h=>by simp only [SR] at h;obtain ⟨_,rfl,_⟩:=h;simp [Value.oneCell']
 |.err,_,_,_,_,h=>by simp only [SR] at h;obtain ⟨v,rfl,⟨_,rfl⟩|⟨_,_,_,rfl⟩⟩:=h<;>simp [Value.oneCell']
 |.opq,_,_,_,_,h=>by simp only [SR] at h;obtain ⟨v,rfl,h⟩:=h;simpa using h.2
 |.frz t,us,x,_,_,h=>Frz.one (show Frz w Z t us x from h)
 |.own s,_,_,_,_,h=>by simp only [SR] at h;obtain ⟨ℓ,rfl,_⟩:=h;simp [Value.oneCell']
 |.box s,_,_,_,_,h=>by simp only [SR] at h;obtain ⟨_,_,_,_,rfl,_⟩:=h;simp [Value.oneCell']
 |.map n s,_,_,_,_,h=>by simp only [SR] at h;obtain ⟨_,rfl,_⟩:=h;simp [Value.oneCell']
 |.clo f s,_,_,_,_,h=>by simp only [SR] at h;obtain ⟨_,_,rfl,_⟩:=h;simp [Value.oneCell']
 |.seq a b,us,x,S,hr,h=>by
  simp only [Sh.real,Bool.and_eq_true] at hr;simp only [SR] at h;obtain ⟨u1,u2,_,_,rfl,_,_,_,h5,h6⟩:=h;intro u hu;rcases List.mem_append.1 hu with hu|hu
  ·exact SR.one hr.1 h5 u hu
  ·exact SR.one hr.2 h6 u hu
 |.bor _,_,_,_,hr,_=>by simp [Sh.real] at hr
theorem SeqR.one{Y:Nat->Prop}{s:Sh}{us:List Value}{xs:List s.den}{S:Nat->Prop}(hr:s.real=true)(h:SeqR w Z Y s us xs S):∀ u∈us,u.oneCell'=true:=by
 obtain ⟨h1,N,_,_,h4⟩:=h;intro u hu;obtain ⟨k,hk,rfl⟩:=List.getElem_of_mem hu
 have hc:0 < s.cells:=by
  rcases Nat.eq_zero_or_pos s.cells with h|h
  ·rw [h] at h1;simp at h1;subst h1;simp at hk
  ·exact h
 have hi:k / s.cells < xs.length:=by
  rw [Nat.div_lt_iff_lt_mul hc];omega
 have h5:=h4 _ hi;refine SR.one hr h5 _ ?_;have h6:k % s.cells < s.cells:=Nat.mod_lt _ hc;have h7:k / s.cells*s.cells+k % s.cells=k:=Nat.div_add_mod' k s.cells;rw [List.mem_iff_getElem];refine ⟨k % s.cells,by simp;omega,?_⟩;simp only [List.getElem_take,List.getElem_drop,h7]
def SrcRun(P:Program)(w:World)(c:Nat)(x:Value)(n:Nat)(news:List Value):Prop :=
 (Builtin.lenOf x).run P w=.ok n w/\∀ W:World,W.heap=w.heap->(Builtin.firstCells c n x).run P W=.ok news.toArray W
theorem src_slice{P:Program}{c:Nat}{a:Option Addr}{n cap:Nat}{news:List Value}(hl:news.length=n*c)(h:news=[]\/∃ b p,a=some ⟨b,p,none⟩/\CellsAt w b p news):SrcRun P w c (.slice a n cap) n news:=by
 refine ⟨by simp [Builtin.lenOf],λW hW=>?_⟩
 have hc:∀ x:Addr,W.cell? x=w.cell? x:=λx=>by simp only [World.cell?,hW]
 cases a with
 |none =>
  rcases h with rfl|⟨b,p,h,_⟩
  ·simp [Builtin.firstCells]
  ·cases h
 |some ad =>
  refine run_firstCells_some (P:=P) W c n ad n cap news hl λj v hv=>?_;rcases h with rfl|⟨b,p,h,hcs⟩
  ·simp at hv
  ·cases h;rw [hc];exact cellsAt_get hcs j v hv
theorem src_str{P:Program}(s:List UInt8):SrcRun P w 1 (strV s) s.length ((nums s).map (Value.int .u8)):=by
 refine ⟨by simp [Builtin.lenOf,strV,strV_size],λW _=>?_⟩;simp only [Builtin.firstCells,strV,Sem.run_pure];congr 1;apply Array.ext';simp [nums,str_extract]
variable {P:Program}
theorem append_room{t u ty e:TypeId}{i:TypeInfo}(ht:P.underlying t=some (.slice e))(hu:appT P u=true)(hi:P.info? e=some i){b off sLen sCap n:Nat}{x:Value}{news:List Value}
  (hx:SrcRun P w i.size x n news) (hl:news.length=n*i.size) (hroom:sLen+n<=sCap) (hb:BlockOk w b (off+sCap*i.size)) (h1:∀ v∈news,v.oneCell'=true) (rest:List TypeId) :
  (Builtin.append_ (t::u::rest).toArray ty #[.slice (some ⟨b,off,none⟩) sLen sCap,x]).run P w=.ok (.slice (some ⟨b,off,none⟩) (sLen+n) sCap) (w.setCells b (off+sLen*i.size) news):=by
 have h2:(sLen+n)*i.size<=sCap*i.size:=Nat.mul_le_mul_right _ hroom;rw [Nat.add_mul] at h2;have hst:=run_store_cells (P:=P) (o:=off+sLen*i.size) hb (by omega) h1;have hf:=hx.2 w rfl;unfold appT at hu
 cases hd:P.underlying u with
 |none=>simp [hd] at hu
 |some d =>
  cases d<;>simp [hd] at hu<;>simp [Builtin.append_,run_underlying ht,run_underlying hd,sizeOf,typeInfo,hi,hx.1,hroom,hf,addr_add,hst]
theorem append_none{t u ty e:TypeId}{i:TypeInfo}(ht:P.underlying t=some (.slice e))(hu:appT P u=true)(hi:P.info? e=some i){x:Value}{news:List Value}{sCap:Nat}
  (hx:SrcRun P w i.size x 0 news) (rest:List TypeId) :
  (Builtin.append_ (t::u::rest).toArray ty #[.slice none 0 sCap,x]).run P w=.ok (.slice none 0 sCap) w:=by
 have hf:=hx.2 w rfl;unfold appT at hu
 cases hd:P.underlying u with
 |none=>simp [hd] at hu
 |some d =>
  cases d<;>simp [hd] at hu<;>simp [Builtin.append_,run_underlying ht,run_underlying hd,sizeOf,typeInfo,hi,hx.1,hf]
theorem append_grow{t u ty e:TypeId}{i:TypeInfo}{z:Value}(ht:P.underlying t=some (.slice e))(hu:appT P u=true)(hi:P.info? e=some i)(hz:i.zero=some z){a:Option Addr}{sLen sCap n:Nat}{x:Value}{olds news:List Value}
  (hx:SrcRun P w i.size x n news) (ho:SrcRun P w i.size (.slice a sLen sCap) sLen olds) (hg:sCap < sLen+n) (h63:sLen+n<=2^47) (hfit:(sLen+n)*i.bytes<=2^47) (rest:List TypeId) :
  (Builtin.append_ (t::u::rest).toArray ty #[.slice a sLen sCap,x]).run P w=.ok (.slice (some ⟨w.heap.size,0,none⟩) (sLen+n) (grownCap w (sLen+n) sCap e))
   (w.drew.alloc (.cells (olds.toArray++news.toArray++Builtin.zeroCells z.cells (grownCap w (sLen+n) sCap e-(sLen+n))) e)):=by
 have hn:¬ (sLen+n<=sCap):=by omega
 have h63':¬ (9223372036854775807 < ((sLen:Int)+(n:Int))):=by omega
 have h48':¬ (281474976710656 < Builtin.nextslicecap (sLen+n) sCap*i.bytes):=by have:=growslice_fits hg hfit;omega
 have hf:=hx.2 w.drew rfl;have hfo:=ho.2 w.drew rfl;unfold appT at hu
 cases hd:P.underlying u with
 |none=>simp [hd] at hu
 |some d =>
  cases d<;>simp [hd] at hu <;>
   (simp [Builtin.append_,run_underlying ht,run_underlying hd,sizeOf,typeInfo,zeroValue,hi,hz,hx.1,hn,h63',h48',Question.forced,hf,hfo,newRow,grownCap]
    congr 2;apply Array.ext'
    simp [List.append_assoc])
end
end Go.Mach

namespace Go.Mach
section
variable {B:Base}{m m':Mem}{w:World}{Z:Nat->Prop}{μ:Locs}{F:Nat->Prop}
theorem Locs.set_self{μ:Locs}{r:Nat}{ℓ:Loc}(h:μ r=some ℓ):μ.set r ℓ=μ:=by
 funext s;by_cases e:s=r
 ·subst e;rw [Locs.set_at,h]
 ·exact Locs.set_ne _ _ e
theorem shut_sound(hM:MemOk B m w Z μ){r:Nat}{m0:Mem}(hs:m.shut r=some m0){ℓ:Loc}(hμ:μ r=some ℓ) :
  ∃ (Z' S':Nat->Prop) (s:Sh) (xs:List s.den),m0.roots[r]?=some (.arr s xs none)/\MemOk B m0 w Z' (μ.set r { ℓ with S:=S' })/\(∀ b,Z b->Z' b)/\Kept m m0:=by
 unfold Mem.shut at hs;split at hs
 ·rename_i s xs f hr;split at hs
  case h_2=>cases hs
  rename_i x m1 hg;cases hs;obtain ⟨ℓ',h5,h6,h7⟩:=hM.rt r _ hr (by simp);rw [hμ] at h5;cases h5;obtain ⟨t1,t2⟩:=take_root hM (Loose.none B m w Z μ) hr hμ rfl;have hi:=h6 f rfl;have h7':=h7;obtain ⟨q1,q2,q3,q4,q0,q5⟩:=h7
  have hbe:∃ b,ℓ.blk=some b:=by
   cases hb:ℓ.blk with
   |none=>rw [hb] at q5;obtain ⟨rfl,_⟩:=q5;simp at hi
   |some b=>exact ⟨b,rfl⟩
  obtain ⟨b,hb⟩:=hbe;rw [hb] at q5;obtain ⟨k1,k2,N,k3,k4,k5⟩:=q5;obtain ⟨wf,j1,j2,j3⟩:=k5 f.i hi;simp only [ElR,if_true] at j3;obtain ⟨⟨Z',F',S1,us1,us2,e1,e2,e3,e4,e5,e6,e7,e8,e9⟩,ek⟩:=get_sound s t1 t2 j3 hg;have:=e9.nil_inv;subst this;rw [List.append_nil] at e1;subst e1
  have key:ArrR w s.cells (xs.set f.i x) (lenOkS s xs.length) (λ_ us x S=>SR w Z' B.Y s us x S) { ℓ with S:=λd=>ℓ.S d\/S1 d }:=by
   refine h7'.putBack (R':=λus x S=>SR w Z' B.Y s us x S) hi (λd hd hS=>(e7 d hd).2 (.inr hS)) (λb' hb'=>?_) λj us S hj hji hR=>?_
   ·rw [hb] at hb';cases hb';exact ⟨wf,j1,j2,e8⟩
   ·simp only [ElR,if_neg (Ne.symm hji)] at hR;exact hR.up e5
  have hlt:r < m.roots.length:=(List.getElem?_eq_some_iff.1 hr).1;have hdead:m1.roots[r]?=some .dead:=ek.dead r (by simp [Mem.set,hlt]);have hlt1:r < m1.roots.length:=(List.getElem?_eq_some_iff.1 hdead).1
  obtain ⟨p1,_⟩:=put_root (x:=.arr s (xs.set f.i x) none) (ℓ:={ ℓ with S:=λd=>ℓ.S d\/S1 d }) e3 e4 hdead (ExtL.setS hμ) ⟨(λf hf=>by cases hf),by
   have:=key
   rwa [show lenOkS s xs.length=lenOkS s (xs.set f.i x).length from by simp] at this⟩ (λ_ d hd=>hd.elim (λh=>e6 d (.inr h)) λh=>(e7 d h).1)
  refine ⟨Z',_,s,xs.set f.i x,?_,p1,e5,?_⟩
  ·simp [Mem.set,hlt1]
  ·refine ⟨?_,ek.cur,λq hq=>?_⟩
   ·show (List.set _ _ _).length=_;rw [List.length_set,ek.len];simp [Mem.set]
   ·have hne:r≠q:=by rintro rfl;rw [hr] at hq;cases hq
    show (List.set _ _ _)[q]?=_;rw [List.getElem?_set_ne hne];exact ek.dead q (by simp only [Mem.set];rw [List.getElem?_set_ne hne];exact hq)
 ·rename_i s xs hr;cases hs
  exact ⟨Z,ℓ.S,s,xs,hr,by rw [show ({ ℓ with S:=ℓ.S }:Loc)=ℓ from rfl,Locs.set_self hμ];exact hM,λ_ h=>h,Kept.refl _⟩
 ·cases hs
theorem byte_range(b:UInt8):inRange .u8 (b.toNat:Int)=true:=by
 have:=b.toNat_lt;exact inRange_of (by have:IntKind.min .u8=0:=(by decide);omega) (by have:IntKind.max .u8=255:=(by decide);omega)
theorem nums_seq{Y:Nat->Prop}(s:List UInt8):SeqR w Z Y (.frz (.int .u8)) ((nums s).map (Value.int .u8)) (nums s) (λ_=>False):=by
 refine ⟨by simp [Sh.cells,Ty.cells],λ_ _=>False,λ_ _ _ h=>h,λ_ _ _ _ _ _ h=>h.elim,λi hi=>?_⟩;show Frz w Z (.int .u8) _ _
 have hi':i < s.length:=by simpa [nums] using hi
 simp only [Frz,Sh.cells,Ty.cells,Nat.mul_one];refine ⟨?_,by simpa [nums] using byte_range s[i]⟩;apply List.ext_getElem
 ·simp;omega
 ·intro k h1 h2
  have:k=0:=by simpa using h2
  subst this;simp
theorem srcOf_sound{P:Program}(hM:MemOk B m w Z μ){e:Ty}{x:AV}{v:Value}(hx:AR w Z μ x v){ys:List e.den}(h:srcOf m e x=some ys) :
  ∃ news,SeqR w Z B.Y (.frz e) news ys (λ_=>False)/\SrcRun P w e.cells v ys.length news:=by
 unfold srcOf at h;split at h
 ·rename_i s;split at h
  case h_2=>cases h
  rename_i he _;subst he;cases h
  obtain ⟨h1,_⟩:=(show v=strV s/\_ from hx)
  refine ⟨_,nums_seq s,?_⟩;rw [h1];have:=src_str (w:=w) (P:=P) s;simpa [nums,Ty.cells] using this
 ·rename_i c _
  obtain ⟨h1,_⟩:=plain_spec hM (show CR w Z μ c v from hx) h
  obtain ⟨us,g1,g2,a,cap,rfl,g4,g5⟩:=h1.seq (Y:=B.Y);refine ⟨us,g2,src_slice g1 ?_⟩;rcases g5 with rfl|⟨b,p,g5,_,g6⟩
  ·left;exact List.eq_nil_of_length_eq_zero (by simpa using g1)
  ·exact .inr ⟨b,p,g5,g6⟩
 ·cases h
theorem appSrc_sound{P:Program}{md m1:Mem}(hM0:MemOk B m w Z μ)(hM:MemOk B md w Z μ)(hF:Loose B md w Z μ F){s:Sh}{x:AV}{v:Value}(hx:AR w Z μ x v){ys:List s.den}(h:appSrc m md s x=some (ys,m1)) :
  ∃ (F' S:Nat->Prop) (news:List Value),MemOk B m1 w Z μ/\Loose B m1 w Z μ F'/\(∀ b,F b->F' b)/\(∀ b,S b->F' b/\¬ F b)/\Kept md m1/\SeqR w Z B.Y s news ys S/\SrcRun P w s.cells v ys.length news:=by
 unfold appSrc at h;split at h
 ·rename_i e;split at h
  case h_2=>cases h
  rename_i ys' hs;simp only [Option.some.injEq,Prod.mk.injEq] at h;obtain ⟨rfl,rfl⟩:=h;obtain ⟨news,g1,g2⟩:=srcOf_sound (P:=P) hM0 hx hs;exact ⟨F,λ_=>False,news,hM,hF,λ_ h=>h,λ_ h=>h.elim,Kept.refl _,g1,g2⟩
 ·simp only [Option.some.injEq,Prod.mk.injEq] at h;obtain ⟨rfl,rfl⟩:=h;have hv:v=.slice none 0 0:=hx;exact ⟨F,λ_=>False,[],hM,hF,λ_ h=>h,λ_ h=>h.elim,Kept.refl _,SeqR.nil,by rw [hv];exact src_slice (by simp) (.inl rfl)⟩
 ·rename_i r hne;split at h
  case h_2=>cases h
  rename_i s' ys' hr;split at h
  case h_2=>cases h
  rename_i he _;subst he;simp only [Option.some.injEq,Prod.mk.injEq] at h;obtain ⟨rfl,rfl⟩:=h
  obtain ⟨ℓ,m1,m2⟩:=(show ∃ ℓ,μ r=some ℓ/\SlR ℓ .full v from hx)
  obtain ⟨ℓ',h5,h6,h7⟩:=hM.rt r _ hr (by simp);rw [m1] at h5;cases h5;obtain ⟨t1,t2⟩:=take_root hM hF hr m1 rfl;have h7':ArrR w s'.cells ys' (lenOkS s' ys'.length) (λ_ us x S=>SR w Z B.Y s' us x S) ℓ:=h7;have hv:v=.slice (ℓ.addr 0) ℓ.len ℓ.cap:=m2;obtain ⟨q1,q2,q3,q4,q0,q5⟩:=h7;refine ⟨λb=>F b\/ℓ.S b,ℓ.S,?_⟩
  cases hb:ℓ.blk with
  |none =>
   rw [hb] at q5;obtain ⟨rfl,_⟩:=q5;refine ⟨[],t1,t2,λ_ h=>.inl h,λb hb=>⟨.inr hb,λhf=>hF.off b r hf ⟨_,ℓ,hr,rfl,m1,hb⟩⟩,Kept.setDead,SeqR.nil,?_⟩;rw [hv,q2];exact src_slice (by simp) (.inl rfl)
  |some b =>
   obtain ⟨us,g1,g2⟩:=h7'.seq hb;refine ⟨us,t1,t2,λ_ h=>.inl h,λb hb=>⟨.inr hb,λhf=>hF.off b r hf ⟨_,ℓ,hr,rfl,m1,hb⟩⟩,Kept.setDead,g2.grow λ_ h=>h.1,?_⟩;rw [hv,q2,ℓ.addr_some q0 hb,Nat.zero_mul,Nat.add_zero];exact src_slice g2.1 (.inr ⟨b,_,rfl,g1⟩)
 ·cases h
theorem setCells_new{b o n:Nat}{vs:List Value}(hb:BlockOk w b n)(hn:o+vs.length<=n):CellsAt (w.setCells b o vs) b o vs:=by
 intro k hk;have:=World.cell?_setCells_in b vs o w (λj hj=>hb.cell (by omega)) k hk;simpa using this
end
end Go.Mach

namespace Go.Mach
section
variable {B:Base}{E:Env}{st:St}{o:Oper}{a:Act}{w:World}{Z:Nat->Prop}{μ:Locs}{Φ:St->Prop}
theorem drew_heap(w:World):w.drew.heap=w.heap:=rfl
theorem append_new{P:Program}{m1:Mem}{F' S So:Nat->Prop}{s:Sh}{olds news:List Value}{xs ys:List s.den}(hM:MemOk B m1 w Z μ)(hF:Loose B m1 w Z μ F')
  (ho:SeqR w Z B.Y s olds xs So) (hn:SeqR w Z B.Y s news ys S) (hoS:∀ b,So b->F' b) (hnS:∀ b,S b->F' b) (hd:∀ d,So d->S d->False)
  {el:TypeId}{z:Array Value}{cap:Nat}(hz:z.size=s.cells) (hcap:(xs++ys).length<=cap) (hok:lenOkS s (xs++ys).length=true) (c1:μ m1.cur=none) (c2:m1.roots[m1.cur]?=some .dead) :
  ∃ μ',MemOk B (m1.push (.arr s (xs++ys) none)) (w.drew.alloc (.cells (olds.toArray++news.toArray++Builtin.zeroCells z (cap-(xs++ys).length)) el)) Z μ'/\μ'=μ.set m1.cur ⟨some w.heap.size,0,s.cells,(xs++ys).length,cap,λd=>d=w.heap.size\/(So d\/S d),none⟩:=by
 obtain ⟨d1,d2⟩:=world_step (w':=w.drew.alloc (.cells (olds.toArray++news.toArray++Builtin.zeroCells z (cap-(xs++ys).length)) el)) hM hF (λb hb _=>alloc_old w.drew _ hb) (by rw [alloc_size];exact Nat.le_succ _)
 have hseq:=(ho.append hn hd).same (w':=w.drew.alloc (.cells (olds.toArray++news.toArray++Builtin.zeroCells z (cap-(xs++ys).length)) el)) (λb hb=>by
  refine alloc_old w.drew _ ?_;rcases hb with (hb|hb)|hb|hb
  ·exact (hM.frz b hb).1
  ·exact Nat.lt_of_lt_of_le (hM.lent b hb).1 hM.size
  ·exact (hF.ok b (hoS b hb)).2.1
  ·exact (hF.ok b (hnS b hb)).2.1) (λ_ h=>h)
 have hall:(olds.toArray++news.toArray++Builtin.zeroCells z (cap-(xs++ys).length)).toList=(olds++news)++(Builtin.zeroCells z (cap-(xs++ys).length)).toList:=by simp
 have hcells:CellsAt (w.drew.alloc (.cells (olds.toArray++news.toArray++Builtin.zeroCells z (cap-(xs++ys).length)) el)) w.heap.size 0 (olds++news):=by
  have h1:=alloc_cells w.drew (olds.toArray++news.toArray++Builtin.zeroCells z (cap-(xs++ys).length)).toList el;simp only [Array.toArray_toList] at h1;rw [hall] at h1;intro k hk;have:=h1 k (by rw [List.length_append];omega);rw [List.getElem_append_left hk] at this;exact this
 have hlen:(olds++news).length=(xs++ys).length*s.cells:=(ho.append hn hd).1
 have hblock:BlockOk (w.drew.alloc (.cells (olds.toArray++news.toArray++Builtin.zeroCells z (cap-(xs++ys).length)) el)) w.heap.size (0+cap*s.cells):=by
  refine ⟨_,_,_,alloc_new w.drew _,?_,Nat.le_refl _,λk _=>by simp⟩
  have h1:(olds.toArray++news.toArray++Builtin.zeroCells z (cap-(xs++ys).length)).size=(olds++news).length+(cap-(xs++ys).length)*s.cells:=by
   simp [size_zeroCells,hz]
  rw [h1,hlen,<- Nat.add_mul]
  have:(xs++ys).length+(cap-(xs++ys).length)=cap:=by omega
  rw [this];omega
 have harr:=hseq.arr hcells hblock hcap (λhS=>by
  have:F' w.heap.size:=hS.elim (hoS _) (hnS _);have:=(hF.ok _ this).2.1
  omega) hok
 obtain ⟨p1,p2⟩:=make_root (x:=.arr s (xs++ys) none) (ℓ:=⟨some w.heap.size,0,s.cells,(xs++ys).length,cap,λd=>d=w.heap.size\/(So d\/S d),none⟩) d1 d2 c2 c1 ⟨(λf hf=>by cases hf),harr⟩ (λ_ d hd=>by
  rcases hd with rfl|hd|hd
  ·exact .inr ⟨Nat.le_refl _,by rw [alloc_size];exact Nat.lt_succ_self _⟩
  ·exact .inl (hoS d hd)
  ·exact .inl (hnS d hd))
 exact ⟨_,p1,rfl⟩
theorem append_run{c:Call}{x:Operand}{y:Operand}{v:Value}{w':World}(ho:o.op=.call c)(hc:c.callee=.builtin .append)(ha:c.args.toList=[x,y]){T U:TypeId}{rest:List TypeId}(ht:c.argTypes.toList=T::U::rest)
  (h:∀ ty,(Builtin.append_ (T::U::rest).toArray ty #[a.eval x,a.eval y]).run E.P w=.ok v w'):(execOp a.eval o).run E.P w=.ok (.value v) w':=by
 refine run_builtin ho hc λks=>?_
 have h1:c.args=#[x,y]:=by rw [<- c.args.toArray_toList,ha]
 have h2:c.argTypes=(T::U::rest).toArray:=by rw [<- c.argTypes.toArray_toList,ht]
 rw [h1,h2];simp only [builtin];have:=h o.type;simp at this ⊢;simp [this]
theorem sound_append(hR:Rel B st a w Z μ){n:Nat}(hF:Fresh st n μ)(hn:1<=n){c:Call}(ho:o.op=.call c)(hc:c.callee=.builtin .append)(h:(step E st o Res.ok).sat Φ) :
  o.wp E.P a w (Nxt B st n Z μ Φ) (λ_ _ _=>False):=by
 simp only [step,stepV,ho,hc] at h;split at h
 case h_2=>exact h.elim
 rename_i d y T U rest ha ht;split at h
 case h_2=>exact h.elim
 rename_i el hT;split at h
 case h_2=>exact h.elim
 rename_i s hs;split at h
 case h_2=>exact h.elim
 rename_i hb;simp only [etyOk,Bool.and_eq_true,beq_iff_eq,Bool.not_eq_true',beq_eq_false_iff_ne,decide_eq_true_eq] at hb;obtain ⟨⟨b2,b3,b4,b5⟩,hU,hzl⟩:=hb;unfold elemOf at hT;split at hT
 case h_2=>cases hT
 rename_i el' hT';cases hT;unfold zeroLen at hzl;split at hzl
 case h_2=>cases hzl
 rename_i zc hz;unfold zeroC at hz;split at hz
 case h_2=>cases hz
 rename_i i hi;split at hz
 case h_2=>cases hz
 rename_i zv hzv;cases hz
 have hsz:E.P.cellsOf el=i.size:=by simp [Program.cellsOf,hi]
 have hby:E.P.bytesOf el=i.bytes:=by simp [Program.bytesOf,hi]
 have hci:s.cells=i.size:=b2.trans hsz
 have hzs:zv.cells.size=s.cells:=by rw [b2];simpa using hzl
 have hby1:1<=i.bytes:=by have:=cells_le_minBS s;omega
 obtain ⟨f1,f2⟩:=hF 0 (by omega);rw [Nat.add_zero] at f1 f2;have hD:=hR.val d;have hY:=hR.val y
 have hroomOk:∀ k,roomFor E.P el k=true->lenOkS s k=true/\k*i.bytes<=2^47/\k<=2^47:=by
  intro k hk;simp only [roomFor,decide_eq_true_eq,hby] at hk;refine ⟨?_,hk,Nat.le_trans (Nat.le_mul_of_pos_right _ hby1) hk⟩;simp only [lenOkS,decide_eq_true_eq];exact Nat.le_trans (Nat.mul_le_mul_left _ (by omega)) hk
 generalize hqd:val st d=D at h hD;unfold appendK at h;split at h
 ·split at h
  case h_2=>exact h.elim
  rename_i ys m1 hsrc;obtain ⟨hroom,h⟩:=sat_need h;obtain ⟨r1,r2,r3⟩:=hroomOk _ hroom;obtain ⟨F',S,news,g1,g2,g3,g4,g5,g6,g7⟩:=appSrc_sound (P:=E.P) hR.mem hR.mem (Loose.none B st.mem w Z μ) hY hsrc;have hdv:a.eval d=.slice none 0 0:=hD;have hcur:m1.cur=st.mem.cur:=g5.cur;have c2:=g5.dead _ f2;rw [<- hcur] at c2
  have c1:μ m1.cur=none:=by rw [hcur];exact f1
  by_cases h0:ys.length=0
  ·have:ys=[]:=List.eq_nil_of_length_eq_zero h0;subst this
   have hrun:=append_run (v:=.slice none 0 0) (w':=w) ho hc ha ht (λty=>by
    rw [hdv];refine append_none (news:=news) hT' hU hi ?_ rest
    rw [<- hci];exact g7)
   obtain ⟨p1,p2⟩:=make_root (x:=.arr s [] none) (ℓ:=⟨none,0,s.cells,0,0,λ_=>False,none⟩) g1 g2 c2 c1 ⟨(λf hf=>by cases hf),rfl,rfl,Nat.le_refl _,by simp [lenOkS],rfl,rfl,rfl⟩ (λ_ d hd=>hd.elim);refine fin_value (x:=.c (.ref m1.cur .full)) hR hrun p1 (SameOn.refl _ _) (λ_ h=>h) (ExtL.set c1) ⟨_,Locs.set_at _ _ _,rfl⟩ h ?_ λr hr hμ=>?_
   ·simp only [Mem.push,List.length_set];exact g5.len
   ·rw [Locs.set_ne _ _ (by omega)];exact hμ
  ·have hrun:=append_run (a:=a) (E:=E) (w:=w) ho hc ha ht (λty=>by
    rw [hdv]
    exact append_grow (olds:=[]) (news:=news) (n:=ys.length) hT' hU hi hzv (by rw [<- hci];exact g7) (src_slice (by simp) (.inl rfl)) (by omega) (by omega) (by simpa using r2) rest)
   have hge:=grownCap_ge w (0+ys.length) 0 el;obtain ⟨μ',p1,p2⟩:=append_new (P:=E.P) (xs:=[]) (el:=el) (z:=zv.cells) (cap:=grownCap w (0+ys.length) 0 el) g1 g2 SeqR.nil g6 (So:=λ_=>False) (λ_ h=>h.elim) (λb hb=>(g4 b hb).1) (λ_ h=>h.elim) hzs (by simpa using hge) (by simpa using r1) c1 c2;subst p2;simp only [List.nil_append] at p1;refine fin_value (x:=.c (.ref m1.cur .full)) hR hrun (by simpa using p1) (λb hb=>alloc_old w.drew _ (hR.mem.frz b hb).1) (λ_ h=>h) (ExtL.set c1) ⟨_,Locs.set_at _ _ _,?_⟩ h ?_ λr hr hμ=>?_
   ·show _=_;simp [Loc.addr]
   ·simp only [Mem.push,List.length_set];exact g5.len
   ·rw [Locs.set_ne _ _ (by omega)];exact hμ
 ·rename_i r wd;split at h
  case h_2=>exact h.elim
  rename_i m0 hsh;split at h
  case h_2=>exact h.elim
  rename_i s' xs hr0;split at h
  case h_2=>exact h.elim
  rename_i _ he _ _;subst he;split at h
  case h_2=>exact h.elim
  rename_i ys m1 hsrc;obtain ⟨hroom,h⟩:=sat_need h;obtain ⟨r1,r2,r3⟩:=hroomOk _ hroom;obtain ⟨ℓ,μr,hv⟩:=hD;obtain ⟨Z0,S0,s2,xs2,hr0',hM0,hz0,hk0⟩:=shut_sound hR.mem hsh μr;rw [hr0] at hr0';cases hr0';have hext:=ExtL.setS (S:=S0) μr;obtain ⟨ℓ',h5,h6,h7⟩:=hM0.rt r _ hr0 (by simp);rw [Locs.set_at] at h5;have h7':ArrR w s'.cells xs (lenOkS s' xs.length) (λ_ us x S=>SR w Z0 B.Y s' us x S) ℓ':=h7;obtain ⟨t1,t2⟩:=take_root hM0 (Loose.none B m0 w Z0 _) hr0 (ℓ:=ℓ') (by rw [Locs.set_at];exact h5) rfl;obtain ⟨F',S,news,g1,g2,g3,g4,g5,g6,g7⟩:=appSrc_sound (P:=E.P) hM0 t1 t2 (hY.mono (SameOn.refl _ _) hz0 hext) hsrc;have hkept:Kept st.mem m1:=hk0.trans (Kept.setDead.trans g5);have hcur:m1.cur=st.mem.cur:=hkept.cur;have c2:=hkept.dead _ f2;rw [<- hcur] at c2
  have hne:st.mem.cur≠r:=by rintro rfl;rw [f1] at μr;cases μr
  have c1:(μ.set r { ℓ with S:=S0 }) m1.cur=none:=by rw [hcur,Locs.set_ne _ _ hne];exact f1
  have hlen':ℓ'.len=ℓ.len/\ℓ'.cap=ℓ.cap/\ℓ'.blk=ℓ.blk/\ℓ'.base=ℓ.base/\ℓ'.sz=ℓ.sz/\ℓ'.odd=ℓ.odd:=by cases h5;exact ⟨rfl,rfl,rfl,rfl,rfl,rfl⟩
  obtain ⟨e1,e2,e3,e4,e5,e6⟩:=hlen';obtain ⟨q1,q2,q3,q4,q0,q5⟩:=h7;obtain ⟨p,k,v1,v2,v3,v4,v5,v6⟩:=hv.slice' (by omega);have v3':=v3;rw [<- e1,q2] at v3';obtain ⟨w1,w2⟩:=win_of xs wd v3'
  have hwlen:(wd.of xs).length=wd.len ℓ.len:=by rw [w1,<- q2,e1]
  have hsum:wd.len xs.length+ys.length=((wd.of xs)++ys).length:=by rw [List.length_append,w1]
  rw [hsum] at r1 r2 r3
  have hold:∃ olds,SeqR w Z0 B.Y s' olds (wd.of xs) (λd=>ℓ'.S d/\∀ b,ℓ.blk=some b->d≠b)/\(olds=[]\/∃ b,ℓ.blk=some b/\CellsAt w b (ℓ.base+p*ℓ.sz) olds):=by
   rw [<- e3] at *
   cases hb:ℓ'.blk with
   |none =>
    rw [hb] at q5;obtain ⟨rfl,_⟩:=q5
    have:wd.of ([]:List s'.den)=[]:=by cases wd<;>simp [Win.of]
    rw [this];exact ⟨[],SeqR.nil,.inl rfl⟩
   |some b =>
    obtain ⟨us,k1,k2⟩:=h7'.seq hb;have hpart:=k2.part wd.off (wd.len xs.length) (by omega);rw [<- win_part xs wd v3'] at hpart;refine ⟨_,hpart.grow λd hd=>⟨hd.1,λb' hb'=>by cases hb';exact hd.2⟩,?_⟩;rcases v6 with v6|v6
    ·right;refine ⟨b,rfl,?_⟩;rw [v6,<- e4,<- e5,q1];exact k1.sub
    ·left
     have:wd.len xs.length=0:=by rw [<- q2,e1];omega
     rw [this];simp
  obtain ⟨olds,o1,o2⟩:=hold
  have hodd:ℓ.odd=none:=by rw [<- e6];exact q0
  have hS':∀ b,ℓ'.S b->F' b:=λb hb=>g3 b (.inr hb);have hsep:∀ d,(ℓ'.S d/\∀ b,ℓ.blk=some b->d≠b)->S d->False:=λd hd hs=>(g4 d hs).2 (.inr hd.1)
  have hout:∀ (ℓn:Loc) (r':Nat),(r' < st.mem.cur\/st.mem.cur+n<=r')->μ r'=none->((μ.set r { ℓ with S:=S0 }).set m1.cur ℓn) r'=none:=λℓn r' hr' hμ=>by
   have hne':r'≠r:=by rintro rfl;rw [μr] at hμ;cases hμ
   rw [Locs.set_ne _ _ (by omega),Locs.set_ne _ _ hne'];exact hμ
  have hl':∀ x,(m1.push x).roots.length=st.mem.roots.length:=λx=>by simp only [Mem.push,List.length_set];exact hkept.len
  by_cases hg:k < wd.len ℓ.len+ys.length
  ·have hrun:=append_run (a:=a) (E:=E) (w:=w) ho hc ha ht (λty=>by
    rw [v1]
    exact append_grow (olds:=olds) (news:=news) (n:=ys.length) hT' hU hi hzv (by rw [<- hci];exact g7) (src_slice (by rw [o1.1,hwlen,hci]) (by
     rcases o2 with o2|⟨b,o2,o3⟩
     ·exact .inl o2
     ·exact .inr ⟨b,_,ℓ.addr_some hodd o2 p,o3⟩)) hg (by rw [<- hwlen,<- List.length_append];exact r3) (by rw [<- hwlen,<- List.length_append];exact r2) rest)
   have hge:=grownCap_ge w (wd.len ℓ.len+ys.length) k el;obtain ⟨μ',p1,p2⟩:=append_new (P:=E.P) (el:=el) (z:=zv.cells) (cap:=grownCap w (wd.len ℓ.len+ys.length) k el) g1 g2 o1 g6 (λb hb=>hS' b hb.1) (λb hb=>(g4 b hb).1) hsep hzs (by rw [List.length_append,hwlen];exact hge) r1 c1 c2;subst p2;rw [List.length_append,hwlen] at p1;refine fin_value (x:=.c (.ref m1.cur .full)) hR hrun p1 (λb hb=>alloc_old w.drew _ (hR.mem.frz b hb).1) hz0 (hext.trans (ExtL.set c1)) ⟨_,Locs.set_at _ _ _,?_⟩ h (hl' _) (hout _);show _=_;simp [Loc.addr]
  ·have hroom':wd.len ℓ.len+ys.length<=k:=by omega
   cases hb:ℓ.blk with
   |none =>
    have hq5:=q5;rw [e3,hb] at hq5;obtain ⟨rfl,hc0⟩:=hq5;rw [e2] at hc0
    have hk0:k=0:=by omega
    have hys:ys.length=0:=by omega
    have hwl:wd.len ℓ.len=0:=by omega
    have:ys=[]:=List.eq_nil_of_length_eq_zero hys;subst this
    have hwn:wd.of ([]:List s'.den)=[]:=by cases wd<;>simp [Win.of]
    have haddr:ℓ.addr p=none:=by simp [Loc.addr,hodd,hb]
    have hrun:=append_run (v:=.slice none 0 0) (w':=w) ho hc ha ht (λty=>by
     rw [v1,haddr,hwl,hk0];refine append_none (news:=news) hT' hU hi ?_ rest
     rw [<- hci];exact g7)
    obtain ⟨p1,p2⟩:=make_root (x:=.arr s' (wd.of []++[]) none) (ℓ:=⟨none,0,s'.cells,0,0,λ_=>False,none⟩) g1 g2 c2 c1 ⟨(λf hf=>by cases hf),by rw [hwn];exact ⟨rfl,rfl,Nat.le_refl _,by simp [lenOkS],rfl,rfl,rfl⟩⟩ (λ_ d hd=>hd.elim);exact fin_value (x:=.c (.ref m1.cur .full)) hR hrun p1 (SameOn.refl _ _) hz0 (hext.trans (ExtL.set c1)) ⟨_,Locs.set_at _ _ _,rfl⟩ h (hl' _) (hout _)
   |some b =>
    rw [e3,hb] at q5;obtain ⟨kb,kB,_⟩:=q5;rw [e4,e2,e5] at kB
    have hsz':ℓ.sz=s'.cells:=by rw [<- e5];exact q1
    have hpk:p+k<=ℓ.cap:=by omega
    have hmul:=Nat.mul_le_mul_right ℓ.sz hpk;rw [Nat.add_mul] at hmul
    have hBp:BlockOk w b ((ℓ.base+p*ℓ.sz)+k*i.size):=by
     obtain ⟨vs,T',fz,x1,x2,x3⟩:=kB;refine ⟨vs,T',fz,x1,?_,x3⟩;rw [<- hci,<- hsz'];omega
    have hnl:news.length=ys.length*i.size:=by rw [g6.1,hci]
    have hol:olds.length=wd.len ℓ.len*i.size:=by rw [o1.1,hwlen,hci]
    have hmul2:=Nat.mul_le_mul_right i.size hroom';rw [Nat.add_mul] at hmul2
    have hrun:=append_run (a:=a) (E:=E) (w:=w) ho hc ha ht (λty=>by
     rw [v1,ℓ.addr_some hodd hb]
     exact append_room hT' hU hi (news:=news) (n:=ys.length) (by rw [<- hci];exact g7) hnl hroom' hBp (g6.one b5) rest)
    have hbF:F' b:=hS' b kb;have hOth:∀ c,c≠b->(w.setCells b (ℓ.base+p*ℓ.sz+wd.len ℓ.len*i.size) news).heap[c]?=w.heap[c]?:=λc hc=>setCells_other b hc _ _ _;have hbZ:∀ c,Z0 c->c≠b:=λc hc e=>(g2.ok b hbF).1 (e▸hc);have hbY:∀ c,B.Y c->c≠b:=λc hc e=>g2.lent g1 b hbF (e▸hc);obtain ⟨d1,d2⟩:=world_step (hio:=setCells_io _ _ _ _) (w':=w.setCells b (ℓ.base+p*ℓ.sz+wd.len ℓ.len*i.size) news) g1 g2 (λc _ hc=>hOth c λe=>hc (e▸hbF)) (by rw [setCells_size];exact Nat.le_refl _)
    have hseq:=(o1.append g6 hsep).same (w':=w.setCells b (ℓ.base+p*ℓ.sz+wd.len ℓ.len*i.size) news) (λc hc=>hOth c (by
     rcases hc with (hc|hc)|hc|hc
     ·exact hbZ c hc
     ·exact hbY c hc
     ·exact hc.2 b hb
     ·rintro rfl;exact (g4 _ hc).2 (.inr kb))) (λ_ h=>h)
    have hcells:CellsAt (w.setCells b (ℓ.base+p*ℓ.sz+wd.len ℓ.len*i.size) news) b (ℓ.base+p*ℓ.sz) (olds++news):=by
     refine CellsAt.append ?_ (by rw [hol];exact setCells_new hBp (by omega));rcases o2 with o2|⟨b',o2,o3⟩
     ·rw [o2];exact CellsAt.nil
     ·rw [hb] at o2;cases o2;exact setCells_off (by omega) o3
    have harr:=hseq.arr (cap:=k) hcells (setCells_block b _ _ _ (by rw [hci];exact hBp)) (by rw [List.length_append,hwlen];exact hroom') (λhS=>by
     rcases hS with hS|hS
     ·exact hS.2 b hb rfl
     ·exact (g4 _ hS).2 (.inr kb)) r1
    obtain ⟨p1,p2⟩:=make_root (x:=.arr s' (wd.of xs++ys) none) (ℓ:=⟨some b,ℓ.base+p*ℓ.sz,s'.cells,(wd.of xs++ys).length,k,λd=>d=b\/((ℓ'.S d/\∀ b,ℓ.blk=some b->d≠b)\/S d),none⟩) d1 d2 c2 c1 ⟨(λf hf=>by cases hf),harr⟩ (λ_ d hd=>by
     left;rcases hd with rfl|hd|hd
     ·exact hbF
     ·exact hS' d hd.1
     ·exact (g4 d hd).1)
    refine fin_value (x:=.c (.ref m1.cur .full)) hR hrun p1 (λc hc=>hOth c (hbZ c (hz0 c hc))) hz0 (hext.trans (ExtL.set c1)) ⟨_,Locs.set_at _ _ _,?_⟩ h (hl' _) (hout _);show _=_;simp [Loc.addr,hwlen]
 ·exact h.elim
end
end Go.Mach

namespace Go.Mach
section
variable {w:World}{Z:Nat->Prop}
def SrcPre(P:Program)(w:World)(c:Nat)(x:Value)(n:Nat)(news:List Value):Prop :=
 (Builtin.lenOf x).run P w=.ok n w/\∀ k,k<=n->(Builtin.firstCells c k x).run P w=.ok (news.take (k*c)).toArray w
theorem pre_slice{P:Program}{c:Nat}{a:Option Addr}{n cap:Nat}{news:List Value}(hl:news.length=n*c)(h:news=[]\/∃ b p,a=some ⟨b,p,none⟩/\CellsAt w b p news):SrcPre P w c (.slice a n cap) n news:=by
 refine ⟨by simp [Builtin.lenOf],λk hk=>?_⟩;have hkc:k*c<=n*c:=Nat.mul_le_mul_right _ hk
 cases a with
 |none =>
  rcases h with rfl|⟨b,p,h,_⟩
  ·simp [Builtin.firstCells]
  ·cases h
 |some ad =>
  refine run_firstCells_some (P:=P) w c k ad n cap (news.take (k*c)) (by rw [List.length_take];omega) λj v hv=>?_;rcases h with rfl|⟨b,p,h,hcs⟩
  ·simp at hv
  ·cases h
   have hv':news[j]?=some v:=by
    rw [List.getElem?_take] at hv;split at hv
    ·exact hv
    ·cases hv
   exact cellsAt_get hcs j v hv'
theorem pre_str{P:Program}(s:List UInt8):SrcPre P w 1 (strV s) s.length ((nums s).map (Value.int .u8)):=by
 refine ⟨by simp [Builtin.lenOf,strV,strV_size],λk hk=>?_⟩;simp only [Builtin.firstCells,strV,Sem.run_pure];congr 1;apply Array.ext';simp [nums,str_extract,List.map_take];rfl
theorem srcOf_pre{P:Program}{B:Base}{m:Mem}{μ:Locs}(hM:MemOk B m w Z μ){e:Ty}{x:AV}{v:Value}(hx:AR w Z μ x v){ys:List e.den}(h:srcOf m e x=some ys) :
  ∃ news,SeqR w Z B.Y (.frz e) news ys (λ_=>False)/\SrcPre P w e.cells v ys.length news:=by
 unfold srcOf at h;split at h
 ·rename_i s;split at h
  case h_2=>cases h
  rename_i he _;subst he;cases h
  obtain ⟨h1,_⟩:=(show v=strV s/\_ from hx)
  refine ⟨_,nums_seq s,?_⟩;rw [h1];have:=pre_str (w:=w) (P:=P) s;simpa [nums,Ty.cells] using this
 ·rename_i c _
  obtain ⟨h1,_⟩:=plain_spec hM (show CR w Z μ c v from hx) h
  obtain ⟨us,g1,g2,a,cap,rfl,g4,g5⟩:=h1.seq (Y:=B.Y);refine ⟨us,g2,pre_slice g1 ?_⟩;rcases g5 with rfl|⟨b,p,g5,_,g6⟩
  ·left;exact List.eq_nil_of_length_eq_zero (by simpa using g1)
  ·exact .inr ⟨b,p,g5,g6⟩
 ·cases h
theorem copy_run0{P:Program}{t ty e:TypeId}{i:TypeInfo}(ht:P.underlying t=some (.slice e))(hi:P.info? e=some i){sLen sCap n:Nat}{x:Value}{news:List Value}
  (hx:SrcPre P w i.size x n news) (rest:List TypeId) :
  (Builtin.copy_ (t::rest).toArray ty #[.slice none sLen sCap,x]).run P w=.ok (.int .i64 ((min n sLen:Nat):Int)) w:=by
 have hf:=hx.2 (min n sLen) (Nat.min_le_left _ _);simp [Builtin.copy_,run_underlying ht,sizeOf,typeInfo,hi,hx.1,hf,goInt]
theorem copy_run{P:Program}{t ty e:TypeId}{i:TypeInfo}(ht:P.underlying t=some (.slice e))(hi:P.info? e=some i){b off sLen sCap n N:Nat}{x:Value}{news:List Value}
  (hx:SrcPre P w i.size x n news) (hl:news.length=n*i.size) (hb:BlockOk w b N) (hN:off+min n sLen*i.size<=N) (h1:∀ v∈news,v.oneCell'=true) (rest:List TypeId) :
  (Builtin.copy_ (t::rest).toArray ty #[.slice (some ⟨b,off,none⟩) sLen sCap,x]).run P w=.ok (.int .i64 ((min n sLen:Nat):Int)) (w.setCells b off (news.take (min n sLen*i.size))):=by
 have hmin:min n sLen*i.size<=n*i.size:=Nat.mul_le_mul_right _ (Nat.min_le_left _ _);have hf:=hx.2 (min n sLen) (Nat.min_le_left _ _);have hst:=run_store_cells (P:=P) (o:=off) (vs:=news.take (min n sLen*i.size)) hb (by rw [List.length_take];omega) (λv hv=>h1 v (List.mem_of_mem_take hv));simp [Builtin.copy_,run_underlying ht,sizeOf,typeInfo,hi,hx.1,hf,goInt,hst]
end
section
variable {B:Base}{E:Env}{st:St}{o:Oper}{a:Act}{w:World}{Z:Nat->Prop}{μ:Locs}{Φ:St->Prop}
theorem sound_copy(hR:Rel B st a w Z μ)(n:Nat){c:Call}(ho:o.op=.call c)(hc:c.callee=.builtin .copy)(h:(step E st o Res.ok).sat Φ) :
  o.wp E.P a w (Nxt B st n Z μ Φ) (λ_ _ _=>False):=by
 simp only [step,stepV,ho,hc] at h;split at h
 case h_2=>exact h.elim
 rename_i d y T rest ha ht;split at h
 case h_2=>exact h.elim
 rename_i el hT;split at h
 case h_2=>exact h.elim
 rename_i e hs;split at h
 case h_2=>exact h.elim
 rename_i ys hsrc hb;simp only [etyOk,Bool.and_eq_true,beq_iff_eq,Bool.not_eq_true',beq_eq_false_iff_ne,decide_eq_true_eq] at hb;obtain ⟨b2,b3,b4,b5⟩:=hb;unfold elemOf at hT;split at hT
 case h_2=>cases hT
 rename_i el' hT';cases hT;have hD:=hR.val d;have hY:=hR.val y
 have hinfo:∃ i,E.P.info? el=some i:=by
  cases hi:E.P.info? el with
  |none=>simp [Program.cellsOf,hi] at b2;exact absurd b2 b3
  |some i=>exact ⟨i,rfl⟩
 obtain ⟨i,hi⟩:=hinfo
 have hci:e.cells=i.size:=by
  have:(Sh.frz e).cells=e.cells:=rfl;rw [<- this,b2];simp [Program.cellsOf,hi]
 obtain ⟨news,g6,g7⟩:=srcOf_pre (P:=E.P) hR.mem hY hsrc
 have hrunb:∀ {v:Value}{w':World},(∀ ty,(Builtin.copy_ (T::rest).toArray ty #[a.eval d,a.eval y]).run E.P w=.ok v w')->(execOp a.eval o).run E.P w=.ok (.value v) w':=λh=>by
  refine run_builtin ho hc λks=>?_
  have h1:c.args=#[d,y]:=by rw [<- c.args.toArray_toList,ha]
  have h2:c.argTypes=(T::rest).toArray:=by rw [<- c.argTypes.toArray_toList,ht]
  rw [h1,h2];simp only [builtin];have:=h o.type;simp at this ⊢;simp [this]
 generalize hqd:val st d=D at h hD;unfold copyK at h;split at h
 case h_2=>exact h.elim
 rename_i r wd;split at h
 case h_2=>exact h.elim
 rename_i e' xs hr;split at h
 case h_2=>exact h.elim
 rename_i he _;subst he;obtain ⟨ℓ,μr,hv⟩:=hD;obtain ⟨ℓ',h5,h6,h7⟩:=hR.mem.rt r _ hr (by simp);rw [μr] at h5;cases h5;have h7':ArrR w (Sh.frz e').cells xs (lenOkS (.frz e') xs.length) (λ_ us x S=>SR w Z B.Y (.frz e') us x S) ℓ:=h7;obtain ⟨q1,q2,q3,q4,q0,q5⟩:=h7;obtain ⟨p,k,v1,v2,v3,v4,v5,v6⟩:=hv.slice' (by omega);rw [q2] at v1 v2 v3;have q1':ℓ.sz=e'.cells:=q1;have hlt:r < st.mem.roots.length:=(List.getElem?_eq_some_iff.1 hr).1
 have hl48:wd.len xs.length<=2^47:=by
  have:=len_bound (e:=e') (n:=xs.length) q4 b3;omega
 have hrange:inRange .i64 ((min ys.length (wd.len xs.length):Nat):Int)=true:=nat_range (by omega)
 cases hbk:ℓ.blk with
 |none =>
  have hq5:=q5;rw [hbk] at hq5;obtain ⟨rfl,hc0⟩:=hq5
  have hwl:wd.len ([]:List e'.den).length=0:=by simp at v3 ⊢;omega
  have hrun:=hrunb (v:=.int .i64 ((min ys.length (wd.len ([]:List e'.den).length):Nat):Int)) (w':=w) (λty=>by
   rw [v1,show ℓ.addr p=none from by simp [Loc.addr,q0,hbk]]
   exact copy_run0 hT' hi (by rw [<- hci];exact g7) rest)
  have hnil:((List.take wd.off ([]:List e'.den))++(List.take (min ys.length (wd.len ([]:List e'.den).length)) ys++List.drop (wd.off+min ys.length (wd.len ([]:List e'.den).length)) []))=[]:=by
   rw [hwl];simp
  simp only at h;rw [hnil] at h;have hm:MemOk B (st.mem.set r (.arr (.frz e') [] none)) w Z μ:=hR.mem.change hr rfl rfl μr (λ_ _=>rfl) rfl ⟨(λf hf=>by cases hf),h7'⟩;exact fin_value (x:=.c (.int .i64 ((min ys.length (wd.len ([]:List e'.den).length):Nat):Int))) hR hrun hm (SameOn.refl _ _) (λ_ h=>h) (ExtL.refl μ) ⟨rfl,hrange⟩ h (by simp [Mem.set]) (λ_ _ h=>h)
 |some b =>
  rw [hbk] at q5;obtain ⟨kb,kB,_⟩:=q5;obtain ⟨us,u1,u2⟩:=h7'.seq hbk;have hul:us.length=xs.length*e'.cells:=u2.1;have hnl:news.length=ys.length*e'.cells:=g6.1
  let N:=min ys.length (wd.len xs.length)
  have hN1:N<=ys.length:=Nat.min_le_left _ _;have hN2:N<=wd.len xs.length:=Nat.min_le_right _ _
  have hNx:wd.off+N<=xs.length:=by omega
  have m1:=Nat.mul_le_mul_right e'.cells hNx;rw [Nat.add_mul] at m1;have m2:=Nat.mul_le_mul_right e'.cells hN1;have hcapm:=Nat.mul_le_mul_right ℓ.sz q3;rw [q1'] at kB hcapm
  have hpo:N=0\/p=wd.off:=by
   rcases v6 with v6|v6
   ·exact .inr v6
   ·left;omega
  have hap:ℓ.addr p=some ⟨b,ℓ.base+p*e'.cells,none⟩:=by rw [ℓ.addr_some q0 hbk,q1']
  have hpcap:p*e'.cells<=ℓ.cap*e'.cells:=Nat.mul_le_mul_right _ v5
  have hrun:=hrunb (v:=.int .i64 ((N:Nat):Int)) (w':=w.setCells b (ℓ.base+p*e'.cells) (news.take (N*e'.cells))) (λty=>by
   rw [v1,hap]
   have:=copy_run (ty:=ty) hT' hi (sCap:=k) (sLen:=wd.len xs.length) (by rw [<- hci];exact g7) (by rw [<- hci];exact hnl) kB (off:=ℓ.base+p*e'.cells) (by
    rw [<- hci];show _+N*e'.cells<=_;rcases hpo with hpo|hpo
    ·rw [hpo];omega
    ·rw [hpo];omega) (g6.one b5) rest
   rw [<- hci] at this
   exact this)
  have hZb:¬ Z b:=(hR.mem.own r _ ℓ b hr rfl μr kb).1;have hOth:∀ c,c≠b->(w.setCells b (ℓ.base+p*e'.cells) (news.take (N*e'.cells))).heap[c]?=w.heap[c]?:=λc hc=>setCells_other b hc _ _ _;have hSame:SameOn Z w (w.setCells b (ℓ.base+p*e'.cells) (news.take (N*e'.cells))):=λc hc=>hOth c (λe=>hZb (e▸hc))
  have hnl':(news.take (N*e'.cells)).length=N*e'.cells:=by rw [List.length_take];omega
  have hcells:CellsAt (w.setCells b (ℓ.base+p*e'.cells) (news.take (N*e'.cells))) b ℓ.base (us.take (wd.off*e'.cells)++(news.take (N*e'.cells)++us.drop (wd.off*e'.cells+N*e'.cells))):=by
   rcases hpo with hpo|hpo
   ·rw [hpo];simp only [Nat.zero_mul,List.take_zero,List.nil_append,Nat.add_zero,List.take_append_drop,World.setCells];exact u1
   ·rw [hpo];have:=setCells_in (vs:=news.take (N*e'.cells)) (o:=wd.off*e'.cells) kB (by omega) (by rw [hnl'];omega) u1;rw [hnl'] at this;exact this
  have hF0:∀ {us:List Value}{xs:List e'.den}{S:Nat->Prop},SeqR w Z B.Y (.frz e') us xs S->SeqR (w.setCells b (ℓ.base+p*e'.cells) (news.take (N*e'.cells))) Z B.Y (.frz e') us xs (λ_=>False):=by
   rintro us xs S ⟨h1,M,_,_,h4⟩
   exact ⟨h1,λ_ _=>False,λ_ _ _ h=>h,λ_ _ _ _ _ _ h=>h.elim,λi hi=>Frz.same hSame (λ_ h=>h) (show Frz w Z e' _ _ from h4 i hi)⟩
  have s1:=hF0 (u2.part 0 wd.off (by omega));have s2:=hF0 (g6.part 0 N (by omega));have s3:=hF0 (u2.part (wd.off+N) (xs.length-(wd.off+N)) (by omega));have hs:=(s1.append (s2.append s3 (λ_ h=>h.elim)) (λ_ h=>h.elim)).grow (S':=λ_=>False) (λ_ h=>h.elim id λh=>h.elim id id)
  have e1:(us.drop (0*(Sh.frz e').cells)).take (wd.off*(Sh.frz e').cells)=us.take (wd.off*e'.cells):=by simp [Sh.cells]
  have e2:(news.drop (0*(Sh.frz e').cells)).take (N*(Sh.frz e').cells)=news.take (N*e'.cells):=by simp [Sh.cells]
  have e3:(us.drop ((wd.off+N)*(Sh.frz e').cells)).take ((xs.length-(wd.off+N))*(Sh.frz e').cells)=us.drop (wd.off*e'.cells+N*e'.cells):=by
   show (us.drop ((wd.off+N)*e'.cells)).take ((xs.length-(wd.off+N))*e'.cells)=_;rw [Nat.add_mul,List.take_of_length_le];rw [List.length_drop,hul,Nat.sub_mul,Nat.add_mul];exact Nat.le_refl _
  have e4:((xs.drop (wd.off+N)).take (xs.length-(wd.off+N)))=xs.drop (wd.off+N):=by
   rw [List.take_of_length_le];simp
  rw [e1,e2,e3,e4] at hs;simp only [List.drop_zero] at hs
  have hlen:(xs.take wd.off++(ys.take N++xs.drop (wd.off+N))).length=xs.length:=by simp;omega
  have hm:MemOk B (st.mem.set r (.arr (.frz e') (xs.take wd.off++(ys.take N++xs.drop (wd.off+N))) none)) (w.setCells b (ℓ.base+p*e'.cells) (news.take (N*e'.cells))) Z μ:=by
   refine hR.mem.change (hio:=setCells_io _ _ _ _) hr rfl rfl μr (λc hc=>hOth c λe=>hc (e▸kb)) (setCells_size _ _ _ _) ⟨(λf hf=>by cases hf),q1,by rw [hlen];exact q2,by rw [hlen];exact q3,by rw [hlen];exact q4,q0,?_⟩;rw [hbk];refine ⟨kb,setCells_block b _ _ _ (by rw [q1'];exact kB),λ_ _=>False,λ_ _ _ h=>h.elim,λ_ _ _ _ _ _ h=>h.elim,λj hj=>?_⟩;obtain ⟨t1,t2⟩:=part_at hcells hs.1 hj;obtain ⟨M,_,_,t3⟩:=hs.2
   exact ⟨_,t1,by rw [q1'];exact t2,show Frz _ Z e' _ _ from t3 j hj⟩
  exact fin_value (x:=.c (.int .i64 ((N:Nat):Int))) hR hrun hm hSame (λ_ h=>h) (ExtL.refl μ) ⟨rfl,hrange⟩ h (by simp [Mem.set]) (λ_ _ h=>h)
end
end Go.Mach

namespace Go.Mach
section
variable (w:World) (Z Y:Nat->Prop)
def FormR(g:Bool)(us:List Value)(v:Value):Prop :=
 match g with
 |true=>v=.agg us.toArray
 |false=>us=[v]
def ValR(a:VSh)(v:Value)(x:a.2.den)(S:Nat->Prop):Prop:=∃ us,FormR a.1 us v/\us.length=a.2.cells/\SR w Z Y a.2 us x S
def ValsR:(l:List VSh)->List Value->dens l->(Nat->Prop)->Prop
 |[],vs,_,_=>vs=[]
 |[a],vs,x,S=>∃ v,vs=[v]/\ValR w Z Y a v x S
 |a::b::r,vs,x,S=>∃ v vs' S1 S2,vs=v::vs'/\(∀ d,S1 d->S d)/\(∀ d,S2 d->S d)/\(∀ d,S1 d->S2 d->False)/\ValR w Z Y a v x.1 S1/\ValsR (b::r) vs' x.2 S2
def OutsR:(ps:List Par)->List Value->{a:Type}->outs a (boxes ps)->(Nat->Prop)->Prop
 |[],_,_,_,_=>True
 |.obj s::r,vs,_,y,S=>∃ v vs' S1 S2,vs=v::vs'/\(∀ d,S1 d->S d)/\(∀ d,S2 d->S d)/\(∀ d,S1 d->S2 d->False)/\SR w Z Y s [v] (outFst (a:=s.den) (boxes r) y.2) S1/\OutsR r vs' (a:=s.den) y.2 S2
 |.val _ _::r,vs,_,y,S=>∃ v vs',vs=v::vs'/\OutsR r vs' y S
end
section
variable {B:Base}{w:World}{Z:Nat->Prop}{μ:Locs}
def ARs(w:World)(Z:Nat->Prop)(μ:Locs):List AV->List Value->Prop
 |[],vs=>vs=[]
 |x::xs,vs=>∃ v vs',vs=v::vs'/\AR w Z μ x v/\ARs w Z μ xs vs'
theorem ARs.mono{w':World}{Z':Nat->Prop}{μ':Locs}(h:SameOn Z w w')(hz:∀ b,Z b->Z' b)(hm:ExtL μ μ'):∀ {xs:List AV}{vs:List Value},ARs w Z μ xs vs->ARs w' Z' μ' xs vs
 |[],_,hc=>hc
 |x::xs,_,hc=>by
  obtain ⟨v,vs',rfl,h1,h2⟩:=hc;exact ⟨v,vs',rfl,h1.mono h hz hm,ARs.mono h hz hm h2⟩
theorem AR.formR{x:AV}{v:Value}{g:Bool}(h:AR w Z μ x v)(hf:x.form g=true):∃ us,FormR g us v/\CRs w Z μ x.cells us:=by
 cases x with
 |c c =>
  cases g with
  |true=>simp [AV.form] at hf
  |false=>exact ⟨[v],rfl,CRs.mk1 h⟩
 |agg cs =>
  cases g with
  |false=>simp [AV.form] at hf
  |true=>obtain ⟨vs,h1,h2⟩:=h;exact ⟨vs,h1,h2⟩
 |tup l=>simp [AV.form] at hf
theorem FormR.ar{g:Bool}{us:List Value}{v:Value}{cs:List C}(h:FormR g us v)(hc:CRs w Z μ cs us):AR w Z μ (avOf g cs) v:=by
 cases g with
 |true=>exact ⟨us,h,hc⟩
 |false =>
  have h:us=[v]:=h;subst h
  match cs,hc with
  |[],_=>trivial
  |c::cs,hc=>exact hc.2 0 (by simp) (by simp)
theorem ValR.up{Z' Y:Nat->Prop}{a:VSh}{v:Value}{x:a.2.den}{S:Nat->Prop}(hz:∀ b,Z b->Z' b)(h:ValR w Z Y a v x S):ValR w Z' Y a v x S:=by
 obtain ⟨us,h1,h2,h3⟩:=h;exact ⟨us,h1,h2,h3.up hz⟩
theorem ValR.grow{Y:Nat->Prop}{a:VSh}{v:Value}{x:a.2.den}{S S':Nat->Prop}(hS:∀ b,S b->S' b)(h:ValR w Z Y a v x S):ValR w Z Y a v x S':=by
 obtain ⟨us,h1,h2,h3⟩:=h;exact ⟨us,h1,h2,h3.grow hS⟩
theorem ValsR.grow{Y:Nat->Prop}:∀ {l:List VSh}{vs:List Value}{x:dens l}{S S':Nat->Prop},(∀ b,S b->S' b)->ValsR w Z Y l vs x S->ValsR w Z Y l vs x S'
 |[],_,_,_,_,_,h=>h
 |[a],_,_,_,_,hS,h=>by
  obtain ⟨v,h1,h2⟩:=h;exact ⟨v,h1,h2.grow hS⟩
 |a::b::r,_,_,_,_,hS,h=>by
  obtain ⟨v,vs',S1,S2,h1,h2,h3,h4,h5,h6⟩:=h;exact ⟨v,vs',S1,S2,h1,λd hd=>hS d (h2 d hd),λd hd=>hS d (h3 d hd),h4,h5,h6⟩
theorem getV_sound{a:VSh}{x:AV}{v:Value}{m m':Mem}{F:Nat->Prop}{y:a.2.den}(hM:MemOk B m w Z μ)(hF:Loose B m w Z μ F)(hx:AR w Z μ x v)(h:getV a x m=some (y,m')) :
  ∃ Z' F' S:Nat->Prop,MemOk B m' w Z' μ/\Loose B m' w Z' μ F'/\(∀ b,Z b->Z' b)/\(∀ b,F b->F' b)/\(∀ b,S b->F' b/\¬ F b)/\Kept m m'/\ValR w Z' B.Y a v y S:=by
 unfold getV at h;split at h
 case h_2=>cases h
 rename_i z m1 hf hg;simp only [Option.some.injEq,Prod.mk.injEq] at h;obtain ⟨rfl,rfl⟩:=h;obtain ⟨us,h1,h2⟩:=hx.formR hf;obtain ⟨⟨Z',F',S1,us1,us2,e1,e2,e3,e4,e5,e6,e7,e8,e9⟩,ek⟩:=get_sound a.2 hM hF h2 hg;have:=e9.nil_inv;subst this;rw [List.append_nil] at e1;subst e1;exact ⟨Z',F',S1,e3,e4,e5,e6,e7,ek,us,h1,e2,e8⟩
theorem gets_sound:∀ {l:List VSh}{xs:List AV}{vs:List Value}{m m':Mem}{Z F:Nat->Prop}{y:dens l},MemOk B m w Z μ->Loose B m w Z μ F->ARs w Z μ xs vs->gets l xs m=some (y,m') ->
  ∃ Z' F' S:Nat->Prop,MemOk B m' w Z' μ/\Loose B m' w Z' μ F'/\(∀ b,Z b->Z' b)/\(∀ b,F b->F' b)/\(∀ b,S b->F' b/\¬ F b)/\Kept m m'/\ValsR w Z' B.Y l vs y S
 |[],xs,vs,m,m',Z,F,y,hM,hF,hx,h=>by
  match xs,h with
  |[],h =>
   simp only [gets,Option.some.injEq,Prod.mk.injEq] at h;obtain ⟨_,rfl⟩:=h;exact ⟨Z,F,λ_=>False,hM,hF,λ_ h=>h,λ_ h=>h,λ_ h=>h.elim,Kept.refl _,hx⟩
 |[a],xs,vs,m,m',Z,F,y,hM,hF,hx,h=>by
  match xs,h with
  |[x],h =>
   obtain ⟨v,vs',rfl,h1,h2⟩:=hx;have h2:vs'=[]:=h2;subst h2;obtain ⟨Z',F',S,e1,e2,e3,e4,e5,e6,e7⟩:=getV_sound hM hF h1 h;exact ⟨Z',F',S,e1,e2,e3,e4,e5,e6,v,rfl,e7⟩
 |a::b::r,xs,vs,m,m',Z,F,y,hM,hF,hx,h=>by
  match xs,h with
  |x::xs,h =>
   obtain ⟨v,vs',rfl,h1,h2⟩:=hx;simp only [gets] at h;split at h
   case h_2=>cases h
   rename_i z m1 hg;split at h
   case h_2=>cases h
   rename_i z' m2 hgs;simp only [Option.some.injEq,Prod.mk.injEq] at h;obtain ⟨rfl,rfl⟩:=h;obtain ⟨Z1,F1,S1,e1,e2,e3,e4,e5,e6,e7⟩:=getV_sound hM hF h1 hg;obtain ⟨Z2,F2,S2,g1,g2,g3,g4,g5,g6,g7⟩:=gets_sound e1 e2 (h2.mono (SameOn.refl _ _) e3 (ExtL.refl μ)) hgs;refine ⟨Z2,F2,λd=>S1 d\/S2 d,g1,g2,λb hb=>g3 b (e3 b hb),λb hb=>g4 b (e4 b hb),λd hd=>?_,e6.trans g6,v,vs',S1,S2,rfl,λ_ h=>.inl h,λ_ h=>.inr h,λd a b=>(g5 d b).2 (e5 d a).1,e7.up g3,g7⟩;rcases hd with hd|hd
   ·exact ⟨g4 d (e5 d hd).1,(e5 d hd).2⟩
   ·exact ⟨(g5 d hd).1,λhf=>(g5 d hd).2 (e4 d hf)⟩
def GotC(B:Base)(w:World)(μ:Locs)(Z1:Nat->Prop)(l:List VSh)(vs:List Value)(g:Mem->Option (dens l))(S:Nat->Prop):Prop :=
 ∀ (mE:Mem) (ZE V:Nat->Prop),MemOk B mE w ZE μ->(∀ b,Z1 b->ZE b)->(∀ b,B.Y b\/ZE b->V b)->(∀ r b,OwnsAt mE μ r b->V b)->∀ x,g mE=some x->ValsR w ZE V l vs x S
theorem SR.lendY{Y Y':Nat->Prop}(hy:∀ b,Y b->Y' b){s:Sh}{us:List Value}{x:s.den}{S:Nat->Prop}(h:SR w Z Y s us x S):SR w Z Y' s us x S:=h.same (λ_ h=>h) hy (SameOn.refl _ _)
theorem getC_sound{a:VSh}{x:AV}{v:Value}{m m':Mem}{F:Nat->Prop}{g:Mem->Option a.2.den}(hM:MemOk B m w Z μ)(hF:Loose B m w Z μ F)(hx:AR w Z μ x v)(h:getC a x m=some (g,m')) :
  ∃ Z' F' S:Nat->Prop,MemOk B m' w Z' μ/\Loose B m' w Z' μ F'/\(∀ b,Z b->Z' b)/\(∀ b,F b->F' b)/\(∀ b,S b->F' b/\¬ F b)/\Kept m m'/\GotC B w μ Z' [a] [v] g S:=by
 unfold getC at h;split at h
 ·rename_i gb s;split at h
  case h_2=>cases h
  rename_i hf;simp only [Option.some.injEq,Prod.mk.injEq] at h;obtain ⟨rfl,rfl⟩:=h;obtain ⟨us,h1,h2⟩:=hx.formR hf;refine ⟨Z,F,λ_=>False,hM,hF,λ_ h=>h,λ_ h=>h,λ_ h=>h.elim,Kept.refl _,λmE ZE V hME hZE hV hO y hy=>?_⟩;dsimp only at hy;split at hy
  case h_2=>cases hy
  rename_i z hz;simp only [Option.some.injEq] at hy;subst hy;obtain ⟨us1,us2,e1,e2,e3,e4⟩:=getB_spec (st:=false) hME hV (λ_=>hO) s (h2.mono (SameOn.refl _ _) hZE (ExtL.refl μ)) hz;have:=e4.nil_inv;subst this;rw [List.append_nil] at e1;subst e1;refine ⟨v,rfl,us,h1,e2,?_⟩;simp only [SR];exact BR.same (SameOn.refl _ _) (λ_ h=>h) (λb hb=>.inl hb) e3
 ·split at h
  case h_2=>cases h
  rename_i z m1 hg;simp only [Option.some.injEq,Prod.mk.injEq] at h;obtain ⟨rfl,rfl⟩:=h;obtain ⟨Z',F',S,e1,e2,e3,e4,e5,e6,us,e7,e8,e9⟩:=getV_sound hM hF hx hg;refine ⟨Z',F',S,e1,e2,e3,e4,e5,e6,λmE ZE V hME hZE hV hO y hy=>?_⟩;dsimp only at hy;simp only [Option.some.injEq] at hy;subst hy;exact ⟨v,rfl,us,e7,e8,(e9.up hZE).lendY λb hb=>hV b (.inl hb)⟩
theorem getsC_sound:∀ {l:List VSh}{xs:List AV}{vs:List Value}{m m':Mem}{Z F:Nat->Prop}{g:Mem->Option (dens l)},MemOk B m w Z μ->Loose B m w Z μ F->ARs w Z μ xs vs->getsC l xs m=some (g,m') ->
  ∃ Z' F' S:Nat->Prop,MemOk B m' w Z' μ/\Loose B m' w Z' μ F'/\(∀ b,Z b->Z' b)/\(∀ b,F b->F' b)/\(∀ b,S b->F' b/\¬ F b)/\Kept m m'/\GotC B w μ Z' l vs g S
 |[],xs,vs,m,m',Z,F,g,hM,hF,hx,h=>by
  match xs,h with
  |[],h =>
   simp only [getsC,Option.some.injEq,Prod.mk.injEq] at h;obtain ⟨_,rfl⟩:=h;exact ⟨Z,F,λ_=>False,hM,hF,λ_ h=>h,λ_ h=>h,λ_ h=>h.elim,Kept.refl _,λ_ _ _ _ _ _ _ _ _=>hx⟩
 |[a],xs,vs,m,m',Z,F,g,hM,hF,hx,h=>by
  match xs,h with
  |[x],h =>
   obtain ⟨v,vs',rfl,h1,h2⟩:=hx;have h2:vs'=[]:=h2;subst h2;exact getC_sound hM hF h1 h
 |a::b::r,xs,vs,m,m',Z,F,g,hM,hF,hx,h=>by
  match xs,h with
  |x::xs,h =>
   obtain ⟨v,vs',rfl,h1,h2⟩:=hx;simp only [getsC] at h;split at h
   case h_2=>cases h
   rename_i g1 m1 hg;split at h
   case h_2=>cases h
   rename_i g2 m2 hgs;simp only [Option.some.injEq,Prod.mk.injEq] at h;obtain ⟨rfl,rfl⟩:=h;obtain ⟨Z1,F1,S1,e1,e2,e3,e4,e5,e6,e7⟩:=getC_sound hM hF h1 hg;obtain ⟨Z2,F2,S2,d1,d2,d3,d4,d5,d6,d7⟩:=getsC_sound e1 e2 (h2.mono (SameOn.refl _ _) e3 (ExtL.refl μ)) hgs;refine ⟨Z2,F2,λd=>S1 d\/S2 d,d1,d2,λb hb=>d3 b (e3 b hb),λb hb=>d4 b (e4 b hb),λd hd=>?_,e6.trans d6,λmE ZE V hME hZE hV hO y hy=>?_⟩
   ·rcases hd with hd|hd
    ·exact ⟨d4 d (e5 d hd).1,(e5 d hd).2⟩
    ·exact ⟨(d5 d hd).1,λhf=>(d5 d hd).2 (e4 d hf)⟩
   ·dsimp only at hy;split at hy
    case h_2=>cases hy
    rename_i y1 y2 hy1 hy2;simp only [Option.some.injEq] at hy;subst hy;obtain ⟨v0,hv0,k1⟩:=e7 mE ZE V hME (λb hb=>hZE b (d3 b hb)) hV hO y1 hy1;cases hv0;exact ⟨v,vs',S1,S2,rfl,λ_ h=>.inl h,λ_ h=>.inr h,λd a b=>(d5 d b).2 (e5 d a).1,k1,d7 mE ZE V hME hZE hV hO y2 hy2⟩
theorem mks_sound:∀ {l:List VSh}{vs:List Value}{x:dens l}{m:Mem}{Z F S:Nat->Prop}{μ:Locs},MemOk B m w Z μ->Loose B m w Z μ F->Free m μ (newsL l)->ValsR w Z B.Y l vs x S->(∀ b,S b->F b) ->
  ∃ μ',MemOk B (mks l x m).2 w Z μ'/\Loose B (mks l x m).2 w Z μ' (λb=>F b/\¬ S b)/\ARs w Z μ' (mks l x m).1 vs/\Grow m (mks l x m).2 μ μ' (newsL l)
 |[],vs,x,m,Z,F,S,μ,hM,hF,hf,h,hS=>⟨μ,hM,hF.grow λb hb=>hb.1,h,Grow.refl m μ⟩
 |[a],vs,x,m,Z,F,S,μ,hM,hF,hf,h,hS=>by
  obtain ⟨v,rfl,us,h1,h2,h3⟩:=h;obtain ⟨⟨μ',e1,e2,e3,e4⟩,_⟩:=mk_sound a.2 hM hF hf h3 hS;exact ⟨μ',e1,e2,⟨v,[],rfl,h1.ar e3,rfl⟩,e4⟩
 |a::b::r,vs,x,m,Z,F,S,μ,hM,hF,hf,h,hS=>by
  obtain ⟨v,vs',S1,S2,rfl,h2,h3,h4,⟨us,h5,h6,h7⟩,h8⟩:=h;obtain ⟨⟨μ1,e1,e2,e3,e4⟩,_⟩:=mk_sound a.2 hM hF hf.left h7 (λd hd=>hS d (h2 d hd));obtain ⟨μ2,g1,g2,g3,g4⟩:=mks_sound (l:=b::r) e1 e2 (hf.right e4) h8 (λd hd=>⟨hS d (h3 d hd),λh=>h4 d h hd⟩);exact ⟨μ2,g1,g2.grow λd hd=>⟨⟨hd.1,λh=>hd.2 (h2 d h)⟩,λh=>hd.2 (h3 d h)⟩,⟨v,vs',rfl,(h5.ar e3).mono (SameOn.refl _ _) (λ_ h=>h) g4.ext,g3⟩,e4.trans g4⟩
theorem MemOk.congr{m m':Mem}(h:MemOk B m w Z μ)(hr:m'.roots=m.roots):MemOk B m' w Z μ :=
 ⟨λr x hx hd=>h.rt r x (hr▸hx) hd,λr s x y ℓ ℓ' hrs hx hy=>h.dj r s x y ℓ ℓ' hrs (hr▸hx) (hr▸hy),λr x ℓ b hx=>h.own r x ℓ b (hr▸hx),h.frz,h.frz0,h.size,h.keep,λr hr'=>h.far r (hr▸hr'),h.lent,h.io⟩
theorem OwnsAt.congr{m m':Mem}(hr:m'.roots=m.roots){r b:Nat}(h:OwnsAt m' μ r b):OwnsAt m μ r b:=by
 obtain ⟨x,ℓ,h1,h2⟩:=h;exact ⟨x,ℓ,hr▸h1,h2⟩
theorem Loose.congr{m m':Mem}{F:Nat->Prop}(h:Loose B m w Z μ F)(hr:m'.roots=m.roots):Loose B m' w Z μ F:=⟨h.ok,λb r hb ho=>h.off b r hb (ho.congr hr)⟩
theorem move_sound{m:Mem}{F:Nat->Prop}(hM:MemOk B m w Z μ)(hF:Loose B m w Z μ F){q p:Nat}{x:Root}{ℓq ℓp:Loc}(hq:m.roots[q]?=some x)(ho:x.owns=true)(hμq:μ q=some ℓq)(hp:m.roots[p]?=some .dead)(hμp:μ p=some ℓp)
  (hok:RootOk w Z B.Y (μ.set p { ℓp with S:=ℓq.S }) { ℓp with S:=ℓq.S } x) :
  MemOk B (m.move q p) w Z (μ.set p { ℓp with S:=ℓq.S })/\Loose B (m.move q p) w Z (μ.set p { ℓp with S:=ℓq.S }) F:=by
 obtain ⟨t1,t2⟩:=take_root hM hF hq hμq ho
 have hne:q≠p:=by rintro rfl;rw [hq] at hp;cases hp;simp [Root.owns] at ho
 have hdead:(m.set q .dead).roots[p]?=some .dead:=by simp only [Mem.set];rw [List.getElem?_set_ne hne];exact hp
 obtain ⟨p1,p2⟩:=put_root (x:=x) (ℓ:={ ℓp with S:=ℓq.S }) t1 t2 hdead (ExtL.setS hμp) hok (λ_ b hb=>.inr hb)
 have hr:(m.move q p).roots=((m.set q .dead).set p x).roots:=by simp [Mem.move,Mem.set,hq]
 refine ⟨p1.congr hr,(p2.grow λb hb=>⟨.inl hb,λ_ hs=>hF.off b q hb ⟨x,ℓq,hq,ho,hμq,hs⟩⟩).congr hr⟩
def PlaceR(μ:Locs)(s:Sh)(x:AV):Prop :=
 match s,x with
 |.own s,.c (.ref p .full)=>∃ ℓ,μ p=some ℓ/\ℓ.sz=s.cells/\ℓ.odd=none
 |_,_=>True
theorem PlaceR.ext{μ μ':Locs}(he:ExtL μ μ'){s:Sh}{x:AV}(h:PlaceR μ s x):PlaceR μ' s x:=by
 unfold PlaceR at h ⊢;split
 ·rename_i s p;obtain ⟨ℓ,h1,h2,h3⟩:=h;obtain ⟨S',h4⟩:=he p ℓ h1;exact ⟨_,h4,h2,h3⟩
 ·trivial
theorem ArrR.place{c:Nat}{α:Type}{xs:List α}{lok:Bool}{R:Nat->List Value->α->(Nat->Prop)->Prop}{ℓq ℓp:Loc}(h:ArrR w c xs lok R ℓq)(hsz:ℓp.sz=c)(hod:ℓp.odd=none)
  (hv:Value.slice (ℓq.addr 0) ℓq.len ℓq.cap=.slice (ℓp.addr 0) ℓp.len ℓp.cap):ArrR w c xs lok R { ℓp with S:=ℓq.S }:=by
 obtain ⟨h1,h2,h3,h4,h0,h5⟩:=h;simp only [Value.slice.injEq] at hv;obtain ⟨v1,v2,v3⟩:=hv;refine ⟨hsz,by rw [<- v2];exact h2,by rw [<- v3];exact h3,h4,hod,?_⟩
 cases hb:ℓq.blk with
 |none =>
  rw [hb] at h5
  have:ℓp.blk=none:=by
   cases hbp:ℓp.blk with
   |none=>rfl
   |some b=>simp [Loc.addr,h0,hod,hb,hbp] at v1
  simp only [this];exact ⟨h5.1,by rw [<- v3];exact h5.2⟩
 |some b =>
  rw [hb] at h5
  have:ℓp.blk=some b/\ℓp.base=ℓq.base:=by
   cases hbp:ℓp.blk with
   |none=>simp [Loc.addr,h0,hod,hb,hbp] at v1
   |some b' =>
    simp [Loc.addr,h0,hod,hb,hbp] at v1;exact ⟨by rw [v1.1],v1.2.symm⟩
  simp only [this.1,this.2,hsz,<- v3];rw [h1] at h5;exact h5
theorem backAt_sound{s:Sh}{v:AV}{u:Value}{x:s.den}{m m':Mem}{F S:Nat->Prop}(hs:s.objOk=true)(hw:v.whole=true)(hM:MemOk B m w Z μ)(hF:Loose B m w Z μ F)(hf:Free m μ s.news)(hv:AR w Z μ v u)(hpl:PlaceR μ s v)
  (hx:SR w Z B.Y s [u] x S) (hS:∀ b,S b->F b) (h:backAt s v x m=some m') :
  ∃ μ',MemOk B m' w Z μ'/\Loose B m' w Z μ' (λb=>F b/\¬ S b)/\ExtL μ μ'/\m'.roots.length=m.roots.length/\m'.cur=m.cur+s.news /\
   (∀ r,(r < m.cur\/m.cur+s.news<=r)->(μ r=none->μ' r=none)/\(m.roots[r]?=some .dead->μ r=none->m'.roots[r]?=some .dead)):=by
 obtain ⟨⟨μ1,e1,e2,e3,e4⟩,_⟩:=mk_sound s hM hF hf hx hS;unfold backAt at h;generalize hmk:s.mk x m=k at h e1 e2 e3 e4;obtain ⟨cs,m1⟩:=k;simp only at h e1 e2 e3 e4;split at h
 case h_2=>cases h
 rename_i c y;have hcv:AR w Z μ1 (.c y) u:=hv.mono (SameOn.refl _ _) (λ_ h=>h) e4.ext;have hpl':=hpl.ext e4.ext
 have hcc:CR w Z μ1 c u:=by
  obtain ⟨v',hv',g⟩:=e3.one;cases hv';exact g
 split at h
 ·rename_i q p hq hp;unfold Mem.move? at h;split at h
  case h_2=>cases h
  rename_i hdead;cases h
  have hfin:∀ (xr:Root) (ℓq ℓp:Loc),m1.roots[q]?=some xr->xr.owns=true->μ1 q=some ℓq->μ1 p=some ℓp->RootOk w Z B.Y (μ1.set p { ℓp with S:=ℓq.S }) { ℓp with S:=ℓq.S } xr ->
    ∃ μ',MemOk B (m1.move q p) w Z μ'/\Loose B (m1.move q p) w Z μ' (λb=>F b/\¬ S b)/\ExtL μ μ'/\(m1.move q p).roots.length=m.roots.length/\(m1.move q p).cur=m.cur+s.news /\
     (∀ r,(r < m.cur\/m.cur+s.news<=r)->(μ r=none->μ' r=none)/\(m.roots[r]?=some .dead->μ r=none->(m1.move q p).roots[r]?=some .dead)):=by
   intro xr ℓq ℓp a1 a2 a3 a4 a5;obtain ⟨b1,b2⟩:=move_sound e1 e2 a1 a2 a3 hdead a4 a5;refine ⟨_,b1,b2,e4.ext.trans (ExtL.setS a4),by simp only [Mem.move,List.length_set];exact e4.len,e4.cur,λr hr=>?_⟩;obtain ⟨o1,o2⟩:=e4.old r hr;refine ⟨λhn=>?_,λhd hn=>?_⟩
   ·have hne:r≠p:=by rintro rfl;rw [o1,hn] at a4;cases a4
    rw [Locs.set_ne _ _ hne,o1];exact hn
   ·have hne:p≠r:=by rintro rfl;rw [o1,hn] at a4;cases a4
    have hne':q≠r:=by rintro rfl;rw [o1,hn] at a3;cases a3
    simp only [Mem.move];rw [List.getElem?_set_ne hne,List.getElem?_set_ne hne',o2];exact hd
  cases s with
  |own s =>
   simp only [Sh.mk,Prod.mk.injEq,List.cons.injEq,and_true] at hmk;obtain ⟨rfl,rfl⟩:=hmk;simp only [C.root?,Option.some.injEq] at hq;subst hq;obtain ⟨ℓq,μq,sq⟩:=hcc;have hcq:m.cur < m.roots.length:=(List.getElem?_eq_some_iff.1 (hf 0 (by simp [Sh.news])).2).1
   have hroot:(m.push (.arr s x none)).roots[m.cur]?=some (.arr s x none):=by simp [Mem.push,hcq]
   obtain ⟨ℓ',k1,k2,k3⟩:=e1.rt _ _ hroot (by simp);rw [μq] at k1;cases k1
   cases y with
   |ref p' wd =>
    cases wd with
    |sub _ _=>simp [AV.whole] at hw
    |full =>
     simp only [C.root?,Option.some.injEq] at hp;subst hp
     obtain ⟨ℓp,μp,sp⟩:=(show ∃ ℓ,μ1 p'=some ℓ/\SlR ℓ .full u from hcv)
     obtain ⟨ℓ2,μ2,z1,z2⟩:=hpl';rw [μp] at μ2;cases μ2
     have he:Value.slice (ℓq.addr 0) ℓq.len ℓq.cap=.slice (ℓp.addr 0) ℓp.len ℓp.cap:=by
      rw [<- (show u=_ from sq),<- (show u=_ from sp)]
     exact hfin _ ℓq ℓp hroot rfl μq μp ⟨(λf hf=>by cases hf),(k3.place z1 z2 he).mono (SameOn.refl _ _) λi us x S _ _ hR=>hR⟩
   |ptr p' off =>
    exfalso
    obtain ⟨_,_,_,_,h1⟩:=(show PtrR μ1 p' off u from hcv)
    rw [show u=_ from sq] at h1;cases h1
   |_=>simp [C.root?] at hp
  |box s =>
   simp only [Sh.mk,Prod.mk.injEq,List.cons.injEq,and_true] at hmk;obtain ⟨rfl,rfl⟩:=hmk;simp only [C.root?,Option.some.injEq] at hq;subst hq;obtain ⟨ℓq,bq,μq,hbq,huq⟩:=hcc
   have hcq:(s.mk x m).2.cur < (s.mk x m).2.roots.length:=by
    have h1:=e4.len;have h2:=e4.cur;simp only [Mem.push,List.length_set,Sh.news] at h1 h2;have h3:=(hf s.news (by simp [Sh.news])).2;have h4:=(List.getElem?_eq_some_iff.1 h3).1;omega
   have hroot:((s.mk x m).2.push (.box (s.mk x m).1)).roots[(s.mk x m).2.cur]?=some (.box (s.mk x m).1):=by simp [Mem.push,hcq]
   obtain ⟨ℓ',k1,b',k2,k3,k4,us,k5,k6⟩:=e1.rt _ _ hroot (by simp);rw [μq] at k1;cases k1;rw [hbq] at k2;cases k2
   cases y with
   |ptr p' off =>
    cases off with
    |succ _=>simp [AV.whole] at hw
    |zero =>
     simp only [C.root?,Option.some.injEq] at hp;subst hp
     obtain ⟨ℓp,bp,μp,hbp,hup⟩:=(show PtrR μ1 p' 0 u from hcv)
     rw [huq] at hup;simp only [Value.pointer.injEq,Option.some.injEq,Addr.mk.injEq,Nat.add_zero,and_true] at hup;obtain ⟨rfl,hbase⟩:=hup;exact hfin _ ℓq ℓp hroot rfl μq μp ⟨bq,hbp,k3,by rw [<- hbase];exact k4,us,by rw [<- hbase];exact k5,k6.mono (SameOn.refl _ _) (λ_ h=>h) (ExtL.setS μp)⟩
   |ref p' wd =>
    exfalso
    obtain ⟨ℓp,_,h1⟩:=(show ∃ ℓ,μ1 p'=some ℓ/\SlR ℓ wd u from hcv)
    rw [huq] at h1
    cases wd with
    |full=>cases (show _=_ from h1)
    |sub _ _=>obtain ⟨_,_,h2,_⟩:=h1;cases h2
   |_=>simp [C.root?] at hp
  |sb pq =>
   simp only [Sh.mk,Prod.mk.injEq,List.cons.injEq,and_true] at hmk;obtain ⟨rfl,rfl⟩:=hmk;simp only [C.root?,Option.some.injEq] at hq;subst hq;obtain ⟨ℓq,bq,μq,hbq,huq⟩:=hcc;have hcq:m.cur < m.roots.length:=(List.getElem?_eq_some_iff.1 (hf 0 (by simp [Sh.news])).2).1
   have hroot:(m.push (.sb pq x)).roots[m.cur]?=some (.sb pq x):=by simp [Mem.push,hcq]
   obtain ⟨ℓ',k1,b',k2,k3,k4⟩:=e1.rt _ _ hroot (by simp);rw [μq] at k1;cases k1;rw [hbq] at k2;cases k2
   cases y with
   |ptr p' off =>
    cases off with
    |succ _=>simp [AV.whole] at hw
    |zero =>
     simp only [C.root?,Option.some.injEq] at hp;subst hp
     obtain ⟨ℓp,bp,μp,hbp,hup⟩:=(show PtrR μ1 p' 0 u from hcv)
     rw [huq] at hup;simp only [Value.pointer.injEq,Option.some.injEq,Addr.mk.injEq,Nat.add_zero,and_true] at hup;obtain ⟨rfl,hbase⟩:=hup;exact hfin _ ℓq ℓp hroot rfl μq μp ⟨bq,hbp,by rw [<- hbase];exact k3,k4⟩
   |ref p' wd =>
    exfalso
    obtain ⟨ℓp,_,h1⟩:=(show ∃ ℓ,μ1 p'=some ℓ/\SlR ℓ wd u from hcv)
    rw [huq] at h1
    cases wd with
    |full=>cases (show _=_ from h1)
    |sub _ _=>obtain ⟨_,_,h2,_⟩:=h1;cases h2
   |_=>simp [C.root?] at hp
  |_=>simp [Sh.objOk] at hs
 ·cases h;exact ⟨μ1,e1,e2,e4.ext,e4.len,e4.cur,λr hr=>⟨λhn=>by rw [(e4.old r hr).1];exact hn,λhd _=>by rw [(e4.old r hr).2];exact hd⟩⟩
end
end Go.Mach

namespace Go.Mach
def RetR(rs:List VSh)(v:Value)(vals:List Value):Prop :=
 match rs with
 |[_]=>vals=[v]
 |_=>v=.tuple vals.toArray
structure Contract (P:Program) (G:Glob) (sp:Spec):Prop where
 fn:∃ fn,P.funcs[sp.f]?=some fn/\fn.body.isSome=true/\(fn.name == "runtime.NumGoroutine")=false
 obj:(boxes sp.ps).all Sh.objOk=true
 run:∀ (w:World) (Z Y S:Nat->Prop) (args:List Value) (x:dens (sp.ps.map Par.v)) (Ψ:outs (dens sp.rs) (boxes sp.ps)->Prop),(sp.run x).sat Ψ->G.At w Z ->
  (∀ b,Z b->b < w.heap.size)->(∀ b,Y b->b < w.heap.size/\¬ S b)->(∀ b,S b->b < w.heap.size/\¬ Z b)->ValsR w Z Y (sp.ps.map Par.v) args x S ->
  Calls P sp.f args.toArray w λe w'=>∃ y v vals,∃ Z' S1 S2:Nat->Prop,e=.returned v/\Ψ y/\RetR sp.rs v vals /\
   ValsR w' Z' (λ_=>False) sp.rs vals (outFst (boxes sp.ps) y) S1/\OutsR w' Z' Y sp.ps args y S2/\(∀ d,S1 d->S2 d->False) /\
   (∀ b,S1 b\/S2 b->b < w'.heap.size/\¬ Z' b/\(S b\/w.heap.size<=b))/\(∀ b,Z b->Z' b)/\(∀ b,Z' b->b < w'.heap.size/\(Z b\/S b\/w.heap.size<=b)) /\
   w.heap.size<=w'.heap.size/\(∀ b,b < w.heap.size->¬ S b->w'.heap[b]?=w.heap[b]?)/\Io G.dr w w'
section
variable {B:Base}{w:World}{Z:Nat->Prop}{μ:Locs}
theorem SR.noY{Y Y':Nat->Prop}:∀ {s:Sh}{us:List Value}{x:s.den}{S:Nat->Prop},s.noBor=true->SR w Z Y s us x S->SR w Z Y' s us x S
 |.nil,_,_,_,_,hc=>hc
 |.undef,_,_,_,_,hc=>hc
 |.nilp,_,_,_,_,hc=>hc
 |.nilz,_,_,_,_,hc=>hc
 |.err,_,_,_,_,hc=>hc
 |.opq,_,_,_,_,hc=>hc
 |.sb _,_,_,_,_,hc=>hc
 |.frz _,_,_,_,_,hc=>hc
 |.own s,us,xs,S,hn,hc=>by
  simp only [SR] at hc ⊢;obtain ⟨ℓ,h1,h2,h3⟩:=hc;exact ⟨ℓ,h1,h2,h3.mono (SameOn.refl _ _) λi us x T _ _ hR=>SR.noY (s:=s) hn hR⟩
 |.box s,us,x,S,hn,hc=>by
  simp only [SR] at hc ⊢;obtain ⟨b,o,us',T,h1,h2,h3,h4,h5,h6,h7⟩:=hc;exact ⟨b,o,us',T,h1,h2,h3,h4,h5,h6,SR.noY (s:=s) hn h7⟩
 |.map n s,us,xs,S,hn,hc=>by
  simp only [SR] at hc ⊢;obtain ⟨b,h1,h2⟩:=hc;exact ⟨b,h1,h2.mono rfl (λ_ h=>h) λ_ _ _ _ _ hR=>SR.noY (s:=s) hn hR⟩
 |.clo f s,us,x,S,hn,hc=>by
  simp only [SR] at hc ⊢;obtain ⟨h0,vs,h1,h2⟩:=hc;exact ⟨h0,vs,h1,SR.noY (s:=s) hn h2⟩
 |.seq a b,us,x,S,hn,hc=>by
  simp only [SR] at hc ⊢;simp only [Sh.noBor,Bool.and_eq_true] at hn;obtain ⟨u1,u2,S1,S2,h1,h2,h3,h4,h5,h6⟩:=hc;exact ⟨u1,u2,S1,S2,h1,h2,h3,h4,SR.noY hn.1 h5,SR.noY hn.2 h6⟩
 |.bor _,_,_,_,hn,_=>by simp [Sh.noBor] at hn
theorem ValsR.noY{Y Y':Nat->Prop}:∀ {l:List VSh}{vs:List Value}{x:dens l}{S:Nat->Prop},(l.all λs=>s.2.noBor)=true->ValsR w Z Y l vs x S->ValsR w Z Y' l vs x S
 |[],_,_,_,_,h=>h
 |[a],_,_,_,hn,h=>by
  obtain ⟨v,h0,us,h1,h2,h3⟩:=h;exact ⟨v,h0,us,h1,h2,h3.noY (by simpa using hn)⟩
 |a::b::r,_,_,_,hn,h=>by
  rw [List.all_cons,Bool.and_eq_true] at hn;obtain ⟨v,vs',S1,S2,h0,h1,h2,h3,⟨us,h4,h5,h6⟩,h7⟩:=h;exact ⟨v,vs',S1,S2,h0,h1,h2,h3,⟨us,h4,h5,h6.noY hn.1⟩,h7.noY hn.2⟩
theorem OutsR.noY{Y Y':Nat->Prop}:∀ {ps:List Par}{vs:List Value}{α:Type}{y:outs α (boxes ps)}{S:Nat->Prop},((boxes ps).all Sh.noBor)=true->OutsR w Z Y ps vs y S->OutsR w Z Y' ps vs y S
 |[],_,_,_,_,_,_=>trivial
 |.val _ _::r,_,_,_,_,hn,h=>by
  obtain ⟨v,vs',h0,h⟩:=h;exact ⟨v,vs',h0,OutsR.noY (ps:=r) hn h⟩
 |.obj s::r,_,_,_,_,hn,h=>by
  simp only [boxes,List.all_cons,Bool.and_eq_true] at hn;obtain ⟨v,vs',S1,S2,h0,h1,h2,h3,h4,h5⟩:=h;exact ⟨v,vs',S1,S2,h0,h1,h2,h3,h4.noY hn.1,OutsR.noY (ps:=r) hn.2 h5⟩
def PlacesR(μ:Locs):List VSh->List AV->Prop
 |[],_=>True
 |p::ps,x::xs=>PlaceR μ p.2 x/\PlacesR μ ps xs
 |_::_,[]=>True
theorem PlacesR.ext{μ μ':Locs}(he:ExtL μ μ'):∀ {ps:List VSh}{xs:List AV},PlacesR μ ps xs->PlacesR μ' ps xs
 |[],_,_=>trivial
 |_::_,[],_=>trivial
 |_::_,_::_,h=>⟨h.1.ext he,PlacesR.ext he h.2⟩
theorem getC_place{a:VSh}{x:AV}{m m':Mem}{g:Mem->Option a.2.den}(hM:MemOk B m w Z μ)(h:getC a x m=some (g,m')):PlaceR μ a.2 x:=by
 obtain ⟨b,s⟩:=a;unfold PlaceR;split
 ·rename_i s p hs;simp only at hs;subst hs;simp only [getC,getV] at h;split at h
  case h_2=>cases h
  rename_i z m1 hg;split at hg
  case h_2=>cases hg
  rename_i y m2 _ hg';simp only [AV.cells,Sh.get] at hg';split at hg'
  case h_2=>cases hg'
  rename_i s' xs foc hr;split at hg'
  case h_2=>cases hg'
  rename_i _ he _ _;subst he;obtain ⟨ℓ,h1,h2,h3⟩:=hM.rt p _ hr (by simp);exact ⟨ℓ,h1,h3.1,h3.2.2.2.2.1⟩
 ·trivial
theorem getsC_place:∀ {l:List VSh}{xs:List AV}{vs:List Value}{m m':Mem}{Z F:Nat->Prop}{g:Mem->Option (dens l)},MemOk B m w Z μ->Loose B m w Z μ F->ARs w Z μ xs vs->getsC l xs m=some (g,m')->PlacesR μ l xs
 |[],_,_,_,_,_,_,_,_,_,_,_=>trivial
 |[p],xs,vs,m,m',Z,F,g,hM,hF,hx,h=>by
  match xs,h with
  |[x],h=>exact ⟨getC_place hM h,trivial⟩
 |p::q::r,xs,vs,m,m',Z,F,g,hM,hF,hx,h=>by
  match xs,h with
  |x::xs,h =>
   obtain ⟨v,vs',rfl,h1,h2⟩:=hx;simp only [getsC] at h;split at h
   case h_2=>cases h
   rename_i g1 m1 hg;split at h
   case h_2=>cases h
   rename_i g2 m2 hgs;obtain ⟨Z1,F1,S1,e1,e2,e3,e4,e5,e6,e7⟩:=getC_sound hM hF h1 hg;exact ⟨getC_place hM hg,getsC_place (l:=q::r) e1 e2 (h2.mono (SameOn.refl _ _) e3 (ExtL.refl μ)) hgs⟩
theorem getV_place{a:VSh}{x:AV}{m m':Mem}{y:a.2.den}(hM:MemOk B m w Z μ)(h:getV a x m=some (y,m')):PlaceR μ a.2 x:=by
 obtain ⟨b,s⟩:=a;unfold PlaceR;split
 ·rename_i s p hs;simp only at hs;subst hs;simp only [getV] at h;split at h
  case h_2=>cases h
  rename_i y m2 _ hg';simp only [AV.cells,Sh.get] at hg';split at hg'
  case h_2=>cases hg'
  rename_i s' xs foc hr;split at hg'
  case h_2=>cases hg'
  rename_i _ he _ _;subst he;obtain ⟨ℓ,h1,h2,h3⟩:=hM.rt p _ hr (by simp);exact ⟨ℓ,h1,h3.1,h3.2.2.2.2.1⟩
 ·trivial
theorem gets_place:∀ {l:List VSh}{xs:List AV}{vs:List Value}{m m':Mem}{Z F:Nat->Prop}{y:dens l},MemOk B m w Z μ->Loose B m w Z μ F->ARs w Z μ xs vs->gets l xs m=some (y,m')->PlacesR μ l xs
 |[],_,_,_,_,_,_,_,_,_,_,_=>trivial
 |[p],xs,vs,m,m',Z,F,y,hM,hF,hx,h=>by
  match xs,h with
  |[x],h=>exact ⟨getV_place hM h,trivial⟩
 |p::q::r,xs,vs,m,m',Z,F,y,hM,hF,hx,h=>by
  match xs,h with
  |x::xs,h =>
   obtain ⟨v,vs',rfl,h1,h2⟩:=hx;simp only [gets] at h;split at h
   case h_2=>cases h
   rename_i y1 m1 hg;split at h
   case h_2=>cases h
   rename_i y2 m2 hgs;obtain ⟨Z1,F1,S1,e1,e2,e3,e4,e5,e6,e7⟩:=getV_sound hM hF h1 hg;exact ⟨getV_place hM hg,gets_place (l:=q::r) e1 e2 (h2.mono (SameOn.refl _ _) e3 (ExtL.refl μ)) hgs⟩
theorem backs_sound:∀ {ps:List Par}{xs:List AV}{us:List Value}{α:Type}{y:outs α (boxes ps)}{m m':Mem}{F S:Nat->Prop}{μ:Locs},((boxes ps).all Sh.objOk)=true->objsOk ps xs=true->MemOk B m w Z μ->Loose B m w Z μ F ->
  Free m μ (newsB (boxes ps))->ARs w Z μ xs us->PlacesR μ (ps.map Par.v) xs->OutsR w Z B.Y ps us y S->(∀ b,S b->F b)->backs ps xs y m=some m' ->
  ∃ μ',MemOk B m' w Z μ'/\ExtL μ μ'/\m'.roots.length=m.roots.length/\(∀ r,(r < m.cur\/m.cur+newsB (boxes ps)<=r)->μ r=none->μ' r=none)
 |[],xs,us,α,y,m,m',F,S,μ,ho,hw,hM,hF,hf,hx,hp,hy,hS,h=>by
  simp only [backs,Option.some.injEq] at h;subst h;exact ⟨μ,hM,ExtL.refl μ,rfl,λ_ _ h=>h⟩
 |.val g s::r,xs,us,α,y,m,m',F,S,μ,ho,hw,hM,hF,hf,hx,hp,hy,hS,h=>by
  match xs,h with
  |x::xs,h =>
   obtain ⟨v,vs',rfl,h1,h2⟩:=hx;obtain ⟨v',vs'',hv,hy⟩:=hy;cases hv;exact backs_sound (ps:=r) ho hw hM hF hf h2 hp.2 hy hS h
 |.obj s::r,xs,us,α,y,m,m',F,S,μ,ho,hw,hM,hF,hf,hx,hp,hy,hS,h=>by
  match xs,h with
  |x::xs,h =>
   obtain ⟨v,vs',rfl,h1,h2⟩:=hx;obtain ⟨v',vs'',S1,S2,hv,s1,s2,s3,hsr,hy⟩:=hy;cases hv;simp only [boxes,List.all_cons,Bool.and_eq_true] at ho;simp only [objsOk,Bool.and_eq_true] at hw;simp only [backs] at h;split at h
   case h_2=>cases h
   rename_i m1 hb;obtain ⟨μ1,e1,e2,e3,e4,e5,e6⟩:=backAt_sound ho.1 hw.1 hM hF (Free.left hf) h1 hp.1 hsr (λb hb=>hS b (s1 b hb)) hb
   have hf1:Free m1 μ1 (newsB (boxes r)):=λk hk=>by
    obtain ⟨a1,a2⟩:=hf (s.news+k) (by simp only [boxes,newsB];omega);rw [<- Nat.add_assoc] at a1 a2;rw [e5];obtain ⟨b1,b2⟩:=e6 (m.cur+s.news+k) (by omega);exact ⟨b1 a1,b2 a2 a1⟩
   have hp1:PlacesR μ1 (r.map Par.v) xs:=PlacesR.ext e3 hp.2;obtain ⟨μ2,g1,g2,g3,g4⟩:=backs_sound (ps:=r) ho.2 hw.2 e1 e2 hf1 (h2.mono (SameOn.refl _ _) (λ_ h=>h) e3) hp1 hy (λb hb=>⟨hS b (s2 b hb),λh=>s3 b h hb⟩) h;refine ⟨μ2,g1,e3.trans g2,g3.trans e4,λr' hr' hn=>?_⟩;simp only [boxes,newsB] at hr';exact g4 r' (by rw [e5];omega) ((e6 r' (by omega)).1 hn)
theorem ValR.ok{Y:Nat->Prop}{a:VSh}{v:Value}{x:a.2.den}{S:Nat->Prop}(h:ValR w Z Y a v x S):a.2.ok x=true:=by
 obtain ⟨us,_,_,h3⟩:=h;exact h3.ok
theorem ValsR.ok{Y:Nat->Prop}:∀ {l:List VSh}{vs:List Value}{x:dens l}{S:Nat->Prop},ValsR w Z Y l vs x S->oks l x=true
 |[],_,_,_,_=>rfl
 |[a],_,_,_,h=>by obtain ⟨v,_,h⟩:=h;exact h.ok
 |a::b::r,_,_,_,h=>by
  obtain ⟨v,vs',S1,S2,_,_,_,_,h1,h2⟩:=h;simp only [oks,h1.ok,ValsR.ok h2,Bool.and_self]
theorem OutsR.ok{Y:Nat->Prop}:∀ {ps:List Par}{vs:List Value}{α:Type}{y:outs α (boxes ps)}{S:Nat->Prop}{f:α->Bool},OutsR w Z Y ps vs y S->f (outFst (boxes ps) y)=true->outsOk f (boxes ps) y=true
 |[],_,_,_,_,_,_,hf=>hf
 |.val _ _::r,_,_,_,_,_,h,hf=>by
  obtain ⟨_,_,_,h⟩:=h;exact OutsR.ok (ps:=r) h hf
 |.obj s::r,_,_,_,_,f,h,hf=>by
  obtain ⟨v,vs',S1,S2,_,_,_,_,h1,h2⟩:=h;simp only [boxes,outsOk,Bool.and_eq_true];refine ⟨hf,OutsR.ok (ps:=r) h2 ?_⟩;exact h1.ok
theorem ValsR.lend{Y Y':Nat->Prop}(hy:∀ b,Y b->Y' b):∀ {l:List VSh}{vs:List Value}{x:dens l}{S:Nat->Prop},ValsR w Z Y l vs x S->ValsR w Z Y' l vs x S
 |[],_,_,_,h=>h
 |[a],_,_,_,h=>by
  obtain ⟨v,h0,us,h1,h2,h3⟩:=h;exact ⟨v,h0,us,h1,h2,h3.lendY hy⟩
 |a::b::r,_,_,_,h=>by
  obtain ⟨v,vs',S1,S2,h0,h1,h2,h3,⟨us,h4,h5,h6⟩,h7⟩:=h;exact ⟨v,vs',S1,S2,h0,h1,h2,h3,⟨us,h4,h5,h6.lendY hy⟩,h7.lend hy⟩
theorem OutsR.lend{Y Y':Nat->Prop}(hy:∀ b,Y b->Y' b):∀ {ps:List Par}{vs:List Value}{α:Type}{y:outs α (boxes ps)}{S:Nat->Prop},OutsR w Z Y ps vs y S->OutsR w Z Y' ps vs y S
 |[],_,_,_,_,_=>trivial
 |.val _ _::r,_,_,_,_,h=>by
  obtain ⟨v,vs',h0,h⟩:=h;exact ⟨v,vs',h0,OutsR.lend (ps:=r) hy h⟩
 |.obj s::r,_,_,_,_,h=>by
  obtain ⟨v,vs',S1,S2,h0,h1,h2,h3,h4,h5⟩:=h;exact ⟨v,vs',S1,S2,h0,h1,h2,h3,h4.lendY hy,OutsR.lend (ps:=r) hy h5⟩
theorem newsCall_le{sps:List Spec}{sp:Spec}(h:sp∈sps):sp.news<=newsCall sps (some sp.f)/\sp.news<=newsCall sps none:=by
 unfold newsCall
 have h1:∀ (l:List Spec) (n:Nat),n<=l.foldl (λn sq=>match sq.f == sp.f with|true=>max n sq.news|false=>n) n:=by
  intro l
  induction l with
  |nil=>exact λn=>Nat.le_refl n
  |cons s l ih =>
   intro n;refine Nat.le_trans ?_ (ih _);dsimp only;cases s.f == sp.f
   ·exact Nat.le_refl n
   ·exact Nat.le_max_left _ _
 have h2:∀ (l:List Spec) (n:Nat),n<=l.foldl (λn sq=>max n sq.news) n:=by
  intro l
  induction l with
  |nil=>exact λn=>Nat.le_refl n
  |cons s l ih=>exact λn=>Nat.le_trans (Nat.le_max_left _ _) (ih _)
 have h3:∀ (l:List Spec) (n:Nat),sp∈l->sp.news<=l.foldl (λn sq=>match sq.f == sp.f with|true=>max n sq.news|false=>n) n:=by
  intro l
  induction l with
  |nil=>intro _ h;cases h
  |cons s l ih =>
   intro n hm;rcases List.mem_cons.1 hm with rfl|hm
   ·refine Nat.le_trans ?_ (h1 l _);simp only [beq_self_eq_true];exact Nat.le_max_right _ _
   ·exact ih _ hm
 have h4:∀ (l:List Spec) (n:Nat),sp∈l->sp.news<=l.foldl (λn sq=>max n sq.news) n:=by
  intro l
  induction l with
  |nil=>intro _ h;cases h
  |cons s l ih =>
   intro n hm;rcases List.mem_cons.1 hm with rfl|hm
   ·exact Nat.le_trans (Nat.le_max_right _ _) (h2 l _)
   ·exact ih _ hm
 exact ⟨h3 sps 0 h,h4 sps 0 h⟩
theorem sat_bind{α β:Type}{m:Res α}{k:α->Res β}{Φ:β->Prop}(h:(m.bind k).sat Φ):m.sat λa=>(k a).sat Φ:=Res.sat_bind' h
theorem getsK_sound{ps:List Par}{xs:List AV}{vs:List Value}{m m1:Mem}{x:dens (ps.map Par.v)}(hM:MemOk B m w Z μ)(hx:ARs w Z μ xs vs)(h:getsK (!((boxes ps).all Sh.noBor)) (ps.map Par.v) xs m=some (x,m1)) :
  ∃ Z1 F1 S V:Nat->Prop,MemOk B m1 w Z1 μ/\Loose B m1 w Z1 μ F1/\(∀ b,Z b->Z1 b)/\(∀ b,S b->F1 b/\¬ False)/\Kept m m1/\ValsR w Z1 V (ps.map Par.v) vs x S/\PlacesR μ (ps.map Par.v) xs /\
   (∀ b,V b->b < w.heap.size/\¬ S b)/\∀ {w':World}{Z':Nat->Prop}{us:List Value}{α:Type}{y:outs α (boxes ps)}{S2:Nat->Prop},OutsR w' Z' V ps us y S2->OutsR w' Z' B.Y ps us y S2:=by
 have hL:=Loose.none B m w Z μ
 cases hb:(boxes ps).all Sh.noBor with
 |true =>
  rw [hb] at h;simp only [getsK,Bool.not_true] at h;split at h
  case h_2=>cases h
  rename_i g m2 hg;split at h
  case h_2=>cases h
  rename_i x' hx';cases h;obtain ⟨Z1,F1,S,e1,e2,e3,e4,e5,e6,e7⟩:=getsC_sound hM hL hx hg;have hSF:∀ b,S b->F1 b:=λb hb=>(e5 b hb).1;refine ⟨Z1,F1,S,λb=>(B.Y b\/Z1 b)\/∃ r,OwnsAt m1 μ r b,e1,e2,e3,λb hb=>⟨hSF b hb,id⟩,e6,e7 m1 Z1 _ e1 (λ_ h=>h) (λ_ h=>.inl h) (λr b h=>.inr ⟨r,h⟩) x hx',getsC_place hM hL hx hg,?_,λh=>h.noY hb⟩;rintro b ((hb|hb)|⟨r,hb⟩)
  ·exact ⟨Nat.lt_of_lt_of_le (e1.lent b hb).1 e1.size,λhs=>e2.lent e1 b (hSF b hs) hb⟩
  ·exact ⟨(e1.frz b hb).1,λhs=>(e2.ok b (hSF b hs)).1 hb⟩
  ·exact ⟨by obtain ⟨y,ℓ,h1,h2,h3,h4⟩:=hb;exact (e1.own r y ℓ b h1 h2 h3 h4).2.1,λhs=>e2.off b r (hSF b hs) hb⟩
 |false =>
  rw [hb] at h;simp only [getsK,Bool.not_false] at h;obtain ⟨Z1,F1,S,e1,e2,e3,e4,e5,e6,e7⟩:=gets_sound hM hL hx h;have hSF:∀ b,S b->F1 b:=λb hb=>(e5 b hb).1;exact ⟨Z1,F1,S,B.Y,e1,e2,e3,λb hb=>⟨hSF b hb,id⟩,e6,e7,gets_place hM hL hx h,λb hb=>⟨Nat.lt_of_lt_of_le (e1.lent b hb).1 e1.size,λhs=>e2.lent e1 b (hSF b hs) hb⟩,λh=>h⟩
theorem callK_spec{β:Type}{K:AV->Mem->Res β}{Φ:β->Prop}{f:FuncId}{args:List AV}{m:Mem}:∀ {sps:List Spec},(callK sps f args m K).sat Φ ->
  ∃ sp∈sps,sp.f=f/\objsOk sp.ps args=true/\∃ m1 x,getsK (!((boxes sp.ps).all Sh.noBor)) (sp.ps.map Par.v) args m=some (x,m1)/\(sp.run x).sat λy =>
   outsOk (oks sp.rs) (boxes sp.ps) y=true->(match backs sp.ps args y (mks sp.rs (outFst (boxes sp.ps) y) m1).2 with|some m3=>K (avs sp.rs (mks sp.rs (outFst (boxes sp.ps) y) m1).1) m3|none=>Res.stuck).sat Φ
 |[],h=>h.elim
 |sp::r,h=>by
  simp only [callK] at h;have hrec:(callK r f args m K).sat Φ->_:=λh=>callK_spec h;split at h
  ·rename_i hb;simp only [Bool.and_eq_true,beq_iff_eq] at hb;split at h
   ·rename_i x m1 hg;refine ⟨sp,List.mem_cons_self,hb.1,hb.2,m1,x,hg,?_⟩;have h:=sat_bind h;refine Res.sat_imp' (λy hy hok=>?_) h;split at hy
    ·exact hy
    ·exact sat_given hy hok
   ·obtain ⟨sp',h1,h2⟩:=hrec h;exact ⟨sp',List.mem_cons_of_mem _ h1,h2⟩
  ·obtain ⟨sp',h1,h2⟩:=hrec h;exact ⟨sp',List.mem_cons_of_mem _ h1,h2⟩
theorem ARs.ret{rs:List VSh}{v:Value}{vals:List Value}{Y:Nat->Prop}{x:dens rs}{S:Nat->Prop}(hr:RetR rs v vals)(hv:ValsR w Z Y rs vals x S){xs:List AV}(h:ARs w Z μ xs vals)(hf:∀ (k:Nat) (h1:k < rs.length) (h2:k < xs.length),xs[k]=avOf rs[k].1 xs[k].cells)(hl:xs.length=rs.length):AR w Z μ (avs rs xs) v:=by
 have hnth:∀ {xs:List AV}{vals:List Value},ARs w Z μ xs vals->vals.length=xs.length/\∀ k (h1:k < xs.length) (h2:k < vals.length),AR w Z μ xs[k] vals[k]:=by
  intro xs
  induction xs with
  |nil=>intro vals h;have h:vals=[]:=h;subst h;exact ⟨rfl,λk h=>by simp at h⟩
  |cons x xs ih =>
   rintro _ ⟨v,vs',rfl,h1,h2⟩;obtain ⟨a,b⟩:=ih h2;refine ⟨by simp [a],λk k1 k2=>?_⟩
   cases k with
   |zero=>exact h1
   |succ k=>exact b k (by simpa using k1) (by simpa using k2)
 obtain ⟨n1,n2⟩:=hnth h;by_cases h1:∃ a,rs=[a]
 ·obtain ⟨a,rfl⟩:=h1
  match xs,hl with
  |[x],_ =>
   have hr:vals=[v]:=hr;subst hr;exact n2 0 (by simp) (by simp)
 ·have hr':v=.tuple vals.toArray:=by
   match rs,hr,h1 with
   |[],hr,_=>exact hr
   |[a],_,h1=>exact absurd ⟨a,rfl⟩ h1
   |_::_::_,hr,_=>exact hr
  have ha:avs rs xs=.tup ((rs.zip xs).map λp=>(p.1.1,p.2.cells)):=by
   match rs,xs,h1 with
   |[],_,_=>rfl
   |[a],_,h1=>exact absurd ⟨a,rfl⟩ h1
   |_::_::_,_,_=>rfl
  rw [ha];refine ⟨vals,hr',by simp [n1,hl],λk k1 k2=>?_⟩
  have k3:k < xs.length:=by simp at k1;omega
  have k4:k < rs.length:=by omega
  have g:=n2 k k3 k2;rw [hf k k4 k3] at g;simp only [List.getElem_map,List.getElem_zip]
  cases hb:rs[k].1 with
  |true =>
   rw [hb] at g;obtain ⟨us,g1,g2⟩:=g;exact ⟨us,g1,g2⟩
  |false =>
   rw [hb] at g;simp only
   cases hc:xs[k].cells with
   |nil=>trivial
   |cons c cs=>rw [hc] at g;exact g
theorem mks_form:∀ {l:List VSh}{x:dens l}{m:Mem},(mks l x m).1.length=l.length/\∀ (k:Nat) (h1:k < l.length) (h2:k < (mks l x m).1.length),∃ cs,(mks l x m).1[k]=avOf l[k].1 cs
 |[],_,_=>⟨rfl,λk h=>by simp at h⟩
 |[a],x,m=>⟨rfl,λk h1 h2=>by
  have:k=0:=by simpa using h1
  subst this
  exact ⟨_,rfl⟩⟩
 |a::b::r,x,m=>by
  obtain ⟨h1,h2⟩:=mks_form (l:=b::r) (x:=x.2) (m:=(a.2.mk x.1 m).2);refine ⟨by simp only [mks,List.length_cons] at h1 ⊢;omega,λk k1 k2=>?_⟩
  cases k with
  |zero=>exact ⟨_,rfl⟩
  |succ k=>exact h2 k (by simpa using k1) (by simpa [mks] using k2)
theorem avOf_cells{g:Bool}{cs:List C}{x:AV}(h:x=avOf g cs):x=avOf g x.cells:=by
 subst h
 cases g with
 |true=>rfl
 |false=>cases cs<;>rfl
theorem Res.sat_imp{α:Type}{m:Res α}{Φ Ψ:α->Prop}(hi:∀ a,Φ a->Ψ a)(hs:m.sat Φ):m.sat Ψ:=Res.sat_imp' hi hs
end
section
variable {B:Base}{E:Env}{st:St}{o:Oper}{a:Act}{w:World}{Z:Nat->Prop}{μ:Locs}{Φ:St->Prop}
theorem ARs.vals(hR:Rel B st a w Z μ):∀ (l:List Operand),ARs w Z μ (l.map (val st)) (l.map a.eval)
 |[]=>rfl
 |x::l=>⟨_,_,rfl,hR.val x,ARs.vals hR l⟩
theorem ARs.append:∀ {xs ys:List AV}{us vs:List Value},ARs w Z μ xs us->ARs w Z μ ys vs->ARs w Z μ (xs++ys) (us++vs)
 |[],_,us,_,h,h'=>by have h:us=[]:=h;subst h;exact h'
 |x::xs,ys,_,_,⟨v,us',h0,h1,h2⟩,h'=>by subst h0;exact ⟨v,us'++_,rfl,h1,ARs.append h2 h'⟩
theorem ARs.caps:∀ {caps:List Cap}{vs:List Value},vs.length=caps.length->(∀ k (h:k < caps.length) (h':k < vs.length),CapR w Z μ caps[k] vs[k])->ARs w Z μ (caps.map λp=>.c p.cell) vs
 |[],vs,h,_=>List.eq_nil_of_length_eq_zero h
 |p::ps,v::vs,h,hc=>⟨v,vs,rfl,by
   have:=hc 0 (by simp) (by simp);simp only [List.getElem_cons_zero] at this
   cases p with
   |root r=>exact this
   |frz e x=>exact this,ARs.caps (by simpa using h) λk h1 h2=>by
   have:=hc (k+1) (by simpa using h1) (by simpa using h2)
   simpa using this⟩
theorem sound_call(hR:Rel B st a w Z μ)(hE:∀ sp∈E.specs,Contract E.P B.g sp){n:Nat}(hF:Fresh st n μ)(hn:newsOf E o<=n){c:Call}(ho:o.op=.call c){f:Operand}(hc:c.callee=.value f)(hi:inlOf E o=none)(h:(step E st o Res.ok).sat Φ) :
  o.wp E.P a w (Nxt B st n Z μ Φ) (λ_ _ _=>False):=by
 simp only [step,stepV,ho,hc,hi] at h;have hf:=hR.val f;generalize hqf:val st f=fv at h hf;split at h
 case h_2=>exact h.elim
 rename_i fid caps;obtain ⟨vs,hfv,hl,hcaps⟩:=hf;obtain ⟨sp,hsp,hspf,hobj,m1,x,hg,hrun⟩:=callK_spec h;subst hspf;have hargs:ARs w Z μ (c.args.toList.map (val st)++caps.map λp=>.c p.cell) (c.args.toList.map a.eval++vs):=(ARs.vals hR _).append (ARs.caps hl hcaps);generalize hA:(c.args.toList.map (val st)++caps.map λp=>AV.c p.cell)=A at *;generalize hU:(c.args.toList.map a.eval++vs)=U at *;obtain ⟨Z1,F1,S,V,e1,e2,e3,e5,e6,hvals,hplace,hVS',hback⟩:=getsK_sound hR.mem hargs hg;have hct:=hE sp hsp;obtain ⟨fn,hfn,hbody,hname⟩:=hct.fn;have hSF:∀ b,S b->F1 b:=λb hb=>(e5 b hb).1;have hVS:=hVS';have hcall:=hct.run w Z1 V S U x _ hrun e1.glob (λb hb=>(e1.frz b hb).1) hVS (λb hb=>⟨(e2.ok b (hSF b hb)).2.1,(e2.ok b (hSF b hb)).1⟩) hvals
 have hexec:(execOp a.eval o).run E.P w=.ok (.enter sp.f U.toArray) w:=by
  have hU':U.toArray=c.args.map a.eval++vs.toArray:=by
   rw [<- hU];apply Array.ext';simp
  simp only [execOp,ho,resolve,hc,hfv,Deferred.ofValue,Sem.run_bind,Sem.run_pure,Result.andThen_ok,invoke]
  have hb:fn.body.isNone=false:=by cases hfb:fn.body with
   |none=>rw [hfb] at hbody;cases hbody
   |some _=>rfl
  simp only [callFunc];have hprog:(program:Sem Program).run E.P w=.ok E.P w:=rfl;simp only [Sem.run_bind,hprog,Result.andThen_ok,hfn,hname,hb,Bool.false_eq_true,if_false,Sem.run_pure];rw [hU'];simp
 refine wp_of_enter hexec (Calls.mono hcall ?_);rintro e w' ⟨y,v,vals,Z',S1,S2,rfl,hk,hret,hv1,hv2,hdj,hSS,hzz,hZ',hsz,hkeep,hio⟩;refine ⟨v,rfl,?_⟩;obtain ⟨d1,d2⟩:=world_step (w':=w') e1 e2 (λb hb hf=>hkeep b hb λhs=>hf (hSF b hs)) hsz hio
 have hG:∀ b,(Z' b/\¬ Z1 b)->(F1 b\/(w.heap.size<=b/\b < w'.heap.size)):=λb ⟨hb,hn⟩=>by
  obtain ⟨h1,h2⟩:=hZ' b hb;rcases h2 with h2|h2|h2
  ·exact absurd h2 hn
  ·exact .inl (hSF b h2)
  ·exact .inr ⟨h2,h1⟩
 obtain ⟨f1,f2⟩:=freeze_loose d1 d2 (G:=λb=>Z' b/\¬ Z1 b) hG
 have hZeq:(λb=>Z1 b\/(Z' b/\¬ Z1 b))=Z':=by
  funext b;refine propext ⟨λh=>h.elim (hzz b) λh=>h.1,λh=>?_⟩;by_cases h1:Z1 b
  ·exact .inl h1
  ·exact .inr ⟨h,h1⟩
 rw [hZeq] at f1 f2
 have hloose:∀ b,S1 b\/S2 b->(F1 b\/(w.heap.size<=b/\b < w'.heap.size))/\¬ (Z' b/\¬ Z1 b):=λb hb=>by
  obtain ⟨h1,h2,h3⟩:=hSS b hb;refine ⟨?_,λh=>h2 h.1⟩;rcases h3 with h3|h3
  ·exact .inl (hSF b h3)
  ·exact .inr ⟨h3,h1⟩
 have hnews:sp.news<=n:=by
  refine Nat.le_trans ?_ hn;obtain ⟨n1,n2⟩:=newsCall_le hsp;simp only [newsOf,ho,hc]
  cases f with
  |func g =>
   simp only [val] at hqf;cases hqf
   have hg:(E.inls.find? λi=>i.f == sp.f)=none:=by
    unfold inlOf at hi;simp only [ho,hc] at hi;split at hi
    ·cases hi
    ·assumption
   simp only [hg];exact n1
  |_=>exact n2
 have hfree:Free m1 μ sp.news:=λk hk=>by
  obtain ⟨a1,a2⟩:=hF k (by omega);rw [e6.cur];exact ⟨a1,e6.dead _ a2⟩
 obtain ⟨μ1,g1,g2,g3,g4⟩:=mks_sound f1 f2 hfree.left (hv1.lend λ_ h=>h.elim) (λb hb=>hloose b (.inl hb));have hok:outsOk (oks sp.rs) (boxes sp.ps) y=true:=hv2.ok hv1.ok;have hk:=hk hok;split at hk
 case h_2=>exact hk.elim
 rename_i m3 hb3;have hp1:PlacesR μ1 (sp.ps.map Par.v) A:=hplace.ext g4.ext;have hZZ:∀ b,Z b->Z' b:=λb hb=>hzz b (e3 b hb);have hsame:SameOn Z w w':=λb hb=>hkeep b (hR.mem.frz b hb).1 λhs=>(e2.ok b (hSF b hs)).1 (e3 b hb);obtain ⟨μ2,k1,k2,k3,k4⟩:=backs_sound hct.obj hobj g1 g2 (Free.right hfree g4) (hargs.mono hsame hZZ g4.ext) hp1 (hback hv2) (λb hb=>⟨hloose b (.inr hb),λh=>hdj b h hb⟩) hb3;obtain ⟨l1,l2⟩:=mks_form (l:=sp.rs) (x:=outFst (boxes sp.ps) y) (m:=m1)
 have hav:AR w' Z' μ1 (avs sp.rs (mks sp.rs (outFst (boxes sp.ps) y) m1).1) v:=ARs.ret hret hv1 g3 (λk h1 h2=>by
  obtain ⟨cs,hcs⟩:=l2 k h1 h2
  exact avOf_cells hcs) l1
 refine ⟨_,Z',μ2,hR.put k1 hsame hZZ (g4.ext.trans k2) o.dst (hav.mono (SameOn.refl _ _) (λ_ h=>h) k2),hk,?_,?_,λr hr hn=>?_,hZZ,g4.ext.trans k2⟩
 ·have:m3.roots.length=st.mem.roots.length:=by rw [k3,g4.len,e6.len]
  cases o.dst<;>exact this
 ·cases o.dst<;>rfl
 ·have h1:=e6.cur;have h2:=g4.cur;simp only [Spec.news] at hnews;refine k4 r (by omega) ?_;rw [(g4.old r (by omega)).1];exact hn
end
end Go.Mach

namespace Go.Mach
structure InlOk (P:Program) (G:Glob) (j:Inl):Prop where
 fn:∃ fn,P.funcs[j.f]?=some fn/\fn.body.isSome=true/\(fn.name == "runtime.NumGoroutine")=false
 run:∀ (B:Base) (β:Type) (Ψ:β->Prop) (xs:List AV) (args:List Value) (m:Mem) (w:World) (Z:Nat->Prop) (μ:Locs) (K:AV->Mem->Res β),B.g=G->MemOk B m w Z μ->ARs w Z μ xs args->(j.run β xs m K).sat Ψ ->
  Calls P j.f args.toArray w λe w'=>∃ vr v m',∃ Z':Nat->Prop,∃ μ',e=.returned vr/\(K v m').sat Ψ/\MemOk B m' w' Z' μ'/\AR w' Z' μ' v vr/\SameOn Z w w'/\(∀ b,Z b->Z' b)/\ExtL μ μ'/\m.roots.length<=m'.roots.length /\
   (∀ r,r < m.roots.length->m'.dR.testBit r=false->m'.roots[r]?=m.roots[r]?)/\(∀ r,m.dR.testBit r=true->m'.dR.testBit r=true)
structure EnvOk (E:Env) (G:Glob):Prop where
 specs:∀ sp∈E.specs,Contract E.P G sp
 inls:∀ j∈E.inls,InlOk E.P G j
theorem EnvOk.of_specs{E:Env}{G:Glob}(h:∀ sp∈E.specs,Contract E.P G sp)(hi:E.inls=[]):EnvOk E G:=⟨h,λj hj=>by rw [hi] at hj;cases hj⟩
theorem inlOf_spec{E:Env}{o:Oper}{j:Inl}{xs:List Operand}(h:inlOf E o=some (j,xs)):∃ c,o.op=.call c/\c.callee=.value (.func j.f)/\xs=c.args.toList/\j∈E.inls/\E.inls.find? (λi=>i.f == j.f)=some j:=by
 unfold inlOf at h;split at h
 case h_2=>cases h
 rename_i c ho;split at h
 case h_2=>cases h
 rename_i f hc;split at h
 case h_2=>cases h
 rename_i i hi;simp only [Option.some.injEq,Prod.mk.injEq] at h;obtain ⟨rfl,rfl⟩:=h;have:=List.find?_some hi;simp only [beq_iff_eq] at this;subst this;exact ⟨c,ho,hc,rfl,List.mem_of_find?_eq_some hi,hi⟩
theorem posN_get:∀ {l:List Nat}{r:Nat},r∈l->l[posN l r]?=some r
 |x::l,r,h=>by
  unfold posN;by_cases hx:x=r
  ·subst hx;simp
  ·have:(x == r)=false:=by simpa using hx
   rw [this];simp only [List.getElem?_cons_succ];exact posN_get (by simpa [Ne.symm hx] using h)
theorem posN_at:∀ {l:List Nat}{i r:Nat},nodupN l=true->l[i]?=some r->posN l r=i
 |x::l,0,r,_,h=>by
  simp only [List.getElem?_cons_zero,Option.some.injEq] at h;subst h;simp [posN]
 |x::l,i+1,r,hn,h=>by
  simp only [List.getElem?_cons_succ] at h;simp only [nodupN,Bool.and_eq_true,Bool.not_eq_true',List.contains_eq_mem,decide_eq_false_iff_not] at hn
  have hx:(x == r)=false:=by
   simp only [beq_eq_false_iff_ne];rintro rfl;exact hn.1 (List.mem_of_getElem? h)
  unfold posN;rw [hx];simp only;rw [posN_at hn.2 h]
def C.rts:C->List Nat
 |.ref r _=>[r]
 |.ptr r _=>[r]
 |.eptr r _ _=>[r]
 |.mp r=>[r]
 |.fn _ caps=>caps.filterMap λp=>match p with|.root r=>some r|_=>none
 |_=>[]
theorem rootsIn_eq:∀ cs:List C,rootsIn cs=cs.flatMap C.rts
 |[]=>rfl
 |c::cs=>by
  have ih:=rootsIn_eq cs
  cases c<;>simp [rootsIn,C.rts,ih]<;>rfl
section
variable {w:World}{Z Y:Nat->Prop}{μ μ2:Locs}{f:Nat->Nat}
theorem PtrR.ren{r off:Nat}{v:Value}(h:PtrR μ r off v)(hf:μ r≠none->μ2 (f r)=μ r):PtrR μ2 (f r) off v:=by
 obtain ⟨ℓ,b,h1,h2⟩:=h;exact ⟨ℓ,b,by rw [hf (by rw [h1];simp)];exact h1,h2⟩
theorem CR.ren{c:C}{v:Value}(h:CR w Z μ c v)(hc:c.calm=true)(hf:∀ q∈c.rts,μ q≠none->μ2 (f q)=μ q):CR w Z μ2 (c.ren f) v:=by
 cases c with
 |ref r wd =>
  obtain ⟨ℓ,h1,h2⟩:=h;exact ⟨ℓ,by rw [hf r (by simp [C.rts]) (by rw [h1];simp)];exact h1,h2⟩
 |ptr r off=>exact PtrR.ren h (hf r (by simp [C.rts]))
 |eptr r i off =>
  obtain ⟨ℓ,b,h1,h2⟩:=h;exact ⟨ℓ,b,by rw [hf r (by simp [C.rts]) (by rw [h1];simp)];exact h1,h2⟩
 |stp q=>cases hc
 |mp r=>cases hc
 |fn g caps =>
  obtain ⟨vs,h1,h2,h3⟩:=h;refine ⟨vs,h1,by rw [h2,List.length_map],λk hk hk'=>?_⟩
  have hk2:k < caps.length:=by simpa using hk
  have b:=h3 k hk2 hk';rw [List.getElem_map]
  cases hq:caps[k] with
  |root r =>
   rw [hq] at b;exact PtrR.ren b (hf r (by simp only [C.rts,List.mem_filterMap];exact ⟨.root r,hq▸List.getElem_mem hk2,rfl⟩))
  |frz e x=>rw [hq] at b;exact b
 |_=>exact h
theorem CRs.ren{cs:List C}{vs:List Value}(h:CRs w Z μ cs vs)(hc:cs.all C.calm=true)(hf:∀ q∈rootsIn cs,μ q≠none->μ2 (f q)=μ q):CRs w Z μ2 (cs.map (C.ren f)) vs:=by
 refine ⟨by rw [List.length_map];exact h.1,λk hk hk'=>?_⟩
 have hk2:k < cs.length:=by simpa using hk
 rw [List.getElem_map];refine (h.2 k hk2 hk').ren (List.all_eq_true.1 hc _ (List.getElem_mem hk2)) λq hq=>hf q ?_;rw [rootsIn_eq,List.mem_flatMap];exact ⟨_,List.getElem_mem hk2,hq⟩
def AV.rts:AV->List Nat
 |.c x=>x.rts
 |.agg cs=>rootsIn cs
 |.tup l=>l.flatMap λp=>rootsIn p.2
theorem AR.ren{x:AV}{v:Value}(h:AR w Z μ x v)(hc:x.calm=true)(hf:∀ q∈x.rts,μ q≠none->μ2 (f q)=μ q):AR w Z μ2 (x.ren f) v:=by
 cases x with
 |c x=>exact CR.ren h hc hf
 |agg cs =>
  obtain ⟨vs,h1,h2⟩:=h;exact ⟨vs,h1,h2.ren hc hf⟩
 |tup l =>
  obtain ⟨vs,h1,h2,h3⟩:=h;refine ⟨vs,h1,by rw [h2,List.length_map],λk hk hk'=>?_⟩
  have hk2:k < l.length:=by simpa using hk
  have b:=h3 k hk2 hk';have hcl:(l[k]).2.all C.calm=true:=List.all_eq_true.1 hc _ (List.getElem_mem hk2)
  have hfl:∀ q∈rootsIn (l[k]).2,μ q≠none->μ2 (f q)=μ q:=λq hq=>hf q (by
   simp only [AV.rts,List.mem_flatMap]
   exact ⟨_,List.getElem_mem hk2,hq⟩)
  rw [List.getElem_map];rcases hl:l[k] with ⟨ag,cs⟩;rw [hl] at b hcl hfl
  cases ag with
  |true =>
   obtain ⟨us,b1,b2⟩:=b;exact ⟨us,b1,b2.ren hcl hfl⟩
  |false =>
   match cs,b,hcl,hfl with
   |c::_,b,hcl,hfl =>
    exact CR.ren b (by simp only [List.all_cons,Bool.and_eq_true] at hcl;exact hcl.1) λq hq=>hfl q (by rw [rootsIn_eq,List.flatMap_cons];exact List.mem_append_left _ hq)
   |[],_,_,_=>trivial
theorem ARs.ren{f:Nat->Nat}:∀ {xs:List AV}{vs:List Value},ARs w Z μ xs vs->(xs.all λx=>x.calm && !x.isTup)=true->(∀ q∈rootsIn (xs.flatMap AV.cells),μ q≠none->μ2 (f q)=μ q)->ARs w Z μ2 (xs.map (AV.ren f)) vs
 |[],_,h,_,_=>h
 |x::xs,_,⟨v,vs,h0,h1,h2⟩,hc,hf=>by
  subst h0;simp only [List.all_cons,Bool.and_eq_true] at hc;rw [List.flatMap_cons,rootsIn_eq,List.flatMap_append] at hf;refine ⟨v,vs,rfl,h1.ren hc.1.1 λq hq=>hf q (List.mem_append_left _ ?_),ARs.ren h2 hc.2 λq hq=>hf q (List.mem_append_right _ (by rw [<- rootsIn_eq];exact hq))⟩
  cases x with
  |c x =>
   have hq:q∈x.rts:=hq;simpa [AV.cells] using hq
  |agg cs=>rw [<- rootsIn_eq];exact hq
  |tup l=>simp [AV.isTup] at hc
theorem RootOk.ren{ℓ:Loc}{x:Root}(h:RootOk w Z Y μ ℓ x)(hc:x.calm=true)(hf:∀ q∈rootsIn x.open,μ q≠none->μ2 (f q)=μ q):RootOk w Z Y μ2 ℓ (x.ren f):=by
 cases x with
 |dead=>trivial
 |frz e xs=>exact h
 |bor s xs=>exact h
 |sb p xs=>exact h
 |bbox cs =>
  obtain ⟨b,h1,h2,us,h3,h4⟩:=h;exact ⟨b,h1,h2,us,h3,h4.ren hc hf⟩
 |box cs =>
  obtain ⟨b,h1,h2,h3,us,h4,h5⟩:=h;exact ⟨b,h1,h2,by rw [List.length_map];exact h3,us,h4,h5.ren hc hf⟩
 |arr s xs foc =>
  cases foc with
  |none=>exact ⟨(λ_ e=>by cases e),h.2.mono (SameOn.refl _ _) λi us x S _ _ hR=>hR⟩
  |some k =>
   refine ⟨(λg e=>by cases e;exact h.1 k rfl),h.2.mono (SameOn.refl _ _) λi us x S _ _ hR=>?_⟩;simp only [ElR] at hR ⊢;by_cases hi:k.i=i
   ·rw [if_pos hi] at hR ⊢;exact CRs.ren hR hc hf
   ·rw [if_neg hi] at hR ⊢;exact hR
 |mapr _ _ _ _=>cases hc
 |mape _ _ _ _ _ _=>cases hc
 |itr _ _ _ _ _ _=>cases hc
theorem Root.ren_owns(f:Nat->Nat)(x:Root):(x.ren f).owns=x.owns:=by
 cases x<;>try rfl
 case arr s xs foc=>cases foc<;>rfl
theorem Root.ren_dead(f:Nat->Nat){x:Root}(h:x.ren f≠.dead):x≠.dead:=by rintro rfl;exact h rfl
theorem MemOk.ren{B:Base}{m m2:Mem}(h:MemOk B m w Z μ)(hr:∀ r2 x2,m2.roots[r2]?=some x2->x2≠.dead->∃ r x,m.roots[r]?=some x/\x2=x.ren f/\f r=r2/\μ2 r2=μ r/\x.calm=true/\(∀ q∈rootsIn x.open,μ q≠none->μ2 (f q)=μ q))
  (hfar:∀ r,m2.roots.length<=r->μ2 r=none):MemOk B m2 w Z μ2:=by
 have hr':∀ r2 x2,m2.roots[r2]?=some x2->x2.owns=true->∃ r x,m.roots[r]?=some x/\x.owns=true/\f r=r2/\μ2 r2=μ r:=λr2 x2 hx ho=>by
  obtain ⟨r,x,h1,h2,h3,h4,_⟩:=hr r2 x2 hx (by rintro rfl;cases ho);exact ⟨r,x,h1,by rw [h2,Root.ren_owns] at ho;exact ho,h3,h4⟩
 refine ⟨λr2 x2 hx hd=>?_,λr2 s2 x2 y2 ℓ ℓ' hne hx hy hox hoy hl hl'=>?_,λr2 x2 ℓ b hx ho hl=>?_,h.frz,h.frz0,h.size,h.keep,hfar,h.lent,h.io⟩
 ·obtain ⟨r,x,h1,rfl,h3,h4,h5,h6⟩:=hr r2 x2 hx hd;obtain ⟨ℓ,g1,g2⟩:=h.rt r x h1 (Root.ren_dead f hd);exact ⟨ℓ,h4.trans g1,g2.ren h5 h6⟩
 ·obtain ⟨r,x,h1,h2,h3,h4⟩:=hr' r2 x2 hx hox;obtain ⟨s,y,k1,k2,k3,k4⟩:=hr' s2 y2 hy hoy;exact h.dj r s x y ℓ ℓ' (by rintro rfl;exact hne (h3.symm.trans k3)) h1 k1 h2 k2 (h4.symm.trans hl) (k4.symm.trans hl')
 ·obtain ⟨r,x,h1,h2,h3,h4⟩:=hr' r2 x2 hx ho;exact h.own r x ℓ b h1 h2 (h4.symm.trans hl)
theorem C.ren_ren{f g:Nat->Nat}{c:C}(h:∀ q∈c.rts,g (f q)=q)(hc:c.calm=true):(c.ren f).ren g=c:=by
 cases c with
 |ref r wd=>simp only [C.ren];rw [h r (by simp [C.rts])]
 |ptr r off=>simp only [C.ren];rw [h r (by simp [C.rts])]
 |eptr r i off=>simp only [C.ren];rw [h r (by simp [C.rts])]
 |stp q=>cases hc
 |mp r=>cases hc
 |fn k caps =>
  simp only [C.ren,List.map_map];congr 1
  conv=>rhs;rw [<- List.map_id caps]
  refine List.map_congr_left λp hp=>?_
  cases p with
  |root r=>simp only [Function.comp,Cap.ren];rw [h r (by simp only [C.rts,List.mem_filterMap];exact ⟨_,hp,rfl⟩)];rfl
  |frz e x=>rfl
 |_=>rfl
theorem Cs.ren_ren{f g:Nat->Nat}{cs:List C}(h:∀ q∈rootsIn cs,g (f q)=q)(hc:cs.all C.calm=true):(cs.map (C.ren f)).map (C.ren g)=cs:=by
 rw [List.map_map]
 conv=>rhs;rw [<- List.map_id cs]
 refine List.map_congr_left λc hm=>?_;exact C.ren_ren (λq hq=>h q (by rw [rootsIn_eq,List.mem_flatMap];exact ⟨c,hm,hq⟩)) (List.all_eq_true.1 hc c hm)
theorem Root.ren_ren{f g:Nat->Nat}{x:Root}(h:∀ q∈rootsIn x.open,g (f q)=q)(hc:x.calm=true):(x.ren f).ren g=x:=by
 cases x with
 |box cs =>
  have h':(cs.map (C.ren f)).map (C.ren g)=cs:=Cs.ren_ren h hc;simp only [Root.ren,h']
 |bbox cs =>
  have h':(cs.map (C.ren f)).map (C.ren g)=cs:=Cs.ren_ren h hc;simp only [Root.ren,h']
 |arr s xs foc =>
  cases foc with
  |none=>rfl
  |some k =>
   have h':(k.cells.map (C.ren f)).map (C.ren g)=k.cells:=Cs.ren_ren h hc;simp only [Root.ren,h']
 |_=>rfl
end
end Go.Mach

namespace Go.Mach
section
variable {B:Base}{E:Env}{st:St}{o:Oper}{a:Act}{w:World}{Z:Nat->Prop}{μ:Locs}{Φ:St->Prop}
theorem lift_get{M m:Mem}{l:List Nat}{r:Nat}{x:Root}(hx:M.roots[r]?=some x):(M.lift l m).roots[r]?=some (match l.contains r with
  |true=>match m.dR.testBit (posN l r) with
   |true=>(m.root (posN l r)).ren (backN l M.cur)
   |false=>x
  |false=>match Nat.ble M.cur r && Nat.blt (r-M.cur+l.length) m.roots.length with
   |true=>(m.root (r-M.cur+l.length)).ren (backN l M.cur)
   |false=>x):=by
 simp only [Mem.lift,List.getElem?_map,List.getElem?_zipIdx,hx,Option.map_some,Nat.zero_add];rfl
theorem lift_len(M m:Mem)(l:List Nat):(M.lift l m).roots.length=M.roots.length:=by simp [Mem.lift]
theorem sound_inl(hR:Rel B st a w Z μ){j:Inl}(hok:InlOk E.P B.g j){n:Nat}(hF:Fresh st n μ)(hn:j.news<=n){cl:Call}(ho:o.op=.call cl)(hcal:cl.callee=.value (.func j.f))
  (h:(inlK j (cl.args.toList.map (val st)) st.mem λv m=>Res.ok (st.with o.dst v m)).sat Φ) :
  o.wp E.P a w (Nxt B st n Z μ Φ) (λ_ _ _=>False):=by
 unfold inlK at h;split at h
 case h_2=>exact h.elim
 rename_i l _;split at h
 case h_2=>exact h.elim
 rename_i hin;simp only [inlIn,Bool.and_eq_true] at hin;obtain ⟨hnd,hxs,hroots,hlt,hrx,hnx⟩:=hin
 have hlt:∀ r∈l,r < st.mem.roots.length:=λr hr=>by
  have:=List.all_eq_true.1 hlt r hr;simpa [Nat.blt_eq] using this
 have hmem:∀ {r:Nat},l.contains r=true ↔ r∈l:=by intro r;simp
 have hrx:∀ q∈rootsIn ((cl.args.toList.map (val st)).flatMap AV.cells),q∈l:=λq hq=>hmem.1 (List.all_eq_true.1 hrx q hq)
 have hz:∀ r x,st.mem.roots[r]?=some x->(match l.contains r with|true=>x.calm && !x.isDead|false=>x.isDead)=true:=λr x hx =>
  List.all_eq_true.1 hroots (x,r) (by rw [List.mem_zipIdx_iff_getElem?];exact hx)
 have hin:∀ r∈l,∃ x,st.mem.roots[r]?=some x/\x.calm=true/\x≠.dead:=λr hr=>by
  have hx:=List.getElem?_eq_getElem (hlt r hr);have:=hz r _ hx;rw [hmem.2 hr] at this;simp only [Bool.and_eq_true,Bool.not_eq_true'] at this;exact ⟨_,hx,this.1,by intro hd;rw [hd] at this;cases this.2⟩
 have hout:∀ r x,r ∉ l->st.mem.roots[r]?=some x->x=.dead:=λr x hr hx=>by
  have:=hz r x hx
  have hc:l.contains r=false:=by simpa using hr
  rw [hc] at this
  cases x<;>simp [Root.isDead] at this<;>rfl
 have hcl:∀ r∈l,∀ x,st.mem.roots[r]?=some x->∀ q∈rootsIn x.open,q∈l:=λr hr x hx q hq=>hmem.1 (List.all_eq_true.1 hnx q (by
  simp only [Mem.next,List.mem_flatMap]
  exact ⟨r,hr,by rw [hx];exact hq⟩))
 generalize hM:st.mem=M at *
 let μc:Locs:=λi=>match l[i]? with
  |some r=>μ r
  |none=>none
 have hμc:∀ i r,l[i]?=some r->μc i=μ r:=λi r hi=>by show (match l[i]? with|some r=>μ r|none=>none)=_;rw [hi]
 have hσ:∀ q∈l,μc (posN l q)=μ q:=λq hq=>hμc _ _ (posN_get hq);have hmM:MemOk B M w Z μ:=hM▸hR.mem
 have hMc:MemOk B ⟨l.map λr=>(M.root r).ren (posN l),0,l.length⟩ w Z μc:=by
  refine MemOk.ren (f:=posN l) hmM (λi x2 hx2 hd=>?_) λi hi=>?_
  ·have hx2:(l.map λr=>(M.root r).ren (posN l))[i]?=some x2:=hx2;rw [List.getElem?_map] at hx2
   cases hli:l[i]? with
   |none=>rw [hli] at hx2;cases hx2
   |some r =>
    rw [hli] at hx2;simp only [Option.map_some,Option.some.injEq] at hx2;have hr:=List.mem_of_getElem? hli;obtain ⟨x,h1,h2,h3⟩:=hin r hr
    have hroot:M.root r=x:=by simp [Mem.root,h1]
    rw [hroot] at hx2;exact ⟨r,x,h1,hx2.symm,posN_at hnd hli,hμc i r hli,h2,λq hq _=>hσ q (hcl r hr x h1 q hq)⟩
  ·have hi:(l.map λr=>(M.root r).ren (posN l)).length<=i:=hi;rw [List.length_map] at hi
   show (match l[i]? with|some r=>μ r|none=>none)=none
   rw [List.getElem?_eq_none hi]
 have hargs:ARs w Z μc ((cl.args.toList.map (val st)).map (AV.ren (posN l))) (cl.args.toList.map a.eval) :=
  ARs.ren (ARs.vals hR _) hxs λq hq _=>hσ q (hrx q hq)
 obtain ⟨fn,hfn,hbody,hname⟩:=hok.fn
 have hexec:(execOp a.eval o).run E.P w=.ok (.enter j.f (cl.args.toList.map a.eval).toArray) w:=by
  have hfv:a.eval (.func j.f)=.func (.func j.f) #[] #[]:=rfl;simp only [execOp,ho,resolve,hcal,hfv,Deferred.ofValue,Sem.run_bind,Sem.run_pure,Result.andThen_ok,invoke]
  have hb:fn.body.isNone=false:=by cases hfb:fn.body with
   |none=>rw [hfb] at hbody;cases hbody
   |some _=>rfl
  simp only [callFunc];have hprog:(program:Sem Program).run E.P w=.ok E.P w:=rfl;simp only [Sem.run_bind,hprog,Result.andThen_ok,hfn,hname,hb,Bool.false_eq_true,if_false,Sem.run_pure]
  have:(cl.args.toList.map a.eval).toArray=cl.args.map a.eval:=by
   apply Array.ext';simp
  rw [this];simp
 refine wp_of_enter hexec (Calls.mono (hok.run B St Φ _ _ _ w Z μc _ rfl hMc hargs h) ?_);rintro e w' ⟨vr,v,m',Z',μ',rfl,hk,hm',hv,hsame,hzz,hext,hlen,hkeep,_⟩;refine ⟨vr,rfl,?_⟩;split at hk
 case h_2=>exact hk.elim
 rename_i hio;simp only [inlOut,Bool.and_eq_true,Nat.ble_eq] at hio;obtain ⟨hvc,hl1,hl2,hl3,hrc⟩:=hio;have hlen:l.length<=m'.roots.length:=hl1;have hkeep:∀ i,i < l.length->m'.dR.testBit i=false->m'.roots[i]?=(l.map λr=>(M.root r).ren (posN l))[i]?:=λi hi hb=>hkeep i (by show i < (l.map _).length;rw [List.length_map];exact hi) hb;have hfar:∀ i,m'.roots.length<=i->μ' i=none:=hm'.far;have hcalm:∀ (i:Nat) (x:Root),m'.roots[i]?=some x->x.calm=true:=λi x hx=>List.all_eq_true.1 hrc x (List.mem_of_getElem? hx)
 have hcur:∀ k,k < n->μ (M.cur+k)=none/\M.roots[M.cur+k]?=some .dead:=λk hk=>by have:=hF k hk;rw [hM] at this;exact this
 have hslot:∀ r,M.cur<=r->r < M.cur+n->r ∉ l:=λr h1 h2 hr=>by
  obtain ⟨x,g1,_,g3⟩:=hin r hr;have:=(hcur (r-M.cur) (by omega)).2
  rw [show M.cur+(r-M.cur)=r from by omega,g1] at this
  cases this;exact g3 rfl
 let μ2:Locs:=λr=>if r∈l then μ' (posN l r) else if M.cur<=r/\r < M.cur+(m'.roots.length-l.length) then μ' (r-M.cur+l.length) else μ r
 have hk2:m'.roots.length-l.length<=n:=by omega
 have hμl:∀ i r,l[i]?=some r->μ2 r=μ' i:=λi r hi=>by
  show (if r∈l then _ else _)=_
  rw [if_pos (List.mem_of_getElem? hi),posN_at hnd hi]
 have hμn:∀ i,l.length<=i->i < m'.roots.length->μ2 (M.cur+(i-l.length))=μ' i:=λi h1 h2=>by
  show (if M.cur+(i-l.length)∈l then _ else _)=_
  rw [if_neg (hslot _ (by omega) (by omega)),if_pos (by omega)];congr 1;omega
 have hback:∀ i,μ' i≠none->μ2 (backN l M.cur i)=μ' i:=λi hi=>by
  have hi':i < m'.roots.length:=by
   rcases Nat.lt_or_ge i m'.roots.length with h1|h1
   ·exact h1
   ·exact absurd (hfar i h1) hi
  unfold backN
  cases hli:l[i]? with
  |some r=>exact hμl i r hli
  |none =>
   have:l.length<=i:=by simpa using hli
   exact hμn i this hi'
 have hx2:ExtL μ μ2:=λr ℓ hr=>by
  by_cases hrl:r∈l
  ·have h1:μc (posN l r)=some ℓ:=by rw [hσ r hrl];exact hr
   obtain ⟨S',h2⟩:=hext _ ℓ h1;exact ⟨S',by rw [hμl _ r (posN_get hrl)];exact h2⟩
  ·refine ⟨ℓ.S,?_⟩
   show (if r∈l then _ else _)=_
   rw [if_neg hrl];by_cases hs:M.cur<=r/\r < M.cur+(m'.roots.length-l.length)
   ·have:=(hcur (r-M.cur) (by omega)).1
    rw [show M.cur+(r-M.cur)=r from by omega,hr] at this
    cases this
   ·rw [if_neg hs];exact hr
 have hout2:∀ r,(r < M.cur\/M.cur+n<=r)->μ r=none->μ2 r=none:=λr hr hn0=>by
  by_cases hrl:r∈l
  ·obtain ⟨x,g1,_,g3⟩:=hin r hrl;obtain ⟨ℓ,g4,_⟩:=hmM.rt r x g1 g3;rw [g4] at hn0;cases hn0
  ·show (if r∈l then _ else _)=_
   rw [if_neg hrl,if_neg (by omega)];exact hn0
 have hM2:MemOk B (M.lift l m') w' Z' μ2:=by
  refine MemOk.ren (f:=backN l M.cur) hm' (λr x2 hx hd=>?_) λr hr=>?_
  ·have hrlt:r < M.roots.length:=by rw [<- lift_len M m' l];exact (List.getElem?_eq_some_iff.1 hx).1
   have hxr:=List.getElem?_eq_getElem hrlt;rw [lift_get hxr] at hx;simp only [Option.some.injEq] at hx
   have hgen:∀ (i:Nat) (x:Root),m'.roots[i]?=some x->backN l M.cur i=r->μ2 r=μ' i->x2=x.ren (backN l M.cur)->∃ (r_1:Nat) (x:Root),m'.roots[r_1]?=some x/\x2=x.ren (backN l M.cur)/\backN l M.cur r_1=r/\μ2 r=μ' r_1/\x.calm=true/\(∀ q∈rootsIn x.open,μ' q≠none->μ2 (backN l M.cur q)=μ' q) :=
    λi x h1 h2 h3 h4=>⟨i,x,h1,h4,h2,h3,hcalm i x h1,λq _ hq=>hback q hq⟩
   have hroot:∀ i,i < m'.roots.length->m'.roots[i]?=some (m'.root i):=λi hi=>by simp [Mem.root,List.getElem?_eq_getElem hi]
   by_cases hrl:r∈l
   ·have hp:=posN_get hrl;have hpl:posN l r < l.length:=(List.getElem?_eq_some_iff.1 hp).1
    have hb:backN l M.cur (posN l r)=r:=by simp [backN,hp]
    rw [hmem.2 hrl] at hx
    cases hbit:m'.dR.testBit (posN l r) with
    |true =>
     rw [hbit] at hx;exact hgen _ _ (hroot _ (by omega)) hb (hμl _ _ hp) hx.symm
    |false =>
     rw [hbit] at hx;have h1:=hkeep _ hpl hbit;rw [List.getElem?_map,hp] at h1;simp only [Option.map_some] at h1
     have hrt:M.root r=M.roots[r]:=by simp [Mem.root,hxr]
     rw [hrt] at h1;obtain ⟨x,g1,g2,g3⟩:=hin r hrl;rw [hxr] at g1;cases g1;refine hgen _ _ h1 hb (hμl _ _ hp) ?_;rw [Root.ren_ren (λq hq=>?_) g2]
     ·exact hx.symm
     ·have hql:=hcl r hrl _ hxr q hq;have:=posN_get hql;simp [backN,this]
   ·have hc:l.contains r=false:=by simpa using hrl
    rw [hc] at hx
    cases hbb:(Nat.ble M.cur r && Nat.blt (r-M.cur+l.length) m'.roots.length) with
    |true =>
     rw [hbb] at hx;simp only [Bool.and_eq_true,Nat.ble_eq,Nat.blt_eq] at hbb;refine hgen _ _ (hroot _ hbb.2) ?_ ?_ hx.symm
     ·unfold backN;rw [List.getElem?_eq_none (by omega)];simp only;omega
     ·have:=hμn (r-M.cur+l.length) (by omega) hbb.2
      rw [show M.cur+(r-M.cur+l.length-l.length)=r from by omega] at this
      exact this
    |false =>
     rw [hbb] at hx;exact absurd (hx.symm.trans (hout r _ hrl hxr)) hd
  ·rw [lift_len] at hr
   show (if r∈l then _ else _)=_
   rw [if_neg (λh=>by have:=hlt r h;omega),if_neg (by omega)];exact hmM.far r hr
 have hv2:AR w' Z' μ2 (v.ren (backN l M.cur)) vr:=hv.ren hvc λq _ hq=>hback q hq;have hput:=hR.put hM2 hsame hzz hx2 o.dst hv2;refine ⟨_,Z',μ2,hput,hk,?_,?_,?_,hzz,hx2⟩
 ·cases o.dst<;>simp [St.with,St.put,lift_len,hM]
 ·cases o.dst<;>rfl
 ·rw [hM];exact hout2
end
end Go.Mach

namespace Go.Mach
section
variable {B:Base}{m:Mem}{w:World}{Z:Nat->Prop}{μ:Locs}
theorem shutM_sound(hM:MemOk B m w Z μ){r:Nat}{m0:Mem}(hs:m.shutM r=some m0){ℓ:Loc}(hμ:μ r=some ℓ) :
  ∃ (Z' S':Nat->Prop) (n:Nat) (s:Sh) (xs:List (List Int×s.den)),m0.roots[r]?=some (.mapr n s xs none)/\MemOk B m0 w Z' (μ.set r { ℓ with S:=S' })/\(∀ b,Z b->Z' b)/\Kept m m0:=by
 unfold Mem.shutM at hs;split at hs
 ·rename_i n s xs f hr;split at hs
  case h_2=>cases hs
  rename_i x m1 hg;cases hs;obtain ⟨ℓ',h5,h6,b,h7,h8⟩:=hM.rt r _ hr (by simp);rw [hμ] at h5;cases h5;obtain ⟨t1,t2⟩:=take_root hM (Loose.none B m w Z μ) hr hμ rfl;have hi:=h6 f rfl;have h8':=h8;obtain ⟨q0,es,clock,q1,q2,q3,q4,q5,q6,N,q7,q8,q9⟩:=h8;obtain ⟨_,j3⟩:=q9 f.i hi (by omega);simp only [EnR,ElR,if_true] at j3;obtain ⟨⟨Z',F',S1,us1,us2,e1,e2,e3,e4,e5,e6,e7,e8,e9⟩,ek⟩:=get_sound s t1 t2 j3 hg;have:=e9.nil_inv;subst this;rw [List.append_nil] at e1;subst e1
  have key:MapR w n (xs.modify f.i λe=>(e.1,x)) (λ_ us x S=>SR w Z' B.Y s us x S) b (λd=>ℓ.S d\/S1 d):=by
   refine h8'.putBack (λd hd hS=>(e7 d hd).2 (.inr hS)) (λes' clock' hes h=>?_) λj us x T hj hR=>?_
   ·rw [q1] at hes;cases hes;exact e8
   ·simp only [EnR,ElR,if_neg (Ne.symm hj)] at hR;exact hR.up e5
  have hlt:r < m.roots.length:=(List.getElem?_eq_some_iff.1 hr).1;have hdead:m1.roots[r]?=some .dead:=ek.dead r (by simp [Mem.set,hlt]);have hlt1:r < m1.roots.length:=(List.getElem?_eq_some_iff.1 hdead).1;obtain ⟨p1,_⟩:=put_root (x:=.mapr n s (xs.modify f.i λe=>(e.1,x)) none) (ℓ:={ ℓ with S:=λd=>ℓ.S d\/S1 d }) e3 e4 hdead (ExtL.setS hμ) ⟨(λf hf=>by cases hf),b,h7,key⟩ (λ_ d hd=>hd.elim (λh=>e6 d (.inr h)) λh=>(e7 d h).1);refine ⟨Z',_,n,s,xs.modify f.i λe=>(e.1,x),?_,p1,e5,?_⟩
  ·simp [Mem.set,hlt1]
  ·refine ⟨?_,ek.cur,λq hq=>?_⟩
   ·show (List.set _ _ _).length=_;rw [List.length_set,ek.len];simp [Mem.set]
   ·have hne:r≠q:=by rintro rfl;rw [hr] at hq;cases hq
    show (List.set _ _ _)[q]?=_;rw [List.getElem?_set_ne hne];exact ek.dead q (by simp only [Mem.set];rw [List.getElem?_set_ne hne];exact hq)
 ·rename_i n s xs hr;cases hs
  exact ⟨Z,ℓ.S,n,s,xs,hr,by rw [show ({ ℓ with S:=ℓ.S }:Loc)=ℓ from rfl,Locs.set_self hμ];exact hM,λ_ h=>h,Kept.refl _⟩
 ·cases hs
end
end Go.Mach

namespace Go.Mach
theorem keyV_inj{l m:List Int}(h:keyV l=keyV m):l=m:=by
 unfold keyV at h;injection h with h
 have h:l.map (Value.int .i64)=m.map (Value.int .i64):=by simpa using h
 exact List.map_inj_right (λa b h=>by injection h) |>.1 h
theorem keyFit_iff{l:List Int}:keyFit l=true ↔ ∀ a∈l,inRange .i64 a=true:=by
 unfold keyFit inRange;rw [List.all_eq_true]
theorem wf_of_inRange{n:Int}(h:inRange .i64 n=true):(Lit.int .i64 n).wf=true:=by
 have h:-9223372036854775808<=n/\n < 9223372036854775808:=by
  unfold inRange at h;simp [IntKind.wrap,IntKind.min,IntKind.max,IntKind.signed,IntKind.bits] at h;omega
 simp [Lit.wf,IntKind.min,IntKind.max,IntKind.signed,IntKind.bits];omega
theorem keyT_of{P:Program}{K T n:Nat}(hl:laidOutB P=true)(hs:P.types.size+2<=10000)(hK:P.underlying K=some (.array n T))(hT:P.underlying T=some (.int .i64))(hr:K < P.types.size)
  (hk:P.keyType K=true) (hc:P.cellsOf K=n) (hc1:P.cellsOf T=1):KeyT P K n:=by
 refine ⟨deep_law_gate hl hs hr hk (by rw [hK]),λl hn hin'=>?_⟩;have hin:=keyFit_iff.1 hin'
 have hf:(keyV l).formed P K=true:=by simp [keyV,Value.formed,hK,hc,hn]
 obtain ⟨s,hsz⟩:∃ s,P.types.size=s+1:=⟨P.types.size-1,by omega⟩
 have h1:∀ i∈List.range n,P.keyLits (s+1) T (((l.map (Value.int .i64)).drop (i*P.cellsOf T)).take (P.cellsOf T))=some [.int .i64 (l.getD i 0)]:=λi hi=>by
  have hi:=List.mem_range.1 hi
  have hi':i < l.length:=by omega
  rw [hc1,Nat.mul_one,List.drop_eq_getElem_cons (by simpa using hi')];simp only [List.take_succ_cons,List.take_zero,List.getElem_map];unfold Program.keyLits;rw [hT];have hw:(Lit.int .i64 l[i]).wf=true:=wf_of_inRange (hin _ (List.getElem_mem hi'));simp [hw,List.getD,hi']
 have h2:(List.range n).mapM (λi=>P.keyLits (s+1) T (((l.map (Value.int .i64)).drop (i*P.cellsOf T)).take (P.cellsOf T)))=some ((List.range n).map λi=>[Lit.int .i64 (l.getD i 0)]):=by
  have:∀ is:List Nat,(∀ i∈is,i∈List.range n)->is.mapM (λi=>P.keyLits (s+1) T (((l.map (Value.int .i64)).drop (i*P.cellsOf T)).take (P.cellsOf T)))=some (is.map λi=>[Lit.int .i64 (l.getD i 0)]):=by
   intro is
   induction is with
   |nil=>intro _;rfl
   |cons i is ih =>
    intro h;rw [List.mapM_cons,h1 i (h i (by simp)),ih λj hj=>h j (by simp [hj])];rfl
  exact this _ λ_ h=>h
 rw [<- Option.isSome_iff_exists];unfold keyOf;rw [hK];simp only [hk,hf,Bool.and_self,if_true];rw [hsz];unfold Program.keyLits;rw [hK];simp only [keyV,Value.cells]
 have hlen:(List.map (Value.int .i64) l).length=P.cellsOf K:=by simp [hc,hn]
 simp only [hlen,if_true,h2];rfl
theorem keyIx_some{α:Type}{xs:List (List Int×α)}{l:List Int}{j:Nat}(hn:(xs.map (·.1)).Nodup)(hj:j < xs.length)(h:xs[j].1=l):keyIx xs l=some j:=by
 unfold keyIx;rw [List.findIdx?_eq_some_iff_getElem];refine ⟨hj,by simpa using h,λk hk=>?_⟩;simp only [decide_eq_true_eq];intro e
 have h1:(xs.map (·.1))[k]'(by simp;omega)=(xs.map (·.1))[j]'(by simpa using hj):=by simp [e,h]
 have h2:=(List.getElem_inj hn).1 h1;omega
theorem keyIx_none{α:Type}{xs:List (List Int×α)}{l:List Int}(h:∀ x∈xs,x.1≠l):keyIx xs l=none:=by
 unfold keyIx;rw [List.findIdx?_eq_none_iff]
 exact λx hx=>by simpa using h x hx
theorem find_map{α:Type}{P:Program}{K n:Nat}(hK:KeyT P K n){w:World}{es:Array MapEntry}{xs:List (List Int×α)}(hsz:es.size=xs.length)(hkey:∀ i (h:i < xs.length) (h':i < es.size),es[i].key=keyV xs[i].1)
  (hn:(xs.map (·.1)).Nodup) (hin:∀ x∈xs,x.1.length=n/\∀ a∈x.1,inRange .i64 a=true){l:List Int}(hl:l.length=n) (hr:∀ a∈l,inRange .i64 a=true) :
  ((Instr.findKey K (keyV l) es.toList).run P w=.ok none w/\keyIx xs l=none)\/∃ j,∃ h:j < es.size,(Instr.findKey K (keyV l) es.toList).run P w=.ok (some (j,es[j].val)) w/\keyIx xs l=some j:=by
 obtain ⟨L,hL⟩:=hK.ex l hl (keyFit_iff.2 hr)
 have hks:∀ e∈es.toList,∃ i,∃ h:i < xs.length,e.key=keyV xs[i].1:=λe he=>by
  obtain ⟨i,hi,rfl⟩:=List.getElem_of_mem he
  have hi':i < es.size:=by simpa using hi
  exact ⟨i,by omega,hkey i (by omega) hi'⟩
 rcases hK.law.find w hL es.toList (λe he=>by
  obtain ⟨i,hi,h⟩:=hks e he;rw [h]
  exact hK.ex _ (hin _ (List.getElem_mem hi)).1 (keyFit_iff.2 (hin _ (List.getElem_mem hi)).2)) with ⟨h1,h2⟩|⟨j,e,h1,h2,h3⟩
 ·refine .inl ⟨h1,keyIx_none λx hx e=>?_⟩;obtain ⟨i,hi,rfl⟩:=List.getElem_of_mem hx
  have hi':i < es.size:=by omega
  exact h2 es[i] (by simp) (by rw [hkey i hi hi',e])
 ·have hj:j < es.size:=by simpa using (List.getElem?_eq_some_iff.1 h2).1
  have he:es[j]=e:=by
   have:=(List.getElem?_eq_some_iff.1 h2).2;simpa using this
  refine .inr ⟨j,hj,by rw [h1,he],keyIx_some hn (by omega) ?_⟩;have h4:=hkey j (by omega) hj;rw [he,h3] at h4;exact (keyV_inj h4).symm
end Go.Mach

namespace Go.Mach
def setB(w:World)(b:Nat)(o:Obj):World:={ w with heap:=w.heap.setIfInBounds b o }
section
variable {α:Type}{P:Program}{K e t n:Nat}{w:World}{b clock:Nat}{es:Array MapEntry}{xs:List (List Int×α)}{l:List Int}
structure MapK (P:Program) (t K e n:Nat) (w:World) (b:Nat) (es:Array MapEntry) (clock:Nat) (xs:List (List Int×α)):Prop where
 key:KeyT P K n
 ty:P.underlying t=some (.map K e)
 blk:w.heap[b]?=some (.map es clock)
 sz:es.size=xs.length
 keys:∀ i (h:i < xs.length) (h':i < es.size),es[i].key=keyV xs[i].1
 nd:(xs.map (·.1)).Nodup
 fit:∀ x∈xs,x.1.length=n/\∀ a∈x.1,inRange .i64 a=true
theorem run_look(h:MapK P t K e n w b es clock xs)(hl:l.length=n)(hr:∀ a∈l,inRange .i64 a=true){z:Value}(hz:(zeroValue e).run P w=.ok z w) :
  ((Instr.lookup t (.map (some b)) (keyV l) false).run P w=.ok z w/\keyIx xs l=none)\/∃ j,∃ h:j < es.size,(Instr.lookup t (.map (some b)) (keyV l) false).run P w=.ok es[j].val w/\keyIx xs l=some j:=by
 obtain ⟨L,hL⟩:=h.key.ex l hl (keyFit_iff.2 hr);rcases find_map (w:=w) h.key h.sz h.keys h.nd h.fit hl hr with ⟨h1,h2⟩|⟨j,hj,h1,h2⟩
 ·exact .inl ⟨by simp [Instr.lookup,run_underlying h.ty,MapKept.run_getObj_map h.blk,h.key.law.check w _ hL,h1,hz,Result.andThen],h2⟩
 ·exact .inr ⟨j,hj,by simp [Instr.lookup,run_underlying h.ty,MapKept.run_getObj_map h.blk,h.key.law.check w _ hL,h1,Result.andThen],h2⟩
theorem run_del(h:MapK P t K e n w b es clock xs)(hl:l.length=n)(hr:∀ a∈l,inRange .i64 a=true){ty:TypeId} :
  ((Builtin.delete_ #[t,K] ty #[.map (some b),keyV l]).run P w=.ok (.tuple #[]) (setB w b (.map es clock))/\keyIx xs l=none) \/
  ∃ j,j < es.size/\(Builtin.delete_ #[t,K] ty #[.map (some b),keyV l]).run P w=.ok (.tuple #[]) (setB w b (.map (es.eraseIdxIfInBounds j) clock))/\keyIx xs l=some j:=by
 obtain ⟨L,hL⟩:=h.key.ex l hl (keyFit_iff.2 hr);rcases find_map (w:=w) h.key h.sz h.keys h.nd h.fit hl hr with ⟨h1,h2⟩|⟨j,hj,h1,h2⟩
 ·exact .inl ⟨by simp [Builtin.delete_,run_underlying h.ty,MapKept.run_getObj_map h.blk,h.key.law.check w _ hL,h1,MapKept.run_setObj_map _ h.blk,Result.andThen,setB],h2⟩
 ·exact .inr ⟨j,hj,by simp [Builtin.delete_,run_underlying h.ty,MapKept.run_getObj_map h.blk,h.key.law.check w _ hL,h1,MapKept.run_setObj_map _ h.blk,Result.andThen,setB],h2⟩
theorem run_upd(h:MapK P t K e n w b es clock xs)(hl:l.length=n)(hr:∀ a∈l,inRange .i64 a=true){v:Value} :
  ((Instr.mapUpdate t (.map (some b)) (keyV l) v).run P w=.ok () (setB w b (.map (es.push ⟨keyV l,v,clock⟩) (clock+1)))/\keyIx xs l=none) \/
  ∃ j,j < es.size/\(Instr.mapUpdate t (.map (some b)) (keyV l) v).run P w=.ok () (setB w b (.map (es.modify j λx=>{ x with key:=keyV l,val:=v }) clock))/\keyIx xs l=some j:=by
 obtain ⟨L,hL⟩:=h.key.ex l hl (keyFit_iff.2 hr);rcases find_map (w:=w) h.key h.sz h.keys h.nd h.fit hl hr with ⟨h1,h2⟩|⟨j,hj,h1,h2⟩
 ·exact .inl ⟨by simp [Instr.mapUpdate,run_underlying h.ty,MapKept.run_getObj_map h.blk,h.key.law.check w _ hL,h1,MapKept.run_setObj_map _ h.blk,Result.andThen,setB],h2⟩
 ·have hjx:j < xs.length:=by have:=h.sz;omega
  have hk:xs[j].1=l:=by
   have:=(List.findIdx?_eq_some_iff_getElem.1 h2).2.1;simpa using this
  have hk2:es[j].key=keyV l:=by rw [h.keys j hjx hj,hk]
  have hst:=h.key.law.stays w hL;exact .inr ⟨j,hj,by simp [Instr.mapUpdate,run_underlying h.ty,MapKept.run_getObj_map h.blk,h.key.law.check w _ hL,h1,hk2,hj,hst,MapKept.run_setObj_map _ h.blk,Result.andThen,setB],h2⟩
end
end Go.Mach

namespace Go.Mach
theorem setB_ne(w:World){b d:Nat}(o:Obj)(h:d≠b):(setB w b o).heap[d]?=w.heap[d]?:=by
 simp only [setB,Array.getElem?_setIfInBounds];rw [if_neg (λe=>h e.symm)]
theorem setB_at(w:World){b:Nat}(o:Obj)(h:b < w.heap.size):(setB w b o).heap[b]?=some o:=by
 simp only [setB,Array.getElem?_setIfInBounds];simp [h]
theorem setB_size(w:World)(b:Nat)(o:Obj):(setB w b o).heap.size=w.heap.size:=by simp [setB]
theorem intsOf_spec{w:World}{Z:Nat->Prop}{μ:Locs}:∀ {cs:List C}{us:List Value}{l:List Int},CRs w Z μ cs us->intsOf cs=some l->us=l.map (Value.int .i64)/\∀ a∈l,inRange .i64 a=true
 |[],us,l,hc,h=>by
  simp only [intsOf,Option.some.injEq] at h;subst h;exact ⟨hc.nil_inv,by simp⟩
 |c::cs,us,l,hc,h=>by
  obtain ⟨v,us',rfl,h1,h2⟩:=hc.cons_inv;unfold intsOf at h;split at h
  ·rename_i e;cases e
  ·rename_i n cs' e;cases e;split at h
   case h_2=>cases h
   rename_i l' hl;cases h;obtain ⟨g1,g2⟩:=intsOf_spec h2 hl;obtain ⟨k1,k2⟩:=h1;subst g1;refine ⟨by rw [k1];rfl,λa ha=>?_⟩;rcases List.mem_cons.1 ha with rfl|ha
   ·exact k2
   ·exact g2 a ha
  ·cases h
theorem keyA_spec{w:World}{Z:Nat->Prop}{μ:Locs}{x:AV}{v:Value}{l:List Int}(hx:AR w Z μ x v)(h:keyA x=some l):v=keyV l/\∀ a∈l,inRange .i64 a=true:=by
 unfold keyA at h;split at h
 ·obtain ⟨vs,rfl,hc⟩:=hx;obtain ⟨rfl,h2⟩:=intsOf_spec hc h;exact ⟨rfl,h2⟩
 ·cases h
theorem key_spec{E:Env}{t:TypeId}{n:Nat}(h:E.key? t=some n):∃ K e,E.P.underlying t=some (.map K e)/\KeyT E.P K n:=by
 unfold Env.key? at h;split at h
 ·rename_i K e ht;split at h
  ·rename_i p hp;cases h;have h1:=List.find?_some hp;have h2:=List.mem_of_find?_eq_some hp
   have h1:p.1=K:=by simpa using h1
   exact ⟨K,e,ht,h1▸E.kok p h2⟩
  ·cases h
 ·cases h
theorem sat_look{α β:Type}{xs:List (List Int×α)}{l:List Int}{f:Nat->α->Res β}{g:Res β}{Φ:β->Prop}(h:(Res.look xs l f g).sat Φ) :
  (keyIx xs l=none->g.sat Φ)/\∀ j,keyIx xs l=some j->∃ hj:j < xs.length,(f j xs[j].2).sat Φ:=by
 unfold Res.look at h;refine ⟨λe=>by rw [e] at h;exact h,λj e=>?_⟩;rw [e] at h;simp only at h;split at h
 ·rename_i x hx;obtain ⟨hj,rfl⟩:=List.getElem?_eq_some_iff.1 hx;exact ⟨hj,h⟩
 ·exact h.elim
section
variable {B:Base}{E:Env}{st:St}{o:Oper}{a:Act}{w:World}{Z:Nat->Prop}{μ:Locs}{Φ:St->Prop}
theorem sound_makeMap(hR:Rel B st a w Z μ){n:Nat}(hF:Fresh st n μ)(hn:1<=n){T:TypeId}(ho:o.op=.makeMap T none)(h:(step E st o Res.ok).sat Φ) :
  o.wp E.P a w (Nxt B st n Z μ Φ) (λ_ _ _=>False):=by
 simp only [step,stepV,ho] at h;split at h
 case h_2=>exact h.elim
 rename_i k s hk hs
 refine new_sound hR hF hn (w':=w.alloc (.map #[] 0)) (v:=.map (some w.heap.size)) (ℓ:=⟨some w.heap.size,0,0,0,0,λb=>b=w.heap.size,none⟩) ?_
  (λb hb=>alloc_old _ _ hb) (by rw [alloc_size];omega) (by rintro b rfl;rw [alloc_size];omega) ?_ ?_ h
 ·simp only [execOp,ho];simp [Instr.makeMap,Result.andThen]
 ·refine ⟨λf hf=>by (cases hf),_,rfl,rfl,#[],0,alloc_new _ _,rfl,by simp,by simp,by simp,by simp,λ_ _=>False,λ_ _ _ h=>h.elim,λ_ _ _ _ _ _ h=>h.elim,λi hi=>?_⟩;simp at hi
 ·exact ⟨_,_,Locs.set_at _ _ _,rfl,rfl⟩
theorem mapK_of{P:Program}{t K e n:Nat}(hk:KeyT P K n)(ht:P.underlying t=some (.map K e)){α:Type}{xs:List (List Int×α)}{R:Nat->List Value->α->(Nat->Prop)->Prop}{b:Nat}{S:Nat->Prop}{es:Array MapEntry}{clock:Nat}
  (he:w.heap[b]?=some (.map es clock)) (h:MapR w n xs R b S):MapK P t K e n w b es clock xs:=by
 obtain ⟨_,es',clock',h1,h2,h3,h4,h5,h6,N,h7,h8,h9⟩:=h;rw [he] at h1;cases h1;exact ⟨hk,ht,he,h2,λi hi hi'=>(h9 i hi hi').1,h5,h6⟩
theorem run_zero{P:Program}{e:TypeId}{z:C}(h:zero1 P e=some z)(w:World):∃ zv:Value,(zeroValue e).run P w=.ok zv w/\z=cellOf zv:=by
 unfold zero1 at h;split at h
 case h_2=>cases h
 rename_i i hi;split at h
 ·cases h
 ·rename_i v _ hzv;cases h;exact ⟨v,by simp [zeroValue,typeInfo,hi,hzv],rfl⟩
 ·cases h
theorem cur_apart{n r:Nat}{x:Root}(hF:Fresh st n μ)(hr:st.mem.roots[r]?=some x)(hx:x≠.dead){k:Nat}(hk:k<=n):r < st.mem.cur\/st.mem.cur+k<=r:=by
 rcases Nat.lt_or_ge r st.mem.cur with h'|h'
 ·exact .inl h'
 ·right;rcases Nat.lt_or_ge r (st.mem.cur+k) with h''|h''
  ·have:=(hF (r-st.mem.cur) (by omega)).2
   rw [show st.mem.cur+(r-st.mem.cur)=r from by omega,hr] at this
   cases this;exact absurd rfl hx
  ·exact h''
theorem shutM_root{m m0:Mem}{r:Nat}(h:m.shutM r=some m0):∃ n s xs f,m.roots[r]?=some (.mapr n s xs f):=by
 unfold Mem.shutM at h;split at h
 ·rename_i hr;exact ⟨_,_,_,_,hr⟩
 ·rename_i hr;exact ⟨_,_,_,_,hr⟩
 ·cases h
theorem Free.kept{m m':Mem}{n:Nat}(hF:Free m μ n)(hk:Kept m m'){μ':Locs}(hμ:∀ r,μ r=none->μ' r=none):Free m' μ' n:=λk hk'=>by
 obtain ⟨h1,h2⟩:=hF k hk';rw [hk.cur];exact ⟨hμ _ h1,hk.dead _ h2⟩
theorem sound_lookup(hR:Rel B st a w Z μ){n:Nat}(hF:Fresh st n μ)(hn:newsOf E o<=n){T:TypeId}{x i:Operand}(ho:o.op=.lookup T x i false)(h:(step E st o Res.ok).sat Φ) :
  o.wp E.P a w (Nxt B st n Z μ Φ) (λ_ _ _=>False):=by
 simp only [step,stepV,ho] at h;split at h
 case h_2=>exact h.elim
 rename_i k z hk hz;obtain ⟨K,e,ht,hkt⟩:=key_spec hk;have hX:=hR.val x;have hI:=hR.val i;unfold lookK at h;split at h
 case h_2=>exact h.elim
 rename_i r l hx hi;rw [hx] at hX;obtain ⟨hI,hfit⟩:=keyA_spec hI hi;split at h
 case h_2=>exact h.elim
 rename_i m0 hm0;obtain ⟨ℓ,b,g1,g2,g3⟩:=hX;obtain ⟨n',s',xs',f',hr0⟩:=shutM_root hm0;obtain ⟨Z1,S1,k1,s,xs,hr,hM,hz1,hkept⟩:=shutM_sound hR.mem hm0 g1;rw [hr] at h;simp only at h;split at h
 case h_2=>exact h.elim
 rename_i hc;simp only [Bool.and_eq_true,beq_iff_eq,decide_eq_true_eq] at hc;obtain ⟨rfl,hc2,hc3,hc5⟩:=hc;have hμ1:μ.set r { ℓ with S:=S1 } r=some { ℓ with S:=S1 }:=Locs.set_at _ _ _;have hx1:ExtL μ (μ.set r { ℓ with S:=S1 }):=ExtL.setS g1;obtain ⟨ℓ',h5,h6,b',h7,h8⟩:=hM.rt r _ hr (by simp);rw [hμ1] at h5;cases h5;have h7:ℓ.blk=some b':=h7;rw [g2] at h7;cases h7;have h8':=h8;obtain ⟨q0,es,clock,q1,q2,q3,q4,q5,q6,N,q7,q8,q9⟩:=h8;have hmk:=mapK_of hkt ht q1 h8';obtain ⟨zv,hzv,hzc⟩:=run_zero (P:=E.P) (e:=e) (by simpa [mapElem,ht] using hz) w;have hlen:m0.roots.length=st.mem.roots.length:=hkept.len
 have hnone:∀ q,μ q=none->μ.set r { ℓ with S:=S1 } q=none:=λq hq=>by
  have hne:q≠r:=by rintro rfl;rw [g1] at hq;cases hq
  rw [Locs.set_ne _ _ hne];exact hq
 obtain ⟨hl1,hl2⟩:=sat_look h;rcases run_look hmk hc2 hfit hzv with ⟨hrun,hix⟩|⟨j,hj,hrun,hix⟩
 ·have hrun':(execOp a.eval o).run E.P w=.ok (.value zv) w:=by
   simp only [execOp,ho,show a.eval x=_ from g3,show a.eval i=_ from hI]
   simp [hrun]
  refine fin_value hR hrun' hM (SameOn.refl _ _) hz1 hx1 (x:=.c z) ?_ (hl1 hix) hlen λq _ hq=>hnone q hq;rw [hzc];exact cellOf_ok zv
 ·obtain ⟨hjx,hΦ⟩:=hl2 j hix
  have hrun':(execOp a.eval o).run E.P w=.ok (.value es[j].val) w:=by
   simp only [execOp,ho,show a.eval x=_ from g3,show a.eval i=_ from hI]
   simp [hrun]
  obtain ⟨j1,j3⟩:=q9 j hjx hj;have j3:SR w Z1 B.Y s [es[j].val] xs[j].2 (N j):=j3;obtain ⟨t1,t2⟩:=take_root hM (Loose.none B m0 w Z1 _) hr hμ1 rfl;have hnn:s.news<=n:=Nat.le_trans hc5 hn;have hfree:Free (m0.set r .dead) (μ.set r { ℓ with S:=S1 }) s.news:=(Free.setRoot ((Fresh.free hF).kept hkept hnone) hr (by simp)).mono hnn;obtain ⟨⟨μ1,p1,p2,p3,p4⟩,_⟩:=mk_sound s t1 t2 hfree j3 (λd hd=>.inr (q7 _ hjx d hd).1);have hcur:(m0.set r .dead).cur=st.mem.cur:=hkept.cur
  have hrc:r < (m0.set r .dead).cur\/(m0.set r .dead).cur+s.news<=r:=by rw [hcur];exact cur_apart hF hr0 (by simp) hnn
  obtain ⟨o1,o2⟩:=p4.old r hrc;have hlt:r < m0.roots.length:=(List.getElem?_eq_some_iff.1 hr).1
  have hdead:(s.mk xs[j].2 (m0.set r .dead)).2.roots[r]?=some .dead:=by
   rw [o2];simp [Mem.set,hlt]
  have hμ2:μ1 r=some { ℓ with S:=S1 }:=o1.trans hμ1
  let ℓ2:Loc:={ ℓ with S:=λd=>S1 d/\¬ N j d }
  have hext:ExtL μ1 (μ1.set r ℓ2):=ExtL.setS (ℓ:={ ℓ with S:=S1 }) (S:=ℓ2.S) hμ2
  obtain ⟨d1,d2⟩:=put_root (x:=.mapr k1 s xs (some ⟨j,(s.mk xs[j].2 (m0.set r .dead)).1⟩)) (ℓ:=ℓ2) p1 p2 hdead hext ⟨λf hf=>by cases hf;exact hjx,b,g2,by
   have hnb:¬ N j b:=λh=>(q7 _ hjx b h).2 rfl
   refine ⟨⟨q0,hnb⟩,es,clock,q1,q2,q3,q4,q5,q6,λi=>if j=i then λ_=>False else N i,λi hi d hd=>?_,λi i' hi hi' hii d hd hd'=>?_,λi hi hi'=>?_⟩
   ·dsimp only at hd;split at hd
    ·exact hd.elim
    ·rename_i hne;exact ⟨⟨(q7 i hi d hd).1,λh'=>q8 _ i hjx hi hne d h' hd⟩,(q7 i hi d hd).2⟩
   ·dsimp only at hd hd';split at hd
    ·exact hd.elim
    ·split at hd'
     ·exact hd'.elim
     ·exact q8 i i' hi hi' hii d hd hd'
   ·obtain ⟨n1,n2⟩:=q9 i hi hi';refine ⟨n1,?_⟩;by_cases hij:j=i
    ·subst hij;simp only [EnR,ElR,if_true];exact p3.mono (SameOn.refl _ _) (λ_ h=>h) hext
    ·simp only [EnR,ElR,if_neg hij]
     exact n2⟩ (λ_ d hd=>⟨.inr hd.1,hd.2⟩)
  have hcl:CRs w Z1 (μ1.set r ℓ2) (s.mk xs[j].2 (m0.set r .dead)).1 [es[j].val]:=p3.mono (SameOn.refl _ _) (λ_ h=>h) hext;refine fin_value (x:=avOf false (s.mk xs[j].2 (m0.set r .dead)).1) hR hrun' d1 (SameOn.refl _ _) hz1 ((hx1.trans p4.ext).trans hext) ?_ hΦ ?_ λq hq hμ=>?_
  ·exact FormR.ar (g:=false) rfl hcl
  ·show (List.set _ _ _).length=_;rw [List.length_set,p4.len];simp [Mem.set,hlen]
  ·have hne:q≠r:=by rintro rfl;rw [g1] at hμ;cases hμ
   rw [Locs.set_ne _ _ hne,(p4.old q (by rw [hcur];omega)).1];exact hnone q hμ
end
end Go.Mach

namespace Go.Mach
section
variable {B:Base}{E:Env}{st:St}{o:Oper}{a:Act}{w:World}{Z:Nat->Prop}{μ:Locs}{Φ:St->Prop}
theorem SR.setB{Y S:Nat->Prop}{s:Sh}{us:List Value}{x:s.den}{b:Nat}{ob:Obj}(hz:¬ Z b)(hy:¬ Y b)(hs:¬ S b)(h:SR w Z Y s us x S):SR (setB w b ob) Z Y s us x S :=
 h.same (λ_ h=>h) (λ_ h=>h) λd hd=>setB_ne w ob (by rintro rfl;rcases hd with (hd|hd)|hd;exact hz hd;exact hy hd;exact hs hd)
theorem sound_delete(hR:Rel B st a w Z μ)(n:Nat){c:Call}(ho:o.op=.call c)(hc:c.callee=.builtin .delete)(h:(step E st o Res.ok).sat Φ) :
  o.wp E.P a w (Nxt B st n Z μ Φ) (λ_ _ _=>False):=by
 simp only [step,stepV,ho,hc] at h;split at h
 case h_2=>exact h.elim
 rename_i x i T U hargs htys;split at h
 case h_2=>exact h.elim
 rename_i k hk hU;obtain ⟨K,e,ht,hkt⟩:=key_spec hk;have hU:U=K:=(by simpa [mapKey,ht] using hU:K=U).symm;subst hU;have hX:=hR.val x;have hI:=hR.val i;unfold delK at h;split at h
 case h_2=>exact h.elim
 rename_i r l hx hi;rw [hx] at hX;obtain ⟨hI,hfit⟩:=keyA_spec hI hi;split at h
 case h_2=>exact h.elim
 rename_i m0 hm0;obtain ⟨ℓ,b,g1,g2,g3⟩:=hX;obtain ⟨Z1,S1,k1,s,xs,hr,hM,hz1,hkept⟩:=shutM_sound hR.mem hm0 g1;rw [hr] at h;simp only at h;split at h
 case h_2=>exact h.elim
 rename_i hc0;simp only [Bool.and_eq_true,beq_iff_eq] at hc0;obtain ⟨rfl,hc2⟩:=hc0;have hμ1:μ.set r { ℓ with S:=S1 } r=some { ℓ with S:=S1 }:=Locs.set_at _ _ _;have hx1:ExtL μ (μ.set r { ℓ with S:=S1 }):=ExtL.setS g1;obtain ⟨ℓ',h5,h6,b',h7,h8⟩:=hM.rt r _ hr (by simp);rw [hμ1] at h5;cases h5;have h7:ℓ.blk=some b':=h7;rw [g2] at h7;cases h7;have h8':=h8;obtain ⟨q0,es,clock,q1,q2,q3,q4,q5,q6,N,q7,q8,q9⟩:=h8;have hmk:=mapK_of hkt ht q1 h8';have hlen:m0.roots.length=st.mem.roots.length:=hkept.len
 have hnone:∀ q,μ q=none->μ.set r { ℓ with S:=S1 } q=none:=λq hq=>by
  have hne:q≠r:=by rintro rfl;rw [g1] at hq;cases hq
  rw [Locs.set_ne _ _ hne];exact hq
 have hbw:b < w.heap.size:=(hM.own r _ _ b hr rfl hμ1 q0).2.1;have hbz:¬ Z1 b:=(hM.own r _ _ b hr rfl hμ1 q0).1
 have hby:¬ B.Y b:=λhy=>by
  have h1:=hM.lent b hy;rcases (hM.own r _ _ b hr rfl hμ1 q0).2.2 with h2|h2
  ·omega
  ·exact h1.2 h2
 obtain ⟨hl1,hl2⟩:=sat_look h;obtain ⟨t1,t2⟩:=take_root hM (Loose.none B m0 w Z1 _) hr hμ1 rfl;have hlt:r < m0.roots.length:=(List.getElem?_eq_some_iff.1 hr).1
 have hdead:(m0.set r .dead).roots[r]?=some .dead:=by simp [Mem.set,hlt]
 have hset:∀ y,(m0.set r .dead).set r y=⟨m0.roots.set r y,(m0.set r .dead).dR ||| 2^r,m0.cur⟩:=λy=>by simp [Mem.set]
 have key:∀ (es':Array MapEntry) (xs':List (List Int×s.den)),es'.size=xs'.length->(∀ e∈es'.toList,e.born < clock)->(es'.toList.map (·.born)).Nodup->(xs'.map (·.1)).Nodup ->
   (∀ x∈xs',x.1.length=k1/\∀ a∈x.1,inRange .i64 a=true)->(∃ N':Nat->Nat->Prop,(∀ i,i < xs'.length->∀ d,N' i d->S1 d/\d≠b)/\(∀ i j,i < xs'.length->j < xs'.length->i≠j->∀ d,N' i d->N' j d->False) /\
    ∀ i (h:i < xs'.length) (h':i < es'.size),es'[i].key=keyV xs'[i].1/\SR w Z1 B.Y s [es'[i].val] xs'[i].2 (N' i)) ->
   ∀ (m':Mem),m'.roots=m0.roots.set r (.mapr k1 s xs' none)->MemOk B m' (setB w b (.map es' clock)) Z1 (μ.set r { ℓ with S:=S1 }):=by
  rintro es' xs' c1 c2 c3 c4 c5 ⟨N',c6,c7,c8⟩ m' hm';obtain ⟨d1,d2⟩:=world_step (w':=setB w b (.map es' clock)) t1 t2 (λd hd hn=>setB_ne w _ (by rintro rfl;exact hn (.inr q0))) (by rw [setB_size];exact Nat.le_refl _)
  obtain ⟨p1,_⟩:=put_root (x:=.mapr k1 s xs' none) (ℓ:={ ℓ with S:=S1 }) d1 d2 hdead (by rw [Locs.set_self hμ1];exact ExtL.refl _) ⟨λf hf=>by (cases hf),b,g2,q0,es',clock,setB_at w _ hbw,c1,c2,c3,c4,c5,N',c6,c7,λi hi hi'=>by
   obtain ⟨e1,e2⟩:=c8 i hi hi'
   exact ⟨e1,SR.setB hbz hby (λhN=>(c6 i hi b hN).2 rfl) e2⟩⟩ (λ_ d hd=>.inl (.inr hd))
  rw [Locs.set_self hμ1] at p1;exact p1.congr (by rw [hm',hset])
 have hca:c.args=#[x,i]:=by apply Array.ext';rw [hargs]
 have hct:c.argTypes=#[T,U]:=by apply Array.ext';rw [htys]
 rcases run_del hmk hc2 hfit (ty:=o.type) with ⟨hrun,hix⟩|⟨j,hj,hrun,hix⟩
 ·have hrun':(execOp a.eval o).run E.P w=.ok (.value (.tuple #[])) (setB w b (.map es clock)):=by
   simp only [execOp,ho]
   simp [resolve,invoke,hc,hca,hct,show a.eval x=_ from g3,show a.eval i=_ from hI,builtin,hrun,Result.andThen]
  refine fin_value (x:=.tup []) hR hrun' (key es xs q2 q3 q4 q5 q6 ⟨N,q7,q8,q9⟩ m0 (by obtain ⟨e1,e2⟩:=List.getElem?_eq_some_iff.1 hr;rw [<- e2,List.set_getElem_self])) (λd hd=>setB_ne w _ (by rintro rfl;exact hbz (hz1 _ hd))) hz1 hx1 ⟨[],rfl,rfl,λk h=>by simp at h⟩ (hl1 hix) hlen λq _ hq=>hnone q hq
 ·obtain ⟨hjx,hΦ⟩:=hl2 j hix
  have hrun':(execOp a.eval o).run E.P w=.ok (.value (.tuple #[])) (setB w b (.map (es.eraseIdxIfInBounds j) clock)):=by
   simp only [execOp,ho]
   simp [resolve,invoke,hc,hca,hct,show a.eval x=_ from g3,show a.eval i=_ from hI,builtin,hrun,Result.andThen]
  have hel:(es.eraseIdxIfInBounds j).toList=es.toList.eraseIdx j:=by simp [Array.eraseIdxIfInBounds,hj]
  refine fin_value (x:=.tup []) hR hrun' (key (es.eraseIdxIfInBounds j) (xs.eraseIdx j) ?_ ?_ ?_ ?_ ?_ ?_ (m0.set r (.mapr k1 s (xs.eraseIdx j) none)) rfl) (λd hd=>setB_ne w _ (by rintro rfl;exact hbz (hz1 _ hd))) hz1 hx1 ⟨[],rfl,rfl,λk h=>by simp at h⟩ hΦ (by simp [Mem.set,hlen]) λq _ hq=>hnone q hq
  ·rw [List.length_eraseIdx_of_lt hjx,<- q2,<- Array.length_toList,hel,List.length_eraseIdx_of_lt (by simpa using hj)];simp
  ·intro e he;rw [hel] at he;exact q3 e (List.mem_of_mem_eraseIdx he)
  ·rw [hel];exact q4.sublist ((List.eraseIdx_sublist _ _).map _)
  ·exact q5.sublist ((List.eraseIdx_sublist _ _).map _)
  ·exact λy hy=>q6 y (List.mem_of_mem_eraseIdx hy)
  ·have hlx:(xs.eraseIdx j).length=xs.length-1:=List.length_eraseIdx_of_lt hjx
   refine ⟨λi=>if i < j then N i else N (i+1),λi hi d hd=>?_,λi i' hi hi' hii d hd hd'=>?_,λi hi hi'=>?_⟩
   ·rw [hlx] at hi;split at hd
    ·exact q7 i (by omega) d hd
    ·exact q7 (i+1) (by omega) d hd
   ·rw [hlx] at hi hi'
    split at hd<;>split at hd'
    ·exact q8 i i' (by omega) (by omega) hii d hd hd'
    ·exact q8 i (i'+1) (by omega) (by omega) (by omega) d hd hd'
    ·exact q8 (i+1) i' (by omega) (by omega) (by omega) d hd hd'
    ·exact q8 (i+1) (i'+1) (by omega) (by omega) (by omega) d hd hd'
   ·have hi1:i < xs.length-1:=by rw [hlx] at hi;exact hi
    have he:(es.eraseIdxIfInBounds j)[i]=(es.toList.eraseIdx j)[i]'(by rw [<- hel,Array.length_toList];exact hi'):=by
     rw [<- Array.getElem_toList];congr 1
    rw [he];simp only [List.getElem_eraseIdx];by_cases hij:i < j
    ·simp only [hij,dite_true,if_true];exact q9 i (by omega) (by omega)
    ·simp only [hij,dite_false,if_false];exact q9 (i+1) (by omega) (by omega)
theorem sound_mapUpdate(hR:Rel B st a w Z μ)(n:Nat){T:TypeId}{x i y:Operand}(ho:o.op=.mapUpdate T x i y)(h:(step E st o Res.ok).sat Φ) :
  o.wp E.P a w (Nxt B st n Z μ Φ) (λ_ _ _=>False):=by
 simp only [step,stepV,ho] at h;split at h
 case h_2=>exact h.elim
 rename_i k hk;obtain ⟨K,e,ht,hkt⟩:=key_spec hk;have hX:=hR.val x;have hI:=hR.val i;have hV:=hR.val y;unfold updK at h;split at h
 case h_2=>exact h.elim
 rename_i r l c hx hi hv;rw [hx] at hX;rw [hv] at hV;obtain ⟨hI,hfit⟩:=keyA_spec hI hi;obtain ⟨ℓ,b,g1,g2,g3⟩:=hX;split at h
 case h_2=>exact h.elim
 rename_i k1 s xs foc hr;split at h
 case h_2=>exact h.elim
 rename_i hc0;simp only [Bool.and_eq_true,beq_iff_eq,Bool.not_eq_true'] at hc0;obtain ⟨rfl,hc2,hc3,hc4⟩:=hc0;obtain ⟨ℓ',h5,h6,b',h7,h8⟩:=hR.mem.rt r _ hr (by simp);rw [g1] at h5;cases h5;rw [g2] at h7;cases h7;have h8':=h8;obtain ⟨q0,es,clock,q1,q2,q3,q4,q5,q6,N,q7,q8,q9⟩:=h8;have hmk:=mapK_of hkt ht q1 h8';have hown:=hR.mem.own r _ _ b hr rfl g1 q0;have hbw:b < w.heap.size:=hown.2.1;have hbz:¬ Z b:=hown.1
 have hby:¬ B.Y b:=λhy=>by
  have h1:=hR.mem.lent b hy;rcases hown.2.2 with h2|h2
  ·omega
  ·exact h1.2 h2
 have hnoR:∀ (d:Nat),d≠b->∀ ob,(setB w b ob).heap[d]?=w.heap[d]?:=λd hd ob=>setB_ne w ob hd;obtain ⟨t1,t2⟩:=take_root hR.mem (Loose.none B st.mem w Z μ) hr g1 rfl;have hlt:r < st.mem.roots.length:=(List.getElem?_eq_some_iff.1 hr).1
 have hdead:(st.mem.set r .dead).roots[r]?=some .dead:=by simp [Mem.set,hlt]
 obtain ⟨hl1,hl2⟩:=sat_look h;rcases run_upd hmk hc2 hfit (v:=a.eval y) with ⟨hrun,hix⟩|⟨j,hj,hrun,hix⟩
 ·have h:=hl1 hix;split at h
  case h_1=>exact h.elim
  split at h
  case h_2=>exact h.elim
  rename_i z m1 hg
  have hrun':(execOp a.eval o).run E.P w=.ok .skip (setB w b (.map (es.push ⟨keyV l,a.eval y,clock⟩) (clock+1))):=by
   simp only [execOp,ho,show a.eval x=_ from g3,show a.eval i=_ from hI]
   simp [hrun]
  obtain ⟨⟨Z',F',S2,us1,us2,e1,e2,e3,e4,e5,e6,e7,e8,e9⟩,ek⟩:=get_sound s t1 t2 (CRs.mk1 hV) hg;have:=e9.nil_inv;subst this;rw [List.append_nil] at e1;subst e1;have hbF:F' b:=e6 b (.inr q0);have hbz':¬ Z' b:=(e4.ok b hbF).1;obtain ⟨d1,d2⟩:=world_step (w':=setB w b (.map (es.push ⟨keyV l,a.eval y,clock⟩) (clock+1))) e3 e4 (λd hd hn=>setB_ne w _ (by rintro rfl;exact hn hbF)) (by rw [setB_size];exact Nat.le_refl _);have hdead1:m1.roots[r]?=some .dead:=ek.dead r hdead
  have hxk:∀ p∈xs,p.1≠l:=by
   intro p hp e;have h1:=hix;unfold keyIx at h1;rw [List.findIdx?_eq_none_iff] at h1;have:=h1 p hp;simp [e] at this
  let ℓ2:Loc:={ ℓ with S:=λd=>ℓ.S d\/S2 d }
  have hext:ExtL μ (μ.set r ℓ2):=ExtL.setS (S:=ℓ2.S) g1;have hS2:∀ d,S2 d->¬ ℓ.S d:=λd hd hS=>(e7 d hd).2 (.inr hS)
  obtain ⟨p1,p2⟩:=put_root (x:=.mapr k1 s (xs++[(l,z)]) none) (ℓ:=ℓ2) d1 d2 hdead1 hext ⟨λf hf=>by (cases hf),b,g2,by
   refine ⟨.inl q0,_,clock+1,setB_at w _ hbw,by simp [q2],?_,?_,?_,?_,λi=>if i < xs.length then N i else S2,λi hi d hd=>?_,λi i' hi hi' hii d hd hd'=>?_,λi hi hi'=>?_⟩
   ·intro e' he;rw [Array.toList_push] at he;rcases List.mem_append.1 he with he|he
    ·have:=q3 e' he;omega
    ·simp only [List.mem_singleton] at he;subst he;exact Nat.lt_succ_self _
   ·rw [Array.toList_push,List.map_append,List.nodup_append];refine ⟨q4,by simp,?_⟩;intro p hp p' hp' e';obtain ⟨en,hen,rfl⟩:=List.mem_map.1 hp;simp only [List.map_cons,List.map_nil,List.mem_singleton] at hp';have:=q3 en hen;omega
   ·rw [List.map_append,List.nodup_append];refine ⟨q5,by simp,?_⟩;intro p hp p' hp' e';obtain ⟨en,hen,rfl⟩:=List.mem_map.1 hp;simp only [List.map_cons,List.map_nil,List.mem_singleton] at hp';exact hxk en hen (e'.trans hp')
   ·intro p hp;rcases List.mem_append.1 hp with hp|hp
    ·exact q6 p hp
    ·simp only [List.mem_singleton] at hp;subst hp;exact ⟨hc2,hfit⟩
   ·dsimp only at hd;split at hd
    ·rename_i hi2;exact ⟨.inl (q7 i hi2 d hd).1,(q7 i hi2 d hd).2⟩
    ·exact ⟨.inr hd,by rintro rfl;exact hS2 _ hd q0⟩
   ·simp only [List.length_append,List.length_singleton] at hi hi';dsimp only at hd hd'
    split at hd<;>split at hd'
    ·rename_i h1 h2;exact q8 i i' h1 h2 hii d hd hd'
    ·rename_i h1 h2;exact hS2 d hd' (q7 i h1 d hd).1
    ·rename_i h1 h2;exact hS2 d hd (q7 i' h2 d hd').1
    ·omega
   ·simp only [List.length_append,List.length_singleton] at hi;by_cases hi2:i < xs.length
    ·have hi3:i < es.size:=by omega
     obtain ⟨n1,n2⟩:=q9 i hi2 hi3;simp only [List.getElem_append_left hi2,Array.getElem_push_lt hi3,if_pos hi2];exact ⟨n1,SR.setB hbz' hby (λhN=>(q7 i hi2 b hN).2 rfl) (n2.up e5)⟩
    ·have hi3:i=xs.length:=by omega
     subst hi3;have hi4:xs.length=es.size:=q2.symm
     have ha:(es.push ⟨keyV l,a.eval y,clock⟩)[xs.length]'hi'=⟨keyV l,a.eval y,clock⟩:=by simp [hi4]
     rw [ha];simp only [List.getElem_append_right (Nat.le_refl _),Nat.sub_self,List.getElem_cons_zero,if_neg hi2]
     exact ⟨trivial,SR.setB hbz' hby (λhN=>hS2 b hN q0) e8⟩⟩ (λ_ d hd=>by
    rcases hd with hd|hd
    ·exact .inl (e6 d (.inr hd))
    ·exact .inl (e7 d hd).1)
  refine fin_skip hR hrun' p1 (λd hd=>setB_ne w _ (by rintro rfl;exact hbz hd)) e5 hext h ?_ λq _ hq=>?_
  ·show (List.set _ _ _).length=_;rw [List.length_set,ek.len];simp [Mem.set]
  ·have hne:q≠r:=by rintro rfl;rw [g1] at hq;cases hq
   rw [Locs.set_ne _ _ hne];exact hq
 ·obtain ⟨hjx,hΦ⟩:=hl2 j hix
  have hkj:xs[j].1=l:=by
   have:=(List.findIdx?_eq_some_iff_getElem.1 hix).2.1;simpa using this
  have hΦ:Φ (st.with o.dst (.c .undef) (st.mem.set r (.mapr k1 s xs (some ⟨j,[c]⟩))))/\(∀ f,foc=some f->f.i=j):=by
   cases foc with
   |none=>exact ⟨hΦ,λf hf=>by cases hf⟩
   |some f =>
    obtain ⟨hf,h⟩:=sat_need hΦ
    have hf:f.i=j:=by simpa using hf
    exact ⟨h,λf' hf'=>by cases hf';exact hf⟩
  obtain ⟨hΦ,hfoc⟩:=hΦ
  have hrun':(execOp a.eval o).run E.P w=.ok .skip (setB w b (.map (es.modify j λx=>{ x with key:=keyV l,val:=a.eval y }) clock)):=by
   simp only [execOp,ho,show a.eval x=_ from g3,show a.eval i=_ from hI]
   simp [hrun]
  let w':=setB w b (.map (es.modify j λx=>{ x with key:=keyV l,val:=a.eval y }) clock)
  obtain ⟨d1,d2⟩:=world_step (w':=w') t1 t2 (λd hd hn=>setB_ne w _ (by rintro rfl;exact hn (.inr q0))) (by rw [setB_size];exact Nat.le_refl _)
  let ℓ2:Loc:={ ℓ with S:=λd=>ℓ.S d/\¬ N j d }
  have hext:ExtL μ (μ.set r ℓ2):=ExtL.setS (S:=ℓ2.S) g1;have hsameZ:SameOn Z w w':=λd hd=>setB_ne w _ (by rintro rfl;exact hbz hd);have hnb:¬ N j b:=λh=>(q7 _ hjx b h).2 rfl
  obtain ⟨p1,p2⟩:=put_root (x:=.mapr k1 s xs (some ⟨j,[c]⟩)) (ℓ:=ℓ2) d1 d2 hdead hext ⟨λf hf=>by cases hf;exact hjx,b,g2,by
   have hborn:(es.modify j λx=>{ x with key:=keyV l,val:=a.eval y }).toList.map (·.born)=es.toList.map (·.born):=by
    apply List.ext_getElem
    ·simp
    ·intro i h1 h2;simp only [List.getElem_map,Array.getElem_toList,Array.getElem_modify]
     split<;>rfl
   refine ⟨⟨q0,hnb⟩,_,clock,setB_at w _ hbw,by simp [q2],?_,by rw [hborn];exact q4,q5,q6,λi=>if j=i then λ_=>False else N i,λi hi d hd=>?_,λi i' hi hi' hii d hd hd'=>?_,λi hi hi'=>?_⟩
   ·intro e' he;obtain ⟨i,hi,rfl⟩:=List.getElem_of_mem he
    have hi2:i < es.size:=by simpa using hi
    have:=q3 es[i] (by simp);simp only [Array.getElem_toList,Array.getElem_modify]
    split<;>exact this
   ·dsimp only at hd;split at hd
    ·exact hd.elim
    ·rename_i hne;exact ⟨⟨(q7 i hi d hd).1,λh'=>q8 _ i hjx hi hne d h' hd⟩,(q7 i hi d hd).2⟩
   ·dsimp only at hd hd';split at hd
    ·exact hd.elim
    ·split at hd'
     ·exact hd'.elim
     ·exact q8 i i' hi hi' hii d hd hd'
   ·have hi2:i < es.size:=by omega
    obtain ⟨n1,n2⟩:=q9 i hi hi2;simp only [Array.getElem_modify];by_cases hij:j=i
    ·subst hij;simp only [if_true,EnR,ElR];exact ⟨by rw [hkj],(CRs.mk1 hV).mono hsameZ (λ_ h=>h) hext⟩
    ·simp only [if_neg hij,EnR,ElR];refine ⟨n1,?_⟩
     have n3:SR w Z B.Y s [es[i].val] xs[i].2 (N i):=by
      simp only [EnR,ElR] at n2
      cases hfo:foc with
      |none=>rw [hfo] at n2;exact n2
      |some f =>
       rw [hfo] at n2
       simp only [if_neg (show ¬ f.i=i from by rw [hfoc f hfo];exact hij)] at n2
       exact n2
     exact SR.setB hbz hby (λhN=>(q7 i hi b hN).2 rfl) n3⟩ (λ_ d hd=>.inl (.inr hd.1))
  refine fin_skip (m':=st.mem.set r (.mapr k1 s xs (some ⟨j,[c]⟩))) hR hrun' (p1.congr (by simp [Mem.set])) hsameZ (λ_ h=>h) hext hΦ (by simp [Mem.set]) λq _ hq=>?_
  have hne:q≠r:=by rintro rfl;rw [g1] at hq;cases hq
  rw [Locs.set_ne _ _ hne];exact hq
theorem sound_range(hR:Rel B st a w Z μ){n:Nat}(hF:Fresh st n μ)(hn:1<=n){T:TypeId}{x:Operand}(ho:o.op=.range T x)(h:(step E st o Res.ok).sat Φ) :
  o.wp E.P a w (Nxt B st n Z μ Φ) (λ_ _ _=>False):=by
 simp only [step,stepV,ho] at h;split at h
 case h_2=>exact h.elim
 rename_i k hk;obtain ⟨K,e,ht,hkt⟩:=key_spec hk;have hX:=hR.val x;unfold rangeK at h;split at h
 case h_2=>exact h.elim
 rename_i r hx;rw [hx] at hX;split at h
 case h_2=>exact h.elim
 rename_i m0 hm0;obtain ⟨ℓ,b,g1,g2,g3⟩:=hX;obtain ⟨n',s',xs',f',hr0⟩:=shutM_root hm0;obtain ⟨Z1,S1,k1,s,xs,hr,hM,hz1,hkept⟩:=shutM_sound hR.mem hm0 g1;rw [hr] at h;simp only at h;have hμ1:μ.set r { ℓ with S:=S1 } r=some { ℓ with S:=S1 }:=Locs.set_at _ _ _;have hx1:ExtL μ (μ.set r { ℓ with S:=S1 }):=ExtL.setS g1;obtain ⟨ℓ',h5,h6,b',h7,h8⟩:=hM.rt r _ hr (by simp);rw [hμ1] at h5;cases h5;have h7:ℓ.blk=some b':=h7;rw [g2] at h7;cases h7;have h8':=h8;obtain ⟨q0,es,clock,q1,q2,q3,q4,q5,q6,N,q7,q8,q9⟩:=h8;have hlen:m0.roots.length=st.mem.roots.length:=hkept.len
 have hnone:∀ q,μ q=none->μ.set r { ℓ with S:=S1 } q=none:=λq hq=>by
  have hne:q≠r:=by rintro rfl;rw [g1] at hq;cases hq
  rw [Locs.set_ne _ _ hne];exact hq
 have hown:=hM.own r _ _ b hr rfl hμ1 q0;have hbw:b < w.heap.size:=hown.2.1;obtain ⟨t1,t2⟩:=take_root hM (Loose.none B m0 w Z1 _) hr hμ1 rfl
 have hrun':(execOp a.eval o).run E.P w=.ok (.value (.pointer (some ⟨w.heap.size,0,none⟩))) (w.alloc (.mapIter (some b) clock #[] clock)):=by
  simp only [execOp,ho,show a.eval x=_ from g3]
  simp [Instr.range,run_underlying ht,MapKept.run_getObj_map q1,Result.andThen]
 obtain ⟨d1,d2⟩:=world_step (w':=w.alloc (.mapIter (some b) clock #[] clock)) t1 t2 (λd hd _=>alloc_old _ _ hd) (by rw [alloc_size];exact Nat.le_succ _);have hcur:(m0.set r .dead).cur=st.mem.cur:=hkept.cur;have hfree:Free (m0.set r .dead) (μ.set r { ℓ with S:=S1 }) 1:=(Free.setRoot ((Fresh.free hF).kept hkept hnone) hr (by simp)).mono hn;obtain ⟨f1,f2⟩:=hfree 0 (by omega);rw [Nat.add_zero] at f1 f2
 have hrc:r≠(m0.set r .dead).cur:=by
  have:=cur_apart hF hr0 (by simp) hn;rw [hcur];omega
 have hsame:∀ d,d < w.heap.size->(w.alloc (.mapIter (some b) clock #[] clock)).heap[d]?=w.heap[d]?:=λd hd=>alloc_old _ _ hd
 let ℓ2:Loc:=⟨some w.heap.size,0,0,0,0,λd=>S1 d\/d=w.heap.size,none⟩
 have hS1:∀ d,S1 d->d < w.heap.size:=λd hd=>(hM.own r _ _ d hr rfl hμ1 hd).2.1
 obtain ⟨p1,p2⟩:=make_root (x:=.itr r k1 s xs none none) (ℓ:=ℓ2) d1 d2 f2 f1 ⟨w.heap.size,b,{ ℓ with S:=S1 },es,clock,#[],none,S1,rfl,rfl,.inr rfl,λd hd=>⟨.inl hd,by have:=hS1 d hd;omega⟩,by rw [Locs.set_ne _ _ hrc];exact hμ1,g2,alloc_new _ _,by rw [hsame b hbw];exact q1,
  λi hi hi'=>by
   have:xs[i].1∈xs.map (·.1):=List.mem_map.2 ⟨_,List.getElem_mem hi,rfl⟩
   simp [Res.keyIn,this],h8'.mono (hsame b hbw) (λ_ h=>h) λi us y T hT hy=>ElR.mono (λd hd=>hsame d (by
    rcases hd with (hd|hd)|hd
    ·exact (hM.frz d hd).1
    ·have:=(hM.lent d hd).1;have:=hM.size;omega
    ·exact hS1 d (hT d hd))) (λ_ h=>h) (λ_ h=>h) (ExtL.set f1) hy,rfl⟩ (λ_ d hd=>by
   rcases hd with hd|hd
   ·exact .inl (.inr hd)
   ·subst hd;exact .inr ⟨Nat.le_refl _,by rw [alloc_size];exact Nat.lt_succ_self _⟩)
 refine fin_value (x:=.c (.ptr m0.cur 0)) hR hrun' p1 (λd hd=>hsame d (hR.mem.frz d hd).1) hz1 (hx1.trans (ExtL.set f1)) ⟨ℓ2,w.heap.size,Locs.set_at _ _ _,rfl,rfl⟩ h ?_ λq hq hμ=>?_
 ·simp [Mem.push,Mem.set,hlen]
 ·have hne:q≠(m0.set r .dead).cur:=by rw [hcur];omega
  rw [Locs.set_ne _ _ hne];exact hnone q hμ
theorem keyCells_ok{n:Nat}{l:List Int}(hn:l.length=n)(hf:∀ a∈l,inRange .i64 a=true):CRs w Z μ (keyCells n l) (l.map (Value.int .i64)):=by
 refine ⟨by simp [keyCells,hn],λk h h'=>?_⟩
 have hk:k < l.length:=by simpa using h'
 simp only [keyCells,List.getElem_map,List.getElem_range]
 rw [show l.getD k 0=l[k] from by simp [List.getD,hk]]
 exact ⟨rfl,hf _ (List.getElem_mem hk)⟩
theorem sound_entry(hR:Rel B st a w Z μ)(n:Nat){x:Operand}(ho:o.op=.entry x)(h:(step E st o Res.ok).sat Φ) :
  o.wp E.P a w (Nxt B st n Z μ Φ) (λ_ _ _=>False):=by
 simp only [step,stepV,ho] at h;have hX:=hR.val x;split at h
 case h_2=>exact h.elim
 rename_i v hv;unfold entryA at hv;split at hv
 case h_2=>cases hv
 rename_i q hx;rw [hx] at hX;split at hv
 case h_2=>cases hv
 rename_i r k s xs left key N hr;cases hv;obtain ⟨ℓ0,itb',g1,g2,g3⟩:=hX;obtain ⟨ℓ,h5,itb,b,ℓr,es,clock,seen,foc,S,h1,h2,h3,h4,h6,h7,h8,h10,h12,h13,i,rfl,hi,hi',hki,hback⟩:=hR.mem.rt q _ hr (by simp);rw [g1] at h5;cases h5;rw [g2] at h1;cases h1;obtain ⟨q0,es',clock',q1,q2,q3,q4,q5,q6,N',q7,q8,q9⟩:=h13;rw [h10] at q1;cases q1;obtain ⟨n1,n2⟩:=q9 i hi hi';simp only [EnR,ElR,if_true] at n2
 have hxe:a.eval x=.pointer (some ⟨itb',0,none⟩):=by
  have:a.eval x=_:=g3;rw [this,h2]
 have hrun:(Instr.entry (.pointer (some ⟨itb',0,none⟩))).run E.P w=.ok (.tuple #[es[i].key,es[i].val]) w:=by
  have hf:es.find? (·.born == es[i].born)=some es[i]:=by
   rw [<- Array.find?_toList];exact find_born es[i] es.toList q4 (by simp)
  simp only [Instr.entry,getObj,Sem.run_bind,Sem.run,h8,h10,Result.andThen,hback,bne_self_eq_false,Bool.false_eq_true,if_false,hf];rfl
 have hrun':(execOp a.eval o).run E.P w=.ok (.value (.tuple #[es[i].key,es[i].val])) w:=by
  simp only [execOp,ho,hxe];simp [hrun]
 refine fin_value hR hrun' hR.mem (SameOn.refl _ _) (λ_ h=>h) (ExtL.refl μ) ?_ h rfl λ_ _ h=>h;refine ⟨[es[i].key,es[i].val],rfl,rfl,λk0 hk0 hk0'=>?_⟩
 match k0,hk0 with
 |0,_ =>
  obtain ⟨m1,m2⟩:=q6 _ (List.getElem_mem hi);rw [hki] at m1 m2;exact ⟨key.map (Value.int .i64),by show es[i].key=_;rw [n1,hki];rfl,keyCells_ok m1 m2⟩
 |1,_=>exact n2.2 0 (by simp) (by simp)
end
end Go.Mach

namespace Go.Mach
section
variable {α:Type}{P:Program}{K e t n:Nat}{w:World}{b clock:Nat}{es:Array MapEntry}{xs:List (List Int×α)}{l:List Int}
theorem run_entry(h:MapK P t K e n w b es clock xs)(hl:l.length=n)(hr:∀ a∈l,inRange .i64 a=true){z:Value}(hz:(zeroValue e).run P w=.ok z w) :
  ((Instr.mapEntry t (.map (some b)) (keyV l)).run P w=.ok (.tuple #[z,.int .i64 clock]) (setB w b (.map (es.push ⟨keyV l,z,clock⟩) (clock+1)))/\keyIx xs l=none) \/
  ∃ j,∃ h:j < es.size,(Instr.mapEntry t (.map (some b)) (keyV l)).run P w=.ok (.tuple #[es[j].val,.int .i64 es[j].born]) (setB w b (.map es clock))/\keyIx xs l=some j:=by
 obtain ⟨L,hL⟩:=h.key.ex l hl (keyFit_iff.2 hr);rcases find_map (w:=w) h.key h.sz h.keys h.nd h.fit hl hr with ⟨h1,h2⟩|⟨j,hj,h1,h2⟩
 ·exact .inl ⟨by simp [Instr.mapEntry,run_underlying h.ty,MapKept.run_getObj_map h.blk,h.key.law.check w _ hL,h1,hz,MapKept.run_setObj_map _ h.blk,Result.andThen,setB,goInt],h2⟩
 ·have hjx:j < xs.length:=by have:=h.sz;omega
  have hk:xs[j].1=l:=by
   have:=(List.findIdx?_eq_some_iff_getElem.1 h2).2.1;simpa using this
  have hk2:es[j].key=keyV l:=by rw [h.keys j hjx hj,hk]
  have hst:=h.key.law.stays w hL
  have hmod:(es.modify j λx=>{ x with key:=keyV l })=es:=by
   apply Array.ext
   ·simp
   ·intro i h1 h2;rw [Array.getElem_modify];split
    ·rename_i hij;subst hij;exact (λ(m:MapEntry) (hm:m.key=keyV l)=>by cases m;cases hm;rfl:∀ m:MapEntry,m.key=keyV l->({ m with key:=keyV l }:MapEntry)=m) _ hk2
    ·rfl
  exact .inr ⟨j,hj,by simp [Instr.mapEntry,run_underlying h.ty,MapKept.run_getObj_map h.blk,h.key.law.check w _ hL,h1,hk2,hj,hst,MapKept.run_setObj_map _ h.blk,Result.andThen,setB,goInt,hmod],h2⟩
theorem run_entStore{P:Program}{v:Value}{i born:Nat}(hb:w.heap[b]?=some (.map es clock))(hi:i < es.size)(hborn:es[i].born=born)(hn:(es.toList.map (·.born)).Nodup) :
  (Instr.entryStore t (.map (some b)) (.int .i64 (born:Int)) v).run P w=.ok () (setB w b (.map (es.modify i λx=>{ x with val:=v }) clock)):=by
 have hf:es.findIdx? (λe=>(e.born:Int) == (born:Int))=some i:=by
  rw [Array.findIdx?_eq_some_iff_getElem];refine ⟨hi,by simp [hborn],λj hj=>?_⟩;simp only [beq_iff_eq,Int.natCast_inj,<- hborn];intro e
  have h1:(es.toList.map (·.born))[j]'(by simp;omega)=(es.toList.map (·.born))[i]'(by simpa using hi):=by simp [e]
  have:=(List.getElem_inj hn).1 h1;omega
 simp [Instr.entryStore,MapKept.run_getObj_map hb,asInt,asIntOf,hf,MapKept.run_setObj_map _ hb,Result.andThen,setB]
end
section
variable {B:Base}{E:Env}{st:St}{o:Oper}{a:Act}{w:World}{Z:Nat->Prop}{μ:Locs}{Φ:St->Prop}
theorem sound_mapEntry(hR:Rel B st a w Z μ){n:Nat}(hF:Fresh st n μ)(hn:newsOf E o<=n){T:TypeId}{x i:Operand}(ho:o.op=.mapEntry T x i)(h:(step E st o Res.ok).sat Φ) :
  o.wp E.P a w (Nxt B st n Z μ Φ) (λ_ _ _=>False):=by
 simp only [step,stepV,ho] at h;split at h
 case h_2=>exact h.elim
 rename_i k z hk hz;obtain ⟨K,e,ht,hkt⟩:=key_spec hk;have hX:=hR.val x;have hI:=hR.val i;unfold mapEntK at h;split at h
 case h_2=>exact h.elim
 rename_i r l hx hi;rw [hx] at hX;obtain ⟨hI,hfit⟩:=keyA_spec hI hi;split at h
 case h_2=>exact h.elim
 rename_i m0 hm0;obtain ⟨ℓ,b,g1,g2,g3⟩:=hX;obtain ⟨n',s',xs',f',hr0⟩:=shutM_root hm0;obtain ⟨Z1,S1,k1,s,xs,hr,hM,hz1,hkept⟩:=shutM_sound hR.mem hm0 g1;rw [hr] at h;simp only at h;split at h
 case h_2=>exact h.elim
 rename_i hc;simp only [Bool.and_eq_true,beq_iff_eq,decide_eq_true_eq] at hc;obtain ⟨rfl,hc2,hc3,hc5⟩:=hc;have hμ1:μ.set r { ℓ with S:=S1 } r=some { ℓ with S:=S1 }:=Locs.set_at _ _ _;have hx1:ExtL μ (μ.set r { ℓ with S:=S1 }):=ExtL.setS g1;obtain ⟨ℓ',h5,h6,b',h7,h8⟩:=hM.rt r _ hr (by simp);rw [hμ1] at h5;cases h5;have h7:ℓ.blk=some b':=h7;rw [g2] at h7;cases h7;have h8':=h8;obtain ⟨q0,es,clock,q1,q2,q3,q4,q5,q6,N,q7,q8,q9⟩:=h8;have hmk:=mapK_of hkt ht q1 h8';obtain ⟨zv,hzv,hzc⟩:=run_zero (P:=E.P) (e:=e) (by simpa [mapElem,ht] using hz) w;have hlen:m0.roots.length=st.mem.roots.length:=hkept.len
 have hnone:∀ q,μ q=none->μ.set r { ℓ with S:=S1 } q=none:=λq hq=>by
  have hne:q≠r:=by rintro rfl;rw [g1] at hq;cases hq
  rw [Locs.set_ne _ _ hne];exact hq
 have hown:=hM.own r _ _ b hr rfl hμ1 q0;have hbw:b < w.heap.size:=hown.2.1;have hbz:¬ Z1 b:=hown.1
 have hby:¬ B.Y b:=λhy=>by
  have h1:=hM.lent b hy;rcases hown.2.2 with h2|h2
  ·omega
  ·exact h1.2 h2
 obtain ⟨t1,t2⟩:=take_root hM (Loose.none B m0 w Z1 _) hr hμ1 rfl;have hlt:r < m0.roots.length:=(List.getElem?_eq_some_iff.1 hr).1;have hnn:s.news+1<=n:=Nat.le_trans hc5 hn;have hcur:(m0.set r .dead).cur=st.mem.cur:=hkept.cur;have hfree:Free (m0.set r .dead) (μ.set r { ℓ with S:=S1 }) (s.news+1):=(Free.setRoot ((Fresh.free hF).kept hkept hnone) hr (by simp)).mono hnn
 have hrc:r < (m0.set r .dead).cur\/(m0.set r .dead).cur+(s.news+1)<=r:=by rw [hcur];exact cur_apart hF hr0 (by simp) hnn
 have hdead0:(m0.set r .dead).roots[r]?=some .dead:=by simp [Mem.set,hlt]
 obtain ⟨hl1,hl2⟩:=sat_look h;rcases run_entry hmk hc2 hfit hzv with ⟨hrun,hix⟩|⟨j,hj,hrun,hix⟩
 ·have h:=hl1 hix;split at h
  case h_2=>exact h.elim
  rename_i y m1 hg
  have hrun':(execOp a.eval o).run E.P w=.ok (.value (.tuple #[zv,.int .i64 clock])) (setB w b (.map (es.push ⟨keyV l,zv,clock⟩) (clock+1))):=by
   simp only [execOp,ho,show a.eval x=_ from g3,show a.eval i=_ from hI]
   simp [hrun]
  have hzr:CRs w Z1 (μ.set r { ℓ with S:=S1 }) [z] [zv]:=CRs.mk1 (by rw [hzc];exact cellOf_ok zv);obtain ⟨⟨Z',F',S2,us1,us2,e1,e2,e3,e4,e5,e6,e7,e8,e9⟩,ek⟩:=get_sound s t1 t2 hzr hg;have:=e9.nil_inv;subst this;rw [List.append_nil] at e1;subst e1;have hbF:F' b:=e6 b (.inr q0);have hbz':¬ Z' b:=(e4.ok b hbF).1
  let w':=setB w b (.map (es.push ⟨keyV l,zv,clock⟩) (clock+1))
  obtain ⟨d1,d2⟩:=world_step (w':=w') e3 e4 (λd hd hn=>setB_ne w _ (by rintro rfl;exact hn hbF)) (by rw [setB_size];exact Nat.le_refl _);have hSZ:SameOn Z w w':=λd hd=>setB_ne w _ (by rintro rfl;exact hbz (hz1 _ hd));have hSZ1:SameOn Z1 w w':=λd hd=>setB_ne w _ (by rintro rfl;exact hbz hd);have hcur1:m1.cur=st.mem.cur:=ek.cur.trans hcur;have hf1:Free m1 (μ.set r { ℓ with S:=S1 }) 1:=(Free.kept (hfree.mono (by omega)) ek (λ_ h=>h));obtain ⟨f1,f2⟩:=hf1 0 (by omega);rw [Nat.add_zero] at f1 f2;obtain ⟨v1,v2⟩:=make_root (x:=.dead) (ℓ:=⟨none,clock,0,0,0,λ_=>False,none⟩) d1 d2 f2 f1 trivial (λh=>by simp [Root.owns] at h)
  have hrc1:r≠m1.cur:=by rw [hcur1];rw [hcur] at hrc;omega
  have hμ3:(μ.set r { ℓ with S:=S1 }).set m1.cur ⟨none,clock,0,0,0,λ_=>False,none⟩ r=some { ℓ with S:=S1 }:=by rw [Locs.set_ne _ _ hrc1];exact hμ1
  have hdead1:(m1.push .dead).roots[r]?=some .dead:=by
   simp only [Mem.push];rw [List.getElem?_set_ne (Ne.symm hrc1)];exact ek.dead r hdead0
  have hxk:∀ p∈xs,p.1≠l:=by
   intro p hp e;have h1:=hix;unfold keyIx at h1;rw [List.findIdx?_eq_none_iff] at h1;have:=h1 p hp;simp [e] at this
  let ℓ2:Loc:={ ℓ with S:=S1 }
  have hext:ExtL ((μ.set r { ℓ with S:=S1 }).set m1.cur ⟨none,clock,0,0,0,λ_=>False,none⟩) (((μ.set r { ℓ with S:=S1 }).set m1.cur ⟨none,clock,0,0,0,λ_=>False,none⟩).set r ℓ2):=ExtL.setS (ℓ:={ ℓ with S:=S1 }) (S:=S1) hμ3
  have hmq:(((μ.set r { ℓ with S:=S1 }).set m1.cur ⟨none,clock,0,0,0,λ_=>False,none⟩).set r ℓ2) m1.cur=some ⟨none,clock,0,0,0,λ_=>False,none⟩:=by
   rw [Locs.set_ne _ _ (Ne.symm hrc1),Locs.set_at]
  have hx4:ExtL (μ.set r { ℓ with S:=S1 }) (((μ.set r { ℓ with S:=S1 }).set m1.cur ⟨none,clock,0,0,0,λ_=>False,none⟩).set r ℓ2):=(ExtL.set f1).trans hext;have hzr':CRs w' Z' (((μ.set r { ℓ with S:=S1 }).set m1.cur ⟨none,clock,0,0,0,λ_=>False,none⟩).set r ℓ2) [z] [zv]:=hzr.mono hSZ1 e5 hx4
  obtain ⟨p1,p2⟩:=put_root (x:=.mape k1 s (xs++[(l,y)]) xs.length [z] m1.cur) (ℓ:=ℓ2) v1 v2 hdead1 hext ⟨by simp,b,es.push ⟨keyV l,zv,clock⟩,clock+1,_,g2,setB_at w _ hbw,hmq,λh=>by simp [<- q2],by
   refine ⟨q0,_,clock+1,setB_at w _ hbw,by simp [q2],?_,?_,?_,?_,λi=>if i < xs.length then N i else λ_=>False,λi hi d hd=>?_,λi i' hi hi' hii d hd hd'=>?_,λi hi hi'=>?_⟩
   ·intro e' he;rw [Array.toList_push] at he;rcases List.mem_append.1 he with he|he
    ·have:=q3 e' he;omega
    ·simp only [List.mem_singleton] at he;subst he;exact Nat.lt_succ_self _
   ·rw [Array.toList_push,List.map_append,List.nodup_append];refine ⟨q4,by simp,?_⟩;intro p hp p' hp' e';obtain ⟨en,hen,rfl⟩:=List.mem_map.1 hp;simp only [List.map_cons,List.map_nil,List.mem_singleton] at hp';have:=q3 en hen;omega
   ·rw [List.map_append,List.nodup_append];refine ⟨q5,by simp,?_⟩;intro p hp p' hp' e';obtain ⟨en,hen,rfl⟩:=List.mem_map.1 hp;simp only [List.map_cons,List.map_nil,List.mem_singleton] at hp';exact hxk en hen (e'.trans hp')
   ·intro p hp;rcases List.mem_append.1 hp with hp|hp
    ·exact q6 p hp
    ·simp only [List.mem_singleton] at hp;subst hp;exact ⟨hc2,hfit⟩
   ·dsimp only at hd;split at hd
    ·rename_i hi2;exact q7 i hi2 d hd
    ·exact hd.elim
   ·dsimp only at hd hd'
    split at hd<;>split at hd'
    ·rename_i h1 h2;exact q8 i i' h1 h2 hii d hd hd'
    ·exact hd'.elim
    ·exact hd.elim
    ·exact hd.elim
   ·simp only [List.length_append,List.length_singleton] at hi;by_cases hi2:i < xs.length
    ·have hi3:i < es.size:=by omega
     obtain ⟨n1,n2⟩:=q9 i hi2 hi3;simp only [List.getElem_append_left hi2,Array.getElem_push_lt hi3,if_pos hi2,EnR,ElR,if_neg (show ¬ xs.length=i by omega)]
     exact ⟨n1,SR.setB hbz' hby (λhN=>(q7 i hi2 b hN).2 rfl) ((show SR w Z1 B.Y s [es[i].val] xs[i].2 (N i) from n2).up e5)⟩
    ·have hi3:i=xs.length:=by omega
     subst hi3;have hi4:xs.length=es.size:=q2.symm
     have ha:(es.push ⟨keyV l,zv,clock⟩)[xs.length]'hi'=⟨keyV l,zv,clock⟩:=by simp [hi4]
     rw [ha];simp only [List.getElem_append_right (Nat.le_refl _),Nat.sub_self,List.getElem_cons_zero,EnR,ElR,if_true]
     exact ⟨trivial,hzr'⟩⟩ (λ_ d hd=>⟨.inl (e6 d (.inr hd)),λh=>by simp [Root.owns] at h⟩)
  refine fin_value (x:=.tup [(false,[z]),(false,[.stp m1.cur])]) hR hrun' p1 hSZ (λd hd=>e5 d (hz1 d hd)) (hx1.trans hx4) ?_ h ?_ λq hq hμ=>?_
  ·refine ⟨[zv,.int .i64 clock],rfl,rfl,λk0 hk0 hk0'=>?_⟩
   match k0,hk0 with
   |0,_=>exact hzr'.2 0 (by simp) (by simp)
   |1,_=>exact ⟨_,hmq,rfl⟩
  ·show (List.set (List.set m1.roots _ _) _ _).length=_;rw [List.length_set,List.length_set,ek.len];simp [Mem.set,hlen]
  ·have hne:q≠r:=by rintro rfl;rw [g1] at hμ;cases hμ
   rw [Locs.set_ne _ _ hne,Locs.set_ne _ _ (by rw [hcur1];omega)];exact hnone q hμ
 ·obtain ⟨hjx,hΦ⟩:=hl2 j hix
  have hrun':(execOp a.eval o).run E.P w=.ok (.value (.tuple #[es[j].val,.int .i64 es[j].born])) (setB w b (.map es clock)):=by
   simp only [execOp,ho,show a.eval x=_ from g3,show a.eval i=_ from hI]
   simp [hrun]
  have hww:setB w b (.map es clock)=w:=by
   have:w.heap.setIfInBounds b (.map es clock)=w.heap:=by
    apply Array.ext
    ·simp
    ·intro i h1 h2;rw [Array.getElem_setIfInBounds];split
     ·rename_i hij;subst hij;have:=q1;rw [Array.getElem?_eq_getElem h2] at this;exact (Option.some.inj this).symm
     ·rfl
   unfold setB;rw [this]
  rw [hww] at hrun';obtain ⟨j1,j3⟩:=q9 j hjx hj;have j3:SR w Z1 B.Y s [es[j].val] xs[j].2 (N j):=j3;obtain ⟨⟨μ1,p1,p2,p3,p4⟩,_⟩:=mk_sound s t1 t2 hfree.left j3 (λd hd=>.inr (q7 _ hjx d hd).1);have hf1:=Free.right (b:=1) hfree p4;obtain ⟨f1,f2⟩:=hf1 0 (by omega);rw [Nat.add_zero] at f1 f2
  have hcur1:(s.mk xs[j].2 (m0.set r .dead)).2.cur=st.mem.cur+s.news:=by rw [p4.cur,hcur]
  obtain ⟨v1,v2⟩:=make_root (x:=.dead) (ℓ:=⟨none,es[j].born,0,0,0,λ_=>False,none⟩) p1 p2 f2 f1 trivial (λh=>by simp [Root.owns] at h);obtain ⟨o1,o2⟩:=p4.old r (by omega)
  have hrc1:r≠(s.mk xs[j].2 (m0.set r .dead)).2.cur:=by rw [hcur1];rw [hcur] at hrc;omega
  have hdead:((s.mk xs[j].2 (m0.set r .dead)).2.push .dead).roots[r]?=some .dead:=by
   simp only [Mem.push];rw [List.getElem?_set_ne (Ne.symm hrc1),o2];exact hdead0
  let μ2:=μ1.set (s.mk xs[j].2 (m0.set r .dead)).2.cur ⟨none,es[j].born,0,0,0,λ_=>False,none⟩
  have hμ2:μ2 r=some { ℓ with S:=S1 }:=by
   show μ1.set _ _ r=_;rw [Locs.set_ne _ _ hrc1];exact o1.trans hμ1
  let ℓ2:Loc:={ ℓ with S:=λd=>S1 d/\¬ N j d }
  have hext:ExtL μ2 (μ2.set r ℓ2):=ExtL.setS (ℓ:={ ℓ with S:=S1 }) (S:=ℓ2.S) hμ2
  have hmq:(μ2.set r ℓ2) (s.mk xs[j].2 (m0.set r .dead)).2.cur=some ⟨none,es[j].born,0,0,0,λ_=>False,none⟩:=by
   rw [Locs.set_ne _ _ (Ne.symm hrc1)];show μ1.set _ _ _=_;rw [Locs.set_at]
  have hx4:ExtL μ1 (μ2.set r ℓ2):=(ExtL.set f1).trans hext
  obtain ⟨d1,d2⟩:=put_root (x:=.mape k1 s xs j (s.mk xs[j].2 (m0.set r .dead)).1 (s.mk xs[j].2 (m0.set r .dead)).2.cur) (ℓ:=ℓ2) v1 v2 hdead hext ⟨hjx,b,es,clock,_,g2,q1,hmq,λ_=>rfl,by
   have hnb:¬ N j b:=λh=>(q7 _ hjx b h).2 rfl
   refine ⟨⟨q0,hnb⟩,es,clock,q1,q2,q3,q4,q5,q6,λi=>if j=i then λ_=>False else N i,λi hi d hd=>?_,λi i' hi hi' hii d hd hd'=>?_,λi hi hi'=>?_⟩
   ·dsimp only at hd;split at hd
    ·exact hd.elim
    ·rename_i hne;exact ⟨⟨(q7 i hi d hd).1,λh'=>q8 _ i hjx hi hne d h' hd⟩,(q7 i hi d hd).2⟩
   ·dsimp only at hd hd';split at hd
    ·exact hd.elim
    ·split at hd'
     ·exact hd'.elim
     ·exact q8 i i' hi hi' hii d hd hd'
   ·obtain ⟨n1,n2⟩:=q9 i hi hi';refine ⟨n1,?_⟩;by_cases hij:j=i
    ·subst hij;simp only [EnR,ElR,if_true];exact p3.mono (SameOn.refl _ _) (λ_ h=>h) hx4
    ·simp only [EnR,ElR,if_neg hij]
     exact n2⟩ (λ_ d hd=>⟨⟨.inr hd.1,hd.2⟩,λh=>by simp [Root.owns] at h⟩)
  have hcl:CRs w Z1 (μ2.set r ℓ2) (s.mk xs[j].2 (m0.set r .dead)).1 [es[j].val]:=p3.mono (SameOn.refl _ _) (λ_ h=>h) hx4;refine fin_value (x:=.tup [(false,(s.mk xs[j].2 (m0.set r .dead)).1),(false,[.stp (s.mk xs[j].2 (m0.set r .dead)).2.cur])]) hR hrun' d1 (SameOn.refl _ _) hz1 ((hx1.trans p4.ext).trans hx4) ?_ hΦ ?_ λq hq hμ=>?_
  ·refine ⟨[es[j].val,.int .i64 es[j].born],rfl,rfl,λk0 hk0 hk0'=>?_⟩
   match k0,hk0 with
   |0,_ =>
    simp only [List.getElem_cons_zero];split
    ·rename_i c cs hcs;rw [hcs] at hcl;exact hcl.2 0 (by simp) (by simp)
    ·trivial
   |1,_=>exact ⟨_,hmq,rfl⟩
  ·show (List.set (List.set _ _ _) _ _).length=_;rw [List.length_set,List.length_set,p4.len];simp [Mem.set,hlen]
  ·have hne:q≠r:=by rintro rfl;rw [g1] at hμ;cases hμ
   rw [Locs.set_ne _ _ hne];show μ1.set _ _ q=none;rw [Locs.set_ne _ _ (by rw [hcur1];omega),(p4.old q (by rw [hcur];omega)).1];exact hnone q hμ
theorem sound_entryStore(hR:Rel B st a w Z μ)(n:Nat){T:TypeId}{x i y:Operand}(ho:o.op=.entryStore T x i y)(h:(step E st o Res.ok).sat Φ) :
  o.wp E.P a w (Nxt B st n Z μ Φ) (λ_ _ _=>False):=by
 simp only [step,stepV,ho] at h;have hX:=hR.val x;have hI:=hR.val i;have hV:=hR.val y;unfold entStoK at h;split at h
 case h_2=>exact h.elim
 rename_i r q c hx hi hv;rw [hx] at hX;rw [hv] at hV;rw [hi] at hI;obtain ⟨ℓ,b,g1,g2,g3⟩:=hX;obtain ⟨ℓq,g4,g5⟩:=hI;split at h
 case h_2=>exact h.elim
 rename_i k s xs j cs q' hr;split at h
 case h_2=>exact h.elim
 rename_i hc0;simp only [Bool.and_eq_true,beq_iff_eq,Bool.not_eq_true'] at hc0;obtain ⟨rfl,hc3,hc4⟩:=hc0;obtain ⟨ℓ',h5,hjx,b',es,clock,ℓq',h7,q1,h8,h9,h10⟩:=hR.mem.rt r _ hr (by simp);rw [g1] at h5;cases h5;rw [g2] at h7;cases h7;rw [g4] at h8;cases h8;obtain ⟨q0,es',clock',q1',q2,q3,q4,q5,q6,N,q7,q8,q9⟩:=h10;rw [q1] at q1';cases q1';have hown:=hR.mem.own r _ _ b hr rfl g1 q0;have hbw:b < w.heap.size:=hown.2.1;have hbz:¬ Z b:=hown.1
 have hby:¬ B.Y b:=λhy=>by
  have h1:=hR.mem.lent b hy;rcases hown.2.2 with h2|h2
  ·omega
  ·exact h1.2 h2
 have hj:j < es.size:=by omega
 have hrun:=run_entStore (P:=E.P) (t:=T) (v:=a.eval y) q1 hj (h9 hj) q4
 have hrun':(execOp a.eval o).run E.P w=.ok .skip (setB w b (.map (es.modify j λx=>{ x with val:=a.eval y }) clock)):=by
  simp only [execOp,ho,show a.eval x=_ from g3,show a.eval i=_ from g5]
  simp [hrun]
 obtain ⟨t1,t2⟩:=take_root hR.mem (Loose.none B st.mem w Z μ) hr g1 rfl;have hlt:r < st.mem.roots.length:=(List.getElem?_eq_some_iff.1 hr).1
 have hdead:(st.mem.set r .dead).roots[r]?=some .dead:=by simp [Mem.set,hlt]
 let w':=setB w b (.map (es.modify j λx=>{ x with val:=a.eval y }) clock)
 obtain ⟨d1,d2⟩:=world_step (w':=w') t1 t2 (λd hd hn=>setB_ne w _ (by rintro rfl;exact hn (.inr q0))) (by rw [setB_size];exact Nat.le_refl _)
 have hext:ExtL μ (μ.set r ℓ):=by rw [Locs.set_self g1];exact ExtL.refl _
 have hsameZ:SameOn Z w w':=λd hd=>setB_ne w _ (by rintro rfl;exact hbz hd)
 obtain ⟨p1,p2⟩:=put_root (x:=.mapr k s xs (some ⟨j,[c]⟩)) (ℓ:=ℓ) d1 d2 hdead hext ⟨λf hf=>by cases hf;exact hjx,b,g2,by
  have hborn:(es.modify j λx=>{ x with val:=a.eval y }).toList.map (·.born)=es.toList.map (·.born):=by
   apply List.ext_getElem
   ·simp
   ·intro i h1 h2;simp only [List.getElem_map,Array.getElem_toList,Array.getElem_modify]
    split<;>rfl
  refine ⟨q0,_,clock,setB_at w _ hbw,by simp [q2],?_,by rw [hborn];exact q4,q5,q6,N,q7,q8,λi hi hi'=>?_⟩
  ·intro e' he;obtain ⟨i,hi,rfl⟩:=List.getElem_of_mem he
   have hi2:i < es.size:=by simpa using hi
   have:=q3 es[i] (by simp);simp only [Array.getElem_toList,Array.getElem_modify]
   split<;>exact this
  ·have hi2:i < es.size:=by omega
   obtain ⟨n1,n2⟩:=q9 i hi hi2;simp only [Array.getElem_modify];by_cases hij:j=i
   ·subst hij;simp only [if_true,EnR,ElR];exact ⟨n1,(CRs.mk1 hV).mono hsameZ (λ_ h=>h) hext⟩
   ·simp only [if_neg hij,EnR,ElR] at n2 ⊢
    exact ⟨n1,SR.setB hbz hby (λhN=>(q7 i hi b hN).2 rfl) n2⟩⟩ (λ_ d hd=>.inl (.inr hd))
 refine fin_skip (m':=st.mem.set r (.mapr k s xs (some ⟨j,[c]⟩))) hR hrun' (p1.congr (by simp [Mem.set])) hsameZ (λ_ h=>h) hext h (by simp [Mem.set]) λq _ hq=>?_;rw [Locs.set_self g1];exact hq
end
end Go.Mach

namespace Go.Mach
section
variable {B:Base}{E:Env}{st:St}{o:Oper}{a:Act}{w:World}{Z:Nat->Prop}{μ:Locs}{Φ:St->Prop}
theorem stuck_sat{α:Type}{Φ:α->Prop}(h:(Res.stuck:Res α).sat Φ):False:=h
theorem step_sound(hR:Rel B st a w Z μ)(hE:EnvOk E B.g){n:Nat}(hn:newsOf E o<=n)(hF:Fresh st n μ)(h:(step E st o Res.ok).sat Φ) :
  o.wp E.P a w (Nxt B st n Z μ Φ) (λ_ _ _=>False):=by
 cases hop:o.op with
 |move x=>exact sound_move hR n hop h
 |assign x=>exact sound_assign hR n hop h
 |pick c x y=>exact sound_pick hR n hop h
 |alloc T=>exact sound_alloc hR hF (by simpa [newsOf,hop] using hn) hop h
 |box T x=>exact sound_box hR hF (by simpa [newsOf,hop] using hn) hop h
 |build T parts=>exact sound_build hR n hop h
 |buildSlice T k parts=>exact sound_buildSlice hR hF (by simpa [newsOf,hop] using hn) hop h
 |load T x=>exact sound_load hR n hop h
 |store T x y=>exact sound_store hR n hop h
 |nilCheck x=>exact sound_nilCheck hR n hop h
 |binOp op t x y u=>exact sound_bin hR n hop h
 |unOp op t x=>exact sound_unOp hR n hop h
 |convert src dst x =>
  refine sound_convert hR hF (λhb=>?_) hop h;unfold bytesT at hb;split at hb
  ·rename_i el he;simpa [newsOf,hop,he] using hn
  ·cases hb
 |makeFunc fn first caps =>
  cases fn with
  |func f=>exact sound_makeFunc hR n hop h
  |_=>simp only [step,stepV,hop] at h;exact h.elim
 |makeSlice T l c=>exact sound_makeSlice hR hF (by simpa [newsOf,hop] using hn) hop h
 |makeMap T r =>
  cases r with
  |none=>exact sound_makeMap hR hF (by simpa [newsOf,hop] using hn) hop h
  |some _=>simp only [step,stepV,hop] at h;exact (stuck_sat h).elim
 |lookup T x i ok =>
  cases ok with
  |false=>exact sound_lookup hR hF hn hop h
  |true=>simp only [step,stepV,hop] at h;exact (stuck_sat h).elim
 |mapUpdate T x i v=>exact sound_mapUpdate hR n hop h
 |mapEntry T x i=>exact sound_mapEntry hR hF hn hop h
 |entryStore T x i v=>exact sound_entryStore hR n hop h
 |range T x=>exact sound_range hR hF (by simpa [newsOf,hop] using hn) hop h
 |entry x=>exact sound_entry hR n hop h
 |slice t x lo hi mx =>
  cases mx with
  |none =>
   cases hna:arrT E.P t with
   |none=>exact sound_slice hR n hop hna h
   |some p=>exact sound_sliceArr hR hF hop hna (by simpa [newsOf,hop,hna] using hn) h
  |some _=>simp only [step,stepV,hop] at h;exact h.elim
 |fieldAddr t x f=>exact sound_fieldAddr hR n hop h
 |field t x f=>exact sound_field hR n hop h
 |indexAddr t x i =>
  cases hna:arrT E.P t with
  |none=>exact sound_indexAddr hR hF hop hna hn h
  |some q=>exact sound_indexArr hR n hop hna h
 |index t x i=>exact sound_index hR n hop h
 |extract t i=>exact sound_extract hR n hop h
 |call c =>
  cases hc:c.callee with
  |value f =>
   cases hi:inlOf E o with
   |none =>
    exact sound_call hR hE.specs hF hn hop hc hi h
   |some p =>
    obtain ⟨j,xs⟩:=p;obtain ⟨c',h1,h2,rfl,h4,h5⟩:=inlOf_spec hi;rw [hop] at h1;cases h1;rw [hc] at h2;cases h2;simp only [step,stepV,hop,hc,hi] at h;refine sound_inl hR (hE.inls j h4) hF (Nat.le_trans ?_ hn) hop hc h;simp only [newsOf,hop,hc,h5];exact Nat.le_refl _
  |builtin b =>
   cases b with
   |len=>exact sound_len hR n hop hc h
   |append=>exact sound_append hR hF (by simpa [newsOf,hop,hc] using hn) hop hc h
   |copy=>exact sound_copy hR n hop hc h
   |delete=>exact sound_delete hR n hop hc h
   |min=>exact sound_min hR n hop hc h
   |max=>exact sound_max hR n hop hc h
   |_=>simp only [step,stepV,hop,hc] at h;exact h.elim
  |invoke _ _=>simp only [step,stepV,hop,hc] at h;exact h.elim
 |_=>simp only [step,stepV,hop] at h;exact h.elim
end
section
variable {β:Type}
theorem Res.bind_need{α:Type}(b:Bool)(x:Res α)(k:α->Res β):(Res.need b x).bind k=Res.need b (x.bind k):=by cases b<;>rfl
theorem Res.bind_given{α:Type}(b:Bool)(x:Res α)(k:α->Res β):(Res.given b x).bind k=Res.given b (x.bind k):=rfl
theorem Res.bind_br{α:Type}(b:Bool)(x y:Res α)(k:α->Res β):(Res.br b x y).bind k=Res.br b (x.bind k) (y.bind k):=by cases b<;>rfl
theorem Res.bind_idx{α:Type}(t:Ty)(xs:List t.den)(i:Int)(f:t.den->Res α)(k:α->Res β):(Res.idx t xs i f).bind k=Res.idx t xs i λx=>(f x).bind k:=by
 unfold Res.idx;split
 ·split
  ·rw [Res.bind_given]
  ·rfl
 ·rfl
theorem Res.bind_idxS{α:Type}(t:Sh)(xs:List t.den)(i:Int)(f:t.den->Res α)(k:α->Res β):(Res.idxS t xs i f).bind k=Res.idxS t xs i λx=>(f x).bind k:=by
 unfold Res.idxS;split
 ·split
  ·rw [Res.bind_given]
  ·rfl
 ·rfl
theorem Res.bind_assoc{α γ:Type}(m:Res α)(f:α->Res γ)(k:γ->Res β):(m.bind f).bind k=m.bind λx=>(f x).bind k:=by
 induction m with
 |ok a=>rfl
 |stuck=>rfl
 |given b m ih=>exact congrArg (Res.given b) ih
theorem Res.bind_look{α γ:Type}(xs:List (List Int×γ))(l:List Int)(f:Nat->γ->Res α)(g:Res α)(k:α->Res β):(Res.look xs l f g).bind k=Res.look xs l (λi x=>(f i x).bind k) (g.bind k):=by
 unfold Res.look;split
 ·split<;>rfl
 ·rfl
def endV(v:AV)(m:Mem):Res (AV×Mem):=.ok (v,m)
theorem pickK_cps{t:Bool}{a b:AV}(M:Mem)(K:AV->Mem->Res β):pickK t a b (λv=>K v M)=(pickK t a b λv=>endV v M).bind λp=>K p.1 p.2:=by
 unfold pickK;split
 ·rfl
 ·rw [Res.bind_br];rfl
theorem binK_cps{P:Program}{t:TypeId}{c:Bool}{op:BinOp}{x y:AV}(M:Mem)(K:AV->Mem->Res β):binK P t c op x y (λv=>K v M)=(binK P t c op x y λv=>endV v M).bind λp=>K p.1 p.2:=by
 unfold binK;split
 ·rw [Res.bind_need];rfl
 ·rw [Res.bind_need];rfl
 ·split
  ·rfl
  ·split<;>first|rfl|(rw [Res.bind_need];rfl)
 ·split<;>first|rfl|(rw [Res.bind_need];rfl)
 ·split<;>rfl
 ·split<;>rfl
 ·rfl
theorem cutK_cps{α:Type}{xs:List α}{lo hi:Bnd}(f:List α->AV)(M:Mem)(K:AV->Mem->Res β):cutK xs lo hi (λv=>K (f v) M)=(cutK xs lo hi λv=>endV (f v) M).bind λp=>K p.1 p.2:=by
 unfold cutK
 split<;>first|rfl|(rw [Res.bind_need];rfl)
theorem winK_cps{o n:Nat}{lo hi:Bnd}(f:Win->AV)(M:Mem)(K:AV->Mem->Res β):winK o n lo hi (λv=>K (f v) M)=(winK o n lo hi λv=>endV (f v) M).bind λp=>K p.1 p.2:=by
 unfold winK
 split<;>first|rfl|(rw [Res.bind_need];rfl)
theorem sliceK_cps{m:Mem}{x:AV}{lo hi:Bnd}(M:Mem)(K:AV->Mem->Res β):sliceK m x lo hi (λv=>K v M)=(sliceK m x lo hi λv=>endV v M).bind λp=>K p.1 p.2:=by
 unfold sliceK;split
 ·exact cutK_cps (λs=>.c (.str s)) M K
 ·exact cutK_cps (λxs=>.c (.lst _ xs)) M K
 ·exact cutK_cps (λ_=>.c .nils) M K
 ·split
  ·split
   ·rfl
   ·exact winK_cps (λw=>.c (.ref _ w)) M K
  ·rfl
 ·rfl
theorem indexAddrK_cps{m:Mem}{x i:AV}(K:AV->Mem->Res β):indexAddrK m x i K=(indexAddrK m x i endV).bind λp=>K p.1 p.2:=by
 unfold indexAddrK;split
 ·rw [Res.bind_idx];rfl
 ·split
  ·rw [Res.bind_need];rfl
  ·split
   ·rw [Res.bind_need];rfl
   ·rw [Res.bind_idxS];rfl
   ·rfl
  ·rw [Res.bind_idx];rfl
  ·rw [Res.bind_idxS];rfl
  ·rfl
 ·rfl
theorem loadK_cps{m:Mem}{n:Nat}{a:AV}(f:List C->AV)(M:Mem)(K:AV->Mem->Res β):loadK m n a (λcs=>K (f cs) M)=(loadK m n a λcs=>endV (f cs) M).bind λp=>K p.1 p.2:=by
 unfold loadK;split
 ·split
  ·split<;>rfl
  ·split<;>rfl
  ·rfl
 ·split<;>rfl
 ·split
  ·rw [Res.bind_idx];congr 1;funext x
   split<;>rfl
  ·rw [Res.bind_need];congr 1
   split<;>rfl
  ·rfl
 ·rfl
theorem storeK_cps{m:Mem}{a:AV}{vs:List C}(v:AV)(K:AV->Mem->Res β):storeK m a vs (λm=>K v m)=(storeK m a vs λm=>endV v m).bind λp=>K p.1 p.2:=by
 unfold storeK;split
 ·split
  ·split<;>rfl
  ·rfl
 ·split
  ·rw [Res.bind_idx];congr 1;funext x;split
   ·split<;>rfl
   ·rfl
  ·rw [Res.bind_need];congr 1
   split<;>rfl
  ·rfl
 ·rfl
theorem appendK_cps{P:Program}{m:Mem}{el:TypeId}{s:Sh}{d v:AV}(K:AV->Mem->Res β):appendK P m el s d v K=(appendK P m el s d v endV).bind λp=>K p.1 p.2:=by
 unfold appendK;split
 ·split
  ·rw [Res.bind_need];rfl
  ·rfl
 ·split
  ·split
   ·split
    ·split
     ·rw [Res.bind_need];rfl
     ·rfl
    ·rfl
   ·rfl
  ·rfl
 ·rfl
theorem copyK_cps{m:Mem}{e:Ty}{d:AV}{ys:List e.den}(K:AV->Mem->Res β):copyK m e d ys K=(copyK m e d ys endV).bind λp=>K p.1 p.2:=by
 unfold copyK;split
 ·split
  ·split<;>rfl
  ·rfl
 ·rfl
theorem markK_cps{b:Bool}{x:C}{M:Mem}(K:AV->Mem->Res β):markK b x M K=(markK b x M endV).bind λp=>K p.1 p.2:=by
 unfold markK;split
 ·split<;>rfl
 ·rfl
theorem callK_cps{f:FuncId}{args:List AV}{m:Mem}(K:AV->Mem->Res β):∀ (sps:List Spec),callK sps f args m K=(callK sps f args m endV).bind λp=>K p.1 p.2
 |[]=>rfl
 |sp::r=>by
  simp only [callK];split
  ·split
   ·rw [Res.bind_assoc];congr 1;funext y;split
    ·split<;>rfl
    ·rw [Res.bind_given];congr 1
     split<;>rfl
   ·exact callK_cps K r
  ·exact callK_cps K r
theorem sliceArrK_cps{E:Env}{m:Mem}{n:Nat}{el:TypeId}{x:AV}(K:AV->Mem->Res β):sliceArrK E m n el x K=(sliceArrK E m n el x endV).bind λp=>K p.1 p.2:=by
 unfold sliceArrK;split
 ·split
  ·split
   ·split<;>rfl
   ·rfl
  ·rfl
 ·rfl
theorem lookK_cps{m:Mem}{nw n:Nat}{z:C}{x:AV}{l:Option (List Int)}(K:AV->Mem->Res β):lookK m nw n z x l K=(lookK m nw n z x l endV).bind λp=>K p.1 p.2:=by
 unfold lookK;split
 ·split
  ·split
   ·split
    ·rw [Res.bind_look];rfl
    ·rfl
   ·rfl
  ·rfl
 ·rfl
theorem mapEntK_cps{m:Mem}{nw n:Nat}{z:C}{x:AV}{l:Option (List Int)}(K:AV->Mem->Res β):mapEntK m nw n z x l K=(mapEntK m nw n z x l endV).bind λp=>K p.1 p.2:=by
 unfold mapEntK;split
 ·split
  ·split
   ·split
    ·rw [Res.bind_look];congr 1
     split<;>rfl
    ·rfl
   ·rfl
  ·rfl
 ·rfl
theorem entStoK_cps{m:Mem}{x st v:AV}(u:AV)(K:AV->Mem->Res β):entStoK m x st v (λm=>K u m)=(entStoK m x st v λm=>endV u m).bind λp=>K p.1 p.2:=by
 unfold entStoK;split
 ·split
  ·split<;>rfl
  ·rfl
 ·rfl
theorem updK_cps{m:Mem}{n:Nat}{x:AV}{l:Option (List Int)}{v:AV}(u:AV)(K:AV->Mem->Res β):updK m n x l v (λm=>K u m)=(updK m n x l v λm=>endV u m).bind λp=>K p.1 p.2:=by
 unfold updK;split
 ·split
  ·split
   ·rw [Res.bind_look];congr 1
    ·funext i y;split
     ·rw [Res.bind_need];rfl
     ·rfl
    ·split
     ·rfl
     ·split<;>rfl
   ·rfl
  ·rfl
 ·rfl
theorem delK_cps{m:Mem}{n:Nat}{x:AV}{l:Option (List Int)}(u:AV)(K:AV->Mem->Res β):delK m n x l (λm=>K u m)=(delK m n x l λm=>endV u m).bind λp=>K p.1 p.2:=by
 unfold delK;split
 ·split
  ·split
   ·split
    ·rw [Res.bind_look];rfl
    ·rfl
   ·rfl
  ·rfl
 ·rfl
theorem rangeK_cps{m:Mem}{x:AV}(K:AV->Mem->Res β):rangeK m x K=(rangeK m x endV).bind λp=>K p.1 p.2:=by
 unfold rangeK;split
 ·split
  ·split<;>rfl
  ·rfl
 ·rfl
theorem inlK_cps{j:Inl}{xs:List AV}{M:Mem}(K:AV->Mem->Res β):inlK j xs M K=(inlK j xs M endV).bind λp=>K p.1 p.2:=by
 unfold inlK;split
 ·split
  ·rw [j.cps β]
   conv=>rhs;rw [j.cps (AV×Mem),Res.bind_assoc]
   congr 1;funext p
   split<;>rfl
  ·rfl
 ·rfl
theorem stepV_cps(E:Env)(ρ:Operand->AV)(M:Mem)(o:Oper)(K:AV->Mem->Res β):stepV E ρ M o K=(stepV E ρ M o endV).bind λp=>K p.1 p.2:=by
 unfold stepV;split
 ·rfl
 ·rfl
 ·split
  ·exact pickK_cps M K
  ·rfl
 ·split
  ·split<;>rfl
  ·split<;>rfl
 ·split<;>rfl
 ·split
  ·split<;>rfl
  ·rfl
 ·split
  ·split
   ·split
    ·split
     ·split<;>rfl
     ·rfl
    ·rfl
   ·rfl
  ·rfl
 ·split
  ·exact loadK_cps (λcs=>avOf _ cs) M K
  ·rfl
 ·split
  ·exact storeK_cps _ K
  ·rfl
 ·split<;>rfl
 ·split
  ·rw [Res.bind_need];rfl
  ·exact binK_cps M K
 ·split<;>rfl
 ·split
  ·split<;>rfl
  ·split
   ·rfl
   ·split<;>rfl
   ·rfl
  ·split
   ·rfl
   ·exact markK_cps K
  ·rfl
 ·split<;>rfl
 ·split
  ·split
   ·split
    ·rw [Res.bind_need];rfl
    ·rfl
   ·rfl
  ·rfl
 ·split
  ·split
   ·exact sliceArrK_cps K
   ·rfl
  ·split
   ·split
    ·exact sliceK_cps M K
    ·rfl
   ·rfl
 ·split
  ·split<;>rfl
  ·rfl
 ·split
  ·split<;>rfl
  ·rfl
 ·split
  ·split<;>rfl
  ·split
   ·exact indexAddrK_cps K
   ·rfl
 ·split
  ·rw [Res.bind_idx];rfl
  ·rfl
 ·split
  ·split<;>rfl
  ·rfl
 ·split<;>rfl
 ·split
  ·exact lookK_cps K
  ·rfl
 ·split
  ·exact updK_cps _ K
  ·rfl
 ·split
  ·exact mapEntK_cps K
  ·rfl
 ·exact entStoK_cps _ K
 ·split
  ·exact rangeK_cps K
  ·rfl
 ·split<;>rfl
 ·split
  ·split
   ·exact inlK_cps K
   ·split
    ·exact callK_cps K _
    ·rfl
  ·split
   ·split<;>rfl
   ·rfl
  ·split
   ·split
    ·split
     ·split
      ·exact appendK_cps K
      ·rfl
     ·rfl
    ·rfl
   ·rfl
  ·split
   ·split
    ·split
     ·split
      ·exact copyK_cps K
      ·rfl
     ·rfl
    ·rfl
   ·rfl
  ·split
   ·split
    ·exact delK_cps _ K
    ·rfl
   ·rfl
  ·split<;>rfl
  ·split<;>rfl
  ·rfl
 ·rfl
end
end Go.Mach

namespace Go.Mach
structure Touch (m m':Mem) (n:Nat):Prop where
 len:m'.roots.length=m.roots.length
 cur:m'.cur=m.cur+n
 dR:∀ r,m.dR.testBit r=true->m'.dR.testBit r=true
 same:∀ r,(r < m.cur\/m.cur+n<=r)->m'.dR.testBit r=false->m'.roots[r]?=m.roots[r]?
namespace Touch
variable {m m' m'':Mem}{a b:Nat}
theorem refl(m:Mem):Touch m m 0:=⟨rfl,rfl,λ_ h=>h,λ_ _ _=>rfl⟩
theorem trans(h:Touch m m' a)(h':Touch m' m'' b):Touch m m'' (a+b):=by
 refine ⟨h'.len.trans h.len,by rw [h'.cur,h.cur,Nat.add_assoc],λr hr=>h'.dR r (h.dR r hr),λr hr hb=>?_⟩
 have h1:m'.dR.testBit r=false:=by
  cases hq:m'.dR.testBit r with
  |false=>rfl
  |true=>rw [h'.dR r hq] at hb;cases hb
 have h2:=h.cur;rw [h'.same r (by omega) hb,h.same r (by omega) h1]
theorem trans0(h:Touch m m' 0)(h':Touch m' m'' b):Touch m m'' b:=by have:=h.trans h';rwa [Nat.zero_add] at this
theorem trans1(h:Touch m m' a)(h':Touch m' m'' 0):Touch m m'' a:=by have:=h.trans h';rwa [Nat.add_zero] at this
theorem set(m:Mem)(r:Nat)(x:Root):Touch m (m.set r x) 0:=by
 refine ⟨by simp [Mem.set],rfl,λs hs=>by simp [Mem.set,Nat.testBit_or,hs],λs _ hb=>?_⟩;simp only [Mem.set,Nat.testBit_or,Bool.or_eq_false_iff,Nat.testBit_two_pow,decide_eq_false_iff_not] at hb;simp only [Mem.set];rw [List.getElem?_set_ne hb.2]
theorem push(m:Mem)(x:Root):Touch m (m.push x) 1:=by
 refine ⟨by simp [Mem.push],rfl,λs hs=>hs,λs hs _=>?_⟩;simp only [Mem.push];rw [List.getElem?_set_ne (by omega)]
theorem move(m:Mem)(q r:Nat):Touch m (m.move q r) 0:=by
 refine ⟨by simp [Mem.move],rfl,λs hs=>by simp [Mem.move,Nat.testBit_or,hs],λs _ hb=>?_⟩;simp only [Mem.move,Nat.testBit_or,Bool.or_eq_false_iff,Nat.testBit_two_pow,decide_eq_false_iff_not] at hb;simp only [Mem.move];rw [List.getElem?_set_ne hb.2.1,List.getElem?_set_ne hb.2.2]
end Touch
theorem freezeM_touch:∀ {cs:List C}{m m':Mem},freezeM cs m=some m'->Touch m m' 0
 |[],m,m',h=>by simp only [freezeM,Option.some.injEq] at h;subst h;exact Touch.refl _
 |c::cs,m,m',h=>by
  by_cases hr:∃ r wd,c=.ref r wd
  ·obtain ⟨r,wd,rfl⟩:=hr;simp only [freezeM] at h;split at h
   ·split at h
    ·exact (Touch.set m _ _).trans0 (freezeM_touch h)
    ·cases h
   ·exact freezeM_touch h
   ·cases h
  ·have h':freezeM cs m=some m':=by
    cases c with
    |ref q wq=>exact absurd ⟨q,wq,rfl⟩ hr
    |_=>simpa only [freezeM] using h
   exact freezeM_touch h'
theorem get_touch:∀ (s:Sh){cs rest:List C}{x:s.den}{m m':Mem},s.get cs m=some (x,rest,m')->Touch m m' 0
 |.nil,cs,rest,x,m,m',h=>by simp only [Sh.get,Option.some.injEq,Prod.mk.injEq] at h;obtain ⟨_,_,rfl⟩:=h;exact Touch.refl _
 |.undef,cs,rest,x,m,m',h=>by
  match cs,h with
  |c::cs,h=>simp only [Sh.get,Option.some.injEq,Prod.mk.injEq] at h;obtain ⟨_,_,rfl⟩:=h;exact Touch.refl _
 |.sb p,cs,rest,x,m,m',h=>by
  match cs,h with
  |.ptr r 0::cs,h =>
   simp only [Sh.get] at h;split at h
   case h_2=>cases h
   split at h
   case h_2=>cases h
   simp only [Option.some.injEq,Prod.mk.injEq] at h;obtain ⟨_,_,rfl⟩:=h;exact Touch.set _ _ _
 |.opq,cs,rest,x,m,m',h=>by
  match cs,h with
  |c::cs,h =>
   simp only [Sh.get] at h;split at h
   ·simp only [Option.some.injEq,Prod.mk.injEq] at h;obtain ⟨_,_,rfl⟩:=h;exact Touch.refl _
   ·cases h
 |.err,cs,rest,x,m,m',h=>by
  match cs,h with
  |.err b::cs,h=>simp only [Sh.get,Option.some.injEq,Prod.mk.injEq] at h;obtain ⟨_,_,rfl⟩:=h;exact Touch.refl _
 |.nilp,cs,rest,x,m,m',h=>by
  match cs,h with
  |.nilp::cs,h=>simp only [Sh.get,Option.some.injEq,Prod.mk.injEq] at h;obtain ⟨_,_,rfl⟩:=h;exact Touch.refl _
 |.nilz,cs,rest,x,m,m',h=>by
  match cs,h with
  |.nils::cs,h=>simp only [Sh.get,Option.some.injEq,Prod.mk.injEq] at h;obtain ⟨_,_,rfl⟩:=h;exact Touch.refl _
 |.frz t,cs,rest,x,m,m',h=>by
  simp only [Sh.get] at h;split at h
  case h_2=>cases h
  split at h
  case h_2=>cases h
  rename_i hfz;simp only [Option.some.injEq,Prod.mk.injEq] at h;obtain ⟨_,_,rfl⟩:=h;exact freezeM_touch hfz
 |.own s,cs,rest,x,m,m',h=>by
  match cs,h with
  |.nils::cs,h=>simp only [Sh.get,Option.some.injEq,Prod.mk.injEq] at h;obtain ⟨_,_,rfl⟩:=h;exact Touch.refl _
  |.ref r wd::cs,h =>
   simp only [Sh.get] at h;split at h
   case h_2=>cases h
   split at h
   case h_2=>cases h
   split at h
   ·simp only [Option.some.injEq,Prod.mk.injEq] at h;obtain ⟨_,_,rfl⟩:=h;exact Touch.set _ _ _
   ·split at h
    case h_2=>cases h
    rename_i hy;simp only [Option.some.injEq,Prod.mk.injEq] at h;obtain ⟨_,_,rfl⟩:=h;exact (Touch.set _ _ _).trans0 (get_touch s hy)
 |.map n s,cs,rest,x,m,m',h=>by
  match cs,h with
  |.mp r::cs,h =>
   simp only [Sh.get] at h;split at h
   case h_2=>cases h
   split at h
   case h_2=>cases h
   split at h
   ·simp only [Option.some.injEq,Prod.mk.injEq] at h;obtain ⟨_,_,rfl⟩:=h;exact Touch.set _ _ _
   ·split at h
    case h_2=>cases h
    rename_i hy;simp only [Option.some.injEq,Prod.mk.injEq] at h;obtain ⟨_,_,rfl⟩:=h;exact (Touch.set _ _ _).trans0 (get_touch s hy)
 |.box s,cs,rest,x,m,m',h=>by
  match cs,h with
  |.ptr r 0::cs,h =>
   simp only [Sh.get] at h;split at h
   case h_2=>cases h
   split at h
   case h_2=>cases h
   rename_i hy;simp only [Option.some.injEq,Prod.mk.injEq] at h;obtain ⟨_,_,rfl⟩:=h;exact (Touch.set _ _ _).trans0 (get_touch s hy)
 |.clo f s,cs,rest,x,m,m',h=>by
  match cs,h with
  |.fn g caps::cs,h =>
   simp only [Sh.get] at h;split at h
   case h_2=>cases h
   rename_i hy;simp only [Option.some.injEq,Prod.mk.injEq] at h;obtain ⟨_,_,rfl⟩:=h;exact get_touch s hy
 |.seq a b,cs,rest,x,m,m',h=>by
  simp only [Sh.get] at h;split at h
  case h_2=>cases h
  rename_i ha;split at h
  case h_2=>cases h
  rename_i hb;simp only [Option.some.injEq,Prod.mk.injEq] at h;obtain ⟨_,_,rfl⟩:=h;exact (get_touch a ha).trans0 (get_touch b hb)
 |.bor s,cs,rest,x,m,m',h=>by
  simp only [Sh.get] at h;split at h
  case h_2=>cases h
  simp only [Option.some.injEq,Prod.mk.injEq] at h;obtain ⟨_,_,rfl⟩:=h;exact Touch.refl _
theorem mkB_touch:∀ (s:Sh) (x:s.den) (m:Mem),Touch m (s.mkB x m).2 s.news
 |.nil,_,m=>Touch.refl m
 |.undef,_,m=>Touch.refl m
 |.nilp,_,m=>Touch.refl m
 |.nilz,_,m=>Touch.refl m
 |.err,_,m=>Touch.refl m
 |.opq,_,m=>Touch.refl m
 |.sb _,_,m=>Touch.push m _
 |.frz _,_,m=>Touch.refl m
 |.own _,_,m=>Touch.push m _
 |.box s,x,m=>(mkB_touch s x m).trans (Touch.push _ _)
 |.clo _ s,x,m=>mkB_touch s x m
 |.map _ _,_,m=>Touch.push m _
 |.seq a b,x,m=>(mkB_touch a x.1 m).trans (mkB_touch b x.2 _)
 |.bor s,x,m=>mkB_touch s x m
theorem mk_touch:∀ (s:Sh) (x:s.den) (m:Mem),Touch m (s.mk x m).2 s.news
 |.nil,_,m=>Touch.refl m
 |.undef,_,m=>Touch.refl m
 |.nilp,_,m=>Touch.refl m
 |.nilz,_,m=>Touch.refl m
 |.err,_,m=>Touch.refl m
 |.opq,_,m=>Touch.refl m
 |.sb _,_,m=>Touch.push m _
 |.frz _,_,m=>Touch.refl m
 |.own _,_,m=>Touch.push m _
 |.box s,x,m=>(mk_touch s x m).trans (Touch.push _ _)
 |.clo _ s,x,m=>mk_touch s x m
 |.map _ _,_,m=>Touch.push m _
 |.seq a b,x,m=>(mk_touch a x.1 m).trans (mk_touch b x.2 _)
 |.bor s,x,m=>mkB_touch s x m
theorem mks_touch:∀ (l:List VSh) (x:dens l) (m:Mem),Touch m (mks l x m).2 (newsL l)
 |[],_,m=>Touch.refl m
 |[a],x,m=>mk_touch a.2 x m
 |a::b::r,x,m=>(mk_touch a.2 x.1 m).trans (mks_touch (b::r) x.2 _)
theorem getV_touch{a:VSh}{v:AV}{m m':Mem}{x:a.2.den}(h:getV a v m=some (x,m')):Touch m m' 0:=by
 unfold getV at h;split at h
 case h_2=>cases h
 rename_i hg;simp only [Option.some.injEq,Prod.mk.injEq] at h;obtain ⟨_,rfl⟩:=h;exact get_touch _ hg
theorem gets_touch:∀ {l:List VSh}{vs:List AV}{m m':Mem}{x:dens l},gets l vs m=some (x,m')->Touch m m' 0
 |[],vs,m,m',x,h=>by
  match vs,h with
  |[],h=>simp only [gets,Option.some.injEq,Prod.mk.injEq] at h;obtain ⟨_,rfl⟩:=h;exact Touch.refl _
 |[a],vs,m,m',x,h=>by
  match vs,h with
  |[v],h=>exact getV_touch h
 |a::b::r,vs,m,m',x,h=>by
  match vs,h with
  |v::vs,h =>
   simp only [gets] at h;split at h
   case h_2=>cases h
   rename_i hg;split at h
   case h_2=>cases h
   rename_i hgs;simp only [Option.some.injEq,Prod.mk.injEq] at h;obtain ⟨_,rfl⟩:=h;exact (getV_touch hg).trans0 (gets_touch hgs)
theorem getC_touch{a:VSh}{v:AV}{m m':Mem}{g:Mem->Option a.2.den}(h:getC a v m=some (g,m')):Touch m m' 0:=by
 unfold getC at h;split at h
 ·split at h
  ·simp only [Option.some.injEq,Prod.mk.injEq] at h;obtain ⟨_,rfl⟩:=h;exact Touch.refl _
  ·cases h
 ·split at h
  case h_2=>cases h
  rename_i hg;simp only [Option.some.injEq,Prod.mk.injEq] at h;obtain ⟨_,rfl⟩:=h;exact getV_touch hg
theorem getsC_touch:∀ {l:List VSh}{vs:List AV}{m m':Mem}{g:Mem->Option (dens l)},getsC l vs m=some (g,m')->Touch m m' 0
 |[],vs,m,m',x,h=>by
  match vs,h with
  |[],h=>simp only [getsC,Option.some.injEq,Prod.mk.injEq] at h;obtain ⟨_,rfl⟩:=h;exact Touch.refl _
 |[a],vs,m,m',x,h=>by
  match vs,h with
  |[v],h=>exact getC_touch h
 |a::b::r,vs,m,m',x,h=>by
  match vs,h with
  |v::vs,h =>
   simp only [getsC] at h;split at h
   case h_2=>cases h
   rename_i hg;split at h
   case h_2=>cases h
   rename_i hgs;simp only [Option.some.injEq,Prod.mk.injEq] at h;obtain ⟨_,rfl⟩:=h;exact (getC_touch hg).trans0 (getsC_touch hgs)
theorem backAt_touch{s:Sh}{v:AV}{x:s.den}{m m':Mem}(h:backAt s v x m=some m'):Touch m m' s.news:=by
 have ht:=mk_touch s x m;unfold backAt at h;generalize hmk:s.mk x m=k at h ht;obtain ⟨cs,m1⟩:=k;simp only at h ht;split at h
 case h_2=>cases h
 split at h
 ·unfold Mem.move? at h;split at h
  case h_2=>cases h
  cases h;exact ht.trans1 (Touch.move _ _ _)
 ·cases h;exact ht
theorem backs_touch:∀ {ps:List Par}{xs:List AV}{α:Type}{y:outs α (boxes ps)}{m m':Mem},backs ps xs y m=some m'->Touch m m' (newsB (boxes ps))
 |[],xs,α,y,m,m',h=>by simp only [backs,Option.some.injEq] at h;subst h;exact Touch.refl _
 |.val g s::r,xs,α,y,m,m',h=>by
  match xs,h with
  |x::xs,h=>exact backs_touch (ps:=r) h
 |.obj s::r,xs,α,y,m,m',h=>by
  match xs,h with
  |x::xs,h =>
   simp only [backs] at h;split at h
   case h_2=>cases h
   rename_i hb;exact (backAt_touch hb).trans (backs_touch (ps:=r) h)
def TouchLe(m m':Mem)(n:Nat):Prop:=∃ k,k<=n/\Touch m m' k
theorem Touch.le{m m':Mem}{n k:Nat}(h:Touch m m' k)(hk:k<=n):TouchLe m m' n:=⟨k,hk,h⟩
def Ends(n:Nat)(M:Mem)(r:Res (AV×Mem)):Prop:=∀ v m',r.strip=some (v,m')->TouchLe M m' n
section
variable {M:Mem}{n:Nat}
theorem Ends.stuck:Ends n M .stuck:=λ_ _ h=>by cases h
theorem Ends.val{v:AV}:Ends n M (endV v M):=λ_ _ h=>by cases h;exact (Touch.refl M).le (Nat.zero_le _)
theorem Ends.ok{v:AV}{m:Mem}(h:TouchLe M m n):Ends n M (endV v m):=λ_ _ e=>by cases e;exact h
theorem Ends.need{b:Bool}{r:Res (AV×Mem)}(h:Ends n M r):Ends n M (Res.need b r):=by cases b;exact Ends.stuck;exact h
theorem Ends.given{b:Bool}{r:Res (AV×Mem)}(h:Ends n M r):Ends n M (Res.given b r):=h
theorem Ends.br{b:Bool}{r r':Res (AV×Mem)}(h:Ends n M r)(h':Ends n M r'):Ends n M (Res.br b r r'):=by cases b;exact h';exact h
theorem Ends.idx{t:Ty}{xs:List t.den}{i:Int}{f:t.den->Res (AV×Mem)}(h:∀ x,Ends n M (f x)):Ends n M (Res.idx t xs i f):=by
 unfold Res.idx;split
 ·split
  ·exact (h _).given
  ·exact Ends.stuck
 ·exact Ends.stuck
theorem Ends.idxS{t:Sh}{xs:List t.den}{i:Int}{f:t.den->Res (AV×Mem)}(h:∀ x,Ends n M (f x)):Ends n M (Res.idxS t xs i f):=by
 unfold Res.idxS;split
 ·split
  ·exact (h _).given
  ·exact Ends.stuck
 ·exact Ends.stuck
theorem Ends.bind{α:Type}{m:Res α}{f:α->Res (AV×Mem)}(h:∀ x,Ends n M (f x)):Ends n M (m.bind f):=by
 intro v m' e;rw [Res.strip_bind] at e
 cases hs:m.strip with
 |none=>rw [hs] at e;cases e
 |some a=>rw [hs] at e;exact h a v m' e
end
theorem shut_touch{m m0:Mem}{r:Nat}(h:m.shut r=some m0):Touch m m0 0:=by
 unfold Mem.shut at h;split at h
 ·split at h
  case h_2=>cases h
  rename_i hg;cases h;exact (Touch.set _ _ _).trans0 ((get_touch _ hg).trans0 (Touch.set _ _ _))
 ·cases h;exact Touch.refl _
 ·cases h
theorem shutM_touch{m m0:Mem}{r:Nat}(h:m.shutM r=some m0):Touch m m0 0:=by
 unfold Mem.shutM at h;split at h
 ·split at h
  case h_2=>cases h
  rename_i hg;cases h;exact (Touch.set _ _ _).trans0 ((get_touch _ hg).trans0 (Touch.set _ _ _))
 ·cases h;exact Touch.refl _
 ·cases h
theorem Ends.look{M:Mem}{n:Nat}{γ:Type}{xs:List (List Int×γ)}{l:List Int}{f:Nat->γ->Res (AV×Mem)}{g:Res (AV×Mem)}(h:∀ i x,Ends n M (f i x))(h':Ends n M g):Ends n M (Res.look xs l f g):=by
 unfold Res.look;split
 ·split
  ·exact h _ _
  ·exact Ends.stuck
 ·exact h'
theorem lookK_ends{m:Mem}{nw n:Nat}{z:C}{x:AV}{l:Option (List Int)}:Ends nw m (lookK m nw n z x l endV):=by
 unfold lookK;split
 ·split
  ·rename_i hs;split
   ·split
    ·rename_i hc;simp only [Bool.and_eq_true,decide_eq_true_eq] at hc;exact Ends.look (λi x=>Ends.ok (((shutM_touch hs).trans0 ((Touch.set _ _ _).trans0 ((mk_touch _ _ _).trans1 (Touch.set _ _ _)))).le hc.2.2.2)) (Ends.ok ((shutM_touch hs).le (Nat.zero_le _)))
    ·exact Ends.stuck
   ·exact Ends.stuck
  ·exact Ends.stuck
 ·exact Ends.stuck
theorem mapEntK_ends{m:Mem}{nw n:Nat}{z:C}{x:AV}{l:Option (List Int)}:Ends nw m (mapEntK m nw n z x l endV):=by
 unfold mapEntK;split
 ·split
  ·rename_i hs;split
   ·split
    ·rename_i hc;simp only [Bool.and_eq_true,decide_eq_true_eq] at hc;refine Ends.look (λi x=>Ends.ok (((shutM_touch hs).trans0 ((Touch.set _ _ _).trans0 (((mk_touch _ _ _).trans (Touch.push _ _)).trans1 (Touch.set _ _ _)))).le hc.2.2.2)) ?_;split
     ·rename_i hg;exact Ends.ok (((shutM_touch hs).trans0 ((Touch.set _ _ _).trans0 ((get_touch _ hg).trans0 ((Touch.push _ _).trans1 (Touch.set _ _ _))))).le (by omega))
     ·exact Ends.stuck
    ·exact Ends.stuck
   ·exact Ends.stuck
  ·exact Ends.stuck
 ·exact Ends.stuck
theorem entStoK_ends{k:Nat}{m:Mem}{x st v u:AV}:Ends k m (entStoK m x st v λm=>endV u m):=by
 unfold entStoK;split
 ·split
  ·split
   ·exact Ends.ok ((Touch.set _ _ _).le (Nat.zero_le _))
   ·exact Ends.stuck
  ·exact Ends.stuck
 ·exact Ends.stuck
theorem updK_ends{m:Mem}{k n:Nat}{x:AV}{l:Option (List Int)}{v u:AV}:Ends k m (updK m n x l v λm=>endV u m):=by
 unfold updK;split
 ·split
  ·split
   ·refine Ends.look (λi y=>?_) ?_
    ·split
     ·exact (Ends.ok ((Touch.set _ _ _).le (Nat.zero_le _))).need
     ·exact Ends.ok ((Touch.set _ _ _).le (Nat.zero_le _))
    ·split
     ·exact Ends.stuck
     ·split
      ·rename_i hg;exact Ends.ok (((Touch.set _ _ _).trans0 ((get_touch _ hg).trans0 (Touch.set _ _ _))).le (Nat.zero_le _))
      ·exact Ends.stuck
   ·exact Ends.stuck
  ·exact Ends.stuck
 ·exact Ends.stuck
theorem delK_ends{m:Mem}{k n:Nat}{x:AV}{l:Option (List Int)}{u:AV}:Ends k m (delK m n x l λm=>endV u m):=by
 unfold delK;split
 ·split
  ·rename_i hs;split
   ·split
    ·exact Ends.look (λi y=>Ends.ok (((shutM_touch hs).trans0 (Touch.set _ _ _)).le (Nat.zero_le _))) (Ends.ok ((shutM_touch hs).le (Nat.zero_le _)))
    ·exact Ends.stuck
   ·exact Ends.stuck
  ·exact Ends.stuck
 ·exact Ends.stuck
theorem rangeK_ends{m:Mem}{x:AV}:Ends 1 m (rangeK m x endV):=by
 unfold rangeK;split
 ·split
  ·rename_i hs;split
   ·exact Ends.ok (((shutM_touch hs).trans0 ((Touch.set _ _ _).trans0 (Touch.push _ _))).le (Nat.le_refl _))
   ·exact Ends.stuck
  ·exact Ends.stuck
 ·exact Ends.stuck
theorem appSrc_touch{m md m1:Mem}{s:Sh}{v:AV}{ys:List s.den}(h:appSrc m md s v=some (ys,m1)):Touch md m1 0:=by
 unfold appSrc at h;split at h
 ·split at h
  ·simp only [Option.some.injEq,Prod.mk.injEq] at h;obtain ⟨_,rfl⟩:=h;exact Touch.refl _
  ·cases h
 ·simp only [Option.some.injEq,Prod.mk.injEq] at h;obtain ⟨_,rfl⟩:=h;exact Touch.refl _
 ·split at h
  ·split at h
   ·simp only [Option.some.injEq,Prod.mk.injEq] at h;obtain ⟨_,rfl⟩:=h;exact Touch.set _ _ _
   ·cases h
  ·cases h
 ·cases h
theorem getAll_touch(s:Sh):∀ (n:Nat){cs:List C}{xs:List s.den}{m m':Mem},getAll s n cs m=some (xs,m')->Touch m m' 0
 |0,cs,xs,m,m',h=>by
  match cs,h with
  |[],h=>simp only [getAll,Option.some.injEq,Prod.mk.injEq] at h;obtain ⟨_,rfl⟩:=h;exact Touch.refl _
 |n+1,cs,xs,m,m',h=>by
  simp only [getAll] at h;split at h
  case h_2=>cases h
  rename_i hg;split at h
  case h_2=>cases h
  rename_i hr;simp only [Option.some.injEq,Prod.mk.injEq] at h;obtain ⟨_,rfl⟩:=h;exact (get_touch s hg).trans0 (getAll_touch s n hr)
theorem pickK_ends{n:Nat}{M:Mem}{t:Bool}{a b:AV}:Ends n M (pickK t a b λv=>endV v M):=by
 unfold pickK;split
 ·exact Ends.val
 ·exact Ends.val.br Ends.val
theorem binK_ends{n:Nat}{M:Mem}{P:Program}{t:TypeId}{c:Bool}{op:BinOp}{x y:AV}:Ends n M (binK P t c op x y λv=>endV v M):=by
 unfold binK;split
 ·exact Ends.val.need
 ·exact Ends.val.need
 ·split
  ·exact Ends.stuck
  ·split<;>first|exact Ends.val|exact Ends.val.need|exact Ends.stuck
 ·split<;>first|exact Ends.val|exact Ends.val.need|exact Ends.stuck
 ·split<;>first|exact Ends.val|exact Ends.stuck
 ·split<;>first|exact Ends.val|exact Ends.stuck
 ·exact Ends.stuck
theorem cutK_ends{n:Nat}{M:Mem}{α:Type}{xs:List α}{lo hi:Bnd}{f:List α->AV}:Ends n M (cutK xs lo hi λv=>endV (f v) M):=by
 unfold cutK
 split<;>first|exact Ends.val|exact Ends.val.need
theorem winK_ends{n:Nat}{M:Mem}{o k:Nat}{lo hi:Bnd}{f:Win->AV}:Ends n M (winK o k lo hi λv=>endV (f v) M):=by
 unfold winK
 split<;>first|exact Ends.val|exact Ends.val.need
theorem sliceK_ends{n:Nat}{M m:Mem}{x:AV}{lo hi:Bnd}:Ends n M (sliceK m x lo hi λv=>endV v M):=by
 unfold sliceK;split
 ·exact cutK_ends (f:=λs=>.c (.str s))
 ·exact cutK_ends (f:=λxs=>.c (.lst _ xs))
 ·exact cutK_ends (f:=λ_=>.c .nils)
 ·split
  ·split
   ·exact Ends.val
   ·exact winK_ends (f:=λw=>.c (.ref _ w))
  ·exact Ends.stuck
 ·exact Ends.stuck
theorem getsK_touch{b:Bool}{l:List VSh}{vs:List AV}{m m':Mem}{x:dens l}(h:getsK b l vs m=some (x,m')):Touch m m' 0:=by
 unfold getsK at h;split at h
 ·exact gets_touch h
 ·split at h
  case h_2=>cases h
  rename_i g m1 hg;split at h
  case h_2=>cases h
  cases h;exact getsC_touch hg
theorem callK_ends{n:Nat}{f:FuncId}{args:List AV}{m:Mem}:∀ {sps:List Spec},(∀ sp∈sps,sp.f=f->sp.news<=n)->Ends n m (callK sps f args m endV)
 |[],_=>Ends.stuck
 |sp::r,hn=>by
  have ih:=callK_ends (n:=n) (f:=f) (args:=args) (m:=m) (sps:=r) λs hs=>hn s (List.mem_cons_of_mem _ hs);simp only [callK];split
  ·rename_i hb;simp only [Bool.and_eq_true,beq_iff_eq] at hb;have hle:=hn sp List.mem_cons_self hb.1;split
   ·rename_i x m1 hg;refine Ends.bind λy=>?_
    have key:∀ {m3:Mem},backs sp.ps args y (mks sp.rs (outFst (boxes sp.ps) y) m1).2=some m3->TouchLe m m3 n:=λh3 =>
     Touch.le ((getsK_touch hg).trans0 ((mks_touch _ _ _).trans (backs_touch h3))) hle
    split
    ·split
     ·exact Ends.ok (key (by assumption))
     ·exact Ends.stuck
    ·refine Ends.given ?_;split
     ·exact Ends.ok (key (by assumption))
     ·exact Ends.stuck
   ·exact ih
  ·exact ih
theorem foldbits_le:∀ (l:List Nat) (d r:Nat),d.testBit r=true->(l.foldl (λd r=>d ||| 2^r) d).testBit r=true
 |[],_,_,h=>h
 |x::l,d,r,h=>by
  rw [List.foldl_cons];exact foldbits_le l _ r (by rw [Nat.testBit_or,h,Bool.true_or])
theorem foldbits_mem:∀ (l:List Nat) (d r:Nat),r∈l->(l.foldl (λd r=>d ||| 2^r) d).testBit r=true
 |x::l,d,r,h=>by
  rw [List.foldl_cons];rcases List.mem_cons.1 h with rfl|h
  ·exact foldbits_le l _ _ (by simp [Nat.testBit_or,Nat.testBit_two_pow_self])
  ·exact foldbits_mem l _ r h
theorem inlK_ends{j:Inl}{xs:List AV}{M:Mem}:Ends j.news M (inlK j xs M endV):=by
 unfold inlK;split
 ·rename_i l _;split
  ·rename_i hin;rw [j.cps];refine Ends.bind λp=>?_;split
   ·rename_i hio;refine Ends.ok ⟨p.2.roots.length-l.length,?_,lift_len M p.2 l,rfl,λr hr=>foldbits_le _ _ _ hr,λr hr hb=>?_⟩
    ·simp only [inlOut,Bool.and_eq_true,Nat.ble_eq] at hio;omega
    ·cases hx:M.roots[r]? with
     |none =>
      rw [List.getElem?_eq_none_iff] at hx ⊢;rw [lift_len];exact hx
     |some x =>
      rw [lift_get hx];congr 1
      cases hc:l.contains r with
      |true =>
       simp only
       cases hbit:p.2.dR.testBit (posN l r) with
       |false=>rfl
       |true =>
        have:(M.lift l p.2).dR.testBit r=true:=foldbits_mem _ _ _ (by
         simp only [List.mem_filter]
         exact ⟨by simpa using hc,hbit⟩)
        rw [this] at hb;cases hb
      |false =>
       simp only
       have:(Nat.ble M.cur r && Nat.blt (r-M.cur+l.length) p.2.roots.length)=false:=by
        rw [Bool.and_eq_false_iff];rcases hr with hr|hr
        ·left
         cases h:Nat.ble M.cur r with
         |false=>rfl
         |true=>rw [Nat.ble_eq] at h;omega
        ·right
         cases h:Nat.blt (r-M.cur+l.length) p.2.roots.length with
         |false=>rfl
         |true =>
          rw [Nat.blt_eq] at h;omega
       rw [this]
   ·exact Ends.stuck
  ·exact Ends.stuck
 ·exact Ends.stuck
theorem markK_ends{n:Nat}{b:Bool}{x:C}{M:Mem}:Ends n M (markK b x M endV):=by
 unfold markK;split
 ·split
  ·exact Ends.ok ((Touch.set _ _ _).le (Nat.zero_le _))
  ·exact Ends.stuck
 ·exact Ends.stuck
theorem stepV_ends(E:Env)(ρ:Operand->AV)(hρ:∀ g,ρ (.func g)=.c (.fn g []))(M:Mem)(o:Oper):Ends (newsOf E o) M (stepV E ρ M o endV):=by
 unfold stepV;split
 ·exact Ends.val
 ·exact Ends.val
 ·split
  ·exact pickK_ends
  ·exact Ends.stuck
 ·rename_i ho;split
  ·split
   ·exact Ends.ok ((Touch.push _ _).le (by simp [newsOf,ho]))
   ·exact Ends.stuck
  ·split
   ·exact Ends.ok ((Touch.push _ _).le (by simp [newsOf,ho]))
   ·exact Ends.stuck
 ·rename_i ho;split
  ·exact Ends.ok ((Touch.push _ _).le (by simp [newsOf,ho]))
  ·exact Ends.stuck
 ·split
  ·split
   ·exact Ends.val
   ·exact Ends.stuck
  ·exact Ends.stuck
 ·rename_i ho;split
  ·split
   ·split
    ·split
     ·split
      ·rename_i hg;exact Ends.ok (((getAll_touch _ _ hg).trans0 (Touch.push _ _)).le (by simp [newsOf,ho]))
      ·exact Ends.stuck
     ·exact Ends.stuck
    ·exact Ends.stuck
   ·exact Ends.stuck
  ·exact Ends.stuck
 ·split
  ·unfold loadK;split
   ·split
    ·split<;>first|exact Ends.val|exact Ends.stuck
    ·split<;>first|exact Ends.val|exact Ends.stuck
    ·exact Ends.stuck
   ·split<;>first|exact Ends.val|exact Ends.stuck
   ·split
    ·refine Ends.idx λx=>?_
     split<;>first|exact Ends.val|exact Ends.stuck
    ·refine Ends.need ?_
     split<;>first|exact Ends.val|exact Ends.stuck
    ·exact Ends.stuck
   ·exact Ends.stuck
  ·exact Ends.stuck
 ·split
  ·unfold storeK;split
   ·split
    ·split
     ·exact Ends.ok ((Touch.set _ _ _).le (Nat.zero_le _))
     ·exact Ends.stuck
    ·exact Ends.stuck
   ·split
    ·refine Ends.idx λx=>?_;split
     ·split
      ·rename_i hg;exact Ends.ok (((Touch.set _ _ _).trans0 ((get_touch _ hg).trans0 (Touch.set _ _ _))).le (Nat.zero_le _))
      ·exact Ends.stuck
     ·exact Ends.stuck
    ·refine Ends.need ?_;split
     ·exact Ends.ok ((Touch.set _ _ _).le (Nat.zero_le _))
     ·exact Ends.stuck
    ·exact Ends.stuck
   ·exact Ends.stuck
  ·exact Ends.stuck
 ·split<;>first|exact Ends.val|exact Ends.stuck
 ·split
  ·exact Ends.val.need
  ·exact binK_ends
 ·split<;>first|exact Ends.val|exact Ends.stuck
 ·rename_i ho;split
  ·split<;>first|exact Ends.val|exact Ends.stuck
  ·split
   ·exact Ends.val
   ·rename_i hd;split
    ·exact Ends.ok ((Touch.push _ _).le (by simp [newsOf,ho,hd]))
    ·exact Ends.stuck
   ·exact Ends.stuck
  ·split<;>first|exact Ends.val|exact markK_ends
  ·exact Ends.stuck
 ·split<;>first|exact Ends.val|exact Ends.stuck
 ·rename_i ho;split
  ·split
   ·split
    ·exact (Ends.ok ((Touch.push _ _).le (by simp [newsOf,ho]))).need
    ·exact Ends.stuck
   ·exact Ends.stuck
  ·exact Ends.stuck
 ·rename_i t _ _ _ ho;split
  ·rename_i hp;split
   ·unfold sliceArrK;split
    ·split
     ·split
      ·split
       ·rename_i hg;exact Ends.ok (((Touch.set _ _ _).trans0 ((getAll_touch _ _ hg).trans0 (Touch.push _ _))).le (by simp [newsOf,ho,hp]))
       ·exact Ends.stuck
      ·exact Ends.stuck
     ·exact Ends.stuck
    ·exact Ends.stuck
   ·exact Ends.stuck
  ·split
   ·split
    ·exact sliceK_ends
    ·exact Ends.stuck
   ·exact Ends.stuck
 ·split
  ·split<;>first|exact Ends.val|exact Ends.stuck
  ·exact Ends.stuck
 ·split
  ·split<;>first|exact Ends.val|exact Ends.stuck
  ·exact Ends.stuck
 ·split
  ·split<;>first|exact Ends.val|exact Ends.stuck
  ·split
   ·rename_i hb;simp only [Bool.and_eq_true,decide_eq_true_eq] at hb;have hn:=hb.2;unfold indexAddrK;split
    ·exact Ends.idx λ_=>Ends.val
    ·rename_i r w k ix hx _;rw [hx] at hn;simp only [Mem.newsAt] at hn;split
     ·exact Ends.val.need
     ·rename_i s xs foc hne hr;split
      ·exact Ends.val.need
      ·refine Ends.idxS λx=>Ends.ok (((Touch.set _ _ _).trans0 ((mk_touch _ _ _).trans1 (Touch.set _ _ _))).le ?_);rw [hr] at hn
       cases s with
       |frz e=>exact (hne e xs rfl HEq.rfl rfl).elim
       |_=>exact hn
      ·exact Ends.stuck
     ·exact Ends.idx λ_=>Ends.val
     ·rename_i s xs hr;rw [hr] at hn;exact Ends.idxS λx=>Ends.ok (((mkB_touch _ _ _).trans (Touch.push _ _)).le hn)
     ·exact Ends.stuck
    ·exact Ends.stuck
   ·exact Ends.stuck
 ·split
  ·exact Ends.idx λ_=>Ends.val
  ·exact Ends.stuck
 ·split
  ·split<;>first|exact Ends.val|exact Ends.stuck
  ·exact Ends.stuck
 ·rename_i ho;split
  ·exact Ends.ok ((Touch.push _ _).le (by simp [newsOf,ho]))
  ·exact Ends.stuck
 ·split
  ·exact lookK_ends
  ·exact Ends.stuck
 ·split
  ·exact updK_ends
  ·exact Ends.stuck
 ·split
  ·exact mapEntK_ends
  ·exact Ends.stuck
 ·exact entStoK_ends
 ·rename_i ho;split
  ·have:newsOf E o=1:=by simp [newsOf,ho]
   rw [this];exact rangeK_ends
  ·exact Ends.stuck
 ·split<;>first|exact Ends.val|exact Ends.stuck
 ·rename_i c ho;split
  ·rename_i f hc;split
   ·rename_i j xs hi;obtain ⟨c',h1,h2,_,_,h5⟩:=inlOf_spec hi;rw [ho] at h1;cases h1
    have hnews:newsOf E o=j.news:=by simp only [newsOf,ho,h2,h5]
    rw [hnews];exact inlK_ends
   ·rename_i hi;split
    ·rename_i fid caps hf;refine callK_ends λsp hs he=>?_;obtain ⟨n1,n2⟩:=newsCall_le hs;simp only [newsOf,ho,hc]
     cases f with
     |func g =>
      rw [hρ] at hf;cases hf
      have hg:(E.inls.find? λi=>i.f == fid)=none:=by
       unfold inlOf at hi;simp only [ho,hc] at hi;split at hi
       ·cases hi
       ·assumption
      rw [he] at n1;simp only [hg];exact n1
     |_=>exact n2
    ·exact Ends.stuck
  ·split
   ·split<;>first|exact Ends.val|exact Ends.stuck
   ·exact Ends.stuck
  ·rename_i hc;split
   ·split
    ·split
     ·split
      ·unfold appendK;split
       ·split
        ·rename_i hs;exact (Ends.ok (((appSrc_touch hs).trans0 (Touch.push _ _)).le (by simp [newsOf,ho,hc]))).need
        ·exact Ends.stuck
       ·split
        ·rename_i hsh;split
         ·split
          ·split
           ·rename_i hs;exact (Ends.ok (((shut_touch hsh).trans0 ((Touch.set _ _ _).trans0 ((appSrc_touch hs).trans0 (Touch.push _ _)))).le (by simp [newsOf,ho,hc]))).need
           ·exact Ends.stuck
          ·exact Ends.stuck
         ·exact Ends.stuck
        ·exact Ends.stuck
       ·exact Ends.stuck
      ·exact Ends.stuck
     ·exact Ends.stuck
    ·exact Ends.stuck
   ·exact Ends.stuck
  ·split
   ·split
    ·split
     ·split
      ·unfold copyK;split
       ·split
        ·split
         ·exact Ends.ok ((Touch.set _ _ _).le (Nat.zero_le _))
         ·exact Ends.stuck
        ·exact Ends.stuck
       ·exact Ends.stuck
      ·exact Ends.stuck
     ·exact Ends.stuck
    ·exact Ends.stuck
   ·exact Ends.stuck
  ·split
   ·split
    ·exact delK_ends
    ·exact Ends.stuck
   ·exact Ends.stuck
  ·split<;>first|exact Ends.val|exact Ends.stuck
  ·split<;>first|exact Ends.val|exact Ends.stuck
  ·exact Ends.stuck
 ·exact Ends.stuck
end Go.Mach

