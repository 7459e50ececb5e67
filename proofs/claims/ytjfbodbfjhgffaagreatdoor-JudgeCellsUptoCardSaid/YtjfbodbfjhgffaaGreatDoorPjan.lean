/-
  A part of the proofs of renlaw25.JudgeErases and renlaw25.JudgeCells: each law returns true for every input of the stated bulk and leaves its arguments as they were; no further condition.
  By an AI agent; no person has read it.
-/
import Derived.Test.YtjfbodbfjhgffaaGreatDoorPjag
import Derived.Test.YtjfbodbfjhgffaaGreatDoorPjal
import Derived.Test.YtjfbodbfjhgffaaGreatDoorPjam
import Derived.Shelf.SlSortCmp.NoneTotal
import Derived.Test.YtjfbodbfjhgffaaGreatDoorProg
set_option linter.all false
set_option linter.deprecated false
set_option maxRecDepth 10000
namespace Go.Mach
open Go.Proofs Go.Shelf Go.Sort
def globsD:Glob:={ globs with dr:=True }
theorem cmp_isNaN_int.eqD:Eqn (Q []) cmp_isNaN_int.spec .none:=eqn Tryz.f96
theorem cmp_isNaN_int.conD:Contract Tryz.prog globsD cmp_isNaN_int.spec:=cmp_isNaN_int.eqD.contract mixed (.of_specs (λsp h=>by
 cases h) rfl)
theorem cmp_Compare_int.eqD:Eqn (Q [cmp_isNaN_int.spec]) cmp_Compare_int.spec .none:=eqn Tryz.f42
theorem cmp_Compare_int.conD:Contract Tryz.prog globsD cmp_Compare_int.spec:=cmp_Compare_int.eqD.contract mixed (.of_specs (λsp h=>by
 obtain rfl:=List.mem_singleton.1 h;exact cmp_isNaN_int.conD) rfl)
theorem slices_Compare_int.eqD:Eqn (Q [cmp_Compare_int.spec]) slices_Compare_int.spec (.r (.l (.r (.l (.loop ⟨[(11,vi)],rg 4 5++rg 12 19,[],[]⟩ [(.ext 0,⟨[],rg 4 5++rg 11 20,[],[]⟩),(.ret,⟨[(4,vi)],rg 5 4++rg 11 20,[],[]⟩)] .none))))):=eqn Tryz.f17
theorem slices_Compare_int.conD:Contract Tryz.prog globsD slices_Compare_int.spec:=slices_Compare_int.eqD.contract mixed (.of_specs (λsp h=>by
 obtain rfl:=List.mem_singleton.1 h;exact cmp_Compare_int.conD) rfl)
theorem judge_Cells_1.eqD:Eqn (Q [slices_Compare_int.spec]) judge_Cells_1.spec .none:=eqn Tryz.f16
theorem judge_Cells_1.conD:Contract Tryz.prog globsD judge_Cells_1.spec:=judge_Cells_1.eqD.contract mixed (.of_specs (λsp h=>by
 obtain rfl:=List.mem_singleton.1 h;exact slices_Compare_int.conD) rfl)
abbrev Rg:Type:={ p:P3 // inRange .i64 p.1=true/\inRange .i64 p.2.1=true/\inRange .i64 p.2.2=true }
instance:Inhabited Rg:=⟨⟨(0,(0,0)),by decide,by decide,by decide⟩⟩
abbrev T3:Ty:=.pair (.int .i64) (.pair (.int .i64) (.int .i64))
def enc3(x:Rg):List Value:=[.int .i64 x.1.1,.int .i64 x.1.2.1,.int .i64 x.1.2.2]
def cf3(x y:Rg):Int:=cmp3 x.1 y.1
theorem lt_iff3(x y:Rg):ltOf cf3 x y=true ↔ lt3 x.1 y.1:=by
 unfold ltOf cf3;rw [decide_eq_true_iff];exact cmp3_lt
theorem swo3:SWO (ltOf cf3) where
 irrefl x:=by rw [Bool.eq_false_iff,ne_eq,lt_iff3];exact lt3_irr
 trans x y z h1 h2:=by rw [lt_iff3] at *;exact lt3_tr h1 h2
 ntrans x y z h1 h2:=by rw [Bool.eq_false_iff,ne_eq,lt_iff3] at *;exact ge3_tr h2 h1
theorem tot3(x y:Rg)(h1:ltOf cf3 x y=false)(h2:ltOf cf3 y x=false):x=y:=by
 rw [Bool.eq_false_iff,ne_eq,lt_iff3] at h1 h2;exact Subtype.ext (Classical.byContradiction λhn=>h2 (lt3_tot h1 hn))
theorem later{w w':World}(hs:w.heap.size<=w'.heap.size)(hk:∀ b,b < w.heap.size->w'.heap[b]?=w.heap[b]?)(hio:Io True w w'):∃ q os,w'=grow (w.drewN q) os:=by
 refine ⟨w'.drawn-w.drawn,w'.heap.extract w.heap.size w'.heap.size,?_⟩;obtain ⟨h1,h2,h3,h4⟩:=hio;have h4:=h4 trivial
 have hh:w'.heap=w.heap++w'.heap.extract w.heap.size w'.heap.size:=by
  apply Array.ext_getElem?;intro i;rcases Nat.lt_or_ge i w.heap.size with hi|hi
  ·rw [hk i hi,Array.getElem?_append_left hi]
  ·rw [Array.getElem?_append_right hi,Array.getElem?_extract];split
   ·congr 1;omega
   ·rename_i hn;rw [Array.getElem?_eq_none];omega
 unfold grow World.drewN;cases w';simp only at h1 h2 h3 h4 hh ⊢;subst h1 h2 h3;rw [<- hh];congr 1;omega
theorem frz3{w:World}{Z:Nat->Prop}{x:P3}(h:inRange .i64 x.1=true/\inRange .i64 x.2.1=true/\inRange .i64 x.2.2=true):Frz w Z T3 [.int .i64 x.1,.int .i64 x.2.1,.int .i64 x.2.2] x:=by
 simp only [Frz];exact ⟨[_],[_,_],rfl,⟨rfl,h.1⟩,[_],[_],rfl,⟨rfl,h.2.1⟩,rfl,h.2.2⟩
theorem cmpS(blk off size:Nat)(w:World)(hG:globs.holds w)(hn:globs.n<=w.heap.size)(hb:globs.n<=blk):CmpLays Tryz.prog 16 #[] enc3 3 cf3 blk off size w:=by
 intro m os dk _ x y
 have hh:∀ q,q < w.heap.size->q≠blk->(sortWorldK enc3 3 w blk off m dk os).heap[q]?=w.heap[q]?:=λq hq hqb=>by
  show ((w.heap.modify blk (onCells (putCells id off (flatK enc3 3 dk))))++os)[q]?=_;rw [Array.getElem?_append_left (by simpa using hq),Array.getElem?_modify,if_neg (Ne.symm hqb)]
 have hsz:w.heap.size<=(sortWorldK enc3 3 w blk off m dk os).heap.size:=by
  show _<=((w.heap.modify blk (onCells (putCells id off (flatK enc3 3 dk))))++os).size;simp
 have h:=judge_Cells_1.conD.run (sortWorldK enc3 3 w blk off m dk os) (λb=>b < globs.n) (λ_=>False) (λ_=>False) [.agg (enc3 x).toArray,.agg (enc3 y).toArray] (x.1,y.1) (·=cf3 x y)
  (cmp3_l x.1 y.1) ⟨globs.mono _ _ (λb hb'=>hh b (by omega) (by omega)) hG,λ_ h=>h⟩ (λb h=>by have h:b < globs.n:=h;omega) (λ_ h=>h.elim) (λ_ h=>h.elim)
  ⟨_,_,λ_=>False,λ_=>False,rfl,λ_ h=>h,λ_ h=>h,λ_ h _=>h,⟨enc3 x,rfl,rfl,frz3 x.2⟩,_,rfl,enc3 y,rfl,rfl,frz3 y.2⟩
 refine h.mono ?_;rintro e w' ⟨r,v,vals,Z',S1,S2,rfl,hr,hret,hv,_,_,_,_,_,hs,hk,hio⟩;refine ⟨?_,later hs (λb hb=>hk b hb id) hio⟩;have hret:vals=[v]:=hret;subst hret;obtain ⟨v',hv',us,hu1,hu2,hu3⟩:=hv;cases hv';have hu1:us=[v]:=hu1;subst hu1;have hu3:Frz w' Z' (.int .i64) [v] r:=hu3;simp only [Frz] at hu3;obtain ⟨hu3,_⟩:=hu3;simp only [List.cons.injEq,and_true] at hu3;rw [hu3];have hr:r=cf3 x y:=hr;rw [hr]
theorem get3{xs:List P3}(h:∀ p∈xs,inRange .i64 p.1=true/\inRange .i64 p.2.1=true/\inRange .i64 p.2.2=true):∃ d:List Rg,d.map Subtype.val=xs:=by
 refine ⟨xs.pmap Subtype.mk h,?_⟩;rw [List.map_pmap];simp
theorem sort_ok:Contract Tryz.prog globs (sort3Spec 15 16):=by
 refine ⟨⟨Tryz.f15,by kernel_rfl,by kernel_rfl,by kernel_rfl⟩,rfl,λw Z Y S args x Ψ hsat hG hZ hY hS hV=>?_⟩;obtain ⟨xs,u⟩:=x;obtain ⟨v,vs',S1,S2,rfl,hS1,hS2,hdj,⟨us,hu1,hu2,hu3⟩,hV2⟩:=hV;have hu1:us=[v]:=hu1;subst hu1;have hu3:SR w Z Y (.own (.frz T3)) [v] xs S1:=hu3;obtain ⟨v2,rfl,us2,hw1,hw2,hw3⟩:=hV2;have hw1:us2=[v2]:=hw1;subst hw1;have hw3:BR w Z (λb=>Y b\/Z b) (.clo 16 .nil) [v2] u:=hw3;simp only [BR,List.cons.injEq,and_true] at hw3;obtain ⟨_,vs,rfl,rfl⟩:=hw3;have hsat:(Res.need (decide (xs.length < 4611686018427387904)) (Res.ok ((),sort3 xs))).sat Ψ:=hsat;obtain ⟨hlen,hΨ⟩:=sat_need hsat
 have hlen:xs.length < 4611686018427387904:=by simpa using hlen
 have hΨ:Ψ ((),sort3 xs):=hΨ;simp only [SR] at hu3;obtain ⟨ℓ,hv,hℓ,⟨a1,a2,a3,a4,a5,a6⟩⟩:=hu3;simp only [List.cons.injEq,and_true] at hv;have L:Go.Proofs.SlLaysF0.n6 Tryz.prog sortLay_ren:=sortLay
 cases hb:ℓ.blk with
 |none =>
  rw [hb] at a6;obtain ⟨rfl,hcap⟩:=a6;have h0:=AnyF.slices_SortFunc_none L (ℓ.addr 0) ℓ.cap (.func (.func 16) #[] #[]) w;change Calls Tryz.prog 15 _ _ _ at h0;have hl0:ℓ.len=0:=a2
  have hvv:v=.slice (ℓ.addr 0) 0 ℓ.cap:=by rw [hv,hl0]
  subst hvv;refine h0.mono ?_;rintro e w' ⟨rfl,rfl⟩;refine ⟨_,.tuple #[],[],Z,λ_=>False,λb=>S b,rfl,hΨ,rfl,rfl,⟨_,_,λb=>S1 b,λ_=>False,rfl,hS1,λ_ h=>h.elim,λ_ _ h=>h,?_,_,_,rfl,trivial⟩,λ_ h _=>h,λb hb=>?_,λ_ h=>h,λb hb=>⟨hZ b hb,.inl hb⟩,Nat.le_refl _,λ_ _ _=>rfl,Io.refl _⟩
  ·show SR w' Z _ (.own (.frz T3)) _ (sort3 []) S1;simp only [SR];refine ⟨ℓ,by rw [hl0],hℓ,a1,by simpa [sort3] using hl0,by simp [sort3],by simpa [sort3] using a4,a5,?_⟩;rw [hb];exact ⟨by simp [sort3],hcap⟩
  ·rcases hb with hb|hb
   ·exact hb.elim
   ·exact ⟨(hS b hb).1,(hS b hb).2,.inl hb⟩
 |some b =>
  rw [hb] at a6;obtain ⟨c1,c2,N,c3,c4,c5⟩:=a6
  have c5':∀ i (h:i < xs.length),CellsAt w b (ℓ.base+i*3) [.int .i64 xs[i].1,.int .i64 xs[i].2.1,.int .i64 xs[i].2.2]/\(inRange .i64 xs[i].1=true/\inRange .i64 xs[i].2.1=true/\inRange .i64 xs[i].2.2=true):=by
   intro i hi;obtain ⟨us,d1,d2,d3⟩:=c5 i hi;have d3:Frz w Z T3 us xs[i]:=d3;simp only [Frz] at d3;obtain ⟨_,_,rfl,⟨rfl,e1⟩,_,_,rfl,⟨rfl,e2⟩,rfl,e3⟩:=d3;rw [a1] at d2;exact ⟨d2,e1,e2,e3⟩
  obtain ⟨d,hd⟩:=get3 (xs:=xs) (λp hp=>by
   obtain ⟨i,hi,rfl⟩:=List.getElem_of_mem hp
   exact (c5' i hi).2)
  have hdl:d.length=xs.length:=by rw [<- hd];simp
  have hsz2:ℓ.sz=3:=a1;have hbS:S b:=hS1 b (hℓ b c1);have hbw:b < w.heap.size:=(hS b hbS).1
  have hgn:globs.n<=w.heap.size:=by
   rcases Nat.eq_zero_or_pos globs.n with g|g
   ·omega
   ·have:=hZ (globs.n-1) (hG.2 _ (by omega));omega
  have hgb:globs.n<=b:=Nat.not_lt.1 λg=>(hS b hbS).2 (hG.2 b g);obtain ⟨cv,T,fz,f1,f2,f3⟩:=c2;rw [hsz2] at f2
  have hH:HoldsK enc3 3 w b ℓ.base d.toArray:=by
   intro j hj;rw [size_flatK] at hj
   have hj':j < xs.length*3:=by simpa [hdl] using hj
   rw [get_flatK _ _ _ _ hj]
   have hi:j / 3 < xs.length:=by omega
   have hid:j / 3 < d.length:=by omega
   obtain ⟨k1,_⟩:=c5' (j / 3) hi;have k2:=k1 (j % 3) (by simp;omega);rw [show ℓ.base+j / 3*3+j % 3=ℓ.base+j by omega] at k2
   have hx:xs[j / 3]=d[j / 3].1:=by
    have h1:xs[j / 3]?=some d[j / 3].1:=by
     have h2:(d.map Subtype.val)[j / 3]?=some d[j / 3].1:=by rw [List.getElem?_map,List.getElem?_eq_getElem hid];rfl
     rw [hd] at h2;exact h2
    rw [List.getElem?_eq_getElem hi] at h1;exact Option.some.inj h1
   have he:(d.toArray[j / 3]!)=d[j / 3]:=by rw [getElem!_pos _ _ (by simpa using hid)];simp
   refine ⟨?_,?_⟩
   ·rw [k2,he,hx]
    have hm:j % 3=0\/j % 3=1\/j % 3=2:=by omega
    rcases hm with hm|hm|hm<;>simp [hm,enc3]
   ·simp only [World.frozen?,f1];exact f3.2 _ (by omega)
  have eg:∀ args w,(callFunc 16 args).run Tryz.prog w=.ok (.enter 16 args) w:=enters_of Tryz.func16 (by kernel_rfl) rfl
  have h0:=AnyQ.slices_SortFunc_total L 3 Tryz.isAgg44 Tryz.sizeOf44 enc3 (λ_=>rfl) (λx v hv=>by simp [enc3] at hv;rcases hv with rfl|rfl|rfl<;>rfl) cf3 swo3 16 #[] b ℓ.base ℓ.cap d.toArray w eg (cmpS b ℓ.base _ w hG.1 hgn hgb) hH hbw (by simpa [hdl] using hlen) tot3
  change Calls Tryz.prog 15 _ _ _ at h0
  have hvv:v=.slice (some ⟨b,ℓ.base,none⟩) d.toArray.size ℓ.cap:=by
   rw [hv,ℓ.addr_some a5 hb,Nat.zero_mul,Nat.add_zero,a2];simp [hdl]
  subst hvv;refine h0.mono ?_;clear h0;rintro e w' ⟨rfl,m,os,hw'⟩
  have hsort:(List.mergeSort d.toArray.toList λx y=>!ltOf cf3 y x).map Subtype.val=sort3 xs:=by
   rw [<- hd]
   have k:∀ x y:Rg,(!ltOf cf3 y x)=true ↔ ge3 x.1 y.1:=λx y=>by
    rw [Bool.not_eq_true',Bool.eq_false_iff,ne_eq,lt_iff3]
   refine sort3_eq (((List.mergeSort_perm _ _)).map _) (List.pairwise_map.2 (List.Pairwise.imp (λ{a b} h=>(k a b).1 h) (List.pairwise_mergeSort (λa b c h1 h2=>?_) (λa b=>?_) _)))
   ·rw [k] at *;exact ge3_tr h1 h2
   ·rw [Bool.or_eq_true,k,k];by_cases g:lt3 b.1 a.1
    ·exact .inr λg2=>lt3_irr (lt3_tr g g2)
    ·exact .inl g
  generalize (List.mergeSort d.toArray.toList λx y=>!ltOf cf3 y x)=ds at hsort hw';have hss:∀ l:List P3,(sort3 l).length=l.length:=λl=>(perm_sort3 l).length_eq
  have hdsl:ds.length=xs.length:=by
   have:=congrArg List.length hsort;rw [hss] at this;simpa using this
  have hsz':w'.heap.size=w.heap.size+os.size:=by
   rw [hw'];show (((putRowK enc3 3 (Go.Sort.ahead w m) b ℓ.base ds.toArray).heap)++os).size=_;rw [Array.size_append];show ((Go.Sort.ahead w m).heap.modify b _).size+_=_;simp [Go.Sort.ahead]
  have hheap:∀ q,q < w.heap.size->w'.heap[q]?=(w.heap.modify b (onCells (putCells id ℓ.base (flatK enc3 3 ds.toArray))))[q]?:=by
   intro q hq;rw [hw'];show ((w.heap.modify b (onCells (putCells id ℓ.base (flatK enc3 3 ds.toArray))))++os)[q]?=_;rw [Array.getElem?_append_left (by simpa using hq)]
  have hother:∀ q,q < w.heap.size->q≠b->w'.heap[q]?=w.heap[q]?:=by
   intro q hq hqb;rw [hheap q hq,Array.getElem?_modify,if_neg (Ne.symm hqb)]
  have hblk:w'.heap[b]?=some (.cells (putCells id ℓ.base (flatK enc3 3 ds.toArray) cv) T fz):=by
   rw [hheap b hbw,Array.getElem?_modify,if_pos rfl,f1];rfl
  have hcells:∀ i (h:i < ds.length),CellsAt w' b (ℓ.base+i*3) [.int .i64 ds[i].1.1,.int .i64 ds[i].1.2.1,.int .i64 ds[i].1.2.2]:=by
   intro i hi k hk
   have hk:k < 3:=by simpa using hk
   have hfl:ds.toArray.size=ds.length:=by simp
   have hlt:i*3+k < ds.length*3:=by omega
   have hin:ℓ.base+i*3+k < cv.size:=by omega
   have he:(ds.toArray[i]!)=ds[i]:=by rw [getElem!_pos _ _ (by simpa using hi)];simp
   simp only [World.cell?,hblk];simp only [Option.isSome_none,Bool.false_eq_true,if_false,putCells,Array.getElem?_mapIdx,Array.getElem?_eq_getElem hin,Option.map_some,size_flatK];rw [if_pos (by rw [hfl];omega)];rw [get_flatK _ _ _ _ (by rw [hfl];omega),show (ℓ.base+i*3+k-ℓ.base) / 3=i by omega,show (ℓ.base+i*3+k-ℓ.base) % 3=k by omega,he]
   have hm:k=0\/k=1\/k=2:=by omega
   rcases hm with rfl|rfl|rfl<;>simp [enc3]
  refine ⟨_,.tuple #[],[],Z,λ_=>False,λb=>S b,rfl,hΨ,rfl,rfl,⟨_,_,λb=>S1 b,λ_=>False,rfl,hS1,λ_ h=>h.elim,λ_ _ h=>h,?_,_,_,rfl,trivial⟩,λ_ h _=>h,λb' hb'=>?_,λ_ h=>h,λb' hb'=>⟨by have:=hZ b' hb';omega,.inl hb'⟩,by omega,λb' hb' hn=>hother b' hb' (by rintro rfl;exact hn hbS),?_⟩
  ·show SR w' Z _ (.own (.frz T3)) _ (sort3 xs) S1;simp only [SR];refine ⟨ℓ,?_,hℓ,a1,by rw [hss];exact a2,by rw [hss];exact a3,by rw [hss];exact a4,a5,?_⟩
   ·rw [ℓ.addr_some a5 hb,Nat.zero_mul,Nat.add_zero,a2];simp [hdl]
   rw [hb];refine ⟨c1,⟨_,T,fz,hblk,by rw [hsz2];simpa [putCells] using f2,f3.1,λk hk=>f3.2 k (by simpa [putCells] using hk)⟩,λ_ _=>False,λ_ _ _ h=>h.elim,λ_ _ _ _ _ _ h=>h.elim,λi hi=>?_⟩
   have hi2:i < ds.length:=by rw [hss] at hi;omega
   have hg:(sort3 xs)[i]=ds[i].1:=by
    have:(ds.map Subtype.val)[i]'(by simpa using hi2)=(sort3 xs)[i]:=by simp only [hsort]
    rw [<- this];simp
   refine ⟨_,rfl,by rw [hsz2];exact hcells i hi2,?_⟩;show Frz w' Z T3 _ _;rw [hg];exact frz3 ds[i].2
  ·rcases hb' with hb'|hb'
   ·exact hb'.elim
   ·exact ⟨by have:=(hS b' hb').1;omega,(hS b' hb').2,.inl hb'⟩
  ·rw [hw'];exact ⟨rfl,rfl,rfl,λ_=>Nat.le_add_right _ _⟩
instance:Has (sort3Spec 15 16):=⟨sort_ok⟩
end Go.Mach

