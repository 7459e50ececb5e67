/-
  Proved here: the law renlaw12.EvalOnce returns true for every input of the stated bulk and leaves its arguments as they were; no further condition.
  By an AI agent; no person has read it.
-/
import Derived.Test.YtfmfdkbpemiocaaGreatDoorQaa
import Derived.Great.BuildSlice
import Derived.ArgAppend
import Derived.Scope
import Derived.Control
import Derived.Laws.Sem
set_option linter.all false
set_option linter.deprecated false
namespace Go.Mach
section
variable {w:World}{Z:Nat->Prop}
theorem SR.ok{Y:Nat->Prop}:∀ {s:Sh}{us:List Value}{x:s.den}{S:Nat->Prop},SR w Z Y s us x S->s.ok x=true
 |.nil,_,_,_,_=>rfl
 |.undef,_,_,_,_=>rfl
 |.kN,_,_,_,_=>rfl
 |.err,_,_,_,_=>rfl
 |.opq,_,_,_,_=>rfl
 |.sb _,_,_,_,_=>rfl
 |.frz t,us,x,_,h=>Frz.ok (show Frz w Z t us x from h)
 |.own s,_,_,_,h=>by simp only [SR] at h;obtain ⟨ℓ,_,_,h3⟩:=h;exact h3.2.2.2.1
 |.box s,_,_,_,h=>by simp only [SR] at h;obtain ⟨_,_,_,_,_,_,_,_,_,_,h7⟩:=h;exact SR.ok (s:=s) h7
 |.map _ _,_,_,_,_=>rfl
 |.clo f s,_,_,_,h=>by simp only [SR] at h;obtain ⟨_,_,_,h2⟩:=h;exact SR.ok (s:=s) h2
 |.seq a b,_,_,_,h=>by
  simp only [SR] at h;obtain ⟨_,_,_,_,_,_,_,_,h5,h6⟩:=h;simp only [Sh.ok,SR.ok (s:=a) h5,SR.ok (s:=b) h6,Bool.and_self]
 |.bor s,_,_,_,h=>by
  simp only [SR] at h;exact brok h
where
 brok {V:Nat->Prop}:∀ {s:Sh}{us:List Value}{x:s.den},BR w Z V s us x->s.ok x=true
 |.nil,_,_,_=>rfl
 |.undef,_,_,_=>rfl
 |.kN,_,_,_=>rfl
 |.err,_,_,_=>rfl
 |.opq,_,_,_=>rfl
 |.sb _,_,_,_=>rfl
 |.frz t,us,x,h=>Frz.ok (show Frz w Z t us x from h)
 |.own s,_,_,h=>by simp only [BR] at h;obtain ⟨_,_,_,_,h3,_⟩:=h;exact h3
 |.box s,_,_,h=>by simp only [BR] at h;obtain ⟨_,_,_,_,_,_,_,h7⟩:=h;exact brok (s:=s) h7
 |.map _ _,_,_,_=>rfl
 |.clo f s,_,_,h=>by simp only [BR] at h;obtain ⟨_,_,_,h2⟩:=h;exact brok (s:=s) h2
 |.seq a b,_,_,h=>by
  simp only [BR] at h;obtain ⟨_,_,_,h5,h6⟩:=h;simp only [Sh.ok,brok (s:=a) h5,brok (s:=b) h6,Bool.and_self]
 |.bor s,_,_,h=>by
  simp only [BR] at h;exact brok (s:=s) h
theorem Ad{β:Type}{s:Sh}{xs:List s.den}{i:Int}{k:s.den->Res β}{Φ:β->Prop}(h:(Res.cO s xs i k).sat Φ) :
  0<=i/\∃ hi:i.toNat < xs.length,(s.ok xs[i.toNat]=true->(k xs[i.toNat]).sat Φ):=by
 unfold Res.cO at h;split at h
 ·rename_i h0;refine ⟨by simpa using h0,?_⟩;split at h
  ·rename_i x hx;obtain ⟨hi,rfl⟩:=List.getElem?_eq_some_iff.1 hx;exact ⟨hi,λhok=>sw h hok⟩
  ·exact h.elim
 ·exact h.elim
end
section
variable {B:gT}{E:Env}{st:St}{o:Oper}{a:Act}{w:World}{Z:Nat->Prop}{μ:bS}{Φ:St->Prop}
theorem oA.free{n:Nat}(hF:oA st n μ):mg st.mem μ n:=hF
theorem mg.Jk{m:Mem}{n r:Nat}{x y:cu}(hF:mg m μ n)(hr:m.roots[r]?=some x)(hx:x≠.dead):mg (m.set r y) μ n:=λk hk=>by
 obtain ⟨h1,h2⟩:=hF k hk;refine ⟨h1,?_⟩
 have:r≠m.cur+k:=by rintro rfl;rw [hr] at h2;cases h2;exact hx rfl
 show (m.roots.set r y)[m.cur+k]?=_;rw [List.getElem?_set_ne this];exact h2
theorem lp(hR:Rel B st a w Z μ){n:Nat}{m':Mem}{w':World}{Z':Nat->Prop}{μ':bS}{x:AV}{v:Value}(hrun:(execOp a.eval o).run E.P w=.ok (.value v) w')
  (hm:bV B m' w' Z' μ') (hw:bX Z w w') (hz:∀ b,Z b->Z' b) (he:dW μ μ') (hx:AR w' Z' μ' x v) (hΦ:Φ (st.with o.dst x m')) (hl:m'.roots.length=st.mem.roots.length)
  (hout:∀ r,(r < st.mem.cur\/st.mem.cur+n<=r)->μ r=none->μ' r=none):o.wp E.P a w (Nxt B st n Z μ Φ) (λ_ _ _=>False):=by
 refine pb hrun ⟨_,Z',μ',hR.put hm hw hz he o.dst hx,hΦ,?_,?_,hout,hz,he⟩
 ·cases o.dst<;>exact hl
 ·cases o.dst<;>rfl
theorem Ho(hR:Rel B st a w Z μ){n:Nat}{m':Mem}{w':World}{Z':Nat->Prop}{μ':bS}(hrun:(execOp a.eval o).run E.P w=.ok .skip w')
  (hm:bV B m' w' Z' μ') (hw:bX Z w w') (hz:∀ b,Z b->Z' b) (he:dW μ μ') (hΦ:Φ (st.with o.dst (.c .undef) m')) (hl:m'.roots.length=st.mem.roots.length)
  (hout:∀ r,(r < st.mem.cur\/st.mem.cur+n<=r)->μ r=none->μ' r=none):o.wp E.P a w (Nxt B st n Z μ Φ) (λ_ _ _=>False):=by
 refine tV hrun ⟨_,Z',μ',hR.put hm hw hz he o.dst (AR.undef _),hΦ,?_,?_,hout,hz,he⟩
 ·cases o.dst<;>exact hl
 ·cases o.dst<;>rfl
theorem vh(hR:Rel B st a w Z μ){n:Nat}(hF:oA st n μ){t:TypeId}{x i:Operand}(ho:o.op=.indexAddr t x i)(hna:ve E.P t=none)(hn:du E o<=n)(h:(step E st o Res.ok).sat Φ) :
  o.wp E.P a w (Nxt B st n Z μ Φ) (λ_ _ _=>False):=by
 by_cases hc1:∃ r w' s xs,val st x=.c (.ref r w')/\st.mem.roots[r]?=some (.arr s xs none)/\s.wG=false
 ·obtain ⟨r,wd,s,xs,hx,hr,hs⟩:=hc1;simp only [step,fa,ho,hna] at h;split at h
  case h_2=>exact h.elim
  rename_i ht;simp only [Bool.and_eq_true,decide_eq_true_eq] at ht;obtain ⟨ht,hnews⟩:=ht;have hX:=hR.val x;have hI:=hR.val i;rw [hx] at hX h ht hnews;generalize hqi:val st i=I at h hI;simp only [mi] at h;split at h
  case h_3=>exact h.elim
  ·rename_i e;simp at e
  rename_i r' w' k ix he;cases he
  have hnn:s.news<=n:=by
   refine Nat.le_trans ?_ (Nat.le_trans hnews hn);simp only [Mem.newsAt,hr]
   cases s<;>simp [Sh.wG] at hs ⊢<;>exact Nat.le_refl _
  have hset:(Res.cO s xs ix λx=>match s.mk x (st.mem.set r .dead) with
    |(cs,m')=>(Res.ok (st.with o.dst (.c (.nc r ix.toNat 0)) (m'.set r (.arr s xs (some ⟨ix.toNat,cs⟩)))))).sat Φ/\wd=.full:=by
   rw [hr] at h
   cases s<;>simp [Sh.wG] at hs<;>(cases wd<;>first|exact ⟨h,rfl⟩|exact h.elim)
  obtain ⟨hh,rfl⟩:=hset;clear h;obtain ⟨hge,hi,h⟩:=Ad hh;clear hh;obtain ⟨hI1,hI2⟩:=hI;obtain ⟨el,e1,e2,e3⟩:=oT ht;obtain ⟨ℓ,m1,m2⟩:=hX;obtain ⟨ℓ',h5,h6,h7⟩:=hR.mem.rt r _ hr (by simp);rw [m1] at h5;cases h5;have h7':=h7;obtain ⟨q1,q2,q3,q4,q0,q5⟩:=h7
  rw [show st.mem.sz? r=s.cells from II hr] at e2 e3
  cases hb:ℓ.blk with
  |none=>rw [hb] at q5;obtain ⟨rfl,_⟩:=q5;simp at hi
  |some b =>
   rw [hb] at q5;obtain ⟨k1,k2,N,k3,k4,k5⟩:=q5;obtain ⟨us,j1,j2,j3⟩:=k5 ix.toNat hi;have j3:SR w Z B.Y s us xs[ix.toNat] (N ix.toNat):=j3;obtain ⟨t1,t2⟩:=lz hR.mem (cq.none B st.mem w Z μ) hr m1 rfl;have hfree:mg (st.mem.set r .dead) μ s.news:=(mg.Jk (oA.free hF) hr (by simp)).mono hnn;obtain ⟨⟨μ1,g1,g2,g3,g4⟩,_⟩:=lu s t1 t2 hfree j3 (λd hd=>.inr (k3 _ hi d hd).1)
   have hrc:r < st.mem.cur\/st.mem.cur+s.news<=r:=by
    rcases Nat.lt_or_ge r st.mem.cur with h'|h'
    ·exact .inl h'
    ·right;rcases Nat.lt_or_ge r (st.mem.cur+s.news) with h''|h''
     ·have:=(hF (r-st.mem.cur) (by omega)).2
      rw [show st.mem.cur+(r-st.mem.cur)=r from by omega,hr] at this
      cases this
     ·exact h''
   obtain ⟨o1,o2⟩:=g4.old r hrc;have hlt:r < st.mem.roots.length:=(List.getElem?_eq_some_iff.1 hr).1
   have hdead:(s.mk xs[ix.toNat] (st.mem.set r .dead)).2.roots[r]?=some .dead:=by
    rw [o2];simp [Mem.set,hlt]
   have hμ1:μ1 r=some ℓ:=o1.trans m1
   let ℓ2:Loc:={ ℓ with S:=λd=>ℓ.S d/\¬ N ix.toNat d }
   have hext:=dW.CC (S:=ℓ2.S) hμ1
   have hrun:(execOp a.eval o).run E.P w=.ok (.value (.pointer (some ⟨b,ℓ.base+ix.toNat*ℓ.sz,none⟩))) w:=by
    have hv:a.eval x=.slice (ℓ.addr 0) ℓ.len ℓ.cap:=m2;rw [ℓ.nX q0 hb,Nat.zero_mul,Nat.add_zero] at hv
    simp only [execOp,ho,hv,show a.eval i=_ from hI1]
    have:=s9 (w:=w) (P:=E.P) (b:=b) (p:=ℓ.base) (len:=ℓ.len) (cap:=ℓ.cap) (k:=k) e1 (by omega) hge (show ix.toNat < ℓ.len by omega);simp [this,q1,e2]
   obtain ⟨p1,p2⟩:=uc (x:=.arr s xs (some ⟨ix.toNat,(s.mk xs[ix.toNat] (st.mem.set r .dead)).1⟩)) (ℓ:=ℓ2) g1 g2 hdead hext ⟨λf hf=>by cases hf;exact hi,by
    refine ⟨q1,q2,q3,q4,q0,?_⟩
    rw [show ℓ2.blk=some b from hb]
    have hnb:¬ N ix.toNat b:=λh=>(k3 _ hi b h).2 rfl
    refine ⟨⟨k1,hnb⟩,k2,λj=>if ix.toNat=j then λ_=>False else N j,λj hj d hd=>?_,λj k hj hk hjk d hd hd'=>?_,λj hj=>?_⟩
    ·dsimp only at hd;split at hd
     ·exact hd.elim
     ·rename_i hne;exact ⟨⟨(k3 j hj d hd).1,λh'=>k4 _ j hi hj hne d h' hd⟩,(k3 j hj d hd).2⟩
    ·dsimp only at hd hd';split at hd
     ·exact hd.elim
     ·split at hd'
      ·exact hd'.elim
      ·exact k4 j k hj hk hjk d hd hd'
    ·by_cases hij:ix.toNat=j
     ·subst hij;exact ⟨us,j1,j2,by simp only [ElR,if_true];exact g3.mono (bX.refl _ _) (λ_ h=>h) hext⟩
     ·obtain ⟨us',n1,n2,n3⟩:=k5 j hj
      exact ⟨us',n1,n2,by simp only [ElR,if_neg hij];exact n3⟩⟩ (λ_ d hd=>⟨.inr hd.1,hd.2⟩)
   refine lp (x:=.c (.nc r ix.toNat 0)) hR hrun p1 (bX.refl _ _) (λ_ h=>h) (g4.ext.trans hext) ⟨ℓ2,b,bS.jI _ _ _,hb,by show ix.toNat < ℓ.len;omega,by simp [ℓ2]⟩ (h j3.ok) ?_ λr' hr' hμ=>?_
   ·show (List.set _ _ _).length=_;rw [List.length_set,g4.len];simp [Mem.set]
   ·have hne:r'≠r:=by rintro rfl;rw [m1] at hμ;cases hμ
    rw [bS.lh _ _ hne,(g4.old r' (by show r' < st.mem.cur\/st.mem.cur+s.news<=r';omega)).1];exact hμ
 ·by_cases hc2:∃ r w' s xs,val st x=.c (.ref r w')/\st.mem.roots[r]?=some (.bor s xs)
  ·obtain ⟨r,wd,s,xs,hx,hr⟩:=hc2;simp only [step,fa,ho,hna] at h;split at h
   case h_2=>exact h.elim
   rename_i ht;simp only [Bool.and_eq_true,decide_eq_true_eq] at ht;obtain ⟨ht,hnews⟩:=ht;have hX:=hR.val x;have hI:=hR.val i;rw [hx] at hX h ht hnews;generalize hqi:val st i=I at h hI;simp only [mi] at h;split at h
   case h_3=>exact h.elim
   ·rename_i e;simp at e
   rename_i r' w' k ix he;cases he;rw [hr] at h;simp only [Mem.newsAt,hr] at hnews;have hnn:s.news+1<=n:=Nat.le_trans hnews hn;obtain ⟨hge,hi,h⟩:=Ad h;obtain ⟨hI1,hI2⟩:=hI;obtain ⟨el,e1,e2,e3⟩:=oT ht;obtain ⟨ℓ,m1,m2⟩:=hX;obtain ⟨ℓ',h5,h6⟩:=hR.mem.rt r _ hr (by simp);rw [m1] at h5;cases h5;rw [HZ hr] at e2 e3
   obtain ⟨⟨q,cap,p1,p2,p3⟩,_⟩:=RdR.win (show RdR _ _ _ _ _ _ _ from h6) m2
   rcases p3 with p3|⟨b,p,rfl,p5,p6⟩
   ·rw [p3] at hi;simp at hi
   ·obtain ⟨us,j1,j2,j3⟩:=p6 ix.toNat hi;have hfree:mg st.mem μ (s.news+1):=(oA.free hF).mono hnn;obtain ⟨⟨μ1,g1,g2,g3,g4⟩,_⟩:=oK s hR.mem (cq.none B st.mem w Z μ) hfree.left j3;have hf1:=mg.right (b:=1) hfree g4;obtain ⟨f1,f2⟩:=hf1 0 (by omega);rw [Nat.add_zero] at f1 f2;obtain ⟨d1,d2⟩:=jv (x:=.ql (s.mkB (wd.of (xs:List s.den))[ix.toNat] st.mem).1) (ℓ:=⟨some b,p+ix.toNat*s.cells,0,0,0,λ_=>False,none⟩) g1 g2 f2 f1 ⟨b,rfl,p5,us,j2,g3.mono (bX.refl _ _) (λ_ h=>h) (dW.set f1)⟩ (λh=>by simp [cu.jE] at h);have hg:=g4.trans (Grow.push (ℓ:=⟨some b,p+ix.toNat*s.cells,0,0,0,λ_=>False,none⟩) (x:=.ql (s.mkB (wd.of (xs:List s.den))[ix.toNat] st.mem).1) hf1)
    have hrun:(execOp a.eval o).run E.P w=.ok (.value (.pointer (some ⟨b,p+ix.toNat*s.cells,none⟩))) w:=by
     simp only [execOp,ho,show a.eval x=_ from p1,show a.eval i=_ from hI1]
     have:=s9 (w:=w) (P:=E.P) (b:=b) (p:=p) (len:=(wd.of xs).length) (cap:=cap) (k:=k) e1 (by omega) hge hi;simp [this,e2]
    refine lp (x:=.c (.ptr (s.mkB (wd.of (xs:List s.den))[ix.toNat] st.mem).2.cur 0)) hR hrun d1 (bX.refl _ _) (λ_ h=>h) hg.ext ⟨_,b,bS.jI _ _ _,rfl,by simp⟩ (h (SR.ok.brok j3)) hg.len λr' hr' hμ=>?_;rw [(hg.old r' (by omega)).1];exact hμ
  ·refine rU hR n ho hna h (λr w' s xs hx hr=>?_) (λr w' s xs hx hr=>hc2 ⟨r,w',s,xs,hx,hr⟩)
   cases hs:s.wG with
   |true=>rfl
   |false=>exact absurd ⟨r,w',s,xs,hx,hr,hs⟩ hc1
end
end Go.Mach

namespace Go.Mach
section
variable {B:gT}{E:Env}{st:St}{o:Oper}{a:Act}{w:World}{Z:Nat->Prop}{μ:bS}{Φ:St->Prop}
theorem cq.ny{B:gT}{m:Mem}{F:Nat->Prop}(hM:bV B m w Z μ)(hF:cq B m w Z μ F):∀ b,F b->¬ B.Y b:=λb hb hy=>by
 have h1:=(hF.ok b hb).2.2;have h2:=hM.ny b hy;rcases h1 with h1|h1
 ·omega
 ·exact h2.2 h1
theorem AN(hR:Rel B st a w Z μ)(n:Nat){T:TypeId}{x y:Operand}{r i off:Nat}{e:Ty}{xs:List e.den}(ho:o.op=.store T x y)(hx:val st x=.c (.nc r i off))
  (hr:st.mem.roots[r]?=some (.arr (.frz e) xs none))
  (hk:kindOk E.P T=true) (hreal:(val st y).real=true) (hlen:(val st y).cells.length=E.P.cellsOf T) (hu:((val st y).cells.any C.nM)=false)
  (hi:i < xs.length){cs':List C}(hs:np (e.flat xs[i]) off (val st y).cells=some cs'){z:e.den}{m':Mem}(hg:(Sh.frz e).get cs' (st.mem.set r .dead)=some (z,[],m'))
  (hΦ:Φ (st.with o.dst (.c .undef) (m'.set r (.arr (.frz e) (xs.set i z) none)))) :
  o.wp E.P a w (Nxt B st n Z μ Φ) (λ_ _ _=>False):=by
 have hX:=hR.val x;rw [hx] at hX;obtain ⟨ℓ,b,m1,m2,m3,m4⟩:=hX;obtain ⟨ws,v1,v2⟩:=(hR.val y).real hreal;obtain ⟨ℓ',h5,h6,h7⟩:=hR.mem.rt r _ hr (by simp);rw [m1] at h5;cases h5;have h7':=h7;obtain ⟨q1,q2,q3,q4,q0,q5⟩:=h7;rw [m2] at q5;obtain ⟨k1,k2,N,k3,k4,k5⟩:=q5;obtain ⟨us,j1,j2,j3⟩:=k5 i hi;have j3:Frz w Z e us xs[i]:=j3;obtain ⟨t1,t2⟩:=lz hR.mem (cq.none B st.mem w Z μ) hr m1 rfl;obtain ⟨s1,rfl⟩:=qN hs;have hws:ws.length=(val st y).cells.length:=v2.1.symm;have hcs:=(j3.flat (μ:=μ)).np v2 off;obtain ⟨⟨Z',F',S1,us1,us2,e1,e2,e3,e4,e5,e6,e7,e8,e9⟩,ek⟩:=lq (.frz e) t1 t2 hcs hg;have:=e9.mI;subst this;rw [List.append_nil] at e1;have hbF:F' b:=e6 b (.inr k1)
 have hfl:(e.flat xs[i]).length=e.cells:=by rw [(j3.flat (μ:=μ)).1];exact j1
 have hin:=xM (sz:=ℓ.sz) m3 (show ℓ.len<=ℓ.cap by omega);have q1':ℓ.sz=e.cells:=q1;have hrun:=qd (P:=E.P) (p:=ℓ.base+i*ℓ.sz+off) hk v1 (by omega) k2 (by omega) (v2.su hu);have hOth:∀ c,c≠b->(w.setCells b (ℓ.base+i*ℓ.sz+off) ws).heap[c]?=w.heap[c]?:=λc hc=>ku b hc _ _ _;obtain ⟨d1,d2⟩:=oF (hio:=nY _ _ _ _) (w':=w.setCells b (ℓ.base+i*ℓ.sz+off) ws) e3 e4 (λc _ hc=>hOth c λe=>hc (e▸hbF)) (by rw [mV];exact Nat.le_refl _);have hlt:r < st.mem.roots.length:=(List.getElem?_eq_some_iff.1 hr).1;have hdead:m'.roots[r]?=some .dead:=ek.dead r (by simp [Mem.set,hlt]);have hSame:bX Z w (w.setCells b (ℓ.base+i*ℓ.sz+off) ws):=λc hc=>hOth c (λe=>(e4.ok b hbF).1 (e5 b (e▸hc)));have hSame':bX Z' w (w.setCells b (ℓ.base+i*ℓ.sz+off) ws):=λc hc=>hOth c (λe=>(e4.ok b hbF).1 (e▸hc));have hext:=dW.CC (S:=ℓ.S) m1
 obtain ⟨p1,p2⟩:=uc (x:=.arr (.frz e) (xs.set i z) none) (ℓ:=ℓ) d1 d2 hdead hext ⟨(λf hf=>by cases hf),by
  have:=h7'.write (R':=ElR (w.setCells b (ℓ.base+i*ℓ.sz+off) ws) Z' B.Y (μ.set r ℓ) (.frz e) none) (xs':=xs.set i z) m2 hi (by simp) (show off+ws.length<=(Sh.frz e).cells by show _<=e.cells;omega) ?_ ?_
  ·rwa [show (xs.set i z).length=xs.length from by simp]
  ·intro us' S hi' hus hc _ _;have:us'=us:=hc.unique j2 (by rw [hus,j1]);subst this;show Frz _ Z' e _ _;rw [List.getElem_set_self];have e8':Frz w Z' e us1 z:=e8;rw [<- e1] at e8';exact e8'.same hSame' (λ_ h=>h)
  ·intro j us' S hj hj' hij hRR _;show Frz _ Z' e _ _;rw [List.getElem_set_ne (Ne.symm hij)]
   exact (show Frz w Z e us' xs[j] from hRR).same hSame e5⟩ (λ_ d hd=>.inl (e6 d (.inr hd)))
 have hrun':(execOp a.eval o).run E.P w=.ok .skip (w.setCells b (ℓ.base+i*ℓ.sz+off) ws):=by
  simp only [execOp,ho,m4];simp [Instr.storeAt,Instr.sureAddr,hrun]
 refine Ho hR hrun' p1 hSame e5 hext hΦ ?_ λr' hr' hμ=>?_
 ·show (List.set _ _ _).length=_;rw [List.length_set,ek.len];simp [Mem.set]
 ·have hne:r'≠r:=by rintro rfl;rw [m1] at hμ;cases hμ
  rw [bS.lh _ _ hne];exact hμ
theorem Ax(hR:Rel B st a w Z μ)(n:Nat){T:TypeId}{x y:Operand}(ho:o.op=.store T x y)(h:(step E st o Res.ok).sat Φ) :
  o.wp E.P a w (Nxt B st n Z μ Φ) (λ_ _ _=>False):=by
 simp only [step,fa,ho] at h;split at h
 case h_2=>exact h.elim
 rename_i hb;simp only [Bool.and_eq_true,Bool.not_eq_true',beq_iff_eq] at hb;obtain ⟨hk,hreal,hlen,hu⟩:=hb;unfold uy at h;split at h
 ·rename_i r off hx;split at h
  case h_2=>exact h.elim
  rename_i cs hr;split at h
  case h_2=>exact h.elim
  rename_i cs' hs;exact EY hR n ho hx hr hk hreal hlen hu hs h
 ·rename_i r i off hx;split at h
  ·rename_i e xs hr;obtain ⟨h0,hi,h⟩:=uH h
   have hi':i < xs.length:=by simpa using hi
   have hok:e.ok xs[(i:Int).toNat]=true:=by
    obtain ⟨ℓ',h5,h6,h7⟩:=hR.mem.rt r _ hr (by simp);obtain ⟨q1,q2,q3,q4,q0,q5⟩:=h7
    cases hb:ℓ'.blk with
    |none=>rw [hb] at q5;obtain ⟨rfl,_⟩:=q5;simp at hi
    |some b =>
     rw [hb] at q5;obtain ⟨k1,k2,N,k3,k4,k5⟩:=q5;obtain ⟨us,j1,j2,j3⟩:=k5 _ hi
     exact Frz.ok (show Frz w Z e us xs[(i:Int).toNat] from j3)
   have h:=h hok;simp only [Int.toNat_natCast] at h;split at h
   case h_2=>exact h.elim
   rename_i cs' hs;split at h
   case h_2=>exact h.elim
   rename_i z m' hg;exact AN hR n ho hx hr hk hreal hlen hu hi' hs hg h
  ·rename_i s xs f hr;obtain ⟨hfi,h⟩:=jB h
   have hfi:f.i=i:=by simpa using hfi
   split at h
   case h_2=>exact h.elim
   rename_i cs' hs;exact FZ hR n ho hx hr hfi hk hreal hlen hu hs h
  ·exact h.elim
 ·exact h.elim
theorem xR(us:List Value):∀ (n:Nat),∃ vs:List Value,((Array.range (n*us.length)).map (us.toArray[· % us.toArray.size]!))=vs.toArray/\∀ {cs:List C},CRs w Z μ cs us->CRs w Z μ (repl n cs) vs
 |0=>⟨[],by simp,λ_=>CRs.nil⟩
 |n+1=>by
  obtain ⟨vs,h1,h2⟩:=xR us n;refine ⟨us++vs,?_,λhc=>hc.append (h2 hc)⟩;apply Array.ext';have h1':=congrArg Array.toList h1;simp only [Array.toList_map,Array.toList_range] at h1' ⊢;refine List.ext_getElem ?_ λk k1 k2=>?_
  ·have:=congrArg List.length h1';simp at this ⊢;rw [<- this,Nat.add_mul];omega
  ·simp at k1;by_cases hk:k < us.length
   ·simp [List.getElem_append_left hk,Nat.mod_eq_of_lt hk,hk]
   ·have hpos:0 < us.length:=by
     rcases Nat.eq_zero_or_pos us.length with h|h
     ·rw [h] at k1;simp at k1
     ·exact h
    have e:k=us.length+(k-us.length):=by omega
    have h3:(k-us.length) < n*us.length:=by rw [Nat.add_mul] at k1;omega
    have h4:=List.getElem_of_eq h1' (i:=k-us.length) (by simpa using h3);simp only [List.getElem_map,List.getElem_range] at h4 ⊢;rw [List.getElem_append_right (by omega),<- h4];congr 1
    conv=>lhs;rw [e]
    simp [Nat.add_mod_left]
theorem vf{P:Program}(w:World)(t e:TypeId)(ie:TypeInfo)(hu:P.underlying t=some (.slice e))(hie:P.info? e=some ie) :
  (Instr.buildSlice t 0 #[]).run P w=.ok (.slice (some ⟨w.heap.size,0,none⟩) 0 0) (w.alloc (.cells #[] e)):=by
 have e0:Array.range 0=#[]:=rfl;simp [Instr.buildSlice,run_underlying hu,sizeOf,typeInfo,hie,newRow,Instr.fill,e0]
theorem vB(hR:Rel B st a w Z μ){n:Nat}(hF:oA st n μ)(hn:1<=n){T:TypeId}{k:Nat}{parts:Array (Nat×Operand)}(ho:o.op=.buildSlice T k parts)(h:(step E st o Res.ok).sat Φ) :
  o.wp E.P a w (Nxt B st n Z μ Φ) (λ_ _ _=>False):=by
 simp only [step,fa,ho] at h;split at h
 case h_2=>exact h.elim
 rename_i el hT;split at h
 case h_2=>exact h.elim
 rename_i s z hs hz;split at h
 case h_2=>exact h.elim
 rename_i hb;split at h
 case h_2=>exact h.elim
 rename_i cs hc;split at h
 case h_2=>exact h.elim
 rename_i xs m hg;simp only [tI,Bool.and_eq_true,beq_iff_eq,Bool.not_eq_true',beq_eq_false_iff_ne,decide_eq_true_eq] at hb;obtain ⟨b1,⟨b2,b3,b4,_⟩,b5,b6⟩:=hb;unfold elemOf at hT;split at hT
 case h_2=>cases hT
 rename_i el' hT';cases hT;unfold rR at hz;split at hz
 case h_2=>cases hz
 rename_i i hi;split at hz
 case h_2=>cases hz
 rename_i zv hzv;cases hz
 have hsz:E.P.cellsOf el=i.size:=by simp [Program.cellsOf,hi]
 obtain ⟨vs,r1,r2⟩:=xR (w:=w) (Z:=Z) (μ:=μ) zv.cells.toList k
 have hzl:zv.cells.toList.length=i.size:=by rw [<- hsz,<- b1];simp
 obtain ⟨us,f1,f2⟩:=vx hR parts.toList (r2 (so zv.cells.toList)) hc;obtain ⟨Z',F',S,g1,g2,g3,g4,g5,g6,g7,g8⟩:=rA s k hR.mem (cq.none B st.mem w Z μ) f2 hg
 have hrun:(execOp a.eval o).run E.P w=.ok (.value (.slice (some ⟨w.heap.size,0,none⟩) k k)) (w.alloc (.cells us.toArray el)):=by
  simp only [execOp,ho];by_cases hk0:k=0
  ·subst hk0
   have hpe:parts=#[]:=by
    cases hp:parts.toList with
    |nil=>simpa using hp
    |cons p ps =>
     rw [hp] at hc;simp only [List.map_cons,wJ] at hc;split at hc
     ·rename_i hb';split at hc
      ·rename_i cs1 hs1;have h1:=(qN hs1).1;simp only [Bool.and_eq_true,beq_iff_eq] at hb';simp only [repl,List.length_nil] at h1;omega
      ·cases hc
     ·cases hc
   subst hpe
   have hus:us=[]:=by
    have:=g8.1;rw [g7] at this;exact List.eq_nil_of_length_eq_zero (by simpa using this)
   subst hus;have:=vf (P:=E.P) w T el i hT' hi;simp [this]
  ·have hpos:¬ k*i.size=0:=by
    rw [Nat.mul_eq_zero];omega
   have:=run_buildSlice (P:=E.P) w T el k (parts.map λ(p:Nat×Operand)=>(p.1,a.eval p.2)) us.toArray i zv hT' hi hzv (by rw [<- hsz];omega) hpos (by
    have e1:(Array.range (k*i.size)).map (zv.cells[· % zv.cells.size]!)=vs.toArray:=by
     have:=r1;rw [hzl] at this;simpa using this
    rw [e1]
    simpa [hsz] using f1)
   simp [this]
 obtain ⟨d1,d2⟩:=oF (w':=w.alloc (.cells us.toArray el)) g1 g2 (λb hb _=>alloc_old _ _ hb) (by rw [jr];omega);obtain ⟨c1,c2⟩:=hF 0 (by omega);rw [Nat.add_zero] at c1 c2;have hcur:m.cur=st.mem.cur:=g6.cur;have c2':=g6.dead _ c2;rw [<- hcur] at c1 c2';have hSameZ:bX Z w (w.alloc (.cells us.toArray el)):=λb hb=>alloc_old _ _ (hR.mem.frz b hb).1
 have hseq:mK (w.alloc (.cells us.toArray el)) Z' B.Y s us xs S:=g8.same (λb hb=>by
  refine alloc_old _ _ ?_;rcases hb with (hb|hb)|hb
  ·exact (g1.frz b hb).1
  ·exact Nat.lt_of_lt_of_le (g1.ny b hb).1 g1.size
  ·exact (g2.ok b (g5 b hb).1).2.1) (λ_ h=>h)
 have hul:us.length=k*s.cells:=by rw [g8.1,g7]
 have harr:=hseq.arr (b:=w.heap.size) (o:=0) (cap:=k) (po w us el) (sP w us el (by omega)) (by omega) (λhS=>by have:=(g2.ok _ (g5 _ hS).1).2.1;omega) (by rw [g7];exact b6)
 obtain ⟨p1,p2⟩:=jv (x:=.arr s xs none) (ℓ:=⟨some w.heap.size,0,s.cells,xs.length,k,λd=>d=w.heap.size\/S d,none⟩) d1 d2 c2' c1 ⟨(λf hf=>by cases hf),harr⟩ (λ_ d hd=>by
  rcases hd with rfl|hd
  ·exact .inr ⟨Nat.le_refl _,by rw [jr];omega⟩
  ·exact .inl (g5 d hd).1)
 refine lp (x:=.c (.ref m.cur .full)) hR hrun p1 hSameZ g3 (dW.set c1) ⟨_,bS.jI _ _ _,?_⟩ h ?_ λr hr hμ=>?_
 ·show _=_;simp [Loc.addr,g7]
 ·simp only [Mem.push,List.length_set];exact g6.len
 ·rw [bS.lh _ _ (by omega)];exact hμ
theorem xS(hR:Rel B st a w Z μ){n:Nat}(hF:oA st n μ){t:TypeId}{x:Operand}{lo hi:Option Operand}(ho:o.op=.slice t x lo hi none){p:Nat×TypeId}(hp:ve E.P t=some p)(hn:1<=n)(h:(step E st o Res.ok).sat Φ) :
  o.wp E.P a w (Nxt B st n Z μ Φ) (λ_ _ _=>False):=by
 simp only [step,fa,ho,hp] at h;have hx:=hR.val x;obtain ⟨k,el⟩:=p;split at h
 case h_2=>exact h.elim
 unfold pJ at h;split at h
 case h_2=>exact h.elim
 rename_i r s hX hs;rw [hX] at hx;split at h
 case h_2=>exact h.elim
 rename_i cs hr;split at h
 case h_2=>exact h.elim
 rename_i hb;split at h
 case h_2=>exact h.elim
 rename_i xs m hg;simp only [tI,Bool.and_eq_true,beq_iff_eq,Bool.not_eq_true',beq_eq_false_iff_ne,decide_eq_true_eq] at hb;obtain ⟨⟨b2,b3,b4,_⟩,b6⟩:=hb
 have ht:E.P.underlying t=some (.array k el):=by
  unfold ve at hp;split at hp
  ·cases hp;assumption
  ·cases hp
 obtain ⟨ℓ,b,g1,g2,g3⟩:=hx;obtain ⟨ℓ',h5,b',h6,h7,h8,us,h9,h10⟩:=hR.mem.rt r _ hr (by simp);rw [g1] at h5;cases h5;rw [g2] at h6;cases h6;obtain ⟨t1,t2⟩:=lz hR.mem (cq.none B st.mem w Z μ) hr g1 rfl;obtain ⟨Z',F',S,k1,k2,k3,k4,k5,k6,k7,k8⟩:=rA s k t1 t2 h10 hg
 have hul:us.length=k*s.cells:=by rw [k8.1,k7]
 have hsz:=run_sizeOf (w:=w) (P:=E.P) (t:=el) (by rw [<- b2];exact b3)
 have hrun:(execOp a.eval o).run E.P w=.ok (.value (.slice (some ⟨b,ℓ.base,none⟩) k k)) w:=by
  simp only [execOp,ho,show a.eval x=_ from g3]
  simp [Instr.sliceAt,run_underlying ht,Instr.sureAddr,Instr.sliceBounds,hsz,Addr.add,Result.andThen]
 obtain ⟨c1,c2⟩:=hF 0 (by omega);rw [Nat.add_zero] at c1 c2;have hcur:m.cur=st.mem.cur:=k6.cur;have hlt:r < st.mem.roots.length:=(List.getElem?_eq_some_iff.1 hr).1
 have hrc:r≠st.mem.cur:=by rintro rfl;rw [hr] at c2;cases c2
 have c2':m.roots[m.cur]?=some .dead:=by
  rw [hcur];refine k6.dead _ ?_;simp only [Mem.set];rw [List.getElem?_set_ne hrc];exact c2
 rw [<- hcur] at c1;have hSb:¬ S b:=λhS=>(k5 b hS).2 (.inr h7);have harr:=k8.arr (b:=b) (o:=ℓ.base) (cap:=k) h9 (by rw [<- hul,<- h10.1];exact h8) (by omega) hSb (by rw [k7];exact b6)
 obtain ⟨p1,p2⟩:=jv (x:=.arr s xs none) (ℓ:=⟨some b,ℓ.base,s.cells,xs.length,k,λd=>d=b\/S d,none⟩) k1 k2 c2' c1 ⟨(λf hf=>by cases hf),harr⟩ (λ_ d hd=>by
  rcases hd with rfl|hd
  ·exact k4 _ (.inr h7)
  ·exact (k5 d hd).1)
 refine lp (x:=.c (.ref m.cur .full)) hR hrun p1 (bX.refl _ _) k3 (dW.set c1) ⟨_,bS.jI _ _ _,?_⟩ h ?_ λr hr hμ=>?_
 ·show _=_;simp [Loc.addr,k7]
 ·simp only [Mem.push,List.length_set];rw [k6.len];simp [Mem.set]
 ·rw [bS.lh _ _ (by omega)];exact hμ
end
end Go.Mach

namespace Go.Mach
section
variable {w:World}{Z:Nat->Prop}
theorem se:∀ (t:Ty) (x:t.den),((t.flat x).any C.nM)=false
 |.unit,_=>rfl
 |.int _,_=>rfl
 |.bool,_=>rfl
 |.str,_=>rfl
 |.list _,_=>rfl
 |.pair a b,x=>by simp only [Ty.flat,List.any_append,se a,se b,Bool.or_self]
 |.rose a,x=>by simp only [Ty.flat,List.any_append,se a];rfl
theorem Frz.one{t:Ty}{us:List Value}{x:t.den}(h:Frz w Z t us x):∀ u∈us,u.oneCell'=true:=(h.flat (μ:=λ_=>none)).su (se t x)
theorem SR.one{Y:Nat->Prop}:∀ {s:Sh}{us:List Value}{x:s.den}{S:Nat->Prop},s.real=true->SR w Z Y s us x S->∀ u∈us,u.oneCell'=true
 |.nil,_,_,_,_,h=>by simp only [SR] at h;subst h;simp
 |.undef,_,_,_,hr,_=>by simp [Sh.real] at hr
 |.kN,_,_,_,_,h=>by simp only [SR] at h;subst h;simp [Value.oneCell']
 |.sb _,_,_,_,_,h=>by simp only [SR] at h;obtain ⟨_,rfl,_⟩:=h;simp [Value.oneCell']
 |.err,_,_,_,_,h=>by simp only [SR] at h;obtain ⟨v,rfl,⟨_,rfl⟩|⟨_,_,_,rfl⟩⟩:=h<;>simp [Value.oneCell']
 |.opq,_,_,_,_,h=>by simp only [SR] at h;obtain ⟨v,rfl,h⟩:=h;simpa using h.2
 |.frz t,us,x,_,_,h=>Frz.one (show Frz w Z t us x from h)
 |.own s,_,_,_,_,h=>by simp only [SR] at h;obtain ⟨ℓ,rfl,_⟩:=h;simp [Value.oneCell']
 |.box s,_,_,_,_,h=>by simp only [SR] at h;obtain ⟨_,_,_,_,rfl,_⟩:=h;simp [Value.oneCell']
 |.map n s,_,_,_,_,h=>by simp only [SR] at h;obtain ⟨_,rfl,_⟩:=h;simp [Value.oneCell']
 |.clo f s,_,_,_,_,h=>by simp only [SR] at h;obtain ⟨_,_,rfl,_⟩:=h;simp [Value.oneCell']
 |.seq a b,us,x,S,hr,h=>by
  simp only [Sh.real,Bool.and_eq_true] at hr;simp only [SR] at h;obtain ⟨u1,u2,_,_,rfl,_,_,_,h5,h6⟩:=h;intro u hu;rcases List.mem_append.1 hu with hu|hu
  ·exact SR.one hr.1 h5 u hu
  ·exact SR.one hr.2 h6 u hu
 |.bor _,_,_,_,hr,_=>by simp [Sh.real] at hr
theorem mK.one{Y:Nat->Prop}{s:Sh}{us:List Value}{xs:List s.den}{S:Nat->Prop}(hr:s.real=true)(h:mK w Z Y s us xs S):∀ u∈us,u.oneCell'=true:=by
 obtain ⟨h1,N,_,_,h4⟩:=h;intro u hu;obtain ⟨k,hk,rfl⟩:=List.getElem_of_mem hu
 have hc:0 < s.cells:=by
  rcases Nat.eq_zero_or_pos s.cells with h|h
  ·rw [h] at h1;simp at h1;subst h1;simp at hk
  ·exact h
 have hi:k / s.cells < xs.length:=by
  rw [Nat.div_lt_iff_lt_mul hc];omega
 have h5:=h4 _ hi;refine SR.one hr h5 _ ?_;have h6:k % s.cells < s.cells:=Nat.mod_lt _ hc;have h7:k / s.cells*s.cells+k % s.cells=k:=Nat.div_add_mod' k s.cells;rw [List.mem_iff_getElem];refine ⟨k % s.cells,by simp;omega,?_⟩;simp only [List.getElem_take,List.getElem_drop,h7]
def ra(P:Program)(w:World)(c:Nat)(x:Value)(n:Nat)(news:List Value):Prop :=
 (Builtin.lenOf x).run P w=.ok n w/\∀ W:World,W.heap=w.heap->(Builtin.firstCells c n x).run P W=.ok news.toArray W
theorem pE{P:Program}{c:Nat}{a:Option Addr}{n cap:Nat}{news:List Value}(hl:news.length=n*c)(h:news=[]\/∃ b p,a=some ⟨b,p,none⟩/\cJ w b p news):ra P w c (.slice a n cap) n news:=by
 refine ⟨by simp [Builtin.lenOf],λW hW=>?_⟩
 have hc:∀ x:Addr,W.cell? x=w.cell? x:=λx=>by simp only [World.cell?,hW]
 cases a with
 |none =>
  rcases h with rfl|⟨b,p,h,_⟩
  ·simp [Builtin.firstCells]
  ·cases h
 |some ad =>
  refine run_firstCells_some (P:=P) W c n ad n cap news hl λj v hv=>?_;rcases h with rfl|⟨b,p,h,hcs⟩
  ·simp at hv
  ·cases h;rw [hc];exact pf hcs j v hv
theorem Ju{P:Program}(s:List UInt8):ra P w 1 (lg s) s.length ((lH s).map (Value.int .u8)):=by
 refine ⟨by simp [Builtin.lenOf,lg,qR],λW _=>?_⟩;simp only [Builtin.firstCells,lg,Sem.run_pure];congr 1;apply Array.ext';simp [lH,rv]
variable {P:Program}
theorem BQ{t u ty e:TypeId}{i:TypeInfo}(ht:P.underlying t=some (.slice e))(hu:CM P u=true)(hi:P.info? e=some i){b off sLen sCap n:Nat}{x:Value}{news:List Value}
  (hx:ra P w i.size x n news) (hl:news.length=n*i.size) (hroom:sLen+n<=sCap) (hb:jW w b (off+sCap*i.size)) (h1:∀ v∈news,v.oneCell'=true) (rest:List TypeId) :
  (Builtin.append_ (t::u::rest).toArray ty #[.slice (some ⟨b,off,none⟩) sLen sCap,x]).run P w=.ok (.slice (some ⟨b,off,none⟩) (sLen+n) sCap) (w.setCells b (off+sLen*i.size) news):=by
 have h2:(sLen+n)*i.size<=sCap*i.size:=Nat.mul_le_mul_right _ hroom;rw [Nat.add_mul] at h2;have hst:=ot (P:=P) (o:=off+sLen*i.size) hb (by omega) h1;have hf:=hx.2 w rfl;unfold CM at hu
 cases hd:P.underlying u with
 |none=>simp [hd] at hu
 |some d =>
  cases d<;>simp [hd] at hu<;>simp [Builtin.append_,run_underlying ht,run_underlying hd,sizeOf,typeInfo,hi,hx.1,hroom,hf,addr_add,hst]
theorem vP{t u ty e:TypeId}{i:TypeInfo}(ht:P.underlying t=some (.slice e))(hu:CM P u=true)(hi:P.info? e=some i){x:Value}{news:List Value}{sCap:Nat}
  (hx:ra P w i.size x 0 news) (rest:List TypeId) :
  (Builtin.append_ (t::u::rest).toArray ty #[.slice none 0 sCap,x]).run P w=.ok (.slice none 0 sCap) w:=by
 have hf:=hx.2 w rfl;unfold CM at hu
 cases hd:P.underlying u with
 |none=>simp [hd] at hu
 |some d =>
  cases d<;>simp [hd] at hu<;>simp [Builtin.append_,run_underlying ht,run_underlying hd,sizeOf,typeInfo,hi,hx.1,hf]
theorem vQ{t u ty e:TypeId}{i:TypeInfo}{z:Value}(ht:P.underlying t=some (.slice e))(hu:CM P u=true)(hi:P.info? e=some i)(hz:i.zero=some z){a:Option Addr}{sLen sCap n:Nat}{x:Value}{olds news:List Value}
  (hx:ra P w i.size x n news) (ho:ra P w i.size (.slice a sLen sCap) sLen olds) (hg:sCap < sLen+n) (h63:sLen+n<=2^47) (hfit:(sLen+n)*i.bytes<=2^47) (rest:List TypeId) :
  (Builtin.append_ (t::u::rest).toArray ty #[.slice a sLen sCap,x]).run P w=.ok (.slice (some ⟨w.heap.size,0,none⟩) (sLen+n) (grownCap w (sLen+n) sCap e))
   (w.drew.alloc (.cells (olds.toArray++news.toArray++Builtin.zeroCells z.cells (grownCap w (sLen+n) sCap e-(sLen+n))) e)):=by
 have hn:¬ (sLen+n<=sCap):=by omega
 have h63':¬ (9223372036854775807 < ((sLen:Int)+(n:Int))):=by omega
 have h48':¬ (281474976710656 < Builtin.nextslicecap (sLen+n) sCap*i.bytes):=by have:=growslice_fits hg hfit;omega
 have hf:=hx.2 w.drew rfl;have hfo:=ho.2 w.drew rfl;unfold CM at hu
 cases hd:P.underlying u with
 |none=>simp [hd] at hu
 |some d =>
  cases d<;>simp [hd] at hu <;>
   (simp [Builtin.append_,run_underlying ht,run_underlying hd,sizeOf,typeInfo,zeroValue,hi,hz,hx.1,hn,h63',h48',Question.forced,hf,hfo,newRow,grownCap]
    congr 2;apply Array.ext'
    simp [List.append_assoc])
end
end Go.Mach

namespace Go.Mach
section
variable {B:gT}{m m':Mem}{w:World}{Z:Nat->Prop}{μ:bS}{F:Nat->Prop}
theorem bS.ob{μ:bS}{r:Nat}{ℓ:Loc}(h:μ r=some ℓ):μ.set r ℓ=μ:=by
 funext s;by_cases e:s=r
 ·subst e;rw [bS.jI,h]
 ·exact bS.lh _ _ e
theorem Cw(hM:bV B m w Z μ){r:Nat}{m0:Mem}(hs:m.shut r=some m0){ℓ:Loc}(hμ:μ r=some ℓ) :
  ∃ (Z' S':Nat->Prop) (s:Sh) (xs:List s.den),m0.roots[r]?=some (.arr s xs none)/\bV B m0 w Z' (μ.set r { ℓ with S:=S' })/\(∀ b,Z b->Z' b)/\Kept m m0:=by
 unfold Mem.shut at hs;split at hs
 ·rename_i s xs f hr;split at hs
  case h_2=>cases hs
  rename_i x m1 hg;cases hs;obtain ⟨ℓ',h5,h6,h7⟩:=hM.rt r _ hr (by simp);rw [hμ] at h5;cases h5;obtain ⟨t1,t2⟩:=lz hM (cq.none B m w Z μ) hr hμ rfl;have hi:=h6 f rfl;have h7':=h7;obtain ⟨q1,q2,q3,q4,q0,q5⟩:=h7
  have hbe:∃ b,ℓ.blk=some b:=by
   cases hb:ℓ.blk with
   |none=>rw [hb] at q5;obtain ⟨rfl,_⟩:=q5;simp at hi
   |some b=>exact ⟨b,rfl⟩
  obtain ⟨b,hb⟩:=hbe;rw [hb] at q5;obtain ⟨k1,k2,N,k3,k4,k5⟩:=q5;obtain ⟨wf,j1,j2,j3⟩:=k5 f.i hi;simp only [ElR,if_true] at j3;obtain ⟨⟨Z',F',S1,us1,us2,e1,e2,e3,e4,e5,e6,e7,e8,e9⟩,ek⟩:=lq s t1 t2 j3 hg;have:=e9.mI;subst this;rw [List.append_nil] at e1;subst e1
  have key:nh w s.cells (xs.set f.i x) (fS s xs.length) (λ_ us x S=>SR w Z' B.Y s us x S) { ℓ with S:=λd=>ℓ.S d\/S1 d }:=by
   refine h7'.v8 (R':=λus x S=>SR w Z' B.Y s us x S) hi (λd hd hS=>(e7 d hd).2 (.inr hS)) (λb' hb'=>?_) λj us S hj hji hR=>?_
   ·rw [hb] at hb';cases hb';exact ⟨wf,j1,j2,e8⟩
   ·simp only [ElR,if_neg (Ne.symm hji)] at hR;exact hR.up e5
  have hlt:r < m.roots.length:=(List.getElem?_eq_some_iff.1 hr).1;have hdead:m1.roots[r]?=some .dead:=ek.dead r (by simp [Mem.set,hlt]);have hlt1:r < m1.roots.length:=(List.getElem?_eq_some_iff.1 hdead).1
  obtain ⟨p1,_⟩:=uc (x:=.arr s (xs.set f.i x) none) (ℓ:={ ℓ with S:=λd=>ℓ.S d\/S1 d }) e3 e4 hdead (dW.CC hμ) ⟨(λf hf=>by cases hf),by
   have:=key
   rwa [show fS s xs.length=fS s (xs.set f.i x).length from by simp] at this⟩ (λ_ d hd=>hd.elim (λh=>e6 d (.inr h)) λh=>(e7 d h).1)
  refine ⟨Z',_,s,xs.set f.i x,?_,p1,e5,?_⟩
  ·simp [Mem.set,hlt1]
  ·refine ⟨?_,ek.cur,λq hq=>?_⟩
   ·show (List.set _ _ _).length=_;rw [List.length_set,ek.len];simp [Mem.set]
   ·have hne:r≠q:=by rintro rfl;rw [hr] at hq;cases hq
    show (List.set _ _ _)[q]?=_;rw [List.getElem?_set_ne hne];exact ek.dead q (by simp only [Mem.set];rw [List.getElem?_set_ne hne];exact hq)
 ·rename_i s xs hr;cases hs
  exact ⟨Z,ℓ.S,s,xs,hr,by rw [show ({ ℓ with S:=ℓ.S }:Loc)=ℓ from rfl,bS.ob hμ];exact hM,λ_ h=>h,Kept.refl _⟩
 ·cases hs
theorem CJ(b:UInt8):eP .u8 (b.toNat:Int)=true:=by
 have:=b.toNat_lt;exact nQ (by have:IntKind.min .u8=0:=(by decide);omega) (by have:IntKind.max .u8=255:=(by decide);omega)
theorem A2{Y:Nat->Prop}(s:List UInt8):mK w Z Y (.frz (.int .u8)) ((lH s).map (Value.int .u8)) (lH s) (λ_=>False):=by
 refine ⟨by simp [Sh.cells,Ty.cells],λ_ _=>False,λ_ _ _ h=>h,λ_ _ _ _ _ _ h=>h.elim,λi hi=>?_⟩;show Frz w Z (.int .u8) _ _
 have hi':i < s.length:=by simpa [lH] using hi
 simp only [Frz,Sh.cells,Ty.cells,Nat.mul_one];refine ⟨?_,by simpa [lH] using CJ s[i]⟩;apply List.ext_getElem
 ·simp;omega
 ·intro k h1 h2
  have:k=0:=by simpa using h2
  subst this;simp
theorem Bt{P:Program}(hM:bV B m w Z μ){e:Ty}{x:AV}{v:Value}(hx:AR w Z μ x v){ys:List e.den}(h:yr m e x=some ys) :
  ∃ news,mK w Z B.Y (.frz e) news ys (λ_=>False)/\ra P w e.cells v ys.length news:=by
 unfold yr at h;split at h
 ·rename_i s;split at h
  case h_2=>cases h
  rename_i he _;subst he;cases h
  obtain ⟨h1,_⟩:=(show v=lg s/\_ from hx)
  refine ⟨_,A2 s,?_⟩;rw [h1];have:=Ju (w:=w) (P:=P) s;simpa [lH,Ty.cells] using this
 ·rename_i c _
  obtain ⟨h1,_⟩:=tn hM (show CR w Z μ c v from hx) h
  obtain ⟨us,g1,g2,a,cap,rfl,g4,g5⟩:=h1.seq (Y:=B.Y);refine ⟨us,g2,pE g1 ?_⟩;rcases g5 with rfl|⟨b,p,g5,_,g6⟩
  ·left;exact List.eq_nil_of_length_eq_zero (by simpa using g1)
  ·exact .inr ⟨b,p,g5,g6⟩
 ·cases h
theorem tz{P:Program}{md m1:Mem}(hM0:bV B m w Z μ)(hM:bV B md w Z μ)(hF:cq B md w Z μ F){s:Sh}{x:AV}{v:Value}(hx:AR w Z μ x v){ys:List s.den}(h:uq m md s x=some (ys,m1)) :
  ∃ (F' S:Nat->Prop) (news:List Value),bV B m1 w Z μ/\cq B m1 w Z μ F'/\(∀ b,F b->F' b)/\(∀ b,S b->F' b/\¬ F b)/\Kept md m1/\mK w Z B.Y s news ys S/\ra P w s.cells v ys.length news:=by
 unfold uq at h;split at h
 ·rename_i e;split at h
  case h_2=>cases h
  rename_i ys' hs;simp only [Option.some.injEq,Prod.mk.injEq] at h;obtain ⟨rfl,rfl⟩:=h;obtain ⟨news,g1,g2⟩:=Bt (P:=P) hM0 hx hs;exact ⟨F,λ_=>False,news,hM,hF,λ_ h=>h,λ_ h=>h.elim,Kept.refl _,g1,g2⟩
 ·simp only [Option.some.injEq,Prod.mk.injEq] at h;obtain ⟨rfl,rfl⟩:=h;have hv:v=.slice none 0 0:=hx;exact ⟨F,λ_=>False,[],hM,hF,λ_ h=>h,λ_ h=>h.elim,Kept.refl _,mK.nil,by rw [hv];exact pE (by simp) (.inl rfl)⟩
 ·rename_i r hne;split at h
  case h_2=>cases h
  rename_i s' ys' hr;split at h
  case h_2=>cases h
  rename_i he _;subst he;simp only [Option.some.injEq,Prod.mk.injEq] at h;obtain ⟨rfl,rfl⟩:=h
  obtain ⟨ℓ,m1,m2⟩:=(show ∃ ℓ,μ r=some ℓ/\SlR ℓ .full v from hx)
  obtain ⟨ℓ',h5,h6,h7⟩:=hM.rt r _ hr (by simp);rw [m1] at h5;cases h5;obtain ⟨t1,t2⟩:=lz hM hF hr m1 rfl;have h7':nh w s'.cells ys' (fS s' ys'.length) (λ_ us x S=>SR w Z B.Y s' us x S) ℓ:=h7;have hv:v=.slice (ℓ.addr 0) ℓ.len ℓ.cap:=m2;obtain ⟨q1,q2,q3,q4,q0,q5⟩:=h7;refine ⟨λb=>F b\/ℓ.S b,ℓ.S,?_⟩
  cases hb:ℓ.blk with
  |none =>
   rw [hb] at q5;obtain ⟨rfl,_⟩:=q5;refine ⟨[],t1,t2,λ_ h=>.inl h,λb hb=>⟨.inr hb,λhf=>hF.off b r hf ⟨_,ℓ,hr,rfl,m1,hb⟩⟩,Kept.o4,mK.nil,?_⟩;rw [hv,q2];exact pE (by simp) (.inl rfl)
  |some b =>
   obtain ⟨us,g1,g2⟩:=h7'.seq hb;refine ⟨us,t1,t2,λ_ h=>.inl h,λb hb=>⟨.inr hb,λhf=>hF.off b r hf ⟨_,ℓ,hr,rfl,m1,hb⟩⟩,Kept.o4,g2.grow λ_ h=>h.1,?_⟩;rw [hv,q2,ℓ.nX q0 hb,Nat.zero_mul,Nat.add_zero];exact pE g2.1 (.inr ⟨b,_,rfl,g1⟩)
 ·cases h
theorem zi{b o n:Nat}{vs:List Value}(hb:jW w b n)(hn:o+vs.length<=n):cJ (w.setCells b o vs) b o vs:=by
 intro k hk;have:=World.cell?_setCells_in b vs o w (λj hj=>hb.cell (by omega)) k hk;simpa using this
end
end Go.Mach

namespace Go.Mach
section
variable {B:gT}{E:Env}{st:St}{o:Oper}{a:Act}{w:World}{Z:Nat->Prop}{μ:bS}{Φ:St->Prop}
theorem we{P:Program}{m1:Mem}{F' S So:Nat->Prop}{s:Sh}{olds news:List Value}{xs ys:List s.den}(hM:bV B m1 w Z μ)(hF:cq B m1 w Z μ F')
  (ho:mK w Z B.Y s olds xs So) (hn:mK w Z B.Y s news ys S) (hoS:∀ b,So b->F' b) (hnS:∀ b,S b->F' b) (hd:∀ d,So d->S d->False)
  {el:TypeId}{z:Array Value}{cap:Nat}(hz:z.size=s.cells) (hcap:(xs++ys).length<=cap) (hok:fS s (xs++ys).length=true) (c1:μ m1.cur=none) (c2:m1.roots[m1.cur]?=some .dead) :
  ∃ μ',bV B (m1.push (.arr s (xs++ys) none)) (w.drew.alloc (.cells (olds.toArray++news.toArray++Builtin.zeroCells z (cap-(xs++ys).length)) el)) Z μ'/\μ'=μ.set m1.cur ⟨some w.heap.size,0,s.cells,(xs++ys).length,cap,λd=>d=w.heap.size\/(So d\/S d),none⟩:=by
 obtain ⟨d1,d2⟩:=oF (w':=w.drew.alloc (.cells (olds.toArray++news.toArray++Builtin.zeroCells z (cap-(xs++ys).length)) el)) hM hF (λb hb _=>alloc_old w.drew _ hb) (by rw [jr];exact Nat.le_succ _)
 have hseq:=(ho.append hn hd).same (w':=w.drew.alloc (.cells (olds.toArray++news.toArray++Builtin.zeroCells z (cap-(xs++ys).length)) el)) (λb hb=>by
  refine alloc_old w.drew _ ?_;rcases hb with (hb|hb)|hb|hb
  ·exact (hM.frz b hb).1
  ·exact Nat.lt_of_lt_of_le (hM.ny b hb).1 hM.size
  ·exact (hF.ok b (hoS b hb)).2.1
  ·exact (hF.ok b (hnS b hb)).2.1) (λ_ h=>h)
 have hall:(olds.toArray++news.toArray++Builtin.zeroCells z (cap-(xs++ys).length)).toList=(olds++news)++(Builtin.zeroCells z (cap-(xs++ys).length)).toList:=by simp
 have hcells:cJ (w.drew.alloc (.cells (olds.toArray++news.toArray++Builtin.zeroCells z (cap-(xs++ys).length)) el)) w.heap.size 0 (olds++news):=by
  have h1:=po w.drew (olds.toArray++news.toArray++Builtin.zeroCells z (cap-(xs++ys).length)).toList el;simp only [Array.toArray_toList] at h1;rw [hall] at h1;intro k hk;have:=h1 k (by rw [List.length_append];omega);rw [List.getElem_append_left hk] at this;exact this
 have hlen:(olds++news).length=(xs++ys).length*s.cells:=(ho.append hn hd).1
 have hblock:jW (w.drew.alloc (.cells (olds.toArray++news.toArray++Builtin.zeroCells z (cap-(xs++ys).length)) el)) w.heap.size (0+cap*s.cells):=by
  refine ⟨_,_,_,nU w.drew _,?_,λk _=>by simp⟩
  have h1:(olds.toArray++news.toArray++Builtin.zeroCells z (cap-(xs++ys).length)).size=(olds++news).length+(cap-(xs++ys).length)*s.cells:=by
   simp [size_zeroCells,hz]
  rw [h1,hlen,<- Nat.add_mul]
  have:(xs++ys).length+(cap-(xs++ys).length)=cap:=by omega
  rw [this];omega
 have harr:=hseq.arr hcells hblock hcap (λhS=>by
  have:F' w.heap.size:=hS.elim (hoS _) (hnS _);have:=(hF.ok _ this).2.1
  omega) hok
 obtain ⟨p1,p2⟩:=jv (x:=.arr s (xs++ys) none) (ℓ:=⟨some w.heap.size,0,s.cells,(xs++ys).length,cap,λd=>d=w.heap.size\/(So d\/S d),none⟩) d1 d2 c2 c1 ⟨(λf hf=>by cases hf),harr⟩ (λ_ d hd=>by
  rcases hd with rfl|hd|hd
  ·exact .inr ⟨Nat.le_refl _,by rw [jr];exact Nat.lt_succ_self _⟩
  ·exact .inl (hoS d hd)
  ·exact .inl (hnS d hd))
 exact ⟨_,p1,rfl⟩
theorem pL{c:Call}{x:Operand}{y:Operand}{v:Value}{w':World}(ho:o.op=.call c)(hc:c.callee=.builtin .append)(ha:c.args.toList=[x,y]){T U:TypeId}{rest:List TypeId}(ht:c.argTypes.toList=T::U::rest)
  (h:∀ ty,(Builtin.append_ (T::U::rest).toArray ty #[a.eval x,a.eval y]).run E.P w=.ok v w'):(execOp a.eval o).run E.P w=.ok (.value v) w':=by
 refine oa ho hc λks=>?_
 have h1:c.args=#[x,y]:=by rw [<- c.args.toArray_toList,ha]
 have h2:c.argTypes=(T::U::rest).toArray:=by rw [<- c.argTypes.toArray_toList,ht]
 rw [h1,h2];simp only [builtin];have:=h o.type;simp at this ⊢;simp [this]
theorem AO(hR:Rel B st a w Z μ){n:Nat}(hF:oA st n μ)(hn:1<=n){c:Call}(ho:o.op=.call c)(hc:c.callee=.builtin .append)(h:(step E st o Res.ok).sat Φ) :
  o.wp E.P a w (Nxt B st n Z μ Φ) (λ_ _ _=>False):=by
 simp only [step,fa,ho,hc] at h;split at h
 case h_2=>exact h.elim
 rename_i d y T U rest ha ht;split at h
 case h_2=>exact h.elim
 rename_i el hT;split at h
 case h_2=>exact h.elim
 rename_i s hs;split at h
 case h_2=>exact h.elim
 rename_i hb;simp only [tI,Bool.and_eq_true,beq_iff_eq,Bool.not_eq_true',beq_eq_false_iff_ne,decide_eq_true_eq] at hb;obtain ⟨⟨b2,b3,b4,b5⟩,hU,hzl⟩:=hb;unfold elemOf at hT;split at hT
 case h_2=>cases hT
 rename_i el' hT';cases hT;unfold EA at hzl;split at hzl
 case h_2=>cases hzl
 rename_i zc hz;unfold rR at hz;split at hz
 case h_2=>cases hz
 rename_i i hi;split at hz
 case h_2=>cases hz
 rename_i zv hzv;cases hz
 have hsz:E.P.cellsOf el=i.size:=by simp [Program.cellsOf,hi]
 have hby:E.P.bytesOf el=i.bytes:=by simp [Program.bytesOf,hi]
 have hci:s.cells=i.size:=b2.trans hsz
 have hzs:zv.cells.size=s.cells:=by rw [b2];simpa using hzl
 have hby1:1<=i.bytes:=by have:=ml s;omega
 obtain ⟨f1,f2⟩:=hF 0 (by omega);rw [Nat.add_zero] at f1 f2;have hD:=hR.val d;have hY:=hR.val y
 have hroomOk:∀ k,roomFor E.P el k=true->fS s k=true/\k*i.bytes<=2^47/\k<=2^47:=by
  intro k hk;simp only [roomFor,decide_eq_true_eq,hby] at hk;refine ⟨?_,hk,Nat.le_trans (Nat.le_mul_of_pos_right _ hby1) hk⟩;simp only [fS,decide_eq_true_eq];exact Nat.le_trans (Nat.mul_le_mul_left _ (by omega)) hk
 generalize hqd:val st d=D at h hD;unfold sf at h;split at h
 ·split at h
  case h_2=>exact h.elim
  rename_i ys m1 hsrc;obtain ⟨hroom,h⟩:=jB h;obtain ⟨r1,r2,r3⟩:=hroomOk _ hroom;obtain ⟨F',S,news,g1,g2,g3,g4,g5,g6,g7⟩:=tz (P:=E.P) hR.mem hR.mem (cq.none B st.mem w Z μ) hY hsrc;have hdv:a.eval d=.slice none 0 0:=hD;have hcur:m1.cur=st.mem.cur:=g5.cur;have c2:=g5.dead _ f2;rw [<- hcur] at c2
  have c1:μ m1.cur=none:=by rw [hcur];exact f1
  by_cases h0:ys.length=0
  ·have:ys=[]:=List.eq_nil_of_length_eq_zero h0;subst this
   have hrun:=pL (v:=.slice none 0 0) (w':=w) ho hc ha ht (λty=>by
    rw [hdv];refine vP (news:=news) hT' hU hi ?_ rest
    rw [<- hci];exact g7)
   obtain ⟨p1,p2⟩:=jv (x:=.arr s [] none) (ℓ:=⟨none,0,s.cells,0,0,λ_=>False,none⟩) g1 g2 c2 c1 ⟨(λf hf=>by cases hf),rfl,rfl,Nat.le_refl _,by simp [fS],rfl,rfl,rfl⟩ (λ_ d hd=>hd.elim);refine lp (x:=.c (.ref m1.cur .full)) hR hrun p1 (bX.refl _ _) (λ_ h=>h) (dW.set c1) ⟨_,bS.jI _ _ _,rfl⟩ h ?_ λr hr hμ=>?_
   ·simp only [Mem.push,List.length_set];exact g5.len
   ·rw [bS.lh _ _ (by omega)];exact hμ
  ·have hrun:=pL (a:=a) (E:=E) (w:=w) ho hc ha ht (λty=>by
    rw [hdv]
    exact vQ (olds:=[]) (news:=news) (n:=ys.length) hT' hU hi hzv (by rw [<- hci];exact g7) (pE (by simp) (.inl rfl)) (by omega) (by omega) (by simpa using r2) rest)
   have hge:=grownCap_ge w (0+ys.length) 0 el;obtain ⟨μ',p1,p2⟩:=we (P:=E.P) (xs:=[]) (el:=el) (z:=zv.cells) (cap:=grownCap w (0+ys.length) 0 el) g1 g2 mK.nil g6 (So:=λ_=>False) (λ_ h=>h.elim) (λb hb=>(g4 b hb).1) (λ_ h=>h.elim) hzs (by simpa using hge) (by simpa using r1) c1 c2;subst p2;simp only [List.nil_append] at p1;refine lp (x:=.c (.ref m1.cur .full)) hR hrun (by simpa using p1) (λb hb=>alloc_old w.drew _ (hR.mem.frz b hb).1) (λ_ h=>h) (dW.set c1) ⟨_,bS.jI _ _ _,?_⟩ h ?_ λr hr hμ=>?_
   ·show _=_;simp [Loc.addr]
   ·simp only [Mem.push,List.length_set];exact g5.len
   ·rw [bS.lh _ _ (by omega)];exact hμ
 ·rename_i r wd;split at h
  case h_2=>exact h.elim
  rename_i m0 hsh;split at h
  case h_2=>exact h.elim
  rename_i s' xs hr0;split at h
  case h_2=>exact h.elim
  rename_i _ he _ _;subst he;split at h
  case h_2=>exact h.elim
  rename_i ys m1 hsrc;obtain ⟨hroom,h⟩:=jB h;obtain ⟨r1,r2,r3⟩:=hroomOk _ hroom;obtain ⟨ℓ,μr,hv⟩:=hD;obtain ⟨Z0,S0,s2,xs2,hr0',hM0,hz0,hk0⟩:=Cw hR.mem hsh μr;rw [hr0] at hr0';cases hr0';have hext:=dW.CC (S:=S0) μr;obtain ⟨ℓ',h5,h6,h7⟩:=hM0.rt r _ hr0 (by simp);rw [bS.jI] at h5;have h7':nh w s'.cells xs (fS s' xs.length) (λ_ us x S=>SR w Z0 B.Y s' us x S) ℓ':=h7;obtain ⟨t1,t2⟩:=lz hM0 (cq.none B m0 w Z0 _) hr0 (ℓ:=ℓ') (by rw [bS.jI];exact h5) rfl;obtain ⟨F',S,news,g1,g2,g3,g4,g5,g6,g7⟩:=tz (P:=E.P) hM0 t1 t2 (hY.mono (bX.refl _ _) hz0 hext) hsrc;have hkept:Kept st.mem m1:=hk0.trans (Kept.o4.trans g5);have hcur:m1.cur=st.mem.cur:=hkept.cur;have c2:=hkept.dead _ f2;rw [<- hcur] at c2
  have hne:st.mem.cur≠r:=by rintro rfl;rw [f1] at μr;cases μr
  have c1:(μ.set r { ℓ with S:=S0 }) m1.cur=none:=by rw [hcur,bS.lh _ _ hne];exact f1
  have hlen':ℓ'.len=ℓ.len/\ℓ'.cap=ℓ.cap/\ℓ'.blk=ℓ.blk/\ℓ'.base=ℓ.base/\ℓ'.sz=ℓ.sz/\ℓ'.odd=ℓ.odd:=by cases h5;exact ⟨rfl,rfl,rfl,rfl,rfl,rfl⟩
  obtain ⟨e1,e2,e3,e4,e5,e6⟩:=hlen';obtain ⟨q1,q2,q3,q4,q0,q5⟩:=h7;obtain ⟨p,k,v1,v2,v3,v4,v5,v6⟩:=hv.wV (by omega);have v3':=v3;rw [<- e1,q2] at v3';obtain ⟨w1,w2⟩:=AM xs wd v3'
  have hwlen:(wd.of xs).length=wd.len ℓ.len:=by rw [w1,<- q2,e1]
  have hsum:wd.len xs.length+ys.length=((wd.of xs)++ys).length:=by rw [List.length_append,w1]
  rw [hsum] at r1 r2 r3
  have hold:∃ olds,mK w Z0 B.Y s' olds (wd.of xs) (λd=>ℓ'.S d/\∀ b,ℓ.blk=some b->d≠b)/\(olds=[]\/∃ b,ℓ.blk=some b/\cJ w b (ℓ.base+p*ℓ.sz) olds):=by
   rw [<- e3] at *
   cases hb:ℓ'.blk with
   |none =>
    rw [hb] at q5;obtain ⟨rfl,_⟩:=q5
    have:wd.of ([]:List s'.den)=[]:=by cases wd<;>simp [Win.of]
    rw [this];exact ⟨[],mK.nil,.inl rfl⟩
   |some b =>
    obtain ⟨us,k1,k2⟩:=h7'.seq hb;have hpart:=k2.part wd.off (wd.len xs.length) (by omega);rw [<- GJ xs wd v3'] at hpart;refine ⟨_,hpart.grow λd hd=>⟨hd.1,λb' hb'=>by cases hb';exact hd.2⟩,?_⟩;rcases v6 with v6|v6
    ·right;refine ⟨b,rfl,?_⟩;rw [v6,<- e4,<- e5,q1];exact k1.sub
    ·left
     have:wd.len xs.length=0:=by rw [<- q2,e1];omega
     rw [this];simp
  obtain ⟨olds,o1,o2⟩:=hold
  have hodd:ℓ.odd=none:=by rw [<- e6];exact q0
  have hS':∀ b,ℓ'.S b->F' b:=λb hb=>g3 b (.inr hb);have hsep:∀ d,(ℓ'.S d/\∀ b,ℓ.blk=some b->d≠b)->S d->False:=λd hd hs=>(g4 d hs).2 (.inr hd.1)
  have hout:∀ (ℓn:Loc) (r':Nat),(r' < st.mem.cur\/st.mem.cur+n<=r')->μ r'=none->((μ.set r { ℓ with S:=S0 }).set m1.cur ℓn) r'=none:=λℓn r' hr' hμ=>by
   have hne':r'≠r:=by rintro rfl;rw [μr] at hμ;cases hμ
   rw [bS.lh _ _ (by omega),bS.lh _ _ hne'];exact hμ
  have hl':∀ x,(m1.push x).roots.length=st.mem.roots.length:=λx=>by simp only [Mem.push,List.length_set];exact hkept.len
  by_cases hg:k < wd.len ℓ.len+ys.length
  ·have hrun:=pL (a:=a) (E:=E) (w:=w) ho hc ha ht (λty=>by
    rw [v1]
    exact vQ (olds:=olds) (news:=news) (n:=ys.length) hT' hU hi hzv (by rw [<- hci];exact g7) (pE (by rw [o1.1,hwlen,hci]) (by
     rcases o2 with o2|⟨b,o2,o3⟩
     ·exact .inl o2
     ·exact .inr ⟨b,_,ℓ.nX hodd o2 p,o3⟩)) hg (by rw [<- hwlen,<- List.length_append];exact r3) (by rw [<- hwlen,<- List.length_append];exact r2) rest)
   have hge:=grownCap_ge w (wd.len ℓ.len+ys.length) k el;obtain ⟨μ',p1,p2⟩:=we (P:=E.P) (el:=el) (z:=zv.cells) (cap:=grownCap w (wd.len ℓ.len+ys.length) k el) g1 g2 o1 g6 (λb hb=>hS' b hb.1) (λb hb=>(g4 b hb).1) hsep hzs (by rw [List.length_append,hwlen];exact hge) r1 c1 c2;subst p2;rw [List.length_append,hwlen] at p1;refine lp (x:=.c (.ref m1.cur .full)) hR hrun p1 (λb hb=>alloc_old w.drew _ (hR.mem.frz b hb).1) hz0 (hext.trans (dW.set c1)) ⟨_,bS.jI _ _ _,?_⟩ h (hl' _) (hout _);show _=_;simp [Loc.addr]
  ·have hroom':wd.len ℓ.len+ys.length<=k:=by omega
   cases hb:ℓ.blk with
   |none =>
    have hq5:=q5;rw [e3,hb] at hq5;obtain ⟨rfl,hc0⟩:=hq5;rw [e2] at hc0
    have hk0:k=0:=by omega
    have hys:ys.length=0:=by omega
    have hwl:wd.len ℓ.len=0:=by omega
    have:ys=[]:=List.eq_nil_of_length_eq_zero hys;subst this
    have hwn:wd.of ([]:List s'.den)=[]:=by cases wd<;>simp [Win.of]
    have haddr:ℓ.addr p=none:=by simp [Loc.addr,hodd,hb]
    have hrun:=pL (v:=.slice none 0 0) (w':=w) ho hc ha ht (λty=>by
     rw [v1,haddr,hwl,hk0];refine vP (news:=news) hT' hU hi ?_ rest
     rw [<- hci];exact g7)
    obtain ⟨p1,p2⟩:=jv (x:=.arr s' (wd.of []++[]) none) (ℓ:=⟨none,0,s'.cells,0,0,λ_=>False,none⟩) g1 g2 c2 c1 ⟨(λf hf=>by cases hf),by rw [hwn];exact ⟨rfl,rfl,Nat.le_refl _,by simp [fS],rfl,rfl,rfl⟩⟩ (λ_ d hd=>hd.elim);exact lp (x:=.c (.ref m1.cur .full)) hR hrun p1 (bX.refl _ _) hz0 (hext.trans (dW.set c1)) ⟨_,bS.jI _ _ _,rfl⟩ h (hl' _) (hout _)
   |some b =>
    rw [e3,hb] at q5;obtain ⟨kb,kB,_⟩:=q5;rw [e4,e2,e5] at kB
    have hsz':ℓ.sz=s'.cells:=by rw [<- e5];exact q1
    have hpk:p+k<=ℓ.cap:=by omega
    have hmul:=Nat.mul_le_mul_right ℓ.sz hpk;rw [Nat.add_mul] at hmul
    have hBp:jW w b ((ℓ.base+p*ℓ.sz)+k*i.size):=by
     obtain ⟨vs,T',fz,x1,x2,x3⟩:=kB;refine ⟨vs,T',fz,x1,?_,x3⟩;rw [<- hci,<- hsz'];omega
    have hnl:news.length=ys.length*i.size:=by rw [g6.1,hci]
    have hol:olds.length=wd.len ℓ.len*i.size:=by rw [o1.1,hwlen,hci]
    have hmul2:=Nat.mul_le_mul_right i.size hroom';rw [Nat.add_mul] at hmul2
    have hrun:=pL (a:=a) (E:=E) (w:=w) ho hc ha ht (λty=>by
     rw [v1,ℓ.nX hodd hb]
     exact BQ hT' hU hi (news:=news) (n:=ys.length) (by rw [<- hci];exact g7) hnl hroom' hBp (g6.one b5) rest)
    have hbF:F' b:=hS' b kb;have hOth:∀ c,c≠b->(w.setCells b (ℓ.base+p*ℓ.sz+wd.len ℓ.len*i.size) news).heap[c]?=w.heap[c]?:=λc hc=>ku b hc _ _ _;have hbZ:∀ c,Z0 c->c≠b:=λc hc e=>(g2.ok b hbF).1 (e▸hc);have hbY:∀ c,B.Y c->c≠b:=λc hc e=>g2.ny g1 b hbF (e▸hc);obtain ⟨d1,d2⟩:=oF (hio:=nY _ _ _ _) (w':=w.setCells b (ℓ.base+p*ℓ.sz+wd.len ℓ.len*i.size) news) g1 g2 (λc _ hc=>hOth c λe=>hc (e▸hbF)) (by rw [mV];exact Nat.le_refl _)
    have hseq:=(o1.append g6 hsep).same (w':=w.setCells b (ℓ.base+p*ℓ.sz+wd.len ℓ.len*i.size) news) (λc hc=>hOth c (by
     rcases hc with (hc|hc)|hc|hc
     ·exact hbZ c hc
     ·exact hbY c hc
     ·exact hc.2 b hb
     ·rintro rfl;exact (g4 _ hc).2 (.inr kb))) (λ_ h=>h)
    have hcells:cJ (w.setCells b (ℓ.base+p*ℓ.sz+wd.len ℓ.len*i.size) news) b (ℓ.base+p*ℓ.sz) (olds++news):=by
     refine cJ.append ?_ (by rw [hol];exact zi hBp (by omega));rcases o2 with o2|⟨b',o2,o3⟩
     ·rw [o2];exact cJ.nil
     ·rw [hb] at o2;cases o2;exact uJ (by omega) o3
    have harr:=hseq.arr (cap:=k) hcells (mj b _ _ _ (by rw [hci];exact hBp)) (by rw [List.length_append,hwlen];exact hroom') (λhS=>by
     rcases hS with hS|hS
     ·exact hS.2 b hb rfl
     ·exact (g4 _ hS).2 (.inr kb)) r1
    obtain ⟨p1,p2⟩:=jv (x:=.arr s' (wd.of xs++ys) none) (ℓ:=⟨some b,ℓ.base+p*ℓ.sz,s'.cells,(wd.of xs++ys).length,k,λd=>d=b\/((ℓ'.S d/\∀ b,ℓ.blk=some b->d≠b)\/S d),none⟩) d1 d2 c2 c1 ⟨(λf hf=>by cases hf),harr⟩ (λ_ d hd=>by
     left;rcases hd with rfl|hd|hd
     ·exact hbF
     ·exact hS' d hd.1
     ·exact (g4 d hd).1)
    refine lp (x:=.c (.ref m1.cur .full)) hR hrun p1 (λc hc=>hOth c (hbZ c (hz0 c hc))) hz0 (hext.trans (dW.set c1)) ⟨_,bS.jI _ _ _,?_⟩ h (hl' _) (hout _);show _=_;simp [Loc.addr,hwlen]
 ·exact h.elim
end
end Go.Mach

namespace Go.Mach
section
variable {w:World}{Z:Nat->Prop}
def wo(P:Program)(w:World)(c:Nat)(x:Value)(n:Nat)(news:List Value):Prop :=
 (Builtin.lenOf x).run P w=.ok n w/\∀ k,k<=n->(Builtin.firstCells c k x).run P w=.ok (news.take (k*c)).toArray w
theorem FI{P:Program}{c:Nat}{a:Option Addr}{n cap:Nat}{news:List Value}(hl:news.length=n*c)(h:news=[]\/∃ b p,a=some ⟨b,p,none⟩/\cJ w b p news):wo P w c (.slice a n cap) n news:=by
 refine ⟨by simp [Builtin.lenOf],λk hk=>?_⟩;have hkc:k*c<=n*c:=Nat.mul_le_mul_right _ hk
 cases a with
 |none =>
  rcases h with rfl|⟨b,p,h,_⟩
  ·simp [Builtin.firstCells]
  ·cases h
 |some ad =>
  refine run_firstCells_some (P:=P) w c k ad n cap (news.take (k*c)) (by rw [List.length_take];omega) λj v hv=>?_;rcases h with rfl|⟨b,p,h,hcs⟩
  ·simp at hv
  ·cases h
   have hv':news[j]?=some v:=by
    rw [List.getElem?_take] at hv;split at hv
    ·exact hv
    ·cases hv
   exact pf hcs j v hv'
theorem Jd{P:Program}(s:List UInt8):wo P w 1 (lg s) s.length ((lH s).map (Value.int .u8)):=by
 refine ⟨by simp [Builtin.lenOf,lg,qR],λk hk=>?_⟩;simp only [Builtin.firstCells,lg,Sem.run_pure];congr 1;apply Array.ext';simp [lH,rv,List.map_take];rfl
theorem Ft{P:Program}{B:gT}{m:Mem}{μ:bS}(hM:bV B m w Z μ){e:Ty}{x:AV}{v:Value}(hx:AR w Z μ x v){ys:List e.den}(h:yr m e x=some ys) :
  ∃ news,mK w Z B.Y (.frz e) news ys (λ_=>False)/\wo P w e.cells v ys.length news:=by
 unfold yr at h;split at h
 ·rename_i s;split at h
  case h_2=>cases h
  rename_i he _;subst he;cases h
  obtain ⟨h1,_⟩:=(show v=lg s/\_ from hx)
  refine ⟨_,A2 s,?_⟩;rw [h1];have:=Jd (w:=w) (P:=P) s;simpa [lH,Ty.cells] using this
 ·rename_i c _
  obtain ⟨h1,_⟩:=tn hM (show CR w Z μ c v from hx) h
  obtain ⟨us,g1,g2,a,cap,rfl,g4,g5⟩:=h1.seq (Y:=B.Y);refine ⟨us,g2,FI g1 ?_⟩;rcases g5 with rfl|⟨b,p,g5,_,g6⟩
  ·left;exact List.eq_nil_of_length_eq_zero (by simpa using g1)
  ·exact .inr ⟨b,p,g5,g6⟩
 ·cases h
theorem Fp{P:Program}{t ty e:TypeId}{i:TypeInfo}(ht:P.underlying t=some (.slice e))(hi:P.info? e=some i){sLen sCap n:Nat}{x:Value}{news:List Value}
  (hx:wo P w i.size x n news) (rest:List TypeId) :
  (Builtin.copy_ (t::rest).toArray ty #[.slice none sLen sCap,x]).run P w=.ok (.int .i64 ((min n sLen:Nat):Int)) w:=by
 have hf:=hx.2 (min n sLen) (Nat.min_le_left _ _);simp [Builtin.copy_,run_underlying ht,sizeOf,typeInfo,hi,hx.1,hf,goInt]
theorem HY{P:Program}{t ty e:TypeId}{i:TypeInfo}(ht:P.underlying t=some (.slice e))(hi:P.info? e=some i){b off sLen sCap n N:Nat}{x:Value}{news:List Value}
  (hx:wo P w i.size x n news) (hl:news.length=n*i.size) (hb:jW w b N) (hN:off+min n sLen*i.size<=N) (h1:∀ v∈news,v.oneCell'=true) (rest:List TypeId) :
  (Builtin.copy_ (t::rest).toArray ty #[.slice (some ⟨b,off,none⟩) sLen sCap,x]).run P w=.ok (.int .i64 ((min n sLen:Nat):Int)) (w.setCells b off (news.take (min n sLen*i.size))):=by
 have hmin:min n sLen*i.size<=n*i.size:=Nat.mul_le_mul_right _ (Nat.min_le_left _ _);have hf:=hx.2 (min n sLen) (Nat.min_le_left _ _);have hst:=ot (P:=P) (o:=off) (vs:=news.take (min n sLen*i.size)) hb (by rw [List.length_take];omega) (λv hv=>h1 v (List.mem_of_mem_take hv));simp [Builtin.copy_,run_underlying ht,sizeOf,typeInfo,hi,hx.1,hf,goInt,hst]
end
section
variable {B:gT}{E:Env}{st:St}{o:Oper}{a:Act}{w:World}{Z:Nat->Prop}{μ:bS}{Φ:St->Prop}
theorem De(hR:Rel B st a w Z μ)(n:Nat){c:Call}(ho:o.op=.call c)(hc:c.callee=.builtin .copy)(h:(step E st o Res.ok).sat Φ) :
  o.wp E.P a w (Nxt B st n Z μ Φ) (λ_ _ _=>False):=by
 simp only [step,fa,ho,hc] at h;split at h
 case h_2=>exact h.elim
 rename_i d y T rest ha ht;split at h
 case h_2=>exact h.elim
 rename_i el hT;split at h
 case h_2=>exact h.elim
 rename_i e hs;split at h
 case h_2=>exact h.elim
 rename_i ys hsrc hb;simp only [tI,Bool.and_eq_true,beq_iff_eq,Bool.not_eq_true',beq_eq_false_iff_ne,decide_eq_true_eq] at hb;obtain ⟨b2,b3,b4,b5⟩:=hb;unfold elemOf at hT;split at hT
 case h_2=>cases hT
 rename_i el' hT';cases hT;have hD:=hR.val d;have hY:=hR.val y
 have hinfo:∃ i,E.P.info? el=some i:=by
  cases hi:E.P.info? el with
  |none=>simp [Program.cellsOf,hi] at b2;exact absurd b2 b3
  |some i=>exact ⟨i,rfl⟩
 obtain ⟨i,hi⟩:=hinfo
 have hci:e.cells=i.size:=by
  have:(Sh.frz e).cells=e.cells:=rfl;rw [<- this,b2];simp [Program.cellsOf,hi]
 obtain ⟨news,g6,g7⟩:=Ft (P:=E.P) hR.mem hY hsrc
 have hrunb:∀ {v:Value}{w':World},(∀ ty,(Builtin.copy_ (T::rest).toArray ty #[a.eval d,a.eval y]).run E.P w=.ok v w')->(execOp a.eval o).run E.P w=.ok (.value v) w':=λh=>by
  refine oa ho hc λks=>?_
  have h1:c.args=#[d,y]:=by rw [<- c.args.toArray_toList,ha]
  have h2:c.argTypes=(T::rest).toArray:=by rw [<- c.argTypes.toArray_toList,ht]
  rw [h1,h2];simp only [builtin];have:=h o.type;simp at this ⊢;simp [this]
 generalize hqd:val st d=D at h hD;unfold yg at h;split at h
 case h_2=>exact h.elim
 rename_i r wd;split at h
 case h_2=>exact h.elim
 rename_i e' xs hr;split at h
 case h_2=>exact h.elim
 rename_i he _;subst he;obtain ⟨ℓ,μr,hv⟩:=hD;obtain ⟨ℓ',h5,h6,h7⟩:=hR.mem.rt r _ hr (by simp);rw [μr] at h5;cases h5;have h7':nh w (Sh.frz e').cells xs (fS (.frz e') xs.length) (λ_ us x S=>SR w Z B.Y (.frz e') us x S) ℓ:=h7;obtain ⟨q1,q2,q3,q4,q0,q5⟩:=h7;obtain ⟨p,k,v1,v2,v3,v4,v5,v6⟩:=hv.wV (by omega);rw [q2] at v1 v2 v3;have q1':ℓ.sz=e'.cells:=q1;have hlt:r < st.mem.roots.length:=(List.getElem?_eq_some_iff.1 hr).1
 have hl48:wd.len xs.length<=2^47:=by
  have:=uu (e:=e') (n:=xs.length) q4 b3;omega
 have hrange:eP .i64 ((min ys.length (wd.len xs.length):Nat):Int)=true:=sY (by omega)
 cases hbk:ℓ.blk with
 |none =>
  have hq5:=q5;rw [hbk] at hq5;obtain ⟨rfl,hc0⟩:=hq5
  have hwl:wd.len ([]:List e'.den).length=0:=by simp at v3 ⊢;omega
  have hrun:=hrunb (v:=.int .i64 ((min ys.length (wd.len ([]:List e'.den).length):Nat):Int)) (w':=w) (λty=>by
   rw [v1,show ℓ.addr p=none from by simp [Loc.addr,q0,hbk]]
   exact Fp hT' hi (by rw [<- hci];exact g7) rest)
  have hnil:((List.take wd.off ([]:List e'.den))++(List.take (min ys.length (wd.len ([]:List e'.den).length)) ys++List.drop (wd.off+min ys.length (wd.len ([]:List e'.den).length)) []))=[]:=by
   rw [hwl];simp
  simp only at h;rw [hnil] at h;have hm:bV B (st.mem.set r (.arr (.frz e') [] none)) w Z μ:=hR.mem.change hr rfl rfl μr (λ_ _=>rfl) rfl ⟨(λf hf=>by cases hf),h7'⟩;exact lp (x:=.c (.int .i64 ((min ys.length (wd.len ([]:List e'.den).length):Nat):Int))) hR hrun hm (bX.refl _ _) (λ_ h=>h) (dW.refl μ) ⟨rfl,hrange⟩ h (by simp [Mem.set]) (λ_ _ h=>h)
 |some b =>
  rw [hbk] at q5;obtain ⟨kb,kB,_⟩:=q5;obtain ⟨us,u1,u2⟩:=h7'.seq hbk;have hul:us.length=xs.length*e'.cells:=u2.1;have hnl:news.length=ys.length*e'.cells:=g6.1
  let N:=min ys.length (wd.len xs.length)
  have hN1:N<=ys.length:=Nat.min_le_left _ _;have hN2:N<=wd.len xs.length:=Nat.min_le_right _ _
  have hNx:wd.off+N<=xs.length:=by omega
  have m1:=Nat.mul_le_mul_right e'.cells hNx;rw [Nat.add_mul] at m1;have m2:=Nat.mul_le_mul_right e'.cells hN1;have hcapm:=Nat.mul_le_mul_right ℓ.sz q3;rw [q1'] at kB hcapm
  have hpo:N=0\/p=wd.off:=by
   rcases v6 with v6|v6
   ·exact .inr v6
   ·left;omega
  have hap:ℓ.addr p=some ⟨b,ℓ.base+p*e'.cells,none⟩:=by rw [ℓ.nX q0 hbk,q1']
  have hpcap:p*e'.cells<=ℓ.cap*e'.cells:=Nat.mul_le_mul_right _ v5
  have hrun:=hrunb (v:=.int .i64 ((N:Nat):Int)) (w':=w.setCells b (ℓ.base+p*e'.cells) (news.take (N*e'.cells))) (λty=>by
   rw [v1,hap]
   have:=HY (ty:=ty) hT' hi (sCap:=k) (sLen:=wd.len xs.length) (by rw [<- hci];exact g7) (by rw [<- hci];exact hnl) kB (off:=ℓ.base+p*e'.cells) (by
    rw [<- hci];show _+N*e'.cells<=_;rcases hpo with hpo|hpo
    ·rw [hpo];omega
    ·rw [hpo];omega) (g6.one b5) rest
   rw [<- hci] at this
   exact this)
  have hZb:¬ Z b:=(hR.mem.own r _ ℓ b hr rfl μr kb).1;have hOth:∀ c,c≠b->(w.setCells b (ℓ.base+p*e'.cells) (news.take (N*e'.cells))).heap[c]?=w.heap[c]?:=λc hc=>ku b hc _ _ _;have hSame:bX Z w (w.setCells b (ℓ.base+p*e'.cells) (news.take (N*e'.cells))):=λc hc=>hOth c (λe=>hZb (e▸hc))
  have hnl':(news.take (N*e'.cells)).length=N*e'.cells:=by rw [List.length_take];omega
  have hcells:cJ (w.setCells b (ℓ.base+p*e'.cells) (news.take (N*e'.cells))) b ℓ.base (us.take (wd.off*e'.cells)++(news.take (N*e'.cells)++us.drop (wd.off*e'.cells+N*e'.cells))):=by
   rcases hpo with hpo|hpo
   ·rw [hpo];simp only [Nat.zero_mul,List.take_zero,List.nil_append,Nat.add_zero,List.take_append_drop,World.setCells];exact u1
   ·rw [hpo];have:=rX (vs:=news.take (N*e'.cells)) (o:=wd.off*e'.cells) kB (by omega) (by rw [hnl'];omega) u1;rw [hnl'] at this;exact this
  have hF0:∀ {us:List Value}{xs:List e'.den}{S:Nat->Prop},mK w Z B.Y (.frz e') us xs S->mK (w.setCells b (ℓ.base+p*e'.cells) (news.take (N*e'.cells))) Z B.Y (.frz e') us xs (λ_=>False):=by
   rintro us xs S ⟨h1,M,_,_,h4⟩
   exact ⟨h1,λ_ _=>False,λ_ _ _ h=>h,λ_ _ _ _ _ _ h=>h.elim,λi hi=>Frz.same hSame (λ_ h=>h) (show Frz w Z e' _ _ from h4 i hi)⟩
  have s1:=hF0 (u2.part 0 wd.off (by omega));have s2:=hF0 (g6.part 0 N (by omega));have s3:=hF0 (u2.part (wd.off+N) (xs.length-(wd.off+N)) (by omega));have hs:=(s1.append (s2.append s3 (λ_ h=>h.elim)) (λ_ h=>h.elim)).grow (S':=λ_=>False) (λ_ h=>h.elim id λh=>h.elim id id)
  have e1:(us.drop (0*(Sh.frz e').cells)).take (wd.off*(Sh.frz e').cells)=us.take (wd.off*e'.cells):=by simp [Sh.cells]
  have e2:(news.drop (0*(Sh.frz e').cells)).take (N*(Sh.frz e').cells)=news.take (N*e'.cells):=by simp [Sh.cells]
  have e3:(us.drop ((wd.off+N)*(Sh.frz e').cells)).take ((xs.length-(wd.off+N))*(Sh.frz e').cells)=us.drop (wd.off*e'.cells+N*e'.cells):=by
   show (us.drop ((wd.off+N)*e'.cells)).take ((xs.length-(wd.off+N))*e'.cells)=_;rw [Nat.add_mul,List.take_of_length_le];rw [List.length_drop,hul,Nat.sub_mul,Nat.add_mul];exact Nat.le_refl _
  have e4:((xs.drop (wd.off+N)).take (xs.length-(wd.off+N)))=xs.drop (wd.off+N):=by
   rw [List.take_of_length_le];simp
  rw [e1,e2,e3,e4] at hs;simp only [List.drop_zero] at hs
  have hlen:(xs.take wd.off++(ys.take N++xs.drop (wd.off+N))).length=xs.length:=by simp;omega
  have hm:bV B (st.mem.set r (.arr (.frz e') (xs.take wd.off++(ys.take N++xs.drop (wd.off+N))) none)) (w.setCells b (ℓ.base+p*e'.cells) (news.take (N*e'.cells))) Z μ:=by
   refine hR.mem.change (hio:=nY _ _ _ _) hr rfl rfl μr (λc hc=>hOth c λe=>hc (e▸kb)) (mV _ _ _ _) ⟨(λf hf=>by cases hf),q1,by rw [hlen];exact q2,by rw [hlen];exact q3,by rw [hlen];exact q4,q0,?_⟩;rw [hbk];refine ⟨kb,mj b _ _ _ (by rw [q1'];exact kB),λ_ _=>False,λ_ _ _ h=>h.elim,λ_ _ _ _ _ _ h=>h.elim,λj hj=>?_⟩;obtain ⟨t1,t2⟩:=D3 hcells hs.1 hj;obtain ⟨M,_,_,t3⟩:=hs.2
   exact ⟨_,t1,by rw [q1'];exact t2,show Frz _ Z e' _ _ from t3 j hj⟩
  exact lp (x:=.c (.int .i64 ((N:Nat):Int))) hR hrun hm hSame (λ_ h=>h) (dW.refl μ) ⟨rfl,hrange⟩ h (by simp [Mem.set]) (λ_ _ h=>h)
end
end Go.Mach

namespace Go.Mach
section
variable (w:World) (Z Y:Nat->Prop)
def uB(g:Bool)(us:List Value)(v:Value):Prop :=
 match g with
 |true=>v=.agg us.toArray
 |false=>us=[v]
def tF(a:VSh)(v:Value)(x:a.2.den)(S:Nat->Prop):Prop:=∃ us,uB a.1 us v/\us.length=a.2.cells/\SR w Z Y a.2 us x S
def lY:(l:List VSh)->List Value->kO l->(Nat->Prop)->Prop
 |[],vs,_,_=>vs=[]
 |[a],vs,x,S=>∃ v,vs=[v]/\tF w Z Y a v x S
 |a::b::r,vs,x,S=>∃ v vs' S1 S2,vs=v::vs'/\(∀ d,S1 d->S d)/\(∀ d,S2 d->S d)/\(∀ d,S1 d->S2 d->False)/\tF w Z Y a v x.1 S1/\lY (b::r) vs' x.2 S2
def mX:(ps:List Par)->List Value->{a:Type}->outs a (boxes ps)->(Nat->Prop)->Prop
 |[],_,_,_,_=>True
 |.obj s::r,vs,_,y,S=>∃ v vs' S1 S2,vs=v::vs'/\(∀ d,S1 d->S d)/\(∀ d,S2 d->S d)/\(∀ d,S1 d->S2 d->False)/\SR w Z Y s [v] (ld (a:=s.den) (boxes r) y.2) S1/\mX r vs' (a:=s.den) y.2 S2
 |.val _ _::r,vs,_,y,S=>∃ v vs',vs=v::vs'/\mX r vs' y S
end
section
variable {B:gT}{w:World}{Z:Nat->Prop}{μ:bS}
def ARs(w:World)(Z:Nat->Prop)(μ:bS):List AV->List Value->Prop
 |[],vs=>vs=[]
 |x::xs,vs=>∃ v vs',vs=v::vs'/\AR w Z μ x v/\ARs w Z μ xs vs'
theorem ARs.mono{w':World}{Z':Nat->Prop}{μ':bS}(h:bX Z w w')(hz:∀ b,Z b->Z' b)(hm:dW μ μ'):∀ {xs:List AV}{vs:List Value},ARs w Z μ xs vs->ARs w' Z' μ' xs vs
 |[],_,hc=>hc
 |x::xs,_,hc=>by
  obtain ⟨v,vs',rfl,h1,h2⟩:=hc;exact ⟨v,vs',rfl,h1.mono h hz hm,ARs.mono h hz hm h2⟩
theorem AR.formR{x:AV}{v:Value}{g:Bool}(h:AR w Z μ x v)(hf:x.form g=true):∃ us,uB g us v/\CRs w Z μ x.cells us:=by
 cases x with
 |c c =>
  cases g with
  |true=>simp [AV.form] at hf
  |false=>exact ⟨[v],rfl,CRs.mk1 h⟩
 |agg cs =>
  cases g with
  |false=>simp [AV.form] at hf
  |true=>obtain ⟨vs,h1,h2⟩:=h;exact ⟨vs,h1,h2⟩
 |tup l=>simp [AV.form] at hf
theorem uB.ar{g:Bool}{us:List Value}{v:Value}{cs:List C}(h:uB g us v)(hc:CRs w Z μ cs us):AR w Z μ (pW g cs) v:=by
 cases g with
 |true=>exact ⟨us,h,hc⟩
 |false =>
  have h:us=[v]:=h;subst h
  match cs,hc with
  |[],_=>trivial
  |c::cs,hc=>exact hc.2 0 (by simp) (by simp)
theorem tF.up{Z' Y:Nat->Prop}{a:VSh}{v:Value}{x:a.2.den}{S:Nat->Prop}(hz:∀ b,Z b->Z' b)(h:tF w Z Y a v x S):tF w Z' Y a v x S:=by
 obtain ⟨us,h1,h2,h3⟩:=h;exact ⟨us,h1,h2,h3.up hz⟩
theorem qm{a:VSh}{x:AV}{v:Value}{m m':Mem}{F:Nat->Prop}{y:a.2.den}(hM:bV B m w Z μ)(hF:cq B m w Z μ F)(hx:AR w Z μ x v)(h:xw a x m=some (y,m')) :
  ∃ Z' F' S:Nat->Prop,bV B m' w Z' μ/\cq B m' w Z' μ F'/\(∀ b,Z b->Z' b)/\(∀ b,F b->F' b)/\(∀ b,S b->F' b/\¬ F b)/\Kept m m'/\tF w Z' B.Y a v y S:=by
 unfold xw at h;split at h
 case h_2=>cases h
 rename_i z m1 hf hg;simp only [Option.some.injEq,Prod.mk.injEq] at h;obtain ⟨rfl,rfl⟩:=h;obtain ⟨us,h1,h2⟩:=hx.formR hf;obtain ⟨⟨Z',F',S1,us1,us2,e1,e2,e3,e4,e5,e6,e7,e8,e9⟩,ek⟩:=lq a.2 hM hF h2 hg;have:=e9.mI;subst this;rw [List.append_nil] at e1;subst e1;exact ⟨Z',F',S1,e3,e4,e5,e6,e7,ek,us,h1,e2,e8⟩
theorem rM:∀ {l:List VSh}{xs:List AV}{vs:List Value}{m m':Mem}{Z F:Nat->Prop}{y:kO l},bV B m w Z μ->cq B m w Z μ F->ARs w Z μ xs vs->wX l xs m=some (y,m') ->
  ∃ Z' F' S:Nat->Prop,bV B m' w Z' μ/\cq B m' w Z' μ F'/\(∀ b,Z b->Z' b)/\(∀ b,F b->F' b)/\(∀ b,S b->F' b/\¬ F b)/\Kept m m'/\lY w Z' B.Y l vs y S
 |[],xs,vs,m,m',Z,F,y,hM,hF,hx,h=>by
  match xs,h with
  |[],h =>
   simp only [wX,Option.some.injEq,Prod.mk.injEq] at h;obtain ⟨_,rfl⟩:=h;exact ⟨Z,F,λ_=>False,hM,hF,λ_ h=>h,λ_ h=>h,λ_ h=>h.elim,Kept.refl _,hx⟩
 |[a],xs,vs,m,m',Z,F,y,hM,hF,hx,h=>by
  match xs,h with
  |[x],h =>
   obtain ⟨v,vs',rfl,h1,h2⟩:=hx;have h2:vs'=[]:=h2;subst h2;obtain ⟨Z',F',S,e1,e2,e3,e4,e5,e6,e7⟩:=qm hM hF h1 h;exact ⟨Z',F',S,e1,e2,e3,e4,e5,e6,v,rfl,e7⟩
 |a::b::r,xs,vs,m,m',Z,F,y,hM,hF,hx,h=>by
  match xs,h with
  |x::xs,h =>
   obtain ⟨v,vs',rfl,h1,h2⟩:=hx;simp only [wX] at h;split at h
   case h_2=>cases h
   rename_i z m1 hg;split at h
   case h_2=>cases h
   rename_i z' m2 hgs;simp only [Option.some.injEq,Prod.mk.injEq] at h;obtain ⟨rfl,rfl⟩:=h;obtain ⟨Z1,F1,S1,e1,e2,e3,e4,e5,e6,e7⟩:=qm hM hF h1 hg;obtain ⟨Z2,F2,S2,g1,g2,g3,g4,g5,g6,g7⟩:=rM e1 e2 (h2.mono (bX.refl _ _) e3 (dW.refl μ)) hgs;refine ⟨Z2,F2,λd=>S1 d\/S2 d,g1,g2,λb hb=>g3 b (e3 b hb),λb hb=>g4 b (e4 b hb),λd hd=>?_,e6.trans g6,v,vs',S1,S2,rfl,λ_ h=>.inl h,λ_ h=>.inr h,λd a b=>(g5 d b).2 (e5 d a).1,e7.up g3,g7⟩;rcases hd with hd|hd
   ·exact ⟨g4 d (e5 d hd).1,(e5 d hd).2⟩
   ·exact ⟨(g5 d hd).1,λhf=>(g5 d hd).2 (e4 d hf)⟩
def GotC(B:gT)(w:World)(μ:bS)(Z1:Nat->Prop)(l:List VSh)(vs:List Value)(g:Mem->Option (kO l))(S:Nat->Prop):Prop :=
 ∀ (mE:Mem) (ZE V:Nat->Prop),bV B mE w ZE μ->(∀ b,Z1 b->ZE b)->(∀ b,B.Y b\/ZE b->V b)->(∀ r b,gq mE μ r b->V b)->∀ x,g mE=some x->lY w ZE V l vs x S
def Sh.oW:Sh->Bool
 |.own s=>s.oW
 |.box s=>s.oW
 |.clo _ s=>s.oW
 |.map _ s=>s.oW
 |.seq a b=>a.oW && b.oW
 |.bor _=>false
 |_=>true
theorem SR.Dv{Y Y':Nat->Prop}(hy:∀ b,Y b->Y' b){s:Sh}{us:List Value}{x:s.den}{S:Nat->Prop}(h:SR w Z Y s us x S):SR w Z Y' s us x S:=h.same (λ_ h=>h) hy (bX.refl _ _)
theorem tc{a:VSh}{x:AV}{v:Value}{m m':Mem}{F:Nat->Prop}{g:Mem->Option a.2.den}(hM:bV B m w Z μ)(hF:cq B m w Z μ F)(hx:AR w Z μ x v)(h:B9 a x m=some (g,m')) :
  ∃ Z' F' S:Nat->Prop,bV B m' w Z' μ/\cq B m' w Z' μ F'/\(∀ b,Z b->Z' b)/\(∀ b,F b->F' b)/\(∀ b,S b->F' b/\¬ F b)/\Kept m m'/\GotC B w μ Z' [a] [v] g S:=by
 unfold B9 at h;split at h
 ·rename_i gb s;split at h
  case h_2=>cases h
  rename_i hf;simp only [Option.some.injEq,Prod.mk.injEq] at h;obtain ⟨rfl,rfl⟩:=h;obtain ⟨us,h1,h2⟩:=hx.formR hf;refine ⟨Z,F,λ_=>False,hM,hF,λ_ h=>h,λ_ h=>h,λ_ h=>h.elim,Kept.refl _,λmE ZE V hME hZE hV hO y hy=>?_⟩;dsimp only at hy;split at hy
  case h_2=>cases hy
  rename_i z hz;simp only [Option.some.injEq] at hy;subst hy;obtain ⟨us1,us2,e1,e2,e3,e4⟩:=mv (st:=false) hME hV (λ_=>hO) s (h2.mono (bX.refl _ _) hZE (dW.refl μ)) hz;have:=e4.mI;subst this;rw [List.append_nil] at e1;subst e1;refine ⟨v,rfl,us,h1,e2,?_⟩;simp only [SR];exact BR.same (bX.refl _ _) (λ_ h=>h) (λb hb=>.inl hb) e3
 ·split at h
  case h_2=>cases h
  rename_i z m1 hg;simp only [Option.some.injEq,Prod.mk.injEq] at h;obtain ⟨rfl,rfl⟩:=h;obtain ⟨Z',F',S,e1,e2,e3,e4,e5,e6,us,e7,e8,e9⟩:=qm hM hF hx hg;refine ⟨Z',F',S,e1,e2,e3,e4,e5,e6,λmE ZE V hME hZE hV hO y hy=>?_⟩;dsimp only at hy;simp only [Option.some.injEq] at hy;subst hy;exact ⟨v,rfl,us,e7,e8,(e9.up hZE).Dv λb hb=>hV b (.inl hb)⟩
theorem vT:∀ {l:List VSh}{xs:List AV}{vs:List Value}{m m':Mem}{Z F:Nat->Prop}{g:Mem->Option (kO l)},bV B m w Z μ->cq B m w Z μ F->ARs w Z μ xs vs->sS l xs m=some (g,m') ->
  ∃ Z' F' S:Nat->Prop,bV B m' w Z' μ/\cq B m' w Z' μ F'/\(∀ b,Z b->Z' b)/\(∀ b,F b->F' b)/\(∀ b,S b->F' b/\¬ F b)/\Kept m m'/\GotC B w μ Z' l vs g S
 |[],xs,vs,m,m',Z,F,g,hM,hF,hx,h=>by
  match xs,h with
  |[],h =>
   simp only [sS,Option.some.injEq,Prod.mk.injEq] at h;obtain ⟨_,rfl⟩:=h;exact ⟨Z,F,λ_=>False,hM,hF,λ_ h=>h,λ_ h=>h,λ_ h=>h.elim,Kept.refl _,λ_ _ _ _ _ _ _ _ _=>hx⟩
 |[a],xs,vs,m,m',Z,F,g,hM,hF,hx,h=>by
  match xs,h with
  |[x],h =>
   obtain ⟨v,vs',rfl,h1,h2⟩:=hx;have h2:vs'=[]:=h2;subst h2;exact tc hM hF h1 h
 |a::b::r,xs,vs,m,m',Z,F,g,hM,hF,hx,h=>by
  match xs,h with
  |x::xs,h =>
   obtain ⟨v,vs',rfl,h1,h2⟩:=hx;simp only [sS] at h;split at h
   case h_2=>cases h
   rename_i g1 m1 hg;split at h
   case h_2=>cases h
   rename_i g2 m2 hgs;simp only [Option.some.injEq,Prod.mk.injEq] at h;obtain ⟨rfl,rfl⟩:=h;obtain ⟨Z1,F1,S1,e1,e2,e3,e4,e5,e6,e7⟩:=tc hM hF h1 hg;obtain ⟨Z2,F2,S2,d1,d2,d3,d4,d5,d6,d7⟩:=vT e1 e2 (h2.mono (bX.refl _ _) e3 (dW.refl μ)) hgs;refine ⟨Z2,F2,λd=>S1 d\/S2 d,d1,d2,λb hb=>d3 b (e3 b hb),λb hb=>d4 b (e4 b hb),λd hd=>?_,e6.trans d6,λmE ZE V hME hZE hV hO y hy=>?_⟩
   ·rcases hd with hd|hd
    ·exact ⟨d4 d (e5 d hd).1,(e5 d hd).2⟩
    ·exact ⟨(d5 d hd).1,λhf=>(d5 d hd).2 (e4 d hf)⟩
   ·dsimp only at hy;split at hy
    case h_2=>cases hy
    rename_i y1 y2 hy1 hy2;simp only [Option.some.injEq] at hy;subst hy;obtain ⟨v0,hv0,k1⟩:=e7 mE ZE V hME (λb hb=>hZE b (d3 b hb)) hV hO y1 hy1;cases hv0;exact ⟨v,vs',S1,S2,rfl,λ_ h=>.inl h,λ_ h=>.inr h,λd a b=>(d5 d b).2 (e5 d a).1,k1,d7 mE ZE V hME hZE hV hO y2 hy2⟩
theorem si:∀ {l:List VSh}{vs:List Value}{x:kO l}{m:Mem}{Z F S:Nat->Prop}{μ:bS},bV B m w Z μ->cq B m w Z μ F->mg m μ (nG l)->lY w Z B.Y l vs x S->(∀ b,S b->F b) ->
  ∃ μ',bV B (mks l x m).2 w Z μ'/\cq B (mks l x m).2 w Z μ' (λb=>F b/\¬ S b)/\ARs w Z μ' (mks l x m).1 vs/\Grow m (mks l x m).2 μ μ' (nG l)
 |[],vs,x,m,Z,F,S,μ,hM,hF,hf,h,hS=>⟨μ,hM,hF.grow λb hb=>hb.1,h,Grow.refl m μ⟩
 |[a],vs,x,m,Z,F,S,μ,hM,hF,hf,h,hS=>by
  obtain ⟨v,rfl,us,h1,h2,h3⟩:=h;obtain ⟨⟨μ',e1,e2,e3,e4⟩,_⟩:=lu a.2 hM hF hf h3 hS;exact ⟨μ',e1,e2,⟨v,[],rfl,h1.ar e3,rfl⟩,e4⟩
 |a::b::r,vs,x,m,Z,F,S,μ,hM,hF,hf,h,hS=>by
  obtain ⟨v,vs',S1,S2,rfl,h2,h3,h4,⟨us,h5,h6,h7⟩,h8⟩:=h;obtain ⟨⟨μ1,e1,e2,e3,e4⟩,_⟩:=lu a.2 hM hF hf.left h7 (λd hd=>hS d (h2 d hd));obtain ⟨μ2,g1,g2,g3,g4⟩:=si (l:=b::r) e1 e2 (hf.right e4) h8 (λd hd=>⟨hS d (h3 d hd),λh=>h4 d h hd⟩);exact ⟨μ2,g1,g2.grow λd hd=>⟨⟨hd.1,λh=>hd.2 (h2 d h)⟩,λh=>hd.2 (h3 d h)⟩,⟨v,vs',rfl,(h5.ar e3).mono (bX.refl _ _) (λ_ h=>h) g4.ext,g3⟩,e4.trans g4⟩
theorem bV.congr{m m':Mem}(h:bV B m w Z μ)(hr:m'.roots=m.roots):bV B m' w Z μ :=
 ⟨λr x hx hd=>h.rt r x (hr▸hx) hd,λr s x y ℓ ℓ' hrs hx hy=>h.dj r s x y ℓ ℓ' hrs (hr▸hx) (hr▸hy),λr x ℓ b hx=>h.own r x ℓ b (hr▸hx),h.frz,h.tB,h.size,h.rb,λr hr'=>h.far r (hr▸hr'),h.ny,h.io⟩
theorem gq.congr{m m':Mem}(hr:m'.roots=m.roots){r b:Nat}(h:gq m' μ r b):gq m μ r b:=by
 obtain ⟨x,ℓ,h1,h2⟩:=h;exact ⟨x,ℓ,hr▸h1,h2⟩
theorem cq.congr{m m':Mem}{F:Nat->Prop}(h:cq B m w Z μ F)(hr:m'.roots=m.roots):cq B m' w Z μ F:=⟨h.ok,λb r hb ho=>h.off b r hb (ho.congr hr)⟩
theorem wF{m:Mem}{F:Nat->Prop}(hM:bV B m w Z μ)(hF:cq B m w Z μ F){q p:Nat}{x:cu}{ℓq ℓp:Loc}(hq:m.roots[q]?=some x)(ho:x.jE=true)(hμq:μ q=some ℓq)(hp:m.roots[p]?=some .dead)(hμp:μ p=some ℓp)
  (hok:iN w Z B.Y (μ.set p { ℓp with S:=ℓq.S }) { ℓp with S:=ℓq.S } x) :
  bV B (m.move q p) w Z (μ.set p { ℓp with S:=ℓq.S })/\cq B (m.move q p) w Z (μ.set p { ℓp with S:=ℓq.S }) F:=by
 obtain ⟨t1,t2⟩:=lz hM hF hq hμq ho
 have hne:q≠p:=by rintro rfl;rw [hq] at hp;cases hp;simp [cu.jE] at ho
 have hdead:(m.set q .dead).roots[p]?=some .dead:=by simp only [Mem.set];rw [List.getElem?_set_ne hne];exact hp
 obtain ⟨p1,p2⟩:=uc (x:=x) (ℓ:={ ℓp with S:=ℓq.S }) t1 t2 hdead (dW.CC hμp) hok (λ_ b hb=>.inr hb)
 have hr:(m.move q p).roots=((m.set q .dead).set p x).roots:=by simp [Mem.move,Mem.set,hq]
 refine ⟨p1.congr hr,(p2.grow λb hb=>⟨.inl hb,λ_ hs=>hF.off b q hb ⟨x,ℓq,hq,ho,hμq,hs⟩⟩).congr hr⟩
def ru(μ:bS)(s:Sh)(x:AV):Prop :=
 match s,x with
 |.own s,.c (.ref p .full)=>∃ ℓ,μ p=some ℓ/\ℓ.sz=s.cells/\ℓ.odd=none
 |_,_=>True
theorem ru.ext{μ μ':bS}(he:dW μ μ'){s:Sh}{x:AV}(h:ru μ s x):ru μ' s x:=by
 unfold ru at h ⊢;split
 ·rename_i s p;obtain ⟨ℓ,h1,h2,h3⟩:=h;obtain ⟨S',h4⟩:=he p ℓ h1;exact ⟨_,h4,h2,h3⟩
 ·trivial
theorem nh.place{c:Nat}{α:Type}{xs:List α}{lok:Bool}{R:Nat->List Value->α->(Nat->Prop)->Prop}{ℓq ℓp:Loc}(h:nh w c xs lok R ℓq)(hsz:ℓp.sz=c)(hod:ℓp.odd=none)
  (hv:Value.slice (ℓq.addr 0) ℓq.len ℓq.cap=.slice (ℓp.addr 0) ℓp.len ℓp.cap):nh w c xs lok R { ℓp with S:=ℓq.S }:=by
 obtain ⟨h1,h2,h3,h4,h0,h5⟩:=h;simp only [Value.slice.injEq] at hv;obtain ⟨v1,v2,v3⟩:=hv;refine ⟨hsz,by rw [<- v2];exact h2,by rw [<- v3];exact h3,h4,hod,?_⟩
 cases hb:ℓq.blk with
 |none =>
  rw [hb] at h5
  have:ℓp.blk=none:=by
   cases hbp:ℓp.blk with
   |none=>rfl
   |some b=>simp [Loc.addr,h0,hod,hb,hbp] at v1
  simp only [this];exact ⟨h5.1,by rw [<- v3];exact h5.2⟩
 |some b =>
  rw [hb] at h5
  have:ℓp.blk=some b/\ℓp.base=ℓq.base:=by
   cases hbp:ℓp.blk with
   |none=>simp [Loc.addr,h0,hod,hb,hbp] at v1
   |some b' =>
    simp [Loc.addr,h0,hod,hb,hbp] at v1;exact ⟨by rw [v1.1],v1.2.symm⟩
  simp only [this.1,this.2,hsz,<- v3];rw [h1] at h5;exact h5
theorem zr{s:Sh}{v:AV}{u:Value}{x:s.den}{m m':Mem}{F S:Nat->Prop}(hs:s.nF=true)(hw:v.whole=true)(hM:bV B m w Z μ)(hF:cq B m w Z μ F)(hf:mg m μ s.news)(hv:AR w Z μ v u)(hpl:ru μ s v)
  (hx:SR w Z B.Y s [u] x S) (hS:∀ b,S b->F b) (h:wg s v x m=some m') :
  ∃ μ',bV B m' w Z μ'/\cq B m' w Z μ' (λb=>F b/\¬ S b)/\dW μ μ'/\m'.roots.length=m.roots.length/\m'.cur=m.cur+s.news /\
   (∀ r,(r < m.cur\/m.cur+s.news<=r)->(μ r=none->μ' r=none)/\(m.roots[r]?=some .dead->μ r=none->m'.roots[r]?=some .dead)):=by
 obtain ⟨⟨μ1,e1,e2,e3,e4⟩,_⟩:=lu s hM hF hf hx hS;unfold wg at h;generalize hmk:s.mk x m=k at h e1 e2 e3 e4;obtain ⟨cs,m1⟩:=k;simp only at h e1 e2 e3 e4;split at h
 case h_2=>cases h
 rename_i c y;have hcv:AR w Z μ1 (.c y) u:=hv.mono (bX.refl _ _) (λ_ h=>h) e4.ext;have hpl':=hpl.ext e4.ext
 have hcc:CR w Z μ1 c u:=by
  obtain ⟨v',hv',g⟩:=e3.one;cases hv';exact g
 split at h
 ·rename_i q p hq hp;unfold Mem.Gy at h;split at h
  case h_2=>cases h
  rename_i hdead;cases h
  have hfin:∀ (xr:cu) (ℓq ℓp:Loc),m1.roots[q]?=some xr->xr.jE=true->μ1 q=some ℓq->μ1 p=some ℓp->iN w Z B.Y (μ1.set p { ℓp with S:=ℓq.S }) { ℓp with S:=ℓq.S } xr ->
    ∃ μ',bV B (m1.move q p) w Z μ'/\cq B (m1.move q p) w Z μ' (λb=>F b/\¬ S b)/\dW μ μ'/\(m1.move q p).roots.length=m.roots.length/\(m1.move q p).cur=m.cur+s.news /\
     (∀ r,(r < m.cur\/m.cur+s.news<=r)->(μ r=none->μ' r=none)/\(m.roots[r]?=some .dead->μ r=none->(m1.move q p).roots[r]?=some .dead)):=by
   intro xr ℓq ℓp a1 a2 a3 a4 a5;obtain ⟨b1,b2⟩:=wF e1 e2 a1 a2 a3 hdead a4 a5;refine ⟨_,b1,b2,e4.ext.trans (dW.CC a4),by simp only [Mem.move,List.length_set];exact e4.len,e4.cur,λr hr=>?_⟩;obtain ⟨o1,o2⟩:=e4.old r hr;refine ⟨λhn=>?_,λhd hn=>?_⟩
   ·have hne:r≠p:=by rintro rfl;rw [o1,hn] at a4;cases a4
    rw [bS.lh _ _ hne,o1];exact hn
   ·have hne:p≠r:=by rintro rfl;rw [o1,hn] at a4;cases a4
    have hne':q≠r:=by rintro rfl;rw [o1,hn] at a3;cases a3
    simp only [Mem.move];rw [List.getElem?_set_ne hne,List.getElem?_set_ne hne',o2];exact hd
  cases s with
  |own s =>
   simp only [Sh.mk,Prod.mk.injEq,List.cons.injEq,and_true] at hmk;obtain ⟨rfl,rfl⟩:=hmk;simp only [C.oB,Option.some.injEq] at hq;subst hq;obtain ⟨ℓq,μq,sq⟩:=hcc;have hcq:m.cur < m.roots.length:=(List.getElem?_eq_some_iff.1 (hf 0 (by simp [Sh.news])).2).1
   have hroot:(m.push (.arr s x none)).roots[m.cur]?=some (.arr s x none):=by simp [Mem.push,hcq]
   obtain ⟨ℓ',k1,k2,k3⟩:=e1.rt _ _ hroot (by simp);rw [μq] at k1;cases k1
   cases y with
   |ref p' wd =>
    cases wd with
    |sub _ _=>simp [AV.whole] at hw
    |full =>
     simp only [C.oB,Option.some.injEq] at hp;subst hp
     obtain ⟨ℓp,μp,sp⟩:=(show ∃ ℓ,μ1 p'=some ℓ/\SlR ℓ .full u from hcv)
     obtain ⟨ℓ2,μ2,z1,z2⟩:=hpl';rw [μp] at μ2;cases μ2
     have he:Value.slice (ℓq.addr 0) ℓq.len ℓq.cap=.slice (ℓp.addr 0) ℓp.len ℓp.cap:=by
      rw [<- (show u=_ from sq),<- (show u=_ from sp)]
     exact hfin _ ℓq ℓp hroot rfl μq μp ⟨(λf hf=>by cases hf),(k3.place z1 z2 he).mono (bX.refl _ _) λi us x S _ _ hR=>hR⟩
   |ptr p' off =>
    exfalso
    obtain ⟨_,_,_,_,h1⟩:=(show qB μ1 p' off u from hcv)
    rw [show u=_ from sq] at h1;cases h1
   |_=>simp [C.oB] at hp
  |box s =>
   simp only [Sh.mk,Prod.mk.injEq,List.cons.injEq,and_true] at hmk;obtain ⟨rfl,rfl⟩:=hmk;simp only [C.oB,Option.some.injEq] at hq;subst hq;obtain ⟨ℓq,bq,μq,hbq,huq⟩:=hcc
   have hcq:(s.mk x m).2.cur < (s.mk x m).2.roots.length:=by
    have h1:=e4.len;have h2:=e4.cur;simp only [Mem.push,List.length_set,Sh.news] at h1 h2;have h3:=(hf s.news (by simp [Sh.news])).2;have h4:=(List.getElem?_eq_some_iff.1 h3).1;omega
   have hroot:((s.mk x m).2.push (.box (s.mk x m).1)).roots[(s.mk x m).2.cur]?=some (.box (s.mk x m).1):=by simp [Mem.push,hcq]
   obtain ⟨ℓ',k1,b',k2,k3,k4,us,k5,k6⟩:=e1.rt _ _ hroot (by simp);rw [μq] at k1;cases k1;rw [hbq] at k2;cases k2
   cases y with
   |ptr p' off =>
    cases off with
    |succ _=>simp [AV.whole] at hw
    |zero =>
     simp only [C.oB,Option.some.injEq] at hp;subst hp
     obtain ⟨ℓp,bp,μp,hbp,hup⟩:=(show qB μ1 p' 0 u from hcv)
     rw [huq] at hup;simp only [Value.pointer.injEq,Option.some.injEq,Addr.mk.injEq,Nat.add_zero,and_true] at hup;obtain ⟨rfl,hbase⟩:=hup;exact hfin _ ℓq ℓp hroot rfl μq μp ⟨bq,hbp,k3,by rw [<- hbase];exact k4,us,by rw [<- hbase];exact k5,k6.mono (bX.refl _ _) (λ_ h=>h) (dW.CC μp)⟩
   |ref p' wd =>
    exfalso
    obtain ⟨ℓp,_,h1⟩:=(show ∃ ℓ,μ1 p'=some ℓ/\SlR ℓ wd u from hcv)
    rw [huq] at h1
    cases wd with
    |full=>cases (show _=_ from h1)
    |sub _ _=>obtain ⟨_,_,h2,_⟩:=h1;cases h2
   |_=>simp [C.oB] at hp
  |sb pq =>
   simp only [Sh.mk,Prod.mk.injEq,List.cons.injEq,and_true] at hmk;obtain ⟨rfl,rfl⟩:=hmk;simp only [C.oB,Option.some.injEq] at hq;subst hq;obtain ⟨ℓq,bq,μq,hbq,huq⟩:=hcc;have hcq:m.cur < m.roots.length:=(List.getElem?_eq_some_iff.1 (hf 0 (by simp [Sh.news])).2).1
   have hroot:(m.push (.sb pq x)).roots[m.cur]?=some (.sb pq x):=by simp [Mem.push,hcq]
   obtain ⟨ℓ',k1,b',k2,k3,k4⟩:=e1.rt _ _ hroot (by simp);rw [μq] at k1;cases k1;rw [hbq] at k2;cases k2
   cases y with
   |ptr p' off =>
    cases off with
    |succ _=>simp [AV.whole] at hw
    |zero =>
     simp only [C.oB,Option.some.injEq] at hp;subst hp
     obtain ⟨ℓp,bp,μp,hbp,hup⟩:=(show qB μ1 p' 0 u from hcv)
     rw [huq] at hup;simp only [Value.pointer.injEq,Option.some.injEq,Addr.mk.injEq,Nat.add_zero,and_true] at hup;obtain ⟨rfl,hbase⟩:=hup;exact hfin _ ℓq ℓp hroot rfl μq μp ⟨bq,hbp,by rw [<- hbase];exact k3,k4⟩
   |ref p' wd =>
    exfalso
    obtain ⟨ℓp,_,h1⟩:=(show ∃ ℓ,μ1 p'=some ℓ/\SlR ℓ wd u from hcv)
    rw [huq] at h1
    cases wd with
    |full=>cases (show _=_ from h1)
    |sub _ _=>obtain ⟨_,_,h2,_⟩:=h1;cases h2
   |_=>simp [C.oB] at hp
  |_=>simp [Sh.nF] at hs
 ·cases h;exact ⟨μ1,e1,e2,e4.ext,e4.len,e4.cur,λr hr=>⟨λhn=>by rw [(e4.old r hr).1];exact hn,λhd _=>by rw [(e4.old r hr).2];exact hd⟩⟩
end
end Go.Mach

namespace Go.Mach
def zN(rs:List VSh)(v:Value)(jX:List Value):Prop :=
 match rs with
 |[_]=>jX=[v]
 |_=>v=.tuple jX.toArray
structure j9 (P:Program) (G:rV) (sp:Spec):Prop where
 fn:∃ fn,P.funcs[sp.f]?=some fn/\fn.body.isSome=true/\(fn.name == "runtime.NumGoroutine")=false
 obj:(boxes sp.ps).all Sh.nF=true
 run:∀ (w:World) (Z Y S:Nat->Prop) (args:List Value) (x:kO (sp.ps.map Par.v)) (Ψ:outs (kO sp.rs) (boxes sp.ps)->Prop),(sp.run x).sat Ψ->G.At w Z ->
  (∀ b,Z b->b < w.heap.size)->(∀ b,Y b->b < w.heap.size/\¬ S b)->(∀ b,S b->b < w.heap.size/\¬ Z b)->lY w Z Y (sp.ps.map Par.v) args x S ->
  Calls P sp.f args.toArray w λe w'=>∃ y v jX,∃ Z' S1 S2:Nat->Prop,e=.returned v/\Ψ y/\zN sp.rs v jX /\
   lY w' Z' (λ_=>False) sp.rs jX (ld (boxes sp.ps) y) S1/\mX w' Z' (λ_=>False) sp.ps args y S2/\(∀ d,S1 d->S2 d->False) /\
   (∀ b,S1 b\/S2 b->b < w'.heap.size/\¬ Z' b/\(S b\/w.heap.size<=b))/\(∀ b,Z b->Z' b)/\(∀ b,Z' b->b < w'.heap.size/\(Z b\/S b\/w.heap.size<=b)) /\
   w.heap.size<=w'.heap.size/\(∀ b,b < w.heap.size->¬ S b->w'.heap[b]?=w.heap[b]?)/\Io w w'
section
variable {B:gT}{w:World}{Z:Nat->Prop}{μ:bS}
def oQ(μ:bS):List VSh->List AV->Prop
 |[],_=>True
 |p::ps,x::xs=>ru μ p.2 x/\oQ μ ps xs
 |_::_,[]=>True
theorem oQ.ext{μ μ':bS}(he:dW μ μ'):∀ {ps:List VSh}{xs:List AV},oQ μ ps xs->oQ μ' ps xs
 |[],_,_=>trivial
 |_::_,[],_=>trivial
 |_::_,_::_,h=>⟨h.1.ext he,oQ.ext he h.2⟩
theorem xU{a:VSh}{x:AV}{m m':Mem}{g:Mem->Option a.2.den}(hM:bV B m w Z μ)(h:B9 a x m=some (g,m')):ru μ a.2 x:=by
 obtain ⟨b,s⟩:=a;unfold ru;split
 ·rename_i s p hs;simp only at hs;subst hs;simp only [B9,xw] at h;split at h
  case h_2=>cases h
  rename_i z m1 hg;split at hg
  case h_2=>cases hg
  rename_i y m2 _ hg';simp only [AV.cells,Sh.get] at hg';split at hg'
  case h_2=>cases hg'
  rename_i s' xs foc hr;split at hg'
  case h_2=>cases hg'
  rename_i _ he _ _;subst he;obtain ⟨ℓ,h1,h2,h3⟩:=hM.rt p _ hr (by simp);exact ⟨ℓ,h1,h3.1,h3.2.2.2.2.1⟩
 ·trivial
theorem vX:∀ {l:List VSh}{xs:List AV}{vs:List Value}{m m':Mem}{Z F:Nat->Prop}{g:Mem->Option (kO l)},bV B m w Z μ->cq B m w Z μ F->ARs w Z μ xs vs->sS l xs m=some (g,m')->oQ μ l xs
 |[],_,_,_,_,_,_,_,_,_,_,_=>trivial
 |[p],xs,vs,m,m',Z,F,g,hM,hF,hx,h=>by
  match xs,h with
  |[x],h=>exact ⟨xU hM h,trivial⟩
 |p::q::r,xs,vs,m,m',Z,F,g,hM,hF,hx,h=>by
  match xs,h with
  |x::xs,h =>
   obtain ⟨v,vs',rfl,h1,h2⟩:=hx;simp only [sS] at h;split at h
   case h_2=>cases h
   rename_i g1 m1 hg;split at h
   case h_2=>cases h
   rename_i g2 m2 hgs;obtain ⟨Z1,F1,S1,e1,e2,e3,e4,e5,e6,e7⟩:=tc hM hF h1 hg;exact ⟨xU hM hg,vX (l:=q::r) e1 e2 (h2.mono (bX.refl _ _) e3 (dW.refl μ)) hgs⟩
theorem sU:∀ {ps:List Par}{xs:List AV}{us:List Value}{α:Type}{y:outs α (boxes ps)}{m m':Mem}{F S:Nat->Prop}{μ:bS},((boxes ps).all Sh.nF)=true->vE ps xs=true->bV B m w Z μ->cq B m w Z μ F ->
  mg m μ (va (boxes ps))->ARs w Z μ xs us->oQ μ (ps.map Par.v) xs->mX w Z B.Y ps us y S->(∀ b,S b->F b)->rP ps xs y m=some m' ->
  ∃ μ',bV B m' w Z μ'/\dW μ μ'/\m'.roots.length=m.roots.length/\(∀ r,(r < m.cur\/m.cur+va (boxes ps)<=r)->μ r=none->μ' r=none)
 |[],xs,us,α,y,m,m',F,S,μ,ho,hw,hM,hF,hf,hx,hp,hy,hS,h=>by
  simp only [rP,Option.some.injEq] at h;subst h;exact ⟨μ,hM,dW.refl μ,rfl,λ_ _ h=>h⟩
 |.val g s::r,xs,us,α,y,m,m',F,S,μ,ho,hw,hM,hF,hf,hx,hp,hy,hS,h=>by
  match xs,h with
  |x::xs,h =>
   obtain ⟨v,vs',rfl,h1,h2⟩:=hx;obtain ⟨v',vs'',hv,hy⟩:=hy;cases hv;exact sU (ps:=r) ho hw hM hF hf h2 hp.2 hy hS h
 |.obj s::r,xs,us,α,y,m,m',F,S,μ,ho,hw,hM,hF,hf,hx,hp,hy,hS,h=>by
  match xs,h with
  |x::xs,h =>
   obtain ⟨v,vs',rfl,h1,h2⟩:=hx;obtain ⟨v',vs'',S1,S2,hv,s1,s2,s3,hsr,hy⟩:=hy;cases hv;simp only [boxes,List.all_cons,Bool.and_eq_true] at ho;simp only [vE,Bool.and_eq_true] at hw;simp only [rP] at h;split at h
   case h_2=>cases h
   rename_i m1 hb;obtain ⟨μ1,e1,e2,e3,e4,e5,e6⟩:=zr ho.1 hw.1 hM hF (mg.left hf) h1 hp.1 hsr (λb hb=>hS b (s1 b hb)) hb
   have hf1:mg m1 μ1 (va (boxes r)):=λk hk=>by
    obtain ⟨a1,a2⟩:=hf (s.news+k) (by simp only [boxes,va];omega);rw [<- Nat.add_assoc] at a1 a2;rw [e5];obtain ⟨b1,b2⟩:=e6 (m.cur+s.news+k) (by omega);exact ⟨b1 a1,b2 a2 a1⟩
   have hp1:oQ μ1 (r.map Par.v) xs:=oQ.ext e3 hp.2;obtain ⟨μ2,g1,g2,g3,g4⟩:=sU (ps:=r) ho.2 hw.2 e1 e2 hf1 (h2.mono (bX.refl _ _) (λ_ h=>h) e3) hp1 hy (λb hb=>⟨hS b (s2 b hb),λh=>s3 b h hb⟩) h;refine ⟨μ2,g1,e3.trans g2,g3.trans e4,λr' hr' hn=>?_⟩;simp only [boxes,va] at hr';exact g4 r' (by rw [e5];omega) ((e6 r' (by omega)).1 hn)
theorem tF.ok{Y:Nat->Prop}{a:VSh}{v:Value}{x:a.2.den}{S:Nat->Prop}(h:tF w Z Y a v x S):a.2.ok x=true:=by
 obtain ⟨us,_,_,h3⟩:=h;exact h3.ok
theorem lY.ok{Y:Nat->Prop}:∀ {l:List VSh}{vs:List Value}{x:kO l}{S:Nat->Prop},lY w Z Y l vs x S->oks l x=true
 |[],_,_,_,_=>rfl
 |[a],_,_,_,h=>by obtain ⟨v,_,h⟩:=h;exact h.ok
 |a::b::r,_,_,_,h=>by
  obtain ⟨v,vs',S1,S2,_,_,_,_,h1,h2⟩:=h;simp only [oks,h1.ok,lY.ok h2,Bool.and_self]
theorem mX.ok{Y:Nat->Prop}:∀ {ps:List Par}{vs:List Value}{α:Type}{y:outs α (boxes ps)}{S:Nat->Prop}{f:α->Bool},mX w Z Y ps vs y S->f (ld (boxes ps) y)=true->re f (boxes ps) y=true
 |[],_,_,_,_,_,_,hf=>hf
 |.val _ _::r,_,_,_,_,_,h,hf=>by
  obtain ⟨_,_,_,h⟩:=h;exact mX.ok (ps:=r) h hf
 |.obj s::r,_,_,_,_,f,h,hf=>by
  obtain ⟨v,vs',S1,S2,_,_,_,_,h1,h2⟩:=h;simp only [boxes,re,Bool.and_eq_true];refine ⟨hf,mX.ok (ps:=r) h2 ?_⟩;exact h1.ok
theorem lY.sI{Y Y':Nat->Prop}(hy:∀ b,Y b->Y' b):∀ {l:List VSh}{vs:List Value}{x:kO l}{S:Nat->Prop},lY w Z Y l vs x S->lY w Z Y' l vs x S
 |[],_,_,_,h=>h
 |[a],_,_,_,h=>by
  obtain ⟨v,h0,us,h1,h2,h3⟩:=h;exact ⟨v,h0,us,h1,h2,h3.Dv hy⟩
 |a::b::r,_,_,_,h=>by
  obtain ⟨v,vs',S1,S2,h0,h1,h2,h3,⟨us,h4,h5,h6⟩,h7⟩:=h;exact ⟨v,vs',S1,S2,h0,h1,h2,h3,⟨us,h4,h5,h6.Dv hy⟩,h7.sI hy⟩
theorem mX.sI{Y Y':Nat->Prop}(hy:∀ b,Y b->Y' b):∀ {ps:List Par}{vs:List Value}{α:Type}{y:outs α (boxes ps)}{S:Nat->Prop},mX w Z Y ps vs y S->mX w Z Y' ps vs y S
 |[],_,_,_,_,_=>trivial
 |.val _ _::r,_,_,_,_,h=>by
  obtain ⟨v,vs',h0,h⟩:=h;exact ⟨v,vs',h0,mX.sI (ps:=r) hy h⟩
 |.obj s::r,_,_,_,_,h=>by
  obtain ⟨v,vs',S1,S2,h0,h1,h2,h3,h4,h5⟩:=h;exact ⟨v,vs',S1,S2,h0,h1,h2,h3,h4.Dv hy,mX.sI (ps:=r) hy h5⟩
theorem vS{sps:List Spec}{sp:Spec}(h:sp∈sps):sp.news<=sR sps (some sp.f)/\sp.news<=sR sps none:=by
 unfold sR
 have h1:∀ (l:List Spec) (n:Nat),n<=l.foldl (λn sq=>match sq.f == sp.f with|true=>max n sq.news|false=>n) n:=by
  intro l
  induction l with
  |nil=>exact λn=>Nat.le_refl n
  |cons s l ih =>
   intro n;refine Nat.le_trans ?_ (ih _);dsimp only;cases s.f == sp.f
   ·exact Nat.le_refl n
   ·exact Nat.le_max_left _ _
 have h2:∀ (l:List Spec) (n:Nat),n<=l.foldl (λn sq=>max n sq.news) n:=by
  intro l
  induction l with
  |nil=>exact λn=>Nat.le_refl n
  |cons s l ih=>exact λn=>Nat.le_trans (Nat.le_max_left _ _) (ih _)
 have h3:∀ (l:List Spec) (n:Nat),sp∈l->sp.news<=l.foldl (λn sq=>match sq.f == sp.f with|true=>max n sq.news|false=>n) n:=by
  intro l
  induction l with
  |nil=>intro _ h;cases h
  |cons s l ih =>
   intro n hm;rcases List.mem_cons.1 hm with rfl|hm
   ·refine Nat.le_trans ?_ (h1 l _);simp only [beq_self_eq_true];exact Nat.le_max_right _ _
   ·exact ih _ hm
 have h4:∀ (l:List Spec) (n:Nat),sp∈l->sp.news<=l.foldl (λn sq=>max n sq.news) n:=by
  intro l
  induction l with
  |nil=>intro _ h;cases h
  |cons s l ih =>
   intro n hm;rcases List.mem_cons.1 hm with rfl|hm
   ·exact Nat.le_trans (Nat.le_max_right _ _) (h2 l _)
   ·exact ih _ hm
 exact ⟨h3 sps 0 h,h4 sps 0 h⟩
theorem pN{α β:Type}{m:Res α}{k:α->Res β}{Φ:β->Prop}(h:(m.bind k).sat Φ):m.sat λa=>(k a).sat Φ:=Res.yj h
theorem wY{β:Type}{K:AV->Mem->Res β}{Φ:β->Prop}{f:FuncId}{args:List AV}{m:Mem}:∀ {sps:List Spec},(rO sps f args m K).sat Φ ->
  ∃ sp∈sps,sp.f=f/\vE sp.ps args=true/\∃ g m1 x,sS (sp.ps.map Par.v) args m=some (g,m1)/\g m1=some x/\(sp.run x).sat λy =>
   re (oks sp.rs) (boxes sp.ps) y=true->(match rP sp.ps args y (mks sp.rs (ld (boxes sp.ps) y) m1).2 with|some m3=>K (avs sp.rs (mks sp.rs (ld (boxes sp.ps) y) m1).1) m3|none=>Res.stuck).sat Φ
 |[],h=>h.elim
 |sp::r,h=>by
  simp only [rO] at h;have hrec:(rO r f args m K).sat Φ->_:=λh=>wY h;split at h
  ·rename_i hb;simp only [Bool.and_eq_true,beq_iff_eq] at hb;split at h
   ·rename_i g m1 hg;split at h
    ·rename_i x hx;refine ⟨sp,List.mem_cons_self,hb.1,hb.2,g,m1,x,hg,hx,?_⟩;have h:=pN h;refine Res.wR (λy hy hok=>?_) h;split at hy
     ·exact hy
     ·exact sw hy hok
    ·obtain ⟨sp',h1,h2⟩:=hrec h;exact ⟨sp',List.mem_cons_of_mem _ h1,h2⟩
   ·obtain ⟨sp',h1,h2⟩:=hrec h;exact ⟨sp',List.mem_cons_of_mem _ h1,h2⟩
  ·obtain ⟨sp',h1,h2⟩:=hrec h;exact ⟨sp',List.mem_cons_of_mem _ h1,h2⟩
theorem ARs.ret{rs:List VSh}{v:Value}{jX:List Value}{Y:Nat->Prop}{x:kO rs}{S:Nat->Prop}(hr:zN rs v jX)(hv:lY w Z Y rs jX x S){xs:List AV}(h:ARs w Z μ xs jX)(hf:∀ (k:Nat) (h1:k < rs.length) (h2:k < xs.length),xs[k]=pW rs[k].1 xs[k].cells)(hl:xs.length=rs.length):AR w Z μ (avs rs xs) v:=by
 have hnth:∀ {xs:List AV}{jX:List Value},ARs w Z μ xs jX->jX.length=xs.length/\∀ k (h1:k < xs.length) (h2:k < jX.length),AR w Z μ xs[k] jX[k]:=by
  intro xs
  induction xs with
  |nil=>intro jX h;have h:jX=[]:=h;subst h;exact ⟨rfl,λk h=>by simp at h⟩
  |cons x xs ih =>
   rintro _ ⟨v,vs',rfl,h1,h2⟩;obtain ⟨a,b⟩:=ih h2;refine ⟨by simp [a],λk k1 k2=>?_⟩
   cases k with
   |zero=>exact h1
   |succ k=>exact b k (by simpa using k1) (by simpa using k2)
 obtain ⟨n1,n2⟩:=hnth h;by_cases h1:∃ a,rs=[a]
 ·obtain ⟨a,rfl⟩:=h1
  match xs,hl with
  |[x],_ =>
   have hr:jX=[v]:=hr;subst hr;exact n2 0 (by simp) (by simp)
 ·have hr':v=.tuple jX.toArray:=by
   match rs,hr,h1 with
   |[],hr,_=>exact hr
   |[a],_,h1=>exact absurd ⟨a,rfl⟩ h1
   |_::_::_,hr,_=>exact hr
  have ha:avs rs xs=.tup ((rs.zip xs).map λp=>(p.1.1,p.2.cells)):=by
   match rs,xs,h1 with
   |[],_,_=>rfl
   |[a],_,h1=>exact absurd ⟨a,rfl⟩ h1
   |_::_::_,_,_=>rfl
  rw [ha];refine ⟨jX,hr',by simp [n1,hl],λk k1 k2=>?_⟩
  have k3:k < xs.length:=by simp at k1;omega
  have k4:k < rs.length:=by omega
  have g:=n2 k k3 k2;rw [hf k k4 k3] at g;simp only [List.getElem_map,List.getElem_zip]
  cases hb:rs[k].1 with
  |true =>
   rw [hb] at g;obtain ⟨us,g1,g2⟩:=g;exact ⟨us,g1,g2⟩
  |false =>
   rw [hb] at g;simp only
   cases hc:xs[k].cells with
   |nil=>trivial
   |cons c cs=>rw [hc] at g;exact g
theorem xQ:∀ {l:List VSh}{x:kO l}{m:Mem},(mks l x m).1.length=l.length/\∀ (k:Nat) (h1:k < l.length) (h2:k < (mks l x m).1.length),∃ cs,(mks l x m).1[k]=pW l[k].1 cs
 |[],_,_=>⟨rfl,λk h=>by simp at h⟩
 |[a],x,m=>⟨rfl,λk h1 h2=>by
  have:k=0:=by simpa using h1
  subst this
  exact ⟨_,rfl⟩⟩
 |a::b::r,x,m=>by
  obtain ⟨h1,h2⟩:=xQ (l:=b::r) (x:=x.2) (m:=(a.2.mk x.1 m).2);refine ⟨by simp only [mks,List.length_cons] at h1 ⊢;omega,λk k1 k2=>?_⟩
  cases k with
  |zero=>exact ⟨_,rfl⟩
  |succ k=>exact h2 k (by simpa using k1) (by simpa [mks] using k2)
theorem Cm{g:Bool}{cs:List C}{x:AV}(h:x=pW g cs):x=pW g x.cells:=by
 subst h
 cases g with
 |true=>rfl
 |false=>cases cs<;>rfl
theorem Res.Di{α:Type}{m:Res α}{Φ Ψ:α->Prop}(hi:∀ a,Φ a->Ψ a)(hs:m.sat Φ):m.sat Ψ:=Res.wR hi hs
end
section
variable {B:gT}{E:Env}{st:St}{o:Oper}{a:Act}{w:World}{Z:Nat->Prop}{μ:bS}{Φ:St->Prop}
theorem ARs.jX(hR:Rel B st a w Z μ):∀ (l:List Operand),ARs w Z μ (l.map (val st)) (l.map a.eval)
 |[]=>rfl
 |x::l=>⟨_,_,rfl,hR.val x,ARs.jX hR l⟩
theorem ARs.append:∀ {xs ys:List AV}{us vs:List Value},ARs w Z μ xs us->ARs w Z μ ys vs->ARs w Z μ (xs++ys) (us++vs)
 |[],_,us,_,h,h'=>by have h:us=[]:=h;subst h;exact h'
 |x::xs,ys,_,_,⟨v,us',h0,h1,h2⟩,h'=>by subst h0;exact ⟨v,us'++_,rfl,h1,ARs.append h2 h'⟩
theorem ARs.fB:∀ {fB:List Cap}{vs:List Value},vs.length=fB.length->(∀ k (h:k < fB.length) (h':k < vs.length),BL w Z μ fB[k] vs[k])->ARs w Z μ (fB.map λp=>.c p.cell) vs
 |[],vs,h,_=>List.eq_nil_of_length_eq_zero h
 |p::ps,v::vs,h,hc=>⟨v,vs,rfl,by
   have:=hc 0 (by simp) (by simp);simp only [List.getElem_cons_zero] at this
   cases p with
   |root r=>exact this
   |frz e x=>exact this,ARs.fB (by simpa using h) λk h1 h2=>by
   have:=hc (k+1) (by simpa using h1) (by simpa using h2)
   simpa using this⟩
theorem CI(hR:Rel B st a w Z μ)(hE:∀ sp∈E.specs,j9 E.P B.g sp){n:Nat}(hF:oA st n μ)(hn:du E o<=n){c:Call}(ho:o.op=.call c){f:Operand}(hc:c.callee=.value f)(hi:uL E o=none)(h:(step E st o Res.ok).sat Φ) :
  o.wp E.P a w (Nxt B st n Z μ Φ) (λ_ _ _=>False):=by
 simp only [step,fa,ho,hc,hi] at h;have hf:=hR.val f;generalize hqf:val st f=fv at h hf;split at h
 case h_2=>exact h.elim
 rename_i fid fB;obtain ⟨vs,hfv,hl,hcaps⟩:=hf;obtain ⟨sp,hsp,hspf,hobj,g,m1,x,hg,hx,hrun⟩:=wY h;subst hspf;have hargs:ARs w Z μ (c.args.toList.map (val st)++fB.map λp=>.c p.cell) (c.args.toList.map a.eval++vs):=(ARs.jX hR _).append (ARs.fB hl hcaps);generalize hA:(c.args.toList.map (val st)++fB.map λp=>AV.c p.cell)=A at *;generalize hU:(c.args.toList.map a.eval++vs)=U at *;obtain ⟨Z1,F1,S,e1,e2,e3,e4,e5,e6,e7⟩:=vT hR.mem (cq.none B st.mem w Z μ) hargs hg;have hplace:=vX hR.mem (cq.none B st.mem w Z μ) hargs hg
 let V:Nat->Prop:=λb=>(B.Y b\/Z1 b)\/∃ r,gq m1 μ r b
 have hvals:=e7 m1 Z1 V e1 (λ_ h=>h) (λ_ h=>.inl h) (λr b h=>.inr ⟨r,h⟩) x hx;have hct:=hE sp hsp;obtain ⟨fn,hfn,hbody,hname⟩:=hct.fn;have hSF:∀ b,S b->F1 b:=λb hb=>(e5 b hb).1
 have hVS:∀ b,V b->b < w.heap.size/\¬ S b:=by
  rintro b ((hb|hb)|⟨r,hb⟩)
  ·exact ⟨Nat.lt_of_lt_of_le (e1.ny b hb).1 e1.size,λhs=>e2.ny e1 b (hSF b hs) hb⟩
  ·exact ⟨(e1.frz b hb).1,λhs=>(e2.ok b (hSF b hs)).1 hb⟩
  ·exact ⟨by obtain ⟨y,ℓ,h1,h2,h3,h4⟩:=hb;exact (e1.own r y ℓ b h1 h2 h3 h4).2.1,λhs=>e2.off b r (hSF b hs) hb⟩
 have hcall:=hct.run w Z1 V S U x _ hrun e1.zC (λb hb=>(e1.frz b hb).1) hVS (λb hb=>⟨(e2.ok b (hSF b hb)).2.1,(e2.ok b (hSF b hb)).1⟩) hvals
 have hexec:(execOp a.eval o).run E.P w=.ok (.enter sp.f U.toArray) w:=by
  have hU':U.toArray=c.args.map a.eval++vs.toArray:=by
   rw [<- hU];apply Array.ext';simp
  simp only [execOp,ho,resolve,hc,hfv,Deferred.ofValue,Sem.run_bind,Sem.run_pure,Result.andThen_ok,invoke]
  have hb:fn.body.isNone=false:=by cases hfb:fn.body with
   |none=>rw [hfb] at hbody;cases hbody
   |some _=>rfl
  simp only [callFunc];have hprog:(program:Sem Program).run E.P w=.ok E.P w:=rfl;simp only [Sem.run_bind,hprog,Result.andThen_ok,hfn,hname,hb,Bool.false_eq_true,if_false,Sem.run_pure];rw [hU'];simp
 refine sN hexec (Calls.mono hcall ?_);rintro e w' ⟨y,v,jX,Z',S1,S2,rfl,hk,hret,hv1,hv2,hdj,hSS,hzz,hZ',hsz,hkeep,hio⟩;refine ⟨v,rfl,?_⟩;obtain ⟨d1,d2⟩:=oF (w':=w') e1 e2 (λb hb hf=>hkeep b hb λhs=>hf (hSF b hs)) hsz hio
 have hG:∀ b,(Z' b/\¬ Z1 b)->(F1 b\/(w.heap.size<=b/\b < w'.heap.size)):=λb ⟨hb,hn⟩=>by
  obtain ⟨h1,h2⟩:=hZ' b hb;rcases h2 with h2|h2|h2
  ·exact absurd h2 hn
  ·exact .inl (hSF b h2)
  ·exact .inr ⟨h2,h1⟩
 obtain ⟨f1,f2⟩:=zg d1 d2 (G:=λb=>Z' b/\¬ Z1 b) hG
 have hZeq:(λb=>Z1 b\/(Z' b/\¬ Z1 b))=Z':=by
  funext b;refine propext ⟨λh=>h.elim (hzz b) λh=>h.1,λh=>?_⟩;by_cases h1:Z1 b
  ·exact .inl h1
  ·exact .inr ⟨h,h1⟩
 rw [hZeq] at f1 f2
 have hloose:∀ b,S1 b\/S2 b->(F1 b\/(w.heap.size<=b/\b < w'.heap.size))/\¬ (Z' b/\¬ Z1 b):=λb hb=>by
  obtain ⟨h1,h2,h3⟩:=hSS b hb;refine ⟨?_,λh=>h2 h.1⟩;rcases h3 with h3|h3
  ·exact .inl (hSF b h3)
  ·exact .inr ⟨h3,h1⟩
 have hnews:sp.news<=n:=by
  refine Nat.le_trans ?_ hn;obtain ⟨n1,n2⟩:=vS hsp;simp only [du,ho,hc]
  cases f with
  |func g =>
   simp only [val] at hqf;cases hqf
   have hg:(E.inls.find? λi=>i.f == sp.f)=none:=by
    unfold uL at hi;simp only [ho,hc] at hi;split at hi
    ·cases hi
    ·assumption
   simp only [hg];exact n1
  |_=>exact n2
 have hfree:mg m1 μ sp.news:=λk hk=>by
  obtain ⟨a1,a2⟩:=hF k (by omega);rw [e6.cur];exact ⟨a1,e6.dead _ a2⟩
 obtain ⟨μ1,g1,g2,g3,g4⟩:=si f1 f2 hfree.left (hv1.sI λ_ h=>h.elim) (λb hb=>hloose b (.inl hb));have hok:re (oks sp.rs) (boxes sp.ps) y=true:=hv2.ok hv1.ok;have hk:=hk hok;split at hk
 case h_2=>exact hk.elim
 rename_i m3 hb3;have hp1:oQ μ1 (sp.ps.map Par.v) A:=hplace.ext g4.ext;have hZZ:∀ b,Z b->Z' b:=λb hb=>hzz b (e3 b hb);have hsame:bX Z w w':=λb hb=>hkeep b (hR.mem.frz b hb).1 λhs=>(e2.ok b (hSF b hs)).1 (e3 b hb);obtain ⟨μ2,k1,k2,k3,k4⟩:=sU hct.obj hobj g1 g2 (mg.right hfree g4) (hargs.mono hsame hZZ g4.ext) hp1 (hv2.sI λ_ h=>h.elim) (λb hb=>⟨hloose b (.inr hb),λh=>hdj b h hb⟩) hb3;obtain ⟨l1,l2⟩:=xQ (l:=sp.rs) (x:=ld (boxes sp.ps) y) (m:=m1)
 have hav:AR w' Z' μ1 (avs sp.rs (mks sp.rs (ld (boxes sp.ps) y) m1).1) v:=ARs.ret hret hv1 g3 (λk h1 h2=>by
  obtain ⟨cs,hcs⟩:=l2 k h1 h2
  exact Cm hcs) l1
 refine ⟨_,Z',μ2,hR.put k1 hsame hZZ (g4.ext.trans k2) o.dst (hav.mono (bX.refl _ _) (λ_ h=>h) k2),hk,?_,?_,λr hr hn=>?_,hZZ,g4.ext.trans k2⟩
 ·have:m3.roots.length=st.mem.roots.length:=by rw [k3,g4.len,e6.len]
  cases o.dst<;>exact this
 ·cases o.dst<;>rfl
 ·have h1:=e6.cur;have h2:=g4.cur;simp only [Spec.news] at hnews;refine k4 r (by omega) ?_;rw [(g4.old r (by omega)).1];exact hn
end
end Go.Mach

namespace Go.Mach
structure Dq (P:Program) (G:rV) (j:Inl):Prop where
 fn:∃ fn,P.funcs[j.f]?=some fn/\fn.body.isSome=true/\(fn.name == "runtime.NumGoroutine")=false
 run:∀ (B:gT) (β:Type) (Ψ:β->Prop) (xs:List AV) (args:List Value) (m:Mem) (w:World) (Z:Nat->Prop) (μ:bS) (K:AV->Mem->Res β),B.g=G->bV B m w Z μ->ARs w Z μ xs args->(j.run β xs m K).sat Ψ ->
  Calls P j.f args.toArray w λe w'=>∃ vr v m',∃ Z':Nat->Prop,∃ μ',e=.returned vr/\(K v m').sat Ψ/\bV B m' w' Z' μ'/\AR w' Z' μ' v vr/\bX Z w w'/\(∀ b,Z b->Z' b)/\dW μ μ'/\m.roots.length<=m'.roots.length /\
   (∀ r,r < m.roots.length->m'.dR.testBit r=false->m'.roots[r]?=m.roots[r]?)/\(∀ r,m.dR.testBit r=true->m'.dR.testBit r=true)
structure px (E:Env) (G:rV):Prop where
 specs:∀ sp∈E.specs,j9 E.P G sp
 inls:∀ j∈E.inls,Dq E.P G j
theorem px.sE{E:Env}{G:rV}(h:∀ sp∈E.specs,j9 E.P G sp)(hi:E.inls=[]):px E G:=⟨h,λj hj=>by rw [hi] at hj;cases hj⟩
theorem qi{E:Env}{o:Oper}{j:Inl}{xs:List Operand}(h:uL E o=some (j,xs)):∃ c,o.op=.call c/\c.callee=.value (.func j.f)/\xs=c.args.toList/\j∈E.inls/\E.inls.find? (λi=>i.f == j.f)=some j:=by
 unfold uL at h;split at h
 case h_2=>cases h
 rename_i c ho;split at h
 case h_2=>cases h
 rename_i f hc;split at h
 case h_2=>cases h
 rename_i i hi;simp only [Option.some.injEq,Prod.mk.injEq] at h;obtain ⟨rfl,rfl⟩:=h;have:=List.find?_some hi;simp only [beq_iff_eq] at this;subst this;exact ⟨c,ho,hc,rfl,List.mem_of_find?_eq_some hi,hi⟩
theorem sD:∀ {l:List Nat}{r:Nat},r∈l->l[oe l r]?=some r
 |x::l,r,h=>by
  unfold oe;by_cases hx:x=r
  ·subst hx;simp
  ·have:(x == r)=false:=by simpa using hx
   rw [this];simp only [List.getElem?_cons_succ];exact sD (by simpa [Ne.symm hx] using h)
theorem zm:∀ {l:List Nat}{i r:Nat},sG l=true->l[i]?=some r->oe l r=i
 |x::l,0,r,_,h=>by
  simp only [List.getElem?_cons_zero,Option.some.injEq] at h;subst h;simp [oe]
 |x::l,i+1,r,hn,h=>by
  simp only [List.getElem?_cons_succ] at h;simp only [sG,Bool.and_eq_true,Bool.not_eq_true',List.contains_eq_mem,decide_eq_false_iff_not] at hn
  have hx:(x == r)=false:=by
   simp only [beq_eq_false_iff_ne];rintro rfl;exact hn.1 (List.mem_of_getElem? h)
  unfold oe;rw [hx];simp only;rw [zm hn.2 h]
def C.rts:C->List Nat
 |.ref r _=>[r]
 |.ptr r _=>[r]
 |.nc r _ _=>[r]
 |.mp r=>[r]
 |.fn _ fB=>fB.filterMap λp=>match p with|.root r=>some r|_=>none
 |_=>[]
theorem nO:∀ cs:List C,iz cs=cs.flatMap C.rts
 |[]=>rfl
 |c::cs=>by
  have ih:=nO cs
  cases c<;>simp [iz,C.rts,ih]<;>rfl
section
variable {w:World}{Z Y:Nat->Prop}{μ μ2:bS}{f:Nat->Nat}
theorem qB.ren{r off:Nat}{v:Value}(h:qB μ r off v)(hf:μ r≠none->μ2 (f r)=μ r):qB μ2 (f r) off v:=by
 obtain ⟨ℓ,b,h1,h2⟩:=h;exact ⟨ℓ,b,by rw [hf (by rw [h1];simp)];exact h1,h2⟩
theorem CR.ren{c:C}{v:Value}(h:CR w Z μ c v)(hc:c.calm=true)(hf:∀ q∈c.rts,μ q≠none->μ2 (f q)=μ q):CR w Z μ2 (c.ren f) v:=by
 cases c with
 |ref r wd =>
  obtain ⟨ℓ,h1,h2⟩:=h;exact ⟨ℓ,by rw [hf r (by simp [C.rts]) (by rw [h1];simp)];exact h1,h2⟩
 |ptr r off=>exact qB.ren h (hf r (by simp [C.rts]))
 |nc r i off =>
  obtain ⟨ℓ,b,h1,h2⟩:=h;exact ⟨ℓ,b,by rw [hf r (by simp [C.rts]) (by rw [h1];simp)];exact h1,h2⟩
 |stp q=>cases hc
 |mp r=>cases hc
 |fn g fB =>
  obtain ⟨vs,h1,h2,h3⟩:=h;refine ⟨vs,h1,by rw [h2,List.length_map],λk hk hk'=>?_⟩
  have hk2:k < fB.length:=by simpa using hk
  have b:=h3 k hk2 hk';rw [List.getElem_map]
  cases hq:fB[k] with
  |root r =>
   rw [hq] at b;exact qB.ren b (hf r (by simp only [C.rts,List.mem_filterMap];exact ⟨.root r,hq▸List.getElem_mem hk2,rfl⟩))
  |frz e x=>rw [hq] at b;exact b
 |_=>exact h
theorem CRs.ren{cs:List C}{vs:List Value}(h:CRs w Z μ cs vs)(hc:cs.all C.calm=true)(hf:∀ q∈iz cs,μ q≠none->μ2 (f q)=μ q):CRs w Z μ2 (cs.map (C.ren f)) vs:=by
 refine ⟨by rw [List.length_map];exact h.1,λk hk hk'=>?_⟩
 have hk2:k < cs.length:=by simpa using hk
 rw [List.getElem_map];refine (h.2 k hk2 hk').ren (List.all_eq_true.1 hc _ (List.getElem_mem hk2)) λq hq=>hf q ?_;rw [nO,List.mem_flatMap];exact ⟨_,List.getElem_mem hk2,hq⟩
def AV.rts:AV->List Nat
 |.c x=>x.rts
 |.agg cs=>iz cs
 |.tup l=>l.flatMap λp=>iz p.2
theorem AR.ren{x:AV}{v:Value}(h:AR w Z μ x v)(hc:x.calm=true)(hf:∀ q∈x.rts,μ q≠none->μ2 (f q)=μ q):AR w Z μ2 (x.ren f) v:=by
 cases x with
 |c x=>exact CR.ren h hc hf
 |agg cs =>
  obtain ⟨vs,h1,h2⟩:=h;exact ⟨vs,h1,h2.ren hc hf⟩
 |tup l =>
  obtain ⟨vs,h1,h2,h3⟩:=h;refine ⟨vs,h1,by rw [h2,List.length_map],λk hk hk'=>?_⟩
  have hk2:k < l.length:=by simpa using hk
  have b:=h3 k hk2 hk';have hcl:(l[k]).2.all C.calm=true:=List.all_eq_true.1 hc _ (List.getElem_mem hk2)
  have hfl:∀ q∈iz (l[k]).2,μ q≠none->μ2 (f q)=μ q:=λq hq=>hf q (by
   simp only [AV.rts,List.mem_flatMap]
   exact ⟨_,List.getElem_mem hk2,hq⟩)
  rw [List.getElem_map];rcases hl:l[k] with ⟨ag,cs⟩;rw [hl] at b hcl hfl
  cases ag with
  |true =>
   obtain ⟨us,b1,b2⟩:=b;exact ⟨us,b1,b2.ren hcl hfl⟩
  |false =>
   match cs,b,hcl,hfl with
   |c::_,b,hcl,hfl =>
    exact CR.ren b (by simp only [List.all_cons,Bool.and_eq_true] at hcl;exact hcl.1) λq hq=>hfl q (by rw [nO,List.flatMap_cons];exact List.mem_append_left _ hq)
   |[],_,_,_=>trivial
theorem ARs.ren{f:Nat->Nat}:∀ {xs:List AV}{vs:List Value},ARs w Z μ xs vs->(xs.all λx=>x.calm && !x.G0)=true->(∀ q∈iz (xs.flatMap AV.cells),μ q≠none->μ2 (f q)=μ q)->ARs w Z μ2 (xs.map (AV.ren f)) vs
 |[],_,h,_,_=>h
 |x::xs,_,⟨v,vs,h0,h1,h2⟩,hc,hf=>by
  subst h0;simp only [List.all_cons,Bool.and_eq_true] at hc;rw [List.flatMap_cons,nO,List.flatMap_append] at hf;refine ⟨v,vs,rfl,h1.ren hc.1.1 λq hq=>hf q (List.mem_append_left _ ?_),ARs.ren h2 hc.2 λq hq=>hf q (List.mem_append_right _ (by rw [<- nO];exact hq))⟩
  cases x with
  |c x =>
   have hq:q∈x.rts:=hq;simpa [AV.cells] using hq
  |agg cs=>rw [<- nO];exact hq
  |tup l=>simp [AV.G0] at hc
theorem iN.ren{ℓ:Loc}{x:cu}(h:iN w Z Y μ ℓ x)(hc:x.calm=true)(hf:∀ q∈iz x.open,μ q≠none->μ2 (f q)=μ q):iN w Z Y μ2 ℓ (x.ren f):=by
 cases x with
 |dead=>trivial
 |frz e xs=>exact h
 |bor s xs=>exact h
 |sb p xs=>exact h
 |ql cs =>
  obtain ⟨b,h1,h2,us,h3,h4⟩:=h;exact ⟨b,h1,h2,us,h3,h4.ren hc hf⟩
 |box cs =>
  obtain ⟨b,h1,h2,h3,us,h4,h5⟩:=h;exact ⟨b,h1,h2,by rw [List.length_map];exact h3,us,h4,h5.ren hc hf⟩
 |arr s xs foc =>
  cases foc with
  |none=>exact ⟨(λ_ e=>by cases e),h.2.mono (bX.refl _ _) λi us x S _ _ hR=>hR⟩
  |some k =>
   refine ⟨(λg e=>by cases e;exact h.1 k rfl),h.2.mono (bX.refl _ _) λi us x S _ _ hR=>?_⟩;simp only [ElR] at hR ⊢;by_cases hi:k.i=i
   ·rw [if_pos hi] at hR ⊢;exact CRs.ren hR hc hf
   ·rw [if_neg hi] at hR ⊢;exact hR
 |tC _ _ _ _=>cases hc
 |zb _ _ _ _ _ _=>cases hc
 |itr _ _ _ _ _ _=>cases hc
theorem cu.GW(f:Nat->Nat)(x:cu):(x.ren f).jE=x.jE:=by
 cases x<;>try rfl
 case arr s xs foc=>cases foc<;>rfl
theorem cu.IE(f:Nat->Nat){x:cu}(h:x.ren f≠.dead):x≠.dead:=by rintro rfl;exact h rfl
theorem bV.ren{B:gT}{m m2:Mem}(h:bV B m w Z μ)(hr:∀ r2 x2,m2.roots[r2]?=some x2->x2≠.dead->∃ r x,m.roots[r]?=some x/\x2=x.ren f/\f r=r2/\μ2 r2=μ r/\x.calm=true/\(∀ q∈iz x.open,μ q≠none->μ2 (f q)=μ q))
  (hfar:∀ r,m2.roots.length<=r->μ2 r=none):bV B m2 w Z μ2:=by
 have hr':∀ r2 x2,m2.roots[r2]?=some x2->x2.jE=true->∃ r x,m.roots[r]?=some x/\x.jE=true/\f r=r2/\μ2 r2=μ r:=λr2 x2 hx ho=>by
  obtain ⟨r,x,h1,h2,h3,h4,_⟩:=hr r2 x2 hx (by rintro rfl;cases ho);exact ⟨r,x,h1,by rw [h2,cu.GW] at ho;exact ho,h3,h4⟩
 refine ⟨λr2 x2 hx hd=>?_,λr2 s2 x2 y2 ℓ ℓ' hne hx hy hox hoy hl hl'=>?_,λr2 x2 ℓ b hx ho hl=>?_,h.frz,h.tB,h.size,h.rb,hfar,h.ny,h.io⟩
 ·obtain ⟨r,x,h1,rfl,h3,h4,h5,h6⟩:=hr r2 x2 hx hd;obtain ⟨ℓ,g1,g2⟩:=h.rt r x h1 (cu.IE f hd);exact ⟨ℓ,h4.trans g1,g2.ren h5 h6⟩
 ·obtain ⟨r,x,h1,h2,h3,h4⟩:=hr' r2 x2 hx hox;obtain ⟨s,y,k1,k2,k3,k4⟩:=hr' s2 y2 hy hoy;exact h.dj r s x y ℓ ℓ' (by rintro rfl;exact hne (h3.symm.trans k3)) h1 k1 h2 k2 (h4.symm.trans hl) (k4.symm.trans hl')
 ·obtain ⟨r,x,h1,h2,h3,h4⟩:=hr' r2 x2 hx ho;exact h.own r x ℓ b h1 h2 (h4.symm.trans hl)
theorem C.qX{f g:Nat->Nat}{c:C}(h:∀ q∈c.rts,g (f q)=q)(hc:c.calm=true):(c.ren f).ren g=c:=by
 cases c with
 |ref r wd=>simp only [C.ren];rw [h r (by simp [C.rts])]
 |ptr r off=>simp only [C.ren];rw [h r (by simp [C.rts])]
 |nc r i off=>simp only [C.ren];rw [h r (by simp [C.rts])]
 |stp q=>cases hc
 |mp r=>cases hc
 |fn k fB =>
  simp only [C.ren,List.map_map];congr 1
  conv=>rhs;rw [<- List.map_id fB]
  refine List.map_congr_left λp hp=>?_
  cases p with
  |root r=>simp only [Function.comp,Cap.ren];rw [h r (by simp only [C.rts,List.mem_filterMap];exact ⟨_,hp,rfl⟩)];rfl
  |frz e x=>rfl
 |_=>rfl
theorem Cs.qX{f g:Nat->Nat}{cs:List C}(h:∀ q∈iz cs,g (f q)=q)(hc:cs.all C.calm=true):(cs.map (C.ren f)).map (C.ren g)=cs:=by
 rw [List.map_map]
 conv=>rhs;rw [<- List.map_id cs]
 refine List.map_congr_left λc hm=>?_;exact C.qX (λq hq=>h q (by rw [nO,List.mem_flatMap];exact ⟨c,hm,hq⟩)) (List.all_eq_true.1 hc c hm)
theorem cu.qX{f g:Nat->Nat}{x:cu}(h:∀ q∈iz x.open,g (f q)=q)(hc:x.calm=true):(x.ren f).ren g=x:=by
 cases x with
 |box cs =>
  have h':(cs.map (C.ren f)).map (C.ren g)=cs:=Cs.qX h hc;simp only [cu.ren,h']
 |ql cs =>
  have h':(cs.map (C.ren f)).map (C.ren g)=cs:=Cs.qX h hc;simp only [cu.ren,h']
 |arr s xs foc =>
  cases foc with
  |none=>rfl
  |some k =>
   have h':(k.cells.map (C.ren f)).map (C.ren g)=k.cells:=Cs.qX h hc;simp only [cu.ren,h']
 |_=>rfl
end
end Go.Mach

namespace Go.Mach
section
variable {B:gT}{E:Env}{st:St}{o:Oper}{a:Act}{w:World}{Z:Nat->Prop}{μ:bS}{Φ:St->Prop}
theorem Bl{M m:Mem}{l:List Nat}{r:Nat}{x:cu}(hx:M.roots[r]?=some x):(M.lift l m).roots[r]?=some (match l.contains r with
  |true=>match m.dR.testBit (oe l r) with
   |true=>(m.root (oe l r)).ren (oC l M.cur)
   |false=>x
  |false=>match Nat.ble M.cur r && Nat.blt (r-M.cur+l.length) m.roots.length with
   |true=>(m.root (r-M.cur+l.length)).ren (oC l M.cur)
   |false=>x):=by
 simp only [Mem.lift,List.getElem?_map,List.getElem?_zipIdx,hx,Option.map_some,Nat.zero_add];rfl
theorem sM(M m:Mem)(l:List Nat):(M.lift l m).roots.length=M.roots.length:=by simp [Mem.lift]
theorem FP(hR:Rel B st a w Z μ){j:Inl}(hok:Dq E.P B.g j){n:Nat}(hF:oA st n μ)(hn:j.news<=n){cl:Call}(ho:o.op=.call cl)(hcal:cl.callee=.value (.func j.f))
  (h:(BD j (cl.args.toList.map (val st)) st.mem λv m=>Res.ok (st.with o.dst v m)).sat Φ) :
  o.wp E.P a w (Nxt B st n Z μ Φ) (λ_ _ _=>False):=by
 unfold BD at h;split at h
 case h_2=>exact h.elim
 rename_i l _;split at h
 case h_2=>exact h.elim
 rename_i hin;simp only [inlIn,Bool.and_eq_true] at hin;obtain ⟨hnd,hxs,hroots,hlt,hrx,hnx⟩:=hin
 have hlt:∀ r∈l,r < st.mem.roots.length:=λr hr=>by
  have:=List.all_eq_true.1 hlt r hr;simpa [Nat.blt_eq] using this
 have hmem:∀ {r:Nat},l.contains r=true ↔ r∈l:=by intro r;simp
 have hrx:∀ q∈iz ((cl.args.toList.map (val st)).flatMap AV.cells),q∈l:=λq hq=>hmem.1 (List.all_eq_true.1 hrx q hq)
 have hz:∀ r x,st.mem.roots[r]?=some x->(match l.contains r with|true=>x.calm && !x.wS|false=>x.wS)=true:=λr x hx =>
  List.all_eq_true.1 hroots (x,r) (by rw [List.mem_zipIdx_iff_getElem?];exact hx)
 have hin:∀ r∈l,∃ x,st.mem.roots[r]?=some x/\x.calm=true/\x≠.dead:=λr hr=>by
  have hx:=List.getElem?_eq_getElem (hlt r hr);have:=hz r _ hx;rw [hmem.2 hr] at this;simp only [Bool.and_eq_true,Bool.not_eq_true'] at this;exact ⟨_,hx,this.1,by intro hd;rw [hd] at this;cases this.2⟩
 have hout:∀ r x,r ∉ l->st.mem.roots[r]?=some x->x=.dead:=λr x hr hx=>by
  have:=hz r x hx
  have hc:l.contains r=false:=by simpa using hr
  rw [hc] at this
  cases x<;>simp [cu.wS] at this<;>rfl
 have hcl:∀ r∈l,∀ x,st.mem.roots[r]?=some x->∀ q∈iz x.open,q∈l:=λr hr x hx q hq=>hmem.1 (List.all_eq_true.1 hnx q (by
  simp only [Mem.next,List.mem_flatMap]
  exact ⟨r,hr,by rw [hx];exact hq⟩))
 generalize hM:st.mem=M at *
 let μc:bS:=λi=>match l[i]? with
  |some r=>μ r
  |none=>none
 have hμc:∀ i r,l[i]?=some r->μc i=μ r:=λi r hi=>by show (match l[i]? with|some r=>μ r|none=>none)=_;rw [hi]
 have hσ:∀ q∈l,μc (oe l q)=μ q:=λq hq=>hμc _ _ (sD hq);have hmM:bV B M w Z μ:=hM▸hR.mem
 have hMc:bV B ⟨l.map λr=>(M.root r).ren (oe l),0,l.length⟩ w Z μc:=by
  refine bV.ren (f:=oe l) hmM (λi x2 hx2 hd=>?_) λi hi=>?_
  ·have hx2:(l.map λr=>(M.root r).ren (oe l))[i]?=some x2:=hx2;rw [List.getElem?_map] at hx2
   cases hli:l[i]? with
   |none=>rw [hli] at hx2;cases hx2
   |some r =>
    rw [hli] at hx2;simp only [Option.map_some,Option.some.injEq] at hx2;have hr:=List.mem_of_getElem? hli;obtain ⟨x,h1,h2,h3⟩:=hin r hr
    have hroot:M.root r=x:=by simp [Mem.root,h1]
    rw [hroot] at hx2;exact ⟨r,x,h1,hx2.symm,zm hnd hli,hμc i r hli,h2,λq hq _=>hσ q (hcl r hr x h1 q hq)⟩
  ·have hi:(l.map λr=>(M.root r).ren (oe l)).length<=i:=hi;rw [List.length_map] at hi
   show (match l[i]? with|some r=>μ r|none=>none)=none
   rw [List.getElem?_eq_none hi]
 have hargs:ARs w Z μc ((cl.args.toList.map (val st)).map (AV.ren (oe l))) (cl.args.toList.map a.eval) :=
  ARs.ren (ARs.jX hR _) hxs λq hq _=>hσ q (hrx q hq)
 obtain ⟨fn,hfn,hbody,hname⟩:=hok.fn
 have hexec:(execOp a.eval o).run E.P w=.ok (.enter j.f (cl.args.toList.map a.eval).toArray) w:=by
  have hfv:a.eval (.func j.f)=.func (.func j.f) #[] #[]:=rfl;simp only [execOp,ho,resolve,hcal,hfv,Deferred.ofValue,Sem.run_bind,Sem.run_pure,Result.andThen_ok,invoke]
  have hb:fn.body.isNone=false:=by cases hfb:fn.body with
   |none=>rw [hfb] at hbody;cases hbody
   |some _=>rfl
  simp only [callFunc];have hprog:(program:Sem Program).run E.P w=.ok E.P w:=rfl;simp only [Sem.run_bind,hprog,Result.andThen_ok,hfn,hname,hb,Bool.false_eq_true,if_false,Sem.run_pure]
  have:(cl.args.toList.map a.eval).toArray=cl.args.map a.eval:=by
   apply Array.ext';simp
  rw [this];simp
 refine sN hexec (Calls.mono (hok.run B St Φ _ _ _ w Z μc _ rfl hMc hargs h) ?_);rintro e w' ⟨vr,v,m',Z',μ',rfl,hk,hm',hv,hsame,hzz,hext,hlen,hkeep,_⟩;refine ⟨vr,rfl,?_⟩;split at hk
 case h_2=>exact hk.elim
 rename_i hio;simp only [CL,Bool.and_eq_true,Nat.ble_eq] at hio;obtain ⟨hvc,hl1,hl2,hl3,hrc⟩:=hio;have hlen:l.length<=m'.roots.length:=hl1;have hkeep:∀ i,i < l.length->m'.dR.testBit i=false->m'.roots[i]?=(l.map λr=>(M.root r).ren (oe l))[i]?:=λi hi hb=>hkeep i (by show i < (l.map _).length;rw [List.length_map];exact hi) hb;have hfar:∀ i,m'.roots.length<=i->μ' i=none:=hm'.far;have hcalm:∀ (i:Nat) (x:cu),m'.roots[i]?=some x->x.calm=true:=λi x hx=>List.all_eq_true.1 hrc x (List.mem_of_getElem? hx)
 have hcur:∀ k,k < n->μ (M.cur+k)=none/\M.roots[M.cur+k]?=some .dead:=λk hk=>by have:=hF k hk;rw [hM] at this;exact this
 have hslot:∀ r,M.cur<=r->r < M.cur+n->r ∉ l:=λr h1 h2 hr=>by
  obtain ⟨x,g1,_,g3⟩:=hin r hr;have:=(hcur (r-M.cur) (by omega)).2
  rw [show M.cur+(r-M.cur)=r from by omega,g1] at this
  cases this;exact g3 rfl
 let μ2:bS:=λr=>if r∈l then μ' (oe l r) else if M.cur<=r/\r < M.cur+(m'.roots.length-l.length) then μ' (r-M.cur+l.length) else μ r
 have hk2:m'.roots.length-l.length<=n:=by omega
 have hμl:∀ i r,l[i]?=some r->μ2 r=μ' i:=λi r hi=>by
  show (if r∈l then _ else _)=_
  rw [if_pos (List.mem_of_getElem? hi),zm hnd hi]
 have hμn:∀ i,l.length<=i->i < m'.roots.length->μ2 (M.cur+(i-l.length))=μ' i:=λi h1 h2=>by
  show (if M.cur+(i-l.length)∈l then _ else _)=_
  rw [if_neg (hslot _ (by omega) (by omega)),if_pos (by omega)];congr 1;omega
 have hback:∀ i,μ' i≠none->μ2 (oC l M.cur i)=μ' i:=λi hi=>by
  have hi':i < m'.roots.length:=by
   rcases Nat.lt_or_ge i m'.roots.length with h1|h1
   ·exact h1
   ·exact absurd (hfar i h1) hi
  unfold oC
  cases hli:l[i]? with
  |some r=>exact hμl i r hli
  |none =>
   have:l.length<=i:=by simpa using hli
   exact hμn i this hi'
 have hx2:dW μ μ2:=λr ℓ hr=>by
  by_cases hrl:r∈l
  ·have h1:μc (oe l r)=some ℓ:=by rw [hσ r hrl];exact hr
   obtain ⟨S',h2⟩:=hext _ ℓ h1;exact ⟨S',by rw [hμl _ r (sD hrl)];exact h2⟩
  ·refine ⟨ℓ.S,?_⟩
   show (if r∈l then _ else _)=_
   rw [if_neg hrl];by_cases hs:M.cur<=r/\r < M.cur+(m'.roots.length-l.length)
   ·have:=(hcur (r-M.cur) (by omega)).1
    rw [show M.cur+(r-M.cur)=r from by omega,hr] at this
    cases this
   ·rw [if_neg hs];exact hr
 have hout2:∀ r,(r < M.cur\/M.cur+n<=r)->μ r=none->μ2 r=none:=λr hr hn0=>by
  by_cases hrl:r∈l
  ·obtain ⟨x,g1,_,g3⟩:=hin r hrl;obtain ⟨ℓ,g4,_⟩:=hmM.rt r x g1 g3;rw [g4] at hn0;cases hn0
  ·show (if r∈l then _ else _)=_
   rw [if_neg hrl,if_neg (by omega)];exact hn0
 have hM2:bV B (M.lift l m') w' Z' μ2:=by
  refine bV.ren (f:=oC l M.cur) hm' (λr x2 hx hd=>?_) λr hr=>?_
  ·have hrlt:r < M.roots.length:=by rw [<- sM M m' l];exact (List.getElem?_eq_some_iff.1 hx).1
   have hxr:=List.getElem?_eq_getElem hrlt;rw [Bl hxr] at hx;simp only [Option.some.injEq] at hx
   have hgen:∀ (i:Nat) (x:cu),m'.roots[i]?=some x->oC l M.cur i=r->μ2 r=μ' i->x2=x.ren (oC l M.cur)->∃ (r_1:Nat) (x:cu),m'.roots[r_1]?=some x/\x2=x.ren (oC l M.cur)/\oC l M.cur r_1=r/\μ2 r=μ' r_1/\x.calm=true/\(∀ q∈iz x.open,μ' q≠none->μ2 (oC l M.cur q)=μ' q) :=
    λi x h1 h2 h3 h4=>⟨i,x,h1,h4,h2,h3,hcalm i x h1,λq _ hq=>hback q hq⟩
   have hroot:∀ i,i < m'.roots.length->m'.roots[i]?=some (m'.root i):=λi hi=>by simp [Mem.root,List.getElem?_eq_getElem hi]
   by_cases hrl:r∈l
   ·have hp:=sD hrl;have hpl:oe l r < l.length:=(List.getElem?_eq_some_iff.1 hp).1
    have hb:oC l M.cur (oe l r)=r:=by simp [oC,hp]
    rw [hmem.2 hrl] at hx
    cases hbit:m'.dR.testBit (oe l r) with
    |true =>
     rw [hbit] at hx;exact hgen _ _ (hroot _ (by omega)) hb (hμl _ _ hp) hx.symm
    |false =>
     rw [hbit] at hx;have h1:=hkeep _ hpl hbit;rw [List.getElem?_map,hp] at h1;simp only [Option.map_some] at h1
     have hrt:M.root r=M.roots[r]:=by simp [Mem.root,hxr]
     rw [hrt] at h1;obtain ⟨x,g1,g2,g3⟩:=hin r hrl;rw [hxr] at g1;cases g1;refine hgen _ _ h1 hb (hμl _ _ hp) ?_;rw [cu.qX (λq hq=>?_) g2]
     ·exact hx.symm
     ·have hql:=hcl r hrl _ hxr q hq;have:=sD hql;simp [oC,this]
   ·have hc:l.contains r=false:=by simpa using hrl
    rw [hc] at hx
    cases hbb:(Nat.ble M.cur r && Nat.blt (r-M.cur+l.length) m'.roots.length) with
    |true =>
     rw [hbb] at hx;simp only [Bool.and_eq_true,Nat.ble_eq,Nat.blt_eq] at hbb;refine hgen _ _ (hroot _ hbb.2) ?_ ?_ hx.symm
     ·unfold oC;rw [List.getElem?_eq_none (by omega)];simp only;omega
     ·have:=hμn (r-M.cur+l.length) (by omega) hbb.2
      rw [show M.cur+(r-M.cur+l.length-l.length)=r from by omega] at this
      exact this
    |false =>
     rw [hbb] at hx;exact absurd (hx.symm.trans (hout r _ hrl hxr)) hd
  ·rw [sM] at hr
   show (if r∈l then _ else _)=_
   rw [if_neg (λh=>by have:=hlt r h;omega),if_neg (by omega)];exact hmM.far r hr
 have hv2:AR w' Z' μ2 (v.ren (oC l M.cur)) vr:=hv.ren hvc λq _ hq=>hback q hq;have oq:=hR.put hM2 hsame hzz hx2 o.dst hv2;refine ⟨_,Z',μ2,oq,hk,?_,?_,?_,hzz,hx2⟩
 ·cases o.dst<;>simp [St.with,St.put,sM,hM]
 ·cases o.dst<;>rfl
 ·rw [hM];exact hout2
end
end Go.Mach

namespace Go.Mach
section
variable {B:gT}{E:Env}{st:St}{o:Oper}{a:Act}{w:World}{Z:Nat->Prop}{μ:bS}{Φ:St->Prop}
theorem tT(hR:Rel B st a w Z μ)(hE:px E B.g){n:Nat}(hn:du E o<=n)(hF:oA st n μ)(h:(step E st o Res.ok).sat Φ) :
  o.wp E.P a w (Nxt B st n Z μ Φ) (λ_ _ _=>False):=by
 cases hop:o.op with
 |move x=>exact Cr hR n hop h
 |assign x=>exact zd hR n hop h
 |pick c x y=>exact DT hR n hop h
 |alloc T=>exact Bw hR hF (by simpa [du,hop] using hn) hop h
 |box T x=>exact Fx hR hF (by simpa [du,hop] using hn) hop h
 |build T parts=>exact Aa hR n hop h
 |buildSlice T k parts=>exact vB hR hF (by simpa [du,hop] using hn) hop h
 |load T x=>exact DH hR n hop h
 |store T x y=>exact Ax hR n hop h
 |nilCheck x=>exact xY hR n hop h
 |binOp op t x y u=>exact Fv hR n hop h
 |unOp op t x=>exact DW hR n hop h
 |convert src dst x =>
  refine xv hR hF (λhb=>?_) hop h;unfold wB at hb;split at hb
  ·rename_i el he;simpa [du,hop,he] using hn
  ·cases hb
 |makeFunc fn first fB =>
  cases fn with
  |func f=>exact xV hR n hop h
  |_=>simp only [step,fa,hop] at h;exact h.elim
 |makeSlice T l c=>exact vl hR hF (by simpa [du,hop] using hn) hop h
 |slice t x lo hi mx =>
  cases mx with
  |none =>
   cases hna:ve E.P t with
   |none=>exact BA hR n hop hna h
   |some p=>exact xS hR hF hop hna (by simpa [du,hop,hna] using hn) h
  |some _=>simp only [step,fa,hop] at h;exact h.elim
 |fieldAddr t x f=>exact vg hR n hop h
 |field t x f=>exact Bz hR n hop h
 |indexAddr t x i =>
  cases hna:ve E.P t with
  |none=>exact vh hR hF hop hna hn h
  |some q=>exact wi hR n hop hna h
 |index t x i=>exact Br hR n hop h
 |extract t i=>exact yL hR n hop h
 |call c =>
  cases hc:c.callee with
  |value f =>
   cases hi:uL E o with
   |none =>
    exact CI hR hE.specs hF hn hop hc hi h
   |some p =>
    obtain ⟨j,xs⟩:=p;obtain ⟨c',h1,h2,rfl,h4,h5⟩:=qi hi;rw [hop] at h1;cases h1;rw [hc] at h2;cases h2;simp only [step,fa,hop,hc,hi] at h;refine FP hR (hE.inls j h4) hF (Nat.le_trans ?_ hn) hop hc h;simp only [du,hop,hc,h5];exact Nat.le_refl _
  |builtin b =>
   cases b with
   |len=>exact Ee hR n hop hc h
   |append=>exact AO hR hF (by simpa [du,hop,hc] using hn) hop hc h
   |copy=>exact De hR n hop hc h
   |min=>exact FN hR n hop hc h
   |max=>exact En hR n hop hc h
   |_=>simp only [step,fa,hop,hc] at h;exact h.elim
  |invoke _ _=>simp only [step,fa,hop,hc] at h;exact h.elim
 |_=>simp only [step,fa,hop] at h;exact h.elim
end
section
variable {β:Type}
theorem Res.kI{α:Type}(b:Bool)(x:Res α)(k:α->Res β):(Res.aZ b x).bind k=Res.aZ b (x.bind k):=by cases b<;>rfl
theorem Res.tq{α:Type}(b:Bool)(x:Res α)(k:α->Res β):(Res.given b x).bind k=Res.given b (x.bind k):=rfl
theorem Res.AQ{α:Type}(b:Bool)(x y:Res α)(k:α->Res β):(Res.br b x y).bind k=Res.br b (x.bind k) (y.bind k):=by cases b<;>rfl
theorem Res.qH{α:Type}(t:Ty)(xs:List t.den)(i:Int)(f:t.den->Res α)(k:α->Res β):(Res.idx t xs i f).bind k=Res.idx t xs i λx=>(f x).bind k:=by
 unfold Res.idx;split
 ·split
  ·rw [Res.tq]
  ·rfl
 ·rfl
theorem Res.yc{α:Type}(t:Sh)(xs:List t.den)(i:Int)(f:t.den->Res α)(k:α->Res β):(Res.cO t xs i f).bind k=Res.cO t xs i λx=>(f x).bind k:=by
 unfold Res.cO;split
 ·split
  ·rw [Res.tq]
  ·rfl
 ·rfl
theorem Res.bind_assoc{α γ:Type}(m:Res α)(f:α->Res γ)(k:γ->Res β):(m.bind f).bind k=m.bind λx=>(f x).bind k:=by
 induction m with
 |ok a=>rfl
 |stuck=>rfl
 |given b m ih=>exact congrArg (Res.given b) ih
def nP(v:AV)(m:Mem):Res (AV×Mem):=.ok (v,m)
theorem Ec{t:Bool}{a b:AV}(M:Mem)(K:AV->Mem->Res β):wb t a b (λv=>K v M)=(wb t a b λv=>nP v M).bind λp=>K p.1 p.2:=by
 unfold wb;split
 ·rfl
 ·rw [Res.AQ];rfl
theorem HG{P:Program}{t:TypeId}{c:Bool}{op:BinOp}{x y:AV}(M:Mem)(K:AV->Mem->Res β):vm P t c op x y (λv=>K v M)=(vm P t c op x y λv=>nP v M).bind λp=>K p.1 p.2:=by
 unfold vm;split
 ·rw [Res.kI];rfl
 ·rw [Res.kI];rfl
 ·split
  ·rfl
  ·split<;>first|rfl|(rw [Res.kI];rfl)
 ·split<;>first|rfl|(rw [Res.kI];rfl)
 ·split<;>rfl
 ·split<;>rfl
 ·rfl
theorem wh{α:Type}{xs:List α}{lo hi:Bnd}(f:List α->AV)(M:Mem)(K:AV->Mem->Res β):xp xs lo hi (λv=>K (f v) M)=(xp xs lo hi λv=>nP (f v) M).bind λp=>K p.1 p.2:=by
 unfold xp
 split<;>first|rfl|(rw [Res.kI];rfl)
theorem Hm{o n:Nat}{lo hi:Bnd}(f:Win->AV)(M:Mem)(K:AV->Mem->Res β):zu o n lo hi (λv=>K (f v) M)=(zu o n lo hi λv=>nP (f v) M).bind λp=>K p.1 p.2:=by
 unfold zu
 split<;>first|rfl|(rw [Res.kI];rfl)
theorem C2{m:Mem}{x:AV}{lo hi:Bnd}(M:Mem)(K:AV->Mem->Res β):tj m x lo hi (λv=>K v M)=(tj m x lo hi λv=>nP v M).bind λp=>K p.1 p.2:=by
 unfold tj;split
 ·exact wh (λs=>.c (.str s)) M K
 ·exact wh (λxs=>.c (.lst _ xs)) M K
 ·exact wh (λ_=>.c .na) M K
 ·split
  ·split
   ·rfl
   ·exact Hm (λw=>.c (.ref _ w)) M K
  ·rfl
 ·rfl
theorem wM{m:Mem}{x i:AV}(K:AV->Mem->Res β):mi m x i K=(mi m x i nP).bind λp=>K p.1 p.2:=by
 unfold mi;split
 ·rw [Res.qH];rfl
 ·split
  ·rw [Res.kI];rfl
  ·split
   ·rw [Res.kI];rfl
   ·rw [Res.yc];rfl
   ·rfl
  ·rw [Res.qH];rfl
  ·rw [Res.yc];rfl
  ·rfl
 ·rfl
theorem Fj{m:Mem}{n:Nat}{a:AV}(f:List C->AV)(M:Mem)(K:AV->Mem->Res β):rN m n a (λcs=>K (f cs) M)=(rN m n a λcs=>nP (f cs) M).bind λp=>K p.1 p.2:=by
 unfold rN;split
 ·split
  ·split<;>rfl
  ·split<;>rfl
  ·rfl
 ·split<;>rfl
 ·split
  ·rw [Res.qH];congr 1;funext x
   split<;>rfl
  ·rw [Res.kI];congr 1
   split<;>rfl
  ·rfl
 ·rfl
theorem CS{m:Mem}{a:AV}{vs:List C}(v:AV)(K:AV->Mem->Res β):uy m a vs (λm=>K v m)=(uy m a vs λm=>nP v m).bind λp=>K p.1 p.2:=by
 unfold uy;split
 ·split
  ·split<;>rfl
  ·rfl
 ·split
  ·rw [Res.qH];congr 1;funext x;split
   ·split<;>rfl
   ·rfl
  ·rw [Res.kI];congr 1
   split<;>rfl
  ·rfl
 ·rfl
theorem Ak{P:Program}{m:Mem}{el:TypeId}{s:Sh}{d v:AV}(K:AV->Mem->Res β):sf P m el s d v K=(sf P m el s d v nP).bind λp=>K p.1 p.2:=by
 unfold sf;split
 ·split
  ·rw [Res.kI];rfl
  ·rfl
 ·split
  ·split
   ·split
    ·split
     ·rw [Res.kI];rfl
     ·rfl
    ·rfl
   ·rfl
  ·rfl
 ·rfl
theorem Fl{m:Mem}{e:Ty}{d:AV}{ys:List e.den}(K:AV->Mem->Res β):yg m e d ys K=(yg m e d ys nP).bind λp=>K p.1 p.2:=by
 unfold yg;split
 ·split
  ·split<;>rfl
  ·rfl
 ·rfl
theorem sx{f:FuncId}{args:List AV}{m:Mem}(K:AV->Mem->Res β):∀ (sps:List Spec),rO sps f args m K=(rO sps f args m nP).bind λp=>K p.1 p.2
 |[]=>rfl
 |sp::r=>by
  simp only [rO];split
  ·split
   ·split
    ·rw [Res.bind_assoc];congr 1;funext y;split
     ·split<;>rfl
     ·rw [Res.tq];congr 1
      split<;>rfl
    ·exact sx K r
   ·exact sx K r
  ·exact sx K r
theorem yC{E:Env}{m:Mem}{n:Nat}{el:TypeId}{x:AV}(K:AV->Mem->Res β):pJ E m n el x K=(pJ E m n el x nP).bind λp=>K p.1 p.2:=by
 unfold pJ;split
 ·split
  ·split
   ·split<;>rfl
   ·rfl
  ·rfl
 ·rfl
theorem GD{j:Inl}{xs:List AV}{M:Mem}(K:AV->Mem->Res β):BD j xs M K=(BD j xs M nP).bind λp=>K p.1 p.2:=by
 unfold BD;split
 ·split
  ·rw [j.cps β]
   conv=>rhs;rw [j.cps (AV×Mem),Res.bind_assoc]
   congr 1;funext p
   split<;>rfl
  ·rfl
 ·rfl
theorem pI(E:Env)(ρ:Operand->AV)(M:Mem)(o:Oper)(K:AV->Mem->Res β):fa E ρ M o K=(fa E ρ M o nP).bind λp=>K p.1 p.2:=by
 unfold fa;split
 ·rfl
 ·rfl
 ·split
  ·exact Ec M K
  ·rfl
 ·split
  ·split<;>rfl
  ·split<;>rfl
 ·split<;>rfl
 ·split
  ·split<;>rfl
  ·rfl
 ·split
  ·split
   ·split
    ·split
     ·split<;>rfl
     ·rfl
    ·rfl
   ·rfl
  ·rfl
 ·split
  ·exact Fj (λcs=>pW _ cs) M K
  ·rfl
 ·split
  ·exact CS _ K
  ·rfl
 ·split<;>rfl
 ·split
  ·rfl
  ·exact HG M K
 ·split<;>rfl
 ·split
  ·split<;>rfl
  ·split
   ·rfl
   ·split<;>rfl
   ·rfl
  ·split<;>rfl
  ·rfl
 ·split<;>rfl
 ·split
  ·split
   ·split
    ·rw [Res.kI];rfl
    ·rfl
   ·rfl
  ·rfl
 ·split
  ·split
   ·exact yC K
   ·rfl
  ·split
   ·split
    ·exact C2 M K
    ·rfl
   ·rfl
 ·split
  ·split<;>rfl
  ·rfl
 ·split
  ·split<;>rfl
  ·rfl
 ·split
  ·split<;>rfl
  ·split
   ·exact wM K
   ·rfl
 ·split
  ·rw [Res.qH];rfl
  ·rfl
 ·split
  ·split<;>rfl
  ·rfl
 ·split
  ·split
   ·exact GD K
   ·split
    ·exact sx K _
    ·rfl
  ·split
   ·split<;>rfl
   ·rfl
  ·split
   ·split
    ·split
     ·split
      ·exact Ak K
      ·rfl
     ·rfl
    ·rfl
   ·rfl
  ·split
   ·split
    ·split
     ·split
      ·exact Fl K
      ·rfl
     ·rfl
    ·rfl
   ·rfl
  ·split<;>rfl
  ·split<;>rfl
  ·rfl
 ·rfl
end
end Go.Mach

namespace Go.Mach
structure Touch (m m':Mem) (n:Nat):Prop where
 len:m'.roots.length=m.roots.length
 cur:m'.cur=m.cur+n
 dR:∀ r,m.dR.testBit r=true->m'.dR.testBit r=true
 same:∀ r,(r < m.cur\/m.cur+n<=r)->m'.dR.testBit r=false->m'.roots[r]?=m.roots[r]?
namespace Touch
variable {m m' m'':Mem}{a b:Nat}
theorem refl(m:Mem):Touch m m 0:=⟨rfl,rfl,λ_ h=>h,λ_ _ _=>rfl⟩
theorem trans(h:Touch m m' a)(h':Touch m' m'' b):Touch m m'' (a+b):=by
 refine ⟨h'.len.trans h.len,by rw [h'.cur,h.cur,Nat.add_assoc],λr hr=>h'.dR r (h.dR r hr),λr hr hb=>?_⟩
 have h1:m'.dR.testBit r=false:=by
  cases hq:m'.dR.testBit r with
  |false=>rfl
  |true=>rw [h'.dR r hq] at hb;cases hb
 have h2:=h.cur;rw [h'.same r (by omega) hb,h.same r (by omega) h1]
theorem lK(h:Touch m m' 0)(h':Touch m' m'' b):Touch m m'' b:=by have:=h.trans h';rwa [Nat.zero_add] at this
theorem DN(h:Touch m m' a)(h':Touch m' m'' 0):Touch m m'' a:=by have:=h.trans h';rwa [Nat.add_zero] at this
theorem set(m:Mem)(r:Nat)(x:cu):Touch m (m.set r x) 0:=by
 refine ⟨by simp [Mem.set],rfl,λs hs=>by simp [Mem.set,Nat.testBit_or,hs],λs _ hb=>?_⟩;simp only [Mem.set,Nat.testBit_or,Bool.or_eq_false_iff,Nat.testBit_two_pow,decide_eq_false_iff_not] at hb;simp only [Mem.set];rw [List.getElem?_set_ne hb.2]
theorem push(m:Mem)(x:cu):Touch m (m.push x) 1:=by
 refine ⟨by simp [Mem.push],rfl,λs hs=>hs,λs hs _=>?_⟩;simp only [Mem.push];rw [List.getElem?_set_ne (by omega)]
theorem move(m:Mem)(q r:Nat):Touch m (m.move q r) 0:=by
 refine ⟨by simp [Mem.move],rfl,λs hs=>by simp [Mem.move,Nat.testBit_or,hs],λs _ hb=>?_⟩;simp only [Mem.move,Nat.testBit_or,Bool.or_eq_false_iff,Nat.testBit_two_pow,decide_eq_false_iff_not] at hb;simp only [Mem.move];rw [List.getElem?_set_ne hb.2.1,List.getElem?_set_ne hb.2.2]
end Touch
theorem oP:∀ {cs:List C}{m m':Mem},mZ cs m=some m'->Touch m m' 0
 |[],m,m',h=>by simp only [mZ,Option.some.injEq] at h;subst h;exact Touch.refl _
 |c::cs,m,m',h=>by
  by_cases hr:∃ r wd,c=.ref r wd
  ·obtain ⟨r,wd,rfl⟩:=hr;simp only [mZ] at h;split at h
   ·split at h
    ·exact (Touch.set m _ _).lK (oP h)
    ·cases h
   ·exact oP h
   ·cases h
  ·have h':mZ cs m=some m':=by
    cases c with
    |ref q wq=>exact absurd ⟨q,wq,rfl⟩ hr
    |_=>simpa only [mZ] using h
   exact oP h'
theorem mT:∀ (s:Sh){cs rest:List C}{x:s.den}{m m':Mem},s.get cs m=some (x,rest,m')->Touch m m' 0
 |.nil,cs,rest,x,m,m',h=>by simp only [Sh.get,Option.some.injEq,Prod.mk.injEq] at h;obtain ⟨_,_,rfl⟩:=h;exact Touch.refl _
 |.undef,cs,rest,x,m,m',h=>by
  match cs,h with
  |c::cs,h=>simp only [Sh.get,Option.some.injEq,Prod.mk.injEq] at h;obtain ⟨_,_,rfl⟩:=h;exact Touch.refl _
 |.sb p,cs,rest,x,m,m',h=>by
  match cs,h with
  |.ptr r 0::cs,h =>
   simp only [Sh.get] at h;split at h
   case h_2=>cases h
   split at h
   case h_2=>cases h
   simp only [Option.some.injEq,Prod.mk.injEq] at h;obtain ⟨_,_,rfl⟩:=h;exact Touch.set _ _ _
 |.opq,cs,rest,x,m,m',h=>by
  match cs,h with
  |c::cs,h =>
   simp only [Sh.get] at h;split at h
   ·simp only [Option.some.injEq,Prod.mk.injEq] at h;obtain ⟨_,_,rfl⟩:=h;exact Touch.refl _
   ·cases h
 |.err,cs,rest,x,m,m',h=>by
  match cs,h with
  |.err b::cs,h=>simp only [Sh.get,Option.some.injEq,Prod.mk.injEq] at h;obtain ⟨_,_,rfl⟩:=h;exact Touch.refl _
 |.kN,cs,rest,x,m,m',h=>by
  match cs,h with
  |.kN::cs,h=>simp only [Sh.get,Option.some.injEq,Prod.mk.injEq] at h;obtain ⟨_,_,rfl⟩:=h;exact Touch.refl _
 |.frz t,cs,rest,x,m,m',h=>by
  simp only [Sh.get] at h;split at h
  case h_2=>cases h
  split at h
  case h_2=>cases h
  rename_i hfz;simp only [Option.some.injEq,Prod.mk.injEq] at h;obtain ⟨_,_,rfl⟩:=h;exact oP hfz
 |.own s,cs,rest,x,m,m',h=>by
  match cs,h with
  |.na::cs,h=>simp only [Sh.get,Option.some.injEq,Prod.mk.injEq] at h;obtain ⟨_,_,rfl⟩:=h;exact Touch.refl _
  |.ref r wd::cs,h =>
   simp only [Sh.get] at h;split at h
   case h_2=>cases h
   split at h
   case h_2=>cases h
   split at h
   ·simp only [Option.some.injEq,Prod.mk.injEq] at h;obtain ⟨_,_,rfl⟩:=h;exact Touch.set _ _ _
   ·split at h
    case h_2=>cases h
    rename_i hy;simp only [Option.some.injEq,Prod.mk.injEq] at h;obtain ⟨_,_,rfl⟩:=h;exact (Touch.set _ _ _).lK (mT s hy)
 |.map n s,cs,rest,x,m,m',h=>by
  match cs,h with
  |.mp r::cs,h =>
   simp only [Sh.get] at h;split at h
   case h_2=>cases h
   split at h
   case h_2=>cases h
   split at h
   ·simp only [Option.some.injEq,Prod.mk.injEq] at h;obtain ⟨_,_,rfl⟩:=h;exact Touch.set _ _ _
   ·split at h
    case h_2=>cases h
    rename_i hy;simp only [Option.some.injEq,Prod.mk.injEq] at h;obtain ⟨_,_,rfl⟩:=h;exact (Touch.set _ _ _).lK (mT s hy)
 |.box s,cs,rest,x,m,m',h=>by
  match cs,h with
  |.ptr r 0::cs,h =>
   simp only [Sh.get] at h;split at h
   case h_2=>cases h
   split at h
   case h_2=>cases h
   rename_i hy;simp only [Option.some.injEq,Prod.mk.injEq] at h;obtain ⟨_,_,rfl⟩:=h;exact (Touch.set _ _ _).lK (mT s hy)
 |.clo f s,cs,rest,x,m,m',h=>by
  match cs,h with
  |.fn g fB::cs,h =>
   simp only [Sh.get] at h;split at h
   case h_2=>cases h
   rename_i hy;simp only [Option.some.injEq,Prod.mk.injEq] at h;obtain ⟨_,_,rfl⟩:=h;exact mT s hy
 |.seq a b,cs,rest,x,m,m',h=>by
  simp only [Sh.get] at h;split at h
  case h_2=>cases h
  rename_i ha;split at h
  case h_2=>cases h
  rename_i hb;simp only [Option.some.injEq,Prod.mk.injEq] at h;obtain ⟨_,_,rfl⟩:=h;exact (mT a ha).lK (mT b hb)
 |.bor s,cs,rest,x,m,m',h=>by
  simp only [Sh.get] at h;split at h
  case h_2=>cases h
  simp only [Option.some.injEq,Prod.mk.injEq] at h;obtain ⟨_,_,rfl⟩:=h;exact Touch.refl _
theorem oJ:∀ (s:Sh) (x:s.den) (m:Mem),Touch m (s.mkB x m).2 s.news
 |.nil,_,m=>Touch.refl m
 |.undef,_,m=>Touch.refl m
 |.kN,_,m=>Touch.refl m
 |.err,_,m=>Touch.refl m
 |.opq,_,m=>Touch.refl m
 |.sb _,_,m=>Touch.push m _
 |.frz _,_,m=>Touch.refl m
 |.own _,_,m=>Touch.push m _
 |.box s,x,m=>(oJ s x m).trans (Touch.push _ _)
 |.clo _ s,x,m=>oJ s x m
 |.map _ _,_,m=>Touch.push m _
 |.seq a b,x,m=>(oJ a x.1 m).trans (oJ b x.2 _)
 |.bor s,x,m=>oJ s x m
theorem oX:∀ (s:Sh) (x:s.den) (m:Mem),Touch m (s.mk x m).2 s.news
 |.nil,_,m=>Touch.refl m
 |.undef,_,m=>Touch.refl m
 |.kN,_,m=>Touch.refl m
 |.err,_,m=>Touch.refl m
 |.opq,_,m=>Touch.refl m
 |.sb _,_,m=>Touch.push m _
 |.frz _,_,m=>Touch.refl m
 |.own _,_,m=>Touch.push m _
 |.box s,x,m=>(oX s x m).trans (Touch.push _ _)
 |.clo _ s,x,m=>oX s x m
 |.map _ _,_,m=>Touch.push m _
 |.seq a b,x,m=>(oX a x.1 m).trans (oX b x.2 _)
 |.bor s,x,m=>oJ s x m
theorem vJ:∀ (l:List VSh) (x:kO l) (m:Mem),Touch m (mks l x m).2 (nG l)
 |[],_,m=>Touch.refl m
 |[a],x,m=>oX a.2 x m
 |a::b::r,x,m=>(oX a.2 x.1 m).trans (vJ (b::r) x.2 _)
theorem ta{a:VSh}{v:AV}{m m':Mem}{x:a.2.den}(h:xw a v m=some (x,m')):Touch m m' 0:=by
 unfold xw at h;split at h
 case h_2=>cases h
 rename_i hg;simp only [Option.some.injEq,Prod.mk.injEq] at h;obtain ⟨_,rfl⟩:=h;exact mT _ hg
theorem wT:∀ {l:List VSh}{vs:List AV}{m m':Mem}{x:kO l},wX l vs m=some (x,m')->Touch m m' 0
 |[],vs,m,m',x,h=>by
  match vs,h with
  |[],h=>simp only [wX,Option.some.injEq,Prod.mk.injEq] at h;obtain ⟨_,rfl⟩:=h;exact Touch.refl _
 |[a],vs,m,m',x,h=>by
  match vs,h with
  |[v],h=>exact ta h
 |a::b::r,vs,m,m',x,h=>by
  match vs,h with
  |v::vs,h =>
   simp only [wX] at h;split at h
   case h_2=>cases h
   rename_i hg;split at h
   case h_2=>cases h
   rename_i hgs;simp only [Option.some.injEq,Prod.mk.injEq] at h;obtain ⟨_,rfl⟩:=h;exact (ta hg).lK (wT hgs)
theorem xO{a:VSh}{v:AV}{m m':Mem}{g:Mem->Option a.2.den}(h:B9 a v m=some (g,m')):Touch m m' 0:=by
 unfold B9 at h;split at h
 ·split at h
  ·simp only [Option.some.injEq,Prod.mk.injEq] at h;obtain ⟨_,rfl⟩:=h;exact Touch.refl _
  ·cases h
 ·split at h
  case h_2=>cases h
  rename_i hg;simp only [Option.some.injEq,Prod.mk.injEq] at h;obtain ⟨_,rfl⟩:=h;exact ta hg
theorem vd:∀ {l:List VSh}{vs:List AV}{m m':Mem}{g:Mem->Option (kO l)},sS l vs m=some (g,m')->Touch m m' 0
 |[],vs,m,m',x,h=>by
  match vs,h with
  |[],h=>simp only [sS,Option.some.injEq,Prod.mk.injEq] at h;obtain ⟨_,rfl⟩:=h;exact Touch.refl _
 |[a],vs,m,m',x,h=>by
  match vs,h with
  |[v],h=>exact xO h
 |a::b::r,vs,m,m',x,h=>by
  match vs,h with
  |v::vs,h =>
   simp only [sS] at h;split at h
   case h_2=>cases h
   rename_i hg;split at h
   case h_2=>cases h
   rename_i hgs;simp only [Option.some.injEq,Prod.mk.injEq] at h;obtain ⟨_,rfl⟩:=h;exact (xO hg).lK (vd hgs)
theorem zS{s:Sh}{v:AV}{x:s.den}{m m':Mem}(h:wg s v x m=some m'):Touch m m' s.news:=by
 have ht:=oX s x m;unfold wg at h;generalize hmk:s.mk x m=k at h ht;obtain ⟨cs,m1⟩:=k;simp only at h ht;split at h
 case h_2=>cases h
 split at h
 ·unfold Mem.Gy at h;split at h
  case h_2=>cases h
  cases h;exact ht.DN (Touch.move _ _ _)
 ·cases h;exact ht
theorem rY:∀ {ps:List Par}{xs:List AV}{α:Type}{y:outs α (boxes ps)}{m m':Mem},rP ps xs y m=some m'->Touch m m' (va (boxes ps))
 |[],xs,α,y,m,m',h=>by simp only [rP,Option.some.injEq] at h;subst h;exact Touch.refl _
 |.val g s::r,xs,α,y,m,m',h=>by
  match xs,h with
  |x::xs,h=>exact rY (ps:=r) h
 |.obj s::r,xs,α,y,m,m',h=>by
  match xs,h with
  |x::xs,h =>
   simp only [rP] at h;split at h
   case h_2=>cases h
   rename_i hb;exact (zS hb).trans (rY (ps:=r) h)
def uA(m m':Mem)(n:Nat):Prop:=∃ k,k<=n/\Touch m m' k
theorem Touch.le{m m':Mem}{n k:Nat}(h:Touch m m' k)(hk:k<=n):uA m m' n:=⟨k,hk,h⟩
def Ends(n:Nat)(M:Mem)(r:Res (AV×Mem)):Prop:=∀ v m',r.strip=some (v,m')->uA M m' n
section
variable {M:Mem}{n:Nat}
theorem Ends.stuck:Ends n M .stuck:=λ_ _ h=>by cases h
theorem Ends.val{v:AV}:Ends n M (nP v M):=λ_ _ h=>by cases h;exact (Touch.refl M).le (Nat.zero_le _)
theorem Ends.ok{v:AV}{m:Mem}(h:uA M m n):Ends n M (nP v m):=λ_ _ e=>by cases e;exact h
theorem Ends.aZ{b:Bool}{r:Res (AV×Mem)}(h:Ends n M r):Ends n M (Res.aZ b r):=by cases b;exact Ends.stuck;exact h
theorem Ends.given{b:Bool}{r:Res (AV×Mem)}(h:Ends n M r):Ends n M (Res.given b r):=h
theorem Ends.br{b:Bool}{r r':Res (AV×Mem)}(h:Ends n M r)(h':Ends n M r'):Ends n M (Res.br b r r'):=by cases b;exact h';exact h
theorem Ends.idx{t:Ty}{xs:List t.den}{i:Int}{f:t.den->Res (AV×Mem)}(h:∀ x,Ends n M (f x)):Ends n M (Res.idx t xs i f):=by
 unfold Res.idx;split
 ·split
  ·exact (h _).given
  ·exact Ends.stuck
 ·exact Ends.stuck
theorem Ends.cO{t:Sh}{xs:List t.den}{i:Int}{f:t.den->Res (AV×Mem)}(h:∀ x,Ends n M (f x)):Ends n M (Res.cO t xs i f):=by
 unfold Res.cO;split
 ·split
  ·exact (h _).given
  ·exact Ends.stuck
 ·exact Ends.stuck
theorem Ends.bind{α:Type}{m:Res α}{f:α->Res (AV×Mem)}(h:∀ x,Ends n M (f x)):Ends n M (m.bind f):=by
 intro v m' e;rw [Res.ky] at e
 cases hs:m.strip with
 |none=>rw [hs] at e;cases e
 |some a=>rw [hs] at e;exact h a v m' e
end
theorem Ch{m m0:Mem}{r:Nat}(h:m.shut r=some m0):Touch m m0 0:=by
 unfold Mem.shut at h;split at h
 ·split at h
  case h_2=>cases h
  rename_i hg;cases h;exact (Touch.set _ _ _).lK ((mT _ hg).lK (Touch.set _ _ _))
 ·cases h;exact Touch.refl _
 ·cases h
theorem uY{m md m1:Mem}{s:Sh}{v:AV}{ys:List s.den}(h:uq m md s v=some (ys,m1)):Touch md m1 0:=by
 unfold uq at h;split at h
 ·split at h
  ·simp only [Option.some.injEq,Prod.mk.injEq] at h;obtain ⟨_,rfl⟩:=h;exact Touch.refl _
  ·cases h
 ·simp only [Option.some.injEq,Prod.mk.injEq] at h;obtain ⟨_,rfl⟩:=h;exact Touch.refl _
 ·split at h
  ·split at h
   ·simp only [Option.some.injEq,Prod.mk.injEq] at h;obtain ⟨_,rfl⟩:=h;exact Touch.set _ _ _
   ·cases h
  ·cases h
 ·cases h
theorem qo(s:Sh):∀ (n:Nat){cs:List C}{xs:List s.den}{m m':Mem},getAll s n cs m=some (xs,m')->Touch m m' 0
 |0,cs,xs,m,m',h=>by
  match cs,h with
  |[],h=>simp only [getAll,Option.some.injEq,Prod.mk.injEq] at h;obtain ⟨_,rfl⟩:=h;exact Touch.refl _
 |n+1,cs,xs,m,m',h=>by
  simp only [getAll] at h;split at h
  case h_2=>cases h
  rename_i hg;split at h
  case h_2=>cases h
  rename_i hr;simp only [Option.some.injEq,Prod.mk.injEq] at h;obtain ⟨_,rfl⟩:=h;exact (mT s hg).lK (qo s n hr)
theorem DQ{n:Nat}{M:Mem}{t:Bool}{a b:AV}:Ends n M (wb t a b λv=>nP v M):=by
 unfold wb;split
 ·exact Ends.val
 ·exact Ends.val.br Ends.val
theorem Fg{n:Nat}{M:Mem}{P:Program}{t:TypeId}{c:Bool}{op:BinOp}{x y:AV}:Ends n M (vm P t c op x y λv=>nP v M):=by
 unfold vm;split
 ·exact Ends.val.aZ
 ·exact Ends.val.aZ
 ·split
  ·exact Ends.stuck
  ·split<;>first|exact Ends.val|exact Ends.val.aZ|exact Ends.stuck
 ·split<;>first|exact Ends.val|exact Ends.val.aZ|exact Ends.stuck
 ·split<;>first|exact Ends.val|exact Ends.stuck
 ·split<;>first|exact Ends.val|exact Ends.stuck
 ·exact Ends.stuck
theorem vC{n:Nat}{M:Mem}{α:Type}{xs:List α}{lo hi:Bnd}{f:List α->AV}:Ends n M (xp xs lo hi λv=>nP (f v) M):=by
 unfold xp
 split<;>first|exact Ends.val|exact Ends.val.aZ
theorem E1{n:Nat}{M:Mem}{o k:Nat}{lo hi:Bnd}{f:Win->AV}:Ends n M (zu o k lo hi λv=>nP (f v) M):=by
 unfold zu
 split<;>first|exact Ends.val|exact Ends.val.aZ
theorem Av{n:Nat}{M m:Mem}{x:AV}{lo hi:Bnd}:Ends n M (tj m x lo hi λv=>nP v M):=by
 unfold tj;split
 ·exact vC (f:=λs=>.c (.str s))
 ·exact vC (f:=λxs=>.c (.lst _ xs))
 ·exact vC (f:=λ_=>.c .na)
 ·split
  ·split
   ·exact Ends.val
   ·exact E1 (f:=λw=>.c (.ref _ w))
  ·exact Ends.stuck
 ·exact Ends.stuck
theorem wO{n:Nat}{f:FuncId}{args:List AV}{m:Mem}:∀ {sps:List Spec},(∀ sp∈sps,sp.f=f->sp.news<=n)->Ends n m (rO sps f args m nP)
 |[],_=>Ends.stuck
 |sp::r,hn=>by
  have ih:=wO (n:=n) (f:=f) (args:=args) (m:=m) (sps:=r) λs hs=>hn s (List.mem_cons_of_mem _ hs);simp only [rO];split
  ·rename_i hb;simp only [Bool.and_eq_true,beq_iff_eq] at hb;have hle:=hn sp List.mem_cons_self hb.1;split
   ·rename_i g m1 hg;split
    ·refine Ends.bind λy=>?_
     have key:∀ {m3:Mem},rP sp.ps args y (mks sp.rs (ld (boxes sp.ps) y) m1).2=some m3->uA m m3 n:=λh3 =>
      Touch.le ((vd hg).lK ((vJ _ _ _).trans (rY h3))) hle
     split
     ·split
      ·exact Ends.ok (key (by assumption))
      ·exact Ends.stuck
     ·refine Ends.given ?_;split
      ·exact Ends.ok (key (by assumption))
      ·exact Ends.stuck
    ·exact ih
   ·exact ih
  ·exact ih
theorem sF:∀ (l:List Nat) (d r:Nat),d.testBit r=true->(l.foldl (λd r=>d ||| 2^r) d).testBit r=true
 |[],_,_,h=>h
 |x::l,d,r,h=>by
  rw [List.foldl_cons];exact sF l _ r (by rw [Nat.testBit_or,h,Bool.true_or])
theorem uO:∀ (l:List Nat) (d r:Nat),r∈l->(l.foldl (λd r=>d ||| 2^r) d).testBit r=true
 |x::l,d,r,h=>by
  rw [List.foldl_cons];rcases List.mem_cons.1 h with rfl|h
  ·exact sF l _ _ (by simp [Nat.testBit_or,Nat.testBit_two_pow_self])
  ·exact uO l _ r h
theorem EZ{j:Inl}{xs:List AV}{M:Mem}:Ends j.news M (BD j xs M nP):=by
 unfold BD;split
 ·rename_i l _;split
  ·rename_i hin;rw [j.cps];refine Ends.bind λp=>?_;split
   ·rename_i hio;refine Ends.ok ⟨p.2.roots.length-l.length,?_,sM M p.2 l,rfl,λr hr=>sF _ _ _ hr,λr hr hb=>?_⟩
    ·simp only [CL,Bool.and_eq_true,Nat.ble_eq] at hio;omega
    ·cases hx:M.roots[r]? with
     |none =>
      rw [List.getElem?_eq_none_iff] at hx ⊢;rw [sM];exact hx
     |some x =>
      rw [Bl hx];congr 1
      cases hc:l.contains r with
      |true =>
       simp only
       cases hbit:p.2.dR.testBit (oe l r) with
       |false=>rfl
       |true =>
        have:(M.lift l p.2).dR.testBit r=true:=uO _ _ _ (by
         simp only [List.mem_filter]
         exact ⟨by simpa using hc,hbit⟩)
        rw [this] at hb;cases hb
      |false =>
       simp only
       have:(Nat.ble M.cur r && Nat.blt (r-M.cur+l.length) p.2.roots.length)=false:=by
        rw [Bool.and_eq_false_iff];rcases hr with hr|hr
        ·left
         cases h:Nat.ble M.cur r with
         |false=>rfl
         |true=>rw [Nat.ble_eq] at h;omega
        ·right
         cases h:Nat.blt (r-M.cur+l.length) p.2.roots.length with
         |false=>rfl
         |true =>
          rw [Nat.blt_eq] at h;omega
       rw [this]
   ·exact Ends.stuck
  ·exact Ends.stuck
 ·exact Ends.stuck
theorem xb(E:Env)(ρ:Operand->AV)(hρ:∀ g,ρ (.func g)=.c (.fn g []))(M:Mem)(o:Oper):Ends (du E o) M (fa E ρ M o nP):=by
 unfold fa;split
 ·exact Ends.val
 ·exact Ends.val
 ·split
  ·exact DQ
  ·exact Ends.stuck
 ·rename_i ho;split
  ·split
   ·exact Ends.ok ((Touch.push _ _).le (by simp [du,ho]))
   ·exact Ends.stuck
  ·split
   ·exact Ends.ok ((Touch.push _ _).le (by simp [du,ho]))
   ·exact Ends.stuck
 ·rename_i ho;split
  ·exact Ends.ok ((Touch.push _ _).le (by simp [du,ho]))
  ·exact Ends.stuck
 ·split
  ·split
   ·exact Ends.val
   ·exact Ends.stuck
  ·exact Ends.stuck
 ·rename_i ho;split
  ·split
   ·split
    ·split
     ·split
      ·rename_i hg;exact Ends.ok (((qo _ _ hg).lK (Touch.push _ _)).le (by simp [du,ho]))
      ·exact Ends.stuck
     ·exact Ends.stuck
    ·exact Ends.stuck
   ·exact Ends.stuck
  ·exact Ends.stuck
 ·split
  ·unfold rN;split
   ·split
    ·split<;>first|exact Ends.val|exact Ends.stuck
    ·split<;>first|exact Ends.val|exact Ends.stuck
    ·exact Ends.stuck
   ·split<;>first|exact Ends.val|exact Ends.stuck
   ·split
    ·refine Ends.idx λx=>?_
     split<;>first|exact Ends.val|exact Ends.stuck
    ·refine Ends.aZ ?_
     split<;>first|exact Ends.val|exact Ends.stuck
    ·exact Ends.stuck
   ·exact Ends.stuck
  ·exact Ends.stuck
 ·split
  ·unfold uy;split
   ·split
    ·split
     ·exact Ends.ok ((Touch.set _ _ _).le (Nat.zero_le _))
     ·exact Ends.stuck
    ·exact Ends.stuck
   ·split
    ·refine Ends.idx λx=>?_;split
     ·split
      ·rename_i hg;exact Ends.ok (((Touch.set _ _ _).lK ((mT _ hg).lK (Touch.set _ _ _))).le (Nat.zero_le _))
      ·exact Ends.stuck
     ·exact Ends.stuck
    ·refine Ends.aZ ?_;split
     ·exact Ends.ok ((Touch.set _ _ _).le (Nat.zero_le _))
     ·exact Ends.stuck
    ·exact Ends.stuck
   ·exact Ends.stuck
  ·exact Ends.stuck
 ·split<;>first|exact Ends.val|exact Ends.stuck
 ·split
  ·exact Ends.val
  ·exact Fg
 ·split<;>first|exact Ends.val|exact Ends.stuck
 ·rename_i ho;split
  ·split<;>first|exact Ends.val|exact Ends.stuck
  ·split
   ·exact Ends.val
   ·rename_i hd;split
    ·exact Ends.ok ((Touch.push _ _).le (by simp [du,ho,hd]))
    ·exact Ends.stuck
   ·exact Ends.stuck
  ·split<;>first|exact Ends.val|exact Ends.stuck
  ·exact Ends.stuck
 ·split<;>first|exact Ends.val|exact Ends.stuck
 ·rename_i ho;split
  ·split
   ·split
    ·exact (Ends.ok ((Touch.push _ _).le (by simp [du,ho]))).aZ
    ·exact Ends.stuck
   ·exact Ends.stuck
  ·exact Ends.stuck
 ·rename_i t _ _ _ ho;split
  ·rename_i hp;split
   ·unfold pJ;split
    ·split
     ·split
      ·split
       ·rename_i hg;exact Ends.ok (((Touch.set _ _ _).lK ((qo _ _ hg).lK (Touch.push _ _))).le (by simp [du,ho,hp]))
       ·exact Ends.stuck
      ·exact Ends.stuck
     ·exact Ends.stuck
    ·exact Ends.stuck
   ·exact Ends.stuck
  ·split
   ·split
    ·exact Av
    ·exact Ends.stuck
   ·exact Ends.stuck
 ·split
  ·split<;>first|exact Ends.val|exact Ends.stuck
  ·exact Ends.stuck
 ·split
  ·split<;>first|exact Ends.val|exact Ends.stuck
  ·exact Ends.stuck
 ·split
  ·split<;>first|exact Ends.val|exact Ends.stuck
  ·split
   ·rename_i hb;simp only [Bool.and_eq_true,decide_eq_true_eq] at hb;have hn:=hb.2;unfold mi;split
    ·exact Ends.idx λ_=>Ends.val
    ·rename_i r w k ix hx _;rw [hx] at hn;simp only [Mem.newsAt] at hn;split
     ·exact Ends.val.aZ
     ·rename_i s xs foc hne hr;split
      ·exact Ends.val.aZ
      ·refine Ends.cO λx=>Ends.ok (((Touch.set _ _ _).lK ((oX _ _ _).DN (Touch.set _ _ _))).le ?_);rw [hr] at hn
       cases s with
       |frz e=>exact (hne e xs rfl HEq.rfl rfl).elim
       |_=>exact hn
      ·exact Ends.stuck
     ·exact Ends.idx λ_=>Ends.val
     ·rename_i s xs hr;rw [hr] at hn;exact Ends.cO λx=>Ends.ok (((oJ _ _ _).trans (Touch.push _ _)).le hn)
     ·exact Ends.stuck
    ·exact Ends.stuck
   ·exact Ends.stuck
 ·split
  ·exact Ends.idx λ_=>Ends.val
  ·exact Ends.stuck
 ·split
  ·split<;>first|exact Ends.val|exact Ends.stuck
  ·exact Ends.stuck
 ·rename_i c ho;split
  ·rename_i f hc;split
   ·rename_i j xs hi;obtain ⟨c',h1,h2,_,_,h5⟩:=qi hi;rw [ho] at h1;cases h1
    have hnews:du E o=j.news:=by simp only [du,ho,h2,h5]
    rw [hnews];exact EZ
   ·rename_i hi;split
    ·rename_i fid fB hf;refine wO λsp hs he=>?_;obtain ⟨n1,n2⟩:=vS hs;simp only [du,ho,hc]
     cases f with
     |func g =>
      rw [hρ] at hf;cases hf
      have hg:(E.inls.find? λi=>i.f == fid)=none:=by
       unfold uL at hi;simp only [ho,hc] at hi;split at hi
       ·cases hi
       ·assumption
      rw [he] at n1;simp only [hg];exact n1
     |_=>exact n2
    ·exact Ends.stuck
  ·split
   ·split<;>first|exact Ends.val|exact Ends.stuck
   ·exact Ends.stuck
  ·rename_i hc;split
   ·split
    ·split
     ·split
      ·unfold sf;split
       ·split
        ·rename_i hs;exact (Ends.ok (((uY hs).lK (Touch.push _ _)).le (by simp [du,ho,hc]))).aZ
        ·exact Ends.stuck
       ·split
        ·rename_i hsh;split
         ·split
          ·split
           ·rename_i hs;exact (Ends.ok (((Ch hsh).lK ((Touch.set _ _ _).lK ((uY hs).lK (Touch.push _ _)))).le (by simp [du,ho,hc]))).aZ
           ·exact Ends.stuck
          ·exact Ends.stuck
         ·exact Ends.stuck
        ·exact Ends.stuck
       ·exact Ends.stuck
      ·exact Ends.stuck
     ·exact Ends.stuck
    ·exact Ends.stuck
   ·exact Ends.stuck
  ·split
   ·split
    ·split
     ·split
      ·unfold yg;split
       ·split
        ·split
         ·exact Ends.ok ((Touch.set _ _ _).le (Nat.zero_le _))
         ·exact Ends.stuck
        ·exact Ends.stuck
       ·exact Ends.stuck
      ·exact Ends.stuck
     ·exact Ends.stuck
    ·exact Ends.stuck
   ·exact Ends.stuck
  ·split<;>first|exact Ends.val|exact Ends.stuck
  ·split<;>first|exact Ends.val|exact Ends.stuck
  ·exact Ends.stuck
 ·exact Ends.stuck
end Go.Mach

namespace Go.Mach
theorem Au{β:Type}{E:Env}{ρ ρ':Operand->AV}{M:Mem}{o:Oper}{K:AV->Mem->Res β}(h:∀ x∈o.op.operands,ρ x=ρ' x):fa E ρ M o K=fa E ρ' M o K:=by
 obtain ⟨dst,op,type,pos,after,guard⟩:=o
 have pairs:∀ ps:Array (Nat×Operand),(∀ x∈(ps.toList.map (·.2)).toArray,ρ x=ρ' x)->(ps.toList.map λp=>(p.1,ρ p.2))=(ps.toList.map λp=>(p.1,ρ' p.2)):=λps hp =>
  List.map_congr_left λp hm=>by
   rw [hp p.2 (by simp only [List.mem_toArray,List.mem_map];exact ⟨p,hm,rfl⟩)]
 cases op<;>simp only [Op.operands] at h<;>simp only [fa]
 case build t ps=>rw [pairs ps h]
 case buildSlice t n ps=>rw [pairs ps h]
 case makeFunc fn first captured =>
  have h1:captured.toList.map (λx=>(ρ x).cap)=captured.toList.map (λx=>(ρ' x).cap):=List.map_congr_left λx hx=>by rw [h x (by simp;exact .inr (by simpa using hx))]
  have h2:(captured.toList.all λx=>(ρ x).Bq)=(captured.toList.all λx=>(ρ' x).Bq):=by
   rw [Bool.eq_iff_iff];simp only [List.all_eq_true];constructor
   ·intro g x hx;rw [<- h x (by simp;exact .inr (by simpa using hx))];exact g x hx
   ·intro g x hx;rw [h x (by simp;exact .inr (by simpa using hx))];exact g x hx
  cases fn<;>simp only [h1,h2]
 case slice t x lo hi mx =>
  have h0:ρ x=ρ' x:=h x (by simp)
  have h1:lo.map ρ=lo.map ρ':=by cases lo with
   |none=>rfl
   |some y=>simp only [Option.map_some];rw [h y (by simp)]
  have h2:hi.map ρ=hi.map ρ':=by cases hi with
   |none=>rfl
   |some y=>simp only [Option.map_some];rw [h y (by simp)]
  cases mx<;>simp only [h0,h1,h2]
 case call c =>
  have hargs:c.args.toList.map ρ=c.args.toList.map ρ':=List.map_congr_left λx hx=>h x (by simp [Call.operands];exact .inr (by simpa using hx))
  cases hc:c.callee with
  |value f =>
   have hf:ρ f=ρ' f:=h f (by simp [Call.operands,hc])
   cases hi:uL E ⟨dst,.call c,type,pos,after,guard⟩ with
   |none=>simp only [hf,hargs]
   |some p =>
    obtain ⟨j,xs⟩:=p;obtain ⟨c',h1,_,rfl,_⟩:=qi hi;cases h1;simp only [hargs]
  |invoke r m=>rfl
  |builtin b =>
   cases b<;>simp only [hargs]
   case len =>
    split
    ·rename_i x t ts hx ht;have:ρ x=ρ' x:=h x (by simp [Call.operands];right;rw [<- Array.mem_toList_iff,hx];simp);rw [this]
    ·rfl
   case append =>
    split
    ·rename_i d s T U r hx ht;have h1:ρ d=ρ' d:=h d (by simp [Call.operands];right;rw [<- Array.mem_toList_iff,hx];simp);have h2:ρ s=ρ' s:=h s (by simp [Call.operands];right;rw [<- Array.mem_toList_iff,hx];simp);rw [h1,h2]
    ·rfl
   case copy =>
    split
    ·rename_i d s T r hx ht;have h1:ρ d=ρ' d:=h d (by simp [Call.operands];right;rw [<- Array.mem_toList_iff,hx];simp);have h2:ρ s=ρ' s:=h s (by simp [Call.operands];right;rw [<- Array.mem_toList_iff,hx];simp);rw [h1,h2]
    ·rfl
 all_goals (first|rfl|(simp at h;simp only [h]))
theorem yX(l:List Nat):∀ (xs:List cu) (i k:Nat),(tH l i xs)[k]?=(xs[k]?).map λx=>if l.contains (i+k)=true then x else .dead
 |[],_,k=>by simp [tH]
 |x::xs,i,0=>by
  simp only [tH,List.getElem?_cons_zero,Option.map_some,Nat.add_zero]
  cases l.contains i<;>rfl
 |x::xs,i,k+1=>by
  simp only [tH,List.getElem?_cons_succ]
  rw [yX l xs (i+1) k,show i+1+k=i+(k+1) from by omega]
theorem yM(l:List Nat):∀ (xs ys:List cu) (i k:Nat),xs.length=ys.length->(tJ l i xs ys)[k]?=if l.contains (i+k)=true then ys[k]? else xs[k]?
 |[],[],_,k,_=>by simp [tJ]
 |x::xs,y::ys,i,0,_=>by
  simp only [tJ,List.getElem?_cons_zero,Nat.add_zero]
  cases l.contains i<;>simp
 |x::xs,y::ys,i,k+1,h=>by
  simp only [tJ,List.getElem?_cons_succ]
  rw [yM l xs ys (i+1) k (by simpa using h),show i+1+k=i+(k+1) from by omega]
theorem uU(l:List Nat):∀ (xs ys:List cu) (i:Nat),(tJ l i xs ys).length=xs.length
 |[],_,_=>rfl
 |x::xs,ys,i=>by simp only [tJ,List.length_cons,uU l xs]
def i7.has:i7->Nat->Prop
 |some l,r=>l.contains r=true
 |none,_=>True
theorem sT(m:Mem)(c:Nat)(R:i7)(r:Nat):(R.has r->(m.view c R).roots[r]?=m.roots[r]?)/\(¬ R.has r->(m.view c R).roots[r]?=(m.roots[r]?).map λ_=>.dead):=by
 cases R with
 |none=>exact ⟨λ_=>rfl,λh=>absurd trivial h⟩
 |some l =>
  have h1:=yX l m.roots 0 r;rw [Nat.zero_add] at h1;refine ⟨λ(h:l.contains r=true)=>?_,λ(h:¬ l.contains r=true)=>?_⟩
  ·show (tH l 0 m.roots)[r]?=_;rw [h1];simp only [h,if_true,Option.map_id']
  ·show (tH l 0 m.roots)[r]?=_;rw [h1];simp only [h,if_false];rfl
theorem sQ(m:Mem)(c:Nat)(R:i7):(m.view c R).roots.length=m.roots.length:=by
 cases R with
 |none=>rfl
 |some l =>
  have:∀ (xs:List cu) (i:Nat),(tH l i xs).length=xs.length:=by
   intro xs
   induction xs with
   |nil=>intro _;rfl
   |cons x xs ih=>intro i;simp [tH,ih]
  exact this _ _
theorem sO{m m1:Mem}(hl:m.roots.length=m1.roots.length)(W:i7)(r:Nat):(W.has r->(m.over m1 W).roots[r]?=m1.roots[r]?)/\(¬ W.has r->(m.over m1 W).roots[r]?=m.roots[r]?):=by
 cases W with
 |none=>exact ⟨λ_=>rfl,λh=>absurd trivial h⟩
 |some l =>
  cases l with
  |nil=>exact ⟨λh=>by simp [i7.has] at h,λ_=>rfl⟩
  |cons a l =>
   have h1:=yM (a::l) m.roots m1.roots 0 r hl;rw [Nat.zero_add] at h1;refine ⟨λ(h:(a::l).contains r=true)=>?_,λ(h:¬ (a::l).contains r=true)=>?_⟩
   ·show (tJ (a::l) 0 m.roots m1.roots)[r]?=_;rw [h1,if_pos h]
   ·show (tJ (a::l) 0 m.roots m1.roots)[r]?=_;rw [h1,if_neg h]
theorem vU{m m1:Mem}(hl:m.roots.length=m1.roots.length)(W:i7):(m.over m1 W).roots.length=m.roots.length:=by
 cases W with
 |none=>exact hl.symm
 |some l =>
  cases l with
  |nil=>rfl
  |cons a l=>exact uU _ _ _ _
section
variable {B:gT}{E:Env}{w w':World}{Z Z':Nat->Prop}{μ μ1:bS}
def pP{m:Mem}(h:bV B m w Z μ)(R:i7):gT:=⟨w,λb=>∃ r,R.has r/\gq m μ r b,Z,B.Y,B.g,h.zC.1,λb hb=>⟨h.zC.2 b hb,(h.frz b (h.zC.2 b hb)).1,λ⟨r,_,y,ℓ,h1,h2,h3,h4⟩=>(h.own r y ℓ b h1 h2 h3 h4).1 (h.zC.2 b hb)⟩⟩
theorem Bo{m:Mem}(h:bV B m w Z μ)(c:Nat)(R:i7):bV (pP h R) (m.view c R) w Z μ:=by
 have hv:∀ r x,(m.view c R).roots[r]?=some x->x≠.dead->R.has r/\m.roots[r]?=some x:=by
  intro r x hx hd;by_cases hr:R.has r
  ·exact ⟨hr,by rw [<- (sT m c R r).1 hr];exact hx⟩
  ·rw [(sT m c R r).2 hr] at hx
   cases hm:m.roots[r]? with
   |none=>rw [hm] at hx;cases hx
   |some y=>rw [hm] at hx;cases hx;exact absurd rfl hd
 have hdead:∀ {x:cu},x.jE=true->x≠.dead:=by rintro _ h rfl;simp [cu.jE] at h
 refine ⟨λr x hx hd=>h.rt r x (hv r x hx hd).2 hd,λr s x y ℓ ℓ' hrs hx hy hox hoy=>h.dj r s x y ℓ ℓ' hrs (hv r x hx (hdead hox)).2 (hv s y hy (hdead hoy)).2 hox hoy,λr x ℓ b hx ho hl hb=>?_,λb hb=>⟨(h.frz b hb).1,.inl hb⟩,λ_ h=>h,Nat.le_refl _,λ_ _ _=>rfl,λr hr=>h.far r (by rw [sQ] at hr;exact hr),λb hb=>⟨Nat.lt_of_lt_of_le (h.ny b hb).1 h.size,?_⟩,Io.refl _⟩
 ·obtain ⟨h1,h2⟩:=hv r x hx (hdead ho);obtain ⟨h3,h4,_⟩:=h.own r x ℓ b h2 ho hl hb;exact ⟨h3,h4,.inr ⟨r,h1,x,ℓ,h2,ho,hl,hb⟩⟩
 ·rintro ⟨r,_,x,ℓ,h1,h2,h3,h4⟩;have h5:=(h.own r x ℓ b h1 h2 h3 h4).2.2;have h6:=h.ny b hb;rcases h5 with h5|h5
  ·omega
  ·exact h6.2 h5
open Classical in
theorem unmask{m m1 mf:Mem}{R:i7}(h:bV B m w Z μ)(h1:bV (pP h R) m1 w' Z' μ1)(he:dW μ μ1)(hz:∀ b,Z b->Z' b)(D:Nat->Prop)
  (hD:∀ r,D r->mf.roots[r]?=m1.roots[r]?\/mf.roots[r]?=some .dead) (hnD:∀ r,¬ D r->mf.roots[r]?=m.roots[r]?/\¬ R.has r) (hl:mf.roots.length=m.roots.length) (hl1:m1.roots.length=m.roots.length)
  (hout:∀ r,¬ D r->μ r=none->μ1 r=none) :
  ∃ μ2,bV B mf w' Z' μ2/\dW μ1 μ2/\dW μ μ2/\∀ r,μ1 r=none->μ r=none->μ2 r=none:=by
 have hdead:∀ {x:cu},x.jE=true->x≠.dead:=by rintro _ h rfl;simp [cu.jE] at h
 let μ2:bS:=λr=>if D r then μ1 r else μ r
 have hμD:∀ r,D r->μ2 r=μ1 r:=λr h=>if_pos h;have hμN:∀ r,¬ D r->μ2 r=μ r:=λr h=>if_neg h
 have he12:dW μ1 μ2:=λr ℓ hr=>by
  by_cases hd:D r
  ·exact ⟨ℓ.S,by rw [hμD r hd,hr]⟩
  ·cases hm:μ r with
   |none=>rw [hout r hd hm] at hr;cases hr
   |some ℓ0 =>
    obtain ⟨S',h2⟩:=he r ℓ0 hm;rw [hr] at h2;cases h2;exact ⟨ℓ0.S,by rw [hμN r hd,hm]⟩
 have hsz:w.heap.size<=w'.heap.size:=h1.size
 have hoff:∀ r x ℓ b,¬ D r->m.roots[r]?=some x->x.jE=true->μ r=some ℓ->ℓ.S b->¬ (pP h R).A b:=by
  rintro r x ℓ b hd hx ho hl' hb ⟨s,hs,y,ℓ',k1,k2,k3,k4⟩
  have hrs:r≠s:=by rintro rfl;exact (hnD r hd).2 hs
  exact h.dj r s x y ℓ ℓ' hrs hx k1 ho k2 hl' k3 b hb k4
 have hAin:∀ b,(pP h R).A b->¬ Z b/\b < w.heap.size/\(B.w0.heap.size<=b\/B.A b):=by
  rintro b ⟨s,hs,y,ℓ',k1,k2,k3,k4⟩;exact h.own s y ℓ' b k1 k2 k3 k4
 have hkeep:∀ b,b < w.heap.size->¬ (pP h R).A b->w'.heap[b]?=w.heap[b]?:=h1.rb
 have hownD:∀ r x ℓ b,D r->mf.roots[r]?=some x->x.jE=true->μ2 r=some ℓ->ℓ.S b->m1.roots[r]?=some x/\μ1 r=some ℓ:=by
  intro r x ℓ b hd hx ho hl' hb;rcases hD r hd with h2|h2
  ·exact ⟨h2▸hx,hμD r hd▸hl'⟩
  ·rw [hx] at h2;cases h2;exact absurd rfl (hdead ho)
 refine ⟨μ2,⟨λr x hx hd=>?_,λr s x y ℓ ℓ' hrs hx hy hox hoy hlr hls b hb hb'=>?_,λr x ℓ b hx ho hl' hb=>?_,λb hb=>?_,λb hb=>hz b (h.tB b hb),Nat.le_trans h.size hsz,λb hb hA=>?_,λr hr=>?_,h.ny,h.io.trans h1.io⟩,he12,he.trans he12,λr a b=>?_⟩
 ·by_cases hDr:D r
  ·rcases hD r hDr with h2|h2
   ·rw [h2] at hx;obtain ⟨ℓ,k1,k2⟩:=h1.rt r x hx hd;exact ⟨ℓ,by rw [hμD r hDr];exact k1,k2.mono (bX.refl _ _) (λ_ h=>h) (λ_ h=>h) he12⟩
   ·rw [hx] at h2;cases h2;exact absurd rfl hd
  ·obtain ⟨h2,h3⟩:=hnD r hDr;rw [h2] at hx;obtain ⟨ℓ,k1,k2⟩:=h.rt r x hx hd;refine ⟨ℓ,by rw [hμN r hDr];exact k1,?_⟩;have hZ:bX Z w w':=λb hb=>hkeep b (h.frz b hb).1 λhA=>(hAin b hA).1 hb;have hY:bX B.Y w w':=λb hb=>hkeep b (Nat.lt_of_lt_of_le (h.ny b hb).1 h.size) (h1.ny b hb).2
   cases ho:x.jE with
   |true =>
    refine k2.mono (λb hb=>?_) hz (λ_ h=>h) (he.trans he12);rcases hb with (hb|hb)|hb
    ·exact hZ b hb
    ·exact hY b hb
    ·exact hkeep b (h.own r x ℓ b hx ho k1 hb).2.1 (hoff r x ℓ b hDr hx ho k1 hb)
   |false =>
    exact ((k2.E7 ho (λ_=>False)).mono (w':=w') (Z':=Z') (μ':=μ2) (λb hb=>by
     rcases hb with (hb|hb)|hb
     ·exact hZ b hb
     ·exact hY b hb
     ·exact hb.elim) hz (λ_ h=>h) (he.trans he12)).E7 ho ℓ.S
 ·have cross:∀ {r s:Nat}{x y:cu}{ℓ ℓ':Loc}{b:Nat},D r->¬ D s->mf.roots[r]?=some x->mf.roots[s]?=some y->x.jE=true->y.jE=true->μ2 r=some ℓ->μ2 s=some ℓ'->ℓ.S b->ℓ'.S b->False:=by
   intro r s x y ℓ ℓ' b hr hs hx hy hox hoy hlr hls hb hb';obtain ⟨k1,k2⟩:=hownD r x ℓ b hr hx hox hlr hb;rw [(hnD s hs).1] at hy;rw [hμN s hs] at hls;rcases (h1.own r x ℓ b k1 hox k2 hb).2.2 with k3|k3
   ·have:=(h.own s y ℓ' b hy hoy hls hb').2.1;have k3:w.heap.size<=b:=k3;omega
   ·exact hoff s y ℓ' b hs hy hoy hls hb' k3
  by_cases hr:D r<;>by_cases hs:D s
  ·obtain ⟨k1,k2⟩:=hownD r x ℓ b hr hx hox hlr hb;obtain ⟨k3,k4⟩:=hownD s y ℓ' b hs hy hoy hls hb';exact h1.dj r s x y ℓ ℓ' hrs k1 k3 hox hoy k2 k4 b hb hb'
  ·exact cross hr hs hx hy hox hoy hlr hls hb hb'
  ·exact cross hs hr hy hx hoy hox hls hlr hb' hb
  ·rw [(hnD r hr).1] at hx;rw [(hnD s hs).1] at hy;rw [hμN r hr] at hlr;rw [hμN s hs] at hls;exact h.dj r s x y ℓ ℓ' hrs hx hy hox hoy hlr hls b hb hb'
 ·by_cases hr:D r
  ·obtain ⟨k1,k2⟩:=hownD r x ℓ b hr hx ho hl' hb;obtain ⟨a1,a2,a3⟩:=h1.own r x ℓ b k1 ho k2 hb;refine ⟨a1,a2,?_⟩;rcases a3 with a3|a3
   ·exact .inl (Nat.le_trans h.size a3)
   ·exact (hAin b a3).2.2
  ·rw [(hnD r hr).1] at hx;rw [hμN r hr] at hl';obtain ⟨a1,a2,a3⟩:=h.own r x ℓ b hx ho hl' hb;refine ⟨λhzb=>?_,by omega,a3⟩;obtain ⟨_,a5⟩:=h1.frz b hzb;rcases a5 with a5|a5|a5
   ·exact a1 a5
   ·have a5:w.heap.size<=b:=a5;omega
   ·exact hoff r x ℓ b hr hx ho hl' hb a5
 ·obtain ⟨a4,a5⟩:=h1.frz b hb;refine ⟨a4,?_⟩;rcases a5 with a5|a5|a5
  ·exact (h.frz b a5).2
  ·exact .inr (.inl (Nat.le_trans h.size a5))
  ·exact .inr (hAin b a5).2.2
 ·rw [<- h.rb b hb hA];refine hkeep b (Nat.lt_of_lt_of_le hb h.size) λhA'=>?_;rcases (hAin b hA').2.2 with k|k
  ·omega
  ·exact hA k
 ·rw [hl] at hr;by_cases hd:D r
  ·rw [hμD r hd];exact h1.far r (by rw [hl1];exact hr)
  ·rw [hμN r hd];exact h.far r hr
 ·show (if D r then μ1 r else μ r)=none
  split
  ·exact a
  ·exact b
end
theorem Gg(s:St)(m:Mem)(l:List Nat):val ⟨s.tmps,m,l⟩=val s:=by
 funext x
 cases x<;>rfl
theorem yd{P:Program}{o:Oper}{a:Act}{w:World}{next:Act->World->Prop}(h:o.wp P a w next (λ_ _ _=>False)):∃ a' w',next a' w':=by
 unfold Oper.wp at h;generalize hq:(execOp a.eval o).run P w=r at h
 cases r with
 |ok n w' =>
  cases n<;>simp only [Oper.upon] at h<;>first
   |exact ⟨_,_,h⟩
   |exact h.elim
   |(obtain ⟨e,w2,fr,hr,_⟩:=h []
     cases e with
     |returned v=>exact ⟨_,_,hr⟩
     |panicked c=>exact hr.elim
     |outgrown=>obtain ⟨_,_,hf⟩:=hr;exact hf.elim)
   |(obtain ⟨v,w2,hr,_⟩:=h default []
     exact ⟨_,_,hr⟩)
 |halt x w'=>cases x<;>simp only [Oper.upon] at h
section
variable {B:gT}{E:Env}{w:World}{Z:Nat->Prop}{μ:bS}
def NxtD(B:gT)(s':St)(c n:Nat)(Z:Nat->Prop)(μ:bS)(a':Act)(w':World):Prop :=
 ∃ Z' μ',Rel B s' a' w' Z' μ'/\(∀ b,Z b->Z' b)/\dW μ μ'/\∀ r,(r < c\/c+n<=r)->μ r=none->μ' r=none
theorem A6{s:St}{o:Oper}{a:Act}(hR:Rel B s a w Z μ)(hE:px E B.g){c:Nat}{R W:i7}(hfresh:∀ k,k < du E o->μ (c+k)=none)(hc:c+du E o<=s.mem.roots.length) :
  (fa E (val s) (s.mem.view c R) o nP).facts /\
  ∀ v m1,(fa E (val s) (s.mem.view c R) o nP).strip=some (v,m1)->zp s.mem.roots.length m1 W=true->m1.roots.length=s.mem.roots.length/\o.wp E.P a w (NxtD B (s.with o.dst v (s.mem.over m1 W)) c (du E o) Z μ) (λ_ _ _=>False):=by
 let s0:St:=⟨s.tmps,s.mem.view c R,s.dT⟩
 have hR0:Rel (pP hR.mem R) s0 a w Z μ:=⟨Bo hR.mem c R,hR.tm,hR.len,hR.df⟩
 have hF:oA s0 (du E o) μ:=λk hk=>by
  have h1:=hfresh k hk;refine ⟨h1,?_⟩
  have hlt:c+k < (s.mem.view c R).roots.length:=by rw [sQ];omega
  show (s.mem.view c R).roots[c+k]?=_
  cases hx:(s.mem.view c R).roots[c+k]? with
  |none=>rw [List.getElem?_eq_none_iff] at hx;omega
  |some x =>
   by_cases hd:x=.dead
   ·rw [hd]
   ·obtain ⟨ℓ,h2,_⟩:=(Bo hR.mem c R).rt _ x hx hd;rw [h1] at h2;cases h2
 have hstep:∀ {β:Type}(K:St->Res β),step E s0 o K=(fa E (val s) (s.mem.view c R) o nP).bind λp=>K (s0.with o.dst p.1 p.2):=λK=>by
  unfold step
  rw [show val s0=val s from Gg s _ _]
  exact pI E (val s) (s.mem.view c R) o λv m=>K (s0.with o.dst v m)
 constructor
 ·apply Classical.byContradiction;intro hv
  have h1:(step E s0 o Res.ok).sat (λ_=>False):=by rw [hstep];exact Res.ud (Res.vA hv)
  obtain ⟨a',w',_,_,_,_,hf,_⟩:=yd (tT hR0 hE (Nat.le_refl _) hF h1);exact hf
 ·intro v m1 hv hok;obtain ⟨k,hk,ht⟩:=xb E (val s) (λg=>rfl) (s.mem.view c R) o v m1 hv
  have hl1:m1.roots.length=s.mem.roots.length:=by rw [ht.len,sQ]
  refine ⟨hl1,?_⟩
  have h1:(step E s0 o Res.ok).sat (λs'=>s'=s0.with o.dst v m1):=by rw [hstep];exact Res.ud (Res.pH hv rfl)
  refine Oper.wp_mono ?_ (tT hR0 hE (Nat.le_refl _) hF h1);rintro a' w' ⟨st',Z',μ1,hR',rfl,_,_,hout,hz,he⟩
  have hm1:bV (pP hR.mem R) m1 w' Z' μ1:=by
   have:=hR'.mem
   cases hd:o.dst with
   |none=>rw [hd] at this;exact this
   |some d=>rw [hd] at this;exact this
  have hnew:∀ r,(c<=r/\r < c+du E o)->s.mem.roots[r]?=some .dead:=λr hr=>by
   have h2:=hfresh (r-c) (by omega)
   rw [show c+(r-c)=r from by omega] at h2
   cases hx:s.mem.roots[r]? with
   |none=>rw [List.getElem?_eq_none_iff] at hx;omega
   |some x =>
    by_cases hd:x=.dead
    ·rw [hd]
    ·obtain ⟨ℓ,h3,_⟩:=hR.mem.rt r x hx hd;rw [h2] at h3;cases h3
  obtain ⟨μ2,g1,g2,g3,g4⟩:=unmask (mf:=s.mem.over m1 W) hR.mem hm1 he hz (λr=>W.has r\/R.has r\/(c<=r/\r < c+du E o)) (λr hr=>by
    by_cases hW:W.has r
    ·exact .inl ((sO hl1.symm W r).1 hW)
    ·rw [(sO hl1.symm W r).2 hW];by_cases hn:c<=r/\r < c+du E o
     ·exact .inr (hnew r hn)
     ·have hRr:R.has r:=by rcases hr with h|h|h;exact absurd h hW;exact h;exact absurd h hn
      left;by_cases hlt:r < s.mem.roots.length
      case neg =>
       rw [List.getElem?_eq_none (by omega),List.getElem?_eq_none (by omega)]
      have hbit:m1.dR.testBit r=false:=by
       cases W with
       |none=>exact absurd trivial hW
       |some l =>
        cases hb:m1.dR.testBit r with
        |false=>rfl
        |true =>
         simp only [zp,List.all_eq_true,List.mem_range] at hok;have:=hok r hlt;rw [hb] at this;simp at this;exact absurd (by simpa [i7.has] using this) hW
      rw [ht.same r (by show r < c\/c+k<=r;omega) hbit,(sT s.mem c R r).1 hRr]) (λr hr=>by
    have hW:¬ W.has r:=λh=>hr (.inl h)
    exact ⟨(sO hl1.symm W r).2 hW,λh=>hr (.inr (.inl h))⟩) (vU hl1.symm W) hl1 (λr hr hn=>hout r (by show r < c\/c+du E o<=r;omega) hn)
  have hR2:Rel B ⟨s.tmps,s.mem.over m1 W,s.dT⟩ a w Z μ->True:=λ_=>trivial;refine ⟨Z',μ2,⟨?_,?_,?_,hR'.df⟩,hz,g3,λr hr hn=>g4 r (hout r hr hn) hn⟩
  ·cases hd:o.dst with
   |none=>exact g1
   |some d=>exact g1
  ·intro i x hx
   have hx':(s0.with o.dst v m1).tmps[i]?=some x:=by
    cases hd:o.dst with
    |none=>rw [hd] at hx;exact hx
    |some d=>rw [hd] at hx;exact hx
   exact (hR'.tm i x hx').mono (bX.refl _ _) (λ_ h=>h) g2
  ·have:=hR'.len
   cases hd:o.dst with
   |none=>rw [hd] at this;exact this
   |some d=>rw [hd] at this;exact this
end
end Go.Mach

namespace Go.Mach
abbrev Ent:=Option (AV×i7×i7×Mem)
namespace Ent
def val:Ent->AV
 |none=>.tup []
 |some e=>e.1
def rd:Ent->i7
 |none=>some []
 |some e=>e.2.1
def wr:Ent->i7
 |none=>some []
 |some e=>e.2.2.1
def put(e:Ent)(o:Oper)(s:St):St :=
 match e with
 |none=>s.put o.dst (.tup [])
 |some (v,_,W,m1)=>s.with o.dst v (s.mem.over m1 W)
def fits(e:Ent)(N:Nat):Prop:=∀ v R W m1,e=some (v,R,W,m1)->m1.roots.length=N
def root(e:Ent)(r:Nat):Option cu :=
 match e with
 |none=>none
 |some (_,_,_,m1)=>m1.roots[r]?
theorem nv(e:Ent)(o:Oper)(s:St):(e.put o s).tmps=(match o.dst with|some d=>s.tmps.set d e.val|none=>s.tmps):=by
 cases e with
 |none=>cases h:o.dst<;>simp [put,St.put,h,val]
 |some e=>cases h:o.dst<;>simp [put,St.with,St.put,h,val]
theorem DL(e:Ent)(o:Oper)(s:St):(e.put o s).dT=s.dT:=by
 cases e with
 |none=>cases h:o.dst<;>simp [put,St.put,h]
 |some e=>cases h:o.dst<;>simp [put,St.with,St.put,h]
theorem my{e:Ent}{N:Nat}(hf:e.fits N)(o:Oper){s:St}(hs:s.mem.roots.length=N):(e.put o s).mem.roots.length=N/\∀ r,(e.wr.has r->(e.put o s).mem.roots[r]?=e.root r)/\(¬ e.wr.has r->(e.put o s).mem.roots[r]?=s.mem.roots[r]?):=by
 cases e with
 |none =>
  have:(put none o s).mem=s.mem:=by cases h:o.dst<;>simp [put,St.put,h]
  rw [this];exact ⟨hs,λr=>⟨λh=>by simp [wr,i7.has] at h,λ_=>rfl⟩⟩
 |some e =>
  obtain ⟨v,R,W,m1⟩:=e
  have:(put (some (v,R,W,m1)) o s).mem=s.mem.over m1 W:=by cases h:o.dst<;>simp [put,St.with,St.put,h]
  rw [this]
  have hl:s.mem.roots.length=m1.roots.length:=by rw [hs,hf v R W m1 rfl]
  exact ⟨(vU hl W).trans hs,λr=>sO hl W r⟩
end Ent
def stS:List (Oper×Ent)->(Nat->Bool)->Nat->St->St
 |[],_,_,s=>s
 |(o,e)::L,S,i,s=>stS L S (i+1) (match S i with
  |true=>e.put o s
  |false=>s)
theorem pV(L1 L2:List (Oper×Ent))(S:Nat->Bool):∀ (i:Nat) (s:St),stS (L1++L2) S i s=stS L2 S (i+L1.length) (stS L1 S i s):=by
 induction L1 with
 |nil=>intro i s;rfl
 |cons p L1 ih =>
  intro i s;obtain ⟨o,e⟩:=p;simp only [List.cons_append,stS,ih,List.length_cons];congr 1;omega
theorem pC(L:List (Oper×Ent)):∀ (S:Nat->Bool) (i:Nat) (s:St),(∀ k,k < L.length->S (i+k)=false)->stS L S i s=s:=by
 induction L with
 |nil=>intro _ _ _ _;rfl
 |cons p L ih =>
  intro S i s h;obtain ⟨o,e⟩:=p;have h0:=h 0 (by simp);rw [Nat.add_zero] at h0;simp only [stS,h0]
  exact ih S (i+1) s λk hk=>by have:=h (k+1) (by simpa using hk);rwa [show i+1+k=i+(k+1) from by omega]
theorem uT(d:Nat):∀ (L:List (Oper×Ent)) (S S':Nat->Bool) (i:Nat) (s s':St),s.tmps[d]?=s'.tmps[d]?->s.tmps.length=s'.tmps.length ->
  (∀ k (h:k < L.length),L[k].1.dst=some d->S (i+k)=S' (i+k))->(stS L S i s).tmps[d]?=(stS L S' i s').tmps[d]?/\(stS L S i s).tmps.length=(stS L S' i s').tmps.length
 |[],_,_,_,_,_,h,hl,_=>⟨h,hl⟩
 |(o,e)::L,S,S',i,s,s',h,hl,hk=>by
  simp only [stS]
  have hlen:∀ (b:Bool) (s:St),(match b with|true=>e.put o s|false=>s).tmps.length=s.tmps.length:=by
   intro b s;cases b
   ·rfl
   ·rw [Ent.nv];cases o.dst<;>simp
  refine uT d L S S' (i+1) _ _ ?_ (by rw [hlen,hlen];exact hl) λk hk' hd=>by
   have:=hk (k+1) (by simpa using hk') hd
   rwa [show i+1+k=i+(k+1) from by omega]
  by_cases hd:o.dst=some d
  ·have h0:=hk 0 (by simp) hd;rw [Nat.add_zero] at h0;rw [h0]
   cases S' i with
   |false=>exact h
   |true =>
    simp only [Ent.nv,hd,List.getElem?_set_self',h]
  ·have:∀ (b:Bool) (s:St),(match b with|true=>e.put o s|false=>s).tmps[d]?=s.tmps[d]?:=by
    intro b s;cases b
    ·rfl
    ·rw [Ent.nv]
     cases ho:o.dst with
     |none=>rfl
     |some d' =>
      have hne:d'≠d:=by rintro rfl;exact hd ho
      simp only;rw [List.getElem?_set_ne hne]
   rw [this,this];exact h
theorem sC{N:Nat}(r:Nat):∀ (L:List (Oper×Ent)) (S S':Nat->Bool) (i:Nat) (s s':St),(∀ p∈L,p.2.fits N)->s.mem.roots[r]?=s'.mem.roots[r]?->s.mem.roots.length=N->s'.mem.roots.length=N ->
  (∀ k (h:k < L.length),L[k].2.wr.has r->S (i+k)=S' (i+k))->(stS L S i s).mem.roots[r]?=(stS L S' i s').mem.roots[r]?/\(stS L S i s).mem.roots.length=N
 |[],_,_,_,_,_,_,h,hl,_,_=>⟨h,hl⟩
 |(o,e)::L,S,S',i,s,s',hf,h,hl,hl',hk=>by
  simp only [stS];have hfe:=hf (o,e) List.mem_cons_self
  have hlen:∀ (b:Bool) (s:St),s.mem.roots.length=N->(match b with|true=>e.put o s|false=>s).mem.roots.length=N:=by
   intro b s hs;cases b
   ·exact hs
   ·exact (Ent.my hfe o hs).1
  refine sC r L S S' (i+1) _ _ (λp hp=>hf p (List.mem_cons_of_mem _ hp)) ?_ (hlen _ _ hl) (hlen _ _ hl') λk hk' hd=>by
   have:=hk (k+1) (by simpa using hk') hd
   rwa [show i+1+k=i+(k+1) from by omega]
  by_cases hd:e.wr.has r
  ·have h0:=hk 0 (by simp) hd;rw [Nat.add_zero] at h0;rw [h0]
   cases S' i with
   |false=>exact h
   |true=>simp only;rw [((Ent.my hfe o hl).2 r).1 hd,((Ent.my hfe o hl').2 r).1 hd]
  ·have:∀ (b:Bool) (s:St),s.mem.roots.length=N->(match b with|true=>e.put o s|false=>s).mem.roots[r]?=s.mem.roots[r]?:=by
    intro b s hs;cases b
    ·rfl
    ·exact ((Ent.my hfe o hs).2 r).2 hd
   rw [this _ _ hl,this _ _ hl'];exact h
theorem sj{N:Nat}{L:List (Oper×Ent)}{S:Nat->Bool}{i:Nat}{s:St}(hf:∀ p∈L,p.2.fits N)(hl:s.mem.roots.length=N):(stS L S i s).mem.roots.length=N :=
 (sC 0 L S S i s s hf rfl hl hl λ_ _ _=>rfl).2
theorem HM{L:List (Oper×Ent)}{S S':Nat->Bool}{i:Nat}{s:St}:(stS L S i s).tmps.length=(stS L S' i s).tmps.length:=by
 have h1:∀ (L:List (Oper×Ent)) (S:Nat->Bool) (i:Nat) (s:St),(stS L S i s).tmps.length=s.tmps.length:=by
  intro L
  induction L with
  |nil=>intro _ _ _;rfl
  |cons p L ih =>
   intro S i s;obtain ⟨o,e⟩:=p;simp only [stS];rw [ih];cases S i
   ·rfl
   ·simp only [Ent.nv];cases o.dst<;>simp
 rw [h1,h1]
def Alike(s s':St):Prop:=s.tmps=s'.tmps/\s.mem.roots=s'.mem.roots
theorem Rel.alike{B:gT}{s s':St}{a:Act}{w:World}{Z:Nat->Prop}{μ:bS}(h:Rel B s a w Z μ)(he:Alike s s'):Rel B s' a w Z μ :=
 ⟨h.mem.congr he.2.symm,λi x hx=>h.tm i x (he.1▸hx),he.1▸h.len,h.df⟩
section
variable {ops:Array Oper}{A:List Nat}
theorem yy{A:List Nat}{o:Oper}{i:Nat}(h:(Dl A o).testBit i=true):∃ e∈o.after.toList,Region.binds .any e=true/\(i=e.on\/((A[e.on]?).getD 0).testBit i=true):=by
 unfold Dl at h
 have:∀ (l:List Edge) (s:Nat),(l.foldl (λs e=>match Region.binds .any e with|true=>s ||| 2^e.on ||| (A[e.on]?).getD 0|false=>s) s).testBit i=true ->
   s.testBit i=true\/∃ e∈l,Region.binds .any e=true/\(i=e.on\/((A[e.on]?).getD 0).testBit i=true):=by
  intro l
  induction l with
  |nil=>intro s h;exact .inl h
  |cons e l ih =>
   intro s h;rw [List.foldl_cons] at h;rcases ih _ h with h|⟨e',h1,h2⟩
   ·cases hb:Region.binds .any e with
    |false=>rw [hb] at h;exact .inl h
    |true =>
     rw [hb] at h;simp only [Nat.testBit_or,Bool.or_eq_true,Nat.testBit_two_pow,decide_eq_true_eq] at h;rcases h with (h|h)|h
     ·exact .inl h
     ·exact .inr ⟨e,List.mem_cons_self,hb,.inl h.symm⟩
     ·exact .inr ⟨e,List.mem_cons_self,hb,.inr h⟩
   ·exact .inr ⟨e',List.mem_cons_of_mem _ h1,h2⟩
 rcases this _ _ h with h|h
 ·simp at h
 ·exact h
theorem CQ(hA:tu ops A=true){i j:Nat}(h:ahead A i j=true):∃ o,ops.toList[j]?=some o->∃ e∈o.after.toList,Region.binds .any e=true/\(i=e.on\/ahead A i e.on=true):=by
 cases ho:ops.toList[j]? with
 |none=>exact ⟨default,λh=>by cases h⟩
 |some o =>
  refine ⟨o,λ_=>?_⟩;unfold ahead at h
  cases ha:A[j]? with
  |none=>rw [ha] at h;simp at h
  |some x =>
   rw [ha] at h;simp only [Option.getD_some] at h
   have hz:(ops.toList.zip A)[j]?=some (o,x):=by rw [List.getElem?_zip_eq_some];exact ⟨ho,ha⟩
   have:=List.all_eq_true.1 hA (o,x) (List.mem_of_getElem? hz);simp only [beq_iff_eq] at this;rw [this] at h;exact yy h
def wL(ops:Array Oper)(S:Nat->Bool):Prop:=∀ j o,ops.toList[j]?=some o->S j=true->∀ e∈o.after.toList,Region.binds .any e=true->S e.on=true
theorem rC(hA:tu ops A=true)(he:pA ops=true){S:Nat->Bool}(hS:wL ops S):∀ (j:Nat){i:Nat}{o:Oper},ops.toList[j]?=some o->(∀ e∈o.after.toList,Region.binds .any e=true->S e.on=true)->ahead A i j=true->S i=true/\i < j:=by
 intro j
 induction j using Nat.strongRecOn with
 |_ j ih =>
  intro i o ho hall h;obtain ⟨o',h'⟩:=CQ hA h;unfold ahead at h
  have ho':ops.toList[j]?=some o'->o'=o:=λh=>by rw [ho] at h;cases h;rfl
  have hz:∃ e∈o.after.toList,Region.binds .any e=true/\(i=e.on\/ahead A i e.on=true):=by
   cases ha:A[j]? with
   |none=>rw [ha] at h;simp at h
   |some x =>
    rw [ha] at h;simp only [Option.getD_some] at h
    have hz:(ops.toList.zip A)[j]?=some (o,x):=by rw [List.getElem?_zip_eq_some];exact ⟨ho,ha⟩
    have:=List.all_eq_true.1 hA (o,x) (List.mem_of_getElem? hz);simp only [beq_iff_eq] at this;rw [this] at h;exact yy h
  obtain ⟨e,e1,e2,e3⟩:=hz
  have hlt:e.on < j:=by
   have hm:(o,j)∈ops.toList.zipIdx:=by
    rw [List.mem_zipIdx_iff_getElem?];exact ho
   have h1:=List.all_eq_true.1 he (o,j) hm;have h2:=List.all_eq_true.1 h1 e e1;simp only [e2,Bool.not_true,Bool.false_or,decide_eq_true_eq] at h2;exact h2
  have hSe:=hall e e1 e2;rcases e3 with e3|e3
  ·subst e3;exact ⟨hSe,hlt⟩
  ·have hlen:j < ops.toList.length:=(List.getElem?_eq_some_iff.1 ho).1;have hoe:ops.toList[e.on]?=some ops.toList[e.on]:=List.getElem?_eq_getElem (by omega);obtain ⟨k1,k2⟩:=ih e.on hlt hoe (λe' he' hb=>hS e.on _ hoe hSe e' he' hb) e3;exact ⟨k1,by omega⟩
end
end Go.Mach

namespace Go.Mach
def cAt(E:Env)(ops:Array Oper)(c0 i:Nat):Nat:=c0+eF E (ops.toList.take i)
theorem y8(E:Env)(l:List Oper)(o:Oper):eF E (l++[o])=eF E l+du E o:=by simp [eF]
theorem CT(E:Env)(l l':List Oper):eF E l<=eF E (l++l'):=by
 unfold eF;rw [List.foldl_append]
 have:∀ (l:List Oper) (n:Nat),n<=l.foldl (λn o=>n+du E o) n:=by
  intro l
  induction l with
  |nil=>intro n;exact Nat.le_refl n
  |cons o l ih=>intro n;exact Nat.le_trans (Nat.le_add_right _ _) (ih _)
 exact this _ _
theorem Bv{E:Env}{ops:Array Oper}{c0 i:Nat}{o:Oper}(h:ops.toList[i]?=some o):cAt E ops c0 (i+1)=cAt E ops c0 i+du E o:=by
 unfold cAt;rw [List.take_succ,h];simp only [Option.toList_some];rw [y8,Nat.add_assoc]
theorem xi{E:Env}{ops:Array Oper}{c0 i j:Nat}(h:i<=j):cAt E ops c0 i<=cAt E ops c0 j:=by
 unfold cAt
 have:ops.toList.take j=ops.toList.take i++(ops.toList.take j).drop i:=by
  conv=>lhs;rw [<- List.take_append_drop i (ops.toList.take j)]
  rw [List.take_take,Nat.min_eq_left h]
 rw [this];have:=CT E (ops.toList.take i) ((ops.toList.take j).drop i);omega
def sAt(ops:Array Oper)(es:List Ent)(s0:St)(i:Nat):St:=stS (ops.toList.zip es) (λj=>decide (j < i)) 0 s0
def i7.xf(R W:i7):Prop:=R=some []/\W=some []
def Ga(E:Env)(ops:Array Oper)(c0:Nat)(s:St)(o:Oper)(i:Nat):Ent->Prop
 |none=>pB ops s o=some false
 |some (v,R,W,m1)=>pB ops s o=some true/\(fa E (val s) (s.mem.view (cAt E ops c0 i) R) o nP).strip=some (v,m1)/\zp s.mem.roots.length m1 W=true/\m1.roots.length=s.mem.roots.length /\
   (vo ops o.dst=true->∃ b,v=.c (.bool b))
structure vD (E:Env) (ops:Array Oper) (A:List Nat) (s0:St) (c0:Nat) (es:List Ent):Prop where
 len:es.length<=ops.toList.length
 at_:∀ i (hi:i < es.length) (ho:i < ops.toList.length),Ga E ops c0 (sAt ops es s0 i) ops.toList[i] i es[i]
 log:∀ j i (hj:j < es.length) (hi:i < es.length),j < i->¬ i7.xf es[i].rd es[i].wr->¬ i7.xf es[j].rd es[j].wr ->
  ((es[j].wr.off es[i].rd && (es[i].wr.off es[j].rd && es[i].wr.off es[j].wr)) || ahead A j i)=true
section
variable {E:Env}{ops:Array Oper}{A:List Nat}{s0:St}{c0:Nat}{es:List Ent}
theorem Be{es:List Ent}{e:Ent}{o:Oper}(h:ops.toList[es.length]?=some o):ops.toList.zip (es++[e])=ops.toList.zip es++[(o,e)]:=by
 have hlt:=(List.getElem?_eq_some_iff.1 h).1
 have hsz:ops.toList.length=ops.size:=by simp
 apply List.ext_getElem?;intro k;rw [List.getElem?_append];simp only [List.length_zip,Nat.min_eq_right (Nat.le_of_lt hlt)];by_cases h1:k < es.length
 ·rw [if_pos h1]
  have h2:k < ops.toList.length:=by omega
  rw [List.getElem?_eq_getElem (by simp;omega),List.getElem?_eq_getElem (by simp;omega)];simp [List.getElem_zip,List.getElem_append_left h1]
 ·rw [if_neg h1];by_cases h2:k=es.length
  ·subst h2;rw [Nat.sub_self];rw [List.getElem?_eq_getElem (by simp;omega)];have:=(List.getElem?_eq_some_iff.1 h).2;simp [List.getElem_zip,this]
  ·rw [List.getElem?_eq_none (by simp;omega),List.getElem?_eq_none (by simp;omega)]
theorem GI{e:Ent}{o:Oper}(h:ops.toList[es.length]?=some o){i:Nat}(hi:i<=es.length):sAt ops (es++[e]) s0 i=sAt ops es s0 i:=by
 unfold sAt;rw [Be h,pV];refine pC _ _ _ _ λk hk=>?_
 have h1:k=0:=by simpa using hk
 have hlt:=(List.getElem?_eq_some_iff.1 h).1;simp only [List.length_zip,Nat.min_eq_right (Nat.le_of_lt hlt),decide_eq_false_iff_not];omega
theorem qS:∀ (L:List (Oper×Ent)) (S S':Nat->Bool) (i:Nat) (s:St),(∀ k,k < L.length->S (i+k)=S' (i+k))->stS L S i s=stS L S' i s
 |[],_,_,_,_,_=>rfl
 |(o,e)::L,S,S',i,s,h=>by
  have h0:=h 0 (by simp);rw [Nat.add_zero] at h0;simp only [stS,h0]
  exact qS L S S' (i+1) _ λk hk=>by have:=h (k+1) (by simpa using hk);rwa [show i+1+k=i+(k+1) from by omega]
theorem Ba{e:Ent}{o:Oper}(h:ops.toList[es.length]?=some o):sAt ops (es++[e]) s0 (es.length+1)=e.put o (sAt ops es s0 es.length):=by
 have hlt:=(List.getElem?_eq_some_iff.1 h).1;unfold sAt;rw [Be h,pV];simp only [List.length_zip,Nat.min_eq_right (Nat.le_of_lt hlt),stS,Nat.zero_add]
 rw [show (decide (es.length < es.length+1))=true from by simp]
 simp only;congr 1
 exact qS _ _ _ _ _ λk hk=>by simp at hk ⊢;omega
theorem vD.fits{N:Nat}(h:vD E ops A s0 c0 es)(hN:s0.mem.roots.length=N):∀ p∈ops.toList.zip es,p.2.fits N:=by
 have key:∀ n,n<=es.length->∀ i (hi:i < es.length),i < n->es[i].fits N:=by
  intro n
  induction n with
  |zero=>intro _ i _ h;omega
  |succ n ih =>
   intro hn i hi hin;by_cases hlt:i < n
   ·exact ih (by omega) i hi hlt
   ·have:i=n:=by omega
    subst this;intro v R W m1 he;have ho:i < ops.toList.length:=Nat.lt_of_lt_of_le hi h.len;have h1:=h.at_ i hi ho;rw [he] at h1;rw [h1.2.2.2.1]
    have h2:sAt ops es s0 i=stS (ops.toList.zip (es.take i)) (λj=>decide (j < i)) 0 s0:=by
     unfold sAt
     have hz:ops.toList.zip es=ops.toList.zip (es.take i)++(ops.toList.drop i).zip (es.drop i):=by
      have:(ops.toList.zip (es.take i))=(ops.toList.take i).zip (es.take i):=by
       have hsz:ops.toList.length=ops.size:=by simp
       apply List.ext_getElem (by simp;omega);intro k k1 k2;simp [List.getElem_zip]
      rw [this,<- List.zip_append (by rw [List.length_take,List.length_take];omega),List.take_append_drop,List.take_append_drop]
     rw [hz,pV];refine pC _ _ _ _ λk hk=>?_;simp only [List.length_zip,List.length_take,decide_eq_false_iff_not];omega
    rw [h2];refine sj (N:=N) (λp hp=>?_) hN;obtain ⟨k,hk,rfl⟩:=List.getElem_of_mem hp;simp only [List.length_zip,List.length_take] at hk;simp only [List.getElem_zip,List.getElem_take];exact ih (by omega) k (by omega) (by omega)
 intro p hp;obtain ⟨k,hk,rfl⟩:=List.getElem_of_mem hp;simp only [List.length_zip] at hk;simp only [List.getElem_zip];exact key es.length (Nat.le_refl _) k (by omega) (by omega)
theorem vD.snoc{e:Ent}{o:Oper}(h:vD E ops A s0 c0 es)(ho:ops.toList[es.length]?=some o)(he:Ga E ops c0 (sAt ops es s0 es.length) o es.length e)
  (hlog:∀ j (hj:j < es.length),¬ i7.xf e.rd e.wr->¬ i7.xf es[j].rd es[j].wr->((es[j].wr.off e.rd && (e.wr.off es[j].rd && e.wr.off es[j].wr)) || ahead A j es.length)=true):vD E ops A s0 c0 (es++[e]):=by
 obtain ⟨hlt,hoe⟩:=List.getElem?_eq_some_iff.1 ho;refine ⟨by rw [List.length_append,List.length_singleton];omega,λi hi ho'=>?_,λj i hj hi hji h1 h2=>?_⟩
 ·rw [GI ho (by simp at hi;omega)];by_cases hil:i < es.length
  ·rw [List.getElem_append_left hil];exact h.at_ i hil ho'
  ·have:i=es.length:=by simp at hi;omega
   subst this;rw [List.getElem_append_right (Nat.le_refl _)];simp only [Nat.sub_self,List.getElem_cons_zero];rw [hoe];exact he
 ·have hjl:j < es.length:=by simp at hi;omega
  rw [List.getElem_append_left hjl] at h2 ⊢;by_cases hil:i < es.length
  ·rw [List.getElem_append_left hil] at h1 ⊢;exact h.log j i hjl hil hji h1 h2
  ·have:i=es.length:=by simp at hi;omega
   subst this;rw [List.getElem_append_right (Nat.le_refl _)] at h1 ⊢;simp only [Nat.sub_self,List.getElem_cons_zero] at h1 ⊢;exact hlog j hjl h1 h2
variable {β:Type}{Ψ:β->Prop}{K:St->Res β}{B:gT}
theorem vH{ops:Array Oper}{dst:Option Tmp}{st:St}(h:(qz ops dst st K).sat Ψ):(K st).sat Ψ/\(vo ops dst=true->∃ d b,dst=some d/\st.get d=.c (.bool b)):=by
 unfold qz at h;split at h
 ·rename_i hg;unfold Dc at h
  cases dst with
  |none=>simp [vo] at hg
  |some d =>
   simp only at h;split at h
   ·rename_i b hb
    have oq:st.put (some d) (.c (.bool b))=st:=by
     have:st.tmps[d]?=some (.c (.bool b)):=by
      unfold St.get at hb
      cases hx:st.tmps[d]? with
      |none=>rw [hx] at hb;cases hb
      |some x=>rw [hx] at hb;rw [show x=_ from hb]
     obtain ⟨hd,he⟩:=List.getElem?_eq_some_iff.1 this;show (⟨st.tmps.set d (.c (.bool b)),st.mem,st.dT⟩:St)=st
     have:st.tmps.set d (.c (.bool b))=st.tmps:=by rw [<- he,List.set_getElem_self]
     rw [this]
    rcases C6 h with ⟨rfl,h⟩|⟨rfl,h⟩<;>rw [oq] at h<;>exact ⟨h,λ_=>⟨d,_,rfl,hb⟩⟩
   ·exact h.elim
 ·rename_i hg;exact ⟨h,λh'=>by rw [h'] at hg;cases hg⟩
theorem St.JB{st:St}{d:Nat}{v:AV}{m:Mem}(h:(∃ b,(st.with (some d) v m).get d=.c (.bool b))):∃ b,v=.c (.bool b):=by
 obtain ⟨b,hb⟩:=h;simp only [St.get,St.with,St.put] at hb;rw [List.getElem?_set_self'] at hb
 cases hx:st.tmps[d]? with
 |none=>rw [hx] at hb;cases hb
 |some x=>rw [hx] at hb;exact ⟨b,hb⟩
theorem p8(hdr:E.dr=true)(hE:px E B.g)(hN:c0+eF E ops.toList<=s0.mem.roots.length):∀ (rest:List Oper) (es:List Ent) (l:Log){a:Act}{w:World}{Z:Nat->Prop}{μ:bS},
  rest=ops.toList.drop es.length->vD E ops A s0 c0 es->Rel B (sAt ops es s0 es.length) a w Z μ->(∀ r,cAt E ops c0 es.length<=r->r < c0+eF E ops.toList->μ r=none) ->
  (∀ j (hj:j < es.length),¬ i7.xf es[j].rd es[j].wr->(j,es[j].rd,es[j].wr)∈l) ->
  (mM E ops A rest es.length (cAt E ops c0 es.length) l (sAt ops es s0 es.length) K).sat Ψ ->
  ∃ es',vD E ops A s0 c0 es'/\es'.length=ops.toList.length/\(K ⟨(sAt ops es' s0 es'.length).tmps,(sAt ops es' s0 es'.length).mem.at (cAt E ops c0 es'.length),(sAt ops es' s0 es'.length).dT⟩).sat Ψ
 |[],es,l,a,w,Z,μ,hrest,hT,hR,hfree,hlog,h=>by
  have:es.length=ops.toList.length:=by
   have h1:=congrArg List.length hrest;simp only [List.length_nil,List.length_drop] at h1;have:=hT.len;omega
  exact ⟨es,hT,this,h⟩
 |o::rest,es,l,a,w,Z,μ,hrest,hT,hR,hfree,hlog,h=>by
  have ho:ops.toList[es.length]?=some o:=by
   have h1:=congrArg (λl:List Oper=>l[0]?) hrest;simpa using h1.symm
  have hrest':∀ e:Ent,rest=ops.toList.drop (es++[e]).length:=λe=>by
   have h1:=congrArg List.tail hrest;simpa using h1
  have hlt:=(List.getElem?_eq_some_iff.1 ho).1;have hc1:=Bv (E:=E) (c0:=c0) ho
  have hcall:cAt E ops c0 (es.length+1)<=c0+eF E ops.toList:=by
   have:=xi (E:=E) (ops:=ops) (c0:=c0) (i:=es.length+1) (j:=ops.toList.length) (by omega);unfold cAt at this ⊢;rw [List.take_length] at this;exact this
  have hslen:(sAt ops es s0 es.length).mem.roots.length=s0.mem.roots.length:=sj (hT.fits rfl) rfl;simp only [mM] at h;split at h
  ·rename_i hw;rw [hdr] at h;simp only at h;split at h
   case h_2=>exact h.elim
   rename_i hfits;generalize hfoot:foot E ⟨(sAt ops es s0 es.length).tmps,(sAt ops es s0 es.length).mem.at (cAt E ops c0 es.length),(sAt ops es s0 es.length).dT⟩ o=f at h hfits;obtain ⟨R,W⟩:=f;rw [pI] at h;obtain ⟨hop1,hop2⟩:=A6 (E:=E) (o:=o) (c:=cAt E ops c0 es.length) (R:=R) (W:=W) hR hE (λk hk=>hfree _ (by omega) (by omega)) (by omega);generalize hsv:fa E (val (sAt ops es s0 es.length)) ((sAt ops es s0 es.length).mem.view (cAt E ops c0 es.length) R) o nP=r at h hop1 hop2;obtain ⟨⟨v,m1⟩,hp,h⟩:=Res.E6 (pN h) hop1;simp only at h;split at h
   case h_2=>exact h.elim
   rename_i hok;obtain ⟨h,hg⟩:=vH h;obtain ⟨hl1,hwp⟩:=hop2 v m1 hp hok;obtain ⟨a',w',Z',μ',hR',hzz,hext,hout⟩:=yd hwp
   have hEnt:Ga E ops c0 (sAt ops es s0 es.length) o es.length (some (v,R,W,m1)):=⟨hw,hsv▸hp,hok,hl1,λhgd=>by
    obtain ⟨d,b,hd,hb⟩:=hg hgd;rw [hd] at hb
    exact St.JB ⟨b,hb⟩⟩
   have oq:Ent.put (some (v,R,W,m1)) o (sAt ops es s0 es.length)=(sAt ops es s0 es.length).with o.dst v ((sAt ops es s0 es.length).mem.over m1 W):=rfl
   have hT':=hT.snoc (e:=some (v,R,W,m1)) ho hEnt λj hj hn1 hn2=>by
    have hm:=hlog j hj hn2;have hn1:¬ (R=some []/\W=some []):=hn1;unfold D9 at hfits;split at hfits
    ·rename_i heq;cases heq;exact absurd ⟨rfl,rfl⟩ hn1
    ·have:=List.all_eq_true.1 hfits _ hm;exact this
   have hsnoc:=Ba (s0:=s0) (e:=some (v,R,W,m1)) ho;rw [<- oq,<- hsnoc,<- hc1] at h
   have hlen':(es++[some (v,R,W,m1)]).length=es.length+1:=by simp
   rw [<- hlen'] at h hc1;refine p8 hdr hE hN rest (es++[some (v,R,W,m1)]) _ (hrest' _) hT' (by rw [hlen',hsnoc,oq];exact hR') (λr h1 h2=>hout r (by omega) (hfree r (by omega) h2)) (λj hj hn=>?_) h;by_cases hjl:j < es.length
   ·rw [List.getElem_append_left hjl] at hn ⊢;have:=hlog j hjl hn;unfold Cc;split
    ·exact this
    ·exact List.mem_cons_of_mem _ this
   ·have hje:j=es.length:=by simp at hj;omega
    subst hje;rw [List.getElem_append_right (Nat.le_refl _)] at hn ⊢;simp only [Nat.sub_self,List.getElem_cons_zero] at hn ⊢;have hn:¬ (R=some []/\W=some []):=hn;unfold Cc;split
    ·rename_i heq;cases heq;exact absurd ⟨rfl,rfl⟩ hn
    ·exact List.mem_cons_self
  ·rename_i hw;have hT':=hT.snoc (e:=none) ho hw λj hj hn1=>absurd ⟨rfl,rfl⟩ hn1;have hsnoc:=Ba (s0:=s0) (e:=none) ho;have oq:Ent.put none o (sAt ops es s0 es.length)=(sAt ops es s0 es.length).put o.dst (.tup []):=rfl;rw [<- oq,<- hsnoc,<- hc1] at h
   have hlen':(es++[(none:Ent)]).length=es.length+1:=by simp
   rw [<- hlen'] at h hc1;have hR':Rel B ((sAt ops es s0 es.length).put o.dst (.tup [])) (a.put o.dst Go.undef) w Z μ:=hR.xE o.dst ⟨[],rfl,rfl,λk h=>by simp at h⟩;refine p8 hdr hE hN rest (es++[none]) _ (hrest' _) hT' (by rw [hlen',hsnoc,oq];exact hR') (λr h1 h2=>hfree r (by omega) h2) (λj hj hn=>?_) h;by_cases hjl:j < es.length
   ·rw [List.getElem_append_left hjl] at hn ⊢;exact hlog j hjl hn
   ·have hje:j=es.length:=by simp at hj;omega
    subst hje;rw [List.getElem_append_right (Nat.le_refl _)] at hn;simp only [Nat.sub_self,List.getElem_cons_zero] at hn;exact absurd ⟨rfl,rfl⟩ hn
  ·exact h.elim
end
end Go.Mach

namespace Go.Mach
theorem Oper.CY{P:Program}{o:Oper}{a:Act}{w:World}{K:Act->World->Prop}{Q:Exit->Act->World->Prop}(hh:o.wp P a w K (λ_ _ _=>False)):o.wp P a w K Q:=by
 unfold Oper.wp at *;generalize (execOp a.eval o).run P w=r at *
 cases r with
 |ok n w' =>
  cases n<;>simp only [Oper.upon] at hh ⊢<;>first
   |exact hh
   |exact Calls.mono hh (λe w'' he=>by
     cases e with
     |returned v=>exact he
     |panicked c=>exact he.elim
     |outgrown=>exact (by obtain ⟨_,_,hf⟩:=he;exact hf.elim))
 |halt x w'=>cases x<;>simp only [Oper.upon] at hh ⊢
theorem Rel.drew{B:gT}{s:St}{a:Act}{w:World}{Z:Nat->Prop}{μ:bS}(h:Rel B s a w Z μ):Rel B s a { w with drawn:=w.drawn+1 } Z μ:=by
 have hL:cq B s.mem w Z μ (λ_=>False):=⟨λ_ h=>h.elim,λ_ _ h=>h.elim⟩;have hs0:bX Z w { w with drawn:=w.drawn+1 }:=λ_ _=>rfl;have h1:=(oF (w':={ w with drawn:=w.drawn+1 }) h.mem hL (λ_ _ _=>rfl) (Nat.le_refl _)).1;exact ⟨h1,λi x hx=>(h.tm i x hx).mono hs0 (λ_ h=>h) (dW.refl μ),h.len,h.df⟩
theorem qx{B:gT}{ops:Array Oper}{o:Oper}{s:St}{a:Act}{w:World}{Z:Nat->Prop}{μ:bS}(h:Rel B s a w Z μ){b:Bool}(hw:pB ops s o=some b) :
  Region.wanted o (yielded ops a.tmps)=b:=by
 unfold pB at hw;unfold Region.wanted
 cases hg:o.guard with
 |none=>rw [hg] at hw;simp only [Option.some.injEq] at hw;simp [<- hw]
 |some gw =>
  obtain ⟨j,want⟩:=gw;rw [hg] at hw;simp only at hw;split at hw
  case h_2=>cases hw
  rename_i p hp;split at hw
  case h_2=>cases hw
  rename_i d hd;have hr:=h.get d
  have hy:yielded ops a.tmps j=match a.tmps.getD d undef with|.bool b=>some b|_=>none:=by
   unfold yielded;rw [hp];simp only [Option.bind_some,hd];rw [Array.getD_eq_getD_getElem?]
   cases hx:a.tmps[d]? with
   |none=>rfl
   |some v=>cases v<;>rfl
  simp only [hy];split at hw
  ·rename_i t ht;rw [ht] at hr;have hr:a.tmps.getD d undef=.bool t:=hr;rw [hr];simp only [Option.some.injEq] at hw;rw [<- hw]
   cases t<;>cases want<;>rfl
  ·rename_i l ht;rw [ht] at hr;obtain ⟨vs,hr,_⟩:=hr;rw [hr];simp only [Option.some.injEq] at hw;rw [<- hw]
   cases want<;>rfl
  ·cases hw
section
variable {E:Env}{ops:Array Oper}{A:List Nat}{s0:St}{c0:Nat}{es:List Ent}
structure Apart (ops:Array Oper) (o p:Oper) (e f:Ent):Prop where
 slot:∀ d,p.dst=some d->d ∉ o.looksAt ops/\o.dst≠some d
 root:∀ r,f.wr.has r->¬ e.rd.has r/\¬ e.wr.has r
theorem i7.ua{a b:i7}(h:a.off b=true){r:Nat}(ha:a.has r):¬ b.has r:=by
 unfold i7.off at h;split at h
 ·intro hb;have h1:=List.all_eq_true.1 h r (by simpa [i7.has] using ha);have hb:List.contains _ r=true:=hb;rw [hb] at h1;cases h1
 ·simp [i7.has] at ha
 ·intro hb;simp [i7.has] at hb
 ·cases h
theorem xB(hT:vD E ops A s0 c0 es)(hes:es.length=ops.toList.length)(he:pA ops=true)(hA:tu ops A=true)(hs:pQ ops A=true){S:Nat->Bool}(hS:wL ops S){i j:Nat}(hi:i < ops.toList.length)(hj:j < ops.toList.length)
  (hSi:S i=false) (hready:∀ e∈ops.toList[i].after.toList,Region.binds .any e=true->S e.on=true) (hij:j≠i) (hne:S j≠decide (j < i)) :
  Apart ops ops.toList[i] ops.toList[j] es[i] es[j]:=by
 have hoi:ops.toList[i]?=some ops.toList[i]:=List.getElem?_eq_getElem hi;have hoj:ops.toList[j]?=some ops.toList[j]:=List.getElem?_eq_getElem hj
 have h1:ahead A j i=false:=by
  cases h:ahead A j i with
  |false=>rfl
  |true =>
   obtain ⟨h2,h3⟩:=rC hA he hS i hoi hready h;rw [h2] at hne;simp [h3] at hne
 have h2:ahead A i j=false:=by
  cases h:ahead A i j with
  |false=>rfl
  |true =>
   have hlt:i < j:=(rC hA he (S:=λ_=>true) (λ_ _ _ _ _ _ _=>rfl) j hoj (λ_ _ _=>rfl) h).2
   cases hSj:S j with
   |true =>
    have:=(rC hA he hS j hoj (λe he' hb=>hS j _ hoj hSj e he' hb) h).1;rw [hSi] at this;cases this
   |false =>
    rw [hSj] at hne;simp at hne;omega
 refine ⟨λd hd=>?_,λr hr=>?_⟩
 ·have hm1:(ops.toList[i],i)∈ops.toList.zipIdx:=by rw [List.mem_zipIdx_iff_getElem?];exact hoi
  have hm2:(ops.toList[j],j)∈ops.toList.zipIdx:=by rw [List.mem_zipIdx_iff_getElem?];exact hoj
  have h3:=List.all_eq_true.1 (List.all_eq_true.1 hs _ hm1) _ hm2;simp only [Dp] at h3
  have hbeq:(j == i)=false:=by simpa using hij
  rw [hbeq] at h3;simp only [hd,h1,h2,Bool.or_self] at h3
  cases h4:((ops.toList[i].looksAt ops).contains d || ops.toList[i].dst == some d) with
  |true=>rw [h4] at h3;cases h3
  |false =>
   simp only [Bool.or_eq_false_iff,List.contains_eq_mem,decide_eq_false_iff_not,beq_eq_false_iff_ne] at h4;exact h4
 ·by_cases n1:i7.xf es[i].rd es[i].wr
  ·obtain ⟨n2,n3⟩:=n1;rw [n2,n3];exact ⟨by simp [i7.has],by simp [i7.has]⟩
  by_cases n2:i7.xf es[j].rd es[j].wr
  ·obtain ⟨_,n3⟩:=n2;rw [n3] at hr;simp [i7.has] at hr
  rcases Nat.lt_or_gt_of_ne hij with hlt|hlt
  ·have h3:=hT.log j i (by omega) (by omega) hlt n1 n2;rw [h1,Bool.or_false,Bool.and_eq_true,Bool.and_eq_true] at h3;exact ⟨i7.ua h3.1 hr,λhh=>i7.ua h3.2.2 hh hr⟩
  ·have h3:=hT.log i j (by omega) (by omega) hlt n2 n1;rw [h2,Bool.or_false,Bool.and_eq_true,Bool.and_eq_true] at h3;exact ⟨i7.ua h3.2.1 hr,i7.ua h3.2.2 hr⟩
end
end Go.Mach

namespace Go.Mach
theorem Gq{s s':St}{x:Operand}(h:∀ t,x=.tmp t->s.tmps[t]?=s'.tmps[t]?):val s x=val s' x:=by
 cases x with
 |tmp t=>simp only [val,St.get,h t rfl]
 |_=>rfl
def tS(S:Nat->Bool)(i:Nat):Nat->Bool:=λj=>S j || j == i
section
variable {E:Env}{ops:Array Oper}{A:List Nat}{s0:St}{c0:Nat}{es:List Ent}
theorem KF{m m':Mem}(hl:m.roots.length=m'.roots.length)(c:Nat)(R:i7)(h:∀ r,R.has r->m.roots[r]?=m'.roots[r]?):m.view c R=m'.view c R:=by
 have:(m.mask R).roots=(m'.mask R).roots:=by
  apply List.ext_getElem?;intro r;have h1:=sT m c R r;have h2:=sT m' c R r;by_cases hr:R.has r
  ·exact (h1.1 hr).trans ((h r hr).trans (h2.1 hr).symm)
  ·refine (h1.2 hr).trans (.trans ?_ (h2.2 hr).symm);by_cases hlt:r < m.roots.length
   ·rw [List.getElem?_eq_getElem hlt,List.getElem?_eq_getElem (by omega)];rfl
   ·rw [List.getElem?_eq_none (by omega),List.getElem?_eq_none (by omega)]
 unfold Mem.view;rw [this]
variable (hT:vD E ops A s0 c0 es) (hes:es.length=ops.toList.length) (he:pA ops=true) (hA:tu ops A=true) (hs:pQ ops A=true)
 {S:Nat->Bool}(hS:wL ops S){i:Nat}(hi:i < ops.toList.length) (hSi:S i=false) (hready:∀ e∈ops.toList[i].after.toList,Region.binds .any e=true->S e.on=true)
theorem ES(hes:es.length=ops.toList.length){k:Nat}(hk:k < (ops.toList.zip es).length):k < ops.toList.length/\∃ (h:k < ops.toList.length) (h':k < es.length),(ops.toList.zip es)[k]=(ops.toList[k],es[k]):=by
 have h1:k < ops.toList.length:=by rw [List.length_zip] at hk;omega
 have h2:k < es.length:=by omega
 exact ⟨h1,h1,h2,List.getElem_zip⟩
include hT hes he hA hs hS hSi hready
theorem BG{d:Nat}(hd:d∈ops.toList[i].looksAt ops):(stS (ops.toList.zip es) S 0 s0).tmps[d]?=(sAt ops es s0 i).tmps[d]?:=by
 refine (uT d _ _ _ 0 s0 s0 rfl rfl λk hk hkd=>?_).1;obtain ⟨h1,_,h2,h3⟩:=ES hes hk;rw [h3] at hkd;rw [Nat.zero_add];by_cases hki:k=i
 ·subst hki;rw [hSi];simp
 ·by_cases hne:S k=decide (k < i)
  ·exact hne
  ·exact absurd hd ((xB hT hes he hA hs hS hi h1 hSi hready hki hne).slot d hkd).1
theorem Jx(hi':i < es.length){r:Nat}(hr:es[i].rd.has r):(stS (ops.toList.zip es) S 0 s0).mem.roots[r]?=(sAt ops es s0 i).mem.roots[r]?:=by
 refine (sC r _ _ _ 0 s0 s0 (hT.fits rfl) rfl rfl rfl λk hk hkd=>?_).1;obtain ⟨h1,_,h2,h3⟩:=ES hes hk;rw [h3] at hkd;rw [Nat.zero_add];by_cases hki:k=i
 ·subst hki;rw [hSi];simp
 ·by_cases hne:S k=decide (k < i)
  ·exact hne
  ·exact absurd hr ((xB hT hes he hA hs hS hi h1 hSi hready hki hne).root r hkd).1
theorem JA{x:Operand}(hx:x∈ops.toList[i].op.operands):val (stS (ops.toList.zip es) S 0 s0) x=val (sAt ops es s0 i) x :=
 Gq λt ht=>BG hT hes he hA hs hS hi hSi hready (by
  subst ht
  exact List.mem_append_left _ (List.mem_filterMap.2 ⟨.tmp t,by simpa using hx,rfl⟩))
theorem DA:pB ops (stS (ops.toList.zip es) S 0 s0) ops.toList[i]=pB ops (sAt ops es s0 i) ops.toList[i]:=by
 have key:∀ d,d∈ops.toList[i].looksAt ops->(stS (ops.toList.zip es) S 0 s0).get d=(sAt ops es s0 i).get d:=λd hd=>by
  unfold St.get;rw [BG hT hes he hA hs hS hi hSi hready hd]
 unfold pB
 cases hg:ops.toList[i].guard with
 |none=>rfl
 |some gw =>
  obtain ⟨j,want⟩:=gw;simp only
  cases hp:ops[j]? with
  |none=>rfl
  |some p =>
   simp only
   cases hd:p.dst with
   |none=>rfl
   |some d =>
    simp only
    rw [key d (by
     unfold Oper.looksAt;rw [hg];refine List.mem_append_right _ ?_
     simp [hp,hd])]
theorem FH(hi':i < es.length):Alike (es[i].put ops.toList[i] (stS (ops.toList.zip es) S 0 s0)) (stS (ops.toList.zip es) (tS S i) 0 s0):=by
 have hsz:ops.toList.length=ops.size:=by simp
 have hfits:=hT.fits (N:=s0.mem.roots.length) rfl
 have hz:ops.toList.zip es=(ops.toList.take i).zip (es.take i)++(ops.toList[i],es[i])::(ops.toList.drop (i+1)).zip (es.drop (i+1)):=by
  have h1:ops.toList=ops.toList.take i++ops.toList[i]::ops.toList.drop (i+1):=by
   rw [List.getElem_cons_drop,List.take_append_drop]
  have h2:es=es.take i++es[i]::es.drop (i+1):=by
   rw [List.getElem_cons_drop,List.take_append_drop]
  conv=>lhs;rw [h1,h2]
  rw [List.zip_append (by rw [List.length_take,List.length_take];omega),List.zip_cons_cons]
 generalize hL1:(ops.toList.take i).zip (es.take i)=L1 at hz;generalize hL2:(ops.toList.drop (i+1)).zip (es.drop (i+1))=L2 at hz
 have hl1:L1.length=i:=by rw [<- hL1,List.length_zip,List.length_take,List.length_take];omega
 let X:St:=stS L1 S 0 s0
 have hLS:stS (ops.toList.zip es) S 0 s0=stS L2 S (i+1) X:=by
  rw [hz,pV];simp only [stS,Nat.zero_add,hl1,hSi];rfl
 have hLS':stS (ops.toList.zip es) (tS S i) 0 s0=stS L2 S (i+1) (es[i].put ops.toList[i] X):=by
  rw [hz,pV]
  have hb:tS S i i=true:=by simp [tS]
  simp only [stS,Nat.zero_add,hl1,hb]
  rw [qS L1 (tS S i) S 0 s0 (λk hk=>by
   rw [Nat.zero_add];unfold tS
   have:(k == i)=false:=by simp;omega
   rw [this,Bool.or_false])]
  exact qS L2 (tS S i) S (i+1) _ (λk hk=>by
   unfold tS
   have:(i+1+k == i)=false:=by simp;omega
   rw [this,Bool.or_false])
 have hfL2:∀ p∈L2,p.2.fits s0.mem.roots.length:=λp hp=>hfits p (by rw [hz];simp [hp]);have hfe:es[i].fits s0.mem.roots.length:=hfits (ops.toList[i],es[i]) (by rw [hz];simp);have hXl:X.mem.roots.length=s0.mem.roots.length:=sj (λp hp=>hfits p (by rw [hz];simp [hp])) rfl
 have hap:∀ k (hk:k < L2.length),S (i+1+k)=true->Apart ops ops.toList[i] L2[k].1 es[i] L2[k].2:=by
  intro k hk hSk
  have hk':i+1+k < ops.toList.length:=by rw [<- hL2,List.length_zip,List.length_drop] at hk;omega
  have h2:L2[k]=(ops.toList[i+1+k],es[i+1+k]):=by
   have h3:L2[k]?=some (ops.toList[i+1+k],es[i+1+k]):=by
    rw [<- hL2,List.getElem?_zip_eq_some];simp only [List.getElem?_drop];exact ⟨List.getElem?_eq_getElem hk',List.getElem?_eq_getElem (by omega)⟩
   rw [List.getElem?_eq_getElem hk] at h3;exact Option.some.inj h3
  rw [h2];exact xB hT hes he hA hs hS hi hk' hSi hready (by omega) (by rw [hSk];simp;omega)
 have htl:∀ {Y Y':St},Y.tmps.length=Y'.tmps.length->(stS L2 S (i+1) Y).tmps.length=Y'.tmps.length:=by
  intro Y Y' h;have h1:=HM (L:=L2) (S:=S) (S':=λ_=>false) (i:=i+1) (s:=Y);rw [h1,pC L2 (λ_=>false) (i+1) _ (λ_ _=>rfl)];exact h
 have hpl:(es[i].put ops.toList[i] X).tmps.length=X.tmps.length:=by rw [Ent.nv];cases ops.toList[i].dst<;>simp
 rw [hLS,hLS'];constructor
 ·apply List.ext_getElem?;intro d;by_cases hd:ops.toList[i].dst=some d
  ·have h1:=(uT d L2 S (λ_=>false) (i+1) (es[i].put ops.toList[i] X) (es[i].put ops.toList[i] X) rfl rfl λk hk hkd=>by
    cases hSk:S (i+1+k) with
    |false=>rfl
    |true=>exact absurd hd ((hap k hk hSk).slot d hkd).2).1
   rw [h1,pC L2 (λ_=>false) (i+1) _ (λ_ _=>rfl)];simp only [Ent.nv,hd];have hl:=htl (Y:=X) (Y':=X) rfl;by_cases hlt:d < X.tmps.length
   ·rw [List.getElem?_set_self (by omega),List.getElem?_set_self hlt]
   ·rw [List.getElem?_eq_none (by rw [List.length_set];omega),List.getElem?_eq_none (by rw [List.length_set];omega)]
  ·have oq:∀ Y:St,(es[i].put ops.toList[i] Y).tmps[d]?=Y.tmps[d]?:=λY=>by
    rw [Ent.nv]
    cases ho:ops.toList[i].dst with
    |none=>rfl
    |some d' =>
     have hne:d'≠d:=by rintro rfl;exact hd ho
     simp only;rw [List.getElem?_set_ne hne]
   rw [oq];exact (uT d L2 S S (i+1) X (es[i].put ops.toList[i] X) (oq X).symm hpl.symm λ_ _ _=>rfl).1
 ·apply List.ext_getElem?;intro r;have hX2:(stS L2 S (i+1) X).mem.roots.length=s0.mem.roots.length:=sj hfL2 hXl;obtain ⟨hp1,hp2⟩:=Ent.my hfe ops.toList[i] hXl;by_cases hr:es[i].wr.has r
  ·rw [((Ent.my hfe ops.toList[i] hX2).2 r).1 hr]
   have h1:=(sC r L2 S (λ_=>false) (i+1) (es[i].put ops.toList[i] X) (es[i].put ops.toList[i] X) hfL2 rfl hp1 hp1 λk hk hkd=>by
    cases hSk:S (i+1+k) with
    |false=>rfl
    |true=>exact absurd hr ((hap k hk hSk).root r hkd).2).1
   rw [h1,pC L2 (λ_=>false) (i+1) _ (λ_ _=>rfl),(hp2 r).1 hr]
  ·rw [((Ent.my hfe ops.toList[i] hX2).2 r).2 hr];exact (sC r L2 S S (i+1) X (es[i].put ops.toList[i] X) hfL2 ((hp2 r).2 hr).symm hXl hp1 λ_ _ _=>rfl).1
end
end Go.Mach

namespace Go.Mach
section
variable {B:gT}{E:Env}{ops:Array Oper}{A:List Nat}{s0:St}{c0:Nat}{es:List Ent}
def zY(B:gT)(E:Env)(ops:Array Oper)(s0:St)(c0:Nat)(es:List Ent)(Z0:Nat->Prop)(μ0:bS)(S:Nat->Bool)(a:Act)(w:World):Prop :=
 ∃ Z μ,Rel B (stS (ops.toList.zip es) S 0 s0) a w Z μ/\(∀ b,Z0 b->Z b)/\dW μ0 μ/\(∀ r,(r < c0\/c0+eF E ops.toList<=r)->μ0 r=none->μ r=none) /\
  ∀ i,i < ops.toList.length->S i=false->∀ r,cAt E ops c0 i<=r->r < cAt E ops c0 (i+1)->μ r=none
variable {Z0:Nat->Prop}{μ0:bS}
theorem zY.step{Q:Exit->Act->World->Prop}(hE:px E B.g)(hN:c0+eF E ops.toList<=s0.mem.roots.length)(hT:vD E ops A s0 c0 es)(hes:es.length=ops.toList.length)(he:pA ops=true)(hA:tu ops A=true)(hs:pQ ops A=true)
  {S:Nat->Bool}(hS:wL ops S){i:Nat}(hi:i < ops.toList.length) (hSi:S i=false) (hready:∀ e∈ops.toList[i].after.toList,Region.binds .any e=true->S e.on=true){a:Act}{w:World}(h:zY B E ops s0 c0 es Z0 μ0 S a w)
  {K:Act->World->Prop}(hK:∀ a w,zY B E ops s0 c0 es Z0 μ0 (tS S i) a w->K a w):wpOp E.P ops Q i K a w:=by
 obtain ⟨Z,μ,hR,hz,hm,hfar,hfree⟩:=h
 have hi':i < es.length:=by omega
 have hsz:ops.toList.length=ops.size:=by simp
 have ho:ops[i]?=some ops.toList[i]:=by
  have:ops.toList[i]?=some ops.toList[i]:=List.getElem?_eq_getElem hi;simpa using this
 have hcs:=Bv (E:=E) (c0:=c0) (List.getElem?_eq_getElem hi:ops.toList[i]?=some ops.toList[i])
 have hcall:cAt E ops c0 (i+1)<=c0+eF E ops.toList:=by
  have:=xi (E:=E) (ops:=ops) (c0:=c0) (i:=i+1) (j:=ops.toList.length) (by omega);unfold cAt at this ⊢;rw [List.take_length] at this;exact this
 have hc0:c0<=cAt E ops c0 i:=Nat.le_add_right _ _;have hlen:(stS (ops.toList.zip es) S 0 s0).mem.roots.length=s0.mem.roots.length:=sj (hT.fits rfl) rfl;have hlen':(sAt ops es s0 i).mem.roots.length=s0.mem.roots.length:=sj (hT.fits rfl) rfl;have hal:=FH hT hes he hA hs hS hi hSi hready hi';have hat:=hT.at_ i hi' hi;have hweq:=DA hT hes he hA hs hS hi hSi hready
 have hrest:∀ (μ':bS),(∀ r,(r < cAt E ops c0 i\/cAt E ops c0 (i+1)<=r)->μ r=none->μ' r=none) ->
   (∀ r,(r < c0\/c0+eF E ops.toList<=r)->μ0 r=none->μ' r=none)/\∀ j,j < ops.toList.length->tS S i j=false->∀ r,cAt E ops c0 j<=r->r < cAt E ops c0 (j+1)->μ' r=none:=by
  intro μ' hout;refine ⟨λr hr h0=>hout r (by omega) (hfar r hr h0),λj hj hSj r h1 h2=>?_⟩;simp only [tS,Bool.or_eq_false_iff,beq_eq_false_iff_ne] at hSj;refine hout r ?_ (hfree j hj hSj.1 r h1 h2);rcases Nat.lt_or_gt_of_ne hSj.2 with hlt|hlt
  ·have:=xi (E:=E) (ops:=ops) (c0:=c0) (i:=j+1) (j:=i) (by omega);omega
  ·have:=xi (E:=E) (ops:=ops) (c0:=c0) (i:=i+1) (j:=j) (by omega);omega
 unfold wpOp;rw [ho];simp only;generalize hent:es[i]=e at hat hal
 cases e with
 |none =>
  have hat:pB ops (sAt ops es s0 i) ops.toList[i]=some false:=hat;rw [qx hR (hweq.trans hat)];simp only [Bool.false_eq_true,if_false];have hR':Rel B ((stS (ops.toList.zip es) S 0 s0).put ops.toList[i].dst (.tup [])) (a.put ops.toList[i].dst Go.undef) w Z μ:=hR.xE ops.toList[i].dst ⟨[],rfl,rfl,λk h=>by simp at h⟩;obtain ⟨h1,h2⟩:=hrest μ (λ_ _ h=>h);exact hK _ _ ⟨Z,μ,hR'.alike hal,hz,hm,h1,h2⟩
 |some e =>
  obtain ⟨v,R,W,m1⟩:=e;obtain ⟨hw,hsv,hok,hl1,_⟩:=hat;rw [qx hR (hweq.trans hw)];simp only [if_true];left
  have hview:(stS (ops.toList.zip es) S 0 s0).mem.view (cAt E ops c0 i) R=(sAt ops es s0 i).mem.view (cAt E ops c0 i) R :=
   KF (hlen.trans hlen'.symm) _ R λr hr=>Jx hT hes he hA hs hS hi hSi hready hi' (by rw [hent];exact hr)
  have hsv':(fa E (val (stS (ops.toList.zip es) S 0 s0)) ((stS (ops.toList.zip es) S 0 s0).mem.view (cAt E ops c0 i) R) ops.toList[i] nP).strip=some (v,m1):=by
   rw [hview,Au (λx hx=>JA hT hes he hA hs hS hi hSi hready hx)];exact hsv
  have hop:=(A6 (E:=E) (o:=ops.toList[i]) (c:=cAt E ops c0 i) (R:=R) (W:=W) hR hE (λk hk=>hfree i hi hSi _ (by omega) (by omega)) (by omega)).2 v m1 hsv' (by rw [hlen,<- hlen'];exact hok);refine Oper.CY (Oper.wp_mono ?_ hop.2);rintro a' w' ⟨Z',μ',hR',hzz,hext,hout⟩;obtain ⟨h1,h2⟩:=hrest μ' (λr hr h0=>hout r (by omega) h0);exact hK _ _ ⟨Z',μ',Rel.alike hR' hal,λb hb=>hzz b (hz b hb),hm.trans hext,h1,h2⟩
theorem yQ{p p':Nat->Bool}(hpp:∀ j,p' j=true->p j=true){i:Nat}(h1:p i=true)(h2:p' i=false):∀ (l:List Nat),i∈l->l.countP p' < l.countP p
 |[],h=>by cases h
 |x::l,h=>by
  rw [List.countP_cons,List.countP_cons];have hle:l.countP p'<=l.countP p:=List.countP_mono_left λx _ hx=>hpp x hx;by_cases hx:x=i
  ·subst hx;rw [h1,h2];simp only [if_true,Bool.false_eq_true,if_false];omega
  ·have hm:i∈l:=by simpa [Ne.symm hx] using h
   have:=yQ hpp h1 h2 l hm
   cases hp':p' x with
   |false=>simp only [Bool.false_eq_true,if_false];omega
   |true=>rw [hpp x hp'];simp only [if_true];omega
theorem yS(he:pA ops=true){listed:Array Bool}(hsz:listed.size=ops.size)(h:Region.ready .any ops listed=[]):∀ j,j < ops.size->listed.getD j false=true:=by
 intro j
 induction j using Nat.strongRecOn with
 |_ j ih =>
  intro hj;have hoj:ops[j]?=some ops[j]:=Array.getElem?_eq_getElem hj
  have hnr:j ∉ Region.ready .any ops listed:=by rw [h];simp
  rw [mem_ready] at hnr
  cases hl:listed.getD j true with
  |true=>simpa [Array.getD,hsz,hj] using hl
  |false =>
   exfalso;refine hnr ⟨hl,ops[j],hoj,λe he' hb=>?_⟩
   have hm:(ops[j],j)∈ops.toList.zipIdx:=by rw [List.mem_zipIdx_iff_getElem?];simpa using hoj
   have h1:=List.all_eq_true.1 (List.all_eq_true.1 he _ hm) e (by simpa using he');simp only [hb,Bool.not_true,Bool.false_or,decide_eq_true_eq] at h1;exact ih e.on h1 (by omega)
theorem zY.any{Q:Exit->Act->World->Prop}(hE:px E B.g)(hN:c0+eF E ops.toList<=s0.mem.roots.length)(hT:vD E ops A s0 c0 es)(hes:es.length=ops.toList.length)(he:pA ops=true)(hA:tu ops A=true)(hs:pQ ops A=true)
  (hQ:∀ S a w,(∀ j,j < ops.size->S j=true)->zY B E ops s0 c0 es Z0 μ0 S a w->Q .normal a w):∀ (fuel:Nat) (listed:Array Bool) (a:Act) (w:World),listed.size=ops.size->wL ops (λj=>listed.getD j false) ->
   (List.range ops.size).countP (λj=>!listed.getD j true)<=fuel->zY B E ops s0 c0 es Z0 μ0 (λj=>listed.getD j false) a w->wpAny E.P .any ops Q fuel listed a w
 |0,listed,a,w,hsz,hC,hc,h=>by
  have hn:Region.ready .any ops listed=[]:=by
   cases hr:Region.ready .any ops listed with
   |nil=>rfl
   |cons j l =>
    have hj:j∈Region.ready .any ops listed:=by rw [hr];simp
    obtain ⟨h1,o,h2,_⟩:=mem_ready.1 hj;have hlt:j < ops.size:=(Array.getElem?_eq_some_iff.1 h2).1;have:0 < (List.range ops.size).countP (λj=>!listed.getD j true):=List.countP_pos_iff.2 ⟨j,by simpa using hlt,by rw [h1];rfl⟩;omega
  exact ⟨hn,hQ _ a w (yS he hsz hn) h⟩
 |fuel+1,listed,a,w,hsz,hC,hc,h=>by
  refine ⟨λhn=>hQ _ a w (yS he hsz hn) h,λi hi=>?_⟩;obtain ⟨h1,o,h2,h3⟩:=mem_ready.1 hi;have hlt:i < ops.size:=(Array.getElem?_eq_some_iff.1 h2).1
  have hlt':i < ops.toList.length:=by simpa using hlt
  have hoi:ops.toList[i]=o:=by
   have:=(Array.getElem?_eq_some_iff.1 h2).2;simpa using this
  have hun:listed.getD i false=false:=by
   have hl:i < listed.size:=by omega
   simpa [Array.getD,hl] using h1
  have hadd:∀ j,(listed.setIfInBounds i true).getD j false=tS (λj=>listed.getD j false) i j:=by
   intro j;unfold tS;by_cases hji:i=j
   ·subst hji
    have hl:i < listed.size:=by omega
    simp [hl]
   ·have:(j == i)=false:=by simp;omega
    rw [getD_set_ne false hji,this,Bool.or_false]
  have hadd':(λj=>(listed.setIfInBounds i true).getD j false)=tS (λj=>listed.getD j false) i:=funext hadd;refine zY.step hE hN hT hes he hA hs hC hlt' hun (λe he' hb=>h3 e (by rw [hoi] at he';simpa using he') hb) h λa' w' h'=>?_;refine zY.any hE hN hT hes he hA hs hQ fuel _ a' w' (by simp [hsz]) ?_ ?_ (by rw [hadd'];exact h')
  ·rw [hadd'];intro j oj hj hSj e he' hb;simp only [tS,Bool.or_eq_true,beq_iff_eq] at hSj ⊢;rcases hSj with hSj|rfl
   ·exact .inl (hC j oj hj hSj e he' hb)
   ·have:oj=o:=by
     have h4:ops.toList[j]?=some ops.toList[j]:=List.getElem?_eq_getElem hlt';rw [hj] at h4;exact (Option.some.inj h4).trans hoi
    subst this;exact .inl (h3 e (by simpa using he') hb)
  ·have hlt2:=yQ (p:=λj=>!listed.getD j true) (p':=λj=>!(listed.setIfInBounds i true).getD j true) (λj hj=>by
     by_cases hji:i=j
     ·subst hji
      have hl:i < listed.size:=by omega
      simp [hl] at hj
     ·rw [getD_set_ne true hji] at hj;exact hj) (i:=i) (by simp only [h1];rfl) (by
      have hl:i < listed.size:=by omega
      simp [hl]) (List.range ops.size) (by simpa using hlt)
   omega
variable {β:Type}{Ψ:β->Prop}{K:St->Res β}
theorem DK{Q:Exit->Act->World->Prop}{id:Nat}(hm:E.P.follows .mixedOrders=true)(hdr:E.dr=true)(hE:px E B.g)(he:pA ops=true)(hA:tu ops A=true)(hs:pQ ops A=true)
  (hN:c0+eF E ops.toList<=s0.mem.roots.length){a:Act}{w:World}{Z:Nat->Prop}{μ:bS}(hR:Rel B s0 a w Z μ) (hfree:∀ r,c0<=r->r < c0+eF E ops.toList->μ r=none)
  (h:(mM E ops A ops.toList 0 c0 [] s0 K).sat Ψ)
  (hQ:∀ es,vD E ops A s0 c0 es->es.length=ops.toList.length->(K ⟨(sAt ops es s0 es.length).tmps,(sAt ops es s0 es.length).mem.at (cAt E ops c0 es.length),(sAt ops es s0 es.length).dT⟩).sat Ψ ->
   ∀ a' w' Z' μ',Rel B (sAt ops es s0 es.length) a' w' Z' μ'->(∀ b,Z b->Z' b)->dW μ μ'->(∀ r,(r < c0\/c0+eF E ops.toList<=r)->μ r=none->μ' r=none)->Q .normal a' w') :
  (Code.region id ops true).wp E.P Q a w:=by
 have hc00:cAt E ops c0 0=c0:=by simp [cAt,eF]
 have hT0:vD E ops A s0 c0 []:=⟨by simp,λi hi=>by simp at hi,λj i hj=>by simp at hj⟩
 have hs00:sAt ops [] s0 0=s0:=by simp [sAt,stS]
 obtain ⟨es,hT,hes,hKs⟩:=p8 hdr hE hN ops.toList [] [] (a:=a) (w:=w) (Z:=Z) (μ:=μ) (B:=B) (by simp) hT0 (by simpa [hs00] using hR) (λr h1 h2=>hfree r (by simpa [hc00] using h1) h2) (λj hj=>by simp at hj) (by simpa [hs00,hc00] using h)
 have hrep:(λj=>(Array.replicate ops.size false).getD j false)=λ_=>false:=by
  funext j;simp only [Array.getD]
  split<;>simp
 refine wp_region_any hm ?_;refine zY.any (B:=B) (Z0:=Z) (μ0:=μ) hE hN hT hes he hA hs (λS a' w' hall hI=>?_) ops.size _ a _ (by simp) (by rw [hrep];intro j o hj hSj;cases hSj) ?_ ?_
 ·obtain ⟨Z',μ',hR',h1,h2,h3,_⟩:=hI;refine hQ es hT hes hKs a' w' Z' μ' (hR'.alike ?_) h1 h2 h3
  have:stS (ops.toList.zip es) S 0 s0=sAt ops es s0 es.length:=by
   unfold sAt;refine qS _ _ _ _ _ λk hk=>?_
   have hsz:ops.toList.length=ops.size:=by simp
   rw [List.length_zip] at hk;rw [Nat.zero_add,hall k (by omega)];simp;omega
  rw [this];exact ⟨rfl,rfl⟩
 ·refine Nat.le_trans List.countP_le_length ?_;simp
 ·refine ⟨Z,μ,?_,λ_ h=>h,dW.refl μ,λ_ _ h=>h,λi hi _ r h1 h2=>hfree r ?_ ?_⟩
  ·rw [hrep,pC _ _ _ _ (λ_ _=>rfl)];exact hR.drew
  ·exact Nat.le_trans (Nat.le_add_right _ _) h1
  ·have:=xi (E:=E) (ops:=ops) (c0:=c0) (i:=i+1) (j:=ops.toList.length) (by omega);unfold cAt at this h2;rw [List.take_length] at this;omega
end
end Go.Mach

namespace Go.Mach
section
variable {w0 w:World}{Z0 Z:Nat->Prop}{μ0 μ μr:bS}(hr:∀ r,μ0 r≠none->μr r=μ r)
include hr
theorem qB.restrict{r off:Nat}{v0 v:Value}(h0:qB μ0 r off v0)(h:qB μ r off v):qB μr r off v:=by
 obtain ⟨ℓ0,_,h1,_⟩:=h0;obtain ⟨ℓ,b,h2,h3⟩:=h;exact ⟨ℓ,b,by rw [hr r (by rw [h1];simp)];exact h2,h3⟩
theorem CR.restrict{c:C}{v0 v:Value}(h0:CR w0 Z0 μ0 c v0)(h:CR w Z μ c v):CR w Z μr c v:=by
 cases c with
 |ref r wd =>
  obtain ⟨ℓ0,h1,_⟩:=h0;obtain ⟨ℓ,h2,h3⟩:=h;exact ⟨ℓ,by rw [hr r (by rw [h1];simp)];exact h2,h3⟩
 |ptr r off=>exact qB.restrict hr h0 h
 |nc r i off =>
  obtain ⟨ℓ0,_,h1,_⟩:=h0;obtain ⟨ℓ,b,h2,h3⟩:=h;exact ⟨ℓ,b,by rw [hr r (by rw [h1];simp)];exact h2,h3⟩
 |stp q =>
  obtain ⟨ℓ0,h1,_⟩:=h0;obtain ⟨ℓ,h2,h3⟩:=h;exact ⟨ℓ,by rw [hr q (by rw [h1];simp)];exact h2,h3⟩
 |mp r =>
  obtain ⟨ℓ0,_,h1,_⟩:=h0;obtain ⟨ℓ,b,h2,h3⟩:=h;exact ⟨ℓ,b,by rw [hr r (by rw [h1];simp)];exact h2,h3⟩
 |fn f fB =>
  obtain ⟨vs0,_,g2,g3⟩:=h0;obtain ⟨vs,h1,h2,h3⟩:=h;refine ⟨vs,h1,h2,λk hk hk'=>?_⟩;have a:=g3 k hk (by omega);have b:=h3 k hk hk'
  cases hc:fB[k] with
  |root r=>rw [hc] at a b;exact qB.restrict hr a b
  |frz e x=>rw [hc] at b;exact b
 |_=>exact h
theorem CRs.restrict{cs:List C}{vs0 vs:List Value}(h0:CRs w0 Z0 μ0 cs vs0)(h:CRs w Z μ cs vs):CRs w Z μr cs vs :=
 ⟨h.1,λk hk hk'=>CR.restrict hr (h0.2 k hk (by have:=h0.1;omega)) (h.2 k hk hk')⟩
theorem AR.restrict{x:AV}{v0 v:Value}(h0:AR w0 Z0 μ0 x v0)(h:AR w Z μ x v):AR w Z μr x v:=by
 cases x with
 |c x=>exact CR.restrict hr h0 h
 |agg cs =>
  obtain ⟨_,_,h1⟩:=h0;obtain ⟨vs,h2,h3⟩:=h;exact ⟨vs,h2,h1.restrict hr h3⟩
 |tup l =>
  obtain ⟨vs0,_,g2,g3⟩:=h0;obtain ⟨vs,h1,h2,h3⟩:=h;refine ⟨vs,h1,h2,λk hk hk'=>?_⟩;have a:=g3 k hk (by omega);have b:=h3 k hk hk';rcases hl:l[k] with ⟨ag,cs⟩;rw [hl] at a b
  cases ag with
  |true =>
   obtain ⟨_,_,a⟩:=a;obtain ⟨us,b1,b2⟩:=b;exact ⟨us,b1,a.restrict hr b2⟩
  |false =>
   match cs,a,b with
   |c::_,a,b=>exact CR.restrict hr a b
   |[],_,_=>trivial
theorem iN.restrict{Y0 Y:Nat->Prop}{ℓ0 ℓ:Loc}{x:cu}(h0:iN w0 Z0 Y0 μ0 ℓ0 x)(h:iN w Z Y μ ℓ x):iN w Z Y μr ℓ x:=by
 cases x with
 |dead=>trivial
 |frz e xs=>exact h
 |bor s xs=>exact h
 |ql cs =>
  obtain ⟨_,_,_,us0,_,g⟩:=h0;obtain ⟨b,h1,h2,us,h3,h4⟩:=h;exact ⟨b,h1,h2,us,h3,g.restrict hr h4⟩
 |box cs =>
  obtain ⟨_,_,_,_,us0,_,g⟩:=h0;obtain ⟨b,h1,h2,h3,us,h4,h5⟩:=h;exact ⟨b,h1,h2,h3,us,h4,g.restrict hr h5⟩
 |arr s xs foc =>
  refine ⟨h.1,h.2.mono (bX.refl _ _) λi us x S _ _ hR=>?_⟩
  cases foc with
  |none=>exact hR
  |some f =>
   simp only [ElR] at hR ⊢;by_cases hi:f.i=i
   ·rw [if_pos hi] at hR ⊢;have hlt:=h0.1 f rfl;obtain ⟨_,_,_,_,_,g⟩:=h0.2
    cases hb:ℓ0.blk with
    |none =>
     rw [hb] at g;obtain ⟨g,_⟩:=g;rw [g] at hlt;simp at hlt
    |some b =>
     rw [hb] at g;obtain ⟨_,_,N,_,_,g⟩:=g;obtain ⟨us0,_,_,g⟩:=g f.i hlt;simp only [ElR,if_true] at g;exact g.restrict hr hR
   ·rw [if_neg hi] at hR ⊢;exact hR
 |zb n s xs i cs q =>
  obtain ⟨_,_,es0,_,_,_,g3,g4,_,g6⟩:=h0;obtain ⟨h1,b,es,clock,ℓq,h2,h3,h4,h5,h6⟩:=h;refine ⟨h1,b,es,clock,ℓq,h2,h3,by rw [hr q (by rw [g4];simp)];exact h4,h5,h6.mono rfl (λ_ h=>h) λj us x T _ hR=>?_⟩;obtain ⟨_,es1,_,e1,e2,_,_,_,_,M,_,_,e9⟩:=g6;have e3:=(e9 i h1 (by omega)).2;simp only [EnR,ElR,if_true] at e3;simp only [EnR,ElR] at hR ⊢;by_cases hi:i=j
  ·rw [if_pos hi] at hR ⊢;exact e3.restrict hr hR
  ·rw [if_neg hi] at hR ⊢;exact hR
 |itr r n s xs left cur =>
  obtain ⟨itb,b,ℓr,es,clock,seen,foc,S,h1,h2,h3,h4,h5,h6,h7,h9,h11,h12,h13⟩:=h;obtain ⟨_,_,ℓr0,es0,_,_,foc0,_,_,_,_,_,g5,_,_,g9,_,g12,g13⟩:=h0;refine ⟨itb,b,ℓr,es,clock,seen,foc,S,h1,h2,h3,h4,by rw [hr r (by rw [g5];simp)];exact h5,h6,h7,h9,h11,h12.mono rfl (λ_ h=>h) λi us x T _ hR=>?_,h13⟩
  cases cur with
  |none=>subst h13;exact hR
  |some p =>
   obtain ⟨k,N⟩:=p;obtain ⟨j,rfl,hj,hj',_⟩:=h13;obtain ⟨j0,rfl,hk,hk',_⟩:=g13;obtain ⟨_,es1,_,e1,_,_,_,_,_,M,_,_,e9⟩:=g12;rw [g9] at e1;cases e1;have e2:=(e9 j0 hk hk').2;simp only [EnR,ElR,if_true] at e2;simp only [EnR,ElR] at hR ⊢;by_cases hi:j=i
   ·rw [if_pos hi] at hR ⊢;exact e2.restrict hr hR
   ·rw [if_neg hi] at hR ⊢;exact hR
 |sb p xs=>exact h
 |tC n s xs foc =>
  obtain ⟨h1,b,h2,h3⟩:=h;refine ⟨h1,b,h2,h3.mono rfl (λ_ h=>h) λi us x S _ hR=>?_⟩
  cases foc with
  |none=>exact hR
  |some f =>
   simp only [EnR,ElR] at hR ⊢;by_cases hi:f.i=i
   ·rw [if_pos hi] at hR ⊢;have hlt:=h0.1 f rfl;obtain ⟨_,_,_,_,es,clock,_,g2,_,_,_,_,N,_,_,g⟩:=h0;obtain ⟨_,g⟩:=g f.i hlt (by omega);simp only [EnR,ElR,if_true] at g;exact g.restrict hr hR
   ·rw [if_neg hi] at hR ⊢;exact hR
end
section
variable {B:gT}{w:World}{Z:Nat->Prop}{μ μr:bS}
theorem bV.restrict{m m0:Mem}(h:bV B m w Z μ)(hm:∀ r x,m0.roots[r]?=some x->x≠.dead->m.roots[r]?=some x/\μr r=μ r/\∀ ℓ,iN w Z B.Y μ ℓ x->iN w Z B.Y μr ℓ x)
  (hfar:∀ r,m0.roots.length<=r->μr r=none):bV B m0 w Z μr:=by
 have hd:∀ {x:cu},x.jE=true->x≠.dead:=by rintro _ h rfl;simp [cu.jE] at h
 refine ⟨λr x hx hx'=>?_,λr s x y ℓ ℓ' hrs hx hy hox hoy hl hl'=>?_,λr x ℓ b hx ho hl=>?_,h.frz,h.tB,h.size,h.rb,hfar,h.ny,h.io⟩
 ·obtain ⟨h1,h2,h3⟩:=hm r x hx hx';obtain ⟨ℓ,h4,h5⟩:=h.rt r x h1 hx';exact ⟨ℓ,by rw [h2];exact h4,h3 ℓ h5⟩
 ·obtain ⟨h1,h2,_⟩:=hm r x hx (hd hox);obtain ⟨h3,h4,_⟩:=hm s y hy (hd hoy);exact h.dj r s x y ℓ ℓ' hrs h1 h3 hox hoy (h2▸hl) (h4▸hl')
 ·obtain ⟨h1,h2,_⟩:=hm r x hx (hd ho);exact h.own r x ℓ b h1 ho (h2▸hl)
theorem cq.restrict{m m0:Mem}{F:Nat->Prop}(hF:cq B m w Z μ F)(hm:∀ r x,m0.roots[r]?=some x->x≠.dead->m.roots[r]?=some x/\μr r=μ r):cq B m0 w Z μr F:=by
 refine ⟨hF.ok,λb r hb=>?_⟩;rintro ⟨x,ℓ,h1,h2,h3,h4⟩;obtain ⟨g1,g2⟩:=hm r x h1 (by rintro rfl;simp [cu.jE] at h2);exact hF.off b r hb ⟨x,ℓ,g1,h2,g2▸h3,h4⟩
end
theorem pK:∀ (l:List Nat) (xs:List cu),(me xs l).length=xs.length
 |[],_=>rfl
 |r::l,xs=>by rw [me,pK l,List.length_set]
theorem pk:∀ (l:List Nat) (xs:List cu) (k:Nat),(k ∉ l->(me xs l)[k]?=xs[k]?)/\(k∈l->(me xs l)[k]?=(xs[k]?).map λ_=>.dead)
 |[],xs,k=>⟨λ_=>rfl,λh=>by cases h⟩
 |r::l,xs,k=>by
  obtain ⟨h1,h2⟩:=pk l (xs.set r .dead) k;rw [me];refine ⟨λh=>?_,λh=>?_⟩
  ·rw [h1 (λhk=>h (List.mem_cons_of_mem _ hk)),List.getElem?_set_ne (by rintro rfl;exact h List.mem_cons_self)]
  ·by_cases hl:k∈l
   ·rw [h2 hl];by_cases hkr:r=k
    ·subst hkr;rw [List.getElem?_set_self']
     cases xs[r]?<;>rfl
    ·rw [List.getElem?_set_ne hkr]
   ·have hkr:k=r:=by simpa [hl] using h
    subst hkr;rw [h1 hl,List.getElem?_set_self']
    cases xs[k]?<;>rfl
theorem qC:∀ (l:List (Nat×AV)) (ts:List AV),(pU ts l).length=ts.length
 |[],_=>rfl
 |(i,v)::l,ts=>by rw [pU,qC l,List.length_set]
theorem wx:∀ (l:List (Nat×AV)) (ts:List AV) (k:Nat) (x:AV),(pU ts l)[k]?=some x->(k,x)∈l\/(ts[k]?=some x/\∀ v,(k,v) ∉ l)
 |[],ts,k,x,h=>.inr ⟨h,λ_ h=>by cases h⟩
 |(i,v)::l,ts,k,x,h=>by
  rw [pU] at h;rcases wx l _ k x h with h1|⟨h1,h2⟩
  ·exact .inl (List.mem_cons_of_mem _ h1)
  ·by_cases hik:i=k
   ·subst hik;rw [List.getElem?_set_self'] at h1;left
    cases ht:ts[i]? with
    |none=>rw [ht] at h1;cases h1
    |some y=>rw [ht] at h1;simp at h1;subst h1;exact List.mem_cons_self
   ·rw [List.getElem?_set_ne hik] at h1;refine .inr ⟨h1,λv' hm=>?_⟩;rcases List.mem_cons.1 hm with hm|hm
    ·cases hm;exact hik rfl
    ·exact h2 v' hm
end Go.Mach

namespace Go.Mach
section
variable {B:gT}{w:World}{Z:Nat->Prop}
def yx(μ:bS)(r:Nat):Sh->Value->Prop
 |.own s,u=>∃ ℓ,μ r=some ℓ/\ℓ.sz=s.cells/\ℓ.odd=none/\u=.slice (ℓ.addr 0) ℓ.len ℓ.cap
 |.box _,u=>∃ ℓ b,μ r=some ℓ/\ℓ.blk=some b/\u=.pointer (some ⟨b,ℓ.base+0,none⟩)
 |.sb _,u=>∃ ℓ b,μ r=some ℓ/\ℓ.blk=some b/\u=.pointer (some ⟨b,ℓ.base+0,none⟩)
 |_,_=>False
theorem yx.ext{μ μ':bS}(he:dW μ μ'){r:Nat}{s:Sh}{u:Value}(h:yx μ r s u):yx μ' r s u:=by
 cases s with
 |own s =>
  obtain ⟨ℓ,h1,h2,h3,h4⟩:=h;obtain ⟨S',h5⟩:=he r ℓ h1;exact ⟨_,h5,h2,h3,h4⟩
 |box s =>
  obtain ⟨ℓ,b,h1,h2,h3⟩:=h;obtain ⟨S',h5⟩:=he r ℓ h1;exact ⟨_,b,h5,h2,h3⟩
 |sb p =>
  obtain ⟨ℓ,b,h1,h2,h3⟩:=h;obtain ⟨S',h5⟩:=he r ℓ h1;exact ⟨_,b,h5,h2,h3⟩
 |_=>exact h
def qY(B:gT)(w:World)(Z:Nat->Prop)(m:Mem)(μ:bS)(lo hi:Nat)(o:Option Nat)(v:AV):Prop :=
 ∀ r,o=some r->∀ c q,v=.c c->c.oB=some q->lo<=q/\q < hi/\∃ x ℓq ℓp,m.roots[q]?=some x/\x.jE=true/\μ q=some ℓq/\μ r=some ℓp/\iN w Z B.Y μ { ℓp with S:=ℓq.S } x
def oR(B:gT)(w:World)(Z:Nat->Prop)(m:Mem)(μ:bS):Nat->List (Option Nat)->List AV->Prop
 |lo,o::os,v::vs=>∃ hi,lo<=hi/\qY B w Z m μ lo hi o v/\oR B w Z m μ hi os vs
 |_,_,_=>True
def py(μ:bS):List (Option Nat)->List VSh->List Value->Prop
 |o::os,a::l,u::us=>(∀ r,o=some r->a.1=false/\yx μ r a.2 u)/\py μ os l us
 |_,_,_=>True
theorem py.ext{μ μ':bS}(he:dW μ μ'):∀ {os:List (Option Nat)}{l:List VSh}{us:List Value},py μ os l us->py μ' os l us
 |[],_,_,_=>trivial
 |_::_,[],_,_=>trivial
 |_::_,_::_,[],_=>trivial
 |_::_,_::_,_::_,h=>⟨λr hr=>⟨(h.1 r hr).1,(h.1 r hr).2.ext he⟩,h.2.ext he⟩
theorem EH{s:Sh}{u:Value}{x:s.den}{m:Mem}{F S:Nat->Prop}{μ:bS}{o:Option Nat}(hM:bV B m w Z μ)(hF:cq B m w Z μ F)(hf:mg m μ s.news)(hx:SR w Z B.Y s [u] x S)(hS:∀ b,S b->F b)
  (hl:∀ r,o=some r->yx μ r s u) :
  ∃ μ',bV B (s.mk x m).2 w Z μ'/\cq B (s.mk x m).2 w Z μ' (λb=>F b/\¬ S b)/\CRs w Z μ' (s.mk x m).1 [u]/\Grow m (s.mk x m).2 μ μ' s.news/\qY B w Z (s.mk x m).2 μ' m.cur (m.cur+s.news) o (pW false (s.mk x m).1):=by
 obtain ⟨⟨μ1,e1,e2,e3,e4⟩,_⟩:=lu s hM hF hf hx hS;refine ⟨μ1,e1,e2,e3,e4,?_⟩;intro r ho c q hv hq;have hld:=(hl r ho).ext e4.ext
 cases s with
 |own s =>
  simp only [Sh.mk,pW] at hv e1 e2 e3 e4 ⊢;cases hv;simp only [C.oB,Option.some.injEq] at hq;subst hq
  have hcc:CR w Z μ1 (.ref m.cur .full) u:=by
   obtain ⟨v',hv',g⟩:=e3.one;cases hv';exact g
  obtain ⟨ℓq,μq,sq⟩:=hcc;have hcq:m.cur < m.roots.length:=(List.getElem?_eq_some_iff.1 (hf 0 (by simp [Sh.news])).2).1
  have hroot:(m.push (.arr s x none)).roots[m.cur]?=some (.arr s x none):=by simp [Mem.push,hcq]
  obtain ⟨ℓ',k1,k2,k3⟩:=e1.rt _ _ hroot (by simp);rw [μq] at k1;cases k1;obtain ⟨ℓp,p1,p2,p3,p4⟩:=hld
  have he:Value.slice (ℓq.addr 0) ℓq.len ℓq.cap=.slice (ℓp.addr 0) ℓp.len ℓp.cap:=by
   rw [<- (show u=_ from sq),<- p4]
  refine ⟨Nat.le_refl _,by simp [Sh.news],_,ℓq,ℓp,hroot,rfl,μq,p1,⟨(λf hf=>by cases hf),(k3.place p2 p3 he).mono (bX.refl _ _) λi us x S _ _ hR=>hR⟩⟩
 |box s =>
  simp only [Sh.mk,pW] at hv e1 e2 e3 e4 ⊢;cases hv;simp only [C.oB,Option.some.injEq] at hq;subst hq
  have hcc:CR w Z μ1 (.ptr (s.mk x m).2.cur 0) u:=by
   obtain ⟨v',hv',g⟩:=e3.one;cases hv';exact g
  obtain ⟨ℓq,bq,μq,hbq,huq⟩:=hcc;have h2:=e4.cur;simp only [Mem.push,Sh.news] at h2
  have hcq:(s.mk x m).2.cur < (s.mk x m).2.roots.length:=by
   have h1:=e4.len;simp only [Mem.push,List.length_set,Sh.news] at h1;have h3:=(hf s.news (by simp [Sh.news])).2;have h4:=(List.getElem?_eq_some_iff.1 h3).1;omega
  have hroot:((s.mk x m).2.push (.box (s.mk x m).1)).roots[(s.mk x m).2.cur]?=some (.box (s.mk x m).1):=by simp [Mem.push,hcq]
  obtain ⟨ℓ',k1,b',k2,k3,k4,us,k5,k6⟩:=e1.rt _ _ hroot (by simp);rw [μq] at k1;cases k1;rw [hbq] at k2;cases k2;obtain ⟨ℓp,bp,p1,p2,p3⟩:=hld;rw [huq] at p3;simp only [Value.pointer.injEq,Option.some.injEq,Addr.mk.injEq,Nat.add_zero,and_true] at p3;obtain ⟨rfl,hbase⟩:=p3;exact ⟨by omega,by simp only [Sh.news];omega,_,ℓq,ℓp,hroot,rfl,μq,p1,⟨bq,p2,k3,by rw [<- hbase];exact k4,us,by rw [<- hbase];exact k5,k6⟩⟩
 |sb p =>
  simp only [Sh.mk,pW] at hv e1 e2 e3 e4 ⊢;cases hv;simp only [C.oB,Option.some.injEq] at hq;subst hq
  have hcc:CR w Z μ1 (.ptr m.cur 0) u:=by
   obtain ⟨v',hv',g⟩:=e3.one;cases hv';exact g
  obtain ⟨ℓq,bq,μq,hbq,huq⟩:=hcc;have hcq:m.cur < m.roots.length:=(List.getElem?_eq_some_iff.1 (hf 0 (by simp [Sh.news])).2).1
  have hroot:(m.push (.sb p x)).roots[m.cur]?=some (.sb p x):=by simp [Mem.push,hcq]
  obtain ⟨ℓ',k1,b',k2,k3,k4⟩:=e1.rt _ _ hroot (by simp);rw [μq] at k1;cases k1;rw [hbq] at k2;cases k2;obtain ⟨ℓp,bp,p1,p2,p3⟩:=hld;rw [huq] at p3;simp only [Value.pointer.injEq,Option.some.injEq,Addr.mk.injEq,Nat.add_zero,and_true] at p3;obtain ⟨rfl,hbase⟩:=p3;exact ⟨Nat.le_refl _,by simp [Sh.news],_,ℓq,ℓp,hroot,rfl,μq,p1,⟨bq,p2,by rw [<- hbase];exact k3,k4⟩⟩
 |_=>exact hld.elim
theorem qY.grow{m m':Mem}{μ μ':bS}{n lo hi:Nat}{o:Option Nat}{v:AV}(h:qY B w Z m μ lo hi o v)(hg:Grow m m' μ μ' n)(hhi:hi<=m.cur):qY B w Z m' μ' lo hi o v:=by
 intro r ho c q hv hq;obtain ⟨h1,h2,x,ℓq,ℓp,h3,h4,h5,h6,h7⟩:=h r ho c q hv hq;obtain ⟨S',h8⟩:=hg.ext r ℓp h6;obtain ⟨g1,g2⟩:=hg.old q (.inl (by omega));exact ⟨h1,h2,x,ℓq,_,by rw [g2];exact h3,h4,by rw [g1];exact h5,h8,h7.mono (bX.refl _ _) (λ_ h=>h) (λ_ h=>h) hg.ext⟩
theorem Ay:∀ {l:List VSh}{os:List (Option Nat)}{vs:List Value}{x:kO l}{m:Mem}{F S:Nat->Prop}{μ:bS},bV B m w Z μ->cq B m w Z μ F->mg m μ (nG l)->lY w Z B.Y l vs x S->(∀ b,S b->F b)->py μ os l vs ->
  ∃ μ',bV B (mks l x m).2 w Z μ'/\cq B (mks l x m).2 w Z μ' (λb=>F b/\¬ S b)/\ARs w Z μ' (mks l x m).1 vs/\Grow m (mks l x m).2 μ μ' (nG l)/\oR B w Z (mks l x m).2 μ' m.cur os (mks l x m).1
 |[],os,vs,x,m,F,S,μ,hM,hF,hf,h,hS,_=>⟨μ,hM,hF.grow λb hb=>hb.1,h,Grow.refl m μ,by cases os<;>trivial⟩
 |[a],os,vs,x,m,F,S,μ,hM,hF,hf,h,hS,hl=>by
  obtain ⟨v,rfl,us,h1,h2,h3⟩:=h
  match os,hl with
  |[],_ =>
   obtain ⟨⟨μ',e1,e2,e3,e4⟩,_⟩:=lu a.2 hM hF hf h3 hS;exact ⟨μ',e1,e2,⟨v,[],rfl,h1.ar e3,rfl⟩,e4,trivial⟩
  |none::os,_ =>
   obtain ⟨⟨μ',e1,e2,e3,e4⟩,_⟩:=lu a.2 hM hF hf h3 hS
   exact ⟨μ',e1,e2,⟨v,[],rfl,h1.ar e3,rfl⟩,e4,m.cur,Nat.le_refl _,(λr hr=>by cases hr),by cases os<;>trivial⟩
  |some r::os,hl =>
   obtain ⟨g,s⟩:=a;obtain ⟨hg,hlr⟩:=hl.1 r rfl;simp only at hg;subst hg;have h1':us=[v]:=h1;subst h1';obtain ⟨μ',e1,e2,e3,e4,e5⟩:=EH (o:=some r) hM hF hf h3 hS (λr' hr=>by cases hr;exact hlr)
   exact ⟨μ',e1,e2,⟨v,[],rfl,h1.ar e3,rfl⟩,e4,_,Nat.le_add_right _ _,e5,by cases os<;>trivial⟩
 |a::b::l,os,vs,x,m,F,S,μ,hM,hF,hf,h,hS,hl=>by
  obtain ⟨v,vs',S1,S2,rfl,h2,h3,h4,⟨us,h5,h6,h7⟩,h8⟩:=h
  have key:∃ μ1,bV B (a.2.mk x.1 m).2 w Z μ1/\cq B (a.2.mk x.1 m).2 w Z μ1 (λb=>F b/\¬ S1 b)/\CRs w Z μ1 (a.2.mk x.1 m).1 us/\Grow m (a.2.mk x.1 m).2 μ μ1 a.2.news /\
    ∀ o os',os=o::os'->qY B w Z (a.2.mk x.1 m).2 μ1 m.cur (m.cur+a.2.news) o (pW a.1 (a.2.mk x.1 m).1):=by
   match os,hl with
   |some r::os,hl =>
    obtain ⟨g,s⟩:=a;obtain ⟨hg,hlr⟩:=hl.1 r rfl;simp only at hg;subst hg;have h5':us=[v]:=h5;subst h5';obtain ⟨μ',e1,e2,e3,e4,e5⟩:=EH (o:=some r) hM hF hf.left h7 (λd hd=>hS d (h2 d hd)) (λr' hr=>by cases hr;exact hlr);exact ⟨μ',e1,e2,e3,e4,λo os' he=>by cases he;exact e5⟩
   |none::os,_ =>
    obtain ⟨⟨μ1,e1,e2,e3,e4⟩,_⟩:=lu a.2 hM hF hf.left h7 (λd hd=>hS d (h2 d hd));exact ⟨μ1,e1,e2,e3,e4,λo os' he=>by cases he;intro r hr;cases hr⟩
   |[],_ =>
    obtain ⟨⟨μ1,e1,e2,e3,e4⟩,_⟩:=lu a.2 hM hF hf.left h7 (λd hd=>hS d (h2 d hd));exact ⟨μ1,e1,e2,e3,e4,λo os' he=>by cases he⟩
  obtain ⟨μ1,e1,e2,e3,e4,e5⟩:=key
  have hl':py μ1 os.tail (b::l) vs':=by
   match os,hl with
   |[],_=>trivial
   |_::os,hl=>exact hl.2.ext e4.ext
  obtain ⟨μ2,g1,g2,g3,g4,g5⟩:=Ay (l:=b::l) (os:=os.tail) e1 e2 (hf.right e4) h8 (λd hd=>⟨hS d (h3 d hd),λh=>h4 d h hd⟩) hl';refine ⟨μ2,g1,g2.grow λd hd=>⟨⟨hd.1,λh=>hd.2 (h2 d h)⟩,λh=>hd.2 (h3 d h)⟩,⟨v,vs',rfl,(h5.ar e3).mono (bX.refl _ _) (λ_ h=>h) g4.ext,g3⟩,e4.trans g4,?_⟩
  match os with
  |[]=>trivial
  |o::os =>
   refine ⟨m.cur+a.2.news,Nat.le_add_right _ _,(e5 o os rfl).grow g4 (by rw [e4.cur];exact Nat.le_refl _),?_⟩;rw [e4.cur] at g5;exact g5
theorem qY.move{m:Mem}{μ:bS}{lo hi q0 r0:Nat}{ℓ:Loc}{o:Option Nat}{v:AV}(h:qY B w Z m μ lo hi o v)(hq:q0 < lo)(hr:r0 < lo)(hne:o≠some r0)(he:dW μ (μ.set r0 ℓ)):qY B w Z (m.move q0 r0) (μ.set r0 ℓ) lo hi o v:=by
 intro r ho c q hv hq';obtain ⟨h1,h2,x,ℓq,ℓp,h3,h4,h5,h6,h7⟩:=h r ho c q hv hq'
 have hrr:r≠r0:=by rintro rfl;exact hne ho
 refine ⟨h1,h2,x,ℓq,ℓp,?_,h4,by rw [bS.lh _ _ (by omega)];exact h5,by rw [bS.lh _ _ hrr];exact h6,h7.mono (bX.refl _ _) (λ_ h=>h) (λ_ h=>h) he⟩;simp only [Mem.move];rw [List.getElem?_set_ne (by omega),List.getElem?_set_ne (by omega)];exact h3
theorem oR.move{m:Mem}{μ:bS}{q0 r0:Nat}{ℓ:Loc}(he:dW μ (μ.set r0 ℓ)):∀ {os:List (Option Nat)}{vs:List AV}{lo:Nat},oR B w Z m μ lo os vs->q0 < lo->r0 < lo->(∀ o∈os,o≠some r0)->oR B w Z (m.move q0 r0) (μ.set r0 ℓ) lo os vs
 |[],_,_,_,_,_,_=>trivial
 |_::_,[],_,_,_,_,_=>trivial
 |o::os,v::vs,lo,h,hq,hr,hne=>by
  obtain ⟨hi,h1,h2,h3⟩:=h;exact ⟨hi,h1,h2.move hq hr (hne o List.mem_cons_self) he,h3.move he (by omega) (by omega) λo ho=>hne o (List.mem_cons_of_mem _ ho)⟩
theorem oR.up{m:Mem}{μ:bS}:∀ {os:List (Option Nat)}{vs:List AV}{lo k:Nat},oR B w Z m μ lo os vs->k<=os.length->k<=vs.length->∃ lo',lo<=lo'/\oR B w Z m μ lo' (os.drop k) (vs.drop k)
 |os,vs,lo,0,h,_,_=>⟨lo,Nat.le_refl _,h⟩
 |[],_,_,_+1,_,h,_=>by simp at h
 |_::_,[],_,_+1,_,_,h=>by simp at h
 |o::os,v::vs,lo,k+1,h,hk,hk'=>by
  obtain ⟨hi,h1,_,h3⟩:=h;obtain ⟨lo',h4,h5⟩:=h3.up (k:=k) (by simpa using hk) (by simpa using hk');exact ⟨lo',by omega,h5⟩
theorem ou:∀ {rs:List Nat}{vs:List AV}{m:Mem}{F:Nat->Prop}{μ:bS}{lo:Nat},bV B m w Z μ->cq B m w Z μ F->sG rs=true->(∀ r∈rs,r < lo/\m.roots[r]?=some .dead)->oR B w Z m μ lo (rs.map some) vs ->
  ∃ μ',bV B (ej m rs vs) w Z μ'/\dW μ μ'/\(∀ r,μ r=none->μ' r=none)/\(ej m rs vs).roots.length=m.roots.length/\cq B (ej m rs vs) w Z μ' F
 |[],vs,m,F,μ,lo,hM,hF,_,_,_=>by
  simp only [ej];exact ⟨μ,hM,dW.refl μ,λ_ h=>h,trivial,hF⟩
 |r::rs,[],m,F,μ,lo,hM,hF,_,_,_=>by
  simp only [ej];exact ⟨μ,hM,dW.refl μ,λ_ h=>h,trivial,hF⟩
 |r::rs,v::vs,m,F,μ,lo,hM,hF,hn,hd,hb=>by
  obtain ⟨hi,h1,h2,h3⟩:=hb;simp only [sG,Bool.and_eq_true,Bool.not_eq_true',List.contains_eq_mem,decide_eq_false_iff_not] at hn
  have hd':∀ r'∈rs,r' < hi/\m.roots[r']?=some .dead:=λr' hr'=>by
   obtain ⟨a,b⟩:=hd r' (List.mem_cons_of_mem _ hr');exact ⟨by omega,b⟩
  have skip:∃ μ',bV B (ej m rs vs) w Z μ'/\dW μ μ'/\(∀ r,μ r=none->μ' r=none)/\(ej m rs vs).roots.length=m.roots.length/\cq B (ej m rs vs) w Z μ' F:=ou hM hF hn.2 hd' h3
  cases v with
  |c x =>
   simp only [ej]
   cases hx:x.oB with
   |none=>exact skip
   |some q =>
    simp only;obtain ⟨a1,a2,y,ℓq,ℓp,a3,a4,a5,a6,a7⟩:=h2 r rfl x q rfl hx;obtain ⟨b1,b2⟩:=hd r List.mem_cons_self;have he:dW μ (μ.set r { ℓp with S:=ℓq.S }):=dW.CC a6;obtain ⟨k1,k2⟩:=wF hM hF a3 a4 a5 b2 a6 (a7.mono (bX.refl _ _) (λ_ h=>h) (λ_ h=>h) he)
    obtain ⟨μ',g1,g2,g3,g4,g5⟩:=ou (rs:=rs) (vs:=vs) (lo:=hi) k1 k2 hn.2 (λr' hr'=>by
      obtain ⟨c1,c2⟩:=hd r' (List.mem_cons_of_mem _ hr');refine ⟨by omega,?_⟩
      have hne:r≠r':=by rintro rfl;exact hn.1 hr'
      simp only [Mem.move]
      rw [List.getElem?_set_ne hne,List.getElem?_set_ne (by omega)];exact c2) (h3.move he (by omega) (by omega) (λo ho=>by
      obtain ⟨r',hr',rfl⟩:=List.mem_map.1 ho
      rintro he;cases he;exact hn.1 hr'))
    refine ⟨μ',g1,he.trans g2,λs hs=>g3 s ?_,by rw [g4];simp [Mem.move],g5⟩
    have hne:s≠r:=by rintro rfl;rw [hs] at a6;cases a6
    rw [bS.lh _ _ hne];exact hs
  |agg cs=>simp only [ej];exact skip
  |tup l=>simp only [ej];exact skip
end
end Go.Mach

namespace Go.Mach
structure Ev (b s:St):Prop where
 tl:s.tmps.length=b.tmps.length
 rl:b.mem.roots.length<=s.mem.roots.length
 tm:∀ i,i ∉ s.dT->s.tmps[i]?=b.tmps[i]?
 rt:∀ r,r < b.mem.roots.length->s.mem.dR.testBit r=false->s.mem.roots[r]?=b.mem.roots[r]?
theorem Ev.congr{b b' s:St}(h:Ev b s)(hb:Alike b b'):Ev b' s:=⟨by rw [<- hb.1];exact h.tl,by rw [<- hb.2];exact h.rl,λi hi=>by rw [<- hb.1];exact h.tm i hi,λr hr hd=>by rw [<- hb.2] at hr ⊢;exact h.rt r hr hd⟩
theorem Ev.refl(b:St):Ev b b:=⟨rfl,Nat.le_refl _,λ_ _=>rfl,λ_ _ _=>rfl⟩
def qe(m:Mem)(μ:bS)(r:Nat):Value :=
 match m.roots[r]?,μ r with
 |some (.arr _ _ _),some ℓ=>.slice (ℓ.addr 0) ℓ.len ℓ.cap
 |some (.box _),some ℓ=>.pointer (ℓ.blk.map λb=>⟨b,ℓ.base+0,none⟩)
 |some (.sb _ _),some ℓ=>.pointer (ℓ.blk.map λb=>⟨b,ℓ.base+0,none⟩)
 |_,_=>undef
section
variable {B:gT}{w:World}{Z:Nat->Prop}{μ:bS}
theorem CF{m:Mem}(hM:bV B m w Z μ)(r:Nat):AR w Z μ (.c (oY m r)) (qe m μ r):=by
 unfold oY qe
 cases hx:m.roots[r]? with
 |none=>trivial
 |some x =>
  cases x with
  |box cs =>
   obtain ⟨ℓ,h1,b,h2,_⟩:=hM.rt r _ hx (by simp);rw [h1];exact ⟨ℓ,b,h1,h2,by simp [h2]⟩
  |sb p xs =>
   obtain ⟨ℓ,h1,b,h2,_⟩:=hM.rt r _ hx (by simp);rw [h1];exact ⟨ℓ,b,h1,h2,by simp [h2]⟩
  |arr s xs foc =>
   obtain ⟨ℓ,h1,_⟩:=hM.rt r _ hx (by simp);rw [h1];exact ⟨ℓ,h1,rfl⟩
  |_=>trivial
theorem yp{s:Sh}{m0 m m':Mem}{r:Nat}{y:s.den}(hM:bV B m w Z μ)(hs:s.nF=true)(h:xw (false,s) (.c (oY m0 r)) m=some (y,m')):yx μ r s (qe m0 μ r):=by
 unfold xw at h;split at h
 case h_2=>cases h
 rename_i x' m1' _ hg;simp only [AV.cells] at hg;unfold oY at hg;unfold qe
 cases hx:m0.roots[r]? with
 |none=>rw [hx] at hg;cases s<;>simp [Sh.nF] at hs<;>simp [Sh.get] at hg
 |some x =>
  rw [hx] at hg
  cases x with
  |box cs =>
   cases s with
   |own s=>simp [Sh.get] at hg
   |sb p =>
    simp only [Sh.get] at hg;split at hg
    case h_2=>cases hg
    rename_i q xs2 hb;obtain ⟨ℓ,h1,b,h2,_⟩:=hM.rt r _ hb (by simp);rw [h1];exact ⟨ℓ,b,h1,h2,by simp [h2]⟩
   |box s =>
    simp only [Sh.get] at hg;split at hg
    case h_2=>cases hg
    rename_i bs hb;obtain ⟨ℓ,h1,b,h2,_⟩:=hM.rt r _ hb (by simp);rw [h1];exact ⟨ℓ,b,h1,h2,by simp [h2]⟩
   |_=>simp [Sh.nF] at hs
  |arr s' xs foc =>
   cases s with
   |own s =>
    simp only [Sh.get] at hg;split at hg
    case h_2=>cases hg
    rename_i s2 xs2 foc2 hb;split at hg
    case h_2=>cases hg
    rename_i _ he _ _;subst he;obtain ⟨ℓ,h1,h2,h3⟩:=hM.rt r _ hb (by simp);rw [h1];exact ⟨ℓ,h1,h3.1,h3.2.2.2.2.1,rfl⟩
   |box s=>simp [Sh.get] at hg
   |sb p=>simp [Sh.get] at hg
   |_=>simp [Sh.nF] at hs
  |sb pq xs =>
   cases s with
   |own s=>simp [Sh.get] at hg
   |box s =>
    simp only [Sh.get] at hg;split at hg
    case h_2=>cases hg
    rename_i bs hb;obtain ⟨ℓ,h1,b,h2,_⟩:=hM.rt r _ hb (by simp);rw [h1];exact ⟨ℓ,b,h1,h2,by simp [h2]⟩
   |sb p =>
    simp only [Sh.get] at hg;split at hg
    case h_2=>cases hg
    rename_i q xs2 hb;obtain ⟨ℓ,h1,b,h2,_⟩:=hM.rt r _ hb (by simp);rw [h1];exact ⟨ℓ,b,h1,h2,by simp [h2]⟩
   |_=>simp [Sh.nF] at hs
  |dead=>cases s<;>simp [Sh.nF] at hs<;>simp [Sh.get] at hg
  |frz e xs=>cases s<;>simp [Sh.nF] at hs<;>simp [Sh.get] at hg
  |ql cs=>cases s<;>simp [Sh.nF] at hs<;>simp [Sh.get] at hg
  |bor s' xs=>cases s<;>simp [Sh.nF] at hs<;>simp [Sh.get] at hg
  |tC n s' xs foc=>cases s<;>simp [Sh.nF] at hs<;>simp [Sh.get] at hg
  |zb n s' xs i cs q=>cases s<;>simp [Sh.nF] at hs<;>simp [Sh.get] at hg
  |itr r' n s' xs left cur=>cases s<;>simp [Sh.nF] at hs<;>simp [Sh.get] at hg
def qt(m0:Mem)(μ:bS):List (Option Nat)->List VSh->List AV->List Value->Prop
 |o::os,a::l,x::xs,u::us=>(∀ r,o=some r->a.1=false/\a.2.nF=true/\x=.c (oY m0 r)/\u=qe m0 μ r)/\qt m0 μ os l xs us
 |_,_,_,_=>True
theorem yV{m0:Mem}:∀ {l:List VSh}{os:List (Option Nat)}{xs:List AV}{vs:List Value}{m m':Mem}{Z F:Nat->Prop}{y:kO l},bV B m w Z μ->cq B m w Z μ F->ARs w Z μ xs vs->wX l xs m=some (y,m')->qt m0 μ os l xs vs->py μ os l vs
 |[],os,xs,vs,m,m',Z,F,y,hM,hF,hx,h,hr=>by cases os<;>trivial
 |[a],os,xs,vs,m,m',Z,F,y,hM,hF,hx,h,hr=>by
  match xs,h with
  |[x],h =>
   obtain ⟨v,vs',rfl,h1,h2⟩:=hx;have h2:vs'=[]:=h2;subst h2
   match os,hr with
   |[],_=>trivial
   |o::os,hr =>
    refine ⟨λr ho=>?_,by cases os<;>trivial⟩
    obtain ⟨k1,k2,k3,k4⟩:=hr.1 r ho;obtain ⟨g,s⟩:=a;simp only at k1 k2;subst k1;subst k3;subst k4;exact ⟨rfl,yp hM k2 h⟩
 |a::b::l,os,xs,vs,m,m',Z,F,y,hM,hF,hx,h,hr=>by
  match xs,h with
  |x::xs,h =>
   obtain ⟨v,vs',rfl,h1,h2⟩:=hx;simp only [wX] at h;split at h
   case h_2=>cases h
   rename_i y1 m1 hg;split at h
   case h_2=>cases h
   rename_i y2 m2 hgs;obtain ⟨Z1,F1,S1,e1,e2,e3,_⟩:=qm hM hF h1 hg
   match os,hr with
   |[],_=>trivial
   |o::os,hr =>
    refine ⟨λr ho=>?_,yV (l:=b::l) e1 e2 (h2.mono (bX.refl _ _) e3 (dW.refl μ)) hgs hr.2⟩;obtain ⟨k1,k2,k3,k4⟩:=hr.1 r ho;obtain ⟨g,s⟩:=a;simp only at k1 k2;subst k1;subst k3;subst k4;exact ⟨rfl,yp hM k2 hg⟩
theorem py.restrict{μr:bS}:∀ {os:List (Option Nat)}{l:List VSh}{us:List Value},(∀ r,some r∈os->μr r=μ r)->py μ os l us->py μr os l us
 |[],_,_,_,_=>trivial
 |_::_,[],_,_,_=>trivial
 |_::_,_::_,[],_,_=>trivial
 |o::os,a::l,u::us,h,hl=>by
  refine ⟨λr ho=>?_,hl.2.restrict λr hr=>h r (List.mem_cons_of_mem _ hr)⟩;obtain ⟨h1,h2⟩:=hl.1 r ho;refine ⟨h1,?_⟩;have he:=h r (by rw [ho];exact List.mem_cons_self)
  cases hs:a.2 with
  |own s=>rw [hs] at h2;obtain ⟨ℓ,k1,k2⟩:=h2;exact ⟨ℓ,by rw [he];exact k1,k2⟩
  |box s=>rw [hs] at h2;obtain ⟨ℓ,b,k1,k2⟩:=h2;exact ⟨ℓ,b,by rw [he];exact k1,k2⟩
  |sb p=>rw [hs] at h2;obtain ⟨ℓ,b,k1,k2⟩:=h2;exact ⟨ℓ,b,by rw [he];exact k1,k2⟩
  |_=>rw [hs] at h2;exact h2.elim
theorem qt.cut{m0:Mem}:∀ {sl:List (Nat×VSh)}{rt:List (Nat×Sh)}{s:St}{a:Act},(∀ p∈rt,p.2.nF=true) ->
  qt m0 μ (sl.map (λ_=>none)++rt.map λp=>some p.1) (sl.map (·.2)++rt.map λp=>(false,p.2)) (sl.map (λp=>s.get p.1)++rt.map λp=>.c (oY m0 p.1)) (sl.map (λp=>a.tmps.getD p.1 undef)++rt.map λp=>qe m0 μ p.1)
 |_::sl,rt,s,a,h=>⟨(λr hr=>by cases hr),qt.cut (sl:=sl) h⟩
 |[],p::rt,s,a,h=>⟨(λr hr=>by cases hr;exact ⟨rfl,h p List.mem_cons_self,rfl,rfl⟩),qt.cut (sl:=[]) (a:=a) (s:=s) λq hq=>h q (List.mem_cons_of_mem _ hq)⟩
 |[],[],_,_,_=>trivial
theorem ARs.cutL{s:St}{a:Act}(hR:Rel B s a w Z μ):∀ (sl:List (Nat×VSh)),ARs w Z μ (sl.map λp=>s.get p.1) (sl.map λp=>a.tmps.getD p.1 undef)
 |[]=>rfl
 |p::sl=>⟨_,_,rfl,hR.get p.1,ARs.cutL hR sl⟩
theorem ARs.cutR{m:Mem}(hM:bV B m w Z μ):∀ (rt:List (Nat×Sh)),ARs w Z μ (rt.map λp=>.c (oY m p.1)) (rt.map λp=>qe m μ p.1)
 |[]=>rfl
 |p::rt=>⟨_,_,rfl,CF hM p.1,ARs.cutR hM rt⟩
theorem ARs.at_:∀ {xs:List AV}{vs:List Value},ARs w Z μ xs vs->∀ (k:Nat) (x:AV),xs[k]?=some x->∃ v,vs[k]?=some v/\AR w Z μ x v
 |[],_,_,k,x,h=>by simp at h
 |y::xs,vs,hx,0,x,h=>by
  obtain ⟨v,vs',rfl,h1,_⟩:=hx;simp at h;subst h;exact ⟨v,rfl,h1⟩
 |y::xs,vs,hx,k+1,x,h=>by
  obtain ⟨v,vs',rfl,_,h2⟩:=hx;simpa using ARs.at_ h2 k x (by simpa using h)
end
theorem vW{a b:List Nat}(h:subset a b=true){x:Nat}(hx:x∈a):x∈b:=by
 have:=List.all_eq_true.1 h x hx;simpa using this
section
variable {B:gT}{w0 w:World}{Z0 Z:Nat->Prop}{μ0 μ:bS}
theorem DO{c:Cut}{b s:St}{y:c.den}{a0 a:Act}{F:Nat->Prop}(hb:Rel B b a0 w0 Z0 μ0)(hs:Rel B s a w Z μ)(hL0:cq B s.mem w Z μ F)(hev:Ev b s)(hext:dW μ0 μ)(h:c.get b.mem.roots.length s=some y) :
  ∃ Z' μ',Rel B (c.put b y) a w Z' μ'/\(∀ d,Z d->Z' d)/\dW μ0 μ'/\cq B (c.put b y).mem w Z' μ' F:=by
 unfold Cut.get at h;split at h
 case h_2=>cases h
 rename_i x m hg;split at h
 case h_2=>cases h
 rename_i hsub1 hsub2;cases h;simp only [Bool.and_eq_true,List.all_eq_true,decide_eq_true_eq] at hsub1;obtain ⟨hdT,hnr,hns,hobj⟩:=hsub1;have hxs:=(ARs.cutL hs c.sl).append (ARs.cutR hs.mem c.rt);have hlead:=yV hs.mem hL0 hxs hg (qt.cut (m0:=s.mem) (s:=s) (a:=a) λp hp=>(hobj p hp).1);obtain ⟨Z',F',S,hM,hF,hZ,hFF,hS,_,hV⟩:=rM hs.mem hL0 hxs hg;have hgt:=wT hg
 let n0:=b.mem.roots.length
 let μr:bS:=λr=>if r < n0 then μ r else none
 have hμr:∀ r,r < n0->μr r=μ r:=λr hr=>if_pos hr;have hμr':∀ r,n0<=r->μr r=none:=λr hr=>if_neg (by omega)
 have hμ0:∀ r,μ0 r≠none->r < n0:=λr hr=>by
  rcases Nat.lt_or_ge r n0 with h1|h1
  ·exact h1
  ·exact absurd (hb.mem.far r h1) hr
 have hrr:∀ r,μ0 r≠none->μr r=μ r:=λr hr=>hμr r (hμ0 r hr)
 have hx0:dW μ0 μr:=λr ℓ hr=>by rw [hrr r (by rw [hr];simp)];exact hext r ℓ hr
 let m0:Mem:=⟨me b.mem.roots (c.kr++c.rt.map (·.1))++List.replicate (nG c.shs) .dead,(c.kr++c.rt.map (·.1)).foldl (λd r=>d ||| 2^r) b.mem.dR,b.mem.roots.length⟩
 have hkl:(me b.mem.roots (c.kr++c.rt.map (·.1))).length=n0:=pK _ _
 have hm0:∀ r x,m0.roots[r]?=some x->x≠.dead->r < n0/\b.mem.roots[r]?=some x/\m.roots[r]?=some x:=by
  intro r x hx hd;rcases Nat.lt_or_ge r n0 with h1|h1
  ·have h2:(me b.mem.roots (c.kr++c.rt.map (·.1)))[r]?=some x:=by
    have:m0.roots[r]?=_:=List.getElem?_append_left (by rw [hkl];exact h1);rw [this] at hx;exact hx
   obtain ⟨k1,k2⟩:=pk (c.kr++c.rt.map (·.1)) b.mem.roots r;by_cases hmem:r∈c.kr++c.rt.map (·.1)
   ·rw [k2 hmem] at h2
    cases hbr:b.mem.roots[r]? with
    |none=>rw [hbr] at h2;cases h2
    |some z=>rw [hbr] at h2;cases h2;exact absurd rfl hd
   ·rw [k1 hmem] at h2;refine ⟨h1,h2,?_⟩
    have hbit:m.dR.testBit r=false:=by
     cases hbb:m.dR.testBit r with
     |false=>rfl
     |true =>
      have:=vW hsub2 (x:=r) (by simp only [List.mem_filter,List.mem_range];exact ⟨h1,hbb⟩);simp only [List.mem_append] at this hmem;exact absurd this.symm hmem
    have hbit':s.mem.dR.testBit r=false:=by
     cases hbb:s.mem.dR.testBit r with
     |false=>rfl
     |true=>rw [hgt.dR r hbb] at hbit;cases hbit
    rw [hgt.same r (by omega) hbit,hev.rt r h1 hbit'];exact h2
  ·have:m0.roots[r]?=_:=List.getElem?_append_right (by rw [hkl];exact h1);rw [this,List.getElem?_replicate] at hx;split at hx
   ·cases hx;exact absurd rfl hd
   ·cases hx
 have hml:m0.roots.length=n0+nG c.shs:=by
  have hroots:m0.roots=me b.mem.roots (c.kr++c.rt.map (·.1))++List.replicate (nG c.shs) cu.dead:=rfl;rw [hroots,List.length_append,hkl,List.length_replicate]
 have hM0:bV B m0 w Z' μr:=hM.restrict (λr x hx hd=>by
   obtain ⟨k1,k2,k3⟩:=hm0 r x hx hd;refine ⟨k3,hμr r k1,λℓ hℓ=>?_⟩;obtain ⟨ℓ0,_,g⟩:=hb.mem.rt r x k2 hd
   exact iN.restrict hrr g hℓ) (λr hr=>hμr' r (by omega))
 have hF0:cq B m0 w Z' μr F':=hF.restrict λr x hx hd=>by
  obtain ⟨k1,k2,k3⟩:=hm0 r x hx hd;exact ⟨k3,hμr r k1⟩
 have hfree:mg m0 μr (nG c.shs):=λk hk=>by
  refine ⟨hμr' _ (by show n0<=n0+k;omega),?_⟩;have:m0.roots[m0.cur+k]?=_:=List.getElem?_append_right (by rw [hkl];show n0<=n0+k;omega);rw [this,List.getElem?_replicate,if_pos (by rw [hkl];show n0+k-n0 < _;omega)]
 obtain ⟨μ2,e1,e2,e3,e4,e5⟩:=Ay hM0 hF0 hfree hV (λd hd=>(hS d hd).1) (hlead.restrict (μr:=μr) λr hr=>by
  simp only [List.mem_append,List.mem_map,reduceCtorEq,and_false,exists_false,Option.some.injEq,false_or] at hr;obtain ⟨p,hp,rfl⟩:=hr
  exact hμr _ (hobj p hp).2)
 have oq:c.put b y=⟨pU b.tmps ((c.sl.map (·.1)).zip (mks c.shs y m0).1++c.kill.map λk=>(k,.c .undef)),ej (mks c.shs y m0).2 (c.rt.map (·.1)) ((mks c.shs y m0).1.drop c.sl.length),c.sl.map (·.1)++(c.kill++b.dT)⟩:=rfl;rw [oq];obtain ⟨hfl,_⟩:=xQ (l:=c.shs) (x:=y) (m:=m0);generalize hmk:mks c.shs y m0=k at e1 e2 e3 e4 e5 hfl;obtain ⟨vs',m2⟩:=k;simp only at e1 e2 e3 e4 e5 hfl ⊢
 have hfl':vs'.length=c.sl.length+c.rt.length:=by rw [hfl];simp [Cut.shs]
 obtain ⟨lo',hlo,hbk⟩:=e5.up (k:=c.sl.length) (by simp) (by omega)
 have hbk':oR B w Z' m2 μ2 lo' ((c.rt.map (·.1)).map some) (vs'.drop c.sl.length):=by
  have:(c.sl.map (λ_=>(none:Option Nat))++c.rt.map λp=>some p.1).drop c.sl.length=(c.rt.map (·.1)).map some:=by
   rw [List.drop_append_of_le_length (by simp),List.drop_of_length_le (by simp)];simp
  rw [<- this];exact hbk
 obtain ⟨μ3,g1,g2,_,_,g5⟩:=ou e1 e2 hnr (λr hr=>by
  obtain ⟨p,hp,rfl⟩:=List.mem_map.1 hr;have hlt:p.1 < n0:=(hobj p hp).2;have hcur:m0.cur=n0:=rfl;refine ⟨by omega,?_⟩;rw [(e4.old p.1 (.inl hlt)).2];have h1:m0.roots[p.1]?=_:=List.getElem?_append_left (by rw [hkl];exact hlt);rw [h1,(pk _ _ _).2 (List.mem_append_right _ hr),List.getElem?_eq_getElem hlt]
  rfl) hbk'
 refine ⟨Z',μ3,⟨g1,λi z hz=>?_,?_,hs.df⟩,hZ,hx0.trans (e4.ext.trans g2),g5.grow λd hd=>⟨hFF d hd,λh=>(hS d h).2 hd⟩⟩
 ·rcases wx _ _ i z hz with h1|⟨h1,h2⟩
  ·rcases List.mem_append.1 h1 with h1|h1
   ·obtain ⟨k,hk⟩:=List.getElem?_of_mem h1;rw [List.getElem?_zip_eq_some] at hk;obtain ⟨hk1,hk2⟩:=hk;obtain ⟨v,hv,har⟩:=ARs.at_ e3 k z hk2
    have hkl2:k < c.sl.length:=by
     have:=(List.getElem?_eq_some_iff.1 hk1).1;simpa using this
    rw [List.getElem?_append_left (by simpa using hkl2),List.getElem?_map] at hv;rw [List.getElem?_map] at hk1;rw [List.getElem?_eq_getElem hkl2] at hv hk1;simp only [Option.map_some,Option.some.injEq] at hv hk1;rw [<- hk1,hv];exact har.mono (bX.refl _ _) (λ_ h=>h) g2
   ·obtain ⟨k,_,hk⟩:=List.mem_map.1 h1;cases hk;exact AR.undef _
  ·have hnot:i ∉ s.dT:=λhi=>by
    have:=vW hdT hi;rcases List.mem_append.1 this with h3|h3
    ·obtain ⟨k,hk⟩:=List.getElem?_of_mem h3
     have hkl2:k < c.sl.length:=by
      have:=(List.getElem?_eq_some_iff.1 hk).1;simpa using this
     refine h2 vs'[k] (List.mem_append_left _ (List.mem_of_getElem? (i:=k) ?_));rw [List.getElem?_zip_eq_some];exact ⟨hk,List.getElem?_eq_getElem (by omega)⟩
    ·exact h2 (.c .undef) (List.mem_append_right _ (List.mem_map.2 ⟨i,h3,rfl⟩))
   have h4:=hs.tm i z ((hev.tm i hnot).trans h1);have h5:=hb.tm i z h1;exact (AR.restrict hrr h5 h4).mono (bX.refl _ _) hZ (e4.ext.trans g2)
 ·show (pU b.tmps _).length=_;rw [qC,<- hev.tl];exact hs.len
theorem s8{c:Cut}{b s:St}{y:c.den}{a0 a:Act}(hb:Rel B b a0 w0 Z0 μ0)(hs:Rel B s a w Z μ)(hev:Ev b s)(hext:dW μ0 μ)(h:c.get b.mem.roots.length s=some y) :
  ∃ Z' μ',Rel B (c.put b y) a w Z' μ'/\(∀ d,Z d->Z' d)/\dW μ0 μ':=by
 obtain ⟨Z',μ',h1,h2,h3,_⟩:=DO hb hs (cq.none B s.mem w Z μ) hev hext h;exact ⟨Z',μ',h1,h2,h3⟩
end
end Go.Mach

namespace Go.Mach
theorem vK:∀ (l:List Nat) (d r:Nat),(l.foldl (λd r=>d ||| 2^r) d).testBit r=(d.testBit r || l.contains r)
 |[],d,r=>by simp
 |x::l,d,r=>by
  rw [List.foldl_cons,vK l,Nat.testBit_or,Nat.testBit_two_pow,List.contains_cons]
  have hx:decide (x=r)=(r == x):=by
   rw [Bool.eq_iff_iff];simp only [decide_eq_true_eq,beq_iff_eq];exact eq_comm
  rw [hx,Bool.or_assoc]
theorem mQ:∀ (rs:List Nat) (vs:List AV) (m:Mem),Touch m (ej m rs vs) 0
 |[],_,m=>by simp only [ej];exact Touch.refl m
 |_::_,[],m=>by simp only [ej];exact Touch.refl m
 |r::rs,v::vs,m=>by
  cases v with
  |c x =>
   simp only [ej]
   cases x.oB with
   |none=>exact mQ rs vs m
   |some q=>exact (Touch.move m q r).lK (mQ rs vs _)
  |agg cs=>simp only [ej];exact mQ rs vs m
  |tup l=>simp only [ej];exact mQ rs vs m
theorem ym:∀ (l:List (Nat×AV)) (ts:List AV) (k:Nat),(∀ v,(k,v) ∉ l)->(pU ts l)[k]?=ts[k]?
 |[],_,_,_=>rfl
 |(i,v)::l,ts,k,h=>by
  rw [pU,ym l _ k λv' hm=>h v' (List.mem_cons_of_mem _ hm)];rw [List.getElem?_set_ne (by rintro rfl;exact h v List.mem_cons_self)]
theorem wm{b0 b:St}{c:Cut}{y:c.den}(h:Ev b0 b):Ev b0 (c.put b y):=by
 let m0:Mem:=⟨me b.mem.roots (c.kr++c.rt.map (·.1))++List.replicate (nG c.shs) .dead,(c.kr++c.rt.map (·.1)).foldl (λd r=>d ||| 2^r) b.mem.dR,b.mem.roots.length⟩
 have oq:c.put b y=⟨pU b.tmps ((c.sl.map (·.1)).zip (mks c.shs y m0).1++c.kill.map λk=>(k,.c .undef)),ej (mks c.shs y m0).2 (c.rt.map (·.1)) ((mks c.shs y m0).1.drop c.sl.length),c.sl.map (·.1)++(c.kill++b.dT)⟩:=rfl;rw [oq];have ht:Touch m0 (ej (mks c.shs y m0).2 (c.rt.map (·.1)) ((mks c.shs y m0).1.drop c.sl.length)) (nG c.shs):=(vJ c.shs y m0).DN (mQ _ _ _);have hkl:(me b.mem.roots (c.kr++c.rt.map (·.1))).length=b.mem.roots.length:=pK _ _;refine ⟨(qC _ _).trans h.tl,?_,λi hi=>?_,λr hr hd=>?_⟩
 ·show b0.mem.roots.length<=(ej _ _ _).roots.length;rw [ht.len];have hroots:m0.roots=me b.mem.roots (c.kr++c.rt.map (·.1))++List.replicate (nG c.shs) cu.dead:=rfl;rw [hroots,List.length_append,hkl];have:=h.rl;omega
 ·simp only [List.mem_append,not_or] at hi;obtain ⟨h1,h2,h3⟩:=hi;refine (ym _ _ i λv hm=>?_).trans (h.tm i h3);rcases List.mem_append.1 hm with hm|hm
  ·exact h1 (List.of_mem_zip hm).1
  ·obtain ⟨k,hk,he⟩:=List.mem_map.1 hm;cases he;exact h2 hk
 ·have hrl:=h.rl
  have hd0:m0.dR.testBit r=false:=by
   cases hb:m0.dR.testBit r with
   |false=>rfl
   |true =>
    have:=ht.dR r hb;have hd:(ej (mks c.shs y m0).2 (c.rt.map (·.1)) ((mks c.shs y m0).1.drop c.sl.length)).dR.testBit r=false:=hd;rw [this] at hd;cases hd
  have hd1:((c.kr++c.rt.map (·.1)).foldl (λd r=>d ||| 2^r) b.mem.dR).testBit r=false:=hd0;rw [vK] at hd1;simp only [Bool.or_eq_false_iff,List.contains_eq_mem,decide_eq_false_iff_not] at hd1;have h1:=ht.same r (.inl (show r < b.mem.roots.length by omega)) hd;refine h1.trans (.trans ?_ (h.rt r hr hd1.1));have h2:m0.roots[r]?=_:=List.getElem?_append_left (by rw [hkl];omega);rw [h2];exact (pk _ _ r).1 hd1.2
theorem qT.D2{a b:qT}(h:a.same b=true):a=b:=by
 cases a<;>cases b<;>simp [qT.same] at h<;>first|rfl|(subst h;rfl)
theorem xF{n0:Nat}{k:qT}{s:St}:∀ (ex:lj){Φ:ex.den->Prop},(ex.inj n0 k s).sat Φ->∃ z,Φ z/\∃ (c:Cut) (y:c.den),c.get n0 s=some y/\∀ {β:Type}(K:lS β) (st:St),ex.go st K z=K.at k (c.put st y)
 |[],Φ,h=>h.elim
 |[a],Φ,h=>by
  simp only [lj.inj] at h;split at h
  case h_2=>exact h.elim
  rename_i hk;split at h
  case h_2=>exact h.elim
  rename_i x hx;refine ⟨x,h,a.2,x,hx,λK st=>?_⟩;simp only [lj.go];rw [qT.D2 hk]
 |a::b::r,Φ,h=>by
  simp only [lj.inj] at h;split at h
  ·rename_i hk;split at h
   case h_2=>exact h.elim
   rename_i x hx;refine ⟨.inl x,h,a.2,x,hx,λK st=>?_⟩;simp only [lj.go,Res.sum];rw [qT.D2 hk]
  ·have h':(lj.inj n0 k s (b::r)).sat λy=>Φ (.inr y):=by
    exact Res.yj h
   obtain ⟨z,h1,c,y,h2,h3⟩:=xF (b::r) h';exact ⟨.inr z,h1,c,y,h2,λK st=>by simp only [lj.go,Res.sum];exact h3 K st⟩
theorem Ent.wm{b s:St}{e:Ent}{o:Oper}(hd:∀ d,o.dst=some d->d∈s.dT)(hf:e.fits s.mem.roots.length)(h:Ev b s):Ev b (e.put o s):=by
 have hl:=(Ent.my hf o rfl).1;refine ⟨?_,by rw [hl];exact h.rl,λi hi=>?_,λr hr hb=>?_⟩
 ·rw [Ent.nv,<- h.tl];cases o.dst<;>simp
 ·rw [Ent.DL] at hi;rw [Ent.nv,<- h.tm i hi]
  cases hdst:o.dst with
  |none=>rfl
  |some d =>
   simp only;rw [List.getElem?_set_ne (by rintro rfl;exact hi (hd d hdst))]
 ·have hlt:r < s.mem.roots.length:=Nat.lt_of_lt_of_le hr h.rl
  cases e with
  |none =>
   have hm:(Ent.put none o s).mem=s.mem:=by cases h:o.dst<;>simp [Ent.put,St.put,h]
   rw [hm] at hb ⊢;exact h.rt r hr hb
  |some e =>
   obtain ⟨v,R,W,m1⟩:=e
   have hm:(Ent.put (some (v,R,W,m1)) o s).mem=s.mem.over m1 W:=by cases h:o.dst<;>simp [Ent.put,St.with,St.put,h]
   rw [hm] at hb ⊢
   have hW:¬ W.has r/\s.mem.dR.testBit r=false:=by
    cases W with
    |none =>
     simp only [Mem.over,Nat.testBit_or,Nat.testBit_two_pow_sub_one,Bool.or_eq_false_iff,decide_eq_false_iff_not] at hb;exact absurd hlt hb.2
    |some l =>
     cases l with
     |nil=>exact ⟨by simp [i7.has],hb⟩
     |cons x l =>
      have hb':((x::l).foldl (λd r=>d ||| 2^r) s.mem.dR).testBit r=false:=hb;rw [vK] at hb';simp only [Bool.or_eq_false_iff] at hb'
      exact ⟨(λhh=>by rw [show (x::l).contains r=true from hh] at hb';cases hb'.2),hb'.1⟩
   rw [(sO (by rw [hf v R W m1 rfl]) W r).2 hW.1];exact h.rt r hr hW.2
theorem Cn{b:St}{N:Nat}:∀ (L:List (Oper×Ent)) (S:Nat->Bool) (i:Nat) (s:St),(∀ p∈L,∀ d,p.1.dst=some d->d∈s.dT)->(∀ p∈L,p.2.fits N)->s.mem.roots.length=N->Ev b s->Ev b (stS L S i s)/\(stS L S i s).dT=s.dT
 |[],_,_,_,_,_,_,h=>⟨h,rfl⟩
 |(o,e)::L,S,i,s,hd,hf,hN,h=>by
  simp only [stS];have hfe:=hf (o,e) List.mem_cons_self
  cases S i with
  |false=>exact Cn L S (i+1) s (λp hp=>hd p (List.mem_cons_of_mem _ hp)) (λp hp=>hf p (List.mem_cons_of_mem _ hp)) hN h
  |true =>
   have h1:=Cn (b:=b) L S (i+1) (e.put o s) (λp hp d hdd=>by rw [Ent.DL];exact hd p (List.mem_cons_of_mem _ hp) d hdd) (λp hp=>hf p (List.mem_cons_of_mem _ hp)) (Ent.my hfe o hN).1 (Ent.wm (λd hdd=>hd (o,e) List.mem_cons_self d hdd) (by rw [hN];exact hfe) h);exact ⟨h1.1,h1.2.trans (Ent.DL e o s)⟩
end Go.Mach

namespace Go.Mach
theorem zh(E:Env)(o:Oper)(l:List Oper):eF E (o::l)=du E o+eF E l:=by
 have:∀ (l:List Oper) (n:Nat),l.foldl (λn o=>n+du E o) n=n+l.foldl (λn o=>n+du E o) 0:=by
  intro l
  induction l with
  |nil=>intro n;rfl
  |cons x l ih=>intro n;rw [List.foldl_cons,List.foldl_cons,ih,ih (0+du E x)];omega
 unfold eF;rw [List.foldl_cons,this];omega
theorem bV.room{B:gT}{m:Mem}{w:World}{Z:Nat->Prop}{μ:bS}(h:bV B m w Z μ)(n:Nat):bV B (m.room n) w Z μ:=by
 refine h.restrict (λr x hx hd=>?_) (λr hr=>h.far r ?_)
 ·have hx:(m.roots++List.replicate n .dead)[r]?=some x:=hx;rcases Nat.lt_or_ge r m.roots.length with h1|h1
  ·rw [List.getElem?_append_left h1] at hx;exact ⟨hx,rfl,λ_ h=>h⟩
  ·rw [List.getElem?_append_right h1,List.getElem?_replicate] at hx;split at hx
   ·cases hx;exact absurd rfl hd
   ·cases hx
 ·have hr:(m.roots++List.replicate n cu.dead).length<=r:=hr;rw [List.length_append] at hr;omega
end Go.Mach

namespace Go.Mach
section
variable {B:gT}{E:Env}{ops:Array Oper}{A:List Nat}{β:Type}{Ψ:β->Prop}{K:St->Res β}
theorem pt{Q:Exit->Act->World->Prop}{b:St}{μ0:bS}(hdr:E.dr=false)(hE:px E B.g)
  (hQ:∀ s a w Z μ,(K s).sat Ψ->Rel B s a w Z μ->Ev b s->dW μ0 μ->Q .normal a w):∀ (rest:List Oper) (i c N:Nat) (l:Log) (st:St){a:Act}{w:World}{Z:Nat->Prop}{μ:bS},
  rest=ops.toList.drop i->c+eF E rest<=N->N<=st.mem.roots.length->b.mem.roots.length<=c->(∀ o∈ops.toList,∀ d,o.dst=some d->d∈st.dT)->Rel B st a w Z μ->Ev b st->dW μ0 μ ->
  (∀ r,c<=r->r < N->μ r=none)->(mM E ops A rest i c l st K).sat Ψ->wpOps E.P ops Q (List.range' i rest.length) a w
 |[],i,c,N,l,st,a,w,Z,μ,hrest,hc,hN,hbl,hd,hR,hev,hext,hfree,h=>by
  simp only [List.length_nil,List.range'_zero,wpOps];refine hQ _ a w Z μ h ⟨hR.mem.congr rfl,hR.tm,hR.len,hR.df⟩ ⟨hev.tl,hev.rl,hev.tm,hev.rt⟩ hext
 |o::rest,i,c,N,l,st,a,w,Z,μ,hrest,hc,hN,hbl,hd,hR,hev,hext,hfree,h=>by
  rw [zh] at hc
  have ho:ops.toList[i]?=some o:=by
   have h1:=congrArg (λl:List Oper=>l[0]?) hrest;simpa using h1.symm
  have ho':ops[i]?=some o:=by simpa using ho
  have hmem:o∈ops.toList:=List.mem_of_getElem? ho
  have hrest':rest=ops.toList.drop (i+1):=by
   have h1:=congrArg List.tail hrest;simpa using h1
  simp only [List.length_cons,List.range'_succ,wpOps,ho'];simp only [mM] at h;split at h
  ·rename_i hw;rw [hdr] at h;simp only at h;rw [qx hR hw];simp only [if_true];left
   let st':St:=⟨st.tmps,st.mem.at c,st.dT⟩
   have hR':Rel B st' a w Z μ:=⟨hR.mem.congr rfl,hR.tm,hR.len,hR.df⟩;split at h
   ·
    rename_i j xs hj;obtain ⟨cl,hop,hcal,rfl,hjm,_⟩:=qi hj;have hok:=hE.inls j hjm;obtain ⟨fn,hfn,hbody,hname⟩:=hok.fn
    have hexec:(execOp a.eval o).run E.P w=.ok (.enter j.f (cl.args.toList.map a.eval).toArray) w:=by
     have hfv:a.eval (.func j.f)=.func (.func j.f) #[] #[]:=rfl;simp only [execOp,hop,resolve,hcal,hfv,Deferred.ofValue,Sem.run_bind,Sem.run_pure,Result.andThen_ok,invoke]
     have hb:fn.body.isNone=false:=by cases hfb:fn.body with
      |none=>rw [hfb] at hbody;cases hbody
      |some _=>rfl
     simp only [callFunc];have hprog:(program:Sem Program).run E.P w=.ok E.P w:=rfl;simp only [Sem.run_bind,hprog,Result.andThen_ok,hfn,hname,hb,Bool.false_eq_true,if_false,Sem.run_pure]
     have:(cl.args.toList.map a.eval).toArray=cl.args.map a.eval:=by
      apply Array.ext';simp
     rw [this];simp
    refine Oper.CY (sN hexec (Calls.mono (hok.run B β Ψ _ _ _ w Z μ _ rfl hR'.mem (ARs.jX hR _) h) ?_));rintro e w' ⟨vr,v,m',Z',μ',rfl,hk,hM,hv,hsame,hzz,hext',hlen,hkeep,hbits⟩;refine ⟨vr,rfl,?_⟩;have hg:=(vH hk).1
    have hmem':(st.with o.dst v (m'.room (eF E rest))).mem=m'.room (eF E rest):=by cases hx:o.dst<;>simp [St.with,St.put,hx]
    have hdT':(st.with o.dst v (m'.room (eF E rest))).dT=st.dT:=by cases hx:o.dst<;>simp [St.with,St.put,hx]
    have htm:(st.with o.dst v (m'.room (eF E rest))).tmps=(match o.dst with|some d=>st.tmps.set d v|none=>st.tmps):=by cases hx:o.dst<;>simp [St.with,St.put,hx]
    have hlen:st.mem.roots.length<=m'.roots.length:=hlen;have hkeep:∀ r,r < st.mem.roots.length->m'.dR.testBit r=false->m'.roots[r]?=st.mem.roots[r]?:=hkeep;have hbits:∀ r,st.mem.dR.testBit r=true->m'.dR.testBit r=true:=hbits
    have hrl:(m'.room (eF E rest)).roots.length=m'.roots.length+eF E rest:=by simp [Mem.room]
    refine pt hdr hE hQ rest (i+1) m'.roots.length (m'.roots.length+eF E rest) l _ hrest' (Nat.le_refl _) (by rw [hmem',hrl];exact Nat.le_refl _) (Nat.le_trans hev.rl hlen) (by rw [hdT'];exact hd)
     (hR.put (hM.room _) hsame hzz hext' o.dst hv) ⟨?_,by rw [hmem',hrl];exact Nat.le_trans hev.rl (Nat.le_trans hlen (Nat.le_add_right _ _)),λk hk=>?_,λr hr hb=>?_⟩ (hext.trans hext') (λr h1 _=>hM.far r h1) hg
    ·rw [htm,<- hev.tl];cases o.dst<;>simp
    ·rw [hdT'] at hk;rw [htm,<- hev.tm k hk]
     cases hdst:o.dst with
     |none=>rfl
     |some d =>
      simp only;rw [List.getElem?_set_ne (by rintro rfl;exact hk (hd o hmem d hdst))]
    ·rw [hmem'] at hb ⊢;have hb:m'.dR.testBit r=false:=hb
     have hb0:st.mem.dR.testBit r=false:=by
      cases hbb:st.mem.dR.testBit r with
      |false=>rfl
      |true=>rw [hbits r hbb] at hb;cases hb
     have hrs:r < st.mem.roots.length:=Nat.lt_of_lt_of_le hr hev.rl;show (m'.roots++List.replicate (eF E rest) cu.dead)[r]?=_;rw [List.getElem?_append_left (Nat.lt_of_lt_of_le hrs hlen),hkeep r hrs hb];exact hev.rt r hr hb0
   have hF:oA st' (du E o) μ:=λk hk=>by
    have h1:μ (c+k)=none:=hfree _ (by omega) (by omega);refine ⟨h1,?_⟩;show st.mem.roots[c+k]?=_
    cases hx:st.mem.roots[c+k]? with
    |none=>rw [List.getElem?_eq_none_iff] at hx;omega
    |some x =>
     by_cases hdd:x=.dead
     ·rw [hdd]
     ·obtain ⟨ℓ,h2,_⟩:=hR.mem.rt _ x hx hdd;rw [h1] at h2;cases h2
   rw [pI] at h
   have h1:(step E st' o Res.ok).sat λs'=>∃ v m,s'=st.with o.dst v m/\uA (st.mem.at c) m (du E o)/\(qz ops o.dst (st.with o.dst v m) λst'=>mM E ops A rest (i+1) (c+du E o) l st' K).sat Ψ:=by
    have h2:=pN h;have hends:=xb E (val st) (λg=>rfl) (st.mem.at c) o;unfold step
    rw [show val st'=val st from Gg st _ _,pI E (val st) st'.mem o]
    show ((fa E (val st) (st.mem.at c) o nP).bind _).sat _;exact Res.ud (Res.Di (λp hp=>⟨p.1,p.2,rfl,hp.2,hp.1⟩) (Res.yl h2 λp hp=>hends p.1 p.2 hp))
   refine Oper.CY (Oper.wp_mono ?_ (tT hR' hE (Nat.le_refl _) hF h1));rintro a' w' ⟨s',Z',μ',hR2,⟨v,m,rfl,⟨k,hk,ht⟩,hg⟩,hlen,hdT,hout,hzz,hext'⟩;have hg:=(vH hg).1
   have hmem':(st.with o.dst v m).mem=m:=by cases hx:o.dst<;>simp [St.with,St.put,hx]
   have hdT':(st.with o.dst v m).dT=st.dT:=by cases hx:o.dst<;>simp [St.with,St.put,hx]
   have htm:(st.with o.dst v m).tmps=(match o.dst with|some d=>st.tmps.set d v|none=>st.tmps):=by cases hx:o.dst<;>simp [St.with,St.put,hx]
   have hml:m.roots.length=st.mem.roots.length:=ht.len;rw [hmem'] at hlen
   refine pt hdr hE hQ rest (i+1) (c+du E o) N l _ hrest' (by omega) (by rw [hmem',hml];exact hN) (by omega) (by rw [hdT'];exact hd) hR2 ⟨?_,by rw [hmem',hml];exact hev.rl,λj hj=>?_,λr hr hb=>?_⟩ (hext.trans hext') (λr h1 h2=>hout r (.inr (show c+du E o<=r from h1)) (hfree r (by omega) h2)) hg
   ·rw [htm,<- hev.tl];cases o.dst<;>simp
   ·rw [hdT'] at hj;rw [htm,<- hev.tm j hj]
    cases hdst:o.dst with
    |none=>rfl
    |some d =>
     simp only;rw [List.getElem?_set_ne (by rintro rfl;exact hj (hd o hmem d hdst))]
   ·rw [hmem'] at hb ⊢
    have hb0:st.mem.dR.testBit r=false:=by
     cases hbb:st.mem.dR.testBit r with
     |false=>rfl
     |true=>rw [ht.dR r hbb] at hb;cases hb
    rw [ht.same r (.inl (show r < c by omega)) hb];exact hev.rt r hr hb0
  ·rename_i hw;rw [qx hR hw];simp only [Bool.false_eq_true,if_false];have hR':Rel B (st.put o.dst (.tup [])) (a.put o.dst Go.undef) w Z μ:=hR.xE o.dst ⟨[],rfl,rfl,λk h=>by simp at h⟩
   have hmem':(st.put o.dst (.tup [])).mem=st.mem:=by cases hx:o.dst<;>simp [St.put,hx]
   have hdT':(st.put o.dst (.tup [])).dT=st.dT:=by cases hx:o.dst<;>simp [St.put,hx]
   have htm:(st.put o.dst (.tup [])).tmps=(match o.dst with|some d=>st.tmps.set d (.tup [])|none=>st.tmps):=by cases hx:o.dst<;>simp [St.put,hx]
   refine pt hdr hE hQ rest (i+1) (c+du E o) N l _ hrest' (by omega) (by rw [hmem'];exact hN) (by omega) (by rw [hdT'];exact hd) hR' ⟨?_,by rw [hmem'];exact hev.rl,λj hj=>?_,λr hr hb=>?_⟩ hext (λr h1 h2=>hfree r (by omega) h2) h
   ·rw [htm,<- hev.tl];cases o.dst<;>simp
   ·rw [hdT'] at hj;rw [htm,<- hev.tm j hj]
    cases hdst:o.dst with
    |none=>rfl
    |some d =>
     simp only;rw [List.getElem?_set_ne (by rintro rfl;exact hj (hd o hmem d hdst))]
   ·rw [hmem'] at hb ⊢;exact hev.rt r hr hb
  ·exact h.elim
end
end Go.Mach

namespace Go.Mach
def qT.exit:qT->Exit
 |.nrm=>.normal
 |.ret=>.ret
 |.ext n=>.exit n
section
variable {B:gT}
theorem Rel.more{st:St}{a:Act}{w:World}{Z:Nat->Prop}{μ:bS}(h:Rel B st a w Z μ)(n c:Nat)(l:List Nat):Rel B ⟨st.tmps,⟨st.mem.roots++List.replicate n .dead,st.mem.dR,c⟩,l⟩ a w Z μ:=by
 refine ⟨h.mem.restrict (λr x hx hd=>?_) (λr hr=>h.mem.far r ?_),h.tm,h.len,h.df⟩
 ·have hx:(st.mem.roots++List.replicate n .dead)[r]?=some x:=hx;rcases Nat.lt_or_ge r st.mem.roots.length with h1|h1
  ·rw [List.getElem?_append_left h1] at hx;exact ⟨hx,rfl,λ_ h=>h⟩
  ·rw [List.getElem?_append_right h1,List.getElem?_replicate] at hx;split at hx
   ·cases hx;exact absurd rfl hd
   ·cases hx
 ·have hr:(st.mem.roots++List.replicate n cu.dead).length<=r:=hr;rw [List.length_append] at hr;omega
theorem Ev.more{b st:St}(h:Ev b st)(n c:Nat)(l:List Nat):Ev b ⟨st.tmps,⟨st.mem.roots++List.replicate n .dead,st.mem.dR,c⟩,l++st.dT⟩:=by
 refine ⟨h.tl,?_,λi hi=>h.tm i λhm=>hi (List.mem_append_right _ hm),λr hr hb=>?_⟩
 ·show b.mem.roots.length<=(st.mem.roots++List.replicate n cu.dead).length;rw [List.length_append];have:=h.rl;omega
 ·show (st.mem.roots++List.replicate n cu.dead)[r]?=_;rw [List.getElem?_append_left (Nat.lt_of_lt_of_le hr h.rl)];exact h.rt r hr hb
variable {E:Env}
def Sound(B:gT)(E:Env)(c:Code){β:Type}(r:Res β)(st:St)(K:lS β):Prop :=
 ∀ (Ψ:β->Prop) (Q:Exit->Act->World->Prop) (b:St) (a0 a:Act) (w0 w:World) (Z0 Z:Nat->Prop) (μ0 μ:bS),r.sat Ψ->Rel B b a0 w0 Z0 μ0->Rel B st a w Z μ->Ev b st->dW μ0 μ ->
  (∀ (e:qT) (s:St) (a':Act) (w':World) (Z':Nat->Prop) (μ':bS),(K.at e s).sat Ψ->Rel B s a' w' Z' μ'->Ev b s->dW μ0 μ'->Q e.exit a' w')->c.wp E.P Q a w
theorem oc{c:Code}{β:Type}{ann:Ann}{st:St}{K:lS β}{run:(γ:Type)->Ann->St->lS γ->Res γ}(hrun:∀ (γ:Type) (ann:Ann) (st:St) (K:lS γ),Sound B E c (run γ ann st K) st K) :
  Sound B E c (cutAt ann st K run) st K:=by
 intro Ψ Q b a0 a w0 w Z0 Z μ0 μ h hb hR hev hext hK;unfold cutAt at h;split at h
 ·rename_i ex hex;have hal:Alike st (fresh st):=⟨rfl,rfl⟩;refine hrun ex.den ann.inner (fresh st) (kex st.mem.roots.length ex) _ Q (fresh st) a a w w Z Z μ μ (pN h) (hR.alike hal) (hR.alike hal) (Ev.refl _) (dW.refl μ) ?_;intro e s a' w' Z' μ' hs hR' hev' hext'
  have hs':(ex.inj st.mem.roots.length e s).sat λx=>(ex.go st K x).sat Ψ:=by
   cases e<;>exact hs
  obtain ⟨z,hz,c',y,hget,hgo⟩:=xF ex hs';rw [hgo K st] at hz;obtain ⟨Z2,μ2,g1,g2,g3⟩:=s8 (b:=st) hR hR' (hev'.congr ⟨rfl,rfl⟩) hext' hget;exact hK e _ a' w' Z2 μ2 hz g1 (wm hev) (hext.trans g3)
 ·exact hrun β ann st K Ψ Q b a0 a w0 w Z0 Z μ0 μ h hb hR hev hext hK
theorem zn(hm:E.P.follows .mixedOrders=true)(hE:px E B.g){id:Nat}{ops:Array Oper}{draw:Bool}{β:Type}(st:St)(K:lS β) :
  Sound B E (.region id ops draw) (match (match draw with|true=>ancs ops.toList []|false=>[]) with
  |A=>match !draw || (pA ops && (tu ops A && (pQ ops A && Region.noSelect ops))) with
   |true=>mM { E with dr:=draw } ops A ops.toList 0 st.mem.roots.length []
     ⟨st.tmps,⟨st.mem.roots++List.replicate (eF E ops.toList) .dead,st.mem.dR,st.mem.roots.length⟩,FA ops++st.dT⟩ K.nrm
   |false=>.stuck) st K:=by
 intro Ψ Q b a0 a w0 w Z0 Z μ0 μ h hb hR hev hext hK
 generalize (match draw with|true=>ancs ops.toList []|false=>[])=A at h
 simp only at h;split at h
 case h_2=>exact h.elim
 rename_i hg;have hR1:=hR.more (eF E ops.toList) st.mem.roots.length (FA ops++st.dT);have hev1:=hev.more (eF E ops.toList) st.mem.roots.length (FA ops);have hnews:eF { E with dr:=draw } ops.toList=eF E ops.toList:=rfl;have hdst:∀ o∈ops.toList,∀ d,o.dst=some d->d∈FA ops++st.dT:=λo ho d hd=>List.mem_append_left _ (List.mem_filterMap.2 ⟨o,ho,hd⟩)
 have hN:st.mem.roots.length+eF { E with dr:=draw } ops.toList<=(st.mem.roots++List.replicate (eF E ops.toList) cu.dead).length:=by
  rw [List.length_append,List.length_replicate,hnews];exact Nat.le_refl _
 cases draw with
 |false =>
  have h1:=pt (B:=B) (E:={ E with dr:=false }) (ops:=ops) (A:=A) (Ψ:=Ψ) (K:=K.nrm) (Q:=Q) (b:=b) (μ0:=μ0) rfl ⟨hE.specs,hE.inls⟩
   (λs a' w' Z' μ' hs hR' hev' hext'=>hK .nrm s a' w' Z' μ' hs hR' hev' hext') ops.toList 0 st.mem.roots.length _ [] _ (by simp) hN (Nat.le_refl _) hev.rl hdst hR1 hev1 hext (λr h1 _=>hR.mem.far r h1) h
  refine wp_region ?_
  have:List.range ops.size=List.range' 0 ops.toList.length:=by rw [List.range_eq_range'];simp
  rw [this];exact h1
 |true =>
  simp only [Bool.not_true,Bool.false_or,Bool.and_eq_true] at hg;obtain ⟨he,hA,hs,_⟩:=hg;refine DK (E:={ E with dr:=true }) (B:=B) hm rfl ⟨hE.specs,hE.inls⟩ he hA hs hN hR1 (λr h1 _=>hR.mem.far r h1) h ?_;intro es hT hes hKs a' w' Z' μ' hR' _ hext' _
  have hst:=Cn (b:=b) (ops.toList.zip es) (λj=>decide (j < es.length)) 0 ⟨st.tmps,⟨st.mem.roots++List.replicate (eF E ops.toList) .dead,st.mem.dR,st.mem.roots.length⟩,FA ops++st.dT⟩
   (λp hp d hd=>hdst p.1 (List.of_mem_zip hp).1 d hd) (hT.fits rfl) rfl hev1
  exact hK .nrm _ a' w' Z' μ' hKs ⟨hR'.mem.congr rfl,hR'.tm,hR'.len,hR'.df⟩ ⟨hst.1.tl,hst.1.rl,hst.1.tm,hst.1.rt⟩ (hext.trans hext')
def Ann.depth:Ann->Nat
 |.unr _ r=>r.depth+1
 |_=>0
theorem zB{c:Code}{β:Type}{run:Ann->St->lS β->Res β}(hc:∀ (ann:Ann) (st:St) (K:lS β),Sound B E c (run ann st K) st K){K:lS β}
  {Ψ:β->Prop}{Q:Exit->Act->World->Prop}{b:St}{a0:Act}{w0:World}{Z0:Nat->Prop}{μ0:bS}(hb:Rel B b a0 w0 Z0 μ0)
  (hK:∀ (e:qT) (s:St) (a':Act) (w':World) (Z':Nat->Prop) (μ':bS),(K.at e s).sat Ψ->Rel B s a' w' Z' μ'->Ev b s->dW μ0 μ'->Q e.exit a' w') :
  ∀ (ann:Ann) (st:St) (a:Act) (w:World) (Z:Nat->Prop) (μ:bS),(sZ run ann st K).sat Ψ->Rel B st a w Z μ->Ev b st->dW μ0 μ->Code.rounds E.P c Q ann.depth a w:=by
 intro ann
 induction ann with
 |unr a1 r _ ih =>
  intro st a w Z μ h hR hev hext;simp only [Ann.depth];rw [rounds_succ];refine hc a1 st _ Ψ (Exit.then (Code.rounds E.P c Q r.depth) Q) b a0 a w0 w Z0 Z μ0 μ h hb hR hev hext ?_;intro e s a' w' Z' μ' hs hR' hev' hext'
  cases e with
  |nrm=>exact ih s a' w' Z' μ' hs hR' hev' hext'
  |ret=>exact hK .ret s a' w' Z' μ' hs hR' hev' hext'
  |ext n=>exact hK (.ext n) s a' w' Z' μ' hs hR' hev' hext'
 |_=>intro st a w Z μ h;exact h.elim
theorem wU{c:Code}{β:Type}{head:Cut}{ex:lj}{a':Ann}{st:St}{K:lS β}(hc:∀ (γ:Type) (ann:Ann) (st:St) (K:lS γ),Sound B E c (exec E c γ ann st K) st K)
  {Ψ:β->Prop}{Q:Exit->Act->World->Prop}{b:St}{a1:Act}{w1:World}{Z1:Nat->Prop}{μ0 μ:bS}(hR:Rel B st a1 w1 Z1 μ) (hev:Ev b st) (hext:dW μ0 μ)
  (hK:∀ (e:qT) (s:St) (a':Act) (w':World) (Z':Nat->Prop) (μ':bS),(K.at e s).sat Ψ->Rel B s a' w' Z' μ'->Ev b s->dW μ0 μ'->Q e.exit a' w') :
  ∀ (n:Nat) (x:head.den) (a:Act) (w:World) (Z:Nat->Prop) (μ':bS),(Res.loop (λx=>exec E c (Res.Step head.den ex.den) a' (head.put (fresh st) x) (Dw st.mem.roots.length head ex)) n x).sat (λy=>(ex.go st K y).sat Ψ) ->
   Rel B (head.put (fresh st) x) a w Z μ'->dW μ μ'->Code.rounds E.P c Q n a w
 |0,x,a,w,Z,μ',h,_,_=>h.elim
 |n+1,x,a,w,Z,μ',h,hRx,hxx=>by
  have hal:Alike st (fresh st):=⟨rfl,rfl⟩;rw [rounds_succ];refine hc _ a' (head.put (fresh st) x) (Dw st.mem.roots.length head ex) _ (Exit.then (Code.rounds E.P c Q n) Q) (fresh st) a1 a w1 w Z1 Z μ μ' (pN h) (hR.alike hal) hRx (wm (Ev.refl _)) hxx ?_;intro e s a2 w2 Z2 μ2 hs hR' hev' hext'
  have out:∀ (Φ:Res.Step head.den ex.den->Prop),(∀ y,Φ (.done y)->(ex.go st K y).sat Ψ)->((ex.inj st.mem.roots.length e s).bind λy=>(.ok (.done y):Res (Res.Step head.den ex.den))).sat Φ->Q e.exit a2 w2:=λΦ hΦ hs=>by
   have hs':(ex.inj st.mem.roots.length e s).sat λx=>(ex.go st K x).sat Ψ:=by
    exact Res.Di (λy hy=>hΦ y hy) (pN hs)
   obtain ⟨z,hz,c',y,hget,hgo⟩:=xF ex hs';rw [hgo K st] at hz;obtain ⟨Z3,μ3,g1,g2,g3⟩:=s8 (b:=st) hR hR' (hev'.congr ⟨rfl,rfl⟩) hext' hget;exact hK e _ a2 w2 Z3 μ3 hz g1 (wm hev) (hext.trans g3)
  cases e with
  |nrm =>
   simp only [lS.at,Dw] at hs;split at hs
   case h_2=>exact hs.elim
   rename_i y hy;have hs:(Res.loop _ n y).sat _:=hs;obtain ⟨Z3,μ3,g1,g2,g3⟩:=s8 (b:=fresh st) (hR.alike hal) hR' hev' hext' hy;exact wU hc hR hev hext hK n y a2 w2 Z3 μ3 hs g1 g3
  |ret=>exact out _ (λy hy=>hy) hs
  |ext k=>exact out _ (λy hy=>hy) hs
end
end Go.Mach

namespace Go.Mach
section
variable {B:gT}{E:Env}
theorem kt(hm:E.P.follows .mixedOrders=true)(hE:px E B.g):∀ (c:Code) (β:Type) (ann:Ann) (st:St) (K:lS β),Sound B E c (exec E c β ann st K) st K
 |.skip,β,ann,st,K=>by
  intro Ψ Q b a0 a w0 w Z0 Z μ0 μ h hb hR hev hext hK;exact wp_skip (hK .nrm st a w Z μ h hR hev hext)
 |.region id ops draw,β,ann,st,K=>by
  unfold exec;exact oc λγ ann st K=>zn hm hE st K
 |.seq x y,β,ann,st,K=>by
  unfold exec;refine oc λγ ann st K=>?_;intro Ψ Q b a0 a w0 w Z0 Z μ0 μ h hb hR hev hext hK;refine wp_seq (kt hm hE x γ ann.left st _ Ψ _ b a0 a w0 w Z0 Z μ0 μ h hb hR hev hext ?_);intro e s a' w' Z' μ' hs hR' hev' hext'
  cases e with
  |nrm=>exact kt hm hE y γ ann.right s K Ψ Q b a0 a' w0 w' Z0 Z' μ0 μ' hs hb hR' hev' hext' hK
  |ret=>exact hK .ret s a' w' Z' μ' hs hR' hev' hext'
  |ext n=>exact hK (.ext n) s a' w' Z' μ' hs hR' hev' hext'
 |.cond c x y,β,ann,st,K=>by
  unfold exec;refine oc λγ ann st K=>?_;intro Ψ Q b a0 a w0 w Z0 Z μ0 μ h hb hR hev hext hK;split at h
  case h_2=>exact h.elim
  rename_i t ht;have hv:=hR.val c;rw [ht] at hv;have hv:a.eval c=.bool t:=hv;rcases C6 h with ⟨rfl,h⟩|⟨rfl,h⟩
  ·exact wp_cond_true hv (kt hm hE x γ ann.left st K Ψ Q b a0 a w0 w Z0 Z μ0 μ h hb hR hev hext hK)
  ·exact wp_cond_false hv (kt hm hE y γ ann.right st K Ψ Q b a0 a w0 w Z0 Z μ0 μ h hb hR hev hext hK)
 |.block id x,β,ann,st,K=>by
  unfold exec;refine oc λγ ann st K=>?_;intro Ψ Q b a0 a w0 w Z0 Z μ0 μ h hb hR hev hext hK;refine wp_block (kt hm hE x γ ann.left st _ Ψ _ b a0 a w0 w Z0 Z μ0 μ h hb hR hev hext ?_);intro e s a' w' Z' μ' hs hR' hev' hext'
  cases e with
  |nrm=>exact hK .nrm s a' w' Z' μ' hs hR' hev' hext'
  |ret=>exact hK .ret s a' w' Z' μ' hs hR' hev' hext'
  |ext n =>
   simp only [qT.exit,Exit.inBlock];simp only [lS.at] at hs;split at hs
   ·rename_i hn;rw [if_pos (by simpa using hn)];exact hK .nrm s a' w' Z' μ' hs hR' hev' hext'
   ·rename_i hn;rw [if_neg (by simpa using hn)];exact hK (.ext n) s a' w' Z' μ' hs hR' hev' hext'
 |.loop x,β,ann,st,K=>by
  intro Ψ Q b a0 a w0 w Z0 Z μ0 μ h hb hR hev hext hK;unfold exec at h;split at h
  ·rename_i head ex a';split at h
   case h_2=>exact h.elim
   rename_i x0 hx0;have hal:Alike st (fresh st):=⟨rfl,rfl⟩;obtain ⟨Z1,μ1,g1,g2,g3⟩:=s8 (b:=fresh st) (hR.alike hal) (hR.alike hal) (Ev.refl _) (dW.refl μ) hx0;exact wp_loop_rounds fuel (wU (λγ ann st K=>kt hm hE x γ ann st K) hR hev hext hK fuel x0 a w Z1 μ1 (pN h) g1 g3)
  ·exact wp_loop_rounds _ (zB (run:=λann st K=>exec E x β ann st K) (λann st K=>kt hm hE x β ann st K) hb hK _ st a w Z μ h hR hev hext)
  ·exact h.elim
 |.exit id,β,ann,st,K=>by
  intro Ψ Q b a0 a w0 w Z0 Z μ0 μ h hb hR hev hext hK;exact wp_exit (hK (.ext id) st a w Z μ h hR hev hext)
 |.ret,β,ann,st,K=>by
  intro Ψ Q b a0 a w0 w Z0 Z μ0 μ h hb hR hev hext hK;exact wp_ret (hK .ret st a w Z μ h hR hev hext)
 |.rangeFunc _ _ _ _,β,ann,st,K=>by intro Ψ Q b a0 a w0 w Z0 Z μ0 μ h;unfold exec at h;exact h.elim
 |.scope x,β,ann,st,K=>by
  unfold exec;refine oc λγ ann st K=>?_;intro Ψ Q b a0 a w0 w Z0 Z μ0 μ h hb hR hev hext hK;refine wp_scope_straight (kt hm hE x γ ann.left st K Ψ _ b a0 a w0 w Z0 Z μ0 μ h hb hR hev hext ?_);intro e s a' w' Z' μ' hs hR' hev' hext';have:=hK e s a' w' Z' μ' hs hR' hev' hext'
  cases e<;>exact this
 |.label _,β,ann,st,K=>by
  intro Ψ Q b a0 a w0 w Z0 Z μ0 μ h hb hR hev hext hK;exact wp_label (hK .nrm st a w Z μ h hR hev hext)
 |.refuse _,β,ann,st,K=>by intro Ψ Q b a0 a w0 w Z0 Z μ0 μ h;unfold exec at h;exact h.elim
 |.goto _,β,ann,st,K=>by intro Ψ Q b a0 a w0 w Z0 Z μ0 μ h;unfold exec at h;exact h.elim
end
end Go.Mach

namespace Go.Mach
section
variable {w:World}{Z:Nat->Prop}
theorem SR.noY{Y Y':Nat->Prop}:∀ {s:Sh}{us:List Value}{x:s.den}{S:Nat->Prop},s.oW=true->SR w Z Y s us x S->SR w Z Y' s us x S
 |.nil,_,_,_,_,hc=>hc
 |.undef,_,_,_,_,hc=>hc
 |.kN,_,_,_,_,hc=>hc
 |.err,_,_,_,_,hc=>hc
 |.opq,_,_,_,_,hc=>hc
 |.sb _,_,_,_,_,hc=>hc
 |.frz _,_,_,_,_,hc=>hc
 |.own s,us,xs,S,hn,hc=>by
  simp only [SR] at hc ⊢;obtain ⟨ℓ,h1,h2,h3⟩:=hc;exact ⟨ℓ,h1,h2,h3.mono (bX.refl _ _) λi us x T _ _ hR=>SR.noY (s:=s) hn hR⟩
 |.box s,us,x,S,hn,hc=>by
  simp only [SR] at hc ⊢;obtain ⟨b,o,us',T,h1,h2,h3,h4,h5,h6,h7⟩:=hc;exact ⟨b,o,us',T,h1,h2,h3,h4,h5,h6,SR.noY (s:=s) hn h7⟩
 |.map n s,us,xs,S,hn,hc=>by
  simp only [SR] at hc ⊢;obtain ⟨b,h1,h2⟩:=hc;exact ⟨b,h1,h2.mono rfl (λ_ h=>h) λ_ _ _ _ _ hR=>SR.noY (s:=s) hn hR⟩
 |.clo f s,us,x,S,hn,hc=>by
  simp only [SR] at hc ⊢;obtain ⟨h0,vs,h1,h2⟩:=hc;exact ⟨h0,vs,h1,SR.noY (s:=s) hn h2⟩
 |.seq a b,us,x,S,hn,hc=>by
  simp only [SR] at hc ⊢;simp only [Sh.oW,Bool.and_eq_true] at hn;obtain ⟨u1,u2,S1,S2,h1,h2,h3,h4,h5,h6⟩:=hc;exact ⟨u1,u2,S1,S2,h1,h2,h3,h4,SR.noY hn.1 h5,SR.noY hn.2 h6⟩
 |.bor _,_,_,_,hn,_=>by simp [Sh.oW] at hn
theorem lY.noY{Y Y':Nat->Prop}:∀ {l:List VSh}{vs:List Value}{x:kO l}{S:Nat->Prop},(l.all λs=>s.2.oW)=true->lY w Z Y l vs x S->lY w Z Y' l vs x S
 |[],_,_,_,_,h=>h
 |[a],_,_,_,hn,h=>by
  obtain ⟨v,h0,us,h1,h2,h3⟩:=h;exact ⟨v,h0,us,h1,h2,h3.noY (by simpa using hn)⟩
 |a::b::r,_,_,_,hn,h=>by
  rw [List.all_cons,Bool.and_eq_true] at hn;obtain ⟨v,vs',S1,S2,h0,h1,h2,h3,⟨us,h4,h5,h6⟩,h7⟩:=h;exact ⟨v,vs',S1,S2,h0,h1,h2,h3,⟨us,h4,h5,h6.noY hn.1⟩,h7.noY hn.2⟩
theorem mX.noY{Y Y':Nat->Prop}:∀ {ps:List Par}{vs:List Value}{α:Type}{y:outs α (boxes ps)}{S:Nat->Prop},((boxes ps).all Sh.oW)=true->mX w Z Y ps vs y S->mX w Z Y' ps vs y S
 |[],_,_,_,_,_,_=>trivial
 |.val _ _::r,_,_,_,_,hn,h=>by
  obtain ⟨v,vs',h0,h⟩:=h;exact ⟨v,vs',h0,mX.noY (ps:=r) hn h⟩
 |.obj s::r,_,_,_,_,hn,h=>by
  simp only [boxes,List.all_cons,Bool.and_eq_true] at hn;obtain ⟨v,vs',S1,S2,h0,h1,h2,h3,h4,h5⟩:=h;exact ⟨v,vs',S1,S2,h0,h1,h2,h3,h4.noY hn.1,mX.noY (ps:=r) hn.2 h5⟩
theorem lY.up{Z' Y:Nat->Prop}(hz:∀ b,Z b->Z' b):∀ {l:List VSh}{vs:List Value}{x:kO l}{S:Nat->Prop},lY w Z Y l vs x S->lY w Z' Y l vs x S
 |[],_,_,_,h=>h
 |[a],_,_,_,h=>by
  obtain ⟨v,h0,h1⟩:=h;exact ⟨v,h0,h1.up hz⟩
 |a::b::r,_,_,_,h=>by
  obtain ⟨v,vs',S1,S2,h0,h1,h2,h3,h6,h7⟩:=h;exact ⟨v,vs',S1,S2,h0,h1,h2,h3,h6.up hz,h7.up hz⟩
theorem lY.len{Y:Nat->Prop}:∀ {l:List VSh}{vs:List Value}{x:kO l}{S:Nat->Prop},lY w Z Y l vs x S->vs.length=l.length
 |[],_,_,_,h=>by rw [show _=[] from h];rfl
 |[a],_,_,_,h=>by obtain ⟨v,rfl,_⟩:=h;rfl
 |a::b::r,_,_,_,h=>by
  obtain ⟨v,vs',S1,S2,rfl,h1,h2,h3,h6,h7⟩:=h;simp only [List.length_cons,lY.len h7]
end
section
variable {B:gT}{w:World}{Z:Nat->Prop}{μ:bS}
theorem ARs.len:∀ {xs:List AV}{vs:List Value},ARs w Z μ xs vs->vs.length=xs.length
 |[],_,h=>by rw [show _=[] from h];rfl
 |x::xs,_,h=>by
  obtain ⟨v,vs',rfl,_,h2⟩:=h;simp only [List.length_cons,ARs.len h2]
def td(tmps:Array Value):ResultVar->Sem Value
 |.tmp t=>pure (tmps.getD t undef)
 |.cell a t=>do loadVar t (<- asAddr (tmps.getD a undef))
theorem w9(fn:Func)(tmps:Array Value):results fn tmps=(do
  let vs <- fn.results.mapM (td tmps)
  pure (if h:vs.size=1 then vs[0] else .tuple vs)):=by
 unfold results;rfl
def yY(P:Program):ResultVar->Bool
 |.tmp _=>true
 |.cell _ T=>kindOk P T
theorem oz{P:Program}{s:St}{a:Act}{β:Type}{Ψ:β->Prop}(hR:Rel B s a w Z μ):∀ (rs:List ResultVar){K:List AV->Res β},(rs.all (yY P))=true->(ox P s rs K).sat Ψ ->
  ∃ xs vs,(rs.mapM (td a.tmps)).run P w=.ok vs w/\ARs w Z μ xs vs/\(K xs).sat Ψ
 |[],K,_,h=>⟨[],[],by simp [Sem.run_pure],rfl,h⟩
 |r::rs,K,hk,h=>by
  simp only [List.all_cons,Bool.and_eq_true] at hk;simp only [ox] at h
  have key:∃ x v,(td a.tmps r).run P w=.ok v w/\AR w Z μ x v/\(ox P s rs λvs=>K (x::vs)).sat Ψ:=by
   cases r with
   |tmp t=>exact ⟨s.get t,a.tmps.getD t undef,by simp [td,Sem.run_pure],hR.get t,h⟩
   |cell p T =>
    have h:(rN s.mem (P.cellsOf T) (s.get p) λcs=>ox P s rs λvs=>K (pW (oD P T) cs::vs)).sat Ψ:=h;obtain ⟨b,o,cs,us,h1,h2,h3,h4,h5⟩:=yU hR.mem (hR.get p) h
    obtain ⟨v,h6,h7⟩:=vc (w:=w) (show kindOk P T=true from hk.1) (by rw [<- h4.1,h2]) h3
    refine ⟨_,v,?_,zR h4 h7,h5⟩;simp only [td,h1];simp [asAddr,Sem.run_bind,h6]
  obtain ⟨x,v,h1,h2,h3⟩:=key;obtain ⟨xs,vs,g1,g2,g3⟩:=oz hR rs hk.2 h3;refine ⟨x::xs,v::vs,?_,⟨v,vs,rfl,h2,g2⟩,g3⟩;rw [List.mapM_cons];simp only [Sem.run_bind,h1,Result.andThen_ok,g1,Sem.run_pure]
theorem xJ{P:Program}{fn:Func}{tmps:Array Value}{rs:List VSh}{vs:List Value}(h:(fn.results.toList.mapM (td tmps)).run P w=.ok vs w)(hl:vs.length=rs.length) :
  ∃ v,(results fn tmps).run P w=.ok v w/\zN rs v vs:=by
 rw [w9,Array.mapM_eq_mapM_toList];simp only [Sem.run_bind,Sem.run_map,h,Result.andThen_ok,Sem.run_pure];refine ⟨_,rfl,?_⟩;unfold zN;split
 ·match vs,hl with
  |[v],_=>simp
 ·rename_i hne
  have h1:¬ vs.length=1:=λhe=>by
   match rs,hl with
   |[r],_=>exact hne r rfl
   |[],hl=>rw [he] at hl;simp at hl
   |_::_::_,hl=>rw [he] at hl;simp at hl
  simp [h1]
def Ej:List Par->List AV->Prop
 |.obj _::r,v::vs=>(∃ c,v=.c c)/\Ej r vs
 |.val _ _::r,_::vs=>Ej r vs
 |_,_=>True
theorem wD:∀ {ps:List Par}{x:kO (ps.map Par.v)}{m:Mem},Ej ps (mks (ps.map Par.v) x m).1
 |[],_,_=>trivial
 |[.val g s],x,m=>trivial
 |[.obj s],x,m=>by
  refine ⟨?_,trivial⟩;simp only [List.map,mks,Par.v,pW]
  cases (s.mk x m).1<;>exact ⟨_,rfl⟩
 |.val g s::q::r,x,m=>wD (ps:=q::r) (x:=x.2) (m:=(s.mk x.1 m).2)
 |.obj s::q::r,x,m=>by
  refine ⟨?_,wD (ps:=q::r) (x:=x.2) (m:=(s.mk x.1 m).2)⟩;simp only [Par.v,pW]
  cases (s.mk x.1 m).1<;>exact ⟨_,rfl⟩
theorem oN:∀ {ps:List Par}{xs:List AV}{us:List Value}{α:Type}{y:α}{z:outs α (boxes ps)}{m:Mem}{Z F:Nat->Prop},bV B m w Z μ->cq B m w Z μ F->ARs w Z μ xs us->Ej ps xs->sa ps xs y m=some z ->
  ∃ (m':Mem) (Z' F' S:Nat->Prop),bV B m' w Z' μ/\cq B m' w Z' μ F'/\(∀ b,Z b->Z' b)/\(∀ b,F b->F' b)/\(∀ b,S b->F' b/\¬ F b)/\mX w Z' B.Y ps us z S/\ld (boxes ps) z=y
 |[],xs,us,α,y,z,m,Z,F,hM,hF,hx,ho,h=>by
  simp only [sa,Option.some.injEq] at h;exact ⟨m,Z,F,λ_=>False,hM,hF,λ_ h=>h,λ_ h=>h,λ_ h=>h.elim,trivial,h.symm⟩
 |.val g s::r,xs,us,α,y,z,m,Z,F,hM,hF,hx,ho,h=>by
  match xs,h with
  |x::xs,h =>
   obtain ⟨v,vs',rfl,h1,h2⟩:=hx;obtain ⟨m',Z',F',S,e1,e2,e3,e4,e5,e6,e7⟩:=oN (ps:=r) hM hF h2 ho h;exact ⟨m',Z',F',S,e1,e2,e3,e4,e5,⟨v,vs',rfl,e6⟩,e7⟩
 |.obj s::r,xs,us,α,y,z,m,Z,F,hM,hF,hx,ho,h=>by
  match xs,h with
  |x::xs,h =>
   obtain ⟨v,vs',rfl,h1,h2⟩:=hx;obtain ⟨⟨c,rfl⟩,ho⟩:=ho;simp only [sa] at h;split at h
   case h_2=>cases h
   rename_i x1 m1 hg;split at h
   case h_2=>cases h
   rename_i z1 hz;simp only [Option.some.injEq] at h;subst h
   obtain ⟨⟨Z1,F1,S1,us1,us2,e1,e2,e3,e4,e5,e6,e7,e8,e9⟩,_⟩:=lq s hM hF (CRs.mk1 (show CR w Z μ c v from h1)) hg
   have:=e9.mI;subst this;rw [List.append_nil] at e1;subst e1;obtain ⟨m',Z',F',S2,g1,g2,g3,g4,g5,g6,g7⟩:=oN (ps:=r) e3 e4 (h2.mono (bX.refl _ _) e5 (dW.refl μ)) ho hz;refine ⟨m',Z',F',λd=>S1 d\/S2 d,g1,g2,λb hb=>g3 b (e5 b hb),λb hb=>g4 b (e6 b hb),λd hd=>?_,⟨v,vs',S1,S2,rfl,λ_ h=>.inl h,λ_ h=>.inr h,λd a b=>(g5 d b).2 (e7 d a).1,?_,g6⟩,rfl⟩
   ·rcases hd with hd|hd
    ·exact ⟨g4 d (e7 d hd).1,(e7 d hd).2⟩
    ·exact ⟨(g5 d hd).1,λhf=>(g5 d hd).2 (e6 d hf)⟩
   ·show SR w Z' B.Y s [v] (ld (boxes r) z1) S1;rw [g7];exact e8.up g3
end
end Go.Mach

namespace Go.Mach
theorem A7{sp:Spec}{E:Env}{G:rV}{fn:Func}{ann:Ann}(hm:E.P.follows .mixedOrders=true)(hE:px E G)(hfn:E.P.funcs[sp.f]?=some fn)(hbody:fn.body.isSome=true)(hname:(fn.name == "runtime.NumGoroutine")=false)
  (hobj:(boxes sp.ps).all Sh.nF=true) (hnb:(sp.rs.all λs=>s.2.oW)=true) (hnb2:(boxes sp.ps).all Sh.oW=true) (hres:fn.results.toList.all (yY E.P)=true)
  (heq:∀ x,vn E fn sp.ps sp.rs ann x=sp.run x):j9 E.P G sp:=by
 refine ⟨⟨fn,hfn,hbody,hname⟩,hobj,λw Z Y S args x Ψ hsat hG hZ hY hS hV=>?_⟩;rw [<- heq x] at hsat;unfold vn at hsat;split at hsat
 case h_2=>exact hsat.elim
 rename_i code hcode
 let B:gT:=⟨w,S,Z,Y,G,hG.1,λb hb=>⟨hG.2 b hb,hZ b (hG.2 b hb),λh=>(hS b h).2 (hG.2 b hb)⟩⟩
 let m0:Mem:=⟨List.replicate (nG (sp.ps.map Par.v)) cu.dead,0,0⟩
 have hdead:∀ (r:Nat) (y:cu),m0.roots[r]?=some y->y=cu.dead:=λr y hy=>by
  have hy:(List.replicate (nG (sp.ps.map Par.v)) cu.dead)[r]?=some y:=hy;rw [List.getElem?_replicate] at hy;split at hy
  ·exact (Option.some.inj hy).symm
  ·cases hy
 have hM0:bV B m0 w Z (λ_=>none):=by
  refine ⟨(λr y hy hd=>absurd (hdead r y hy) hd),(λr s y z ℓ ℓ' _ _ _ _ _ hl=>by cases hl),(λr y ℓ b _ _ hl=>by cases hl),λb hb=>⟨hZ b hb,.inl hb⟩,λb hb=>hb,Nat.le_refl _,λb _ _=>rfl,λ_ _=>rfl,λb hb=>hY b hb,Io.refl _⟩
 have hL0:cq B m0 w Z (λ_=>none) S:=by
  refine ⟨λb hb=>⟨(hS b hb).2,(hS b hb).1,.inr hb⟩,λb r hb=>?_⟩;rintro ⟨y,ℓ,_,_,hl,_⟩;cases hl
 have hF0:mg m0 (λ_=>none) (nG (sp.ps.map Par.v)):=λk hk=>⟨rfl,by
  show (List.replicate (nG (sp.ps.map Par.v)) cu.dead)[0+k]?=_
  rw [Nat.zero_add,List.getElem?_replicate,if_pos hk]⟩
 obtain ⟨μ1,e1,e2,e3,e4⟩:=si hM0 hL0 hF0 hV (λ_ h=>h);have hobjc:=wD (ps:=sp.ps) (x:=x) (m:=m0);have hm0:(⟨List.replicate (nG (sp.ps.map Par.v)) cu.dead,0,0⟩:Mem)=m0:=rfl;rw [hm0] at hsat;generalize mks (sp.ps.map Par.v) x m0=k at hsat e1 e2 e3 e4 hobjc;obtain ⟨vs,m⟩:=k;simp only at hsat e1 e2 e3 e4 hobjc;have hsat:=sw hsat hV.ok;refine calls_of_wp hfn hcode ?_
 let st:St:=⟨vs++List.replicate (fn.ntmps-vs.length) (.c .undef),m,[]⟩
 have hlen:=e3.len
 have hR:Rel B st { tmps:=args.toArray++Array.replicate (fn.ntmps-args.toArray.size) undef,defers:=[] } w Z μ1:=by
  refine ⟨e1,λi z hz=>?_,?_,rfl⟩
  ·have hz:(vs++List.replicate (fn.ntmps-vs.length) (AV.c .undef))[i]?=some z:=hz;rcases Nat.lt_or_ge i vs.length with h1|h1
   ·rw [List.getElem?_append_left h1] at hz;obtain ⟨v,hv,har⟩:=ARs.at_ e3 i z hz
    have:(args.toArray++Array.replicate (fn.ntmps-args.toArray.size) undef).getD i undef=v:=by
     rw [Array.getD_eq_getD_getElem?,Array.getElem?_append_left (by simp;omega)];simp [hv]
    show AR w Z μ1 z ((args.toArray++Array.replicate (fn.ntmps-args.toArray.size) undef).getD i undef);rw [this];exact har
   ·rw [List.getElem?_append_right h1,List.getElem?_replicate] at hz;split at hz
    ·cases hz;exact AR.undef _
    ·cases hz
  ·show (vs++List.replicate (fn.ntmps-vs.length) (AV.c .undef)).length=(args.toArray++Array.replicate (fn.ntmps-args.toArray.size) undef).size;simp [hlen]
 refine kt (B:=B) hm hE code _ ann st _ Ψ _ st _ _ w w Z Z μ1 μ1 hsat hR hR (Ev.refl _) (dW.refl _) ?_;intro e s a' w' Z' μ' hs hR' _ hext'
 have hfin:(fin E.P fn sp.ps sp.rs vs s).sat Ψ->a'.defers=[]/\∃ v,(results fn a'.tmps).run E.P w'=.ok v w'/\(∃ y v' jX,∃ Z' S1 S2:Nat->Prop,Ending.returned v=.returned v'/\Ψ y/\zN sp.rs v' jX /\
   lY w' Z' (λ_=>False) sp.rs jX (ld (boxes sp.ps) y) S1/\mX w' Z' (λ_=>False) sp.ps args y S2/\(∀ d,S1 d->S2 d->False) /\
   (∀ b,S1 b\/S2 b->b < w'.heap.size/\¬ Z' b/\(S b\/w.heap.size<=b))/\(∀ b,Z b->Z' b)/\(∀ b,Z' b->b < w'.heap.size/\(Z b\/S b\/w.heap.size<=b)) /\
   w.heap.size<=w'.heap.size/\(∀ b,b < w.heap.size->¬ S b->w'.heap[b]?=w.heap[b]?)/\Io w w'):=by
  intro hs;unfold fin at hs;obtain ⟨xs,jX,hrun,hxs,hs⟩:=oz hR' fn.results.toList hres hs;split at hs
  case h_2=>exact hs.elim
  rename_i y m1 hg;split at hs
  case h_2=>exact hs.elim
  rename_i z ho;obtain ⟨Z1,F1,S1,a1,a2,a3,a4,a5,a6,a7⟩:=rM hR'.mem (cq.none B s.mem w' Z' μ') hxs hg;have hsame:bX Z w w':=λb hb=>a1.rb b (hZ b hb) λhS'=>(hS b hS').2 hb;obtain ⟨m2,Z2,F2,S2,b1,b2,b3,b4,b5,b6,b7⟩:=oN (ps:=sp.ps) a1 a2 (e3.mono hsame a1.tB hext') hobjc ho;obtain ⟨v,hv,hret⟩:=xJ (rs:=sp.rs) hrun a7.len;refine ⟨hR'.df,v,hv,z,v,jX,Z2,S1,S2,rfl,hs,hret,?_,b6.noY hnb2,λd h1 h2=>(b5 d h2).2 (a5 d h1).1,λb hb=>?_,b1.tB,λb hb=>?_,b1.size,b1.rb,b1.io⟩
  ·rw [b7];exact (a7.up b3).noY hnb
  ·have hF:F2 b:=by
    rcases hb with hb|hb
    ·exact b4 b (a5 b hb).1
    ·exact (b5 b hb).1
   obtain ⟨c1,c2,c3⟩:=b2.ok b hF;exact ⟨c2,c1,c3.symm⟩
  ·obtain ⟨c1,c2⟩:=b1.frz b hb;exact ⟨c1,c2.imp id Or.symm⟩
 cases e with
 |nrm=>exact hfin hs
 |ret=>exact hfin hs
 |ext n=>exact hs.elim
theorem wy{sp:Spec}{P:Program}{G:rV}{fn:Func}(hfn:P.funcs[sp.f]?=some fn)(hbody:fn.body.isSome=true)(hname:(fn.name == "runtime.NumGoroutine")=false)(hobj:(boxes sp.ps).all Sh.nF=true)(h0:∀ x,sp.run x=.stuck):j9 P G sp :=
 ⟨⟨fn,hfn,hbody,hname⟩,hobj,λw Z Y S args x Ψ hsat=>by rw [h0] at hsat;exact hsat.elim⟩
end Go.Mach

