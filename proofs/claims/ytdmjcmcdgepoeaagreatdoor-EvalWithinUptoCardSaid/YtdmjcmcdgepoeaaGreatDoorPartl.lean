/-
  Proved here: the law renlaw12.EvalWithin returns true for every input of the stated bulk and leaves its arguments as they were; no further condition.
  By an AI agent; no person has read it.
-/
import Derived.Test.YtdmjcmcdgepoeaaGreatDoorPartk
set_option linter.all false
set_option linter.deprecated false
set_option maxRecDepth 100000
namespace Go.Mach
open Res
theorem Cz {n:Int}(h:1<=n){last d:Int}:(yC n last).getD (n-1).toNat d=last:=by
 unfold yC
 rw [List.getD_eq_getElem?_getD,List.getElem?_append_right (by simp)]
 simp
theorem fit13 {k:Int}(h:oG 13 k=true) (h1:k≠4):oG 3 k=true:=by simpa [oG,h1] using h
section
variable {C:Cx}{n:Nat}{G:au}{m k:Int}{s:RunT}{x:gJ}{e:mQ}{a:List UInt8}{v f t:eD}{l:List eD}
theorem FnC.ext {s':RunT}{i:Int}(h:FnC s i) (g:nW s.2.2.2.2.1.2 s'.2.2.2.2.1.2):FnC s' i:=by
 obtain ⟨i0,c,hc,e⟩:=h
 obtain ⟨d,hd,hs⟩:=g _ c hc
 exact ⟨i0,d,hd,hs.k.trans e⟩
theorem wF (hc:jx C) (hG:GOk C n G) (p:Pre C (n+1) 2 0 m s){l:List Int}(hl:l.length<=20000) (hn:∀ q∈l,Nd C.N 3 q) (he:cD e.2.1):(R.eval_run_arguments G s l e).sat (APst C m s.2.2.2.2.2.2.1 s):=by
 unfold R.eval_run_arguments
 have pm:=p.hm
 refine aA fun _=>aB (iA (Q:=fun r:(List eD×RunT) ⊕ (List eD×(Int×(RunT×eD)))=>match r with|.inl q=>tE q.1/\Aft C m s.2.2.2.2.2.2.1 s q.2|.inr z=>APst C m s.2.2.2.2.2.2.1 s ((z.1,(z.2.2.2,z.2.1)),z.2.2.1)) (fun y=>y.2.1) l.length (by omega) (fun y=>y.1.length=y.2.1.toNat/\(∀ v∈y.1,cD v)/\Aft C m s.2.2.2.2.2.2.1 s y.2.2) (by simp) (by simp) ⟨rfl,by simp,Aft.refl p.run⟩ fun y y0 y1 yI=>?_) fun r hr=>?_
 ·obtain ⟨vs,j,s1⟩:=y
  have y0:0<=j:=y0
  have y1:j<=(l.length:Int):=y1
  obtain ⟨i1,i2,i3⟩:=yI
  have i1:vs.length=j.toNat:=i1
  have i2:∀ v∈vs,cD v:=i2
  have i3:Aft C m s.2.2.2.2.2.2.1 s s1:=i3
  refine er (fun hj=>?_) fun _=>aD ⟨⟨by show vs.length<=_;omega,i2⟩,i3⟩
  have hj:j < (l.length:Int):=hj
  refine bn y0 (by show _ < l.length;omega) fun q hq _=>aB (hG.iV (p.go i3 (by decide) (by omega)) (hn q (List.mem_of_getElem? hq)) he) fun r ⟨v,g⟩=>aA fun _=>b9 (fun _=>aD ⟨⟨Nat.zero_le _,fun _ h=>by cases h⟩,v,Pst.lO i3 g⟩) fun e1=>bG (decide_eq_true ?_) (aD ⟨rfl,hj,?_,rX i2 v,(Pst.lO i3 g).a0 e1⟩)
  ·show (vs.length+1)*88<=2^47
   omega
  ·show (vs++[_]).length=(IntKind.wrap .i64 (j+1)).toNat
   rw [wrap64 (by omega),List.length_append]
   simp
   omega
 ·cases r with
  |inl q=>exact jf (aD ⟨hr.1,bt,.ok hr.2⟩)
  |inr z=>exact jd (aD hr)
theorem zJ (hc:jx C) (hG:GOk C n G) (p:Pre C (n+1) 10 100300000 m s) (hx:Nk C.N x) (hk:x.1=50) (he:cD e.2.1):(R.eval_run_callee G s x.2.2.2.2.2 e).sat (cy C (m+100300000) s.2.2.2.2.2.2.1 s):=by
 unfold R.eval_run_callee
 obtain ⟨i,hi⟩:=hx
 have hl:=hc.fw.one _ x hi
 have hg:=hc.tr.nod _ x hi
 have pm:=p.hm
 have a0:=Aft.refl p.run
 obtain ⟨q0,hq0,n0⟩:=jK hg 0 3 (by rw [hk];simp [shp]) (by rw [hk];rfl)
 have hlen:1<=(x.2.2.2.2.2).length:=(List.getElem?_eq_some_iff.1 hq0).1
 refine aA fun _=>iR (by decide) hq0 (aB (hG.called (p.go a0 (by decide) (by omega)) n0 he) fun r ⟨v1,v2,g1⟩=>aA fun _=>b9 (fun _=>aD ⟨v1,g1.up (by omega)⟩) fun e1=>gG (iL (by decide) (iL (by show (1:Int)<=((x.2.2.2.2.2).length:Int);omega) ?_)))
 have a1:=g1.a0 e1
 refine aB (hG.arguments (l:=List.drop 1 x.2.2.2.2.2) (p.go a1 (by decide) (by omega)) (by rw [List.length_drop];omega) (D9 hc hi (.inl hk)) he) fun r2 ⟨l2,v3,g2⟩=>aA fun _=>b9 (fun _=>aD ⟨v3,(Pst.cat a1 g2).up (by omega)⟩) fun e2=>?_
 have a2:=(Pst.cat a1 g2).a0 e2
 exact ae (bH (hG.call (p.go a2 (by decide) pm) v2 l2) fun _ hr=>hr.cat a2)
theorem C7 (hc:jx C) (hG:GOk C n G) (p:Pre C (n+1) 8 100300000 m s) (ht:cD t) (hl:tE l):(R.eval_run_call G s f t l).sat (cy C (m+100300000) s.2.2.2.2.2.2.1 s):=by
 unfold R.eval_run_call
 have pm:=p.hm
 have a0:=Aft.refl p.run
 have sg:∀ {q:Int}{B:(eD×Int)×RunT->Bool},((R.aF s q).bind fun r=>given (B r) (Res.ok r)).sat (cy C (m+100300000) s.2.2.2.2.2.2.1 s):=ae (bH (iM p.run (by omega)) fun _ hr=>hr.up (by omega))
 refine aA fun _=>oi (fun _=>sg) fun _=>aB tN fun nm ⟨h1,_⟩=>aA fun _=>aB uN fun b hb=>aI (fun _=>ae (hG.does (p.go a0 (by decide) pm) h1 ht hl)) fun _=>aB nV fun q hq=>aA fun _=>oi (fun _=>sg) fun h3=>ae (hG.apply (p.go a0 (by decide) pm) ?_ ht hl)
 rcases hq with ⟨h0,_⟩|⟨i0,c,hc',e⟩
 ·rw [h0] at h3
  cases h3
 ·exact ⟨i0,c,hc',e.symm.trans h3⟩
theorem AL (hc:jx C) (hG:GOk C n G) (p:Pre C (n+1) 4 100300000 m s) (hf:f.1=6) (hF:FnC s f.2.2.2.2) (ht:cD t) (hl:tE l):(R.eval_run_call G s f t l).sat (cy C (m+100300000) s.2.2.2.2.2.2.1 s):=by
 unfold R.eval_run_call
 have pm:=p.hm
 have a0:=Aft.refl p.run
 obtain ⟨B,g1,_,_⟩:=p.run.heap (by omega)
 have hF':=hF
 obtain ⟨i0,c,hc',e3⟩:=hF'
 have hlt:LT.lt (α:=Int) (f.2.2.2.2) (4096):=by
  have h1:=(List.getElem?_eq_some_iff.1 hc').1
  have h2:=g1.le
  omega
 refine aA fun _=>oi (fun h=>absurd hf h) fun _=>aB tN fun nm ⟨_,h1⟩=>aA fun _=>aB uN fun b hb=>aI (fun e=>absurd (h1 hlt) (hb e)) fun _=>aB nV fun q hq=>aA fun _=>oi (fun h=>?_) fun _=>ae (hG.apply (p.go a0 (by decide) pm) hF ht hl)
 rcases hq with ⟨_,h0⟩|⟨_,c',hc2,e⟩
 ·exact absurd ⟨i0,(List.getElem?_eq_some_iff.1 hc').1⟩ h0
 ·have:some c=some c':=hc'.symm.trans hc2
  cases this
  exact absurd (e.trans e3) h
theorem Ad (hc:jx C) (hG:GOk C n G) (p:Pre C (n+1) 9 100300000 m s) (hl:tE l):(R.eval_run_fresh G s f l).sat (cy C (m+100300000) s.2.2.2.2.2.2.1 s):=by
 unfold R.eval_run_fresh
 have pm:=p.hm
 have a0:=Aft.refl p.run
 obtain ⟨B,g1,g2,_⟩:=p.run.heap (by omega)
 have sg:∀ {q:Int}{B:(eD×Int)×RunT->Bool},((R.aF s q).bind fun r=>given (B r) (Res.ok r)).sat (cy C (m+100300000) s.2.2.2.2.2.2.1 s):=ae (bH (iM p.run (by omega)) fun _ hr=>hr.up (by omega))
 refine aA fun _=>oi (fun _=>sg) fun _=>aB (oX g1) fun r hr=>aA fun _=>dx (aI (fun hr2=>?_) fun _=>aB tN fun nm ⟨h1,_⟩=>aA fun _=>ae (hG.builds (p.go a0 (by decide) pm) h1 hl))
 refine aB (R:=fun b=>b=false->Eq (α:=Int) (r.1.1) (3)) (oi (fun _=>aD fun e=>by cases e) fun e=>aD fun _=>e) fun b hb=>aI (fun _=>sg) fun eb=>?_
 have hF:FnC s f.2.2.2.2:=by
  obtain ⟨i0,c,hc',e⟩:=hr.at' hr2
  exact ⟨i0,c,hc',e.trans (hb eb)⟩
 refine aB (R:=pX C (m+100300000) s.2.2.2.2.2.2.1 s fun _:Int=>True) (aB (dV (by decide)) fun _ _=>aA fun _=>aB (tG g1 g2) fun w _=>aA fun _=>bI (fun _=>aB nV fun _ _=>aA fun _=>oi (fun _=>oY (gO p.run |> fun h=>bH h fun _ hr=>cy.up (m:=m) hr (by omega))) fun _=>aD trivial) fun _=>aD trivial) fun r2 hr2=>oQ hr2 fun pr _=>aB (o4 p.run (by omega) (.mk' 1 rfl (by decide)) rfl rfl bt) fun r3 h3=>aA fun _=>b9 (fun _=>aD (h3.up (by omega))) fun e3=>?_
 have a3:=h3.2.a0 e3
 refine aB (hG.apply (p.go a3 (by decide) pm) (hF.ext a3.ext) h3.1 hl) fun r4 h4=>aA fun _=>?_
 have h4:=h4.cat a3
 refine aB (R:=fun b=>b=false->Eq (α:=Int) (r4.1.2) (0)) (b9 (fun _=>aD fun e=>by cases e) fun e=>aD fun _=>e) fun b hb=>aI (fun _=>aD h4) fun eb=>aD ⟨h3.1,.ok (h4.2.a0 (hb eb))⟩
theorem Aw (hc:jx C) (hG:GOk C n G) (p:Pre C (n+1) 3 100300000 m s){i:Int}(hF:FnC s i) (ht:cD t) (hl:tE l):(R.eval_run_apply G s i t l).sat (cy C (m+100300000) s.2.2.2.2.2.2.1 s):=by
 unfold R.eval_run_apply
 have pm:=p.hm
 obtain ⟨B,g1,g2,_⟩:=p.run.heap (by omega)
 obtain ⟨i0,c,hc',e3⟩:=hF
 refine aA fun _=>aB (oX g1) fun r hr=>aA fun _=>aB (p8 p.run (by omega)) fun r2 ⟨h2,_⟩=>aA fun _=>b9 (fun _=>aD ⟨bt,h2.up (by omega)⟩) fun e2=>?_
 have a2:=h2.a0 e2
 obtain ⟨t1,t2⟩:=hr.cl c i0 hc'
 obtain ⟨n0,x,hx,hk⟩:=hr.fn (t2.trans e3)
 refine aB (R:=fun e:mQ=>cD e.2.1) (bI (fun _=>aD (hr.th t1)) fun _=>bI (fun _=>aD bt) fun _=>aD ht) fun e he=>j5 a2.run n0 hx ?_
 have hlx:=hc.fw.one _ x hx
 have hg:=hc.tr.nod _ x hx
 obtain ⟨last,hlast,hsh⟩:∃ last:Int,(last=8\/last=13)/\shp x.1 (x.2.2.2.2.2).length=(yC (x.2.2.2.2.2).length last,0):=by
  rcases hk with h|h|h
  ·exact ⟨8,.inl rfl,by rw [h];rfl⟩
  ·exact ⟨8,.inl rfl,by rw [h];rfl⟩
  ·exact ⟨13,.inr rfl,by rw [h];rfl⟩
 have h1:1<=(x.2.2.2.2.2).length:=by
  have:=hg.len
  rw [hsh] at this
  have h2:(yC ((x.2.2.2.2.2).length:Int) last).length<=(x.2.2.2.2.2).length:=this
  unfold yC at h2
  simp at h2
  omega
 have ew:IntKind.wrap .i64 (((x.2.2.2.2.2).length:Int)-1)=((x.2.2.2.2.2).length:Int)-1:=wrap64 (by omega)
 rw [ew]
 have et:(((x.2.2.2.2.2).length:Int)-1).toNat=(x.2.2.2.2.2).length-1:=by omega
 obtain ⟨q,hq⟩:∃ q,x.2.2.2.2.2[(((x.2.2.2.2.2).length:Int)-1).toNat]?=some q:=⟨_,List.getElem?_eq_getElem (by omega)⟩
 have nq:=hg.nd hq last (by
  rw [hsh]
  show (yC ((x.2.2.2.2.2).length:Int) last).getD (((x.2.2.2.2.2).length:Int)-1).toNat 0=last
  exact Cz (by omega))
 refine gG (iL (by omega) (iL (by show ((x.2.2.2.2.2).length:Int)-1<=((x.2.2.2.2.2).length:Int);omega) ?_))
 refine aB (iA (Q:=fun H:qi=>Aft C (m+20000) s.2.2.2.2.2.2.1 s (oU r2.2 H)) (fun y=>y.1) (List.take (((x.2.2.2.2.2).length:Int)-1).toNat x.2.2.2.2.2).length (by simp;omega) (fun w=>Aft C (m+w.1) s.2.2.2.2.2.2.1 s (oU r2.2 w.2)) (by simp) (by simp) (by show Aft C (m+0) _ _ (oU r2.2 r2.2.2.2.2.2.1);rw [Int.add_zero];exact a2) fun w w0 w1 wI=>?_) fun H hH=>?_
 ·obtain ⟨j,H⟩:=w
  have w0:0<=j:=w0
  have w1:j<=((List.take (((x.2.2.2.2.2).length:Int)-1).toNat x.2.2.2.2.2).length:Int):=w1
  have wI:Aft C (m+j) s.2.2.2.2.2.2.1 s (oU r2.2 H):=wI
  have hln:(List.take (((x.2.2.2.2.2).length:Int)-1).toNat x.2.2.2.2.2).length=(x.2.2.2.2.2).length-1:=by rw [List.length_take];omega
  refine er (fun hj=>?_) fun _=>aD (wI.up (by omega))
  have hj:j < ((List.take (((x.2.2.2.2.2).length:Int)-1).toNat x.2.2.2.2.2).length:Int):=hj
  refine bn w0 (by show _ < (List.take (((x.2.2.2.2.2).length:Int)-1).toNat x.2.2.2.2.2).length;omega) fun d hd _=>?_
  have hd':x.2.2.2.2.2[j.toNat]?=some d:=by
   have hd:(List.take (((x.2.2.2.2.2).length:Int)-1).toNat x.2.2.2.2.2)[j.toNat]?=some d:=hd
   rw [List.getElem?_take] at hd
   split at hd
   ·exact hd
   ·cases hd
  obtain ⟨d0,z,hz,_⟩:=hg.kid _ d hd'
  refine j5 a2.run d0 hz (aB (lF hl.2 w0) fun v hv=>aA fun _=>aB (px wI.run (by omega) hv) fun r hr=>aA fun _=>aD ⟨rfl,hj,?_⟩)
  show Aft C (m+IntKind.wrap .i64 (j+1)) _ _ _
  rw [wrap64 (n:=j+1) (by omega),<- Int.add_assoc]
  exact wI.cat hr
 ·have nq':=nq
  obtain ⟨q0,y,hy,hf⟩:=nq'
  refine iR (by omega) hq (j5 a2.run q0 hy (oi (fun h4=>?_) fun h4=>?_))
  ·have hn3:Nd C.N 3 q:=by
    rcases hlast with h|h
    ·rw [h] at hf
     exact absurd (eq_of_beq hf) h4
    ·rw [h] at hf
     exact ⟨q0,y,hy,fit13 hf h4⟩
   exact ae (bH (hG.iV (p.go hH (by decide) (by omega)) hn3 he) fun _ hr=>(hr.lO hH).up (by omega))
  ·refine aB (rS hc hH.run (by omega) q0 hy he) fun r3 h3=>aA fun _=>?_
   have h3:=h3.cat hH
   refine b9 (fun _=>aD (h3.up (by omega))) fun e4=>?_
   have a3:=h3.2.a0 e4
   refine j5 a3.run q0 hy (aB (hG.list (p.go a3 (by decide) (by omega)) ⟨_,hy⟩ he) fun r4 ⟨v4,g4⟩=>aA fun _=>?_)
   have g4:=(Pst.cat a3 g4).up (m':=m+100300000) (by omega)
   exact bI (fun e5=>aD ⟨v4,.ok (g4.aft (je e5 (by decide)))⟩) fun _=>aB (R:=fun b=>b=false->Ne (α:=Int) (r4.1.1) (5)) (bI (fun e5=>aD fun _=>je e5 (by decide)) fun _=>aD fun e5=>ne_of_beq_false e5) fun b hb=>aI (fun _=>aD ⟨v4,g4⟩) fun eb=>aD ⟨bt,.ok (g4.aft (hb eb))⟩
theorem zL (hc:jx C) (hG:GOk C n G) (p:Pre C (n+1) 8 100300000 m s) (ha:InN a) (hl:tE l):(R.eval_run_builds G s a l).sat (cy C (m+100300000) s.2.2.2.2.2.2.1 s):=by
 unfold R.eval_run_builds
 have pm:=p.hm
 have a0:=Aft.refl p.run
 have hm:m<=2^39:=by omega
 have up:∀ {F:Res ((eD×Int)×RunT)}{B:(eD×Int)×RunT->Bool},F.sat (cy C m s.2.2.2.2.2.2.1 s)->(F.bind fun r=>given (B r) (Res.ok r)).sat (cy C (m+100300000) s.2.2.2.2.2.2.1 s):=fun h=>ae (bH h fun _ hr=>hr.up (by omega))
 refine aA fun _=>aB (dw0:Safe _).ok fun _ _=>aI (fun _=>up (gO p.run)) fun _=>aB (dw0:Safe _).ok fun _ _=>aI (fun _=>ae (hG.does (p.go a0 (by decide) pm) ha bt hl)) fun _=>aI (fun _=>aB (lF hl.2 (by decide)) fun _ _=>aA fun _=>aB nP fun q ⟨q0,q1⟩=>aA fun _=>b9 (fun _=>up (iM p.run hm)) fun _=>er (fun _=>up (iM p.run hm)) fun hq=>?_) fun _=>aI (fun _=>up (BF hc p.run hm hl.2)) fun _=>aI (fun _=>up (A8 p.run hm hl.2)) fun _=>aB Ex fun r hr=>aA fun _=>er (fun h=>?_) fun _=>up (iM p.run hm)
 ·have hq:LE.le (α:=Int) (q.1) (4096):=hq
  refine gG (iL q0 (gG (iL (Int.le_refl _) (n_d (by omega) (up (o4 p.run hm (.bf1 rfl ?_) rfl rfl bt))))))
  show (List.replicate (Int.toNat q.1) (0:Int)).length<=4096
  rw [List.length_replicate]
  omega
 ·obtain ⟨z,hz⟩:=hr h
  exact up (DZ p.run hm hz hl.2)
theorem Cb (hc:jx C) (hG:GOk C n G) (p:Pre C (n+1) 7 100300000 m s) (ha:InN a) (ht:cD t) (hl:tE l):(R.eval_run_does G s a t l).sat (cy C (m+100300000) s.2.2.2.2.2.2.1 s):=by
 unfold R.eval_run_does
 have pm:=p.hm
 have a0:=Aft.refl p.run
 have hm:m<=2^39:=by omega
 have up:∀ {F:Res ((eD×Int)×RunT)}{B:(eD×Int)×RunT->Bool},F.sat (cy C (m+20000) s.2.2.2.2.2.2.1 s)->(F.bind fun r=>given (B r) (Res.ok r)).sat (cy C (m+100300000) s.2.2.2.2.2.2.1 s):=fun h=>ae (bH h fun _ hr=>hr.up (by omega))
 have up0:∀ {F:Res ((eD×Int)×RunT)}{B:(eD×Int)×RunT->Bool},F.sat (cy C m s.2.2.2.2.2.2.1 s)->(F.bind fun r=>given (B r) (Res.ok r)).sat (cy C (m+100300000) s.2.2.2.2.2.2.1 s):=fun h=>ae (bH h fun _ hr=>hr.up (by omega))
 have rt:∀ {v:eD},cD v->(Res.ok ((v,(0:Int)),s):Res ((eD×Int)×RunT)).sat (cy C (m+100300000) s.2.2.2.2.2.2.1 s):=fun hv=>aD ⟨hv,(Pst.ok a0).up (by omega)⟩
 obtain ⟨B,g1,g2,g3⟩:=p.run.heap hm
 refine aA fun _=>aB (lF hl.2 (by decide)) fun x hx=>aA fun _=>aB (dw0:Safe _).ok fun _ _=>aI (fun _=>up0 (gO p.run)) fun _=>aI (fun _=>up0 (Ep p.run hm)) fun _=>aI (fun _=>aB (lF hl.2 (by decide)) fun y _=>aA fun _=>up0 (CW p.run hm)) fun _=>aI (fun _=>bI (fun _=>aB nV fun _ _=>aA fun _=>aB lB fun r hr=>aA fun _=>rt (vk hr)) fun _=>aB lB fun r hr=>aA fun _=>rt (vk hr)) fun _=>aI (fun _=>up (Fw p.run (by omega) hl.1 hl.2)) fun _=>aI (fun _=>aB (R:=fun _=>True) (oi (fun _=>aD trivial) fun _=>aB nV fun _ _=>aA fun _=>aD trivial) fun _ _=>aI (fun _=>up0 (gO p.run)) fun _=>aB (GG g1 g2) fun r ⟨r1,r2,r3⟩=>aA fun _=>aD ⟨r3,(Pst.ok ⟨p.run.put r1 g3,r2,rfl,Int.le_refl _⟩).up (by omega)⟩) fun _=>aI (fun _=>up0 (zp p.run hm)) fun _=>aI (fun _=>bI (fun _=>aB mu fun r hr=>aA fun _=>rt hr.1) fun _=>q_p fun r _=>aA fun _=>aB mu fun r hr=>aA fun _=>up0 (po p.run hm hr.1)) fun _=>aI (fun _=>q_b fun _=>aB lB fun r hr=>aA fun _=>rt (vk hr)) fun _=>aI (fun _=>up0 (DJ p.run hm)) fun _=>aB (dw0:Safe _).ok fun _ _=>aI (fun _=>up0 (BK p.run hm (Nat.le_trans (zK ha) (by decide)))) fun _=>aB (GB ha) fun b hb=>aI (fun eb=>aB (hb eb) fun nm hn=>aA fun _=>up0 (Cl hc p.run hm hn hl.2)) fun _=>q_b fun _=>aI (fun _=>q_b fun _=>aA fun _=>up0 (DN hc p.run hm hl.2)) fun _=>q_b fun _=>aI (fun _=>q_b fun _=>aA fun _=>ae (hG.host (p.go a0 (by decide) pm) hx)) fun _=>up0 (iM p.run hm)
theorem CF (hc:jx C) (hG:GOk C n G) (p:Pre C (n+1) 6 100300000 m s) (hv:cD v):(R.eval_run_host G s a v).sat (cy C (m+100300000) s.2.2.2.2.2.2.1 s):=by
 unfold R.eval_run_host
 have pm:=p.hm
 have a0:=Aft.refl p.run
 have hm:m<=2^39:=by omega
 obtain ⟨B,g1,g2,g3⟩:=p.run.heap hm
 have up:∀ {F:Res ((eD×Int)×RunT)}{B:(eD×Int)×RunT->Bool},F.sat (cy C m s.2.2.2.2.2.2.1 s)->(F.bind fun r=>given (B r) (Res.ok (Sum.inr (r.1.2,(r.2,r.1.1)):AB ⊕ (Int×(RunT×eD))))).sat (pX C (m+100300000) s.2.2.2.2.2.2.1 s uT):=fun h=>oY (bH h fun _ hr=>hr.up (by omega))
 refine aA fun _=>aB (R:=pX C (m+100300000) s.2.2.2.2.2.2.1 s uT) (aI (fun _=>oi (fun _=>up (gO p.run)) fun h5=>aD (qg 8 rfl (by decide) (by decide) l0 (hv h5) nw0 z6)) fun _=>aI (fun _=>aB (oX g1) fun r hr=>aA fun _=>aB (R:=fun b=>b=false->Eq (α:=Int) (r.1.1) (6)) (oi (fun _=>aD fun e=>by cases e) fun _=>aD fun e=>?_) fun b hb=>aI (fun _=>up (iM p.run hm)) fun eb=>aD (qg 9 rfl (by decide) (by decide) (hr.sh (hb eb)) (Nat.zero_le _) nw0 z6)) fun _=>aI (fun _=>oY (hG.yn (p.go a0 (by decide) pm))) fun _=>aI (fun _=>q_p fun r hr=>aA fun _=>b9 (fun _=>up (iM p.run hm)) fun _=>aD (qg 11 rfl (by decide) (by decide) l0 hr nw0 z6)) fun _=>aI (fun _=>aD (qg 12 rfl (by decide) (by decide) l0 (Nat.zero_le _) nw0 z6)) fun _=>aI (fun _=>q_b fun r=>aA fun _=>b9 (fun _=>up (iM p.run hm)) fun _=>aB sa fun w hw=>aA fun _=>aD (qg 13 rfl (by decide) (by decide) l0 (Nat.zero_le _) hw z6)) fun _=>aD (qg 14 rfl (by decide) (by decide) l0 (Nat.zero_le _) nw0 z6)) fun r hr=>oQ hr fun q hq=>aB (rZ p.run hc.A hq) fun r2 ⟨h2,_⟩=>aA fun _=>?_
 ·exact eq_of_beq (by cases h:(r.1.1 == 6)<;>simp_all)
 ·have h2:=h2.up (m':=m+100300000) (by omega)
  refine b9 (fun _=>aD ⟨bt,h2⟩) fun e2=>?_
  have a2:=h2.a0 e2
  exact bI (fun _=>aB lr fun _ hn=>aA fun _=>aD ⟨hn,.ok a2⟩) fun _=>aB (dw0:Safe _).ok fun _ _=>aI (fun _=>aD ⟨.of (show (1:Int)≠5 by decide),.ok a2⟩) fun _=>bI (fun _=>aB mu fun _ hn=>aA fun _=>aD ⟨hn.1,.ok a2⟩) fun _=>aD ⟨bt,.ok a2⟩
theorem wi (hc:jx C) (hG:GOk C n G) (p:Pre C (n+1) 5 100300000 m s):(R.eval_run_receives G s f).sat (cy C (m+100300000) s.2.2.2.2.2.2.1 s):=by
 unfold R.eval_run_receives
 have pm:=p.hm
 have hm:m<=2^39:=by omega
 refine aA fun _=>aB (R:=fun b=>b=false->f.1=6/\FnC s f.2.2.2.2) (oi (fun _=>aD fun e=>by cases e) fun h6=>aB nV fun q hq=>aA fun _=>aD fun e=>⟨h6,?_⟩) fun b hb=>aI (fun _=>ae (bH (iM p.run hm) fun _ hr=>hr.up (by omega))) fun eb=>?_
 ·have e:q=3:=eq_of_beq (by cases h:(q == 3)<;>simp_all)
  rcases hq with ⟨h0,_⟩|⟨i0,c,hc',e'⟩
  ·rw [h0] at e
   cases e
  ·exact ⟨i0,c,hc',e'.symm.trans e⟩
 ·obtain ⟨h6,hF⟩:=hb eb
  refine aB (rZ p.run hc.A (qg 10 rfl (by decide) (by decide) l0 (Nat.zero_le _) nw0 z6)) fun r2 ⟨h2,_⟩=>aA fun _=>b9 (fun _=>aD ⟨bt,h2.up (by omega)⟩) fun e2=>?_
  have a2:=h2.a0 e2
  refine aB (R:=fun q:Int=>0<=q/\q<=9007199254740991) (aB (R:=fun b=>b=false->LE.le (α:=Int) (0) (r2.1.1.2.2.2.1)/\LE.le (α:=Int) (r2.1.1.2.2.2.1) (9007199254740991)) (er (fun _=>aD fun e=>by cases e) fun h0=>aD fun e=>⟨h0,Int.not_lt.1 (of_decide_eq_false e)⟩) fun b hb=>aI (fun _=>aD ⟨by decide,by decide⟩) fun e=>aD (hb e)) fun q hq=>aB (o4 a2.run hm (.sh1 rfl hq) rfl rfl bt) fun r3 h3=>aA fun _=>?_
  have h3:=h3.cat a2
  refine b9 (fun _=>aD (h3.up (by omega))) fun e3=>?_
  have a3:=h3.2.a0 e3
  refine aB (hG.callF (l:=[r3.1.1]) (p.go a3 (by decide) pm) h6 (hF.ext a3.ext) bt ⟨(show 1<=20000 by decide),fun w hw=>?_⟩) fun r4 h4=>aA fun _=>?_
  ·cases List.mem_singleton.1 hw
   exact h3.1
  ·have h4:=h4.cat a3
   exact b9 (fun _=>aD h4) fun e4=>aD ⟨bt,.ok (h4.2.a0 e4)⟩
end
end Go.Mach

set_option maxRecDepth 100000
namespace Go.Mach
open Res
theorem gok {C:Cx}(hc:jx C):∀ n:Nat,GOk C n (cH n)
 |0=>⟨fun p=>(p.no (by decide)).elim,fun p=>(p.no (by decide)).elim,fun p=>(p.no (by decide)).elim,fun p=>(p.no (by decide)).elim,fun p=>(p.no (by decide)).elim,fun p=>(p.no (by decide)).elim,fun p=>(p.no (by decide)).elim,fun p=>(p.no (by decide)).elim,fun p=>(p.no (by decide)).elim,fun p=>(p.no (by decide)).elim,fun p=>(p.no (by decide)).elim,fun p=>(p.no (by decide)).elim,fun p=>(p.no (by decide)).elim,fun p=>(p.no (by decide)).elim,fun p=>(p.no (by decide)).elim,fun p=>(p.no (by decide)).elim,fun p=>(p.no (by decide)).elim,fun p=>(p.no (by decide)).elim,fun p=>(p.no (by decide)).elim,fun p=>(p.no (by decide)).elim,fun p=>(p.no (by decide)).elim,fun p=>(p.no (by decide)).elim,fun p=>(p.no (by decide)).elim,fun p=>(p.no (by decide)).elim,fun p=>(p.no (by decide)).elim,fun p=>(p.no (by decide)).elim,fun p=>(p.no (by decide)).elim,fun p=>(p.no (by decide)).elim,fun p=>(p.no (by decide)).elim,fun p=>(p.no (by decide)).elim,fun p=>(p.no (by decide)).elim,fun p=>(p.no (by decide)).elim,fun p=>(p.no (by decide)).elim,fun p=>(p.no (by decide)).elim,fun p=>(p.no (by decide)).elim⟩
 |n+1=>by
  have h:=gok hc n
  exact {
   list:=C6 hc h
   statement:=vn hc h
   act:=E9 hc h
   iV:=uf hc h
   block:=A1 hc h
   decls:=Al hc h
   choice:=zB hc h
   EL:=Ae hc h
   loop:=Dc hc h
   try_:=FA hc h
   value:=BH hc h
   asked:=BP hc h
   first:=An hc h
   Dz:=Am hc h
   array:=AZ hc h
   object:=zg hc h
   operation:=vU hc h
   unary:=BL hc h
   step:=C2 hc h
   binary:=y8 hc h
   logic:=AM hc h
   assign:=zx hc h
   callee:=zJ hc h
   arguments:=fun p=>wF hc h p
   fresh:=Ad hc h
   property:=property_step hc h
   parts:=A6 hc h
   called:=yl hc h
   call:=C7 hc h
   callF:=AL hc h
   builds:=zL hc h
   apply:=fun p=>Aw hc h p
   does:=Cb hc h
   host:=CF hc h
   yn:=wi hc h
  }
end Go.Mach

set_option maxRecDepth 100000
namespace Go.Mach
open Res
instance Fc {k}:Safe (R.jP k):=by unfold R.jP;exact dw0
instance EZ {l}:Safe (R.iw l):=by
 unfold R.iw
 refine ⟨aA fun h=>?_⟩
 simp only [Sg.i,oks,Sh.ok,Ty.ok,List.map,Par.v,Bool.and_eq_true] at h
 have:=la h
 refine aB (mI (fun i=>i) l.length (by omega) (by omega) (by omega) fun i h0 h1=>?_).ok fun x _=>(dw0:Safe _).ok
 refine er (fun hi=>bR h0 (by omega) fun _ _ _=>gG (iL h0 (iL h1 (q_b fun _=>aI (fun _=>aD trivial) fun _=>aD ⟨rfl,hi,trivial⟩)))) fun _=>aD trivial
instance Cp {a b}:Safe (R.gX a b):=by unfold R.gX;exact dw0
instance G9 {l f}:Safe (R.al l f):=by
 unfold R.al R.aw
 refine ⟨aA fun _=>fJ (aA fun h=>?_)⟩
 simp only [Sg.i,oks,Sh.ok,Ty.ok,List.map,Par.v,Bool.and_eq_true] at h
 have:=la h.1
 refine aB (mI (fun i=>i) l.length (by omega) (by omega) (by omega) fun i h0 h1=>?_).ok fun x _=>bH (dw0:Safe _).ok fun _ _=>aA fun _=>aD trivial
 exact er (fun hi=>bR h0 (by omega) fun _ _ _=>q_b fun _=>aI (fun _=>aD trivial) fun _=>aD ⟨rfl,hi,trivial⟩) fun _=>aD trivial
section
variable {t:List gJ}{n:Int}{up:List Int}
structure UpI (t:List gJ) (up:List Int):Prop where
 len:up.length=t.length
 lt:∀ (j:Nat) (v:Int),up[j]?=some v->-1<=v/\v < (j:Int)/\(0 < j->0<=v)
theorem UpI.set (h:UpI t up){k i:Int}(i0:0<=i) (hk:i < k):UpI t (up.set k.toNat i):=by
 refine ⟨by rw [List.length_set];exact h.len,fun j v hv=>?_⟩
 by_cases hj:k.toNat=j
 ·subst hj
  have hl:=(List.getElem?_eq_some_iff.1 hv).1
  rw [List.length_set] at hl
  rw [List.getElem?_set_self hl] at hv
  cases hv
  exact ⟨by omega,by omega,fun _=>i0⟩
 ·rw [List.getElem?_set_ne hj] at hv
  exact h.lt j v hv
theorem Ao (hg:pL t) (hf:rT t) (ho:qq t t.length):(R.fp t).sat (UpI t):=by
 unfold R.fp
 have hp:=hg.pos
 have hl:=hg.len
 have e0:Int.toNat (t.length:Int)=t.length:=by omega
 refine aA fun _=>gG (iL (by omega) (gG (iL (Int.le_refl _) (n_d (by omega) (gG (iL (by decide) (nr (by rw [List.length_replicate];omega) (bn (by decide) (by show 0 < (List.replicate _ _).length;rw [List.length_replicate];omega) fun _ _ _=>?_))))))))
 refine aB (iA (Q:=UpI t) (fun x=>x.1) t.length (by omega) (fun x=>UpI t x.2) (by simp) (by simp) ⟨by show (List.set _ _ _).length=_;rw [List.length_set,List.length_replicate,e0],fun j v hv=>?_⟩ fun x h0 h1 hI=>?_) fun r hr=>aD hr
 ·have hv:(List.set (List.replicate (Int.toNat (t.length:Int)) (0:Int)) (0+Int.toNat 0) (-1))[j]?=some v:=hv
  by_cases hj:j=0
  ·subst hj
   rw [show 0+Int.toNat 0=0 from rfl,List.getElem?_set_self (by rw [List.length_replicate];omega)] at hv
   cases hv
   exact ⟨by decide,by decide,fun h=>absurd h (by decide)⟩
  ·rw [List.getElem?_set_ne (by show ¬ 0+Int.toNat 0=j;exact fun h=>hj h.symm)] at hv
   have:=List.mem_of_getElem? hv
   rw [List.mem_replicate] at this
   rw [this.2]
   exact ⟨by decide,by omega,fun _=>Int.le_refl _⟩
 ·obtain ⟨i,l⟩:=x
  have h0:0<=i:=h0
  have hI:UpI t l:=hI
  refine er (fun hi=>?_) fun _=>aD hI
  have hi:i < (t.length:Int):=hi
  refine bR h0 (by omega) fun x hx _=>?_
  have hx:t[i.toNat]?=some x:=hx
  have hk:=hf.one _ x hx
  have hord:=ho _ x (by omega) hx
  refine aB (iA (Q:=UpI t) (fun x=>x.1) (x.2.2.2.2.2).length (by omega) (fun y=>UpI t y.2) (by simp) (by simp) hI fun y y0 y1 yI=>?_) fun r hr=>aD ⟨rfl,hi,hr⟩
  obtain ⟨j,q⟩:=y
  have y0:0<=j:=y0
  have yI:UpI t q:=yI
  refine er (fun hj=>?_) fun _=>aD yI
  have hj:j < ((x.2.2.2.2.2).length:Int):=hj
  refine bn y0 (by show _ < (x.2.2.2.2.2).length;omega) fun k hk _=>?_
  have ka:=hord _ k hk
  have ka1:LT.lt (α:=Int) ((i.toNat:Int)) (k):=ka.1
  have ka2:LT.lt (α:=Int) (k) ((t.length:Int)):=ka.2
  have hql:=yI.len
  refine gG (iL (by omega) (nr (by show LT.lt (α:=Int) (k) ((q.length:Int));omega) (bn (by omega) (by show ((0:Int)+(Int.toNat k:Int)).toNat < q.length;omega) fun _ _ _=>aD ⟨rfl,hj,?_⟩)))
  show UpI t (List.set q (0+Int.toNat k) i)
  rw [Nat.zero_add]
  exact yI.set h0 (by omega)
theorem Bq (hu:UpI t up){i:Int}(i0:0<=i) (hi:i.toNat < t.length){β:Type}{Q:β->Prop}{f:Int->Res β}(hf:∀ v,-1<=v/\v < i/\(0 < i->0<=v)->(f v).sat Q):(dC .i up i f).sat Q:=bR i0 (by have:=hu.len;show _ < up.length;omega) fun v hv _=>by
 have h:=hu.lt _ v hv
 exact hf v ⟨h.1,by omega,fun g=>h.2.2 (by omega)⟩
theorem uB (hg:pL t) (hu:UpI t up) (n0:0<=n) (hn:n.toNat < t.length):(R.ei t up n).sat fun r=>∀ k∈r.1,0<=k/\k < (t.length:Int):=by
 unfold R.ei
 have hl:=hg.len
 refine aA fun _=>Bq hu n0 hn fun v hv=>aB (kn (Q:=fun r:List Int ⊕ (List Int×Int)=>match r with|.inl l=>∀ k∈l,0<=k/\k < (t.length:Int)|.inr r=>∀ k∈r.1,0<=k/\k < (t.length:Int)) (fun y=>(y.1+1).toNat) (by show (v+1).toNat<=_;omega) (fun y=>-1<=y.1/\y.1 < (t.length:Int)/\(y.2.length:Int)+y.1<=(t.length:Int)/\∀ k∈y.2,0<=k/\k < (t.length:Int)) ⟨hv.1,by show v < (t.length:Int);omega,by show ((0:Nat):Int)+v<=(t.length:Int);omega,by simp⟩ fun y ⟨y1,y2,y3,y4⟩=>?_) fun r hr=>?_
 ·obtain ⟨i,l⟩:=y
  have y1:-1<=i:=y1
  have y2:i < (t.length:Int):=y2
  have y3:(l.length:Int)+i<=(t.length:Int):=y3
  have y4:∀ k∈l,0<=k/\k < (t.length:Int):=y4
  refine lb (fun i0=>?_) fun _=>aD y4
  have i0:0<=i:=i0
  refine bR i0 (by omega) fun x _ _=>q_b fun _=>aI (fun _=>aD y4) fun _=>bG (decide_eq_true ?_) (Bq hu i0 (by omega) fun w hw=>aD ⟨?_,?_,?_,?_,?_⟩)
  ·show (l.length+1)*8<=2^47
   omega
  ·show (w+1).toNat < (i+1).toNat
   omega
  ·exact hw.1
  ·show w < (t.length:Int)
   omega
  ·show ((l++[i]).length:Int)+w<=(t.length:Int)
   rw [List.length_append]
   simp
   omega
  ·exact rX y4 ⟨i0,y2⟩
 ·cases r with
  |inl l=>exact jf (aD hr)
  |inr q=>exact jd (aD hr)
theorem E3 (hg:pL t) (hf:rT t) (n0:0<=n) (hn:n.toNat < t.length){p:Int}(hp:p < n):(R.jB t n p).sat fun _=>True:=by
 unfold R.jB
 refine aA fun _=>aB (R:=fun b=>b=false->0<=p) (er (fun _=>aD fun e=>by cases e) fun p0=>bR n0 hn fun x _ _=>oi (fun _=>aD fun _=>p0) fun _=>bR p0 (by omega) fun y _ _=>q_b fun _=>dx (aI (fun _=>aD fun _=>p0) fun _=>bR p0 (by omega) fun z _ _=>aD fun _=>p0)) fun b hb=>aI (fun _=>aD trivial) fun e=>aB (rv hg hf (hb e) (by have:=hb e;omega)) fun _ _=>aA fun _=>aB (rv hg hf n0 hn) fun _ _=>aA fun _=>q_b fun _=>aD trivial
theorem DW {l:List Int}(hl:∀ k∈l,0<=k/\k < (t.length:Int)) {z}:(R.av l (t,z)).sat fun _=>True:=by
 unfold R.av R.bA
 refine aA fun _=>fJ (aA fun h=>?_)
 simp only [Sg.i,oks,Sh.ok,Ty.ok,List.map,Par.v,Bool.and_eq_true] at h
 have:=la h.1
 refine aB (mI (fun i=>i) l.length (by omega) (by omega) (by omega) fun i h0 h1=>?_).ok fun x _=>bH (dw0:Safe _).ok fun _ _=>aA fun _=>aD trivial
 refine er (fun hi=>bR h0 (by omega) fun k hk _=>aB (R:=fun _=>True) ?_ fun _ _=>aI (fun _=>aD trivial) fun _=>aD ⟨rfl,hi,trivial⟩) fun _=>aD trivial
 have hk:=hl k (List.mem_of_getElem? hk)
 unfold R.gv
 exact aA fun _=>bR hk.1 (by show k.toNat < t.length;omega) fun _ _ _=>bI (fun _=>bR hk.1 (by show k.toNat < t.length;omega) fun _ _ _=>aD trivial) fun _=>aD trivial
theorem zt (hg:pL t) (ho:qq t t.length) (n0:0<=n) (hn:n < (t.length:Int)):(R.fK t n).sat fun _=>True:=by
 unfold R.fK
 have hl:=hg.len
 refine aA fun _=>aB (kn (Q:=fun r:Int=>0<=r/\r < (t.length:Int)) (fun i=>(t.length:Int).toNat-i.toNat) (by omega) (fun i=>0<=i/\i < (t.length:Int)) ⟨n0,hn⟩ fun i ⟨i0,i1⟩=>?_) fun r ⟨r0,r1⟩=>bR r0 (by omega) fun _ _ _=>aD trivial
 have i0:0<=i:=i0
 have i1:i < (t.length:Int):=i1
 refine bR i0 (by omega) fun x hx _=>bI (fun h18=>bR i0 (by omega) fun y hy _=>?_) fun _=>aD ⟨i0,i1⟩
 have hx:t[i.toNat]?=some x:=hx
 have:some x=some y:=hx.symm.trans hy
 cases this
 have h1:=(hg.nod _ x hx).len
 rw [show x.1=18 from h18] at h1
 have h1:1<=(x.2.2.2.2.2).length:=h1
 refine bn (by decide) (by show 0 < (x.2.2.2.2.2).length;omega) fun k hk _=>aD ?_
 have:=ho _ x (by omega) hx _ k hk
 exact ⟨by show (t.length:Int).toNat-k.toNat < (t.length:Int).toNat-i.toNat;omega,by omega,this.2⟩
theorem Ds (hg:pL t) (ho:qq t t.length){x:gJ}{l:List Int}(hl:∀ k∈l,0<=k/\k < (t.length:Int)):(R.iy t x l).sat fun _=>True:=by
 unfold R.iy
 refine aA fun h=>?_
 simp only [Sg.i,oks,Sh.ok,Ty.ok,List.map,Par.v,Bool.and_eq_true] at h
 have:=la h.2.2
 refine aB (mI (fun i=>i) l.length (by omega) (by omega) (by omega) fun i h0 h1=>?_).ok fun x _=>(dw0:Safe _).ok
 refine er (fun hi=>bR h0 (by omega) fun k hk _=>?_) fun _=>aD trivial
 have hk:=hl k (List.mem_of_getElem? hk)
 exact bR hk.1 (by omega) fun y _ _=>aB (dw0:Safe _).ok fun _ _=>aI (fun _=>aD trivial) fun _=>aB (dw0:Safe _).ok fun _ _=>aI (fun _=>bI (fun _=>aD trivial) fun _=>aB (zt hg ho hk.1 hk.2) fun _ _=>aA fun _=>q_b fun _=>aD trivial) fun _=>aD ⟨rfl,hi,trivial⟩
theorem Ec (hg:pL t) (hf:rT t) (ho:qq t t.length) (hu:UpI t up) (n0:0<=n) (hn:n.toNat < t.length):(R.iz t up n).sat fun _=>True:=by
 unfold R.iz
 refine aA fun _=>bR n0 hn fun x hx _=>aB (R:=fun _=>True) (aB (rv hg hf n0 hn) fun _ _=>aA fun _=>q_b fun _=>aI (fun _=>aD trivial) fun _=>Bq hu n0 hn fun v hv=>aB (E3 hg hf n0 hn hv.2.1) fun _ _=>aD trivial) fun _ _=>aI (fun _=>aD trivial) fun _=>bI (fun h7=>Bq hu n0 hn fun v hv=>?_) fun _=>bI (fun _=>aB (uB hg hu n0 hn) fun r hr=>aA fun _=>aB (DW hr) fun _ _=>aD trivial) fun _=>aB (dw0:Safe _).ok fun _ _=>aI (fun _=>aB (uB hg hu n0 hn) fun r hr=>aA fun _=>aB (Ds hg ho hr) fun _ _=>aD trivial) fun _=>bI (fun _=>aB (uB hg hu n0 hn) fun r hr=>aA fun _=>aD trivial) fun _=>aD trivial
 have hx:t[n.toNat]?=some x:=hx
 have hne:0 < n:=by
  obtain ⟨y,hy,e⟩:=hg.rt
  apply Classical.byContradiction
  intro h
  have:n.toNat=0:=by omega
  rw [this] at hx
  have:some x=some y:=hx.symm.trans hy
  cases this
  exact absurd (e.symm.trans h7) (by decide)
 have hv0:=hv.2.2 hne
 exact bR hv0 (by omega) fun y _ _=>bI (fun _=>aD trivial) fun _=>aD trivial
theorem zi (hf:rT t):(R.ec t).sat fun r=>Eq (α:=Int) (r.2) (0)->pL t/\qq t t.length:=by
 unfold R.ec
 refine aA fun _=>aB (may_ok hf) fun b hb=>dx (aI (fun e=>?_) fun _=>aD fun e=>absurd (show (2:Int)=0 from e) (by decide))
 obtain ⟨hg,ho⟩:=hb e
 have hl:=hg.len
 refine aB (Ao hg hf ho) fun up hu=>aA fun _=>aB (mI (fun i=>i) t.length (by omega) (by omega) (by omega) fun i h0 h1=>?_).ok fun x _=>?_
 ·exact er (fun hi=>aB (Ec hg hf ho hu h0 (by omega)) fun _ _=>aI (fun _=>aD trivial) fun _=>aD ⟨rfl,hi,trivial⟩) fun _=>aD trivial
 ·cases x with
  |inl _=>exact jf (aD fun _=>⟨hg,ho⟩)
  |inr z=>exact jd (aD fun _=>⟨hg,ho⟩)
end
end Go.Mach

set_option maxRecDepth 100000
namespace Go.Mach
open Res
abbrev EndI:=gl.den
abbrev yz:=eu.den
def EndOk (r:AB×EndI):Prop:=(r.2=(0,([]:List Int))/\uT r.1)\/(r.1=As/\LE.le (α:=Int) (1) (r.2.1)/\LE.le (α:=Int) (r.2.1) (6)/\(Eq (α:=Int) (r.2.1) (2)\/r.2.2=[]))
theorem Cy {C:Cx}{m:Int}{s:RunT}{v:eD}(h:iP C m s) (hm:m<=2^39):(R.eT s v).sat fun _=>True:=by
 unfold R.eT
 obtain ⟨B,g1,_,_⟩:=h.heap hm
 refine aA fun _=>oi (fun _=>q_b fun _=>aA fun _=>aD trivial) fun _=>aB (oX g1) fun r hr=>aA fun _=>aB (R:=fun b=>b=true->r.2=true) (aI (fun e=>aD fun _=>e) fun _=>aD fun e=>by cases e) fun b hb=>aI (fun e=>?_) fun _=>aB (dV (by decide)) fun _ _=>aA fun _=>aD trivial
 have:=hr.nn (hb e)
 exact aB (dV (by omega)) fun _ _=>aA fun _=>aD trivial
def mayL (lim:yz):Bool:=decide ((LE.le (α:=Int) (0) (lim.1)/\LE.le (α:=Int) (lim.1) (4096))/\(LE.le (α:=Int) (1) (lim.2.1)/\LE.le (α:=Int) (lim.2.1) (200))/\LE.le (α:=Int) (0) (lim.2.2)/\LE.le (α:=Int) (lim.2.2) (100000))
theorem BS {lim:yz}:(R.ke lim).sat (·=mayL lim):=by
 unfold R.ke mayL
 have no:∀ {p:Prop} [Decidable p],¬ p->false=decide p:=fun h=>(decide_eq_false h).symm
 refine aA fun _=>lb (fun h1=>lb (fun h2=>lb (fun h3=>lb (fun h4=>lb (fun h5=>aD ?_) fun h5=>aD (no ?_)) fun h4=>aD (no ?_)) fun h3=>aD (no ?_)) fun h2=>aD (no ?_)) fun h1=>aD (no ?_)
 ·show decide (LE.le (α:=Int) (lim.2.2) (100000))=decide _
  congr 1
  exact propext ⟨fun h=>⟨⟨h1,h2⟩,⟨h3,h4⟩,h5,h⟩,fun h=>h.2.2.2⟩
 ·exact fun h=>absurd h.2.2.1 (Int.not_le.2 h5)
 ·exact fun h=>absurd h.2.1.2 (Int.not_le.2 h4)
 ·exact fun h=>absurd h.2.1.1 (Int.not_le.2 h3)
 ·exact fun h=>absurd h.1.2 (Int.not_le.2 h2)
 ·exact fun h=>absurd h.1.1 (Int.not_le.2 h1)
theorem Gp {α:Type}{m:Res α}{P:α->Prop}(h:m.sat P):(∃ a,m.sat (fun x=>x=a)/\P a)\/∀ Q:α->Prop,m.sat Q:=by
 induction m with
 |ok a=>exact .inl ⟨a,rfl,h⟩
 |stuck=>exact h.elim
 |given b k ih =>
  cases b with
  |false=>exact .inr fun Q e=>by cases e
  |true =>
   rcases ih (h rfl) with ⟨a,h1,h2⟩|h1
   ·exact .inl ⟨a,fun _=>h1,h2⟩
   ·exact .inr fun Q _=>h1 Q
theorem AX {C:Cx}(hc:jx C){s:RunT}(h:iP C 402653184000 s) (hd:Eq (α:=Int) (s.2.2.2.2.2.1) (0)):(R.di s).sat (nU C 402753284000 s.2.2.2.2.2.2.1 s):=by
 unfold R.di
 have hD:=hc.D
 have a0:=Aft.refl h
 obtain ⟨x,hx,_⟩:=hc.tr.rt
 have hx0:C.N[(0:Int).toNat]?=some x:=hx
 refine aA fun _=>aB (p8 h (by decide)) fun r1 ⟨g1,_⟩=>aA fun _=>b9 (fun _=>aD ⟨bt,g1.up (by decide)⟩) fun e1=>?_
 have a1:=g1.a0 e1
 refine aB (rS hc a1.run (by decide) (Int.le_refl 0) hx0 bt) fun r2 ⟨v2,g2⟩=>aA fun _=>b9 (fun _=>aD ⟨v2,(Pst.cat a1 g2).up (by decide)⟩) fun e2=>?_
 have a2:=(Pst.cat a1 g2).a0 e2
 have hd2:Eq (α:=Int) (r2.2.2.2.2.2.2.1) (s.2.2.2.2.2.1):=a2.dp
 refine j5 a2.run (Int.le_refl 0) hx0 (ae (bH ((gok hc fuel).list ⟨a2.run,?_,by decide⟩ ⟨_,hx⟩ bt) fun _ hr=>⟨hr.1,(Pst.cat a2 hr.2).up (by decide)⟩))
 have hf:(fuel:Int)=2^70:=by decide
 show 20*(HSub.hSub (α:=Int) (β:=Int) (γ:=Int) (C.D) (r2.2.2.2.2.2.2.1))+2<=(fuel:Int)
 rw [hd2,hd,hf]
 omega
theorem C5 {t:List gJ}{lim:yz}{l:List AnsI}(hg:pL t) (hf:rT t) (ho:qq t t.length) (h1:LE.le (α:=Int) (0) (lim.1)/\LE.le (α:=Int) (lim.1) (4096)) (h2:LE.le (α:=Int) (1) (lim.2.1)/\LE.le (α:=Int) (lim.2.1) (200)) (h3:LE.le (α:=Int) (0) (lim.2.2)/\LE.le (α:=Int) (lim.2.2) (3000)) (hl:l.length<=2^40):(R.iX t lim l).sat EndOk:=by
 unfold R.iX R.lZ
 refine aA fun _=>fJ (aA fun _=>aD (aA fun _=>?_))
 have hc:jx ⟨t,lim.1,lim.2.1,lim.2.2,l⟩:=⟨hg,hf,ho,h3.2,h2.2,hl⟩
 have hr:lX (sK lim.1 0) 4096<=4096:=by rw [gp];omega
 refine aB (AX hc (s:=(t,(lim,(l,(0,((lX (sK lim.1 0) 4096,[]),(0,(0,(As,(0,[])))))))))) ⟨rfl,rfl,rfl,Int.le_refl 0,by show (0:Int)<=(l.length:Int);omega,⟨0,⟨hr,Nat.zero_le _,fun i c hc=>by cases hc⟩,?_⟩,Int.le_refl 0,by show (0:Int)<=lim.2.1;omega,Int.le_refl 0,h3.1,rfl,rfl⟩ rfl) fun r ⟨v,g⟩=>aA fun _=>?_
 ·show ((0:Nat):Int)+134217728*(HSub.hSub (α:=Int) (β:=Int) (γ:=Int) (lim.2.2) (0))<=402653184000
  omega
 ·rcases g with ⟨e5,hh⟩|⟨e5,ha⟩
  ·refine bI (fun _=>aD ?_) fun h=>absurd e5 h
   rcases hh.hs with ⟨e1,e2⟩|⟨k,k0,k1,e1,e2⟩
   ·exact .inl ⟨e1,e2⟩
   ·refine .inr ⟨e2,?_,?_,?_⟩
    ·show LE.le (α:=Int) (1) ((r.2.2.2.2.2.2.2.2.2).1)
     rw [e1]
     show 1<=k
     omega
    ·show LE.le (α:=Int) ((r.2.2.2.2.2.2.2.2.2).1) (6)
     rw [e1]
     exact k1
    ·right
     show (r.2.2.2.2.2.2.2.2.2).2=[]
     rw [e1]
  ·exact bI (fun h=>absurd h e5) fun _=>bI (fun _=>aB (Cy ha.run (by decide)) fun _ _=>aA fun _=>aD (.inr ⟨rfl,show (1:Int)<=2 by decide,show (2:Int)<=6 by decide,.inl rfl⟩)) fun _=>aD (.inr ⟨rfl,show (1:Int)<=1 by decide,show (1:Int)<=6 by decide,.inr rfl⟩)
theorem sat_and {α:Type}{m:Res α}{P Q:α->Prop}(h:m.sat P) (g:m.sat Q):m.sat fun x=>P x/\Q x:=by
 induction m with
 |ok a=>exact ⟨h,g⟩
 |stuck=>exact h.elim
 |given b k ih=>exact fun e=>ih (h e) (g e)
def Goes (q:Int×Int) (lim:yz):Prop:=q.2=0/\mayL lim=true
theorem Bx {q:Int×Int}{lim:yz}:(br (!(q.2 == 0)) (Res.ok true) ((R.ke lim).bind fun r=>Res.ok (!r))).sat fun b=>(b=true->¬ Goes q lim)/\(b=false->Goes q lim):=b9 (fun h=>aD ⟨fun _ g=>h g.1,fun e=>by cases e⟩) fun h=>aY BS (aD ⟨(fun e g=>by rw [g.2] at e;cases e),fun e=>⟨h,by cases hm:mayL lim<;>simp_all⟩⟩)
theorem Gv {t:List gJ}{lim:yz}{l:List AnsI}(hf:rT t) (h3:LE.le (α:=Int) (lim.2.2) (3000)) (hl:l.length<=2^40){q:Int×Int}(hq:(R.ec t).sat fun x=>x=q):(R.ik t lim l).sat fun r=>(Goes q lim->EndOk r)/\(¬ Goes q lim->r=(As,(0,[]))):=by
 unfold R.ik
 refine aA fun _=>aB (sat_and hq (zi hf)) fun x ⟨hx,hgo⟩=>aA fun _=>?_
 subst hx
 refine aB Bx fun b ⟨b1,b2⟩=>aI (fun e=>aD ⟨fun h=>absurd h (b1 e),fun _=>rfl⟩) fun e=>?_
 obtain ⟨e0,em⟩:=b2 e
 obtain ⟨hg,ho⟩:=hgo e0
 obtain ⟨m1,m2,m3,m4⟩:=of_decide_eq_true em
 exact aB (C5 hg hf ho m1 m2 ⟨m3,h3⟩ hl) fun r hr=>aA fun _=>aD ⟨fun _=>hr,fun h=>absurd ⟨e0,em⟩ h⟩
end Go.Mach

