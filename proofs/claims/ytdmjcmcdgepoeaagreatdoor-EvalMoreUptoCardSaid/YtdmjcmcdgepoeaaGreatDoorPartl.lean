/-
  Proved here: the law renlaw12.EvalMore returns true for every input of the stated bulk and leaves its arguments as they were; no further condition.
  By an AI agent; no person has read it.
-/
import Derived.Test.YtdmjcmcdgepoeaaGreatDoorPartk
set_option linter.all false
set_option linter.deprecated false
set_option maxRecDepth 100000
namespace Go.Mach
open Res
abbrev oU (s:RunT) (H:qS):RunT:=(s.1,(s.2.1,(s.2.2.1,(s.2.2.2.1,(H,s.2.2.2.2.2)))))
theorem fit10 {k:Int}(h:oO 10 k=true) (h1:k≠11) (h2:¬ (k=5\/k=6)):oO 3 k=true:=by
 have h3:k≠5:=fun e=>h2 (.inl e);have h4:k≠6:=fun e=>h2 (.inr e);simpa [oO,h1,h3,h4] using h
theorem fit9 {k:Int}(h:oO 9 k=true) (h1:k≠11):oO 3 k=true:=by simpa [oO,h1] using h
theorem Du {kd how:Int}{v:eY}:(R.fF kd v how).sat fun r=>r.2.2=v/\(how≠0->Eq (α:=Int) (r.1) (how))/\(how=0->Eq (α:=Int) (r.1) (kd)):=by
 unfold R.fF;exact aA fun _=>cE (fun h=>aD ⟨rfl,fun _=>rfl,fun e=>absurd e h⟩) fun h=>aD ⟨rfl,fun e=>absurd h e,fun _=>rfl⟩
theorem take1 {l:List Int}{i:Nat}{q:Int}(h:l[i]?=some q) (h0:i=0):(List.take (min (l.length:Int) 1).toNat [(3:Int)]).getD 0 0=3:=by
 have:=(List.getElem?_eq_some_iff.1 h).1;rw [show (min (l.length:Int) 1).toNat=1 by omega];rfl
section
variable {C:Cx}{n:Nat}{G:au}{m k:Int}{s:RunT}{x:gN}{e:mU}{l:List (List UInt8)}{a:List UInt8}{v:eY}
theorem ye {kd:Int}(hk:kd≠5){b:Int}{r:(eY×Int)×RunT}(h:dN C m b s r):(R.fF kd r.1.1 r.1.2).sat fun o=>nZ C m b s (o,r.2):=bH Du fun o ⟨h1,h2,h3⟩=>by
 refine ⟨?_,?_⟩
 ·show cJ o.2.2;rw [h1];exact h.1
 ·show Pst C m b s o.1 r.2;by_cases e:r.1.2=0
  ·rw [show o.1=kd from h3 e]
   exact .inr ⟨hk,h.2.a0 e⟩
  ·rw [show o.1=r.1.2 from h2 e]
   exact h.2
theorem BD (hc:jz C) (hG:GOk C n G) (p:Pre C (n+1) 3 100300000 m s) (k0:0<=k) (hx:C.N[k.toNat]?=some x) (hk:x.1=4) (he:cJ e.2.1):(R.eval_run_block G s k e).sat (nZ C (m+100300000) s.2.2.2.2.2.2.1 s):=by
 unfold R.eval_run_block;have pm:=p.hm;have a0:=Aft.refl p.run;have hn:s.1=C.N:=p.run.nd
 have hd:(R.fI s.1 k).sat fun _=>True:=by
  rw [hn];exact bH (yL hc.tr hc.fw k0 (List.getElem?_eq_some_iff.1 hx).1) fun _ _=>trivial
 refine aA fun _=>aB (R:=yX C (m+100300000) s.2.2.2.2.2.2.1 s fun r:RunT×mU=>Aft C (m+100300000) s.2.2.2.2.2.2.1 s r.1/\cJ r.2.2.1) ?_ fun r hr=>Cr hr fun r ⟨a1,v1⟩=>j7 a1.run k0 hx (af (bH (hG.list (p.go a1 (by decide) (by omega)) ⟨_,hx⟩ v1) fun _ hr=>⟨hr.1,Pst.cat a1 hr.2⟩));refine aB hd fun _ _=>aA fun _=>fZ (fun _=>aB (ph p.run (by omega)) fun r1 ⟨g1,_⟩=>aA fun _=>cE (fun _=>aD ⟨bz,g1.up (by omega)⟩) fun e1=>?_) fun _=>aD ⟨a0.up (by omega),he⟩;have a1:=g1.a0 e1;exact aB (rM hc a1.run (by omega) k0 hx he) fun r2 ⟨v2,g2⟩=>aA fun _=>cE (fun _=>aD ⟨v2,(Pst.cat a1 g2).up (by omega)⟩) fun e2=>aD ⟨((Pst.cat a1 g2).a0 e2).up (by omega),he⟩
theorem CB (hc:jz C) (hG:GOk C n G) (p:Pre C (n+1) 2 100300000 m s) (hn:Nd C.N 10 k) (he:cJ e.2.1):(R.eval_run_first G s k e).sat (FPst C (m+100000) s.2.2.2.2.2.2.1 s):=by
 unfold R.eval_run_first;have pm:=p.hm;have a0:=Aft.refl p.run;have hn':=hn;obtain ⟨k0,x,hx,hf⟩:=hn';have hl:=hc.fw.one _ x hx;have hg:=hc.tr.nod _ x hx;refine aA fun _=>j7 p.run k0 hx (bL (fun _=>aD ⟨he,bz,(Pst.ok a0).up (by omega)⟩) fun h11=>nx (fun h56=>aB (ph p.run (by omega)) fun r1 ⟨g1,_⟩=>aA fun _=>cE (fun _=>aD ⟨he,bz,g1.up (by omega)⟩) fun e1=>?_) fun h56=>?_)
 ·have a1:=g1.a0 e1;refine aB (iC (Q:=fun H:qS=>Aft C (m+20000) s.2.2.2.2.2.2.1 s (oU r1.2 H)) (fun y=>y.1) (x.2.2.2.2.2).length (by omega) (fun w=>Aft C (m+w.1) s.2.2.2.2.2.2.1 s (oU r1.2 w.2)) (by simp) (by simp) (by show Aft C (m+0) _ _ (oU r1.2 r1.2.2.2.2.2.1);rw [Int.add_zero];exact a1) fun w w0 w1 wI=>?_) fun H hH=>?_
  ·obtain ⟨j,H⟩:=w;have w0:0<=j:=w0;have w1:j<=((x.2.2.2.2.2).length:Int):=w1;have wI:Aft C (m+j) s.2.2.2.2.2.2.1 s (oU r1.2 H):=wI;refine fZ (fun hj=>?_) fun _=>aD (wI.up (by omega));have hj:j < ((x.2.2.2.2.2).length:Int):=hj;refine bu w0 (by show _ < (x.2.2.2.2.2).length;omega) fun q hq _=>?_;obtain ⟨q0,z,hz,_⟩:=hg.kid _ q hq;refine j7 a1.run q0 hz (aB (qA wI.run (by omega) bz) fun r hr=>aA fun _=>aD ⟨rfl,hj,?_⟩);show Aft C (m+w6 (j+1)) _ _ _;rw [wrap64 (n:=j+1) (by omega),<- Int.add_assoc];exact wI.cat hr
  ·exact aB (hG.statement (l:=[]) (p.go hH (by decide) (by omega)) hn.any he hH.run.d0) fun r ⟨v,g⟩=>aA fun _=>aD ⟨he,v,(Pst.lP hH g).up (by omega)⟩
 ·exact aB (hG.iW (p.go a0 (by decide) (by omega)) ⟨k0,x,hx,fit10 hf h11 h56⟩ he) fun r ⟨v,g⟩=>aA fun _=>aB (ye (kd:=0) (by decide) (r:=r) ⟨v,(Pst.lP a0 g).up (m':=m+100000) (by omega)⟩) fun o ho=>aA fun _=>aD ⟨he,ho.1,ho.2⟩
theorem DJ (hc:jz C) (hG:GOk C n G) (p:Pre C (n+1) 3 100300000 m s) (hx:Nk C.N x) (hk:x.1=10) (he:cJ e.2.1):(R.eval_run_loop G s x.2.2.2.2.2 e l).sat (nZ C (m+100300000) s.2.2.2.2.2.2.1 s):=by
 unfold R.eval_run_loop;obtain ⟨i,hi⟩:=hx;have hg:=hc.tr.nod _ x hi;have pm:=p.hm;have hF:=hc.F;have a0:=Aft.refl p.run;obtain ⟨k0,hk0,n0⟩:=jR hg 0 10 (by rw [hk];simp [shp]) (by rw [hk];rfl);obtain ⟨k1,hk1,n1⟩:=jR hg 1 9 (by rw [hk];simp [shp]) (by rw [hk];rfl);obtain ⟨k2,hk2,n2⟩:=jR hg 2 9 (by rw [hk];simp [shp]) (by rw [hk];rfl);obtain ⟨k3,hk3,n3⟩:=jR hg 3 2 (by rw [hk];simp [shp]) (by rw [hk];rfl);have n0':=n0;have n1':=n1;have n2':=n2;obtain ⟨k00,y0,hy0,_⟩:=n0';obtain ⟨k10,y1,hy1,f1⟩:=n1';obtain ⟨k20,y2,hy2,f2⟩:=n2';have turn:∀ {s1:RunT}{e1:mU}{c:Bool},Aft C (m+100000) s.2.2.2.2.2.2.1 s s1->cJ e1.2.1->(br c ((R.dM s1 e1).bind fun r=>given (dM.g.o r) (br (!(r.1.2 == 0)) (Res.ok (.inr (r.2,(r.1.2,(([]:List UInt8),(0,((0,0),((false,([]:List Int)),(([]:List Int),0)))))))):Res ((RunT×mU) ⊕ (RunT×sN))) (Res.ok (.inl (r.2,r.1.1))))) (Res.ok (.inl (s1,e1)))).sat (yX C (m+100000) s.2.2.2.2.2.2.1 s fun r:RunT×mU=>Aft C (m+100000) s.2.2.2.2.2.2.1 s r.1/\LE.le (α:=Int) (s1.2.2.2.2.2.2.1) (r.1.2.2.2.2.2.2.1)/\cJ r.2.2.1):=fun {s1 e1 c} a1 v1=>aH (fun _=>aB (IC a1.run (by omega)) fun r ⟨t1,t2,_⟩=>aA fun _=>cE (fun _=>aD ⟨bz,Pst.cat a1 t2⟩) fun e2=>aD ⟨(Pst.cat a1 t2).a0 e2,(t2.a0 e2).bg,by show cJ r.1.1.2.1;rw [t1];exact v1⟩) fun _=>aD ⟨a1,Int.le_refl _,v1⟩
 refine aA fun _=>iQ (by decide) hk0 (aB (hG.first (p.go a0 (by decide) (by omega)) n0 he) fun r1 ⟨v1,v2,g1⟩=>aA fun _=>cE (fun _=>aD ⟨v2,g1.up (by omega)⟩) fun e1=>?_)
 have a1:=g1.a0 e1;refine iQ (by decide) hk0 (j7 a1.run k00 hy0 (aB (turn a1 v1) fun r hr=>Cr (m:=m+100300000) (P:=fun r:RunT×mU=>Aft C (m+100000) s.2.2.2.2.2.2.1 s r.1/\cJ r.2.2.1) ?_ fun r ⟨a2,v3⟩=>?_))
 ·cases r with
  |inl r=>exact ⟨hr.1,hr.2.2⟩
  |inr z=>exact ⟨hr.1,hr.2.up (by omega)⟩
 refine aB (ko (Q:=AO C (m+100300000) s.2.2.2.2.2.2.1 s) (fun y=>((HSub.hSub (α:=Int) (β:=Int) (γ:=Int) (C.F) (y.1.2.2.2.2.2.2.1))).toNat) (by have:=a2.run.b0;show ((HSub.hSub (α:=Int) (β:=Int) (γ:=Int) (C.F) (r.1.2.2.2.2.2.2.1))).toNat<=_;omega) (fun y=>Aft C (m+100000) s.2.2.2.2.2.2.1 s y.1/\cJ y.2.2.1) ⟨a2,v3⟩ fun y ⟨yI,yv⟩=>?_) fun r hr=>aD hr;obtain ⟨s1,e1⟩:=y;have yI:Aft C (m+100000) s.2.2.2.2.2.2.1 s s1:=yI;have yv:cJ e1.2.1:=yv;refine aB (R:=yX C (m+100000) s.2.2.2.2.2.2.1 s fun s2:RunT=>Aft C (m+100000) s.2.2.2.2.2.2.1 s s2/\LE.le (α:=Int) (s1.2.2.2.2.2.2.1) (s2.2.2.2.2.2.2.1)) (iQ (by decide) hk1 (j7 yI.run k10 hy1 (ob (fun h11=>iQ (by decide) hk1 (aB (hG.asked (p.go yI (by decide) (by omega)) ⟨k10,y1,hy1,fit9 f1 h11⟩ yv) fun r1 ⟨v1,g1⟩=>aA fun _=>aB (R:=fun b=>b=false->Eq (α:=Int) (r1.1.2.1) (0)) (cE (fun _=>aD fun e=>by cases e) fun e=>aD fun _=>e) fun b hb=>aH (fun _=>aD ⟨v1,Pst.lP yI g1⟩) fun eb=>aD ⟨(Pst.lP yI g1).a0 (hb eb),?_⟩)) fun _=>aD ⟨yI,Int.le_refl _⟩))) fun r hr=>sum_d hr (fun s2 ⟨a3,b3⟩=>?_) fun z hz=>⟨hz.1,hz.2.up (by omega)⟩
 ·have h:LE.le (α:=Int) ((HAdd.hAdd (α:=Int) (β:=Int) (γ:=Int) (s1.2.2.2.2.2.2.1) (1))) (r1.2.2.2.2.2.2.2.1):=(g1.a0 (hb eb)).bg;show LE.le (α:=Int) (s1.2.2.2.2.2.2.1) (r1.2.2.2.2.2.2.2.1);omega
 refine iQ (by decide) hk3 (aB (hG.statement (l:=[]) (p.go a3 (by decide) (by omega)) n3.any yv a3.run.d0) fun r2 ⟨v2,g2⟩=>aA fun _=>aB (Cj v2) fun r3 ⟨v3,t1,t2⟩=>aA fun _=>eD (aH (fun e3=>?_) fun e3=>aD ⟨v3,?_⟩))
 ·have g3:=g2.aft (t1 e3);have a4:=(Pst.lP a3 g2).aft (t1 e3);have b4:LE.le (α:=Int) ((HAdd.hAdd (α:=Int) (β:=Int) (γ:=Int) (s2.2.2.2.2.2.2.1) (1))) (r2.2.2.2.2.2.2.2.1):=g3.bg
  have fin:∀ {s5:RunT},Aft C (m+100000) s.2.2.2.2.2.2.1 s s5->LE.le (α:=Int) (r2.2.2.2.2.2.2.2.1) (s5.2.2.2.2.2.2.1)->((HSub.hSub (α:=Int) (β:=Int) (γ:=Int) (C.F) (s5.2.2.2.2.2.2.1))).toNat < ((HSub.hSub (α:=Int) (β:=Int) (γ:=Int) (C.F) (s1.2.2.2.2.2.2.1))).toNat:=fun {s5} a5 h=>by
   have h1:=a5.run.bg;omega
  refine aB (turn a4 yv) fun r hr=>sum_d hr (fun r ⟨a5,b5,v5⟩=>?_) fun z hz=>⟨hz.1,hz.2.up (by omega)⟩;obtain ⟨s5,e5⟩:=r;have a5:Aft C (m+100000) s.2.2.2.2.2.2.1 s s5:=a5;have b5:LE.le (α:=Int) (r2.2.2.2.2.2.2.2.1) (s5.2.2.2.2.2.2.1):=b5;have v5:cJ e5.2.1:=v5;refine iQ (by decide) hk2 (j7 a5.run k20 hy2 (bL (fun _=>aD ⟨fin a5 b5,a5,v5⟩) fun h11=>iQ (by decide) hk2 (aB (hG.iW (p.go a5 (by decide) (by omega)) ⟨k20,y2,hy2,fit9 f2 h11⟩ v5) fun r6 ⟨v6,g6⟩=>aA fun _=>cE (fun _=>aD ⟨v6,(Pst.lP a5 g6).up (by omega)⟩) fun e6=>aD ⟨fin ((Pst.lP a5 g6).a0 e6) ?_,(Pst.lP a5 g6).a0 e6,v5⟩)));have h6:=(g6.a0 e6).bg;show LE.le (α:=Int) (r2.2.2.2.2.2.2.2.1) (r6.2.2.2.2.2.2.2.1);omega
 ·rcases t2 e3 with e4|⟨e4,e5⟩
  ·show Pst C (m+100300000) s.2.2.2.2.2.2.1 s r3.2.1 r2.2
   rw [show r3.2.1=r2.1.1 from e4]
   exact (Pst.lP a3 g2).up (by omega)
  ·exact ((Pst.lP a3 g2).how e4 e5).up (by omega)
theorem Ef (hc:jz C) (hG:GOk C n G) (p:Pre C (n+1) 4 100300000 m s) (hn:Nd C.N 1 k) (he:cJ e.2.1) (hl:LE.le (α:=Int) ((HAdd.hAdd (α:=Int) (β:=Int) (γ:=Int) ((l.length:Int)) (1))) (s.2.2.2.2.2.1)):(R.eval_run_act G s k e l).sat (nZ C (m+100300000) s.2.2.2.2.2.2.1 s):=by
 unfold R.eval_run_act;obtain ⟨k0,x,hx,_⟩:=hn;have hg:=hc.tr.nod _ x hx;have pm:=p.hm;have a0:=Aft.refl p.run;have hD:=hc.D;have hdp:=p.run.dp;have ex:∀ {q:Int},Nd C.N 3 q->(G.eval_run_expression s q e).sat (dN C (m+100300000) s.2.2.2.2.2.2.1 s):=fun hn=>bH (hG.iW (p.go a0 (by decide) (by omega)) hn he) fun _ hr=>⟨hr.1,(Pst.lP a0 hr.2).up (by omega)⟩;have up:∀ {F:Res (sN×RunT)}{B:sN×RunT->Bool},F.sat (nZ C m s.2.2.2.2.2.2.1 s)->(F.bind fun r=>given (B r) (Res.ok r)).sat (nZ C (m+100300000) s.2.2.2.2.2.2.1 s):=fun h=>af (bH h fun _ hr=>⟨hr.1,hr.2.up (by omega)⟩);refine aA fun _=>j7 p.run k0 hx (bL (fun h3=>?_) fun _=>bL (fun h4=>?_) fun _=>nx (fun h56=>?_) fun _=>bL (fun h8=>?_) fun _=>bL (fun h9=>?_) fun _=>bL (fun h10=>?_) fun _=>bL (fun _=>aD ⟨bz,.inr ⟨show (1:Int)≠5 by decide,a0.up (by omega)⟩⟩) fun _=>bL (fun _=>aD ⟨bz,.inr ⟨show (2:Int)≠5 by decide,a0.up (by omega)⟩⟩) fun _=>bL (fun h14=>?_) fun _=>bL (fun h15=>?_) fun _=>bL (fun h16=>?_) fun _=>bL (fun h18=>?_) fun _=>aD ⟨bz,(Pst.ok a0).up (by omega)⟩)
 ·obtain ⟨q,hq,nq⟩:=jR hg 0 3 (by rw [h3];simp [shp]) (by rw [h3];rfl);exact iQ (by decide) hq (aB (ex nq) fun r ⟨v,g⟩=>aA fun _=>cE (fun _=>aD ⟨v,g⟩) fun e0=>aD ⟨bz,.ok (g.a0 e0)⟩)
 ·exact af (hG.block (p.go a0 (by decide) pm) k0 hx h4 he)
 ·exact up (hG.decls (p.go a0 (by decide) (by omega)) ⟨_,hx⟩ h56 he)
 ·exact up (hG.choice (p.go a0 (by decide) (by omega)) ⟨_,hx⟩ h8 he)
 ·exact up (hG.Ft (p.go a0 (by decide) (by omega)) ⟨_,hx⟩ h9 he)
 ·exact af (hG.loop (p.go a0 (by decide) pm) ⟨_,hx⟩ h10 he)
 ·refine bL (fun _=>aD ⟨bz,.inr ⟨show (3:Int)≠5 by decide,a0.up (by omega)⟩⟩) fun h0=>?_;have h0:((x.2.2.2.2.2).length:Int)≠0:=h0;refine bu (by decide) (by show 0 < (x.2.2.2.2.2).length;omega) fun q hq _=>?_;have hq:x.2.2.2.2.2[0]?=some q:=hq
  have hs:srt (shp x.1 (x.2.2.2.2.2).length) 0=3:=by
   rw [h14];exact take1 hq rfl
  exact aB (ex (hg.nd hq 3 hs)) fun r hr=>aA fun _=>aB (ye (by decide) hr) fun o ho=>aA fun _=>aD ho
 ·obtain ⟨q,hq,nq⟩:=jR hg 0 3 (by rw [h15];simp [shp]) (by rw [h15];rfl);exact iQ (by decide) hq (aB (ex nq) fun r hr=>aA fun _=>aB (ye (by decide) hr) fun o ho=>aA fun _=>aD ho)
 ·exact af (hG.try_ (p.go a0 (by decide) pm) ⟨_,hx⟩ h16 he)
 ·obtain ⟨q,hq,nq⟩:=jR hg 0 2 (by rw [h18];simp [shp]) (by rw [h18];rfl);refine iQ (by decide) hq (pX (aA fun _=>bI (decide_eq_true ?_) (aB (hG.statement (l:=l++[x.2.1]) (p.go a0 (by decide) (by omega)) nq.any he ?_) fun r ⟨v,g⟩=>aA fun _=>aB (R:=fun b=>b=true->Eq (α:=Int) (r.1.1) (1)) (bL (fun e=>aD fun _=>e) fun _=>aD fun e=>by cases e) fun b hb=>aH (fun eb=>aD ⟨bz,?_⟩) fun _=>aD ⟨v,(Pst.lP a0 g).up (by omega)⟩)))
  ·show (l.length+1)*16<=2^47;omega
  ·show LE.le (α:=Int) (((l++[x.2.1]).length:Int)) (s.2.2.2.2.2.1);rw [List.length_append];simp;exact hl
  ·exact ((Pst.lP a0 g).how (jg (hb eb) (by decide)) (show (0:Int)≠5 by decide)).up (by omega)
end
end Go.Mach

set_option maxRecDepth 100000
namespace Go.Mach
open Res
section
variable {C:Cx}{n:Nat}{G:au}{m k:Int}{s:RunT}{x:gN}{e:mU}{o:List UInt8}{v:eY}
theorem u3 (hc:jz C) (hG:GOk C n G) (p:Pre C (n+1) 1 0 m s) (hn:Nd C.N 3 k) (he:cJ e.2.1):(R.eval_run_expression G s k e).sat (dN C m (HAdd.hAdd (α:=Int) (β:=Int) (γ:=Int) (s.2.2.2.2.2.2.1) (1)) s):=by
 unfold R.eval_run_expression;refine aA fun _=>ta hc p (fun s1 h1=>aA fun _=>jh rfl (aD ⟨bz,.inl ⟨rfl,h1⟩⟩)) fun s1 e2 e3 e4 h=>aA fun _=>ik rfl ?_;have p1:Pre C n 12 100300000 (m-134217728) s1:=p.deep h e3 (by decide) (by decide) (by decide);exact aB (hG.value p1 hn he) fun r ⟨v,g⟩=>aA fun _=>aD ⟨v,yQ p.run e2 e3 e4 hc.D g (by omega)⟩
theorem dN.lP {m1 m2 b1:Int}{s0:RunT}{r:(eY×Int)×RunT}(a:Aft C m1 b1 s0 s) (g:dN C m2 (HAdd.hAdd (α:=Int) (β:=Int) (γ:=Int) (s.2.2.2.2.2.2.1) (1)) s r):dN C m2 b1 s0 r:=⟨g.1,Pst.lP a g.2⟩
theorem A9 (hc:jz C) (hG:GOk C n G) (p:Pre C (n+1) 12 100300000 m s) (hn:Nd C.N 3 k) (he:cJ e.2.1):(R.eval_run_value G s k e).sat (dN C (m+100300000) s.2.2.2.2.2.2.1 s):=by
 unfold R.eval_run_value;obtain ⟨k0,x,hx,hf⟩:=hn;have hf:=fit3 hf;have pm:=p.hm;have a0:=Aft.refl p.run;have rt:∀ {v:eY},cJ v->(Res.ok ((v,(0:Int)),s):Res ((eY×Int)×RunT)).sat (dN C (m+100300000) s.2.2.2.2.2.2.1 s):=fun hv=>aD ⟨hv,(Pst.ok a0).up (by omega)⟩;have up:∀ {F:Res ((eY×Int)×RunT)}{B:(eY×Int)×RunT->Bool}{m':Int},m'<=m+100300000->F.sat (dN C m' s.2.2.2.2.2.2.1 s)->(F.bind fun r=>given (B r) (Res.ok r)).sat (dN C (m+100300000) s.2.2.2.2.2.2.1 s):=fun hm h=>af (bH h fun _ hr=>hr.up hm);refine aA fun _=>j7 p.run k0 hx (bL (fun _=>aB nY fun r hr=>aA fun _=>rt (vk hr)) fun n30=>bL (fun _=>aB qn fun r hr=>aA fun _=>rt (vk hr)) fun n31=>bL (fun _=>aB my fun r hr=>aA fun _=>rt hr.1) fun n32=>bL (fun _=>up (by omega) (CZ p.run (by omega))) fun n33=>nx (fun _=>aB lE fun r hr=>aA fun _=>rt (vk hr)) fun n34=>bL (fun _=>rt (.of (show (1:Int)≠5 by decide))) fun n36=>bL (fun _=>eD (aH (fun _=>rt he) fun _=>up (by omega) (gU p.run))) fun n37=>bL (fun h38=>af (hG.array (p.go a0 (by decide) pm) ⟨_,hx⟩ h38 he)) fun n38=>bL (fun h39=>af (hG.object (p.go a0 (by decide) pm) ⟨_,hx⟩ h39 he)) fun n39=>nx (fun h=>up (by omega) (uu p.run (by omega) ⟨k0,x,hx,.inr h⟩ he)) fun n41=>af (hG.operation (p.go a0 (by decide) pm) k0 hx ⟨(by omega:LE.le (α:=Int) (43) (x.1)),hf.2.1⟩ he))
theorem Et (hc:jz C){i:Nat}(hx:C.N[i]?=some x) (hk:x.1=50\/x.1=51):∀ q∈List.drop 1 x.2.2.2.2.2,Nd C.N 3 q:=fun q hq=>by
 obtain ⟨j,hj⟩:=List.getElem?_of_mem (List.mem_of_mem_drop hq);refine (hc.tr.nod _ x hx).nd hj 3 ?_
 rcases hk with e|e<;>rw [e]<;>(cases j with
  |zero=>rfl
  |succ j=>rfl)
theorem Bh (hc:jz C) (hG:GOk C n G) (p:Pre C (n+1) 2 100300000 m s) (hx:Nk C.N x) (hk:x.1=38) (he:cJ e.2.1):(R.eval_run_array G s x.2.2.2.2.2 e).sat (dN C (m+100300000) s.2.2.2.2.2.2.1 s):=by
 unfold R.eval_run_array;obtain ⟨i,hi⟩:=hx;have hl:=hc.fw.one _ x hi;have hg:=hc.tr.nod _ x hi;have pm:=p.hm;refine aA fun _=>aB (o7 p.run (by omega) (.mk' 2 rfl (by decide)) rfl rfl bz) fun r1 ⟨v1,g1⟩=>aA fun _=>cE (fun _=>aD ⟨v1,g1.up (by omega)⟩) fun e1=>?_;have a1:=g1.a0 e1;refine aB (iC (Q:=pe C (m+100300000) s.2.2.2.2.2.2.1 s fun s'=>Aft C (m+100300000) s.2.2.2.2.2.2.1 s s') (fun y=>y.1) (x.2.2.2.2.2).length (by omega) (fun y=>Aft C (m+y.1) s.2.2.2.2.2.2.1 s y.2) (by simp) (by simp) (by show Aft C (m+0) _ _ r1.2;rw [Int.add_zero];exact a1) fun y y0 y1 yI=>?_) fun r hr=>oE hr fun s' hs'=>aD ⟨v1,.ok hs'⟩;obtain ⟨j,s1⟩:=y;have y0:0<=j:=y0;have y1:j<=((x.2.2.2.2.2).length:Int):=y1;have yI:Aft C (m+j) s.2.2.2.2.2.2.1 s s1:=yI;refine fZ (fun hj=>?_) fun _=>aD (yI.up (by omega));have hj:j < ((x.2.2.2.2.2).length:Int):=hj
 have hs:srt (shp x.1 (x.2.2.2.2.2).length) j.toNat=3:=by
  rw [hk];rfl
 refine bu y0 (by show _ < (x.2.2.2.2.2).length;omega) fun q hq _=>aB (hG.iW (p.go yI (by decide) (by omega)) (hg.nd hq 3 hs) he) fun r ⟨v,g⟩=>aA fun _=>cE (fun _=>aD ⟨v,(Pst.lP yI g).up (by omega)⟩) fun e2=>?_;have a2:=(Pst.lP yI g).a0 e2;refine q_b fun _=>aA fun _=>aB (tg a2.run (by omega) v) fun r3 a3=>aA fun _=>aD ⟨rfl,hj,?_⟩;show Aft C (m+w6 (j+1)) _ _ _;rw [wrap64 (n:=j+1) (by omega),<- Int.add_assoc];exact a2.cat a3
theorem AM (hc:jz C) (hG:GOk C n G) (p:Pre C (n+1) 2 100300000 m s) (hx:Nk C.N x) (hk:x.1=39) (he:cJ e.2.1):(R.eval_run_object G s x.2.2.2.2.2 e).sat (dN C (m+100300000) s.2.2.2.2.2.2.1 s):=by
 unfold R.eval_run_object;obtain ⟨i,hi⟩:=hx;have hl:=hc.fw.one _ x hi;have hg:=hc.tr.nod _ x hi;have pm:=p.hm;refine aA fun _=>aB (o7 p.run (by omega) (.mk' 1 rfl (by decide)) rfl rfl bz) fun r1 ⟨v1,g1⟩=>aA fun _=>cE (fun _=>aD ⟨v1,g1.up (by omega)⟩) fun e1=>?_;have a1:=g1.a0 e1;refine aB (iC (Q:=pe C (m+100300000) s.2.2.2.2.2.2.1 s fun s'=>Aft C (m+100300000) s.2.2.2.2.2.2.1 s s') (fun y=>y.1) (x.2.2.2.2.2).length (by omega) (fun y=>Aft C (m+y.1) s.2.2.2.2.2.2.1 s y.2) (by simp) (by simp) (by show Aft C (m+0) _ _ r1.2;rw [Int.add_zero];exact a1) fun y y0 y1 yI=>?_) fun r hr=>oE hr fun s' hs'=>aD ⟨v1,.ok hs'⟩;obtain ⟨j,s1⟩:=y;have y0:0<=j:=y0;have y1:j<=((x.2.2.2.2.2).length:Int):=y1;have yI:Aft C (m+j) s.2.2.2.2.2.2.1 s s1:=yI;refine fZ (fun hj=>?_) fun _=>aD (yI.up (by omega));have hj:j < ((x.2.2.2.2.2).length:Int):=hj
 have hs:srt (shp x.1 (x.2.2.2.2.2).length) j.toNat=7:=by
  rw [hk];rfl
 refine bu y0 (by show _ < (x.2.2.2.2.2).length;omega) fun d hd _=>?_;obtain ⟨d0,z,hz,hf⟩:=hg.nd hd 7 hs;have hz40:z.1=40:=eq_of_beq hf;have hgz:=hc.tr.nod _ z hz;obtain ⟨q,hq,nq⟩:=jR hgz 0 3 (by rw [hz40];simp [shp]) (by rw [hz40];rfl);refine j7 yI.run d0 hz (iQ (by decide) hq (aB (hG.iW (p.go yI (by decide) (by omega)) nq he) fun r ⟨v,g⟩=>aA fun _=>cE (fun _=>aD ⟨v,(Pst.lP yI g).up (by omega)⟩) fun e2=>?_));have a2:=(Pst.lP yI g).a0 e2;refine aB (dw (by decide)) fun _ _=>aA fun _=>q_b fun _=>aH (fun _=>aB (gU a2.run) fun r2 hr2=>aA fun _=>aD ((hr2.cat a2).up (by omega))) fun _=>aB (tg a2.run (by omega) v) fun r3 a3=>aA fun _=>aD ⟨rfl,hj,?_⟩;show Aft C (m+w6 (j+1)) _ _ _;rw [wrap64 (n:=j+1) (by omega),<- Int.add_assoc];exact a2.cat a3
theorem wC (hc:jz C) (hG:GOk C n G) (p:Pre C (n+1) 11 100300000 m s) (k0:0<=k) (hx:C.N[k.toNat]?=some x) (hk:43<=x.1/\x.1<=53) (he:cJ e.2.1):(R.eval_run_operation G s k x e).sat (dN C (m+100300000) s.2.2.2.2.2.2.1 s):=by
 unfold R.eval_run_operation;have hk:LE.le (α:=Int) (43) (x.1)/\LE.le (α:=Int) (x.1) (53):=hk;have hl:=hc.fw.one _ x hx;have hg:=hc.tr.nod _ x hx;have pm:=p.hm;have a0:=Aft.refl p.run;have up:∀ {F:Res ((eY×Int)×RunT)}{B:(eY×Int)×RunT->Bool},F.sat (dN C m s.2.2.2.2.2.2.1 s)->(F.bind fun r=>given (B r) (Res.ok r)).sat (dN C (m+100300000) s.2.2.2.2.2.2.1 s):=fun h=>af (bH h fun _ hr=>hr.up (by omega));have ex:∀ {q:Int}{s1:RunT},Aft C m s.2.2.2.2.2.2.1 s s1->Nd C.N 3 q->(G.eval_run_expression s1 q e).sat (dN C m s.2.2.2.2.2.2.1 s):=fun a hn=>bH (hG.iW (p.go a (by decide) (by omega)) hn he) fun _ hr=>hr.lP a;refine aA fun _=>bL (fun h=>?_) fun _=>nx (fun h=>af (hG.step (p.go a0 (by decide) pm) ⟨_,hx⟩ h he)) fun _=>bL (fun h=>up (hG.binary (p.go a0 (by decide) (by omega)) ⟨_,hx⟩ h he)) fun _=>bL (fun h=>up (hG.logic (p.go a0 (by decide) (by omega)) ⟨_,hx⟩ h he)) fun _=>bL (fun h=>?_) fun _=>bL (fun h=>af (hG.assign (p.go a0 (by decide) pm) ⟨_,hx⟩ h he)) fun _=>bL (fun h=>af (hG.callee (p.go a0 (by decide) pm) ⟨_,hx⟩ h he)) fun _=>bL (fun h=>?_) fun _=>up (hG.property (p.go a0 (by decide) (by omega)) ⟨k0,x,hx,fit_4 (by omega)⟩ he)
 ·obtain ⟨q,hq,nq⟩:=jR hg 0 3 (by rw [h];simp [shp]) (by rw [h];rfl);exact iQ (by decide) hq (up (hG.unary (p.go a0 (by decide) (by omega)) nq he))
 ·obtain ⟨q0,hq0,nq0⟩:=jR hg 0 3 (by rw [h];simp [shp]) (by rw [h];rfl);obtain ⟨q1,hq1,nq1⟩:=jR hg 1 3 (by rw [h];simp [shp]) (by rw [h];rfl);obtain ⟨q2,hq2,nq2⟩:=jR hg 2 3 (by rw [h];simp [shp]) (by rw [h];rfl);refine iQ (by decide) hq0 (aB (ex a0 nq0) fun r hr=>aA fun _=>cE (fun _=>aD (hr.up (by omega))) fun e1=>q_b fun _=>?_);have a1:=hr.2.a0 e1;exact aH (fun _=>iQ (by decide) hq1 (up (ex a1 nq1))) fun _=>iQ (by decide) hq2 (up (ex a1 nq2))
 ·obtain ⟨q0,hq0,nq0⟩:=jR hg 0 3 (by rw [h];simp [shp]) (by rw [h];rfl);have hlen:1<=(x.2.2.2.2.2).length:=(List.getElem?_eq_some_iff.1 hq0).1;refine iQ (by decide) hq0 (aB (ex a0 nq0) fun r hr=>aA fun _=>cE (fun _=>aD (hr.up (by omega))) fun e1=>gL (iM (by decide) (iM (by show (1:Int)<=((x.2.2.2.2.2).length:Int);omega) ?_)));have a1:=hr.2.a0 e1;refine aB (hG.arguments (l:=List.drop 1 x.2.2.2.2.2) (p.go a1 (by decide) (by omega)) (by rw [List.length_drop];omega) (Et hc hx (.inr h)) he) fun r2 ⟨l2,v2,g2⟩=>aA fun _=>cE (fun _=>aD ⟨v2,(Pst.cat a1 g2).up (by omega)⟩) fun e2=>?_;have a2:=(Pst.cat a1 g2).a0 e2;exact af (bH (hG.fresh (p.go a2 (by decide) pm) l2) fun _ hr=>hr.cat a2)
theorem BH (hc:jz C) (hG:GOk C n G) (p:Pre C (n+1) 2 0 m s) (hn:Nd C.N 3 k) (he:cJ e.2.1):(R.eval_run_unary G s o k e).sat (dN C m s.2.2.2.2.2.2.1 s):=by
 unfold R.eval_run_unary;have pm:=p.hm;have a0:=Aft.refl p.run;have ex:(G.eval_run_expression s k e).sat (dN C m s.2.2.2.2.2.2.1 s):=bH (hG.iW (p.go a0 (by decide) (by omega)) hn he) fun _ hr=>hr.lP a0;obtain ⟨k0,x,hx,hf⟩:=hn;refine aA fun _=>eD (aH (fun _=>?_) fun _=>aB ex fun r hr=>aA fun _=>cE (fun _=>aD hr) fun e1=>aB Ii fun r2 v2=>aA fun _=>af (bH (qF (hr.2.a0 e1).run (by omega) v2) fun _ h=>h.cat (hr.2.a0 e1)));refine aB (R:=pe C m s.2.2.2.2.2.2.1 s fun q:Int×(RunT×eY)=>dN C m s.2.2.2.2.2.2.1 s ((q.2.2,q.1),q.2.1)) (j7 p.run k0 hx (bL (fun _=>ta hc p (fun s1 h1=>aA fun _=>jh rfl (aD ⟨bz,.inl ⟨rfl,h1⟩⟩)) fun s1 e2 e3 e4 h=>aA fun _=>ik rfl (aB (AZ h (by omega)) fun r ⟨v,g⟩=>aA fun _=>aD ⟨v,(yQ p.run e2 e3 e4 hc.D g (by omega)).mono (Int.le_refl _) (by omega)⟩)) fun _=>aB ex fun r hr=>aA fun _=>aD hr)) fun r hr=>oE hr fun q ⟨v,g⟩=>cE (fun _=>aD ⟨v,g⟩) fun e1=>aB Hd fun r2 h2=>aA fun _=>aB (dw (by omega)) fun _ _=>aA fun _=>aB my fun r4 h4=>aA fun _=>aD ⟨h4.1,.ok (g.a0 e1)⟩
theorem Bi (hc:jz C) (hG:GOk C n G) (p:Pre C (n+1) 2 0 m s) (hn:Nd C.N 4 k) (he:cJ e.2.1):(R.eval_run_parts G s k e).sat (PPst C m s.2.2.2.2.2.2.1 s):=by
 unfold R.eval_run_parts;have pm:=p.hm;have a0:=Aft.refl p.run;obtain ⟨k0,x,hx,hf⟩:=hn;have hf:=fit4 hf;have hg:=hc.tr.nod _ x hx;have hnm:=hc.fw.nm _ x hx;have ex:∀ {q:Int}{s1:RunT},Aft C m s.2.2.2.2.2.2.1 s s1->Nd C.N 3 q->(G.eval_run_expression s1 q e).sat (dN C m s.2.2.2.2.2.2.1 s):=fun a hn=>bH (hG.iW (p.go a (by decide) (by omega)) hn he) fun _ hr=>hr.lP a;refine aA fun _=>j7 p.run k0 hx (bL (fun _=>aD ⟨⟨bz,bz⟩,bz,.ok a0⟩) fun h33=>?_)
 obtain ⟨q,hq,nq⟩:∃ q,x.2.2.2.2.2[0]?=some q/\Nd C.N 3 q:=by
  rcases hf.resolve_left h33 with h|h
  ·exact jR hg 0 3 (by rw [h];simp [shp]) (by rw [h];rfl)
  ·exact jR hg 0 3 (by rw [h];simp [shp]) (by rw [h];rfl)
 refine iQ (by decide) hq (aB (ex a0 nq) fun r hr=>aA fun _=>cE (fun _=>aD ⟨⟨bz,bz⟩,hr.1,hr.2⟩) fun e1=>bL (fun _=>aB (dw (by show x.2.1.length<=_;omega)) fun _ _=>aA fun _=>aB my fun r4 h4=>aA fun _=>aD ⟨⟨hr.1,h4.1⟩,bz,.ok (hr.2.a0 e1)⟩) fun h52=>?_);have h53:x.1=53:=(hf.resolve_left h33).resolve_left h52;have a1:=hr.2.a0 e1;obtain ⟨q1,hq1,nq1⟩:=jR hg 1 3 (by rw [h53];simp [shp]) (by rw [h53];rfl);exact iQ (by decide) hq1 (aB (ex a1 nq1) fun r2 hr2=>aA fun _=>cE (fun _=>aD ⟨⟨bz,bz⟩,hr2.1,hr2.2⟩) fun e2=>aD ⟨⟨hr.1,hr2.1⟩,bz,.ok (hr2.2.a0 e2)⟩)
theorem property_step (hc:jz C) (hG:GOk C n G) (p:Pre C (n+1) 3 0 m s) (hn:Nd C.N 4 k) (he:cJ e.2.1):(R.eval_run_property G s k e).sat (dN C m s.2.2.2.2.2.2.1 s):=by
 unfold R.eval_run_property;have pm:=p.hm;have a0:=Aft.refl p.run;exact aA fun _=>aB (hG.parts (p.go a0 (by decide) (by omega)) hn he) fun r ⟨t1,v1,g1⟩=>aA fun _=>cE (fun _=>aD ⟨v1,g1⟩) fun e1=>af (bH (B1 hc (g1.a0 e1).run (by omega)) fun _ hr=>hr.cat (g1.a0 e1))
theorem Dx (hc:jz C) (hG:GOk C n G) (p:Pre C (n+1) 3 100300000 m s) (hx:Nk C.N x) (hk:x.1=44\/x.1=45) (he:cJ e.2.1):(R.eval_run_step G s x e).sat (dN C (m+100300000) s.2.2.2.2.2.2.1 s):=by
 unfold R.eval_run_step;have pm:=p.hm;have a0:=Aft.refl p.run;obtain ⟨i,hi⟩:=hx;have hg:=hc.tr.nod _ x hi
 obtain ⟨q,hq,nq⟩:∃ q,x.2.2.2.2.2[0]?=some q/\Nd C.N 4 q:=by
  rcases hk with h|h
  ·exact jR hg 0 4 (by rw [h];simp [shp]) (by rw [h];rfl)
  ·exact jR hg 0 4 (by rw [h];simp [shp]) (by rw [h];rfl)
 refine aA fun _=>iQ (by decide) hq (aB (hG.parts (p.go a0 (by decide) (by omega)) nq he) fun r ⟨t1,v1,g1⟩=>aA fun _=>cE (fun _=>aD ⟨v1,g1.up (by omega)⟩) fun e1=>?_);have a1:=g1.a0 e1;refine aB (Cf hc a1.run (by omega)) fun r2 h2=>aA fun _=>?_;have h2:=h2.cat a1;refine cE (fun _=>aD (h2.up (by omega))) fun e2=>?_;have a2:=h2.2.a0 e2;have sg:∀ {q:Int}{B:(eY×Int)×RunT->Bool},((R.aE r2.2 q).bind fun r=>given (B r) (Res.ok r)).sat (dN C (m+100300000) s.2.2.2.2.2.2.1 s):=af (bH (iO a2.run (by omega)) fun _ hr=>(hr.cat a2).up (by omega));refine aB DA fun r4 h4=>aA fun _=>cE (fun _=>sg) fun _=>aB (R:=fun _=>True) (aH (fun _=>aD trivial) fun _=>aD trivial) fun _ _=>aB step_t fun r7 h7=>aA fun _=>cE (fun _=>sg) fun _=>aB (FO hc a2.run (by omega) h7) fun r9 h9=>aA fun _=>?_;have h9:=h9.cat a2;exact cE (fun _=>aD (h9.up (by omega))) fun e9=>bL (fun _=>aD ⟨h7,(Pst.ok (h9.2.a0 e9)).up (by omega)⟩) fun _=>aD ⟨h4,(Pst.ok (h9.2.a0 e9)).up (by omega)⟩
theorem zE (hc:jz C) (hG:GOk C n G) (p:Pre C (n+1) 2 0 m s) (hx:Nk C.N x) (hk:x.1=46) (he:cJ e.2.1):(R.eval_run_binary G s x e).sat (dN C m s.2.2.2.2.2.2.1 s):=by
 unfold R.eval_run_binary;have pm:=p.hm;have a0:=Aft.refl p.run;obtain ⟨i,hi⟩:=hx;have hg:=hc.tr.nod _ x hi;have ex:∀ {q:Int}{s1:RunT},Aft C m s.2.2.2.2.2.2.1 s s1->Nd C.N 3 q->(G.eval_run_expression s1 q e).sat (dN C m s.2.2.2.2.2.2.1 s):=fun a hn=>bH (hG.iW (p.go a (by decide) (by omega)) hn he) fun _ hr=>hr.lP a;obtain ⟨q0,hq0,n0⟩:=jR hg 0 3 (by rw [hk];simp [shp]) (by rw [hk];rfl);obtain ⟨q1,hq1,n1⟩:=jR hg 1 3 (by rw [hk];simp [shp]) (by rw [hk];rfl);exact aA fun _=>iQ (by decide) hq0 (aB (ex a0 n0) fun r hr=>aA fun _=>cE (fun _=>aD hr) fun e1=>iQ (by decide) hq1 (aB (ex (hr.2.a0 e1) n1) fun r2 hr2=>aA fun _=>cE (fun _=>aD hr2) fun e2=>aH (fun _=>af (bH (in_ok hc (hr2.2.a0 e2).run (by omega)) fun _ h=>h.cat (hr2.2.a0 e2))) fun _=>aB zz fun r4 h4=>aA fun _=>af (bH (qF (hr2.2.a0 e2).run (by omega) h4) fun _ h=>h.cat (hr2.2.a0 e2))))
theorem A6 (hc:jz C) (hG:GOk C n G) (p:Pre C (n+1) 2 0 m s) (hx:Nk C.N x) (hk:x.1=47) (he:cJ e.2.1):(R.eval_run_logic G s x e).sat (dN C m s.2.2.2.2.2.2.1 s):=by
 unfold R.eval_run_logic;have pm:=p.hm;have a0:=Aft.refl p.run;obtain ⟨i,hi⟩:=hx;have hg:=hc.tr.nod _ x hi;have ex:∀ {q:Int}{s1:RunT},Aft C m s.2.2.2.2.2.2.1 s s1->Nd C.N 3 q->(G.eval_run_expression s1 q e).sat (dN C m s.2.2.2.2.2.2.1 s):=fun a hn=>bH (hG.iW (p.go a (by decide) (by omega)) hn he) fun _ hr=>hr.lP a;obtain ⟨q0,hq0,n0⟩:=jR hg 0 3 (by rw [hk];simp [shp]) (by rw [hk];rfl);obtain ⟨q1,hq1,n1⟩:=jR hg 1 3 (by rw [hk];simp [shp]) (by rw [hk];rfl);exact aA fun _=>iQ (by decide) hq0 (aB (ex a0 n0) fun r hr=>aA fun _=>cE (fun _=>aD hr) fun e1=>aB (dw0:Safe _).ok fun _ _=>aH (fun _=>aD ⟨hr.1,.ok (hr.2.a0 e1)⟩) fun _=>iQ (by decide) hq1 (af (ex (hr.2.a0 e1) n1)))
theorem zS (hc:jz C) (hG:GOk C n G) (p:Pre C (n+1) 3 100300000 m s) (hx:Nk C.N x) (hk:x.1=49) (he:cJ e.2.1):(R.eval_run_assign G s x e).sat (dN C (m+100300000) s.2.2.2.2.2.2.1 s):=by
 unfold R.eval_run_assign;have pm:=p.hm;have a0:=Aft.refl p.run;obtain ⟨i,hi⟩:=hx;have hg:=hc.tr.nod _ x hi;have hnm:=hc.fw.nm _ x hi
 have hnn:1<=x.2.1.length:=by
  have:=hg.nam hk
  cases h:x.2.1 with
  |nil=>exact absurd h this
  |cons _ _=>simp
 have ew:w6 ((x.2.1.length:Int)-1)=(x.2.1.length:Int)-1:=wrap64 (by omega);obtain ⟨q0,hq0,n0⟩:=jR hg 0 4 (by rw [hk];simp [shp]) (by rw [hk];rfl);obtain ⟨q1,hq1,n1⟩:=jR hg 1 3 (by rw [hk];simp [shp]) (by rw [hk];rfl);refine aA fun _=>iQ (by decide) hq0 (aB (hG.parts (p.go a0 (by decide) (by omega)) n0 he) fun r ⟨t1,v1,g1⟩=>aA fun _=>cE (fun _=>aD ⟨v1,g1.up (by omega)⟩) fun e1=>gL (iM (by rw [ew];omega) (iM (by rw [ew];omega) ?_)));have a1:=g1.a0 e1;refine aB (R:=pe C (m+100300000) s.2.2.2.2.2.2.1 s fun q:RunT×eY=>Aft C m s.2.2.2.2.2.2.1 s q.1/\cJ q.2) (eD (aH (fun _=>aD ⟨a1,bz⟩) fun _=>aB (Cf hc a1.run (by omega)) fun r2 h2=>aA fun _=>cE (fun _=>aD ((h2.cat a1).up (by omega))) fun e2=>aD ⟨(h2.cat a1).2.a0 e2,h2.1⟩)) fun r2 hr2=>oE hr2 fun q ⟨a2,v2⟩=>?_;refine iQ (by decide) hq1 (aB (hG.iW (p.go a2 (by decide) (by omega)) n1 he) fun r8 h8=>aA fun _=>?_);have h8:=h8.lP a2;refine cE (fun _=>aD (h8.up (by omega))) fun e8=>?_;have a8:=h8.2.a0 e8;refine aB (R:=pe C (m+100300000) s.2.2.2.2.2.2.1 s cJ) (eD (aH (fun _=>aD h8.1) fun _=>aB zz fun r9 h9=>aA fun _=>cE (fun _=>oa (bH (iO a8.run (by omega)) fun _ hr=>(hr.cat a8).up (by omega))) fun _=>aD h9)) fun r11 hr11=>oE hr11 fun w vw=>aB (FO hc a8.run (by omega) vw) fun r14 h14=>aA fun _=>?_;have h14:=h14.cat a8;exact cE (fun _=>aD (h14.up (by omega))) fun e14=>aD ⟨vw,(Pst.ok (h14.2.a0 e14)).up (by omega)⟩
theorem zN (hc:jz C) (hG:GOk C n G) (p:Pre C (n+1) 2 0 m s) (hn:Nd C.N 3 k) (he:cJ e.2.1):(R.eval_run_called G s k e).sat (CPst C m s.2.2.2.2.2.2.1 s):=by
 unfold R.eval_run_called;have pm:=p.hm;have a0:=Aft.refl p.run;have hn':=hn;obtain ⟨k0,x,hx,hf⟩:=hn';refine aA fun _=>j7 p.run k0 hx (aB (R:=fun b=>b=false->x.1=52\/x.1=53) (ob (fun _=>aD fun e=>?_) fun e=>aD fun _=>.inl e) fun b hb=>aH (fun _=>aB (hG.iW (p.go a0 (by decide) (by omega)) hn he) fun r hr=>aA fun _=>aD ⟨hr.1,bz,Pst.lP a0 hr.2⟩) fun eb=>ta hc p (fun s1 h1=>aA fun _=>jh rfl (aD ⟨bz,bz,.inl ⟨rfl,h1⟩⟩)) fun s1 e2 e3 e4 h=>aA fun _=>ik rfl ?_)
 ·exact .inr (eq_of_beq (by cases h:(x.1 == 53)<;>simp_all))
 ·have p1:Pre C n 2 0 (m-134217728) s1:=p.deep h e3 (by decide) (by decide) (by decide);have a1:=Aft.refl h;refine aB (hG.parts p1 ⟨k0,x,hx,fit_4 (.inr (hb eb))⟩ he) fun r ⟨t1,v1,g1⟩=>aA fun _=>aB (R:=fun q:Int×(RunT×eY)=>dN C (m-134217728) s1.2.2.2.2.2.2.1 s1 ((q.2.2,q.1),q.2.1)) (bL (fun e1=>aB (B1 hc (g1.a0 e1).run (by omega)) fun r2 h2=>aA fun _=>aD (h2.cat (g1.a0 e1))) fun _=>aD ⟨v1,g1⟩) fun q ⟨v2,g2⟩=>aD ⟨v2,t1.1,(yQ p.run e2 e3 e4 hc.D g2 (by omega)).mono (Int.le_refl _) (by omega)⟩
end
end Go.Mach

set_option maxRecDepth 100000
namespace Go.Mach
open Res
theorem EP {n:Int}(h:1<=n){last d:Int}:(yc n last).getD (n-1).toNat d=last:=by
 unfold yc;rw [List.getD_eq_getElem?_getD,List.getElem?_append_right (by simp)];simp
theorem fit13 {k:Int}(h:oO 13 k=true) (h1:k≠4):oO 3 k=true:=by simpa [oO,h1] using h
section
variable {C:Cx}{n:Nat}{G:au}{m k:Int}{s:RunT}{x:gN}{e:mU}{a:List UInt8}{v f t:eY}{l:List eY}
theorem FnC.ext {s':RunT}{i:Int}(h:FnC s i) (g:nc s.2.2.2.2.1.2 s'.2.2.2.2.1.2):FnC s' i:=by
 obtain ⟨i0,c,hc,e⟩:=h;obtain ⟨d,hd,hs⟩:=g _ c hc;exact ⟨i0,d,hd,hs.k.trans e⟩
theorem v8 (hc:jz C) (hG:GOk C n G) (p:Pre C (n+1) 2 0 m s){l:List Int}(hl:l.length<=20000) (hn:∀ q∈l,Nd C.N 3 q) (he:cJ e.2.1):(R.eval_run_arguments G s l e).sat (APst C m s.2.2.2.2.2.2.1 s):=by
 unfold R.eval_run_arguments;have pm:=p.hm
 refine aA fun _=>aB (iC (Q:=fun r:(List eY×RunT) ⊕ (List eY×(Int×(RunT×eY)))=>match r with|.inl q=>tO q.1/\Aft C m s.2.2.2.2.2.2.1 s q.2|.inr z=>APst C m s.2.2.2.2.2.2.1 s ((z.1,(z.2.2.2,z.2.1)),z.2.2.1)) (fun y=>y.2.1) l.length (by omega) (fun y=>y.1.length=y.2.1.toNat/\(∀ v∈y.1,cJ v)/\Aft C m s.2.2.2.2.2.2.1 s y.2.2) (by simp) (by simp) ⟨rfl,by simp,Aft.refl p.run⟩ fun y y0 y1 yI=>?_) fun r hr=>?_
 ·obtain ⟨vs,j,s1⟩:=y;have y0:0<=j:=y0;have y1:j<=(l.length:Int):=y1;obtain ⟨i1,i2,i3⟩:=yI;have i1:vs.length=j.toNat:=i1;have i2:∀ v∈vs,cJ v:=i2;have i3:Aft C m s.2.2.2.2.2.2.1 s s1:=i3;refine fZ (fun hj=>?_) fun _=>aD ⟨⟨by show vs.length<=_;omega,i2⟩,i3⟩;have hj:j < (l.length:Int):=hj;refine bu y0 (by show _ < l.length;omega) fun q hq _=>aB (hG.iW (p.go i3 (by decide) (by omega)) (hn q (List.mem_of_getElem? hq)) he) fun r ⟨v,g⟩=>aA fun _=>cE (fun _=>aD ⟨⟨Nat.zero_le _,fun _ h=>by cases h⟩,v,Pst.lP i3 g⟩) fun e1=>bI (decide_eq_true ?_) (aD ⟨rfl,hj,?_,rP i2 v,(Pst.lP i3 g).a0 e1⟩)
  ·show (vs.length+1)*88<=2^47;omega
  ·show (vs++[_]).length=(w6 (j+1)).toNat;rw [wrap64 (by omega),List.length_append];simp;omega
 ·cases r with
  |inl q=>exact je (aD ⟨hr.1,bz,.ok hr.2⟩)
  |inr z=>exact jf (aD hr)
theorem AQ (hc:jz C) (hG:GOk C n G) (p:Pre C (n+1) 10 100300000 m s) (hx:Nk C.N x) (hk:x.1=50) (he:cJ e.2.1):(R.eval_run_callee G s x.2.2.2.2.2 e).sat (dN C (m+100300000) s.2.2.2.2.2.2.1 s):=by
 unfold R.eval_run_callee;obtain ⟨i,hi⟩:=hx;have hl:=hc.fw.one _ x hi;have hg:=hc.tr.nod _ x hi;have pm:=p.hm;have a0:=Aft.refl p.run;obtain ⟨q0,hq0,n0⟩:=jR hg 0 3 (by rw [hk];simp [shp]) (by rw [hk];rfl);have hlen:1<=(x.2.2.2.2.2).length:=(List.getElem?_eq_some_iff.1 hq0).1;refine aA fun _=>iQ (by decide) hq0 (aB (hG.called (p.go a0 (by decide) (by omega)) n0 he) fun r ⟨v1,v2,g1⟩=>aA fun _=>cE (fun _=>aD ⟨v1,g1.up (by omega)⟩) fun e1=>gL (iM (by decide) (iM (by show (1:Int)<=((x.2.2.2.2.2).length:Int);omega) ?_)));have a1:=g1.a0 e1;refine aB (hG.arguments (l:=List.drop 1 x.2.2.2.2.2) (p.go a1 (by decide) (by omega)) (by rw [List.length_drop];omega) (Et hc hi (.inl hk)) he) fun r2 ⟨l2,v3,g2⟩=>aA fun _=>cE (fun _=>aD ⟨v3,(Pst.cat a1 g2).up (by omega)⟩) fun e2=>?_;have a2:=(Pst.cat a1 g2).a0 e2;exact af (bH (hG.call (p.go a2 (by decide) pm) v2 l2) fun _ hr=>hr.cat a2)
theorem Dj (hc:jz C) (hG:GOk C n G) (p:Pre C (n+1) 8 100300000 m s) (ht:cJ t) (hl:tO l):(R.eval_run_call G s f t l).sat (dN C (m+100300000) s.2.2.2.2.2.2.1 s):=by
 unfold R.eval_run_call;have pm:=p.hm;have a0:=Aft.refl p.run;have sg:∀ {q:Int}{B:(eY×Int)×RunT->Bool},((R.aE s q).bind fun r=>given (B r) (Res.ok r)).sat (dN C (m+100300000) s.2.2.2.2.2.2.1 s):=af (bH (iO p.run (by omega)) fun _ hr=>hr.up (by omega));refine aA fun _=>ob (fun _=>sg) fun _=>aB tT fun nm ⟨h1,_⟩=>aA fun _=>aB uH fun b hb=>aH (fun _=>af (hG.does (p.go a0 (by decide) pm) h1 ht hl)) fun _=>aB nU fun q hq=>aA fun _=>ob (fun _=>sg) fun h3=>af (hG.apply (p.go a0 (by decide) pm) ?_ ht hl);rcases hq with ⟨h0,_⟩|⟨i0,c,hc',e⟩
 ·rw [h0] at h3;cases h3
 ·exact ⟨i0,c,hc',e.symm.trans h3⟩
theorem Bw (hc:jz C) (hG:GOk C n G) (p:Pre C (n+1) 4 100300000 m s) (hf:f.1=6) (hF:FnC s f.2.2.2.2) (ht:cJ t) (hl:tO l):(R.eval_run_call G s f t l).sat (dN C (m+100300000) s.2.2.2.2.2.2.1 s):=by
 unfold R.eval_run_call;have pm:=p.hm;have a0:=Aft.refl p.run;obtain ⟨B,g1,_,_⟩:=p.run.heap (by omega);have hF':=hF;obtain ⟨i0,c,hc',e3⟩:=hF'
 have hlt:LT.lt (α:=Int) (f.2.2.2.2) (4096):=by
  have h1:=(List.getElem?_eq_some_iff.1 hc').1;have h2:=g1.le;omega
 refine aA fun _=>ob (fun h=>absurd hf h) fun _=>aB tT fun nm ⟨_,h1⟩=>aA fun _=>aB uH fun b hb=>aH (fun e=>absurd (h1 hlt) (hb e)) fun _=>aB nU fun q hq=>aA fun _=>ob (fun h=>?_) fun _=>af (hG.apply (p.go a0 (by decide) pm) hF ht hl);rcases hq with ⟨_,h0⟩|⟨_,c',hc2,e⟩
 ·exact absurd ⟨i0,(List.getElem?_eq_some_iff.1 hc').1⟩ h0
 ·have:some c=some c':=hc'.symm.trans hc2;cases this;exact absurd (e.trans e3) h
theorem Az (hc:jz C) (hG:GOk C n G) (p:Pre C (n+1) 9 100300000 m s) (hl:tO l):(R.eval_run_fresh G s f l).sat (dN C (m+100300000) s.2.2.2.2.2.2.1 s):=by
 unfold R.eval_run_fresh;have pm:=p.hm;have a0:=Aft.refl p.run;obtain ⟨B,g1,g2,_⟩:=p.run.heap (by omega);have sg:∀ {q:Int}{B:(eY×Int)×RunT->Bool},((R.aE s q).bind fun r=>given (B r) (Res.ok r)).sat (dN C (m+100300000) s.2.2.2.2.2.2.1 s):=af (bH (iO p.run (by omega)) fun _ hr=>hr.up (by omega));refine aA fun _=>ob (fun _=>sg) fun _=>aB (oV g1) fun r hr=>aA fun _=>eD (aH (fun hr2=>?_) fun _=>aB tT fun nm ⟨h1,_⟩=>aA fun _=>af (hG.builds (p.go a0 (by decide) pm) h1 hl));refine aB (R:=fun b=>b=false->Eq (α:=Int) (r.1.1) (3)) (ob (fun _=>aD fun e=>by cases e) fun e=>aD fun _=>e) fun b hb=>aH (fun _=>sg) fun eb=>?_
 have hF:FnC s f.2.2.2.2:=by
  obtain ⟨i0,c,hc',e⟩:=hr.at' hr2;exact ⟨i0,c,hc',e.trans (hb eb)⟩
 refine aB (R:=pe C (m+100300000) s.2.2.2.2.2.2.1 s fun _:Int=>True) (aB (dw (by decide)) fun _ _=>aA fun _=>aB (tt g1 g2) fun w _=>aA fun _=>bL (fun _=>aB nU fun _ _=>aA fun _=>ob (fun _=>oa (gU p.run |> fun h=>bH h fun _ hr=>dN.up (m:=m) hr (by omega))) fun _=>aD trivial) fun _=>aD trivial) fun r2 hr2=>oE hr2 fun pr _=>aB (o7 p.run (by omega) (.mk' 1 rfl (by decide)) rfl rfl bz) fun r3 h3=>aA fun _=>cE (fun _=>aD (h3.up (by omega))) fun e3=>?_;have a3:=h3.2.a0 e3;refine aB (hG.apply (p.go a3 (by decide) pm) (hF.ext a3.ext) h3.1 hl) fun r4 h4=>aA fun _=>?_;have h4:=h4.cat a3;refine aB (R:=fun b=>b=false->Eq (α:=Int) (r4.1.2) (0)) (cE (fun _=>aD fun e=>by cases e) fun e=>aD fun _=>e) fun b hb=>aH (fun _=>aD h4) fun eb=>aD ⟨h3.1,.ok (h4.2.a0 (hb eb))⟩
theorem Av (hc:jz C) (hG:GOk C n G) (p:Pre C (n+1) 3 100300000 m s){i:Int}(hF:FnC s i) (ht:cJ t) (hl:tO l):(R.eval_run_apply G s i t l).sat (dN C (m+100300000) s.2.2.2.2.2.2.1 s):=by
 unfold R.eval_run_apply;have pm:=p.hm;obtain ⟨B,g1,g2,_⟩:=p.run.heap (by omega);obtain ⟨i0,c,hc',e3⟩:=hF;refine aA fun _=>aB (oV g1) fun r hr=>aA fun _=>aB (ph p.run (by omega)) fun r2 ⟨h2,_⟩=>aA fun _=>cE (fun _=>aD ⟨bz,h2.up (by omega)⟩) fun e2=>?_;have a2:=h2.a0 e2;obtain ⟨t1,t2⟩:=hr.cl c i0 hc';obtain ⟨n0,x,hx,hk⟩:=hr.fn (t2.trans e3);refine aB (R:=fun e:mU=>cJ e.2.1) (bL (fun _=>aD (hr.th t1)) fun _=>bL (fun _=>aD bz) fun _=>aD ht) fun e he=>j7 a2.run n0 hx ?_;have hlx:=hc.fw.one _ x hx;have hg:=hc.tr.nod _ x hx
 obtain ⟨last,hlast,hsh⟩:∃ last:Int,(last=8\/last=13)/\shp x.1 (x.2.2.2.2.2).length=(yc (x.2.2.2.2.2).length last,0):=by
  rcases hk with h|h|h
  ·exact ⟨8,.inl rfl,by rw [h];rfl⟩
  ·exact ⟨8,.inl rfl,by rw [h];rfl⟩
  ·exact ⟨13,.inr rfl,by rw [h];rfl⟩
 have h1:1<=(x.2.2.2.2.2).length:=by
  have:=hg.len;rw [hsh] at this;have h2:(yc ((x.2.2.2.2.2).length:Int) last).length<=(x.2.2.2.2.2).length:=this;unfold yc at h2;simp at h2;omega
 have ew:w6 (((x.2.2.2.2.2).length:Int)-1)=((x.2.2.2.2.2).length:Int)-1:=wrap64 (by omega);rw [ew]
 have et:(((x.2.2.2.2.2).length:Int)-1).toNat=(x.2.2.2.2.2).length-1:=by omega
 obtain ⟨q,hq⟩:∃ q,x.2.2.2.2.2[(((x.2.2.2.2.2).length:Int)-1).toNat]?=some q:=⟨_,List.getElem?_eq_getElem (by omega)⟩
 have nq:=hg.nd hq last (by
  rw [hsh];show (yc ((x.2.2.2.2.2).length:Int) last).getD (((x.2.2.2.2.2).length:Int)-1).toNat 0=last
  exact EP (by omega))
 refine gL (iM (by omega) (iM (by show ((x.2.2.2.2.2).length:Int)-1<=((x.2.2.2.2.2).length:Int);omega) ?_));refine aB (iC (Q:=fun H:qS=>Aft C (m+20000) s.2.2.2.2.2.2.1 s (oU r2.2 H)) (fun y=>y.1) (List.take (((x.2.2.2.2.2).length:Int)-1).toNat x.2.2.2.2.2).length (by simp;omega) (fun w=>Aft C (m+w.1) s.2.2.2.2.2.2.1 s (oU r2.2 w.2)) (by simp) (by simp) (by show Aft C (m+0) _ _ (oU r2.2 r2.2.2.2.2.2.1);rw [Int.add_zero];exact a2) fun w w0 w1 wI=>?_) fun H hH=>?_
 ·obtain ⟨j,H⟩:=w;have w0:0<=j:=w0;have w1:j<=((List.take (((x.2.2.2.2.2).length:Int)-1).toNat x.2.2.2.2.2).length:Int):=w1;have wI:Aft C (m+j) s.2.2.2.2.2.2.1 s (oU r2.2 H):=wI
  have hln:(List.take (((x.2.2.2.2.2).length:Int)-1).toNat x.2.2.2.2.2).length=(x.2.2.2.2.2).length-1:=by rw [List.length_take];omega
  refine fZ (fun hj=>?_) fun _=>aD (wI.up (by omega));have hj:j < ((List.take (((x.2.2.2.2.2).length:Int)-1).toNat x.2.2.2.2.2).length:Int):=hj;refine bu w0 (by show _ < (List.take (((x.2.2.2.2.2).length:Int)-1).toNat x.2.2.2.2.2).length;omega) fun d hd _=>?_
  have hd':x.2.2.2.2.2[j.toNat]?=some d:=by
   have hd:(List.take (((x.2.2.2.2.2).length:Int)-1).toNat x.2.2.2.2.2)[j.toNat]?=some d:=hd;rw [List.getElem?_take] at hd;split at hd
   ·exact hd
   ·cases hd
  obtain ⟨d0,z,hz,_⟩:=hg.kid _ d hd';refine j7 a2.run d0 hz (aB (lK hl.2 w0) fun v hv=>aA fun _=>aB (qA wI.run (by omega) hv) fun r hr=>aA fun _=>aD ⟨rfl,hj,?_⟩);show Aft C (m+w6 (j+1)) _ _ _;rw [wrap64 (n:=j+1) (by omega),<- Int.add_assoc];exact wI.cat hr
 ·have nq':=nq;obtain ⟨q0,y,hy,hf⟩:=nq';refine iQ (by omega) hq (j7 a2.run q0 hy (ob (fun h4=>?_) fun h4=>?_))
  ·have hn3:Nd C.N 3 q:=by
    rcases hlast with h|h
    ·rw [h] at hf;exact absurd (eq_of_beq hf) h4
    ·rw [h] at hf;exact ⟨q0,y,hy,fit13 hf h4⟩
   exact af (bH (hG.iW (p.go hH (by decide) (by omega)) hn3 he) fun _ hr=>(hr.lP hH).up (by omega))
  ·refine aB (rM hc hH.run (by omega) q0 hy he) fun r3 h3=>aA fun _=>?_;have h3:=h3.cat hH;refine cE (fun _=>aD (h3.up (by omega))) fun e4=>?_;have a3:=h3.2.a0 e4;refine j7 a3.run q0 hy (aB (hG.list (p.go a3 (by decide) (by omega)) ⟨_,hy⟩ he) fun r4 ⟨v4,g4⟩=>aA fun _=>?_);have g4:=(Pst.cat a3 g4).up (m':=m+100300000) (by omega);exact bL (fun e5=>aD ⟨v4,.ok (g4.aft (jg e5 (by decide)))⟩) fun _=>aB (R:=fun b=>b=false->Ne (α:=Int) (r4.1.1) (5)) (bL (fun e5=>aD fun _=>jg e5 (by decide)) fun _=>aD fun e5=>ne_of_beq_false e5) fun b hb=>aH (fun _=>aD ⟨v4,g4⟩) fun eb=>aD ⟨bz,.ok (g4.aft (hb eb))⟩
theorem AE (hc:jz C) (hG:GOk C n G) (p:Pre C (n+1) 8 100300000 m s) (ha:InN a) (hl:tO l):(R.eval_run_builds G s a l).sat (dN C (m+100300000) s.2.2.2.2.2.2.1 s):=by
 unfold R.eval_run_builds;have pm:=p.hm;have a0:=Aft.refl p.run
 have hm:m<=2^39:=by omega
 have up:∀ {F:Res ((eY×Int)×RunT)}{B:(eY×Int)×RunT->Bool},F.sat (dN C m s.2.2.2.2.2.2.1 s)->(F.bind fun r=>given (B r) (Res.ok r)).sat (dN C (m+100300000) s.2.2.2.2.2.2.1 s):=fun h=>af (bH h fun _ hr=>hr.up (by omega));refine aA fun _=>aB (dw0:Safe _).ok fun _ _=>aH (fun _=>up (gU p.run)) fun _=>aB (dw0:Safe _).ok fun _ _=>aH (fun _=>af (hG.does (p.go a0 (by decide) pm) ha bz hl)) fun _=>aH (fun _=>aB (lK hl.2 (by decide)) fun _ _=>aA fun _=>aB nT fun q ⟨q0,q1⟩=>aA fun _=>cE (fun _=>up (iO p.run hm)) fun _=>fZ (fun _=>up (iO p.run hm)) fun hq=>?_) fun _=>aH (fun _=>up (Ba hc p.run hm hl.2)) fun _=>aH (fun _=>up (Bm p.run hm hl.2)) fun _=>aB GJ fun r hr=>aA fun _=>fZ (fun h=>?_) fun _=>up (iO p.run hm)
 ·have hq:LE.le (α:=Int) (q.1) (4096):=hq;refine gL (iM q0 (gL (iM (Int.le_refl _) (n_d (by omega) (up (o7 p.run hm (.bf1 rfl ?_) rfl rfl bz))))));show (List.replicate (Int.toNat q.1) (0:Int)).length<=4096;rw [List.length_replicate];omega
 ·obtain ⟨z,hz⟩:=hr h;exact up (C9 p.run hm hz hl.2)
theorem ED (hc:jz C) (hG:GOk C n G) (p:Pre C (n+1) 7 100300000 m s) (ha:InN a) (ht:cJ t) (hl:tO l):(R.eval_run_does G s a t l).sat (dN C (m+100300000) s.2.2.2.2.2.2.1 s):=by
 unfold R.eval_run_does;have pm:=p.hm;have a0:=Aft.refl p.run
 have hm:m<=2^39:=by omega
 have up:∀ {F:Res ((eY×Int)×RunT)}{B:(eY×Int)×RunT->Bool},F.sat (dN C (m+20000) s.2.2.2.2.2.2.1 s)->(F.bind fun r=>given (B r) (Res.ok r)).sat (dN C (m+100300000) s.2.2.2.2.2.2.1 s):=fun h=>af (bH h fun _ hr=>hr.up (by omega));have up0:∀ {F:Res ((eY×Int)×RunT)}{B:(eY×Int)×RunT->Bool},F.sat (dN C m s.2.2.2.2.2.2.1 s)->(F.bind fun r=>given (B r) (Res.ok r)).sat (dN C (m+100300000) s.2.2.2.2.2.2.1 s):=fun h=>af (bH h fun _ hr=>hr.up (by omega));have rt:∀ {v:eY},cJ v->(Res.ok ((v,(0:Int)),s):Res ((eY×Int)×RunT)).sat (dN C (m+100300000) s.2.2.2.2.2.2.1 s):=fun hv=>aD ⟨hv,(Pst.ok a0).up (by omega)⟩;obtain ⟨B,g1,g2,g3⟩:=p.run.heap hm;refine aA fun _=>aB (lK hl.2 (by decide)) fun x hx=>aA fun _=>aB (dw0:Safe _).ok fun _ _=>aH (fun _=>up0 (gU p.run)) fun _=>aH (fun _=>up0 (FY p.run hm)) fun _=>aH (fun _=>aB (lK hl.2 (by decide)) fun y _=>aA fun _=>up0 (D7 p.run hm)) fun _=>aH (fun _=>bL (fun _=>aB nU fun _ _=>aA fun _=>aB lE fun r hr=>aA fun _=>rt (vk hr)) fun _=>aB lE fun r hr=>aA fun _=>rt (vk hr)) fun _=>aH (fun _=>up (G7 p.run (by omega) hl.1 hl.2)) fun _=>aH (fun _=>aB (R:=fun _=>True) (ob (fun _=>aD trivial) fun _=>aB nU fun _ _=>aA fun _=>aD trivial) fun _ _=>aH (fun _=>up0 (gU p.run)) fun _=>aB (HP g1 g2) fun r ⟨r1,r2,r3⟩=>aA fun _=>aD ⟨r3,(Pst.ok ⟨p.run.put r1 g3,r2,rfl,Int.le_refl _⟩).up (by omega)⟩) fun _=>aH (fun _=>up0 (zM p.run hm)) fun _=>aH (fun _=>bL (fun _=>aB my fun r hr=>aA fun _=>rt hr.1) fun _=>q_p fun r _=>aA fun _=>aB my fun r hr=>aA fun _=>up0 (qF p.run hm hr.1)) fun _=>aH (fun _=>q_b fun _=>aB lE fun r hr=>aA fun _=>rt (vk hr)) fun _=>aH (fun _=>up0 (D0 p.run hm)) fun _=>aB (dw0:Safe _).ok fun _ _=>aH (fun _=>up0 (Bt p.run hm (Nat.le_trans (zi ha) (by decide)))) fun _=>aB (G6 ha) fun b hb=>aH (fun eb=>aB (hb eb) fun nm hn=>aA fun _=>up0 (EC hc p.run hm hn hl.2)) fun _=>q_b fun _=>aH (fun _=>q_b fun _=>aA fun _=>up0 (D6 hc p.run hm hl.2)) fun _=>q_b fun _=>aH (fun _=>q_b fun _=>aA fun _=>af (hG.host (p.go a0 (by decide) pm) hx)) fun _=>up0 (iO p.run hm)
theorem D5 (hc:jz C) (hG:GOk C n G) (p:Pre C (n+1) 6 100300000 m s) (hv:cJ v):(R.eval_run_host G s a v).sat (dN C (m+100300000) s.2.2.2.2.2.2.1 s):=by
 unfold R.eval_run_host;have pm:=p.hm;have a0:=Aft.refl p.run
 have hm:m<=2^39:=by omega
 obtain ⟨B,g1,g2,g3⟩:=p.run.heap hm;have up:∀ {F:Res ((eY×Int)×RunT)}{B:(eY×Int)×RunT->Bool},F.sat (dN C m s.2.2.2.2.2.2.1 s)->(F.bind fun r=>given (B r) (Res.ok (Sum.inr (r.1.2,(r.2,r.1.1)):wc ⊕ (Int×(RunT×eY))))).sat (pe C (m+100300000) s.2.2.2.2.2.2.1 s wi):=fun h=>oa (bH h fun _ hr=>hr.up (by omega));refine aA fun _=>aB (R:=pe C (m+100300000) s.2.2.2.2.2.2.1 s wi) (aH (fun _=>ob (fun _=>up (gU p.run)) fun h5=>aD (qf 8 rfl (by decide) (by decide) l0 (hv h5) nw0 z6)) fun _=>aH (fun _=>aB (oV g1) fun r hr=>aA fun _=>aB (R:=fun b=>b=false->Eq (α:=Int) (r.1.1) (6)) (ob (fun _=>aD fun e=>by cases e) fun _=>aD fun e=>?_) fun b hb=>aH (fun _=>up (iO p.run hm)) fun eb=>aD (qf 9 rfl (by decide) (by decide) (hr.sh (hb eb)) (Nat.zero_le _) nw0 z6)) fun _=>aH (fun _=>oa (hG.Af (p.go a0 (by decide) pm))) fun _=>aH (fun _=>q_p fun r hr=>aA fun _=>cE (fun _=>up (iO p.run hm)) fun _=>aD (qf 11 rfl (by decide) (by decide) l0 hr nw0 z6)) fun _=>aH (fun _=>aD (qf 12 rfl (by decide) (by decide) l0 (Nat.zero_le _) nw0 z6)) fun _=>aH (fun _=>q_b fun r=>aA fun _=>cE (fun _=>up (iO p.run hm)) fun _=>aB tA fun w hw=>aA fun _=>aD (qf 13 rfl (by decide) (by decide) l0 (Nat.zero_le _) hw z6)) fun _=>aD (qf 14 rfl (by decide) (by decide) l0 (Nat.zero_le _) nw0 z6)) fun r hr=>oE hr fun q hq=>aB (rS p.run hc.A hq) fun r2 ⟨h2,_⟩=>aA fun _=>?_
 ·exact eq_of_beq (by cases h:(r.1.1 == 6)<;>simp_all)
 ·have h2:=h2.up (m':=m+100300000) (by omega);refine cE (fun _=>aD ⟨bz,h2⟩) fun e2=>?_;have a2:=h2.a0 e2;exact bL (fun _=>aB lx fun _ hn=>aA fun _=>aD ⟨hn,.ok a2⟩) fun _=>aB (dw0:Safe _).ok fun _ _=>aH (fun _=>aD ⟨.of (show (1:Int)≠5 by decide),.ok a2⟩) fun _=>bL (fun _=>aB my fun _ hn=>aA fun _=>aD ⟨hn.1,.ok a2⟩) fun _=>aD ⟨bz,.ok a2⟩
theorem xA (hc:jz C) (hG:GOk C n G) (p:Pre C (n+1) 5 100300000 m s):(R.eval_run_receives G s f).sat (dN C (m+100300000) s.2.2.2.2.2.2.1 s):=by
 unfold R.eval_run_receives;have pm:=p.hm
 have hm:m<=2^39:=by omega
 refine aA fun _=>aB (R:=fun b=>b=false->f.1=6/\FnC s f.2.2.2.2) (ob (fun _=>aD fun e=>by cases e) fun h6=>aB nU fun q hq=>aA fun _=>aD fun e=>⟨h6,?_⟩) fun b hb=>aH (fun _=>af (bH (iO p.run hm) fun _ hr=>hr.up (by omega))) fun eb=>?_
 ·have e:q=3:=eq_of_beq (by cases h:(q == 3)<;>simp_all)
  rcases hq with ⟨h0,_⟩|⟨i0,c,hc',e'⟩
  ·rw [h0] at e;cases e
  ·exact ⟨i0,c,hc',e'.symm.trans e⟩
 ·obtain ⟨h6,hF⟩:=hb eb;refine aB (rS p.run hc.A (qf 10 rfl (by decide) (by decide) l0 (Nat.zero_le _) nw0 z6)) fun r2 ⟨h2,_⟩=>aA fun _=>cE (fun _=>aD ⟨bz,h2.up (by omega)⟩) fun e2=>?_;have a2:=h2.a0 e2;refine aB (R:=fun q:Int=>0<=q/\q<=9007199254740991) (aB (R:=fun b=>b=false->LE.le (α:=Int) (0) (r2.1.1.2.2.2.1)/\LE.le (α:=Int) (r2.1.1.2.2.2.1) (9007199254740991)) (fZ (fun _=>aD fun e=>by cases e) fun h0=>aD fun e=>⟨h0,Int.not_lt.1 (of_decide_eq_false e)⟩) fun b hb=>aH (fun _=>aD ⟨by decide,by decide⟩) fun e=>aD (hb e)) fun q hq=>aB (o7 a2.run hm (.sh1 rfl hq) rfl rfl bz) fun r3 h3=>aA fun _=>?_;have h3:=h3.cat a2;refine cE (fun _=>aD (h3.up (by omega))) fun e3=>?_;have a3:=h3.2.a0 e3;refine aB (hG.callF (l:=[r3.1.1]) (p.go a3 (by decide) pm) h6 (hF.ext a3.ext) bz ⟨(show 1<=20000 by decide),fun w hw=>?_⟩) fun r4 h4=>aA fun _=>?_
  ·cases List.mem_singleton.1 hw;exact h3.1
  ·have h4:=h4.cat a3;exact cE (fun _=>aD h4) fun e4=>aD ⟨bz,.ok (h4.2.a0 e4)⟩
end
end Go.Mach

set_option maxRecDepth 100000
namespace Go.Mach
open Res
theorem gok {C:Cx}(hc:jz C):∀ n:Nat,GOk C n (cI n)
 |0=>⟨fun p=>(p.no (by decide)).elim,fun p=>(p.no (by decide)).elim,fun p=>(p.no (by decide)).elim,fun p=>(p.no (by decide)).elim,fun p=>(p.no (by decide)).elim,fun p=>(p.no (by decide)).elim,fun p=>(p.no (by decide)).elim,fun p=>(p.no (by decide)).elim,fun p=>(p.no (by decide)).elim,fun p=>(p.no (by decide)).elim,fun p=>(p.no (by decide)).elim,fun p=>(p.no (by decide)).elim,fun p=>(p.no (by decide)).elim,fun p=>(p.no (by decide)).elim,fun p=>(p.no (by decide)).elim,fun p=>(p.no (by decide)).elim,fun p=>(p.no (by decide)).elim,fun p=>(p.no (by decide)).elim,fun p=>(p.no (by decide)).elim,fun p=>(p.no (by decide)).elim,fun p=>(p.no (by decide)).elim,fun p=>(p.no (by decide)).elim,fun p=>(p.no (by decide)).elim,fun p=>(p.no (by decide)).elim,fun p=>(p.no (by decide)).elim,fun p=>(p.no (by decide)).elim,fun p=>(p.no (by decide)).elim,fun p=>(p.no (by decide)).elim,fun p=>(p.no (by decide)).elim,fun p=>(p.no (by decide)).elim,fun p=>(p.no (by decide)).elim,fun p=>(p.no (by decide)).elim,fun p=>(p.no (by decide)).elim,fun p=>(p.no (by decide)).elim,fun p=>(p.no (by decide)).elim⟩
 |n+1=>by
  have h:=gok hc n
  exact {
   list:=DB hc h
   statement:=wR hc h
   act:=Ef hc h
   iW:=u3 hc h
   block:=BD hc h
   decls:=A0 hc h
   choice:=Ad hc h
   Ft:=BL hc h
   loop:=DJ hc h
   try_:=Ee hc h
   value:=A9 hc h
   asked:=Bu hc h
   first:=CB hc h
   Eg:=Aw hc h
   array:=Bh hc h
   object:=AM hc h
   operation:=wC hc h
   unary:=BH hc h
   step:=Dx hc h
   binary:=zE hc h
   logic:=A6 hc h
   assign:=zS hc h
   callee:=AQ hc h
   arguments:=fun p=>v8 hc h p
   fresh:=Az hc h
   property:=property_step hc h
   parts:=Bi hc h
   called:=zN hc h
   call:=Dj hc h
   callF:=Bw hc h
   builds:=AE hc h
   apply:=fun p=>Av hc h p
   does:=ED hc h
   host:=D5 hc h
   Af:=xA hc h
  }
end Go.Mach

set_option maxRecDepth 100000
namespace Go.Mach
open Res
instance Gd {k}:Safe (R.jM k):=by unfold R.jM;exact dw0
instance GP {l}:Safe (R.i7 l):=by
 unfold R.i7;refine ⟨aA fun h=>?_⟩;simp only [Sg.i,oks,Sh.ok,Ty.ok,List.map,Par.v,Bool.and_eq_true] at h;have:=lj h;refine aB (mR (fun i=>i) l.length (by omega) (by omega) (by omega) fun i h0 h1=>?_).ok fun x _=>(dw0:Safe _).ok;refine fZ (fun hi=>bN h0 (by omega) fun _ _ _=>gL (iM h0 (iM h1 (q_b fun _=>aH (fun _=>aD trivial) fun _=>aD ⟨rfl,hi,trivial⟩)))) fun _=>aD trivial
instance C4 {a b}:Safe (R.gg a b):=by unfold R.gg;exact dw0
instance I5 {l f}:Safe (R.al l f):=by
 unfold R.al R.ay;refine ⟨aA fun _=>fP (aA fun h=>?_)⟩;simp only [Sg.i,oks,Sh.ok,Ty.ok,List.map,Par.v,Bool.and_eq_true] at h;have:=lj h.1;refine aB (mR (fun i=>i) l.length (by omega) (by omega) (by omega) fun i h0 h1=>?_).ok fun x _=>bH (dw0:Safe _).ok fun _ _=>aA fun _=>aD trivial;exact fZ (fun hi=>bN h0 (by omega) fun _ _ _=>q_b fun _=>aH (fun _=>aD trivial) fun _=>aD ⟨rfl,hi,trivial⟩) fun _=>aD trivial
section
variable {t:List gN}{n:Int}{up:List Int}
structure UpI (t:List gN) (up:List Int):Prop where
 len:up.length=t.length
 lt:∀ (j:Nat) (v:Int),up[j]?=some v->-1<=v/\v < (j:Int)/\(0 < j->0<=v)
theorem UpI.set (h:UpI t up){k i:Int}(i0:0<=i) (hk:i < k):UpI t (up.set k.toNat i):=by
 refine ⟨by rw [List.length_set];exact h.len,fun j v hv=>?_⟩;by_cases hj:k.toNat=j
 ·subst hj;have hl:=(List.getElem?_eq_some_iff.1 hv).1;rw [List.length_set] at hl;rw [List.getElem?_set_self hl] at hv;cases hv;exact ⟨by omega,by omega,fun _=>i0⟩
 ·rw [List.getElem?_set_ne hj] at hv;exact h.lt j v hv
theorem B5 (hg:pP t) (hf:rF t) (ho:qy t t.length):(R.gH t).sat (UpI t):=by
 unfold R.gH;have hp:=hg.pos;have hl:=hg.len
 have e0:Int.toNat (t.length:Int)=t.length:=by omega
 refine aA fun _=>gL (iM (by omega) (gL (iM (Int.le_refl _) (n_d (by omega) (gL (iM (by decide) (nr (by rw [List.length_replicate];omega) (bu (by decide) (by show 0 < (List.replicate _ _).length;rw [List.length_replicate];omega) fun _ _ _=>?_))))))));refine aB (iC (Q:=UpI t) (fun x=>x.1) t.length (by omega) (fun x=>UpI t x.2) (by simp) (by simp) ⟨by show (List.set _ _ _).length=_;rw [List.length_set,List.length_replicate,e0],fun j v hv=>?_⟩ fun x h0 h1 hI=>?_) fun r hr=>aD hr
 ·have hv:(List.set (List.replicate (Int.toNat (t.length:Int)) (0:Int)) (0+Int.toNat 0) (-1))[j]?=some v:=hv;by_cases hj:j=0
  ·subst hj
   rw [show 0+Int.toNat 0=0 from rfl,List.getElem?_set_self (by rw [List.length_replicate];omega)] at hv
   cases hv;exact ⟨by decide,by decide,fun h=>absurd h (by decide)⟩
  ·rw [List.getElem?_set_ne (by show ¬ 0+Int.toNat 0=j;exact fun h=>hj h.symm)] at hv;have:=List.mem_of_getElem? hv;rw [List.mem_replicate] at this;rw [this.2];exact ⟨by decide,by omega,fun _=>Int.le_refl _⟩
 ·obtain ⟨i,l⟩:=x;have h0:0<=i:=h0;have hI:UpI t l:=hI;refine fZ (fun hi=>?_) fun _=>aD hI;have hi:i < (t.length:Int):=hi;refine bN h0 (by omega) fun x hx _=>?_;have hx:t[i.toNat]?=some x:=hx;have hk:=hf.one _ x hx;have hord:=ho _ x (by omega) hx;refine aB (iC (Q:=UpI t) (fun x=>x.1) (x.2.2.2.2.2).length (by omega) (fun y=>UpI t y.2) (by simp) (by simp) hI fun y y0 y1 yI=>?_) fun r hr=>aD ⟨rfl,hi,hr⟩;obtain ⟨j,q⟩:=y;have y0:0<=j:=y0;have yI:UpI t q:=yI;refine fZ (fun hj=>?_) fun _=>aD yI;have hj:j < ((x.2.2.2.2.2).length:Int):=hj;refine bu y0 (by show _ < (x.2.2.2.2.2).length;omega) fun k hk _=>?_;have ka:=hord _ k hk;have ka1:LT.lt (α:=Int) ((i.toNat:Int)) (k):=ka.1;have ka2:LT.lt (α:=Int) (k) ((t.length:Int)):=ka.2;have hql:=yI.len;refine gL (iM (by omega) (nr (by show LT.lt (α:=Int) (k) ((q.length:Int));omega) (bu (by omega) (by show ((0:Int)+(Int.toNat k:Int)).toNat < q.length;omega) fun _ _ _=>aD ⟨rfl,hj,?_⟩)));show UpI t (List.set q (0+Int.toNat k) i);rw [Nat.zero_add];exact yI.set h0 (by omega)
theorem CN (hu:UpI t up){i:Int}(i0:0<=i) (hi:i.toNat < t.length){β:Type}{Q:β->Prop}{f:Int->Res β}(hf:∀ v,-1<=v/\v < i/\(0 < i->0<=v)->(f v).sat Q):(ct .i up i f).sat Q:=bN i0 (by have:=hu.len;show _ < up.length;omega) fun v hv _=>by
 have h:=hu.lt _ v hv;exact hf v ⟨h.1,by omega,fun g=>h.2.2 (by omega)⟩
theorem uC (hg:pP t) (hu:UpI t up) (n0:0<=n) (hn:n.toNat < t.length):(R.fJ t up n).sat fun r=>∀ k∈r.1,0<=k/\k < (t.length:Int):=by
 unfold R.fJ;have hl:=hg.len
 refine aA fun _=>CN hu n0 hn fun v hv=>aB (ko (Q:=fun r:List Int ⊕ (List Int×Int)=>match r with|.inl l=>∀ k∈l,0<=k/\k < (t.length:Int)|.inr r=>∀ k∈r.1,0<=k/\k < (t.length:Int)) (fun y=>(y.1+1).toNat) (by show (v+1).toNat<=_;omega) (fun y=>-1<=y.1/\y.1 < (t.length:Int)/\(y.2.length:Int)+y.1<=(t.length:Int)/\∀ k∈y.2,0<=k/\k < (t.length:Int)) ⟨hv.1,by show v < (t.length:Int);omega,by show ((0:Nat):Int)+v<=(t.length:Int);omega,by simp⟩ fun y ⟨y1,y2,y3,y4⟩=>?_) fun r hr=>?_
 ·obtain ⟨i,l⟩:=y;have y1:-1<=i:=y1;have y2:i < (t.length:Int):=y2;have y3:(l.length:Int)+i<=(t.length:Int):=y3;have y4:∀ k∈l,0<=k/\k < (t.length:Int):=y4;refine lg (fun i0=>?_) fun _=>aD y4;have i0:0<=i:=i0;refine bN i0 (by omega) fun x _ _=>q_b fun _=>aH (fun _=>aD y4) fun _=>bI (decide_eq_true ?_) (CN hu i0 (by omega) fun w hw=>aD ⟨?_,?_,?_,?_,?_⟩)
  ·show (l.length+1)*8<=2^47;omega
  ·show (w+1).toNat < (i+1).toNat;omega
  ·exact hw.1
  ·show w < (t.length:Int);omega
  ·show ((l++[i]).length:Int)+w<=(t.length:Int);rw [List.length_append];simp;omega
  ·exact rP y4 ⟨i0,y2⟩
 ·cases r with
  |inl l=>exact je (aD hr)
  |inr q=>exact jf (aD hr)
theorem FA (hg:pP t) (hf:rF t) (n0:0<=n) (hn:n.toNat < t.length){p:Int}(hp:p < n):(R.i6 t n p).sat fun _=>True:=by
 unfold R.i6;refine aA fun _=>aB (R:=fun b=>b=false->0<=p) (fZ (fun _=>aD fun e=>by cases e) fun p0=>bN n0 hn fun x _ _=>ob (fun _=>aD fun _=>p0) fun _=>bN p0 (by omega) fun y _ _=>q_b fun _=>eD (aH (fun _=>aD fun _=>p0) fun _=>bN p0 (by omega) fun z _ _=>aD fun _=>p0)) fun b hb=>aH (fun _=>aD trivial) fun e=>aB (sF hg hf (hb e) (by have:=hb e;omega)) fun _ _=>aA fun _=>aB (sF hg hf n0 hn) fun _ _=>aA fun _=>q_b fun _=>aD trivial
theorem Dz {l:List Int}(hl:∀ k∈l,0<=k/\k < (t.length:Int)) {z}:(R.ax l (t,z)).sat fun _=>True:=by
 unfold R.ax R.bC;refine aA fun _=>fP (aA fun h=>?_);simp only [Sg.i,oks,Sh.ok,Ty.ok,List.map,Par.v,Bool.and_eq_true] at h;have:=lj h.1;refine aB (mR (fun i=>i) l.length (by omega) (by omega) (by omega) fun i h0 h1=>?_).ok fun x _=>bH (dw0:Safe _).ok fun _ _=>aA fun _=>aD trivial;refine fZ (fun hi=>bN h0 (by omega) fun k hk _=>aB (R:=fun _=>True) ?_ fun _ _=>aH (fun _=>aD trivial) fun _=>aD ⟨rfl,hi,trivial⟩) fun _=>aD trivial;have hk:=hl k (List.mem_of_getElem? hk);unfold R.gx;exact aA fun _=>bN hk.1 (by show k.toNat < t.length;omega) fun _ _ _=>bL (fun _=>bN hk.1 (by show k.toNat < t.length;omega) fun _ _ _=>aD trivial) fun _=>aD trivial
theorem zs (hg:pP t) (ho:qy t t.length) (n0:0<=n) (hn:n < (t.length:Int)):(R.fV t n).sat fun _=>True:=by
 unfold R.fV;have hl:=hg.len;refine aA fun _=>aB (ko (Q:=fun r:Int=>0<=r/\r < (t.length:Int)) (fun i=>(t.length:Int).toNat-i.toNat) (by omega) (fun i=>0<=i/\i < (t.length:Int)) ⟨n0,hn⟩ fun i ⟨i0,i1⟩=>?_) fun r ⟨r0,r1⟩=>bN r0 (by omega) fun _ _ _=>aD trivial;have i0:0<=i:=i0;have i1:i < (t.length:Int):=i1;refine bN i0 (by omega) fun x hx _=>bL (fun h18=>bN i0 (by omega) fun y hy _=>?_) fun _=>aD ⟨i0,i1⟩;have hx:t[i.toNat]?=some x:=hx;have:some x=some y:=hx.symm.trans hy;cases this;have h1:=(hg.nod _ x hx).len
 rw [show x.1=18 from h18] at h1
 have h1:1<=(x.2.2.2.2.2).length:=h1;refine bu (by decide) (by show 0 < (x.2.2.2.2.2).length;omega) fun k hk _=>aD ?_;have:=ho _ x (by omega) hx _ k hk;exact ⟨by show (t.length:Int).toNat-k.toNat < (t.length:Int).toNat-i.toNat;omega,by omega,this.2⟩
theorem FT (hg:pP t) (ho:qy t t.length){x:gN}{l:List Int}(hl:∀ k∈l,0<=k/\k < (t.length:Int)):(R.iz t x l).sat fun _=>True:=by
 unfold R.iz;refine aA fun h=>?_;simp only [Sg.i,oks,Sh.ok,Ty.ok,List.map,Par.v,Bool.and_eq_true] at h;have:=lj h.2.2;refine aB (mR (fun i=>i) l.length (by omega) (by omega) (by omega) fun i h0 h1=>?_).ok fun x _=>(dw0:Safe _).ok;refine fZ (fun hi=>bN h0 (by omega) fun k hk _=>?_) fun _=>aD trivial;have hk:=hl k (List.mem_of_getElem? hk);exact bN hk.1 (by omega) fun y _ _=>aB (dw0:Safe _).ok fun _ _=>aH (fun _=>aD trivial) fun _=>aB (dw0:Safe _).ok fun _ _=>aH (fun _=>bL (fun _=>aD trivial) fun _=>aB (zs hg ho hk.1 hk.2) fun _ _=>aA fun _=>q_b fun _=>aD trivial) fun _=>aD ⟨rfl,hi,trivial⟩
theorem Er (hg:pP t) (hf:rF t) (ho:qy t t.length) (hu:UpI t up) (n0:0<=n) (hn:n.toNat < t.length):(R.iy t up n).sat fun _=>True:=by
 unfold R.iy;refine aA fun _=>bN n0 hn fun x hx _=>aB (R:=fun _=>True) (aB (sF hg hf n0 hn) fun _ _=>aA fun _=>q_b fun _=>aH (fun _=>aD trivial) fun _=>CN hu n0 hn fun v hv=>aB (FA hg hf n0 hn hv.2.1) fun _ _=>aD trivial) fun _ _=>aH (fun _=>aD trivial) fun _=>bL (fun h7=>CN hu n0 hn fun v hv=>?_) fun _=>bL (fun _=>aB (uC hg hu n0 hn) fun r hr=>aA fun _=>aB (Dz hr) fun _ _=>aD trivial) fun _=>aB (dw0:Safe _).ok fun _ _=>aH (fun _=>aB (uC hg hu n0 hn) fun r hr=>aA fun _=>aB (FT hg ho hr) fun _ _=>aD trivial) fun _=>bL (fun _=>aB (uC hg hu n0 hn) fun r hr=>aA fun _=>aD trivial) fun _=>aD trivial;have hx:t[n.toNat]?=some x:=hx
 have hne:0 < n:=by
  obtain ⟨y,hy,e⟩:=hg.rt;apply Classical.byContradiction;intro h
  have:n.toNat=0:=by omega
  rw [this] at hx;have:some x=some y:=hx.symm.trans hy;cases this;exact absurd (e.symm.trans h7) (by decide)
 have hv0:=hv.2.2 hne;exact bN hv0 (by omega) fun y _ _=>bL (fun _=>aD trivial) fun _=>aD trivial
theorem AH (hf:rF t):(R.gE t).sat fun r=>Eq (α:=Int) (r.2) (0)->pP t/\qy t t.length:=by
 unfold R.gE
 refine aA fun _=>aB (may_ok hf) fun b hb=>eD (aH (fun e=>?_) fun _=>aD fun e=>absurd (show (2:Int)=0 from e) (by decide))
 obtain ⟨hg,ho⟩:=hb e;have hl:=hg.len;refine aB (B5 hg hf ho) fun up hu=>aA fun _=>aB (mR (fun i=>i) t.length (by omega) (by omega) (by omega) fun i h0 h1=>?_).ok fun x _=>?_
 ·exact fZ (fun hi=>aB (Er hg hf ho hu h0 (by omega)) fun _ _=>aH (fun _=>aD trivial) fun _=>aD ⟨rfl,hi,trivial⟩) fun _=>aD trivial
 ·cases x with
  |inl _=>exact je (aD fun _=>⟨hg,ho⟩)
  |inr z=>exact jf (aD fun _=>⟨hg,ho⟩)
end
end Go.Mach

set_option maxRecDepth 100000
namespace Go.Mach
open Res
abbrev EndI:=gY.den
abbrev xB:=dy.den
def EndOk (r:wc×EndI):Prop:=(r.2=(0,([]:List Int))/\wi r.1)\/(r.1=EN/\LE.le (α:=Int) (1) (r.2.1)/\LE.le (α:=Int) (r.2.1) (6)/\(Eq (α:=Int) (r.2.1) (2)\/r.2.2=[]))
theorem EL {C:Cx}{m:Int}{s:RunT}{v:eY}(h:iS C m s) (hm:m<=2^39):(R.dY s v).sat fun _=>True:=by
 unfold R.dY;obtain ⟨B,g1,_,_⟩:=h.heap hm;refine aA fun _=>ob (fun _=>q_b fun _=>aA fun _=>aD trivial) fun _=>aB (oV g1) fun r hr=>aA fun _=>aB (R:=fun b=>b=true->r.2=true) (aH (fun e=>aD fun _=>e) fun _=>aD fun e=>by cases e) fun b hb=>aH (fun e=>?_) fun _=>aB (dw (by decide)) fun _ _=>aA fun _=>aD trivial;have:=hr.nn (hb e);exact aB (dw (by omega)) fun _ _=>aA fun _=>aD trivial
def vM (lim:xB):Bool:=decide ((LE.le (α:=Int) (0) (lim.1)/\LE.le (α:=Int) (lim.1) (4096))/\(LE.le (α:=Int) (1) (lim.2.1)/\LE.le (α:=Int) (lim.2.1) (200))/\LE.le (α:=Int) (0) (lim.2.2)/\LE.le (α:=Int) (lim.2.2) (100000))
theorem sj {lim:xB}:(R.jc lim).sat (·=vM lim):=by
 unfold R.jc vM;have no:∀ {p:Prop} [Decidable p],¬ p->false=decide p:=fun h=>(decide_eq_false h).symm;refine aA fun _=>lg (fun h1=>lg (fun h2=>lg (fun h3=>lg (fun h4=>lg (fun h5=>aD ?_) fun h5=>aD (no ?_)) fun h4=>aD (no ?_)) fun h3=>aD (no ?_)) fun h2=>aD (no ?_)) fun h1=>aD (no ?_)
 ·show decide (LE.le (α:=Int) (lim.2.2) (100000))=decide _;congr 1;exact propext ⟨fun h=>⟨⟨h1,h2⟩,⟨h3,h4⟩,h5,h⟩,fun h=>h.2.2.2⟩
 ·exact fun h=>absurd h.2.2.1 (Int.not_le.2 h5)
 ·exact fun h=>absurd h.2.1.2 (Int.not_le.2 h4)
 ·exact fun h=>absurd h.2.1.1 (Int.not_le.2 h3)
 ·exact fun h=>absurd h.1.2 (Int.not_le.2 h2)
 ·exact fun h=>absurd h.1.1 (Int.not_le.2 h1)
theorem IF {α:Type}{m:Res α}{P:α->Prop}(h:m.sat P):(∃ a,m.sat (fun x=>x=a)/\P a)\/∀ Q:α->Prop,m.sat Q:=by
 induction m with
 |ok a=>exact .inl ⟨a,rfl,h⟩
 |stuck=>exact h.elim
 |given b k ih =>
  cases b with
  |false=>exact .inr fun Q e=>by cases e
  |true =>
   rcases ih (h rfl) with ⟨a,h1,h2⟩|h1
   ·exact .inl ⟨a,fun _=>h1,h2⟩
   ·exact .inr fun Q _=>h1 Q
theorem Bc {C:Cx}(hc:jz C){s:RunT}(h:iS C 402653184000 s) (hd:Eq (α:=Int) (s.2.2.2.2.2.1) (0)):(R.dC s).sat (nZ C 402753284000 s.2.2.2.2.2.2.1 s):=by
 unfold R.dC;have hD:=hc.D;have a0:=Aft.refl h;obtain ⟨x,hx,_⟩:=hc.tr.rt;have hx0:C.N[(0:Int).toNat]?=some x:=hx;refine aA fun _=>aB (ph h (by decide)) fun r1 ⟨g1,_⟩=>aA fun _=>cE (fun _=>aD ⟨bz,g1.up (by decide)⟩) fun e1=>?_;have a1:=g1.a0 e1;refine aB (rM hc a1.run (by decide) (Int.le_refl 0) hx0 bz) fun r2 ⟨v2,g2⟩=>aA fun _=>cE (fun _=>aD ⟨v2,(Pst.cat a1 g2).up (by decide)⟩) fun e2=>?_;have a2:=(Pst.cat a1 g2).a0 e2;have hd2:Eq (α:=Int) (r2.2.2.2.2.2.2.1) (s.2.2.2.2.2.1):=a2.dp;refine j7 a2.run (Int.le_refl 0) hx0 (af (bH ((gok hc fuel).list ⟨a2.run,?_,by decide⟩ ⟨_,hx⟩ bz) fun _ hr=>⟨hr.1,(Pst.cat a2 hr.2).up (by decide)⟩))
 have hf:(fuel:Int)=2^70:=by decide
 show 20*(HSub.hSub (α:=Int) (β:=Int) (γ:=Int) (C.D) (r2.2.2.2.2.2.2.1))+2<=(fuel:Int);rw [hd2,hd,hf];omega
theorem DV {t:List gN}{lim:xB}{l:List DY}(hg:pP t) (hf:rF t) (ho:qy t t.length) (h1:LE.le (α:=Int) (0) (lim.1)/\LE.le (α:=Int) (lim.1) (4096)) (h2:LE.le (α:=Int) (1) (lim.2.1)/\LE.le (α:=Int) (lim.2.1) (200)) (h3:LE.le (α:=Int) (0) (lim.2.2)/\LE.le (α:=Int) (lim.2.2) (3000)) (hl:l.length<=2^40):(R.gQ t lim l).sat EndOk:=by
 unfold R.gQ R.lG;refine aA fun _=>fP (aA fun _=>aD (aA fun _=>?_));have hc:jz ⟨t,lim.1,lim.2.1,lim.2.2,l⟩:=⟨hg,hf,ho,h3.2,h2.2,hl⟩
 have hr:kv (pH lim.1 0) 4096<=4096:=by rw [gf];omega
 refine aB (Bc hc (s:=(t,(lim,(l,(0,((kv (pH lim.1 0) 4096,[]),(0,(0,(EN,(0,[])))))))))) ⟨rfl,rfl,rfl,Int.le_refl 0,by show (0:Int)<=(l.length:Int);omega,⟨0,⟨hr,Nat.zero_le _,fun i c hc=>by cases hc⟩,?_⟩,Int.le_refl 0,by show (0:Int)<=lim.2.1;omega,Int.le_refl 0,h3.1,rfl,rfl⟩ rfl) fun r ⟨v,g⟩=>aA fun _=>?_
 ·show ((0:Nat):Int)+134217728*(HSub.hSub (α:=Int) (β:=Int) (γ:=Int) (lim.2.2) (0))<=402653184000;omega
 ·rcases g with ⟨e5,hh⟩|⟨e5,ha⟩
  ·refine bL (fun _=>aD ?_) fun h=>absurd e5 h;rcases hh.hs with ⟨e1,e2⟩|⟨k,k0,k1,e1,e2⟩
   ·exact .inl ⟨e1,e2⟩
   ·refine .inr ⟨e2,?_,?_,?_⟩
    ·show LE.le (α:=Int) (1) ((r.2.2.2.2.2.2.2.2.2).1);rw [e1];show 1<=k;omega
    ·show LE.le (α:=Int) ((r.2.2.2.2.2.2.2.2.2).1) (6);rw [e1];exact k1
    ·right;show (r.2.2.2.2.2.2.2.2.2).2=[];rw [e1]
  ·exact bL (fun h=>absurd h e5) fun _=>bL (fun _=>aB (EL ha.run (by decide)) fun _ _=>aA fun _=>aD (.inr ⟨rfl,show (1:Int)<=2 by decide,show (2:Int)<=6 by decide,.inl rfl⟩)) fun _=>aD (.inr ⟨rfl,show (1:Int)<=1 by decide,show (1:Int)<=6 by decide,.inr rfl⟩)
theorem sat_and {α:Type}{m:Res α}{P Q:α->Prop}(h:m.sat P) (g:m.sat Q):m.sat fun x=>P x/\Q x:=by
 induction m with
 |ok a=>exact ⟨h,g⟩
 |stuck=>exact h.elim
 |given b k ih=>exact fun e=>ih (h e) (g e)
def Goes (q:Int×Int) (lim:xB):Prop:=q.2=0/\vM lim=true
theorem Hy {q:Int×Int}{lim:xB}:(br (!(q.2 == 0)) (Res.ok true) ((R.jc lim).bind fun r=>Res.ok (!r))).sat fun b=>(b=true->¬ Goes q lim)/\(b=false->Goes q lim):=cE (fun h=>aD ⟨fun _ g=>h g.1,fun e=>by cases e⟩) fun h=>ae sj (aD ⟨(fun e g=>by rw [g.2] at e;cases e),fun e=>⟨h,by cases hm:vM lim<;>simp_all⟩⟩)
theorem CX {t:List gN}{lim:xB}{l:List DY}(hf:rF t) (h3:LE.le (α:=Int) (lim.2.2) (3000)) (hl:l.length<=2^40){q:Int×Int}(hq:(R.gE t).sat fun x=>x=q):(R.fh t lim l).sat fun r=>(Goes q lim->EndOk r)/\(¬ Goes q lim->r=(EN,(0,[]))):=by
 unfold R.fh;refine aA fun _=>aB (sat_and hq (AH hf)) fun x ⟨hx,hgo⟩=>aA fun _=>?_;subst hx;refine aB Hy fun b ⟨b1,b2⟩=>aH (fun e=>aD ⟨fun h=>absurd h (b1 e),fun _=>rfl⟩) fun e=>?_;obtain ⟨e0,em⟩:=b2 e;obtain ⟨hg,ho⟩:=hgo e0;obtain ⟨m1,m2,m3,m4⟩:=of_decide_eq_true em;exact aB (DV hg hf ho m1 m2 ⟨m3,h3⟩ hl) fun r hr=>aA fun _=>aD ⟨fun _=>hr,fun h=>absurd ⟨e0,em⟩ h⟩
end Go.Mach

set_option maxRecDepth 100000
namespace Go.Mach
open Res
variable {W:Wd}{N:NdT}{u:W.U}{c:ClT}{z:RsT}
theorem Fz {t:NdT}(hm:W.m=kv (pH W.L.1 0) 4096) (hm':W.m'=kv (pH W.L'.1 0) 4096):Sy Eq (fun r=>W.P r.2.1) (R.gQ t W.L W.A) (R.gQ t W.L' W.A'):=by
 unfold R.gQ R.lG;refine kV (zQ (CO (kV ?_)));rw [<- hm,<- hm'];refine nF (DK (W:=W) (N:=t) (u:=⟨0,Int.le_refl 0,by omega⟩) (c:=[]) (z:=(0,(0,(EN,(0,[])))))).h ?_ ?_
 ·rintro _ _ ⟨v,N,u,c,z,rfl,rfl⟩;exact kV (s_br (uc rfl) (s_br sd (uc rfl)))
 ·rintro _ ⟨v,s,rfl,hb⟩;exact sJ (b_t rfl (yC hb))
theorem xS {lim:xB}(h:vM lim=true):(R.jc lim).strip=some true:=by
 unfold R.jc;obtain ⟨⟨h1,h2⟩,⟨h3,h4⟩,h5,h6⟩:=of_decide_eq_true h
 have e:∀ {a b:Int},LE.le (α:=Int) a b->ile a b=true:=fun h=>by rw [lv];exact h
 show (br (ile 0 lim.1) _ _).strip=_;rw [e h1];show (br (ile lim.1 4096) _ _).strip=_;rw [e h2];show (br (ile 1 lim.2.1) _ _).strip=_;rw [e h3];show (br (ile lim.2.1 200) _ _).strip=_;rw [e h4];show (br (ile 0 lim.2.2) _ _).strip=_;rw [e h5];show some (ile lim.2.2 100000)=_;rw [e h6]
theorem next_s {t:NdT}(hm:W.m=kv (pH W.L.1 0) 4096) (hm':W.m'=kv (pH W.L'.1 0) 4096) (hg:vM W.L=true) (hg':vM W.L'=true):Sy Eq (fun r=>W.P r.2.1) (R.fh t W.L W.A) (R.fh t W.L' W.A'):=by
 unfold R.fh;refine kV (yr fun q=>kV (sb_br (CO (GY (uc rfl))) (Cm (s_val (xS hg) (xS hg') (CO (s_ff rfl rfl (nF (Fz hm hm') ?_ fun _ h=>sJ (yC h))))))));rintro x _ rfl;exact kV (uc rfl)
end Go.Mach

