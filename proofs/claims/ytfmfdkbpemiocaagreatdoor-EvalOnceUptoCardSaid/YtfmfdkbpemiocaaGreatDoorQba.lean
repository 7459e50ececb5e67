/-
  Proved here: the law renlaw12.EvalOnce returns true for every input of the stated bulk and leaves its arguments as they were; no further condition.
  By an AI agent; no person has read it.
-/
import Derived.Test.YtfmfdkbpemiocaaGreatDoorQay
import Derived.Test.YtfmfdkbpemiocaaGreatDoorQaz
set_option linter.all false
set_option linter.deprecated false
set_option maxRecDepth 100000
namespace Go.Mach
open Res
section
variable {C:Cx}{n:Nat}{G:af}{m k:Int}{s:RunT}{x:eT}{e:mP}{o:List UInt8}{v:dZ}
theorem vj(hc:jU C)(hG:GOk C n G)(p:Pre C (n+1) 1 0 m s)(hn:Nd C.N 3 k)(he:b8 e.2.1):(R.eval_run_expression G s k e).sat (cy C m (HAdd.hAdd (α:=Int) (β:=Int) (γ:=Int) (s.2.2.2.2.2.2.1) (1)) s):=by
 unfold R.eval_run_expression;refine aA λ_=>uW hc p (λs1 h1=>aA λ_=>jK rfl (aD ⟨bn,.inl ⟨rfl,h1⟩⟩)) λs1 e2 e3 e4 h=>aA λ_=>iC rfl ?_;have p1:Pre C n 12 100300000 (m-134217728) s1:=p.deep h e3 (by decide) (by decide) (by decide);exact aB (hG.value p1 hn he) λr ⟨v,g⟩=>aA λ_=>aD ⟨v,AL p.run e2 e3 e4 hc.D g (by omega)⟩
theorem cy.lI{m1 m2 b1:Int}{s0:RunT}{r:(dZ×Int)×RunT}(a:Aft C m1 b1 s0 s)(g:cy C m2 (HAdd.hAdd (α:=Int) (β:=Int) (γ:=Int) (s.2.2.2.2.2.2.1) (1)) s r):cy C m2 b1 s0 r:=⟨g.1,Pst.lI a g.2⟩
theorem C9(hc:jU C)(hG:GOk C n G)(p:Pre C (n+1) 12 100300000 m s)(hn:Nd C.N 3 k)(he:b8 e.2.1):(R.eval_run_value G s k e).sat (cy C (m+100300000) s.2.2.2.2.2.2.1 s):=by
 unfold R.eval_run_value;obtain ⟨k0,x,hx,hf⟩:=hn;have hf:=fit3 hf;have pm:=p.hm;have a0:=Aft.refl p.run;have rt:∀ {v:dZ},b8 v->(Res.ok ((v,(0:Int)),s):Res ((dZ×Int)×RunT)).sat (cy C (m+100300000) s.2.2.2.2.2.2.1 s):=λhv=>aD ⟨hv,(Pst.ok a0).up (by omega)⟩;have up:∀ {F:Res ((dZ×Int)×RunT)}{B:(dZ×Int)×RunT->Bool}{m':Int},m'<=m+100300000->F.sat (cy C m' s.2.2.2.2.2.2.1 s)->(F.bind λr=>given (B r) (Res.ok r)).sat (cy C (m+100300000) s.2.2.2.2.2.2.1 s):=λhm h=>aU (bG h λ_ hr=>hr.up hm);refine aA λ_=>jV p.run k0 hx (bK (λ_=>aB ni λr hr=>aA λ_=>rt (vk hr)) λn30=>bK (λ_=>aB qh λr hr=>aA λ_=>rt (vk hr)) λn31=>bK (λ_=>aB nH λr hr=>aA λ_=>rt hr.1) λn32=>bK (λ_=>up (by omega) (EK p.run (by omega))) λn33=>oE (λ_=>aB lA λr hr=>aA λ_=>rt (vk hr)) λn34=>bK (λ_=>rt (.of (show (1:Int)≠5 by decide))) λn36=>bK (λ_=>eD (aG (λ_=>rt he) λ_=>up (by omega) (fe p.run))) λn37=>bK (λh38=>aU (hG.array (p.go a0 (by decide) pm) ⟨_,hx⟩ h38 he)) λn38=>bK (λh39=>aU (hG.object (p.go a0 (by decide) pm) ⟨_,hx⟩ h39 he)) λn39=>oE (λh=>up (by omega) (vY p.run (by omega) ⟨k0,x,hx,.inr h⟩ he)) λn41=>aU (hG.operation (p.go a0 (by decide) pm) k0 hx ⟨(by omega:LE.le (α:=Int) (43) (x.1)),hf.2.1⟩ he))
theorem H9(hc:jU C){i:Nat}(hx:C.N[i]?=some x)(hk:x.1=50\/x.1=51):∀ q∈List.drop 1 x.2.2.2.2.2,Nd C.N 3 q:=λq hq=>by
 obtain ⟨j,hj⟩:=List.getElem?_of_mem (List.mem_of_mem_drop hq);refine (hc.tr.nod _ x hx).nd hj 3 ?_
 rcases hk with e|e<;>rw [e]<;>(cases j with
  |zero=>rfl
  |succ j=>rfl)
theorem DU(hc:jU C)(hG:GOk C n G)(p:Pre C (n+1) 2 100300000 m s)(hx:Nk C.N x)(hk:x.1=38)(he:b8 e.2.1):(R.eval_run_array G s x.2.2.2.2.2 e).sat (cy C (m+100300000) s.2.2.2.2.2.2.1 s):=by
 unfold R.eval_run_array;obtain ⟨i,hi⟩:=hx;have hl:=hc.fw.one _ x hi;have hg:=hc.tr.nod _ x hi;have pm:=p.hm;refine aA λ_=>aB (pM p.run (by omega) (.mk' 2 rfl (by decide)) rfl rfl bn) λr1 ⟨v1,g1⟩=>aA λ_=>bx (λ_=>aD ⟨v1,g1.up (by omega)⟩) λe1=>?_;have a1:=g1.a0 e1;refine aB (gQ (Q:=pz C (m+100300000) s.2.2.2.2.2.2.1 s λs'=>Aft C (m+100300000) s.2.2.2.2.2.2.1 s s') (λy=>y.1) (x.2.2.2.2.2).length (by omega) (λy=>Aft C (m+y.1) s.2.2.2.2.2.2.1 s y.2) (by simp) (by simp) (by show Aft C (m+0) _ _ r1.2;rw [Int.add_zero];exact a1) λy y0 y1 yI=>?_) λr hr=>oi hr λs' hs'=>aD ⟨v1,.ok hs'⟩;obtain ⟨j,s1⟩:=y;have y0:0<=j:=y0;have y1:j<=((x.2.2.2.2.2).length:Int):=y1;have yI:Aft C (m+j) s.2.2.2.2.2.2.1 s s1:=yI;refine ef (λhj=>?_) λ_=>aD (yI.up (by omega));have hj:j < ((x.2.2.2.2.2).length:Int):=hj
 have hs:srt (shp x.1 (x.2.2.2.2.2).length) j.toNat=3:=by
  rw [hk];rfl
 refine ba y0 (by show _ < (x.2.2.2.2.2).length;omega) λq hq _=>aB (hG.gj (p.go yI (by decide) (by omega)) (hg.nd hq 3 hs) he) λr ⟨v,g⟩=>aA λ_=>bx (λ_=>aD ⟨v,(Pst.lI yI g).up (by omega)⟩) λe2=>?_;have a2:=(Pst.lI yI g).a0 e2;refine q_b λ_=>aA λ_=>aB (uF a2.run (by omega) v) λr3 a3=>aA λ_=>aD ⟨rfl,hj,?_⟩;show Aft C (m+w6 (j+1)) _ _ _;rw [wrap64 (n:=j+1) (by omega),<- Int.add_assoc];exact a2.cat a3
theorem B8(hc:jU C)(hG:GOk C n G)(p:Pre C (n+1) 2 100300000 m s)(hx:Nk C.N x)(hk:x.1=39)(he:b8 e.2.1):(R.eval_run_object G s x.2.2.2.2.2 e).sat (cy C (m+100300000) s.2.2.2.2.2.2.1 s):=by
 unfold R.eval_run_object;obtain ⟨i,hi⟩:=hx;have hl:=hc.fw.one _ x hi;have hg:=hc.tr.nod _ x hi;have pm:=p.hm;refine aA λ_=>aB (pM p.run (by omega) (.mk' 1 rfl (by decide)) rfl rfl bn) λr1 ⟨v1,g1⟩=>aA λ_=>bx (λ_=>aD ⟨v1,g1.up (by omega)⟩) λe1=>?_;have a1:=g1.a0 e1;refine aB (gQ (Q:=pz C (m+100300000) s.2.2.2.2.2.2.1 s λs'=>Aft C (m+100300000) s.2.2.2.2.2.2.1 s s') (λy=>y.1) (x.2.2.2.2.2).length (by omega) (λy=>Aft C (m+y.1) s.2.2.2.2.2.2.1 s y.2) (by simp) (by simp) (by show Aft C (m+0) _ _ r1.2;rw [Int.add_zero];exact a1) λy y0 y1 yI=>?_) λr hr=>oi hr λs' hs'=>aD ⟨v1,.ok hs'⟩;obtain ⟨j,s1⟩:=y;have y0:0<=j:=y0;have y1:j<=((x.2.2.2.2.2).length:Int):=y1;have yI:Aft C (m+j) s.2.2.2.2.2.2.1 s s1:=yI;refine ef (λhj=>?_) λ_=>aD (yI.up (by omega));have hj:j < ((x.2.2.2.2.2).length:Int):=hj
 have hs:srt (shp x.1 (x.2.2.2.2.2).length) j.toNat=7:=by
  rw [hk];rfl
 refine ba y0 (by show _ < (x.2.2.2.2.2).length;omega) λd hd _=>?_;obtain ⟨d0,z,hz,hf⟩:=hg.nd hd 7 hs;have hz40:z.1=40:=eq_of_beq hf;have hgz:=hc.tr.nod _ z hz;obtain ⟨q,hq,nq⟩:=iW hgz 0 3 (by rw [hz40];simp [shp]) (by rw [hz40];rfl);refine jV yI.run d0 hz (gn (by decide) hq (aB (hG.gj (p.go yI (by decide) (by omega)) nq he) λr ⟨v,g⟩=>aA λ_=>bx (λ_=>aD ⟨v,(Pst.lI yI g).up (by omega)⟩) λe2=>?_));have a2:=(Pst.lI yI g).a0 e2;refine aB (dc (by decide)) λ_ _=>aA λ_=>q_b λ_=>aG (λ_=>aB (fe a2.run) λr2 hr2=>aA λ_=>aD ((hr2.cat a2).up (by omega))) λ_=>aB (uF a2.run (by omega) v) λr3 a3=>aA λ_=>aD ⟨rfl,hj,?_⟩;show Aft C (m+w6 (j+1)) _ _ _;rw [wrap64 (n:=j+1) (by omega),<- Int.add_assoc];exact a2.cat a3
theorem w5(hc:jU C)(hG:GOk C n G)(p:Pre C (n+1) 11 100300000 m s)(k0:0<=k)(hx:C.N[k.toNat]?=some x)(hk:43<=x.1/\x.1<=53)(he:b8 e.2.1):(R.eval_run_operation G s k x e).sat (cy C (m+100300000) s.2.2.2.2.2.2.1 s):=by
 unfold R.eval_run_operation;have hk:LE.le (α:=Int) (43) (x.1)/\LE.le (α:=Int) (x.1) (53):=hk;have hl:=hc.fw.one _ x hx;have hg:=hc.tr.nod _ x hx;have pm:=p.hm;have a0:=Aft.refl p.run;have up:∀ {F:Res ((dZ×Int)×RunT)}{B:(dZ×Int)×RunT->Bool},F.sat (cy C m s.2.2.2.2.2.2.1 s)->(F.bind λr=>given (B r) (Res.ok r)).sat (cy C (m+100300000) s.2.2.2.2.2.2.1 s):=λh=>aU (bG h λ_ hr=>hr.up (by omega));have ex:∀ {q:Int}{s1:RunT},Aft C m s.2.2.2.2.2.2.1 s s1->Nd C.N 3 q->(G.eval_run_expression s1 q e).sat (cy C m s.2.2.2.2.2.2.1 s):=λa hn=>bG (hG.gj (p.go a (by decide) (by omega)) hn he) λ_ hr=>hr.lI a;refine aA λ_=>bK (λh=>?_) λ_=>oE (λh=>aU (hG.step (p.go a0 (by decide) pm) ⟨_,hx⟩ h he)) λ_=>bK (λh=>up (hG.binary (p.go a0 (by decide) (by omega)) ⟨_,hx⟩ h he)) λ_=>bK (λh=>up (hG.logic (p.go a0 (by decide) (by omega)) ⟨_,hx⟩ h he)) λ_=>bK (λh=>?_) λ_=>bK (λh=>aU (hG.assign (p.go a0 (by decide) pm) ⟨_,hx⟩ h he)) λ_=>bK (λh=>aU (hG.callee (p.go a0 (by decide) pm) ⟨_,hx⟩ h he)) λ_=>bK (λh=>?_) λ_=>up (hG.property (p.go a0 (by decide) (by omega)) ⟨k0,x,hx,fit_4 (by omega)⟩ he)
 ·obtain ⟨q,hq,nq⟩:=iW hg 0 3 (by rw [h];simp [shp]) (by rw [h];rfl);exact gn (by decide) hq (up (hG.unary (p.go a0 (by decide) (by omega)) nq he))
 ·obtain ⟨q0,hq0,nq0⟩:=iW hg 0 3 (by rw [h];simp [shp]) (by rw [h];rfl);obtain ⟨q1,hq1,nq1⟩:=iW hg 1 3 (by rw [h];simp [shp]) (by rw [h];rfl);obtain ⟨q2,hq2,nq2⟩:=iW hg 2 3 (by rw [h];simp [shp]) (by rw [h];rfl);refine gn (by decide) hq0 (aB (ex a0 nq0) λr hr=>aA λ_=>bx (λ_=>aD (hr.up (by omega))) λe1=>q_b λ_=>?_);have a1:=hr.2.a0 e1;exact aG (λ_=>gn (by decide) hq1 (up (ex a1 nq1))) λ_=>gn (by decide) hq2 (up (ex a1 nq2))
 ·obtain ⟨q0,hq0,nq0⟩:=iW hg 0 3 (by rw [h];simp [shp]) (by rw [h];rfl);have hlen:1<=(x.2.2.2.2.2).length:=(List.getElem?_eq_some_iff.1 hq0).1;refine gn (by decide) hq0 (aB (ex a0 nq0) λr hr=>aA λ_=>bx (λ_=>aD (hr.up (by omega))) λe1=>fZ (gY (by decide) (gY (by show (1:Int)<=((x.2.2.2.2.2).length:Int);omega) ?_)));have a1:=hr.2.a0 e1;refine aB (hG.arguments (l:=List.drop 1 x.2.2.2.2.2) (p.go a1 (by decide) (by omega)) (by rw [List.length_drop];omega) (H9 hc hx (.inr h)) he) λr2 ⟨l2,v2,g2⟩=>aA λ_=>bx (λ_=>aD ⟨v2,(Pst.cat a1 g2).up (by omega)⟩) λe2=>?_;have a2:=(Pst.cat a1 g2).a0 e2;exact aU (bG (hG.fresh (p.go a2 (by decide) pm) l2) λ_ hr=>hr.cat a2)
theorem Ce(hc:jU C)(hG:GOk C n G)(p:Pre C (n+1) 2 0 m s)(hn:Nd C.N 3 k)(he:b8 e.2.1):(R.eval_run_unary G s o k e).sat (cy C m s.2.2.2.2.2.2.1 s):=by
 unfold R.eval_run_unary;have pm:=p.hm;have a0:=Aft.refl p.run;have ex:(G.eval_run_expression s k e).sat (cy C m s.2.2.2.2.2.2.1 s):=bG (hG.gj (p.go a0 (by decide) (by omega)) hn he) λ_ hr=>hr.lI a0;obtain ⟨k0,x,hx,hf⟩:=hn;refine aA λ_=>eD (aG (λ_=>?_) λ_=>aB ex λr hr=>aA λ_=>bx (λ_=>aD hr) λe1=>aB Ka λr2 v2=>aA λ_=>aU (bG (qK (hr.2.a0 e1).run (by omega) v2) λ_ h=>h.cat (hr.2.a0 e1)));refine aB (R:=pz C m s.2.2.2.2.2.2.1 s λq:Int×(RunT×dZ)=>cy C m s.2.2.2.2.2.2.1 s ((q.2.2,q.1),q.2.1)) (jV p.run k0 hx (bK (λ_=>uW hc p (λs1 h1=>aA λ_=>jK rfl (aD ⟨bn,.inl ⟨rfl,h1⟩⟩)) λs1 e2 e3 e4 h=>aA λ_=>iC rfl (aB (Aw h (by omega)) λr ⟨v,g⟩=>aA λ_=>aD ⟨v,(AL p.run e2 e3 e4 hc.D g (by omega)).mono (Int.le_refl _) (by omega)⟩)) λ_=>aB ex λr hr=>aA λ_=>aD hr)) λr hr=>oi hr λq ⟨v,g⟩=>bx (λ_=>aD ⟨v,g⟩) λe1=>aB Iz λr2 h2=>aA λ_=>aB (dc (by omega)) λ_ _=>aA λ_=>aB nH λr4 h4=>aA λ_=>aD ⟨h4.1,.ok (g.a0 e1)⟩
theorem DS(hc:jU C)(hG:GOk C n G)(p:Pre C (n+1) 2 0 m s)(hn:Nd C.N 4 k)(he:b8 e.2.1):(R.eval_run_parts G s k e).sat (PPst C m s.2.2.2.2.2.2.1 s):=by
 unfold R.eval_run_parts;have pm:=p.hm;have a0:=Aft.refl p.run;obtain ⟨k0,x,hx,hf⟩:=hn;have hf:=fit4 hf;have hg:=hc.tr.nod _ x hx;have hnm:=hc.fw.nm _ x hx;have ex:∀ {q:Int}{s1:RunT},Aft C m s.2.2.2.2.2.2.1 s s1->Nd C.N 3 q->(G.eval_run_expression s1 q e).sat (cy C m s.2.2.2.2.2.2.1 s):=λa hn=>bG (hG.gj (p.go a (by decide) (by omega)) hn he) λ_ hr=>hr.lI a;refine aA λ_=>jV p.run k0 hx (bK (λ_=>aD ⟨⟨bn,bn⟩,bn,.ok a0⟩) λh33=>?_)
 obtain ⟨q,hq,nq⟩:∃ q,x.2.2.2.2.2[0]?=some q/\Nd C.N 3 q:=by
  rcases hf.resolve_left h33 with h|h
  ·exact iW hg 0 3 (by rw [h];simp [shp]) (by rw [h];rfl)
  ·exact iW hg 0 3 (by rw [h];simp [shp]) (by rw [h];rfl)
 refine gn (by decide) hq (aB (ex a0 nq) λr hr=>aA λ_=>bx (λ_=>aD ⟨⟨bn,bn⟩,hr.1,hr.2⟩) λe1=>bK (λ_=>aB (dc (by show x.2.1.length<=_;omega)) λ_ _=>aA λ_=>aB nH λr4 h4=>aA λ_=>aD ⟨⟨hr.1,h4.1⟩,bn,.ok (hr.2.a0 e1)⟩) λh52=>?_);have h53:x.1=53:=(hf.resolve_left h33).resolve_left h52;have a1:=hr.2.a0 e1;obtain ⟨q1,hq1,nq1⟩:=iW hg 1 3 (by rw [h53];simp [shp]) (by rw [h53];rfl);exact gn (by decide) hq1 (aB (ex a1 nq1) λr2 hr2=>aA λ_=>bx (λ_=>aD ⟨⟨bn,bn⟩,hr2.1,hr2.2⟩) λe2=>aD ⟨⟨hr.1,hr2.1⟩,bn,.ok (hr2.2.a0 e2)⟩)
theorem property_step(hc:jU C)(hG:GOk C n G)(p:Pre C (n+1) 3 0 m s)(hn:Nd C.N 4 k)(he:b8 e.2.1):(R.eval_run_property G s k e).sat (cy C m s.2.2.2.2.2.2.1 s):=by
 unfold R.eval_run_property;have pm:=p.hm;have a0:=Aft.refl p.run;exact aA λ_=>aB (hG.parts (p.go a0 (by decide) (by omega)) hn he) λr ⟨t1,v1,g1⟩=>aA λ_=>bx (λ_=>aD ⟨v1,g1⟩) λe1=>aU (bG (CU hc (g1.a0 e1).run (by omega)) λ_ hr=>hr.cat (g1.a0 e1))
theorem E3(hc:jU C)(hG:GOk C n G)(p:Pre C (n+1) 3 100300000 m s)(hx:Nk C.N x)(hk:x.1=44\/x.1=45)(he:b8 e.2.1):(R.eval_run_step G s x e).sat (cy C (m+100300000) s.2.2.2.2.2.2.1 s):=by
 unfold R.eval_run_step;have pm:=p.hm;have a0:=Aft.refl p.run;obtain ⟨i,hi⟩:=hx;have hg:=hc.tr.nod _ x hi
 obtain ⟨q,hq,nq⟩:∃ q,x.2.2.2.2.2[0]?=some q/\Nd C.N 4 q:=by
  rcases hk with h|h
  ·exact iW hg 0 4 (by rw [h];simp [shp]) (by rw [h];rfl)
  ·exact iW hg 0 4 (by rw [h];simp [shp]) (by rw [h];rfl)
 refine aA λ_=>gn (by decide) hq (aB (hG.parts (p.go a0 (by decide) (by omega)) nq he) λr ⟨t1,v1,g1⟩=>aA λ_=>bx (λ_=>aD ⟨v1,g1.up (by omega)⟩) λe1=>?_);have a1:=g1.a0 e1;refine aB (D4 hc a1.run (by omega)) λr2 h2=>aA λ_=>?_;have h2:=h2.cat a1;refine bx (λ_=>aD (h2.up (by omega))) λe2=>?_;have a2:=h2.2.a0 e2;have sg:∀ {q:Int}{B:(dZ×Int)×RunT->Bool},((R.aF r2.2 q).bind λr=>given (B r) (Res.ok r)).sat (cy C (m+100300000) s.2.2.2.2.2.2.1 s):=aU (bG (gZ a2.run (by omega)) λ_ hr=>(hr.cat a2).up (by omega));refine aB Ed λr4 h4=>aA λ_=>bx (λ_=>sg) λ_=>aB (R:=λ_=>True) (aG (λ_=>aD trivial) λ_=>aD trivial) λ_ _=>aB step_t λr7 h7=>aA λ_=>bx (λ_=>sg) λ_=>aB (Hc hc a2.run (by omega) h7) λr9 h9=>aA λ_=>?_;have h9:=h9.cat a2;exact bx (λ_=>aD (h9.up (by omega))) λe9=>bK (λ_=>aD ⟨h7,(Pst.ok (h9.2.a0 e9)).up (by omega)⟩) λ_=>aD ⟨h4,(Pst.ok (h9.2.a0 e9)).up (by omega)⟩
theorem Ae(hc:jU C)(hG:GOk C n G)(p:Pre C (n+1) 2 0 m s)(hx:Nk C.N x)(hk:x.1=46)(he:b8 e.2.1):(R.eval_run_binary G s x e).sat (cy C m s.2.2.2.2.2.2.1 s):=by
 unfold R.eval_run_binary;have pm:=p.hm;have a0:=Aft.refl p.run;obtain ⟨i,hi⟩:=hx;have hg:=hc.tr.nod _ x hi;have ex:∀ {q:Int}{s1:RunT},Aft C m s.2.2.2.2.2.2.1 s s1->Nd C.N 3 q->(G.eval_run_expression s1 q e).sat (cy C m s.2.2.2.2.2.2.1 s):=λa hn=>bG (hG.gj (p.go a (by decide) (by omega)) hn he) λ_ hr=>hr.lI a;obtain ⟨q0,hq0,n0⟩:=iW hg 0 3 (by rw [hk];simp [shp]) (by rw [hk];rfl);obtain ⟨q1,hq1,n1⟩:=iW hg 1 3 (by rw [hk];simp [shp]) (by rw [hk];rfl);exact aA λ_=>gn (by decide) hq0 (aB (ex a0 n0) λr hr=>aA λ_=>bx (λ_=>aD hr) λe1=>gn (by decide) hq1 (aB (ex (hr.2.a0 e1) n1) λr2 hr2=>aA λ_=>bx (λ_=>aD hr2) λe2=>aG (λ_=>aU (bG (in_ok hc (hr2.2.a0 e2).run (by omega)) λ_ h=>h.cat (hr2.2.a0 e2))) λ_=>aB B5 λr4 h4=>aA λ_=>aU (bG (qK (hr2.2.a0 e2).run (by omega) h4) λ_ h=>h.cat (hr2.2.a0 e2))))
theorem CP(hc:jU C)(hG:GOk C n G)(p:Pre C (n+1) 2 0 m s)(hx:Nk C.N x)(hk:x.1=47)(he:b8 e.2.1):(R.eval_run_logic G s x e).sat (cy C m s.2.2.2.2.2.2.1 s):=by
 unfold R.eval_run_logic;have pm:=p.hm;have a0:=Aft.refl p.run;obtain ⟨i,hi⟩:=hx;have hg:=hc.tr.nod _ x hi;have ex:∀ {q:Int}{s1:RunT},Aft C m s.2.2.2.2.2.2.1 s s1->Nd C.N 3 q->(G.eval_run_expression s1 q e).sat (cy C m s.2.2.2.2.2.2.1 s):=λa hn=>bG (hG.gj (p.go a (by decide) (by omega)) hn he) λ_ hr=>hr.lI a;obtain ⟨q0,hq0,n0⟩:=iW hg 0 3 (by rw [hk];simp [shp]) (by rw [hk];rfl);obtain ⟨q1,hq1,n1⟩:=iW hg 1 3 (by rw [hk];simp [shp]) (by rw [hk];rfl);exact aA λ_=>gn (by decide) hq0 (aB (ex a0 n0) λr hr=>aA λ_=>bx (λ_=>aD hr) λe1=>aB (dw0:Safe _).ok λ_ _=>aG (λ_=>aD ⟨hr.1,.ok (hr.2.a0 e1)⟩) λ_=>gn (by decide) hq1 (aU (ex (hr.2.a0 e1) n1)))
theorem BC(hc:jU C)(hG:GOk C n G)(p:Pre C (n+1) 3 100300000 m s)(hx:Nk C.N x)(hk:x.1=49)(he:b8 e.2.1):(R.eval_run_assign G s x e).sat (cy C (m+100300000) s.2.2.2.2.2.2.1 s):=by
 unfold R.eval_run_assign;have pm:=p.hm;have a0:=Aft.refl p.run;obtain ⟨i,hi⟩:=hx;have hg:=hc.tr.nod _ x hi;have hnm:=hc.fw.nm _ x hi
 have hnn:1<=x.2.1.length:=by
  have:=hg.nam hk
  cases h:x.2.1 with
  |nil=>exact absurd h this
  |cons _ _=>simp
 have ew:w6 ((x.2.1.length:Int)-1)=(x.2.1.length:Int)-1:=wrap64 (by omega);obtain ⟨q0,hq0,n0⟩:=iW hg 0 4 (by rw [hk];simp [shp]) (by rw [hk];rfl);obtain ⟨q1,hq1,n1⟩:=iW hg 1 3 (by rw [hk];simp [shp]) (by rw [hk];rfl);refine aA λ_=>gn (by decide) hq0 (aB (hG.parts (p.go a0 (by decide) (by omega)) n0 he) λr ⟨t1,v1,g1⟩=>aA λ_=>bx (λ_=>aD ⟨v1,g1.up (by omega)⟩) λe1=>fZ (gY (by rw [ew];omega) (gY (by rw [ew];omega) ?_)));have a1:=g1.a0 e1;refine aB (R:=pz C (m+100300000) s.2.2.2.2.2.2.1 s λq:RunT×dZ=>Aft C m s.2.2.2.2.2.2.1 s q.1/\b8 q.2) (eD (aG (λ_=>aD ⟨a1,bn⟩) λ_=>aB (D4 hc a1.run (by omega)) λr2 h2=>aA λ_=>bx (λ_=>aD ((h2.cat a1).up (by omega))) λe2=>aD ⟨(h2.cat a1).2.a0 e2,h2.1⟩)) λr2 hr2=>oi hr2 λq ⟨a2,v2⟩=>?_;refine gn (by decide) hq1 (aB (hG.gj (p.go a2 (by decide) (by omega)) n1 he) λr8 h8=>aA λ_=>?_);have h8:=h8.lI a2;refine bx (λ_=>aD (h8.up (by omega))) λe8=>?_;have a8:=h8.2.a0 e8;refine aB (R:=pz C (m+100300000) s.2.2.2.2.2.2.1 s b8) (eD (aG (λ_=>aD h8.1) λ_=>aB B5 λr9 h9=>aA λ_=>bx (λ_=>oy (bG (gZ a8.run (by omega)) λ_ hr=>(hr.cat a8).up (by omega))) λ_=>aD h9)) λr11 hr11=>oi hr11 λw vw=>aB (Hc hc a8.run (by omega) vw) λr14 h14=>aA λ_=>?_;have h14:=h14.cat a8;exact bx (λ_=>aD (h14.up (by omega))) λe14=>aD ⟨vw,(Pst.ok (h14.2.a0 e14)).up (by omega)⟩
theorem Ai(hc:jU C)(hG:GOk C n G)(p:Pre C (n+1) 2 0 m s)(hn:Nd C.N 3 k)(he:b8 e.2.1):(R.eval_run_called G s k e).sat (CPst C m s.2.2.2.2.2.2.1 s):=by
 unfold R.eval_run_called;have pm:=p.hm;have a0:=Aft.refl p.run;have hn':=hn;obtain ⟨k0,x,hx,hf⟩:=hn';refine aA λ_=>jV p.run k0 hx (aB (R:=λb=>b=false->x.1=52\/x.1=53) (o7 (λ_=>aD λe=>?_) λe=>aD λ_=>.inl e) λb hb=>aG (λ_=>aB (hG.gj (p.go a0 (by decide) (by omega)) hn he) λr hr=>aA λ_=>aD ⟨hr.1,bn,Pst.lI a0 hr.2⟩) λeb=>uW hc p (λs1 h1=>aA λ_=>jK rfl (aD ⟨bn,bn,.inl ⟨rfl,h1⟩⟩)) λs1 e2 e3 e4 h=>aA λ_=>iC rfl ?_)
 ·exact .inr (eq_of_beq (by cases h:(x.1 == 53)<;>simp_all))
 ·have p1:Pre C n 2 0 (m-134217728) s1:=p.deep h e3 (by decide) (by decide) (by decide);have a1:=Aft.refl h;refine aB (hG.parts p1 ⟨k0,x,hx,fit_4 (.inr (hb eb))⟩ he) λr ⟨t1,v1,g1⟩=>aA λ_=>aB (R:=λq:Int×(RunT×dZ)=>cy C (m-134217728) s1.2.2.2.2.2.2.1 s1 ((q.2.2,q.1),q.2.1)) (bK (λe1=>aB (CU hc (g1.a0 e1).run (by omega)) λr2 h2=>aA λ_=>aD (h2.cat (g1.a0 e1))) λ_=>aD ⟨v1,g1⟩) λq ⟨v2,g2⟩=>aD ⟨v2,t1.1,(AL p.run e2 e3 e4 hc.D g2 (by omega)).mono (Int.le_refl _) (by omega)⟩
end
end Go.Mach

set_option maxRecDepth 100000
namespace Go.Mach
open Res
theorem FQ{n:Int}(h:1<=n){last d:Int}:(zo n last).getD (n-1).toNat d=last:=by
 unfold zo;rw [List.getD_eq_getElem?_getD,List.getElem?_append_right (by simp)];simp
theorem fit13{k:Int}(h:og 13 k=true)(h1:k≠4):og 3 k=true:=by simpa [og,h1] using h
section
variable {C:Cx}{n:Nat}{G:af}{m k:Int}{s:RunT}{x:eT}{e:mP}{a:List UInt8}{v f t:dZ}{l:List dZ}
theorem FnC.ext{s':RunT}{i:Int}(h:FnC s i)(g:nz s.2.2.2.2.1.2 s'.2.2.2.2.1.2):FnC s' i:=by
 obtain ⟨i0,c,hc,e⟩:=h;obtain ⟨d,hd,hs⟩:=g _ c hc;exact ⟨i0,d,hd,hs.k.trans e⟩
theorem wH(hc:jU C)(hG:GOk C n G)(p:Pre C (n+1) 2 0 m s){l:List Int}(hl:l.length<=20000)(hn:∀ q∈l,Nd C.N 3 q)(he:b8 e.2.1):(R.eval_run_arguments G s l e).sat (APst C m s.2.2.2.2.2.2.1 s):=by
 unfold R.eval_run_arguments;have pm:=p.hm
 refine aA λ_=>aB (gQ (Q:=λr:(List dZ×RunT) ⊕ (List dZ×(Int×(RunT×dZ)))=>match r with|.inl q=>uG q.1/\Aft C m s.2.2.2.2.2.2.1 s q.2|.inr z=>APst C m s.2.2.2.2.2.2.1 s ((z.1,(z.2.2.2,z.2.1)),z.2.2.1)) (λy=>y.2.1) l.length (by omega) (λy=>y.1.length=y.2.1.toNat/\(∀ v∈y.1,b8 v)/\Aft C m s.2.2.2.2.2.2.1 s y.2.2) (by simp) (by simp) ⟨rfl,by simp,Aft.refl p.run⟩ λy y0 y1 yI=>?_) λr hr=>?_
 ·obtain ⟨vs,j,s1⟩:=y;have y0:0<=j:=y0;have y1:j<=(l.length:Int):=y1;obtain ⟨i1,i2,i3⟩:=yI;have i1:vs.length=j.toNat:=i1;have i2:∀ v∈vs,b8 v:=i2;have i3:Aft C m s.2.2.2.2.2.2.1 s s1:=i3;refine ef (λhj=>?_) λ_=>aD ⟨⟨by show vs.length<=_;omega,i2⟩,i3⟩;have hj:j < (l.length:Int):=hj;refine ba y0 (by show _ < l.length;omega) λq hq _=>aB (hG.gj (p.go i3 (by decide) (by omega)) (hn q (List.mem_of_getElem? hq)) he) λr ⟨v,g⟩=>aA λ_=>bx (λ_=>aD ⟨⟨Nat.zero_le _,λ_ h=>by cases h⟩,v,Pst.lI i3 g⟩) λe1=>bD (decide_eq_true ?_) (aD ⟨rfl,hj,?_,ri i2 v,(Pst.lI i3 g).a0 e1⟩)
  ·show (vs.length+1)*88<=2^47;omega
  ·show (vs++[_]).length=(w6 (j+1)).toNat;rw [wrap64 (by omega),List.length_append];simp;omega
 ·cases r with
  |inl q=>exact iy (aD ⟨hr.1,bn,.ok hr.2⟩)
  |inr z=>exact iv (aD hr)
theorem Bm(hc:jU C)(hG:GOk C n G)(p:Pre C (n+1) 10 100300000 m s)(hx:Nk C.N x)(hk:x.1=50)(he:b8 e.2.1):(R.eval_run_callee G s x.2.2.2.2.2 e).sat (cy C (m+100300000) s.2.2.2.2.2.2.1 s):=by
 unfold R.eval_run_callee;obtain ⟨i,hi⟩:=hx;have hl:=hc.fw.one _ x hi;have hg:=hc.tr.nod _ x hi;have pm:=p.hm;have a0:=Aft.refl p.run;obtain ⟨q0,hq0,n0⟩:=iW hg 0 3 (by rw [hk];simp [shp]) (by rw [hk];rfl);have hlen:1<=(x.2.2.2.2.2).length:=(List.getElem?_eq_some_iff.1 hq0).1;refine aA λ_=>gn (by decide) hq0 (aB (hG.called (p.go a0 (by decide) (by omega)) n0 he) λr ⟨v1,v2,g1⟩=>aA λ_=>bx (λ_=>aD ⟨v1,g1.up (by omega)⟩) λe1=>fZ (gY (by decide) (gY (by show (1:Int)<=((x.2.2.2.2.2).length:Int);omega) ?_)));have a1:=g1.a0 e1;refine aB (hG.arguments (l:=List.drop 1 x.2.2.2.2.2) (p.go a1 (by decide) (by omega)) (by rw [List.length_drop];omega) (H9 hc hi (.inl hk)) he) λr2 ⟨l2,v3,g2⟩=>aA λ_=>bx (λ_=>aD ⟨v3,(Pst.cat a1 g2).up (by omega)⟩) λe2=>?_;have a2:=(Pst.cat a1 g2).a0 e2;exact aU (bG (hG.call (p.go a2 (by decide) pm) v2 l2) λ_ hr=>hr.cat a2)
theorem Fk(hc:jU C)(hG:GOk C n G)(p:Pre C (n+1) 8 100300000 m s)(ht:b8 t)(hl:uG l):(R.eval_run_call G s f t l).sat (cy C (m+100300000) s.2.2.2.2.2.2.1 s):=by
 unfold R.eval_run_call;have pm:=p.hm;have a0:=Aft.refl p.run;have sg:∀ {q:Int}{B:(dZ×Int)×RunT->Bool},((R.aF s q).bind λr=>given (B r) (Res.ok r)).sat (cy C (m+100300000) s.2.2.2.2.2.2.1 s):=aU (bG (gZ p.run (by omega)) λ_ hr=>hr.up (by omega));refine aA λ_=>o7 (λ_=>sg) λ_=>aB uE λnm ⟨h1,_⟩=>aA λ_=>aB ux λb hb=>aG (λ_=>aU (hG.does (p.go a0 (by decide) pm) h1 ht hl)) λ_=>aB nf λq hq=>aA λ_=>o7 (λ_=>sg) λh3=>aU (hG.apply (p.go a0 (by decide) pm) ?_ ht hl);rcases hq with ⟨h0,_⟩|⟨i0,c,hc',e⟩
 ·rw [h0] at h3;cases h3
 ·exact ⟨i0,c,hc',e.symm.trans h3⟩
theorem Cu(hc:jU C)(hG:GOk C n G)(p:Pre C (n+1) 4 100300000 m s)(hf:f.1=6)(hF:FnC s f.2.2.2.2)(ht:b8 t)(hl:uG l):(R.eval_run_call G s f t l).sat (cy C (m+100300000) s.2.2.2.2.2.2.1 s):=by
 unfold R.eval_run_call;have pm:=p.hm;have a0:=Aft.refl p.run;obtain ⟨B,g1,_,_⟩:=p.run.heap (by omega);have hF':=hF;obtain ⟨i0,c,hc',e3⟩:=hF'
 have hlt:LT.lt (α:=Int) (f.2.2.2.2) (4096):=by
  have h1:=(List.getElem?_eq_some_iff.1 hc').1;have h2:=g1.le;omega
 refine aA λ_=>o7 (λh=>absurd hf h) λ_=>aB uE λnm ⟨_,h1⟩=>aA λ_=>aB ux λb hb=>aG (λe=>absurd (h1 hlt) (hb e)) λ_=>aB nf λq hq=>aA λ_=>o7 (λh=>?_) λ_=>aU (hG.apply (p.go a0 (by decide) pm) hF ht hl);rcases hq with ⟨_,h0⟩|⟨_,c',hc2,e⟩
 ·exact absurd ⟨i0,(List.getElem?_eq_some_iff.1 hc').1⟩ h0
 ·have:some c=some c':=hc'.symm.trans hc2;cases this;exact absurd (e.trans e3) h
theorem DI(hc:jU C)(hG:GOk C n G)(p:Pre C (n+1) 9 100300000 m s)(hl:uG l):(R.eval_run_fresh G s f l).sat (cy C (m+100300000) s.2.2.2.2.2.2.1 s):=by
 unfold R.eval_run_fresh;have pm:=p.hm;have a0:=Aft.refl p.run;obtain ⟨B,g1,g2,_⟩:=p.run.heap (by omega);have sg:∀ {q:Int}{B:(dZ×Int)×RunT->Bool},((R.aF s q).bind λr=>given (B r) (Res.ok r)).sat (cy C (m+100300000) s.2.2.2.2.2.2.1 s):=aU (bG (gZ p.run (by omega)) λ_ hr=>hr.up (by omega));refine aA λ_=>o7 (λ_=>sg) λ_=>aB (ow g1) λr hr=>aA λ_=>eD (aG (λhr2=>?_) λ_=>aB uE λnm ⟨h1,_⟩=>aA λ_=>aU (hG.builds (p.go a0 (by decide) pm) h1 hl));refine aB (R:=λb=>b=false->Eq (α:=Int) (r.1.1) (3)) (o7 (λ_=>aD λe=>by cases e) λe=>aD λ_=>e) λb hb=>aG (λ_=>sg) λeb=>?_
 have hF:FnC s f.2.2.2.2:=by
  obtain ⟨i0,c,hc',e⟩:=hr.at' hr2;exact ⟨i0,c,hc',e.trans (hb eb)⟩
 refine aB (R:=pz C (m+100300000) s.2.2.2.2.2.2.1 s λ_:Int=>True) (aB (dc (by decide)) λ_ _=>aA λ_=>aB (uD g1 g2) λw _=>aA λ_=>bK (λ_=>aB nf λ_ _=>aA λ_=>o7 (λ_=>oy (fe p.run |> λh=>bG h λ_ hr=>cy.up (m:=m) hr (by omega))) λ_=>aD trivial) λ_=>aD trivial) λr2 hr2=>oi hr2 λpr _=>aB (pM p.run (by omega) (.mk' 1 rfl (by decide)) rfl rfl bn) λr3 h3=>aA λ_=>bx (λ_=>aD (h3.up (by omega))) λe3=>?_;have a3:=h3.2.a0 e3;refine aB (hG.apply (p.go a3 (by decide) pm) (hF.ext a3.ext) h3.1 hl) λr4 h4=>aA λ_=>?_;have h4:=h4.cat a3;refine aB (R:=λb=>b=false->Eq (α:=Int) (r4.1.2) (0)) (bx (λ_=>aD λe=>by cases e) λe=>aD λ_=>e) λb hb=>aG (λ_=>aD h4) λeb=>aD ⟨h3.1,.ok (h4.2.a0 (hb eb))⟩
theorem Ck(hc:jU C)(hG:GOk C n G)(p:Pre C (n+1) 3 100300000 m s){i:Int}(hF:FnC s i)(ht:b8 t)(hl:uG l):(R.eval_run_apply G s i t l).sat (cy C (m+100300000) s.2.2.2.2.2.2.1 s):=by
 unfold R.eval_run_apply;have pm:=p.hm;obtain ⟨B,g1,g2,_⟩:=p.run.heap (by omega);obtain ⟨i0,c,hc',e3⟩:=hF;refine aA λ_=>aB (ow g1) λr hr=>aA λ_=>aB (qP p.run (by omega)) λr2 ⟨h2,_⟩=>aA λ_=>bx (λ_=>aD ⟨bn,h2.up (by omega)⟩) λe2=>?_;have a2:=h2.a0 e2;obtain ⟨t1,t2⟩:=hr.cl c i0 hc';obtain ⟨n0,x,hx,hk⟩:=hr.fn (t2.trans e3);refine aB (R:=λe:mP=>b8 e.2.1) (bK (λ_=>aD (hr.th t1)) λ_=>bK (λ_=>aD bn) λ_=>aD ht) λe he=>jV a2.run n0 hx ?_;have hlx:=hc.fw.one _ x hx;have hg:=hc.tr.nod _ x hx
 obtain ⟨last,hlast,hsh⟩:∃ last:Int,(last=8\/last=13)/\shp x.1 (x.2.2.2.2.2).length=(zo (x.2.2.2.2.2).length last,0):=by
  rcases hk with h|h|h
  ·exact ⟨8,.inl rfl,by rw [h];rfl⟩
  ·exact ⟨8,.inl rfl,by rw [h];rfl⟩
  ·exact ⟨13,.inr rfl,by rw [h];rfl⟩
 have h1:1<=(x.2.2.2.2.2).length:=by
  have:=hg.len;rw [hsh] at this;have h2:(zo ((x.2.2.2.2.2).length:Int) last).length<=(x.2.2.2.2.2).length:=this;unfold zo at h2;simp at h2;omega
 have ew:w6 (((x.2.2.2.2.2).length:Int)-1)=((x.2.2.2.2.2).length:Int)-1:=wrap64 (by omega);rw [ew]
 have et:(((x.2.2.2.2.2).length:Int)-1).toNat=(x.2.2.2.2.2).length-1:=by omega
 obtain ⟨q,hq⟩:∃ q,x.2.2.2.2.2[(((x.2.2.2.2.2).length:Int)-1).toNat]?=some q:=⟨_,List.getElem?_eq_getElem (by omega)⟩
 have nq:=hg.nd hq last (by
  rw [hsh];show (zo ((x.2.2.2.2.2).length:Int) last).getD (((x.2.2.2.2.2).length:Int)-1).toNat 0=last
  exact FQ (by omega))
 refine fZ (gY (by omega) (gY (by show ((x.2.2.2.2.2).length:Int)-1<=((x.2.2.2.2.2).length:Int);omega) ?_));refine aB (gQ (Q:=λH:qW=>Aft C (m+20000) s.2.2.2.2.2.2.1 s (oq r2.2 H)) (λy=>y.1) (List.take (((x.2.2.2.2.2).length:Int)-1).toNat x.2.2.2.2.2).length (by simp;omega) (λw=>Aft C (m+w.1) s.2.2.2.2.2.2.1 s (oq r2.2 w.2)) (by simp) (by simp) (by show Aft C (m+0) _ _ (oq r2.2 r2.2.2.2.2.2.1);rw [Int.add_zero];exact a2) λw w0 w1 wI=>?_) λH hH=>?_
 ·obtain ⟨j,H⟩:=w;have w0:0<=j:=w0;have w1:j<=((List.take (((x.2.2.2.2.2).length:Int)-1).toNat x.2.2.2.2.2).length:Int):=w1;have wI:Aft C (m+j) s.2.2.2.2.2.2.1 s (oq r2.2 H):=wI
  have hln:(List.take (((x.2.2.2.2.2).length:Int)-1).toNat x.2.2.2.2.2).length=(x.2.2.2.2.2).length-1:=by rw [List.length_take];omega
  refine ef (λhj=>?_) λ_=>aD (wI.up (by omega));have hj:j < ((List.take (((x.2.2.2.2.2).length:Int)-1).toNat x.2.2.2.2.2).length:Int):=hj;refine ba w0 (by show _ < (List.take (((x.2.2.2.2.2).length:Int)-1).toNat x.2.2.2.2.2).length;omega) λd hd _=>?_
  have hd':x.2.2.2.2.2[j.toNat]?=some d:=by
   have hd:(List.take (((x.2.2.2.2.2).length:Int)-1).toNat x.2.2.2.2.2)[j.toNat]?=some d:=hd;rw [List.getElem?_take] at hd;split at hd
   ·exact hd
   ·cases hd
  obtain ⟨d0,z,hz,_⟩:=hg.kid _ d hd';refine jV a2.run d0 hz (aB (kq hl.2 w0) λv hv=>aA λ_=>aB (qF wI.run (by omega) hv) λr hr=>aA λ_=>aD ⟨rfl,hj,?_⟩);show Aft C (m+w6 (j+1)) _ _ _;rw [wrap64 (n:=j+1) (by omega),<- Int.add_assoc];exact wI.cat hr
 ·have nq':=nq;obtain ⟨q0,y,hy,hf⟩:=nq';refine gn (by omega) hq (jV a2.run q0 hy (o7 (λh4=>?_) λh4=>?_))
  ·have hn3:Nd C.N 3 q:=by
    rcases hlast with h|h
    ·rw [h] at hf;exact absurd (eq_of_beq hf) h4
    ·rw [h] at hf;exact ⟨q0,y,hy,fit13 hf h4⟩
   exact aU (bG (hG.gj (p.go hH (by decide) (by omega)) hn3 he) λ_ hr=>(hr.lI hH).up (by omega))
  ·refine aB (sJ hc hH.run (by omega) q0 hy he) λr3 h3=>aA λ_=>?_;have h3:=h3.cat hH;refine bx (λ_=>aD (h3.up (by omega))) λe4=>?_;have a3:=h3.2.a0 e4;refine jV a3.run q0 hy (aB (hG.list (p.go a3 (by decide) (by omega)) ⟨_,hy⟩ he) λr4 ⟨v4,g4⟩=>aA λ_=>?_);have g4:=(Pst.cat a3 g4).up (m':=m+100300000) (by omega);exact bK (λe5=>aD ⟨v4,.ok (g4.aft (iw e5 (by decide)))⟩) λ_=>aB (R:=λb=>b=false->Ne (α:=Int) (r4.1.1) (5)) (bK (λe5=>aD λ_=>iw e5 (by decide)) λ_=>aD λe5=>ne_of_beq_false e5) λb hb=>aG (λ_=>aD ⟨v4,g4⟩) λeb=>aD ⟨bn,.ok (g4.aft (hb eb))⟩
theorem Bc(hc:jU C)(hG:GOk C n G)(p:Pre C (n+1) 8 100300000 m s)(ha:InN a)(hl:uG l):(R.eval_run_builds G s a l).sat (cy C (m+100300000) s.2.2.2.2.2.2.1 s):=by
 unfold R.eval_run_builds;have pm:=p.hm;have a0:=Aft.refl p.run
 have hm:m<=2^39:=by omega
 have up:∀ {F:Res ((dZ×Int)×RunT)}{B:(dZ×Int)×RunT->Bool},F.sat (cy C m s.2.2.2.2.2.2.1 s)->(F.bind λr=>given (B r) (Res.ok r)).sat (cy C (m+100300000) s.2.2.2.2.2.2.1 s):=λh=>aU (bG h λ_ hr=>hr.up (by omega));refine aA λ_=>aB (dw0:Safe _).ok λ_ _=>aG (λ_=>up (fe p.run)) λ_=>aB (dw0:Safe _).ok λ_ _=>aG (λ_=>aU (hG.does (p.go a0 (by decide) pm) ha bn hl)) λ_=>aG (λ_=>aB (kq hl.2 (by decide)) λ_ _=>aA λ_=>aB nj λq ⟨q0,q1⟩=>aA λ_=>bx (λ_=>up (gZ p.run hm)) λ_=>ef (λ_=>up (gZ p.run hm)) λhq=>?_) λ_=>aG (λ_=>up (Ci hc p.run hm hl.2)) λ_=>aG (λ_=>up (C5 p.run hm hl.2)) λ_=>aB H0 λr hr=>aA λ_=>ef (λh=>?_) λ_=>up (gZ p.run hm)
 ·have hq:LE.le (α:=Int) (q.1) (4096):=hq;refine fZ (gY q0 (fZ (gY (Int.le_refl _) (n_d (by omega) (up (pM p.run hm (.bf1 rfl ?_) rfl rfl bn))))));show (List.replicate (Int.toNat q.1) (0:Int)).length<=4096;rw [List.length_replicate];omega
 ·obtain ⟨z,hz⟩:=hr h;exact up (FR p.run hm hz hl.2)
theorem Fu(hc:jU C)(hG:GOk C n G)(p:Pre C (n+1) 7 100300000 m s)(ha:InN a)(ht:b8 t)(hl:uG l):(R.eval_run_does G s a t l).sat (cy C (m+100300000) s.2.2.2.2.2.2.1 s):=by
 unfold R.eval_run_does;have pm:=p.hm;have a0:=Aft.refl p.run
 have hm:m<=2^39:=by omega
 have up:∀ {F:Res ((dZ×Int)×RunT)}{B:(dZ×Int)×RunT->Bool},F.sat (cy C (m+20000) s.2.2.2.2.2.2.1 s)->(F.bind λr=>given (B r) (Res.ok r)).sat (cy C (m+100300000) s.2.2.2.2.2.2.1 s):=λh=>aU (bG h λ_ hr=>hr.up (by omega));have up0:∀ {F:Res ((dZ×Int)×RunT)}{B:(dZ×Int)×RunT->Bool},F.sat (cy C m s.2.2.2.2.2.2.1 s)->(F.bind λr=>given (B r) (Res.ok r)).sat (cy C (m+100300000) s.2.2.2.2.2.2.1 s):=λh=>aU (bG h λ_ hr=>hr.up (by omega));have rt:∀ {v:dZ},b8 v->(Res.ok ((v,(0:Int)),s):Res ((dZ×Int)×RunT)).sat (cy C (m+100300000) s.2.2.2.2.2.2.1 s):=λhv=>aD ⟨hv,(Pst.ok a0).up (by omega)⟩;obtain ⟨B,g1,g2,g3⟩:=p.run.heap hm;refine aA λ_=>aB (kq hl.2 (by decide)) λx hx=>aA λ_=>aB (dw0:Safe _).ok λ_ _=>aG (λ_=>up0 (fe p.run)) λ_=>aG (λ_=>up0 (Gt p.run hm)) λ_=>aG (λ_=>aB (kq hl.2 (by decide)) λy _=>aA λ_=>up0 (Eh p.run hm)) λ_=>aG (λ_=>bK (λ_=>aB nf λ_ _=>aA λ_=>aB lA λr hr=>aA λ_=>rt (vk hr)) λ_=>aB lA λr hr=>aA λ_=>rt (vk hr)) λ_=>aG (λ_=>up (JN p.run (by omega) hl.1 hl.2)) λ_=>aG (λ_=>aB (R:=λ_=>True) (o7 (λ_=>aD trivial) λ_=>aB nf λ_ _=>aA λ_=>aD trivial) λ_ _=>aG (λ_=>up0 (fe p.run)) λ_=>aB (J7 g1 g2) λr ⟨r1,r2,r3⟩=>aA λ_=>aD ⟨r3,(Pst.ok ⟨p.run.put r1 g3,r2,rfl,Int.le_refl _⟩).up (by omega)⟩) λ_=>aG (λ_=>up0 (B7 p.run hm)) λ_=>aG (λ_=>bK (λ_=>aB nH λr hr=>aA λ_=>rt hr.1) λ_=>q_p λr _=>aA λ_=>aB nH λr hr=>aA λ_=>up0 (qK p.run hm hr.1)) λ_=>aG (λ_=>q_b λ_=>aB lA λr hr=>aA λ_=>rt (vk hr)) λ_=>aG (λ_=>up0 (Ei p.run hm)) λ_=>aB (dw0:Safe _).ok λ_ _=>aG (λ_=>up0 (Cv p.run hm (Nat.le_trans (A4 ha) (by decide)))) λ_=>aB (KS ha) λb hb=>aG (λeb=>aB (hb eb) λnm hn=>aA λ_=>up0 (FW hc p.run hm hn hl.2)) λ_=>q_b λ_=>aG (λ_=>q_b λ_=>aA λ_=>up0 (FK hc p.run hm hl.2)) λ_=>q_b λ_=>aG (λ_=>q_b λ_=>aA λ_=>aU (hG.host (p.go a0 (by decide) pm) hx)) λ_=>up0 (gZ p.run hm)
theorem Fw(hc:jU C)(hG:GOk C n G)(p:Pre C (n+1) 6 100300000 m s)(hv:b8 v):(R.eval_run_host G s a v).sat (cy C (m+100300000) s.2.2.2.2.2.2.1 s):=by
 unfold R.eval_run_host;have pm:=p.hm;have a0:=Aft.refl p.run
 have hm:m<=2^39:=by omega
 obtain ⟨B,g1,g2,g3⟩:=p.run.heap hm;have up:∀ {F:Res ((dZ×Int)×RunT)}{B:(dZ×Int)×RunT->Bool},F.sat (cy C m s.2.2.2.2.2.2.1 s)->(F.bind λr=>given (B r) (Res.ok (Sum.inr (r.1.2,(r.2,r.1.1)):uP ⊕ (Int×(RunT×dZ))))).sat (pz C (m+100300000) s.2.2.2.2.2.2.1 s xX):=λh=>oy (bG h λ_ hr=>hr.up (by omega));refine aA λ_=>aB (R:=pz C (m+100300000) s.2.2.2.2.2.2.1 s xX) (aG (λ_=>o7 (λ_=>up (fe p.run)) λh5=>aD (qa 8 rfl (by decide) (by decide) l0 (hv h5) nw0 z6)) λ_=>aG (λ_=>aB (ow g1) λr hr=>aA λ_=>aB (R:=λb=>b=false->Eq (α:=Int) (r.1.1) (6)) (o7 (λ_=>aD λe=>by cases e) λ_=>aD λe=>?_) λb hb=>aG (λ_=>up (gZ p.run hm)) λeb=>aD (qa 9 rfl (by decide) (by decide) (hr.sh (hb eb)) (Nat.zero_le _) nw0 z6)) λ_=>aG (λ_=>oy (hG.CE (p.go a0 (by decide) pm))) λ_=>aG (λ_=>q_p λr hr=>aA λ_=>bx (λ_=>up (gZ p.run hm)) λ_=>aD (qa 11 rfl (by decide) (by decide) l0 hr nw0 z6)) λ_=>aG (λ_=>aD (qa 12 rfl (by decide) (by decide) l0 (Nat.zero_le _) nw0 z6)) λ_=>aG (λ_=>q_b λr=>aA λ_=>bx (λ_=>up (gZ p.run hm)) λ_=>aB tR λw hw=>aA λ_=>aD (qa 13 rfl (by decide) (by decide) l0 (Nat.zero_le _) hw z6)) λ_=>aD (qa 14 rfl (by decide) (by decide) l0 (Nat.zero_le _) nw0 z6)) λr hr=>oi hr λq hq=>aB (sK p.run hc.A hq) λr2 ⟨h2,_⟩=>aA λ_=>?_
 ·exact eq_of_beq (by cases h:(r.1.1 == 6)<;>simp_all)
 ·have h2:=h2.up (m':=m+100300000) (by omega);refine bx (λ_=>aD ⟨bn,h2⟩) λe2=>?_;have a2:=h2.a0 e2;exact bK (λ_=>aB mB λ_ hn=>aA λ_=>aD ⟨hn,.ok a2⟩) λ_=>aB (dw0:Safe _).ok λ_ _=>aG (λ_=>aD ⟨.of (show (1:Int)≠5 by decide),.ok a2⟩) λ_=>bK (λ_=>aB nH λ_ hn=>aA λ_=>aD ⟨hn.1,.ok a2⟩) λ_=>aD ⟨bn,.ok a2⟩
theorem xu(hc:jU C)(hG:GOk C n G)(p:Pre C (n+1) 5 100300000 m s):(R.eval_run_receives G s f).sat (cy C (m+100300000) s.2.2.2.2.2.2.1 s):=by
 unfold R.eval_run_receives;have pm:=p.hm
 have hm:m<=2^39:=by omega
 refine aA λ_=>aB (R:=λb=>b=false->f.1=6/\FnC s f.2.2.2.2) (o7 (λ_=>aD λe=>by cases e) λh6=>aB nf λq hq=>aA λ_=>aD λe=>⟨h6,?_⟩) λb hb=>aG (λ_=>aU (bG (gZ p.run hm) λ_ hr=>hr.up (by omega))) λeb=>?_
 ·have e:q=3:=eq_of_beq (by cases h:(q == 3)<;>simp_all)
  rcases hq with ⟨h0,_⟩|⟨i0,c,hc',e'⟩
  ·rw [h0] at e;cases e
  ·exact ⟨i0,c,hc',e'.symm.trans e⟩
 ·obtain ⟨h6,hF⟩:=hb eb;refine aB (sK p.run hc.A (qa 10 rfl (by decide) (by decide) l0 (Nat.zero_le _) nw0 z6)) λr2 ⟨h2,_⟩=>aA λ_=>bx (λ_=>aD ⟨bn,h2.up (by omega)⟩) λe2=>?_;have a2:=h2.a0 e2;refine aB (R:=λq:Int=>0<=q/\q<=9007199254740991) (aB (R:=λb=>b=false->LE.le (α:=Int) (0) (r2.1.1.2.2.2.1)/\LE.le (α:=Int) (r2.1.1.2.2.2.1) (9007199254740991)) (ef (λ_=>aD λe=>by cases e) λh0=>aD λe=>⟨h0,Int.not_lt.1 (of_decide_eq_false e)⟩) λb hb=>aG (λ_=>aD ⟨by decide,by decide⟩) λe=>aD (hb e)) λq hq=>aB (pM a2.run hm (.sh1 rfl hq) rfl rfl bn) λr3 h3=>aA λ_=>?_;have h3:=h3.cat a2;refine bx (λ_=>aD (h3.up (by omega))) λe3=>?_;have a3:=h3.2.a0 e3;refine aB (hG.callF (l:=[r3.1.1]) (p.go a3 (by decide) pm) h6 (hF.ext a3.ext) bn ⟨(show 1<=20000 by decide),λw hw=>?_⟩) λr4 h4=>aA λ_=>?_
  ·cases List.mem_singleton.1 hw;exact h3.1
  ·have h4:=h4.cat a3;exact bx (λ_=>aD h4) λe4=>aD ⟨bn,.ok (h4.2.a0 e4)⟩
end
end Go.Mach

set_option maxRecDepth 100000
namespace Go.Mach
open Res
theorem gok{C:Cx}(hc:jU C):∀ n:Nat,GOk C n (bw n)
 |0=>⟨λp=>(p.no (by decide)).elim,λp=>(p.no (by decide)).elim,λp=>(p.no (by decide)).elim,λp=>(p.no (by decide)).elim,λp=>(p.no (by decide)).elim,λp=>(p.no (by decide)).elim,λp=>(p.no (by decide)).elim,λp=>(p.no (by decide)).elim,λp=>(p.no (by decide)).elim,λp=>(p.no (by decide)).elim,λp=>(p.no (by decide)).elim,λp=>(p.no (by decide)).elim,λp=>(p.no (by decide)).elim,λp=>(p.no (by decide)).elim,λp=>(p.no (by decide)).elim,λp=>(p.no (by decide)).elim,λp=>(p.no (by decide)).elim,λp=>(p.no (by decide)).elim,λp=>(p.no (by decide)).elim,λp=>(p.no (by decide)).elim,λp=>(p.no (by decide)).elim,λp=>(p.no (by decide)).elim,λp=>(p.no (by decide)).elim,λp=>(p.no (by decide)).elim,λp=>(p.no (by decide)).elim,λp=>(p.no (by decide)).elim,λp=>(p.no (by decide)).elim,λp=>(p.no (by decide)).elim,λp=>(p.no (by decide)).elim,λp=>(p.no (by decide)).elim,λp=>(p.no (by decide)).elim,λp=>(p.no (by decide)).elim,λp=>(p.no (by decide)).elim,λp=>(p.no (by decide)).elim,λp=>(p.no (by decide)).elim⟩
 |n+1=>by
  have h:=gok hc n
  exact {
   list:=E8 hc h
   statement:=w3 hc h
   act:=Gh hc h
   gj:=vj hc h
   block:=Da hc h
   decls:=CZ hc h
   choice:=Af hc h
   GG:=C4 hc h
   loop:=Fo hc h
   try_:=Gm hc h
   value:=C9 hc h
   asked:=Cf hc h
   first:=Cb hc h
   GL:=Cq hc h
   array:=DU hc h
   object:=B8 hc h
   operation:=w5 hc h
   unary:=Ce hc h
   step:=E3 hc h
   binary:=Ae hc h
   logic:=CP hc h
   assign:=BC hc h
   callee:=Bm hc h
   arguments:=λp=>wH hc h p
   fresh:=DI hc h
   property:=property_step hc h
   parts:=DS hc h
   called:=Ai hc h
   call:=Fk hc h
   callF:=Cu hc h
   builds:=Bc hc h
   apply:=λp=>Ck hc h p
   does:=Fu hc h
   host:=Fw hc h
   CE:=xu hc h
  }
end Go.Mach

set_option maxRecDepth 100000
namespace Go.Mach
open Res
instance Ir{k}:Safe (R.jc k):=by unfold R.jc;exact dw0
instance Hf{l}:Safe (R.jR l):=by
 unfold R.jR;refine ⟨aA λh=>?_⟩;simp only [Sg.i,oks,Sh.ok,Ty.ok,List.map,Par.v,Bool.and_eq_true] at h;have:=lZ h;refine aB (mL (λi=>i) l.length (by omega) (by omega) (by omega) λi h0 h1=>?_).ok λx _=>(dw0:Safe _).ok;refine ef (λhi=>bQ h0 (by omega) λ_ _ _=>fZ (gY h0 (gY h1 (q_b λ_=>aG (λ_=>aD trivial) λ_=>aD ⟨rfl,hi,trivial⟩)))) λ_=>aD trivial
instance Ex{a b}:Safe (R.iB a b):=by unfold R.iB;exact dw0
instance Kh{l f}:Safe (R.au l f):=by
 unfold R.au R.az;refine ⟨aA λ_=>fm (aA λh=>?_)⟩;simp only [Sg.i,oks,Sh.ok,Ty.ok,List.map,Par.v,Bool.and_eq_true] at h;have:=lZ h.1;refine aB (mL (λi=>i) l.length (by omega) (by omega) (by omega) λi h0 h1=>?_).ok λx _=>bG (dw0:Safe _).ok λ_ _=>aA λ_=>aD trivial;exact ef (λhi=>bQ h0 (by omega) λ_ _ _=>q_b λ_=>aG (λ_=>aD trivial) λ_=>aD ⟨rfl,hi,trivial⟩) λ_=>aD trivial
section
variable {t:List eT}{n:Int}{up:List Int}
structure UpI (t:List eT) (up:List Int):Prop where
 len:up.length=t.length
 lt:∀ (j:Nat) (v:Int),up[j]?=some v->-1<=v/\v < (j:Int)/\(0 < j->0<=v)
theorem UpI.set(h:UpI t up){k i:Int}(i0:0<=i)(hk:i < k):UpI t (up.set k.toNat i):=by
 refine ⟨by rw [List.length_set];exact h.len,λj v hv=>?_⟩;by_cases hj:k.toNat=j
 ·subst hj;have hl:=(List.getElem?_eq_some_iff.1 hv).1;rw [List.length_set] at hl;rw [List.getElem?_set_self hl] at hv;cases hv;exact ⟨by omega,by omega,λ_=>i0⟩
 ·rw [List.getElem?_set_ne hj] at hv;exact h.lt j v hv
theorem DG(hg:pg t)(hf:rW t)(ho:rT t t.length):(R.gU t).sat (UpI t):=by
 unfold R.gU;have hp:=hg.pos;have hl:=hg.len
 have e0:Int.toNat (t.length:Int)=t.length:=by omega
 refine aA λ_=>fZ (gY (by omega) (fZ (gY (Int.le_refl _) (n_d (by omega) (fZ (gY (by decide) (oL (by rw [List.length_replicate];omega) (ba (by decide) (by show 0 < (List.replicate _ _).length;rw [List.length_replicate];omega) λ_ _ _=>?_))))))));refine aB (gQ (Q:=UpI t) (λx=>x.1) t.length (by omega) (λx=>UpI t x.2) (by simp) (by simp) ⟨by show (List.set _ _ _).length=_;rw [List.length_set,List.length_replicate,e0],λj v hv=>?_⟩ λx h0 h1 hI=>?_) λr hr=>aD hr
 ·have hv:(List.set (List.replicate (Int.toNat (t.length:Int)) (0:Int)) (0+Int.toNat 0) (-1))[j]?=some v:=hv;by_cases hj:j=0
  ·subst hj
   rw [show 0+Int.toNat 0=0 from rfl,List.getElem?_set_self (by rw [List.length_replicate];omega)] at hv
   cases hv;exact ⟨by decide,by decide,λh=>absurd h (by decide)⟩
  ·rw [List.getElem?_set_ne (by show ¬ 0+Int.toNat 0=j;exact λh=>hj h.symm)] at hv;have:=List.mem_of_getElem? hv;rw [List.mem_replicate] at this;rw [this.2];exact ⟨by decide,by omega,λ_=>Int.le_refl _⟩
 ·obtain ⟨i,l⟩:=x;have h0:0<=i:=h0;have hI:UpI t l:=hI;refine ef (λhi=>?_) λ_=>aD hI;have hi:i < (t.length:Int):=hi;refine bQ h0 (by omega) λx hx _=>?_;have hx:t[i.toNat]?=some x:=hx;have hk:=hf.one _ x hx;have hord:=ho _ x (by omega) hx;refine aB (gQ (Q:=UpI t) (λx=>x.1) (x.2.2.2.2.2).length (by omega) (λy=>UpI t y.2) (by simp) (by simp) hI λy y0 y1 yI=>?_) λr hr=>aD ⟨rfl,hi,hr⟩;obtain ⟨j,q⟩:=y;have y0:0<=j:=y0;have yI:UpI t q:=yI;refine ef (λhj=>?_) λ_=>aD yI;have hj:j < ((x.2.2.2.2.2).length:Int):=hj;refine ba y0 (by show _ < (x.2.2.2.2.2).length;omega) λk hk _=>?_;have ka:=hord _ k hk;have ka1:LT.lt (α:=Int) ((i.toNat:Int)) (k):=ka.1;have ka2:LT.lt (α:=Int) (k) ((t.length:Int)):=ka.2;have hql:=yI.len;refine fZ (gY (by omega) (oL (by show LT.lt (α:=Int) (k) ((q.length:Int));omega) (ba (by omega) (by show ((0:Int)+(Int.toNat k:Int)).toNat < q.length;omega) λ_ _ _=>aD ⟨rfl,hj,?_⟩)));show UpI t (List.set q (0+Int.toNat k) i);rw [Nat.zero_add];exact yI.set h0 (by omega)
theorem EI(hu:UpI t up){i:Int}(i0:0<=i)(hi:i.toNat < t.length){β:Type}{Q:β->Prop}{f:Int->Res β}(hf:∀ v,-1<=v/\v < i/\(0 < i->0<=v)->(f v).sat Q):(cO .i up i f).sat Q:=bQ i0 (by have:=hu.len;show _ < up.length;omega) λv hv _=>by
 have h:=hu.lt _ v hv;exact hf v ⟨h.1,by omega,λg=>h.2.2 (by omega)⟩
theorem vI(hg:pg t)(hu:UpI t up)(n0:0<=n)(hn:n.toNat < t.length):(R.fP t up n).sat λr=>∀ k∈r.1,0<=k/\k < (t.length:Int):=by
 unfold R.fP;have hl:=hg.len
 refine aA λ_=>EI hu n0 hn λv hv=>aB (kG (Q:=λr:List Int ⊕ (List Int×Int)=>match r with|.inl l=>∀ k∈l,0<=k/\k < (t.length:Int)|.inr r=>∀ k∈r.1,0<=k/\k < (t.length:Int)) (λy=>(y.1+1).toNat) (by show (v+1).toNat<=_;omega) (λy=>-1<=y.1/\y.1 < (t.length:Int)/\(y.2.length:Int)+y.1<=(t.length:Int)/\∀ k∈y.2,0<=k/\k < (t.length:Int)) ⟨hv.1,by show v < (t.length:Int);omega,by show ((0:Nat):Int)+v<=(t.length:Int);omega,by simp⟩ λy ⟨y1,y2,y3,y4⟩=>?_) λr hr=>?_
 ·obtain ⟨i,l⟩:=y;have y1:-1<=i:=y1;have y2:i < (t.length:Int):=y2;have y3:(l.length:Int)+i<=(t.length:Int):=y3;have y4:∀ k∈l,0<=k/\k < (t.length:Int):=y4;refine lb (λi0=>?_) λ_=>aD y4;have i0:0<=i:=i0;refine bQ i0 (by omega) λx _ _=>q_b λ_=>aG (λ_=>aD y4) λ_=>bD (decide_eq_true ?_) (EI hu i0 (by omega) λw hw=>aD ⟨?_,?_,?_,?_,?_⟩)
  ·show (l.length+1)*8<=2^47;omega
  ·show (w+1).toNat < (i+1).toNat;omega
  ·exact hw.1
  ·show w < (t.length:Int);omega
  ·show ((l++[i]).length:Int)+w<=(t.length:Int);rw [List.length_append];simp;omega
  ·exact ri y4 ⟨i0,y2⟩
 ·cases r with
  |inl l=>exact iy (aD hr)
  |inr q=>exact iv (aD hr)
theorem GN(hg:pg t)(hf:rW t)(n0:0<=n)(hn:n.toNat < t.length){p:Int}(hp:p < n):(R.jO t n p).sat λ_=>True:=by
 unfold R.jO;refine aA λ_=>aB (R:=λb=>b=false->0<=p) (ef (λ_=>aD λe=>by cases e) λp0=>bQ n0 hn λx _ _=>o7 (λ_=>aD λ_=>p0) λ_=>bQ p0 (by omega) λy _ _=>q_b λ_=>eD (aG (λ_=>aD λ_=>p0) λ_=>bQ p0 (by omega) λz _ _=>aD λ_=>p0)) λb hb=>aG (λ_=>aD trivial) λe=>aB (ss hg hf (hb e) (by have:=hb e;omega)) λ_ _=>aA λ_=>aB (ss hg hf n0 hn) λ_ _=>aA λ_=>q_b λ_=>aD trivial
theorem EX{l:List Int}(hl:∀ k∈l,0<=k/\k < (t.length:Int)){z}:(R.bA l (t,z)).sat λ_=>True:=by
 unfold R.bA R.bJ;refine aA λ_=>fm (aA λh=>?_);simp only [Sg.i,oks,Sh.ok,Ty.ok,List.map,Par.v,Bool.and_eq_true] at h;have:=lZ h.1;refine aB (mL (λi=>i) l.length (by omega) (by omega) (by omega) λi h0 h1=>?_).ok λx _=>bG (dw0:Safe _).ok λ_ _=>aA λ_=>aD trivial;refine ef (λhi=>bQ h0 (by omega) λk hk _=>aB (R:=λ_=>True) ?_ λ_ _=>aG (λ_=>aD trivial) λ_=>aD ⟨rfl,hi,trivial⟩) λ_=>aD trivial;have hk:=hl k (List.mem_of_getElem? hk);unfold R.iO;exact aA λ_=>bQ hk.1 (by show k.toNat < t.length;omega) λ_ _ _=>bK (λ_=>bQ hk.1 (by show k.toNat < t.length;omega) λ_ _ _=>aD trivial) λ_=>aD trivial
theorem CB(hg:pg t)(ho:rT t t.length)(n0:0<=n)(hn:n < (t.length:Int)):(R.fi t n).sat λ_=>True:=by
 unfold R.fi;have hl:=hg.len;refine aA λ_=>aB (kG (Q:=λr:Int=>0<=r/\r < (t.length:Int)) (λi=>(t.length:Int).toNat-i.toNat) (by omega) (λi=>0<=i/\i < (t.length:Int)) ⟨n0,hn⟩ λi ⟨i0,i1⟩=>?_) λr ⟨r0,r1⟩=>bQ r0 (by omega) λ_ _ _=>aD trivial;have i0:0<=i:=i0;have i1:i < (t.length:Int):=i1;refine bQ i0 (by omega) λx hx _=>bK (λh18=>bQ i0 (by omega) λy hy _=>?_) λ_=>aD ⟨i0,i1⟩;have hx:t[i.toNat]?=some x:=hx;have:some x=some y:=hx.symm.trans hy;cases this;have h1:=(hg.nod _ x hx).len
 rw [show x.1=18 from h18] at h1
 have h1:1<=(x.2.2.2.2.2).length:=h1;refine ba (by decide) (by show 0 < (x.2.2.2.2.2).length;omega) λk hk _=>aD ?_;have:=ho _ x (by omega) hx _ k hk;exact ⟨by show (t.length:Int).toNat-k.toNat < (t.length:Int).toNat-i.toNat;omega,by omega,this.2⟩
theorem GA(hg:pg t)(ho:rT t t.length){x:eT}{l:List Int}(hl:∀ k∈l,0<=k/\k < (t.length:Int)):(R.jS t x l).sat λ_=>True:=by
 unfold R.jS;refine aA λh=>?_;simp only [Sg.i,oks,Sh.ok,Ty.ok,List.map,Par.v,Bool.and_eq_true] at h;have:=lZ h.2.2;refine aB (mL (λi=>i) l.length (by omega) (by omega) (by omega) λi h0 h1=>?_).ok λx _=>(dw0:Safe _).ok;refine ef (λhi=>bQ h0 (by omega) λk hk _=>?_) λ_=>aD trivial;have hk:=hl k (List.mem_of_getElem? hk);exact bQ hk.1 (by omega) λy _ _=>aB (dw0:Safe _).ok λ_ _=>aG (λ_=>aD trivial) λ_=>aB (dw0:Safe _).ok λ_ _=>aG (λ_=>bK (λ_=>aD trivial) λ_=>aB (CB hg ho hk.1 hk.2) λ_ _=>aA λ_=>q_b λ_=>aD trivial) λ_=>aD ⟨rfl,hi,trivial⟩
theorem F9(hg:pg t)(hf:rW t)(ho:rT t t.length)(hu:UpI t up)(n0:0<=n)(hn:n.toNat < t.length):(R.jQ t up n).sat λ_=>True:=by
 unfold R.jQ;refine aA λ_=>bQ n0 hn λx hx _=>aB (R:=λ_=>True) (aB (ss hg hf n0 hn) λ_ _=>aA λ_=>q_b λ_=>aG (λ_=>aD trivial) λ_=>EI hu n0 hn λv hv=>aB (GN hg hf n0 hn hv.2.1) λ_ _=>aD trivial) λ_ _=>aG (λ_=>aD trivial) λ_=>bK (λh7=>EI hu n0 hn λv hv=>?_) λ_=>bK (λ_=>aB (vI hg hu n0 hn) λr hr=>aA λ_=>aB (EX hr) λ_ _=>aD trivial) λ_=>aB (dw0:Safe _).ok λ_ _=>aG (λ_=>aB (vI hg hu n0 hn) λr hr=>aA λ_=>aB (GA hg ho hr) λ_ _=>aD trivial) λ_=>bK (λ_=>aB (vI hg hu n0 hn) λr hr=>aA λ_=>aD trivial) λ_=>aD trivial;have hx:t[n.toNat]?=some x:=hx
 have hne:0 < n:=by
  obtain ⟨y,hy,e⟩:=hg.rt;apply Classical.byContradiction;intro h
  have:n.toNat=0:=by omega
  rw [this] at hx;have:some x=some y:=hx.symm.trans hy;cases this;exact absurd (e.symm.trans h7) (by decide)
 have hv0:=hv.2.2 hne;exact bQ hv0 (by omega) λy _ _=>bK (λ_=>aD trivial) λ_=>aD trivial
theorem BT(hf:rW t):(R.fH t).sat λr=>Eq (α:=Int) (r.2) (0)->pg t/\rT t t.length:=by
 unfold R.fH
 refine aA λ_=>aB (may_ok hf) λb hb=>eD (aG (λe=>?_) λ_=>aD λe=>absurd (show (2:Int)=0 from e) (by decide))
 obtain ⟨hg,ho⟩:=hb e;have hl:=hg.len;refine aB (DG hg hf ho) λup hu=>aA λ_=>aB (mL (λi=>i) t.length (by omega) (by omega) (by omega) λi h0 h1=>?_).ok λx _=>?_
 ·exact ef (λhi=>aB (F9 hg hf ho hu h0 (by omega)) λ_ _=>aG (λ_=>aD trivial) λ_=>aD ⟨rfl,hi,trivial⟩) λ_=>aD trivial
 ·cases x with
  |inl _=>exact iy (aD λ_=>⟨hg,ho⟩)
  |inr z=>exact iv (aD λ_=>⟨hg,ho⟩)
end
end Go.Mach

set_option maxRecDepth 100000
namespace Go.Mach
open Res
abbrev A9:=iY.den
abbrev ub:=eJ.den
def Hg(r:uP×A9):Prop:=(r.2=(0,([]:List Int))/\xX r.1)\/(r.1=Bf/\LE.le (α:=Int) (1) (r.2.1)/\LE.le (α:=Int) (r.2.1) (6)/\(Eq (α:=Int) (r.2.1) (2)\/r.2.2=[]))
theorem FO{C:Cx}{m:Int}{s:RunT}{v:dZ}(h:gy C m s)(hm:m<=2^39):(R.dw s v).sat λ_=>True:=by
 unfold R.dw;obtain ⟨B,g1,_,_⟩:=h.heap hm;refine aA λ_=>o7 (λ_=>q_b λ_=>aA λ_=>aD trivial) λ_=>aB (ow g1) λr hr=>aA λ_=>aB (R:=λb=>b=true->r.2=true) (aG (λe=>aD λ_=>e) λ_=>aD λe=>by cases e) λb hb=>aG (λe=>?_) λ_=>aB (dc (by decide)) λ_ _=>aA λ_=>aD trivial;have:=hr.nn (hb e);exact aB (dc (by omega)) λ_ _=>aA λ_=>aD trivial
def zt(lim:ub):Bool:=decide ((LE.le (α:=Int) (0) (lim.1)/\LE.le (α:=Int) (lim.1) (4096))/\(LE.le (α:=Int) (1) (lim.2.1)/\LE.le (α:=Int) (lim.2.1) (200))/\LE.le (α:=Int) (0) (lim.2.2)/\LE.le (α:=Int) (lim.2.2) (100000))
theorem xP{lim:ub}:(R.kT lim).sat (·=zt lim):=by
 unfold R.kT zt;have no:∀ {p:Prop} [Decidable p],¬ p->false=decide p:=λh=>(decide_eq_false h).symm;refine aA λ_=>lb (λh1=>lb (λh2=>lb (λh3=>lb (λh4=>lb (λh5=>aD ?_) λh5=>aD (no ?_)) λh4=>aD (no ?_)) λh3=>aD (no ?_)) λh2=>aD (no ?_)) λh1=>aD (no ?_)
 ·show decide (LE.le (α:=Int) (lim.2.2) (100000))=decide _;congr 1;exact propext ⟨λh=>⟨⟨h1,h2⟩,⟨h3,h4⟩,h5,h⟩,λh=>h.2.2.2⟩
 ·exact λh=>absurd h.2.2.1 (Int.not_le.2 h5)
 ·exact λh=>absurd h.2.1.2 (Int.not_le.2 h4)
 ·exact λh=>absurd h.2.1.1 (Int.not_le.2 h3)
 ·exact λh=>absurd h.1.2 (Int.not_le.2 h2)
 ·exact λh=>absurd h.1.1 (Int.not_le.2 h1)
theorem Iw{α:Type}{m:Res α}{P:α->Prop}(h:m.sat P):(∃ a,m.sat (λx=>x=a)/\P a)\/∀ Q:α->Prop,m.sat Q:=by
 induction m with
 |ok a=>exact .inl ⟨a,rfl,h⟩
 |stuck=>exact h.elim
 |given b k ih =>
  cases b with
  |false=>exact .inr λQ e=>by cases e
  |true =>
   rcases ih (h rfl) with ⟨a,h1,h2⟩|h1
   ·exact .inl ⟨a,λ_=>h1,h2⟩
   ·exact .inr λQ _=>h1 Q
theorem CW{C:Cx}(hc:jU C){s:RunT}(h:gy C 402653184000 s)(hd:Eq (α:=Int) (s.2.2.2.2.2.1) (0)):(R.cZ s).sat (ng C 402753284000 s.2.2.2.2.2.2.1 s):=by
 unfold R.cZ;have hD:=hc.D;have a0:=Aft.refl h;obtain ⟨x,hx,_⟩:=hc.tr.rt;have hx0:C.N[(0:Int).toNat]?=some x:=hx;refine aA λ_=>aB (qP h (by decide)) λr1 ⟨g1,_⟩=>aA λ_=>bx (λ_=>aD ⟨bn,g1.up (by decide)⟩) λe1=>?_;have a1:=g1.a0 e1;refine aB (sJ hc a1.run (by decide) (Int.le_refl 0) hx0 bn) λr2 ⟨v2,g2⟩=>aA λ_=>bx (λ_=>aD ⟨v2,(Pst.cat a1 g2).up (by decide)⟩) λe2=>?_;have a2:=(Pst.cat a1 g2).a0 e2;have hd2:Eq (α:=Int) (r2.2.2.2.2.2.2.1) (s.2.2.2.2.2.1):=a2.dp;refine jV a2.run (Int.le_refl 0) hx0 (aU (bG ((gok hc fuel).list ⟨a2.run,?_,by decide⟩ ⟨_,hx⟩ bn) λ_ hr=>⟨hr.1,(Pst.cat a2 hr.2).up (by decide)⟩))
 have hf:(fuel:Int)=2^70:=by decide
 show 20*(HSub.hSub (α:=Int) (β:=Int) (γ:=Int) (C.D) (r2.2.2.2.2.2.2.1))+2<=(fuel:Int);rw [hd2,hd,hf];omega
theorem Fe{t:List eT}{lim:ub}{l:List xy}(hg:pg t)(hf:rW t)(ho:rT t t.length)(h1:LE.le (α:=Int) (0) (lim.1)/\LE.le (α:=Int) (lim.1) (4096))(h2:LE.le (α:=Int) (1) (lim.2.1)/\LE.le (α:=Int) (lim.2.1) (200))(h3:LE.le (α:=Int) (0) (lim.2.2)/\LE.le (α:=Int) (lim.2.2) (3000))(hl:l.length<=2^40):(R.fb t lim l).sat Hg:=by
 unfold R.fb R.lV;refine aA λ_=>fm (aA λ_=>aD (aA λ_=>?_));have hc:jU ⟨t,lim.1,lim.2.1,lim.2.2,l⟩:=⟨hg,hf,ho,h3.2,h2.2,hl⟩
 have hr:kF (o6 lim.1 0) 4096<=4096:=by rw [gG];omega
 refine aB (CW hc (s:=(t,(lim,(l,(0,((kF (o6 lim.1 0) 4096,[]),(0,(0,(Bf,(0,[])))))))))) ⟨rfl,rfl,rfl,Int.le_refl 0,by show (0:Int)<=(l.length:Int);omega,⟨0,⟨hr,Nat.zero_le _,λi c hc=>by cases hc⟩,?_⟩,Int.le_refl 0,by show (0:Int)<=lim.2.1;omega,Int.le_refl 0,h3.1,rfl,rfl⟩ rfl) λr ⟨v,g⟩=>aA λ_=>?_
 ·show ((0:Nat):Int)+134217728*(HSub.hSub (α:=Int) (β:=Int) (γ:=Int) (lim.2.2) (0))<=402653184000;omega
 ·rcases g with ⟨e5,hh⟩|⟨e5,ha⟩
  ·refine bK (λ_=>aD ?_) λh=>absurd e5 h;rcases hh.hs with ⟨e1,e2⟩|⟨k,k0,k1,e1,e2⟩
   ·exact .inl ⟨e1,e2⟩
   ·refine .inr ⟨e2,?_,?_,?_⟩
    ·show LE.le (α:=Int) (1) ((r.2.2.2.2.2.2.2.2.2).1);rw [e1];show 1<=k;omega
    ·show LE.le (α:=Int) ((r.2.2.2.2.2.2.2.2.2).1) (6);rw [e1];exact k1
    ·right;show (r.2.2.2.2.2.2.2.2.2).2=[];rw [e1]
  ·exact bK (λh=>absurd h e5) λ_=>bK (λ_=>aB (FO ha.run (by decide)) λ_ _=>aA λ_=>aD (.inr ⟨rfl,show (1:Int)<=2 by decide,show (2:Int)<=6 by decide,.inl rfl⟩)) λ_=>aD (.inr ⟨rfl,show (1:Int)<=1 by decide,show (1:Int)<=6 by decide,.inr rfl⟩)
theorem sat_and{α:Type}{m:Res α}{P Q:α->Prop}(h:m.sat P)(g:m.sat Q):m.sat λx=>P x/\Q x:=by
 induction m with
 |ok a=>exact ⟨h,g⟩
 |stuck=>exact h.elim
 |given b k ih=>exact λe=>ih (h e) (g e)
def Co(q:Int×Int)(lim:ub):Prop:=q.2=0/\zt lim=true
theorem Jm{q:Int×Int}{lim:ub}:(br (!(q.2 == 0)) (Res.ok true) ((R.kT lim).bind λr=>Res.ok (!r))).sat λb=>(b=true->¬ Co q lim)/\(b=false->Co q lim):=bx (λh=>aD ⟨λ_ g=>h g.1,λe=>by cases e⟩) λh=>aa xP (aD ⟨(λe g=>by rw [g.2] at e;cases e),λe=>⟨h,by cases hm:zt lim<;>simp_all⟩⟩)
theorem KE{t:List eT}{lim:ub}{l:List xy}(hf:rW t)(h3:LE.le (α:=Int) (lim.2.2) (3000))(hl:l.length<=2^40){q:Int×Int}(hq:(R.fH t).sat λx=>x=q):(R.ey t lim l).sat λr=>(Co q lim->Hg r)/\(¬ Co q lim->r=(Bf,(0,[]))):=by
 unfold R.ey;refine aA λ_=>aB (sat_and hq (BT hf)) λx ⟨hx,hgo⟩=>aA λ_=>?_;subst hx;refine aB Jm λb ⟨b1,b2⟩=>aG (λe=>aD ⟨λh=>absurd h (b1 e),λ_=>rfl⟩) λe=>?_;obtain ⟨e0,em⟩:=b2 e;obtain ⟨hg,ho⟩:=hgo e0;obtain ⟨m1,m2,m3,m4⟩:=of_decide_eq_true em;exact aB (Fe hg hf ho m1 m2 ⟨m3,h3⟩ hl) λr hr=>aA λ_=>aD ⟨λ_=>hr,λh=>absurd ⟨e0,em⟩ h⟩
end Go.Mach

set_option maxRecDepth 100000
namespace Go.Mach
open Res
variable {W:Wd}{N:NdT}{u:W.U}{c:ClT}{z:RsT}
theorem IA{t:NdT}(hm:W.m=kF (o6 W.L.1 0) 4096)(hm':W.m'=kF (o6 W.L'.1 0) 4096):Sy Eq (λr=>W.P r.2.1) (R.fb t W.L W.A) (R.fb t W.L' W.A'):=by
 unfold R.fb R.lV;refine jz (As (EN (jz ?_)));rw [<- hm,<- hm'];refine nN (Ff (W:=W) (N:=t) (u:=⟨0,Int.le_refl 0,by omega⟩) (c:=[]) (z:=(0,(0,(Bf,(0,[])))))).h ?_ ?_
 ·rintro _ _ ⟨v,N,u,c,z,rfl,rfl⟩;exact jz (s_br (vO rfl) (s_br sd (vO rfl)))
 ·rintro _ ⟨v,s,rfl,hb⟩;exact bR (b_t rfl (jM hb))
theorem yR{lim:ub}(h:zt lim=true):(R.kT lim).strip=some true:=by
 unfold R.kT;obtain ⟨⟨h1,h2⟩,⟨h3,h4⟩,h5,h6⟩:=of_decide_eq_true h
 have e:∀ {a b:Int},LE.le (α:=Int) a b->ile a b=true:=λh=>by rw [kE];exact h
 show (br (ile 0 lim.1) _ _).strip=_;rw [e h1];show (br (ile lim.1 4096) _ _).strip=_;rw [e h2];show (br (ile 1 lim.2.1) _ _).strip=_;rw [e h3];show (br (ile lim.2.1 200) _ _).strip=_;rw [e h4];show (br (ile 0 lim.2.2) _ _).strip=_;rw [e h5];show some (ile lim.2.2 100000)=_;rw [e h6]
theorem next_s{t:NdT}(hm:W.m=kF (o6 W.L.1 0) 4096)(hm':W.m'=kF (o6 W.L'.1 0) 4096)(hg:zt W.L=true)(hg':zt W.L'=true):Sy Eq (λr=>W.P r.2.1) (R.ey t W.L W.A) (R.ey t W.L' W.A'):=by
 unfold R.ey;refine jz (AB λq=>jz (sb_br (EN (HN (vO rfl))) (Dy (s_val (yR hg) (yR hg') (EN (s_ff rfl rfl (nN (IA hm hm') ?_ λ_ h=>bR (jM h))))))));rintro x _ rfl;exact jz (vO rfl)
end Go.Mach

