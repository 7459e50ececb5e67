/-
  Proved here: the law renlaw12.EvalWithin returns true for every input of the stated bulk and leaves its arguments as they were; no further condition.
  By an AI agent; no person has read it.
-/
import Derived.Test.YtdmjcmcdgepoeaaGreatDoorPartl
import Derived.KernelRfl
import GoSem.ClaimGoes
set_option linter.all false
set_option linter.deprecated false
set_option maxRecDepth 1000000
namespace Go.Mach
theorem Cj:R.dH.strip=some true:=by kernel_rfl
end Go.Mach

set_option maxRecDepth 100000
namespace Go.Mach
open Res
theorem ET:∀ F:Res Bool,F=R.dH->F.sat (·=true):=by
 intro F h
 have h2:=Cj
 rw [<- h] at h2
 exact ow h2 rfl
theorem Fl {l:List AnsI}:(R.iK l).sat fun r=>r=true->l.length<=100:=by
 unfold R.iK
 refine aA fun _=>aB (iA (Q:=fun _:Int=>True) (fun y=>y.2) 100 (by decide) (fun _=>True) (by decide) (by decide) trivial fun y y0 y1 _=>?_) fun r _=>lb (fun h=>aD fun _=>by have h:(l.length:Int)<=100:=h;omega) fun _=>aD fun e=>by cases e
 obtain ⟨a,j⟩:=y
 have y0:0<=j:=y0
 refine aB (R:=fun b=>b=true->j < (l.length:Int)/\j < 100) (er (fun h=>aD fun e=>⟨h,of_decide_eq_true e⟩) fun _=>aD fun e=>by cases e) fun b hb=>aI (fun e=>?_) fun _=>aD trivial
 obtain ⟨h1,h2⟩:=hb e
 exact bR y0 (by omega) fun _ _ _=>aD ⟨rfl,h2,trivial⟩
theorem EA {lim:yz}:(R.fi lim).sat fun r=>r=true->LE.le (α:=Int) (lim.2.2) (3000)/\LE.le (α:=Int) (lim.2.1) (200)/\LE.le (α:=Int) (lim.1) (1000):=by
 unfold R.fi
 exact aA fun _=>lb (fun h1=>lb (fun h2=>aD fun e=>⟨h1,h2,of_decide_eq_true e⟩) fun _=>aD fun e=>by cases e) fun _=>aD fun e=>by cases e
theorem w5:(R.eL As As).sat (·=true):=bH (om (P:=fun r=>r) (by kernel_rfl)) fun _ h=>h
theorem C0:(R.fA (0,[]) (0,[])).sat (·=true):=bH (om (P:=fun r=>r) (by kernel_rfl)) fun _ h=>h
theorem Co {a:Int×Int}(h:zl a):(R.i7 a).sat (·=true):=by
 unfold R.i7
 obtain ⟨k,n⟩:=a
 rcases h with ⟨h1,h2,h3⟩|⟨h1,h2⟩
 ·have h1:k=0:=h1
  have h2:0<=n:=h2
  have h3:n<=9007199254740991:=h3
  subst h1
  exact aA fun _=>gn rfl (lb (fun _=>aD (decide_eq_true h3)) fun h=>by have h:n < -9007199254740991:=h;omega)
 ·have h1:k=3:=h1
  have h2:n=0:=h2
  subst h1
  subst h2
  exact aA fun _=>hJ rfl (gn rfl (gn rfl (aD rfl)))
theorem CP {q:AB}(h:uT q):(R.fB q).sat (·=true):=by
 unfold R.fB
 obtain ⟨⟨k0,k1⟩,⟨l0,l1⟩,tx,nm,ha,hz⟩:=h
 have k0:LE.le (α:=Int) (1) (q.1):=k0
 have k1:LE.le (α:=Int) (q.1) (14):=k1
 have l0:LE.le (α:=Int) (0) (q.2.2.2.2.2.2.2.2.2.2.2):=l0
 have l1:LE.le (α:=Int) (q.2.2.2.2.2.2.2.2.2.2.2) (9007199254740991):=l1
 have tx:(q.2.2.2.2.2.2.2.2.2.2.1).length<=4096:=tx
 have nm':(Eq (α:=Int) ((q.2.2.2.2.2.2.2.2.2.1).1) (0)/\LE.le (α:=Int) (0) ((q.2.2.2.2.2.2.2.2.2.1).2))\/Eq (α:=Int) ((q.2.2.2.2.2.2.2.2.2.1).1) (3):=by
  rcases nm with ⟨h1,h2,_⟩|⟨h1,_⟩
  ·exact .inl ⟨h1,h2⟩
  ·exact .inr h1
 refine aA fun _=>aY (a:=false) (er (fun h=>by omega) fun _=>er (fun h=>by omega) fun _=>er (fun h=>by omega) fun _=>er (fun h=>by omega) fun _=>er (fun h=>by have h:(4096:Int) < ((q.2.2.2.2.2.2.2.2.2.2.1).length:Int):=h;omega) fun _=>aY (Co nm) (hJ rfl (bI (fun h=>by omega) fun _=>bI (fun h=>by omega) fun _=>bI (fun h=>aD (decide_eq_false (by omega))) fun _=>aD rfl))) (hJ rfl ?_)
 refine aB (R:=fun b=>(b=true->LT.lt (α:=Int) (q.1) (2)\/LT.lt (α:=Int) (6) (q.1))/\(b=false->LE.le (α:=Int) (2) (q.1)/\LE.le (α:=Int) (q.1) (6))) (er (fun h=>aD ⟨fun _=>.inl h,fun e=>by cases e⟩) fun h=>aD ⟨fun e=>.inr (of_decide_eq_true e),fun e=>⟨h,Int.not_lt.1 (of_decide_eq_false e)⟩⟩) fun b ⟨b1,b2⟩=>aI (fun e=>?_) fun e=>?_
 ·obtain ⟨a1,a2,a3,a4,a5,a6⟩:=ha (b1 e)
  exact bI (fun _=>dx (hJ a2 (dx (hJ a3 (bI (fun _=>bI (fun _=>aD (beq_iff_eq.2 a6)) fun h=>absurd a5 h) fun h=>absurd a4 h))))) fun h=>absurd a1 h
 ·obtain ⟨z1,z2,z3,z4,z5,z6⟩:=hz (b2 e)
  have z3:LE.le (α:=Int) (0) (q.2.2.1):=z3
  have zz:Eq (α:=Int) (q.2.2.2.1) (1)\/Eq (α:=Int) (q.2.2.2.1) (2)\/Eq (α:=Int) (q.2.2.2.1) (4)\/Eq (α:=Int) (q.2.2.2.1) (8):=z1
  have hop:((q.1 == 4) == (ilt 0 q.2.2.2.2.1))=true/\ile q.2.2.2.2.1 6=true:=by
   by_cases h4:Eq (α:=Int) (q.1) (4)
   ·obtain ⟨o1,o2⟩:=z5 h4
    rw [show (q.1 == 4)=true from beq_iff_eq.2 h4,show ilt 0 q.2.2.2.2.1=true from decide_eq_true o1]
    exact ⟨rfl,decide_eq_true o2⟩
   ·have o:=z6 h4
    rw [show (q.1 == 4)=false from beq_false_of_ne h4,show ilt 0 q.2.2.2.2.1=false from decide_eq_false (by rw [o];decide)]
    exact ⟨rfl,decide_eq_true (by rw [o];decide)⟩
  have hend:(br ((q.1 == 4) == (ilt 0 q.2.2.2.2.1)) (Res.ok (ile q.2.2.2.2.1 6)) (Res.ok false)).sat (·=true):=gn hop.1 (aD hop.2)
  refine aY (a:=true) (bI (fun _=>aD rfl) fun h1=>bI (fun _=>aD rfl) fun h2=>bI (fun _=>aD rfl) fun h3=>aD (beq_iff_eq.2 (((zz.resolve_left h1).resolve_left h2).resolve_left h3))) (aY (a:=true) ?_ (gn rfl (gn rfl (aI (fun _=>dx (aI (fun h=>gn (z4 h) hend) fun _=>hend)) fun h=>absurd (decide_eq_true z3) (by rw [show decide _=false from h];decide)))))
  refine bI (fun _=>aD rfl) fun h8=>?_
  obtain ⟨w1,w2⟩:=z2.resolve_left h8
  have fin:∀ {p:Int},nf .u64 1 (IntKind.wrap .u64 (IntKind.wrap .i64 (8*q.2.2.2.1)))=p->(2:Int)^(8*q.2.2.2.1).toNat=p->ile 0 (IntKind.wrap .u64 (IntKind.wrap .i64 (8*q.2.2.2.1)))=true->(ah (ile 0 (IntKind.wrap .u64 (IntKind.wrap .i64 (8*q.2.2.2.1)))) (br (ilt q.2.2.2.2.2.2.2.1 (nf .u64 1 (IntKind.wrap .u64 (IntKind.wrap .i64 (8*q.2.2.2.1))))) (ah (ile 0 (IntKind.wrap .u64 (IntKind.wrap .i64 (8*q.2.2.2.1)))) (Res.ok (ilt q.2.2.2.2.2.2.2.2.1 (nf .u64 1 (IntKind.wrap .u64 (IntKind.wrap .i64 (8*q.2.2.2.1))))))) (Res.ok false))).sat (·=true):=fun {p} e1 e2 e3=>by
   rw [e1]
   rw [e2] at w1 w2
   exact bG e3 (gn (decide_eq_true w1) (bG e3 (aD (decide_eq_true w2))))
  rcases zz with h|h|h|h
  ·exact fin (p:=256) (by rw [h];decide) (by rw [h];decide) (by rw [h];decide)
  ·exact fin (p:=65536) (by rw [h];decide) (by rw [h];decide) (by rw [h];decide)
  ·exact fin (p:=4294967296) (by rw [h];decide) (by rw [h];decide) (by rw [h];decide)
  ·exact absurd h h8
theorem wG (t:List gJ) (lim:yz) (l:List AnsI):lz (R.dM t lim l) (·=true):=by
 constructor
 unfold R.dM
 have firstF:=ET
 generalize hF:R.dH=F at firstF ⊢
 have first_t:=firstF _ rfl
 refine aA fun _=>aY first_t (hJ rfl (aB (R:=fun b=>b=false->(t.length<=20000/\rT t)/\l.length<=100/\LE.le (α:=Int) (lim.2.2) (3000)) (aB few_ok fun b1 h1=>dx (aI (fun e1=>aB Fl fun b2 h2=>dx (aI (fun e2=>aB EA fun b3 h3=>aD fun e=>⟨h1 e1,h2 e2,(h3 (by cases b3<;>simp_all)).1⟩) fun _=>aD fun e=>by cases e)) fun _=>aD fun e=>by cases e)) fun b hb=>aI (fun _=>aY first_t (aD rfl)) fun e=>?_))
 obtain ⟨⟨ht,hf⟩,hl,h3⟩:=hb e
 rcases Gp (zi hf) with ⟨q,hq,_⟩|hno
 ·refine aB (Gv hf h3 (by omega) hq) fun r ⟨r1,r2⟩=>aA fun _=>aY hq (aA fun _=>aB Bx fun b ⟨b1,b2⟩=>aI (fun e=>?_) fun e=>?_)
  ·have hr:=r2 (b1 e)
   subst hr
   refine aY first_t (gn rfl ?_)
   unfold R.fe R.iJ
   exact fJ (aA fun _=>aD (aA fun _=>aY w5 (gn rfl (fJ (aA fun _=>aD (aA fun _=>aY C0 (aD rfl)))))))
  ·rcases r1 (b2 e) with ⟨e1,e2⟩|⟨e1,k0,k1,k2⟩
   ·refine bI (fun _=>aY first_t (gn rfl (aY (CP e2) (gn rfl (aD ?_))))) fun h=>absurd ?_ h
    ·rw [e1]
     rfl
    ·rw [e1]
   ·refine bI (fun h=>?_) fun _=>aY first_t (gn rfl ?_)
    ·have h:Eq (α:=Int) (r.2.1) (0):=h
     omega
    ·unfold R.fe
     rw [e1]
     refine fJ (aA fun _=>aD (aA fun _=>aY w5 (gn rfl (aI (fun _=>bI (fun _=>aD rfl) fun h2=>aD ?_) fun h=>absurd (decide_eq_true k1) (by rw [show decide _=false from h];decide)))))
     have h:=k2.resolve_left h2
     rw [h]
     rfl
 ·refine fJ ?_
  unfold R.ik
  exact aA fun _=>fJ (hno _)
end Go.Mach

namespace Go.Mach
theorem Ay {P:Program}{c:OpenClaim}(h:P.funcs.any Func.goes=false) (hs:c.start=.entering):false=c.goesBy P:=by
 have h1:∀ g:Nat,(P.funcs[g]?).any Func.goes=false:=fun g=>by
  cases hg:P.funcs[g]? with
  |none=>rfl
  |some fn=>simpa using (Array.any_eq_false'.1 h) fn (Array.mem_of_getElem? hg)
 have h2:∀ f,P.goes f=false:=fun f=>by
  unfold Program.goes
  rw [h,Bool.and_false,Bool.or_false,List.any_eq_false]
  exact fun g _=>by rw [h1 g];decide
 have h3:P.goesFrom c.func=false:=by
  unfold Program.goesFrom
  cases P.funcNamed c.func with
  |none=>rfl
  |some f=>exact h2 f
 unfold OpenClaim.goesBy Program.goesAt
 rw [h3,hs]
 rfl
end Go.Mach

