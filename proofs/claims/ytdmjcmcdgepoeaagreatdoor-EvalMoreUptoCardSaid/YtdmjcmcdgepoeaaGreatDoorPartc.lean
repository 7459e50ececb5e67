/-
  Proved here: the law renlaw12.EvalMore returns true for every input of the stated bulk and leaves its arguments as they were; no further condition.
  By an AI agent; no person has read it.
-/
import Derived.Test.YtdmjcmcdgepoeaaGreatDoorPartb
import Derived.KernelRfl
import Derived.Lib.AtoiAll
import Derived.Lib.ItoaNum
import Derived.Lib.Bytealg
set_option linter.all false
set_option linter.deprecated false
namespace Go.Mach
theorem AN {sp:Spec}{E:Env}{G:qx}{fn:Func}{ann:Ann}(hm:E.P.follows .mixedOrders=true) (hE:pO E G) (hfn:E.P.funcs[sp.f]?=some fn) (hbody:fn.body.isSome=true) (hname:(fn.name == "runtime.NumGoroutine")=false)
  (hobj:(boxes sp.ps).all Sh.mw=true) (hnb:(sp.rs.all fun s=>s.2.oG)=true) (hnb2:(boxes sp.ps).all Sh.oG=true) (hres:fn.results.toList.all (xt E.P)=true)
  (heq:∀ x,vA E fn sp.ps sp.rs ann x=sp.run x):kf E.P G sp:=by
 refine ⟨⟨fn,hfn,hbody,hname⟩,hobj,fun w Z Y S args x Ψ hsat hG hZ hY hS hV=>?_⟩;rw [<- heq x] at hsat;unfold vA at hsat;split at hsat
 case h_2=>exact hsat.elim
 rename_i code hcode
 let B:gy:=⟨w,S,Z,Y,G,hG.1,fun b hb=>⟨hG.2 b hb,hZ b (hG.2 b hb),fun h=>(hS b h).2 (hG.2 b hb)⟩⟩
 let m0:Mem:=⟨List.replicate (mv (sp.ps.map Par.v)) dJ.dead,0,0⟩
 have hdead:∀ (r:Nat) (y:dJ),m0.roots[r]?=some y->y=dJ.dead:=fun r y hy=>by
  have hy:(List.replicate (mv (sp.ps.map Par.v)) dJ.dead)[r]?=some y:=hy;rw [List.getElem?_replicate] at hy;split at hy
  ·exact (Option.some.inj hy).symm
  ·cases hy
 have hM0:bh B m0 w Z (fun _=>none):=by
  refine ⟨(fun r y hy hd=>absurd (hdead r y hy) hd),(fun r s y z ℓ ℓ' _ _ _ _ _ hl=>by cases hl),(fun r y ℓ b _ _ hl=>by cases hl),fun b hb=>⟨hZ b hb,.inl hb⟩,fun b hb=>hb,Nat.le_refl _,fun b _ _=>rfl,fun _ _=>rfl,fun b hb=>hY b hb,Io.refl _⟩
 have hL0:dG B m0 w Z (fun _=>none) S:=by
  refine ⟨fun b hb=>⟨(hS b hb).2,(hS b hb).1,.inr hb⟩,fun b r hb=>?_⟩;rintro ⟨y,ℓ,_,_,hl,_⟩;cases hl
 have hF0:mj m0 (fun _=>none) (mv (sp.ps.map Par.v)):=fun k hk=>⟨rfl,by
  show (List.replicate (mv (sp.ps.map Par.v)) dJ.dead)[0+k]?=_
  rw [Nat.zero_add,List.getElem?_replicate,if_pos hk]⟩
 obtain ⟨μ1,e1,e2,e3,e4⟩:=sC hM0 hL0 hF0 hV (fun _ h=>h);have hobjc:=wU (ps:=sp.ps) (x:=x) (m:=m0);have hm0:(⟨List.replicate (mv (sp.ps.map Par.v)) dJ.dead,0,0⟩:Mem)=m0:=rfl;rw [hm0] at hsat;generalize mks (sp.ps.map Par.v) x m0=k at hsat e1 e2 e3 e4 hobjc;obtain ⟨vs,m⟩:=k;simp only at hsat e1 e2 e3 e4 hobjc;have hsat:=sH hsat hV.ok;refine calls_of_wp hfn hcode ?_
 let st:St:=⟨vs++List.replicate (fn.ntmps-vs.length) (.c .undef),m,[]⟩
 have hlen:=e3.len
 have hR:Rel B st { tmps:=args.toArray++Array.replicate (fn.ntmps-args.toArray.size) undef,defers:=[] } w Z μ1:=by
  refine ⟨e1,fun i z hz=>?_,?_,rfl⟩
  ·have hz:(vs++List.replicate (fn.ntmps-vs.length) (AV.c .undef))[i]?=some z:=hz;rcases Nat.lt_or_ge i vs.length with h1|h1
   ·rw [List.getElem?_append_left h1] at hz;obtain ⟨v,hv,har⟩:=ARs.at_ e3 i z hz
    have:(args.toArray++Array.replicate (fn.ntmps-args.toArray.size) undef).getD i undef=v:=by
     rw [Array.getD_eq_getD_getElem?,Array.getElem?_append_left (by simp;omega)];simp [hv]
    show AR w Z μ1 z ((args.toArray++Array.replicate (fn.ntmps-args.toArray.size) undef).getD i undef);rw [this];exact har
   ·rw [List.getElem?_append_right h1,List.getElem?_replicate] at hz;split at hz
    ·cases hz;exact AR.undef _
    ·cases hz
  ·show (vs++List.replicate (fn.ntmps-vs.length) (AV.c .undef)).length=(args.toArray++Array.replicate (fn.ntmps-args.toArray.size) undef).size;simp [hlen]
 refine lF (B:=B) hm hE code _ ann st _ Ψ _ st _ _ w w Z Z μ1 μ1 hsat hR hR (Ev.refl _) (de.refl _) ?_;intro e s a' w' Z' μ' hs hR' _ hext'
 have hfin:(fin E.P fn sp.ps sp.rs vs s).sat Ψ->a'.defers=[]/\∃ v,(results fn a'.tmps).run E.P w'=.ok v w'/\(∃ y v' kC,∃ Z' S1 S2:Nat->Prop,Ending.returned v=.returned v'/\Ψ y/\yT sp.rs v' kC /\
   lW w' Z' (fun _=>False) sp.rs kC (lb (boxes sp.ps) y) S1/\mb w' Z' (fun _=>False) sp.ps args y S2/\(∀ d,S1 d->S2 d->False) /\
   (∀ b,S1 b\/S2 b->b < w'.heap.size/\¬ Z' b/\(S b\/w.heap.size<=b))/\(∀ b,Z b->Z' b)/\(∀ b,Z' b->b < w'.heap.size/\(Z b\/S b\/w.heap.size<=b)) /\
   w.heap.size<=w'.heap.size/\(∀ b,b < w.heap.size->¬ S b->w'.heap[b]?=w.heap[b]?)/\Io w w'):=by
  intro hs;unfold fin at hs;obtain ⟨xs,kC,hrun,hxs,hs⟩:=oi hR' fn.results.toList hres hs;split at hs
  case h_2=>exact hs.elim
  rename_i y m1 hg;split at hs
  case h_2=>exact hs.elim
  rename_i z ho;obtain ⟨Z1,F1,S1,a1,a2,a3,a4,a5,a6,a7⟩:=qK hR'.mem (dG.none B s.mem w' Z' μ') hxs hg;have hsame:bk Z w w':=fun b hb=>a1.qz b (hZ b hb) fun hS'=>(hS b hS').2 hb;obtain ⟨m2,Z2,F2,S2,b1,b2,b3,b4,b5,b6,b7⟩:=oA (ps:=sp.ps) a1 a2 (e3.mono hsame a1.sQ hext') hobjc ho;obtain ⟨v,hv,hret⟩:=vf (rs:=sp.rs) hrun a7.len;refine ⟨hR'.df,v,hv,z,v,kC,Z2,S1,S2,rfl,hs,hret,?_,b6.noY hnb2,fun d h1 h2=>(b5 d h2).2 (a5 d h1).1,fun b hb=>?_,b1.sQ,fun b hb=>?_,b1.size,b1.qz,b1.io⟩
  ·rw [b7];exact (a7.up b3).noY hnb
  ·have hF:F2 b:=by
    rcases hb with hb|hb
    ·exact b4 b (a5 b hb).1
    ·exact (b5 b hb).1
   obtain ⟨c1,c2,c3⟩:=b2.ok b hF;exact ⟨c2,c1,c3.symm⟩
  ·obtain ⟨c1,c2⟩:=b1.frz b hb;exact ⟨c1,c2.imp id Or.symm⟩
 cases e with
 |nrm=>exact hfin hs
 |ret=>exact hfin hs
 |ext n=>exact hs.elim
theorem vn {sp:Spec}{P:Program}{G:qx}{fn:Func}(hfn:P.funcs[sp.f]?=some fn) (hbody:fn.body.isSome=true) (hname:(fn.name == "runtime.NumGoroutine")=false) (hobj:(boxes sp.ps).all Sh.mw=true) (h0:∀ x,sp.run x=.stuck):kf P G sp :=
 ⟨⟨fn,hfn,hbody,hname⟩,hobj,fun w Z Y S args x Ψ hsat=>by rw [h0] at hsat;exact hsat.elim⟩
end Go.Mach

namespace Go.Mach
section
variable {α β:Type}(f:α->Res β)
noncomputable def lT.then (K:lT α):lT β:={ nrm:=fun st=>(K.nrm st).bind f,ext:=fun n st=>(K.ext n st).bind f,ret:=fun st=>(K.ret st).bind f }
theorem Res.FB {γ δ:Type}(x:γ ⊕ δ) (g:γ->Res α) (h:δ->Res α):(Res.sum x g h).bind f=Res.sum x (fun y=>(g y).bind f) fun y=>(h y).bind f:=by cases x<;>rfl
theorem xf (E:Env) (ρ:Operand->AV) (M:Mem) (o:Oper) (K:AV->Mem->Res α):gK E ρ M o (fun v m=>(K v m).bind f)=(gK E ρ M o K).bind f:=by
 rw [oq,oq E ρ M o K,Res.bind_assoc]
theorem sy (ops:Array Oper) (dst:Option Tmp) (st:St) (K:St->Res α):qZ ops dst st (fun s=>(K s).bind f)=(qZ ops dst st K).bind f:=by
 unfold qZ;split
 ·unfold BG;split
  ·split
   ·rw [Res.yb]
   ·rfl
  ·rfl
 ·rfl
theorem oI (E:Env) (ops:Array Oper) (A:List Nat) (K:St->Res α):∀ (rest:List Oper) (i c:Nat) (l:Log) (st:St),mK E ops A rest i c l st (fun s=>(K s).bind f)=(mK E ops A rest i c l st K).bind f
 |[],_,_,_,_=>rfl
 |o::rest,i,c,l,st=>by
  simp only [mK];split
  ·split
   ·split
    ·rw [<- xf];congr 1;funext v m;split
     ·rw [<- sy];congr 1;funext s;exact oI E ops A K rest _ _ _ _
     ·rfl
    ·rfl
   ·split
    ·rename_i j xs _;rw [j.cps,j.cps α,Res.bind_assoc];congr 1;funext p;rw [<- sy];congr 1;funext s;exact oI E ops A K rest _ _ _ _
    ·rw [<- xf];congr 1;funext v m;rw [<- sy];congr 1;funext s;exact oI E ops A K rest _ _ _ _
  ·exact oI E ops A K rest _ _ _ _
  ·rfl
theorem lT.Cw (K:lT α) (k:qO) (st:St):(K.then f).at k st=(K.at k st).bind f:=by cases k<;>rfl
theorem B6 (st:St) (K:lT α):∀ (l:ll) (x:l.den),ll.go st (K.then f) l x=(ll.go st K l x).bind f
 |[],_=>rfl
 |[a],x=>by simp only [ll.go];exact lT.Cw f K _ _
 |a::b::r,x=>by
  simp only [ll.go];rw [Res.FB];congr 1
  ·funext y;exact lT.Cw f K _ _
  ·funext y;exact B6 st K (b::r) y
theorem pt {run:(γ:Type)->Ann->St->lT γ->Res γ}{ann:Ann}(h:∀ st (K:lT α),run β ann st (K.then f)=(run α ann st K).bind f) (st:St) (K:lT α) :
  cutAt ann st (K.then f) run=(cutAt ann st K run).bind f:=by
 unfold cutAt;split
 ·rename_i ex _;rw [Res.bind_assoc];congr 1;funext x;exact B6 f st K ex x
 ·exact h st K
theorem Ann.vF {a:Ann}(h:a.ky=true):a.left.ky=true:=by
 cases a with
 |two a b=>simp only [Ann.ky,Bool.and_eq_true] at h;exact h.1
 |_=>rfl
theorem Ann.AW {a:Ann}(h:a.ky=true):a.right.ky=true:=by
 cases a with
 |two a b=>simp only [Ann.ky,Bool.and_eq_true] at h;exact h.2
 |_=>rfl
theorem AY {run:(γ:Type)->Ann->St->lT γ->Res γ}(h:∀ ann st (K:lT α),ann.ky=true->run β ann st (K.then f)=(run α ann st K).bind f) (K:lT α):∀ (ann:Ann) (st:St),ann.ky=true->rz (run β) ann st (K.then f)=(rz (run α) ann st K).bind f:=by
 intro ann
 induction ann with
 |unr a r _ ih =>
  intro st hn;simp only [Ann.ky,Bool.and_eq_true] at hn;simp only [rz];rw [<- h _ _ _ hn.1];congr 1;simp only [lT.then];congr 1;funext s;exact ih s hn.2
 |_=>intro st _;rfl
theorem oR (E:Env):∀ (c:Code) (ann:Ann) (st:St) (K:lT α),ann.ky=true->exec E c β ann st (K.then f)=(exec E c α ann st K).bind f
 |.skip,ann,st,K,_=>rfl
 |.region _ ops draw,ann,st,K,_=>by
  unfold exec;refine pt f (fun st K=>?_) st K;simp only;split
  ·exact oI f _ ops _ K.nrm _ _ _ _ _
  ·rfl
 |.seq x y,ann,st,K,h=>by
  unfold exec;refine pt f (ann:=ann) (run:=fun γ ann st K=>exec E x γ ann.left st { nrm:=fun st=>exec E y γ ann.right st K,ext:=K.ext,ret:=K.ret }) (fun st K=>?_) st K;rw [<- oR E x ann.left st _ (Ann.vF h)];congr 1;simp only [lT.then];congr 1;funext s;exact oR E y ann.right s K (Ann.AW h)
 |.cond c x y,ann,st,K,h=>by
  unfold exec;refine pt f (fun st K=>?_) st K;split
  ·rw [Res.yb,oR E x ann.left st K (Ann.vF h),oR E y ann.right st K (Ann.AW h)]
  ·rfl
 |.block id x,ann,st,K,h=>by
  unfold exec;refine pt f (fun st K=>?_) st K;rw [<- oR E x ann.left st _ (Ann.vF h)];congr 1;simp only [lT.then];congr 1;funext n s
  split<;>rfl
 |.loop x,ann,st,K,h=>by
  unfold exec;split
  ·split
   ·rw [Res.bind_assoc];congr 1;funext y;exact B6 f st K _ y
   ·rfl
  ·exact AY f (run:=fun γ ann st K=>exec E x γ ann st K) (fun ann st K hn=>oR E x ann st K hn) K _ st h
  ·rfl
 |.scope x,ann,st,K,h=>by
  unfold exec;exact pt f (ann:=ann) (run:=fun γ ann st K=>exec E x γ ann.left st K) (fun st K=>oR E x ann.left st K (Ann.vF h)) st K
 |.label _,ann,st,K,_=>rfl
 |.exit id,ann,st,K,_=>rfl
 |.ret,ann,st,K,_=>rfl
 |.rangeFunc _ _ _ _,ann,st,K,_=>by unfold exec;rfl
 |.refuse _,ann,st,K,_=>by unfold exec;rfl
 |.goto _,ann,st,K,_=>by unfold exec;rfl
theorem qb (P:Program) (st:St):∀ (rs:List ResultVar) (K:List AV->Res α),oY P st rs (fun vs=>(K vs).bind f)=(oY P st rs K).bind f
 |[],K=>rfl
 |r::rs,K=>by
  simp only [oY,resAV];split
  ·exact qb P st rs _
  ·have hl:∀ {m:Mem}{n:Nat}{a:AV}(k:List C->Res α),qu m n a (fun cs=>(k cs).bind f)=(qu m n a k).bind f:=by
    intro m n a k;unfold qu;split
    ·split
     ·split<;>rfl
     ·split<;>rfl
     ·rfl
    ·split<;>rfl
    ·split
     ·rw [Res.pg];congr 1;funext x
      split<;>rfl
     ·rw [Res.kj];congr 1
      split<;>rfl
     ·rfl
    ·rfl
   rw [<- hl];congr 1;funext cs;exact qb P st rs _
end
end Go.Mach

namespace Go.Mach
def vV:List AV->AV
 |[v]=>v
 |vs=>.tup (vs.map fun v=>match v with
  |.c x=>(false,[x])
  |.agg cs=>(true,cs)
  |.tup _=>(false,[.undef]))
noncomputable def uF (E:Env) (fn:Func) (ann:Ann) (β:Type) (xs:List AV) (m:Mem) (K:AV->Mem->Res β):Res β :=
 match fn.body with
 |some code=>exec E code β ann ⟨xs++List.replicate (fn.ntmps-xs.length) (.c .undef),⟨m.roots,0,m.cur⟩,[]⟩
   {nrm:=fun st=>oY E.P st fn.results.toList fun vs=>K (vV vs) ⟨st.mem.roots,m.dR ||| st.mem.dR,st.mem.cur⟩
    ext:=fun _ _=>.stuck
    ret:=fun st=>oY E.P st fn.results.toList fun vs=>K (vV vs) ⟨st.mem.roots,m.dR ||| st.mem.dR,st.mem.cur⟩ }
 |none=>.stuck
theorem B9 {E:Env}{fn:Func}{ann:Ann}(h:ann.ky=true) (β:Type) (xs:List AV) (m:Mem) (K:AV->Mem->Res β):uF E fn ann β xs m K=(uF E fn ann (AV×Mem) xs m fun v m=>.ok (v,m)).bind fun p=>K p.1 p.2:=by
 unfold uF;split
 ·refine Eq.trans ?_ (oR (fun p:AV×Mem=>K p.1 p.2) E _ ann _ _ h);congr 1;simp only [lT.then];congr 1
  ·funext s;exact qb (fun p:AV×Mem=>K p.1 p.2) E.P s _ fun vs=>Res.ok (vV vs,⟨s.mem.roots,m.dR ||| s.mem.dR,s.mem.cur⟩)
  ·funext s;exact qb (fun p:AV×Mem=>K p.1 p.2) E.P s _ fun vs=>Res.ok (vV vs,⟨s.mem.roots,m.dR ||| s.mem.dR,s.mem.cur⟩)
 ·rfl
noncomputable def AD (f:FuncId) (E:Env) (fn:Func) (ann:Ann) (n:Nat:=0) (h:ann.ky=true:=by rfl):Inl:=⟨f,uF E fn ann,n,B9 h⟩
theorem E8 {w:World}{Z:Nat->Prop}{μ:bZ}{xs:List AV}{kC:List Value}(h:ARs w Z μ xs kC){v:Value}(hv:(kC.length=1/\kC=[v])\/(kC.length≠1/\v=.tuple kC.toArray)):AR w Z μ (vV xs) v:=by
 have hl:=h.len;rcases hv with ⟨h1,rfl⟩|⟨h1,rfl⟩
 ·match xs,h with
  |[x],h =>
   obtain ⟨v',vs',he,h2,h3⟩:=h;cases he;exact h2
  |[],h=>simp at hl
  |_::_::_,h=>simp at hl
 ·have hp:vV xs=.tup (xs.map fun v=>match v with
   |.c x=>(false,[x])
   |.agg cs=>(true,cs)
   |.tup _=>(false,[.undef])):=by
   match xs with
   |[]=>rfl
   |[x]=>simp at hl;exact absurd hl h1
   |_::_::_=>rfl
  rw [hp];refine ⟨kC,rfl,by simp [hl],fun k hk hk'=>?_⟩;simp only [List.getElem_map]
  have hk2:k < xs.length:=by simpa using hk
  obtain ⟨u,hu,har⟩:=ARs.at_ h k xs[k] (List.getElem?_eq_getElem hk2)
  have hu:kC[k]=u:=by rw [List.getElem?_eq_getElem hk'] at hu;exact Option.some.inj hu
  rw [hu];generalize xs[k]=x at har
  cases x with
  |c c=>exact har
  |agg cs=>exact har
  |tup l=>exact trivial
theorem yz {P:Program}{w:World}{fn:Func}{tmps:Array Value}{vs:List Value}(h:(fn.results.toList.mapM (tB tmps)).run P w=.ok vs w) :
  ∃ v,(results fn tmps).run P w=.ok v w/\((vs.length=1/\vs=[v])\/(vs.length≠1/\v=.tuple vs.toArray)):=by
 rw [wG,Array.mapM_eq_mapM_toList];simp only [Sem.run_bind,Sem.run_map,h,Result.andThen_ok,Sem.run_pure];refine ⟨_,rfl,?_⟩;by_cases h1:vs.length=1
 ·match vs,h1 with
  |[v],_=>exact .inl ⟨rfl,by simp⟩
 ·exact .inr ⟨h1,by simp [h1]⟩
theorem rV {E:Env}{G:qx}{f:FuncId}{fn:Func}{ann:Ann}(hm:E.P.follows .mixedOrders=true) (hE:pO E G) (hfn:E.P.funcs[f]?=some fn) (hbody:fn.body.isSome=true) (hname:(fn.name == "runtime.NumGoroutine")=false)
  (hres:fn.results.toList.all (xt E.P)=true){n:Nat}{hnr:ann.ky=true}:Cd E.P G (AD f E fn ann n hnr):=by
 refine ⟨⟨fn,hfn,hbody,hname⟩,?_⟩;rintro B β Ψ xs args m w Z μ K rfl hM hx h;have h:(uF E fn ann β xs m K).sat Ψ:=h;unfold uF at h;split at h
 case h_2=>exact h.elim
 rename_i code hcode
 let B2:gy:=⟨w,fun b=>¬ Z b/\(B.w0.heap.size<=b\/B.A b),Z,B.Y,B.g,hM.yY.1,fun b hb=>⟨hM.yY.2 b hb,(hM.frz b (hM.yY.2 b hb)).1,fun h=>h.1 (hM.yY.2 b hb)⟩⟩
 let m0:Mem:=⟨m.roots,0,m.cur⟩
 have hM2:bh B2 m0 w Z μ:=⟨hM.rt,hM.dj,fun r x ℓ b h1 h2 h3 h4=>by
   obtain ⟨g1,g2,g3⟩:=hM.own r x ℓ b h1 h2 h3 h4
   exact ⟨g1,g2,.inr ⟨g1,g3⟩⟩,fun b hb=>⟨(hM.frz b hb).1,.inl hb⟩,fun b hb=>hb,Nat.le_refl _,fun b _ _=>rfl,hM.far,fun b hb=>⟨Nat.lt_of_lt_of_le (hM.na b hb).1 hM.size,fun hA=>by
   obtain ⟨g1,g2⟩:=hM.na b hb;rcases hA.2 with h2|h2
   ·omega
   ·exact g2 h2⟩,Io.refl _⟩
 refine calls_of_wp hfn hcode ?_
 let st:St:=⟨xs++List.replicate (fn.ntmps-xs.length) (.c .undef),m0,[]⟩
 have hlen:=hx.len
 have hR:Rel B2 st { tmps:=args.toArray++Array.replicate (fn.ntmps-args.toArray.size) undef,defers:=[] } w Z μ:=by
  refine ⟨hM2,fun i z hz=>?_,?_,rfl⟩
  ·have hz:(xs++List.replicate (fn.ntmps-xs.length) (AV.c .undef))[i]?=some z:=hz;rcases Nat.lt_or_ge i xs.length with h1|h1
   ·rw [List.getElem?_append_left h1] at hz;obtain ⟨v,hv,har⟩:=ARs.at_ hx i z hz
    have:(args.toArray++Array.replicate (fn.ntmps-args.toArray.size) undef).getD i undef=v:=by
     rw [Array.getD_eq_getD_getElem?,Array.getElem?_append_left (by simp;omega)];simp [hv]
    show AR w Z μ z ((args.toArray++Array.replicate (fn.ntmps-args.toArray.size) undef).getD i undef);rw [this];exact har
   ·rw [List.getElem?_append_right h1,List.getElem?_replicate] at hz;split at hz
    ·cases hz;exact AR.undef _
    ·cases hz
  ·show (xs++List.replicate (fn.ntmps-xs.length) (AV.c .undef)).length=(args.toArray++Array.replicate (fn.ntmps-args.toArray.size) undef).size;simp [hlen]
 refine lF (B:=B2) hm hE code _ ann st _ Ψ _ st _ _ w w Z Z μ μ h hR hR (Ev.refl _) (de.refl _) ?_;intro e s a' w' Z' μ' hs hR' hev hext'
 have hfin:(oY E.P s fn.results.toList fun vs=>K (vV vs) ⟨s.mem.roots,m.dR ||| s.mem.dR,s.mem.cur⟩).sat Ψ->a'.defers=[]/\∃ v,(results fn a'.tmps).run E.P w'=.ok v w'/\(∃ vr v' m',∃ Z':Nat->Prop,∃ μ',Ending.returned v=.returned vr/\(K v' m').sat Ψ/\bh B m' w' Z' μ'/\AR w' Z' μ' v' vr/\bk Z w w'/\(∀ b,Z b->Z' b)/\de μ μ'/\m.roots.length<=m'.roots.length /\
   (∀ r,r < m.roots.length->m'.dR.testBit r=false->m'.roots[r]?=m.roots[r]?)/\(∀ r,m.dR.testBit r=true->m'.dR.testBit r=true)):=by
  intro hs;obtain ⟨ys,kC,hrun,hys,hs⟩:=oi hR' fn.results.toList hres hs;obtain ⟨v,hv,hp⟩:=yz hrun;have hN:=hR'.mem;refine ⟨hR'.df,v,hv,v,_,_,Z',μ',rfl,hs,?_,E8 hys hp,?_,hN.sQ,hext',hev.rl,fun r hr hb=>?_,fun r hr=>?_⟩
  ·refine bh.congr (m:=s.mem) ?_ rfl;refine ⟨hN.rt,hN.dj,fun r x ℓ b h1 h2 h3 h4=>?_,fun b hb=>?_,fun b hb=>hN.sQ b (hM.sQ b hb),Nat.le_trans hM.size hN.size,fun b hb hA=>?_,hN.far,hM.na,hM.io.trans hN.io⟩
   ·obtain ⟨g1,g2,g3⟩:=hN.own r x ℓ b h1 h2 h3 h4;refine ⟨g1,g2,?_⟩;rcases g3 with g3|g3
    ·exact .inl (Nat.le_trans hM.size g3)
    ·exact g3.2
   ·obtain ⟨g1,g2⟩:=hN.frz b hb;refine ⟨g1,?_⟩;rcases g2 with g2|g2|g2
    ·exact (hM.frz b g2).2
    ·exact .inr (.inl (Nat.le_trans hM.size g2))
    ·exact .inr g2.2
   ·refine (hN.qz b (Nat.lt_of_lt_of_le hb hM.size) fun h2=>?_).trans (hM.qz b hb hA);rcases h2.2 with h3|h3
    ·omega
    ·exact hA h3
  ·exact fun b hb=>hN.qz b (hM.frz b hb).1 fun h2=>h2.1 hb
  ·simp only [Nat.testBit_or,Bool.or_eq_false_iff] at hb;exact hev.rt r hr hb.2
  ·simp only [Nat.testBit_or,hr,Bool.true_or]
 cases e with
 |nrm=>exact hfin hs
 |ret=>exact hfin hs
 |ext n=>exact hs.elim
end Go.Mach

namespace Go.Mach
structure Sg where
 ps:List Par
 rs:List VSh
abbrev Sg.I (g:Sg):Type:=lA (g.ps.map Par.v)
abbrev Sg.O (g:Sg):Type:=outs (lA g.rs) (boxes g.ps)
@[reducible] def Sg.i (g:Sg) (x:g.I):Bool:=oks (g.ps.map Par.v) x
def Sg.o (g:Sg) (y:g.O):Bool:=rB (oks g.rs) (boxes g.ps) y
@[reducible] def Sg.sp (g:Sg) (f:FuncId) (run:g.I->Res g.O):Spec:=⟨f,g.ps,g.rs,run⟩
abbrev Ann.r (a:Ann):Ann:=.two .none a
abbrev Ann.l (a:Ann):Ann:=.two a .none
abbrev rg (a n:Nat):List Nat:=List.range' a n
abbrev Sh.i:Sh:=.frz (.int .i64)
abbrev Sh.h:Sh:=.frz (.int .u16)
abbrev Sh.y:Sh:=.frz (.int .u8)
abbrev Sh.w:Sh:=.frz (.int .u32)
abbrev Sh.b:Sh:=.frz .bool
abbrev Sh.s:Sh:=.frz .str
abbrev vi:VSh:=(false,.i)
abbrev vb:VSh:=(false,.b)
abbrev vs:VSh:=(false,.s)
abbrev Par.i:Par:=.val false .i
abbrev Par.b:Par:=.val false .b
abbrev Par.s:Par:=.val false .s
def fnOk (P:Program) (ps:List Par) (rs:List VSh) (fn:Func):Bool :=
 fn.body.isSome && (!(fn.name == "runtime.NumGoroutine") && ((boxes ps).all Sh.mw && ((rs.all fun s=>s.2.oG) && ((boxes ps).all Sh.oG && fn.results.toList.all (xt P)))))
def Eqn (E:Env) (sp:Spec) (ann:Ann):Prop:=∃ fn,E.P.funcs[sp.f]?=some fn/\fnOk E.P sp.ps sp.rs fn=true/\∀ x,vA E fn sp.ps sp.rs ann x=sp.run x
theorem eqn {E:Env}{f:FuncId}{ps:List Par}{rs:List VSh}{run:lA (ps.map Par.v)->Res (outs (lA rs) (boxes ps))}{ann:Ann}(fn:Func) (h1:E.P.funcs[f]?=some fn:=by kernel_rfl) (h2:fnOk E.P ps rs fn=true:=by kernel_rfl) (h3:∀ x,vA E fn ps rs ann x=run x:=by intro x;kernel_rfl):Eqn E ⟨f,ps,rs,run⟩ ann:=⟨fn,h1,h2,h3⟩
theorem Eqn.Ak {E:Env}{G:qx}{sp:Spec}{ann:Ann}(h:Eqn E sp ann) (hm:E.P.follows .mixedOrders=true) (hE:pO E G):kf E.P G sp:=by
 obtain ⟨fn,h1,h2,h3⟩:=h;simp only [fnOk,Bool.and_eq_true,Bool.not_eq_true'] at h2;exact AN hm hE h1 h2.1 h2.2.1 h2.2.2.1 h2.2.2.2.1 h2.2.2.2.2.1 h2.2.2.2.2.2 h3
theorem Eqn.stuck {E:Env}{G:qx}{sp:Spec}{ann:Ann}{run:lA (sp.ps.map Par.v)->Res (outs (lA sp.rs) (boxes sp.ps))}(h:Eqn E sp ann) (h0:∀ x,run x=.stuck):kf E.P G ⟨sp.f,sp.ps,sp.rs,run⟩:=by
 obtain ⟨fn,h1,h2,h3⟩:=h;simp only [fnOk,Bool.and_eq_true,Bool.not_eq_true'] at h2;exact vn h1 h2.1 h2.2.1 h2.2.2.1 h0
end Go.Mach

namespace Go.Mach
def w6 (x:Int):Int:=IntKind.wrap .i64 x
end Go.Mach

namespace Go.Mach
def rn (n:Int):Res (List UInt8):=.ok (Lib.itoa n)
@[reducible] def rN.ps:List Par:=[.val false (.frz (.int .i64))]
@[reducible] def rN.rs:List VSh:=[(false,.frz .str)]
abbrev rN.g:Sg:=⟨rN.ps,rN.rs⟩
def p7 (f:FuncId):Spec:=⟨f,rN.ps,rN.rs,fun x=>rn x⟩
def qE (s:List UInt8):Res (Int×Bool) :=
 match Lib.atoiAll s with
 |.ok v=>.ok (v,true)
 |.range=>.ok (Lib.atoiSat s,false)
 |_=>.ok (0,false)
@[reducible] def qC.ps:List Par:=[.val false (.frz .str)]
@[reducible] def qC.rs:List VSh:=[(false,.frz (.int .i64)),(false,.err)]
abbrev qC.g:Sg:=⟨qC.ps,qC.rs⟩
def tz (f:FuncId):Spec:=⟨f,qC.ps,qC.rs,fun x=>qE x⟩
def ixbRun (s:List UInt8) (c:Int):Res Int:=.ok (Lib.indexByte s c.toNat.toUInt8)
end Go.Mach

set_option linter.unusedVariables false
set_option maxRecDepth 20000
noncomputable section
namespace Go.Mach
open Res
abbrev aI:Ty:=(.pair (.int .i64) (.int .i64))
abbrev az:Ty:=(.pair .bool (.list (.int .u32)))
abbrev gY:Ty:=(.pair (.int .i64) (.list (.int .u16)))
abbrev kZ:Ty:=(.pair (.list (.int .u16)) (.int .i64))
abbrev dy:Ty:=(.pair (.int .i64) aI)
abbrev fM:Ty:=(.pair (.int .u64) (.pair (.int .i64) (.pair (.int .i64) gY)))
abbrev aC:Ty:=(.pair (.int .i64) (.pair aI (.pair az kZ)))
abbrev aF:Ty:=(.pair (.int .i64) (.pair .str (.pair (.list (.int .u16)) (.pair aI (.pair az (.list (.int .i64)))))))
abbrev bQ:Ty:=(.pair (.list (.int .u16)) aC)
abbrev cS:Ty:=(.pair (.int .i64) (.pair .str (.pair (.list (.int .u16)) (.pair aI (.pair az (.pair (.int .i64) .bool))))))
abbrev aV:Ty:=(.pair (.int .i64) (.pair .str aC))
abbrev aO:Ty:=(.pair (.int .i64) (.pair aC .bool))
abbrev bJ:Ty:=(.pair .str (.pair aC (.pair .bool .bool)))
abbrev ml:Ty:=(.pair (.list cS) dy)
abbrev fB:Ty:=(.pair (.int .i64) (.pair (.int .i64) (.pair (.int .i64) (.pair (.int .i64) (.pair (.int .i64) (.pair .bool (.pair .bool (.pair (.int .u64) (.pair (.int .u64) (.pair aI kZ))))))))))
abbrev fi:Ty:=(.pair .str (.pair aC aC))
abbrev jZ:Ty:=(.pair (.int .i64) (.pair (.int .i64) (.pair (.list bQ) (.pair (.list bJ) (.pair .str (.pair (.int .i64) (.pair (.int .i64) (.pair aC (.pair (.int .i64) (.pair (.int .i64) (.pair (.int .i64) (.pair (.int .i64) (.list (.int .u8))))))))))))))
abbrev iB:Ty:=(.pair (.int .i64) (.list jZ))
abbrev bd {α β:Type}(m:Res α) (k:α->Res β):Res β:=Res.bind m k
abbrev cl {α β:Type}(m:Res α) (b:α->Bool) (k:α->Res β):Res β:=Res.bind m fun r=>Res.given (b r) (k r)
abbrev zV:aC.den:=(0,((0,0),((false,([]:List Int)),(([]:List Int),0))))
abbrev kh:Sh:=(.seq .i (.seq .i (.seq (.own (.frz bQ)) (.seq (.own (.frz bJ)) (.seq .s (.seq .i (.seq .i (.seq (.frz aC) (.seq .i (.seq .i (.seq .i (.seq .i (.own .y)))))))))))))
abbrev jJ:Sh:=(.seq .i (.seq .i (.seq .opq (.seq .opq (.seq .s (.seq .i (.seq .i (.seq (.frz aC) (.seq .i (.seq .i (.seq .i (.seq .i .opq))))))))))))
abbrev Il:Sh:=(.seq .i (.own kh))
abbrev eW:Sh:=(.box Il)
abbrev S_run0:Sh:=(.seq (.frz (.list aF)) (.seq (.frz dy) (.seq (.frz (.list fM)) (.seq .i (.seq eW (.seq .i (.seq .i (.seq (.frz fB) (.frz gY)))))))))
abbrev aG:Sh:=(.box S_run0)
abbrev EI:Sh:=(.seq (.frz (.list (.int .u16))) .i)
abbrev cR:Sh:=(.box EI)
abbrev Dg:Sh:=(.seq (.frz (.list cS)) (.seq .i (.seq .i .i)))
abbrev aL:Sh:=(.box Dg)
abbrev lO:Sh:=(.own (.frz aF))
abbrev pY:Sh:=(.box lO)
abbrev pB:Sh:=(.seq (.frz aF) (.own (.frz (.rose aF))))
@[reducible] def vH (e:Ty):List Par:=[.val false (.bor (.own (.frz e)))]
@[reducible] def vJ (e:Ty):List VSh:=[(false,.own (.frz e))]
def mi (e:Ty):outs (lA (vJ e)) (boxes (vH e))->Bool:=rB (oks (vJ e)) (boxes (vH e))
def jb (f:FuncId) (e:Ty):Spec:=⟨f,vH e,vJ e,fun x=>ok x⟩
def qG (k:Nat) (f:FuncId) (e:Ty):Spec:=⟨f,vH e,vJ e,fun x=>ai (decide ((0+x.length)*k<=2^47)) (ok x)⟩
abbrev fm.g:Sg:=⟨[.val false (.bor (.own .y))],[(false,(.frz (.int .i32))),vi]⟩
def R.fm (p_0:(List Int)):Res ((Int×Int)) :=
 given (fm.g.i p_0) (bd (loop (α:=Int) (β:=(Unit ⊕ (Int×Int))) (fun x1=>br (ilt x1 (p_0.length:Int)) (ct .y p_0 x1 fun e2=>br (ilt e2 128) (ok (.done (.inr (IntKind.wrap .i32 e2,1)))) (ok (.done (.inl ())))) (ok (.done (.inl ())))) fuel 0) fun x3=>sum x3 (fun x4=>Res.stuck) (fun z5=>ok z5))
abbrev kL.g:Sg:=⟨[.val false (.bor (.own .y))],[(false,(.own .h)),vi,vi]⟩
def R.kL (b_0:(List Int)):Res (((List Int)×(Int×Int))) :=
 given (kL.g.i b_0) (br (ilt 4096 (b_0.length:Int)) (ok ((([]:List Int),(0,3)))) (bd (loop (α:=((List Int)×Int)) (β:=((List Int) ⊕ ((List Int)×(Int×Int)))) (fun l1=>br (ilt l1.2 (b_0.length:Int)) (ai (ile 0 l1.2 && ile l1.2 b_0.length) (cl (R.fm (List.take (b_0.length-(Int.toNat l1.2)) (List.drop (0+(Int.toNat l1.2)) b_0))) fm.g.o fun r2=>bd (α:=Bool) (br (r2.1 == 65533) (ok ((ile r2.2 1))) (ok false)) fun x3=>br x3 (ok (.done (.inr (([]:List Int),(l1.2,2))))) (br (ilt r2.1 65536) (ai (decide ((l1.1.length+[IntKind.wrap .u16 r2.1].length)*2<=2^47)) (ok (.next (((l1.1++[IntKind.wrap .u16 r2.1]),w6 (l1.2+r2.2)))))) (ai (ile 0 10) (ai (decide ((l1.1.length+[IntKind.wrap .u16 (IntKind.wrap .i32 (55296+(ij .i32 (IntKind.wrap .i32 (r2.1-65536)) 10))),IntKind.wrap .u16 (IntKind.wrap .i32 (56320+(gD .and .i32 (IntKind.wrap .i32 (r2.1-65536)) 1023)))].length)*2<=2^47)) (ok (.next (((l1.1++[IntKind.wrap .u16 (IntKind.wrap .i32 (55296+(ij .i32 (IntKind.wrap .i32 (r2.1-65536)) 10))),IntKind.wrap .u16 (IntKind.wrap .i32 (56320+(gD .and .i32 (IntKind.wrap .i32 (r2.1-65536)) 1023)))]),w6 (l1.2+r2.2)))))))))) (ok (.done (.inl l1.1)))) fuel (([]:List Int),0)) fun l4=>sum l4 (fun l5=>ok ((l5,(0,0)))) (fun z6=>ok z6)))
abbrev lS.g:Sg:=⟨[.val false .h],[vb]⟩
def R.lS (x_0:Int):Res (Bool) :=
 given (lS.g.i x_0) (br (x_0 == 9) (ok true) (br (x_0 == 11) (ok true) (br (x_0 == 12) (ok true) (ok ((x_0 == 32))))))
abbrev lJ.g:Sg:=⟨[.val false .h],[vb]⟩
def R.lJ (x_0:Int):Res (Bool) :=
 given (lJ.g.i x_0) (br (x_0 == 10) (ok true) (ok ((x_0 == 13))))
abbrev dk.g:Sg:=⟨[.val false (.bor cR),.s],[vb]⟩
def R.dk (r_0:kZ.den) (s_1:(List UInt8)):Res (Bool) :=
 given (dk.g.i (r_0,s_1)) (bd (loop (α:=Int) (β:=(Unit ⊕ Bool)) (fun x1=>br (ilt x1 (s_1.length:Int)) (bd (α:=Bool) (br (ile (r_0.1.length:Int) (w6 (r_0.2+x1))) (ok true) (idx (.int .u16) r_0.1 (w6 (r_0.2+x1)) fun e2=>idx (.int .u8) (lU s_1) x1 fun e3=>ok ((!(e2 == (IntKind.wrap .u16 e3)))))) fun x4=>br x4 (ok (.done (.inr false))) (ok (.next (w6 (x1+1))))) (ok (.done (.inl ())))) fuel 0) fun x5=>sum x5 (fun x6=>ok true) (fun z7=>ok z7))
abbrev fl.g:Sg:=⟨[.obj cR],[vb,vi,vi]⟩
def R.fl (r_0:cR.den):Res ((Bool×(Int×Int))×cR.den) :=
 given (fl.g.i r_0) (bd (loop (α:=(Bool×cR.den)) (β:=(Bool×cR.den)) (fun nl1=>br (ilt nl1.2.2 (nl1.2.1.length:Int)) (idx (.int .u16) nl1.2.1 nl1.2.2 fun e2=>bd (α:=Bool) (bd (R.lS e2) fun r3=>br r3 (ok true) (bd (R.lJ e2) fun r4=>ok r4)) fun x5=>br x5 (bd (α:=Bool) (br nl1.1 (ok true) (bd (R.lJ e2) fun r6=>ok r6)) fun nl7=>ok (.next ((nl7,(nl1.2.1,w6 (nl1.2.2+1)))))) (bd (α:=Bool) (bd (R.dk nl1.2 [47,47]) fun r8=>br r8 (ok true) (bd (R.dk nl1.2 [47,42]) fun r9=>ok r9)) fun x10=>br x10 (Res.stuck) (ok (.done (nl1))))) (ok (.done (nl1)))) fuel (false,r_0)) fun nl11=>ok (((nl11.1,(0,0)),nl11.2)))
abbrev gd.g:Sg:=⟨[.val false .h],[vb]⟩
def R.gd (x_0:Int):Res (Bool) :=
 given (gd.g.i x_0) (br (ile 97 x_0) (br (ile x_0 122) (ok true) (br (ile 65 x_0) (br (ile x_0 90) (ok true) (br (x_0 == 95) (ok true) (ok ((x_0 == 36))))) (br (x_0 == 95) (ok true) (ok ((x_0 == 36)))))) (br (ile 65 x_0) (br (ile x_0 90) (ok true) (br (x_0 == 95) (ok true) (ok ((x_0 == 36))))) (br (x_0 == 95) (ok true) (ok ((x_0 == 36))))))
abbrev iP.g:Sg:=⟨[.val false .h],[vb]⟩
def R.iP (x_0:Int):Res (Bool) :=
 given (iP.g.i x_0) (br (ile 48 x_0) (ok ((ile x_0 57))) (ok false))
abbrev fS.g:Sg:=⟨[.val false .h],[vb]⟩
def R.fS (x_0:Int):Res (Bool) :=
 given (fS.g.i x_0) (bd (R.gd x_0) fun r1=>br r1 (ok true) (bd (R.iP x_0) fun r2=>ok r2))
abbrev ba.g:Sg:=⟨[.val false (.bor cR),.i,.val false (.bor (.clo 208 .nil))],[vb]⟩
def R.ba (r_0:kZ.den) (k_1:Int) (f_2:Unit):Res (Bool) :=
 given (ba.g.i (r_0,(k_1,f_2))) (br (ilt (w6 (r_0.2+k_1)) (r_0.1.length:Int)) (idx (.int .u16) r_0.1 (w6 (r_0.2+k_1)) fun e1=>bd (R.fS e1) fun r2=>ok r2) (ok false))
abbrev bK.g:Sg:=⟨[.obj cR,.val false (.bor (.clo 208 .nil))],[vs]⟩
def R.bK (r_0:cR.den) (f_1:Unit):Res ((List UInt8)×cR.den) :=
 given (bK.g.i (r_0,f_1)) (bd (loop (α:=((List Int)×cR.den)) (β:=((List Int)×cR.den)) (fun b1=>bd (R.ba b1.2 0 ()) fun r2=>br r2 (idx (.int .u16) b1.2.1 b1.2.2 fun e3=>ai (decide ((b1.1.length+[IntKind.wrap .u8 e3].length)*1<=2^47)) (ok (.next (((b1.1++[IntKind.wrap .u8 e3]),(b1.2.1,w6 (b1.2.2+1))))))) (ok (.done (b1)))) fuel (([]:List Int),r_0)) fun b4=>ok ((rG b4.1,b4.2)))
abbrev kD.g:Sg:=⟨[.s],[vi]⟩
def R.kD (s_0:(List UInt8)):Res (Int) :=
 given (kD.g.i s_0) (bd (α:=Bool) (br (s_0 == [98,114,101,97,107]) (ok ((s_0 == [98,114,101,97,107]))) (br (s_0 == [99,97,116,99,104]) (ok ((s_0 == [99,97,116,99,104]))) (br (s_0 == [99,111,110,115,116]) (ok ((s_0 == [99,111,110,115,116]))) (br (s_0 == [99,111,110,116,105,110,117,101]) (ok ((s_0 == [99,111,110,116,105,110,117,101]))) (br (s_0 == [101,108,115,101]) (ok ((s_0 == [101,108,115,101]))) (br (s_0 == [102,97,108,115,101]) (ok ((s_0 == [102,97,108,115,101]))) (br (s_0 == [102,105,110,97,108,108,121]) (ok ((s_0 == [102,105,110,97,108,108,121]))) (br (s_0 == [102,111,114]) (ok ((s_0 == [102,111,114]))) (br (s_0 == [102,117,110,99,116,105,111,110]) (ok ((s_0 == [102,117,110,99,116,105,111,110]))) (br (s_0 == [105,102]) (ok ((s_0 == [105,102]))) (br (s_0 == [105,110]) (ok ((s_0 == [105,110]))) (br (s_0 == [108,101,116]) (ok ((s_0 == [108,101,116]))) (br (s_0 == [110,101,119]) (ok ((s_0 == [110,101,119]))) (br (s_0 == [110,117,108,108]) (ok ((s_0 == [110,117,108,108]))) (br (s_0 == [114,101,116,117,114,110]) (ok ((s_0 == [114,101,116,117,114,110]))) (br (s_0 == [116,104,105,115]) (ok ((s_0 == [116,104,105,115]))) (br (s_0 == [116,104,114,111,119]) (ok ((s_0 == [116,104,114,111,119]))) (br (s_0 == [116,114,117,101]) (ok ((s_0 == [116,114,117,101]))) (br (s_0 == [116,114,121]) (ok ((s_0 == [116,114,121]))) (br (s_0 == [116,121,112,101,111,102]) (ok ((s_0 == [116,121,112,101,111,102]))) (br (s_0 == [118,111,105,100]) (ok ((s_0 == [118,111,105,100]))) (ok ((s_0 == [119,104,105,108,101])))))))))))))))))))))))) fun x1=>br x1 (ok 1) (bd (α:=Bool) (br (s_0 == [97,114,103,117,109,101,110,116,115]) (ok ((s_0 == [97,114,103,117,109,101,110,116,115]))) (br (s_0 == [97,115,121,110,99]) (ok ((s_0 == [97,115,121,110,99]))) (br (s_0 == [97,119,97,105,116]) (ok ((s_0 == [97,119,97,105,116]))) (br (s_0 == [99,97,115,101]) (ok ((s_0 == [99,97,115,101]))) (br (s_0 == [99,108,97,115,115]) (ok ((s_0 == [99,108,97,115,115]))) (br (s_0 == [100,101,98,117,103,103,101,114]) (ok ((s_0 == [100,101,98,117,103,103,101,114]))) (br (s_0 == [100,101,102,97,117,108,116]) (ok ((s_0 == [100,101,102,97,117,108,116]))) (br (s_0 == [100,101,108,101,116,101]) (ok ((s_0 == [100,101,108,101,116,101]))) (br (s_0 == [100,111]) (ok ((s_0 == [100,111]))) (br (s_0 == [101,110,117,109]) (ok ((s_0 == [101,110,117,109]))) (br (s_0 == [101,118,97,108]) (ok ((s_0 == [101,118,97,108]))) (br (s_0 == [101,120,112,111,114,116]) (ok ((s_0 == [101,120,112,111,114,116]))) (br (s_0 == [101,120,116,101,110,100,115]) (ok ((s_0 == [101,120,116,101,110,100,115]))) (br (s_0 == [105,109,112,108,101,109,101,110,116,115]) (ok ((s_0 == [105,109,112,108,101,109,101,110,116,115]))) (br (s_0 == [105,109,112,111,114,116]) (ok ((s_0 == [105,109,112,111,114,116]))) (br (s_0 == [105,110,115,116,97,110,99,101,111,102]) (ok ((s_0 == [105,110,115,116,97,110,99,101,111,102]))) (br (s_0 == [105,110,116,101,114,102,97,99,101]) (ok ((s_0 == [105,110,116,101,114,102,97,99,101]))) (br (s_0 == [112,97,99,107,97,103,101]) (ok ((s_0 == [112,97,99,107,97,103,101]))) (br (s_0 == [112,114,105,118,97,116,101]) (ok ((s_0 == [112,114,105,118,97,116,101]))) (br (s_0 == [112,114,111,116,101,99,116,101,100]) (ok ((s_0 == [112,114,111,116,101,99,116,101,100]))) (br (s_0 == [112,117,98,108,105,99]) (ok ((s_0 == [112,117,98,108,105,99]))) (br (s_0 == [115,116,97,116,105,99]) (ok ((s_0 == [115,116,97,116,105,99]))) (br (s_0 == [115,117,112,101,114]) (ok ((s_0 == [115,117,112,101,114]))) (br (s_0 == [115,119,105,116,99,104]) (ok ((s_0 == [115,119,105,116,99,104]))) (br (s_0 == [118,97,114]) (ok ((s_0 == [118,97,114]))) (br (s_0 == [119,105,116,104]) (ok ((s_0 == [119,105,116,104]))) (ok ((s_0 == [121,105,101,108,100]))))))))))))))))))))))))))))) fun x2=>br x2 (ok 2) (ok 0)))
abbrev fq.g:Sg:=⟨[.obj cR],[(true,(.frz cS)),vi]⟩
def R.fq (r_0:cR.den):Res ((cS.den×Int)×cR.den) :=
 given (fq.g.i r_0) (cl (R.bK r_0 ()) bK.g.o fun r1=>bd (R.dk r1.2 [92]) fun r2=>br r2 (ok ((((0,(([]:List UInt8),(([]:List Int),((0,0),((false,([]:List Int)),(0,false)))))),6),r1.2))) (cl (R.kD r1.1) kD.g.o fun r3=>br (ilt 0 r3) (ok ((((6,(r1.1,(([]:List Int),((0,0),((false,([]:List Int)),(0,false)))))),0),r1.2))) (ok ((((1,(r1.1,(([]:List Int),((0,0),((false,([]:List Int)),(0,false)))))),0),r1.2)))))
abbrev bm.g:Sg:=⟨[.val false (.bor cR),.i,.val false (.bor (.clo 144 .nil))],[vb]⟩
def R.bm (r_0:kZ.den) (k_1:Int) (f_2:Unit):Res (Bool) :=
 given (bm.g.i (r_0,(k_1,f_2))) (br (ilt (w6 (r_0.2+k_1)) (r_0.1.length:Int)) (idx (.int .u16) r_0.1 (w6 (r_0.2+k_1)) fun e1=>bd (R.iP e1) fun r2=>ok r2) (ok false))
abbrev cL.g:Sg:=⟨[.obj cR,.val false (.bor (.clo 144 .nil))],[vs]⟩
def R.cL (r_0:cR.den) (f_1:Unit):Res ((List UInt8)×cR.den) :=
 given (cL.g.i (r_0,f_1)) (bd (loop (α:=((List Int)×cR.den)) (β:=((List Int)×cR.den)) (fun b1=>bd (R.bm b1.2 0 ()) fun r2=>br r2 (idx (.int .u16) b1.2.1 b1.2.2 fun e3=>ai (decide ((b1.1.length+[IntKind.wrap .u8 e3].length)*1<=2^47)) (ok (.next (((b1.1++[IntKind.wrap .u8 e3]),(b1.2.1,w6 (b1.2.2+1))))))) (ok (.done (b1)))) fuel (([]:List Int),r_0)) fun b4=>ok ((rG b4.1,b4.2)))
abbrev dq.g:Sg:=⟨[.val false .h,.val false (.bor (.box .b))],[vb]⟩
def R.dq (x_0:Int) (a_1:Bool):Res (Bool) :=
 given (dq.g.i (x_0,a_1)) (bd (α:=Bool) (br (x_0 == 46) (ok ((x_0 == 46))) (br (x_0 == 101) (ok ((x_0 == 101))) (br (x_0 == 69) (ok ((x_0 == 69))) (ok ((x_0 == 95)))))) fun x1=>br x1 (ok true) (bd (α:=Bool) (br (x_0 == 120) (ok ((x_0 == 120))) (br (x_0 == 88) (ok ((x_0 == 88))) (br (x_0 == 111) (ok ((x_0 == 111))) (br (x_0 == 79) (ok ((x_0 == 79))) (br (x_0 == 98) (ok ((x_0 == 98))) (ok ((x_0 == 66)))))))) fun x2=>br x2 (ok a_1) (ok false)))
abbrev bM.g:Sg:=⟨[.val false (.bor cR),.i,.val false (.bor (.clo 241 (.box .b)))],[vb]⟩
def R.bM (r_0:kZ.den) (k_1:Int) (f_2:Bool):Res (Bool) :=
 given (bM.g.i (r_0,(k_1,f_2))) (br (ilt (w6 (r_0.2+k_1)) (r_0.1.length:Int)) (idx (.int .u16) r_0.1 (w6 (r_0.2+k_1)) fun e1=>bd (R.dq e1 f_2) fun r2=>ok r2) (ok false))
abbrev fD.g:Sg:=⟨[.val false (.bor cR),.b],[vb]⟩
def R.fD (r_0:kZ.den) (zero_1:Bool):Res (Bool) :=
 given (fD.g.i (r_0,zero_1)) (bd (R.bM r_0 0 zero_1) fun r1=>ok r1)
abbrev cc.g:Sg:=⟨[.val false (.bor cR),.i,.val false (.bor (.clo 143 .nil))],[vb]⟩
def R.cc (r_0:kZ.den) (k_1:Int) (f_2:Unit):Res (Bool) :=
 given (cc.g.i (r_0,(k_1,f_2))) (br (ilt (w6 (r_0.2+k_1)) (r_0.1.length:Int)) (idx (.int .u16) r_0.1 (w6 (r_0.2+k_1)) fun e1=>bd (R.gd e1) fun r2=>ok r2) (ok false))
abbrev aj.g:Sg:=⟨[.s],[(false,(.own .h))]⟩
def R.aj (s_0:(List UInt8)):Res ((List Int)) :=
 given (aj.g.i s_0) (bd (loop (α:=((List Int)×Int)) (β:=(List Int)) (fun l1=>br (ilt l1.2 (s_0.length:Int)) (idx (.int .u8) (lU s_0) l1.2 fun e2=>ai (decide ((l1.1.length+[IntKind.wrap .u16 e2].length)*2<=2^47)) (ok (.next (((l1.1++[IntKind.wrap .u16 e2]),w6 (l1.2+1)))))) (ok (.done (l1.1)))) fuel (([]:List Int),0)) fun l3=>ok l3)
abbrev jS.g:Sg:=⟨[.val false .h],[vb]⟩
def R.jS (x_0:Int):Res (Bool) :=
 given (jS.g.i x_0) (br (x_0 == 32) (ok true) (br (x_0 == 9) (ok true) (br (x_0 == 10) (ok true) (ok ((x_0 == 13))))))
abbrev gZ.g:Sg:=⟨[.val false .h],[vb]⟩
def R.gZ (x_0:Int):Res (Bool) :=
 given (gZ.g.i x_0) (br (ile 48 x_0) (ok ((ile x_0 57))) (ok false))
abbrev cy.g:Sg:=⟨[.val false (.bor (.own .h)),.val false .h],[vi]⟩
def R.cy (s_0:(List Int)) (v_1:Int):Res (Int) :=
 given (cy.g.i (s_0,v_1)) (bd (loop (α:=Int) (β:=(Unit ⊕ Int)) (fun x1=>br (ilt x1 (s_0.length:Int)) (ct .h s_0 x1 fun e2=>br (v_1 == e2) (ok (.done (.inr x1))) (ok (.next (w6 (x1+1))))) (ok (.done (.inl ())))) fuel 0) fun x3=>sum x3 (fun x4=>ok ((-1))) (fun z5=>ok z5))
abbrev cW.g:Sg:=⟨[.val false (.bor (.own .h)),.val false .h],[vb]⟩
def R.cW (s_0:(List Int)) (v_1:Int):Res (Bool) :=
 given (cW.g.i (s_0,v_1)) (cl (R.cy s_0 v_1) cy.g.o fun r1=>ok ((ile 0 r1)))
abbrev iK.g:Sg:=⟨[.val false (.bor (.own .h))],[vb]⟩
def R.iK (u_0:(List Int)):Res (Bool) :=
 given (iK.g.i u_0) (bd (loop (α:=(Bool×Int)) (β:=(Bool ⊕ Bool)) (fun some1=>br (ilt some1.2 (u_0.length:Int)) (ct .h u_0 some1.2 fun e2=>bd (α:=Bool) (br some1.1 (ok true) (bd (R.gZ e2) fun r3=>ok r3)) fun some4=>bd (α:=Bool) (bd (R.gZ e2) fun r5=>br r5 (ok r5) (bd (α:=Bool) (br (ile 97 e2) (ok ((ile e2 102))) (ok false)) fun x6=>br x6 (ok x6) (br (ile 65 e2) (ok ((ile e2 70))) (ok false)))) fun x7=>br x7 (ok (.next ((some4,w6 (some1.2+1))))) (cl (R.aj [120,88,111,79,46,43,45,95]) aj.g.o fun r8=>bd (R.cW r8 e2) fun r9=>br r9 (ok (.next ((some4,w6 (some1.2+1))))) (ok (.done (.inr false))))) (ok (.done (.inl some1.1)))) fuel (false,0)) fun some10=>sum some10 (fun some11=>ok some11) (fun z12=>ok z12))
abbrev cj.g:Sg:=⟨[.val false (.bor (.own .h)),.val false (.bor (.own .h))],[vb]⟩
def R.cj (s1_0:(List Int)) (s2_1:(List Int)):Res (Bool) :=
 given (cj.g.i (s1_0,s2_1)) (br (!((s1_0.length:Int) == (s2_1.length:Int))) (ok false) (bd (loop (α:=Int) (β:=(Unit ⊕ Bool)) (fun x1=>br (ilt x1 (s1_0.length:Int)) (ct .h s1_0 x1 fun e2=>ct .h s2_1 x1 fun e3=>br (!(e2 == e3)) (ok (.done (.inr false))) (ok (.next (w6 (x1+1))))) (ok (.done (.inl ())))) fuel 0) fun x4=>sum x4 (fun x5=>ok true) (fun z6=>ok z6)))
abbrev gn.g:Sg:=⟨[.val false (.bor (.own .h)),.val false (.bor (.own .h))],[vb]⟩
def R.gn (a_0:(List Int)) (b_1:(List Int)):Res (Bool) :=
 given (gn.g.i (a_0,b_1)) (bd (R.cj a_0 b_1) fun r1=>ok r1)
abbrev gh.g:Sg:=⟨[.val false .h],[vb]⟩
def R.gh (x_0:Int):Res (Bool) :=
 given (gh.g.i x_0) (bd (R.gZ x_0) fun r1=>ok ((!r1)))
abbrev aq.g:Sg:=⟨[.val false (.bor (.own .h)),.val false (.bor (.clo 86 .nil))],[vi]⟩
def R.aq (s_0:(List Int)) (f_1:Unit):Res (Int) :=
 given (aq.g.i (s_0,f_1)) (bd (loop (α:=Int) (β:=(Unit ⊕ Int)) (fun x1=>br (ilt x1 (s_0.length:Int)) (ct .h s_0 x1 fun e2=>bd (R.gh e2) fun r3=>br r3 (ok (.done (.inr x1))) (ok (.next (w6 (x1+1))))) (ok (.done (.inl ())))) fuel 0) fun x4=>sum x4 (fun x5=>ok ((-1))) (fun z6=>ok z6))
abbrev ak.g:Sg:=⟨[.val false (.bor (.own .h)),.val false (.bor (.clo 86 .nil))],[vb]⟩
def R.ak (s_0:(List Int)) (f_1:Unit):Res (Bool) :=
 given (ak.g.i (s_0,f_1)) (cl (R.aq s_0 ()) aq.g.o fun r1=>ok ((ile 0 r1)))
abbrev jQ.g:Sg:=⟨[.val false (.bor (.own .h))],[vi,vb]⟩
def R.jQ (d_0:(List Int)):Res ((Int×Bool)) :=
 given (jQ.g.i d_0) (bd (loop (α:=(Int×Int)) (β:=(Int ⊕ (Int×Bool))) (fun n1=>br (ilt n1.2 (d_0.length:Int)) (ct .h d_0 n1.2 fun e2=>br (ilt 900719925474099 n1.1) (ok (.done (.inr (0,false)))) (ok (.next ((w6 ((w6 (10*n1.1))+(w6 (IntKind.wrap .u16 (e2-48)))),w6 (n1.2+1)))))) (ok (.done (.inl n1.1)))) fuel (0,0)) fun n3=>sum n3 (fun n4=>ok ((n4,(ile n4 9007199254740991)))) (fun z5=>ok z5))
abbrev kY.g:Sg:=⟨[.val true (.frz aI)],[vb]⟩
def R.kY (a_0:aI.den):Res (Bool) :=
 given (kY.g.i a_0) (br (a_0.1 == 0) (br (ile (-9007199254740991) a_0.2) (ok ((ile a_0.2 9007199254740991))) (ok false)) (bd (α:=Bool) (br (a_0.1 == 1) (ok ((a_0.1 == 1))) (br (a_0.1 == 2) (ok ((a_0.1 == 2))) (br (a_0.1 == 3) (ok ((a_0.1 == 3))) (ok ((a_0.1 == 4)))))) fun x1=>br x1 (ok ((a_0.2 == 0))) (ok false)))
abbrev eP.g:Sg:=⟨[],[(true,(.frz aI))]⟩
def R.eP :Res (aI.den) :=
 given (eP.g.i ()) (ok ((2,0)))
abbrev eH.g:Sg:=⟨[.val true (.frz aI)],[(true,(.frz aI))]⟩
def R.eH (a_0:aI.den):Res (aI.den) :=
 given (eH.g.i a_0) (bd (R.kY a_0) fun r1=>br (!r1) (cl (R.eP) eP.g.o fun r2=>ok r2) (ok a_0))
abbrev iu.g:Sg:=⟨[.b],[(true,(.frz aI))]⟩
def R.iu (neg_0:Bool):Res (aI.den) :=
 given (iu.g.i neg_0) (br neg_0 (ok ((4,0))) (ok ((3,0))))
abbrev cP.g:Sg:=⟨[.i],[(true,(.frz aI))]⟩
def R.cP (n_0:Int):Res (aI.den) :=
 given (cP.g.i n_0) (ok ((0,n_0)))
abbrev fL.g:Sg:=⟨[.b],[(true,(.frz aI))]⟩
def R.fL (neg_0:Bool):Res (aI.den) :=
 given (fL.g.i neg_0) (br neg_0 (ok ((1,0))) (cl (R.cP 0) cP.g.o fun r1=>ok r1))
abbrev kX.g:Sg:=⟨[.val true (.frz aI)],[(true,(.frz aI))]⟩
def R.kX (a_0:aI.den):Res (aI.den) :=
 given (kX.g.i a_0) (cl (R.eH a_0) eH.g.o fun r1=>br (r1.1 == 2) (ok r1) (bd (α:=Bool) (br (r1.1 == 3) (ok ((r1.1 == 3))) (ok ((r1.1 == 4)))) fun x2=>br x2 (cl (R.iu (r1.1 == 3)) iu.g.o fun r3=>ok r3) (br (r1.1 == 1) (cl (R.cP 0) cP.g.o fun r4=>ok r4) (br (r1.2 == 0) (cl (R.fL true) fL.g.o fun r5=>ok r5) (cl (R.cP (w6 (0-r1.2))) cP.g.o fun r6=>ok r6)))))
abbrev gP.g:Sg:=⟨[.val false (.bor (.own .h))],[(true,(.frz aI)),vb]⟩
def R.gP (u_0:(List Int)):Res ((aI.den×Bool)) :=
 given (gP.g.i u_0) (bd (loop (α:=(List Int)) (β:=(List Int)) (fun u1=>bd (α:=Bool) (br (ilt 0 (u1.length:Int)) (ct .h u1 0 fun e2=>bd (R.jS e2) fun r3=>ok r3) (ok false)) fun x4=>br x4 (ai (ile 0 1 && ile 1 u1.length) (ok (.next ((List.take (u1.length-(Int.toNat 1)) (List.drop (0+(Int.toNat 1)) u1)))))) (ok (.done (u1)))) fuel u_0) fun u5=>bd (loop (α:=(List Int)) (β:=(List Int)) (fun u6=>bd (α:=Bool) (br (ilt 0 (u6.length:Int)) (ct .h u6 (w6 ((u6.length:Int)-1)) fun e7=>bd (R.jS e7) fun r8=>ok r8) (ok false)) fun x9=>br x9 (ai (ile 0 (w6 ((u6.length:Int)-1)) && ile (w6 ((u6.length:Int)-1)) u6.length) (ok (.next ((List.take (Int.toNat (w6 ((u6.length:Int)-1))) (List.drop 0 u6)))))) (ok (.done (u6)))) fuel u5) fun u10=>br ((u10.length:Int) == 0) (ok (((0,0),true))) (ct .h u10 0 fun e11=>bd (α:=(List Int)) (bd (α:=Bool) (br (e11 == 45) (ok true) (ct .h u10 0 fun e12=>ok ((e12 == 43)))) fun x13=>br x13 (ai (ile 0 1 && ile 1 u10.length) (ok ((List.take (u10.length-(Int.toNat 1)) (List.drop (0+(Int.toNat 1)) u10))))) (ok u10)) fun d14=>bd (R.iK u10) fun r15=>bd (α:=((Bool×aI.den) ⊕ (Bool×aI.den))) (cl (R.aj [73,110,102,105,110,105,116,121]) aj.g.o fun r16=>bd (R.gn d14 r16) fun r17=>br r17 (ok (.inl ((!r15),(3,0)))) (bd (α:=Bool) (br (ilt 0 (d14.length:Int)) (bd (R.ak d14 ()) fun r18=>ok ((!r18))) (ok false)) fun x19=>br x19 (cl (R.jQ d14) jQ.g.o fun r20=>br (!r20.2) (ok (.inr (false,(2,0)))) (ok (.inl (true,(0,r20.1))))) (ok (.inl ((!r15),(2,0)))))) fun ok21=>sum ok21 (fun ok22=>br (e11 == 45) (cl (R.kX ok22.2) kX.g.o fun r24=>ok ((r24,ok22.1))) (ok ((ok22.2,ok22.1)))) (fun z23=>ok ((z23.2,z23.1)))))
abbrev ed.g:Sg:=⟨[.obj cR],[(true,(.frz cS)),vi]⟩
def R.ed (r_0:cR.den):Res ((cS.den×Int)×cR.den) :=
 given (ed.g.i r_0) (cl (R.cL r_0 ()) cL.g.o fun r1=>bd (α:=Bool) (idx (.int .u8) (lU r1.1) 0 fun e2=>br (e2 == 48) (ok ((!(r1.1 == [48])))) (ok false)) fun x3=>br x3 (ok ((((0,(([]:List UInt8),(([]:List Int),((0,0),((false,([]:List Int)),(0,false)))))),5),r1.2))) (bd (R.dk r1.2 [110]) fun r4=>br r4 (Res.stuck) (bd (R.fD r1.2 (r1.1 == [48])) fun r5=>br r5 (ok ((((0,(([]:List UInt8),(([]:List Int),((0,0),((false,([]:List Int)),(0,false)))))),6),r1.2))) (bd (R.cc r1.2 0 ()) fun r6=>br r6 (ok ((((0,(([]:List UInt8),(([]:List Int),((0,0),((false,([]:List Int)),(0,false)))))),5),r1.2))) (cl (R.aj r1.1) aj.g.o fun r7=>cl (R.gP r7) gP.g.o fun r8=>br (!r8.2) (ok ((((0,(([]:List UInt8),(([]:List Int),((0,0),((false,([]:List Int)),(0,false)))))),6),r1.2))) (ok ((((2,(([]:List UInt8),(([]:List Int),(r8.1,((false,([]:List Int)),(0,false)))))),0),r1.2))))))))
abbrev ej.g:Sg:=⟨[.obj cR],[(true,(.frz cS)),vi]⟩
def R.ej (r_0:cR.den):Res ((cS.den×Int)×cR.den) :=
 given (ej.g.i r_0) (idx (.int .u16) r_0.1 r_0.2 fun e1=>bd (loop (α:=(cR.den×cS.den)) (β:=(cR.den ⊕ (Int×(cR.den×cS.den)))) (fun x2=>bd (α:=Bool) (br (ilt x2.1.2 (x2.1.1.length:Int)) (idx (.int .u16) x2.1.1 x2.1.2 fun e3=>bd (R.lJ e3) fun r4=>ok ((!r4))) (ok false)) fun x5=>br x5 (idx (.int .u16) x2.1.1 x2.1.2 fun e6=>br (e6 == e1) (ok (.done (.inr (0,((x2.1.1,w6 (x2.1.2+1)),x2.2))))) (bd (α:=Unit) (br (e6 == 92) (Res.stuck) (ok (()))) fun x7=>ai (decide ((x2.2.2.2.1.length+[e6].length)*2<=2^47)) (ok (.next (((x2.1.1,w6 (x2.1.2+1)),(x2.2.1,(x2.2.2.1,((x2.2.2.2.1++[e6]),x2.2.2.2.2))))))))) (ok (.done (.inl x2.1)))) fuel ((r_0.1,w6 (r_0.2+1)),(4,(([]:List UInt8),(([]:List Int),((0,0),((false,([]:List Int)),(0,false)))))))) fun x8=>sum x8 (fun x9=>ok ((((0,(([]:List UInt8),(([]:List Int),((0,0),((false,([]:List Int)),(0,false)))))),5),x9))) (fun z10=>ok (((z10.2.2,z10.1),z10.2.1))))
abbrev eT.g:Sg:=⟨[.val false (.bor (.own .h))],[vs,vb]⟩
def R.eT (u_0:(List Int)):Res (((List UInt8)×Bool)) :=
 given (eT.g.i u_0) (bd (loop (α:=((List Int)×Int)) (β:=((List Int) ⊕ ((List UInt8)×Bool))) (fun b1=>br (ilt b1.2 (u_0.length:Int)) (ct .h u_0 b1.2 fun e2=>br (ilt 127 e2) (ok (.done (.inr (([]:List UInt8),false)))) (ai (decide ((b1.1.length+[IntKind.wrap .u8 e2].length)*1<=2^47)) (ok (.next (((b1.1++[IntKind.wrap .u8 e2]),w6 (b1.2+1))))))) (ok (.done (.inl b1.1)))) fuel (([]:List Int),0)) fun b3=>sum b3 (fun b4=>ok ((rG b4,true))) (fun z5=>ok z5))
abbrev lC.g:Sg:=⟨[.s],[vi]⟩
def R.lC (s_0:(List UInt8)):Res (Int) :=
 given (lC.g.i s_0) (bd (α:=Bool) (br (s_0 == [123]) (ok ((s_0 == [123]))) (br (s_0 == [125]) (ok ((s_0 == [125]))) (br (s_0 == [40]) (ok ((s_0 == [40]))) (br (s_0 == [41]) (ok ((s_0 == [41]))) (br (s_0 == [91]) (ok ((s_0 == [91]))) (br (s_0 == [93]) (ok ((s_0 == [93]))) (br (s_0 == [59]) (ok ((s_0 == [59]))) (br (s_0 == [44]) (ok ((s_0 == [44]))) (br (s_0 == [46]) (ok ((s_0 == [46]))) (br (s_0 == [63]) (ok ((s_0 == [63]))) (br (s_0 == [58]) (ok ((s_0 == [58]))) (br (s_0 == [126]) (ok ((s_0 == [126]))) (br (s_0 == [60]) (ok ((s_0 == [60]))) (br (s_0 == [62]) (ok ((s_0 == [62]))) (br (s_0 == [60,61]) (ok ((s_0 == [60,61]))) (br (s_0 == [62,61]) (ok ((s_0 == [62,61]))) (br (s_0 == [61,61]) (ok ((s_0 == [61,61]))) (br (s_0 == [33,61]) (ok ((s_0 == [33,61]))) (br (s_0 == [61,61,61]) (ok ((s_0 == [61,61,61]))) (br (s_0 == [33,61,61]) (ok ((s_0 == [33,61,61]))) (br (s_0 == [43]) (ok ((s_0 == [43]))) (br (s_0 == [45]) (ok ((s_0 == [45]))) (br (s_0 == [42]) (ok ((s_0 == [42]))) (br (s_0 == [47]) (ok ((s_0 == [47]))) (br (s_0 == [37]) (ok ((s_0 == [37]))) (br (s_0 == [38]) (ok ((s_0 == [38]))) (br (s_0 == [124]) (ok ((s_0 == [124]))) (br (s_0 == [94]) (ok ((s_0 == [94]))) (br (s_0 == [33]) (ok ((s_0 == [33]))) (br (s_0 == [38,38]) (ok ((s_0 == [38,38]))) (br (s_0 == [124,124]) (ok ((s_0 == [124,124]))) (br (s_0 == [63,63]) (ok ((s_0 == [63,63]))) (br (s_0 == [61]) (ok ((s_0 == [61]))) (br (s_0 == [43,61]) (ok ((s_0 == [43,61]))) (br (s_0 == [45,61]) (ok ((s_0 == [45,61]))) (br (s_0 == [42,61]) (ok ((s_0 == [42,61]))) (br (s_0 == [47,61]) (ok ((s_0 == [47,61]))) (br (s_0 == [37,61]) (ok ((s_0 == [37,61]))) (br (s_0 == [38,61]) (ok ((s_0 == [38,61]))) (br (s_0 == [124,61]) (ok ((s_0 == [124,61]))) (br (s_0 == [94,61]) (ok ((s_0 == [94,61]))) (br (s_0 == [60,60,61]) (ok ((s_0 == [60,60,61]))) (br (s_0 == [62,62,61]) (ok ((s_0 == [62,62,61]))) (br (s_0 == [62,62,62,61]) (ok ((s_0 == [62,62,62,61]))) (br (s_0 == [43,43]) (ok ((s_0 == [43,43]))) (br (s_0 == [45,45]) (ok ((s_0 == [45,45]))) (br (s_0 == [60,60]) (ok ((s_0 == [60,60]))) (br (s_0 == [62,62]) (ok ((s_0 == [62,62]))) (br (s_0 == [62,62,62]) (ok ((s_0 == [62,62,62]))) (ok ((s_0 == [61,62])))))))))))))))))))))))))))))))))))))))))))))))))))) fun x1=>br x1 (ok 1) (bd (α:=Bool) (br (s_0 == [46,46,46]) (ok ((s_0 == [46,46,46]))) (br (s_0 == [63,46]) (ok ((s_0 == [63,46]))) (br (s_0 == [42,42]) (ok ((s_0 == [42,42]))) (br (s_0 == [42,42,61]) (ok ((s_0 == [42,42,61]))) (br (s_0 == [38,38,61]) (ok ((s_0 == [38,38,61]))) (br (s_0 == [124,124,61]) (ok ((s_0 == [124,124,61]))) (ok ((s_0 == [63,63,61]))))))))) fun x2=>br x2 (ok 2) (ok 0)))
abbrev fo.g:Sg:=⟨[.obj cR],[(true,(.frz cS)),vi]⟩
def R.fo (r_0:cR.den):Res ((cS.den×Int)×cR.den) :=
 given (fo.g.i r_0) (bd (loop (α:=Int) (β:=(Unit ⊕ (Int×(cR.den×cS.den)))) (fun n1=>br (ilt 0 n1) (ai (ile 0 r_0.2 && (ile r_0.2 (w6 (r_0.2+n1)) && ile (w6 (r_0.2+n1)) r_0.1.length)) (cl (R.eT (List.drop (Int.toNat r_0.2) (List.take (Int.toNat (w6 (r_0.2+n1))) r_0.1))) eT.g.o fun r2=>bd (α:=Bool) (br (!r2.2) (ok true) (cl (R.lC r2.1) lC.g.o fun r3=>br (r3 == 0) (ok true) (br (r2.1 == [63,46]) (bd (R.bm r_0 2 ()) fun r4=>ok r4) (ok false)))) fun x5=>br x5 (ok (.next (w6 (n1-1)))) (cl (R.lC r2.1) lC.g.o fun r6=>br (r6 == 2) (ok (.done (.inr (6,(r_0,(0,(([]:List UInt8),(([]:List Int),((0,0),((false,([]:List Int)),(0,false))))))))))) (ok (.done (.inr (0,((r_0.1,w6 (r_0.2+n1)),(5,(r2.1,(([]:List Int),((0,0),((false,([]:List Int)),(0,false)))))))))))))) (ok (.done (.inl ())))) fuel (kv 4 (w6 ((r_0.1.length:Int)-r_0.2)))) fun x7=>sum x7 (fun x8=>idx (.int .u16) r_0.1 r_0.2 fun e10=>bd (α:=Bool) (br (ile 128 e10) (ok true) (br (e10 == 96) (ok true) (br (e10 == 92) (ok true) (br (r_0.2 == 0) (bd (R.dk r_0 [35,33]) fun r11=>ok r11) (ok false))))) fun x12=>br x12 (ok ((((0,(([]:List UInt8),(([]:List Int),((0,0),((false,([]:List Int)),(0,false)))))),6),r_0))) (ok ((((0,(([]:List UInt8),(([]:List Int),((0,0),((false,([]:List Int)),(0,false)))))),5),r_0)))) (fun z9=>ok (((z9.2.2,z9.1),z9.2.1))))
abbrev fQ.g:Sg:=⟨[.obj cR],[(true,(.frz cS)),vi]⟩
def R.fQ (r_0:cR.den):Res ((cS.den×Int)×cR.den) :=
 given (fQ.g.i r_0) (idx (.int .u16) r_0.1 r_0.2 fun e1=>bd (R.gd e1) fun r2=>br r2 (cl (R.fq r_0) fq.g.o fun r3=>ok r3) (bd (R.iP e1) fun r4=>br r4 (cl (R.ed r_0) ed.g.o fun r5=>ok r5) (bd (α:=Bool) (br (e1 == 39) (ok true) (ok ((e1 == 34)))) fun x6=>br x6 (cl (R.ej r_0) ej.g.o fun r7=>ok r7) (bd (α:=Bool) (br (e1 == 46) (bd (R.bm r_0 1 ()) fun r8=>ok r8) (ok false)) fun x9=>br x9 (ok ((((0,(([]:List UInt8),(([]:List Int),((0,0),((false,([]:List Int)),(0,false)))))),6),r_0))) (cl (R.fo r_0) fo.g.o fun r10=>ok r10)))))
abbrev kS.g:Sg:=⟨[.val false (.frz (.list (.int .u16)))],[(false,(.own (.frz cS))),vi,vi]⟩
def R.kS (u_0:(List Int)):Res (((List cS.den)×(Int×Int))) :=
 given (kS.g.i u_0) (br (ilt 4096 (u_0.length:Int)) (ok ((([]:List cS.den),(0,3)))) (bd (loop (α:=((List cS.den)×kZ.den)) (β:=((List cS.den)×(Int×Int))) (fun l1=>cl (R.fl l1.2) fl.g.o fun r2=>br (!(r2.1.2.2 == 0)) (ok (.done ((([]:List cS.den),r2.1.2)))) (br (r2.2.2 == (u_0.length:Int)) (ai (decide ((l1.1.length+[(0,(([]:List UInt8),(([]:List Int),((0,0),((false,([]:List Int)),(r2.2.2,r2.1.1))))))].length)*112<=2^47)) (ok (.done (((l1.1++[(0,(([]:List UInt8),(([]:List Int),((0,0),((false,([]:List Int)),(r2.2.2,r2.1.1))))))]),(0,0)))))) (cl (R.fQ r2.2) fQ.g.o fun r3=>br (!(r3.1.2 == 0)) (ok (.done ((([]:List cS.den),(r2.2.2,r3.1.2))))) (ai (decide ((l1.1.length+[(r3.1.1.1,(r3.1.1.2.1,(r3.1.1.2.2.1,(r3.1.1.2.2.2.1,(r3.1.1.2.2.2.2.1,(r2.2.2,r2.1.1))))))].length)*112<=2^47)) (ok (.next (((l1.1++[(r3.1.1.1,(r3.1.1.2.1,(r3.1.1.2.2.1,(r3.1.1.2.2.2.1,(r3.1.1.2.2.2.2.1,(r2.2.2,r2.1.1))))))]),r3.2)))))))) fuel (([]:List cS.den),(u_0,0))) fun x4=>ok x4))
abbrev bB.g:Sg:=⟨[.i,.val false (.own (.frz (.rose aF)))],[(true,pB)]⟩
def R.bB (kind_0:Int) (of_1:(List (aS aF.den))):Res (pB.den) :=
 given (bB.g.i (kind_0,of_1)) (ok (((kind_0,(([]:List UInt8),(([]:List Int),((0,0),((false,([]:List Int)),([]:List Int)))))),of_1)))
abbrev aR.g:Sg:=⟨[.val false (.bor aL)],[(true,(.frz cS))]⟩
def R.aR (p_0:ml.den):Res (cS.den) :=
 given (aR.g.i p_0) (idx cS p_0.1 p_0.2.1 fun e1=>ok e1)
abbrev gM.g:Sg:=⟨[.val true (.bor (.seq .i (.seq .s (.seq (.own .h) (.seq (.frz aI) (.seq (.seq .b (.own .w)) (.seq .i .b))))))),.s],[vb]⟩
def R.gM (t_0:cS.den) (s_1:(List UInt8)):Res (Bool) :=
 given (gM.g.i (t_0,s_1)) (br (t_0.2.1 == s_1) (br (t_0.1 == 5) (ok true) (ok ((t_0.1 == 6)))) (ok false))
abbrev bW.g:Sg:=⟨[.val false (.bor aL),.s],[vb]⟩
def R.bW (p_0:ml.den) (s_1:(List UInt8)):Res (Bool) :=
 given (bW.g.i (p_0,s_1)) (cl (R.aR p_0) aR.g.o fun r1=>bd (R.gM r1 s_1) fun r2=>ok r2)
abbrev aM.g:Sg:=⟨[.obj aL,.s],[vb]⟩
def R.aM (p_0:aL.den) (s_1:(List UInt8)):Res (Bool×aL.den) :=
 given (aM.g.i (p_0,s_1)) (bd (R.bW p_0 s_1) fun r1=>br (!r1) (ok ((false,p_0))) (ok ((true,(p_0.1,(w6 (p_0.2.1+1),p_0.2.2))))))
abbrev ca.g:Sg:=⟨[.obj aL],[]⟩
def R.ca (p_0:aL.den):Res (Unit×aL.den) :=
 given (ca.g.i p_0) (cl (R.aR p_0) aR.g.o fun r1=>bd (α:=(Bool×aL.den)) (cl (R.aM p_0 [59]) aM.g.o fun r2=>br r2.1 (ok ((true,r2.2))) (bd (R.gM r1 [125]) fun r3=>br r3 (ok ((true,r2.2))) (br (r1.1 == 0) (ok ((true,r2.2))) (ok ((r1.2.2.2.2.2.2,r2.2)))))) fun x4=>br x4.1 (ok (((),x4.2))) (Res.stuck))
abbrev bV.g:Sg:=⟨[.obj aL],[vs]⟩
def R.bV (p_0:aL.den):Res ((List UInt8)×aL.den) :=
 given (bV.g.i p_0) (cl (R.aR p_0) aR.g.o fun r1=>br (!(r1.1 == 1)) (Res.stuck) (ok ((r1.2.1,(p_0.1,(w6 (p_0.2.1+1),p_0.2.2))))))
abbrev ah.g:Sg:=⟨[.obj aL,.s],[]⟩
def R.ah (p_0:aL.den) (s_1:(List UInt8)):Res (Unit×aL.den) :=
 given (ah.g.i (p_0,s_1)) (cl (R.aM p_0 s_1) aM.g.o fun r1=>br (!r1.1) (Res.stuck) (ok (((),r1.2))))
abbrev bE.g:Sg:=⟨[.i,.s,.val false (.own (.frz (.rose aF)))],[(true,pB)]⟩
def R.bE (kind_0:Int) (name_1:(List UInt8)) (of_2:(List (aS aF.den))):Res (pB.den) :=
 given (bE.g.i (kind_0,(name_1,of_2))) (ok (((kind_0,(name_1,(([]:List Int),((0,0),((false,([]:List Int)),([]:List Int)))))),of_2)))
abbrev cF.g:Sg:=⟨[.val false (.bor aL)],[vb]⟩
def R.cF (p_0:ml.den):Res (Bool) :=
 given (cF.g.i p_0) (ok ((p_0.2.2.1 == 0)))
abbrev bD.g:Sg:=⟨[.val false (.bor aL),.i],[(true,(.frz cS))]⟩
def R.bD (p_0:ml.den) (k_1:Int):Res (cS.den) :=
 given (bD.g.i (p_0,k_1)) (idx cS p_0.1 (kv (w6 (p_0.2.1+k_1)) (w6 ((p_0.1.length:Int)-1))) fun e1=>ok e1)
abbrev fC.g:Sg:=⟨[.val false (.bor aL)],[vb]⟩
def R.fC (p_0:ml.den):Res (Bool) :=
 given (fC.g.i p_0) (bd (R.bW p_0 [40]) fun r1=>br (!r1) (ok false) (bd (α:=(Int ⊕ Bool)) (cl (R.bD p_0 1) bD.g.o fun r2=>bd (R.gM r2 [41]) fun r3=>br (!r3) (bd (loop (α:=Int) (β:=(Int ⊕ Bool)) (fun k4=>cl (R.bD p_0 k4) bD.g.o fun r5=>br (!(r5.1 == 1)) (ok (.done (.inr false))) (cl (R.bD p_0 (w6 (k4+1))) bD.g.o fun r6=>bd (R.gM r6 [44]) fun r7=>br (!r7) (ok (.done (.inl (w6 (k4+1))))) (ok (.next (w6 ((w6 (k4+1))+1)))))) fuel 1) fun k8=>sum k8 (fun k9=>ok (.inl k9)) (fun z10=>ok (.inr z10))) (ok (.inl 1))) fun k11=>sum k11 (fun k12=>cl (R.bD p_0 k12) bD.g.o fun r14=>bd (R.gM r14 [41]) fun r15=>br r15 (cl (R.bD p_0 (w6 (k12+1))) bD.g.o fun r16=>bd (R.gM r16 [61,62]) fun r17=>ok r17) (ok false)) (fun z13=>ok z13)))
abbrev dm.g:Sg:=⟨[.obj aL],[(false,(.own (.frz (.rose aF))))]⟩
def R.dm (p_0:aL.den):Res ((List (aS aF.den))×aL.den) :=
 given (dm.g.i p_0) (cl (R.ah p_0 [40]) ah.g.o fun r1=>cl (R.aM r1.2 [41]) aM.g.o fun r2=>br r2.1 (ok ((([]:List (aS aF.den)),r2.2))) (bd (loop (α:=((List (aS aF.den))×aL.den)) (β:=((List (aS aF.den))×aL.den)) (fun l3=>cl (R.bV l3.2) bV.g.o fun r4=>cl (R.bE 20 r4.1 ([]:List (aS aF.den))) bE.g.o fun r5=>ai (decide ((l3.1.length+[(aS.mk r5.1 r5.2)].length)*144<=2^47)) (bd (α:=(Bool×aL.den)) (bd (R.cF r4.2) fun r6=>br (!r6) (ok ((true,r4.2))) (cl (R.aM r4.2 [41]) aM.g.o fun r7=>ok r7)) fun x8=>br x8.1 (ok (.done (((l3.1++[(aS.mk r5.1 r5.2)]),x8.2)))) (cl (R.ah x8.2 [44]) ah.g.o fun r9=>ok (.next (((l3.1++[(aS.mk r5.1 r5.2)]),r9.2)))))) fuel (([]:List (aS aF.den)),r2.2)) fun x10=>ok x10))
abbrev ga.g:Sg:=⟨[.i],[(false,(.own .s))]⟩
def R.ga (kind_0:Int):Res ((List (List UInt8))) :=
 given (ga.g.i kind_0) (br (kind_0 == 43) (ok ([[45],[43],[33],[126],[116,121,112,101,111,102],[118,111,105,100]])) (bd (α:=Bool) (br (kind_0 == 44) (ok ((kind_0 == 44))) (ok ((kind_0 == 45)))) fun x1=>br x1 (ok ([[43,43],[45,45]])) (br (kind_0 == 46) (ok ([[43],[45],[42],[47],[37],[38],[124],[94],[60,60],[62,62],[62,62,62],[60],[62],[60,61],[62,61],[61,61],[33,61],[61,61,61],[33,61,61],[105,110]])) (br (kind_0 == 47) (ok ([[38,38],[124,124],[63,63]])) (br (kind_0 == 49) (ok ([[61],[43,61],[45,61],[42,61],[47,61],[37,61],[38,61],[124,61],[94,61],[60,60,61],[62,62,61],[62,62,62,61]])) (ok (([]:List (List UInt8)))))))))
abbrev bT.g:Sg:=⟨[.val false (.bor (.own .s)),.s],[vi]⟩
def R.bT (s_0:(List (List UInt8))) (v_1:(List UInt8)):Res (Int) :=
 given (bT.g.i (s_0,v_1)) (bd (loop (α:=Int) (β:=(Unit ⊕ Int)) (fun x1=>br (ilt x1 (s_0.length:Int)) (ct .s s_0 x1 fun e2=>br (v_1 == e2) (ok (.done (.inr x1))) (ok (.next (w6 (x1+1))))) (ok (.done (.inl ())))) fuel 0) fun x3=>sum x3 (fun x4=>ok ((-1))) (fun z5=>ok z5))
abbrev aQ.g:Sg:=⟨[.val false (.bor (.own .s)),.s],[vb]⟩
def R.aQ (s_0:(List (List UInt8))) (v_1:(List UInt8)):Res (Bool) :=
 given (aQ.g.i (s_0,v_1)) (cl (R.bT s_0 v_1) bT.g.o fun r1=>ok ((ile 0 r1)))
abbrev lp.g:Sg:=⟨[.i,.s],[vb]⟩
def R.lp (kind_0:Int) (s_1:(List UInt8)):Res (Bool) :=
 given (lp.g.i (kind_0,s_1)) (cl (R.ga kind_0) ga.g.o fun r1=>bd (R.aQ r1 s_1) fun r2=>ok r2)
abbrev gF.g:Sg:=⟨[.i],[vb]⟩
def R.gF (kind_0:Int):Res (Bool) :=
 given (gF.g.i kind_0) (br (kind_0 == 33) (ok true) (br (kind_0 == 52) (ok true) (ok ((kind_0 == 53)))))
abbrev jY.g:Sg:=⟨[.val true (.bor (.seq .i (.seq .s (.seq (.own .h) (.seq (.frz aI) (.seq (.seq .b (.own .w)) (.seq .i .b)))))))],[vi]⟩
def R.jY (t_0:cS.den):Res (Int) :=
 given (jY.g.i t_0) (bd (α:=Bool) (br (!(t_0.1 == 5)) (bd (R.gM t_0 [105,110]) fun r1=>ok ((!r1))) (ok false)) fun x2=>br x2 (ok ((-1))) (br (t_0.2.1 == [124]) (ok 0) (br (t_0.2.1 == [94]) (ok 1) (br (t_0.2.1 == [38]) (ok 2) (bd (α:=Bool) (br (t_0.2.1 == [61,61]) (ok ((t_0.2.1 == [61,61]))) (br (t_0.2.1 == [33,61]) (ok ((t_0.2.1 == [33,61]))) (br (t_0.2.1 == [61,61,61]) (ok ((t_0.2.1 == [61,61,61]))) (ok ((t_0.2.1 == [33,61,61])))))) fun x3=>br x3 (ok 3) (bd (α:=Bool) (br (t_0.2.1 == [60]) (ok ((t_0.2.1 == [60]))) (br (t_0.2.1 == [62]) (ok ((t_0.2.1 == [62]))) (br (t_0.2.1 == [60,61]) (ok ((t_0.2.1 == [60,61]))) (br (t_0.2.1 == [62,61]) (ok ((t_0.2.1 == [62,61]))) (ok ((t_0.2.1 == [105,110]))))))) fun x4=>br x4 (ok 4) (bd (α:=Bool) (br (t_0.2.1 == [60,60]) (ok ((t_0.2.1 == [60,60]))) (br (t_0.2.1 == [62,62]) (ok ((t_0.2.1 == [62,62]))) (ok ((t_0.2.1 == [62,62,62]))))) fun x5=>br x5 (ok 5) (bd (α:=Bool) (br (t_0.2.1 == [43]) (ok ((t_0.2.1 == [43]))) (ok ((t_0.2.1 == [45])))) fun x6=>br x6 (ok 6) (bd (α:=Bool) (br (t_0.2.1 == [42]) (ok ((t_0.2.1 == [42]))) (br (t_0.2.1 == [47]) (ok ((t_0.2.1 == [47]))) (ok ((t_0.2.1 == [37]))))) fun x7=>br x7 (ok 7) (ok ((-1))))))))))))
end Go.Mach
end

set_option linter.unusedVariables false
set_option maxRecDepth 20000
noncomputable section
namespace Go.Mach
open Res
abbrev parse_parser_item.g:Sg:=⟨[.obj aL],[(true,(.frz (.rose aF)))]⟩
abbrev parse_parser_declares.g:Sg:=⟨[.obj aL],[(true,(.frz (.rose aF)))]⟩
abbrev parse_parser_statement.g:Sg:=⟨[.obj aL],[(true,(.frz (.rose aF)))]⟩
abbrev parse_parser_assign.g:Sg:=⟨[.obj aL],[(true,(.frz (.rose aF)))]⟩
abbrev parse_parser_word.g:Sg:=⟨[.obj aL,.s],[(true,(.frz (.rose aF)))]⟩
abbrev parse_parser_simple.g:Sg:=⟨[.obj aL],[(true,(.frz (.rose aF)))]⟩
abbrev parse_parser_body.g:Sg:=⟨[.obj aL,.val false (.own (.frz (.rose aF)))],[(true,(.frz (.rose aF)))]⟩
abbrev parse_parser_cond.g:Sg:=⟨[.obj aL],[(true,(.frz (.rose aF)))]⟩
abbrev parse_parser_either.g:Sg:=⟨[.obj aL],[(true,(.frz (.rose aF)))]⟩
abbrev parse_parser_level.g:Sg:=⟨[.obj aL,.i],[(true,(.frz (.rose aF)))]⟩
abbrev parse_parser_both.g:Sg:=⟨[.obj aL,.val true (.frz (.rose aF))],[(true,(.frz (.rose aF)))]⟩
abbrev parse_parser_unary.g:Sg:=⟨[.obj aL],[(true,(.frz (.rose aF)))]⟩
abbrev parse_parser_calls.g:Sg:=⟨[.obj aL],[(true,(.frz (.rose aF)))]⟩
abbrev parse_parser_head.g:Sg:=⟨[.obj aL],[(true,(.frz (.rose aF)))]⟩
abbrev parse_parser_arguments.g:Sg:=⟨[.obj aL],[(false,(.own (.frz (.rose aF))))]⟩
abbrev parse_parser_member.g:Sg:=⟨[.obj aL,.val true (.frz (.rose aF))],[(true,(.frz (.rose aF))),vb]⟩
abbrev parse_parser_primary.g:Sg:=⟨[.obj aL],[(true,(.frz (.rose aF)))]⟩
abbrev parse_parser_list.g:Sg:=⟨[.obj aL,.s],[(false,(.own (.frz (.rose aF))))]⟩
structure b8 where
 parse_parser_item:aL.den->Res ((aS aF.den)×aL.den)
 parse_parser_declares:aL.den->Res ((aS aF.den)×aL.den)
 parse_parser_statement:aL.den->Res ((aS aF.den)×aL.den)
 parse_parser_assign:aL.den->Res ((aS aF.den)×aL.den)
 parse_parser_word:aL.den->(List UInt8)->Res ((aS aF.den)×aL.den)
 parse_parser_simple:aL.den->Res ((aS aF.den)×aL.den)
 parse_parser_body:aL.den->(List (aS aF.den))->Res ((aS aF.den)×aL.den)
 parse_parser_cond:aL.den->Res ((aS aF.den)×aL.den)
 parse_parser_either:aL.den->Res ((aS aF.den)×aL.den)
 parse_parser_level:aL.den->Int->Res ((aS aF.den)×aL.den)
 parse_parser_both:aL.den->(aS aF.den)->Res ((aS aF.den)×aL.den)
 parse_parser_unary:aL.den->Res ((aS aF.den)×aL.den)
 parse_parser_calls:aL.den->Res ((aS aF.den)×aL.den)
 parse_parser_head:aL.den->Res ((aS aF.den)×aL.den)
 parse_parser_arguments:aL.den->Res ((List (aS aF.den))×aL.den)
 parse_parser_member:aL.den->(aS aF.den)->Res (((aS aF.den)×Bool)×aL.den)
 parse_parser_primary:aL.den->Res ((aS aF.den)×aL.den)
 parse_parser_list:aL.den->(List UInt8)->Res ((List (aS aF.den))×aL.den)
def R.parse_parser_item (G:b8) (p_0:aL.den):Res ((aS aF.den)×aL.den) :=
 given (parse_parser_item.g.i p_0) (cl (R.aR p_0) aR.g.o fun r1=>bd (α:=Bool) (bd (R.gM r1 [108,101,116]) fun r2=>br r2 (ok true) (bd (R.gM r1 [99,111,110,115,116]) fun r3=>ok r3)) fun x4=>br x4 (cl (G.parse_parser_declares p_0) parse_parser_declares.g.o fun r5=>cl (R.ca r5.2) ca.g.o fun r6=>ok (((aS.mk (aS.lab r5.1) (aS.kids r5.1)),r6.2))) (cl (R.aM p_0 [102,117,110,99,116,105,111,110]) aM.g.o fun r7=>br r7.1 (cl (R.bV r7.2) bV.g.o fun r8=>Res.stuck) (cl (G.parse_parser_statement r7.2) parse_parser_statement.g.o fun r9=>ok (((aS.mk (aS.lab r9.1) (aS.kids r9.1)),r9.2)))))
def R.parse_parser_declares (G:b8) (p_0:aL.den):Res ((aS aF.den)×aL.den) :=
 given (parse_parser_declares.g.i p_0) (cl (R.bB 5 ([]:List (aS aF.den))) bB.g.o fun r1=>bd (α:=(aL.den×(aF.den×(List (aS aF.den))))) (cl (R.aM p_0 [99,111,110,115,116]) aM.g.o fun r2=>br r2.1 (cl (R.bB 6 ([]:List (aS aF.den))) bB.g.o fun r3=>ok ((r2.2,r3))) (cl (R.ah r2.2 [108,101,116]) ah.g.o fun r4=>ok ((r4.2,r1)))) fun x5=>bd (loop (α:=(aL.den×(aF.den×(List (aS aF.den))))) (β:=(aL.den×(aF.den×(List (aS aF.den))))) (fun x6=>cl (R.bV x6.1) bV.g.o fun r7=>cl (R.bE 7 r7.1 ([]:List (aS aF.den))) bE.g.o fun r8=>bd (α:=(aL.den×(aF.den×(List (aS aF.den))))) (cl (R.aM r7.2 [61]) aM.g.o fun r9=>br r9.1 (cl (G.parse_parser_assign r9.2) parse_parser_assign.g.o fun r10=>ai (decide ((r8.2.length+[(aS.mk (aS.lab r10.1) (aS.kids r10.1))].length)*144<=2^47)) (ok ((r10.2,(r8.1,(r8.2++[(aS.mk (aS.lab r10.1) (aS.kids r10.1))])))))) (ok ((r9.2,r8)))) fun x11=>ai (decide ((x6.2.2.length+[(aS.mk x11.2.1 x11.2.2)].length)*144<=2^47)) (bd (α:=(Bool×aL.den)) (bd (R.cF x11.1) fun r12=>br (!r12) (ok ((true,x11.1))) (cl (R.aM x11.1 [44]) aM.g.o fun r13=>ok (((!r13.1),r13.2)))) fun x14=>br x14.1 (ok (.done ((x14.2,(x6.2.1,(x6.2.2++[(aS.mk x11.2.1 x11.2.2)])))))) (ok (.next ((x14.2,(x6.2.1,(x6.2.2++[(aS.mk x11.2.1 x11.2.2)])))))))) fuel x5) fun x15=>ok (((aS.mk x15.2.1 x15.2.2),x15.1)))
def R.parse_parser_statement (G:b8) (p_0:aL.den):Res ((aS aF.den)×aL.den) :=
 given (parse_parser_statement.g.i p_0) (cl (R.aR p_0) aR.g.o fun r1=>bd (α:=Bool) (br (r1.1 == 1) (cl (R.bD p_0 1) bD.g.o fun r2=>bd (R.gM r2 [58]) fun r3=>ok r3) (ok false)) fun x4=>br x4 (cl (G.parse_parser_statement (p_0.1,(w6 (p_0.2.1+2),p_0.2.2))) parse_parser_statement.g.o fun r5=>cl (R.bE 18 r1.2.1 [(aS.mk (aS.lab r5.1) (aS.kids r5.1))]) bE.g.o fun r6=>ok (((aS.mk r6.1 r6.2),r5.2))) (br (r1.1 == 6) (cl (G.parse_parser_word p_0 r1.2.1) parse_parser_word.g.o fun r7=>ok (((aS.mk (aS.lab r7.1) (aS.kids r7.1)),r7.2))) (cl (R.aM p_0 [59]) aM.g.o fun r8=>br r8.1 (cl (R.bB 2 ([]:List (aS aF.den))) bB.g.o fun r9=>ok (((aS.mk r9.1 r9.2),r8.2))) (bd (R.bW r8.2 [123]) fun r10=>br r10 (Res.stuck) (cl (G.parse_parser_simple r8.2) parse_parser_simple.g.o fun r11=>ok (((aS.mk (aS.lab r11.1) (aS.kids r11.1)),r11.2)))))))
def R.parse_parser_assign (G:b8) (p_0:aL.den):Res ((aS aF.den)×aL.den) :=
 given (parse_parser_assign.g.i p_0) (cl (R.aR p_0) aR.g.o fun r1=>bd (α:=Bool) (br (r1.1 == 1) (cl (R.bD p_0 1) bD.g.o fun r2=>bd (R.gM r2 [61,62]) fun r3=>br r3 (cl (R.bD p_0 1) bD.g.o fun r4=>ok ((!r4.2.2.2.2.2.2))) (ok false)) (ok false)) fun x5=>br x5 (cl (R.bE 20 r1.2.1 ([]:List (aS aF.den))) bE.g.o fun r6=>cl (G.parse_parser_body (p_0.1,(w6 (p_0.2.1+1),p_0.2.2)) [(aS.mk r6.1 r6.2)]) parse_parser_body.g.o fun r7=>ok (((aS.mk (aS.lab r7.1) (aS.kids r7.1)),r7.2))) (bd (R.fC p_0) fun r8=>br r8 (cl (R.dm p_0) dm.g.o fun r9=>cl (G.parse_parser_body r9.2 r9.1) parse_parser_body.g.o fun r10=>ok (((aS.mk (aS.lab r10.1) (aS.kids r10.1)),r10.2))) (cl (G.parse_parser_cond p_0) parse_parser_cond.g.o fun r11=>cl (R.aR r11.2) aR.g.o fun r12=>bd (α:=Bool) (br (!(r12.1 == 5)) (ok true) (bd (R.lp 49 r12.2.1) fun r13=>ok ((!r13)))) fun x14=>br x14 (ok (((aS.mk (aS.lab r11.1) (aS.kids r11.1)),r11.2))) (bd (R.gF (aS.lab r11.1).1) fun r15=>br (!r15) (Res.stuck) (cl (G.parse_parser_assign (r11.2.1,(w6 (r11.2.2.1+1),r11.2.2.2))) parse_parser_assign.g.o fun r16=>cl (R.bE 49 r12.2.1 [(aS.mk (aS.lab r11.1) (aS.kids r11.1)),(aS.mk (aS.lab r16.1) (aS.kids r16.1))]) bE.g.o fun r17=>ok (((aS.mk r17.1 r17.2),r16.2)))))))
def R.parse_parser_word (G:b8) (p_0:aL.den) (s_1:(List UInt8)):Res ((aS aF.den)×aL.den) :=
 given (parse_parser_word.g.i (p_0,s_1)) (br (s_1 == [105,102]) (Res.stuck) (br (s_1 == [119,104,105,108,101]) (Res.stuck) (br (s_1 == [102,111,114]) (Res.stuck) (br (s_1 == [98,114,101,97,107]) (Res.stuck) (br (s_1 == [99,111,110,116,105,110,117,101]) (Res.stuck) (br (s_1 == [114,101,116,117,114,110]) (cl (R.bB 14 ([]:List (aS aF.den))) bB.g.o fun r1=>Res.stuck) (br (s_1 == [116,104,114,111,119]) (bd (α:=Unit) (cl (R.aR (p_0.1,(w6 (p_0.2.1+1),p_0.2.2))) aR.g.o fun r2=>br r2.2.2.2.2.2.2 (Res.stuck) (ok (()))) fun x3=>cl (G.parse_parser_assign (p_0.1,(w6 (p_0.2.1+1),p_0.2.2))) parse_parser_assign.g.o fun r4=>cl (R.bB 15 [(aS.mk (aS.lab r4.1) (aS.kids r4.1))]) bB.g.o fun r5=>cl (R.ca r4.2) ca.g.o fun r6=>ok (((aS.mk r5.1 r5.2),r6.2))) (br (s_1 == [116,114,121]) (Res.stuck) (bd (α:=Bool) (br (s_1 == [102,117,110,99,116,105,111,110]) (ok ((s_1 == [102,117,110,99,116,105,111,110]))) (br (s_1 == [108,101,116]) (ok ((s_1 == [108,101,116]))) (ok ((s_1 == [99,111,110,115,116]))))) fun x7=>br x7 (Res.stuck) (cl (G.parse_parser_simple p_0) parse_parser_simple.g.o fun r8=>ok (((aS.mk (aS.lab r8.1) (aS.kids r8.1)),r8.2))))))))))))
def R.parse_parser_simple (G:b8) (p_0:aL.den):Res ((aS aF.den)×aL.den) :=
 given (parse_parser_simple.g.i p_0) (cl (G.parse_parser_assign p_0) parse_parser_assign.g.o fun r1=>cl (R.bB 3 [(aS.mk (aS.lab r1.1) (aS.kids r1.1))]) bB.g.o fun r2=>cl (R.ca r1.2) ca.g.o fun r3=>ok (((aS.mk r2.1 r2.2),r3.2)))
def R.parse_parser_body (G:b8) (p_0:aL.den) (l_1:(List (aS aF.den))):Res ((aS aF.den)×aL.den) :=
 given (parse_parser_body.g.i (p_0,l_1)) (bd (α:=Unit) (cl (R.aR p_0) aR.g.o fun r1=>br r1.2.2.2.2.2.2 (Res.stuck) (ok (()))) fun x2=>cl (R.ah p_0 [61,62]) ah.g.o fun r3=>cl (R.bB 42 l_1) bB.g.o fun r4=>bd (R.bW r3.2 [123]) fun r5=>br r5 (Res.stuck) (cl (G.parse_parser_assign r3.2) parse_parser_assign.g.o fun r6=>ai (decide ((r4.2.length+[(aS.mk (aS.lab r6.1) (aS.kids r6.1))].length)*144<=2^47)) (ok (((aS.mk r4.1 (r4.2++[(aS.mk (aS.lab r6.1) (aS.kids r6.1))])),r6.2)))))
def R.parse_parser_cond (G:b8) (p_0:aL.den):Res ((aS aF.den)×aL.den) :=
 given (parse_parser_cond.g.i p_0) (cl (G.parse_parser_either p_0) parse_parser_either.g.o fun r1=>cl (R.aM r1.2 [63]) aM.g.o fun r2=>br (!r2.1) (ok (((aS.mk (aS.lab r1.1) (aS.kids r1.1)),r2.2))) (cl (G.parse_parser_assign r2.2) parse_parser_assign.g.o fun r3=>cl (R.ah r3.2 [58]) ah.g.o fun r4=>cl (G.parse_parser_assign r4.2) parse_parser_assign.g.o fun r5=>cl (R.bB 48 [(aS.mk (aS.lab r1.1) (aS.kids r1.1)),(aS.mk (aS.lab r3.1) (aS.kids r3.1)),(aS.mk (aS.lab r5.1) (aS.kids r5.1))]) bB.g.o fun r6=>ok (((aS.mk r6.1 r6.2),r5.2))))
def R.parse_parser_either (G:b8) (p_0:aL.den):Res ((aS aF.den)×aL.den) :=
 given (parse_parser_either.g.i p_0) (cl (G.parse_parser_level p_0 0) parse_parser_level.g.o fun r1=>bd (R.bW r1.2 [63,63]) fun r2=>br r2 (bd (loop (α:=(aL.den×(aS aF.den))) (β:=(aL.den×(aS aF.den))) (fun x3=>cl (R.aM x3.1 [63,63]) aM.g.o fun r4=>br r4.1 (cl (G.parse_parser_level r4.2 0) parse_parser_level.g.o fun r5=>cl (R.bE 47 [63,63] [(aS.mk (aS.lab x3.2) (aS.kids x3.2)),(aS.mk (aS.lab r5.1) (aS.kids r5.1))]) bE.g.o fun r6=>ok (.next ((r5.2,(aS.mk r6.1 r6.2))))) (ok (.done ((r4.2,(aS.mk (aS.lab x3.2) (aS.kids x3.2))))))) fuel (r1.2,(aS.mk (aS.lab r1.1) (aS.kids r1.1)))) fun x7=>bd (α:=Unit) (bd (α:=Bool) (bd (R.bW x7.1 [124,124]) fun r8=>br r8 (ok true) (bd (R.bW x7.1 [38,38]) fun r9=>ok r9)) fun x10=>br x10 (Res.stuck) (ok (()))) fun x11=>ok (((aS.mk (aS.lab x7.2) (aS.kids x7.2)),x7.1))) (cl (G.parse_parser_both r1.2 (aS.mk (aS.lab r1.1) (aS.kids r1.1))) parse_parser_both.g.o fun r12=>bd (loop (α:=(aL.den×(aS aF.den))) (β:=(aL.den×(aS aF.den))) (fun x13=>cl (R.aM x13.1 [124,124]) aM.g.o fun r14=>br r14.1 (cl (G.parse_parser_level r14.2 0) parse_parser_level.g.o fun r15=>cl (G.parse_parser_both r15.2 (aS.mk (aS.lab r15.1) (aS.kids r15.1))) parse_parser_both.g.o fun r16=>cl (R.bE 47 [124,124] [(aS.mk (aS.lab x13.2) (aS.kids x13.2)),(aS.mk (aS.lab r16.1) (aS.kids r16.1))]) bE.g.o fun r17=>ok (.next ((r16.2,(aS.mk r17.1 r17.2))))) (ok (.done ((r14.2,(aS.mk (aS.lab x13.2) (aS.kids x13.2))))))) fuel (r12.2,(aS.mk (aS.lab r12.1) (aS.kids r12.1)))) fun x18=>bd (R.bW x18.1 [63,63]) fun r19=>br r19 (Res.stuck) (ok (((aS.mk (aS.lab x18.2) (aS.kids x18.2)),x18.1)))))
def R.parse_parser_level (G:b8) (p_0:aL.den) (n_1:Int):Res ((aS aF.den)×aL.den) :=
 given (parse_parser_level.g.i (p_0,n_1)) (br (n_1 == 8) (cl (G.parse_parser_unary p_0) parse_parser_unary.g.o fun r1=>ok (((aS.mk (aS.lab r1.1) (aS.kids r1.1)),r1.2))) (cl (G.parse_parser_level p_0 (w6 (n_1+1))) parse_parser_level.g.o fun r2=>bd (loop (α:=(aL.den×(aS aF.den))) (β:=(aL.den×(aS aF.den))) (fun x3=>cl (R.aR x3.1) aR.g.o fun r4=>cl (R.jY r4) jY.g.o fun r5=>br (r5 == n_1) (cl (R.aR x3.1) aR.g.o fun r6=>cl (G.parse_parser_level (x3.1.1,(w6 (x3.1.2.1+1),x3.1.2.2)) (w6 (n_1+1))) parse_parser_level.g.o fun r7=>cl (R.bE 46 r6.2.1 [(aS.mk (aS.lab x3.2) (aS.kids x3.2)),(aS.mk (aS.lab r7.1) (aS.kids r7.1))]) bE.g.o fun r8=>ok (.next ((r7.2,(aS.mk r8.1 r8.2))))) (ok (.done ((x3.1,(aS.mk (aS.lab x3.2) (aS.kids x3.2))))))) fuel (r2.2,(aS.mk (aS.lab r2.1) (aS.kids r2.1)))) fun x9=>ok (((aS.mk (aS.lab x9.2) (aS.kids x9.2)),x9.1))))
def R.parse_parser_both (G:b8) (p_0:aL.den) (x_1:(aS aF.den)):Res ((aS aF.den)×aL.den) :=
 given (parse_parser_both.g.i (p_0,x_1)) (bd (loop (α:=(aL.den×(aS aF.den))) (β:=(aL.den×(aS aF.den))) (fun x1=>cl (R.aM x1.1 [38,38]) aM.g.o fun r2=>br r2.1 (cl (G.parse_parser_level r2.2 0) parse_parser_level.g.o fun r3=>cl (R.bE 47 [38,38] [(aS.mk (aS.lab x1.2) (aS.kids x1.2)),(aS.mk (aS.lab r3.1) (aS.kids r3.1))]) bE.g.o fun r4=>ok (.next ((r3.2,(aS.mk r4.1 r4.2))))) (ok (.done ((r2.2,(aS.mk (aS.lab x1.2) (aS.kids x1.2))))))) fuel (p_0,(aS.mk (aS.lab x_1) (aS.kids x_1)))) fun x5=>ok (((aS.mk (aS.lab x5.2) (aS.kids x5.2)),x5.1)))
def R.parse_parser_unary (G:b8) (p_0:aL.den):Res ((aS aF.den)×aL.den) :=
 given (parse_parser_unary.g.i p_0) (cl (R.aR p_0) aR.g.o fun r1=>bd (α:=(Unit ⊕ (aL.den×(aF.den×(List (aS aF.den)))))) (bd (α:=Bool) (br (r1.1 == 5) (ok true) (ok ((r1.1 == 6)))) fun x2=>br x2 (bd (R.lp 43 r1.2.1) fun r3=>br r3 (cl (G.parse_parser_unary (p_0.1,(w6 (p_0.2.1+1),p_0.2.2))) parse_parser_unary.g.o fun r4=>cl (R.bE 43 r1.2.1 [(aS.mk (aS.lab r4.1) (aS.kids r4.1))]) bE.g.o fun r5=>ok (.inr (r4.2,r5))) (bd (R.lp 44 r1.2.1) fun r6=>br r6 (cl (G.parse_parser_unary (p_0.1,(w6 (p_0.2.1+1),p_0.2.2))) parse_parser_unary.g.o fun r7=>bd (α:=Unit) (bd (α:=Bool) (bd (R.cF r7.2) fun r8=>br r8 (bd (R.gF (aS.lab r7.1).1) fun r9=>ok ((!r9))) (ok false)) fun x10=>br x10 (Res.stuck) (ok (()))) fun x11=>cl (R.bE 44 r1.2.1 [(aS.mk (aS.lab r7.1) (aS.kids r7.1))]) bE.g.o fun r12=>ok (.inr (r7.2,r12))) (ok (.inl ())))) (ok (.inl ()))) fun x13=>sum x13 (fun x14=>cl (G.parse_parser_calls p_0) parse_parser_calls.g.o fun r16=>cl (R.aR r16.2) aR.g.o fun r17=>bd (α:=Bool) (br (r17.1 == 5) (bd (R.lp 45 r17.2.1) fun r18=>br r18 (ok ((!r17.2.2.2.2.2.2))) (ok false)) (ok false)) fun x19=>br x19 (bd (R.gF (aS.lab r16.1).1) fun r20=>br (!r20) (Res.stuck) (cl (R.bE 45 r17.2.1 [(aS.mk (aS.lab r16.1) (aS.kids r16.1))]) bE.g.o fun r21=>ok (((aS.mk r21.1 r21.2),(r16.2.1,(w6 (r16.2.2.1+1),r16.2.2.2)))))) (ok (((aS.mk (aS.lab r16.1) (aS.kids r16.1)),r16.2)))) (fun z15=>ok (((aS.mk z15.2.1 z15.2.2),z15.1))))
def R.parse_parser_calls (G:b8) (p_0:aL.den):Res ((aS aF.den)×aL.den) :=
 given (parse_parser_calls.g.i p_0) (cl (G.parse_parser_head p_0) parse_parser_head.g.o fun r1=>bd (loop (α:=(aL.den×(aS aF.den))) (β:=(aL.den×(aS aF.den))) (fun x2=>bd (R.bW x2.1 [40]) fun r3=>br r3 (cl (G.parse_parser_arguments x2.1) parse_parser_arguments.g.o fun r4=>ai (decide (([(aS.mk (aS.lab x2.2) (aS.kids x2.2))].length+r4.1.length)*144<=2^47)) (cl (R.bB 50 ([(aS.mk (aS.lab x2.2) (aS.kids x2.2))]++r4.1)) bB.g.o fun r5=>ok (.next ((r4.2,(aS.mk r5.1 r5.2)))))) (cl (G.parse_parser_member x2.1 (aS.mk (aS.lab x2.2) (aS.kids x2.2))) parse_parser_member.g.o fun r6=>br (!r6.1.2) (ok (.done ((r6.2,(aS.mk (aS.lab x2.2) (aS.kids x2.2)))))) (ok (.next ((r6.2,(aS.mk (aS.lab r6.1.1) (aS.kids r6.1.1)))))))) fuel (r1.2,(aS.mk (aS.lab r1.1) (aS.kids r1.1)))) fun x7=>ok (((aS.mk (aS.lab x7.2) (aS.kids x7.2)),x7.1)))
def R.parse_parser_head (G:b8) (p_0:aL.den):Res ((aS aF.den)×aL.den) :=
 given (parse_parser_head.g.i p_0) (cl (R.aM p_0 [110,101,119]) aM.g.o fun r1=>br (!r1.1) (cl (G.parse_parser_primary r1.2) parse_parser_primary.g.o fun r2=>ok (((aS.mk (aS.lab r2.1) (aS.kids r2.1)),r2.2))) (cl (G.parse_parser_head r1.2) parse_parser_head.g.o fun r3=>bd (loop (α:=(Bool×(aL.den×(aS aF.den)))) (β:=(aL.den×(aS aF.den))) (fun more4=>br more4.1 (cl (G.parse_parser_member more4.2.1 (aS.mk (aS.lab more4.2.2) (aS.kids more4.2.2))) parse_parser_member.g.o fun r5=>ok (.next ((r5.1.2,(r5.2,(aS.mk (aS.lab r5.1.1) (aS.kids r5.1.1))))))) (ok (.done ((more4.2.1,(aS.mk (aS.lab more4.2.2) (aS.kids more4.2.2))))))) fuel (true,(r3.2,(aS.mk (aS.lab r3.1) (aS.kids r3.1))))) fun x6=>bd (R.bW x6.1 [40]) fun r7=>br r7 (cl (G.parse_parser_arguments x6.1) parse_parser_arguments.g.o fun r8=>ai (decide (([(aS.mk (aS.lab x6.2) (aS.kids x6.2))].length+r8.1.length)*144<=2^47)) (cl (R.bB 51 ([(aS.mk (aS.lab x6.2) (aS.kids x6.2))]++r8.1)) bB.g.o fun r9=>ok (((aS.mk r9.1 r9.2),r8.2)))) (cl (R.bB 51 [(aS.mk (aS.lab x6.2) (aS.kids x6.2))]) bB.g.o fun r10=>ok (((aS.mk r10.1 r10.2),x6.1)))))
def R.parse_parser_arguments (G:b8) (p_0:aL.den):Res ((List (aS aF.den))×aL.den) :=
 given (parse_parser_arguments.g.i p_0) (cl (R.ah p_0 [40]) ah.g.o fun r1=>cl (G.parse_parser_list r1.2 [41]) parse_parser_list.g.o fun r2=>ok r2)
def R.parse_parser_member (G:b8) (p_0:aL.den) (x_1:(aS aF.den)):Res (((aS aF.den)×Bool)×aL.den) :=
 given (parse_parser_member.g.i (p_0,x_1)) (cl (R.aM p_0 [46]) aM.g.o fun r1=>br r1.1 (cl (R.aR r1.2) aR.g.o fun r2=>bd (α:=Bool) (br (!(r2.1 == 1)) (ok ((!(r2.1 == 6)))) (ok false)) fun x3=>br x3 (Res.stuck) (cl (R.bE 52 r2.2.1 [(aS.mk (aS.lab x_1) (aS.kids x_1))]) bE.g.o fun r4=>ok ((((aS.mk r4.1 r4.2),true),(r1.2.1,(w6 (r1.2.2.1+1),r1.2.2.2)))))) (cl (R.aM r1.2 [91]) aM.g.o fun r5=>br r5.1 (cl (G.parse_parser_assign r5.2) parse_parser_assign.g.o fun r6=>cl (R.bB 53 [(aS.mk (aS.lab x_1) (aS.kids x_1)),(aS.mk (aS.lab r6.1) (aS.kids r6.1))]) bB.g.o fun r7=>cl (R.ah r6.2 [93]) ah.g.o fun r8=>ok ((((aS.mk r7.1 r7.2),true),r8.2))) (ok ((((aS.mk (aS.lab x_1) (aS.kids x_1)),false),r5.2)))))
def R.parse_parser_primary (G:b8) (p_0:aL.den):Res ((aS aF.den)×aL.den) :=
 given (parse_parser_primary.g.i p_0) (cl (R.aR p_0) aR.g.o fun r1=>br (r1.1 == 0) (Res.stuck) (br (r1.1 == 2) (ok (((aS.mk (30,(([]:List UInt8),(([]:List Int),(r1.2.2.2.1,((false,([]:List Int)),([]:List Int)))))) ([]:List (aS aF.den))),(p_0.1,(w6 (p_0.2.1+1),p_0.2.2))))) (br (r1.1 == 3) (ok (((aS.mk (31,(([]:List UInt8),(([]:List Int),((0,0),(r1.2.2.2.2.1,([]:List Int)))))) ([]:List (aS aF.den))),(p_0.1,(w6 (p_0.2.1+1),p_0.2.2))))) (br (r1.1 == 4) (ok (((aS.mk (32,(([]:List UInt8),(r1.2.2.1,((0,0),((false,([]:List Int)),([]:List Int)))))) ([]:List (aS aF.den))),(p_0.1,(w6 (p_0.2.1+1),p_0.2.2))))) (br (r1.1 == 1) (cl (R.bE 33 r1.2.1 ([]:List (aS aF.den))) bE.g.o fun r2=>ok (((aS.mk r2.1 r2.2),(p_0.1,(w6 (p_0.2.1+1),p_0.2.2))))) (br (r1.2.1 == [116,114,117,101]) (cl (R.bB 34 ([]:List (aS aF.den))) bB.g.o fun r3=>ok (((aS.mk r3.1 r3.2),(p_0.1,(w6 (p_0.2.1+1),p_0.2.2))))) (br (r1.2.1 == [102,97,108,115,101]) (cl (R.bB 35 ([]:List (aS aF.den))) bB.g.o fun r4=>ok (((aS.mk r4.1 r4.2),(p_0.1,(w6 (p_0.2.1+1),p_0.2.2))))) (br (r1.2.1 == [110,117,108,108]) (cl (R.bB 36 ([]:List (aS aF.den))) bB.g.o fun r5=>ok (((aS.mk r5.1 r5.2),(p_0.1,(w6 (p_0.2.1+1),p_0.2.2))))) (br (r1.2.1 == [116,104,105,115]) (cl (R.bB 37 ([]:List (aS aF.den))) bB.g.o fun r6=>ok (((aS.mk r6.1 r6.2),(p_0.1,(w6 (p_0.2.1+1),p_0.2.2))))) (br (r1.2.1 == [91]) (cl (G.parse_parser_list (p_0.1,(w6 (p_0.2.1+1),p_0.2.2)) [93]) parse_parser_list.g.o fun r7=>cl (R.bB 38 r7.1) bB.g.o fun r8=>ok (((aS.mk r8.1 r8.2),r7.2))) (br (r1.2.1 == [123]) (Res.stuck) (br (r1.2.1 == [102,117,110,99,116,105,111,110]) (bd (α:=((List UInt8)×aL.den)) (cl (R.aR (p_0.1,(w6 (p_0.2.1+1),p_0.2.2))) aR.g.o fun r9=>br (r9.1 == 1) (cl (R.bV (p_0.1,(w6 (p_0.2.1+1),p_0.2.2))) bV.g.o fun r10=>ok r10) (ok ((([]:List UInt8),(p_0.1,(w6 (p_0.2.1+1),p_0.2.2)))))) fun name11=>Res.stuck) (br (r1.2.1 == [40]) (cl (G.parse_parser_assign (p_0.1,(w6 (p_0.2.1+1),p_0.2.2))) parse_parser_assign.g.o fun r12=>cl (R.ah r12.2 [41]) ah.g.o fun r13=>ok (((aS.mk (aS.lab r12.1) (aS.kids r12.1)),r13.2))) (bd (α:=Bool) (bd (R.bW (p_0.1,(w6 ((w6 (p_0.2.1+1))-1),p_0.2.2)) [47]) fun r14=>br r14 (ok true) (bd (R.bW (p_0.1,(w6 ((w6 (p_0.2.1+1))-1),p_0.2.2)) [47,61]) fun r15=>ok r15)) fun x16=>br x16 (Res.stuck) (Res.stuck)))))))))))))))
def R.parse_parser_list (G:b8) (p_0:aL.den) (s_1:(List UInt8)):Res ((List (aS aF.den))×aL.den) :=
 given (parse_parser_list.g.i (p_0,s_1)) (cl (R.aM p_0 s_1) aM.g.o fun r1=>br r1.1 (ok ((([]:List (aS aF.den)),r1.2))) (bd (loop (α:=((List (aS aF.den))×aL.den)) (β:=((List (aS aF.den))×aL.den)) (fun l2=>cl (G.parse_parser_assign l2.2) parse_parser_assign.g.o fun r3=>ai (decide ((l2.1.length+[(aS.mk (aS.lab r3.1) (aS.kids r3.1))].length)*144<=2^47)) (bd (α:=(Bool×aL.den)) (bd (R.cF r3.2) fun r4=>br (!r4) (ok ((true,r3.2))) (cl (R.aM r3.2 s_1) aM.g.o fun r5=>ok r5)) fun x6=>br x6.1 (ok (.done (((l2.1++[(aS.mk (aS.lab r3.1) (aS.kids r3.1))]),x6.2)))) (cl (R.ah x6.2 [44]) ah.g.o fun r7=>ok (.next (((l2.1++[(aS.mk (aS.lab r3.1) (aS.kids r3.1))]),r7.2)))))) fuel (([]:List (aS aF.den)),r1.2)) fun x8=>ok x8))
def du:Nat->b8
 |0=>{ parse_parser_item:=fun _=>.stuck,parse_parser_declares:=fun _=>.stuck,parse_parser_statement:=fun _=>.stuck,parse_parser_assign:=fun _=>.stuck,parse_parser_word:=fun _ _=>.stuck,parse_parser_simple:=fun _=>.stuck,parse_parser_body:=fun _ _=>.stuck,parse_parser_cond:=fun _=>.stuck,parse_parser_either:=fun _=>.stuck,parse_parser_level:=fun _ _=>.stuck,parse_parser_both:=fun _ _=>.stuck,parse_parser_unary:=fun _=>.stuck,parse_parser_calls:=fun _=>.stuck,parse_parser_head:=fun _=>.stuck,parse_parser_arguments:=fun _=>.stuck,parse_parser_member:=fun _ _=>.stuck,parse_parser_primary:=fun _=>.stuck,parse_parser_list:=fun _ _=>.stuck }
 |n+1=>{ parse_parser_item:=R.parse_parser_item (du n),parse_parser_declares:=R.parse_parser_declares (du n),parse_parser_statement:=R.parse_parser_statement (du n),parse_parser_assign:=R.parse_parser_assign (du n),parse_parser_word:=R.parse_parser_word (du n),parse_parser_simple:=R.parse_parser_simple (du n),parse_parser_body:=R.parse_parser_body (du n),parse_parser_cond:=R.parse_parser_cond (du n),parse_parser_either:=R.parse_parser_either (du n),parse_parser_level:=R.parse_parser_level (du n),parse_parser_both:=R.parse_parser_both (du n),parse_parser_unary:=R.parse_parser_unary (du n),parse_parser_calls:=R.parse_parser_calls (du n),parse_parser_head:=R.parse_parser_head (du n),parse_parser_arguments:=R.parse_parser_arguments (du n),parse_parser_member:=R.parse_parser_member (du n),parse_parser_primary:=R.parse_parser_primary (du n),parse_parser_list:=R.parse_parser_list (du n) }
abbrev dO.g:Sg:=⟨[.obj aL],[(true,(.frz (.rose aF)))]⟩
def R.dO (p_0:aL.den):Res ((aS aF.den)×aL.den) :=
 given (dO.g.i p_0) (cl (R.bB 1 ([]:List (aS aF.den))) bB.g.o fun r1=>bd (loop (α:=(aL.den×(aF.den×(List (aS aF.den))))) (β:=(aL.den×(aF.den×(List (aS aF.den))))) (fun x2=>cl (R.aR x2.1) aR.g.o fun r3=>br (!(r3.1 == 0)) (cl ((du fuel).parse_parser_item x2.1) parse_parser_item.g.o fun r4=>ai (decide ((x2.2.2.length+[(aS.mk (aS.lab r4.1) (aS.kids r4.1))].length)*144<=2^47)) (ok (.next ((r4.2,(x2.2.1,(x2.2.2++[(aS.mk (aS.lab r4.1) (aS.kids r4.1))]))))))) (ok (.done (x2)))) fuel (p_0,r1)) fun x5=>ok (((aS.mk x5.2.1 x5.2.2),x5.1)))
abbrev ig.g:Sg:=⟨[.obj pY,.val true (.bor (.frz (.rose aF)))],[vi]⟩
def R.ig:Nat->pY.den->(aS aF.den)->Res (Int×pY.den)
 |0,_,_=>.stuck
 |fu+1,t_0,x_1=>given (ig.g.i (t_0,x_1)) (ai (decide ((t_0.length+[(aS.lab x_1)].length)*120<=2^47)) (bd (loop (α:=((List Int)×(Int×pY.den))) (β:=((List Int)×pY.den)) (fun l1=>br (ilt l1.2.1 ((aS.kids x_1).length:Int)) (idx (.rose aF) (aS.kids x_1) l1.2.1 fun e2=>cl (R.ig fu l1.2.2 (aS.mk (aS.lab e2) (aS.kids e2))) ig.g.o fun r3=>ai (decide ((l1.1.length+[r3.1].length)*8<=2^47)) (ok (.next (((l1.1++[r3.1]),(w6 (l1.2.1+1),r3.2)))))) (ok (.done ((l1.1,l1.2.2))))) fuel (([]:List Int),(0,(t_0++[(aS.lab x_1)])))) fun l4=>ai (ile 0 (t_0.length:Int) && ilt (t_0.length:Int) l4.2.length) (idx aF l4.2 (0+Int.toNat (t_0.length:Int)) fun e5=>ok (((t_0.length:Int),(List.set l4.2 (0+Int.toNat (t_0.length:Int)) (e5.1,(e5.2.1,(e5.2.2.1,(e5.2.2.2.1,(e5.2.2.2.2.1,l4.1)))))))))))
abbrev kO.g:Sg:=⟨[.val true (.bor (.frz (.rose aF)))],[(true,(.frz (.list aF)))]⟩
def R.kO (root_0:(aS aF.den)):Res ((List aF.den)) :=
 given (kO.g.i root_0) (cl (R.ig fuel ([]:List aF.den) (aS.mk (aS.lab root_0) (aS.kids root_0))) ig.g.o fun r1=>ok (r1.2))
abbrev jC.g:Sg:=⟨[.val true (.bor lO)],[(false,(.own .i))]⟩
def R.jC (t_0:(List aF.den)):Res ((List Int)) :=
 given (jC.g.i t_0) (ai (ile 0 (t_0.length:Int) && (ile (t_0.length:Int) (t_0.length:Int) && decide ((Int.toNat (t_0.length:Int))*8<=2^47))) (bd (loop (α:=(Int×(List Int))) (β:=(List Int)) (fun x1=>br (ilt x1.1 (t_0.length:Int)) (ct (.frz aF) t_0 x1.1 fun e2=>ai (ile 0 x1.1 && ilt x1.1 x1.2.length) (idx (.int .i64) x1.2 (0+Int.toNat x1.1) fun e3=>ai (ile 0 x1.1 && ilt x1.1 x1.2.length) (idx (.int .i64) x1.2 (0+Int.toNat x1.1) fun e4=>bd (loop (α:=(Int×(List Int))) (β:=(List Int)) (fun x5=>br (ilt x5.1 (e2.2.2.2.2.2.length:Int)) (idx (.int .i64) e2.2.2.2.2.2 x5.1 fun e6=>ai (ile 0 x1.1 && ilt x1.1 x5.2.length) (idx (.int .i64) x5.2 (0+Int.toNat x1.1) fun e7=>ai (ile 0 e6 && ilt e6 x5.2.length) (idx (.int .i64) x5.2 (0+Int.toNat e6) fun e8=>ok (.next ((w6 (x5.1+1),(List.set x5.2 (0+Int.toNat e6) (w6 (e7+1))))))))) (ok (.done (x5.2)))) fuel (0,(List.set x1.2 (0+Int.toNat x1.1) (pH e3 1)))) fun x9=>ok (.next ((w6 (x1.1+1),x9)))))) (ok (.done (x1.2)))) fuel (0,(List.replicate (Int.toNat (t_0.length:Int)) (0:Int)))) fun x10=>ok x10))
abbrev eG.g:Sg:=⟨[.val false (.bor (.own .i))],[vi]⟩
def R.eG (x_0:(List Int)):Res (Int) :=
 given (eG.g.i x_0) (bd (α:=Unit) (br (ilt (x_0.length:Int) 1) (Res.stuck) (ok (()))) fun x1=>ct .i x_0 0 fun e2=>bd (loop (α:=(Int×Int)) (β:=Int) (fun m3=>br (ilt m3.2 (x_0.length:Int)) (ct .i x_0 m3.2 fun e4=>ok (.next (((pH m3.1 e4),w6 (m3.2+1))))) (ok (.done (m3.1)))) fuel (e2,1)) fun m5=>ok m5)
abbrev jX.g:Sg:=⟨[.val false (.frz (.list (.int .u16)))],[(true,(.frz (.list aF))),vi,vi]⟩
def R.jX (u_0:(List Int)):Res (((List aF.den)×(Int×Int))) :=
 given (jX.g.i u_0) (cl (R.kS u_0) kS.g.o fun r1=>br (!(r1.2.2 == 0)) (ok ((([]:List aF.den),r1.2))) (cl (R.dO (r1.1,(0,(0,0)))) dO.g.o fun r2=>br (!(r2.2.2.2.1 == 0)) (ok ((([]:List aF.den),(r2.2.2.2.2,r2.2.2.2.1)))) (cl (R.kO (aS.mk (aS.lab r2.1) (aS.kids r2.1))) kO.g.o fun r3=>br (ilt 4096 (r3.length:Int)) (ok ((([]:List aF.den),(0,3)))) (cl (R.jC r3) jC.g.o fun r4=>cl (R.eG r4) eG.g.o fun r5=>br (ilt 48 r5) (ok ((([]:List aF.den),(0,7)))) (ok ((r3,(0,0))))))))
abbrev jo.g:Sg:=⟨[.val true (.bor lO)],[vb]⟩
def R.jo (t_0:(List aF.den)):Res (Bool) :=
 given (jo.g.i t_0) (bd (loop (α:=((List Int)×Int)) (β:=((List Int) ⊕ Bool)) (fun next1=>br (ilt next1.2 (t_0.length:Int)) (ct (.frz aF) t_0 next1.2 fun e2=>bd (α:=((List Int) ⊕ Bool)) (br (ilt 0 next1.2) (bd (α:=Bool) (br ((next1.1.length:Int) == 0) (ok true) (ai (ile 0 (w6 ((next1.1.length:Int)-1)) && ilt (w6 ((next1.1.length:Int)-1)) next1.1.length) (idx (.int .i64) next1.1 (0+Int.toNat (w6 ((next1.1.length:Int)-1))) fun e3=>ok ((!(e3 == next1.2)))))) fun x4=>br x4 (ok (.inr false)) (ai (ile 0 (w6 ((next1.1.length:Int)-1)) && ile (w6 ((next1.1.length:Int)-1)) next1.1.length) (ok (.inl (List.take (Int.toNat (w6 ((next1.1.length:Int)-1))) (List.drop 0 next1.1)))))) (ok (.inl next1.1))) fun next5=>sum next5 (fun next6=>bd (loop (α:=((List Int)×Int)) (β:=((List Int) ⊕ Bool)) (fun next8=>br (ile 0 next8.2) (bd (α:=Bool) (idx (.int .i64) e2.2.2.2.2.2 next8.2 fun e9=>br (ile e9 next1.2) (ok true) (idx (.int .i64) e2.2.2.2.2.2 next8.2 fun e10=>ok ((ile (t_0.length:Int) e10)))) fun x11=>br x11 (ok (.done (.inr false))) (idx (.int .i64) e2.2.2.2.2.2 next8.2 fun e12=>ai (decide ((next8.1.length+[e12].length)*8<=2^47)) (ok (.next (((next8.1++[e12]),w6 (next8.2-1))))))) (ok (.done (.inl next8.1)))) fuel (next6,w6 ((e2.2.2.2.2.2.length:Int)-1))) fun next13=>sum next13 (fun next14=>ok (.next ((next14,w6 (next1.2+1))))) (fun z15=>ok (.done (.inr z15)))) (fun z7=>ok (.done (.inr z7)))) (ok (.done (.inl next1.1)))) fuel (([]:List Int),0)) fun next16=>sum next16 (fun next17=>ok (((next17.length:Int) == 0))) (fun z18=>ok z18))
abbrev j6.g:Sg:=⟨[.val true (.bor (.seq .b (.own .w)))],[vb]⟩
def R.j6 (a_0:az.den):Res (Bool) :=
 given (j6.g.i a_0) (br (ile (a_0.2.length:Int) 8) (br ((a_0.2.length:Int) == 0) (br (!a_0.1) (ok true) (br (ilt 0 (a_0.2.length:Int)) (ct .w a_0.2 (w6 ((a_0.2.length:Int)-1)) fun e1=>ok ((!(e1 == 0)))) (ok false))) (br (ilt 0 (a_0.2.length:Int)) (ct .w a_0.2 (w6 ((a_0.2.length:Int)-1)) fun e2=>ok ((!(e2 == 0)))) (ok false))) (ok false))
abbrev kz.g:Sg:=⟨[.s],[vb]⟩
def R.kz (s_0:(List UInt8)):Res (Bool) :=
 given (kz.g.i s_0) (bd (loop (α:=Int) (β:=(Unit ⊕ Bool)) (fun x1=>br (ilt x1 (s_0.length:Int)) (idx (.int .u8) (lU s_0) x1 fun e2=>bd (α:=Bool) (bd (R.gd (IntKind.wrap .u16 e2)) fun r3=>br (!r3) (br (x1 == 0) (ok true) (bd (R.iP (IntKind.wrap .u16 e2)) fun r4=>ok ((!r4)))) (ok false)) fun x5=>br x5 (ok (.done (.inr false))) (ok (.next (w6 (x1+1))))) (ok (.done (.inl ())))) fuel 0) fun x6=>sum x6 (fun x7=>ok ((!(s_0 == ([]:List UInt8))))) (fun z8=>ok z8))
abbrev j8.g:Sg:=⟨[.s],[vb]⟩
def R.j8 (s_0:(List UInt8)):Res (Bool) :=
 given (j8.g.i s_0) (bd (R.kz s_0) fun r1=>br r1 (cl (R.kD s_0) kD.g.o fun r2=>ok ((r2 == 0))) (ok false))
abbrev fU.g:Sg:=⟨[.val true (.bor (.seq .i (.seq .s (.seq (.own .h) (.seq (.frz aI) (.seq (.seq .b (.own .w)) (.own .i)))))))],[vb]⟩
def R.fU (x_0:aF.den):Res (Bool) :=
 given (fU.g.i x_0) (bd (α:=Bool) (br (x_0.1 == 7) (ok ((x_0.1 == 7))) (br (x_0.1 == 18) (ok ((x_0.1 == 18))) (br (x_0.1 == 19) (ok ((x_0.1 == 19))) (br (x_0.1 == 20) (ok ((x_0.1 == 20))) (ok ((x_0.1 == 33))))))) fun x1=>br x1 (bd (R.j8 x_0.2.1) fun r2=>ok r2) (bd (α:=Bool) (br (x_0.1 == 12) (ok ((x_0.1 == 12))) (br (x_0.1 == 13) (ok ((x_0.1 == 13))) (br (x_0.1 == 17) (ok ((x_0.1 == 17))) (ok ((x_0.1 == 41)))))) fun x3=>br x3 (br (x_0.2.1 == ([]:List UInt8)) (ok true) (bd (R.j8 x_0.2.1) fun r4=>ok r4)) (br (x_0.1 == 52) (bd (R.kz x_0.2.1) fun r5=>ok r5) (br (x_0.1 == 43) (bd (R.aQ [[45],[43],[33],[126],[116,121,112,101,111,102],[118,111,105,100]] x_0.2.1) fun r6=>ok r6) (br (x_0.1 == 44) (br (x_0.1 == 44) (bd (R.aQ [[43,43],[45,45]] x_0.2.1) fun r7=>ok r7) (br (x_0.1 == 46) (bd (R.aQ [[43],[45],[42],[47],[37],[38],[124],[94],[60,60],[62,62],[62,62,62],[60],[62],[60,61],[62,61],[61,61],[33,61],[61,61,61],[33,61,61],[105,110]] x_0.2.1) fun r8=>ok r8) (br (x_0.1 == 47) (bd (R.aQ [[38,38],[124,124],[63,63]] x_0.2.1) fun r9=>ok r9) (br (x_0.1 == 49) (bd (R.aQ [[61],[43,61],[45,61],[42,61],[47,61],[37,61],[38,61],[124,61],[94,61],[60,60,61],[62,62,61],[62,62,62,61]] x_0.2.1) fun r10=>ok r10) (ok ((x_0.2.1 == ([]:List UInt8)))))))) (br (x_0.1 == 45) (bd (R.aQ [[43,43],[45,45]] x_0.2.1) fun r11=>ok r11) (br (x_0.1 == 46) (bd (R.aQ [[43],[45],[42],[47],[37],[38],[124],[94],[60,60],[62,62],[62,62,62],[60],[62],[60,61],[62,61],[61,61],[33,61],[61,61,61],[33,61,61],[105,110]] x_0.2.1) fun r12=>ok r12) (br (x_0.1 == 47) (bd (R.aQ [[38,38],[124,124],[63,63]] x_0.2.1) fun r13=>ok r13) (br (x_0.1 == 49) (bd (R.aQ [[61],[43,61],[45,61],[42,61],[47,61],[37,61],[38,61],[124,61],[94,61],[60,60,61],[62,62,61],[62,62,62,61]] x_0.2.1) fun r14=>ok r14) (ok ((x_0.2.1 == ([]:List UInt8)))))))))))))
abbrev hJ.g:Sg:=⟨[.val true (.bor (.seq .i (.seq .s (.seq (.own .h) (.seq (.frz aI) (.seq (.seq .b (.own .w)) (.own .i)))))))],[vb]⟩
def R.hJ (x_0:aF.den):Res (Bool) :=
 given (hJ.g.i x_0) (bd (α:=Bool) (br (ilt 4096 (x_0.2.1.length:Int)) (ok true) (br (!(x_0.1 == 32)) (br (!(x_0.1 == 40)) (br (ilt 0 (x_0.2.2.1.length:Int)) (ok true) (br (!(x_0.1 == 30)) (br (!((x_0.2.2.2.1.1 == 0) && ((x_0.2.2.2.1.2 == 0) && true))) (ok true) (br (!(x_0.1 == 31)) (br x_0.2.2.2.2.1.1 (ok true) (ok ((ilt 0 (x_0.2.2.2.2.1.2.length:Int))))) (ok false))) (br (!(x_0.1 == 31)) (br x_0.2.2.2.2.1.1 (ok true) (ok ((ilt 0 (x_0.2.2.2.2.1.2.length:Int))))) (ok false)))) (br (!(x_0.1 == 30)) (br (!((x_0.2.2.2.1.1 == 0) && ((x_0.2.2.2.1.2 == 0) && true))) (ok true) (br (!(x_0.1 == 31)) (br x_0.2.2.2.2.1.1 (ok true) (ok ((ilt 0 (x_0.2.2.2.2.1.2.length:Int))))) (ok false))) (br (!(x_0.1 == 31)) (br x_0.2.2.2.2.1.1 (ok true) (ok ((ilt 0 (x_0.2.2.2.2.1.2.length:Int))))) (ok false)))) (br (!(x_0.1 == 30)) (br (!((x_0.2.2.2.1.1 == 0) && ((x_0.2.2.2.1.2 == 0) && true))) (ok true) (br (!(x_0.1 == 31)) (br x_0.2.2.2.2.1.1 (ok true) (ok ((ilt 0 (x_0.2.2.2.2.1.2.length:Int))))) (ok false))) (br (!(x_0.1 == 31)) (br x_0.2.2.2.2.1.1 (ok true) (ok ((ilt 0 (x_0.2.2.2.2.1.2.length:Int))))) (ok false))))) fun x1=>br x1 (ok false) (bd (α:=Bool) (br (x_0.1 == 32) (ok ((x_0.1 == 32))) (ok ((x_0.1 == 40)))) fun x2=>br x2 (br (x_0.2.1 == ([]:List UInt8)) (ok ((ile (x_0.2.2.1.length:Int) 4096))) (ok false)) (br (x_0.1 == 30) (br (x_0.2.1 == ([]:List UInt8)) (br (x_0.2.2.2.1.1 == 0) (bd (R.kY x_0.2.2.2.1) fun r3=>br r3 (ok ((ile 0 x_0.2.2.2.1.2))) (ok false)) (ok false)) (ok false)) (br (x_0.1 == 31) (br (x_0.2.1 == ([]:List UInt8)) (bd (R.j6 x_0.2.2.2.2.1) fun r4=>br r4 (ok ((!x_0.2.2.2.2.1.1))) (ok false)) (ok false)) (bd (R.fU x_0) fun r5=>ok r5)))))
abbrev gj.g:Sg:=⟨[.i,.i],[(false,(.own .i))]⟩
def R.gj (n_0:Int) (last_1:Int):Res ((List Int)) :=
 given (gj.g.i (n_0,last_1)) (bd (loop (α:=((List Int)×Int)) (β:=(List Int)) (fun l1=>br (ilt l1.2 (w6 (n_0-1))) (ai (decide ((l1.1.length+[6].length)*8<=2^47)) (ok (.next (((l1.1++[6]),w6 (l1.2+1)))))) (ok (.done (l1.1)))) fuel (([]:List Int),0)) fun l2=>ai (decide ((l2.length+[last_1].length)*8<=2^47)) (ok ((l2++[last_1]))))
abbrev jO.g:Sg:=⟨[.i,.i],[(false,(.own .i)),vi]⟩
def R.jO (kind_0:Int) (n_1:Int):Res (((List Int)×Int)) :=
 given (jO.g.i (kind_0,n_1)) (bd (α:=Bool) (br (kind_0 == 1) (ok ((kind_0 == 1))) (ok ((kind_0 == 4)))) fun x1=>br x1 (ok ((([]:List Int),1))) (bd (α:=Bool) (br (kind_0 == 3) (ok ((kind_0 == 3))) (br (kind_0 == 15) (ok ((kind_0 == 15))) (br (kind_0 == 40) (ok ((kind_0 == 40))) (br (kind_0 == 43) (ok ((kind_0 == 43))) (ok ((kind_0 == 52))))))) fun x2=>br x2 (ok (([3],0))) (bd (α:=Bool) (br (kind_0 == 5) (ok ((kind_0 == 5))) (ok ((kind_0 == 6)))) fun x3=>br x3 (ok (([5],5))) (bd (α:=Bool) (br (kind_0 == 7) (ok ((kind_0 == 7))) (ok ((kind_0 == 14)))) fun x4=>br x4 (ai (ile 0 (kv n_1 1) && ile (kv n_1 1) [3].length) (ok (((List.take (Int.toNat (kv n_1 1)) (List.drop 0 [3])),0)))) (br (kind_0 == 8) (ai (ile 0 (kv (pH n_1 2) 3) && ile (kv (pH n_1 2) 3) [3,2,2].length) (ok (((List.take (Int.toNat (kv (pH n_1 2) 3)) (List.drop 0 [3,2,2])),0)))) (br (kind_0 == 9) (ok (([3,2],0))) (br (kind_0 == 10) (ok (([10,9,9,2],0))) (br (kind_0 == 16) (ok (([8,11,12],0))) (br (kind_0 == 17) (ok (([8],0))) (br (kind_0 == 18) (ok (([2],0))) (bd (α:=Bool) (br (kind_0 == 19) (ok ((kind_0 == 19))) (ok ((kind_0 == 41)))) fun x5=>br x5 (cl (R.gj n_1 8) gj.g.o fun r6=>ok ((r6,0))) (br (kind_0 == 42) (cl (R.gj n_1 13) gj.g.o fun r7=>ok ((r7,0))) (br (kind_0 == 38) (ok ((([]:List Int),3))) (br (kind_0 == 39) (ok ((([]:List Int),7))) (bd (α:=Bool) (br (kind_0 == 44) (ok ((kind_0 == 44))) (ok ((kind_0 == 45)))) fun x8=>br x8 (ok (([4],0))) (bd (α:=Bool) (br (kind_0 == 46) (ok ((kind_0 == 46))) (br (kind_0 == 47) (ok ((kind_0 == 47))) (ok ((kind_0 == 53))))) fun x9=>br x9 (ok (([3,3],0))) (br (kind_0 == 48) (ok (([3,3,3],0))) (br (kind_0 == 49) (ok (([4,3],0))) (bd (α:=Bool) (br (kind_0 == 50) (ok ((kind_0 == 50))) (ok ((kind_0 == 51)))) fun x10=>br x10 (ok (([3],3))) (ok ((([]:List Int),0))))))))))))))))))))))
abbrev jl.g:Sg:=⟨[.i],[vb]⟩
def R.jl (kind_0:Int):Res (Bool) :=
 given (jl.g.i kind_0) (br (ile 1 kind_0) (br (ile kind_0 20) (ok true) (br (ile 30 kind_0) (ok ((ile kind_0 53))) (ok false))) (br (ile 30 kind_0) (ok ((ile kind_0 53))) (ok false)))
abbrev eU.g:Sg:=⟨[.i],[vb]⟩
def R.eU (kind_0:Int):Res (Bool) :=
 given (eU.g.i kind_0) (br (ile 2 kind_0) (br (ile kind_0 19) (br (!(kind_0 == 7)) (br (!(kind_0 == 11)) (ok ((!(kind_0 == 17)))) (ok false)) (ok false)) (ok false)) (ok false))
abbrev lB.g:Sg:=⟨[.i],[vb]⟩
def R.lB (kind_0:Int):Res (Bool) :=
 given (lB.g.i kind_0) (bd (R.eU kind_0) fun r1=>br r1 (br (!(kind_0 == 5)) (br (!(kind_0 == 6)) (ok ((!(kind_0 == 19)))) (ok false)) (ok false)) (ok false))
abbrev dn.g:Sg:=⟨[.i],[vb]⟩
def R.dn (kind_0:Int):Res (Bool) :=
 given (dn.g.i kind_0) (br (ile 30 kind_0) (br (ile kind_0 53) (ok ((!(kind_0 == 40)))) (ok false)) (ok false))
abbrev kn.g:Sg:=⟨[.i,.i],[vb]⟩
def R.kn (sort_0:Int) (kind_1:Int):Res (Bool) :=
 given (kn.g.i (sort_0,kind_1)) (br (sort_0 == 1) (bd (R.eU kind_1) fun r1=>ok r1) (br (sort_0 == 2) (bd (R.lB kind_1) fun r2=>ok r2) (br (sort_0 == 3) (bd (R.dn kind_1) fun r3=>ok r3) (br (sort_0 == 4) (bd (R.gF kind_1) fun r4=>ok r4) (br (sort_0 == 5) (ok ((kind_1 == 7))) (br (sort_0 == 6) (ok ((kind_1 == 20))) (br (sort_0 == 7) (ok ((kind_1 == 40))) (br (sort_0 == 8) (ok ((kind_1 == 4))) (br (sort_0 == 9) (br (kind_1 == 11) (ok true) (bd (R.dn kind_1) fun r5=>ok r5)) (br (sort_0 == 10) (br (kind_1 == 11) (ok true) (br (kind_1 == 5) (ok true) (br (kind_1 == 6) (ok true) (bd (R.dn kind_1) fun r6=>ok r6)))) (br (sort_0 == 11) (br (kind_1 == 11) (ok true) (ok ((kind_1 == 17)))) (br (sort_0 == 12) (br (kind_1 == 11) (ok true) (ok ((kind_1 == 4)))) (br (sort_0 == 13) (br (kind_1 == 4) (ok true) (bd (R.dn kind_1) fun r7=>ok r7)) (ok false))))))))))))))
abbrev iJ.g:Sg:=⟨[.val true (.bor lO),.i],[vb]⟩
def R.iJ (t_0:(List aF.den)) (n_1:Int):Res (Bool) :=
 given (iJ.g.i (t_0,n_1)) (bd (loop (α:=Int) (β:=Bool) (fun n1=>ct (.frz aF) t_0 n1 fun e2=>bd (α:=(Unit ⊕ Bool)) (br (e2.1 == 8) (br ((e2.2.2.2.2.2.length:Int) == 2) (ok (.inr true)) (ok (.inl ()))) (bd (α:=Bool) (br (e2.1 == 9) (ok ((e2.1 == 9))) (br (e2.1 == 10) (ok ((e2.1 == 10))) (ok ((e2.1 == 18))))) fun x3=>br x3 (ok (.inl ())) (ok (.inr false)))) fun x4=>sum x4 (fun x5=>br ((e2.2.2.2.2.2.length:Int) == 0) (ok (.done (false))) (idx (.int .i64) e2.2.2.2.2.2 (w6 ((e2.2.2.2.2.2.length:Int)-1)) fun e7=>ok (.next (e7)))) (fun z6=>ok (.done (z6)))) fuel n_1) fun x8=>ok x8)
abbrev jy.g:Sg:=⟨[.val true (.bor lO),.i],[vb]⟩
def R.jy (t_0:(List aF.den)) (n_1:Int):Res (Bool) :=
 given (jy.g.i (t_0,n_1)) (ct (.frz aF) t_0 n_1 fun e1=>cl (R.jO e1.1 (e1.2.2.2.2.2.length:Int)) jO.g.o fun r2=>bd (α:=Bool) (bd (R.jl e1.1) fun r3=>br (!r3) (ok true) (ok ((ilt (e1.2.2.2.2.2.length:Int) (r2.1.length:Int))))) fun x4=>br x4 (ok false) (bd (loop (α:=Int) (β:=(Unit ⊕ Bool)) (fun x5=>br (ilt x5 (e1.2.2.2.2.2.length:Int)) (idx (.int .i64) e1.2.2.2.2.2 x5 fun e6=>bd (α:=Int) (br (ilt x5 (r2.1.length:Int)) (ai (ile 0 x5 && ilt x5 r2.1.length) (idx (.int .i64) r2.1 (0+Int.toNat x5) fun e7=>ok e7)) (ok (r2.2))) fun sort8=>ct (.frz aF) t_0 e6 fun e9=>bd (R.kn sort8 e9.1) fun r10=>br (!r10) (ok (.done (.inr false))) (ok (.next (w6 (x5+1))))) (ok (.done (.inl ())))) fuel 0) fun x11=>sum x11 (fun x12=>br (e1.1 == 16) (idx (.int .i64) e1.2.2.2.2.2 1 fun e14=>ct (.frz aF) t_0 e14 fun e15=>br (e15.1 == 17) (ok true) (idx (.int .i64) e1.2.2.2.2.2 2 fun e16=>ct (.frz aF) t_0 e16 fun e17=>ok ((e17.1 == 4)))) (bd (α:=Bool) (br (e1.1 == 8) (ok (((e1.2.2.2.2.2.length:Int) == 3))) (ok false)) fun x18=>br x18 (idx (.int .i64) e1.2.2.2.2.2 1 fun e19=>bd (R.iJ t_0 e19) fun r20=>ok ((!r20))) (ok true))) (fun z13=>ok z13)))
abbrev lV.g:Sg:=⟨[.val true (.bor lO)],[vb]⟩
def R.lV (t_0:(List aF.den)):Res (Bool) :=
 given (lV.g.i t_0) (bd (α:=Bool) (br ((t_0.length:Int) == 0) (ok true) (br (ilt 4096 (t_0.length:Int)) (ok true) (ct (.frz aF) t_0 0 fun e1=>br (!(e1.1 == 1)) (ok true) (bd (R.jo t_0) fun r2=>ok ((!r2)))))) fun x3=>br x3 (ok false) (bd (loop (α:=Int) (β:=(Unit ⊕ Bool)) (fun x4=>br (ilt x4 (t_0.length:Int)) (bd (α:=Bool) (br (ilt 0 x4) (ct (.frz aF) t_0 x4 fun e5=>br (e5.1 == 1) (ok true) (ct (.frz aF) t_0 x4 fun e6=>bd (R.hJ e6) fun r7=>br (!r7) (ok true) (bd (R.jy t_0 x4) fun r8=>ok ((!r8))))) (ct (.frz aF) t_0 x4 fun e9=>bd (R.hJ e9) fun r10=>br (!r10) (ok true) (bd (R.jy t_0 x4) fun r11=>ok ((!r11))))) fun x12=>br x12 (ok (.done (.inr false))) (ok (.next (w6 (x4+1))))) (ok (.done (.inl ())))) fuel 0) fun x13=>sum x13 (fun x14=>cl (R.jC t_0) jC.g.o fun r16=>cl (R.eG r16) eG.g.o fun r17=>ok ((ile r17 48))) (fun z15=>ok z15)))
abbrev gH.g:Sg:=⟨[.val true (.bor lO)],[(false,(.own .i))]⟩
def R.gH (t_0:(List aF.den)):Res ((List Int)) :=
 given (gH.g.i t_0) (ai (ile 0 (t_0.length:Int) && (ile (t_0.length:Int) (t_0.length:Int) && decide ((Int.toNat (t_0.length:Int))*8<=2^47))) (ai (ile 0 0 && ilt 0 (List.replicate (Int.toNat (t_0.length:Int)) (0:Int)).length) (idx (.int .i64) (List.replicate (Int.toNat (t_0.length:Int)) (0:Int)) (0+Int.toNat 0) fun e1=>bd (loop (α:=(Int×(List Int))) (β:=(List Int)) (fun x2=>br (ilt x2.1 (t_0.length:Int)) (ct (.frz aF) t_0 x2.1 fun e3=>bd (loop (α:=(Int×(List Int))) (β:=(List Int)) (fun x4=>br (ilt x4.1 (e3.2.2.2.2.2.length:Int)) (idx (.int .i64) e3.2.2.2.2.2 x4.1 fun e5=>ai (ile 0 e5 && ilt e5 x4.2.length) (idx (.int .i64) x4.2 (0+Int.toNat e5) fun e6=>ok (.next ((w6 (x4.1+1),(List.set x4.2 (0+Int.toNat e5) x2.1)))))) (ok (.done (x4.2)))) fuel (0,x2.2)) fun x7=>ok (.next ((w6 (x2.1+1),x7)))) (ok (.done (x2.2)))) fuel (0,(List.set (List.replicate (Int.toNat (t_0.length:Int)) (0:Int)) (0+Int.toNat 0) (-1)))) fun x8=>ok x8)))
abbrev fY.g:Sg:=⟨[.i],[vb]⟩
def R.fY (kind_0:Int):Res (Bool) :=
 given (fY.g.i kind_0) (br (kind_0 == 5) (ok true) (ok ((kind_0 == 6))))
abbrev gi.g:Sg:=⟨[.val true (.bor lO),.i],[(false,(.own .s))]⟩
def R.gi (t_0:(List aF.den)) (n_1:Int):Res ((List (List UInt8))) :=
 given (gi.g.i (t_0,n_1)) (ct (.frz aF) t_0 n_1 fun e1=>bd (loop (α:=((List (List UInt8))×Int)) (β:=(List (List UInt8))) (fun l2=>br (ilt l2.2 (e1.2.2.2.2.2.length:Int)) (idx (.int .i64) e1.2.2.2.2.2 l2.2 fun e3=>ct (.frz aF) t_0 e3 fun e4=>ai (decide ((l2.1.length+[e4.2.1].length)*16<=2^47)) (ok (.next (((l2.1++[e4.2.1]),w6 (l2.2+1)))))) (ok (.done (l2.1)))) fuel (([]:List (List UInt8)),0)) fun l5=>ok l5)
abbrev eJ.g:Sg:=⟨[.i],[vb]⟩
def R.eJ (kind_0:Int):Res (Bool) :=
 given (eJ.g.i kind_0) (br (kind_0 == 19) (ok true) (br (kind_0 == 41) (ok true) (ok ((kind_0 == 42)))))
end Go.Mach
end

set_option linter.unusedVariables false
set_option maxRecDepth 20000
noncomputable section
namespace Go.Mach
open Res
abbrev eX.g:Sg:=⟨[.val true (.bor lO),.i],[(false,(.own .s))]⟩
def R.eX (t_0:(List aF.den)) (n_1:Int):Res ((List (List UInt8))) :=
 given (eX.g.i (t_0,n_1)) (ct (.frz aF) t_0 n_1 fun e1=>bd (α:=Bool) (br (e1.1 == 1) (ok true) (ok ((e1.1 == 4)))) fun x2=>br x2 (bd (loop (α:=((List (List UInt8))×Int)) (β:=(List (List UInt8))) (fun l3=>br (ilt l3.2 (e1.2.2.2.2.2.length:Int)) (idx (.int .i64) e1.2.2.2.2.2 l3.2 fun e4=>ct (.frz aF) t_0 e4 fun e5=>bd (R.fY e5.1) fun r6=>br r6 (cl (R.gi t_0 e4) gi.g.o fun r7=>ai (decide ((l3.1.length+r7.length)*16<=2^47)) (ok (.next (((l3.1++r7),w6 (l3.2+1)))))) (br (e5.1 == 19) (ai (decide ((l3.1.length+[e5.2.1].length)*16<=2^47)) (ok (.next (((l3.1++[e5.2.1]),w6 (l3.2+1)))))) (ok (.next ((l3.1,w6 (l3.2+1))))))) (ok (.done (l3.1)))) fuel (([]:List (List UInt8)),0)) fun l8=>ok l8) (bd (α:=Bool) (br (e1.1 == 10) (idx (.int .i64) e1.2.2.2.2.2 0 fun e9=>ct (.frz aF) t_0 e9 fun e10=>bd (R.fY e10.1) fun r11=>ok r11) (ok false)) fun x12=>br x12 (idx (.int .i64) e1.2.2.2.2.2 0 fun e13=>cl (R.gi t_0 e13) gi.g.o fun r14=>ok r14) (bd (α:=Bool) (br (e1.1 == 17) (ok ((!(e1.2.1 == ([]:List UInt8))))) (ok false)) fun x15=>br x15 (ok ([e1.2.1])) (bd (R.eJ e1.1) fun r16=>br r16 (bd (loop (α:=((List (List UInt8))×Int)) (β:=(List (List UInt8))) (fun l17=>br (ilt l17.2 (e1.2.2.2.2.2.length:Int)) (idx (.int .i64) e1.2.2.2.2.2 l17.2 fun e18=>ct (.frz aF) t_0 e18 fun e19=>br (e19.1 == 20) (ct (.frz aF) t_0 e18 fun e20=>ai (decide ((l17.1.length+[e20.2.1].length)*16<=2^47)) (ok (.next (((l17.1++[e20.2.1]),w6 (l17.2+1)))))) (ok (.next ((l17.1,w6 (l17.2+1)))))) (ok (.done (l17.1)))) fuel (([]:List (List UInt8)),0)) fun l21=>ok l21) (ok (([]:List (List UInt8))))))))
abbrev i7.g:Sg:=⟨[.val false (.bor (.own .s))],[vb]⟩
def R.i7 (l_0:(List (List UInt8))):Res (Bool) :=
 given (i7.g.i l_0) (bd (loop (α:=Int) (β:=(Unit ⊕ Bool)) (fun x1=>br (ilt x1 (l_0.length:Int)) (ct .s l_0 x1 fun e2=>ai (ile 0 x1 && ile x1 l_0.length) (bd (R.aQ (List.take (Int.toNat x1) (List.drop 0 l_0)) e2) fun r3=>br r3 (ok (.done (.inr true))) (ok (.next (w6 (x1+1)))))) (ok (.done (.inl ())))) fuel 0) fun x4=>sum x4 (fun x5=>ok false) (fun z6=>ok z6))
abbrev gg.g:Sg:=⟨[.s,.val false (.bor (.box (.own .s)))],[vb]⟩
def R.gg (s_0:(List UInt8)) (a_1:(List (List UInt8))):Res (Bool) :=
 given (gg.g.i (s_0,a_1)) (bd (R.aQ a_1 s_0) fun r1=>ok r1)
abbrev ay.g:Sg:=⟨[.val false (.bor (.own .s)),.val false (.bor (.clo 134 (.box (.own .s))))],[vi]⟩
def R.ay (s_0:(List (List UInt8))) (f_1:(List (List UInt8))):Res (Int) :=
 given (ay.g.i (s_0,f_1)) (bd (loop (α:=Int) (β:=(Unit ⊕ Int)) (fun x1=>br (ilt x1 (s_0.length:Int)) (ct .s s_0 x1 fun e2=>bd (R.gg e2 f_1) fun r3=>br r3 (ok (.done (.inr x1))) (ok (.next (w6 (x1+1))))) (ok (.done (.inl ())))) fuel 0) fun x4=>sum x4 (fun x5=>ok ((-1))) (fun z6=>ok z6))
abbrev al.g:Sg:=⟨[.val false (.bor (.own .s)),.val false (.bor (.clo 134 (.box (.own .s))))],[vb]⟩
def R.al (s_0:(List (List UInt8))) (f_1:(List (List UInt8))):Res (Bool) :=
 given (al.g.i (s_0,f_1)) (cl (R.ay s_0 f_1) ay.g.o fun r1=>ok ((ile 0 r1)))
abbrev i6.g:Sg:=⟨[.val true (.bor lO),.i,.i],[vb]⟩
def R.i6 (t_0:(List aF.den)) (n_1:Int) (parent_2:Int):Res (Bool) :=
 given (i6.g.i (t_0,(n_1,parent_2))) (bd (α:=Bool) (br (ilt parent_2 0) (ok true) (ct (.frz aF) t_0 n_1 fun e1=>br (!(e1.1 == 4)) (ok true) (ct (.frz aF) t_0 parent_2 fun e2=>bd (R.eJ e2.1) fun r3=>br (!r3) (ct (.frz aF) t_0 parent_2 fun e4=>ok ((!(e4.1 == 17)))) (ok false)))) fun x5=>br x5 (ok false) (cl (R.eX t_0 parent_2) eX.g.o fun r6=>cl (R.eX t_0 n_1) eX.g.o fun r7=>bd (R.al r7 r6) fun r8=>ok r8))
abbrev fJ.g:Sg:=⟨[.val true (.bor lO),.val false (.bor (.own .i)),.i],[(false,(.own .i)),vi]⟩
def R.fJ (t_0:(List aF.den)) (up_1:(List Int)) (n_2:Int):Res (((List Int)×Int)) :=
 given (fJ.g.i (t_0,(up_1,n_2))) (ct .i up_1 n_2 fun e1=>bd (loop (α:=(Int×(List Int))) (β:=((List Int) ⊕ ((List Int)×Int))) (fun n2=>br (ile 0 n2.1) (ct (.frz aF) t_0 n2.1 fun e3=>bd (R.eJ e3.1) fun r4=>br r4 (ok (.done (.inr (n2.2,n2.1)))) (ai (decide ((n2.2.length+[n2.1].length)*8<=2^47)) (ct .i up_1 n2.1 fun e5=>ok (.next ((e5,(n2.2++[n2.1]))))))) (ok (.done (.inl n2.2)))) fuel (e1,([]:List Int))) fun l6=>sum l6 (fun l7=>ok ((l7,(-1)))) (fun z8=>ok z8))
abbrev gx.g:Sg:=⟨[.i,.val false (.bor pY),.val false (.bor (.box (.seq .i (.seq .s (.seq (.own .h) (.seq .i (.seq .i (.seq .b (.seq (.own .w) (.own .i))))))))))],[vb]⟩
def R.gx (k_0:Int) (a_1:(List aF.den)) (a_2:(Int×((List UInt8)×((List Int)×(Int×(Int×(Bool×((List Int)×(List Int))))))))):Res (Bool) :=
 given (gx.g.i (k_0,(a_1,a_2))) (ct (.frz aF) a_1 k_0 fun e1=>br (e1.1 == 18) (ct (.frz aF) a_1 k_0 fun e2=>ok ((e2.2.1 == a_2.2.1))) (ok false))
abbrev bC.g:Sg:=⟨[.val false (.bor (.own .i)),.val false (.bor (.clo 95 (.seq pY (.box (.seq .i (.seq .s (.seq (.own .h) (.seq .i (.seq .i (.seq .b (.seq (.own .w) (.own .i))))))))))))],[vi]⟩
def R.bC (s_0:(List Int)) (f_1:((List aF.den)×(Int×((List UInt8)×((List Int)×(Int×(Int×(Bool×((List Int)×(List Int)))))))))):Res (Int) :=
 given (bC.g.i (s_0,f_1)) (bd (loop (α:=Int) (β:=(Unit ⊕ Int)) (fun x1=>br (ilt x1 (s_0.length:Int)) (ct .i s_0 x1 fun e2=>bd (R.gx e2 f_1.1 f_1.2) fun r3=>br r3 (ok (.done (.inr x1))) (ok (.next (w6 (x1+1))))) (ok (.done (.inl ())))) fuel 0) fun x4=>sum x4 (fun x5=>ok ((-1))) (fun z6=>ok z6))
abbrev ax.g:Sg:=⟨[.val false (.bor (.own .i)),.val false (.bor (.clo 95 (.seq pY (.box (.seq .i (.seq .s (.seq (.own .h) (.seq .i (.seq .i (.seq .b (.seq (.own .w) (.own .i))))))))))))],[vb]⟩
def R.ax (s_0:(List Int)) (f_1:((List aF.den)×(Int×((List UInt8)×((List Int)×(Int×(Int×(Bool×((List Int)×(List Int)))))))))):Res (Bool) :=
 given (ax.g.i (s_0,f_1)) (cl (R.bC s_0 f_1) bC.g.o fun r1=>ok ((ile 0 r1)))
abbrev jM.g:Sg:=⟨[.i],[vb]⟩
def R.jM (kind_0:Int):Res (Bool) :=
 given (jM.g.i kind_0) (br (kind_0 == 9) (ok true) (ok ((kind_0 == 10))))
abbrev fV.g:Sg:=⟨[.val true (.bor lO),.i],[vi]⟩
def R.fV (t_0:(List aF.den)) (n_1:Int):Res (Int) :=
 given (fV.g.i (t_0,n_1)) (bd (loop (α:=Int) (β:=Int) (fun n1=>ct (.frz aF) t_0 n1 fun e2=>br (e2.1 == 18) (ct (.frz aF) t_0 n1 fun e3=>idx (.int .i64) e3.2.2.2.2.2 0 fun e4=>ok (.next (e4))) (ok (.done (n1)))) fuel n_1) fun n5=>ct (.frz aF) t_0 n5 fun e6=>ok (e6.1))
abbrev iz.g:Sg:=⟨[.val true (.bor lO),.val true (.bor (.seq .i (.seq .s (.seq (.own .h) (.seq (.frz aI) (.seq (.seq .b (.own .w)) (.own .i))))))),.val false (.bor (.own .i))],[vb]⟩
def R.iz (t_0:(List aF.den)) (x_1:aF.den) (l_2:(List Int)):Res (Bool) :=
 given (iz.g.i (t_0,(x_1,l_2))) (bd (loop (α:=Int) (β:=(Unit ⊕ Bool)) (fun x1=>br (ilt x1 (l_2.length:Int)) (ct .i l_2 x1 fun e2=>ct (.frz aF) t_0 e2 fun e3=>bd (α:=Bool) (br (x_1.2.1 == ([]:List UInt8)) (bd (R.jM e3.1) fun r4=>ok r4) (ok false)) fun x5=>br x5 (ok (.done (.inr true))) (bd (α:=Bool) (br (!(x_1.2.1 == ([]:List UInt8))) (br (e3.1 == 18) (ok ((e3.2.1 == x_1.2.1))) (ok false)) (ok false)) fun x6=>br x6 (br (x_1.1 == 12) (ok (.done (.inr true))) (cl (R.fV t_0 e2) fV.g.o fun r7=>bd (R.jM r7) fun r8=>ok (.done (.inr r8)))) (ok (.next (w6 (x1+1)))))) (ok (.done (.inl ())))) fuel 0) fun x9=>sum x9 (fun x10=>ok false) (fun z11=>ok z11))
abbrev iy.g:Sg:=⟨[.val true (.bor lO),.val false (.bor (.own .i)),.i],[vb]⟩
def R.iy (t_0:(List aF.den)) (up_1:(List Int)) (n_2:Int):Res (Bool) :=
 given (iy.g.i (t_0,(up_1,n_2))) (ct (.frz aF) t_0 n_2 fun e1=>bd (α:=Bool) (cl (R.eX t_0 n_2) eX.g.o fun r2=>bd (R.i7 r2) fun r3=>br r3 (ok true) (ct .i up_1 n_2 fun e4=>bd (R.i6 t_0 n_2 e4) fun r5=>ok r5)) fun x6=>br x6 (ok true) (br (e1.1 == 7) (ct .i up_1 n_2 fun e7=>ct (.frz aF) t_0 e7 fun e8=>br (e8.1 == 6) (ok (((e1.2.2.2.2.2.length:Int) == 0))) (ok false)) (br (e1.1 == 18) (cl (R.fJ t_0 up_1 n_2) fJ.g.o fun r9=>bd (R.ax r9.1 (t_0,(e1.1,(e1.2.1,(e1.2.2.1,(e1.2.2.2.1.1,(e1.2.2.2.1.2,(e1.2.2.2.2.1.1,(e1.2.2.2.2.1.2,e1.2.2.2.2.2))))))))) fun r10=>ok r10) (bd (α:=Bool) (br (e1.1 == 12) (ok ((e1.1 == 12))) (ok ((e1.1 == 13)))) fun x11=>br x11 (cl (R.fJ t_0 up_1 n_2) fJ.g.o fun r12=>bd (R.iz t_0 e1 r12.1) fun r13=>ok ((!r13))) (br (e1.1 == 14) (cl (R.fJ t_0 up_1 n_2) fJ.g.o fun r14=>ok ((ilt r14.2 0))) (ok false))))))
abbrev gE.g:Sg:=⟨[.val true (.bor lO)],[vi,vi]⟩
def R.gE (t_0:(List aF.den)):Res ((Int×Int)) :=
 given (gE.g.i t_0) (bd (R.lV t_0) fun r1=>br (!r1) (ok ((0,2))) (cl (R.gH t_0) gH.g.o fun r2=>bd (loop (α:=Int) (β:=(Unit ⊕ (Int×Int))) (fun x3=>br (ilt x3 (t_0.length:Int)) (bd (R.iy t_0 r2 x3) fun r4=>br r4 (ok (.done (.inr (x3,5)))) (ok (.next (w6 (x3+1))))) (ok (.done (.inl ())))) fuel 0) fun x5=>sum x5 (fun x6=>ok ((0,0))) (fun z7=>ok z7)))
abbrev ic.g:Sg:=⟨[.val false (.bor (.own .y))],[(true,(.frz (.list aF))),vi,vi]⟩
def R.ic (source_0:(List Int)):Res (((List aF.den)×(Int×Int))) :=
 given (ic.g.i source_0) (cl (R.kL source_0) kL.g.o fun r1=>br (!(r1.2.2 == 0)) (ok ((([]:List aF.den),r1.2))) (cl (R.jX r1.1) jX.g.o fun r2=>br (!(r2.2.2 == 0)) (ok ((([]:List aF.den),r2.2))) (cl (R.gE r2.1) gE.g.o fun r3=>br (!(r3.2 == 0)) (ok ((([]:List aF.den),r3))) (ok ((r2.1,(0,0)))))))
abbrev jc.g:Sg:=⟨[.val true (.frz dy)],[vb]⟩
def R.jc (lim_0:dy.den):Res (Bool) :=
 given (jc.g.i lim_0) (br (ile 0 lim_0.1) (br (ile lim_0.1 4096) (br (ile 1 lim_0.2.1) (br (ile lim_0.2.1 200) (br (ile 0 lim_0.2.2) (ok ((ile lim_0.2.2 100000))) (ok false)) (ok false)) (ok false)) (ok false)) (ok false))
abbrev lG.g:Sg:=⟨[.i],[(false,eW)]⟩
def R.lG (room_0:Int):Res (eW.den) :=
 given (lG.g.i room_0) (ok (((kv (pH room_0 0) 4096),([]:List jZ.den))))
abbrev di.g:Sg:=⟨[.val true (.bor (.seq .i (.seq (.frz aI) (.seq (.seq .b (.own .w)) (.seq (.own .h) .i)))))],[(true,(.frz aC))]⟩
def R.di (v_0:aC.den):Res (aC.den) :=
 given (di.g.i v_0) (bd (ok v_0.2.2.1.2) fun r1=>given (mi (.int .u32) r1) (bd (ok v_0.2.2.2.1) fun r2=>given (mi (.int .u16) r2) (ok ((v_0.1,(v_0.2.1,((v_0.2.2.1.1,r1),(r2,v_0.2.2.2.2))))))))
abbrev gR.g:Sg:=⟨[.val true (.bor (.seq .i (.seq .i (.seq (.own (.frz bQ)) (.seq (.own (.frz bJ)) (.seq .s (.seq .i (.seq .i (.seq (.seq .i (.seq (.frz aI) (.seq (.seq .b (.own .w)) (.seq (.own .h) .i)))) (.seq .i (.seq .i (.seq .i (.seq .i (.own .y))))))))))))))],[(true,kh)]⟩
def R.gR (c_0:jZ.den):Res (kh.den) :=
 given (gR.g.i c_0) (bd (ai (decide ((0+c_0.2.2.1.length)*112<=2^47)) (ok c_0.2.2.1)) fun r1=>given (mi bQ r1) (bd (ai (decide ((0+c_0.2.2.2.1.length)*112<=2^47)) (ok c_0.2.2.2.1)) fun r2=>given (mi bJ r2) (bd (ok c_0.2.2.2.2.2.2.2.2.2.2.2.2) fun r3=>given (mi (.int .u8) r3) (cl (R.di c_0.2.2.2.2.2.2.2.1) di.g.o fun r4=>bd (loop (α:=(Int×(List bQ.den))) (β:=(List bQ.den)) (fun x5=>br (ilt x5.1 (r1.length:Int)) (ai (ile 0 x5.1 && ilt x5.1 x5.2.length) (idx bQ x5.2 (0+Int.toNat x5.1) fun e6=>bd (ok e6.1) fun r7=>given (mi (.int .u16) r7) (cl (R.di e6.2) di.g.o fun r8=>ai (ile 0 x5.1 && ilt x5.1 x5.2.length) (idx bQ x5.2 (0+Int.toNat x5.1) fun e9=>ok (.next ((w6 (x5.1+1),(List.set x5.2 (0+Int.toNat x5.1) (r7,r8))))))))) (ok (.done (x5.2)))) fuel (0,r1)) fun x10=>bd (loop (α:=(Int×(List bJ.den))) (β:=(List bJ.den)) (fun x11=>br (ilt x11.1 (r2.length:Int)) (ai (ile 0 x11.1 && ilt x11.1 x11.2.length) (idx bJ x11.2 (0+Int.toNat x11.1) fun e12=>cl (R.di e12.2.1) di.g.o fun r13=>ai (ile 0 x11.1 && ilt x11.1 x11.2.length) (idx bJ x11.2 (0+Int.toNat x11.1) fun e14=>ok (.next ((w6 (x11.1+1),(List.set x11.2 (0+Int.toNat x11.1) (e14.1,(r13,e14.2.2))))))))) (ok (.done (x11.2)))) fuel (0,r2)) fun x15=>ok ((c_0.1,(c_0.2.1,(x10,(x15,(c_0.2.2.2.2.1,(c_0.2.2.2.2.2.1,(c_0.2.2.2.2.2.2.1,(r4,(c_0.2.2.2.2.2.2.2.2.1,(c_0.2.2.2.2.2.2.2.2.2.1,(c_0.2.2.2.2.2.2.2.2.2.2.1,(c_0.2.2.2.2.2.2.2.2.2.2.2.1,r3)))))))))))))))))
abbrev eF.g:Sg:=⟨[.obj eW,.val true (.bor (.seq .i (.seq .i (.seq (.own (.frz bQ)) (.seq (.own (.frz bJ)) (.seq .s (.seq .i (.seq .i (.seq (.seq .i (.seq (.frz aI) (.seq (.seq .b (.own .w)) (.seq (.own .h) .i)))) (.seq .i (.seq .i (.seq .i (.seq .i (.own .y))))))))))))))],[vi,vb]⟩
def R.eF (h_0:eW.den) (c_1:jZ.den):Res ((Int×Bool)×eW.den) :=
 given (eF.g.i (h_0,c_1)) (br (ile h_0.1 (h_0.2.length:Int)) (ok (((0,false),h_0))) (cl (R.gR c_1) gR.g.o fun r1=>ai (decide ((h_0.2.length+[r1].length)*240<=2^47)) (ok (((w6 (((h_0.2++[r1]).length:Int)-1),true),(h_0.1,(h_0.2++[r1])))))))
abbrev bl.g:Sg:=⟨[.obj aG,.i],[vi]⟩
def R.bl (r_0:aG.den) (kind_1:Int):Res (Int×aG.den) :=
 given (bl.g.i (r_0,kind_1)) (ok ((5,(r_0.1,(r_0.2.1,(r_0.2.2.1,(r_0.2.2.2.1,(r_0.2.2.2.2.1,(r_0.2.2.2.2.2.1,(r_0.2.2.2.2.2.2.1,(r_0.2.2.2.2.2.2.2.1,(kind_1,([]:List Int)))))))))))))
abbrev aT.g:Sg:=⟨[.obj aG,.val true (.bor (.seq .i (.seq .i (.seq (.own (.frz bQ)) (.seq (.own (.frz bJ)) (.seq .s (.seq .i (.seq .i (.seq (.seq .i (.seq (.frz aI) (.seq (.seq .b (.own .w)) (.seq (.own .h) .i)))) (.seq .i (.seq .i (.seq .i (.seq .i (.own .y))))))))))))))],[(true,(.frz aC)),vi]⟩
def R.aT (r_0:aG.den) (c_1:jZ.den):Res ((aC.den×Int)×aG.den) :=
 given (aT.g.i (r_0,c_1)) (cl (R.eF r_0.2.2.2.2.1 c_1) eF.g.o fun r1=>br (!r1.1.2) (cl (R.bl (r_0.1,(r_0.2.1,(r_0.2.2.1,(r_0.2.2.2.1,(r1.2,r_0.2.2.2.2.2))))) 4) bl.g.o fun r2=>ok (((zV,r2.1),r2.2))) (ok ((((6,((0,0),((false,([]:List Int)),(([]:List Int),r1.1.1)))),0),(r_0.1,(r_0.2.1,(r_0.2.2.1,(r_0.2.2.2.1,(r1.2,r_0.2.2.2.2.2)))))))))
abbrev bS.g:Sg:=⟨[.obj aG,.i],[vi,vi]⟩
def R.bS (r_0:aG.den) (around_1:Int):Res ((Int×Int)×aG.den) :=
 given (bS.g.i (r_0,around_1)) (cl (R.aT r_0 (9,(0,(([]:List bQ.den),(([]:List bJ.den),(([]:List UInt8),(0,(around_1,(zV,(0,(0,(0,(0,([]:List Int)))))))))))))) aT.g.o fun r1=>ok (((r1.1.1.2.2.2.2,r1.1.2),r1.2)))
abbrev av.g:Sg:=⟨[.val false (.bor eW),.i],[vb]⟩
def R.av (h_0:iB.den) (ref_1:Int):Res (Bool) :=
 given (av.g.i (h_0,ref_1)) (br (ile 0 ref_1) (ok ((ilt ref_1 (h_0.2.length:Int)))) (ok false))
abbrev fR.g:Sg:=⟨[.val true (.bor (.seq .s (.seq (.seq .i (.seq (.frz aI) (.seq (.seq .b (.own .w)) (.seq (.own .h) .i)))) (.seq .b .b)))),.val false (.bor (.box .s))],[vb]⟩
def R.fR (s_0:bJ.den) (a_1:(List UInt8)):Res (Bool) :=
 given (fR.g.i (s_0,a_1)) (ok ((s_0.1 == a_1)))
abbrev aa.g:Sg:=⟨[.val false (.bor (.own (.frz bJ))),.val false (.bor (.clo 190 (.box .s)))],[vi]⟩
def R.aa (s_0:(List bJ.den)) (f_1:(List UInt8)):Res (Int) :=
 given (aa.g.i (s_0,f_1)) (bd (loop (α:=Int) (β:=(Unit ⊕ Int)) (fun x1=>br (ilt x1 (s_0.length:Int)) (ct (.frz bJ) s_0 x1 fun e2=>bd (R.fR e2 f_1) fun r3=>br r3 (ok (.done (.inr x1))) (ok (.next (w6 (x1+1))))) (ok (.done (.inl ())))) fuel 0) fun x4=>sum x4 (fun x5=>ok ((-1))) (fun z6=>ok z6))
abbrev cX.g:Sg:=⟨[.val false (.bor eW),.i,.s],[vi]⟩
def R.cX (h_0:iB.den) (scope_1:Int) (name_2:(List UInt8)):Res (Int) :=
 given (cX.g.i (h_0,(scope_1,name_2))) (ct kh h_0.2 scope_1 fun e1=>cl (R.aa e1.2.2.2.1 name_2) aa.g.o fun r2=>ok r2)
abbrev bA.g:Sg:=⟨[.obj eW,.i,.s,.val true (.bor (.seq .i (.seq (.frz aI) (.seq (.seq .b (.own .w)) (.seq (.own .h) .i))))),.b,.b],[vb]⟩
def R.bA (h_0:eW.den) (scope_1:Int) (name_2:(List UInt8)) (v_3:aC.den) (ready_4:Bool) (fixed_5:Bool):Res (Bool×eW.den) :=
 given (bA.g.i (h_0,(scope_1,(name_2,(v_3,(ready_4,fixed_5)))))) (bd (α:=Bool) (bd (R.av h_0 scope_1) fun r1=>br (!r1) (ok true) (cl (R.cX h_0 scope_1 name_2) cX.g.o fun r2=>ok ((ile 0 r2)))) fun x3=>br x3 (ok ((false,h_0))) (ct kh h_0.2 scope_1 fun e4=>ai ((Int.toNat scope_1) == (Int.toNat scope_1)) (cl (R.di v_3) di.g.o fun r5=>ai (decide ((e4.2.2.2.1.length+[(name_2,(r5,(ready_4,fixed_5)))].length)*112<=2^47)) (ai ((Int.toNat scope_1) == (Int.toNat scope_1)) (ok ((true,(h_0.1,(List.set h_0.2 (Int.toNat scope_1) (e4.1,(e4.2.1,(e4.2.2.1,((e4.2.2.2.1++[(name_2,(r5,(ready_4,fixed_5)))]),e4.2.2.2.2)))))))))))))
abbrev ee.g:Sg:=⟨[.val true (.bor (.seq (.own .h) (.seq .i (.seq (.frz aI) (.seq (.seq .b (.own .w)) (.seq (.own .h) .i)))))),.val false (.bor (.box (.own .h)))],[vb]⟩
def R.ee (p_0:bQ.den) (a_1:(List Int)):Res (Bool) :=
 given (ee.g.i (p_0,a_1)) (bd (R.gn p_0.1 a_1) fun r1=>ok r1)
abbrev aZ.g:Sg:=⟨[.val false (.bor (.own (.frz bQ))),.val false (.bor (.clo 228 (.box (.own .h))))],[vi]⟩
def R.aZ (s_0:(List bQ.den)) (f_1:(List Int)):Res (Int) :=
 given (aZ.g.i (s_0,f_1)) (bd (loop (α:=Int) (β:=(Unit ⊕ Int)) (fun x1=>br (ilt x1 (s_0.length:Int)) (ct (.frz bQ) s_0 x1 fun e2=>bd (R.ee e2 f_1) fun r3=>br r3 (ok (.done (.inr x1))) (ok (.next (w6 (x1+1))))) (ok (.done (.inl ())))) fuel 0) fun x4=>sum x4 (fun x5=>ok ((-1))) (fun z6=>ok z6))
abbrev cm.g:Sg:=⟨[.val false (.bor eW),.i,.val false (.bor (.own .h))],[vi]⟩
def R.cm (h_0:iB.den) (ref_1:Int) (key_2:(List Int)):Res (Int) :=
 given (cm.g.i (h_0,(ref_1,key_2))) (ct kh h_0.2 ref_1 fun e1=>cl (R.aZ e1.2.2.1 key_2) aZ.g.o fun r2=>ok r2)
abbrev bU.g:Sg:=⟨[.obj eW,.i,.val false (.bor (.own .h)),.val true (.bor (.seq .i (.seq (.frz aI) (.seq (.seq .b (.own .w)) (.seq (.own .h) .i)))))],[vb]⟩
def R.bU (h_0:eW.den) (ref_1:Int) (key_2:(List Int)) (v_3:aC.den):Res (Bool×eW.den) :=
 given (bU.g.i (h_0,(ref_1,(key_2,v_3)))) (bd (R.av h_0 ref_1) fun r1=>br (!r1) (ok ((false,h_0))) (ct kh h_0.2 ref_1 fun e2=>cl (R.cm (h_0.1,(List.set h_0.2 (Int.toNat ref_1) e2)) ref_1 key_2) cm.g.o fun r3=>br (ile 0 r3) (ai ((Int.toNat ref_1) == (Int.toNat ref_1)) (cl (R.di v_3) di.g.o fun r4=>ai (ile 0 r3 && ilt r3 e2.2.2.1.length) (idx bQ e2.2.2.1 (0+Int.toNat r3) fun e5=>ok ((true,(h_0.1,(List.set h_0.2 (Int.toNat ref_1) (e2.1,(e2.2.1,((List.set e2.2.2.1 (0+Int.toNat r3) (e5.1,r4)),e2.2.2.2)))))))))) (ai ((Int.toNat ref_1) == (Int.toNat ref_1)) (bd (ok key_2) fun r6=>given (mi (.int .u16) r6) (cl (R.di v_3) di.g.o fun r7=>ai (decide ((e2.2.2.1.length+[(r6,r7)].length)*112<=2^47)) (ai ((Int.toNat ref_1) == (Int.toNat ref_1)) (ok ((true,(h_0.1,(List.set h_0.2 (Int.toNat ref_1) (e2.1,(e2.2.1,((e2.2.2.1++[(r6,r7)]),e2.2.2.2))))))))))))))
abbrev cQ.g:Sg:=⟨[.obj eW,.i,.s,.val true (.bor (.seq .i (.seq (.frz aI) (.seq (.seq .b (.own .w)) (.seq (.own .h) .i))))),.b],[vb]⟩
def R.cQ (h_0:eW.den) (scope_1:Int) (name_2:(List UInt8)) (v_3:aC.den) (ready_4:Bool):Res (Bool×eW.den) :=
 given (cQ.g.i (h_0,(scope_1,(name_2,(v_3,ready_4))))) (bd (R.av h_0 scope_1) fun r1=>br (!r1) (ok ((false,h_0))) (cl (R.cX h_0 scope_1 name_2) cX.g.o fun r2=>br (ilt r2 0) (ok ((false,h_0))) (ct kh h_0.2 scope_1 fun e3=>ai ((Int.toNat scope_1) == (Int.toNat scope_1)) (ai (ile 0 r2 && ilt r2 e3.2.2.2.1.length) (cl (R.di v_3) di.g.o fun r4=>idx bJ e3.2.2.2.1 (0+Int.toNat r2) fun e5=>idx bJ (List.set e3.2.2.2.1 (0+Int.toNat r2) (e5.1,(r4,e5.2.2))) (0+Int.toNat r2) fun e6=>ok ((true,(h_0.1,(List.set h_0.2 (Int.toNat scope_1) (e3.1,(e3.2.1,(e3.2.2.1,((List.set (List.set e3.2.2.2.1 (0+Int.toNat r2) (e5.1,(r4,e5.2.2))) (0+Int.toNat r2) (e6.1,(e6.2.1,(ready_4,e6.2.2.2)))),e3.2.2.2.2)))))))))))))
abbrev cG.g:Sg:=⟨[.obj aG,.i,.val true (.frz aO)],[(true,(.frz aC)),vi]⟩
def R.cG (r_0:aG.den) (n_1:Int) (e_2:aO.den):Res ((aC.den×Int)×aG.den) :=
 given (cG.g.i (r_0,(n_1,e_2))) (idx aF r_0.1 n_1 fun e1=>bd (α:=Bool) (br (e1.1 == 41) (ok ((!(e1.2.1 == ([]:List UInt8))))) (ok false)) fun own2=>bd (α:=((aG.den×jZ.den) ⊕ (Int×(aG.den×aC.den)))) (br own2 (cl (R.bS r_0 e_2.1) bS.g.o fun r3=>br (!(r3.1.2 == 0)) (ok (.inr (r3.1.2,(r3.2,zV)))) (cl (R.bA r3.2.2.2.2.2.1 r3.1.1 e1.2.1 zV false true) bA.g.o fun r4=>ok (.inl ((r3.2.1,(r3.2.2.1,(r3.2.2.2.1,(r3.2.2.2.2.1,(r4.2,r3.2.2.2.2.2.2))))),(3,(0,(([]:List bQ.den),(([]:List bJ.den),(([]:List UInt8),(n_1,(r3.1.1,(zV,(0,(0,(0,(0,([]:List Int))))))))))))))))) (ok (.inl (r_0,(3,(0,(([]:List bQ.den),(([]:List bJ.den),(([]:List UInt8),(n_1,(e_2.1,(zV,(0,(0,(0,(0,([]:List Int))))))))))))))))) fun x5=>sum x5 (fun x6=>bd (α:=jZ.den) (bd (α:=Bool) (br (e1.1 == 42) (ok (e_2.2.2)) (ok false)) fun x8=>br x8 (ok ((x6.2.1,(x6.2.2.1,(x6.2.2.2.1,(x6.2.2.2.2.1,(x6.2.2.2.2.2.1,(x6.2.2.2.2.2.2.1,(x6.2.2.2.2.2.2.2.1,(e_2.2.1,(1,x6.2.2.2.2.2.2.2.2.2.2))))))))))) (br (e1.1 == 42) (ok ((x6.2.1,(x6.2.2.1,(x6.2.2.2.1,(x6.2.2.2.2.1,(x6.2.2.2.2.2.1,(x6.2.2.2.2.2.2.1,(x6.2.2.2.2.2.2.2.1,(x6.2.2.2.2.2.2.2.2.1,(2,x6.2.2.2.2.2.2.2.2.2.2))))))))))) (ok (x6.2)))) fun x9=>cl (R.aT x6.1 x9) aT.g.o fun r10=>bd (α:=Bool) (br (!(r10.1.2 == 0)) (ok true) (ok ((e1.1 == 42)))) fun x11=>br x11 (ok r10) (cl (R.aT r10.2 (1,((-1),(([]:List bQ.den),(([]:List bJ.den),(([]:List UInt8),(0,(0,(zV,(0,(0,(0,(0,([]:List Int)))))))))))))) aT.g.o fun r12=>br (!(r12.1.2 == 0)) (ok r12) (cl (R.aj [112,114,111,116,111,116,121,112,101]) aj.g.o fun r13=>cl (R.bU r12.2.2.2.2.2.1 r10.1.1.2.2.2.2 r13 r12.1.1) bU.g.o fun r14=>br own2 (cl (R.cQ r14.2 x9.2.2.2.2.2.2.1 e1.2.1 r10.1.1 true) cQ.g.o fun r15=>ok (((r10.1.1,0),(r12.2.1,(r12.2.2.1,(r12.2.2.2.1,(r12.2.2.2.2.1,(r15.2,r12.2.2.2.2.2.2)))))))) (ok (((r10.1.1,0),(r12.2.1,(r12.2.2.1,(r12.2.2.2.1,(r12.2.2.2.2.1,(r14.2,r12.2.2.2.2.2.2))))))))))) (fun z7=>ok (((z7.2.2,z7.1),z7.2.1))))
abbrev bx.g:Sg:=⟨[.obj aG,.i,.val true (.frz aO)],[(true,(.frz aC)),vi]⟩
def R.bx (r_0:aG.den) (n_1:Int) (e_2:aO.den):Res ((aC.den×Int)×aG.den) :=
 given (bx.g.i (r_0,(n_1,e_2))) (idx aF r_0.1 n_1 fun e1=>bd (loop (α:=(Int×aG.den)) (β:=(aG.den ⊕ (Int×(aG.den×aC.den)))) (fun x2=>br (ilt x2.1 (e1.2.2.2.2.2.length:Int)) (idx (.int .i64) e1.2.2.2.2.2 x2.1 fun e3=>idx aF x2.2.1 e3 fun e4=>bd (α:=Bool) (br (e4.1 == 5) (ok ((e4.1 == 5))) (ok ((e4.1 == 6)))) fun x5=>br x5 (bd (loop (α:=(Int×eW.den)) (β:=eW.den) (fun x6=>br (ilt x6.1 (e4.2.2.2.2.2.length:Int)) (idx (.int .i64) e4.2.2.2.2.2 x6.1 fun e7=>idx aF x2.2.1 e7 fun e8=>cl (R.bA x6.2 e_2.1 e8.2.1 zV false (e4.1 == 6)) bA.g.o fun r9=>ok (.next ((w6 (x6.1+1),r9.2)))) (ok (.done (x6.2)))) fuel (0,x2.2.2.2.2.2.1)) fun x10=>ok (.next ((w6 (x2.1+1),(x2.2.1,(x2.2.2.1,(x2.2.2.2.1,(x2.2.2.2.2.1,(x10,x2.2.2.2.2.2.2))))))))) (br (e4.1 == 19) (cl (R.cG x2.2 e3 e_2) cG.g.o fun r11=>br (!(r11.1.2 == 0)) (ok (.done (.inr (r11.1.2,(r11.2,r11.1.1))))) (cl (R.bA r11.2.2.2.2.2.1 e_2.1 e4.2.1 r11.1.1 true false) bA.g.o fun r12=>ok (.next ((w6 (x2.1+1),(r11.2.1,(r11.2.2.1,(r11.2.2.2.1,(r11.2.2.2.2.1,(r12.2,r11.2.2.2.2.2.2)))))))))) (ok (.next ((w6 (x2.1+1),x2.2)))))) (ok (.done (.inl x2.2)))) fuel (0,r_0)) fun x13=>sum x13 (fun x14=>ok (((zV,0),x14))) (fun z15=>ok (((z15.2.2,z15.1),z15.2.1))))
abbrev bj.g:Sg:=⟨[.obj aG],[vb]⟩
def R.bj (r_0:aG.den):Res (Bool×aG.den) :=
 given (bj.g.i r_0) (br (ile r_0.2.1.2.1 r_0.2.2.2.2.2.1) (cl (R.bl r_0 5) bl.g.o fun r1=>ok ((false,r1.2))) (br (ile r_0.2.1.2.2 r_0.2.2.2.2.2.2.1) (cl (R.bl r_0 6) bl.g.o fun r2=>ok ((false,r2.2))) (ok ((true,(r_0.1,(r_0.2.1,(r_0.2.2.1,(r_0.2.2.2.1,(r_0.2.2.2.2.1,(w6 (r_0.2.2.2.2.2.1+1),(w6 (r_0.2.2.2.2.2.2.1+1),r_0.2.2.2.2.2.2.2))))))))))))
abbrev fF.g:Sg:=⟨[.i,.val true (.frz aC),.i],[(true,(.frz aV))]⟩
def R.fF (kind_0:Int) (v_1:aC.den) (how_2:Int):Res (aV.den) :=
 given (fF.g.i (kind_0,(v_1,how_2))) (br (!(how_2 == 0)) (ok ((how_2,(([]:List UInt8),v_1)))) (ok ((kind_0,(([]:List UInt8),v_1)))))
abbrev fI.g:Sg:=⟨[.val true (.bor lO),.i],[(false,(.own .s))]⟩
def R.fI (t_0:(List aF.den)) (n_1:Int):Res ((List (List UInt8))) :=
 given (fI.g.i (t_0,n_1)) (cl (R.eX t_0 n_1) eX.g.o fun r1=>ok r1)
abbrev iY.g:Sg:=⟨[.val true (.frz aV),.val false (.bor (.own .s))],[vb,(true,(.frz aV))]⟩
def R.iY (o_0:aV.den) (labels_1:(List (List UInt8))):Res ((Bool×aV.den)) :=
 given (iY.g.i (o_0,labels_1)) (br (o_0.1 == 0) (ok ((true,o_0))) (bd (α:=Bool) (br (o_0.1 == 1) (ok ((o_0.2.1 == ([]:List UInt8)))) (ok false)) fun x1=>br x1 (ok ((false,(0,(([]:List UInt8),zV))))) (bd (α:=Bool) (br (o_0.1 == 2) (br (o_0.2.1 == ([]:List UInt8)) (ok true) (bd (R.aQ labels_1 o_0.2.1) fun r2=>ok r2)) (ok false)) fun x3=>br x3 (ok ((true,(0,(([]:List UInt8),zV))))) (ok ((false,o_0))))))
abbrev eB.g:Sg:=⟨[.val false (.bor eW),.i],[(true,(.frz jZ)),vb]⟩
def R.eB (h_0:iB.den) (ref_1:Int):Res ((jZ.den×Bool)) :=
 given (eB.g.i (h_0,ref_1)) (bd (R.av h_0 ref_1) fun r1=>br (!r1) (ok (((0,(0,(([]:List bQ.den),(([]:List bJ.den),(([]:List UInt8),(0,(0,(zV,(0,(0,(0,(0,([]:List Int))))))))))))),false))) (ct kh h_0.2 ref_1 fun e2=>cl (R.gR e2) gR.g.o fun r3=>ok ((r3,true))))
abbrev dM.g:Sg:=⟨[.obj aG,.val true (.frz aO)],[(true,(.frz aO)),vi]⟩
def R.dM (r_0:aG.den) (e_1:aO.den):Res ((aO.den×Int)×aG.den) :=
 given (dM.g.i (r_0,e_1)) (cl (R.eB r_0.2.2.2.2.1 e_1.1) eB.g.o fun r1=>cl (R.aT r_0 (9,(0,(([]:List bQ.den),(r1.1.2.2.2.1,(([]:List UInt8),(0,(r1.1.2.2.2.2.2.2.1,(zV,(0,(0,(0,(0,([]:List Int)))))))))))))) aT.g.o fun r2=>ok ((((r2.1.1.2.2.2.2,e_1.2),r2.1.2),r2.2)))
abbrev cD.g:Sg:=⟨[.val true (.frz aI)],[(true,(.frz aC))]⟩
def R.cD (a_0:aI.den):Res (aC.den) :=
 given (cD.g.i a_0) (ok ((3,(a_0,((false,([]:List Int)),(([]:List Int),0))))))
abbrev db.g:Sg:=⟨[.val true (.frz az)],[(true,(.frz aC))]⟩
def R.db (b_0:az.den):Res (aC.den) :=
 given (db.g.i b_0) (ok ((4,((0,0),(b_0,(([]:List Int),0))))))
abbrev b9.g:Sg:=⟨[.val false (.bor (.own .h))],[(true,(.frz aC))]⟩
def R.b9 (u_0:(List Int)):Res (aC.den) :=
 given (b9.g.i u_0) (ai (ile 0 (kv (u_0.length:Int) 4096) && ile (kv (u_0.length:Int) 4096) u_0.length) (bd (ok (List.take (Int.toNat (kv (u_0.length:Int) 4096)) (List.drop 0 u_0))) fun r1=>given (mi (.int .u16) r1) (ok ((5,((0,0),((false,([]:List Int)),(r1,0))))))))
abbrev dE.g:Sg:=⟨[.val false (.bor eW),.i,.s],[(true,(.frz bJ)),vi,vb]⟩
def R.dE (h_0:iB.den) (scope_1:Int) (name_2:(List UInt8)):Res ((bJ.den×(Int×Bool))) :=
 given (dE.g.i (h_0,(scope_1,name_2))) (bd (loop (α:=(Int×Int)) (β:=(Unit ⊕ (Int×(Bool×bJ.den)))) (fun scope1=>br (ilt scope1.2 (h_0.2.length:Int)) (bd (R.av h_0 scope1.1) fun r2=>br (!r2) (ok (.done (.inl ()))) (cl (R.cX h_0 scope1.1 name_2) cX.g.o fun r3=>br (ile 0 r3) (ct kh h_0.2 scope1.1 fun e4=>ct (.frz bJ) e4.2.2.2.1 r3 fun e5=>cl (R.di e5.2.1) di.g.o fun r6=>ok (.done (.inr (scope1.1,(true,(e5.1,(r6,e5.2.2))))))) (ct kh h_0.2 scope1.1 fun e7=>ok (.next ((e7.2.2.2.2.2.2.1,w6 (scope1.2+1))))))) (ok (.done (.inl ())))) fuel (scope_1,0)) fun x8=>sum x8 (fun x9=>ok (((([]:List UInt8),(zV,(false,false))),((-1),false)))) (fun z10=>ok ((z10.2.2,(z10.1,z10.2.1)))))
abbrev cY.g:Sg:=⟨[.obj aG,.s],[(true,(.frz aC)),vi]⟩
def R.cY (r_0:aG.den) (name_1:(List UInt8)):Res ((aC.den×Int)×aG.den) :=
 given (cY.g.i (r_0,name_1)) (cl (R.b9 ([]:List Int)) b9.g.o fun r1=>cl (R.aT r_0 (10,(0,(([]:List bQ.den),(([]:List bJ.den),(name_1,(0,(0,(r1,(0,(0,(0,(0,([]:List Int)))))))))))))) aT.g.o fun r2=>br (!(r2.1.2 == 0)) (ok r2) (ok (((r2.1.1,4),r2.2))))
abbrev aE.g:Sg:=⟨[.obj aG,.i],[(true,(.frz aC)),vi]⟩
def R.aE (r_0:aG.den) (s_1:Int):Res ((aC.den×Int)×aG.den) :=
 given (aE.g.i (r_0,s_1)) (br (s_1 == 1) (cl (R.cY r_0 [84,121,112,101,69,114,114,111,114]) cY.g.o fun r1=>ok r1) (br (s_1 == 2) (cl (R.cY r_0 [82,97,110,103,101,69,114,114,111,114]) cY.g.o fun r2=>ok r2) (br (s_1 == 4) (cl (R.cY r_0 [82,101,102,101,114,101,110,99,101,69,114,114,111,114]) cY.g.o fun r3=>ok r3) (br (s_1 == 5) (cl (R.cY r_0 [83,121,110,116,97,120,69,114,114,111,114]) cY.g.o fun r4=>ok r4) (cl (R.bl r_0 3) bl.g.o fun r5=>ok (((zV,r5.1),r5.2)))))))
abbrev gW.g:Sg:=⟨[],[(false,(.own .s))]⟩
def R.gW :Res ((List (List UInt8))) :=
 given (gW.g.i ()) (ok ([[79,98,106,101,99,116],[65,114,114,97,121],[78,117,109,98,101,114],[66,105,103,73,110,116],[83,116,114,105,110,103],[66,111,111,108,101,97,110],[69,114,114,111,114],[84,121,112,101,69,114,114,111,114],[82,97,110,103,101,69,114,114,111,114],[82,101,102,101,114,101,110,99,101,69,114,114,111,114],[83,121,110,116,97,120,69,114,114,111,114],[65,114,114,97,121,66,117,102,102,101,114],[83,104,97,114,101,100,65,114,114,97,121,66,117,102,102,101,114],[68,97,116,97,86,105,101,119],[73,110,116,56,65,114,114,97,121],[85,105,110,116,56,65,114,114,97,121],[73,110,116,49,54,65,114,114,97,121],[85,105,110,116,49,54,65,114,114,97,121],[73,110,116,51,50,65,114,114,97,121],[85,105,110,116,51,50,65,114,114,97,121],[66,105,103,73,110,116,54,52,65,114,114,97,121],[66,105,103,85,105,110,116,54,52,65,114,114,97,121],[65,116,111,109,105,99,115],[36,50,54,50]]))
abbrev fe.g:Sg:=⟨[.s],[(false,(.own .s))]⟩
def R.fe (root_0:(List UInt8)):Res ((List (List UInt8))) :=
 given (fe.g.i root_0) (br (root_0 == [79,98,106,101,99,116]) (ok ([[107,101,121,115],[99,114,101,97,116,101]])) (br (root_0 == [65,114,114,97,121]) (ok ([[105,115,65,114,114,97,121]])) (br (root_0 == [65,116,111,109,105,99,115]) (ok ([[108,111,97,100],[115,116,111,114,101],[97,100,100],[97,110,100],[111,114],[115,117,98],[120,111,114],[101,120,99,104,97,110,103,101],[99,111,109,112,97,114,101,69,120,99,104,97,110,103,101],[105,115,76,111,99,107,70,114,101,101],[119,97,105,116],[110,111,116,105,102,121]])) (br (root_0 == [36,50,54,50]) (ok ([[97,103,101,110,116]])) (br (root_0 == [36,50,54,50,46,97,103,101,110,116]) (ok ([[115,116,97,114,116],[98,114,111,97,100,99,97,115,116],[114,101,99,101,105,118,101,66,114,111,97,100,99,97,115,116],[114,101,112,111,114,116],[103,101,116,82,101,112,111,114,116],[115,108,101,101,112],[109,111,110,111,116,111,110,105,99,78,111,119]])) (ok (([]:List (List UInt8)))))))))
abbrev fO.g:Sg:=⟨[],[(false,(.own .s))]⟩
def R.fO :Res ((List (List UInt8))) :=
 given (fO.g.i ()) (ok ([[73,110,116,56],[85,105,110,116,56],[73,110,116,49,54],[85,105,110,116,49,54],[73,110,116,51,50],[85,105,110,116,51,50],[66,105,103,73,110,116,54,52],[66,105,103,85,105,110,116,54,52]]))
abbrev cd.g:Sg:=⟨[],[(false,(.own .s))]⟩
def R.cd :Res ((List (List UInt8))) :=
 given (cd.g.i ()) (cl (R.gW) gW.g.o fun r1=>cl (R.gW) gW.g.o fun r2=>ai (decide ((r2.length+[[36,50,54,50,46,97,103,101,110,116]].length)*16<=2^47)) (bd (loop (α:=((List (List UInt8))×Int)) (β:=(List (List UInt8))) (fun l3=>br (ilt l3.2 ((r2++[[36,50,54,50,46,97,103,101,110,116]]).length:Int)) (ai (ile 0 l3.2 && ilt l3.2 (r2++[[36,50,54,50,46,97,103,101,110,116]]).length) (idx .str (r2++[[36,50,54,50,46,97,103,101,110,116]]) (0+Int.toNat l3.2) fun e4=>cl (R.fe e4) fe.g.o fun r5=>bd (loop (α:=((List (List UInt8))×Int)) (β:=(List (List UInt8))) (fun l6=>br (ilt l6.2 (r5.length:Int)) (ai (ile 0 l6.2 && ilt l6.2 r5.length) (idx .str r5 (0+Int.toNat l6.2) fun e7=>ai (lQ (e4.length+[46].length)) (ai (lQ ((e4++[46]).length+e7.length)) (ai (decide ((l6.1.length+[((e4++[46])++e7)].length)*16<=2^47)) (ok (.next (((l6.1++[((e4++[46])++e7)]),w6 (l6.2+1))))))))) (ok (.done (l6.1)))) fuel (l3.1,0)) fun l8=>ok (.next ((l8,w6 (l3.2+1)))))) (ok (.done (l3.1)))) fuel (r1,0)) fun l9=>ai (decide ((l9.length+[[65,114,114,97,121,35,112,117,115,104],[65,114,114,97,121,35,112,111,112]].length)*16<=2^47)) (cl (R.fO) fO.g.o fun r10=>bd (loop (α:=((List (List UInt8))×Int)) (β:=(List (List UInt8))) (fun l11=>br (ilt l11.2 (r10.length:Int)) (ai (ile 0 l11.2 && ilt l11.2 r10.length) (idx .str r10 (0+Int.toNat l11.2) fun e12=>ai (lQ ([68,97,116,97,86,105,101,119,35,103,101,116].length+e12.length)) (ai (lQ ([68,97,116,97,86,105,101,119,35,115,101,116].length+e12.length)) (ai (decide ((l11.1.length+[([68,97,116,97,86,105,101,119,35,103,101,116]++e12),([68,97,116,97,86,105,101,119,35,115,101,116]++e12)].length)*16<=2^47)) (ok (.next (((l11.1++[([68,97,116,97,86,105,101,119,35,103,101,116]++e12),([68,97,116,97,86,105,101,119,35,115,101,116]++e12)]),w6 (l11.2+1))))))))) (ok (.done (l11.1)))) fuel ((l9++[[65,114,114,97,121,35,112,117,115,104],[65,114,114,97,121,35,112,111,112]]),0)) fun l13=>ok l13)))
abbrev cZ.g:Sg:=⟨[.s],[(true,(.frz aC))]⟩
def R.cZ (s_0:(List UInt8)):Res (aC.den) :=
 given (cZ.g.i s_0) (cl (R.cd) cd.g.o fun r1=>cl (R.bT r1 s_0) bT.g.o fun r2=>ok ((6,((0,0),((false,([]:List Int)),(([]:List Int),w6 (4096+r2)))))))
abbrev iD.g:Sg:=⟨[.s],[(true,(.frz aC)),vb]⟩
def R.iD (s_0:(List UInt8)):Res ((aC.den×Bool)) :=
 given (iD.g.i s_0) (br (s_0 == [117,110,100,101,102,105,110,101,100]) (ok ((zV,true))) (br (s_0 == [78,97,78]) (cl (R.cD (2,0)) cD.g.o fun r1=>ok ((r1,true))) (br (s_0 == [73,110,102,105,110,105,116,121]) (cl (R.cD (3,0)) cD.g.o fun r2=>ok ((r2,true))) (cl (R.gW) gW.g.o fun r3=>bd (R.aQ r3 s_0) fun r4=>br r4 (cl (R.cZ s_0) cZ.g.o fun r5=>ok ((r5,true))) (ok ((zV,false)))))))
abbrev jx.g:Sg:=⟨[.s],[vb]⟩
def R.jx (s_0:(List UInt8)):Res (Bool) :=
 given (jx.g.i s_0) (bd (α:=Bool) (br (s_0 == [103,108,111,98,97,108,84,104,105,115]) (ok ((s_0 == [103,108,111,98,97,108,84,104,105,115]))) (br (s_0 == [65,103,103,114,101,103,97,116,101,69,114,114,111,114]) (ok ((s_0 == [65,103,103,114,101,103,97,116,101,69,114,114,111,114]))) (br (s_0 == [68,97,116,101]) (ok ((s_0 == [68,97,116,101]))) (br (s_0 == [69,118,97,108,69,114,114,111,114]) (ok ((s_0 == [69,118,97,108,69,114,114,111,114]))) (br (s_0 == [70,105,110,97,108,105,122,97,116,105,111,110,82,101,103,105,115,116,114,121]) (ok ((s_0 == [70,105,110,97,108,105,122,97,116,105,111,110,82,101,103,105,115,116,114,121]))) (br (s_0 == [70,108,111,97,116,51,50,65,114,114,97,121]) (ok ((s_0 == [70,108,111,97,116,51,50,65,114,114,97,121]))) (br (s_0 == [70,108,111,97,116,54,52,65,114,114,97,121]) (ok ((s_0 == [70,108,111,97,116,54,52,65,114,114,97,121]))) (br (s_0 == [70,117,110,99,116,105,111,110]) (ok ((s_0 == [70,117,110,99,116,105,111,110]))) (br (s_0 == [73,116,101,114,97,116,111,114]) (ok ((s_0 == [73,116,101,114,97,116,111,114]))) (br (s_0 == [74,83,79,78]) (ok ((s_0 == [74,83,79,78]))) (br (s_0 == [77,97,112]) (ok ((s_0 == [77,97,112]))) (br (s_0 == [77,97,116,104]) (ok ((s_0 == [77,97,116,104]))) (br (s_0 == [80,114,111,109,105,115,101]) (ok ((s_0 == [80,114,111,109,105,115,101]))) (br (s_0 == [80,114,111,120,121]) (ok ((s_0 == [80,114,111,120,121]))) (br (s_0 == [82,101,102,108,101,99,116]) (ok ((s_0 == [82,101,102,108,101,99,116]))) (br (s_0 == [82,101,103,69,120,112]) (ok ((s_0 == [82,101,103,69,120,112]))) (br (s_0 == [83,101,116]) (ok ((s_0 == [83,101,116]))) (br (s_0 == [83,121,109,98,111,108]) (ok ((s_0 == [83,121,109,98,111,108]))) (br (s_0 == [85,82,73,69,114,114,111,114]) (ok ((s_0 == [85,82,73,69,114,114,111,114]))) (br (s_0 == [85,105,110,116,56,67,108,97,109,112,101,100,65,114,114,97,121]) (ok ((s_0 == [85,105,110,116,56,67,108,97,109,112,101,100,65,114,114,97,121]))) (br (s_0 == [87,101,97,107,77,97,112]) (ok ((s_0 == [87,101,97,107,77,97,112]))) (br (s_0 == [87,101,97,107,82,101,102]) (ok ((s_0 == [87,101,97,107,82,101,102]))) (br (s_0 == [87,101,97,107,83,101,116]) (ok ((s_0 == [87,101,97,107,83,101,116]))) (br (s_0 == [100,101,99,111,100,101,85,82,73]) (ok ((s_0 == [100,101,99,111,100,101,85,82,73]))) (br (s_0 == [100,101,99,111,100,101,85,82,73,67,111,109,112,111,110,101,110,116]) (ok ((s_0 == [100,101,99,111,100,101,85,82,73,67,111,109,112,111,110,101,110,116]))) (br (s_0 == [101,110,99,111,100,101,85,82,73]) (ok ((s_0 == [101,110,99,111,100,101,85,82,73]))) (br (s_0 == [101,110,99,111,100,101,85,82,73,67,111,109,112,111,110,101,110,116]) (ok ((s_0 == [101,110,99,111,100,101,85,82,73,67,111,109,112,111,110,101,110,116]))) (br (s_0 == [101,115,99,97,112,101]) (ok ((s_0 == [101,115,99,97,112,101]))) (br (s_0 == [105,115,70,105,110,105,116,101]) (ok ((s_0 == [105,115,70,105,110,105,116,101]))) (br (s_0 == [105,115,78,97,78]) (ok ((s_0 == [105,115,78,97,78]))) (br (s_0 == [112,97,114,115,101,70,108,111,97,116]) (ok ((s_0 == [112,97,114,115,101,70,108,111,97,116]))) (br (s_0 == [112,97,114,115,101,73,110,116]) (ok ((s_0 == [112,97,114,115,101,73,110,116]))) (ok ((s_0 == [117,110,101,115,99,97,112,101]))))))))))))))))))))))))))))))))))) fun x1=>br x1 (ok true) (ok false))
abbrev aK.g:Sg:=⟨[.obj aG],[(true,(.frz aC)),vi]⟩
def R.aK (r_0:aG.den):Res ((aC.den×Int)×aG.den) :=
 given (aK.g.i r_0) (cl (R.bl r_0 3) bl.g.o fun r1=>ok (((zV,r1.1),r1.2)))
abbrev dF.g:Sg:=⟨[.obj aG,.s,.val true (.bor (.seq .i (.seq (.seq .i (.seq (.frz aI) (.seq (.seq .b (.own .w)) (.seq (.own .h) .i)))) .b))),.b],[(true,(.frz aC)),vi]⟩
def R.dF (r_0:aG.den) (s_1:(List UInt8)) (e_2:aO.den) (loose_3:Bool):Res ((aC.den×Int)×aG.den) :=
 given (dF.g.i (r_0,(s_1,(e_2,loose_3)))) (cl (R.dE r_0.2.2.2.2.1 e_2.1 s_1) dE.g.o fun r1=>bd (α:=Bool) (br r1.2.2 (ok ((!r1.1.2.2.1))) (ok false)) fun x2=>br x2 (cl (R.aE r_0 4) aE.g.o fun r3=>ok r3) (br r1.2.2 (ok (((r1.1.2.1,0),r_0))) (cl (R.iD s_1) iD.g.o fun r4=>br r4.2 (ok (((r4.1,0),r_0))) (bd (R.jx s_1) fun r5=>br r5 (cl (R.aK r_0) aK.g.o fun r6=>ok r6) (br loose_3 (ok (((zV,0),r_0))) (cl (R.aE r_0 4) aE.g.o fun r7=>ok r7))))))
abbrev dc.g:Sg:=⟨[.obj aG,.s,.val true (.bor (.seq .i (.seq (.seq .i (.seq (.frz aI) (.seq (.seq .b (.own .w)) (.seq (.own .h) .i)))) .b)))],[(true,(.frz aC)),vi]⟩
def R.dc (r_0:aG.den) (s_1:(List UInt8)) (e_2:aO.den):Res ((aC.den×Int)×aG.den) :=
 given (dc.g.i (r_0,(s_1,e_2))) (cl (R.dF r_0 s_1 e_2 false) dF.g.o fun r1=>ok r1)
abbrev bF.g:Sg:=⟨[.b],[(true,(.frz aC))]⟩
def R.bF (b_0:Bool):Res (aC.den) :=
 given (bF.g.i b_0) (br b_0 (ok ((2,((0,0),((false,([]:List Int)),(([]:List Int),1)))))) (ok ((2,((0,0),((false,([]:List Int)),(([]:List Int),0)))))))
abbrev iZ.g:Sg:=⟨[.val true (.bor (.seq .i (.seq (.frz aI) (.seq (.seq .b (.own .w)) (.seq (.own .h) .i)))))],[vb]⟩
def R.iZ (v_0:aC.den):Res (Bool) :=
 given (iZ.g.i v_0) (br ((v_0.2.1.1 == 0) && ((v_0.2.1.2 == 0) && true)) (br (!v_0.2.2.1.1) (br ((v_0.2.2.1.2.length:Int) == 0) (br ((v_0.2.2.2.1.length:Int) == 0) (ok ((v_0.2.2.2.2 == 0))) (ok false)) (ok false)) (ok false)) (ok false))
abbrev lX.g:Sg:=⟨[.val true (.bor (.seq .i (.seq (.frz aI) (.seq (.seq .b (.own .w)) (.seq (.own .h) .i)))))],[vb]⟩
def R.lX (v_0:aC.den):Res (Bool) :=
 given (lX.g.i v_0) (bd (α:=Bool) (br (v_0.1 == 0) (ok ((v_0.1 == 0))) (ok ((v_0.1 == 1)))) fun x1=>br x1 (bd (R.iZ v_0) fun r2=>ok r2) (br (v_0.1 == 2) (bd (R.iZ (v_0.1,(v_0.2.1,(v_0.2.2.1,(v_0.2.2.2.1,0))))) fun r3=>br r3 (br (v_0.2.2.2.2 == 0) (ok true) (ok ((v_0.2.2.2.2 == 1)))) (ok false)) (br (v_0.1 == 3) (bd (R.iZ (v_0.1,((0,0),v_0.2.2))) fun r4=>br r4 (bd (R.kY v_0.2.1) fun r5=>ok r5) (ok false)) (br (v_0.1 == 4) (bd (R.iZ (v_0.1,(v_0.2.1,((false,([]:List Int)),v_0.2.2.2)))) fun r6=>br r6 (bd (R.j6 v_0.2.2.1) fun r7=>ok r7) (ok false)) (br (v_0.1 == 5) (bd (R.iZ (v_0.1,(v_0.2.1,(v_0.2.2.1,(([]:List Int),v_0.2.2.2.2))))) fun r8=>br r8 (ok ((ile (v_0.2.2.2.1.length:Int) 4096))) (ok false)) (br (v_0.1 == 6) (bd (R.iZ (v_0.1,(v_0.2.1,(v_0.2.2.1,(v_0.2.2.2.1,0))))) fun r9=>br r9 (ok ((ile 0 v_0.2.2.2.2))) (ok false)) (ok false)))))))
abbrev bt.g:Sg:=⟨[.val true (.frz aC)],[(true,(.frz aC))]⟩
def R.bt (v_0:aC.den):Res (aC.den) :=
 given (bt.g.i v_0) (bd (R.lX v_0) fun r1=>br (!r1) (ok zV) (ok v_0))
abbrev eg.g:Sg:=⟨[.val true (.frz aI)],[vb]⟩
def R.eg (a_0:aI.den):Res (Bool) :=
 given (eg.g.i a_0) (ok ((a_0.1 == 2)))
abbrev iH.g:Sg:=⟨[.val true (.frz aI)],[vi]⟩
def R.iH (a_0:aI.den):Res (Int) :=
 given (iH.g.i a_0) (br (a_0.1 == 3) (ok 9007199254740992) (br (a_0.1 == 4) (ok ((-9007199254740992))) (ok (a_0.2))))
abbrev iN.g:Sg:=⟨[.val true (.frz aI),.val true (.frz aI)],[vb]⟩
def R.iN (a_0:aI.den) (b_1:aI.den):Res (Bool) :=
 given (iN.g.i (a_0,b_1)) (cl (R.eH a_0) eH.g.o fun r1=>cl (R.eH b_1) eH.g.o fun r2=>bd (R.eg r1) fun r3=>br (!r3) (bd (R.eg r2) fun r4=>br (!r4) (cl (R.iH r1) iH.g.o fun r5=>cl (R.iH r2) iH.g.o fun r6=>ok ((r5 == r6))) (ok false)) (ok false))
abbrev fp.g:Sg:=⟨[.val true (.frz aC)],[vb]⟩
def R.fp (v_0:aC.den):Res (Bool) :=
 given (fp.g.i v_0) (cl (R.bt v_0) bt.g.o fun r1=>br (r1.1 == 2) (ok ((r1.2.2.2.2 == 1))) (br (r1.1 == 3) (br (!(r1.2.1.1 == 2)) (bd (R.iN r1.2.1 (0,0)) fun r2=>ok ((!r2))) (ok false)) (br (r1.1 == 4) (ok ((ilt 0 (r1.2.2.1.2.length:Int)))) (br (r1.1 == 5) (ok ((ilt 0 (r1.2.2.2.1.length:Int)))) (ok ((r1.1 == 6)))))))
abbrev fT.g:Sg:=⟨[.i],[(false,(.own .h))]⟩
def R.fT (n_0:Int):Res ((List Int)) :=
 given (fT.g.i n_0) (cl (rn n_0) rN.g.o fun r1=>cl (R.aj r1) aj.g.o fun r2=>ok r2)
abbrev bR.g:Sg:=⟨[.val true (.frz aC)],[(true,(.frz aI)),vi]⟩
def R.bR (v_0:aC.den):Res ((aI.den×Int)) :=
 given (bR.g.i v_0) (cl (R.bt v_0) bt.g.o fun r1=>br (r1.1 == 0) (ok (((2,0),0))) (bd (α:=Bool) (br (r1.1 == 1) (ok ((r1.1 == 1))) (ok ((r1.1 == 2)))) fun x2=>br x2 (ok (((0,r1.2.2.2.2),0))) (br (r1.1 == 3) (ok ((r1.2.1,0))) (br (r1.1 == 4) (ok (((0,0),1))) (br (r1.1 == 5) (cl (R.gP r1.2.2.2.1) gP.g.o fun r3=>br r3.2 (ok ((r3.1,0))) (ok (((0,0),3)))) (ok (((0,0),3))))))))
abbrev j9.g:Sg:=⟨[.val true (.bor (.seq .b (.own .w)))],[(true,(.frz az))]⟩
def R.j9 (b_0:az.den):Res (az.den) :=
 given (j9.g.i b_0) (bd (ok b_0.2) fun r1=>given (mi (.int .u32) r1) (ok ((b_0.1,r1))))
abbrev cC.g:Sg:=⟨[.val true (.frz aC)],[(true,(.frz aC)),vi]⟩
def R.cC (v_0:aC.den):Res ((aC.den×Int)) :=
 given (cC.g.i v_0) (cl (R.bt v_0) bt.g.o fun r1=>br (r1.1 == 4) (cl (R.j9 r1.2.2.1) j9.g.o fun r2=>cl (R.db r2) db.g.o fun r3=>ok ((r3,0))) (cl (R.bR r1) bR.g.o fun r4=>br (!(r4.2 == 0)) (ok ((zV,r4.2))) (cl (R.cD r4.1) cD.g.o fun r5=>ok ((r5,0)))))
abbrev cn.g:Sg:=⟨[.val true (.bor (.seq .b (.own .w)))],[(false,(.own .w))]⟩
def R.cn (a_0:az.den):Res ((List Int)) :=
 given (cn.g.i a_0) (bd (R.j6 a_0) fun r1=>br (!r1) (ok (([]:List Int))) (bd (ok a_0.2) fun r2=>given (mi (.int .u32) r2) (ok r2)))
abbrev fy.g:Sg:=⟨[.val true (.bor (.seq .b (.own .w)))],[vb]⟩
def R.fy (a_0:az.den):Res (Bool) :=
 given (fy.g.i a_0) (bd (R.j6 a_0) fun r1=>br r1 (ok (a_0.1)) (ok false))
abbrev iF.g:Sg:=⟨[.val false (.frz (.list (.int .u32)))],[(false,(.frz (.list (.int .u32))))]⟩
def R.iF (m_0:(List Int)):Res ((List Int)) :=
 given (iF.g.i m_0) (bd (loop (α:=(List Int)) (β:=(List Int)) (fun m1=>bd (α:=Bool) (br (ilt 0 (m1.length:Int)) (idx (.int .u32) m1 (w6 ((m1.length:Int)-1)) fun e2=>ok ((e2 == 0))) (ok false)) fun x3=>br x3 (ai (ile 0 (w6 ((m1.length:Int)-1)) && ile (w6 ((m1.length:Int)-1)) m1.length) (ok (.next ((List.take (Int.toNat (w6 ((m1.length:Int)-1))) m1))))) (ok (.done (m1)))) fuel m_0) fun m4=>ok m4)
end Go.Mach
end

set_option linter.unusedVariables false
set_option maxRecDepth 20000
noncomputable section
namespace Go.Mach
open Res
abbrev gA.g:Sg:=⟨[.val false (.own .w)],[(false,(.own .w))]⟩
def R.gA (m_0:(List Int)):Res ((List Int)) :=
 given (gA.g.i m_0) (bd (loop (α:=(List Int)) (β:=(List Int)) (fun m1=>bd (α:=Bool) (br (ilt 0 (m1.length:Int)) (ai (ile 0 (w6 ((m1.length:Int)-1)) && ilt (w6 ((m1.length:Int)-1)) m1.length) (idx (.int .u32) m1 (0+Int.toNat (w6 ((m1.length:Int)-1))) fun e2=>ok ((e2 == 0)))) (ok false)) fun x3=>br x3 (ai (ile 0 (w6 ((m1.length:Int)-1)) && ile (w6 ((m1.length:Int)-1)) m1.length) (ok (.next ((List.take (Int.toNat (w6 ((m1.length:Int)-1))) (List.drop 0 m1)))))) (ok (.done (m1)))) fuel m_0) fun m4=>ok m4)
abbrev dt.g:Sg:=⟨[.val false (.frz (.list (.int .u32))),.b],[(true,(.frz az))]⟩
def R.dt (m_0:(List Int)) (neg_1:Bool):Res (az.den) :=
 given (dt.g.i (m_0,neg_1)) (cl (R.iF m_0) iF.g.o fun r1=>br ((r1.length:Int) == 0) (ok ((false,([]:List Int)))) (ok ((neg_1,r1))))
abbrev kW.g:Sg:=⟨[.val true (.bor (.seq .b (.own .w)))],[(true,(.frz az))]⟩
def R.kW (a_0:az.den):Res (az.den) :=
 given (kW.g.i a_0) (cl (R.cn a_0) cn.g.o fun r1=>bd (R.fy a_0) fun r2=>cl (R.dt r1 (!r2)) dt.g.o fun r3=>ok r3)
abbrev gX.g:Sg:=⟨[.val true (.frz aI)],[vi]⟩
def R.gX (a_0:aI.den):Res (Int) :=
 given (gX.g.i a_0) (cl (R.eH a_0) eH.g.o fun r1=>br (!(r1.1 == 0)) (ok 0) (ok (w6 (IntKind.wrap .u32 r1.2))))
abbrev jU.g:Sg:=⟨[.val true (.frz aI)],[vi]⟩
def R.jU (a_0:aI.den):Res (Int) :=
 given (jU.g.i a_0) (cl (R.gX a_0) gX.g.o fun r1=>ok (w6 (IntKind.wrap .i32 (IntKind.wrap .u32 r1))))
abbrev lN.g:Sg:=⟨[.i,.val true (.frz aI),.val true (.frz aI)],[(true,(.frz aI))]⟩
def R.lN (op_0:Int) (a_1:aI.den) (b_2:aI.den):Res (aI.den) :=
 given (lN.g.i (op_0,(a_1,b_2))) (cl (R.jU a_1) jU.g.o fun r1=>cl (R.jU b_2) jU.g.o fun r2=>cl (R.gX b_2) gX.g.o fun r3=>ai (!(32 == 0)) (br (op_0 == 1) (cl (R.cP (gD .and .i64 r1 r2)) cP.g.o fun r4=>ok r4) (br (op_0 == 2) (cl (R.cP (gD .or .i64 r1 r2)) cP.g.o fun r5=>ok r5) (br (op_0 == 3) (cl (R.cP (gD .xor .i64 r1 r2)) cP.g.o fun r6=>ok r6) (br (op_0 == 4) (ai (ile 0 (Int.tmod r3 32)) (cl (R.cP (w6 (IntKind.wrap .i32 (pI .u32 (IntKind.wrap .u32 r1) (Int.tmod r3 32))))) cP.g.o fun r7=>ok r7)) (br (op_0 == 5) (ai (ile 0 (Int.tmod r3 32)) (cl (R.cP (ij .i64 r1 (Int.tmod r3 32))) cP.g.o fun r8=>ok r8)) (br (op_0 == 6) (cl (R.gX a_1) gX.g.o fun r9=>ai (ile 0 (Int.tmod r3 32)) (cl (R.cP (ij .i64 r9 (Int.tmod r3 32))) cP.g.o fun r10=>ok r10)) (cl (R.eP) eP.g.o fun r11=>ok r11))))))))
abbrev jT.g:Sg:=⟨[.s,.val true (.frz aC)],[(true,(.frz aC)),vi]⟩
def R.jT (op_0:(List UInt8)) (v_1:aC.den):Res ((aC.den×Int)) :=
 given (jT.g.i (op_0,v_1)) (br (op_0 == [33]) (bd (R.fp v_1) fun r1=>cl (R.bF (!r1)) bF.g.o fun r2=>ok ((r2,0))) (br (op_0 == [118,111,105,100]) (ok ((zV,0))) (br (op_0 == [43]) (cl (R.bR v_1) bR.g.o fun r3=>br (!(r3.2 == 0)) (ok ((zV,r3.2))) (cl (R.cD r3.1) cD.g.o fun r4=>ok ((r4,0)))) (bd (α:=Bool) (br (op_0 == [45]) (ok ((op_0 == [45]))) (ok ((op_0 == [126])))) fun x5=>br x5 (cl (R.cC v_1) cC.g.o fun r6=>br (!(r6.2 == 0)) (ok ((zV,r6.2))) (bd (α:=Bool) (br (op_0 == [45]) (ok ((r6.1.1 == 4))) (ok false)) fun x7=>br x7 (cl (R.kW r6.1.2.2.1) kW.g.o fun r8=>cl (R.db r8) db.g.o fun r9=>ok ((r9,0))) (br (op_0 == [45]) (cl (R.kX r6.1.2.1) kX.g.o fun r10=>cl (R.cD r10) cD.g.o fun r11=>ok ((r11,0))) (br (r6.1.1 == 4) (ok ((zV,3))) (cl (R.lN 3 r6.1.2.1 (0,(-1))) lN.g.o fun r12=>cl (R.cD r12) cD.g.o fun r13=>ok ((r13,0))))))) (ok ((zV,3)))))))
abbrev bX.g:Sg:=⟨[.obj aG,.val true (.frz aC),.i],[(true,(.frz aC)),vi]⟩
def R.bX (r_0:aG.den) (v_1:aC.den) (s_2:Int):Res ((aC.den×Int)×aG.den) :=
 given (bX.g.i (r_0,(v_1,s_2))) (br (!(s_2 == 0)) (cl (R.aE r_0 s_2) aE.g.o fun r1=>ok r1) (ok (((v_1,0),r_0))))
abbrev aw.g:Sg:=⟨[.val false (.bor eW),.i],[vi]⟩
def R.aw (h_0:iB.den) (ref_1:Int):Res (Int) :=
 given (aw.g.i (h_0,ref_1)) (bd (R.av h_0 ref_1) fun r1=>br (!r1) (ok 0) (ct kh h_0.2 ref_1 fun e2=>ok (e2.1)))
abbrev gJ.g:Sg:=⟨[.i],[vs]⟩
def R.gJ (ref_0:Int):Res ((List UInt8)) :=
 given (gJ.g.i ref_0) (cl (R.cd) cd.g.o fun r1=>bd (α:=Bool) (br (ilt ref_0 4096) (ok true) (ok ((ile (w6 (4096+(r1.length:Int))) ref_0)))) fun x2=>br x2 (ok (([]:List UInt8))) (ai (ile 0 (w6 (ref_0-4096)) && ilt (w6 (ref_0-4096)) r1.length) (idx .str r1 (0+Int.toNat (w6 (ref_0-4096))) fun e3=>ok e3)))
abbrev iA.g:Sg:=⟨[.s],[vb]⟩
def R.iA (s_0:(List UInt8)):Res (Bool) :=
 given (iA.g.i s_0) (br (!(s_0 == ([]:List UInt8))) (br (!(s_0 == [65,116,111,109,105,99,115])) (br (!(s_0 == [36,50,54,50])) (ok ((!(s_0 == [36,50,54,50,46,97,103,101,110,116])))) (ok false)) (ok false)) (ok false))
abbrev ey.g:Sg:=⟨[.val false (.bor aG),.val true (.bor (.seq .i (.seq (.frz aI) (.seq (.seq .b (.own .w)) (.seq (.own .h) .i)))))],[vs]⟩
def R.ey (r_0:((List aF.den)×(dy.den×((List fM.den)×(Int×(iB.den×(Int×(Int×(fB.den×gY.den))))))))) (v_1:aC.den):Res ((List UInt8)) :=
 given (ey.g.i (r_0,v_1)) (br (v_1.1 == 0) (ok ([117,110,100,101,102,105,110,101,100])) (br (v_1.1 == 2) (ok ([98,111,111,108,101,97,110])) (br (v_1.1 == 3) (ok ([110,117,109,98,101,114])) (br (v_1.1 == 4) (ok ([98,105,103,105,110,116])) (br (v_1.1 == 5) (ok ([115,116,114,105,110,103])) (br (v_1.1 == 6) (bd (α:=Bool) (cl (R.aw r_0.2.2.2.2.1 v_1.2.2.2.2) aw.g.o fun r1=>br (r1 == 3) (ok true) (cl (R.gJ v_1.2.2.2.2) gJ.g.o fun r2=>bd (R.iA r2) fun r3=>ok r3)) fun x4=>br x4 (ok ([102,117,110,99,116,105,111,110])) (ok ([111,98,106,101,99,116]))) (ok ([111,98,106,101,99,116]))))))))
abbrev jB.g:Sg:=⟨[.val true (.bor (.seq .i (.seq (.frz aI) (.seq (.seq .b (.own .w)) (.seq (.own .h) .i)))))],[vb]⟩
def R.jB (v_0:aC.den):Res (Bool) :=
 given (jB.g.i v_0) (br (v_0.1 == 0) (ok true) (ok ((v_0.1 == 1))))
abbrev lM.g:Sg:=⟨[.val true (.frz aI)],[vs]⟩
def R.lM (a_0:aI.den):Res ((List UInt8)) :=
 given (lM.g.i a_0) (cl (R.eH a_0) eH.g.o fun r1=>br (r1.1 == 2) (ok ([78,97,78])) (br (r1.1 == 3) (ok ([73,110,102,105,110,105,116,121])) (br (r1.1 == 4) (ok ([45,73,110,102,105,110,105,116,121])) (cl (rn r1.2) rN.g.o fun r2=>ok r2))))
abbrev bn.g:Sg:=⟨[.obj (.own .y)],[]⟩
def R.bn (s_0:(List Int)):Res (Unit×(List Int)) :=
 given (bn.g.i s_0) (bd (loop (α:=(Int×(Int×(List Int)))) (β:=(List Int)) (fun i1=>br (ilt i1.1 i1.2.1) (ai (ile 0 i1.2.1 && ilt i1.2.1 i1.2.2.length) (idx (.int .u8) i1.2.2 (0+Int.toNat i1.2.1) fun e2=>ai (ile 0 i1.1 && ilt i1.1 i1.2.2.length) (idx (.int .u8) i1.2.2 (0+Int.toNat i1.1) fun e3=>ai (ile 0 i1.1 && ilt i1.1 i1.2.2.length) (idx (.int .u8) i1.2.2 (0+Int.toNat i1.1) fun e4=>ai (ile 0 i1.2.1 && ilt i1.2.1 (List.set i1.2.2 (0+Int.toNat i1.1) e2).length) (idx (.int .u8) (List.set i1.2.2 (0+Int.toNat i1.1) e2) (0+Int.toNat i1.2.1) fun e5=>ok (.next ((w6 (i1.1+1),(w6 (i1.2.1-1),(List.set (List.set i1.2.2 (0+Int.toNat i1.1) e2) (0+Int.toNat i1.2.1) e3)))))))))) (ok (.done (i1.2.2)))) fuel (0,(w6 ((s_0.length:Int)-1),s_0))) fun x6=>ok (((),x6)))
abbrev kE.g:Sg:=⟨[.val true (.bor (.seq .b (.own .w)))],[vs]⟩
def R.kE (a_0:az.den):Res ((List UInt8)) :=
 given (kE.g.i a_0) (cl (R.cn a_0) cn.g.o fun r1=>br ((r1.length:Int) == 0) (ok ([48])) (bd (loop (α:=((List Int)×(List Int))) (β:=(List Int)) (fun m2=>br (ilt 0 (m2.1.length:Int)) (bd (loop (α:=(Int×(Int×(List Int)))) (β:=(Int×(List Int))) (fun r3=>br (ile 0 r3.2.1) (ai (ile 0 32) (ai (ile 0 r3.2.1 && ilt r3.2.1 r3.2.2.length) (idx (.int .u32) r3.2.2 (0+Int.toNat r3.2.1) fun e4=>ai (!(10 == 0)) (ai (ile 0 r3.2.1 && ilt r3.2.1 r3.2.2.length) (idx (.int .u32) r3.2.2 (0+Int.toNat r3.2.1) fun e5=>ai (!(10 == 0)) (ok (.next ((Int.tmod (gD .or .u64 (pI .u64 r3.1 32) (IntKind.wrap .u64 e4)) 10,(w6 (r3.2.1-1),(List.set r3.2.2 (0+Int.toNat r3.2.1) (IntKind.wrap .u32 (IntKind.wrap .u64 (Int.tdiv (gD .or .u64 (pI .u64 r3.1 32) (IntKind.wrap .u64 e4)) 10)))))))))))))) (ok (.done ((r3.1,r3.2.2))))) fuel (0,(w6 ((m2.1.length:Int)-1),m2.1))) fun r6=>ai (decide ((m2.2.length+[IntKind.wrap .u8 (IntKind.wrap .u64 (48+r6.1))].length)*1<=2^47)) (cl (R.gA r6.2) gA.g.o fun r7=>ok (.next ((r7,(m2.2++[IntKind.wrap .u8 (IntKind.wrap .u64 (48+r6.1))])))))) (ok (.done (m2.2)))) fuel (r1,([]:List Int))) fun l8=>bd (R.fy a_0) fun r9=>br r9 (ai (decide ((l8.length+[45].length)*1<=2^47)) (cl (R.bn (l8++[45])) bn.g.o fun r10=>ok (rG r10.2))) (cl (R.bn l8) bn.g.o fun r11=>ok (rG r11.2))))
abbrev cx.g:Sg:=⟨[.val true (.frz aC)],[(false,(.own .h)),vi]⟩
def R.cx (v_0:aC.den):Res (((List Int)×Int)) :=
 given (cx.g.i v_0) (cl (R.bt v_0) bt.g.o fun r1=>br (r1.1 == 0) (cl (R.aj [117,110,100,101,102,105,110,101,100]) aj.g.o fun r2=>ok ((r2,0))) (br (r1.1 == 1) (cl (R.aj [110,117,108,108]) aj.g.o fun r3=>ok ((r3,0))) (br (r1.1 == 2) (br (r1.2.2.2.2 == 1) (cl (R.aj [116,114,117,101]) aj.g.o fun r4=>ok ((r4,0))) (cl (R.aj [102,97,108,115,101]) aj.g.o fun r5=>ok ((r5,0)))) (br (r1.1 == 3) (cl (R.lM r1.2.1) lM.g.o fun r6=>cl (R.aj r6) aj.g.o fun r7=>ok ((r7,0))) (br (r1.1 == 4) (cl (R.kE r1.2.2.1) kE.g.o fun r8=>cl (R.aj r8) aj.g.o fun r9=>ok ((r9,0))) (br (r1.1 == 5) (bd (ok r1.2.2.2.1) fun r10=>given (mi (.int .u16) r10) (ok ((r10,0)))) (ok ((([]:List Int),3)))))))))
abbrev bc.g:Sg:=⟨[.i],[(true,(.frz aC))]⟩
def R.bc (n_0:Int):Res (aC.den) :=
 given (bc.g.i n_0) (cl (R.cD (0,n_0)) cD.g.o fun r1=>ok r1)
abbrev eZ.g:Sg:=⟨[.val false (.bor (.own .h))],[vi,vb]⟩
def R.eZ (u_0:(List Int)):Res ((Int×Bool)) :=
 given (eZ.g.i u_0) (bd (α:=Bool) (br ((u_0.length:Int) == 0) (ok true) (br (ilt 10 (u_0.length:Int)) (ok true) (ct .h u_0 0 fun e1=>br (e1 == 48) (ok ((ilt 1 (u_0.length:Int)))) (ok false)))) fun x2=>br x2 (ok ((0,false))) (bd (loop (α:=(Int×Int)) (β:=(Int ⊕ (Int×Bool))) (fun n3=>br (ilt n3.2 (u_0.length:Int)) (ct .h u_0 n3.2 fun e4=>bd (R.gZ e4) fun r5=>br (!r5) (ok (.done (.inr (0,false)))) (ok (.next ((w6 ((w6 (10*n3.1))+(w6 (IntKind.wrap .u16 (e4-48)))),w6 (n3.2+1)))))) (ok (.done (.inl n3.1)))) fuel (0,0)) fun n6=>sum n6 (fun n7=>br (ilt 4294967294 n7) (ok ((0,false))) (ok ((n7,true)))) (fun z8=>ok z8)))
abbrev fA.g:Sg:=⟨[.obj aG,.val false (.bor (.own .h)),.val false (.bor (.own .h))],[(true,(.frz aC)),vi]⟩
def R.fA (r_0:aG.den) (u_1:(List Int)) (key_2:(List Int)):Res ((aC.den×Int)×aG.den) :=
 given (fA.g.i (r_0,(u_1,key_2))) (cl (R.aj [108,101,110,103,116,104]) aj.g.o fun r1=>bd (R.gn key_2 r1) fun r2=>br r2 (cl (R.bc (u_1.length:Int)) bc.g.o fun r3=>ok (((r3,0),r_0))) (cl (R.eZ key_2) eZ.g.o fun r4=>br (!r4.2) (cl (R.aK r_0) aK.g.o fun r5=>ok r5) (br (ile (u_1.length:Int) r4.1) (ok (((zV,0),r_0))) (ai (ile 0 r4.1 && (ile r4.1 (w6 (r4.1+1)) && ile (w6 (r4.1+1)) u_1.length)) (cl (R.b9 (List.take ((Int.toNat (w6 (r4.1+1)))-(Int.toNat r4.1)) (List.drop (0+(Int.toNat r4.1)) u_1))) b9.g.o fun r6=>ok (((r6,0),r_0)))))))
abbrev aY.g:Sg:=⟨[.val false (.bor eW),.i],[(true,jJ),vb]⟩
def R.aY (h_0:iB.den) (ref_1:Int):Res ((jJ.den×Bool)) :=
 given (aY.g.i (h_0,ref_1)) (bd (R.av h_0 ref_1) fun r1=>br (!r1) (ok (((0,(0,((),((),(([]:List UInt8),(0,(0,(zV,(0,(0,(0,(0,())))))))))))),false))) (ct kh h_0.2 ref_1 fun e2=>ok (((e2.1,(e2.2.1,((),((),(e2.2.2.2.2.1,(e2.2.2.2.2.2.1,(e2.2.2.2.2.2.2.1,(e2.2.2.2.2.2.2.2.1,(e2.2.2.2.2.2.2.2.2.1,(e2.2.2.2.2.2.2.2.2.2.1,(e2.2.2.2.2.2.2.2.2.2.2.1,(e2.2.2.2.2.2.2.2.2.2.2.2.1,())))))))))))),true))))
abbrev cA.g:Sg:=⟨[.val false (.bor eW),.i,.val false (.bor (.own .h))],[(true,(.frz aC)),vb]⟩
def R.cA (h_0:iB.den) (ref_1:Int) (key_2:(List Int)):Res ((aC.den×Bool)) :=
 given (cA.g.i (h_0,(ref_1,key_2))) (bd (R.av h_0 ref_1) fun r1=>br (!r1) (ok ((zV,false))) (cl (R.cm h_0 ref_1 key_2) cm.g.o fun r2=>br (ilt r2 0) (ok ((zV,false))) (ct kh h_0.2 ref_1 fun e3=>ct (.frz bQ) e3.2.2.1 r2 fun e4=>cl (R.di e4.2) di.g.o fun r5=>ok ((r5,true)))))
abbrev dD.g:Sg:=⟨[.val false (.bor eW),.i,.val false (.bor (.own .h))],[(true,(.frz aC)),vi,vb]⟩
def R.dD (h_0:iB.den) (ref_1:Int) (key_2:(List Int)):Res ((aC.den×(Int×Bool))) :=
 given (dD.g.i (h_0,(ref_1,key_2))) (bd (loop (α:=(Int×Int)) (β:=(Unit ⊕ (Int×(Bool×aC.den)))) (fun ref1=>br (ilt ref1.2 (h_0.2.length:Int)) (cl (R.cA h_0 ref1.1 key_2) cA.g.o fun r2=>br r2.2 (ok (.done (.inr (0,(true,r2.1))))) (bd (R.av h_0 ref1.1) fun r3=>br (!r3) (ok (.done (.inr ((-2),(false,zV))))) (ct kh h_0.2 ref1.1 fun e4=>br (ilt e4.2.1 0) (ok (.done (.inr (e4.2.1,(false,zV))))) (ok (.next ((e4.2.1,w6 (ref1.2+1)))))))) (ok (.done (.inl ())))) fuel (ref_1,0)) fun x5=>sum x5 (fun x6=>ok ((zV,((-2),false)))) (fun z7=>ok ((z7.2.2,(z7.1,z7.2.1)))))
abbrev gV.g:Sg:=⟨[.s],[vb]⟩
def R.gV (s_0:(List UInt8)):Res (Bool) :=
 given (gV.g.i s_0) (bd (α:=Bool) (br (s_0 == [99,111,110,115,116,114,117,99,116,111,114]) (ok ((s_0 == [99,111,110,115,116,114,117,99,116,111,114]))) (br (s_0 == [95,95,100,101,102,105,110,101,71,101,116,116,101,114,95,95]) (ok ((s_0 == [95,95,100,101,102,105,110,101,71,101,116,116,101,114,95,95]))) (br (s_0 == [95,95,100,101,102,105,110,101,83,101,116,116,101,114,95,95]) (ok ((s_0 == [95,95,100,101,102,105,110,101,83,101,116,116,101,114,95,95]))) (br (s_0 == [104,97,115,79,119,110,80,114,111,112,101,114,116,121]) (ok ((s_0 == [104,97,115,79,119,110,80,114,111,112,101,114,116,121]))) (br (s_0 == [95,95,108,111,111,107,117,112,71,101,116,116,101,114,95,95]) (ok ((s_0 == [95,95,108,111,111,107,117,112,71,101,116,116,101,114,95,95]))) (br (s_0 == [95,95,108,111,111,107,117,112,83,101,116,116,101,114,95,95]) (ok ((s_0 == [95,95,108,111,111,107,117,112,83,101,116,116,101,114,95,95]))) (br (s_0 == [105,115,80,114,111,116,111,116,121,112,101,79,102]) (ok ((s_0 == [105,115,80,114,111,116,111,116,121,112,101,79,102]))) (br (s_0 == [112,114,111,112,101,114,116,121,73,115,69,110,117,109,101,114,97,98,108,101]) (ok ((s_0 == [112,114,111,112,101,114,116,121,73,115,69,110,117,109,101,114,97,98,108,101]))) (br (s_0 == [116,111,83,116,114,105,110,103]) (ok ((s_0 == [116,111,83,116,114,105,110,103]))) (br (s_0 == [118,97,108,117,101,79,102]) (ok ((s_0 == [118,97,108,117,101,79,102]))) (br (s_0 == [95,95,112,114,111,116,111,95,95]) (ok ((s_0 == [95,95,112,114,111,116,111,95,95]))) (ok ((s_0 == [116,111,76,111,99,97,108,101,83,116,114,105,110,103])))))))))))))) fun x1=>br x1 (ok true) (ok false))
abbrev bG.g:Sg:=⟨[.val false (.bor eW),.i],[vi]⟩
def R.bG (h_0:iB.den) (ref_1:Int):Res (Int) :=
 given (bG.g.i (h_0,ref_1)) (bd (R.av h_0 ref_1) fun r1=>br (!r1) (ok 0) (ct kh h_0.2 ref_1 fun e2=>ok ((e2.2.2.1.length:Int))))
abbrev eu.g:Sg:=⟨[.obj aG,.i,.s,.val false (.bor (.own .h)),.b],[(true,(.frz aC)),vi]⟩
def R.eu (r_0:aG.den) (ref_1:Int) (s_2:(List UInt8)) (key_3:(List Int)) (place_4:Bool):Res ((aC.den×Int)×aG.den) :=
 given (eu.g.i (r_0,(ref_1,(s_2,(key_3,place_4))))) (br place_4 (cl (R.cA r_0.2.2.2.2.1 ref_1 key_3) cA.g.o fun r1=>ok (((r1.1,0),r_0))) (br (s_2 == [108,101,110,103,116,104]) (cl (R.bG r_0.2.2.2.2.1 ref_1) bG.g.o fun r2=>cl (R.bc r2) bc.g.o fun r3=>ok (((r3,0),r_0))) (bd (α:=Bool) (br (s_2 == [112,117,115,104]) (ok true) (ok ((s_2 == [112,111,112])))) fun x4=>br x4 (ai (lQ ([65,114,114,97,121,35].length+s_2.length)) (cl (R.cZ ([65,114,114,97,121,35]++s_2)) cZ.g.o fun r5=>ok (((r5,0),r_0)))) (cl (R.aK r_0) aK.g.o fun r6=>ok r6))))
abbrev cu.g:Sg:=⟨[.val false (.bor aG),.i],[vi]⟩
def R.cu (r_0:((List aF.den)×(dy.den×((List fM.den)×(Int×(iB.den×(Int×(Int×(fB.den×gY.den))))))))) (ref_1:Int):Res (Int) :=
 given (cu.g.i (r_0,ref_1)) (bd (R.av r_0.2.2.2.2.1 ref_1) fun r1=>br (!r1) (br (0 == 6) (ok 0) (ok 0)) (ct kh r_0.2.2.2.2.1.2 ref_1 fun e2=>br (e2.1 == 6) (ok (e2.2.2.2.2.2.2.2.2.2.2.2.1)) (ok ((e2.2.2.2.2.2.2.2.2.2.2.2.2.length:Int)))))
abbrev bO.g:Sg:=⟨[.i],[vi]⟩
def R.bO (kind_0:Int):Res (Int) :=
 given (bO.g.i kind_0) (bd (α:=Bool) (br (kind_0 == 1) (ok ((kind_0 == 1))) (ok ((kind_0 == 2)))) fun x1=>br x1 (ok 1) (bd (α:=Bool) (br (kind_0 == 3) (ok ((kind_0 == 3))) (ok ((kind_0 == 4)))) fun x2=>br x2 (ok 2) (bd (α:=Bool) (br (kind_0 == 5) (ok ((kind_0 == 5))) (ok ((kind_0 == 6)))) fun x3=>br x3 (ok 4) (bd (α:=Bool) (br (kind_0 == 7) (ok ((kind_0 == 7))) (ok ((kind_0 == 8)))) fun x4=>br x4 (ok 8) (ok 0)))))
abbrev dQ.g:Sg:=⟨[.i],[vb]⟩
def R.dQ (kind_0:Int):Res (Bool) :=
 given (dQ.g.i kind_0) (br (kind_0 == 7) (ok true) (ok ((kind_0 == 8))))
abbrev cf.g:Sg:=⟨[.i],[vi]⟩
def R.cf (size_0:Int):Res (Int) :=
 given (cf.g.i size_0) (br (size_0 == 1) (ok 2) (br (size_0 == 2) (ok 4) (br (size_0 == 4) (ok 6) (ok 8))))
abbrev gp.g:Sg:=⟨[.i,.val false (.bor (.own .y))],[(false,(.frz (.int .u64))),vb]⟩
def R.gp (kind_0:Int) (b_1:(List Int)):Res ((Int×Bool)) :=
 given (gp.g.i (kind_0,b_1)) (bd (α:=Bool) (cl (R.bO kind_0) bO.g.o fun r1=>br (r1 == 0) (ok true) (cl (R.bO kind_0) bO.g.o fun r2=>ok ((!((b_1.length:Int) == r2))))) fun x3=>br x3 (ok ((0,false))) (bd (loop (α:=(Int×Int)) (β:=Int) (fun w4=>br (ilt w4.2 (b_1.length:Int)) (ct .y b_1 w4.2 fun e5=>ai (ile 0 (w6 (8*w4.2))) (ok (.next ((gD .or .u64 w4.1 (pI .u64 (IntKind.wrap .u64 e5) (w6 (8*w4.2))),w6 (w4.2+1)))))) (ok (.done (w4.1)))) fuel (0,0)) fun w6=>ok ((w6,true))))
abbrev bP.g:Sg:=⟨[.obj aG,.val true (.frz fB)],[(true,(.frz fM)),vi]⟩
def R.bP (r_0:aG.den) (q_1:fB.den):Res ((fM.den×Int)×aG.den) :=
 given (bP.g.i (r_0,q_1)) (br (r_0.2.2.2.1 == (r_0.2.2.1.length:Int)) (cl (R.bl (r_0.1,(r_0.2.1,(r_0.2.2.1,(r_0.2.2.2.1,(r_0.2.2.2.2.1,(r_0.2.2.2.2.2.1,(r_0.2.2.2.2.2.2.1,(q_1,r_0.2.2.2.2.2.2.2.2)))))))) 0) bl.g.o fun r1=>ok ((((0,(0,(0,(0,([]:List Int))))),r1.1),r1.2))) (idx fM r_0.2.2.1 (w6 ((w6 (r_0.2.2.2.1+1))-1)) fun e2=>bd (ok e2.2.2.2.2) fun r3=>given (mi (.int .u16) r3) (ok ((((e2.1,(e2.2.1,(e2.2.2.1,(e2.2.2.2.1,r3)))),0),(r_0.1,(r_0.2.1,(r_0.2.2.1,(w6 (r_0.2.2.2.1+1),r_0.2.2.2.2)))))))))
abbrev cB.g:Sg:=⟨[.obj aG,.val true jJ,.i,.i,.b,.b],[(false,(.frz (.int .u64))),vi]⟩
def R.cB (r_0:aG.den) (c_1:jJ.den) (at_2:Int) (size_3:Int) (seq_4:Bool) (noTear_5:Bool):Res ((Int×Int)×aG.den) :=
 given (cB.g.i (r_0,(c_1,(at_2,(size_3,(seq_4,noTear_5)))))) (bd (R.av r_0.2.2.2.2.1 c_1.2.2.2.2.2.2.2.2.2.1) fun r1=>br (!r1) (br (0 == 5) (cl (R.cf size_3) cf.g.o fun r2=>ai (ile 0 at_2 && (ile at_2 (w6 (at_2+size_3)) && ile (w6 (at_2+size_3)) ([]:List Unit).length)) (cl (R.gp r2 ([]:List Int)) gp.g.o fun r3=>ok (((r3.1,0),r_0)))) (cl (R.bP r_0 (2,(0,(at_2,(size_3,(0,(seq_4,(noTear_5,(0,(0,((0,0),(([]:List Int),0)))))))))))) bP.g.o fun r4=>ok (((r4.1.1.1,r4.1.2),r4.2)))) (ct kh r_0.2.2.2.2.1.2 c_1.2.2.2.2.2.2.2.2.2.1 fun e5=>ai ((Int.toNat c_1.2.2.2.2.2.2.2.2.2.1) == (Int.toNat c_1.2.2.2.2.2.2.2.2.2.1)) (br (e5.1 == 5) (cl (R.cf size_3) cf.g.o fun r6=>ai (ile 0 at_2 && (ile at_2 (w6 (at_2+size_3)) && ile (w6 (at_2+size_3)) e5.2.2.2.2.2.2.2.2.2.2.2.2.length)) (cl (R.gp r6 (List.take ((Int.toNat (w6 (at_2+size_3)))-(Int.toNat at_2)) (List.drop (0+(Int.toNat at_2)) e5.2.2.2.2.2.2.2.2.2.2.2.2))) gp.g.o fun r7=>ok (((r7.1,0),(r_0.1,(r_0.2.1,(r_0.2.2.1,(r_0.2.2.2.1,((r_0.2.2.2.2.1.1,(List.set r_0.2.2.2.2.1.2 (Int.toNat c_1.2.2.2.2.2.2.2.2.2.1) e5)),r_0.2.2.2.2.2))))))))) (cl (R.bP (r_0.1,(r_0.2.1,(r_0.2.2.1,(r_0.2.2.2.1,((r_0.2.2.2.2.1.1,(List.set r_0.2.2.2.2.1.2 (Int.toNat c_1.2.2.2.2.2.2.2.2.2.1) e5)),r_0.2.2.2.2.2))))) (2,(e5.2.2.2.2.2.2.2.2.2.1,(at_2,(size_3,(0,(seq_4,(noTear_5,(0,(0,((0,0),(([]:List Int),0)))))))))))) bP.g.o fun r8=>ok (((r8.1.1.1,r8.1.2),r8.2))))))
abbrev gq.g:Sg:=⟨[.val false (.frz (.int .u64)),.b],[(true,(.frz az))]⟩
def R.gq (w_0:Int) (signed_1:Bool):Res (az.den) :=
 given (gq.g.i (w_0,signed_1)) (bd (α:=Bool) (br signed_1 (ai (ile 0 63) (ok (((ij .u64 w_0 63) == 1)))) (ok false)) fun neg1=>bd (α:=Int) (br neg1 (ok (IntKind.wrap .u64 (0-w_0))) (ok w_0)) fun w2=>ai (ile 0 32) (cl (R.dt [IntKind.wrap .u32 w2,IntKind.wrap .u32 (ij .u64 w2 32)] neg1) dt.g.o fun r3=>ok r3))
abbrev jG.g:Sg:=⟨[.i,.val false (.frz (.int .u64))],[(true,(.frz az))]⟩
def R.jG (kind_0:Int) (w_1:Int):Res (az.den) :=
 given (jG.g.i (kind_0,w_1)) (bd (R.dQ kind_0) fun r1=>br (!r1) (ok ((false,([]:List Int)))) (cl (R.gq w_1 (kind_0 == 7)) gq.g.o fun r2=>ok r2))
abbrev fH.g:Sg:=⟨[.i,.val false (.frz (.int .u64))],[(false,(.frz (.int .u64)))]⟩
def R.fH (kind_0:Int) (w_1:Int):Res (Int) :=
 given (fH.g.i (kind_0,w_1)) (cl (R.bO kind_0) bO.g.o fun r1=>br (ilt r1 8) (ai (ile 0 (w6 (8*r1))) (ok (gD .and .u64 w_1 (IntKind.wrap .u64 ((pI .u64 1 (w6 (8*r1)))-1))))) (ok w_1))
abbrev jH.g:Sg:=⟨[.i,.val false (.frz (.int .u64))],[(true,(.frz aI))]⟩
def R.jH (kind_0:Int) (w_1:Int):Res (aI.den) :=
 given (jH.g.i (kind_0,w_1)) (br (kind_0 == 1) (ok ((0,w6 (IntKind.wrap .i8 w_1)))) (br (kind_0 == 3) (ok ((0,w6 (IntKind.wrap .i16 w_1)))) (br (kind_0 == 5) (ok ((0,w6 (IntKind.wrap .i32 w_1)))) (bd (α:=Bool) (br (kind_0 == 2) (ok ((kind_0 == 2))) (br (kind_0 == 4) (ok ((kind_0 == 4))) (ok ((kind_0 == 6))))) fun x1=>br x1 (cl (R.fH kind_0 w_1) fH.g.o fun r2=>ok ((0,w6 r2))) (ok ((0,0)))))))
abbrev dH.g:Sg:=⟨[.i,.val false (.frz (.int .u64))],[(true,(.frz aC))]⟩
def R.dH (kind_0:Int) (w_1:Int):Res (aC.den) :=
 given (dH.g.i (kind_0,w_1)) (bd (R.dQ kind_0) fun r1=>br r1 (cl (R.jG kind_0 w_1) jG.g.o fun r2=>cl (R.db r2) db.g.o fun r3=>ok r3) (cl (R.jH kind_0 w_1) jH.g.o fun r4=>cl (R.cD r4) cD.g.o fun r5=>ok r5))
abbrev cz.g:Sg:=⟨[.obj aG,.val true jJ,.i],[(true,(.frz aC)),vi]⟩
def R.cz (r_0:aG.den) (c_1:jJ.den) (n_2:Int):Res ((aC.den×Int)×aG.den) :=
 given (cz.g.i (r_0,(c_1,n_2))) (cl (R.bO c_1.2.2.2.2.2.2.2.2.1) bO.g.o fun r1=>bd (R.dQ c_1.2.2.2.2.2.2.2.2.1) fun r2=>cl (R.cB r_0 (c_1.1,(c_1.2.1,((),((),(c_1.2.2.2.2.1,(c_1.2.2.2.2.2.1,(c_1.2.2.2.2.2.2.1,(c_1.2.2.2.2.2.2.2.1,(c_1.2.2.2.2.2.2.2.2.1,(c_1.2.2.2.2.2.2.2.2.2.1,(c_1.2.2.2.2.2.2.2.2.2.2.1,(c_1.2.2.2.2.2.2.2.2.2.2.2.1,())))))))))))) (w6 (c_1.2.2.2.2.2.2.2.2.2.2.1+(w6 (n_2*r1)))) r1 false (!r2)) cB.g.o fun r3=>br (!(r3.1.2 == 0)) (ok (((zV,r3.1.2),r3.2))) (cl (R.dH c_1.2.2.2.2.2.2.2.2.1 r3.1.1) dH.g.o fun r4=>ok (((r4,0),r3.2))))
abbrev dv.g:Sg:=⟨[.obj aG,.val true jJ,.s,.i],[(true,(.frz aC)),vi]⟩
def R.dv (r_0:aG.den) (c_1:jJ.den) (s_2:(List UInt8)) (size_3:Int):Res ((aC.den×Int)×aG.den) :=
 given (dv.g.i (r_0,(c_1,(s_2,size_3)))) (bd (α:=(Unit ⊕ (Int×aC.den))) (br (s_2 == [98,121,116,101,76,101,110,103,116,104]) (cl (R.bc (w6 (c_1.2.2.2.2.2.2.2.2.2.2.2.1*size_3))) bc.g.o fun r1=>ok (.inr (0,r1))) (br (s_2 == [98,121,116,101,79,102,102,115,101,116]) (cl (R.bc c_1.2.2.2.2.2.2.2.2.2.2.1) bc.g.o fun r2=>ok (.inr (0,r2))) (br (s_2 == [98,117,102,102,101,114]) (ok (.inr (0,(6,((0,0),((false,([]:List Int)),(([]:List Int),c_1.2.2.2.2.2.2.2.2.2.1))))))) (br (s_2 == [108,101,110,103,116,104]) (br (c_1.1 == 7) (cl (R.bc c_1.2.2.2.2.2.2.2.2.2.2.2.1) bc.g.o fun r3=>ok (.inr (0,r3))) (ok (.inl ()))) (ok (.inl ())))))) fun x4=>sum x4 (fun x5=>bd (α:=Bool) (br (c_1.1 == 8) (cl (R.cd) cd.g.o fun r7=>ai (lQ ([68,97,116,97,86,105,101,119,35].length+s_2.length)) (bd (R.aQ r7 ([68,97,116,97,86,105,101,119,35]++s_2)) fun r8=>ok r8)) (ok false)) fun x9=>br x9 (ai (lQ ([68,97,116,97,86,105,101,119,35].length+s_2.length)) (cl (R.cZ ([68,97,116,97,86,105,101,119,35]++s_2)) cZ.g.o fun r10=>ok (((r10,0),r_0)))) (cl (R.aK r_0) aK.g.o fun r11=>ok r11)) (fun z6=>ok (((z6.2,z6.1),r_0))))
abbrev dW.g:Sg:=⟨[.obj aG,.i,.val false (.bor (.own .h))],[(true,(.frz aC)),vi]⟩
def R.dW (r_0:aG.den) (ref_1:Int) (key_2:(List Int)):Res ((aC.den×Int)×aG.den) :=
 given (dW.g.i (r_0,(ref_1,key_2))) (cl (R.eT key_2) eT.g.o fun r1=>bd (α:=(List UInt8)) (br (!r1.2) (ok ([35])) (ok (r1.1))) fun s2=>cl (R.aY r_0.2.2.2.2.1 ref_1) aY.g.o fun r3=>br (!r3.2) (cl (R.gJ ref_1) gJ.g.o fun r4=>cl (R.fe r4) fe.g.o fun r5=>bd (R.aQ r5 s2) fun r6=>br r6 (ai (lQ (r4.length+[46].length)) (ai (lQ ((r4++[46]).length+s2.length)) (cl (R.cZ ((r4++[46])++s2)) cZ.g.o fun r7=>ok (((r7,0),r_0))))) (cl (R.aK r_0) aK.g.o fun r8=>ok r8)) (cl (R.eZ key_2) eZ.g.o fun r9=>br (r3.1.1 == 1) (cl (R.dD r_0.2.2.2.2.1 ref_1 key_2) dD.g.o fun r10=>bd (α:=Bool) (br (!r10.2.2) (br (r10.2.1 == (-1)) (bd (R.gV s2) fun r11=>ok r11) (ok false)) (ok false)) fun x12=>br x12 (cl (R.aK r_0) aK.g.o fun r13=>ok r13) (ok (((r10.1,0),r_0)))) (br (r3.1.1 == 2) (cl (R.eu r_0 ref_1 s2 key_2 r9.2) eu.g.o fun r14=>ok r14) (br (r3.1.1 == 3) (cl (R.cA r_0.2.2.2.2.1 ref_1 key_2) cA.g.o fun r15=>br r15.2 (ok (((r15.1,0),r_0))) (cl (R.aK r_0) aK.g.o fun r16=>ok r16)) (br (r3.1.1 == 10) (br (s2 == [110,97,109,101]) (cl (R.aj r3.1.2.2.2.2.1) aj.g.o fun r17=>cl (R.b9 r17) b9.g.o fun r18=>ok (((r18,0),r_0))) (br (s2 == [109,101,115,115,97,103,101]) (ok (((r3.1.2.2.2.2.2.2.2.1,0),r_0))) (cl (R.aK r_0) aK.g.o fun r19=>ok r19))) (bd (α:=Bool) (br (r3.1.1 == 5) (ok ((r3.1.1 == 5))) (ok ((r3.1.1 == 6)))) fun x20=>br x20 (br (s2 == [98,121,116,101,76,101,110,103,116,104]) (cl (R.cu r_0 ref_1) cu.g.o fun r21=>cl (R.bc r21) bc.g.o fun r22=>ok (((r22,0),r_0))) (cl (R.aK r_0) aK.g.o fun r23=>ok r23)) (br (r3.1.1 == 7) (br r9.2 (br (ile r3.1.2.2.2.2.2.2.2.2.2.2.2.1 r9.1) (ok (((zV,0),r_0))) (cl (R.cz r_0 (r3.1.1,(r3.1.2.1,((),((),(r3.1.2.2.2.2.1,(r3.1.2.2.2.2.2.1,(r3.1.2.2.2.2.2.2.1,(r3.1.2.2.2.2.2.2.2.1,(r3.1.2.2.2.2.2.2.2.2.1,(r3.1.2.2.2.2.2.2.2.2.2.1,(r3.1.2.2.2.2.2.2.2.2.2.2.1,(r3.1.2.2.2.2.2.2.2.2.2.2.2.1,())))))))))))) r9.1) cz.g.o fun r24=>ok r24)) (cl (R.bO r3.1.2.2.2.2.2.2.2.2.1) bO.g.o fun r25=>cl (R.dv r_0 (r3.1.1,(r3.1.2.1,((),((),(r3.1.2.2.2.2.1,(r3.1.2.2.2.2.2.1,(r3.1.2.2.2.2.2.2.1,(r3.1.2.2.2.2.2.2.2.1,(r3.1.2.2.2.2.2.2.2.2.1,(r3.1.2.2.2.2.2.2.2.2.2.1,(r3.1.2.2.2.2.2.2.2.2.2.2.1,(r3.1.2.2.2.2.2.2.2.2.2.2.2.1,())))))))))))) s2 r25) dv.g.o fun r26=>ok r26)) (br (r3.1.1 == 8) (cl (R.dv r_0 (r3.1.1,(r3.1.2.1,((),((),(r3.1.2.2.2.2.1,(r3.1.2.2.2.2.2.1,(r3.1.2.2.2.2.2.2.1,(r3.1.2.2.2.2.2.2.2.1,(r3.1.2.2.2.2.2.2.2.2.1,(r3.1.2.2.2.2.2.2.2.2.2.1,(r3.1.2.2.2.2.2.2.2.2.2.2.1,(r3.1.2.2.2.2.2.2.2.2.2.2.2.1,())))))))))))) s2 1) dv.g.o fun r27=>ok r27) (cl (R.aK r_0) aK.g.o fun r28=>ok r28)))))))))
abbrev dP.g:Sg:=⟨[.obj aG,.val true (.frz fi)],[(true,(.frz aC)),vi]⟩
def R.dP (r_0:aG.den) (p_1:fi.den):Res ((aC.den×Int)×aG.den) :=
 given (dP.g.i (r_0,p_1)) (bd (R.jB p_1.2.1) fun r1=>br r1 (cl (R.aE r_0 1) aE.g.o fun r2=>ok r2) (cl (R.cx p_1.2.2) cx.g.o fun r3=>br (!(r3.2 == 0)) (cl (R.aE r_0 r3.2) aE.g.o fun r4=>ok r4) (br (p_1.2.1.1 == 5) (cl (R.fA r_0 p_1.2.1.2.2.2.1 r3.1) fA.g.o fun r5=>ok r5) (br (p_1.2.1.1 == 6) (cl (R.dW r_0 p_1.2.1.2.2.2.2 r3.1) dW.g.o fun r6=>ok r6) (cl (R.aK r_0) aK.g.o fun r7=>ok r7)))))
abbrev dd.g:Sg:=⟨[.obj aG,.val true (.frz fi),.val true (.bor (.seq .i (.seq (.seq .i (.seq (.frz aI) (.seq (.seq .b (.own .w)) (.seq (.own .h) .i)))) .b)))],[(true,(.frz aC)),vi]⟩
def R.dd (r_0:aG.den) (p_1:fi.den) (e_2:aO.den):Res ((aC.den×Int)×aG.den) :=
 given (dd.g.i (r_0,(p_1,e_2))) (br (!(p_1.1 == ([]:List UInt8))) (cl (R.dc r_0 p_1.1 e_2) dc.g.o fun r1=>ok r1) (cl (R.dP r_0 p_1) dP.g.o fun r2=>ok r2))
abbrev jt.g:Sg:=⟨[.i],[(true,(.frz az))]⟩
def R.jt (n_0:Int):Res (az.den) :=
 given (jt.g.i n_0) (bd (α:=Int) (br (ilt n_0 0) (ok (IntKind.wrap .u64 (0-(IntKind.wrap .u64 n_0)))) (ok (IntKind.wrap .u64 n_0))) fun u1=>ai (ile 0 32) (cl (R.dt [IntKind.wrap .u32 u1,IntKind.wrap .u32 (ij .u64 u1 32)] (ilt n_0 0)) dt.g.o fun r2=>ok r2))
abbrev lI.g:Sg:=⟨[.val false (.bor (.own .w)),.val false (.bor (.own .w))],[(false,(.own .w))]⟩
def R.lI (a_0:(List Int)) (b_1:(List Int)):Res ((List Int)) :=
 given (lI.g.i (a_0,b_1)) (bd (loop (α:=((List Int)×(Int×Int))) (β:=((List Int)×Int)) (fun l1=>br (ilt l1.2.2 (pH (a_0.length:Int) (b_1.length:Int))) (bd (α:=Int) (br (ilt l1.2.2 (a_0.length:Int)) (ct .w a_0 l1.2.2 fun e2=>ok (IntKind.wrap .u64 (l1.2.1+(IntKind.wrap .u64 e2)))) (ok (l1.2.1))) fun c3=>bd (α:=Int) (br (ilt l1.2.2 (b_1.length:Int)) (ct .w b_1 l1.2.2 fun e4=>ok (IntKind.wrap .u64 (c3+(IntKind.wrap .u64 e4)))) (ok c3)) fun c5=>ai (decide ((l1.1.length+[IntKind.wrap .u32 c5].length)*4<=2^47)) (ai (ile 0 32) (ok (.next (((l1.1++[IntKind.wrap .u32 c5]),(ij .u64 c5 32,w6 (l1.2.2+1)))))))) (ok (.done ((l1.1,l1.2.1))))) fuel (([]:List Int),(0,0))) fun l6=>ai (decide ((l6.1.length+[IntKind.wrap .u32 l6.2].length)*4<=2^47)) (ok ((l6.1++[IntKind.wrap .u32 l6.2]))))
abbrev iq.g:Sg:=⟨[.val false (.frz (.list (.int .u32))),.b],[(true,(.frz az)),vb]⟩
def R.iq (m_0:(List Int)) (neg_1:Bool):Res ((az.den×Bool)) :=
 given (iq.g.i (m_0,neg_1)) (cl (R.iF m_0) iF.g.o fun r1=>br (ilt 8 (r1.length:Int)) (ok (((false,([]:List Int)),false))) (cl (R.dt r1 neg_1) dt.g.o fun r2=>ok ((r2,true))))
abbrev ki.g:Sg:=⟨[.i],[vi]⟩
def R.ki (n_0:Int):Res (Int) :=
 given (ki.g.i n_0) (ok ((kv (pH n_0 (-1)) 1)))
abbrev jk.g:Sg:=⟨[.val false (.bor (.own .w)),.val false (.bor (.own .w))],[vi]⟩
def R.jk (a_0:(List Int)) (b_1:(List Int)):Res (Int) :=
 given (jk.g.i (a_0,b_1)) (br (!((a_0.length:Int) == (b_1.length:Int))) (cl (R.ki (w6 ((a_0.length:Int)-(b_1.length:Int)))) ki.g.o fun r1=>ok r1) (bd (loop (α:=Int) (β:=(Unit ⊕ Int)) (fun i2=>br (ile 0 i2) (ct .w a_0 i2 fun e3=>ct .w b_1 i2 fun e4=>br (!(e3 == e4)) (ct .w a_0 i2 fun e5=>ct .w b_1 i2 fun e6=>cl (R.ki (w6 ((w6 e5)-(w6 e6)))) ki.g.o fun r7=>ok (.done (.inr r7))) (ok (.next (w6 (i2-1))))) (ok (.done (.inl ())))) fuel (w6 ((a_0.length:Int)-1))) fun x8=>sum x8 (fun x9=>ok 0) (fun z10=>ok z10)))
abbrev jK.g:Sg:=⟨[.val false .w,.val false .w,.val false .w],[(false,.w),(false,.w)]⟩
def R.jK (x_0:Int) (y_1:Int) (borrow_2:Int):Res ((Int×Int)) :=
 given (jK.g.i (x_0,(y_1,borrow_2))) (ai (ile 0 31) (ok ((IntKind.wrap .u32 ((IntKind.wrap .u32 (x_0-y_1))-borrow_2),ij .u32 (gD .or .u32 (gD .and .u32 (gD .xor .u32 (IntKind.max .u32) x_0) y_1) (gD .and .u32 (gD .xor .u32 (IntKind.max .u32) (gD .xor .u32 x_0 y_1)) (IntKind.wrap .u32 ((IntKind.wrap .u32 (x_0-y_1))-borrow_2)))) 31))))
abbrev iR.g:Sg:=⟨[.val false (.bor (.own .w)),.val false (.bor (.own .w))],[(false,(.own .w))]⟩
def R.iR (a_0:(List Int)) (b_1:(List Int)):Res ((List Int)) :=
 given (iR.g.i (a_0,b_1)) (bd (loop (α:=((List Int)×(Int×Int))) (β:=(List Int)) (fun l1=>br (ilt l1.2.2 (a_0.length:Int)) (ct .w a_0 l1.2.2 fun e2=>bd (α:=Int) (br (ilt l1.2.2 (b_1.length:Int)) (ct .w b_1 l1.2.2 fun e3=>ok e3) (ok 0)) fun y4=>cl (R.jK e2 y4 l1.2.1) jK.g.o fun r5=>ai (decide ((l1.1.length+[r5.1].length)*4<=2^47)) (ok (.next (((l1.1++[r5.1]),(r5.2,w6 (l1.2.2+1))))))) (ok (.done (l1.1)))) fuel (([]:List Int),(0,0))) fun l6=>ok l6)
abbrev kU.g:Sg:=⟨[.val true (.bor (.seq .b (.own .w))),.val true (.bor (.seq .b (.own .w)))],[(true,(.frz az)),vb]⟩
def R.kU (a_0:az.den) (b_1:az.den):Res ((az.den×Bool)) :=
 given (kU.g.i (a_0,b_1)) (cl (R.cn a_0) cn.g.o fun r1=>cl (R.cn b_1) cn.g.o fun r2=>bd (R.fy a_0) fun r3=>bd (R.fy b_1) fun r4=>br (r3 == r4) (cl (R.lI r1 r2) lI.g.o fun r5=>bd (R.fy a_0) fun r6=>cl (R.iq r5 r6) iq.g.o fun r7=>ok r7) (cl (R.jk r1 r2) jk.g.o fun r8=>br (ilt r8 0) (cl (R.iR r2 r1) iR.g.o fun r9=>bd (R.fy b_1) fun r10=>cl (R.iq r9 r10) iq.g.o fun r11=>ok r11) (cl (R.iR r1 r2) iR.g.o fun r12=>bd (R.fy a_0) fun r13=>cl (R.iq r12 r13) iq.g.o fun r14=>ok r14)))
abbrev fE.g:Sg:=⟨[.val true (.frz az),.b],[(true,(.frz aC)),vi]⟩
def R.fE (b_0:az.den) (ok_1:Bool):Res ((aC.den×Int)) :=
 given (fE.g.i (b_0,ok_1)) (br (!ok_1) (ok ((zV,3))) (cl (R.db b_0) db.g.o fun r1=>ok ((r1,0))))
abbrev eM.g:Sg:=⟨[.val true (.frz aI)],[vb]⟩
def R.eM (a_0:aI.den):Res (Bool) :=
 given (eM.g.i a_0) (br (a_0.1 == 3) (ok true) (ok ((a_0.1 == 4))))
abbrev mY.g:Sg:=⟨[.i],[(true,(.frz aI)),vb]⟩
def R.mY (n_0:Int):Res ((aI.den×Bool)) :=
 given (mY.g.i n_0) (bd (α:=Bool) (br (ilt n_0 (-9007199254740991)) (ok true) (ok ((ilt 9007199254740991 n_0)))) fun x1=>br x1 (cl (R.eP) eP.g.o fun r2=>ok ((r2,false))) (cl (R.cP n_0) cP.g.o fun r3=>ok ((r3,true))))
abbrev ke.g:Sg:=⟨[.val true (.frz aI),.val true (.frz aI)],[(true,(.frz aI)),vb]⟩
def R.ke (a_0:aI.den) (b_1:aI.den):Res ((aI.den×Bool)) :=
 given (ke.g.i (a_0,b_1)) (cl (R.eH a_0) eH.g.o fun r1=>cl (R.eH b_1) eH.g.o fun r2=>bd (α:=Bool) (bd (R.eg r1) fun r3=>br r3 (ok true) (bd (R.eg r2) fun r4=>br r4 (ok true) (bd (R.eM r1) fun r5=>br r5 (bd (R.eM r2) fun r6=>br r6 (ok ((!(r1.1 == r2.1)))) (ok false)) (ok false)))) fun x7=>br x7 (cl (R.eP) eP.g.o fun r8=>ok ((r8,true))) (bd (R.eM r1) fun r9=>br r9 (ok ((r1,true))) (bd (R.eM r2) fun r10=>br r10 (ok ((r2,true))) (bd (α:=Bool) (br (r1.1 == 1) (ok ((r2.1 == 1))) (ok false)) fun x11=>br x11 (ok ((r1,true))) (cl (R.mY (w6 (r1.2+r2.2))) mY.g.o fun r12=>ok r12)))))
abbrev cg.g:Sg:=⟨[.val true (.frz aI),.b],[(true,(.frz aC)),vi]⟩
def R.cg (a_0:aI.den) (ok_1:Bool):Res ((aC.den×Int)) :=
 given (cg.g.i (a_0,ok_1)) (br (!ok_1) (ok ((zV,3))) (cl (R.cD a_0) cD.g.o fun r1=>ok ((r1,0))))
abbrev kR.g:Sg:=⟨[.val true (.frz aC),.i],[(true,(.frz aC)),vi]⟩
def R.kR (v_0:aC.den) (by_1:Int):Res ((aC.den×Int)) :=
 given (kR.g.i (v_0,by_1)) (cl (R.cC v_0) cC.g.o fun r1=>br (!(r1.2 == 0)) (ok ((zV,r1.2))) (bd (α:=Bool) (br (!(by_1 == 1)) (ok ((!(by_1 == (-1))))) (ok false)) fun x2=>br x2 (ok ((zV,3))) (br (r1.1.1 == 4) (cl (R.jt by_1) jt.g.o fun r3=>cl (R.kU r1.1.2.2.1 r3) kU.g.o fun r4=>cl (R.fE r4.1 r4.2) fE.g.o fun r5=>ok r5) (cl (R.ke r1.1.2.1 (0,by_1)) ke.g.o fun r6=>cl (R.cg r6.1 r6.2) cg.g.o fun r7=>ok r7))))
abbrev eA.g:Sg:=⟨[.obj aG,.s,.val true (.frz aC),.val true (.bor (.seq .i (.seq (.seq .i (.seq (.frz aI) (.seq (.seq .b (.own .w)) (.seq (.own .h) .i)))) .b)))],[(true,(.frz aC)),vi]⟩
def R.eA (r_0:aG.den) (s_1:(List UInt8)) (v_2:aC.den) (e_3:aO.den):Res ((aC.den×Int)×aG.den) :=
 given (eA.g.i (r_0,(s_1,(v_2,e_3)))) (cl (R.dE r_0.2.2.2.2.1 e_3.1 s_1) dE.g.o fun r1=>bd (α:=Bool) (br r1.2.2 (ok ((!r1.1.2.2.1))) (ok false)) fun x2=>br x2 (cl (R.aE r_0 4) aE.g.o fun r3=>ok r3) (bd (α:=Bool) (br r1.2.2 (ok (r1.1.2.2.2)) (ok false)) fun x4=>br x4 (cl (R.aE r_0 1) aE.g.o fun r5=>ok r5) (br r1.2.2 (cl (R.cQ r_0.2.2.2.2.1 r1.2.1 s_1 v_2 true) cQ.g.o fun r6=>ok (((v_2,0),(r_0.1,(r_0.2.1,(r_0.2.2.1,(r_0.2.2.2.1,(r6.2,r_0.2.2.2.2.2)))))))) (cl (R.iD s_1) iD.g.o fun r7=>bd (α:=Bool) (br r7.2 (ok true) (bd (R.jx s_1) fun r8=>ok r8)) fun x9=>br x9 (cl (R.aK r_0) aK.g.o fun r10=>ok r10) (cl (R.aE r_0 4) aE.g.o fun r11=>ok r11)))))
abbrev jF.g:Sg:=⟨[.val false .h],[vb]⟩
def R.jF (x_0:Int):Res (Bool) :=
 given (jF.g.i x_0) (br (x_0 == 32) (ok true) (br (x_0 == 9) (ok true) (br (x_0 == 10) (ok true) (ok ((x_0 == 13))))))
abbrev kP.g:Sg:=⟨[.val false (.frz (.list (.int .u16)))],[(false,(.frz (.list (.int .u16))))]⟩
def R.kP (u_0:(List Int)):Res ((List Int)) :=
 given (kP.g.i u_0) (bd (loop (α:=(List Int)) (β:=(List Int)) (fun u1=>bd (α:=Bool) (br (ilt 0 (u1.length:Int)) (idx (.int .u16) u1 0 fun e2=>bd (R.jF e2) fun r3=>ok r3) (ok false)) fun x4=>br x4 (ai (ile 0 1 && ile 1 u1.length) (ok (.next ((List.drop (Int.toNat 1) u1))))) (ok (.done (u1)))) fuel u_0) fun u5=>bd (loop (α:=(List Int)) (β:=(List Int)) (fun u6=>bd (α:=Bool) (br (ilt 0 (u6.length:Int)) (idx (.int .u16) u6 (w6 ((u6.length:Int)-1)) fun e7=>bd (R.jF e7) fun r8=>ok r8) (ok false)) fun x9=>br x9 (ai (ile 0 (w6 ((u6.length:Int)-1)) && ile (w6 ((u6.length:Int)-1)) u6.length) (ok (.next ((List.take (Int.toNat (w6 ((u6.length:Int)-1))) u6))))) (ok (.done (u6)))) fuel u5) fun u10=>ok u10)
abbrev iU.g:Sg:=⟨[.val false .h],[vb]⟩
def R.iU (x_0:Int):Res (Bool) :=
 given (iU.g.i x_0) (br (ile 48 x_0) (ok ((ile x_0 57))) (ok false))
abbrev iv.g:Sg:=⟨[.val false (.bor (.own .h))],[vb]⟩
def R.iv (u_0:(List Int)):Res (Bool) :=
 given (iv.g.i u_0) (bd (loop (α:=Int) (β:=(Unit ⊕ Bool)) (fun x1=>br (ilt x1 (u_0.length:Int)) (ct .h u_0 x1 fun e2=>bd (R.iU e2) fun r3=>br (!r3) (ok (.done (.inr false))) (ok (.next (w6 (x1+1))))) (ok (.done (.inl ())))) fuel 0) fun x4=>sum x4 (fun x5=>ok ((ilt 0 (u_0.length:Int)))) (fun z6=>ok z6))
abbrev jm.g:Sg:=⟨[.s],[vb]⟩
def R.jm (s_0:(List UInt8)):Res (Bool) :=
 given (jm.g.i s_0) (bd (loop (α:=Int) (β:=(Unit ⊕ Bool)) (fun x1=>br (ilt x1 (s_0.length:Int)) (bd (α:=Bool) (idx (.int .u8) (lU s_0) x1 fun e2=>br (ilt e2 48) (ok true) (idx (.int .u8) (lU s_0) x1 fun e3=>ok ((ilt 57 e3)))) fun x4=>br x4 (ok (.done (.inr false))) (ok (.next (w6 (x1+1))))) (ok (.done (.inl ())))) fuel 0) fun x5=>sum x5 (fun x6=>br (!(s_0 == ([]:List UInt8))) (idx (.int .u8) (lU s_0) 0 fun e8=>br (!(e8 == 48)) (ok true) (ok ((s_0 == [48])))) (ok false)) (fun z7=>ok z7))
abbrev kN.g:Sg:=⟨[.s],[(true,(.frz az)),vi]⟩
def R.kN (s_0:(List UInt8)):Res ((az.den×Int)) :=
 given (kN.g.i s_0) (bd (α:=((List UInt8)×Bool)) (br (ilt 0 (s_0.length:Int)) (idx (.int .u8) (lU s_0) 0 fun e1=>ok ((s_0,(e1 == 45)))) (ok ((s_0,false)))) fun d2=>bd (α:=(List UInt8)) (br d2.2 (ai (ile 0 1 && ile 1 s_0.length) (ok ((List.drop (Int.toNat 1) s_0)))) (ok (d2.1))) fun d3=>bd (α:=Bool) (bd (R.jm d3) fun r4=>br (!r4) (ok true) (ok ((s_0 == [45,48])))) fun x5=>br x5 (ok (((false,([]:List Int)),2))) (bd (loop (α:=((List Int)×Int)) (β:=((List Int) ⊕ (Int×az.den))) (fun m6=>br (ilt m6.2 (d3.length:Int)) (idx (.int .u8) (lU d3) m6.2 fun e7=>bd (loop (α:=(Int×(Int×(List Int)))) (β:=(Int×(List Int))) (fun c8=>br (ilt c8.2.1 (m6.1.length:Int)) (ai (ile 0 c8.2.1 && ilt c8.2.1 c8.2.2.length) (idx (.int .u32) c8.2.2 (0+Int.toNat c8.2.1) fun e9=>ai (ile 0 c8.2.1 && ilt c8.2.1 c8.2.2.length) (idx (.int .u32) c8.2.2 (0+Int.toNat c8.2.1) fun e10=>ai (ile 0 32) (ok (.next ((ij .u64 (IntKind.wrap .u64 (c8.1+(IntKind.wrap .u64 (10*(IntKind.wrap .u64 e9))))) 32,(w6 (c8.2.1+1),(List.set c8.2.2 (0+Int.toNat c8.2.1) (IntKind.wrap .u32 (IntKind.wrap .u64 (c8.1+(IntKind.wrap .u64 (10*(IntKind.wrap .u64 e9))))))))))))))) (ok (.done ((c8.1,c8.2.2))))) fuel (IntKind.wrap .u64 (IntKind.wrap .u8 (e7-48)),(0,m6.1))) fun c11=>ai (decide ((c11.2.length+[IntKind.wrap .u32 c11.1].length)*4<=2^47)) (cl (R.gA (c11.2++[IntKind.wrap .u32 c11.1])) gA.g.o fun r12=>br (ilt 8 (r12.length:Int)) (ok (.done (.inr (3,(false,([]:List Int)))))) (ok (.next ((r12,w6 (m6.2+1))))))) (ok (.done (.inl m6.1)))) fuel (([]:List Int),0)) fun m13=>sum m13 (fun m14=>cl (R.dt m14 d2.2) dt.g.o fun r16=>ok ((r16,0))) (fun z15=>ok ((z15.2,z15.1)))))
abbrev iI.g:Sg:=⟨[.val false (.bor (.own .h))],[vb]⟩
def R.iI (u_0:(List Int)):Res (Bool) :=
 given (iI.g.i u_0) (bd (loop (α:=(Bool×Int)) (β:=(Bool ⊕ Bool)) (fun some1=>br (ilt some1.2 (u_0.length:Int)) (ct .h u_0 some1.2 fun e2=>bd (α:=Bool) (br some1.1 (ok true) (bd (R.iU e2) fun r3=>ok r3)) fun some4=>bd (α:=Bool) (bd (R.iU e2) fun r5=>br (!r5) (br (ilt e2 97) (br (ilt e2 65) (br (!(e2 == 120)) (br (!(e2 == 88)) (br (!(e2 == 111)) (ok ((!(e2 == 79)))) (ok false)) (ok false)) (ok false)) (br (ilt 70 e2) (br (!(e2 == 120)) (br (!(e2 == 88)) (br (!(e2 == 111)) (ok ((!(e2 == 79)))) (ok false)) (ok false)) (ok false)) (ok false))) (br (ilt 102 e2) (br (ilt e2 65) (br (!(e2 == 120)) (br (!(e2 == 88)) (br (!(e2 == 111)) (ok ((!(e2 == 79)))) (ok false)) (ok false)) (ok false)) (br (ilt 70 e2) (br (!(e2 == 120)) (br (!(e2 == 88)) (br (!(e2 == 111)) (ok ((!(e2 == 79)))) (ok false)) (ok false)) (ok false)) (ok false))) (ok false))) (ok false)) fun x6=>br x6 (ok (.done (.inr false))) (ok (.next ((some4,w6 (some1.2+1)))))) (ok (.done (.inl some1.1)))) fuel (false,0)) fun some7=>sum some7 (fun some8=>ok some8) (fun z9=>ok z9))
abbrev iT.g:Sg:=⟨[.val false (.frz (.list (.int .u16)))],[(true,(.frz az)),vi]⟩
def R.iT (u_0:(List Int)):Res ((az.den×Int)) :=
 given (iT.g.i u_0) (cl (R.kP u_0) kP.g.o fun r1=>br ((r1.length:Int) == 0) (ok (((false,([]:List Int)),0))) (idx (.int .u16) r1 0 fun e2=>bd (α:=(List Int)) (bd (α:=Bool) (br (e2 == 45) (ok true) (idx (.int .u16) r1 0 fun e3=>ok ((e3 == 43)))) fun x4=>br x4 (ai (ile 0 1 && ile 1 r1.length) (ok ((List.drop (Int.toNat 1) r1)))) (ok r1)) fun d5=>bd (R.iv d5) fun r6=>br r6 (bd (loop (α:=(List Int)) (β:=(List Int)) (fun d7=>bd (α:=Bool) (br (ilt 1 (d7.length:Int)) (idx (.int .u16) d7 0 fun e8=>ok ((e8 == 48))) (ok false)) fun x9=>br x9 (ai (ile 0 1 && ile 1 d7.length) (ok (.next ((List.drop (Int.toNat 1) d7))))) (ok (.done (d7)))) fuel d5) fun d10=>cl (R.eT d10) eT.g.o fun r11=>cl (R.kN r11.1) kN.g.o fun r12=>br (!(r12.2 == 0)) (ok (((false,([]:List Int)),3))) (br (e2 == 45) (cl (R.kW r12.1) kW.g.o fun r13=>ok ((r13,0))) (ok ((r12.1,0))))) (bd (R.iI r1) fun r14=>br r14 (ok (((false,([]:List Int)),3))) (ok (((false,([]:List Int)),5))))))
abbrev fN.g:Sg:=⟨[.val true (.frz aC)],[(true,(.frz az)),vi]⟩
def R.fN (v_0:aC.den):Res ((az.den×Int)) :=
 given (fN.g.i v_0) (cl (R.bt v_0) bt.g.o fun r1=>br (r1.1 == 2) (cl (R.jt r1.2.2.2.2) jt.g.o fun r2=>ok ((r2,0))) (br (r1.1 == 4) (cl (R.j9 r1.2.2.1) j9.g.o fun r3=>ok ((r3,0))) (br (r1.1 == 5) (cl (R.iT r1.2.2.2.1) iT.g.o fun r4=>ok r4) (br (r1.1 == 6) (ok (((false,([]:List Int)),3))) (ok (((false,([]:List Int)),1)))))))
end Go.Mach
end

set_option linter.unusedVariables false
set_option maxRecDepth 20000
noncomputable section
namespace Go.Mach
open Res
abbrev mL.g:Sg:=⟨[.val false (.bor (.own .w)),.i],[(false,(.own .w))]⟩
def R.mL (m_0:(List Int)) (n_1:Int):Res ((List Int)) :=
 given (mL.g.i (m_0,n_1)) (ai (ile 0 8 && (ile 8 8 && decide ((Int.toNat 8)*4<=2^47))) (bd (loop (α:=(Int×(List Int))) (β:=(List Int)) (fun x1=>br (ilt x1.1 ((List.take 0 (List.replicate (Int.toNat 8) (0:Int))++(List.take (min m_0.length (List.replicate (Int.toNat 8) (0:Int)).length) m_0++List.drop (0+(min m_0.length (List.replicate (Int.toNat 8) (0:Int)).length)) (List.replicate (Int.toNat 8) (0:Int)))).length:Int)) (br (ile n_1 (w6 (32*x1.1))) (ai (ile 0 x1.1 && ilt x1.1 x1.2.length) (idx (.int .u32) x1.2 (0+Int.toNat x1.1) fun e2=>ok (.next ((w6 (x1.1+1),(List.set x1.2 (0+Int.toNat x1.1) 0)))))) (br (ilt n_1 (w6 ((w6 (32*x1.1))+32))) (ai (ile 0 x1.1 && ilt x1.1 x1.2.length) (idx (.int .u32) x1.2 (0+Int.toNat x1.1) fun e3=>ai (ile 0 (w6 (n_1-(w6 (32*x1.1))))) (ai (ile 0 x1.1 && ilt x1.1 x1.2.length) (idx (.int .u32) x1.2 (0+Int.toNat x1.1) fun e4=>ok (.next ((w6 (x1.1+1),(List.set x1.2 (0+Int.toNat x1.1) (gD .and .u32 e3 (IntKind.wrap .u32 ((pI .u32 1 (w6 (n_1-(w6 (32*x1.1)))))-1))))))))))) (ok (.next ((w6 (x1.1+1),x1.2)))))) (ok (.done (x1.2)))) fuel (0,(List.take 0 (List.replicate (Int.toNat 8) (0:Int))++(List.take (min m_0.length (List.replicate (Int.toNat 8) (0:Int)).length) m_0++List.drop (0+(min m_0.length (List.replicate (Int.toNat 8) (0:Int)).length)) (List.replicate (Int.toNat 8) (0:Int)))))) fun x5=>ok x5))
abbrev kF.g:Sg:=⟨[.i],[(false,(.own .w))]⟩
def R.kF (n_0:Int):Res ((List Int)) :=
 given (kF.g.i n_0) (ai (!(32 == 0)) (ai (ile 0 (w6 ((w6 (Int.tdiv n_0 32))+1)) && (ile (w6 ((w6 (Int.tdiv n_0 32))+1)) (w6 ((w6 (Int.tdiv n_0 32))+1)) && decide ((Int.toNat (w6 ((w6 (Int.tdiv n_0 32))+1)))*4<=2^47))) (ai (!(32 == 0)) (ai (!(32 == 0)) (ai (ile 0 (Int.tmod n_0 32)) (ai (ile 0 (w6 (Int.tdiv n_0 32)) && ilt (w6 (Int.tdiv n_0 32)) (List.replicate (Int.toNat (w6 ((w6 (Int.tdiv n_0 32))+1))) (0:Int)).length) (idx (.int .u32) (List.replicate (Int.toNat (w6 ((w6 (Int.tdiv n_0 32))+1))) (0:Int)) (0+Int.toNat (w6 (Int.tdiv n_0 32))) fun e1=>ok ((List.set (List.replicate (Int.toNat (w6 ((w6 (Int.tdiv n_0 32))+1))) (0:Int)) (0+Int.toNat (w6 (Int.tdiv n_0 32))) (pI .u32 1 (Int.tmod n_0 32)))))))))))
abbrev ir.g:Sg:=⟨[.i,.val true (.bor (.seq .b (.own .w)))],[(true,(.frz az)),vi]⟩
def R.ir (n_0:Int) (a_1:az.den):Res ((az.den×Int)) :=
 given (ir.g.i (n_0,a_1)) (bd (α:=Bool) (br (ilt n_0 0) (ok true) (ok ((ilt 256 n_0)))) fun x1=>br x1 (ok (((false,([]:List Int)),1))) (cl (R.cn a_1) cn.g.o fun r2=>cl (R.mL r2 n_0) mL.g.o fun r3=>cl (R.gA r3) gA.g.o fun r4=>bd (α:=Bool) (bd (R.fy a_1) fun r5=>br r5 (ok ((ilt 0 (r4.length:Int)))) (ok false)) fun x6=>br x6 (cl (R.kF n_0) kF.g.o fun r7=>cl (R.iR r7 r4) iR.g.o fun r8=>cl (R.dt r8 false) dt.g.o fun r9=>ok ((r9,0))) (cl (R.dt r4 false) dt.g.o fun r10=>ok ((r10,0)))))
abbrev lD.g:Sg:=⟨[.val true (.bor (.seq .b (.own .w)))],[(false,(.frz (.int .u64)))]⟩
def R.lD (a_0:az.den):Res (Int) :=
 given (lD.g.i a_0) (cl (R.ir 64 a_0) ir.g.o fun r1=>bd (loop (α:=(Int×Int)) (β:=Int) (fun w2=>br (ilt w2.2 (r1.1.2.length:Int)) (idx (.int .u32) r1.1.2 w2.2 fun e3=>ai (ile 0 (w6 (32*w2.2))) (ok (.next ((gD .or .u64 w2.1 (pI .u64 (IntKind.wrap .u64 e3) (w6 (32*w2.2))),w6 (w2.2+1)))))) (ok (.done (w2.1)))) fuel (0,0)) fun w4=>ok w4)
abbrev fb.g:Sg:=⟨[.i,.val true (.bor (.seq .b (.own .w)))],[(false,(.frz (.int .u64)))]⟩
def R.fb (kind_0:Int) (a_1:az.den):Res (Int) :=
 given (fb.g.i (kind_0,a_1)) (bd (R.dQ kind_0) fun r1=>br (!r1) (ok 0) (cl (R.lD a_1) lD.g.o fun r2=>ok r2))
abbrev ff.g:Sg:=⟨[.i,.val true (.frz aI)],[(false,(.frz (.int .u64)))]⟩
def R.ff (kind_0:Int) (a_1:aI.den):Res (Int) :=
 given (ff.g.i (kind_0,a_1)) (bd (α:=Bool) (bd (R.dQ kind_0) fun r1=>br r1 (ok true) (br (!(a_1.1 == 0)) (ok true) (br (ilt a_1.2 (-9007199254740991)) (ok true) (ok ((ilt 9007199254740991 a_1.2)))))) fun x2=>br x2 (ok 0) (cl (R.fH kind_0 (IntKind.wrap .u64 a_1.2)) fH.g.o fun r3=>ok r3))
abbrev gv.g:Sg:=⟨[.i,.val true (.frz aC)],[(false,(.frz (.int .u64))),vi]⟩
def R.gv (kind_0:Int) (v_1:aC.den):Res ((Int×Int)) :=
 given (gv.g.i (kind_0,v_1)) (bd (R.dQ kind_0) fun r1=>br r1 (cl (R.fN v_1) fN.g.o fun r2=>cl (R.fb kind_0 r2.1) fb.g.o fun r3=>ok ((r3,r2.2))) (cl (R.bR v_1) bR.g.o fun r4=>cl (R.ff kind_0 r4.1) ff.g.o fun r5=>ok ((r5,r4.2))))
abbrev iE.g:Sg:=⟨[.i,.val false (.frz (.int .u64))],[(false,(.own .y))]⟩
def R.iE (kind_0:Int) (w_1:Int):Res ((List Int)) :=
 given (iE.g.i (kind_0,w_1)) (cl (R.bO kind_0) bO.g.o fun r1=>bd (loop (α:=((List Int)×Int)) (β:=(List Int)) (fun b2=>br (ilt b2.2 r1) (ai (ile 0 (w6 (8*b2.2))) (ai (decide ((b2.1.length+[IntKind.wrap .u8 (ij .u64 w_1 (w6 (8*b2.2)))].length)*1<=2^47)) (ok (.next (((b2.1++[IntKind.wrap .u8 (ij .u64 w_1 (w6 (8*b2.2)))]),w6 (b2.2+1))))))) (ok (.done (b2.1)))) fuel (([]:List Int),0)) fun b3=>ok b3)
abbrev da.g:Sg:=⟨[.obj eW,.i,.i,.val false (.bor (.own .y))],[vb]⟩
def R.da (h_0:eW.den) (ref_1:Int) (at_2:Int) (b_3:(List Int)):Res (Bool×eW.den) :=
 given (da.g.i (h_0,(ref_1,(at_2,b_3)))) (bd (R.av h_0 ref_1) fun r1=>br (!r1) (ok ((false,h_0))) (ct kh h_0.2 ref_1 fun e2=>bd (α:=Bool) (br (ilt at_2 0) (ok true) (ai ((Int.toNat ref_1) == (Int.toNat ref_1)) (br (ilt (e2.2.2.2.2.2.2.2.2.2.2.2.2.length:Int) at_2) (ok true) (ai ((Int.toNat ref_1) == (Int.toNat ref_1)) (ok ((ilt (w6 ((e2.2.2.2.2.2.2.2.2.2.2.2.2.length:Int)-at_2)) (b_3.length:Int)))))))) fun x3=>br x3 (ok ((false,(h_0.1,(List.set h_0.2 (Int.toNat ref_1) e2))))) (ai ((Int.toNat ref_1) == (Int.toNat ref_1)) (ai (ile 0 at_2 && ile at_2 e2.2.2.2.2.2.2.2.2.2.2.2.2.length) (ok ((true,(h_0.1,(List.set h_0.2 (Int.toNat ref_1) (e2.1,(e2.2.1,(e2.2.2.1,(e2.2.2.2.1,(e2.2.2.2.2.1,(e2.2.2.2.2.2.1,(e2.2.2.2.2.2.2.1,(e2.2.2.2.2.2.2.2.1,(e2.2.2.2.2.2.2.2.2.1,(e2.2.2.2.2.2.2.2.2.2.1,(e2.2.2.2.2.2.2.2.2.2.2.1,(e2.2.2.2.2.2.2.2.2.2.2.2.1,(List.take (0+(Int.toNat at_2)) e2.2.2.2.2.2.2.2.2.2.2.2.2++(List.take (min b_3.length (e2.2.2.2.2.2.2.2.2.2.2.2.2.length-(Int.toNat at_2))) b_3++List.drop ((0+(Int.toNat at_2))+(min b_3.length (e2.2.2.2.2.2.2.2.2.2.2.2.2.length-(Int.toNat at_2)))) e2.2.2.2.2.2.2.2.2.2.2.2.2)))))))))))))))))))))))
abbrev bo.g:Sg:=⟨[.obj aG,.val true jJ,.i,.i,.val false (.frz (.int .u64)),.b,.b],[vi]⟩
def R.bo (r_0:aG.den) (c_1:jJ.den) (at_2:Int) (size_3:Int) (w_4:Int) (seq_5:Bool) (noTear_6:Bool):Res (Int×aG.den) :=
 given (bo.g.i (r_0,(c_1,(at_2,(size_3,(w_4,(seq_5,noTear_6))))))) (cl (R.aY r_0.2.2.2.2.1 c_1.2.2.2.2.2.2.2.2.2.1) aY.g.o fun r1=>br (r1.1.1 == 5) (cl (R.cf size_3) cf.g.o fun r2=>cl (R.iE r2 w_4) iE.g.o fun r3=>cl (R.da r_0.2.2.2.2.1 c_1.2.2.2.2.2.2.2.2.2.1 at_2 r3) da.g.o fun r4=>ok ((0,(r_0.1,(r_0.2.1,(r_0.2.2.1,(r_0.2.2.2.1,(r4.2,r_0.2.2.2.2.2)))))))) (cl (R.bP r_0 (3,(r1.1.2.2.2.2.2.2.2.2.2.1,(at_2,(size_3,(0,(seq_5,(noTear_6,(w_4,(0,((0,0),(([]:List Int),0)))))))))))) bP.g.o fun r5=>ok ((r5.1.2,r5.2))))
abbrev fa.g:Sg:=⟨[.obj aG,.val true jJ,.i,.val true (.frz aC)],[(true,(.frz aC)),vi]⟩
def R.fa (r_0:aG.den) (c_1:jJ.den) (n_2:Int) (v_3:aC.den):Res ((aC.den×Int)×aG.den) :=
 given (fa.g.i (r_0,(c_1,(n_2,v_3)))) (cl (R.gv c_1.2.2.2.2.2.2.2.2.1 v_3) gv.g.o fun r1=>br (!(r1.2 == 0)) (cl (R.aE r_0 r1.2) aE.g.o fun r2=>ok r2) (br (ilt n_2 c_1.2.2.2.2.2.2.2.2.2.2.2.1) (cl (R.bO c_1.2.2.2.2.2.2.2.2.1) bO.g.o fun r3=>cl (R.bO c_1.2.2.2.2.2.2.2.2.1) bO.g.o fun r4=>bd (R.dQ c_1.2.2.2.2.2.2.2.2.1) fun r5=>cl (R.bo r_0 (c_1.1,(c_1.2.1,((),((),(c_1.2.2.2.2.1,(c_1.2.2.2.2.2.1,(c_1.2.2.2.2.2.2.1,(c_1.2.2.2.2.2.2.2.1,(c_1.2.2.2.2.2.2.2.2.1,(c_1.2.2.2.2.2.2.2.2.2.1,(c_1.2.2.2.2.2.2.2.2.2.2.1,(c_1.2.2.2.2.2.2.2.2.2.2.2.1,())))))))))))) (w6 (c_1.2.2.2.2.2.2.2.2.2.2.1+(w6 (n_2*r3)))) r4 r1.1 false (!r5)) bo.g.o fun r6=>br (!(r6.1 == 0)) (ok (((zV,r6.1),r6.2))) (ok (((v_3,0),r6.2)))) (ok (((v_3,0),r_0)))))
abbrev fc.g:Sg:=⟨[.obj aG,.val true (.frz fi),.val true (.frz aC)],[(true,(.frz aC)),vi]⟩
def R.fc (r_0:aG.den) (p_1:fi.den) (v_2:aC.den):Res ((aC.den×Int)×aG.den) :=
 given (fc.g.i (r_0,(p_1,v_2))) (bd (R.jB p_1.2.1) fun r1=>br r1 (cl (R.aE r_0 1) aE.g.o fun r2=>ok r2) (cl (R.cx p_1.2.2) cx.g.o fun r3=>br (!(r3.2 == 0)) (cl (R.aE r_0 r3.2) aE.g.o fun r4=>ok r4) (br (!(p_1.2.1.1 == 6)) (cl (R.aE r_0 1) aE.g.o fun r5=>ok r5) (cl (R.aY r_0.2.2.2.2.1 p_1.2.1.2.2.2.2) aY.g.o fun r6=>cl (R.eZ r3.1) eZ.g.o fun r7=>bd (α:=(Unit ⊕ (Int×(aG.den×aC.den)))) (br (r6.1.1 == 1) (cl (R.aj [95,95,112,114,111,116,111,95,95]) aj.g.o fun r8=>bd (R.gn r3.1 r8) fun r9=>br r9 (cl (R.aK r_0) aK.g.o fun r10=>ok (.inr (r10.1.2,(r10.2,r10.1.1)))) (ok (.inl ()))) (br (r6.1.1 == 2) (bd (α:=Bool) (br (!r7.2) (ok true) (cl (R.bG r_0.2.2.2.2.1 p_1.2.1.2.2.2.2) bG.g.o fun r11=>ok ((ilt r11 r7.1)))) fun x12=>br x12 (cl (R.aK r_0) aK.g.o fun r13=>ok (.inr (r13.1.2,(r13.2,r13.1.1)))) (ok (.inl ()))) (br (r6.1.1 == 3) (cl (R.cA r_0.2.2.2.2.1 p_1.2.1.2.2.2.2 r3.1) cA.g.o fun r14=>br (!r14.2) (cl (R.aK r_0) aK.g.o fun r15=>ok (.inr (r15.1.2,(r15.2,r15.1.1)))) (ok (.inl ()))) (br (r6.1.1 == 7) (br (!r7.2) (cl (R.aK r_0) aK.g.o fun r16=>ok (.inr (r16.1.2,(r16.2,r16.1.1)))) (cl (R.fa r_0 (r6.1.1,(r6.1.2.1,((),((),(r6.1.2.2.2.2.1,(r6.1.2.2.2.2.2.1,(r6.1.2.2.2.2.2.2.1,(r6.1.2.2.2.2.2.2.2.1,(r6.1.2.2.2.2.2.2.2.2.1,(r6.1.2.2.2.2.2.2.2.2.2.1,(r6.1.2.2.2.2.2.2.2.2.2.2.1,(r6.1.2.2.2.2.2.2.2.2.2.2.2.1,())))))))))))) r7.1 v_2) fa.g.o fun r17=>ok (.inr (r17.1.2,(r17.2,r17.1.1))))) (cl (R.aK r_0) aK.g.o fun r18=>ok (.inr (r18.1.2,(r18.2,r18.1.1)))))))) fun x19=>sum x19 (fun x20=>cl (R.bU r_0.2.2.2.2.1 p_1.2.1.2.2.2.2 r3.1 v_2) bU.g.o fun r22=>ok (((v_2,0),(r_0.1,(r_0.2.1,(r_0.2.2.1,(r_0.2.2.2.1,(r22.2,r_0.2.2.2.2.2)))))))) (fun z21=>ok (((z21.2.2,z21.1),z21.2.1)))))))
abbrev eR.g:Sg:=⟨[.obj aG,.val true (.frz fi),.val true (.frz aC),.val true (.bor (.seq .i (.seq (.seq .i (.seq (.frz aI) (.seq (.seq .b (.own .w)) (.seq (.own .h) .i)))) .b)))],[(true,(.frz aC)),vi]⟩
def R.eR (r_0:aG.den) (p_1:fi.den) (v_2:aC.den) (e_3:aO.den):Res ((aC.den×Int)×aG.den) :=
 given (eR.g.i (r_0,(p_1,(v_2,e_3)))) (br (!(p_1.1 == ([]:List UInt8))) (cl (R.eA r_0 p_1.1 v_2 e_3) eA.g.o fun r1=>ok r1) (cl (R.fc r_0 p_1 v_2) fc.g.o fun r2=>ok r2))
abbrev gO.g:Sg:=⟨[.obj aG,.val true (.frz aC),.val true (.bor (.seq .i (.seq (.frz aI) (.seq (.seq .b (.own .w)) (.seq (.own .h) .i)))))],[(true,(.frz aC)),vi]⟩
def R.gO (r_0:aG.den) (a_1:aC.den) (b_2:aC.den):Res ((aC.den×Int)×aG.den) :=
 given (gO.g.i (r_0,(a_1,b_2))) (br (!(b_2.1 == 6)) (cl (R.aE r_0 1) aE.g.o fun r1=>ok r1) (cl (R.cx a_1) cx.g.o fun r2=>br (!(r2.2 == 0)) (cl (R.aE r_0 r2.2) aE.g.o fun r3=>ok r3) (cl (R.aY r_0.2.2.2.2.1 b_2.2.2.2.2) aY.g.o fun r4=>cl (R.eZ r2.1) eZ.g.o fun r5=>br (r4.1.1 == 1) (cl (R.dD r_0.2.2.2.2.1 b_2.2.2.2.2 r2.1) dD.g.o fun r6=>cl (R.eT r2.1) eT.g.o fun r7=>bd (α:=Bool) (br (!r6.2.2) (br (r6.2.1 == (-1)) (br r7.2 (bd (R.gV r7.1) fun r8=>ok r8) (ok false)) (ok false)) (ok false)) fun x9=>br x9 (cl (R.aK r_0) aK.g.o fun r10=>ok r10) (cl (R.bF r6.2.2) bF.g.o fun r11=>ok (((r11,0),r_0)))) (bd (α:=Bool) (br (r4.1.1 == 2) (ok (r5.2)) (ok false)) fun x12=>br x12 (cl (R.bG r_0.2.2.2.2.1 b_2.2.2.2.2) bG.g.o fun r13=>cl (R.bF (ilt r5.1 r13)) bF.g.o fun r14=>ok (((r14,0),r_0))) (bd (α:=Bool) (br (r4.1.1 == 7) (ok (r5.2)) (ok false)) fun x15=>br x15 (cl (R.bF (ilt r5.1 r4.1.2.2.2.2.2.2.2.2.2.2.2.1)) bF.g.o fun r16=>ok (((r16,0),r_0))) (cl (R.aK r_0) aK.g.o fun r17=>ok r17))))))
abbrev kT.g:Sg:=⟨[.val true (.frz aC),.val true (.frz aC)],[(true,(.frz aC)),vi]⟩
def R.kT (a_0:aC.den) (b_1:aC.den):Res ((aC.den×Int)) :=
 given (kT.g.i (a_0,b_1)) (cl (R.cx a_0) cx.g.o fun r1=>br (!(r1.2 == 0)) (ok ((zV,r1.2))) (cl (R.cx b_1) cx.g.o fun r2=>br (!(r2.2 == 0)) (ok ((zV,r2.2))) (br (ilt 4096 (w6 ((r1.1.length:Int)+(r2.1.length:Int)))) (ok ((zV,3))) (ai (decide ((r1.1.length+r2.1.length)*2<=2^47)) (cl (R.b9 (r1.1++r2.1)) b9.g.o fun r3=>ok ((r3,0)))))))
abbrev ez.g:Sg:=⟨[.val true (.frz aC),.val true (.frz aC)],[(true,(.frz aC)),(true,(.frz aC)),vi]⟩
def R.ez (a_0:aC.den) (b_1:aC.den):Res ((aC.den×(aC.den×Int))) :=
 given (ez.g.i (a_0,b_1)) (cl (R.cC a_0) cC.g.o fun r1=>br (!(r1.2 == 0)) (ok ((zV,(zV,r1.2)))) (cl (R.cC b_1) cC.g.o fun r2=>br (!(r2.2 == 0)) (ok ((zV,(zV,r2.2)))) (br (!(r1.1.1 == r2.1.1)) (ok ((zV,(zV,1)))) (ok ((r1.1,(r2.1,0)))))))
abbrev mN.g:Sg:=⟨[.val true (.bor (.seq .b (.own .w))),.val true (.bor (.seq .b (.own .w)))],[(true,(.frz az)),vb]⟩
def R.mN (a_0:az.den) (b_1:az.den):Res ((az.den×Bool)) :=
 given (mN.g.i (a_0,b_1)) (cl (R.kW b_1) kW.g.o fun r1=>cl (R.kU a_0 r1) kU.g.o fun r2=>ok r2)
abbrev mH.g:Sg:=⟨[.val true (.bor (.seq .b (.own .w))),.val true (.bor (.seq .b (.own .w)))],[(true,(.frz az)),vb]⟩
def R.mH (a_0:az.den) (b_1:az.den):Res ((az.den×Bool)) :=
 given (mH.g.i (a_0,b_1)) (cl (R.cn a_0) cn.g.o fun r1=>cl (R.cn b_1) cn.g.o fun r2=>ai (ile 0 (w6 ((r1.length:Int)+(r2.length:Int))) && (ile (w6 ((r1.length:Int)+(r2.length:Int))) (w6 ((r1.length:Int)+(r2.length:Int))) && decide ((Int.toNat (w6 ((r1.length:Int)+(r2.length:Int))))*4<=2^47))) (bd (loop (α:=(Int×(List Int))) (β:=(List Int)) (fun x3=>br (ilt x3.1 (r1.length:Int)) (ai (ile 0 x3.1 && ilt x3.1 r1.length) (idx (.int .u32) r1 (0+Int.toNat x3.1) fun e4=>bd (loop (α:=(Int×(Int×(List Int)))) (β:=(Int×(List Int))) (fun c5=>br (ilt c5.2.1 (r2.length:Int)) (ai (ile 0 c5.2.1 && ilt c5.2.1 r2.length) (idx (.int .u32) r2 (0+Int.toNat c5.2.1) fun e6=>ai (ile 0 (w6 (x3.1+c5.2.1)) && ilt (w6 (x3.1+c5.2.1)) c5.2.2.length) (idx (.int .u32) c5.2.2 (0+Int.toNat (w6 (x3.1+c5.2.1))) fun e7=>ai (ile 0 (w6 (x3.1+c5.2.1)) && ilt (w6 (x3.1+c5.2.1)) c5.2.2.length) (idx (.int .u32) c5.2.2 (0+Int.toNat (w6 (x3.1+c5.2.1))) fun e8=>ai (ile 0 32) (ok (.next ((ij .u64 (IntKind.wrap .u64 (c5.1+(IntKind.wrap .u64 ((IntKind.wrap .u64 ((IntKind.wrap .u64 e4)*(IntKind.wrap .u64 e6)))+(IntKind.wrap .u64 e7))))) 32,(w6 (c5.2.1+1),(List.set c5.2.2 (0+Int.toNat (w6 (x3.1+c5.2.1))) (IntKind.wrap .u32 (IntKind.wrap .u64 (c5.1+(IntKind.wrap .u64 ((IntKind.wrap .u64 ((IntKind.wrap .u64 e4)*(IntKind.wrap .u64 e6)))+(IntKind.wrap .u64 e7)))))))))))))))) (ok (.done ((c5.1,c5.2.2))))) fuel (0,(0,x3.2))) fun c9=>ai (ile 0 (w6 (x3.1+(r2.length:Int))) && ilt (w6 (x3.1+(r2.length:Int))) c9.2.length) (idx (.int .u32) c9.2 (0+Int.toNat (w6 (x3.1+(r2.length:Int)))) fun e10=>ok (.next ((w6 (x3.1+1),(List.set c9.2 (0+Int.toNat (w6 (x3.1+(r2.length:Int)))) (IntKind.wrap .u32 c9.1)))))))) (ok (.done (x3.2)))) fuel (0,(List.replicate (Int.toNat (w6 ((r1.length:Int)+(r2.length:Int)))) (0:Int)))) fun x11=>bd (R.fy a_0) fun r12=>bd (R.fy b_1) fun r13=>cl (R.iq x11 (!(r12 == r13))) iq.g.o fun r14=>ok r14))
abbrev jI.g:Sg:=⟨[.val false (.bor (.own .w)),.val false .w],[(false,(.own .w))]⟩
def R.jI (a_0:(List Int)) (bit_1:Int):Res ((List Int)) :=
 given (jI.g.i (a_0,bit_1)) (bd (loop (α:=(Int×((List Int)×Int))) (β:=(Int×(List Int))) (fun bit1=>br (ilt bit1.2.2 (a_0.length:Int)) (ct .w a_0 bit1.2.2 fun e2=>ai (ile 0 1) (ai (decide ((bit1.2.1.length+[gD .or .u32 (pI .u32 e2 1) bit1.1].length)*4<=2^47)) (ai (ile 0 31) (ok (.next ((ij .u32 e2 31,((bit1.2.1++[gD .or .u32 (pI .u32 e2 1) bit1.1]),w6 (bit1.2.2+1))))))))) (ok (.done ((bit1.1,bit1.2.1))))) fuel (bit_1,(([]:List Int),0))) fun bit3=>ai (decide ((bit3.2.length+[bit3.1].length)*4<=2^47)) (cl (R.gA (bit3.2++[bit3.1])) gA.g.o fun r4=>ok r4))
abbrev iG.g:Sg:=⟨[.val false (.bor (.own .w)),.val false (.bor (.own .w))],[(false,(.own .w)),(false,(.own .w))]⟩
def R.iG (a_0:(List Int)) (b_1:(List Int)):Res (((List Int)×(List Int))) :=
 given (iG.g.i (a_0,b_1)) (ai (ile 0 (a_0.length:Int) && (ile (a_0.length:Int) (a_0.length:Int) && decide ((Int.toNat (a_0.length:Int))*4<=2^47))) (bd (loop (α:=((List Int)×(Int×(List Int)))) (β:=((List Int)×(List Int))) (fun rest1=>br (ile 0 rest1.2.1) (bd (loop (α:=((List Int)×(Int×(List Int)))) (β:=((List Int)×(List Int))) (fun rest2=>br (ile 0 rest2.2.1) (ct .w a_0 rest1.2.1 fun e3=>ai (ile 0 rest2.2.1) (cl (R.jI rest2.1 (gD .and .u32 (ij .u32 e3 rest2.2.1) 1)) jI.g.o fun r4=>cl (R.jk r4 b_1) jk.g.o fun r5=>br (ile 0 r5) (cl (R.iR r4 b_1) iR.g.o fun r6=>cl (R.gA r6) gA.g.o fun r7=>ai (ile 0 rest1.2.1 && ilt rest1.2.1 rest2.2.2.length) (idx (.int .u32) rest2.2.2 (0+Int.toNat rest1.2.1) fun e8=>ai (ile 0 rest2.2.1) (ai (ile 0 rest1.2.1 && ilt rest1.2.1 rest2.2.2.length) (idx (.int .u32) rest2.2.2 (0+Int.toNat rest1.2.1) fun e9=>ok (.next ((r7,(w6 (rest2.2.1-1),(List.set rest2.2.2 (0+Int.toNat rest1.2.1) (gD .or .u32 e8 (pI .u32 1 rest2.2.1))))))))))) (ok (.next ((r4,(w6 (rest2.2.1-1),rest2.2.2))))))) (ok (.done ((rest2.1,rest2.2.2))))) fuel (rest1.1,(31,rest1.2.2))) fun rest10=>ok (.next ((rest10.1,(w6 (rest1.2.1-1),rest10.2))))) (ok (.done ((rest1.1,rest1.2.2))))) fuel (([]:List Int),(w6 ((a_0.length:Int)-1),(List.replicate (Int.toNat (a_0.length:Int)) (0:Int))))) fun rest11=>ok ((rest11.2,rest11.1))))
abbrev mI.g:Sg:=⟨[.val true (.bor (.seq .b (.own .w))),.val true (.bor (.seq .b (.own .w)))],[(true,(.frz az)),vi]⟩
def R.mI (a_0:az.den) (b_1:az.den):Res ((az.den×Int)) :=
 given (mI.g.i (a_0,b_1)) (cl (R.cn b_1) cn.g.o fun r1=>br ((r1.length:Int) == 0) (ok (((false,([]:List Int)),4))) (cl (R.cn a_0) cn.g.o fun r2=>cl (R.cn b_1) cn.g.o fun r3=>cl (R.iG r2 r3) iG.g.o fun r4=>bd (R.fy a_0) fun r5=>bd (R.fy b_1) fun r6=>cl (R.dt r4.1 (!(r5 == r6))) dt.g.o fun r7=>ok ((r7,0))))
abbrev mG.g:Sg:=⟨[.val true (.bor (.seq .b (.own .w))),.val true (.bor (.seq .b (.own .w)))],[(true,(.frz az)),vi]⟩
def R.mG (a_0:az.den) (b_1:az.den):Res ((az.den×Int)) :=
 given (mG.g.i (a_0,b_1)) (cl (R.cn b_1) cn.g.o fun r1=>br ((r1.length:Int) == 0) (ok (((false,([]:List Int)),4))) (cl (R.cn a_0) cn.g.o fun r2=>cl (R.cn b_1) cn.g.o fun r3=>cl (R.iG r2 r3) iG.g.o fun r4=>bd (R.fy a_0) fun r5=>cl (R.dt r4.2 r5) dt.g.o fun r6=>ok ((r6,0))))
abbrev kI.g:Sg:=⟨[.s,.val true (.bor (.seq .b (.own .w))),.val true (.bor (.seq .b (.own .w)))],[(true,(.frz aC)),vi]⟩
def R.kI (op_0:(List UInt8)) (a_1:az.den) (b_2:az.den):Res ((aC.den×Int)) :=
 given (kI.g.i (op_0,(a_1,b_2))) (br (op_0 == [43]) (cl (R.kU a_1 b_2) kU.g.o fun r1=>cl (R.fE r1.1 r1.2) fE.g.o fun r2=>ok r2) (br (op_0 == [45]) (cl (R.mN a_1 b_2) mN.g.o fun r3=>cl (R.fE r3.1 r3.2) fE.g.o fun r4=>ok r4) (br (op_0 == [42]) (cl (R.mH a_1 b_2) mH.g.o fun r5=>cl (R.fE r5.1 r5.2) fE.g.o fun r6=>ok r6) (cl (R.mI a_1 b_2) mI.g.o fun r7=>bd (α:=(Int×az.den)) (br (op_0 == [37]) (cl (R.mG a_1 b_2) mG.g.o fun r8=>ok ((r8.2,r8.1))) (ok ((r7.2,r7.1)))) fun e9=>br (!(e9.1 == 0)) (ok ((zV,2))) (cl (R.db e9.2) db.g.o fun r10=>ok ((r10,0)))))))
abbrev mO.g:Sg:=⟨[.val true (.frz aI),.val true (.frz aI)],[(true,(.frz aI)),vb]⟩
def R.mO (a_0:aI.den) (b_1:aI.den):Res ((aI.den×Bool)) :=
 given (mO.g.i (a_0,b_1)) (cl (R.kX b_1) kX.g.o fun r1=>cl (R.ke a_0 r1) ke.g.o fun r2=>ok r2)
abbrev jA.g:Sg:=⟨[.val true (.frz aI)],[vb]⟩
def R.jA (a_0:aI.den):Res (Bool) :=
 given (jA.g.i a_0) (br (a_0.1 == 1) (ok true) (br (a_0.1 == 4) (ok true) (br (a_0.1 == 0) (ok ((ilt a_0.2 0))) (ok false))))
abbrev ch.g:Sg:=⟨[.val true (.frz aI)],[vb]⟩
def R.ch (a_0:aI.den):Res (Bool) :=
 given (ch.g.i a_0) (br (a_0.1 == 1) (ok true) (br (a_0.1 == 0) (ok ((a_0.2 == 0))) (ok false)))
abbrev fW.g:Sg:=⟨[.i],[(false,(.frz (.int .u64)))]⟩
def R.fW (n_0:Int):Res (Int) :=
 given (fW.g.i n_0) (ok (IntKind.wrap .u64 (pH n_0 (w6 (0-n_0)))))
abbrev jL.g:Sg:=⟨[.val false (.frz (.int .u64)),.val false (.frz (.int .u64))],[(false,(.frz (.int .u64))),(false,(.frz (.int .u64)))]⟩
def R.jL (x_0:Int) (y_1:Int):Res ((Int×Int)) :=
 given (jL.g.i (x_0,y_1)) (ai (ile 0 32) (ai (ile 0 32) (ai (ile 0 32) (ai (ile 0 32) (ai (ile 0 32) (ok ((IntKind.wrap .u64 ((IntKind.wrap .u64 ((IntKind.wrap .u64 ((ij .u64 x_0 32)*(ij .u64 y_1 32)))+(ij .u64 (IntKind.wrap .u64 ((IntKind.wrap .u64 ((ij .u64 x_0 32)*(gD .and .u64 y_1 4294967295)))+(ij .u64 (IntKind.wrap .u64 ((gD .and .u64 x_0 4294967295)*(gD .and .u64 y_1 4294967295))) 32))) 32)))+(ij .u64 (IntKind.wrap .u64 ((gD .and .u64 (IntKind.wrap .u64 ((IntKind.wrap .u64 ((ij .u64 x_0 32)*(gD .and .u64 y_1 4294967295)))+(ij .u64 (IntKind.wrap .u64 ((gD .and .u64 x_0 4294967295)*(gD .and .u64 y_1 4294967295))) 32))) 4294967295)+(IntKind.wrap .u64 ((gD .and .u64 x_0 4294967295)*(ij .u64 y_1 32))))) 32)),IntKind.wrap .u64 (x_0*y_1)))))))))
abbrev gG.g:Sg:=⟨[.val false (.frz (.int .u64)),.b],[(true,(.frz aI))]⟩
def R.gG (n_0:Int) (neg_1:Bool):Res (aI.den) :=
 given (gG.g.i (n_0,neg_1)) (br neg_1 (cl (R.cP (w6 (0-(w6 n_0)))) cP.g.o fun r1=>ok r1) (cl (R.cP (w6 n_0)) cP.g.o fun r2=>ok r2))
abbrev mS.g:Sg:=⟨[.val true (.frz aI),.val true (.frz aI)],[(true,(.frz aI)),vb]⟩
def R.mS (a_0:aI.den) (b_1:aI.den):Res ((aI.den×Bool)) :=
 given (mS.g.i (a_0,b_1)) (cl (R.eH a_0) eH.g.o fun r1=>cl (R.eH b_1) eH.g.o fun r2=>bd (R.jA r1) fun r3=>bd (R.jA r2) fun r4=>bd (α:=Bool) (bd (R.eg r1) fun r5=>br r5 (ok true) (bd (R.eg r2) fun r6=>br r6 (ok true) (bd (R.eM r1) fun r7=>br r7 (bd (R.ch r2) fun r8=>br r8 (ok true) (bd (R.ch r1) fun r9=>br r9 (bd (R.eM r2) fun r10=>ok r10) (ok false))) (bd (R.ch r1) fun r11=>br r11 (bd (R.eM r2) fun r12=>ok r12) (ok false))))) fun x13=>br x13 (cl (R.eP) eP.g.o fun r14=>ok ((r14,true))) (bd (α:=Bool) (bd (R.eM r1) fun r15=>br r15 (ok true) (bd (R.eM r2) fun r16=>ok r16)) fun x17=>br x17 (cl (R.iu (!(r3 == r4))) iu.g.o fun r18=>ok ((r18,true))) (bd (α:=Bool) (bd (R.ch r1) fun r19=>br r19 (ok true) (bd (R.ch r2) fun r20=>ok r20)) fun x21=>br x21 (cl (R.fL (!(r3 == r4))) fL.g.o fun r22=>ok ((r22,true))) (cl (R.fW r1.2) fW.g.o fun r23=>cl (R.fW r2.2) fW.g.o fun r24=>cl (R.jL r23 r24) jL.g.o fun r25=>bd (α:=Bool) (br (ilt 0 r25.1) (ok true) (ok ((ilt 9007199254740991 r25.2)))) fun x26=>br x26 (cl (R.eP) eP.g.o fun r27=>ok ((r27,false))) (cl (R.gG r25.2 (!(r3 == r4))) gG.g.o fun r28=>ok ((r28,true)))))))
abbrev mQ.g:Sg:=⟨[.val true (.frz aI),.val true (.frz aI)],[(true,(.frz aI)),vb]⟩
def R.mQ (a_0:aI.den) (b_1:aI.den):Res ((aI.den×Bool)) :=
 given (mQ.g.i (a_0,b_1)) (cl (R.eH a_0) eH.g.o fun r1=>cl (R.eH b_1) eH.g.o fun r2=>bd (R.jA r1) fun r3=>bd (R.jA r2) fun r4=>bd (α:=Bool) (bd (R.eg r1) fun r5=>br r5 (ok true) (bd (R.eg r2) fun r6=>br r6 (ok true) (bd (R.eM r1) fun r7=>br r7 (bd (R.eM r2) fun r8=>br r8 (ok true) (bd (R.ch r1) fun r9=>br r9 (bd (R.ch r2) fun r10=>ok r10) (ok false))) (bd (R.ch r1) fun r11=>br r11 (bd (R.ch r2) fun r12=>ok r12) (ok false))))) fun x13=>br x13 (cl (R.eP) eP.g.o fun r14=>ok ((r14,true))) (bd (α:=Bool) (bd (R.eM r1) fun r15=>br r15 (ok true) (bd (R.ch r2) fun r16=>ok r16)) fun x17=>br x17 (cl (R.iu (!(r3 == r4))) iu.g.o fun r18=>ok ((r18,true))) (bd (α:=Bool) (bd (R.eM r2) fun r19=>br r19 (ok true) (bd (R.ch r1) fun r20=>ok r20)) fun x21=>br x21 (cl (R.fL (!(r3 == r4))) fL.g.o fun r22=>ok ((r22,true))) (cl (R.fW r1.2) fW.g.o fun r23=>cl (R.fW r2.2) fW.g.o fun r24=>ai (!(r24 == 0)) (br (!((Int.tmod r23 r24) == 0)) (cl (R.eP) eP.g.o fun r25=>ok ((r25,false))) (cl (R.fW r1.2) fW.g.o fun r26=>cl (R.fW r2.2) fW.g.o fun r27=>ai (!(r27 == 0)) (cl (R.gG (IntKind.wrap .u64 (Int.tdiv r26 r27)) (!(r3 == r4))) gG.g.o fun r28=>ok ((r28,true)))))))))
abbrev mJ.g:Sg:=⟨[.val true (.frz aI),.val true (.frz aI)],[(true,(.frz aI))]⟩
def R.mJ (a_0:aI.den) (b_1:aI.den):Res (aI.den) :=
 given (mJ.g.i (a_0,b_1)) (cl (R.eH a_0) eH.g.o fun r1=>cl (R.eH b_1) eH.g.o fun r2=>bd (α:=Bool) (bd (R.eg r1) fun r3=>br r3 (ok true) (bd (R.eg r2) fun r4=>br r4 (ok true) (bd (R.eM r1) fun r5=>br r5 (ok true) (bd (R.ch r2) fun r6=>ok r6)))) fun x7=>br x7 (cl (R.eP) eP.g.o fun r8=>ok r8) (bd (α:=Bool) (bd (R.eM r2) fun r9=>br r9 (ok true) (bd (R.ch r1) fun r10=>ok r10)) fun x11=>br x11 (ok r1) (cl (R.fW r1.2) fW.g.o fun r12=>cl (R.fW r2.2) fW.g.o fun r13=>ai (!(r13 == 0)) (br ((Int.tmod r12 r13) == 0) (cl (R.fL (ilt r1.2 0)) fL.g.o fun r14=>ok r14) (cl (R.gG (Int.tmod r12 r13) (ilt r1.2 0)) gG.g.o fun r15=>ok r15)))))
abbrev ja.g:Sg:=⟨[.s,.val true (.frz aC),.val true (.frz aC)],[(true,(.frz aC)),vi]⟩
def R.ja (op_0:(List UInt8)) (a_1:aC.den) (b_2:aC.den):Res ((aC.den×Int)) :=
 given (ja.g.i (op_0,(a_1,b_2))) (cl (R.ez a_1 b_2) ez.g.o fun r1=>br (!(r1.2.2 == 0)) (ok ((zV,r1.2.2))) (br (r1.1.1 == 4) (cl (R.kI op_0 r1.1.2.2.1 r1.2.1.2.2.1) kI.g.o fun r2=>ok r2) (br (op_0 == [43]) (cl (R.ke r1.1.2.1 r1.2.1.2.1) ke.g.o fun r3=>cl (R.cg r3.1 r3.2) cg.g.o fun r4=>ok r4) (br (op_0 == [45]) (cl (R.mO r1.1.2.1 r1.2.1.2.1) mO.g.o fun r5=>cl (R.cg r5.1 r5.2) cg.g.o fun r6=>ok r6) (br (op_0 == [42]) (cl (R.mS r1.1.2.1 r1.2.1.2.1) mS.g.o fun r7=>cl (R.cg r7.1 r7.2) cg.g.o fun r8=>ok r8) (br (op_0 == [47]) (cl (R.mQ r1.1.2.1 r1.2.1.2.1) mQ.g.o fun r9=>cl (R.cg r9.1 r9.2) cg.g.o fun r10=>ok r10) (cl (R.mJ r1.1.2.1 r1.2.1.2.1) mJ.g.o fun r11=>cl (R.cg r11 true) cg.g.o fun r12=>ok r12)))))))
abbrev kM.g:Sg:=⟨[.s,.val true (.frz aC),.val true (.frz aC)],[(true,(.frz aC)),vi]⟩
def R.kM (op_0:(List UInt8)) (a_1:aC.den) (b_2:aC.den):Res ((aC.den×Int)) :=
 given (kM.g.i (op_0,(a_1,b_2))) (cl (R.ez a_1 b_2) ez.g.o fun r1=>br (!(r1.2.2 == 0)) (ok ((zV,r1.2.2))) (bd (α:=Bool) (br (r1.1.1 == 4) (ok ((op_0 == [62,62,62]))) (ok false)) fun x2=>br x2 (ok ((zV,1))) (br (r1.1.1 == 4) (ok ((zV,3))) (bd (α:=Int) (br (op_0 == [38]) (ok 1) (br (op_0 == [124]) (ok 2) (br (op_0 == [94]) (ok 3) (br (op_0 == [60,60]) (ok 4) (br (op_0 == [62,62]) (ok 5) (br (op_0 == [62,62,62]) (ok 6) (ok 0))))))) fun n3=>cl (R.lN n3 r1.1.2.1 r1.2.1.2.1) lN.g.o fun r4=>cl (R.cD r4) cD.g.o fun r5=>ok ((r5,0))))))
abbrev eO.g:Sg:=⟨[.val false .h],[vb]⟩
def R.eO (x_0:Int):Res (Bool) :=
 given (eO.g.i x_0) (ok ((!(x_0 == x_0))))
abbrev dK.g:Sg:=⟨[.val false .h,.val false .h],[vi]⟩
def R.dK (x_0:Int) (y_1:Int):Res (Int) :=
 given (dK.g.i (x_0,y_1)) (bd (R.eO x_0) fun r1=>bd (R.eO y_1) fun r2=>br r1 (br r2 (ok 0) (ok ((-1)))) (br r2 (ok 1) (br (ilt x_0 y_1) (ok ((-1))) (br (ilt y_1 x_0) (ok 1) (ok 0)))))
abbrev cV.g:Sg:=⟨[.val false (.bor (.own .h)),.val false (.bor (.own .h))],[vi]⟩
def R.cV (s1_0:(List Int)) (s2_1:(List Int)):Res (Int) :=
 given (cV.g.i (s1_0,s2_1)) (bd (loop (α:=Int) (β:=(Unit ⊕ Int)) (fun x1=>br (ilt x1 (s1_0.length:Int)) (ct .h s1_0 x1 fun e2=>br (ile (s2_1.length:Int) x1) (ok (.done (.inr 1))) (ct .h s2_1 x1 fun e3=>cl (R.dK e2 e3) dK.g.o fun r4=>br (!(r4 == 0)) (ok (.done (.inr r4))) (ok (.next (w6 (x1+1)))))) (ok (.done (.inl ())))) fuel 0) fun x5=>sum x5 (fun x6=>br (ilt (s1_0.length:Int) (s2_1.length:Int)) (ok ((-1))) (ok 0)) (fun z7=>ok z7))
abbrev kq.g:Sg:=⟨[.val false (.bor (.own .h)),.val false (.bor (.own .h))],[vb]⟩
def R.kq (a_0:(List Int)) (b_1:(List Int)):Res (Bool) :=
 given (kq.g.i (a_0,b_1)) (cl (R.cV a_0 b_1) cV.g.o fun r1=>ok ((ilt r1 0)))
abbrev kc.g:Sg:=⟨[.val true (.bor (.seq .b (.own .w))),.val true (.bor (.seq .b (.own .w)))],[vi]⟩
def R.kc (a_0:az.den) (b_1:az.den):Res (Int) :=
 given (kc.g.i (a_0,b_1)) (bd (R.fy a_0) fun r1=>bd (R.fy b_1) fun r2=>bd (α:=Bool) (br r1 (ok ((!r2))) (ok false)) fun x3=>br x3 (ok ((-1))) (bd (α:=Bool) (br r2 (ok ((!r1))) (ok false)) fun x4=>br x4 (ok 1) (br r1 (cl (R.cn b_1) cn.g.o fun r5=>cl (R.cn a_0) cn.g.o fun r6=>cl (R.jk r5 r6) jk.g.o fun r7=>ok r7) (cl (R.cn a_0) cn.g.o fun r8=>cl (R.cn b_1) cn.g.o fun r9=>cl (R.jk r8 r9) jk.g.o fun r10=>ok r10))))
abbrev gl.g:Sg:=⟨[.val true (.bor (.seq .b (.own .w))),.val true (.frz aI)],[vi,vb]⟩
def R.gl (b_0:az.den) (a_1:aI.den):Res ((Int×Bool)) :=
 given (gl.g.i (b_0,a_1)) (br (a_1.1 == 2) (ok ((0,false))) (br (a_1.1 == 3) (ok (((-1),true))) (br (a_1.1 == 4) (ok ((1,true))) (cl (R.jt a_1.2) jt.g.o fun r1=>cl (R.kc b_0 r1) kc.g.o fun r2=>ok ((r2,true))))))
abbrev js.g:Sg:=⟨[.val true (.frz aI),.val true (.frz aI)],[vb]⟩
def R.js (a_0:aI.den) (b_1:aI.den):Res (Bool) :=
 given (js.g.i (a_0,b_1)) (cl (R.eH a_0) eH.g.o fun r1=>cl (R.eH b_1) eH.g.o fun r2=>bd (R.eg r1) fun r3=>br (!r3) (bd (R.eg r2) fun r4=>br (!r4) (cl (R.iH r1) iH.g.o fun r5=>cl (R.iH r2) iH.g.o fun r6=>ok ((ilt r5 r6))) (ok false)) (ok false))
abbrev jN.g:Sg:=⟨[.val true (.bor (.seq .i (.seq (.frz aI) (.seq (.seq .b (.own .w)) (.seq (.own .h) .i))))),.val true (.bor (.seq .i (.seq (.frz aI) (.seq (.seq .b (.own .w)) (.seq (.own .h) .i)))))],[vi,vb]⟩
def R.jN (x_0:aC.den) (y_1:aC.den):Res ((Int×Bool)) :=
 given (jN.g.i (x_0,y_1)) (bd (α:=Bool) (br (x_0.1 == 4) (ok ((y_1.1 == 4))) (ok false)) fun x1=>br x1 (cl (R.kc x_0.2.2.1 y_1.2.2.1) kc.g.o fun r2=>ok ((r2,true))) (br (x_0.1 == 4) (cl (R.gl x_0.2.2.1 y_1.2.1) gl.g.o fun r3=>ok r3) (br (y_1.1 == 4) (cl (R.gl y_1.2.2.1 x_0.2.1) gl.g.o fun r4=>ok ((w6 (0-r4.1),r4.2))) (bd (R.js x_0.2.1 y_1.2.1) fun r5=>br r5 (ok (((-1),true))) (bd (R.iN x_0.2.1 y_1.2.1) fun r6=>br r6 (ok ((0,true))) (bd (R.js y_1.2.1 x_0.2.1) fun r7=>ok ((1,r7))))))))
abbrev gz.g:Sg:=⟨[.val true (.frz aC),.val true (.frz aC),.b,.b],[(true,(.frz aC)),vi]⟩
def R.gz (a_0:aC.den) (b_1:aC.den) (turned_2:Bool) (not_3:Bool):Res ((aC.den×Int)) :=
 given (gz.g.i (a_0,(b_1,(turned_2,not_3)))) (bd (α:=Bool) (br (a_0.1 == 6) (ok true) (ok ((b_1.1 == 6)))) fun x1=>br x1 (ok ((zV,3))) (bd (α:=Bool) (br (a_0.1 == 5) (ok ((b_1.1 == 5))) (ok false)) fun x2=>br x2 (bd (α:=(aC.den×aC.den)) (br turned_2 (ok ((b_1,a_0))) (ok ((a_0,b_1)))) fun x3=>bd (R.kq x3.1.2.2.2.1 x3.2.2.2.2.1) fun r4=>cl (R.bF (!(r4 == not_3))) bF.g.o fun r5=>ok ((r5,0))) (bd (α:=Bool) (br (a_0.1 == 5) (br (b_1.1 == 4) (ok true) (br (a_0.1 == 4) (ok ((b_1.1 == 5))) (ok false))) (br (a_0.1 == 4) (ok ((b_1.1 == 5))) (ok false))) fun x6=>br x6 (ok ((zV,3))) (cl (R.cC a_0) cC.g.o fun r7=>br (!(r7.2 == 0)) (ok ((zV,r7.2))) (cl (R.cC b_1) cC.g.o fun r8=>br (!(r8.2 == 0)) (ok ((zV,r8.2))) (bd (α:=(aC.den×aC.den)) (br turned_2 (ok ((r8.1,r7.1))) (ok ((r7.1,r8.1)))) fun x9=>cl (R.jN x9.1 x9.2) jN.g.o fun r10=>br r10.2 (cl (R.bF (!((ilt r10.1 0) == not_3))) bF.g.o fun r11=>ok ((r11,0))) (cl (R.bF false) bF.g.o fun r12=>ok ((r12,0)))))))))
abbrev dL.g:Sg:=⟨[.val false (.bor (.own .w)),.val false (.bor (.own .w))],[vb]⟩
def R.dL (s1_0:(List Int)) (s2_1:(List Int)):Res (Bool) :=
 given (dL.g.i (s1_0,s2_1)) (br (!((s1_0.length:Int) == (s2_1.length:Int))) (ok false) (bd (loop (α:=Int) (β:=(Unit ⊕ Bool)) (fun x1=>br (ilt x1 (s1_0.length:Int)) (ct .w s1_0 x1 fun e2=>ct .w s2_1 x1 fun e3=>br (!(e2 == e3)) (ok (.done (.inr false))) (ok (.next (w6 (x1+1))))) (ok (.done (.inl ())))) fuel 0) fun x4=>sum x4 (fun x5=>ok true) (fun z6=>ok z6)))
abbrev kp.g:Sg:=⟨[.val true (.bor (.seq .i (.seq (.frz aI) (.seq (.seq .b (.own .w)) (.seq (.own .h) .i))))),.val true (.bor (.seq .i (.seq (.frz aI) (.seq (.seq .b (.own .w)) (.seq (.own .h) .i)))))],[vb]⟩
def R.kp (a_0:aC.den) (b_1:aC.den):Res (Bool) :=
 given (kp.g.i (a_0,b_1)) (br (a_0.1 == b_1.1) (br ((a_0.2.1.1 == b_1.2.1.1) && ((a_0.2.1.2 == b_1.2.1.2) && true)) (br (a_0.2.2.1.1 == b_1.2.2.1.1) (bd (R.dL a_0.2.2.1.2 b_1.2.2.1.2) fun r1=>br r1 (bd (R.cj a_0.2.2.2.1 b_1.2.2.2.1) fun r2=>br r2 (ok ((a_0.2.2.2.2 == b_1.2.2.2.2))) (ok false)) (ok false)) (ok false)) (ok false)) (ok false))
abbrev gS.g:Sg:=⟨[.val true (.frz aC),.val true (.frz aC)],[vb]⟩
def R.gS (a_0:aC.den) (b_1:aC.den):Res (Bool) :=
 given (gS.g.i (a_0,b_1)) (cl (R.bt a_0) bt.g.o fun r1=>cl (R.bt b_1) bt.g.o fun r2=>br (!(r1.1 == r2.1)) (ok false) (br (r1.1 == 3) (bd (R.iN r1.2.1 r2.2.1) fun r3=>ok r3) (bd (R.kp r1 r2) fun r4=>ok r4)))
abbrev jV.g:Sg:=⟨[.val true (.bor (.seq .i (.seq (.frz aI) (.seq (.seq .b (.own .w)) (.seq (.own .h) .i)))))],[vb]⟩
def R.jV (v_0:aC.den):Res (Bool) :=
 given (jV.g.i v_0) (br (v_0.1 == 0) (ok true) (ok ((v_0.1 == 1))))
abbrev gB.g:Sg:=⟨[.val true (.frz aC)],[(true,(.frz aC))]⟩
def R.gB (v_0:aC.den):Res (aC.den) :=
 given (gB.g.i v_0) (br (v_0.1 == 2) (cl (R.cD (0,v_0.2.2.2.2)) cD.g.o fun r1=>ok r1) (ok v_0))
abbrev lL.g:Sg:=⟨[.val true (.bor (.seq .b (.own .w))),.val true (.bor (.seq .b (.own .w)))],[vb]⟩
def R.lL (a_0:az.den) (b_1:az.den):Res (Bool) :=
 given (lL.g.i (a_0,b_1)) (cl (R.kc a_0 b_1) kc.g.o fun r1=>ok ((r1 == 0)))
abbrev jn.g:Sg:=⟨[.val true (.bor (.seq .b (.own .w))),.val true (.frz aI)],[vb]⟩
def R.jn (b_0:az.den) (a_1:aI.den):Res (Bool) :=
 given (jn.g.i (b_0,a_1)) (br (a_1.1 == 1) (br ((b_0.2.length:Int) == 0) (ok true) (br (a_1.1 == 0) (cl (R.jt a_1.2) jt.g.o fun r1=>bd (R.lL b_0 r1) fun r2=>ok r2) (ok false))) (br (a_1.1 == 0) (cl (R.jt a_1.2) jt.g.o fun r3=>bd (R.lL b_0 r3) fun r4=>ok r4) (ok false)))
abbrev jE.g:Sg:=⟨[.val true (.frz aC),.val true (.frz aC)],[vb,vi]⟩
def R.jE (a_0:aC.den) (b_1:aC.den):Res ((Bool×Int)) :=
 given (jE.g.i (a_0,b_1)) (cl (R.bt a_0) bt.g.o fun r1=>cl (R.bt b_1) bt.g.o fun r2=>br (r1.1 == r2.1) (bd (R.gS r1 r2) fun r3=>ok ((r3,0))) (bd (α:=Bool) (bd (R.jV r1) fun r4=>br r4 (ok true) (bd (R.jV r2) fun r5=>ok r5)) fun x6=>br x6 (bd (R.jV r1) fun r7=>br r7 (bd (R.jV r2) fun r8=>ok ((r8,0))) (ok ((false,0)))) (cl (R.gB r1) gB.g.o fun r9=>cl (R.gB r2) gB.g.o fun r10=>bd (α:=(aC.den×aC.den)) (br (ilt r10.1 r9.1) (ok ((r10,r9))) (ok ((r9,r10)))) fun x11=>br (x11.1.1 == x11.2.1) (bd (R.gS x11.1 x11.2) fun r12=>ok ((r12,0))) (bd (α:=Bool) (br (x11.1.1 == 3) (ok ((x11.2.1 == 4))) (ok false)) fun x13=>br x13 (bd (R.jn x11.2.2.2.1 x11.1.2.1) fun r14=>ok ((r14,0))) (bd (α:=Bool) (br (x11.1.1 == 3) (ok ((x11.2.1 == 5))) (ok false)) fun x15=>br x15 (cl (R.bR x11.2) bR.g.o fun r16=>br (r16.2 == 0) (bd (R.iN x11.1.2.1 r16.1) fun r17=>ok ((r17,r16.2))) (ok ((false,r16.2)))) (ok ((false,3))))))))
abbrev gT.g:Sg:=⟨[.s,.val true (.frz aC),.val true (.frz aC)],[(true,(.frz aC)),vi]⟩
def R.gT (op_0:(List UInt8)) (a_1:aC.den) (b_2:aC.den):Res ((aC.den×Int)) :=
 given (gT.g.i (op_0,(a_1,b_2))) (cl (R.bt a_1) bt.g.o fun r1=>cl (R.bt b_2) bt.g.o fun r2=>br (op_0 == [43]) (bd (α:=Bool) (br (r1.1 == 5) (ok true) (ok ((r2.1 == 5)))) fun x3=>br x3 (cl (R.kT r1 r2) kT.g.o fun r4=>ok r4) (cl (R.ja op_0 r1 r2) ja.g.o fun r5=>ok r5)) (bd (α:=Bool) (br (op_0 == [45]) (ok ((op_0 == [45]))) (br (op_0 == [42]) (ok ((op_0 == [42]))) (br (op_0 == [47]) (ok ((op_0 == [47]))) (ok ((op_0 == [37])))))) fun x6=>br x6 (cl (R.ja op_0 r1 r2) ja.g.o fun r7=>ok r7) (bd (α:=Bool) (br (op_0 == [38]) (ok ((op_0 == [38]))) (br (op_0 == [124]) (ok ((op_0 == [124]))) (br (op_0 == [94]) (ok ((op_0 == [94]))) (br (op_0 == [60,60]) (ok ((op_0 == [60,60]))) (br (op_0 == [62,62]) (ok ((op_0 == [62,62]))) (ok ((op_0 == [62,62,62])))))))) fun x8=>br x8 (cl (R.kM op_0 r1 r2) kM.g.o fun r9=>ok r9) (br (op_0 == [60]) (cl (R.gz r1 r2 false false) gz.g.o fun r10=>ok r10) (br (op_0 == [62]) (cl (R.gz r1 r2 true false) gz.g.o fun r11=>ok r11) (br (op_0 == [60,61]) (cl (R.gz r1 r2 true true) gz.g.o fun r12=>ok r12) (br (op_0 == [62,61]) (cl (R.gz r1 r2 false true) gz.g.o fun r13=>ok r13) (br (op_0 == [61,61,61]) (bd (R.gS r1 r2) fun r14=>cl (R.bF r14) bF.g.o fun r15=>ok ((r15,0))) (br (op_0 == [33,61,61]) (bd (R.gS r1 r2) fun r16=>cl (R.bF (!r16)) bF.g.o fun r17=>ok ((r17,0))) (bd (α:=Bool) (br (op_0 == [61,61]) (ok ((op_0 == [61,61]))) (ok ((op_0 == [33,61])))) fun x18=>br x18 (cl (R.jE r1 r2) jE.g.o fun r19=>br (!(r19.2 == 0)) (ok ((zV,r19.2))) (cl (R.bF (r19.1 == (op_0 == [61,61]))) bF.g.o fun r20=>ok ((r20,0)))) (ok ((zV,3)))))))))))))
abbrev bY.g:Sg:=⟨[.val false (.bor (.own (.frz aC))),.i],[(true,(.frz aC))]⟩
def R.bY (l_0:(List aC.den)) (i_1:Int):Res (aC.den) :=
 given (bY.g.i (l_0,i_1)) (br (ilt i_1 (l_0.length:Int)) (ct (.frz aC) l_0 i_1 fun e1=>ok e1) (ok zV))
abbrev eh.g:Sg:=⟨[.val true (.frz aI)],[(true,(.frz aI))]⟩
def R.eh (a_0:aI.den):Res (aI.den) :=
 given (eh.g.i a_0) (cl (R.eH a_0) eH.g.o fun r1=>bd (α:=Bool) (br (r1.1 == 2) (ok true) (ok ((r1.1 == 1)))) fun x2=>br x2 (cl (R.cP 0) cP.g.o fun r3=>ok r3) (ok r1))
abbrev kH.g:Sg:=⟨[.val true (.frz aI)],[vi,vb]⟩
def R.kH (a_0:aI.den):Res ((Int×Bool)) :=
 given (kH.g.i a_0) (cl (R.eh a_0) eh.g.o fun r1=>bd (α:=Bool) (br (!(r1.1 == 0)) (ok true) (ok ((ilt r1.2 0)))) fun x2=>br x2 (ok ((0,false))) (ok ((r1.2,true))))
abbrev cU.g:Sg:=⟨[.val true (.frz aC)],[vi,vi]⟩
def R.cU (v_0:aC.den):Res ((Int×Int)) :=
 given (cU.g.i v_0) (cl (R.bt v_0) bt.g.o fun r1=>br (r1.1 == 0) (ok ((0,0))) (cl (R.bR r1) bR.g.o fun r2=>br (!(r2.2 == 0)) (ok ((0,r2.2))) (cl (R.kH r2.1) kH.g.o fun r3=>br (!r3.2) (ok ((0,2))) (ok ((r3.1,0))))))
abbrev dA.g:Sg:=⟨[.obj aG,.val false (.bor (.own (.frz aC)))],[(true,(.frz aC)),vi]⟩
def R.dA (r_0:aG.den) (l_1:(List aC.den)):Res ((aC.den×Int)×aG.den) :=
 given (dA.g.i (r_0,l_1)) (cl (R.bY l_1 0) bY.g.o fun r1=>cl (R.cU r1) cU.g.o fun r2=>br (!(r2.2 == 0)) (cl (R.aE r_0 r2.2) aE.g.o fun r3=>ok r3) (cl (R.bY l_1 1) bY.g.o fun r4=>br (!(r4.1 == 0)) (cl (R.aK r_0) aK.g.o fun r5=>ok r5) (cl (R.bP r_0 (1,(0,(0,(0,(0,(false,(false,(0,(0,((0,0),(([]:List Int),r2.1)))))))))))) bP.g.o fun r6=>br (!(r6.1.2 == 0)) (ok (((zV,r6.1.2),r6.2))) (br (!(r6.1.1.2.1 == 0)) (cl (R.aE r6.2 2) aE.g.o fun r7=>ok r7) (cl (R.aT r6.2 (6,(0,(([]:List bQ.den),(([]:List bJ.den),(([]:List UInt8),(0,(0,(zV,(0,(r6.1.1.2.2.1,(0,(r2.1,([]:List Int)))))))))))))) aT.g.o fun r8=>ok r8)))))
abbrev dI.g:Sg:=⟨[.val false (.bor aG),.val true (.bor (.seq .i (.seq (.frz aI) (.seq (.seq .b (.own .w)) (.seq (.own .h) .i)))))],[vb]⟩
def R.dI (r_0:((List aF.den)×(dy.den×((List fM.den)×(Int×(iB.den×(Int×(Int×(fB.den×gY.den))))))))) (v_1:aC.den):Res (Bool) :=
 given (dI.g.i (r_0,v_1)) (br (!(v_1.1 == 6)) (ok false) (cl (R.aw r_0.2.2.2.2.1 v_1.2.2.2.2) aw.g.o fun r1=>br (r1 == 5) (ok true) (ok ((r1 == 6)))))
abbrev c7.g:Sg:=⟨[.obj aG,.val false (.bor (.own (.frz aC)))],[(true,(.frz aC)),vi]⟩
def R.c7 (r_0:aG.den) (l_1:(List aC.den)):Res ((aC.den×Int)×aG.den) :=
 given (c7.g.i (r_0,l_1)) (cl (R.bY l_1 0) bY.g.o fun r1=>bd (R.dI r_0 r1) fun r2=>br (!r2) (cl (R.aE r_0 1) aE.g.o fun r3=>ok r3) (cl (R.cu r_0 r1.2.2.2.2) cu.g.o fun r4=>cl (R.bY l_1 1) bY.g.o fun r5=>cl (R.cU r5) cU.g.o fun r6=>br (!(r6.2 == 0)) (cl (R.aE r_0 r6.2) aE.g.o fun r7=>ok r7) (br (ilt r4 r6.1) (cl (R.aE r_0 2) aE.g.o fun r8=>ok r8) (bd (α:=(Int ⊕ (Int×(aG.den×aC.den)))) (cl (R.bY l_1 2) bY.g.o fun r9=>br (!(r9.1 == 0)) (cl (R.cU r9) cU.g.o fun r10=>br (!(r10.2 == 0)) (cl (R.aE r_0 r10.2) aE.g.o fun r11=>ok (.inr (r11.1.2,(r11.2,r11.1.1)))) (br (ilt (w6 (r4-r6.1)) r10.1) (cl (R.aE r_0 2) aE.g.o fun r12=>ok (.inr (r12.1.2,(r12.2,r12.1.1)))) (ok (.inl r10.1)))) (ok (.inl (w6 (r4-r6.1))))) fun n13=>sum n13 (fun n14=>cl (R.aT r_0 (8,(0,(([]:List bQ.den),(([]:List bJ.den),(([]:List UInt8),(0,(0,(zV,(0,(r1.2.2.2.2,(r6.1,(n14,([]:List Int)))))))))))))) aT.g.o fun r16=>ok r16) (fun z15=>ok (((z15.2.2,z15.1),z15.2.1)))))))
end Go.Mach
end

set_option linter.unusedVariables false
set_option maxRecDepth 20000
noncomputable section
namespace Go.Mach
open Res
abbrev cp.g:Sg:=⟨[.s,.s],[vb]⟩
def R.cp (s_0:(List UInt8)) (suffix_1:(List UInt8)):Res (Bool) :=
 given (cp.g.i (s_0,suffix_1)) (br (ile (suffix_1.length:Int) (s_0.length:Int)) (ai (ile 0 (w6 ((s_0.length:Int)-(suffix_1.length:Int))) && ile (w6 ((s_0.length:Int)-(suffix_1.length:Int))) s_0.length) (ok (((List.drop (Int.toNat (w6 ((s_0.length:Int)-(suffix_1.length:Int)))) s_0) == suffix_1)))) (ok false))
abbrev cT.g:Sg:=⟨[.s,.s],[vs,vb]⟩
def R.cT (s_0:(List UInt8)) (suffix_1:(List UInt8)):Res (((List UInt8)×Bool)) :=
 given (cT.g.i (s_0,suffix_1)) (bd (R.cp s_0 suffix_1) fun r1=>br (!r1) (ok ((s_0,false))) (ai (ile 0 (w6 ((s_0.length:Int)-(suffix_1.length:Int))) && ile (w6 ((s_0.length:Int)-(suffix_1.length:Int))) s_0.length) (ok (((List.take (Int.toNat (w6 ((s_0.length:Int)-(suffix_1.length:Int)))) s_0),true)))))
abbrev dh.g:Sg:=⟨[.s,.s],[vs,vb]⟩
def R.dh (s_0:(List UInt8)) (suffix_1:(List UInt8)):Res (((List UInt8)×Bool)) :=
 given (dh.g.i (s_0,suffix_1)) (cl (R.cT s_0 suffix_1) cT.g.o fun r1=>ok r1)
abbrev ei.g:Sg:=⟨[.s],[vi]⟩
def R.ei (s_0:(List UInt8)):Res (Int) :=
 given (ei.g.i s_0) (cl (R.fO) fO.g.o fun r1=>cl (R.bT r1 s_0) bT.g.o fun r2=>ok (w6 (1+r2)))
abbrev jP.g:Sg:=⟨[.s],[vi]⟩
def R.jP (s_0:(List UInt8)):Res (Int) :=
 given (jP.g.i s_0) (cl (R.dh s_0 [65,114,114,97,121]) dh.g.o fun r1=>br r1.2 (cl (R.ei r1.1) ei.g.o fun r2=>ok r2) (ok 0))
abbrev er.g:Sg:=⟨[.obj aG,.i,.i,.val true (.frz aC),.val true (.frz aC)],[(true,(.frz aC)),vi]⟩
def R.er (r_0:aG.den) (kind_1:Int) (ref_2:Int) (b_3:aC.den) (c_4:aC.den):Res ((aC.den×Int)×aG.den) :=
 given (er.g.i (r_0,(kind_1,(ref_2,(b_3,c_4))))) (cl (R.bO kind_1) bO.g.o fun r1=>cl (R.cu r_0 ref_2) cu.g.o fun r2=>cl (R.cU b_3) cU.g.o fun r3=>br (!(r3.2 == 0)) (cl (R.aE r_0 r3.2) aE.g.o fun r4=>ok r4) (ai (!(r1 == 0)) (br (!((Int.tmod r3.1 r1) == 0)) (cl (R.aE r_0 2) aE.g.o fun r5=>ok r5) (bd (α:=(Int ⊕ (Int×(aG.den×aC.den)))) (br (!(c_4.1 == 0)) (cl (R.cU c_4) cU.g.o fun r6=>br (!(r6.2 == 0)) (cl (R.aE r_0 r6.2) aE.g.o fun r7=>ok (.inr (r7.1.2,(r7.2,r7.1.1)))) (ok (.inl r6.1))) (ok (.inl 0))) fun n8=>sum n8 (fun n9=>bd (α:=(Int ⊕ (Int×(aG.den×aC.den)))) (bd (α:=Bool) (br (c_4.1 == 0) (ai (!(r1 == 0)) (br (!((Int.tmod r2 r1) == 0)) (ok true) (br (ilt r2 r3.1) (ok true) (ai (!(r1 == 0)) (ok ((ilt (w6 (Int.tdiv (w6 (r2-r3.1)) r1)) n9))))))) (br (ilt r2 r3.1) (ok true) (ai (!(r1 == 0)) (ok ((ilt (w6 (Int.tdiv (w6 (r2-r3.1)) r1)) n9)))))) fun x11=>br x11 (cl (R.aE r_0 2) aE.g.o fun r12=>ok (.inr (r12.1.2,(r12.2,r12.1.1)))) (br (c_4.1 == 0) (ai (!(r1 == 0)) (ok (.inl (w6 (Int.tdiv (w6 (r2-r3.1)) r1))))) (ok (.inl n9)))) fun n13=>sum n13 (fun n14=>cl (R.aT r_0 (7,(0,(([]:List bQ.den),(([]:List bJ.den),(([]:List UInt8),(0,(0,(zV,(kind_1,(ref_2,(r3.1,(n14,([]:List Int)))))))))))))) aT.g.o fun r16=>ok r16) (fun z15=>ok (((z15.2.2,z15.1),z15.2.1)))) (fun z10=>ok (((z10.2.2,z10.1),z10.2.1)))))))
abbrev dU.g:Sg:=⟨[.obj aG,.i,.val false (.bor (.own (.frz aC)))],[(true,(.frz aC)),vi]⟩
def R.dU (r_0:aG.den) (kind_1:Int) (l_2:(List aC.den)):Res ((aC.den×Int)×aG.den) :=
 given (dU.g.i (r_0,(kind_1,l_2))) (cl (R.bY l_2 0) bY.g.o fun r1=>cl (R.bY l_2 1) bY.g.o fun r2=>cl (R.bY l_2 2) bY.g.o fun r3=>cl (R.bO kind_1) bO.g.o fun r4=>bd (R.dI r_0 r1) fun r5=>br r5 (cl (R.er r_0 kind_1 r1.2.2.2.2 r2 r3) er.g.o fun r6=>ok r6) (br (r1.1 == 6) (cl (R.aK r_0) aK.g.o fun r7=>ok r7) (cl (R.cU r1) cU.g.o fun r8=>br (!(r8.2 == 0)) (cl (R.aE r_0 r8.2) aE.g.o fun r9=>ok r9) (ai (!(r4 == 0)) (br (ilt (w6 (Int.tdiv 4096 r4)) r8.1) (cl (R.aE r_0 2) aE.g.o fun r10=>ok r10) (ai (ile 0 (w6 (r8.1*r4)) && (ile (w6 (r8.1*r4)) (w6 (r8.1*r4)) && decide ((Int.toNat (w6 (r8.1*r4)))*1<=2^47))) (cl (R.aT r_0 (5,(0,(([]:List bQ.den),(([]:List bJ.den),(([]:List UInt8),(0,(0,(zV,(0,(0,(0,(0,(List.replicate (Int.toNat (w6 (r8.1*r4))) (0:Int))))))))))))))) aT.g.o fun r11=>br (!(r11.1.2 == 0)) (ok r11) (cl (R.aT r11.2 (7,(0,(([]:List bQ.den),(([]:List bJ.den),(([]:List UInt8),(0,(0,(zV,(kind_1,(r11.1.1.2.2.2.2,(0,(r8.1,([]:List Int)))))))))))))) aT.g.o fun r12=>ok r12))))))))
abbrev cM.g:Sg:=⟨[.val false (.bor (.own .h)),.val false (.bor (.own .h))],[vi]⟩
def R.cM (a_0:(List Int)) (b_1:(List Int)):Res (Int) :=
 given (cM.g.i (a_0,b_1)) (cl (R.eZ a_0) eZ.g.o fun r1=>cl (R.eZ b_1) eZ.g.o fun r2=>ok (w6 (r1.1-r2.1)))
abbrev aP.g:Sg:=⟨[.obj (.own (.frz (.list (.int .u16)))),.i,.i,.val false (.bor (.clo 436 .nil))],[]⟩
def R.aP (data_0:(List (List Int))) (a_1:Int) (b_2:Int) (cmp_3:Unit):Res (Unit×(List (List Int))) :=
 given (aP.g.i (data_0,(a_1,(b_2,cmp_3)))) (bd (loop (α:=(Int×(List (List Int)))) (β:=(List (List Int))) (fun i1=>br (ilt i1.1 b_2) (bd (loop (α:=(Int×(List (List Int)))) (β:=(List (List Int))) (fun j2=>bd (α:=Bool) (br (ilt a_1 j2.1) (ai (ile 0 j2.1 && ilt j2.1 j2.2.length) (idx (.list (.int .u16)) j2.2 (0+Int.toNat j2.1) fun e3=>ai (ile 0 (w6 (j2.1-1)) && ilt (w6 (j2.1-1)) j2.2.length) (idx (.list (.int .u16)) j2.2 (0+Int.toNat (w6 (j2.1-1))) fun e4=>cl (R.cM e3 e4) cM.g.o fun r5=>ok ((ilt r5 0))))) (ok false)) fun x6=>br x6 (ai (ile 0 (w6 (j2.1-1)) && ilt (w6 (j2.1-1)) j2.2.length) (idx (.list (.int .u16)) j2.2 (0+Int.toNat (w6 (j2.1-1))) fun e7=>ai (ile 0 j2.1 && ilt j2.1 j2.2.length) (idx (.list (.int .u16)) j2.2 (0+Int.toNat j2.1) fun e8=>ai (ile 0 j2.1 && ilt j2.1 j2.2.length) (idx (.list (.int .u16)) j2.2 (0+Int.toNat j2.1) fun e9=>ai (ile 0 (w6 (j2.1-1)) && ilt (w6 (j2.1-1)) (List.set j2.2 (0+Int.toNat j2.1) e7).length) (idx (.list (.int .u16)) (List.set j2.2 (0+Int.toNat j2.1) e7) (0+Int.toNat (w6 (j2.1-1))) fun e10=>ok (.next ((w6 (j2.1-1),(List.set (List.set j2.2 (0+Int.toNat j2.1) e7) (0+Int.toNat (w6 (j2.1-1))) e8))))))))) (ok (.done (j2.2)))) fuel i1) fun x11=>ok (.next ((w6 (i1.1+1),x11)))) (ok (.done (i1.2)))) fuel (w6 (a_1+1),data_0)) fun x12=>ok (((),x12)))
abbrev aN.g:Sg:=⟨[.obj (.own (.frz (.list (.int .u16)))),.i,.i,.i,.val false (.bor (.clo 436 .nil))],[]⟩
def R.aN (data_0:(List (List Int))) (a_1:Int) (b_2:Int) (n_3:Int) (cmp_4:Unit):Res (Unit×(List (List Int))) :=
 given (aN.g.i (data_0,(a_1,(b_2,(n_3,cmp_4))))) (bd (loop (α:=(Int×(List (List Int)))) (β:=(List (List Int))) (fun i1=>br (ilt i1.1 n_3) (ai (ile 0 (w6 (b_2+i1.1)) && ilt (w6 (b_2+i1.1)) i1.2.length) (idx (.list (.int .u16)) i1.2 (0+Int.toNat (w6 (b_2+i1.1))) fun e2=>ai (ile 0 (w6 (a_1+i1.1)) && ilt (w6 (a_1+i1.1)) i1.2.length) (idx (.list (.int .u16)) i1.2 (0+Int.toNat (w6 (a_1+i1.1))) fun e3=>ai (ile 0 (w6 (a_1+i1.1)) && ilt (w6 (a_1+i1.1)) i1.2.length) (idx (.list (.int .u16)) i1.2 (0+Int.toNat (w6 (a_1+i1.1))) fun e4=>ai (ile 0 (w6 (b_2+i1.1)) && ilt (w6 (b_2+i1.1)) (List.set i1.2 (0+Int.toNat (w6 (a_1+i1.1))) e2).length) (idx (.list (.int .u16)) (List.set i1.2 (0+Int.toNat (w6 (a_1+i1.1))) e2) (0+Int.toNat (w6 (b_2+i1.1))) fun e5=>ok (.next ((w6 (i1.1+1),(List.set (List.set i1.2 (0+Int.toNat (w6 (a_1+i1.1))) e2) (0+Int.toNat (w6 (b_2+i1.1))) e3))))))))) (ok (.done (i1.2)))) fuel (0,data_0)) fun x6=>ok (((),x6)))
abbrev aW.g:Sg:=⟨[.obj (.own (.frz (.list (.int .u16)))),.i,.i,.i,.val false (.bor (.clo 436 .nil))],[]⟩
def R.aW (data_0:(List (List Int))) (a_1:Int) (m_2:Int) (b_3:Int) (cmp_4:Unit):Res (Unit×(List (List Int))) :=
 given (aW.g.i (data_0,(a_1,(m_2,(b_3,cmp_4))))) (bd (loop (α:=(Int×(Int×(List (List Int))))) (β:=(Int×(List (List Int)))) (fun i1=>br (!(i1.1 == i1.2.1)) (br (ilt i1.2.1 i1.1) (cl (R.aN i1.2.2 (w6 (m_2-i1.1)) m_2 i1.2.1 ()) aN.g.o fun r2=>ok (.next ((w6 (i1.1-i1.2.1),(i1.2.1,r2.2))))) (cl (R.aN i1.2.2 (w6 (m_2-i1.1)) (w6 ((w6 (m_2+i1.2.1))-i1.1)) i1.1 ()) aN.g.o fun r3=>ok (.next ((i1.1,(w6 (i1.2.1-i1.1),r3.2)))))) (ok (.done ((i1.1,i1.2.2))))) fuel (w6 (m_2-a_1),(w6 (b_3-m_2),data_0))) fun i4=>cl (R.aN i4.2 (w6 (m_2-i4.1)) m_2 i4.1 ()) aN.g.o fun r5=>ok (((),r5.2)))
abbrev aJ.g:Sg:=⟨[.obj (.own (.frz (.list (.int .u16)))),.i,.i,.i,.val false (.bor (.clo 436 .nil))],[]⟩
def R.aJ:Nat->(List (List Int))->Int->Int->Int->Unit->Res (Unit×(List (List Int)))
 |0,_,_,_,_,_=>.stuck
 |fu+1,data_0,a_1,m_2,b_3,cmp_4=>given (aJ.g.i (data_0,(a_1,(m_2,(b_3,cmp_4))))) (br ((w6 (m_2-a_1)) == 1) (bd (loop (α:=(Int×Int)) (β:=Int) (fun i1=>br (ilt i1.1 i1.2) (ai (ile 0 1) (ai (ile 0 (w6 (ij .u64 (IntKind.wrap .u64 (w6 (i1.1+i1.2))) 1)) && ilt (w6 (ij .u64 (IntKind.wrap .u64 (w6 (i1.1+i1.2))) 1)) data_0.length) (idx (.list (.int .u16)) data_0 (0+Int.toNat (w6 (ij .u64 (IntKind.wrap .u64 (w6 (i1.1+i1.2))) 1))) fun e2=>ai (ile 0 a_1 && ilt a_1 data_0.length) (idx (.list (.int .u16)) data_0 (0+Int.toNat a_1) fun e3=>cl (R.cM e2 e3) cM.g.o fun r4=>br (ilt r4 0) (ok (.next ((w6 ((w6 (ij .u64 (IntKind.wrap .u64 (w6 (i1.1+i1.2))) 1))+1),i1.2)))) (ok (.next ((i1.1,w6 (ij .u64 (IntKind.wrap .u64 (w6 (i1.1+i1.2))) 1))))))))) (ok (.done (i1.1)))) fuel (m_2,b_3)) fun i5=>bd (loop (α:=(Int×(List (List Int)))) (β:=(List (List Int))) (fun k6=>br (ilt k6.1 (w6 (i5-1))) (ai (ile 0 (w6 (k6.1+1)) && ilt (w6 (k6.1+1)) k6.2.length) (idx (.list (.int .u16)) k6.2 (0+Int.toNat (w6 (k6.1+1))) fun e7=>ai (ile 0 k6.1 && ilt k6.1 k6.2.length) (idx (.list (.int .u16)) k6.2 (0+Int.toNat k6.1) fun e8=>ai (ile 0 k6.1 && ilt k6.1 k6.2.length) (idx (.list (.int .u16)) k6.2 (0+Int.toNat k6.1) fun e9=>ai (ile 0 (w6 (k6.1+1)) && ilt (w6 (k6.1+1)) (List.set k6.2 (0+Int.toNat k6.1) e7).length) (idx (.list (.int .u16)) (List.set k6.2 (0+Int.toNat k6.1) e7) (0+Int.toNat (w6 (k6.1+1))) fun e10=>ok (.next ((w6 (k6.1+1),(List.set (List.set k6.2 (0+Int.toNat k6.1) e7) (0+Int.toNat (w6 (k6.1+1))) e8))))))))) (ok (.done (k6.2)))) fuel (a_1,data_0)) fun x11=>ok (((),x11))) (br ((w6 (b_3-m_2)) == 1) (bd (loop (α:=(Int×Int)) (β:=Int) (fun i12=>br (ilt i12.1 i12.2) (ai (ile 0 1) (ai (ile 0 m_2 && ilt m_2 data_0.length) (idx (.list (.int .u16)) data_0 (0+Int.toNat m_2) fun e13=>ai (ile 0 (w6 (ij .u64 (IntKind.wrap .u64 (w6 (i12.1+i12.2))) 1)) && ilt (w6 (ij .u64 (IntKind.wrap .u64 (w6 (i12.1+i12.2))) 1)) data_0.length) (idx (.list (.int .u16)) data_0 (0+Int.toNat (w6 (ij .u64 (IntKind.wrap .u64 (w6 (i12.1+i12.2))) 1))) fun e14=>cl (R.cM e13 e14) cM.g.o fun r15=>br (!(ilt r15 0)) (ok (.next ((w6 ((w6 (ij .u64 (IntKind.wrap .u64 (w6 (i12.1+i12.2))) 1))+1),i12.2)))) (ok (.next ((i12.1,w6 (ij .u64 (IntKind.wrap .u64 (w6 (i12.1+i12.2))) 1))))))))) (ok (.done (i12.1)))) fuel (a_1,m_2)) fun i16=>bd (loop (α:=(Int×(List (List Int)))) (β:=(List (List Int))) (fun k17=>br (ilt i16 k17.1) (ai (ile 0 (w6 (k17.1-1)) && ilt (w6 (k17.1-1)) k17.2.length) (idx (.list (.int .u16)) k17.2 (0+Int.toNat (w6 (k17.1-1))) fun e18=>ai (ile 0 k17.1 && ilt k17.1 k17.2.length) (idx (.list (.int .u16)) k17.2 (0+Int.toNat k17.1) fun e19=>ai (ile 0 k17.1 && ilt k17.1 k17.2.length) (idx (.list (.int .u16)) k17.2 (0+Int.toNat k17.1) fun e20=>ai (ile 0 (w6 (k17.1-1)) && ilt (w6 (k17.1-1)) (List.set k17.2 (0+Int.toNat k17.1) e18).length) (idx (.list (.int .u16)) (List.set k17.2 (0+Int.toNat k17.1) e18) (0+Int.toNat (w6 (k17.1-1))) fun e21=>ok (.next ((w6 (k17.1-1),(List.set (List.set k17.2 (0+Int.toNat k17.1) e18) (0+Int.toNat (w6 (k17.1-1))) e19))))))))) (ok (.done (k17.2)))) fuel (m_2,data_0)) fun x22=>ok (((),x22))) (ai (ile 0 1) (bd (α:=(Int×Int)) (br (ilt (w6 (ij .u64 (IntKind.wrap .u64 (w6 (a_1+b_3))) 1)) m_2) (ok ((w6 ((w6 ((w6 (ij .u64 (IntKind.wrap .u64 (w6 (a_1+b_3))) 1))+m_2))-b_3),w6 (ij .u64 (IntKind.wrap .u64 (w6 (a_1+b_3))) 1)))) (ok ((a_1,m_2)))) fun start23=>bd (loop (α:=(Int×Int)) (β:=Int) (fun start24=>br (ilt start24.1 start24.2) (ai (ile 0 1) (ai (ile 0 (w6 ((w6 ((w6 ((w6 (ij .u64 (IntKind.wrap .u64 (w6 (a_1+b_3))) 1))+m_2))-1))-(w6 (ij .u64 (IntKind.wrap .u64 (w6 (start24.1+start24.2))) 1)))) && ilt (w6 ((w6 ((w6 ((w6 (ij .u64 (IntKind.wrap .u64 (w6 (a_1+b_3))) 1))+m_2))-1))-(w6 (ij .u64 (IntKind.wrap .u64 (w6 (start24.1+start24.2))) 1)))) data_0.length) (idx (.list (.int .u16)) data_0 (0+Int.toNat (w6 ((w6 ((w6 ((w6 (ij .u64 (IntKind.wrap .u64 (w6 (a_1+b_3))) 1))+m_2))-1))-(w6 (ij .u64 (IntKind.wrap .u64 (w6 (start24.1+start24.2))) 1))))) fun e25=>ai (ile 0 (w6 (ij .u64 (IntKind.wrap .u64 (w6 (start24.1+start24.2))) 1)) && ilt (w6 (ij .u64 (IntKind.wrap .u64 (w6 (start24.1+start24.2))) 1)) data_0.length) (idx (.list (.int .u16)) data_0 (0+Int.toNat (w6 (ij .u64 (IntKind.wrap .u64 (w6 (start24.1+start24.2))) 1))) fun e26=>cl (R.cM e25 e26) cM.g.o fun r27=>br (!(ilt r27 0)) (ok (.next ((w6 ((w6 (ij .u64 (IntKind.wrap .u64 (w6 (start24.1+start24.2))) 1))+1),start24.2)))) (ok (.next ((start24.1,w6 (ij .u64 (IntKind.wrap .u64 (w6 (start24.1+start24.2))) 1))))))))) (ok (.done (start24.1)))) fuel start23) fun start28=>bd (α:=(List (List Int))) (bd (α:=Bool) (br (ilt start28 m_2) (ok ((ilt m_2 (w6 ((w6 ((w6 (ij .u64 (IntKind.wrap .u64 (w6 (a_1+b_3))) 1))+m_2))-start28))))) (ok false)) fun x29=>br x29 (cl (R.aW data_0 start28 m_2 (w6 ((w6 ((w6 (ij .u64 (IntKind.wrap .u64 (w6 (a_1+b_3))) 1))+m_2))-start28)) ()) aW.g.o fun r30=>ok (r30.2)) (ok data_0)) fun x31=>bd (α:=(List (List Int))) (bd (α:=Bool) (br (ilt a_1 start28) (ok ((ilt start28 (w6 (ij .u64 (IntKind.wrap .u64 (w6 (a_1+b_3))) 1))))) (ok false)) fun x32=>br x32 (cl (R.aJ fu x31 a_1 start28 (w6 (ij .u64 (IntKind.wrap .u64 (w6 (a_1+b_3))) 1)) ()) aJ.g.o fun r33=>ok (r33.2)) (ok x31)) fun x34=>bd (α:=Bool) (br (ilt (w6 (ij .u64 (IntKind.wrap .u64 (w6 (a_1+b_3))) 1)) (w6 ((w6 ((w6 (ij .u64 (IntKind.wrap .u64 (w6 (a_1+b_3))) 1))+m_2))-start28))) (ok ((ilt (w6 ((w6 ((w6 (ij .u64 (IntKind.wrap .u64 (w6 (a_1+b_3))) 1))+m_2))-start28)) b_3))) (ok false)) fun x35=>br x35 (cl (R.aJ fu x34 (w6 (ij .u64 (IntKind.wrap .u64 (w6 (a_1+b_3))) 1)) (w6 ((w6 ((w6 (ij .u64 (IntKind.wrap .u64 (w6 (a_1+b_3))) 1))+m_2))-start28)) b_3 ()) aJ.g.o fun r36=>ok (((),r36.2))) (ok (((),x34)))))))
abbrev aX.g:Sg:=⟨[.obj (.own (.frz (.list (.int .u16)))),.i,.val false (.bor (.clo 436 .nil))],[]⟩
def R.aX (data_0:(List (List Int))) (n_1:Int) (cmp_2:Unit):Res (Unit×(List (List Int))) :=
 given (aX.g.i (data_0,(n_1,cmp_2))) (bd (loop (α:=(Int×(Int×(List (List Int))))) (β:=(Int×(List (List Int)))) (fun a1=>br (ile a1.2.1 n_1) (cl (R.aP a1.2.2 a1.1 a1.2.1 ()) aP.g.o fun r2=>ok (.next ((a1.2.1,(w6 (a1.2.1+20),r2.2))))) (ok (.done ((a1.1,a1.2.2))))) fuel (0,(20,data_0))) fun a3=>cl (R.aP a3.2 a3.1 n_1 ()) aP.g.o fun r4=>bd (loop (α:=(Int×(List (List Int)))) (β:=(List (List Int))) (fun blockSize5=>br (ilt blockSize5.1 n_1) (bd (loop (α:=(Int×(Int×(List (List Int))))) (β:=(Int×(List (List Int)))) (fun a6=>br (ile a6.2.1 n_1) (cl (R.aJ fuel a6.2.2 a6.1 (w6 (a6.1+blockSize5.1)) a6.2.1 ()) aJ.g.o fun r7=>ok (.next ((a6.2.1,(w6 (a6.2.1+(w6 (2*blockSize5.1))),r7.2))))) (ok (.done ((a6.1,a6.2.2))))) fuel (0,(w6 (2*blockSize5.1),blockSize5.2))) fun a8=>br (ilt (w6 (a8.1+blockSize5.1)) n_1) (cl (R.aJ fuel a8.2 a8.1 (w6 (a8.1+blockSize5.1)) n_1 ()) aJ.g.o fun r9=>ok (.next ((w6 (blockSize5.1*2),r9.2)))) (ok (.next ((w6 (blockSize5.1*2),a8.2))))) (ok (.done (blockSize5.2)))) fuel (20,r4.2)) fun x10=>ok (((),x10)))
abbrev aU.g:Sg:=⟨[.obj (.own (.frz (.list (.int .u16)))),.val false (.bor (.clo 436 .nil))],[]⟩
def R.aU (x_0:(List (List Int))) (cmp_1:Unit):Res (Unit×(List (List Int))) :=
 given (aU.g.i (x_0,cmp_1)) (cl (R.aX x_0 (x_0.length:Int) ()) aX.g.o fun r1=>ok (((),r1.2)))
abbrev eC.g:Sg:=⟨[.val false (.bor eW),.i],[(false,(.own (.frz (.list (.int .u16)))))]⟩
def R.eC (h_0:iB.den) (ref_1:Int):Res ((List (List Int))) :=
 given (eC.g.i (h_0,ref_1)) (bd (R.av h_0 ref_1) fun r1=>br (!r1) (ok (([]:List (List Int)))) (ct kh h_0.2 ref_1 fun e2=>bd (loop (α:=((List (List Int))×((List (List Int))×Int))) (β:=((List (List Int))×(List (List Int)))) (fun places3=>br (ilt places3.2.2 (e2.2.2.1.length:Int)) (ct (.frz bQ) e2.2.2.1 places3.2.2 fun e4=>bd (ok e4.1) fun r5=>given (mi (.int .u16) r5) (cl (R.eZ r5) eZ.g.o fun r6=>br r6.2 (ai (decide ((places3.1.length+[r5].length)*24<=2^47)) (ok (.next (((places3.1++[r5]),(places3.2.1,w6 (places3.2.2+1))))))) (ai (decide ((places3.2.1.length+[r5].length)*24<=2^47)) (ok (.next ((places3.1,((places3.2.1++[r5]),w6 (places3.2.2+1))))))))) (ok (.done ((places3.1,places3.2.1))))) fuel (([]:List (List Int)),(([]:List (List Int)),0))) fun places7=>cl (R.aU places7.1 ()) aU.g.o fun r8=>ai (decide ((r8.2.length+places7.2.length)*24<=2^47)) (ok ((r8.2++places7.2)))))
abbrev ep.g:Sg:=⟨[.obj aG,.val true (.bor (.seq .i (.seq (.frz aI) (.seq (.seq .b (.own .w)) (.seq (.own .h) .i)))))],[(true,(.frz aC)),vi]⟩
def R.ep (r_0:aG.den) (x_1:aC.den):Res ((aC.den×Int)×aG.den) :=
 given (ep.g.i (r_0,x_1)) (bd (R.jB x_1) fun r1=>br r1 (cl (R.aE r_0 1) aE.g.o fun r2=>ok r2) (bd (α:=Int) (br (x_1.1 == 6) (cl (R.aw r_0.2.2.2.2.1 x_1.2.2.2.2) aw.g.o fun r3=>ok r3) (ok 0)) fun kind4=>bd (α:=((List (List Int)) ⊕ (Int×(aG.den×aC.den)))) (br (kind4 == 1) (cl (R.eC r_0.2.2.2.2.1 x_1.2.2.2.2) eC.g.o fun r5=>ok (.inl r5)) (br (kind4 == 2) (cl (R.bG r_0.2.2.2.2.1 x_1.2.2.2.2) bG.g.o fun r6=>bd (loop (α:=((List (List Int))×Int)) (β:=(List (List Int))) (fun l7=>br (ilt l7.2 r6) (cl (R.fT l7.2) fT.g.o fun r8=>ai (decide ((l7.1.length+[r8].length)*24<=2^47)) (ok (.next (((l7.1++[r8]),w6 (l7.2+1)))))) (ok (.done (l7.1)))) fuel (([]:List (List Int)),0)) fun l9=>ok (.inl l9)) (cl (R.aK r_0) aK.g.o fun r10=>ok (.inr (r10.1.2,(r10.2,r10.1.1)))))) fun l11=>sum l11 (fun l12=>cl (R.aT r_0 (2,(0,(([]:List bQ.den),(([]:List bJ.den),(([]:List UInt8),(0,(0,(zV,(0,(0,(0,(0,([]:List Int)))))))))))))) aT.g.o fun r14=>br (!(r14.1.2 == 0)) (ok r14) (bd (loop (α:=(Int×eW.den)) (β:=eW.den) (fun x15=>br (ilt x15.1 (l12.length:Int)) (ai (ile 0 x15.1 && ilt x15.1 l12.length) (idx (.list (.int .u16)) l12 (0+Int.toNat x15.1) fun e16=>cl (R.fT x15.1) fT.g.o fun r17=>cl (R.b9 e16) b9.g.o fun r18=>cl (R.bU x15.2 r14.1.1.2.2.2.2 r17 r18) bU.g.o fun r19=>ok (.next ((w6 (x15.1+1),r19.2))))) (ok (.done (x15.2)))) fuel (0,r14.2.2.2.2.2.1)) fun x20=>ok (((r14.1.1,0),(r14.2.1,(r14.2.2.1,(r14.2.2.2.1,(r14.2.2.2.2.1,(x20,r14.2.2.2.2.2.2))))))))) (fun z13=>ok (((z13.2.2,z13.1),z13.2.1)))))
abbrev dZ.g:Sg:=⟨[.obj aG,.val true (.bor (.seq .i (.seq (.frz aI) (.seq (.seq .b (.own .w)) (.seq (.own .h) .i))))),.val true (.bor (.seq .i (.seq (.frz aI) (.seq (.seq .b (.own .w)) (.seq (.own .h) .i)))))],[(true,(.frz aC)),vi]⟩
def R.dZ (r_0:aG.den) (p_1:aC.den) (q_2:aC.den):Res ((aC.den×Int)×aG.den) :=
 given (dZ.g.i (r_0,(p_1,q_2))) (bd (α:=(Int ⊕ (Int×(aG.den×aC.den)))) (bd (α:=Bool) (br (p_1.1 == 6) (cl (R.aw r_0.2.2.2.2.1 p_1.2.2.2.2) aw.g.o fun r1=>ok ((!(r1 == 1)))) (ok false)) fun x2=>br x2 (cl (R.aK r_0) aK.g.o fun r3=>ok (.inr (r3.1.2,(r3.2,r3.1.1)))) (br (p_1.1 == 6) (ok (.inl p_1.2.2.2.2)) (br (!(p_1.1 == 1)) (cl (R.aE r_0 1) aE.g.o fun r4=>ok (.inr (r4.1.2,(r4.2,r4.1.1)))) (ok (.inl (-2)))))) fun proto5=>sum proto5 (fun proto6=>br (!(q_2.1 == 0)) (cl (R.aK r_0) aK.g.o fun r8=>ok r8) (cl (R.aT r_0 (1,(proto6,(([]:List bQ.den),(([]:List bJ.den),(([]:List UInt8),(0,(0,(zV,(0,(0,(0,(0,([]:List Int)))))))))))))) aT.g.o fun r9=>ok r9)) (fun z7=>ok (((z7.2.2,z7.1),z7.2.1))))
abbrev ev.g:Sg:=⟨[.obj aG,.val true (.bor (.seq .i (.seq (.frz aI) (.seq (.seq .b (.own .w)) (.seq (.own .h) .i))))),.val false (.bor (.own (.frz aC)))],[(true,(.frz aC)),vi]⟩
def R.ev (r_0:aG.den) (this_1:aC.den) (l_2:(List aC.den)):Res ((aC.den×Int)×aG.den) :=
 given (ev.g.i (r_0,(this_1,l_2))) (bd (α:=Bool) (br (!(this_1.1 == 6)) (ok true) (cl (R.aw r_0.2.2.2.2.1 this_1.2.2.2.2) aw.g.o fun r1=>ok ((!(r1 == 2))))) fun x2=>br x2 (cl (R.aK r_0) aK.g.o fun r3=>ok r3) (bd (loop (α:=(Int×eW.den)) (β:=eW.den) (fun x4=>br (ilt x4.1 (l_2.length:Int)) (ct (.frz aC) l_2 x4.1 fun e5=>cl (R.bG x4.2 this_1.2.2.2.2) bG.g.o fun r6=>cl (R.fT r6) fT.g.o fun r7=>cl (R.bU x4.2 this_1.2.2.2.2 r7 e5) bU.g.o fun r8=>ok (.next ((w6 (x4.1+1),r8.2)))) (ok (.done (x4.2)))) fuel (0,r_0.2.2.2.2.1)) fun x9=>cl (R.bG x9 this_1.2.2.2.2) bG.g.o fun r10=>cl (R.bc r10) bc.g.o fun r11=>ok (((r11,0),(r_0.1,(r_0.2.1,(r_0.2.2.1,(r_0.2.2.2.1,(x9,r_0.2.2.2.2.2)))))))))
abbrev eE.g:Sg:=⟨[.obj eW,.i],[(true,(.frz aC)),vb]⟩
def R.eE (h_0:eW.den) (ref_1:Int):Res ((aC.den×Bool)×eW.den) :=
 given (eE.g.i (h_0,ref_1)) (cl (R.bG h_0 ref_1) bG.g.o fun r1=>br (r1 == 0) (ok (((zV,false),h_0))) (ct kh h_0.2 ref_1 fun e2=>ai ((Int.toNat ref_1) == (Int.toNat ref_1)) (ai ((Int.toNat ref_1) == (Int.toNat ref_1)) (ai (ile 0 (w6 ((e2.2.2.1.length:Int)-1)) && ilt (w6 ((e2.2.2.1.length:Int)-1)) e2.2.2.1.length) (idx bQ e2.2.2.1 (0+Int.toNat (w6 ((e2.2.2.1.length:Int)-1))) fun e3=>ai ((Int.toNat ref_1) == (Int.toNat ref_1)) (ai (ile 0 (w6 ((e2.2.2.1.length:Int)-1)) && ile (w6 ((e2.2.2.1.length:Int)-1)) e2.2.2.1.length) (ai ((Int.toNat ref_1) == (Int.toNat ref_1)) (cl (R.di e3.2) di.g.o fun r4=>ok (((r4,true),(h_0.1,(List.set h_0.2 (Int.toNat ref_1) (e2.1,(e2.2.1,((List.take (Int.toNat (w6 ((e2.2.2.1.length:Int)-1))) (List.drop 0 e2.2.2.1)),e2.2.2.2)))))))))))))))
abbrev kG.g:Sg:=⟨[.s],[(true,(.frz aI)),vb]⟩
def R.kG (s_0:(List UInt8)):Res ((aI.den×Bool)) :=
 given (kG.g.i s_0) (br (s_0 == [78,97,78]) (cl (R.eP) eP.g.o fun r1=>ok ((r1,true))) (br (s_0 == [73,110,102,105,110,105,116,121]) (cl (R.iu false) iu.g.o fun r2=>ok ((r2,true))) (br (s_0 == [45,73,110,102,105,110,105,116,121]) (cl (R.iu true) iu.g.o fun r3=>ok ((r3,true))) (cl (qE s_0) qC.g.o fun r4=>bd (α:=Bool) (br (!r4.2) (ok true) (cl (rn r4.1) rN.g.o fun r5=>ok ((!(r5 == s_0))))) fun x6=>br x6 (cl (R.eP) eP.g.o fun r7=>ok ((r7,false))) (cl (R.mY r4.1) mY.g.o fun r8=>ok r8)))))
abbrev cr.g:Sg:=⟨[.obj aG,.val true (.frz aC),.i],[(true,(.frz aC)),vi]⟩
def R.cr (r_0:aG.den) (x_1:aC.den) (n_2:Int):Res ((aC.den×Int)×aG.den) :=
 given (cr.g.i (r_0,(x_1,n_2))) (br (n_2 == 0) (cl (R.bc 0) bc.g.o fun r1=>ok (((r1,0),r_0))) (br (x_1.1 == 4) (cl (R.kE x_1.2.2.1) kE.g.o fun r2=>cl (R.kG r2) kG.g.o fun r3=>br (!r3.2) (cl (R.aK r_0) aK.g.o fun r4=>ok r4) (cl (R.cD r3.1) cD.g.o fun r5=>ok (((r5,0),r_0)))) (cl (R.bR x_1) bR.g.o fun r6=>cl (R.cD r6.1) cD.g.o fun r7=>cl (R.bX r_0 r7 r6.2) bX.g.o fun r8=>ok r8)))
abbrev dX.g:Sg:=⟨[.obj aG,.val true (.frz aC)],[(true,(.frz aC)),vi]⟩
def R.dX (r_0:aG.den) (x_1:aC.den):Res ((aC.den×Int)×aG.den) :=
 given (dX.g.i (r_0,x_1)) (br (x_1.1 == 3) (cl (R.eh x_1.2.1) eh.g.o fun r1=>bd (α:=Bool) (br (!(x_1.2.1.1 == 2)) (ok ((r1.1 == 0))) (ok false)) fun x2=>br x2 (cl (R.jt r1.2) jt.g.o fun r3=>cl (R.db r3) db.g.o fun r4=>ok (((r4,0),r_0))) (cl (R.aE r_0 2) aE.g.o fun r5=>ok r5)) (cl (R.fN x_1) fN.g.o fun r6=>cl (R.db r6.1) db.g.o fun r7=>cl (R.bX r_0 r7 r6.2) bX.g.o fun r8=>ok r8))
abbrev dB.g:Sg:=⟨[.obj aG,.s,.val true (.frz aC)],[(true,(.frz aC)),vi]⟩
def R.dB (r_0:aG.den) (s_1:(List UInt8)) (x_2:aC.den):Res ((aC.den×Int)×aG.den) :=
 given (dB.g.i (r_0,(s_1,x_2))) (cl (R.b9 ([]:List Int)) b9.g.o fun r1=>bd (α:=(aC.den ⊕ (Int×(aG.den×aC.den)))) (br (!(x_2.1 == 0)) (cl (R.cx x_2) cx.g.o fun r2=>br (!(r2.2 == 0)) (cl (R.aE r_0 r2.2) aE.g.o fun r3=>ok (.inr (r3.1.2,(r3.2,r3.1.1)))) (cl (R.b9 r2.1) b9.g.o fun r4=>ok (.inl r4))) (ok (.inl r1))) fun x5=>sum x5 (fun x6=>cl (R.aT r_0 (10,(0,(([]:List bQ.den),(([]:List bJ.den),(s_1,(0,(0,(x6,(0,(0,(0,(0,([]:List Int)))))))))))))) aT.g.o fun r8=>ok r8) (fun z7=>ok (((z7.2.2,z7.1),z7.2.1))))
abbrev cK.g:Sg:=⟨[.s,.s],[vb]⟩
def R.cK (s_0:(List UInt8)) (prefix_1:(List UInt8)):Res (Bool) :=
 given (cK.g.i (s_0,prefix_1)) (br (ile (prefix_1.length:Int) (s_0.length:Int)) (ai (ile 0 (prefix_1.length:Int) && ile (prefix_1.length:Int) s_0.length) (ok (((List.take (Int.toNat (prefix_1.length:Int)) s_0) == prefix_1)))) (ok false))
abbrev cO.g:Sg:=⟨[.s,.s],[vb]⟩
def R.cO (s_0:(List UInt8)) (prefix_1:(List UInt8)):Res (Bool) :=
 given (cO.g.i (s_0,prefix_1)) (bd (R.cK s_0 prefix_1) fun r1=>ok r1)
abbrev cN.g:Sg:=⟨[.s,.s],[vs]⟩
def R.cN (s_0:(List UInt8)) (prefix_1:(List UInt8)):Res ((List UInt8)) :=
 given (cN.g.i (s_0,prefix_1)) (bd (R.cK s_0 prefix_1) fun r1=>br r1 (ai (ile 0 (prefix_1.length:Int) && ile (prefix_1.length:Int) s_0.length) (ok ((List.drop (Int.toNat (prefix_1.length:Int)) s_0)))) (ok s_0))
abbrev bw.g:Sg:=⟨[.s,.s],[vs]⟩
def R.bw (s_0:(List UInt8)) (prefix_1:(List UInt8)):Res ((List UInt8)) :=
 given (bw.g.i (s_0,prefix_1)) (cl (R.cN s_0 prefix_1) cN.g.o fun r1=>ok r1)
abbrev gm.g:Sg:=⟨[.i,.val false (.frz (.int .u64))],[(false,(.frz (.int .u64)))]⟩
def R.gm (size_0:Int) (w_1:Int):Res (Int) :=
 given (gm.g.i (size_0,w_1)) (cl (R.cf size_0) cf.g.o fun r1=>cl (R.iE r1 w_1) iE.g.o fun r2=>cl (R.bn r2) bn.g.o fun r3=>cl (R.cf size_0) cf.g.o fun r4=>cl (R.gp r4 r3.2) gp.g.o fun r5=>ok (r5.1))
abbrev dV.g:Sg:=⟨[.obj aG,.s,.val true (.bor (.seq .i (.seq (.frz aI) (.seq (.seq .b (.own .w)) (.seq (.own .h) .i))))),.val false (.bor (.own (.frz aC)))],[(true,(.frz aC)),vi]⟩
def R.dV (r_0:aG.den) (s_1:(List UInt8)) (this_2:aC.den) (l_3:(List aC.den)):Res ((aC.den×Int)×aG.den) :=
 given (dV.g.i (r_0,(s_1,(this_2,l_3)))) (cl (R.aY r_0.2.2.2.2.1 this_2.2.2.2.2) aY.g.o fun r1=>bd (α:=Bool) (br (!(this_2.1 == 6)) (ok true) (ok ((!(r1.1.1 == 8))))) fun x2=>br x2 (cl (R.aE r_0 1) aE.g.o fun r3=>ok r3) (ai (ile 0 3 && ile 3 s_1.length) (cl (R.ei (List.drop (Int.toNat 3) s_1)) ei.g.o fun r4=>bd (R.cO s_1 [115,101,116]) fun r5=>cl (R.bO r4) bO.g.o fun r6=>cl (R.bY l_3 0) bY.g.o fun r7=>cl (R.cU r7) cU.g.o fun r8=>br (!(r8.2 == 0)) (cl (R.aE r_0 r8.2) aE.g.o fun r9=>ok r9) (bd (α:=((Int×Int) ⊕ (Int×(aG.den×aC.den)))) (br r5 (cl (R.bY l_3 1) bY.g.o fun r10=>cl (R.gv r4 r10) gv.g.o fun r11=>br (!(r11.2 == 0)) (cl (R.aE r_0 r11.2) aE.g.o fun r12=>ok (.inr (r12.1.2,(r12.2,r12.1.1)))) (ok (.inl (r11.1,2)))) (ok (.inl (0,1)))) fun w13=>sum w13 (fun w14=>cl (R.bY l_3 w14.2) bY.g.o fun r16=>bd (R.fp r16) fun r17=>bd (α:=(Int ⊕ (Int×(aG.den×aC.den)))) (bd (α:=Bool) (br (ilt r1.1.2.2.2.2.2.2.2.2.2.2.2.1 r6) (ok true) (ok ((ilt (w6 (r1.1.2.2.2.2.2.2.2.2.2.2.2.1-r6)) r8.1)))) fun x18=>br x18 (cl (R.aE r_0 2) aE.g.o fun r19=>ok (.inr (r19.1.2,(r19.2,r19.1.1)))) (bd (α:=Bool) (br r5 (ok ((!r17))) (ok false)) fun x20=>br x20 (cl (R.gm r6 w14.1) gm.g.o fun r21=>ok (.inl r21)) (ok (.inl w14.1)))) fun w22=>sum w22 (fun w23=>br r5 (cl (R.bo r_0 (r1.1.1,(r1.1.2.1,((),((),(r1.1.2.2.2.2.1,(r1.1.2.2.2.2.2.1,(r1.1.2.2.2.2.2.2.1,(r1.1.2.2.2.2.2.2.2.1,(r1.1.2.2.2.2.2.2.2.2.1,(r1.1.2.2.2.2.2.2.2.2.2.1,(r1.1.2.2.2.2.2.2.2.2.2.2.1,(r1.1.2.2.2.2.2.2.2.2.2.2.2.1,())))))))))))) (w6 (r1.1.2.2.2.2.2.2.2.2.2.2.1+r8.1)) r6 w23 false false) bo.g.o fun r25=>ok (((zV,r25.1),r25.2))) (cl (R.cB r_0 (r1.1.1,(r1.1.2.1,((),((),(r1.1.2.2.2.2.1,(r1.1.2.2.2.2.2.1,(r1.1.2.2.2.2.2.2.1,(r1.1.2.2.2.2.2.2.2.1,(r1.1.2.2.2.2.2.2.2.2.1,(r1.1.2.2.2.2.2.2.2.2.2.1,(r1.1.2.2.2.2.2.2.2.2.2.2.1,(r1.1.2.2.2.2.2.2.2.2.2.2.2.1,())))))))))))) (w6 (r1.1.2.2.2.2.2.2.2.2.2.2.1+r8.1)) r6 false false) cB.g.o fun r26=>br (!(r26.1.2 == 0)) (ok (((zV,r26.1.2),r26.2))) (br (!r17) (cl (R.gm r6 r26.1.1) gm.g.o fun r27=>cl (R.dH r4 r27) dH.g.o fun r28=>ok (((r28,0),r26.2))) (cl (R.dH r4 r26.1.1) dH.g.o fun r29=>ok (((r29,0),r26.2)))))) (fun z24=>ok (((z24.2.2,z24.1),z24.2.1)))) (fun z15=>ok (((z15.2.2,z15.1),z15.2.1)))))))
abbrev dz.g:Sg:=⟨[.obj aG,.val true jJ,.val true (.frz aC)],[vi,(true,(.frz aC)),vi]⟩
def R.dz (r_0:aG.den) (c_1:jJ.den) (v_2:aC.den):Res ((Int×(aC.den×Int))×aG.den) :=
 given (dz.g.i (r_0,(c_1,v_2))) (cl (R.cU v_2) cU.g.o fun r1=>bd (α:=Int) (bd (α:=Bool) (br (r1.2 == 0) (ok ((ile c_1.2.2.2.2.2.2.2.2.2.2.2.1 r1.1))) (ok false)) fun x2=>br x2 (ok 2) (ok (r1.2))) fun s3=>br (!(s3 == 0)) (cl (R.aE r_0 s3) aE.g.o fun r4=>ok (((0,r4.1),r4.2))) (ok (((r1.1,(zV,0)),r_0))))
abbrev eQ.g:Sg:=⟨[.val true (.frz aI)],[(true,(.frz aI))]⟩
def R.eQ (a_0:aI.den):Res (aI.den) :=
 given (eQ.g.i a_0) (cl (R.eh a_0) eh.g.o fun r1=>bd (R.js r1 (0,0)) fun r2=>br r2 (ok ((0,0))) (ok r1))
abbrev eI.g:Sg:=⟨[.obj aG,.val true jJ,.val true jJ,.i,.val true (.frz aC),.val true (.frz aC)],[(true,(.frz aC)),vi]⟩
def R.eI (r_0:aG.den) (c_1:jJ.den) (b_2:jJ.den) (n_3:Int) (v_4:aC.den) (q_5:aC.den):Res ((aC.den×Int)×aG.den) :=
 given (eI.g.i (r_0,(c_1,(b_2,(n_3,(v_4,q_5)))))) (cl (R.gv c_1.2.2.2.2.2.2.2.2.1 v_4) gv.g.o fun r1=>br (!(r1.2 == 0)) (cl (R.aE r_0 r1.2) aE.g.o fun r2=>ok r2) (cl (R.bR q_5) bR.g.o fun r3=>br (!(r3.2 == 0)) (cl (R.aE r_0 r3.2) aE.g.o fun r4=>ok r4) (bd (α:=aI.den) (br (r3.1.1 == 2) (ok ((3,0))) (ok (r3.1))) fun x5=>cl (R.bO c_1.2.2.2.2.2.2.2.2.1) bO.g.o fun r6=>cl (R.eQ x5) eQ.g.o fun r7=>cl (R.bP r_0 (6,(b_2.2.2.2.2.2.2.2.2.2.1,(w6 (c_1.2.2.2.2.2.2.2.2.2.2.1+(w6 (n_3*r6))),(r6,(0,(false,(false,(0,(r1.1,(r7,(([]:List Int),0)))))))))))) bP.g.o fun r8=>br (!(r8.1.2 == 0)) (ok (((zV,r8.1.2),r8.2))) (br (r8.1.1.2.1 == 0) (cl (R.aj [111,107]) aj.g.o fun r9=>cl (R.b9 r9) b9.g.o fun r10=>ok (((r10,0),r8.2))) (br (r8.1.1.2.1 == 1) (cl (R.aj [110,111,116,45,101,113,117,97,108]) aj.g.o fun r11=>cl (R.b9 r11) b9.g.o fun r12=>ok (((r12,0),r8.2))) (cl (R.aj [116,105,109,101,100,45,111,117,116]) aj.g.o fun r13=>cl (R.b9 r13) b9.g.o fun r14=>ok (((r14,0),r8.2))))))))
abbrev cq.g:Sg:=⟨[.obj aG,.val true jJ,.val true jJ,.i,.val true (.frz aC)],[(true,(.frz aC)),vi]⟩
def R.cq (r_0:aG.den) (c_1:jJ.den) (b_2:jJ.den) (n_3:Int) (v_4:aC.den):Res ((aC.den×Int)×aG.den) :=
 given (cq.g.i (r_0,(c_1,(b_2,(n_3,v_4))))) (bd (α:=(aI.den ⊕ (Int×(aG.den×aC.den)))) (br (!(v_4.1 == 0)) (cl (R.bR v_4) bR.g.o fun r1=>br (!(r1.2 == 0)) (cl (R.aE r_0 r1.2) aE.g.o fun r2=>ok (.inr (r2.1.2,(r2.2,r2.1.1)))) (cl (R.eQ r1.1) eQ.g.o fun r3=>ok (.inl r3))) (ok (.inl (3,0)))) fun x4=>sum x4 (fun x5=>br (!(b_2.1 == 6)) (cl (R.bc 0) bc.g.o fun r7=>ok (((r7,0),r_0))) (cl (R.bO c_1.2.2.2.2.2.2.2.2.1) bO.g.o fun r8=>cl (R.bP r_0 (7,(b_2.2.2.2.2.2.2.2.2.2.1,(w6 (c_1.2.2.2.2.2.2.2.2.2.2.1+(w6 (n_3*r8))),(0,(0,(false,(false,(0,(0,(x5,(([]:List Int),0)))))))))))) bP.g.o fun r9=>br (!(r9.1.2 == 0)) (ok (((zV,r9.1.2),r9.2))) (cl (R.bc (w6 (gD .and .u64 r9.1.1.1 9007199254740991))) bc.g.o fun r10=>ok (((r10,0),r9.2))))) (fun z6=>ok (((z6.2.2,z6.1),z6.2.1))))
abbrev gC.g:Sg:=⟨[.i,.val true (.frz aC)],[(true,(.frz aC)),(false,(.frz (.int .u64))),vi]⟩
def R.gC (kind_0:Int) (v_1:aC.den):Res ((aC.den×(Int×Int))) :=
 given (gC.g.i (kind_0,v_1)) (bd (R.dQ kind_0) fun r1=>br r1 (cl (R.fN v_1) fN.g.o fun r2=>cl (R.db r2.1) db.g.o fun r3=>cl (R.fb kind_0 r2.1) fb.g.o fun r4=>ok ((r3,(r4,r2.2)))) (cl (R.bR v_1) bR.g.o fun r5=>cl (R.eh r5.1) eh.g.o fun r6=>cl (R.cD r6) cD.g.o fun r7=>cl (R.ff kind_0 r6) ff.g.o fun r8=>ok ((r7,(r8,r5.2)))))
abbrev iX.g:Sg:=⟨[.i,.i,.val false (.frz (.int .u64)),.val false (.frz (.int .u64))],[(false,(.frz (.int .u64))),vb]⟩
def R.iX (kind_0:Int) (op_1:Int) (old_2:Int) (by_3:Int):Res ((Int×Bool)) :=
 given (iX.g.i (kind_0,(op_1,(old_2,by_3)))) (cl (R.bO kind_0) bO.g.o fun r1=>br (r1 == 0) (ok ((0,false))) (br (op_1 == 1) (cl (R.fH kind_0 (IntKind.wrap .u64 (old_2+by_3))) fH.g.o fun r2=>ok ((r2,true))) (br (op_1 == 2) (cl (R.fH kind_0 (gD .and .u64 old_2 by_3)) fH.g.o fun r3=>ok ((r3,true))) (br (op_1 == 3) (cl (R.fH kind_0 (gD .or .u64 old_2 by_3)) fH.g.o fun r4=>ok ((r4,true))) (br (op_1 == 4) (cl (R.fH kind_0 (IntKind.wrap .u64 (old_2-by_3))) fH.g.o fun r5=>ok ((r5,true))) (br (op_1 == 5) (cl (R.fH kind_0 (gD .xor .u64 old_2 by_3)) fH.g.o fun r6=>ok ((r6,true))) (br (op_1 == 6) (cl (R.fH kind_0 by_3) fH.g.o fun r7=>ok ((r7,true))) (ok ((0,false))))))))))
abbrev cw.g:Sg:=⟨[.obj aG,.val true jJ,.i,.val true (.frz fB)],[(true,(.frz aC)),vi]⟩
def R.cw (r_0:aG.den) (c_1:jJ.den) (n_2:Int) (q_3:fB.den):Res ((aC.den×Int)×aG.den) :=
 given (cw.g.i (r_0,(c_1,(n_2,q_3)))) (cl (R.bO c_1.2.2.2.2.2.2.2.2.1) bO.g.o fun r1=>cl (R.aY r_0.2.2.2.2.1 c_1.2.2.2.2.2.2.2.2.2.1) aY.g.o fun r2=>br (!(r2.1.1 == 5)) (cl (R.bP r_0 (q_3.1,(r2.1.2.2.2.2.2.2.2.2.2.1,(w6 (c_1.2.2.2.2.2.2.2.2.2.2.1+(w6 (n_2*r1))),(r1,(q_3.2.2.2.2.1,(true,(true,q_3.2.2.2.2.2.2.2)))))))) bP.g.o fun r3=>br (!(r3.1.2 == 0)) (ok (((zV,r3.1.2),r3.2))) (cl (R.dH c_1.2.2.2.2.2.2.2.2.1 r3.1.1.1) dH.g.o fun r4=>ok (((r4,0),r3.2)))) (cl (R.cB r_0 (c_1.1,(c_1.2.1,((),((),(c_1.2.2.2.2.1,(c_1.2.2.2.2.2.1,(c_1.2.2.2.2.2.2.1,(c_1.2.2.2.2.2.2.2.1,(c_1.2.2.2.2.2.2.2.2.1,(c_1.2.2.2.2.2.2.2.2.2.1,(c_1.2.2.2.2.2.2.2.2.2.2.1,(c_1.2.2.2.2.2.2.2.2.2.2.2.1,())))))))))))) (w6 (c_1.2.2.2.2.2.2.2.2.2.2.1+(w6 (n_2*r1)))) r1 true true) cB.g.o fun r5=>cl (R.iX c_1.2.2.2.2.2.2.2.2.1 q_3.2.2.2.2.1 r5.1.1 q_3.2.2.2.2.2.2.2.1) iX.g.o fun r6=>bd (α:=Int) (br (q_3.1 == 5) (br (r5.1.1 == q_3.2.2.2.2.2.2.2.2.1) (ok (q_3.2.2.2.2.2.2.2.1)) (ok (r5.1.1))) (ok (r6.1))) fun w7=>cl (R.bo r5.2 (c_1.1,(c_1.2.1,((),((),(c_1.2.2.2.2.1,(c_1.2.2.2.2.2.1,(c_1.2.2.2.2.2.2.1,(c_1.2.2.2.2.2.2.2.1,(c_1.2.2.2.2.2.2.2.2.1,(c_1.2.2.2.2.2.2.2.2.2.1,(c_1.2.2.2.2.2.2.2.2.2.2.1,(c_1.2.2.2.2.2.2.2.2.2.2.2.1,())))))))))))) (w6 (c_1.2.2.2.2.2.2.2.2.2.2.1+(w6 (n_2*r1)))) r1 w7 true true) bo.g.o fun r8=>cl (R.dH c_1.2.2.2.2.2.2.2.2.1 r5.1.1) dH.g.o fun r9=>ok (((r9,0),r8.2))))
abbrev gr.g:Sg:=⟨[.s],[vi]⟩
def R.gr (s_0:(List UInt8)):Res (Int) :=
 given (gr.g.i s_0) (br (s_0 == [97,100,100]) (ok 1) (br (s_0 == [97,110,100]) (ok 2) (br (s_0 == [111,114]) (ok 3) (br (s_0 == [115,117,98]) (ok 4) (br (s_0 == [120,111,114]) (ok 5) (ok 6))))))
end Go.Mach
end

set_option linter.unusedVariables false
set_option maxRecDepth 20000
noncomputable section
namespace Go.Mach
open Res
abbrev dS.g:Sg:=⟨[.obj aG,.s,.val false (.bor (.own (.frz aC)))],[(true,(.frz aC)),vi]⟩
def R.dS (r_0:aG.den) (s_1:(List UInt8)) (l_2:(List aC.den)):Res ((aC.den×Int)×aG.den) :=
 given (dS.g.i (r_0,(s_1,l_2))) (br (s_1 == [105,115,76,111,99,107,70,114,101,101]) (cl (R.bY l_2 0) bY.g.o fun r1=>cl (R.bR r1) bR.g.o fun r2=>br (!(r2.2 == 0)) (cl (R.aE r_0 r2.2) aE.g.o fun r3=>ok r3) (cl (R.eh r2.1) eh.g.o fun r4=>br (r4.1 == 0) (br (r4.2 == 1) (cl (R.bF true) bF.g.o fun r5=>ok (((r5,0),r_0))) (br (r4.2 == 2) (cl (R.bF true) bF.g.o fun r6=>ok (((r6,0),r_0))) (br (r4.2 == 4) (cl (R.bF true) bF.g.o fun r7=>ok (((r7,0),r_0))) (cl (R.bF (r4.2 == 8)) bF.g.o fun r8=>ok (((r8,0),r_0)))))) (cl (R.bF false) bF.g.o fun r9=>ok (((r9,0),r_0))))) (cl (R.bY l_2 0) bY.g.o fun r10=>cl (R.aY r_0.2.2.2.2.1 r10.2.2.2.2) aY.g.o fun r11=>cl (R.aY r_0.2.2.2.2.1 r11.1.2.2.2.2.2.2.2.2.2.1) aY.g.o fun r12=>bd (α:=Bool) (br (s_1 == [119,97,105,116]) (ok true) (ok ((s_1 == [110,111,116,105,102,121])))) fun waits13=>bd (α:=Bool) (bd (α:=Bool) (br (!(r10.1 == 6)) (ok true) (ok ((!(r11.1.1 == 7))))) fun x14=>br x14 (ok x14) (bd (α:=Bool) (br waits13 (br (!(r11.1.2.2.2.2.2.2.2.2.1 == 5)) (ok ((!(r11.1.2.2.2.2.2.2.2.2.1 == 7)))) (ok false)) (ok false)) fun x15=>br x15 (ok x15) (br (s_1 == [119,97,105,116]) (ok ((!(r12.1.1 == 6)))) (ok false)))) fun x16=>br x16 (cl (R.aE r_0 1) aE.g.o fun r17=>ok r17) (cl (R.bY l_2 1) bY.g.o fun r18=>cl (R.dz r_0 (r11.1.1,(r11.1.2.1,((),((),(r11.1.2.2.2.2.1,(r11.1.2.2.2.2.2.1,(r11.1.2.2.2.2.2.2.1,(r11.1.2.2.2.2.2.2.2.1,(r11.1.2.2.2.2.2.2.2.2.1,(r11.1.2.2.2.2.2.2.2.2.2.1,(r11.1.2.2.2.2.2.2.2.2.2.2.1,(r11.1.2.2.2.2.2.2.2.2.2.2.2.1,())))))))))))) r18) dz.g.o fun r19=>br (!(r19.1.2.2 == 0)) (ok ((r19.1.2,r19.2))) (cl (R.bO r11.1.2.2.2.2.2.2.2.2.1) bO.g.o fun r20=>br (s_1 == [108,111,97,100]) (cl (R.cB r19.2 (r11.1.1,(r11.1.2.1,((),((),(r11.1.2.2.2.2.1,(r11.1.2.2.2.2.2.1,(r11.1.2.2.2.2.2.2.1,(r11.1.2.2.2.2.2.2.2.1,(r11.1.2.2.2.2.2.2.2.2.1,(r11.1.2.2.2.2.2.2.2.2.2.1,(r11.1.2.2.2.2.2.2.2.2.2.2.1,(r11.1.2.2.2.2.2.2.2.2.2.2.2.1,())))))))))))) (w6 (r11.1.2.2.2.2.2.2.2.2.2.2.1+(w6 (r19.1.1*r20)))) r20 true true) cB.g.o fun r21=>br (!(r21.1.2 == 0)) (ok (((zV,r21.1.2),r21.2))) (cl (R.dH r11.1.2.2.2.2.2.2.2.2.1 r21.1.1) dH.g.o fun r22=>ok (((r22,0),r21.2)))) (br (s_1 == [119,97,105,116]) (cl (R.bY l_2 2) bY.g.o fun r23=>cl (R.bY l_2 3) bY.g.o fun r24=>cl (R.eI r19.2 (r11.1.1,(r11.1.2.1,((),((),(r11.1.2.2.2.2.1,(r11.1.2.2.2.2.2.1,(r11.1.2.2.2.2.2.2.1,(r11.1.2.2.2.2.2.2.2.1,(r11.1.2.2.2.2.2.2.2.2.1,(r11.1.2.2.2.2.2.2.2.2.2.1,(r11.1.2.2.2.2.2.2.2.2.2.2.1,(r11.1.2.2.2.2.2.2.2.2.2.2.2.1,())))))))))))) (r12.1.1,(r12.1.2.1,((),((),(r12.1.2.2.2.2.1,(r12.1.2.2.2.2.2.1,(r12.1.2.2.2.2.2.2.1,(r12.1.2.2.2.2.2.2.2.1,(r12.1.2.2.2.2.2.2.2.2.1,(r12.1.2.2.2.2.2.2.2.2.2.1,(r12.1.2.2.2.2.2.2.2.2.2.2.1,(r12.1.2.2.2.2.2.2.2.2.2.2.2.1,())))))))))))) r19.1.1 r23 r24) eI.g.o fun r25=>ok r25) (br (s_1 == [110,111,116,105,102,121]) (cl (R.bY l_2 2) bY.g.o fun r26=>cl (R.cq r19.2 (r11.1.1,(r11.1.2.1,((),((),(r11.1.2.2.2.2.1,(r11.1.2.2.2.2.2.1,(r11.1.2.2.2.2.2.2.1,(r11.1.2.2.2.2.2.2.2.1,(r11.1.2.2.2.2.2.2.2.2.1,(r11.1.2.2.2.2.2.2.2.2.2.1,(r11.1.2.2.2.2.2.2.2.2.2.2.1,(r11.1.2.2.2.2.2.2.2.2.2.2.2.1,())))))))))))) (r12.1.1,(r12.1.2.1,((),((),(r12.1.2.2.2.2.1,(r12.1.2.2.2.2.2.1,(r12.1.2.2.2.2.2.2.1,(r12.1.2.2.2.2.2.2.2.1,(r12.1.2.2.2.2.2.2.2.2.1,(r12.1.2.2.2.2.2.2.2.2.2.1,(r12.1.2.2.2.2.2.2.2.2.2.2.1,(r12.1.2.2.2.2.2.2.2.2.2.2.2.1,())))))))))))) r19.1.1 r26) cq.g.o fun r27=>ok r27) (cl (R.bY l_2 2) bY.g.o fun r28=>cl (R.gC r11.1.2.2.2.2.2.2.2.2.1 r28) gC.g.o fun r29=>br (!(r29.2.2 == 0)) (cl (R.aE r19.2 r29.2.2) aE.g.o fun r30=>ok r30) (br (s_1 == [115,116,111,114,101]) (cl (R.bo r19.2 (r11.1.1,(r11.1.2.1,((),((),(r11.1.2.2.2.2.1,(r11.1.2.2.2.2.2.1,(r11.1.2.2.2.2.2.2.1,(r11.1.2.2.2.2.2.2.2.1,(r11.1.2.2.2.2.2.2.2.2.1,(r11.1.2.2.2.2.2.2.2.2.2.1,(r11.1.2.2.2.2.2.2.2.2.2.2.1,(r11.1.2.2.2.2.2.2.2.2.2.2.2.1,())))))))))))) (w6 (r11.1.2.2.2.2.2.2.2.2.2.2.1+(w6 (r19.1.1*r20)))) r20 r29.2.1 true true) bo.g.o fun r31=>br (!(r31.1 == 0)) (ok (((zV,r31.1),r31.2))) (ok (((r29.1,0),r31.2)))) (br (s_1 == [99,111,109,112,97,114,101,69,120,99,104,97,110,103,101]) (cl (R.bY l_2 3) bY.g.o fun r32=>cl (R.gC r11.1.2.2.2.2.2.2.2.2.1 r32) gC.g.o fun r33=>br (!(r33.2.2 == 0)) (cl (R.aE r19.2 r33.2.2) aE.g.o fun r34=>ok r34) (cl (R.cw r19.2 (r11.1.1,(r11.1.2.1,((),((),(r11.1.2.2.2.2.1,(r11.1.2.2.2.2.2.1,(r11.1.2.2.2.2.2.2.1,(r11.1.2.2.2.2.2.2.2.1,(r11.1.2.2.2.2.2.2.2.2.1,(r11.1.2.2.2.2.2.2.2.2.2.1,(r11.1.2.2.2.2.2.2.2.2.2.2.1,(r11.1.2.2.2.2.2.2.2.2.2.2.2.1,())))))))))))) r19.1.1 (5,(0,(0,(0,(0,(false,(false,(r33.2.1,(r29.2.1,((0,0),(([]:List Int),0)))))))))))) cw.g.o fun r35=>ok r35)) (cl (R.gr s_1) gr.g.o fun r36=>cl (R.cw r19.2 (r11.1.1,(r11.1.2.1,((),((),(r11.1.2.2.2.2.1,(r11.1.2.2.2.2.2.1,(r11.1.2.2.2.2.2.2.1,(r11.1.2.2.2.2.2.2.2.1,(r11.1.2.2.2.2.2.2.2.2.1,(r11.1.2.2.2.2.2.2.2.2.2.1,(r11.1.2.2.2.2.2.2.2.2.2.2.1,(r11.1.2.2.2.2.2.2.2.2.2.2.2.1,())))))))))))) r19.1.1 (4,(0,(0,(0,(r36,(false,(false,(r29.2.1,(0,((0,0),(([]:List Int),0)))))))))))) cw.g.o fun r37=>ok r37))))))))))
end Go.Mach
end

