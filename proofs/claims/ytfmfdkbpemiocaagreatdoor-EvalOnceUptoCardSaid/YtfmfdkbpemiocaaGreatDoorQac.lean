/-
  Proved here: the law renlaw12.EvalOnce returns true for every input of the stated bulk and leaves its arguments as they were; no further condition.
  By an AI agent; no person has read it.
-/
import Derived.Test.YtfmfdkbpemiocaaGreatDoorQaa
import Derived.Test.YtfmfdkbpemiocaaGreatDoorQab
import Derived.KernelRfl
import Derived.ChangeArms
import Derived.DataReads
import Derived.ChangeSame
import Derived.OpenShut
import Derived.RowKit
import GoSem.ClaimGoes
set_option linter.all false
set_option linter.deprecated false
namespace Go.Mach
section
variable {α β:Type}(f:α->Res β)
noncomputable def lS.then(K:lS α):lS β:={ nrm:=λst=>(K.nrm st).bind f,ext:=λn st=>(K.ext n st).bind f,ret:=λst=>(K.ret st).bind f }
theorem Res.Gu{γ δ:Type}(x:γ ⊕ δ)(g:γ->Res α)(h:δ->Res α):(Res.sum x g h).bind f=Res.sum x (λy=>(g y).bind f) λy=>(h y).bind f:=by cases x<;>rfl
theorem yW(E:Env)(ρ:Operand->AV)(M:Mem)(o:Oper)(K:AV->Mem->Res α):fa E ρ M o (λv m=>(K v m).bind f)=(fa E ρ M o K).bind f:=by
 rw [pI,pI E ρ M o K,Res.bind_assoc]
theorem tf(ops:Array Oper)(dst:Option Tmp)(st:St)(K:St->Res α):qz ops dst st (λs=>(K s).bind f)=(qz ops dst st K).bind f:=by
 unfold qz;split
 ·unfold Dc;split
  ·split
   ·rw [Res.AQ]
   ·rfl
  ·rfl
 ·rfl
theorem oV(E:Env)(ops:Array Oper)(A:List Nat)(K:St->Res α):∀ (rest:List Oper) (i c:Nat) (l:Log) (st:St),mM E ops A rest i c l st (λs=>(K s).bind f)=(mM E ops A rest i c l st K).bind f
 |[],_,_,_,_=>rfl
 |o::rest,i,c,l,st=>by
  simp only [mM];split
  ·split
   ·split
    ·rw [<- yW];congr 1;funext v m;split
     ·rw [<- tf];congr 1;funext s;exact oV E ops A K rest _ _ _ _
     ·rfl
    ·rfl
   ·split
    ·rename_i j xs _;rw [j.cps,j.cps α,Res.bind_assoc];congr 1;funext p;rw [<- tf];congr 1;funext s;exact oV E ops A K rest _ _ _ _
    ·rw [<- yW];congr 1;funext v m;rw [<- tf];congr 1;funext s;exact oV E ops A K rest _ _ _ _
  ·exact oV E ops A K rest _ _ _ _
  ·rfl
theorem lS.D7(K:lS α)(k:qT)(st:St):(K.then f).at k st=(K.at k st).bind f:=by cases k<;>rfl
theorem DX(st:St)(K:lS α):∀ (l:lj) (x:l.den),lj.go st (K.then f) l x=(lj.go st K l x).bind f
 |[],_=>rfl
 |[a],x=>by simp only [lj.go];exact lS.D7 f K _ _
 |a::b::r,x=>by
  simp only [lj.go];rw [Res.Gu];congr 1
  ·funext y;exact lS.D7 f K _ _
  ·funext y;exact DX st K (b::r) y
theorem qE{run:(γ:Type)->Ann->St->lS γ->Res γ}{ann:Ann}(h:∀ st (K:lS α),run β ann st (K.then f)=(run α ann st K).bind f)(st:St)(K:lS α) :
  cutAt ann st (K.then f) run=(cutAt ann st K run).bind f:=by
 unfold cutAt;split
 ·rename_i ex _;rw [Res.bind_assoc];congr 1;funext x;exact DX f st K ex x
 ·exact h st K
theorem Ann.vq{a:Ann}(h:a.kU=true):a.left.kU=true:=by
 cases a with
 |two a b=>simp only [Ann.kU,Bool.and_eq_true] at h;exact h.1
 |_=>rfl
theorem Ann.Bk{a:Ann}(h:a.kU=true):a.right.kU=true:=by
 cases a with
 |two a b=>simp only [Ann.kU,Bool.and_eq_true] at h;exact h.2
 |_=>rfl
theorem Am{run:(γ:Type)->Ann->St->lS γ->Res γ}(h:∀ ann st (K:lS α),ann.kU=true->run β ann st (K.then f)=(run α ann st K).bind f)(K:lS α):∀ (ann:Ann) (st:St),ann.kU=true->sZ (run β) ann st (K.then f)=(sZ (run α) ann st K).bind f:=by
 intro ann
 induction ann with
 |unr a r _ ih =>
  intro st hn;simp only [Ann.kU,Bool.and_eq_true] at hn;simp only [sZ];rw [<- h _ _ _ hn.1];congr 1;simp only [lS.then];congr 1;funext s;exact ih s hn.2
 |_=>intro st _;rfl
theorem oS(E:Env):∀ (c:Code) (ann:Ann) (st:St) (K:lS α),ann.kU=true->exec E c β ann st (K.then f)=(exec E c α ann st K).bind f
 |.skip,ann,st,K,_=>rfl
 |.region _ ops draw,ann,st,K,_=>by
  unfold exec;refine qE f (λst K=>?_) st K;simp only;split
  ·exact oV f _ ops _ K.nrm _ _ _ _ _
  ·rfl
 |.seq x y,ann,st,K,h=>by
  unfold exec;refine qE f (ann:=ann) (run:=λγ ann st K=>exec E x γ ann.left st { nrm:=λst=>exec E y γ ann.right st K,ext:=K.ext,ret:=K.ret }) (λst K=>?_) st K;rw [<- oS E x ann.left st _ (Ann.vq h)];congr 1;simp only [lS.then];congr 1;funext s;exact oS E y ann.right s K (Ann.Bk h)
 |.cond c x y,ann,st,K,h=>by
  unfold exec;refine qE f (λst K=>?_) st K;split
  ·rw [Res.AQ,oS E x ann.left st K (Ann.vq h),oS E y ann.right st K (Ann.Bk h)]
  ·rfl
 |.block id x,ann,st,K,h=>by
  unfold exec;refine qE f (λst K=>?_) st K;rw [<- oS E x ann.left st _ (Ann.vq h)];congr 1;simp only [lS.then];congr 1;funext n s
  split<;>rfl
 |.loop x,ann,st,K,h=>by
  unfold exec;split
  ·split
   ·rw [Res.bind_assoc];congr 1;funext y;exact DX f st K _ y
   ·rfl
  ·exact Am f (run:=λγ ann st K=>exec E x γ ann st K) (λann st K hn=>oS E x ann st K hn) K _ st h
  ·rfl
 |.scope x,ann,st,K,h=>by
  unfold exec;exact qE f (ann:=ann) (run:=λγ ann st K=>exec E x γ ann.left st K) (λst K=>oS E x ann.left st K (Ann.vq h)) st K
 |.label _,ann,st,K,_=>rfl
 |.exit id,ann,st,K,_=>rfl
 |.ret,ann,st,K,_=>rfl
 |.rangeFunc _ _ _ _,ann,st,K,_=>by unfold exec;rfl
 |.refuse _,ann,st,K,_=>by unfold exec;rfl
 |.goto _,ann,st,K,_=>by unfold exec;rfl
theorem rH(P:Program)(st:St):∀ (rs:List ResultVar) (K:List AV->Res α),ox P st rs (λvs=>(K vs).bind f)=(ox P st rs K).bind f
 |[],K=>rfl
 |r::rs,K=>by
  simp only [ox,resAV];split
  ·exact rH P st rs _
  ·have hl:∀ {m:Mem}{n:Nat}{a:AV}(k:List C->Res α),rN m n a (λcs=>(k cs).bind f)=(rN m n a k).bind f:=by
    intro m n a k;unfold rN;split
    ·split
     ·split<;>rfl
     ·split<;>rfl
     ·rfl
    ·split<;>rfl
    ·split
     ·rw [Res.qH];congr 1;funext x
      split<;>rfl
     ·rw [Res.kI];congr 1
      split<;>rfl
     ·rfl
    ·rfl
   rw [<- hl];congr 1;funext cs;exact rH P st rs _
end
end Go.Mach

namespace Go.Mach
def xl:List AV->AV
 |[v]=>v
 |vs=>.tup (vs.map λv=>match v with
  |.c x=>(false,[x])
  |.agg cs=>(true,cs)
  |.tup _=>(false,[.undef]))
noncomputable def uj(E:Env)(fn:Func)(ann:Ann)(β:Type)(xs:List AV)(m:Mem)(K:AV->Mem->Res β):Res β :=
 match fn.body with
 |some code=>exec E code β ann ⟨xs++List.replicate (fn.ntmps-xs.length) (.c .undef),⟨m.roots,0,m.cur⟩,[]⟩
   {nrm:=λst=>ox E.P st fn.results.toList λvs=>K (xl vs) ⟨st.mem.roots,m.dR ||| st.mem.dR,st.mem.cur⟩
    ext:=λ_ _=>.stuck
    ret:=λst=>ox E.P st fn.results.toList λvs=>K (xl vs) ⟨st.mem.roots,m.dR ||| st.mem.dR,st.mem.cur⟩ }
 |none=>.stuck
theorem DC{E:Env}{fn:Func}{ann:Ann}(h:ann.kU=true)(β:Type)(xs:List AV)(m:Mem)(K:AV->Mem->Res β):uj E fn ann β xs m K=(uj E fn ann (AV×Mem) xs m λv m=>.ok (v,m)).bind λp=>K p.1 p.2:=by
 unfold uj;split
 ·refine Eq.trans ?_ (oS (λp:AV×Mem=>K p.1 p.2) E _ ann _ _ h);congr 1;simp only [lS.then];congr 1
  ·funext s;exact rH (λp:AV×Mem=>K p.1 p.2) E.P s _ λvs=>Res.ok (xl vs,⟨s.mem.roots,m.dR ||| s.mem.dR,s.mem.cur⟩)
  ·funext s;exact rH (λp:AV×Mem=>K p.1 p.2) E.P s _ λvs=>Res.ok (xl vs,⟨s.mem.roots,m.dR ||| s.mem.dR,s.mem.cur⟩)
 ·rfl
noncomputable def An(f:FuncId)(E:Env)(fn:Func)(ann:Ann)(n:Nat:=0)(h:ann.kU=true:=by rfl):Inl:=⟨f,uj E fn ann,n,DC h⟩
theorem Ht{w:World}{Z:Nat->Prop}{μ:bS}{xs:List AV}{jX:List Value}(h:ARs w Z μ xs jX){v:Value}(hv:(jX.length=1/\jX=[v])\/(jX.length≠1/\v=.tuple jX.toArray)):AR w Z μ (xl xs) v:=by
 have hl:=h.len;rcases hv with ⟨h1,rfl⟩|⟨h1,rfl⟩
 ·match xs,h with
  |[x],h =>
   obtain ⟨v',vs',he,h2,h3⟩:=h;cases he;exact h2
  |[],h=>simp at hl
  |_::_::_,h=>simp at hl
 ·have hp:xl xs=.tup (xs.map λv=>match v with
   |.c x=>(false,[x])
   |.agg cs=>(true,cs)
   |.tup _=>(false,[.undef])):=by
   match xs with
   |[]=>rfl
   |[x]=>simp at hl;exact absurd hl h1
   |_::_::_=>rfl
  rw [hp];refine ⟨jX,rfl,by simp [hl],λk hk hk'=>?_⟩;simp only [List.getElem_map]
  have hk2:k < xs.length:=by simpa using hk
  obtain ⟨u,hu,har⟩:=ARs.at_ h k xs[k] (List.getElem?_eq_getElem hk2)
  have hu:jX[k]=u:=by rw [List.getElem?_eq_getElem hk'] at hu;exact Option.some.inj hu
  rw [hu];generalize xs[k]=x at har
  cases x with
  |c c=>exact har
  |agg cs=>exact har
  |tup l=>exact trivial
theorem y6{P:Program}{w:World}{fn:Func}{tmps:Array Value}{vs:List Value}(h:(fn.results.toList.mapM (td tmps)).run P w=.ok vs w) :
  ∃ v,(results fn tmps).run P w=.ok v w/\((vs.length=1/\vs=[v])\/(vs.length≠1/\v=.tuple vs.toArray)):=by
 rw [w9,Array.mapM_eq_mapM_toList];simp only [Sem.run_bind,Sem.run_map,h,Result.andThen_ok,Sem.run_pure];refine ⟨_,rfl,?_⟩;by_cases h1:vs.length=1
 ·match vs,h1 with
  |[v],_=>exact .inl ⟨rfl,by simp⟩
 ·exact .inr ⟨h1,by simp [h1]⟩
theorem sX{E:Env}{G:rV}{f:FuncId}{fn:Func}{ann:Ann}(hm:E.P.follows .mixedOrders=true)(hE:px E G)(hfn:E.P.funcs[f]?=some fn)(hbody:fn.body.isSome=true)(hname:(fn.name == "runtime.NumGoroutine")=false)
  (hres:fn.results.toList.all (yY E.P)=true){n:Nat}{hnr:ann.kU=true}:Dq E.P G (An f E fn ann n hnr):=by
 refine ⟨⟨fn,hfn,hbody,hname⟩,?_⟩;rintro B β Ψ xs args m w Z μ K rfl hM hx h;have h:(uj E fn ann β xs m K).sat Ψ:=h;unfold uj at h;split at h
 case h_2=>exact h.elim
 rename_i code hcode
 let B2:gT:=⟨w,λb=>¬ Z b/\(B.w0.heap.size<=b\/B.A b),Z,B.Y,B.g,hM.zC.1,λb hb=>⟨hM.zC.2 b hb,(hM.frz b (hM.zC.2 b hb)).1,λh=>h.1 (hM.zC.2 b hb)⟩⟩
 let m0:Mem:=⟨m.roots,0,m.cur⟩
 have hM2:bV B2 m0 w Z μ:=⟨hM.rt,hM.dj,λr x ℓ b h1 h2 h3 h4=>by
   obtain ⟨g1,g2,g3⟩:=hM.own r x ℓ b h1 h2 h3 h4
   exact ⟨g1,g2,.inr ⟨g1,g3⟩⟩,λb hb=>⟨(hM.frz b hb).1,.inl hb⟩,λb hb=>hb,Nat.le_refl _,λb _ _=>rfl,hM.far,λb hb=>⟨Nat.lt_of_lt_of_le (hM.ny b hb).1 hM.size,λhA=>by
   obtain ⟨g1,g2⟩:=hM.ny b hb;rcases hA.2 with h2|h2
   ·omega
   ·exact g2 h2⟩,Io.refl _⟩
 refine calls_of_wp hfn hcode ?_
 let st:St:=⟨xs++List.replicate (fn.ntmps-xs.length) (.c .undef),m0,[]⟩
 have hlen:=hx.len
 have hR:Rel B2 st { tmps:=args.toArray++Array.replicate (fn.ntmps-args.toArray.size) undef,defers:=[] } w Z μ:=by
  refine ⟨hM2,λi z hz=>?_,?_,rfl⟩
  ·have hz:(xs++List.replicate (fn.ntmps-xs.length) (AV.c .undef))[i]?=some z:=hz;rcases Nat.lt_or_ge i xs.length with h1|h1
   ·rw [List.getElem?_append_left h1] at hz;obtain ⟨v,hv,har⟩:=ARs.at_ hx i z hz
    have:(args.toArray++Array.replicate (fn.ntmps-args.toArray.size) undef).getD i undef=v:=by
     rw [Array.getD_eq_getD_getElem?,Array.getElem?_append_left (by simp;omega)];simp [hv]
    show AR w Z μ z ((args.toArray++Array.replicate (fn.ntmps-args.toArray.size) undef).getD i undef);rw [this];exact har
   ·rw [List.getElem?_append_right h1,List.getElem?_replicate] at hz;split at hz
    ·cases hz;exact AR.undef _
    ·cases hz
  ·show (xs++List.replicate (fn.ntmps-xs.length) (AV.c .undef)).length=(args.toArray++Array.replicate (fn.ntmps-args.toArray.size) undef).size;simp [hlen]
 refine kt (B:=B2) hm hE code _ ann st _ Ψ _ st _ _ w w Z Z μ μ h hR hR (Ev.refl _) (dW.refl _) ?_;intro e s a' w' Z' μ' hs hR' hev hext'
 have hfin:(ox E.P s fn.results.toList λvs=>K (xl vs) ⟨s.mem.roots,m.dR ||| s.mem.dR,s.mem.cur⟩).sat Ψ->a'.defers=[]/\∃ v,(results fn a'.tmps).run E.P w'=.ok v w'/\(∃ vr v' m',∃ Z':Nat->Prop,∃ μ',Ending.returned v=.returned vr/\(K v' m').sat Ψ/\bV B m' w' Z' μ'/\AR w' Z' μ' v' vr/\bX Z w w'/\(∀ b,Z b->Z' b)/\dW μ μ'/\m.roots.length<=m'.roots.length /\
   (∀ r,r < m.roots.length->m'.dR.testBit r=false->m'.roots[r]?=m.roots[r]?)/\(∀ r,m.dR.testBit r=true->m'.dR.testBit r=true)):=by
  intro hs;obtain ⟨ys,jX,hrun,hys,hs⟩:=oz hR' fn.results.toList hres hs;obtain ⟨v,hv,hp⟩:=y6 hrun;have hN:=hR'.mem;refine ⟨hR'.df,v,hv,v,_,_,Z',μ',rfl,hs,?_,Ht hys hp,?_,hN.tB,hext',hev.rl,λr hr hb=>?_,λr hr=>?_⟩
  ·refine bV.congr (m:=s.mem) ?_ rfl;refine ⟨hN.rt,hN.dj,λr x ℓ b h1 h2 h3 h4=>?_,λb hb=>?_,λb hb=>hN.tB b (hM.tB b hb),Nat.le_trans hM.size hN.size,λb hb hA=>?_,hN.far,hM.ny,hM.io.trans hN.io⟩
   ·obtain ⟨g1,g2,g3⟩:=hN.own r x ℓ b h1 h2 h3 h4;refine ⟨g1,g2,?_⟩;rcases g3 with g3|g3
    ·exact .inl (Nat.le_trans hM.size g3)
    ·exact g3.2
   ·obtain ⟨g1,g2⟩:=hN.frz b hb;refine ⟨g1,?_⟩;rcases g2 with g2|g2|g2
    ·exact (hM.frz b g2).2
    ·exact .inr (.inl (Nat.le_trans hM.size g2))
    ·exact .inr g2.2
   ·refine (hN.rb b (Nat.lt_of_lt_of_le hb hM.size) λh2=>?_).trans (hM.rb b hb hA);rcases h2.2 with h3|h3
    ·omega
    ·exact hA h3
  ·exact λb hb=>hN.rb b (hM.frz b hb).1 λh2=>h2.1 hb
  ·simp only [Nat.testBit_or,Bool.or_eq_false_iff] at hb;exact hev.rt r hr hb.2
  ·simp only [Nat.testBit_or,hr,Bool.true_or]
 cases e with
 |nrm=>exact hfin hs
 |ret=>exact hfin hs
 |ext n=>exact hs.elim
end Go.Mach

namespace Go.Mach
structure Sg where
 ps:List Par
 rs:List VSh
abbrev Sg.I(g:Sg):Type:=kO (g.ps.map Par.v)
abbrev Sg.O(g:Sg):Type:=outs (kO g.rs) (boxes g.ps)
@[reducible] def Sg.i(g:Sg)(x:g.I):Bool:=oks (g.ps.map Par.v) x
def Sg.o(g:Sg)(y:g.O):Bool:=re (oks g.rs) (boxes g.ps) y
@[reducible] def Sg.sp(g:Sg)(f:FuncId)(run:g.I->Res g.O):Spec:=⟨f,g.ps,g.rs,run⟩
abbrev Ann.r(a:Ann):Ann:=.two .none a
abbrev Ann.l(a:Ann):Ann:=.two a .none
abbrev rg(a n:Nat):List Nat:=List.range' a n
abbrev Sh.i:Sh:=.frz (.int .i64)
abbrev Sh.h:Sh:=.frz (.int .u16)
abbrev Sh.y:Sh:=.frz (.int .u8)
abbrev Sh.w:Sh:=.frz (.int .u32)
abbrev Sh.b:Sh:=.frz .bool
abbrev Sh.s:Sh:=.frz .str
abbrev vi:VSh:=(false,.i)
abbrev vb:VSh:=(false,.b)
abbrev vs:VSh:=(false,.s)
abbrev Par.i:Par:=.val false .i
abbrev Par.b:Par:=.val false .b
abbrev Par.s:Par:=.val false .s
def fnOk(P:Program)(ps:List Par)(rs:List VSh)(fn:Func):Bool :=
 fn.body.isSome && (!(fn.name == "runtime.NumGoroutine") && ((boxes ps).all Sh.nF && ((rs.all λs=>s.2.oW) && ((boxes ps).all Sh.oW && fn.results.toList.all (yY P)))))
def Eqn(E:Env)(sp:Spec)(ann:Ann):Prop:=∃ fn,E.P.funcs[sp.f]?=some fn/\fnOk E.P sp.ps sp.rs fn=true/\∀ x,vn E fn sp.ps sp.rs ann x=sp.run x
theorem eqn{E:Env}{f:FuncId}{ps:List Par}{rs:List VSh}{run:kO (ps.map Par.v)->Res (outs (kO rs) (boxes ps))}{ann:Ann}(fn:Func)(h1:E.P.funcs[f]?=some fn:=by kernel_rfl)(h2:fnOk E.P ps rs fn=true:=by kernel_rfl)(h3:∀ x,vn E fn ps rs ann x=run x:=by intro x;kernel_rfl):Eqn E ⟨f,ps,rs,run⟩ ann:=⟨fn,h1,h2,h3⟩
theorem Eqn.BE{E:Env}{G:rV}{sp:Spec}{ann:Ann}(h:Eqn E sp ann)(hm:E.P.follows .mixedOrders=true)(hE:px E G):j9 E.P G sp:=by
 obtain ⟨fn,h1,h2,h3⟩:=h;simp only [fnOk,Bool.and_eq_true,Bool.not_eq_true'] at h2;exact A7 hm hE h1 h2.1 h2.2.1 h2.2.2.1 h2.2.2.2.1 h2.2.2.2.2.1 h2.2.2.2.2.2 h3
theorem Eqn.stuck{E:Env}{G:rV}{sp:Spec}{ann:Ann}{run:kO (sp.ps.map Par.v)->Res (outs (kO sp.rs) (boxes sp.ps))}(h:Eqn E sp ann)(h0:∀ x,run x=.stuck):j9 E.P G ⟨sp.f,sp.ps,sp.rs,run⟩:=by
 obtain ⟨fn,h1,h2,h3⟩:=h;simp only [fnOk,Bool.and_eq_true,Bool.not_eq_true'] at h2;exact wy h1 h2.1 h2.2.1 h2.2.2.1 h0
end Go.Mach

namespace Go.Mach
def w6(x:Int):Int:=IntKind.wrap .i64 x
end Go.Mach

namespace Go.Mach
def Ef(T:TypeId):Code:=.region 0 #[{ dst:=some 2,op:=.assign (.const (.slice none 0 0)),type:=T,pos := "slices.go:355",after:=#[],guard:=none }] false
def Fs(T B:TypeId):Code:=.region 1 #[{ dst:=some 3,op:=.move (.tmp 0),type:=T,pos := "slices.go:357",after:=#[],guard:=none },
 {dst:=some 4,op:=.binOp .eql T (.tmp 3) (.const (.slice none 0 0)) T,type:=B,pos := "slices.go:357",after:=#[{ on:=0,ground:=.data }],guard:=none }] false
def G4(T:TypeId):Code:=(Code.region 2 #[{ dst:=some 2,op:=.assign (.const (.slice none 0 0)),type:=T,pos := "slices.go:358",after:=#[],guard:=none }] false).seq .ret
def qV(T:TypeId):Code:=(Code.region 3 #[{ dst:=some 5,op:=.buildSlice T 0 #[],type:=T,pos := "slices.go:362",after:=#[],guard:=none },
 {dst:=some 6,op:=.move (.tmp 0),type:=T,pos := "slices.go:362",after:=#[],guard:=none },
 {dst:=some 7,op:=.call { callee:=.builtin .append,args:=#[.tmp 5,.tmp 6],argTypes:=#[T,T] },type:=T,pos := "slices.go:362",after:=#[{ on:=0,ground:=.data },{ on:=1,ground:=.data }],guard:=none },
 {dst:=some 2,op:=.assign (.tmp 7),type:=T,pos := "slices.go:362",after:=#[{ on:=2,ground:=.data },{ on:=2,ground:=.chain },{ on:=0,ground:=.phase },{ on:=1,ground:=.phase },{ on:=2,ground:=.phase }],guard:=none }] false).seq .ret
def y5(T B:TypeId):Code:=(Ef T).seq (((Fs T B).seq (.cond (.tmp 4) (G4 T) .skip)).seq (qV T))
theorem uR{P:Program}{ops:Array Oper}{Q:Exit->Act->World->Prop}{i:Nat}{rest:List Nat}{o:Oper}{a:Act}{w:World}{v:Value}(ho:ops[i]?=some o)(hg:o.guard=none)(h:(execOp a.eval o).run P w=.ok (.value v) w)
  (hn:wpOps P ops Q rest (a.put o.dst v) w):wpOps P ops Q (i::rest) a w:=by
 simp only [wpOps,ho]
 rw [show Region.wanted o (yielded ops a.tmps)=true from by unfold Region.wanted;rw [hg]]
 simp only [if_true];exact .inl (pb h hn)
theorem Cz{P:Program}{T B:TypeId}{w:World}{v0:Value}{b:Bool}{Q:Exit->Act->World->Prop}{a:Act}(h0:a.eval (.tmp 0)=v0)(hsz:a.tmps.size=8)
  (hb:(binOp .eql T v0 (.slice none 0 0)).run P w=.ok (.bool b) w) (hgd:(eqGuard .eql T (.tmp 3) (.const (.slice none 0 0)) v0 (.slice none 0 0)).run P w=.ok () w)
  (ht:b=true->Q .ret ((((a.put (some 2) (.slice none 0 0)).put (some 3) v0).put (some 4) (.bool b)).put (some 2) (.slice none 0 0)) w)
  (hf:b=false->(qV T).wp P Q (((a.put (some 2) (.slice none 0 0)).put (some 3) v0).put (some 4) (.bool b)) w):(y5 T B).wp P Q a w:=by
 have e2:∀ (a:Act) (d:Nat) (v:Value) (t:Nat),t < a.tmps.size->(a.put (some d) v).eval (.tmp t)=if d=t then v else a.eval (.tmp t):=by
  intro a d v t ht;simp only [Act.eval,Act.put];by_cases hd:d=t
  ·subst hd;simp [ht]
  ·simp [hd,Array.getElem?_setIfInBounds_ne hd]
 have s2:∀ (a:Act) (d:Nat) (v:Value),(a.put (some d) v).tmps.size=a.tmps.size:=by intro a d v;simp [Act.put]
 refine wp_seq (wp_region (uR (o:=_) (v:=.slice none 0 0) rfl rfl (by rfl) ?_));show Exit.then _ Q .normal _ w;refine wp_seq (wp_seq (wp_region (uR (o:=_) (v:=v0) rfl rfl ?_ ?_)))
 ·have hv0:(a.put (some 2) (.slice none 0 0)).eval (.tmp 0)=v0:=by rw [e2 _ _ _ _ (by omega)];simpa using h0
  exact congrArg (λv=>Result.ok (Next.value v) w) hv0
 have hv3:((a.put (some 2) (.slice none 0 0)).put (some 3) v0).eval (.tmp 3)=v0:=by rw [e2 _ _ _ _ (by rw [s2];omega)];simp
 have hrun:=pD (E:={ P:=P,specs:=[],ety:=λ_=>none }) (w:=w) (a:=(a.put (some 2) (.slice none 0 0)).put (some 3) v0) (o:={ dst:=some 4,op:=.binOp .eql T (.tmp 3) (.const (.slice none 0 0)) T,type:=B,pos := "slices.go:357",after:=#[{ on:=0,ground:=.data }],guard:=none }) (v:=.bool b) rfl (by rw [hv3];exact hgd) (by rw [hv3];exact hb)
 refine uR (o:=_) (v:=.bool b) rfl rfl hrun ?_;show Exit.then _ _ .normal _ w
 have h4:(((a.put (some 2) (.slice none 0 0)).put (some 3) v0).put (some 4) (.bool b)).eval (.tmp 4)=.bool b:=by
  rw [e2 _ _ _ _ (by rw [s2,s2];omega)];simp
 cases b with
 |true=>exact wp_cond_true h4 (wp_seq (wp_region (uR (o:=_) (v:=.slice none 0 0) rfl rfl (by rfl) (wp_ret (ht rfl)))))
 |false=>exact wp_cond_false h4 (wp_skip (hf rfl))
end Go.Mach

namespace Go.Mach
theorem uw{P:Program}{sp:Spec}{fn:Func}{w w':World}{Z Z' Y S:Nat->Prop}{args:List Value}{vs:List AV}{s:St}{a':Act}{μ1 μ':bS}{G:rV}{hg:G.holds w/\∀ b,b < G.n->Z b/\b < w.heap.size/\¬ S b}{Ψ:outs (kO sp.rs) (boxes sp.ps)->Prop}
  (hnb:(sp.rs.all λs=>s.2.oW)=true) (hnb2:(boxes sp.ps).all Sh.oW=true) (hres:fn.results.toList.all (yY P)=true)
  (hZ:∀ b,Z b->b < w.heap.size) (hS:∀ b,S b->b < w.heap.size/\¬ Z b) (e3:ARs w Z μ1 vs args) (hobjc:Ej sp.ps vs) (hext':dW μ1 μ') (hR':Rel ⟨w,S,Z,Y,G,hg⟩ s a' w' Z' μ') (hs:(fin P fn sp.ps sp.rs vs s).sat Ψ) :
  a'.defers=[]/\∃ v,(results fn a'.tmps).run P w'=.ok v w'/\(∃ y v' jX,∃ Z' S1 S2:Nat->Prop,Ending.returned v=.returned v'/\Ψ y/\zN sp.rs v' jX /\
   lY w' Z' (λ_=>False) sp.rs jX (ld (boxes sp.ps) y) S1/\mX w' Z' (λ_=>False) sp.ps args y S2/\(∀ d,S1 d->S2 d->False) /\
   (∀ b,S1 b\/S2 b->b < w'.heap.size/\¬ Z' b/\(S b\/w.heap.size<=b))/\(∀ b,Z b->Z' b)/\(∀ b,Z' b->b < w'.heap.size/\(Z b\/S b\/w.heap.size<=b)) /\
   w.heap.size<=w'.heap.size/\(∀ b,b < w.heap.size->¬ S b->w'.heap[b]?=w.heap[b]?)/\Io w w'):=by
 unfold fin at hs;obtain ⟨xs,jX,hrun,hxs,hs⟩:=oz hR' fn.results.toList hres hs;split at hs
 case h_2=>exact hs.elim
 rename_i y m1 hgt;split at hs
 case h_2=>exact hs.elim
 rename_i z ho;obtain ⟨Z1,F1,S1,a1,a2,a3,a4,a5,a6,a7⟩:=rM hR'.mem (cq.none ⟨w,S,Z,Y,G,hg⟩ s.mem w' Z' μ') hxs hgt;have hsame:bX Z w w':=λb hb=>a1.rb b (hZ b hb) λhS'=>(hS b hS').2 hb;obtain ⟨m2,Z2,F2,S2,b1,b2,b3,b4,b5,b6,b7⟩:=oN (ps:=sp.ps) a1 a2 (e3.mono hsame a1.tB hext') hobjc ho;obtain ⟨v,hv,hret⟩:=xJ (rs:=sp.rs) hrun a7.len;refine ⟨hR'.df,v,hv,z,v,jX,Z2,S1,S2,rfl,hs,hret,?_,b6.noY hnb2,λd h1 h2=>(b5 d h2).2 (a5 d h1).1,λb hb=>?_,b1.tB,λb hb=>?_,b1.size,b1.rb,b1.io⟩
 ·rw [b7];exact (a7.up b3).noY hnb
 ·have hF:F2 b:=by
   rcases hb with hb|hb
   ·exact b4 b (a5 b hb).1
   ·exact (b5 b hb).1
  obtain ⟨c1,c2,c3⟩:=b2.ok b hF;exact ⟨c2,c1,c3.symm⟩
 ·obtain ⟨c1,c2⟩:=b1.frz b hb;exact ⟨c1,c2.imp id Or.symm⟩
@[reducible] def tQ(e:Ty):List Par:=[.val false (.bor (.own (.frz e)))]
@[reducible] def wE(e:Ty):List VSh:=[(false,.own (.frz e))]
def uX(f:FuncId)(e:Ty)(g:List e.den->Bool):Spec:=⟨f,tQ e,wE e,λx=>Res.aZ (g x) (Res.ok x)⟩
def AH(n:Nat):List AV:=List.replicate n (.c .undef)
theorem lr{P:Program}{G:rV}{f:FuncId}{fn:Func}{e:Ty}{T B el:TypeId}{g:List e.den->Bool}{ety:TypeId->Option Sh}(hm:P.follows .mixedOrders=true)(hfn:P.funcs[f]?=some fn)(hcode:fn.body=some (y5 T B))
  (hname:(fn.name == "runtime.NumGoroutine")=false) (hresE:fn.results=#[.tmp 2]) (hnt:fn.ntmps=8) (hT:P.underlying T=some (.slice el))
  (hcopy:∀ xs:List e.den,exec { P:=P,specs:=[],ety:=ety } (qV T) (List e.den) .none ⟨.c (.ref 0 .full)::AH 7,⟨[.bor (.frz e) xs],0,1⟩,[]⟩ { nrm:=fin P fn (tQ e) (wE e) [.c (.ref 0 .full)],ext:=λ_ _=>.stuck,ret:=fin P fn (tQ e) (wE e) [.c (.ref 0 .full)] }=Res.aZ (g xs) (.ok xs)) :
  j9 P G (uX f e g):=by
 refine ⟨⟨fn,hfn,by rw [hcode];rfl,hname⟩,rfl,λw Z Y S args x Ψ hsat hG hZ hY hS hV=>?_⟩
 have hres:fn.results.toList.all (yY P)=true:=by rw [hresE];rfl
 have hV':=hV;obtain ⟨v0,rfl,us,hus,hlen1,hbr⟩:=hV;have hus:us=[v0]:=hus;subst hus;have hbr:BR w Z (λb=>Y b\/Z b) (.own (.frz e)) [v0] x:=hbr;simp only [BR] at hbr;obtain ⟨ad,cap,h1,h2,h3,h4⟩:=hbr;simp only [List.cons.injEq,and_true] at h1
 let Bs:gT:=⟨w,S,Z,Y,G,hG.1,λb hb=>⟨hG.2 b hb,hZ b (hG.2 b hb),λh=>(hS b h).2 (hG.2 b hb)⟩⟩
 have hE:∀ sp∈({ P:=P,specs:=[],ety:=ety }:Env).specs,j9 ({ P:=P,specs:=[],ety:=ety }:Env).P G sp:=λsp h=>by cases h
 let m0:Mem:=⟨[cu.dead],0,0⟩
 have hdead:∀ (r:Nat) (y:cu),m0.roots[r]?=some y->y=cu.dead:=λr y hy=>by
  have hy:[cu.dead][r]?=some y:=hy
  cases r with
  |zero=>simpa using hy.symm
  |succ r=>simp at hy
 have hM0:bV Bs m0 w Z (λ_=>none) :=
  ⟨(λr y hy hd=>absurd (hdead r y hy) hd),(λr s y z ℓ ℓ' _ hy _ _ _ hl=>by cases hl),(λr y ℓ b _ _ hl=>by cases hl),λb hb=>⟨hZ b hb,.inl hb⟩,λb hb=>hb,Nat.le_refl _,λb _ _=>rfl,λ_ _=>rfl,λb hb=>hY b hb,Io.refl _⟩
 have hL0:cq Bs m0 w Z (λ_=>none) S:=by
  refine ⟨λb hb=>⟨(hS b hb).2,(hS b hb).1,.inr hb⟩,λb r hb=>?_⟩;rintro ⟨y,ℓ,_,_,hl,_⟩;cases hl
 have hF0:mg m0 (λ_=>none) (nG ((tQ e).map Par.v)):=λk hk=>⟨rfl,by
  have hk:k < 1:=hk
  have:k=0:=by omega
  subst this;rfl⟩
 obtain ⟨μ1,e1,_,e3,_⟩:=si hM0 hL0 hF0 hV' (λ_ h=>h);have e1:bV Bs ⟨[.bor (.frz e) x],0,1⟩ w Z μ1:=e1;have e3:ARs w Z μ1 [.c (.ref 0 .full)] [v0]:=e3
 let st:St:=⟨.c (.ref 0 .full)::AH 7,⟨[.bor (.frz e) x],0,1⟩,[]⟩
 have hsz:([v0].toArray++Array.replicate (fn.ntmps-[v0].toArray.size) undef).size=8:=by rw [hnt];rfl
 have hev0:(Act.eval { tmps:=[v0].toArray++Array.replicate (fn.ntmps-[v0].toArray.size) undef,defers:=[] } (.tmp 0))=v0:=by rw [hnt];rfl
 have hR:Rel Bs st { tmps:=[v0].toArray++Array.replicate (fn.ntmps-[v0].toArray.size) undef,defers:=[] } w Z μ1:=by
  refine ⟨e1,λi z hz=>?_,?_,rfl⟩
  ·have hz:(AV.c (.ref 0 .full)::AH 7)[i]?=some z:=hz
   cases i with
   |zero =>
    simp only [List.getElem?_cons_zero,Option.some.injEq] at hz;subst hz;obtain ⟨v',hv',har⟩:=ARs.at_ e3 0 _ rfl
    have:v'=v0:=by simpa using hv'.symm
    subst this;rw [hnt];exact har
   |succ i =>
    simp only [List.getElem?_cons_succ,AH,List.getElem?_replicate] at hz;split at hz
    ·cases hz;exact AR.undef _
    ·cases hz
  ·rw [hsz];rfl
 have hob:Ej (tQ e) [.c (.ref 0 .full)]:=trivial;refine calls_of_wp hfn hcode ?_
 have hb:(binOp .eql T v0 (.slice none 0 0)).run P w=.ok (.bool ad.isNone) w:=by
  rw [h1]
  cases ad with
  |none=>exact (nR (w:=w) (P:=P) (t:=T) (v:=.slice none _ cap) (u:=.slice none 0 0) (b:=true) (by rintro op (rfl|rfl)<;>rfl) ((λd=>by simp [Op.equalIn,run_underlying hT]:∀ d,(Op.equalIn (d+1) T _ _).run P w=.ok _ w) 9999)).1
  |some p=>exact (nR (w:=w) (P:=P) (t:=T) (v:=.slice (some p) _ cap) (u:=.slice none 0 0) (b:=false) (by rintro op (rfl|rfl)<;>rfl) ((λd=>by simp [Op.equalIn,run_underlying hT]:∀ d,(Op.equalIn (d+1) T _ _).run P w=.ok _ w) 9999)).1
 refine Cz (b:=ad.isNone) hev0 hsz hb (by rw [h1];rfl) (λhn=>?_) (λhn=>?_)
 ·have hx:x=[]:=by
   rcases h4 with h4|⟨b,o,h4,_⟩
   ·exact h4
   ·rw [h4] at hn;cases hn
  subst hx
  have hΨ:Ψ ([]:List e.den):=by
   have:(Res.aZ (g []) (Res.ok ([]:List e.den))).sat Ψ:=hsat;exact (jB this).2
  have hR4:=(((hR.xE (some 2) (AR.undef (.slice none 0 0))).xE (some 3) (AR.undef v0)).xE (some 4) (AR.undef (.bool ad.isNone))).xE (some 2) (x:=.c .na) (v:=.slice none 0 0) rfl;refine uw (sp:=uX f e g) (Ψ:=Ψ) (vs:=[.c (.ref 0 .full)]) (args:=[v0]) rfl rfl hres hZ hS e3 hob (dW.refl _) hR4 ?_;unfold fin;rw [hresE];exact hΨ
 ·have hR3:=((hR.xE (some 2) (AR.undef (.slice none 0 0))).xE (some 3) (AR.undef v0)).xE (some 4) (AR.undef (.bool ad.isNone));have hR3:Rel Bs st _ w Z μ1:=hR3
  let K:lS (List e.den):={ nrm:=fin P fn (tQ e) (wE e) [.c (.ref 0 .full)],ext:=λ_ _=>.stuck,ret:=fin P fn (tQ e) (wE e) [.c (.ref 0 .full)] }
  have hx0:(exec { P:=P,specs:=[],ety:=ety } (qV T) (List e.den) .none st K).sat (show List e.den->Prop from Ψ):=(congrArg (λr:Res (List e.den)=>r.sat (show List e.den->Prop from Ψ)) (hcopy x)).mpr hsat
  refine kt (B:=Bs) (E:={ P:=P,specs:=[],ety:=ety }) hm (.sE hE rfl) (qV T) (List e.den) .none st K Ψ _ st _ _ w w Z Z μ1 μ1 hx0 hR3 hR3 (Ev.refl _) (dW.refl _) ?_;intro k s a' w' Z' μ' hs hR' _ hext'
  cases k with
  |nrm=>exact uw (sp:=uX f e g) (Ψ:=Ψ) (vs:=[.c (.ref 0 .full)]) (args:=[v0]) rfl rfl hres hZ hS e3 hob hext' hR' hs
  |ret=>exact uw (sp:=uX f e g) (Ψ:=Ψ) (vs:=[.c (.ref 0 .full)]) (args:=[v0]) rfl rfl hres hZ hS e3 hob hext' hR' hs
  |ext n=>exact hs.elim
end Go.Mach

namespace Go.Mach
def nI(ck:TypeId->Ty->Bool)(cells:TypeId->Nat):List (Nat×TypeId)->Nat->Ty->Bool
 |[],_,.unit=>true
 |[p],o,τ=>p.1 == o && (cells p.2 == τ.cells && ck p.2 τ)
 |p::q::r,o,.pair a b=>p.1 == o && (cells p.2 == a.cells && (ck p.2 a && nI ck cells (q::r) (o+a.cells) b))
 |_,_,_=>false
def qj(P:Program):Nat->TypeId->Ty->Bool
 |0,_,_=>false
 |n+1,t,τ=>match P.underlying t,τ with
  |some (.int k),.int j=>match IntKind.same j k with
   |some _=>true
   |none=>false
  |some .bool,.bool=>true
  |some .string,.str=>true
  |some (.slice e),.list τ=>qj P n e τ && (P.cellsOf e == τ.cells && (!(τ.cells == 0) && decide (τ.jN<=2^20)))
  |some (.struct fs),τ=>P.cellsOf t == τ.cells && nI (qj P n) P.cellsOf (fs.toList.map λf=>(f.offset,f.type)) 0 τ
  |some (.array k e),τ=>P.cellsOf t == τ.cells && nI (qj P n) P.cellsOf ((List.range k).map λi=>(i*P.cellsOf e,e)) 0 τ
  |_,_=>false
def Ty.small(n:Nat):(t:Ty)->t.den->Prop
 |.unit,_|.int _,_|.bool,_=>True
 |.str,s=>s.length<=n
 |.list e,xs=>xs.length<=n/\∀ x∈xs,e.small n x
 |.pair a b,x=>a.small n x.1/\b.small n x.2
 |.rose _,_=>False
structure Sm {H:Type}(n:Nat) (sm:DataW H->Prop):Prop where
 str:∀ b,sm (.lit (.string b))->b.length<=n
 sl:∀ es sp,sm (.slice es sp)->es.length<=n/\∀ d∈es,sm d
 agg:∀ l,sm (.agg l)->∀ d∈l,sm d
theorem yD{k:IntKind}{n:Int}(h:(Lit.int k n).wf=true):eP k n=true:=by
 unfold eP
 have h:k.min<=n/\n<=k.max:=by simpa [Lit.wf] using h
 cases k<;>simp [IntKind.wrap,IntKind.min,IntKind.max,IntKind.signed,IntKind.bits] at h ⊢<;>omega
theorem BJ{α β:Type}{f:α->Option β}:∀ {l:List α}{ys:List β},l.mapM f=some ys->ys.length=l.length/\∀ i (h:i < l.length) (h':i < ys.length),f l[i]=some ys[i]
 |[],ys,h=>by simp at h;subst h;exact ⟨rfl,λi h=>by simp at h⟩
 |a::l,ys,h=>by
  rw [List.mapM_cons] at h
  cases ha:f a with
  |none=>rw [ha] at h;cases h
  |some y =>
   cases hl:l.mapM f with
   |none=>rw [ha,hl] at h;cases h
   |some ys' =>
    rw [ha,hl] at h;cases h;obtain ⟨h1,h2⟩:=BJ hl;refine ⟨by simp [h1],λi hi hi'=>?_⟩
    cases i with
    |zero=>simpa using ha
    |succ i=>simpa using h2 i (by simpa using hi) (by simpa using hi')
theorem qy{α β:Type}{f f':α->Option β}:∀ {l:List α}{ys:List β},l.mapM f=some ys->(∀ a∈l,∀ y∈ys,f a=some y->f' a=some y)->l.mapM f'=some ys
 |[],ys,h,_=>by simpa using h
 |a::l,ys,h,hs=>by
  rw [List.mapM_cons] at h ⊢
  cases ha:f a with
  |none=>rw [ha] at h;cases h
  |some y =>
   cases hl:l.mapM f with
   |none=>rw [ha,hl] at h;cases h
   |some ys' =>
    rw [ha,hl] at h;cases h;rw [hs a (List.mem_cons_self) y (List.mem_cons_self) ha,qy hl λb hb z hz=>hs b (List.mem_cons_of_mem _ hb) z (List.mem_cons_of_mem _ hz)];rfl
theorem D0{α:Type}(p:Nat->α->Prop):∀ (n:Nat),(∀ i,i < n->∃ x,p i x)->∃ xs:List α,xs.length=n/\∀ i (h:i < xs.length),p i xs[i]
 |0,_=>⟨[],rfl,λi h=>by simp at h⟩
 |n+1,h=>by
  obtain ⟨xs,h1,h2⟩:=D0 p n λi hi=>h i (by omega);obtain ⟨x,hx⟩:=h n (by omega);refine ⟨xs++[x],by simp [h1],λi hi=>?_⟩;by_cases he:i < xs.length
  ·rw [List.getElem_append_left he];exact h2 i he
  ·have:i=n:=by simp at hi;omega
   subst this;rw [List.getElem_append_right (by omega)];simpa using hx
section
variable {H:Type}{enc:TypeId×Value->H}{P:Program}{W:World}{N:Nat}{sm:DataW H->Prop}
abbrev Old(W:World)(b:Nat):Prop:=b < W.heap.size
theorem Ah{a:Addr}{v:Value}(h:W.cell? a=some v):a.block < W.heap.size/\a.spot=none:=by
 unfold World.cell? at h;split at h
 ·rename_i c T fz hb;split at h
  ·cases h
  ·rename_i hs;refine ⟨(Array.getElem?_eq_some_iff.1 hb).1,?_⟩
   cases hq:a.spot with
   |none=>rfl
   |some _=>rw [hq] at hs;exact absurd rfl hs
 ·cases h
theorem uo{rec:TypeId->List Value->Option (DataW H×List MemPlace)}{ck:TypeId->Ty->Bool}
  (hrec:∀ t τ cs y,rec t cs=some y->ck t τ=true->sm y.1->∃ x,Frz W (Old W) τ cs x/\τ.small N x) (cs:List Value) :
  ∀ (l:List (Nat×TypeId)) (o:Nat) (τ:Ty) (ys:List (DataW H×List MemPlace)),l.mapM (λp=>rec p.2 ((cs.drop p.1).take (P.cellsOf p.2)))=some ys->nI ck P.cellsOf l o τ=true ->
   (∀ y∈ys,sm y.1)->cs.length=o+τ.cells->∃ x,Frz W (Old W) τ (cs.drop o) x/\τ.small N x
 |[],o,τ,ys,h,hc,hs,hl=>by
  cases τ<;>simp [nI] at hc
  refine ⟨(),?_,trivial⟩;simp only [Frz,List.drop_eq_nil_iff];simp [Ty.cells] at hl;omega
 |[p],o,τ,ys,h,hc,hs,hl=>by
  have hc:(p.1 == o && (P.cellsOf p.2 == τ.cells && ck p.2 τ))=true:=by
   cases τ<;>exact hc
  simp only [Bool.and_eq_true,beq_iff_eq] at hc;obtain ⟨h1,h2,h3⟩:=hc;obtain ⟨h4,h5⟩:=BJ h
  match ys,h4 with
  |[y],_ =>
   have h6:=h5 0 (by simp) (by simp);simp only [List.getElem_cons_zero] at h6;obtain ⟨x,hx⟩:=hrec _ _ _ _ h6 h3 (hs y (by simp));refine ⟨x,?_⟩;rw [h1,h2,List.take_of_length_le (by simp;omega)] at hx;exact hx
 |p::q::r,o,τ,ys,h,hc,hs,hl=>by
  cases τ with
  |pair a b =>
   simp only [nI,Bool.and_eq_true,beq_iff_eq] at hc;obtain ⟨h1,h2,h3,h4⟩:=hc;rw [List.mapM_cons] at h
   cases hy:rec p.2 ((cs.drop p.1).take (P.cellsOf p.2)) with
   |none=>rw [hy] at h;cases h
   |some y =>
    cases hl':(q::r).mapM (λp=>rec p.2 ((cs.drop p.1).take (P.cellsOf p.2))) with
    |none=>rw [hy,hl'] at h;cases h
    |some ys' =>
     rw [hy,hl'] at h;cases h;obtain ⟨x,hx⟩:=hrec _ _ _ _ hy h3 (hs y (by simp));simp only [Ty.cells] at hl;obtain ⟨z,hz⟩:=uo hrec cs (q::r) (o+a.cells) b ys' hl' h4 (λz hz=>hs z (List.mem_cons_of_mem _ hz)) (by omega);refine ⟨(x,z),?_,hx.2,hz.2⟩;simp only [Frz];refine ⟨_,_,?_,hx.1,hz.1⟩;rw [h1,h2,show cs.drop (o+a.cells)=(cs.drop o).drop a.cells by rw [List.drop_drop],List.take_append_drop]
  |_=>simp [nI] at hc
theorem om(S:Sm N sm)(hN:N<=2^20):∀ (fuel:Nat){n:Nat}{t:TypeId}{τ:Ty}{cs:List Value}{y:DataW H×List MemPlace},DataW.trod enc P W 0 (λ_=>true) true fuel t cs=some y ->
  qj P n t τ=true->sm y.1->∃ x,Frz W (Old W) τ cs x/\τ.small N x
 |0,_,_,_,_,_,h,_,_=>by simp [DataW.trod] at h
 |fuel+1,0,_,_,_,_,_,hc,_=>by simp [qj] at hc
 |fuel+1,n+1,t,τ,cs,y,h,hc,hs=>by
  simp only [qj] at hc;split at hc
  ·rename_i k j hu;split at hc
   case h_2=>cases hc
   rename_i hk _;obtain ⟨hk⟩:=hk;subst hk;obtain ⟨m,rfl,rfl,hwf⟩:=DataW.trod_int hu h;exact ⟨m,⟨rfl,yD hwf⟩,trivial⟩
  ·rename_i hu;obtain ⟨b,rfl,rfl⟩:=DataW.trod_bool hu h;exact ⟨b,rfl,trivial⟩
  ·rename_i hu;obtain ⟨s,rfl,rfl,_⟩:=DataW.trod_string hu h;have h3:=S.str _ hs;exact ⟨s.data.toList,⟨rfl,by simp only [lJ,decide_eq_true_eq];omega⟩,h3⟩
  ·rename_i e τ hu;simp only [Bool.and_eq_true,beq_iff_eq,Bool.not_eq_true',beq_eq_false_iff_ne,decide_eq_true_eq] at hc;obtain ⟨h1,h2,h3,h4⟩:=hc;rcases DataW.trod_slice hu h with ⟨rfl,rfl⟩|⟨a,len,cap,elems,rest,m,hm,rfl,rfl,_,hlen,_,hel,hall,_,_⟩
   ·refine ⟨[],?_,by simp [Ty.small]⟩;simp only [Frz];exact ⟨none,0,rfl,Nat.le_refl _,by simp [mH],.inl trivial⟩
   ·obtain ⟨rfl⟩:fuel=m:=by omega
    obtain ⟨s1,s2⟩:=S.sl _ _ hs;simp only [List.length_map] at s1
    have key:∀ i,i < len->∃ x,(∃ us,us.length=τ.cells/\(a.block < W.heap.size/\a.spot=none)/\cJ W a.block (a.off+i*τ.cells) us/\Frz W (Old W) τ us x)/\τ.small N x:=by
     intro i hi;have h5:=hall i hi;rw [List.getElem?_eq_getElem (by omega)] at h5;obtain ⟨us,h6,h7⟩:=Option.bind_eq_some_iff.1 h5;obtain ⟨_,h8,h9⟩:=World.cells?_some h6;obtain ⟨x,h10,h11⟩:=om S hN fuel h7 h1 (s2 _ (List.mem_map.2 ⟨elems[i],List.getElem_mem _,rfl⟩))
     have hsp:a.block < W.heap.size/\a.spot=none:=by
      have h12:=hall 0 (by omega);rw [List.getElem?_eq_getElem (by omega)] at h12;obtain ⟨us',h13,_⟩:=Option.bind_eq_some_iff.1 h12;obtain ⟨_,h14,h15⟩:=World.cells?_some h13;have h16:=h15 0 (by omega);rw [List.getElem?_eq_getElem (by omega)] at h16;have h17:=Ah h16;simpa [Addr.add] using h17
     refine ⟨x,⟨us,by omega,hsp,λk hk=>?_,h10⟩,h11⟩;have h18:=h9 k (by omega);rw [List.getElem?_eq_getElem hk,h2] at h18;rw [<- h18];congr 1;obtain ⟨ab,ao,asp⟩:=a;obtain ⟨_,rfl⟩:=hsp;unfold Addr.add
     by_cases hz:i*τ.cells=0<;>by_cases hz':k=0<;>simp [hz,hz']
    obtain ⟨xs,g1,g2⟩:=D0 _ len key;refine ⟨xs,?_,by omega,λx hx=>?_⟩
    ·simp only [Frz];refine ⟨some a,cap,by rw [g1],by omega,?_,?_⟩
     ·have:xs.length*τ.jN<=2^20*2^20:=Nat.mul_le_mul (by omega) h4;simp only [mH,decide_eq_true_eq];omega
     ·by_cases hx:xs=[]
      ·exact .inl hx
      ·have h0:0 < xs.length:=List.length_pos_iff.2 hx;obtain ⟨⟨_,_,hsp,_⟩,_⟩:=g2 0 h0;refine .inr ⟨a.block,a.off,?_,hsp.1,λi hi=>?_⟩
       ·obtain ⟨ab,ao,asp⟩:=a;obtain ⟨_,rfl⟩:=hsp;rfl
       ·obtain ⟨⟨us,q1,_,q3,q4⟩,_⟩:=g2 i hi;exact ⟨us,q1,q3,q4⟩
    ·obtain ⟨i,hi,rfl⟩:=List.getElem_of_mem hx;exact (g2 i hi).2
  ·rename_i _ _ fs hu;simp only [Bool.and_eq_true,beq_iff_eq] at hc
   have h':(if cs.length=P.cellsOf t then (fs.toList.mapM λf=>DataW.trod enc P W 0 (λ_=>true) true fuel f.type ((cs.drop f.offset).take (P.cellsOf f.type))).map λxs=>(DataW.agg (xs.map (·.1)),xs.flatMap (·.2)) else none)=some y:=by
    unfold DataW.trod at h;rw [hu] at h
    split at h<;>simp_all
   split at h'
   case isFalse=>cases h'
   rename_i hlen;obtain ⟨ys,q1,q2⟩:=Option.map_eq_some_iff.1 h';subst q2
   have q3:(fs.toList.map λf=>(f.offset,f.type)).mapM (λp=>DataW.trod enc P W 0 (λ_=>true) true fuel p.2 ((cs.drop p.1).take (P.cellsOf p.2)))=some ys:=by
    rw [List.mapM_map];exact q1
   obtain ⟨x,hx⟩:=uo (P:=P) (ck:=qj P n) (λt τ cs y a b c=>om S hN fuel a b c) cs _ 0 _ ys q3 hc.2 (λy hy=>S.agg _ hs _ (List.mem_map.2 ⟨y,hy,rfl⟩)) (by rw [hlen,hc.1];exact (Nat.zero_add _).symm);exact ⟨x,by simpa using hx⟩
  ·rename_i _ _ k e hu;simp only [Bool.and_eq_true,beq_iff_eq] at hc
   have h':(if cs.length=P.cellsOf t then ((List.range k).mapM λi=>DataW.trod enc P W 0 (λ_=>true) true fuel e ((cs.drop (i*P.cellsOf e)).take (P.cellsOf e))).map λxs=>(DataW.agg (xs.map (·.1)),xs.flatMap (·.2)) else none)=some y:=by
    unfold DataW.trod at h;rw [hu] at h
    split at h<;>simp_all
   split at h'
   case isFalse=>cases h'
   rename_i hlen;obtain ⟨ys,q1,q2⟩:=Option.map_eq_some_iff.1 h';subst q2
   have q3:((List.range k).map λi=>(i*P.cellsOf e,e)).mapM (λp=>DataW.trod enc P W 0 (λ_=>true) true fuel p.2 ((cs.drop p.1).take (P.cellsOf p.2)))=some ys:=by
    rw [List.mapM_map];exact q1
   obtain ⟨x,hx⟩:=uo (P:=P) (ck:=qj P n) (λt τ cs y a b c=>om S hN fuel a b c) cs _ 0 _ ys q3 hc.2 (λy hy=>S.agg _ hs _ (List.mem_map.2 ⟨y,hy,rfl⟩)) (by rw [hlen,hc.1];exact (Nat.zero_add _).symm);exact ⟨x,by simpa using hx⟩
  ·cases hc
theorem CD{W':World}(hw:∀ b,b < W.heap.size->W'.heap[b]?=W.heap[b]?){a:Addr}{n:Nat}{us:List Value}(h:W.cells? 0 a n=some us):W'.cells? 0 a n=some us:=by
 unfold World.cells? at h ⊢;simp only [Nat.zero_le,if_true] at h ⊢;refine qy h λi _ v _ hv=>?_;have h1:=Ah hv;rw [<- hv];simp only [World.cell?,hw _ h1.1]
theorem rp{rec rec':TypeId->List Value->Option (DataW H×List MemPlace)}{ck:TypeId->Ty->Bool}{ok:DataW H×List MemPlace->Prop}
  (hrec:∀ t τ cs y,rec t cs=some y->ck t τ=true->ok y->rec' t cs=some y) (cs:List Value) :
  ∀ (l:List (Nat×TypeId)) (o:Nat) (τ:Ty) (ys:List (DataW H×List MemPlace)),l.mapM (λp=>rec p.2 ((cs.drop p.1).take (P.cellsOf p.2)))=some ys->nI ck P.cellsOf l o τ=true ->
   (∀ y∈ys,ok y)->l.mapM (λp=>rec' p.2 ((cs.drop p.1).take (P.cellsOf p.2)))=some ys
 |[],o,τ,ys,h,_,_=>by simpa using h
 |[p],o,τ,ys,h,hc,hs=>by
  have hc:(p.1 == o && (P.cellsOf p.2 == τ.cells && ck p.2 τ))=true:=by
   cases τ<;>exact hc
  simp only [Bool.and_eq_true,beq_iff_eq] at hc;refine qy h λq hq y hy hr=>?_;obtain rfl:=List.mem_singleton.1 hq;exact hrec _ _ _ _ hr hc.2.2 (hs y hy)
 |p::q::r,o,τ,ys,h,hc,hs=>by
  cases τ with
  |pair a b =>
   simp only [nI,Bool.and_eq_true,beq_iff_eq] at hc;obtain ⟨h1,h2,h3,h4⟩:=hc;rw [List.mapM_cons] at h ⊢
   cases hy:rec p.2 ((cs.drop p.1).take (P.cellsOf p.2)) with
   |none=>rw [hy] at h;cases h
   |some y =>
    cases hl':(q::r).mapM (λp=>rec p.2 ((cs.drop p.1).take (P.cellsOf p.2))) with
    |none=>rw [hy,hl'] at h;cases h
    |some ys' =>
     rw [hy,hl'] at h;cases h;rw [hrec _ _ _ _ hy h3 (hs y (by simp)),rp hrec cs (q::r) _ b ys' hl' h4 λz hz=>hs z (List.mem_cons_of_mem _ hz)];rfl
  |_=>simp [nI] at hc
theorem rI{W':World}{sp:Nat->Bool}(hw:∀ b,b < W.heap.size->W'.heap[b]?=W.heap[b]?):∀ (fuel:Nat){n:Nat}{t:TypeId}{τ:Ty}{cs:List Value}{y:DataW H×List MemPlace},DataW.trod enc P W 0 (λ_=>true) true fuel t cs=some y ->
  qj P n t τ=true->(∀ p∈y.2,sp p.block=true)->DataW.trod enc P W' 0 sp true fuel t cs=some y
 |0,_,_,_,_,_,h,_,_=>by simp [DataW.trod] at h
 |fuel+1,0,_,_,_,_,_,hc,_=>by simp [qj] at hc
 |fuel+1,n+1,t,τ,cs,y,h,hc,hs=>by
  simp only [qj] at hc;split at hc
  ·rename_i k j hu;obtain ⟨m,rfl,rfl,hwf⟩:=DataW.trod_int hu h;unfold DataW.trod at h ⊢;simpa [hu] using h
  ·rename_i hu;obtain ⟨b,rfl,rfl⟩:=DataW.trod_bool hu h;unfold DataW.trod at h ⊢;simpa [hu] using h
  ·rename_i hu;obtain ⟨s,rfl,rfl,_⟩:=DataW.trod_string hu h;unfold DataW.trod at h ⊢;simpa [hu] using h
  ·rename_i e τ hu;simp only [Bool.and_eq_true,beq_iff_eq,Bool.not_eq_true',beq_eq_false_iff_ne,decide_eq_true_eq] at hc;obtain ⟨h1,h2,h3,h4⟩:=hc;have h0:=h;rcases DataW.trod_slice hu h with ⟨rfl,rfl⟩|⟨a,len,cap,elems0,rest0,m,hm,rfl,rfl,_,hlen,_,hel,hall,hsp,_⟩
   ·unfold DataW.trod at h ⊢;simpa [hu] using h
   ·obtain ⟨rfl⟩:fuel=m:=by omega
    have hrl:=(hsp rfl).1
    have hspa:elems0.length+rest0.length≠0->sp a.block=true:=λhne=>by
     have hpos:0 < (elems0.length+rest0.length)*P.cellsOf e:=Nat.mul_pos (by omega) (by omega);refine hs (.cell a.block (a.off+0)) (List.mem_append_left _ ?_);exact List.mem_map.2 ⟨0,List.mem_range.2 hpos,rfl⟩
    unfold DataW.trod at h ⊢;simp only [hu,Nat.zero_le,true_and] at h ⊢;split at h
    case isFalse=>cases h
    rename_i hb;rw [if_pos hb];simp only [Option.bind_eq_some_iff,Option.map_eq_some_iff] at h;obtain ⟨elems,he,rest,hr,hy⟩:=h;simp only [Prod.mk.injEq,DataW.slice.injEq] at hy
    have hel':∀ (l:List Nat) (ys:List (DataW H×List MemPlace)) (g:Nat->Nat),(∀ z∈ys,∀ p∈z.2,sp p.block=true)->l.mapM (λi=>(W.cells? 0 (a.add (g i*P.cellsOf e)) (P.cellsOf e)).bind (DataW.trod enc P W 0 (λ_=>true) true fuel e))=some ys ->
      l.mapM (λi=>(W'.cells? 0 (a.add (g i*P.cellsOf e)) (P.cellsOf e)).bind (DataW.trod enc P W' 0 sp true fuel e))=some ys:=λl ys g hz h=>by
     refine qy h λi _ z hz' hi=>?_;obtain ⟨us,q1,q2⟩:=Option.bind_eq_some_iff.1 hi;rw [CD hw q1];exact rI hw fuel q2 h1 (hz z hz')
    have hplaces:∀ z∈elems++rest,∀ p∈z.2,sp p.block=true:=λz hz p hp=>hs p (by
     rw [<- hy.2]
     exact List.mem_append_right _ (List.mem_flatMap.2 ⟨z,hz,hp⟩))
    have hr':(List.range (cap-len)).mapM (λj=>(W.cells? 0 (a.add ((len+j)*P.cellsOf e)) (P.cellsOf e)).bind (DataW.trod enc P W 0 (λ_=>true) true fuel e))=some rest:=by simpa using hr
    rw [hel' _ elems (λi=>i) (λz hz=>hplaces z (List.mem_append_left _ hz)) he];have hr2:=hel' _ rest (λj=>len+j) (λz hz=>hplaces z (List.mem_append_right _ hz)) hr'
    have hsel:(if sp a.block=true then (List.range (cap-len)).mapM (λj=>(W'.cells? 0 (a.add ((len+j)*P.cellsOf e)) (P.cellsOf e)).bind (DataW.trod enc P W' 0 sp true fuel e)) else some [])=some rest:=by
     by_cases hq:sp a.block=true
     ·rw [if_pos hq];exact hr2
     ·rw [if_neg hq]
      have:rest=[]:=by
       by_cases hz:elems0.length+rest0.length=0
       ·have h5:cap-len=0:=by omega
        rw [h5] at hr';simpa using hr'.symm
       ·exact absurd (hspa hz) hq
      rw [this]
    simp only [Option.bind_some,hsel,Option.map_some];rw [hy.1.1,hy.1.2,hy.2]
  ·rename_i _ _ fs hu;simp only [Bool.and_eq_true,beq_iff_eq] at hc
   have h':(if cs.length=P.cellsOf t then (fs.toList.mapM λf=>DataW.trod enc P W 0 (λ_=>true) true fuel f.type ((cs.drop f.offset).take (P.cellsOf f.type))).map λxs=>(DataW.agg (xs.map (·.1)),xs.flatMap (·.2)) else none)=some y:=by
    unfold DataW.trod at h;rw [hu] at h
    split at h<;>simp_all
   split at h'
   case isFalse=>cases h'
   rename_i hlen;obtain ⟨ys,q1,q2⟩:=Option.map_eq_some_iff.1 h'
   have q3:(fs.toList.map λf=>(f.offset,f.type)).mapM (λp=>DataW.trod enc P W 0 (λ_=>true) true fuel p.2 ((cs.drop p.1).take (P.cellsOf p.2)))=some ys:=by
    rw [List.mapM_map];exact q1
   have q4:=rp (P:=P) (ck:=qj P n) (rec':=DataW.trod enc P W' 0 sp true fuel) (ok:=λy=>∀ p∈y.2,sp p.block=true) (λt τ cs y a b c=>rI hw fuel a b c) cs _ 0 _ ys q3 hc.2
    (λy hy p hp=>hs p (by rw [<- q2];exact List.mem_flatMap.2 ⟨y,hy,hp⟩))
   rw [List.mapM_map] at q4;have q5:(fs.toList.mapM λf=>DataW.trod enc P W' 0 sp true fuel f.type ((cs.drop f.offset).take (P.cellsOf f.type)))=some ys:=q4;unfold DataW.trod;rw [hu];rw [<- q2]
   split<;>simp_all
  ·rename_i _ _ k e hu;simp only [Bool.and_eq_true,beq_iff_eq] at hc
   have h':(if cs.length=P.cellsOf t then ((List.range k).mapM λi=>DataW.trod enc P W 0 (λ_=>true) true fuel e ((cs.drop (i*P.cellsOf e)).take (P.cellsOf e))).map λxs=>(DataW.agg (xs.map (·.1)),xs.flatMap (·.2)) else none)=some y:=by
    unfold DataW.trod at h;rw [hu] at h
    split at h<;>simp_all
   split at h'
   case isFalse=>cases h'
   rename_i hlen;obtain ⟨ys,q1,q2⟩:=Option.map_eq_some_iff.1 h'
   have q3:((List.range k).map λi=>(i*P.cellsOf e,e)).mapM (λp=>DataW.trod enc P W 0 (λ_=>true) true fuel p.2 ((cs.drop p.1).take (P.cellsOf p.2)))=some ys:=by
    rw [List.mapM_map];exact q1
   have q4:=rp (P:=P) (ck:=qj P n) (rec':=DataW.trod enc P W' 0 sp true fuel) (ok:=λy=>∀ p∈y.2,sp p.block=true) (λt τ cs y a b c=>rI hw fuel a b c) cs _ 0 _ ys q3 hc.2
    (λy hy p hp=>hs p (by rw [<- q2];exact List.mem_flatMap.2 ⟨y,hy,hp⟩))
   rw [List.mapM_map] at q4;have q5:((List.range k).mapM λi=>DataW.trod enc P W' 0 sp true fuel e ((cs.drop (i*P.cellsOf e)).take (P.cellsOf e)))=some ys:=q4;unfold DataW.trod;rw [hu];rw [<- q2]
   split<;>simp_all
  ·cases hc
end
end Go.Mach

namespace Go.Mach
namespace Res
variable {α β γ:Type}{Q:β->Prop}
theorem aD{Q:α->Prop}{a:α}(h:Q a):(Res.ok a).sat Q:=h
theorem bG{Q Q':α->Prop}{m:Res α}(h:m.sat Q)(hq:∀ a,Q a->Q' a):m.sat Q':=by
 exact wR hq h
theorem fm{m:Res α}{k:α->Res β}(h:m.sat λa=>(k a).sat Q):(m.bind k).sat Q:=by
 exact ud h
theorem aB{m:Res α}{k:α->Res β}{R:α->Prop}(h:m.sat R)(hk:∀ a,R a->(k a).sat Q):(m.bind k).sat Q:=fm (bG h hk)
theorem aa{m:Res α}{k:α->Res β}{a:α}(h:m.sat (·=a))(hk:(k a).sat Q):(m.bind k).sat Q:=aB h λ_ e=>e▸hk
theorem aA{b:Bool}{k:Res β}(h:b=true->k.sat Q):(given b k).sat Q:=by
 exact h
theorem bD{b:Bool}{k:Res β}(hb:b=true)(h:k.sat Q):(aZ b k).sat Q:=by
 subst hb;exact h
theorem aG{b:Bool}{x y:Res β}(h1:b=true->x.sat Q)(h2:b=false->y.sat Q):(br b x y).sat Q:=by
 cases b<;>simp_all [br]
theorem ba{t:Ty}{xs:List t.den}{i:Int}{k:t.den->Res β}(h0:0<=i)(h1:i.toNat < xs.length)(h:∀ x,xs[i.toNat]?=some x->t.ok x=true->(k x).sat Q):(idx t xs i k).sat Q:=by
 unfold idx;rw [decide_eq_true h0,List.getElem?_eq_getElem h1];exact aA λhk=>h _ (List.getElem?_eq_getElem h1) hk
theorem bQ{s:Sh}{xs:List s.den}{i:Int}{k:s.den->Res β}(h0:0<=i)(h1:i.toNat < xs.length)(h:∀ x,xs[i.toNat]?=some x->s.ok x=true->(k x).sat Q):(cO s xs i k).sat Q:=by
 unfold cO;rw [decide_eq_true h0,List.getElem?_eq_getElem h1];exact aA λhk=>h _ (List.getElem?_eq_getElem h1) hk
theorem nL {f:α->Res (Step α β)}(I:Nat->α->Prop) (h:∀ k a,I k a->(f a).sat fun
   |.next a'=>∃ k',k' < k/\I k' a'
   |.done b=>Q b):∀ (n k:Nat) (a:α),k < n->I k a->(loop f n a).sat Q
 |0,_,_,hk,_=>by omega
 |n+1,k,a,hk,hI=>by
  unfold loop;refine aB (h k a hI) λs hs=>?_
  cases s with
  |next a' =>
   obtain ⟨k',h1,h2⟩:=hs;exact nL I h n k' a' (by omega) h2
  |done b=>exact hs
theorem vp{f:α->Res (Step α β)}(ix:α->Int)(n:Nat)(hn:n < 2^69)(I:α->Prop){a:α}(ha:I a)(hix:∀ a,I a->0<=ix a/\ix a<=n)
  (h:∀ a,I a->(f a).sat fun
   |.next a'=>ix a'=ix a+1/\I a'
   |.done b=>Q b):(loop f fuel a).sat Q:=by
 refine nL (λk a=>I a/\k=n-(ix a).toNat) (λk a ⟨hI,hk⟩=>?_) _ (n-(ix a).toNat) a (Nat.lt_of_le_of_lt (Nat.sub_le _ _) (Nat.lt_trans hn (by decide))) ⟨ha,rfl⟩;refine bG (h a hI) λs hs=>?_
 cases s with
 |next a' =>
  obtain ⟨h1,h2⟩:=hs;have h3:=hix a hI;have h4:=hix a' h2;exact ⟨_,by omega,h2,rfl⟩
 |done b=>exact hs
end Res
theorem wrap64{n:Int}(h:-9223372036854775808<=n/\n < 9223372036854775808):w6 n=n:=by
 unfold w6;simp [IntKind.wrap,IntKind.signed,IntKind.bits];omega
theorem fh{a b:Int}:(ilt a b=true)=(a < b):=by simp [ilt]
theorem kE{a b:Int}:(ile a b=true)=(a<=b):=by simp [ile]
theorem kJ{a b:Int}:(ilt a b=false)=(b<=a):=by simp [ilt]
theorem ki{a b:Int}:(ile a b=false)=(b < a):=by simp [ile]
theorem gG(x y:Int):kF x y=min x y:=by unfold kF;split<;>omega
theorem j7(x y:Int):o6 x y=max x y:=by unfold o6;split<;>omega
theorem idx0(i:Int):((0:Int)+(i.toNat:Int)).toNat=i.toNat:=by omega
theorem I5{n:Int}:(eP .i64 n=true)=(-9223372036854775808<=n/\n < 9223372036854775808):=by
 simp [eP,IntKind.wrap,IntKind.signed,IntKind.bits];omega
theorem ob{α:Type}{xs:List α}{i:Nat}{x:α}(h:xs[i]?=some x):xs.set i x=xs:=by
 apply List.ext_getElem?;intro j;rw [List.getElem?_set];split
 ·subst_vars;split
  ·exact h.symm
  ·rename_i hl;rw [List.getElem?_eq_none (by omega)]
 ·rfl
end Go.Mach
namespace Go.Mach
namespace Res
variable {α β:Type}{Q:β->Prop}
theorem jK{b:Bool}{x y:Res β}(h:b=true)(hx:x.sat Q):(br b x y).sat Q:=by subst h;exact hx
theorem iC{b:Bool}{x y:Res β}(h:b=false)(hx:y.sat Q):(br b x y).sat Q:=by subst h;exact hx
theorem iy{γ δ:Type}{a:γ}{f:γ->Res β}{g:δ->Res β}(h:(f a).sat Q):(sum (.inl a) f g).sat Q:=h
theorem iv{γ δ:Type}{a:δ}{f:γ->Res β}{g:δ->Res β}(h:(g a).sat Q):(sum (.inr a) f g).sat Q:=h
end Res
namespace Res
end Res
end Go.Mach

namespace Go.Mach
open Res
class Safe {α:Type}(m:Res α):Prop where
 ok:m.sat λ_=>True
namespace Safe
variable {α β γ:Type}
instance {a:α}:Safe (Res.ok a):=⟨trivial⟩
theorem g'{b:Bool}{k:Res α}(h:Safe k):Safe (given b k):=⟨λ_=>h.ok⟩
theorem bd'{m:Res α}{k:α->Res β}(h:Safe m)(h2:∀ a,Safe (k a)):Safe (m.bind k):=⟨aB h.ok λa _=>(h2 a).ok⟩
theorem br'{b:Bool}{x y:Res α}(h1:Safe x)(h2:Safe y):Safe (Res.br b x y):=⟨aG (λ_=>h1.ok) λ_=>h2.ok⟩
theorem sm'{x:α ⊕ β}{f:α->Res γ}{g:β->Res γ}(h1:∀ a,Safe (f a))(h2:∀ a,Safe (g a)):Safe (sum x f g):=by
 cases x
 ·exact h1 _
 ·exact h2 _
end Safe
class Aj {α:Type}(m:Res α) (v:outParam α):Prop where
 ok:m.sat (·=v)
instance (priority:=low){α:Type}{m:Res α}{v:α} [h:Aj m v]:Safe m:=⟨Res.bG h.ok λ_ _=>trivial⟩
class mG {α:Type}(m:Res α) (P:outParam (α->Prop)):Prop where
 ok:m.sat P
instance (priority:=low){α:Type}{m:Res α}{P:α->Prop} [h:mG m P]:Safe m:=⟨Res.bG h.ok λ_ _=>trivial⟩
namespace Res
variable {α β:Type}{Q:β->Prop}
theorem q_e{m:Res α}{v:α}[h:Aj m v]{k:α->Res β}(hk:(k v).sat Q):(m.bind k).sat Q:=aa h.ok hk
theorem qD{a:α}{k:α->Res β}(h:(k a).sat Q):((Res.ok a).bind k).sat Q:=h
theorem zw{a b:Bool}{x y:Res β}(h:(br a x (br b x y)).sat Q):(br (a || b) x y).sat Q:=by cases a<;>exact h
theorem tt{a b:Bool}{x y:Res β}(h:(br a (br b x y) y).sat Q):(br (a && b) x y).sat Q:=by cases a<;>exact h
theorem q_p{m:Res α}{P:α->Prop}[h:mG m P]{k:α->Res β}(hk:∀ a,P a->(k a).sat Q):(m.bind k).sat Q:=aB h.ok hk
theorem safe{m:Res α}[h:Safe m]:m.sat λ_=>True:=h.ok
theorem q_b{m:Res α}[h:Safe m]{k:α->Res β}(hk:∀ a,(k a).sat Q):(m.bind k).sat Q:=aB h.ok λa _=>hk a
theorem ef{a b:Int}{x y:Res β}(h1:a < b->x.sat Q)(h2:b<=a->y.sat Q):(br (ilt a b) x y).sat Q:=aG (λh=>h1 (of_decide_eq_true h)) λh=>h2 (Int.not_lt.1 (of_decide_eq_false h))
theorem lb{a b:Int}{x y:Res β}(h1:a<=b->x.sat Q)(h2:b < a->y.sat Q):(br (ile a b) x y).sat Q:=aG (λh=>h1 (of_decide_eq_true h)) λh=>h2 (Int.not_le.1 (of_decide_eq_false h))
theorem bK{a b:Int}{x y:Res β}(h1:a=b->x.sat Q)(h2:a≠b->y.sat Q):(br (a == b) x y).sat Q:=aG (λh=>h1 (eq_of_beq h)) λh=>h2 (ne_of_beq_false h)
theorem eD{b:Bool}{x y:Res β}(h:(br b y x).sat Q):(br (!b) x y).sat Q:=by cases b<;>exact h
theorem fZ{a b:Bool}{k:Res β}(h:(aZ a (aZ b k)).sat Q):(aZ (a && b) k).sat Q:=by cases a<;>cases b<;>exact h
theorem gY{a b:Int}{k:Res β}(h:a<=b)(hk:k.sat Q):(aZ (ile a b) k).sat Q:=bD (decide_eq_true h) hk
theorem oL{a b:Int}{k:Res β}(h:a < b)(hk:k.sat Q):(aZ (ilt a b) k).sat Q:=bD (decide_eq_true h) hk
theorem n_d{p:Prop}[Decidable p]{k:Res β}(h:p)(hk:k.sat Q):(aZ (decide p) k).sat Q:=bD (decide_eq_true h) hk
theorem tZ{a b:Int}{k:Res β}(h:a≠b)(hk:k.sat Q):(aZ (!(a == b)) k).sat Q:=bD (by simpa using h) hk
theorem uS{γ δ:Type}{x:γ ⊕ δ}{f:γ->Res β}{g:δ->Res β}(h1:∀ a,(f a).sat Q)(h2:∀ a,(g a).sat Q):(sum x f g).sat Q:=by
 cases x
 ·exact h1 _
 ·exact h2 _
def Nx{α β:Type}(ix:α->Int)(n:Nat)(I:α->Prop)(P:β->Prop)(a:α):Step α β->Prop
 |.next a'=>ix a'=w6 (ix a+1)/\ix a < n/\I a'
 |.done b=>P b
theorem gQ{f:α->Res (Step α β)}{a:α}(ix:α->Int)(n:Nat)(hn:n<=2^60)(I:α->Prop)(h0:0<=ix a)(h1:ix a<=n)(hI:I a)(h:∀ a,0<=ix a->ix a<=n->I a->(f a).sat (Nx ix n I Q a)):(loop f fuel a).sat Q:=by
 refine vp ix n (by omega) (λa=>0<=ix a/\ix a<=n/\I a) ⟨h0,h1,hI⟩ (λa h=>⟨h.1,h.2.1⟩) λa ⟨i0,i1,i2⟩=>?_;refine bG (h a i0 i1 i2) λs hs=>?_
 cases s with
 |next a' =>
  obtain ⟨e,hl,hI'⟩:=hs;rw [wrap64 (by omega)] at e;exact ⟨e,by omega,by omega,hI'⟩
 |done b=>exact hs
def Dn{α β:Type}(mz:α->Nat)(I:α->Prop)(P:β->Prop)(a:α):Step α β->Prop
 |.next a'=>mz a' < mz a/\I a'
 |.done b=>P b
theorem kG{f:α->Res (Step α β)}{a:α}(mz:α->Nat)(hn:mz a<=2^60)(I:α->Prop)(hI:I a)(h:∀ a,I a->(f a).sat (Dn mz I Q a)):(loop f fuel a).sat Q:=by
 refine nL (λk a=>I a/\k=mz a) (λk a ⟨hI,hk⟩=>?_) _ (mz a) a (Nat.lt_of_le_of_lt hn (by decide)) ⟨hI,rfl⟩;refine bG (h a hI) λs hs=>?_
 cases s with
 |next a'=>exact ⟨_,hk▸hs.1,hs.2,rfl⟩
 |done b=>exact hs
theorem mL{f:α->Res (Step α β)}{a:α}(ix:α->Int)(n:Nat)(hn:n<=2^60)(h0:0<=ix a)(h1:ix a<=n)(h:∀ a,0<=ix a->ix a<=n->(f a).sat (Nx ix n (λ_=>True) (λ_=>True) a)):Safe (loop f fuel a):=⟨gQ ix n hn (λ_=>True) h0 h1 trivial λa i0 i1 _=>h a i0 i1⟩
end Res
theorem lZ{s:Sh}{n:Nat}(h:fS s n=true)(hs:0 < s.jN:=by decide):n<=2^47:=Nat.le_trans (Nat.le_mul_of_pos_right n hs) (of_decide_eq_true h)
theorem zO{e:Ty}{n:Nat}(h:mH e n=true)(hs:0 < e.jN:=by decide):n<=2^47:=Nat.le_trans (Nat.le_mul_of_pos_right n hs) (of_decide_eq_true h)
theorem wrap_u32(n:Int):0<=IntKind.wrap .u32 n/\IntKind.wrap .u32 n < 4294967296:=by
 simp [w6,w6,IntKind.wrap,IntKind.signed,IntKind.bits];omega
theorem u3{s:Sh}{n:Nat}(h:fS s n=true):n*s.jN<=2^47:=of_decide_eq_true h
theorem oH{n:Nat}(h:lJ n=true):n<=2^47:=of_decide_eq_true h
end Go.Mach

namespace Go.Mach
open Go.ChangeShapes Go.RowKit
def Sh.sI:Sh->Bool
 |.frz _=>true
 |.own s=>s.sI
 |.seq a b=>a.sI && b.sI
 |_=>false
def rZ(P:Program)(t:TypeId):Par->Bool
 |.val g (.frz τ)=>(g == oD P t) && qj P 20 t τ
 |.val g (.bor s)=>(g == oD P t) && (s.sI && qj P 20 t s.ty)
 |_=>false
def qw(P:Program):List TypeId->List Par->Bool
 |[],[]=>true
 |t::ts,p::ps=>rZ P t p && qw P ts ps
 |_,_=>false
def smalls(n:Nat):(ps:List VSh)->kO ps->Prop
 |[],_=>True
 |[a],x=>a.2.ty.small n x
 |a::b::r,x=>a.2.ty.small n x.1/\smalls n (b::r) x.2
section
variable {W:World}{Z V:Nat->Prop}
theorem rE:∀ {s:Sh},s.sI=true->s.cells=s.ty.cells
 |.frz _,_=>rfl
 |.own _,_=>rfl
 |.seq a b,h=>by
  simp only [Sh.sI,Bool.and_eq_true] at h;simp only [Sh.cells,Sh.ty,Ty.cells,rE h.1,rE h.2]
theorem uv:∀ {s:Sh},s.sI=true->s.jN=s.ty.jN
 |.frz _,_=>rfl
 |.own _,_=>rfl
 |.seq a b,h=>by
  simp only [Sh.sI,Bool.and_eq_true] at h;simp only [Sh.jN,Sh.ty,Ty.jN,uv h.1,uv h.2]
theorem pZ(hz:∀ b,Z b->V b):∀ {s:Sh}{us:List Value}{x:s.den},s.sI=true->Frz W Z s.ty us x->BR W Z V s us x
 |.frz _,_,_,_,h=>h
 |.own s,us,xs,hl,h=>by
  simp only [Sh.ty,Frz] at h;simp only [BR];obtain ⟨a,cap,h1,h2,h3,h4⟩:=h;refine ⟨a,cap,h1,h2,?_,h4.imp id ?_⟩
  ·simpa [fS,mH,uv (s:=s) hl] using h3
  ·rintro ⟨b,o,h5,h6,h7⟩;refine ⟨b,o,h5,hz b h6,λi hi=>?_⟩;obtain ⟨us,h8,h9,h10⟩:=h7 i hi;rw [rE (s:=s) hl];exact ⟨us,h8,h9,pZ hz (s:=s) hl h10⟩
 |.seq a b,us,x,hl,h=>by
  simp only [Sh.sI,Bool.and_eq_true] at hl;simp only [Sh.ty,Frz] at h;simp only [BR];obtain ⟨u1,u2,h1,h2,h3⟩:=h;exact ⟨u1,u2,h1,pZ hz hl.1 h2,pZ hz hl.2 h3⟩
end
section
variable {H:Type}{enc:TypeId×Value->H}{P:Program}{W:World}{N:Nat}{sm:DataW H->Prop}
theorem xg{r:Reach}{b0:Nat}{t:TypeId}{τ:Ty}{v:Value}(hc:qj P 20 t τ=true)(h:Value.okWide P W r b0 t v):uB (oD P t) v.cells.toList v:=by
 unfold oD;unfold Value.okWide at h;have hc:qj P (19+1) t τ=true:=hc;unfold qj at hc
 cases hu:P.underlying t with
 |none=>simp [hu] at hc
 |some D =>
  rw [hu] at hc h
  have one:∀ {w:Value},Cell.okWide P W r b0 t w->(∀ cs,w≠.agg cs)->uB false w.cells.toList w:=λ{w} _ hw=>by
   cases w<;>simp [uB,Value.cells] at hw ⊢
  have noagg:∀ {cs:Array Value},(D=.bool\/D=.string\/(∃ k,D=.int k)\/∃ e,D=.slice e)->¬ Cell.okWide P W r b0 t (.agg cs):=λ{cs} hd h=>by
   unfold Cell.okWide Cell.ok at h;rw [hu] at h
   rcases hd with rfl|rfl|⟨k,rfl⟩|⟨e,rfl⟩<;>simp at h
  cases D with
  |bool=>exact one h λcs he=>noagg (.inl rfl) (he▸h)
  |string=>exact one h λcs he=>noagg (.inr (.inl rfl)) (he▸h)
  |int k=>exact one h λcs he=>noagg (.inr (.inr (.inl ⟨k,rfl⟩))) (he▸h)
  |slice e=>exact one h λcs he=>noagg (.inr (.inr (.inr ⟨e,rfl⟩))) (he▸h)
  |struct fs=>obtain ⟨cs,rfl,_⟩:=h;simp [uB,Value.cells]
  |array n e=>obtain ⟨cs,rfl,_⟩:=h;simp [uB,Value.cells]
  |_=>cases τ<;>cases hc
theorem Ac(S:Sm N sm)(hN:N<=2^20){r:Reach}{b0:Nat}{t:TypeId}{v:Value}{d:DataW H}{ps:List MemPlace}{p:Par}(h:DataW.Trod enc P W 0 (λ_=>true) true t v d ps)(hv:Value.okWide P W r b0 t v)
  (hc:rZ P t p=true) (hs:sm d) (T:Nat->Prop):∃ x:p.v.2.den,tF W (Old W) (λ_=>False) p.v v x T/\p.v.2.ty.small N x:=by
 obtain ⟨fuel,h⟩:=h
 match p with
 |.obj _=>simp [rZ] at hc
 |.val g s =>
  cases s with
  |frz τ =>
   simp only [rZ,Bool.and_eq_true,beq_iff_eq] at hc;obtain ⟨rfl,hc⟩:=hc;obtain ⟨x,h1,h2⟩:=om S hN fuel h hc hs;exact ⟨x,⟨_,xg hc hv,h1.length,h1⟩,h2⟩
  |bor s =>
   simp only [rZ,Bool.and_eq_true,beq_iff_eq] at hc;obtain ⟨rfl,hl,hc⟩:=hc;obtain ⟨x,h1,h2⟩:=om S hN fuel h hc hs;refine ⟨x,⟨_,xg hc hv,?_,?_⟩,h2⟩
   ·exact h1.length.trans (rE hl).symm
   ·exact pZ (λb hb=>.inr hb) hl h1
  |_=>simp [rZ] at hc
theorem ue(S:Sm N sm)(hN:N<=2^20){r:Reach}{b0:Nat}:∀ {ts:List TypeId}{vs:List Value}{ds:List (DataW H)}{q:List MemPlace}{ps:List Par},DataW.TrodAll enc P W 0 (λ_=>true) true ts vs ds q ->
  (∀ (j:Nat) t v,ts[j]?=some t->vs[j]?=some v->Value.okWide P W r b0 t v)->qw P ts ps=true->(∀ d∈ds,sm d) ->
  ∃ x:kO (ps.map Par.v),lY W (Old W) (λ_=>False) (ps.map Par.v) vs x (λ_=>False)/\smalls N (ps.map Par.v) x
 |[],vs,ds,q,ps,h,hv,hc,hs=>by
  obtain ⟨rfl,rfl,rfl⟩:=trodAll_nil h
  match ps,hc with
  |[],_=>exact ⟨(),rfl,trivial⟩
 |t::ts,vs,ds,q,ps,h,hv,hc,hs=>by
  obtain ⟨v,vs',d,ds',p1,p2,rfl,rfl,rfl,h1,h2⟩:=trodAll_cons h
  match ps,hc with
  |p::ps,hc =>
   simp only [qw,Bool.and_eq_true] at hc;obtain ⟨x,g1,g2⟩:=Ac S hN h1 (hv 0 t v rfl rfl) hc.1 (hs d (by simp)) (λ_=>False);obtain ⟨y,g3,g4⟩:=ue S hN h2 (λj t v ht hv'=>hv (j+1) t v (by simpa using ht) (by simpa using hv')) hc.2 (λd hd=>hs d (List.mem_cons_of_mem _ hd))
   match ps,y,g3,g4 with
   |[],y,g3,g4 =>
    obtain rfl:vs'=[]:=g3;exact ⟨x,⟨v,rfl,g1⟩,g2⟩
   |p'::r,y,g3,g4=>exact ⟨(x,y),⟨v,vs',λ_=>False,λ_=>False,rfl,λ_ h=>h,λ_ h=>h,λ_ h _=>h,g1,g3⟩,g2,g4⟩
theorem tG{W':World}{sp:Nat->Bool}(hw:∀ b,b < W.heap.size->W'.heap[b]?=W.heap[b]?):∀ {ts:List TypeId}{vs:List Value}{ds:List (DataW H)}{q:List MemPlace}{ps:List Par},DataW.TrodAll enc P W 0 (λ_=>true) true ts vs ds q ->
  qw P ts ps=true->(∀ p∈q,sp p.block=true)->DataW.TrodAll enc P W' 0 sp true ts vs ds q
 |[],vs,ds,q,ps,h,hc,hs=>by
  obtain ⟨rfl,rfl,rfl⟩:=trodAll_nil h;exact trodAll_mk0
 |t::ts,vs,ds,q,ps,h,hc,hs=>by
  obtain ⟨v,vs',d,ds',p1,p2,rfl,rfl,rfl,⟨fuel,h1⟩,h2⟩:=trodAll_cons h
  match ps,hc with
  |p::ps,hc =>
   simp only [qw,Bool.and_eq_true] at hc
   have hck:∃ τ,qj P 20 t τ=true:=by
    match p,hc.1 with
    |.val g (.frz τ),hc=>simp only [rZ,Bool.and_eq_true] at hc;exact ⟨_,hc.2⟩
    |.val g (.bor s),hc=>simp only [rZ,Bool.and_eq_true] at hc;exact ⟨_,hc.2.2⟩
   obtain ⟨τ,hck⟩:=hck;exact ⟨p1,p2,⟨fuel,rI hw fuel h1 hck λp hp=>hs p (List.mem_append_left _ hp)⟩,tG hw h2 hc.2 λp hp=>hs p (List.mem_append_right _ hp),rfl⟩
theorem u7{f:Func}{s:ChangeSpec}{apart fresh handsOn again:Bool}{W W':World}{args:Array Value}{v:Value}{ds gs:List (DataW H)}{before pa pv:List MemPlace}
  (hW:DataW.Whole enc P f.params.toList s.vars apart W args.toList ds gs before)
  (hres:∀ (b:Nat) (sp:Nat->Bool) (hd:Bool),DataW.TrodAll enc P W' b sp hd f.resultTypes.toList (v.resultList f.resultTypes.size) (s.fn H (ds++gs)).results [])
  (hargs:∀ sp:Nat->Bool,(∀ p∈before,sp p.block=true)->DataW.TrodAll enc P W' 0 sp true f.params.toList args.toList (s.fn H (ds++gs)).args pa)
  (hvars:∀ sp:Nat->Bool,(∀ p∈before,sp p.block=true)->DataW.TrodVars enc P W' sp s.vars (s.fn H (ds++gs)).vars pv)
  (hps:before=pa++pv) (hk:W.keptBut W' (·∈before)) (hfz:∀ a,a.block < W.heap.size->W'.frozen? a=W.frozen? a)
  (hok:∀ (j:Nat) (t:TypeId) (r:Value),f.resultTypes[j]?=some t->(v.resultList f.resultTypes.size)[j]?=some r->Value.okWide P W' .any 0 t r) :
  s.post enc P f apart fresh handsOn again W args v W':=by
 have hold:∀ p∈before,(λb=>decide (b < W.heap.size)) p.block=true:=λp hp=>by simpa using hW.lt p hp
 have hlt:=hW.lt;refine ⟨ds,gs,before,[],pa,pv,hW,hres _ _ _,hargs _ hold,hvars _ hold,World.keptBut_mono (λp hp=>⟨hp,?_⟩) hk,λ_=>?_⟩
 ·rw [hps,List.mem_append] at hp;exact Or.inr hp
 ·obtain ⟨_,_,_,_,_,hz,hn⟩:=hW;refine ⟨hok,_,_,([]++pa)++pv,⟨[]++pa,pv,trodAll_append (hargs _ (λ_ _=>rfl)) (hres _ _ _),hvars _ (λ_ _=>rfl),rfl,?_,?_⟩,?_⟩
  ·intro b off hp
   have hp':MemPlace.cell b off∈before:=by rw [hps];simpa using hp
   rw [hfz _ (hlt _ hp')];exact hz b off hp'
  ·intro ha;have:=hn ha;rw [hps] at this;simpa using this
  ·intro p hp _;rw [hps];simpa using hp
theorem Bu{W':World}{a:Addr}(hw:W'.heap[a.block]?=W.heap[a.block]?):W'.frozen? a=W.frozen? a:=by
 simp only [World.frozen?,hw]
theorem HP{f:FuncId}{fn:Func}{ps:List Par}{run:kO (ps.map Par.v)->Res (outs Bool (boxes ps))}{s:ChangeSpec}{apart fresh handsOn again:Bool}{tb:TypeId}
  {G:rV}(hct:j9 P G ⟨f,ps,[(false,.frz .bool)],run⟩) (hck:qw P fn.params.toList ps=true) (hN:N<=2^20) (hvars:s.vars=[]) (hrt:fn.resultTypes=#[tb]) (htb:P.underlying tb=some .bool)
  (hspec:∀ ds:List (DataW H),ds.length=fn.params.toList.length->s.fn H ds={ results:=[.lit (.bool true)],args:=ds })
  (hlaw:∀ x,smalls N (ps.map Par.v) x->(run x).sat λy=>ld (boxes ps) y=true)
  (S:Sm N sm) (hG:G.At W (Old W)){base:Nat}{args:Array Value}{ds gs:List (DataW H)}{before:List MemPlace}
  (hval:∀ (j:Nat) t v,fn.params[j]?=some t->args[j]?=some v->Value.okWide P W .any base t v)
  (hW:DataW.Whole enc P fn.params.toList s.vars apart W args.toList ds gs before) (hsm:∀ d∈ds,sm d) :
  Calls P f args W λe W'=>∃ v,e=.returned v/\s.post enc P fn apart fresh handsOn again W args v W':=by
 have hW':=hW;obtain ⟨p,q,hA,hV,hpq,_,_⟩:=hW;rw [hvars] at hV;obtain ⟨hgs,hq⟩:=trodVars_none hV;obtain ⟨x,hx,hxs⟩:=ue S hN hA (λj t v ht hv=>hval j t v (by simpa using ht) (by simpa using hv)) hck hsm
 have hlen:ds.length=fn.params.toList.length:=by
  have:∀ {ts:List TypeId}{vs:List Value}{ds:List (DataW H)}{ps:List MemPlace},DataW.TrodAll enc P W 0 (λ_=>true) true ts vs ds ps->ds.length=ts.length:=by
   intro ts
   induction ts with
   |nil=>intro vs ds ps h;obtain ⟨_,rfl,_⟩:=trodAll_nil h;rfl
   |cons t ts ih=>intro vs ds ps h;obtain ⟨_,_,_,_,_,_,_,rfl,_,_,h2⟩:=trodAll_cons h;simp [ih h2]
  exact this hA
 have hsp:=hspec ds hlen;have hcall:=hct.run W (Old W) (λ_=>False) (λ_=>False) args.toList x _ (hlaw x hxs) hG (λ_ h=>h) (λ_ h=>h.elim) (λ_ h=>h.elim) hx
 have harr:args.toList.toArray=args:=by simp
 rw [harr] at hcall;refine hcall.mono ?_;rintro e W' ⟨y,v,jX,Z',S1,S2,rfl,hy,hret,hv1,_,_,_,_,_,hsz,hkeep,hio⟩;have hkeep':∀ b,b < W.heap.size->W'.heap[b]?=W.heap[b]?:=λb hb=>hkeep b hb λh=>h
 have hvb:v=.bool true:=by
  obtain ⟨v',rfl,us,hf,_,hsr⟩:=hv1;have hret:[v']=[v]:=hret;cases hret;have hf:us=[v]:=hf;have hsr:us=[.bool (ld (boxes ps) y)]:=hsr;rw [hf,hy] at hsr;simpa using hsr
 subst hvb;refine ⟨_,rfl,u7 (pa:=p) (pv:=q) hW' ?_ ?_ ?_ hpq ⟨hio.1,hio.2.1,λi hi=>?_⟩ (λa ha=>Bu (hkeep' _ ha)) (ok_one hrt rfl (okWide_bool_mk htb _))⟩
 ·intro b sp hd;rw [hgs,List.append_nil,hsp,hrt];exact trodAll_mk1 (shut_bool htb _)
 ·intro sp hsp';rw [hgs,List.append_nil,hsp];exact tG hkeep' hA hck λp hp=>hsp' p (by rw [hpq];exact List.mem_append_left _ hp)
 ·intro sp _;rw [hgs,List.append_nil,hsp,hvars,hq];rfl
 ·rw [hkeep' i hi]
  split<;>simp_all
theorem FF{f:FuncId}{fn:Func}{ps:List Par}{run:kO (ps.map Par.v)->Res (outs Bool (boxes ps))}{s:ChangeSpec}{apart fresh handsOn again:Bool}{tb:TypeId}
  {G:rV}(hct:j9 P G ⟨f,ps,[(false,.frz .bool)],run⟩) (hck:qw P fn.params.toList ps=true) (hN:N<=2^20) (hvars:s.vars=[]) (hrt:fn.resultTypes=#[tb]) (htb:P.underlying tb=some .bool)
  (hspec:∀ ds:List (DataW H),ds.length=fn.params.toList.length->s.fn H ds={ results:=[.lit (.bool true)],args:=ds })
  (hlaw:∀ x,smalls N (ps.map Par.v) x->mG (run x) λy=>ld (boxes ps) y=true)
  (S:Sm N sm) (hG:G.At W (Old W)){base:Nat}{args:Array Value}{ds gs:List (DataW H)}{before:List MemPlace}
  (hval:∀ (j:Nat) t v,fn.params[j]?=some t->args[j]?=some v->Value.okWide P W .any base t v)
  (hW:DataW.Whole enc P fn.params.toList s.vars apart W args.toList ds gs before) (hsm:∀ d∈ds,sm d) :
  Calls P f args W λe W'=>∃ v,e=.returned v/\s.post enc P fn apart fresh handsOn again W args v W' :=
 HP hct hck hN hvars hrt htb hspec (λx hx=>(hlaw x hx).ok) S hG hval hW hsm
end
end Go.Mach

namespace Go.Mach
theorem DV{P:Program}{c:OpenClaim}(h:P.funcs.any Func.goes=false)(hs:c.start=.entering):false=c.goesBy P:=by
 have h1:∀ g:Nat,(P.funcs[g]?).any Func.goes=false:=λg=>by
  cases hg:P.funcs[g]? with
  |none=>rfl
  |some fn=>simpa using (Array.any_eq_false'.1 h) fn (Array.mem_of_getElem? hg)
 have h2:∀ f,P.goes f=false:=λf=>by
  unfold Program.goes;rw [h,Bool.and_false,Bool.or_false,List.any_eq_false]
  exact λg _=>by rw [h1 g];decide
 have h3:P.goesFrom c.func=false:=by
  unfold Program.goesFrom
  cases P.funcNamed c.func with
  |none=>rfl
  |some f=>exact h2 f
 unfold OpenClaim.goesBy Program.goesAt;rw [h3,hs];rfl
end Go.Mach

