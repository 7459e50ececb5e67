/-
  Proved here: the law renlaw12.EvalOnce returns true for every input of the stated bulk and leaves its arguments as they were; no further condition.
  By an AI agent; no person has read it.
-/
import Derived.Test.YtfmfdkbpemiocaaGreatDoorQab
import Derived.Test.YtfmfdkbpemiocaaGreatDoorQad
import Derived.Test.YtfmfdkbpemiocaaGreatDoorQas
import Derived.Lib.ItoaLen
import Derived.Lib.AtoiErrMem
import Derived.Lib.AtoiAllCases
set_option linter.all false
set_option linter.deprecated false
set_option maxRecDepth 10000
namespace Go.Mach
open Go.Proofs Go.Shelf
theorem gPow:Tryz.prog.globalNamed "internal/strconv.uint64pow10"=some 2:=by kernel_rfl
theorem gSyn:Tryz.prog.globalNamed "strconv.ErrSyntax"=some 6:=by kernel_rfl
theorem gRng:Tryz.prog.globalNamed "strconv.ErrRange"=some 7:=by kernel_rfl
def yb:rV where
 n:=8
 holds w:=Lib.TabIs Tryz.prog w "internal/strconv.uint64pow10" .u64 Lib.pow10Tab /\
  (∃ tp p,World.var? Tryz.prog w "strconv.ErrSyntax"=some #[.iface tp p])/\∃ tp p,World.var? Tryz.prog w "strconv.ErrRange"=some #[.iface tp p]
 mono:=λw w' h ⟨h2,⟨t3,p3,h3⟩,t4,p4,h4⟩=>by
  refine ⟨?_,⟨t3,p3,?_⟩,t4,p4,?_⟩
  ·simp only [Lib.TabIs,World.var?,gPow,Option.bind_some,h 2 (by decide)] at h2 ⊢;exact h2
  ·simp only [World.var?,gSyn,Option.bind_some,h 6 (by decide)] at h3 ⊢;exact h3
  ·simp only [World.var?,gRng,Option.bind_some,h 7 (by decide)] at h4 ⊢;exact h4
theorem E0{n:Int}(h:eP .i64 n=true):-9223372036854775808<=n/\n<=9223372036854775807:=by
 have h:IntKind.wrap .i64 n=n:=by simpa [eP] using h
 have h1:∀ m,-9223372036854775808<=IntKind.wrap .i64 m/\IntKind.wrap .i64 m<=9223372036854775807:=by
  intro m
  have e:IntKind.wrap .i64 m=(m+2^63) % 2^64-2^63:=by
   simp only [IntKind.wrap,IntKind.signed,IntKind.bits];first|rfl|(simp;try omega)
  rw [e]
  constructor<;>omega
 rw [<- h];exact h1 n
theorem Ez{n:Int}(h0:-9223372036854775808<=n)(h1:n<=9223372036854775807):eP .i64 n=true:=by
 have e:IntKind.wrap .i64 n=(n+2^63) % 2^64-2^63:=by
  simp only [IntKind.wrap,IntKind.signed,IntKind.bits];first|rfl|(simp;try omega)
 simp only [eP,e,beq_iff_eq];omega
theorem HE{n:Nat}(h:lJ n=true):n<=140737488355328:=by
 simp only [lJ,decide_eq_true_eq] at h;omega
theorem HV{n:Nat}(h:n<=140737488355328):lJ n=true:=by
 simp only [lJ,decide_eq_true_eq];omega
theorem JK{w:World}{Z Y S:Nat->Prop}{v:Value}{x:List UInt8}(h:tF w Z Y (false,.frz .str) v x S):v=lg x/\lJ x.length=true:=by
 obtain ⟨us,h1,h2,h3⟩:=h;have h1:us=[v]:=h1;subst h1;have h3:[v]=[lg x]/\lJ x.length=true:=h3;exact ⟨by simpa using h3.1,h3.2⟩
theorem Jj{w:World}{Z Y S:Nat->Prop}{v:Value}{x:Int}(h:tF w Z Y (false,.frz (.int .i64)) v x S):v=.int .i64 x/\eP .i64 x=true:=by
 obtain ⟨us,h1,h2,h3⟩:=h;have h1:us=[v]:=h1;subst h1;have h3:[v]=[.int .i64 x]/\eP .i64 x=true:=h3;exact ⟨by simpa using h3.1,h3.2⟩
theorem str_mk{w:World}{Z Y S:Nat->Prop}{x:List UInt8}(h:lJ x.length=true):tF w Z Y (false,.frz .str) (lg x) x S:=⟨[lg x],rfl,rfl,rfl,h⟩
theorem int_mk{w:World}{Z Y S:Nat->Prop}{x:Int}(h:eP .i64 x=true):tF w Z Y (false,.frz (.int .i64)) (.int .i64 x) x S:=⟨[.int .i64 x],rfl,rfl,rfl,h⟩
theorem err_mk{w:World}{Z Y S:Nat->Prop}{v:Value}{b:Bool}(h1:v.cells=#[v])(h:Cl b v):tF w Z Y (false,.err) v b S:=⟨[v],rfl,rfl,v,rfl,h⟩
theorem yi{w w':World}{Z S:Nat->Prop}{ps:List Par}{rs:List VSh}{args:List Value}{e:Ending}{v:Value}{jX:List Value}{Ψ:outs (kO rs) (boxes ps)->Prop}{y:outs (kO rs) (boxes ps)}
  (he:e=.returned v) (hΨ:Ψ y) (hret:zN rs v jX) (hv:lY w' Z (λ_=>False) rs jX (ld (boxes ps) y) (λ_=>False)) (ho:mX w' Z (λ_=>False) ps args y (λ_=>False))
  (hZ:∀ b,Z b->b < w.heap.size) (hsz:w.heap.size<=w'.heap.size) (hk:∀ b,b < w.heap.size->w'.heap[b]?=w.heap[b]?) (hio:Io w w') :
  ∃ y v jX,∃ Z' S1 S2:Nat->Prop,e=.returned v/\Ψ y/\zN rs v jX /\
   lY w' Z' (λ_=>False) rs jX (ld (boxes ps) y) S1/\mX w' Z' (λ_=>False) ps args y S2/\(∀ d,S1 d->S2 d->False) /\
   (∀ b,S1 b\/S2 b->b < w'.heap.size/\¬ Z' b/\(S b\/w.heap.size<=b))/\(∀ b,Z b->Z' b)/\(∀ b,Z' b->b < w'.heap.size/\(Z b\/S b\/w.heap.size<=b)) /\
   w.heap.size<=w'.heap.size/\(∀ b,b < w.heap.size->¬ S b->w'.heap[b]?=w.heap[b]?)/\Io w w' :=
 ⟨y,v,jX,Z,λ_=>False,λ_=>False,he,hΨ,hret,hv,ho,λ_ h=>h.elim,λb hb=>by rcases hb with hb|hb<;>exact hb.elim,λ_ h=>h,λb hb=>⟨Nat.lt_of_lt_of_le (hZ b hb) hsz,.inl hb⟩,hsz,λb hb _=>hk b hb,hio⟩
theorem HQ:j9 Tryz.prog yb (sy 122):=by
 refine ⟨⟨Tryz.f122,by kernel_rfl,by kernel_rfl,by kernel_rfl⟩,rfl,λw Z Y S args x Ψ hsat hG hZ hY hS hV=>?_⟩;obtain ⟨v,rfl,hv⟩:=hV;have hv:tF w Z Y (false,.frz (.int .i64)) v x S:=hv;obtain ⟨rfl,hr⟩:=Jj hv;obtain ⟨h0,h1⟩:=E0 hr;have hΨ:Ψ (Lib.itoa x):=hsat;have hc:=Any.strconv_Itoa I7 x h0 h1 w hG.1.1;change Calls Tryz.prog 122 _ _ _ at hc;refine hc.mono ?_;rintro e w' ⟨rfl,k,os,rfl⟩;refine yi (ps:=rh.ps) (rs:=rh.rs) rfl hΨ rfl ⟨lg (Lib.itoa x),rfl,str_mk (HV (Nat.le_trans (Lib.itoa_length_le x h0 h1) (by omega)))⟩ ⟨_,_,rfl,trivial⟩ hZ ?_ ?_ ⟨rfl,rfl,rfl⟩
 ·show w.heap.size<=(w.heap++os).size;rw [Array.size_append];omega
 ·intro b hb;show (w.heap++os)[b]?=_;rw [Array.getElem?_append_left hb]
theorem yJ(l:List UInt8):eP .i64 (Lib.atoiSat l)=true:=by
 unfold Lib.atoiSat
 split<;>decide
theorem GZ:j9 Tryz.prog yb (s7 431):=by
 refine ⟨⟨Tryz.f431,by kernel_rfl,by kernel_rfl,by kernel_rfl⟩,rfl,λw Z Y S args x Ψ hsat hG hZ hY hS hV=>?_⟩;obtain ⟨v,rfl,hv⟩:=hV;have hv:tF w Z Y (false,.frz .str) v x S:=hv;obtain ⟨rfl,hr⟩:=JK hv;have hx:=HE hr;have hsat:(qU x).sat Ψ:=hsat;unfold qU at hsat
 have fin:∀ (n:Int) (b:Bool) (u:Value) (w':World),eP .i64 n=true->Cl b u->u.cells=#[u]->Ψ (n,b)->RowKit.Below w.heap.size w w'->∃ y v jX,∃ Z' S1 S2:Nat->Prop,Ending.returned (.tuple #[.int .i64 n,u])=.returned v/\Ψ y/\zN qL.rs v jX /\
   lY w' Z' (λ_=>False) qL.rs jX (ld (boxes qL.ps) y) S1/\mX w' Z' (λ_=>False) qL.ps [lg x] y S2/\(∀ d,S1 d->S2 d->False) /\
   (∀ b,S1 b\/S2 b->b < w'.heap.size/\¬ Z' b/\(S b\/w.heap.size<=b))/\(∀ b,Z b->Z' b)/\(∀ b,Z' b->b < w'.heap.size/\(Z b\/S b\/w.heap.size<=b)) /\
   w.heap.size<=w'.heap.size/\(∀ b,b < w.heap.size->¬ S b->w'.heap[b]?=w.heap[b]?)/\Io w w':=λn b u w' h1 h2 h3 h4 h5 =>
  yi (ps:=qL.ps) (rs:=qL.rs) (jX:=[.int .i64 n,u]) rfl h4 rfl ⟨_,_,λ_=>False,λ_=>False,rfl,λ_ h=>h,λ_ h=>h,λ_ h _=>h,int_mk h1,_,rfl,err_mk h3 h2⟩ ⟨_,_,rfl,trivial⟩ hZ h5.size h5.block ⟨h5.os,h5.output,h5.tape⟩
 rcases ha:Lib.atoiAll x with n|_|_
 ·rw [ha] at hsat;obtain ⟨b1,b2⟩:=Lib.atoiAll_bounds ha;have hc:=Any.strconv_Atoi_ok zJ ⟨⟨x⟩⟩ (show x.length<=_ by omega) n ha w;change Calls Tryz.prog 431 _ _ _ at hc;refine hc.mono ?_;rintro e w' ⟨rfl,hw⟩;refine fin n true .nilIface w' (Ez b1 b2) (.inl ⟨rfl,rfl⟩) rfl hsat ?_;rcases hw with rfl|⟨t,rfl⟩
  ·exact ⟨rfl,rfl,rfl,Nat.le_refl _,λ_ _=>rfl⟩
  ·exact Lib.bytesWorld_below _ _ _
 ·rw [ha] at hsat;obtain ⟨tp,p,hp⟩:=hG.1.2.1;have hc:=Any.strconv_Atoi_syntax_var zJ ⟨⟨x⟩⟩ (show x.length<=_ by omega) ha tp p w hp;change Calls Tryz.prog 431 _ _ _ at hc;refine hc.mono ?_;rintro e w' ⟨N,rfl,_,_,hb⟩;exact fin 0 false _ w' (by decide) (.inr ⟨rfl,_,_,rfl⟩) rfl hsat hb
 ·rw [ha] at hsat;obtain ⟨tp,p,hp⟩:=hG.1.2.2;have hc:=Any.strconv_Atoi_range_var zJ ⟨⟨x⟩⟩ (show x.length<=_ by omega) ha tp p w hp;change Calls Tryz.prog 431 _ _ _ at hc;refine hc.mono ?_;rintro e w' ⟨N,rfl,_,_,hb⟩;exact fin (Lib.atoiSat x) false _ w' (yJ x) (.inr ⟨rfl,_,_,rfl⟩) rfl hsat hb
end Go.Mach

