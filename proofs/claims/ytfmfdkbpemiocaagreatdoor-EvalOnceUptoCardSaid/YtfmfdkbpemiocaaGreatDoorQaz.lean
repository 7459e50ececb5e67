/-
  Proved here: the law renlaw12.EvalOnce returns true for every input of the stated bulk and leaves its arguments as they were; no further condition.
  By an AI agent; no person has read it.
-/
import Derived.Test.YtfmfdkbpemiocaaGreatDoorQay
set_option linter.all false
set_option linter.deprecated false
set_option maxRecDepth 100000
namespace Go.Mach
open Res
structure jU (C:Cx):Prop where
 tr:pg C.N
 fw:rW C.N
 od:rT C.N C.N.length
 F:C.F<=3000
 D:C.D<=200
 A:C.A.length<=2^40
section
variable {C:Cx}{m b:Int}{s:RunT}
theorem jV(h:gy C m s){n:Int}{x:eT}{β:Type}{Q:β->Prop}{k:eT->Res β}(h0:0<=n)(hx:C.N[n.toNat]?=some x)(hk:(k x).sat Q):(idx aE s.1 n k).sat Q:=by
 have e:s.1=C.N:=h.nd;rw [e];refine ba h0 (List.getElem?_eq_some_iff.1 hx).1 λy hy _=>?_;have:some x=some y:=hx.symm.trans hy;cases this;exact hk
theorem uF(h:gy C m s)(hm:m+1<=2^39){i:Int}{n:List Int}{v:dZ}(hv:b8 v):(R.bc s.2.2.2.2.1 i n v).sat λr=>Aft C (m+1) s.2.2.2.2.2.2.1 s (s.1,(s.2.1,(s.2.2.1,(s.2.2.2.1,(r.2,s.2.2.2.2.2))))):=by
 obtain ⟨B,h1,h2,h3⟩:=h.heap (by omega);exact bG (put_ok h1 h2 hv) λr ⟨r1,r2⟩=>⟨h.put r1 (by omega),r2,rfl,Int.le_refl _⟩
theorem qF(h:gy C m s)(hm:m+1<=2^39){i:Int}{n:List UInt8}{v:dZ}{r f:Bool}(hv:b8 v):(R.bE s.2.2.2.2.1 i n v r f).sat λr=>Aft C (m+1) s.2.2.2.2.2.2.1 s (s.1,(s.2.1,(s.2.2.1,(s.2.2.2.1,(r.2,s.2.2.2.2.2))))):=by
 obtain ⟨B,h1,h2,h3⟩:=h.heap (by omega);exact bG (Cy h1 h2 hv) λr ⟨r1,r2⟩=>⟨h.put r1 (by omega),r2,rfl,Int.le_refl _⟩
theorem wu(h:gy C m s)(hm:m<=2^39){i:Int}{n:List UInt8}{v:dZ}{r:Bool}(hv:b8 v):(R.cN s.2.2.2.2.1 i n v r).sat λr=>Aft C m s.2.2.2.2.2.2.1 s (s.1,(s.2.1,(s.2.2.1,(s.2.2.2.1,(r.2,s.2.2.2.2.2))))):=by
 obtain ⟨B,h1,h2,h3⟩:=h.heap hm;exact bG (KK h1 h2 hv) λr ⟨r1,r2⟩=>⟨h.put r1 h3,r2,rfl,Int.le_refl _⟩
theorem vY(h:gy C m s)(hm:m+2<=2^39){n:Int}(hn:FnI C.N n){e:aM.den}(he:b8 e.2.1):(R.cC s n e).sat (cy C (m+2) s.2.2.2.2.2.2.1 s):=by
 unfold R.cC;obtain ⟨n0,x,hx,hk⟩:=hn;refine aA λ_=>jV h n0 hx (aB (dw0:Safe _).ok λown _=>?_)
 refine aB (R:=λr:(aJ.den×gu.den) ⊕ (Int×(aJ.den×aC.den))=>match r with|.inl r=>Aft C (m+1) s.2.2.2.2.2.2.1 s r.1/\∃ sc,r.2=(3,(0,(([]:List bO.den),(([]:List bH.den),(([]:List UInt8),(n,(sc,((0,((0,0),((false,([]:List Int)),(([]:List Int),0)))),(0,(0,(0,(0,([]:List Int)))))))))))))|.inr r=>b8 r.2.2/\Pst C (m+2) s.2.2.2.2.2.2.1 s r.1 r.2.1) (aG (λ_=>aB (qP h (by omega)) λr1 ⟨g1,g2⟩=>aA λ_=>eD (bK (λe1=>?_) λ_=>aD ⟨bn,g1.mono (by omega) (Int.le_refl _)⟩)) λ_=>aD ⟨(Aft.refl h).mono (by omega) (Int.le_refl _),_,rfl⟩) λr hr=>?_
 ·have a1:=g1.aft (by rw [e1];decide);exact aB (qF a1.run (by omega) bn) λr2 a2=>aA λ_=>aD ⟨a1.trans ⟨a2.run,a2.ext,a2.dp,Int.le_trans a1.bg a2.bg⟩,_,rfl⟩
 cases r with
 |inr r=>exact iv (aD ⟨hr.1,hr.2⟩)
 |inl r =>
  obtain ⟨s1,c⟩:=r;obtain ⟨a1,sc,hc⟩:=hr;have hc:c=_:=hc;subst hc;refine iy (aB (R:=λc:gu.den=>c.1=3/\c.2.2.1=[]/\c.2.2.2.1=[]/\c.2.2.2.2.2.1=n/\b8 c.2.2.2.2.2.2.2.1/\c.2.2.2.2.1.length<=4096) (aB (dw0:Safe _).ok λ_ _=>aG (λ_=>aD ⟨rfl,rfl,rfl,rfl,he,Nat.zero_le _⟩) λ_=>aG (λ_=>aD ⟨rfl,rfl,rfl,rfl,bn,Nat.zero_le _⟩) λ_=>aD ⟨rfl,rfl,rfl,rfl,bn,Nat.zero_le _⟩) λc ⟨c1,c2,c3,c4,c5,c6⟩=>?_);have k3:∀ k:Int,k≠3->c.1≠k:=λk hk e=>hk (e.symm.trans c1);refine aB (pS a1.run (by omega) ⟨λ_=>by rw [c4];exact ⟨n0,x,hx,hk⟩,λe=>absurd e (k3 5 (by decide)),λe=>absurd e (k3 6 (by decide)),λe=>absurd e (k3 7 (by decide)),λe=>absurd e (k3 8 (by decide))⟩ λB _=>⟨by rw [c2];exact Nat.zero_le _,by rw [c3];exact Nat.zero_le _,by rw [c2];simp,by rw [c3];simp,c5,c6⟩) λr2 ⟨⟨g1,g2⟩,g3⟩=>aA λ_=>aB (R:=λb=>b=false->r2.1.2=0) (eD (bK (λe=>aD λ_=>e) λ_=>aD λe=>by cases e)) λb hb=>?_;have p2:Pst C (m+1) s.2.2.2.2.2.2.1 s r2.1.2 r2.2:=Pst.after a1 (g2.mono (Int.le_refl _) a1.bg);refine aG (λ_=>aD ⟨g1,p2.mono (by omega) (Int.le_refl _)⟩) λe=>?_;have a2:=p2.aft (by rw [hb e];decide);refine aB (pS a2.run (by omega) (.mk' 1 rfl (by decide)) λB _=>⟨Nat.zero_le _,Nat.zero_le _,by simp,by simp,bn,Nat.zero_le _⟩) λr3 ⟨⟨f1,f2⟩,f3⟩=>aA λ_=>?_;have p3:Pst C (m+1) s.2.2.2.2.2.2.1 s r3.1.2 r3.2:=Pst.after a2 (f2.mono (Int.le_refl _) a2.bg);refine eD (bK (λe=>?_) λ_=>aD ⟨f1,p3.mono (by omega) (Int.le_refl _)⟩);have a3:=p3.aft (by rw [e];decide);refine aB (dc (by decide)) λu _=>aA λ_=>aB (uF a3.run (by omega) f1) λr4 a4=>aA λ_=>?_;have a5:Aft C (m+2) s.2.2.2.2.2.2.1 s _:=a3.trans ⟨(a4.mono (m':=m+2) (b':=s.2.2.2.2.2.2.1) (by omega) (Int.le_trans a3.bg (Int.le_refl _))).run,a4.ext,a4.dp,Int.le_trans a3.bg a4.bg⟩;refine aG (λ_=>aB (wu a5.run (by omega) g1) λr6 a6=>aA λ_=>aD ⟨g1,.inr ⟨show (0:Int)≠5 by decide,a5.trans ⟨a6.run,a6.ext,a6.dp,Int.le_trans a5.bg a6.bg⟩⟩⟩) λ_=>aD ⟨g1,.inr ⟨show (0:Int)≠5 by decide,a5⟩⟩
end
theorem G8:R.gp.sat λr=>r.length<=100:=by
 unfold R.gp;exact aA λ_=>aD (by decide)
theorem qZ{α:Type}{r:Res α}{P:α->Bool}(h:(r.strip.map P)=some true):r.sat λx=>P x=true:=by
 cases hr:r.strip with
 |none=>rw [hr] at h;cases h
 |some x =>
  rw [hr] at h
  exact bG (pH hr rfl) λy hy=>by subst hy;simpa using h
theorem xz:R.dD.sat λr=>decide (r.length<=100)=true:=qZ (by kernel_rfl)
instance Jr{a}:Safe (R.kh a):=by unfold R.kh;exact dw0
theorem o9{n:List UInt8}:(R.dP n).sat λr=>r.1=6:=by
 unfold R.dP;exact aA λ_=>aB xz λr _=>aA λ_=>q_b λ_=>aA λ_=>aD rfl
theorem ni{a:aI.den}:(R.cn a).sat λr=>r.1=3:=by
 unfold R.cn;exact aA λ_=>aD rfl
theorem qh{a:aj.den}:(R.ed a).sat λr=>r.1=4:=by
 unfold R.ed;exact aA λ_=>aD rfl
theorem lA{a:Bool}:(R.bP a).sat λr=>r.1=2:=by
 unfold R.bP;exact aA λ_=>aG (λ_=>aD rfl) λ_=>aD rfl
theorem vk{v:dZ}{k:Int}(e:v.1=k)(h:k≠5:=by decide):b8 v:=.of (by rw [e];exact h)
theorem Ab{n:List UInt8}:(R.iX n).sat λr=>b8 r.1:=by
 unfold R.iX;exact aA λ_=>aG (λ_=>aD bn) λ_=>aG (λ_=>aB ni λr hr=>aA λ_=>aD (vk hr)) λ_=>aG (λ_=>aB ni λr hr=>aA λ_=>aD (vk hr)) λ_=>aB G8 λl _=>aA λ_=>q_b λ_=>aG (λ_=>aB o9 λr hr=>aA λ_=>aD (vk hr)) λ_=>aD bn
section
variable {C:Cx}{m b:Int}{s:RunT}
theorem Pst.ret(h:gy C m s):Pst C m s.2.2.2.2.2.2.1 s 0 s:=.inr ⟨by decide,.refl h⟩
theorem Aw(h:gy C m s)(hm:m<=2^39){n:List UInt8}{e:aM.den}{l:Bool}:(R.dB s n e l).sat (cy C m s.2.2.2.2.2.2.1 s):=by
 unfold R.dB;obtain ⟨B,h1,h2,h3⟩:=h.heap hm;exact aA λ_=>aB (Dh h1 h2) λr hr=>aA λ_=>aB (dw0:Safe _).ok λ_ _=>aG (λ_=>aB (nZ h hm) λr hr=>aA λ_=>aD hr.1) λ_=>aG (λ_=>aD ⟨hr,.ret h⟩) λ_=>aB Ab λr hr=>aA λ_=>aG (λ_=>aD ⟨hr,.ret h⟩) λ_=>q_b λ_=>aG (λ_=>aB (fe h) λr hr=>aA λ_=>aD hr) λ_=>aG (λ_=>aD ⟨bn,.ret h⟩) λ_=>aB (nZ h hm) λr hr=>aA λ_=>aD hr.1
theorem EK(h:gy C m s)(hm:m<=2^39){n:List UInt8}{e:aM.den}:(R.da s n e).sat (cy C m s.2.2.2.2.2.2.1 s):=by
 unfold R.da;exact aA λ_=>aB (Aw h hm) λr hr=>aA λ_=>aD hr
theorem Er(h:gy C m s)(hm:m<=2^39){n:List UInt8}{v:dZ}(hv:b8 v){e:aM.den}:(R.dk s n v e).sat (cy C m s.2.2.2.2.2.2.1 s):=by
 unfold R.dk;obtain ⟨B,h1,h2,h3⟩:=h.heap hm;exact aA λ_=>aB (Dh h1 h2) λr hr=>aA λ_=>aB (dw0:Safe _).ok λ_ _=>aG (λ_=>aB (nZ h hm) λr hr=>aA λ_=>aD hr.1) λ_=>aB (dw0:Safe _).ok λ_ _=>aG (λ_=>aB (nZ h hm) λr hr=>aA λ_=>aD hr.1) λ_=>aG (λ_=>aB (wu h hm hv) λr hr=>aA λ_=>aD ⟨hv,.inr ⟨show (0:Int)≠5 by decide,hr⟩⟩) λ_=>aB Ab λr hr=>aA λ_=>aB (dw0:Safe _).ok λ_ _=>aG (λ_=>aB (fe h) λr hr=>aA λ_=>aD hr) λ_=>aB (nZ h hm) λr hr=>aA λ_=>aD hr.1
theorem Jl(h:gy C m s)(hm:m<=2^39){e:aM.den}:(R.cw s e).sat λr=>r.1.1.2=e.2/\Pst C m s.2.2.2.2.2.2.1 s r.1.2 r.2/\(r.1.2≠5->r.1.2=0):=by
 unfold R.cw;obtain ⟨B,h1,h2,h3⟩:=h.heap hm;refine aA λ_=>aB (JH h1 h2) λr hr=>aA λ_=>aB (pS h hm (.mk' 9 rfl (by decide)) λB' hB'=>?_) λr2 ⟨g1,g2⟩=>aA λ_=>aD ⟨rfl,g1.2,λe=>(g2 e).1⟩;rcases hr with ⟨_,e⟩|⟨_,i0,hi⟩
 ·exact ⟨Nat.zero_le _,by show (List.length r.1.2.2.2.1)<=_;rw [e];exact Nat.zero_le _,by simp,by show ∀ p∈r.1.2.2.2.1,_;rw [e];simp,bn,Nat.zero_le _⟩
 ·have hv:=(hB'.cl _ _ hi).2;exact ⟨Nat.zero_le _,hv.sn,by simp,hv.sv,bn,Nat.zero_le _⟩
theorem JC{a:Int}:a*(20003-a)<=100100000:=by
 have h:0<=(a-10001)*(a-10001):=by
  rcases Int.le_total 0 (a-10001) with h|h
  ·exact Int.mul_nonneg h h
  ·exact Int.mul_nonneg_of_nonpos_of_nonpos h h
 have e1:(a-10001)*(a-10001)=a*a-10001*a-10001*a+100020001:=by rw [Int.sub_mul,Int.mul_sub,Int.mul_sub];omega
 have e2:a*(20003-a)=a*20003-a*a:=Int.mul_sub _ _ _
 have h3:a<=20000\/20000 < a:=by omega
 rcases h3 with h3|h3
 ·omega
 ·have:a*(20003-a)<=a*3:=Int.mul_le_mul_of_nonneg_left (by omega) (by omega);by_cases h4:a<=20003
  ·omega
  ·have:a*(20003-a)<=a*0:=Int.mul_le_mul_of_nonneg_left (by omega) (by omega);omega
theorem sJ(hc:jU C)(h:gy C m s)(hm:m+100100000<=2^39){n:Int}{x:eT}(n0:0<=n)(hx:C.N[n.toNat]?=some x){e:aM.den}(he:b8 e.2.1):(R.cA s n e).sat (cy C (m+100100000) s.2.2.2.2.2.2.1 s):=by
 unfold R.cA;have hk:=hc.fw.one _ x hx;have hg:=hc.tr.nod _ x hx;refine aA λ_=>jV h n0 hx ?_;obtain ⟨a,ha⟩:∃ a:Int,a=(x.2.2.2.2.2.length:Int):=⟨_,rfl⟩;obtain ⟨c,hcc⟩:∃ c:Int,c=20003-a:=⟨_,rfl⟩;have hac:a*c<=100100000:=hcc▸JC;have hle:∀ i:Int,i<=a->i*c<=100100000:=λi hi=>Int.le_trans (Int.mul_le_mul_of_nonneg_right hi (by omega)) hac
 refine aB (gQ (Q:=λr:aJ.den ⊕ (Int×(aJ.den×aC.den))=>match r with|.inl s'=>Aft C (m+100100000) s.2.2.2.2.2.2.1 s s'|.inr r=>b8 r.2.2/\Pst C (m+100100000) s.2.2.2.2.2.2.1 s r.1 r.2.1) (λx=>x.1) x.2.2.2.2.2.length (by omega) (λy=>Aft C (m+y.1*c) s.2.2.2.2.2.2.1 s y.2) (by simp) (by simp) (by simpa using Aft.refl h) λy y0 y1 yI=>?_) λr hr=>?_
 ·obtain ⟨i,s1⟩:=y;have y0:0<=i:=y0;have y1:i<=(x.2.2.2.2.2.length:Int):=y1;have yI:Aft C (m+i*c) s.2.2.2.2.2.2.1 s s1:=yI;have hi0:=hle i (by omega);refine ef (λhi=>?_) λ_=>aD (yI.mono (by omega) (Int.le_refl _));have hi:i < (x.2.2.2.2.2.length:Int):=hi
  have e1:(i+1)*c=i*c+c:=by rw [Int.add_mul,Int.one_mul]
  have hi1:=hle (i+1) (by omega);rw [e1] at hi1;have ew:w6 (i+1)=i+1:=wrap64 (by omega)
  have nxt:∀ {s'},Aft C (m+i*c+c) s.2.2.2.2.2.2.1 s s'->Aft C (m+(w6 (i+1))*c) s.2.2.2.2.2.2.1 s s':=λh=>by rw [ew,e1,<- Int.add_assoc];exact h
  refine ba y0 (by show _ < x.2.2.2.2.2.length;omega) λk hk' _=>?_;obtain ⟨k0,z,hz,_,hxz⟩:=hg.kid _ k hk';refine jV yI.run k0 hz (aB (dw0:Safe _).ok λ_ _=>aG (λ_=>?_) λ_=>bK (λh19=>?_) λ_=>aD ⟨rfl,hi,nxt (yI.mono (by omega) (Int.le_refl _))⟩)
  ·have hzk:=hc.fw.one _ z hz;have hzg:=hc.tr.nod _ z hz
   have hx':(x.2.2.2.2.2.length:Int)+(z.2.2.2.2.2.length:Int)<=20000:=by omega
   refine aB (gQ (Q:=λH:fK.den=>Aft C (m+i*c+c) s.2.2.2.2.2.2.1 s (s1.1,(s1.2.1,(s1.2.2.1,(s1.2.2.2.1,(H,s1.2.2.2.2.2)))))) (λx=>x.1) z.2.2.2.2.2.length (by omega) (λw=>Aft C (m+i*c+w.1) s.2.2.2.2.2.2.1 s (s1.1,(s1.2.1,(s1.2.2.1,(s1.2.2.2.1,(w.2,s1.2.2.2.2.2)))))) (by simp) (by simp) (by simpa using yI) λw w0 w1 wI=>?_) λH hH=>aD ⟨rfl,hi,nxt hH⟩;obtain ⟨j,H⟩:=w;have w0:0<=j:=w0;have w1:j<=(z.2.2.2.2.2.length:Int):=w1;have wI:Aft C (m+i*c+j) s.2.2.2.2.2.2.1 s (s1.1,(s1.2.1,(s1.2.2.1,(s1.2.2.2.1,(H,s1.2.2.2.2.2))))):=wI;refine ef (λhj=>?_) λ_=>aD (wI.mono (by omega) (Int.le_refl _));have hj:j < (z.2.2.2.2.2.length:Int):=hj;refine ba w0 (by show _ < z.2.2.2.2.2.length;omega) λk' hk'' _=>?_;obtain ⟨k'0,z',hz',_⟩:=hzg.kid _ k' hk'';refine jV yI.run k'0 hz' (aB (qF wI.run (by omega) bn) λr hr=>aA λ_=>aD ⟨rfl,hj,?_⟩);show Aft C (m+i*c+w6 (j+1)) _ _ _;rw [wrap64 (n:=j+1) (by omega),<- Int.add_assoc];exact wI.trans ⟨hr.run,hr.ext,hr.dp,Int.le_trans wI.bg hr.bg⟩
  ·refine aB (vY yI.run (by omega) ⟨k0,z,hz,.inl h19⟩ he) λr hr=>aA λ_=>?_;have p:Pst C (m+i*c+2) s.2.2.2.2.2.2.1 s r.1.2 r.2:=Pst.after yI (hr.2.mono (Int.le_refl _) yI.bg);refine eD (bK (λe=>?_) λ_=>aD ⟨hr.1,p.mono (by omega) (Int.le_refl _)⟩);have a1:=p.aft (by rw [e];decide);refine aB (qF a1.run (by omega) hr.1) λr2 a2=>aA λ_=>aD ⟨rfl,hi,nxt ?_⟩;exact (a1.trans ⟨a2.run,a2.ext,a2.dp,Int.le_trans a1.bg a2.bg⟩).mono (by omega) (Int.le_refl _)
 ·cases r with
  |inl s'=>exact iy (aD ⟨bn,.inr ⟨show (0:Int)≠5 by decide,hr⟩⟩)
  |inr r=>exact iv (aD ⟨hr.1,hr.2⟩)
end
end Go.Mach

set_option maxRecDepth 100000
namespace Go.Mach
open Res
theorem mY{k z:Int}(h:ElI k z):(R.cD k).sat (·=z):=by
 cases h<;>exact bG (qZ (P:=λr=>decide (r=_)) (by kernel_rfl)) λr hr=>of_decide_eq_true hr
theorem ElI.pos{k z:Int}(h:ElI k z):1<=z/\z<=8/\(z=1\/z=2\/z=4\/z=8):=by cases h<;>omega
theorem qf(x:Int){m:Nat}(hm:m < 2^64):0<=fM .and .u64 x (m:Int)/\fM .and .u64 x (m:Int)<=m:=by
 show 0<=IntKind.wrap .u64 _/\IntKind.wrap .u64 _<=_;have h0:(BitVec.ofInt 64 x &&& BitVec.ofInt 64 (m:Int)).toNat < 2^64:=BitVec.isLt _
 have h1:((BitVec.ofInt 64 x &&& BitVec.ofInt 64 (m:Int)).toNat)<=m:=by
  rw [BitVec.toNat_and];refine Nat.le_trans Nat.and_le_right ?_;rw [BitVec.toNat_ofInt];omega
 have h2:IntKind.wrap .u64 (((BitVec.ofInt 64 x &&& BitVec.ofInt 64 (m:Int)).toNat:Nat):Int)=(((BitVec.ofInt 64 x &&& BitVec.ofInt 64 (m:Int)).toNat:Nat):Int):=by
  generalize (BitVec.ofInt 64 x &&& BitVec.ofInt 64 (m:Int)).toNat=q at h0;simp only [IntKind.wrap,IntKind.signed,IntKind.bits];simp;omega
 rw [show IntKind.bits .u64=64 from rfl,h2]
 omega
def ug(z w:Int):Prop:=0<=w/\w < 18446744073709551616/\(z=8\/w < 2^(8*z).toNat)
theorem ug.zero(z:Int):ug z 0:=⟨by decide,by decide,.inr (Int.pow_pos (by decide))⟩
theorem cut_ok{k z w:Int}(h:ElI k z)(h0:0<=w)(h1:w < 18446744073709551616):(R.fD k w).sat (ug z):=by
 unfold R.fD;refine aA λ_=>aa (mY h) (aA λ_=>?_);cases h
 all_goals first
  |exact iC rfl (aD ⟨h0,h1,.inl rfl⟩)
  |exact jK rfl (bD rfl (aD ⟨(qf w (m:=255) (by decide)).1,by have:=(qf w (m:=255) (by decide)).2;exact Int.lt_of_le_of_lt this (by decide),.inr (Int.lt_of_le_of_lt (qf w (m:=255) (by decide)).2 (by decide))⟩))
  |exact jK rfl (bD rfl (aD ⟨(qf w (m:=65535) (by decide)).1,by have:=(qf w (m:=65535) (by decide)).2;exact Int.lt_of_le_of_lt this (by decide),.inr (Int.lt_of_le_of_lt (qf w (m:=65535) (by decide)).2 (by decide))⟩))
  |exact jK rfl (bD rfl (aD ⟨(qf w (m:=4294967295) (by decide)).1,by have:=(qf w (m:=4294967295) (by decide)).2;exact Int.lt_of_le_of_lt this (by decide),.inr (Int.lt_of_le_of_lt (qf w (m:=4294967295) (by decide)).2 (by decide))⟩))
theorem GM{k:Int}:(R.fU k).sat (·=decide (k=7\/k=8)):=by
 unfold R.fU;refine aA λ_=>bK (λh=>aD ?_) λh=>aD ?_
 ·rw [decide_eq_true (by omega)]
 ·show (k == 8)=_;by_cases hk:k=8
  ·subst hk;rfl
  ·rw [show (k == 8)=false from beq_false_of_ne hk,decide_eq_false (by omega)]
theorem Hz{a:aj.den}:(R.lv a).sat λw=>0<=w/\w < 18446744073709551616:=by
 unfold R.lv;refine aA λ_=>q_p λr hr=>aA λ_=>aB (gQ (Q:=λw:Int=>0<=w/\w < 18446744073709551616) (λx=>x.2) r.1.2.length (by omega) (λx=>0<=x.1/\x.1 < 18446744073709551616) (by simp) (by simp) (by simp) λx h0 h1 hI=>?_) λw hw=>aD hw;have h1:x.2<=(r.1.2.length:Int):=h1;refine ef (λhl=>?_) λ_=>aD hI;have hl:x.2 < (r.1.2.length:Int):=hl;refine ba h0 (by show _ < r.1.2.length;omega) λe _ _=>bD ?_ (aD ⟨rfl,hl,wrap_u64 _⟩);rw [wrap64 (by omega)];exact decide_eq_true (by omega)
theorem xA{k z:Int}(h:ElI k z){a:aI.den}:(R.gI k a).sat (ug z):=by
 unfold R.gI;exact aA λ_=>aB (dw0:Safe _).ok λ_ _=>aG (λ_=>aD (.zero z)) λ_=>aB (cut_ok h (wrap_u64 _).1 (wrap_u64 _).2) λw hw=>aA λ_=>aD hw
theorem xT{k z:Int}(h:ElI k z){a:aj.den}:(R.gF k a).sat (ug z):=by
 unfold R.gF;refine aA λ_=>aa GM (eD (aG (λe=>aB Hz λw hw=>aA λ_=>aD ⟨hw.1,hw.2,.inl ?_⟩) λ_=>aD (.zero z)));have:=of_decide_eq_true e
 cases h<;>first|rfl|omega
theorem zP{k z:Int}(h:ElI k z){v:dZ}:(R.iq k v).sat λr=>ug z r.1:=by
 unfold R.iq;exact aA λ_=>q_b λ_=>aG (λ_=>q_b λ_=>aA λ_=>aB (xT h) λw hw=>aA λ_=>aD hw) λ_=>q_b λ_=>aA λ_=>aB (xA h) λw hw=>aA λ_=>aD hw
theorem xj{k z:Int}(h:ElI k z){v:dZ}:(R.gH k v).sat λr=>ug z r.2.1/\b8 r.1:=by
 unfold R.gH;exact aA λ_=>q_b λ_=>aG (λ_=>q_b λ_=>aA λ_=>aB qh λb hb=>aA λ_=>aB (xT h) λw hw=>aA λ_=>aD ⟨hw,vk hb⟩) λ_=>q_b λ_=>aA λ_=>q_b λ_=>aA λ_=>aB ni λb hb=>aA λ_=>aB (xA h) λw hw=>aA λ_=>aD ⟨hw,vk hb⟩
theorem pF{k w:Int}:(R.eA k w).sat b8:=by
 unfold R.eA;exact aA λ_=>q_b λ_=>aG (λ_=>q_b λ_=>aA λ_=>aB qh λb hb=>aA λ_=>aD (vk hb)) λ_=>q_b λ_=>aA λ_=>aB ni λb hb=>aA λ_=>aD (vk hb)
theorem A3{a:aI.den}:(R.fp a).sat λr=>(r.1=0/\-9007199254740991<=r.2/\r.2<=9007199254740991)\/(r.1=3/\r.2=0)\/(r.1=4/\r.2=0):=by
 unfold R.fp;refine aA λ_=>aB (R:=λr:Int×Int=>(r.1=0->-9007199254740991<=r.2/\r.2<=9007199254740991)/\(r.1≠0->1<=r.1/\r.1<=4/\r.2=0)) (El (a:=a)).ok λr ⟨r1,r2⟩=>aA λ_=>aB (R:=λb=>b=false->Ne (α:=Int) (r.1) (2)/\Ne (α:=Int) (r.1) (1)) (bK (λ_=>aD λe=>by cases e) λh=>aD λe=>⟨h,ne_of_beq_false e⟩) λb hb=>aG (λ_=>aB (R:=λr:Int×Int=>r=(0,0)) (bG (qZ (P:=λr=>decide (r=((0:Int),(0:Int)))) (by kernel_rfl)) λr hr=>of_decide_eq_true hr) λr hr=>aA λ_=>aD ?_) λe=>aD ?_
 ·subst hr;exact .inl ⟨rfl,by decide,by decide⟩
 ·obtain ⟨h1,h2⟩:=hb e;by_cases h0:Eq (α:=Int) (r.1) (0)
  ·exact .inl ⟨h0,r1 h0⟩
  ·have:LE.le (α:=Int) (1) (r.1)/\LE.le (α:=Int) (r.1) (4)/\Eq (α:=Int) (r.2) (0):=r2 h0;by_cases h3:Eq (α:=Int) (r.1) (3)
   ·exact .inr (.inl ⟨h3,this.2.2⟩)
   ·exact .inr (.inr ⟨by show Eq (α:=Int) (r.1) (4);omega,this.2.2⟩)
theorem EU{a:aI.den}:(R.kf a).sat λr=>LE.le (α:=Int) (0) (r.1)/\LE.le (α:=Int) (r.1) (9007199254740991):=by
 unfold R.kf;refine aA λ_=>aB A3 λr hr=>aA λ_=>aB (R:=λb=>b=false->r.1=0/\ilt r.2 0=false) (eD (bK (λh=>aD λe=>⟨h,e⟩) λ_=>aD λe=>by cases e)) λb hb=>aG (λ_=>aD ⟨by decide,by decide⟩) λe=>aD ?_;obtain ⟨h0,h1⟩:=hb e;have h1:¬ LT.lt (α:=Int) (r.2) (0):=of_decide_eq_false h1;rcases hr with ⟨_,hr⟩|⟨hr,_⟩|⟨hr,_⟩
 ·exact ⟨by show LE.le (α:=Int) (0) (r.2);omega,hr.2⟩
 ·rw [h0] at hr;cases hr
 ·rw [h0] at hr;cases hr
theorem nj{v:dZ}:(R.dO v).sat λr=>LE.le (α:=Int) (0) (r.1)/\LE.le (α:=Int) (r.1) (9007199254740991):=by
 unfold R.dO;exact aA λ_=>q_b λ_=>aA λ_=>aG (λ_=>aD ⟨Int.le_refl 0,show (0:Int)<=9007199254740991 by decide⟩) λ_=>q_b λ_=>aA λ_=>aG (λ_=>aD ⟨Int.le_refl 0,show (0:Int)<=9007199254740991 by decide⟩) λ_=>aB EU λr hr=>aA λ_=>aG (λ_=>aD ⟨Int.le_refl 0,show (0:Int)<=9007199254740991 by decide⟩) λ_=>aD hr
end Go.Mach

set_option maxRecDepth 100000
namespace Go.Mach
open Res
section
variable {β:Type}{Q:β->Prop}
theorem aU{m:Res β}{B:β->Bool}(h:m.sat Q):(m.bind λr=>given (B r) (Res.ok r)).sat Q:=aB h λ_ hr=>aA λ_=>aD hr
theorem o7{a b:Int}{x y:Res β}(h1:a≠b->x.sat Q)(h2:a=b->y.sat Q):(br (!(a == b)) x y).sat Q:=eD (bK h2 h1)
theorem bx{how:Int}{x y:Res β}(h1:how≠0->x.sat Q)(h2:how=0->y.sat Q):(br (!(how == 0)) x y).sat Q:=eD (bK h2 h1)
end
section
variable {C:Cx}{m m1 m2 b b1:Int}{s s0 s':RunT}{how:Int}
theorem Pst.a0(h:Pst C m b s how s')(e:how=0):Aft C m b s s':=h.aft (by rw [e];decide)
theorem Pst.cat(a:Aft C m1 b1 s0 s)(g:Pst C m2 s.2.2.2.2.2.2.1 s how s'):Pst C m2 b1 s0 how s':=Pst.after a (g.mono (Int.le_refl _) a.bg)
theorem Pst.lI(a:Aft C m1 b1 s0 s)(g:Pst C m2 (HAdd.hAdd (α:=Int) (β:=Int) (γ:=Int) (s.2.2.2.2.2.2.1) (1)) s how s'):Pst C m2 b1 s0 how s':=Pst.after a (g.mono (Int.le_refl _) (by have:=a.bg;omega))
theorem Aft.cat(a:Aft C m1 b1 s0 s)(g:Aft C m2 s.2.2.2.2.2.2.1 s s'):Aft C m2 b1 s0 s':=a.trans (g.mono (Int.le_refl _) a.bg)
theorem Aft.up(a:Aft C m b s s'){m':Int}(h:m<=m'):Aft C m' b s s':=a.mono h (Int.le_refl _)
theorem Pst.up(a:Pst C m b s how s'){m':Int}(h:m<=m'):Pst C m' b s how s':=a.mono h (Int.le_refl _)
theorem cy.up{r:(dZ×Int)×RunT}(a:cy C m b s r){m':Int}(h:m<=m'):cy C m' b s r:=⟨a.1,a.2.up h⟩
theorem cy.cat{r:(dZ×Int)×RunT}(a:Aft C m1 b1 s0 s)(g:cy C m2 s.2.2.2.2.2.2.1 s r):cy C m2 b1 s0 r:=⟨g.1,Pst.cat a g.2⟩
theorem Pst.ok(a:Aft C m b s s'):Pst C m b s 0 s':=.inr ⟨by decide,a⟩
theorem gZ(h:gy C m s)(hm:m<=2^39){k:Int}:(R.aF s k).sat (cy C m s.2.2.2.2.2.2.1 s):=bG (nZ h hm) λ_ hr=>hr.1
theorem mc(h:gy C m s){v:dZ}(hv:b8 v):cy C m s.2.2.2.2.2.2.1 s ((v,0),s):=⟨hv,.ret h⟩
end
theorem I8{k n:Int}(h:(k=0/\-9007199254740991<=n/\n<=9007199254740991)\/((k=3\/k=4)/\n=0)):(R.lT (k,n)).sat (·=true):=by
 unfold R.lT;dsimp only;refine aA λ_=>bK (λe=>?_) λe=>?_
 ·rcases h with ⟨_,h1,h2⟩|⟨h1,_⟩
  ·exact lb (λ_=>aD (decide_eq_true h2)) λg=>absurd h1 (Int.not_le.2 g)
  ·omega
 ·rcases h with ⟨h1,_⟩|⟨h1,h2⟩
  ·exact absurd h1 e
  ·subst h2;refine aa (a:=true) (bK (λg=>aD (by rw [g];rfl)) λ_=>bK (λg=>aD (by rw [g];rfl)) λ_=>bK (λg=>aD (by rw [g];rfl)) λ_=>aD ?_) (jK rfl (aD rfl));rw [show k=4 by omega];rfl
theorem as_id{k n:Int}(h:(k=0/\-9007199254740991<=n/\n<=9007199254740991)\/((k=3\/k=4)/\n=0)):(R.ev (k,n)).sat (·=(k,n)):=by
 unfold R.ev;exact aA λ_=>aa (I8 h) (iC rfl (aD rfl))
theorem Dz{k n:Int}:(R.iP (k,n)).sat (·=if k=3 then 9007199254740992 else if k=4 then -9007199254740992 else n):=by
 unfold R.iP;dsimp only;refine aA λ_=>bK (λe=>aD ?_) λe=>bK (λe'=>aD ?_) λe'=>aD ?_
 ·rw [if_pos e]
 ·rw [if_neg e,if_pos e']
 ·rw [if_neg e,if_neg e']
theorem less0{k n:Int}(h:(k=0/\-9007199254740991<=n/\n<=9007199254740991)\/((k=3\/k=4)/\n=0)):(R.kS (k,n) (0,0)).sat λb=>b=false->DB (k,n):=by
 unfold R.kS;refine aA λ_=>aa (as_id h) (aA λ_=>aa (as_id (.inl ⟨rfl,by decide,by decide⟩)) (aA λ_=>q_e (eD (bK (λe=>?_) λ_=>q_e (eD (bK (λe=>by cases e) λ_=>aa Dz (aA λ_=>aa Dz (aA λ_=>aD λe=>?_))))))))
 ·have e:k=2:=e;omega
 ·have e:=of_decide_eq_false e;show (k=0/\0<=n/\n<=9007199254740991)\/(k=3/\n=0);rw [if_neg (show ¬ (0:Int)=3 by decide),if_neg (show ¬ (0:Int)=4 by decide)] at e;rcases h with ⟨h1,h2⟩|⟨h1|h1,h2⟩
  ·rw [if_neg (by omega),if_neg (by omega)] at e;omega
  ·exact .inr ⟨h1,h2⟩
  ·rw [if_neg (by omega),if_pos h1] at e;exact absurd (by decide) e
theorem tR{a:aI.den}:(R.fA a).sat DB:=by
 unfold R.fA;refine aA λ_=>aB A3 λr hr=>aA λ_=>?_;obtain ⟨k,n⟩:=r;refine aB (less0 (k:=k) (n:=n) ?_) λb hb=>aG (λ_=>aD (.inl ⟨rfl,by decide,by decide⟩)) λe=>aD (hb e);rcases hr with ⟨h1,h2,h3⟩|⟨h1,h2⟩|⟨h1,h2⟩
 ·exact .inl ⟨h1,h2,h3⟩
 ·exact .inr ⟨.inl h1,h2⟩
 ·exact .inr ⟨.inr h1,h2⟩
abbrev PkT:=iJ.den
structure TyI (l:List jY) (p:PkT) (z:Int):Prop where
 el:ElI p.2.2.2.2.2.2.2.2.1 z
 f0:LE.le (α:=Int) (0) (p.2.2.2.2.2.2.2.2.2.2.1)
 l0:LE.le (α:=Int) (0) (p.2.2.2.2.2.2.2.2.2.2.2.1)
 lm:LE.le (α:=Int) (p.2.2.2.2.2.2.2.2.2.2.2.1) (9007199254740991)
 m:LE.le (α:=Int) ((HAdd.hAdd (α:=Int) (β:=Int) (γ:=Int) (p.2.2.2.2.2.2.2.2.2.2.1) (HMul.hMul (α:=Int) (β:=Int) (γ:=Int) p.2.2.2.2.2.2.2.2.2.2.2.1 z))) (9007199254740991)
 bf:qb l p.2.2.2.2.2.2.2.2.2.1 (HAdd.hAdd (α:=Int) (β:=Int) (γ:=Int) (p.2.2.2.2.2.2.2.2.2.2.1) (HMul.hMul (α:=Int) (β:=Int) (γ:=Int) p.2.2.2.2.2.2.2.2.2.2.2.1 z))
structure VwI (l:List jY) (p:PkT):Prop where
 f0:LE.le (α:=Int) (0) (p.2.2.2.2.2.2.2.2.2.2.1)
 l0:LE.le (α:=Int) (0) (p.2.2.2.2.2.2.2.2.2.2.2.1)
 m:LE.le (α:=Int) ((HAdd.hAdd (α:=Int) (β:=Int) (γ:=Int) (p.2.2.2.2.2.2.2.2.2.2.1) (p.2.2.2.2.2.2.2.2.2.2.2.1))) (9007199254740991)
 bf:qb l p.2.2.2.2.2.2.2.2.2.1 (HAdd.hAdd (α:=Int) (β:=Int) (γ:=Int) (p.2.2.2.2.2.2.2.2.2.2.1) (p.2.2.2.2.2.2.2.2.2.2.2.1))
theorem qb.le{l:List jY}{b n n':Int}(h:qb l b n)(hn:n'<=n):qb l b n':=by
 obtain ⟨h0,d,h1,h2⟩:=h;exact ⟨h0,d,h1,h2.imp (λ⟨a,c⟩=>⟨a,Int.le_trans hn c⟩) λ⟨a,c⟩=>⟨a,Int.le_trans hn c⟩⟩
structure PkI (N:List eT) (l:List jY) (i:Int) (r:PkT×Bool):Prop where
 no:r.2=false->Eq (α:=Int) (r.1.1) (0)
 ty:Eq (α:=Int) (r.1.1) (7)->∃ z,TyI l r.1 z
 vw:Eq (α:=Int) (r.1.1) (8)->VwI l r.1
 sh:Eq (α:=Int) (r.1.1) (6)->LE.le (α:=Int) (0) (r.1.2.2.2.2.2.2.2.2.2.2.2.1)/\LE.le (α:=Int) (r.1.2.2.2.2.2.2.2.2.2.2.2.1) (9007199254740991)
 th:r.2=true->b8 r.1.2.2.2.2.2.2.2.1
 nn:r.2=true->r.1.2.2.2.2.1.length<=4096
 fn:Eq (α:=Int) (r.1.1) (3)->FnI N r.1.2.2.2.2.2.1
 at':r.2=true->0<=i/\∃ c,l[i.toNat]?=some c/\Eq (α:=Int) (c.1) (r.1.1)
 cl:∀ c,0<=i->l[i.toNat]?=some c->r.2=true/\Eq (α:=Int) (r.1.1) (c.1)
theorem ow{N:List eT}{B:Nat}{h:qW}(hh:ir N B h){i:Int}:(R.al h i).sat (PkI N h.2 i):=by
 refine bG Ke λr hr=>?_;obtain ⟨p,ok⟩:=r;rcases hr with ⟨h1,h2,hn⟩|⟨h1,i0,c,hc,h2⟩
 ·have h1:ok=false:=h1;subst h1;have hk:∀ k:Int,k≠0->¬ Eq (α:=Int) (p.1) (k):=λk hk e=>hk (e.symm.trans h2);exact ⟨λ_=>h2,λe=>absurd e (hk 7 (by decide)),λe=>absurd e (hk 8 (by decide)),λe=>absurd e (hk 6 (by decide)),(λe=>by cases e),(λe=>by cases e),λe=>absurd e (hk 3 (by decide)),(λe=>by cases e),λc i0 hc=>absurd ⟨i0,(List.getElem?_eq_some_iff.1 hc).1⟩ hn⟩
 ·have h2:p=_:=h2;subst h2;have h1:ok=true:=h1;subst h1;obtain ⟨g1,g2⟩:=hh.cl _ c hc;refine ⟨(λe=>by cases e),λe=>?_,λe=>?_,λe=>g1.sh e,λ_=>g2.tv,λ_=>g2.nn,λe=>g1.fn e,λ_=>⟨i0,c,hc,rfl⟩,λc' _ hc'=>⟨rfl,?_⟩⟩
  ·obtain ⟨z,a1,a2,a3,a4,a5,a6⟩:=g1.ty e;exact ⟨z,a1,a2,a3,a4,a5,a6⟩
  ·obtain ⟨a1,a2,a3,a4⟩:=g1.vw e;exact ⟨a1,a2,a3,a4⟩
  ·have:some c=some c':=hc.symm.trans hc';cases this;rfl
theorem w8{k z n l f:Int}(h:ElI k z)(n0:0<=n)(nl:n < l)(hf:0<=f)(hm:f+l*z<=9007199254740991):w6 (f+w6 (n*z))=f+n*z/\0<=f+n*z/\f+n*z+z<=f+l*z:=by
 have h1:n*z+z<=l*z:=by rcases h.pos.2.2 with rfl|rfl|rfl|rfl<;>omega
 have h2:0<=n*z:=Int.mul_nonneg n0 (by have:=h.pos.1;omega);have h3:=h.pos.1;rw [wrap64 (n:=n*z) (by omega),wrap64 (by omega)];exact ⟨rfl,by omega,by omega⟩
end Go.Mach

set_option maxRecDepth 100000
namespace Go.Mach
open Res
instance CG{a b}:Safe (R.cU a b):=by unfold R.cU;exact dw0
theorem ov{β:Type}{Q:β->Prop}(xs:List (List Int))(i:Int){k:List Int->Res β}(h0:0<=i)(h1:i < xs.length)(h:∀ x:List Int,xs[i.toNat]?=some x->(k x).sat Q) :
  (Res.aZ (ile 0 i && ilt i xs.length) (Res.idx (.list (.int .u16)) xs (0+(i.toNat:Int)) k)).sat Q:=by
 refine bD (by rw [Bool.and_eq_true,kE,fh];exact ⟨h0,h1⟩) ?_;have hi:((0:Int)+(i.toNat:Int)).toNat=i.toNat:=idx0 i;refine ba (by omega) (by rw [hi];show i.toNat < xs.length;omega) λx hx _=>h x (by rw [<- hi];exact hx)
abbrev nJ:=List (List Int)
theorem swap_perm{d:nJ}{i j:Nat}{x y:List Int}(hx:d[i]?=some x)(hy:d[j]?=some y):((d.set i y).set j x).Perm d:=by
 obtain ⟨hi,hx⟩:=List.getElem?_eq_some_iff.1 hx;obtain ⟨hj,hy⟩:=List.getElem?_eq_some_iff.1 hy;subst hx hy;exact List.set_set_perm hi hj
theorem uZ{β:Type}{Q:β->Prop}{d:nJ}{i j:Int}{k:nJ->Res β}(hi:0<=i/\i < d.length)(hj:0<=j/\j < d.length)(h:∀ x y,d[i.toNat]?=some x->d[j.toNat]?=some y->(k ((d.set i.toNat y).set j.toNat x)).sat Q) :
  (Res.aZ (ile 0 j && ilt j d.length) (Res.idx (.list (.int .u16)) d (0+Int.toNat j) λe7=>Res.aZ (ile 0 i && ilt i d.length) (Res.idx (.list (.int .u16)) d (0+Int.toNat i) λe8=>Res.aZ (ile 0 i && ilt i d.length) (Res.idx (.list (.int .u16)) d (0+Int.toNat i) λe9=>Res.aZ (ile 0 j && ilt j (List.set d (0+Int.toNat i) e7).length) (Res.idx (.list (.int .u16)) (List.set d (0+Int.toNat i) e7) (0+Int.toNat j) λe10=>k (List.set (List.set d (0+Int.toNat i) e7) (0+Int.toNat j) e8)))))).sat Q:=by
 refine ov d j hj.1 hj.2 λy hy=>?_;refine ov d i hi.1 hi.2 λx hx=>?_;refine ov d i hi.1 hi.2 λx' hx'=>?_;refine ov (List.set d (0+Int.toNat i) y) j hj.1 (by rw [List.length_set];exact hj.2) λy' hy'=>?_;rw [Nat.zero_add,Nat.zero_add];exact h x y hx hy
theorem uf(d:nJ)(a b:Int)(ha:0<=a)(hb:b<=d.length)(hab:a<=d.length)(hl:d.length < 2^60):(R.aP d a b ()).sat λy=>y.2.Perm d:=by
 unfold R.aP;have hw:w6 (a+1)=a+1:=wrap64 (by omega);rw [hw];refine aA λ_=>aB (R:=λd'=>d'.Perm d) (vp (λx:Int×nJ=>x.1) (d.length+1) (by omega) (λx=>(a+1<=x.1/\x.1<=d.length+1)/\x.2.Perm d) ⟨⟨by simp,by simp only;omega⟩,List.Perm.refl _⟩ (λx h=>by omega) ?_) λd' h=>aD h;rintro ⟨i,d1⟩ ⟨⟨h1,h2⟩,hp⟩;simp only at h1 h2 hp;have hlen:=hp.length_eq;refine aG (λh3=>?_) λh3=>aD hp;rw [fh] at h3;simp only at h3;refine aB (R:=λd'=>d'.Perm d) (nL (λk (x:Int×nJ)=>k=(x.1-a).toNat/\(a<=x.1/\x.1<=i)/\x.2.Perm d) ?_ _ (i-a).toNat _ (by have:fuel=2^70:=rfl;omega) ⟨rfl,⟨by simp only;omega,Int.le_refl _⟩,hp⟩) λd' h=>aD ⟨wrap64 (by omega),by simp only;rw [wrap64 (by omega)];omega,h⟩;rintro k ⟨j,d2⟩ ⟨hk,⟨h4,h5⟩,hp2⟩;simp only at hk h4 h5 hp2;have hlen2:=hp2.length_eq;refine aB (R:=λb=>b=true->a < j) ?_ ?_
 ·refine aG (λh6=>?_) λh6=>aD λh=>by cases h
  rw [fh] at h6;simp only at h6;rw [wrap64 (n:=j-1) (by omega)];refine ov d2 j (by omega) (by omega) λe3 _=>?_;refine ov d2 (j-1) (by omega) (by omega) λe4 _=>?_;exact q_b λ_=>(aA λ_=>aD λ_=>h6)
 ·intro x hx;refine aG (λh6=>?_) λ_=>aD hp2;have hj:=hx h6;simp only;rw [wrap64 (n:=j-1) (by omega)]
  refine uZ (d:=d2) (i:=j) (j:=j-1) (k:=λd'=>(Res.ok (Res.Step.next (j-1,d')):Res (Res.Step (Int×nJ) nJ))) ⟨by omega,by omega⟩ ⟨by omega,by omega⟩ λx y hx hy=>?_
  exact aD ⟨(j-1-a).toNat,by omega,rfl,⟨by simp only;omega,by simp only;omega⟩,(swap_perm hx hy).trans hp2⟩
theorem rL(d:nJ)(a b n:Int)(ha:0<=a)(hb:0<=b)(han:a+n<=d.length)(hbn:b+n<=d.length)(hn:0<=n)(hl:d.length < 2^60):(R.aN d a b n ()).sat λy=>y.2.Perm d:=by
 unfold R.aN;refine aA λ_=>aB (R:=λd'=>d'.Perm d) (vp (λx:Int×nJ=>x.1) n.toNat (by omega) (λx=>(0<=x.1/\x.1<=n.toNat)/\x.2.Perm d) ⟨⟨by simp,by simp only;omega⟩,List.Perm.refl _⟩ (λx h=>h.1) ?_) λd' h=>aD h;rintro ⟨i,d1⟩ ⟨⟨h1,h2⟩,hp⟩;simp only at h1 h2 hp;have hlen:=hp.length_eq;refine aG (λh3=>?_) λh3=>aD hp;rw [fh] at h3;simp only at h3 ⊢;rw [wrap64 (n:=b+i) (by omega),wrap64 (n:=a+i) (by omega),wrap64 (n:=i+1) (by omega)]
 refine uZ (d:=d1) (i:=a+i) (j:=b+i) (k:=λd'=>(Res.ok (Res.Step.next (i+1,d')):Res (Res.Step (Int×nJ) nJ))) ⟨by omega,by omega⟩ ⟨by omega,by omega⟩ λx y hx hy=>?_
 exact aD ⟨rfl,⟨by simp only;omega,by simp only;omega⟩,(swap_perm hx hy).trans hp⟩
theorem E4(d:nJ)(a m b:Int)(ha:0<=a)(ham:a < m)(hmb:m < b)(hb:b<=d.length)(hl:d.length < 2^60):(R.aY d a m b ()).sat λy=>y.2.Perm d:=by
 unfold R.aY;rw [wrap64 (n:=m-a) (by omega),wrap64 (n:=b-m) (by omega)];refine aA λ_=>aB (R:=λ(x:Int×nJ)=>(0 < x.1/\x.1<=m-a/\x.1<=b-m)/\x.2.Perm d) (nL (λk (x:Int×Int×nJ)=>k=(x.1+x.2.1).toNat/\(0 < x.1/\x.1<=m-a)/\(0 < x.2.1/\x.2.1<=b-m)/\x.2.2.Perm d) ?_ _ (b-a).toNat _ (by have:fuel=2^70:=rfl;omega) ⟨by simp only;congr 1;omega,⟨by simp only;omega,by simp only;omega⟩,⟨by simp only;omega,by simp only;omega⟩,List.Perm.refl _⟩) ?_
 ·rintro k ⟨i,j,d1⟩ ⟨hk,⟨h1,h2⟩,⟨h3,h4⟩,hp⟩;simp only at hk h1 h2 h3 h4 hp;have hlen:=hp.length_eq;refine aG (λh5=>?_) λh5=>aD ⟨⟨h1,h2,?_⟩,hp⟩
  ·have h5:¬ i=j:=by simpa using h5
   refine aG (λh6=>?_) λh6=>?_
   ·rw [fh] at h6;simp only at h6 ⊢;rw [wrap64 (n:=m-i) (by omega),wrap64 (n:=i-j) (by omega)];refine aB (rL d1 (m-i) m j (by omega) (by omega) (by omega) (by omega) (by omega) (by omega)) λy hy=>aA λ_=>aD ⟨(i-j+j).toNat,by omega,rfl,⟨by simp only;omega,by simp only;omega⟩,⟨by simp only;omega,by simp only;omega⟩,hy.trans hp⟩
   ·rw [kJ] at h6;simp only at h6 ⊢;rw [wrap64 (n:=m-i) (by omega),wrap64 (n:=m+j) (by omega),wrap64 (n:=m+j-i) (by omega),wrap64 (n:=j-i) (by omega)];refine aB (rL d1 (m-i) (m+j-i) i (by omega) (by omega) (by omega) (by omega) (by omega) (by omega)) λy hy=>aA λ_=>aD ⟨(i+(j-i)).toNat,by omega,rfl,⟨by simp only;omega,by simp only;omega⟩,⟨by simp only;omega,by simp only;omega⟩,hy.trans hp⟩
  ·have h5:i=j:=by simpa using h5
   simp only;omega
 ·rintro ⟨i,d1⟩ ⟨⟨h1,h2,h3⟩,hp⟩;simp only at h1 h2 h3 hp ⊢;have hlen:=hp.length_eq;rw [wrap64 (n:=m-i) (by omega)];refine aB (rL d1 (m-i) m i (by omega) (by omega) (by omega) (by omega) (by omega) (by omega)) λy hy=>aA λ_=>aD (hy.trans hp)
abbrev Ap(x:Int):Int:=w6 (iI .u64 (IntKind.wrap .u64 (w6 x)) 1)
theorem vu{x:Int}(h:0<=x/\x < 2^62):Ap x=x / 2:=by
 unfold Ap;have h1:w6 x=x:=wrap64 (by omega)
 have h2:IntKind.wrap .u64 x=x:=by
  simp [w6,w6,IntKind.wrap,IntKind.signed,IntKind.bits];omega
 have h3:iI .u64 x 1=x / 2:=by
  unfold iI
  have:(min (Int.toNat 1) (IntKind.bits .u64))=1:=by decide
  rw [this];show x.fdiv 2=x / 2;rw [Int.fdiv_eq_ediv];omega
 rw [h1,h2,h3];exact wrap64 (by omega)
theorem vG{d:nJ}(lo hi:Int)(hlo:0<=lo)(hhi:hi < 2^60)(hle:lo<=hi)(f:Int×Int->Res (Res.Step (Int×Int) Int))
  (hf:∀ i j,lo<=i->i<=j->j<=hi->(f (i,j)).sat fun
   |.next x=>i < j/\((x=((i+j) / 2+1,j))\/x=(i,(i+j) / 2))
   |.done r=>r=i):(Res.loop f fuel (lo,hi)).sat λr=>lo<=r/\r<=hi:=by
 refine nL (λk (x:Int×Int)=>k=(x.2-x.1).toNat/\lo<=x.1/\x.1<=x.2/\x.2<=hi) ?_ _ (hi-lo).toNat _ (by have:fuel=2^70:=rfl;omega) ⟨rfl,Int.le_refl _,hle,Int.le_refl _⟩;rintro k ⟨i,j⟩ ⟨hk,h1,h2,h3⟩;simp only at hk h1 h2 h3;refine bG (hf i j h1 h2 h3) λs hs=>?_
 cases s with
 |next x =>
  obtain ⟨h4,rfl|rfl⟩:=hs
  ·exact ⟨_,by omega,rfl,by simp only;omega,by simp only;omega,by simp only;omega⟩
  ·exact ⟨_,by omega,rfl,by simp only;omega,by simp only;omega,by simp only;omega⟩
 |done r =>
  have hs:r=i:=hs;subst hs;exact ⟨h1,by omega⟩
theorem pd:∀ (fu:Nat) (d:nJ) (a m b:Int),(b-a).toNat < fu->0<=a->a < m->m < b->b<=d.length->d.length < 2^60->(R.aH fu d a m b ()).sat λy=>y.2.Perm d
 |0,_,_,_,_,h,_,_,_,_,_=>by omega
 |fu+1,d,a,m,b,hfu,h0,ham,hmb,hb,hl=>by
  unfold R.aH;rw [wrap64 (n:=m-a) (by omega),wrap64 (n:=b-m) (by omega)];refine aA λ_=>aG (λhone=>?_) λhone=>aG (λhone2=>?_) λhone2=>?_
  ·
   refine aB (R:=λr=>m<=r/\r<=b) (vG (d:=d) m b (by omega) (by omega) (by omega) _ λi j h1 h2 h3=>?_) λi5 hi5=>?_
   ·simp only;refine aG (λh4=>?_) λh4=>aD rfl;rw [fh] at h4;have hh:Ap (i+j)=(i+j) / 2:=vu (by omega);refine bD rfl ?_
    rw [show w6 (iI .u64 (IntKind.wrap .u64 (w6 (i+j))) 1)=(i+j) / 2 from hh]
    refine ov d ((i+j) / 2) (by omega) (by omega) λe2 _=>?_;refine ov d a (by omega) (by omega) λe3 _=>?_;refine q_b λ_=>(aA λ_=>aG (λ_=>aD ⟨h4,.inl ?_⟩) λ_=>aD ⟨h4,.inr rfl⟩);rw [wrap64 (by omega)]
   ·rw [wrap64 (n:=i5-1) (by omega)];refine aB (R:=λd'=>d'.Perm d) (vp (λx:Int×nJ=>x.1) (d.length+1) (by omega) (λx=>(a<=x.1/\x.1<=d.length)/\x.2.Perm d) ⟨⟨by simp,by simp only;omega⟩,List.Perm.refl _⟩ (λx h=>by omega) ?_) λd' h=>aD h;rintro ⟨k,d2⟩ ⟨⟨h1,h2⟩,hp⟩;simp only at h1 h2 hp;have hlen:=hp.length_eq;refine aG (λh3=>?_) λh3=>aD hp;rw [fh] at h3;simp only at h3 ⊢;rw [wrap64 (n:=k+1) (by omega)]
    refine uZ (d:=d2) (i:=k) (j:=k+1) (k:=λd'=>(Res.ok (Res.Step.next (k+1,d')):Res (Res.Step (Int×nJ) nJ))) ⟨by omega,by omega⟩ ⟨by omega,by omega⟩ λx y hx hy=>?_
    exact aD ⟨rfl,⟨by simp only;omega,by simp only;omega⟩,(swap_perm hx hy).trans hp⟩
  ·
   refine aB (R:=λr=>a<=r/\r<=m) (vG (d:=d) a m (by omega) (by omega) (by omega) _ λi j h1 h2 h3=>?_) λi5 hi5=>?_
   ·simp only;refine aG (λh4=>?_) λh4=>aD rfl;rw [fh] at h4;have hh:Ap (i+j)=(i+j) / 2:=vu (by omega);refine bD rfl ?_
    rw [show w6 (iI .u64 (IntKind.wrap .u64 (w6 (i+j))) 1)=(i+j) / 2 from hh]
    refine ov d m (by omega) (by omega) λe2 _=>?_;refine ov d ((i+j) / 2) (by omega) (by omega) λe3 _=>?_;refine q_b λ_=>(aA λ_=>aG (λ_=>aD ⟨h4,.inl ?_⟩) λ_=>aD ⟨h4,.inr rfl⟩);rw [wrap64 (by omega)]
   ·refine aB (R:=λd'=>d'.Perm d) (nL (λk (x:Int×nJ)=>k=x.1.toNat/\(0<=x.1/\x.1<=m)/\x.2.Perm d) ?_ _ m.toNat _ (by have:fuel=2^70:=rfl;omega) ⟨rfl,⟨by simp only;omega,Int.le_refl _⟩,List.Perm.refl _⟩) λd' h=>aD h;rintro q ⟨k,d2⟩ ⟨hq,⟨h1,h2⟩,hp⟩;simp only at hq h1 h2 hp;have hlen:=hp.length_eq;refine aG (λh3=>?_) λh3=>aD hp;rw [fh] at h3;simp only at h3 ⊢;rw [wrap64 (n:=k-1) (by omega)]
    refine uZ (d:=d2) (i:=k) (j:=k-1) (k:=λd'=>(Res.ok (Res.Step.next (k-1,d')):Res (Res.Step (Int×nJ) nJ))) ⟨by omega,by omega⟩ ⟨by omega,by omega⟩ λx y hx hy=>?_
    exact aD ⟨_,by omega,rfl,⟨by simp only;omega,by simp only;omega⟩,(swap_perm hx hy).trans hp⟩
  ·
   have hone:¬ m-a=1:=by simpa using hone
   have hone2:¬ b-m=1:=by simpa using hone2
   have hmid:w6 (iI .u64 (IntKind.wrap .u64 (w6 (a+b))) 1)=(a+b) / 2:=vu (by omega);rw [hmid];generalize hM:(a+b) / 2=mid
   have hM1:a+b-1<=2*mid/\2*mid<=a+b:=by omega
   rw [wrap64 (n:=mid+m) (by omega),wrap64 (n:=mid+m-b) (by omega),wrap64 (n:=mid+m-1) (by omega)];refine bD rfl (aB (R:=λ(x:Int×Int)=>(a<=x.1/\x.1<=x.2/\x.2<=m)/\mid+m-x.1<=b/\(x.2<=mid)/\(mid<=mid+m-x.2)) ?_ ?_)
   ·refine aG (λh1=>aD ?_) λh1=>aD ?_
    ·rw [fh] at h1;simp only;omega
    ·rw [kJ] at h1;simp only;omega
   rintro ⟨st,rr⟩ ⟨⟨s1,s2,s3⟩,s4,s5,s6⟩;simp only at s1 s2 s3 s4 s5 s6;refine aB (R:=λr=>st<=r/\r<=rr) (vG (d:=d) st rr (by omega) (by omega) (by omega) _ λi j h1 h2 h3=>?_) λs hs=>?_
   ·simp only;refine aG (λh4=>?_) λh4=>aD rfl;rw [fh] at h4;have hh:Ap (i+j)=(i+j) / 2:=vu (by omega);refine bD rfl ?_
    rw [show w6 (iI .u64 (IntKind.wrap .u64 (w6 (i+j))) 1)=(i+j) / 2 from hh]
    rw [wrap64 (n:=mid+m-1-(i+j) / 2) (by omega)];refine ov d (mid+m-1-(i+j) / 2) (by omega) (by omega) λe2 _=>?_;refine ov d ((i+j) / 2) (by omega) (by omega) λe3 _=>?_;refine q_b λ_=>(aA λ_=>aG (λ_=>aD ⟨h4,.inl ?_⟩) λ_=>aD ⟨h4,.inr rfl⟩);rw [wrap64 (by omega)]
   ·obtain ⟨hs1,hs2⟩:=hs;rw [wrap64 (n:=mid+m-s) (by omega)];refine aB (R:=λd'=>d'.Perm d) ?_ λd1 hp1=>aB (R:=λd'=>d'.Perm d) ?_ λd2 hp2=>?_
    ·refine aB (R:=λc=>c=true->s < m/\m < mid+m-s) ?_ λc hc=>aG (λh=>?_) λ_=>aD (List.Perm.refl _)
     ·refine aG (λh1=>aD λh2=>?_) λ_=>aD λh=>by cases h
      rw [fh] at h1 h2;exact ⟨h1,h2⟩
     ·obtain ⟨h1,h2⟩:=hc h;exact aB (E4 d s m (mid+m-s) (by omega) h1 h2 (by omega) hl) λy hy=>aA λ_=>aD hy
    ·have hlen1:=hp1.length_eq;refine aB (R:=λc=>c=true->a < s/\s < mid) ?_ λc hc=>aG (λh=>?_) λ_=>aD hp1
     ·refine aG (λh1=>aD λh2=>?_) λ_=>aD λh=>by cases h
      rw [fh] at h1 h2;exact ⟨h1,h2⟩
     ·obtain ⟨h1,h2⟩:=hc h;exact aB (pd fu d1 a s mid (by omega) h0 h1 h2 (by omega) (by omega)) λy hy=>aA λ_=>aD (hy.trans hp1)
    ·have hlen2:=hp2.length_eq;refine aB (R:=λc=>c=true->mid < mid+m-s/\mid+m-s < b) ?_ λc hc=>aG (λh=>?_) λ_=>aD hp2
     ·refine aG (λh1=>aD λh2=>?_) λ_=>aD λh=>by cases h
      rw [fh] at h1 h2;exact ⟨h1,h2⟩
     ·obtain ⟨h1,h2⟩:=hc h;exact aB (pd fu d2 mid (mid+m-s) b (by omega) (by omega) h1 h2 (by omega) (by omega)) λy hy=>aA λ_=>aD (hy.trans hp2)
theorem FX(d:nJ)(hl:d.length < 2^50):(R.aV d (d.length:Int) ()).sat λy=>y.2.Perm d:=by
 unfold R.aV;refine aA λ_=>aB (R:=λ(x:Int×nJ)=>(0<=x.1/\x.1<=d.length)/\x.2.Perm d) (nL (λk (x:Int×Int×nJ)=>k=(d.length+20-x.1).toNat/\(0<=x.1/\x.1<=d.length)/\x.2.1=x.1+20/\x.2.2.Perm d) ?_ _ (d.length+20) _ (by have:fuel=2^70:=rfl;omega) ⟨by simp only;omega,⟨by simp only;omega,by simp only;omega⟩,rfl,List.Perm.refl _⟩) ?_
 ·rintro k ⟨a,b,d1⟩ ⟨hk,⟨h1,h2⟩,h3,hp⟩;simp only at hk h1 h2 h3 hp;have hlen:=hp.length_eq;refine aG (λh4=>?_) λh4=>aD ⟨⟨h1,h2⟩,hp⟩;rw [kE] at h4;simp only at h4 ⊢;refine aB (uf d1 a b h1 (by omega) (by omega) (by omega)) λy hy=>aA λ_=>aD ⟨(d.length+20-b).toNat,by omega,rfl,⟨by simp only;omega,h4⟩,wrap64 (by omega),hy.trans hp⟩
 rintro ⟨a,d1⟩ ⟨⟨h1,h2⟩,hp⟩;simp only at h1 h2 hp;have hlen:=hp.length_eq;refine aB (uf d1 a d.length h1 (by omega) (by omega) (by omega)) λy hy=>aA λ_=>?_;obtain ⟨_,d2⟩:=y;simp only at hy ⊢;have hp2:=hy.trans hp;refine aB (R:=λd'=>d'.Perm d) (nL (λk (x:Int×nJ)=>k=(d.length-x.1).toNat/\(20<=x.1/\x.1<=2^52)/\x.2.Perm d) ?_ _ ((d.length:Int)-20).toNat _ (by have:fuel=2^70:=rfl;omega) ⟨rfl,⟨by simp only;omega,by simp only;omega⟩,hp2⟩) λd' h=>aD h;rintro k ⟨bs,d3⟩ ⟨hk,⟨h3,h4⟩,hp3⟩;simp only at hk h3 h4 hp3;have hlen3:=hp3.length_eq;refine aG (λh5=>?_) λh5=>aD hp3;rw [fh] at h5;simp only at h5 ⊢;rw [wrap64 (n:=2*bs) (by omega),wrap64 (n:=bs*2) (by omega)];refine aB (R:=λ(x:Int×nJ)=>(0<=x.1/\x.1<=d.length)/\x.2.Perm d) (nL (λk (x:Int×Int×nJ)=>k=(d.length+2*bs-x.1).toNat/\(0<=x.1/\x.1<=d.length)/\x.2.1=x.1+2*bs/\x.2.2.Perm d) ?_ _ (d.length+2*bs).toNat _ (by have:fuel=2^70:=rfl;omega) ⟨by simp only;omega,⟨by simp only;omega,by simp only;omega⟩,by simp only;omega,hp3⟩) ?_
 ·rintro k ⟨a,b,d4⟩ ⟨hk,⟨h6,h7⟩,h8,hp4⟩;simp only at hk h6 h7 h8 hp4;have hlen4:=hp4.length_eq;refine aG (λh9=>?_) λh9=>aD ⟨⟨h6,h7⟩,hp4⟩;rw [kE] at h9;simp only at h9 ⊢;rw [wrap64 (n:=a+bs) (by omega),wrap64 (n:=b+2*bs) (by omega)];refine aB (pd fuel d4 a (a+bs) b (by have:fuel=2^70:=rfl;omega) h6 (by omega) (by omega) (by omega) (by omega)) λy hy=>aA λ_=>aD ⟨(d.length+2*bs-b).toNat,by omega,rfl,⟨by simp only;omega,h9⟩,rfl,hy.trans hp4⟩
 rintro ⟨a,d4⟩ ⟨⟨h6,h7⟩,hp4⟩;simp only at h6 h7 hp4 ⊢;have hlen4:=hp4.length_eq;rw [wrap64 (n:=a+bs) (by omega)];refine aG (λh9=>?_) λh9=>aD ⟨(d.length-bs*2).toNat,by omega,rfl,⟨by simp only;omega,by simp only;omega⟩,hp4⟩;rw [fh] at h9;exact aB (pd fuel d4 a (a+bs) d.length (by have:fuel=2^70:=rfl;omega) h6 (by omega) h9 (by omega) (by omega)) λy hy=>aA λ_=>aD ⟨(d.length-bs*2).toNat,by omega,rfl,⟨by simp only;omega,by simp only;omega⟩,hy.trans hp4⟩
theorem yF(d:nJ)(hl:d.length < 2^50):(R.aT d ()).sat λy=>y.2.Perm d:=by
 unfold R.aT;exact aA λ_=>aB (FX d hl) λy hy=>aA λ_=>aD hy
theorem Hj{h:qW}{i:Int}{c:jY}(h0:0<=i)(hc:h.2[i.toNat]?=some c)(hl:c.2.2.1.length<=2^39):(R.eQ h i).sat λl=>l.length=c.2.2.1.length:=by
 unfold R.eQ;refine aA λ_=>jw (λc' _ hc'=>iC rfl (kA h0 hc ?_)) λhn=>absurd ⟨h0,(List.getElem?_eq_some_iff.1 hc).1⟩ hn;refine aB (gQ (Q:=λx:nJ×nJ=>x.1.length+x.2.length=c.2.2.1.length) (λx=>x.2.2) c.2.2.1.length (by omega) (λx=>x.1.length+x.2.1.length=x.2.2.toNat) (by simp) (by simp) (by simp) λx x0 x1 xI=>?_) λx hx=>?_
 ·obtain ⟨p,q,j⟩:=x;have x0:0<=j:=x0;have x1:j<=(c.2.2.1.length:Int):=x1;have xI:p.length+q.length=j.toNat:=xI;refine ef (λhj=>?_) λhj=>aD ?_
  ·have hj:j < (c.2.2.1.length:Int):=hj;refine bQ x0 (by show _ < c.2.2.1.length;omega) λe he _=>qD (aA λ_=>q_b λ_=>aA λ_=>aG (λ_=>bD (decide_eq_true ?_) (aD ⟨rfl,hj,?_⟩)) λ_=>bD (decide_eq_true ?_) (aD ⟨rfl,hj,?_⟩))
   ·show (p.length+1)*24<=2^47;omega
   ·show (p++[_]).length+q.length=(w6 (j+1)).toNat;rw [wrap64 (by omega),List.length_append];simp;omega
   ·show (q.length+1)*24<=2^47;omega
   ·show p.length+(q++[_]).length=(w6 (j+1)).toNat;rw [wrap64 (by omega),List.length_append];simp;omega
  ·have hj:(c.2.2.1.length:Int)<=j:=hj;show p.length+q.length=c.2.2.1.length;omega
 ·obtain ⟨p,q⟩:=x;have hx:p.length+q.length=c.2.2.1.length:=hx;refine aB (yF p (by omega)) λy hy=>aA λ_=>?_;have hleny:=hy.length_eq;refine bD (decide_eq_true ?_) (aD ?_)
  ·show (y.2.length+q.length)*24<=2^47;omega
  ·show (y.2++q).length=_;rw [List.length_append];omega
end Go.Mach

set_option maxRecDepth 100000
namespace Go.Mach
open Res
def pz(C:Cx)(m b:Int)(s:RunT){α:Type}(P:α->Prop):α ⊕ (Int×(RunT×dZ))->Prop
 |.inl a=>P a
 |.inr z=>cy C m b s ((z.2.2,z.1),z.2.1)
theorem oi{C:Cx}{m b:Int}{s:RunT}{α:Type}{P:α->Prop}{x:α ⊕ (Int×(RunT×dZ))}(hx:pz C m b s P x){f:α->Res ((dZ×Int)×RunT)}(hf:∀ a,P a->(f a).sat (cy C m b s)):(sum x f λz=>Res.ok ((z.2.2,z.1),z.2.1)).sat (cy C m b s):=by
 cases x with
 |inl a=>exact iy (hf a hx)
 |inr z=>exact iv (aD hx)
theorem oy{C:Cx}{m b:Int}{s:RunT}{α:Type}{P:α->Prop}{F:Res ((dZ×Int)×RunT)}{B:(dZ×Int)×RunT->Bool}(hF:F.sat (cy C m b s)):(F.bind λr=>given (B r) (Res.ok (Sum.inr (r.1.2,(r.2,r.1.1)):α ⊕ (Int×(RunT×dZ))))).sat (pz C m b s P):=aB hF λr hr=>aA λ_=>aD hr
theorem H4{B:Nat}{c:jY}(h1:c.2.2.1=[])(h2:c.2.2.2.1=[])(h3:b8 c.2.2.2.2.2.2.2.1)(h4:c.2.2.2.2.1.length<=4096:=by exact Nat.zero_le _):tE B c:=⟨by rw [h1];exact Nat.zero_le _,by rw [h2];exact Nat.zero_le _,by rw [h1];simp,by rw [h2];simp,h3,h4⟩
theorem iw{x k j:Int}(e:x=k)(h:k≠j):x≠j:=λg=>h (e.symm.trans g)
theorem pX.vw1{N:List eT}{l:List jY}{c:jY}(e:Eq (α:=Int) (c.1) (8))(h:LE.le (α:=Int) (0) (c.2.2.2.2.2.2.2.2.2.2.1)/\LE.le (α:=Int) (0) (c.2.2.2.2.2.2.2.2.2.2.2.1)/\LE.le (α:=Int) ((HAdd.hAdd (α:=Int) (β:=Int) (γ:=Int) (c.2.2.2.2.2.2.2.2.2.2.1) (c.2.2.2.2.2.2.2.2.2.2.2.1))) (9007199254740991)/\qb l c.2.2.2.2.2.2.2.2.2.1 (HAdd.hAdd (α:=Int) (β:=Int) (γ:=Int) (c.2.2.2.2.2.2.2.2.2.2.1) (c.2.2.2.2.2.2.2.2.2.2.2.1))):pX N l c:=⟨λg=>absurd g (iw e (by decide)),λg=>absurd g (iw e (by decide)),λg=>absurd g (iw e (by decide)),λg=>absurd g (iw e (by decide)),λ_=>h⟩
theorem pX.ty1{N:List eT}{l:List jY}{c:jY}{z:Int}(e:Eq (α:=Int) (c.1) (7))(h:ElI c.2.2.2.2.2.2.2.2.1 z/\LE.le (α:=Int) (0) (c.2.2.2.2.2.2.2.2.2.2.1)/\LE.le (α:=Int) (0) (c.2.2.2.2.2.2.2.2.2.2.2.1)/\LE.le (α:=Int) (c.2.2.2.2.2.2.2.2.2.2.2.1) (9007199254740991)/\LE.le (α:=Int) ((HAdd.hAdd (α:=Int) (β:=Int) (γ:=Int) (c.2.2.2.2.2.2.2.2.2.2.1) (HMul.hMul (α:=Int) (β:=Int) (γ:=Int) c.2.2.2.2.2.2.2.2.2.2.2.1 z))) (9007199254740991)/\qb l c.2.2.2.2.2.2.2.2.2.1 (HAdd.hAdd (α:=Int) (β:=Int) (γ:=Int) (c.2.2.2.2.2.2.2.2.2.2.1) (HMul.hMul (α:=Int) (β:=Int) (γ:=Int) c.2.2.2.2.2.2.2.2.2.2.2.1 z))):pX N l c:=⟨λg=>absurd g (iw e (by decide)),λg=>absurd g (iw e (by decide)),λg=>absurd g (iw e (by decide)),λ_=>⟨z,h⟩,λg=>absurd g (iw e (by decide))⟩
theorem pX.sh1{N:List eT}{l:List jY}{c:jY}(e:Eq (α:=Int) (c.1) (6))(h:LE.le (α:=Int) (0) (c.2.2.2.2.2.2.2.2.2.2.2.1)/\LE.le (α:=Int) (c.2.2.2.2.2.2.2.2.2.2.2.1) (9007199254740991)):pX N l c:=⟨λg=>absurd g (iw e (by decide)),λg=>absurd g (iw e (by decide)),λ_=>h,λg=>absurd g (iw e (by decide)),λg=>absurd g (iw e (by decide))⟩
theorem pX.bf1{N:List eT}{l:List jY}{c:jY}(e:Eq (α:=Int) (c.1) (5))(h:(c.2.2.2.2.2.2.2.2.2.2.2.2).length<=4096):pX N l c:=⟨λg=>absurd g (iw e (by decide)),λ_=>h,λg=>absurd g (iw e (by decide)),λg=>absurd g (iw e (by decide)),λg=>absurd g (iw e (by decide))⟩
theorem kq{l:List dZ}(hl:∀ v∈l,b8 v){i:Int}(h0:0<=i):(R.bk l i).sat b8:=by
 unfold R.bk;exact aA λ_=>ef (λh=>bQ h0 (by have h:i < (l.length:Int):=h;show _ < l.length;omega) λx hx _=>aD (hl _ (List.mem_of_getElem? hx))) λ_=>aD bn
theorem mB{n:Int}:(R.cG n).sat b8:=by
 unfold R.cG;exact aA λ_=>aB ni λr hr=>aA λ_=>aD (vk hr)
instance IP{n}:Safe (R.gM n):=by
 unfold R.gM;refine ⟨aA λh=>?_⟩;simp only [Sg.i,oks,Sh.ok,Ty.ok,List.map,Par.v,Bool.and_eq_true,I5] at h;exact aa (a:=Lib.itoa n) rfl (aA λ_=>aB (dc (Nat.le_trans (Lib.itoa_length_le n (by omega) (by omega)) (by decide))) λ_ _=>aA λ_=>aD trivial)
theorem Et{u:List Int}:(R.fW u).sat λr=>r.1.length<=u.length:=by
 unfold R.fW;refine aA λh=>?_;simp only [Sg.i,oks,Sh.ok,Ty.ok,List.map,Par.v,Bool.and_eq_true] at h;have hl:=u3 h;simp only [Sh.jN,Ty.jN,IntKind.jN] at hl
 refine aB (gQ (Q:=λr:List Int ⊕ (List UInt8×Bool)=>match r with|.inl l=>l.length<=u.length|.inr r=>r.1.length<=u.length) (λi=>i.2) u.length (by omega) (λx=>x.1.length=x.2.toNat) (by simp) (by simp) (by simp) λx h0 h1 hI=>?_) λx hx=>?_
 ·obtain ⟨l,i⟩:=x;have h0:0<=i:=h0;have h1:i<=(u.length:Int):=h1;have hI:l.length=i.toNat:=hI;refine ef (λhi=>?_) λ_=>aD (by show l.length<=u.length;omega);have hi:i < (u.length:Int):=hi;refine bQ h0 (by show _ < u.length;omega) λe _ _=>ef (λ_=>aD (Nat.zero_le _)) λ_=>bD (decide_eq_true ?_) (aD ⟨rfl,hi,?_⟩)
  ·show (l.length+1)*1<=2^47;omega
  ·show (l++[_]).length=(w6 (i+1)).toNat;rw [wrap64 (by omega),List.length_append];simp;omega
 ·cases x with
  |inl l=>exact iy (aD (by rw [xc];exact hx))
  |inr r=>exact iv (aD hx)
theorem HO{k:Nat}(h:k<=10):(10:Int)^k<=10000000000:=by
 have h1:((10^k:Nat):Int)<=((10000000000:Nat):Int):=Int.ofNat_le.2 (Nat.le_trans (Nat.pow_le_pow_right (by decide) h) (by decide));rw [Int.natCast_pow] at h1;exact h1
theorem zz{u:List Int}:(R.eH u).sat λr=>0<=r.1/\r.1<=4294967294:=by
 unfold R.eH;refine aA λ_=>aB (R:=λb=>b=false->u.length<=10) (bK (λ_=>aD λe=>by cases e) λh0=>ef (λ_=>aD λe=>by cases e) λh1=>?_) λb hb=>aG (λ_=>aD ⟨by decide,by decide⟩) λe=>?_
 ·have h0:(u.length:Int)≠0:=h0;have h1:(u.length:Int)<=10:=h1
  exact bQ (by decide) (by show 0 < u.length;omega) λ_ _ _=>bK (λ_=>aD λ_=>by omega) λ_=>aD λ_=>by omega
 ·have hl:=hb e
  refine aB (gQ (Q:=λr:Int ⊕ (Int×Bool)=>match r with|.inl n=>0<=n|.inr r=>0<=r.1/\r.1<=4294967294) (λi=>i.2) u.length (by omega) (λx=>0<=x.1/\x.1+1<=10^x.2.toNat) (by simp) (by simp) (by simp) λx h0 h1 hI=>?_) λx hx=>?_
  ·obtain ⟨n,i⟩:=x;have h0:0<=i:=h0;have h1:i<=(u.length:Int):=h1;obtain ⟨n0,n1⟩:=hI;have n0:0<=n:=n0;have n1:n+1<=10^i.toNat:=n1;refine ef (λhi=>?_) λ_=>aD n0;have hi:i < (u.length:Int):=hi;refine bQ h0 (by show _ < u.length;omega) λd _ _=>aB (R:=λb=>b=true->48<=d/\d<=57) ?_ λb hb=>eD (aG (λe=>?_) λ_=>aD ⟨by decide,by decide⟩)
   ·unfold R.gJ
    exact aA λ_=>lb (λg=>aD λe=>⟨g,of_decide_eq_true e⟩) λ_=>aD λe=>by cases e
   ·obtain ⟨d0,d1⟩:=hb e;have d0:LE.le (α:=Int) (48) (d):=d0;have d1:LE.le (α:=Int) (d) (57):=d1;have hp:(10:Int)^i.toNat<=10000000000:=HO (by omega);have hp1:(10:Int)^(i.toNat+1)=10^i.toNat*10:=Int.pow_succ _ _;refine aD ⟨rfl,hi,?_⟩
    have w1:IntKind.wrap .u16 (d-48)=d-48:=by simp [w6,w6,IntKind.wrap,IntKind.signed,IntKind.bits];omega
    show 0<=w6 (w6 (10*n)+w6 (IntKind.wrap .u16 (d-48)))/\w6 (w6 (10*n)+w6 (IntKind.wrap .u16 (d-48)))+1<=10^(w6 (i+1)).toNat;rw [w1,wrap64 (n:=10*n) (by omega),wrap64 (n:=d-48) (by omega),wrap64 (n:=10*n+(d-48)) (by omega),wrap64 (n:=i+1) (by omega),show (i+1).toNat=i.toNat+1 by omega,hp1];omega
  ·cases x with
   |inl n=>exact iy (ef (λ_=>aD ⟨by decide,by decide⟩) λh=>aD ⟨hx,h⟩)
   |inr r=>exact iv (aD hx)
theorem F8{l:List (List UInt8)}{n:List UInt8}:(R.bt l n).sat λr=>-1<=r/\r < l.length/\(0<=r->n∈l):=by
 unfold R.bt;refine aA λh=>?_;simp only [Sg.i,oks,Sh.ok,Ty.ok,List.map,Par.v,Bool.and_eq_true] at h;have hl:=lZ h.1
 refine aB (gQ (Q:=λr:Unit ⊕ Int=>match r with|.inl _=>True|.inr r=>-1<=r/\r < l.length/\(0<=r->n∈l)) (λx=>x) l.length (by omega) (λ_=>True) (by omega) (by omega) trivial λx h0 h1 _=>?_) λx hx=>?_
 ·refine ef (λh=>bQ (by omega) (by omega) λe he _=>aG (λg=>aD ⟨by omega,by omega,λ_=>?_⟩) λ_=>aD ⟨rfl,by omega,trivial⟩) λ_=>aD trivial;rw [eq_of_beq g];exact List.mem_of_getElem? he
 ·cases x with
  |inl _=>exact iy (aD ⟨by omega,by omega,λh=>absurd h (by decide)⟩)
  |inr r=>exact iv (aD hx)
theorem Ar{l:List (List UInt8)}{n:List UInt8}:(R.aS l n).sat λr=>r=true->n∈l:=by
 unfold R.aS;exact aA λ_=>aB F8 λr hr=>aA λ_=>aD λe=>hr.2.2 (of_decide_eq_true e)
noncomputable def Db:List (List UInt8):=R.dD.strip.getD []
theorem ET:R.dD.sat (·=Db):=pH (a:=Db) (by kernel_rfl) rfl
def InN(s:List UInt8):Prop:=s∈([]::Db)
theorem HF{P:List UInt8->Bool}(h:([]::Db).all P=true){s:List UInt8}(hs:InN s):P s=true:=List.all_eq_true.1 h s hs
theorem G1:Db.length<=100:=of_decide_eq_true (by kernel_rfl)
theorem A4{s:List UInt8}(hs:InN s):s.length<=100:=of_decide_eq_true (HF (P:=λs=>decide (s.length<=100)) (by kernel_rfl) hs)
theorem uE{i:Int}:(R.fl i).sat λr=>InN r/\(i < 4096->r=[]):=by
 unfold R.fl;have hl:=G1;refine aA λ_=>aa ET (aA λ_=>aB (R:=λb=>b=false->4096<=i/\i < 4096+(Db.length:Int)) (ef (λ_=>aD λe=>by cases e) λh=>aD λe=>?_) λb hb=>aG (λ_=>aD ⟨List.mem_cons_self,λ_=>rfl⟩) λe=>?_)
 ·have e:=Int.not_le.1 (of_decide_eq_false e);rw [wrap64 (by omega)] at e;exact ⟨h,e⟩
 ·obtain ⟨h1,h2⟩:=hb e;rw [wrap64 (n:=i-4096) (by omega)];exact fZ (gY (by omega) (oL (by omega) (ba (by omega) (by show _ < Db.length;omega) λx hx _=>aD ⟨List.mem_cons_of_mem _ (List.mem_of_getElem? hx),λh=>absurd h (by omega)⟩)))
theorem ux{n:List UInt8}:(R.gB n).sat λr=>r=true->n≠[]:=by
 unfold R.gB;refine aA λ_=>eD (aG (λ_=>aD λe=>by cases e) λh=>bG (dw0:Safe _).ok λr _ _ e=>?_);subst e;cases h
theorem eli{k:Int}(h:1<=k/\k<=8):∃ z,ElI k z:=by
 rcases (by omega:k=1\/k=2\/k=3\/k=4\/k=5\/k=6\/k=7\/k=8) with rfl|rfl|rfl|rfl|rfl|rfl|rfl|rfl
 ·exact ⟨1,.k1⟩
 ·exact ⟨1,.k2⟩
 ·exact ⟨2,.k3⟩
 ·exact ⟨2,.k4⟩
 ·exact ⟨4,.k5⟩
 ·exact ⟨4,.k6⟩
 ·exact ⟨8,.k7⟩
 ·exact ⟨8,.k8⟩
theorem A8{n:List UInt8}:(R.fN n).sat λr=>0<=r/\r<=8:=by
 unfold R.fN R.fx;refine aA λ_=>fm (aA λ_=>aD (aA λ_=>aB F8 λr hr=>aA λ_=>aD ?_));obtain ⟨h1,h2,_⟩:=hr;have h2:r < 8:=h2;rw [wrap64 (by omega)];omega
theorem H0{n:List UInt8}:(R.jj n).sat λr=>0 < r->∃ z,ElI r z:=by
 unfold R.jj;exact aA λ_=>aB safe λr _=>aA λ_=>aG (λ_=>aB A8 λk hk=>aA λ_=>aD λh=>eli ⟨by omega,hk.2⟩) λ_=>aD λh=>absurd h (by decide)
def optB{α:Type}(o:Option α)(f:α->Bool):Bool :=
 match o with
 |some x=>f x
 |none=>false
theorem xC{α:Type}{m:Res α}{f:α->Bool}(h:optB m.strip f=true):m.sat λx=>f x=true:=by
 cases hm:m.strip with
 |none=>rw [hm] at h;cases h
 |some x =>
  rw [hm] at h;exact pH (Φ:=λx=>f x=true) hm h
abbrev dvw:List UInt8:=[68,97,116,97,86,105,101,119,35]
def VwN(n:List UInt8):Prop:=3<=n.length/\(R.fN (List.drop 3 n)).sat λk=>∃ z,ElI k z
theorem KS{s:List UInt8}(hs:InN s):(R.cY s dvw).sat λb=>b=true->(R.cB s dvw).sat VwN:=by
 have h:=HF (P:=λs=>optB (R.cY s dvw).strip λb=>!b || optB (R.cB s dvw).strip λt=>decide (3<=t.length) && optB (R.fN (List.drop 3 t)).strip λk=>decide (1<=k/\k<=8)) (by kernel_rfl) hs;refine bG (xC h) λb hb e=>?_;subst e;refine bG (xC hb) λt ht=>?_;rw [Bool.and_eq_true] at ht;exact ⟨of_decide_eq_true ht.1,bG (xC ht.2) λk hk=>eli (of_decide_eq_true hk)⟩
theorem Dd{n:List UInt8}:(R.gE n).sat λr=>∀ x∈r,x.length<=100:=by
 unfold R.gE;refine aA λ_=>aG (λ_=>aD ?_) λ_=>aG (λ_=>aD ?_) λ_=>aG (λ_=>aD ?_) λ_=>aG (λ_=>aD ?_) λ_=>aG (λ_=>aD ?_) λ_=>aD ?_
 all_goals decide
section
variable {C:Cx}{m b:Int}{s:RunT}
theorem pM(h:gy C m s)(hm:m<=2^39){c:jY}(hc:pX C.N s.2.2.2.2.1.2 c)(h1:c.2.2.1=[])(h2:c.2.2.2.1=[])(h3:b8 c.2.2.2.2.2.2.2.1)(h4:c.2.2.2.2.1.length<=4096:=by exact Nat.zero_le _):(R.aX s c).sat (cy C m s.2.2.2.2.2.2.1 s):=bG (pS h hm hc λ_ _=>H4 h1 h2 h3 h4) λ_ hr=>hr.1
theorem Ds{v:dZ}:(R.dx s v).sat λr=>r=true->0<=v.2.2.2.2/\∃ c,s.2.2.2.2.1.2[v.2.2.2.2.toNat]?=some c/\(Eq (α:=Int) (c.1) (5)\/Eq (α:=Int) (c.1) (6)):=by
 unfold R.dx;refine aA λ_=>eD (bK (λ_=>aB nf λr hr=>aA λ_=>?_) λ_=>aD λe=>by cases e);rcases hr with ⟨h0,_⟩|⟨i0,c,hc,e⟩
 ·subst h0;exact iC rfl (aD λe=>by cases e)
 ·subst e;exact bK (λe5=>aD λ_=>⟨i0,c,hc,.inl e5⟩) λ_=>aD λe6=>⟨i0,c,hc,.inr (eq_of_beq e6)⟩
theorem wC{N:List eT}{B:Nat}(hh:ir N B s.2.2.2.2.1){i:Int}{c:jY}(h0:0<=i)(hc:s.2.2.2.2.1.2[i.toNat]?=some c)(hk:Eq (α:=Int) (c.1) (5)\/Eq (α:=Int) (c.1) (6)):(R.cx s i).sat λr=>LE.le (α:=Int) (0) (r)/\LE.le (α:=Int) (r) (9007199254740991)/\qb s.2.2.2.2.1.2 i r:=by
 unfold R.cx;have g:=(hh.cl _ c hc).1;refine aA λ_=>jw (λc' _ hc'=>iC rfl (kA h0 hc (bK (λe=>aD ?_) λe=>aD ?_))) λhn=>absurd ⟨h0,(List.getElem?_eq_some_iff.1 hc).1⟩ hn
 ·exact ⟨(g.sh e).1,(g.sh e).2,h0,c,hc,.inr ⟨e,Int.le_refl _⟩⟩
 ·have e5:Eq (α:=Int) (c.1) (5):=hk.resolve_right e;have hl:=g.bf e5;exact ⟨by show LE.le (α:=Int) (0) (((c.2.2.2.2.2.2.2.2.2.2.2.2).length:Int));omega,by show LE.le (α:=Int) (((c.2.2.2.2.2.2.2.2.2.2.2.2).length:Int)) (_);omega,h0,c,hc,.inl ⟨e5,Int.le_refl _⟩⟩
theorem C5(h:gy C m s)(hm:m<=2^39){l:List dZ}(hl:∀ v∈l,b8 v):(R.ch s l).sat (cy C m s.2.2.2.2.2.2.1 s):=by
 unfold R.ch;obtain ⟨B,g1,g2,g3⟩:=h.heap hm;refine aA λ_=>aB (kq hl (by decide)) λa _=>aA λ_=>aB Ds λr2 hr2=>eD (aG (λe2=>?_) λ_=>aU (gZ h hm));obtain ⟨i0,c,hc,hk⟩:=hr2 e2;refine aB (wC g1 i0 hc hk) λn ⟨n0,n1,nb⟩=>aA λ_=>aB (kq hl (by decide)) λ_ _=>aA λ_=>aB nj λf ⟨f0,f1⟩=>aA λ_=>bx (λ_=>aU (gZ h hm)) λ_=>ef (λ_=>aU (gZ h hm)) λhf=>?_;have hf:LE.le (α:=Int) (f.1) (n):=hf;have ew:w6 (HSub.hSub (α:=Int) (β:=Int) (γ:=Int) (n) (f.1))=(HSub.hSub (α:=Int) (β:=Int) (γ:=Int) (n) (f.1)):=wrap64 (by omega);refine aB (R:=pz C m s.2.2.2.2.2.2.1 s λk:Int=>0<=k/\LE.le (α:=Int) ((HAdd.hAdd (α:=Int) (β:=Int) (γ:=Int) (f.1) (k))) (n)) (aB (kq hl (by decide)) λ_ _=>aA λ_=>eD (bK (λ_=>aD ?_) λ_=>aB nj λk ⟨k0,k1⟩=>aA λ_=>bx (λ_=>oy (gZ h hm)) λ_=>ef (λ_=>oy (gZ h hm)) λhk=>aD ?_)) λr hr=>oi hr λk ⟨k0,k1⟩=>aU (pM h hm (.vw1 rfl ⟨f0,k0,?_,?_⟩) rfl rfl bn)
 ·show 0<=w6 _/\LE.le (α:=Int) ((HAdd.hAdd (α:=Int) (β:=Int) (γ:=Int) (f.1) (w6 _))) (n);rw [ew];omega
 ·have hk:LE.le (α:=Int) (k.1) (w6 (HSub.hSub (α:=Int) (β:=Int) (γ:=Int) (n) (f.1))):=hk;rw [ew] at hk;show LE.le (α:=Int) (0) (k.1)/\LE.le (α:=Int) ((HAdd.hAdd (α:=Int) (β:=Int) (γ:=Int) (f.1) (k.1))) (n);omega
 ·show LE.le (α:=Int) ((HAdd.hAdd (α:=Int) (β:=Int) (γ:=Int) (f.1) (k))) (_);omega
 ·exact nb.le k1
theorem tdv{x z:Int}(hx:0<=x)(hx':x<=9007199254740991)(hz:1<=z/\z<=8):w6 (Int.tdiv x z)=x / z/\0<=x / z/\x / z<=x/\x / z*z<=x:=by
 have h1:Int.tdiv x z=x / z:=Int.tdiv_eq_ediv_of_nonneg hx;have h2:0<=x / z:=Int.ediv_nonneg hx (by omega);have h3:x / z<=x:=Int.ediv_le_self _ hx;have h4:x / z*z<=x:=Int.ediv_mul_le _ (by omega);rw [h1,wrap64 (by omega)];exact ⟨rfl,h2,h3,h4⟩
theorem Jv(h:gy C m s)(hm:m<=2^39){k z i:Int}(hz:ElI k z){c:jY}(i0:0<=i)(hc:s.2.2.2.2.1.2[i.toNat]?=some c)(hk:Eq (α:=Int) (c.1) (5)\/Eq (α:=Int) (c.1) (6)){x y:dZ}:(R.eM s k i x y).sat (cy C m s.2.2.2.2.2.2.1 s):=by
 unfold R.eM;obtain ⟨B,g1,g2,g3⟩:=h.heap hm;have z1:=hz.pos;refine aA λ_=>aa (mY hz) (aA λ_=>aB (wC g1 i0 hc hk) λn ⟨n0,n1,nb⟩=>aA λ_=>aB nj λf ⟨f0,f1⟩=>aA λ_=>bx (λ_=>aU (gZ h hm)) λ_=>tZ (by omega) (bx (λ_=>aU (gZ h hm)) λ_=>?_));refine aB (R:=pz C m s.2.2.2.2.2.2.1 s λk:Int=>0<=k/\k<=9007199254740991) (bx (λ_=>aB nj λk hk=>aA λ_=>bx (λ_=>oy (gZ h hm)) λ_=>aD hk) λ_=>aD ⟨by decide,by decide⟩) λr hr=>oi hr λq ⟨q0,q1⟩=>?_;refine aB (R:=pz C m s.2.2.2.2.2.2.1 s λq:Int=>0<=q/\q<=9007199254740991/\LE.le (α:=Int) ((HAdd.hAdd (α:=Int) (β:=Int) (γ:=Int) (f.1) (q*z))) (n)) (aB (R:=λb=>b=false->LE.le (α:=Int) (f.1) (n)/\q<=(HSub.hSub (α:=Int) (β:=Int) (γ:=Int) (n) (f.1)) / z) ?_ λb hb=>aG (λ_=>oy (gZ h hm)) λe=>?_) λr hr=>oi hr λq ⟨q0,q1,q2⟩=>aU (pM h hm (.ty1 rfl ⟨hz,f0,q0,q1,?_,?_⟩) rfl rfl bn)
 ·have hlast:LE.le (α:=Int) (f.1) (n)->(aZ (!(z == 0)) (Res.ok (ilt (w6 (Int.tdiv (w6 (HSub.hSub (α:=Int) (β:=Int) (γ:=Int) (n) (f.1))) z)) q))).sat λb=>b=false->LE.le (α:=Int) (f.1) (n)/\q<=(HSub.hSub (α:=Int) (β:=Int) (γ:=Int) (n) (f.1)) / z:=λhf=>tZ (by omega) (aD λe=>⟨hf,by
   have e:=Int.not_lt.1 (of_decide_eq_false e);rw [wrap64 (n:=(HSub.hSub (α:=Int) (β:=Int) (γ:=Int) (n) (f.1))) (by omega),(tdv (x:=(HSub.hSub (α:=Int) (β:=Int) (γ:=Int) (n) (f.1))) (z:=z) (by omega) (by omega) ⟨z1.1,z1.2.1⟩).1] at e
   exact e⟩)
  exact bK (λ_=>tZ (by omega) (bx (λ_=>aD λe=>by cases e) λ_=>ef (λ_=>aD λe=>by cases e) λhf=>hlast hf)) λ_=>ef (λ_=>aD λe=>by cases e) λhf=>hlast hf
 ·obtain ⟨hf,hq⟩:=hb e;obtain ⟨t1,t2,t3,t4⟩:=tdv (x:=(HSub.hSub (α:=Int) (β:=Int) (γ:=Int) (n) (f.1))) (z:=z) (by omega) (by omega) ⟨z1.1,z1.2.1⟩;refine bK (λ_=>tZ (by omega) (aD ?_)) λ_=>aD ?_
  ·show 0<=w6 (Int.tdiv (w6 (HSub.hSub (α:=Int) (β:=Int) (γ:=Int) (n) (f.1))) z)/\w6 (Int.tdiv (w6 (HSub.hSub (α:=Int) (β:=Int) (γ:=Int) (n) (f.1))) z)<=9007199254740991/\LE.le (α:=Int) ((HAdd.hAdd (α:=Int) (β:=Int) (γ:=Int) (f.1) (w6 (Int.tdiv (w6 (HSub.hSub (α:=Int) (β:=Int) (γ:=Int) (n) (f.1))) z)*z))) (n);rw [wrap64 (n:=(HSub.hSub (α:=Int) (β:=Int) (γ:=Int) (n) (f.1))) (by omega),t1];omega
  ·have:q*z<=(HSub.hSub (α:=Int) (β:=Int) (γ:=Int) (n) (f.1)) / z*z:=Int.mul_le_mul_of_nonneg_right hq (by omega);show 0<=q/\q<=9007199254740991/\LE.le (α:=Int) ((HAdd.hAdd (α:=Int) (β:=Int) (γ:=Int) (f.1) (q*z))) (n);omega
 ·show LE.le (α:=Int) ((HAdd.hAdd (α:=Int) (β:=Int) (γ:=Int) (f.1) (q*z))) (_);omega
 ·exact nb.le q2
theorem FR(h:gy C m s)(hm:m<=2^39){k z:Int}(hz:ElI k z){l:List dZ}(hl:∀ v∈l,b8 v):(R.dG s k l).sat (cy C m s.2.2.2.2.2.2.1 s):=by
 unfold R.dG;have z1:=hz.pos;refine aA λ_=>aB (kq hl (by decide)) λa _=>aA λ_=>aB (kq hl (by decide)) λ_ _=>aA λ_=>aB (kq hl (by decide)) λ_ _=>aA λ_=>aa (mY hz) (aA λ_=>aB Ds λr2 hr2=>aG (λe2=>?_) λ_=>bK (λ_=>aU (fe h)) λ_=>aB nj λn ⟨n0,n1⟩=>aA λ_=>bx (λ_=>aU (gZ h hm)) λ_=>tZ (by omega) (ef (λ_=>aU (gZ h hm)) λhn=>?_))
 ·obtain ⟨i0,c,hc,hk⟩:=hr2 e2;exact aU (Jv h hm hz i0 hc hk)
 ·obtain ⟨t1,t2,t3,t4⟩:=tdv (x:=4096) (z:=z) (by omega) (by omega) ⟨z1.1,z1.2.1⟩;have hn:LE.le (α:=Int) (n.1) (w6 (Int.tdiv 4096 z)):=hn;rw [t1] at hn;have h1:HMul.hMul (α:=Int) (β:=Int) (γ:=Int) n.1 z<=4096 / z*z:=Int.mul_le_mul_of_nonneg_right hn (by omega);have h0:0<=HMul.hMul (α:=Int) (β:=Int) (γ:=Int) n.1 z:=Int.mul_nonneg n0 (by omega);have ew:w6 (HMul.hMul (α:=Int) (β:=Int) (γ:=Int) n.1 z)=HMul.hMul (α:=Int) (β:=Int) (γ:=Int) n.1 z:=wrap64 (by omega);obtain ⟨w,hw⟩:∃ w,w=HMul.hMul (α:=Int) (β:=Int) (γ:=Int) n.1 z:=⟨_,rfl⟩;rw [ew,<- hw];rw [<- hw] at h1 h0;refine fZ (gY h0 (fZ (gY (Int.le_refl _) (n_d (by omega) (aB (pS h hm (.bf1 rfl ?_) λ_ _=>H4 rfl rfl bn) λr ⟨r1,r2⟩=>aA λ_=>bx (λ_=>aD r1) λe=>?_)))))
  ·show (List.replicate w.toNat (0:Int)).length<=4096;rw [List.length_replicate];omega
  ·obtain ⟨_,_,j0,hj⟩:=r2 (by rw [e];decide);have a1:=r1.2.a0 e;refine aU (bG (pM a1.run hm (.ty1 rfl ⟨hz,Int.le_refl 0,n0,n1,?_,j0,_,hj,.inl ⟨rfl,?_⟩⟩) rfl rfl bn) λ_ hr=>hr.cat a1)
   ·show LE.le (α:=Int) ((HAdd.hAdd (α:=Int) (β:=Int) (γ:=Int) (0) (HMul.hMul (α:=Int) (β:=Int) (γ:=Int) n.1 z))) (_);rw [<- hw];omega
   ·show LE.le (α:=Int) ((HAdd.hAdd (α:=Int) (β:=Int) (γ:=Int) (0) (HMul.hMul (α:=Int) (β:=Int) (γ:=Int) n.1 z))) (((List.replicate w.toNat (0:Int)).length:Int));rw [<- hw,List.length_replicate];omega
end
end Go.Mach

set_option maxRecDepth 100000
namespace Go.Mach
open Res
theorem l0:0<=(0:Int)/\(0:Int)<=9007199254740991:=⟨by decide,by decide⟩
theorem z6:(0:Int)=0/\false=false/\false=false/\(0:Int)=0/\(0:Int)=0/\(0:Int)=0:=⟨rfl,rfl,rfl,rfl,rfl,rfl⟩
theorem nw0:DB (0,0):=.inl ⟨rfl,by decide,by decide⟩
theorem qa{q:uP}(kk:Int)(hk:Eq (α:=Int) (q.1) (kk))(k:1<=kk/\kk<=14)(k':kk < 2\/6 < kk)(ln:LE.le (α:=Int) (0) (q.2.2.2.2.2.2.2.2.2.2.2)/\LE.le (α:=Int) (q.2.2.2.2.2.2.2.2.2.2.2) (9007199254740991))(tx:(q.2.2.2.2.2.2.2.2.2.2.1).length<=4096)(nm:DB q.2.2.2.2.2.2.2.2.2.1)(z:q.2.2.2.1=0/\q.2.2.2.2.2.1=false/\q.2.2.2.2.2.2.1=false/\q.2.2.2.2.2.2.2.1=0/\q.2.2.2.2.2.2.2.2.1=0/\q.2.2.2.2.1=0):xX q:=⟨by rw [hk];exact k,ln,tx,nm,λ_=>z,λh=>by
 have h1:LE.le (α:=Int) (2) (q.1):=h.1;have h2:LE.le (α:=Int) (q.1) (6):=h.2
 omega⟩
theorem EJ{q:uP}(kk:Int)(hk:Eq (α:=Int) (q.1) (kk))(k:2<=kk/\kk<=6)(ln:LE.le (α:=Int) (0) (q.2.2.2.2.2.2.2.2.2.2.2)/\LE.le (α:=Int) (q.2.2.2.2.2.2.2.2.2.2.2) (9007199254740991))(tx:(q.2.2.2.2.2.2.2.2.2.2.1).length<=4096)(nm:DB q.2.2.2.2.2.2.2.2.2.1)(z:(q.2.2.2.1=1\/q.2.2.2.1=2\/q.2.2.2.1=4\/q.2.2.2.1=8)/\(q.2.2.2.1=8\/(q.2.2.2.2.2.2.2.1 < 2^(8*q.2.2.2.1).toNat/\q.2.2.2.2.2.2.2.2.1 < 2^(8*q.2.2.2.1).toNat))/\0<=q.2.2.1/\(q.2.2.2.2.2.1=true->q.2.2.2.2.2.2.1=true))(o:(kk=4->LT.lt (α:=Int) (0) (q.2.2.2.2.1)/\LE.le (α:=Int) (q.2.2.2.2.1) (6))/\(kk≠4->Eq (α:=Int) (q.2.2.2.2.1) (0))):xX q:=by
 refine ⟨?_,ln,tx,nm,λh=>?_,λ_=>⟨z.1,z.2.1,z.2.2.1,z.2.2.2,λe=>o.1 (hk.symm.trans e),λe=>o.2 λg=>e (hk.trans g)⟩⟩
 ·rw [hk];exact (⟨by omega,by omega⟩:(1:Int)<=kk/\kk<=14)
 ·have h:LT.lt (α:=Int) (q.1) (2)\/LT.lt (α:=Int) (6) (q.1):=h;omega
theorem pw(z:Int):(0:Int) < 2^(8*z).toNat:=Int.pow_pos (by decide)
theorem Ed{v:dZ}:(R.cV v).sat λr=>b8 r.1:=by
 unfold R.cV;exact aA λ_=>q_p λr _=>aA λ_=>bK (λ_=>q_b λ_=>aA λ_=>aB qh λ_ h=>aA λ_=>aD (vk h)) λ_=>q_b λ_=>aA λ_=>bx (λ_=>aD bn) λ_=>aB ni λ_ h=>aA λ_=>aD (vk h)
theorem Ka{o:List UInt8}{v:dZ}:(R.ji o v).sat λr=>b8 r.1:=by
 unfold R.ji;exact aA λ_=>aG (λ_=>q_b λ_=>aB lA λ_ h=>aA λ_=>aD (vk h)) λ_=>aG (λ_=>aD bn) λ_=>aG (λ_=>q_b λ_=>aA λ_=>bx (λ_=>aD bn) λ_=>aB ni λ_ h=>aA λ_=>aD (vk h)) λ_=>aB (dw0:Safe _).ok λ_ _=>aG (λ_=>q_b λ_=>aA λ_=>bx (λ_=>aD bn) λ_=>aB (dw0:Safe _).ok λ_ _=>aG (λ_=>q_b λ_=>aA λ_=>aB qh λ_ h=>aA λ_=>aD (vk h)) λ_=>aG (λ_=>q_b λ_=>aA λ_=>aB ni λ_ h=>aA λ_=>aD (vk h)) λ_=>bK (λ_=>aD bn) λ_=>q_b λ_=>aA λ_=>aB ni λ_ h=>aA λ_=>aD (vk h)) λ_=>aD bn
theorem uQ{a:aj.den}{b:Bool}:(R.fE a b).sat λr=>b8 r.1:=by
 unfold R.fE;exact aA λ_=>eD (aG (λ_=>aB qh λ_ h=>aA λ_=>aD (vk h)) λ_=>aD bn)
theorem tA{a:aI.den}{b:Bool}:(R.cp a b).sat λr=>b8 r.1:=by
 unfold R.cp;exact aA λ_=>eD (aG (λ_=>aB ni λ_ h=>aA λ_=>aD (vk h)) λ_=>aD bn)
theorem step_t{v:dZ}{n:Int}:(R.kZ v n).sat λr=>b8 r.1:=by
 unfold R.kZ;exact aA λ_=>q_b λ_=>aA λ_=>bx (λ_=>aD bn) λ_=>aB (dw0:Safe _).ok λ_ _=>aG (λ_=>aD bn) λ_=>bK (λ_=>q_b λ_=>aA λ_=>q_b λ_=>aA λ_=>aU uQ) λ_=>q_b λ_=>aA λ_=>aU tA
theorem join_t{a b:dZ}:(R.kj a b).sat λr=>b8 r.1:=by
 unfold R.kj;exact aA λ_=>q_p λr hr=>aA λ_=>bx (λ_=>aD bn) λ_=>q_p λr' hr'=>aA λ_=>bx (λ_=>aD bn) λ_=>ef (λ_=>aD bn) λ_=>n_d (by omega) (aB nH λ_ h=>aA λ_=>aD h.1)
theorem bigs_t{o:List UInt8}{a b:aj.den}:(R.ke o a b).sat λr=>b8 r.1:=by
 unfold R.ke;exact aA λ_=>aG (λ_=>q_b λ_=>aA λ_=>aU uQ) λ_=>aG (λ_=>q_b λ_=>aA λ_=>aU uQ) λ_=>aG (λ_=>q_b λ_=>aA λ_=>aU uQ) λ_=>q_b λ_=>aA λ_=>aB (R:=λ_=>True) (aG (λ_=>q_b λ_=>aA λ_=>aD trivial) λ_=>aD trivial) λ_ _=>bx (λ_=>aD bn) λ_=>aB qh λ_ h=>aA λ_=>aD (vk h)
theorem Hq{o:List UInt8}{a b:dZ}:(R.ju o a b).sat λr=>b8 r.1:=by
 unfold R.ju;exact aA λ_=>q_b λ_=>aA λ_=>bx (λ_=>aD bn) λ_=>bK (λ_=>aU bigs_t) λ_=>aG (λ_=>q_b λ_=>aA λ_=>aU tA) λ_=>aG (λ_=>q_b λ_=>aA λ_=>aU tA) λ_=>aG (λ_=>q_b λ_=>aA λ_=>aU tA) λ_=>aG (λ_=>q_b λ_=>aA λ_=>aU tA) λ_=>q_b λ_=>aA λ_=>aU tA
theorem bits_t{o:List UInt8}{a b:dZ}:(R.kg o a b).sat λr=>b8 r.1:=by
 unfold R.kg;exact aA λ_=>q_b λ_=>aA λ_=>bx (λ_=>aD bn) λ_=>aB (dw0:Safe _).ok λ_ _=>aG (λ_=>aD bn) λ_=>bK (λ_=>aD bn) λ_=>aB (dw0:Safe _).ok λ_ _=>q_b λ_=>aA λ_=>aB ni λ_ h=>aA λ_=>aD (vk h)
theorem AU{a b:dZ}{t n:Bool}:(R.iF a b t n).sat λr=>b8 r.1:=by
 unfold R.iF;exact aA λ_=>aB (dw0:Safe _).ok λ_ _=>aG (λ_=>aD bn) λ_=>aB (dw0:Safe _).ok λ_ _=>aG (λ_=>aB (dw0:Safe _).ok λ_ _=>q_b λ_=>aB lA λ_ h=>aA λ_=>aD (vk h)) λ_=>aB (dw0:Safe _).ok λ_ _=>aG (λ_=>aD bn) λ_=>q_b λ_=>aA λ_=>bx (λ_=>aD bn) λ_=>q_b λ_=>aA λ_=>bx (λ_=>aD bn) λ_=>aB (dw0:Safe _).ok λ_ _=>q_b λ_=>aA λ_=>aG (λ_=>aB lA λ_ h=>aA λ_=>aD (vk h)) λ_=>aB lA λ_ h=>aA λ_=>aD (vk h)
theorem B5{o:List UInt8}{a b:dZ}:(R.ga o a b).sat λr=>b8 r.1:=by
 unfold R.ga;exact aA λ_=>q_p λ_ _=>aA λ_=>q_p λ_ _=>aA λ_=>aG (λ_=>aB (dw0:Safe _).ok λ_ _=>aG (λ_=>aU join_t) λ_=>aU Hq) λ_=>aB (dw0:Safe _).ok λ_ _=>aG (λ_=>aU Hq) λ_=>aB (dw0:Safe _).ok λ_ _=>aG (λ_=>aU bits_t) λ_=>aG (λ_=>aU AU) λ_=>aG (λ_=>aU AU) λ_=>aG (λ_=>aU AU) λ_=>aG (λ_=>aU AU) λ_=>aG (λ_=>q_b λ_=>aB lA λ_ h=>aA λ_=>aD (vk h)) λ_=>aG (λ_=>q_b λ_=>aB lA λ_ h=>aA λ_=>aD (vk h)) λ_=>aB (dw0:Safe _).ok λ_ _=>aG (λ_=>q_b λ_=>aA λ_=>bx (λ_=>aD bn) λ_=>aB lA λ_ h=>aA λ_=>aD (vk h)) λ_=>aD bn
instance J6{v}:Safe (R.kH v):=by unfold R.kH;exact dw0
instance FY{z}:Safe (R.cL z):=by unfold R.cL;exact dw0
instance F3{n}:Safe (R.iG n):=by unfold R.iG;exact dw0
theorem CN{n:List UInt8}:(R.iD n).sat λr=>0 < r/\r<=6:=by
 unfold R.iD;refine aA λ_=>aG (λ_=>aD ?_) λ_=>aG (λ_=>aD ?_) λ_=>aG (λ_=>aD ?_) λ_=>aG (λ_=>aD ?_) λ_=>aG (λ_=>aD ?_) λ_=>aD ?_
 all_goals decide
section
variable {N:List eT}{B:Nat}{h:qW}
theorem Jw(hh:ir N B h)(hB:B<=2^39){i:Int}{n:List Int}{v:dZ}{c:jY}(h0:0<=i)(hc:h.2[i.toNat]?=some c)(hlt:c.2.2.1.length < B)(hv:b8 v):(R.bc h i n v).sat λr=>ir N B r.2/\nz h.2 r.2.2/\∃ d,r.2.2[i.toNat]?=some d/\d.2.2.1.length<=c.2.2.1.length+1:=by
 unfold R.bc;have hi:=(List.getElem?_eq_some_iff.1 hc).1;refine aA λ_=>jw (λc' _ _=>iC rfl (kA h0 hc ?_)) λhn=>absurd ⟨h0,hi⟩ hn;have hl:=(hh.cl _ c hc).2;have hp:=hl.pn;have hs:h.2.set i.toNat c=h.2:=ob hc;rw [hs];refine aB (wP (h:=(h.1,h.2)) h0 hc (by omega)) λr ⟨r0,r1⟩=>aA λ_=>lb (λhr=>bD (by simp) (aa oo (aA λ_=>bD (by simp [ile,ilt];omega) (ba (by omega) (by omega) λp _ _=>aD ⟨?_,?_,_,List.getElem?_set_self hi,?_⟩)))) λhr=>bD (by simp) (qD (aA λ_=>aa oo (aA λ_=>bD (decide_eq_true (by simp;omega)) (bD (by simp) (aD ⟨?_,?_,_,List.getElem?_set_self hi,?_⟩)))))
 ·exact hh.set hc ⟨rfl,rfl,rfl,rfl,rfl,rfl,rfl⟩ (hl.props (Nat.le_refl B) (by show (c.2.2.1.set _ _).length<=_;rw [List.length_set];omega) (sB hl.pv hv) rfl)
 ·exact .set hc ⟨rfl,rfl,rfl,rfl,rfl,rfl,rfl⟩
 ·show (c.2.2.1.set _ _).length<=_;rw [List.length_set];omega
 ·exact hh.set hc ⟨rfl,rfl,rfl,rfl,rfl,rfl,rfl⟩ (hl.props (Nat.le_refl B) (by show (c.2.2.1++[_]).length<=_;simp;omega) (ri hl.pv hv) rfl)
 ·exact .set hc ⟨rfl,rfl,rfl,rfl,rfl,rfl,rfl⟩
 ·show (c.2.2.1++[_]).length<=_;simp
end
section
variable {C:Cx}{m b:Int}{s:RunT}{l:List dZ}{x y v t:dZ}
theorem JV{B:Nat}(h:gy C m s)(h1:ir C.N B s.2.2.2.2.1)(h2:B<=2^39)(h3:(B:Int)+134217728*((HSub.hSub (α:=Int) (β:=Int) (γ:=Int) (C.F) (s.2.2.2.2.2.2.1)))<=m){c:jY}(hc:pX C.N s.2.2.2.2.1.2 c)(hv:tE B c):(R.aX s c).sat λr=>cy C m s.2.2.2.2.2.2.1 s r/\(r.1.2=0->ir C.N B r.2.2.2.2.2.1/\Eq (α:=Int) (r.2.2.2.2.2.2.2.1) (s.2.2.2.2.2.2.1)/\LE.le (α:=Int) (0) (r.1.1.2.2.2.2)/\r.2.2.2.2.2.1.2[r.1.1.2.2.2.2.toNat]?=some c):=by
 unfold R.aX
 refine aA λ_=>aB (D5 h1 h2 hc hv) λr ⟨r1,r2,r3⟩=>aA λ_=>eD (aG (λhr=>aD ⟨⟨.of (show (6:Int)≠5 by decide),.inr ⟨show (0:Int)≠5 by decide,h.put r1 h3,r2,rfl,Int.le_refl _⟩⟩,λ_=>⟨r1,rfl,r3 hr⟩⟩) λ_=>aa qg (aA λ_=>aD ⟨⟨bn,.inl ⟨rfl,h.halt (by decide)⟩⟩,λe=>absurd (show (5:Int)=0 from e) (by decide)⟩))
theorem Ci(hc:jU C)(h:gy C m s)(hm:m<=2^39)(hl:∀ v∈l,b8 v):(R.cb s l).sat (cy C m s.2.2.2.2.2.2.1 s):=by
 unfold R.cb;refine aA λ_=>aB (kq hl (by decide)) λ_ _=>aA λ_=>aB nj λn ⟨n0,n1⟩=>aA λ_=>bx (λ_=>aU (gZ h hm)) λ_=>aB (kq hl (by decide)) λ_ _=>aA λ_=>bx (λ_=>aU (fe h)) λ_=>aB (sK h hc.A (qa 1 rfl (by decide) (by decide) ⟨n0,n1⟩ (Nat.zero_le _) nw0 z6)) λr ⟨g,_⟩=>aA λ_=>bx (λ_=>aD ⟨bn,g⟩) λe=>?_;have a:=g.a0 e;exact bx (λ_=>aU (bG (gZ a.run hm) λ_ hr=>hr.cat a)) λ_=>aU (bG (pM a.run hm (.sh1 rfl ⟨n0,n1⟩) rfl rfl bn) λ_ hr=>hr.cat a)
theorem Eh(h:gy C m s)(hm:m<=2^39):(R.dL s x y).sat (cy C m s.2.2.2.2.2.2.1 s):=by
 unfold R.dL;exact aA λ_=>aB (R:=pz C m s.2.2.2.2.2.2.1 s λ_:Int=>True) (aB (R:=λ_=>True) (bK (λ_=>aB nf λ_ _=>aA λ_=>aD trivial) λ_=>aD trivial) λ_ _=>aG (λ_=>oy (fe h)) λ_=>bK (λ_=>aD trivial) λ_=>o7 (λ_=>oy (gZ h hm)) λ_=>aD trivial) λr hr=>oi hr λ_ _=>bx (λ_=>aU (fe h)) λ_=>aU (pM h hm (.mk' 1 rfl (by decide)) rfl rfl bn)
theorem JN(h:gy C m s)(hm:m+20000<=2^39)(hn:l.length<=20000)(hl:∀ v∈l,b8 v):(R.eK s t l).sat (cy C (m+20000) s.2.2.2.2.2.2.1 s):=by
 unfold R.eK;refine aA λ_=>aB (R:=λ_=>True) (o7 (λ_=>aD trivial) λ_=>aB nf λ_ _=>aA λ_=>aD trivial) λ_ _=>aG (λ_=>aU (fe h |> λg=>bG g λ_ hr=>cy.up (m:=m) hr (by omega))) λ_=>aB (gQ (Q:=λH:qW=>Aft C (m+20000) s.2.2.2.2.2.2.1 s (s.1,(s.2.1,(s.2.2.1,(s.2.2.2.1,(H,s.2.2.2.2.2)))))) (λy=>y.1) l.length (by omega) (λw=>Aft C (m+w.1) s.2.2.2.2.2.2.1 s (s.1,(s.2.1,(s.2.2.1,(s.2.2.2.1,(w.2,s.2.2.2.2.2)))))) (by simp) (by simp) (by show Aft C (m+0) _ _ _;rw [Int.add_zero];exact Aft.refl h) λw w0 w1 wI=>?_) λH hH=>aB pO λ_ _=>aA λ_=>aB mB λ_ hv=>aA λ_=>aD ⟨hv,.ok hH⟩;obtain ⟨j,H⟩:=w;have w0:0<=j:=w0;have w1:j<=(l.length:Int):=w1;have wI:Aft C (m+j) s.2.2.2.2.2.2.1 s (s.1,(s.2.1,(s.2.2.1,(s.2.2.2.1,(H,s.2.2.2.2.2))))):=wI;refine ef (λhj=>?_) λ_=>aD (wI.up (by omega));have hj:j < (l.length:Int):=hj;refine bQ w0 (by show _ < l.length;omega) λv hv _=>aB pO λ_ _=>aA λ_=>q_b λ_=>aA λ_=>aB (uF wI.run (by omega) (hl v (List.mem_of_getElem? hv))) λr hr=>aA λ_=>aD ⟨rfl,hj,?_⟩;show Aft C (m+w6 (j+1)) _ _ _;rw [wrap64 (n:=j+1) (by omega),<- Int.add_assoc];exact wI.cat hr
theorem Gt(h:gy C m s)(hm:m<=2^39):(R.eI s x).sat (cy C m s.2.2.2.2.2.2.1 s):=by
 unfold R.eI;obtain ⟨B,g1,g2,g3⟩:=h.heap hm;refine aA λ_=>q_b λ_=>aG (λ_=>aU (gZ h hm)) λ_=>aB (R:=λr:Int=>r≠0->0<=x.2.2.2.2/\∃ c,s.2.2.2.2.1.2[x.2.2.2.2.toNat]?=some c) (bK (λ_=>aB nf λr hr=>aA λ_=>aD λhne=>?_) λ_=>aD λe=>absurd rfl e) λkd hkd=>aB (R:=pz C m s.2.2.2.2.2.2.1 s λl:List (List Int)=>l.length<=B) (bK (λe1=>?_) λ_=>bK (λe2=>?_) λ_=>oy (fe h)) λr hr=>oi hr λl hl=>?_
 ·rcases hr with ⟨h0,_⟩|⟨i0,c,hc,_⟩
  ·exact absurd h0 hne
  ·exact ⟨i0,c,hc⟩
 ·obtain ⟨i0,c,hc⟩:=hkd (iw e1 (by decide));have hp:=(g1.cl _ c hc).2.pn;exact aB (Hj i0 hc (by omega)) λl hl=>aA λ_=>aD (by show l.length<=B;omega)
 ·refine aB pO λq hq=>aA λ_=>?_
  have hqB:LE.le (α:=Int) (0) (q)/\LE.le (α:=Int) (q) ((B:Int)):=by
   rcases hq with hq|⟨c,i0,hc,hq⟩
   ·rw [hq];omega
   ·have hp:=(g1.cl _ c hc).2.pn;rw [hq];omega
  obtain ⟨q',hq'⟩:∃ q':Int,q'=q:=⟨_,rfl⟩;have hqB':0<=q'/\q'<=(B:Int):=hq'▸hqB;refine aB (gQ (Q:=λl:List (List Int)=>l.length<=B) (λy=>y.2) q'.toNat (by omega) (λy=>y.1.length=y.2.toNat) (by simp) (by show (0:Int)<=(q'.toNat:Int);omega) (by simp) λy y0 y1 yI=>?_) λl hl=>aD hl;obtain ⟨l,j⟩:=y;have y0:0<=j:=y0;have y1:j<=(q'.toNat:Int):=y1;have yI:l.length=j.toNat:=yI;refine ef (λhj=>?_) λ_=>aD (by show l.length<=B;omega)
  have hj:j < q':=by rw [hq'];exact hj
  refine q_b λu=>aA λ_=>bD (decide_eq_true ?_) (aD ⟨rfl,?_,?_⟩)
  ·show (l.length+1)*24<=2^47;omega
  ·show j < (q'.toNat:Int);omega
  ·show (l++[u]).length=(w6 (j+1)).toNat;rw [wrap64 (by omega),List.length_append];simp;omega
 ·refine aB (JV h g1 g2 g3 (.mk' 2 rfl (by decide)) (H4 rfl rfl bn)) λr2 ⟨h2,h3⟩=>aA λ_=>bx (λ_=>aD h2) λe2=>?_;obtain ⟨k1,k2,k3,k4⟩:=h3 e2;have a2:=h2.2.a0 e2;refine aB (gQ (Q:=λH:qW=>ir C.N B H/\nz r2.2.2.2.2.2.1.2 H.2) (λy=>y.1) l.length (by have hl:l.length<=B:=hl;omega) (λy=>ir C.N B y.2/\nz r2.2.2.2.2.2.1.2 y.2.2/\∃ c,y.2.2[r2.1.1.2.2.2.2.toNat]?=some c/\c.2.2.1.length<=y.1.toNat) (by simp) (by simp) ⟨k1,.refl _,_,k4,Nat.zero_le _⟩ λy y0 y1 yI=>?_) λH ⟨hH1,hH2⟩=>aD ⟨h2.1,.ok (a2.cat ⟨a2.run.put hH1 (by rw [k2];exact g3),hH2,rfl,Int.le_refl _⟩)⟩;obtain ⟨j,H⟩:=y;have y0:0<=j:=y0;have y1:j<=(l.length:Int):=y1;obtain ⟨i1,i2,c,i3,i4⟩:=yI;have i1:ir C.N B H:=i1;have i2:nz r2.2.2.2.2.2.1.2 H.2:=i2;have i3:H.2[r2.1.1.2.2.2.2.toNat]?=some c:=i3;have i4:c.2.2.1.length<=j.toNat:=i4;refine ef (λhj=>?_) λ_=>aD ⟨i1,i2⟩;have hj:j < (l.length:Int):=hj;have hl:l.length<=B:=hl;refine fZ (gY y0 (oL hj (ba (by omega) (by show ((0:Int)+(Int.toNat j:Int)).toNat < l.length;omega) λu _ _=>q_b λ_=>aA λ_=>aB nH λw hw=>aA λ_=>aB (Jw i1 g2 k3 i3 (by omega) hw.1) λr3 ⟨q1,q2,d,q3,q4⟩=>aA λ_=>aD ⟨rfl,hj,q1,i2.trans q2,d,q3,?_⟩)));show d.2.2.1.length<=(w6 (j+1)).toNat;rw [wrap64 (by omega)];omega
theorem B7(h:gy C m s)(hm:m<=2^39){n:Int}:(R.cR s x n).sat (cy C m s.2.2.2.2.2.2.1 s):=by
 unfold R.cR;exact aA λ_=>bK (λ_=>aB mB λ_ hv=>aA λ_=>aD (mc h hv)) λ_=>bK (λ_=>q_p λ_ _=>aA λ_=>q_b λ_=>aA λ_=>eD (aG (λ_=>aB ni λ_ hv=>aA λ_=>aD (mc h (vk hv))) λ_=>aU (fe h))) λ_=>q_b λ_=>aA λ_=>aB ni λ_ hv=>aA λ_=>aU (qK h hm (vk hv))
theorem Ei(h:gy C m s)(hm:m<=2^39):(R.dE s x).sat (cy C m s.2.2.2.2.2.2.1 s):=by
 unfold R.dE;exact aA λ_=>bK (λ_=>q_b λ_=>aA λ_=>aB (dw0:Safe _).ok λ_ _=>aG (λ_=>q_b λ_=>aA λ_=>aB qh λ_ hv=>aA λ_=>aD (mc h (vk hv))) λ_=>aU (gZ h hm)) λ_=>q_b λ_=>aA λ_=>aB qh λ_ hv=>aA λ_=>aU (qK h hm (vk hv))
theorem Cv(h:gy C m s)(hm:m<=2^39){n:List UInt8}(hn:n.length<=4096):(R.cf s n x).sat (cy C m s.2.2.2.2.2.2.1 s):=by
 unfold R.cf;exact aA λ_=>aB nH λw hw=>aA λ_=>aB (R:=pz C m s.2.2.2.2.2.2.1 s b8) (bx (λ_=>q_p λ_ _=>aA λ_=>bx (λ_=>oy (gZ h hm)) λ_=>aB nH λw hw=>aA λ_=>aD hw.1) λ_=>aD hw.1) λr hr=>oi hr λw hw=>aU (pM h hm (.mk' 10 rfl (by decide)) rfl rfl hw hn)
theorem Iz:(R.er s v).sat λr=>r.length<=100:=by
 unfold R.er;exact aA λ_=>bK (λ_=>aD (by decide)) λ_=>bK (λ_=>aD (by decide)) λ_=>bK (λ_=>aD (by decide)) λ_=>bK (λ_=>aD (by decide)) λ_=>bK (λ_=>aD (by decide)) λ_=>bK (λ_=>aB (R:=λ_=>True) (aB nf λ_ _=>aA λ_=>bK (λ_=>aD trivial) λ_=>aB uE λ_ _=>aA λ_=>aB ux λ_ _=>aD trivial) λ_ _=>aG (λ_=>aD (by decide)) λ_=>aD (by decide)) λ_=>aD (by decide)
end
end Go.Mach

set_option maxRecDepth 100000
namespace Go.Mach
open Res
theorem u9{x:Int}(h:0<=x/\x < 18446744073709551616):IntKind.wrap .u64 x=x:=by
 simp [w6,w6,IntKind.wrap,IntKind.signed,IntKind.bits];omega
theorem or_lt{a b:Int}{k:Nat}(hk:k<=64)(ha:0<=a/\a < 2^k)(hb:0<=b/\b < 2^k):0<=fM .or .u64 a b/\fM .or .u64 a b < 2^k:=by
 obtain ⟨x,rfl⟩:=Int.eq_ofNat_of_zero_le ha.1;obtain ⟨y,rfl⟩:=Int.eq_ofNat_of_zero_le hb.1
 have hx:x < 2^k:=by exact_mod_cast ha.2
 have hy:y < 2^k:=by exact_mod_cast hb.2
 have h64:(2:Nat)^k<=2^64:=Nat.pow_le_pow_right (by decide) hk
 have h1:(BitVec.ofInt 64 (x:Int) ||| BitVec.ofInt 64 (y:Int)).toNat=x ||| y:=by
  rw [BitVec.toNat_or,BitVec.toNat_ofInt,BitVec.toNat_ofInt];rw [show ((x:Int) % ((2^64:Nat):Int)).toNat=x by omega,show ((y:Int) % ((2^64:Nat):Int)).toNat=y by omega]
 have h2:x ||| y < 2^k:=Nat.or_lt_two_pow hx hy;show 0<=IntKind.wrap .u64 (((BitVec.ofInt 64 (x:Int) ||| BitVec.ofInt 64 (y:Int)).toNat:Nat):Int)/\IntKind.wrap .u64 (((BitVec.ofInt 64 (x:Int) ||| BitVec.ofInt 64 (y:Int)).toNat:Nat):Int) < 2^k;rw [h1,u9 ⟨by omega,by omega⟩];exact ⟨by omega,by exact_mod_cast h2⟩
theorem Dm{k:Nat}(h:k<=64):(2:Int)^k<=18446744073709551616:=by
 have h1:((2^k:Nat):Int)<=((18446744073709551616:Nat):Int):=Int.ofNat_le.2 (Nat.le_trans (Nat.pow_le_pow_right (by decide) h) (by decide));rw [Int.natCast_pow] at h1;exact h1
theorem Ji{e:Int}{q:Nat}(he:0<=e/\e < 256)(hq:q < 8):pY .u64 (IntKind.wrap .u64 e) (8*(q:Int))=e*2^(8*q)/\0<=e*2^(8*q)/\e*2^(8*q) < 2^(8*(q+1)):=by
 have hp:(0:Int) < 2^(8*q):=Int.pow_pos (by decide)
 have hp8:(2:Int)^(8*(q+1))=2^(8*q)*256:=by rw [show 8*(q+1)=8*q+8 by omega,Int.pow_add];rfl
 have hp64:(2:Int)^(8*(q+1))<=18446744073709551616:=Dm (by omega);have hm:e*2^(8*q)<=255*2^(8*q):=Int.mul_le_mul_of_nonneg_right (by omega) (by omega);have h0:0<=e*2^(8*q):=Int.mul_nonneg he.1 (by omega)
 have hlt:e*2^(8*q) < 2^(8*(q+1)):=by omega
 refine ⟨?_,h0,hlt⟩;unfold pY;rw [u9 (x:=e) ⟨he.1,by omega⟩,show min (8*(q:Int)).toNat (IntKind.bits .u64)=8*q by show min (8*(q:Int)).toNat 64=_;omega];exact u9 ⟨h0,by omega⟩
theorem H2{e:Int}(h:(Sh.y).ok e=true):0<=e/\e < 256:=by
 simp [Sh.ok,Ty.ok,eP,w6,w6,IntKind.wrap,IntKind.signed,IntKind.bits] at h;omega
theorem Bx{z:Int}(hz:z=1\/z=2\/z=4\/z=8):(R.cL z).sat λk=>ElI k z:=by
 rcases hz with rfl|rfl|rfl|rfl
 ·exact bG (qZ (P:=λr=>decide (r=2)) (by kernel_rfl)) λr hr=>by rw [of_decide_eq_true hr];exact .k2
 ·exact bG (qZ (P:=λr=>decide (r=4)) (by kernel_rfl)) λr hr=>by rw [of_decide_eq_true hr];exact .k4
 ·exact bG (qZ (P:=λr=>decide (r=6)) (by kernel_rfl)) λr hr=>by rw [of_decide_eq_true hr];exact .k6
 ·exact bG (qZ (P:=λr=>decide (r=8)) (by kernel_rfl)) λr hr=>by rw [of_decide_eq_true hr];exact .k8
theorem GV{k z:Int}(h:ElI k z){bs:List Int}:(R.ff k bs).sat λr=>ug z r.1:=by
 unfold R.ff;have hz:=h.pos;refine aA λ_=>aB (R:=λb=>b=false->(bs.length:Int)=z) (aa (mY h) (aA λ_=>bK (λ_=>aD λe=>by cases e) λ_=>aa (mY h) (aA λ_=>aD λe=>?_))) λb hb=>aG (λ_=>aD (.zero z)) λeb=>?_
 ·exact eq_of_beq (by cases hq:((bs.length:Int) == z)<;>simp_all)
 have hl:=hb eb;refine aB (gQ (Q:=λw:Int=>0<=w/\w < 2^(8*bs.length)) (λy=>y.2) bs.length (by omega) (λy=>0<=y.1/\y.1 < 2^(8*y.2.toNat)) (by simp) (by simp) (by simp) λy y0 y1 yI=>?_) λw ⟨w0,w1⟩=>aD ⟨w0,?_,?_⟩
 ·obtain ⟨w,j⟩:=y;have y0:0<=j:=y0;have y1:j<=(bs.length:Int):=y1;obtain ⟨i0,i1⟩:=yI;have i0:0<=w:=i0;have i1:w < 2^(8*j.toNat):=i1;refine ef (λhj=>?_) λhj=>aD ⟨i0,?_⟩
  ·have hj:j < (bs.length:Int):=hj;have e8:w6 (8*j)=8*j:=wrap64 (by omega);refine bQ y0 (by show _ < bs.length;omega) λe _ he=>gY (by rw [e8];omega) (aD ⟨rfl,hj,?_⟩);have hb:=H2 he;obtain ⟨q,rfl⟩:=Int.eq_ofNat_of_zero_le y0;obtain ⟨es,h0,h1⟩:=Ji hb (q:=q) (by omega);show 0<=fM .or .u64 w (pY .u64 (IntKind.wrap .u64 e) (w6 (8*(q:Int))))/\fM .or .u64 w (pY .u64 (IntKind.wrap .u64 e) (w6 (8*(q:Int)))) < 2^(8*(w6 ((q:Int)+1)).toNat)
   have hmono:(2:Int)^(8*(q+1))=2^(8*q)*256:=by rw [show 8*(q+1)=8*q+8 by omega,Int.pow_add];rfl
   have hp:(0:Int) < 2^(8*q):=Int.pow_pos (by decide);have i1:w < 2^(8*q):=i1;rw [e8,es,wrap64 (n:=(q:Int)+1) (by omega),show ((q:Int)+1).toNat=q+1 by omega];exact or_lt (by omega) ⟨i0,by omega⟩ ⟨h0,h1⟩
  ·have hj:(bs.length:Int)<=j:=hj;show w < 2^(8*bs.length);rw [show bs.length=j.toNat by omega];exact i1
 ·show w < 18446744073709551616;have h3:(2:Int)^(8*bs.length)<=18446744073709551616:=Dm (by omega);omega
 ·right;show w < 2^(8*z).toNat;rw [show (8*z).toNat=8*bs.length by omega];exact w1
theorem yo{k z w:Int}(h:ElI k z):(R.hJ z w).sat (ug z):=by
 unfold R.hJ;exact aA λ_=>q_b λ_=>aA λ_=>q_p λ_ _=>aA λ_=>q_b λ_=>aA λ_=>aB (Bx h.pos.2.2) λk hk=>aA λ_=>aB (GV hk) λr hr=>aA λ_=>aD hr
section
variable {C:Cx}{m b:Int}{s:RunT}{c:PkT}{a z w n:Int}{l:List dZ}{x y v:dZ}{u:List Int}{nm:List UInt8}
theorem v7(hc:jU C)(h:gy C m s)(hz:z=1\/z=2\/z=4\/z=8)(a0:0<=a)(am:a+z<=9007199254740991)(hb:qb s.2.2.2.2.1.2 c.2.2.2.2.2.2.2.2.2.1 (a+z)){sq nt:Bool}(hq:sq=true->nt=true):(R.bh s c a z sq nt).sat λr=>Pst C m s.2.2.2.2.2.2.1 s r.1.2 r.2/\(∀ d,s.2.2.2.2.1.2[(c.2.2.2.2.2.2.2.2.2.1).toNat]?=some d->Eq (α:=Int) (d.1) (5)->Eq (α:=Int) (r.1.2) (0)):=by
 unfold R.bh;obtain ⟨b0,d,hd,hk⟩:=hb;have ew:w6 (a+z)=a+z:=wrap64 (by omega);have hs:List.set s.2.2.2.2.1.2 (c.2.2.2.2.2.2.2.2.2.1).toNat d=s.2.2.2.2.1.2:=ob hd;refine aA λ_=>jw (λc' _ hc'=>iC rfl (kA b0 hd (bD (beq_self_eq_true _) ?_))) λhn=>absurd ⟨b0,(List.getElem?_eq_some_iff.1 hd).1⟩ hn;rw [hs];refine bK (λe5=>?_) λe5=>?_
 ·have hl:a+z<=((d.2.2.2.2.2.2.2.2.2.2.2.2).length:Int):=by
   rcases hk with ⟨_,g⟩|⟨e6,_⟩
   ·exact g
   ·exact absurd (e5.symm.trans e6) (by decide)
  exact q_b λ_=>aA λ_=>fZ (gY a0 (fZ (gY (by rw [ew];omega) (gY (by rw [ew];exact hl) (q_b λ_=>aA λ_=>aD ⟨.ret h,λ_ _ _=>rfl⟩)))))
 ·refine aB (sK h hc.A (EJ 2 rfl (by decide) l0 (Nat.zero_le _) nw0 ⟨hz,.inr ⟨pw z,pw z⟩,a0,hq⟩ ⟨λe=>absurd e (by decide),λ_=>rfl⟩)) λr ⟨g,_⟩=>aA λ_=>aD ⟨g,λd' hd' e5'=>?_⟩;have:some d=some d':=hd.symm.trans hd';cases this;exact absurd e5' e5
theorem uV(hc:jU C)(h:gy C m s)(hm:m<=2^39)(hz:z=1\/z=2\/z=4\/z=8)(a0:0<=a)(hb:qb s.2.2.2.2.1.2 c.2.2.2.2.2.2.2.2.2.1 (a+z)){sq nt:Bool}(hq:sq=true->nt=true)(hw:∀ d,s.2.2.2.2.1.2[(c.2.2.2.2.2.2.2.2.2.1).toNat]?=some d->Eq (α:=Int) (d.1) (6)->ug z w):(R.bZ s c a z w sq nt).sat λr=>Pst C m s.2.2.2.2.2.2.1 s r.1 r.2/\(∀ d,s.2.2.2.2.1.2[(c.2.2.2.2.2.2.2.2.2.1).toNat]?=some d->Eq (α:=Int) (d.1) (5)->Eq (α:=Int) (r.1) (0)):=by
 unfold R.bZ;obtain ⟨b0,d,hd,hk⟩:=hb;obtain ⟨B,g1,g2,g3⟩:=h.heap hm;refine aA λ_=>aB (ow g1) λr hr=>aA λ_=>?_;obtain ⟨t1,t2⟩:=hr.cl d b0 hd;refine bK (λe5=>?_) λe5=>?_
 ·have hl:=(g1.cl _ d hd).1.bf (t2.symm.trans e5);refine q_b λ_=>aA λ_=>q_p λbs hbs=>aA λ_=>aB (H3 g1 g2 hbs λd' hd'=>?_) λr2 ⟨k1,k2⟩=>aA λ_=>aD ⟨.ok ⟨h.put k1 g3,k2,rfl,Int.le_refl _⟩,λ_ _ _=>rfl⟩;have:some d=some d':=hd.symm.trans hd';cases this;omega
 ·have e6:Eq (α:=Int) (d.1) (6):=by
   rcases hk with ⟨g,_⟩|⟨g,_⟩
   ·exact absurd (t2.trans g) e5
   ·exact g
  have hw:=hw d hd e6;refine aB (sK h hc.A (EJ 3 rfl (by decide) l0 (Nat.zero_le _) nw0 ⟨hz,hw.2.2.imp id λg=>⟨g,pw z⟩,a0,hq⟩ ⟨λe=>absurd e (by decide),λ_=>rfl⟩)) λr ⟨g,_⟩=>aA λ_=>aD ⟨g,λd' hd' e5'=>?_⟩;have:some d=some d':=hd.symm.trans hd';cases this;exact absurd (e5'.symm.trans e6) (by decide)
theorem qb.ext'{l l':List jY}(h:nz l l'){b n:Int}(hb:qb l b n):qb l' b n:=hb.ext h
theorem KR(hc:jU C)(h:gy C m s)(ht:TyI s.2.2.2.2.1.2 c z)(n0:0<=n)(nl:LT.lt (α:=Int) (n) (c.2.2.2.2.2.2.2.2.2.2.2.1)):(R.cc s c n).sat (cy C m s.2.2.2.2.2.2.1 s):=by
 unfold R.cc;obtain ⟨m1,m2,m3⟩:=w8 ht.el n0 nl ht.f0 ht.m;have hz:=ht.el.pos;have hm':=ht.m;refine aA λ_=>aa (mY ht.el) (aA λ_=>q_b λbg=>?_);rw [m1];exact aB (v7 hc h hz.2.2 m2 (by omega) (ht.bf.le m3) λe=>by cases e) λr ⟨g,_⟩=>aA λ_=>bx (λ_=>aD ⟨bn,g⟩) λe=>aB pF λ_ hv=>aA λ_=>aD ⟨hv,.ok (g.a0 e)⟩
theorem ID(hc:jU C)(h:gy C m s)(hm:m<=2^39)(ht:TyI s.2.2.2.2.1.2 c z)(n0:0<=n)(hv:b8 v):(R.eg s c n v).sat (cy C m s.2.2.2.2.2.2.1 s):=by
 unfold R.eg;have hz:=ht.el.pos;have hm':=ht.m;refine aA λ_=>aB (zP ht.el) λr1 hw=>aA λ_=>bx (λ_=>aU (gZ h hm)) λ_=>ef (λnl=>?_) λ_=>aD (mc h hv);obtain ⟨m1,m2,m3⟩:=w8 ht.el n0 nl ht.f0 ht.m;refine aa (mY ht.el) (aA λ_=>aa (mY ht.el) (aA λ_=>q_b λbg=>?_));rw [m1];exact aB (uV hc h hm hz.2.2 m2 (ht.bf.le m3) (λe=>by cases e) λ_ _ _=>hw) λr ⟨g,_⟩=>aA λ_=>bx (λ_=>aD ⟨bn,g⟩) λe=>aD ⟨hv,.ok (g.a0 e)⟩
theorem yu(hc:jU C)(h:gy C m s)(hm:m<=2^39)(ht:TyI s.2.2.2.2.1.2 c z)(n0:0<=n)(nl:LT.lt (α:=Int) (n) (c.2.2.2.2.2.2.2.2.2.2.2.1)){k o w1 w2:Int}(hk:(k=4/\0 < o/\o<=6)\/(k=5/\o=0))(h1:ug z w1)(h2:ug z w2):(R.cX s c n (k,(0,(0,(0,(o,(false,(false,(w1,(w2,((0,0),(([]:List Int),0)))))))))))).sat (cy C m s.2.2.2.2.2.2.1 s):=by
 unfold R.cX;obtain ⟨B,g1,g2,g3⟩:=h.heap hm;obtain ⟨m1,m2,m3⟩:=w8 ht.el n0 nl ht.f0 ht.m;have hz:=ht.el.pos;have hm':=ht.m;have hbf:=ht.bf.le m3;have hbf':=hbf;obtain ⟨b0,d,hd,hkd⟩:=hbf';refine aA λ_=>aa (mY ht.el) (aA λ_=>aB (ow g1) λr hr=>aA λ_=>?_);obtain ⟨t1,t2⟩:=hr.cl d b0 hd;rw [m1];refine o7 (λ_=>?_) λe5=>?_
 ·have hkk:2<=k/\k<=6:=by omega
  exact aB (sK h hc.A (EJ k rfl hkk l0 (Nat.zero_le _) nw0 ⟨hz.2.2,by
   rcases h1.2.2 with e|e1
   ·exact .inl e
   ·rcases h2.2.2 with e|e2
    ·exact .inl e
    ·exact .inr ⟨e1,e2⟩,m2,λ_=>rfl⟩ ⟨λe=>by show 0 < o/\o<=6;omega,λe=>by show o=0;omega⟩)) λr ⟨g,_⟩=>aA λ_=>bx (λ_=>aD ⟨bn,g⟩) λe=>aB pF λ_ hv=>aA λ_=>aD ⟨hv,.ok (g.a0 e)⟩
 ·have e5:Eq (α:=Int) (d.1) (5):=t2.symm.trans e5;refine aB (v7 hc h hz.2.2 m2 (by omega) hbf λ_=>rfl) λr5 ⟨g,g'⟩=>aA λ_=>q_b λr6=>aA λ_=>aB (R:=λ_=>True) (bK (λ_=>bK (λ_=>aD trivial) λ_=>aD trivial) λ_=>aD trivial) λw7 _=>?_;have a1:=g.a0 (g' d hd e5);obtain ⟨d2,hd2,hs⟩:=a1.ext _ d hd;refine aB (uV hc a1.run hm hz.2.2 m2 (hbf.ext a1.ext) (λ_=>rfl) λd' hd' e6=>?_) λr8 ⟨g8,g8'⟩=>aA λ_=>aB pF λ_ hv=>aA λ_=>aD ⟨hv,.ok (a1.cat (g8.a0 (g8' d2 hd2 (hs.k.trans e5))))⟩;have:some d2=some d':=hd2.symm.trans hd';cases this;exact absurd ((hs.k.trans e5).symm.trans e6) (by decide)
theorem J8(h:gy C m s){q:List Int}:(R.eN s u q).sat (cy C m s.2.2.2.2.2.2.1 s):=by
 unfold R.eN;refine aA λ_=>aB (dc (by decide)) λ_ _=>aA λ_=>q_b λ_=>aG (λ_=>aB mB λ_ hv=>aA λ_=>aD (mc h hv)) λ_=>aB zz λk ⟨k0,k1⟩=>aA λ_=>eD (aG (λ_=>lb (λ_=>aD (mc h bn)) λhk=>?_) λ_=>aU (fe h));have hk:k.1 < (u.length:Int):=hk;have ew:w6 (k.1+1)=k.1+1:=wrap64 (by omega);exact fZ (gY k0 (fZ (gY (by rw [ew];omega) (gY (by rw [ew];omega) (aB nH λ_ hv=>aA λ_=>aD (mc h hv.1))))))
theorem Jy(h:gy C m s)(hm:m<=2^39)(hn:nm.length<=2^46){b:Bool}:(R.eL s n nm u b).sat (cy C m s.2.2.2.2.2.2.1 s):=by
 unfold R.eL;obtain ⟨B,g1,g2,g3⟩:=h.heap hm;exact aA λ_=>aG (λ_=>aB (uD g1 g2) λ_ hv=>aA λ_=>aD (mc h hv)) λ_=>aG (λ_=>aB pO λ_ _=>aA λ_=>aB mB λ_ hv=>aA λ_=>aD (mc h hv)) λ_=>aB (dw0:Safe _).ok λ_ _=>aG (λ_=>bD (decide_eq_true (by show 6+nm.length<=2^47;omega)) (aB o9 λ_ hv=>aA λ_=>aD (mc h (vk hv)))) λ_=>aU (fe h)
theorem ER(h:gy C m s)(hn:nm.length<=2^46):(R.dd s c nm n).sat (cy C m s.2.2.2.2.2.2.1 s):=by
 unfold R.dd;have hs:lJ (9+nm.length)=true:=decide_eq_true (by show 9+nm.length<=2^47;omega)
 refine aA λ_=>aB (R:=λr:Unit ⊕ (Int×dZ)=>match r with|.inl _=>True|.inr q=>b8 q.2/\q.1=0) (aG (λ_=>aB mB λ_ hv=>aA λ_=>aD ⟨hv,rfl⟩) λ_=>aG (λ_=>aB mB λ_ hv=>aA λ_=>aD ⟨hv,rfl⟩) λ_=>aG (λ_=>aD ⟨.of (show (6:Int)≠5 by decide),rfl⟩) λ_=>aG (λ_=>bK (λ_=>aB mB λ_ hv=>aA λ_=>aD ⟨hv,rfl⟩) λ_=>aD trivial) λ_=>aD trivial) λr hr=>?_
 cases r with
 |inl _=>exact iy (aB (R:=λ_=>True) (bK (λ_=>aB ET λ_ _=>aA λ_=>bD hs (q_b λ_=>aD trivial)) λ_=>aD trivial) λ_ _=>aG (λ_=>bD hs (aB o9 λ_ hv=>aA λ_=>aD (mc h (vk hv)))) λ_=>aU (fe h))
 |inr q =>
  obtain ⟨k,w⟩:=q;obtain ⟨h1,h2⟩:=hr;have h2:k=0:=h2;subst h2;exact iv (aD (mc h h1))
theorem FD(hc:jU C)(h:gy C m s)(hm:m<=2^39)(hu:u.length<=4096):(R.dJ s n u).sat (cy C m s.2.2.2.2.2.2.1 s):=by
 unfold R.dJ;obtain ⟨B,g1,g2,g3⟩:=h.heap hm;refine aA λ_=>aB Et λr1 hr1=>aA λ_=>aB (R:=λq:List UInt8=>q.length<=4096) (eD (aG (λ_=>aD (by omega)) λ_=>aD (by decide))) λnm hnm=>aB (ow g1) λr hr=>aA λ_=>eD (aG (λhr2=>?_) λ_=>?_)
 ·refine aB zz λk ⟨k0,k1⟩=>aA λ_=>bK (λ_=>aB (D1 g1 g2) λ_ hv=>aA λ_=>aB (dw0:Safe _).ok λ_ _=>aG (λ_=>aU (fe h)) λ_=>aD (mc h hv)) λ_=>bK (λ_=>aU (Jy h hm (by omega))) λ_=>bK (λ_=>aB (uD g1 g2) λ_ hv=>aA λ_=>aG (λ_=>aD (mc h hv)) λ_=>aU (fe h)) λ_=>bK (λ_=>aG (λ_=>?_) λ_=>aG (λ_=>aD (mc h (hr.th hr2))) λ_=>aU (fe h)) λ_=>oE (λh56=>aG (λ_=>?_) λ_=>aU (fe h)) λ_=>bK (λh7=>?_) λ_=>bK (λ_=>aU (ER h (by omega))) λ_=>aU (fe h)
  ·have hnn:=hr.nn hr2;exact aB (dc (by omega)) λ_ _=>aA λ_=>aB nH λ_ hv=>aA λ_=>aD (mc h hv.1)
  ·obtain ⟨i0,d,hd,e⟩:=hr.at' hr2
   exact aB (wC g1 i0 hd (by rw [show d.1=r.1.1 from e];exact h56)) λ_ _=>aA λ_=>aB mB λ_ hv=>aA λ_=>aD (mc h hv)
  ·obtain ⟨z,ht⟩:=hr.ty h7;exact aG (λ_=>lb (λ_=>aD (mc h bn)) λhk=>aU (KR hc h ht k0 hk)) λ_=>aa (mY ht.el) (aA λ_=>aU (ER h (by omega)))
 ·refine aB uE λq ⟨hq,_⟩=>aA λ_=>aB Dd λms hms=>aA λ_=>aB Ar λb hb=>aG (λe=>?_) λ_=>aU (fe h);have h1:=A4 hq;have h2:=hms _ (hb e);refine bD (decide_eq_true ?_) (bD (decide_eq_true ?_) (aB o9 λ_ hv=>aA λ_=>aD (mc h (vk hv))))
  ·show q.length+1<=2^47;omega
  ·show (q++[46]).length+nm.length<=2^47;rw [List.length_append];simp;omega
theorem CU(hc:jU C)(h:gy C m s)(hm:m<=2^39){p:dN.den}:(R.de s p).sat (cy C m s.2.2.2.2.2.2.1 s):=by
 unfold R.de;exact aA λ_=>q_b λ_=>aG (λ_=>aU (gZ h hm)) λ_=>q_p λr hr=>aA λ_=>bx (λ_=>aU (gZ h hm)) λ_=>bK (λ_=>aU (J8 h)) λ_=>bK (λ_=>aU (FD hc h hm hr)) λ_=>aU (fe h)
theorem set_ok(hc:jU C)(h:gy C m s)(hm:m+1<=2^39){p:dN.den}(hv:b8 v):(R.ee s p v).sat (cy C (m+1) s.2.2.2.2.2.2.1 s):=by
 unfold R.ee;obtain ⟨B,g1,g2,g3⟩:=h.heap (by omega);have up:∀ {F:Res ((dZ×Int)×RunT)}{B:(dZ×Int)×RunT->Bool},F.sat (cy C m s.2.2.2.2.2.2.1 s)->(F.bind λr=>given (B r) (Res.ok r)).sat (cy C (m+1) s.2.2.2.2.2.2.1 s):=λh=>aU (bG h λ_ hr=>hr.up (by omega));have ur:∀ {F:Res ((dZ×Int)×RunT)}{B:(dZ×Int)×RunT->Bool},F.sat (cy C m s.2.2.2.2.2.2.1 s)->(F.bind λr=>given (B r) (Res.ok (Sum.inr (r.1.2,(r.2,r.1.1)):Unit ⊕ (Int×(RunT×dZ))))).sat (pz C (m+1) s.2.2.2.2.2.2.1 s λ_:Unit=>True):=λh=>oy (bG h λ_ hr=>hr.up (by omega));refine aA λ_=>q_b λ_=>aG (λ_=>up (gZ h (by omega))) λ_=>q_p λr3 hr3=>aA λ_=>bx (λ_=>up (gZ h (by omega))) λ_=>o7 (λ_=>up (gZ h (by omega))) λ_=>aB (ow g1) λr hr=>aA λ_=>aB zz λk ⟨k0,k1⟩=>aA λ_=>aB (R:=pz C (m+1) s.2.2.2.2.2.2.1 s λ_:Unit=>True) (bK (λ_=>aB (dc (by decide)) λ_ _=>aA λ_=>q_b λ_=>aG (λ_=>ur (fe h)) λ_=>aD trivial) λ_=>bK (λ_=>aB (R:=λ_=>True) (eD (aG (λ_=>aB pO λ_ _=>aA λ_=>aD trivial) λ_=>aD trivial)) λ_ _=>aG (λ_=>ur (fe h)) λ_=>aD trivial) λ_=>bK (λ_=>aB (uD g1 g2) λ_ _=>aA λ_=>eD (aG (λ_=>aD trivial) λ_=>ur (fe h))) λ_=>bK (λh7=>eD (aG (λ_=>?_) λ_=>ur (fe h))) λ_=>ur (fe h)) λr hr=>oi hr λ_ _=>aB (uF h hm hv) λr2 a2=>aA λ_=>aD ⟨hv,.ok a2⟩;obtain ⟨z,ht⟩:=hr.ty h7;exact ur (ID hc h (by omega) ht k0 hv)
theorem in_ok(hc:jU C)(h:gy C m s)(hm:m<=2^39):(R.fc s x y).sat (cy C m s.2.2.2.2.2.2.1 s):=by
 unfold R.fc;obtain ⟨B,g1,g2,g3⟩:=h.heap hm;exact aA λ_=>o7 (λ_=>aU (gZ h hm)) λ_=>q_p λ_ _=>aA λ_=>bx (λ_=>aU (gZ h hm)) λ_=>aB (ow g1) λr hr=>aA λ_=>q_b λ_=>aA λ_=>bK (λ_=>aB (D1 g1 g2) λ_ _=>aA λ_=>q_b λ_=>aA λ_=>aB (dw0:Safe _).ok λ_ _=>aG (λ_=>aU (fe h)) λ_=>aB lA λ_ hv=>aA λ_=>aD (mc h (vk hv))) λ_=>aB (dw0:Safe _).ok λ_ _=>aG (λ_=>aB pO λ_ _=>aA λ_=>aB lA λ_ hv=>aA λ_=>aD (mc h (vk hv))) λ_=>aB (dw0:Safe _).ok λ_ _=>aG (λ_=>aB lA λ_ hv=>aA λ_=>aD (mc h (vk hv))) λ_=>aU (fe h)
theorem D4(hc:jU C)(h:gy C m s)(hm:m<=2^39){p:dN.den}{e:aM.den}:(R.db s p e).sat (cy C m s.2.2.2.2.2.2.1 s):=by
 unfold R.db;exact aA λ_=>eD (aG (λ_=>aU (CU hc h hm)) λ_=>aU (EK h hm))
theorem Hc(hc:jU C)(h:gy C m s)(hm:m+1<=2^39){p:dN.den}{e:aM.den}(hv:b8 v):(R.eG s p v e).sat (cy C (m+1) s.2.2.2.2.2.2.1 s):=by
 unfold R.eG;exact aA λ_=>eD (aG (λ_=>aU (set_ok hc h hm hv)) λ_=>aU (bG (Er h (by omega) hv) λ_ hr=>cy.up (m:=m) hr (by omega)))
theorem FW(hc:jU C)(h:gy C m s)(hm:m<=2^39)(hn:VwN nm)(hl:∀ v∈l,b8 v):(R.dF s nm x l).sat (cy C m s.2.2.2.2.2.2.1 s):=by
 unfold R.dF;obtain ⟨B,g1,g2,g3⟩:=h.heap hm;obtain ⟨n3,hel⟩:=hn;refine aA λ_=>aB (ow g1) λr hr=>aA λ_=>aB (R:=λb=>b=false->Eq (α:=Int) (r.1.1) (8)) (o7 (λ_=>aD λe=>by cases e) λ_=>aD λe=>?_) λb hb=>aG (λ_=>aU (gZ h hm)) λeb=>fZ (gY (by decide) (gY (by omega) (aB hel λk ⟨z,hk⟩=>aA λ_=>q_b λps=>aa (mY hk) (aA λ_=>aB (kq hl (by decide)) λ_ _=>aA λ_=>aB nj λf ⟨f0,f1⟩=>aA λ_=>bx (λ_=>aU (gZ h hm)) λ_=>?_))))
 ·exact eq_of_beq (by cases h:(r.1.1 == 8)<;>simp_all)
 have hvw:=hr.vw (hb eb);have hz:=hk.pos;refine aB (R:=pz C m s.2.2.2.2.2.2.1 s λq:Int×Int=>ug z q.1/\0<=q.2) (aG (λ_=>aB (kq hl (by decide)) λ_ _=>aA λ_=>aB (zP hk) λw hw=>aA λ_=>bx (λ_=>oy (gZ h hm)) λ_=>aD ⟨hw,show (0:Int)<=2 by decide⟩) λ_=>aD ⟨.zero z,show (0:Int)<=1 by decide⟩) λr2 hr2=>oi hr2 λq ⟨q1,q2⟩=>aB (kq hl q2) λ_ _=>aA λ_=>q_b λlit=>?_;have hv1:=hvw.m;have hv2:=hvw.f0;have hv3:=hvw.l0;refine aB (R:=pz C m s.2.2.2.2.2.2.1 s λw:Int=>ug z w/\LE.le (α:=Int) ((HAdd.hAdd (α:=Int) (β:=Int) (γ:=Int) (f.1) (z))) (r.1.2.2.2.2.2.2.2.2.2.2.2.1)) (aB (R:=λb=>b=false->LE.le (α:=Int) ((HAdd.hAdd (α:=Int) (β:=Int) (γ:=Int) (f.1) (z))) (r.1.2.2.2.2.2.2.2.2.2.2.2.1)) (ef (λ_=>aD λe=>by cases e) λh1=>aD λe=>?_) λb hb=>aG (λ_=>oy (gZ h hm)) λeb=>aB (dw0:Safe _).ok λ_ _=>aG (λ_=>aB (yo hk) λw hw=>aA λ_=>aD ⟨hw,hb eb⟩) λ_=>aD ⟨q1,hb eb⟩) λr3 hr3=>oi hr3 λw ⟨w1,w2⟩=>?_
 ·have h1:LE.le (α:=Int) (z) (r.1.2.2.2.2.2.2.2.2.2.2.2.1):=h1;have e:=Int.not_lt.1 (of_decide_eq_false e);rw [wrap64 (n:=(HSub.hSub (α:=Int) (β:=Int) (γ:=Int) (r.1.2.2.2.2.2.2.2.2.2.2.2.1) (z))) (by omega)] at e;show LE.le (α:=Int) ((HAdd.hAdd (α:=Int) (β:=Int) (γ:=Int) (f.1) (z))) (r.1.2.2.2.2.2.2.2.2.2.2.2.1);omega
 have ew:w6 (HAdd.hAdd (α:=Int) (β:=Int) (γ:=Int) (r.1.2.2.2.2.2.2.2.2.2.2.1) (f.1))=(HAdd.hAdd (α:=Int) (β:=Int) (γ:=Int) (r.1.2.2.2.2.2.2.2.2.2.2.1) (f.1)):=wrap64 (by omega);have hbf:qb s.2.2.2.2.1.2 r.1.2.2.2.2.2.2.2.2.2.1 ((HAdd.hAdd (α:=Int) (β:=Int) (γ:=Int) (r.1.2.2.2.2.2.2.2.2.2.2.1) (f.1))+z):=hvw.bf.le (by omega)
 have a0:0<=(HAdd.hAdd (α:=Int) (β:=Int) (γ:=Int) (r.1.2.2.2.2.2.2.2.2.2.2.1) (f.1)):=by omega
 rw [ew];refine aG (λ_=>aB (uV hc h hm hz.2.2 a0 hbf (λe=>by cases e) λ_ _ _=>w1) λr8 ⟨g8,_⟩=>aA λ_=>aD ⟨bn,g8⟩) λ_=>aB (v7 hc h hz.2.2 a0 (by omega) hbf λe=>by cases e) λr8 ⟨g8,_⟩=>aA λ_=>bx (λ_=>aD ⟨bn,g8⟩) λe8=>eD (aG (λ_=>aB pF λ_ hv=>aA λ_=>aD ⟨hv,.ok (g8.a0 e8)⟩) λ_=>aB (yo hk) λ_ _=>aA λ_=>aB pF λ_ hv=>aA λ_=>aD ⟨hv,.ok (g8.a0 e8)⟩)
theorem Fy(h:gy C m s)(hm:m<=2^39):(R.dq s c x).sat λr=>b8 r.1.2.1/\Pst C m s.2.2.2.2.2.2.1 s r.1.2.2 r.2/\(r.1.2.2=0->r.2=s/\LE.le (α:=Int) (0) (r.1.1)/\LT.lt (α:=Int) (r.1.1) (c.2.2.2.2.2.2.2.2.2.2.2.1)):=by
 unfold R.dq
 refine aA λ_=>aB nj λf ⟨f0,f1⟩=>aA λ_=>aB (R:=λq:Int=>q=0->LT.lt (α:=Int) (f.1) (c.2.2.2.2.2.2.2.2.2.2.2.1)) (aB (R:=λb=>b=false->f.2=0->LT.lt (α:=Int) (f.1) (c.2.2.2.2.2.2.2.2.2.2.2.1)) (bK (λ_=>aD λe _=>Int.not_le.1 (of_decide_eq_false e)) λh0=>aD λ_ e=>absurd e h0) λb hb=>aG (λ_=>aD λe=>absurd (show (2:Int)=0 from e) (by decide)) λeb=>aD λe=>hb eb e) λq hq=>bx (λh0=>aB (nZ h hm) λr ⟨⟨v,g⟩,g0⟩=>aA λ_=>aD ⟨v,g,λe=>absurd e g0⟩) λh0=>aD ⟨bn,.ret h,λ_=>⟨rfl,f0,hq h0⟩⟩
theorem HI(hc:jU C)(h:gy C m s)(hm:m<=2^39){d:PkT}(ht:TyI s.2.2.2.2.1.2 c z)(n0:0<=n)(nl:LT.lt (α:=Int) (n) (c.2.2.2.2.2.2.2.2.2.2.2.1)):(R.dt s c d n x y).sat (cy C m s.2.2.2.2.2.2.1 s):=by
 unfold R.dt;obtain ⟨m1,m2,m3⟩:=w8 ht.el n0 nl ht.f0 ht.m;have hz:=ht.el.pos;refine aA λ_=>aB (zP ht.el) λr1 hw=>aA λ_=>bx (λ_=>aU (gZ h hm)) λ_=>q_b λr3=>aA λ_=>bx (λ_=>aU (gZ h hm)) λ_=>aB (R:=λ_=>True) (bK (λ_=>aD trivial) λ_=>aD trivial) λnn _=>aa (mY ht.el) (aA λ_=>aB tR λnu hnu=>aA λ_=>?_);rw [m1];refine aB (sK h hc.A (EJ 6 rfl (by decide) l0 (Nat.zero_le _) hnu ⟨hz.2.2,hw.2.2.imp id λg=>⟨pw z,g⟩,m2,λe=>by cases e⟩ ⟨λe=>absurd e (by decide),λ_=>rfl⟩)) λr ⟨g,_⟩=>aA λ_=>bx (λ_=>aD ⟨bn,g⟩) λe=>?_;have a:=g.a0 e;exact bK (λ_=>aB (dc (by decide)) λ_ _=>aA λ_=>aB nH λ_ hv=>aA λ_=>aD ⟨hv.1,.ok a⟩) λ_=>bK (λ_=>aB (dc (by decide)) λ_ _=>aA λ_=>aB nH λ_ hv=>aA λ_=>aD ⟨hv.1,.ok a⟩) λ_=>aB (dc (by decide)) λ_ _=>aA λ_=>aB nH λ_ hv=>aA λ_=>aD ⟨hv.1,.ok a⟩
theorem Bb(hc:jU C)(h:gy C m s)(hm:m<=2^39){d:PkT}(ht:TyI s.2.2.2.2.1.2 c z)(n0:0<=n)(nl:LT.lt (α:=Int) (n) (c.2.2.2.2.2.2.2.2.2.2.2.1)):(R.cS s c d n x).sat (cy C m s.2.2.2.2.2.2.1 s):=by
 unfold R.cS;refine aA λ_=>aB (R:=pz C m s.2.2.2.2.2.2.1 s DB) (bx (λ_=>q_b λ_=>aA λ_=>bx (λ_=>oy (gZ h hm)) λ_=>aB tR λnu hnu=>aA λ_=>aD hnu) λ_=>aD (.inr ⟨rfl,rfl⟩)) λr hr=>oi hr λnu hnu=>o7 (λ_=>aB mB λ_ hv=>aA λ_=>aD (mc h hv)) λ_=>aa (mY ht.el) (aA λ_=>aB (sK h hc.A (qa 7 rfl (by decide) (by decide) l0 (Nat.zero_le _) hnu z6)) λr ⟨g,_⟩=>aA λ_=>bx (λ_=>aD ⟨bn,g⟩) λe=>aB mB λ_ hv=>aA λ_=>aD ⟨hv,.ok (g.a0 e)⟩)
theorem FK(hc:jU C)(h:gy C m s)(hm:m<=2^39)(hl:∀ v∈l,b8 v):(R.dH s nm l).sat (cy C m s.2.2.2.2.2.2.1 s):=by
 unfold R.dH;obtain ⟨B,g1,g2,g3⟩:=h.heap hm;have rt:∀ {k:Bool}{B:dZ->Bool},((R.bP k).bind λr=>given (B r) (Res.ok ((r,(0:Int)),s))).sat (cy C m s.2.2.2.2.2.2.1 s):=aB lA λ_ hv=>aA λ_=>aD (mc h (vk hv));refine aA λ_=>aG (λ_=>aB (kq hl (by decide)) λ_ _=>aA λ_=>q_b λ_=>aA λ_=>bx (λ_=>aU (gZ h hm)) λ_=>q_b λ_=>aA λ_=>bK (λ_=>bK (λ_=>rt) λ_=>bK (λ_=>rt) λ_=>bK (λ_=>rt) λ_=>rt) λ_=>rt) λ_=>aB (kq hl (by decide)) λt _=>aA λ_=>aB (ow g1) λr hr=>aA λ_=>aB (ow g1) λr' _=>aA λ_=>aB (dw0:Safe _).ok λwt _=>aB (R:=λb=>b=false->Eq (α:=Int) (r.1.1) (7)) (aB (R:=λb=>b=false->Eq (α:=Int) (r.1.1) (7)) (o7 (λ_=>aD λe=>by cases e) λ_=>aD λe=>?_) λb hb=>aG (λeb=>aD λe=>by rw [eb] at e;cases e) λeb=>bG (dw0:Safe _).ok λ_ _ _=>hb eb) λb hb=>aG (λ_=>aU (gZ h hm)) λeb=>aB (kq hl (by decide)) λ_ _=>aA λ_=>aB (Fy h hm) λr19 ⟨v19,g19,k19⟩=>aA λ_=>bx (λ_=>aD ⟨v19,g19⟩) λe19=>?_
 ·exact eq_of_beq (by cases h:(r.1.1 == 7)<;>simp_all)
 obtain ⟨z,ht⟩:=hr.ty (hb eb);obtain ⟨⟨n,v,how⟩,s'⟩:=r19;obtain ⟨es,n0,nl⟩:=k19 e19;have es:s'=s:=es;subst es;have n0:0<=n:=n0;have nl:LT.lt (α:=Int) (n) (r.1.2.2.2.2.2.2.2.2.2.2.2.1):=nl;obtain ⟨m1,m2,m3⟩:=w8 ht.el n0 nl ht.f0 ht.m;have hz:=ht.el.pos;have hm':=ht.m;refine aa (mY ht.el) (aA λ_=>?_);dsimp only;rw [m1];refine aG (λ_=>aB (v7 hc h hz.2.2 m2 (by omega) (ht.bf.le m3) λ_=>rfl) λr5 ⟨g,_⟩=>aA λ_=>bx (λ_=>aD ⟨bn,g⟩) λe=>aB pF λ_ hv=>aA λ_=>aD ⟨hv,.ok (g.a0 e)⟩) λ_=>aG (λ_=>aB (kq hl (by decide)) λ_ _=>aA λ_=>aB (kq hl (by decide)) λ_ _=>aA λ_=>aU (HI hc h hm ht n0 nl)) λ_=>aG (λ_=>aB (kq hl (by decide)) λ_ _=>aA λ_=>aU (Bb hc h hm ht n0 nl)) λ_=>aB (kq hl (by decide)) λ_ _=>aA λ_=>aB (xj ht.el) λr29 ⟨hw,hv29⟩=>aA λ_=>bx (λ_=>aU (gZ h hm)) λ_=>aG (λ_=>aB (uV hc h hm hz.2.2 m2 (ht.bf.le m3) (λ_=>rfl) λ_ _ _=>hw) λr8 ⟨g8,_⟩=>aA λ_=>bx (λ_=>aD ⟨bn,g8⟩) λe=>aD ⟨hv29,.ok (g8.a0 e)⟩) λ_=>aG (λ_=>aB (kq hl (by decide)) λ_ _=>aA λ_=>aB (xj ht.el) λr33 ⟨hw',_⟩=>aA λ_=>bx (λ_=>aU (gZ h hm)) λ_=>aU (yu hc h hm ht n0 nl (.inr ⟨rfl,rfl⟩) hw' hw)) λ_=>aB CN λo ⟨o0,o1⟩=>aA λ_=>aU (yu hc h hm ht n0 nl (.inl ⟨rfl,o0,o1⟩) hw (.zero z))
end
end Go.Mach

set_option maxRecDepth 100000
namespace Go.Mach
open Res
abbrev mP:=aM.den
abbrev tD:=aR.den
abbrev TarI:=dN.den
def Nd(N:List eT)(t k:Int):Prop:=0<=k/\∃ x,N[k.toNat]?=some x/\og t x.1=true
def Nk(N:List eT)(x:eT):Prop:=∃ i:Nat,N[i]?=some x
def uG(l:List dZ):Prop:=l.length<=20000/\∀ v∈l,b8 v
def TarT(p:TarI):Prop:=b8 p.2.1/\b8 p.2.2
def FnC(s:RunT)(i:Int):Prop:=0<=i/\∃ c,s.2.2.2.2.1.2[i.toNat]?=some c/\Eq (α:=Int) (c.1) (3)
structure Pre (C:Cx) (n:Nat) (k c m:Int) (s:RunT):Prop where
 run:gy C m s
 fu:20*(HSub.hSub (α:=Int) (β:=Int) (γ:=Int) (C.D) (s.2.2.2.2.2.1))+k<=(n:Int)
 hm:m+c<=500000000000
def PPst(C:Cx)(m b:Int)(s:RunT)(r:(TarI×(dZ×Int))×RunT):Prop:=TarT r.1.1/\b8 r.1.2.1/\Pst C m b s r.1.2.2 r.2
def APst(C:Cx)(m b:Int)(s:RunT)(r:(List dZ×(dZ×Int))×RunT):Prop:=uG r.1.1/\b8 r.1.2.1/\Pst C m b s r.1.2.2 r.2
def CPst(C:Cx)(m b:Int)(s:RunT)(r:(dZ×(dZ×Int))×RunT):Prop:=b8 r.1.1/\b8 r.1.2.1/\Pst C m b s r.1.2.2 r.2
def BPst(C:Cx)(m b:Int)(s:RunT)(r:(Bool×tD)×RunT):Prop:=b8 r.1.2.2.2/\Pst C m b s r.1.2.1 r.2
def FPst(C:Cx)(m b:Int)(s:RunT)(r:(mP×tD)×RunT):Prop:=b8 r.1.1.2.1/\b8 r.1.2.2.2/\Pst C m b s r.1.2.1 r.2
structure GOk (C:Cx) (n:Nat) (G:af):Prop where
 list:∀ {m:Int}{s:RunT}{x:eT}{e:mP},Pre C n 2 0 m s->Nk C.N x->b8 e.2.1->(G.eval_run_list s x.2.2.2.2.2 e).sat (ng C m s.2.2.2.2.2.2.1 s)
 statement:∀ {m:Int}{s:RunT}{k:Int}{e:mP}{l:List (List UInt8)},Pre C n 1 0 m s->Nd C.N 1 k->b8 e.2.1->LE.le (α:=Int) ((l.length:Int)) (s.2.2.2.2.2.1)->(G.eval_run_statement s k e l).sat (ng C m (HAdd.hAdd (α:=Int) (β:=Int) (γ:=Int) (s.2.2.2.2.2.2.1) (1)) s)
 act:∀ {m:Int}{s:RunT}{k:Int}{e:mP}{l:List (List UInt8)},Pre C n 4 100300000 m s->Nd C.N 1 k->b8 e.2.1->LE.le (α:=Int) ((HAdd.hAdd (α:=Int) (β:=Int) (γ:=Int) ((l.length:Int)) (1))) (s.2.2.2.2.2.1)->(G.eval_run_act s k e l).sat (ng C (m+100300000) s.2.2.2.2.2.2.1 s)
 gj:∀ {m:Int}{s:RunT}{k:Int}{e:mP},Pre C n 1 0 m s->Nd C.N 3 k->b8 e.2.1->(G.eval_run_expression s k e).sat (cy C m (HAdd.hAdd (α:=Int) (β:=Int) (γ:=Int) (s.2.2.2.2.2.2.1) (1)) s)
 block:∀ {m:Int}{s:RunT}{k:Int}{x:eT}{e:mP},Pre C n 3 100300000 m s->0<=k->C.N[k.toNat]?=some x->x.1=4->b8 e.2.1->(G.eval_run_block s k e).sat (ng C (m+100300000) s.2.2.2.2.2.2.1 s)
 decls:∀ {m:Int}{s:RunT}{x:eT}{e:mP},Pre C n 2 0 m s->Nk C.N x->(x.1=5\/x.1=6)->b8 e.2.1->(G.eval_run_decls s x.2.2.2.2.2 e).sat (ng C m s.2.2.2.2.2.2.1 s)
 choice:∀ {m:Int}{s:RunT}{x:eT}{e:mP},Pre C n 3 0 m s->Nk C.N x->x.1=8->b8 e.2.1->(G.eval_run_choice s x.2.2.2.2.2 e).sat (ng C m s.2.2.2.2.2.2.1 s)
 GG:∀ {m:Int}{s:RunT}{x:eT}{e:mP}{l:List (List UInt8)},Pre C n 3 0 m s->Nk C.N x->x.1=9->b8 e.2.1->(G.eval_run_while s x.2.2.2.2.2 e l).sat (ng C m s.2.2.2.2.2.2.1 s)
 loop:∀ {m:Int}{s:RunT}{x:eT}{e:mP}{l:List (List UInt8)},Pre C n 3 100300000 m s->Nk C.N x->x.1=10->b8 e.2.1->(G.eval_run_loop s x.2.2.2.2.2 e l).sat (ng C (m+100300000) s.2.2.2.2.2.2.1 s)
 try_:∀ {m:Int}{s:RunT}{x:eT}{e:mP},Pre C n 3 100300000 m s->Nk C.N x->x.1=16->b8 e.2.1->(G.eval_run_try s x.2.2.2.2.2 e).sat (ng C (m+100300000) s.2.2.2.2.2.2.1 s)
 value:∀ {m:Int}{s:RunT}{k:Int}{e:mP},Pre C n 12 100300000 m s->Nd C.N 3 k->b8 e.2.1->(G.eval_run_value s k e).sat (cy C (m+100300000) s.2.2.2.2.2.2.1 s)
 asked:∀ {m:Int}{s:RunT}{k:Int}{e:mP},Pre C n 2 0 m s->Nd C.N 3 k->b8 e.2.1->(G.eval_run_asked s k e).sat (BPst C m (HAdd.hAdd (α:=Int) (β:=Int) (γ:=Int) (s.2.2.2.2.2.2.1) (1)) s)
 first:∀ {m:Int}{s:RunT}{k:Int}{e:mP},Pre C n 2 100300000 m s->Nd C.N 10 k->b8 e.2.1->(G.eval_run_first s k e).sat (FPst C (m+100000) s.2.2.2.2.2.2.1 s)
 GL:∀ {m:Int}{s:RunT}{k:Int}{a:List UInt8}{v:dZ}{e:mP},Pre C n 2 100300000 m s->Nd C.N 1 k->b8 v->b8 e.2.1->(G.eval_run_catch s a k v e).sat (ng C (m+10) s.2.2.2.2.2.2.1 s)
 array:∀ {m:Int}{s:RunT}{x:eT}{e:mP},Pre C n 2 100300000 m s->Nk C.N x->x.1=38->b8 e.2.1->(G.eval_run_array s x.2.2.2.2.2 e).sat (cy C (m+100300000) s.2.2.2.2.2.2.1 s)
 object:∀ {m:Int}{s:RunT}{x:eT}{e:mP},Pre C n 2 100300000 m s->Nk C.N x->x.1=39->b8 e.2.1->(G.eval_run_object s x.2.2.2.2.2 e).sat (cy C (m+100300000) s.2.2.2.2.2.2.1 s)
 operation:∀ {m:Int}{s:RunT}{k:Int}{x:eT}{e:mP},Pre C n 11 100300000 m s->0<=k->C.N[k.toNat]?=some x->(43<=x.1/\x.1<=53)->b8 e.2.1->(G.eval_run_operation s k x e).sat (cy C (m+100300000) s.2.2.2.2.2.2.1 s)
 unary:∀ {m:Int}{s:RunT}{k:Int}{o:List UInt8}{e:mP},Pre C n 2 0 m s->Nd C.N 3 k->b8 e.2.1->(G.eval_run_unary s o k e).sat (cy C m s.2.2.2.2.2.2.1 s)
 step:∀ {m:Int}{s:RunT}{x:eT}{e:mP},Pre C n 3 100300000 m s->Nk C.N x->(x.1=44\/x.1=45)->b8 e.2.1->(G.eval_run_step s x e).sat (cy C (m+100300000) s.2.2.2.2.2.2.1 s)
 binary:∀ {m:Int}{s:RunT}{x:eT}{e:mP},Pre C n 2 0 m s->Nk C.N x->x.1=46->b8 e.2.1->(G.eval_run_binary s x e).sat (cy C m s.2.2.2.2.2.2.1 s)
 logic:∀ {m:Int}{s:RunT}{x:eT}{e:mP},Pre C n 2 0 m s->Nk C.N x->x.1=47->b8 e.2.1->(G.eval_run_logic s x e).sat (cy C m s.2.2.2.2.2.2.1 s)
 assign:∀ {m:Int}{s:RunT}{x:eT}{e:mP},Pre C n 3 100300000 m s->Nk C.N x->x.1=49->b8 e.2.1->(G.eval_run_assign s x e).sat (cy C (m+100300000) s.2.2.2.2.2.2.1 s)
 callee:∀ {m:Int}{s:RunT}{x:eT}{e:mP},Pre C n 10 100300000 m s->Nk C.N x->x.1=50->b8 e.2.1->(G.eval_run_callee s x.2.2.2.2.2 e).sat (cy C (m+100300000) s.2.2.2.2.2.2.1 s)
 arguments:∀ {m:Int}{s:RunT}{l:List Int}{e:mP},Pre C n 2 0 m s->l.length<=20000->(∀ k∈l,Nd C.N 3 k)->b8 e.2.1->(G.eval_run_arguments s l e).sat (APst C m s.2.2.2.2.2.2.1 s)
 fresh:∀ {m:Int}{s:RunT}{f:dZ}{l:List dZ},Pre C n 9 100300000 m s->uG l->(G.eval_run_fresh s f l).sat (cy C (m+100300000) s.2.2.2.2.2.2.1 s)
 property:∀ {m:Int}{s:RunT}{k:Int}{e:mP},Pre C n 3 0 m s->Nd C.N 4 k->b8 e.2.1->(G.eval_run_property s k e).sat (cy C m s.2.2.2.2.2.2.1 s)
 parts:∀ {m:Int}{s:RunT}{k:Int}{e:mP},Pre C n 2 0 m s->Nd C.N 4 k->b8 e.2.1->(G.eval_run_parts s k e).sat (PPst C m s.2.2.2.2.2.2.1 s)
 called:∀ {m:Int}{s:RunT}{k:Int}{e:mP},Pre C n 2 0 m s->Nd C.N 3 k->b8 e.2.1->(G.eval_run_called s k e).sat (CPst C m s.2.2.2.2.2.2.1 s)
 call:∀ {m:Int}{s:RunT}{f t:dZ}{l:List dZ},Pre C n 8 100300000 m s->b8 t->uG l->(G.eval_run_call s f t l).sat (cy C (m+100300000) s.2.2.2.2.2.2.1 s)
 callF:∀ {m:Int}{s:RunT}{f t:dZ}{l:List dZ},Pre C n 4 100300000 m s->f.1=6->FnC s f.2.2.2.2->b8 t->uG l->(G.eval_run_call s f t l).sat (cy C (m+100300000) s.2.2.2.2.2.2.1 s)
 builds:∀ {m:Int}{s:RunT}{a:List UInt8}{l:List dZ},Pre C n 8 100300000 m s->InN a->uG l->(G.eval_run_builds s a l).sat (cy C (m+100300000) s.2.2.2.2.2.2.1 s)
 apply:∀ {m:Int}{s:RunT}{i:Int}{t:dZ}{l:List dZ},Pre C n 3 100300000 m s->FnC s i->b8 t->uG l->(G.eval_run_apply s i t l).sat (cy C (m+100300000) s.2.2.2.2.2.2.1 s)
 does:∀ {m:Int}{s:RunT}{a:List UInt8}{t:dZ}{l:List dZ},Pre C n 7 100300000 m s->InN a->b8 t->uG l->(G.eval_run_does s a t l).sat (cy C (m+100300000) s.2.2.2.2.2.2.1 s)
 host:∀ {m:Int}{s:RunT}{a:List UInt8}{x:dZ},Pre C n 6 100300000 m s->b8 x->(G.eval_run_host s a x).sat (cy C (m+100300000) s.2.2.2.2.2.2.1 s)
 CE:∀ {m:Int}{s:RunT}{f:dZ},Pre C n 5 100300000 m s->(G.eval_run_receives s f).sat (cy C (m+100300000) s.2.2.2.2.2.2.1 s)
section
variable {C:Cx}{n:Nat}{G:af}{m m' b k k' c c':Int}{s s' s1 s2:RunT}{how:Int}{β:Type}{Q:β->Prop}
theorem Pre.go(p:Pre C (n+1) k c m s)(a:Aft C m' b s s')(hk:k' < k)(hm:m'+c'<=500000000000):Pre C n k' c' m' s':=⟨a.run,by have h1:=p.fu;have h2:=a.dp;rw [h2];omega,hm⟩
theorem Pre.no(p:Pre C 0 k c m s)(hk:1<=k):False:=by
 have h1:=p.fu;have h2:=p.run.dp;omega
theorem Pre.deep(p:Pre C (n+1) k 0 m s)(h:gy C (m-134217728) s1)(e:Eq (α:=Int) (s1.2.2.2.2.2.1) ((HAdd.hAdd (α:=Int) (β:=Int) (γ:=Int) (s.2.2.2.2.2.1) (1))))(hk:k'<=20)(h1:1<=k)(hc:c'<=134217728):Pre C n k' c' (m-134217728) s1:=⟨h,by have h1:=p.fu;rw [e];omega,by have:=p.hm;omega⟩
theorem AL(h:gy C m s)(e2:s1.2.2.2.2.1=s.2.2.2.2.1)(e3:Eq (α:=Int) (s1.2.2.2.2.2.1) ((HAdd.hAdd (α:=Int) (β:=Int) (γ:=Int) (s.2.2.2.2.2.1) (1))))(e4:Eq (α:=Int) (s1.2.2.2.2.2.2.1) ((HAdd.hAdd (α:=Int) (β:=Int) (γ:=Int) (s.2.2.2.2.2.2.1) (1))))(hD:C.D<=200)(g:Pst C m' s1.2.2.2.2.2.2.1 s1 how s2)(hm:m'<=m):Pst C m (HAdd.hAdd (α:=Int) (β:=Int) (γ:=Int) (s.2.2.2.2.2.2.1) (1)) s how (s2.1,(s2.2.1,(s2.2.2.1,(s2.2.2.2.1,(s2.2.2.2.2.1,(w6 (HSub.hSub (α:=Int) (β:=Int) (γ:=Int) (s2.2.2.2.2.2.1) (1)),s2.2.2.2.2.2.2)))))):=by
 rcases g with ⟨h1,h2⟩|⟨h1,h2⟩
 ·exact .inl ⟨h1,h2.nd,h2.hs⟩
 ·have a:=h2.run;have d1:=h.d0;have d2:=h.dp;have d3:Eq (α:=Int) (s2.2.2.2.2.2.1) (s1.2.2.2.2.2.1):=h2.dp
  have ew:w6 (HSub.hSub (α:=Int) (β:=Int) (γ:=Int) (s2.2.2.2.2.2.1) (1))=s.2.2.2.2.2.1:=by rw [wrap64 (by omega)];omega
  have hb:=h2.bg;refine .inr ⟨h1,⟨a.nd,a.lm,a.an,a.u0,a.us,?_,?_,?_,a.b0,a.bg,a.rq,a.en⟩,?_,?_,?_⟩
  ·obtain ⟨B,g1,g2⟩:=a.hp;exact ⟨B,g1,Int.le_trans g2 hm⟩
  ·show LE.le (α:=Int) (0) (w6 (HSub.hSub (α:=Int) (β:=Int) (γ:=Int) (s2.2.2.2.2.2.1) (1)));rw [ew];exact d1
  ·show LE.le (α:=Int) (w6 (HSub.hSub (α:=Int) (β:=Int) (γ:=Int) (s2.2.2.2.2.2.1) (1))) (C.D);rw [ew];exact d2
  ·have:=h2.ext;rw [e2] at this;exact this
  ·exact ew
  ·show LE.le (α:=Int) ((HAdd.hAdd (α:=Int) (β:=Int) (γ:=Int) (s.2.2.2.2.2.2.1) (1))) (s2.2.2.2.2.2.2.1);rw [<- e4];exact hb
theorem uW(hc:jU C)(p:Pre C (n+1) k 0 m s){f:Bool×RunT->Res β}(h1:∀ s1,EE C s1->(f (false,s1)).sat Q)(h2:∀ s1,s1.2.2.2.2.1=s.2.2.2.2.1->Eq (α:=Int) (s1.2.2.2.2.2.1) ((HAdd.hAdd (α:=Int) (β:=Int) (γ:=Int) (s.2.2.2.2.2.1) (1)))->Eq (α:=Int) (s1.2.2.2.2.2.2.1) ((HAdd.hAdd (α:=Int) (β:=Int) (γ:=Int) (s.2.2.2.2.2.2.1) (1)))->gy C (m-134217728) s1->(f (true,s1)).sat Q):((R.bu s).bind f).sat Q:=by
 have hF:=hc.F;have hD:=hc.D;refine aB (FM p.run (by omega) (by omega)) λr hr=>?_;obtain ⟨y,s1⟩:=r;rcases hr with ⟨e,g⟩|⟨e,g1,g2,g3,g4⟩
 ·have e:y=false:=e;subst e;exact h1 s1 g
 ·have e:y=true:=e;subst e;exact h2 s1 g1 g2 g3 g4
theorem fit3{x:Int}(h:og 3 x=true):30<=x/\x<=53/\x≠40:=by simpa [og,wN] using h
theorem fit4{x:Int}(h:og 4 x=true):x=33\/x=52\/x=53:=by simpa [og,BZ] using h
theorem fit_4{x:Int}(h:x=33\/x=52\/x=53):og 4 x=true:=by simpa [og,BZ] using h
theorem fit_1{x:Int}:og 1 x=true:=rfl
theorem rQ.nd{x:eT}(h:rQ C.N x){i:Nat}{k:Int}(hk:x.2.2.2.2.2[i]?=some k)(t:Int)(ht:srt (shp x.1 (x.2.2.2.2.2).length) i=t):Nd C.N t k:=by
 obtain ⟨k0,y,hy,hf,_⟩:=h.kid i k hk;exact ⟨k0,y,hy,ht▸hf⟩
theorem rQ.nd1{x:eT}(h:rQ C.N x){i:Nat}{k:Int}(hk:x.2.2.2.2.2[i]?=some k):Nd C.N 1 k:=by
 obtain ⟨k0,y,hy,hf,_⟩:=h.kid i k hk;exact ⟨k0,y,hy,fit_1⟩
end
end Go.Mach

set_option maxRecDepth 100000
namespace Go.Mach
open Res
instance Dt{k}:Safe (R.fk k):=by unfold R.fk;exact dw0
instance EG{k}:Safe (R.fL k):=by unfold R.fL;exact dw0
section
variable {t:List eT}{n:Int}{x:eT}
theorem xZ(hg:pg t){i:Nat}(hx:t[i]?=some x){j:Nat}{k:Int}(hk:x.2.2.2.2.2[j]?=some k):0<=k/\k.toNat < t.length:=by
 obtain ⟨k0,y,hy,_⟩:=(hg.nod _ x hx).kid j k hk;exact ⟨k0,(List.getElem?_eq_some_iff.1 hy).1⟩
theorem yn(hg:pg t)(hf:rW t)(n0:0<=n)(hn:n.toNat < t.length):(R.gz t n).sat λr=>r.length<=20000:=by
 unfold R.gz;refine aA λ_=>bQ n0 hn λx hx _=>?_;have hx:t[n.toNat]?=some x:=hx;have hl:=hf.one _ x hx;refine aB (gQ (Q:=λr:List (List UInt8)=>r.length<=20000) (λy=>y.2) (x.2.2.2.2.2).length (by omega) (λy=>y.1.length=y.2.toNat) (by simp) (by simp) (by simp) λy y0 y1 yI=>?_) λr hr=>aD hr;obtain ⟨l,j⟩:=y;have y0:0<=j:=y0;have y1:j<=((x.2.2.2.2.2).length:Int):=y1;have yI:l.length=j.toNat:=yI;refine ef (λhj=>?_) λ_=>aD (by show l.length<=20000;omega);have hj:j < ((x.2.2.2.2.2).length:Int):=hj;refine ba y0 (by show _ < (x.2.2.2.2.2).length;omega) λk hk _=>?_;obtain ⟨k0,kl⟩:=xZ hg hx hk;refine bQ k0 kl λz _ _=>bD (decide_eq_true ?_) (aD ⟨rfl,hj,?_⟩)
 ·show (l.length+1)*16<=2^47;omega
 ·show (l++[_]).length=(w6 (j+1)).toNat;rw [wrap64 (by omega),List.length_append];simp;omega
theorem ss(hg:pg t)(hf:rW t)(n0:0<=n)(hn:n.toNat < t.length):(R.fF t n).sat λr=>r.length<=400000000:=by
 unfold R.fF;refine aA λ_=>bQ n0 hn λx hx _=>?_;have hx:t[n.toNat]?=some x:=hx;have hl:=hf.one _ x hx;have hgx:=hg.nod _ x hx;refine aB (dw0:Safe _).ok λ_ _=>aG (λ_=>?_) λ_=>aB (R:=λb=>b=true->x.1=10) (bK (λh10=>?_) λ_=>aD λe=>by cases e) λb hb=>aG (λe=>?_) λ_=>aB (dw0:Safe _).ok λ_ _=>aG (λ_=>aD (by simp)) λ_=>q_b λ_=>aG (λ_=>?_) λ_=>aD (by simp)
 ·refine aB (gQ (Q:=λr:List (List UInt8)=>r.length<=400000000) (λy=>y.2) (x.2.2.2.2.2).length (by omega) (λy=>y.1.length<=20000*y.2.toNat) (by simp) (by simp) (by simp) λy y0 y1 yI=>?_) λr hr=>aD hr;obtain ⟨l,j⟩:=y;have y0:0<=j:=y0;have y1:j<=((x.2.2.2.2.2).length:Int):=y1;have yI:l.length<=20000*j.toNat:=yI;refine ef (λhj=>?_) λ_=>aD (by show l.length<=400000000;omega);have hj:j < ((x.2.2.2.2.2).length:Int):=hj
  have ew:(w6 (j+1)).toNat=j.toNat+1:=by rw [wrap64 (by omega)];omega
  refine ba y0 (by show _ < (x.2.2.2.2.2).length;omega) λk hk _=>?_;obtain ⟨k0,kl⟩:=xZ hg hx hk;refine bQ k0 kl λz _ _=>q_b λ_=>aG (λ_=>aB (yn hg hf k0 kl) λr hr=>aA λ_=>bD (decide_eq_true ?_) (aD ⟨rfl,hj,?_⟩)) λ_=>aG (λ_=>bD (decide_eq_true ?_) (aD ⟨rfl,hj,?_⟩)) λ_=>aD ⟨rfl,hj,?_⟩
  ·show (l.length+r.length)*16<=2^47;omega
  ·show (l++r).length<=20000*(w6 (j+1)).toNat;rw [ew,List.length_append];omega
  ·show (l.length+1)*16<=2^47;omega
  ·show (l++[_]).length<=20000*(w6 (j+1)).toNat;rw [ew,List.length_append];simp;omega
  ·show l.length<=20000*(w6 (j+1)).toNat;rw [ew];omega
 ·have h10:x.1=10:=h10;have h4:=hgx.len;rw [h10] at h4;have h4:4<=(x.2.2.2.2.2).length:=h4;refine ba (by decide) (by show 0 < (x.2.2.2.2.2).length;omega) λk hk _=>?_;obtain ⟨k0,kl⟩:=xZ hg hx hk;exact bQ k0 kl λz _ _=>q_b λ_=>aD λ_=>h10
 ·have h4:=hgx.len;rw [hb e] at h4;have h4:4<=(x.2.2.2.2.2).length:=h4;refine ba (by decide) (by show 0 < (x.2.2.2.2.2).length;omega) λk hk _=>?_;obtain ⟨k0,kl⟩:=xZ hg hx hk;exact aB (yn hg hf k0 kl) λr hr=>aA λ_=>aD (by omega)
 ·refine aB (gQ (Q:=λr:List (List UInt8)=>r.length<=400000000) (λy=>y.2) (x.2.2.2.2.2).length (by omega) (λy=>y.1.length<=y.2.toNat) (by simp) (by simp) (by simp) λy y0 y1 yI=>?_) λr hr=>aD hr;obtain ⟨l,j⟩:=y;have y0:0<=j:=y0;have y1:j<=((x.2.2.2.2.2).length:Int):=y1;have yI:l.length<=j.toNat:=yI;refine ef (λhj=>?_) λ_=>aD (by show l.length<=400000000;omega);have hj:j < ((x.2.2.2.2.2).length:Int):=hj
  have ew:(w6 (j+1)).toNat=j.toNat+1:=by rw [wrap64 (by omega)];omega
  refine ba y0 (by show _ < (x.2.2.2.2.2).length;omega) λk hk _=>?_;obtain ⟨k0,kl⟩:=xZ hg hx hk;refine bQ k0 kl λz _ _=>aG (λ_=>bQ k0 kl λz' _ _=>bD (decide_eq_true ?_) (aD ⟨rfl,hj,?_⟩)) λ_=>aD ⟨rfl,hj,?_⟩
  ·show (l.length+1)*16<=2^47;omega
  ·show (l++[_]).length<=(w6 (j+1)).toNat;rw [ew,List.length_append];simp;omega
  ·show l.length<=(w6 (j+1)).toNat;rw [ew];omega
theorem zF(hg:pg t)(hf:rW t)(n0:0<=n)(hn:n.toNat < t.length):(R.fJ t n).sat λr=>r.length<=400000000:=by
 unfold R.fJ;exact aA λ_=>aB (ss hg hf n0 hn) λr hr=>aA λ_=>aD hr
end
end Go.Mach

set_option maxRecDepth 100000
namespace Go.Mach
open Res
def zH(C:Cx)(m b:Int)(s:RunT){α:Type}(P:α->Prop):α ⊕ (RunT×tD)->Prop
 |.inl a=>P a
 |.inr z=>ng C m b s (z.2,z.1)
theorem Dj{C:Cx}{m b:Int}{s:RunT}{α:Type}{P:α->Prop}{x:α ⊕ (RunT×tD)}(hx:zH C m b s P x){f:α->Res (tD×RunT)}(hf:∀ a,P a->(f a).sat (ng C m b s)):(sum x f λz=>Res.ok (z.2,z.1)).sat (ng C m b s):=by
 cases x with
 |inl a=>exact iy (hf a hx)
 |inr z=>exact iv (aD hx)
def A5(C:Cx)(m b:Int)(s:RunT)(r:RunT×tD):Prop:=ng C m b s (r.2,r.1)
theorem sum_d{C:Cx}{m b:Int}{s:RunT}{α γ:Type}{P:α->Prop}{x:α ⊕ (RunT×tD)}{Q:Step γ (RunT×tD)->Prop}(hx:zH C m b s P x){f:α->Res (Step γ (RunT×tD))}(hf:∀ a,P a->(f a).sat Q)(hd:∀ z,A5 C m b s z->Q (.done z)):(sum x f λz=>Res.ok (.done z)).sat Q:=by
 cases x with
 |inl a=>exact iy (hf a hx)
 |inr z=>exact iv (aD (hd z hx))
theorem sum_di{C:Cx}{m b:Int}{s:RunT}{α γ δ:Type}{P:α->Prop}{x:α ⊕ (RunT×tD)}{Q:Step γ (δ ⊕ (RunT×tD))->Prop}(hx:zH C m b s P x){f:α->Res (Step γ (δ ⊕ (RunT×tD)))}(hf:∀ a,P a->(f a).sat Q)(hd:∀ z,A5 C m b s z->Q (.done (.inr z))):(sum x f λz=>Res.ok (.done (.inr z))).sat Q:=by
 cases x with
 |inl a=>exact iy (hf a hx)
 |inr z=>exact iv (aD (hd z hx))
section
variable {β:Type}{Q:β->Prop}{C:Cx}{x:eT}
theorem gn{t:Ty}{l:List t.den}{i:Int}{a:t.den}{f:t.den->Res β}(i0:0<=i)(h:l[i.toNat]?=some a)(hf:(f a).sat Q):(idx t l i f).sat Q:=ba i0 (List.getElem?_eq_some_iff.1 h).1 λy hy _=>by
 have:some a=some y:=h.symm.trans hy;cases this;exact hf
theorem iW(h:rQ C.N x)(i:Nat)(t:Int)(hi:i < (shp x.1 (x.2.2.2.2.2).length).1.length)(ht:srt (shp x.1 (x.2.2.2.2.2).length) i=t):∃ k,x.2.2.2.2.2[i]?=some k/\Nd C.N t k:=by
 have hl:=Nat.lt_of_lt_of_le hi h.len;exact ⟨_,List.getElem?_eq_getElem hl,h.nd (List.getElem?_eq_getElem hl) t ht⟩
theorem Nd.any{t k:Int}(h:Nd C.N t k):Nd C.N 1 k:=by
 obtain ⟨k0,y,hy,_⟩:=h;exact ⟨k0,y,hy,rfl⟩
theorem ED{s:RunT}(hn:s.1=C.N){k:Int}{y:eT}(k0:0<=k)(hy:C.N[k.toNat]?=some y){f:eT->Res β}(hf:(f y).sat Q):(idx aE s.1 k f).sat Q:=by
 rw [hn];exact gn k0 hy hf
theorem Pst.nd{m b how:Int}{s s':RunT}(h:Pst C m b s how s'):s'.1=C.N:=by
 rcases h with ⟨_,h⟩|⟨_,h⟩
 ·exact h.nd
 ·exact h.run.nd
theorem Dk{o:tD}{l:List (List UInt8)}(hv:b8 o.2.2):(R.iL o l).sat λr=>b8 r.2.2.2/\(r.1=true->Ne (α:=Int) (o.1) (5))/\(r.1=false->Eq (α:=Int) (r.2.1) (o.1)\/(Ne (α:=Int) (o.1) (5)/\Ne (α:=Int) (r.2.1) (5))):=by
 unfold R.iL;refine aA λ_=>bK (λe=>aD ⟨hv,λ_=>?_,λe=>by cases e⟩) λ_=>aB (R:=λb=>b=true->o.1=1) (bK (λe=>aD λ_=>e) λ_=>aD λe=>by cases e) λb hb=>aG (λe=>aD ⟨bn,(λe=>by cases e),λ_=>.inr ⟨?_,show (0:Int)≠5 by decide⟩⟩) λ_=>aB (R:=λb=>b=true->o.1=2) (bK (λe=>aG (λ_=>aD λ_=>e) λ_=>q_b λ_=>aD λ_=>e) λ_=>aD λe=>by cases e) λb hb=>aG (λe=>aD ⟨bn,λ_=>?_,λe=>by cases e⟩) λ_=>aD ⟨hv,(λe=>by cases e),λ_=>.inl rfl⟩
 ·exact iw e (by decide)
 ·exact iw (hb e) (by decide)
 ·exact iw (hb e) (by decide)
end
section
variable {C:Cx}{n:Nat}{G:af}{m k:Int}{s:RunT}{x:eT}{e:mP}{l:List (List UInt8)}{a:List UInt8}{v:dZ}
theorem E8(hc:jU C)(hG:GOk C n G)(p:Pre C (n+1) 2 0 m s)(hx:Nk C.N x)(he:b8 e.2.1):(R.eval_run_list G s x.2.2.2.2.2 e).sat (ng C m s.2.2.2.2.2.2.1 s):=by
 unfold R.eval_run_list;obtain ⟨i,hi⟩:=hx;have hk:=hc.fw.one _ x hi;have hg:=hc.tr.nod _ x hi;have pm:=p.hm;refine aA λ_=>aB (gQ (Q:=zH C m s.2.2.2.2.2.2.1 s λs'=>Aft C m s.2.2.2.2.2.2.1 s s') (λy=>y.1) (x.2.2.2.2.2).length (by omega) (λy=>Aft C m s.2.2.2.2.2.2.1 s y.2) (by simp) (by simp) (Aft.refl p.run) λy y0 y1 yI=>?_) λr hr=>Dj hr λs' hs'=>aD ⟨bn,.ok hs'⟩;obtain ⟨j,s1⟩:=y;have y0:0<=j:=y0;have yI:Aft C m s.2.2.2.2.2.2.1 s s1:=yI;refine ef (λhj=>?_) λ_=>aD yI;have hj:j < ((x.2.2.2.2.2).length:Int):=hj;refine ba y0 (by show _ < (x.2.2.2.2.2).length;omega) λk hk' _=>?_;exact aB (hG.statement (l:=[]) (p.go yI (by decide) (by omega)) (hg.nd1 hk') he yI.run.d0) λr hr=>aA λ_=>bx (λ_=>aD ⟨hr.1,Pst.lI yI hr.2⟩) λe=>aD ⟨rfl,hj,(Pst.lI yI hr.2).a0 e⟩
theorem w3(hc:jU C)(hG:GOk C n G)(p:Pre C (n+1) 1 0 m s)(hn:Nd C.N 1 k)(he:b8 e.2.1)(hl:LE.le (α:=Int) ((l.length:Int)) (s.2.2.2.2.2.1)):(R.eval_run_statement G s k e l).sat (ng C m (HAdd.hAdd (α:=Int) (β:=Int) (γ:=Int) (s.2.2.2.2.2.2.1) (1)) s):=by
 unfold R.eval_run_statement;refine aA λ_=>uW hc p (λs1 h1=>aA λ_=>jK rfl (aD ⟨bn,.inl ⟨rfl,h1⟩⟩)) λs1 e2 e3 e4 h=>aA λ_=>iC rfl ?_;have p1:Pre C n 4 100300000 (m-134217728) s1:=p.deep h e3 (by decide) (by decide) (by decide);exact aB (hG.act p1 hn he (by rw [e3];omega)) λr ⟨v,g⟩=>aA λ_=>aD ⟨v,AL p.run e2 e3 e4 hc.D g (by omega)⟩
theorem Cf(hc:jU C)(hG:GOk C n G)(p:Pre C (n+1) 2 0 m s)(hn:Nd C.N 3 k)(he:b8 e.2.1):(R.eval_run_asked G s k e).sat (BPst C m (HAdd.hAdd (α:=Int) (β:=Int) (γ:=Int) (s.2.2.2.2.2.2.1) (1)) s):=by
 unfold R.eval_run_asked;have pm:=p.hm;exact aA λ_=>aB (hG.gj (p.go (.refl p.run) (by decide) (by omega)) hn he) λr ⟨v,g⟩=>aA λ_=>bx (λ_=>aD ⟨v,g⟩) λe=>q_b λ_=>aD ⟨bn,.ok (g.a0 e)⟩
theorem CZ(hc:jU C)(hG:GOk C n G)(p:Pre C (n+1) 2 0 m s)(hx:Nk C.N x)(hk:x.1=5\/x.1=6)(he:b8 e.2.1):(R.eval_run_decls G s x.2.2.2.2.2 e).sat (ng C m s.2.2.2.2.2.2.1 s):=by
 unfold R.eval_run_decls;obtain ⟨i,hi⟩:=hx;have hl:=hc.fw.one _ x hi;have hg:=hc.tr.nod _ x hi;have pm:=p.hm;refine aA λ_=>aB (gQ (Q:=zH C m s.2.2.2.2.2.2.1 s λs'=>Aft C m s.2.2.2.2.2.2.1 s s') (λy=>y.1) (x.2.2.2.2.2).length (by omega) (λy=>Aft C m s.2.2.2.2.2.2.1 s y.2) (by simp) (by simp) (Aft.refl p.run) λy y0 y1 yI=>?_) λr hr=>Dj hr λs' hs'=>aD ⟨bn,.ok hs'⟩;obtain ⟨j,s1⟩:=y;have y0:0<=j:=y0;have yI:Aft C m s.2.2.2.2.2.2.1 s s1:=yI;refine ef (λhj=>?_) λ_=>aD yI;have hj:j < ((x.2.2.2.2.2).length:Int):=hj;refine ba y0 (by show _ < (x.2.2.2.2.2).length;omega) λd hd _=>?_
 have hsrt:srt (shp x.1 (x.2.2.2.2.2).length) j.toNat=5:=by
  rcases hk with e|e<;>rw [e]<;>unfold srt shp<;>(cases j.toNat<;>rfl)
 obtain ⟨d0,z,hz,hf⟩:=hg.nd hd 5 hsrt;have hz7:z.1=7:=eq_of_beq hf;have hgz:=hc.tr.nod _ z hz;refine jV yI.run d0 hz (aB (R:=zH C m s.2.2.2.2.2.2.1 s λr=>Aft C m s.2.2.2.2.2.2.1 s r.1/\b8 r.2) (ef (λh0=>?_) λ_=>aD ⟨yI,bn⟩) λr hr=>?_)
 ·have h0:0 < ((z.2.2.2.2.2).length:Int):=h0;refine ba (by decide) (by show 0 < (z.2.2.2.2.2).length;omega) λq hq _=>?_;have hq:z.2.2.2.2.2[0]?=some q:=hq
  have hsz:srt (shp z.1 (z.2.2.2.2.2).length) 0=3:=by
   rw [hz7];unfold srt shp;rw [show (min ((z.2.2.2.2.2).length:Int) 1).toNat=1 by omega];rfl
  exact aB (hG.gj (p.go yI (by decide) (by omega)) (hgz.nd hq 3 hsz) he) λr ⟨v,g⟩=>aA λ_=>bx (λ_=>aD ⟨v,Pst.lI yI g⟩) λe=>aD ⟨(Pst.lI yI g).a0 e,v⟩
 ·refine sum_di hr (λr ⟨a1,v1⟩=>aB (wu a1.run (by omega) v1) λr2 a2=>aA λ_=>aD ⟨rfl,hj,a1.cat a2⟩) λz hz=>hz
theorem Af(hc:jU C)(hG:GOk C n G)(p:Pre C (n+1) 3 0 m s)(hx:Nk C.N x)(hk:x.1=8)(he:b8 e.2.1):(R.eval_run_choice G s x.2.2.2.2.2 e).sat (ng C m s.2.2.2.2.2.2.1 s):=by
 unfold R.eval_run_choice;obtain ⟨i,hi⟩:=hx;have hg:=hc.tr.nod _ x hi;have pm:=p.hm
 have hlen:∀ q:Int,(List.take (min (max q 2) 3).toNat [(3:Int),2,2]).length>=2:=λq=>by simp;omega
 have h2:2<=(x.2.2.2.2.2).length:=by
  have:=hg.len;rw [hk] at this;exact Nat.le_trans (hlen _) this
 have a0:=Aft.refl p.run
 have hs0:srt (shp x.1 (x.2.2.2.2.2).length) 0=3:=by
  rw [hk];show (List.take (min (max ((x.2.2.2.2.2).length:Int) 2) 3).toNat [(3:Int),2,2]).getD 0 0=3;obtain ⟨q,hq⟩:∃ q,(min (max ((x.2.2.2.2.2).length:Int) 2) 3).toNat=q+1:=⟨(min (max ((x.2.2.2.2.2).length:Int) 2) 3).toNat-1,by omega⟩;rw [hq];rfl
 refine aA λ_=>ba (by decide) (by show 0 < (x.2.2.2.2.2).length;omega) λk0 hk0 _=>aB (hG.asked (p.go a0 (by decide) (by omega)) (hg.nd hk0 3 hs0) he) λr ⟨v,g⟩=>aA λ_=>bx (λ_=>aD ⟨v,Pst.lI a0 g⟩) λe0=>?_;have a1:=(Pst.lI a0 g).a0 e0;have st:∀ {k:Int},Nd C.N 1 k->(G.eval_run_statement r.2 k e []).sat (ng C m s.2.2.2.2.2.2.1 s):=λhn=>bG (hG.statement (l:=[]) (p.go a1 (by decide) (by omega)) hn he a1.run.d0) λ_ hr=>⟨hr.1,Pst.lI a1 hr.2⟩;refine aG (λ_=>ba (by decide) (by show 1 < (x.2.2.2.2.2).length;omega) λk1 hk1 _=>aU (st (hg.nd1 hk1))) λ_=>ef (λh=>ba (by decide) (by have h:2 < ((x.2.2.2.2.2).length:Int):=h;show 2 < (x.2.2.2.2.2).length;omega) λk1 hk1 _=>aU (st (hg.nd1 hk1))) λ_=>aD ⟨bn,.ok a1⟩
theorem C4(hc:jU C)(hG:GOk C n G)(p:Pre C (n+1) 3 0 m s)(hx:Nk C.N x)(hk:x.1=9)(he:b8 e.2.1):(R.eval_run_while G s x.2.2.2.2.2 e l).sat (ng C m s.2.2.2.2.2.2.1 s):=by
 unfold R.eval_run_while;obtain ⟨i,hi⟩:=hx;have hg:=hc.tr.nod _ x hi;have pm:=p.hm;have hF:=hc.F;have hb0:=p.run.b0;obtain ⟨k0,hk0,n0⟩:=iW hg 0 3 (by rw [hk];simp [shp]) (by rw [hk];rfl);obtain ⟨k1,hk1,n1⟩:=iW hg 1 2 (by rw [hk];simp [shp]) (by rw [hk];rfl);refine aA λ_=>aB (kG (Q:=A5 C m s.2.2.2.2.2.2.1 s) (λy=>((HSub.hSub (α:=Int) (β:=Int) (γ:=Int) (C.F) (y.2.2.2.2.2.2.1))).toNat) (by show ((HSub.hSub (α:=Int) (β:=Int) (γ:=Int) (C.F) (s.2.2.2.2.2.2.1))).toNat<=_;omega) (λy=>Aft C m s.2.2.2.2.2.2.1 s y) (Aft.refl p.run) λs1 yI=>?_) λr hr=>aD hr;refine gn (by decide) hk0 (aB (hG.asked (p.go yI (by decide) (by omega)) n0 he) λr1 ⟨v1,g1⟩=>aA λ_=>aB (R:=λb=>b=false->Eq (α:=Int) (r1.1.2.1) (0)) (bx (λ_=>aD λe=>by cases e) λe=>aD λ_=>e) λb hb=>aG (λ_=>aD ⟨v1,Pst.lI yI g1⟩) λeb=>?_);have a1:=(Pst.lI yI g1).a0 (hb eb);have hlt:LE.le (α:=Int) ((HAdd.hAdd (α:=Int) (β:=Int) (γ:=Int) (s1.2.2.2.2.2.2.1) (1))) (r1.2.2.2.2.2.2.2.1):=(g1.a0 (hb eb)).bg;refine gn (by decide) hk1 (aB (hG.statement (l:=[]) (p.go a1 (by decide) (by omega)) n1.any he a1.run.d0) λr2 ⟨v2,g2⟩=>aA λ_=>aB (Dk v2) λr3 ⟨v3,t1,t2⟩=>aA λ_=>aG (λe3=>aD ?_) λe3=>aD ⟨v3,?_⟩)
 ·have a2:=(Pst.lI a1 g2).aft (t1 e3);have h2:LE.le (α:=Int) ((HAdd.hAdd (α:=Int) (β:=Int) (γ:=Int) (r1.2.2.2.2.2.2.2.1) (1))) (r2.2.2.2.2.2.2.2.1):=(g2.aft (t1 e3)).bg;have h3:=a2.run.bg;have h0:=yI.run.b0;refine ⟨?_,a2⟩;show ((HSub.hSub (α:=Int) (β:=Int) (γ:=Int) (C.F) (r2.2.2.2.2.2.2.2.1))).toNat < ((HSub.hSub (α:=Int) (β:=Int) (γ:=Int) (C.F) (s1.2.2.2.2.2.2.1))).toNat;omega
 ·rcases t2 e3 with e4|⟨e4,e5⟩
  ·show Pst C m s.2.2.2.2.2.2.1 s r3.2.1 r2.2
   rw [show r3.2.1=r2.1.1 from e4]
   exact Pst.lI a1 g2
  ·exact (Pst.lI a1 g2).how e4 e5
theorem Cq(hc:jU C)(hG:GOk C n G)(p:Pre C (n+1) 2 100300000 m s)(hn:Nd C.N 1 k)(hv:b8 v)(he:b8 e.2.1):(R.eval_run_catch G s a k v e).sat (ng C (m+10) s.2.2.2.2.2.2.1 s):=by
 unfold R.eval_run_catch;have pm:=p.hm;have a0:=Aft.refl p.run;refine aA λ_=>eD (aG (λ_=>aU (bG (hG.statement (l:=[]) (p.go a0 (by decide) (by omega)) hn he a0.run.d0) λ_ hr=>⟨hr.1,(Pst.lI a0 hr.2).up (by omega)⟩)) λ_=>aB (qP p.run (by omega)) λr1 ⟨g1,_⟩=>aA λ_=>bx (λ_=>aD ⟨bn,g1.up (by omega)⟩) λe1=>?_);have a1:=g1.a0 e1;refine aB (qF a1.run (by omega) hv) λr2 a2=>aA λ_=>?_;have a3:=a1.cat a2;exact aU (bG (hG.statement (l:=[]) (p.go a3 (by decide) (by omega)) hn he a3.run.d0) λ_ hr=>⟨hr.1,(Pst.lI a3 hr.2).up (by omega)⟩)
theorem Gm(hc:jU C)(hG:GOk C n G)(p:Pre C (n+1) 3 100300000 m s)(hx:Nk C.N x)(hk:x.1=16)(he:b8 e.2.1):(R.eval_run_try G s x.2.2.2.2.2 e).sat (ng C (m+100300000) s.2.2.2.2.2.2.1 s):=by
 unfold R.eval_run_try;obtain ⟨i,hi⟩:=hx;have hg:=hc.tr.nod _ x hi;have pm:=p.hm;have a0:=Aft.refl p.run;obtain ⟨k0,hk0,n0⟩:=iW hg 0 8 (by rw [hk];simp [shp]) (by rw [hk];rfl);obtain ⟨k1,hk1,n1⟩:=iW hg 1 11 (by rw [hk];simp [shp]) (by rw [hk];rfl);obtain ⟨k2,hk2,n2⟩:=iW hg 2 12 (by rw [hk];simp [shp]) (by rw [hk];rfl);have n1':=n1;have n2':=n2;obtain ⟨k10,y1,hy1,_⟩:=n1';obtain ⟨k20,y2,hy2,_⟩:=n2';refine aA λ_=>gn (by decide) hk0 (aB (hG.statement (l:=[]) (p.go a0 (by decide) (by omega)) n0.any he a0.run.d0) λr1 ⟨v1,g1⟩=>aA λ_=>?_);have g1:=Pst.lI a0 g1;refine aB (R:=A5 C (m+10) s.2.2.2.2.2.2.1 s) (gn (by decide) hk1 (ED g1.nd k10 hy1 (aB (R:=λb=>b=true->Eq (α:=Int) (r1.1.1) (4)/\y1.1=17) (bK (λe=>aD λe'=>⟨e,eq_of_beq e'⟩) λ_=>aD λe=>by cases e) λb hb=>aG (λeb=>?_) λ_=>aD ⟨v1,g1.up (by omega)⟩))) λr2 hr2=>?_
 ·obtain ⟨e1,e2⟩:=hb eb;have a1:=g1.aft (iw e1 (by decide));have hgy:=hc.tr.nod _ y1 hy1;obtain ⟨q,hq,nq⟩:=iW hgy 0 8 (by rw [e2];simp [shp]) (by rw [e2];rfl);exact gn (by decide) hq (aB (hG.GL (p.go a1 (by decide) (by omega)) nq.any v1 he) λr ⟨v,g⟩=>aA λ_=>aD ⟨v,Pst.cat a1 g⟩)
 ·obtain ⟨s2,o⟩:=r2;obtain ⟨v2,g2⟩:=hr2;have v2:b8 o.2.2:=v2;have g2:Pst C (m+10) s.2.2.2.2.2.2.1 s o.1 s2:=g2;refine aB (R:=λb=>b=false->Ne (α:=Int) (o.1) (5)) (bK (λ_=>aD λe=>by cases e) λh5=>gn (by decide) hk2 (ED g2.nd k20 hy2 (aD λ_=>h5))) λb hb=>aG (λ_=>aD ⟨v2,g2.up (by omega)⟩) λeb=>?_;have a2:=g2.aft (hb eb);exact gn (by decide) hk2 (aB (hG.statement (l:=[]) (p.go a2 (by decide) (by omega)) n2.any he a2.run.d0) λr3 ⟨v3,g3⟩=>aA λ_=>bx (λ_=>aD ⟨v3,(Pst.lI a2 g3).up (by omega)⟩) λe3=>aD ⟨v2,.inr ⟨hb eb,((Pst.lI a2 g3).a0 e3).up (by omega)⟩⟩)
end
end Go.Mach

set_option maxRecDepth 100000
namespace Go.Mach
open Res
abbrev oq(s:RunT)(H:qW):RunT:=(s.1,(s.2.1,(s.2.2.1,(s.2.2.2.1,(H,s.2.2.2.2.2)))))
theorem fit10{k:Int}(h:og 10 k=true)(h1:k≠11)(h2:¬ (k=5\/k=6)):og 3 k=true:=by
 have h3:k≠5:=λe=>h2 (.inl e);have h4:k≠6:=λe=>h2 (.inr e);simpa [og,h1,h3,h4] using h
theorem fit9{k:Int}(h:og 9 k=true)(h1:k≠11):og 3 k=true:=by simpa [og,h1] using h
theorem Ey{kd how:Int}{v:dZ}:(R.eV kd v how).sat λr=>r.2.2=v/\(how≠0->Eq (α:=Int) (r.1) (how))/\(how=0->Eq (α:=Int) (r.1) (kd)):=by
 unfold R.eV;exact aA λ_=>bx (λh=>aD ⟨rfl,λ_=>rfl,λe=>absurd e h⟩) λh=>aD ⟨rfl,λe=>absurd h e,λ_=>rfl⟩
theorem take1{l:List Int}{i:Nat}{q:Int}(h:l[i]?=some q)(h0:i=0):(List.take (min (l.length:Int) 1).toNat [(3:Int)]).getD 0 0=3:=by
 have:=(List.getElem?_eq_some_iff.1 h).1;rw [show (min (l.length:Int) 1).toNat=1 by omega];rfl
section
variable {C:Cx}{n:Nat}{G:af}{m k:Int}{s:RunT}{x:eT}{e:mP}{l:List (List UInt8)}{a:List UInt8}{v:dZ}
theorem zL{kd:Int}(hk:kd≠5){b:Int}{r:(dZ×Int)×RunT}(h:cy C m b s r):(R.eV kd r.1.1 r.1.2).sat λo=>ng C m b s (o,r.2):=bG Ey λo ⟨h1,h2,h3⟩=>by
 refine ⟨?_,?_⟩
 ·show b8 o.2.2;rw [h1];exact h.1
 ·show Pst C m b s o.1 r.2;by_cases e:r.1.2=0
  ·rw [show o.1=kd from h3 e]
   exact .inr ⟨hk,h.2.a0 e⟩
  ·rw [show o.1=r.1.2 from h2 e]
   exact h.2
theorem Da(hc:jU C)(hG:GOk C n G)(p:Pre C (n+1) 3 100300000 m s)(k0:0<=k)(hx:C.N[k.toNat]?=some x)(hk:x.1=4)(he:b8 e.2.1):(R.eval_run_block G s k e).sat (ng C (m+100300000) s.2.2.2.2.2.2.1 s):=by
 unfold R.eval_run_block;have pm:=p.hm;have a0:=Aft.refl p.run;have hn:s.1=C.N:=p.run.nd
 have hd:(R.fJ s.1 k).sat λ_=>True:=by
  rw [hn];exact bG (zF hc.tr hc.fw k0 (List.getElem?_eq_some_iff.1 hx).1) λ_ _=>trivial
 refine aA λ_=>aB (R:=zH C (m+100300000) s.2.2.2.2.2.2.1 s λr:RunT×mP=>Aft C (m+100300000) s.2.2.2.2.2.2.1 s r.1/\b8 r.2.2.1) ?_ λr hr=>Dj hr λr ⟨a1,v1⟩=>jV a1.run k0 hx (aU (bG (hG.list (p.go a1 (by decide) (by omega)) ⟨_,hx⟩ v1) λ_ hr=>⟨hr.1,Pst.cat a1 hr.2⟩));refine aB hd λ_ _=>aA λ_=>ef (λ_=>aB (qP p.run (by omega)) λr1 ⟨g1,_⟩=>aA λ_=>bx (λ_=>aD ⟨bn,g1.up (by omega)⟩) λe1=>?_) λ_=>aD ⟨a0.up (by omega),he⟩;have a1:=g1.a0 e1;exact aB (sJ hc a1.run (by omega) k0 hx he) λr2 ⟨v2,g2⟩=>aA λ_=>bx (λ_=>aD ⟨v2,(Pst.cat a1 g2).up (by omega)⟩) λe2=>aD ⟨((Pst.cat a1 g2).a0 e2).up (by omega),he⟩
theorem Cb(hc:jU C)(hG:GOk C n G)(p:Pre C (n+1) 2 100300000 m s)(hn:Nd C.N 10 k)(he:b8 e.2.1):(R.eval_run_first G s k e).sat (FPst C (m+100000) s.2.2.2.2.2.2.1 s):=by
 unfold R.eval_run_first;have pm:=p.hm;have a0:=Aft.refl p.run;have hn':=hn;obtain ⟨k0,x,hx,hf⟩:=hn';have hl:=hc.fw.one _ x hx;have hg:=hc.tr.nod _ x hx;refine aA λ_=>jV p.run k0 hx (bK (λ_=>aD ⟨he,bn,(Pst.ok a0).up (by omega)⟩) λh11=>oE (λh56=>aB (qP p.run (by omega)) λr1 ⟨g1,_⟩=>aA λ_=>bx (λ_=>aD ⟨he,bn,g1.up (by omega)⟩) λe1=>?_) λh56=>?_)
 ·have a1:=g1.a0 e1;refine aB (gQ (Q:=λH:qW=>Aft C (m+20000) s.2.2.2.2.2.2.1 s (oq r1.2 H)) (λy=>y.1) (x.2.2.2.2.2).length (by omega) (λw=>Aft C (m+w.1) s.2.2.2.2.2.2.1 s (oq r1.2 w.2)) (by simp) (by simp) (by show Aft C (m+0) _ _ (oq r1.2 r1.2.2.2.2.2.1);rw [Int.add_zero];exact a1) λw w0 w1 wI=>?_) λH hH=>?_
  ·obtain ⟨j,H⟩:=w;have w0:0<=j:=w0;have w1:j<=((x.2.2.2.2.2).length:Int):=w1;have wI:Aft C (m+j) s.2.2.2.2.2.2.1 s (oq r1.2 H):=wI;refine ef (λhj=>?_) λ_=>aD (wI.up (by omega));have hj:j < ((x.2.2.2.2.2).length:Int):=hj;refine ba w0 (by show _ < (x.2.2.2.2.2).length;omega) λq hq _=>?_;obtain ⟨q0,z,hz,_⟩:=hg.kid _ q hq;refine jV a1.run q0 hz (aB (qF wI.run (by omega) bn) λr hr=>aA λ_=>aD ⟨rfl,hj,?_⟩);show Aft C (m+w6 (j+1)) _ _ _;rw [wrap64 (n:=j+1) (by omega),<- Int.add_assoc];exact wI.cat hr
  ·exact aB (hG.statement (l:=[]) (p.go hH (by decide) (by omega)) hn.any he hH.run.d0) λr ⟨v,g⟩=>aA λ_=>aD ⟨he,v,(Pst.lI hH g).up (by omega)⟩
 ·exact aB (hG.gj (p.go a0 (by decide) (by omega)) ⟨k0,x,hx,fit10 hf h11 h56⟩ he) λr ⟨v,g⟩=>aA λ_=>aB (zL (kd:=0) (by decide) (r:=r) ⟨v,(Pst.lI a0 g).up (m':=m+100000) (by omega)⟩) λo ho=>aA λ_=>aD ⟨he,ho.1,ho.2⟩
theorem Fo(hc:jU C)(hG:GOk C n G)(p:Pre C (n+1) 3 100300000 m s)(hx:Nk C.N x)(hk:x.1=10)(he:b8 e.2.1):(R.eval_run_loop G s x.2.2.2.2.2 e l).sat (ng C (m+100300000) s.2.2.2.2.2.2.1 s):=by
 unfold R.eval_run_loop;obtain ⟨i,hi⟩:=hx;have hg:=hc.tr.nod _ x hi;have pm:=p.hm;have hF:=hc.F;have a0:=Aft.refl p.run;obtain ⟨k0,hk0,n0⟩:=iW hg 0 10 (by rw [hk];simp [shp]) (by rw [hk];rfl);obtain ⟨k1,hk1,n1⟩:=iW hg 1 9 (by rw [hk];simp [shp]) (by rw [hk];rfl);obtain ⟨k2,hk2,n2⟩:=iW hg 2 9 (by rw [hk];simp [shp]) (by rw [hk];rfl);obtain ⟨k3,hk3,n3⟩:=iW hg 3 2 (by rw [hk];simp [shp]) (by rw [hk];rfl);have n0':=n0;have n1':=n1;have n2':=n2;obtain ⟨k00,y0,hy0,_⟩:=n0';obtain ⟨k10,y1,hy1,f1⟩:=n1';obtain ⟨k20,y2,hy2,f2⟩:=n2';have turn:∀ {s1:RunT}{e1:mP}{c:Bool},Aft C (m+100000) s.2.2.2.2.2.2.1 s s1->b8 e1.2.1->(br c ((R.cw s1 e1).bind λr=>given (cw.g.o r) (br (!(r.1.2 == 0)) (Res.ok (.inr (r.2,(r.1.2,(([]:List UInt8),(0,((0,0),((false,([]:List Int)),(([]:List Int),0)))))))):Res ((RunT×mP) ⊕ (RunT×tD))) (Res.ok (.inl (r.2,r.1.1))))) (Res.ok (.inl (s1,e1)))).sat (zH C (m+100000) s.2.2.2.2.2.2.1 s λr:RunT×mP=>Aft C (m+100000) s.2.2.2.2.2.2.1 s r.1/\LE.le (α:=Int) (s1.2.2.2.2.2.2.1) (r.1.2.2.2.2.2.2.1)/\b8 r.2.2.1):=λ{s1 e1 c} a1 v1=>aG (λ_=>aB (Jl a1.run (by omega)) λr ⟨t1,t2,_⟩=>aA λ_=>bx (λ_=>aD ⟨bn,Pst.cat a1 t2⟩) λe2=>aD ⟨(Pst.cat a1 t2).a0 e2,(t2.a0 e2).bg,by show b8 r.1.1.2.1;rw [t1];exact v1⟩) λ_=>aD ⟨a1,Int.le_refl _,v1⟩
 refine aA λ_=>gn (by decide) hk0 (aB (hG.first (p.go a0 (by decide) (by omega)) n0 he) λr1 ⟨v1,v2,g1⟩=>aA λ_=>bx (λ_=>aD ⟨v2,g1.up (by omega)⟩) λe1=>?_)
 have a1:=g1.a0 e1;refine gn (by decide) hk0 (jV a1.run k00 hy0 (aB (turn a1 v1) λr hr=>Dj (m:=m+100300000) (P:=λr:RunT×mP=>Aft C (m+100000) s.2.2.2.2.2.2.1 s r.1/\b8 r.2.2.1) ?_ λr ⟨a2,v3⟩=>?_))
 ·cases r with
  |inl r=>exact ⟨hr.1,hr.2.2⟩
  |inr z=>exact ⟨hr.1,hr.2.up (by omega)⟩
 refine aB (kG (Q:=A5 C (m+100300000) s.2.2.2.2.2.2.1 s) (λy=>((HSub.hSub (α:=Int) (β:=Int) (γ:=Int) (C.F) (y.1.2.2.2.2.2.2.1))).toNat) (by have:=a2.run.b0;show ((HSub.hSub (α:=Int) (β:=Int) (γ:=Int) (C.F) (r.1.2.2.2.2.2.2.1))).toNat<=_;omega) (λy=>Aft C (m+100000) s.2.2.2.2.2.2.1 s y.1/\b8 y.2.2.1) ⟨a2,v3⟩ λy ⟨yI,yv⟩=>?_) λr hr=>aD hr;obtain ⟨s1,e1⟩:=y;have yI:Aft C (m+100000) s.2.2.2.2.2.2.1 s s1:=yI;have yv:b8 e1.2.1:=yv;refine aB (R:=zH C (m+100000) s.2.2.2.2.2.2.1 s λs2:RunT=>Aft C (m+100000) s.2.2.2.2.2.2.1 s s2/\LE.le (α:=Int) (s1.2.2.2.2.2.2.1) (s2.2.2.2.2.2.2.1)) (gn (by decide) hk1 (jV yI.run k10 hy1 (o7 (λh11=>gn (by decide) hk1 (aB (hG.asked (p.go yI (by decide) (by omega)) ⟨k10,y1,hy1,fit9 f1 h11⟩ yv) λr1 ⟨v1,g1⟩=>aA λ_=>aB (R:=λb=>b=false->Eq (α:=Int) (r1.1.2.1) (0)) (bx (λ_=>aD λe=>by cases e) λe=>aD λ_=>e) λb hb=>aG (λ_=>aD ⟨v1,Pst.lI yI g1⟩) λeb=>aD ⟨(Pst.lI yI g1).a0 (hb eb),?_⟩)) λ_=>aD ⟨yI,Int.le_refl _⟩))) λr hr=>sum_d hr (λs2 ⟨a3,b3⟩=>?_) λz hz=>⟨hz.1,hz.2.up (by omega)⟩
 ·have h:LE.le (α:=Int) ((HAdd.hAdd (α:=Int) (β:=Int) (γ:=Int) (s1.2.2.2.2.2.2.1) (1))) (r1.2.2.2.2.2.2.2.1):=(g1.a0 (hb eb)).bg;show LE.le (α:=Int) (s1.2.2.2.2.2.2.1) (r1.2.2.2.2.2.2.2.1);omega
 refine gn (by decide) hk3 (aB (hG.statement (l:=[]) (p.go a3 (by decide) (by omega)) n3.any yv a3.run.d0) λr2 ⟨v2,g2⟩=>aA λ_=>aB (Dk v2) λr3 ⟨v3,t1,t2⟩=>aA λ_=>eD (aG (λe3=>?_) λe3=>aD ⟨v3,?_⟩))
 ·have g3:=g2.aft (t1 e3);have a4:=(Pst.lI a3 g2).aft (t1 e3);have b4:LE.le (α:=Int) ((HAdd.hAdd (α:=Int) (β:=Int) (γ:=Int) (s2.2.2.2.2.2.2.1) (1))) (r2.2.2.2.2.2.2.2.1):=g3.bg
  have fin:∀ {s5:RunT},Aft C (m+100000) s.2.2.2.2.2.2.1 s s5->LE.le (α:=Int) (r2.2.2.2.2.2.2.2.1) (s5.2.2.2.2.2.2.1)->((HSub.hSub (α:=Int) (β:=Int) (γ:=Int) (C.F) (s5.2.2.2.2.2.2.1))).toNat < ((HSub.hSub (α:=Int) (β:=Int) (γ:=Int) (C.F) (s1.2.2.2.2.2.2.1))).toNat:=λ{s5} a5 h=>by
   have h1:=a5.run.bg;omega
  refine aB (turn a4 yv) λr hr=>sum_d hr (λr ⟨a5,b5,v5⟩=>?_) λz hz=>⟨hz.1,hz.2.up (by omega)⟩;obtain ⟨s5,e5⟩:=r;have a5:Aft C (m+100000) s.2.2.2.2.2.2.1 s s5:=a5;have b5:LE.le (α:=Int) (r2.2.2.2.2.2.2.2.1) (s5.2.2.2.2.2.2.1):=b5;have v5:b8 e5.2.1:=v5;refine gn (by decide) hk2 (jV a5.run k20 hy2 (bK (λ_=>aD ⟨fin a5 b5,a5,v5⟩) λh11=>gn (by decide) hk2 (aB (hG.gj (p.go a5 (by decide) (by omega)) ⟨k20,y2,hy2,fit9 f2 h11⟩ v5) λr6 ⟨v6,g6⟩=>aA λ_=>bx (λ_=>aD ⟨v6,(Pst.lI a5 g6).up (by omega)⟩) λe6=>aD ⟨fin ((Pst.lI a5 g6).a0 e6) ?_,(Pst.lI a5 g6).a0 e6,v5⟩)));have h6:=(g6.a0 e6).bg;show LE.le (α:=Int) (r2.2.2.2.2.2.2.2.1) (r6.2.2.2.2.2.2.2.1);omega
 ·rcases t2 e3 with e4|⟨e4,e5⟩
  ·show Pst C (m+100300000) s.2.2.2.2.2.2.1 s r3.2.1 r2.2
   rw [show r3.2.1=r2.1.1 from e4]
   exact (Pst.lI a3 g2).up (by omega)
  ·exact ((Pst.lI a3 g2).how e4 e5).up (by omega)
theorem Gh(hc:jU C)(hG:GOk C n G)(p:Pre C (n+1) 4 100300000 m s)(hn:Nd C.N 1 k)(he:b8 e.2.1)(hl:LE.le (α:=Int) ((HAdd.hAdd (α:=Int) (β:=Int) (γ:=Int) ((l.length:Int)) (1))) (s.2.2.2.2.2.1)):(R.eval_run_act G s k e l).sat (ng C (m+100300000) s.2.2.2.2.2.2.1 s):=by
 unfold R.eval_run_act;obtain ⟨k0,x,hx,_⟩:=hn;have hg:=hc.tr.nod _ x hx;have pm:=p.hm;have a0:=Aft.refl p.run;have hD:=hc.D;have hdp:=p.run.dp;have ex:∀ {q:Int},Nd C.N 3 q->(G.eval_run_expression s q e).sat (cy C (m+100300000) s.2.2.2.2.2.2.1 s):=λhn=>bG (hG.gj (p.go a0 (by decide) (by omega)) hn he) λ_ hr=>⟨hr.1,(Pst.lI a0 hr.2).up (by omega)⟩;have up:∀ {F:Res (tD×RunT)}{B:tD×RunT->Bool},F.sat (ng C m s.2.2.2.2.2.2.1 s)->(F.bind λr=>given (B r) (Res.ok r)).sat (ng C (m+100300000) s.2.2.2.2.2.2.1 s):=λh=>aU (bG h λ_ hr=>⟨hr.1,hr.2.up (by omega)⟩);refine aA λ_=>jV p.run k0 hx (bK (λh3=>?_) λ_=>bK (λh4=>?_) λ_=>oE (λh56=>?_) λ_=>bK (λh8=>?_) λ_=>bK (λh9=>?_) λ_=>bK (λh10=>?_) λ_=>bK (λ_=>aD ⟨bn,.inr ⟨show (1:Int)≠5 by decide,a0.up (by omega)⟩⟩) λ_=>bK (λ_=>aD ⟨bn,.inr ⟨show (2:Int)≠5 by decide,a0.up (by omega)⟩⟩) λ_=>bK (λh14=>?_) λ_=>bK (λh15=>?_) λ_=>bK (λh16=>?_) λ_=>bK (λh18=>?_) λ_=>aD ⟨bn,(Pst.ok a0).up (by omega)⟩)
 ·obtain ⟨q,hq,nq⟩:=iW hg 0 3 (by rw [h3];simp [shp]) (by rw [h3];rfl);exact gn (by decide) hq (aB (ex nq) λr ⟨v,g⟩=>aA λ_=>bx (λ_=>aD ⟨v,g⟩) λe0=>aD ⟨bn,.ok (g.a0 e0)⟩)
 ·exact aU (hG.block (p.go a0 (by decide) pm) k0 hx h4 he)
 ·exact up (hG.decls (p.go a0 (by decide) (by omega)) ⟨_,hx⟩ h56 he)
 ·exact up (hG.choice (p.go a0 (by decide) (by omega)) ⟨_,hx⟩ h8 he)
 ·exact up (hG.GG (p.go a0 (by decide) (by omega)) ⟨_,hx⟩ h9 he)
 ·exact aU (hG.loop (p.go a0 (by decide) pm) ⟨_,hx⟩ h10 he)
 ·refine bK (λ_=>aD ⟨bn,.inr ⟨show (3:Int)≠5 by decide,a0.up (by omega)⟩⟩) λh0=>?_;have h0:((x.2.2.2.2.2).length:Int)≠0:=h0;refine ba (by decide) (by show 0 < (x.2.2.2.2.2).length;omega) λq hq _=>?_;have hq:x.2.2.2.2.2[0]?=some q:=hq
  have hs:srt (shp x.1 (x.2.2.2.2.2).length) 0=3:=by
   rw [h14];exact take1 hq rfl
  exact aB (ex (hg.nd hq 3 hs)) λr hr=>aA λ_=>aB (zL (by decide) hr) λo ho=>aA λ_=>aD ho
 ·obtain ⟨q,hq,nq⟩:=iW hg 0 3 (by rw [h15];simp [shp]) (by rw [h15];rfl);exact gn (by decide) hq (aB (ex nq) λr hr=>aA λ_=>aB (zL (by decide) hr) λo ho=>aA λ_=>aD ho)
 ·exact aU (hG.try_ (p.go a0 (by decide) pm) ⟨_,hx⟩ h16 he)
 ·obtain ⟨q,hq,nq⟩:=iW hg 0 2 (by rw [h18];simp [shp]) (by rw [h18];rfl);refine gn (by decide) hq (qD (aA λ_=>bD (decide_eq_true ?_) (aB (hG.statement (l:=l++[x.2.1]) (p.go a0 (by decide) (by omega)) nq.any he ?_) λr ⟨v,g⟩=>aA λ_=>aB (R:=λb=>b=true->Eq (α:=Int) (r.1.1) (1)) (bK (λe=>aD λ_=>e) λ_=>aD λe=>by cases e) λb hb=>aG (λeb=>aD ⟨bn,?_⟩) λ_=>aD ⟨v,(Pst.lI a0 g).up (by omega)⟩)))
  ·show (l.length+1)*16<=2^47;omega
  ·show LE.le (α:=Int) (((l++[x.2.1]).length:Int)) (s.2.2.2.2.2.1);rw [List.length_append];simp;exact hl
  ·exact ((Pst.lI a0 g).how (iw (hb eb) (by decide)) (show (0:Int)≠5 by decide)).up (by omega)
end
end Go.Mach

