/-
  Shared texts of the proofs of the laws renlaw13.AgentRefuses, renlaw13.AgentIs and renlaw13.AgentApart: each returns true for every input of the stated bulk and leaves its arguments as they were; no further condition.
  By an AI agent; no person has read it.
-/
import Derived.Test.YtfmfdkbpemiocaaGreatDoorPay
set_option linter.all false
set_option linter.deprecated false
set_option maxRecDepth 100000
namespace Go.Mach
open Res
def qC(C:Cx)(m b:Int)(s:RunT){α:Type}(P:α->Prop):α ⊕ (Int×(RunT×dZ))->Prop
 |.inl a=>P a
 |.inr z=>cp C m b s ((z.2.2,z.1),z.2.1)
theorem oi{C:Cx}{m b:Int}{s:RunT}{α:Type}{P:α->Prop}{x:α ⊕ (Int×(RunT×dZ))}(hx:qC C m b s P x){f:α->Res ((dZ×Int)×RunT)}(hf:∀ a,P a->(f a).sat (cp C m b s)):(sum x f λz=>Res.ok ((z.2.2,z.1),z.2.1)).sat (cp C m b s):=by
 cases x with
 |inl a=>exact i6 (hf a hx)
 |inr z=>exact jD (aD hx)
theorem oy{C:Cx}{m b:Int}{s:RunT}{α:Type}{P:α->Prop}{F:Res ((dZ×Int)×RunT)}{B:(dZ×Int)×RunT->Bool}(hF:F.sat (cp C m b s)):(F.bind λr=>given (B r) (Res.ok (Sum.inr (r.1.2,(r.2,r.1.1)):α ⊕ (Int×(RunT×dZ))))).sat (qC C m b s P):=aB hF λr hr=>aA λ_=>aD hr
theorem Ey{B:Nat}{c:ja}(h1:c.2.2.1=[])(h2:c.2.2.2.1=[])(h3:bw c.2.2.2.2.2.2.2.1)(h4:c.2.2.2.2.1.length<=4096:=by exact Nat.zero_le _):sd B c:=⟨by rw [h1];exact Nat.zero_le _,by rw [h2];exact Nat.zero_le _,by rw [h1];simp,by rw [h2];simp,h3,h4⟩
theorem jC{x k j:Int}(e:x=k)(h:k≠j):x≠j:=λg=>h (e.symm.trans g)
theorem pY.vw1{N:List eH}{l:List ja}{c:ja}(e:Eq (α:=Int) (c.1) (8))(h:LE.le (α:=Int) (0) (c.2.2.2.2.2.2.2.2.2.2.1)/\LE.le (α:=Int) (0) (c.2.2.2.2.2.2.2.2.2.2.2.1)/\LE.le (α:=Int) ((HAdd.hAdd (α:=Int) (β:=Int) (γ:=Int) (c.2.2.2.2.2.2.2.2.2.2.1) (c.2.2.2.2.2.2.2.2.2.2.2.1))) (9007199254740991)/\qe l c.2.2.2.2.2.2.2.2.2.1 (HAdd.hAdd (α:=Int) (β:=Int) (γ:=Int) (c.2.2.2.2.2.2.2.2.2.2.1) (c.2.2.2.2.2.2.2.2.2.2.2.1))):pY N l c:=⟨λg=>absurd g (jC e (by decide)),λg=>absurd g (jC e (by decide)),λg=>absurd g (jC e (by decide)),λg=>absurd g (jC e (by decide)),λ_=>h⟩
theorem pY.ty1{N:List eH}{l:List ja}{c:ja}{z:Int}(e:Eq (α:=Int) (c.1) (7))(h:ElI c.2.2.2.2.2.2.2.2.1 z/\LE.le (α:=Int) (0) (c.2.2.2.2.2.2.2.2.2.2.1)/\LE.le (α:=Int) (0) (c.2.2.2.2.2.2.2.2.2.2.2.1)/\LE.le (α:=Int) (c.2.2.2.2.2.2.2.2.2.2.2.1) (9007199254740991)/\LE.le (α:=Int) ((HAdd.hAdd (α:=Int) (β:=Int) (γ:=Int) (c.2.2.2.2.2.2.2.2.2.2.1) (HMul.hMul (α:=Int) (β:=Int) (γ:=Int) c.2.2.2.2.2.2.2.2.2.2.2.1 z))) (9007199254740991)/\qe l c.2.2.2.2.2.2.2.2.2.1 (HAdd.hAdd (α:=Int) (β:=Int) (γ:=Int) (c.2.2.2.2.2.2.2.2.2.2.1) (HMul.hMul (α:=Int) (β:=Int) (γ:=Int) c.2.2.2.2.2.2.2.2.2.2.2.1 z))):pY N l c:=⟨λg=>absurd g (jC e (by decide)),λg=>absurd g (jC e (by decide)),λg=>absurd g (jC e (by decide)),λ_=>⟨z,h⟩,λg=>absurd g (jC e (by decide))⟩
theorem pY.sh1{N:List eH}{l:List ja}{c:ja}(e:Eq (α:=Int) (c.1) (6))(h:LE.le (α:=Int) (0) (c.2.2.2.2.2.2.2.2.2.2.2.1)/\LE.le (α:=Int) (c.2.2.2.2.2.2.2.2.2.2.2.1) (9007199254740991)):pY N l c:=⟨λg=>absurd g (jC e (by decide)),λg=>absurd g (jC e (by decide)),λ_=>h,λg=>absurd g (jC e (by decide)),λg=>absurd g (jC e (by decide))⟩
theorem pY.bf1{N:List eH}{l:List ja}{c:ja}(e:Eq (α:=Int) (c.1) (5))(h:(c.2.2.2.2.2.2.2.2.2.2.2.2).length<=4096):pY N l c:=⟨λg=>absurd g (jC e (by decide)),λ_=>h,λg=>absurd g (jC e (by decide)),λg=>absurd g (jC e (by decide)),λg=>absurd g (jC e (by decide))⟩
theorem lE{l:List dZ}(hl:∀ v∈l,bw v){i:Int}(h0:0<=i):(R.bc l i).sat bw:=by
 unfold R.bc;exact aA λ_=>dt (λh=>bM h0 (by have h:i < (l.length:Int):=h;show _ < l.length;omega) λx hx _=>aD (hl _ (List.mem_of_getElem? hx))) λ_=>aD ba
theorem lr{n:Int}:(R.cD n).sat bw:=by
 unfold R.cD;exact aA λ_=>aB nw λr hr=>aA λ_=>aD (vk hr)
instance GQ{n}:Safe (R.gE n):=by
 unfold R.gE;refine ⟨aA λh=>?_⟩;simp only [Sg.i,oks,Sh.ok,Ty.ok,List.map,Par.v,Bool.and_eq_true,Gv] at h;exact aO (a:=Lib.itoa n) rfl (aA λ_=>aB (dL (Nat.le_trans (Lib.itoa_length_le n (by omega) (by omega)) (by decide))) λ_ _=>aA λ_=>aD trivial)
theorem C5{u:List Int}:(R.fH u).sat λr=>r.1.length<=u.length:=by
 unfold R.fH;refine aA λh=>?_;simp only [Sg.i,oks,Sh.ok,Ty.ok,List.map,Par.v,Bool.and_eq_true] at h;have hl:=uX h;simp only [Sh.jH,Ty.jH,IntKind.jH] at hl
 refine aB (fP (Q:=λr:List Int ⊕ (List UInt8×Bool)=>match r with|.inl l=>l.length<=u.length|.inr r=>r.1.length<=u.length) (λi=>i.2) u.length (by omega) (λx=>x.1.length=x.2.toNat) (by simp) (by simp) (by simp) λx h0 h1 hI=>?_) λx hx=>?_
 ·obtain ⟨l,i⟩:=x;have h0:0<=i:=h0;have h1:i<=(u.length:Int):=h1;have hI:l.length=i.toNat:=hI;refine dt (λhi=>?_) λ_=>aD (by show l.length<=u.length;omega);have hi:i < (u.length:Int):=hi;refine bM h0 (by show _ < u.length;omega) λe _ _=>dt (λ_=>aD (Nat.zero_le _)) λ_=>ax (decide_eq_true ?_) (aD ⟨rfl,hi,?_⟩)
  ·show (l.length+1)*1<=2^47;omega
  ·show (l++[_]).length=(w6 (i+1)).toNat;rw [wrap64 (by omega),List.length_append];simp;omega
 ·cases x with
  |inl l=>exact i6 (aD (by rw [wc];exact hx))
  |inr r=>exact jD (aD hx)
theorem E3{k:Nat}(h:k<=10):(10:Int)^k<=10000000000:=by
 have h1:((10^k:Nat):Int)<=((10000000000:Nat):Int):=Int.ofNat_le.2 (Nat.le_trans (Nat.pow_le_pow_right (by decide) h) (by decide));rw [Int.natCast_pow] at h1;exact h1
theorem yf{u:List Int}:(R.fZ u).sat λr=>0<=r.1/\r.1<=4294967294:=by
 unfold R.fZ;refine aA λ_=>aB (R:=λb=>b=false->u.length<=10) (bH (λ_=>aD λe=>by cases e) λh0=>dt (λ_=>aD λe=>by cases e) λh1=>?_) λb hb=>aG (λ_=>aD ⟨by decide,by decide⟩) λe=>?_
 ·have h0:(u.length:Int)≠0:=h0;have h1:(u.length:Int)<=10:=h1
  exact bM (by decide) (by show 0 < u.length;omega) λ_ _ _=>bH (λ_=>aD λ_=>by omega) λ_=>aD λ_=>by omega
 ·have hl:=hb e
  refine aB (fP (Q:=λr:Int ⊕ (Int×Bool)=>match r with|.inl n=>0<=n|.inr r=>0<=r.1/\r.1<=4294967294) (λi=>i.2) u.length (by omega) (λx=>0<=x.1/\x.1+1<=10^x.2.toNat) (by simp) (by simp) (by simp) λx h0 h1 hI=>?_) λx hx=>?_
  ·obtain ⟨n,i⟩:=x;have h0:0<=i:=h0;have h1:i<=(u.length:Int):=h1;obtain ⟨n0,n1⟩:=hI;have n0:0<=n:=n0;have n1:n+1<=10^i.toNat:=n1;refine dt (λhi=>?_) λ_=>aD n0;have hi:i < (u.length:Int):=hi;refine bM h0 (by show _ < u.length;omega) λd _ _=>aB (R:=λb=>b=true->48<=d/\d<=57) ?_ λb hb=>dK (aG (λe=>?_) λ_=>aD ⟨by decide,by decide⟩)
   ·unfold R.iM
    exact aA λ_=>lW (λg=>aD λe=>⟨g,of_decide_eq_true e⟩) λ_=>aD λe=>by cases e
   ·obtain ⟨d0,d1⟩:=hb e;have d0:LE.le (α:=Int) (48) (d):=d0;have d1:LE.le (α:=Int) (d) (57):=d1;have hp:(10:Int)^i.toNat<=10000000000:=E3 (by omega);have hp1:(10:Int)^(i.toNat+1)=10^i.toNat*10:=Int.pow_succ _ _;refine aD ⟨rfl,hi,?_⟩
    have w1:IntKind.wrap .u16 (d-48)=d-48:=by simp [w6,w6,w6,IntKind.wrap,IntKind.signed,IntKind.bits];omega
    show 0<=w6 (w6 (10*n)+w6 (IntKind.wrap .u16 (d-48)))/\w6 (w6 (10*n)+w6 (IntKind.wrap .u16 (d-48)))+1<=10^(w6 (i+1)).toNat;rw [w1,wrap64 (n:=10*n) (by omega),wrap64 (n:=d-48) (by omega),wrap64 (n:=10*n+(d-48)) (by omega),wrap64 (n:=i+1) (by omega),show (i+1).toNat=i.toNat+1 by omega,hp1];omega
  ·cases x with
   |inl n=>exact i6 (dt (λ_=>aD ⟨by decide,by decide⟩) λh=>aD ⟨hx,h⟩)
   |inr r=>exact jD (aD hx)
theorem FJ{l:List (List UInt8)}{n:List UInt8}:(R.bn l n).sat λr=>-1<=r/\r < l.length/\(0<=r->n∈l):=by
 unfold R.bn;refine aA λh=>?_;simp only [Sg.i,oks,Sh.ok,Ty.ok,List.map,Par.v,Bool.and_eq_true] at h;have hl:=la h.1
 refine aB (fP (Q:=λr:Unit ⊕ Int=>match r with|.inl _=>True|.inr r=>-1<=r/\r < l.length/\(0<=r->n∈l)) (λx=>x) l.length (by omega) (λ_=>True) (by omega) (by omega) trivial λx h0 h1 _=>?_) λx hx=>?_
 ·refine dt (λh=>bM (by omega) (by omega) λe he _=>aG (λg=>aD ⟨by omega,by omega,λ_=>?_⟩) λ_=>aD ⟨rfl,by omega,trivial⟩) λ_=>aD trivial;rw [eq_of_beq g];exact List.mem_of_getElem? he
 ·cases x with
  |inl _=>exact i6 (aD ⟨by omega,by omega,λh=>absurd h (by decide)⟩)
  |inr r=>exact jD (aD hx)
theorem AG{l:List (List UInt8)}{n:List UInt8}:(R.aP l n).sat λr=>r=true->n∈l:=by
 unfold R.aP;exact aA λ_=>aB FJ λr hr=>aA λ_=>aD λe=>hr.2.2 (of_decide_eq_true e)
noncomputable def B8:List (List UInt8):=R.cu.strip.getD []
theorem Cl:R.cu.sat (·=B8):=pD (a:=B8) (by kernel_rfl) rfl
def InN(s:List UInt8):Prop:=s∈([]::B8)
theorem Fj{P:List UInt8->Bool}(h:([]::B8).all P=true){s:List UInt8}(hs:InN s):P s=true:=List.all_eq_true.1 h s hs
theorem Fm:B8.length<=100:=of_decide_eq_true (by kernel_rfl)
theorem Ao{s:List UInt8}(hs:InN s):s.length<=100:=of_decide_eq_true (Fj (P:=λs=>decide (s.length<=100)) (by kernel_rfl) hs)
theorem tX{i:Int}:(R.iG i).sat λr=>InN r/\(i < 4096->r=[]):=by
 unfold R.iG;have hl:=Fm;refine aA λ_=>aO Cl (aA λ_=>aB (R:=λb=>b=false->4096<=i/\i < 4096+(B8.length:Int)) (dt (λ_=>aD λe=>by cases e) λh=>aD λe=>?_) λb hb=>aG (λ_=>aD ⟨List.mem_cons_self,λ_=>rfl⟩) λe=>?_)
 ·have e:=Int.not_le.1 (of_decide_eq_false e);rw [wrap64 (by omega)] at e;exact ⟨h,e⟩
 ·obtain ⟨h1,h2⟩:=hb e;rw [wrap64 (n:=i-4096) (by omega)];exact fN (ga (by omega) (oK (by omega) (bP (by omega) (by show _ < B8.length;omega) λx hx _=>aD ⟨List.mem_cons_of_mem _ (List.mem_of_getElem? hx),λh=>absurd h (by omega)⟩)))
theorem um{n:List UInt8}:(R.iw n).sat λr=>r=true->n≠[]:=by
 unfold R.iw;refine aA λ_=>dK (aG (λ_=>aD λe=>by cases e) λh=>bG (dw0:Safe _).ok λr _ _ e=>?_);subst e;cases h
theorem eli{k:Int}(h:1<=k/\k<=8):∃ z,ElI k z:=by
 rcases (by omega:k=1\/k=2\/k=3\/k=4\/k=5\/k=6\/k=7\/k=8) with rfl|rfl|rfl|rfl|rfl|rfl|rfl|rfl
 ·exact ⟨1,.k1⟩
 ·exact ⟨1,.k2⟩
 ·exact ⟨2,.k3⟩
 ·exact ⟨2,.k4⟩
 ·exact ⟨4,.k5⟩
 ·exact ⟨4,.k6⟩
 ·exact ⟨8,.k7⟩
 ·exact ⟨8,.k8⟩
theorem AK{n:List UInt8}:(R.eu n).sat λr=>0<=r/\r<=8:=by
 unfold R.eu R.fo;refine aA λ_=>cz (aA λ_=>aD (aA λ_=>aB FJ λr hr=>aA λ_=>aD ?_));obtain ⟨h1,h2,_⟩:=hr;have h2:r < 8:=h2;rw [wrap64 (by omega)];omega
theorem FD{n:List UInt8}:(R.jk n).sat λr=>0 < r->∃ z,ElI r z:=by
 unfold R.jk;exact aA λ_=>aB safe λr _=>aA λ_=>aG (λ_=>aB AK λk hk=>aA λ_=>aD λh=>eli ⟨by omega,hk.2⟩) λ_=>aD λh=>absurd h (by decide)
def optB{α:Type}(o:Option α)(f:α->Bool):Bool :=
 match o with
 |some x=>f x
 |none=>false
theorem wx{α:Type}{m:Res α}{f:α->Bool}(h:optB m.strip f=true):m.sat λx=>f x=true:=by
 cases hm:m.strip with
 |none=>rw [hm] at h;cases h
 |some x =>
  rw [hm] at h;exact pD (Φ:=λx=>f x=true) hm h
abbrev dvw:List UInt8:=[68,97,116,97,86,105,101,119,35]
def VwN(n:List UInt8):Prop:=3<=n.length/\(R.eu (List.drop 3 n)).sat λk=>∃ z,ElI k z
theorem HT{s:List UInt8}(hs:InN s):(R.cU s dvw).sat λb=>b=true->(R.b8 s dvw).sat VwN:=by
 have h:=Fj (P:=λs=>optB (R.cU s dvw).strip λb=>!b || optB (R.b8 s dvw).strip λt=>decide (3<=t.length) && optB (R.eu (List.drop 3 t)).strip λk=>decide (1<=k/\k<=8)) (by kernel_rfl) hs;refine bG (wx h) λb hb e=>?_;subst e;refine bG (wx hb) λt ht=>?_;rw [Bool.and_eq_true] at ht;exact ⟨of_decide_eq_true ht.1,bG (wx ht.2) λk hk=>eli (of_decide_eq_true hk)⟩
theorem Bv{n:List UInt8}:(R.gC n).sat λr=>∀ x∈r,x.length<=100:=by
 unfold R.gC;refine aA λ_=>aG (λ_=>aD ?_) λ_=>aG (λ_=>aD ?_) λ_=>aG (λ_=>aD ?_) λ_=>aG (λ_=>aD ?_) λ_=>aG (λ_=>aD ?_) λ_=>aD ?_
 all_goals decide
section
variable {C:Cx}{m b:Int}{s:RunT}
theorem pN(h:gq C m s)(hm:m<=2^39){c:ja}(hc:pY C.N s.2.2.2.2.1.2 c)(h1:c.2.2.1=[])(h2:c.2.2.2.1=[])(h3:bw c.2.2.2.2.2.2.2.1)(h4:c.2.2.2.2.1.length<=4096:=by exact Nat.zero_le _):(R.ah s c).sat (cp C m s.2.2.2.2.2.2.1 s):=bG (pK h hm hc λ_ _=>Ey h1 h2 h3 h4) λ_ hr=>hr.1
theorem Ce{v:dZ}:(R.eU s v).sat λr=>r=true->0<=v.2.2.2.2/\∃ c,s.2.2.2.2.1.2[v.2.2.2.2.toNat]?=some c/\(Eq (α:=Int) (c.1) (5)\/Eq (α:=Int) (c.1) (6)):=by
 unfold R.eU;refine aA λ_=>dK (bH (λ_=>aB ni λr hr=>aA λ_=>?_) λ_=>aD λe=>by cases e);rcases hr with ⟨h0,_⟩|⟨i0,c,hc,e⟩
 ·subst h0;exact fb rfl (aD λe=>by cases e)
 ·subst e;exact bH (λe5=>aD λ_=>⟨i0,c,hc,.inl e5⟩) λ_=>aD λe6=>⟨i0,c,hc,.inr (eq_of_beq e6)⟩
theorem vq{N:List eH}{B:Nat}(hh:ir N B s.2.2.2.2.1){i:Int}{c:ja}(h0:0<=i)(hc:s.2.2.2.2.1.2[i.toNat]?=some c)(hk:Eq (α:=Int) (c.1) (5)\/Eq (α:=Int) (c.1) (6)):(R.dS s i).sat λr=>LE.le (α:=Int) (0) (r)/\LE.le (α:=Int) (r) (9007199254740991)/\qe s.2.2.2.2.1.2 i r:=by
 unfold R.dS;have g:=(hh.cl _ c hc).1;refine aA λ_=>jn (λc' _ hc'=>fb rfl (kE h0 hc (bH (λe=>aD ?_) λe=>aD ?_))) λhn=>absurd ⟨h0,(List.getElem?_eq_some_iff.1 hc).1⟩ hn
 ·exact ⟨(g.sh e).1,(g.sh e).2,h0,c,hc,.inr ⟨e,Int.le_refl _⟩⟩
 ·have e5:Eq (α:=Int) (c.1) (5):=hk.resolve_right e;have hl:=g.bf e5;exact ⟨by show LE.le (α:=Int) (0) (((c.2.2.2.2.2.2.2.2.2.2.2.2).length:Int));omega,by show LE.le (α:=Int) (((c.2.2.2.2.2.2.2.2.2.2.2.2).length:Int)) (_);omega,h0,c,hc,.inl ⟨e5,Int.le_refl _⟩⟩
theorem Be(h:gq C m s)(hm:m<=2^39){l:List dZ}(hl:∀ v∈l,bw v):(R.eC s l).sat (cp C m s.2.2.2.2.2.2.1 s):=by
 unfold R.eC;obtain ⟨B,g1,g2,g3⟩:=h.heap hm;refine aA λ_=>aB (lE hl (by decide)) λa _=>aA λ_=>aB Ce λr2 hr2=>dK (aG (λe2=>?_) λ_=>aW (gd h hm));obtain ⟨i0,c,hc,hk⟩:=hr2 e2;refine aB (vq g1 i0 hc hk) λn ⟨n0,n1,nb⟩=>aA λ_=>aB (lE hl (by decide)) λ_ _=>aA λ_=>aB nv λf ⟨f0,f1⟩=>aA λ_=>bZ (λ_=>aW (gd h hm)) λ_=>dt (λ_=>aW (gd h hm)) λhf=>?_;have hf:LE.le (α:=Int) (f.1) (n):=hf;have ew:w6 (HSub.hSub (α:=Int) (β:=Int) (γ:=Int) (n) (f.1))=(HSub.hSub (α:=Int) (β:=Int) (γ:=Int) (n) (f.1)):=wrap64 (by omega);refine aB (R:=qC C m s.2.2.2.2.2.2.1 s λk:Int=>0<=k/\LE.le (α:=Int) ((HAdd.hAdd (α:=Int) (β:=Int) (γ:=Int) (f.1) (k))) (n)) (aB (lE hl (by decide)) λ_ _=>aA λ_=>dK (bH (λ_=>aD ?_) λ_=>aB nv λk ⟨k0,k1⟩=>aA λ_=>bZ (λ_=>oy (gd h hm)) λ_=>dt (λ_=>oy (gd h hm)) λhk=>aD ?_)) λr hr=>oi hr λk ⟨k0,k1⟩=>aW (pN h hm (.vw1 rfl ⟨f0,k0,?_,?_⟩) rfl rfl ba)
 ·show 0<=w6 _/\LE.le (α:=Int) ((HAdd.hAdd (α:=Int) (β:=Int) (γ:=Int) (f.1) (w6 _))) (n);rw [ew];omega
 ·have hk:LE.le (α:=Int) (k.1) (w6 (HSub.hSub (α:=Int) (β:=Int) (γ:=Int) (n) (f.1))):=hk;rw [ew] at hk;show LE.le (α:=Int) (0) (k.1)/\LE.le (α:=Int) ((HAdd.hAdd (α:=Int) (β:=Int) (γ:=Int) (f.1) (k.1))) (n);omega
 ·show LE.le (α:=Int) ((HAdd.hAdd (α:=Int) (β:=Int) (γ:=Int) (f.1) (k))) (_);omega
 ·exact nb.le k1
theorem tdv{x z:Int}(hx:0<=x)(hx':x<=9007199254740991)(hz:1<=z/\z<=8):w6 (Int.tdiv x z)=x / z/\0<=x / z/\x / z<=x/\x / z*z<=x:=by
 have h1:Int.tdiv x z=x / z:=Int.tdiv_eq_ediv_of_nonneg hx;have h2:0<=x / z:=Int.ediv_nonneg hx (by omega);have h3:x / z<=x:=Int.ediv_le_self _ hx;have h4:x / z*z<=x:=Int.ediv_mul_le _ (by omega);rw [h1,wrap64 (by omega)];exact ⟨rfl,h2,h3,h4⟩
theorem HB(h:gq C m s)(hm:m<=2^39){k z i:Int}(hz:ElI k z){c:ja}(i0:0<=i)(hc:s.2.2.2.2.1.2[i.toNat]?=some c)(hk:Eq (α:=Int) (c.1) (5)\/Eq (α:=Int) (c.1) (6)){x y:dZ}:(R.gO s k i x y).sat (cp C m s.2.2.2.2.2.2.1 s):=by
 unfold R.gO;obtain ⟨B,g1,g2,g3⟩:=h.heap hm;have z1:=hz.pos;refine aA λ_=>aO (mc hz) (aA λ_=>aB (vq g1 i0 hc hk) λn ⟨n0,n1,nb⟩=>aA λ_=>aB nv λf ⟨f0,f1⟩=>aA λ_=>bZ (λ_=>aW (gd h hm)) λ_=>sx (by omega) (bZ (λ_=>aW (gd h hm)) λ_=>?_));refine aB (R:=qC C m s.2.2.2.2.2.2.1 s λk:Int=>0<=k/\k<=9007199254740991) (bZ (λ_=>aB nv λk hk=>aA λ_=>bZ (λ_=>oy (gd h hm)) λ_=>aD hk) λ_=>aD ⟨by decide,by decide⟩) λr hr=>oi hr λq ⟨q0,q1⟩=>?_;refine aB (R:=qC C m s.2.2.2.2.2.2.1 s λq:Int=>0<=q/\q<=9007199254740991/\LE.le (α:=Int) ((HAdd.hAdd (α:=Int) (β:=Int) (γ:=Int) (f.1) (q*z))) (n)) (aB (R:=λb=>b=false->LE.le (α:=Int) (f.1) (n)/\q<=(HSub.hSub (α:=Int) (β:=Int) (γ:=Int) (n) (f.1)) / z) ?_ λb hb=>aG (λ_=>oy (gd h hm)) λe=>?_) λr hr=>oi hr λq ⟨q0,q1,q2⟩=>aW (pN h hm (.ty1 rfl ⟨hz,f0,q0,q1,?_,?_⟩) rfl rfl ba)
 ·have hlast:LE.le (α:=Int) (f.1) (n)->(aa (!(z == 0)) (Res.ok (ilt (w6 (Int.tdiv (w6 (HSub.hSub (α:=Int) (β:=Int) (γ:=Int) (n) (f.1))) z)) q))).sat λb=>b=false->LE.le (α:=Int) (f.1) (n)/\q<=(HSub.hSub (α:=Int) (β:=Int) (γ:=Int) (n) (f.1)) / z:=λhf=>sx (by omega) (aD λe=>⟨hf,by
   have e:=Int.not_lt.1 (of_decide_eq_false e);rw [wrap64 (n:=(HSub.hSub (α:=Int) (β:=Int) (γ:=Int) (n) (f.1))) (by omega),(tdv (x:=(HSub.hSub (α:=Int) (β:=Int) (γ:=Int) (n) (f.1))) (z:=z) (by omega) (by omega) ⟨z1.1,z1.2.1⟩).1] at e
   exact e⟩)
  exact bH (λ_=>sx (by omega) (bZ (λ_=>aD λe=>by cases e) λ_=>dt (λ_=>aD λe=>by cases e) λhf=>hlast hf)) λ_=>dt (λ_=>aD λe=>by cases e) λhf=>hlast hf
 ·obtain ⟨hf,hq⟩:=hb e;obtain ⟨t1,t2,t3,t4⟩:=tdv (x:=(HSub.hSub (α:=Int) (β:=Int) (γ:=Int) (n) (f.1))) (z:=z) (by omega) (by omega) ⟨z1.1,z1.2.1⟩;refine bH (λ_=>sx (by omega) (aD ?_)) λ_=>aD ?_
  ·show 0<=w6 (Int.tdiv (w6 (HSub.hSub (α:=Int) (β:=Int) (γ:=Int) (n) (f.1))) z)/\w6 (Int.tdiv (w6 (HSub.hSub (α:=Int) (β:=Int) (γ:=Int) (n) (f.1))) z)<=9007199254740991/\LE.le (α:=Int) ((HAdd.hAdd (α:=Int) (β:=Int) (γ:=Int) (f.1) (w6 (Int.tdiv (w6 (HSub.hSub (α:=Int) (β:=Int) (γ:=Int) (n) (f.1))) z)*z))) (n);rw [wrap64 (n:=(HSub.hSub (α:=Int) (β:=Int) (γ:=Int) (n) (f.1))) (by omega),t1];omega
  ·have:q*z<=(HSub.hSub (α:=Int) (β:=Int) (γ:=Int) (n) (f.1)) / z*z:=Int.mul_le_mul_of_nonneg_right hq (by omega);show 0<=q/\q<=9007199254740991/\LE.le (α:=Int) ((HAdd.hAdd (α:=Int) (β:=Int) (γ:=Int) (f.1) (q*z))) (n);omega
 ·show LE.le (α:=Int) ((HAdd.hAdd (α:=Int) (β:=Int) (γ:=Int) (f.1) (q*z))) (_);omega
 ·exact nb.le q2
theorem DB(h:gq C m s)(hm:m<=2^39){k z:Int}(hz:ElI k z){l:List dZ}(hl:∀ v∈l,bw v):(R.eV s k l).sat (cp C m s.2.2.2.2.2.2.1 s):=by
 unfold R.eV;have z1:=hz.pos;refine aA λ_=>aB (lE hl (by decide)) λa _=>aA λ_=>aB (lE hl (by decide)) λ_ _=>aA λ_=>aB (lE hl (by decide)) λ_ _=>aA λ_=>aO (mc hz) (aA λ_=>aB Ce λr2 hr2=>aG (λe2=>?_) λ_=>bH (λ_=>aW (fR h)) λ_=>aB nv λn ⟨n0,n1⟩=>aA λ_=>bZ (λ_=>aW (gd h hm)) λ_=>sx (by omega) (dt (λ_=>aW (gd h hm)) λhn=>?_))
 ·obtain ⟨i0,c,hc,hk⟩:=hr2 e2;exact aW (HB h hm hz i0 hc hk)
 ·obtain ⟨t1,t2,t3,t4⟩:=tdv (x:=4096) (z:=z) (by omega) (by omega) ⟨z1.1,z1.2.1⟩;have hn:LE.le (α:=Int) (n.1) (w6 (Int.tdiv 4096 z)):=hn;rw [t1] at hn;have h1:HMul.hMul (α:=Int) (β:=Int) (γ:=Int) n.1 z<=4096 / z*z:=Int.mul_le_mul_of_nonneg_right hn (by omega);have h0:0<=HMul.hMul (α:=Int) (β:=Int) (γ:=Int) n.1 z:=Int.mul_nonneg n0 (by omega);have ew:w6 (HMul.hMul (α:=Int) (β:=Int) (γ:=Int) n.1 z)=HMul.hMul (α:=Int) (β:=Int) (γ:=Int) n.1 z:=wrap64 (by omega);obtain ⟨w,hw⟩:∃ w,w=HMul.hMul (α:=Int) (β:=Int) (γ:=Int) n.1 z:=⟨_,rfl⟩;rw [ew,<- hw];rw [<- hw] at h1 h0;refine fN (ga h0 (fN (ga (Int.le_refl _) (n_d (by omega) (aB (pK h hm (.bf1 rfl ?_) λ_ _=>Ey rfl rfl ba) λr ⟨r1,r2⟩=>aA λ_=>bZ (λ_=>aD r1) λe=>?_)))))
  ·show (List.replicate w.toNat (0:Int)).length<=4096;rw [List.length_replicate];omega
  ·obtain ⟨_,_,j0,hj⟩:=r2 (by rw [e];decide);have a1:=r1.2.a0 e;refine aW (bG (pN a1.run hm (.ty1 rfl ⟨hz,Int.le_refl 0,n0,n1,?_,j0,_,hj,.inl ⟨rfl,?_⟩⟩) rfl rfl ba) λ_ hr=>hr.cat a1)
   ·show LE.le (α:=Int) ((HAdd.hAdd (α:=Int) (β:=Int) (γ:=Int) (0) (HMul.hMul (α:=Int) (β:=Int) (γ:=Int) n.1 z))) (_);rw [<- hw];omega
   ·show LE.le (α:=Int) ((HAdd.hAdd (α:=Int) (β:=Int) (γ:=Int) (0) (HMul.hMul (α:=Int) (β:=Int) (γ:=Int) n.1 z))) (((List.replicate w.toNat (0:Int)).length:Int));rw [<- hw,List.length_replicate];omega
end
end Go.Mach

set_option maxRecDepth 100000
namespace Go.Mach
open Res
theorem l0:0<=(0:Int)/\(0:Int)<=9007199254740991:=⟨by decide,by decide⟩
theorem z6:(0:Int)=0/\false=false/\false=false/\(0:Int)=0/\(0:Int)=0/\(0:Int)=0:=⟨rfl,rfl,rfl,rfl,rfl,rfl⟩
theorem nw0:B7 (0,0):=.inl ⟨rfl,by decide,by decide⟩
theorem qY{q:vm}(kk:Int)(hk:Eq (α:=Int) (q.1) (kk))(k:1<=kk/\kk<=14)(k':kk < 2\/6 < kk)(ln:LE.le (α:=Int) (0) (q.2.2.2.2.2.2.2.2.2.2.2)/\LE.le (α:=Int) (q.2.2.2.2.2.2.2.2.2.2.2) (9007199254740991))(tx:(q.2.2.2.2.2.2.2.2.2.2.1).length<=4096)(nm:B7 q.2.2.2.2.2.2.2.2.2.1)(z:q.2.2.2.1=0/\q.2.2.2.2.2.1=false/\q.2.2.2.2.2.2.1=false/\q.2.2.2.2.2.2.2.1=0/\q.2.2.2.2.2.2.2.2.1=0/\q.2.2.2.2.1=0):xL q:=⟨by rw [hk];exact k,ln,tx,nm,λ_=>z,λh=>by
 have h1:LE.le (α:=Int) (2) (q.1):=h.1;have h2:LE.le (α:=Int) (q.1) (6):=h.2
 omega⟩
theorem Ch{q:vm}(kk:Int)(hk:Eq (α:=Int) (q.1) (kk))(k:2<=kk/\kk<=6)(ln:LE.le (α:=Int) (0) (q.2.2.2.2.2.2.2.2.2.2.2)/\LE.le (α:=Int) (q.2.2.2.2.2.2.2.2.2.2.2) (9007199254740991))(tx:(q.2.2.2.2.2.2.2.2.2.2.1).length<=4096)(nm:B7 q.2.2.2.2.2.2.2.2.2.1)(z:(q.2.2.2.1=1\/q.2.2.2.1=2\/q.2.2.2.1=4\/q.2.2.2.1=8)/\(q.2.2.2.1=8\/(q.2.2.2.2.2.2.2.1 < 2^(8*q.2.2.2.1).toNat/\q.2.2.2.2.2.2.2.2.1 < 2^(8*q.2.2.2.1).toNat))/\0<=q.2.2.1/\(q.2.2.2.2.2.1=true->q.2.2.2.2.2.2.1=true))(o:(kk=4->LT.lt (α:=Int) (0) (q.2.2.2.2.1)/\LE.le (α:=Int) (q.2.2.2.2.1) (6))/\(kk≠4->Eq (α:=Int) (q.2.2.2.2.1) (0))):xL q:=by
 refine ⟨?_,ln,tx,nm,λh=>?_,λ_=>⟨z.1,z.2.1,z.2.2.1,z.2.2.2,λe=>o.1 (hk.symm.trans e),λe=>o.2 λg=>e (hk.trans g)⟩⟩
 ·rw [hk];exact (⟨by omega,by omega⟩:(1:Int)<=kk/\kk<=14)
 ·have h:LT.lt (α:=Int) (q.1) (2)\/LT.lt (α:=Int) (6) (q.1):=h;omega
theorem pw(z:Int):(0:Int) < 2^(8*z).toNat:=Int.pow_pos (by decide)
theorem Dw{v:dZ}:(R.cQ v).sat λr=>bw r.1:=by
 unfold R.cQ;exact aA λ_=>q_p λr _=>aA λ_=>bH (λ_=>q_b λ_=>aA λ_=>aB qa λ_ h=>aA λ_=>aD (vk h)) λ_=>q_b λ_=>aA λ_=>bZ (λ_=>aD ba) λ_=>aB nw λ_ h=>aA λ_=>aD (vk h)
theorem Gu{o:List UInt8}{v:dZ}:(R.jj o v).sat λr=>bw r.1:=by
 unfold R.jj;exact aA λ_=>aG (λ_=>q_b λ_=>aB lD λ_ h=>aA λ_=>aD (vk h)) λ_=>aG (λ_=>aD ba) λ_=>aG (λ_=>q_b λ_=>aA λ_=>bZ (λ_=>aD ba) λ_=>aB nw λ_ h=>aA λ_=>aD (vk h)) λ_=>aB (dw0:Safe _).ok λ_ _=>aG (λ_=>q_b λ_=>aA λ_=>bZ (λ_=>aD ba) λ_=>aB (dw0:Safe _).ok λ_ _=>aG (λ_=>q_b λ_=>aA λ_=>aB qa λ_ h=>aA λ_=>aD (vk h)) λ_=>aG (λ_=>q_b λ_=>aA λ_=>aB nw λ_ h=>aA λ_=>aD (vk h)) λ_=>bH (λ_=>aD ba) λ_=>q_b λ_=>aA λ_=>aB nw λ_ h=>aA λ_=>aD (vk h)) λ_=>aD ba
theorem tV{a:aq.den}{b:Bool}:(R.eg a b).sat λr=>bw r.1:=by
 unfold R.eg;exact aA λ_=>dK (aG (λ_=>aB qa λ_ h=>aA λ_=>aD (vk h)) λ_=>aD ba)
theorem sO{a:aJ.den}{b:Bool}:(R.cc a b).sat λr=>bw r.1:=by
 unfold R.cc;exact aA λ_=>dK (aG (λ_=>aB nw λ_ h=>aA λ_=>aD (vk h)) λ_=>aD ba)
theorem step_t{v:dZ}{n:Int}:(R.kf v n).sat λr=>bw r.1:=by
 unfold R.kf;exact aA λ_=>q_b λ_=>aA λ_=>bZ (λ_=>aD ba) λ_=>aB (dw0:Safe _).ok λ_ _=>aG (λ_=>aD ba) λ_=>bH (λ_=>q_b λ_=>aA λ_=>q_b λ_=>aA λ_=>aW tV) λ_=>q_b λ_=>aA λ_=>aW sO
theorem join_t{a b:dZ}:(R.ki a b).sat λr=>bw r.1:=by
 unfold R.ki;exact aA λ_=>q_p λr hr=>aA λ_=>bZ (λ_=>aD ba) λ_=>q_p λr' hr'=>aA λ_=>bZ (λ_=>aD ba) λ_=>dt (λ_=>aD ba) λ_=>n_d (by omega) (aB nI λ_ h=>aA λ_=>aD h.1)
theorem bigs_t{o:List UInt8}{a b:aq.den}:(R.kg o a b).sat λr=>bw r.1:=by
 unfold R.kg;exact aA λ_=>aG (λ_=>q_b λ_=>aA λ_=>aW tV) λ_=>aG (λ_=>q_b λ_=>aA λ_=>aW tV) λ_=>aG (λ_=>q_b λ_=>aA λ_=>aW tV) λ_=>q_b λ_=>aA λ_=>aB (R:=λ_=>True) (aG (λ_=>q_b λ_=>aA λ_=>aD trivial) λ_=>aD trivial) λ_ _=>bZ (λ_=>aD ba) λ_=>aB qa λ_ h=>aA λ_=>aD (vk h)
theorem FG{o:List UInt8}{a b:dZ}:(R.jz o a b).sat λr=>bw r.1:=by
 unfold R.jz;exact aA λ_=>q_b λ_=>aA λ_=>bZ (λ_=>aD ba) λ_=>bH (λ_=>aW bigs_t) λ_=>aG (λ_=>q_b λ_=>aA λ_=>aW sO) λ_=>aG (λ_=>q_b λ_=>aA λ_=>aW sO) λ_=>aG (λ_=>q_b λ_=>aA λ_=>aW sO) λ_=>aG (λ_=>q_b λ_=>aA λ_=>aW sO) λ_=>q_b λ_=>aA λ_=>aW sO
theorem bits_t{o:List UInt8}{a b:dZ}:(R.kZ o a b).sat λr=>bw r.1:=by
 unfold R.kZ;exact aA λ_=>q_b λ_=>aA λ_=>bZ (λ_=>aD ba) λ_=>aB (dw0:Safe _).ok λ_ _=>aG (λ_=>aD ba) λ_=>bH (λ_=>aD ba) λ_=>aB (dw0:Safe _).ok λ_ _=>q_b λ_=>aA λ_=>aB nw λ_ h=>aA λ_=>aD (vk h)
theorem y6{a b:dZ}{t n:Bool}:(R.iJ a b t n).sat λr=>bw r.1:=by
 unfold R.iJ;exact aA λ_=>aB (dw0:Safe _).ok λ_ _=>aG (λ_=>aD ba) λ_=>aB (dw0:Safe _).ok λ_ _=>aG (λ_=>aB (dw0:Safe _).ok λ_ _=>q_b λ_=>aB lD λ_ h=>aA λ_=>aD (vk h)) λ_=>aB (dw0:Safe _).ok λ_ _=>aG (λ_=>aD ba) λ_=>q_b λ_=>aA λ_=>bZ (λ_=>aD ba) λ_=>q_b λ_=>aA λ_=>bZ (λ_=>aD ba) λ_=>aB (dw0:Safe _).ok λ_ _=>q_b λ_=>aA λ_=>aG (λ_=>aB lD λ_ h=>aA λ_=>aD (vk h)) λ_=>aB lD λ_ h=>aA λ_=>aD (vk h)
theorem AF{o:List UInt8}{a b:dZ}:(R.gr o a b).sat λr=>bw r.1:=by
 unfold R.gr;exact aA λ_=>q_p λ_ _=>aA λ_=>q_p λ_ _=>aA λ_=>aG (λ_=>aB (dw0:Safe _).ok λ_ _=>aG (λ_=>aW join_t) λ_=>aW FG) λ_=>aB (dw0:Safe _).ok λ_ _=>aG (λ_=>aW FG) λ_=>aB (dw0:Safe _).ok λ_ _=>aG (λ_=>aW bits_t) λ_=>aG (λ_=>aW y6) λ_=>aG (λ_=>aW y6) λ_=>aG (λ_=>aW y6) λ_=>aG (λ_=>aW y6) λ_=>aG (λ_=>q_b λ_=>aB lD λ_ h=>aA λ_=>aD (vk h)) λ_=>aG (λ_=>q_b λ_=>aB lD λ_ h=>aA λ_=>aD (vk h)) λ_=>aB (dw0:Safe _).ok λ_ _=>aG (λ_=>q_b λ_=>aA λ_=>bZ (λ_=>aD ba) λ_=>aB lD λ_ h=>aA λ_=>aD (vk h)) λ_=>aD ba
instance HZ{v}:Safe (R.kJ v):=by unfold R.kJ;exact dw0
instance DG{z}:Safe (R.cG z):=by unfold R.cG;exact dw0
instance EN{n}:Safe (R.iK n):=by unfold R.iK;exact dw0
theorem B6{n:List UInt8}:(R.iI n).sat λr=>0 < r/\r<=6:=by
 unfold R.iI;refine aA λ_=>aG (λ_=>aD ?_) λ_=>aG (λ_=>aD ?_) λ_=>aG (λ_=>aD ?_) λ_=>aG (λ_=>aD ?_) λ_=>aG (λ_=>aD ?_) λ_=>aD ?_
 all_goals decide
section
variable {N:List eH}{B:Nat}{h:qn}
theorem GZ(hh:ir N B h)(hB:B<=2^39){i:Int}{n:List Int}{v:dZ}{c:ja}(h0:0<=i)(hc:h.2[i.toNat]?=some c)(hlt:c.2.2.1.length < B)(hv:bw v):(R.cH h i n v).sat λr=>ir N B r.2/\ny h.2 r.2.2/\∃ d,r.2.2[i.toNat]?=some d/\d.2.2.1.length<=c.2.2.1.length+1:=by
 unfold R.cH;have hi:=(List.getElem?_eq_some_iff.1 hc).1;refine aA λ_=>jn (λc' _ _=>fb rfl (kE h0 hc ?_)) λhn=>absurd ⟨h0,hi⟩ hn;have hl:=(hh.cl _ c hc).2;have hp:=hl.pn;have hs:h.2.set i.toNat c=h.2:=oe hc;rw [hs];refine aB (wa (h:=(h.1,h.2)) h0 hc (by omega)) λr ⟨r0,r1⟩=>aA λ_=>lW (λhr=>ax (by simp) (aO ow (aA λ_=>ax (by simp [ile,ilt];omega) (bP (by omega) (by omega) λp _ _=>aD ⟨?_,?_,_,List.getElem?_set_self hi,?_⟩)))) λhr=>ax (by simp) (mQ (aA λ_=>aO ow (aA λ_=>ax (decide_eq_true (by simp;omega)) (ax (by simp) (aD ⟨?_,?_,_,List.getElem?_set_self hi,?_⟩)))))
 ·exact hh.set hc ⟨rfl,rfl,rfl,rfl,rfl,rfl,rfl⟩ (hl.props (Nat.le_refl B) (by show (c.2.2.1.set _ _).length<=_;rw [List.length_set];omega) (re hl.pv hv) rfl)
 ·exact .set hc ⟨rfl,rfl,rfl,rfl,rfl,rfl,rfl⟩
 ·show (c.2.2.1.set _ _).length<=_;rw [List.length_set];omega
 ·exact hh.set hc ⟨rfl,rfl,rfl,rfl,rfl,rfl,rfl⟩ (hl.props (Nat.le_refl B) (by show (c.2.2.1++[_]).length<=_;simp;omega) (rh hl.pv hv) rfl)
 ·exact .set hc ⟨rfl,rfl,rfl,rfl,rfl,rfl,rfl⟩
 ·show (c.2.2.1++[_]).length<=_;simp
end
section
variable {C:Cx}{m b:Int}{s:RunT}{l:List dZ}{x y v t:dZ}
theorem G0{B:Nat}(h:gq C m s)(h1:ir C.N B s.2.2.2.2.1)(h2:B<=2^39)(h3:(B:Int)+134217728*((HSub.hSub (α:=Int) (β:=Int) (γ:=Int) (C.F) (s.2.2.2.2.2.2.1)))<=m){c:ja}(hc:pY C.N s.2.2.2.2.1.2 c)(hv:sd B c):(R.ah s c).sat λr=>cp C m s.2.2.2.2.2.2.1 s r/\(r.1.2=0->ir C.N B r.2.2.2.2.2.1/\Eq (α:=Int) (r.2.2.2.2.2.2.2.1) (s.2.2.2.2.2.2.1)/\LE.le (α:=Int) (0) (r.1.1.2.2.2.2)/\r.2.2.2.2.2.1.2[r.1.1.2.2.2.2.toNat]?=some c):=by
 unfold R.ah
 refine aA λ_=>aB (CN h1 h2 hc hv) λr ⟨r1,r2,r3⟩=>aA λ_=>dK (aG (λhr=>aD ⟨⟨.of (show (6:Int)≠5 by decide),.inr ⟨show (0:Int)≠5 by decide,h.put r1 h3,r2,rfl,Int.le_refl _⟩⟩,λ_=>⟨r1,rfl,r3 hr⟩⟩) λ_=>aO qt (aA λ_=>aD ⟨⟨ba,.inl ⟨rfl,h.halt (by decide)⟩⟩,λe=>absurd (show (5:Int)=0 from e) (by decide)⟩))
theorem Bh(hc:jY C)(h:gq C m s)(hm:m<=2^39)(hl:∀ v∈l,bw v):(R.eA s l).sat (cp C m s.2.2.2.2.2.2.1 s):=by
 unfold R.eA;refine aA λ_=>aB (lE hl (by decide)) λ_ _=>aA λ_=>aB nv λn ⟨n0,n1⟩=>aA λ_=>bZ (λ_=>aW (gd h hm)) λ_=>aB (lE hl (by decide)) λ_ _=>aA λ_=>bZ (λ_=>aW (fR h)) λ_=>aB (rf h hc.A (qY 1 rfl (by decide) (by decide) ⟨n0,n1⟩ (Nat.zero_le _) nw0 z6)) λr ⟨g,_⟩=>aA λ_=>bZ (λ_=>aD ⟨ba,g⟩) λe=>?_;have a:=g.a0 e;exact bZ (λ_=>aW (bG (gd a.run hm) λ_ hr=>hr.cat a)) λ_=>aW (bG (pN a.run hm (.sh1 rfl ⟨n0,n1⟩) rfl rfl ba) λ_ hr=>hr.cat a)
theorem C9(h:gq C m s)(hm:m<=2^39):(R.eW s x y).sat (cp C m s.2.2.2.2.2.2.1 s):=by
 unfold R.eW;exact aA λ_=>aB (R:=qC C m s.2.2.2.2.2.2.1 s λ_:Int=>True) (aB (R:=λ_=>True) (bH (λ_=>aB ni λ_ _=>aA λ_=>aD trivial) λ_=>aD trivial) λ_ _=>aG (λ_=>oy (fR h)) λ_=>bH (λ_=>aD trivial) λ_=>pA (λ_=>oy (gd h hm)) λ_=>aD trivial) λr hr=>oi hr λ_ _=>bZ (λ_=>aW (fR h)) λ_=>aW (pN h hm (.mk' 1 rfl (by decide)) rfl rfl ba)
theorem Ge(h:gq C m s)(hm:m+20000<=2^39)(hn:l.length<=20000)(hl:∀ v∈l,bw v):(R.gT s t l).sat (cp C (m+20000) s.2.2.2.2.2.2.1 s):=by
 unfold R.gT;refine aA λ_=>aB (R:=λ_=>True) (pA (λ_=>aD trivial) λ_=>aB ni λ_ _=>aA λ_=>aD trivial) λ_ _=>aG (λ_=>aW (fR h |> λg=>bG g λ_ hr=>cp.up (m:=m) hr (by omega))) λ_=>aB (fP (Q:=λH:qn=>Aft C (m+20000) s.2.2.2.2.2.2.1 s (s.1,(s.2.1,(s.2.2.1,(s.2.2.2.1,(H,s.2.2.2.2.2)))))) (λy=>y.1) l.length (by omega) (λw=>Aft C (m+w.1) s.2.2.2.2.2.2.1 s (s.1,(s.2.1,(s.2.2.1,(s.2.2.2.1,(w.2,s.2.2.2.2.2)))))) (by simp) (by simp) (by show Aft C (m+0) _ _ _;rw [Int.add_zero];exact Aft.refl h) λw w0 w1 wI=>?_) λH hH=>aB pL λ_ _=>aA λ_=>aB lr λ_ hv=>aA λ_=>aD ⟨hv,.ok hH⟩;obtain ⟨j,H⟩:=w;have w0:0<=j:=w0;have w1:j<=(l.length:Int):=w1;have wI:Aft C (m+j) s.2.2.2.2.2.2.1 s (s.1,(s.2.1,(s.2.2.1,(s.2.2.2.1,(H,s.2.2.2.2.2))))):=wI;refine dt (λhj=>?_) λ_=>aD (wI.up (by omega));have hj:j < (l.length:Int):=hj;refine bP w0 (by show _ < l.length;omega) λv hv _=>aB pL λ_ _=>aA λ_=>q_b λ_=>aA λ_=>aB (tn wI.run (by omega) (hl v (List.mem_of_getElem? hv))) λr hr=>aA λ_=>aD ⟨rfl,hj,?_⟩;show Aft C (m+w6 (j+1)) _ _ _;rw [wrap64 (n:=j+1) (by omega),<- Int.add_assoc];exact wI.cat hr
theorem E4(h:gq C m s)(hm:m<=2^39):(R.gP s x).sat (cp C m s.2.2.2.2.2.2.1 s):=by
 unfold R.gP;obtain ⟨B,g1,g2,g3⟩:=h.heap hm;refine aA λ_=>q_b λ_=>aG (λ_=>aW (gd h hm)) λ_=>aB (R:=λr:Int=>r≠0->0<=x.2.2.2.2/\∃ c,s.2.2.2.2.1.2[x.2.2.2.2.toNat]?=some c) (bH (λ_=>aB ni λr hr=>aA λ_=>aD λhne=>?_) λ_=>aD λe=>absurd rfl e) λkd hkd=>aB (R:=qC C m s.2.2.2.2.2.2.1 s λl:List (List Int)=>l.length<=B) (bH (λe1=>?_) λ_=>bH (λe2=>?_) λ_=>oy (fR h)) λr hr=>oi hr λl hl=>?_
 ·rcases hr with ⟨h0,_⟩|⟨i0,c,hc,_⟩
  ·exact absurd h0 hne
  ·exact ⟨i0,c,hc⟩
 ·obtain ⟨i0,c,hc⟩:=hkd (jC e1 (by decide));have hp:=(g1.cl _ c hc).2.pn;exact aB (Fk i0 hc (by omega)) λl hl=>aA λ_=>aD (by show l.length<=B;omega)
 ·refine aB pL λq hq=>aA λ_=>?_
  have hqB:LE.le (α:=Int) (0) (q)/\LE.le (α:=Int) (q) ((B:Int)):=by
   rcases hq with hq|⟨c,i0,hc,hq⟩
   ·rw [hq];omega
   ·have hp:=(g1.cl _ c hc).2.pn;rw [hq];omega
  obtain ⟨q',hq'⟩:∃ q':Int,q'=q:=⟨_,rfl⟩;have hqB':0<=q'/\q'<=(B:Int):=hq'▸hqB;refine aB (fP (Q:=λl:List (List Int)=>l.length<=B) (λy=>y.2) q'.toNat (by omega) (λy=>y.1.length=y.2.toNat) (by simp) (by show (0:Int)<=(q'.toNat:Int);omega) (by simp) λy y0 y1 yI=>?_) λl hl=>aD hl;obtain ⟨l,j⟩:=y;have y0:0<=j:=y0;have y1:j<=(q'.toNat:Int):=y1;have yI:l.length=j.toNat:=yI;refine dt (λhj=>?_) λ_=>aD (by show l.length<=B;omega)
  have hj:j < q':=by rw [hq'];exact hj
  refine q_b λu=>aA λ_=>ax (decide_eq_true ?_) (aD ⟨rfl,?_,?_⟩)
  ·show (l.length+1)*24<=2^47;omega
  ·show j < (q'.toNat:Int);omega
  ·show (l++[u]).length=(w6 (j+1)).toNat;rw [wrap64 (by omega),List.length_append];simp;omega
 ·refine aB (G0 h g1 g2 g3 (.mk' 2 rfl (by decide)) (Ey rfl rfl ba)) λr2 ⟨h2,h3⟩=>aA λ_=>bZ (λ_=>aD h2) λe2=>?_;obtain ⟨k1,k2,k3,k4⟩:=h3 e2;have a2:=h2.2.a0 e2;refine aB (fP (Q:=λH:qn=>ir C.N B H/\ny r2.2.2.2.2.2.1.2 H.2) (λy=>y.1) l.length (by have hl:l.length<=B:=hl;omega) (λy=>ir C.N B y.2/\ny r2.2.2.2.2.2.1.2 y.2.2/\∃ c,y.2.2[r2.1.1.2.2.2.2.toNat]?=some c/\c.2.2.1.length<=y.1.toNat) (by simp) (by simp) ⟨k1,.refl _,_,k4,Nat.zero_le _⟩ λy y0 y1 yI=>?_) λH ⟨hH1,hH2⟩=>aD ⟨h2.1,.ok (a2.cat ⟨a2.run.put hH1 (by rw [k2];exact g3),hH2,rfl,Int.le_refl _⟩)⟩;obtain ⟨j,H⟩:=y;have y0:0<=j:=y0;have y1:j<=(l.length:Int):=y1;obtain ⟨i1,i2,c,i3,i4⟩:=yI;have i1:ir C.N B H:=i1;have i2:ny r2.2.2.2.2.2.1.2 H.2:=i2;have i3:H.2[r2.1.1.2.2.2.2.toNat]?=some c:=i3;have i4:c.2.2.1.length<=j.toNat:=i4;refine dt (λhj=>?_) λ_=>aD ⟨i1,i2⟩;have hj:j < (l.length:Int):=hj;have hl:l.length<=B:=hl;refine fN (ga y0 (oK hj (bP (by omega) (by show ((0:Int)+(Int.toNat j:Int)).toNat < l.length;omega) λu _ _=>q_b λ_=>aA λ_=>aB nI λw hw=>aA λ_=>aB (GZ i1 g2 k3 i3 (by omega) hw.1) λr3 ⟨q1,q2,d,q3,q4⟩=>aA λ_=>aD ⟨rfl,hj,q1,i2.trans q2,d,q3,?_⟩)));show d.2.2.1.length<=(w6 (j+1)).toNat;rw [wrap64 (by omega)];omega
theorem zp(h:gq C m s)(hm:m<=2^39){n:Int}:(R.dh s x n).sat (cp C m s.2.2.2.2.2.2.1 s):=by
 unfold R.dh;exact aA λ_=>bH (λ_=>aB lr λ_ hv=>aA λ_=>aD (mY h hv)) λ_=>bH (λ_=>q_p λ_ _=>aA λ_=>q_b λ_=>aA λ_=>dK (aG (λ_=>aB nw λ_ hv=>aA λ_=>aD (mY h (vk hv))) λ_=>aW (fR h))) λ_=>q_b λ_=>aA λ_=>aB nw λ_ hv=>aA λ_=>aW (qH h hm (vk hv))
theorem EC(h:gq C m s)(hm:m<=2^39):(R.eT s x).sat (cp C m s.2.2.2.2.2.2.1 s):=by
 unfold R.eT;exact aA λ_=>bH (λ_=>q_b λ_=>aA λ_=>aB (dw0:Safe _).ok λ_ _=>aG (λ_=>q_b λ_=>aA λ_=>aB qa λ_ hv=>aA λ_=>aD (mY h (vk hv))) λ_=>aW (gd h hm)) λ_=>q_b λ_=>aA λ_=>aB qa λ_ hv=>aA λ_=>aW (qH h hm (vk hv))
theorem CC(h:gq C m s)(hm:m<=2^39){n:List UInt8}(hn:n.length<=4096):(R.dz s n x).sat (cp C m s.2.2.2.2.2.2.1 s):=by
 unfold R.dz;exact aA λ_=>aB nI λw hw=>aA λ_=>aB (R:=qC C m s.2.2.2.2.2.2.1 s bw) (bZ (λ_=>q_p λ_ _=>aA λ_=>bZ (λ_=>oy (gd h hm)) λ_=>aB nI λw hw=>aA λ_=>aD hw.1) λ_=>aD hw.1) λr hr=>oi hr λw hw=>aW (pN h hm (.mk' 10 rfl (by decide)) rfl rfl hw hn)
theorem Gn:(R.gS s v).sat λr=>r.length<=100:=by
 unfold R.gS;exact aA λ_=>bH (λ_=>aD (by decide)) λ_=>bH (λ_=>aD (by decide)) λ_=>bH (λ_=>aD (by decide)) λ_=>bH (λ_=>aD (by decide)) λ_=>bH (λ_=>aD (by decide)) λ_=>bH (λ_=>aB (R:=λ_=>True) (aB ni λ_ _=>aA λ_=>bH (λ_=>aD trivial) λ_=>aB tX λ_ _=>aA λ_=>aB um λ_ _=>aD trivial) λ_ _=>aG (λ_=>aD (by decide)) λ_=>aD (by decide)) λ_=>aD (by decide)
end
end Go.Mach

set_option maxRecDepth 100000
namespace Go.Mach
open Res
theorem uk{x:Int}(h:0<=x/\x < 18446744073709551616):IntKind.wrap .u64 x=x:=by
 simp [w6,w6,w6,IntKind.wrap,IntKind.signed,IntKind.bits];omega
theorem or_lt{a b:Int}{k:Nat}(hk:k<=64)(ha:0<=a/\a < 2^k)(hb:0<=b/\b < 2^k):0<=ez .or .u64 a b/\ez .or .u64 a b < 2^k:=by
 obtain ⟨x,rfl⟩:=Int.eq_ofNat_of_zero_le ha.1;obtain ⟨y,rfl⟩:=Int.eq_ofNat_of_zero_le hb.1
 have hx:x < 2^k:=by exact_mod_cast ha.2
 have hy:y < 2^k:=by exact_mod_cast hb.2
 have h64:(2:Nat)^k<=2^64:=Nat.pow_le_pow_right (by decide) hk
 have h1:(BitVec.ofInt 64 (x:Int) ||| BitVec.ofInt 64 (y:Int)).toNat=x ||| y:=by
  rw [BitVec.toNat_or,BitVec.toNat_ofInt,BitVec.toNat_ofInt];rw [show ((x:Int) % ((2^64:Nat):Int)).toNat=x by omega,show ((y:Int) % ((2^64:Nat):Int)).toNat=y by omega]
 have h2:x ||| y < 2^k:=Nat.or_lt_two_pow hx hy;show 0<=IntKind.wrap .u64 (((BitVec.ofInt 64 (x:Int) ||| BitVec.ofInt 64 (y:Int)).toNat:Nat):Int)/\IntKind.wrap .u64 (((BitVec.ofInt 64 (x:Int) ||| BitVec.ofInt 64 (y:Int)).toNat:Nat):Int) < 2^k;rw [h1,uk ⟨by omega,by omega⟩];exact ⟨by omega,by exact_mod_cast h2⟩
theorem CP{k:Nat}(h:k<=64):(2:Int)^k<=18446744073709551616:=by
 have h1:((2^k:Nat):Int)<=((18446744073709551616:Nat):Int):=Int.ofNat_le.2 (Nat.le_trans (Nat.pow_le_pow_right (by decide) h) (by decide));rw [Int.natCast_pow] at h1;exact h1
theorem Gt{e:Int}{q:Nat}(he:0<=e/\e < 256)(hq:q < 8):pb .u64 (IntKind.wrap .u64 e) (8*(q:Int))=e*2^(8*q)/\0<=e*2^(8*q)/\e*2^(8*q) < 2^(8*(q+1)):=by
 have hp:(0:Int) < 2^(8*q):=Int.pow_pos (by decide)
 have hp8:(2:Int)^(8*(q+1))=2^(8*q)*256:=by rw [show 8*(q+1)=8*q+8 by omega,Int.pow_add];rfl
 have hp64:(2:Int)^(8*(q+1))<=18446744073709551616:=CP (by omega);have hm:e*2^(8*q)<=255*2^(8*q):=Int.mul_le_mul_of_nonneg_right (by omega) (by omega);have h0:0<=e*2^(8*q):=Int.mul_nonneg he.1 (by omega)
 have hlt:e*2^(8*q) < 2^(8*(q+1)):=by omega
 refine ⟨?_,h0,hlt⟩;unfold pb;rw [uk (x:=e) ⟨he.1,by omega⟩,show min (8*(q:Int)).toNat (IntKind.bits .u64)=8*q by show min (8*(q:Int)).toNat 64=_;omega];exact uk ⟨h0,by omega⟩
theorem Ez{e:Int}(h:(Sh.y).ok e=true):0<=e/\e < 256:=by
 simp [Sh.ok,Ty.ok,dq,w6,w6,w6,IntKind.wrap,IntKind.signed,IntKind.bits] at h;omega
theorem Am{z:Int}(hz:z=1\/z=2\/z=4\/z=8):(R.cG z).sat λk=>ElI k z:=by
 rcases hz with rfl|rfl|rfl|rfl
 ·exact bG (qx (P:=λr=>decide (r=2)) (by kernel_rfl)) λr hr=>by rw [of_decide_eq_true hr];exact .k2
 ·exact bG (qx (P:=λr=>decide (r=4)) (by kernel_rfl)) λr hr=>by rw [of_decide_eq_true hr];exact .k4
 ·exact bG (qx (P:=λr=>decide (r=6)) (by kernel_rfl)) λr hr=>by rw [of_decide_eq_true hr];exact .k6
 ·exact bG (qx (P:=λr=>decide (r=8)) (by kernel_rfl)) λr hr=>by rw [of_decide_eq_true hr];exact .k8
theorem Eg{k z:Int}(h:ElI k z){bs:List Int}:(R.fV k bs).sat λr=>tk z r.1:=by
 unfold R.fV;have hz:=h.pos;refine aA λ_=>aB (R:=λb=>b=false->(bs.length:Int)=z) (aO (mc h) (aA λ_=>bH (λ_=>aD λe=>by cases e) λ_=>aO (mc h) (aA λ_=>aD λe=>?_))) λb hb=>aG (λ_=>aD (.zero z)) λeb=>?_
 ·exact eq_of_beq (by cases hq:((bs.length:Int) == z)<;>simp_all)
 have hl:=hb eb;refine aB (fP (Q:=λw:Int=>0<=w/\w < 2^(8*bs.length)) (λy=>y.2) bs.length (by omega) (λy=>0<=y.1/\y.1 < 2^(8*y.2.toNat)) (by simp) (by simp) (by simp) λy y0 y1 yI=>?_) λw ⟨w0,w1⟩=>aD ⟨w0,?_,?_⟩
 ·obtain ⟨w,j⟩:=y;have y0:0<=j:=y0;have y1:j<=(bs.length:Int):=y1;obtain ⟨i0,i1⟩:=yI;have i0:0<=w:=i0;have i1:w < 2^(8*j.toNat):=i1;refine dt (λhj=>?_) λhj=>aD ⟨i0,?_⟩
  ·have hj:j < (bs.length:Int):=hj;have e8:w6 (8*j)=8*j:=wrap64 (by omega);refine bM y0 (by show _ < bs.length;omega) λe _ he=>ga (by rw [e8];omega) (aD ⟨rfl,hj,?_⟩);have hb:=Ez he;obtain ⟨q,rfl⟩:=Int.eq_ofNat_of_zero_le y0;obtain ⟨es,h0,h1⟩:=Gt hb (q:=q) (by omega);show 0<=ez .or .u64 w (pb .u64 (IntKind.wrap .u64 e) (w6 (8*(q:Int))))/\ez .or .u64 w (pb .u64 (IntKind.wrap .u64 e) (w6 (8*(q:Int)))) < 2^(8*(w6 ((q:Int)+1)).toNat)
   have hmono:(2:Int)^(8*(q+1))=2^(8*q)*256:=by rw [show 8*(q+1)=8*q+8 by omega,Int.pow_add];rfl
   have hp:(0:Int) < 2^(8*q):=Int.pow_pos (by decide);have i1:w < 2^(8*q):=i1;rw [e8,es,wrap64 (n:=(q:Int)+1) (by omega),show ((q:Int)+1).toNat=q+1 by omega];exact or_lt (by omega) ⟨i0,by omega⟩ ⟨h0,h1⟩
  ·have hj:(bs.length:Int)<=j:=hj;show w < 2^(8*bs.length);rw [show bs.length=j.toNat by omega];exact i1
 ·show w < 18446744073709551616;have h3:(2:Int)^(8*bs.length)<=18446744073709551616:=CP (by omega);omega
 ·right;show w < 2^(8*z).toNat;rw [show (8*z).toNat=8*bs.length by omega];exact w1
theorem yN{k z w:Int}(h:ElI k z):(R.gy z w).sat (tk z):=by
 unfold R.gy;exact aA λ_=>q_b λ_=>aA λ_=>q_p λ_ _=>aA λ_=>q_b λ_=>aA λ_=>aB (Am h.pos.2.2) λk hk=>aA λ_=>aB (Eg hk) λr hr=>aA λ_=>aD hr
section
variable {C:Cx}{m b:Int}{s:RunT}{c:PkT}{a z w n:Int}{l:List dZ}{x y v:dZ}{u:List Int}{nm:List UInt8}
theorem vZ(hc:jY C)(h:gq C m s)(hz:z=1\/z=2\/z=4\/z=8)(a0:0<=a)(am:a+z<=9007199254740991)(hb:qe s.2.2.2.2.1.2 c.2.2.2.2.2.2.2.2.2.1 (a+z)){sq nt:Bool}(hq:sq=true->nt=true):(R.dA s c a z sq nt).sat λr=>Pst C m s.2.2.2.2.2.2.1 s r.1.2 r.2/\(∀ d,s.2.2.2.2.1.2[(c.2.2.2.2.2.2.2.2.2.1).toNat]?=some d->Eq (α:=Int) (d.1) (5)->Eq (α:=Int) (r.1.2) (0)):=by
 unfold R.dA;obtain ⟨b0,d,hd,hk⟩:=hb;have ew:w6 (a+z)=a+z:=wrap64 (by omega);have hs:List.set s.2.2.2.2.1.2 (c.2.2.2.2.2.2.2.2.2.1).toNat d=s.2.2.2.2.1.2:=oe hd;refine aA λ_=>jn (λc' _ hc'=>fb rfl (kE b0 hd (ax (beq_self_eq_true _) ?_))) λhn=>absurd ⟨b0,(List.getElem?_eq_some_iff.1 hd).1⟩ hn;rw [hs];refine bH (λe5=>?_) λe5=>?_
 ·have hl:a+z<=((d.2.2.2.2.2.2.2.2.2.2.2.2).length:Int):=by
   rcases hk with ⟨_,g⟩|⟨e6,_⟩
   ·exact g
   ·exact absurd (e5.symm.trans e6) (by decide)
  exact q_b λ_=>aA λ_=>fN (ga a0 (fN (ga (by rw [ew];omega) (ga (by rw [ew];exact hl) (q_b λ_=>aA λ_=>aD ⟨.ret h,λ_ _ _=>rfl⟩)))))
 ·refine aB (rf h hc.A (Ch 2 rfl (by decide) l0 (Nat.zero_le _) nw0 ⟨hz,.inr ⟨pw z,pw z⟩,a0,hq⟩ ⟨λe=>absurd e (by decide),λ_=>rfl⟩)) λr ⟨g,_⟩=>aA λ_=>aD ⟨g,λd' hd' e5'=>?_⟩;have:some d=some d':=hd.symm.trans hd';cases this;exact absurd e5' e5
theorem tT(hc:jY C)(h:gq C m s)(hm:m<=2^39)(hz:z=1\/z=2\/z=4\/z=8)(a0:0<=a)(hb:qe s.2.2.2.2.1.2 c.2.2.2.2.2.2.2.2.2.1 (a+z)){sq nt:Bool}(hq:sq=true->nt=true)(hw:∀ d,s.2.2.2.2.1.2[(c.2.2.2.2.2.2.2.2.2.1).toNat]?=some d->Eq (α:=Int) (d.1) (6)->tk z w):(R.dG s c a z w sq nt).sat λr=>Pst C m s.2.2.2.2.2.2.1 s r.1 r.2/\(∀ d,s.2.2.2.2.1.2[(c.2.2.2.2.2.2.2.2.2.1).toNat]?=some d->Eq (α:=Int) (d.1) (5)->Eq (α:=Int) (r.1) (0)):=by
 unfold R.dG;obtain ⟨b0,d,hd,hk⟩:=hb;obtain ⟨B,g1,g2,g3⟩:=h.heap hm;refine aA λ_=>aB (oo g1) λr hr=>aA λ_=>?_;obtain ⟨t1,t2⟩:=hr.cl d b0 hd;refine bH (λe5=>?_) λe5=>?_
 ·have hl:=(g1.cl _ d hd).1.bf (t2.symm.trans e5);refine q_b λ_=>aA λ_=>q_p λbs hbs=>aA λ_=>aB (Fa g1 g2 hbs λd' hd'=>?_) λr2 ⟨k1,k2⟩=>aA λ_=>aD ⟨.ok ⟨h.put k1 g3,k2,rfl,Int.le_refl _⟩,λ_ _ _=>rfl⟩;have:some d=some d':=hd.symm.trans hd';cases this;omega
 ·have e6:Eq (α:=Int) (d.1) (6):=by
   rcases hk with ⟨g,_⟩|⟨g,_⟩
   ·exact absurd (t2.trans g) e5
   ·exact g
  have hw:=hw d hd e6;refine aB (rf h hc.A (Ch 3 rfl (by decide) l0 (Nat.zero_le _) nw0 ⟨hz,hw.2.2.imp id λg=>⟨g,pw z⟩,a0,hq⟩ ⟨λe=>absurd e (by decide),λ_=>rfl⟩)) λr ⟨g,_⟩=>aA λ_=>aD ⟨g,λd' hd' e5'=>?_⟩;have:some d=some d':=hd.symm.trans hd';cases this;exact absurd (e5'.symm.trans e6) (by decide)
theorem qe.ext'{l l':List ja}(h:ny l l'){b n:Int}(hb:qe l b n):qe l' b n:=hb.ext h
theorem Gz(hc:jY C)(h:gq C m s)(ht:TyI s.2.2.2.2.1.2 c z)(n0:0<=n)(nl:LT.lt (α:=Int) (n) (c.2.2.2.2.2.2.2.2.2.2.2.1)):(R.dy s c n).sat (cp C m s.2.2.2.2.2.2.1 s):=by
 unfold R.dy;obtain ⟨m1,m2,m3⟩:=xJ ht.el n0 nl ht.f0 ht.m;have hz:=ht.el.pos;have hm':=ht.m;refine aA λ_=>aO (mc ht.el) (aA λ_=>q_b λbg=>?_);rw [m1];exact aB (vZ hc h hz.2.2 m2 (by omega) (ht.bf.le m3) λe=>by cases e) λr ⟨g,_⟩=>aA λ_=>bZ (λ_=>aD ⟨ba,g⟩) λe=>aB pI λ_ hv=>aA λ_=>aD ⟨hv,.ok (g.a0 e)⟩
theorem Et(hc:jY C)(h:gq C m s)(hm:m<=2^39)(ht:TyI s.2.2.2.2.1.2 c z)(n0:0<=n)(hv:bw v):(R.iE s c n v).sat (cp C m s.2.2.2.2.2.2.1 s):=by
 unfold R.iE;have hz:=ht.el.pos;have hm':=ht.m;refine aA λ_=>aB (zU ht.el) λr1 hw=>aA λ_=>bZ (λ_=>aW (gd h hm)) λ_=>dt (λnl=>?_) λ_=>aD (mY h hv);obtain ⟨m1,m2,m3⟩:=xJ ht.el n0 nl ht.f0 ht.m;refine aO (mc ht.el) (aA λ_=>aO (mc ht.el) (aA λ_=>q_b λbg=>?_));rw [m1];exact aB (tT hc h hm hz.2.2 m2 (ht.bf.le m3) (λe=>by cases e) λ_ _ _=>hw) λr ⟨g,_⟩=>aA λ_=>bZ (λ_=>aD ⟨ba,g⟩) λe=>aD ⟨hv,.ok (g.a0 e)⟩
theorem yF(hc:jY C)(h:gq C m s)(hm:m<=2^39)(ht:TyI s.2.2.2.2.1.2 c z)(n0:0<=n)(nl:LT.lt (α:=Int) (n) (c.2.2.2.2.2.2.2.2.2.2.2.1)){k o w1 w2:Int}(hk:(k=4/\0 < o/\o<=6)\/(k=5/\o=0))(h1:tk z w1)(h2:tk z w2):(R.dn s c n (k,(0,(0,(0,(o,(false,(false,(w1,(w2,((0,0),(([]:List Int),0)))))))))))).sat (cp C m s.2.2.2.2.2.2.1 s):=by
 unfold R.dn;obtain ⟨B,g1,g2,g3⟩:=h.heap hm;obtain ⟨m1,m2,m3⟩:=xJ ht.el n0 nl ht.f0 ht.m;have hz:=ht.el.pos;have hm':=ht.m;have hbf:=ht.bf.le m3;have hbf':=hbf;obtain ⟨b0,d,hd,hkd⟩:=hbf';refine aA λ_=>aO (mc ht.el) (aA λ_=>aB (oo g1) λr hr=>aA λ_=>?_);obtain ⟨t1,t2⟩:=hr.cl d b0 hd;rw [m1];refine pA (λ_=>?_) λe5=>?_
 ·have hkk:2<=k/\k<=6:=by omega
  exact aB (rf h hc.A (Ch k rfl hkk l0 (Nat.zero_le _) nw0 ⟨hz.2.2,by
   rcases h1.2.2 with e|e1
   ·exact .inl e
   ·rcases h2.2.2 with e|e2
    ·exact .inl e
    ·exact .inr ⟨e1,e2⟩,m2,λ_=>rfl⟩ ⟨λe=>by show 0 < o/\o<=6;omega,λe=>by show o=0;omega⟩)) λr ⟨g,_⟩=>aA λ_=>bZ (λ_=>aD ⟨ba,g⟩) λe=>aB pI λ_ hv=>aA λ_=>aD ⟨hv,.ok (g.a0 e)⟩
 ·have e5:Eq (α:=Int) (d.1) (5):=t2.symm.trans e5;refine aB (vZ hc h hz.2.2 m2 (by omega) hbf λ_=>rfl) λr5 ⟨g,g'⟩=>aA λ_=>q_b λr6=>aA λ_=>aB (R:=λ_=>True) (bH (λ_=>bH (λ_=>aD trivial) λ_=>aD trivial) λ_=>aD trivial) λw7 _=>?_;have a1:=g.a0 (g' d hd e5);obtain ⟨d2,hd2,hs⟩:=a1.ext _ d hd;refine aB (tT hc a1.run hm hz.2.2 m2 (hbf.ext a1.ext) (λ_=>rfl) λd' hd' e6=>?_) λr8 ⟨g8,g8'⟩=>aA λ_=>aB pI λ_ hv=>aA λ_=>aD ⟨hv,.ok (a1.cat (g8.a0 (g8' d2 hd2 (hs.k.trans e5))))⟩;have:some d2=some d':=hd2.symm.trans hd';cases this;exact absurd ((hs.k.trans e5).symm.trans e6) (by decide)
theorem Gy(h:gq C m s){q:List Int}:(R.gW s u q).sat (cp C m s.2.2.2.2.2.2.1 s):=by
 unfold R.gW;refine aA λ_=>aB (dL (by decide)) λ_ _=>aA λ_=>q_b λ_=>aG (λ_=>aB lr λ_ hv=>aA λ_=>aD (mY h hv)) λ_=>aB yf λk ⟨k0,k1⟩=>aA λ_=>dK (aG (λ_=>lW (λ_=>aD (mY h ba)) λhk=>?_) λ_=>aW (fR h));have hk:k.1 < (u.length:Int):=hk;have ew:w6 (k.1+1)=k.1+1:=wrap64 (by omega);exact fN (ga k0 (fN (ga (by rw [ew];omega) (ga (by rw [ew];omega) (aB nI λ_ hv=>aA λ_=>aD (mY h hv.1))))))
theorem Gk(h:gq C m s)(hm:m<=2^39)(hn:nm.length<=2^46){b:Bool}:(R.gU s n nm u b).sat (cp C m s.2.2.2.2.2.2.1 s):=by
 unfold R.gU;obtain ⟨B,g1,g2,g3⟩:=h.heap hm;exact aA λ_=>aG (λ_=>aB (tY g1 g2) λ_ hv=>aA λ_=>aD (mY h hv)) λ_=>aG (λ_=>aB pL λ_ _=>aA λ_=>aB lr λ_ hv=>aA λ_=>aD (mY h hv)) λ_=>aB (dw0:Safe _).ok λ_ _=>aG (λ_=>ax (decide_eq_true (by show 6+nm.length<=2^47;omega)) (aB o8 λ_ hv=>aA λ_=>aD (mY h (vk hv)))) λ_=>aW (fR h)
theorem CV(h:gq C m s)(hn:nm.length<=2^46):(R.fF s c nm n).sat (cp C m s.2.2.2.2.2.2.1 s):=by
 unfold R.fF;have hs:lG (9+nm.length)=true:=decide_eq_true (by show 9+nm.length<=2^47;omega)
 refine aA λ_=>aB (R:=λr:Unit ⊕ (Int×dZ)=>match r with|.inl _=>True|.inr q=>bw q.2/\q.1=0) (aG (λ_=>aB lr λ_ hv=>aA λ_=>aD ⟨hv,rfl⟩) λ_=>aG (λ_=>aB lr λ_ hv=>aA λ_=>aD ⟨hv,rfl⟩) λ_=>aG (λ_=>aD ⟨.of (show (6:Int)≠5 by decide),rfl⟩) λ_=>aG (λ_=>bH (λ_=>aB lr λ_ hv=>aA λ_=>aD ⟨hv,rfl⟩) λ_=>aD trivial) λ_=>aD trivial) λr hr=>?_
 cases r with
 |inl _=>exact i6 (aB (R:=λ_=>True) (bH (λ_=>aB Cl λ_ _=>aA λ_=>ax hs (q_b λ_=>aD trivial)) λ_=>aD trivial) λ_ _=>aG (λ_=>ax hs (aB o8 λ_ hv=>aA λ_=>aD (mY h (vk hv)))) λ_=>aW (fR h))
 |inr q =>
  obtain ⟨k,w⟩:=q;obtain ⟨h1,h2⟩:=hr;have h2:k=0:=h2;subst h2;exact jD (aD (mY h h1))
theorem Dr(hc:jY C)(h:gq C m s)(hm:m<=2^39)(hu:u.length<=4096):(R.eS s n u).sat (cp C m s.2.2.2.2.2.2.1 s):=by
 unfold R.eS;obtain ⟨B,g1,g2,g3⟩:=h.heap hm;refine aA λ_=>aB C5 λr1 hr1=>aA λ_=>aB (R:=λq:List UInt8=>q.length<=4096) (dK (aG (λ_=>aD (by omega)) λ_=>aD (by decide))) λnm hnm=>aB (oo g1) λr hr=>aA λ_=>dK (aG (λhr2=>?_) λ_=>?_)
 ·refine aB yf λk ⟨k0,k1⟩=>aA λ_=>bH (λ_=>aB (CT g1 g2) λ_ hv=>aA λ_=>aB (dw0:Safe _).ok λ_ _=>aG (λ_=>aW (fR h)) λ_=>aD (mY h hv)) λ_=>bH (λ_=>aW (Gk h hm (by omega))) λ_=>bH (λ_=>aB (tY g1 g2) λ_ hv=>aA λ_=>aG (λ_=>aD (mY h hv)) λ_=>aW (fR h)) λ_=>bH (λ_=>aG (λ_=>?_) λ_=>aG (λ_=>aD (mY h (hr.th hr2))) λ_=>aW (fR h)) λ_=>oI (λh56=>aG (λ_=>?_) λ_=>aW (fR h)) λ_=>bH (λh7=>?_) λ_=>bH (λ_=>aW (CV h (by omega))) λ_=>aW (fR h)
  ·have hnn:=hr.nn hr2;exact aB (dL (by omega)) λ_ _=>aA λ_=>aB nI λ_ hv=>aA λ_=>aD (mY h hv.1)
  ·obtain ⟨i0,d,hd,e⟩:=hr.at' hr2
   exact aB (vq g1 i0 hd (by rw [show d.1=r.1.1 from e];exact h56)) λ_ _=>aA λ_=>aB lr λ_ hv=>aA λ_=>aD (mY h hv)
  ·obtain ⟨z,ht⟩:=hr.ty h7;exact aG (λ_=>lW (λ_=>aD (mY h ba)) λhk=>aW (Gz hc h ht k0 hk)) λ_=>aO (mc ht.el) (aA λ_=>aW (CV h (by omega)))
 ·refine aB tX λq ⟨hq,_⟩=>aA λ_=>aB Bv λms hms=>aA λ_=>aB AG λb hb=>aG (λe=>?_) λ_=>aW (fR h);have h1:=Ao hq;have h2:=hms _ (hb e);refine ax (decide_eq_true ?_) (ax (decide_eq_true ?_) (aB o8 λ_ hv=>aA λ_=>aD (mY h (vk hv))))
  ·show q.length+1<=2^47;omega
  ·show (q++[46]).length+nm.length<=2^47;rw [List.length_append];simp;omega
theorem CI(hc:jY C)(h:gq C m s)(hm:m<=2^39){p:eN.den}:(R.ea s p).sat (cp C m s.2.2.2.2.2.2.1 s):=by
 unfold R.ea;exact aA λ_=>q_b λ_=>aG (λ_=>aW (gd h hm)) λ_=>q_p λr hr=>aA λ_=>bZ (λ_=>aW (gd h hm)) λ_=>bH (λ_=>aW (Gy h)) λ_=>bH (λ_=>aW (Dr hc h hm hr)) λ_=>aW (fR h)
theorem set_ok(hc:jY C)(h:gq C m s)(hm:m+1<=2^39){p:eN.den}(hv:bw v):(R.iH s p v).sat (cp C (m+1) s.2.2.2.2.2.2.1 s):=by
 unfold R.iH;obtain ⟨B,g1,g2,g3⟩:=h.heap (by omega);have up:∀ {F:Res ((dZ×Int)×RunT)}{B:(dZ×Int)×RunT->Bool},F.sat (cp C m s.2.2.2.2.2.2.1 s)->(F.bind λr=>given (B r) (Res.ok r)).sat (cp C (m+1) s.2.2.2.2.2.2.1 s):=λh=>aW (bG h λ_ hr=>hr.up (by omega));have ur:∀ {F:Res ((dZ×Int)×RunT)}{B:(dZ×Int)×RunT->Bool},F.sat (cp C m s.2.2.2.2.2.2.1 s)->(F.bind λr=>given (B r) (Res.ok (Sum.inr (r.1.2,(r.2,r.1.1)):Unit ⊕ (Int×(RunT×dZ))))).sat (qC C (m+1) s.2.2.2.2.2.2.1 s λ_:Unit=>True):=λh=>oy (bG h λ_ hr=>hr.up (by omega));refine aA λ_=>q_b λ_=>aG (λ_=>up (gd h (by omega))) λ_=>q_p λr3 hr3=>aA λ_=>bZ (λ_=>up (gd h (by omega))) λ_=>pA (λ_=>up (gd h (by omega))) λ_=>aB (oo g1) λr hr=>aA λ_=>aB yf λk ⟨k0,k1⟩=>aA λ_=>aB (R:=qC C (m+1) s.2.2.2.2.2.2.1 s λ_:Unit=>True) (bH (λ_=>aB (dL (by decide)) λ_ _=>aA λ_=>q_b λ_=>aG (λ_=>ur (fR h)) λ_=>aD trivial) λ_=>bH (λ_=>aB (R:=λ_=>True) (dK (aG (λ_=>aB pL λ_ _=>aA λ_=>aD trivial) λ_=>aD trivial)) λ_ _=>aG (λ_=>ur (fR h)) λ_=>aD trivial) λ_=>bH (λ_=>aB (tY g1 g2) λ_ _=>aA λ_=>dK (aG (λ_=>aD trivial) λ_=>ur (fR h))) λ_=>bH (λh7=>dK (aG (λ_=>?_) λ_=>ur (fR h))) λ_=>ur (fR h)) λr hr=>oi hr λ_ _=>aB (tn h hm hv) λr2 a2=>aA λ_=>aD ⟨hv,.ok a2⟩;obtain ⟨z,ht⟩:=hr.ty h7;exact ur (Et hc h (by omega) ht k0 hv)
theorem in_ok(hc:jY C)(h:gq C m s)(hm:m<=2^39):(R.ik s x y).sat (cp C m s.2.2.2.2.2.2.1 s):=by
 unfold R.ik;obtain ⟨B,g1,g2,g3⟩:=h.heap hm;exact aA λ_=>pA (λ_=>aW (gd h hm)) λ_=>q_p λ_ _=>aA λ_=>bZ (λ_=>aW (gd h hm)) λ_=>aB (oo g1) λr hr=>aA λ_=>q_b λ_=>aA λ_=>bH (λ_=>aB (CT g1 g2) λ_ _=>aA λ_=>q_b λ_=>aA λ_=>aB (dw0:Safe _).ok λ_ _=>aG (λ_=>aW (fR h)) λ_=>aB lD λ_ hv=>aA λ_=>aD (mY h (vk hv))) λ_=>aB (dw0:Safe _).ok λ_ _=>aG (λ_=>aB pL λ_ _=>aA λ_=>aB lD λ_ hv=>aA λ_=>aD (mY h (vk hv))) λ_=>aB (dw0:Safe _).ok λ_ _=>aG (λ_=>aB lD λ_ hv=>aA λ_=>aD (mY h (vk hv))) λ_=>aW (fR h)
theorem Cy(hc:jY C)(h:gq C m s)(hm:m<=2^39){p:eN.den}{e:aK.den}:(R.fI s p e).sat (cp C m s.2.2.2.2.2.2.1 s):=by
 unfold R.fI;exact aA λ_=>dK (aG (λ_=>aW (CI hc h hm)) λ_=>aW (Ci h hm))
theorem Ft(hc:jY C)(h:gq C m s)(hm:m+1<=2^39){p:eN.den}{e:aK.den}(hv:bw v):(R.gF s p v e).sat (cp C (m+1) s.2.2.2.2.2.2.1 s):=by
 unfold R.gF;exact aA λ_=>dK (aG (λ_=>aW (set_ok hc h hm hv)) λ_=>aW (bG (EE h (by omega) hv) λ_ hr=>cp.up (m:=m) hr (by omega)))
theorem C6(hc:jY C)(h:gq C m s)(hm:m<=2^39)(hn:VwN nm)(hl:∀ v∈l,bw v):(R.eR s nm x l).sat (cp C m s.2.2.2.2.2.2.1 s):=by
 unfold R.eR;obtain ⟨B,g1,g2,g3⟩:=h.heap hm;obtain ⟨n3,hel⟩:=hn;refine aA λ_=>aB (oo g1) λr hr=>aA λ_=>aB (R:=λb=>b=false->Eq (α:=Int) (r.1.1) (8)) (pA (λ_=>aD λe=>by cases e) λ_=>aD λe=>?_) λb hb=>aG (λ_=>aW (gd h hm)) λeb=>fN (ga (by decide) (ga (by omega) (aB hel λk ⟨z,hk⟩=>aA λ_=>q_b λps=>aO (mc hk) (aA λ_=>aB (lE hl (by decide)) λ_ _=>aA λ_=>aB nv λf ⟨f0,f1⟩=>aA λ_=>bZ (λ_=>aW (gd h hm)) λ_=>?_))))
 ·exact eq_of_beq (by cases h:(r.1.1 == 8)<;>simp_all)
 have hvw:=hr.vw (hb eb);have hz:=hk.pos;refine aB (R:=qC C m s.2.2.2.2.2.2.1 s λq:Int×Int=>tk z q.1/\0<=q.2) (aG (λ_=>aB (lE hl (by decide)) λ_ _=>aA λ_=>aB (zU hk) λw hw=>aA λ_=>bZ (λ_=>oy (gd h hm)) λ_=>aD ⟨hw,show (0:Int)<=2 by decide⟩) λ_=>aD ⟨.zero z,show (0:Int)<=1 by decide⟩) λr2 hr2=>oi hr2 λq ⟨q1,q2⟩=>aB (lE hl q2) λ_ _=>aA λ_=>q_b λlit=>?_;have hv1:=hvw.m;have hv2:=hvw.f0;have hv3:=hvw.l0;refine aB (R:=qC C m s.2.2.2.2.2.2.1 s λw:Int=>tk z w/\LE.le (α:=Int) ((HAdd.hAdd (α:=Int) (β:=Int) (γ:=Int) (f.1) (z))) (r.1.2.2.2.2.2.2.2.2.2.2.2.1)) (aB (R:=λb=>b=false->LE.le (α:=Int) ((HAdd.hAdd (α:=Int) (β:=Int) (γ:=Int) (f.1) (z))) (r.1.2.2.2.2.2.2.2.2.2.2.2.1)) (dt (λ_=>aD λe=>by cases e) λh1=>aD λe=>?_) λb hb=>aG (λ_=>oy (gd h hm)) λeb=>aB (dw0:Safe _).ok λ_ _=>aG (λ_=>aB (yN hk) λw hw=>aA λ_=>aD ⟨hw,hb eb⟩) λ_=>aD ⟨q1,hb eb⟩) λr3 hr3=>oi hr3 λw ⟨w1,w2⟩=>?_
 ·have h1:LE.le (α:=Int) (z) (r.1.2.2.2.2.2.2.2.2.2.2.2.1):=h1;have e:=Int.not_lt.1 (of_decide_eq_false e);rw [wrap64 (n:=(HSub.hSub (α:=Int) (β:=Int) (γ:=Int) (r.1.2.2.2.2.2.2.2.2.2.2.2.1) (z))) (by omega)] at e;show LE.le (α:=Int) ((HAdd.hAdd (α:=Int) (β:=Int) (γ:=Int) (f.1) (z))) (r.1.2.2.2.2.2.2.2.2.2.2.2.1);omega
 have ew:w6 (HAdd.hAdd (α:=Int) (β:=Int) (γ:=Int) (r.1.2.2.2.2.2.2.2.2.2.2.1) (f.1))=(HAdd.hAdd (α:=Int) (β:=Int) (γ:=Int) (r.1.2.2.2.2.2.2.2.2.2.2.1) (f.1)):=wrap64 (by omega);have hbf:qe s.2.2.2.2.1.2 r.1.2.2.2.2.2.2.2.2.2.1 ((HAdd.hAdd (α:=Int) (β:=Int) (γ:=Int) (r.1.2.2.2.2.2.2.2.2.2.2.1) (f.1))+z):=hvw.bf.le (by omega)
 have a0:0<=(HAdd.hAdd (α:=Int) (β:=Int) (γ:=Int) (r.1.2.2.2.2.2.2.2.2.2.2.1) (f.1)):=by omega
 rw [ew];refine aG (λ_=>aB (tT hc h hm hz.2.2 a0 hbf (λe=>by cases e) λ_ _ _=>w1) λr8 ⟨g8,_⟩=>aA λ_=>aD ⟨ba,g8⟩) λ_=>aB (vZ hc h hz.2.2 a0 (by omega) hbf λe=>by cases e) λr8 ⟨g8,_⟩=>aA λ_=>bZ (λ_=>aD ⟨ba,g8⟩) λe8=>dK (aG (λ_=>aB pI λ_ hv=>aA λ_=>aD ⟨hv,.ok (g8.a0 e8)⟩) λ_=>aB (yN hk) λ_ _=>aA λ_=>aB pI λ_ hv=>aA λ_=>aD ⟨hv,.ok (g8.a0 e8)⟩)
theorem EF(h:gq C m s)(hm:m<=2^39):(R.fY s c x).sat λr=>bw r.1.2.1/\Pst C m s.2.2.2.2.2.2.1 s r.1.2.2 r.2/\(r.1.2.2=0->r.2=s/\LE.le (α:=Int) (0) (r.1.1)/\LT.lt (α:=Int) (r.1.1) (c.2.2.2.2.2.2.2.2.2.2.2.1)):=by
 unfold R.fY
 refine aA λ_=>aB nv λf ⟨f0,f1⟩=>aA λ_=>aB (R:=λq:Int=>q=0->LT.lt (α:=Int) (f.1) (c.2.2.2.2.2.2.2.2.2.2.2.1)) (aB (R:=λb=>b=false->f.2=0->LT.lt (α:=Int) (f.1) (c.2.2.2.2.2.2.2.2.2.2.2.1)) (bH (λ_=>aD λe _=>Int.not_le.1 (of_decide_eq_false e)) λh0=>aD λ_ e=>absurd e h0) λb hb=>aG (λ_=>aD λe=>absurd (show (2:Int)=0 from e) (by decide)) λeb=>aD λe=>hb eb e) λq hq=>bZ (λh0=>aB (nY h hm) λr ⟨⟨v,g⟩,g0⟩=>aA λ_=>aD ⟨v,g,λe=>absurd e g0⟩) λh0=>aD ⟨ba,.ret h,λ_=>⟨rfl,f0,hq h0⟩⟩
theorem EV(hc:jY C)(h:gq C m s)(hm:m<=2^39){d:PkT}(ht:TyI s.2.2.2.2.1.2 c z)(n0:0<=n)(nl:LT.lt (α:=Int) (n) (c.2.2.2.2.2.2.2.2.2.2.2.1)):(R.fc s c d n x y).sat (cp C m s.2.2.2.2.2.2.1 s):=by
 unfold R.fc;obtain ⟨m1,m2,m3⟩:=xJ ht.el n0 nl ht.f0 ht.m;have hz:=ht.el.pos;refine aA λ_=>aB (zU ht.el) λr1 hw=>aA λ_=>bZ (λ_=>aW (gd h hm)) λ_=>q_b λr3=>aA λ_=>bZ (λ_=>aW (gd h hm)) λ_=>aB (R:=λ_=>True) (bH (λ_=>aD trivial) λ_=>aD trivial) λnn _=>aO (mc ht.el) (aA λ_=>aB tA λnu hnu=>aA λ_=>?_);rw [m1];refine aB (rf h hc.A (Ch 6 rfl (by decide) l0 (Nat.zero_le _) hnu ⟨hz.2.2,hw.2.2.imp id λg=>⟨pw z,g⟩,m2,λe=>by cases e⟩ ⟨λe=>absurd e (by decide),λ_=>rfl⟩)) λr ⟨g,_⟩=>aA λ_=>bZ (λ_=>aD ⟨ba,g⟩) λe=>?_;have a:=g.a0 e;exact bH (λ_=>aB (dL (by decide)) λ_ _=>aA λ_=>aB nI λ_ hv=>aA λ_=>aD ⟨hv.1,.ok a⟩) λ_=>bH (λ_=>aB (dL (by decide)) λ_ _=>aA λ_=>aB nI λ_ hv=>aA λ_=>aD ⟨hv.1,.ok a⟩) λ_=>aB (dL (by decide)) λ_ _=>aA λ_=>aB nI λ_ hv=>aA λ_=>aD ⟨hv.1,.ok a⟩
theorem AA(hc:jY C)(h:gq C m s)(hm:m<=2^39){d:PkT}(ht:TyI s.2.2.2.2.1.2 c z)(n0:0<=n)(nl:LT.lt (α:=Int) (n) (c.2.2.2.2.2.2.2.2.2.2.2.1)):(R.di s c d n x).sat (cp C m s.2.2.2.2.2.2.1 s):=by
 unfold R.di;refine aA λ_=>aB (R:=qC C m s.2.2.2.2.2.2.1 s B7) (bZ (λ_=>q_b λ_=>aA λ_=>bZ (λ_=>oy (gd h hm)) λ_=>aB tA λnu hnu=>aA λ_=>aD hnu) λ_=>aD (.inr ⟨rfl,rfl⟩)) λr hr=>oi hr λnu hnu=>pA (λ_=>aB lr λ_ hv=>aA λ_=>aD (mY h hv)) λ_=>aO (mc ht.el) (aA λ_=>aB (rf h hc.A (qY 7 rfl (by decide) (by decide) l0 (Nat.zero_le _) hnu z6)) λr ⟨g,_⟩=>aA λ_=>bZ (λ_=>aD ⟨ba,g⟩) λe=>aB lr λ_ hv=>aA λ_=>aD ⟨hv,.ok (g.a0 e)⟩)
theorem Dm(hc:jY C)(h:gq C m s)(hm:m<=2^39)(hl:∀ v∈l,bw v):(R.eZ s nm l).sat (cp C m s.2.2.2.2.2.2.1 s):=by
 unfold R.eZ;obtain ⟨B,g1,g2,g3⟩:=h.heap hm;have rt:∀ {k:Bool}{B:dZ->Bool},((R.bQ k).bind λr=>given (B r) (Res.ok ((r,(0:Int)),s))).sat (cp C m s.2.2.2.2.2.2.1 s):=aB lD λ_ hv=>aA λ_=>aD (mY h (vk hv));refine aA λ_=>aG (λ_=>aB (lE hl (by decide)) λ_ _=>aA λ_=>q_b λ_=>aA λ_=>bZ (λ_=>aW (gd h hm)) λ_=>q_b λ_=>aA λ_=>bH (λ_=>bH (λ_=>rt) λ_=>bH (λ_=>rt) λ_=>bH (λ_=>rt) λ_=>rt) λ_=>rt) λ_=>aB (lE hl (by decide)) λt _=>aA λ_=>aB (oo g1) λr hr=>aA λ_=>aB (oo g1) λr' _=>aA λ_=>aB (dw0:Safe _).ok λwt _=>aB (R:=λb=>b=false->Eq (α:=Int) (r.1.1) (7)) (aB (R:=λb=>b=false->Eq (α:=Int) (r.1.1) (7)) (pA (λ_=>aD λe=>by cases e) λ_=>aD λe=>?_) λb hb=>aG (λeb=>aD λe=>by rw [eb] at e;cases e) λeb=>bG (dw0:Safe _).ok λ_ _ _=>hb eb) λb hb=>aG (λ_=>aW (gd h hm)) λeb=>aB (lE hl (by decide)) λ_ _=>aA λ_=>aB (EF h hm) λr19 ⟨v19,g19,k19⟩=>aA λ_=>bZ (λ_=>aD ⟨v19,g19⟩) λe19=>?_
 ·exact eq_of_beq (by cases h:(r.1.1 == 7)<;>simp_all)
 obtain ⟨z,ht⟩:=hr.ty (hb eb);obtain ⟨⟨n,v,how⟩,s'⟩:=r19;obtain ⟨es,n0,nl⟩:=k19 e19;have es:s'=s:=es;subst es;have n0:0<=n:=n0;have nl:LT.lt (α:=Int) (n) (r.1.2.2.2.2.2.2.2.2.2.2.2.1):=nl;obtain ⟨m1,m2,m3⟩:=xJ ht.el n0 nl ht.f0 ht.m;have hz:=ht.el.pos;have hm':=ht.m;refine aO (mc ht.el) (aA λ_=>?_);dsimp only;rw [m1];refine aG (λ_=>aB (vZ hc h hz.2.2 m2 (by omega) (ht.bf.le m3) λ_=>rfl) λr5 ⟨g,_⟩=>aA λ_=>bZ (λ_=>aD ⟨ba,g⟩) λe=>aB pI λ_ hv=>aA λ_=>aD ⟨hv,.ok (g.a0 e)⟩) λ_=>aG (λ_=>aB (lE hl (by decide)) λ_ _=>aA λ_=>aB (lE hl (by decide)) λ_ _=>aA λ_=>aW (EV hc h hm ht n0 nl)) λ_=>aG (λ_=>aB (lE hl (by decide)) λ_ _=>aA λ_=>aW (AA hc h hm ht n0 nl)) λ_=>aB (lE hl (by decide)) λ_ _=>aA λ_=>aB (vx ht.el) λr29 ⟨hw,hv29⟩=>aA λ_=>bZ (λ_=>aW (gd h hm)) λ_=>aG (λ_=>aB (tT hc h hm hz.2.2 m2 (ht.bf.le m3) (λ_=>rfl) λ_ _ _=>hw) λr8 ⟨g8,_⟩=>aA λ_=>bZ (λ_=>aD ⟨ba,g8⟩) λe=>aD ⟨hv29,.ok (g8.a0 e)⟩) λ_=>aG (λ_=>aB (lE hl (by decide)) λ_ _=>aA λ_=>aB (vx ht.el) λr33 ⟨hw',_⟩=>aA λ_=>bZ (λ_=>aW (gd h hm)) λ_=>aW (yF hc h hm ht n0 nl (.inr ⟨rfl,rfl⟩) hw' hw)) λ_=>aB B6 λo ⟨o0,o1⟩=>aA λ_=>aW (yF hc h hm ht n0 nl (.inl ⟨rfl,o0,o1⟩) hw (.zero z))
end
end Go.Mach

set_option maxRecDepth 100000
namespace Go.Mach
open Res
abbrev mM:=aK.den
abbrev sW:=aQ.den
abbrev TarI:=eN.den
def Nd(N:List eH)(t k:Int):Prop:=0<=k/\∃ x,N[k.toNat]?=some x/\oT t x.1=true
def Nk(N:List eH)(x:eH):Prop:=∃ i:Nat,N[i]?=some x
def tW(l:List dZ):Prop:=l.length<=20000/\∀ v∈l,bw v
def TarT(p:TarI):Prop:=bw p.2.1/\bw p.2.2
def FnC(s:RunT)(i:Int):Prop:=0<=i/\∃ c,s.2.2.2.2.1.2[i.toNat]?=some c/\Eq (α:=Int) (c.1) (3)
structure Pre (C:Cx) (n:Nat) (k c m:Int) (s:RunT):Prop where
 run:gq C m s
 fu:20*(HSub.hSub (α:=Int) (β:=Int) (γ:=Int) (C.D) (s.2.2.2.2.2.1))+k<=(n:Int)
 hm:m+c<=500000000000
def PPst(C:Cx)(m b:Int)(s:RunT)(r:(TarI×(dZ×Int))×RunT):Prop:=TarT r.1.1/\bw r.1.2.1/\Pst C m b s r.1.2.2 r.2
def APst(C:Cx)(m b:Int)(s:RunT)(r:(List dZ×(dZ×Int))×RunT):Prop:=tW r.1.1/\bw r.1.2.1/\Pst C m b s r.1.2.2 r.2
def CPst(C:Cx)(m b:Int)(s:RunT)(r:(dZ×(dZ×Int))×RunT):Prop:=bw r.1.1/\bw r.1.2.1/\Pst C m b s r.1.2.2 r.2
def BPst(C:Cx)(m b:Int)(s:RunT)(r:(Bool×sW)×RunT):Prop:=bw r.1.2.2.2/\Pst C m b s r.1.2.1 r.2
def FPst(C:Cx)(m b:Int)(s:RunT)(r:(mM×sW)×RunT):Prop:=bw r.1.1.2.1/\bw r.1.2.2.2/\Pst C m b s r.1.2.1 r.2
structure GOk (C:Cx) (n:Nat) (G:ai):Prop where
 list:∀ {m:Int}{s:RunT}{x:eH}{e:mM},Pre C n 2 0 m s->Nk C.N x->bw e.2.1->(G.eval_run_list s x.2.2.2.2.2 e).sat (nx C m s.2.2.2.2.2.2.1 s)
 statement:∀ {m:Int}{s:RunT}{k:Int}{e:mM}{l:List (List UInt8)},Pre C n 1 0 m s->Nd C.N 1 k->bw e.2.1->LE.le (α:=Int) ((l.length:Int)) (s.2.2.2.2.2.1)->(G.eval_run_statement s k e l).sat (nx C m (HAdd.hAdd (α:=Int) (β:=Int) (γ:=Int) (s.2.2.2.2.2.2.1) (1)) s)
 act:∀ {m:Int}{s:RunT}{k:Int}{e:mM}{l:List (List UInt8)},Pre C n 4 100300000 m s->Nd C.N 1 k->bw e.2.1->LE.le (α:=Int) ((HAdd.hAdd (α:=Int) (β:=Int) (γ:=Int) ((l.length:Int)) (1))) (s.2.2.2.2.2.1)->(G.eval_run_act s k e l).sat (nx C (m+100300000) s.2.2.2.2.2.2.1 s)
 gx:∀ {m:Int}{s:RunT}{k:Int}{e:mM},Pre C n 1 0 m s->Nd C.N 3 k->bw e.2.1->(G.eval_run_expression s k e).sat (cp C m (HAdd.hAdd (α:=Int) (β:=Int) (γ:=Int) (s.2.2.2.2.2.2.1) (1)) s)
 block:∀ {m:Int}{s:RunT}{k:Int}{x:eH}{e:mM},Pre C n 3 100300000 m s->0<=k->C.N[k.toNat]?=some x->x.1=4->bw e.2.1->(G.eval_run_block s k e).sat (nx C (m+100300000) s.2.2.2.2.2.2.1 s)
 decls:∀ {m:Int}{s:RunT}{x:eH}{e:mM},Pre C n 2 0 m s->Nk C.N x->(x.1=5\/x.1=6)->bw e.2.1->(G.eval_run_decls s x.2.2.2.2.2 e).sat (nx C m s.2.2.2.2.2.2.1 s)
 choice:∀ {m:Int}{s:RunT}{x:eH}{e:mM},Pre C n 3 0 m s->Nk C.N x->x.1=8->bw e.2.1->(G.eval_run_choice s x.2.2.2.2.2 e).sat (nx C m s.2.2.2.2.2.2.1 s)
 Ew:∀ {m:Int}{s:RunT}{x:eH}{e:mM}{l:List (List UInt8)},Pre C n 3 0 m s->Nk C.N x->x.1=9->bw e.2.1->(G.eval_run_while s x.2.2.2.2.2 e l).sat (nx C m s.2.2.2.2.2.2.1 s)
 loop:∀ {m:Int}{s:RunT}{x:eH}{e:mM}{l:List (List UInt8)},Pre C n 3 100300000 m s->Nk C.N x->x.1=10->bw e.2.1->(G.eval_run_loop s x.2.2.2.2.2 e l).sat (nx C (m+100300000) s.2.2.2.2.2.2.1 s)
 try_:∀ {m:Int}{s:RunT}{x:eH}{e:mM},Pre C n 3 100300000 m s->Nk C.N x->x.1=16->bw e.2.1->(G.eval_run_try s x.2.2.2.2.2 e).sat (nx C (m+100300000) s.2.2.2.2.2.2.1 s)
 value:∀ {m:Int}{s:RunT}{k:Int}{e:mM},Pre C n 12 100300000 m s->Nd C.N 3 k->bw e.2.1->(G.eval_run_value s k e).sat (cp C (m+100300000) s.2.2.2.2.2.2.1 s)
 asked:∀ {m:Int}{s:RunT}{k:Int}{e:mM},Pre C n 2 0 m s->Nd C.N 3 k->bw e.2.1->(G.eval_run_asked s k e).sat (BPst C m (HAdd.hAdd (α:=Int) (β:=Int) (γ:=Int) (s.2.2.2.2.2.2.1) (1)) s)
 first:∀ {m:Int}{s:RunT}{k:Int}{e:mM},Pre C n 2 100300000 m s->Nd C.N 10 k->bw e.2.1->(G.eval_run_first s k e).sat (FPst C (m+100000) s.2.2.2.2.2.2.1 s)
 Fq:∀ {m:Int}{s:RunT}{k:Int}{a:List UInt8}{v:dZ}{e:mM},Pre C n 2 100300000 m s->Nd C.N 1 k->bw v->bw e.2.1->(G.eval_run_catch s a k v e).sat (nx C (m+10) s.2.2.2.2.2.2.1 s)
 array:∀ {m:Int}{s:RunT}{x:eH}{e:mM},Pre C n 2 100300000 m s->Nk C.N x->x.1=38->bw e.2.1->(G.eval_run_array s x.2.2.2.2.2 e).sat (cp C (m+100300000) s.2.2.2.2.2.2.1 s)
 object:∀ {m:Int}{s:RunT}{x:eH}{e:mM},Pre C n 2 100300000 m s->Nk C.N x->x.1=39->bw e.2.1->(G.eval_run_object s x.2.2.2.2.2 e).sat (cp C (m+100300000) s.2.2.2.2.2.2.1 s)
 operation:∀ {m:Int}{s:RunT}{k:Int}{x:eH}{e:mM},Pre C n 11 100300000 m s->0<=k->C.N[k.toNat]?=some x->(43<=x.1/\x.1<=53)->bw e.2.1->(G.eval_run_operation s k x e).sat (cp C (m+100300000) s.2.2.2.2.2.2.1 s)
 unary:∀ {m:Int}{s:RunT}{k:Int}{o:List UInt8}{e:mM},Pre C n 2 0 m s->Nd C.N 3 k->bw e.2.1->(G.eval_run_unary s o k e).sat (cp C m s.2.2.2.2.2.2.1 s)
 step:∀ {m:Int}{s:RunT}{x:eH}{e:mM},Pre C n 3 100300000 m s->Nk C.N x->(x.1=44\/x.1=45)->bw e.2.1->(G.eval_run_step s x e).sat (cp C (m+100300000) s.2.2.2.2.2.2.1 s)
 binary:∀ {m:Int}{s:RunT}{x:eH}{e:mM},Pre C n 2 0 m s->Nk C.N x->x.1=46->bw e.2.1->(G.eval_run_binary s x e).sat (cp C m s.2.2.2.2.2.2.1 s)
 logic:∀ {m:Int}{s:RunT}{x:eH}{e:mM},Pre C n 2 0 m s->Nk C.N x->x.1=47->bw e.2.1->(G.eval_run_logic s x e).sat (cp C m s.2.2.2.2.2.2.1 s)
 assign:∀ {m:Int}{s:RunT}{x:eH}{e:mM},Pre C n 3 100300000 m s->Nk C.N x->x.1=49->bw e.2.1->(G.eval_run_assign s x e).sat (cp C (m+100300000) s.2.2.2.2.2.2.1 s)
 callee:∀ {m:Int}{s:RunT}{x:eH}{e:mM},Pre C n 10 100300000 m s->Nk C.N x->x.1=50->bw e.2.1->(G.eval_run_callee s x.2.2.2.2.2 e).sat (cp C (m+100300000) s.2.2.2.2.2.2.1 s)
 arguments:∀ {m:Int}{s:RunT}{l:List Int}{e:mM},Pre C n 2 0 m s->l.length<=20000->(∀ k∈l,Nd C.N 3 k)->bw e.2.1->(G.eval_run_arguments s l e).sat (APst C m s.2.2.2.2.2.2.1 s)
 fresh:∀ {m:Int}{s:RunT}{f:dZ}{l:List dZ},Pre C n 9 100300000 m s->tW l->(G.eval_run_fresh s f l).sat (cp C (m+100300000) s.2.2.2.2.2.2.1 s)
 property:∀ {m:Int}{s:RunT}{k:Int}{e:mM},Pre C n 3 0 m s->Nd C.N 4 k->bw e.2.1->(G.eval_run_property s k e).sat (cp C m s.2.2.2.2.2.2.1 s)
 parts:∀ {m:Int}{s:RunT}{k:Int}{e:mM},Pre C n 2 0 m s->Nd C.N 4 k->bw e.2.1->(G.eval_run_parts s k e).sat (PPst C m s.2.2.2.2.2.2.1 s)
 called:∀ {m:Int}{s:RunT}{k:Int}{e:mM},Pre C n 2 0 m s->Nd C.N 3 k->bw e.2.1->(G.eval_run_called s k e).sat (CPst C m s.2.2.2.2.2.2.1 s)
 call:∀ {m:Int}{s:RunT}{f t:dZ}{l:List dZ},Pre C n 8 100300000 m s->bw t->tW l->(G.eval_run_call s f t l).sat (cp C (m+100300000) s.2.2.2.2.2.2.1 s)
 callF:∀ {m:Int}{s:RunT}{f t:dZ}{l:List dZ},Pre C n 4 100300000 m s->f.1=6->FnC s f.2.2.2.2->bw t->tW l->(G.eval_run_call s f t l).sat (cp C (m+100300000) s.2.2.2.2.2.2.1 s)
 builds:∀ {m:Int}{s:RunT}{a:List UInt8}{l:List dZ},Pre C n 8 100300000 m s->InN a->tW l->(G.eval_run_builds s a l).sat (cp C (m+100300000) s.2.2.2.2.2.2.1 s)
 apply:∀ {m:Int}{s:RunT}{i:Int}{t:dZ}{l:List dZ},Pre C n 3 100300000 m s->FnC s i->bw t->tW l->(G.eval_run_apply s i t l).sat (cp C (m+100300000) s.2.2.2.2.2.2.1 s)
 does:∀ {m:Int}{s:RunT}{a:List UInt8}{t:dZ}{l:List dZ},Pre C n 7 100300000 m s->InN a->bw t->tW l->(G.eval_run_does s a t l).sat (cp C (m+100300000) s.2.2.2.2.2.2.1 s)
 host:∀ {m:Int}{s:RunT}{a:List UInt8}{x:dZ},Pre C n 6 100300000 m s->bw x->(G.eval_run_host s a x).sat (cp C (m+100300000) s.2.2.2.2.2.2.1 s)
 zw:∀ {m:Int}{s:RunT}{f:dZ},Pre C n 5 100300000 m s->(G.eval_run_receives s f).sat (cp C (m+100300000) s.2.2.2.2.2.2.1 s)
section
variable {C:Cx}{n:Nat}{G:ai}{m m' b k k' c c':Int}{s s' s1 s2:RunT}{how:Int}{β:Type}{Q:β->Prop}
theorem Pre.go(p:Pre C (n+1) k c m s)(a:Aft C m' b s s')(hk:k' < k)(hm:m'+c'<=500000000000):Pre C n k' c' m' s':=⟨a.run,by have h1:=p.fu;have h2:=a.dp;rw [h2];omega,hm⟩
theorem Pre.no(p:Pre C 0 k c m s)(hk:1<=k):False:=by
 have h1:=p.fu;have h2:=p.run.dp;omega
theorem Pre.deep(p:Pre C (n+1) k 0 m s)(h:gq C (m-134217728) s1)(e:Eq (α:=Int) (s1.2.2.2.2.2.1) ((HAdd.hAdd (α:=Int) (β:=Int) (γ:=Int) (s.2.2.2.2.2.1) (1))))(hk:k'<=20)(h1:1<=k)(hc:c'<=134217728):Pre C n k' c' (m-134217728) s1:=⟨h,by have h1:=p.fu;rw [e];omega,by have:=p.hm;omega⟩
theorem yr(h:gq C m s)(e2:s1.2.2.2.2.1=s.2.2.2.2.1)(e3:Eq (α:=Int) (s1.2.2.2.2.2.1) ((HAdd.hAdd (α:=Int) (β:=Int) (γ:=Int) (s.2.2.2.2.2.1) (1))))(e4:Eq (α:=Int) (s1.2.2.2.2.2.2.1) ((HAdd.hAdd (α:=Int) (β:=Int) (γ:=Int) (s.2.2.2.2.2.2.1) (1))))(hD:C.D<=200)(g:Pst C m' s1.2.2.2.2.2.2.1 s1 how s2)(hm:m'<=m):Pst C m (HAdd.hAdd (α:=Int) (β:=Int) (γ:=Int) (s.2.2.2.2.2.2.1) (1)) s how (s2.1,(s2.2.1,(s2.2.2.1,(s2.2.2.2.1,(s2.2.2.2.2.1,(w6 (HSub.hSub (α:=Int) (β:=Int) (γ:=Int) (s2.2.2.2.2.2.1) (1)),s2.2.2.2.2.2.2)))))):=by
 rcases g with ⟨h1,h2⟩|⟨h1,h2⟩
 ·exact .inl ⟨h1,h2.nd,h2.hs⟩
 ·have a:=h2.run;have d1:=h.d0;have d2:=h.dp;have d3:Eq (α:=Int) (s2.2.2.2.2.2.1) (s1.2.2.2.2.2.1):=h2.dp
  have ew:w6 (HSub.hSub (α:=Int) (β:=Int) (γ:=Int) (s2.2.2.2.2.2.1) (1))=s.2.2.2.2.2.1:=by rw [wrap64 (by omega)];omega
  have hb:=h2.bg;refine .inr ⟨h1,⟨a.nd,a.lm,a.an,a.u0,a.us,?_,?_,?_,a.b0,a.bg,a.rq,a.en⟩,?_,?_,?_⟩
  ·obtain ⟨B,g1,g2⟩:=a.hp;exact ⟨B,g1,Int.le_trans g2 hm⟩
  ·show LE.le (α:=Int) (0) (w6 (HSub.hSub (α:=Int) (β:=Int) (γ:=Int) (s2.2.2.2.2.2.1) (1)));rw [ew];exact d1
  ·show LE.le (α:=Int) (w6 (HSub.hSub (α:=Int) (β:=Int) (γ:=Int) (s2.2.2.2.2.2.1) (1))) (C.D);rw [ew];exact d2
  ·have:=h2.ext;rw [e2] at this;exact this
  ·exact ew
  ·show LE.le (α:=Int) ((HAdd.hAdd (α:=Int) (β:=Int) (γ:=Int) (s.2.2.2.2.2.2.1) (1))) (s2.2.2.2.2.2.2.1);rw [<- e4];exact hb
theorem tS(hc:jY C)(p:Pre C (n+1) k 0 m s){f:Bool×RunT->Res β}(h1:∀ s1,Cj C s1->(f (false,s1)).sat Q)(h2:∀ s1,s1.2.2.2.2.1=s.2.2.2.2.1->Eq (α:=Int) (s1.2.2.2.2.2.1) ((HAdd.hAdd (α:=Int) (β:=Int) (γ:=Int) (s.2.2.2.2.2.1) (1)))->Eq (α:=Int) (s1.2.2.2.2.2.2.1) ((HAdd.hAdd (α:=Int) (β:=Int) (γ:=Int) (s.2.2.2.2.2.2.1) (1)))->gq C (m-134217728) s1->(f (true,s1)).sat Q):((R.cT s).bind f).sat Q:=by
 have hF:=hc.F;have hD:=hc.D;refine aB (Dq p.run (by omega) (by omega)) λr hr=>?_;obtain ⟨y,s1⟩:=r;rcases hr with ⟨e,g⟩|⟨e,g1,g2,g3,g4⟩
 ·have e:y=false:=e;subst e;exact h1 s1 g
 ·have e:y=true:=e;subst e;exact h2 s1 g1 g2 g3 g4
theorem fit3{x:Int}(h:oT 3 x=true):30<=x/\x<=53/\x≠40:=by simpa [oT,wP] using h
theorem fit4{x:Int}(h:oT 4 x=true):x=33\/x=52\/x=53:=by simpa [oT,Ar] using h
theorem fit_4{x:Int}(h:x=33\/x=52\/x=53):oT 4 x=true:=by simpa [oT,Ar] using h
theorem fit_1{x:Int}:oT 1 x=true:=rfl
theorem rF.nd{x:eH}(h:rF C.N x){i:Nat}{k:Int}(hk:x.2.2.2.2.2[i]?=some k)(t:Int)(ht:srt (shp x.1 (x.2.2.2.2.2).length) i=t):Nd C.N t k:=by
 obtain ⟨k0,y,hy,hf,_⟩:=h.kid i k hk;exact ⟨k0,y,hy,ht▸hf⟩
theorem rF.nd1{x:eH}(h:rF C.N x){i:Nat}{k:Int}(hk:x.2.2.2.2.2[i]?=some k):Nd C.N 1 k:=by
 obtain ⟨k0,y,hy,hf,_⟩:=h.kid i k hk;exact ⟨k0,y,hy,fit_1⟩
end
end Go.Mach

set_option maxRecDepth 100000
namespace Go.Mach
open Res
instance Cn{k}:Safe (R.fe k):=by unfold R.fe;exact dw0
instance Cu{k}:Safe (R.ed k):=by unfold R.ed;exact dw0
section
variable {t:List eH}{n:Int}{x:eH}
theorem xN(hg:ph t){i:Nat}(hx:t[i]?=some x){j:Nat}{k:Int}(hk:x.2.2.2.2.2[j]?=some k):0<=k/\k.toNat < t.length:=by
 obtain ⟨k0,y,hy,_⟩:=(hg.nod _ x hx).kid j k hk;exact ⟨k0,(List.getElem?_eq_some_iff.1 hy).1⟩
theorem xz(hg:ph t)(hf:rK t)(n0:0<=n)(hn:n.toNat < t.length):(R.gf t n).sat λr=>r.length<=20000:=by
 unfold R.gf;refine aA λ_=>bM n0 hn λx hx _=>?_;have hx:t[n.toNat]?=some x:=hx;have hl:=hf.one _ x hx;refine aB (fP (Q:=λr:List (List UInt8)=>r.length<=20000) (λy=>y.2) (x.2.2.2.2.2).length (by omega) (λy=>y.1.length=y.2.toNat) (by simp) (by simp) (by simp) λy y0 y1 yI=>?_) λr hr=>aD hr;obtain ⟨l,j⟩:=y;have y0:0<=j:=y0;have y1:j<=((x.2.2.2.2.2).length:Int):=y1;have yI:l.length=j.toNat:=yI;refine dt (λhj=>?_) λ_=>aD (by show l.length<=20000;omega);have hj:j < ((x.2.2.2.2.2).length:Int):=hj;refine bP y0 (by show _ < (x.2.2.2.2.2).length;omega) λk hk _=>?_;obtain ⟨k0,kl⟩:=xN hg hx hk;refine bM k0 kl λz _ _=>ax (decide_eq_true ?_) (aD ⟨rfl,hj,?_⟩)
 ·show (l.length+1)*16<=2^47;omega
 ·show (l++[_]).length=(w6 (j+1)).toNat;rw [wrap64 (by omega),List.length_append];simp;omega
theorem sS(hg:ph t)(hf:rK t)(n0:0<=n)(hn:n.toNat < t.length):(R.ep t n).sat λr=>r.length<=400000000:=by
 unfold R.ep;refine aA λ_=>bM n0 hn λx hx _=>?_;have hx:t[n.toNat]?=some x:=hx;have hl:=hf.one _ x hx;have hgx:=hg.nod _ x hx;refine aB (dw0:Safe _).ok λ_ _=>aG (λ_=>?_) λ_=>aB (R:=λb=>b=true->x.1=10) (bH (λh10=>?_) λ_=>aD λe=>by cases e) λb hb=>aG (λe=>?_) λ_=>aB (dw0:Safe _).ok λ_ _=>aG (λ_=>aD (by simp)) λ_=>q_b λ_=>aG (λ_=>?_) λ_=>aD (by simp)
 ·refine aB (fP (Q:=λr:List (List UInt8)=>r.length<=400000000) (λy=>y.2) (x.2.2.2.2.2).length (by omega) (λy=>y.1.length<=20000*y.2.toNat) (by simp) (by simp) (by simp) λy y0 y1 yI=>?_) λr hr=>aD hr;obtain ⟨l,j⟩:=y;have y0:0<=j:=y0;have y1:j<=((x.2.2.2.2.2).length:Int):=y1;have yI:l.length<=20000*j.toNat:=yI;refine dt (λhj=>?_) λ_=>aD (by show l.length<=400000000;omega);have hj:j < ((x.2.2.2.2.2).length:Int):=hj
  have ew:(w6 (j+1)).toNat=j.toNat+1:=by rw [wrap64 (by omega)];omega
  refine bP y0 (by show _ < (x.2.2.2.2.2).length;omega) λk hk _=>?_;obtain ⟨k0,kl⟩:=xN hg hx hk;refine bM k0 kl λz _ _=>q_b λ_=>aG (λ_=>aB (xz hg hf k0 kl) λr hr=>aA λ_=>ax (decide_eq_true ?_) (aD ⟨rfl,hj,?_⟩)) λ_=>aG (λ_=>ax (decide_eq_true ?_) (aD ⟨rfl,hj,?_⟩)) λ_=>aD ⟨rfl,hj,?_⟩
  ·show (l.length+r.length)*16<=2^47;omega
  ·show (l++r).length<=20000*(w6 (j+1)).toNat;rw [ew,List.length_append];omega
  ·show (l.length+1)*16<=2^47;omega
  ·show (l++[_]).length<=20000*(w6 (j+1)).toNat;rw [ew,List.length_append];simp;omega
  ·show l.length<=20000*(w6 (j+1)).toNat;rw [ew];omega
 ·have h10:x.1=10:=h10;have h4:=hgx.len;rw [h10] at h4;have h4:4<=(x.2.2.2.2.2).length:=h4;refine bP (by decide) (by show 0 < (x.2.2.2.2.2).length;omega) λk hk _=>?_;obtain ⟨k0,kl⟩:=xN hg hx hk;exact bM k0 kl λz _ _=>q_b λ_=>aD λ_=>h10
 ·have h4:=hgx.len;rw [hb e] at h4;have h4:4<=(x.2.2.2.2.2).length:=h4;refine bP (by decide) (by show 0 < (x.2.2.2.2.2).length;omega) λk hk _=>?_;obtain ⟨k0,kl⟩:=xN hg hx hk;exact aB (xz hg hf k0 kl) λr hr=>aA λ_=>aD (by omega)
 ·refine aB (fP (Q:=λr:List (List UInt8)=>r.length<=400000000) (λy=>y.2) (x.2.2.2.2.2).length (by omega) (λy=>y.1.length<=y.2.toNat) (by simp) (by simp) (by simp) λy y0 y1 yI=>?_) λr hr=>aD hr;obtain ⟨l,j⟩:=y;have y0:0<=j:=y0;have y1:j<=((x.2.2.2.2.2).length:Int):=y1;have yI:l.length<=j.toNat:=yI;refine dt (λhj=>?_) λ_=>aD (by show l.length<=400000000;omega);have hj:j < ((x.2.2.2.2.2).length:Int):=hj
  have ew:(w6 (j+1)).toNat=j.toNat+1:=by rw [wrap64 (by omega)];omega
  refine bP y0 (by show _ < (x.2.2.2.2.2).length;omega) λk hk _=>?_;obtain ⟨k0,kl⟩:=xN hg hx hk;refine bM k0 kl λz _ _=>aG (λ_=>bM k0 kl λz' _ _=>ax (decide_eq_true ?_) (aD ⟨rfl,hj,?_⟩)) λ_=>aD ⟨rfl,hj,?_⟩
  ·show (l.length+1)*16<=2^47;omega
  ·show (l++[_]).length<=(w6 (j+1)).toNat;rw [ew,List.length_append];simp;omega
  ·show l.length<=(w6 (j+1)).toNat;rw [ew];omega
theorem zF(hg:ph t)(hf:rK t)(n0:0<=n)(hn:n.toNat < t.length):(R.ei t n).sat λr=>r.length<=400000000:=by
 unfold R.ei;exact aA λ_=>aB (sS hg hf n0 hn) λr hr=>aA λ_=>aD hr
end
end Go.Mach

set_option maxRecDepth 100000
namespace Go.Mach
open Res
def zG(C:Cx)(m b:Int)(s:RunT){α:Type}(P:α->Prop):α ⊕ (RunT×sW)->Prop
 |.inl a=>P a
 |.inr z=>nx C m b s (z.2,z.1)
theorem Ct{C:Cx}{m b:Int}{s:RunT}{α:Type}{P:α->Prop}{x:α ⊕ (RunT×sW)}(hx:zG C m b s P x){f:α->Res (sW×RunT)}(hf:∀ a,P a->(f a).sat (nx C m b s)):(sum x f λz=>Res.ok (z.2,z.1)).sat (nx C m b s):=by
 cases x with
 |inl a=>exact i6 (hf a hx)
 |inr z=>exact jD (aD hx)
def Av(C:Cx)(m b:Int)(s:RunT)(r:RunT×sW):Prop:=nx C m b s (r.2,r.1)
theorem sum_d{C:Cx}{m b:Int}{s:RunT}{α γ:Type}{P:α->Prop}{x:α ⊕ (RunT×sW)}{Q:Step γ (RunT×sW)->Prop}(hx:zG C m b s P x){f:α->Res (Step γ (RunT×sW))}(hf:∀ a,P a->(f a).sat Q)(hd:∀ z,Av C m b s z->Q (.done z)):(sum x f λz=>Res.ok (.done z)).sat Q:=by
 cases x with
 |inl a=>exact i6 (hf a hx)
 |inr z=>exact jD (aD (hd z hx))
theorem sum_di{C:Cx}{m b:Int}{s:RunT}{α γ δ:Type}{P:α->Prop}{x:α ⊕ (RunT×sW)}{Q:Step γ (δ ⊕ (RunT×sW))->Prop}(hx:zG C m b s P x){f:α->Res (Step γ (δ ⊕ (RunT×sW)))}(hf:∀ a,P a->(f a).sat Q)(hd:∀ z,Av C m b s z->Q (.done (.inr z))):(sum x f λz=>Res.ok (.done (.inr z))).sat Q:=by
 cases x with
 |inl a=>exact i6 (hf a hx)
 |inr z=>exact jD (aD (hd z hx))
section
variable {β:Type}{Q:β->Prop}{C:Cx}{x:eH}
theorem gg{t:Ty}{l:List t.den}{i:Int}{a:t.den}{f:t.den->Res β}(i0:0<=i)(h:l[i.toNat]?=some a)(hf:(f a).sat Q):(idx t l i f).sat Q:=bP i0 (List.getElem?_eq_some_iff.1 h).1 λy hy _=>by
 have:some a=some y:=h.symm.trans hy;cases this;exact hf
theorem iX(h:rF C.N x)(i:Nat)(t:Int)(hi:i < (shp x.1 (x.2.2.2.2.2).length).1.length)(ht:srt (shp x.1 (x.2.2.2.2.2).length) i=t):∃ k,x.2.2.2.2.2[i]?=some k/\Nd C.N t k:=by
 have hl:=Nat.lt_of_lt_of_le hi h.len;exact ⟨_,List.getElem?_eq_getElem hl,h.nd (List.getElem?_eq_getElem hl) t ht⟩
theorem Nd.any{t k:Int}(h:Nd C.N t k):Nd C.N 1 k:=by
 obtain ⟨k0,y,hy,_⟩:=h;exact ⟨k0,y,hy,rfl⟩
theorem Cw{s:RunT}(hn:s.1=C.N){k:Int}{y:eH}(k0:0<=k)(hy:C.N[k.toNat]?=some y){f:eH->Res β}(hf:(f y).sat Q):(idx aE s.1 k f).sat Q:=by
 rw [hn];exact gg k0 hy hf
theorem Pst.nd{m b how:Int}{s s':RunT}(h:Pst C m b s how s'):s'.1=C.N:=by
 rcases h with ⟨_,h⟩|⟨_,h⟩
 ·exact h.nd
 ·exact h.run.nd
theorem CZ{o:sW}{l:List (List UInt8)}(hv:bw o.2.2):(R.jc o l).sat λr=>bw r.2.2.2/\(r.1=true->Ne (α:=Int) (o.1) (5))/\(r.1=false->Eq (α:=Int) (r.2.1) (o.1)\/(Ne (α:=Int) (o.1) (5)/\Ne (α:=Int) (r.2.1) (5))):=by
 unfold R.jc;refine aA λ_=>bH (λe=>aD ⟨hv,λ_=>?_,λe=>by cases e⟩) λ_=>aB (R:=λb=>b=true->o.1=1) (bH (λe=>aD λ_=>e) λ_=>aD λe=>by cases e) λb hb=>aG (λe=>aD ⟨ba,(λe=>by cases e),λ_=>.inr ⟨?_,show (0:Int)≠5 by decide⟩⟩) λ_=>aB (R:=λb=>b=true->o.1=2) (bH (λe=>aG (λ_=>aD λ_=>e) λ_=>q_b λ_=>aD λ_=>e) λ_=>aD λe=>by cases e) λb hb=>aG (λe=>aD ⟨ba,λ_=>?_,λe=>by cases e⟩) λ_=>aD ⟨hv,(λe=>by cases e),λ_=>.inl rfl⟩
 ·exact jC e (by decide)
 ·exact jC (hb e) (by decide)
 ·exact jC (hb e) (by decide)
end
section
variable {C:Cx}{n:Nat}{G:ai}{m k:Int}{s:RunT}{x:eH}{e:mM}{l:List (List UInt8)}{a:List UInt8}{v:dZ}
theorem DH(hc:jY C)(hG:GOk C n G)(p:Pre C (n+1) 2 0 m s)(hx:Nk C.N x)(he:bw e.2.1):(R.eval_run_list G s x.2.2.2.2.2 e).sat (nx C m s.2.2.2.2.2.2.1 s):=by
 unfold R.eval_run_list;obtain ⟨i,hi⟩:=hx;have hk:=hc.fw.one _ x hi;have hg:=hc.tr.nod _ x hi;have pm:=p.hm;refine aA λ_=>aB (fP (Q:=zG C m s.2.2.2.2.2.2.1 s λs'=>Aft C m s.2.2.2.2.2.2.1 s s') (λy=>y.1) (x.2.2.2.2.2).length (by omega) (λy=>Aft C m s.2.2.2.2.2.2.1 s y.2) (by simp) (by simp) (Aft.refl p.run) λy y0 y1 yI=>?_) λr hr=>Ct hr λs' hs'=>aD ⟨ba,.ok hs'⟩;obtain ⟨j,s1⟩:=y;have y0:0<=j:=y0;have yI:Aft C m s.2.2.2.2.2.2.1 s s1:=yI;refine dt (λhj=>?_) λ_=>aD yI;have hj:j < ((x.2.2.2.2.2).length:Int):=hj;refine bP y0 (by show _ < (x.2.2.2.2.2).length;omega) λk hk' _=>?_;exact aB (hG.statement (l:=[]) (p.go yI (by decide) (by omega)) (hg.nd1 hk') he yI.run.d0) λr hr=>aA λ_=>bZ (λ_=>aD ⟨hr.1,Pst.lF yI hr.2⟩) λe=>aD ⟨rfl,hj,(Pst.lF yI hr.2).a0 e⟩
theorem wY(hc:jY C)(hG:GOk C n G)(p:Pre C (n+1) 1 0 m s)(hn:Nd C.N 1 k)(he:bw e.2.1)(hl:LE.le (α:=Int) ((l.length:Int)) (s.2.2.2.2.2.1)):(R.eval_run_statement G s k e l).sat (nx C m (HAdd.hAdd (α:=Int) (β:=Int) (γ:=Int) (s.2.2.2.2.2.2.1) (1)) s):=by
 unfold R.eval_run_statement;refine aA λ_=>tS hc p (λs1 h1=>aA λ_=>fS rfl (aD ⟨ba,.inl ⟨rfl,h1⟩⟩)) λs1 e2 e3 e4 h=>aA λ_=>fb rfl ?_;have p1:Pre C n 4 100300000 (m-134217728) s1:=p.deep h e3 (by decide) (by decide) (by decide);exact aB (hG.act p1 hn he (by rw [e3];omega)) λr ⟨v,g⟩=>aA λ_=>aD ⟨v,yr p.run e2 e3 e4 hc.D g (by omega)⟩
theorem CH(hc:jY C)(hG:GOk C n G)(p:Pre C (n+1) 2 0 m s)(hn:Nd C.N 3 k)(he:bw e.2.1):(R.eval_run_asked G s k e).sat (BPst C m (HAdd.hAdd (α:=Int) (β:=Int) (γ:=Int) (s.2.2.2.2.2.2.1) (1)) s):=by
 unfold R.eval_run_asked;have pm:=p.hm;exact aA λ_=>aB (hG.gx (p.go (.refl p.run) (by decide) (by omega)) hn he) λr ⟨v,g⟩=>aA λ_=>bZ (λ_=>aD ⟨v,g⟩) λe=>q_b λ_=>aD ⟨ba,.ok (g.a0 e)⟩
theorem BI(hc:jY C)(hG:GOk C n G)(p:Pre C (n+1) 2 0 m s)(hx:Nk C.N x)(hk:x.1=5\/x.1=6)(he:bw e.2.1):(R.eval_run_decls G s x.2.2.2.2.2 e).sat (nx C m s.2.2.2.2.2.2.1 s):=by
 unfold R.eval_run_decls;obtain ⟨i,hi⟩:=hx;have hl:=hc.fw.one _ x hi;have hg:=hc.tr.nod _ x hi;have pm:=p.hm;refine aA λ_=>aB (fP (Q:=zG C m s.2.2.2.2.2.2.1 s λs'=>Aft C m s.2.2.2.2.2.2.1 s s') (λy=>y.1) (x.2.2.2.2.2).length (by omega) (λy=>Aft C m s.2.2.2.2.2.2.1 s y.2) (by simp) (by simp) (Aft.refl p.run) λy y0 y1 yI=>?_) λr hr=>Ct hr λs' hs'=>aD ⟨ba,.ok hs'⟩;obtain ⟨j,s1⟩:=y;have y0:0<=j:=y0;have yI:Aft C m s.2.2.2.2.2.2.1 s s1:=yI;refine dt (λhj=>?_) λ_=>aD yI;have hj:j < ((x.2.2.2.2.2).length:Int):=hj;refine bP y0 (by show _ < (x.2.2.2.2.2).length;omega) λd hd _=>?_
 have hsrt:srt (shp x.1 (x.2.2.2.2.2).length) j.toNat=5:=by
  rcases hk with e|e<;>rw [e]<;>unfold srt shp<;>(cases j.toNat<;>rfl)
 obtain ⟨d0,z,hz,hf⟩:=hg.nd hd 5 hsrt;have hz7:z.1=7:=eq_of_beq hf;have hgz:=hc.tr.nod _ z hz;refine jZ yI.run d0 hz (aB (R:=zG C m s.2.2.2.2.2.2.1 s λr=>Aft C m s.2.2.2.2.2.2.1 s r.1/\bw r.2) (dt (λh0=>?_) λ_=>aD ⟨yI,ba⟩) λr hr=>?_)
 ·have h0:0 < ((z.2.2.2.2.2).length:Int):=h0;refine bP (by decide) (by show 0 < (z.2.2.2.2.2).length;omega) λq hq _=>?_;have hq:z.2.2.2.2.2[0]?=some q:=hq
  have hsz:srt (shp z.1 (z.2.2.2.2.2).length) 0=3:=by
   rw [hz7];unfold srt shp;rw [show (min ((z.2.2.2.2.2).length:Int) 1).toNat=1 by omega];rfl
  exact aB (hG.gx (p.go yI (by decide) (by omega)) (hgz.nd hq 3 hsz) he) λr ⟨v,g⟩=>aA λ_=>bZ (λ_=>aD ⟨v,Pst.lF yI g⟩) λe=>aD ⟨(Pst.lF yI g).a0 e,v⟩
 ·refine sum_di hr (λr ⟨a1,v1⟩=>aB (xF a1.run (by omega) v1) λr2 a2=>aA λ_=>aD ⟨rfl,hj,a1.cat a2⟩) λz hz=>hz
theorem As(hc:jY C)(hG:GOk C n G)(p:Pre C (n+1) 3 0 m s)(hx:Nk C.N x)(hk:x.1=8)(he:bw e.2.1):(R.eval_run_choice G s x.2.2.2.2.2 e).sat (nx C m s.2.2.2.2.2.2.1 s):=by
 unfold R.eval_run_choice;obtain ⟨i,hi⟩:=hx;have hg:=hc.tr.nod _ x hi;have pm:=p.hm
 have hlen:∀ q:Int,(List.take (min (max q 2) 3).toNat [(3:Int),2,2]).length>=2:=λq=>by simp;omega
 have h2:2<=(x.2.2.2.2.2).length:=by
  have:=hg.len;rw [hk] at this;exact Nat.le_trans (hlen _) this
 have a0:=Aft.refl p.run
 have hs0:srt (shp x.1 (x.2.2.2.2.2).length) 0=3:=by
  rw [hk];show (List.take (min (max ((x.2.2.2.2.2).length:Int) 2) 3).toNat [(3:Int),2,2]).getD 0 0=3;obtain ⟨q,hq⟩:∃ q,(min (max ((x.2.2.2.2.2).length:Int) 2) 3).toNat=q+1:=⟨(min (max ((x.2.2.2.2.2).length:Int) 2) 3).toNat-1,by omega⟩;rw [hq];rfl
 refine aA λ_=>bP (by decide) (by show 0 < (x.2.2.2.2.2).length;omega) λk0 hk0 _=>aB (hG.asked (p.go a0 (by decide) (by omega)) (hg.nd hk0 3 hs0) he) λr ⟨v,g⟩=>aA λ_=>bZ (λ_=>aD ⟨v,Pst.lF a0 g⟩) λe0=>?_;have a1:=(Pst.lF a0 g).a0 e0;have st:∀ {k:Int},Nd C.N 1 k->(G.eval_run_statement r.2 k e []).sat (nx C m s.2.2.2.2.2.2.1 s):=λhn=>bG (hG.statement (l:=[]) (p.go a1 (by decide) (by omega)) hn he a1.run.d0) λ_ hr=>⟨hr.1,Pst.lF a1 hr.2⟩;refine aG (λ_=>bP (by decide) (by show 1 < (x.2.2.2.2.2).length;omega) λk1 hk1 _=>aW (st (hg.nd1 hk1))) λ_=>dt (λh=>bP (by decide) (by have h:2 < ((x.2.2.2.2.2).length:Int):=h;show 2 < (x.2.2.2.2.2).length;omega) λk1 hk1 _=>aW (st (hg.nd1 hk1))) λ_=>aD ⟨ba,.ok a1⟩
theorem CA(hc:jY C)(hG:GOk C n G)(p:Pre C (n+1) 3 0 m s)(hx:Nk C.N x)(hk:x.1=9)(he:bw e.2.1):(R.eval_run_while G s x.2.2.2.2.2 e l).sat (nx C m s.2.2.2.2.2.2.1 s):=by
 unfold R.eval_run_while;obtain ⟨i,hi⟩:=hx;have hg:=hc.tr.nod _ x hi;have pm:=p.hm;have hF:=hc.F;have hb0:=p.run.b0;obtain ⟨k0,hk0,n0⟩:=iX hg 0 3 (by rw [hk];simp [shp]) (by rw [hk];rfl);obtain ⟨k1,hk1,n1⟩:=iX hg 1 2 (by rw [hk];simp [shp]) (by rw [hk];rfl);refine aA λ_=>aB (kI (Q:=Av C m s.2.2.2.2.2.2.1 s) (λy=>((HSub.hSub (α:=Int) (β:=Int) (γ:=Int) (C.F) (y.2.2.2.2.2.2.1))).toNat) (by show ((HSub.hSub (α:=Int) (β:=Int) (γ:=Int) (C.F) (s.2.2.2.2.2.2.1))).toNat<=_;omega) (λy=>Aft C m s.2.2.2.2.2.2.1 s y) (Aft.refl p.run) λs1 yI=>?_) λr hr=>aD hr;refine gg (by decide) hk0 (aB (hG.asked (p.go yI (by decide) (by omega)) n0 he) λr1 ⟨v1,g1⟩=>aA λ_=>aB (R:=λb=>b=false->Eq (α:=Int) (r1.1.2.1) (0)) (bZ (λ_=>aD λe=>by cases e) λe=>aD λ_=>e) λb hb=>aG (λ_=>aD ⟨v1,Pst.lF yI g1⟩) λeb=>?_);have a1:=(Pst.lF yI g1).a0 (hb eb);have hlt:LE.le (α:=Int) ((HAdd.hAdd (α:=Int) (β:=Int) (γ:=Int) (s1.2.2.2.2.2.2.1) (1))) (r1.2.2.2.2.2.2.2.1):=(g1.a0 (hb eb)).bg;refine gg (by decide) hk1 (aB (hG.statement (l:=[]) (p.go a1 (by decide) (by omega)) n1.any he a1.run.d0) λr2 ⟨v2,g2⟩=>aA λ_=>aB (CZ v2) λr3 ⟨v3,t1,t2⟩=>aA λ_=>aG (λe3=>aD ?_) λe3=>aD ⟨v3,?_⟩)
 ·have a2:=(Pst.lF a1 g2).aft (t1 e3);have h2:LE.le (α:=Int) ((HAdd.hAdd (α:=Int) (β:=Int) (γ:=Int) (r1.2.2.2.2.2.2.2.1) (1))) (r2.2.2.2.2.2.2.2.1):=(g2.aft (t1 e3)).bg;have h3:=a2.run.bg;have h0:=yI.run.b0;refine ⟨?_,a2⟩;show ((HSub.hSub (α:=Int) (β:=Int) (γ:=Int) (C.F) (r2.2.2.2.2.2.2.2.1))).toNat < ((HSub.hSub (α:=Int) (β:=Int) (γ:=Int) (C.F) (s1.2.2.2.2.2.2.1))).toNat;omega
 ·rcases t2 e3 with e4|⟨e4,e5⟩
  ·show Pst C m s.2.2.2.2.2.2.1 s r3.2.1 r2.2
   rw [show r3.2.1=r2.1.1 from e4]
   exact Pst.lF a1 g2
  ·exact (Pst.lF a1 g2).how e4 e5
theorem B1(hc:jY C)(hG:GOk C n G)(p:Pre C (n+1) 2 100300000 m s)(hn:Nd C.N 1 k)(hv:bw v)(he:bw e.2.1):(R.eval_run_catch G s a k v e).sat (nx C (m+10) s.2.2.2.2.2.2.1 s):=by
 unfold R.eval_run_catch;have pm:=p.hm;have a0:=Aft.refl p.run;refine aA λ_=>dK (aG (λ_=>aW (bG (hG.statement (l:=[]) (p.go a0 (by decide) (by omega)) hn he a0.run.d0) λ_ hr=>⟨hr.1,(Pst.lF a0 hr.2).up (by omega)⟩)) λ_=>aB (qU p.run (by omega)) λr1 ⟨g1,_⟩=>aA λ_=>bZ (λ_=>aD ⟨ba,g1.up (by omega)⟩) λe1=>?_);have a1:=g1.a0 e1;refine aB (qJ a1.run (by omega) hv) λr2 a2=>aA λ_=>?_;have a3:=a1.cat a2;exact aW (bG (hG.statement (l:=[]) (p.go a3 (by decide) (by omega)) hn he a3.run.d0) λ_ hr=>⟨hr.1,(Pst.lF a3 hr.2).up (by omega)⟩)
theorem FR(hc:jY C)(hG:GOk C n G)(p:Pre C (n+1) 3 100300000 m s)(hx:Nk C.N x)(hk:x.1=16)(he:bw e.2.1):(R.eval_run_try G s x.2.2.2.2.2 e).sat (nx C (m+100300000) s.2.2.2.2.2.2.1 s):=by
 unfold R.eval_run_try;obtain ⟨i,hi⟩:=hx;have hg:=hc.tr.nod _ x hi;have pm:=p.hm;have a0:=Aft.refl p.run;obtain ⟨k0,hk0,n0⟩:=iX hg 0 8 (by rw [hk];simp [shp]) (by rw [hk];rfl);obtain ⟨k1,hk1,n1⟩:=iX hg 1 11 (by rw [hk];simp [shp]) (by rw [hk];rfl);obtain ⟨k2,hk2,n2⟩:=iX hg 2 12 (by rw [hk];simp [shp]) (by rw [hk];rfl);have n1':=n1;have n2':=n2;obtain ⟨k10,y1,hy1,_⟩:=n1';obtain ⟨k20,y2,hy2,_⟩:=n2';refine aA λ_=>gg (by decide) hk0 (aB (hG.statement (l:=[]) (p.go a0 (by decide) (by omega)) n0.any he a0.run.d0) λr1 ⟨v1,g1⟩=>aA λ_=>?_);have g1:=Pst.lF a0 g1;refine aB (R:=Av C (m+10) s.2.2.2.2.2.2.1 s) (gg (by decide) hk1 (Cw g1.nd k10 hy1 (aB (R:=λb=>b=true->Eq (α:=Int) (r1.1.1) (4)/\y1.1=17) (bH (λe=>aD λe'=>⟨e,eq_of_beq e'⟩) λ_=>aD λe=>by cases e) λb hb=>aG (λeb=>?_) λ_=>aD ⟨v1,g1.up (by omega)⟩))) λr2 hr2=>?_
 ·obtain ⟨e1,e2⟩:=hb eb;have a1:=g1.aft (jC e1 (by decide));have hgy:=hc.tr.nod _ y1 hy1;obtain ⟨q,hq,nq⟩:=iX hgy 0 8 (by rw [e2];simp [shp]) (by rw [e2];rfl);exact gg (by decide) hq (aB (hG.Fq (p.go a1 (by decide) (by omega)) nq.any v1 he) λr ⟨v,g⟩=>aA λ_=>aD ⟨v,Pst.cat a1 g⟩)
 ·obtain ⟨s2,o⟩:=r2;obtain ⟨v2,g2⟩:=hr2;have v2:bw o.2.2:=v2;have g2:Pst C (m+10) s.2.2.2.2.2.2.1 s o.1 s2:=g2;refine aB (R:=λb=>b=false->Ne (α:=Int) (o.1) (5)) (bH (λ_=>aD λe=>by cases e) λh5=>gg (by decide) hk2 (Cw g2.nd k20 hy2 (aD λ_=>h5))) λb hb=>aG (λ_=>aD ⟨v2,g2.up (by omega)⟩) λeb=>?_;have a2:=g2.aft (hb eb);exact gg (by decide) hk2 (aB (hG.statement (l:=[]) (p.go a2 (by decide) (by omega)) n2.any he a2.run.d0) λr3 ⟨v3,g3⟩=>aA λ_=>bZ (λ_=>aD ⟨v3,(Pst.lF a2 g3).up (by omega)⟩) λe3=>aD ⟨v2,.inr ⟨hb eb,((Pst.lF a2 g3).a0 e3).up (by omega)⟩⟩)
end
end Go.Mach

set_option maxRecDepth 100000
namespace Go.Mach
open Res
abbrev oq(s:RunT)(H:qn):RunT:=(s.1,(s.2.1,(s.2.2.1,(s.2.2.2.1,(H,s.2.2.2.2.2)))))
theorem fit10{k:Int}(h:oT 10 k=true)(h1:k≠11)(h2:¬ (k=5\/k=6)):oT 3 k=true:=by
 have h3:k≠5:=λe=>h2 (.inl e);have h4:k≠6:=λe=>h2 (.inr e);simpa [oT,h1,h3,h4] using h
theorem fit9{k:Int}(h:oT 9 k=true)(h1:k≠11):oT 3 k=true:=by simpa [oT,h1] using h
theorem DQ{kd how:Int}{v:dZ}:(R.fQ kd v how).sat λr=>r.2.2=v/\(how≠0->Eq (α:=Int) (r.1) (how))/\(how=0->Eq (α:=Int) (r.1) (kd)):=by
 unfold R.fQ;exact aA λ_=>bZ (λh=>aD ⟨rfl,λ_=>rfl,λe=>absurd e h⟩) λh=>aD ⟨rfl,λe=>absurd h e,λ_=>rfl⟩
theorem take1{l:List Int}{i:Nat}{q:Int}(h:l[i]?=some q)(h0:i=0):(List.take (min (l.length:Int) 1).toNat [(3:Int)]).getD 0 0=3:=by
 have:=(List.getElem?_eq_some_iff.1 h).1;rw [show (min (l.length:Int) 1).toNat=1 by omega];rfl
section
variable {C:Cx}{n:Nat}{G:ai}{m k:Int}{s:RunT}{x:eH}{e:mM}{l:List (List UInt8)}{a:List UInt8}{v:dZ}
theorem zL{kd:Int}(hk:kd≠5){b:Int}{r:(dZ×Int)×RunT}(h:cp C m b s r):(R.fQ kd r.1.1 r.1.2).sat λo=>nx C m b s (o,r.2):=bG DQ λo ⟨h1,h2,h3⟩=>by
 refine ⟨?_,?_⟩
 ·show bw o.2.2;rw [h1];exact h.1
 ·show Pst C m b s o.1 r.2;by_cases e:r.1.2=0
  ·rw [show o.1=kd from h3 e]
   exact .inr ⟨hk,h.2.a0 e⟩
  ·rw [show o.1=r.1.2 from h2 e]
   exact h.2
theorem CK(hc:jY C)(hG:GOk C n G)(p:Pre C (n+1) 3 100300000 m s)(k0:0<=k)(hx:C.N[k.toNat]?=some x)(hk:x.1=4)(he:bw e.2.1):(R.eval_run_block G s k e).sat (nx C (m+100300000) s.2.2.2.2.2.2.1 s):=by
 unfold R.eval_run_block;have pm:=p.hm;have a0:=Aft.refl p.run;have hn:s.1=C.N:=p.run.nd
 have hd:(R.ei s.1 k).sat λ_=>True:=by
  rw [hn];exact bG (zF hc.tr hc.fw k0 (List.getElem?_eq_some_iff.1 hx).1) λ_ _=>trivial
 refine aA λ_=>aB (R:=zG C (m+100300000) s.2.2.2.2.2.2.1 s λr:RunT×mM=>Aft C (m+100300000) s.2.2.2.2.2.2.1 s r.1/\bw r.2.2.1) ?_ λr hr=>Ct hr λr ⟨a1,v1⟩=>jZ a1.run k0 hx (aW (bG (hG.list (p.go a1 (by decide) (by omega)) ⟨_,hx⟩ v1) λ_ hr=>⟨hr.1,Pst.cat a1 hr.2⟩));refine aB hd λ_ _=>aA λ_=>dt (λ_=>aB (qU p.run (by omega)) λr1 ⟨g1,_⟩=>aA λ_=>bZ (λ_=>aD ⟨ba,g1.up (by omega)⟩) λe1=>?_) λ_=>aD ⟨a0.up (by omega),he⟩;have a1:=g1.a0 e1;exact aB (rS hc a1.run (by omega) k0 hx he) λr2 ⟨v2,g2⟩=>aA λ_=>bZ (λ_=>aD ⟨v2,(Pst.cat a1 g2).up (by omega)⟩) λe2=>aD ⟨((Pst.cat a1 g2).a0 e2).up (by omega),he⟩
theorem CL(hc:jY C)(hG:GOk C n G)(p:Pre C (n+1) 2 100300000 m s)(hn:Nd C.N 10 k)(he:bw e.2.1):(R.eval_run_first G s k e).sat (FPst C (m+100000) s.2.2.2.2.2.2.1 s):=by
 unfold R.eval_run_first;have pm:=p.hm;have a0:=Aft.refl p.run;have hn':=hn;obtain ⟨k0,x,hx,hf⟩:=hn';have hl:=hc.fw.one _ x hx;have hg:=hc.tr.nod _ x hx;refine aA λ_=>jZ p.run k0 hx (bH (λ_=>aD ⟨he,ba,(Pst.ok a0).up (by omega)⟩) λh11=>oI (λh56=>aB (qU p.run (by omega)) λr1 ⟨g1,_⟩=>aA λ_=>bZ (λ_=>aD ⟨he,ba,g1.up (by omega)⟩) λe1=>?_) λh56=>?_)
 ·have a1:=g1.a0 e1;refine aB (fP (Q:=λH:qn=>Aft C (m+20000) s.2.2.2.2.2.2.1 s (oq r1.2 H)) (λy=>y.1) (x.2.2.2.2.2).length (by omega) (λw=>Aft C (m+w.1) s.2.2.2.2.2.2.1 s (oq r1.2 w.2)) (by simp) (by simp) (by show Aft C (m+0) _ _ (oq r1.2 r1.2.2.2.2.2.1);rw [Int.add_zero];exact a1) λw w0 w1 wI=>?_) λH hH=>?_
  ·obtain ⟨j,H⟩:=w;have w0:0<=j:=w0;have w1:j<=((x.2.2.2.2.2).length:Int):=w1;have wI:Aft C (m+j) s.2.2.2.2.2.2.1 s (oq r1.2 H):=wI;refine dt (λhj=>?_) λ_=>aD (wI.up (by omega));have hj:j < ((x.2.2.2.2.2).length:Int):=hj;refine bP w0 (by show _ < (x.2.2.2.2.2).length;omega) λq hq _=>?_;obtain ⟨q0,z,hz,_⟩:=hg.kid _ q hq;refine jZ a1.run q0 hz (aB (qJ wI.run (by omega) ba) λr hr=>aA λ_=>aD ⟨rfl,hj,?_⟩);show Aft C (m+w6 (j+1)) _ _ _;rw [wrap64 (n:=j+1) (by omega),<- Int.add_assoc];exact wI.cat hr
  ·exact aB (hG.statement (l:=[]) (p.go hH (by decide) (by omega)) hn.any he hH.run.d0) λr ⟨v,g⟩=>aA λ_=>aD ⟨he,v,(Pst.lF hH g).up (by omega)⟩
 ·exact aB (hG.gx (p.go a0 (by decide) (by omega)) ⟨k0,x,hx,fit10 hf h11 h56⟩ he) λr ⟨v,g⟩=>aA λ_=>aB (zL (kd:=0) (by decide) (r:=r) ⟨v,(Pst.lF a0 g).up (m':=m+100000) (by omega)⟩) λo ho=>aA λ_=>aD ⟨he,ho.1,ho.2⟩
theorem EL(hc:jY C)(hG:GOk C n G)(p:Pre C (n+1) 3 100300000 m s)(hx:Nk C.N x)(hk:x.1=10)(he:bw e.2.1):(R.eval_run_loop G s x.2.2.2.2.2 e l).sat (nx C (m+100300000) s.2.2.2.2.2.2.1 s):=by
 unfold R.eval_run_loop;obtain ⟨i,hi⟩:=hx;have hg:=hc.tr.nod _ x hi;have pm:=p.hm;have hF:=hc.F;have a0:=Aft.refl p.run;obtain ⟨k0,hk0,n0⟩:=iX hg 0 10 (by rw [hk];simp [shp]) (by rw [hk];rfl);obtain ⟨k1,hk1,n1⟩:=iX hg 1 9 (by rw [hk];simp [shp]) (by rw [hk];rfl);obtain ⟨k2,hk2,n2⟩:=iX hg 2 9 (by rw [hk];simp [shp]) (by rw [hk];rfl);obtain ⟨k3,hk3,n3⟩:=iX hg 3 2 (by rw [hk];simp [shp]) (by rw [hk];rfl);have n0':=n0;have n1':=n1;have n2':=n2;obtain ⟨k00,y0,hy0,_⟩:=n0';obtain ⟨k10,y1,hy1,f1⟩:=n1';obtain ⟨k20,y2,hy2,f2⟩:=n2';have turn:∀ {s1:RunT}{e1:mM}{c:Bool},Aft C (m+100000) s.2.2.2.2.2.2.1 s s1->bw e1.2.1->(br c ((R.dv s1 e1).bind λr=>given (dv.g.o r) (br (!(r.1.2 == 0)) (Res.ok (.inr (r.2,(r.1.2,(([]:List UInt8),(0,((0,0),((false,([]:List Int)),(([]:List Int),0)))))))):Res ((RunT×mM) ⊕ (RunT×sW))) (Res.ok (.inl (r.2,r.1.1))))) (Res.ok (.inl (s1,e1)))).sat (zG C (m+100000) s.2.2.2.2.2.2.1 s λr:RunT×mM=>Aft C (m+100000) s.2.2.2.2.2.2.1 s r.1/\LE.le (α:=Int) (s1.2.2.2.2.2.2.1) (r.1.2.2.2.2.2.2.1)/\bw r.2.2.1):=λ{s1 e1 c} a1 v1=>aG (λ_=>aB (HD a1.run (by omega)) λr ⟨t1,t2,_⟩=>aA λ_=>bZ (λ_=>aD ⟨ba,Pst.cat a1 t2⟩) λe2=>aD ⟨(Pst.cat a1 t2).a0 e2,(t2.a0 e2).bg,by show bw r.1.1.2.1;rw [t1];exact v1⟩) λ_=>aD ⟨a1,Int.le_refl _,v1⟩
 refine aA λ_=>gg (by decide) hk0 (aB (hG.first (p.go a0 (by decide) (by omega)) n0 he) λr1 ⟨v1,v2,g1⟩=>aA λ_=>bZ (λ_=>aD ⟨v2,g1.up (by omega)⟩) λe1=>?_)
 have a1:=g1.a0 e1;refine gg (by decide) hk0 (jZ a1.run k00 hy0 (aB (turn a1 v1) λr hr=>Ct (m:=m+100300000) (P:=λr:RunT×mM=>Aft C (m+100000) s.2.2.2.2.2.2.1 s r.1/\bw r.2.2.1) ?_ λr ⟨a2,v3⟩=>?_))
 ·cases r with
  |inl r=>exact ⟨hr.1,hr.2.2⟩
  |inr z=>exact ⟨hr.1,hr.2.up (by omega)⟩
 refine aB (kI (Q:=Av C (m+100300000) s.2.2.2.2.2.2.1 s) (λy=>((HSub.hSub (α:=Int) (β:=Int) (γ:=Int) (C.F) (y.1.2.2.2.2.2.2.1))).toNat) (by have:=a2.run.b0;show ((HSub.hSub (α:=Int) (β:=Int) (γ:=Int) (C.F) (r.1.2.2.2.2.2.2.1))).toNat<=_;omega) (λy=>Aft C (m+100000) s.2.2.2.2.2.2.1 s y.1/\bw y.2.2.1) ⟨a2,v3⟩ λy ⟨yI,yv⟩=>?_) λr hr=>aD hr;obtain ⟨s1,e1⟩:=y;have yI:Aft C (m+100000) s.2.2.2.2.2.2.1 s s1:=yI;have yv:bw e1.2.1:=yv;refine aB (R:=zG C (m+100000) s.2.2.2.2.2.2.1 s λs2:RunT=>Aft C (m+100000) s.2.2.2.2.2.2.1 s s2/\LE.le (α:=Int) (s1.2.2.2.2.2.2.1) (s2.2.2.2.2.2.2.1)) (gg (by decide) hk1 (jZ yI.run k10 hy1 (pA (λh11=>gg (by decide) hk1 (aB (hG.asked (p.go yI (by decide) (by omega)) ⟨k10,y1,hy1,fit9 f1 h11⟩ yv) λr1 ⟨v1,g1⟩=>aA λ_=>aB (R:=λb=>b=false->Eq (α:=Int) (r1.1.2.1) (0)) (bZ (λ_=>aD λe=>by cases e) λe=>aD λ_=>e) λb hb=>aG (λ_=>aD ⟨v1,Pst.lF yI g1⟩) λeb=>aD ⟨(Pst.lF yI g1).a0 (hb eb),?_⟩)) λ_=>aD ⟨yI,Int.le_refl _⟩))) λr hr=>sum_d hr (λs2 ⟨a3,b3⟩=>?_) λz hz=>⟨hz.1,hz.2.up (by omega)⟩
 ·have h:LE.le (α:=Int) ((HAdd.hAdd (α:=Int) (β:=Int) (γ:=Int) (s1.2.2.2.2.2.2.1) (1))) (r1.2.2.2.2.2.2.2.1):=(g1.a0 (hb eb)).bg;show LE.le (α:=Int) (s1.2.2.2.2.2.2.1) (r1.2.2.2.2.2.2.2.1);omega
 refine gg (by decide) hk3 (aB (hG.statement (l:=[]) (p.go a3 (by decide) (by omega)) n3.any yv a3.run.d0) λr2 ⟨v2,g2⟩=>aA λ_=>aB (CZ v2) λr3 ⟨v3,t1,t2⟩=>aA λ_=>dK (aG (λe3=>?_) λe3=>aD ⟨v3,?_⟩))
 ·have g3:=g2.aft (t1 e3);have a4:=(Pst.lF a3 g2).aft (t1 e3);have b4:LE.le (α:=Int) ((HAdd.hAdd (α:=Int) (β:=Int) (γ:=Int) (s2.2.2.2.2.2.2.1) (1))) (r2.2.2.2.2.2.2.2.1):=g3.bg
  have fin:∀ {s5:RunT},Aft C (m+100000) s.2.2.2.2.2.2.1 s s5->LE.le (α:=Int) (r2.2.2.2.2.2.2.2.1) (s5.2.2.2.2.2.2.1)->((HSub.hSub (α:=Int) (β:=Int) (γ:=Int) (C.F) (s5.2.2.2.2.2.2.1))).toNat < ((HSub.hSub (α:=Int) (β:=Int) (γ:=Int) (C.F) (s1.2.2.2.2.2.2.1))).toNat:=λ{s5} a5 h=>by
   have h1:=a5.run.bg;omega
  refine aB (turn a4 yv) λr hr=>sum_d hr (λr ⟨a5,b5,v5⟩=>?_) λz hz=>⟨hz.1,hz.2.up (by omega)⟩;obtain ⟨s5,e5⟩:=r;have a5:Aft C (m+100000) s.2.2.2.2.2.2.1 s s5:=a5;have b5:LE.le (α:=Int) (r2.2.2.2.2.2.2.2.1) (s5.2.2.2.2.2.2.1):=b5;have v5:bw e5.2.1:=v5;refine gg (by decide) hk2 (jZ a5.run k20 hy2 (bH (λ_=>aD ⟨fin a5 b5,a5,v5⟩) λh11=>gg (by decide) hk2 (aB (hG.gx (p.go a5 (by decide) (by omega)) ⟨k20,y2,hy2,fit9 f2 h11⟩ v5) λr6 ⟨v6,g6⟩=>aA λ_=>bZ (λ_=>aD ⟨v6,(Pst.lF a5 g6).up (by omega)⟩) λe6=>aD ⟨fin ((Pst.lF a5 g6).a0 e6) ?_,(Pst.lF a5 g6).a0 e6,v5⟩)));have h6:=(g6.a0 e6).bg;show LE.le (α:=Int) (r2.2.2.2.2.2.2.2.1) (r6.2.2.2.2.2.2.2.1);omega
 ·rcases t2 e3 with e4|⟨e4,e5⟩
  ·show Pst C (m+100300000) s.2.2.2.2.2.2.1 s r3.2.1 r2.2
   rw [show r3.2.1=r2.1.1 from e4]
   exact (Pst.lF a3 g2).up (by omega)
  ·exact ((Pst.lF a3 g2).how e4 e5).up (by omega)
theorem Fo(hc:jY C)(hG:GOk C n G)(p:Pre C (n+1) 4 100300000 m s)(hn:Nd C.N 1 k)(he:bw e.2.1)(hl:LE.le (α:=Int) ((HAdd.hAdd (α:=Int) (β:=Int) (γ:=Int) ((l.length:Int)) (1))) (s.2.2.2.2.2.1)):(R.eval_run_act G s k e l).sat (nx C (m+100300000) s.2.2.2.2.2.2.1 s):=by
 unfold R.eval_run_act;obtain ⟨k0,x,hx,_⟩:=hn;have hg:=hc.tr.nod _ x hx;have pm:=p.hm;have a0:=Aft.refl p.run;have hD:=hc.D;have hdp:=p.run.dp;have ex:∀ {q:Int},Nd C.N 3 q->(G.eval_run_expression s q e).sat (cp C (m+100300000) s.2.2.2.2.2.2.1 s):=λhn=>bG (hG.gx (p.go a0 (by decide) (by omega)) hn he) λ_ hr=>⟨hr.1,(Pst.lF a0 hr.2).up (by omega)⟩;have up:∀ {F:Res (sW×RunT)}{B:sW×RunT->Bool},F.sat (nx C m s.2.2.2.2.2.2.1 s)->(F.bind λr=>given (B r) (Res.ok r)).sat (nx C (m+100300000) s.2.2.2.2.2.2.1 s):=λh=>aW (bG h λ_ hr=>⟨hr.1,hr.2.up (by omega)⟩);refine aA λ_=>jZ p.run k0 hx (bH (λh3=>?_) λ_=>bH (λh4=>?_) λ_=>oI (λh56=>?_) λ_=>bH (λh8=>?_) λ_=>bH (λh9=>?_) λ_=>bH (λh10=>?_) λ_=>bH (λ_=>aD ⟨ba,.inr ⟨show (1:Int)≠5 by decide,a0.up (by omega)⟩⟩) λ_=>bH (λ_=>aD ⟨ba,.inr ⟨show (2:Int)≠5 by decide,a0.up (by omega)⟩⟩) λ_=>bH (λh14=>?_) λ_=>bH (λh15=>?_) λ_=>bH (λh16=>?_) λ_=>bH (λh18=>?_) λ_=>aD ⟨ba,(Pst.ok a0).up (by omega)⟩)
 ·obtain ⟨q,hq,nq⟩:=iX hg 0 3 (by rw [h3];simp [shp]) (by rw [h3];rfl);exact gg (by decide) hq (aB (ex nq) λr ⟨v,g⟩=>aA λ_=>bZ (λ_=>aD ⟨v,g⟩) λe0=>aD ⟨ba,.ok (g.a0 e0)⟩)
 ·exact aW (hG.block (p.go a0 (by decide) pm) k0 hx h4 he)
 ·exact up (hG.decls (p.go a0 (by decide) (by omega)) ⟨_,hx⟩ h56 he)
 ·exact up (hG.choice (p.go a0 (by decide) (by omega)) ⟨_,hx⟩ h8 he)
 ·exact up (hG.Ew (p.go a0 (by decide) (by omega)) ⟨_,hx⟩ h9 he)
 ·exact aW (hG.loop (p.go a0 (by decide) pm) ⟨_,hx⟩ h10 he)
 ·refine bH (λ_=>aD ⟨ba,.inr ⟨show (3:Int)≠5 by decide,a0.up (by omega)⟩⟩) λh0=>?_;have h0:((x.2.2.2.2.2).length:Int)≠0:=h0;refine bP (by decide) (by show 0 < (x.2.2.2.2.2).length;omega) λq hq _=>?_;have hq:x.2.2.2.2.2[0]?=some q:=hq
  have hs:srt (shp x.1 (x.2.2.2.2.2).length) 0=3:=by
   rw [h14];exact take1 hq rfl
  exact aB (ex (hg.nd hq 3 hs)) λr hr=>aA λ_=>aB (zL (by decide) hr) λo ho=>aA λ_=>aD ho
 ·obtain ⟨q,hq,nq⟩:=iX hg 0 3 (by rw [h15];simp [shp]) (by rw [h15];rfl);exact gg (by decide) hq (aB (ex nq) λr hr=>aA λ_=>aB (zL (by decide) hr) λo ho=>aA λ_=>aD ho)
 ·exact aW (hG.try_ (p.go a0 (by decide) pm) ⟨_,hx⟩ h16 he)
 ·obtain ⟨q,hq,nq⟩:=iX hg 0 2 (by rw [h18];simp [shp]) (by rw [h18];rfl);refine gg (by decide) hq (mQ (aA λ_=>ax (decide_eq_true ?_) (aB (hG.statement (l:=l++[x.2.1]) (p.go a0 (by decide) (by omega)) nq.any he ?_) λr ⟨v,g⟩=>aA λ_=>aB (R:=λb=>b=true->Eq (α:=Int) (r.1.1) (1)) (bH (λe=>aD λ_=>e) λ_=>aD λe=>by cases e) λb hb=>aG (λeb=>aD ⟨ba,?_⟩) λ_=>aD ⟨v,(Pst.lF a0 g).up (by omega)⟩)))
  ·show (l.length+1)*16<=2^47;omega
  ·show LE.le (α:=Int) (((l++[x.2.1]).length:Int)) (s.2.2.2.2.2.1);rw [List.length_append];simp;exact hl
  ·exact ((Pst.lF a0 g).how (jC (hb eb) (by decide)) (show (0:Int)≠5 by decide)).up (by omega)
end
end Go.Mach

set_option maxRecDepth 100000
namespace Go.Mach
open Res
section
variable {C:Cx}{n:Nat}{G:ai}{m k:Int}{s:RunT}{x:eH}{e:mM}{o:List UInt8}{v:dZ}
theorem vV(hc:jY C)(hG:GOk C n G)(p:Pre C (n+1) 1 0 m s)(hn:Nd C.N 3 k)(he:bw e.2.1):(R.eval_run_expression G s k e).sat (cp C m (HAdd.hAdd (α:=Int) (β:=Int) (γ:=Int) (s.2.2.2.2.2.2.1) (1)) s):=by
 unfold R.eval_run_expression;refine aA λ_=>tS hc p (λs1 h1=>aA λ_=>fS rfl (aD ⟨ba,.inl ⟨rfl,h1⟩⟩)) λs1 e2 e3 e4 h=>aA λ_=>fb rfl ?_;have p1:Pre C n 12 100300000 (m-134217728) s1:=p.deep h e3 (by decide) (by decide) (by decide);exact aB (hG.value p1 hn he) λr ⟨v,g⟩=>aA λ_=>aD ⟨v,yr p.run e2 e3 e4 hc.D g (by omega)⟩
theorem cp.lF{m1 m2 b1:Int}{s0:RunT}{r:(dZ×Int)×RunT}(a:Aft C m1 b1 s0 s)(g:cp C m2 (HAdd.hAdd (α:=Int) (β:=Int) (γ:=Int) (s.2.2.2.2.2.2.1) (1)) s r):cp C m2 b1 s0 r:=⟨g.1,Pst.lF a g.2⟩
theorem B9(hc:jY C)(hG:GOk C n G)(p:Pre C (n+1) 12 100300000 m s)(hn:Nd C.N 3 k)(he:bw e.2.1):(R.eval_run_value G s k e).sat (cp C (m+100300000) s.2.2.2.2.2.2.1 s):=by
 unfold R.eval_run_value;obtain ⟨k0,x,hx,hf⟩:=hn;have hf:=fit3 hf;have pm:=p.hm;have a0:=Aft.refl p.run;have rt:∀ {v:dZ},bw v->(Res.ok ((v,(0:Int)),s):Res ((dZ×Int)×RunT)).sat (cp C (m+100300000) s.2.2.2.2.2.2.1 s):=λhv=>aD ⟨hv,(Pst.ok a0).up (by omega)⟩;have up:∀ {F:Res ((dZ×Int)×RunT)}{B:(dZ×Int)×RunT->Bool}{m':Int},m'<=m+100300000->F.sat (cp C m' s.2.2.2.2.2.2.1 s)->(F.bind λr=>given (B r) (Res.ok r)).sat (cp C (m+100300000) s.2.2.2.2.2.2.1 s):=λhm h=>aW (bG h λ_ hr=>hr.up hm);refine aA λ_=>jZ p.run k0 hx (bH (λ_=>aB nw λr hr=>aA λ_=>rt (vk hr)) λn30=>bH (λ_=>aB qa λr hr=>aA λ_=>rt (vk hr)) λn31=>bH (λ_=>aB nI λr hr=>aA λ_=>rt hr.1) λn32=>bH (λ_=>up (by omega) (Ci p.run (by omega))) λn33=>oI (λ_=>aB lD λr hr=>aA λ_=>rt (vk hr)) λn34=>bH (λ_=>rt (.of (show (1:Int)≠5 by decide))) λn36=>bH (λ_=>dK (aG (λ_=>rt he) λ_=>up (by omega) (fR p.run))) λn37=>bH (λh38=>aW (hG.array (p.go a0 (by decide) pm) ⟨_,hx⟩ h38 he)) λn38=>bH (λh39=>aW (hG.object (p.go a0 (by decide) pm) ⟨_,hx⟩ h39 he)) λn39=>oI (λh=>up (by omega) (vB p.run (by omega) ⟨k0,x,hx,.inr h⟩ he)) λn41=>aW (hG.operation (p.go a0 (by decide) pm) k0 hx ⟨(by omega:LE.le (α:=Int) (43) (x.1)),hf.2.1⟩ he))
theorem FK(hc:jY C){i:Nat}(hx:C.N[i]?=some x)(hk:x.1=50\/x.1=51):∀ q∈List.drop 1 x.2.2.2.2.2,Nd C.N 3 q:=λq hq=>by
 obtain ⟨j,hj⟩:=List.getElem?_of_mem (List.mem_of_mem_drop hq);refine (hc.tr.nod _ x hx).nd hj 3 ?_
 rcases hk with e|e<;>rw [e]<;>(cases j with
  |zero=>rfl
  |succ j=>rfl)
theorem Br(hc:jY C)(hG:GOk C n G)(p:Pre C (n+1) 2 100300000 m s)(hx:Nk C.N x)(hk:x.1=38)(he:bw e.2.1):(R.eval_run_array G s x.2.2.2.2.2 e).sat (cp C (m+100300000) s.2.2.2.2.2.2.1 s):=by
 unfold R.eval_run_array;obtain ⟨i,hi⟩:=hx;have hl:=hc.fw.one _ x hi;have hg:=hc.tr.nod _ x hi;have pm:=p.hm;refine aA λ_=>aB (pN p.run (by omega) (.mk' 2 rfl (by decide)) rfl rfl ba) λr1 ⟨v1,g1⟩=>aA λ_=>bZ (λ_=>aD ⟨v1,g1.up (by omega)⟩) λe1=>?_;have a1:=g1.a0 e1;refine aB (fP (Q:=qC C (m+100300000) s.2.2.2.2.2.2.1 s λs'=>Aft C (m+100300000) s.2.2.2.2.2.2.1 s s') (λy=>y.1) (x.2.2.2.2.2).length (by omega) (λy=>Aft C (m+y.1) s.2.2.2.2.2.2.1 s y.2) (by simp) (by simp) (by show Aft C (m+0) _ _ r1.2;rw [Int.add_zero];exact a1) λy y0 y1 yI=>?_) λr hr=>oi hr λs' hs'=>aD ⟨v1,.ok hs'⟩;obtain ⟨j,s1⟩:=y;have y0:0<=j:=y0;have y1:j<=((x.2.2.2.2.2).length:Int):=y1;have yI:Aft C (m+j) s.2.2.2.2.2.2.1 s s1:=yI;refine dt (λhj=>?_) λ_=>aD (yI.up (by omega));have hj:j < ((x.2.2.2.2.2).length:Int):=hj
 have hs:srt (shp x.1 (x.2.2.2.2.2).length) j.toNat=3:=by
  rw [hk];rfl
 refine bP y0 (by show _ < (x.2.2.2.2.2).length;omega) λq hq _=>aB (hG.gx (p.go yI (by decide) (by omega)) (hg.nd hq 3 hs) he) λr ⟨v,g⟩=>aA λ_=>bZ (λ_=>aD ⟨v,(Pst.lF yI g).up (by omega)⟩) λe2=>?_;have a2:=(Pst.lF yI g).a0 e2;refine q_b λ_=>aA λ_=>aB (tn a2.run (by omega) v) λr3 a3=>aA λ_=>aD ⟨rfl,hj,?_⟩;show Aft C (m+w6 (j+1)) _ _ _;rw [wrap64 (n:=j+1) (by omega),<- Int.add_assoc];exact a2.cat a3
theorem Aj(hc:jY C)(hG:GOk C n G)(p:Pre C (n+1) 2 100300000 m s)(hx:Nk C.N x)(hk:x.1=39)(he:bw e.2.1):(R.eval_run_object G s x.2.2.2.2.2 e).sat (cp C (m+100300000) s.2.2.2.2.2.2.1 s):=by
 unfold R.eval_run_object;obtain ⟨i,hi⟩:=hx;have hl:=hc.fw.one _ x hi;have hg:=hc.tr.nod _ x hi;have pm:=p.hm;refine aA λ_=>aB (pN p.run (by omega) (.mk' 1 rfl (by decide)) rfl rfl ba) λr1 ⟨v1,g1⟩=>aA λ_=>bZ (λ_=>aD ⟨v1,g1.up (by omega)⟩) λe1=>?_;have a1:=g1.a0 e1;refine aB (fP (Q:=qC C (m+100300000) s.2.2.2.2.2.2.1 s λs'=>Aft C (m+100300000) s.2.2.2.2.2.2.1 s s') (λy=>y.1) (x.2.2.2.2.2).length (by omega) (λy=>Aft C (m+y.1) s.2.2.2.2.2.2.1 s y.2) (by simp) (by simp) (by show Aft C (m+0) _ _ r1.2;rw [Int.add_zero];exact a1) λy y0 y1 yI=>?_) λr hr=>oi hr λs' hs'=>aD ⟨v1,.ok hs'⟩;obtain ⟨j,s1⟩:=y;have y0:0<=j:=y0;have y1:j<=((x.2.2.2.2.2).length:Int):=y1;have yI:Aft C (m+j) s.2.2.2.2.2.2.1 s s1:=yI;refine dt (λhj=>?_) λ_=>aD (yI.up (by omega));have hj:j < ((x.2.2.2.2.2).length:Int):=hj
 have hs:srt (shp x.1 (x.2.2.2.2.2).length) j.toNat=7:=by
  rw [hk];rfl
 refine bP y0 (by show _ < (x.2.2.2.2.2).length;omega) λd hd _=>?_;obtain ⟨d0,z,hz,hf⟩:=hg.nd hd 7 hs;have hz40:z.1=40:=eq_of_beq hf;have hgz:=hc.tr.nod _ z hz;obtain ⟨q,hq,nq⟩:=iX hgz 0 3 (by rw [hz40];simp [shp]) (by rw [hz40];rfl);refine jZ yI.run d0 hz (gg (by decide) hq (aB (hG.gx (p.go yI (by decide) (by omega)) nq he) λr ⟨v,g⟩=>aA λ_=>bZ (λ_=>aD ⟨v,(Pst.lF yI g).up (by omega)⟩) λe2=>?_));have a2:=(Pst.lF yI g).a0 e2;refine aB (dL (by decide)) λ_ _=>aA λ_=>q_b λ_=>aG (λ_=>aB (fR a2.run) λr2 hr2=>aA λ_=>aD ((hr2.cat a2).up (by omega))) λ_=>aB (tn a2.run (by omega) v) λr3 a3=>aA λ_=>aD ⟨rfl,hj,?_⟩;show Aft C (m+w6 (j+1)) _ _ _;rw [wrap64 (n:=j+1) (by omega),<- Int.add_assoc];exact a2.cat a3
theorem wV(hc:jY C)(hG:GOk C n G)(p:Pre C (n+1) 11 100300000 m s)(k0:0<=k)(hx:C.N[k.toNat]?=some x)(hk:43<=x.1/\x.1<=53)(he:bw e.2.1):(R.eval_run_operation G s k x e).sat (cp C (m+100300000) s.2.2.2.2.2.2.1 s):=by
 unfold R.eval_run_operation;have hk:LE.le (α:=Int) (43) (x.1)/\LE.le (α:=Int) (x.1) (53):=hk;have hl:=hc.fw.one _ x hx;have hg:=hc.tr.nod _ x hx;have pm:=p.hm;have a0:=Aft.refl p.run;have up:∀ {F:Res ((dZ×Int)×RunT)}{B:(dZ×Int)×RunT->Bool},F.sat (cp C m s.2.2.2.2.2.2.1 s)->(F.bind λr=>given (B r) (Res.ok r)).sat (cp C (m+100300000) s.2.2.2.2.2.2.1 s):=λh=>aW (bG h λ_ hr=>hr.up (by omega));have ex:∀ {q:Int}{s1:RunT},Aft C m s.2.2.2.2.2.2.1 s s1->Nd C.N 3 q->(G.eval_run_expression s1 q e).sat (cp C m s.2.2.2.2.2.2.1 s):=λa hn=>bG (hG.gx (p.go a (by decide) (by omega)) hn he) λ_ hr=>hr.lF a;refine aA λ_=>bH (λh=>?_) λ_=>oI (λh=>aW (hG.step (p.go a0 (by decide) pm) ⟨_,hx⟩ h he)) λ_=>bH (λh=>up (hG.binary (p.go a0 (by decide) (by omega)) ⟨_,hx⟩ h he)) λ_=>bH (λh=>up (hG.logic (p.go a0 (by decide) (by omega)) ⟨_,hx⟩ h he)) λ_=>bH (λh=>?_) λ_=>bH (λh=>aW (hG.assign (p.go a0 (by decide) pm) ⟨_,hx⟩ h he)) λ_=>bH (λh=>aW (hG.callee (p.go a0 (by decide) pm) ⟨_,hx⟩ h he)) λ_=>bH (λh=>?_) λ_=>up (hG.property (p.go a0 (by decide) (by omega)) ⟨k0,x,hx,fit_4 (by omega)⟩ he)
 ·obtain ⟨q,hq,nq⟩:=iX hg 0 3 (by rw [h];simp [shp]) (by rw [h];rfl);exact gg (by decide) hq (up (hG.unary (p.go a0 (by decide) (by omega)) nq he))
 ·obtain ⟨q0,hq0,nq0⟩:=iX hg 0 3 (by rw [h];simp [shp]) (by rw [h];rfl);obtain ⟨q1,hq1,nq1⟩:=iX hg 1 3 (by rw [h];simp [shp]) (by rw [h];rfl);obtain ⟨q2,hq2,nq2⟩:=iX hg 2 3 (by rw [h];simp [shp]) (by rw [h];rfl);refine gg (by decide) hq0 (aB (ex a0 nq0) λr hr=>aA λ_=>bZ (λ_=>aD (hr.up (by omega))) λe1=>q_b λ_=>?_);have a1:=hr.2.a0 e1;exact aG (λ_=>gg (by decide) hq1 (up (ex a1 nq1))) λ_=>gg (by decide) hq2 (up (ex a1 nq2))
 ·obtain ⟨q0,hq0,nq0⟩:=iX hg 0 3 (by rw [h];simp [shp]) (by rw [h];rfl);have hlen:1<=(x.2.2.2.2.2).length:=(List.getElem?_eq_some_iff.1 hq0).1;refine gg (by decide) hq0 (aB (ex a0 nq0) λr hr=>aA λ_=>bZ (λ_=>aD (hr.up (by omega))) λe1=>fN (ga (by decide) (ga (by show (1:Int)<=((x.2.2.2.2.2).length:Int);omega) ?_)));have a1:=hr.2.a0 e1;refine aB (hG.arguments (l:=List.drop 1 x.2.2.2.2.2) (p.go a1 (by decide) (by omega)) (by rw [List.length_drop];omega) (FK hc hx (.inr h)) he) λr2 ⟨l2,v2,g2⟩=>aA λ_=>bZ (λ_=>aD ⟨v2,(Pst.cat a1 g2).up (by omega)⟩) λe2=>?_;have a2:=(Pst.cat a1 g2).a0 e2;exact aW (bG (hG.fresh (p.go a2 (by decide) pm) l2) λ_ hr=>hr.cat a2)
theorem BA(hc:jY C)(hG:GOk C n G)(p:Pre C (n+1) 2 0 m s)(hn:Nd C.N 3 k)(he:bw e.2.1):(R.eval_run_unary G s o k e).sat (cp C m s.2.2.2.2.2.2.1 s):=by
 unfold R.eval_run_unary;have pm:=p.hm;have a0:=Aft.refl p.run;have ex:(G.eval_run_expression s k e).sat (cp C m s.2.2.2.2.2.2.1 s):=bG (hG.gx (p.go a0 (by decide) (by omega)) hn he) λ_ hr=>hr.lF a0;obtain ⟨k0,x,hx,hf⟩:=hn;refine aA λ_=>dK (aG (λ_=>?_) λ_=>aB ex λr hr=>aA λ_=>bZ (λ_=>aD hr) λe1=>aB Gu λr2 v2=>aA λ_=>aW (bG (qH (hr.2.a0 e1).run (by omega) v2) λ_ h=>h.cat (hr.2.a0 e1)));refine aB (R:=qC C m s.2.2.2.2.2.2.1 s λq:Int×(RunT×dZ)=>cp C m s.2.2.2.2.2.2.1 s ((q.2.2,q.1),q.2.1)) (jZ p.run k0 hx (bH (λ_=>tS hc p (λs1 h1=>aA λ_=>fS rfl (aD ⟨ba,.inl ⟨rfl,h1⟩⟩)) λs1 e2 e3 e4 h=>aA λ_=>fb rfl (aB (Aw h (by omega)) λr ⟨v,g⟩=>aA λ_=>aD ⟨v,(yr p.run e2 e3 e4 hc.D g (by omega)).mono (Int.le_refl _) (by omega)⟩)) λ_=>aB ex λr hr=>aA λ_=>aD hr)) λr hr=>oi hr λq ⟨v,g⟩=>bZ (λ_=>aD ⟨v,g⟩) λe1=>aB Gn λr2 h2=>aA λ_=>aB (dL (by omega)) λ_ _=>aA λ_=>aB nI λr4 h4=>aA λ_=>aD ⟨h4.1,.ok (g.a0 e1)⟩
theorem Bu(hc:jY C)(hG:GOk C n G)(p:Pre C (n+1) 2 0 m s)(hn:Nd C.N 4 k)(he:bw e.2.1):(R.eval_run_parts G s k e).sat (PPst C m s.2.2.2.2.2.2.1 s):=by
 unfold R.eval_run_parts;have pm:=p.hm;have a0:=Aft.refl p.run;obtain ⟨k0,x,hx,hf⟩:=hn;have hf:=fit4 hf;have hg:=hc.tr.nod _ x hx;have hnm:=hc.fw.nm _ x hx;have ex:∀ {q:Int}{s1:RunT},Aft C m s.2.2.2.2.2.2.1 s s1->Nd C.N 3 q->(G.eval_run_expression s1 q e).sat (cp C m s.2.2.2.2.2.2.1 s):=λa hn=>bG (hG.gx (p.go a (by decide) (by omega)) hn he) λ_ hr=>hr.lF a;refine aA λ_=>jZ p.run k0 hx (bH (λ_=>aD ⟨⟨ba,ba⟩,ba,.ok a0⟩) λh33=>?_)
 obtain ⟨q,hq,nq⟩:∃ q,x.2.2.2.2.2[0]?=some q/\Nd C.N 3 q:=by
  rcases hf.resolve_left h33 with h|h
  ·exact iX hg 0 3 (by rw [h];simp [shp]) (by rw [h];rfl)
  ·exact iX hg 0 3 (by rw [h];simp [shp]) (by rw [h];rfl)
 refine gg (by decide) hq (aB (ex a0 nq) λr hr=>aA λ_=>bZ (λ_=>aD ⟨⟨ba,ba⟩,hr.1,hr.2⟩) λe1=>bH (λ_=>aB (dL (by show x.2.1.length<=_;omega)) λ_ _=>aA λ_=>aB nI λr4 h4=>aA λ_=>aD ⟨⟨hr.1,h4.1⟩,ba,.ok (hr.2.a0 e1)⟩) λh52=>?_);have h53:x.1=53:=(hf.resolve_left h33).resolve_left h52;have a1:=hr.2.a0 e1;obtain ⟨q1,hq1,nq1⟩:=iX hg 1 3 (by rw [h53];simp [shp]) (by rw [h53];rfl);exact gg (by decide) hq1 (aB (ex a1 nq1) λr2 hr2=>aA λ_=>bZ (λ_=>aD ⟨⟨ba,ba⟩,hr2.1,hr2.2⟩) λe2=>aD ⟨⟨hr.1,hr2.1⟩,ba,.ok (hr2.2.a0 e2)⟩)
theorem property_step(hc:jY C)(hG:GOk C n G)(p:Pre C (n+1) 3 0 m s)(hn:Nd C.N 4 k)(he:bw e.2.1):(R.eval_run_property G s k e).sat (cp C m s.2.2.2.2.2.2.1 s):=by
 unfold R.eval_run_property;have pm:=p.hm;have a0:=Aft.refl p.run;exact aA λ_=>aB (hG.parts (p.go a0 (by decide) (by omega)) hn he) λr ⟨t1,v1,g1⟩=>aA λ_=>bZ (λ_=>aD ⟨v1,g1⟩) λe1=>aW (bG (CI hc (g1.a0 e1).run (by omega)) λ_ hr=>hr.cat (g1.a0 e1))
theorem DJ(hc:jY C)(hG:GOk C n G)(p:Pre C (n+1) 3 100300000 m s)(hx:Nk C.N x)(hk:x.1=44\/x.1=45)(he:bw e.2.1):(R.eval_run_step G s x e).sat (cp C (m+100300000) s.2.2.2.2.2.2.1 s):=by
 unfold R.eval_run_step;have pm:=p.hm;have a0:=Aft.refl p.run;obtain ⟨i,hi⟩:=hx;have hg:=hc.tr.nod _ x hi
 obtain ⟨q,hq,nq⟩:∃ q,x.2.2.2.2.2[0]?=some q/\Nd C.N 4 q:=by
  rcases hk with h|h
  ·exact iX hg 0 4 (by rw [h];simp [shp]) (by rw [h];rfl)
  ·exact iX hg 0 4 (by rw [h];simp [shp]) (by rw [h];rfl)
 refine aA λ_=>gg (by decide) hq (aB (hG.parts (p.go a0 (by decide) (by omega)) nq he) λr ⟨t1,v1,g1⟩=>aA λ_=>bZ (λ_=>aD ⟨v1,g1.up (by omega)⟩) λe1=>?_);have a1:=g1.a0 e1;refine aB (Cy hc a1.run (by omega)) λr2 h2=>aA λ_=>?_;have h2:=h2.cat a1;refine bZ (λ_=>aD (h2.up (by omega))) λe2=>?_;have a2:=h2.2.a0 e2;have sg:∀ {q:Int}{B:(dZ×Int)×RunT->Bool},((R.aF r2.2 q).bind λr=>given (B r) (Res.ok r)).sat (cp C (m+100300000) s.2.2.2.2.2.2.1 s):=aW (bG (gd a2.run (by omega)) λ_ hr=>(hr.cat a2).up (by omega));refine aB Dw λr4 h4=>aA λ_=>bZ (λ_=>sg) λ_=>aB (R:=λ_=>True) (aG (λ_=>aD trivial) λ_=>aD trivial) λ_ _=>aB step_t λr7 h7=>aA λ_=>bZ (λ_=>sg) λ_=>aB (Ft hc a2.run (by omega) h7) λr9 h9=>aA λ_=>?_;have h9:=h9.cat a2;exact bZ (λ_=>aD (h9.up (by omega))) λe9=>bH (λ_=>aD ⟨h7,(Pst.ok (h9.2.a0 e9)).up (by omega)⟩) λ_=>aD ⟨h4,(Pst.ok (h9.2.a0 e9)).up (by omega)⟩
theorem Ab(hc:jY C)(hG:GOk C n G)(p:Pre C (n+1) 2 0 m s)(hx:Nk C.N x)(hk:x.1=46)(he:bw e.2.1):(R.eval_run_binary G s x e).sat (cp C m s.2.2.2.2.2.2.1 s):=by
 unfold R.eval_run_binary;have pm:=p.hm;have a0:=Aft.refl p.run;obtain ⟨i,hi⟩:=hx;have hg:=hc.tr.nod _ x hi;have ex:∀ {q:Int}{s1:RunT},Aft C m s.2.2.2.2.2.2.1 s s1->Nd C.N 3 q->(G.eval_run_expression s1 q e).sat (cp C m s.2.2.2.2.2.2.1 s):=λa hn=>bG (hG.gx (p.go a (by decide) (by omega)) hn he) λ_ hr=>hr.lF a;obtain ⟨q0,hq0,n0⟩:=iX hg 0 3 (by rw [hk];simp [shp]) (by rw [hk];rfl);obtain ⟨q1,hq1,n1⟩:=iX hg 1 3 (by rw [hk];simp [shp]) (by rw [hk];rfl);exact aA λ_=>gg (by decide) hq0 (aB (ex a0 n0) λr hr=>aA λ_=>bZ (λ_=>aD hr) λe1=>gg (by decide) hq1 (aB (ex (hr.2.a0 e1) n1) λr2 hr2=>aA λ_=>bZ (λ_=>aD hr2) λe2=>aG (λ_=>aW (bG (in_ok hc (hr2.2.a0 e2).run (by omega)) λ_ h=>h.cat (hr2.2.a0 e2))) λ_=>aB AF λr4 h4=>aA λ_=>aW (bG (qH (hr2.2.a0 e2).run (by omega) h4) λ_ h=>h.cat (hr2.2.a0 e2))))
theorem BT(hc:jY C)(hG:GOk C n G)(p:Pre C (n+1) 2 0 m s)(hx:Nk C.N x)(hk:x.1=47)(he:bw e.2.1):(R.eval_run_logic G s x e).sat (cp C m s.2.2.2.2.2.2.1 s):=by
 unfold R.eval_run_logic;have pm:=p.hm;have a0:=Aft.refl p.run;obtain ⟨i,hi⟩:=hx;have hg:=hc.tr.nod _ x hi;have ex:∀ {q:Int}{s1:RunT},Aft C m s.2.2.2.2.2.2.1 s s1->Nd C.N 3 q->(G.eval_run_expression s1 q e).sat (cp C m s.2.2.2.2.2.2.1 s):=λa hn=>bG (hG.gx (p.go a (by decide) (by omega)) hn he) λ_ hr=>hr.lF a;obtain ⟨q0,hq0,n0⟩:=iX hg 0 3 (by rw [hk];simp [shp]) (by rw [hk];rfl);obtain ⟨q1,hq1,n1⟩:=iX hg 1 3 (by rw [hk];simp [shp]) (by rw [hk];rfl);exact aA λ_=>gg (by decide) hq0 (aB (ex a0 n0) λr hr=>aA λ_=>bZ (λ_=>aD hr) λe1=>aB (dw0:Safe _).ok λ_ _=>aG (λ_=>aD ⟨hr.1,.ok (hr.2.a0 e1)⟩) λ_=>gg (by decide) hq1 (aW (ex (hr.2.a0 e1) n1)))
theorem AE(hc:jY C)(hG:GOk C n G)(p:Pre C (n+1) 3 100300000 m s)(hx:Nk C.N x)(hk:x.1=49)(he:bw e.2.1):(R.eval_run_assign G s x e).sat (cp C (m+100300000) s.2.2.2.2.2.2.1 s):=by
 unfold R.eval_run_assign;have pm:=p.hm;have a0:=Aft.refl p.run;obtain ⟨i,hi⟩:=hx;have hg:=hc.tr.nod _ x hi;have hnm:=hc.fw.nm _ x hi
 have hnn:1<=x.2.1.length:=by
  have:=hg.nam hk
  cases h:x.2.1 with
  |nil=>exact absurd h this
  |cons _ _=>simp
 have ew:w6 ((x.2.1.length:Int)-1)=(x.2.1.length:Int)-1:=wrap64 (by omega);obtain ⟨q0,hq0,n0⟩:=iX hg 0 4 (by rw [hk];simp [shp]) (by rw [hk];rfl);obtain ⟨q1,hq1,n1⟩:=iX hg 1 3 (by rw [hk];simp [shp]) (by rw [hk];rfl);refine aA λ_=>gg (by decide) hq0 (aB (hG.parts (p.go a0 (by decide) (by omega)) n0 he) λr ⟨t1,v1,g1⟩=>aA λ_=>bZ (λ_=>aD ⟨v1,g1.up (by omega)⟩) λe1=>fN (ga (by rw [ew];omega) (ga (by rw [ew];omega) ?_)));have a1:=g1.a0 e1;refine aB (R:=qC C (m+100300000) s.2.2.2.2.2.2.1 s λq:RunT×dZ=>Aft C m s.2.2.2.2.2.2.1 s q.1/\bw q.2) (dK (aG (λ_=>aD ⟨a1,ba⟩) λ_=>aB (Cy hc a1.run (by omega)) λr2 h2=>aA λ_=>bZ (λ_=>aD ((h2.cat a1).up (by omega))) λe2=>aD ⟨(h2.cat a1).2.a0 e2,h2.1⟩)) λr2 hr2=>oi hr2 λq ⟨a2,v2⟩=>?_;refine gg (by decide) hq1 (aB (hG.gx (p.go a2 (by decide) (by omega)) n1 he) λr8 h8=>aA λ_=>?_);have h8:=h8.lF a2;refine bZ (λ_=>aD (h8.up (by omega))) λe8=>?_;have a8:=h8.2.a0 e8;refine aB (R:=qC C (m+100300000) s.2.2.2.2.2.2.1 s bw) (dK (aG (λ_=>aD h8.1) λ_=>aB AF λr9 h9=>aA λ_=>bZ (λ_=>oy (bG (gd a8.run (by omega)) λ_ hr=>(hr.cat a8).up (by omega))) λ_=>aD h9)) λr11 hr11=>oi hr11 λw vw=>aB (Ft hc a8.run (by omega) vw) λr14 h14=>aA λ_=>?_;have h14:=h14.cat a8;exact bZ (λ_=>aD (h14.up (by omega))) λe14=>aD ⟨vw,(Pst.ok (h14.2.a0 e14)).up (by omega)⟩
theorem zn(hc:jY C)(hG:GOk C n G)(p:Pre C (n+1) 2 0 m s)(hn:Nd C.N 3 k)(he:bw e.2.1):(R.eval_run_called G s k e).sat (CPst C m s.2.2.2.2.2.2.1 s):=by
 unfold R.eval_run_called;have pm:=p.hm;have a0:=Aft.refl p.run;have hn':=hn;obtain ⟨k0,x,hx,hf⟩:=hn';refine aA λ_=>jZ p.run k0 hx (aB (R:=λb=>b=false->x.1=52\/x.1=53) (pA (λ_=>aD λe=>?_) λe=>aD λ_=>.inl e) λb hb=>aG (λ_=>aB (hG.gx (p.go a0 (by decide) (by omega)) hn he) λr hr=>aA λ_=>aD ⟨hr.1,ba,Pst.lF a0 hr.2⟩) λeb=>tS hc p (λs1 h1=>aA λ_=>fS rfl (aD ⟨ba,ba,.inl ⟨rfl,h1⟩⟩)) λs1 e2 e3 e4 h=>aA λ_=>fb rfl ?_)
 ·exact .inr (eq_of_beq (by cases h:(x.1 == 53)<;>simp_all))
 ·have p1:Pre C n 2 0 (m-134217728) s1:=p.deep h e3 (by decide) (by decide) (by decide);have a1:=Aft.refl h;refine aB (hG.parts p1 ⟨k0,x,hx,fit_4 (.inr (hb eb))⟩ he) λr ⟨t1,v1,g1⟩=>aA λ_=>aB (R:=λq:Int×(RunT×dZ)=>cp C (m-134217728) s1.2.2.2.2.2.2.1 s1 ((q.2.2,q.1),q.2.1)) (bH (λe1=>aB (CI hc (g1.a0 e1).run (by omega)) λr2 h2=>aA λ_=>aD (h2.cat (g1.a0 e1))) λ_=>aD ⟨v1,g1⟩) λq ⟨v2,g2⟩=>aD ⟨v2,t1.1,(yr p.run e2 e3 e4 hc.D g2 (by omega)).mono (Int.le_refl _) (by omega)⟩
end
end Go.Mach

set_option maxRecDepth 100000
namespace Go.Mach
open Res
theorem D0{n:Int}(h:1<=n){last d:Int}:(ym n last).getD (n-1).toNat d=last:=by
 unfold ym;rw [List.getD_eq_getElem?_getD,List.getElem?_append_right (by simp)];simp
theorem fit13{k:Int}(h:oT 13 k=true)(h1:k≠4):oT 3 k=true:=by simpa [oT,h1] using h
section
variable {C:Cx}{n:Nat}{G:ai}{m k:Int}{s:RunT}{x:eH}{e:mM}{a:List UInt8}{v f t:dZ}{l:List dZ}
theorem FnC.ext{s':RunT}{i:Int}(h:FnC s i)(g:ny s.2.2.2.2.1.2 s'.2.2.2.2.1.2):FnC s' i:=by
 obtain ⟨i0,c,hc,e⟩:=h;obtain ⟨d,hd,hs⟩:=g _ c hc;exact ⟨i0,d,hd,hs.k.trans e⟩
theorem xG(hc:jY C)(hG:GOk C n G)(p:Pre C (n+1) 2 0 m s){l:List Int}(hl:l.length<=20000)(hn:∀ q∈l,Nd C.N 3 q)(he:bw e.2.1):(R.eval_run_arguments G s l e).sat (APst C m s.2.2.2.2.2.2.1 s):=by
 unfold R.eval_run_arguments;have pm:=p.hm
 refine aA λ_=>aB (fP (Q:=λr:(List dZ×RunT) ⊕ (List dZ×(Int×(RunT×dZ)))=>match r with|.inl q=>tW q.1/\Aft C m s.2.2.2.2.2.2.1 s q.2|.inr z=>APst C m s.2.2.2.2.2.2.1 s ((z.1,(z.2.2.2,z.2.1)),z.2.2.1)) (λy=>y.2.1) l.length (by omega) (λy=>y.1.length=y.2.1.toNat/\(∀ v∈y.1,bw v)/\Aft C m s.2.2.2.2.2.2.1 s y.2.2) (by simp) (by simp) ⟨rfl,by simp,Aft.refl p.run⟩ λy y0 y1 yI=>?_) λr hr=>?_
 ·obtain ⟨vs,j,s1⟩:=y;have y0:0<=j:=y0;have y1:j<=(l.length:Int):=y1;obtain ⟨i1,i2,i3⟩:=yI;have i1:vs.length=j.toNat:=i1;have i2:∀ v∈vs,bw v:=i2;have i3:Aft C m s.2.2.2.2.2.2.1 s s1:=i3;refine dt (λhj=>?_) λ_=>aD ⟨⟨by show vs.length<=_;omega,i2⟩,i3⟩;have hj:j < (l.length:Int):=hj;refine bP y0 (by show _ < l.length;omega) λq hq _=>aB (hG.gx (p.go i3 (by decide) (by omega)) (hn q (List.mem_of_getElem? hq)) he) λr ⟨v,g⟩=>aA λ_=>bZ (λ_=>aD ⟨⟨Nat.zero_le _,λ_ h=>by cases h⟩,v,Pst.lF i3 g⟩) λe1=>ax (decide_eq_true ?_) (aD ⟨rfl,hj,?_,rh i2 v,(Pst.lF i3 g).a0 e1⟩)
  ·show (vs.length+1)*88<=2^47;omega
  ·show (vs++[_]).length=(w6 (j+1)).toNat;rw [wrap64 (by omega),List.length_append];simp;omega
 ·cases r with
  |inl q=>exact i6 (aD ⟨hr.1,ba,.ok hr.2⟩)
  |inr z=>exact jD (aD hr)
theorem Al(hc:jY C)(hG:GOk C n G)(p:Pre C (n+1) 10 100300000 m s)(hx:Nk C.N x)(hk:x.1=50)(he:bw e.2.1):(R.eval_run_callee G s x.2.2.2.2.2 e).sat (cp C (m+100300000) s.2.2.2.2.2.2.1 s):=by
 unfold R.eval_run_callee;obtain ⟨i,hi⟩:=hx;have hl:=hc.fw.one _ x hi;have hg:=hc.tr.nod _ x hi;have pm:=p.hm;have a0:=Aft.refl p.run;obtain ⟨q0,hq0,n0⟩:=iX hg 0 3 (by rw [hk];simp [shp]) (by rw [hk];rfl);have hlen:1<=(x.2.2.2.2.2).length:=(List.getElem?_eq_some_iff.1 hq0).1;refine aA λ_=>gg (by decide) hq0 (aB (hG.called (p.go a0 (by decide) (by omega)) n0 he) λr ⟨v1,v2,g1⟩=>aA λ_=>bZ (λ_=>aD ⟨v1,g1.up (by omega)⟩) λe1=>fN (ga (by decide) (ga (by show (1:Int)<=((x.2.2.2.2.2).length:Int);omega) ?_)));have a1:=g1.a0 e1;refine aB (hG.arguments (l:=List.drop 1 x.2.2.2.2.2) (p.go a1 (by decide) (by omega)) (by rw [List.length_drop];omega) (FK hc hi (.inl hk)) he) λr2 ⟨l2,v3,g2⟩=>aA λ_=>bZ (λ_=>aD ⟨v3,(Pst.cat a1 g2).up (by omega)⟩) λe2=>?_;have a2:=(Pst.cat a1 g2).a0 e2;exact aW (bG (hG.call (p.go a2 (by decide) pm) v2 l2) λ_ hr=>hr.cat a2)
theorem DU(hc:jY C)(hG:GOk C n G)(p:Pre C (n+1) 8 100300000 m s)(ht:bw t)(hl:tW l):(R.eval_run_call G s f t l).sat (cp C (m+100300000) s.2.2.2.2.2.2.1 s):=by
 unfold R.eval_run_call;have pm:=p.hm;have a0:=Aft.refl p.run;have sg:∀ {q:Int}{B:(dZ×Int)×RunT->Bool},((R.aF s q).bind λr=>given (B r) (Res.ok r)).sat (cp C (m+100300000) s.2.2.2.2.2.2.1 s):=aW (bG (gd p.run (by omega)) λ_ hr=>hr.up (by omega));refine aA λ_=>pA (λ_=>sg) λ_=>aB tX λnm ⟨h1,_⟩=>aA λ_=>aB um λb hb=>aG (λ_=>aW (hG.does (p.go a0 (by decide) pm) h1 ht hl)) λ_=>aB ni λq hq=>aA λ_=>pA (λ_=>sg) λh3=>aW (hG.apply (p.go a0 (by decide) pm) ?_ ht hl);rcases hq with ⟨h0,_⟩|⟨i0,c,hc',e⟩
 ·rw [h0] at h3;cases h3
 ·exact ⟨i0,c,hc',e.symm.trans h3⟩
theorem Bq(hc:jY C)(hG:GOk C n G)(p:Pre C (n+1) 4 100300000 m s)(hf:f.1=6)(hF:FnC s f.2.2.2.2)(ht:bw t)(hl:tW l):(R.eval_run_call G s f t l).sat (cp C (m+100300000) s.2.2.2.2.2.2.1 s):=by
 unfold R.eval_run_call;have pm:=p.hm;have a0:=Aft.refl p.run;obtain ⟨B,g1,_,_⟩:=p.run.heap (by omega);have hF':=hF;obtain ⟨i0,c,hc',e3⟩:=hF'
 have hlt:LT.lt (α:=Int) (f.2.2.2.2) (4096):=by
  have h1:=(List.getElem?_eq_some_iff.1 hc').1;have h2:=g1.le;omega
 refine aA λ_=>pA (λh=>absurd hf h) λ_=>aB tX λnm ⟨_,h1⟩=>aA λ_=>aB um λb hb=>aG (λe=>absurd (h1 hlt) (hb e)) λ_=>aB ni λq hq=>aA λ_=>pA (λh=>?_) λ_=>aW (hG.apply (p.go a0 (by decide) pm) hF ht hl);rcases hq with ⟨_,h0⟩|⟨_,c',hc2,e⟩
 ·exact absurd ⟨i0,(List.getElem?_eq_some_iff.1 hc').1⟩ h0
 ·have:some c=some c':=hc'.symm.trans hc2;cases this;exact absurd (e.trans e3) h
theorem Bj(hc:jY C)(hG:GOk C n G)(p:Pre C (n+1) 9 100300000 m s)(hl:tW l):(R.eval_run_fresh G s f l).sat (cp C (m+100300000) s.2.2.2.2.2.2.1 s):=by
 unfold R.eval_run_fresh;have pm:=p.hm;have a0:=Aft.refl p.run;obtain ⟨B,g1,g2,_⟩:=p.run.heap (by omega);have sg:∀ {q:Int}{B:(dZ×Int)×RunT->Bool},((R.aF s q).bind λr=>given (B r) (Res.ok r)).sat (cp C (m+100300000) s.2.2.2.2.2.2.1 s):=aW (bG (gd p.run (by omega)) λ_ hr=>hr.up (by omega));refine aA λ_=>pA (λ_=>sg) λ_=>aB (oo g1) λr hr=>aA λ_=>dK (aG (λhr2=>?_) λ_=>aB tX λnm ⟨h1,_⟩=>aA λ_=>aW (hG.builds (p.go a0 (by decide) pm) h1 hl));refine aB (R:=λb=>b=false->Eq (α:=Int) (r.1.1) (3)) (pA (λ_=>aD λe=>by cases e) λe=>aD λ_=>e) λb hb=>aG (λ_=>sg) λeb=>?_
 have hF:FnC s f.2.2.2.2:=by
  obtain ⟨i0,c,hc',e⟩:=hr.at' hr2;exact ⟨i0,c,hc',e.trans (hb eb)⟩
 refine aB (R:=qC C (m+100300000) s.2.2.2.2.2.2.1 s λ_:Int=>True) (aB (dL (by decide)) λ_ _=>aA λ_=>aB (tY g1 g2) λw _=>aA λ_=>bH (λ_=>aB ni λ_ _=>aA λ_=>pA (λ_=>oy (fR p.run |> λh=>bG h λ_ hr=>cp.up (m:=m) hr (by omega))) λ_=>aD trivial) λ_=>aD trivial) λr2 hr2=>oi hr2 λpr _=>aB (pN p.run (by omega) (.mk' 1 rfl (by decide)) rfl rfl ba) λr3 h3=>aA λ_=>bZ (λ_=>aD (h3.up (by omega))) λe3=>?_;have a3:=h3.2.a0 e3;refine aB (hG.apply (p.go a3 (by decide) pm) (hF.ext a3.ext) h3.1 hl) λr4 h4=>aA λ_=>?_;have h4:=h4.cat a3;refine aB (R:=λb=>b=false->Eq (α:=Int) (r4.1.2) (0)) (bZ (λ_=>aD λe=>by cases e) λe=>aD λ_=>e) λb hb=>aG (λ_=>aD h4) λeb=>aD ⟨h3.1,.ok (h4.2.a0 (hb eb))⟩
theorem Bb(hc:jY C)(hG:GOk C n G)(p:Pre C (n+1) 3 100300000 m s){i:Int}(hF:FnC s i)(ht:bw t)(hl:tW l):(R.eval_run_apply G s i t l).sat (cp C (m+100300000) s.2.2.2.2.2.2.1 s):=by
 unfold R.eval_run_apply;have pm:=p.hm;obtain ⟨B,g1,g2,_⟩:=p.run.heap (by omega);obtain ⟨i0,c,hc',e3⟩:=hF;refine aA λ_=>aB (oo g1) λr hr=>aA λ_=>aB (qU p.run (by omega)) λr2 ⟨h2,_⟩=>aA λ_=>bZ (λ_=>aD ⟨ba,h2.up (by omega)⟩) λe2=>?_;have a2:=h2.a0 e2;obtain ⟨t1,t2⟩:=hr.cl c i0 hc';obtain ⟨n0,x,hx,hk⟩:=hr.fn (t2.trans e3);refine aB (R:=λe:mM=>bw e.2.1) (bH (λ_=>aD (hr.th t1)) λ_=>bH (λ_=>aD ba) λ_=>aD ht) λe he=>jZ a2.run n0 hx ?_;have hlx:=hc.fw.one _ x hx;have hg:=hc.tr.nod _ x hx
 obtain ⟨last,hlast,hsh⟩:∃ last:Int,(last=8\/last=13)/\shp x.1 (x.2.2.2.2.2).length=(ym (x.2.2.2.2.2).length last,0):=by
  rcases hk with h|h|h
  ·exact ⟨8,.inl rfl,by rw [h];rfl⟩
  ·exact ⟨8,.inl rfl,by rw [h];rfl⟩
  ·exact ⟨13,.inr rfl,by rw [h];rfl⟩
 have h1:1<=(x.2.2.2.2.2).length:=by
  have:=hg.len;rw [hsh] at this;have h2:(ym ((x.2.2.2.2.2).length:Int) last).length<=(x.2.2.2.2.2).length:=this;unfold ym at h2;simp at h2;omega
 have ew:w6 (((x.2.2.2.2.2).length:Int)-1)=((x.2.2.2.2.2).length:Int)-1:=wrap64 (by omega);rw [ew]
 have et:(((x.2.2.2.2.2).length:Int)-1).toNat=(x.2.2.2.2.2).length-1:=by omega
 obtain ⟨q,hq⟩:∃ q,x.2.2.2.2.2[(((x.2.2.2.2.2).length:Int)-1).toNat]?=some q:=⟨_,List.getElem?_eq_getElem (by omega)⟩
 have nq:=hg.nd hq last (by
  rw [hsh];show (ym ((x.2.2.2.2.2).length:Int) last).getD (((x.2.2.2.2.2).length:Int)-1).toNat 0=last
  exact D0 (by omega))
 refine fN (ga (by omega) (ga (by show ((x.2.2.2.2.2).length:Int)-1<=((x.2.2.2.2.2).length:Int);omega) ?_));refine aB (fP (Q:=λH:qn=>Aft C (m+20000) s.2.2.2.2.2.2.1 s (oq r2.2 H)) (λy=>y.1) (List.take (((x.2.2.2.2.2).length:Int)-1).toNat x.2.2.2.2.2).length (by simp;omega) (λw=>Aft C (m+w.1) s.2.2.2.2.2.2.1 s (oq r2.2 w.2)) (by simp) (by simp) (by show Aft C (m+0) _ _ (oq r2.2 r2.2.2.2.2.2.1);rw [Int.add_zero];exact a2) λw w0 w1 wI=>?_) λH hH=>?_
 ·obtain ⟨j,H⟩:=w;have w0:0<=j:=w0;have w1:j<=((List.take (((x.2.2.2.2.2).length:Int)-1).toNat x.2.2.2.2.2).length:Int):=w1;have wI:Aft C (m+j) s.2.2.2.2.2.2.1 s (oq r2.2 H):=wI
  have hln:(List.take (((x.2.2.2.2.2).length:Int)-1).toNat x.2.2.2.2.2).length=(x.2.2.2.2.2).length-1:=by rw [List.length_take];omega
  refine dt (λhj=>?_) λ_=>aD (wI.up (by omega));have hj:j < ((List.take (((x.2.2.2.2.2).length:Int)-1).toNat x.2.2.2.2.2).length:Int):=hj;refine bP w0 (by show _ < (List.take (((x.2.2.2.2.2).length:Int)-1).toNat x.2.2.2.2.2).length;omega) λd hd _=>?_
  have hd':x.2.2.2.2.2[j.toNat]?=some d:=by
   have hd:(List.take (((x.2.2.2.2.2).length:Int)-1).toNat x.2.2.2.2.2)[j.toNat]?=some d:=hd;rw [List.getElem?_take] at hd;split at hd
   ·exact hd
   ·cases hd
  obtain ⟨d0,z,hz,_⟩:=hg.kid _ d hd';refine jZ a2.run d0 hz (aB (lE hl.2 w0) λv hv=>aA λ_=>aB (qJ wI.run (by omega) hv) λr hr=>aA λ_=>aD ⟨rfl,hj,?_⟩);show Aft C (m+w6 (j+1)) _ _ _;rw [wrap64 (n:=j+1) (by omega),<- Int.add_assoc];exact wI.cat hr
 ·have nq':=nq;obtain ⟨q0,y,hy,hf⟩:=nq';refine gg (by omega) hq (jZ a2.run q0 hy (pA (λh4=>?_) λh4=>?_))
  ·have hn3:Nd C.N 3 q:=by
    rcases hlast with h|h
    ·rw [h] at hf;exact absurd (eq_of_beq hf) h4
    ·rw [h] at hf;exact ⟨q0,y,hy,fit13 hf h4⟩
   exact aW (bG (hG.gx (p.go hH (by decide) (by omega)) hn3 he) λ_ hr=>(hr.lF hH).up (by omega))
  ·refine aB (rS hc hH.run (by omega) q0 hy he) λr3 h3=>aA λ_=>?_;have h3:=h3.cat hH;refine bZ (λ_=>aD (h3.up (by omega))) λe4=>?_;have a3:=h3.2.a0 e4;refine jZ a3.run q0 hy (aB (hG.list (p.go a3 (by decide) (by omega)) ⟨_,hy⟩ he) λr4 ⟨v4,g4⟩=>aA λ_=>?_);have g4:=(Pst.cat a3 g4).up (m':=m+100300000) (by omega);exact bH (λe5=>aD ⟨v4,.ok (g4.aft (jC e5 (by decide)))⟩) λ_=>aB (R:=λb=>b=false->Ne (α:=Int) (r4.1.1) (5)) (bH (λe5=>aD λ_=>jC e5 (by decide)) λ_=>aD λe5=>ne_of_beq_false e5) λb hb=>aG (λ_=>aD ⟨v4,g4⟩) λeb=>aD ⟨ba,.ok (g4.aft (hb eb))⟩
theorem zt(hc:jY C)(hG:GOk C n G)(p:Pre C (n+1) 8 100300000 m s)(ha:InN a)(hl:tW l):(R.eval_run_builds G s a l).sat (cp C (m+100300000) s.2.2.2.2.2.2.1 s):=by
 unfold R.eval_run_builds;have pm:=p.hm;have a0:=Aft.refl p.run
 have hm:m<=2^39:=by omega
 have up:∀ {F:Res ((dZ×Int)×RunT)}{B:(dZ×Int)×RunT->Bool},F.sat (cp C m s.2.2.2.2.2.2.1 s)->(F.bind λr=>given (B r) (Res.ok r)).sat (cp C (m+100300000) s.2.2.2.2.2.2.1 s):=λh=>aW (bG h λ_ hr=>hr.up (by omega));refine aA λ_=>aB (dw0:Safe _).ok λ_ _=>aG (λ_=>up (fR p.run)) λ_=>aB (dw0:Safe _).ok λ_ _=>aG (λ_=>aW (hG.does (p.go a0 (by decide) pm) ha ba hl)) λ_=>aG (λ_=>aB (lE hl.2 (by decide)) λ_ _=>aA λ_=>aB nv λq ⟨q0,q1⟩=>aA λ_=>bZ (λ_=>up (gd p.run hm)) λ_=>dt (λ_=>up (gd p.run hm)) λhq=>?_) λ_=>aG (λ_=>up (Bh hc p.run hm hl.2)) λ_=>aG (λ_=>up (Be p.run hm hl.2)) λ_=>aB FD λr hr=>aA λ_=>dt (λh=>?_) λ_=>up (gd p.run hm)
 ·have hq:LE.le (α:=Int) (q.1) (4096):=hq;refine fN (ga q0 (fN (ga (Int.le_refl _) (n_d (by omega) (up (pN p.run hm (.bf1 rfl ?_) rfl rfl ba))))));show (List.replicate (Int.toNat q.1) (0:Int)).length<=4096;rw [List.length_replicate];omega
 ·obtain ⟨z,hz⟩:=hr h;exact up (DB p.run hm hz hl.2)
theorem DA(hc:jY C)(hG:GOk C n G)(p:Pre C (n+1) 7 100300000 m s)(ha:InN a)(ht:bw t)(hl:tW l):(R.eval_run_does G s a t l).sat (cp C (m+100300000) s.2.2.2.2.2.2.1 s):=by
 unfold R.eval_run_does;have pm:=p.hm;have a0:=Aft.refl p.run
 have hm:m<=2^39:=by omega
 have up:∀ {F:Res ((dZ×Int)×RunT)}{B:(dZ×Int)×RunT->Bool},F.sat (cp C (m+20000) s.2.2.2.2.2.2.1 s)->(F.bind λr=>given (B r) (Res.ok r)).sat (cp C (m+100300000) s.2.2.2.2.2.2.1 s):=λh=>aW (bG h λ_ hr=>hr.up (by omega));have up0:∀ {F:Res ((dZ×Int)×RunT)}{B:(dZ×Int)×RunT->Bool},F.sat (cp C m s.2.2.2.2.2.2.1 s)->(F.bind λr=>given (B r) (Res.ok r)).sat (cp C (m+100300000) s.2.2.2.2.2.2.1 s):=λh=>aW (bG h λ_ hr=>hr.up (by omega));have rt:∀ {v:dZ},bw v->(Res.ok ((v,(0:Int)),s):Res ((dZ×Int)×RunT)).sat (cp C (m+100300000) s.2.2.2.2.2.2.1 s):=λhv=>aD ⟨hv,(Pst.ok a0).up (by omega)⟩;obtain ⟨B,g1,g2,g3⟩:=p.run.heap hm;refine aA λ_=>aB (lE hl.2 (by decide)) λx hx=>aA λ_=>aB (dw0:Safe _).ok λ_ _=>aG (λ_=>up0 (fR p.run)) λ_=>aG (λ_=>up0 (E4 p.run hm)) λ_=>aG (λ_=>aB (lE hl.2 (by decide)) λy _=>aA λ_=>up0 (C9 p.run hm)) λ_=>aG (λ_=>bH (λ_=>aB ni λ_ _=>aA λ_=>aB lD λr hr=>aA λ_=>rt (vk hr)) λ_=>aB lD λr hr=>aA λ_=>rt (vk hr)) λ_=>aG (λ_=>up (Ge p.run (by omega) hl.1 hl.2)) λ_=>aG (λ_=>aB (R:=λ_=>True) (pA (λ_=>aD trivial) λ_=>aB ni λ_ _=>aA λ_=>aD trivial) λ_ _=>aG (λ_=>up0 (fR p.run)) λ_=>aB (HI g1 g2) λr ⟨r1,r2,r3⟩=>aA λ_=>aD ⟨r3,(Pst.ok ⟨p.run.put r1 g3,r2,rfl,Int.le_refl _⟩).up (by omega)⟩) λ_=>aG (λ_=>up0 (zp p.run hm)) λ_=>aG (λ_=>bH (λ_=>aB nI λr hr=>aA λ_=>rt hr.1) λ_=>q_p λr _=>aA λ_=>aB nI λr hr=>aA λ_=>up0 (qH p.run hm hr.1)) λ_=>aG (λ_=>q_b λ_=>aB lD λr hr=>aA λ_=>rt (vk hr)) λ_=>aG (λ_=>up0 (EC p.run hm)) λ_=>aB (dw0:Safe _).ok λ_ _=>aG (λ_=>up0 (CC p.run hm (Nat.le_trans (Ao ha) (by decide)))) λ_=>aB (HT ha) λb hb=>aG (λeb=>aB (hb eb) λnm hn=>aA λ_=>up0 (C6 hc p.run hm hn hl.2)) λ_=>q_b λ_=>aG (λ_=>q_b λ_=>aA λ_=>up0 (Dm hc p.run hm hl.2)) λ_=>q_b λ_=>aG (λ_=>q_b λ_=>aA λ_=>aW (hG.host (p.go a0 (by decide) pm) hx)) λ_=>up0 (gd p.run hm)
theorem Dp(hc:jY C)(hG:GOk C n G)(p:Pre C (n+1) 6 100300000 m s)(hv:bw v):(R.eval_run_host G s a v).sat (cp C (m+100300000) s.2.2.2.2.2.2.1 s):=by
 unfold R.eval_run_host;have pm:=p.hm;have a0:=Aft.refl p.run
 have hm:m<=2^39:=by omega
 obtain ⟨B,g1,g2,g3⟩:=p.run.heap hm;have up:∀ {F:Res ((dZ×Int)×RunT)}{B:(dZ×Int)×RunT->Bool},F.sat (cp C m s.2.2.2.2.2.2.1 s)->(F.bind λr=>given (B r) (Res.ok (Sum.inr (r.1.2,(r.2,r.1.1)):vm ⊕ (Int×(RunT×dZ))))).sat (qC C (m+100300000) s.2.2.2.2.2.2.1 s xL):=λh=>oy (bG h λ_ hr=>hr.up (by omega));refine aA λ_=>aB (R:=qC C (m+100300000) s.2.2.2.2.2.2.1 s xL) (aG (λ_=>pA (λ_=>up (fR p.run)) λh5=>aD (qY 8 rfl (by decide) (by decide) l0 (hv h5) nw0 z6)) λ_=>aG (λ_=>aB (oo g1) λr hr=>aA λ_=>aB (R:=λb=>b=false->Eq (α:=Int) (r.1.1) (6)) (pA (λ_=>aD λe=>by cases e) λ_=>aD λe=>?_) λb hb=>aG (λ_=>up (gd p.run hm)) λeb=>aD (qY 9 rfl (by decide) (by decide) (hr.sh (hb eb)) (Nat.zero_le _) nw0 z6)) λ_=>aG (λ_=>oy (hG.zw (p.go a0 (by decide) pm))) λ_=>aG (λ_=>q_p λr hr=>aA λ_=>bZ (λ_=>up (gd p.run hm)) λ_=>aD (qY 11 rfl (by decide) (by decide) l0 hr nw0 z6)) λ_=>aG (λ_=>aD (qY 12 rfl (by decide) (by decide) l0 (Nat.zero_le _) nw0 z6)) λ_=>aG (λ_=>q_b λr=>aA λ_=>bZ (λ_=>up (gd p.run hm)) λ_=>aB tA λw hw=>aA λ_=>aD (qY 13 rfl (by decide) (by decide) l0 (Nat.zero_le _) hw z6)) λ_=>aD (qY 14 rfl (by decide) (by decide) l0 (Nat.zero_le _) nw0 z6)) λr hr=>oi hr λq hq=>aB (rf p.run hc.A hq) λr2 ⟨h2,_⟩=>aA λ_=>?_
 ·exact eq_of_beq (by cases h:(r.1.1 == 6)<;>simp_all)
 ·have h2:=h2.up (m':=m+100300000) (by omega);refine bZ (λ_=>aD ⟨ba,h2⟩) λe2=>?_;have a2:=h2.a0 e2;exact bH (λ_=>aB lr λ_ hn=>aA λ_=>aD ⟨hn,.ok a2⟩) λ_=>aB (dw0:Safe _).ok λ_ _=>aG (λ_=>aD ⟨.of (show (1:Int)≠5 by decide),.ok a2⟩) λ_=>bH (λ_=>aB nI λ_ hn=>aA λ_=>aD ⟨hn.1,.ok a2⟩) λ_=>aD ⟨ba,.ok a2⟩
theorem xY(hc:jY C)(hG:GOk C n G)(p:Pre C (n+1) 5 100300000 m s):(R.eval_run_receives G s f).sat (cp C (m+100300000) s.2.2.2.2.2.2.1 s):=by
 unfold R.eval_run_receives;have pm:=p.hm
 have hm:m<=2^39:=by omega
 refine aA λ_=>aB (R:=λb=>b=false->f.1=6/\FnC s f.2.2.2.2) (pA (λ_=>aD λe=>by cases e) λh6=>aB ni λq hq=>aA λ_=>aD λe=>⟨h6,?_⟩) λb hb=>aG (λ_=>aW (bG (gd p.run hm) λ_ hr=>hr.up (by omega))) λeb=>?_
 ·have e:q=3:=eq_of_beq (by cases h:(q == 3)<;>simp_all)
  rcases hq with ⟨h0,_⟩|⟨i0,c,hc',e'⟩
  ·rw [h0] at e;cases e
  ·exact ⟨i0,c,hc',e'.symm.trans e⟩
 ·obtain ⟨h6,hF⟩:=hb eb;refine aB (rf p.run hc.A (qY 10 rfl (by decide) (by decide) l0 (Nat.zero_le _) nw0 z6)) λr2 ⟨h2,_⟩=>aA λ_=>bZ (λ_=>aD ⟨ba,h2.up (by omega)⟩) λe2=>?_;have a2:=h2.a0 e2;refine aB (R:=λq:Int=>0<=q/\q<=9007199254740991) (aB (R:=λb=>b=false->LE.le (α:=Int) (0) (r2.1.1.2.2.2.1)/\LE.le (α:=Int) (r2.1.1.2.2.2.1) (9007199254740991)) (dt (λ_=>aD λe=>by cases e) λh0=>aD λe=>⟨h0,Int.not_lt.1 (of_decide_eq_false e)⟩) λb hb=>aG (λ_=>aD ⟨by decide,by decide⟩) λe=>aD (hb e)) λq hq=>aB (pN a2.run hm (.sh1 rfl hq) rfl rfl ba) λr3 h3=>aA λ_=>?_;have h3:=h3.cat a2;refine bZ (λ_=>aD (h3.up (by omega))) λe3=>?_;have a3:=h3.2.a0 e3;refine aB (hG.callF (l:=[r3.1.1]) (p.go a3 (by decide) pm) h6 (hF.ext a3.ext) ba ⟨(show 1<=20000 by decide),λw hw=>?_⟩) λr4 h4=>aA λ_=>?_
  ·cases List.mem_singleton.1 hw;exact h3.1
  ·have h4:=h4.cat a3;exact bZ (λ_=>aD h4) λe4=>aD ⟨ba,.ok (h4.2.a0 e4)⟩
end
end Go.Mach

set_option maxRecDepth 100000
namespace Go.Mach
open Res
theorem gok{C:Cx}(hc:jY C):∀ n:Nat,GOk C n (bz n)
 |0=>⟨λp=>(p.no (by decide)).elim,λp=>(p.no (by decide)).elim,λp=>(p.no (by decide)).elim,λp=>(p.no (by decide)).elim,λp=>(p.no (by decide)).elim,λp=>(p.no (by decide)).elim,λp=>(p.no (by decide)).elim,λp=>(p.no (by decide)).elim,λp=>(p.no (by decide)).elim,λp=>(p.no (by decide)).elim,λp=>(p.no (by decide)).elim,λp=>(p.no (by decide)).elim,λp=>(p.no (by decide)).elim,λp=>(p.no (by decide)).elim,λp=>(p.no (by decide)).elim,λp=>(p.no (by decide)).elim,λp=>(p.no (by decide)).elim,λp=>(p.no (by decide)).elim,λp=>(p.no (by decide)).elim,λp=>(p.no (by decide)).elim,λp=>(p.no (by decide)).elim,λp=>(p.no (by decide)).elim,λp=>(p.no (by decide)).elim,λp=>(p.no (by decide)).elim,λp=>(p.no (by decide)).elim,λp=>(p.no (by decide)).elim,λp=>(p.no (by decide)).elim,λp=>(p.no (by decide)).elim,λp=>(p.no (by decide)).elim,λp=>(p.no (by decide)).elim,λp=>(p.no (by decide)).elim,λp=>(p.no (by decide)).elim,λp=>(p.no (by decide)).elim,λp=>(p.no (by decide)).elim,λp=>(p.no (by decide)).elim⟩
 |n+1=>by
  have h:=gok hc n
  exact {
   list:=DH hc h
   statement:=wY hc h
   act:=Fo hc h
   gx:=vV hc h
   block:=CK hc h
   decls:=BI hc h
   choice:=As hc h
   Ew:=CA hc h
   loop:=EL hc h
   try_:=FR hc h
   value:=B9 hc h
   asked:=CH hc h
   first:=CL hc h
   Fq:=B1 hc h
   array:=Br hc h
   object:=Aj hc h
   operation:=wV hc h
   unary:=BA hc h
   step:=DJ hc h
   binary:=Ab hc h
   logic:=BT hc h
   assign:=AE hc h
   callee:=Al hc h
   arguments:=λp=>xG hc h p
   fresh:=Bj hc h
   property:=property_step hc h
   parts:=Bu hc h
   called:=zn hc h
   call:=DU hc h
   callF:=Bq hc h
   builds:=zt hc h
   apply:=λp=>Bb hc h p
   does:=DA hc h
   host:=Dp hc h
   zw:=xY hc h
  }
end Go.Mach

set_option maxRecDepth 100000
namespace Go.Mach
open Res
instance GL{k}:Safe (R.jd k):=by unfold R.jd;exact dw0
instance FI{l}:Safe (R.jW l):=by
 unfold R.jW;refine ⟨aA λh=>?_⟩;simp only [Sg.i,oks,Sh.ok,Ty.ok,List.map,Par.v,Bool.and_eq_true] at h;have:=la h;refine aB (mD (λi=>i) l.length (by omega) (by omega) (by omega) λi h0 h1=>?_).ok λx _=>(dw0:Safe _).ok;refine dt (λhi=>bM h0 (by omega) λ_ _ _=>fN (ga h0 (ga h1 (q_b λ_=>aG (λ_=>aD trivial) λ_=>aD ⟨rfl,hi,trivial⟩)))) λ_=>aD trivial
instance EH{a b}:Safe (R.iA a b):=by unfold R.iA;exact dw0
instance Ho{l f}:Safe (R.av l f):=by
 unfold R.av R.bC;refine ⟨aA λ_=>cz (aA λh=>?_)⟩;simp only [Sg.i,oks,Sh.ok,Ty.ok,List.map,Par.v,Bool.and_eq_true] at h;have:=la h.1;refine aB (mD (λi=>i) l.length (by omega) (by omega) (by omega) λi h0 h1=>?_).ok λx _=>bG (dw0:Safe _).ok λ_ _=>aA λ_=>aD trivial;exact dt (λhi=>bM h0 (by omega) λ_ _ _=>q_b λ_=>aG (λ_=>aD trivial) λ_=>aD ⟨rfl,hi,trivial⟩) λ_=>aD trivial
section
variable {t:List eH}{n:Int}{up:List Int}
structure UpI (t:List eH) (up:List Int):Prop where
 len:up.length=t.length
 lt:∀ (j:Nat) (v:Int),up[j]?=some v->-1<=v/\v < (j:Int)/\(0 < j->0<=v)
theorem UpI.set(h:UpI t up){k i:Int}(i0:0<=i)(hk:i < k):UpI t (up.set k.toNat i):=by
 refine ⟨by rw [List.length_set];exact h.len,λj v hv=>?_⟩;by_cases hj:k.toNat=j
 ·subst hj;have hl:=(List.getElem?_eq_some_iff.1 hv).1;rw [List.length_set] at hl;rw [List.getElem?_set_self hl] at hv;cases hv;exact ⟨by omega,by omega,λ_=>i0⟩
 ·rw [List.getElem?_set_ne hj] at hv;exact h.lt j v hv
theorem B3(hg:ph t)(hf:rK t)(ho:rL t t.length):(R.gR t).sat (UpI t):=by
 unfold R.gR;have hp:=hg.pos;have hl:=hg.len
 have e0:Int.toNat (t.length:Int)=t.length:=by omega
 refine aA λ_=>fN (ga (by omega) (fN (ga (Int.le_refl _) (n_d (by omega) (fN (ga (by decide) (oK (by rw [List.length_replicate];omega) (bP (by decide) (by show 0 < (List.replicate _ _).length;rw [List.length_replicate];omega) λ_ _ _=>?_))))))));refine aB (fP (Q:=UpI t) (λx=>x.1) t.length (by omega) (λx=>UpI t x.2) (by simp) (by simp) ⟨by show (List.set _ _ _).length=_;rw [List.length_set,List.length_replicate,e0],λj v hv=>?_⟩ λx h0 h1 hI=>?_) λr hr=>aD hr
 ·have hv:(List.set (List.replicate (Int.toNat (t.length:Int)) (0:Int)) (0+Int.toNat 0) (-1))[j]?=some v:=hv;by_cases hj:j=0
  ·subst hj
   rw [show 0+Int.toNat 0=0 from rfl,List.getElem?_set_self (by rw [List.length_replicate];omega)] at hv
   cases hv;exact ⟨by decide,by decide,λh=>absurd h (by decide)⟩
  ·rw [List.getElem?_set_ne (by show ¬ 0+Int.toNat 0=j;exact λh=>hj h.symm)] at hv;have:=List.mem_of_getElem? hv;rw [List.mem_replicate] at this;rw [this.2];exact ⟨by decide,by omega,λ_=>Int.le_refl _⟩
 ·obtain ⟨i,l⟩:=x;have h0:0<=i:=h0;have hI:UpI t l:=hI;refine dt (λhi=>?_) λ_=>aD hI;have hi:i < (t.length:Int):=hi;refine bM h0 (by omega) λx hx _=>?_;have hx:t[i.toNat]?=some x:=hx;have hk:=hf.one _ x hx;have hord:=ho _ x (by omega) hx;refine aB (fP (Q:=UpI t) (λx=>x.1) (x.2.2.2.2.2).length (by omega) (λy=>UpI t y.2) (by simp) (by simp) hI λy y0 y1 yI=>?_) λr hr=>aD ⟨rfl,hi,hr⟩;obtain ⟨j,q⟩:=y;have y0:0<=j:=y0;have yI:UpI t q:=yI;refine dt (λhj=>?_) λ_=>aD yI;have hj:j < ((x.2.2.2.2.2).length:Int):=hj;refine bP y0 (by show _ < (x.2.2.2.2.2).length;omega) λk hk _=>?_;have ka:=hord _ k hk;have ka1:LT.lt (α:=Int) ((i.toNat:Int)) (k):=ka.1;have ka2:LT.lt (α:=Int) (k) ((t.length:Int)):=ka.2;have hql:=yI.len;refine fN (ga (by omega) (oK (by show LT.lt (α:=Int) (k) ((q.length:Int));omega) (bP (by omega) (by show ((0:Int)+(Int.toNat k:Int)).toNat < q.length;omega) λ_ _ _=>aD ⟨rfl,hj,?_⟩)));show UpI t (List.set q (0+Int.toNat k) i);rw [Nat.zero_add];exact yI.set h0 (by omega)
theorem Ca(hu:UpI t up){i:Int}(i0:0<=i)(hi:i.toNat < t.length){β:Type}{Q:β->Prop}{f:Int->Res β}(hf:∀ v,-1<=v/\v < i/\(0 < i->0<=v)->(f v).sat Q):(cy .i up i f).sat Q:=bM i0 (by have:=hu.len;show _ < up.length;omega) λv hv _=>by
 have h:=hu.lt _ v hv;exact hf v ⟨h.1,by omega,λg=>h.2.2 (by omega)⟩
theorem uN(hg:ph t)(hu:UpI t up)(n0:0<=n)(hn:n.toNat < t.length):(R.ef t up n).sat λr=>∀ k∈r.1,0<=k/\k < (t.length:Int):=by
 unfold R.ef;have hl:=hg.len
 refine aA λ_=>Ca hu n0 hn λv hv=>aB (kI (Q:=λr:List Int ⊕ (List Int×Int)=>match r with|.inl l=>∀ k∈l,0<=k/\k < (t.length:Int)|.inr r=>∀ k∈r.1,0<=k/\k < (t.length:Int)) (λy=>(y.1+1).toNat) (by show (v+1).toNat<=_;omega) (λy=>-1<=y.1/\y.1 < (t.length:Int)/\(y.2.length:Int)+y.1<=(t.length:Int)/\∀ k∈y.2,0<=k/\k < (t.length:Int)) ⟨hv.1,by show v < (t.length:Int);omega,by show ((0:Nat):Int)+v<=(t.length:Int);omega,by simp⟩ λy ⟨y1,y2,y3,y4⟩=>?_) λr hr=>?_
 ·obtain ⟨i,l⟩:=y;have y1:-1<=i:=y1;have y2:i < (t.length:Int):=y2;have y3:(l.length:Int)+i<=(t.length:Int):=y3;have y4:∀ k∈l,0<=k/\k < (t.length:Int):=y4;refine lW (λi0=>?_) λ_=>aD y4;have i0:0<=i:=i0;refine bM i0 (by omega) λx _ _=>q_b λ_=>aG (λ_=>aD y4) λ_=>ax (decide_eq_true ?_) (Ca hu i0 (by omega) λw hw=>aD ⟨?_,?_,?_,?_,?_⟩)
  ·show (l.length+1)*8<=2^47;omega
  ·show (w+1).toNat < (i+1).toNat;omega
  ·exact hw.1
  ·show w < (t.length:Int);omega
  ·show ((l++[i]).length:Int)+w<=(t.length:Int);rw [List.length_append];simp;omega
  ·exact rh y4 ⟨i0,y2⟩
 ·cases r with
  |inl l=>exact i6 (aD hr)
  |inr q=>exact jD (aD hr)
theorem FH(hg:ph t)(hf:rK t)(n0:0<=n)(hn:n.toNat < t.length){p:Int}(hp:p < n):(R.jV t n p).sat λ_=>True:=by
 unfold R.jV;refine aA λ_=>aB (R:=λb=>b=false->0<=p) (dt (λ_=>aD λe=>by cases e) λp0=>bM n0 hn λx _ _=>pA (λ_=>aD λ_=>p0) λ_=>bM p0 (by omega) λy _ _=>q_b λ_=>dK (aG (λ_=>aD λ_=>p0) λ_=>bM p0 (by omega) λz _ _=>aD λ_=>p0)) λb hb=>aG (λ_=>aD trivial) λe=>aB (sS hg hf (hb e) (by have:=hb e;omega)) λ_ _=>aA λ_=>aB (sS hg hf n0 hn) λ_ _=>aA λ_=>q_b λ_=>aD trivial
theorem Dh{l:List Int}(hl:∀ k∈l,0<=k/\k < (t.length:Int)){z}:(R.bD l (t,z)).sat λ_=>True:=by
 unfold R.bD R.bL;refine aA λ_=>cz (aA λh=>?_);simp only [Sg.i,oks,Sh.ok,Ty.ok,List.map,Par.v,Bool.and_eq_true] at h;have:=la h.1;refine aB (mD (λi=>i) l.length (by omega) (by omega) (by omega) λi h0 h1=>?_).ok λx _=>bG (dw0:Safe _).ok λ_ _=>aA λ_=>aD trivial;refine dt (λhi=>bM h0 (by omega) λk hk _=>aB (R:=λ_=>True) ?_ λ_ _=>aG (λ_=>aD trivial) λ_=>aD ⟨rfl,hi,trivial⟩) λ_=>aD trivial;have hk:=hl k (List.mem_of_getElem? hk);unfold R.iP;exact aA λ_=>bM hk.1 (by show k.toNat < t.length;omega) λ_ _ _=>bH (λ_=>bM hk.1 (by show k.toNat < t.length;omega) λ_ _ _=>aD trivial) λ_=>aD trivial
theorem AU(hg:ph t)(ho:rL t t.length)(n0:0<=n)(hn:n < (t.length:Int)):(R.fh t n).sat λ_=>True:=by
 unfold R.fh;have hl:=hg.len;refine aA λ_=>aB (kI (Q:=λr:Int=>0<=r/\r < (t.length:Int)) (λi=>(t.length:Int).toNat-i.toNat) (by omega) (λi=>0<=i/\i < (t.length:Int)) ⟨n0,hn⟩ λi ⟨i0,i1⟩=>?_) λr ⟨r0,r1⟩=>bM r0 (by omega) λ_ _ _=>aD trivial;have i0:0<=i:=i0;have i1:i < (t.length:Int):=i1;refine bM i0 (by omega) λx hx _=>bH (λh18=>bM i0 (by omega) λy hy _=>?_) λ_=>aD ⟨i0,i1⟩;have hx:t[i.toNat]?=some x:=hx;have:some x=some y:=hx.symm.trans hy;cases this;have h1:=(hg.nod _ x hx).len
 rw [show x.1=18 from h18] at h1
 have h1:1<=(x.2.2.2.2.2).length:=h1;refine bP (by decide) (by show 0 < (x.2.2.2.2.2).length;omega) λk hk _=>aD ?_;have:=ho _ x (by omega) hx _ k hk;exact ⟨by show (t.length:Int).toNat-k.toNat < (t.length:Int).toNat-i.toNat;omega,by omega,this.2⟩
theorem Fu(hg:ph t)(ho:rL t t.length){x:eH}{l:List Int}(hl:∀ k∈l,0<=k/\k < (t.length:Int)):(R.jT t x l).sat λ_=>True:=by
 unfold R.jT;refine aA λh=>?_;simp only [Sg.i,oks,Sh.ok,Ty.ok,List.map,Par.v,Bool.and_eq_true] at h;have:=la h.2.2;refine aB (mD (λi=>i) l.length (by omega) (by omega) (by omega) λi h0 h1=>?_).ok λx _=>(dw0:Safe _).ok;refine dt (λhi=>bM h0 (by omega) λk hk _=>?_) λ_=>aD trivial;have hk:=hl k (List.mem_of_getElem? hk);exact bM hk.1 (by omega) λy _ _=>aB (dw0:Safe _).ok λ_ _=>aG (λ_=>aD trivial) λ_=>aB (dw0:Safe _).ok λ_ _=>aG (λ_=>bH (λ_=>aD trivial) λ_=>aB (AU hg ho hk.1 hk.2) λ_ _=>aA λ_=>q_b λ_=>aD trivial) λ_=>aD ⟨rfl,hi,trivial⟩
theorem Eh(hg:ph t)(hf:rK t)(ho:rL t t.length)(hu:UpI t up)(n0:0<=n)(hn:n.toNat < t.length):(R.jX t up n).sat λ_=>True:=by
 unfold R.jX;refine aA λ_=>bM n0 hn λx hx _=>aB (R:=λ_=>True) (aB (sS hg hf n0 hn) λ_ _=>aA λ_=>q_b λ_=>aG (λ_=>aD trivial) λ_=>Ca hu n0 hn λv hv=>aB (FH hg hf n0 hn hv.2.1) λ_ _=>aD trivial) λ_ _=>aG (λ_=>aD trivial) λ_=>bH (λh7=>Ca hu n0 hn λv hv=>?_) λ_=>bH (λ_=>aB (uN hg hu n0 hn) λr hr=>aA λ_=>aB (Dh hr) λ_ _=>aD trivial) λ_=>aB (dw0:Safe _).ok λ_ _=>aG (λ_=>aB (uN hg hu n0 hn) λr hr=>aA λ_=>aB (Fu hg ho hr) λ_ _=>aD trivial) λ_=>bH (λ_=>aB (uN hg hu n0 hn) λr hr=>aA λ_=>aD trivial) λ_=>aD trivial;have hx:t[n.toNat]?=some x:=hx
 have hne:0 < n:=by
  obtain ⟨y,hy,e⟩:=hg.rt;apply Classical.byContradiction;intro h
  have:n.toNat=0:=by omega
  rw [this] at hx;have:some x=some y:=hx.symm.trans hy;cases this;exact absurd (e.symm.trans h7) (by decide)
 have hv0:=hv.2.2 hne;exact bM hv0 (by omega) λy _ _=>bH (λ_=>aD trivial) λ_=>aD trivial
theorem uL(hf:rK t):(R.bj t).sat λr=>Eq (α:=Int) (r.2) (0)->ph t/\rL t t.length:=by
 unfold R.bj
 refine aA λ_=>aB (may_ok hf) λb hb=>dK (aG (λe=>?_) λ_=>aD λe=>absurd (show (2:Int)=0 from e) (by decide))
 obtain ⟨hg,ho⟩:=hb e;have hl:=hg.len;refine aB (B3 hg hf ho) λup hu=>aA λ_=>aB (mD (λi=>i) t.length (by omega) (by omega) (by omega) λi h0 h1=>?_).ok λx _=>?_
 ·exact dt (λhi=>aB (Eh hg hf ho hu h0 (by omega)) λ_ _=>aG (λ_=>aD trivial) λ_=>aD ⟨rfl,hi,trivial⟩) λ_=>aD trivial
 ·cases x with
  |inl _=>exact i6 (aD λ_=>⟨hg,ho⟩)
  |inr z=>exact jD (aD λ_=>⟨hg,ho⟩)
end
end Go.Mach

set_option maxRecDepth 100000
namespace Go.Mach
open Res
abbrev EndI:=cE.den
abbrev uc:=bk.den
def tg(r:vm×EndI):Prop:=(r.2=(0,([]:List Int))/\xL r.1)\/(r.1=req0/\LE.le (α:=Int) (1) (r.2.1)/\LE.le (α:=Int) (r.2.1) (6)/\(Eq (α:=Int) (r.2.1) (2)\/r.2.2=[]))
theorem Dy{C:Cx}{m:Int}{s:RunT}{v:dZ}(h:gq C m s)(hm:m<=2^39):(R.eY s v).sat λ_=>True:=by
 unfold R.eY;obtain ⟨B,g1,_,_⟩:=h.heap hm;refine aA λ_=>pA (λ_=>q_b λ_=>aA λ_=>aD trivial) λ_=>aB (oo g1) λr hr=>aA λ_=>aB (R:=λb=>b=true->r.2=true) (aG (λe=>aD λ_=>e) λ_=>aD λe=>by cases e) λb hb=>aG (λe=>?_) λ_=>aB (dL (by decide)) λ_ _=>aA λ_=>aD trivial;have:=hr.nn (hb e);exact aB (dL (by omega)) λ_ _=>aA λ_=>aD trivial
def mayL(lim:uc):Bool:=decide ((LE.le (α:=Int) (0) (lim.1)/\LE.le (α:=Int) (lim.1) (4096))/\(LE.le (α:=Int) (1) (lim.2.1)/\LE.le (α:=Int) (lim.2.1) (200))/\LE.le (α:=Int) (0) (lim.2.2)/\LE.le (α:=Int) (lim.2.2) (100000))
theorem qf{lim:uc}:(R.fM lim).sat (·=mayL lim):=by
 unfold R.fM mayL;have no:∀ {p:Prop} [Decidable p],¬ p->false=decide p:=λh=>(decide_eq_false h).symm;refine aA λ_=>lW (λh1=>lW (λh2=>lW (λh3=>lW (λh4=>lW (λh5=>aD ?_) λh5=>aD (no ?_)) λh4=>aD (no ?_)) λh3=>aD (no ?_)) λh2=>aD (no ?_)) λh1=>aD (no ?_)
 ·show decide (LE.le (α:=Int) (lim.2.2) (100000))=decide _;congr 1;exact propext ⟨λh=>⟨⟨h1,h2⟩,⟨h3,h4⟩,h5,h⟩,λh=>h.2.2.2⟩
 ·exact λh=>absurd h.2.2.1 (Int.not_le.2 h5)
 ·exact λh=>absurd h.2.1.2 (Int.not_le.2 h4)
 ·exact λh=>absurd h.2.1.1 (Int.not_le.2 h3)
 ·exact λh=>absurd h.1.2 (Int.not_le.2 h2)
 ·exact λh=>absurd h.1.1 (Int.not_le.2 h1)
theorem BL{C:Cx}(hc:jY C){s:RunT}(h:gq C 402653184000 s)(hd:Eq (α:=Int) (s.2.2.2.2.2.1) (0)):(R.eB s).sat (nx C 402753284000 s.2.2.2.2.2.2.1 s):=by
 unfold R.eB;have hD:=hc.D;have a0:=Aft.refl h;obtain ⟨x,hx,_⟩:=hc.tr.rt;have hx0:C.N[(0:Int).toNat]?=some x:=hx;refine aA λ_=>aB (qU h (by decide)) λr1 ⟨g1,_⟩=>aA λ_=>bZ (λ_=>aD ⟨ba,g1.up (by decide)⟩) λe1=>?_;have a1:=g1.a0 e1;refine aB (rS hc a1.run (by decide) (Int.le_refl 0) hx0 ba) λr2 ⟨v2,g2⟩=>aA λ_=>bZ (λ_=>aD ⟨v2,(Pst.cat a1 g2).up (by decide)⟩) λe2=>?_;have a2:=(Pst.cat a1 g2).a0 e2;have hd2:Eq (α:=Int) (r2.2.2.2.2.2.2.1) (s.2.2.2.2.2.1):=a2.dp;refine jZ a2.run (Int.le_refl 0) hx0 (aW (bG ((gok hc fuel).list ⟨a2.run,?_,by decide⟩ ⟨_,hx⟩ ba) λ_ hr=>⟨hr.1,(Pst.cat a2 hr.2).up (by decide)⟩))
 have hf:(fuel:Int)=2^70:=by decide
 show 20*(HSub.hSub (α:=Int) (β:=Int) (γ:=Int) (C.D) (r2.2.2.2.2.2.2.1))+2<=(fuel:Int);rw [hd2,hd,hf];omega
theorem uw{t:List eH}{lim:uc}{l:List qO}(hg:ph t)(hf:rK t)(ho:rL t t.length)(h1:LE.le (α:=Int) (0) (lim.1)/\LE.le (α:=Int) (lim.1) (4096))(h2:LE.le (α:=Int) (1) (lim.2.1)/\LE.le (α:=Int) (lim.2.1) (200))(h3:LE.le (α:=Int) (0) (lim.2.2)/\LE.le (α:=Int) (lim.2.2) (3000))(hl:l.length<=2^40):(R.dN t lim l).sat tg:=by
 unfold R.dN R.mO;refine aA λ_=>cz (aA λ_=>aD (aA λ_=>?_));have hc:jY ⟨t,lim.1,lim.2.1,lim.2.2,l⟩:=⟨hg,hf,ho,h3.2,h2.2,hl⟩
 have hr:lQ (sZ lim.1 0) 4096<=4096:=by rw [gN];omega
 refine aB (BL hc (s:=(t,(lim,(l,(0,((lQ (sZ lim.1 0) 4096,[]),(0,(0,(req0,(0,[])))))))))) ⟨rfl,rfl,rfl,Int.le_refl 0,by show (0:Int)<=(l.length:Int);omega,⟨0,⟨hr,Nat.zero_le _,λi c hc=>by cases hc⟩,?_⟩,Int.le_refl 0,by show (0:Int)<=lim.2.1;omega,Int.le_refl 0,h3.1,rfl,rfl⟩ rfl) λr ⟨v,g⟩=>aA λ_=>?_
 ·show ((0:Nat):Int)+134217728*(HSub.hSub (α:=Int) (β:=Int) (γ:=Int) (lim.2.2) (0))<=402653184000;omega
 ·rcases g with ⟨e5,hh⟩|⟨e5,ha⟩
  ·refine bH (λ_=>aD ?_) λh=>absurd e5 h;rcases hh.hs with ⟨e1,e2⟩|⟨k,k0,k1,e1,e2⟩
   ·exact .inl ⟨e1,e2⟩
   ·refine .inr ⟨e2,?_,?_,?_⟩
    ·show LE.le (α:=Int) (1) ((r.2.2.2.2.2.2.2.2.2).1);rw [e1];show 1<=k;omega
    ·show LE.le (α:=Int) ((r.2.2.2.2.2.2.2.2.2).1) (6);rw [e1];exact k1
    ·right;show (r.2.2.2.2.2.2.2.2.2).2=[];rw [e1]
  ·exact bH (λh=>absurd h e5) λ_=>bH (λ_=>aB (Dy ha.run (by decide)) λ_ _=>aA λ_=>aD (.inr ⟨rfl,show (1:Int)<=2 by decide,show (2:Int)<=6 by decide,.inl rfl⟩)) λ_=>aD (.inr ⟨rfl,show (1:Int)<=1 by decide,show (1:Int)<=6 by decide,.inr rfl⟩)
end Go.Mach

