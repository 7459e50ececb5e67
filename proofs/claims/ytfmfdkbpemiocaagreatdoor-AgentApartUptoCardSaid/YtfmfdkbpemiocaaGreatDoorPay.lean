/-
  Shared texts of the proofs of the laws renlaw13.AgentRefuses, renlaw13.AgentIs and renlaw13.AgentApart: each returns true for every input of the stated bulk and leaves its arguments as they were; no further condition.
  By an AI agent; no person has read it.
-/
import Derived.Test.YtfmfdkbpemiocaaGreatDoorPac
import Derived.Test.YtfmfdkbpemiocaaGreatDoorPae
import Derived.Lib.ItoaLen
set_option linter.all false
set_option linter.deprecated false
set_option maxRecDepth 100000
namespace Go.Mach
open Res
theorem dw0{P:Prop}(h:P:=by repeat' (first|with_reducible (first|apply Safe.g'|apply Safe.br'|apply Safe.bd'|apply Safe.sm'|intro _|infer_instance))):P:=h
theorem dw1{P:Prop}(h:P:=by repeat' (first|with_reducible (first|refine aD ?_|refine aA λ_=>?_|refine dK ?_|refine dt (λ_=>?_) λ_=>?_|refine lW (λ_=>?_) λ_=>?_|refine bH (λ_=>?_) λ_=>?_|refine fS rfl ?_|refine fb rfl ?_|refine aG (λ_=>?_) λ_=>?_|refine mQ ?_|refine zW ?_|refine uF ?_|refine q_e ?_|refine q_p λ_ _=>?_|refine q_b λ_=>?_|refine bM ?_ ?_ λ_ _ _=>?_|refine bP ?_ ?_ λ_ _ _=>?_|refine fN ?_|refine aB (dL ?_) λ_ _=>?_|refine ga ?_ ?_|refine oK ?_ ?_|refine sx ?_ ?_|refine n_d ?_ ?_|refine ta (λ_=>?_) λ_=>?_|exact safe|refine cz ?_)|exact trivial|dsimp only [Nx,Dn]|with_reducible (first|rfl|refine And.intro ?_ ?_|intro _|contradiction)|omega|refine ax (by decide) ?_|(simp (disch:=omega) only [wrap64,gN,j9,List.length_append,List.length_cons,List.length_nil,List.length_take,List.length_drop,List.length_set,List.length_replicate,List.length_reverse]<;>omega)|(simp (disch:=omega) only [wrap64,gN,j9,List.length_append,List.length_cons,List.length_nil,List.length_take,List.length_drop,List.length_set,List.length_replicate,List.length_reverse] at*<;> omega)|exact Int.tmod_nonneg _ (by omega)|(simp_all [gI,mR,lu,oM]<;>omega))):P:=h
theorem dw2{P:Prop}(h:P:=by repeat' (first|with_reducible (first|refine aD ?_|refine aA λ_=>?_|refine dK ?_|refine dt (λ_=>?_) λ_=>?_|refine lW (λ_=>?_) λ_=>?_|refine bH (λ_=>?_) λ_=>?_|refine fS rfl ?_|refine fb rfl ?_|refine aG (λ_=>?_) λ_=>?_|refine mQ ?_|refine zW ?_|refine uF ?_|refine q_e ?_|refine q_p λ_ _=>?_|refine q_b λ_=>?_|refine bM ?_ ?_ λ_ _ _=>?_|refine bP ?_ ?_ λ_ _ _=>?_|refine fN ?_|refine aB (dL ?_) λ_ _=>?_|refine aB (oY ?_ ?_) λ_ _=>?_|refine aB (qd ?_ ?_) λ_ _=>?_|refine aB (qo ?_ ?_) λ_ _=>?_|refine aB (se ?_) λ_ _=>?_|refine aB (xf ?_ ?_) λ_ _=>?_|refine ga ?_ ?_|refine oK ?_ ?_|refine sx ?_ ?_|refine n_d ?_ ?_|refine ta (λ_=>?_) λ_=>?_|exact safe|refine cz ?_)|exact trivial|dsimp only [Nx,Dn]|with_reducible (first|rfl|refine And.intro ?_ ?_|intro _|contradiction)|omega|refine ax (by decide) ?_|(simp (disch:=omega) only [wrap64,gN,j9,List.length_append,List.length_cons,List.length_nil,List.length_take,List.length_drop,List.length_set,List.length_replicate,List.length_reverse]<;>omega)|(simp (disch:=omega) only [wrap64,gN,j9,List.length_append,List.length_cons,List.length_nil,List.length_take,List.length_drop,List.length_set,List.length_replicate,List.length_reverse] at*<;> omega)|exact Int.tmod_nonneg _ (by omega)|(simp_all [gI,mR,lu,oM]<;>omega))):P:=h
theorem dw3{P:Prop}(h:P:=by repeat' (first|with_reducible (first|refine aD ?_|refine aA λ_=>?_|refine dK ?_|refine dt (λ_=>?_) λ_=>?_|refine lW (λ_=>?_) λ_=>?_|refine bH (λ_=>?_) λ_=>?_|refine fS rfl ?_|refine fb rfl ?_|refine aG (λ_=>?_) λ_=>?_|refine mQ ?_|refine zW ?_|refine uF ?_|refine q_e ?_|refine q_p λ_ _=>?_|refine q_b λ_=>?_|refine bM ?_ ?_ λ_ _ _=>?_|refine bP ?_ ?_ λ_ _ _=>?_|refine fN ?_|refine aB (dL ?_) λ_ _=>?_|refine aB (oY ?_ ?_) λ_ _=>?_|refine ga ?_ ?_|refine oK ?_ ?_|refine sx ?_ ?_|refine n_d ?_ ?_|refine ta (λ_=>?_) λ_=>?_|exact safe|refine cz ?_)|exact trivial|dsimp only [Nx,Dn]|with_reducible (first|rfl|refine And.intro ?_ ?_|intro _|contradiction)|omega|refine ax (by decide) ?_|(simp (disch:=omega) only [wrap64,gN,j9,List.length_append,List.length_cons,List.length_nil,List.length_take,List.length_drop,List.length_set,List.length_replicate,List.length_reverse]<;>omega)|(simp (disch:=omega) only [wrap64,gN,j9,List.length_append,List.length_cons,List.length_nil,List.length_take,List.length_drop,List.length_set,List.length_replicate,List.length_reverse] at*<;> omega)|exact Int.tmod_nonneg _ (by omega)|(simp_all [gI,mR,lu,oM]<;>omega))):P:=h
theorem dw4{P:Prop}(h:P:=by repeat' (first|with_reducible (first|refine aD ?_|refine aA λ_=>?_|refine dK ?_|refine dt (λ_=>?_) λ_=>?_|refine lW (λ_=>?_) λ_=>?_|refine bH (λ_=>?_) λ_=>?_|refine fS rfl ?_|refine fb rfl ?_|refine aG (λ_=>?_) λ_=>?_|refine mQ ?_|refine zW ?_|refine uF ?_|refine q_e ?_|refine q_p λ_ _=>?_|refine q_b λ_=>?_|refine bM ?_ ?_ λ_ _ _=>?_|refine bP ?_ ?_ λ_ _ _=>?_|refine fN ?_|refine aB (dL ?_) λ_ _=>?_|refine aB (oY ?_ ?_) λ_ _=>?_|refine aB (qd ?_ ?_) λ_ _=>?_|refine aB (qo ?_ ?_) λ_ _=>?_|refine ga ?_ ?_|refine oK ?_ ?_|refine sx ?_ ?_|refine n_d ?_ ?_|refine ta (λ_=>?_) λ_=>?_|exact safe|refine cz ?_)|exact trivial|dsimp only [Nx,Dn]|with_reducible (first|rfl|refine And.intro ?_ ?_|intro _|contradiction)|omega|refine ax (by decide) ?_|(simp (disch:=omega) only [wrap64,gN,j9,List.length_append,List.length_cons,List.length_nil,List.length_take,List.length_drop,List.length_set,List.length_replicate,List.length_reverse]<;>omega)|(simp (disch:=omega) only [wrap64,gN,j9,List.length_append,List.length_cons,List.length_nil,List.length_take,List.length_drop,List.length_set,List.length_replicate,List.length_reverse] at*<;> omega)|exact Int.tmod_nonneg _ (by omega)|(simp_all [gI,mR,lu,oM]<;>omega))):P:=h
theorem dw5{P:Prop}(h:P:=by repeat' (first|with_reducible (first|refine aD ?_|refine aA λ_=>?_|refine dK ?_|refine dt (λ_=>?_) λ_=>?_|refine lW (λ_=>?_) λ_=>?_|refine bH (λ_=>?_) λ_=>?_|refine fS rfl ?_|refine fb rfl ?_|refine aG (λ_=>?_) λ_=>?_|refine mQ ?_|refine zW ?_|refine uF ?_|refine q_e ?_|refine q_p λ_ _=>?_|refine q_b λ_=>?_|refine bM ?_ ?_ λ_ _ _=>?_|refine bP ?_ ?_ λ_ _ _=>?_|refine fN ?_|refine ga ?_ ?_|refine oK ?_ ?_|refine sx ?_ ?_|refine n_d ?_ ?_|refine ta (λ_=>?_) λ_=>?_|exact safe|refine cz ?_)|exact trivial|dsimp only [Nx,Dn]|with_reducible (first|rfl|refine And.intro ?_ ?_|intro _|contradiction)|omega|refine ax (by decide) ?_|(simp (disch:=omega) only [wrap64,gN,j9,List.length_append,List.length_cons,List.length_nil,List.length_take,List.length_drop,List.length_set,List.length_replicate,List.length_reverse]<;>omega)|(simp (disch:=omega) only [wrap64,gN,j9,List.length_append,List.length_cons,List.length_nil,List.length_take,List.length_drop,List.length_set,List.length_replicate,List.length_reverse] at*<;> omega)|exact Int.tmod_nonneg _ (by omega)|(simp_all [gI,mR,lu,oM]<;>omega))):P:=h
instance (n):Safe (sE n):=⟨trivial⟩
instance (n):Safe (qN n):=by unfold qN;split<;>exact ⟨trivial⟩
instance (n c):Safe (ixbRun n c):=⟨trivial⟩
instance GX{a}:Safe (R.kQ a):=by
 unfold R.kQ;refine ⟨aA λh=>?_⟩;simp only [Sg.i,oks,Sh.ok,Ty.ok,List.map,Par.v,Bool.and_eq_true] at h;have:=oE h
 have hn:(lf a).length=a.length:=by simp [lf]
 refine aB (mD (λi=>i) a.length (by omega) (by omega) (by omega) λi h0 h1=>?_).ok λx _=>?_
 ·exact dw5
 ·cases a with
  |nil=>cases x<;>exact trivial
  |cons=>rw [List.length_cons] at hn;exact dw5
instance F6{a}:lb (R.ff a) (λr=>r.length<=a.length):=by
 unfold R.ff;refine ⟨aA λh=>?_⟩;simp only [Sg.i,oks,Sh.ok,Ty.ok,List.map,Par.v,Bool.and_eq_true] at h;have:=yw h;refine aB (kI (λm=>m.length) (by omega) (λm=>m.length<=a.length) (Nat.le_refl _) λm hm=>?_) λx hx=>hx;exact dw5
instance Hw{a}:lb (R.eK a) (λr=>r.length<=a.length):=by
 unfold R.eK;refine ⟨aA λh=>?_⟩;simp only [Sg.i,oks,Sh.ok,Ty.ok,List.map,Par.v,Bool.and_eq_true] at h;have:=la h;refine aB (kI (λm=>m.length) (by omega) (λm=>m.length<=a.length) (Nat.le_refl _) λm hm=>?_) λx hx=>hx;exact dw5
instance Hx{a b}:lb (R.ey a b) (λr=>r.2.length<=a.length):=by
 unfold R.ey;refine ⟨?_⟩;exact dw5
instance Gd{a}:lb (R.kj a) (λr=>r.1.2.length<=8):=by
 unfold R.kj;refine ⟨aA λh=>?_⟩;simp only [Sg.i,oks,Sh.ok,Ty.ok,List.map,Par.v,Bool.and_eq_true] at h;have:=oE h
 have hn (a:List UInt8):List.length (α:=(Ty.int IntKind.u8).den) (lf a)=a.length:=by simp [lf]
 have hn1:=hn a;refine aB (R:=λd:List UInt8×Bool=>d.1=a/\(d.2=true->0 < a.length)) ?_ λd ⟨hd,hd2⟩=>aB (R:=λd:List UInt8=>d.length<=a.length) ?_ λt ht=>?_
 ·refine dt (λh0=>bP (by omega) (by omega) λ_ _ _=>aD ⟨rfl,λ_=>by omega⟩) λ_=>aD ⟨rfl,λh=>by cases h⟩
 ·refine aG (λh=>?_) λ_=>aD (by rw [hd];exact Nat.le_refl _);have:=hd2 h;exact fN (ga (by omega) (ga (by omega) (aD (by simp))))
 ·have hn2:=hn t;refine aB (R:=λ_=>True) (by exact dw5) λ_ _=>aG (λ_=>aD (by simp)) λ_=>?_
  refine aB (fP (Q:=λm:List Int ⊕ (Int×aq.den)=>match m with|.inl m=>m.length<=8|.inr m=>m.2.2.length<=8) (λi=>i.2) t.length (by omega) (λx=>x.1.length<=8) (by simp) (by simp) (by simp) λi h0 h1 hI=>dt (λhi=>bP (by omega) (by omega) λ_ _ _=>aB (fP (Q:=λr=>r.2.length=i.1.length) (λi=>i.2.1) i.1.length (by omega) (λx=>x.2.2.length=i.1.length) (by simp) (by simp) (by simp) λk k0 k1 hK=>?_) λm hm=>?_) λ_=>?_) λx hx=>?_
  ·exact dw5
  ·exact dw5
  ·exact aD hI
  ·cases x with
   |inl m=>exact i6 (by have h8:List.length m<=8:=hx;exact dw5)
   |inr m=>exact jD (aD hx)
theorem dL{a}(hl:List.length a<=2^40):(R.bE a).sat (λr=>r.length=a.length):=by
 unfold R.bE;refine aA λh=>?_
 have hn:List.length (α:=(Ty.int IntKind.u8).den) (lf a)=a.length:=by simp [lf]
 refine aB (fP (Q:=λr=>r.length=a.length) (λi=>i.2) a.length (by omega) (λx=>x.1.length=x.2.toNat) (by simp) (by simp) (by simp) λi h0 h1 hI=>?_) λx hx=>?_<;>exact dw1
instance GM{x_0}:Safe (R.j6 x_0):=by unfold R.j6;exact dw0
instance GF{x_0}:Safe (R.iM x_0):=by unfold R.iM;exact dw0
instance zZ{a b}:Safe (R.dJ a b):=by
 unfold R.dJ;refine ⟨aA λh=>?_⟩;simp only [Sg.i,oks,Sh.ok,Ty.ok,List.map,Par.v,Bool.and_eq_true] at h;have:=la h.1
 refine aB (mD (λi=>i) a.length (by omega) (by omega) (by omega) λi h0 h1=>?_).ok λx _=>?_<;>exact dw1
instance xV{s_0 v_1}:Safe (R.ch s_0 v_1):=by unfold R.ch;exact dw0
instance EO{a}:Safe (R.iT a):=by
 unfold R.iT;refine ⟨aA λh=>?_⟩;simp only [Sg.i,oks,Sh.ok,Ty.ok,List.map,Par.v,Bool.and_eq_true] at h;have:=la h
 refine aB (mD (λi=>i.2) a.length (by omega) (by omega) (by simp) λi h0 h1=>?_).ok λx _=>?_<;>exact dw1
instance zY{a b}:Safe (R.dI a b):=by
 unfold R.dI;refine ⟨aA λh=>?_⟩;simp only [Sg.i,oks,Sh.ok,Ty.ok,List.map,Par.v,Bool.and_eq_true] at h;have:=la h.1
 refine dK (bH (λ_=>?_) λ_=>?_)<;>try exact aD trivial
 refine aB (mD (λi=>i) a.length (by omega) (by omega) (by omega) λi h0 h1=>?_).ok λx _=>?_<;>exact dw1
instance Gi{a_0 b_1}:Safe (R.jR a_0 b_1):=by unfold R.jR;exact dw0
instance Dk{x_0}:Safe (R.iB x_0):=by unfold R.iB;exact dw0
instance rD{a b}:Safe (R.aw a b):=by
 unfold R.aw;refine ⟨aA λh=>?_⟩;simp only [Sg.i,oks,Sh.ok,Ty.ok,List.map,Par.v,Bool.and_eq_true] at h;have:=la h.1
 refine aB (mD (λi=>i) a.length (by omega) (by omega) (by omega) λi h0 h1=>?_).ok λx _=>?_<;>exact dw1
instance qR{s_0 f_1}:Safe (R.au s_0 f_1):=by unfold R.au;exact dw0
instance GV{a}:Safe (R.jx a):=by
 unfold R.jx;refine ⟨aA λh=>?_⟩;simp only [Sg.i,oks,Sh.ok,Ty.ok,List.map,Par.v,Bool.and_eq_true] at h;have:=la h
 refine aB (mD (λi=>i.2) a.length (by omega) (by omega) (by simp) λi h0 h1=>?_).ok λx _=>?_<;>exact dw1
instance II{a_0}:Safe (R.lS a_0):=by unfold R.lS;exact dw0
instance H8:Safe (R.fL):=by unfold R.fL;exact dw0
instance DK{a}:lb (R.eQ a) (λr:Int×Int=>(r.1=0->-9007199254740991<=r.2/\r.2<=9007199254740991)/\(r.1≠0->1<=r.1/\r.1<=4/\r.2=0)):=⟨by
 unfold R.eQ R.lS R.fL;refine aA λ_=>cz (aA λ_=>bH (λ_=>lW (λ_=>?_) λ_=>?_) λ_=>aB (R:=λx=>x=true->1<=a.1/\a.1<=4) (by exact dw1) λ_ _=>?_)
 ·refine aD (dK (lW (λ_=>aD ?_) λ_=>cz (aA λ_=>aD (aA λ_=>aD ?_))))<;>constructor<;>intro _<;>simp_all
 ·refine aD (dK (fb rfl (cz (aA λ_=>aD (aA λ_=>aD ?_)))));simp
 ·refine aG (λhx=>aD (dK (bH (λ_=>aD ?_) λ_=>cz (aA λ_=>aD (aA λ_=>aD ?_))))) λ_=>aD (dK (fb rfl (cz (aA λ_=>aD (aA λ_=>aD ?_)))))<;>simp_all⟩
instance IL{neg_0}:Safe (R.j7 neg_0):=by unfold R.j7;exact dw0
instance GY{n_0}:Safe (R.cY n_0):=by unfold R.cY;exact dw0
instance GR{neg_0}:Safe (R.fy neg_0):=by unfold R.fy;exact dw0
instance IF{a_0}:Safe (R.lP a_0):=by unfold R.lP;exact dw0
instance Ek{a}:Safe (R.gz a):=by
 unfold R.gz;refine ⟨aA λh=>?_⟩;simp only [Sg.i,oks,Sh.ok,Ty.ok,List.map,Par.v,Bool.and_eq_true] at h;have:=la h;refine aB (kI (Q:=λm=>m.length<=a.length) (λm=>m.length) (by omega) (λm=>m.length<=a.length) (Nat.le_refl _) λm hm=>?_) λu hu=>aB (kI (Q:=λm=>m.length<=a.length) (λm=>m.length) (by omega) (λm=>m.length<=a.length) hu λm hm=>?_) λx hx=>bH (λ_=>aD trivial) λhne=>bM (by omega) (by omega) λe he _=>?_
 ·exact dw1
 ·exact dw1
 ·refine aB (R:=λ_=>True) (by exact dw1) λ_ _=>?_;exact dw1
instance GD{a}:Safe (R.fH a):=by
 unfold R.fH;refine ⟨aA λh=>?_⟩;simp only [Sg.i,oks,Sh.ok,Ty.ok,List.map,Par.v,Bool.and_eq_true] at h;have:=uX h;simp only [Sh.jH,Ty.jH,IntKind.jH] at this
 refine aB (fP (Q:=λ_=>True) (λi=>i.2) a.length (by omega) (λx=>x.1.length=x.2.toNat) (by simp) (by simp) (by simp) λi h0 h1 hI=>?_) λx hx=>?_<;>exact dw1
instance yn{a b}:Safe (R.bn a b):=by
 unfold R.bn;refine ⟨aA λh=>?_⟩;simp only [Sg.i,oks,Sh.ok,Ty.ok,List.map,Par.v,Bool.and_eq_true] at h;have:=la h.1
 refine aB (mD (λi=>i) a.length (by omega) (by omega) (by omega) λi h0 h1=>?_).ok λx _=>?_<;>exact dw1
instance xW{s_0 v_1}:Safe (R.aP s_0 v_1):=by unfold R.aP;exact dw0
instance Hd{a}:lb (R.ly a) (λr=>r.length<=4096):=by
 unfold R.ly;refine ⟨aA λ_=>q_p λ(x:Int×Int) hx=>aA λ_=>bH (λ_=>aD (by simp)) λ_=>bH (λ_=>aD (by simp)) λ_=>bH (λ_=>aD (by simp)) λ_=>aO (a:=Lib.itoa x.2) rfl (aA λ_=>aD ?_)⟩
 have h:-9223372036854775808<=x.2/\x.2<=9223372036854775807:=by
  have h3:=hx;by_cases h0:x.1=0
  ·have:=h3.1 h0;omega
  ·have:=h3.2 h0;omega
 exact Nat.le_trans (Lib.itoa_length_le x.2 h.1 h.2) (by decide)
instance IB{a}:lb (R.lM a) (λr=>r=true->(a.2.length:Int)<=8):=by
 unfold R.lM;refine ⟨aA λh=>?_⟩;simp only [Sg.i,oks,Sh.ok,Ty.ok,List.map,Par.v,Bool.and_eq_true] at h;exact dw1
instance Hj{a_0}:Safe (R.cZ a_0):=by unfold R.cZ;exact dw0
instance Hs{b_0}:Safe (R.eI b_0):=by unfold R.eI;exact dw0
instance HL{a}:lb (R.iu a) (λr=>r=true->(a.2.2.1.2.length:Int)=0/\(a.2.2.2.1.length:Int)=0):=by
 unfold R.iu;refine ⟨?_⟩;exact dw1
instance Hh{a}:lb (R.mL a) (λr=>r=true->(a.2.2.1.2.length:Int)<=8/\(a.2.2.2.1.length:Int)<=4096):=by
 unfold R.mL;refine ⟨?_⟩;exact dw1
instance F7{a}:lb (R.cM a) (λr=>(r.2.2.1.2.length:Int)<=8/\(r.2.2.2.1.length:Int)<=4096):=by
 unfold R.cM;refine ⟨aA λ_=>q_p λb hb=>dK (aG (λh=>aD (hb h)) λ_=>aD (by simp))⟩
instance HG{a}:AH (R.fq a) (a.1 == 2):=⟨aA λ_=>aD rfl⟩
instance Hc{a_0}:Safe (R.iQ a_0):=by unfold R.iQ;exact dw0
instance HR{a_0 b_1}:Safe (R.jg a_0 b_1):=by unfold R.jg;exact dw0
instance Gr{v_0}:Safe (R.iO v_0):=by unfold R.iO;exact dw0
instance Ec{v_0}:Safe (R.cC v_0):=by unfold R.cC;exact dw0
instance Hm{b_0}:Safe (R.kv b_0):=by unfold R.kv;exact dw0
instance ER{v_0}:Safe (R.cQ v_0):=by unfold R.cQ;exact dw0
instance IK{a}:lb (R.dF a) (λr=>r.length<=8):=by
 unfold R.dF;refine ⟨aA λ_=>q_p λb hb=>dK (aG (λh=>cz (aD (aA λ_=>aD ?_))) λ_=>aD (by simp))⟩;have:=hb h;show List.length a.2<=8;omega
instance H9{a_0}:Safe (R.iN a_0):=by unfold R.iN;exact dw0
instance ID{a_0}:Safe (R.lN a_0):=by unfold R.lN;exact dw0
instance GC{a}:lb (R.gi a) (λr=>0<=r/\r < 4294967296):=⟨by
 unfold R.gi;refine aA λ_=>q_p λx hx=>aA λ_=>dK (bH (λ_=>aD ?_) λ_=>aD ?_)
 ·have:=wrap_u32 x.2;rw [wrap64 (by omega)];omega
 ·omega⟩
instance HQ{a_0}:Safe (R.jy a_0):=by unfold R.jy;exact dw0
instance IA{op_0 a_1 b_2}:Safe (R.mJ op_0 a_1 b_2):=by
 unfold R.mJ;refine ⟨?_⟩;exact dw1
theorem rU{a:List Int}:(R.bx a).sat (λr=>List.length r.2=a.length):=by
 unfold R.bx;refine aA λh=>?_;simp only [Sg.i,oks,Sh.ok,Ty.ok,List.map,Par.v,Bool.and_eq_true] at h;have:=la h;rw [wrap64 (by omega)]
 refine aB (kI (Q:=λr=>r.length=a.length) (λi=>(i.2.1-i.1+1).toNat) (by simp;omega) (λi=>0<=i.1/\i.1<=i.2.1+1/\i.2.1 < a.length/\i.2.2.length=a.length) (by simp<;>omega) λi ⟨i1,i2,i3,i4⟩=>?_) λx hx=>?_<;>exact dw1
instance yl{a}:Safe (R.bx a):=⟨bG rU λ_ _=>trivial⟩
theorem wc(l:List Int):(rX l).length=l.length:=by simp [rX]
theorem wrap_u64(n:Int):0<=IntKind.wrap .u64 n/\IntKind.wrap .u64 n < 18446744073709551616:=by
 simp [w6,w6,w6,IntKind.wrap,IntKind.signed,IntKind.bits];omega
theorem or_zero{x:Int}(h0:0<=x)(h1:x < 4294967296):ez .or .u64 (pb .u64 0 32) (IntKind.wrap .u64 x)=x:=by
 have e1:pb .u64 0 32=0:=by simp [pb,w6,w6,w6,IntKind.wrap,IntKind.signed,IntKind.bits]
 have e2:IntKind.wrap .u64 x=x:=by simp [w6,w6,w6,IntKind.wrap,IntKind.signed,IntKind.bits];omega
 rw [e1,e2];unfold ez;have e3:BitVec.ofInt IntKind.u64.bits 0=0#64:=rfl;simp only [e3];show IntKind.wrap .u64 ((0#64 ||| BitVec.ofInt 64 x).toNat:Int)=x;rw [BitVec.zero_or,BitVec.toNat_ofInt];simp [w6,w6,w6,IntKind.wrap,IntKind.signed,IntKind.bits];omega
theorem tenth{x:Int}(h0:0<=x)(h1:x < 4294967296):IntKind.wrap .u32 (IntKind.wrap .u64 (Int.tdiv x 10))=x / 10:=by
 rw [Int.tdiv_eq_ediv_of_nonneg h0];simp [w6,w6,w6,IntKind.wrap,IntKind.signed,IntKind.bits];omega
def vh(m:List Int):Prop:=∀ e:Int,m[m.length-1]?=some e->e≠0
theorem ub{m:List Int}(h:(m.length:Int)<=0):vh m:=λe he=>by
 have:m=[]:=List.length_eq_zero_iff.1 (by omega);subst this;cases he
theorem CM{a:List Int}:(R.eK a).sat (λr:List Int=>r.length<=a.length/\r=a.take r.length/\vh r):=by
 unfold R.eK;refine aA λh=>?_;simp only [Sg.i,oks,Sh.ok,Ty.ok,List.map,Par.v,Bool.and_eq_true] at h;have:=la h;refine aB (kI (Q:=λm:List Int=>m.length<=a.length/\m=a.take m.length/\vh m) (λm=>m.length) (by omega) (λm=>m.length<=a.length/\m=a.take m.length) ⟨Nat.le_refl _,by simp⟩ λm ⟨hm,ht⟩=>?_) λx hx=>aD hx;refine cz (dt (λh0=>?_) λh0=>aD (fb rfl (aD ⟨hm,ht,ub h0⟩)));have hw:w6 ((m.length:Int)-1)=(m.length:Int)-1:=wrap64 (by omega)
 have hn:((m.length:Int)-1).toNat=m.length-1:=by omega
 rw [hw];refine fN (ga (by omega) (oK (by omega) (bP (by omega) (by omega) λ(e:Int) he _=>aD (bH (λh=>?_) λh=>aD ⟨hm,ht,?_⟩))))
 ·refine fN (ga (by omega) (ga (by omega) (aD ⟨?_,?_,?_⟩)))
  ·simp only [List.length_take,List.length_drop];omega
  ·simp only [List.length_take,List.length_drop];omega
  ·rw [List.drop_zero,hn,List.length_take,Nat.min_eq_left (by omega)]
   have:List.take (m.length-1) m=List.take (m.length-1) (List.take m.length a):=by rw [<- ht]
   rw [this,List.take_take,Nat.min_eq_left (by omega)]
 ·intro e' he';rw [idx0,hn,he'] at he;cases he;exact h
theorem DC{a}:(R.lM a).sat (λr=>r=true->(a.2.length:Int)<=8/\vh a.2):=by
 unfold R.lM;refine aA λh=>lW (λh8=>?_) λ_=>aD (by simp);have hw (h:0 < (a.2.length:Int)):w6 ((a.2.length:Int)-1)=(a.2.length:Int)-1:=wrap64 (by omega)
 have hn (h:0 < (a.2.length:Int)):((a.2.length:Int)-1).toNat=a.2.length-1:=by omega
 have hk:(Res.br (ilt 0 (a.2.length:Int)) (Res.cy .w a.2 (w6 ((a.2.length:Int)-1)) λe2=>Res.ok ((!(e2 == 0)))) (Res.ok (false))).sat (λr=>r=true->(a.2.length:Int)<=8/\vh a.2):=by
  refine dt (λh0=>?_) λ_=>aD (by simp);rw [hw h0];refine bM (by omega) (by omega) λ(e:Int) he _=>aD λhr=>⟨h8,λe' he'=>?_⟩;rw [hn h0,he'] at he;cases he;simpa using hr
 exact bH (λh0=>dK (aG (λ_=>hk) λ_=>aD λ_=>⟨h8,ub (by omega)⟩)) λ_=>hk
theorem Dl{a}:(R.dF a).sat (λr:List Int=>r.length<=8/\vh r):=by
 unfold R.dF;refine aA λ_=>aB DC λb hb=>dK (aG (λh=>cz (aD (aA λ_=>aD ?_))) λ_=>aD ⟨by simp,ub (by simp)⟩);have:=hb h;exact ⟨by show List.length a.2<=8;omega,this.2⟩
def dgF:Nat->Nat->Nat
 |0,_=>0
 |k+1,e=>if e=0 then 0 else 1+dgF k (e / 10)
def dg(e:Nat):Nat:=dgF 10 e
theorem EZ:∀ k e:Nat,dgF k e<=k
 |0,_=>Nat.le_refl 0
 |k+1,e=>by
  have:=EZ k (e / 10)
  show (if e=0 then 0 else 1+dgF k (e / 10))<=k+1
  split<;>omega
theorem dg_le(e:Nat):dg e<=10:=EZ 10 e
theorem FM:∀ k e:Nat,e < 10^k->dgF (k+1) e=dgF k e
 |0,e,h=>by
  have:e=0:=by simpa using h
  subst this;rfl
 |k+1,e,h=>by
  show (if e=0 then 0 else 1+dgF (k+1) (e / 10))=(if e=0 then 0 else 1+dgF k (e / 10))
  rw [FM k (e / 10) (by rw [Nat.pow_succ] at h;omega)]
theorem dg_lt{e:Int}(h0:0 < e)(h1:e < 4294967296):dg (e / 10).toNat < dg e.toNat:=by
 have h2:(e / 10).toNat=e.toNat / 10:=by omega
 have h3:0 < e.toNat/\e.toNat < 4294967296:=by omega
 rw [h2];generalize e.toNat=n at h3;unfold dg;rw [FM 9 (n / 10) (by show n / 10 < 1000000000;omega)]
 show dgF 9 (n / 10) < if n=0 then 0 else 1+dgF 9 (n / 10)
 rw [if_neg (by omega)];omega
def mz(m:List Int):Nat:=match m[m.length-1]? with
 |some e=>m.length*11+dg e.toNat
 |none=>0
theorem mz_lt{r m:List Int}(h:r.length < m.length):mz r < mz m:=by
 unfold mz;have hm:∃ e,m[m.length-1]?=some e:=⟨_,List.getElem?_eq_getElem (by omega)⟩;obtain ⟨e,he⟩:=hm;rw [he]
 cases r[r.length-1]? with
 |none=>simp only [];omega
 |some x=>have:=dg_le x.toNat;simp only [];omega
theorem mz_le{m:List Int}(h:m.length<=8):mz m<=98:=by
 unfold mz
 cases m[m.length-1]? with
 |none=>simp only [];omega
 |some x=>have:=dg_le x.toNat;simp only [];omega
theorem C4{e:Int}(h:(Ty.int IntKind.u32).ok e=true):0<=e/\e < 4294967296:=by
 simp [Ty.ok,dq,w6,w6,w6,IntKind.wrap,IntKind.signed,IntKind.bits] at h;omega
instance Hk{a}:lb (R.kz a) (λr=>r.length<=4096):=by
 unfold R.kz;refine ⟨aA λ_=>aB Dl λm ⟨hm,ht⟩=>aA λ_=>bH (λ_=>aD (by simp)) λhne=>aB (R:=λl:List Int=>l.length<=98) ?_ λl hl=>q_b λ_=>aG (λ_=>?_) λ_=>?_⟩
 ·refine kI (λs=>mz s.1) (Nat.le_trans (mz_le hm) (by decide)) (λs=>s.1.length<=8/\vh s.1/\s.2.length+mz s.1<=98) ⟨hm,ht,by have:=mz_le hm;simp;omega⟩ λ⟨m,l⟩ ⟨h1,h2,h3⟩=>?_;simp only at h1 h2 h3 ⊢;refine dt (λhp=>?_) λ_=>aD (by show l.length<=98;omega);rw [wrap64 (by omega)];obtain ⟨top,htop⟩:∃ e,m[m.length-1]?=some e:=⟨_,List.getElem?_eq_getElem (by omega)⟩;refine aB (R:=λr:Int×List Int=>r.2.length=m.length/\r.2[m.length-1]?=some (top / 10)/\0<=top/\top < 4294967296) ?_ λ⟨r,m'⟩ ⟨g1,g2,g3,g4⟩=>?_
  ·refine kI (λs=>(s.2.1+1).toNat) (by simp;omega) (λs=>-1<=s.2.1/\s.2.1 < m.length/\s.2.2.length=m.length/\(s.2.1=m.length-1->s.1=0/\s.2.2=m)/\(s.2.1 < m.length-1->s.2.2[m.length-1]?=some (top / 10)/\0<=top/\top < 4294967296)) ⟨by simp only;omega,by simp only;omega,rfl,λ_=>⟨rfl,rfl⟩,λh=>by simp only at h;omega⟩ λ⟨r,i,q⟩ ⟨i1,i2,i3,i4,i5⟩=>?_;simp only at i1 i2 i3 i4 i5 ⊢;refine lW (λi0=>?_) λi0=>aD ?_
   ·refine ga (by omega) (fN (ga (by omega) (oK (by omega) (bP (by omega) (by omega) λ(e:Int) he hok=>ax (by decide) (fN (ga (by omega) (oK (by omega) (bP (by omega) (by omega) λ_ _ _=>ax (by decide) (aD ?_)))))))));have hw:w6 (i-1)=i-1:=wrap64 (by omega)
    have hix:(0+(i.toNat:Int)).toNat=i.toNat:=by omega
    rw [hix] at he;have hr:=C4 hok;refine ⟨?_,?_,?_,?_,?_,?_⟩
    ·simp only [hw];omega
    ·simp only [hw];omega
    ·simp only [hw];omega
    ·simp only [List.length_set];exact i3
    ·simp only [hw];omega
    ·intro hlt;simp only [hw] at hlt;by_cases hi:i=m.length-1
     ·obtain ⟨e1,e2⟩:=i4 hi;subst e1 e2
      have hin:i.toNat=q.length-1:=by omega
      rw [hin] at he;rw [he] at htop;cases htop;refine ⟨?_,hr⟩;simp only [or_zero hr.1 hr.2,tenth hr.1 hr.2];rw [show 0+i.toNat=q.length-1 by omega,List.getElem?_set_self (by omega)]
     ·obtain ⟨e1,e2⟩:=i5 (by omega);refine ⟨?_,e2⟩;simp only;rw [List.getElem?_set_ne (by omega)];exact e1
   ·have:=i5 (by omega);exact ⟨i3,this.1,this.2.1,this.2.2⟩
  ·simp only at g1 g2 ⊢;refine n_d (by simp only [List.length_cons,List.length_nil];omega) (aB CM λs ⟨s1,s2,s3⟩=>aA λ_=>aD ?_)
   have hlt:mz s < mz m:=by
    by_cases hs:s.length=m.length
    ·have e:s=m':=by rw [s2,hs,<- g1,List.take_length]
     subst e;unfold mz;rw [hs,g2,htop];have:=dg_lt (e:=top) (by have:=h2 top htop;omega) g4;simp only [];omega
    ·exact mz_lt (by omega)
   exact ⟨hlt,by show s.length<=8;omega,s3,by simp only [List.length_append,List.length_cons,List.length_nil];omega⟩
 ·refine n_d (by simp only [List.length_cons,List.length_nil];omega) (aB rU λr hr=>aA λ_=>aD ?_);rw [wc,hr];simp;omega
 ·refine aB rU λr hr=>aA λ_=>aD ?_;rw [wc,hr];omega
instance HO{a}:lb (R.de a) (λr=>r.1.length<=4096):=by
 unfold R.de;refine ⟨?_⟩;exact dw1
instance Hp{a}:Safe (R.fZ a):=by
 unfold R.fZ;refine ⟨aA λh=>?_⟩;simp only [Sg.i,oks,Sh.ok,Ty.ok,List.map,Par.v,Bool.and_eq_true] at h;have:=la h;refine aB (R:=λ_=>True) (by exact dw1) λx2 _=>aG (λ_=>trivial) λ_=>?_
 refine aB (mD (λi=>i.2) a.length (by omega) (by omega) (by simp) λi h0 h1=>?_).ok λx _=>?_<;>exact dw1
instance Gh{a}:lb (R.b9 a) (λr=>0<=r/\r<=8):=by
 unfold R.b9;refine ⟨?_⟩;exact dw1
instance GS{kind_0}:Safe (R.fK kind_0):=by unfold R.fK;exact dw0
instance G6{a b}:Safe (R.fV a b):=by
 unfold R.fV;refine ⟨aA λ_=>aB (R:=λc=>c=false->(b.length:Int)<=8) (by exact dw1) λc hc=>aG (λ_=>aD trivial) λhc'=>?_⟩;have:=hc hc'
 refine aB (mD (λi=>i.2) b.length (by omega) (by simp) (by simp) λi h0 h1=>?_).ok λx _=>?_<;>exact dw1
instance EM{w_0 signed_1}:Safe (R.iD w_0 signed_1):=by
 unfold R.iD;refine ⟨?_⟩;exact dw1
instance F5{kind_0 w_1}:Safe (R.jt kind_0 w_1):=by unfold R.jt;exact dw0
instance Hg{kind_0 w_1}:Safe (R.ej kind_0 w_1):=by
 unfold R.ej;refine ⟨?_⟩;exact dw1
instance GP{kind_0 w_1}:Safe (R.jq kind_0 w_1):=by unfold R.jq;exact dw0
instance sf_big_Of{n_0}:Safe (R.ky n_0):=by
 unfold R.ky;refine ⟨?_⟩;exact dw1
theorem oY{a b}(ha:List.length a<=2^40)(hb:List.length b<=2^40):(R.lg a b).sat (λr=>(r.length:Int)=max (a.length:Int) b.length+1):=by
 unfold R.lg;refine aA λh=>?_;rw [j9]
 refine aB (fP (Q:=λr=>r.1.length=max a.length b.length) (λi=>i.2.2) (max a.length b.length) (by omega) (λx=>x.1.length=x.2.2.toNat) (by simp) (by simp<;>omega) (by simp) λi h0 h1 hI=>?_) λx hx=>?_<;>exact dw3
instance Hu{m_0 neg_1}:Safe (R.jN m_0 neg_1):=by unfold R.jN;exact dw0
instance Hr{n_0}:Safe (R.kp n_0):=by unfold R.kp;exact dw0
instance H7{a b}:Safe (R.kX a b):=by
 unfold R.kX;refine ⟨aA λh=>?_⟩;simp only [Sg.i,oks,Sh.ok,Ty.ok,List.map,Par.v,Bool.and_eq_true] at h;have:=la h.1;refine dK (bH (λ_=>?_) λ_=>?_)
 ·rw [wrap64 (by omega)]
  refine aB (kI (Q:=λ_=>True) (λi=>(i+1).toNat) (by omega) (λi:Int=>-1<=i/\i < a.length) (by omega) λi hi=>?_) λx hx=>?_<;>exact dw3
 ·exact dw3
instance F9{x_0 y_1 borrow_2}:Safe (R.jh x_0 y_1 borrow_2):=by
 unfold R.jh;refine ⟨?_⟩;exact dw3
instance He{a b}:lb (R.jO a b) (λr=>r.length=a.length):=by
 unfold R.jO;refine ⟨aA λh=>?_⟩;simp only [Sg.i,oks,Sh.ok,Ty.ok,List.map,Par.v,Bool.and_eq_true] at h;have:=uX h.1;simp only [Sh.jH,Ty.jH,IntKind.jH] at this
 refine aB (fP (Q:=λr=>r.length=a.length) (λi=>i.2.2) a.length (by omega) (λx=>x.1.length=x.2.2.toNat) (by simp) (by simp) (by simp) λi h0 h1 hI=>?_) λx hx=>?_<;>exact dw3
instance IC{a_0 b_1}:Safe (R.lO a_0 b_1):=by
 unfold R.lO;refine ⟨?_⟩;exact dw3
instance HS{a}:AH (R.eM a) (a.1 == 3 || a.1 == 4):=⟨by unfold R.eM;refine aA λ_=>aG (λh=>?_) λh=>?_<;>exact aD (by simp [h])⟩
instance sf_num_Of{n_0}:Safe (R.nV n_0):=by unfold R.nV;exact dw0
instance H4{a_0 b_1}:Safe (R.lU a_0 b_1):=by unfold R.lU;exact dw0
instance GG{x_0}:Safe (R.ji x_0):=by unfold R.ji;exact dw0
instance HJ{a}:lb (R.kh a) (λr=>r.length<=a.length):=by
 unfold R.kh;refine ⟨aA λh=>?_⟩;simp only [Sg.i,oks,Sh.ok,Ty.ok,List.map,Par.v,Bool.and_eq_true] at h;have:=yw h
 refine aB (kI (Q:=λm=>m.length<=a.length) (λm=>m.length) (by omega) (λm=>m.length<=a.length) (Nat.le_refl _) λm hm=>?_) λu hu=>aB (kI (Q:=λm=>m.length<=a.length) (λm=>m.length) (by omega) (λm=>m.length<=a.length) hu λm hm=>?_) λx hx=>hx<;>exact dw3
instance GA{x_0}:Safe (R.jI x_0):=by unfold R.jI;exact dw0
instance E8{a}:Safe (R.jU a):=by
 unfold R.jU;refine ⟨aA λh=>?_⟩;simp only [Sg.i,oks,Sh.ok,Ty.ok,List.map,Par.v,Bool.and_eq_true] at h;have:=la h
 refine aB (mD (λi=>i) a.length (by omega) (by omega) (by omega) λi h0 h1=>?_).ok λx _=>?_<;>exact dw3
instance ET{a}:Safe (R.iV a):=by
 unfold R.iV;refine ⟨aA λh=>?_⟩;simp only [Sg.i,oks,Sh.ok,Ty.ok,List.map,Par.v,Bool.and_eq_true] at h;have:=la h;refine aB (mD (λi=>i.2) a.length (by omega) (by omega) (by simp) λi h0 h1=>?_).ok λx _=>?_
 ·refine dt (λ_=>bM (by omega) (by omega) λ_ _ _=>aB (R:=λ_=>True) (by exact dw3) λ_ _=>aB (R:=λ_=>True) (by exact dw3) λ_ _=>?_) λ_=>?_<;>exact dw3
 ·exact dw3
instance EX{a}:Safe (R.ij a):=by
 unfold R.ij;refine ⟨aA λh=>?_⟩;simp only [Sg.i,oks,Sh.ok,Ty.ok,List.map,Par.v,Bool.and_eq_true] at h;have:=yw h
 refine q_p λt (ht:t.length<=a.length)=>aA λ_=>bH (λ_=>aD trivial) λ_=>bP (by omega) (by omega) λe _ _=>aB (R:=λd:List Int=>d.length<=a.length) (by exact dw3) λd hd=>q_b λb=>aG (λ_=>?_) λ_=>by exact dw3
 refine aB (kI (Q:=λm=>m.length<=a.length) (λm=>m.length) (by omega) (λm=>m.length<=a.length) hd λm hm=>?_) λu hu=>?_<;>exact dw3
instance Fe{v_0}:Safe (R.fp v_0):=by unfold R.fp;exact dw0
theorem qd{a n}(h0:0<=n)(h1:n<=1000):(R.my a n).sat (λr=>r.length=8):=by
 unfold R.my;refine aA λ_=>?_;have e8:Int.toNat 8=8:=rfl
 have hl:(List.take 0 (List.replicate (Int.toNat 8) (0:Int))++(List.take (min (List.length a) (List.replicate (Int.toNat 8) (0:Int)).length) a++List.drop (0+(min (List.length a) (List.replicate (Int.toNat 8) (0:Int)).length)) (List.replicate (Int.toNat 8) (0:Int)))).length=8:=by
  simp only [List.length_append,List.length_take,List.length_drop,List.length_replicate,e8];omega
 rw [hl];refine fN (ga (by omega) (fN (ga (by omega) (n_d (by omega) ?_))))
 refine aB (fP (Q:=λr=>r.length=8) (λi=>i.1) 8 (by omega) (λx=>x.2.length=8) (by simp) (by simp) hl λi h0 h1 hI=>?_) λx hx=>?_<;>repeat' (first|with_reducible (first|refine aD ?_|refine aA λ_=>?_|refine dK ?_|refine dt (λ_=>?_) λ_=>?_|refine lW (λ_=>?_) λ_=>?_|refine bH (λ_=>?_) λ_=>?_|refine fS rfl ?_|refine fb rfl ?_|refine aG (λ_=>?_) λ_=>?_|refine mQ ?_|refine zW ?_|refine uF ?_|refine q_e ?_|refine q_p λ_ _=>?_|refine q_b λ_=>?_|refine bM ?_ ?_ λ_ _ _=>?_|refine bP ?_ ?_ λ_ _ _=>?_|refine fN ?_|refine aB (dL ?_) λ_ _=>?_|refine aB (oY ?_ ?_) λ_ _=>?_|refine aB (qd ?_ ?_) λ_ _=>?_|refine ga ?_ ?_|refine oK ?_ ?_|refine sx ?_ ?_|refine n_d ?_ ?_|refine ta (λ_=>?_) λ_=>?_|exact safe|refine cz ?_)|exact trivial|dsimp only [Nx,Dn]|with_reducible (first|rfl|refine And.intro ?_ ?_|intro _|contradiction)|omega|refine ax (by decide) ?_|(simp (disch:=omega) only [wrap64,gN,j9,List.length_append,List.length_cons,List.length_nil,List.length_take,List.length_drop,List.length_set,List.length_replicate,List.length_reverse]<;>omega)|(simp (disch:=omega) only [wrap64,gN,j9,List.length_append,List.length_cons,List.length_nil,List.length_take,List.length_drop,List.length_set,List.length_replicate,List.length_reverse] at*<;> omega)|exact Int.tmod_nonneg _ (by omega)|(simp_all [gI,mR,lu,oM]<;>omega))
theorem qo{n}(h0:0<=n)(h1:n<=1000):(R.ke n).sat (λr=>(r.length:Int)=n / 32+1):=by
 unfold R.ke;have e1:n.tdiv 32=n / 32:=Int.tdiv_eq_ediv_of_nonneg h0;have e2:n.tmod 32=n % 32:=Int.tmod_eq_emod_of_nonneg h0;rw [e1,e2];exact dw4
theorem xp{n a}(hn:0<=n->n<=256->n<=256):(R.jF n a).sat (λr=>r.1.2.length<=9):=by
 unfold R.jF;refine aA λ_=>aB (R:=λc=>c=false->0<=n/\n<=256) (by exact dw4) λc hc=>aG (λ_=>aD (by simp)) λhc'=>?_;have hn:=hc hc';exact dw4
instance GH{n a}:lb (R.jF n a) (λr=>r.1.2.length<=9):=⟨xp λ_ h=>h⟩
instance GU{a b}:lb (R.ia a b) (λr=>r.length<=8):=by
 unfold R.ia;refine ⟨aA λ_=>q_p λ(n:Int) hn=>aA λ_=>?_⟩
 refine aB (fP (Q:=λr=>r.length<=8) (λi=>i.2) n.toNat (by omega) (λx=>x.1.length=x.2.toNat) (by simp) (by simp;omega) (by simp) λi h0 h1 hI=>?_) λx hx=>?_<;>exact dw4
instance C7{a_0 b_1}:Safe (R.fE a_0 b_1):=by unfold R.fE;exact dw0
instance IJ{a_0 b_1}:Safe (R.mv a_0 b_1):=by unfold R.mv;exact dw0
instance H6{a b}:Safe (R.mw a b):=by
 unfold R.mw;refine ⟨aA λ_=>q_p λx hx=>aA λ_=>q_p λy hy=>aA λ_=>?_⟩;dsimp only;rw [wrap64 (by omega)];refine fN (ga (by omega) (fN (ga (by omega) (n_d (by omega) ?_))));refine aB (fP (Q:=λ_=>True) (λi=>i.1) x.length (by omega) (λs=>s.2.length=x.length+y.length) (by simp) (by simp) (by simp;omega) λi h0 h1 hI=>dt (λhi=>fN (ga (by omega) (oK (by omega) (bP (by omega) (by omega) λe _ _=>?_)))) λ_=>?_) λx hx=>?_
 ·refine aB (fP (Q:=λr=>r.2.length=x.length+y.length) (λi=>i.2.1) y.length (by omega) (λs=>s.2.2.length=x.length+y.length) (by simp) (by simp) (by simp;omega) λk k0 k1 hK=>dt (λhk=>?_) λ_=>?_) λs hs=>?_
  ·have hw:w6 (i.1+k.2.1)=i.1+k.2.1:=wrap64 (by omega);rw [hw];exact dw4
  ·exact dw4
  ·have hw:w6 (i.1+(y.length:Int))=i.1+(y.length:Int):=wrap64 (by omega);rw [hw];exact dw4
 ·exact dw4
 ·exact dw4
theorem se{a b}(ha:List.length a<=2^40):(R.ju a b).sat (λr=>r.length<=a.length+1):=by
 unfold R.ju;refine aA λh=>?_
 refine aB (fP (Q:=λr=>r.2.length=a.length) (λi=>i.2.2) a.length (by omega) (λx=>x.2.1.length=x.2.2.toNat) (by simp) (by simp) (by simp) λi h0 h1 hI=>?_) λx hx=>?_<;>repeat' (first|with_reducible (first|refine aD ?_|refine aA λ_=>?_|refine dK ?_|refine dt (λ_=>?_) λ_=>?_|refine lW (λ_=>?_) λ_=>?_|refine bH (λ_=>?_) λ_=>?_|refine fS rfl ?_|refine fb rfl ?_|refine aG (λ_=>?_) λ_=>?_|refine mQ ?_|refine zW ?_|refine uF ?_|refine q_e ?_|refine q_p λ_ _=>?_|refine q_b λ_=>?_|refine bM ?_ ?_ λ_ _ _=>?_|refine bP ?_ ?_ λ_ _ _=>?_|refine fN ?_|refine aB (dL ?_) λ_ _=>?_|refine aB (oY ?_ ?_) λ_ _=>?_|refine aB (qd ?_ ?_) λ_ _=>?_|refine aB (qo ?_ ?_) λ_ _=>?_|refine aB (se ?_) λ_ _=>?_|refine ga ?_ ?_|refine oK ?_ ?_|refine sx ?_ ?_|refine n_d ?_ ?_|refine ta (λ_=>?_) λ_=>?_|exact safe|refine cz ?_)|exact trivial|dsimp only [Nx,Dn]|with_reducible (first|rfl|refine And.intro ?_ ?_|intro _|contradiction)|omega|refine ax (by decide) ?_|(simp (disch:=omega) only [wrap64,gN,j9,List.length_append,List.length_cons,List.length_nil,List.length_take,List.length_drop,List.length_set,List.length_replicate,List.length_reverse]<;>omega)|(simp (disch:=omega) only [wrap64,gN,j9,List.length_append,List.length_cons,List.length_nil,List.length_take,List.length_drop,List.length_set,List.length_replicate,List.length_reverse] at*<;> omega)|exact Int.tmod_nonneg _ (by omega)|(simp_all [gI,mR,lu,oM]<;>omega))
theorem xf{a b}(ha:List.length a<=8)(hb:List.length b<=8):(R.iW a b).sat (λr=>r.1.length<=8/\r.2.length<=300):=by
 unfold R.iW;refine aA λ_=>fN (ga (by omega) (fN (ga (by omega) (n_d (by omega) ?_))));rw [wrap64 (by omega)];refine aB (kI (Q:=λr=>r.2.length=a.length/\r.1.length<=300) (λi=>(i.2.1+1).toNat) (by simp;omega) (λx=>-1<=x.2.1/\x.2.1 < a.length/\x.2.2.length=a.length/\(x.1.length:Int)+32*(x.2.1+1)<=32*a.length) (by simp;omega) λi ⟨i1,i2,i3,i4⟩=>lW (λhi=>?_) λ_=>?_) λx hx=>?_
 ·refine aB (kI (Q:=λr=>r.2.length=a.length/\(r.1.length:Int)+32*i.2.1<=32*a.length) (λk=>(k.2.1+1).toNat) (by simp) (λx=>-1<=x.2.1/\x.2.1<=31/\x.2.2.length=a.length/\(x.1.length:Int)+32*i.2.1+(x.2.1+1)<=32*a.length) (by simp;omega) λk ⟨k1,k2,k3,k4⟩=>lW (λhk=>?_) λ_=>?_) λx hx=>?_<;>exact dw2
 ·exact dw2
 ·exact dw2
instance IM{a_0 b_1}:Safe (R.nD a_0 b_1):=by
 unfold R.nD;refine ⟨?_⟩;exact dw2
instance IG{a_0 b_1}:Safe (R.nE a_0 b_1):=by
 unfold R.nE;refine ⟨?_⟩;exact dw2
instance H2{a_0 b_1}:Safe (R.nB a_0 b_1):=by unfold R.nB;exact dw0
instance G2{a_0}:Safe (R.jl a_0):=by unfold R.jl;exact dw0
instance EP{a}:AH (R.ct a) (a.1 == 1 || a.1 == 0 && a.2 == 0):=⟨by
 unfold R.ct;refine aA λ_=>aG (λh=>?_) λh=>?_
 ·exact aD (by simp [h])
 ·refine aG (λh2=>?_) λh2=>?_<;>exact aD (by simp [h,h2])⟩
instance H0{a}:lb (R.fi a) (λr=>-9007199254740991<=a->a<=9007199254740991->r=max a (-a)):=⟨by
 unfold R.fi;refine aA λ_=>aD λh1 h2=>?_;rw [wrap64 (by omega),j9];simp [w6,w6,w6,IntKind.wrap,IntKind.signed,IntKind.bits]
 omega⟩
instance GO{x_0 y_1}:Safe (R.jo x_0 y_1):=by
 unfold R.jo;refine ⟨?_⟩;exact dw2
instance F8{n_0 neg_1}:Safe (R.gu n_0 neg_1):=by unfold R.gu;exact dw0
instance IH{a_0 b_1}:Safe (R.mr a_0 b_1):=by unfold R.mr;exact dw0
instance H5{a b}:Safe (R.mu a b):=by
 unfold R.mu;refine ⟨aA λ_=>q_p λ(x:Int×Int) hx=>aA λ_=>q_p λ(y:Int×Int) hy=>aA λ_=>?_⟩;refine q_b λs1=>q_b λs2=>?_;refine aB (R:=λc=>c=false->y.1≠2) (by exact dw2) λc hc=>aG (λ_=>(by exact dw2)) λhc'=>?_;have h1:=hc hc';refine aB (R:=λc=>c=false->y.1≠1/\(y.1=0->y.2≠0)) (by exact dw2) λd hd=>aG (λ_=>(by exact dw2)) λhd'=>?_;have h2:=hd hd';refine aB (R:=λc=>c=false->y.1≠3/\y.1≠4) (by exact dw2) λd hd=>aG (λ_=>(by exact dw2)) λhd'=>?_;have h5:=hd hd';have h3:=hx;have h4:=hy
 have hk:∀ v:Int,(-9007199254740991<=y.2->y.2<=9007199254740991->v=max y.2 (-y.2))->v≠0:=λv hv=>by
  by_cases h0:y.1=0
  ·have:=h4.1 h0;have:=hv this.1 this.2;have:=h2.2 h0;omega
  ·have:=h4.2 h0;omega
 refine q_p λu hu=>aA λ_=>q_p λ(v:Int) hv=>aA λ_=>?_;have hv0:=hk v hv;refine sx hv0 (aG (λ_=>(by exact dw2)) λ_=>?_);refine q_p λu hu=>aA λ_=>q_p λ(v:Int) hv=>aA λ_=>?_;have hv0:=hk v hv;exact dw2
instance H3{a b}:Safe (R.nA a b):=by
 unfold R.nA;refine ⟨aA λ_=>q_p λ(x:Int×Int) hx=>aA λ_=>q_p λ(y:Int×Int) hy=>aA λ_=>?_⟩;refine aB (R:=λc=>c=false->y.1≠2/\y.1≠1/\(y.1=0->y.2≠0)) (by exact dw2) λc hc=>aG (λ_=>(by exact dw2)) λhc'=>?_;have h1:=hc hc';refine aB (R:=λc=>c=false->y.1≠3/\y.1≠4) (by exact dw2) λd hd=>aG (λ_=>(by exact dw2)) λhd'=>?_;have h2:=hd hd';have h3:=hx;have h4:=hy;refine q_p λu hu=>aA λ_=>q_p λ(v:Int) (hv:-9007199254740991<=y.2->y.2<=9007199254740991->v=max y.2 (-y.2))=>aA λ_=>?_
 have hv0:v≠0:=by
  by_cases h0:y.1=0
  ·have:=h4.1 h0;have:=hv this.1 this.2;have:=h1.2.2 h0;omega
  ·have:=h4.2 h0;omega
 exact dw2
instance A9{x_0}:Safe (R.dw x_0):=by unfold R.dw;exact dw0
instance zb{x_0 y_1}:Safe (R.dP x_0 y_1):=by unfold R.dP;exact dw0
instance xc{a b}:Safe (R.cW a b):=by
 unfold R.cW;refine ⟨aA λh=>?_⟩;simp only [Sg.i,oks,Sh.ok,Ty.ok,List.map,Par.v,Bool.and_eq_true] at h;have:=la h.1
 refine aB (mD (λi=>i) a.length (by omega) (by omega) (by omega) λi h0 h1=>?_).ok λx _=>?_<;>exact dw2
instance HY{a_0 b_1}:Safe (R.lL a_0 b_1):=by unfold R.lL;exact dw0
instance IE{a_0 b_1}:Safe (R.lV a_0 b_1):=by unfold R.lV;exact dw0
instance F0{b_0 a_1}:Safe (R.gp b_0 a_1):=by unfold R.gp;exact dw0
instance Hv{a_0 b_1}:Safe (R.kR a_0 b_1):=by unfold R.kR;exact dw0
instance GW{x_0 y_1}:Safe (R.js x_0 y_1):=by unfold R.js;exact dw0
instance zH{a b}:Safe (R.dQ a b):=by
 unfold R.dQ;refine ⟨aA λh=>?_⟩;simp only [Sg.i,oks,Sh.ok,Ty.ok,List.map,Par.v,Bool.and_eq_true] at h;have:=la h.1
 refine dK (bH (λ_=>?_) λ_=>?_)<;>try exact aD trivial
 refine aB (mD (λi=>i) a.length (by omega) (by omega) (by omega) λi h0 h1=>?_).ok λx _=>?_<;>exact dw2
instance Ha{a_0 b_1}:Safe (R.lJ a_0 b_1):=by unfold R.lJ;exact dw0
instance Fx{a_0 b_1}:Safe (R.gh a_0 b_1):=by unfold R.gh;exact dw0
instance HM{v_0}:Safe (R.jf v_0):=by unfold R.jf;exact dw0
instance ES{v_0}:Safe (R.gB v_0):=by unfold R.gB;exact dw0
instance Hl{a_0 b_1}:Safe (R.lx a_0 b_1):=by unfold R.lx;exact dw0
instance GB{b_0 a_1}:Safe (R.kO b_0 a_1):=by unfold R.kO;exact dw0
instance GJ{a_0 b_1}:Safe (R.jr a_0 b_1):=by unfold R.jr;exact dw0
instance Hb{a_0}:Safe (R.fj a_0):=by unfold R.fj;exact dw0
instance xn{a b}:lb (R.cw a b) (λr=>r=true->(b.length:Int)<=a.length):=by
 unfold R.cw;refine ⟨aA λh=>?_⟩;simp only [Sg.i,oks,Sh.ok,Ty.ok,List.map,Par.v,Bool.and_eq_true] at h;have:=oE h.1;have:=oE h.2;exact dw2
instance xm{a b}:Safe (R.cV a b):=by
 unfold R.cV;refine ⟨aA λh=>?_⟩;simp only [Sg.i,oks,Sh.ok,Ty.ok,List.map,Par.v,Bool.and_eq_true] at h;have:=oE h.1;have:=oE h.2;refine q_p λx hx=>dK (aG (λhb=>?_) λ_=>aD trivial);have:=hx hb;exact dw2
instance AD{s_0 suffix_1}:Safe (R.db s_0 suffix_1):=by unfold R.db;exact dw0
instance G5{s_0}:Safe (R.kn s_0):=by unfold R.kn;exact dw0
instance xk{a b}:lb (R.cX a b) (λr=>r=true->(b.length:Int)<=a.length):=by
 unfold R.cX;refine ⟨?_⟩;exact dw2
instance Ag{s_0 prefix_1}:Safe (R.cU s_0 prefix_1):=by unfold R.cU;exact dw0
instance xX{a b}:Safe (R.cP a b):=by
 unfold R.cP;refine ⟨aA λh=>q_p λx hx=>aG (λhb=>?_) λ_=>aD trivial⟩;have:=hx hb;exact dw2
instance za{s_0 prefix_1}:Safe (R.b8 s_0 prefix_1):=by unfold R.b8;exact dw0
instance E1{kind_0 op_1 old_2 by_3}:Safe (R.iy kind_0 op_1 old_2 by_3):=by unfold R.iy;exact dw0
end Go.Mach

set_option maxRecDepth 100000
namespace Go.Mach
open Res
abbrev eH:=aE.den
abbrev ja:=iv.den
abbrev qn:=gX.den
abbrev dZ:=aC.den
inductive ElI:Int->Int->Prop
 |k1:ElI 1 1
 |k2:ElI 2 1
 |k3:ElI 3 2
 |k4:ElI 4 2
 |k5:ElI 5 4
 |k6:ElI 6 4
 |k7:ElI 7 8
 |k8:ElI 8 8
structure so (c d:ja):Prop where
 k:d.1=c.1
 n:d.2.2.2.2.2.1=c.2.2.2.2.2.1
 e:d.2.2.2.2.2.2.2.2.1=c.2.2.2.2.2.2.2.2.1
 b:d.2.2.2.2.2.2.2.2.2.1=c.2.2.2.2.2.2.2.2.2.1
 f:d.2.2.2.2.2.2.2.2.2.2.1=c.2.2.2.2.2.2.2.2.2.2.1
 l:d.2.2.2.2.2.2.2.2.2.2.2.1=c.2.2.2.2.2.2.2.2.2.2.2.1
 y:d.2.2.2.2.2.2.2.2.2.2.2.2.length=c.2.2.2.2.2.2.2.2.2.2.2.2.length
theorem so.refl(c:ja):so c c:=⟨rfl,rfl,rfl,rfl,rfl,rfl,rfl⟩
theorem so.trans{a b c:ja}(h:so a b)(g:so b c):so a c:=⟨g.k.trans h.k,g.n.trans h.n,g.e.trans h.e,g.b.trans h.b,g.f.trans h.f,g.l.trans h.l,g.y.trans h.y⟩
def ny(l l':List ja):Prop:=∀ (i:Nat) (c:ja),l[i]?=some c->∃ d,l'[i]?=some d/\so c d
theorem ny.refl(l:List ja):ny l l:=λ_ c h=>⟨c,h,.refl c⟩
theorem ny.trans{a b c:List ja}(h:ny a b)(g:ny b c):ny a c:=λi x hx=>by
 obtain ⟨y,h1,h2⟩:=h i x hx;obtain ⟨z,g1,g2⟩:=g i y h1;exact ⟨z,g1,h2.trans g2⟩
theorem ny.push(l:List ja)(c:ja):ny l (l++[c]):=λi x hx=>⟨x,by rw [List.getElem?_append_left (List.getElem?_eq_some_iff.1 hx).1];exact hx,.refl x⟩
theorem ny.set{l:List ja}{i:Nat}{c d:ja}(hi:l[i]?=some c)(h:so c d):ny l (l.set i d):=λj x hx=>by
 by_cases hij:i=j
 ·subst hij;rw [hi] at hx;cases hx;exact ⟨d,by rw [List.getElem?_set_self (List.getElem?_eq_some_iff.1 hi).1],h⟩
 ·exact ⟨x,by rw [List.getElem?_set_ne hij];exact hx,.refl x⟩
def qe(l:List ja)(b n:Int):Prop:=0<=b/\∃ d,l[b.toNat]?=some d/\((d.1=5/\n<=d.2.2.2.2.2.2.2.2.2.2.2.2.length)\/(d.1=6/\n<=d.2.2.2.2.2.2.2.2.2.2.2.1))
theorem qe.ext{l l':List ja}(h:ny l l'){b n:Int}(hb:qe l b n):qe l' b n:=by
 obtain ⟨h0,d,h1,h2⟩:=hb;obtain ⟨d',g1,g2⟩:=h _ d h1;refine ⟨h0,d',g1,?_⟩;rw [g2.k,g2.y,g2.l];exact h2
def FnI(N:List eH)(n:Int):Prop:=0<=n/\∃ x,N[n.toNat]?=some x/\(x.1=19\/x.1=41\/x.1=42)
structure pY (N:List eH) (l:List ja) (c:ja):Prop where
 fn:c.1=3->FnI N c.2.2.2.2.2.1
 bf:c.1=5->c.2.2.2.2.2.2.2.2.2.2.2.2.length<=4096
 sh:c.1=6->0<=c.2.2.2.2.2.2.2.2.2.2.2.1/\c.2.2.2.2.2.2.2.2.2.2.2.1<=9007199254740991
 ty:c.1=7->∃ z,ElI c.2.2.2.2.2.2.2.2.1 z/\0<=c.2.2.2.2.2.2.2.2.2.2.1/\0<=c.2.2.2.2.2.2.2.2.2.2.2.1/\c.2.2.2.2.2.2.2.2.2.2.2.1<=9007199254740991/\c.2.2.2.2.2.2.2.2.2.2.1+c.2.2.2.2.2.2.2.2.2.2.2.1*z<=9007199254740991/\qe l c.2.2.2.2.2.2.2.2.2.1 (c.2.2.2.2.2.2.2.2.2.2.1+c.2.2.2.2.2.2.2.2.2.2.2.1*z)
 vw:c.1=8->0<=c.2.2.2.2.2.2.2.2.2.2.1/\0<=c.2.2.2.2.2.2.2.2.2.2.2.1/\c.2.2.2.2.2.2.2.2.2.2.1+c.2.2.2.2.2.2.2.2.2.2.2.1<=9007199254740991/\qe l c.2.2.2.2.2.2.2.2.2.1 (c.2.2.2.2.2.2.2.2.2.2.1+c.2.2.2.2.2.2.2.2.2.2.2.1)
theorem pY.ext{N:List eH}{l l':List ja}(h:ny l l'){c:ja}(hc:pY N l c):pY N l' c :=
 ⟨hc.fn,hc.bf,hc.sh,λe=>by obtain ⟨z,h1,h2,h3,h4,h5,h6⟩:=hc.ty e;exact ⟨z,h1,h2,h3,h4,h5,h6.ext h⟩,λe=>by obtain ⟨h1,h2,h3,h4⟩:=hc.vw e;exact ⟨h1,h2,h3,h4.ext h⟩⟩
theorem pY.same{N:List eH}{l:List ja}{c d:ja}(h:so c d)(hc:pY N l c):pY N l d:=by
 obtain ⟨k,n,e,b,f,g,y⟩:=h;constructor
 ·rw [k,n];exact hc.fn
 ·rw [k,y];exact hc.bf
 ·rw [k,g];exact hc.sh
 ·rw [k,e,f,g,b];exact hc.ty
 ·rw [k,f,g,b];exact hc.vw
def bw(v:dZ):Prop:=v.1=5->v.2.2.2.1.length<=4096
theorem bw.of{v:dZ}(h:v.1≠5):bw v:=λe=>absurd e h
structure sd (B:Nat) (c:ja):Prop where
 pn:c.2.2.1.length<=B
 sn:c.2.2.2.1.length<=B
 pv:∀ p∈c.2.2.1,bw p.2
 sv:∀ p∈c.2.2.2.1,bw p.2.1
 tv:bw c.2.2.2.2.2.2.2.1
 nn:c.2.2.2.2.1.length<=4096
theorem sd.mono{B B':Nat}{c:ja}(h:sd B c)(hb:B<=B'):sd B' c:=⟨Nat.le_trans h.pn hb,Nat.le_trans h.sn hb,h.pv,h.sv,h.tv,h.nn⟩
structure ir (N:List eH) (B:Nat) (h:qn):Prop where
 rm:h.1<=4096
 le:h.2.length<=4096
 cl:∀ (i:Nat) (c:ja),h.2[i]?=some c->pY N h.2 c/\sd B c
theorem ir.mono{N:List eH}{B B':Nat}{h:qn}(hh:ir N B h)(hb:B<=B'):ir N B' h:=⟨hh.rm,hh.le,λi c hc=>⟨(hh.cl i c hc).1,(hh.cl i c hc).2.mono hb⟩⟩
theorem ir.set{N:List eH}{B:Nat}{h:qn}(hh:ir N B h){i:Nat}{c d:ja}(hi:h.2[i]?=some c)(hs:so c d)(hd:sd B d):ir N B (h.1,h.2.set i d):=by
 have he:ny h.2 (h.2.set i d):=.set hi hs;refine ⟨hh.rm,by show (h.2.set i d).length<=4096;rw [List.length_set];exact hh.le,λj x hx=>?_⟩;have hx:(h.2.set i d)[j]?=some x:=hx;by_cases hij:i=j
 ·subst hij;rw [List.getElem?_set_self (List.getElem?_eq_some_iff.1 hi).1] at hx;cases hx;exact ⟨((hh.cl i c hi).1.same hs).ext he,hd⟩
 ·rw [List.getElem?_set_ne hij] at hx;obtain ⟨h1,h2⟩:=hh.cl j x hx;exact ⟨h1.ext he,h2⟩
theorem ir.push{N:List eH}{B:Nat}{h:qn}(hh:ir N B h){c:ja}(hl:h.2.length < 4096)(hc:pY N h.2 c)(hv:sd B c):ir N B (h.1,h.2++[c]):=by
 have he:=ny.push h.2 c;refine ⟨hh.rm,by show (h.2++[c]).length<=4096;simp;omega,λj x hx=>?_⟩;have hx:(h.2++[c])[j]?=some x:=hx;rw [List.getElem?_append] at hx;split at hx
 ·obtain ⟨h1,h2⟩:=hh.cl j x hx;exact ⟨h1.ext he,h2⟩
 ·have:x=c:=by
   cases hj:j-h.2.length with
   |zero=>rw [hj] at hx;simpa using hx.symm
   |succ k=>rw [hj] at hx;simp at hx
  subst this;exact ⟨hc.ext he,hv⟩
theorem ir.lt{N:List eH}{B:Nat}{h:qn}(hh:ir N B h)(hl:(h.2.length:Int) < h.1):h.2.length < 4096:=Int.ofNat_lt.1 (Int.lt_of_lt_of_le hl hh.rm)
theorem sd.props{B:Nat}{c d:ja}(h:sd B c){B':Nat}(hb:B<=B')(hp:d.2.2.1.length<=B')(hv:∀ p∈d.2.2.1,bw p.2)(e:d.2.2.2=c.2.2.2):sd B' d:=⟨hp,by rw [e];exact Nat.le_trans h.sn hb,hv,by rw [e];exact h.sv,by rw [e];exact h.tv,by rw [e];exact h.nn⟩
theorem sd.slots{B:Nat}{c d:ja}(h:sd B c){B':Nat}(hb:B<=B')(hp:d.2.2.2.1.length<=B')(hv:∀ p∈d.2.2.2.1,bw p.2.1)(e:d.2.2.1=c.2.2.1)(e':d.2.2.2.2=c.2.2.2.2):sd B' d:=⟨by rw [e];exact Nat.le_trans h.pn hb,hp,by rw [e];exact h.pv,hv,by rw [e'];exact h.tv,by rw [e'];exact h.nn⟩
end Go.Mach

set_option maxRecDepth 100000
namespace Go.Mach
open Res
theorem has_ok{h:qn}{i:Int}:(R.bX h i).sat λr=>r=decide (0<=i/\i.toNat < h.2.length):=by
 unfold R.bX;refine aA λ_=>lW (λh0=>aD ?_) λh0=>aD ?_
 ·have e:(ilt i ((List.length h.2:Nat):Int))=decide (i < ((List.length h.2:Nat):Int)):=rfl;rw [e];congr 1;refine propext ⟨λg=>⟨h0,by omega⟩,λg=>by omega⟩
 ·rw [decide_eq_false (by omega)]
theorem ow{v:dZ}:(R.eF v).sat (·=v):=by
 unfold R.eF;exact aA λ_=>mQ (aA λ_=>mQ (aA λ_=>aD rfl))
theorem xw{c:ja}(hp:c.2.2.1.length<=2^39)(hs:c.2.2.2.1.length<=2^39):(R.gv c).sat (·=c):=by
 unfold R.gv;refine aA λ_=>aO (a:=c.2.2.1) (ax (decide_eq_true (by omega)) (aD rfl)) (aA λ_=>aO (a:=c.2.2.2.1) (ax (decide_eq_true (by omega)) (aD rfl)) (aA λ_=>mQ (aA λ_=>aO ow (aA λ_=>?_))));refine aO (a:=c.2.2.1) (fP (Q:=λl=>l=c.2.2.1) (λx=>x.1) (List.length c.2.2.1) (by omega) (λx=>x.2=c.2.2.1) (by simp) (by simp) rfl λx h0 h1 hI=>?_) ?_
 ·obtain ⟨i,l⟩:=x;have hI:l=c.2.2.1:=hI;subst hI;have h0:0<=i:=h0;refine dt (λhl=>?_) λhl=>aD rfl;have hl:i < (List.length c.2.2.1:Int):=hl
  have hl':(0+Int.toNat i:Int).toNat < List.length c.2.2.1:=by omega
  refine fN (ga h0 (oK hl (bP (by omega) hl' λe he _=>mQ (aA λ_=>aO ow (aA λ_=>fN (ga h0 (oK hl (bP (by omega) hl' λ_ _ _=>aD ⟨rfl,hl,?_⟩))))))))
  have he:(c.2.2.1)[0+Int.toNat i]?=some e:=by rw [<- he];congr 1
  exact oe he
 refine aO (a:=c.2.2.2.1) (fP (Q:=λl=>l=c.2.2.2.1) (λx=>x.1) (List.length c.2.2.2.1) (by omega) (λx=>x.2=c.2.2.2.1) (by simp) (by simp) rfl λx h0 h1 hI=>?_) ?_
 ·obtain ⟨i,l⟩:=x;have hI:l=c.2.2.2.1:=hI;subst hI;have h0:0<=i:=h0;refine dt (λhl=>?_) λhl=>aD rfl;have hl:i < (List.length c.2.2.2.1:Int):=hl
  have hl':(0+Int.toNat i:Int).toNat < List.length c.2.2.2.1:=by omega
  refine fN (ga h0 (oK hl (bP (by omega) hl' λe he _=>aO ow (aA λ_=>fN (ga h0 (oK hl (bP (by omega) hl' λe' he' _=>aD ⟨rfl,hl,?_⟩)))))));have he':some e=some e':=he.symm.trans he';cases he'
  have he:(c.2.2.2.1)[0+Int.toNat i]?=some e:=by rw [<- he];congr 1
  exact oe he
 exact aD rfl
theorem DT{l:List bK.den}{n:List UInt8}(hl:l.length<=2^40):(R.af l n).sat λr=>-1<=r/\r < l.length:=by
 unfold R.af
 refine aA λ_=>aB (fP (Q:=λr:Unit ⊕ Int=>match r with|.inl _=>True|.inr r=>-1<=r/\r < l.length) (λx=>x) l.length (by omega) (λ_=>True) (by omega) (by omega) trivial λx h0 h1 _=>?_) λx hx=>?_
 ·unfold R.fX;refine dt (λh=>bM (by omega) (by omega) λe _ _=>cz (aA λ_=>aD (aG (λ_=>aD ?_) λ_=>aD ⟨rfl,by omega,trivial⟩))) λ_=>aD trivial;exact ⟨by omega,by omega⟩
 ·cases x with
  |inl _=>exact i6 (aD ⟨by omega,by omega⟩)
  |inr r=>exact jD (aD hx)
theorem DV{l:List bR.den}{n:List Int}(hl:l.length<=2^40):(R.ae l n).sat λr=>-1<=r/\r < l.length:=by
 unfold R.ae
 refine aA λ_=>aB (fP (Q:=λr:Unit ⊕ Int=>match r with|.inl _=>True|.inr r=>-1<=r/\r < l.length) (λx=>x) l.length (by omega) (λ_=>True) (by omega) (by omega) trivial λx h0 h1 _=>?_) λx hx=>?_
 ·unfold R.er;refine dt (λh=>bM (by omega) (by omega) λe _ _=>cz (aA λ_=>q_b λ_=>aD (aG (λ_=>aD ?_) λ_=>aD ⟨rfl,by omega,trivial⟩))) λ_=>aD trivial;exact ⟨by omega,by omega⟩
 ·cases x with
  |inl _=>exact i6 (aD ⟨by omega,by omega⟩)
  |inr r=>exact jD (aD hx)
theorem y5{h:qn}{i:Int}{n:List UInt8}{c:ja}(h0:0<=i)(hc:h.2[i.toNat]?=some c)(hl:c.2.2.2.1.length<=2^40):(R.dU h i n).sat λr=>-1<=r/\r < c.2.2.2.1.length:=by
 unfold R.dU;refine aA λ_=>bM h0 (List.getElem?_eq_some_iff.1 hc).1 λx hx _=>?_;have hx:h.2[i.toNat]?=some x:=hx;rw [hc] at hx;cases hx;exact aB (DT hl) λr hr=>aA λ_=>aD hr
theorem wa{h:qn}{i:Int}{n:List Int}{c:ja}(h0:0<=i)(hc:h.2[i.toNat]?=some c)(hl:c.2.2.1.length<=2^40):(R.dm h i n).sat λr=>-1<=r/\r < c.2.2.1.length:=by
 unfold R.dm;refine aA λ_=>bM h0 (List.getElem?_eq_some_iff.1 hc).1 λx hx _=>?_;have hx:h.2[i.toNat]?=some x:=hx;rw [hc] at hx;cases hx;exact aB (DV hl) λr hr=>aA λ_=>aD hr
section
variable {N:List eH}{B:Nat}{h:qn}
theorem jn{i:Int}{β:Type}{Q:β->Prop}{k:Bool->Res β}(h1:∀ c,0<=i->h.2[i.toNat]?=some c->(k true).sat Q)(h2:¬ (0<=i/\i.toNat < h.2.length)->(k false).sat Q):((R.bX h i).bind k).sat Q:=by
 refine aB has_ok λr hr=>?_;by_cases hp:0<=i/\i.toNat < h.2.length
 ·rw [hr,decide_eq_true hp];exact h1 _ hp.1 (List.getElem?_eq_getElem hp.2)
 ·rw [hr,decide_eq_false hp];exact h2 hp
theorem kE{i:Int}{c:ja}{β:Type}{Q:β->Prop}{k:ja->Res β}(h0:0<=i)(hc:h.2[i.toNat]?=some c)(hk:(k c).sat Q):(cy kW h.2 i k).sat Q :=
 bM h0 (List.getElem?_eq_some_iff.1 hc).1 λx hx _=>by
  have hx:h.2[i.toNat]?=some x:=hx;rw [hc] at hx;cases hx;exact hk
theorem rh{α:Type}{P:α->Prop}{l:List α}{x:α}(h:∀ p∈l,P p)(hx:P x):∀ p∈l++[x],P p:=λp hp=>by
 rcases List.mem_append.1 hp with hp|hp
 ·exact h p hp
 ·cases List.mem_singleton.1 hp;exact hx
theorem re{α:Type}{P:α->Prop}{l:List α}{i:Nat}{x:α}(h:∀ p∈l,P p)(hx:P x):∀ p∈l.set i x,P p:=λp hp=>by
 rcases List.mem_or_eq_of_mem_set hp with hp|rfl
 ·exact h p hp
 ·exact hx
theorem CN(hh:ir N B h)(hB:B<=2^39){c:ja}(hc:pY N h.2 c)(hv:sd B c) :
  (R.fW h c).sat λr=>ir N B r.2/\ny h.2 r.2.2/\(r.1.2=true->0<=r.1.1/\r.2.2[r.1.1.toNat]?=some c):=by
 unfold R.fW;have hle:=hh.le;have hp:=hv.pn;have ht:=hv.sn;refine aA λ_=>lW (λ_=>aD ⟨hh,.refl _,λe=>by cases e⟩) λhlt=>aO (xw (by omega) (by omega)) (aA λ_=>ax (decide_eq_true (by simp;omega)) ?_);have hlt:(h.2.length:Int) < h.1:=hlt
 have e:w6 (((h.2++[c]).length:Int)-1)=h.2.length:=by rw [wrap64 (by simp;omega)];simp
 rw [e];exact aD ⟨hh.push (hh.lt hlt) hc hv,.push _ _,λ_=>⟨by show (0:Int)<=((h.2.length:Nat):Int);omega,by simp⟩⟩
theorem CE(hh:ir N B h)(hB:B<=2^39){i:Int}{n:List UInt8}{v:dZ}{r f:Bool}(hv:bw v):(R.bW h i n v r f).sat λr=>ir N (B+1) r.2/\ny h.2 r.2.2:=by
 unfold R.bW;refine aA λ_=>aB (R:=λb=>b=false->∃ c,0<=i/\h.2[i.toNat]?=some c) (jn (λc h0 hc=>fb rfl (aB (y5 h0 hc (by have:=(hh.cl _ c hc).2.sn;omega)) λr _=>aA λ_=>aD λ_=>⟨c,h0,hc⟩)) λ_=>fS rfl (aD λe=>by cases e)) λb hb=>?_
 cases b with
 |true=>exact fS rfl (aD ⟨hh.mono (by omega),.refl _⟩)
 |false =>
  obtain ⟨c,h0,hc⟩:=hb rfl;have hl:=(hh.cl _ c hc).2;have hs:=hl.sn;refine fb rfl (kE h0 hc (ax (by simp) (aO ow (aA λ_=>ax (decide_eq_true (by simp;omega)) (ax (by simp) (aD ⟨?_,?_⟩))))))
  ·exact (hh.mono (Nat.le_succ B)).set hc ⟨rfl,rfl,rfl,rfl,rfl,rfl,rfl⟩ (hl.slots (Nat.le_succ B) (by show (c.2.2.2.1++[_]).length<=_;simp;omega) (rh hl.sv hv) rfl rfl)
  ·exact .set hc ⟨rfl,rfl,rfl,rfl,rfl,rfl,rfl⟩
theorem put_ok(hh:ir N B h)(hB:B<=2^39){i:Int}{n:List Int}{v:dZ}(hv:bw v):(R.cH h i n v).sat λr=>ir N (B+1) r.2/\ny h.2 r.2.2:=by
 unfold R.cH;refine aA λ_=>jn (λc h0 hc=>fb rfl (kE h0 hc ?_)) λ_=>fS rfl (aD ⟨hh.mono (by omega),.refl _⟩);have hl:=(hh.cl _ c hc).2;have hp:=hl.pn;have hs:h.2.set i.toNat c=h.2:=oe hc;rw [hs];refine aB (wa (h:=(h.1,h.2)) h0 hc (by omega)) λr ⟨r0,r1⟩=>aA λ_=>lW (λhr=>ax (by simp) (aO ow (aA λ_=>ax (by simp [ile,ilt];omega) (bP (by omega) (by omega) λp _ _=>aD ⟨?_,?_⟩)))) λhr=>ax (by simp) (mQ (aA λ_=>aO ow (aA λ_=>ax (decide_eq_true (by simp;omega)) (ax (by simp) (aD ⟨?_,?_⟩)))))
 ·exact (hh.mono (Nat.le_succ B)).set hc ⟨rfl,rfl,rfl,rfl,rfl,rfl,rfl⟩ (hl.props (Nat.le_succ B) (by show (c.2.2.1.set _ _).length<=_;rw [List.length_set];omega) (re hl.pv hv) rfl)
 ·exact .set hc ⟨rfl,rfl,rfl,rfl,rfl,rfl,rfl⟩
 ·exact (hh.mono (Nat.le_succ B)).set hc ⟨rfl,rfl,rfl,rfl,rfl,rfl,rfl⟩ (hl.props (Nat.le_succ B) (by show (c.2.2.1++[_]).length<=_;simp;omega) (rh hl.pv hv) rfl)
 ·exact .set hc ⟨rfl,rfl,rfl,rfl,rfl,rfl,rfl⟩
theorem HN(hh:ir N B h)(hB:B<=2^39){i:Int}{n:List UInt8}{v:dZ}{r:Bool}(hv:bw v):(R.dM h i n v r).sat λr=>ir N B r.2/\ny h.2 r.2.2:=by
 unfold R.dM;refine aA λ_=>jn (λc h0 hc=>fb rfl ?_) λ_=>fS rfl (aD ⟨hh,.refl _⟩);have hl:=(hh.cl _ c hc).2;have hs:=hl.sn;refine aB (y5 h0 hc (by omega)) λr ⟨r0,r1⟩=>aA λ_=>dt (λhr=>aD ⟨hh,.refl _⟩) λhr=>kE h0 hc (ax (by simp) (ax (by simp [ile,ilt];omega) (aO ow (aA λ_=>bP (by omega) (by omega) λp hp _=>bP (by omega) (by simp;omega) λp' hp' _=>aD ⟨?_,?_⟩))))
 ·exact hh.set hc ⟨rfl,rfl,rfl,rfl,rfl,rfl,rfl⟩ (hl.slots (Nat.le_refl B) (by show ((c.2.2.2.1.set _ _).set _ _).length<=_;rw [List.length_set,List.length_set];omega) (re (re hl.sv hv) (re hl.sv hv p' (List.mem_of_getElem? hp'))) rfl rfl)
 ·exact .set hc ⟨rfl,rfl,rfl,rfl,rfl,rfl,rfl⟩
theorem HC(hh:ir N B h)(hB:B<=2^39){i:Int}:(R.fU h i).sat λr=>(r.1.1=0/\r.1.2.2.2.1=[])\/(r.2=true/\0<=i/\h.2[i.toNat]?=some r.1):=by
 unfold R.fU;refine aA λ_=>jn (λc h0 hc=>fb rfl (kE h0 hc ?_)) λ_=>fS rfl (aD (.inl ⟨rfl,rfl⟩));have hl:=(hh.cl _ c hc).2;have hp:=hl.pn;have hs:=hl.sn;exact aO (xw (by omega) (by omega)) (aA λ_=>aD (.inr ⟨rfl,h0,hc⟩))
theorem pL{i:Int}:(R.bo h i).sat λr=>r=0\/∃ c,0<=i/\h.2[i.toNat]?=some c/\r=(c.2.2.1.length:Int):=by
 unfold R.bo;exact aA λ_=>jn (λc h0 hc=>fb rfl (kE h0 hc (aD (.inr ⟨c,h0,hc,rfl⟩)))) λ_=>fS rfl (aD (.inl rfl))
theorem HI(hh:ir N B h)(hB:B<=2^39){i:Int}:(R.fk h i).sat λr=>ir N B r.2/\ny h.2 r.2.2/\bw r.1.1:=by
 unfold R.fk;refine aA λ_=>aB pL λr hr=>aA λ_=>bH (λ_=>aD ⟨hh,.refl _,.of (show (0:Int)≠5 by decide)⟩) λhne=>?_;rcases hr with hr|⟨c,h0,hc,rfl⟩
 ·exact absurd hr hne
 have hl:=(hh.cl _ c hc).2;have hp:=hl.pn;have e:w6 ((c.2.2.1.length:Int)-1)=(c.2.2.1.length:Int)-1:=wrap64 (by omega);refine kE h0 hc ?_;rw [e];refine ax (by simp) (ax (by simp) (ax (by simp [ile,ilt];omega) (bP (by omega) (by omega) λp hp' _=>ax (by simp) (ax (by simp [ile];omega) (ax (by simp) (aO ow (aA λ_=>aD ⟨?_,?_,?_⟩)))))))
 ·exact hh.set hc ⟨rfl,rfl,rfl,rfl,rfl,rfl,rfl⟩ (hl.props (Nat.le_refl B) (by show (List.take _ (List.drop 0 c.2.2.1)).length<=_;simp;omega) (λp hp=>hl.pv p (List.mem_of_mem_take hp)) rfl)
 ·exact .set hc ⟨rfl,rfl,rfl,rfl,rfl,rfl,rfl⟩
 ·exact hl.pv p (List.mem_of_getElem? hp')
theorem Fa(hh:ir N B h)(hB:B<=2^39){i a:Int}{b:List Int}(hb:b.length<=8)(hbyt:∀ c:ja,h.2[i.toNat]?=some c->c.2.2.2.2.2.2.2.2.2.2.2.2.length<=2^47):(R.eX h i a b).sat λr=>ir N B r.2/\ny h.2 r.2.2:=by
 unfold R.eX;refine aA λ_=>jn (λc h0 hc=>fb rfl (kE h0 hc ?_)) λ_=>fS rfl (aD ⟨hh,.refl _⟩);have hl:=(hh.cl _ c hc).2;have hy:=hbyt c hc;have hs:h.2.set i.toNat c=h.2:=oe hc;refine aB (R:=λx=>x=false->0<=a/\a<=c.2.2.2.2.2.2.2.2.2.2.2.2.length/\a+b.length<=c.2.2.2.2.2.2.2.2.2.2.2.2.length) (dt (λ_=>aD λe=>by cases e) λa0=>ax (by simp) (dt (λ_=>aD λe=>by cases e) λa1=>ax (by simp) (aD λe=>?_))) λx hx=>?_
 ·rw [wrap64 (by omega),lu] at e;exact ⟨a0,a1,by omega⟩
 cases x with
 |true =>
  refine fS rfl (aD ⟨?_,?_⟩)
  ·show ir N B (h.1,h.2.set i.toNat c);rw [hs];exact hh
  ·show ny h.2 (h.2.set i.toNat c);rw [hs];exact .refl _
 |false =>
  obtain ⟨a0,a1,a2⟩:=hx rfl
  have e:(List.take (0+a.toNat) c.2.2.2.2.2.2.2.2.2.2.2.2++(List.take (min b.length (c.2.2.2.2.2.2.2.2.2.2.2.2.length-a.toNat)) b++List.drop (0+a.toNat+min b.length (c.2.2.2.2.2.2.2.2.2.2.2.2.length-a.toNat)) c.2.2.2.2.2.2.2.2.2.2.2.2)).length=c.2.2.2.2.2.2.2.2.2.2.2.2.length:=by
   simp only [List.length_append,List.length_take,List.length_drop];omega
  refine fb rfl (ax (by simp) (ax (by simp [ile];omega) (aD ⟨?_,?_⟩)))
  ·exact hh.set hc ⟨rfl,rfl,rfl,rfl,rfl,rfl,e⟩ ⟨hl.pn,hl.sn,hl.pv,hl.sv,hl.tv,hl.nn⟩
  ·exact .set hc ⟨rfl,rfl,rfl,rfl,rfl,rfl,e⟩
theorem Gg{i:Int}:(R.bI h i).sat λr=>(r.2=false/\r.1.1=0/\¬ (0<=i/\i.toNat < h.2.length))\/(r.2=true/\0<=i/\∃ c,h.2[i.toNat]?=some c/\r.1=(c.1,(c.2.1,((),((),(c.2.2.2.2.1,(c.2.2.2.2.2.1,(c.2.2.2.2.2.2.1,(c.2.2.2.2.2.2.2.1,(c.2.2.2.2.2.2.2.2.1,(c.2.2.2.2.2.2.2.2.2.1,(c.2.2.2.2.2.2.2.2.2.2.1,(c.2.2.2.2.2.2.2.2.2.2.2.1,()))))))))))))):=by
 unfold R.bI;exact aA λ_=>jn (λc h0 hc=>fb rfl (kE h0 hc (aD (.inr ⟨rfl,h0,c,hc,rfl⟩)))) λhn=>fS rfl (aD (.inl ⟨rfl,rfl,hn⟩))
theorem ni{i:Int}:(R.bU h i).sat λr=>(r=0/\¬ (0<=i/\i.toNat < h.2.length))\/(0<=i/\∃ c,h.2[i.toNat]?=some c/\r=c.1):=by
 unfold R.bU;exact aA λ_=>jn (λc h0 hc=>fb rfl (kE h0 hc (aD (.inr ⟨h0,c,hc,rfl⟩)))) λhn=>fS rfl (aD (.inl ⟨rfl,hn⟩))
theorem C1(hh:ir N B h)(hB:B<=2^39){i:Int}{n:List UInt8}:(R.eD h i n).sat λr=>bw r.1.2.1:=by
 unfold R.eD;have hle:=hh.le
 refine aA λ_=>aB (fP (Q:=λr:Unit ⊕ (Int×(Bool×bK.den))=>match r with|.inl _=>True|.inr r=>bw r.2.2.2.1) (λx=>x.2) h.2.length (by omega) (λ_=>True) (by simp) (by simp) trivial λx h0 h1 _=>?_) λx hx=>?_
 ·refine dt (λhl=>jn (λc c0 hc=>fb rfl ?_) λ_=>fS rfl (aD trivial)) λ_=>aD trivial;have hv:=(hh.cl _ c hc).2;have hs:=hv.sn;refine aB (y5 c0 hc (by omega)) λr ⟨r0,r1⟩=>aA λ_=>lW (λhr=>kE c0 hc (bM hr (by omega) λp hp _=>aO ow (aA λ_=>aD ?_))) λ_=>kE c0 hc (aD ⟨rfl,hl,trivial⟩);exact hv.sv p (List.mem_of_getElem? hp)
 ·cases x with
  |inl _=>exact i6 (aD (.of (show (0:Int)≠5 by decide)))
  |inr r=>exact jD (aD hx)
theorem tY(hh:ir N B h)(hB:B<=2^39){i:Int}{n:List Int}:(R.c7 h i n).sat λr=>bw r.1:=by
 unfold R.c7;refine aA λ_=>jn (λc c0 hc=>fb rfl ?_) λ_=>fS rfl (aD (.of (show (0:Int)≠5 by decide)));have hv:=(hh.cl _ c hc).2;have hs:=hv.pn;refine aB (wa c0 hc (by omega)) λr ⟨r0,r1⟩=>aA λ_=>dt (λ_=>aD (.of (show (0:Int)≠5 by decide))) λhr=>kE c0 hc (bM hr (by omega) λp hp _=>aO ow (aA λ_=>aD ?_));exact hv.pv p (List.mem_of_getElem? hp)
theorem CT(hh:ir N B h)(hB:B<=2^39){i:Int}{n:List Int}:(R.eG h i n).sat λr=>bw r.1:=by
 unfold R.eG;have hle:=hh.le
 refine aA λ_=>aB (fP (Q:=λr:Unit ⊕ (Int×(Bool×aC.den))=>match r with|.inl _=>True|.inr r=>bw r.2.2) (λx=>x.2) h.2.length (by omega) (λ_=>True) (by simp) (by simp) trivial λx h0 h1 _=>?_) λx hx=>?_
 ·refine dt (λhl=>aB (tY hh hB) λr hr=>aA λ_=>aG (λ_=>aD hr) λ_=>jn (λc c0 hc=>fb rfl (kE c0 hc (dt (λ_=>aD (.of (show (0:Int)≠5 by decide))) λ_=>aD ⟨rfl,hl,trivial⟩))) λ_=>fS rfl (aD (.of (show (0:Int)≠5 by decide)))) λ_=>aD trivial
 ·cases x with
  |inl _=>exact i6 (aD (.of (show (0:Int)≠5 by decide)))
  |inr r=>exact jD (aD hx)
end
end Go.Mach

set_option maxRecDepth 100000
namespace Go.Mach
open Res
abbrev RunT:=aI.den
abbrev qO:=aS.den
abbrev vm:=cm.den
def req0:vm:=(0,(0,(0,(0,(0,(false,(false,(0,(0,((0,0),(([]:List Int),0)))))))))))
structure Cx where
 N:List eH
 H:Int
 D:Int
 F:Int
 A:List qO
structure gq (C:Cx) (m:Int) (s:RunT):Prop where
 nd:s.1=C.N
 lm:s.2.1=(C.H,(C.D,C.F))
 an:s.2.2.1=C.A
 u0:LE.le (α:=Int) (0) (s.2.2.2.1)
 us:LE.le (α:=Int) (s.2.2.2.1) ((C.A.length:Int))
 hp:∃ B:Nat,ir C.N B s.2.2.2.2.1/\(B:Int)+134217728*((HSub.hSub (α:=Int) (β:=Int) (γ:=Int) (C.F) (s.2.2.2.2.2.2.1)))<=m
 d0:LE.le (α:=Int) (0) (s.2.2.2.2.2.1)
 dp:LE.le (α:=Int) (s.2.2.2.2.2.1) (C.D)
 b0:LE.le (α:=Int) (0) (s.2.2.2.2.2.2.1)
 bg:LE.le (α:=Int) (s.2.2.2.2.2.2.1) (C.F)
 rq:s.2.2.2.2.2.2.2.1=req0
 en:s.2.2.2.2.2.2.2.2=(0,([]:List Int))
theorem gq.mono{C:Cx}{m m':Int}{s:RunT}(h:gq C m s)(hm:m<=m'):gq C m' s:=⟨h.nd,h.lm,h.an,h.u0,h.us,by obtain ⟨B,h1,h2⟩:=h.hp;exact ⟨B,h1,Int.le_trans h2 hm⟩,h.d0,h.dp,h.b0,h.bg,h.rq,h.en⟩
def B7(a:Int×Int):Prop:=(a.1=0/\0<=a.2/\a.2<=9007199254740991)\/(a.1=3/\a.2=0)
structure xL (q:vm):Prop where
 k:1<=q.1/\q.1<=14
 ln:0<=q.2.2.2.2.2.2.2.2.2.2.2/\q.2.2.2.2.2.2.2.2.2.2.2<=9007199254740991
 tx:q.2.2.2.2.2.2.2.2.2.2.1.length<=4096
 nm:B7 q.2.2.2.2.2.2.2.2.2.1
 a:(q.1 < 2\/6 < q.1)->q.2.2.2.1=0/\q.2.2.2.2.2.1=false/\q.2.2.2.2.2.2.1=false/\q.2.2.2.2.2.2.2.1=0/\q.2.2.2.2.2.2.2.2.1=0/\q.2.2.2.2.1=0
 z:(2<=q.1/\q.1<=6)->(q.2.2.2.1=1\/q.2.2.2.1=2\/q.2.2.2.1=4\/q.2.2.2.1=8)/\(q.2.2.2.1=8\/(q.2.2.2.2.2.2.2.1 < 2^(8*q.2.2.2.1).toNat/\q.2.2.2.2.2.2.2.2.1 < 2^(8*q.2.2.2.1).toNat))/\0<=q.2.2.1/\(q.2.2.2.2.2.1=true->q.2.2.2.2.2.2.1=true)/\(q.1=4->0 < q.2.2.2.2.1/\q.2.2.2.2.1<=6)/\(q.1≠4->q.2.2.2.2.1=0)
structure Cj (C:Cx) (s:RunT):Prop where
 nd:s.1=C.N
 hs:(s.2.2.2.2.2.2.2.2=(0,([]:List Int))/\xL s.2.2.2.2.2.2.2.1)\/∃ k:Int,3<=k/\k<=6/\s.2.2.2.2.2.2.2.2=(k,([]:List Int))/\s.2.2.2.2.2.2.2.1=req0
structure Aft (C:Cx) (m b:Int) (s s':RunT):Prop where
 run:gq C m s'
 ext:ny s.2.2.2.2.1.2 s'.2.2.2.2.1.2
 dp:Eq (α:=Int) (s'.2.2.2.2.2.1) (s.2.2.2.2.2.1)
 bg:LE.le (α:=Int) (b) (s'.2.2.2.2.2.2.1)
def Pst(C:Cx)(m b:Int)(s:RunT)(how:Int)(s':RunT):Prop:=(how=5/\Cj C s')\/(how≠5/\Aft C m b s s')
def cp(C:Cx)(m b:Int)(s:RunT)(r:(dZ×Int)×RunT):Prop:=bw r.1.1/\Pst C m b s r.1.2 r.2
def nx(C:Cx)(m b:Int)(s:RunT)(r:aQ.den×RunT):Prop:=bw r.1.2.2/\Pst C m b s r.1.1 r.2
section
variable {C:Cx}{m b:Int}{s:RunT}
theorem Aft.refl(h:gq C m s):Aft C m s.2.2.2.2.2.2.1 s s:=⟨h,.refl _,rfl,Int.le_refl _⟩
theorem Aft.mono{s':RunT}(h:Aft C m b s s'){m' b':Int}(hm:m<=m')(hb:b'<=b):Aft C m' b' s s':=⟨h.run.mono hm,h.ext,h.dp,Int.le_trans hb h.bg⟩
theorem Aft.trans{m' b':Int}{s' s'':RunT}(h:Aft C m b s s')(g:Aft C m' b' s' s''):Aft C m' b' s s'':=⟨g.run,h.ext.trans g.ext,g.dp.trans h.dp,g.bg⟩
theorem Pst.mono{how:Int}{s':RunT}(h:Pst C m b s how s'){m' b':Int}(hm:m<=m')(hb:b'<=b):Pst C m' b' s how s':=h.imp id λ⟨h1,h2⟩=>⟨h1,h2.mono hm hb⟩
theorem Pst.after{m' b' how:Int}{s' s'':RunT}(h:Aft C m b s s')(g:Pst C m' b' s' how s''):Pst C m' b' s how s'':=g.imp id λ⟨h1,h2⟩=>⟨h1,h.trans h2⟩
theorem Pst.how{how how':Int}{s':RunT}(h:Pst C m b s how s')(hn:how≠5)(hn':how'≠5):Pst C m b s how' s':=by
 rcases h with ⟨h1,_⟩|⟨_,h2⟩
 ·exact absurd h1 hn
 ·exact .inr ⟨hn',h2⟩
theorem Pst.aft{how:Int}{s':RunT}(h:Pst C m b s how s')(hn:how≠5):Aft C m b s s':=by
 rcases h with ⟨h1,_⟩|⟨_,h2⟩
 ·exact absurd h1 hn
 ·exact h2
theorem gq.heap(h:gq C m s)(hm:m<=2^39):∃ B:Nat,ir C.N B s.2.2.2.2.1/\B<=2^39/\(B:Int)+134217728*((HSub.hSub (α:=Int) (β:=Int) (γ:=Int) (C.F) (s.2.2.2.2.2.2.1)))<=m:=by
 obtain ⟨B,h1,h2⟩:=h.hp;have:=h.bg;exact ⟨B,h1,by omega,h2⟩
theorem gq.put(h:gq C m s){H:qn}{B:Nat}{m':Int}(hH:ir C.N B H)(hB:(B:Int)+134217728*((HSub.hSub (α:=Int) (β:=Int) (γ:=Int) (C.F) (s.2.2.2.2.2.2.1)))<=m'):gq C m' (s.1,(s.2.1,(s.2.2.1,(s.2.2.2.1,(H,s.2.2.2.2.2))))):=⟨h.nd,h.lm,h.an,h.u0,h.us,⟨B,hH,hB⟩,h.d0,h.dp,h.b0,h.bg,h.rq,h.en⟩
theorem qt{k:Int}:(R.ca s k).sat (·=(5,(s.1,(s.2.1,(s.2.2.1,(s.2.2.2.1,(s.2.2.2.2.1,(s.2.2.2.2.2.1,(s.2.2.2.2.2.2.1,(s.2.2.2.2.2.2.2.1,(k,([]:List Int))))))))))) ):=by
 unfold R.ca;exact aA λ_=>aD rfl
theorem gq.halt(h:gq C m s){k:Int}(hk:3<=k/\k<=6){H:qn}{d b:Int}:Cj C (s.1,(s.2.1,(s.2.2.1,(s.2.2.2.1,(H,(d,(b,(s.2.2.2.2.2.2.2.1,(k,([]:List Int)))))))))):=⟨h.nd,.inr ⟨k,hk.1,hk.2,rfl,h.rq⟩⟩
theorem ba:bw (0,((0,0),((false,([]:List Int)),(([]:List Int),0)))):=.of (show (0:Int)≠5 by decide)
theorem fR(h:gq C m s):(R.aL s).sat (cp C m b s):=by
 unfold R.aL;exact aA λ_=>aO qt (aA λ_=>aD ⟨ba,.inl ⟨rfl,h.halt (by decide)⟩⟩)
theorem Dq(h:gq C m s)(hF:C.F<=2^40)(hD:C.D<=2^40):(R.cT s).sat λr=>(r.1=false/\Cj C r.2)\/(r.1=true/\r.2.2.2.2.2.1=s.2.2.2.2.1/\Eq (α:=Int) (r.2.2.2.2.2.2.1) ((HAdd.hAdd (α:=Int) (β:=Int) (γ:=Int) (s.2.2.2.2.2.1) (1)))/\Eq (α:=Int) (r.2.2.2.2.2.2.2.1) ((HAdd.hAdd (α:=Int) (β:=Int) (γ:=Int) (s.2.2.2.2.2.2.1) (1)))/\gq C (m-134217728) r.2):=by
 unfold R.cT;have h1:=h.dp;have h2:=h.bg;have h3:=h.d0;have h4:=h.b0;have e1:s.2.1.2.1=C.D:=congrArg (λx=>x.2.1) h.lm;have e2:s.2.1.2.2=C.F:=congrArg (λx=>x.2.2) h.lm;refine aA λ_=>?_;refine lW (λ_=>aO qt (aA λ_=>aD (.inl ⟨rfl,?_⟩))) λhd=>lW (λ_=>aO qt (aA λ_=>aD (.inl ⟨rfl,?_⟩))) λhf=>aD (.inr ?_)
 ·exact h.halt (k:=5) (by decide)
 ·exact h.halt (k:=6) (by decide)
 ·have hd:LT.lt (α:=Int) (s.2.2.2.2.2.1) (s.2.1.2.1):=hd;have hf:LT.lt (α:=Int) (s.2.2.2.2.2.2.1) (s.2.1.2.2):=hf;rw [e1] at hd;rw [e2] at hf;have e1:w6 (HAdd.hAdd (α:=Int) (β:=Int) (γ:=Int) (s.2.2.2.2.2.1) (1))=(HAdd.hAdd (α:=Int) (β:=Int) (γ:=Int) (s.2.2.2.2.2.1) (1)):=wrap64 (by omega);have e2:w6 (HAdd.hAdd (α:=Int) (β:=Int) (γ:=Int) (s.2.2.2.2.2.2.1) (1))=(HAdd.hAdd (α:=Int) (β:=Int) (γ:=Int) (s.2.2.2.2.2.2.1) (1)):=wrap64 (by omega);rw [e1,e2];refine ⟨rfl,rfl,rfl,rfl,h.nd,h.lm,h.an,h.u0,h.us,?_,?_,?_,?_,?_,h.rq,h.en⟩
  ·obtain ⟨B,g1,g2⟩:=h.hp;refine ⟨B,g1,?_⟩;show (B:Int)+134217728*(C.F-((HAdd.hAdd (α:=Int) (β:=Int) (γ:=Int) (s.2.2.2.2.2.2.1) (1))))<=m-134217728;omega
  ·show LE.le (α:=Int) (0) ((HAdd.hAdd (α:=Int) (β:=Int) (γ:=Int) (s.2.2.2.2.2.1) (1)));omega
  ·show LE.le (α:=Int) ((HAdd.hAdd (α:=Int) (β:=Int) (γ:=Int) (s.2.2.2.2.2.1) (1))) (C.D);omega
  ·show LE.le (α:=Int) (0) ((HAdd.hAdd (α:=Int) (β:=Int) (γ:=Int) (s.2.2.2.2.2.2.1) (1)));omega
  ·show LE.le (α:=Int) ((HAdd.hAdd (α:=Int) (β:=Int) (γ:=Int) (s.2.2.2.2.2.2.1) (1))) (C.F);omega
theorem pK(h:gq C m s)(hm:m<=2^39){c:ja}(hc:pY C.N s.2.2.2.2.1.2 c)(hv:∀ B,ir C.N B s.2.2.2.2.1->sd B c):(R.ah s c).sat λr=>cp C m s.2.2.2.2.2.2.1 s r/\(r.1.2≠5->r.1.2=0/\r.1.1.1=6/\0<=r.1.1.2.2.2.2/\r.2.2.2.2.2.1.2[r.1.1.2.2.2.2.toNat]?=some c):=by
 unfold R.ah;obtain ⟨B,h1,h2,h3⟩:=h.heap hm;refine aA λ_=>aB (CN h1 h2 hc (hv B h1)) λr ⟨r1,r2,r3⟩=>aA λ_=>dK (aG (λhr=>aD ⟨⟨.of (show (6:Int)≠5 by decide),.inr ⟨show (0:Int)≠5 by decide,h.put r1 h3,r2,rfl,Int.le_refl _⟩⟩,λ_=>⟨rfl,rfl,r3 hr⟩⟩) λ_=>aO qt (aA λ_=>aD ⟨⟨ba,.inl ⟨rfl,h.halt (by decide)⟩⟩,λe=>absurd rfl e⟩))
theorem pY.mk'{N:List eH}{l:List ja}{c:ja}(k:Int)(e:c.1=k)(h:k≠3/\k≠5/\k≠6/\k≠7/\k≠8):pY N l c:=by
 subst e;exact ⟨λe=>absurd e h.1,λe=>absurd e h.2.1,λe=>absurd e h.2.2.1,λe=>absurd e h.2.2.2.1,λe=>absurd e h.2.2.2.2⟩
theorem qU(h:gq C m s)(hm:m<=2^39){a:Int}:(R.cJ s a).sat λr=>Pst C m s.2.2.2.2.2.2.1 s r.1.2 r.2/\(r.1.2≠5->r.1.2=0):=by
 unfold R.cJ;exact aA λ_=>aB (pK h hm (.mk' 9 rfl (by decide)) λB _=>⟨Nat.zero_le _,Nat.zero_le _,by simp,by simp,ba,Nat.zero_le _⟩) λr ⟨r1,r2⟩=>aA λ_=>aD ⟨r1.2,λe=>(r2 e).1⟩
theorem nI{u:List Int}:(R.cd u).sat λr=>bw r/\r.1=5:=by
 unfold R.cd
 have h0:(0:Int)<=lQ (u.length:Int) 4096/\lQ (u.length:Int) 4096<=u.length/\lQ (u.length:Int) 4096<=4096:=by rw [gN];omega
 refine aA λ_=>fN (ga h0.1 (ga h0.2.1 (mQ (aA λ_=>aD ⟨λ_=>?_,rfl⟩))));show (List.take _ (List.drop 0 u)).length<=4096;simp only [List.length_take];omega
theorem Fp(h:gq C m s)(hm:m<=2^39){n:List UInt8}(hn:n.length<=4096):(R.dE s n).sat λr=>cp C m s.2.2.2.2.2.2.1 s r/\r.1.2≠0:=by
 unfold R.dE;refine aA λ_=>aB nI λu hu=>aA λ_=>aB (pK h hm (.mk' 10 rfl (by decide)) λB _=>⟨Nat.zero_le _,Nat.zero_le _,by simp,by simp,hu.1,hn⟩) λr ⟨r1,r2⟩=>aA λ_=>dK (bH (λe=>aD ⟨⟨r1.1,.inr ⟨show (4:Int)≠5 by decide,r1.2.aft (by rw [e];decide)⟩⟩,show (4:Int)≠0 by decide⟩) λe=>aD ⟨r1,e⟩)
theorem nY(h:gq C m s)(hm:m<=2^39){k:Int}:(R.aF s k).sat λr=>cp C m s.2.2.2.2.2.2.1 s r/\r.1.2≠0:=by
 unfold R.aF
 refine aA λ_=>bH (λ_=>?_) λ_=>bH (λ_=>?_) λ_=>bH (λ_=>?_) λ_=>bH (λ_=>?_) λ_=>aO qt (aA λ_=>aD ⟨⟨ba,.inl ⟨rfl,h.halt (by decide)⟩⟩,show (5:Int)≠0 by decide⟩)<;>exact aB (Fp h hm (by decide)) λr hr=>aA λ_=>aD hr
theorem qH(h:gq C m s)(hm:m<=2^39){v:dZ}(hv:bw v){k:Int}:(R.cN s v k).sat (cp C m s.2.2.2.2.2.2.1 s):=by
 unfold R.cN;exact aA λ_=>dK (bH (λ_=>aD ⟨hv,.inr ⟨show (0:Int)≠5 by decide,.refl h⟩⟩) λ_=>aB (nY h hm) λr hr=>aA λ_=>aD hr.1)
theorem rf(h:gq C m s)(hA:C.A.length<=2^40){q:vm}(hq:xL q):(R.bm s q).sat λr=>Pst C m s.2.2.2.2.2.2.1 s r.1.2 r.2/\(r.1.2≠5->r.1.2=0):=by
 unfold R.bm;have h1:=h.u0;have h2:=h.us;refine aA λ_=>bH (λ_=>aO qt (aA λ_=>aD ⟨.inl ⟨rfl,h.nd,.inl ⟨rfl,hq⟩⟩,λe=>absurd rfl e⟩)) λhne=>?_;have e0:s.2.2.1.length=C.A.length:=congrArg List.length h.an;have hne:Ne (α:=Int) (s.2.2.2.1) ((s.2.2.1.length:Int)):=hne;have e1:w6 (HAdd.hAdd (α:=Int) (β:=Int) (γ:=Int) (s.2.2.2.1) (1))=(HAdd.hAdd (α:=Int) (β:=Int) (γ:=Int) (s.2.2.2.1) (1)):=wrap64 (by omega)
 have e2:w6 (HSub.hSub (α:=Int) (β:=Int) (γ:=Int) ((HAdd.hAdd (α:=Int) (β:=Int) (γ:=Int) (s.2.2.2.1) (1))) (1))=s.2.2.2.1:=by rw [wrap64 (by omega)];omega
 rw [e1,e2];exact bM h1 (by omega) λa _ _=>mQ (aA λ_=>aD ⟨.inr ⟨show (0:Int)≠5 by decide,⟨h.nd,h.lm,h.an,by show LE.le (α:=Int) (0) ((HAdd.hAdd (α:=Int) (β:=Int) (γ:=Int) (s.2.2.2.1) (1)));omega,by show LE.le (α:=Int) ((HAdd.hAdd (α:=Int) (β:=Int) (γ:=Int) (s.2.2.2.1) (1))) (_);omega,h.hp,h.d0,h.dp,h.b0,h.bg,h.rq,h.en⟩,.refl _,rfl,Int.le_refl _⟩,λ_=>rfl⟩)
end
end Go.Mach

set_option maxRecDepth 100000
namespace Go.Mach
open Res
def wP(k:Int):Bool:=decide (30<=k/\k<=53/\k≠40)
def Ar(k:Int):Bool:=decide (k=33\/k=52\/k=53)
def oT(s k:Int):Bool :=
 if s=1\/s=2 then true
 else if s=3 then wP k
 else if s=4 then Ar k
 else if s=5 then k == 7
 else if s=6 then k == 20
 else if s=7 then k == 40
 else if s=8 then k == 4
 else if s=9 then k == 11 || wP k
 else if s=10 then k == 11 || k == 5 || k == 6 || wP k
 else if s=11 then k == 11 || k == 17
 else if s=12 then k == 11 || k == 4
 else if s=13 then k == 4 || wP k
 else false
def ym(n last:Int):List Int:=List.replicate (n-1).toNat 6++[last]
def shp(k n:Int):List Int×Int :=
 if k=1\/k=4 then ([],1)
 else if k=3\/k=15\/k=40\/k=43\/k=52 then ([3],0)
 else if k=5\/k=6 then ([5],5)
 else if k=7\/k=14 then (List.take (min n 1).toNat [3],0)
 else if k=8 then (List.take (min (max n 2) 3).toNat [3,2,2],0)
 else if k=9 then ([3,2],0)
 else if k=10 then ([10,9,9,2],0)
 else if k=16 then ([8,11,12],0)
 else if k=17 then ([8],0)
 else if k=18 then ([2],0)
 else if k=19\/k=41 then (ym n 8,0)
 else if k=42 then (ym n 13,0)
 else if k=38 then ([],3)
 else if k=39 then ([],7)
 else if k=44\/k=45 then ([4],0)
 else if k=46\/k=47\/k=53 then ([3,3],0)
 else if k=48 then ([3,3,3],0)
 else if k=49 then ([4,3],0)
 else if k=50\/k=51 then ([3],3)
 else ([],0)
def srt(l:List Int×Int)(i:Nat):Int:=l.1.getD i l.2
structure rF (N:List eH) (x:eH):Prop where
 kid:∀ (i:Nat) (k:Int),x.2.2.2.2.2[i]?=some k->0<=k/\∃ y,N[k.toNat]?=some y/\oT (srt (shp x.1 x.2.2.2.2.2.length) i) y.1=true/\x.2.2.2.2.2.length+y.2.2.2.2.2.length<=20000
 len:(shp x.1 x.2.2.2.2.2.length).1.length<=x.2.2.2.2.2.length
 nam:x.1=49->x.2.1≠[]
def Kid(N:List eH)(x:eH)(i:Nat)(P:Int->Prop):Prop:=∃ k y,x.2.2.2.2.2[i]?=some k/\0<=k/\N[k.toNat]?=some y/\P y.1
theorem rF.at'{N:List eH}{x:eH}(h:rF N x){i:Nat}(hi:i < x.2.2.2.2.2.length)(s:Int)(hs:srt (shp x.1 x.2.2.2.2.2.length) i=s):Kid N x i λk=>oT s k=true:=by
 obtain ⟨h0,y,h1,h2,_⟩:=h.kid i _ (List.getElem?_eq_getElem hi);exact ⟨_,y,List.getElem?_eq_getElem hi,h0,h1,hs▸h2⟩
theorem oQ{k:Int}:(R.dk k).sat (·=wP k):=by
 unfold R.dk wP;refine aA λ_=>lW (λh1=>lW (λh2=>aD ?_) λh2=>aD ?_) λh1=>aD ?_
 ·show (!(k == 40))=_;by_cases hk:k=40
  ·subst hk;rfl
  ·rw [show (k == 40)=false from beq_false_of_ne hk,decide_eq_true ⟨h1,h2,hk⟩];rfl
 ·rw [decide_eq_false (by omega)]
 ·rw [decide_eq_false (by omega)]
theorem DL{k:Int}:(R.gn k).sat (·=Ar k):=by
 unfold R.gn Ar;refine aA λ_=>bH (λh1=>aD ?_) λh1=>bH (λh2=>aD ?_) λh2=>aD ?_
 ·rw [decide_eq_true (by omega)]
 ·rw [decide_eq_true (by omega)]
 ·show (k == 53)=_;by_cases hk:k=53
  ·subst hk;rfl
  ·rw [show (k == 53)=false from beq_false_of_ne hk,decide_eq_false (by omega)]
theorem uI{k:Int}:Safe (R.fC k):=⟨by unfold R.fC;repeat' (first|with_reducible (first|refine aD ?_|refine aA λ_=>?_|refine dK ?_|refine dt (λ_=>?_) λ_=>?_|refine lW (λ_=>?_) λ_=>?_|refine bH (λ_=>?_) λ_=>?_|refine fS rfl ?_|refine fb rfl ?_|refine aG (λ_=>?_) λ_=>?_|refine mQ ?_|refine q_e ?_|refine q_p λ_ _=>?_|refine q_b λ_=>?_|exact safe|refine cz ?_)|exact trivial)⟩
theorem sub_ok{k:Int}:Safe (R.lp k):=⟨by unfold R.lp;have:=@uI;repeat' (first|with_reducible (first|refine aD ?_|refine aA λ_=>?_|refine dK ?_|refine dt (λ_=>?_) λ_=>?_|refine lW (λ_=>?_) λ_=>?_|refine bH (λ_=>?_) λ_=>?_|refine fS rfl ?_|refine fb rfl ?_|refine aG (λ_=>?_) λ_=>?_|refine mQ ?_|refine q_e ?_|refine q_p λ_ _=>?_|refine q_b λ_=>?_|exact safe|refine cz ?_)|exact trivial)⟩
theorem Ga{s k:Int}:(R.lK s k).sat λr=>r=true->oT s k=true:=by
 unfold R.lK oT;have i1:Safe (R.fC k):=uI;have i2:Safe (R.lp k):=sub_ok
 refine aA λ_=>bH (λh=>?_) λh1=>bH (λh=>?_) λh2=>bH (λh=>?_) λh3=>bH (λh=>?_) λh4=>bH (λh=>?_) λh5=>bH (λh=>?_) λh6=>bH (λh=>?_) λh7=>bH (λh=>?_) λh8=>bH (λh=>?_) λh9=>bH (λh=>?_) λh10=>bH (λh=>?_) λh11=>bH (λh=>?_) λh12=>bH (λh=>?_) λh13=>aD λe=>by cases e
 all_goals try (subst h)
 ·exact q_b λ_=>aD λ_=>rfl
 ·exact q_b λ_=>aD λ_=>rfl
 ·exact aO oQ (aD id)
 ·exact aO DL (aD id)
 ·exact aD id
 ·exact aD id
 ·exact aD id
 ·exact aD id
 ·exact bH (λh=>aD λ_=>by subst h;rfl) λh=>aO oQ (aD λe=>by simp [e])
 ·exact bH (λh=>aD λ_=>by subst h;rfl) λh=>bH (λh=>aD λ_=>by subst h;rfl) λh=>bH (λh=>aD λ_=>by subst h;rfl) λh=>aO oQ (aD λe=>by simp [e])
 ·exact bH (λh=>aD λ_=>by subst h;rfl) λh=>aD λe=>by simp [e]
 ·exact bH (λh=>aD λ_=>by subst h;rfl) λh=>aD λe=>by simp [e]
 ·exact bH (λh=>aD λ_=>by subst h;rfl) λh=>aO oQ (aD λe=>by simp [e])
theorem yA{n last:Int}(hn:n<=2^40)(h0:0<=n):(R.hJ n last).sat (·=ym n last):=by
 unfold R.hJ;have e:w6 (n-1)=n-1:=wrap64 (by omega);rw [e];refine aA λ_=>aO (a:=List.replicate (n-1).toNat 6) (fP (Q:=λl:List Int=>l=List.replicate (n-1).toNat 6) (λx=>x.2) (n-1).toNat (by omega) (λx=>x.1=List.replicate x.2.toNat 6) (by simp) (by simp) rfl λx h0 h1 hI=>?_) (ax (decide_eq_true (by simp;omega)) (aD rfl));obtain ⟨l,i⟩:=x;have hI:l=List.replicate i.toNat 6:=hI;have h0:0<=i:=h0;have h1:i<=((n-1).toNat:Int):=h1;subst hI;refine dt (λhl=>ax (decide_eq_true (by simp;omega)) (aD ⟨rfl,?_,?_⟩)) λhl=>aD ?_
 ·have hl:i < n-1:=hl;show i < ((n-1).toNat:Int);omega
 ·have hl:i < n-1:=hl;show List.replicate i.toNat 6++[6]=List.replicate (w6 (i+1)).toNat 6;rw [wrap64 (by omega),show (i+1).toNat=i.toNat+1 by omega,List.replicate_succ']
 ·have hl:n-1<=i:=hl;show List.replicate i.toNat 6=_;rw [show i.toNat=(n-1).toNat by omega]
theorem oI{β:Type}{Q:β->Prop}{k a b:Int}{x y:Res β}(h1:(k=a\/k=b)->x.sat Q)(h2:¬ (k=a\/k=b)->y.sat Q):((br (k == a) (Res.ok (k == a)) (Res.ok (k == b))).bind λv=>br v x y).sat Q:=by
 refine aB (R:=λv=>v=decide (k=a\/k=b)) (bH (λh=>aD ?_) λh=>aD ?_) λv hv=>?_
 ·subst h;simp
 ·by_cases hb:k=b
  ·subst hb;simp
  ·rw [show (k == b)=false from beq_false_of_ne hb,decide_eq_false (by omega)]
 ·subst hv;exact aG (λh=>h1 (of_decide_eq_true h)) λh=>h2 (of_decide_eq_false h)
theorem br_or3{β:Type}{Q:β->Prop}{k a b c:Int}{x y:Res β}(h1:(k=a\/k=b\/k=c)->x.sat Q)(h2:¬ (k=a\/k=b\/k=c)->y.sat Q):((br (k == a) (Res.ok (k == a)) (br (k == b) (Res.ok (k == b)) (Res.ok (k == c)))).bind λv=>br v x y).sat Q:=by
 refine aB (R:=λv=>v=decide (k=a\/k=b\/k=c)) (bH (λh=>aD ?_) λh=>bH (λh=>aD ?_) λh=>aD ?_) λv hv=>?_
 ·subst h;simp
 ·subst h;simp
 ·by_cases hb:k=c
  ·subst hb;simp
  ·rw [show (k == c)=false from beq_false_of_ne hb,decide_eq_false (by omega)]
 ·subst hv;exact aG (λh=>h1 (of_decide_eq_true h)) λh=>h2 (of_decide_eq_false h)
theorem br_or5{β:Type}{Q:β->Prop}{k a b c d e:Int}{x y:Res β}(h1:(k=a\/k=b\/k=c\/k=d\/k=e)->x.sat Q)(h2:¬ (k=a\/k=b\/k=c\/k=d\/k=e)->y.sat Q):((br (k == a) (Res.ok (k == a)) (br (k == b) (Res.ok (k == b)) (br (k == c) (Res.ok (k == c)) (br (k == d) (Res.ok (k == d)) (Res.ok (k == e)))))).bind λv=>br v x y).sat Q:=by
 refine aB (R:=λv=>v=decide (k=a\/k=b\/k=c\/k=d\/k=e)) (bH (λh=>aD ?_) λh=>bH (λh=>aD ?_) λh=>bH (λh=>aD ?_) λh=>bH (λh=>aD ?_) λh=>aD ?_) λv hv=>?_
 ·subst h;simp
 ·subst h;simp
 ·subst h;simp
 ·subst h;simp
 ·by_cases hb:k=e
  ·subst hb;simp
  ·rw [show (k == e)=false from beq_false_of_ne hb,decide_eq_false (by omega)]
 ·subst hv;exact aG (λh=>h1 (of_decide_eq_true h)) λh=>h2 (of_decide_eq_false h)
theorem FB{k n:Int}(hn:n<=2^40)(h0:0<=n):(R.jw k n).sat (·=shp k n):=by
 unfold R.jw shp;refine aA λ_=>oI (λh=>aD (by rw [if_pos h])) λh=>?_;rw [if_neg h];refine br_or5 (λh=>aD (by rw [if_pos h])) λh=>?_;rw [if_neg h];refine oI (λh=>aD (by rw [if_pos h])) λh=>?_;rw [if_neg h];refine oI (λh=>fN (ga (by rw [gN];omega) (ga (by rw [gN];simp;omega) (aD ?_)))) λh=>?_
 ·rw [if_pos h,gN];rfl
 rw [if_neg h];refine bH (λh=>fN (ga (by rw [gN,j9];omega) (ga (by rw [gN,j9];simp;omega) (aD ?_)))) λh=>?_
 ·rw [if_pos h,gN,j9];rfl
 rw [if_neg h]
 iterate 5 (refine bH (λh=>aD (by rw [if_pos h])) λh=>?_;rw [if_neg h])
 refine oI (λh=>aO (yA hn h0) (aA λ_=>aD (by rw [if_pos h]))) λh=>?_;rw [if_neg h];refine bH (λh=>aO (yA hn h0) (aA λ_=>aD (by rw [if_pos h]))) λh=>?_;rw [if_neg h]
 iterate 2 (refine bH (λh=>aD (by rw [if_pos h])) λh=>?_;rw [if_neg h])
 refine oI (λh=>aD (by rw [if_pos h])) λh=>?_;rw [if_neg h];refine br_or3 (λh=>aD (by rw [if_pos h])) λh=>?_;rw [if_neg h]
 iterate 2 (refine bH (λh=>aD (by rw [if_pos h])) λh=>?_;rw [if_neg h])
 refine oI (λh=>aD (by rw [if_pos h])) λh=>?_;rw [if_neg h];exact aD rfl
end Go.Mach

set_option maxRecDepth 100000
namespace Go.Mach
open Res
abbrev kl(x:eH):Nat:=x.2.2.2.2.2.length+x.2.1.length
theorem zE:∀ {l:List Nat}{i a:Nat},l[i]?=some a->a<=l.sum
 |[],_,_,h=>by simp at h
 |x::l,0,a,h=>by
  have:x=a:=by simpa using h
  subst this;simp
 |x::l,i+1,a,h=>by
  have h:l[i]?=some a:=by simpa using h
  have:=zE h;simp only [List.sum_cons];omega
theorem Cp:∀ {l:List Nat}{i j a b:Nat},l[i]?=some a->l[j]?=some b->i < j->a+b<=l.sum
 |[],_,_,_,_,h,_,_=>by simp at h
 |x::l,0,j,a,b,h,g,hij=>by
  have:x=a:=by simpa using h
  subst this;obtain ⟨j',rfl⟩:∃ j',j=j'+1:=⟨j-1,by omega⟩
  have g:l[j']?=some b:=by simpa using g
  have:=zE g;simp only [List.sum_cons];omega
 |x::l,i+1,j,a,b,h,g,hij=>by
  obtain ⟨j',rfl⟩:∃ j',j=j'+1:=⟨j-1,by omega⟩
  have h:l[i]?=some a:=by simpa using h
  have g:l[j']?=some b:=by simpa using g
  have:=Cp h g (by omega);simp only [List.sum_cons];omega
theorem Ds{t:List eH}(ht:t.length<=20000):(R.gV t 20000).sat λr=>r<=20000->(t.map kl).sum<=20000:=by
 unfold R.gV;refine aA λ_=>aB (fP (Q:=λr:Int=>r<=20000->(t.map kl).sum<=20000) (λx=>x.2) t.length (by omega) (λx=>0<=x.1/\(x.1<=20000->(((t.take x.2.toNat).map kl).sum:Int)<=x.1)) (by simp) (by simp) (by simp) λx h0 h1 hI=>?_) λr hr=>aD hr;obtain ⟨n,i⟩:=x;obtain ⟨n0,hs⟩:=hI;have h0:0<=i:=h0;have h1:i<=(t.length:Int):=h1;have n0:0<=n:=n0;have hs:n<=20000->(((t.take i.toNat).map kl).sum:Int)<=n:=hs;refine aB (R:=λb=>(b=true->i < (t.length:Int)/\n<=20000)/\(b=false->i=(t.length:Int)\/20000 < n)) (dt (λhl=>aD ⟨λe=>⟨hl,of_decide_eq_true e⟩,λe=>.inr (Int.not_le.1 (of_decide_eq_false e))⟩) λhl=>aD ⟨(λe=>by cases e),λ_=>.inl (Int.le_antisymm h1 hl)⟩) λb ⟨b1,b2⟩=>?_
 cases b with
 |true =>
  obtain ⟨hl,hn⟩:=b1 rfl;refine fS rfl (bM h0 (by omega) λx hx _=>aD ⟨rfl,hl,?_⟩);have hx:t[i.toNat]?=some x:=hx
  have e1:w6 (20000+1)=20001:=by decide
  have e2:(w6 (i+1)).toNat=i.toNat+1:=by rw [wrap64 (by omega)];omega
  have e3:((t.take (i.toNat+1)).map kl).sum=((t.take i.toNat).map kl).sum+kl x:=by
   rw [List.take_add_one,hx];simp
  have:=hs hn;show 0<=w6 _/\(w6 _<=20000->(((t.take (w6 (i+1)).toNat).map kl).sum:Int)<=w6 _);rw [e1,e2,e3]
  have c1:0<=lQ (x.2.2.1.length:Int) 20001/\lQ (x.2.2.1.length:Int) 20001<=20001:=by rw [gN];omega
  have c2:0<=lQ (x.2.2.2.2.1.2.length:Int) 20001/\lQ (x.2.2.2.2.1.2.length:Int) 20001<=20001:=by rw [gN];omega
  have c3:0<=lQ (x.2.2.2.2.2.length:Int) 20001/\lQ (x.2.2.2.2.2.length:Int) 20001<=20001:=by rw [gN];omega
  have c4:0<=lQ (x.2.1.length:Int) 20001/\lQ (x.2.1.length:Int) 20001<=20001:=by rw [gN];omega
  have c5:lQ (x.2.2.2.2.2.length:Int) 20001<=20000->lQ (x.2.2.2.2.2.length:Int) 20001=(x.2.2.2.2.2.length:Int):=by rw [gN];omega
  have c6:lQ (x.2.1.length:Int) 20001<=20000->lQ (x.2.1.length:Int) 20001=(x.2.1.length:Int):=by rw [gN];omega
  have ek:((kl x:Nat):Int)=(x.2.2.2.2.2.length:Int)+(x.2.1.length:Int):=Int.natCast_add _ _;generalize kl x=kx at *;generalize lQ (x.2.2.1.length:Int) 20001=m1 at *;generalize lQ (x.2.2.2.2.1.2.length:Int) 20001=m2 at *;generalize lQ (x.2.2.2.2.2.length:Int) 20001=m3 at *;generalize lQ (x.2.1.length:Int) 20001=m4 at *;rw [wrap64 (n:=n+1) (by omega),wrap64 (n:=n+1+m1) (by omega),wrap64 (n:=n+1+m1+m2) (by omega),wrap64 (n:=n+1+m1+m2+m3) (by omega),wrap64 (n:=n+1+m1+m2+m3+m4) (by omega)];refine ⟨by omega,λhle=>?_⟩;have:=c5 (by omega);have:=c6 (by omega);omega
 |false =>
  refine fb rfl (aD λhle=>?_);have hle:n<=20000:=hle;rcases b2 rfl with e|e
  ·have:=hs hle;rw [e] at this;rw [show ((t.length:Int)).toNat=t.length by omega,List.take_length] at this;omega
  ·omega
structure rK (t:List eH):Prop where
 one:∀ (i:Nat) (x:eH),t[i]?=some x->x.2.2.2.2.2.length<=20000
 two:∀ (i j:Nat) (x y:eH),t[i]?=some x->t[j]?=some y->i < j->x.2.2.2.2.2.length+y.2.2.2.2.2.length<=20000
 nm:∀ (i:Nat) (x:eH),t[i]?=some x->x.2.1.length<=20000
theorem few_ok{t:List eH}:(R.jS t).sat λr=>r=true->t.length<=20000/\rK t:=by
 unfold R.jS
 refine aA λ_=>lW (λh=>?_) λ_=>aD λe=>by cases e
 have h:(t.length:Int)<=20000:=h;refine aB (Ds (by omega)) λr hr=>aA λ_=>aD λe=>?_;have hs:=hr (of_decide_eq_true e)
 have ho:∀ (i:Nat) (x:eH),t[i]?=some x->x.2.2.2.2.2.length+x.2.1.length<=20000:=λi x hx=>by
  have:(t.map kl)[i]?=some (kl x):=by rw [List.getElem?_map,hx];rfl
  exact Nat.le_trans (zE this) hs
 refine ⟨by omega,λi x hx=>?_,λi j x y hx hy hij=>?_,λi x hx=>?_⟩
 ·have:=ho i x hx;omega
 ·have h1:(t.map kl)[i]?=some (kl x):=by rw [List.getElem?_map,hx];rfl
  have h2:(t.map kl)[j]?=some (kl y):=by rw [List.getElem?_map,hy];rfl
  have:(x.2.2.2.2.2.length+x.2.1.length)+(y.2.2.2.2.2.length+y.2.1.length)<=20000:=Nat.le_trans (Cp h1 h2 hij) hs;omega
 ·have:=ho i x hx;omega
def rL(t:List eH)(m:Nat):Prop:=∀ (n:Nat) (x:eH),n < m->t[n]?=some x->∀ (i:Nat) (k:Int),x.2.2.2.2.2[i]?=some k->(n:Int) < k/\k < (t.length:Int)
theorem EW{t:List eH}(ht:t.length<=4096)(hf:rK t):(R.jm t).sat λr=>r=true->rL t t.length:=by
 unfold R.jm
 refine aA λ_=>aB (fP (Q:=λr:List Int ⊕ Bool=>match r with|.inl _=>rL t t.length|.inr b=>b=false) (λx=>x.2) t.length (by omega) (λx=>x.1.length<=20000*x.2.toNat/\rL t x.2.toNat) (by simp) (by simp) ⟨by simp,λn x h=>by simp at h⟩ λx h0 h1 hI=>?_) λr hr=>?_
 ·obtain ⟨l,i⟩:=x;obtain ⟨hl,ho⟩:=hI;have h0:0<=i:=h0;have h1:i<=(t.length:Int):=h1;have hl:l.length<=20000*i.toNat:=hl;have ho:rL t i.toNat:=ho;refine dt (λhi=>?_) λhi=>aD ?_
  ·have hi:i < (t.length:Int):=hi;refine bM h0 (by omega) λx hx _=>?_;have hx:t[i.toNat]?=some x:=hx;have hk:=hf.one _ x hx
   refine aB (R:=λr:List Int ⊕ Bool=>match r with|.inl l'=>l'.length<=l.length|.inr b=>b=false) (dt (λ_=>?_) λ_=>aD (Nat.le_refl _)) λr hr=>?_
   ·refine aB (R:=λb=>b=false->0 < l.length) (bH (λ_=>aD λe=>by cases e) λhne=>?_) λb hb=>?_
    ·have hne:(l.length:Int)≠0:=hne;have e:w6 ((l.length:Int)-1)=(l.length:Int)-1:=wrap64 (by omega);show (aa (ile 0 (w6 ((l.length:Int)-1)) && _) _).sat _;rw [e];exact fN (ga (by omega) (oK (by show (l.length:Int)-1 < (l.length:Int);omega) (bP (by omega) (by show _ < l.length;omega) λ_ _ _=>aD λ_=>by omega)))
    ·cases b with
     |true=>exact fS rfl (aD rfl)
     |false =>
      have hp:=hb rfl;have e:w6 ((l.length:Int)-1)=(l.length:Int)-1:=wrap64 (by omega);refine fb rfl ?_;show (aa (ile 0 (w6 ((l.length:Int)-1)) && _) _).sat _;rw [e];refine fN (ga (by omega) (ga (by show (l.length:Int)-1<=(l.length:Int);omega) (aD ?_)));show (List.take _ (List.drop 0 l)).length<=l.length;simp
   ·cases r with
    |inr b=>exact jD (aD hr)
    |inl l' =>
     have hr:l'.length<=l.length:=hr;refine i6 ?_;have e:w6 ((x.2.2.2.2.2.length:Int)-1)=(x.2.2.2.2.2.length:Int)-1:=wrap64 (by omega);show ((loop _ fuel (l',w6 ((x.2.2.2.2.2.length:Int)-1))).bind _).sat _;rw [e]
     refine aB (kI (Q:=λr:List Int ⊕ Bool=>match r with|.inl l''=>l''.length<=l.length+20000/\rL t (i.toNat+1)|.inr b=>b=false) (λy=>(y.2+1).toNat) (by show ((x.2.2.2.2.2.length:Int)-1+1).toNat<=_;omega) (λy=>-1<=y.2/\y.2 < (x.2.2.2.2.2.length:Int)/\(y.1.length:Int)+y.2+1<=(l'.length:Int)+(x.2.2.2.2.2.length:Int)/\∀ (j:Nat) (k:Int),y.2 < (j:Int)->x.2.2.2.2.2[j]?=some k->i < k/\k < (t.length:Int)) ⟨by show -1<=(x.2.2.2.2.2.length:Int)-1;omega,by show (x.2.2.2.2.2.length:Int)-1 < _;omega,by show (l'.length:Int)+((x.2.2.2.2.2.length:Int)-1)+1<=_;omega,λj k hj hk=>?_⟩ λy hy=>?_) λr hr=>?_
     ·have hj:(x.2.2.2.2.2.length:Int)-1 < (j:Int):=hj;have:=(List.getElem?_eq_some_iff.1 hk).1;exact absurd this (by show ¬ (j < x.2.2.2.2.2.length);omega)
     ·obtain ⟨m,j⟩:=y;obtain ⟨y1,y2,y3,y4⟩:=hy;have y1:-1<=j:=y1;have y2:j < (x.2.2.2.2.2.length:Int):=y2;have y3:(m.length:Int)+j+1<=(l'.length:Int)+(x.2.2.2.2.2.length:Int):=y3;have y4:∀ (j':Nat) (k:Int),j < (j':Int)->x.2.2.2.2.2[j']?=some k->i < k/\k < (t.length:Int):=y4;refine lW (λhj=>?_) λhj=>aD ?_
      ·have hj:0<=j:=hj;refine aB (R:=λb=>b=false->∀ k,x.2.2.2.2.2[j.toNat]?=some k->i < k/\k < (t.length:Int)) (bP hj (by show _ < x.2.2.2.2.2.length;omega) λk hk _=>lW (λ_=>aD λe=>by cases e) λhik=>bP hj (by show _ < x.2.2.2.2.2.length;omega) λk' hk' _=>aD λe k'' hk''=>?_) λb hb=>?_
       ·have e1:some k=some k'':=hk.symm.trans hk'';have e2:some k'=some k'':=hk'.symm.trans hk'';cases e1;cases e2;exact ⟨hik,Int.not_le.1 (of_decide_eq_false e)⟩
       ·cases b with
        |true=>exact fS rfl (aD rfl)
        |false =>
         refine fb rfl (bP hj (by show _ < x.2.2.2.2.2.length;omega) λk hk _=>ax (decide_eq_true ?_) (aD ⟨?_,?_⟩))
         ·show (m.length+1)*8<=2^47;omega
         ·show (w6 (j-1)+1).toNat < (j+1).toNat;rw [wrap64 (n:=j-1) (by omega)];omega
         ·show -1<=w6 (j-1)/\w6 (j-1) < _/\((m++[k]).length:Int)+w6 (j-1)+1<=_/\∀ (j':Nat) (k:Int),w6 (j-1) < (j':Int)->_;rw [wrap64 (n:=j-1) (by omega)];refine ⟨by omega,by omega,by simp;omega,λj' k' hj' hk'=>?_⟩;by_cases hjj:j < (j':Int)
          ·exact y4 j' k' hjj hk'
          ·have:j'=j.toNat:=by omega
           subst this;exact hb rfl k' hk'
      ·have hj:j < 0:=hj;refine ⟨by show m.length<=_;omega,λn x' hn hx' i' k hk=>?_⟩;by_cases hni:n < i.toNat
       ·exact ho n x' hni hx' i' k hk
       ·have:n=i.toNat:=by omega
        subst this;have:some x=some x':=hx.symm.trans hx';cases this;have:=y4 i' k (by omega) hk;omega
     ·cases r with
      |inr b=>exact jD (aD hr)
      |inl l'' =>
       obtain ⟨r1,r2⟩:=hr;have r1:l''.length<=l.length+20000:=r1;refine i6 (aD ⟨rfl,hi,?_⟩);show l''.length<=20000*(w6 (i+1)).toNat/\rL t (w6 (i+1)).toNat;rw [wrap64 (n:=i+1) (by omega),show (i+1).toNat=i.toNat+1 by omega];exact ⟨by omega,r2⟩
  ·have hi:(t.length:Int)<=i:=hi
   have:i.toNat=t.length:=by omega
   rw [this] at ho;exact ho
 ·cases r with
  |inl _=>exact i6 (aD λ_=>hr)
  |inr b=>exact jD (aD λe=>by rw [hr] at e;cases e)
end Go.Mach

set_option maxRecDepth 100000
namespace Go.Mach
open Res
instance GI{x}:Safe (R.iZ x):=by unfold R.iZ;exact dw0
instance HX{x}:Safe (R.j5 x):=by unfold R.j5;exact dw0
instance Hq{x}:Safe (R.lA x):=by unfold R.lA;exact dw0
instance IP{a}:Safe (R.kL a):=by
 unfold R.kL;refine ⟨aA λh=>?_⟩;simp only [Sg.i,oks,Sh.ok,Ty.ok,List.map,Par.v,Bool.and_eq_true] at h;have:=oE h
 have hn:(lf a).length=a.length:=by simp [lf]
 refine aB (mD (λi=>i) a.length (by omega) (by omega) (by omega) λi h0 h1=>?_).ok λx _=>?_
 ·repeat' (first|with_reducible (first|refine aD ?_|refine aA λ_=>?_|refine dK ?_|refine dt (λ_=>?_) λ_=>?_|refine lW (λ_=>?_) λ_=>?_|refine bH (λ_=>?_) λ_=>?_|refine fS rfl ?_|refine fb rfl ?_|refine aG (λ_=>?_) λ_=>?_|refine mQ ?_|refine zW ?_|refine uF ?_|refine q_e ?_|refine q_p λ_ _=>?_|refine q_b λ_=>?_|refine bM ?_ ?_ λ_ _ _=>?_|refine bP ?_ ?_ λ_ _ _=>?_|refine fN ?_|refine ga ?_ ?_|refine oK ?_ ?_|refine sx ?_ ?_|refine n_d ?_ ?_|refine ta (λ_=>?_) λ_=>?_|exact safe|refine cz ?_)|exact trivial|dsimp only [Nx,Dn]|with_reducible (first|rfl|refine And.intro ?_ ?_|intro _|contradiction)|omega|refine ax (by decide) ?_|(simp (disch:=omega) only [wrap64,gN,j9,List.length_append,List.length_cons,List.length_nil,List.length_take,List.length_drop,List.length_set,List.length_replicate,List.length_reverse]<;>omega))
 ·repeat' (first|with_reducible (first|refine aD ?_|refine aA λ_=>?_|refine dK ?_|refine dt (λ_=>?_) λ_=>?_|refine lW (λ_=>?_) λ_=>?_|refine bH (λ_=>?_) λ_=>?_|refine fS rfl ?_|refine fb rfl ?_|refine aG (λ_=>?_) λ_=>?_|refine mQ ?_|refine zW ?_|refine uF ?_|refine q_e ?_|refine q_p λ_ _=>?_|refine q_b λ_=>?_|refine bM ?_ ?_ λ_ _ _=>?_|refine bP ?_ ?_ λ_ _ _=>?_|refine fN ?_|refine ga ?_ ?_|refine oK ?_ ?_|refine sx ?_ ?_|refine n_d ?_ ?_|refine ta (λ_=>?_) λ_=>?_|exact safe|refine cz ?_)|exact trivial|dsimp only [Nx,Dn]|with_reducible (first|rfl|refine And.intro ?_ ?_|intro _|contradiction)|omega|refine ax (by decide) ?_|(simp (disch:=omega) only [wrap64,gN,j9,List.length_append,List.length_cons,List.length_nil,List.length_take,List.length_drop,List.length_set,List.length_replicate,List.length_reverse]<;>omega))
instance Hy{a}:Safe (R.ib a):=by unfold R.ib;exact dw0
instance GK{x}:Safe (R.kP x):=by unfold R.kP;exact dw0
instance GN{x}:Safe (R.eE x):=by unfold R.eE;exact dw0
theorem F3{x:eH}:(R.eE x).sat λr=>r=true->x.1=49->x.2.1≠[]:=by
 by_cases h:x.1=49/\x.2.1=[]
 ·obtain ⟨k,nm,y⟩:=x;obtain ⟨h1,h2⟩:=h;cases h1;cases h2
  have e:(R.eE (49,([],y))).strip=some false:=by kernel_rfl
  exact bG (pD e rfl) λr hr e=>by rw [<- hr] at e;cases e
 ·exact bG safe λr _ _ h1 h2=>h ⟨h1,h2⟩
theorem C3{x:eH}:(R.gY x).sat λr=>r=true->x.1=49->x.2.1≠[]:=by
 unfold R.gY;refine aA λ_=>aB (dw0:Safe _).ok λb _=>aG (λ_=>aD λe=>by cases e) λ_=>oI (λh=>?_) λh=>bH (λh=>?_) λh=>bH (λh=>?_) λh=>aB F3 λr hr=>aD hr
 all_goals exact bG (dw0:Safe _).ok λr _ _ e=>by rw [e] at h;exact absurd h (by decide)
theorem BS{t:List eH}(ho:rL t t.length){n:Int}(h0:0<=n)(h1:n < (t.length:Int))(ht:t.length<=4096)(hf:rK t):(R.iU t n).sat λ_=>True:=by
 unfold R.iU;refine aA λ_=>aB (kI (Q:=λ_=>True) (λm=>(t.length:Int).toNat-m.toNat) (by omega) (λm=>0<=m/\m < (t.length:Int)) ⟨h0,h1⟩ λm ⟨m0,m1⟩=>?_) λr _=>aD trivial;have m0:0<=m:=m0;refine bM m0 (by omega) λx hx _=>aB (dw0:Safe _).ok λb _=>?_;have hx:t[m.toNat]?=some x:=hx;have hk:=hf.one _ x hx
 cases b with
 |inr b=>exact jD (aD trivial)
 |inl _ =>
  refine i6 (bH (λ_=>aD trivial) λhne=>?_);have hne:(x.2.2.2.2.2.length:Int)≠0:=hne;have e:w6 ((x.2.2.2.2.2.length:Int)-1)=(x.2.2.2.2.2.length:Int)-1:=wrap64 (by omega);show (idx _ _ (w6 ((x.2.2.2.2.2.length:Int)-1)) _).sat _;rw [e];refine bP (by omega) (by show _ < x.2.2.2.2.2.length;omega) λk hk _=>aD ?_;have:=ho _ x (by omega) hx _ k hk;exact ⟨by show (t.length:Int).toNat-k.toNat < (t.length:Int).toNat-m.toNat;omega,by omega,this.2⟩
theorem Gp{t:List eH}(ho:rL t t.length)(ht:t.length<=4096)(hf:rK t){n:Int}(h0:0<=n)(h1:n < (t.length:Int)):(R.jQ t n).sat λr=>r=true->∀ x,t[n.toNat]?=some x->(shp x.1 x.2.2.2.2.2.length).1.length<=x.2.2.2.2.2.length/\∀ (i:Nat) (k:Int),x.2.2.2.2.2[i]?=some k->∃ y,t[k.toNat]?=some y/\oT (srt (shp x.1 x.2.2.2.2.2.length) i) y.1=true:=by
 unfold R.jQ;refine aA λ_=>bM h0 (by omega) λx hx _=>?_;have hx:t[n.toNat]?=some x:=hx;have hk:=hf.one _ x hx;have hord:=ho _ x (by omega) hx;refine aO (FB (by show (x.2.2.2.2.2.length:Int)<=_;omega) (by show (0:Int)<=(x.2.2.2.2.2.length:Int);omega)) (aA λ_=>aB (R:=λb=>b=false->(shp x.1 x.2.2.2.2.2.length).1.length<=x.2.2.2.2.2.length) (aB (dw0:Safe _).ok λb _=>aG (λ_=>aD λe=>by cases e) λ_=>aD λe=>?_) λb hb=>?_)
 ·have:=Int.not_lt.1 (of_decide_eq_false e);exact Int.ofNat_le.1 this
 cases b with
 |true=>exact fS rfl (aD λe=>by cases e)
 |false =>
  have hl:=hb rfl
  refine fb rfl (aB (fP (Q:=λr:Unit ⊕ Bool=>match r with|.inl _=>∀ (i:Nat) (k:Int),x.2.2.2.2.2[i]?=some k->∃ y,t[k.toNat]?=some y/\oT (srt (shp x.1 x.2.2.2.2.2.length) i) y.1=true|.inr b=>b=false) (λj=>j) x.2.2.2.2.2.length (by omega) (λj=>∀ (i:Nat) (k:Int),(i:Int) < j->x.2.2.2.2.2[i]?=some k->∃ y,t[k.toNat]?=some y/\oT (srt (shp x.1 x.2.2.2.2.2.length) i) y.1=true) (by omega) (by omega) (λi k hi=>by omega) λj j0 j1 hI=>?_) λr hr=>?_)
  ·refine dt (λhj=>?_) λhj=>aD λi k hk=>hI i k (by have:=(List.getElem?_eq_some_iff.1 hk).1;have hj:(x.2.2.2.2.2.length:Int)<=j:=hj;have h3:i < x.2.2.2.2.2.length:=this;omega) hk;have hj:j < (x.2.2.2.2.2.length:Int):=hj;refine bP j0 (by show _ < x.2.2.2.2.2.length;omega) λk hk _=>aO (a:=srt (shp x.1 x.2.2.2.2.2.length) j.toNat) (dt (λhs=>fN (ga j0 (oK hs (bP (by omega) (by omega) λv hv _=>aD ?_)))) λhs=>aD ?_) ?_
   ·show v=_;have hv:(shp x.1 x.2.2.2.2.2.length).1[((0:Int)+(j.toNat:Int)).toNat]?=some v:=hv;rw [show ((0:Int)+(j.toNat:Int)).toNat=j.toNat by omega] at hv;unfold srt;rw [List.getD_eq_getElem?_getD,hv];rfl
   ·show (shp x.1 x.2.2.2.2.2.length).2=_;unfold srt;rw [List.getD_eq_getElem?_getD,List.getElem?_eq_none (by omega)];rfl
   ·have:=hord _ k hk;refine bM (by omega) (by omega) λy hy _=>aB Ga λr hr=>dK (aG (λe=>aD ⟨rfl,hj,λi k' hi hk'=>?_⟩) λ_=>aD rfl);by_cases hij:(i:Int) < j
    ·exact hI i k' hij hk'
    ·have hi:(i:Int) < w6 (j+1):=hi;rw [wrap64 (by omega)] at hi
     have:i=j.toNat:=by omega
     subst this;have:some k=some k':=hk.symm.trans hk';cases this;exact ⟨y,hy,hr e⟩
  ·cases r with
   |inr b=>exact jD (aD λe=>by rw [hr] at e;cases e)
   |inl _ =>
    have hr:∀ (i:Nat) (k:Int),x.2.2.2.2.2[i]?=some k->∃ y,t[k.toNat]?=some y/\oT (srt (shp x.1 x.2.2.2.2.2.length) i) y.1=true:=hr
    have hfin:∀ r:Bool,r=true->∀ x',t[n.toNat]?=some x'->(shp x'.1 x'.2.2.2.2.2.length).1.length<=x'.2.2.2.2.2.length/\∀ (i:Nat) (k:Int),x'.2.2.2.2.2[i]?=some k->∃ y,t[k.toNat]?=some y/\oT (srt (shp x'.1 x'.2.2.2.2.2.length) i) y.1=true:=λ_ _ x' hx'=>by
     have:some x=some x':=hx.symm.trans hx';cases this;exact ⟨hl,hr⟩
    have hget:∀ i:Nat,i < x.2.2.2.2.2.length->∀ k:Int,x.2.2.2.2.2[i]?=some k->0<=k/\k.toNat < t.length:=λi _ k hk=>by have:=hord i k hk;omega
    refine i6 (bH (λh16=>?_) λ_=>aB (R:=λb=>b=true->x.2.2.2.2.2.length=3) (bH (λ_=>aD λe=>Int.ofNat_inj.1 (eq_of_beq e)) λ_=>aD λe=>by cases e) λb hb=>aG (λe=>?_) λ_=>aD (hfin _))
    ·have h16:x.1=16:=h16
     have h3:3<=x.2.2.2.2.2.length:=by rw [h16] at hl;simpa [shp] using hl
     refine bP (by decide) (by show 1 < x.2.2.2.2.2.length;omega) λk hk _=>?_;have g1:=hget 1 (by omega) k hk;refine bM g1.1 g1.2 λ_ _ _=>aG (λ_=>aD (hfin _)) λ_=>bP (by decide) (by show 2 < x.2.2.2.2.2.length;omega) λk' hk' _=>?_;have g2:=hget 2 (by omega) k' hk';exact bM g2.1 g2.2 λ_ _ _=>aD (hfin _)
    ·have h3:=hb e;refine bP (by decide) (by show 1 < x.2.2.2.2.2.length;omega) λk hk _=>?_;have g1:=hget 1 (by omega) k hk;exact aB (BS ho g1.1 (by omega) ht hf) λ_ _=>aD (hfin _)
theorem HK{t:List eH}(ho:rL t t.length)(ht:t.length<=4096)(hf:rK t):(R.ig t).sat λr=>r.length=t.length:=by
 unfold R.ig;refine aA λ_=>fN (ga (by omega) (fN (ga (Int.le_refl _) (n_d (by omega) ?_))));refine aB (fP (Q:=λr:List Int=>r.length=t.length) (λx=>x.1) t.length (by omega) (λx=>x.2.length=t.length) (by simp) (by simp) (by simp) λx h0 h1 hI=>?_) λr hr=>aD hr;obtain ⟨i,l⟩:=x;have h0:0<=i:=h0;have hI:l.length=t.length:=hI;refine dt (λhi=>?_) λ_=>aD hI;have hi:i < (t.length:Int):=hi;refine bM h0 (by omega) λx hx _=>?_;have hx:t[i.toNat]?=some x:=hx;have hk:=hf.one _ x hx;have hord:=ho _ x (by omega) hx
 have il:i < (l.length:Int):=by omega
 refine fN (ga h0 (oK il (bP (by omega) (by show _ < l.length;omega) λa _ _=>fN (ga h0 (oK il (bP (by omega) (by show _ < l.length;omega) λa' _ _=>?_))))));refine aB (fP (Q:=λr:List Int=>r.length=t.length) (λx=>x.1) x.2.2.2.2.2.length (by omega) (λx=>x.2.length=t.length) (by simp) (by simp) (by show (List.set l _ _).length=_;rw [List.length_set];exact hI) λy y0 y1 yI=>?_) λr hr=>aD ⟨rfl,hi,hr⟩;obtain ⟨j,m⟩:=y;have y0:0<=j:=y0;have yI:m.length=t.length:=yI;refine dt (λhj=>?_) λ_=>aD yI;have hj:j < (x.2.2.2.2.2.length:Int):=hj;refine bP y0 (by show _ < x.2.2.2.2.2.length;omega) λk hk _=>?_;have ka:LT.lt (α:=Int) ((i.toNat:Int)) (k):=(hord _ k hk).1;have kb:LT.lt (α:=Int) (k) ((t.length:Int)):=(hord _ k hk).2
 have k0:LE.le (α:=Int) (0) (k):=by omega
 have im:i < (m.length:Int):=by omega
 have km:LT.lt (α:=Int) (k) ((m.length:Int)):=by omega
 refine fN (ga h0 (oK im (bP (by omega) (by show _ < m.length;omega) λb _ _=>fN (ga k0 (oK km (bP (by omega) (by show ((0:Int)+(Int.toNat k:Int)).toNat < m.length;omega) λb' _ _=>aD ⟨rfl,hj,?_⟩))))));show (List.set m _ _).length=_;rw [List.length_set];exact yI
theorem max_ok{l:List Int}(h:0 < l.length)(hl:l.length<=2^40):(R.dX l).sat λ_=>True:=by
 unfold R.dX;refine aA λ_=>aB (R:=λ_=>True) (dt (λh1=>by have h1:(l.length:Int) < 1:=h1;omega) λ_=>aD trivial) λ_ _=>bM (by decide) (by show 0 < l.length;omega) λa _ _=>aB (fP (Q:=λ_=>True) (λx=>x.2) l.length (by omega) (λ_=>True) (by simp) (by show (1:Int)<=(l.length:Int);omega) trivial λx h0 h1 _=>dt (λhi=>bM h0 (by have hi:x.2 < (l.length:Int):=hi;show _ < l.length;omega) λ_ _ _=>aD ⟨rfl,hi,trivial⟩) λ_=>aD trivial) λ_ _=>aD trivial
structure ph (t:List eH):Prop where
 pos:0 < t.length
 len:t.length<=4096
 nod:∀ (n:Nat) (x:eH),t[n]?=some x->rF t x
 rt:∃ x,t[0]?=some x/\x.1=1
theorem may_ok{t:List eH}(hf:rK t):(R.kS t).sat λr=>r=true->ph t/\rL t t.length:=by
 unfold R.kS;refine aA λ_=>aB (R:=λb=>b=false->0 < t.length/\t.length<=4096/\rL t t.length/\∃ x,t[0]?=some x/\x.1=1) (bH (λ_=>aD λe=>by cases e) λh0=>dt (λ_=>aD λe=>by cases e) λh1=>?_) λb hb=>?_
 ·have h0:(t.length:Int)≠0:=h0;have h1:(t.length:Int)<=4096:=h1
  refine bM (by decide) (by show 0 < t.length;omega) λx hx _=>dK (bH (λh1=>aB (EW (by omega) hf) λr hr=>aD λe=>⟨by omega,by omega,hr (by cases r<;>simp_all),x,hx,h1⟩) λ_=>aD λe=>by cases e)
 cases b with
 |true=>exact fS rfl (aD λe=>by cases e)
 |false =>
  obtain ⟨h0,h1,ho,hrt⟩:=hb rfl
  refine fb rfl (aB (fP (Q:=λr:Unit ⊕ Bool=>match r with|.inl _=>∀ (n:Nat) (x:eH),t[n]?=some x->rF t x|.inr b=>b=false) (λi=>i) t.length (by omega) (λi=>∀ (n:Nat) (x:eH),(n:Int) < i->t[n]?=some x->rF t x) (by omega) (by omega) (λn x hn=>by omega) λi i0 i1 hI=>?_) λr hr=>?_)
  ·refine dt (λhi=>?_) λhi=>aD λn x hx=>hI n x (by have:=(List.getElem?_eq_some_iff.1 hx).1;have hi:(t.length:Int)<=i:=hi;omega) hx;have hi:i < (t.length:Int):=hi
   have hk:∀ x,t[i.toNat]?=some x->((R.gY x).bind λr=>br (!r) (Res.ok true) ((R.jQ t i).bind λr=>Res.ok (!r))).sat λb=>b=false->rF t x:=λx hx=>by
    refine aB C3 λr hr=>dK (aG (λe=>aB (Gp ho h1 hf i0 hi) λr' hr'=>aD λe'=>?_) λ_=>aD λe=>by cases e)
    obtain ⟨g1,g2⟩:=hr' (by cases r'<;>simp_all) x hx
    refine ⟨λj k hjk=>?_,g1,hr e⟩;obtain ⟨y,y1,y2⟩:=g2 j k hjk;have:=ho _ x (by omega) hx j k hjk;exact ⟨by omega,y,y1,y2,hf.two _ _ x y hx y1 (by omega)⟩
   refine aB (R:=λb=>b=false->∀ x,t[i.toNat]?=some x->rF t x) (dt (λ_=>bM i0 (by omega) λx hx _=>bH (λ_=>aD λe=>by cases e) λ_=>bM i0 (by omega) λx' hx' _=>bG (hk x' hx') λb hb e x'' hx''=>?_) λ_=>bM i0 (by omega) λx' hx' _=>bG (hk x' hx') λb hb e x'' hx''=>?_) λb hb=>?_
   ·have:some x'=some x'':=hx'.symm.trans hx'';cases this;exact hb e
   ·have:some x'=some x'':=hx'.symm.trans hx'';cases this;exact hb e
   ·cases b with
    |true=>exact fS rfl (aD rfl)
    |false =>
     refine fb rfl (aD ⟨rfl,hi,λn x hn hx=>?_⟩);by_cases hni:(n:Int) < i
     ·exact hI n x hni hx
     ·have hn:(n:Int) < w6 (i+1):=hn;rw [wrap64 (by omega)] at hn
      have:n=i.toNat:=by omega
      subst this;exact hb rfl x hx
  ·cases r with
   |inr b=>exact jD (aD λe=>by rw [hr] at e;cases e)
   |inl _=>exact i6 (aB (HK ho h1 hf) λd hd=>aA λ_=>aB (max_ok (by omega) (by omega)) λ_ _=>aA λ_=>aD λ_=>⟨⟨h0,h1,hr,hrt⟩,ho⟩)
end Go.Mach

set_option maxRecDepth 100000
namespace Go.Mach
open Res
structure jY (C:Cx):Prop where
 tr:ph C.N
 fw:rK C.N
 od:rL C.N C.N.length
 F:C.F<=3000
 D:C.D<=200
 A:C.A.length<=2^40
section
variable {C:Cx}{m b:Int}{s:RunT}
theorem jZ(h:gq C m s){n:Int}{x:eH}{β:Type}{Q:β->Prop}{k:eH->Res β}(h0:0<=n)(hx:C.N[n.toNat]?=some x)(hk:(k x).sat Q):(idx aE s.1 n k).sat Q:=by
 have e:s.1=C.N:=h.nd;rw [e];refine bP h0 (List.getElem?_eq_some_iff.1 hx).1 λy hy _=>?_;have:some x=some y:=hx.symm.trans hy;cases this;exact hk
theorem tn(h:gq C m s)(hm:m+1<=2^39){i:Int}{n:List Int}{v:dZ}(hv:bw v):(R.cH s.2.2.2.2.1 i n v).sat λr=>Aft C (m+1) s.2.2.2.2.2.2.1 s (s.1,(s.2.1,(s.2.2.1,(s.2.2.2.1,(r.2,s.2.2.2.2.2))))):=by
 obtain ⟨B,h1,h2,h3⟩:=h.heap (by omega);exact bG (put_ok h1 h2 hv) λr ⟨r1,r2⟩=>⟨h.put r1 (by omega),r2,rfl,Int.le_refl _⟩
theorem qJ(h:gq C m s)(hm:m+1<=2^39){i:Int}{n:List UInt8}{v:dZ}{r f:Bool}(hv:bw v):(R.bW s.2.2.2.2.1 i n v r f).sat λr=>Aft C (m+1) s.2.2.2.2.2.2.1 s (s.1,(s.2.1,(s.2.2.1,(s.2.2.2.1,(r.2,s.2.2.2.2.2))))):=by
 obtain ⟨B,h1,h2,h3⟩:=h.heap (by omega);exact bG (CE h1 h2 hv) λr ⟨r1,r2⟩=>⟨h.put r1 (by omega),r2,rfl,Int.le_refl _⟩
theorem xF(h:gq C m s)(hm:m<=2^39){i:Int}{n:List UInt8}{v:dZ}{r:Bool}(hv:bw v):(R.dM s.2.2.2.2.1 i n v r).sat λr=>Aft C m s.2.2.2.2.2.2.1 s (s.1,(s.2.1,(s.2.2.1,(s.2.2.2.1,(r.2,s.2.2.2.2.2))))):=by
 obtain ⟨B,h1,h2,h3⟩:=h.heap hm;exact bG (HN h1 h2 hv) λr ⟨r1,r2⟩=>⟨h.put r1 h3,r2,rfl,Int.le_refl _⟩
theorem vB(h:gq C m s)(hm:m+2<=2^39){n:Int}(hn:FnI C.N n){e:aK.den}(he:bw e.2.1):(R.dC s n e).sat (cp C (m+2) s.2.2.2.2.2.2.1 s):=by
 unfold R.dC;obtain ⟨n0,x,hx,hk⟩:=hn;refine aA λ_=>jZ h n0 hx (aB (dw0:Safe _).ok λown _=>?_)
 refine aB (R:=λr:(aI.den×iv.den) ⊕ (Int×(aI.den×aC.den))=>match r with|.inl r=>Aft C (m+1) s.2.2.2.2.2.2.1 s r.1/\∃ sc,r.2=(3,(0,(([]:List bR.den),(([]:List bK.den),(([]:List UInt8),(n,(sc,((0,((0,0),((false,([]:List Int)),(([]:List Int),0)))),(0,(0,(0,(0,([]:List Int)))))))))))))|.inr r=>bw r.2.2/\Pst C (m+2) s.2.2.2.2.2.2.1 s r.1 r.2.1) (aG (λ_=>aB (qU h (by omega)) λr1 ⟨g1,g2⟩=>aA λ_=>dK (bH (λe1=>?_) λ_=>aD ⟨ba,g1.mono (by omega) (Int.le_refl _)⟩)) λ_=>aD ⟨(Aft.refl h).mono (by omega) (Int.le_refl _),_,rfl⟩) λr hr=>?_
 ·have a1:=g1.aft (by rw [e1];decide);exact aB (qJ a1.run (by omega) ba) λr2 a2=>aA λ_=>aD ⟨a1.trans ⟨a2.run,a2.ext,a2.dp,Int.le_trans a1.bg a2.bg⟩,_,rfl⟩
 cases r with
 |inr r=>exact jD (aD ⟨hr.1,hr.2⟩)
 |inl r =>
  obtain ⟨s1,c⟩:=r;obtain ⟨a1,sc,hc⟩:=hr;have hc:c=_:=hc;subst hc;refine i6 (aB (R:=λc:iv.den=>c.1=3/\c.2.2.1=[]/\c.2.2.2.1=[]/\c.2.2.2.2.2.1=n/\bw c.2.2.2.2.2.2.2.1/\c.2.2.2.2.1.length<=4096) (aB (dw0:Safe _).ok λ_ _=>aG (λ_=>aD ⟨rfl,rfl,rfl,rfl,he,Nat.zero_le _⟩) λ_=>aG (λ_=>aD ⟨rfl,rfl,rfl,rfl,ba,Nat.zero_le _⟩) λ_=>aD ⟨rfl,rfl,rfl,rfl,ba,Nat.zero_le _⟩) λc ⟨c1,c2,c3,c4,c5,c6⟩=>?_);have k3:∀ k:Int,k≠3->c.1≠k:=λk hk e=>hk (e.symm.trans c1);refine aB (pK a1.run (by omega) ⟨λ_=>by rw [c4];exact ⟨n0,x,hx,hk⟩,λe=>absurd e (k3 5 (by decide)),λe=>absurd e (k3 6 (by decide)),λe=>absurd e (k3 7 (by decide)),λe=>absurd e (k3 8 (by decide))⟩ λB _=>⟨by rw [c2];exact Nat.zero_le _,by rw [c3];exact Nat.zero_le _,by rw [c2];simp,by rw [c3];simp,c5,c6⟩) λr2 ⟨⟨g1,g2⟩,g3⟩=>aA λ_=>aB (R:=λb=>b=false->r2.1.2=0) (dK (bH (λe=>aD λ_=>e) λ_=>aD λe=>by cases e)) λb hb=>?_;have p2:Pst C (m+1) s.2.2.2.2.2.2.1 s r2.1.2 r2.2:=Pst.after a1 (g2.mono (Int.le_refl _) a1.bg);refine aG (λ_=>aD ⟨g1,p2.mono (by omega) (Int.le_refl _)⟩) λe=>?_;have a2:=p2.aft (by rw [hb e];decide);refine aB (pK a2.run (by omega) (.mk' 1 rfl (by decide)) λB _=>⟨Nat.zero_le _,Nat.zero_le _,by simp,by simp,ba,Nat.zero_le _⟩) λr3 ⟨⟨f1,f2⟩,f3⟩=>aA λ_=>?_;have p3:Pst C (m+1) s.2.2.2.2.2.2.1 s r3.1.2 r3.2:=Pst.after a2 (f2.mono (Int.le_refl _) a2.bg);refine dK (bH (λe=>?_) λ_=>aD ⟨f1,p3.mono (by omega) (Int.le_refl _)⟩);have a3:=p3.aft (by rw [e];decide);refine aB (dL (by decide)) λu _=>aA λ_=>aB (tn a3.run (by omega) f1) λr4 a4=>aA λ_=>?_;have a5:Aft C (m+2) s.2.2.2.2.2.2.1 s _:=a3.trans ⟨(a4.mono (m':=m+2) (b':=s.2.2.2.2.2.2.1) (by omega) (Int.le_trans a3.bg (Int.le_refl _))).run,a4.ext,a4.dp,Int.le_trans a3.bg a4.bg⟩;refine aG (λ_=>aB (xF a5.run (by omega) g1) λr6 a6=>aA λ_=>aD ⟨g1,.inr ⟨show (0:Int)≠5 by decide,a5.trans ⟨a6.run,a6.ext,a6.dp,Int.le_trans a5.bg a6.bg⟩⟩⟩) λ_=>aD ⟨g1,.inr ⟨show (0:Int)≠5 by decide,a5⟩⟩
end
theorem FC:R.gj.sat λr=>r.length<=100:=by
 unfold R.gj;exact aA λ_=>aD (by decide)
theorem qx{α:Type}{r:Res α}{P:α->Bool}(h:(r.strip.map P)=some true):r.sat λx=>P x=true:=by
 cases hr:r.strip with
 |none=>rw [hr] at h;cases h
 |some x =>
  rw [hr] at h
  exact bG (pD hr rfl) λy hy=>by subst hy;simpa using h
theorem xh:R.cu.sat λr=>decide (r.length<=100)=true:=qx (by kernel_rfl)
instance G7{a}:Safe (R.ko a):=by unfold R.ko;exact dw0
theorem o8{n:List UInt8}:(R.dD n).sat λr=>r.1=6:=by
 unfold R.dD;exact aA λ_=>aB xh λr _=>aA λ_=>q_b λ_=>aA λ_=>aD rfl
theorem nw{a:aJ.den}:(R.cZ a).sat λr=>r.1=3:=by
 unfold R.cZ;exact aA λ_=>aD rfl
theorem qa{a:aq.den}:(R.eI a).sat λr=>r.1=4:=by
 unfold R.eI;exact aA λ_=>aD rfl
theorem lD{a:Bool}:(R.bQ a).sat λr=>r.1=2:=by
 unfold R.bQ;exact aA λ_=>aG (λ_=>aD rfl) λ_=>aD rfl
theorem vk{v:dZ}{k:Int}(e:v.1=k)(h:k≠5:=by decide):bw v:=.of (by rw [e];exact h)
theorem An{n:List UInt8}:(R.iY n).sat λr=>bw r.1:=by
 unfold R.iY;exact aA λ_=>aG (λ_=>aD ba) λ_=>aG (λ_=>aB nw λr hr=>aA λ_=>aD (vk hr)) λ_=>aG (λ_=>aB nw λr hr=>aA λ_=>aD (vk hr)) λ_=>aB FC λl _=>aA λ_=>q_b λ_=>aG (λ_=>aB o8 λr hr=>aA λ_=>aD (vk hr)) λ_=>aD ba
section
variable {C:Cx}{m b:Int}{s:RunT}
theorem Pst.ret(h:gq C m s):Pst C m s.2.2.2.2.2.2.1 s 0 s:=.inr ⟨by decide,.refl h⟩
theorem Aw(h:gq C m s)(hm:m<=2^39){n:List UInt8}{e:aK.den}{l:Bool}:(R.eJ s n e l).sat (cp C m s.2.2.2.2.2.2.1 s):=by
 unfold R.eJ;obtain ⟨B,h1,h2,h3⟩:=h.heap hm;exact aA λ_=>aB (C1 h1 h2) λr hr=>aA λ_=>aB (dw0:Safe _).ok λ_ _=>aG (λ_=>aB (nY h hm) λr hr=>aA λ_=>aD hr.1) λ_=>aG (λ_=>aD ⟨hr,.ret h⟩) λ_=>aB An λr hr=>aA λ_=>aG (λ_=>aD ⟨hr,.ret h⟩) λ_=>q_b λ_=>aG (λ_=>aB (fR h) λr hr=>aA λ_=>aD hr) λ_=>aG (λ_=>aD ⟨ba,.ret h⟩) λ_=>aB (nY h hm) λr hr=>aA λ_=>aD hr.1
theorem Ci(h:gq C m s)(hm:m<=2^39){n:List UInt8}{e:aK.den}:(R.fJ s n e).sat (cp C m s.2.2.2.2.2.2.1 s):=by
 unfold R.fJ;exact aA λ_=>aB (Aw h hm) λr hr=>aA λ_=>aD hr
theorem EE(h:gq C m s)(hm:m<=2^39){n:List UInt8}{v:dZ}(hv:bw v){e:aK.den}:(R.fg s n v e).sat (cp C m s.2.2.2.2.2.2.1 s):=by
 unfold R.fg;obtain ⟨B,h1,h2,h3⟩:=h.heap hm;exact aA λ_=>aB (C1 h1 h2) λr hr=>aA λ_=>aB (dw0:Safe _).ok λ_ _=>aG (λ_=>aB (nY h hm) λr hr=>aA λ_=>aD hr.1) λ_=>aB (dw0:Safe _).ok λ_ _=>aG (λ_=>aB (nY h hm) λr hr=>aA λ_=>aD hr.1) λ_=>aG (λ_=>aB (xF h hm hv) λr hr=>aA λ_=>aD ⟨hv,.inr ⟨show (0:Int)≠5 by decide,hr⟩⟩) λ_=>aB An λr hr=>aA λ_=>aB (dw0:Safe _).ok λ_ _=>aG (λ_=>aB (fR h) λr hr=>aA λ_=>aD hr) λ_=>aB (nY h hm) λr hr=>aA λ_=>aD hr.1
theorem HD(h:gq C m s)(hm:m<=2^39){e:aK.den}:(R.dv s e).sat λr=>r.1.1.2=e.2/\Pst C m s.2.2.2.2.2.2.1 s r.1.2 r.2/\(r.1.2≠5->r.1.2=0):=by
 unfold R.dv;obtain ⟨B,h1,h2,h3⟩:=h.heap hm;refine aA λ_=>aB (HC h1 h2) λr hr=>aA λ_=>aB (pK h hm (.mk' 9 rfl (by decide)) λB' hB'=>?_) λr2 ⟨g1,g2⟩=>aA λ_=>aD ⟨rfl,g1.2,λe=>(g2 e).1⟩;rcases hr with ⟨_,e⟩|⟨_,i0,hi⟩
 ·exact ⟨Nat.zero_le _,by show (List.length r.1.2.2.2.1)<=_;rw [e];exact Nat.zero_le _,by simp,by show ∀ p∈r.1.2.2.2.1,_;rw [e];simp,ba,Nat.zero_le _⟩
 ·have hv:=(hB'.cl _ _ hi).2;exact ⟨Nat.zero_le _,hv.sn,by simp,hv.sv,ba,Nat.zero_le _⟩
theorem G1{a:Int}:a*(20003-a)<=100100000:=by
 have h:0<=(a-10001)*(a-10001):=by
  rcases Int.le_total 0 (a-10001) with h|h
  ·exact Int.mul_nonneg h h
  ·exact Int.mul_nonneg_of_nonpos_of_nonpos h h
 have e1:(a-10001)*(a-10001)=a*a-10001*a-10001*a+100020001:=by rw [Int.sub_mul,Int.mul_sub,Int.mul_sub];omega
 have e2:a*(20003-a)=a*20003-a*a:=Int.mul_sub _ _ _
 have h3:a<=20000\/20000 < a:=by omega
 rcases h3 with h3|h3
 ·omega
 ·have:a*(20003-a)<=a*3:=Int.mul_le_mul_of_nonneg_left (by omega) (by omega);by_cases h4:a<=20003
  ·omega
  ·have:a*(20003-a)<=a*0:=Int.mul_le_mul_of_nonneg_left (by omega) (by omega);omega
theorem rS(hc:jY C)(h:gq C m s)(hm:m+100100000<=2^39){n:Int}{x:eH}(n0:0<=n)(hx:C.N[n.toNat]?=some x){e:aK.den}(he:bw e.2.1):(R.cr s n e).sat (cp C (m+100100000) s.2.2.2.2.2.2.1 s):=by
 unfold R.cr;have hk:=hc.fw.one _ x hx;have hg:=hc.tr.nod _ x hx;refine aA λ_=>jZ h n0 hx ?_;obtain ⟨a,ha⟩:∃ a:Int,a=(x.2.2.2.2.2.length:Int):=⟨_,rfl⟩;obtain ⟨c,hcc⟩:∃ c:Int,c=20003-a:=⟨_,rfl⟩;have hac:a*c<=100100000:=hcc▸G1;have hle:∀ i:Int,i<=a->i*c<=100100000:=λi hi=>Int.le_trans (Int.mul_le_mul_of_nonneg_right hi (by omega)) hac
 refine aB (fP (Q:=λr:aI.den ⊕ (Int×(aI.den×aC.den))=>match r with|.inl s'=>Aft C (m+100100000) s.2.2.2.2.2.2.1 s s'|.inr r=>bw r.2.2/\Pst C (m+100100000) s.2.2.2.2.2.2.1 s r.1 r.2.1) (λx=>x.1) x.2.2.2.2.2.length (by omega) (λy=>Aft C (m+y.1*c) s.2.2.2.2.2.2.1 s y.2) (by simp) (by simp) (by simpa using Aft.refl h) λy y0 y1 yI=>?_) λr hr=>?_
 ·obtain ⟨i,s1⟩:=y;have y0:0<=i:=y0;have y1:i<=(x.2.2.2.2.2.length:Int):=y1;have yI:Aft C (m+i*c) s.2.2.2.2.2.2.1 s s1:=yI;have hi0:=hle i (by omega);refine dt (λhi=>?_) λ_=>aD (yI.mono (by omega) (Int.le_refl _));have hi:i < (x.2.2.2.2.2.length:Int):=hi
  have e1:(i+1)*c=i*c+c:=by rw [Int.add_mul,Int.one_mul]
  have hi1:=hle (i+1) (by omega);rw [e1] at hi1;have ew:w6 (i+1)=i+1:=wrap64 (by omega)
  have nxt:∀ {s'},Aft C (m+i*c+c) s.2.2.2.2.2.2.1 s s'->Aft C (m+(w6 (i+1))*c) s.2.2.2.2.2.2.1 s s':=λh=>by rw [ew,e1,<- Int.add_assoc];exact h
  refine bP y0 (by show _ < x.2.2.2.2.2.length;omega) λk hk' _=>?_;obtain ⟨k0,z,hz,_,hxz⟩:=hg.kid _ k hk';refine jZ yI.run k0 hz (aB (dw0:Safe _).ok λ_ _=>aG (λ_=>?_) λ_=>bH (λh19=>?_) λ_=>aD ⟨rfl,hi,nxt (yI.mono (by omega) (Int.le_refl _))⟩)
  ·have hzk:=hc.fw.one _ z hz;have hzg:=hc.tr.nod _ z hz
   have hx':(x.2.2.2.2.2.length:Int)+(z.2.2.2.2.2.length:Int)<=20000:=by omega
   refine aB (fP (Q:=λH:fA.den=>Aft C (m+i*c+c) s.2.2.2.2.2.2.1 s (s1.1,(s1.2.1,(s1.2.2.1,(s1.2.2.2.1,(H,s1.2.2.2.2.2)))))) (λx=>x.1) z.2.2.2.2.2.length (by omega) (λw=>Aft C (m+i*c+w.1) s.2.2.2.2.2.2.1 s (s1.1,(s1.2.1,(s1.2.2.1,(s1.2.2.2.1,(w.2,s1.2.2.2.2.2)))))) (by simp) (by simp) (by simpa using yI) λw w0 w1 wI=>?_) λH hH=>aD ⟨rfl,hi,nxt hH⟩;obtain ⟨j,H⟩:=w;have w0:0<=j:=w0;have w1:j<=(z.2.2.2.2.2.length:Int):=w1;have wI:Aft C (m+i*c+j) s.2.2.2.2.2.2.1 s (s1.1,(s1.2.1,(s1.2.2.1,(s1.2.2.2.1,(H,s1.2.2.2.2.2))))):=wI;refine dt (λhj=>?_) λ_=>aD (wI.mono (by omega) (Int.le_refl _));have hj:j < (z.2.2.2.2.2.length:Int):=hj;refine bP w0 (by show _ < z.2.2.2.2.2.length;omega) λk' hk'' _=>?_;obtain ⟨k'0,z',hz',_⟩:=hzg.kid _ k' hk'';refine jZ yI.run k'0 hz' (aB (qJ wI.run (by omega) ba) λr hr=>aA λ_=>aD ⟨rfl,hj,?_⟩);show Aft C (m+i*c+w6 (j+1)) _ _ _;rw [wrap64 (n:=j+1) (by omega),<- Int.add_assoc];exact wI.trans ⟨hr.run,hr.ext,hr.dp,Int.le_trans wI.bg hr.bg⟩
  ·refine aB (vB yI.run (by omega) ⟨k0,z,hz,.inl h19⟩ he) λr hr=>aA λ_=>?_;have p:Pst C (m+i*c+2) s.2.2.2.2.2.2.1 s r.1.2 r.2:=Pst.after yI (hr.2.mono (Int.le_refl _) yI.bg);refine dK (bH (λe=>?_) λ_=>aD ⟨hr.1,p.mono (by omega) (Int.le_refl _)⟩);have a1:=p.aft (by rw [e];decide);refine aB (qJ a1.run (by omega) hr.1) λr2 a2=>aA λ_=>aD ⟨rfl,hi,nxt ?_⟩;exact (a1.trans ⟨a2.run,a2.ext,a2.dp,Int.le_trans a1.bg a2.bg⟩).mono (by omega) (Int.le_refl _)
 ·cases r with
  |inl s'=>exact i6 (aD ⟨ba,.inr ⟨show (0:Int)≠5 by decide,hr⟩⟩)
  |inr r=>exact jD (aD ⟨hr.1,hr.2⟩)
end
end Go.Mach

set_option maxRecDepth 100000
namespace Go.Mach
open Res
theorem mc{k z:Int}(h:ElI k z):(R.b9 k).sat (·=z):=by
 cases h<;>exact bG (qx (P:=λr=>decide (r=_)) (by kernel_rfl)) λr hr=>of_decide_eq_true hr
theorem ElI.pos{k z:Int}(h:ElI k z):1<=z/\z<=8/\(z=1\/z=2\/z=4\/z=8):=by cases h<;>omega
theorem qZ(x:Int){m:Nat}(hm:m < 2^64):0<=ez .and .u64 x (m:Int)/\ez .and .u64 x (m:Int)<=m:=by
 show 0<=IntKind.wrap .u64 _/\IntKind.wrap .u64 _<=_;have h0:(BitVec.ofInt 64 x &&& BitVec.ofInt 64 (m:Int)).toNat < 2^64:=BitVec.isLt _
 have h1:((BitVec.ofInt 64 x &&& BitVec.ofInt 64 (m:Int)).toNat)<=m:=by
  rw [BitVec.toNat_and];refine Nat.le_trans Nat.and_le_right ?_;rw [BitVec.toNat_ofInt];omega
 have h2:IntKind.wrap .u64 (((BitVec.ofInt 64 x &&& BitVec.ofInt 64 (m:Int)).toNat:Nat):Int)=(((BitVec.ofInt 64 x &&& BitVec.ofInt 64 (m:Int)).toNat:Nat):Int):=by
  generalize (BitVec.ofInt 64 x &&& BitVec.ofInt 64 (m:Int)).toNat=q at h0;simp only [IntKind.wrap,IntKind.signed,IntKind.bits];simp;omega
 rw [show IntKind.bits .u64=64 from rfl,h2]
 omega
def tk(z w:Int):Prop:=0<=w/\w < 18446744073709551616/\(z=8\/w < 2^(8*z).toNat)
theorem tk.zero(z:Int):tk z 0:=⟨by decide,by decide,.inr (Int.pow_pos (by decide))⟩
theorem cut_ok{k z w:Int}(h:ElI k z)(h0:0<=w)(h1:w < 18446744073709551616):(R.ej k w).sat (tk z):=by
 unfold R.ej;refine aA λ_=>aO (mc h) (aA λ_=>?_);cases h
 all_goals first
  |exact fb rfl (aD ⟨h0,h1,.inl rfl⟩)
  |exact fS rfl (ax rfl (aD ⟨(qZ w (m:=255) (by decide)).1,by have:=(qZ w (m:=255) (by decide)).2;exact Int.lt_of_le_of_lt this (by decide),.inr (Int.lt_of_le_of_lt (qZ w (m:=255) (by decide)).2 (by decide))⟩))
  |exact fS rfl (ax rfl (aD ⟨(qZ w (m:=65535) (by decide)).1,by have:=(qZ w (m:=65535) (by decide)).2;exact Int.lt_of_le_of_lt this (by decide),.inr (Int.lt_of_le_of_lt (qZ w (m:=65535) (by decide)).2 (by decide))⟩))
  |exact fS rfl (ax rfl (aD ⟨(qZ w (m:=4294967295) (by decide)).1,by have:=(qZ w (m:=4294967295) (by decide)).2;exact Int.lt_of_le_of_lt this (by decide),.inr (Int.lt_of_le_of_lt (qZ w (m:=4294967295) (by decide)).2 (by decide))⟩))
theorem Ea{k:Int}:(R.fK k).sat (·=decide (k=7\/k=8)):=by
 unfold R.fK;refine aA λ_=>bH (λh=>aD ?_) λh=>aD ?_
 ·rw [decide_eq_true (by omega)]
 ·show (k == 8)=_;by_cases hk:k=8
  ·subst hk;rfl
  ·rw [show (k == 8)=false from beq_false_of_ne hk,decide_eq_false (by omega)]
theorem Eb{a:aq.den}:(R.lj a).sat λw=>0<=w/\w < 18446744073709551616:=by
 unfold R.lj;refine aA λ_=>q_p λr hr=>aA λ_=>aB (fP (Q:=λw:Int=>0<=w/\w < 18446744073709551616) (λx=>x.2) r.1.2.length (by omega) (λx=>0<=x.1/\x.1 < 18446744073709551616) (by simp) (by simp) (by simp) λx h0 h1 hI=>?_) λw hw=>aD hw;have h1:x.2<=(r.1.2.length:Int):=h1;refine dt (λhl=>?_) λ_=>aD hI;have hl:x.2 < (r.1.2.length:Int):=hl;refine bP h0 (by show _ < r.1.2.length;omega) λe _ _=>ax ?_ (aD ⟨rfl,hl,wrap_u64 _⟩);rw [wrap64 (by omega)];exact decide_eq_true (by omega)
theorem wS{k z:Int}(h:ElI k z){a:aJ.den}:(R.fx k a).sat (tk z):=by
 unfold R.fx;exact aA λ_=>aB (dw0:Safe _).ok λ_ _=>aG (λ_=>aD (.zero z)) λ_=>aB (cut_ok h (wrap_u64 _).1 (wrap_u64 _).2) λw hw=>aA λ_=>aD hw
theorem wh{k z:Int}(h:ElI k z){a:aq.den}:(R.gD k a).sat (tk z):=by
 unfold R.gD;refine aA λ_=>aO Ea (dK (aG (λe=>aB Eb λw hw=>aA λ_=>aD ⟨hw.1,hw.2,.inl ?_⟩) λ_=>aD (.zero z)));have:=of_decide_eq_true e
 cases h<;>first|rfl|omega
theorem zU{k z:Int}(h:ElI k z){v:dZ}:(R.iq k v).sat λr=>tk z r.1:=by
 unfold R.iq;exact aA λ_=>q_b λ_=>aG (λ_=>q_b λ_=>aA λ_=>aB (wh h) λw hw=>aA λ_=>aD hw) λ_=>q_b λ_=>aA λ_=>aB (wS h) λw hw=>aA λ_=>aD hw
theorem vx{k z:Int}(h:ElI k z){v:dZ}:(R.gA k v).sat λr=>tk z r.2.1/\bw r.1:=by
 unfold R.gA;exact aA λ_=>q_b λ_=>aG (λ_=>q_b λ_=>aA λ_=>aB qa λb hb=>aA λ_=>aB (wh h) λw hw=>aA λ_=>aD ⟨hw,vk hb⟩) λ_=>q_b λ_=>aA λ_=>q_b λ_=>aA λ_=>aB nw λb hb=>aA λ_=>aB (wS h) λw hw=>aA λ_=>aD ⟨hw,vk hb⟩
theorem pI{k w:Int}:(R.dV k w).sat bw:=by
 unfold R.dV;exact aA λ_=>q_b λ_=>aG (λ_=>q_b λ_=>aA λ_=>aB qa λb hb=>aA λ_=>aD (vk hb)) λ_=>q_b λ_=>aA λ_=>aB nw λb hb=>aA λ_=>aD (vk hb)
theorem AB{a:aJ.den}:(R.fj a).sat λr=>(r.1=0/\-9007199254740991<=r.2/\r.2<=9007199254740991)\/(r.1=3/\r.2=0)\/(r.1=4/\r.2=0):=by
 unfold R.fj;refine aA λ_=>aB (R:=λr:Int×Int=>(r.1=0->-9007199254740991<=r.2/\r.2<=9007199254740991)/\(r.1≠0->1<=r.1/\r.1<=4/\r.2=0)) (DK (a:=a)).ok λr ⟨r1,r2⟩=>aA λ_=>aB (R:=λb=>b=false->Ne (α:=Int) (r.1) (2)/\Ne (α:=Int) (r.1) (1)) (bH (λ_=>aD λe=>by cases e) λh=>aD λe=>⟨h,ne_of_beq_false e⟩) λb hb=>aG (λ_=>aB (R:=λr:Int×Int=>r=(0,0)) (bG (qx (P:=λr=>decide (r=((0:Int),(0:Int)))) (by kernel_rfl)) λr hr=>of_decide_eq_true hr) λr hr=>aA λ_=>aD ?_) λe=>aD ?_
 ·subst hr;exact .inl ⟨rfl,by decide,by decide⟩
 ·obtain ⟨h1,h2⟩:=hb e;by_cases h0:Eq (α:=Int) (r.1) (0)
  ·exact .inl ⟨h0,r1 h0⟩
  ·have:LE.le (α:=Int) (1) (r.1)/\LE.le (α:=Int) (r.1) (4)/\Eq (α:=Int) (r.2) (0):=r2 h0;by_cases h3:Eq (α:=Int) (r.1) (3)
   ·exact .inr (.inl ⟨h3,this.2.2⟩)
   ·exact .inr (.inr ⟨by show Eq (α:=Int) (r.1) (4);omega,this.2.2⟩)
theorem DP{a:aJ.den}:(R.kc a).sat λr=>LE.le (α:=Int) (0) (r.1)/\LE.le (α:=Int) (r.1) (9007199254740991):=by
 unfold R.kc;refine aA λ_=>aB AB λr hr=>aA λ_=>aB (R:=λb=>b=false->r.1=0/\ilt r.2 0=false) (dK (bH (λh=>aD λe=>⟨h,e⟩) λ_=>aD λe=>by cases e)) λb hb=>aG (λ_=>aD ⟨by decide,by decide⟩) λe=>aD ?_;obtain ⟨h0,h1⟩:=hb e;have h1:¬ LT.lt (α:=Int) (r.2) (0):=of_decide_eq_false h1;rcases hr with ⟨_,hr⟩|⟨hr,_⟩|⟨hr,_⟩
 ·exact ⟨by show LE.le (α:=Int) (0) (r.2);omega,hr.2⟩
 ·rw [h0] at hr;cases hr
 ·rw [h0] at hr;cases hr
theorem nv{v:dZ}:(R.dB v).sat λr=>LE.le (α:=Int) (0) (r.1)/\LE.le (α:=Int) (r.1) (9007199254740991):=by
 unfold R.dB;exact aA λ_=>q_b λ_=>aA λ_=>aG (λ_=>aD ⟨Int.le_refl 0,show (0:Int)<=9007199254740991 by decide⟩) λ_=>q_b λ_=>aA λ_=>aG (λ_=>aD ⟨Int.le_refl 0,show (0:Int)<=9007199254740991 by decide⟩) λ_=>aB DP λr hr=>aA λ_=>aG (λ_=>aD ⟨Int.le_refl 0,show (0:Int)<=9007199254740991 by decide⟩) λ_=>aD hr
end Go.Mach

set_option maxRecDepth 100000
namespace Go.Mach
open Res
section
variable {β:Type}{Q:β->Prop}
theorem aW{m:Res β}{B:β->Bool}(h:m.sat Q):(m.bind λr=>given (B r) (Res.ok r)).sat Q:=aB h λ_ hr=>aA λ_=>aD hr
theorem pA{a b:Int}{x y:Res β}(h1:a≠b->x.sat Q)(h2:a=b->y.sat Q):(br (!(a == b)) x y).sat Q:=dK (bH h2 h1)
theorem bZ{how:Int}{x y:Res β}(h1:how≠0->x.sat Q)(h2:how=0->y.sat Q):(br (!(how == 0)) x y).sat Q:=dK (bH h2 h1)
end
section
variable {C:Cx}{m m1 m2 b b1:Int}{s s0 s':RunT}{how:Int}
theorem Pst.a0(h:Pst C m b s how s')(e:how=0):Aft C m b s s':=h.aft (by rw [e];decide)
theorem Pst.cat(a:Aft C m1 b1 s0 s)(g:Pst C m2 s.2.2.2.2.2.2.1 s how s'):Pst C m2 b1 s0 how s':=Pst.after a (g.mono (Int.le_refl _) a.bg)
theorem Pst.lF(a:Aft C m1 b1 s0 s)(g:Pst C m2 (HAdd.hAdd (α:=Int) (β:=Int) (γ:=Int) (s.2.2.2.2.2.2.1) (1)) s how s'):Pst C m2 b1 s0 how s':=Pst.after a (g.mono (Int.le_refl _) (by have:=a.bg;omega))
theorem Aft.cat(a:Aft C m1 b1 s0 s)(g:Aft C m2 s.2.2.2.2.2.2.1 s s'):Aft C m2 b1 s0 s':=a.trans (g.mono (Int.le_refl _) a.bg)
theorem Aft.up(a:Aft C m b s s'){m':Int}(h:m<=m'):Aft C m' b s s':=a.mono h (Int.le_refl _)
theorem Pst.up(a:Pst C m b s how s'){m':Int}(h:m<=m'):Pst C m' b s how s':=a.mono h (Int.le_refl _)
theorem cp.up{r:(dZ×Int)×RunT}(a:cp C m b s r){m':Int}(h:m<=m'):cp C m' b s r:=⟨a.1,a.2.up h⟩
theorem cp.cat{r:(dZ×Int)×RunT}(a:Aft C m1 b1 s0 s)(g:cp C m2 s.2.2.2.2.2.2.1 s r):cp C m2 b1 s0 r:=⟨g.1,Pst.cat a g.2⟩
theorem Pst.ok(a:Aft C m b s s'):Pst C m b s 0 s':=.inr ⟨by decide,a⟩
theorem gd(h:gq C m s)(hm:m<=2^39){k:Int}:(R.aF s k).sat (cp C m s.2.2.2.2.2.2.1 s):=bG (nY h hm) λ_ hr=>hr.1
theorem mY(h:gq C m s){v:dZ}(hv:bw v):cp C m s.2.2.2.2.2.2.1 s ((v,0),s):=⟨hv,.ret h⟩
end
theorem Gw{k n:Int}(h:(k=0/\-9007199254740991<=n/\n<=9007199254740991)\/((k=3\/k=4)/\n=0)):(R.lS (k,n)).sat (·=true):=by
 unfold R.lS;dsimp only;refine aA λ_=>bH (λe=>?_) λe=>?_
 ·rcases h with ⟨_,h1,h2⟩|⟨h1,_⟩
  ·exact lW (λ_=>aD (decide_eq_true h2)) λg=>absurd h1 (Int.not_le.2 g)
  ·omega
 ·rcases h with ⟨h1,_⟩|⟨h1,h2⟩
  ·exact absurd h1 e
  ·subst h2;refine aO (a:=true) (bH (λg=>aD (by rw [g];rfl)) λ_=>bH (λg=>aD (by rw [g];rfl)) λ_=>bH (λg=>aD (by rw [g];rfl)) λ_=>aD ?_) (fS rfl (aD rfl));rw [show k=4 by omega];rfl
theorem as_id{k n:Int}(h:(k=0/\-9007199254740991<=n/\n<=9007199254740991)\/((k=3\/k=4)/\n=0)):(R.eQ (k,n)).sat (·=(k,n)):=by
 unfold R.eQ;exact aA λ_=>aO (Gw h) (fb rfl (aD rfl))
theorem CS{k n:Int}:(R.iQ (k,n)).sat (·=if k=3 then 9007199254740992 else if k=4 then -9007199254740992 else n):=by
 unfold R.iQ;dsimp only;refine aA λ_=>bH (λe=>aD ?_) λe=>bH (λe'=>aD ?_) λe'=>aD ?_
 ·rw [if_pos e]
 ·rw [if_neg e,if_pos e']
 ·rw [if_neg e,if_neg e']
theorem less0{k n:Int}(h:(k=0/\-9007199254740991<=n/\n<=9007199254740991)\/((k=3\/k=4)/\n=0)):(R.kR (k,n) (0,0)).sat λb=>b=false->B7 (k,n):=by
 unfold R.kR;refine aA λ_=>aO (as_id h) (aA λ_=>aO (as_id (.inl ⟨rfl,by decide,by decide⟩)) (aA λ_=>q_e (dK (bH (λe=>?_) λ_=>q_e (dK (bH (λe=>by cases e) λ_=>aO CS (aA λ_=>aO CS (aA λ_=>aD λe=>?_))))))))
 ·have e:k=2:=e;omega
 ·have e:=of_decide_eq_false e;show (k=0/\0<=n/\n<=9007199254740991)\/(k=3/\n=0);rw [if_neg (show ¬ (0:Int)=3 by decide),if_neg (show ¬ (0:Int)=4 by decide)] at e;rcases h with ⟨h1,h2⟩|⟨h1|h1,h2⟩
  ·rw [if_neg (by omega),if_neg (by omega)] at e;omega
  ·exact .inr ⟨h1,h2⟩
  ·rw [if_neg (by omega),if_pos h1] at e;exact absurd (by decide) e
theorem tA{a:aJ.den}:(R.ec a).sat B7:=by
 unfold R.ec;refine aA λ_=>aB AB λr hr=>aA λ_=>?_;obtain ⟨k,n⟩:=r;refine aB (less0 (k:=k) (n:=n) ?_) λb hb=>aG (λ_=>aD (.inl ⟨rfl,by decide,by decide⟩)) λe=>aD (hb e);rcases hr with ⟨h1,h2,h3⟩|⟨h1,h2⟩|⟨h1,h2⟩
 ·exact .inl ⟨h1,h2,h3⟩
 ·exact .inr ⟨.inl h1,h2⟩
 ·exact .inr ⟨.inr h1,h2⟩
abbrev PkT:=kM.den
structure TyI (l:List ja) (p:PkT) (z:Int):Prop where
 el:ElI p.2.2.2.2.2.2.2.2.1 z
 f0:LE.le (α:=Int) (0) (p.2.2.2.2.2.2.2.2.2.2.1)
 l0:LE.le (α:=Int) (0) (p.2.2.2.2.2.2.2.2.2.2.2.1)
 lm:LE.le (α:=Int) (p.2.2.2.2.2.2.2.2.2.2.2.1) (9007199254740991)
 m:LE.le (α:=Int) ((HAdd.hAdd (α:=Int) (β:=Int) (γ:=Int) (p.2.2.2.2.2.2.2.2.2.2.1) (HMul.hMul (α:=Int) (β:=Int) (γ:=Int) p.2.2.2.2.2.2.2.2.2.2.2.1 z))) (9007199254740991)
 bf:qe l p.2.2.2.2.2.2.2.2.2.1 (HAdd.hAdd (α:=Int) (β:=Int) (γ:=Int) (p.2.2.2.2.2.2.2.2.2.2.1) (HMul.hMul (α:=Int) (β:=Int) (γ:=Int) p.2.2.2.2.2.2.2.2.2.2.2.1 z))
structure VwI (l:List ja) (p:PkT):Prop where
 f0:LE.le (α:=Int) (0) (p.2.2.2.2.2.2.2.2.2.2.1)
 l0:LE.le (α:=Int) (0) (p.2.2.2.2.2.2.2.2.2.2.2.1)
 m:LE.le (α:=Int) ((HAdd.hAdd (α:=Int) (β:=Int) (γ:=Int) (p.2.2.2.2.2.2.2.2.2.2.1) (p.2.2.2.2.2.2.2.2.2.2.2.1))) (9007199254740991)
 bf:qe l p.2.2.2.2.2.2.2.2.2.1 (HAdd.hAdd (α:=Int) (β:=Int) (γ:=Int) (p.2.2.2.2.2.2.2.2.2.2.1) (p.2.2.2.2.2.2.2.2.2.2.2.1))
theorem qe.le{l:List ja}{b n n':Int}(h:qe l b n)(hn:n'<=n):qe l b n':=by
 obtain ⟨h0,d,h1,h2⟩:=h;exact ⟨h0,d,h1,h2.imp (λ⟨a,c⟩=>⟨a,Int.le_trans hn c⟩) λ⟨a,c⟩=>⟨a,Int.le_trans hn c⟩⟩
structure PkI (N:List eH) (l:List ja) (i:Int) (r:PkT×Bool):Prop where
 no:r.2=false->Eq (α:=Int) (r.1.1) (0)
 ty:Eq (α:=Int) (r.1.1) (7)->∃ z,TyI l r.1 z
 vw:Eq (α:=Int) (r.1.1) (8)->VwI l r.1
 sh:Eq (α:=Int) (r.1.1) (6)->LE.le (α:=Int) (0) (r.1.2.2.2.2.2.2.2.2.2.2.2.1)/\LE.le (α:=Int) (r.1.2.2.2.2.2.2.2.2.2.2.2.1) (9007199254740991)
 th:r.2=true->bw r.1.2.2.2.2.2.2.2.1
 nn:r.2=true->r.1.2.2.2.2.1.length<=4096
 fn:Eq (α:=Int) (r.1.1) (3)->FnI N r.1.2.2.2.2.2.1
 at':r.2=true->0<=i/\∃ c,l[i.toNat]?=some c/\Eq (α:=Int) (c.1) (r.1.1)
 cl:∀ c,0<=i->l[i.toNat]?=some c->r.2=true/\Eq (α:=Int) (r.1.1) (c.1)
theorem oo{N:List eH}{B:Nat}{h:qn}(hh:ir N B h){i:Int}:(R.bI h i).sat (PkI N h.2 i):=by
 refine bG Gg λr hr=>?_;obtain ⟨p,ok⟩:=r;rcases hr with ⟨h1,h2,hn⟩|⟨h1,i0,c,hc,h2⟩
 ·have h1:ok=false:=h1;subst h1;have hk:∀ k:Int,k≠0->¬ Eq (α:=Int) (p.1) (k):=λk hk e=>hk (e.symm.trans h2);exact ⟨λ_=>h2,λe=>absurd e (hk 7 (by decide)),λe=>absurd e (hk 8 (by decide)),λe=>absurd e (hk 6 (by decide)),(λe=>by cases e),(λe=>by cases e),λe=>absurd e (hk 3 (by decide)),(λe=>by cases e),λc i0 hc=>absurd ⟨i0,(List.getElem?_eq_some_iff.1 hc).1⟩ hn⟩
 ·have h2:p=_:=h2;subst h2;have h1:ok=true:=h1;subst h1;obtain ⟨g1,g2⟩:=hh.cl _ c hc;refine ⟨(λe=>by cases e),λe=>?_,λe=>?_,λe=>g1.sh e,λ_=>g2.tv,λ_=>g2.nn,λe=>g1.fn e,λ_=>⟨i0,c,hc,rfl⟩,λc' _ hc'=>⟨rfl,?_⟩⟩
  ·obtain ⟨z,a1,a2,a3,a4,a5,a6⟩:=g1.ty e;exact ⟨z,a1,a2,a3,a4,a5,a6⟩
  ·obtain ⟨a1,a2,a3,a4⟩:=g1.vw e;exact ⟨a1,a2,a3,a4⟩
  ·have:some c=some c':=hc.symm.trans hc';cases this;rfl
theorem xJ{k z n l f:Int}(h:ElI k z)(n0:0<=n)(nl:n < l)(hf:0<=f)(hm:f+l*z<=9007199254740991):w6 (f+w6 (n*z))=f+n*z/\0<=f+n*z/\f+n*z+z<=f+l*z:=by
 have h1:n*z+z<=l*z:=by rcases h.pos.2.2 with rfl|rfl|rfl|rfl<;>omega
 have h2:0<=n*z:=Int.mul_nonneg n0 (by have:=h.pos.1;omega);have h3:=h.pos.1;rw [wrap64 (n:=n*z) (by omega),wrap64 (by omega)];exact ⟨rfl,by omega,by omega⟩
end Go.Mach

set_option maxRecDepth 100000
namespace Go.Mach
open Res
instance A8{a b}:Safe (R.cR a b):=by unfold R.cR;exact dw0
theorem ou{β:Type}{Q:β->Prop}(xs:List (List Int))(i:Int){k:List Int->Res β}(h0:0<=i)(h1:i < xs.length)(h:∀ x:List Int,xs[i.toNat]?=some x->(k x).sat Q) :
  (Res.aa (ile 0 i && ilt i xs.length) (Res.idx (.list (.int .u16)) xs (0+(i.toNat:Int)) k)).sat Q:=by
 refine ax (by rw [Bool.and_eq_true,mR,gI];exact ⟨h0,h1⟩) ?_;have hi:((0:Int)+(i.toNat:Int)).toNat=i.toNat:=idx0 i;refine bP (by omega) (by rw [hi];show i.toNat < xs.length;omega) λx hx _=>h x (by rw [<- hi];exact hx)
abbrev nJ:=List (List Int)
theorem swap_perm{d:nJ}{i j:Nat}{x y:List Int}(hx:d[i]?=some x)(hy:d[j]?=some y):((d.set i y).set j x).Perm d:=by
 obtain ⟨hi,hx⟩:=List.getElem?_eq_some_iff.1 hx;obtain ⟨hj,hy⟩:=List.getElem?_eq_some_iff.1 hy;subst hx hy;exact List.set_set_perm hi hj
theorem uC{β:Type}{Q:β->Prop}{d:nJ}{i j:Int}{k:nJ->Res β}(hi:0<=i/\i < d.length)(hj:0<=j/\j < d.length)(h:∀ x y,d[i.toNat]?=some x->d[j.toNat]?=some y->(k ((d.set i.toNat y).set j.toNat x)).sat Q) :
  (Res.aa (ile 0 j && ilt j d.length) (Res.idx (.list (.int .u16)) d (0+Int.toNat j) λe7=>Res.aa (ile 0 i && ilt i d.length) (Res.idx (.list (.int .u16)) d (0+Int.toNat i) λe8=>Res.aa (ile 0 i && ilt i d.length) (Res.idx (.list (.int .u16)) d (0+Int.toNat i) λe9=>Res.aa (ile 0 j && ilt j (List.set d (0+Int.toNat i) e7).length) (Res.idx (.list (.int .u16)) (List.set d (0+Int.toNat i) e7) (0+Int.toNat j) λe10=>k (List.set (List.set d (0+Int.toNat i) e7) (0+Int.toNat j) e8)))))).sat Q:=by
 refine ou d j hj.1 hj.2 λy hy=>?_;refine ou d i hi.1 hi.2 λx hx=>?_;refine ou d i hi.1 hi.2 λx' hx'=>?_;refine ou (List.set d (0+Int.toNat i) y) j hj.1 (by rw [List.length_set];exact hj.2) λy' hy'=>?_;rw [Nat.zero_add,Nat.zero_add];exact h x y hx hy
theorem tz(d:nJ)(a b:Int)(ha:0<=a)(hb:b<=d.length)(hab:a<=d.length)(hl:d.length < 2^60):(R.aN d a b ()).sat λy=>y.2.Perm d:=by
 unfold R.aN;have hw:w6 (a+1)=a+1:=wrap64 (by omega);rw [hw];refine aA λ_=>aB (R:=λd'=>d'.Perm d) (tf (λx:Int×nJ=>x.1) (d.length+1) (by omega) (λx=>(a+1<=x.1/\x.1<=d.length+1)/\x.2.Perm d) ⟨⟨by simp,by simp only;omega⟩,List.Perm.refl _⟩ (λx h=>by omega) ?_) λd' h=>aD h;rintro ⟨i,d1⟩ ⟨⟨h1,h2⟩,hp⟩;simp only at h1 h2 hp;have hlen:=hp.length_eq;refine aG (λh3=>?_) λh3=>aD hp;rw [gI] at h3;simp only at h3;refine aB (R:=λd'=>d'.Perm d) (nM (λk (x:Int×nJ)=>k=(x.1-a).toNat/\(a<=x.1/\x.1<=i)/\x.2.Perm d) ?_ _ (i-a).toNat _ (by have:fuel=2^70:=rfl;omega) ⟨rfl,⟨by simp only;omega,Int.le_refl _⟩,hp⟩) λd' h=>aD ⟨wrap64 (by omega),by simp only;rw [wrap64 (by omega)];omega,h⟩;rintro k ⟨j,d2⟩ ⟨hk,⟨h4,h5⟩,hp2⟩;simp only at hk h4 h5 hp2;have hlen2:=hp2.length_eq;refine aB (R:=λb=>b=true->a < j) ?_ ?_
 ·refine aG (λh6=>?_) λh6=>aD λh=>by cases h
  rw [gI] at h6;simp only at h6;rw [wrap64 (n:=j-1) (by omega)];refine ou d2 j (by omega) (by omega) λe3 _=>?_;refine ou d2 (j-1) (by omega) (by omega) λe4 _=>?_;exact q_b λ_=>(aA λ_=>aD λ_=>h6)
 ·intro x hx;refine aG (λh6=>?_) λ_=>aD hp2;have hj:=hx h6;simp only;rw [wrap64 (n:=j-1) (by omega)]
  refine uC (d:=d2) (i:=j) (j:=j-1) (k:=λd'=>(Res.ok (Res.Step.next (j-1,d')):Res (Res.Step (Int×nJ) nJ))) ⟨by omega,by omega⟩ ⟨by omega,by omega⟩ λx y hx hy=>?_
  exact aD ⟨(j-1-a).toNat,by omega,rfl,⟨by simp only;omega,by simp only;omega⟩,(swap_perm hx hy).trans hp2⟩
theorem qc(d:nJ)(a b n:Int)(ha:0<=a)(hb:0<=b)(han:a+n<=d.length)(hbn:b+n<=d.length)(hn:0<=n)(hl:d.length < 2^60):(R.aM d a b n ()).sat λy=>y.2.Perm d:=by
 unfold R.aM;refine aA λ_=>aB (R:=λd'=>d'.Perm d) (tf (λx:Int×nJ=>x.1) n.toNat (by omega) (λx=>(0<=x.1/\x.1<=n.toNat)/\x.2.Perm d) ⟨⟨by simp,by simp only;omega⟩,List.Perm.refl _⟩ (λx h=>h.1) ?_) λd' h=>aD h;rintro ⟨i,d1⟩ ⟨⟨h1,h2⟩,hp⟩;simp only at h1 h2 hp;have hlen:=hp.length_eq;refine aG (λh3=>?_) λh3=>aD hp;rw [gI] at h3;simp only at h3 ⊢;rw [wrap64 (n:=b+i) (by omega),wrap64 (n:=a+i) (by omega),wrap64 (n:=i+1) (by omega)]
 refine uC (d:=d1) (i:=a+i) (j:=b+i) (k:=λd'=>(Res.ok (Res.Step.next (i+1,d')):Res (Res.Step (Int×nJ) nJ))) ⟨by omega,by omega⟩ ⟨by omega,by omega⟩ λx y hx hy=>?_
 exact aD ⟨rfl,⟨by simp only;omega,by simp only;omega⟩,(swap_perm hx hy).trans hp⟩
theorem EI(d:nJ)(a m b:Int)(ha:0<=a)(ham:a < m)(hmb:m < b)(hb:b<=d.length)(hl:d.length < 2^60):(R.aX d a m b ()).sat λy=>y.2.Perm d:=by
 unfold R.aX;rw [wrap64 (n:=m-a) (by omega),wrap64 (n:=b-m) (by omega)];refine aA λ_=>aB (R:=λ(x:Int×nJ)=>(0 < x.1/\x.1<=m-a/\x.1<=b-m)/\x.2.Perm d) (nM (λk (x:Int×Int×nJ)=>k=(x.1+x.2.1).toNat/\(0 < x.1/\x.1<=m-a)/\(0 < x.2.1/\x.2.1<=b-m)/\x.2.2.Perm d) ?_ _ (b-a).toNat _ (by have:fuel=2^70:=rfl;omega) ⟨by simp only;congr 1;omega,⟨by simp only;omega,by simp only;omega⟩,⟨by simp only;omega,by simp only;omega⟩,List.Perm.refl _⟩) ?_
 ·rintro k ⟨i,j,d1⟩ ⟨hk,⟨h1,h2⟩,⟨h3,h4⟩,hp⟩;simp only at hk h1 h2 h3 h4 hp;have hlen:=hp.length_eq;refine aG (λh5=>?_) λh5=>aD ⟨⟨h1,h2,?_⟩,hp⟩
  ·have h5:¬ i=j:=by simpa using h5
   refine aG (λh6=>?_) λh6=>?_
   ·rw [gI] at h6;simp only at h6 ⊢;rw [wrap64 (n:=m-i) (by omega),wrap64 (n:=i-j) (by omega)];refine aB (qc d1 (m-i) m j (by omega) (by omega) (by omega) (by omega) (by omega) (by omega)) λy hy=>aA λ_=>aD ⟨(i-j+j).toNat,by omega,rfl,⟨by simp only;omega,by simp only;omega⟩,⟨by simp only;omega,by simp only;omega⟩,hy.trans hp⟩
   ·rw [lu] at h6;simp only at h6 ⊢;rw [wrap64 (n:=m-i) (by omega),wrap64 (n:=m+j) (by omega),wrap64 (n:=m+j-i) (by omega),wrap64 (n:=j-i) (by omega)];refine aB (qc d1 (m-i) (m+j-i) i (by omega) (by omega) (by omega) (by omega) (by omega) (by omega)) λy hy=>aA λ_=>aD ⟨(i+(j-i)).toNat,by omega,rfl,⟨by simp only;omega,by simp only;omega⟩,⟨by simp only;omega,by simp only;omega⟩,hy.trans hp⟩
  ·have h5:i=j:=by simpa using h5
   simp only;omega
 ·rintro ⟨i,d1⟩ ⟨⟨h1,h2,h3⟩,hp⟩;simp only at h1 h2 h3 hp ⊢;have hlen:=hp.length_eq;rw [wrap64 (n:=m-i) (by omega)];refine aB (qc d1 (m-i) m i (by omega) (by omega) (by omega) (by omega) (by omega) (by omega)) λy hy=>aA λ_=>aD (hy.trans hp)
abbrev A1(x:Int):Int:=w6 (iL .u64 (IntKind.wrap .u64 (w6 x)) 1)
theorem vX{x:Int}(h:0<=x/\x < 2^62):A1 x=x / 2:=by
 unfold A1;have h1:w6 x=x:=wrap64 (by omega)
 have h2:IntKind.wrap .u64 x=x:=by
  simp [w6,w6,w6,IntKind.wrap,IntKind.signed,IntKind.bits];omega
 have h3:iL .u64 x 1=x / 2:=by
  unfold iL
  have:(min (Int.toNat 1) (IntKind.bits .u64))=1:=by decide
  rw [this];show x.fdiv 2=x / 2;rw [Int.fdiv_eq_ediv];omega
 rw [h1,h2,h3];exact wrap64 (by omega)
theorem uO{d:nJ}(lo hi:Int)(hlo:0<=lo)(hhi:hi < 2^60)(hle:lo<=hi)(f:Int×Int->Res (Res.Step (Int×Int) Int))
  (hf:∀ i j,lo<=i->i<=j->j<=hi->(f (i,j)).sat fun
   |.next x=>i < j/\((x=((i+j) / 2+1,j))\/x=(i,(i+j) / 2))
   |.done r=>r=i):(Res.loop f fuel (lo,hi)).sat λr=>lo<=r/\r<=hi:=by
 refine nM (λk (x:Int×Int)=>k=(x.2-x.1).toNat/\lo<=x.1/\x.1<=x.2/\x.2<=hi) ?_ _ (hi-lo).toNat _ (by have:fuel=2^70:=rfl;omega) ⟨rfl,Int.le_refl _,hle,Int.le_refl _⟩;rintro k ⟨i,j⟩ ⟨hk,h1,h2,h3⟩;simp only at hk h1 h2 h3;refine bG (hf i j h1 h2 h3) λs hs=>?_
 cases s with
 |next x =>
  obtain ⟨h4,rfl|rfl⟩:=hs
  ·exact ⟨_,by omega,rfl,by simp only;omega,by simp only;omega,by simp only;omega⟩
  ·exact ⟨_,by omega,rfl,by simp only;omega,by simp only;omega,by simp only;omega⟩
 |done r =>
  have hs:r=i:=hs;subst hs;exact ⟨h1,by omega⟩
theorem pd:∀ (fu:Nat) (d:nJ) (a m b:Int),(b-a).toNat < fu->0<=a->a < m->m < b->b<=d.length->d.length < 2^60->(R.aH fu d a m b ()).sat λy=>y.2.Perm d
 |0,_,_,_,_,h,_,_,_,_,_=>by omega
 |fu+1,d,a,m,b,hfu,h0,ham,hmb,hb,hl=>by
  unfold R.aH;rw [wrap64 (n:=m-a) (by omega),wrap64 (n:=b-m) (by omega)];refine aA λ_=>aG (λhone=>?_) λhone=>aG (λhone2=>?_) λhone2=>?_
  ·
   refine aB (R:=λr=>m<=r/\r<=b) (uO (d:=d) m b (by omega) (by omega) (by omega) _ λi j h1 h2 h3=>?_) λi5 hi5=>?_
   ·simp only;refine aG (λh4=>?_) λh4=>aD rfl;rw [gI] at h4;have hh:A1 (i+j)=(i+j) / 2:=vX (by omega);refine ax rfl ?_
    rw [show w6 (iL .u64 (IntKind.wrap .u64 (w6 (i+j))) 1)=(i+j) / 2 from hh]
    refine ou d ((i+j) / 2) (by omega) (by omega) λe2 _=>?_;refine ou d a (by omega) (by omega) λe3 _=>?_;refine q_b λ_=>(aA λ_=>aG (λ_=>aD ⟨h4,.inl ?_⟩) λ_=>aD ⟨h4,.inr rfl⟩);rw [wrap64 (by omega)]
   ·rw [wrap64 (n:=i5-1) (by omega)];refine aB (R:=λd'=>d'.Perm d) (tf (λx:Int×nJ=>x.1) (d.length+1) (by omega) (λx=>(a<=x.1/\x.1<=d.length)/\x.2.Perm d) ⟨⟨by simp,by simp only;omega⟩,List.Perm.refl _⟩ (λx h=>by omega) ?_) λd' h=>aD h;rintro ⟨k,d2⟩ ⟨⟨h1,h2⟩,hp⟩;simp only at h1 h2 hp;have hlen:=hp.length_eq;refine aG (λh3=>?_) λh3=>aD hp;rw [gI] at h3;simp only at h3 ⊢;rw [wrap64 (n:=k+1) (by omega)]
    refine uC (d:=d2) (i:=k) (j:=k+1) (k:=λd'=>(Res.ok (Res.Step.next (k+1,d')):Res (Res.Step (Int×nJ) nJ))) ⟨by omega,by omega⟩ ⟨by omega,by omega⟩ λx y hx hy=>?_
    exact aD ⟨rfl,⟨by simp only;omega,by simp only;omega⟩,(swap_perm hx hy).trans hp⟩
  ·
   refine aB (R:=λr=>a<=r/\r<=m) (uO (d:=d) a m (by omega) (by omega) (by omega) _ λi j h1 h2 h3=>?_) λi5 hi5=>?_
   ·simp only;refine aG (λh4=>?_) λh4=>aD rfl;rw [gI] at h4;have hh:A1 (i+j)=(i+j) / 2:=vX (by omega);refine ax rfl ?_
    rw [show w6 (iL .u64 (IntKind.wrap .u64 (w6 (i+j))) 1)=(i+j) / 2 from hh]
    refine ou d m (by omega) (by omega) λe2 _=>?_;refine ou d ((i+j) / 2) (by omega) (by omega) λe3 _=>?_;refine q_b λ_=>(aA λ_=>aG (λ_=>aD ⟨h4,.inl ?_⟩) λ_=>aD ⟨h4,.inr rfl⟩);rw [wrap64 (by omega)]
   ·refine aB (R:=λd'=>d'.Perm d) (nM (λk (x:Int×nJ)=>k=x.1.toNat/\(0<=x.1/\x.1<=m)/\x.2.Perm d) ?_ _ m.toNat _ (by have:fuel=2^70:=rfl;omega) ⟨rfl,⟨by simp only;omega,Int.le_refl _⟩,List.Perm.refl _⟩) λd' h=>aD h;rintro q ⟨k,d2⟩ ⟨hq,⟨h1,h2⟩,hp⟩;simp only at hq h1 h2 hp;have hlen:=hp.length_eq;refine aG (λh3=>?_) λh3=>aD hp;rw [gI] at h3;simp only at h3 ⊢;rw [wrap64 (n:=k-1) (by omega)]
    refine uC (d:=d2) (i:=k) (j:=k-1) (k:=λd'=>(Res.ok (Res.Step.next (k-1,d')):Res (Res.Step (Int×nJ) nJ))) ⟨by omega,by omega⟩ ⟨by omega,by omega⟩ λx y hx hy=>?_
    exact aD ⟨_,by omega,rfl,⟨by simp only;omega,by simp only;omega⟩,(swap_perm hx hy).trans hp⟩
  ·
   have hone:¬ m-a=1:=by simpa using hone
   have hone2:¬ b-m=1:=by simpa using hone2
   have hmid:w6 (iL .u64 (IntKind.wrap .u64 (w6 (a+b))) 1)=(a+b) / 2:=vX (by omega);rw [hmid];generalize hM:(a+b) / 2=mid
   have hM1:a+b-1<=2*mid/\2*mid<=a+b:=by omega
   rw [wrap64 (n:=mid+m) (by omega),wrap64 (n:=mid+m-b) (by omega),wrap64 (n:=mid+m-1) (by omega)];refine ax rfl (aB (R:=λ(x:Int×Int)=>(a<=x.1/\x.1<=x.2/\x.2<=m)/\mid+m-x.1<=b/\(x.2<=mid)/\(mid<=mid+m-x.2)) ?_ ?_)
   ·refine aG (λh1=>aD ?_) λh1=>aD ?_
    ·rw [gI] at h1;simp only;omega
    ·rw [lu] at h1;simp only;omega
   rintro ⟨st,rr⟩ ⟨⟨s1,s2,s3⟩,s4,s5,s6⟩;simp only at s1 s2 s3 s4 s5 s6;refine aB (R:=λr=>st<=r/\r<=rr) (uO (d:=d) st rr (by omega) (by omega) (by omega) _ λi j h1 h2 h3=>?_) λs hs=>?_
   ·simp only;refine aG (λh4=>?_) λh4=>aD rfl;rw [gI] at h4;have hh:A1 (i+j)=(i+j) / 2:=vX (by omega);refine ax rfl ?_
    rw [show w6 (iL .u64 (IntKind.wrap .u64 (w6 (i+j))) 1)=(i+j) / 2 from hh]
    rw [wrap64 (n:=mid+m-1-(i+j) / 2) (by omega)];refine ou d (mid+m-1-(i+j) / 2) (by omega) (by omega) λe2 _=>?_;refine ou d ((i+j) / 2) (by omega) (by omega) λe3 _=>?_;refine q_b λ_=>(aA λ_=>aG (λ_=>aD ⟨h4,.inl ?_⟩) λ_=>aD ⟨h4,.inr rfl⟩);rw [wrap64 (by omega)]
   ·obtain ⟨hs1,hs2⟩:=hs;rw [wrap64 (n:=mid+m-s) (by omega)];refine aB (R:=λd'=>d'.Perm d) ?_ λd1 hp1=>aB (R:=λd'=>d'.Perm d) ?_ λd2 hp2=>?_
    ·refine aB (R:=λc=>c=true->s < m/\m < mid+m-s) ?_ λc hc=>aG (λh=>?_) λ_=>aD (List.Perm.refl _)
     ·refine aG (λh1=>aD λh2=>?_) λ_=>aD λh=>by cases h
      rw [gI] at h1 h2;exact ⟨h1,h2⟩
     ·obtain ⟨h1,h2⟩:=hc h;exact aB (EI d s m (mid+m-s) (by omega) h1 h2 (by omega) hl) λy hy=>aA λ_=>aD hy
    ·have hlen1:=hp1.length_eq;refine aB (R:=λc=>c=true->a < s/\s < mid) ?_ λc hc=>aG (λh=>?_) λ_=>aD hp1
     ·refine aG (λh1=>aD λh2=>?_) λ_=>aD λh=>by cases h
      rw [gI] at h1 h2;exact ⟨h1,h2⟩
     ·obtain ⟨h1,h2⟩:=hc h;exact aB (pd fu d1 a s mid (by omega) h0 h1 h2 (by omega) (by omega)) λy hy=>aA λ_=>aD (hy.trans hp1)
    ·have hlen2:=hp2.length_eq;refine aB (R:=λc=>c=true->mid < mid+m-s/\mid+m-s < b) ?_ λc hc=>aG (λh=>?_) λ_=>aD hp2
     ·refine aG (λh1=>aD λh2=>?_) λ_=>aD λh=>by cases h
      rw [gI] at h1 h2;exact ⟨h1,h2⟩
     ·obtain ⟨h1,h2⟩:=hc h;exact aB (pd fu d2 mid (mid+m-s) b (by omega) (by omega) h1 h2 (by omega) (by omega)) λy hy=>aA λ_=>aD (hy.trans hp2)
theorem Dx(d:nJ)(hl:d.length < 2^50):(R.aY d (d.length:Int) ()).sat λy=>y.2.Perm d:=by
 unfold R.aY;refine aA λ_=>aB (R:=λ(x:Int×nJ)=>(0<=x.1/\x.1<=d.length)/\x.2.Perm d) (nM (λk (x:Int×Int×nJ)=>k=(d.length+20-x.1).toNat/\(0<=x.1/\x.1<=d.length)/\x.2.1=x.1+20/\x.2.2.Perm d) ?_ _ (d.length+20) _ (by have:fuel=2^70:=rfl;omega) ⟨by simp only;omega,⟨by simp only;omega,by simp only;omega⟩,rfl,List.Perm.refl _⟩) ?_
 ·rintro k ⟨a,b,d1⟩ ⟨hk,⟨h1,h2⟩,h3,hp⟩;simp only at hk h1 h2 h3 hp;have hlen:=hp.length_eq;refine aG (λh4=>?_) λh4=>aD ⟨⟨h1,h2⟩,hp⟩;rw [mR] at h4;simp only at h4 ⊢;refine aB (tz d1 a b h1 (by omega) (by omega) (by omega)) λy hy=>aA λ_=>aD ⟨(d.length+20-b).toNat,by omega,rfl,⟨by simp only;omega,h4⟩,wrap64 (by omega),hy.trans hp⟩
 rintro ⟨a,d1⟩ ⟨⟨h1,h2⟩,hp⟩;simp only at h1 h2 hp;have hlen:=hp.length_eq;refine aB (tz d1 a d.length h1 (by omega) (by omega) (by omega)) λy hy=>aA λ_=>?_;obtain ⟨_,d2⟩:=y;simp only at hy ⊢;have hp2:=hy.trans hp;refine aB (R:=λd'=>d'.Perm d) (nM (λk (x:Int×nJ)=>k=(d.length-x.1).toNat/\(20<=x.1/\x.1<=2^52)/\x.2.Perm d) ?_ _ ((d.length:Int)-20).toNat _ (by have:fuel=2^70:=rfl;omega) ⟨rfl,⟨by simp only;omega,by simp only;omega⟩,hp2⟩) λd' h=>aD h;rintro k ⟨bs,d3⟩ ⟨hk,⟨h3,h4⟩,hp3⟩;simp only at hk h3 h4 hp3;have hlen3:=hp3.length_eq;refine aG (λh5=>?_) λh5=>aD hp3;rw [gI] at h5;simp only at h5 ⊢;rw [wrap64 (n:=2*bs) (by omega),wrap64 (n:=bs*2) (by omega)];refine aB (R:=λ(x:Int×nJ)=>(0<=x.1/\x.1<=d.length)/\x.2.Perm d) (nM (λk (x:Int×Int×nJ)=>k=(d.length+2*bs-x.1).toNat/\(0<=x.1/\x.1<=d.length)/\x.2.1=x.1+2*bs/\x.2.2.Perm d) ?_ _ (d.length+2*bs).toNat _ (by have:fuel=2^70:=rfl;omega) ⟨by simp only;omega,⟨by simp only;omega,by simp only;omega⟩,by simp only;omega,hp3⟩) ?_
 ·rintro k ⟨a,b,d4⟩ ⟨hk,⟨h6,h7⟩,h8,hp4⟩;simp only at hk h6 h7 h8 hp4;have hlen4:=hp4.length_eq;refine aG (λh9=>?_) λh9=>aD ⟨⟨h6,h7⟩,hp4⟩;rw [mR] at h9;simp only at h9 ⊢;rw [wrap64 (n:=a+bs) (by omega),wrap64 (n:=b+2*bs) (by omega)];refine aB (pd fuel d4 a (a+bs) b (by have:fuel=2^70:=rfl;omega) h6 (by omega) (by omega) (by omega) (by omega)) λy hy=>aA λ_=>aD ⟨(d.length+2*bs-b).toNat,by omega,rfl,⟨by simp only;omega,h9⟩,rfl,hy.trans hp4⟩
 rintro ⟨a,d4⟩ ⟨⟨h6,h7⟩,hp4⟩;simp only at h6 h7 hp4 ⊢;have hlen4:=hp4.length_eq;rw [wrap64 (n:=a+bs) (by omega)];refine aG (λh9=>?_) λh9=>aD ⟨(d.length-bs*2).toNat,by omega,rfl,⟨by simp only;omega,by simp only;omega⟩,hp4⟩;rw [gI] at h9;exact aB (pd fuel d4 a (a+bs) d.length (by have:fuel=2^70:=rfl;omega) h6 (by omega) h9 (by omega) (by omega)) λy hy=>aA λ_=>aD ⟨(d.length-bs*2).toNat,by omega,rfl,⟨by simp only;omega,by simp only;omega⟩,hy.trans hp4⟩
theorem xe(d:nJ)(hl:d.length < 2^50):(R.aU d ()).sat λy=>y.2.Perm d:=by
 unfold R.aU;exact aA λ_=>aB (Dx d hl) λy hy=>aA λ_=>aD hy
theorem Fk{h:qn}{i:Int}{c:ja}(h0:0<=i)(hc:h.2[i.toNat]?=some c)(hl:c.2.2.1.length<=2^39):(R.fT h i).sat λl=>l.length=c.2.2.1.length:=by
 unfold R.fT;refine aA λ_=>jn (λc' _ hc'=>fb rfl (kE h0 hc ?_)) λhn=>absurd ⟨h0,(List.getElem?_eq_some_iff.1 hc).1⟩ hn;refine aB (fP (Q:=λx:nJ×nJ=>x.1.length+x.2.length=c.2.2.1.length) (λx=>x.2.2) c.2.2.1.length (by omega) (λx=>x.1.length+x.2.1.length=x.2.2.toNat) (by simp) (by simp) (by simp) λx x0 x1 xI=>?_) λx hx=>?_
 ·obtain ⟨p,q,j⟩:=x;have x0:0<=j:=x0;have x1:j<=(c.2.2.1.length:Int):=x1;have xI:p.length+q.length=j.toNat:=xI;refine dt (λhj=>?_) λhj=>aD ?_
  ·have hj:j < (c.2.2.1.length:Int):=hj;refine bM x0 (by show _ < c.2.2.1.length;omega) λe he _=>mQ (aA λ_=>q_b λ_=>aA λ_=>aG (λ_=>ax (decide_eq_true ?_) (aD ⟨rfl,hj,?_⟩)) λ_=>ax (decide_eq_true ?_) (aD ⟨rfl,hj,?_⟩))
   ·show (p.length+1)*24<=2^47;omega
   ·show (p++[_]).length+q.length=(w6 (j+1)).toNat;rw [wrap64 (by omega),List.length_append];simp;omega
   ·show (q.length+1)*24<=2^47;omega
   ·show p.length+(q++[_]).length=(w6 (j+1)).toNat;rw [wrap64 (by omega),List.length_append];simp;omega
  ·have hj:(c.2.2.1.length:Int)<=j:=hj;show p.length+q.length=c.2.2.1.length;omega
 ·obtain ⟨p,q⟩:=x;have hx:p.length+q.length=c.2.2.1.length:=hx;refine aB (xe p (by omega)) λy hy=>aA λ_=>?_;have hleny:=hy.length_eq;refine ax (decide_eq_true ?_) (aD ?_)
  ·show (y.2.length+q.length)*24<=2^47;omega
  ·show (y.2++q).length=_;rw [List.length_append];omega
end Go.Mach

