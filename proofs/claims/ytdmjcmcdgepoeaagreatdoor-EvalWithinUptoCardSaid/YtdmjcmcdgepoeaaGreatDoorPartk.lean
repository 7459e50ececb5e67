/-
  Proved here: the law renlaw12.EvalWithin returns true for every input of the stated bulk and leaves its arguments as they were; no further condition.
  By an AI agent; no person has read it.
-/
import Derived.Test.YtdmjcmcdgepoeaaGreatDoorPartj
import Derived.Lib.ItoaLen
set_option linter.all false
set_option linter.deprecated false


set_option maxRecDepth 100000
namespace Go.Mach
open Res
theorem dw0 {P:Prop}(h:P:=by repeat' (first|with_reducible (first|apply Safe.g'|apply Safe.br'|apply Safe.bd'|apply Safe.sm'|intro _|infer_instance))):P:=h
theorem dw1 {P:Prop}(h:P:=by repeat' (first|with_reducible (first|refine aD ?_|refine aA fun _=>?_|refine dx ?_|refine er (fun _=>?_) fun _=>?_|refine lb (fun _=>?_) fun _=>?_|refine bI (fun _=>?_) fun _=>?_|refine gn rfl ?_|refine hJ rfl ?_|refine aI (fun _=>?_) fun _=>?_|refine pV ?_|refine yW ?_|refine tX ?_|refine q_e ?_|refine q_p fun _ _=>?_|refine q_b fun _=>?_|refine bR ?_ ?_ fun _ _ _=>?_|refine bn ?_ ?_ fun _ _ _=>?_|refine gG ?_|refine aB (dV ?_) fun _ _=>?_|refine iL ?_ ?_|refine nr ?_ ?_|refine sf ?_ ?_|refine n_d ?_ ?_|refine tH (fun _=>?_) fun _=>?_|exact safe|refine fJ ?_)|exact trivial|dsimp only [Nx,Dn]|with_reducible (first|rfl|refine And.intro ?_ ?_|intro _|contradiction)|omega|refine bG (by decide) ?_|(simp (disch:=omega) only [wrap64,gp,kX,List.length_append,List.length_cons,List.length_nil,List.length_take,List.length_drop,List.length_set,List.length_replicate,List.length_reverse]<;>omega)|(simp (disch:=omega) only [wrap64,gp,kX,List.length_append,List.length_cons,List.length_nil,List.length_take,List.length_drop,List.length_set,List.length_replicate,List.length_reverse] at*<;> omega)|exact Int.tmod_nonneg _ (by omega)|(simp_all [iT,nB,mU,nk]<;>omega))):P:=h
theorem dw2 {P:Prop}(h:P:=by repeat' (first|with_reducible (first|refine aD ?_|refine aA fun _=>?_|refine dx ?_|refine er (fun _=>?_) fun _=>?_|refine lb (fun _=>?_) fun _=>?_|refine bI (fun _=>?_) fun _=>?_|refine gn rfl ?_|refine hJ rfl ?_|refine aI (fun _=>?_) fun _=>?_|refine pV ?_|refine yW ?_|refine tX ?_|refine q_e ?_|refine q_p fun _ _=>?_|refine q_b fun _=>?_|refine bR ?_ ?_ fun _ _ _=>?_|refine bn ?_ ?_ fun _ _ _=>?_|refine gG ?_|refine aB (dV ?_) fun _ _=>?_|refine aB (oC ?_ ?_) fun _ _=>?_|refine aB (qT ?_ ?_) fun _ _=>?_|refine aB (qb ?_ ?_) fun _ _=>?_|refine aB (sQ ?_) fun _ _=>?_|refine aB (wh ?_ ?_) fun _ _=>?_|refine iL ?_ ?_|refine nr ?_ ?_|refine sf ?_ ?_|refine n_d ?_ ?_|refine tH (fun _=>?_) fun _=>?_|exact safe|refine fJ ?_)|exact trivial|dsimp only [Nx,Dn]|with_reducible (first|rfl|refine And.intro ?_ ?_|intro _|contradiction)|omega|refine bG (by decide) ?_|(simp (disch:=omega) only [wrap64,gp,kX,List.length_append,List.length_cons,List.length_nil,List.length_take,List.length_drop,List.length_set,List.length_replicate,List.length_reverse]<;>omega)|(simp (disch:=omega) only [wrap64,gp,kX,List.length_append,List.length_cons,List.length_nil,List.length_take,List.length_drop,List.length_set,List.length_replicate,List.length_reverse] at*<;> omega)|exact Int.tmod_nonneg _ (by omega)|(simp_all [iT,nB,mU,nk]<;>omega))):P:=h
theorem dw3 {P:Prop}(h:P:=by repeat' (first|with_reducible (first|refine aD ?_|refine aA fun _=>?_|refine dx ?_|refine er (fun _=>?_) fun _=>?_|refine lb (fun _=>?_) fun _=>?_|refine bI (fun _=>?_) fun _=>?_|refine gn rfl ?_|refine hJ rfl ?_|refine aI (fun _=>?_) fun _=>?_|refine pV ?_|refine yW ?_|refine tX ?_|refine q_e ?_|refine q_p fun _ _=>?_|refine q_b fun _=>?_|refine bR ?_ ?_ fun _ _ _=>?_|refine bn ?_ ?_ fun _ _ _=>?_|refine gG ?_|refine aB (dV ?_) fun _ _=>?_|refine aB (oC ?_ ?_) fun _ _=>?_|refine iL ?_ ?_|refine nr ?_ ?_|refine sf ?_ ?_|refine n_d ?_ ?_|refine tH (fun _=>?_) fun _=>?_|exact safe|refine fJ ?_)|exact trivial|dsimp only [Nx,Dn]|with_reducible (first|rfl|refine And.intro ?_ ?_|intro _|contradiction)|omega|refine bG (by decide) ?_|(simp (disch:=omega) only [wrap64,gp,kX,List.length_append,List.length_cons,List.length_nil,List.length_take,List.length_drop,List.length_set,List.length_replicate,List.length_reverse]<;>omega)|(simp (disch:=omega) only [wrap64,gp,kX,List.length_append,List.length_cons,List.length_nil,List.length_take,List.length_drop,List.length_set,List.length_replicate,List.length_reverse] at*<;> omega)|exact Int.tmod_nonneg _ (by omega)|(simp_all [iT,nB,mU,nk]<;>omega))):P:=h
theorem dw4 {P:Prop}(h:P:=by repeat' (first|with_reducible (first|refine aD ?_|refine aA fun _=>?_|refine dx ?_|refine er (fun _=>?_) fun _=>?_|refine lb (fun _=>?_) fun _=>?_|refine bI (fun _=>?_) fun _=>?_|refine gn rfl ?_|refine hJ rfl ?_|refine aI (fun _=>?_) fun _=>?_|refine pV ?_|refine yW ?_|refine tX ?_|refine q_e ?_|refine q_p fun _ _=>?_|refine q_b fun _=>?_|refine bR ?_ ?_ fun _ _ _=>?_|refine bn ?_ ?_ fun _ _ _=>?_|refine gG ?_|refine aB (dV ?_) fun _ _=>?_|refine aB (oC ?_ ?_) fun _ _=>?_|refine aB (qT ?_ ?_) fun _ _=>?_|refine aB (qb ?_ ?_) fun _ _=>?_|refine iL ?_ ?_|refine nr ?_ ?_|refine sf ?_ ?_|refine n_d ?_ ?_|refine tH (fun _=>?_) fun _=>?_|exact safe|refine fJ ?_)|exact trivial|dsimp only [Nx,Dn]|with_reducible (first|rfl|refine And.intro ?_ ?_|intro _|contradiction)|omega|refine bG (by decide) ?_|(simp (disch:=omega) only [wrap64,gp,kX,List.length_append,List.length_cons,List.length_nil,List.length_take,List.length_drop,List.length_set,List.length_replicate,List.length_reverse]<;>omega)|(simp (disch:=omega) only [wrap64,gp,kX,List.length_append,List.length_cons,List.length_nil,List.length_take,List.length_drop,List.length_set,List.length_replicate,List.length_reverse] at*<;> omega)|exact Int.tmod_nonneg _ (by omega)|(simp_all [iT,nB,mU,nk]<;>omega))):P:=h
theorem dw5 {P:Prop}(h:P:=by repeat' (first|with_reducible (first|refine aD ?_|refine aA fun _=>?_|refine dx ?_|refine er (fun _=>?_) fun _=>?_|refine lb (fun _=>?_) fun _=>?_|refine bI (fun _=>?_) fun _=>?_|refine gn rfl ?_|refine hJ rfl ?_|refine aI (fun _=>?_) fun _=>?_|refine pV ?_|refine yW ?_|refine tX ?_|refine q_e ?_|refine q_p fun _ _=>?_|refine q_b fun _=>?_|refine bR ?_ ?_ fun _ _ _=>?_|refine bn ?_ ?_ fun _ _ _=>?_|refine gG ?_|refine iL ?_ ?_|refine nr ?_ ?_|refine sf ?_ ?_|refine n_d ?_ ?_|refine tH (fun _=>?_) fun _=>?_|exact safe|refine fJ ?_)|exact trivial|dsimp only [Nx,Dn]|with_reducible (first|rfl|refine And.intro ?_ ?_|intro _|contradiction)|omega|refine bG (by decide) ?_|(simp (disch:=omega) only [wrap64,gp,kX,List.length_append,List.length_cons,List.length_nil,List.length_take,List.length_drop,List.length_set,List.length_replicate,List.length_reverse]<;>omega)|(simp (disch:=omega) only [wrap64,gp,kX,List.length_append,List.length_cons,List.length_nil,List.length_take,List.length_drop,List.length_set,List.length_replicate,List.length_reverse] at*<;> omega)|exact Int.tmod_nonneg _ (by omega)|(simp_all [iT,nB,mU,nk]<;>omega))):P:=h
instance (n):Safe (rU n):=⟨trivial⟩
instance (n):Safe (ph n):=by unfold ph;split<;>exact ⟨trivial⟩
instance (n c):Safe (ixbRun n c):=⟨trivial⟩
instance FQ {a}:Safe (R.jk a):=by
 unfold R.jk
 refine ⟨aA fun h=>?_⟩
 simp only [Sg.i,oks,Sh.ok,Ty.ok,List.map,Par.v,Bool.and_eq_true] at h
 have:=nh h
 have hn:(lT a).length=a.length:=by simp [lT]
 refine aB (mI (fun i=>i) a.length (by omega) (by omega) (by omega) fun i h0 h1=>?_).ok fun x _=>?_
 ·exact dw5
 ·cases a with
  |nil=>cases x<;>exact trivial
  |cons=>rw [List.length_cons] at hn;exact dw5
instance FM {a}:lz (R.iD a) (fun r=>r.length<=a.length):=by
 unfold R.iD
 refine ⟨aA fun h=>?_⟩
 simp only [Sg.i,oks,Sh.ok,Ty.ok,List.map,Par.v,Bool.and_eq_true] at h
 have:=xw h
 refine aB (kn (fun m=>m.length) (by omega) (fun m=>m.length<=a.length) (Nat.le_refl _) fun m hm=>?_) fun x hx=>hx
 exact dw5
instance Gy {a}:lz (R.fk a) (fun r=>r.length<=a.length):=by
 unfold R.fk
 refine ⟨aA fun h=>?_⟩
 simp only [Sg.i,oks,Sh.ok,Ty.ok,List.map,Par.v,Bool.and_eq_true] at h
 have:=la h
 refine aB (kn (fun m=>m.length) (by omega) (fun m=>m.length<=a.length) (Nat.le_refl _) fun m hm=>?_) fun x hx=>hx
 exact dw5
instance HD {a b}:lz (R.dQ a b) (fun r=>r.2.length<=a.length):=by
 unfold R.dQ
 refine ⟨?_⟩
 exact dw5
instance Gq {a}:lz (R.kK a) (fun r=>r.1.2.length<=8):=by
 unfold R.kK
 refine ⟨aA fun h=>?_⟩
 simp only [Sg.i,oks,Sh.ok,Ty.ok,List.map,Par.v,Bool.and_eq_true] at h
 have:=nh h
 have hn (a:List UInt8):List.length (α:=(Ty.int IntKind.u8).den) (lT a)=a.length:=by simp [lT]
 have hn1:=hn a
 refine aB (R:=fun d:List UInt8×Bool=>d.1=a/\(d.2=true->0 < a.length)) ?_ fun d ⟨hd,hd2⟩=>aB (R:=fun d:List UInt8=>d.length<=a.length) ?_ fun t ht=>?_
 ·refine er (fun h0=>bn (by omega) (by omega) fun _ _ _=>aD ⟨rfl,fun _=>by omega⟩) fun _=>aD ⟨rfl,fun h=>by cases h⟩
 ·refine aI (fun h=>?_) fun _=>aD (by rw [hd];exact Nat.le_refl _)
  have:=hd2 h
  exact gG (iL (by omega) (iL (by omega) (aD (by simp))))
 ·have hn2:=hn t
  refine aB (R:=fun _=>True) (by exact dw5) fun _ _=>aI (fun _=>aD (by simp)) fun _=>?_
  refine aB (iA (Q:=fun m:List Int ⊕ (Int×ax.den)=>match m with|.inl m=>m.length<=8|.inr m=>m.2.2.length<=8) (fun i=>i.2) t.length (by omega) (fun x=>x.1.length<=8) (by simp) (by simp) (by simp) fun i h0 h1 hI=>er (fun hi=>bn (by omega) (by omega) fun _ _ _=>aB (iA (Q:=fun r=>r.2.length=i.1.length) (fun i=>i.2.1) i.1.length (by omega) (fun x=>x.2.2.length=i.1.length) (by simp) (by simp) (by simp) fun k k0 k1 hK=>?_) fun m hm=>?_) fun _=>?_) fun x hx=>?_
  ·exact dw5
  ·exact dw5
  ·exact aD hI
  ·cases x with
   |inl m=>exact jf (by have h8:List.length m<=8:=hx;exact dw5)
   |inr m=>exact jd (aD hx)
theorem dV {a}(hl:List.length a<=2^40):(R.ai a).sat (fun r=>r.length=a.length):=by
 unfold R.ai
 refine aA fun h=>?_
 have hn:List.length (α:=(Ty.int IntKind.u8).den) (lT a)=a.length:=by simp [lT]
 refine aB (iA (Q:=fun r=>r.length=a.length) (fun i=>i.2) a.length (by omega) (fun x=>x.1.length=x.2.toNat) (by simp) (by simp) (by simp) fun i h0 h1 hI=>?_) fun x hx=>?_<;>exact dw1
instance Fh {x_0}:Safe (R.jT x_0):=by unfold R.jT;exact dw0
instance FO {x_0}:Safe (R.gT x_0):=by unfold R.gT;exact dw0
instance yV {a b}:Safe (R.cn a b):=by
 unfold R.cn
 refine ⟨aA fun h=>?_⟩
 simp only [Sg.i,oks,Sh.ok,Ty.ok,List.map,Par.v,Bool.and_eq_true] at h
 have:=la h.1
 refine aB (mI (fun i=>i) a.length (by omega) (by omega) (by omega) fun i h0 h1=>?_).ok fun x _=>?_<;>exact dw1
instance wV {s_0 v_1}:Safe (R.cU s_0 v_1):=by unfold R.cU;exact dw0
instance Di {a}:Safe (R.iG a):=by
 unfold R.iG
 refine ⟨aA fun h=>?_⟩
 simp only [Sg.i,oks,Sh.ok,Ty.ok,List.map,Par.v,Bool.and_eq_true] at h
 have:=la h
 refine aB (mI (fun i=>i.2) a.length (by omega) (by omega) (by simp) fun i h0 h1=>?_).ok fun x _=>?_<;>exact dw1
instance xj {a b}:Safe (R.cc a b):=by
 unfold R.cc
 refine ⟨aA fun h=>?_⟩
 simp only [Sg.i,oks,Sh.ok,Ty.ok,List.map,Par.v,Bool.and_eq_true] at h
 have:=la h.1
 refine dx (bI (fun _=>?_) fun _=>?_)<;>try exact aD trivial
 refine aB (mI (fun i=>i) a.length (by omega) (by omega) (by omega) fun i h0 h1=>?_).ok fun x _=>?_<;>exact dw1
instance Fz {a_0 b_1}:Safe (R.gf a_0 b_1):=by unfold R.gf;exact dw0
instance DF {x_0}:Safe (R.gW x_0):=by unfold R.gW;exact dw0
instance qp {a b}:Safe (R.aq a b):=by
 unfold R.aq
 refine ⟨aA fun h=>?_⟩
 simp only [Sg.i,oks,Sh.ok,Ty.ok,List.map,Par.v,Bool.and_eq_true] at h
 have:=la h.1
 refine aB (mI (fun i=>i) a.length (by omega) (by omega) (by omega) fun i h0 h1=>?_).ok fun x _=>?_<;>exact dw1
instance pk {s_0 f_1}:Safe (R.ak s_0 f_1):=by unfold R.ak;exact dw0
instance FI {a}:Safe (R.jN a):=by
 unfold R.jN
 refine ⟨aA fun h=>?_⟩
 simp only [Sg.i,oks,Sh.ok,Ty.ok,List.map,Par.v,Bool.and_eq_true] at h
 have:=la h
 refine aB (mI (fun i=>i.2) a.length (by omega) (by omega) (by simp) fun i h0 h1=>?_).ok fun x _=>?_<;>exact dw1
instance HS {a_0}:Safe (R.kW a_0):=by unfold R.kW;exact dw0
instance HJ:Safe (R.dv):=by unfold R.dv;exact dw0
instance CY {a}:lz (R.da a) (fun r:Int×Int=>(r.1=0->-9007199254740991<=r.2/\r.2<=9007199254740991)/\(r.1≠0->1<=r.1/\r.1<=4/\r.2=0)):=⟨by
 unfold R.da R.kW R.dv
 refine aA fun _=>fJ (aA fun _=>bI (fun _=>lb (fun _=>?_) fun _=>?_) fun _=>aB (R:=fun x=>x=true->1<=a.1/\a.1<=4) (by exact dw1) fun _ _=>?_)
 ·refine aD (dx (lb (fun _=>aD ?_) fun _=>fJ (aA fun _=>aD (aA fun _=>aD ?_))))<;>constructor<;>intro _<;>simp_all
 ·refine aD (dx (hJ rfl (fJ (aA fun _=>aD (aA fun _=>aD ?_)))));simp
 ·refine aI (fun hx=>aD (dx (bI (fun _=>aD ?_) fun _=>fJ (aA fun _=>aD (aA fun _=>aD ?_))))) fun _=>aD (dx (hJ rfl (fJ (aA fun _=>aD (aA fun _=>aD ?_)))))<;>simp_all⟩
instance HN {neg_0}:Safe (R.i6 neg_0):=by unfold R.i6;exact dw0
instance Gn {n_0}:Safe (R.cK n_0):=by unfold R.cK;exact dw0
instance Fj {neg_0}:Safe (R.eh neg_0):=by unfold R.eh;exact dw0
instance HO {a_0}:Safe (R.kZ a_0):=by unfold R.kZ;exact dw0
instance En {a}:Safe (R.gK a):=by
 unfold R.gK
 refine ⟨aA fun h=>?_⟩
 simp only [Sg.i,oks,Sh.ok,Ty.ok,List.map,Par.v,Bool.and_eq_true] at h
 have:=la h
 refine aB (kn (Q:=fun m=>m.length<=a.length) (fun m=>m.length) (by omega) (fun m=>m.length<=a.length) (Nat.le_refl _) fun m hm=>?_) fun u hu=>aB (kn (Q:=fun m=>m.length<=a.length) (fun m=>m.length) (by omega) (fun m=>m.length<=a.length) hu fun m hm=>?_) fun x hx=>bI (fun _=>aD trivial) fun hne=>bR (by omega) (by omega) fun e he _=>?_
 ·exact dw1
 ·exact dw1
 ·refine aB (R:=fun _=>True) (by exact dw1) fun _ _=>?_
  exact dw1
instance FT {a}:Safe (R.eA a):=by
 unfold R.eA
 refine ⟨aA fun h=>?_⟩
 simp only [Sg.i,oks,Sh.ok,Ty.ok,List.map,Par.v,Bool.and_eq_true] at h
 have:=uA h
 simp only [Sh.jv,Ty.jv,IntKind.jv] at this
 refine aB (iA (Q:=fun _=>True) (fun i=>i.2) a.length (by omega) (fun x=>x.1.length=x.2.toNat) (by simp) (by simp) (by simp) fun i h0 h1 hI=>?_) fun x hx=>?_<;>exact dw1
instance yS {a b}:Safe (R.bQ a b):=by
 unfold R.bQ
 refine ⟨aA fun h=>?_⟩
 simp only [Sg.i,oks,Sh.ok,Ty.ok,List.map,Par.v,Bool.and_eq_true] at h
 have:=la h.1
 refine aB (mI (fun i=>i) a.length (by omega) (by omega) (by omega) fun i h0 h1=>?_).ok fun x _=>?_<;>exact dw1
instance wX {s_0 v_1}:Safe (R.aQ s_0 v_1):=by unfold R.aQ;exact dw0
instance HA {a}:lz (R.lC a) (fun r=>r.length<=4096):=by
 unfold R.lC
 refine ⟨aA fun _=>q_p fun (x:Int×Int) hx=>aA fun _=>bI (fun _=>aD (by simp)) fun _=>bI (fun _=>aD (by simp)) fun _=>bI (fun _=>aD (by simp)) fun _=>aY (a:=Lib.itoa x.2) rfl (aA fun _=>aD ?_)⟩
 have h:-9223372036854775808<=x.2/\x.2<=9223372036854775807:=by
  have h3:=hx
  by_cases h0:x.1=0
  ·have:=h3.1 h0;omega
  ·have:=h3.2 h0;omega
 exact Nat.le_trans (Lib.itoa_length_le x.2 h.1 h.2) (by decide)
instance HR {a}:lz (R.jy a) (fun r=>r=true->(a.2.length:Int)<=8):=by
 unfold R.jy
 refine ⟨aA fun h=>?_⟩
 simp only [Sg.i,oks,Sh.ok,Ty.ok,List.map,Par.v,Bool.and_eq_true] at h
 exact dw1
instance HC {a_0}:Safe (R.b8 a_0):=by unfold R.b8;exact dw0
instance Gx {b_0}:Safe (R.dB b_0):=by unfold R.dB;exact dw0
instance F6 {a}:lz (R.ia a) (fun r=>r=true->(a.2.2.1.2.length:Int)=0/\(a.2.2.2.1.length:Int)=0):=by
 unfold R.ia
 refine ⟨?_⟩
 exact dw1
instance Gz {a}:lz (R.lW a) (fun r=>r=true->(a.2.2.1.2.length:Int)<=8/\(a.2.2.2.1.length:Int)<=4096):=by
 unfold R.lW
 refine ⟨?_⟩
 exact dw1
instance FX {a}:lz (R.bl a) (fun r=>(r.2.2.1.2.length:Int)<=8/\(r.2.2.2.1.length:Int)<=4096):=by
 unfold R.bl
 refine ⟨aA fun _=>q_p fun b hb=>dx (aI (fun h=>aD (hb h)) fun _=>aD (by simp))⟩
instance Fq {a}:y9 (R.eH a) (a.1 == 2):=⟨aA fun _=>aD rfl⟩
instance HE {a_0}:Safe (R.iH a_0):=by unfold R.iH;exact dw0
instance Gf {a_0 b_1}:Safe (R.iN a_0 b_1):=by unfold R.iN;exact dw0
instance Gu {v_0}:Safe (R.fa v_0):=by unfold R.fa;exact dw0
instance Eg {v_0}:Safe (R.bP v_0):=by unfold R.bP;exact dw0
instance G4 {b_0}:Safe (R.j8 b_0):=by unfold R.j8;exact dw0
instance Dj {v_0}:Safe (R.bx v_0):=by unfold R.bx;exact dw0
instance HW {a}:lz (R.cf a) (fun r=>r.length<=8):=by
 unfold R.cf
 refine ⟨aA fun _=>q_p fun b hb=>dx (aI (fun h=>fJ (aD (aA fun _=>aD ?_))) fun _=>aD (by simp))⟩
 have:=hb h
 show List.length a.2<=8
 omega
instance HQ {a_0}:Safe (R.fg a_0):=by unfold R.fg;exact dw0
instance HK {a_0}:Safe (R.kU a_0):=by unfold R.kU;exact dw0
instance Fa {a}:lz (R.gR a) (fun r=>0<=r/\r < 4294967296):=⟨by
 unfold R.gR
 refine aA fun _=>q_p fun x hx=>aA fun _=>dx (bI (fun _=>aD ?_) fun _=>aD ?_)
 ·have:=wrap_u32 x.2
  rw [wrap64 (by omega)];omega
 ·omega⟩
instance Gi {a_0}:Safe (R.jc a_0):=by unfold R.jc;exact dw0
instance Hc {op_0 a_1 b_2}:Safe (R.lN op_0 a_1 b_2):=by
 unfold R.lN
 refine ⟨?_⟩
 exact dw1
theorem re {a:List Int}:(R.bc a).sat (fun r=>List.length r.2=a.length):=by
 unfold R.bc
 refine aA fun h=>?_
 simp only [Sg.i,oks,Sh.ok,Ty.ok,List.map,Par.v,Bool.and_eq_true] at h
 have:=la h
 rw [wrap64 (by omega)]
 refine aB (kn (Q:=fun r=>r.length=a.length) (fun i=>(i.2.1-i.1+1).toNat) (by simp;omega) (fun i=>0<=i.1/\i.1<=i.2.1+1/\i.2.1 < a.length/\i.2.2.length=a.length) (by simp<;>omega) fun i ⟨i1,i2,i3,i4⟩=>?_) fun x hx=>?_<;>exact dw1
instance yT {a}:Safe (R.bc a):=⟨bH re fun _ _=>trivial⟩
theorem vh (l:List Int):(rR l).length=l.length:=by simp [rR]
theorem wrap_u64 (n:Int):0<=IntKind.wrap .u64 n/\IntKind.wrap .u64 n < 18446744073709551616:=by
 simp [IntKind.wrap,IntKind.signed,IntKind.bits]
 omega
theorem or_zero {x:Int}(h0:0<=x) (h1:x < 4294967296):fm .or .u64 (nf .u64 0 32) (IntKind.wrap .u64 x)=x:=by
 have e1:nf .u64 0 32=0:=by simp [nf,IntKind.wrap,IntKind.signed,IntKind.bits]
 have e2:IntKind.wrap .u64 x=x:=by simp [IntKind.wrap,IntKind.signed,IntKind.bits];omega
 rw [e1,e2]
 unfold fm
 have e3:BitVec.ofInt IntKind.u64.bits 0=0#64:=rfl
 simp only [e3]
 show IntKind.wrap .u64 ((0#64 ||| BitVec.ofInt 64 x).toNat:Int)=x
 rw [BitVec.zero_or,BitVec.toNat_ofInt]
 simp [IntKind.wrap,IntKind.signed,IntKind.bits]
 omega
theorem tenth {x:Int}(h0:0<=x) (h1:x < 4294967296):IntKind.wrap .u32 (IntKind.wrap .u64 (Int.tdiv x 10))=x / 10:=by
 rw [Int.tdiv_eq_ediv_of_nonneg h0]
 simp [IntKind.wrap,IntKind.signed,IntKind.bits]
 omega
def va (m:List Int):Prop:=∀ e:Int,m[m.length-1]?=some e->e≠0
theorem uI {m:List Int}(h:(m.length:Int)<=0):va m:=fun e he=>by
 have:m=[]:=List.length_eq_zero_iff.1 (by omega)
 subst this;cases he
theorem A4 {a:List Int}:(R.fk a).sat (fun r:List Int=>r.length<=a.length/\r=a.take r.length/\va r):=by
 unfold R.fk
 refine aA fun h=>?_
 simp only [Sg.i,oks,Sh.ok,Ty.ok,List.map,Par.v,Bool.and_eq_true] at h
 have:=la h
 refine aB (kn (Q:=fun m:List Int=>m.length<=a.length/\m=a.take m.length/\va m) (fun m=>m.length) (by omega) (fun m=>m.length<=a.length/\m=a.take m.length) ⟨Nat.le_refl _,by simp⟩ fun m ⟨hm,ht⟩=>?_) fun x hx=>aD hx
 refine fJ (er (fun h0=>?_) fun h0=>aD (hJ rfl (aD ⟨hm,ht,uI h0⟩)))
 have hw:IntKind.wrap .i64 ((m.length:Int)-1)=(m.length:Int)-1:=wrap64 (by omega)
 have hn:((m.length:Int)-1).toNat=m.length-1:=by omega
 rw [hw]
 refine gG (iL (by omega) (nr (by omega) (bn (by omega) (by omega) fun (e:Int) he _=>aD (bI (fun h=>?_) fun h=>aD ⟨hm,ht,?_⟩))))
 ·refine gG (iL (by omega) (iL (by omega) (aD ⟨?_,?_,?_⟩)))
  ·simp only [List.length_take,List.length_drop];omega
  ·simp only [List.length_take,List.length_drop];omega
  ·rw [List.drop_zero,hn,List.length_take,Nat.min_eq_left (by omega)]
   have:List.take (m.length-1) m=List.take (m.length-1) (List.take m.length a):=by rw [<- ht]
   rw [this,List.take_take,Nat.min_eq_left (by omega)]
 ·intro e' he'
  rw [idx0,hn,he'] at he
  cases he
  exact h
theorem Cu {a}:(R.jy a).sat (fun r=>r=true->(a.2.length:Int)<=8/\va a.2):=by
 unfold R.jy
 refine aA fun h=>lb (fun h8=>?_) fun _=>aD (by simp)
 have hw (h:0 < (a.2.length:Int)):IntKind.wrap .i64 ((a.2.length:Int)-1)=(a.2.length:Int)-1:=wrap64 (by omega)
 have hn (h:0 < (a.2.length:Int)):((a.2.length:Int)-1).toNat=a.2.length-1:=by omega
 have hk:(Res.br (ilt 0 (a.2.length:Int)) (Res.dC .w a.2 (IntKind.wrap .i64 ((a.2.length:Int)-1)) fun e2=>Res.ok ((!(e2 == 0)))) (Res.ok (false))).sat (fun r=>r=true->(a.2.length:Int)<=8/\va a.2):=by
  refine er (fun h0=>?_) fun _=>aD (by simp)
  rw [hw h0]
  refine bR (by omega) (by omega) fun (e:Int) he _=>aD fun hr=>⟨h8,fun e' he'=>?_⟩
  rw [hn h0,he'] at he
  cases he
  simpa using hr
 exact bI (fun h0=>dx (aI (fun _=>hk) fun _=>aD fun _=>⟨h8,uI (by omega)⟩)) fun _=>hk
theorem Cm {a}:(R.cf a).sat (fun r:List Int=>r.length<=8/\va r):=by
 unfold R.cf
 refine aA fun _=>aB Cu fun b hb=>dx (aI (fun h=>fJ (aD (aA fun _=>aD ?_))) fun _=>aD ⟨by simp,uI (by simp)⟩)
 have:=hb h
 exact ⟨by show List.length a.2<=8;omega,this.2⟩
def dgF:Nat->Nat->Nat
 |0,_=>0
 |k+1,e=>if e=0 then 0 else 1+dgF k (e / 10)
def dg (e:Nat):Nat:=dgF 10 e
theorem Eh:∀ k e:Nat,dgF k e<=k
 |0,_=>Nat.le_refl 0
 |k+1,e=>by
  have:=Eh k (e / 10)
  show (if e=0 then 0 else 1+dgF k (e / 10))<=k+1
  split<;>omega
theorem dg_le (e:Nat):dg e<=10:=Eh 10 e
theorem D2:∀ k e:Nat,e < 10^k->dgF (k+1) e=dgF k e
 |0,e,h=>by
  have:e=0:=by simpa using h
  subst this
  rfl
 |k+1,e,h=>by
  show (if e=0 then 0 else 1+dgF (k+1) (e / 10))=(if e=0 then 0 else 1+dgF k (e / 10))
  rw [D2 k (e / 10) (by rw [Nat.pow_succ] at h;omega)]
theorem dg_lt {e:Int}(h0:0 < e) (h1:e < 4294967296):dg (e / 10).toNat < dg e.toNat:=by
 have h2:(e / 10).toNat=e.toNat / 10:=by omega
 have h3:0 < e.toNat/\e.toNat < 4294967296:=by omega
 rw [h2]
 generalize e.toNat=n at h3
 unfold dg
 rw [D2 9 (n / 10) (by show n / 10 < 1000000000;omega)]
 show dgF 9 (n / 10) < if n=0 then 0 else 1+dgF 9 (n / 10)
 rw [if_neg (by omega)]
 omega
def mz (m:List Int):Nat:=match m[m.length-1]? with
 |some e=>m.length*11+dg e.toNat
 |none=>0
theorem mz_lt {r m:List Int}(h:r.length < m.length):mz r < mz m:=by
 unfold mz
 have hm:∃ e,m[m.length-1]?=some e:=⟨_,List.getElem?_eq_getElem (by omega)⟩
 obtain ⟨e,he⟩:=hm
 rw [he]
 cases r[r.length-1]? with
 |none=>simp only [];omega
 |some x=>have:=dg_le x.toNat;simp only [];omega
theorem mz_le {m:List Int}(h:m.length<=8):mz m<=98:=by
 unfold mz
 cases m[m.length-1]? with
 |none=>simp only [];omega
 |some x=>have:=dg_le x.toNat;simp only [];omega
theorem DG {e:Int}(h:(Ty.int IntKind.u32).ok e=true):0<=e/\e < 4294967296:=by
 simp [Ty.ok,ee,IntKind.wrap,IntKind.signed,IntKind.bits] at h
 omega
instance HG {a}:lz (R.kA a) (fun r=>r.length<=4096):=by
 unfold R.kA
 refine ⟨aA fun _=>aB Cm fun m ⟨hm,ht⟩=>aA fun _=>bI (fun _=>aD (by simp)) fun hne=>aB (R:=fun l:List Int=>l.length<=98) ?_ fun l hl=>q_b fun _=>aI (fun _=>?_) fun _=>?_⟩
 ·refine kn (fun s=>mz s.1) (Nat.le_trans (mz_le hm) (by decide)) (fun s=>s.1.length<=8/\va s.1/\s.2.length+mz s.1<=98) ⟨hm,ht,by have:=mz_le hm;simp;omega⟩ fun ⟨m,l⟩ ⟨h1,h2,h3⟩=>?_
  simp only at h1 h2 h3 ⊢
  refine er (fun hp=>?_) fun _=>aD (by show l.length<=98;omega)
  rw [wrap64 (by omega)]
  obtain ⟨top,htop⟩:∃ e,m[m.length-1]?=some e:=⟨_,List.getElem?_eq_getElem (by omega)⟩
  refine aB (R:=fun r:Int×List Int=>r.2.length=m.length/\r.2[m.length-1]?=some (top / 10)/\0<=top/\top < 4294967296) ?_ fun ⟨r,m'⟩ ⟨g1,g2,g3,g4⟩=>?_
  ·refine kn (fun s=>(s.2.1+1).toNat) (by simp;omega) (fun s=>-1<=s.2.1/\s.2.1 < m.length/\s.2.2.length=m.length/\(s.2.1=m.length-1->s.1=0/\s.2.2=m)/\(s.2.1 < m.length-1->s.2.2[m.length-1]?=some (top / 10)/\0<=top/\top < 4294967296)) ⟨by simp only;omega,by simp only;omega,rfl,fun _=>⟨rfl,rfl⟩,fun h=>by simp only at h;omega⟩ fun ⟨r,i,q⟩ ⟨i1,i2,i3,i4,i5⟩=>?_
   simp only at i1 i2 i3 i4 i5 ⊢
   refine lb (fun i0=>?_) fun i0=>aD ?_
   ·refine iL (by omega) (gG (iL (by omega) (nr (by omega) (bn (by omega) (by omega) fun (e:Int) he hok=>bG (by decide) (gG (iL (by omega) (nr (by omega) (bn (by omega) (by omega) fun _ _ _=>bG (by decide) (aD ?_)))))))))
    have hw:IntKind.wrap .i64 (i-1)=i-1:=wrap64 (by omega)
    have hix:(0+(i.toNat:Int)).toNat=i.toNat:=by omega
    rw [hix] at he
    have hr:=DG hok
    refine ⟨?_,?_,?_,?_,?_,?_⟩
    ·simp only [hw];omega
    ·simp only [hw];omega
    ·simp only [hw];omega
    ·simp only [List.length_set];exact i3
    ·simp only [hw];omega
    ·intro hlt
     simp only [hw] at hlt
     by_cases hi:i=m.length-1
     ·obtain ⟨e1,e2⟩:=i4 hi
      subst e1 e2
      have hin:i.toNat=q.length-1:=by omega
      rw [hin] at he
      rw [he] at htop
      cases htop
      refine ⟨?_,hr⟩
      simp only [or_zero hr.1 hr.2,tenth hr.1 hr.2]
      rw [show 0+i.toNat=q.length-1 by omega,List.getElem?_set_self (by omega)]
     ·obtain ⟨e1,e2⟩:=i5 (by omega)
      refine ⟨?_,e2⟩
      simp only
      rw [List.getElem?_set_ne (by omega)]
      exact e1
   ·have:=i5 (by omega)
    exact ⟨i3,this.1,this.2.1,this.2.2⟩
  ·simp only at g1 g2 ⊢
   refine n_d (by simp only [List.length_cons,List.length_nil];omega) (aB A4 fun s ⟨s1,s2,s3⟩=>aA fun _=>aD ?_)
   have hlt:mz s < mz m:=by
    by_cases hs:s.length=m.length
    ·have e:s=m':=by rw [s2,hs,<- g1,List.take_length]
     subst e
     unfold mz
     rw [hs,g2,htop]
     have:=dg_lt (e:=top) (by have:=h2 top htop;omega) g4
     simp only []
     omega
    ·exact mz_lt (by omega)
   exact ⟨hlt,by show s.length<=8;omega,s3,by simp only [List.length_append,List.length_cons,List.length_nil];omega⟩
 ·refine n_d (by simp only [List.length_cons,List.length_nil];omega) (aB re fun r hr=>aA fun _=>aD ?_)
  rw [vh,hr];simp;omega
 ·refine aB re fun r hr=>aA fun _=>aD ?_
  rw [vh,hr];omega
instance Fx {a}:lz (R.cm a) (fun r=>r.1.length<=4096):=by
 unfold R.cm
 refine ⟨?_⟩
 exact dw1
instance G5 {a}:Safe (R.eI a):=by
 unfold R.eI
 refine ⟨aA fun h=>?_⟩
 simp only [Sg.i,oks,Sh.ok,Ty.ok,List.map,Par.v,Bool.and_eq_true] at h
 have:=la h
 refine aB (R:=fun _=>True) (by exact dw1) fun x2 _=>aI (fun _=>trivial) fun _=>?_
 refine aB (mI (fun i=>i.2) a.length (by omega) (by omega) (by simp) fun i h0 h1=>?_).ok fun x _=>?_<;>exact dw1
instance GH {a}:lz (R.bN a) (fun r=>0<=r/\r<=8):=by
 unfold R.bN
 refine ⟨?_⟩
 exact dw1
instance FV {kind_0}:Safe (R.c7 kind_0):=by unfold R.c7;exact dw0
instance Fy {a b}:Safe (R.gg a b):=by
 unfold R.gg
 refine ⟨aA fun _=>aB (R:=fun c=>c=false->(b.length:Int)<=8) (by exact dw1) fun c hc=>aI (fun _=>aD trivial) fun hc'=>?_⟩
 have:=hc hc'
 refine aB (mI (fun i=>i.2) b.length (by omega) (by simp) (by simp) fun i h0 h1=>?_).ok fun x _=>?_<;>exact dw1
instance Dk {w_0 signed_1}:Safe (R.gi w_0 signed_1):=by
 unfold R.gi
 refine ⟨?_⟩
 exact dw1
instance FW {kind_0 w_1}:Safe (R.jQ kind_0 w_1):=by unfold R.jQ;exact dw0
instance HH {kind_0 w_1}:Safe (R.ef kind_0 w_1):=by
 unfold R.ef
 refine ⟨?_⟩
 exact dw1
instance FH {kind_0 w_1}:Safe (R.jL kind_0 w_1):=by unfold R.jL;exact dw0
instance sf_big_Of {n_0}:Safe (R.jl n_0):=by
 unfold R.jl
 refine ⟨?_⟩
 exact dw1
theorem oC {a b}(ha:List.length a<=2^40) (hb:List.length b<=2^40):(R.lG a b).sat (fun r=>(r.length:Int)=max (a.length:Int) b.length+1):=by
 unfold R.lG
 refine aA fun h=>?_
 rw [kX]
 refine aB (iA (Q:=fun r=>r.1.length=max a.length b.length) (fun i=>i.2.2) (max a.length b.length) (by omega) (fun x=>x.1.length=x.2.2.toNat) (by simp) (by simp<;>omega) (by simp) fun i h0 h1 hI=>?_) fun x hx=>?_<;>exact dw3
instance G3 {m_0 neg_1}:Safe (R.iq m_0 neg_1):=by unfold R.iq;exact dw0
instance Gw {n_0}:Safe (R.kc n_0):=by unfold R.kc;exact dw0
instance HU {a b}:Safe (R.jm a b):=by
 unfold R.jm
 refine ⟨aA fun h=>?_⟩
 simp only [Sg.i,oks,Sh.ok,Ty.ok,List.map,Par.v,Bool.and_eq_true] at h
 have:=la h.1
 refine dx (bI (fun _=>?_) fun _=>?_)
 ·rw [wrap64 (by omega)]
  refine aB (kn (Q:=fun _=>True) (fun i=>(i+1).toNat) (by omega) (fun i:Int=>-1<=i/\i < a.length) (by omega) fun i hi=>?_) fun x hx=>?_<;>exact dw3
 ·exact dw3
instance FZ {x_0 y_1 borrow_2}:Safe (R.jM x_0 y_1 borrow_2):=by
 unfold R.jM
 refine ⟨?_⟩
 exact dw3
instance G7 {a b}:lz (R.iU a b) (fun r=>r.length=a.length):=by
 unfold R.iU
 refine ⟨aA fun h=>?_⟩
 simp only [Sg.i,oks,Sh.ok,Ty.ok,List.map,Par.v,Bool.and_eq_true] at h
 have:=uA h.1
 simp only [Sh.jv,Ty.jv,IntKind.jv] at this
 refine aB (iA (Q:=fun r=>r.length=a.length) (fun i=>i.2.2) a.length (by omega) (fun x=>x.1.length=x.2.2.toNat) (by simp) (by simp) (by simp) fun i h0 h1 hI=>?_) fun x hx=>?_<;>exact dw3
instance HT {a_0 b_1}:Safe (R.kV a_0 b_1):=by
 unfold R.kV
 refine ⟨?_⟩
 exact dw3
instance Fu {a}:y9 (R.dk a) (a.1 == 3 || a.1 == 4):=⟨by unfold R.dk;refine aA fun _=>aI (fun h=>?_) fun h=>?_<;>exact aD (by simp [h])⟩
instance sf_num_Of {n_0}:Safe (R.mV n_0):=by unfold R.mV;exact dw0
instance HP {a_0 b_1}:Safe (R.kT a_0 b_1):=by unfold R.kT;exact dw0
instance FK {x_0}:Safe (R.jU x_0):=by unfold R.jU;exact dw0
instance Gc {a}:lz (R.kM a) (fun r=>r.length<=a.length):=by
 unfold R.kM
 refine ⟨aA fun h=>?_⟩
 simp only [Sg.i,oks,Sh.ok,Ty.ok,List.map,Par.v,Bool.and_eq_true] at h
 have:=xw h
 refine aB (kn (Q:=fun m=>m.length<=a.length) (fun m=>m.length) (by omega) (fun m=>m.length<=a.length) (Nat.le_refl _) fun m hm=>?_) fun u hu=>aB (kn (Q:=fun m=>m.length<=a.length) (fun m=>m.length) (by omega) (fun m=>m.length<=a.length) hu fun m hm=>?_) fun x hx=>hx<;>exact dw3
instance Fi {x_0}:Safe (R.iZ x_0):=by unfold R.iZ;exact dw0
instance E1 {a}:Safe (R.iv a):=by
 unfold R.iv
 refine ⟨aA fun h=>?_⟩
 simp only [Sg.i,oks,Sh.ok,Ty.ok,List.map,Par.v,Bool.and_eq_true] at h
 have:=la h
 refine aB (mI (fun i=>i) a.length (by omega) (by omega) (by omega) fun i h0 h1=>?_).ok fun x _=>?_<;>exact dw3
instance Df {a}:Safe (R.iI a):=by
 unfold R.iI
 refine ⟨aA fun h=>?_⟩
 simp only [Sg.i,oks,Sh.ok,Ty.ok,List.map,Par.v,Bool.and_eq_true] at h
 have:=la h
 refine aB (mI (fun i=>i.2) a.length (by omega) (by omega) (by simp) fun i h0 h1=>?_).ok fun x _=>?_
 ·refine er (fun _=>bR (by omega) (by omega) fun _ _ _=>aB (R:=fun _=>True) (by exact dw3) fun _ _=>aB (R:=fun _=>True) (by exact dw3) fun _ _=>?_) fun _=>?_<;>exact dw3
 ·exact dw3
instance EY {a}:Safe (R.iQ a):=by
 unfold R.iQ
 refine ⟨aA fun h=>?_⟩
 simp only [Sg.i,oks,Sh.ok,Ty.ok,List.map,Par.v,Bool.and_eq_true] at h
 have:=xw h
 refine q_p fun t (ht:t.length<=a.length)=>aA fun _=>bI (fun _=>aD trivial) fun _=>bn (by omega) (by omega) fun e _ _=>aB (R:=fun d:List Int=>d.length<=a.length) (by exact dw3) fun d hd=>q_b fun b=>aI (fun _=>?_) fun _=>by exact dw3
 refine aB (kn (Q:=fun m=>m.length<=a.length) (fun m=>m.length) (by omega) (fun m=>m.length<=a.length) hd fun m hm=>?_) fun u hu=>?_<;>exact dw3
instance El {v_0}:Safe (R.ev v_0):=by unfold R.ev;exact dw0
theorem qT {a n}(h0:0<=n) (h1:n<=1000):(R.mG a n).sat (fun r=>r.length=8):=by
 unfold R.mG
 refine aA fun _=>?_
 have e8:Int.toNat 8=8:=rfl
 have hl:(List.take 0 (List.replicate (Int.toNat 8) (0:Int))++(List.take (min (List.length a) (List.replicate (Int.toNat 8) (0:Int)).length) a++List.drop (0+(min (List.length a) (List.replicate (Int.toNat 8) (0:Int)).length)) (List.replicate (Int.toNat 8) (0:Int)))).length=8:=by
  simp only [List.length_append,List.length_take,List.length_drop,List.length_replicate,e8];omega
 rw [hl]
 refine gG (iL (by omega) (gG (iL (by omega) (n_d (by omega) ?_))))
 refine aB (iA (Q:=fun r=>r.length=8) (fun i=>i.1) 8 (by omega) (fun x=>x.2.length=8) (by simp) (by simp) hl fun i h0 h1 hI=>?_) fun x hx=>?_<;>repeat' (first|with_reducible (first|refine aD ?_|refine aA fun _=>?_|refine dx ?_|refine er (fun _=>?_) fun _=>?_|refine lb (fun _=>?_) fun _=>?_|refine bI (fun _=>?_) fun _=>?_|refine gn rfl ?_|refine hJ rfl ?_|refine aI (fun _=>?_) fun _=>?_|refine pV ?_|refine yW ?_|refine tX ?_|refine q_e ?_|refine q_p fun _ _=>?_|refine q_b fun _=>?_|refine bR ?_ ?_ fun _ _ _=>?_|refine bn ?_ ?_ fun _ _ _=>?_|refine gG ?_|refine aB (dV ?_) fun _ _=>?_|refine aB (oC ?_ ?_) fun _ _=>?_|refine aB (qT ?_ ?_) fun _ _=>?_|refine iL ?_ ?_|refine nr ?_ ?_|refine sf ?_ ?_|refine n_d ?_ ?_|refine tH (fun _=>?_) fun _=>?_|exact safe|refine fJ ?_)|exact trivial|dsimp only [Nx,Dn]|with_reducible (first|rfl|refine And.intro ?_ ?_|intro _|contradiction)|omega|refine bG (by decide) ?_|(simp (disch:=omega) only [wrap64,gp,kX,List.length_append,List.length_cons,List.length_nil,List.length_take,List.length_drop,List.length_set,List.length_replicate,List.length_reverse]<;>omega)|(simp (disch:=omega) only [wrap64,gp,kX,List.length_append,List.length_cons,List.length_nil,List.length_take,List.length_drop,List.length_set,List.length_replicate,List.length_reverse] at*<;> omega)|exact Int.tmod_nonneg _ (by omega)|(simp_all [iT,nB,mU,nk]<;>omega))
theorem qb {n}(h0:0<=n) (h1:n<=1000):(R.kN n).sat (fun r=>(r.length:Int)=n / 32+1):=by
 unfold R.kN
 have e1:n.tdiv 32=n / 32:=Int.tdiv_eq_ediv_of_nonneg h0
 have e2:n.tmod 32=n % 32:=Int.tmod_eq_emod_of_nonneg h0
 rw [e1,e2]
 exact dw4
theorem w3 {n a}(hn:0<=n->n<=256->n<=256):(R.iu n a).sat (fun r=>r.1.2.length<=9):=by
 unfold R.iu
 refine aA fun _=>aB (R:=fun c=>c=false->0<=n/\n<=256) (by exact dw4) fun c hc=>aI (fun _=>aD (by simp)) fun hc'=>?_
 have hn:=hc hc'
 exact dw4
instance FJ {n a}:lz (R.iu n a) (fun r=>r.1.2.length<=9):=⟨w3 fun _ h=>h⟩
instance Ff {a b}:lz (R.iC a b) (fun r=>r.length<=8):=by
 unfold R.iC
 refine ⟨aA fun _=>q_p fun (n:Int) hn=>aA fun _=>?_⟩
 refine aB (iA (Q:=fun r=>r.length<=8) (fun i=>i.2) n.toNat (by omega) (fun x=>x.1.length=x.2.toNat) (by simp) (by simp;omega) (by simp) fun i h0 h1 hI=>?_) fun x hx=>?_<;>exact dw4
instance Cw {a_0 b_1}:Safe (R.eO a_0 b_1):=by unfold R.eO;exact dw0
instance HV {a_0 b_1}:Safe (R.mO a_0 b_1):=by unfold R.mO;exact dw0
instance HX {a b}:Safe (R.mK a b):=by
 unfold R.mK
 refine ⟨aA fun _=>q_p fun x hx=>aA fun _=>q_p fun y hy=>aA fun _=>?_⟩
 rw [wrap64 (by omega)]
 refine gG (iL (by omega) (gG (iL (by omega) (n_d (by omega) ?_))))
 refine aB (iA (Q:=fun _=>True) (fun i=>i.1) x.length (by omega) (fun s=>s.2.length=x.length+y.length) (by simp) (by simp) (by simp;omega) fun i h0 h1 hI=>er (fun hi=>gG (iL (by omega) (nr (by omega) (bn (by omega) (by omega) fun e _ _=>?_)))) fun _=>?_) fun x hx=>?_
 ·refine aB (iA (Q:=fun r=>r.2.length=x.length+y.length) (fun i=>i.2.1) y.length (by omega) (fun s=>s.2.2.length=x.length+y.length) (by simp) (by simp) (by simp;omega) fun k k0 k1 hK=>er (fun hk=>?_) fun _=>?_) fun s hs=>?_
  ·have hw:IntKind.wrap .i64 (i.1+k.2.1)=i.1+k.2.1:=wrap64 (by omega)
   rw [hw]
   exact dw4
  ·exact dw4
  ·have hw:IntKind.wrap .i64 (i.1+(y.length:Int))=i.1+(y.length:Int):=wrap64 (by omega)
   rw [hw]
   exact dw4
 ·exact dw4
 ·exact dw4
theorem sQ {a b}(ha:List.length a<=2^40):(R.jH a b).sat (fun r=>r.length<=a.length+1):=by
 unfold R.jH
 refine aA fun h=>?_
 refine aB (iA (Q:=fun r=>r.2.length=a.length) (fun i=>i.2.2) a.length (by omega) (fun x=>x.2.1.length=x.2.2.toNat) (by simp) (by simp) (by simp) fun i h0 h1 hI=>?_) fun x hx=>?_<;>repeat' (first|with_reducible (first|refine aD ?_|refine aA fun _=>?_|refine dx ?_|refine er (fun _=>?_) fun _=>?_|refine lb (fun _=>?_) fun _=>?_|refine bI (fun _=>?_) fun _=>?_|refine gn rfl ?_|refine hJ rfl ?_|refine aI (fun _=>?_) fun _=>?_|refine pV ?_|refine yW ?_|refine tX ?_|refine q_e ?_|refine q_p fun _ _=>?_|refine q_b fun _=>?_|refine bR ?_ ?_ fun _ _ _=>?_|refine bn ?_ ?_ fun _ _ _=>?_|refine gG ?_|refine aB (dV ?_) fun _ _=>?_|refine aB (oC ?_ ?_) fun _ _=>?_|refine aB (qT ?_ ?_) fun _ _=>?_|refine aB (qb ?_ ?_) fun _ _=>?_|refine aB (sQ ?_) fun _ _=>?_|refine iL ?_ ?_|refine nr ?_ ?_|refine sf ?_ ?_|refine n_d ?_ ?_|refine tH (fun _=>?_) fun _=>?_|exact safe|refine fJ ?_)|exact trivial|dsimp only [Nx,Dn]|with_reducible (first|rfl|refine And.intro ?_ ?_|intro _|contradiction)|omega|refine bG (by decide) ?_|(simp (disch:=omega) only [wrap64,gp,kX,List.length_append,List.length_cons,List.length_nil,List.length_take,List.length_drop,List.length_set,List.length_replicate,List.length_reverse]<;>omega)|(simp (disch:=omega) only [wrap64,gp,kX,List.length_append,List.length_cons,List.length_nil,List.length_take,List.length_drop,List.length_set,List.length_replicate,List.length_reverse] at*<;> omega)|exact Int.tmod_nonneg _ (by omega)|(simp_all [iT,nB,mU,nk]<;>omega))
theorem wh {a b}(ha:List.length a<=8) (hb:List.length b<=8):(R.iE a b).sat (fun r=>r.1.length<=8/\r.2.length<=300):=by
 unfold R.iE
 refine aA fun _=>gG (iL (by omega) (gG (iL (by omega) (n_d (by omega) ?_))))
 rw [wrap64 (by omega)]
 refine aB (kn (Q:=fun r=>r.2.length=a.length/\r.1.length<=300) (fun i=>(i.2.1+1).toNat) (by simp;omega) (fun x=>-1<=x.2.1/\x.2.1 < a.length/\x.2.2.length=a.length/\(x.1.length:Int)+32*(x.2.1+1)<=32*a.length) (by simp;omega) fun i ⟨i1,i2,i3,i4⟩=>lb (fun hi=>?_) fun _=>?_) fun x hx=>?_
 ·refine aB (kn (Q:=fun r=>r.2.length=a.length/\(r.1.length:Int)+32*i.2.1<=32*a.length) (fun k=>(k.2.1+1).toNat) (by simp) (fun x=>-1<=x.2.1/\x.2.1<=31/\x.2.2.length=a.length/\(x.1.length:Int)+32*i.2.1+(x.2.1+1)<=32*a.length) (by simp;omega) fun k ⟨k1,k2,k3,k4⟩=>lb (fun hk=>?_) fun _=>?_) fun x hx=>?_<;>exact dw2
 ·exact dw2
 ·exact dw2
instance HI {a_0 b_1}:Safe (R.mC a_0 b_1):=by
 unfold R.mC
 refine ⟨?_⟩
 exact dw2
instance Hb {a_0 b_1}:Safe (R.mM a_0 b_1):=by
 unfold R.mM
 refine ⟨?_⟩
 exact dw2
instance HL {a_0 b_1}:Safe (R.mB a_0 b_1):=by unfold R.mB;exact dw0
instance Fp {a_0}:Safe (R.jE a_0):=by unfold R.jE;exact dw0
instance Dg {a}:y9 (R.cb a) (a.1 == 1 || a.1 == 0 && a.2 == 0):=⟨by
 unfold R.cb;refine aA fun _=>aI (fun h=>?_) fun h=>?_
 ·exact aD (by simp [h])
 ·refine aI (fun h2=>?_) fun h2=>?_<;>exact aD (by simp [h,h2])⟩
instance G0 {a}:lz (R.fO a) (fun r=>-9007199254740991<=a->a<=9007199254740991->r=max a (-a)):=⟨by
 unfold R.fO
 refine aA fun _=>aD fun h1 h2=>?_
 rw [wrap64 (by omega),kX]
 simp [IntKind.wrap,IntKind.signed,IntKind.bits]
 omega⟩
instance Fb {x_0 y_1}:Safe (R.jV x_0 y_1):=by
 unfold R.jV
 refine ⟨?_⟩
 exact dw2
instance Fe {n_0 neg_1}:Safe (R.gD n_0 neg_1):=by unfold R.gD;exact dw0
instance HZ {a_0 b_1}:Safe (R.mN a_0 b_1):=by unfold R.mN;exact dw0
instance Hd {a b}:Safe (R.mJ a b):=by
 unfold R.mJ
 refine ⟨aA fun _=>q_p fun (x:Int×Int) hx=>aA fun _=>q_p fun (y:Int×Int) hy=>aA fun _=>?_⟩
 refine q_b fun s1=>q_b fun s2=>?_
 refine aB (R:=fun c=>c=false->y.1≠2) (by exact dw2) fun c hc=>aI (fun _=>(by exact dw2)) fun hc'=>?_
 have h1:=hc hc'
 refine aB (R:=fun c=>c=false->y.1≠1/\(y.1=0->y.2≠0)) (by exact dw2) fun d hd=>aI (fun _=>(by exact dw2)) fun hd'=>?_
 have h2:=hd hd'
 refine aB (R:=fun c=>c=false->y.1≠3/\y.1≠4) (by exact dw2) fun d hd=>aI (fun _=>(by exact dw2)) fun hd'=>?_
 have h5:=hd hd'
 have h3:=hx;have h4:=hy
 have hk:∀ v:Int,(-9007199254740991<=y.2->y.2<=9007199254740991->v=max y.2 (-y.2))->v≠0:=fun v hv=>by
  by_cases h0:y.1=0
  ·have:=h4.1 h0;have:=hv this.1 this.2;have:=h2.2 h0;omega
  ·have:=h4.2 h0;omega
 refine q_p fun u hu=>aA fun _=>q_p fun (v:Int) hv=>aA fun _=>?_
 have hv0:=hk v hv
 refine sf hv0 (aI (fun _=>(by exact dw2)) fun _=>?_)
 refine q_p fun u hu=>aA fun _=>q_p fun (v:Int) hv=>aA fun _=>?_
 have hv0:=hk v hv
 exact dw2
instance Ha {a b}:Safe (R.mF a b):=by
 unfold R.mF
 refine ⟨aA fun _=>q_p fun (x:Int×Int) hx=>aA fun _=>q_p fun (y:Int×Int) hy=>aA fun _=>?_⟩
 refine aB (R:=fun c=>c=false->y.1≠2/\y.1≠1/\(y.1=0->y.2≠0)) (by exact dw2) fun c hc=>aI (fun _=>(by exact dw2)) fun hc'=>?_
 have h1:=hc hc'
 refine aB (R:=fun c=>c=false->y.1≠3/\y.1≠4) (by exact dw2) fun d hd=>aI (fun _=>(by exact dw2)) fun hd'=>?_
 have h2:=hd hd'
 have h3:=hx;have h4:=hy
 refine q_p fun u hu=>aA fun _=>q_p fun (v:Int) (hv:-9007199254740991<=y.2->y.2<=9007199254740991->v=max y.2 (-y.2))=>aA fun _=>?_
 have hv0:v≠0:=by
  by_cases h0:y.1=0
  ·have:=h4.1 h0;have:=hv this.1 this.2;have:=h1.2.2 h0;omega
  ·have:=h4.2 h0;omega
 exact dw2
instance AJ {x_0}:Safe (R.dm x_0):=by unfold R.dm;exact dw0
instance ye {x_0 y_1}:Safe (R.cw x_0 y_1):=by unfold R.cw;exact dw0
instance wy {a b}:Safe (R.cR a b):=by
 unfold R.cR
 refine ⟨aA fun h=>?_⟩
 simp only [Sg.i,oks,Sh.ok,Ty.ok,List.map,Par.v,Bool.and_eq_true] at h
 have:=la h.1
 refine aB (mI (fun i=>i) a.length (by omega) (by omega) (by omega) fun i h0 h1=>?_).ok fun x _=>?_<;>exact dw2
instance GA {a_0 b_1}:Safe (R.kh a_0 b_1):=by unfold R.kh;exact dw0
instance HM {a_0 b_1}:Safe (R.kY a_0 b_1):=by unfold R.kY;exact dw0
instance Ek {b_0 a_1}:Safe (R.gd b_0 a_1):=by unfold R.gd;exact dw0
instance G1 {a_0 b_1}:Safe (R.jn a_0 b_1):=by unfold R.jn;exact dw0
instance FR {x_0 y_1}:Safe (R.jI x_0 y_1):=by unfold R.jI;exact dw0
instance yJ {a b}:Safe (R.cx a b):=by
 unfold R.cx
 refine ⟨aA fun h=>?_⟩
 simp only [Sg.i,oks,Sh.ok,Ty.ok,List.map,Par.v,Bool.and_eq_true] at h
 have:=la h.1
 refine dx (bI (fun _=>?_) fun _=>?_)<;>try exact aD trivial
 refine aB (mI (fun i=>i) a.length (by omega) (by omega) (by omega) fun i h0 h1=>?_).ok fun x _=>?_<;>exact dw2
instance Ga {a_0 b_1}:Safe (R.kj a_0 b_1):=by unfold R.kj;exact dw0
instance EW {a_0 b_1}:Safe (R.gN a_0 b_1):=by unfold R.gN;exact dw0
instance GK {v_0}:Safe (R.jY v_0):=by unfold R.jY;exact dw0
instance De {v_0}:Safe (R.fh v_0):=by unfold R.fh;exact dw0
instance G8 {a_0 b_1}:Safe (R.lK a_0 b_1):=by unfold R.lK;exact dw0
instance FY {b_0 a_1}:Safe (R.js b_0 a_1):=by unfold R.js;exact dw0
instance FL {a_0 b_1}:Safe (R.jS a_0 b_1):=by unfold R.jS;exact dw0
instance Gs {a_0}:Safe (R.eJ a_0):=by unfold R.eJ;exact dw0
instance wk {a b}:lz (R.cg a b) (fun r=>r=true->(b.length:Int)<=a.length):=by
 unfold R.cg
 refine ⟨aA fun h=>?_⟩
 simp only [Sg.i,oks,Sh.ok,Ty.ok,List.map,Par.v,Bool.and_eq_true] at h
 have:=nh h.1
 have:=nh h.2
 exact dw2
instance wo {a b}:Safe (R.cP a b):=by
 unfold R.cP
 refine ⟨aA fun h=>?_⟩
 simp only [Sg.i,oks,Sh.ok,Ty.ok,List.map,Par.v,Bool.and_eq_true] at h
 have:=nh h.1
 have:=nh h.2
 refine q_p fun x hx=>dx (aI (fun hb=>?_) fun _=>aD trivial)
 have:=hx hb
 exact dw2
instance zZ {s_0 suffix_1}:Safe (R.dF s_0 suffix_1):=by unfold R.dF;exact dw0
instance Gm {s_0}:Safe (R.kJ s_0):=by unfold R.kJ;exact dw0
instance wY {a b}:lz (R.cE a b) (fun r=>r=true->(b.length:Int)<=a.length):=by
 unfold R.cE
 refine ⟨?_⟩
 exact dw2
instance zM {s_0 prefix_1}:Safe (R.cJ s_0 prefix_1):=by unfold R.cJ;exact dw0
instance wW {a b}:Safe (R.cI a b):=by
 unfold R.cI
 refine ⟨aA fun h=>q_p fun x hx=>aI (fun hb=>?_) fun _=>aD trivial⟩
 have:=hx hb
 exact dw2
instance yf {s_0 prefix_1}:Safe (R.bo s_0 prefix_1):=by unfold R.bo;exact dw0
instance Et {kind_0 op_1 old_2 by_3}:Safe (R.iS kind_0 op_1 old_2 by_3):=by unfold R.iS;exact dw0
end Go.Mach

set_option maxRecDepth 100000
namespace Go.Mach
open Res
abbrev gJ:=aE.den
abbrev j6:=jw.den
abbrev qi:=gy.den
abbrev eD:=aC.den
inductive ElI:Int->Int->Prop
 |k1:ElI 1 1
 |k2:ElI 2 1
 |k3:ElI 3 2
 |k4:ElI 4 2
 |k5:ElI 5 4
 |k6:ElI 6 4
 |k7:ElI 7 8
 |k8:ElI 8 8
structure sP (c d:j6):Prop where
 k:d.1=c.1
 n:d.2.2.2.2.2.1=c.2.2.2.2.2.1
 e:d.2.2.2.2.2.2.2.2.1=c.2.2.2.2.2.2.2.2.1
 b:d.2.2.2.2.2.2.2.2.2.1=c.2.2.2.2.2.2.2.2.2.1
 f:d.2.2.2.2.2.2.2.2.2.2.1=c.2.2.2.2.2.2.2.2.2.2.1
 l:d.2.2.2.2.2.2.2.2.2.2.2.1=c.2.2.2.2.2.2.2.2.2.2.2.1
 y:d.2.2.2.2.2.2.2.2.2.2.2.2.length=c.2.2.2.2.2.2.2.2.2.2.2.2.length
theorem sP.refl (c:j6):sP c c:=⟨rfl,rfl,rfl,rfl,rfl,rfl,rfl⟩
theorem sP.trans {a b c:j6}(h:sP a b) (g:sP b c):sP a c:=⟨g.k.trans h.k,g.n.trans h.n,g.e.trans h.e,g.b.trans h.b,g.f.trans h.f,g.l.trans h.l,g.y.trans h.y⟩
def nW (l l':List j6):Prop:=∀ (i:Nat) (c:j6),l[i]?=some c->∃ d,l'[i]?=some d/\sP c d
theorem nW.refl (l:List j6):nW l l:=fun _ c h=>⟨c,h,.refl c⟩
theorem nW.trans {a b c:List j6}(h:nW a b) (g:nW b c):nW a c:=fun i x hx=>by
 obtain ⟨y,h1,h2⟩:=h i x hx
 obtain ⟨z,g1,g2⟩:=g i y h1
 exact ⟨z,g1,h2.trans g2⟩
theorem nW.push (l:List j6) (c:j6):nW l (l++[c]):=fun i x hx=>⟨x,by rw [List.getElem?_append_left (List.getElem?_eq_some_iff.1 hx).1];exact hx,.refl x⟩
theorem nW.set {l:List j6}{i:Nat}{c d:j6}(hi:l[i]?=some c) (h:sP c d):nW l (l.set i d):=fun j x hx=>by
 by_cases hij:i=j
 ·subst hij
  rw [hi] at hx
  cases hx
  exact ⟨d,by rw [List.getElem?_set_self (List.getElem?_eq_some_iff.1 hi).1],h⟩
 ·exact ⟨x,by rw [List.getElem?_set_ne hij];exact hx,.refl x⟩
def qa (l:List j6) (b n:Int):Prop:=0<=b/\∃ d,l[b.toNat]?=some d/\((d.1=5/\n<=d.2.2.2.2.2.2.2.2.2.2.2.2.length)\/(d.1=6/\n<=d.2.2.2.2.2.2.2.2.2.2.2.1))
theorem qa.ext {l l':List j6}(h:nW l l'){b n:Int}(hb:qa l b n):qa l' b n:=by
 obtain ⟨h0,d,h1,h2⟩:=hb
 obtain ⟨d',g1,g2⟩:=h _ d h1
 refine ⟨h0,d',g1,?_⟩
 rw [g2.k,g2.y,g2.l]
 exact h2
def FnI (N:List gJ) (n:Int):Prop:=0<=n/\∃ x,N[n.toNat]?=some x/\(x.1=19\/x.1=41\/x.1=42)
structure pG (N:List gJ) (l:List j6) (c:j6):Prop where
 fn:c.1=3->FnI N c.2.2.2.2.2.1
 bf:c.1=5->c.2.2.2.2.2.2.2.2.2.2.2.2.length<=4096
 sh:c.1=6->0<=c.2.2.2.2.2.2.2.2.2.2.2.1/\c.2.2.2.2.2.2.2.2.2.2.2.1<=9007199254740991
 ty:c.1=7->∃ z,ElI c.2.2.2.2.2.2.2.2.1 z/\0<=c.2.2.2.2.2.2.2.2.2.2.1/\0<=c.2.2.2.2.2.2.2.2.2.2.2.1/\c.2.2.2.2.2.2.2.2.2.2.2.1<=9007199254740991/\c.2.2.2.2.2.2.2.2.2.2.1+c.2.2.2.2.2.2.2.2.2.2.2.1*z<=9007199254740991/\qa l c.2.2.2.2.2.2.2.2.2.1 (c.2.2.2.2.2.2.2.2.2.2.1+c.2.2.2.2.2.2.2.2.2.2.2.1*z)
 vw:c.1=8->0<=c.2.2.2.2.2.2.2.2.2.2.1/\0<=c.2.2.2.2.2.2.2.2.2.2.2.1/\c.2.2.2.2.2.2.2.2.2.2.1+c.2.2.2.2.2.2.2.2.2.2.2.1<=9007199254740991/\qa l c.2.2.2.2.2.2.2.2.2.1 (c.2.2.2.2.2.2.2.2.2.2.1+c.2.2.2.2.2.2.2.2.2.2.2.1)
theorem pG.ext {N:List gJ}{l l':List j6}(h:nW l l'){c:j6}(hc:pG N l c):pG N l' c :=
 ⟨hc.fn,hc.bf,hc.sh,fun e=>by obtain ⟨z,h1,h2,h3,h4,h5,h6⟩:=hc.ty e;exact ⟨z,h1,h2,h3,h4,h5,h6.ext h⟩,fun e=>by obtain ⟨h1,h2,h3,h4⟩:=hc.vw e;exact ⟨h1,h2,h3,h4.ext h⟩⟩
theorem pG.same {N:List gJ}{l:List j6}{c d:j6}(h:sP c d) (hc:pG N l c):pG N l d:=by
 obtain ⟨k,n,e,b,f,g,y⟩:=h
 constructor
 ·rw [k,n];exact hc.fn
 ·rw [k,y];exact hc.bf
 ·rw [k,g];exact hc.sh
 ·rw [k,e,f,g,b];exact hc.ty
 ·rw [k,f,g,b];exact hc.vw
def cD (v:eD):Prop:=v.1=5->v.2.2.2.1.length<=4096
theorem cD.of {v:eD}(h:v.1≠5):cD v:=fun e=>absurd e h
structure sL (B:Nat) (c:j6):Prop where
 pn:c.2.2.1.length<=B
 sn:c.2.2.2.1.length<=B
 pv:∀ p∈c.2.2.1,cD p.2
 sv:∀ p∈c.2.2.2.1,cD p.2.1
 tv:cD c.2.2.2.2.2.2.2.1
 nn:c.2.2.2.2.1.length<=4096
theorem sL.mono {B B':Nat}{c:j6}(h:sL B c) (hb:B<=B'):sL B' c:=⟨Nat.le_trans h.pn hb,Nat.le_trans h.sn hb,h.pv,h.sv,h.tv,h.nn⟩
structure jX (N:List gJ) (B:Nat) (h:qi):Prop where
 rm:h.1<=4096
 le:h.2.length<=4096
 cl:∀ (i:Nat) (c:j6),h.2[i]?=some c->pG N h.2 c/\sL B c
theorem jX.mono {N:List gJ}{B B':Nat}{h:qi}(hh:jX N B h) (hb:B<=B'):jX N B' h:=⟨hh.rm,hh.le,fun i c hc=>⟨(hh.cl i c hc).1,(hh.cl i c hc).2.mono hb⟩⟩
theorem jX.set {N:List gJ}{B:Nat}{h:qi}(hh:jX N B h){i:Nat}{c d:j6}(hi:h.2[i]?=some c) (hs:sP c d) (hd:sL B d):jX N B (h.1,h.2.set i d):=by
 have he:nW h.2 (h.2.set i d):=.set hi hs
 refine ⟨hh.rm,by show (h.2.set i d).length<=4096;rw [List.length_set];exact hh.le,fun j x hx=>?_⟩
 have hx:(h.2.set i d)[j]?=some x:=hx
 by_cases hij:i=j
 ·subst hij
  rw [List.getElem?_set_self (List.getElem?_eq_some_iff.1 hi).1] at hx
  cases hx
  exact ⟨((hh.cl i c hi).1.same hs).ext he,hd⟩
 ·rw [List.getElem?_set_ne hij] at hx
  obtain ⟨h1,h2⟩:=hh.cl j x hx
  exact ⟨h1.ext he,h2⟩
theorem jX.push {N:List gJ}{B:Nat}{h:qi}(hh:jX N B h){c:j6}(hl:h.2.length < 4096) (hc:pG N h.2 c) (hv:sL B c):jX N B (h.1,h.2++[c]):=by
 have he:=nW.push h.2 c
 refine ⟨hh.rm,by show (h.2++[c]).length<=4096;simp;omega,fun j x hx=>?_⟩
 have hx:(h.2++[c])[j]?=some x:=hx
 rw [List.getElem?_append] at hx
 split at hx
 ·obtain ⟨h1,h2⟩:=hh.cl j x hx
  exact ⟨h1.ext he,h2⟩
 ·have:x=c:=by
   cases hj:j-h.2.length with
   |zero=>rw [hj] at hx;simpa using hx.symm
   |succ k=>rw [hj] at hx;simp at hx
  subst this
  exact ⟨hc.ext he,hv⟩
theorem jX.lt {N:List gJ}{B:Nat}{h:qi}(hh:jX N B h) (hl:(h.2.length:Int) < h.1):h.2.length < 4096:=Int.ofNat_lt.1 (Int.lt_of_lt_of_le hl hh.rm)
theorem sL.props {B:Nat}{c d:j6}(h:sL B c){B':Nat}(hb:B<=B') (hp:d.2.2.1.length<=B') (hv:∀ p∈d.2.2.1,cD p.2) (e:d.2.2.2=c.2.2.2):sL B' d:=⟨hp,by rw [e];exact Nat.le_trans h.sn hb,hv,by rw [e];exact h.sv,by rw [e];exact h.tv,by rw [e];exact h.nn⟩
theorem sL.slots {B:Nat}{c d:j6}(h:sL B c){B':Nat}(hb:B<=B') (hp:d.2.2.2.1.length<=B') (hv:∀ p∈d.2.2.2.1,cD p.2.1) (e:d.2.2.1=c.2.2.1) (e':d.2.2.2.2=c.2.2.2.2):sL B' d:=⟨by rw [e];exact Nat.le_trans h.pn hb,hp,by rw [e];exact h.pv,hv,by rw [e'];exact h.tv,by rw [e'];exact h.nn⟩
end Go.Mach

set_option maxRecDepth 100000
namespace Go.Mach
open Res
theorem has_ok {h:qi}{i:Int}:(R.bB h i).sat fun r=>r=decide (0<=i/\i.toNat < h.2.length):=by
 unfold R.bB
 refine aA fun _=>lb (fun h0=>aD ?_) fun h0=>aD ?_
 ·have e:(ilt i ((List.length h.2:Nat):Int))=decide (i < ((List.length h.2:Nat):Int)):=rfl
  rw [e]
  congr 1
  refine propext ⟨fun g=>⟨h0,by omega⟩,fun g=>by omega⟩
 ·rw [decide_eq_false (by omega)]
theorem oT {v:eD}:(R.dJ v).sat (·=v):=by
 unfold R.dJ
 exact aA fun _=>pV (aA fun _=>pV (aA fun _=>aD rfl))
theorem xQ {c:j6}(hp:c.2.2.1.length<=2^39) (hs:c.2.2.2.1.length<=2^39):(R.gL c).sat (·=c):=by
 unfold R.gL
 refine aA fun _=>aY (a:=c.2.2.1) (bG (decide_eq_true (by omega)) (aD rfl)) (aA fun _=>aY (a:=c.2.2.2.1) (bG (decide_eq_true (by omega)) (aD rfl)) (aA fun _=>pV (aA fun _=>aY oT (aA fun _=>?_))))
 refine aY (a:=c.2.2.1) (iA (Q:=fun l=>l=c.2.2.1) (fun x=>x.1) (List.length c.2.2.1) (by omega) (fun x=>x.2=c.2.2.1) (by simp) (by simp) rfl fun x h0 h1 hI=>?_) ?_
 ·obtain ⟨i,l⟩:=x
  have hI:l=c.2.2.1:=hI
  subst hI
  have h0:0<=i:=h0
  refine er (fun hl=>?_) fun hl=>aD rfl
  have hl:i < (List.length c.2.2.1:Int):=hl
  have hl':(0+Int.toNat i:Int).toNat < List.length c.2.2.1:=by omega
  refine gG (iL h0 (nr hl (bn (by omega) hl' fun e he _=>pV (aA fun _=>aY oT (aA fun _=>gG (iL h0 (nr hl (bn (by omega) hl' fun _ _ _=>aD ⟨rfl,hl,?_⟩))))))))
  have he:(c.2.2.1)[0+Int.toNat i]?=some e:=by rw [<- he];congr 1
  exact oJ he
 refine aY (a:=c.2.2.2.1) (iA (Q:=fun l=>l=c.2.2.2.1) (fun x=>x.1) (List.length c.2.2.2.1) (by omega) (fun x=>x.2=c.2.2.2.1) (by simp) (by simp) rfl fun x h0 h1 hI=>?_) ?_
 ·obtain ⟨i,l⟩:=x
  have hI:l=c.2.2.2.1:=hI
  subst hI
  have h0:0<=i:=h0
  refine er (fun hl=>?_) fun hl=>aD rfl
  have hl:i < (List.length c.2.2.2.1:Int):=hl
  have hl':(0+Int.toNat i:Int).toNat < List.length c.2.2.2.1:=by omega
  refine gG (iL h0 (nr hl (bn (by omega) hl' fun e he _=>aY oT (aA fun _=>gG (iL h0 (nr hl (bn (by omega) hl' fun e' he' _=>aD ⟨rfl,hl,?_⟩)))))))
  have he':some e=some e':=he.symm.trans he'
  cases he'
  have he:(c.2.2.2.1)[0+Int.toNat i]?=some e:=by rw [<- he];congr 1
  exact oJ he
 exact aD rfl
theorem DP {l:List bJ.den}{n:List UInt8}(hl:l.length<=2^40):(R.aa l n).sat fun r=>-1<=r/\r < l.length:=by
 unfold R.aa
 refine aA fun _=>aB (iA (Q:=fun r:Unit ⊕ Int=>match r with|.inl _=>True|.inr r=>-1<=r/\r < l.length) (fun x=>x) l.length (by omega) (fun _=>True) (by omega) (by omega) trivial fun x h0 h1 _=>?_) fun x hx=>?_
 ·unfold R.ey
  refine er (fun h=>bR (by omega) (by omega) fun e _ _=>fJ (aA fun _=>aD (aI (fun _=>aD ?_) fun _=>aD ⟨rfl,by omega,trivial⟩))) fun _=>aD trivial
  exact ⟨by omega,by omega⟩
 ·cases x with
  |inl _=>exact jf (aD ⟨by omega,by omega⟩)
  |inr r=>exact jd (aD hx)
theorem CK {l:List bO.den}{n:List Int}(hl:l.length<=2^40):(R.aZ l n).sat fun r=>-1<=r/\r < l.length:=by
 unfold R.aZ
 refine aA fun _=>aB (iA (Q:=fun r:Unit ⊕ Int=>match r with|.inl _=>True|.inr r=>-1<=r/\r < l.length) (fun x=>x) l.length (by omega) (fun _=>True) (by omega) (by omega) trivial fun x h0 h1 _=>?_) fun x hx=>?_
 ·unfold R.eM
  refine er (fun h=>bR (by omega) (by omega) fun e _ _=>fJ (aA fun _=>q_b fun _=>aD (aI (fun _=>aD ?_) fun _=>aD ⟨rfl,by omega,trivial⟩))) fun _=>aD trivial
  exact ⟨by omega,by omega⟩
 ·cases x with
  |inl _=>exact jf (aD ⟨by omega,by omega⟩)
  |inr r=>exact jd (aD hx)
theorem yY {h:qi}{i:Int}{n:List UInt8}{c:j6}(h0:0<=i) (hc:h.2[i.toNat]?=some c) (hl:c.2.2.2.1.length<=2^40):(R.cp h i n).sat fun r=>-1<=r/\r < c.2.2.2.1.length:=by
 unfold R.cp
 refine aA fun _=>bR h0 (List.getElem?_eq_some_iff.1 hc).1 fun x hx _=>?_
 have hx:h.2[i.toNat]?=some x:=hx
 rw [hc] at hx
 cases hx
 exact aB (DP hl) fun r hr=>aA fun _=>aD hr
theorem v8 {h:qi}{i:Int}{n:List Int}{c:j6}(h0:0<=i) (hc:h.2[i.toNat]?=some c) (hl:c.2.2.1.length<=2^40):(R.dA h i n).sat fun r=>-1<=r/\r < c.2.2.1.length:=by
 unfold R.dA
 refine aA fun _=>bR h0 (List.getElem?_eq_some_iff.1 hc).1 fun x hx _=>?_
 have hx:h.2[i.toNat]?=some x:=hx
 rw [hc] at hx
 cases hx
 exact aB (CK hl) fun r hr=>aA fun _=>aD hr
section
variable {N:List gJ}{B:Nat}{h:qi}
theorem kL {i:Int}{β:Type}{Q:β->Prop}{k:Bool->Res β}(h1:∀ c,0<=i->h.2[i.toNat]?=some c->(k true).sat Q) (h2:¬ (0<=i/\i.toNat < h.2.length)->(k false).sat Q):((R.bB h i).bind k).sat Q:=by
 refine aB has_ok fun r hr=>?_
 by_cases hp:0<=i/\i.toNat < h.2.length
 ·rw [hr,decide_eq_true hp]
  exact h1 _ hp.1 (List.getElem?_eq_getElem hp.2)
 ·rw [hr,decide_eq_false hp]
  exact h2 hp
theorem kg {i:Int}{c:j6}{β:Type}{Q:β->Prop}{k:j6->Res β}(h0:0<=i) (hc:h.2[i.toNat]?=some c) (hk:(k c).sat Q):(dC kv h.2 i k).sat Q :=
 bR h0 (List.getElem?_eq_some_iff.1 hc).1 fun x hx _=>by
  have hx:h.2[i.toNat]?=some x:=hx
  rw [hc] at hx
  cases hx
  exact hk
theorem rX {α:Type}{P:α->Prop}{l:List α}{x:α}(h:∀ p∈l,P p) (hx:P x):∀ p∈l++[x],P p:=fun p hp=>by
 rcases List.mem_append.1 hp with hp|hp
 ·exact h p hp
 ·cases List.mem_singleton.1 hp
  exact hx
theorem rK {α:Type}{P:α->Prop}{l:List α}{i:Nat}{x:α}(h:∀ p∈l,P p) (hx:P x):∀ p∈l.set i x,P p:=fun p hp=>by
 rcases List.mem_or_eq_of_mem_set hp with hp|rfl
 ·exact h p hp
 ·exact hx
theorem Br (hh:jX N B h) (hB:B<=2^39){c:j6}(hc:pG N h.2 c) (hv:sL B c) :
  (R.fN h c).sat fun r=>jX N B r.2/\nW h.2 r.2.2/\(r.1.2=true->0<=r.1.1/\r.2.2[r.1.1.toNat]?=some c):=by
 unfold R.fN
 have hle:=hh.le
 have hp:=hv.pn
 have ht:=hv.sn
 refine aA fun _=>lb (fun _=>aD ⟨hh,.refl _,fun e=>by cases e⟩) fun hlt=>aY (xQ (by omega) (by omega)) (aA fun _=>bG (decide_eq_true (by simp;omega)) ?_)
 have hlt:(h.2.length:Int) < h.1:=hlt
 have e:IntKind.wrap .i64 (((h.2++[c]).length:Int)-1)=h.2.length:=by rw [wrap64 (by simp;omega)];simp
 rw [e]
 exact aD ⟨hh.push (hh.lt hlt) hc hv,.push _ _,fun _=>⟨by show (0:Int)<=((h.2.length:Nat):Int);omega,by simp⟩⟩
theorem AP (hh:jX N B h) (hB:B<=2^39){i:Int}{n:List UInt8}{v:eD}{r f:Bool}(hv:cD v):(R.bF h i n v r f).sat fun r=>jX N (B+1) r.2/\nW h.2 r.2.2:=by
 unfold R.bF
 refine aA fun _=>aB (R:=fun b=>b=false->∃ c,0<=i/\h.2[i.toNat]?=some c) (kL (fun c h0 hc=>hJ rfl (aB (yY h0 hc (by have:=(hh.cl _ c hc).2.sn;omega)) fun r _=>aA fun _=>aD fun _=>⟨c,h0,hc⟩)) fun _=>gn rfl (aD fun e=>by cases e)) fun b hb=>?_
 cases b with
 |true=>exact gn rfl (aD ⟨hh.mono (by omega),.refl _⟩)
 |false =>
  obtain ⟨c,h0,hc⟩:=hb rfl
  have hl:=(hh.cl _ c hc).2
  have hs:=hl.sn
  refine hJ rfl (kg h0 hc (bG (by simp) (aY oT (aA fun _=>bG (decide_eq_true (by simp;omega)) (bG (by simp) (aD ⟨?_,?_⟩))))))
  ·exact (hh.mono (Nat.le_succ B)).set hc ⟨rfl,rfl,rfl,rfl,rfl,rfl,rfl⟩ (hl.slots (Nat.le_succ B) (by show (c.2.2.2.1++[_]).length<=_;simp;omega) (rX hl.sv hv) rfl rfl)
  ·exact .set hc ⟨rfl,rfl,rfl,rfl,rfl,rfl,rfl⟩
theorem put_ok (hh:jX N B h) (hB:B<=2^39){i:Int}{n:List Int}{v:eD}(hv:cD v):(R.bj h i n v).sat fun r=>jX N (B+1) r.2/\nW h.2 r.2.2:=by
 unfold R.bj
 refine aA fun _=>kL (fun c h0 hc=>hJ rfl (kg h0 hc ?_)) fun _=>gn rfl (aD ⟨hh.mono (by omega),.refl _⟩)
 have hl:=(hh.cl _ c hc).2
 have hp:=hl.pn
 have hs:h.2.set i.toNat c=h.2:=oJ hc
 rw [hs]
 refine aB (v8 (h:=(h.1,h.2)) h0 hc (by omega)) fun r ⟨r0,r1⟩=>aA fun _=>lb (fun hr=>bG (by simp) (aY oT (aA fun _=>bG (by simp [ile,ilt];omega) (bn (by omega) (by omega) fun p _ _=>aD ⟨?_,?_⟩)))) fun hr=>bG (by simp) (pV (aA fun _=>aY oT (aA fun _=>bG (decide_eq_true (by simp;omega)) (bG (by simp) (aD ⟨?_,?_⟩)))))
 ·exact (hh.mono (Nat.le_succ B)).set hc ⟨rfl,rfl,rfl,rfl,rfl,rfl,rfl⟩ (hl.props (Nat.le_succ B) (by show (c.2.2.1.set _ _).length<=_;rw [List.length_set];omega) (rK hl.pv hv) rfl)
 ·exact .set hc ⟨rfl,rfl,rfl,rfl,rfl,rfl,rfl⟩
 ·exact (hh.mono (Nat.le_succ B)).set hc ⟨rfl,rfl,rfl,rfl,rfl,rfl,rfl⟩ (hl.props (Nat.le_succ B) (by show (c.2.2.1++[_]).length<=_;simp;omega) (rX hl.pv hv) rfl)
 ·exact .set hc ⟨rfl,rfl,rfl,rfl,rfl,rfl,rfl⟩
theorem GJ (hh:jX N B h) (hB:B<=2^39){i:Int}{n:List UInt8}{v:eD}{r:Bool}(hv:cD v):(R.ch h i n v r).sat fun r=>jX N B r.2/\nW h.2 r.2.2:=by
 unfold R.ch
 refine aA fun _=>kL (fun c h0 hc=>hJ rfl ?_) fun _=>gn rfl (aD ⟨hh,.refl _⟩)
 have hl:=(hh.cl _ c hc).2
 have hs:=hl.sn
 refine aB (yY h0 hc (by omega)) fun r ⟨r0,r1⟩=>aA fun _=>er (fun hr=>aD ⟨hh,.refl _⟩) fun hr=>kg h0 hc (bG (by simp) (bG (by simp [ile,ilt];omega) (aY oT (aA fun _=>bn (by omega) (by omega) fun p hp _=>bn (by omega) (by simp;omega) fun p' hp' _=>aD ⟨?_,?_⟩))))
 ·exact hh.set hc ⟨rfl,rfl,rfl,rfl,rfl,rfl,rfl⟩ (hl.slots (Nat.le_refl B) (by show ((c.2.2.2.1.set _ _).set _ _).length<=_;rw [List.length_set,List.length_set];omega) (rK (rK hl.sv hv) (rK hl.sv hv p' (List.mem_of_getElem? hp'))) rfl rfl)
 ·exact .set hc ⟨rfl,rfl,rfl,rfl,rfl,rfl,rfl⟩
theorem Fk (hh:jX N B h) (hB:B<=2^39){i:Int}:(R.fI h i).sat fun r=>(r.1.1=0/\r.1.2.2.2.1=[])\/(r.2=true/\0<=i/\h.2[i.toNat]?=some r.1):=by
 unfold R.fI
 refine aA fun _=>kL (fun c h0 hc=>hJ rfl (kg h0 hc ?_)) fun _=>gn rfl (aD (.inl ⟨rfl,rfl⟩))
 have hl:=(hh.cl _ c hc).2
 have hp:=hl.pn
 have hs:=hl.sn
 exact aY (xQ (by omega) (by omega)) (aA fun _=>aD (.inr ⟨rfl,h0,hc⟩))
theorem o8 {i:Int}:(R.bM h i).sat fun r=>r=0\/∃ c,0<=i/\h.2[i.toNat]?=some c/\r=(c.2.2.1.length:Int):=by
 unfold R.bM
 exact aA fun _=>kL (fun c h0 hc=>hJ rfl (kg h0 hc (aD (.inr ⟨c,h0,hc,rfl⟩)))) fun _=>gn rfl (aD (.inl rfl))
theorem GG (hh:jX N B h) (hB:B<=2^39){i:Int}:(R.fH h i).sat fun r=>jX N B r.2/\nW h.2 r.2.2/\cD r.1.1:=by
 unfold R.fH
 refine aA fun _=>aB o8 fun r hr=>aA fun _=>bI (fun _=>aD ⟨hh,.refl _,.of (show (0:Int)≠5 by decide)⟩) fun hne=>?_
 rcases hr with hr|⟨c,h0,hc,rfl⟩
 ·exact absurd hr hne
 have hl:=(hh.cl _ c hc).2
 have hp:=hl.pn
 have e:IntKind.wrap .i64 ((c.2.2.1.length:Int)-1)=(c.2.2.1.length:Int)-1:=wrap64 (by omega)
 refine kg h0 hc ?_
 rw [e]
 refine bG (by simp) (bG (by simp) (bG (by simp [ile,ilt];omega) (bn (by omega) (by omega) fun p hp' _=>bG (by simp) (bG (by simp [ile];omega) (bG (by simp) (aY oT (aA fun _=>aD ⟨?_,?_,?_⟩)))))))
 ·exact hh.set hc ⟨rfl,rfl,rfl,rfl,rfl,rfl,rfl⟩ (hl.props (Nat.le_refl B) (by show (List.take _ (List.drop 0 c.2.2.1)).length<=_;simp;omega) (fun p hp=>hl.pv p (List.mem_of_mem_take hp)) rfl)
 ·exact .set hc ⟨rfl,rfl,rfl,rfl,rfl,rfl,rfl⟩
 ·exact hl.pv p (List.mem_of_getElem? hp')
theorem EG (hh:jX N B h) (hB:B<=2^39){i a:Int}{b:List Int}(hb:b.length<=8) (hbyt:∀ c:j6,h.2[i.toNat]?=some c->c.2.2.2.2.2.2.2.2.2.2.2.2.length<=2^47):(R.eY h i a b).sat fun r=>jX N B r.2/\nW h.2 r.2.2:=by
 unfold R.eY
 refine aA fun _=>kL (fun c h0 hc=>hJ rfl (kg h0 hc ?_)) fun _=>gn rfl (aD ⟨hh,.refl _⟩)
 have hl:=(hh.cl _ c hc).2
 have hy:=hbyt c hc
 have hs:h.2.set i.toNat c=h.2:=oJ hc
 refine aB (R:=fun x=>x=false->0<=a/\a<=c.2.2.2.2.2.2.2.2.2.2.2.2.length/\a+b.length<=c.2.2.2.2.2.2.2.2.2.2.2.2.length) (er (fun _=>aD fun e=>by cases e) fun a0=>bG (by simp) (er (fun _=>aD fun e=>by cases e) fun a1=>bG (by simp) (aD fun e=>?_))) fun x hx=>?_
 ·rw [wrap64 (by omega),mU] at e
  exact ⟨a0,a1,by omega⟩
 cases x with
 |true =>
  refine gn rfl (aD ⟨?_,?_⟩)
  ·show jX N B (h.1,h.2.set i.toNat c);rw [hs];exact hh
  ·show nW h.2 (h.2.set i.toNat c);rw [hs];exact .refl _
 |false =>
  obtain ⟨a0,a1,a2⟩:=hx rfl
  have e:(List.take (0+a.toNat) c.2.2.2.2.2.2.2.2.2.2.2.2++(List.take (min b.length (c.2.2.2.2.2.2.2.2.2.2.2.2.length-a.toNat)) b++List.drop (0+a.toNat+min b.length (c.2.2.2.2.2.2.2.2.2.2.2.2.length-a.toNat)) c.2.2.2.2.2.2.2.2.2.2.2.2)).length=c.2.2.2.2.2.2.2.2.2.2.2.2.length:=by
   simp only [List.length_append,List.length_take,List.length_drop]
   omega
  refine hJ rfl (bG (by simp) (bG (by simp [ile];omega) (aD ⟨?_,?_⟩)))
  ·exact hh.set hc ⟨rfl,rfl,rfl,rfl,rfl,rfl,e⟩ ⟨hl.pn,hl.sn,hl.pv,hl.sv,hl.tv,hl.nn⟩
  ·exact .set hc ⟨rfl,rfl,rfl,rfl,rfl,rfl,e⟩
theorem F8 {i:Int}:(R.aj h i).sat fun r=>(r.2=false/\r.1.1=0/\¬ (0<=i/\i.toNat < h.2.length))\/(r.2=true/\0<=i/\∃ c,h.2[i.toNat]?=some c/\r.1=(c.1,(c.2.1,((),((),(c.2.2.2.2.1,(c.2.2.2.2.2.1,(c.2.2.2.2.2.2.1,(c.2.2.2.2.2.2.2.1,(c.2.2.2.2.2.2.2.2.1,(c.2.2.2.2.2.2.2.2.2.1,(c.2.2.2.2.2.2.2.2.2.2.1,(c.2.2.2.2.2.2.2.2.2.2.2.1,()))))))))))))):=by
 unfold R.aj
 exact aA fun _=>kL (fun c h0 hc=>hJ rfl (kg h0 hc (aD (.inr ⟨rfl,h0,c,hc,rfl⟩)))) fun hn=>gn rfl (aD (.inl ⟨rfl,rfl,hn⟩))
theorem nV {i:Int}:(R.ay h i).sat fun r=>(r=0/\¬ (0<=i/\i.toNat < h.2.length))\/(0<=i/\∃ c,h.2[i.toNat]?=some c/\r=c.1):=by
 unfold R.ay
 exact aA fun _=>kL (fun c h0 hc=>hJ rfl (kg h0 hc (aD (.inr ⟨h0,c,hc,rfl⟩)))) fun hn=>gn rfl (aD (.inl ⟨rfl,hn⟩))
theorem Bw (hh:jX N B h) (hB:B<=2^39){i:Int}{n:List UInt8}:(R.dZ h i n).sat fun r=>cD r.1.2.1:=by
 unfold R.dZ
 have hle:=hh.le
 refine aA fun _=>aB (iA (Q:=fun r:Unit ⊕ (Int×(Bool×bJ.den))=>match r with|.inl _=>True|.inr r=>cD r.2.2.2.1) (fun x=>x.2) h.2.length (by omega) (fun _=>True) (by simp) (by simp) trivial fun x h0 h1 _=>?_) fun x hx=>?_
 ·refine er (fun hl=>kL (fun c c0 hc=>hJ rfl ?_) fun _=>gn rfl (aD trivial)) fun _=>aD trivial
  have hv:=(hh.cl _ c hc).2
  have hs:=hv.sn
  refine aB (yY c0 hc (by omega)) fun r ⟨r0,r1⟩=>aA fun _=>lb (fun hr=>kg c0 hc (bR hr (by omega) fun p hp _=>aY oT (aA fun _=>aD ?_))) fun _=>kg c0 hc (aD ⟨rfl,hl,trivial⟩)
  exact hv.sv p (List.mem_of_getElem? hp)
 ·cases x with
  |inl _=>exact jf (aD (.of (show (0:Int)≠5 by decide)))
  |inr r=>exact jd (aD hx)
theorem tG (hh:jX N B h) (hB:B<=2^39){i:Int}{n:List Int}:(R.cM h i n).sat fun r=>cD r.1:=by
 unfold R.cM
 refine aA fun _=>kL (fun c c0 hc=>hJ rfl ?_) fun _=>gn rfl (aD (.of (show (0:Int)≠5 by decide)))
 have hv:=(hh.cl _ c hc).2
 have hs:=hv.pn
 refine aB (v8 c0 hc (by omega)) fun r ⟨r0,r1⟩=>aA fun _=>er (fun _=>aD (.of (show (0:Int)≠5 by decide))) fun hr=>kg c0 hc (bR hr (by omega) fun p hp _=>aY oT (aA fun _=>aD ?_))
 exact hv.pv p (List.mem_of_getElem? hp)
theorem BZ (hh:jX N B h) (hB:B<=2^39){i:Int}{n:List Int}:(R.db h i n).sat fun r=>cD r.1:=by
 unfold R.db
 have hle:=hh.le
 refine aA fun _=>aB (iA (Q:=fun r:Unit ⊕ (Int×(Bool×aC.den))=>match r with|.inl _=>True|.inr r=>cD r.2.2) (fun x=>x.2) h.2.length (by omega) (fun _=>True) (by simp) (by simp) trivial fun x h0 h1 _=>?_) fun x hx=>?_
 ·refine er (fun hl=>aB (tG hh hB) fun r hr=>aA fun _=>aI (fun _=>aD hr) fun _=>kL (fun c c0 hc=>hJ rfl (kg c0 hc (er (fun _=>aD (.of (show (0:Int)≠5 by decide))) fun _=>aD ⟨rfl,hl,trivial⟩))) fun _=>gn rfl (aD (.of (show (0:Int)≠5 by decide)))) fun _=>aD trivial
 ·cases x with
  |inl _=>exact jf (aD (.of (show (0:Int)≠5 by decide)))
  |inr r=>exact jd (aD hx)
end
end Go.Mach

set_option maxRecDepth 100000
namespace Go.Mach
open Res
abbrev RunT:=aG.den
abbrev AnsI:=fF.den
abbrev AB:=eZ.den
def As:AB:=(0,(0,(0,(0,(0,(false,(false,(0,(0,((0,0),(([]:List Int),0)))))))))))
structure Cx where
 N:List gJ
 H:Int
 D:Int
 F:Int
 A:List AnsI
structure iP (C:Cx) (m:Int) (s:RunT):Prop where
 nd:s.1=C.N
 lm:s.2.1=(C.H,(C.D,C.F))
 an:s.2.2.1=C.A
 u0:LE.le (α:=Int) (0) (s.2.2.2.1)
 us:LE.le (α:=Int) (s.2.2.2.1) ((C.A.length:Int))
 hp:∃ B:Nat,jX C.N B s.2.2.2.2.1/\(B:Int)+134217728*((HSub.hSub (α:=Int) (β:=Int) (γ:=Int) (C.F) (s.2.2.2.2.2.2.1)))<=m
 d0:LE.le (α:=Int) (0) (s.2.2.2.2.2.1)
 dp:LE.le (α:=Int) (s.2.2.2.2.2.1) (C.D)
 b0:LE.le (α:=Int) (0) (s.2.2.2.2.2.2.1)
 bg:LE.le (α:=Int) (s.2.2.2.2.2.2.1) (C.F)
 rq:s.2.2.2.2.2.2.2.1=As
 en:s.2.2.2.2.2.2.2.2=(0,([]:List Int))
theorem iP.mono {C:Cx}{m m':Int}{s:RunT}(h:iP C m s) (hm:m<=m'):iP C m' s:=⟨h.nd,h.lm,h.an,h.u0,h.us,by obtain ⟨B,h1,h2⟩:=h.hp;exact ⟨B,h1,Int.le_trans h2 hm⟩,h.d0,h.dp,h.b0,h.bg,h.rq,h.en⟩
def zl (a:Int×Int):Prop:=(a.1=0/\0<=a.2/\a.2<=9007199254740991)\/(a.1=3/\a.2=0)
structure uT (q:AB):Prop where
 k:1<=q.1/\q.1<=14
 ln:0<=q.2.2.2.2.2.2.2.2.2.2.2/\q.2.2.2.2.2.2.2.2.2.2.2<=9007199254740991
 tx:q.2.2.2.2.2.2.2.2.2.2.1.length<=4096
 nm:zl q.2.2.2.2.2.2.2.2.2.1
 a:(q.1 < 2\/6 < q.1)->q.2.2.2.1=0/\q.2.2.2.2.2.1=false/\q.2.2.2.2.2.2.1=false/\q.2.2.2.2.2.2.2.1=0/\q.2.2.2.2.2.2.2.2.1=0/\q.2.2.2.2.1=0
 z:(2<=q.1/\q.1<=6)->(q.2.2.2.1=1\/q.2.2.2.1=2\/q.2.2.2.1=4\/q.2.2.2.1=8)/\(q.2.2.2.1=8\/(q.2.2.2.2.2.2.2.1 < 2^(8*q.2.2.2.1).toNat/\q.2.2.2.2.2.2.2.2.1 < 2^(8*q.2.2.2.1).toNat))/\0<=q.2.2.1/\(q.2.2.2.2.2.1=true->q.2.2.2.2.2.2.1=true)/\(q.1=4->0 < q.2.2.2.2.1/\q.2.2.2.2.1<=6)/\(q.1≠4->q.2.2.2.2.1=0)
structure B5 (C:Cx) (s:RunT):Prop where
 nd:s.1=C.N
 hs:(s.2.2.2.2.2.2.2.2=(0,([]:List Int))/\uT s.2.2.2.2.2.2.2.1)\/∃ k:Int,3<=k/\k<=6/\s.2.2.2.2.2.2.2.2=(k,([]:List Int))/\s.2.2.2.2.2.2.2.1=As
structure Aft (C:Cx) (m b:Int) (s s':RunT):Prop where
 run:iP C m s'
 ext:nW s.2.2.2.2.1.2 s'.2.2.2.2.1.2
 dp:Eq (α:=Int) (s'.2.2.2.2.2.1) (s.2.2.2.2.2.1)
 bg:LE.le (α:=Int) (b) (s'.2.2.2.2.2.2.1)
def Pst (C:Cx) (m b:Int) (s:RunT) (how:Int) (s':RunT):Prop:=(how=5/\B5 C s')\/(how≠5/\Aft C m b s s')
def cy (C:Cx) (m b:Int) (s:RunT) (r:(eD×Int)×RunT):Prop:=cD r.1.1/\Pst C m b s r.1.2 r.2
def nU (C:Cx) (m b:Int) (s:RunT) (r:aX.den×RunT):Prop:=cD r.1.2.2/\Pst C m b s r.1.1 r.2
section
variable {C:Cx}{m b:Int}{s:RunT}
theorem Aft.refl (h:iP C m s):Aft C m s.2.2.2.2.2.2.1 s s:=⟨h,.refl _,rfl,Int.le_refl _⟩
theorem Aft.mono {s':RunT}(h:Aft C m b s s'){m' b':Int}(hm:m<=m') (hb:b'<=b):Aft C m' b' s s':=⟨h.run.mono hm,h.ext,h.dp,Int.le_trans hb h.bg⟩
theorem Aft.trans {m' b':Int}{s' s'':RunT}(h:Aft C m b s s') (g:Aft C m' b' s' s''):Aft C m' b' s s'':=⟨g.run,h.ext.trans g.ext,g.dp.trans h.dp,g.bg⟩
theorem Pst.mono {how:Int}{s':RunT}(h:Pst C m b s how s'){m' b':Int}(hm:m<=m') (hb:b'<=b):Pst C m' b' s how s':=h.imp id fun ⟨h1,h2⟩=>⟨h1,h2.mono hm hb⟩
theorem Pst.after {m' b' how:Int}{s' s'':RunT}(h:Aft C m b s s') (g:Pst C m' b' s' how s''):Pst C m' b' s how s'':=g.imp id fun ⟨h1,h2⟩=>⟨h1,h.trans h2⟩
theorem Pst.how {how how':Int}{s':RunT}(h:Pst C m b s how s') (hn:how≠5) (hn':how'≠5):Pst C m b s how' s':=by
 rcases h with ⟨h1,_⟩|⟨_,h2⟩
 ·exact absurd h1 hn
 ·exact .inr ⟨hn',h2⟩
theorem Pst.aft {how:Int}{s':RunT}(h:Pst C m b s how s') (hn:how≠5):Aft C m b s s':=by
 rcases h with ⟨h1,_⟩|⟨_,h2⟩
 ·exact absurd h1 hn
 ·exact h2
theorem iP.heap (h:iP C m s) (hm:m<=2^39):∃ B:Nat,jX C.N B s.2.2.2.2.1/\B<=2^39/\(B:Int)+134217728*((HSub.hSub (α:=Int) (β:=Int) (γ:=Int) (C.F) (s.2.2.2.2.2.2.1)))<=m:=by
 obtain ⟨B,h1,h2⟩:=h.hp
 have:=h.bg
 exact ⟨B,h1,by omega,h2⟩
theorem iP.put (h:iP C m s){H:qi}{B:Nat}{m':Int}(hH:jX C.N B H) (hB:(B:Int)+134217728*((HSub.hSub (α:=Int) (β:=Int) (γ:=Int) (C.F) (s.2.2.2.2.2.2.1)))<=m'):iP C m' (s.1,(s.2.1,(s.2.2.1,(s.2.2.2.1,(H,s.2.2.2.2.2))))):=⟨h.nd,h.lm,h.an,h.u0,h.us,⟨B,hH,hB⟩,h.d0,h.dp,h.b0,h.bg,h.rq,h.en⟩
theorem qJ {k:Int}:(R.cA s k).sat (·=(5,(s.1,(s.2.1,(s.2.2.1,(s.2.2.2.1,(s.2.2.2.2.1,(s.2.2.2.2.2.1,(s.2.2.2.2.2.2.1,(s.2.2.2.2.2.2.2.1,(k,([]:List Int))))))))))) ):=by
 unfold R.cA
 exact aA fun _=>aD rfl
theorem iP.halt (h:iP C m s){k:Int}(hk:3<=k/\k<=6){H:qi}{d b:Int}:B5 C (s.1,(s.2.1,(s.2.2.1,(s.2.2.2.1,(H,(d,(b,(s.2.2.2.2.2.2.2.1,(k,([]:List Int)))))))))):=⟨h.nd,.inr ⟨k,hk.1,hk.2,rfl,h.rq⟩⟩
theorem bt:cD (0,((0,0),((false,([]:List Int)),(([]:List Int),0)))):=.of (show (0:Int)≠5 by decide)
theorem gO (h:iP C m s):(R.aK s).sat (cy C m b s):=by
 unfold R.aK
 exact aA fun _=>aY qJ (aA fun _=>aD ⟨bt,.inl ⟨rfl,h.halt (by decide)⟩⟩)
theorem DL (h:iP C m s) (hF:C.F<=2^40) (hD:C.D<=2^40):(R.bz s).sat fun r=>(r.1=false/\B5 C r.2)\/(r.1=true/\r.2.2.2.2.2.1=s.2.2.2.2.1/\Eq (α:=Int) (r.2.2.2.2.2.2.1) ((HAdd.hAdd (α:=Int) (β:=Int) (γ:=Int) (s.2.2.2.2.2.1) (1)))/\Eq (α:=Int) (r.2.2.2.2.2.2.2.1) ((HAdd.hAdd (α:=Int) (β:=Int) (γ:=Int) (s.2.2.2.2.2.2.1) (1)))/\iP C (m-134217728) r.2):=by
 unfold R.bz
 have h1:=h.dp
 have h2:=h.bg
 have h3:=h.d0
 have h4:=h.b0
 have e1:s.2.1.2.1=C.D:=congrArg (fun x=>x.2.1) h.lm
 have e2:s.2.1.2.2=C.F:=congrArg (fun x=>x.2.2) h.lm
 refine aA fun _=>?_
 refine lb (fun _=>aY qJ (aA fun _=>aD (.inl ⟨rfl,?_⟩))) fun hd=>lb (fun _=>aY qJ (aA fun _=>aD (.inl ⟨rfl,?_⟩))) fun hf=>aD (.inr ?_)
 ·exact h.halt (k:=5) (by decide)
 ·exact h.halt (k:=6) (by decide)
 ·have hd:LT.lt (α:=Int) (s.2.2.2.2.2.1) (s.2.1.2.1):=hd
  have hf:LT.lt (α:=Int) (s.2.2.2.2.2.2.1) (s.2.1.2.2):=hf
  rw [e1] at hd
  rw [e2] at hf
  have e1:IntKind.wrap .i64 (HAdd.hAdd (α:=Int) (β:=Int) (γ:=Int) (s.2.2.2.2.2.1) (1))=(HAdd.hAdd (α:=Int) (β:=Int) (γ:=Int) (s.2.2.2.2.2.1) (1)):=wrap64 (by omega)
  have e2:IntKind.wrap .i64 (HAdd.hAdd (α:=Int) (β:=Int) (γ:=Int) (s.2.2.2.2.2.2.1) (1))=(HAdd.hAdd (α:=Int) (β:=Int) (γ:=Int) (s.2.2.2.2.2.2.1) (1)):=wrap64 (by omega)
  rw [e1,e2]
  refine ⟨rfl,rfl,rfl,rfl,h.nd,h.lm,h.an,h.u0,h.us,?_,?_,?_,?_,?_,h.rq,h.en⟩
  ·obtain ⟨B,g1,g2⟩:=h.hp
   refine ⟨B,g1,?_⟩
   show (B:Int)+134217728*(C.F-((HAdd.hAdd (α:=Int) (β:=Int) (γ:=Int) (s.2.2.2.2.2.2.1) (1))))<=m-134217728
   omega
  ·show LE.le (α:=Int) (0) ((HAdd.hAdd (α:=Int) (β:=Int) (γ:=Int) (s.2.2.2.2.2.1) (1)))
   omega
  ·show LE.le (α:=Int) ((HAdd.hAdd (α:=Int) (β:=Int) (γ:=Int) (s.2.2.2.2.2.1) (1))) (C.D)
   omega
  ·show LE.le (α:=Int) (0) ((HAdd.hAdd (α:=Int) (β:=Int) (γ:=Int) (s.2.2.2.2.2.2.1) (1)))
   omega
  ·show LE.le (α:=Int) ((HAdd.hAdd (α:=Int) (β:=Int) (γ:=Int) (s.2.2.2.2.2.2.1) (1))) (C.F)
   omega
theorem o9 (h:iP C m s) (hm:m<=2^39){c:j6}(hc:pG C.N s.2.2.2.2.1.2 c) (hv:∀ B,jX C.N B s.2.2.2.2.1->sL B c):(R.aT s c).sat fun r=>cy C m s.2.2.2.2.2.2.1 s r/\(r.1.2≠5->r.1.2=0/\r.1.1.1=6/\0<=r.1.1.2.2.2.2/\r.2.2.2.2.2.1.2[r.1.1.2.2.2.2.toNat]?=some c):=by
 unfold R.aT
 obtain ⟨B,h1,h2,h3⟩:=h.heap hm
 refine aA fun _=>aB (Br h1 h2 hc (hv B h1)) fun r ⟨r1,r2,r3⟩=>aA fun _=>dx (aI (fun hr=>aD ⟨⟨.of (show (6:Int)≠5 by decide),.inr ⟨show (0:Int)≠5 by decide,h.put r1 h3,r2,rfl,Int.le_refl _⟩⟩,fun _=>⟨rfl,rfl,r3 hr⟩⟩) fun _=>aY qJ (aA fun _=>aD ⟨⟨bt,.inl ⟨rfl,h.halt (by decide)⟩⟩,fun e=>absurd rfl e⟩))
theorem pG.mk' {N:List gJ}{l:List j6}{c:j6}(k:Int) (e:c.1=k) (h:k≠3/\k≠5/\k≠6/\k≠7/\k≠8):pG N l c:=by
 subst e
 exact ⟨fun e=>absurd e h.1,fun e=>absurd e h.2.1,fun e=>absurd e h.2.2.1,fun e=>absurd e h.2.2.2.1,fun e=>absurd e h.2.2.2.2⟩
theorem p8 (h:iP C m s) (hm:m<=2^39){a:Int}:(R.bk s a).sat fun r=>Pst C m s.2.2.2.2.2.2.1 s r.1.2 r.2/\(r.1.2≠5->r.1.2=0):=by
 unfold R.bk
 exact aA fun _=>aB (o9 h hm (.mk' 9 rfl (by decide)) fun B _=>⟨Nat.zero_le _,Nat.zero_le _,by simp,by simp,bt,Nat.zero_le _⟩) fun r ⟨r1,r2⟩=>aA fun _=>aD ⟨r1.2,fun e=>(r2 e).1⟩
theorem mu {u:List Int}:(R.bw u).sat fun r=>cD r/\r.1=5:=by
 unfold R.bw
 have h0:(0:Int)<=lX (u.length:Int) 4096/\lX (u.length:Int) 4096<=u.length/\lX (u.length:Int) 4096<=4096:=by rw [gp];omega
 refine aA fun _=>gG (iL h0.1 (iL h0.2.1 (pV (aA fun _=>aD ⟨fun _=>?_,rfl⟩))))
 show (List.take _ (List.drop 0 u)).length<=4096
 simp only [List.length_take]
 omega
theorem D0 (h:iP C m s) (hm:m<=2^39){n:List UInt8}(hn:n.length<=4096):(R.cq s n).sat fun r=>cy C m s.2.2.2.2.2.2.1 s r/\r.1.2≠0:=by
 unfold R.cq
 refine aA fun _=>aB mu fun u hu=>aA fun _=>aB (o9 h hm (.mk' 10 rfl (by decide)) fun B _=>⟨Nat.zero_le _,Nat.zero_le _,by simp,by simp,hu.1,hn⟩) fun r ⟨r1,r2⟩=>aA fun _=>dx (bI (fun e=>aD ⟨⟨r1.1,.inr ⟨show (4:Int)≠5 by decide,r1.2.aft (by rw [e];decide)⟩⟩,show (4:Int)≠0 by decide⟩) fun e=>aD ⟨r1,e⟩)
theorem nJ (h:iP C m s) (hm:m<=2^39){k:Int}:(R.aF s k).sat fun r=>cy C m s.2.2.2.2.2.2.1 s r/\r.1.2≠0:=by
 unfold R.aF
 refine aA fun _=>bI (fun _=>?_) fun _=>bI (fun _=>?_) fun _=>bI (fun _=>?_) fun _=>bI (fun _=>?_) fun _=>aY qJ (aA fun _=>aD ⟨⟨bt,.inl ⟨rfl,h.halt (by decide)⟩⟩,show (5:Int)≠0 by decide⟩)<;>exact aB (D0 h hm (by decide)) fun r hr=>aA fun _=>aD hr
theorem po (h:iP C m s) (hm:m<=2^39){v:eD}(hv:cD v){k:Int}:(R.bm s v k).sat (cy C m s.2.2.2.2.2.2.1 s):=by
 unfold R.bm
 exact aA fun _=>dx (bI (fun _=>aD ⟨hv,.inr ⟨show (0:Int)≠5 by decide,.refl h⟩⟩) fun _=>aB (nJ h hm) fun r hr=>aA fun _=>aD hr.1)
theorem rZ (h:iP C m s) (hA:C.A.length<=2^40){q:AB}(hq:uT q):(R.bX s q).sat fun r=>Pst C m s.2.2.2.2.2.2.1 s r.1.2 r.2/\(r.1.2≠5->r.1.2=0):=by
 unfold R.bX
 have h1:=h.u0
 have h2:=h.us
 refine aA fun _=>bI (fun _=>aY qJ (aA fun _=>aD ⟨.inl ⟨rfl,h.nd,.inl ⟨rfl,hq⟩⟩,fun e=>absurd rfl e⟩)) fun hne=>?_
 have e0:s.2.2.1.length=C.A.length:=congrArg List.length h.an
 have hne:Ne (α:=Int) (s.2.2.2.1) ((s.2.2.1.length:Int)):=hne
 have e1:IntKind.wrap .i64 (HAdd.hAdd (α:=Int) (β:=Int) (γ:=Int) (s.2.2.2.1) (1))=(HAdd.hAdd (α:=Int) (β:=Int) (γ:=Int) (s.2.2.2.1) (1)):=wrap64 (by omega)
 have e2:IntKind.wrap .i64 (HSub.hSub (α:=Int) (β:=Int) (γ:=Int) ((HAdd.hAdd (α:=Int) (β:=Int) (γ:=Int) (s.2.2.2.1) (1))) (1))=s.2.2.2.1:=by rw [wrap64 (by omega)];omega
 rw [e1,e2]
 exact bn h1 (by omega) fun a _ _=>pV (aA fun _=>aD ⟨.inr ⟨show (0:Int)≠5 by decide,⟨h.nd,h.lm,h.an,by show LE.le (α:=Int) (0) ((HAdd.hAdd (α:=Int) (β:=Int) (γ:=Int) (s.2.2.2.1) (1)));omega,by show LE.le (α:=Int) ((HAdd.hAdd (α:=Int) (β:=Int) (γ:=Int) (s.2.2.2.1) (1))) (_);omega,h.hp,h.d0,h.dp,h.b0,h.bg,h.rq,h.en⟩,.refl _,rfl,Int.le_refl _⟩,fun _=>rfl⟩)
end
end Go.Mach

set_option maxRecDepth 100000
namespace Go.Mach
open Res
def vB (k:Int):Bool:=decide (30<=k/\k<=53/\k≠40)
def yy (k:Int):Bool:=decide (k=33\/k=52\/k=53)
def oG (s k:Int):Bool :=
 if s=1\/s=2 then true
 else if s=3 then vB k
 else if s=4 then yy k
 else if s=5 then k == 7
 else if s=6 then k == 20
 else if s=7 then k == 40
 else if s=8 then k == 4
 else if s=9 then k == 11 || vB k
 else if s=10 then k == 11 || k == 5 || k == 6 || vB k
 else if s=11 then k == 11 || k == 17
 else if s=12 then k == 11 || k == 4
 else if s=13 then k == 4 || vB k
 else false
def yC (n last:Int):List Int:=List.replicate (n-1).toNat 6++[last]
def shp (k n:Int):List Int×Int :=
 if k=1\/k=4 then ([],1)
 else if k=3\/k=15\/k=40\/k=43\/k=52 then ([3],0)
 else if k=5\/k=6 then ([5],5)
 else if k=7\/k=14 then (List.take (min n 1).toNat [3],0)
 else if k=8 then (List.take (min (max n 2) 3).toNat [3,2,2],0)
 else if k=9 then ([3,2],0)
 else if k=10 then ([10,9,9,2],0)
 else if k=16 then ([8,11,12],0)
 else if k=17 then ([8],0)
 else if k=18 then ([2],0)
 else if k=19\/k=41 then (yC n 8,0)
 else if k=42 then (yC n 13,0)
 else if k=38 then ([],3)
 else if k=39 then ([],7)
 else if k=44\/k=45 then ([4],0)
 else if k=46\/k=47\/k=53 then ([3,3],0)
 else if k=48 then ([3,3,3],0)
 else if k=49 then ([4,3],0)
 else if k=50\/k=51 then ([3],3)
 else ([],0)
def srt (l:List Int×Int) (i:Nat):Int:=l.1.getD i l.2
structure qm (N:List gJ) (x:gJ):Prop where
 kid:∀ (i:Nat) (k:Int),x.2.2.2.2.2[i]?=some k->0<=k/\∃ y,N[k.toNat]?=some y/\oG (srt (shp x.1 x.2.2.2.2.2.length) i) y.1=true/\x.2.2.2.2.2.length+y.2.2.2.2.2.length<=20000
 len:(shp x.1 x.2.2.2.2.2.length).1.length<=x.2.2.2.2.2.length
 nam:x.1=49->x.2.1≠[]
def Kid (N:List gJ) (x:gJ) (i:Nat) (P:Int->Prop):Prop:=∃ k y,x.2.2.2.2.2[i]?=some k/\0<=k/\N[k.toNat]?=some y/\P y.1
theorem qm.at' {N:List gJ}{x:gJ}(h:qm N x){i:Nat}(hi:i < x.2.2.2.2.2.length) (s:Int) (hs:srt (shp x.1 x.2.2.2.2.2.length) i=s):Kid N x i fun k=>oG s k=true:=by
 obtain ⟨h0,y,h1,h2,_⟩:=h.kid i _ (List.getElem?_eq_getElem hi)
 exact ⟨_,y,List.getElem?_eq_getElem hi,h0,h1,hs▸h2⟩
theorem nx {k:Int}:(R.dO k).sat (·=vB k):=by
 unfold R.dO vB
 refine aA fun _=>lb (fun h1=>lb (fun h2=>aD ?_) fun h2=>aD ?_) fun h1=>aD ?_
 ·show (!(k == 40))=_
  by_cases hk:k=40
  ·subst hk;rfl
  ·rw [show (k == 40)=false from beq_false_of_ne hk,decide_eq_true ⟨h1,h2,hk⟩];rfl
 ·rw [decide_eq_false (by omega)]
 ·rw [decide_eq_false (by omega)]
theorem Ce {k:Int}:(R.fl k).sat (·=yy k):=by
 unfold R.fl yy
 refine aA fun _=>bI (fun h1=>aD ?_) fun h1=>bI (fun h2=>aD ?_) fun h2=>aD ?_
 ·rw [decide_eq_true (by omega)]
 ·rw [decide_eq_true (by omega)]
 ·show (k == 53)=_
  by_cases hk:k=53
  ·subst hk;rfl
  ·rw [show (k == 53)=false from beq_false_of_ne hk,decide_eq_false (by omega)]
theorem tK {k:Int}:Safe (R.dy k):=⟨by unfold R.dy;repeat' (first|with_reducible (first|refine aD ?_|refine aA fun _=>?_|refine dx ?_|refine er (fun _=>?_) fun _=>?_|refine lb (fun _=>?_) fun _=>?_|refine bI (fun _=>?_) fun _=>?_|refine gn rfl ?_|refine hJ rfl ?_|refine aI (fun _=>?_) fun _=>?_|refine pV ?_|refine q_e ?_|refine q_p fun _ _=>?_|refine q_b fun _=>?_|exact safe|refine fJ ?_)|exact trivial)⟩
theorem sub_ok {k:Int}:Safe (R.lL k):=⟨by unfold R.lL;have:=@tK;repeat' (first|with_reducible (first|refine aD ?_|refine aA fun _=>?_|refine dx ?_|refine er (fun _=>?_) fun _=>?_|refine lb (fun _=>?_) fun _=>?_|refine bI (fun _=>?_) fun _=>?_|refine gn rfl ?_|refine hJ rfl ?_|refine aI (fun _=>?_) fun _=>?_|refine pV ?_|refine q_e ?_|refine q_p fun _ _=>?_|refine q_b fun _=>?_|exact safe|refine fJ ?_)|exact trivial)⟩
theorem GU {s k:Int}:(R.ki s k).sat fun r=>r=true->oG s k=true:=by
 unfold R.ki oG
 have i1:Safe (R.dy k):=tK
 have i2:Safe (R.lL k):=sub_ok
 refine aA fun _=>bI (fun h=>?_) fun h1=>bI (fun h=>?_) fun h2=>bI (fun h=>?_) fun h3=>bI (fun h=>?_) fun h4=>bI (fun h=>?_) fun h5=>bI (fun h=>?_) fun h6=>bI (fun h=>?_) fun h7=>bI (fun h=>?_) fun h8=>bI (fun h=>?_) fun h9=>bI (fun h=>?_) fun h10=>bI (fun h=>?_) fun h11=>bI (fun h=>?_) fun h12=>bI (fun h=>?_) fun h13=>aD fun e=>by cases e
 all_goals try (subst h)
 ·exact q_b fun _=>aD fun _=>rfl
 ·exact q_b fun _=>aD fun _=>rfl
 ·exact aY nx (aD id)
 ·exact aY Ce (aD id)
 ·exact aD id
 ·exact aD id
 ·exact aD id
 ·exact aD id
 ·exact bI (fun h=>aD fun _=>by subst h;rfl) fun h=>aY nx (aD fun e=>by simp [e])
 ·exact bI (fun h=>aD fun _=>by subst h;rfl) fun h=>bI (fun h=>aD fun _=>by subst h;rfl) fun h=>bI (fun h=>aD fun _=>by subst h;rfl) fun h=>aY nx (aD fun e=>by simp [e])
 ·exact bI (fun h=>aD fun _=>by subst h;rfl) fun h=>aD fun e=>by simp [e]
 ·exact bI (fun h=>aD fun _=>by subst h;rfl) fun h=>aD fun e=>by simp [e]
 ·exact bI (fun h=>aD fun _=>by subst h;rfl) fun h=>aY nx (aD fun e=>by simp [e])
theorem xL {n last:Int}(hn:n<=2^40) (h0:0<=n):(R.ga n last).sat (·=yC n last):=by
 unfold R.ga
 have e:IntKind.wrap .i64 (n-1)=n-1:=wrap64 (by omega)
 rw [e]
 refine aA fun _=>aY (a:=List.replicate (n-1).toNat 6) (iA (Q:=fun l:List Int=>l=List.replicate (n-1).toNat 6) (fun x=>x.2) (n-1).toNat (by omega) (fun x=>x.1=List.replicate x.2.toNat 6) (by simp) (by simp) rfl fun x h0 h1 hI=>?_) (bG (decide_eq_true (by simp;omega)) (aD rfl))
 obtain ⟨l,i⟩:=x
 have hI:l=List.replicate i.toNat 6:=hI
 have h0:0<=i:=h0
 have h1:i<=((n-1).toNat:Int):=h1
 subst hI
 refine er (fun hl=>bG (decide_eq_true (by simp;omega)) (aD ⟨rfl,?_,?_⟩)) fun hl=>aD ?_
 ·have hl:i < n-1:=hl
  show i < ((n-1).toNat:Int)
  omega
 ·have hl:i < n-1:=hl
  show List.replicate i.toNat 6++[6]=List.replicate (IntKind.wrap .i64 (i+1)).toNat 6
  rw [wrap64 (by omega),show (i+1).toNat=i.toNat+1 by omega,List.replicate_succ']
 ·have hl:n-1<=i:=hl
  show List.replicate i.toNat 6=_
  rw [show i.toNat=(n-1).toNat by omega]
theorem nv {β:Type}{Q:β->Prop}{k a b:Int}{x y:Res β}(h1:(k=a\/k=b)->x.sat Q) (h2:¬ (k=a\/k=b)->y.sat Q):((br (k == a) (Res.ok (k == a)) (Res.ok (k == b))).bind fun v=>br v x y).sat Q:=by
 refine aB (R:=fun v=>v=decide (k=a\/k=b)) (bI (fun h=>aD ?_) fun h=>aD ?_) fun v hv=>?_
 ·subst h;simp
 ·by_cases hb:k=b
  ·subst hb;simp
  ·rw [show (k == b)=false from beq_false_of_ne hb,decide_eq_false (by omega)]
 ·subst hv
  exact aI (fun h=>h1 (of_decide_eq_true h)) fun h=>h2 (of_decide_eq_false h)
theorem br_or3 {β:Type}{Q:β->Prop}{k a b c:Int}{x y:Res β}(h1:(k=a\/k=b\/k=c)->x.sat Q) (h2:¬ (k=a\/k=b\/k=c)->y.sat Q):((br (k == a) (Res.ok (k == a)) (br (k == b) (Res.ok (k == b)) (Res.ok (k == c)))).bind fun v=>br v x y).sat Q:=by
 refine aB (R:=fun v=>v=decide (k=a\/k=b\/k=c)) (bI (fun h=>aD ?_) fun h=>bI (fun h=>aD ?_) fun h=>aD ?_) fun v hv=>?_
 ·subst h;simp
 ·subst h;simp
 ·by_cases hb:k=c
  ·subst hb;simp
  ·rw [show (k == c)=false from beq_false_of_ne hb,decide_eq_false (by omega)]
 ·subst hv
  exact aI (fun h=>h1 (of_decide_eq_true h)) fun h=>h2 (of_decide_eq_false h)
theorem br_or5 {β:Type}{Q:β->Prop}{k a b c d e:Int}{x y:Res β}(h1:(k=a\/k=b\/k=c\/k=d\/k=e)->x.sat Q) (h2:¬ (k=a\/k=b\/k=c\/k=d\/k=e)->y.sat Q):((br (k == a) (Res.ok (k == a)) (br (k == b) (Res.ok (k == b)) (br (k == c) (Res.ok (k == c)) (br (k == d) (Res.ok (k == d)) (Res.ok (k == e)))))).bind fun v=>br v x y).sat Q:=by
 refine aB (R:=fun v=>v=decide (k=a\/k=b\/k=c\/k=d\/k=e)) (bI (fun h=>aD ?_) fun h=>bI (fun h=>aD ?_) fun h=>bI (fun h=>aD ?_) fun h=>bI (fun h=>aD ?_) fun h=>aD ?_) fun v hv=>?_
 ·subst h;simp
 ·subst h;simp
 ·subst h;simp
 ·subst h;simp
 ·by_cases hb:k=e
  ·subst hb;simp
  ·rw [show (k == e)=false from beq_false_of_ne hb,decide_eq_false (by omega)]
 ·subst hv
  exact aI (fun h=>h1 (of_decide_eq_true h)) fun h=>h2 (of_decide_eq_false h)
theorem EJ {k n:Int}(hn:n<=2^40) (h0:0<=n):(R.jR k n).sat (·=shp k n):=by
 unfold R.jR shp
 refine aA fun _=>nv (fun h=>aD (by rw [if_pos h])) fun h=>?_
 rw [if_neg h]
 refine br_or5 (fun h=>aD (by rw [if_pos h])) fun h=>?_
 rw [if_neg h]
 refine nv (fun h=>aD (by rw [if_pos h])) fun h=>?_
 rw [if_neg h]
 refine nv (fun h=>gG (iL (by rw [gp];omega) (iL (by rw [gp];simp;omega) (aD ?_)))) fun h=>?_
 ·rw [if_pos h,gp];rfl
 rw [if_neg h]
 refine bI (fun h=>gG (iL (by rw [gp,kX];omega) (iL (by rw [gp,kX];simp;omega) (aD ?_)))) fun h=>?_
 ·rw [if_pos h,gp,kX];rfl
 rw [if_neg h]
 iterate 5 (refine bI (fun h=>aD (by rw [if_pos h])) fun h=>?_;rw [if_neg h])
 refine nv (fun h=>aY (xL hn h0) (aA fun _=>aD (by rw [if_pos h]))) fun h=>?_
 rw [if_neg h]
 refine bI (fun h=>aY (xL hn h0) (aA fun _=>aD (by rw [if_pos h]))) fun h=>?_
 rw [if_neg h]
 iterate 2 (refine bI (fun h=>aD (by rw [if_pos h])) fun h=>?_;rw [if_neg h])
 refine nv (fun h=>aD (by rw [if_pos h])) fun h=>?_
 rw [if_neg h]
 refine br_or3 (fun h=>aD (by rw [if_pos h])) fun h=>?_
 rw [if_neg h]
 iterate 2 (refine bI (fun h=>aD (by rw [if_pos h])) fun h=>?_;rw [if_neg h])
 refine nv (fun h=>aD (by rw [if_pos h])) fun h=>?_
 rw [if_neg h]
 exact aD rfl
end Go.Mach

set_option maxRecDepth 100000
namespace Go.Mach
open Res
abbrev kl (x:gJ):Nat:=x.2.2.2.2.2.length+x.2.1.length
theorem xu:∀ {l:List Nat}{i a:Nat},l[i]?=some a->a<=l.sum
 |[],_,_,h=>by simp at h
 |x::l,0,a,h=>by
  have:x=a:=by simpa using h
  subst this
  simp
 |x::l,i+1,a,h=>by
  have h:l[i]?=some a:=by simpa using h
  have:=xu h
  simp only [List.sum_cons]
  omega
theorem Bo:∀ {l:List Nat}{i j a b:Nat},l[i]?=some a->l[j]?=some b->i < j->a+b<=l.sum
 |[],_,_,_,_,h,_,_=>by simp at h
 |x::l,0,j,a,b,h,g,hij=>by
  have:x=a:=by simpa using h
  subst this
  obtain ⟨j',rfl⟩:∃ j',j=j'+1:=⟨j-1,by omega⟩
  have g:l[j']?=some b:=by simpa using g
  have:=xu g
  simp only [List.sum_cons]
  omega
 |x::l,i+1,j,a,b,h,g,hij=>by
  obtain ⟨j',rfl⟩:∃ j',j=j'+1:=⟨j-1,by omega⟩
  have h:l[i]?=some a:=by simpa using h
  have g:l[j']?=some b:=by simpa using g
  have:=Bo h g (by omega)
  simp only [List.sum_cons]
  omega
theorem CO {t:List gJ}(ht:t.length<=20000):(R.fx t 20000).sat fun r=>r<=20000->(t.map kl).sum<=20000:=by
 unfold R.fx
 refine aA fun _=>aB (iA (Q:=fun r:Int=>r<=20000->(t.map kl).sum<=20000) (fun x=>x.2) t.length (by omega) (fun x=>0<=x.1/\(x.1<=20000->(((t.take x.2.toNat).map kl).sum:Int)<=x.1)) (by simp) (by simp) (by simp) fun x h0 h1 hI=>?_) fun r hr=>aD hr
 obtain ⟨n,i⟩:=x
 obtain ⟨n0,hs⟩:=hI
 have h0:0<=i:=h0
 have h1:i<=(t.length:Int):=h1
 have n0:0<=n:=n0
 have hs:n<=20000->(((t.take i.toNat).map kl).sum:Int)<=n:=hs
 refine aB (R:=fun b=>(b=true->i < (t.length:Int)/\n<=20000)/\(b=false->i=(t.length:Int)\/20000 < n)) (er (fun hl=>aD ⟨fun e=>⟨hl,of_decide_eq_true e⟩,fun e=>.inr (Int.not_le.1 (of_decide_eq_false e))⟩) fun hl=>aD ⟨(fun e=>by cases e),fun _=>.inl (Int.le_antisymm h1 hl)⟩) fun b ⟨b1,b2⟩=>?_
 cases b with
 |true =>
  obtain ⟨hl,hn⟩:=b1 rfl
  refine gn rfl (bR h0 (by omega) fun x hx _=>aD ⟨rfl,hl,?_⟩)
  have hx:t[i.toNat]?=some x:=hx
  have e1:IntKind.wrap .i64 (20000+1)=20001:=by decide
  have e2:(IntKind.wrap .i64 (i+1)).toNat=i.toNat+1:=by rw [wrap64 (by omega)];omega
  have e3:((t.take (i.toNat+1)).map kl).sum=((t.take i.toNat).map kl).sum+kl x:=by
   rw [List.take_add_one,hx]
   simp
  have:=hs hn
  show 0<=IntKind.wrap .i64 _/\(IntKind.wrap .i64 _<=20000->(((t.take (IntKind.wrap .i64 (i+1)).toNat).map kl).sum:Int)<=IntKind.wrap .i64 _)
  rw [e1,e2,e3]
  have c1:0<=lX (x.2.2.1.length:Int) 20001/\lX (x.2.2.1.length:Int) 20001<=20001:=by rw [gp];omega
  have c2:0<=lX (x.2.2.2.2.1.2.length:Int) 20001/\lX (x.2.2.2.2.1.2.length:Int) 20001<=20001:=by rw [gp];omega
  have c3:0<=lX (x.2.2.2.2.2.length:Int) 20001/\lX (x.2.2.2.2.2.length:Int) 20001<=20001:=by rw [gp];omega
  have c4:0<=lX (x.2.1.length:Int) 20001/\lX (x.2.1.length:Int) 20001<=20001:=by rw [gp];omega
  have c5:lX (x.2.2.2.2.2.length:Int) 20001<=20000->lX (x.2.2.2.2.2.length:Int) 20001=(x.2.2.2.2.2.length:Int):=by rw [gp];omega
  have c6:lX (x.2.1.length:Int) 20001<=20000->lX (x.2.1.length:Int) 20001=(x.2.1.length:Int):=by rw [gp];omega
  have ek:((kl x:Nat):Int)=(x.2.2.2.2.2.length:Int)+(x.2.1.length:Int):=Int.natCast_add _ _
  generalize kl x=kx at *
  generalize lX (x.2.2.1.length:Int) 20001=m1 at *
  generalize lX (x.2.2.2.2.1.2.length:Int) 20001=m2 at *
  generalize lX (x.2.2.2.2.2.length:Int) 20001=m3 at *
  generalize lX (x.2.1.length:Int) 20001=m4 at *
  rw [wrap64 (n:=n+1) (by omega),wrap64 (n:=n+1+m1) (by omega),wrap64 (n:=n+1+m1+m2) (by omega),wrap64 (n:=n+1+m1+m2+m3) (by omega),wrap64 (n:=n+1+m1+m2+m3+m4) (by omega)]
  refine ⟨by omega,fun hle=>?_⟩
  have:=c5 (by omega)
  have:=c6 (by omega)
  omega
 |false =>
  refine hJ rfl (aD fun hle=>?_)
  have hle:n<=20000:=hle
  rcases b2 rfl with e|e
  ·have:=hs hle
   rw [e] at this
   rw [show ((t.length:Int)).toNat=t.length by omega,List.take_length] at this
   omega
  ·omega
structure rT (t:List gJ):Prop where
 one:∀ (i:Nat) (x:gJ),t[i]?=some x->x.2.2.2.2.2.length<=20000
 two:∀ (i j:Nat) (x y:gJ),t[i]?=some x->t[j]?=some y->i < j->x.2.2.2.2.2.length+y.2.2.2.2.2.length<=20000
 nm:∀ (i:Nat) (x:gJ),t[i]?=some x->x.2.1.length<=20000
theorem few_ok {t:List gJ}:(R.jA t).sat fun r=>r=true->t.length<=20000/\rT t:=by
 unfold R.jA
 refine aA fun _=>lb (fun h=>?_) fun _=>aD fun e=>by cases e
 have h:(t.length:Int)<=20000:=h
 refine aB (CO (by omega)) fun r hr=>aA fun _=>aD fun e=>?_
 have hs:=hr (of_decide_eq_true e)
 have ho:∀ (i:Nat) (x:gJ),t[i]?=some x->x.2.2.2.2.2.length+x.2.1.length<=20000:=fun i x hx=>by
  have:(t.map kl)[i]?=some (kl x):=by rw [List.getElem?_map,hx];rfl
  exact Nat.le_trans (xu this) hs
 refine ⟨by omega,fun i x hx=>?_,fun i j x y hx hy hij=>?_,fun i x hx=>?_⟩
 ·have:=ho i x hx
  omega
 ·have h1:(t.map kl)[i]?=some (kl x):=by rw [List.getElem?_map,hx];rfl
  have h2:(t.map kl)[j]?=some (kl y):=by rw [List.getElem?_map,hy];rfl
  have:(x.2.2.2.2.2.length+x.2.1.length)+(y.2.2.2.2.2.length+y.2.1.length)<=20000:=Nat.le_trans (Bo h1 h2 hij) hs
  omega
 ·have:=ho i x hx
  omega
def qq (t:List gJ) (m:Nat):Prop:=∀ (n:Nat) (x:gJ),n < m->t[n]?=some x->∀ (i:Nat) (k:Int),x.2.2.2.2.2[i]?=some k->(n:Int) < k/\k < (t.length:Int)
theorem Es {t:List gJ}(ht:t.length<=4096) (hf:rT t):(R.jq t).sat fun r=>r=true->qq t t.length:=by
 unfold R.jq
 refine aA fun _=>aB (iA (Q:=fun r:List Int ⊕ Bool=>match r with|.inl _=>qq t t.length|.inr b=>b=false) (fun x=>x.2) t.length (by omega) (fun x=>x.1.length<=20000*x.2.toNat/\qq t x.2.toNat) (by simp) (by simp) ⟨by simp,fun n x h=>by simp at h⟩ fun x h0 h1 hI=>?_) fun r hr=>?_
 ·obtain ⟨l,i⟩:=x
  obtain ⟨hl,ho⟩:=hI
  have h0:0<=i:=h0
  have h1:i<=(t.length:Int):=h1
  have hl:l.length<=20000*i.toNat:=hl
  have ho:qq t i.toNat:=ho
  refine er (fun hi=>?_) fun hi=>aD ?_
  ·have hi:i < (t.length:Int):=hi
   refine bR h0 (by omega) fun x hx _=>?_
   have hx:t[i.toNat]?=some x:=hx
   have hk:=hf.one _ x hx
   refine aB (R:=fun r:List Int ⊕ Bool=>match r with|.inl l'=>l'.length<=l.length|.inr b=>b=false) (er (fun _=>?_) fun _=>aD (Nat.le_refl _)) fun r hr=>?_
   ·refine aB (R:=fun b=>b=false->0 < l.length) (bI (fun _=>aD fun e=>by cases e) fun hne=>?_) fun b hb=>?_
    ·have hne:(l.length:Int)≠0:=hne
     have e:IntKind.wrap .i64 ((l.length:Int)-1)=(l.length:Int)-1:=wrap64 (by omega)
     show (ah (ile 0 (IntKind.wrap .i64 ((l.length:Int)-1)) && _) _).sat _
     rw [e]
     exact gG (iL (by omega) (nr (by show (l.length:Int)-1 < (l.length:Int);omega) (bn (by omega) (by show _ < l.length;omega) fun _ _ _=>aD fun _=>by omega)))
    ·cases b with
     |true=>exact gn rfl (aD rfl)
     |false =>
      have hp:=hb rfl
      have e:IntKind.wrap .i64 ((l.length:Int)-1)=(l.length:Int)-1:=wrap64 (by omega)
      refine hJ rfl ?_
      show (ah (ile 0 (IntKind.wrap .i64 ((l.length:Int)-1)) && _) _).sat _
      rw [e]
      refine gG (iL (by omega) (iL (by show (l.length:Int)-1<=(l.length:Int);omega) (aD ?_)))
      show (List.take _ (List.drop 0 l)).length<=l.length
      simp
   ·cases r with
    |inr b=>exact jd (aD hr)
    |inl l' =>
     have hr:l'.length<=l.length:=hr
     refine jf ?_
     have e:IntKind.wrap .i64 ((x.2.2.2.2.2.length:Int)-1)=(x.2.2.2.2.2.length:Int)-1:=wrap64 (by omega)
     show ((loop _ fuel (l',IntKind.wrap .i64 ((x.2.2.2.2.2.length:Int)-1))).bind _).sat _
     rw [e]
     refine aB (kn (Q:=fun r:List Int ⊕ Bool=>match r with|.inl l''=>l''.length<=l.length+20000/\qq t (i.toNat+1)|.inr b=>b=false) (fun y=>(y.2+1).toNat) (by show ((x.2.2.2.2.2.length:Int)-1+1).toNat<=_;omega) (fun y=>-1<=y.2/\y.2 < (x.2.2.2.2.2.length:Int)/\(y.1.length:Int)+y.2+1<=(l'.length:Int)+(x.2.2.2.2.2.length:Int)/\∀ (j:Nat) (k:Int),y.2 < (j:Int)->x.2.2.2.2.2[j]?=some k->i < k/\k < (t.length:Int)) ⟨by show -1<=(x.2.2.2.2.2.length:Int)-1;omega,by show (x.2.2.2.2.2.length:Int)-1 < _;omega,by show (l'.length:Int)+((x.2.2.2.2.2.length:Int)-1)+1<=_;omega,fun j k hj hk=>?_⟩ fun y hy=>?_) fun r hr=>?_
     ·have hj:(x.2.2.2.2.2.length:Int)-1 < (j:Int):=hj
      have:=(List.getElem?_eq_some_iff.1 hk).1
      exact absurd this (by show ¬ (j < x.2.2.2.2.2.length);omega)
     ·obtain ⟨m,j⟩:=y
      obtain ⟨y1,y2,y3,y4⟩:=hy
      have y1:-1<=j:=y1
      have y2:j < (x.2.2.2.2.2.length:Int):=y2
      have y3:(m.length:Int)+j+1<=(l'.length:Int)+(x.2.2.2.2.2.length:Int):=y3
      have y4:∀ (j':Nat) (k:Int),j < (j':Int)->x.2.2.2.2.2[j']?=some k->i < k/\k < (t.length:Int):=y4
      refine lb (fun hj=>?_) fun hj=>aD ?_
      ·have hj:0<=j:=hj
       refine aB (R:=fun b=>b=false->∀ k,x.2.2.2.2.2[j.toNat]?=some k->i < k/\k < (t.length:Int)) (bn hj (by show _ < x.2.2.2.2.2.length;omega) fun k hk _=>lb (fun _=>aD fun e=>by cases e) fun hik=>bn hj (by show _ < x.2.2.2.2.2.length;omega) fun k' hk' _=>aD fun e k'' hk''=>?_) fun b hb=>?_
       ·have e1:some k=some k'':=hk.symm.trans hk''
        have e2:some k'=some k'':=hk'.symm.trans hk''
        cases e1
        cases e2
        exact ⟨hik,Int.not_le.1 (of_decide_eq_false e)⟩
       ·cases b with
        |true=>exact gn rfl (aD rfl)
        |false =>
         refine hJ rfl (bn hj (by show _ < x.2.2.2.2.2.length;omega) fun k hk _=>bG (decide_eq_true ?_) (aD ⟨?_,?_⟩))
         ·show (m.length+1)*8<=2^47
          omega
         ·show (IntKind.wrap .i64 (j-1)+1).toNat < (j+1).toNat
          rw [wrap64 (n:=j-1) (by omega)]
          omega
         ·show -1<=IntKind.wrap .i64 (j-1)/\IntKind.wrap .i64 (j-1) < _/\((m++[k]).length:Int)+IntKind.wrap .i64 (j-1)+1<=_/\∀ (j':Nat) (k:Int),IntKind.wrap .i64 (j-1) < (j':Int)->_
          rw [wrap64 (n:=j-1) (by omega)]
          refine ⟨by omega,by omega,by simp;omega,fun j' k' hj' hk'=>?_⟩
          by_cases hjj:j < (j':Int)
          ·exact y4 j' k' hjj hk'
          ·have:j'=j.toNat:=by omega
           subst this
           exact hb rfl k' hk'
      ·have hj:j < 0:=hj
       refine ⟨by show m.length<=_;omega,fun n x' hn hx' i' k hk=>?_⟩
       by_cases hni:n < i.toNat
       ·exact ho n x' hni hx' i' k hk
       ·have:n=i.toNat:=by omega
        subst this
        have:some x=some x':=hx.symm.trans hx'
        cases this
        have:=y4 i' k (by omega) hk
        omega
     ·cases r with
      |inr b=>exact jd (aD hr)
      |inl l'' =>
       obtain ⟨r1,r2⟩:=hr
       have r1:l''.length<=l.length+20000:=r1
       refine jf (aD ⟨rfl,hi,?_⟩)
       show l''.length<=20000*(IntKind.wrap .i64 (i+1)).toNat/\qq t (IntKind.wrap .i64 (i+1)).toNat
       rw [wrap64 (n:=i+1) (by omega),show (i+1).toNat=i.toNat+1 by omega]
       exact ⟨by omega,r2⟩
  ·have hi:(t.length:Int)<=i:=hi
   have:i.toNat=t.length:=by omega
   rw [this] at ho
   exact ho
 ·cases r with
  |inl _=>exact jf (aD fun _=>hr)
  |inr b=>exact jd (aD fun e=>by rw [hr] at e;cases e)
end Go.Mach

set_option maxRecDepth 100000
namespace Go.Mach
open Res
instance Fg {x}:Safe (R.gV x):=by unfold R.gV;exact dw0
instance Gb {x}:Safe (R.iO x):=by unfold R.iO;exact dw0
instance G2 {x}:Safe (R.j7 x):=by unfold R.j7;exact dw0
instance HY {a}:Safe (R.kz a):=by
 unfold R.kz
 refine ⟨aA fun h=>?_⟩
 simp only [Sg.i,oks,Sh.ok,Ty.ok,List.map,Par.v,Bool.and_eq_true] at h
 have:=nh h
 have hn:(lT a).length=a.length:=by simp [lT]
 refine aB (mI (fun i=>i) a.length (by omega) (by omega) (by omega) fun i h0 h1=>?_).ok fun x _=>?_
 ·repeat' (first|with_reducible (first|refine aD ?_|refine aA fun _=>?_|refine dx ?_|refine er (fun _=>?_) fun _=>?_|refine lb (fun _=>?_) fun _=>?_|refine bI (fun _=>?_) fun _=>?_|refine gn rfl ?_|refine hJ rfl ?_|refine aI (fun _=>?_) fun _=>?_|refine pV ?_|refine yW ?_|refine tX ?_|refine q_e ?_|refine q_p fun _ _=>?_|refine q_b fun _=>?_|refine bR ?_ ?_ fun _ _ _=>?_|refine bn ?_ ?_ fun _ _ _=>?_|refine gG ?_|refine iL ?_ ?_|refine nr ?_ ?_|refine sf ?_ ?_|refine n_d ?_ ?_|refine tH (fun _=>?_) fun _=>?_|exact safe|refine fJ ?_)|exact trivial|dsimp only [Nx,Dn]|with_reducible (first|rfl|refine And.intro ?_ ?_|intro _|contradiction)|omega|refine bG (by decide) ?_|(simp (disch:=omega) only [wrap64,gp,kX,List.length_append,List.length_cons,List.length_nil,List.length_take,List.length_drop,List.length_set,List.length_replicate,List.length_reverse]<;>omega))
 ·repeat' (first|with_reducible (first|refine aD ?_|refine aA fun _=>?_|refine dx ?_|refine er (fun _=>?_) fun _=>?_|refine lb (fun _=>?_) fun _=>?_|refine bI (fun _=>?_) fun _=>?_|refine gn rfl ?_|refine hJ rfl ?_|refine aI (fun _=>?_) fun _=>?_|refine pV ?_|refine yW ?_|refine tX ?_|refine q_e ?_|refine q_p fun _ _=>?_|refine q_b fun _=>?_|refine bR ?_ ?_ fun _ _ _=>?_|refine bn ?_ ?_ fun _ _ _=>?_|refine gG ?_|refine iL ?_ ?_|refine nr ?_ ?_|refine sf ?_ ?_|refine n_d ?_ ?_|refine tH (fun _=>?_) fun _=>?_|exact safe|refine fJ ?_)|exact trivial|dsimp only [Nx,Dn]|with_reducible (first|rfl|refine And.intro ?_ ?_|intro _|contradiction)|omega|refine bG (by decide) ?_|(simp (disch:=omega) only [wrap64,gp,kX,List.length_append,List.length_cons,List.length_nil,List.length_take,List.length_drop,List.length_set,List.length_replicate,List.length_reverse]<;>omega))
instance HF {a}:Safe (R.j9 a):=by unfold R.j9;exact dw0
instance FN {x}:Safe (R.jo x):=by unfold R.jo;exact dw0
instance FP {x}:Safe (R.fG x):=by unfold R.fG;exact dw0
theorem Ey {x:gJ}:(R.fG x).sat fun r=>r=true->x.1=49->x.2.1≠[]:=by
 by_cases h:x.1=49/\x.2.1=[]
 ·obtain ⟨k,nm,y⟩:=x
  obtain ⟨h1,h2⟩:=h
  cases h1
  cases h2
  have e:(R.fG (49,([],y))).strip=some false:=by kernel_rfl
  exact bH (ow e rfl) fun r hr e=>by rw [<- hr] at e;cases e
 ·exact bH safe fun r _ _ h1 h2=>h ⟨h1,h2⟩
theorem DK {x:gJ}:(R.gx x).sat fun r=>r=true->x.1=49->x.2.1≠[]:=by
 unfold R.gx
 refine aA fun _=>aB (dw0:Safe _).ok fun b _=>aI (fun _=>aD fun e=>by cases e) fun _=>nv (fun h=>?_) fun h=>bI (fun h=>?_) fun h=>bI (fun h=>?_) fun h=>aB Ey fun r hr=>aD hr
 all_goals exact bH (dw0:Safe _).ok fun r _ _ e=>by rw [e] at h;exact absurd h (by decide)
theorem BB {t:List gJ}(ho:qq t t.length){n:Int}(h0:0<=n) (h1:n < (t.length:Int)) (ht:t.length<=4096) (hf:rT t):(R.iF t n).sat fun _=>True:=by
 unfold R.iF
 refine aA fun _=>aB (kn (Q:=fun _=>True) (fun m=>(t.length:Int).toNat-m.toNat) (by omega) (fun m=>0<=m/\m < (t.length:Int)) ⟨h0,h1⟩ fun m ⟨m0,m1⟩=>?_) fun r _=>aD trivial
 have m0:0<=m:=m0
 refine bR m0 (by omega) fun x hx _=>aB (dw0:Safe _).ok fun b _=>?_
 have hx:t[m.toNat]?=some x:=hx
 have hk:=hf.one _ x hx
 cases b with
 |inr b=>exact jd (aD trivial)
 |inl _ =>
  refine jf (bI (fun _=>aD trivial) fun hne=>?_)
  have hne:(x.2.2.2.2.2.length:Int)≠0:=hne
  have e:IntKind.wrap .i64 ((x.2.2.2.2.2.length:Int)-1)=(x.2.2.2.2.2.length:Int)-1:=wrap64 (by omega)
  show (idx _ _ (IntKind.wrap .i64 ((x.2.2.2.2.2.length:Int)-1)) _).sat _
  rw [e]
  refine bn (by omega) (by show _ < x.2.2.2.2.2.length;omega) fun k hk _=>aD ?_
  have:=ho _ x (by omega) hx _ k hk
  exact ⟨by show (t.length:Int).toNat-k.toNat < (t.length:Int).toNat-m.toNat;omega,by omega,this.2⟩
theorem GC {t:List gJ}(ho:qq t t.length) (ht:t.length<=4096) (hf:rT t){n:Int}(h0:0<=n) (h1:n < (t.length:Int)):(R.ju t n).sat fun r=>r=true->∀ x,t[n.toNat]?=some x->(shp x.1 x.2.2.2.2.2.length).1.length<=x.2.2.2.2.2.length/\∀ (i:Nat) (k:Int),x.2.2.2.2.2[i]?=some k->∃ y,t[k.toNat]?=some y/\oG (srt (shp x.1 x.2.2.2.2.2.length) i) y.1=true:=by
 unfold R.ju
 refine aA fun _=>bR h0 (by omega) fun x hx _=>?_
 have hx:t[n.toNat]?=some x:=hx
 have hk:=hf.one _ x hx
 have hord:=ho _ x (by omega) hx
 refine aY (EJ (by show (x.2.2.2.2.2.length:Int)<=_;omega) (by show (0:Int)<=(x.2.2.2.2.2.length:Int);omega)) (aA fun _=>aB (R:=fun b=>b=false->(shp x.1 x.2.2.2.2.2.length).1.length<=x.2.2.2.2.2.length) (aB (dw0:Safe _).ok fun b _=>aI (fun _=>aD fun e=>by cases e) fun _=>aD fun e=>?_) fun b hb=>?_)
 ·have:=Int.not_lt.1 (of_decide_eq_false e)
  exact Int.ofNat_le.1 this
 cases b with
 |true=>exact gn rfl (aD fun e=>by cases e)
 |false =>
  have hl:=hb rfl
  refine hJ rfl (aB (iA (Q:=fun r:Unit ⊕ Bool=>match r with|.inl _=>∀ (i:Nat) (k:Int),x.2.2.2.2.2[i]?=some k->∃ y,t[k.toNat]?=some y/\oG (srt (shp x.1 x.2.2.2.2.2.length) i) y.1=true|.inr b=>b=false) (fun j=>j) x.2.2.2.2.2.length (by omega) (fun j=>∀ (i:Nat) (k:Int),(i:Int) < j->x.2.2.2.2.2[i]?=some k->∃ y,t[k.toNat]?=some y/\oG (srt (shp x.1 x.2.2.2.2.2.length) i) y.1=true) (by omega) (by omega) (fun i k hi=>by omega) fun j j0 j1 hI=>?_) fun r hr=>?_)
  ·refine er (fun hj=>?_) fun hj=>aD fun i k hk=>hI i k (by have:=(List.getElem?_eq_some_iff.1 hk).1;have hj:(x.2.2.2.2.2.length:Int)<=j:=hj;have h3:i < x.2.2.2.2.2.length:=this;omega) hk
   have hj:j < (x.2.2.2.2.2.length:Int):=hj
   refine bn j0 (by show _ < x.2.2.2.2.2.length;omega) fun k hk _=>aY (a:=srt (shp x.1 x.2.2.2.2.2.length) j.toNat) (er (fun hs=>gG (iL j0 (nr hs (bn (by omega) (by omega) fun v hv _=>aD ?_)))) fun hs=>aD ?_) ?_
   ·show v=_
    have hv:(shp x.1 x.2.2.2.2.2.length).1[((0:Int)+(j.toNat:Int)).toNat]?=some v:=hv
    rw [show ((0:Int)+(j.toNat:Int)).toNat=j.toNat by omega] at hv
    unfold srt
    rw [List.getD_eq_getElem?_getD,hv]
    rfl
   ·show (shp x.1 x.2.2.2.2.2.length).2=_
    unfold srt
    rw [List.getD_eq_getElem?_getD,List.getElem?_eq_none (by omega)]
    rfl
   ·have:=hord _ k hk
    refine bR (by omega) (by omega) fun y hy _=>aB GU fun r hr=>dx (aI (fun e=>aD ⟨rfl,hj,fun i k' hi hk'=>?_⟩) fun _=>aD rfl)
    by_cases hij:(i:Int) < j
    ·exact hI i k' hij hk'
    ·have hi:(i:Int) < IntKind.wrap .i64 (j+1):=hi
     rw [wrap64 (by omega)] at hi
     have:i=j.toNat:=by omega
     subst this
     have:some k=some k':=hk.symm.trans hk'
     cases this
     exact ⟨y,hy,hr e⟩
  ·cases r with
   |inr b=>exact jd (aD fun e=>by rw [hr] at e;cases e)
   |inl _ =>
    have hr:∀ (i:Nat) (k:Int),x.2.2.2.2.2[i]?=some k->∃ y,t[k.toNat]?=some y/\oG (srt (shp x.1 x.2.2.2.2.2.length) i) y.1=true:=hr
    have hfin:∀ r:Bool,r=true->∀ x',t[n.toNat]?=some x'->(shp x'.1 x'.2.2.2.2.2.length).1.length<=x'.2.2.2.2.2.length/\∀ (i:Nat) (k:Int),x'.2.2.2.2.2[i]?=some k->∃ y,t[k.toNat]?=some y/\oG (srt (shp x'.1 x'.2.2.2.2.2.length) i) y.1=true:=fun _ _ x' hx'=>by
     have:some x=some x':=hx.symm.trans hx'
     cases this
     exact ⟨hl,hr⟩
    have hget:∀ i:Nat,i < x.2.2.2.2.2.length->∀ k:Int,x.2.2.2.2.2[i]?=some k->0<=k/\k.toNat < t.length:=fun i _ k hk=>by have:=hord i k hk;omega
    refine jf (bI (fun h16=>?_) fun _=>aB (R:=fun b=>b=true->x.2.2.2.2.2.length=3) (bI (fun _=>aD fun e=>Int.ofNat_inj.1 (eq_of_beq e)) fun _=>aD fun e=>by cases e) fun b hb=>aI (fun e=>?_) fun _=>aD (hfin _))
    ·have h16:x.1=16:=h16
     have h3:3<=x.2.2.2.2.2.length:=by rw [h16] at hl;simpa [shp] using hl
     refine bn (by decide) (by show 1 < x.2.2.2.2.2.length;omega) fun k hk _=>?_
     have g1:=hget 1 (by omega) k hk
     refine bR g1.1 g1.2 fun _ _ _=>aI (fun _=>aD (hfin _)) fun _=>bn (by decide) (by show 2 < x.2.2.2.2.2.length;omega) fun k' hk' _=>?_
     have g2:=hget 2 (by omega) k' hk'
     exact bR g2.1 g2.2 fun _ _ _=>aD (hfin _)
    ·have h3:=hb e
     refine bn (by decide) (by show 1 < x.2.2.2.2.2.length;omega) fun k hk _=>?_
     have g1:=hget 1 (by omega) k hk
     exact aB (BB ho g1.1 (by omega) ht hf) fun _ _=>aD (hfin _)
theorem Gj {t:List gJ}(ho:qq t t.length) (ht:t.length<=4096) (hf:rT t):(R.jD t).sat fun r=>r.length=t.length:=by
 unfold R.jD
 refine aA fun _=>gG (iL (by omega) (gG (iL (Int.le_refl _) (n_d (by omega) ?_))))
 refine aB (iA (Q:=fun r:List Int=>r.length=t.length) (fun x=>x.1) t.length (by omega) (fun x=>x.2.length=t.length) (by simp) (by simp) (by simp) fun x h0 h1 hI=>?_) fun r hr=>aD hr
 obtain ⟨i,l⟩:=x
 have h0:0<=i:=h0
 have hI:l.length=t.length:=hI
 refine er (fun hi=>?_) fun _=>aD hI
 have hi:i < (t.length:Int):=hi
 refine bR h0 (by omega) fun x hx _=>?_
 have hx:t[i.toNat]?=some x:=hx
 have hk:=hf.one _ x hx
 have hord:=ho _ x (by omega) hx
 have il:i < (l.length:Int):=by omega
 refine gG (iL h0 (nr il (bn (by omega) (by show _ < l.length;omega) fun a _ _=>gG (iL h0 (nr il (bn (by omega) (by show _ < l.length;omega) fun a' _ _=>?_))))))
 refine aB (iA (Q:=fun r:List Int=>r.length=t.length) (fun x=>x.1) x.2.2.2.2.2.length (by omega) (fun x=>x.2.length=t.length) (by simp) (by simp) (by show (List.set l _ _).length=_;rw [List.length_set];exact hI) fun y y0 y1 yI=>?_) fun r hr=>aD ⟨rfl,hi,hr⟩
 obtain ⟨j,m⟩:=y
 have y0:0<=j:=y0
 have yI:m.length=t.length:=yI
 refine er (fun hj=>?_) fun _=>aD yI
 have hj:j < (x.2.2.2.2.2.length:Int):=hj
 refine bn y0 (by show _ < x.2.2.2.2.2.length;omega) fun k hk _=>?_
 have ka:LT.lt (α:=Int) ((i.toNat:Int)) (k):=(hord _ k hk).1
 have kb:LT.lt (α:=Int) (k) ((t.length:Int)):=(hord _ k hk).2
 have k0:LE.le (α:=Int) (0) (k):=by omega
 have im:i < (m.length:Int):=by omega
 have km:LT.lt (α:=Int) (k) ((m.length:Int)):=by omega
 refine gG (iL h0 (nr im (bn (by omega) (by show _ < m.length;omega) fun b _ _=>gG (iL k0 (nr km (bn (by omega) (by show ((0:Int)+(Int.toNat k:Int)).toNat < m.length;omega) fun b' _ _=>aD ⟨rfl,hj,?_⟩))))))
 show (List.set m _ _).length=_
 rw [List.length_set]
 exact yI
theorem max_ok {l:List Int}(h:0 < l.length) (hl:l.length<=2^40):(R.dX l).sat fun _=>True:=by
 unfold R.dX
 refine aA fun _=>aB (R:=fun _=>True) (er (fun h1=>by have h1:(l.length:Int) < 1:=h1;omega) fun _=>aD trivial) fun _ _=>bR (by decide) (by show 0 < l.length;omega) fun a _ _=>aB (iA (Q:=fun _=>True) (fun x=>x.2) l.length (by omega) (fun _=>True) (by simp) (by show (1:Int)<=(l.length:Int);omega) trivial fun x h0 h1 _=>er (fun hi=>bR h0 (by have hi:x.2 < (l.length:Int):=hi;show _ < l.length;omega) fun _ _ _=>aD ⟨rfl,hi,trivial⟩) fun _=>aD trivial) fun _ _=>aD trivial
structure pL (t:List gJ):Prop where
 pos:0 < t.length
 len:t.length<=4096
 nod:∀ (n:Nat) (x:gJ),t[n]?=some x->qm t x
 rt:∃ x,t[0]?=some x/\x.1=1
theorem may_ok {t:List gJ}(hf:rT t):(R.lU t).sat fun r=>r=true->pL t/\qq t t.length:=by
 unfold R.lU
 refine aA fun _=>aB (R:=fun b=>b=false->0 < t.length/\t.length<=4096/\qq t t.length/\∃ x,t[0]?=some x/\x.1=1) (bI (fun _=>aD fun e=>by cases e) fun h0=>er (fun _=>aD fun e=>by cases e) fun h1=>?_) fun b hb=>?_
 ·have h0:(t.length:Int)≠0:=h0
  have h1:(t.length:Int)<=4096:=h1
  refine bR (by decide) (by show 0 < t.length;omega) fun x hx _=>dx (bI (fun h1=>aB (Es (by omega) hf) fun r hr=>aD fun e=>⟨by omega,by omega,hr (by cases r<;>simp_all),x,hx,h1⟩) fun _=>aD fun e=>by cases e)
 cases b with
 |true=>exact gn rfl (aD fun e=>by cases e)
 |false =>
  obtain ⟨h0,h1,ho,hrt⟩:=hb rfl
  refine hJ rfl (aB (iA (Q:=fun r:Unit ⊕ Bool=>match r with|.inl _=>∀ (n:Nat) (x:gJ),t[n]?=some x->qm t x|.inr b=>b=false) (fun i=>i) t.length (by omega) (fun i=>∀ (n:Nat) (x:gJ),(n:Int) < i->t[n]?=some x->qm t x) (by omega) (by omega) (fun n x hn=>by omega) fun i i0 i1 hI=>?_) fun r hr=>?_)
  ·refine er (fun hi=>?_) fun hi=>aD fun n x hx=>hI n x (by have:=(List.getElem?_eq_some_iff.1 hx).1;have hi:(t.length:Int)<=i:=hi;omega) hx
   have hi:i < (t.length:Int):=hi
   have hk:∀ x,t[i.toNat]?=some x->((R.gx x).bind fun r=>br (!r) (Res.ok true) ((R.ju t i).bind fun r=>Res.ok (!r))).sat fun b=>b=false->qm t x:=fun x hx=>by
    refine aB DK fun r hr=>dx (aI (fun e=>aB (GC ho h1 hf i0 hi) fun r' hr'=>aD fun e'=>?_) fun _=>aD fun e=>by cases e)
    obtain ⟨g1,g2⟩:=hr' (by cases r'<;>simp_all) x hx
    refine ⟨fun j k hjk=>?_,g1,hr e⟩
    obtain ⟨y,y1,y2⟩:=g2 j k hjk
    have:=ho _ x (by omega) hx j k hjk
    exact ⟨by omega,y,y1,y2,hf.two _ _ x y hx y1 (by omega)⟩
   refine aB (R:=fun b=>b=false->∀ x,t[i.toNat]?=some x->qm t x) (er (fun _=>bR i0 (by omega) fun x hx _=>bI (fun _=>aD fun e=>by cases e) fun _=>bR i0 (by omega) fun x' hx' _=>bH (hk x' hx') fun b hb e x'' hx''=>?_) fun _=>bR i0 (by omega) fun x' hx' _=>bH (hk x' hx') fun b hb e x'' hx''=>?_) fun b hb=>?_
   ·have:some x'=some x'':=hx'.symm.trans hx''
    cases this
    exact hb e
   ·have:some x'=some x'':=hx'.symm.trans hx''
    cases this
    exact hb e
   ·cases b with
    |true=>exact gn rfl (aD rfl)
    |false =>
     refine hJ rfl (aD ⟨rfl,hi,fun n x hn hx=>?_⟩)
     by_cases hni:(n:Int) < i
     ·exact hI n x hni hx
     ·have hn:(n:Int) < IntKind.wrap .i64 (i+1):=hn
      rw [wrap64 (by omega)] at hn
      have:n=i.toNat:=by omega
      subst this
      exact hb rfl x hx
  ·cases r with
   |inr b=>exact jd (aD fun e=>by rw [hr] at e;cases e)
   |inl _=>exact jf (aB (Gj ho h1 hf) fun d hd=>aA fun _=>aB (max_ok (by omega) (by omega)) fun _ _=>aA fun _=>aD fun _=>⟨⟨h0,h1,hr,hrt⟩,ho⟩)
end Go.Mach

set_option maxRecDepth 100000
namespace Go.Mach
open Res
structure jx (C:Cx):Prop where
 tr:pL C.N
 fw:rT C.N
 od:qq C.N C.N.length
 F:C.F<=3000
 D:C.D<=200
 A:C.A.length<=2^40
section
variable {C:Cx}{m b:Int}{s:RunT}
theorem j5 (h:iP C m s){n:Int}{x:gJ}{β:Type}{Q:β->Prop}{k:gJ->Res β}(h0:0<=n) (hx:C.N[n.toNat]?=some x) (hk:(k x).sat Q):(idx aE s.1 n k).sat Q:=by
 have e:s.1=C.N:=h.nd
 rw [e]
 refine bn h0 (List.getElem?_eq_some_iff.1 hx).1 fun y hy _=>?_
 have:some x=some y:=hx.symm.trans hy
 cases this
 exact hk
theorem tI (h:iP C m s) (hm:m+1<=2^39){i:Int}{n:List Int}{v:eD}(hv:cD v):(R.bj s.2.2.2.2.1 i n v).sat fun r=>Aft C (m+1) s.2.2.2.2.2.2.1 s (s.1,(s.2.1,(s.2.2.1,(s.2.2.2.1,(r.2,s.2.2.2.2.2))))):=by
 obtain ⟨B,h1,h2,h3⟩:=h.heap (by omega)
 exact bH (put_ok h1 h2 hv) fun r ⟨r1,r2⟩=>⟨h.put r1 (by omega),r2,rfl,Int.le_refl _⟩
theorem px (h:iP C m s) (hm:m+1<=2^39){i:Int}{n:List UInt8}{v:eD}{r f:Bool}(hv:cD v):(R.bF s.2.2.2.2.1 i n v r f).sat fun r=>Aft C (m+1) s.2.2.2.2.2.2.1 s (s.1,(s.2.1,(s.2.2.1,(s.2.2.2.1,(r.2,s.2.2.2.2.2))))):=by
 obtain ⟨B,h1,h2,h3⟩:=h.heap (by omega)
 exact bH (AP h1 h2 hv) fun r ⟨r1,r2⟩=>⟨h.put r1 (by omega),r2,rfl,Int.le_refl _⟩
theorem vq (h:iP C m s) (hm:m<=2^39){i:Int}{n:List UInt8}{v:eD}{r:Bool}(hv:cD v):(R.ch s.2.2.2.2.1 i n v r).sat fun r=>Aft C m s.2.2.2.2.2.2.1 s (s.1,(s.2.1,(s.2.2.1,(s.2.2.2.1,(r.2,s.2.2.2.2.2))))):=by
 obtain ⟨B,h1,h2,h3⟩:=h.heap hm
 exact bH (GJ h1 h2 hv) fun r ⟨r1,r2⟩=>⟨h.put r1 h3,r2,rfl,Int.le_refl _⟩
theorem uP (h:iP C m s) (hm:m+2<=2^39){n:Int}(hn:FnI C.N n){e:aO.den}(he:cD e.2.1):(R.cd s n e).sat (cy C (m+2) s.2.2.2.2.2.2.1 s):=by
 unfold R.cd
 obtain ⟨n0,x,hx,hk⟩:=hn
 refine aA fun _=>j5 h n0 hx (aB (dw0:Safe _).ok fun own _=>?_)
 refine aB (R:=fun r:(aG.den×jw.den) ⊕ (Int×(aG.den×aC.den))=>match r with|.inl r=>Aft C (m+1) s.2.2.2.2.2.2.1 s r.1/\∃ sc,r.2=(3,(0,(([]:List bO.den),(([]:List bJ.den),(([]:List UInt8),(n,(sc,((0,((0,0),((false,([]:List Int)),(([]:List Int),0)))),(0,(0,(0,(0,([]:List Int)))))))))))))|.inr r=>cD r.2.2/\Pst C (m+2) s.2.2.2.2.2.2.1 s r.1 r.2.1) (aI (fun _=>aB (p8 h (by omega)) fun r1 ⟨g1,g2⟩=>aA fun _=>dx (bI (fun e1=>?_) fun _=>aD ⟨bt,g1.mono (by omega) (Int.le_refl _)⟩)) fun _=>aD ⟨(Aft.refl h).mono (by omega) (Int.le_refl _),_,rfl⟩) fun r hr=>?_
 ·have a1:=g1.aft (by rw [e1];decide)
  exact aB (px a1.run (by omega) bt) fun r2 a2=>aA fun _=>aD ⟨a1.trans ⟨a2.run,a2.ext,a2.dp,Int.le_trans a1.bg a2.bg⟩,_,rfl⟩
 cases r with
 |inr r=>exact jd (aD ⟨hr.1,hr.2⟩)
 |inl r =>
  obtain ⟨s1,c⟩:=r
  obtain ⟨a1,sc,hc⟩:=hr
  have hc:c=_:=hc
  subst hc
  refine jf (aB (R:=fun c:jw.den=>c.1=3/\c.2.2.1=[]/\c.2.2.2.1=[]/\c.2.2.2.2.2.1=n/\cD c.2.2.2.2.2.2.2.1/\c.2.2.2.2.1.length<=4096) (aB (dw0:Safe _).ok fun _ _=>aI (fun _=>aD ⟨rfl,rfl,rfl,rfl,he,Nat.zero_le _⟩) fun _=>aI (fun _=>aD ⟨rfl,rfl,rfl,rfl,bt,Nat.zero_le _⟩) fun _=>aD ⟨rfl,rfl,rfl,rfl,bt,Nat.zero_le _⟩) fun c ⟨c1,c2,c3,c4,c5,c6⟩=>?_)
  have k3:∀ k:Int,k≠3->c.1≠k:=fun k hk e=>hk (e.symm.trans c1)
  refine aB (o9 a1.run (by omega) ⟨fun _=>by rw [c4];exact ⟨n0,x,hx,hk⟩,fun e=>absurd e (k3 5 (by decide)),fun e=>absurd e (k3 6 (by decide)),fun e=>absurd e (k3 7 (by decide)),fun e=>absurd e (k3 8 (by decide))⟩ fun B _=>⟨by rw [c2];exact Nat.zero_le _,by rw [c3];exact Nat.zero_le _,by rw [c2];simp,by rw [c3];simp,c5,c6⟩) fun r2 ⟨⟨g1,g2⟩,g3⟩=>aA fun _=>aB (R:=fun b=>b=false->r2.1.2=0) (dx (bI (fun e=>aD fun _=>e) fun _=>aD fun e=>by cases e)) fun b hb=>?_
  have p2:Pst C (m+1) s.2.2.2.2.2.2.1 s r2.1.2 r2.2:=Pst.after a1 (g2.mono (Int.le_refl _) a1.bg)
  refine aI (fun _=>aD ⟨g1,p2.mono (by omega) (Int.le_refl _)⟩) fun e=>?_
  have a2:=p2.aft (by rw [hb e];decide)
  refine aB (o9 a2.run (by omega) (.mk' 1 rfl (by decide)) fun B _=>⟨Nat.zero_le _,Nat.zero_le _,by simp,by simp,bt,Nat.zero_le _⟩) fun r3 ⟨⟨f1,f2⟩,f3⟩=>aA fun _=>?_
  have p3:Pst C (m+1) s.2.2.2.2.2.2.1 s r3.1.2 r3.2:=Pst.after a2 (f2.mono (Int.le_refl _) a2.bg)
  refine dx (bI (fun e=>?_) fun _=>aD ⟨f1,p3.mono (by omega) (Int.le_refl _)⟩)
  have a3:=p3.aft (by rw [e];decide)
  refine aB (dV (by decide)) fun u _=>aA fun _=>aB (tI a3.run (by omega) f1) fun r4 a4=>aA fun _=>?_
  have a5:Aft C (m+2) s.2.2.2.2.2.2.1 s _:=a3.trans ⟨(a4.mono (m':=m+2) (b':=s.2.2.2.2.2.2.1) (by omega) (Int.le_trans a3.bg (Int.le_refl _))).run,a4.ext,a4.dp,Int.le_trans a3.bg a4.bg⟩
  refine aI (fun _=>aB (vq a5.run (by omega) g1) fun r6 a6=>aA fun _=>aD ⟨g1,.inr ⟨show (0:Int)≠5 by decide,a5.trans ⟨a6.run,a6.ext,a6.dp,Int.le_trans a5.bg a6.bg⟩⟩⟩) fun _=>aD ⟨g1,.inr ⟨show (0:Int)≠5 by decide,a5⟩⟩
end
theorem FD:R.gU.sat fun r=>r.length<=100:=by
 unfold R.gU
 exact aA fun _=>aD (by decide)
theorem om {α:Type}{r:Res α}{P:α->Bool}(h:(r.strip.map P)=some true):r.sat fun x=>P x=true:=by
 cases hr:r.strip with
 |none=>rw [hr] at h;cases h
 |some x =>
  rw [hr] at h
  exact bH (ow hr rfl) fun y hy=>by subst hy;simpa using h
theorem we:R.cX.sat fun r=>decide (r.length<=100)=true:=om (by kernel_rfl)
instance GI {a}:Safe (R.jt a):=by unfold R.jt;exact dw0
theorem oc {n:List UInt8}:(R.cW n).sat fun r=>r.1=6:=by
 unfold R.cW
 exact aA fun _=>aB we fun r _=>aA fun _=>q_b fun _=>aA fun _=>aD rfl
theorem nS {a:aH.den}:(R.b8 a).sat fun r=>r.1=3:=by
 unfold R.b8
 exact aA fun _=>aD rfl
theorem qj {a:ax.den}:(R.dB a).sat fun r=>r.1=4:=by
 unfold R.dB
 exact aA fun _=>aD rfl
theorem lB {a:Bool}:(R.bE a).sat fun r=>r.1=2:=by
 unfold R.bE
 exact aA fun _=>aI (fun _=>aD rfl) fun _=>aD rfl
theorem vk {v:eD}{k:Int}(e:v.1=k) (h:k≠5:=by decide):cD v:=.of (by rw [e];exact h)
theorem yj {n:List UInt8}:(R.iB n).sat fun r=>cD r.1:=by
 unfold R.iB
 exact aA fun _=>aI (fun _=>aD bt) fun _=>aI (fun _=>aB nS fun r hr=>aA fun _=>aD (vk hr)) fun _=>aI (fun _=>aB nS fun r hr=>aA fun _=>aD (vk hr)) fun _=>aB FD fun l _=>aA fun _=>q_b fun _=>aI (fun _=>aB oc fun r hr=>aA fun _=>aD (vk hr)) fun _=>aD bt
section
variable {C:Cx}{m b:Int}{s:RunT}
theorem Pst.ret (h:iP C m s):Pst C m s.2.2.2.2.2.2.1 s 0 s:=.inr ⟨by decide,.refl h⟩
theorem zN (h:iP C m s) (hm:m<=2^39){n:List UInt8}{e:aO.den}{l:Bool}:(R.dW s n e l).sat (cy C m s.2.2.2.2.2.2.1 s):=by
 unfold R.dW
 obtain ⟨B,h1,h2,h3⟩:=h.heap hm
 exact aA fun _=>aB (Bw h1 h2) fun r hr=>aA fun _=>aB (dw0:Safe _).ok fun _ _=>aI (fun _=>aB (nJ h hm) fun r hr=>aA fun _=>aD hr.1) fun _=>aI (fun _=>aD ⟨hr,.ret h⟩) fun _=>aB yj fun r hr=>aA fun _=>aI (fun _=>aD ⟨hr,.ret h⟩) fun _=>q_b fun _=>aI (fun _=>aB (gO h) fun r hr=>aA fun _=>aD hr) fun _=>aI (fun _=>aD ⟨bt,.ret h⟩) fun _=>aB (nJ h hm) fun r hr=>aA fun _=>aD hr.1
theorem BX (h:iP C m s) (hm:m<=2^39){n:List UInt8}{e:aO.den}:(R.eN s n e).sat (cy C m s.2.2.2.2.2.2.1 s):=by
 unfold R.eN
 exact aA fun _=>aB (zN h hm) fun r hr=>aA fun _=>aD hr
theorem CN (h:iP C m s) (hm:m<=2^39){n:List UInt8}{v:eD}(hv:cD v){e:aO.den}:(R.fM s n v e).sat (cy C m s.2.2.2.2.2.2.1 s):=by
 unfold R.fM
 obtain ⟨B,h1,h2,h3⟩:=h.heap hm
 exact aA fun _=>aB (Bw h1 h2) fun r hr=>aA fun _=>aB (dw0:Safe _).ok fun _ _=>aI (fun _=>aB (nJ h hm) fun r hr=>aA fun _=>aD hr.1) fun _=>aB (dw0:Safe _).ok fun _ _=>aI (fun _=>aB (nJ h hm) fun r hr=>aA fun _=>aD hr.1) fun _=>aI (fun _=>aB (vq h hm hv) fun r hr=>aA fun _=>aD ⟨hv,.inr ⟨show (0:Int)≠5 by decide,hr⟩⟩) fun _=>aB yj fun r hr=>aA fun _=>aB (dw0:Safe _).ok fun _ _=>aI (fun _=>aB (gO h) fun r hr=>aA fun _=>aD hr) fun _=>aB (nJ h hm) fun r hr=>aA fun _=>aD hr.1
theorem Gk (h:iP C m s) (hm:m<=2^39){e:aO.den}:(R.dt s e).sat fun r=>r.1.1.2=e.2/\Pst C m s.2.2.2.2.2.2.1 s r.1.2 r.2/\(r.1.2≠5->r.1.2=0):=by
 unfold R.dt
 obtain ⟨B,h1,h2,h3⟩:=h.heap hm
 refine aA fun _=>aB (Fk h1 h2) fun r hr=>aA fun _=>aB (o9 h hm (.mk' 9 rfl (by decide)) fun B' hB'=>?_) fun r2 ⟨g1,g2⟩=>aA fun _=>aD ⟨rfl,g1.2,fun e=>(g2 e).1⟩
 rcases hr with ⟨_,e⟩|⟨_,i0,hi⟩
 ·exact ⟨Nat.zero_le _,by show (List.length r.1.2.2.2.1)<=_;rw [e];exact Nat.zero_le _,by simp,by show ∀ p∈r.1.2.2.2.1,_;rw [e];simp,bt,Nat.zero_le _⟩
 ·have hv:=(hB'.cl _ _ hi).2
  exact ⟨Nat.zero_le _,hv.sn,by simp,hv.sv,bt,Nat.zero_le _⟩
theorem Gg {a:Int}:a*(20003-a)<=100100000:=by
 have h:0<=(a-10001)*(a-10001):=by
  rcases Int.le_total 0 (a-10001) with h|h
  ·exact Int.mul_nonneg h h
  ·exact Int.mul_nonneg_of_nonpos_of_nonpos h h
 have e1:(a-10001)*(a-10001)=a*a-10001*a-10001*a+100020001:=by rw [Int.sub_mul,Int.mul_sub,Int.mul_sub];omega
 have e2:a*(20003-a)=a*20003-a*a:=Int.mul_sub _ _ _
 have h3:a<=20000\/20000 < a:=by omega
 rcases h3 with h3|h3
 ·omega
 ·have:a*(20003-a)<=a*3:=Int.mul_le_mul_of_nonneg_left (by omega) (by omega)
  by_cases h4:a<=20003
  ·omega
  ·have:a*(20003-a)<=a*0:=Int.mul_le_mul_of_nonneg_left (by omega) (by omega)
   omega
theorem rS (hc:jx C) (h:iP C m s) (hm:m+100100000<=2^39){n:Int}{x:gJ}(n0:0<=n) (hx:C.N[n.toNat]?=some x){e:aO.den}(he:cD e.2.1):(R.cL s n e).sat (cy C (m+100100000) s.2.2.2.2.2.2.1 s):=by
 unfold R.cL
 have hk:=hc.fw.one _ x hx
 have hg:=hc.tr.nod _ x hx
 refine aA fun _=>j5 h n0 hx ?_
 obtain ⟨a,ha⟩:∃ a:Int,a=(x.2.2.2.2.2.length:Int):=⟨_,rfl⟩
 obtain ⟨c,hcc⟩:∃ c:Int,c=20003-a:=⟨_,rfl⟩
 have hac:a*c<=100100000:=hcc▸Gg
 have hle:∀ i:Int,i<=a->i*c<=100100000:=fun i hi=>Int.le_trans (Int.mul_le_mul_of_nonneg_right hi (by omega)) hac
 refine aB (iA (Q:=fun r:aG.den ⊕ (Int×(aG.den×aC.den))=>match r with|.inl s'=>Aft C (m+100100000) s.2.2.2.2.2.2.1 s s'|.inr r=>cD r.2.2/\Pst C (m+100100000) s.2.2.2.2.2.2.1 s r.1 r.2.1) (fun x=>x.1) x.2.2.2.2.2.length (by omega) (fun y=>Aft C (m+y.1*c) s.2.2.2.2.2.2.1 s y.2) (by simp) (by simp) (by simpa using Aft.refl h) fun y y0 y1 yI=>?_) fun r hr=>?_
 ·obtain ⟨i,s1⟩:=y
  have y0:0<=i:=y0
  have y1:i<=(x.2.2.2.2.2.length:Int):=y1
  have yI:Aft C (m+i*c) s.2.2.2.2.2.2.1 s s1:=yI
  have hi0:=hle i (by omega)
  refine er (fun hi=>?_) fun _=>aD (yI.mono (by omega) (Int.le_refl _))
  have hi:i < (x.2.2.2.2.2.length:Int):=hi
  have e1:(i+1)*c=i*c+c:=by rw [Int.add_mul,Int.one_mul]
  have hi1:=hle (i+1) (by omega)
  rw [e1] at hi1
  have ew:IntKind.wrap .i64 (i+1)=i+1:=wrap64 (by omega)
  have nxt:∀ {s'},Aft C (m+i*c+c) s.2.2.2.2.2.2.1 s s'->Aft C (m+(IntKind.wrap .i64 (i+1))*c) s.2.2.2.2.2.2.1 s s':=fun h=>by rw [ew,e1,<- Int.add_assoc];exact h
  refine bn y0 (by show _ < x.2.2.2.2.2.length;omega) fun k hk' _=>?_
  obtain ⟨k0,z,hz,_,hxz⟩:=hg.kid _ k hk'
  refine j5 yI.run k0 hz (aB (dw0:Safe _).ok fun _ _=>aI (fun _=>?_) fun _=>bI (fun h19=>?_) fun _=>aD ⟨rfl,hi,nxt (yI.mono (by omega) (Int.le_refl _))⟩)
  ·have hzk:=hc.fw.one _ z hz
   have hzg:=hc.tr.nod _ z hz
   have hx':(x.2.2.2.2.2.length:Int)+(z.2.2.2.2.2.length:Int)<=20000:=by omega
   refine aB (iA (Q:=fun H:dz.den=>Aft C (m+i*c+c) s.2.2.2.2.2.2.1 s (s1.1,(s1.2.1,(s1.2.2.1,(s1.2.2.2.1,(H,s1.2.2.2.2.2)))))) (fun x=>x.1) z.2.2.2.2.2.length (by omega) (fun w=>Aft C (m+i*c+w.1) s.2.2.2.2.2.2.1 s (s1.1,(s1.2.1,(s1.2.2.1,(s1.2.2.2.1,(w.2,s1.2.2.2.2.2)))))) (by simp) (by simp) (by simpa using yI) fun w w0 w1 wI=>?_) fun H hH=>aD ⟨rfl,hi,nxt hH⟩
   obtain ⟨j,H⟩:=w
   have w0:0<=j:=w0
   have w1:j<=(z.2.2.2.2.2.length:Int):=w1
   have wI:Aft C (m+i*c+j) s.2.2.2.2.2.2.1 s (s1.1,(s1.2.1,(s1.2.2.1,(s1.2.2.2.1,(H,s1.2.2.2.2.2))))):=wI
   refine er (fun hj=>?_) fun _=>aD (wI.mono (by omega) (Int.le_refl _))
   have hj:j < (z.2.2.2.2.2.length:Int):=hj
   refine bn w0 (by show _ < z.2.2.2.2.2.length;omega) fun k' hk'' _=>?_
   obtain ⟨k'0,z',hz',_⟩:=hzg.kid _ k' hk''
   refine j5 yI.run k'0 hz' (aB (px wI.run (by omega) bt) fun r hr=>aA fun _=>aD ⟨rfl,hj,?_⟩)
   show Aft C (m+i*c+IntKind.wrap .i64 (j+1)) _ _ _
   rw [wrap64 (n:=j+1) (by omega),<- Int.add_assoc]
   exact wI.trans ⟨hr.run,hr.ext,hr.dp,Int.le_trans wI.bg hr.bg⟩
  ·refine aB (uP yI.run (by omega) ⟨k0,z,hz,.inl h19⟩ he) fun r hr=>aA fun _=>?_
   have p:Pst C (m+i*c+2) s.2.2.2.2.2.2.1 s r.1.2 r.2:=Pst.after yI (hr.2.mono (Int.le_refl _) yI.bg)
   refine dx (bI (fun e=>?_) fun _=>aD ⟨hr.1,p.mono (by omega) (Int.le_refl _)⟩)
   have a1:=p.aft (by rw [e];decide)
   refine aB (px a1.run (by omega) hr.1) fun r2 a2=>aA fun _=>aD ⟨rfl,hi,nxt ?_⟩
   exact (a1.trans ⟨a2.run,a2.ext,a2.dp,Int.le_trans a1.bg a2.bg⟩).mono (by omega) (Int.le_refl _)
 ·cases r with
  |inl s'=>exact jf (aD ⟨bt,.inr ⟨show (0:Int)≠5 by decide,hr⟩⟩)
  |inr r=>exact jd (aD ⟨hr.1,hr.2⟩)
end
end Go.Mach

set_option maxRecDepth 100000
namespace Go.Mach
open Res
theorem mX {k z:Int}(h:ElI k z):(R.bN k).sat (·=z):=by
 cases h<;>exact bH (om (P:=fun r=>decide (r=_)) (by kernel_rfl)) fun r hr=>of_decide_eq_true hr
theorem ElI.pos {k z:Int}(h:ElI k z):1<=z/\z<=8/\(z=1\/z=2\/z=4\/z=8):=by cases h<;>omega
theorem qI (x:Int){m:Nat}(hm:m < 2^64):0<=fm .and .u64 x (m:Int)/\fm .and .u64 x (m:Int)<=m:=by
 show 0<=IntKind.wrap .u64 _/\IntKind.wrap .u64 _<=_
 have h0:(BitVec.ofInt 64 x &&& BitVec.ofInt 64 (m:Int)).toNat < 2^64:=BitVec.isLt _
 have h1:((BitVec.ofInt 64 x &&& BitVec.ofInt 64 (m:Int)).toNat)<=m:=by
  rw [BitVec.toNat_and]
  refine Nat.le_trans Nat.and_le_right ?_
  rw [BitVec.toNat_ofInt]
  omega
 have h2:IntKind.wrap .u64 (((BitVec.ofInt 64 x &&& BitVec.ofInt 64 (m:Int)).toNat:Nat):Int)=(((BitVec.ofInt 64 x &&& BitVec.ofInt 64 (m:Int)).toNat:Nat):Int):=by
  generalize (BitVec.ofInt 64 x &&& BitVec.ofInt 64 (m:Int)).toNat=q at h0
  simp only [IntKind.wrap,IntKind.signed,IntKind.bits]
  simp
  omega
 rw [show IntKind.bits .u64=64 from rfl,h2]
 omega
def sy (z w:Int):Prop:=0<=w/\w < 18446744073709551616/\(z=8\/w < 2^(8*z).toNat)
theorem sy.zero (z:Int):sy z 0:=⟨by decide,by decide,.inr (Int.pow_pos (by decide))⟩
theorem cut_ok {k z w:Int}(h:ElI k z) (h0:0<=w) (h1:w < 18446744073709551616):(R.ef k w).sat (sy z):=by
 unfold R.ef
 refine aA fun _=>aY (mX h) (aA fun _=>?_)
 cases h
 all_goals first
  |exact hJ rfl (aD ⟨h0,h1,.inl rfl⟩)
  |exact gn rfl (bG rfl (aD ⟨(qI w (m:=255) (by decide)).1,by have:=(qI w (m:=255) (by decide)).2;exact Int.lt_of_le_of_lt this (by decide),.inr (Int.lt_of_le_of_lt (qI w (m:=255) (by decide)).2 (by decide))⟩))
  |exact gn rfl (bG rfl (aD ⟨(qI w (m:=65535) (by decide)).1,by have:=(qI w (m:=65535) (by decide)).2;exact Int.lt_of_le_of_lt this (by decide),.inr (Int.lt_of_le_of_lt (qI w (m:=65535) (by decide)).2 (by decide))⟩))
  |exact gn rfl (bG rfl (aD ⟨(qI w (m:=4294967295) (by decide)).1,by have:=(qI w (m:=4294967295) (by decide)).2;exact Int.lt_of_le_of_lt this (by decide),.inr (Int.lt_of_le_of_lt (qI w (m:=4294967295) (by decide)).2 (by decide))⟩))
theorem FE {k:Int}:(R.c7 k).sat (·=decide (k=7\/k=8)):=by
 unfold R.c7
 refine aA fun _=>bI (fun h=>aD ?_) fun h=>aD ?_
 ·rw [decide_eq_true (by omega)]
 ·show (k == 8)=_
  by_cases hk:k=8
  ·subst hk;rfl
  ·rw [show (k == 8)=false from beq_false_of_ne hk,decide_eq_false (by omega)]
theorem D6 {a:ax.den}:(R.lD a).sat fun w=>0<=w/\w < 18446744073709551616:=by
 unfold R.lD
 refine aA fun _=>q_p fun r hr=>aA fun _=>aB (iA (Q:=fun w:Int=>0<=w/\w < 18446744073709551616) (fun x=>x.2) r.1.2.length (by omega) (fun x=>0<=x.1/\x.1 < 18446744073709551616) (by simp) (by simp) (by simp) fun x h0 h1 hI=>?_) fun w hw=>aD hw
 have h1:x.2<=(r.1.2.length:Int):=h1
 refine er (fun hl=>?_) fun _=>aD hI
 have hl:x.2 < (r.1.2.length:Int):=hl
 refine bn h0 (by show _ < r.1.2.length;omega) fun e _ _=>bG ?_ (aD ⟨rfl,hl,wrap_u64 _⟩)
 rw [wrap64 (by omega)]
 exact decide_eq_true (by omega)
theorem wK {k z:Int}(h:ElI k z){a:aH.den}:(R.fR k a).sat (sy z):=by
 unfold R.fR
 exact aA fun _=>aB (dw0:Safe _).ok fun _ _=>aI (fun _=>aD (.zero z)) fun _=>aB (cut_ok h (wrap_u64 _).1 (wrap_u64 _).2) fun w hw=>aA fun _=>aD hw
theorem vE {k z:Int}(h:ElI k z){a:ax.den}:(R.fS k a).sat (sy z):=by
 unfold R.fS
 refine aA fun _=>aY FE (dx (aI (fun e=>aB D6 fun w hw=>aA fun _=>aD ⟨hw.1,hw.2,.inl ?_⟩) fun _=>aD (.zero z)))
 have:=of_decide_eq_true e
 cases h<;>first|rfl|omega
theorem yD {k z:Int}(h:ElI k z){v:eD}:(R.gq k v).sat fun r=>sy z r.1:=by
 unfold R.gq
 exact aA fun _=>q_b fun _=>aI (fun _=>q_b fun _=>aA fun _=>aB (vE h) fun w hw=>aA fun _=>aD hw) fun _=>q_b fun _=>aA fun _=>aB (wK h) fun w hw=>aA fun _=>aD hw
theorem vK {k z:Int}(h:ElI k z){v:eD}:(R.fj k v).sat fun r=>sy z r.2.1/\cD r.1:=by
 unfold R.fj
 exact aA fun _=>q_b fun _=>aI (fun _=>q_b fun _=>aA fun _=>aB qj fun b hb=>aA fun _=>aB (vE h) fun w hw=>aA fun _=>aD ⟨hw,vk hb⟩) fun _=>q_b fun _=>aA fun _=>q_b fun _=>aA fun _=>aB nS fun b hb=>aA fun _=>aB (wK h) fun w hw=>aA fun _=>aD ⟨hw,vk hb⟩
theorem ox {k w:Int}:(R.ct k w).sat cD:=by
 unfold R.ct
 exact aA fun _=>q_b fun _=>aI (fun _=>q_b fun _=>aA fun _=>aB qj fun b hb=>aA fun _=>aD (vk hb)) fun _=>q_b fun _=>aA fun _=>aB nS fun b hb=>aA fun _=>aD (vk hb)
theorem zr {a:aH.den}:(R.eJ a).sat fun r=>(r.1=0/\-9007199254740991<=r.2/\r.2<=9007199254740991)\/(r.1=3/\r.2=0)\/(r.1=4/\r.2=0):=by
 unfold R.eJ
 refine aA fun _=>aB (R:=fun r:Int×Int=>(r.1=0->-9007199254740991<=r.2/\r.2<=9007199254740991)/\(r.1≠0->1<=r.1/\r.1<=4/\r.2=0)) (CY (a:=a)).ok fun r ⟨r1,r2⟩=>aA fun _=>aB (R:=fun b=>b=false->Ne (α:=Int) (r.1) (2)/\Ne (α:=Int) (r.1) (1)) (bI (fun _=>aD fun e=>by cases e) fun h=>aD fun e=>⟨h,ne_of_beq_false e⟩) fun b hb=>aI (fun _=>aB (R:=fun r:Int×Int=>r=(0,0)) (bH (om (P:=fun r=>decide (r=((0:Int),(0:Int)))) (by kernel_rfl)) fun r hr=>of_decide_eq_true hr) fun r hr=>aA fun _=>aD ?_) fun e=>aD ?_
 ·subst hr
  exact .inl ⟨rfl,by decide,by decide⟩
 ·obtain ⟨h1,h2⟩:=hb e
  by_cases h0:Eq (α:=Int) (r.1) (0)
  ·exact .inl ⟨h0,r1 h0⟩
  ·have:LE.le (α:=Int) (1) (r.1)/\LE.le (α:=Int) (r.1) (4)/\Eq (α:=Int) (r.2) (0):=r2 h0
   by_cases h3:Eq (α:=Int) (r.1) (3)
   ·exact .inr (.inl ⟨h3,this.2.2⟩)
   ·exact .inr (.inr ⟨by show Eq (α:=Int) (r.1) (4);omega,this.2.2⟩)
theorem Ca {a:aH.den}:(R.kP a).sat fun r=>LE.le (α:=Int) (0) (r.1)/\LE.le (α:=Int) (r.1) (9007199254740991):=by
 unfold R.kP
 refine aA fun _=>aB zr fun r hr=>aA fun _=>aB (R:=fun b=>b=false->r.1=0/\ilt r.2 0=false) (dx (bI (fun h=>aD fun e=>⟨h,e⟩) fun _=>aD fun e=>by cases e)) fun b hb=>aI (fun _=>aD ⟨by decide,by decide⟩) fun e=>aD ?_
 obtain ⟨h0,h1⟩:=hb e
 have h1:¬ LT.lt (α:=Int) (r.2) (0):=of_decide_eq_false h1
 rcases hr with ⟨_,hr⟩|⟨hr,_⟩|⟨hr,_⟩
 ·exact ⟨by show LE.le (α:=Int) (0) (r.2);omega,hr.2⟩
 ·rw [h0] at hr;cases hr
 ·rw [h0] at hr;cases hr
theorem nP {v:eD}:(R.cQ v).sat fun r=>LE.le (α:=Int) (0) (r.1)/\LE.le (α:=Int) (r.1) (9007199254740991):=by
 unfold R.cQ
 exact aA fun _=>q_b fun _=>aA fun _=>aI (fun _=>aD ⟨Int.le_refl 0,show (0:Int)<=9007199254740991 by decide⟩) fun _=>q_b fun _=>aA fun _=>aI (fun _=>aD ⟨Int.le_refl 0,show (0:Int)<=9007199254740991 by decide⟩) fun _=>aB Ca fun r hr=>aA fun _=>aI (fun _=>aD ⟨Int.le_refl 0,show (0:Int)<=9007199254740991 by decide⟩) fun _=>aD hr
end Go.Mach

set_option maxRecDepth 100000
namespace Go.Mach
open Res
section
variable {β:Type}{Q:β->Prop}
theorem ae {m:Res β}{B:β->Bool}(h:m.sat Q):(m.bind fun r=>given (B r) (Res.ok r)).sat Q:=aB h fun _ hr=>aA fun _=>aD hr
theorem oi {a b:Int}{x y:Res β}(h1:a≠b->x.sat Q) (h2:a=b->y.sat Q):(br (!(a == b)) x y).sat Q:=dx (bI h2 h1)
theorem b9 {how:Int}{x y:Res β}(h1:how≠0->x.sat Q) (h2:how=0->y.sat Q):(br (!(how == 0)) x y).sat Q:=dx (bI h2 h1)
end
section
variable {C:Cx}{m m1 m2 b b1:Int}{s s0 s':RunT}{how:Int}
theorem Pst.a0 (h:Pst C m b s how s') (e:how=0):Aft C m b s s':=h.aft (by rw [e];decide)
theorem Pst.cat (a:Aft C m1 b1 s0 s) (g:Pst C m2 s.2.2.2.2.2.2.1 s how s'):Pst C m2 b1 s0 how s':=Pst.after a (g.mono (Int.le_refl _) a.bg)
theorem Pst.lO (a:Aft C m1 b1 s0 s) (g:Pst C m2 (HAdd.hAdd (α:=Int) (β:=Int) (γ:=Int) (s.2.2.2.2.2.2.1) (1)) s how s'):Pst C m2 b1 s0 how s':=Pst.after a (g.mono (Int.le_refl _) (by have:=a.bg;omega))
theorem Aft.cat (a:Aft C m1 b1 s0 s) (g:Aft C m2 s.2.2.2.2.2.2.1 s s'):Aft C m2 b1 s0 s':=a.trans (g.mono (Int.le_refl _) a.bg)
theorem Aft.up (a:Aft C m b s s'){m':Int}(h:m<=m'):Aft C m' b s s':=a.mono h (Int.le_refl _)
theorem Pst.up (a:Pst C m b s how s'){m':Int}(h:m<=m'):Pst C m' b s how s':=a.mono h (Int.le_refl _)
theorem cy.up {r:(eD×Int)×RunT}(a:cy C m b s r){m':Int}(h:m<=m'):cy C m' b s r:=⟨a.1,a.2.up h⟩
theorem cy.cat {r:(eD×Int)×RunT}(a:Aft C m1 b1 s0 s) (g:cy C m2 s.2.2.2.2.2.2.1 s r):cy C m2 b1 s0 r:=⟨g.1,Pst.cat a g.2⟩
theorem Pst.ok (a:Aft C m b s s'):Pst C m b s 0 s':=.inr ⟨by decide,a⟩
theorem iM (h:iP C m s) (hm:m<=2^39){k:Int}:(R.aF s k).sat (cy C m s.2.2.2.2.2.2.1 s):=bH (nJ h hm) fun _ hr=>hr.1
theorem mY (h:iP C m s){v:eD}(hv:cD v):cy C m s.2.2.2.2.2.2.1 s ((v,0),s):=⟨hv,.ret h⟩
end
theorem GL {k n:Int}(h:(k=0/\-9007199254740991<=n/\n<=9007199254740991)\/((k=3\/k=4)/\n=0)):(R.kW (k,n)).sat (·=true):=by
 unfold R.kW
 dsimp only
 refine aA fun _=>bI (fun e=>?_) fun e=>?_
 ·rcases h with ⟨_,h1,h2⟩|⟨h1,_⟩
  ·exact lb (fun _=>aD (decide_eq_true h2)) fun g=>absurd h1 (Int.not_le.2 g)
  ·omega
 ·rcases h with ⟨h1,_⟩|⟨h1,h2⟩
  ·exact absurd h1 e
  ·subst h2
   refine aY (a:=true) (bI (fun g=>aD (by rw [g];rfl)) fun _=>bI (fun g=>aD (by rw [g];rfl)) fun _=>bI (fun g=>aD (by rw [g];rfl)) fun _=>aD ?_) (gn rfl (aD rfl))
   rw [show k=4 by omega]
   rfl
theorem as_id {k n:Int}(h:(k=0/\-9007199254740991<=n/\n<=9007199254740991)\/((k=3\/k=4)/\n=0)):(R.da (k,n)).sat (·=(k,n)):=by
 unfold R.da
 exact aA fun _=>aY (GL h) (hJ rfl (aD rfl))
theorem Bi {k n:Int}:(R.iH (k,n)).sat (·=if k=3 then 9007199254740992 else if k=4 then -9007199254740992 else n):=by
 unfold R.iH
 dsimp only
 refine aA fun _=>bI (fun e=>aD ?_) fun e=>bI (fun e'=>aD ?_) fun e'=>aD ?_
 ·rw [if_pos e]
 ·rw [if_neg e,if_pos e']
 ·rw [if_neg e,if_neg e']
theorem less0 {k n:Int}(h:(k=0/\-9007199254740991<=n/\n<=9007199254740991)\/((k=3\/k=4)/\n=0)):(R.jn (k,n) (0,0)).sat fun b=>b=false->zl (k,n):=by
 unfold R.jn
 refine aA fun _=>aY (as_id h) (aA fun _=>aY (as_id (.inl ⟨rfl,by decide,by decide⟩)) (aA fun _=>q_e (dx (bI (fun e=>?_) fun _=>q_e (dx (bI (fun e=>by cases e) fun _=>aY Bi (aA fun _=>aY Bi (aA fun _=>aD fun e=>?_))))))))
 ·have e:k=2:=e
  omega
 ·have e:=of_decide_eq_false e
  show (k=0/\0<=n/\n<=9007199254740991)\/(k=3/\n=0)
  rw [if_neg (show ¬ (0:Int)=3 by decide),if_neg (show ¬ (0:Int)=4 by decide)] at e
  rcases h with ⟨h1,h2⟩|⟨h1|h1,h2⟩
  ·rw [if_neg (by omega),if_neg (by omega)] at e
   omega
  ·exact .inr ⟨h1,h2⟩
  ·rw [if_neg (by omega),if_pos h1] at e
   exact absurd (by decide) e
theorem sa {a:aH.den}:(R.du a).sat zl:=by
 unfold R.du
 refine aA fun _=>aB zr fun r hr=>aA fun _=>?_
 obtain ⟨k,n⟩:=r
 refine aB (less0 (k:=k) (n:=n) ?_) fun b hb=>aI (fun _=>aD (.inl ⟨rfl,by decide,by decide⟩)) fun e=>aD (hb e)
 rcases hr with ⟨h1,h2,h3⟩|⟨h1,h2⟩|⟨h1,h2⟩
 ·exact .inl ⟨h1,h2,h3⟩
 ·exact .inr ⟨.inl h1,h2⟩
 ·exact .inr ⟨.inr h1,h2⟩
abbrev PkT:=kq.den
structure TyI (l:List j6) (p:PkT) (z:Int):Prop where
 el:ElI p.2.2.2.2.2.2.2.2.1 z
 f0:LE.le (α:=Int) (0) (p.2.2.2.2.2.2.2.2.2.2.1)
 l0:LE.le (α:=Int) (0) (p.2.2.2.2.2.2.2.2.2.2.2.1)
 lm:LE.le (α:=Int) (p.2.2.2.2.2.2.2.2.2.2.2.1) (9007199254740991)
 m:LE.le (α:=Int) ((HAdd.hAdd (α:=Int) (β:=Int) (γ:=Int) (p.2.2.2.2.2.2.2.2.2.2.1) (HMul.hMul (α:=Int) (β:=Int) (γ:=Int) p.2.2.2.2.2.2.2.2.2.2.2.1 z))) (9007199254740991)
 bf:qa l p.2.2.2.2.2.2.2.2.2.1 (HAdd.hAdd (α:=Int) (β:=Int) (γ:=Int) (p.2.2.2.2.2.2.2.2.2.2.1) (HMul.hMul (α:=Int) (β:=Int) (γ:=Int) p.2.2.2.2.2.2.2.2.2.2.2.1 z))
structure VwI (l:List j6) (p:PkT):Prop where
 f0:LE.le (α:=Int) (0) (p.2.2.2.2.2.2.2.2.2.2.1)
 l0:LE.le (α:=Int) (0) (p.2.2.2.2.2.2.2.2.2.2.2.1)
 m:LE.le (α:=Int) ((HAdd.hAdd (α:=Int) (β:=Int) (γ:=Int) (p.2.2.2.2.2.2.2.2.2.2.1) (p.2.2.2.2.2.2.2.2.2.2.2.1))) (9007199254740991)
 bf:qa l p.2.2.2.2.2.2.2.2.2.1 (HAdd.hAdd (α:=Int) (β:=Int) (γ:=Int) (p.2.2.2.2.2.2.2.2.2.2.1) (p.2.2.2.2.2.2.2.2.2.2.2.1))
theorem qa.le {l:List j6}{b n n':Int}(h:qa l b n) (hn:n'<=n):qa l b n':=by
 obtain ⟨h0,d,h1,h2⟩:=h
 exact ⟨h0,d,h1,h2.imp (fun ⟨a,c⟩=>⟨a,Int.le_trans hn c⟩) fun ⟨a,c⟩=>⟨a,Int.le_trans hn c⟩⟩
structure PkI (N:List gJ) (l:List j6) (i:Int) (r:PkT×Bool):Prop where
 no:r.2=false->Eq (α:=Int) (r.1.1) (0)
 ty:Eq (α:=Int) (r.1.1) (7)->∃ z,TyI l r.1 z
 vw:Eq (α:=Int) (r.1.1) (8)->VwI l r.1
 sh:Eq (α:=Int) (r.1.1) (6)->LE.le (α:=Int) (0) (r.1.2.2.2.2.2.2.2.2.2.2.2.1)/\LE.le (α:=Int) (r.1.2.2.2.2.2.2.2.2.2.2.2.1) (9007199254740991)
 th:r.2=true->cD r.1.2.2.2.2.2.2.2.1
 nn:r.2=true->r.1.2.2.2.2.1.length<=4096
 fn:Eq (α:=Int) (r.1.1) (3)->FnI N r.1.2.2.2.2.2.1
 at':r.2=true->0<=i/\∃ c,l[i.toNat]?=some c/\Eq (α:=Int) (c.1) (r.1.1)
 cl:∀ c,0<=i->l[i.toNat]?=some c->r.2=true/\Eq (α:=Int) (r.1.1) (c.1)
theorem oX {N:List gJ}{B:Nat}{h:qi}(hh:jX N B h){i:Int}:(R.aj h i).sat (PkI N h.2 i):=by
 refine bH F8 fun r hr=>?_
 obtain ⟨p,ok⟩:=r
 rcases hr with ⟨h1,h2,hn⟩|⟨h1,i0,c,hc,h2⟩
 ·have h1:ok=false:=h1
  subst h1
  have hk:∀ k:Int,k≠0->¬ Eq (α:=Int) (p.1) (k):=fun k hk e=>hk (e.symm.trans h2)
  exact ⟨fun _=>h2,fun e=>absurd e (hk 7 (by decide)),fun e=>absurd e (hk 8 (by decide)),fun e=>absurd e (hk 6 (by decide)),(fun e=>by cases e),(fun e=>by cases e),fun e=>absurd e (hk 3 (by decide)),(fun e=>by cases e),fun c i0 hc=>absurd ⟨i0,(List.getElem?_eq_some_iff.1 hc).1⟩ hn⟩
 ·have h2:p=_:=h2
  subst h2
  have h1:ok=true:=h1
  subst h1
  obtain ⟨g1,g2⟩:=hh.cl _ c hc
  refine ⟨(fun e=>by cases e),fun e=>?_,fun e=>?_,fun e=>g1.sh e,fun _=>g2.tv,fun _=>g2.nn,fun e=>g1.fn e,fun _=>⟨i0,c,hc,rfl⟩,fun c' _ hc'=>⟨rfl,?_⟩⟩
  ·obtain ⟨z,a1,a2,a3,a4,a5,a6⟩:=g1.ty e
   exact ⟨z,a1,a2,a3,a4,a5,a6⟩
  ·obtain ⟨a1,a2,a3,a4⟩:=g1.vw e
   exact ⟨a1,a2,a3,a4⟩
  ·have:some c=some c':=hc.symm.trans hc'
   cases this
   rfl
theorem vQ {k z n l f:Int}(h:ElI k z) (n0:0<=n) (nl:n < l) (hf:0<=f) (hm:f+l*z<=9007199254740991):IntKind.wrap .i64 (f+IntKind.wrap .i64 (n*z))=f+n*z/\0<=f+n*z/\f+n*z+z<=f+l*z:=by
 have h1:n*z+z<=l*z:=by rcases h.pos.2.2 with rfl|rfl|rfl|rfl<;>omega
 have h2:0<=n*z:=Int.mul_nonneg n0 (by have:=h.pos.1;omega)
 have h3:=h.pos.1
 rw [wrap64 (n:=n*z) (by omega),wrap64 (by omega)]
 exact ⟨rfl,by omega,by omega⟩
end Go.Mach

set_option maxRecDepth 100000
namespace Go.Mach
open Res
instance AK {a b}:Safe (R.cG a b):=by unfold R.cG;exact dw0
theorem oW {β:Type}{Q:β->Prop}(xs:List (List Int)) (i:Int){k:List Int->Res β}(h0:0<=i) (h1:i < xs.length) (h:∀ x:List Int,xs[i.toNat]?=some x->(k x).sat Q) :
  (Res.ah (ile 0 i && ilt i xs.length) (Res.idx (.list (.int .u16)) xs (0+(i.toNat:Int)) k)).sat Q:=by
 refine bG (by rw [Bool.and_eq_true,nB,iT];exact ⟨h0,h1⟩) ?_
 have hi:((0:Int)+(i.toNat:Int)).toNat=i.toNat:=idx0 i
 refine bn (by omega) (by rw [hi];show i.toNat < xs.length;omega) fun x hx _=>h x (by rw [<- hi];exact hx)
abbrev my:=List (List Int)
theorem swap_perm {d:my}{i j:Nat}{x y:List Int}(hx:d[i]?=some x) (hy:d[j]?=some y):((d.set i y).set j x).Perm d:=by
 obtain ⟨hi,hx⟩:=List.getElem?_eq_some_iff.1 hx
 obtain ⟨hj,hy⟩:=List.getElem?_eq_some_iff.1 hy
 subst hx hy
 exact List.set_set_perm hi hj
theorem ta {β:Type}{Q:β->Prop}{d:my}{i j:Int}{k:my->Res β}(hi:0<=i/\i < d.length) (hj:0<=j/\j < d.length) (h:∀ x y,d[i.toNat]?=some x->d[j.toNat]?=some y->(k ((d.set i.toNat y).set j.toNat x)).sat Q) :
  (Res.ah (ile 0 j && ilt j d.length) (Res.idx (.list (.int .u16)) d (0+Int.toNat j) fun e7=>Res.ah (ile 0 i && ilt i d.length) (Res.idx (.list (.int .u16)) d (0+Int.toNat i) fun e8=>Res.ah (ile 0 i && ilt i d.length) (Res.idx (.list (.int .u16)) d (0+Int.toNat i) fun e9=>Res.ah (ile 0 j && ilt j (List.set d (0+Int.toNat i) e7).length) (Res.idx (.list (.int .u16)) (List.set d (0+Int.toNat i) e7) (0+Int.toNat j) fun e10=>k (List.set (List.set d (0+Int.toNat i) e7) (0+Int.toNat j) e8)))))).sat Q:=by
 refine oW d j hj.1 hj.2 fun y hy=>?_
 refine oW d i hi.1 hi.2 fun x hx=>?_
 refine oW d i hi.1 hi.2 fun x' hx'=>?_
 refine oW (List.set d (0+Int.toNat i) y) j hj.1 (by rw [List.length_set];exact hj.2) fun y' hy'=>?_
 rw [Nat.zero_add,Nat.zero_add]
 exact h x y hx hy
theorem tD (d:my) (a b:Int) (ha:0<=a) (hb:b<=d.length) (hab:a<=d.length) (hl:d.length < 2^60):(R.aP d a b ()).sat fun y=>y.2.Perm d:=by
 unfold R.aP
 have hw:IntKind.wrap .i64 (a+1)=a+1:=wrap64 (by omega)
 rw [hw]
 refine aA fun _=>aB (R:=fun d'=>d'.Perm d) (uk (fun x:Int×my=>x.1) (d.length+1) (by omega) (fun x=>(a+1<=x.1/\x.1<=d.length+1)/\x.2.Perm d) ⟨⟨by simp,by simp only;omega⟩,List.Perm.refl _⟩ (fun x h=>by omega) ?_) fun d' h=>aD h
 rintro ⟨i,d1⟩ ⟨⟨h1,h2⟩,hp⟩
 simp only at h1 h2 hp
 have hlen:=hp.length_eq
 refine aI (fun h3=>?_) fun h3=>aD hp
 rw [iT] at h3
 simp only at h3
 refine aB (R:=fun d'=>d'.Perm d) (mw (fun k (x:Int×my)=>k=(x.1-a).toNat/\(a<=x.1/\x.1<=i)/\x.2.Perm d) ?_ _ (i-a).toNat _ (by have:fuel=2^70:=rfl;omega) ⟨rfl,⟨by simp only;omega,Int.le_refl _⟩,hp⟩) fun d' h=>aD ⟨wrap64 (by omega),by simp only;rw [wrap64 (by omega)];omega,h⟩
 rintro k ⟨j,d2⟩ ⟨hk,⟨h4,h5⟩,hp2⟩
 simp only at hk h4 h5 hp2
 have hlen2:=hp2.length_eq
 refine aB (R:=fun b=>b=true->a < j) ?_ ?_
 ·refine aI (fun h6=>?_) fun h6=>aD fun h=>by cases h
  rw [iT] at h6
  simp only at h6
  rw [wrap64 (n:=j-1) (by omega)]
  refine oW d2 j (by omega) (by omega) fun e3 _=>?_
  refine oW d2 (j-1) (by omega) (by omega) fun e4 _=>?_
  exact q_b fun _=>(aA fun _=>aD fun _=>h6)
 ·intro x hx
  refine aI (fun h6=>?_) fun _=>aD hp2
  have hj:=hx h6
  simp only
  rw [wrap64 (n:=j-1) (by omega)]
  refine ta (d:=d2) (i:=j) (j:=j-1) (k:=fun d'=>(Res.ok (Res.Step.next (j-1,d')):Res (Res.Step (Int×my) my))) ⟨by omega,by omega⟩ ⟨by omega,by omega⟩ fun x y hx hy=>?_
  exact aD ⟨(j-1-a).toNat,by omega,rfl,⟨by simp only;omega,by simp only;omega⟩,(swap_perm hx hy).trans hp2⟩
theorem qL (d:my) (a b n:Int) (ha:0<=a) (hb:0<=b) (han:a+n<=d.length) (hbn:b+n<=d.length) (hn:0<=n) (hl:d.length < 2^60):(R.aN d a b n ()).sat fun y=>y.2.Perm d:=by
 unfold R.aN
 refine aA fun _=>aB (R:=fun d'=>d'.Perm d) (uk (fun x:Int×my=>x.1) n.toNat (by omega) (fun x=>(0<=x.1/\x.1<=n.toNat)/\x.2.Perm d) ⟨⟨by simp,by simp only;omega⟩,List.Perm.refl _⟩ (fun x h=>h.1) ?_) fun d' h=>aD h
 rintro ⟨i,d1⟩ ⟨⟨h1,h2⟩,hp⟩
 simp only at h1 h2 hp
 have hlen:=hp.length_eq
 refine aI (fun h3=>?_) fun h3=>aD hp
 rw [iT] at h3
 simp only at h3 ⊢
 rw [wrap64 (n:=b+i) (by omega),wrap64 (n:=a+i) (by omega),wrap64 (n:=i+1) (by omega)]
 refine ta (d:=d1) (i:=a+i) (j:=b+i) (k:=fun d'=>(Res.ok (Res.Step.next (i+1,d')):Res (Res.Step (Int×my) my))) ⟨by omega,by omega⟩ ⟨by omega,by omega⟩ fun x y hx hy=>?_
 exact aD ⟨rfl,⟨by simp only;omega,by simp only;omega⟩,(swap_perm hx hy).trans hp⟩
theorem DX (d:my) (a m b:Int) (ha:0<=a) (ham:a < m) (hmb:m < b) (hb:b<=d.length) (hl:d.length < 2^60):(R.aV d a m b ()).sat fun y=>y.2.Perm d:=by
 unfold R.aV
 rw [wrap64 (n:=m-a) (by omega),wrap64 (n:=b-m) (by omega)]
 refine aA fun _=>aB (R:=fun (x:Int×my)=>(0 < x.1/\x.1<=m-a/\x.1<=b-m)/\x.2.Perm d) (mw (fun k (x:Int×Int×my)=>k=(x.1+x.2.1).toNat/\(0 < x.1/\x.1<=m-a)/\(0 < x.2.1/\x.2.1<=b-m)/\x.2.2.Perm d) ?_ _ (b-a).toNat _ (by have:fuel=2^70:=rfl;omega) ⟨by simp only;congr 1;omega,⟨by simp only;omega,by simp only;omega⟩,⟨by simp only;omega,by simp only;omega⟩,List.Perm.refl _⟩) ?_
 ·rintro k ⟨i,j,d1⟩ ⟨hk,⟨h1,h2⟩,⟨h3,h4⟩,hp⟩
  simp only at hk h1 h2 h3 h4 hp
  have hlen:=hp.length_eq
  refine aI (fun h5=>?_) fun h5=>aD ⟨⟨h1,h2,?_⟩,hp⟩
  ·have h5:¬ i=j:=by simpa using h5
   refine aI (fun h6=>?_) fun h6=>?_
   ·rw [iT] at h6
    simp only at h6 ⊢
    rw [wrap64 (n:=m-i) (by omega),wrap64 (n:=i-j) (by omega)]
    refine aB (qL d1 (m-i) m j (by omega) (by omega) (by omega) (by omega) (by omega) (by omega)) fun y hy=>aA fun _=>aD ⟨(i-j+j).toNat,by omega,rfl,⟨by simp only;omega,by simp only;omega⟩,⟨by simp only;omega,by simp only;omega⟩,hy.trans hp⟩
   ·rw [mU] at h6
    simp only at h6 ⊢
    rw [wrap64 (n:=m-i) (by omega),wrap64 (n:=m+j) (by omega),wrap64 (n:=m+j-i) (by omega),wrap64 (n:=j-i) (by omega)]
    refine aB (qL d1 (m-i) (m+j-i) i (by omega) (by omega) (by omega) (by omega) (by omega) (by omega)) fun y hy=>aA fun _=>aD ⟨(i+(j-i)).toNat,by omega,rfl,⟨by simp only;omega,by simp only;omega⟩,⟨by simp only;omega,by simp only;omega⟩,hy.trans hp⟩
  ·have h5:i=j:=by simpa using h5
   simp only
   omega
 ·rintro ⟨i,d1⟩ ⟨⟨h1,h2,h3⟩,hp⟩
  simp only at h1 h2 h3 hp ⊢
  have hlen:=hp.length_eq
  rw [wrap64 (n:=m-i) (by omega)]
  refine aB (qL d1 (m-i) m i (by omega) (by omega) (by omega) (by omega) (by omega) (by omega)) fun y hy=>aA fun _=>aD (hy.trans hp)
abbrev yp (x:Int):Int:=IntKind.wrap .i64 (ir .u64 (IntKind.wrap .u64 (IntKind.wrap .i64 x)) 1)
theorem uy {x:Int}(h:0<=x/\x < 2^62):yp x=x / 2:=by
 unfold yp
 have h1:IntKind.wrap .i64 x=x:=wrap64 (by omega)
 have h2:IntKind.wrap .u64 x=x:=by
  simp [IntKind.wrap,IntKind.signed,IntKind.bits]
  omega
 have h3:ir .u64 x 1=x / 2:=by
  unfold ir
  have:(min (Int.toNat 1) (IntKind.bits .u64))=1:=by decide
  rw [this]
  show x.fdiv 2=x / 2
  rw [Int.fdiv_eq_ediv]
  omega
 rw [h1,h2,h3]
 exact wrap64 (by omega)
theorem uH {d:my}(lo hi:Int) (hlo:0<=lo) (hhi:hi < 2^60) (hle:lo<=hi) (f:Int×Int->Res (Res.Step (Int×Int) Int))
  (hf:∀ i j,lo<=i->i<=j->j<=hi->(f (i,j)).sat fun
   |.next x=>i < j/\((x=((i+j) / 2+1,j))\/x=(i,(i+j) / 2))
   |.done r=>r=i):(Res.loop f fuel (lo,hi)).sat fun r=>lo<=r/\r<=hi:=by
 refine mw (fun k (x:Int×Int)=>k=(x.2-x.1).toNat/\lo<=x.1/\x.1<=x.2/\x.2<=hi) ?_ _ (hi-lo).toNat _ (by have:fuel=2^70:=rfl;omega) ⟨rfl,Int.le_refl _,hle,Int.le_refl _⟩
 rintro k ⟨i,j⟩ ⟨hk,h1,h2,h3⟩
 simp only at hk h1 h2 h3
 refine bH (hf i j h1 h2 h3) fun s hs=>?_
 cases s with
 |next x =>
  obtain ⟨h4,rfl|rfl⟩:=hs
  ·exact ⟨_,by omega,rfl,by simp only;omega,by simp only;omega,by simp only;omega⟩
  ·exact ⟨_,by omega,rfl,by simp only;omega,by simp only;omega,by simp only;omega⟩
 |done r =>
  have hs:r=i:=hs
  subst hs
  exact ⟨h1,by omega⟩
theorem pR:∀ (fu:Nat) (d:my) (a m b:Int),(b-a).toNat < fu->0<=a->a < m->m < b->b<=d.length->d.length < 2^60->(R.aJ fu d a m b ()).sat fun y=>y.2.Perm d
 |0,_,_,_,_,h,_,_,_,_,_=>by omega
 |fu+1,d,a,m,b,hfu,h0,ham,hmb,hb,hl=>by
  unfold R.aJ
  rw [wrap64 (n:=m-a) (by omega),wrap64 (n:=b-m) (by omega)]
  refine aA fun _=>aI (fun hone=>?_) fun hone=>aI (fun hone2=>?_) fun hone2=>?_
  ·
   refine aB (R:=fun r=>m<=r/\r<=b) (uH (d:=d) m b (by omega) (by omega) (by omega) _ fun i j h1 h2 h3=>?_) fun i5 hi5=>?_
   ·simp only
    refine aI (fun h4=>?_) fun h4=>aD rfl
    rw [iT] at h4
    have hh:yp (i+j)=(i+j) / 2:=uy (by omega)
    refine bG rfl ?_
    rw [show IntKind.wrap .i64 (ir .u64 (IntKind.wrap .u64 (IntKind.wrap .i64 (i+j))) 1)=(i+j) / 2 from hh]
    refine oW d ((i+j) / 2) (by omega) (by omega) fun e2 _=>?_
    refine oW d a (by omega) (by omega) fun e3 _=>?_
    refine q_b fun _=>(aA fun _=>aI (fun _=>aD ⟨h4,.inl ?_⟩) fun _=>aD ⟨h4,.inr rfl⟩)
    rw [wrap64 (by omega)]
   ·rw [wrap64 (n:=i5-1) (by omega)]
    refine aB (R:=fun d'=>d'.Perm d) (uk (fun x:Int×my=>x.1) (d.length+1) (by omega) (fun x=>(a<=x.1/\x.1<=d.length)/\x.2.Perm d) ⟨⟨by simp,by simp only;omega⟩,List.Perm.refl _⟩ (fun x h=>by omega) ?_) fun d' h=>aD h
    rintro ⟨k,d2⟩ ⟨⟨h1,h2⟩,hp⟩
    simp only at h1 h2 hp
    have hlen:=hp.length_eq
    refine aI (fun h3=>?_) fun h3=>aD hp
    rw [iT] at h3
    simp only at h3 ⊢
    rw [wrap64 (n:=k+1) (by omega)]
    refine ta (d:=d2) (i:=k) (j:=k+1) (k:=fun d'=>(Res.ok (Res.Step.next (k+1,d')):Res (Res.Step (Int×my) my))) ⟨by omega,by omega⟩ ⟨by omega,by omega⟩ fun x y hx hy=>?_
    exact aD ⟨rfl,⟨by simp only;omega,by simp only;omega⟩,(swap_perm hx hy).trans hp⟩
  ·
   refine aB (R:=fun r=>a<=r/\r<=m) (uH (d:=d) a m (by omega) (by omega) (by omega) _ fun i j h1 h2 h3=>?_) fun i5 hi5=>?_
   ·simp only
    refine aI (fun h4=>?_) fun h4=>aD rfl
    rw [iT] at h4
    have hh:yp (i+j)=(i+j) / 2:=uy (by omega)
    refine bG rfl ?_
    rw [show IntKind.wrap .i64 (ir .u64 (IntKind.wrap .u64 (IntKind.wrap .i64 (i+j))) 1)=(i+j) / 2 from hh]
    refine oW d m (by omega) (by omega) fun e2 _=>?_
    refine oW d ((i+j) / 2) (by omega) (by omega) fun e3 _=>?_
    refine q_b fun _=>(aA fun _=>aI (fun _=>aD ⟨h4,.inl ?_⟩) fun _=>aD ⟨h4,.inr rfl⟩)
    rw [wrap64 (by omega)]
   ·refine aB (R:=fun d'=>d'.Perm d) (mw (fun k (x:Int×my)=>k=x.1.toNat/\(0<=x.1/\x.1<=m)/\x.2.Perm d) ?_ _ m.toNat _ (by have:fuel=2^70:=rfl;omega) ⟨rfl,⟨by simp only;omega,Int.le_refl _⟩,List.Perm.refl _⟩) fun d' h=>aD h
    rintro q ⟨k,d2⟩ ⟨hq,⟨h1,h2⟩,hp⟩
    simp only at hq h1 h2 hp
    have hlen:=hp.length_eq
    refine aI (fun h3=>?_) fun h3=>aD hp
    rw [iT] at h3
    simp only at h3 ⊢
    rw [wrap64 (n:=k-1) (by omega)]
    refine ta (d:=d2) (i:=k) (j:=k-1) (k:=fun d'=>(Res.ok (Res.Step.next (k-1,d')):Res (Res.Step (Int×my) my))) ⟨by omega,by omega⟩ ⟨by omega,by omega⟩ fun x y hx hy=>?_
    exact aD ⟨_,by omega,rfl,⟨by simp only;omega,by simp only;omega⟩,(swap_perm hx hy).trans hp⟩
  ·
   have hone:¬ m-a=1:=by simpa using hone
   have hone2:¬ b-m=1:=by simpa using hone2
   have hmid:IntKind.wrap .i64 (ir .u64 (IntKind.wrap .u64 (IntKind.wrap .i64 (a+b))) 1)=(a+b) / 2:=uy (by omega)
   rw [hmid]
   generalize hM:(a+b) / 2=mid
   have hM1:a+b-1<=2*mid/\2*mid<=a+b:=by omega
   rw [wrap64 (n:=mid+m) (by omega),wrap64 (n:=mid+m-b) (by omega),wrap64 (n:=mid+m-1) (by omega)]
   refine bG rfl (aB (R:=fun (x:Int×Int)=>(a<=x.1/\x.1<=x.2/\x.2<=m)/\mid+m-x.1<=b/\(x.2<=mid)/\(mid<=mid+m-x.2)) ?_ ?_)
   ·refine aI (fun h1=>aD ?_) fun h1=>aD ?_
    ·rw [iT] at h1;simp only;omega
    ·rw [mU] at h1;simp only;omega
   rintro ⟨st,rr⟩ ⟨⟨s1,s2,s3⟩,s4,s5,s6⟩
   simp only at s1 s2 s3 s4 s5 s6
   refine aB (R:=fun r=>st<=r/\r<=rr) (uH (d:=d) st rr (by omega) (by omega) (by omega) _ fun i j h1 h2 h3=>?_) fun s hs=>?_
   ·simp only
    refine aI (fun h4=>?_) fun h4=>aD rfl
    rw [iT] at h4
    have hh:yp (i+j)=(i+j) / 2:=uy (by omega)
    refine bG rfl ?_
    rw [show IntKind.wrap .i64 (ir .u64 (IntKind.wrap .u64 (IntKind.wrap .i64 (i+j))) 1)=(i+j) / 2 from hh]
    rw [wrap64 (n:=mid+m-1-(i+j) / 2) (by omega)]
    refine oW d (mid+m-1-(i+j) / 2) (by omega) (by omega) fun e2 _=>?_
    refine oW d ((i+j) / 2) (by omega) (by omega) fun e3 _=>?_
    refine q_b fun _=>(aA fun _=>aI (fun _=>aD ⟨h4,.inl ?_⟩) fun _=>aD ⟨h4,.inr rfl⟩)
    rw [wrap64 (by omega)]
   ·obtain ⟨hs1,hs2⟩:=hs
    rw [wrap64 (n:=mid+m-s) (by omega)]
    refine aB (R:=fun d'=>d'.Perm d) ?_ fun d1 hp1=>aB (R:=fun d'=>d'.Perm d) ?_ fun d2 hp2=>?_
    ·refine aB (R:=fun c=>c=true->s < m/\m < mid+m-s) ?_ fun c hc=>aI (fun h=>?_) fun _=>aD (List.Perm.refl _)
     ·refine aI (fun h1=>aD fun h2=>?_) fun _=>aD fun h=>by cases h
      rw [iT] at h1 h2
      exact ⟨h1,h2⟩
     ·obtain ⟨h1,h2⟩:=hc h
      exact aB (DX d s m (mid+m-s) (by omega) h1 h2 (by omega) hl) fun y hy=>aA fun _=>aD hy
    ·have hlen1:=hp1.length_eq
     refine aB (R:=fun c=>c=true->a < s/\s < mid) ?_ fun c hc=>aI (fun h=>?_) fun _=>aD hp1
     ·refine aI (fun h1=>aD fun h2=>?_) fun _=>aD fun h=>by cases h
      rw [iT] at h1 h2
      exact ⟨h1,h2⟩
     ·obtain ⟨h1,h2⟩:=hc h
      exact aB (pR fu d1 a s mid (by omega) h0 h1 h2 (by omega) (by omega)) fun y hy=>aA fun _=>aD (hy.trans hp1)
    ·have hlen2:=hp2.length_eq
     refine aB (R:=fun c=>c=true->mid < mid+m-s/\mid+m-s < b) ?_ fun c hc=>aI (fun h=>?_) fun _=>aD hp2
     ·refine aI (fun h1=>aD fun h2=>?_) fun _=>aD fun h=>by cases h
      rw [iT] at h1 h2
      exact ⟨h1,h2⟩
     ·obtain ⟨h1,h2⟩:=hc h
      exact aB (pR fu d2 mid (mid+m-s) b (by omega) (by omega) h1 h2 (by omega) (by omega)) fun y hy=>aA fun _=>aD (hy.trans hp2)
theorem Cn (d:my) (hl:d.length < 2^50):(R.aW d (d.length:Int) ()).sat fun y=>y.2.Perm d:=by
 unfold R.aW
 refine aA fun _=>aB (R:=fun (x:Int×my)=>(0<=x.1/\x.1<=d.length)/\x.2.Perm d) (mw (fun k (x:Int×Int×my)=>k=(d.length+20-x.1).toNat/\(0<=x.1/\x.1<=d.length)/\x.2.1=x.1+20/\x.2.2.Perm d) ?_ _ (d.length+20) _ (by have:fuel=2^70:=rfl;omega) ⟨by simp only;omega,⟨by simp only;omega,by simp only;omega⟩,rfl,List.Perm.refl _⟩) ?_
 ·rintro k ⟨a,b,d1⟩ ⟨hk,⟨h1,h2⟩,h3,hp⟩
  simp only at hk h1 h2 h3 hp
  have hlen:=hp.length_eq
  refine aI (fun h4=>?_) fun h4=>aD ⟨⟨h1,h2⟩,hp⟩
  rw [nB] at h4
  simp only at h4 ⊢
  refine aB (tD d1 a b h1 (by omega) (by omega) (by omega)) fun y hy=>aA fun _=>aD ⟨(d.length+20-b).toNat,by omega,rfl,⟨by simp only;omega,h4⟩,wrap64 (by omega),hy.trans hp⟩
 rintro ⟨a,d1⟩ ⟨⟨h1,h2⟩,hp⟩
 simp only at h1 h2 hp
 have hlen:=hp.length_eq
 refine aB (tD d1 a d.length h1 (by omega) (by omega) (by omega)) fun y hy=>aA fun _=>?_
 obtain ⟨_,d2⟩:=y
 simp only at hy ⊢
 have hp2:=hy.trans hp
 refine aB (R:=fun d'=>d'.Perm d) (mw (fun k (x:Int×my)=>k=(d.length-x.1).toNat/\(20<=x.1/\x.1<=2^52)/\x.2.Perm d) ?_ _ ((d.length:Int)-20).toNat _ (by have:fuel=2^70:=rfl;omega) ⟨rfl,⟨by simp only;omega,by simp only;omega⟩,hp2⟩) fun d' h=>aD h
 rintro k ⟨bs,d3⟩ ⟨hk,⟨h3,h4⟩,hp3⟩
 simp only at hk h3 h4 hp3
 have hlen3:=hp3.length_eq
 refine aI (fun h5=>?_) fun h5=>aD hp3
 rw [iT] at h5
 simp only at h5 ⊢
 rw [wrap64 (n:=2*bs) (by omega),wrap64 (n:=bs*2) (by omega)]
 refine aB (R:=fun (x:Int×my)=>(0<=x.1/\x.1<=d.length)/\x.2.Perm d) (mw (fun k (x:Int×Int×my)=>k=(d.length+2*bs-x.1).toNat/\(0<=x.1/\x.1<=d.length)/\x.2.1=x.1+2*bs/\x.2.2.Perm d) ?_ _ (d.length+2*bs).toNat _ (by have:fuel=2^70:=rfl;omega) ⟨by simp only;omega,⟨by simp only;omega,by simp only;omega⟩,by simp only;omega,hp3⟩) ?_
 ·rintro k ⟨a,b,d4⟩ ⟨hk,⟨h6,h7⟩,h8,hp4⟩
  simp only at hk h6 h7 h8 hp4
  have hlen4:=hp4.length_eq
  refine aI (fun h9=>?_) fun h9=>aD ⟨⟨h6,h7⟩,hp4⟩
  rw [nB] at h9
  simp only at h9 ⊢
  rw [wrap64 (n:=a+bs) (by omega),wrap64 (n:=b+2*bs) (by omega)]
  refine aB (pR fuel d4 a (a+bs) b (by have:fuel=2^70:=rfl;omega) h6 (by omega) (by omega) (by omega) (by omega)) fun y hy=>aA fun _=>aD ⟨(d.length+2*bs-b).toNat,by omega,rfl,⟨by simp only;omega,h9⟩,rfl,hy.trans hp4⟩
 rintro ⟨a,d4⟩ ⟨⟨h6,h7⟩,hp4⟩
 simp only at h6 h7 hp4 ⊢
 have hlen4:=hp4.length_eq
 rw [wrap64 (n:=a+bs) (by omega)]
 refine aI (fun h9=>?_) fun h9=>aD ⟨(d.length-bs*2).toNat,by omega,rfl,⟨by simp only;omega,by simp only;omega⟩,hp4⟩
 rw [iT] at h9
 exact aB (pR fuel d4 a (a+bs) d.length (by have:fuel=2^70:=rfl;omega) h6 (by omega) h9 (by omega) (by omega)) fun y hy=>aA fun _=>aD ⟨(d.length-bs*2).toNat,by omega,rfl,⟨by simp only;omega,by simp only;omega⟩,hy.trans hp4⟩
theorem wZ (d:my) (hl:d.length < 2^50):(R.aU d ()).sat fun y=>y.2.Perm d:=by
 unfold R.aU
 exact aA fun _=>aB (Cn d hl) fun y hy=>aA fun _=>aD hy
theorem Ej {h:qi}{i:Int}{c:j6}(h0:0<=i) (hc:h.2[i.toNat]?=some c) (hl:c.2.2.1.length<=2^39):(R.fQ h i).sat fun l=>l.length=c.2.2.1.length:=by
 unfold R.fQ
 refine aA fun _=>kL (fun c' _ hc'=>hJ rfl (kg h0 hc ?_)) fun hn=>absurd ⟨h0,(List.getElem?_eq_some_iff.1 hc).1⟩ hn
 refine aB (iA (Q:=fun x:my×my=>x.1.length+x.2.length=c.2.2.1.length) (fun x=>x.2.2) c.2.2.1.length (by omega) (fun x=>x.1.length+x.2.1.length=x.2.2.toNat) (by simp) (by simp) (by simp) fun x x0 x1 xI=>?_) fun x hx=>?_
 ·obtain ⟨p,q,j⟩:=x
  have x0:0<=j:=x0
  have x1:j<=(c.2.2.1.length:Int):=x1
  have xI:p.length+q.length=j.toNat:=xI
  refine er (fun hj=>?_) fun hj=>aD ?_
  ·have hj:j < (c.2.2.1.length:Int):=hj
   refine bR x0 (by show _ < c.2.2.1.length;omega) fun e he _=>pV (aA fun _=>q_b fun _=>aA fun _=>aI (fun _=>bG (decide_eq_true ?_) (aD ⟨rfl,hj,?_⟩)) fun _=>bG (decide_eq_true ?_) (aD ⟨rfl,hj,?_⟩))
   ·show (p.length+1)*24<=2^47
    omega
   ·show (p++[_]).length+q.length=(IntKind.wrap .i64 (j+1)).toNat
    rw [wrap64 (by omega),List.length_append]
    simp
    omega
   ·show (q.length+1)*24<=2^47
    omega
   ·show p.length+(q++[_]).length=(IntKind.wrap .i64 (j+1)).toNat
    rw [wrap64 (by omega),List.length_append]
    simp
    omega
  ·have hj:(c.2.2.1.length:Int)<=j:=hj
   show p.length+q.length=c.2.2.1.length
   omega
 ·obtain ⟨p,q⟩:=x
  have hx:p.length+q.length=c.2.2.1.length:=hx
  refine aB (wZ p (by omega)) fun y hy=>aA fun _=>?_
  have hleny:=hy.length_eq
  refine bG (decide_eq_true ?_) (aD ?_)
  ·show (y.2.length+q.length)*24<=2^47
   omega
  ·show (y.2++q).length=_
   rw [List.length_append]
   omega
end Go.Mach

set_option maxRecDepth 100000
namespace Go.Mach
open Res
def pX (C:Cx) (m b:Int) (s:RunT){α:Type}(P:α->Prop):α ⊕ (Int×(RunT×eD))->Prop
 |.inl a=>P a
 |.inr z=>cy C m b s ((z.2.2,z.1),z.2.1)
theorem oQ {C:Cx}{m b:Int}{s:RunT}{α:Type}{P:α->Prop}{x:α ⊕ (Int×(RunT×eD))}(hx:pX C m b s P x){f:α->Res ((eD×Int)×RunT)}(hf:∀ a,P a->(f a).sat (cy C m b s)):(sum x f fun z=>Res.ok ((z.2.2,z.1),z.2.1)).sat (cy C m b s):=by
 cases x with
 |inl a=>exact jf (hf a hx)
 |inr z=>exact jd (aD hx)
theorem oY {C:Cx}{m b:Int}{s:RunT}{α:Type}{P:α->Prop}{F:Res ((eD×Int)×RunT)}{B:(eD×Int)×RunT->Bool}(hF:F.sat (cy C m b s)):(F.bind fun r=>given (B r) (Res.ok (Sum.inr (r.1.2,(r.2,r.1.1)):α ⊕ (Int×(RunT×eD))))).sat (pX C m b s P):=aB hF fun r hr=>aA fun _=>aD hr
theorem Ef {B:Nat}{c:j6}(h1:c.2.2.1=[]) (h2:c.2.2.2.1=[]) (h3:cD c.2.2.2.2.2.2.2.1) (h4:c.2.2.2.2.1.length<=4096:=by exact Nat.zero_le _):sL B c:=⟨by rw [h1];exact Nat.zero_le _,by rw [h2];exact Nat.zero_le _,by rw [h1];simp,by rw [h2];simp,h3,h4⟩
theorem je {x k j:Int}(e:x=k) (h:k≠j):x≠j:=fun g=>h (e.symm.trans g)
theorem pG.vw1 {N:List gJ}{l:List j6}{c:j6}(e:Eq (α:=Int) (c.1) (8)) (h:LE.le (α:=Int) (0) (c.2.2.2.2.2.2.2.2.2.2.1)/\LE.le (α:=Int) (0) (c.2.2.2.2.2.2.2.2.2.2.2.1)/\LE.le (α:=Int) ((HAdd.hAdd (α:=Int) (β:=Int) (γ:=Int) (c.2.2.2.2.2.2.2.2.2.2.1) (c.2.2.2.2.2.2.2.2.2.2.2.1))) (9007199254740991)/\qa l c.2.2.2.2.2.2.2.2.2.1 (HAdd.hAdd (α:=Int) (β:=Int) (γ:=Int) (c.2.2.2.2.2.2.2.2.2.2.1) (c.2.2.2.2.2.2.2.2.2.2.2.1))):pG N l c:=⟨fun g=>absurd g (je e (by decide)),fun g=>absurd g (je e (by decide)),fun g=>absurd g (je e (by decide)),fun g=>absurd g (je e (by decide)),fun _=>h⟩
theorem pG.ty1 {N:List gJ}{l:List j6}{c:j6}{z:Int}(e:Eq (α:=Int) (c.1) (7)) (h:ElI c.2.2.2.2.2.2.2.2.1 z/\LE.le (α:=Int) (0) (c.2.2.2.2.2.2.2.2.2.2.1)/\LE.le (α:=Int) (0) (c.2.2.2.2.2.2.2.2.2.2.2.1)/\LE.le (α:=Int) (c.2.2.2.2.2.2.2.2.2.2.2.1) (9007199254740991)/\LE.le (α:=Int) ((HAdd.hAdd (α:=Int) (β:=Int) (γ:=Int) (c.2.2.2.2.2.2.2.2.2.2.1) (HMul.hMul (α:=Int) (β:=Int) (γ:=Int) c.2.2.2.2.2.2.2.2.2.2.2.1 z))) (9007199254740991)/\qa l c.2.2.2.2.2.2.2.2.2.1 (HAdd.hAdd (α:=Int) (β:=Int) (γ:=Int) (c.2.2.2.2.2.2.2.2.2.2.1) (HMul.hMul (α:=Int) (β:=Int) (γ:=Int) c.2.2.2.2.2.2.2.2.2.2.2.1 z))):pG N l c:=⟨fun g=>absurd g (je e (by decide)),fun g=>absurd g (je e (by decide)),fun g=>absurd g (je e (by decide)),fun _=>⟨z,h⟩,fun g=>absurd g (je e (by decide))⟩
theorem pG.sh1 {N:List gJ}{l:List j6}{c:j6}(e:Eq (α:=Int) (c.1) (6)) (h:LE.le (α:=Int) (0) (c.2.2.2.2.2.2.2.2.2.2.2.1)/\LE.le (α:=Int) (c.2.2.2.2.2.2.2.2.2.2.2.1) (9007199254740991)):pG N l c:=⟨fun g=>absurd g (je e (by decide)),fun g=>absurd g (je e (by decide)),fun _=>h,fun g=>absurd g (je e (by decide)),fun g=>absurd g (je e (by decide))⟩
theorem pG.bf1 {N:List gJ}{l:List j6}{c:j6}(e:Eq (α:=Int) (c.1) (5)) (h:(c.2.2.2.2.2.2.2.2.2.2.2.2).length<=4096):pG N l c:=⟨fun g=>absurd g (je e (by decide)),fun _=>h,fun g=>absurd g (je e (by decide)),fun g=>absurd g (je e (by decide)),fun g=>absurd g (je e (by decide))⟩
theorem lF {l:List eD}(hl:∀ v∈l,cD v){i:Int}(h0:0<=i):(R.bU l i).sat cD:=by
 unfold R.bU
 exact aA fun _=>er (fun h=>bR h0 (by have h:i < (l.length:Int):=h;show _ < l.length;omega) fun x hx _=>aD (hl _ (List.mem_of_getElem? hx))) fun _=>aD bt
theorem lr {n:Int}:(R.bY n).sat cD:=by
 unfold R.bY
 exact aA fun _=>aB nS fun r hr=>aA fun _=>aD (vk hr)
instance FU {n}:Safe (R.fL n):=by
 unfold R.fL
 refine ⟨aA fun h=>?_⟩
 simp only [Sg.i,oks,Sh.ok,Ty.ok,List.map,Par.v,Bool.and_eq_true,GZ] at h
 exact aY (a:=Lib.itoa n) rfl (aA fun _=>aB (dV (Nat.le_trans (Lib.itoa_length_le n (by omega) (by omega)) (by decide))) fun _ _=>aA fun _=>aD trivial)
theorem DI {u:List Int}:(R.eA u).sat fun r=>r.1.length<=u.length:=by
 unfold R.eA
 refine aA fun h=>?_
 simp only [Sg.i,oks,Sh.ok,Ty.ok,List.map,Par.v,Bool.and_eq_true] at h
 have hl:=uA h
 simp only [Sh.jv,Ty.jv,IntKind.jv] at hl
 refine aB (iA (Q:=fun r:List Int ⊕ (List UInt8×Bool)=>match r with|.inl l=>l.length<=u.length|.inr r=>r.1.length<=u.length) (fun i=>i.2) u.length (by omega) (fun x=>x.1.length=x.2.toNat) (by simp) (by simp) (by simp) fun x h0 h1 hI=>?_) fun x hx=>?_
 ·obtain ⟨l,i⟩:=x
  have h0:0<=i:=h0
  have h1:i<=(u.length:Int):=h1
  have hI:l.length=i.toNat:=hI
  refine er (fun hi=>?_) fun _=>aD (by show l.length<=u.length;omega)
  have hi:i < (u.length:Int):=hi
  refine bR h0 (by show _ < u.length;omega) fun e _ _=>er (fun _=>aD (Nat.zero_le _)) fun _=>bG (decide_eq_true ?_) (aD ⟨rfl,hi,?_⟩)
  ·show (l.length+1)*1<=2^47
   omega
  ·show (l++[_]).length=(IntKind.wrap .i64 (i+1)).toNat
   rw [wrap64 (by omega),List.length_append]
   simp
   omega
 ·cases x with
  |inl l=>exact jf (aD (by rw [vh];exact hx))
  |inr r=>exact jd (aD hx)
theorem D4 {k:Nat}(h:k<=10):(10:Int)^k<=10000000000:=by
 have h1:((10^k:Nat):Int)<=((10000000000:Nat):Int):=Int.ofNat_le.2 (Nat.le_trans (Nat.pow_le_pow_right (by decide) h) (by decide))
 rw [Int.natCast_pow] at h1
 exact h1
theorem yO {u:List Int}:(R.eI u).sat fun r=>0<=r.1/\r.1<=4294967294:=by
 unfold R.eI
 refine aA fun _=>aB (R:=fun b=>b=false->u.length<=10) (bI (fun _=>aD fun e=>by cases e) fun h0=>er (fun _=>aD fun e=>by cases e) fun h1=>?_) fun b hb=>aI (fun _=>aD ⟨by decide,by decide⟩) fun e=>?_
 ·have h0:(u.length:Int)≠0:=h0
  have h1:(u.length:Int)<=10:=h1
  exact bR (by decide) (by show 0 < u.length;omega) fun _ _ _=>bI (fun _=>aD fun _=>by omega) fun _=>aD fun _=>by omega
 ·have hl:=hb e
  refine aB (iA (Q:=fun r:Int ⊕ (Int×Bool)=>match r with|.inl n=>0<=n|.inr r=>0<=r.1/\r.1<=4294967294) (fun i=>i.2) u.length (by omega) (fun x=>0<=x.1/\x.1+1<=10^x.2.toNat) (by simp) (by simp) (by simp) fun x h0 h1 hI=>?_) fun x hx=>?_
  ·obtain ⟨n,i⟩:=x
   have h0:0<=i:=h0
   have h1:i<=(u.length:Int):=h1
   obtain ⟨n0,n1⟩:=hI
   have n0:0<=n:=n0
   have n1:n+1<=10^i.toNat:=n1
   refine er (fun hi=>?_) fun _=>aD n0
   have hi:i < (u.length:Int):=hi
   refine bR h0 (by show _ < u.length;omega) fun d _ _=>aB (R:=fun b=>b=true->48<=d/\d<=57) ?_ fun b hb=>dx (aI (fun e=>?_) fun _=>aD ⟨by decide,by decide⟩)
   ·unfold R.gT
    exact aA fun _=>lb (fun g=>aD fun e=>⟨g,of_decide_eq_true e⟩) fun _=>aD fun e=>by cases e
   ·obtain ⟨d0,d1⟩:=hb e
    have d0:LE.le (α:=Int) (48) (d):=d0
    have d1:LE.le (α:=Int) (d) (57):=d1
    have hp:(10:Int)^i.toNat<=10000000000:=D4 (by omega)
    have hp1:(10:Int)^(i.toNat+1)=10^i.toNat*10:=Int.pow_succ _ _
    refine aD ⟨rfl,hi,?_⟩
    have w1:IntKind.wrap .u16 (d-48)=d-48:=by simp [IntKind.wrap,IntKind.signed,IntKind.bits];omega
    show 0<=IntKind.wrap .i64 (IntKind.wrap .i64 (10*n)+IntKind.wrap .i64 (IntKind.wrap .u16 (d-48)))/\IntKind.wrap .i64 (IntKind.wrap .i64 (10*n)+IntKind.wrap .i64 (IntKind.wrap .u16 (d-48)))+1<=10^(IntKind.wrap .i64 (i+1)).toNat
    rw [w1,wrap64 (n:=10*n) (by omega),wrap64 (n:=d-48) (by omega),wrap64 (n:=10*n+(d-48)) (by omega),wrap64 (n:=i+1) (by omega),show (i+1).toNat=i.toNat+1 by omega,hp1]
    omega
  ·cases x with
   |inl n=>exact jf (er (fun _=>aD ⟨by decide,by decide⟩) fun h=>aD ⟨hx,h⟩)
   |inr r=>exact jd (aD hx)
theorem Ea {l:List (List UInt8)}{n:List UInt8}:(R.bQ l n).sat fun r=>-1<=r/\r < l.length/\(0<=r->n∈l):=by
 unfold R.bQ
 refine aA fun h=>?_
 simp only [Sg.i,oks,Sh.ok,Ty.ok,List.map,Par.v,Bool.and_eq_true] at h
 have hl:=la h.1
 refine aB (iA (Q:=fun r:Unit ⊕ Int=>match r with|.inl _=>True|.inr r=>-1<=r/\r < l.length/\(0<=r->n∈l)) (fun x=>x) l.length (by omega) (fun _=>True) (by omega) (by omega) trivial fun x h0 h1 _=>?_) fun x hx=>?_
 ·refine er (fun h=>bR (by omega) (by omega) fun e he _=>aI (fun g=>aD ⟨by omega,by omega,fun _=>?_⟩) fun _=>aD ⟨rfl,by omega,trivial⟩) fun _=>aD trivial
  rw [eq_of_beq g]
  exact List.mem_of_getElem? he
 ·cases x with
  |inl _=>exact jf (aD ⟨by omega,by omega,fun h=>absurd h (by decide)⟩)
  |inr r=>exact jd (aD hx)
theorem zW {l:List (List UInt8)}{n:List UInt8}:(R.aQ l n).sat fun r=>r=true->n∈l:=by
 unfold R.aQ
 exact aA fun _=>aB Ea fun r hr=>aA fun _=>aD fun e=>hr.2.2 (of_decide_eq_true e)
noncomputable def AW:List (List UInt8):=R.cX.strip.getD []
theorem B1:R.cX.sat (·=AW):=ow (a:=AW) (by kernel_rfl) rfl
def InN (s:List UInt8):Prop:=s∈([]::AW)
theorem EE {P:List UInt8->Bool}(h:([]::AW).all P=true){s:List UInt8}(hs:InN s):P s=true:=List.all_eq_true.1 h s hs
theorem Ez:AW.length<=100:=of_decide_eq_true (by kernel_rfl)
theorem zK {s:List UInt8}(hs:InN s):s.length<=100:=of_decide_eq_true (EE (P:=fun s=>decide (s.length<=100)) (by kernel_rfl) hs)
theorem tN {i:Int}:(R.gF i).sat fun r=>InN r/\(i < 4096->r=[]):=by
 unfold R.gF
 have hl:=Ez
 refine aA fun _=>aY B1 (aA fun _=>aB (R:=fun b=>b=false->4096<=i/\i < 4096+(AW.length:Int)) (er (fun _=>aD fun e=>by cases e) fun h=>aD fun e=>?_) fun b hb=>aI (fun _=>aD ⟨List.mem_cons_self,fun _=>rfl⟩) fun e=>?_)
 ·have e:=Int.not_le.1 (of_decide_eq_false e)
  rw [wrap64 (by omega)] at e
  exact ⟨h,e⟩
 ·obtain ⟨h1,h2⟩:=hb e
  rw [wrap64 (n:=i-4096) (by omega)]
  exact gG (iL (by omega) (nr (by omega) (bn (by omega) (by show _ < AW.length;omega) fun x hx _=>aD ⟨List.mem_cons_of_mem _ (List.mem_of_getElem? hx),fun h=>absurd h (by omega)⟩)))
theorem uN {n:List UInt8}:(R.gz n).sat fun r=>r=true->n≠[]:=by
 unfold R.gz
 refine aA fun _=>dx (aI (fun _=>aD fun e=>by cases e) fun h=>bH (dw0:Safe _).ok fun r _ _ e=>?_)
 subst e
 cases h
theorem eli {k:Int}(h:1<=k/\k<=8):∃ z,ElI k z:=by
 rcases (by omega:k=1\/k=2\/k=3\/k=4\/k=5\/k=6\/k=7\/k=8) with rfl|rfl|rfl|rfl|rfl|rfl|rfl|rfl
 ·exact ⟨1,.k1⟩
 ·exact ⟨1,.k2⟩
 ·exact ⟨2,.k3⟩
 ·exact ⟨2,.k4⟩
 ·exact ⟨4,.k5⟩
 ·exact ⟨4,.k6⟩
 ·exact ⟨8,.k7⟩
 ·exact ⟨8,.k8⟩
theorem y6 {n:List UInt8}:(R.eE n).sat fun r=>0<=r/\r<=8:=by
 unfold R.eE R.ep
 refine aA fun _=>fJ (aA fun _=>aD (aA fun _=>aB Ea fun r hr=>aA fun _=>aD ?_))
 obtain ⟨h1,h2,_⟩:=hr
 have h2:r < 8:=h2
 rw [wrap64 (by omega)]
 omega
theorem Ex {n:List UInt8}:(R.jJ n).sat fun r=>0 < r->∃ z,ElI r z:=by
 unfold R.jJ
 exact aA fun _=>aB safe fun r _=>aA fun _=>aI (fun _=>aB y6 fun k hk=>aA fun _=>aD fun h=>eli ⟨by omega,hk.2⟩) fun _=>aD fun h=>absurd h (by decide)
def optB {α:Type}(o:Option α) (f:α->Bool):Bool :=
 match o with
 |some x=>f x
 |none=>false
theorem u4 {α:Type}{m:Res α}{f:α->Bool}(h:optB m.strip f=true):m.sat fun x=>f x=true:=by
 cases hm:m.strip with
 |none=>rw [hm] at h;cases h
 |some x =>
  rw [hm] at h
  exact ow (Φ:=fun x=>f x=true) hm h
abbrev dvw:List UInt8:=[68,97,116,97,86,105,101,119,35]
def VwN (n:List UInt8):Prop:=3<=n.length/\(R.eE (List.drop 3 n)).sat fun k=>∃ z,ElI k z
theorem GB {s:List UInt8}(hs:InN s):(R.cJ s dvw).sat fun b=>b=true->(R.bo s dvw).sat VwN:=by
 have h:=EE (P:=fun s=>optB (R.cJ s dvw).strip fun b=>!b || optB (R.bo s dvw).strip fun t=>decide (3<=t.length) && optB (R.eE (List.drop 3 t)).strip fun k=>decide (1<=k/\k<=8)) (by kernel_rfl) hs
 refine bH (u4 h) fun b hb e=>?_
 subst e
 refine bH (u4 hb) fun t ht=>?_
 rw [Bool.and_eq_true] at ht
 exact ⟨of_decide_eq_true ht.1,bH (u4 ht.2) fun k hk=>eli (of_decide_eq_true hk)⟩
theorem Aa {n:List UInt8}:(R.fT n).sat fun r=>∀ x∈r,x.length<=100:=by
 unfold R.fT
 refine aA fun _=>aI (fun _=>aD ?_) fun _=>aI (fun _=>aD ?_) fun _=>aI (fun _=>aD ?_) fun _=>aI (fun _=>aD ?_) fun _=>aI (fun _=>aD ?_) fun _=>aD ?_
 all_goals decide
section
variable {C:Cx}{m b:Int}{s:RunT}
theorem o4 (h:iP C m s) (hm:m<=2^39){c:j6}(hc:pG C.N s.2.2.2.2.1.2 c) (h1:c.2.2.1=[]) (h2:c.2.2.2.1=[]) (h3:cD c.2.2.2.2.2.2.2.1) (h4:c.2.2.2.2.1.length<=4096:=by exact Nat.zero_le _):(R.aT s c).sat (cy C m s.2.2.2.2.2.2.1 s):=bH (o9 h hm hc fun _ _=>Ef h1 h2 h3 h4) fun _ hr=>hr.1
theorem CB {v:eD}:(R.dq s v).sat fun r=>r=true->0<=v.2.2.2.2/\∃ c,s.2.2.2.2.1.2[v.2.2.2.2.toNat]?=some c/\(Eq (α:=Int) (c.1) (5)\/Eq (α:=Int) (c.1) (6)):=by
 unfold R.dq
 refine aA fun _=>dx (bI (fun _=>aB nV fun r hr=>aA fun _=>?_) fun _=>aD fun e=>by cases e)
 rcases hr with ⟨h0,_⟩|⟨i0,c,hc,e⟩
 ·subst h0
  exact hJ rfl (aD fun e=>by cases e)
 ·subst e
  exact bI (fun e5=>aD fun _=>⟨i0,c,hc,.inl e5⟩) fun _=>aD fun e6=>⟨i0,c,hc,.inr (eq_of_beq e6)⟩
theorem wL {N:List gJ}{B:Nat}(hh:jX N B s.2.2.2.2.1){i:Int}{c:j6}(h0:0<=i) (hc:s.2.2.2.2.1.2[i.toNat]?=some c) (hk:Eq (α:=Int) (c.1) (5)\/Eq (α:=Int) (c.1) (6)):(R.dD s i).sat fun r=>LE.le (α:=Int) (0) (r)/\LE.le (α:=Int) (r) (9007199254740991)/\qa s.2.2.2.2.1.2 i r:=by
 unfold R.dD
 have g:=(hh.cl _ c hc).1
 refine aA fun _=>kL (fun c' _ hc'=>hJ rfl (kg h0 hc (bI (fun e=>aD ?_) fun e=>aD ?_))) fun hn=>absurd ⟨h0,(List.getElem?_eq_some_iff.1 hc).1⟩ hn
 ·exact ⟨(g.sh e).1,(g.sh e).2,h0,c,hc,.inr ⟨e,Int.le_refl _⟩⟩
 ·have e5:Eq (α:=Int) (c.1) (5):=hk.resolve_right e
  have hl:=g.bf e5
  exact ⟨by show LE.le (α:=Int) (0) (((c.2.2.2.2.2.2.2.2.2.2.2.2).length:Int));omega,by show LE.le (α:=Int) (((c.2.2.2.2.2.2.2.2.2.2.2.2).length:Int)) (_);omega,h0,c,hc,.inl ⟨e5,Int.le_refl _⟩⟩
theorem A8 (h:iP C m s) (hm:m<=2^39){l:List eD}(hl:∀ v∈l,cD v):(R.dd s l).sat (cy C m s.2.2.2.2.2.2.1 s):=by
 unfold R.dd
 obtain ⟨B,g1,g2,g3⟩:=h.heap hm
 refine aA fun _=>aB (lF hl (by decide)) fun a _=>aA fun _=>aB CB fun r2 hr2=>dx (aI (fun e2=>?_) fun _=>ae (iM h hm))
 obtain ⟨i0,c,hc,hk⟩:=hr2 e2
 refine aB (wL g1 i0 hc hk) fun n ⟨n0,n1,nb⟩=>aA fun _=>aB (lF hl (by decide)) fun _ _=>aA fun _=>aB nP fun f ⟨f0,f1⟩=>aA fun _=>b9 (fun _=>ae (iM h hm)) fun _=>er (fun _=>ae (iM h hm)) fun hf=>?_
 have hf:LE.le (α:=Int) (f.1) (n):=hf
 have ew:IntKind.wrap .i64 (HSub.hSub (α:=Int) (β:=Int) (γ:=Int) (n) (f.1))=(HSub.hSub (α:=Int) (β:=Int) (γ:=Int) (n) (f.1)):=wrap64 (by omega)
 refine aB (R:=pX C m s.2.2.2.2.2.2.1 s fun k:Int=>0<=k/\LE.le (α:=Int) ((HAdd.hAdd (α:=Int) (β:=Int) (γ:=Int) (f.1) (k))) (n)) (aB (lF hl (by decide)) fun _ _=>aA fun _=>dx (bI (fun _=>aD ?_) fun _=>aB nP fun k ⟨k0,k1⟩=>aA fun _=>b9 (fun _=>oY (iM h hm)) fun _=>er (fun _=>oY (iM h hm)) fun hk=>aD ?_)) fun r hr=>oQ hr fun k ⟨k0,k1⟩=>ae (o4 h hm (.vw1 rfl ⟨f0,k0,?_,?_⟩) rfl rfl bt)
 ·show 0<=IntKind.wrap .i64 _/\LE.le (α:=Int) ((HAdd.hAdd (α:=Int) (β:=Int) (γ:=Int) (f.1) (IntKind.wrap .i64 _))) (n)
  rw [ew]
  omega
 ·have hk:LE.le (α:=Int) (k.1) (IntKind.wrap .i64 (HSub.hSub (α:=Int) (β:=Int) (γ:=Int) (n) (f.1))):=hk
  rw [ew] at hk
  show LE.le (α:=Int) (0) (k.1)/\LE.le (α:=Int) ((HAdd.hAdd (α:=Int) (β:=Int) (γ:=Int) (f.1) (k.1))) (n)
  omega
 ·show LE.le (α:=Int) ((HAdd.hAdd (α:=Int) (β:=Int) (γ:=Int) (f.1) (k))) (_)
  omega
 ·exact nb.le k1
theorem tdv {x z:Int}(hx:0<=x) (hx':x<=9007199254740991) (hz:1<=z/\z<=8):IntKind.wrap .i64 (Int.tdiv x z)=x / z/\0<=x / z/\x / z<=x/\x / z*z<=x:=by
 have h1:Int.tdiv x z=x / z:=Int.tdiv_eq_ediv_of_nonneg hx
 have h2:0<=x / z:=Int.ediv_nonneg hx (by omega)
 have h3:x / z<=x:=Int.ediv_le_self _ hx
 have h4:x / z*z<=x:=Int.ediv_mul_le _ (by omega)
 rw [h1,wrap64 (by omega)]
 exact ⟨rfl,h2,h3,h4⟩
theorem GW (h:iP C m s) (hm:m<=2^39){k z i:Int}(hz:ElI k z){c:j6}(i0:0<=i) (hc:s.2.2.2.2.1.2[i.toNat]?=some c) (hk:Eq (α:=Int) (c.1) (5)\/Eq (α:=Int) (c.1) (6)){x y:eD}:(R.fo s k i x y).sat (cy C m s.2.2.2.2.2.2.1 s):=by
 unfold R.fo
 obtain ⟨B,g1,g2,g3⟩:=h.heap hm
 have z1:=hz.pos
 refine aA fun _=>aY (mX hz) (aA fun _=>aB (wL g1 i0 hc hk) fun n ⟨n0,n1,nb⟩=>aA fun _=>aB nP fun f ⟨f0,f1⟩=>aA fun _=>b9 (fun _=>ae (iM h hm)) fun _=>sf (by omega) (b9 (fun _=>ae (iM h hm)) fun _=>?_))
 refine aB (R:=pX C m s.2.2.2.2.2.2.1 s fun k:Int=>0<=k/\k<=9007199254740991) (b9 (fun _=>aB nP fun k hk=>aA fun _=>b9 (fun _=>oY (iM h hm)) fun _=>aD hk) fun _=>aD ⟨by decide,by decide⟩) fun r hr=>oQ hr fun q ⟨q0,q1⟩=>?_
 refine aB (R:=pX C m s.2.2.2.2.2.2.1 s fun q:Int=>0<=q/\q<=9007199254740991/\LE.le (α:=Int) ((HAdd.hAdd (α:=Int) (β:=Int) (γ:=Int) (f.1) (q*z))) (n)) (aB (R:=fun b=>b=false->LE.le (α:=Int) (f.1) (n)/\q<=(HSub.hSub (α:=Int) (β:=Int) (γ:=Int) (n) (f.1)) / z) ?_ fun b hb=>aI (fun _=>oY (iM h hm)) fun e=>?_) fun r hr=>oQ hr fun q ⟨q0,q1,q2⟩=>ae (o4 h hm (.ty1 rfl ⟨hz,f0,q0,q1,?_,?_⟩) rfl rfl bt)
 ·have hlast:LE.le (α:=Int) (f.1) (n)->(ah (!(z == 0)) (Res.ok (ilt (IntKind.wrap .i64 (Int.tdiv (IntKind.wrap .i64 (HSub.hSub (α:=Int) (β:=Int) (γ:=Int) (n) (f.1))) z)) q))).sat fun b=>b=false->LE.le (α:=Int) (f.1) (n)/\q<=(HSub.hSub (α:=Int) (β:=Int) (γ:=Int) (n) (f.1)) / z:=fun hf=>sf (by omega) (aD fun e=>⟨hf,by
   have e:=Int.not_lt.1 (of_decide_eq_false e)
   rw [wrap64 (n:=(HSub.hSub (α:=Int) (β:=Int) (γ:=Int) (n) (f.1))) (by omega),(tdv (x:=(HSub.hSub (α:=Int) (β:=Int) (γ:=Int) (n) (f.1))) (z:=z) (by omega) (by omega) ⟨z1.1,z1.2.1⟩).1] at e
   exact e⟩)
  exact bI (fun _=>sf (by omega) (b9 (fun _=>aD fun e=>by cases e) fun _=>er (fun _=>aD fun e=>by cases e) fun hf=>hlast hf)) fun _=>er (fun _=>aD fun e=>by cases e) fun hf=>hlast hf
 ·obtain ⟨hf,hq⟩:=hb e
  obtain ⟨t1,t2,t3,t4⟩:=tdv (x:=(HSub.hSub (α:=Int) (β:=Int) (γ:=Int) (n) (f.1))) (z:=z) (by omega) (by omega) ⟨z1.1,z1.2.1⟩
  refine bI (fun _=>sf (by omega) (aD ?_)) fun _=>aD ?_
  ·show 0<=IntKind.wrap .i64 (Int.tdiv (IntKind.wrap .i64 (HSub.hSub (α:=Int) (β:=Int) (γ:=Int) (n) (f.1))) z)/\IntKind.wrap .i64 (Int.tdiv (IntKind.wrap .i64 (HSub.hSub (α:=Int) (β:=Int) (γ:=Int) (n) (f.1))) z)<=9007199254740991/\LE.le (α:=Int) ((HAdd.hAdd (α:=Int) (β:=Int) (γ:=Int) (f.1) (IntKind.wrap .i64 (Int.tdiv (IntKind.wrap .i64 (HSub.hSub (α:=Int) (β:=Int) (γ:=Int) (n) (f.1))) z)*z))) (n)
   rw [wrap64 (n:=(HSub.hSub (α:=Int) (β:=Int) (γ:=Int) (n) (f.1))) (by omega),t1]
   omega
  ·have:q*z<=(HSub.hSub (α:=Int) (β:=Int) (γ:=Int) (n) (f.1)) / z*z:=Int.mul_le_mul_of_nonneg_right hq (by omega)
   show 0<=q/\q<=9007199254740991/\LE.le (α:=Int) ((HAdd.hAdd (α:=Int) (β:=Int) (γ:=Int) (f.1) (q*z))) (n)
   omega
 ·show LE.le (α:=Int) ((HAdd.hAdd (α:=Int) (β:=Int) (γ:=Int) (f.1) (q*z))) (_)
  omega
 ·exact nb.le q2
theorem DZ (h:iP C m s) (hm:m<=2^39){k z:Int}(hz:ElI k z){l:List eD}(hl:∀ v∈l,cD v):(R.eW s k l).sat (cy C m s.2.2.2.2.2.2.1 s):=by
 unfold R.eW
 have z1:=hz.pos
 refine aA fun _=>aB (lF hl (by decide)) fun a _=>aA fun _=>aB (lF hl (by decide)) fun _ _=>aA fun _=>aB (lF hl (by decide)) fun _ _=>aA fun _=>aY (mX hz) (aA fun _=>aB CB fun r2 hr2=>aI (fun e2=>?_) fun _=>bI (fun _=>ae (gO h)) fun _=>aB nP fun n ⟨n0,n1⟩=>aA fun _=>b9 (fun _=>ae (iM h hm)) fun _=>sf (by omega) (er (fun _=>ae (iM h hm)) fun hn=>?_))
 ·obtain ⟨i0,c,hc,hk⟩:=hr2 e2
  exact ae (GW h hm hz i0 hc hk)
 ·obtain ⟨t1,t2,t3,t4⟩:=tdv (x:=4096) (z:=z) (by omega) (by omega) ⟨z1.1,z1.2.1⟩
  have hn:LE.le (α:=Int) (n.1) (IntKind.wrap .i64 (Int.tdiv 4096 z)):=hn
  rw [t1] at hn
  have h1:HMul.hMul (α:=Int) (β:=Int) (γ:=Int) n.1 z<=4096 / z*z:=Int.mul_le_mul_of_nonneg_right hn (by omega)
  have h0:0<=HMul.hMul (α:=Int) (β:=Int) (γ:=Int) n.1 z:=Int.mul_nonneg n0 (by omega)
  have ew:IntKind.wrap .i64 (HMul.hMul (α:=Int) (β:=Int) (γ:=Int) n.1 z)=HMul.hMul (α:=Int) (β:=Int) (γ:=Int) n.1 z:=wrap64 (by omega)
  obtain ⟨w,hw⟩:∃ w,w=HMul.hMul (α:=Int) (β:=Int) (γ:=Int) n.1 z:=⟨_,rfl⟩
  rw [ew,<- hw]
  rw [<- hw] at h1 h0
  refine gG (iL h0 (gG (iL (Int.le_refl _) (n_d (by omega) (aB (o9 h hm (.bf1 rfl ?_) fun _ _=>Ef rfl rfl bt) fun r ⟨r1,r2⟩=>aA fun _=>b9 (fun _=>aD r1) fun e=>?_)))))
  ·show (List.replicate w.toNat (0:Int)).length<=4096
   rw [List.length_replicate]
   omega
  ·obtain ⟨_,_,j0,hj⟩:=r2 (by rw [e];decide)
   have a1:=r1.2.a0 e
   refine ae (bH (o4 a1.run hm (.ty1 rfl ⟨hz,Int.le_refl 0,n0,n1,?_,j0,_,hj,.inl ⟨rfl,?_⟩⟩) rfl rfl bt) fun _ hr=>hr.cat a1)
   ·show LE.le (α:=Int) ((HAdd.hAdd (α:=Int) (β:=Int) (γ:=Int) (0) (HMul.hMul (α:=Int) (β:=Int) (γ:=Int) n.1 z))) (_)
    rw [<- hw]
    omega
   ·show LE.le (α:=Int) ((HAdd.hAdd (α:=Int) (β:=Int) (γ:=Int) (0) (HMul.hMul (α:=Int) (β:=Int) (γ:=Int) n.1 z))) (((List.replicate w.toNat (0:Int)).length:Int))
    rw [<- hw,List.length_replicate]
    omega
end
end Go.Mach

set_option maxRecDepth 100000
namespace Go.Mach
open Res
theorem l0:0<=(0:Int)/\(0:Int)<=9007199254740991:=⟨by decide,by decide⟩
theorem z6:(0:Int)=0/\false=false/\false=false/\(0:Int)=0/\(0:Int)=0/\(0:Int)=0:=⟨rfl,rfl,rfl,rfl,rfl,rfl⟩
theorem nw0:zl (0,0):=.inl ⟨rfl,by decide,by decide⟩
theorem qg {q:AB}(kk:Int) (hk:Eq (α:=Int) (q.1) (kk)) (k:1<=kk/\kk<=14) (k':kk < 2\/6 < kk) (ln:LE.le (α:=Int) (0) (q.2.2.2.2.2.2.2.2.2.2.2)/\LE.le (α:=Int) (q.2.2.2.2.2.2.2.2.2.2.2) (9007199254740991)) (tx:(q.2.2.2.2.2.2.2.2.2.2.1).length<=4096) (nm:zl q.2.2.2.2.2.2.2.2.2.1) (z:q.2.2.2.1=0/\q.2.2.2.2.2.1=false/\q.2.2.2.2.2.2.1=false/\q.2.2.2.2.2.2.2.1=0/\q.2.2.2.2.2.2.2.2.1=0/\q.2.2.2.2.1=0):uT q:=⟨by rw [hk];exact k,ln,tx,nm,fun _=>z,fun h=>by
 have h1:LE.le (α:=Int) (2) (q.1):=h.1
 have h2:LE.le (α:=Int) (q.1) (6):=h.2
 omega⟩
theorem Bp {q:AB}(kk:Int) (hk:Eq (α:=Int) (q.1) (kk)) (k:2<=kk/\kk<=6) (ln:LE.le (α:=Int) (0) (q.2.2.2.2.2.2.2.2.2.2.2)/\LE.le (α:=Int) (q.2.2.2.2.2.2.2.2.2.2.2) (9007199254740991)) (tx:(q.2.2.2.2.2.2.2.2.2.2.1).length<=4096) (nm:zl q.2.2.2.2.2.2.2.2.2.1) (z:(q.2.2.2.1=1\/q.2.2.2.1=2\/q.2.2.2.1=4\/q.2.2.2.1=8)/\(q.2.2.2.1=8\/(q.2.2.2.2.2.2.2.1 < 2^(8*q.2.2.2.1).toNat/\q.2.2.2.2.2.2.2.2.1 < 2^(8*q.2.2.2.1).toNat))/\0<=q.2.2.1/\(q.2.2.2.2.2.1=true->q.2.2.2.2.2.2.1=true)) (o:(kk=4->LT.lt (α:=Int) (0) (q.2.2.2.2.1)/\LE.le (α:=Int) (q.2.2.2.2.1) (6))/\(kk≠4->Eq (α:=Int) (q.2.2.2.2.1) (0))):uT q:=by
 refine ⟨?_,ln,tx,nm,fun h=>?_,fun _=>⟨z.1,z.2.1,z.2.2.1,z.2.2.2,fun e=>o.1 (hk.symm.trans e),fun e=>o.2 fun g=>e (hk.trans g)⟩⟩
 ·rw [hk]
  exact (⟨by omega,by omega⟩:(1:Int)<=kk/\kk<=14)
 ·have h:LT.lt (α:=Int) (q.1) (2)\/LT.lt (α:=Int) (6) (q.1):=h
  omega
theorem pw (z:Int):(0:Int) < 2^(8*z).toNat:=Int.pow_pos (by decide)
theorem CT {v:eD}:(R.bx v).sat fun r=>cD r.1:=by
 unfold R.bx
 exact aA fun _=>q_p fun r _=>aA fun _=>bI (fun _=>q_b fun _=>aA fun _=>aB qj fun _ h=>aA fun _=>aD (vk h)) fun _=>q_b fun _=>aA fun _=>b9 (fun _=>aD bt) fun _=>aB nS fun _ h=>aA fun _=>aD (vk h)
theorem GM {o:List UInt8}{v:eD}:(R.jO o v).sat fun r=>cD r.1:=by
 unfold R.jO
 exact aA fun _=>aI (fun _=>q_b fun _=>aB lB fun _ h=>aA fun _=>aD (vk h)) fun _=>aI (fun _=>aD bt) fun _=>aI (fun _=>q_b fun _=>aA fun _=>b9 (fun _=>aD bt) fun _=>aB nS fun _ h=>aA fun _=>aD (vk h)) fun _=>aB (dw0:Safe _).ok fun _ _=>aI (fun _=>q_b fun _=>aA fun _=>b9 (fun _=>aD bt) fun _=>aB (dw0:Safe _).ok fun _ _=>aI (fun _=>q_b fun _=>aA fun _=>aB qj fun _ h=>aA fun _=>aD (vk h)) fun _=>aI (fun _=>q_b fun _=>aA fun _=>aB nS fun _ h=>aA fun _=>aD (vk h)) fun _=>bI (fun _=>aD bt) fun _=>q_b fun _=>aA fun _=>aB nS fun _ h=>aA fun _=>aD (vk h)) fun _=>aD bt
theorem tY {a:ax.den}{b:Bool}:(R.ed a b).sat fun r=>cD r.1:=by
 unfold R.ed
 exact aA fun _=>dx (aI (fun _=>aB qj fun _ h=>aA fun _=>aD (vk h)) fun _=>aD bt)
theorem rn {a:aH.den}{b:Bool}:(R.ca a b).sat fun r=>cD r.1:=by
 unfold R.ca
 exact aA fun _=>dx (aI (fun _=>aB nS fun _ h=>aA fun _=>aD (vk h)) fun _=>aD bt)
theorem step_t {v:eD}{n:Int}:(R.kF v n).sat fun r=>cD r.1:=by
 unfold R.kF
 exact aA fun _=>q_b fun _=>aA fun _=>b9 (fun _=>aD bt) fun _=>aB (dw0:Safe _).ok fun _ _=>aI (fun _=>aD bt) fun _=>bI (fun _=>q_b fun _=>aA fun _=>q_b fun _=>aA fun _=>ae tY) fun _=>q_b fun _=>aA fun _=>ae rn
theorem join_t {a b:eD}:(R.kG a b).sat fun r=>cD r.1:=by
 unfold R.kG
 exact aA fun _=>q_p fun r hr=>aA fun _=>b9 (fun _=>aD bt) fun _=>q_p fun r' hr'=>aA fun _=>b9 (fun _=>aD bt) fun _=>er (fun _=>aD bt) fun _=>n_d (by omega) (aB mu fun _ h=>aA fun _=>aD h.1)
theorem bigs_t {o:List UInt8}{a b:ax.den}:(R.kH o a b).sat fun r=>cD r.1:=by
 unfold R.kH
 exact aA fun _=>aI (fun _=>q_b fun _=>aA fun _=>ae tY) fun _=>aI (fun _=>q_b fun _=>aA fun _=>ae tY) fun _=>aI (fun _=>q_b fun _=>aA fun _=>ae tY) fun _=>q_b fun _=>aA fun _=>aB (R:=fun _=>True) (aI (fun _=>q_b fun _=>aA fun _=>aD trivial) fun _=>aD trivial) fun _ _=>b9 (fun _=>aD bt) fun _=>aB qj fun _ h=>aA fun _=>aD (vk h)
theorem Ew {o:List UInt8}{a b:eD}:(R.jZ o a b).sat fun r=>cD r.1:=by
 unfold R.jZ
 exact aA fun _=>q_b fun _=>aA fun _=>b9 (fun _=>aD bt) fun _=>bI (fun _=>ae bigs_t) fun _=>aI (fun _=>q_b fun _=>aA fun _=>ae rn) fun _=>aI (fun _=>q_b fun _=>aA fun _=>ae rn) fun _=>aI (fun _=>q_b fun _=>aA fun _=>ae rn) fun _=>aI (fun _=>q_b fun _=>aA fun _=>ae rn) fun _=>q_b fun _=>aA fun _=>ae rn
theorem bits_t {o:List UInt8}{a b:eD}:(R.kO o a b).sat fun r=>cD r.1:=by
 unfold R.kO
 exact aA fun _=>q_b fun _=>aA fun _=>b9 (fun _=>aD bt) fun _=>aB (dw0:Safe _).ok fun _ _=>aI (fun _=>aD bt) fun _=>bI (fun _=>aD bt) fun _=>aB (dw0:Safe _).ok fun _ _=>q_b fun _=>aA fun _=>aB nS fun _ h=>aA fun _=>aD (vk h)
theorem yL {a b:eD}{t n:Bool}:(R.gu a b t n).sat fun r=>cD r.1:=by
 unfold R.gu
 exact aA fun _=>aB (dw0:Safe _).ok fun _ _=>aI (fun _=>aD bt) fun _=>aB (dw0:Safe _).ok fun _ _=>aI (fun _=>aB (dw0:Safe _).ok fun _ _=>q_b fun _=>aB lB fun _ h=>aA fun _=>aD (vk h)) fun _=>aB (dw0:Safe _).ok fun _ _=>aI (fun _=>aD bt) fun _=>q_b fun _=>aA fun _=>b9 (fun _=>aD bt) fun _=>q_b fun _=>aA fun _=>b9 (fun _=>aD bt) fun _=>aB (dw0:Safe _).ok fun _ _=>q_b fun _=>aA fun _=>aI (fun _=>aB lB fun _ h=>aA fun _=>aD (vk h)) fun _=>aB lB fun _ h=>aA fun _=>aD (vk h)
theorem zb {o:List UInt8}{a b:eD}:(R.gM o a b).sat fun r=>cD r.1:=by
 unfold R.gM
 exact aA fun _=>q_p fun _ _=>aA fun _=>q_p fun _ _=>aA fun _=>aI (fun _=>aB (dw0:Safe _).ok fun _ _=>aI (fun _=>ae join_t) fun _=>ae Ew) fun _=>aB (dw0:Safe _).ok fun _ _=>aI (fun _=>ae Ew) fun _=>aB (dw0:Safe _).ok fun _ _=>aI (fun _=>ae bits_t) fun _=>aI (fun _=>ae yL) fun _=>aI (fun _=>ae yL) fun _=>aI (fun _=>ae yL) fun _=>aI (fun _=>ae yL) fun _=>aI (fun _=>q_b fun _=>aB lB fun _ h=>aA fun _=>aD (vk h)) fun _=>aI (fun _=>q_b fun _=>aB lB fun _ h=>aA fun _=>aD (vk h)) fun _=>aB (dw0:Safe _).ok fun _ _=>aI (fun _=>q_b fun _=>aA fun _=>b9 (fun _=>aD bt) fun _=>aB lB fun _ h=>aA fun _=>aD (vk h)) fun _=>aD bt
instance Gt {v}:Safe (R.jC v):=by unfold R.jC;exact dw0
instance DQ {z}:Safe (R.cZ z):=by unfold R.cZ;exact dw0
instance Dh {n}:Safe (R.gQ n):=by unfold R.gQ;exact dw0
theorem Ab {n:List UInt8}:(R.gm n).sat fun r=>0 < r/\r<=6:=by
 unfold R.gm
 refine aA fun _=>aI (fun _=>aD ?_) fun _=>aI (fun _=>aD ?_) fun _=>aI (fun _=>aD ?_) fun _=>aI (fun _=>aD ?_) fun _=>aI (fun _=>aD ?_) fun _=>aD ?_
 all_goals decide
section
variable {N:List gJ}{B:Nat}{h:qi}
theorem GF (hh:jX N B h) (hB:B<=2^39){i:Int}{n:List Int}{v:eD}{c:j6}(h0:0<=i) (hc:h.2[i.toNat]?=some c) (hlt:c.2.2.1.length < B) (hv:cD v):(R.bj h i n v).sat fun r=>jX N B r.2/\nW h.2 r.2.2/\∃ d,r.2.2[i.toNat]?=some d/\d.2.2.1.length<=c.2.2.1.length+1:=by
 unfold R.bj
 have hi:=(List.getElem?_eq_some_iff.1 hc).1
 refine aA fun _=>kL (fun c' _ _=>hJ rfl (kg h0 hc ?_)) fun hn=>absurd ⟨h0,hi⟩ hn
 have hl:=(hh.cl _ c hc).2
 have hp:=hl.pn
 have hs:h.2.set i.toNat c=h.2:=oJ hc
 rw [hs]
 refine aB (v8 (h:=(h.1,h.2)) h0 hc (by omega)) fun r ⟨r0,r1⟩=>aA fun _=>lb (fun hr=>bG (by simp) (aY oT (aA fun _=>bG (by simp [ile,ilt];omega) (bn (by omega) (by omega) fun p _ _=>aD ⟨?_,?_,_,List.getElem?_set_self hi,?_⟩)))) fun hr=>bG (by simp) (pV (aA fun _=>aY oT (aA fun _=>bG (decide_eq_true (by simp;omega)) (bG (by simp) (aD ⟨?_,?_,_,List.getElem?_set_self hi,?_⟩)))))
 ·exact hh.set hc ⟨rfl,rfl,rfl,rfl,rfl,rfl,rfl⟩ (hl.props (Nat.le_refl B) (by show (c.2.2.1.set _ _).length<=_;rw [List.length_set];omega) (rK hl.pv hv) rfl)
 ·exact .set hc ⟨rfl,rfl,rfl,rfl,rfl,rfl,rfl⟩
 ·show (c.2.2.1.set _ _).length<=_
  rw [List.length_set]
  omega
 ·exact hh.set hc ⟨rfl,rfl,rfl,rfl,rfl,rfl,rfl⟩ (hl.props (Nat.le_refl B) (by show (c.2.2.1++[_]).length<=_;simp;omega) (rX hl.pv hv) rfl)
 ·exact .set hc ⟨rfl,rfl,rfl,rfl,rfl,rfl,rfl⟩
 ·show (c.2.2.1++[_]).length<=_
  simp
end
section
variable {C:Cx}{m b:Int}{s:RunT}{l:List eD}{x y v t:eD}
theorem GO {B:Nat}(h:iP C m s) (h1:jX C.N B s.2.2.2.2.1) (h2:B<=2^39) (h3:(B:Int)+134217728*((HSub.hSub (α:=Int) (β:=Int) (γ:=Int) (C.F) (s.2.2.2.2.2.2.1)))<=m){c:j6}(hc:pG C.N s.2.2.2.2.1.2 c) (hv:sL B c):(R.aT s c).sat fun r=>cy C m s.2.2.2.2.2.2.1 s r/\(r.1.2=0->jX C.N B r.2.2.2.2.2.1/\Eq (α:=Int) (r.2.2.2.2.2.2.2.1) (s.2.2.2.2.2.2.1)/\LE.le (α:=Int) (0) (r.1.1.2.2.2.2)/\r.2.2.2.2.2.1.2[r.1.1.2.2.2.2.toNat]?=some c):=by
 unfold R.aT
 refine aA fun _=>aB (Br h1 h2 hc hv) fun r ⟨r1,r2,r3⟩=>aA fun _=>dx (aI (fun hr=>aD ⟨⟨.of (show (6:Int)≠5 by decide),.inr ⟨show (0:Int)≠5 by decide,h.put r1 h3,r2,rfl,Int.le_refl _⟩⟩,fun _=>⟨r1,rfl,r3 hr⟩⟩) fun _=>aY qJ (aA fun _=>aD ⟨⟨bt,.inl ⟨rfl,h.halt (by decide)⟩⟩,fun e=>absurd (show (5:Int)=0 from e) (by decide)⟩))
theorem BF (hc:jx C) (h:iP C m s) (hm:m<=2^39) (hl:∀ v∈l,cD v):(R.dc s l).sat (cy C m s.2.2.2.2.2.2.1 s):=by
 unfold R.dc
 refine aA fun _=>aB (lF hl (by decide)) fun _ _=>aA fun _=>aB nP fun n ⟨n0,n1⟩=>aA fun _=>b9 (fun _=>ae (iM h hm)) fun _=>aB (lF hl (by decide)) fun _ _=>aA fun _=>b9 (fun _=>ae (gO h)) fun _=>aB (rZ h hc.A (qg 1 rfl (by decide) (by decide) ⟨n0,n1⟩ (Nat.zero_le _) nw0 z6)) fun r ⟨g,_⟩=>aA fun _=>b9 (fun _=>aD ⟨bt,g⟩) fun e=>?_
 have a:=g.a0 e
 exact b9 (fun _=>ae (bH (iM a.run hm) fun _ hr=>hr.cat a)) fun _=>ae (bH (o4 a.run hm (.sh1 rfl ⟨n0,n1⟩) rfl rfl bt) fun _ hr=>hr.cat a)
theorem CW (h:iP C m s) (hm:m<=2^39):(R.eR s x y).sat (cy C m s.2.2.2.2.2.2.1 s):=by
 unfold R.eR
 exact aA fun _=>aB (R:=pX C m s.2.2.2.2.2.2.1 s fun _:Int=>True) (aB (R:=fun _=>True) (bI (fun _=>aB nV fun _ _=>aA fun _=>aD trivial) fun _=>aD trivial) fun _ _=>aI (fun _=>oY (gO h)) fun _=>bI (fun _=>aD trivial) fun _=>oi (fun _=>oY (iM h hm)) fun _=>aD trivial) fun r hr=>oQ hr fun _ _=>b9 (fun _=>ae (gO h)) fun _=>ae (o4 h hm (.mk' 1 rfl (by decide)) rfl rfl bt)
theorem Fw (h:iP C m s) (hm:m+20000<=2^39) (hn:l.length<=20000) (hl:∀ v∈l,cD v):(R.gC s t l).sat (cy C (m+20000) s.2.2.2.2.2.2.1 s):=by
 unfold R.gC
 refine aA fun _=>aB (R:=fun _=>True) (oi (fun _=>aD trivial) fun _=>aB nV fun _ _=>aA fun _=>aD trivial) fun _ _=>aI (fun _=>ae (gO h |> fun g=>bH g fun _ hr=>cy.up (m:=m) hr (by omega))) fun _=>aB (iA (Q:=fun H:qi=>Aft C (m+20000) s.2.2.2.2.2.2.1 s (s.1,(s.2.1,(s.2.2.1,(s.2.2.2.1,(H,s.2.2.2.2.2)))))) (fun y=>y.1) l.length (by omega) (fun w=>Aft C (m+w.1) s.2.2.2.2.2.2.1 s (s.1,(s.2.1,(s.2.2.1,(s.2.2.2.1,(w.2,s.2.2.2.2.2)))))) (by simp) (by simp) (by show Aft C (m+0) _ _ _;rw [Int.add_zero];exact Aft.refl h) fun w w0 w1 wI=>?_) fun H hH=>aB o8 fun _ _=>aA fun _=>aB lr fun _ hv=>aA fun _=>aD ⟨hv,.ok hH⟩
 obtain ⟨j,H⟩:=w
 have w0:0<=j:=w0
 have w1:j<=(l.length:Int):=w1
 have wI:Aft C (m+j) s.2.2.2.2.2.2.1 s (s.1,(s.2.1,(s.2.2.1,(s.2.2.2.1,(H,s.2.2.2.2.2))))):=wI
 refine er (fun hj=>?_) fun _=>aD (wI.up (by omega))
 have hj:j < (l.length:Int):=hj
 refine bR w0 (by show _ < l.length;omega) fun v hv _=>aB o8 fun _ _=>aA fun _=>q_b fun _=>aA fun _=>aB (tI wI.run (by omega) (hl v (List.mem_of_getElem? hv))) fun r hr=>aA fun _=>aD ⟨rfl,hj,?_⟩
 show Aft C (m+IntKind.wrap .i64 (j+1)) _ _ _
 rw [wrap64 (n:=j+1) (by omega),<- Int.add_assoc]
 exact wI.cat hr
theorem Ep (h:iP C m s) (hm:m<=2^39):(R.fq s x).sat (cy C m s.2.2.2.2.2.2.1 s):=by
 unfold R.fq
 obtain ⟨B,g1,g2,g3⟩:=h.heap hm
 refine aA fun _=>q_b fun _=>aI (fun _=>ae (iM h hm)) fun _=>aB (R:=fun r:Int=>r≠0->0<=x.2.2.2.2/\∃ c,s.2.2.2.2.1.2[x.2.2.2.2.toNat]?=some c) (bI (fun _=>aB nV fun r hr=>aA fun _=>aD fun hne=>?_) fun _=>aD fun e=>absurd rfl e) fun kd hkd=>aB (R:=pX C m s.2.2.2.2.2.2.1 s fun l:List (List Int)=>l.length<=B) (bI (fun e1=>?_) fun _=>bI (fun e2=>?_) fun _=>oY (gO h)) fun r hr=>oQ hr fun l hl=>?_
 ·rcases hr with ⟨h0,_⟩|⟨i0,c,hc,_⟩
  ·exact absurd h0 hne
  ·exact ⟨i0,c,hc⟩
 ·obtain ⟨i0,c,hc⟩:=hkd (je e1 (by decide))
  have hp:=(g1.cl _ c hc).2.pn
  exact aB (Ej i0 hc (by omega)) fun l hl=>aA fun _=>aD (by show l.length<=B;omega)
 ·refine aB o8 fun q hq=>aA fun _=>?_
  have hqB:LE.le (α:=Int) (0) (q)/\LE.le (α:=Int) (q) ((B:Int)):=by
   rcases hq with hq|⟨c,i0,hc,hq⟩
   ·rw [hq]
    omega
   ·have hp:=(g1.cl _ c hc).2.pn
    rw [hq]
    omega
  obtain ⟨q',hq'⟩:∃ q':Int,q'=q:=⟨_,rfl⟩
  have hqB':0<=q'/\q'<=(B:Int):=hq'▸hqB
  refine aB (iA (Q:=fun l:List (List Int)=>l.length<=B) (fun y=>y.2) q'.toNat (by omega) (fun y=>y.1.length=y.2.toNat) (by simp) (by show (0:Int)<=(q'.toNat:Int);omega) (by simp) fun y y0 y1 yI=>?_) fun l hl=>aD hl
  obtain ⟨l,j⟩:=y
  have y0:0<=j:=y0
  have y1:j<=(q'.toNat:Int):=y1
  have yI:l.length=j.toNat:=yI
  refine er (fun hj=>?_) fun _=>aD (by show l.length<=B;omega)
  have hj:j < q':=by rw [hq'];exact hj
  refine q_b fun u=>aA fun _=>bG (decide_eq_true ?_) (aD ⟨rfl,?_,?_⟩)
  ·show (l.length+1)*24<=2^47
   omega
  ·show j < (q'.toNat:Int)
   omega
  ·show (l++[u]).length=(IntKind.wrap .i64 (j+1)).toNat
   rw [wrap64 (by omega),List.length_append]
   simp
   omega
 ·refine aB (GO h g1 g2 g3 (.mk' 2 rfl (by decide)) (Ef rfl rfl bt)) fun r2 ⟨h2,h3⟩=>aA fun _=>b9 (fun _=>aD h2) fun e2=>?_
  obtain ⟨k1,k2,k3,k4⟩:=h3 e2
  have a2:=h2.2.a0 e2
  refine aB (iA (Q:=fun H:qi=>jX C.N B H/\nW r2.2.2.2.2.2.1.2 H.2) (fun y=>y.1) l.length (by have hl:l.length<=B:=hl;omega) (fun y=>jX C.N B y.2/\nW r2.2.2.2.2.2.1.2 y.2.2/\∃ c,y.2.2[r2.1.1.2.2.2.2.toNat]?=some c/\c.2.2.1.length<=y.1.toNat) (by simp) (by simp) ⟨k1,.refl _,_,k4,Nat.zero_le _⟩ fun y y0 y1 yI=>?_) fun H ⟨hH1,hH2⟩=>aD ⟨h2.1,.ok (a2.cat ⟨a2.run.put hH1 (by rw [k2];exact g3),hH2,rfl,Int.le_refl _⟩)⟩
  obtain ⟨j,H⟩:=y
  have y0:0<=j:=y0
  have y1:j<=(l.length:Int):=y1
  obtain ⟨i1,i2,c,i3,i4⟩:=yI
  have i1:jX C.N B H:=i1
  have i2:nW r2.2.2.2.2.2.1.2 H.2:=i2
  have i3:H.2[r2.1.1.2.2.2.2.toNat]?=some c:=i3
  have i4:c.2.2.1.length<=j.toNat:=i4
  refine er (fun hj=>?_) fun _=>aD ⟨i1,i2⟩
  have hj:j < (l.length:Int):=hj
  have hl:l.length<=B:=hl
  refine gG (iL y0 (nr hj (bn (by omega) (by show ((0:Int)+(Int.toNat j:Int)).toNat < l.length;omega) fun u _ _=>q_b fun _=>aA fun _=>aB mu fun w hw=>aA fun _=>aB (GF i1 g2 k3 i3 (by omega) hw.1) fun r3 ⟨q1,q2,d,q3,q4⟩=>aA fun _=>aD ⟨rfl,hj,q1,i2.trans q2,d,q3,?_⟩)))
  show d.2.2.1.length<=(IntKind.wrap .i64 (j+1)).toNat
  rw [wrap64 (by omega)]
  omega
theorem zp (h:iP C m s) (hm:m<=2^39){n:Int}:(R.dE s x n).sat (cy C m s.2.2.2.2.2.2.1 s):=by
 unfold R.dE
 exact aA fun _=>bI (fun _=>aB lr fun _ hv=>aA fun _=>aD (mY h hv)) fun _=>bI (fun _=>q_p fun _ _=>aA fun _=>q_b fun _=>aA fun _=>dx (aI (fun _=>aB nS fun _ hv=>aA fun _=>aD (mY h (vk hv))) fun _=>ae (gO h))) fun _=>q_b fun _=>aA fun _=>aB nS fun _ hv=>aA fun _=>ae (po h hm (vk hv))
theorem DJ (h:iP C m s) (hm:m<=2^39):(R.eS s x).sat (cy C m s.2.2.2.2.2.2.1 s):=by
 unfold R.eS
 exact aA fun _=>bI (fun _=>q_b fun _=>aA fun _=>aB (dw0:Safe _).ok fun _ _=>aI (fun _=>q_b fun _=>aA fun _=>aB qj fun _ hv=>aA fun _=>aD (mY h (vk hv))) fun _=>ae (iM h hm)) fun _=>q_b fun _=>aA fun _=>aB qj fun _ hv=>aA fun _=>ae (po h hm (vk hv))
theorem BK (h:iP C m s) (hm:m<=2^39){n:List UInt8}(hn:n.length<=4096):(R.de s n x).sat (cy C m s.2.2.2.2.2.2.1 s):=by
 unfold R.de
 exact aA fun _=>aB mu fun w hw=>aA fun _=>aB (R:=pX C m s.2.2.2.2.2.2.1 s cD) (b9 (fun _=>q_p fun _ _=>aA fun _=>b9 (fun _=>oY (iM h hm)) fun _=>aB mu fun w hw=>aA fun _=>aD hw.1) fun _=>aD hw.1) fun r hr=>oQ hr fun w hw=>ae (o4 h hm (.mk' 10 rfl (by decide)) rfl rfl hw hn)
theorem GP:(R.fy s v).sat fun r=>r.length<=100:=by
 unfold R.fy
 exact aA fun _=>bI (fun _=>aD (by decide)) fun _=>bI (fun _=>aD (by decide)) fun _=>bI (fun _=>aD (by decide)) fun _=>bI (fun _=>aD (by decide)) fun _=>bI (fun _=>aD (by decide)) fun _=>bI (fun _=>aB (R:=fun _=>True) (aB nV fun _ _=>aA fun _=>bI (fun _=>aD trivial) fun _=>aB tN fun _ _=>aA fun _=>aB uN fun _ _=>aD trivial) fun _ _=>aI (fun _=>aD (by decide)) fun _=>aD (by decide)) fun _=>aD (by decide)
end
end Go.Mach

set_option maxRecDepth 100000
namespace Go.Mach
open Res
theorem uF {x:Int}(h:0<=x/\x < 18446744073709551616):IntKind.wrap .u64 x=x:=by
 simp [IntKind.wrap,IntKind.signed,IntKind.bits]
 omega
theorem or_lt {a b:Int}{k:Nat}(hk:k<=64) (ha:0<=a/\a < 2^k) (hb:0<=b/\b < 2^k):0<=fm .or .u64 a b/\fm .or .u64 a b < 2^k:=by
 obtain ⟨x,rfl⟩:=Int.eq_ofNat_of_zero_le ha.1
 obtain ⟨y,rfl⟩:=Int.eq_ofNat_of_zero_le hb.1
 have hx:x < 2^k:=by exact_mod_cast ha.2
 have hy:y < 2^k:=by exact_mod_cast hb.2
 have h64:(2:Nat)^k<=2^64:=Nat.pow_le_pow_right (by decide) hk
 have h1:(BitVec.ofInt 64 (x:Int) ||| BitVec.ofInt 64 (y:Int)).toNat=x ||| y:=by
  rw [BitVec.toNat_or,BitVec.toNat_ofInt,BitVec.toNat_ofInt]
  rw [show ((x:Int) % ((2^64:Nat):Int)).toNat=x by omega,show ((y:Int) % ((2^64:Nat):Int)).toNat=y by omega]
 have h2:x ||| y < 2^k:=Nat.or_lt_two_pow hx hy
 show 0<=IntKind.wrap .u64 (((BitVec.ofInt 64 (x:Int) ||| BitVec.ofInt 64 (y:Int)).toNat:Nat):Int)/\IntKind.wrap .u64 (((BitVec.ofInt 64 (x:Int) ||| BitVec.ofInt 64 (y:Int)).toNat:Nat):Int) < 2^k
 rw [h1,uF ⟨by omega,by omega⟩]
 exact ⟨by omega,by exact_mod_cast h2⟩
theorem B4 {k:Nat}(h:k<=64):(2:Int)^k<=18446744073709551616:=by
 have h1:((2^k:Nat):Int)<=((18446744073709551616:Nat):Int):=Int.ofNat_le.2 (Nat.le_trans (Nat.pow_le_pow_right (by decide) h) (by decide))
 rw [Int.natCast_pow] at h1
 exact h1
theorem Fv {e:Int}{q:Nat}(he:0<=e/\e < 256) (hq:q < 8):nf .u64 (IntKind.wrap .u64 e) (8*(q:Int))=e*2^(8*q)/\0<=e*2^(8*q)/\e*2^(8*q) < 2^(8*(q+1)):=by
 have hp:(0:Int) < 2^(8*q):=Int.pow_pos (by decide)
 have hp8:(2:Int)^(8*(q+1))=2^(8*q)*256:=by rw [show 8*(q+1)=8*q+8 by omega,Int.pow_add];rfl
 have hp64:(2:Int)^(8*(q+1))<=18446744073709551616:=B4 (by omega)
 have hm:e*2^(8*q)<=255*2^(8*q):=Int.mul_le_mul_of_nonneg_right (by omega) (by omega)
 have h0:0<=e*2^(8*q):=Int.mul_nonneg he.1 (by omega)
 have hlt:e*2^(8*q) < 2^(8*(q+1)):=by omega
 refine ⟨?_,h0,hlt⟩
 unfold nf
 rw [uF (x:=e) ⟨he.1,by omega⟩,show min (8*(q:Int)).toNat (IntKind.bits .u64)=8*q by show min (8*(q:Int)).toNat 64=_;omega]
 exact uF ⟨h0,by omega⟩
theorem E8 {e:Int}(h:(Sh.y).ok e=true):0<=e/\e < 256:=by
 simp [Sh.ok,Ty.ok,ee,IntKind.wrap,IntKind.signed,IntKind.bits] at h
 omega
theorem y7 {z:Int}(hz:z=1\/z=2\/z=4\/z=8):(R.cZ z).sat fun k=>ElI k z:=by
 rcases hz with rfl|rfl|rfl|rfl
 ·exact bH (om (P:=fun r=>decide (r=2)) (by kernel_rfl)) fun r hr=>by rw [of_decide_eq_true hr];exact .k2
 ·exact bH (om (P:=fun r=>decide (r=4)) (by kernel_rfl)) fun r hr=>by rw [of_decide_eq_true hr];exact .k4
 ·exact bH (om (P:=fun r=>decide (r=6)) (by kernel_rfl)) fun r hr=>by rw [of_decide_eq_true hr];exact .k6
 ·exact bH (om (P:=fun r=>decide (r=8)) (by kernel_rfl)) fun r hr=>by rw [of_decide_eq_true hr];exact .k8
theorem EH {k z:Int}(h:ElI k z){bs:List Int}:(R.gg k bs).sat fun r=>sy z r.1:=by
 unfold R.gg
 have hz:=h.pos
 refine aA fun _=>aB (R:=fun b=>b=false->(bs.length:Int)=z) (aY (mX h) (aA fun _=>bI (fun _=>aD fun e=>by cases e) fun _=>aY (mX h) (aA fun _=>aD fun e=>?_))) fun b hb=>aI (fun _=>aD (.zero z)) fun eb=>?_
 ·exact eq_of_beq (by cases hq:((bs.length:Int) == z)<;>simp_all)
 have hl:=hb eb
 refine aB (iA (Q:=fun w:Int=>0<=w/\w < 2^(8*bs.length)) (fun y=>y.2) bs.length (by omega) (fun y=>0<=y.1/\y.1 < 2^(8*y.2.toNat)) (by simp) (by simp) (by simp) fun y y0 y1 yI=>?_) fun w ⟨w0,w1⟩=>aD ⟨w0,?_,?_⟩
 ·obtain ⟨w,j⟩:=y
  have y0:0<=j:=y0
  have y1:j<=(bs.length:Int):=y1
  obtain ⟨i0,i1⟩:=yI
  have i0:0<=w:=i0
  have i1:w < 2^(8*j.toNat):=i1
  refine er (fun hj=>?_) fun hj=>aD ⟨i0,?_⟩
  ·have hj:j < (bs.length:Int):=hj
   have e8:IntKind.wrap .i64 (8*j)=8*j:=wrap64 (by omega)
   refine bR y0 (by show _ < bs.length;omega) fun e _ he=>iL (by rw [e8];omega) (aD ⟨rfl,hj,?_⟩)
   have hb:=E8 he
   obtain ⟨q,rfl⟩:=Int.eq_ofNat_of_zero_le y0
   obtain ⟨es,h0,h1⟩:=Fv hb (q:=q) (by omega)
   show 0<=fm .or .u64 w (nf .u64 (IntKind.wrap .u64 e) (IntKind.wrap .i64 (8*(q:Int))))/\fm .or .u64 w (nf .u64 (IntKind.wrap .u64 e) (IntKind.wrap .i64 (8*(q:Int)))) < 2^(8*(IntKind.wrap .i64 ((q:Int)+1)).toNat)
   have hmono:(2:Int)^(8*(q+1))=2^(8*q)*256:=by rw [show 8*(q+1)=8*q+8 by omega,Int.pow_add];rfl
   have hp:(0:Int) < 2^(8*q):=Int.pow_pos (by decide)
   have i1:w < 2^(8*q):=i1
   rw [e8,es,wrap64 (n:=(q:Int)+1) (by omega),show ((q:Int)+1).toNat=q+1 by omega]
   exact or_lt (by omega) ⟨i0,by omega⟩ ⟨h0,h1⟩
  ·have hj:(bs.length:Int)<=j:=hj
   show w < 2^(8*bs.length)
   rw [show bs.length=j.toNat by omega]
   exact i1
 ·show w < 18446744073709551616
  have h3:(2:Int)^(8*bs.length)<=18446744073709551616:=B4 (by omega)
  omega
 ·right
  show w < 2^(8*z).toNat
  rw [show (8*z).toNat=8*bs.length by omega]
  exact w1
theorem xZ {k z w:Int}(h:ElI k z):(R.gZ z w).sat (sy z):=by
 unfold R.gZ
 exact aA fun _=>q_b fun _=>aA fun _=>q_p fun _ _=>aA fun _=>q_b fun _=>aA fun _=>aB (y7 h.pos.2.2) fun k hk=>aA fun _=>aB (EH hk) fun r hr=>aA fun _=>aD hr
section
variable {C:Cx}{m b:Int}{s:RunT}{c:PkT}{a z w n:Int}{l:List eD}{x y v:eD}{u:List Int}{nm:List UInt8}
theorem ux (hc:jx C) (h:iP C m s) (hz:z=1\/z=2\/z=4\/z=8) (a0:0<=a) (am:a+z<=9007199254740991) (hb:qa s.2.2.2.2.1.2 c.2.2.2.2.2.2.2.2.2.1 (a+z)){sq nt:Bool}(hq:sq=true->nt=true):(R.cj s c a z sq nt).sat fun r=>Pst C m s.2.2.2.2.2.2.1 s r.1.2 r.2/\(∀ d,s.2.2.2.2.1.2[(c.2.2.2.2.2.2.2.2.2.1).toNat]?=some d->Eq (α:=Int) (d.1) (5)->Eq (α:=Int) (r.1.2) (0)):=by
 unfold R.cj
 obtain ⟨b0,d,hd,hk⟩:=hb
 have ew:IntKind.wrap .i64 (a+z)=a+z:=wrap64 (by omega)
 have hs:List.set s.2.2.2.2.1.2 (c.2.2.2.2.2.2.2.2.2.1).toNat d=s.2.2.2.2.1.2:=oJ hd
 refine aA fun _=>kL (fun c' _ hc'=>hJ rfl (kg b0 hd (bG (beq_self_eq_true _) ?_))) fun hn=>absurd ⟨b0,(List.getElem?_eq_some_iff.1 hd).1⟩ hn
 rw [hs]
 refine bI (fun e5=>?_) fun e5=>?_
 ·have hl:a+z<=((d.2.2.2.2.2.2.2.2.2.2.2.2).length:Int):=by
   rcases hk with ⟨_,g⟩|⟨e6,_⟩
   ·exact g
   ·exact absurd (e5.symm.trans e6) (by decide)
  exact q_b fun _=>aA fun _=>gG (iL a0 (gG (iL (by rw [ew];omega) (iL (by rw [ew];exact hl) (q_b fun _=>aA fun _=>aD ⟨.ret h,fun _ _ _=>rfl⟩)))))
 ·refine aB (rZ h hc.A (Bp 2 rfl (by decide) l0 (Nat.zero_le _) nw0 ⟨hz,.inr ⟨pw z,pw z⟩,a0,hq⟩ ⟨fun e=>absurd e (by decide),fun _=>rfl⟩)) fun r ⟨g,_⟩=>aA fun _=>aD ⟨g,fun d' hd' e5'=>?_⟩
  have:some d=some d':=hd.symm.trans hd'
  cases this
  exact absurd e5' e5
theorem su (hc:jx C) (h:iP C m s) (hm:m<=2^39) (hz:z=1\/z=2\/z=4\/z=8) (a0:0<=a) (hb:qa s.2.2.2.2.1.2 c.2.2.2.2.2.2.2.2.2.1 (a+z)){sq nt:Bool}(hq:sq=true->nt=true) (hw:∀ d,s.2.2.2.2.1.2[(c.2.2.2.2.2.2.2.2.2.1).toNat]?=some d->Eq (α:=Int) (d.1) (6)->sy z w):(R.cS s c a z w sq nt).sat fun r=>Pst C m s.2.2.2.2.2.2.1 s r.1 r.2/\(∀ d,s.2.2.2.2.1.2[(c.2.2.2.2.2.2.2.2.2.1).toNat]?=some d->Eq (α:=Int) (d.1) (5)->Eq (α:=Int) (r.1) (0)):=by
 unfold R.cS
 obtain ⟨b0,d,hd,hk⟩:=hb
 obtain ⟨B,g1,g2,g3⟩:=h.heap hm
 refine aA fun _=>aB (oX g1) fun r hr=>aA fun _=>?_
 obtain ⟨t1,t2⟩:=hr.cl d b0 hd
 refine bI (fun e5=>?_) fun e5=>?_
 ·have hl:=(g1.cl _ d hd).1.bf (t2.symm.trans e5)
  refine q_b fun _=>aA fun _=>q_p fun bs hbs=>aA fun _=>aB (EG g1 g2 hbs fun d' hd'=>?_) fun r2 ⟨k1,k2⟩=>aA fun _=>aD ⟨.ok ⟨h.put k1 g3,k2,rfl,Int.le_refl _⟩,fun _ _ _=>rfl⟩
  have:some d=some d':=hd.symm.trans hd'
  cases this
  omega
 ·have e6:Eq (α:=Int) (d.1) (6):=by
   rcases hk with ⟨g,_⟩|⟨g,_⟩
   ·exact absurd (t2.trans g) e5
   ·exact g
  have hw:=hw d hd e6
  refine aB (rZ h hc.A (Bp 3 rfl (by decide) l0 (Nat.zero_le _) nw0 ⟨hz,hw.2.2.imp id fun g=>⟨g,pw z⟩,a0,hq⟩ ⟨fun e=>absurd e (by decide),fun _=>rfl⟩)) fun r ⟨g,_⟩=>aA fun _=>aD ⟨g,fun d' hd' e5'=>?_⟩
  have:some d=some d':=hd.symm.trans hd'
  cases this
  exact absurd (e5'.symm.trans e6) (by decide)
theorem qa.ext' {l l':List j6}(h:nW l l'){b n:Int}(hb:qa l b n):qa l' b n:=hb.ext h
theorem GR (hc:jx C) (h:iP C m s) (ht:TyI s.2.2.2.2.1.2 c z) (n0:0<=n) (nl:LT.lt (α:=Int) (n) (c.2.2.2.2.2.2.2.2.2.2.2.1)):(R.dh s c n).sat (cy C m s.2.2.2.2.2.2.1 s):=by
 unfold R.dh
 obtain ⟨m1,m2,m3⟩:=vQ ht.el n0 nl ht.f0 ht.m
 have hz:=ht.el.pos
 have hm':=ht.m
 refine aA fun _=>aY (mX ht.el) (aA fun _=>q_b fun bg=>?_)
 rw [m1]
 exact aB (ux hc h hz.2.2 m2 (by omega) (ht.bf.le m3) fun e=>by cases e) fun r ⟨g,_⟩=>aA fun _=>b9 (fun _=>aD ⟨bt,g⟩) fun e=>aB ox fun _ hv=>aA fun _=>aD ⟨hv,.ok (g.a0 e)⟩
theorem Ee (hc:jx C) (h:iP C m s) (hm:m<=2^39) (ht:TyI s.2.2.2.2.1.2 c z) (n0:0<=n) (hv:cD v):(R.gj s c n v).sat (cy C m s.2.2.2.2.2.2.1 s):=by
 unfold R.gj
 have hz:=ht.el.pos
 have hm':=ht.m
 refine aA fun _=>aB (yD ht.el) fun r1 hw=>aA fun _=>b9 (fun _=>ae (iM h hm)) fun _=>er (fun nl=>?_) fun _=>aD (mY h hv)
 obtain ⟨m1,m2,m3⟩:=vQ ht.el n0 nl ht.f0 ht.m
 refine aY (mX ht.el) (aA fun _=>aY (mX ht.el) (aA fun _=>q_b fun bg=>?_))
 rw [m1]
 exact aB (su hc h hm hz.2.2 m2 (ht.bf.le m3) (fun e=>by cases e) fun _ _ _=>hw) fun r ⟨g,_⟩=>aA fun _=>b9 (fun _=>aD ⟨bt,g⟩) fun e=>aD ⟨hv,.ok (g.a0 e)⟩
theorem xV (hc:jx C) (h:iP C m s) (hm:m<=2^39) (ht:TyI s.2.2.2.2.1.2 c z) (n0:0<=n) (nl:LT.lt (α:=Int) (n) (c.2.2.2.2.2.2.2.2.2.2.2.1)){k o w1 w2:Int}(hk:(k=4/\0 < o/\o<=6)\/(k=5/\o=0)) (h1:sy z w1) (h2:sy z w2):(R.dP s c n (k,(0,(0,(0,(o,(false,(false,(w1,(w2,((0,0),(([]:List Int),0)))))))))))).sat (cy C m s.2.2.2.2.2.2.1 s):=by
 unfold R.dP
 obtain ⟨B,g1,g2,g3⟩:=h.heap hm
 obtain ⟨m1,m2,m3⟩:=vQ ht.el n0 nl ht.f0 ht.m
 have hz:=ht.el.pos
 have hm':=ht.m
 have hbf:=ht.bf.le m3
 have hbf':=hbf
 obtain ⟨b0,d,hd,hkd⟩:=hbf'
 refine aA fun _=>aY (mX ht.el) (aA fun _=>aB (oX g1) fun r hr=>aA fun _=>?_)
 obtain ⟨t1,t2⟩:=hr.cl d b0 hd
 rw [m1]
 refine oi (fun _=>?_) fun e5=>?_
 ·have hkk:2<=k/\k<=6:=by omega
  exact aB (rZ h hc.A (Bp k rfl hkk l0 (Nat.zero_le _) nw0 ⟨hz.2.2,by
   rcases h1.2.2 with e|e1
   ·exact .inl e
   ·rcases h2.2.2 with e|e2
    ·exact .inl e
    ·exact .inr ⟨e1,e2⟩,m2,fun _=>rfl⟩ ⟨fun e=>by show 0 < o/\o<=6;omega,fun e=>by show o=0;omega⟩)) fun r ⟨g,_⟩=>aA fun _=>b9 (fun _=>aD ⟨bt,g⟩) fun e=>aB ox fun _ hv=>aA fun _=>aD ⟨hv,.ok (g.a0 e)⟩
 ·have e5:Eq (α:=Int) (d.1) (5):=t2.symm.trans e5
  refine aB (ux hc h hz.2.2 m2 (by omega) hbf fun _=>rfl) fun r5 ⟨g,g'⟩=>aA fun _=>q_b fun r6=>aA fun _=>aB (R:=fun _=>True) (bI (fun _=>bI (fun _=>aD trivial) fun _=>aD trivial) fun _=>aD trivial) fun w7 _=>?_
  have a1:=g.a0 (g' d hd e5)
  obtain ⟨d2,hd2,hs⟩:=a1.ext _ d hd
  refine aB (su hc a1.run hm hz.2.2 m2 (hbf.ext a1.ext) (fun _=>rfl) fun d' hd' e6=>?_) fun r8 ⟨g8,g8'⟩=>aA fun _=>aB ox fun _ hv=>aA fun _=>aD ⟨hv,.ok (a1.cat (g8.a0 (g8' d2 hd2 (hs.k.trans e5))))⟩
  have:some d2=some d':=hd2.symm.trans hd'
  cases this
  exact absurd ((hs.k.trans e5).symm.trans e6) (by decide)
theorem GY (h:iP C m s){q:List Int}:(R.gA s u q).sat (cy C m s.2.2.2.2.2.2.1 s):=by
 unfold R.gA
 refine aA fun _=>aB (dV (by decide)) fun _ _=>aA fun _=>q_b fun _=>aI (fun _=>aB lr fun _ hv=>aA fun _=>aD (mY h hv)) fun _=>aB yO fun k ⟨k0,k1⟩=>aA fun _=>dx (aI (fun _=>lb (fun _=>aD (mY h bt)) fun hk=>?_) fun _=>ae (gO h))
 have hk:k.1 < (u.length:Int):=hk
 have ew:IntKind.wrap .i64 (k.1+1)=k.1+1:=wrap64 (by omega)
 exact gG (iL k0 (gG (iL (by rw [ew];omega) (iL (by rw [ew];omega) (aB mu fun _ hv=>aA fun _=>aD (mY h hv.1))))))
theorem F9 (h:iP C m s) (hm:m<=2^39) (hn:nm.length<=2^46){b:Bool}:(R.gB s n nm u b).sat (cy C m s.2.2.2.2.2.2.1 s):=by
 unfold R.gB
 obtain ⟨B,g1,g2,g3⟩:=h.heap hm
 exact aA fun _=>aI (fun _=>aB (tG g1 g2) fun _ hv=>aA fun _=>aD (mY h hv)) fun _=>aI (fun _=>aB o8 fun _ _=>aA fun _=>aB lr fun _ hv=>aA fun _=>aD (mY h hv)) fun _=>aB (dw0:Safe _).ok fun _ _=>aI (fun _=>bG (decide_eq_true (by show 6+nm.length<=2^47;omega)) (aB oc fun _ hv=>aA fun _=>aD (mY h (vk hv)))) fun _=>ae (gO h)
theorem Bn (h:iP C m s) (hn:nm.length<=2^46):(R.eo s c nm n).sat (cy C m s.2.2.2.2.2.2.1 s):=by
 unfold R.eo
 have hs:lP (9+nm.length)=true:=decide_eq_true (by show 9+nm.length<=2^47;omega)
 refine aA fun _=>aB (R:=fun r:Unit ⊕ (Int×eD)=>match r with|.inl _=>True|.inr q=>cD q.2/\q.1=0) (aI (fun _=>aB lr fun _ hv=>aA fun _=>aD ⟨hv,rfl⟩) fun _=>aI (fun _=>aB lr fun _ hv=>aA fun _=>aD ⟨hv,rfl⟩) fun _=>aI (fun _=>aD ⟨.of (show (6:Int)≠5 by decide),rfl⟩) fun _=>aI (fun _=>bI (fun _=>aB lr fun _ hv=>aA fun _=>aD ⟨hv,rfl⟩) fun _=>aD trivial) fun _=>aD trivial) fun r hr=>?_
 cases r with
 |inl _=>exact jf (aB (R:=fun _=>True) (bI (fun _=>aB B1 fun _ _=>aA fun _=>bG hs (q_b fun _=>aD trivial)) fun _=>aD trivial) fun _ _=>aI (fun _=>bG hs (aB oc fun _ hv=>aA fun _=>aD (mY h (vk hv)))) fun _=>ae (gO h))
 |inr q =>
  obtain ⟨k,w⟩:=q
  obtain ⟨h1,h2⟩:=hr
  have h2:k=0:=h2
  subst h2
  exact jd (aD (mY h h1))
theorem Cr (hc:jx C) (h:iP C m s) (hm:m<=2^39) (hu:u.length<=4096):(R.eX s n u).sat (cy C m s.2.2.2.2.2.2.1 s):=by
 unfold R.eX
 obtain ⟨B,g1,g2,g3⟩:=h.heap hm
 refine aA fun _=>aB DI fun r1 hr1=>aA fun _=>aB (R:=fun q:List UInt8=>q.length<=4096) (dx (aI (fun _=>aD (by omega)) fun _=>aD (by decide))) fun nm hnm=>aB (oX g1) fun r hr=>aA fun _=>dx (aI (fun hr2=>?_) fun _=>?_)
 ·refine aB yO fun k ⟨k0,k1⟩=>aA fun _=>bI (fun _=>aB (BZ g1 g2) fun _ hv=>aA fun _=>aB (dw0:Safe _).ok fun _ _=>aI (fun _=>ae (gO h)) fun _=>aD (mY h hv)) fun _=>bI (fun _=>ae (F9 h hm (by omega))) fun _=>bI (fun _=>aB (tG g1 g2) fun _ hv=>aA fun _=>aI (fun _=>aD (mY h hv)) fun _=>ae (gO h)) fun _=>bI (fun _=>aI (fun _=>?_) fun _=>aI (fun _=>aD (mY h (hr.th hr2))) fun _=>ae (gO h)) fun _=>nv (fun h56=>aI (fun _=>?_) fun _=>ae (gO h)) fun _=>bI (fun h7=>?_) fun _=>bI (fun _=>ae (Bn h (by omega))) fun _=>ae (gO h)
  ·have hnn:=hr.nn hr2
   exact aB (dV (by omega)) fun _ _=>aA fun _=>aB mu fun _ hv=>aA fun _=>aD (mY h hv.1)
  ·obtain ⟨i0,d,hd,e⟩:=hr.at' hr2
   exact aB (wL g1 i0 hd (by rw [show d.1=r.1.1 from e];exact h56)) fun _ _=>aA fun _=>aB lr fun _ hv=>aA fun _=>aD (mY h hv)
  ·obtain ⟨z,ht⟩:=hr.ty h7
   exact aI (fun _=>lb (fun _=>aD (mY h bt)) fun hk=>ae (GR hc h ht k0 hk)) fun _=>aY (mX ht.el) (aA fun _=>ae (Bn h (by omega)))
 ·refine aB tN fun q ⟨hq,_⟩=>aA fun _=>aB Aa fun ms hms=>aA fun _=>aB zW fun b hb=>aI (fun e=>?_) fun _=>ae (gO h)
  have h1:=zK hq
  have h2:=hms _ (hb e)
  refine bG (decide_eq_true ?_) (bG (decide_eq_true ?_) (aB oc fun _ hv=>aA fun _=>aD (mY h (vk hv))))
  ·show q.length+1<=2^47
   omega
  ·show (q++[46]).length+nm.length<=2^47
   rw [List.length_append]
   simp
   omega
theorem Ai (hc:jx C) (h:iP C m s) (hm:m<=2^39){p:fX.den}:(R.dw s p).sat (cy C m s.2.2.2.2.2.2.1 s):=by
 unfold R.dw
 exact aA fun _=>q_b fun _=>aI (fun _=>ae (iM h hm)) fun _=>q_p fun r hr=>aA fun _=>b9 (fun _=>ae (iM h hm)) fun _=>bI (fun _=>ae (GY h)) fun _=>bI (fun _=>ae (Cr hc h hm hr)) fun _=>ae (gO h)
theorem set_ok (hc:jx C) (h:iP C m s) (hm:m+1<=2^39){p:fX.den}(hv:cD v):(R.gh s p v).sat (cy C (m+1) s.2.2.2.2.2.2.1 s):=by
 unfold R.gh
 obtain ⟨B,g1,g2,g3⟩:=h.heap (by omega)
 have up:∀ {F:Res ((eD×Int)×RunT)}{B:(eD×Int)×RunT->Bool},F.sat (cy C m s.2.2.2.2.2.2.1 s)->(F.bind fun r=>given (B r) (Res.ok r)).sat (cy C (m+1) s.2.2.2.2.2.2.1 s):=fun h=>ae (bH h fun _ hr=>hr.up (by omega))
 have ur:∀ {F:Res ((eD×Int)×RunT)}{B:(eD×Int)×RunT->Bool},F.sat (cy C m s.2.2.2.2.2.2.1 s)->(F.bind fun r=>given (B r) (Res.ok (Sum.inr (r.1.2,(r.2,r.1.1)):Unit ⊕ (Int×(RunT×eD))))).sat (pX C (m+1) s.2.2.2.2.2.2.1 s fun _:Unit=>True):=fun h=>oY (bH h fun _ hr=>hr.up (by omega))
 refine aA fun _=>q_b fun _=>aI (fun _=>up (iM h (by omega))) fun _=>q_p fun r3 hr3=>aA fun _=>b9 (fun _=>up (iM h (by omega))) fun _=>oi (fun _=>up (iM h (by omega))) fun _=>aB (oX g1) fun r hr=>aA fun _=>aB yO fun k ⟨k0,k1⟩=>aA fun _=>aB (R:=pX C (m+1) s.2.2.2.2.2.2.1 s fun _:Unit=>True) (bI (fun _=>aB (dV (by decide)) fun _ _=>aA fun _=>q_b fun _=>aI (fun _=>ur (gO h)) fun _=>aD trivial) fun _=>bI (fun _=>aB (R:=fun _=>True) (dx (aI (fun _=>aB o8 fun _ _=>aA fun _=>aD trivial) fun _=>aD trivial)) fun _ _=>aI (fun _=>ur (gO h)) fun _=>aD trivial) fun _=>bI (fun _=>aB (tG g1 g2) fun _ _=>aA fun _=>dx (aI (fun _=>aD trivial) fun _=>ur (gO h))) fun _=>bI (fun h7=>dx (aI (fun _=>?_) fun _=>ur (gO h))) fun _=>ur (gO h)) fun r hr=>oQ hr fun _ _=>aB (tI h hm hv) fun r2 a2=>aA fun _=>aD ⟨hv,.ok a2⟩
 obtain ⟨z,ht⟩:=hr.ty h7
 exact ur (Ee hc h (by omega) ht k0 hv)
theorem in_ok (hc:jx C) (h:iP C m s) (hm:m<=2^39):(R.iW s x y).sat (cy C m s.2.2.2.2.2.2.1 s):=by
 unfold R.iW
 obtain ⟨B,g1,g2,g3⟩:=h.heap hm
 exact aA fun _=>oi (fun _=>ae (iM h hm)) fun _=>q_p fun _ _=>aA fun _=>b9 (fun _=>ae (iM h hm)) fun _=>aB (oX g1) fun r hr=>aA fun _=>q_b fun _=>aA fun _=>bI (fun _=>aB (BZ g1 g2) fun _ _=>aA fun _=>q_b fun _=>aA fun _=>aB (dw0:Safe _).ok fun _ _=>aI (fun _=>ae (gO h)) fun _=>aB lB fun _ hv=>aA fun _=>aD (mY h (vk hv))) fun _=>aB (dw0:Safe _).ok fun _ _=>aI (fun _=>aB o8 fun _ _=>aA fun _=>aB lB fun _ hv=>aA fun _=>aD (mY h (vk hv))) fun _=>aB (dw0:Safe _).ok fun _ _=>aI (fun _=>aB lB fun _ hv=>aA fun _=>aD (mY h (vk hv))) fun _=>ae (gO h)
theorem B9 (hc:jx C) (h:iP C m s) (hm:m<=2^39){p:fX.den}{e:aO.den}:(R.eP s p e).sat (cy C m s.2.2.2.2.2.2.1 s):=by
 unfold R.eP
 exact aA fun _=>dx (aI (fun _=>ae (Ai hc h hm)) fun _=>ae (BX h hm))
theorem Eo (hc:jx C) (h:iP C m s) (hm:m+1<=2^39){p:fX.den}{e:aO.den}(hv:cD v):(R.fU s p v e).sat (cy C (m+1) s.2.2.2.2.2.2.1 s):=by
 unfold R.fU
 exact aA fun _=>dx (aI (fun _=>ae (set_ok hc h hm hv)) fun _=>ae (bH (CN h (by omega) hv) fun _ hr=>cy.up (m:=m) hr (by omega)))
theorem Cl (hc:jx C) (h:iP C m s) (hm:m<=2^39) (hn:VwN nm) (hl:∀ v∈l,cD v):(R.eV s nm x l).sat (cy C m s.2.2.2.2.2.2.1 s):=by
 unfold R.eV
 obtain ⟨B,g1,g2,g3⟩:=h.heap hm
 obtain ⟨n3,hel⟩:=hn
 refine aA fun _=>aB (oX g1) fun r hr=>aA fun _=>aB (R:=fun b=>b=false->Eq (α:=Int) (r.1.1) (8)) (oi (fun _=>aD fun e=>by cases e) fun _=>aD fun e=>?_) fun b hb=>aI (fun _=>ae (iM h hm)) fun eb=>gG (iL (by decide) (iL (by omega) (aB hel fun k ⟨z,hk⟩=>aA fun _=>q_b fun ps=>aY (mX hk) (aA fun _=>aB (lF hl (by decide)) fun _ _=>aA fun _=>aB nP fun f ⟨f0,f1⟩=>aA fun _=>b9 (fun _=>ae (iM h hm)) fun _=>?_))))
 ·exact eq_of_beq (by cases h:(r.1.1 == 8)<;>simp_all)
 have hvw:=hr.vw (hb eb)
 have hz:=hk.pos
 refine aB (R:=pX C m s.2.2.2.2.2.2.1 s fun q:Int×Int=>sy z q.1/\0<=q.2) (aI (fun _=>aB (lF hl (by decide)) fun _ _=>aA fun _=>aB (yD hk) fun w hw=>aA fun _=>b9 (fun _=>oY (iM h hm)) fun _=>aD ⟨hw,show (0:Int)<=2 by decide⟩) fun _=>aD ⟨.zero z,show (0:Int)<=1 by decide⟩) fun r2 hr2=>oQ hr2 fun q ⟨q1,q2⟩=>aB (lF hl q2) fun _ _=>aA fun _=>q_b fun lit=>?_
 have hv1:=hvw.m
 have hv2:=hvw.f0
 have hv3:=hvw.l0
 refine aB (R:=pX C m s.2.2.2.2.2.2.1 s fun w:Int=>sy z w/\LE.le (α:=Int) ((HAdd.hAdd (α:=Int) (β:=Int) (γ:=Int) (f.1) (z))) (r.1.2.2.2.2.2.2.2.2.2.2.2.1)) (aB (R:=fun b=>b=false->LE.le (α:=Int) ((HAdd.hAdd (α:=Int) (β:=Int) (γ:=Int) (f.1) (z))) (r.1.2.2.2.2.2.2.2.2.2.2.2.1)) (er (fun _=>aD fun e=>by cases e) fun h1=>aD fun e=>?_) fun b hb=>aI (fun _=>oY (iM h hm)) fun eb=>aB (dw0:Safe _).ok fun _ _=>aI (fun _=>aB (xZ hk) fun w hw=>aA fun _=>aD ⟨hw,hb eb⟩) fun _=>aD ⟨q1,hb eb⟩) fun r3 hr3=>oQ hr3 fun w ⟨w1,w2⟩=>?_
 ·have h1:LE.le (α:=Int) (z) (r.1.2.2.2.2.2.2.2.2.2.2.2.1):=h1
  have e:=Int.not_lt.1 (of_decide_eq_false e)
  rw [wrap64 (n:=(HSub.hSub (α:=Int) (β:=Int) (γ:=Int) (r.1.2.2.2.2.2.2.2.2.2.2.2.1) (z))) (by omega)] at e
  show LE.le (α:=Int) ((HAdd.hAdd (α:=Int) (β:=Int) (γ:=Int) (f.1) (z))) (r.1.2.2.2.2.2.2.2.2.2.2.2.1)
  omega
 have ew:IntKind.wrap .i64 (HAdd.hAdd (α:=Int) (β:=Int) (γ:=Int) (r.1.2.2.2.2.2.2.2.2.2.2.1) (f.1))=(HAdd.hAdd (α:=Int) (β:=Int) (γ:=Int) (r.1.2.2.2.2.2.2.2.2.2.2.1) (f.1)):=wrap64 (by omega)
 have hbf:qa s.2.2.2.2.1.2 r.1.2.2.2.2.2.2.2.2.2.1 ((HAdd.hAdd (α:=Int) (β:=Int) (γ:=Int) (r.1.2.2.2.2.2.2.2.2.2.2.1) (f.1))+z):=hvw.bf.le (by omega)
 have a0:0<=(HAdd.hAdd (α:=Int) (β:=Int) (γ:=Int) (r.1.2.2.2.2.2.2.2.2.2.2.1) (f.1)):=by omega
 rw [ew]
 refine aI (fun _=>aB (su hc h hm hz.2.2 a0 hbf (fun e=>by cases e) fun _ _ _=>w1) fun r8 ⟨g8,_⟩=>aA fun _=>aD ⟨bt,g8⟩) fun _=>aB (ux hc h hz.2.2 a0 (by omega) hbf fun e=>by cases e) fun r8 ⟨g8,_⟩=>aA fun _=>b9 (fun _=>aD ⟨bt,g8⟩) fun e8=>dx (aI (fun _=>aB ox fun _ hv=>aA fun _=>aD ⟨hv,.ok (g8.a0 e8)⟩) fun _=>aB (xZ hk) fun _ _=>aA fun _=>aB ox fun _ hv=>aA fun _=>aD ⟨hv,.ok (g8.a0 e8)⟩)
theorem Ct (h:iP C m s) (hm:m<=2^39):(R.fD s c x).sat fun r=>cD r.1.2.1/\Pst C m s.2.2.2.2.2.2.1 s r.1.2.2 r.2/\(r.1.2.2=0->r.2=s/\LE.le (α:=Int) (0) (r.1.1)/\LT.lt (α:=Int) (r.1.1) (c.2.2.2.2.2.2.2.2.2.2.2.1)):=by
 unfold R.fD
 refine aA fun _=>aB nP fun f ⟨f0,f1⟩=>aA fun _=>aB (R:=fun q:Int=>q=0->LT.lt (α:=Int) (f.1) (c.2.2.2.2.2.2.2.2.2.2.2.1)) (aB (R:=fun b=>b=false->f.2=0->LT.lt (α:=Int) (f.1) (c.2.2.2.2.2.2.2.2.2.2.2.1)) (bI (fun _=>aD fun e _=>Int.not_le.1 (of_decide_eq_false e)) fun h0=>aD fun _ e=>absurd e h0) fun b hb=>aI (fun _=>aD fun e=>absurd (show (2:Int)=0 from e) (by decide)) fun eb=>aD fun e=>hb eb e) fun q hq=>b9 (fun h0=>aB (nJ h hm) fun r ⟨⟨v,g⟩,g0⟩=>aA fun _=>aD ⟨v,g,fun e=>absurd e g0⟩) fun h0=>aD ⟨bt,.ret h,fun _=>⟨rfl,f0,hq h0⟩⟩
theorem EN (hc:jx C) (h:iP C m s) (hm:m<=2^39){d:PkT}(ht:TyI s.2.2.2.2.1.2 c z) (n0:0<=n) (nl:LT.lt (α:=Int) (n) (c.2.2.2.2.2.2.2.2.2.2.2.1)):(R.fE s c d n x y).sat (cy C m s.2.2.2.2.2.2.1 s):=by
 unfold R.fE
 obtain ⟨m1,m2,m3⟩:=vQ ht.el n0 nl ht.f0 ht.m
 have hz:=ht.el.pos
 refine aA fun _=>aB (yD ht.el) fun r1 hw=>aA fun _=>b9 (fun _=>ae (iM h hm)) fun _=>q_b fun r3=>aA fun _=>b9 (fun _=>ae (iM h hm)) fun _=>aB (R:=fun _=>True) (bI (fun _=>aD trivial) fun _=>aD trivial) fun nn _=>aY (mX ht.el) (aA fun _=>aB sa fun nu hnu=>aA fun _=>?_)
 rw [m1]
 refine aB (rZ h hc.A (Bp 6 rfl (by decide) l0 (Nat.zero_le _) hnu ⟨hz.2.2,hw.2.2.imp id fun g=>⟨pw z,g⟩,m2,fun e=>by cases e⟩ ⟨fun e=>absurd e (by decide),fun _=>rfl⟩)) fun r ⟨g,_⟩=>aA fun _=>b9 (fun _=>aD ⟨bt,g⟩) fun e=>?_
 have a:=g.a0 e
 exact bI (fun _=>aB (dV (by decide)) fun _ _=>aA fun _=>aB mu fun _ hv=>aA fun _=>aD ⟨hv.1,.ok a⟩) fun _=>bI (fun _=>aB (dV (by decide)) fun _ _=>aA fun _=>aB mu fun _ hv=>aA fun _=>aD ⟨hv.1,.ok a⟩) fun _=>aB (dV (by decide)) fun _ _=>aA fun _=>aB mu fun _ hv=>aA fun _=>aD ⟨hv.1,.ok a⟩
theorem zO (hc:jx C) (h:iP C m s) (hm:m<=2^39){d:PkT}(ht:TyI s.2.2.2.2.1.2 c z) (n0:0<=n) (nl:LT.lt (α:=Int) (n) (c.2.2.2.2.2.2.2.2.2.2.2.1)):(R.dI s c d n x).sat (cy C m s.2.2.2.2.2.2.1 s):=by
 unfold R.dI
 refine aA fun _=>aB (R:=pX C m s.2.2.2.2.2.2.1 s zl) (b9 (fun _=>q_b fun _=>aA fun _=>b9 (fun _=>oY (iM h hm)) fun _=>aB sa fun nu hnu=>aA fun _=>aD hnu) fun _=>aD (.inr ⟨rfl,rfl⟩)) fun r hr=>oQ hr fun nu hnu=>oi (fun _=>aB lr fun _ hv=>aA fun _=>aD (mY h hv)) fun _=>aY (mX ht.el) (aA fun _=>aB (rZ h hc.A (qg 7 rfl (by decide) (by decide) l0 (Nat.zero_le _) hnu z6)) fun r ⟨g,_⟩=>aA fun _=>b9 (fun _=>aD ⟨bt,g⟩) fun e=>aB lr fun _ hv=>aA fun _=>aD ⟨hv,.ok (g.a0 e)⟩)
theorem DN (hc:jx C) (h:iP C m s) (hm:m<=2^39) (hl:∀ v∈l,cD v):(R.ea s nm l).sat (cy C m s.2.2.2.2.2.2.1 s):=by
 unfold R.ea
 obtain ⟨B,g1,g2,g3⟩:=h.heap hm
 have rt:∀ {k:Bool}{B:eD->Bool},((R.bE k).bind fun r=>given (B r) (Res.ok ((r,(0:Int)),s))).sat (cy C m s.2.2.2.2.2.2.1 s):=aB lB fun _ hv=>aA fun _=>aD (mY h (vk hv))
 refine aA fun _=>aI (fun _=>aB (lF hl (by decide)) fun _ _=>aA fun _=>q_b fun _=>aA fun _=>b9 (fun _=>ae (iM h hm)) fun _=>q_b fun _=>aA fun _=>bI (fun _=>bI (fun _=>rt) fun _=>bI (fun _=>rt) fun _=>bI (fun _=>rt) fun _=>rt) fun _=>rt) fun _=>aB (lF hl (by decide)) fun t _=>aA fun _=>aB (oX g1) fun r hr=>aA fun _=>aB (oX g1) fun r' _=>aA fun _=>aB (dw0:Safe _).ok fun wt _=>aB (R:=fun b=>b=false->Eq (α:=Int) (r.1.1) (7)) (aB (R:=fun b=>b=false->Eq (α:=Int) (r.1.1) (7)) (oi (fun _=>aD fun e=>by cases e) fun _=>aD fun e=>?_) fun b hb=>aI (fun eb=>aD fun e=>by rw [eb] at e;cases e) fun eb=>bH (dw0:Safe _).ok fun _ _ _=>hb eb) fun b hb=>aI (fun _=>ae (iM h hm)) fun eb=>aB (lF hl (by decide)) fun _ _=>aA fun _=>aB (Ct h hm) fun r19 ⟨v19,g19,k19⟩=>aA fun _=>b9 (fun _=>aD ⟨v19,g19⟩) fun e19=>?_
 ·exact eq_of_beq (by cases h:(r.1.1 == 7)<;>simp_all)
 obtain ⟨z,ht⟩:=hr.ty (hb eb)
 obtain ⟨⟨n,v,how⟩,s'⟩:=r19
 obtain ⟨es,n0,nl⟩:=k19 e19
 have es:s'=s:=es
 subst es
 have n0:0<=n:=n0
 have nl:LT.lt (α:=Int) (n) (r.1.2.2.2.2.2.2.2.2.2.2.2.1):=nl
 obtain ⟨m1,m2,m3⟩:=vQ ht.el n0 nl ht.f0 ht.m
 have hz:=ht.el.pos
 have hm':=ht.m
 refine aY (mX ht.el) (aA fun _=>?_)
 dsimp only
 rw [m1]
 refine aI (fun _=>aB (ux hc h hz.2.2 m2 (by omega) (ht.bf.le m3) fun _=>rfl) fun r5 ⟨g,_⟩=>aA fun _=>b9 (fun _=>aD ⟨bt,g⟩) fun e=>aB ox fun _ hv=>aA fun _=>aD ⟨hv,.ok (g.a0 e)⟩) fun _=>aI (fun _=>aB (lF hl (by decide)) fun _ _=>aA fun _=>aB (lF hl (by decide)) fun _ _=>aA fun _=>ae (EN hc h hm ht n0 nl)) fun _=>aI (fun _=>aB (lF hl (by decide)) fun _ _=>aA fun _=>ae (zO hc h hm ht n0 nl)) fun _=>aB (lF hl (by decide)) fun _ _=>aA fun _=>aB (vK ht.el) fun r29 ⟨hw,hv29⟩=>aA fun _=>b9 (fun _=>ae (iM h hm)) fun _=>aI (fun _=>aB (su hc h hm hz.2.2 m2 (ht.bf.le m3) (fun _=>rfl) fun _ _ _=>hw) fun r8 ⟨g8,_⟩=>aA fun _=>b9 (fun _=>aD ⟨bt,g8⟩) fun e=>aD ⟨hv29,.ok (g8.a0 e)⟩) fun _=>aI (fun _=>aB (lF hl (by decide)) fun _ _=>aA fun _=>aB (vK ht.el) fun r33 ⟨hw',_⟩=>aA fun _=>b9 (fun _=>ae (iM h hm)) fun _=>ae (xV hc h hm ht n0 nl (.inr ⟨rfl,rfl⟩) hw' hw)) fun _=>aB Ab fun o ⟨o0,o1⟩=>aA fun _=>ae (xV hc h hm ht n0 nl (.inl ⟨rfl,o0,o1⟩) hw (.zero z))
end
end Go.Mach

set_option maxRecDepth 100000
namespace Go.Mach
open Res
abbrev mQ:=aO.den
abbrev sI:=aX.den
abbrev TarI:=fX.den
def Nd (N:List gJ) (t k:Int):Prop:=0<=k/\∃ x,N[k.toNat]?=some x/\oG t x.1=true
def Nk (N:List gJ) (x:gJ):Prop:=∃ i:Nat,N[i]?=some x
def tE (l:List eD):Prop:=l.length<=20000/\∀ v∈l,cD v
def TarT (p:TarI):Prop:=cD p.2.1/\cD p.2.2
def FnC (s:RunT) (i:Int):Prop:=0<=i/\∃ c,s.2.2.2.2.1.2[i.toNat]?=some c/\Eq (α:=Int) (c.1) (3)
structure Pre (C:Cx) (n:Nat) (k c m:Int) (s:RunT):Prop where
 run:iP C m s
 fu:20*(HSub.hSub (α:=Int) (β:=Int) (γ:=Int) (C.D) (s.2.2.2.2.2.1))+k<=(n:Int)
 hm:m+c<=500000000000
def PPst (C:Cx) (m b:Int) (s:RunT) (r:(TarI×(eD×Int))×RunT):Prop:=TarT r.1.1/\cD r.1.2.1/\Pst C m b s r.1.2.2 r.2
def APst (C:Cx) (m b:Int) (s:RunT) (r:(List eD×(eD×Int))×RunT):Prop:=tE r.1.1/\cD r.1.2.1/\Pst C m b s r.1.2.2 r.2
def CPst (C:Cx) (m b:Int) (s:RunT) (r:(eD×(eD×Int))×RunT):Prop:=cD r.1.1/\cD r.1.2.1/\Pst C m b s r.1.2.2 r.2
def BPst (C:Cx) (m b:Int) (s:RunT) (r:(Bool×sI)×RunT):Prop:=cD r.1.2.2.2/\Pst C m b s r.1.2.1 r.2
def FPst (C:Cx) (m b:Int) (s:RunT) (r:(mQ×sI)×RunT):Prop:=cD r.1.1.2.1/\cD r.1.2.2.2/\Pst C m b s r.1.2.1 r.2
structure GOk (C:Cx) (n:Nat) (G:au):Prop where
 list:∀ {m:Int}{s:RunT}{x:gJ}{e:mQ},Pre C n 2 0 m s->Nk C.N x->cD e.2.1->(G.eval_run_list s x.2.2.2.2.2 e).sat (nU C m s.2.2.2.2.2.2.1 s)
 statement:∀ {m:Int}{s:RunT}{k:Int}{e:mQ}{l:List (List UInt8)},Pre C n 1 0 m s->Nd C.N 1 k->cD e.2.1->LE.le (α:=Int) ((l.length:Int)) (s.2.2.2.2.2.1)->(G.eval_run_statement s k e l).sat (nU C m (HAdd.hAdd (α:=Int) (β:=Int) (γ:=Int) (s.2.2.2.2.2.2.1) (1)) s)
 act:∀ {m:Int}{s:RunT}{k:Int}{e:mQ}{l:List (List UInt8)},Pre C n 4 100300000 m s->Nd C.N 1 k->cD e.2.1->LE.le (α:=Int) ((HAdd.hAdd (α:=Int) (β:=Int) (γ:=Int) ((l.length:Int)) (1))) (s.2.2.2.2.2.1)->(G.eval_run_act s k e l).sat (nU C (m+100300000) s.2.2.2.2.2.2.1 s)
 iV:∀ {m:Int}{s:RunT}{k:Int}{e:mQ},Pre C n 1 0 m s->Nd C.N 3 k->cD e.2.1->(G.eval_run_expression s k e).sat (cy C m (HAdd.hAdd (α:=Int) (β:=Int) (γ:=Int) (s.2.2.2.2.2.2.1) (1)) s)
 block:∀ {m:Int}{s:RunT}{k:Int}{x:gJ}{e:mQ},Pre C n 3 100300000 m s->0<=k->C.N[k.toNat]?=some x->x.1=4->cD e.2.1->(G.eval_run_block s k e).sat (nU C (m+100300000) s.2.2.2.2.2.2.1 s)
 decls:∀ {m:Int}{s:RunT}{x:gJ}{e:mQ},Pre C n 2 0 m s->Nk C.N x->(x.1=5\/x.1=6)->cD e.2.1->(G.eval_run_decls s x.2.2.2.2.2 e).sat (nU C m s.2.2.2.2.2.2.1 s)
 choice:∀ {m:Int}{s:RunT}{x:gJ}{e:mQ},Pre C n 3 0 m s->Nk C.N x->x.1=8->cD e.2.1->(G.eval_run_choice s x.2.2.2.2.2 e).sat (nU C m s.2.2.2.2.2.2.1 s)
 EL:∀ {m:Int}{s:RunT}{x:gJ}{e:mQ}{l:List (List UInt8)},Pre C n 3 0 m s->Nk C.N x->x.1=9->cD e.2.1->(G.eval_run_while s x.2.2.2.2.2 e l).sat (nU C m s.2.2.2.2.2.2.1 s)
 loop:∀ {m:Int}{s:RunT}{x:gJ}{e:mQ}{l:List (List UInt8)},Pre C n 3 100300000 m s->Nk C.N x->x.1=10->cD e.2.1->(G.eval_run_loop s x.2.2.2.2.2 e l).sat (nU C (m+100300000) s.2.2.2.2.2.2.1 s)
 try_:∀ {m:Int}{s:RunT}{x:gJ}{e:mQ},Pre C n 3 100300000 m s->Nk C.N x->x.1=16->cD e.2.1->(G.eval_run_try s x.2.2.2.2.2 e).sat (nU C (m+100300000) s.2.2.2.2.2.2.1 s)
 value:∀ {m:Int}{s:RunT}{k:Int}{e:mQ},Pre C n 12 100300000 m s->Nd C.N 3 k->cD e.2.1->(G.eval_run_value s k e).sat (cy C (m+100300000) s.2.2.2.2.2.2.1 s)
 asked:∀ {m:Int}{s:RunT}{k:Int}{e:mQ},Pre C n 2 0 m s->Nd C.N 3 k->cD e.2.1->(G.eval_run_asked s k e).sat (BPst C m (HAdd.hAdd (α:=Int) (β:=Int) (γ:=Int) (s.2.2.2.2.2.2.1) (1)) s)
 first:∀ {m:Int}{s:RunT}{k:Int}{e:mQ},Pre C n 2 100300000 m s->Nd C.N 10 k->cD e.2.1->(G.eval_run_first s k e).sat (FPst C (m+100000) s.2.2.2.2.2.2.1 s)
 Dz:∀ {m:Int}{s:RunT}{k:Int}{a:List UInt8}{v:eD}{e:mQ},Pre C n 2 100300000 m s->Nd C.N 1 k->cD v->cD e.2.1->(G.eval_run_catch s a k v e).sat (nU C (m+10) s.2.2.2.2.2.2.1 s)
 array:∀ {m:Int}{s:RunT}{x:gJ}{e:mQ},Pre C n 2 100300000 m s->Nk C.N x->x.1=38->cD e.2.1->(G.eval_run_array s x.2.2.2.2.2 e).sat (cy C (m+100300000) s.2.2.2.2.2.2.1 s)
 object:∀ {m:Int}{s:RunT}{x:gJ}{e:mQ},Pre C n 2 100300000 m s->Nk C.N x->x.1=39->cD e.2.1->(G.eval_run_object s x.2.2.2.2.2 e).sat (cy C (m+100300000) s.2.2.2.2.2.2.1 s)
 operation:∀ {m:Int}{s:RunT}{k:Int}{x:gJ}{e:mQ},Pre C n 11 100300000 m s->0<=k->C.N[k.toNat]?=some x->(43<=x.1/\x.1<=53)->cD e.2.1->(G.eval_run_operation s k x e).sat (cy C (m+100300000) s.2.2.2.2.2.2.1 s)
 unary:∀ {m:Int}{s:RunT}{k:Int}{o:List UInt8}{e:mQ},Pre C n 2 0 m s->Nd C.N 3 k->cD e.2.1->(G.eval_run_unary s o k e).sat (cy C m s.2.2.2.2.2.2.1 s)
 step:∀ {m:Int}{s:RunT}{x:gJ}{e:mQ},Pre C n 3 100300000 m s->Nk C.N x->(x.1=44\/x.1=45)->cD e.2.1->(G.eval_run_step s x e).sat (cy C (m+100300000) s.2.2.2.2.2.2.1 s)
 binary:∀ {m:Int}{s:RunT}{x:gJ}{e:mQ},Pre C n 2 0 m s->Nk C.N x->x.1=46->cD e.2.1->(G.eval_run_binary s x e).sat (cy C m s.2.2.2.2.2.2.1 s)
 logic:∀ {m:Int}{s:RunT}{x:gJ}{e:mQ},Pre C n 2 0 m s->Nk C.N x->x.1=47->cD e.2.1->(G.eval_run_logic s x e).sat (cy C m s.2.2.2.2.2.2.1 s)
 assign:∀ {m:Int}{s:RunT}{x:gJ}{e:mQ},Pre C n 3 100300000 m s->Nk C.N x->x.1=49->cD e.2.1->(G.eval_run_assign s x e).sat (cy C (m+100300000) s.2.2.2.2.2.2.1 s)
 callee:∀ {m:Int}{s:RunT}{x:gJ}{e:mQ},Pre C n 10 100300000 m s->Nk C.N x->x.1=50->cD e.2.1->(G.eval_run_callee s x.2.2.2.2.2 e).sat (cy C (m+100300000) s.2.2.2.2.2.2.1 s)
 arguments:∀ {m:Int}{s:RunT}{l:List Int}{e:mQ},Pre C n 2 0 m s->l.length<=20000->(∀ k∈l,Nd C.N 3 k)->cD e.2.1->(G.eval_run_arguments s l e).sat (APst C m s.2.2.2.2.2.2.1 s)
 fresh:∀ {m:Int}{s:RunT}{f:eD}{l:List eD},Pre C n 9 100300000 m s->tE l->(G.eval_run_fresh s f l).sat (cy C (m+100300000) s.2.2.2.2.2.2.1 s)
 property:∀ {m:Int}{s:RunT}{k:Int}{e:mQ},Pre C n 3 0 m s->Nd C.N 4 k->cD e.2.1->(G.eval_run_property s k e).sat (cy C m s.2.2.2.2.2.2.1 s)
 parts:∀ {m:Int}{s:RunT}{k:Int}{e:mQ},Pre C n 2 0 m s->Nd C.N 4 k->cD e.2.1->(G.eval_run_parts s k e).sat (PPst C m s.2.2.2.2.2.2.1 s)
 called:∀ {m:Int}{s:RunT}{k:Int}{e:mQ},Pre C n 2 0 m s->Nd C.N 3 k->cD e.2.1->(G.eval_run_called s k e).sat (CPst C m s.2.2.2.2.2.2.1 s)
 call:∀ {m:Int}{s:RunT}{f t:eD}{l:List eD},Pre C n 8 100300000 m s->cD t->tE l->(G.eval_run_call s f t l).sat (cy C (m+100300000) s.2.2.2.2.2.2.1 s)
 callF:∀ {m:Int}{s:RunT}{f t:eD}{l:List eD},Pre C n 4 100300000 m s->f.1=6->FnC s f.2.2.2.2->cD t->tE l->(G.eval_run_call s f t l).sat (cy C (m+100300000) s.2.2.2.2.2.2.1 s)
 builds:∀ {m:Int}{s:RunT}{a:List UInt8}{l:List eD},Pre C n 8 100300000 m s->InN a->tE l->(G.eval_run_builds s a l).sat (cy C (m+100300000) s.2.2.2.2.2.2.1 s)
 apply:∀ {m:Int}{s:RunT}{i:Int}{t:eD}{l:List eD},Pre C n 3 100300000 m s->FnC s i->cD t->tE l->(G.eval_run_apply s i t l).sat (cy C (m+100300000) s.2.2.2.2.2.2.1 s)
 does:∀ {m:Int}{s:RunT}{a:List UInt8}{t:eD}{l:List eD},Pre C n 7 100300000 m s->InN a->cD t->tE l->(G.eval_run_does s a t l).sat (cy C (m+100300000) s.2.2.2.2.2.2.1 s)
 host:∀ {m:Int}{s:RunT}{a:List UInt8}{x:eD},Pre C n 6 100300000 m s->cD x->(G.eval_run_host s a x).sat (cy C (m+100300000) s.2.2.2.2.2.2.1 s)
 yn:∀ {m:Int}{s:RunT}{f:eD},Pre C n 5 100300000 m s->(G.eval_run_receives s f).sat (cy C (m+100300000) s.2.2.2.2.2.2.1 s)
section
variable {C:Cx}{n:Nat}{G:au}{m m' b k k' c c':Int}{s s' s1 s2:RunT}{how:Int}{β:Type}{Q:β->Prop}
theorem Pre.go (p:Pre C (n+1) k c m s) (a:Aft C m' b s s') (hk:k' < k) (hm:m'+c'<=500000000000):Pre C n k' c' m' s':=⟨a.run,by have h1:=p.fu;have h2:=a.dp;rw [h2];omega,hm⟩
theorem Pre.no (p:Pre C 0 k c m s) (hk:1<=k):False:=by
 have h1:=p.fu
 have h2:=p.run.dp
 omega
theorem Pre.deep (p:Pre C (n+1) k 0 m s) (h:iP C (m-134217728) s1) (e:Eq (α:=Int) (s1.2.2.2.2.2.1) ((HAdd.hAdd (α:=Int) (β:=Int) (γ:=Int) (s.2.2.2.2.2.1) (1)))) (hk:k'<=20) (h1:1<=k) (hc:c'<=134217728):Pre C n k' c' (m-134217728) s1:=⟨h,by have h1:=p.fu;rw [e];omega,by have:=p.hm;omega⟩
theorem xi (h:iP C m s) (e2:s1.2.2.2.2.1=s.2.2.2.2.1) (e3:Eq (α:=Int) (s1.2.2.2.2.2.1) ((HAdd.hAdd (α:=Int) (β:=Int) (γ:=Int) (s.2.2.2.2.2.1) (1)))) (e4:Eq (α:=Int) (s1.2.2.2.2.2.2.1) ((HAdd.hAdd (α:=Int) (β:=Int) (γ:=Int) (s.2.2.2.2.2.2.1) (1)))) (hD:C.D<=200) (g:Pst C m' s1.2.2.2.2.2.2.1 s1 how s2) (hm:m'<=m):Pst C m (HAdd.hAdd (α:=Int) (β:=Int) (γ:=Int) (s.2.2.2.2.2.2.1) (1)) s how (s2.1,(s2.2.1,(s2.2.2.1,(s2.2.2.2.1,(s2.2.2.2.2.1,(IntKind.wrap .i64 (HSub.hSub (α:=Int) (β:=Int) (γ:=Int) (s2.2.2.2.2.2.1) (1)),s2.2.2.2.2.2.2)))))):=by
 rcases g with ⟨h1,h2⟩|⟨h1,h2⟩
 ·exact .inl ⟨h1,h2.nd,h2.hs⟩
 ·have a:=h2.run
  have d1:=h.d0
  have d2:=h.dp
  have d3:Eq (α:=Int) (s2.2.2.2.2.2.1) (s1.2.2.2.2.2.1):=h2.dp
  have ew:IntKind.wrap .i64 (HSub.hSub (α:=Int) (β:=Int) (γ:=Int) (s2.2.2.2.2.2.1) (1))=s.2.2.2.2.2.1:=by rw [wrap64 (by omega)];omega
  have hb:=h2.bg
  refine .inr ⟨h1,⟨a.nd,a.lm,a.an,a.u0,a.us,?_,?_,?_,a.b0,a.bg,a.rq,a.en⟩,?_,?_,?_⟩
  ·obtain ⟨B,g1,g2⟩:=a.hp
   exact ⟨B,g1,Int.le_trans g2 hm⟩
  ·show LE.le (α:=Int) (0) (IntKind.wrap .i64 (HSub.hSub (α:=Int) (β:=Int) (γ:=Int) (s2.2.2.2.2.2.1) (1)))
   rw [ew]
   exact d1
  ·show LE.le (α:=Int) (IntKind.wrap .i64 (HSub.hSub (α:=Int) (β:=Int) (γ:=Int) (s2.2.2.2.2.2.1) (1))) (C.D)
   rw [ew]
   exact d2
  ·have:=h2.ext
   rw [e2] at this
   exact this
  ·exact ew
  ·show LE.le (α:=Int) ((HAdd.hAdd (α:=Int) (β:=Int) (γ:=Int) (s.2.2.2.2.2.2.1) (1))) (s2.2.2.2.2.2.2.1)
   rw [<- e4]
   exact hb
theorem tZ (hc:jx C) (p:Pre C (n+1) k 0 m s){f:Bool×RunT->Res β}(h1:∀ s1,B5 C s1->(f (false,s1)).sat Q) (h2:∀ s1,s1.2.2.2.2.1=s.2.2.2.2.1->Eq (α:=Int) (s1.2.2.2.2.2.1) ((HAdd.hAdd (α:=Int) (β:=Int) (γ:=Int) (s.2.2.2.2.2.1) (1)))->Eq (α:=Int) (s1.2.2.2.2.2.2.1) ((HAdd.hAdd (α:=Int) (β:=Int) (γ:=Int) (s.2.2.2.2.2.2.1) (1)))->iP C (m-134217728) s1->(f (true,s1)).sat Q):((R.bz s).bind f).sat Q:=by
 have hF:=hc.F
 have hD:=hc.D
 refine aB (DL p.run (by omega) (by omega)) fun r hr=>?_
 obtain ⟨y,s1⟩:=r
 rcases hr with ⟨e,g⟩|⟨e,g1,g2,g3,g4⟩
 ·have e:y=false:=e
  subst e
  exact h1 s1 g
 ·have e:y=true:=e
  subst e
  exact h2 s1 g1 g2 g3 g4
theorem fit3 {x:Int}(h:oG 3 x=true):30<=x/\x<=53/\x≠40:=by simpa [oG,vB] using h
theorem fit4 {x:Int}(h:oG 4 x=true):x=33\/x=52\/x=53:=by simpa [oG,yy] using h
theorem fit_4 {x:Int}(h:x=33\/x=52\/x=53):oG 4 x=true:=by simpa [oG,yy] using h
theorem fit_1 {x:Int}:oG 1 x=true:=rfl
theorem qm.nd {x:gJ}(h:qm C.N x){i:Nat}{k:Int}(hk:x.2.2.2.2.2[i]?=some k) (t:Int) (ht:srt (shp x.1 (x.2.2.2.2.2).length) i=t):Nd C.N t k:=by
 obtain ⟨k0,y,hy,hf,_⟩:=h.kid i k hk
 exact ⟨k0,y,hy,ht▸hf⟩
theorem qm.nd1 {x:gJ}(h:qm C.N x){i:Nat}{k:Int}(hk:x.2.2.2.2.2[i]?=some k):Nd C.N 1 k:=by
 obtain ⟨k0,y,hy,hf,_⟩:=h.kid i k hk
 exact ⟨k0,y,hy,fit_1⟩
end
end Go.Mach

set_option maxRecDepth 100000
namespace Go.Mach
open Res
instance B8 {k}:Safe (R.fP k):=by unfold R.fP;exact dw0
instance Bz {k}:Safe (R.dY k):=by unfold R.dY;exact dw0
section
variable {t:List gJ}{n:Int}{x:gJ}
theorem wN (hg:pL t){i:Nat}(hx:t[i]?=some x){j:Nat}{k:Int}(hk:x.2.2.2.2.2[j]?=some k):0<=k/\k.toNat < t.length:=by
 obtain ⟨k0,y,hy,_⟩:=(hg.nod _ x hx).kid j k hk
 exact ⟨k0,(List.getElem?_eq_some_iff.1 hy).1⟩
theorem xE (hg:pL t) (hf:rT t) (n0:0<=n) (hn:n.toNat < t.length):(R.gY t n).sat fun r=>r.length<=20000:=by
 unfold R.gY
 refine aA fun _=>bR n0 hn fun x hx _=>?_
 have hx:t[n.toNat]?=some x:=hx
 have hl:=hf.one _ x hx
 refine aB (iA (Q:=fun r:List (List UInt8)=>r.length<=20000) (fun y=>y.2) (x.2.2.2.2.2).length (by omega) (fun y=>y.1.length=y.2.toNat) (by simp) (by simp) (by simp) fun y y0 y1 yI=>?_) fun r hr=>aD hr
 obtain ⟨l,j⟩:=y
 have y0:0<=j:=y0
 have y1:j<=((x.2.2.2.2.2).length:Int):=y1
 have yI:l.length=j.toNat:=yI
 refine er (fun hj=>?_) fun _=>aD (by show l.length<=20000;omega)
 have hj:j < ((x.2.2.2.2.2).length:Int):=hj
 refine bn y0 (by show _ < (x.2.2.2.2.2).length;omega) fun k hk _=>?_
 obtain ⟨k0,kl⟩:=wN hg hx hk
 refine bR k0 kl fun z _ _=>bG (decide_eq_true ?_) (aD ⟨rfl,hj,?_⟩)
 ·show (l.length+1)*16<=2^47
  omega
 ·show (l++[_]).length=(IntKind.wrap .i64 (j+1)).toNat
  rw [wrap64 (by omega),List.length_append]
  simp
  omega
theorem rv (hg:pL t) (hf:rT t) (n0:0<=n) (hn:n.toNat < t.length):(R.eC t n).sat fun r=>r.length<=400000000:=by
 unfold R.eC
 refine aA fun _=>bR n0 hn fun x hx _=>?_
 have hx:t[n.toNat]?=some x:=hx
 have hl:=hf.one _ x hx
 have hgx:=hg.nod _ x hx
 refine aB (dw0:Safe _).ok fun _ _=>aI (fun _=>?_) fun _=>aB (R:=fun b=>b=true->x.1=10) (bI (fun h10=>?_) fun _=>aD fun e=>by cases e) fun b hb=>aI (fun e=>?_) fun _=>aB (dw0:Safe _).ok fun _ _=>aI (fun _=>aD (by simp)) fun _=>q_b fun _=>aI (fun _=>?_) fun _=>aD (by simp)
 ·refine aB (iA (Q:=fun r:List (List UInt8)=>r.length<=400000000) (fun y=>y.2) (x.2.2.2.2.2).length (by omega) (fun y=>y.1.length<=20000*y.2.toNat) (by simp) (by simp) (by simp) fun y y0 y1 yI=>?_) fun r hr=>aD hr
  obtain ⟨l,j⟩:=y
  have y0:0<=j:=y0
  have y1:j<=((x.2.2.2.2.2).length:Int):=y1
  have yI:l.length<=20000*j.toNat:=yI
  refine er (fun hj=>?_) fun _=>aD (by show l.length<=400000000;omega)
  have hj:j < ((x.2.2.2.2.2).length:Int):=hj
  have ew:(IntKind.wrap .i64 (j+1)).toNat=j.toNat+1:=by rw [wrap64 (by omega)];omega
  refine bn y0 (by show _ < (x.2.2.2.2.2).length;omega) fun k hk _=>?_
  obtain ⟨k0,kl⟩:=wN hg hx hk
  refine bR k0 kl fun z _ _=>q_b fun _=>aI (fun _=>aB (xE hg hf k0 kl) fun r hr=>aA fun _=>bG (decide_eq_true ?_) (aD ⟨rfl,hj,?_⟩)) fun _=>aI (fun _=>bG (decide_eq_true ?_) (aD ⟨rfl,hj,?_⟩)) fun _=>aD ⟨rfl,hj,?_⟩
  ·show (l.length+r.length)*16<=2^47
   omega
  ·show (l++r).length<=20000*(IntKind.wrap .i64 (j+1)).toNat
   rw [ew,List.length_append]
   omega
  ·show (l.length+1)*16<=2^47
   omega
  ·show (l++[_]).length<=20000*(IntKind.wrap .i64 (j+1)).toNat
   rw [ew,List.length_append]
   simp
   omega
  ·show l.length<=20000*(IntKind.wrap .i64 (j+1)).toNat
   rw [ew]
   omega
 ·have h10:x.1=10:=h10
  have h4:=hgx.len
  rw [h10] at h4
  have h4:4<=(x.2.2.2.2.2).length:=h4
  refine bn (by decide) (by show 0 < (x.2.2.2.2.2).length;omega) fun k hk _=>?_
  obtain ⟨k0,kl⟩:=wN hg hx hk
  exact bR k0 kl fun z _ _=>q_b fun _=>aD fun _=>h10
 ·have h4:=hgx.len
  rw [hb e] at h4
  have h4:4<=(x.2.2.2.2.2).length:=h4
  refine bn (by decide) (by show 0 < (x.2.2.2.2.2).length;omega) fun k hk _=>?_
  obtain ⟨k0,kl⟩:=wN hg hx hk
  exact aB (xE hg hf k0 kl) fun r hr=>aA fun _=>aD (by omega)
 ·refine aB (iA (Q:=fun r:List (List UInt8)=>r.length<=400000000) (fun y=>y.2) (x.2.2.2.2.2).length (by omega) (fun y=>y.1.length<=y.2.toNat) (by simp) (by simp) (by simp) fun y y0 y1 yI=>?_) fun r hr=>aD hr
  obtain ⟨l,j⟩:=y
  have y0:0<=j:=y0
  have y1:j<=((x.2.2.2.2.2).length:Int):=y1
  have yI:l.length<=j.toNat:=yI
  refine er (fun hj=>?_) fun _=>aD (by show l.length<=400000000;omega)
  have hj:j < ((x.2.2.2.2.2).length:Int):=hj
  have ew:(IntKind.wrap .i64 (j+1)).toNat=j.toNat+1:=by rw [wrap64 (by omega)];omega
  refine bn y0 (by show _ < (x.2.2.2.2.2).length;omega) fun k hk _=>?_
  obtain ⟨k0,kl⟩:=wN hg hx hk
  refine bR k0 kl fun z _ _=>aI (fun _=>bR k0 kl fun z' _ _=>bG (decide_eq_true ?_) (aD ⟨rfl,hj,?_⟩)) fun _=>aD ⟨rfl,hj,?_⟩
  ·show (l.length+1)*16<=2^47
   omega
  ·show (l++[_]).length<=(IntKind.wrap .i64 (j+1)).toNat
   rw [ew,List.length_append]
   simp
   omega
  ·show l.length<=(IntKind.wrap .i64 (j+1)).toNat
   rw [ew]
   omega
theorem yc (hg:pL t) (hf:rT t) (n0:0<=n) (hn:n.toNat < t.length):(R.eg t n).sat fun r=>r.length<=400000000:=by
 unfold R.eg
 exact aA fun _=>aB (rv hg hf n0 hn) fun r hr=>aA fun _=>aD hr
end
end Go.Mach

set_option maxRecDepth 100000
namespace Go.Mach
open Res
def yd (C:Cx) (m b:Int) (s:RunT){α:Type}(P:α->Prop):α ⊕ (RunT×sI)->Prop
 |.inl a=>P a
 |.inr z=>nU C m b s (z.2,z.1)
theorem Bm {C:Cx}{m b:Int}{s:RunT}{α:Type}{P:α->Prop}{x:α ⊕ (RunT×sI)}(hx:yd C m b s P x){f:α->Res (sI×RunT)}(hf:∀ a,P a->(f a).sat (nU C m b s)):(sum x f fun z=>Res.ok (z.2,z.1)).sat (nU C m b s):=by
 cases x with
 |inl a=>exact jf (hf a hx)
 |inr z=>exact jd (aD hx)
def zd (C:Cx) (m b:Int) (s:RunT) (r:RunT×sI):Prop:=nU C m b s (r.2,r.1)
theorem sum_d {C:Cx}{m b:Int}{s:RunT}{α γ:Type}{P:α->Prop}{x:α ⊕ (RunT×sI)}{Q:Step γ (RunT×sI)->Prop}(hx:yd C m b s P x){f:α->Res (Step γ (RunT×sI))}(hf:∀ a,P a->(f a).sat Q) (hd:∀ z,zd C m b s z->Q (.done z)):(sum x f fun z=>Res.ok (.done z)).sat Q:=by
 cases x with
 |inl a=>exact jf (hf a hx)
 |inr z=>exact jd (aD (hd z hx))
theorem sum_di {C:Cx}{m b:Int}{s:RunT}{α γ δ:Type}{P:α->Prop}{x:α ⊕ (RunT×sI)}{Q:Step γ (δ ⊕ (RunT×sI))->Prop}(hx:yd C m b s P x){f:α->Res (Step γ (δ ⊕ (RunT×sI)))}(hf:∀ a,P a->(f a).sat Q) (hd:∀ z,zd C m b s z->Q (.done (.inr z))):(sum x f fun z=>Res.ok (.done (.inr z))).sat Q:=by
 cases x with
 |inl a=>exact jf (hf a hx)
 |inr z=>exact jd (aD (hd z hx))
section
variable {β:Type}{Q:β->Prop}{C:Cx}{x:gJ}
theorem iR {t:Ty}{l:List t.den}{i:Int}{a:t.den}{f:t.den->Res β}(i0:0<=i) (h:l[i.toNat]?=some a) (hf:(f a).sat Q):(idx t l i f).sat Q:=bn i0 (List.getElem?_eq_some_iff.1 h).1 fun y hy _=>by
 have:some a=some y:=h.symm.trans hy
 cases this
 exact hf
theorem jK (h:qm C.N x) (i:Nat) (t:Int) (hi:i < (shp x.1 (x.2.2.2.2.2).length).1.length) (ht:srt (shp x.1 (x.2.2.2.2.2).length) i=t):∃ k,x.2.2.2.2.2[i]?=some k/\Nd C.N t k:=by
 have hl:=Nat.lt_of_lt_of_le hi h.len
 exact ⟨_,List.getElem?_eq_getElem hl,h.nd (List.getElem?_eq_getElem hl) t ht⟩
theorem Nd.any {t k:Int}(h:Nd C.N t k):Nd C.N 1 k:=by
 obtain ⟨k0,y,hy,_⟩:=h
 exact ⟨k0,y,hy,rfl⟩
theorem Bj {s:RunT}(hn:s.1=C.N){k:Int}{y:gJ}(k0:0<=k) (hy:C.N[k.toNat]?=some y){f:gJ->Res β}(hf:(f y).sat Q):(idx aE s.1 k f).sat Q:=by
 rw [hn]
 exact iR k0 hy hf
theorem Pst.nd {m b how:Int}{s s':RunT}(h:Pst C m b s how s'):s'.1=C.N:=by
 rcases h with ⟨_,h⟩|⟨_,h⟩
 ·exact h.nd
 ·exact h.run.nd
theorem CC {o:sI}{l:List (List UInt8)}(hv:cD o.2.2):(R.jF o l).sat fun r=>cD r.2.2.2/\(r.1=true->Ne (α:=Int) (o.1) (5))/\(r.1=false->Eq (α:=Int) (r.2.1) (o.1)\/(Ne (α:=Int) (o.1) (5)/\Ne (α:=Int) (r.2.1) (5))):=by
 unfold R.jF
 refine aA fun _=>bI (fun e=>aD ⟨hv,fun _=>?_,fun e=>by cases e⟩) fun _=>aB (R:=fun b=>b=true->o.1=1) (bI (fun e=>aD fun _=>e) fun _=>aD fun e=>by cases e) fun b hb=>aI (fun e=>aD ⟨bt,(fun e=>by cases e),fun _=>.inr ⟨?_,show (0:Int)≠5 by decide⟩⟩) fun _=>aB (R:=fun b=>b=true->o.1=2) (bI (fun e=>aI (fun _=>aD fun _=>e) fun _=>q_b fun _=>aD fun _=>e) fun _=>aD fun e=>by cases e) fun b hb=>aI (fun e=>aD ⟨bt,fun _=>?_,fun e=>by cases e⟩) fun _=>aD ⟨hv,(fun e=>by cases e),fun _=>.inl rfl⟩
 ·exact je e (by decide)
 ·exact je (hb e) (by decide)
 ·exact je (hb e) (by decide)
end
section
variable {C:Cx}{n:Nat}{G:au}{m k:Int}{s:RunT}{x:gJ}{e:mQ}{l:List (List UInt8)}{a:List UInt8}{v:eD}
theorem C6 (hc:jx C) (hG:GOk C n G) (p:Pre C (n+1) 2 0 m s) (hx:Nk C.N x) (he:cD e.2.1):(R.eval_run_list G s x.2.2.2.2.2 e).sat (nU C m s.2.2.2.2.2.2.1 s):=by
 unfold R.eval_run_list
 obtain ⟨i,hi⟩:=hx
 have hk:=hc.fw.one _ x hi
 have hg:=hc.tr.nod _ x hi
 have pm:=p.hm
 refine aA fun _=>aB (iA (Q:=yd C m s.2.2.2.2.2.2.1 s fun s'=>Aft C m s.2.2.2.2.2.2.1 s s') (fun y=>y.1) (x.2.2.2.2.2).length (by omega) (fun y=>Aft C m s.2.2.2.2.2.2.1 s y.2) (by simp) (by simp) (Aft.refl p.run) fun y y0 y1 yI=>?_) fun r hr=>Bm hr fun s' hs'=>aD ⟨bt,.ok hs'⟩
 obtain ⟨j,s1⟩:=y
 have y0:0<=j:=y0
 have yI:Aft C m s.2.2.2.2.2.2.1 s s1:=yI
 refine er (fun hj=>?_) fun _=>aD yI
 have hj:j < ((x.2.2.2.2.2).length:Int):=hj
 refine bn y0 (by show _ < (x.2.2.2.2.2).length;omega) fun k hk' _=>?_
 exact aB (hG.statement (l:=[]) (p.go yI (by decide) (by omega)) (hg.nd1 hk') he yI.run.d0) fun r hr=>aA fun _=>b9 (fun _=>aD ⟨hr.1,Pst.lO yI hr.2⟩) fun e=>aD ⟨rfl,hj,(Pst.lO yI hr.2).a0 e⟩
theorem vn (hc:jx C) (hG:GOk C n G) (p:Pre C (n+1) 1 0 m s) (hn:Nd C.N 1 k) (he:cD e.2.1) (hl:LE.le (α:=Int) ((l.length:Int)) (s.2.2.2.2.2.1)):(R.eval_run_statement G s k e l).sat (nU C m (HAdd.hAdd (α:=Int) (β:=Int) (γ:=Int) (s.2.2.2.2.2.2.1) (1)) s):=by
 unfold R.eval_run_statement
 refine aA fun _=>tZ hc p (fun s1 h1=>aA fun _=>gn rfl (aD ⟨bt,.inl ⟨rfl,h1⟩⟩)) fun s1 e2 e3 e4 h=>aA fun _=>hJ rfl ?_
 have p1:Pre C n 4 100300000 (m-134217728) s1:=p.deep h e3 (by decide) (by decide) (by decide)
 exact aB (hG.act p1 hn he (by rw [e3];omega)) fun r ⟨v,g⟩=>aA fun _=>aD ⟨v,xi p.run e2 e3 e4 hc.D g (by omega)⟩
theorem BP (hc:jx C) (hG:GOk C n G) (p:Pre C (n+1) 2 0 m s) (hn:Nd C.N 3 k) (he:cD e.2.1):(R.eval_run_asked G s k e).sat (BPst C m (HAdd.hAdd (α:=Int) (β:=Int) (γ:=Int) (s.2.2.2.2.2.2.1) (1)) s):=by
 unfold R.eval_run_asked
 have pm:=p.hm
 exact aA fun _=>aB (hG.iV (p.go (.refl p.run) (by decide) (by omega)) hn he) fun r ⟨v,g⟩=>aA fun _=>b9 (fun _=>aD ⟨v,g⟩) fun e=>q_b fun _=>aD ⟨bt,.ok (g.a0 e)⟩
theorem Al (hc:jx C) (hG:GOk C n G) (p:Pre C (n+1) 2 0 m s) (hx:Nk C.N x) (hk:x.1=5\/x.1=6) (he:cD e.2.1):(R.eval_run_decls G s x.2.2.2.2.2 e).sat (nU C m s.2.2.2.2.2.2.1 s):=by
 unfold R.eval_run_decls
 obtain ⟨i,hi⟩:=hx
 have hl:=hc.fw.one _ x hi
 have hg:=hc.tr.nod _ x hi
 have pm:=p.hm
 refine aA fun _=>aB (iA (Q:=yd C m s.2.2.2.2.2.2.1 s fun s'=>Aft C m s.2.2.2.2.2.2.1 s s') (fun y=>y.1) (x.2.2.2.2.2).length (by omega) (fun y=>Aft C m s.2.2.2.2.2.2.1 s y.2) (by simp) (by simp) (Aft.refl p.run) fun y y0 y1 yI=>?_) fun r hr=>Bm hr fun s' hs'=>aD ⟨bt,.ok hs'⟩
 obtain ⟨j,s1⟩:=y
 have y0:0<=j:=y0
 have yI:Aft C m s.2.2.2.2.2.2.1 s s1:=yI
 refine er (fun hj=>?_) fun _=>aD yI
 have hj:j < ((x.2.2.2.2.2).length:Int):=hj
 refine bn y0 (by show _ < (x.2.2.2.2.2).length;omega) fun d hd _=>?_
 have hsrt:srt (shp x.1 (x.2.2.2.2.2).length) j.toNat=5:=by
  rcases hk with e|e<;>rw [e]<;>unfold srt shp<;>(cases j.toNat<;>rfl)
 obtain ⟨d0,z,hz,hf⟩:=hg.nd hd 5 hsrt
 have hz7:z.1=7:=eq_of_beq hf
 have hgz:=hc.tr.nod _ z hz
 refine j5 yI.run d0 hz (aB (R:=yd C m s.2.2.2.2.2.2.1 s fun r=>Aft C m s.2.2.2.2.2.2.1 s r.1/\cD r.2) (er (fun h0=>?_) fun _=>aD ⟨yI,bt⟩) fun r hr=>?_)
 ·have h0:0 < ((z.2.2.2.2.2).length:Int):=h0
  refine bn (by decide) (by show 0 < (z.2.2.2.2.2).length;omega) fun q hq _=>?_
  have hq:z.2.2.2.2.2[0]?=some q:=hq
  have hsz:srt (shp z.1 (z.2.2.2.2.2).length) 0=3:=by
   rw [hz7]
   unfold srt shp
   rw [show (min ((z.2.2.2.2.2).length:Int) 1).toNat=1 by omega]
   rfl
  exact aB (hG.iV (p.go yI (by decide) (by omega)) (hgz.nd hq 3 hsz) he) fun r ⟨v,g⟩=>aA fun _=>b9 (fun _=>aD ⟨v,Pst.lO yI g⟩) fun e=>aD ⟨(Pst.lO yI g).a0 e,v⟩
 ·refine sum_di hr (fun r ⟨a1,v1⟩=>aB (vq a1.run (by omega) v1) fun r2 a2=>aA fun _=>aD ⟨rfl,hj,a1.cat a2⟩) fun z hz=>hz
theorem zB (hc:jx C) (hG:GOk C n G) (p:Pre C (n+1) 3 0 m s) (hx:Nk C.N x) (hk:x.1=8) (he:cD e.2.1):(R.eval_run_choice G s x.2.2.2.2.2 e).sat (nU C m s.2.2.2.2.2.2.1 s):=by
 unfold R.eval_run_choice
 obtain ⟨i,hi⟩:=hx
 have hg:=hc.tr.nod _ x hi
 have pm:=p.hm
 have hlen:∀ q:Int,(List.take (min (max q 2) 3).toNat [(3:Int),2,2]).length>=2:=fun q=>by simp;omega
 have h2:2<=(x.2.2.2.2.2).length:=by
  have:=hg.len
  rw [hk] at this
  exact Nat.le_trans (hlen _) this
 have a0:=Aft.refl p.run
 have hs0:srt (shp x.1 (x.2.2.2.2.2).length) 0=3:=by
  rw [hk]
  show (List.take (min (max ((x.2.2.2.2.2).length:Int) 2) 3).toNat [(3:Int),2,2]).getD 0 0=3
  obtain ⟨q,hq⟩:∃ q,(min (max ((x.2.2.2.2.2).length:Int) 2) 3).toNat=q+1:=⟨(min (max ((x.2.2.2.2.2).length:Int) 2) 3).toNat-1,by omega⟩
  rw [hq]
  rfl
 refine aA fun _=>bn (by decide) (by show 0 < (x.2.2.2.2.2).length;omega) fun k0 hk0 _=>aB (hG.asked (p.go a0 (by decide) (by omega)) (hg.nd hk0 3 hs0) he) fun r ⟨v,g⟩=>aA fun _=>b9 (fun _=>aD ⟨v,Pst.lO a0 g⟩) fun e0=>?_
 have a1:=(Pst.lO a0 g).a0 e0
 have st:∀ {k:Int},Nd C.N 1 k->(G.eval_run_statement r.2 k e []).sat (nU C m s.2.2.2.2.2.2.1 s):=fun hn=>bH (hG.statement (l:=[]) (p.go a1 (by decide) (by omega)) hn he a1.run.d0) fun _ hr=>⟨hr.1,Pst.lO a1 hr.2⟩
 refine aI (fun _=>bn (by decide) (by show 1 < (x.2.2.2.2.2).length;omega) fun k1 hk1 _=>ae (st (hg.nd1 hk1))) fun _=>er (fun h=>bn (by decide) (by have h:2 < ((x.2.2.2.2.2).length:Int):=h;show 2 < (x.2.2.2.2.2).length;omega) fun k1 hk1 _=>ae (st (hg.nd1 hk1))) fun _=>aD ⟨bt,.ok a1⟩
theorem Ae (hc:jx C) (hG:GOk C n G) (p:Pre C (n+1) 3 0 m s) (hx:Nk C.N x) (hk:x.1=9) (he:cD e.2.1):(R.eval_run_while G s x.2.2.2.2.2 e l).sat (nU C m s.2.2.2.2.2.2.1 s):=by
 unfold R.eval_run_while
 obtain ⟨i,hi⟩:=hx
 have hg:=hc.tr.nod _ x hi
 have pm:=p.hm
 have hF:=hc.F
 have hb0:=p.run.b0
 obtain ⟨k0,hk0,n0⟩:=jK hg 0 3 (by rw [hk];simp [shp]) (by rw [hk];rfl)
 obtain ⟨k1,hk1,n1⟩:=jK hg 1 2 (by rw [hk];simp [shp]) (by rw [hk];rfl)
 refine aA fun _=>aB (kn (Q:=zd C m s.2.2.2.2.2.2.1 s) (fun y=>((HSub.hSub (α:=Int) (β:=Int) (γ:=Int) (C.F) (y.2.2.2.2.2.2.1))).toNat) (by show ((HSub.hSub (α:=Int) (β:=Int) (γ:=Int) (C.F) (s.2.2.2.2.2.2.1))).toNat<=_;omega) (fun y=>Aft C m s.2.2.2.2.2.2.1 s y) (Aft.refl p.run) fun s1 yI=>?_) fun r hr=>aD hr
 refine iR (by decide) hk0 (aB (hG.asked (p.go yI (by decide) (by omega)) n0 he) fun r1 ⟨v1,g1⟩=>aA fun _=>aB (R:=fun b=>b=false->Eq (α:=Int) (r1.1.2.1) (0)) (b9 (fun _=>aD fun e=>by cases e) fun e=>aD fun _=>e) fun b hb=>aI (fun _=>aD ⟨v1,Pst.lO yI g1⟩) fun eb=>?_)
 have a1:=(Pst.lO yI g1).a0 (hb eb)
 have hlt:LE.le (α:=Int) ((HAdd.hAdd (α:=Int) (β:=Int) (γ:=Int) (s1.2.2.2.2.2.2.1) (1))) (r1.2.2.2.2.2.2.2.1):=(g1.a0 (hb eb)).bg
 refine iR (by decide) hk1 (aB (hG.statement (l:=[]) (p.go a1 (by decide) (by omega)) n1.any he a1.run.d0) fun r2 ⟨v2,g2⟩=>aA fun _=>aB (CC v2) fun r3 ⟨v3,t1,t2⟩=>aA fun _=>aI (fun e3=>aD ?_) fun e3=>aD ⟨v3,?_⟩)
 ·have a2:=(Pst.lO a1 g2).aft (t1 e3)
  have h2:LE.le (α:=Int) ((HAdd.hAdd (α:=Int) (β:=Int) (γ:=Int) (r1.2.2.2.2.2.2.2.1) (1))) (r2.2.2.2.2.2.2.2.1):=(g2.aft (t1 e3)).bg
  have h3:=a2.run.bg
  have h0:=yI.run.b0
  refine ⟨?_,a2⟩
  show ((HSub.hSub (α:=Int) (β:=Int) (γ:=Int) (C.F) (r2.2.2.2.2.2.2.2.1))).toNat < ((HSub.hSub (α:=Int) (β:=Int) (γ:=Int) (C.F) (s1.2.2.2.2.2.2.1))).toNat
  omega
 ·rcases t2 e3 with e4|⟨e4,e5⟩
  ·show Pst C m s.2.2.2.2.2.2.1 s r3.2.1 r2.2
   rw [show r3.2.1=r2.1.1 from e4]
   exact Pst.lO a1 g2
  ·exact (Pst.lO a1 g2).how e4 e5
theorem Am (hc:jx C) (hG:GOk C n G) (p:Pre C (n+1) 2 100300000 m s) (hn:Nd C.N 1 k) (hv:cD v) (he:cD e.2.1):(R.eval_run_catch G s a k v e).sat (nU C (m+10) s.2.2.2.2.2.2.1 s):=by
 unfold R.eval_run_catch
 have pm:=p.hm
 have a0:=Aft.refl p.run
 refine aA fun _=>dx (aI (fun _=>ae (bH (hG.statement (l:=[]) (p.go a0 (by decide) (by omega)) hn he a0.run.d0) fun _ hr=>⟨hr.1,(Pst.lO a0 hr.2).up (by omega)⟩)) fun _=>aB (p8 p.run (by omega)) fun r1 ⟨g1,_⟩=>aA fun _=>b9 (fun _=>aD ⟨bt,g1.up (by omega)⟩) fun e1=>?_)
 have a1:=g1.a0 e1
 refine aB (px a1.run (by omega) hv) fun r2 a2=>aA fun _=>?_
 have a3:=a1.cat a2
 exact ae (bH (hG.statement (l:=[]) (p.go a3 (by decide) (by omega)) hn he a3.run.d0) fun _ hr=>⟨hr.1,(Pst.lO a3 hr.2).up (by omega)⟩)
theorem FA (hc:jx C) (hG:GOk C n G) (p:Pre C (n+1) 3 100300000 m s) (hx:Nk C.N x) (hk:x.1=16) (he:cD e.2.1):(R.eval_run_try G s x.2.2.2.2.2 e).sat (nU C (m+100300000) s.2.2.2.2.2.2.1 s):=by
 unfold R.eval_run_try
 obtain ⟨i,hi⟩:=hx
 have hg:=hc.tr.nod _ x hi
 have pm:=p.hm
 have a0:=Aft.refl p.run
 obtain ⟨k0,hk0,n0⟩:=jK hg 0 8 (by rw [hk];simp [shp]) (by rw [hk];rfl)
 obtain ⟨k1,hk1,n1⟩:=jK hg 1 11 (by rw [hk];simp [shp]) (by rw [hk];rfl)
 obtain ⟨k2,hk2,n2⟩:=jK hg 2 12 (by rw [hk];simp [shp]) (by rw [hk];rfl)
 have n1':=n1
 have n2':=n2
 obtain ⟨k10,y1,hy1,_⟩:=n1'
 obtain ⟨k20,y2,hy2,_⟩:=n2'
 refine aA fun _=>iR (by decide) hk0 (aB (hG.statement (l:=[]) (p.go a0 (by decide) (by omega)) n0.any he a0.run.d0) fun r1 ⟨v1,g1⟩=>aA fun _=>?_)
 have g1:=Pst.lO a0 g1
 refine aB (R:=zd C (m+10) s.2.2.2.2.2.2.1 s) (iR (by decide) hk1 (Bj g1.nd k10 hy1 (aB (R:=fun b=>b=true->Eq (α:=Int) (r1.1.1) (4)/\y1.1=17) (bI (fun e=>aD fun e'=>⟨e,eq_of_beq e'⟩) fun _=>aD fun e=>by cases e) fun b hb=>aI (fun eb=>?_) fun _=>aD ⟨v1,g1.up (by omega)⟩))) fun r2 hr2=>?_
 ·obtain ⟨e1,e2⟩:=hb eb
  have a1:=g1.aft (je e1 (by decide))
  have hgy:=hc.tr.nod _ y1 hy1
  obtain ⟨q,hq,nq⟩:=jK hgy 0 8 (by rw [e2];simp [shp]) (by rw [e2];rfl)
  exact iR (by decide) hq (aB (hG.Dz (p.go a1 (by decide) (by omega)) nq.any v1 he) fun r ⟨v,g⟩=>aA fun _=>aD ⟨v,Pst.cat a1 g⟩)
 ·obtain ⟨s2,o⟩:=r2
  obtain ⟨v2,g2⟩:=hr2
  have v2:cD o.2.2:=v2
  have g2:Pst C (m+10) s.2.2.2.2.2.2.1 s o.1 s2:=g2
  refine aB (R:=fun b=>b=false->Ne (α:=Int) (o.1) (5)) (bI (fun _=>aD fun e=>by cases e) fun h5=>iR (by decide) hk2 (Bj g2.nd k20 hy2 (aD fun _=>h5))) fun b hb=>aI (fun _=>aD ⟨v2,g2.up (by omega)⟩) fun eb=>?_
  have a2:=g2.aft (hb eb)
  exact iR (by decide) hk2 (aB (hG.statement (l:=[]) (p.go a2 (by decide) (by omega)) n2.any he a2.run.d0) fun r3 ⟨v3,g3⟩=>aA fun _=>b9 (fun _=>aD ⟨v3,(Pst.lO a2 g3).up (by omega)⟩) fun e3=>aD ⟨v2,.inr ⟨hb eb,((Pst.lO a2 g3).a0 e3).up (by omega)⟩⟩)
end
end Go.Mach

set_option maxRecDepth 100000
namespace Go.Mach
open Res
abbrev oU (s:RunT) (H:qi):RunT:=(s.1,(s.2.1,(s.2.2.1,(s.2.2.2.1,(H,s.2.2.2.2.2)))))
theorem fit10 {k:Int}(h:oG 10 k=true) (h1:k≠11) (h2:¬ (k=5\/k=6)):oG 3 k=true:=by
 have h3:k≠5:=fun e=>h2 (.inl e)
 have h4:k≠6:=fun e=>h2 (.inr e)
 simpa [oG,h1,h3,h4] using h
theorem fit9 {k:Int}(h:oG 9 k=true) (h1:k≠11):oG 3 k=true:=by simpa [oG,h1] using h
theorem CV {kd how:Int}{v:eD}:(R.ej kd v how).sat fun r=>r.2.2=v/\(how≠0->Eq (α:=Int) (r.1) (how))/\(how=0->Eq (α:=Int) (r.1) (kd)):=by
 unfold R.ej
 exact aA fun _=>b9 (fun h=>aD ⟨rfl,fun _=>rfl,fun e=>absurd e h⟩) fun h=>aD ⟨rfl,fun e=>absurd h e,fun _=>rfl⟩
theorem take1 {l:List Int}{i:Nat}{q:Int}(h:l[i]?=some q) (h0:i=0):(List.take (min (l.length:Int) 1).toNat [(3:Int)]).getD 0 0=3:=by
 have:=(List.getElem?_eq_some_iff.1 h).1
 rw [show (min (l.length:Int) 1).toNat=1 by omega]
 rfl
section
variable {C:Cx}{n:Nat}{G:au}{m k:Int}{s:RunT}{x:gJ}{e:mQ}{l:List (List UInt8)}{a:List UInt8}{v:eD}
theorem yU {kd:Int}(hk:kd≠5){b:Int}{r:(eD×Int)×RunT}(h:cy C m b s r):(R.ej kd r.1.1 r.1.2).sat fun o=>nU C m b s (o,r.2):=bH CV fun o ⟨h1,h2,h3⟩=>by
 refine ⟨?_,?_⟩
 ·show cD o.2.2
  rw [h1]
  exact h.1
 ·show Pst C m b s o.1 r.2
  by_cases e:r.1.2=0
  ·rw [show o.1=kd from h3 e]
   exact .inr ⟨hk,h.2.a0 e⟩
  ·rw [show o.1=r.1.2 from h2 e]
   exact h.2
theorem A1 (hc:jx C) (hG:GOk C n G) (p:Pre C (n+1) 3 100300000 m s) (k0:0<=k) (hx:C.N[k.toNat]?=some x) (hk:x.1=4) (he:cD e.2.1):(R.eval_run_block G s k e).sat (nU C (m+100300000) s.2.2.2.2.2.2.1 s):=by
 unfold R.eval_run_block
 have pm:=p.hm
 have a0:=Aft.refl p.run
 have hn:s.1=C.N:=p.run.nd
 have hd:(R.eg s.1 k).sat fun _=>True:=by
  rw [hn]
  exact bH (yc hc.tr hc.fw k0 (List.getElem?_eq_some_iff.1 hx).1) fun _ _=>trivial
 refine aA fun _=>aB (R:=yd C (m+100300000) s.2.2.2.2.2.2.1 s fun r:RunT×mQ=>Aft C (m+100300000) s.2.2.2.2.2.2.1 s r.1/\cD r.2.2.1) ?_ fun r hr=>Bm hr fun r ⟨a1,v1⟩=>j5 a1.run k0 hx (ae (bH (hG.list (p.go a1 (by decide) (by omega)) ⟨_,hx⟩ v1) fun _ hr=>⟨hr.1,Pst.cat a1 hr.2⟩))
 refine aB hd fun _ _=>aA fun _=>er (fun _=>aB (p8 p.run (by omega)) fun r1 ⟨g1,_⟩=>aA fun _=>b9 (fun _=>aD ⟨bt,g1.up (by omega)⟩) fun e1=>?_) fun _=>aD ⟨a0.up (by omega),he⟩
 have a1:=g1.a0 e1
 exact aB (rS hc a1.run (by omega) k0 hx he) fun r2 ⟨v2,g2⟩=>aA fun _=>b9 (fun _=>aD ⟨v2,(Pst.cat a1 g2).up (by omega)⟩) fun e2=>aD ⟨((Pst.cat a1 g2).a0 e2).up (by omega),he⟩
theorem An (hc:jx C) (hG:GOk C n G) (p:Pre C (n+1) 2 100300000 m s) (hn:Nd C.N 10 k) (he:cD e.2.1):(R.eval_run_first G s k e).sat (FPst C (m+100000) s.2.2.2.2.2.2.1 s):=by
 unfold R.eval_run_first
 have pm:=p.hm
 have a0:=Aft.refl p.run
 have hn':=hn
 obtain ⟨k0,x,hx,hf⟩:=hn'
 have hl:=hc.fw.one _ x hx
 have hg:=hc.tr.nod _ x hx
 refine aA fun _=>j5 p.run k0 hx (bI (fun _=>aD ⟨he,bt,(Pst.ok a0).up (by omega)⟩) fun h11=>nv (fun h56=>aB (p8 p.run (by omega)) fun r1 ⟨g1,_⟩=>aA fun _=>b9 (fun _=>aD ⟨he,bt,g1.up (by omega)⟩) fun e1=>?_) fun h56=>?_)
 ·have a1:=g1.a0 e1
  refine aB (iA (Q:=fun H:qi=>Aft C (m+20000) s.2.2.2.2.2.2.1 s (oU r1.2 H)) (fun y=>y.1) (x.2.2.2.2.2).length (by omega) (fun w=>Aft C (m+w.1) s.2.2.2.2.2.2.1 s (oU r1.2 w.2)) (by simp) (by simp) (by show Aft C (m+0) _ _ (oU r1.2 r1.2.2.2.2.2.1);rw [Int.add_zero];exact a1) fun w w0 w1 wI=>?_) fun H hH=>?_
  ·obtain ⟨j,H⟩:=w
   have w0:0<=j:=w0
   have w1:j<=((x.2.2.2.2.2).length:Int):=w1
   have wI:Aft C (m+j) s.2.2.2.2.2.2.1 s (oU r1.2 H):=wI
   refine er (fun hj=>?_) fun _=>aD (wI.up (by omega))
   have hj:j < ((x.2.2.2.2.2).length:Int):=hj
   refine bn w0 (by show _ < (x.2.2.2.2.2).length;omega) fun q hq _=>?_
   obtain ⟨q0,z,hz,_⟩:=hg.kid _ q hq
   refine j5 a1.run q0 hz (aB (px wI.run (by omega) bt) fun r hr=>aA fun _=>aD ⟨rfl,hj,?_⟩)
   show Aft C (m+IntKind.wrap .i64 (j+1)) _ _ _
   rw [wrap64 (n:=j+1) (by omega),<- Int.add_assoc]
   exact wI.cat hr
  ·exact aB (hG.statement (l:=[]) (p.go hH (by decide) (by omega)) hn.any he hH.run.d0) fun r ⟨v,g⟩=>aA fun _=>aD ⟨he,v,(Pst.lO hH g).up (by omega)⟩
 ·exact aB (hG.iV (p.go a0 (by decide) (by omega)) ⟨k0,x,hx,fit10 hf h11 h56⟩ he) fun r ⟨v,g⟩=>aA fun _=>aB (yU (kd:=0) (by decide) (r:=r) ⟨v,(Pst.lO a0 g).up (m':=m+100000) (by omega)⟩) fun o ho=>aA fun _=>aD ⟨he,ho.1,ho.2⟩
theorem Dc (hc:jx C) (hG:GOk C n G) (p:Pre C (n+1) 3 100300000 m s) (hx:Nk C.N x) (hk:x.1=10) (he:cD e.2.1):(R.eval_run_loop G s x.2.2.2.2.2 e l).sat (nU C (m+100300000) s.2.2.2.2.2.2.1 s):=by
 unfold R.eval_run_loop
 obtain ⟨i,hi⟩:=hx
 have hg:=hc.tr.nod _ x hi
 have pm:=p.hm
 have hF:=hc.F
 have a0:=Aft.refl p.run
 obtain ⟨k0,hk0,n0⟩:=jK hg 0 10 (by rw [hk];simp [shp]) (by rw [hk];rfl)
 obtain ⟨k1,hk1,n1⟩:=jK hg 1 9 (by rw [hk];simp [shp]) (by rw [hk];rfl)
 obtain ⟨k2,hk2,n2⟩:=jK hg 2 9 (by rw [hk];simp [shp]) (by rw [hk];rfl)
 obtain ⟨k3,hk3,n3⟩:=jK hg 3 2 (by rw [hk];simp [shp]) (by rw [hk];rfl)
 have n0':=n0
 have n1':=n1
 have n2':=n2
 obtain ⟨k00,y0,hy0,_⟩:=n0'
 obtain ⟨k10,y1,hy1,f1⟩:=n1'
 obtain ⟨k20,y2,hy2,f2⟩:=n2'
 have turn:∀ {s1:RunT}{e1:mQ}{c:Bool},Aft C (m+100000) s.2.2.2.2.2.2.1 s s1->cD e1.2.1->(br c ((R.dt s1 e1).bind fun r=>given (dt.g.o r) (br (!(r.1.2 == 0)) (Res.ok (.inr (r.2,(r.1.2,(([]:List UInt8),(0,((0,0),((false,([]:List Int)),(([]:List Int),0)))))))):Res ((RunT×mQ) ⊕ (RunT×sI))) (Res.ok (.inl (r.2,r.1.1))))) (Res.ok (.inl (s1,e1)))).sat (yd C (m+100000) s.2.2.2.2.2.2.1 s fun r:RunT×mQ=>Aft C (m+100000) s.2.2.2.2.2.2.1 s r.1/\LE.le (α:=Int) (s1.2.2.2.2.2.2.1) (r.1.2.2.2.2.2.2.1)/\cD r.2.2.1):=fun {s1 e1 c} a1 v1=>aI (fun _=>aB (Gk a1.run (by omega)) fun r ⟨t1,t2,_⟩=>aA fun _=>b9 (fun _=>aD ⟨bt,Pst.cat a1 t2⟩) fun e2=>aD ⟨(Pst.cat a1 t2).a0 e2,(t2.a0 e2).bg,by show cD r.1.1.2.1;rw [t1];exact v1⟩) fun _=>aD ⟨a1,Int.le_refl _,v1⟩
 refine aA fun _=>iR (by decide) hk0 (aB (hG.first (p.go a0 (by decide) (by omega)) n0 he) fun r1 ⟨v1,v2,g1⟩=>aA fun _=>b9 (fun _=>aD ⟨v2,g1.up (by omega)⟩) fun e1=>?_)
 have a1:=g1.a0 e1
 refine iR (by decide) hk0 (j5 a1.run k00 hy0 (aB (turn a1 v1) fun r hr=>Bm (m:=m+100300000) (P:=fun r:RunT×mQ=>Aft C (m+100000) s.2.2.2.2.2.2.1 s r.1/\cD r.2.2.1) ?_ fun r ⟨a2,v3⟩=>?_))
 ·cases r with
  |inl r=>exact ⟨hr.1,hr.2.2⟩
  |inr z=>exact ⟨hr.1,hr.2.up (by omega)⟩
 refine aB (kn (Q:=zd C (m+100300000) s.2.2.2.2.2.2.1 s) (fun y=>((HSub.hSub (α:=Int) (β:=Int) (γ:=Int) (C.F) (y.1.2.2.2.2.2.2.1))).toNat) (by have:=a2.run.b0;show ((HSub.hSub (α:=Int) (β:=Int) (γ:=Int) (C.F) (r.1.2.2.2.2.2.2.1))).toNat<=_;omega) (fun y=>Aft C (m+100000) s.2.2.2.2.2.2.1 s y.1/\cD y.2.2.1) ⟨a2,v3⟩ fun y ⟨yI,yv⟩=>?_) fun r hr=>aD hr
 obtain ⟨s1,e1⟩:=y
 have yI:Aft C (m+100000) s.2.2.2.2.2.2.1 s s1:=yI
 have yv:cD e1.2.1:=yv
 refine aB (R:=yd C (m+100000) s.2.2.2.2.2.2.1 s fun s2:RunT=>Aft C (m+100000) s.2.2.2.2.2.2.1 s s2/\LE.le (α:=Int) (s1.2.2.2.2.2.2.1) (s2.2.2.2.2.2.2.1)) (iR (by decide) hk1 (j5 yI.run k10 hy1 (oi (fun h11=>iR (by decide) hk1 (aB (hG.asked (p.go yI (by decide) (by omega)) ⟨k10,y1,hy1,fit9 f1 h11⟩ yv) fun r1 ⟨v1,g1⟩=>aA fun _=>aB (R:=fun b=>b=false->Eq (α:=Int) (r1.1.2.1) (0)) (b9 (fun _=>aD fun e=>by cases e) fun e=>aD fun _=>e) fun b hb=>aI (fun _=>aD ⟨v1,Pst.lO yI g1⟩) fun eb=>aD ⟨(Pst.lO yI g1).a0 (hb eb),?_⟩)) fun _=>aD ⟨yI,Int.le_refl _⟩))) fun r hr=>sum_d hr (fun s2 ⟨a3,b3⟩=>?_) fun z hz=>⟨hz.1,hz.2.up (by omega)⟩
 ·have h:LE.le (α:=Int) ((HAdd.hAdd (α:=Int) (β:=Int) (γ:=Int) (s1.2.2.2.2.2.2.1) (1))) (r1.2.2.2.2.2.2.2.1):=(g1.a0 (hb eb)).bg
  show LE.le (α:=Int) (s1.2.2.2.2.2.2.1) (r1.2.2.2.2.2.2.2.1)
  omega
 refine iR (by decide) hk3 (aB (hG.statement (l:=[]) (p.go a3 (by decide) (by omega)) n3.any yv a3.run.d0) fun r2 ⟨v2,g2⟩=>aA fun _=>aB (CC v2) fun r3 ⟨v3,t1,t2⟩=>aA fun _=>dx (aI (fun e3=>?_) fun e3=>aD ⟨v3,?_⟩))
 ·have g3:=g2.aft (t1 e3)
  have a4:=(Pst.lO a3 g2).aft (t1 e3)
  have b4:LE.le (α:=Int) ((HAdd.hAdd (α:=Int) (β:=Int) (γ:=Int) (s2.2.2.2.2.2.2.1) (1))) (r2.2.2.2.2.2.2.2.1):=g3.bg
  have fin:∀ {s5:RunT},Aft C (m+100000) s.2.2.2.2.2.2.1 s s5->LE.le (α:=Int) (r2.2.2.2.2.2.2.2.1) (s5.2.2.2.2.2.2.1)->((HSub.hSub (α:=Int) (β:=Int) (γ:=Int) (C.F) (s5.2.2.2.2.2.2.1))).toNat < ((HSub.hSub (α:=Int) (β:=Int) (γ:=Int) (C.F) (s1.2.2.2.2.2.2.1))).toNat:=fun {s5} a5 h=>by
   have h1:=a5.run.bg
   omega
  refine aB (turn a4 yv) fun r hr=>sum_d hr (fun r ⟨a5,b5,v5⟩=>?_) fun z hz=>⟨hz.1,hz.2.up (by omega)⟩
  obtain ⟨s5,e5⟩:=r
  have a5:Aft C (m+100000) s.2.2.2.2.2.2.1 s s5:=a5
  have b5:LE.le (α:=Int) (r2.2.2.2.2.2.2.2.1) (s5.2.2.2.2.2.2.1):=b5
  have v5:cD e5.2.1:=v5
  refine iR (by decide) hk2 (j5 a5.run k20 hy2 (bI (fun _=>aD ⟨fin a5 b5,a5,v5⟩) fun h11=>iR (by decide) hk2 (aB (hG.iV (p.go a5 (by decide) (by omega)) ⟨k20,y2,hy2,fit9 f2 h11⟩ v5) fun r6 ⟨v6,g6⟩=>aA fun _=>b9 (fun _=>aD ⟨v6,(Pst.lO a5 g6).up (by omega)⟩) fun e6=>aD ⟨fin ((Pst.lO a5 g6).a0 e6) ?_,(Pst.lO a5 g6).a0 e6,v5⟩)))
  have h6:=(g6.a0 e6).bg
  show LE.le (α:=Int) (r2.2.2.2.2.2.2.2.1) (r6.2.2.2.2.2.2.2.1)
  omega
 ·rcases t2 e3 with e4|⟨e4,e5⟩
  ·show Pst C (m+100300000) s.2.2.2.2.2.2.1 s r3.2.1 r2.2
   rw [show r3.2.1=r2.1.1 from e4]
   exact (Pst.lO a3 g2).up (by omega)
  ·exact ((Pst.lO a3 g2).how e4 e5).up (by omega)
theorem E9 (hc:jx C) (hG:GOk C n G) (p:Pre C (n+1) 4 100300000 m s) (hn:Nd C.N 1 k) (he:cD e.2.1) (hl:LE.le (α:=Int) ((HAdd.hAdd (α:=Int) (β:=Int) (γ:=Int) ((l.length:Int)) (1))) (s.2.2.2.2.2.1)):(R.eval_run_act G s k e l).sat (nU C (m+100300000) s.2.2.2.2.2.2.1 s):=by
 unfold R.eval_run_act
 obtain ⟨k0,x,hx,_⟩:=hn
 have hg:=hc.tr.nod _ x hx
 have pm:=p.hm
 have a0:=Aft.refl p.run
 have hD:=hc.D
 have hdp:=p.run.dp
 have ex:∀ {q:Int},Nd C.N 3 q->(G.eval_run_expression s q e).sat (cy C (m+100300000) s.2.2.2.2.2.2.1 s):=fun hn=>bH (hG.iV (p.go a0 (by decide) (by omega)) hn he) fun _ hr=>⟨hr.1,(Pst.lO a0 hr.2).up (by omega)⟩
 have up:∀ {F:Res (sI×RunT)}{B:sI×RunT->Bool},F.sat (nU C m s.2.2.2.2.2.2.1 s)->(F.bind fun r=>given (B r) (Res.ok r)).sat (nU C (m+100300000) s.2.2.2.2.2.2.1 s):=fun h=>ae (bH h fun _ hr=>⟨hr.1,hr.2.up (by omega)⟩)
 refine aA fun _=>j5 p.run k0 hx (bI (fun h3=>?_) fun _=>bI (fun h4=>?_) fun _=>nv (fun h56=>?_) fun _=>bI (fun h8=>?_) fun _=>bI (fun h9=>?_) fun _=>bI (fun h10=>?_) fun _=>bI (fun _=>aD ⟨bt,.inr ⟨show (1:Int)≠5 by decide,a0.up (by omega)⟩⟩) fun _=>bI (fun _=>aD ⟨bt,.inr ⟨show (2:Int)≠5 by decide,a0.up (by omega)⟩⟩) fun _=>bI (fun h14=>?_) fun _=>bI (fun h15=>?_) fun _=>bI (fun h16=>?_) fun _=>bI (fun h18=>?_) fun _=>aD ⟨bt,(Pst.ok a0).up (by omega)⟩)
 ·obtain ⟨q,hq,nq⟩:=jK hg 0 3 (by rw [h3];simp [shp]) (by rw [h3];rfl)
  exact iR (by decide) hq (aB (ex nq) fun r ⟨v,g⟩=>aA fun _=>b9 (fun _=>aD ⟨v,g⟩) fun e0=>aD ⟨bt,.ok (g.a0 e0)⟩)
 ·exact ae (hG.block (p.go a0 (by decide) pm) k0 hx h4 he)
 ·exact up (hG.decls (p.go a0 (by decide) (by omega)) ⟨_,hx⟩ h56 he)
 ·exact up (hG.choice (p.go a0 (by decide) (by omega)) ⟨_,hx⟩ h8 he)
 ·exact up (hG.EL (p.go a0 (by decide) (by omega)) ⟨_,hx⟩ h9 he)
 ·exact ae (hG.loop (p.go a0 (by decide) pm) ⟨_,hx⟩ h10 he)
 ·refine bI (fun _=>aD ⟨bt,.inr ⟨show (3:Int)≠5 by decide,a0.up (by omega)⟩⟩) fun h0=>?_
  have h0:((x.2.2.2.2.2).length:Int)≠0:=h0
  refine bn (by decide) (by show 0 < (x.2.2.2.2.2).length;omega) fun q hq _=>?_
  have hq:x.2.2.2.2.2[0]?=some q:=hq
  have hs:srt (shp x.1 (x.2.2.2.2.2).length) 0=3:=by
   rw [h14]
   exact take1 hq rfl
  exact aB (ex (hg.nd hq 3 hs)) fun r hr=>aA fun _=>aB (yU (by decide) hr) fun o ho=>aA fun _=>aD ho
 ·obtain ⟨q,hq,nq⟩:=jK hg 0 3 (by rw [h15];simp [shp]) (by rw [h15];rfl)
  exact iR (by decide) hq (aB (ex nq) fun r hr=>aA fun _=>aB (yU (by decide) hr) fun o ho=>aA fun _=>aD ho)
 ·exact ae (hG.try_ (p.go a0 (by decide) pm) ⟨_,hx⟩ h16 he)
 ·obtain ⟨q,hq,nq⟩:=jK hg 0 2 (by rw [h18];simp [shp]) (by rw [h18];rfl)
  refine iR (by decide) hq (pV (aA fun _=>bG (decide_eq_true ?_) (aB (hG.statement (l:=l++[x.2.1]) (p.go a0 (by decide) (by omega)) nq.any he ?_) fun r ⟨v,g⟩=>aA fun _=>aB (R:=fun b=>b=true->Eq (α:=Int) (r.1.1) (1)) (bI (fun e=>aD fun _=>e) fun _=>aD fun e=>by cases e) fun b hb=>aI (fun eb=>aD ⟨bt,?_⟩) fun _=>aD ⟨v,(Pst.lO a0 g).up (by omega)⟩)))
  ·show (l.length+1)*16<=2^47
   omega
  ·show LE.le (α:=Int) (((l++[x.2.1]).length:Int)) (s.2.2.2.2.2.1)
   rw [List.length_append]
   simp
   exact hl
  ·exact ((Pst.lO a0 g).how (je (hb eb) (by decide)) (show (0:Int)≠5 by decide)).up (by omega)
end
end Go.Mach

set_option maxRecDepth 100000
namespace Go.Mach
open Res
section
variable {C:Cx}{n:Nat}{G:au}{m k:Int}{s:RunT}{x:gJ}{e:mQ}{o:List UInt8}{v:eD}
theorem uf (hc:jx C) (hG:GOk C n G) (p:Pre C (n+1) 1 0 m s) (hn:Nd C.N 3 k) (he:cD e.2.1):(R.eval_run_expression G s k e).sat (cy C m (HAdd.hAdd (α:=Int) (β:=Int) (γ:=Int) (s.2.2.2.2.2.2.1) (1)) s):=by
 unfold R.eval_run_expression
 refine aA fun _=>tZ hc p (fun s1 h1=>aA fun _=>gn rfl (aD ⟨bt,.inl ⟨rfl,h1⟩⟩)) fun s1 e2 e3 e4 h=>aA fun _=>hJ rfl ?_
 have p1:Pre C n 12 100300000 (m-134217728) s1:=p.deep h e3 (by decide) (by decide) (by decide)
 exact aB (hG.value p1 hn he) fun r ⟨v,g⟩=>aA fun _=>aD ⟨v,xi p.run e2 e3 e4 hc.D g (by omega)⟩
theorem cy.lO {m1 m2 b1:Int}{s0:RunT}{r:(eD×Int)×RunT}(a:Aft C m1 b1 s0 s) (g:cy C m2 (HAdd.hAdd (α:=Int) (β:=Int) (γ:=Int) (s.2.2.2.2.2.2.1) (1)) s r):cy C m2 b1 s0 r:=⟨g.1,Pst.lO a g.2⟩
theorem BH (hc:jx C) (hG:GOk C n G) (p:Pre C (n+1) 12 100300000 m s) (hn:Nd C.N 3 k) (he:cD e.2.1):(R.eval_run_value G s k e).sat (cy C (m+100300000) s.2.2.2.2.2.2.1 s):=by
 unfold R.eval_run_value
 obtain ⟨k0,x,hx,hf⟩:=hn
 have hf:=fit3 hf
 have pm:=p.hm
 have a0:=Aft.refl p.run
 have rt:∀ {v:eD},cD v->(Res.ok ((v,(0:Int)),s):Res ((eD×Int)×RunT)).sat (cy C (m+100300000) s.2.2.2.2.2.2.1 s):=fun hv=>aD ⟨hv,(Pst.ok a0).up (by omega)⟩
 have up:∀ {F:Res ((eD×Int)×RunT)}{B:(eD×Int)×RunT->Bool}{m':Int},m'<=m+100300000->F.sat (cy C m' s.2.2.2.2.2.2.1 s)->(F.bind fun r=>given (B r) (Res.ok r)).sat (cy C (m+100300000) s.2.2.2.2.2.2.1 s):=fun hm h=>ae (bH h fun _ hr=>hr.up hm)
 refine aA fun _=>j5 p.run k0 hx (bI (fun _=>aB nS fun r hr=>aA fun _=>rt (vk hr)) fun n30=>bI (fun _=>aB qj fun r hr=>aA fun _=>rt (vk hr)) fun n31=>bI (fun _=>aB mu fun r hr=>aA fun _=>rt hr.1) fun n32=>bI (fun _=>up (by omega) (BX p.run (by omega))) fun n33=>nv (fun _=>aB lB fun r hr=>aA fun _=>rt (vk hr)) fun n34=>bI (fun _=>rt (.of (show (1:Int)≠5 by decide))) fun n36=>bI (fun _=>dx (aI (fun _=>rt he) fun _=>up (by omega) (gO p.run))) fun n37=>bI (fun h38=>ae (hG.array (p.go a0 (by decide) pm) ⟨_,hx⟩ h38 he)) fun n38=>bI (fun h39=>ae (hG.object (p.go a0 (by decide) pm) ⟨_,hx⟩ h39 he)) fun n39=>nv (fun h=>up (by omega) (uP p.run (by omega) ⟨k0,x,hx,.inr h⟩ he)) fun n41=>ae (hG.operation (p.go a0 (by decide) pm) k0 hx ⟨(by omega:LE.le (α:=Int) (43) (x.1)),hf.2.1⟩ he))
theorem D9 (hc:jx C){i:Nat}(hx:C.N[i]?=some x) (hk:x.1=50\/x.1=51):∀ q∈List.drop 1 x.2.2.2.2.2,Nd C.N 3 q:=fun q hq=>by
 obtain ⟨j,hj⟩:=List.getElem?_of_mem (List.mem_of_mem_drop hq)
 refine (hc.tr.nod _ x hx).nd hj 3 ?_
 rcases hk with e|e<;>rw [e]<;>(cases j with
  |zero=>rfl
  |succ j=>rfl)
theorem AZ (hc:jx C) (hG:GOk C n G) (p:Pre C (n+1) 2 100300000 m s) (hx:Nk C.N x) (hk:x.1=38) (he:cD e.2.1):(R.eval_run_array G s x.2.2.2.2.2 e).sat (cy C (m+100300000) s.2.2.2.2.2.2.1 s):=by
 unfold R.eval_run_array
 obtain ⟨i,hi⟩:=hx
 have hl:=hc.fw.one _ x hi
 have hg:=hc.tr.nod _ x hi
 have pm:=p.hm
 refine aA fun _=>aB (o4 p.run (by omega) (.mk' 2 rfl (by decide)) rfl rfl bt) fun r1 ⟨v1,g1⟩=>aA fun _=>b9 (fun _=>aD ⟨v1,g1.up (by omega)⟩) fun e1=>?_
 have a1:=g1.a0 e1
 refine aB (iA (Q:=pX C (m+100300000) s.2.2.2.2.2.2.1 s fun s'=>Aft C (m+100300000) s.2.2.2.2.2.2.1 s s') (fun y=>y.1) (x.2.2.2.2.2).length (by omega) (fun y=>Aft C (m+y.1) s.2.2.2.2.2.2.1 s y.2) (by simp) (by simp) (by show Aft C (m+0) _ _ r1.2;rw [Int.add_zero];exact a1) fun y y0 y1 yI=>?_) fun r hr=>oQ hr fun s' hs'=>aD ⟨v1,.ok hs'⟩
 obtain ⟨j,s1⟩:=y
 have y0:0<=j:=y0
 have y1:j<=((x.2.2.2.2.2).length:Int):=y1
 have yI:Aft C (m+j) s.2.2.2.2.2.2.1 s s1:=yI
 refine er (fun hj=>?_) fun _=>aD (yI.up (by omega))
 have hj:j < ((x.2.2.2.2.2).length:Int):=hj
 have hs:srt (shp x.1 (x.2.2.2.2.2).length) j.toNat=3:=by
  rw [hk]
  rfl
 refine bn y0 (by show _ < (x.2.2.2.2.2).length;omega) fun q hq _=>aB (hG.iV (p.go yI (by decide) (by omega)) (hg.nd hq 3 hs) he) fun r ⟨v,g⟩=>aA fun _=>b9 (fun _=>aD ⟨v,(Pst.lO yI g).up (by omega)⟩) fun e2=>?_
 have a2:=(Pst.lO yI g).a0 e2
 refine q_b fun _=>aA fun _=>aB (tI a2.run (by omega) v) fun r3 a3=>aA fun _=>aD ⟨rfl,hj,?_⟩
 show Aft C (m+IntKind.wrap .i64 (j+1)) _ _ _
 rw [wrap64 (n:=j+1) (by omega),<- Int.add_assoc]
 exact a2.cat a3
theorem zg (hc:jx C) (hG:GOk C n G) (p:Pre C (n+1) 2 100300000 m s) (hx:Nk C.N x) (hk:x.1=39) (he:cD e.2.1):(R.eval_run_object G s x.2.2.2.2.2 e).sat (cy C (m+100300000) s.2.2.2.2.2.2.1 s):=by
 unfold R.eval_run_object
 obtain ⟨i,hi⟩:=hx
 have hl:=hc.fw.one _ x hi
 have hg:=hc.tr.nod _ x hi
 have pm:=p.hm
 refine aA fun _=>aB (o4 p.run (by omega) (.mk' 1 rfl (by decide)) rfl rfl bt) fun r1 ⟨v1,g1⟩=>aA fun _=>b9 (fun _=>aD ⟨v1,g1.up (by omega)⟩) fun e1=>?_
 have a1:=g1.a0 e1
 refine aB (iA (Q:=pX C (m+100300000) s.2.2.2.2.2.2.1 s fun s'=>Aft C (m+100300000) s.2.2.2.2.2.2.1 s s') (fun y=>y.1) (x.2.2.2.2.2).length (by omega) (fun y=>Aft C (m+y.1) s.2.2.2.2.2.2.1 s y.2) (by simp) (by simp) (by show Aft C (m+0) _ _ r1.2;rw [Int.add_zero];exact a1) fun y y0 y1 yI=>?_) fun r hr=>oQ hr fun s' hs'=>aD ⟨v1,.ok hs'⟩
 obtain ⟨j,s1⟩:=y
 have y0:0<=j:=y0
 have y1:j<=((x.2.2.2.2.2).length:Int):=y1
 have yI:Aft C (m+j) s.2.2.2.2.2.2.1 s s1:=yI
 refine er (fun hj=>?_) fun _=>aD (yI.up (by omega))
 have hj:j < ((x.2.2.2.2.2).length:Int):=hj
 have hs:srt (shp x.1 (x.2.2.2.2.2).length) j.toNat=7:=by
  rw [hk]
  rfl
 refine bn y0 (by show _ < (x.2.2.2.2.2).length;omega) fun d hd _=>?_
 obtain ⟨d0,z,hz,hf⟩:=hg.nd hd 7 hs
 have hz40:z.1=40:=eq_of_beq hf
 have hgz:=hc.tr.nod _ z hz
 obtain ⟨q,hq,nq⟩:=jK hgz 0 3 (by rw [hz40];simp [shp]) (by rw [hz40];rfl)
 refine j5 yI.run d0 hz (iR (by decide) hq (aB (hG.iV (p.go yI (by decide) (by omega)) nq he) fun r ⟨v,g⟩=>aA fun _=>b9 (fun _=>aD ⟨v,(Pst.lO yI g).up (by omega)⟩) fun e2=>?_))
 have a2:=(Pst.lO yI g).a0 e2
 refine aB (dV (by decide)) fun _ _=>aA fun _=>q_b fun _=>aI (fun _=>aB (gO a2.run) fun r2 hr2=>aA fun _=>aD ((hr2.cat a2).up (by omega))) fun _=>aB (tI a2.run (by omega) v) fun r3 a3=>aA fun _=>aD ⟨rfl,hj,?_⟩
 show Aft C (m+IntKind.wrap .i64 (j+1)) _ _ _
 rw [wrap64 (n:=j+1) (by omega),<- Int.add_assoc]
 exact a2.cat a3
theorem vU (hc:jx C) (hG:GOk C n G) (p:Pre C (n+1) 11 100300000 m s) (k0:0<=k) (hx:C.N[k.toNat]?=some x) (hk:43<=x.1/\x.1<=53) (he:cD e.2.1):(R.eval_run_operation G s k x e).sat (cy C (m+100300000) s.2.2.2.2.2.2.1 s):=by
 unfold R.eval_run_operation
 have hk:LE.le (α:=Int) (43) (x.1)/\LE.le (α:=Int) (x.1) (53):=hk
 have hl:=hc.fw.one _ x hx
 have hg:=hc.tr.nod _ x hx
 have pm:=p.hm
 have a0:=Aft.refl p.run
 have up:∀ {F:Res ((eD×Int)×RunT)}{B:(eD×Int)×RunT->Bool},F.sat (cy C m s.2.2.2.2.2.2.1 s)->(F.bind fun r=>given (B r) (Res.ok r)).sat (cy C (m+100300000) s.2.2.2.2.2.2.1 s):=fun h=>ae (bH h fun _ hr=>hr.up (by omega))
 have ex:∀ {q:Int}{s1:RunT},Aft C m s.2.2.2.2.2.2.1 s s1->Nd C.N 3 q->(G.eval_run_expression s1 q e).sat (cy C m s.2.2.2.2.2.2.1 s):=fun a hn=>bH (hG.iV (p.go a (by decide) (by omega)) hn he) fun _ hr=>hr.lO a
 refine aA fun _=>bI (fun h=>?_) fun _=>nv (fun h=>ae (hG.step (p.go a0 (by decide) pm) ⟨_,hx⟩ h he)) fun _=>bI (fun h=>up (hG.binary (p.go a0 (by decide) (by omega)) ⟨_,hx⟩ h he)) fun _=>bI (fun h=>up (hG.logic (p.go a0 (by decide) (by omega)) ⟨_,hx⟩ h he)) fun _=>bI (fun h=>?_) fun _=>bI (fun h=>ae (hG.assign (p.go a0 (by decide) pm) ⟨_,hx⟩ h he)) fun _=>bI (fun h=>ae (hG.callee (p.go a0 (by decide) pm) ⟨_,hx⟩ h he)) fun _=>bI (fun h=>?_) fun _=>up (hG.property (p.go a0 (by decide) (by omega)) ⟨k0,x,hx,fit_4 (by omega)⟩ he)
 ·obtain ⟨q,hq,nq⟩:=jK hg 0 3 (by rw [h];simp [shp]) (by rw [h];rfl)
  exact iR (by decide) hq (up (hG.unary (p.go a0 (by decide) (by omega)) nq he))
 ·obtain ⟨q0,hq0,nq0⟩:=jK hg 0 3 (by rw [h];simp [shp]) (by rw [h];rfl)
  obtain ⟨q1,hq1,nq1⟩:=jK hg 1 3 (by rw [h];simp [shp]) (by rw [h];rfl)
  obtain ⟨q2,hq2,nq2⟩:=jK hg 2 3 (by rw [h];simp [shp]) (by rw [h];rfl)
  refine iR (by decide) hq0 (aB (ex a0 nq0) fun r hr=>aA fun _=>b9 (fun _=>aD (hr.up (by omega))) fun e1=>q_b fun _=>?_)
  have a1:=hr.2.a0 e1
  exact aI (fun _=>iR (by decide) hq1 (up (ex a1 nq1))) fun _=>iR (by decide) hq2 (up (ex a1 nq2))
 ·obtain ⟨q0,hq0,nq0⟩:=jK hg 0 3 (by rw [h];simp [shp]) (by rw [h];rfl)
  have hlen:1<=(x.2.2.2.2.2).length:=(List.getElem?_eq_some_iff.1 hq0).1
  refine iR (by decide) hq0 (aB (ex a0 nq0) fun r hr=>aA fun _=>b9 (fun _=>aD (hr.up (by omega))) fun e1=>gG (iL (by decide) (iL (by show (1:Int)<=((x.2.2.2.2.2).length:Int);omega) ?_)))
  have a1:=hr.2.a0 e1
  refine aB (hG.arguments (l:=List.drop 1 x.2.2.2.2.2) (p.go a1 (by decide) (by omega)) (by rw [List.length_drop];omega) (D9 hc hx (.inr h)) he) fun r2 ⟨l2,v2,g2⟩=>aA fun _=>b9 (fun _=>aD ⟨v2,(Pst.cat a1 g2).up (by omega)⟩) fun e2=>?_
  have a2:=(Pst.cat a1 g2).a0 e2
  exact ae (bH (hG.fresh (p.go a2 (by decide) pm) l2) fun _ hr=>hr.cat a2)
theorem BL (hc:jx C) (hG:GOk C n G) (p:Pre C (n+1) 2 0 m s) (hn:Nd C.N 3 k) (he:cD e.2.1):(R.eval_run_unary G s o k e).sat (cy C m s.2.2.2.2.2.2.1 s):=by
 unfold R.eval_run_unary
 have pm:=p.hm
 have a0:=Aft.refl p.run
 have ex:(G.eval_run_expression s k e).sat (cy C m s.2.2.2.2.2.2.1 s):=bH (hG.iV (p.go a0 (by decide) (by omega)) hn he) fun _ hr=>hr.lO a0
 obtain ⟨k0,x,hx,hf⟩:=hn
 refine aA fun _=>dx (aI (fun _=>?_) fun _=>aB ex fun r hr=>aA fun _=>b9 (fun _=>aD hr) fun e1=>aB GM fun r2 v2=>aA fun _=>ae (bH (po (hr.2.a0 e1).run (by omega) v2) fun _ h=>h.cat (hr.2.a0 e1)))
 refine aB (R:=pX C m s.2.2.2.2.2.2.1 s fun q:Int×(RunT×eD)=>cy C m s.2.2.2.2.2.2.1 s ((q.2.2,q.1),q.2.1)) (j5 p.run k0 hx (bI (fun _=>tZ hc p (fun s1 h1=>aA fun _=>gn rfl (aD ⟨bt,.inl ⟨rfl,h1⟩⟩)) fun s1 e2 e3 e4 h=>aA fun _=>hJ rfl (aB (zN h (by omega)) fun r ⟨v,g⟩=>aA fun _=>aD ⟨v,(xi p.run e2 e3 e4 hc.D g (by omega)).mono (Int.le_refl _) (by omega)⟩)) fun _=>aB ex fun r hr=>aA fun _=>aD hr)) fun r hr=>oQ hr fun q ⟨v,g⟩=>b9 (fun _=>aD ⟨v,g⟩) fun e1=>aB GP fun r2 h2=>aA fun _=>aB (dV (by omega)) fun _ _=>aA fun _=>aB mu fun r4 h4=>aA fun _=>aD ⟨h4.1,.ok (g.a0 e1)⟩
theorem A6 (hc:jx C) (hG:GOk C n G) (p:Pre C (n+1) 2 0 m s) (hn:Nd C.N 4 k) (he:cD e.2.1):(R.eval_run_parts G s k e).sat (PPst C m s.2.2.2.2.2.2.1 s):=by
 unfold R.eval_run_parts
 have pm:=p.hm
 have a0:=Aft.refl p.run
 obtain ⟨k0,x,hx,hf⟩:=hn
 have hf:=fit4 hf
 have hg:=hc.tr.nod _ x hx
 have hnm:=hc.fw.nm _ x hx
 have ex:∀ {q:Int}{s1:RunT},Aft C m s.2.2.2.2.2.2.1 s s1->Nd C.N 3 q->(G.eval_run_expression s1 q e).sat (cy C m s.2.2.2.2.2.2.1 s):=fun a hn=>bH (hG.iV (p.go a (by decide) (by omega)) hn he) fun _ hr=>hr.lO a
 refine aA fun _=>j5 p.run k0 hx (bI (fun _=>aD ⟨⟨bt,bt⟩,bt,.ok a0⟩) fun h33=>?_)
 obtain ⟨q,hq,nq⟩:∃ q,x.2.2.2.2.2[0]?=some q/\Nd C.N 3 q:=by
  rcases hf.resolve_left h33 with h|h
  ·exact jK hg 0 3 (by rw [h];simp [shp]) (by rw [h];rfl)
  ·exact jK hg 0 3 (by rw [h];simp [shp]) (by rw [h];rfl)
 refine iR (by decide) hq (aB (ex a0 nq) fun r hr=>aA fun _=>b9 (fun _=>aD ⟨⟨bt,bt⟩,hr.1,hr.2⟩) fun e1=>bI (fun _=>aB (dV (by show x.2.1.length<=_;omega)) fun _ _=>aA fun _=>aB mu fun r4 h4=>aA fun _=>aD ⟨⟨hr.1,h4.1⟩,bt,.ok (hr.2.a0 e1)⟩) fun h52=>?_)
 have h53:x.1=53:=(hf.resolve_left h33).resolve_left h52
 have a1:=hr.2.a0 e1
 obtain ⟨q1,hq1,nq1⟩:=jK hg 1 3 (by rw [h53];simp [shp]) (by rw [h53];rfl)
 exact iR (by decide) hq1 (aB (ex a1 nq1) fun r2 hr2=>aA fun _=>b9 (fun _=>aD ⟨⟨bt,bt⟩,hr2.1,hr2.2⟩) fun e2=>aD ⟨⟨hr.1,hr2.1⟩,bt,.ok (hr2.2.a0 e2)⟩)
theorem property_step (hc:jx C) (hG:GOk C n G) (p:Pre C (n+1) 3 0 m s) (hn:Nd C.N 4 k) (he:cD e.2.1):(R.eval_run_property G s k e).sat (cy C m s.2.2.2.2.2.2.1 s):=by
 unfold R.eval_run_property
 have pm:=p.hm
 have a0:=Aft.refl p.run
 exact aA fun _=>aB (hG.parts (p.go a0 (by decide) (by omega)) hn he) fun r ⟨t1,v1,g1⟩=>aA fun _=>b9 (fun _=>aD ⟨v1,g1⟩) fun e1=>ae (bH (Ai hc (g1.a0 e1).run (by omega)) fun _ hr=>hr.cat (g1.a0 e1))
theorem C2 (hc:jx C) (hG:GOk C n G) (p:Pre C (n+1) 3 100300000 m s) (hx:Nk C.N x) (hk:x.1=44\/x.1=45) (he:cD e.2.1):(R.eval_run_step G s x e).sat (cy C (m+100300000) s.2.2.2.2.2.2.1 s):=by
 unfold R.eval_run_step
 have pm:=p.hm
 have a0:=Aft.refl p.run
 obtain ⟨i,hi⟩:=hx
 have hg:=hc.tr.nod _ x hi
 obtain ⟨q,hq,nq⟩:∃ q,x.2.2.2.2.2[0]?=some q/\Nd C.N 4 q:=by
  rcases hk with h|h
  ·exact jK hg 0 4 (by rw [h];simp [shp]) (by rw [h];rfl)
  ·exact jK hg 0 4 (by rw [h];simp [shp]) (by rw [h];rfl)
 refine aA fun _=>iR (by decide) hq (aB (hG.parts (p.go a0 (by decide) (by omega)) nq he) fun r ⟨t1,v1,g1⟩=>aA fun _=>b9 (fun _=>aD ⟨v1,g1.up (by omega)⟩) fun e1=>?_)
 have a1:=g1.a0 e1
 refine aB (B9 hc a1.run (by omega)) fun r2 h2=>aA fun _=>?_
 have h2:=h2.cat a1
 refine b9 (fun _=>aD (h2.up (by omega))) fun e2=>?_
 have a2:=h2.2.a0 e2
 have sg:∀ {q:Int}{B:(eD×Int)×RunT->Bool},((R.aF r2.2 q).bind fun r=>given (B r) (Res.ok r)).sat (cy C (m+100300000) s.2.2.2.2.2.2.1 s):=ae (bH (iM a2.run (by omega)) fun _ hr=>(hr.cat a2).up (by omega))
 refine aB CT fun r4 h4=>aA fun _=>b9 (fun _=>sg) fun _=>aB (R:=fun _=>True) (aI (fun _=>aD trivial) fun _=>aD trivial) fun _ _=>aB step_t fun r7 h7=>aA fun _=>b9 (fun _=>sg) fun _=>aB (Eo hc a2.run (by omega) h7) fun r9 h9=>aA fun _=>?_
 have h9:=h9.cat a2
 exact b9 (fun _=>aD (h9.up (by omega))) fun e9=>bI (fun _=>aD ⟨h7,(Pst.ok (h9.2.a0 e9)).up (by omega)⟩) fun _=>aD ⟨h4,(Pst.ok (h9.2.a0 e9)).up (by omega)⟩
theorem y8 (hc:jx C) (hG:GOk C n G) (p:Pre C (n+1) 2 0 m s) (hx:Nk C.N x) (hk:x.1=46) (he:cD e.2.1):(R.eval_run_binary G s x e).sat (cy C m s.2.2.2.2.2.2.1 s):=by
 unfold R.eval_run_binary
 have pm:=p.hm
 have a0:=Aft.refl p.run
 obtain ⟨i,hi⟩:=hx
 have hg:=hc.tr.nod _ x hi
 have ex:∀ {q:Int}{s1:RunT},Aft C m s.2.2.2.2.2.2.1 s s1->Nd C.N 3 q->(G.eval_run_expression s1 q e).sat (cy C m s.2.2.2.2.2.2.1 s):=fun a hn=>bH (hG.iV (p.go a (by decide) (by omega)) hn he) fun _ hr=>hr.lO a
 obtain ⟨q0,hq0,n0⟩:=jK hg 0 3 (by rw [hk];simp [shp]) (by rw [hk];rfl)
 obtain ⟨q1,hq1,n1⟩:=jK hg 1 3 (by rw [hk];simp [shp]) (by rw [hk];rfl)
 exact aA fun _=>iR (by decide) hq0 (aB (ex a0 n0) fun r hr=>aA fun _=>b9 (fun _=>aD hr) fun e1=>iR (by decide) hq1 (aB (ex (hr.2.a0 e1) n1) fun r2 hr2=>aA fun _=>b9 (fun _=>aD hr2) fun e2=>aI (fun _=>ae (bH (in_ok hc (hr2.2.a0 e2).run (by omega)) fun _ h=>h.cat (hr2.2.a0 e2))) fun _=>aB zb fun r4 h4=>aA fun _=>ae (bH (po (hr2.2.a0 e2).run (by omega) h4) fun _ h=>h.cat (hr2.2.a0 e2))))
theorem AM (hc:jx C) (hG:GOk C n G) (p:Pre C (n+1) 2 0 m s) (hx:Nk C.N x) (hk:x.1=47) (he:cD e.2.1):(R.eval_run_logic G s x e).sat (cy C m s.2.2.2.2.2.2.1 s):=by
 unfold R.eval_run_logic
 have pm:=p.hm
 have a0:=Aft.refl p.run
 obtain ⟨i,hi⟩:=hx
 have hg:=hc.tr.nod _ x hi
 have ex:∀ {q:Int}{s1:RunT},Aft C m s.2.2.2.2.2.2.1 s s1->Nd C.N 3 q->(G.eval_run_expression s1 q e).sat (cy C m s.2.2.2.2.2.2.1 s):=fun a hn=>bH (hG.iV (p.go a (by decide) (by omega)) hn he) fun _ hr=>hr.lO a
 obtain ⟨q0,hq0,n0⟩:=jK hg 0 3 (by rw [hk];simp [shp]) (by rw [hk];rfl)
 obtain ⟨q1,hq1,n1⟩:=jK hg 1 3 (by rw [hk];simp [shp]) (by rw [hk];rfl)
 exact aA fun _=>iR (by decide) hq0 (aB (ex a0 n0) fun r hr=>aA fun _=>b9 (fun _=>aD hr) fun e1=>aB (dw0:Safe _).ok fun _ _=>aI (fun _=>aD ⟨hr.1,.ok (hr.2.a0 e1)⟩) fun _=>iR (by decide) hq1 (ae (ex (hr.2.a0 e1) n1)))
theorem zx (hc:jx C) (hG:GOk C n G) (p:Pre C (n+1) 3 100300000 m s) (hx:Nk C.N x) (hk:x.1=49) (he:cD e.2.1):(R.eval_run_assign G s x e).sat (cy C (m+100300000) s.2.2.2.2.2.2.1 s):=by
 unfold R.eval_run_assign
 have pm:=p.hm
 have a0:=Aft.refl p.run
 obtain ⟨i,hi⟩:=hx
 have hg:=hc.tr.nod _ x hi
 have hnm:=hc.fw.nm _ x hi
 have hnn:1<=x.2.1.length:=by
  have:=hg.nam hk
  cases h:x.2.1 with
  |nil=>exact absurd h this
  |cons _ _=>simp
 have ew:IntKind.wrap .i64 ((x.2.1.length:Int)-1)=(x.2.1.length:Int)-1:=wrap64 (by omega)
 obtain ⟨q0,hq0,n0⟩:=jK hg 0 4 (by rw [hk];simp [shp]) (by rw [hk];rfl)
 obtain ⟨q1,hq1,n1⟩:=jK hg 1 3 (by rw [hk];simp [shp]) (by rw [hk];rfl)
 refine aA fun _=>iR (by decide) hq0 (aB (hG.parts (p.go a0 (by decide) (by omega)) n0 he) fun r ⟨t1,v1,g1⟩=>aA fun _=>b9 (fun _=>aD ⟨v1,g1.up (by omega)⟩) fun e1=>gG (iL (by rw [ew];omega) (iL (by rw [ew];omega) ?_)))
 have a1:=g1.a0 e1
 refine aB (R:=pX C (m+100300000) s.2.2.2.2.2.2.1 s fun q:RunT×eD=>Aft C m s.2.2.2.2.2.2.1 s q.1/\cD q.2) (dx (aI (fun _=>aD ⟨a1,bt⟩) fun _=>aB (B9 hc a1.run (by omega)) fun r2 h2=>aA fun _=>b9 (fun _=>aD ((h2.cat a1).up (by omega))) fun e2=>aD ⟨(h2.cat a1).2.a0 e2,h2.1⟩)) fun r2 hr2=>oQ hr2 fun q ⟨a2,v2⟩=>?_
 refine iR (by decide) hq1 (aB (hG.iV (p.go a2 (by decide) (by omega)) n1 he) fun r8 h8=>aA fun _=>?_)
 have h8:=h8.lO a2
 refine b9 (fun _=>aD (h8.up (by omega))) fun e8=>?_
 have a8:=h8.2.a0 e8
 refine aB (R:=pX C (m+100300000) s.2.2.2.2.2.2.1 s cD) (dx (aI (fun _=>aD h8.1) fun _=>aB zb fun r9 h9=>aA fun _=>b9 (fun _=>oY (bH (iM a8.run (by omega)) fun _ hr=>(hr.cat a8).up (by omega))) fun _=>aD h9)) fun r11 hr11=>oQ hr11 fun w vw=>aB (Eo hc a8.run (by omega) vw) fun r14 h14=>aA fun _=>?_
 have h14:=h14.cat a8
 exact b9 (fun _=>aD (h14.up (by omega))) fun e14=>aD ⟨vw,(Pst.ok (h14.2.a0 e14)).up (by omega)⟩
theorem yl (hc:jx C) (hG:GOk C n G) (p:Pre C (n+1) 2 0 m s) (hn:Nd C.N 3 k) (he:cD e.2.1):(R.eval_run_called G s k e).sat (CPst C m s.2.2.2.2.2.2.1 s):=by
 unfold R.eval_run_called
 have pm:=p.hm
 have a0:=Aft.refl p.run
 have hn':=hn
 obtain ⟨k0,x,hx,hf⟩:=hn'
 refine aA fun _=>j5 p.run k0 hx (aB (R:=fun b=>b=false->x.1=52\/x.1=53) (oi (fun _=>aD fun e=>?_) fun e=>aD fun _=>.inl e) fun b hb=>aI (fun _=>aB (hG.iV (p.go a0 (by decide) (by omega)) hn he) fun r hr=>aA fun _=>aD ⟨hr.1,bt,Pst.lO a0 hr.2⟩) fun eb=>tZ hc p (fun s1 h1=>aA fun _=>gn rfl (aD ⟨bt,bt,.inl ⟨rfl,h1⟩⟩)) fun s1 e2 e3 e4 h=>aA fun _=>hJ rfl ?_)
 ·exact .inr (eq_of_beq (by cases h:(x.1 == 53)<;>simp_all))
 ·have p1:Pre C n 2 0 (m-134217728) s1:=p.deep h e3 (by decide) (by decide) (by decide)
  have a1:=Aft.refl h
  refine aB (hG.parts p1 ⟨k0,x,hx,fit_4 (.inr (hb eb))⟩ he) fun r ⟨t1,v1,g1⟩=>aA fun _=>aB (R:=fun q:Int×(RunT×eD)=>cy C (m-134217728) s1.2.2.2.2.2.2.1 s1 ((q.2.2,q.1),q.2.1)) (bI (fun e1=>aB (Ai hc (g1.a0 e1).run (by omega)) fun r2 h2=>aA fun _=>aD (h2.cat (g1.a0 e1))) fun _=>aD ⟨v1,g1⟩) fun q ⟨v2,g2⟩=>aD ⟨v2,t1.1,(xi p.run e2 e3 e4 hc.D g2 (by omega)).mono (Int.le_refl _) (by omega)⟩
end
end Go.Mach

