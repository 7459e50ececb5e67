/-
  Proved here: the law renlaw12.EvalMore returns true for every input of the stated bulk and leaves its arguments as they were; no further condition.
  By an AI agent; no person has read it.
-/
import Derived.Test.YtdmjcmcdgepoeaaGreatDoorPartj
import Derived.Lib.ItoaLen
set_option linter.all false
set_option linter.deprecated false


set_option maxRecDepth 100000
namespace Go.Mach
open Res
structure Wd where
 (L L':dy.den) (A A':List fM.den) (m m':Int) (P:Int->Prop)
 hA:(P 0/\A <+: A')\/A=A'
 h4:(P 4/\LE.le (α:=Int) m m')\/m=m'
 h5:(P 5/\LE.le (α:=Int) L.2.1 L'.2.1)\/L.2.1=L'.2.1
 h6:(P 6/\LE.le (α:=Int) L.2.2 L'.2.2)\/L.2.2=L'.2.2
 la:A.length<=2^40
def Wd.U (W:Wd):Type:={ x:Int // 0<=x/\x<=W.A.length }
abbrev RnT:=aG.den
abbrev RsT:=Int×(Int×(fB.den×gY.den))
abbrev NdT:=List aF.den
abbrev ClT:=List jZ.den
variable (W:Wd)
abbrev lf (N:NdT) (u:W.U) (c:ClT) (z:RsT):RnT:=(N,(W.L,(W.A,(u.1,((W.m,c),z)))))
abbrev rf (N:NdT) (u:W.U) (c:ClT) (z:RsT):RnT:=(N,(W.L',(W.A',(u.1,((W.m',c),z)))))
variable {α β γ δ ε:Type}{α' β':Type}
def Sy (Q:α->α'->Prop) (B:α->Prop) (m:Res α) (m':Res α'):Prop:=∀ a,m.strip=some a->B a\/∃ b,m'.strip=some b/\Q a b
def Bd (B:α->Prop) (m:Res α):Prop:=∀ a,m.strip=some a->B a
class Cs (W:outParam Wd) (m:Res α) (m':Res α') (Q:outParam (α->α'->Prop)) (B:outParam (α->Prop)):Prop where
 h:Sy Q B m m'
def QV (a b:α×RnT):Prop:=∃ v N u c z,a=(v,lf W N u c z)/\b=(v,rf W N u c z)
def QR (a b:RnT):Prop:=∃ N u c z,a=lf W N u c z/\b=rf W N u c z
def QX (a b:RnT×α):Prop:=∃ v N u c z,a=(lf W N u c z,v)/\b=(rf W N u c z,v)
def Q3 (a b:α×(RnT×β)):Prop:=∃ x v N u c z,a=(x,(lf W N u c z,v))/\b=(x,(rf W N u c z,v))
def Q4 (a b:α×(β×(RnT×γ))):Prop:=∃ x y v N u c z,a=(x,(y,(lf W N u c z,v)))/\b=(x,(y,(rf W N u c z,v)))
def Q5 (a b:α×(β×RnT)):Prop:=∃ x y N u c z,a=(x,(y,lf W N u c z))/\b=(x,(y,rf W N u c z))
def QH (a b:α×(Int×ClT)):Prop:=∃ v c,a=(v,(W.m,c))/\b=(v,(W.m',c))
def QI (a b:Int×ClT):Prop:=∃ c,a=(W.m,c)/\b=(W.m',c)
def QS (Q:α->α'->Prop) (R:β->β'->Prop):Res.Step α β->Res.Step α' β'->Prop
 |.next a,.next b=>Q a b
 |.done a,.done b=>R a b
 |_,_=>False
def QU (Q:α->α'->Prop) (R:β->β'->Prop):α ⊕ β->α' ⊕ β'->Prop
 |.inl a,.inl b=>Q a b
 |.inr a,.inr b=>R a b
 |_,_=>False
def bad (s:RnT):Prop:=W.P s.2.2.2.2.2.2.2.2.1
def BN (_:α):Prop:=False
def BV (a:(α×Int)×RnT):Prop:=∃ v s,a=((v,5),s)/\bad W s
def BO (a:(Int×α)×RnT):Prop:=∃ v s,a=((5,v),s)/\bad W s
def BI (a:Int×RnT):Prop:=∃ s,a=(5,s)/\bad W s
def BF (a:Bool×RnT):Prop:=∃ s,a=(false,s)/\bad W s
def BP (a:(α×(Int×β))×RnT):Prop:=∃ x v s,a=((x,(5,v)),s)/\bad W s
def BW (a:(α×(β×Int))×RnT):Prop:=∃ x v s,a=((x,(v,5)),s)/\bad W s
def BX (a:RnT×(Int×α)):Prop:=∃ v s,a=(s,(5,v))/\bad W s
def B3 (a:Int×(RnT×α)):Prop:=∃ v s,a=(5,(s,v))/\bad W s
def B4 (a:α×(Int×(RnT×β))):Prop:=∃ x v s,a=(x,(5,(s,v)))/\bad W s
def BM (a:(Int×Bool)×(Int×ClT)):Prop:=∃ h,a=((0,false),h)/\W.P 4
def BS (B:β->Prop):Res.Step α β->Prop
 |.done b=>B b
 |.next _=>False
def BU (B:β->Prop):α ⊕ β->Prop
 |.inr b=>B b
 |.inl _=>False
variable {W}{Q:α->α'->Prop}{B:α->Prop}
theorem uc {a:α}{b:α'}(h:Q a b):Sy Q B (ok a) (ok b):=fun x e=>by cases e;exact .inr ⟨b,rfl,h⟩
theorem kV {b b':Bool}{m:Res α}{m':Res α'}(h:Sy Q B m m'):Sy Q B (given b m) (given b' m'):=h
theorem s_br {c:Bool}{m n:Res α}{m' n':Res α'}(h1:Sy Q B m m') (h2:Sy Q B n n'):Sy Q B (br c m n) (br c m' n'):=by cases c<;>assumption
theorem Be {c:Bool}{m:Res α}{m':Res α'}(h:Sy Q B m m'):Sy Q B (ai c m) (ai c m'):=by
 cases c
 ·exact fun _ e=>by cases e
 ·exact h
theorem FM {t:Ty}{l:List t.den}{i:Int}{k:t.den->Res α}{k':t.den->Res α'}(h:∀ x,Sy Q B (k x) (k' x)):Sy Q B (idx t l i k) (idx t l i k'):=by
 unfold idx;cases decide (0<=i)
 ·exact fun _ e=>by cases e
 ·show Sy Q B (match l[i.toNat]? with|some x=>_|none=>_) (match l[i.toNat]? with|some x=>_|none=>_)
  cases l[i.toNat]? with
  |none=>exact fun _ e=>by cases e
  |some x=>exact h x
theorem Fe {t:Sh}{l:List t.den}{i:Int}{k:t.den->Res α}{k':t.den->Res α'}(h:∀ x,Sy Q B (k x) (k' x)):Sy Q B (ct t l i k) (ct t l i k'):=by
 unfold ct;cases decide (0<=i)
 ·exact fun _ e=>by cases e
 ·show Sy Q B (match l[i.toNat]? with|some x=>_|none=>_) (match l[i.toNat]? with|some x=>_|none=>_)
  cases l[i.toNat]? with
  |none=>exact fun _ e=>by cases e
  |some x=>exact h x
theorem yr {m:Res β}{k:β->Res α}{k':β->Res α'}(h:∀ x,Sy Q B (k x) (k' x)):Sy Q B (m.bind k) (m.bind k'):=fun a e=>by
 rw [lZ] at e ⊢
 cases hm:m.strip with
 |none=>rw [hm] at e;cases e
 |some x=>rw [hm] at e;exact h x a e
theorem nF {m:Res β}{m':Res β'}{k:β->Res α}{k':β'->Res α'}{R:β->β'->Prop}{C:β->Prop}(h:Sy R C m m') (hk:∀ a b,R a b->Sy Q B (k a) (k' b)) (hb:∀ a,C a->Bd B (k a)):Sy Q B (m.bind k) (m'.bind k'):=fun a e=>by
 rw [lZ] at e ⊢
 cases hm:m.strip with
 |none=>rw [hm] at e;cases e
 |some x =>
  rw [hm] at e;rcases h x hm with h1|⟨y,h1,h2⟩
  ·exact .inl (hb x h1 a e)
  ·rw [h1];exact hk x y h2 a e
theorem Cs.call {m:Res β}{m':Res β'}{k:β->Res α}{k':β'->Res α'}{R:β->β'->Prop}{C:β->Prop} [h:Cs W m m' R C] (hk:∀ a b,R a b->Sy Q B (k a) (k' b)) (hb:∀ a,C a->Bd B (k a)):Sy Q B (m.bind k) (m'.bind k'):=nF h.h hk hb
theorem uk {m:Res β}{f:β->Res γ}{k:γ->Res α}:((m.bind f).bind k).strip=(m.bind fun x=>(f x).bind k).strip:=by
 rw [lZ,lZ,lZ]
 cases m.strip with
 |none=>rfl
 |some x=>exact lZ.symm
theorem Cm {m:Res β}{m':Res β'}{f:β->Res γ}{f':β'->Res δ}{k:γ->Res α}{k':δ->Res α'}(h:Sy Q B (m.bind fun x=>(f x).bind k) (m'.bind fun x=>(f' x).bind k')):Sy Q B ((m.bind f).bind k) ((m'.bind f').bind k'):=fun a e=>by
 rw [uk] at e ⊢;exact h a e
theorem CO {a:β}{a':β'}{k:β->Res α}{k':β'->Res α'}(h:Sy Q B (k a) (k' a')):Sy Q B ((ok a).bind k) ((ok a').bind k'):=h
theorem zQ {b b':Bool}{m:Res β}{m':Res β'}{k:β->Res α}{k':β'->Res α'}(h:Sy Q B (m.bind k) (m'.bind k')):Sy Q B ((given b m).bind k) ((given b' m').bind k'):=h
theorem sb_br {c:Bool}{m n:Res β}{m' n':Res β'}{k:β->Res α}{k':β'->Res α'}(h1:Sy Q B (m.bind k) (m'.bind k')) (h2:Sy Q B (n.bind k) (n'.bind k')):Sy Q B ((br c m n).bind k) ((br c m' n').bind k'):=by cases c<;>assumption
theorem HS {c:Bool}{m:Res β}{m':Res β'}{k:β->Res α}{k':β'->Res α'}(h:Sy Q B (m.bind k) (m'.bind k')):Sy Q B ((ai c m).bind k) ((ai c m').bind k'):=by
 cases c
 ·exact fun _ e=>by cases e
 ·exact h
theorem GQ {t:Ty}{l:List t.den}{i:Int}{f:t.den->Res β}{f':t.den->Res β'}{k:β->Res α}{k':β'->Res α'}(h:∀ x,Sy Q B ((f x).bind k) ((f' x).bind k')):Sy Q B ((idx t l i f).bind k) ((idx t l i f').bind k'):=by
 have e:∀ {δ:Type}(f:t.den->Res δ){ε:Type}(k:δ->Res ε),(idx t l i f).bind k=idx t l i fun x=>(f x).bind k:=fun f _ k=>by
  unfold idx;cases decide (0<=i)
  ·rfl
  ·show (match l[i.toNat]? with|some x=>_|none=>_:Res _).bind k=(match l[i.toNat]? with|some x=>_|none=>_)
   cases l[i.toNat]?<;>rfl
 rw [e,e];exact FM h
theorem HW {t:Sh}{l:List t.den}{i:Int}{f:t.den->Res β}{f':t.den->Res β'}{k:β->Res α}{k':β'->Res α'}(h:∀ x,Sy Q B ((f x).bind k) ((f' x).bind k')):Sy Q B ((ct t l i f).bind k) ((ct t l i f').bind k'):=by
 have e:∀ {δ:Type}(f:t.den->Res δ){ε:Type}(k:δ->Res ε),(ct t l i f).bind k=ct t l i fun x=>(f x).bind k:=fun f _ k=>by
  unfold ct;cases decide (0<=i)
  ·rfl
  ·show (match l[i.toNat]? with|some x=>_|none=>_:Res _).bind k=(match l[i.toNat]? with|some x=>_|none=>_)
   cases l[i.toNat]?<;>rfl
 rw [e,e];exact Fe h
theorem s_next {a:α}{b:α'}{R:β->β'->Prop}{C:Res.Step α β->Prop}(h:Q a b):Sy (QS Q R) C (ok (.next a)) (ok (.next b)):=uc h
theorem s_done {a:α}{b:α'}{R:β->β'->Prop}{C:Res.Step β α->Prop}(h:Q a b):Sy (QS R Q) C (ok (.done a)) (ok (.done b)):=uc h
theorem s_dl {γ':Type}{a:α}{b:α'}{R:β->β'->Prop}{T:γ->γ'->Prop}{C:Res.Step β (α ⊕ γ)->Prop}(h:Q a b):Sy (QS R (QU Q T)) C (ok (.done (.inl a))) (ok (.done (.inl b))):=uc h
theorem s_dr {γ':Type}{a:α}{b:α'}{R:β->β'->Prop}{T:γ->γ'->Prop}{C:Res.Step β (γ ⊕ α)->Prop}(h:Q a b):Sy (QS R (QU T Q)) C (ok (.done (.inr a))) (ok (.done (.inr b))):=uc h
theorem sr {R:β->β'->Prop}{f:β->Res (Res.Step β α)}{f':β'->Res (Res.Step β' α')}(h:∀ a b,R a b->Sy (QS R Q) (BS B) (f a) (f' b)){n:Nat}{a:β}{b:β'}(hr:R a b):Sy Q B (loop f n a) (loop f' n b):=by
 induction n generalizing a b with
 |zero=>exact fun _ e=>by cases e
 |succ n ih =>
  refine nF (h a b hr) (fun x y hxy=>?_) fun x hx=>?_
  ·cases x<;>cases y
   ·exact ih hxy
   ·exact hxy.elim
   ·exact hxy.elim
   ·exact uc hxy
  ·cases x with
   |next x=>exact hx.elim
   |done x=>exact fun y e=>by cases e;exact hx
theorem s_u {β' γ':Type}{R:β->β'->Prop}{T:γ->γ'->Prop}{k:β ⊕ γ->Res α}{k':β' ⊕ γ'->Res α'}(h1:∀ a b,R a b->Sy Q B (k (.inl a)) (k' (.inl b))) (h2:∀ a b,T a b->Sy Q B (k (.inr a)) (k' (.inr b))):∀ a b,QU R T a b->Sy Q B (k a) (k' b):=fun a b h=>by
 cases a<;>cases b
 ·exact h1 _ _ h
 ·exact h.elim
 ·exact h.elim
 ·exact h2 _ _ h
theorem b_u {C:γ->Prop}{k:β ⊕ γ->Res α}(h:∀ a,C a->Bd B (k (.inr a))):∀ a,BU C a->Bd B (k a):=fun a h1=>by
 cases a
 ·exact h1.elim
 ·exact h _ h1
theorem s_suml {a:β}{a':β'}{f:β->Res α}{g:γ->Res α}{f':β'->Res α'}{g':δ->Res α'}(h:Sy Q B (f a) (f' a')):Sy Q B (sum (.inl a) f g) (sum (.inl a') f' g'):=h
theorem s_sumr {a:γ}{a':δ}{f:β->Res α}{g:γ->Res α}{f':β'->Res α'}{g':δ->Res α'}(h:Sy Q B (g a) (g' a')):Sy Q B (sum (.inr a) f g) (sum (.inr a') f' g'):=h
theorem yC {a:α}(h:B a):Bd B (ok a):=fun x e=>by cases e;exact h
theorem b_done {a:α}(h:B a):Bd (BS (α:=β) B) (ok (.done a)):=yC h
theorem b_dr {a:α}(h:B a):Bd (BS (α:=β) (BU (α:=γ) B)) (ok (.done (.inr a))):=yC h
theorem sJ {b:Bool}{m:Res α}(h:Bd B m):Bd B (given b m):=h
theorem b_t {c:Bool}(hc:c=true){m n:Res α}(h:Bd B m):Bd B (br c m n):=by subst hc;exact h
theorem b_f {c:Bool}(hc:c=false){m n:Res α}(h:Bd B n):Bd B (br c m n):=by subst hc;exact h
theorem b_br {c:Bool}{m n:Res α}(h1:Bd B m) (h2:Bd B n):Bd B (br c m n):=by cases c<;>assumption
theorem bb_t {c:Bool}(hc:c=true){m n:Res β}{k:β->Res α}(h:Bd B (m.bind k)):Bd B ((br c m n).bind k):=by subst hc;exact h
theorem bb_f {c:Bool}(hc:c=false){m n:Res β}{k:β->Res α}(h:Bd B (n.bind k)):Bd B ((br c m n).bind k):=by subst hc;exact h
theorem bb_ok {a:β}{k:β->Res α}(h:Bd B (k a)):Bd B ((ok a).bind k):=h
theorem Fy {b:Bool}{m:Res β}{k:β->Res α}(h:Bd B (m.bind k)):Bd B ((given b m).bind k):=h
theorem Hc {m:Res β}{f:β->Res γ}{k:γ->Res α}(h:Bd B (m.bind fun x=>(f x).bind k)):Bd B ((m.bind f).bind k):=fun a e=>by
 rw [uk] at e;exact h a e
theorem b_suml {a:β}{f:β->Res α}{g:γ->Res α}(h:Bd B (f a)):Bd B (sum (.inl a) f g):=h
theorem b_sumr {a:γ}{f:β->Res α}{g:γ->Res α}(h:Bd B (g a)):Bd B (sum (.inr a) f g):=h
theorem CP {m:Res α}{m':Res α'}(h:Bd B m):Sy Q B m m':=fun a e=>.inl (h a e)
theorem s_le {x x' y:Int}{P:Prop}{m n:Res α}{m' n':Res α'}(h:(P/\LE.le (α:=Int) x x')\/x=x') (hb:P->Bd B m) (h1:x=x'->Sy Q B m m') (h2:Sy Q B n n'):Sy Q B (br (ile x y) m n) (br (ile x' y) m' n'):=by
 rcases h with ⟨hp,hx⟩|hx
 ·cases h3:ile x y with
  |true=>exact CP (hb hp)
  |false =>
   have h4:ile x' y=false:=by rw [nO] at h3 ⊢;omega
   rw [h4];exact h2
 ·subst hx;exact s_br (h1 rfl) h2
theorem s_idx2 {t:Ty}{l l':List t.den}{i:Int}{k:t.den->Res α}{k':t.den->Res α'}(hl:∀ x,l[i.toNat]?=some x->l'[i.toNat]?=some x) (h:∀ x,Sy Q B (k x) (k' x)):Sy Q B (idx t l i k) (idx t l' i k'):=by
 unfold idx;cases decide (0<=i)
 ·exact fun _ e=>by cases e
 ·show Sy Q B (match l[i.toNat]? with|some x=>_|none=>_) (match l'[i.toNat]? with|some x=>_|none=>_)
  cases hx:l[i.toNat]? with
  |none=>exact fun _ e=>by cases e
  |some x=>rw [hl x hx];exact h x
abbrev stp (s:RnT) (i:Int):RnT:=(s.1,(s.2.1,(s.2.2.1,(s.2.2.2.1,(s.2.2.2.2.1,(s.2.2.2.2.2.1,(s.2.2.2.2.2.2.1,(s.2.2.2.2.2.2.2.1,(i,([]:List Int))))))))))
theorem yw {s:RnT}{i:Int}{k:Int×RnT->Res α}(h:Bd B (k (5,stp s i))):Bd B ((R.bl s i).bind k):=h
theorem GY {m n:Res α}{m' n':Res α'}(h:Sy Q B m m'):Sy Q B (br true m n) (br true m' n'):=h
theorem s_brf {m n:Res α}{m' n':Res α'}(h:Sy Q B n n'):Sy Q B (br false m n) (br false m' n'):=h
theorem s_eqb {m:Res Bool}{k:Bool->Res α}{k':Bool->Res α'}(h:∀ x,Sy Q B (k x) (k' x)):Sy Q B (m.bind k) (m.bind k'):=yr h
theorem b_bind {m:Res β}{k:β->Res α}(h:∀ x,Bd B (k x)):Bd B (m.bind k):=fun a e=>by
 rw [lZ] at e
 cases hm:m.strip with
 |none=>rw [hm] at e;cases e
 |some x=>rw [hm] at e;exact h x a e
theorem b_goes {v:List UInt8×aC.den}{l:List (List UInt8)}{k:Bool×aV.den->Res α}(h:Bd B (k (false,(5,v)))):Bd B ((R.iY (5,v) l).bind k):=h
theorem FF {i:Int}{v:aC.den}{k:aV.den->Res α}(h:Bd B (k (5,([],v)))):Bd B ((R.fF i v 5).bind k):=h
theorem b_need {c:Bool}{m:Res α}(h:Bd B m):Bd B (ai c m):=by
 cases c
 ·exact fun _ e=>by cases e
 ·exact h
theorem b_idx {t:Ty}{l:List t.den}{i:Int}{k:t.den->Res α}(h:∀ x,Bd B (k x)):Bd B (idx t l i k):=fun a e=>(FM (Q:=fun _ _=>False) (B:=B) (k':=k) fun x=>CP (h x)) a e |>.elim id fun ⟨_,_,h⟩=>h.elim
theorem bb_idx {t:Ty}{l:List t.den}{i:Int}{f:t.den->Res β}{k:β->Res α}(h:∀ x,Bd B ((f x).bind k)):Bd B ((idx t l i f).bind k):=fun a e=>(GQ (Q:=fun _ _=>False) (B:=B) (f':=f) (k':=k) fun x=>CP (h x)) a e |>.elim id fun ⟨_,_,h⟩=>h.elim
theorem Ip {c:Bool}{m:Res β}{k:β->Res α}(h:Bd B (m.bind k)):Bd B ((ai c m).bind k):=by
 cases c
 ·exact fun _ e=>by cases e
 ·exact h
end Go.Mach

set_option maxRecDepth 100000
namespace Go.Mach
open Res
variable {W:Wd}{α β γ:Type}{N:NdT}{u:W.U}{c:ClT}{z:RsT}
theorem qv_i {v:α}:QV W (v,lf W N u c z) (v,rf W N u c z):=⟨_,_,_,_,_,rfl,rfl⟩
theorem qr_i:QR W (lf W N u c z) (rf W N u c z):=⟨_,_,_,_,rfl,rfl⟩
theorem qx_i {v:α}:QX W (lf W N u c z,v) (rf W N u c z,v):=⟨_,_,_,_,_,rfl,rfl⟩
theorem q3_i {x:α}{v:β}:Q3 W (x,(lf W N u c z,v)) (x,(rf W N u c z,v)):=⟨_,_,_,_,_,_,rfl,rfl⟩
theorem q4_i {x:α}{y:β}{v:γ}:Q4 W (x,(y,(lf W N u c z,v))) (x,(y,(rf W N u c z,v))):=⟨_,_,_,_,_,_,_,rfl,rfl⟩
theorem q5_i {x:α}{y:β}:Q5 W (x,(y,lf W N u c z)) (x,(y,rf W N u c z)):=⟨_,_,_,_,_,_,rfl,rfl⟩
theorem qh_i {v:α}:QH W (v,(W.m,c)) (v,(W.m',c)):=⟨_,_,rfl,rfl⟩
theorem qi_i:QI W (W.m,c) (W.m',c):=⟨_,rfl,rfl⟩
variable {s:RnT}
theorem bv_i {v:α}(h:bad W s):BV W ((v,5),s):=⟨_,_,rfl,h⟩
theorem bo_i {v:α}(h:bad W s):BO W ((5,v),s):=⟨_,_,rfl,h⟩
theorem bi_i (h:bad W s):BI W (5,s):=⟨_,rfl,h⟩
theorem bf_i (h:bad W s):BF W (false,s):=⟨_,rfl,h⟩
theorem bp_i {x:α}{v:β}(h:bad W s):BP W ((x,(5,v)),s):=⟨_,_,_,rfl,h⟩
theorem bw_i {x:α}{v:β}(h:bad W s):BW W ((x,(v,5)),s):=⟨_,_,_,rfl,h⟩
theorem bx_i {v:α}(h:bad W s):BX W (s,(5,v)):=⟨_,_,rfl,h⟩
theorem b3_i {v:α}(h:bad W s):B3 W (5,(s,v)):=⟨_,_,rfl,h⟩
theorem b4_i {x:α}{v:β}(h:bad W s):B4 W (x,(5,(s,v))):=⟨_,_,_,rfl,h⟩
theorem s_sumx {α':Type}{Q:α->α'->Prop}{B:α->Prop}{x:β ⊕ γ}{f:β->Res α}{g:γ->Res α}{f':β->Res α'}{g':γ->Res α'}(h1:∀ a,Sy Q B (f a) (f' a)) (h2:∀ a,Sy Q B (g a) (g' a)):Sy Q B (sum x f g) (sum x f' g'):=by
 cases x
 ·exact h1 _
 ·exact h2 _
variable {α' β':Type}{Q:α->α'->Prop}{B:α->Prop}
theorem wkv {k:β×RnT->Res α}{k':β×RnT->Res α'}(h:∀ v N u c z,Sy Q B (k (v,lf W N u c z)) (k' (v,rf W N u c z))):∀ a b,QV W a b->Sy Q B (k a) (k' b):=by
 rintro _ _ ⟨_,_,_,_,_,rfl,rfl⟩;exact h _ _ _ _ _
theorem wkr {k:RnT->Res α}{k':RnT->Res α'}(h:∀ N u c z,Sy Q B (k (lf W N u c z)) (k' (rf W N u c z))):∀ a b,QR W a b->Sy Q B (k a) (k' b):=by
 rintro _ _ ⟨_,_,_,_,rfl,rfl⟩;exact h _ _ _ _
theorem wkx {k:RnT×β->Res α}{k':RnT×β->Res α'}(h:∀ v N u c z,Sy Q B (k (lf W N u c z,v)) (k' (rf W N u c z,v))):∀ a b,QX W a b->Sy Q B (k a) (k' b):=by
 rintro _ _ ⟨_,_,_,_,_,rfl,rfl⟩;exact h _ _ _ _ _
theorem wk3 {k:β×(RnT×γ)->Res α}{k':β×(RnT×γ)->Res α'}(h:∀ x v N u c z,Sy Q B (k (x,(lf W N u c z,v))) (k' (x,(rf W N u c z,v)))):∀ a b,Q3 W a b->Sy Q B (k a) (k' b):=by
 rintro _ _ ⟨_,_,_,_,_,_,rfl,rfl⟩;exact h _ _ _ _ _ _
theorem wk4 {δ:Type}{k:β×(γ×(RnT×δ))->Res α}{k':β×(γ×(RnT×δ))->Res α'}(h:∀ x y v N u c z,Sy Q B (k (x,(y,(lf W N u c z,v)))) (k' (x,(y,(rf W N u c z,v))))):∀ a b,Q4 W a b->Sy Q B (k a) (k' b):=by
 rintro _ _ ⟨_,_,_,_,_,_,_,rfl,rfl⟩;exact h _ _ _ _ _ _ _
theorem wk5 {k:β×(γ×RnT)->Res α}{k':β×(γ×RnT)->Res α'}(h:∀ x y N u c z,Sy Q B (k (x,(y,lf W N u c z))) (k' (x,(y,rf W N u c z)))):∀ a b,Q5 W a b->Sy Q B (k a) (k' b):=by
 rintro _ _ ⟨_,_,_,_,_,_,rfl,rfl⟩;exact h _ _ _ _ _ _
theorem wkh {k:β×(Int×ClT)->Res α}{k':β×(Int×ClT)->Res α'}(h:∀ v c,Sy Q B (k (v,(W.m,c))) (k' (v,(W.m',c)))):∀ a b,QH W a b->Sy Q B (k a) (k' b):=by
 rintro _ _ ⟨_,_,rfl,rfl⟩;exact h _ _
theorem wki {k:Int×ClT->Res α}{k':Int×ClT->Res α'}(h:∀ c,Sy Q B (k (W.m,c)) (k' (W.m',c))):∀ a b,QI W a b->Sy Q B (k a) (k' b):=by
 rintro _ _ ⟨_,rfl,rfl⟩;exact h _
theorem wke {k:β->Res α}{k':β->Res α'}(h:∀ a,Sy Q B (k a) (k' a)):∀ a b,a=b->Sy Q B (k a) (k' b):=by
 rintro _ _ rfl;exact h _
theorem whn {k:β->Res α}:∀ a,BN a->Bd B (k a):=fun _ h=>h.elim
theorem whv {k:(β×Int)×RnT->Res α}(h:∀ v s,bad W s->Bd B (k ((v,5),s))):∀ a,BV W a->Bd B (k a):=by
 rintro _ ⟨_,_,rfl,g⟩;exact h _ _ g
theorem who {k:(Int×β)×RnT->Res α}(h:∀ v s,bad W s->Bd B (k ((5,v),s))):∀ a,BO W a->Bd B (k a):=by
 rintro _ ⟨_,_,rfl,g⟩;exact h _ _ g
theorem whi {k:Int×RnT->Res α}(h:∀ s,bad W s->Bd B (k (5,s))):∀ a,BI W a->Bd B (k a):=by
 rintro _ ⟨_,rfl,g⟩;exact h _ g
theorem whf {k:Bool×RnT->Res α}(h:∀ s,bad W s->Bd B (k (false,s))):∀ a,BF W a->Bd B (k a):=by
 rintro _ ⟨_,rfl,g⟩;exact h _ g
theorem whp {k:(β×(Int×γ))×RnT->Res α}(h:∀ x v s,bad W s->Bd B (k ((x,(5,v)),s))):∀ a,BP W a->Bd B (k a):=by
 rintro _ ⟨_,_,_,rfl,g⟩;exact h _ _ _ g
theorem whw {k:(β×(γ×Int))×RnT->Res α}(h:∀ x v s,bad W s->Bd B (k ((x,(v,5)),s))):∀ a,BW W a->Bd B (k a):=by
 rintro _ ⟨_,_,_,rfl,g⟩;exact h _ _ _ g
theorem whx {k:RnT×(Int×β)->Res α}(h:∀ v s,bad W s->Bd B (k (s,(5,v)))):∀ a,BX W a->Bd B (k a):=by
 rintro _ ⟨_,_,rfl,g⟩;exact h _ _ g
theorem wh3 {k:Int×(RnT×β)->Res α}(h:∀ v s,bad W s->Bd B (k (5,(s,v)))):∀ a,B3 W a->Bd B (k a):=by
 rintro _ ⟨_,_,rfl,g⟩;exact h _ _ g
theorem wh4 {k:β×(Int×(RnT×γ))->Res α}(h:∀ x v s,bad W s->Bd B (k (x,(5,(s,v))))):∀ a,B4 W a->Bd B (k a):=by
 rintro _ ⟨_,_,_,rfl,g⟩;exact h _ _ _ g
theorem whm {k:(Int×Bool)×(Int×ClT)->Res α}(h:∀ s,W.P 4->Bd B (k ((0,false),s))):∀ a,BM W a->Bd B (k a):=by
 rintro _ ⟨_,rfl,g⟩;exact h _ g
theorem sd {p:Prop}(h:p:=by repeat' (first|with_reducible (first|refine kV ?_|refine GY ?_|refine s_brf ?_|refine s_br ?_ ?_|refine Be ?_|refine FM fun _=>?_|refine Fe fun _=>?_|refine s_suml ?_|refine s_sumr ?_|refine zQ ?_|refine Cm ?_|refine CO ?_|refine s_eqb fun _=>?_|refine sb_br ?_ ?_|refine HS ?_|refine GQ fun _=>?_|refine HW fun _=>?_|refine yr fun _=>?_|refine Cs.call ?_ ?_|refine s_next ?_|refine s_dl ?_|refine s_dr ?_|refine s_done ?_|refine uc ?_|exact qv_i|exact qh_i|exact qr_i|exact qx_i|exact qi_i|exact q3_i|exact q4_i|exact q5_i|rfl|refine s_sumx (fun _=>?_) fun _=>?_|refine s_u ?_ ?_|refine b_u ?_|refine sJ ?_|refine yw ?_|refine b_goes ?_|refine FF ?_|refine b_need ?_|refine Ip ?_|refine b_idx fun _=>?_|refine bb_idx fun _=>?_|refine Fy ?_|refine Hc ?_|refine bb_ok ?_|refine b_suml ?_|refine b_sumr ?_|refine b_dr ?_|refine b_done ?_|refine yC ?_|refine bv_i ?_|refine bo_i ?_|refine bi_i ?_|refine bf_i ?_|refine bp_i ?_|refine bw_i ?_|refine bx_i ?_|refine b3_i ?_|refine b4_i ?_)|refine b_t rfl ?_|refine b_f rfl ?_|refine bb_t rfl ?_|refine bb_f rfl ?_|with_reducible refine b_br ?_ ?_|with_reducible refine b_bind fun _=>?_|refine nF (sr (R:=QV W) (Q:=QU (QR W) (QX W)) (B:=BU (BX W)) ?_ ?_) ?_ ?_|refine nF (sr (R:=QV W) (Q:=QU (QR W) (Q3 W)) (B:=BU (B3 W)) ?_ ?_) ?_ ?_|refine nF (sr (R:=QH W) (Q:=QI W) (B:=BN) ?_ ?_) ?_ ?_|refine nF (sr (R:=QR W) (Q:=QX W) (B:=BX W) ?_ ?_) ?_ ?_|refine nF (sr (R:=QX W) (Q:=QX W) (B:=BX W) ?_ ?_) ?_ ?_|refine nF (sr (R:=Q5 W) (Q:=QU (QV W) (Q4 W)) (B:=BU (B4 W)) ?_ ?_) ?_ ?_|refine nF (sr (R:=Eq) (Q:=Eq) (B:=BN) ?_ ?_) ?_ ?_|with_reducible (first|exact whn|(refine wke fun _=>?_;try dsimp only [lf,rf])|(refine wkv fun _ _ _ _ _=>?_;try dsimp only [lf,rf])|(refine wkr fun _ _ _ _=>?_;try dsimp only [lf,rf])|(refine wkx fun _ _ _ _ _=>?_;try dsimp only [lf,rf])|(refine wk3 fun _ _ _ _ _ _=>?_;try dsimp only [lf,rf])|(refine wk4 fun _ _ _ _ _ _ _=>?_;try dsimp only [lf,rf])|(refine wk5 fun _ _ _ _ _ _=>?_;try dsimp only [lf,rf])|(refine wkh fun _ _=>?_;try dsimp only [lf,rf])|(refine wki fun _=>?_;try dsimp only [lf,rf])|(refine whv fun _ _ _=>?_;try dsimp only [lf,rf])|(refine who fun _ _ _=>?_;try dsimp only [lf,rf])|(refine whi fun _ _=>?_;try dsimp only [lf,rf])|(refine whf fun _ _=>?_;try dsimp only [lf,rf])|(refine whp fun _ _ _ _=>?_;try dsimp only [lf,rf])|(refine whw fun _ _ _ _=>?_;try dsimp only [lf,rf])|(refine whx fun _ _ _=>?_;try dsimp only [lf,rf])|(refine wh3 fun _ _ _=>?_;try dsimp only [lf,rf])|(refine wh4 fun _ _ _ _=>?_;try dsimp only [lf,rf])|(refine whm fun _ _=>?_;try dsimp only [lf,rf]) )|assumption|dsimp only [lf,rf]|dsimp only)):p:=h
end Go.Mach

set_option maxRecDepth 100000
namespace Go.Mach
open Res
variable {W:Wd}{N:NdT}{u:W.U}{c:ClT}{z:RsT}
instance m_hhas {a}:Cs W (R.av (W.m,c) a) (R.av (W.m',c) a) Eq BN:=⟨by unfold R.av;exact sd⟩
instance m_hslot {a b}:Cs W (R.cX (W.m,c) a b) (R.cX (W.m',c) a b) Eq BN:=⟨by unfold R.cX;exact sd⟩
instance JJ {a b d e f}:Cs W (R.bA (W.m,c) a b d e f) (R.bA (W.m',c) a b d e f) (QH W) BN:=⟨by unfold R.bA;exact sd⟩
instance m_hplace {a b}:Cs W (R.cm (W.m,c) a b) (R.cm (W.m',c) a b) Eq BN:=⟨by unfold R.cm;exact sd⟩
instance m_hPut {a b d}:Cs W (R.bU (W.m,c) a b d) (R.bU (W.m',c) a b d) (QH W) BN:=⟨by unfold R.bU;exact sd⟩
instance m_hGive {a b d e}:Cs W (R.cQ (W.m,c) a b d e) (R.cQ (W.m',c) a b d e) (QH W) BN:=⟨by unfold R.cQ;exact sd⟩
instance m_hCell {a}:Cs W (R.eB (W.m,c) a) (R.eB (W.m',c) a) Eq BN:=⟨by unfold R.eB;exact sd⟩
instance m_hLook {a b}:Cs W (R.dE (W.m,c) a b) (R.dE (W.m',c) a b) Eq BN:=⟨by unfold R.dE;exact sd⟩
instance m_hKind {a}:Cs W (R.aw (W.m,c) a) (R.aw (W.m',c) a) Eq BN:=⟨by unfold R.aw;exact sd⟩
instance Ck {a}:Cs W (R.aY (W.m,c) a) (R.aY (W.m',c) a) Eq BN:=⟨by unfold R.aY;exact sd⟩
instance m_hOwn {a b}:Cs W (R.cA (W.m,c) a b) (R.cA (W.m',c) a b) Eq BN:=⟨by unfold R.cA;exact sd⟩
instance m_hFind {a b}:Cs W (R.dD (W.m,c) a b) (R.dD (W.m',c) a b) Eq BN:=⟨by unfold R.dD;exact sd⟩
instance m_hCount {a}:Cs W (R.bG (W.m,c) a) (R.bG (W.m',c) a) Eq BN:=⟨by unfold R.bG;exact sd⟩
instance m_hWrite {a b d}:Cs W (R.da (W.m,c) a b d) (R.da (W.m',c) a b d) (QH W) BN:=⟨by unfold R.da;exact sd⟩
instance m_hKeys {a}:Cs W (R.eC (W.m,c) a) (R.eC (W.m',c) a) Eq BN:=⟨by unfold R.eC;exact sd⟩
instance m_hDrop {a}:Cs W (R.eE (W.m,c) a) (R.eE (W.m',c) a) (QH W) BN:=⟨by unfold R.eE;exact sd⟩
end Go.Mach

set_option maxRecDepth 100000
namespace Go.Mach
open Res
variable {W:Wd}{N:NdT}{u:W.U}{c:ClT}{z:RsT}
instance m_hMake {a}:Cs W (R.eF (W.m,c) a) (R.eF (W.m',c) a) (QH W) (BM W):=⟨by
 unfold R.eF
 exact kV (s_le W.h4 (fun hp=>yC ⟨_,rfl,hp⟩) (fun _=>uc qh_i) sd)⟩
instance m_stop {a}:Cs W (R.bl (lf W N u c z) a) (R.bl (rf W N u c z) a) (QV W) BN:=⟨by unfold R.bl;exact sd⟩
instance m_cell {a}:Cs W (R.aT (lf W N u c z) a) (R.aT (rf W N u c z) a) (QV W) (BV W):=⟨by unfold R.aT;exact sd⟩
instance m_begins:Cs W (R.bj (lf W N u c z)) (R.bj (rf W N u c z)) (QV W) (BF W):=⟨by
 unfold R.bj
 exact kV (s_le W.h5 (fun hp=>yw (sJ (yC (bf_i hp)))) (fun _=>sd) (s_le W.h6 (fun hp=>yw (sJ (yC (bf_i hp)))) (fun _=>sd) sd))⟩
instance m_ask {a}:Cs W (R.bP (lf W N u c z) a) (R.bP (rf W N u c z) a) (QV W) (BV W):=⟨by
 unfold R.bP;refine kV ?_;dsimp only [lf,rf];have h0:=u.2.1;have h1:=u.2.2;have hl:=W.la
 cases he:(u.1 == (W.A.length:Int)) with
 |true =>
  rcases W.hA with ⟨hp,_⟩|hA
  ·exact CP (b_t rfl (yw (sJ (yC (bv_i hp)))))
  ·have he':(u.1 == (W.A'.length:Int))=true:=hA▸he;rw [he'];exact GY sd
 |false =>
  have h2:u.1≠(W.A.length:Int):=by simpa using he
  have hp:W.A <+: W.A':=W.hA.elim (·.2) fun h=>h▸List.prefix_refl _;have h3:=hp.length_le
  have he':(u.1 == (W.A'.length:Int))=false:=by simp;omega
  rw [he'];obtain ⟨t,ht⟩:=hp;refine s_brf (s_idx2 (fun x hx=>by rw [<- ht,List.getElem?_append_left (List.getElem?_eq_some_iff.1 hx).1];exact hx) fun x=>?_);have hw:w6 (u.1+1)=u.1+1:=wrap64 (by omega)
  have hu:0<=w6 (u.1+1)/\w6 (u.1+1)<=W.A.length:=by rw [hw];omega
  exact yr fun r=>kV (uc ⟨_,N,⟨_,hu⟩,c,z,rfl,rfl⟩)⟩
end Go.Mach

set_option maxRecDepth 100000
set_option maxHeartbeats 2000000
namespace Go.Mach
open Res
variable {W:Wd}{N:NdT}{u:W.U}{c:ClT}{z:RsT}
instance m_scope {a}:Cs W (R.bS (lf W N u c z) a) (R.bS (rf W N u c z) a) (QV W) (BV W):=⟨by unfold R.bS;exact sd⟩
instance JG {a b}:Cs W (R.cG (lf W N u c z) a b) (R.cG (rf W N u c z) a b) (QV W) (BV W):=⟨by unfold R.cG;exact sd⟩
instance m_declare {a b}:Cs W (R.bx (lf W N u c z) a b) (R.bx (rf W N u c z) a b) (QV W) (BV W):=⟨by unfold R.bx;exact sd⟩
instance m_turn {a}:Cs W (R.dM (lf W N u c z) a) (R.dM (rf W N u c z) a) (QV W) (BV W):=⟨by unfold R.dM;exact sd⟩
instance m_raise {a}:Cs W (R.cY (lf W N u c z) a) (R.cY (rf W N u c z) a) (QV W) (BV W):=⟨by unfold R.cY;exact sd⟩
instance m_signal {a}:Cs W (R.aE (lf W N u c z) a) (R.aE (rf W N u c z) a) (QV W) (BV W):=⟨by unfold R.aE;exact sd⟩
instance m_exit:Cs W (R.aK (lf W N u c z)) (R.aK (rf W N u c z)) (QV W) (BV W):=⟨by unfold R.aK;exact sd⟩
instance m_known {a b d}:Cs W (R.dF (lf W N u c z) a b d) (R.dF (rf W N u c z) a b d) (QV W) (BV W):=⟨by unfold R.dF;exact sd⟩
instance m_read {a b}:Cs W (R.dc (lf W N u c z) a b) (R.dc (rf W N u c z) a b) (QV W) (BV W):=⟨by unfold R.dc;exact sd⟩
instance m_result {a b}:Cs W (R.bX (lf W N u c z) a b) (R.bX (rf W N u c z) a b) (QV W) (BV W):=⟨by unfold R.bX;exact sd⟩
instance m_sort {a}:Cs W (R.ey (lf W N u c z) a) (R.ey (rf W N u c z) a) Eq BN:=⟨by unfold R.ey;exact sd⟩
instance m_unit {a b}:Cs W (R.fA (lf W N u c z) a b) (R.fA (rf W N u c z) a b) (QV W) (BV W):=⟨by unfold R.fA;exact sd⟩
instance m_item {a b d e}:Cs W (R.eu (lf W N u c z) a b d e) (R.eu (rf W N u c z) a b d e) (QV W) (BV W):=⟨by unfold R.eu;exact sd⟩
instance m_size {a}:Cs W (R.cu (lf W N u c z) a) (R.cu (rf W N u c z) a) Eq BN:=⟨by unfold R.cu;exact sd⟩
instance m_load {a b d e f}:Cs W (R.cB (lf W N u c z) a b d e f) (R.cB (rf W N u c z) a b d e f) (QV W) (BV W):=⟨by unfold R.cB;exact sd⟩
instance m_element {a b}:Cs W (R.cz (lf W N u c z) a b) (R.cz (rf W N u c z) a b) (QV W) (BV W):=⟨by unfold R.cz;exact sd⟩
instance m_view {a b d}:Cs W (R.dv (lf W N u c z) a b d) (R.dv (rf W N u c z) a b d) (QV W) (BV W):=⟨by unfold R.dv;exact sd⟩
instance m_member {a b}:Cs W (R.dW (lf W N u c z) a b) (R.dW (rf W N u c z) a b) (QV W) (BV W):=⟨by unfold R.dW;exact sd⟩
instance m_get {a}:Cs W (R.dP (lf W N u c z) a) (R.dP (rf W N u c z) a) (QV W) (BV W):=⟨by unfold R.dP;exact sd⟩
instance m_take {a b}:Cs W (R.dd (lf W N u c z) a b) (R.dd (rf W N u c z) a b) (QV W) (BV W):=⟨by unfold R.dd;exact sd⟩
instance m_write {a b d}:Cs W (R.eA (lf W N u c z) a b d) (R.eA (rf W N u c z) a b d) (QV W) (BV W):=⟨by unfold R.eA;exact sd⟩
instance m_store {a b d e f g}:Cs W (R.bo (lf W N u c z) a b d e f g) (R.bo (rf W N u c z) a b d e f g) (QV W) (BI W):=⟨by unfold R.bo;exact sd⟩
instance m_put {a b d}:Cs W (R.fa (lf W N u c z) a b d) (R.fa (rf W N u c z) a b d) (QV W) (BV W):=⟨by unfold R.fa;exact sd⟩
instance m_set {a b}:Cs W (R.fc (lf W N u c z) a b) (R.fc (rf W N u c z) a b) (QV W) (BV W):=⟨by unfold R.fc;exact sd⟩
instance m_lay {a b d}:Cs W (R.eR (lf W N u c z) a b d) (R.eR (rf W N u c z) a b d) (QV W) (BV W):=⟨by unfold R.eR;exact sd⟩
instance m_in {a b}:Cs W (R.gO (lf W N u c z) a b) (R.gO (rf W N u c z) a b) (QV W) (BV W):=⟨by unfold R.gO;exact sd⟩
instance m_sharing {a}:Cs W (R.dA (lf W N u c z) a) (R.dA (rf W N u c z) a) (QV W) (BV W):=⟨by unfold R.dA;exact sd⟩
instance m_buffer {a}:Cs W (R.dI (lf W N u c z) a) (R.dI (rf W N u c z) a) Eq BN:=⟨by unfold R.dI;exact sd⟩
instance m_viewing {a}:Cs W (R.c7 (lf W N u c z) a) (R.c7 (rf W N u c z) a) (QV W) (BV W):=⟨by unfold R.c7;exact sd⟩
instance m_over {a b d e}:Cs W (R.er (lf W N u c z) a b d e) (R.er (rf W N u c z) a b d e) (QV W) (BV W):=⟨by unfold R.er;exact sd⟩
instance m_typing {a b}:Cs W (R.dU (lf W N u c z) a b) (R.dU (rf W N u c z) a b) (QV W) (BV W):=⟨by unfold R.dU;exact sd⟩
instance m_keys {a}:Cs W (R.ep (lf W N u c z) a) (R.ep (rf W N u c z) a) (QV W) (BV W):=⟨by unfold R.ep;exact sd⟩
instance m_create {a b}:Cs W (R.dZ (lf W N u c z) a b) (R.dZ (rf W N u c z) a b) (QV W) (BV W):=⟨by unfold R.dZ;exact sd⟩
instance m_push {a b}:Cs W (R.ev (lf W N u c z) a b) (R.ev (rf W N u c z) a b) (QV W) (BV W):=⟨by unfold R.ev;exact sd⟩
instance JT {a b}:Cs W (R.cr (lf W N u c z) a b) (R.cr (rf W N u c z) a b) (QV W) (BV W):=⟨by unfold R.cr;exact sd⟩
instance m_bigged {a}:Cs W (R.dX (lf W N u c z) a) (R.dX (rf W N u c z) a) (QV W) (BV W):=⟨by unfold R.dX;exact sd⟩
instance m_failure {a b}:Cs W (R.dB (lf W N u c z) a b) (R.dB (rf W N u c z) a b) (QV W) (BV W):=⟨by unfold R.dB;exact sd⟩
instance m_viewed {a b d}:Cs W (R.dV (lf W N u c z) a b d) (R.dV (rf W N u c z) a b d) (QV W) (BV W):=⟨by unfold R.dV;exact sd⟩
instance m_place {a b}:Cs W (R.dz (lf W N u c z) a b) (R.dz (rf W N u c z) a b) (QV W) (BW W):=⟨by unfold R.dz;exact sd⟩
instance m_waits {a b d e f}:Cs W (R.eI (lf W N u c z) a b d e f) (R.eI (rf W N u c z) a b d e f) (QV W) (BV W):=⟨by unfold R.eI;exact sd⟩
instance JC {a b d e}:Cs W (R.cq (lf W N u c z) a b d e) (R.cq (rf W N u c z) a b d e) (QV W) (BV W):=⟨by unfold R.cq;exact sd⟩
end Go.Mach

set_option maxRecDepth 100000
namespace Go.Mach
open Res
variable {W:Wd}{N:NdT}{u:W.U}{c:ClT}{z:RsT}
variable {α β γ:Type}{α' β':Type}{Q:α->α'->Prop}{B:α->Prop}
def DT (c:ClT) (i:Int):Prop:=0<=i/\∃ x,c[i.toNat]?=some x/\x.1=5
theorem s_val {m:Res β}{m':Res β'}{k:β->Res α}{k':β'->Res α'}{x:β}{y:β'}(h:m.strip=some x) (h':m'.strip=some y) (hk:Sy Q B (k x) (k' y)):Sy Q B (m.bind k) (m'.bind k'):=fun a e=>by
 rw [lZ] at e ⊢;rw [h] at e;rw [h'];exact hk a e
theorem s_ff {b b':Bool}{m n:Res α}{m' n':Res α'}(h:b=false) (h':b'=false) (hk:Sy Q B n n'):Sy Q B (br b m n) (br b' m' n'):=by subst h h';exact hk
theorem s_tt {b b':Bool}{m n:Res α}{m' n':Res α'}(h:b=true) (h':b'=true) (hk:Sy Q B m m'):Sy Q B (br b m n) (br b' m' n'):=by subst h h';exact hk
theorem s_brh {b:Bool}{m n:Res α}{m' n':Res α'}(h1:b=true->Sy Q B m m') (h2:b=false->Sy Q B n n'):Sy Q B (br b m n) (br b m' n'):=by
 cases b
 ·exact h2 rfl
 ·exact h1 rfl
theorem HL {t:Sh}{l:List t.den}{i:Int}{x:t.den}{k:t.den->Res α}{k':t.den->Res α'}(h0:0<=i) (hx:l[i.toNat]?=some x) (h:Sy Q B (k x) (k' x)):Sy Q B (ct t l i k) (ct t l i k'):=by
 unfold ct;rw [decide_eq_true h0]
 show Sy Q B (match l[i.toNat]? with|some x=>_|none=>_) (match l[i.toNat]? with|some x=>_|none=>_)
 rw [hx];exact h
theorem s_and {m:Res β}{m':Res β'}{R:β->β'->Prop}{C:β->Prop}{F:β->Prop}(h:Sy R C m m') (hf:∀ a,m.strip=some a->F a):Sy (fun a b=>R a b/\F a) C m m':=fun a e=>(h a e).imp id fun ⟨b,h1,h2⟩=>⟨b,h1,h2,hf a e⟩
theorem Eo {m i:Int}(h:DT c i):(R.av (m,c) i).strip=some true:=by
 obtain ⟨h0,x,hx,_⟩:=h;have hl:=(List.getElem?_eq_some_iff.1 hx).1;unfold R.av
 have h1:ile 0 i=true:=by rw [lv];exact h0
 have h2:ilt i (c.length:Int)=true:=by rw [gu];omega
 show (br (ile 0 i) (ok (ilt i (c.length:Int))) (ok false)).strip=some true;rw [h1,h2];rfl
theorem peek_b {m i:Int}{a:jJ.den×Bool}(e:(R.aY (m,c) i).strip=some a) (h:a.1.1=5):DT c i:=by
 unfold R.aY R.av at e
 cases h1:ile 0 i with
 |false =>
  rw [show ile 0 i=false from h1] at e
  cases e;exact absurd h (by decide)
 |true =>
  rw [show ile 0 i=true from h1] at e
  cases h2:ilt i (c.length:Int) with
  |false =>
   rw [show ilt i (((m,c):Int×ClT).2.length:Int)=false from h2] at e
   cases e;exact absurd h (by decide)
  |true =>
   rw [show ilt i (((m,c):Int×ClT).2.length:Int)=true from h2] at e
   rw [lv] at h1;rw [gu] at h2
   have h3:i.toNat < c.length:=by omega
   refine ⟨h1,c[i.toNat],List.getElem?_eq_getElem h3,?_⟩;have e:(ct kh c i fun e2=>ok (((e2.1,(e2.2.1,((),((),(e2.2.2.2.2.1,(e2.2.2.2.2.2.1,(e2.2.2.2.2.2.2.1,(e2.2.2.2.2.2.2.2.1,(e2.2.2.2.2.2.2.2.2.1,(e2.2.2.2.2.2.2.2.2.2.1,(e2.2.2.2.2.2.2.2.2.2.2.1,(e2.2.2.2.2.2.2.2.2.2.2.2.1,())))))))))))),true):jJ.den×Bool)).strip=some a:=e;unfold ct at e;rw [decide_eq_true h1] at e;simp only [List.getElem?_eq_getElem h3] at e;cases e;exact h
theorem peek_k {m i:Int}(hb:DT c i){a:jJ.den×Bool}(e:(R.aY (m,c) i).strip=some a):a.1.1=5:=by
 unfold R.aY at e;obtain ⟨h0,x,hx,h5⟩:=hb;have e:((R.av (m,c) i).bind _).strip=some a:=e;rw [lZ,Eo ⟨h0,x,hx,h5⟩] at e;have e:(ct kh c i fun e2=>ok (((e2.1,(e2.2.1,((),((),(e2.2.2.2.2.1,(e2.2.2.2.2.2.1,(e2.2.2.2.2.2.2.1,(e2.2.2.2.2.2.2.2.1,(e2.2.2.2.2.2.2.2.2.1,(e2.2.2.2.2.2.2.2.2.2.1,(e2.2.2.2.2.2.2.2.2.2.2.1,(e2.2.2.2.2.2.2.2.2.2.2.2.1,())))))))))))),true):jJ.den×Bool)).strip=some a:=e;unfold ct at e;rw [decide_eq_true h0] at e;simp only [hx] at e;cases e;exact h5
theorem load_b {p:jJ.den}{a b:Int}{s t:Bool}(h:DT c p.2.2.2.2.2.2.2.2.2.1):Sy (fun x y=>∃ v c',DT c' p.2.2.2.2.2.2.2.2.2.1/\x=((v,0),lf W N u c' z)/\y=((v,0),rf W N u c' z)) BN (R.cB (lf W N u c z) p a b s t) (R.cB (rf W N u c z) p a b s t):=by
 unfold R.cB;obtain ⟨h0,x,hx,h5⟩:=h;refine kV (s_val (Eo ⟨h0,x,hx,h5⟩) (Eo ⟨h0,x,hx,h5⟩) (s_ff rfl rfl (HL h0 hx (Be ?_))));have hl:=(List.getElem?_eq_some_iff.1 hx).1;exact s_tt (by rw [h5];rfl) (by rw [h5];rfl) (yr fun _=>kV (Be (yr fun _=>kV (uc ⟨_,_,⟨h0,x,by rw [List.getElem?_set_self hl],h5⟩,rfl,rfl⟩))))
theorem He {p:jJ.den}{a b d:Int}{s t:Bool}(h:DT c p.2.2.2.2.2.2.2.2.2.1):Sy (QV W) BN (R.bo (lf W N u c z) p a b d s t) (R.bo (rf W N u c z) p a b d s t):=by
 unfold R.bo;refine kV (nF (s_and (Ck (W:=W) (c:=c)).h fun x e=>peek_k h e) ?_ fun _ h=>h.elim);rintro x _ ⟨rfl,h5⟩;exact kV (s_tt (by rw [h5];rfl) (by rw [h5];rfl) sd)
instance m_change {a b d}:Cs W (R.cw (lf W N u c z) a b d) (R.cw (rf W N u c z) a b d) (QV W) (BV W):=⟨by
 unfold R.cw;refine kV (yr fun _=>kV (nF (s_and (Ck (W:=W) (c:=c)).h fun x e h=>peek_b e h) ?_ fun _ h=>h.elim));rintro x _ ⟨rfl,hf⟩;refine kV (s_brh (fun _=>sd) fun h=>?_);refine nF (load_b (hf (by simpa using h))) ?_ fun _ h=>h.elim;rintro _ _ ⟨v,c',hb,rfl,rfl⟩
 exact kV (yr fun _=>kV (yr fun _=>nF (He hb) sd fun _ h=>h.elim))⟩
end Go.Mach

set_option maxRecDepth 100000
set_option maxHeartbeats 2000000
namespace Go.Mach
open Res
variable {W:Wd}{N:NdT}{u:W.U}{c:ClT}{z:RsT}
instance m_atomic {a b}:Cs W (R.dS (lf W N u c z) a b) (R.dS (rf W N u c z) a b) (QV W) (BV W):=⟨by unfold R.dS;exact sd⟩
instance m_thrown {a}:Cs W (R.dY (lf W N u c z) a) (R.dY (rf W N u c z) a) Eq BN:=⟨by unfold R.dY;exact sd⟩
end Go.Mach

set_option maxRecDepth 100000
set_option maxHeartbeats 2000000
namespace Go.Mach
open Res
variable {W:Wd}{N:NdT}{u:W.U}{c:ClT}{z:RsT}
class GS (W:Wd) (G:au):Prop where
 f_list:∀ {N u c z a b},Cs W (G.eval_run_list (lf W N u c z) a b) (G.eval_run_list (rf W N u c z) a b) (QV W) (BO W)
 zB:∀ {N u c z a b d},Cs W (G.eval_run_statement (lf W N u c z) a b d) (G.eval_run_statement (rf W N u c z) a b d) (QV W) (BO W)
 f_act:∀ {N u c z a b d},Cs W (G.eval_run_act (lf W N u c z) a b d) (G.eval_run_act (rf W N u c z) a b d) (QV W) (BO W)
 yR:∀ {N u c z a b},Cs W (G.eval_run_expression (lf W N u c z) a b) (G.eval_run_expression (rf W N u c z) a b) (QV W) (BV W)
 Ht:∀ {N u c z a b},Cs W (G.eval_run_block (lf W N u c z) a b) (G.eval_run_block (rf W N u c z) a b) (QV W) (BO W)
 HR:∀ {N u c z a b},Cs W (G.eval_run_decls (lf W N u c z) a b) (G.eval_run_decls (rf W N u c z) a b) (QV W) (BO W)
 FK:∀ {N u c z a b},Cs W (G.eval_run_choice (lf W N u c z) a b) (G.eval_run_choice (rf W N u c z) a b) (QV W) (BO W)
 H3:∀ {N u c z a b d},Cs W (G.eval_run_while (lf W N u c z) a b d) (G.eval_run_while (rf W N u c z) a b d) (QV W) (BO W)
 f_loop:∀ {N u c z a b d},Cs W (G.eval_run_loop (lf W N u c z) a b d) (G.eval_run_loop (rf W N u c z) a b d) (QV W) (BO W)
 f_try:∀ {N u c z a b},Cs W (G.eval_run_try (lf W N u c z) a b) (G.eval_run_try (rf W N u c z) a b) (QV W) (BO W)
 Ie:∀ {N u c z a b},Cs W (G.eval_run_value (lf W N u c z) a b) (G.eval_run_value (rf W N u c z) a b) (QV W) (BV W)
 IK:∀ {N u c z a b},Cs W (G.eval_run_asked (lf W N u c z) a b) (G.eval_run_asked (rf W N u c z) a b) (QV W) (BP W)
 IM:∀ {N u c z a b},Cs W (G.eval_run_first (lf W N u c z) a b) (G.eval_run_first (rf W N u c z) a b) (QV W) (BP W)
 HO:∀ {N u c z a b d e},Cs W (G.eval_run_catch (lf W N u c z) a b d e) (G.eval_run_catch (rf W N u c z) a b d e) (QV W) (BO W)
 H9:∀ {N u c z a b},Cs W (G.eval_run_array (lf W N u c z) a b) (G.eval_run_array (rf W N u c z) a b) (QV W) (BV W)
 FC:∀ {N u c z a b},Cs W (G.eval_run_object (lf W N u c z) a b) (G.eval_run_object (rf W N u c z) a b) (QV W) (BV W)
 Ae:∀ {N u c z a b d},Cs W (G.eval_run_operation (lf W N u c z) a b d) (G.eval_run_operation (rf W N u c z) a b d) (QV W) (BV W)
 H4:∀ {N u c z a b d},Cs W (G.eval_run_unary (lf W N u c z) a b d) (G.eval_run_unary (rf W N u c z) a b d) (QV W) (BV W)
 f_step:∀ {N u c z a b},Cs W (G.eval_run_step (lf W N u c z) a b) (G.eval_run_step (rf W N u c z) a b) (QV W) (BV W)
 GV:∀ {N u c z a b},Cs W (G.eval_run_binary (lf W N u c z) a b) (G.eval_run_binary (rf W N u c z) a b) (QV W) (BV W)
 Ib:∀ {N u c z a b},Cs W (G.eval_run_logic (lf W N u c z) a b) (G.eval_run_logic (rf W N u c z) a b) (QV W) (BV W)
 Fa:∀ {N u c z a b},Cs W (G.eval_run_assign (lf W N u c z) a b) (G.eval_run_assign (rf W N u c z) a b) (QV W) (BV W)
 GR:∀ {N u c z a b},Cs W (G.eval_run_callee (lf W N u c z) a b) (G.eval_run_callee (rf W N u c z) a b) (QV W) (BV W)
 zD:∀ {N u c z a b},Cs W (G.eval_run_arguments (lf W N u c z) a b) (G.eval_run_arguments (rf W N u c z) a b) (QV W) (BW W)
 IY:∀ {N u c z a b},Cs W (G.eval_run_fresh (lf W N u c z) a b) (G.eval_run_fresh (rf W N u c z) a b) (QV W) (BV W)
 Bg:∀ {N u c z a b},Cs W (G.eval_run_property (lf W N u c z) a b) (G.eval_run_property (rf W N u c z) a b) (QV W) (BV W)
 Ih:∀ {N u c z a b},Cs W (G.eval_run_parts (lf W N u c z) a b) (G.eval_run_parts (rf W N u c z) a b) (QV W) (BW W)
 GD:∀ {N u c z a b},Cs W (G.eval_run_called (lf W N u c z) a b) (G.eval_run_called (rf W N u c z) a b) (QV W) (BW W)
 f_call:∀ {N u c z a b d},Cs W (G.eval_run_call (lf W N u c z) a b d) (G.eval_run_call (rf W N u c z) a b d) (QV W) (BV W)
 FI:∀ {N u c z a b},Cs W (G.eval_run_builds (lf W N u c z) a b) (G.eval_run_builds (rf W N u c z) a b) (QV W) (BV W)
 IG:∀ {N u c z a b d},Cs W (G.eval_run_apply (lf W N u c z) a b d) (G.eval_run_apply (rf W N u c z) a b d) (QV W) (BV W)
 f_does:∀ {N u c z a b d},Cs W (G.eval_run_does (lf W N u c z) a b d) (G.eval_run_does (rf W N u c z) a b d) (QV W) (BV W)
 f_host:∀ {N u c z a b},Cs W (G.eval_run_host (lf W N u c z) a b) (G.eval_run_host (rf W N u c z) a b) (QV W) (BV W)
 A4:∀ {N u c z a},Cs W (G.eval_run_receives (lf W N u c z) a) (G.eval_run_receives (rf W N u c z) a) (QV W) (BV W)
attribute [instance] GS.f_list GS.zB GS.f_act GS.yR GS.Ht GS.HR GS.FK GS.H3 GS.f_loop GS.f_try GS.Ie GS.IK GS.IM GS.HO GS.H9 GS.FC GS.Ae GS.H4 GS.f_step GS.GV GS.Ib GS.Fa GS.GR GS.zD GS.IY GS.Bg GS.Ih GS.GD GS.f_call GS.FI GS.IG GS.f_does GS.f_host GS.A4
variable {G:au} [GS W G]
instance m_list {a b}:Cs W (R.eval_run_list G (lf W N u c z) a b) (R.eval_run_list G (rf W N u c z) a b) (QV W) (BO W):=⟨by unfold R.eval_run_list;exact sd⟩
instance zn {a b d}:Cs W (R.eval_run_statement G (lf W N u c z) a b d) (R.eval_run_statement G (rf W N u c z) a b d) (QV W) (BO W):=⟨by unfold R.eval_run_statement;exact sd⟩
instance m_act {a b d}:Cs W (R.eval_run_act G (lf W N u c z) a b d) (R.eval_run_act G (rf W N u c z) a b d) (QV W) (BO W):=⟨by unfold R.eval_run_act;exact sd⟩
instance yW {a b}:Cs W (R.eval_run_expression G (lf W N u c z) a b) (R.eval_run_expression G (rf W N u c z) a b) (QV W) (BV W):=⟨by unfold R.eval_run_expression;exact sd⟩
instance Im {a b}:Cs W (R.eval_run_block G (lf W N u c z) a b) (R.eval_run_block G (rf W N u c z) a b) (QV W) (BO W):=⟨by unfold R.eval_run_block;exact sd⟩
instance HA {a b}:Cs W (R.eval_run_decls G (lf W N u c z) a b) (R.eval_run_decls G (rf W N u c z) a b) (QV W) (BO W):=⟨by unfold R.eval_run_decls;exact sd⟩
instance Ez {a b}:Cs W (R.eval_run_choice G (lf W N u c z) a b) (R.eval_run_choice G (rf W N u c z) a b) (QV W) (BO W):=⟨by unfold R.eval_run_choice;exact sd⟩
instance IX {a b d}:Cs W (R.eval_run_while G (lf W N u c z) a b d) (R.eval_run_while G (rf W N u c z) a b d) (QV W) (BO W):=⟨by unfold R.eval_run_while;exact sd⟩
instance m_loop {a b d}:Cs W (R.eval_run_loop G (lf W N u c z) a b d) (R.eval_run_loop G (rf W N u c z) a b d) (QV W) (BO W):=⟨by unfold R.eval_run_loop;exact sd⟩
instance m_try {a b}:Cs W (R.eval_run_try G (lf W N u c z) a b) (R.eval_run_try G (rf W N u c z) a b) (QV W) (BO W):=⟨by unfold R.eval_run_try;exact sd⟩
instance Hv {a b}:Cs W (R.eval_run_value G (lf W N u c z) a b) (R.eval_run_value G (rf W N u c z) a b) (QV W) (BV W):=⟨by unfold R.eval_run_value;exact sd⟩
instance H0 {a b}:Cs W (R.eval_run_asked G (lf W N u c z) a b) (R.eval_run_asked G (rf W N u c z) a b) (QV W) (BP W):=⟨by unfold R.eval_run_asked;exact sd⟩
instance Hw {a b}:Cs W (R.eval_run_first G (lf W N u c z) a b) (R.eval_run_first G (rf W N u c z) a b) (QV W) (BP W):=⟨by unfold R.eval_run_first;exact sd⟩
instance Hs {a b d e}:Cs W (R.eval_run_catch G (lf W N u c z) a b d e) (R.eval_run_catch G (rf W N u c z) a b d e) (QV W) (BO W):=⟨by unfold R.eval_run_catch;exact sd⟩
instance HU {a b}:Cs W (R.eval_run_array G (lf W N u c z) a b) (R.eval_run_array G (rf W N u c z) a b) (QV W) (BV W):=⟨by unfold R.eval_run_array;exact sd⟩
instance GA {a b}:Cs W (R.eval_run_object G (lf W N u c z) a b) (R.eval_run_object G (rf W N u c z) a b) (QV W) (BV W):=⟨by unfold R.eval_run_object;exact sd⟩
instance AF {a b d}:Cs W (R.eval_run_operation G (lf W N u c z) a b d) (R.eval_run_operation G (rf W N u c z) a b d) (QV W) (BV W):=⟨by unfold R.eval_run_operation;exact sd⟩
instance G5 {a b d}:Cs W (R.eval_run_unary G (lf W N u c z) a b d) (R.eval_run_unary G (rf W N u c z) a b d) (QV W) (BV W):=⟨by unfold R.eval_run_unary;exact sd⟩
instance m_step {a b}:Cs W (R.eval_run_step G (lf W N u c z) a b) (R.eval_run_step G (rf W N u c z) a b) (QV W) (BV W):=⟨by unfold R.eval_run_step;exact sd⟩
instance E1 {a b}:Cs W (R.eval_run_binary G (lf W N u c z) a b) (R.eval_run_binary G (rf W N u c z) a b) (QV W) (BV W):=⟨by unfold R.eval_run_binary;exact sd⟩
instance Hj {a b}:Cs W (R.eval_run_logic G (lf W N u c z) a b) (R.eval_run_logic G (rf W N u c z) a b) (QV W) (BV W):=⟨by unfold R.eval_run_logic;exact sd⟩
instance Ec {a b}:Cs W (R.eval_run_assign G (lf W N u c z) a b) (R.eval_run_assign G (rf W N u c z) a b) (QV W) (BV W):=⟨by unfold R.eval_run_assign;exact sd⟩
instance FP {a b}:Cs W (R.eval_run_callee G (lf W N u c z) a b) (R.eval_run_callee G (rf W N u c z) a b) (QV W) (BV W):=⟨by unfold R.eval_run_callee;exact sd⟩
instance Aa {a b}:Cs W (R.eval_run_arguments G (lf W N u c z) a b) (R.eval_run_arguments G (rf W N u c z) a b) (QV W) (BW W):=⟨by unfold R.eval_run_arguments;exact sd⟩
instance Hg {a b}:Cs W (R.eval_run_fresh G (lf W N u c z) a b) (R.eval_run_fresh G (rf W N u c z) a b) (QV W) (BV W):=⟨by unfold R.eval_run_fresh;exact sd⟩
instance B0 {a b}:Cs W (R.eval_run_property G (lf W N u c z) a b) (R.eval_run_property G (rf W N u c z) a b) (QV W) (BV W):=⟨by unfold R.eval_run_property;exact sd⟩
instance HZ {a b}:Cs W (R.eval_run_parts G (lf W N u c z) a b) (R.eval_run_parts G (rf W N u c z) a b) (QV W) (BW W):=⟨by unfold R.eval_run_parts;exact sd⟩
instance E2 {a b}:Cs W (R.eval_run_called G (lf W N u c z) a b) (R.eval_run_called G (rf W N u c z) a b) (QV W) (BW W):=⟨by unfold R.eval_run_called;exact sd⟩
instance m_call {a b d}:Cs W (R.eval_run_call G (lf W N u c z) a b d) (R.eval_run_call G (rf W N u c z) a b d) (QV W) (BV W):=⟨by unfold R.eval_run_call;exact sd⟩
instance GM {a b}:Cs W (R.eval_run_builds G (lf W N u c z) a b) (R.eval_run_builds G (rf W N u c z) a b) (QV W) (BV W):=⟨by unfold R.eval_run_builds;exact sd⟩
instance IV {a b d}:Cs W (R.eval_run_apply G (lf W N u c z) a b d) (R.eval_run_apply G (rf W N u c z) a b d) (QV W) (BV W):=⟨by unfold R.eval_run_apply;exact sd⟩
instance m_does {a b d}:Cs W (R.eval_run_does G (lf W N u c z) a b d) (R.eval_run_does G (rf W N u c z) a b d) (QV W) (BV W):=⟨by unfold R.eval_run_does;exact sd⟩
instance m_host {a b}:Cs W (R.eval_run_host G (lf W N u c z) a b) (R.eval_run_host G (rf W N u c z) a b) (QV W) (BV W):=⟨by unfold R.eval_run_host;exact sd⟩
instance CA {a}:Cs W (R.eval_run_receives G (lf W N u c z) a) (R.eval_run_receives G (rf W N u c z) a) (QV W) (BV W):=⟨by unfold R.eval_run_receives;exact sd⟩
end Go.Mach

set_option maxRecDepth 100000
set_option maxHeartbeats 2000000
namespace Go.Mach
open Res
variable {W:Wd}{N:NdT}{u:W.U}{c:ClT}{z:RsT}
theorem Hu {α α':Type}{Q:α->α'->Prop}{B:α->Prop}:Cs W .stuck .stuck Q B:=⟨fun _ e=>by cases e⟩
theorem gs:∀ n,GS W (cI n)
 |0=>by constructor<;>exact Hu
 |n+1=>by
  have:=gs n;exact ⟨m_list,zn,m_act,yW,Im,HA,Ez,IX,m_loop,m_try,Hv,H0,Hw,Hs,HU,GA,AF,G5,m_step,E1,Hj,Ec,FP,Aa,Hg,B0,HZ,E2,m_call,GM,IV,m_does,m_host,CA⟩
instance {n}:GS W (cI n):=gs n
instance DK:Cs W (R.dC (lf W N u c z)) (R.dC (rf W N u c z)) (QV W) (BO W):=⟨by unfold R.dC;exact sd⟩
end Go.Mach

set_option maxRecDepth 100000
namespace Go.Mach
open Res
theorem dw0 {P:Prop}(h:P:=by repeat' (first|with_reducible (first|apply Safe.g'|apply Safe.br'|apply Safe.bd'|apply Safe.sm'|intro _|infer_instance))):P:=h
theorem dw1 {P:Prop}(h:P:=by repeat' (first|with_reducible (first|refine aD ?_|refine aA fun _=>?_|refine eD ?_|refine fZ (fun _=>?_) fun _=>?_|refine lg (fun _=>?_) fun _=>?_|refine bL (fun _=>?_) fun _=>?_|refine jh rfl ?_|refine ik rfl ?_|refine aH (fun _=>?_) fun _=>?_|refine pX ?_|refine yu ?_|refine tY ?_|refine q_e ?_|refine q_p fun _ _=>?_|refine q_b fun _=>?_|refine bN ?_ ?_ fun _ _ _=>?_|refine bu ?_ ?_ fun _ _ _=>?_|refine gL ?_|refine aB (dw ?_) fun _ _=>?_|refine iM ?_ ?_|refine nr ?_ ?_|refine sZ ?_ ?_|refine n_d ?_ ?_|refine tD (fun _=>?_) fun _=>?_|exact safe|refine fP ?_)|exact trivial|dsimp only [Nx,Dn]|with_reducible (first|rfl|refine And.intro ?_ ?_|intro _|contradiction)|omega|refine bI (by decide) ?_|(simp (disch:=omega) only [wrap64,gf,jv,List.length_append,List.length_cons,List.length_nil,List.length_take,List.length_drop,List.length_set,List.length_replicate,List.length_reverse]<;>omega)|(simp (disch:=omega) only [wrap64,gf,jv,List.length_append,List.length_cons,List.length_nil,List.length_take,List.length_drop,List.length_set,List.length_replicate,List.length_reverse] at*<;> omega)|exact Int.tmod_nonneg _ (by omega)|(simp_all [gu,lv,ly,nO]<;>omega))):P:=h
theorem dw2 {P:Prop}(h:P:=by repeat' (first|with_reducible (first|refine aD ?_|refine aA fun _=>?_|refine eD ?_|refine fZ (fun _=>?_) fun _=>?_|refine lg (fun _=>?_) fun _=>?_|refine bL (fun _=>?_) fun _=>?_|refine jh rfl ?_|refine ik rfl ?_|refine aH (fun _=>?_) fun _=>?_|refine pX ?_|refine yu ?_|refine tY ?_|refine q_e ?_|refine q_p fun _ _=>?_|refine q_b fun _=>?_|refine bN ?_ ?_ fun _ _ _=>?_|refine bu ?_ ?_ fun _ _ _=>?_|refine gL ?_|refine aB (dw ?_) fun _ _=>?_|refine aB (oH ?_ ?_) fun _ _=>?_|refine aB (qM ?_ ?_) fun _ _=>?_|refine aB (qi ?_ ?_) fun _ _=>?_|refine aB (sW ?_) fun _ _=>?_|refine aB (xG ?_ ?_) fun _ _=>?_|refine iM ?_ ?_|refine nr ?_ ?_|refine sZ ?_ ?_|refine n_d ?_ ?_|refine tD (fun _=>?_) fun _=>?_|exact safe|refine fP ?_)|exact trivial|dsimp only [Nx,Dn]|with_reducible (first|rfl|refine And.intro ?_ ?_|intro _|contradiction)|omega|refine bI (by decide) ?_|(simp (disch:=omega) only [wrap64,gf,jv,List.length_append,List.length_cons,List.length_nil,List.length_take,List.length_drop,List.length_set,List.length_replicate,List.length_reverse]<;>omega)|(simp (disch:=omega) only [wrap64,gf,jv,List.length_append,List.length_cons,List.length_nil,List.length_take,List.length_drop,List.length_set,List.length_replicate,List.length_reverse] at*<;> omega)|exact Int.tmod_nonneg _ (by omega)|(simp_all [gu,lv,ly,nO]<;>omega))):P:=h
theorem dw3 {P:Prop}(h:P:=by repeat' (first|with_reducible (first|refine aD ?_|refine aA fun _=>?_|refine eD ?_|refine fZ (fun _=>?_) fun _=>?_|refine lg (fun _=>?_) fun _=>?_|refine bL (fun _=>?_) fun _=>?_|refine jh rfl ?_|refine ik rfl ?_|refine aH (fun _=>?_) fun _=>?_|refine pX ?_|refine yu ?_|refine tY ?_|refine q_e ?_|refine q_p fun _ _=>?_|refine q_b fun _=>?_|refine bN ?_ ?_ fun _ _ _=>?_|refine bu ?_ ?_ fun _ _ _=>?_|refine gL ?_|refine aB (dw ?_) fun _ _=>?_|refine aB (oH ?_ ?_) fun _ _=>?_|refine iM ?_ ?_|refine nr ?_ ?_|refine sZ ?_ ?_|refine n_d ?_ ?_|refine tD (fun _=>?_) fun _=>?_|exact safe|refine fP ?_)|exact trivial|dsimp only [Nx,Dn]|with_reducible (first|rfl|refine And.intro ?_ ?_|intro _|contradiction)|omega|refine bI (by decide) ?_|(simp (disch:=omega) only [wrap64,gf,jv,List.length_append,List.length_cons,List.length_nil,List.length_take,List.length_drop,List.length_set,List.length_replicate,List.length_reverse]<;>omega)|(simp (disch:=omega) only [wrap64,gf,jv,List.length_append,List.length_cons,List.length_nil,List.length_take,List.length_drop,List.length_set,List.length_replicate,List.length_reverse] at*<;> omega)|exact Int.tmod_nonneg _ (by omega)|(simp_all [gu,lv,ly,nO]<;>omega))):P:=h
theorem dw4 {P:Prop}(h:P:=by repeat' (first|with_reducible (first|refine aD ?_|refine aA fun _=>?_|refine eD ?_|refine fZ (fun _=>?_) fun _=>?_|refine lg (fun _=>?_) fun _=>?_|refine bL (fun _=>?_) fun _=>?_|refine jh rfl ?_|refine ik rfl ?_|refine aH (fun _=>?_) fun _=>?_|refine pX ?_|refine yu ?_|refine tY ?_|refine q_e ?_|refine q_p fun _ _=>?_|refine q_b fun _=>?_|refine bN ?_ ?_ fun _ _ _=>?_|refine bu ?_ ?_ fun _ _ _=>?_|refine gL ?_|refine aB (dw ?_) fun _ _=>?_|refine aB (oH ?_ ?_) fun _ _=>?_|refine aB (qM ?_ ?_) fun _ _=>?_|refine aB (qi ?_ ?_) fun _ _=>?_|refine iM ?_ ?_|refine nr ?_ ?_|refine sZ ?_ ?_|refine n_d ?_ ?_|refine tD (fun _=>?_) fun _=>?_|exact safe|refine fP ?_)|exact trivial|dsimp only [Nx,Dn]|with_reducible (first|rfl|refine And.intro ?_ ?_|intro _|contradiction)|omega|refine bI (by decide) ?_|(simp (disch:=omega) only [wrap64,gf,jv,List.length_append,List.length_cons,List.length_nil,List.length_take,List.length_drop,List.length_set,List.length_replicate,List.length_reverse]<;>omega)|(simp (disch:=omega) only [wrap64,gf,jv,List.length_append,List.length_cons,List.length_nil,List.length_take,List.length_drop,List.length_set,List.length_replicate,List.length_reverse] at*<;> omega)|exact Int.tmod_nonneg _ (by omega)|(simp_all [gu,lv,ly,nO]<;>omega))):P:=h
theorem dw5 {P:Prop}(h:P:=by repeat' (first|with_reducible (first|refine aD ?_|refine aA fun _=>?_|refine eD ?_|refine fZ (fun _=>?_) fun _=>?_|refine lg (fun _=>?_) fun _=>?_|refine bL (fun _=>?_) fun _=>?_|refine jh rfl ?_|refine ik rfl ?_|refine aH (fun _=>?_) fun _=>?_|refine pX ?_|refine yu ?_|refine tY ?_|refine q_e ?_|refine q_p fun _ _=>?_|refine q_b fun _=>?_|refine bN ?_ ?_ fun _ _ _=>?_|refine bu ?_ ?_ fun _ _ _=>?_|refine gL ?_|refine iM ?_ ?_|refine nr ?_ ?_|refine sZ ?_ ?_|refine n_d ?_ ?_|refine tD (fun _=>?_) fun _=>?_|exact safe|refine fP ?_)|exact trivial|dsimp only [Nx,Dn]|with_reducible (first|rfl|refine And.intro ?_ ?_|intro _|contradiction)|omega|refine bI (by decide) ?_|(simp (disch:=omega) only [wrap64,gf,jv,List.length_append,List.length_cons,List.length_nil,List.length_take,List.length_drop,List.length_set,List.length_replicate,List.length_reverse]<;>omega)|(simp (disch:=omega) only [wrap64,gf,jv,List.length_append,List.length_cons,List.length_nil,List.length_take,List.length_drop,List.length_set,List.length_replicate,List.length_reverse] at*<;> omega)|exact Int.tmod_nonneg _ (by omega)|(simp_all [gu,lv,ly,nO]<;>omega))):P:=h
instance (n):Safe (rn n):=⟨trivial⟩
instance (n):Safe (qE n):=by unfold qE;split<;>exact ⟨trivial⟩
instance (n c):Safe (ixbRun n c):=⟨trivial⟩
instance Gu {a}:Safe (R.jm a):=by
 unfold R.jm;refine ⟨aA fun h=>?_⟩;simp only [Sg.i,oks,Sh.ok,Ty.ok,List.map,Par.v,Bool.and_eq_true] at h;have:=ny h
 have hn:(lU a).length=a.length:=by simp [lU]
 refine aB (mR (fun i=>i) a.length (by omega) (by omega) (by omega) fun i h0 h1=>?_).ok fun x _=>?_
 ·exact dw5
 ·cases a with
  |nil=>cases x<;>exact trivial
  |cons=>rw [List.length_cons] at hn;exact dw5
instance Gp {a}:mD (R.iF a) (fun r=>r.length<=a.length):=by
 unfold R.iF;refine ⟨aA fun h=>?_⟩;simp only [Sg.i,oks,Sh.ok,Ty.ok,List.map,Par.v,Bool.and_eq_true] at h;have:=yM h;refine aB (ko (fun m=>m.length) (by omega) (fun m=>m.length<=a.length) (Nat.le_refl _) fun m hm=>?_) fun x hx=>hx;exact dw5
instance I7 {a}:mD (R.gA a) (fun r=>r.length<=a.length):=by
 unfold R.gA;refine ⟨aA fun h=>?_⟩;simp only [Sg.i,oks,Sh.ok,Ty.ok,List.map,Par.v,Bool.and_eq_true] at h;have:=lj h;refine aB (ko (fun m=>m.length) (by omega) (fun m=>m.length<=a.length) (Nat.le_refl _) fun m hm=>?_) fun x hx=>hx;exact dw5
instance I2 {a b}:mD (R.dt a b) (fun r=>r.2.length<=a.length):=by
 unfold R.dt;refine ⟨?_⟩;exact dw5
instance IA {a}:mD (R.kN a) (fun r=>r.1.2.length<=8):=by
 unfold R.kN;refine ⟨aA fun h=>?_⟩;simp only [Sg.i,oks,Sh.ok,Ty.ok,List.map,Par.v,Bool.and_eq_true] at h;have:=ny h
 have hn (a:List UInt8):List.length (α:=(Ty.int IntKind.u8).den) (lU a)=a.length:=by simp [lU]
 have hn1:=hn a;refine aB (R:=fun d:List UInt8×Bool=>d.1=a/\(d.2=true->0 < a.length)) ?_ fun d ⟨hd,hd2⟩=>aB (R:=fun d:List UInt8=>d.length<=a.length) ?_ fun t ht=>?_
 ·refine fZ (fun h0=>bu (by omega) (by omega) fun _ _ _=>aD ⟨rfl,fun _=>by omega⟩) fun _=>aD ⟨rfl,fun h=>by cases h⟩
 ·refine aH (fun h=>?_) fun _=>aD (by rw [hd];exact Nat.le_refl _);have:=hd2 h;exact gL (iM (by omega) (iM (by omega) (aD (by simp))))
 ·have hn2:=hn t;refine aB (R:=fun _=>True) (by exact dw5) fun _ _=>aH (fun _=>aD (by simp)) fun _=>?_
  refine aB (iC (Q:=fun m:List Int ⊕ (Int×az.den)=>match m with|.inl m=>m.length<=8|.inr m=>m.2.2.length<=8) (fun i=>i.2) t.length (by omega) (fun x=>x.1.length<=8) (by simp) (by simp) (by simp) fun i h0 h1 hI=>fZ (fun hi=>bu (by omega) (by omega) fun _ _ _=>aB (iC (Q:=fun r=>r.2.length=i.1.length) (fun i=>i.2.1) i.1.length (by omega) (fun x=>x.2.2.length=i.1.length) (by simp) (by simp) (by simp) fun k k0 k1 hK=>?_) fun m hm=>?_) fun _=>?_) fun x hx=>?_
  ·exact dw5
  ·exact dw5
  ·exact aD hI
  ·cases x with
   |inl m=>exact je (by have h8:List.length m<=8:=hx;exact dw5)
   |inr m=>exact jf (aD hx)
theorem dw {a}(hl:List.length a<=2^40):(R.aj a).sat (fun r=>r.length=a.length):=by
 unfold R.aj;refine aA fun h=>?_
 have hn:List.length (α:=(Ty.int IntKind.u8).den) (lU a)=a.length:=by simp [lU]
 refine aB (iC (Q:=fun r=>r.length=a.length) (fun i=>i.2) a.length (by omega) (fun x=>x.1.length=x.2.toNat) (by simp) (by simp) (by simp) fun i h0 h1 hI=>?_) fun x hx=>?_<;>exact dw1
instance G2 {x_0}:Safe (R.jS x_0):=by unfold R.jS;exact dw0
instance Gx {x_0}:Safe (R.gZ x_0):=by unfold R.gZ;exact dw0
instance yD {a b}:Safe (R.cy a b):=by
 unfold R.cy;refine ⟨aA fun h=>?_⟩;simp only [Sg.i,oks,Sh.ok,Ty.ok,List.map,Par.v,Bool.and_eq_true] at h;have:=lj h.1
 refine aB (mR (fun i=>i) a.length (by omega) (by omega) (by omega) fun i h0 h1=>?_).ok fun x _=>?_<;>exact dw1
instance wu {s_0 v_1}:Safe (R.cW s_0 v_1):=by unfold R.cW;exact dw0
instance Ea {a}:Safe (R.iK a):=by
 unfold R.iK;refine ⟨aA fun h=>?_⟩;simp only [Sg.i,oks,Sh.ok,Ty.ok,List.map,Par.v,Bool.and_eq_true] at h;have:=lj h
 refine aB (mR (fun i=>i.2) a.length (by omega) (by omega) (by simp) fun i h0 h1=>?_).ok fun x _=>?_<;>exact dw1
instance yH {a b}:Safe (R.cj a b):=by
 unfold R.cj;refine ⟨aA fun h=>?_⟩;simp only [Sg.i,oks,Sh.ok,Ty.ok,List.map,Par.v,Bool.and_eq_true] at h;have:=lj h.1
 refine eD (bL (fun _=>?_) fun _=>?_)<;>try exact aD trivial
 refine aB (mR (fun i=>i) a.length (by omega) (by omega) (by omega) fun i h0 h1=>?_).ok fun x _=>?_<;>exact dw1
instance HH {a_0 b_1}:Safe (R.gn a_0 b_1):=by unfold R.gn;exact dw0
instance Dk {x_0}:Safe (R.gh x_0):=by unfold R.gh;exact dw0
instance qq {a b}:Safe (R.aq a b):=by
 unfold R.aq;refine ⟨aA fun h=>?_⟩;simp only [Sg.i,oks,Sh.ok,Ty.ok,List.map,Par.v,Bool.and_eq_true] at h;have:=lj h.1
 refine aB (mR (fun i=>i) a.length (by omega) (by omega) (by omega) fun i h0 h1=>?_).ok fun x _=>?_<;>exact dw1
instance px {s_0 f_1}:Safe (R.ak s_0 f_1):=by unfold R.ak;exact dw0
instance Gj {a}:Safe (R.jQ a):=by
 unfold R.jQ;refine ⟨aA fun h=>?_⟩;simp only [Sg.i,oks,Sh.ok,Ty.ok,List.map,Par.v,Bool.and_eq_true] at h;have:=lj h
 refine aB (mR (fun i=>i.2) a.length (by omega) (by omega) (by simp) fun i h0 h1=>?_).ok fun x _=>?_<;>exact dw1
instance JW {a_0}:Safe (R.kY a_0):=by unfold R.kY;exact dw0
instance Jb:Safe (R.eP):=by unfold R.eP;exact dw0
instance ET {a}:mD (R.eH a) (fun r:Int×Int=>(r.1=0->-9007199254740991<=r.2/\r.2<=9007199254740991)/\(r.1≠0->1<=r.1/\r.1<=4/\r.2=0)):=⟨by
 unfold R.eH R.kY R.eP;refine aA fun _=>fP (aA fun _=>bL (fun _=>lg (fun _=>?_) fun _=>?_) fun _=>aB (R:=fun x=>x=true->1<=a.1/\a.1<=4) (by exact dw1) fun _ _=>?_)
 ·refine aD (eD (lg (fun _=>aD ?_) fun _=>fP (aA fun _=>aD (aA fun _=>aD ?_))))<;>constructor<;>intro _<;>simp_all
 ·refine aD (eD (ik rfl (fP (aA fun _=>aD (aA fun _=>aD ?_)))));simp
 ·refine aH (fun hx=>aD (eD (bL (fun _=>aD ?_) fun _=>fP (aA fun _=>aD (aA fun _=>aD ?_))))) fun _=>aD (eD (ik rfl (fP (aA fun _=>aD (aA fun _=>aD ?_)))))<;>simp_all⟩
instance JS {neg_0}:Safe (R.iu neg_0):=by unfold R.iu;exact dw0
instance HK {n_0}:Safe (R.cP n_0):=by unfold R.cP;exact dw0
instance Gq {neg_0}:Safe (R.fL neg_0):=by unfold R.fL;exact dw0
instance JU {a_0}:Safe (R.kX a_0):=by unfold R.kX;exact dw0
instance E9 {a}:Safe (R.gP a):=by
 unfold R.gP;refine ⟨aA fun h=>?_⟩;simp only [Sg.i,oks,Sh.ok,Ty.ok,List.map,Par.v,Bool.and_eq_true] at h;have:=lj h;refine aB (ko (Q:=fun m=>m.length<=a.length) (fun m=>m.length) (by omega) (fun m=>m.length<=a.length) (Nat.le_refl _) fun m hm=>?_) fun u hu=>aB (ko (Q:=fun m=>m.length<=a.length) (fun m=>m.length) (by omega) (fun m=>m.length<=a.length) hu fun m hm=>?_) fun x hx=>bL (fun _=>aD trivial) fun hne=>bN (by omega) (by omega) fun e he _=>?_
 ·exact dw1
 ·exact dw1
 ·refine aB (R:=fun _=>True) (by exact dw1) fun _ _=>?_;exact dw1
instance Gk {a}:Safe (R.eT a):=by
 unfold R.eT;refine ⟨aA fun h=>?_⟩;simp only [Sg.i,oks,Sh.ok,Ty.ok,List.map,Par.v,Bool.and_eq_true] at h;have:=uE h;simp only [Sh.jq,Ty.jq,IntKind.jq] at this
 refine aB (iC (Q:=fun _=>True) (fun i=>i.2) a.length (by omega) (fun x=>x.1.length=x.2.toNat) (by simp) (by simp) (by simp) fun i h0 h1 hI=>?_) fun x hx=>?_<;>exact dw1
instance yd {a b}:Safe (R.bT a b):=by
 unfold R.bT;refine ⟨aA fun h=>?_⟩;simp only [Sg.i,oks,Sh.ok,Ty.ok,List.map,Par.v,Bool.and_eq_true] at h;have:=lj h.1
 refine aB (mR (fun i=>i) a.length (by omega) (by omega) (by omega) fun i h0 h1=>?_).ok fun x _=>?_<;>exact dw1
instance wv {s_0 v_1}:Safe (R.aQ s_0 v_1):=by unfold R.aQ;exact dw0
instance I4 {a}:mD (R.lM a) (fun r=>r.length<=4096):=by
 unfold R.lM;refine ⟨aA fun _=>q_p fun (x:Int×Int) hx=>aA fun _=>bL (fun _=>aD (by simp)) fun _=>bL (fun _=>aD (by simp)) fun _=>bL (fun _=>aD (by simp)) fun _=>ae (a:=Lib.itoa x.2) rfl (aA fun _=>aD ?_)⟩
 have h:-9223372036854775808<=x.2/\x.2<=9223372036854775807:=by
  have h3:=hx;by_cases h0:x.1=0
  ·have:=h3.1 h0;omega
  ·have:=h3.2 h0;omega
 exact Nat.le_trans (Lib.itoa_length_le x.2 h.1 h.2) (by decide)
instance JN {a}:mD (R.j6 a) (fun r=>r=true->(a.2.length:Int)<=8):=by
 unfold R.j6;refine ⟨aA fun h=>?_⟩;simp only [Sg.i,oks,Sh.ok,Ty.ok,List.map,Par.v,Bool.and_eq_true] at h;exact dw1
instance Iu {a_0}:Safe (R.cD a_0):=by unfold R.cD;exact dw0
instance I0 {b_0}:Safe (R.db b_0):=by unfold R.db;exact dw0
instance IU {a}:mD (R.iZ a) (fun r=>r=true->(a.2.2.1.2.length:Int)=0/\(a.2.2.2.1.length:Int)=0):=by
 unfold R.iZ;refine ⟨?_⟩;exact dw1
instance Iw {a}:mD (R.lX a) (fun r=>r=true->(a.2.2.1.2.length:Int)<=8/\(a.2.2.2.1.length:Int)<=4096):=by
 unfold R.lX;refine ⟨?_⟩;exact dw1
instance G3 {a}:mD (R.bt a) (fun r=>(r.2.2.1.2.length:Int)<=8/\(r.2.2.2.1.length:Int)<=4096):=by
 unfold R.bt;refine ⟨aA fun _=>q_p fun b hb=>eD (aH (fun h=>aD (hb h)) fun _=>aD (by simp))⟩
instance HE {a}:zJ (R.eg a) (a.1 == 2):=⟨aA fun _=>aD rfl⟩
instance JB {a_0}:Safe (R.iH a_0):=by unfold R.iH;exact dw0
instance HF {a_0 b_1}:Safe (R.iN a_0 b_1):=by unfold R.iN;exact dw0
instance IP {v_0}:Safe (R.fp v_0):=by unfold R.fp;exact dw0
instance GX {v_0}:Safe (R.bR v_0):=by unfold R.bR;exact dw0
instance It {b_0}:Safe (R.j9 b_0):=by unfold R.j9;exact dw0
instance EY {v_0}:Safe (R.cC v_0):=by unfold R.cC;exact dw0
instance JK {a}:mD (R.cn a) (fun r=>r.length<=8):=by
 unfold R.cn;refine ⟨aA fun _=>q_p fun b hb=>eD (aH (fun h=>fP (aD (aA fun _=>aD ?_))) fun _=>aD (by simp))⟩;have:=hb h;show List.length a.2<=8;omega
instance JV {a_0}:Safe (R.fy a_0):=by unfold R.fy;exact dw0
instance JZ {a_0}:Safe (R.kW a_0):=by unfold R.kW;exact dw0
instance Gs {a}:mD (R.gX a) (fun r=>0<=r/\r < 4294967296):=⟨by
 unfold R.gX;refine aA fun _=>q_p fun x hx=>aA fun _=>eD (bL (fun _=>aD ?_) fun _=>aD ?_)
 ·have:=wrap_u32 x.2;rw [wrap64 (by omega)];omega
 ·omega⟩
instance HD {a_0}:Safe (R.jU a_0):=by unfold R.jU;exact dw0
instance JI {op_0 a_1 b_2}:Safe (R.lN op_0 a_1 b_2):=by
 unfold R.lN;refine ⟨?_⟩;exact dw1
theorem rI {a:List Int}:(R.bn a).sat (fun r=>List.length r.2=a.length):=by
 unfold R.bn;refine aA fun h=>?_;simp only [Sg.i,oks,Sh.ok,Ty.ok,List.map,Par.v,Bool.and_eq_true] at h;have:=lj h;rw [wrap64 (by omega)]
 refine aB (ko (Q:=fun r=>r.length=a.length) (fun i=>(i.2.1-i.1+1).toNat) (by simp;omega) (fun i=>0<=i.1/\i.1<=i.2.1+1/\i.2.1 < a.length/\i.2.2.length=a.length) (by simp<;>omega) fun i ⟨i1,i2,i3,i4⟩=>?_) fun x hx=>?_<;>exact dw1
instance yF {a}:Safe (R.bn a):=⟨bH rI fun _ _=>trivial⟩
theorem vj (l:List Int):(rG l).length=l.length:=by simp [rG]
theorem wrap_u64 (n:Int):0<=IntKind.wrap .u64 n/\IntKind.wrap .u64 n < 18446744073709551616:=by
 simp [w6,IntKind.wrap,IntKind.signed,IntKind.bits];omega
theorem or_zero {x:Int}(h0:0<=x) (h1:x < 4294967296):gD .or .u64 (pI .u64 0 32) (IntKind.wrap .u64 x)=x:=by
 have e1:pI .u64 0 32=0:=by simp [pI,w6,IntKind.wrap,IntKind.signed,IntKind.bits]
 have e2:IntKind.wrap .u64 x=x:=by simp [w6,IntKind.wrap,IntKind.signed,IntKind.bits];omega
 rw [e1,e2];unfold gD;have e3:BitVec.ofInt IntKind.u64.bits 0=0#64:=rfl;simp only [e3];show IntKind.wrap .u64 ((0#64 ||| BitVec.ofInt 64 x).toNat:Int)=x;rw [BitVec.zero_or,BitVec.toNat_ofInt];simp [w6,IntKind.wrap,IntKind.signed,IntKind.bits];omega
theorem tenth {x:Int}(h0:0<=x) (h1:x < 4294967296):IntKind.wrap .u32 (IntKind.wrap .u64 (Int.tdiv x 10))=x / 10:=by
 rw [Int.tdiv_eq_ediv_of_nonneg h0];simp [w6,IntKind.wrap,IntKind.signed,IntKind.bits];omega
def wN (m:List Int):Prop:=∀ e:Int,m[m.length-1]?=some e->e≠0
theorem uQ {m:List Int}(h:(m.length:Int)<=0):wN m:=fun e he=>by
 have:m=[]:=List.length_eq_zero_iff.1 (by omega);subst this;cases he
theorem CD {a:List Int}:(R.gA a).sat (fun r:List Int=>r.length<=a.length/\r=a.take r.length/\wN r):=by
 unfold R.gA;refine aA fun h=>?_;simp only [Sg.i,oks,Sh.ok,Ty.ok,List.map,Par.v,Bool.and_eq_true] at h;have:=lj h;refine aB (ko (Q:=fun m:List Int=>m.length<=a.length/\m=a.take m.length/\wN m) (fun m=>m.length) (by omega) (fun m=>m.length<=a.length/\m=a.take m.length) ⟨Nat.le_refl _,by simp⟩ fun m ⟨hm,ht⟩=>?_) fun x hx=>aD hx;refine fP (fZ (fun h0=>?_) fun h0=>aD (ik rfl (aD ⟨hm,ht,uQ h0⟩)));have hw:w6 ((m.length:Int)-1)=(m.length:Int)-1:=wrap64 (by omega)
 have hn:((m.length:Int)-1).toNat=m.length-1:=by omega
 rw [hw];refine gL (iM (by omega) (nr (by omega) (bu (by omega) (by omega) fun (e:Int) he _=>aD (bL (fun h=>?_) fun h=>aD ⟨hm,ht,?_⟩))))
 ·refine gL (iM (by omega) (iM (by omega) (aD ⟨?_,?_,?_⟩)))
  ·simp only [List.length_take,List.length_drop];omega
  ·simp only [List.length_take,List.length_drop];omega
  ·rw [List.drop_zero,hn,List.length_take,Nat.min_eq_left (by omega)]
   have:List.take (m.length-1) m=List.take (m.length-1) (List.take m.length a):=by rw [<- ht]
   rw [this,List.take_take,Nat.min_eq_left (by omega)]
 ·intro e' he';rw [idx0,hn,he'] at he;cases he;exact h
theorem EU {a}:(R.j6 a).sat (fun r=>r=true->(a.2.length:Int)<=8/\wN a.2):=by
 unfold R.j6;refine aA fun h=>lg (fun h8=>?_) fun _=>aD (by simp);have hw (h:0 < (a.2.length:Int)):w6 ((a.2.length:Int)-1)=(a.2.length:Int)-1:=wrap64 (by omega)
 have hn (h:0 < (a.2.length:Int)):((a.2.length:Int)-1).toNat=a.2.length-1:=by omega
 have hk:(Res.br (ilt 0 (a.2.length:Int)) (Res.ct .w a.2 (w6 ((a.2.length:Int)-1)) fun e2=>Res.ok ((!(e2 == 0)))) (Res.ok (false))).sat (fun r=>r=true->(a.2.length:Int)<=8/\wN a.2):=by
  refine fZ (fun h0=>?_) fun _=>aD (by simp);rw [hw h0];refine bN (by omega) (by omega) fun (e:Int) he _=>aD fun hr=>⟨h8,fun e' he'=>?_⟩;rw [hn h0,he'] at he;cases he;simpa using hr
 exact bL (fun h0=>eD (aH (fun _=>hk) fun _=>aD fun _=>⟨h8,uQ (by omega)⟩)) fun _=>hk
theorem DR {a}:(R.cn a).sat (fun r:List Int=>r.length<=8/\wN r):=by
 unfold R.cn;refine aA fun _=>aB EU fun b hb=>eD (aH (fun h=>fP (aD (aA fun _=>aD ?_))) fun _=>aD ⟨by simp,uQ (by simp)⟩);have:=hb h;exact ⟨by show List.length a.2<=8;omega,this.2⟩
def dgF:Nat->Nat->Nat
 |0,_=>0
 |k+1,e=>if e=0 then 0 else 1+dgF k (e / 10)
def dg (e:Nat):Nat:=dgF 10 e
theorem E7:∀ k e:Nat,dgF k e<=k
 |0,_=>Nat.le_refl 0
 |k+1,e=>by
  have:=E7 k (e / 10)
  show (if e=0 then 0 else 1+dgF k (e / 10))<=k+1
  split<;>omega
theorem dg_le (e:Nat):dg e<=10:=E7 10 e
theorem Ga:∀ k e:Nat,e < 10^k->dgF (k+1) e=dgF k e
 |0,e,h=>by
  have:e=0:=by simpa using h
  subst this;rfl
 |k+1,e,h=>by
  show (if e=0 then 0 else 1+dgF (k+1) (e / 10))=(if e=0 then 0 else 1+dgF k (e / 10))
  rw [Ga k (e / 10) (by rw [Nat.pow_succ] at h;omega)]
theorem dg_lt {e:Int}(h0:0 < e) (h1:e < 4294967296):dg (e / 10).toNat < dg e.toNat:=by
 have h2:(e / 10).toNat=e.toNat / 10:=by omega
 have h3:0 < e.toNat/\e.toNat < 4294967296:=by omega
 rw [h2];generalize e.toNat=n at h3;unfold dg;rw [Ga 9 (n / 10) (by show n / 10 < 1000000000;omega)]
 show dgF 9 (n / 10) < if n=0 then 0 else 1+dgF 9 (n / 10)
 rw [if_neg (by omega)];omega
def mz (m:List Int):Nat:=match m[m.length-1]? with
 |some e=>m.length*11+dg e.toNat
 |none=>0
theorem mz_lt {r m:List Int}(h:r.length < m.length):mz r < mz m:=by
 unfold mz;have hm:∃ e,m[m.length-1]?=some e:=⟨_,List.getElem?_eq_getElem (by omega)⟩;obtain ⟨e,he⟩:=hm;rw [he]
 cases r[r.length-1]? with
 |none=>simp only [];omega
 |some x=>have:=dg_le x.toNat;simp only [];omega
theorem mz_le {m:List Int}(h:m.length<=8):mz m<=98:=by
 unfold mz
 cases m[m.length-1]? with
 |none=>simp only [];omega
 |some x=>have:=dg_le x.toNat;simp only [];omega
theorem Dd {e:Int}(h:(Ty.int IntKind.u32).ok e=true):0<=e/\e < 4294967296:=by
 simp [Ty.ok,fG,w6,IntKind.wrap,IntKind.signed,IntKind.bits] at h;omega
instance I8 {a}:mD (R.kE a) (fun r=>r.length<=4096):=by
 unfold R.kE;refine ⟨aA fun _=>aB DR fun m ⟨hm,ht⟩=>aA fun _=>bL (fun _=>aD (by simp)) fun hne=>aB (R:=fun l:List Int=>l.length<=98) ?_ fun l hl=>q_b fun _=>aH (fun _=>?_) fun _=>?_⟩
 ·refine ko (fun s=>mz s.1) (Nat.le_trans (mz_le hm) (by decide)) (fun s=>s.1.length<=8/\wN s.1/\s.2.length+mz s.1<=98) ⟨hm,ht,by have:=mz_le hm;simp;omega⟩ fun ⟨m,l⟩ ⟨h1,h2,h3⟩=>?_;simp only at h1 h2 h3 ⊢;refine fZ (fun hp=>?_) fun _=>aD (by show l.length<=98;omega);rw [wrap64 (by omega)];obtain ⟨top,htop⟩:∃ e,m[m.length-1]?=some e:=⟨_,List.getElem?_eq_getElem (by omega)⟩;refine aB (R:=fun r:Int×List Int=>r.2.length=m.length/\r.2[m.length-1]?=some (top / 10)/\0<=top/\top < 4294967296) ?_ fun ⟨r,m'⟩ ⟨g1,g2,g3,g4⟩=>?_
  ·refine ko (fun s=>(s.2.1+1).toNat) (by simp;omega) (fun s=>-1<=s.2.1/\s.2.1 < m.length/\s.2.2.length=m.length/\(s.2.1=m.length-1->s.1=0/\s.2.2=m)/\(s.2.1 < m.length-1->s.2.2[m.length-1]?=some (top / 10)/\0<=top/\top < 4294967296)) ⟨by simp only;omega,by simp only;omega,rfl,fun _=>⟨rfl,rfl⟩,fun h=>by simp only at h;omega⟩ fun ⟨r,i,q⟩ ⟨i1,i2,i3,i4,i5⟩=>?_;simp only at i1 i2 i3 i4 i5 ⊢;refine lg (fun i0=>?_) fun i0=>aD ?_
   ·refine iM (by omega) (gL (iM (by omega) (nr (by omega) (bu (by omega) (by omega) fun (e:Int) he hok=>bI (by decide) (gL (iM (by omega) (nr (by omega) (bu (by omega) (by omega) fun _ _ _=>bI (by decide) (aD ?_)))))))));have hw:w6 (i-1)=i-1:=wrap64 (by omega)
    have hix:(0+(i.toNat:Int)).toNat=i.toNat:=by omega
    rw [hix] at he;have hr:=Dd hok;refine ⟨?_,?_,?_,?_,?_,?_⟩
    ·simp only [hw];omega
    ·simp only [hw];omega
    ·simp only [hw];omega
    ·simp only [List.length_set];exact i3
    ·simp only [hw];omega
    ·intro hlt;simp only [hw] at hlt;by_cases hi:i=m.length-1
     ·obtain ⟨e1,e2⟩:=i4 hi;subst e1 e2
      have hin:i.toNat=q.length-1:=by omega
      rw [hin] at he;rw [he] at htop;cases htop;refine ⟨?_,hr⟩;simp only [or_zero hr.1 hr.2,tenth hr.1 hr.2];rw [show 0+i.toNat=q.length-1 by omega,List.getElem?_set_self (by omega)]
     ·obtain ⟨e1,e2⟩:=i5 (by omega);refine ⟨?_,e2⟩;simp only;rw [List.getElem?_set_ne (by omega)];exact e1
   ·have:=i5 (by omega);exact ⟨i3,this.1,this.2.1,this.2.2⟩
  ·simp only at g1 g2 ⊢;refine n_d (by simp only [List.length_cons,List.length_nil];omega) (aB CD fun s ⟨s1,s2,s3⟩=>aA fun _=>aD ?_)
   have hlt:mz s < mz m:=by
    by_cases hs:s.length=m.length
    ·have e:s=m':=by rw [s2,hs,<- g1,List.take_length]
     subst e;unfold mz;rw [hs,g2,htop];have:=dg_lt (e:=top) (by have:=h2 top htop;omega) g4;simp only [];omega
    ·exact mz_lt (by omega)
   exact ⟨hlt,by show s.length<=8;omega,s3,by simp only [List.length_append,List.length_cons,List.length_nil];omega⟩
 ·refine n_d (by simp only [List.length_cons,List.length_nil];omega) (aB rI fun r hr=>aA fun _=>aD ?_);rw [vj,hr];simp;omega
 ·refine aB rI fun r hr=>aA fun _=>aD ?_;rw [vj,hr];omega
instance HM {a}:mD (R.cx a) (fun r=>r.1.length<=4096):=by
 unfold R.cx;refine ⟨?_⟩;exact dw1
instance Ir {a}:Safe (R.eZ a):=by
 unfold R.eZ;refine ⟨aA fun h=>?_⟩;simp only [Sg.i,oks,Sh.ok,Ty.ok,List.map,Par.v,Bool.and_eq_true] at h;have:=lj h;refine aB (R:=fun _=>True) (by exact dw1) fun x2 _=>aH (fun _=>trivial) fun _=>?_
 refine aB (mR (fun i=>i.2) a.length (by omega) (by omega) (by simp) fun i h0 h1=>?_).ok fun x _=>?_<;>exact dw1
instance HI {a}:mD (R.bO a) (fun r=>0<=r/\r<=8):=by
 unfold R.bO;refine ⟨?_⟩;exact dw1
instance Gz {kind_0}:Safe (R.dQ kind_0):=by unfold R.dQ;exact dw0
instance Hz {a b}:Safe (R.gp a b):=by
 unfold R.gp;refine ⟨aA fun _=>aB (R:=fun c=>c=false->(b.length:Int)<=8) (by exact dw1) fun c hc=>aH (fun _=>aD trivial) fun hc'=>?_⟩;have:=hc hc'
 refine aB (mR (fun i=>i.2) b.length (by omega) (by simp) (by simp) fun i h0 h1=>?_).ok fun x _=>?_<;>exact dw1
instance EW {w_0 signed_1}:Safe (R.gq w_0 signed_1):=by
 unfold R.gq;refine ⟨?_⟩;exact dw1
instance Gm {kind_0 w_1}:Safe (R.jG kind_0 w_1):=by unfold R.jG;exact dw0
instance Ix {kind_0 w_1}:Safe (R.fH kind_0 w_1):=by
 unfold R.fH;refine ⟨?_⟩;exact dw1
instance Gg {kind_0 w_1}:Safe (R.jH kind_0 w_1):=by unfold R.jH;exact dw0
instance sf_big_Of {n_0}:Safe (R.jt n_0):=by
 unfold R.jt;refine ⟨?_⟩;exact dw1
theorem oH {a b}(ha:List.length a<=2^40) (hb:List.length b<=2^40):(R.lI a b).sat (fun r=>(r.length:Int)=max (a.length:Int) b.length+1):=by
 unfold R.lI;refine aA fun h=>?_;rw [jv]
 refine aB (iC (Q:=fun r=>r.1.length=max a.length b.length) (fun i=>i.2.2) (max a.length b.length) (by omega) (fun x=>x.1.length=x.2.2.toNat) (by simp) (by simp<;>omega) (by simp) fun i h0 h1 hI=>?_) fun x hx=>?_<;>exact dw3
instance I3 {m_0 neg_1}:Safe (R.iq m_0 neg_1):=by unfold R.iq;exact dw0
instance I1 {n_0}:Safe (R.ki n_0):=by unfold R.ki;exact dw0
instance JR {a b}:Safe (R.jk a b):=by
 unfold R.jk;refine ⟨aA fun h=>?_⟩;simp only [Sg.i,oks,Sh.ok,Ty.ok,List.map,Par.v,Bool.and_eq_true] at h;have:=lj h.1;refine eD (bL (fun _=>?_) fun _=>?_)
 ·rw [wrap64 (by omega)]
  refine aB (ko (Q:=fun _=>True) (fun i=>(i+1).toNat) (by omega) (fun i:Int=>-1<=i/\i < a.length) (by omega) fun i hi=>?_) fun x hx=>?_<;>exact dw3
 ·exact dw3
instance Gw {x_0 y_1 borrow_2}:Safe (R.jK x_0 y_1 borrow_2):=by
 unfold R.jK;refine ⟨?_⟩;exact dw3
instance Iz {a b}:mD (R.iR a b) (fun r=>r.length=a.length):=by
 unfold R.iR;refine ⟨aA fun h=>?_⟩;simp only [Sg.i,oks,Sh.ok,Ty.ok,List.map,Par.v,Bool.and_eq_true] at h;have:=uE h.1;simp only [Sh.jq,Ty.jq,IntKind.jq] at this
 refine aB (iC (Q:=fun r=>r.length=a.length) (fun i=>i.2.2) a.length (by omega) (fun x=>x.1.length=x.2.2.toNat) (by simp) (by simp) (by simp) fun i h0 h1 hI=>?_) fun x hx=>?_<;>exact dw3
instance JQ {a_0 b_1}:Safe (R.kU a_0 b_1):=by
 unfold R.kU;refine ⟨?_⟩;exact dw3
instance H6 {a}:zJ (R.eM a) (a.1 == 3 || a.1 == 4):=⟨by unfold R.eM;refine aA fun _=>aH (fun h=>?_) fun h=>?_<;>exact aD (by simp [h])⟩
instance sf_num_Of {n_0}:Safe (R.mY n_0):=by unfold R.mY;exact dw0
instance JO {a_0 b_1}:Safe (R.ke a_0 b_1):=by unfold R.ke;exact dw0
instance Ge {x_0}:Safe (R.jF x_0):=by unfold R.jF;exact dw0
instance HC {a}:mD (R.kP a) (fun r=>r.length<=a.length):=by
 unfold R.kP;refine ⟨aA fun h=>?_⟩;simp only [Sg.i,oks,Sh.ok,Ty.ok,List.map,Par.v,Bool.and_eq_true] at h;have:=yM h
 refine aB (ko (Q:=fun m=>m.length<=a.length) (fun m=>m.length) (by omega) (fun m=>m.length<=a.length) (Nat.le_refl _) fun m hm=>?_) fun u hu=>aB (ko (Q:=fun m=>m.length<=a.length) (fun m=>m.length) (by omega) (fun m=>m.length<=a.length) hu fun m hm=>?_) fun x hx=>hx<;>exact dw3
instance Gv {x_0}:Safe (R.iU x_0):=by unfold R.iU;exact dw0
instance GF {a}:Safe (R.iv a):=by
 unfold R.iv;refine ⟨aA fun h=>?_⟩;simp only [Sg.i,oks,Sh.ok,Ty.ok,List.map,Par.v,Bool.and_eq_true] at h;have:=lj h
 refine aB (mR (fun i=>i) a.length (by omega) (by omega) (by omega) fun i h0 h1=>?_).ok fun x _=>?_<;>exact dw3
instance Eb {a}:Safe (R.iI a):=by
 unfold R.iI;refine ⟨aA fun h=>?_⟩;simp only [Sg.i,oks,Sh.ok,Ty.ok,List.map,Par.v,Bool.and_eq_true] at h;have:=lj h;refine aB (mR (fun i=>i.2) a.length (by omega) (by omega) (by simp) fun i h0 h1=>?_).ok fun x _=>?_
 ·refine fZ (fun _=>bN (by omega) (by omega) fun _ _ _=>aB (R:=fun _=>True) (by exact dw3) fun _ _=>aB (R:=fun _=>True) (by exact dw3) fun _ _=>?_) fun _=>?_<;>exact dw3
 ·exact dw3
instance GL {a}:Safe (R.iT a):=by
 unfold R.iT;refine ⟨aA fun h=>?_⟩;simp only [Sg.i,oks,Sh.ok,Ty.ok,List.map,Par.v,Bool.and_eq_true] at h;have:=yM h
 refine q_p fun t (ht:t.length<=a.length)=>aA fun _=>bL (fun _=>aD trivial) fun _=>bu (by omega) (by omega) fun e _ _=>aB (R:=fun d:List Int=>d.length<=a.length) (by exact dw3) fun d hd=>q_b fun b=>aH (fun _=>?_) fun _=>by exact dw3
 refine aB (ko (Q:=fun m=>m.length<=a.length) (fun m=>m.length) (by omega) (fun m=>m.length<=a.length) hd fun m hm=>?_) fun u hu=>?_<;>exact dw3
instance Fv {v_0}:Safe (R.fN v_0):=by unfold R.fN;exact dw0
theorem qM {a n}(h0:0<=n) (h1:n<=1000):(R.mL a n).sat (fun r=>r.length=8):=by
 unfold R.mL;refine aA fun _=>?_;have e8:Int.toNat 8=8:=rfl
 have hl:(List.take 0 (List.replicate (Int.toNat 8) (0:Int))++(List.take (min (List.length a) (List.replicate (Int.toNat 8) (0:Int)).length) a++List.drop (0+(min (List.length a) (List.replicate (Int.toNat 8) (0:Int)).length)) (List.replicate (Int.toNat 8) (0:Int)))).length=8:=by
  simp only [List.length_append,List.length_take,List.length_drop,List.length_replicate,e8];omega
 rw [hl];refine gL (iM (by omega) (gL (iM (by omega) (n_d (by omega) ?_))))
 refine aB (iC (Q:=fun r=>r.length=8) (fun i=>i.1) 8 (by omega) (fun x=>x.2.length=8) (by simp) (by simp) hl fun i h0 h1 hI=>?_) fun x hx=>?_<;>repeat' (first|with_reducible (first|refine aD ?_|refine aA fun _=>?_|refine eD ?_|refine fZ (fun _=>?_) fun _=>?_|refine lg (fun _=>?_) fun _=>?_|refine bL (fun _=>?_) fun _=>?_|refine jh rfl ?_|refine ik rfl ?_|refine aH (fun _=>?_) fun _=>?_|refine pX ?_|refine yu ?_|refine tY ?_|refine q_e ?_|refine q_p fun _ _=>?_|refine q_b fun _=>?_|refine bN ?_ ?_ fun _ _ _=>?_|refine bu ?_ ?_ fun _ _ _=>?_|refine gL ?_|refine aB (dw ?_) fun _ _=>?_|refine aB (oH ?_ ?_) fun _ _=>?_|refine aB (qM ?_ ?_) fun _ _=>?_|refine iM ?_ ?_|refine nr ?_ ?_|refine sZ ?_ ?_|refine n_d ?_ ?_|refine tD (fun _=>?_) fun _=>?_|exact safe|refine fP ?_)|exact trivial|dsimp only [Nx,Dn]|with_reducible (first|rfl|refine And.intro ?_ ?_|intro _|contradiction)|omega|refine bI (by decide) ?_|(simp (disch:=omega) only [wrap64,gf,jv,List.length_append,List.length_cons,List.length_nil,List.length_take,List.length_drop,List.length_set,List.length_replicate,List.length_reverse]<;>omega)|(simp (disch:=omega) only [wrap64,gf,jv,List.length_append,List.length_cons,List.length_nil,List.length_take,List.length_drop,List.length_set,List.length_replicate,List.length_reverse] at*<;> omega)|exact Int.tmod_nonneg _ (by omega)|(simp_all [gu,lv,ly,nO]<;>omega))
theorem qi {n}(h0:0<=n) (h1:n<=1000):(R.kF n).sat (fun r=>(r.length:Int)=n / 32+1):=by
 unfold R.kF;have e1:n.tdiv 32=n / 32:=Int.tdiv_eq_ediv_of_nonneg h0;have e2:n.tmod 32=n % 32:=Int.tmod_eq_emod_of_nonneg h0;rw [e1,e2];exact dw4
theorem w8 {n a}(hn:0<=n->n<=256->n<=256):(R.ir n a).sat (fun r=>r.1.2.length<=9):=by
 unfold R.ir;refine aA fun _=>aB (R:=fun c=>c=false->0<=n/\n<=256) (by exact dw4) fun c hc=>aH (fun _=>aD (by simp)) fun hc'=>?_;have hn:=hc hc';exact dw4
instance G1 {n a}:mD (R.ir n a) (fun r=>r.1.2.length<=9):=⟨w8 fun _ h=>h⟩
instance Gc {a b}:mD (R.iE a b) (fun r=>r.length<=8):=by
 unfold R.iE;refine ⟨aA fun _=>q_p fun (n:Int) hn=>aA fun _=>?_⟩
 refine aB (iC (Q:=fun r=>r.length<=8) (fun i=>i.2) n.toNat (by omega) (fun x=>x.1.length=x.2.toNat) (by simp) (by simp;omega) (by simp) fun i h0 h1 hI=>?_) fun x hx=>?_<;>exact dw4
instance DS {a_0 b_1}:Safe (R.ez a_0 b_1):=by unfold R.ez;exact dw0
instance Ja {a_0 b_1}:Safe (R.mN a_0 b_1):=by unfold R.mN;exact dw0
instance JD {a b}:Safe (R.mH a b):=by
 unfold R.mH;refine ⟨aA fun _=>q_p fun x hx=>aA fun _=>q_p fun y hy=>aA fun _=>?_⟩;dsimp only;rw [wrap64 (by omega)];refine gL (iM (by omega) (gL (iM (by omega) (n_d (by omega) ?_))));refine aB (iC (Q:=fun _=>True) (fun i=>i.1) x.length (by omega) (fun s=>s.2.length=x.length+y.length) (by simp) (by simp) (by simp;omega) fun i h0 h1 hI=>fZ (fun hi=>gL (iM (by omega) (nr (by omega) (bu (by omega) (by omega) fun e _ _=>?_)))) fun _=>?_) fun x hx=>?_
 ·refine aB (iC (Q:=fun r=>r.2.length=x.length+y.length) (fun i=>i.2.1) y.length (by omega) (fun s=>s.2.2.length=x.length+y.length) (by simp) (by simp) (by simp;omega) fun k k0 k1 hK=>fZ (fun hk=>?_) fun _=>?_) fun s hs=>?_
  ·have hw:w6 (i.1+k.2.1)=i.1+k.2.1:=wrap64 (by omega);rw [hw];exact dw4
  ·exact dw4
  ·have hw:w6 (i.1+(y.length:Int))=i.1+(y.length:Int):=wrap64 (by omega);rw [hw];exact dw4
 ·exact dw4
 ·exact dw4
theorem sW {a b}(ha:List.length a<=2^40):(R.jI a b).sat (fun r=>r.length<=a.length+1):=by
 unfold R.jI;refine aA fun h=>?_
 refine aB (iC (Q:=fun r=>r.2.length=a.length) (fun i=>i.2.2) a.length (by omega) (fun x=>x.2.1.length=x.2.2.toNat) (by simp) (by simp) (by simp) fun i h0 h1 hI=>?_) fun x hx=>?_<;>repeat' (first|with_reducible (first|refine aD ?_|refine aA fun _=>?_|refine eD ?_|refine fZ (fun _=>?_) fun _=>?_|refine lg (fun _=>?_) fun _=>?_|refine bL (fun _=>?_) fun _=>?_|refine jh rfl ?_|refine ik rfl ?_|refine aH (fun _=>?_) fun _=>?_|refine pX ?_|refine yu ?_|refine tY ?_|refine q_e ?_|refine q_p fun _ _=>?_|refine q_b fun _=>?_|refine bN ?_ ?_ fun _ _ _=>?_|refine bu ?_ ?_ fun _ _ _=>?_|refine gL ?_|refine aB (dw ?_) fun _ _=>?_|refine aB (oH ?_ ?_) fun _ _=>?_|refine aB (qM ?_ ?_) fun _ _=>?_|refine aB (qi ?_ ?_) fun _ _=>?_|refine aB (sW ?_) fun _ _=>?_|refine iM ?_ ?_|refine nr ?_ ?_|refine sZ ?_ ?_|refine n_d ?_ ?_|refine tD (fun _=>?_) fun _=>?_|exact safe|refine fP ?_)|exact trivial|dsimp only [Nx,Dn]|with_reducible (first|rfl|refine And.intro ?_ ?_|intro _|contradiction)|omega|refine bI (by decide) ?_|(simp (disch:=omega) only [wrap64,gf,jv,List.length_append,List.length_cons,List.length_nil,List.length_take,List.length_drop,List.length_set,List.length_replicate,List.length_reverse]<;>omega)|(simp (disch:=omega) only [wrap64,gf,jv,List.length_append,List.length_cons,List.length_nil,List.length_take,List.length_drop,List.length_set,List.length_replicate,List.length_reverse] at*<;> omega)|exact Int.tmod_nonneg _ (by omega)|(simp_all [gu,lv,ly,nO]<;>omega))
theorem xG {a b}(ha:List.length a<=8) (hb:List.length b<=8):(R.iG a b).sat (fun r=>r.1.length<=8/\r.2.length<=300):=by
 unfold R.iG;refine aA fun _=>gL (iM (by omega) (gL (iM (by omega) (n_d (by omega) ?_))));rw [wrap64 (by omega)];refine aB (ko (Q:=fun r=>r.2.length=a.length/\r.1.length<=300) (fun i=>(i.2.1+1).toNat) (by simp;omega) (fun x=>-1<=x.2.1/\x.2.1 < a.length/\x.2.2.length=a.length/\(x.1.length:Int)+32*(x.2.1+1)<=32*a.length) (by simp;omega) fun i ⟨i1,i2,i3,i4⟩=>lg (fun hi=>?_) fun _=>?_) fun x hx=>?_
 ·refine aB (ko (Q:=fun r=>r.2.length=a.length/\(r.1.length:Int)+32*i.2.1<=32*a.length) (fun k=>(k.2.1+1).toNat) (by simp) (fun x=>-1<=x.2.1/\x.2.1<=31/\x.2.2.length=a.length/\(x.1.length:Int)+32*i.2.1+(x.2.1+1)<=32*a.length) (by simp;omega) fun k ⟨k1,k2,k3,k4⟩=>lg (fun hk=>?_) fun _=>?_) fun x hx=>?_<;>exact dw2
 ·exact dw2
 ·exact dw2
instance JX {a_0 b_1}:Safe (R.mI a_0 b_1):=by
 unfold R.mI;refine ⟨?_⟩;exact dw2
instance JP {a_0 b_1}:Safe (R.mG a_0 b_1):=by
 unfold R.mG;refine ⟨?_⟩;exact dw2
instance JE {a_0 b_1}:Safe (R.mO a_0 b_1):=by unfold R.mO;exact dw0
instance HB {a_0}:Safe (R.jA a_0):=by unfold R.jA;exact dw0
instance EV {a}:zJ (R.ch a) (a.1 == 1 || a.1 == 0 && a.2 == 0):=⟨by
 unfold R.ch;refine aA fun _=>aH (fun h=>?_) fun h=>?_
 ·exact aD (by simp [h])
 ·refine aH (fun h2=>?_) fun h2=>?_<;>exact aD (by simp [h,h2])⟩
instance I6 {a}:mD (R.fW a) (fun r=>-9007199254740991<=a->a<=9007199254740991->r=max a (-a)):=⟨by
 unfold R.fW;refine aA fun _=>aD fun h1 h2=>?_;rw [wrap64 (by omega),jv];simp [w6,IntKind.wrap,IntKind.signed,IntKind.bits]
 omega⟩
instance G4 {x_0 y_1}:Safe (R.jL x_0 y_1):=by
 unfold R.jL;refine ⟨?_⟩;exact dw2
instance Gh {n_0 neg_1}:Safe (R.gG n_0 neg_1):=by unfold R.gG;exact dw0
instance JL {a_0 b_1}:Safe (R.mS a_0 b_1):=by unfold R.mS;exact dw0
instance JM {a b}:Safe (R.mQ a b):=by
 unfold R.mQ;refine ⟨aA fun _=>q_p fun (x:Int×Int) hx=>aA fun _=>q_p fun (y:Int×Int) hy=>aA fun _=>?_⟩;refine q_b fun s1=>q_b fun s2=>?_;refine aB (R:=fun c=>c=false->y.1≠2) (by exact dw2) fun c hc=>aH (fun _=>(by exact dw2)) fun hc'=>?_;have h1:=hc hc';refine aB (R:=fun c=>c=false->y.1≠1/\(y.1=0->y.2≠0)) (by exact dw2) fun d hd=>aH (fun _=>(by exact dw2)) fun hd'=>?_;have h2:=hd hd';refine aB (R:=fun c=>c=false->y.1≠3/\y.1≠4) (by exact dw2) fun d hd=>aH (fun _=>(by exact dw2)) fun hd'=>?_;have h5:=hd hd';have h3:=hx;have h4:=hy
 have hk:∀ v:Int,(-9007199254740991<=y.2->y.2<=9007199254740991->v=max y.2 (-y.2))->v≠0:=fun v hv=>by
  by_cases h0:y.1=0
  ·have:=h4.1 h0;have:=hv this.1 this.2;have:=h2.2 h0;omega
  ·have:=h4.2 h0;omega
 refine q_p fun u hu=>aA fun _=>q_p fun (v:Int) hv=>aA fun _=>?_;have hv0:=hk v hv;refine sZ hv0 (aH (fun _=>(by exact dw2)) fun _=>?_);refine q_p fun u hu=>aA fun _=>q_p fun (v:Int) hv=>aA fun _=>?_;have hv0:=hk v hv;exact dw2
instance JH {a b}:Safe (R.mJ a b):=by
 unfold R.mJ;refine ⟨aA fun _=>q_p fun (x:Int×Int) hx=>aA fun _=>q_p fun (y:Int×Int) hy=>aA fun _=>?_⟩;refine aB (R:=fun c=>c=false->y.1≠2/\y.1≠1/\(y.1=0->y.2≠0)) (by exact dw2) fun c hc=>aH (fun _=>(by exact dw2)) fun hc'=>?_;have h1:=hc hc';refine aB (R:=fun c=>c=false->y.1≠3/\y.1≠4) (by exact dw2) fun d hd=>aH (fun _=>(by exact dw2)) fun hd'=>?_;have h2:=hd hd';have h3:=hx;have h4:=hy;refine q_p fun u hu=>aA fun _=>q_p fun (v:Int) (hv:-9007199254740991<=y.2->y.2<=9007199254740991->v=max y.2 (-y.2))=>aA fun _=>?_
 have hv0:v≠0:=by
  by_cases h0:y.1=0
  ·have:=h4.1 h0;have:=hv this.1 this.2;have:=h1.2.2 h0;omega
  ·have:=h4.2 h0;omega
 exact dw2
instance Ap {x_0}:Safe (R.eO x_0):=by unfold R.eO;exact dw0
instance y8 {x_0 y_1}:Safe (R.dK x_0 y_1):=by unfold R.dK;exact dw0
instance wy {a b}:Safe (R.cV a b):=by
 unfold R.cV;refine ⟨aA fun h=>?_⟩;simp only [Sg.i,oks,Sh.ok,Ty.ok,List.map,Par.v,Bool.and_eq_true] at h;have:=lj h.1
 refine aB (mR (fun i=>i) a.length (by omega) (by omega) (by omega) fun i h0 h1=>?_).ok fun x _=>?_<;>exact dw2
instance Hx {a_0 b_1}:Safe (R.kq a_0 b_1):=by unfold R.kq;exact dw0
instance JF {a_0 b_1}:Safe (R.kc a_0 b_1):=by unfold R.kc;exact dw0
instance GW {b_0 a_1}:Safe (R.gl b_0 a_1):=by unfold R.gl;exact dw0
instance Iy {a_0 b_1}:Safe (R.js a_0 b_1):=by unfold R.js;exact dw0
instance Gf {x_0 y_1}:Safe (R.jN x_0 y_1):=by unfold R.jN;exact dw0
instance yE {a b}:Safe (R.dL a b):=by
 unfold R.dL;refine ⟨aA fun h=>?_⟩;simp only [Sg.i,oks,Sh.ok,Ty.ok,List.map,Par.v,Bool.and_eq_true] at h;have:=lj h.1
 refine eD (bL (fun _=>?_) fun _=>?_)<;>try exact aD trivial
 refine aB (mR (fun i=>i) a.length (by omega) (by omega) (by omega) fun i h0 h1=>?_).ok fun x _=>?_<;>exact dw2
instance IZ {a_0 b_1}:Safe (R.kp a_0 b_1):=by unfold R.kp;exact dw0
instance FL {a_0 b_1}:Safe (R.gS a_0 b_1):=by unfold R.gS;exact dw0
instance Hb {v_0}:Safe (R.jV v_0):=by unfold R.jV;exact dw0
instance EX {v_0}:Safe (R.gB v_0):=by unfold R.gB;exact dw0
instance Iq {a_0 b_1}:Safe (R.lL a_0 b_1):=by unfold R.lL;exact dw0
instance Gn {b_0 a_1}:Safe (R.jn b_0 a_1):=by unfold R.jn;exact dw0
instance Gi {a_0 b_1}:Safe (R.jE a_0 b_1):=by unfold R.jE;exact dw0
instance Ha {a_0}:Safe (R.eh a_0):=by unfold R.eh;exact dw0
instance w5 {a b}:mD (R.cp a b) (fun r=>r=true->(b.length:Int)<=a.length):=by
 unfold R.cp;refine ⟨aA fun h=>?_⟩;simp only [Sg.i,oks,Sh.ok,Ty.ok,List.map,Par.v,Bool.and_eq_true] at h;have:=ny h.1;have:=ny h.2;exact dw2
instance xM {a b}:Safe (R.cT a b):=by
 unfold R.cT;refine ⟨aA fun h=>?_⟩;simp only [Sg.i,oks,Sh.ok,Ty.ok,List.map,Par.v,Bool.and_eq_true] at h;have:=ny h.1;have:=ny h.2;refine q_p fun x hx=>eD (aH (fun hb=>?_) fun _=>aD trivial);have:=hx hb;exact dw2
instance zO {s_0 suffix_1}:Safe (R.dh s_0 suffix_1):=by unfold R.dh;exact dw0
instance IW {s_0}:Safe (R.kG s_0):=by unfold R.kG;exact dw0
instance xH {a b}:mD (R.cK a b) (fun r=>r=true->(b.length:Int)<=a.length):=by
 unfold R.cK;refine ⟨?_⟩;exact dw2
instance zy {s_0 prefix_1}:Safe (R.cO s_0 prefix_1):=by unfold R.cO;exact dw0
instance wx {a b}:Safe (R.cN a b):=by
 unfold R.cN;refine ⟨aA fun h=>q_p fun x hx=>aH (fun hb=>?_) fun _=>aD trivial⟩;have:=hx hb;exact dw2
instance y9 {s_0 prefix_1}:Safe (R.bw s_0 prefix_1):=by unfold R.bw;exact dw0
instance Fo {kind_0 op_1 old_2 by_3}:Safe (R.iX kind_0 op_1 old_2 by_3):=by unfold R.iX;exact dw0
end Go.Mach

set_option maxRecDepth 100000
namespace Go.Mach
open Res
abbrev gN:=aF.den
abbrev kA:=jZ.den
abbrev qS:=iB.den
abbrev eY:=aC.den
inductive ElI:Int->Int->Prop
 |k1:ElI 1 1
 |k2:ElI 2 1
 |k3:ElI 3 2
 |k4:ElI 4 2
 |k5:ElI 5 4
 |k6:ElI 6 4
 |k7:ElI 7 8
 |k8:ElI 8 8
structure sT (c d:kA):Prop where
 k:d.1=c.1
 n:d.2.2.2.2.2.1=c.2.2.2.2.2.1
 e:d.2.2.2.2.2.2.2.2.1=c.2.2.2.2.2.2.2.2.1
 b:d.2.2.2.2.2.2.2.2.2.1=c.2.2.2.2.2.2.2.2.2.1
 f:d.2.2.2.2.2.2.2.2.2.2.1=c.2.2.2.2.2.2.2.2.2.2.1
 l:d.2.2.2.2.2.2.2.2.2.2.2.1=c.2.2.2.2.2.2.2.2.2.2.2.1
 y:d.2.2.2.2.2.2.2.2.2.2.2.2.length=c.2.2.2.2.2.2.2.2.2.2.2.2.length
theorem sT.refl (c:kA):sT c c:=⟨rfl,rfl,rfl,rfl,rfl,rfl,rfl⟩
theorem sT.trans {a b c:kA}(h:sT a b) (g:sT b c):sT a c:=⟨g.k.trans h.k,g.n.trans h.n,g.e.trans h.e,g.b.trans h.b,g.f.trans h.f,g.l.trans h.l,g.y.trans h.y⟩
def nc (l l':List kA):Prop:=∀ (i:Nat) (c:kA),l[i]?=some c->∃ d,l'[i]?=some d/\sT c d
theorem nc.refl (l:List kA):nc l l:=fun _ c h=>⟨c,h,.refl c⟩
theorem nc.trans {a b c:List kA}(h:nc a b) (g:nc b c):nc a c:=fun i x hx=>by
 obtain ⟨y,h1,h2⟩:=h i x hx;obtain ⟨z,g1,g2⟩:=g i y h1;exact ⟨z,g1,h2.trans g2⟩
theorem nc.push (l:List kA) (c:kA):nc l (l++[c]):=fun i x hx=>⟨x,by rw [List.getElem?_append_left (List.getElem?_eq_some_iff.1 hx).1];exact hx,.refl x⟩
theorem nc.set {l:List kA}{i:Nat}{c d:kA}(hi:l[i]?=some c) (h:sT c d):nc l (l.set i d):=fun j x hx=>by
 by_cases hij:i=j
 ·subst hij;rw [hi] at hx;cases hx;exact ⟨d,by rw [List.getElem?_set_self (List.getElem?_eq_some_iff.1 hi).1],h⟩
 ·exact ⟨x,by rw [List.getElem?_set_ne hij];exact hx,.refl x⟩
def qY (l:List kA) (b n:Int):Prop:=0<=b/\∃ d,l[b.toNat]?=some d/\((d.1=5/\n<=d.2.2.2.2.2.2.2.2.2.2.2.2.length)\/(d.1=6/\n<=d.2.2.2.2.2.2.2.2.2.2.2.1))
theorem qY.ext {l l':List kA}(h:nc l l'){b n:Int}(hb:qY l b n):qY l' b n:=by
 obtain ⟨h0,d,h1,h2⟩:=hb;obtain ⟨d',g1,g2⟩:=h _ d h1;refine ⟨h0,d',g1,?_⟩;rw [g2.k,g2.y,g2.l];exact h2
def FnI (N:List gN) (n:Int):Prop:=0<=n/\∃ x,N[n.toNat]?=some x/\(x.1=19\/x.1=41\/x.1=42)
structure pJ (N:List gN) (l:List kA) (c:kA):Prop where
 fn:c.1=3->FnI N c.2.2.2.2.2.1
 bf:c.1=5->c.2.2.2.2.2.2.2.2.2.2.2.2.length<=4096
 sh:c.1=6->0<=c.2.2.2.2.2.2.2.2.2.2.2.1/\c.2.2.2.2.2.2.2.2.2.2.2.1<=9007199254740991
 ty:c.1=7->∃ z,ElI c.2.2.2.2.2.2.2.2.1 z/\0<=c.2.2.2.2.2.2.2.2.2.2.1/\0<=c.2.2.2.2.2.2.2.2.2.2.2.1/\c.2.2.2.2.2.2.2.2.2.2.2.1<=9007199254740991/\c.2.2.2.2.2.2.2.2.2.2.1+c.2.2.2.2.2.2.2.2.2.2.2.1*z<=9007199254740991/\qY l c.2.2.2.2.2.2.2.2.2.1 (c.2.2.2.2.2.2.2.2.2.2.1+c.2.2.2.2.2.2.2.2.2.2.2.1*z)
 vw:c.1=8->0<=c.2.2.2.2.2.2.2.2.2.2.1/\0<=c.2.2.2.2.2.2.2.2.2.2.2.1/\c.2.2.2.2.2.2.2.2.2.2.1+c.2.2.2.2.2.2.2.2.2.2.2.1<=9007199254740991/\qY l c.2.2.2.2.2.2.2.2.2.1 (c.2.2.2.2.2.2.2.2.2.2.1+c.2.2.2.2.2.2.2.2.2.2.2.1)
theorem pJ.ext {N:List gN}{l l':List kA}(h:nc l l'){c:kA}(hc:pJ N l c):pJ N l' c :=
 ⟨hc.fn,hc.bf,hc.sh,fun e=>by obtain ⟨z,h1,h2,h3,h4,h5,h6⟩:=hc.ty e;exact ⟨z,h1,h2,h3,h4,h5,h6.ext h⟩,fun e=>by obtain ⟨h1,h2,h3,h4⟩:=hc.vw e;exact ⟨h1,h2,h3,h4.ext h⟩⟩
theorem pJ.same {N:List gN}{l:List kA}{c d:kA}(h:sT c d) (hc:pJ N l c):pJ N l d:=by
 obtain ⟨k,n,e,b,f,g,y⟩:=h;constructor
 ·rw [k,n];exact hc.fn
 ·rw [k,y];exact hc.bf
 ·rw [k,g];exact hc.sh
 ·rw [k,e,f,g,b];exact hc.ty
 ·rw [k,f,g,b];exact hc.vw
def cJ (v:eY):Prop:=v.1=5->v.2.2.2.1.length<=4096
theorem cJ.of {v:eY}(h:v.1≠5):cJ v:=fun e=>absurd e h
structure sO (B:Nat) (c:kA):Prop where
 pn:c.2.2.1.length<=B
 sn:c.2.2.2.1.length<=B
 pv:∀ p∈c.2.2.1,cJ p.2
 sv:∀ p∈c.2.2.2.1,cJ p.2.1
 tv:cJ c.2.2.2.2.2.2.2.1
 nn:c.2.2.2.2.1.length<=4096
theorem sO.mono {B B':Nat}{c:kA}(h:sO B c) (hb:B<=B'):sO B' c:=⟨Nat.le_trans h.pn hb,Nat.le_trans h.sn hb,h.pv,h.sv,h.tv,h.nn⟩
structure jW (N:List gN) (B:Nat) (h:qS):Prop where
 rm:h.1<=4096
 le:h.2.length<=4096
 cl:∀ (i:Nat) (c:kA),h.2[i]?=some c->pJ N h.2 c/\sO B c
theorem jW.mono {N:List gN}{B B':Nat}{h:qS}(hh:jW N B h) (hb:B<=B'):jW N B' h:=⟨hh.rm,hh.le,fun i c hc=>⟨(hh.cl i c hc).1,(hh.cl i c hc).2.mono hb⟩⟩
theorem jW.set {N:List gN}{B:Nat}{h:qS}(hh:jW N B h){i:Nat}{c d:kA}(hi:h.2[i]?=some c) (hs:sT c d) (hd:sO B d):jW N B (h.1,h.2.set i d):=by
 have he:nc h.2 (h.2.set i d):=.set hi hs;refine ⟨hh.rm,by show (h.2.set i d).length<=4096;rw [List.length_set];exact hh.le,fun j x hx=>?_⟩;have hx:(h.2.set i d)[j]?=some x:=hx;by_cases hij:i=j
 ·subst hij;rw [List.getElem?_set_self (List.getElem?_eq_some_iff.1 hi).1] at hx;cases hx;exact ⟨((hh.cl i c hi).1.same hs).ext he,hd⟩
 ·rw [List.getElem?_set_ne hij] at hx;obtain ⟨h1,h2⟩:=hh.cl j x hx;exact ⟨h1.ext he,h2⟩
theorem jW.push {N:List gN}{B:Nat}{h:qS}(hh:jW N B h){c:kA}(hl:h.2.length < 4096) (hc:pJ N h.2 c) (hv:sO B c):jW N B (h.1,h.2++[c]):=by
 have he:=nc.push h.2 c;refine ⟨hh.rm,by show (h.2++[c]).length<=4096;simp;omega,fun j x hx=>?_⟩;have hx:(h.2++[c])[j]?=some x:=hx;rw [List.getElem?_append] at hx;split at hx
 ·obtain ⟨h1,h2⟩:=hh.cl j x hx;exact ⟨h1.ext he,h2⟩
 ·have:x=c:=by
   cases hj:j-h.2.length with
   |zero=>rw [hj] at hx;simpa using hx.symm
   |succ k=>rw [hj] at hx;simp at hx
  subst this;exact ⟨hc.ext he,hv⟩
theorem jW.lt {N:List gN}{B:Nat}{h:qS}(hh:jW N B h) (hl:(h.2.length:Int) < h.1):h.2.length < 4096:=Int.ofNat_lt.1 (Int.lt_of_lt_of_le hl hh.rm)
theorem sO.props {B:Nat}{c d:kA}(h:sO B c){B':Nat}(hb:B<=B') (hp:d.2.2.1.length<=B') (hv:∀ p∈d.2.2.1,cJ p.2) (e:d.2.2.2=c.2.2.2):sO B' d:=⟨hp,by rw [e];exact Nat.le_trans h.sn hb,hv,by rw [e];exact h.sv,by rw [e];exact h.tv,by rw [e];exact h.nn⟩
theorem sO.slots {B:Nat}{c d:kA}(h:sO B c){B':Nat}(hb:B<=B') (hp:d.2.2.2.1.length<=B') (hv:∀ p∈d.2.2.2.1,cJ p.2.1) (e:d.2.2.1=c.2.2.1) (e':d.2.2.2.2=c.2.2.2.2):sO B' d:=⟨by rw [e];exact Nat.le_trans h.pn hb,hp,by rw [e];exact h.pv,hv,by rw [e'];exact h.tv,by rw [e'];exact h.nn⟩
end Go.Mach

set_option maxRecDepth 100000
namespace Go.Mach
open Res
theorem has_ok {h:qS}{i:Int}:(R.av h i).sat fun r=>r=decide (0<=i/\i.toNat < h.2.length):=by
 unfold R.av;refine aA fun _=>lg (fun h0=>aD ?_) fun h0=>aD ?_
 ·have e:(ilt i ((List.length h.2:Nat):Int))=decide (i < ((List.length h.2:Nat):Int)):=rfl;rw [e];congr 1;refine propext ⟨fun g=>⟨h0,by omega⟩,fun g=>by omega⟩
 ·rw [decide_eq_false (by omega)]
theorem oW {v:eY}:(R.di v).sat (·=v):=by
 unfold R.di;exact aA fun _=>pX (aA fun _=>pX (aA fun _=>aD rfl))
theorem xR {c:kA}(hp:c.2.2.1.length<=2^39) (hs:c.2.2.2.1.length<=2^39):(R.gR c).sat (·=c):=by
 unfold R.gR;refine aA fun _=>ae (a:=c.2.2.1) (bI (decide_eq_true (by omega)) (aD rfl)) (aA fun _=>ae (a:=c.2.2.2.1) (bI (decide_eq_true (by omega)) (aD rfl)) (aA fun _=>pX (aA fun _=>ae oW (aA fun _=>?_))));refine ae (a:=c.2.2.1) (iC (Q:=fun l=>l=c.2.2.1) (fun x=>x.1) (List.length c.2.2.1) (by omega) (fun x=>x.2=c.2.2.1) (by simp) (by simp) rfl fun x h0 h1 hI=>?_) ?_
 ·obtain ⟨i,l⟩:=x;have hI:l=c.2.2.1:=hI;subst hI;have h0:0<=i:=h0;refine fZ (fun hl=>?_) fun hl=>aD rfl;have hl:i < (List.length c.2.2.1:Int):=hl
  have hl':(0+Int.toNat i:Int).toNat < List.length c.2.2.1:=by omega
  refine gL (iM h0 (nr hl (bu (by omega) hl' fun e he _=>pX (aA fun _=>ae oW (aA fun _=>gL (iM h0 (nr hl (bu (by omega) hl' fun _ _ _=>aD ⟨rfl,hl,?_⟩))))))))
  have he:(c.2.2.1)[0+Int.toNat i]?=some e:=by rw [<- he];congr 1
  exact oF he
 refine ae (a:=c.2.2.2.1) (iC (Q:=fun l=>l=c.2.2.2.1) (fun x=>x.1) (List.length c.2.2.2.1) (by omega) (fun x=>x.2=c.2.2.2.1) (by simp) (by simp) rfl fun x h0 h1 hI=>?_) ?_
 ·obtain ⟨i,l⟩:=x;have hI:l=c.2.2.2.1:=hI;subst hI;have h0:0<=i:=h0;refine fZ (fun hl=>?_) fun hl=>aD rfl;have hl:i < (List.length c.2.2.2.1:Int):=hl
  have hl':(0+Int.toNat i:Int).toNat < List.length c.2.2.2.1:=by omega
  refine gL (iM h0 (nr hl (bu (by omega) hl' fun e he _=>ae oW (aA fun _=>gL (iM h0 (nr hl (bu (by omega) hl' fun e' he' _=>aD ⟨rfl,hl,?_⟩)))))));have he':some e=some e':=he.symm.trans he';cases he'
  have he:(c.2.2.2.1)[0+Int.toNat i]?=some e:=by rw [<- he];congr 1
  exact oF he
 exact aD rfl
theorem C5 {l:List bJ.den}{n:List UInt8}(hl:l.length<=2^40):(R.aa l n).sat fun r=>-1<=r/\r < l.length:=by
 unfold R.aa
 refine aA fun _=>aB (iC (Q:=fun r:Unit ⊕ Int=>match r with|.inl _=>True|.inr r=>-1<=r/\r < l.length) (fun x=>x) l.length (by omega) (fun _=>True) (by omega) (by omega) trivial fun x h0 h1 _=>?_) fun x hx=>?_
 ·unfold R.fR;refine fZ (fun h=>bN (by omega) (by omega) fun e _ _=>fP (aA fun _=>aD (aH (fun _=>aD ?_) fun _=>aD ⟨rfl,by omega,trivial⟩))) fun _=>aD trivial;exact ⟨by omega,by omega⟩
 ·cases x with
  |inl _=>exact je (aD ⟨by omega,by omega⟩)
  |inr r=>exact jf (aD hx)
theorem DP {l:List bQ.den}{n:List Int}(hl:l.length<=2^40):(R.aZ l n).sat fun r=>-1<=r/\r < l.length:=by
 unfold R.aZ
 refine aA fun _=>aB (iC (Q:=fun r:Unit ⊕ Int=>match r with|.inl _=>True|.inr r=>-1<=r/\r < l.length) (fun x=>x) l.length (by omega) (fun _=>True) (by omega) (by omega) trivial fun x h0 h1 _=>?_) fun x hx=>?_
 ·unfold R.ee;refine fZ (fun h=>bN (by omega) (by omega) fun e _ _=>fP (aA fun _=>q_b fun _=>aD (aH (fun _=>aD ?_) fun _=>aD ⟨rfl,by omega,trivial⟩))) fun _=>aD trivial;exact ⟨by omega,by omega⟩
 ·cases x with
  |inl _=>exact je (aD ⟨by omega,by omega⟩)
  |inr r=>exact jf (aD hx)
theorem yk {h:qS}{i:Int}{n:List UInt8}{c:kA}(h0:0<=i) (hc:h.2[i.toNat]?=some c) (hl:c.2.2.2.1.length<=2^40):(R.cX h i n).sat fun r=>-1<=r/\r < c.2.2.2.1.length:=by
 unfold R.cX;refine aA fun _=>bN h0 (List.getElem?_eq_some_iff.1 hc).1 fun x hx _=>?_;have hx:h.2[i.toNat]?=some x:=hx;rw [hc] at hx;cases hx;exact aB (C5 hl) fun r hr=>aA fun _=>aD hr
theorem wD {h:qS}{i:Int}{n:List Int}{c:kA}(h0:0<=i) (hc:h.2[i.toNat]?=some c) (hl:c.2.2.1.length<=2^40):(R.cm h i n).sat fun r=>-1<=r/\r < c.2.2.1.length:=by
 unfold R.cm;refine aA fun _=>bN h0 (List.getElem?_eq_some_iff.1 hc).1 fun x hx _=>?_;have hx:h.2[i.toNat]?=some x:=hx;rw [hc] at hx;cases hx;exact aB (DP hl) fun r hr=>aA fun _=>aD hr
section
variable {N:List gN}{B:Nat}{h:qS}
theorem kK {i:Int}{β:Type}{Q:β->Prop}{k:Bool->Res β}(h1:∀ c,0<=i->h.2[i.toNat]?=some c->(k true).sat Q) (h2:¬ (0<=i/\i.toNat < h.2.length)->(k false).sat Q):((R.av h i).bind k).sat Q:=by
 refine aB has_ok fun r hr=>?_;by_cases hp:0<=i/\i.toNat < h.2.length
 ·rw [hr,decide_eq_true hp];exact h1 _ hp.1 (List.getElem?_eq_getElem hp.2)
 ·rw [hr,decide_eq_false hp];exact h2 hp
theorem kg {i:Int}{c:kA}{β:Type}{Q:β->Prop}{k:kA->Res β}(h0:0<=i) (hc:h.2[i.toNat]?=some c) (hk:(k c).sat Q):(ct kh h.2 i k).sat Q :=
 bN h0 (List.getElem?_eq_some_iff.1 hc).1 fun x hx _=>by
  have hx:h.2[i.toNat]?=some x:=hx;rw [hc] at hx;cases hx;exact hk
theorem rP {α:Type}{P:α->Prop}{l:List α}{x:α}(h:∀ p∈l,P p) (hx:P x):∀ p∈l++[x],P p:=fun p hp=>by
 rcases List.mem_append.1 hp with hp|hp
 ·exact h p hp
 ·cases List.mem_singleton.1 hp;exact hx
theorem rK {α:Type}{P:α->Prop}{l:List α}{i:Nat}{x:α}(h:∀ p∈l,P p) (hx:P x):∀ p∈l.set i x,P p:=fun p hp=>by
 rcases List.mem_or_eq_of_mem_set hp with hp|rfl
 ·exact h p hp
 ·exact hx
theorem Ce (hh:jW N B h) (hB:B<=2^39){c:kA}(hc:pJ N h.2 c) (hv:sO B c) :
  (R.eF h c).sat fun r=>jW N B r.2/\nc h.2 r.2.2/\(r.1.2=true->0<=r.1.1/\r.2.2[r.1.1.toNat]?=some c):=by
 unfold R.eF;have hle:=hh.le;have hp:=hv.pn;have ht:=hv.sn;refine aA fun _=>lg (fun _=>aD ⟨hh,.refl _,fun e=>by cases e⟩) fun hlt=>ae (xR (by omega) (by omega)) (aA fun _=>bI (decide_eq_true (by simp;omega)) ?_);have hlt:(h.2.length:Int) < h.1:=hlt
 have e:w6 (((h.2++[c]).length:Int)-1)=h.2.length:=by rw [wrap64 (by simp;omega)];simp
 rw [e];exact aD ⟨hh.push (hh.lt hlt) hc hv,.push _ _,fun _=>⟨by show (0:Int)<=((h.2.length:Nat):Int);omega,by simp⟩⟩
theorem BT (hh:jW N B h) (hB:B<=2^39){i:Int}{n:List UInt8}{v:eY}{r f:Bool}(hv:cJ v):(R.bA h i n v r f).sat fun r=>jW N (B+1) r.2/\nc h.2 r.2.2:=by
 unfold R.bA;refine aA fun _=>aB (R:=fun b=>b=false->∃ c,0<=i/\h.2[i.toNat]?=some c) (kK (fun c h0 hc=>ik rfl (aB (yk h0 hc (by have:=(hh.cl _ c hc).2.sn;omega)) fun r _=>aA fun _=>aD fun _=>⟨c,h0,hc⟩)) fun _=>jh rfl (aD fun e=>by cases e)) fun b hb=>?_
 cases b with
 |true=>exact jh rfl (aD ⟨hh.mono (by omega),.refl _⟩)
 |false =>
  obtain ⟨c,h0,hc⟩:=hb rfl;have hl:=(hh.cl _ c hc).2;have hs:=hl.sn;refine ik rfl (kg h0 hc (bI (by simp) (ae oW (aA fun _=>bI (decide_eq_true (by simp;omega)) (bI (by simp) (aD ⟨?_,?_⟩))))))
  ·exact (hh.mono (Nat.le_succ B)).set hc ⟨rfl,rfl,rfl,rfl,rfl,rfl,rfl⟩ (hl.slots (Nat.le_succ B) (by show (c.2.2.2.1++[_]).length<=_;simp;omega) (rP hl.sv hv) rfl rfl)
  ·exact .set hc ⟨rfl,rfl,rfl,rfl,rfl,rfl,rfl⟩
theorem put_ok (hh:jW N B h) (hB:B<=2^39){i:Int}{n:List Int}{v:eY}(hv:cJ v):(R.bU h i n v).sat fun r=>jW N (B+1) r.2/\nc h.2 r.2.2:=by
 unfold R.bU;refine aA fun _=>kK (fun c h0 hc=>ik rfl (kg h0 hc ?_)) fun _=>jh rfl (aD ⟨hh.mono (by omega),.refl _⟩);have hl:=(hh.cl _ c hc).2;have hp:=hl.pn;have hs:h.2.set i.toNat c=h.2:=oF hc;rw [hs];refine aB (wD (h:=(h.1,h.2)) h0 hc (by omega)) fun r ⟨r0,r1⟩=>aA fun _=>lg (fun hr=>bI (by simp) (ae oW (aA fun _=>bI (by simp [ile,ilt];omega) (bu (by omega) (by omega) fun p _ _=>aD ⟨?_,?_⟩)))) fun hr=>bI (by simp) (pX (aA fun _=>ae oW (aA fun _=>bI (decide_eq_true (by simp;omega)) (bI (by simp) (aD ⟨?_,?_⟩)))))
 ·exact (hh.mono (Nat.le_succ B)).set hc ⟨rfl,rfl,rfl,rfl,rfl,rfl,rfl⟩ (hl.props (Nat.le_succ B) (by show (c.2.2.1.set _ _).length<=_;rw [List.length_set];omega) (rK hl.pv hv) rfl)
 ·exact .set hc ⟨rfl,rfl,rfl,rfl,rfl,rfl,rfl⟩
 ·exact (hh.mono (Nat.le_succ B)).set hc ⟨rfl,rfl,rfl,rfl,rfl,rfl,rfl⟩ (hl.props (Nat.le_succ B) (by show (c.2.2.1++[_]).length<=_;simp;omega) (rP hl.pv hv) rfl)
 ·exact .set hc ⟨rfl,rfl,rfl,rfl,rfl,rfl,rfl⟩
theorem HN (hh:jW N B h) (hB:B<=2^39){i:Int}{n:List UInt8}{v:eY}{r:Bool}(hv:cJ v):(R.cQ h i n v r).sat fun r=>jW N B r.2/\nc h.2 r.2.2:=by
 unfold R.cQ;refine aA fun _=>kK (fun c h0 hc=>ik rfl ?_) fun _=>jh rfl (aD ⟨hh,.refl _⟩);have hl:=(hh.cl _ c hc).2;have hs:=hl.sn;refine aB (yk h0 hc (by omega)) fun r ⟨r0,r1⟩=>aA fun _=>fZ (fun hr=>aD ⟨hh,.refl _⟩) fun hr=>kg h0 hc (bI (by simp) (bI (by simp [ile,ilt];omega) (ae oW (aA fun _=>bu (by omega) (by omega) fun p hp _=>bu (by omega) (by simp;omega) fun p' hp' _=>aD ⟨?_,?_⟩))))
 ·exact hh.set hc ⟨rfl,rfl,rfl,rfl,rfl,rfl,rfl⟩ (hl.slots (Nat.le_refl B) (by show ((c.2.2.2.1.set _ _).set _ _).length<=_;rw [List.length_set,List.length_set];omega) (rK (rK hl.sv hv) (rK hl.sv hv p' (List.mem_of_getElem? hp'))) rfl rfl)
 ·exact .set hc ⟨rfl,rfl,rfl,rfl,rfl,rfl,rfl⟩
theorem IE (hh:jW N B h) (hB:B<=2^39){i:Int}:(R.eB h i).sat fun r=>(r.1.1=0/\r.1.2.2.2.1=[])\/(r.2=true/\0<=i/\h.2[i.toNat]?=some r.1):=by
 unfold R.eB;refine aA fun _=>kK (fun c h0 hc=>ik rfl (kg h0 hc ?_)) fun _=>jh rfl (aD (.inl ⟨rfl,rfl⟩));have hl:=(hh.cl _ c hc).2;have hp:=hl.pn;have hs:=hl.sn;exact ae (xR (by omega) (by omega)) (aA fun _=>aD (.inr ⟨rfl,h0,hc⟩))
theorem o9 {i:Int}:(R.bG h i).sat fun r=>r=0\/∃ c,0<=i/\h.2[i.toNat]?=some c/\r=(c.2.2.1.length:Int):=by
 unfold R.bG;exact aA fun _=>kK (fun c h0 hc=>ik rfl (kg h0 hc (aD (.inr ⟨c,h0,hc,rfl⟩)))) fun _=>jh rfl (aD (.inl rfl))
theorem HP (hh:jW N B h) (hB:B<=2^39){i:Int}:(R.eE h i).sat fun r=>jW N B r.2/\nc h.2 r.2.2/\cJ r.1.1:=by
 unfold R.eE;refine aA fun _=>aB o9 fun r hr=>aA fun _=>bL (fun _=>aD ⟨hh,.refl _,.of (show (0:Int)≠5 by decide)⟩) fun hne=>?_;rcases hr with hr|⟨c,h0,hc,rfl⟩
 ·exact absurd hr hne
 have hl:=(hh.cl _ c hc).2;have hp:=hl.pn;have e:w6 ((c.2.2.1.length:Int)-1)=(c.2.2.1.length:Int)-1:=wrap64 (by omega);refine kg h0 hc ?_;rw [e];refine bI (by simp) (bI (by simp) (bI (by simp [ile,ilt];omega) (bu (by omega) (by omega) fun p hp' _=>bI (by simp) (bI (by simp [ile];omega) (bI (by simp) (ae oW (aA fun _=>aD ⟨?_,?_,?_⟩)))))))
 ·exact hh.set hc ⟨rfl,rfl,rfl,rfl,rfl,rfl,rfl⟩ (hl.props (Nat.le_refl B) (by show (List.take _ (List.drop 0 c.2.2.1)).length<=_;simp;omega) (fun p hp=>hl.pv p (List.mem_of_mem_take hp)) rfl)
 ·exact .set hc ⟨rfl,rfl,rfl,rfl,rfl,rfl,rfl⟩
 ·exact hl.pv p (List.mem_of_getElem? hp')
theorem F3 (hh:jW N B h) (hB:B<=2^39){i a:Int}{b:List Int}(hb:b.length<=8) (hbyt:∀ c:kA,h.2[i.toNat]?=some c->c.2.2.2.2.2.2.2.2.2.2.2.2.length<=2^47):(R.da h i a b).sat fun r=>jW N B r.2/\nc h.2 r.2.2:=by
 unfold R.da;refine aA fun _=>kK (fun c h0 hc=>ik rfl (kg h0 hc ?_)) fun _=>jh rfl (aD ⟨hh,.refl _⟩);have hl:=(hh.cl _ c hc).2;have hy:=hbyt c hc;have hs:h.2.set i.toNat c=h.2:=oF hc;refine aB (R:=fun x=>x=false->0<=a/\a<=c.2.2.2.2.2.2.2.2.2.2.2.2.length/\a+b.length<=c.2.2.2.2.2.2.2.2.2.2.2.2.length) (fZ (fun _=>aD fun e=>by cases e) fun a0=>bI (by simp) (fZ (fun _=>aD fun e=>by cases e) fun a1=>bI (by simp) (aD fun e=>?_))) fun x hx=>?_
 ·rw [wrap64 (by omega),ly] at e;exact ⟨a0,a1,by omega⟩
 cases x with
 |true =>
  refine jh rfl (aD ⟨?_,?_⟩)
  ·show jW N B (h.1,h.2.set i.toNat c);rw [hs];exact hh
  ·show nc h.2 (h.2.set i.toNat c);rw [hs];exact .refl _
 |false =>
  obtain ⟨a0,a1,a2⟩:=hx rfl
  have e:(List.take (0+a.toNat) c.2.2.2.2.2.2.2.2.2.2.2.2++(List.take (min b.length (c.2.2.2.2.2.2.2.2.2.2.2.2.length-a.toNat)) b++List.drop (0+a.toNat+min b.length (c.2.2.2.2.2.2.2.2.2.2.2.2.length-a.toNat)) c.2.2.2.2.2.2.2.2.2.2.2.2)).length=c.2.2.2.2.2.2.2.2.2.2.2.2.length:=by
   simp only [List.length_append,List.length_take,List.length_drop];omega
  refine ik rfl (bI (by simp) (bI (by simp [ile];omega) (aD ⟨?_,?_⟩)))
  ·exact hh.set hc ⟨rfl,rfl,rfl,rfl,rfl,rfl,e⟩ ⟨hl.pn,hl.sn,hl.pv,hl.sv,hl.tv,hl.nn⟩
  ·exact .set hc ⟨rfl,rfl,rfl,rfl,rfl,rfl,e⟩
theorem Ho {i:Int}:(R.aY h i).sat fun r=>(r.2=false/\r.1.1=0/\¬ (0<=i/\i.toNat < h.2.length))\/(r.2=true/\0<=i/\∃ c,h.2[i.toNat]?=some c/\r.1=(c.1,(c.2.1,((),((),(c.2.2.2.2.1,(c.2.2.2.2.2.1,(c.2.2.2.2.2.2.1,(c.2.2.2.2.2.2.2.1,(c.2.2.2.2.2.2.2.2.1,(c.2.2.2.2.2.2.2.2.2.1,(c.2.2.2.2.2.2.2.2.2.2.1,(c.2.2.2.2.2.2.2.2.2.2.2.1,()))))))))))))):=by
 unfold R.aY;exact aA fun _=>kK (fun c h0 hc=>ik rfl (kg h0 hc (aD (.inr ⟨rfl,h0,c,hc,rfl⟩)))) fun hn=>jh rfl (aD (.inl ⟨rfl,rfl,hn⟩))
theorem nU {i:Int}:(R.aw h i).sat fun r=>(r=0/\¬ (0<=i/\i.toNat < h.2.length))\/(0<=i/\∃ c,h.2[i.toNat]?=some c/\r=c.1):=by
 unfold R.aw;exact aA fun _=>kK (fun c h0 hc=>ik rfl (kg h0 hc (aD (.inr ⟨h0,c,hc,rfl⟩)))) fun hn=>jh rfl (aD (.inl ⟨rfl,hn⟩))
theorem Cb (hh:jW N B h) (hB:B<=2^39){i:Int}{n:List UInt8}:(R.dE h i n).sat fun r=>cJ r.1.2.1:=by
 unfold R.dE;have hle:=hh.le
 refine aA fun _=>aB (iC (Q:=fun r:Unit ⊕ (Int×(Bool×bJ.den))=>match r with|.inl _=>True|.inr r=>cJ r.2.2.2.1) (fun x=>x.2) h.2.length (by omega) (fun _=>True) (by simp) (by simp) trivial fun x h0 h1 _=>?_) fun x hx=>?_
 ·refine fZ (fun hl=>kK (fun c c0 hc=>ik rfl ?_) fun _=>jh rfl (aD trivial)) fun _=>aD trivial;have hv:=(hh.cl _ c hc).2;have hs:=hv.sn;refine aB (yk c0 hc (by omega)) fun r ⟨r0,r1⟩=>aA fun _=>lg (fun hr=>kg c0 hc (bN hr (by omega) fun p hp _=>ae oW (aA fun _=>aD ?_))) fun _=>kg c0 hc (aD ⟨rfl,hl,trivial⟩);exact hv.sv p (List.mem_of_getElem? hp)
 ·cases x with
  |inl _=>exact je (aD (.of (show (0:Int)≠5 by decide)))
  |inr r=>exact jf (aD hx)
theorem tt (hh:jW N B h) (hB:B<=2^39){i:Int}{n:List Int}:(R.cA h i n).sat fun r=>cJ r.1:=by
 unfold R.cA;refine aA fun _=>kK (fun c c0 hc=>ik rfl ?_) fun _=>jh rfl (aD (.of (show (0:Int)≠5 by decide)));have hv:=(hh.cl _ c hc).2;have hs:=hv.pn;refine aB (wD c0 hc (by omega)) fun r ⟨r0,r1⟩=>aA fun _=>fZ (fun _=>aD (.of (show (0:Int)≠5 by decide))) fun hr=>kg c0 hc (bN hr (by omega) fun p hp _=>ae oW (aA fun _=>aD ?_));exact hv.pv p (List.mem_of_getElem? hp)
theorem Ca (hh:jW N B h) (hB:B<=2^39){i:Int}{n:List Int}:(R.dD h i n).sat fun r=>cJ r.1:=by
 unfold R.dD;have hle:=hh.le
 refine aA fun _=>aB (iC (Q:=fun r:Unit ⊕ (Int×(Bool×aC.den))=>match r with|.inl _=>True|.inr r=>cJ r.2.2) (fun x=>x.2) h.2.length (by omega) (fun _=>True) (by simp) (by simp) trivial fun x h0 h1 _=>?_) fun x hx=>?_
 ·refine fZ (fun hl=>aB (tt hh hB) fun r hr=>aA fun _=>aH (fun _=>aD hr) fun _=>kK (fun c c0 hc=>ik rfl (kg c0 hc (fZ (fun _=>aD (.of (show (0:Int)≠5 by decide))) fun _=>aD ⟨rfl,hl,trivial⟩))) fun _=>jh rfl (aD (.of (show (0:Int)≠5 by decide)))) fun _=>aD trivial
 ·cases x with
  |inl _=>exact je (aD (.of (show (0:Int)≠5 by decide)))
  |inr r=>exact jf (aD hx)
end
end Go.Mach

set_option maxRecDepth 100000
namespace Go.Mach
open Res
abbrev RunT:=aG.den
abbrev DY:=fM.den
abbrev wc:=fB.den
def EN:wc:=(0,(0,(0,(0,(0,(false,(false,(0,(0,((0,0),(([]:List Int),0)))))))))))
structure Cx where
 N:List gN
 H:Int
 D:Int
 F:Int
 A:List DY
structure iS (C:Cx) (m:Int) (s:RunT):Prop where
 nd:s.1=C.N
 lm:s.2.1=(C.H,(C.D,C.F))
 an:s.2.2.1=C.A
 u0:LE.le (α:=Int) (0) (s.2.2.2.1)
 us:LE.le (α:=Int) (s.2.2.2.1) ((C.A.length:Int))
 hp:∃ B:Nat,jW C.N B s.2.2.2.2.1/\(B:Int)+134217728*((HSub.hSub (α:=Int) (β:=Int) (γ:=Int) (C.F) (s.2.2.2.2.2.2.1)))<=m
 d0:LE.le (α:=Int) (0) (s.2.2.2.2.2.1)
 dp:LE.le (α:=Int) (s.2.2.2.2.2.1) (C.D)
 b0:LE.le (α:=Int) (0) (s.2.2.2.2.2.2.1)
 bg:LE.le (α:=Int) (s.2.2.2.2.2.2.1) (C.F)
 rq:s.2.2.2.2.2.2.2.1=EN
 en:s.2.2.2.2.2.2.2.2=(0,([]:List Int))
theorem iS.mono {C:Cx}{m m':Int}{s:RunT}(h:iS C m s) (hm:m<=m'):iS C m' s:=⟨h.nd,h.lm,h.an,h.u0,h.us,by obtain ⟨B,h1,h2⟩:=h.hp;exact ⟨B,h1,Int.le_trans h2 hm⟩,h.d0,h.dp,h.b0,h.bg,h.rq,h.en⟩
def BZ (a:Int×Int):Prop:=(a.1=0/\0<=a.2/\a.2<=9007199254740991)\/(a.1=3/\a.2=0)
structure wi (q:wc):Prop where
 k:1<=q.1/\q.1<=14
 ln:0<=q.2.2.2.2.2.2.2.2.2.2.2/\q.2.2.2.2.2.2.2.2.2.2.2<=9007199254740991
 tx:q.2.2.2.2.2.2.2.2.2.2.1.length<=4096
 nm:BZ q.2.2.2.2.2.2.2.2.2.1
 a:(q.1 < 2\/6 < q.1)->q.2.2.2.1=0/\q.2.2.2.2.2.1=false/\q.2.2.2.2.2.2.1=false/\q.2.2.2.2.2.2.2.1=0/\q.2.2.2.2.2.2.2.2.1=0/\q.2.2.2.2.1=0
 z:(2<=q.1/\q.1<=6)->(q.2.2.2.1=1\/q.2.2.2.1=2\/q.2.2.2.1=4\/q.2.2.2.1=8)/\(q.2.2.2.1=8\/(q.2.2.2.2.2.2.2.1 < 2^(8*q.2.2.2.1).toNat/\q.2.2.2.2.2.2.2.2.1 < 2^(8*q.2.2.2.1).toNat))/\0<=q.2.2.1/\(q.2.2.2.2.2.1=true->q.2.2.2.2.2.2.1=true)/\(q.1=4->0 < q.2.2.2.2.1/\q.2.2.2.2.1<=6)/\(q.1≠4->q.2.2.2.2.1=0)
structure Cg (C:Cx) (s:RunT):Prop where
 nd:s.1=C.N
 hs:(s.2.2.2.2.2.2.2.2=(0,([]:List Int))/\wi s.2.2.2.2.2.2.2.1)\/∃ k:Int,3<=k/\k<=6/\s.2.2.2.2.2.2.2.2=(k,([]:List Int))/\s.2.2.2.2.2.2.2.1=EN
structure Aft (C:Cx) (m b:Int) (s s':RunT):Prop where
 run:iS C m s'
 ext:nc s.2.2.2.2.1.2 s'.2.2.2.2.1.2
 dp:Eq (α:=Int) (s'.2.2.2.2.2.1) (s.2.2.2.2.2.1)
 bg:LE.le (α:=Int) (b) (s'.2.2.2.2.2.2.1)
def Pst (C:Cx) (m b:Int) (s:RunT) (how:Int) (s':RunT):Prop:=(how=5/\Cg C s')\/(how≠5/\Aft C m b s s')
def dN (C:Cx) (m b:Int) (s:RunT) (r:(eY×Int)×RunT):Prop:=cJ r.1.1/\Pst C m b s r.1.2 r.2
def nZ (C:Cx) (m b:Int) (s:RunT) (r:aV.den×RunT):Prop:=cJ r.1.2.2/\Pst C m b s r.1.1 r.2
section
variable {C:Cx}{m b:Int}{s:RunT}
theorem Aft.refl (h:iS C m s):Aft C m s.2.2.2.2.2.2.1 s s:=⟨h,.refl _,rfl,Int.le_refl _⟩
theorem Aft.mono {s':RunT}(h:Aft C m b s s'){m' b':Int}(hm:m<=m') (hb:b'<=b):Aft C m' b' s s':=⟨h.run.mono hm,h.ext,h.dp,Int.le_trans hb h.bg⟩
theorem Aft.trans {m' b':Int}{s' s'':RunT}(h:Aft C m b s s') (g:Aft C m' b' s' s''):Aft C m' b' s s'':=⟨g.run,h.ext.trans g.ext,g.dp.trans h.dp,g.bg⟩
theorem Pst.mono {how:Int}{s':RunT}(h:Pst C m b s how s'){m' b':Int}(hm:m<=m') (hb:b'<=b):Pst C m' b' s how s':=h.imp id fun ⟨h1,h2⟩=>⟨h1,h2.mono hm hb⟩
theorem Pst.after {m' b' how:Int}{s' s'':RunT}(h:Aft C m b s s') (g:Pst C m' b' s' how s''):Pst C m' b' s how s'':=g.imp id fun ⟨h1,h2⟩=>⟨h1,h.trans h2⟩
theorem Pst.how {how how':Int}{s':RunT}(h:Pst C m b s how s') (hn:how≠5) (hn':how'≠5):Pst C m b s how' s':=by
 rcases h with ⟨h1,_⟩|⟨_,h2⟩
 ·exact absurd h1 hn
 ·exact .inr ⟨hn',h2⟩
theorem Pst.aft {how:Int}{s':RunT}(h:Pst C m b s how s') (hn:how≠5):Aft C m b s s':=by
 rcases h with ⟨h1,_⟩|⟨_,h2⟩
 ·exact absurd h1 hn
 ·exact h2
theorem iS.heap (h:iS C m s) (hm:m<=2^39):∃ B:Nat,jW C.N B s.2.2.2.2.1/\B<=2^39/\(B:Int)+134217728*((HSub.hSub (α:=Int) (β:=Int) (γ:=Int) (C.F) (s.2.2.2.2.2.2.1)))<=m:=by
 obtain ⟨B,h1,h2⟩:=h.hp;have:=h.bg;exact ⟨B,h1,by omega,h2⟩
theorem iS.put (h:iS C m s){H:qS}{B:Nat}{m':Int}(hH:jW C.N B H) (hB:(B:Int)+134217728*((HSub.hSub (α:=Int) (β:=Int) (γ:=Int) (C.F) (s.2.2.2.2.2.2.1)))<=m'):iS C m' (s.1,(s.2.1,(s.2.2.1,(s.2.2.2.1,(H,s.2.2.2.2.2))))):=⟨h.nd,h.lm,h.an,h.u0,h.us,⟨B,hH,hB⟩,h.d0,h.dp,h.b0,h.bg,h.rq,h.en⟩
theorem qH {k:Int}:(R.bl s k).sat (·=(5,(s.1,(s.2.1,(s.2.2.1,(s.2.2.2.1,(s.2.2.2.2.1,(s.2.2.2.2.2.1,(s.2.2.2.2.2.2.1,(s.2.2.2.2.2.2.2.1,(k,([]:List Int))))))))))) ):=by
 unfold R.bl;exact aA fun _=>aD rfl
theorem iS.halt (h:iS C m s){k:Int}(hk:3<=k/\k<=6){H:qS}{d b:Int}:Cg C (s.1,(s.2.1,(s.2.2.1,(s.2.2.2.1,(H,(d,(b,(s.2.2.2.2.2.2.2.1,(k,([]:List Int)))))))))):=⟨h.nd,.inr ⟨k,hk.1,hk.2,rfl,h.rq⟩⟩
theorem bz:cJ (0,((0,0),((false,([]:List Int)),(([]:List Int),0)))):=.of (show (0:Int)≠5 by decide)
theorem gU (h:iS C m s):(R.aK s).sat (dN C m b s):=by
 unfold R.aK;exact aA fun _=>ae qH (aA fun _=>aD ⟨bz,.inl ⟨rfl,h.halt (by decide)⟩⟩)
theorem DN (h:iS C m s) (hF:C.F<=2^40) (hD:C.D<=2^40):(R.bj s).sat fun r=>(r.1=false/\Cg C r.2)\/(r.1=true/\r.2.2.2.2.2.1=s.2.2.2.2.1/\Eq (α:=Int) (r.2.2.2.2.2.2.1) ((HAdd.hAdd (α:=Int) (β:=Int) (γ:=Int) (s.2.2.2.2.2.1) (1)))/\Eq (α:=Int) (r.2.2.2.2.2.2.2.1) ((HAdd.hAdd (α:=Int) (β:=Int) (γ:=Int) (s.2.2.2.2.2.2.1) (1)))/\iS C (m-134217728) r.2):=by
 unfold R.bj;have h1:=h.dp;have h2:=h.bg;have h3:=h.d0;have h4:=h.b0;have e1:s.2.1.2.1=C.D:=congrArg (fun x=>x.2.1) h.lm;have e2:s.2.1.2.2=C.F:=congrArg (fun x=>x.2.2) h.lm;refine aA fun _=>?_;refine lg (fun _=>ae qH (aA fun _=>aD (.inl ⟨rfl,?_⟩))) fun hd=>lg (fun _=>ae qH (aA fun _=>aD (.inl ⟨rfl,?_⟩))) fun hf=>aD (.inr ?_)
 ·exact h.halt (k:=5) (by decide)
 ·exact h.halt (k:=6) (by decide)
 ·have hd:LT.lt (α:=Int) (s.2.2.2.2.2.1) (s.2.1.2.1):=hd;have hf:LT.lt (α:=Int) (s.2.2.2.2.2.2.1) (s.2.1.2.2):=hf;rw [e1] at hd;rw [e2] at hf;have e1:w6 (HAdd.hAdd (α:=Int) (β:=Int) (γ:=Int) (s.2.2.2.2.2.1) (1))=(HAdd.hAdd (α:=Int) (β:=Int) (γ:=Int) (s.2.2.2.2.2.1) (1)):=wrap64 (by omega);have e2:w6 (HAdd.hAdd (α:=Int) (β:=Int) (γ:=Int) (s.2.2.2.2.2.2.1) (1))=(HAdd.hAdd (α:=Int) (β:=Int) (γ:=Int) (s.2.2.2.2.2.2.1) (1)):=wrap64 (by omega);rw [e1,e2];refine ⟨rfl,rfl,rfl,rfl,h.nd,h.lm,h.an,h.u0,h.us,?_,?_,?_,?_,?_,h.rq,h.en⟩
  ·obtain ⟨B,g1,g2⟩:=h.hp;refine ⟨B,g1,?_⟩;show (B:Int)+134217728*(C.F-((HAdd.hAdd (α:=Int) (β:=Int) (γ:=Int) (s.2.2.2.2.2.2.1) (1))))<=m-134217728;omega
  ·show LE.le (α:=Int) (0) ((HAdd.hAdd (α:=Int) (β:=Int) (γ:=Int) (s.2.2.2.2.2.1) (1)));omega
  ·show LE.le (α:=Int) ((HAdd.hAdd (α:=Int) (β:=Int) (γ:=Int) (s.2.2.2.2.2.1) (1))) (C.D);omega
  ·show LE.le (α:=Int) (0) ((HAdd.hAdd (α:=Int) (β:=Int) (γ:=Int) (s.2.2.2.2.2.2.1) (1)));omega
  ·show LE.le (α:=Int) ((HAdd.hAdd (α:=Int) (β:=Int) (γ:=Int) (s.2.2.2.2.2.2.1) (1))) (C.F);omega
theorem o4 (h:iS C m s) (hm:m<=2^39){c:kA}(hc:pJ C.N s.2.2.2.2.1.2 c) (hv:∀ B,jW C.N B s.2.2.2.2.1->sO B c):(R.aT s c).sat fun r=>dN C m s.2.2.2.2.2.2.1 s r/\(r.1.2≠5->r.1.2=0/\r.1.1.1=6/\0<=r.1.1.2.2.2.2/\r.2.2.2.2.2.1.2[r.1.1.2.2.2.2.toNat]?=some c):=by
 unfold R.aT;obtain ⟨B,h1,h2,h3⟩:=h.heap hm;refine aA fun _=>aB (Ce h1 h2 hc (hv B h1)) fun r ⟨r1,r2,r3⟩=>aA fun _=>eD (aH (fun hr=>aD ⟨⟨.of (show (6:Int)≠5 by decide),.inr ⟨show (0:Int)≠5 by decide,h.put r1 h3,r2,rfl,Int.le_refl _⟩⟩,fun _=>⟨rfl,rfl,r3 hr⟩⟩) fun _=>ae qH (aA fun _=>aD ⟨⟨bz,.inl ⟨rfl,h.halt (by decide)⟩⟩,fun e=>absurd rfl e⟩))
theorem pJ.mk' {N:List gN}{l:List kA}{c:kA}(k:Int) (e:c.1=k) (h:k≠3/\k≠5/\k≠6/\k≠7/\k≠8):pJ N l c:=by
 subst e;exact ⟨fun e=>absurd e h.1,fun e=>absurd e h.2.1,fun e=>absurd e h.2.2.1,fun e=>absurd e h.2.2.2.1,fun e=>absurd e h.2.2.2.2⟩
theorem ph (h:iS C m s) (hm:m<=2^39){a:Int}:(R.bS s a).sat fun r=>Pst C m s.2.2.2.2.2.2.1 s r.1.2 r.2/\(r.1.2≠5->r.1.2=0):=by
 unfold R.bS;exact aA fun _=>aB (o4 h hm (.mk' 9 rfl (by decide)) fun B _=>⟨Nat.zero_le _,Nat.zero_le _,by simp,by simp,bz,Nat.zero_le _⟩) fun r ⟨r1,r2⟩=>aA fun _=>aD ⟨r1.2,fun e=>(r2 e).1⟩
theorem my {u:List Int}:(R.b9 u).sat fun r=>cJ r/\r.1=5:=by
 unfold R.b9
 have h0:(0:Int)<=kv (u.length:Int) 4096/\kv (u.length:Int) 4096<=u.length/\kv (u.length:Int) 4096<=4096:=by rw [gf];omega
 refine aA fun _=>gL (iM h0.1 (iM h0.2.1 (pX (aA fun _=>aD ⟨fun _=>?_,rfl⟩))));show (List.take _ (List.drop 0 u)).length<=4096;simp only [List.length_take];omega
theorem FJ (h:iS C m s) (hm:m<=2^39){n:List UInt8}(hn:n.length<=4096):(R.cY s n).sat fun r=>dN C m s.2.2.2.2.2.2.1 s r/\r.1.2≠0:=by
 unfold R.cY;refine aA fun _=>aB my fun u hu=>aA fun _=>aB (o4 h hm (.mk' 10 rfl (by decide)) fun B _=>⟨Nat.zero_le _,Nat.zero_le _,by simp,by simp,hu.1,hn⟩) fun r ⟨r1,r2⟩=>aA fun _=>eD (bL (fun e=>aD ⟨⟨r1.1,.inr ⟨show (4:Int)≠5 by decide,r1.2.aft (by rw [e];decide)⟩⟩,show (4:Int)≠0 by decide⟩) fun e=>aD ⟨r1,e⟩)
theorem nN (h:iS C m s) (hm:m<=2^39){k:Int}:(R.aE s k).sat fun r=>dN C m s.2.2.2.2.2.2.1 s r/\r.1.2≠0:=by
 unfold R.aE
 refine aA fun _=>bL (fun _=>?_) fun _=>bL (fun _=>?_) fun _=>bL (fun _=>?_) fun _=>bL (fun _=>?_) fun _=>ae qH (aA fun _=>aD ⟨⟨bz,.inl ⟨rfl,h.halt (by decide)⟩⟩,show (5:Int)≠0 by decide⟩)<;>exact aB (FJ h hm (by decide)) fun r hr=>aA fun _=>aD hr
theorem qF (h:iS C m s) (hm:m<=2^39){v:eY}(hv:cJ v){k:Int}:(R.bX s v k).sat (dN C m s.2.2.2.2.2.2.1 s):=by
 unfold R.bX;exact aA fun _=>eD (bL (fun _=>aD ⟨hv,.inr ⟨show (0:Int)≠5 by decide,.refl h⟩⟩) fun _=>aB (nN h hm) fun r hr=>aA fun _=>aD hr.1)
theorem rS (h:iS C m s) (hA:C.A.length<=2^40){q:wc}(hq:wi q):(R.bP s q).sat fun r=>Pst C m s.2.2.2.2.2.2.1 s r.1.2 r.2/\(r.1.2≠5->r.1.2=0):=by
 unfold R.bP;have h1:=h.u0;have h2:=h.us;refine aA fun _=>bL (fun _=>ae qH (aA fun _=>aD ⟨.inl ⟨rfl,h.nd,.inl ⟨rfl,hq⟩⟩,fun e=>absurd rfl e⟩)) fun hne=>?_;have e0:s.2.2.1.length=C.A.length:=congrArg List.length h.an;have hne:Ne (α:=Int) (s.2.2.2.1) ((s.2.2.1.length:Int)):=hne;have e1:w6 (HAdd.hAdd (α:=Int) (β:=Int) (γ:=Int) (s.2.2.2.1) (1))=(HAdd.hAdd (α:=Int) (β:=Int) (γ:=Int) (s.2.2.2.1) (1)):=wrap64 (by omega)
 have e2:w6 (HSub.hSub (α:=Int) (β:=Int) (γ:=Int) ((HAdd.hAdd (α:=Int) (β:=Int) (γ:=Int) (s.2.2.2.1) (1))) (1))=s.2.2.2.1:=by rw [wrap64 (by omega)];omega
 rw [e1,e2];exact bu h1 (by omega) fun a _ _=>pX (aA fun _=>aD ⟨.inr ⟨show (0:Int)≠5 by decide,⟨h.nd,h.lm,h.an,by show LE.le (α:=Int) (0) ((HAdd.hAdd (α:=Int) (β:=Int) (γ:=Int) (s.2.2.2.1) (1)));omega,by show LE.le (α:=Int) ((HAdd.hAdd (α:=Int) (β:=Int) (γ:=Int) (s.2.2.2.1) (1))) (_);omega,h.hp,h.d0,h.dp,h.b0,h.bg,h.rq,h.en⟩,.refl _,rfl,Int.le_refl _⟩,fun _=>rfl⟩)
end
end Go.Mach

set_option maxRecDepth 100000
namespace Go.Mach
open Res
def vR (k:Int):Bool:=decide (30<=k/\k<=53/\k≠40)
def zX (k:Int):Bool:=decide (k=33\/k=52\/k=53)
def oO (s k:Int):Bool :=
 if s=1\/s=2 then true
 else if s=3 then vR k
 else if s=4 then zX k
 else if s=5 then k == 7
 else if s=6 then k == 20
 else if s=7 then k == 40
 else if s=8 then k == 4
 else if s=9 then k == 11 || vR k
 else if s=10 then k == 11 || k == 5 || k == 6 || vR k
 else if s=11 then k == 11 || k == 17
 else if s=12 then k == 11 || k == 4
 else if s=13 then k == 4 || vR k
 else false
def yc (n last:Int):List Int:=List.replicate (n-1).toNat 6++[last]
def shp (k n:Int):List Int×Int :=
 if k=1\/k=4 then ([],1)
 else if k=3\/k=15\/k=40\/k=43\/k=52 then ([3],0)
 else if k=5\/k=6 then ([5],5)
 else if k=7\/k=14 then (List.take (min n 1).toNat [3],0)
 else if k=8 then (List.take (min (max n 2) 3).toNat [3,2,2],0)
 else if k=9 then ([3,2],0)
 else if k=10 then ([10,9,9,2],0)
 else if k=16 then ([8,11,12],0)
 else if k=17 then ([8],0)
 else if k=18 then ([2],0)
 else if k=19\/k=41 then (yc n 8,0)
 else if k=42 then (yc n 13,0)
 else if k=38 then ([],3)
 else if k=39 then ([],7)
 else if k=44\/k=45 then ([4],0)
 else if k=46\/k=47\/k=53 then ([3,3],0)
 else if k=48 then ([3,3,3],0)
 else if k=49 then ([4,3],0)
 else if k=50\/k=51 then ([3],3)
 else ([],0)
def srt (l:List Int×Int) (i:Nat):Int:=l.1.getD i l.2
structure qt (N:List gN) (x:gN):Prop where
 kid:∀ (i:Nat) (k:Int),x.2.2.2.2.2[i]?=some k->0<=k/\∃ y,N[k.toNat]?=some y/\oO (srt (shp x.1 x.2.2.2.2.2.length) i) y.1=true/\x.2.2.2.2.2.length+y.2.2.2.2.2.length<=20000
 len:(shp x.1 x.2.2.2.2.2.length).1.length<=x.2.2.2.2.2.length
 nam:x.1=49->x.2.1≠[]
def Kid (N:List gN) (x:gN) (i:Nat) (P:Int->Prop):Prop:=∃ k y,x.2.2.2.2.2[i]?=some k/\0<=k/\N[k.toNat]?=some y/\P y.1
theorem qt.at' {N:List gN}{x:gN}(h:qt N x){i:Nat}(hi:i < x.2.2.2.2.2.length) (s:Int) (hs:srt (shp x.1 x.2.2.2.2.2.length) i=s):Kid N x i fun k=>oO s k=true:=by
 obtain ⟨h0,y,h1,h2,_⟩:=h.kid i _ (List.getElem?_eq_getElem hi);exact ⟨_,y,List.getElem?_eq_getElem hi,h0,h1,hs▸h2⟩
theorem nz {k:Int}:(R.dn k).sat (·=vR k):=by
 unfold R.dn vR;refine aA fun _=>lg (fun h1=>lg (fun h2=>aD ?_) fun h2=>aD ?_) fun h1=>aD ?_
 ·show (!(k == 40))=_;by_cases hk:k=40
  ·subst hk;rfl
  ·rw [show (k == 40)=false from beq_false_of_ne hk,decide_eq_true ⟨h1,h2,hk⟩];rfl
 ·rw [decide_eq_false (by omega)]
 ·rw [decide_eq_false (by omega)]
theorem C2 {k:Int}:(R.gF k).sat (·=zX k):=by
 unfold R.gF zX;refine aA fun _=>bL (fun h1=>aD ?_) fun h1=>bL (fun h2=>aD ?_) fun h2=>aD ?_
 ·rw [decide_eq_true (by omega)]
 ·rw [decide_eq_true (by omega)]
 ·show (k == 53)=_;by_cases hk:k=53
  ·subst hk;rfl
  ·rw [show (k == 53)=false from beq_false_of_ne hk,decide_eq_false (by omega)]
theorem tC {k:Int}:Safe (R.eU k):=⟨by unfold R.eU;repeat' (first|with_reducible (first|refine aD ?_|refine aA fun _=>?_|refine eD ?_|refine fZ (fun _=>?_) fun _=>?_|refine lg (fun _=>?_) fun _=>?_|refine bL (fun _=>?_) fun _=>?_|refine jh rfl ?_|refine ik rfl ?_|refine aH (fun _=>?_) fun _=>?_|refine pX ?_|refine q_e ?_|refine q_p fun _ _=>?_|refine q_b fun _=>?_|exact safe|refine fP ?_)|exact trivial)⟩
theorem sub_ok {k:Int}:Safe (R.lB k):=⟨by unfold R.lB;have:=@tC;repeat' (first|with_reducible (first|refine aD ?_|refine aA fun _=>?_|refine eD ?_|refine fZ (fun _=>?_) fun _=>?_|refine lg (fun _=>?_) fun _=>?_|refine bL (fun _=>?_) fun _=>?_|refine jh rfl ?_|refine ik rfl ?_|refine aH (fun _=>?_) fun _=>?_|refine pX ?_|refine q_e ?_|refine q_p fun _ _=>?_|refine q_b fun _=>?_|exact safe|refine fP ?_)|exact trivial)⟩
theorem II {s k:Int}:(R.kn s k).sat fun r=>r=true->oO s k=true:=by
 unfold R.kn oO;have i1:Safe (R.eU k):=tC;have i2:Safe (R.lB k):=sub_ok
 refine aA fun _=>bL (fun h=>?_) fun h1=>bL (fun h=>?_) fun h2=>bL (fun h=>?_) fun h3=>bL (fun h=>?_) fun h4=>bL (fun h=>?_) fun h5=>bL (fun h=>?_) fun h6=>bL (fun h=>?_) fun h7=>bL (fun h=>?_) fun h8=>bL (fun h=>?_) fun h9=>bL (fun h=>?_) fun h10=>bL (fun h=>?_) fun h11=>bL (fun h=>?_) fun h12=>bL (fun h=>?_) fun h13=>aD fun e=>by cases e
 all_goals try (subst h)
 ·exact q_b fun _=>aD fun _=>rfl
 ·exact q_b fun _=>aD fun _=>rfl
 ·exact ae nz (aD id)
 ·exact ae C2 (aD id)
 ·exact aD id
 ·exact aD id
 ·exact aD id
 ·exact aD id
 ·exact bL (fun h=>aD fun _=>by subst h;rfl) fun h=>ae nz (aD fun e=>by simp [e])
 ·exact bL (fun h=>aD fun _=>by subst h;rfl) fun h=>bL (fun h=>aD fun _=>by subst h;rfl) fun h=>bL (fun h=>aD fun _=>by subst h;rfl) fun h=>ae nz (aD fun e=>by simp [e])
 ·exact bL (fun h=>aD fun _=>by subst h;rfl) fun h=>aD fun e=>by simp [e]
 ·exact bL (fun h=>aD fun _=>by subst h;rfl) fun h=>aD fun e=>by simp [e]
 ·exact bL (fun h=>aD fun _=>by subst h;rfl) fun h=>ae nz (aD fun e=>by simp [e])
theorem xg {n last:Int}(hn:n<=2^40) (h0:0<=n):(R.gj n last).sat (·=yc n last):=by
 unfold R.gj;have e:w6 (n-1)=n-1:=wrap64 (by omega);rw [e];refine aA fun _=>ae (a:=List.replicate (n-1).toNat 6) (iC (Q:=fun l:List Int=>l=List.replicate (n-1).toNat 6) (fun x=>x.2) (n-1).toNat (by omega) (fun x=>x.1=List.replicate x.2.toNat 6) (by simp) (by simp) rfl fun x h0 h1 hI=>?_) (bI (decide_eq_true (by simp;omega)) (aD rfl));obtain ⟨l,i⟩:=x;have hI:l=List.replicate i.toNat 6:=hI;have h0:0<=i:=h0;have h1:i<=((n-1).toNat:Int):=h1;subst hI;refine fZ (fun hl=>bI (decide_eq_true (by simp;omega)) (aD ⟨rfl,?_,?_⟩)) fun hl=>aD ?_
 ·have hl:i < n-1:=hl;show i < ((n-1).toNat:Int);omega
 ·have hl:i < n-1:=hl;show List.replicate i.toNat 6++[6]=List.replicate (w6 (i+1)).toNat 6;rw [wrap64 (by omega),show (i+1).toNat=i.toNat+1 by omega,List.replicate_succ']
 ·have hl:n-1<=i:=hl;show List.replicate i.toNat 6=_;rw [show i.toNat=(n-1).toNat by omega]
theorem nx {β:Type}{Q:β->Prop}{k a b:Int}{x y:Res β}(h1:(k=a\/k=b)->x.sat Q) (h2:¬ (k=a\/k=b)->y.sat Q):((br (k == a) (Res.ok (k == a)) (Res.ok (k == b))).bind fun v=>br v x y).sat Q:=by
 refine aB (R:=fun v=>v=decide (k=a\/k=b)) (bL (fun h=>aD ?_) fun h=>aD ?_) fun v hv=>?_
 ·subst h;simp
 ·by_cases hb:k=b
  ·subst hb;simp
  ·rw [show (k == b)=false from beq_false_of_ne hb,decide_eq_false (by omega)]
 ·subst hv;exact aH (fun h=>h1 (of_decide_eq_true h)) fun h=>h2 (of_decide_eq_false h)
theorem br_or3 {β:Type}{Q:β->Prop}{k a b c:Int}{x y:Res β}(h1:(k=a\/k=b\/k=c)->x.sat Q) (h2:¬ (k=a\/k=b\/k=c)->y.sat Q):((br (k == a) (Res.ok (k == a)) (br (k == b) (Res.ok (k == b)) (Res.ok (k == c)))).bind fun v=>br v x y).sat Q:=by
 refine aB (R:=fun v=>v=decide (k=a\/k=b\/k=c)) (bL (fun h=>aD ?_) fun h=>bL (fun h=>aD ?_) fun h=>aD ?_) fun v hv=>?_
 ·subst h;simp
 ·subst h;simp
 ·by_cases hb:k=c
  ·subst hb;simp
  ·rw [show (k == c)=false from beq_false_of_ne hb,decide_eq_false (by omega)]
 ·subst hv;exact aH (fun h=>h1 (of_decide_eq_true h)) fun h=>h2 (of_decide_eq_false h)
theorem br_or5 {β:Type}{Q:β->Prop}{k a b c d e:Int}{x y:Res β}(h1:(k=a\/k=b\/k=c\/k=d\/k=e)->x.sat Q) (h2:¬ (k=a\/k=b\/k=c\/k=d\/k=e)->y.sat Q):((br (k == a) (Res.ok (k == a)) (br (k == b) (Res.ok (k == b)) (br (k == c) (Res.ok (k == c)) (br (k == d) (Res.ok (k == d)) (Res.ok (k == e)))))).bind fun v=>br v x y).sat Q:=by
 refine aB (R:=fun v=>v=decide (k=a\/k=b\/k=c\/k=d\/k=e)) (bL (fun h=>aD ?_) fun h=>bL (fun h=>aD ?_) fun h=>bL (fun h=>aD ?_) fun h=>bL (fun h=>aD ?_) fun h=>aD ?_) fun v hv=>?_
 ·subst h;simp
 ·subst h;simp
 ·subst h;simp
 ·subst h;simp
 ·by_cases hb:k=e
  ·subst hb;simp
  ·rw [show (k == e)=false from beq_false_of_ne hb,decide_eq_false (by omega)]
 ·subst hv;exact aH (fun h=>h1 (of_decide_eq_true h)) fun h=>h2 (of_decide_eq_false h)
theorem Fj {k n:Int}(hn:n<=2^40) (h0:0<=n):(R.jO k n).sat (·=shp k n):=by
 unfold R.jO shp;refine aA fun _=>nx (fun h=>aD (by rw [if_pos h])) fun h=>?_;rw [if_neg h];refine br_or5 (fun h=>aD (by rw [if_pos h])) fun h=>?_;rw [if_neg h];refine nx (fun h=>aD (by rw [if_pos h])) fun h=>?_;rw [if_neg h];refine nx (fun h=>gL (iM (by rw [gf];omega) (iM (by rw [gf];simp;omega) (aD ?_)))) fun h=>?_
 ·rw [if_pos h,gf];rfl
 rw [if_neg h];refine bL (fun h=>gL (iM (by rw [gf,jv];omega) (iM (by rw [gf,jv];simp;omega) (aD ?_)))) fun h=>?_
 ·rw [if_pos h,gf,jv];rfl
 rw [if_neg h]
 iterate 5 (refine bL (fun h=>aD (by rw [if_pos h])) fun h=>?_;rw [if_neg h])
 refine nx (fun h=>ae (xg hn h0) (aA fun _=>aD (by rw [if_pos h]))) fun h=>?_;rw [if_neg h];refine bL (fun h=>ae (xg hn h0) (aA fun _=>aD (by rw [if_pos h]))) fun h=>?_;rw [if_neg h]
 iterate 2 (refine bL (fun h=>aD (by rw [if_pos h])) fun h=>?_;rw [if_neg h])
 refine nx (fun h=>aD (by rw [if_pos h])) fun h=>?_;rw [if_neg h];refine br_or3 (fun h=>aD (by rw [if_pos h])) fun h=>?_;rw [if_neg h]
 iterate 2 (refine bL (fun h=>aD (by rw [if_pos h])) fun h=>?_;rw [if_neg h])
 refine nx (fun h=>aD (by rw [if_pos h])) fun h=>?_;rw [if_neg h];exact aD rfl
end Go.Mach

set_option maxRecDepth 100000
namespace Go.Mach
open Res
abbrev kl (x:gN):Nat:=x.2.2.2.2.2.length+x.2.1.length
theorem yZ:∀ {l:List Nat}{i a:Nat},l[i]?=some a->a<=l.sum
 |[],_,_,h=>by simp at h
 |x::l,0,a,h=>by
  have:x=a:=by simpa using h
  subst this;simp
 |x::l,i+1,a,h=>by
  have h:l[i]?=some a:=by simpa using h
  have:=yZ h;simp only [List.sum_cons];omega
theorem CI:∀ {l:List Nat}{i j a b:Nat},l[i]?=some a->l[j]?=some b->i < j->a+b<=l.sum
 |[],_,_,_,_,h,_,_=>by simp at h
 |x::l,0,j,a,b,h,g,hij=>by
  have:x=a:=by simpa using h
  subst this;obtain ⟨j',rfl⟩:∃ j',j=j'+1:=⟨j-1,by omega⟩
  have g:l[j']?=some b:=by simpa using g
  have:=yZ g;simp only [List.sum_cons];omega
 |x::l,i+1,j,a,b,h,g,hij=>by
  obtain ⟨j',rfl⟩:∃ j',j=j'+1:=⟨j-1,by omega⟩
  have h:l[i]?=some a:=by simpa using h
  have g:l[j']?=some b:=by simpa using g
  have:=CI h g (by omega);simp only [List.sum_cons];omega
theorem EG {t:List gN}(ht:t.length<=20000):(R.gI t 20000).sat fun r=>r<=20000->(t.map kl).sum<=20000:=by
 unfold R.gI;refine aA fun _=>aB (iC (Q:=fun r:Int=>r<=20000->(t.map kl).sum<=20000) (fun x=>x.2) t.length (by omega) (fun x=>0<=x.1/\(x.1<=20000->(((t.take x.2.toNat).map kl).sum:Int)<=x.1)) (by simp) (by simp) (by simp) fun x h0 h1 hI=>?_) fun r hr=>aD hr;obtain ⟨n,i⟩:=x;obtain ⟨n0,hs⟩:=hI;have h0:0<=i:=h0;have h1:i<=(t.length:Int):=h1;have n0:0<=n:=n0;have hs:n<=20000->(((t.take i.toNat).map kl).sum:Int)<=n:=hs;refine aB (R:=fun b=>(b=true->i < (t.length:Int)/\n<=20000)/\(b=false->i=(t.length:Int)\/20000 < n)) (fZ (fun hl=>aD ⟨fun e=>⟨hl,of_decide_eq_true e⟩,fun e=>.inr (Int.not_le.1 (of_decide_eq_false e))⟩) fun hl=>aD ⟨(fun e=>by cases e),fun _=>.inl (Int.le_antisymm h1 hl)⟩) fun b ⟨b1,b2⟩=>?_
 cases b with
 |true =>
  obtain ⟨hl,hn⟩:=b1 rfl;refine jh rfl (bN h0 (by omega) fun x hx _=>aD ⟨rfl,hl,?_⟩);have hx:t[i.toNat]?=some x:=hx
  have e1:w6 (20000+1)=20001:=by decide
  have e2:(w6 (i+1)).toNat=i.toNat+1:=by rw [wrap64 (by omega)];omega
  have e3:((t.take (i.toNat+1)).map kl).sum=((t.take i.toNat).map kl).sum+kl x:=by
   rw [List.take_add_one,hx];simp
  have:=hs hn;show 0<=w6 _/\(w6 _<=20000->(((t.take (w6 (i+1)).toNat).map kl).sum:Int)<=w6 _);rw [e1,e2,e3]
  have c1:0<=kv (x.2.2.1.length:Int) 20001/\kv (x.2.2.1.length:Int) 20001<=20001:=by rw [gf];omega
  have c2:0<=kv (x.2.2.2.2.1.2.length:Int) 20001/\kv (x.2.2.2.2.1.2.length:Int) 20001<=20001:=by rw [gf];omega
  have c3:0<=kv (x.2.2.2.2.2.length:Int) 20001/\kv (x.2.2.2.2.2.length:Int) 20001<=20001:=by rw [gf];omega
  have c4:0<=kv (x.2.1.length:Int) 20001/\kv (x.2.1.length:Int) 20001<=20001:=by rw [gf];omega
  have c5:kv (x.2.2.2.2.2.length:Int) 20001<=20000->kv (x.2.2.2.2.2.length:Int) 20001=(x.2.2.2.2.2.length:Int):=by rw [gf];omega
  have c6:kv (x.2.1.length:Int) 20001<=20000->kv (x.2.1.length:Int) 20001=(x.2.1.length:Int):=by rw [gf];omega
  have ek:((kl x:Nat):Int)=(x.2.2.2.2.2.length:Int)+(x.2.1.length:Int):=Int.natCast_add _ _;generalize kl x=kx at *;generalize kv (x.2.2.1.length:Int) 20001=m1 at *;generalize kv (x.2.2.2.2.1.2.length:Int) 20001=m2 at *;generalize kv (x.2.2.2.2.2.length:Int) 20001=m3 at *;generalize kv (x.2.1.length:Int) 20001=m4 at *;rw [wrap64 (n:=n+1) (by omega),wrap64 (n:=n+1+m1) (by omega),wrap64 (n:=n+1+m1+m2) (by omega),wrap64 (n:=n+1+m1+m2+m3) (by omega),wrap64 (n:=n+1+m1+m2+m3+m4) (by omega)];refine ⟨by omega,fun hle=>?_⟩;have:=c5 (by omega);have:=c6 (by omega);omega
 |false =>
  refine ik rfl (aD fun hle=>?_);have hle:n<=20000:=hle;rcases b2 rfl with e|e
  ·have:=hs hle;rw [e] at this;rw [show ((t.length:Int)).toNat=t.length by omega,List.take_length] at this;omega
  ·omega
structure rF (t:List gN):Prop where
 one:∀ (i:Nat) (x:gN),t[i]?=some x->x.2.2.2.2.2.length<=20000
 two:∀ (i j:Nat) (x y:gN),t[i]?=some x->t[j]?=some y->i < j->x.2.2.2.2.2.length+y.2.2.2.2.2.length<=20000
 nm:∀ (i:Nat) (x:gN),t[i]?=some x->x.2.1.length<=20000
theorem few_ok {t:List gN}:(R.iw t).sat fun r=>r=true->t.length<=20000/\rF t:=by
 unfold R.iw
 refine aA fun _=>lg (fun h=>?_) fun _=>aD fun e=>by cases e
 have h:(t.length:Int)<=20000:=h;refine aB (EG (by omega)) fun r hr=>aA fun _=>aD fun e=>?_;have hs:=hr (of_decide_eq_true e)
 have ho:∀ (i:Nat) (x:gN),t[i]?=some x->x.2.2.2.2.2.length+x.2.1.length<=20000:=fun i x hx=>by
  have:(t.map kl)[i]?=some (kl x):=by rw [List.getElem?_map,hx];rfl
  exact Nat.le_trans (yZ this) hs
 refine ⟨by omega,fun i x hx=>?_,fun i j x y hx hy hij=>?_,fun i x hx=>?_⟩
 ·have:=ho i x hx;omega
 ·have h1:(t.map kl)[i]?=some (kl x):=by rw [List.getElem?_map,hx];rfl
  have h2:(t.map kl)[j]?=some (kl y):=by rw [List.getElem?_map,hy];rfl
  have:(x.2.2.2.2.2.length+x.2.1.length)+(y.2.2.2.2.2.length+y.2.1.length)<=20000:=Nat.le_trans (CI h1 h2 hij) hs;omega
 ·have:=ho i x hx;omega
def qy (t:List gN) (m:Nat):Prop:=∀ (n:Nat) (x:gN),n < m->t[n]?=some x->∀ (i:Nat) (k:Int),x.2.2.2.2.2[i]?=some k->(n:Int) < k/\k < (t.length:Int)
theorem Ff {t:List gN}(ht:t.length<=4096) (hf:rF t):(R.jo t).sat fun r=>r=true->qy t t.length:=by
 unfold R.jo
 refine aA fun _=>aB (iC (Q:=fun r:List Int ⊕ Bool=>match r with|.inl _=>qy t t.length|.inr b=>b=false) (fun x=>x.2) t.length (by omega) (fun x=>x.1.length<=20000*x.2.toNat/\qy t x.2.toNat) (by simp) (by simp) ⟨by simp,fun n x h=>by simp at h⟩ fun x h0 h1 hI=>?_) fun r hr=>?_
 ·obtain ⟨l,i⟩:=x;obtain ⟨hl,ho⟩:=hI;have h0:0<=i:=h0;have h1:i<=(t.length:Int):=h1;have hl:l.length<=20000*i.toNat:=hl;have ho:qy t i.toNat:=ho;refine fZ (fun hi=>?_) fun hi=>aD ?_
  ·have hi:i < (t.length:Int):=hi;refine bN h0 (by omega) fun x hx _=>?_;have hx:t[i.toNat]?=some x:=hx;have hk:=hf.one _ x hx
   refine aB (R:=fun r:List Int ⊕ Bool=>match r with|.inl l'=>l'.length<=l.length|.inr b=>b=false) (fZ (fun _=>?_) fun _=>aD (Nat.le_refl _)) fun r hr=>?_
   ·refine aB (R:=fun b=>b=false->0 < l.length) (bL (fun _=>aD fun e=>by cases e) fun hne=>?_) fun b hb=>?_
    ·have hne:(l.length:Int)≠0:=hne;have e:w6 ((l.length:Int)-1)=(l.length:Int)-1:=wrap64 (by omega);show (ai (ile 0 (w6 ((l.length:Int)-1)) && _) _).sat _;rw [e];exact gL (iM (by omega) (nr (by show (l.length:Int)-1 < (l.length:Int);omega) (bu (by omega) (by show _ < l.length;omega) fun _ _ _=>aD fun _=>by omega)))
    ·cases b with
     |true=>exact jh rfl (aD rfl)
     |false =>
      have hp:=hb rfl;have e:w6 ((l.length:Int)-1)=(l.length:Int)-1:=wrap64 (by omega);refine ik rfl ?_;show (ai (ile 0 (w6 ((l.length:Int)-1)) && _) _).sat _;rw [e];refine gL (iM (by omega) (iM (by show (l.length:Int)-1<=(l.length:Int);omega) (aD ?_)));show (List.take _ (List.drop 0 l)).length<=l.length;simp
   ·cases r with
    |inr b=>exact jf (aD hr)
    |inl l' =>
     have hr:l'.length<=l.length:=hr;refine je ?_;have e:w6 ((x.2.2.2.2.2.length:Int)-1)=(x.2.2.2.2.2.length:Int)-1:=wrap64 (by omega);show ((loop _ fuel (l',w6 ((x.2.2.2.2.2.length:Int)-1))).bind _).sat _;rw [e]
     refine aB (ko (Q:=fun r:List Int ⊕ Bool=>match r with|.inl l''=>l''.length<=l.length+20000/\qy t (i.toNat+1)|.inr b=>b=false) (fun y=>(y.2+1).toNat) (by show ((x.2.2.2.2.2.length:Int)-1+1).toNat<=_;omega) (fun y=>-1<=y.2/\y.2 < (x.2.2.2.2.2.length:Int)/\(y.1.length:Int)+y.2+1<=(l'.length:Int)+(x.2.2.2.2.2.length:Int)/\∀ (j:Nat) (k:Int),y.2 < (j:Int)->x.2.2.2.2.2[j]?=some k->i < k/\k < (t.length:Int)) ⟨by show -1<=(x.2.2.2.2.2.length:Int)-1;omega,by show (x.2.2.2.2.2.length:Int)-1 < _;omega,by show (l'.length:Int)+((x.2.2.2.2.2.length:Int)-1)+1<=_;omega,fun j k hj hk=>?_⟩ fun y hy=>?_) fun r hr=>?_
     ·have hj:(x.2.2.2.2.2.length:Int)-1 < (j:Int):=hj;have:=(List.getElem?_eq_some_iff.1 hk).1;exact absurd this (by show ¬ (j < x.2.2.2.2.2.length);omega)
     ·obtain ⟨m,j⟩:=y;obtain ⟨y1,y2,y3,y4⟩:=hy;have y1:-1<=j:=y1;have y2:j < (x.2.2.2.2.2.length:Int):=y2;have y3:(m.length:Int)+j+1<=(l'.length:Int)+(x.2.2.2.2.2.length:Int):=y3;have y4:∀ (j':Nat) (k:Int),j < (j':Int)->x.2.2.2.2.2[j']?=some k->i < k/\k < (t.length:Int):=y4;refine lg (fun hj=>?_) fun hj=>aD ?_
      ·have hj:0<=j:=hj;refine aB (R:=fun b=>b=false->∀ k,x.2.2.2.2.2[j.toNat]?=some k->i < k/\k < (t.length:Int)) (bu hj (by show _ < x.2.2.2.2.2.length;omega) fun k hk _=>lg (fun _=>aD fun e=>by cases e) fun hik=>bu hj (by show _ < x.2.2.2.2.2.length;omega) fun k' hk' _=>aD fun e k'' hk''=>?_) fun b hb=>?_
       ·have e1:some k=some k'':=hk.symm.trans hk'';have e2:some k'=some k'':=hk'.symm.trans hk'';cases e1;cases e2;exact ⟨hik,Int.not_le.1 (of_decide_eq_false e)⟩
       ·cases b with
        |true=>exact jh rfl (aD rfl)
        |false =>
         refine ik rfl (bu hj (by show _ < x.2.2.2.2.2.length;omega) fun k hk _=>bI (decide_eq_true ?_) (aD ⟨?_,?_⟩))
         ·show (m.length+1)*8<=2^47;omega
         ·show (w6 (j-1)+1).toNat < (j+1).toNat;rw [wrap64 (n:=j-1) (by omega)];omega
         ·show -1<=w6 (j-1)/\w6 (j-1) < _/\((m++[k]).length:Int)+w6 (j-1)+1<=_/\∀ (j':Nat) (k:Int),w6 (j-1) < (j':Int)->_;rw [wrap64 (n:=j-1) (by omega)];refine ⟨by omega,by omega,by simp;omega,fun j' k' hj' hk'=>?_⟩;by_cases hjj:j < (j':Int)
          ·exact y4 j' k' hjj hk'
          ·have:j'=j.toNat:=by omega
           subst this;exact hb rfl k' hk'
      ·have hj:j < 0:=hj;refine ⟨by show m.length<=_;omega,fun n x' hn hx' i' k hk=>?_⟩;by_cases hni:n < i.toNat
       ·exact ho n x' hni hx' i' k hk
       ·have:n=i.toNat:=by omega
        subst this;have:some x=some x':=hx.symm.trans hx';cases this;have:=y4 i' k (by omega) hk;omega
     ·cases r with
      |inr b=>exact jf (aD hr)
      |inl l'' =>
       obtain ⟨r1,r2⟩:=hr;have r1:l''.length<=l.length+20000:=r1;refine je (aD ⟨rfl,hi,?_⟩);show l''.length<=20000*(w6 (i+1)).toNat/\qy t (w6 (i+1)).toNat;rw [wrap64 (n:=i+1) (by omega),show (i+1).toNat=i.toNat+1 by omega];exact ⟨by omega,r2⟩
  ·have hi:(t.length:Int)<=i:=hi
   have:i.toNat=t.length:=by omega
   rw [this] at ho;exact ho
 ·cases r with
  |inl _=>exact je (aD fun _=>hr)
  |inr b=>exact jf (aD fun e=>by rw [hr] at e;cases e)
end Go.Mach

set_option maxRecDepth 100000
namespace Go.Mach
open Res
instance G0 {x}:Safe (R.gd x):=by unfold R.gd;exact dw0
instance Ic {x}:Safe (R.iP x):=by unfold R.iP;exact dw0
instance I9 {x}:Safe (R.kD x):=by unfold R.kD;exact dw0
instance JY {a}:Safe (R.kz a):=by
 unfold R.kz;refine ⟨aA fun h=>?_⟩;simp only [Sg.i,oks,Sh.ok,Ty.ok,List.map,Par.v,Bool.and_eq_true] at h;have:=ny h
 have hn:(lU a).length=a.length:=by simp [lU]
 refine aB (mR (fun i=>i) a.length (by omega) (by omega) (by omega) fun i h0 h1=>?_).ok fun x _=>?_
 ·repeat' (first|with_reducible (first|refine aD ?_|refine aA fun _=>?_|refine eD ?_|refine fZ (fun _=>?_) fun _=>?_|refine lg (fun _=>?_) fun _=>?_|refine bL (fun _=>?_) fun _=>?_|refine jh rfl ?_|refine ik rfl ?_|refine aH (fun _=>?_) fun _=>?_|refine pX ?_|refine yu ?_|refine tY ?_|refine q_e ?_|refine q_p fun _ _=>?_|refine q_b fun _=>?_|refine bN ?_ ?_ fun _ _ _=>?_|refine bu ?_ ?_ fun _ _ _=>?_|refine gL ?_|refine iM ?_ ?_|refine nr ?_ ?_|refine sZ ?_ ?_|refine n_d ?_ ?_|refine tD (fun _=>?_) fun _=>?_|exact safe|refine fP ?_)|exact trivial|dsimp only [Nx,Dn]|with_reducible (first|rfl|refine And.intro ?_ ?_|intro _|contradiction)|omega|refine bI (by decide) ?_|(simp (disch:=omega) only [wrap64,gf,jv,List.length_append,List.length_cons,List.length_nil,List.length_take,List.length_drop,List.length_set,List.length_replicate,List.length_reverse]<;>omega))
 ·repeat' (first|with_reducible (first|refine aD ?_|refine aA fun _=>?_|refine eD ?_|refine fZ (fun _=>?_) fun _=>?_|refine lg (fun _=>?_) fun _=>?_|refine bL (fun _=>?_) fun _=>?_|refine jh rfl ?_|refine ik rfl ?_|refine aH (fun _=>?_) fun _=>?_|refine pX ?_|refine yu ?_|refine tY ?_|refine q_e ?_|refine q_p fun _ _=>?_|refine q_b fun _=>?_|refine bN ?_ ?_ fun _ _ _=>?_|refine bu ?_ ?_ fun _ _ _=>?_|refine gL ?_|refine iM ?_ ?_|refine nr ?_ ?_|refine sZ ?_ ?_|refine n_d ?_ ?_|refine tD (fun _=>?_) fun _=>?_|exact safe|refine fP ?_)|exact trivial|dsimp only [Nx,Dn]|with_reducible (first|rfl|refine And.intro ?_ ?_|intro _|contradiction)|omega|refine bI (by decide) ?_|(simp (disch:=omega) only [wrap64,gf,jv,List.length_append,List.length_cons,List.length_nil,List.length_take,List.length_drop,List.length_set,List.length_replicate,List.length_reverse]<;>omega))
instance Iv {a}:Safe (R.j8 a):=by unfold R.j8;exact dw0
instance Gt {x}:Safe (R.jl x):=by unfold R.jl;exact dw0
instance Gr {x}:Safe (R.fU x):=by unfold R.fU;exact dw0
theorem Fx {x:gN}:(R.fU x).sat fun r=>r=true->x.1=49->x.2.1≠[]:=by
 by_cases h:x.1=49/\x.2.1=[]
 ·obtain ⟨k,nm,y⟩:=x;obtain ⟨h1,h2⟩:=h;cases h1;cases h2
  have e:(R.fU (49,([],y))).strip=some false:=by kernel_rfl
  exact bH (ox e rfl) fun r hr e=>by rw [<- hr] at e;cases e
 ·exact bH safe fun r _ _ h1 h2=>h ⟨h1,h2⟩
theorem D8 {x:gN}:(R.hJ x).sat fun r=>r=true->x.1=49->x.2.1≠[]:=by
 unfold R.hJ;refine aA fun _=>aB (dw0:Safe _).ok fun b _=>aH (fun _=>aD fun e=>by cases e) fun _=>nx (fun h=>?_) fun h=>bL (fun h=>?_) fun h=>bL (fun h=>?_) fun h=>aB Fx fun r hr=>aD hr
 all_goals exact bH (dw0:Safe _).ok fun r _ _ e=>by rw [e] at h;exact absurd h (by decide)
theorem BB {t:List gN}(ho:qy t t.length){n:Int}(h0:0<=n) (h1:n < (t.length:Int)) (ht:t.length<=4096) (hf:rF t):(R.iJ t n).sat fun _=>True:=by
 unfold R.iJ;refine aA fun _=>aB (ko (Q:=fun _=>True) (fun m=>(t.length:Int).toNat-m.toNat) (by omega) (fun m=>0<=m/\m < (t.length:Int)) ⟨h0,h1⟩ fun m ⟨m0,m1⟩=>?_) fun r _=>aD trivial;have m0:0<=m:=m0;refine bN m0 (by omega) fun x hx _=>aB (dw0:Safe _).ok fun b _=>?_;have hx:t[m.toNat]?=some x:=hx;have hk:=hf.one _ x hx
 cases b with
 |inr b=>exact jf (aD trivial)
 |inl _ =>
  refine je (bL (fun _=>aD trivial) fun hne=>?_);have hne:(x.2.2.2.2.2.length:Int)≠0:=hne;have e:w6 ((x.2.2.2.2.2.length:Int)-1)=(x.2.2.2.2.2.length:Int)-1:=wrap64 (by omega);show (idx _ _ (w6 ((x.2.2.2.2.2.length:Int)-1)) _).sat _;rw [e];refine bu (by omega) (by show _ < x.2.2.2.2.2.length;omega) fun k hk _=>aD ?_;have:=ho _ x (by omega) hx _ k hk;exact ⟨by show (t.length:Int).toNat-k.toNat < (t.length:Int).toNat-m.toNat;omega,by omega,this.2⟩
theorem Hm {t:List gN}(ho:qy t t.length) (ht:t.length<=4096) (hf:rF t){n:Int}(h0:0<=n) (h1:n < (t.length:Int)):(R.jy t n).sat fun r=>r=true->∀ x,t[n.toNat]?=some x->(shp x.1 x.2.2.2.2.2.length).1.length<=x.2.2.2.2.2.length/\∀ (i:Nat) (k:Int),x.2.2.2.2.2[i]?=some k->∃ y,t[k.toNat]?=some y/\oO (srt (shp x.1 x.2.2.2.2.2.length) i) y.1=true:=by
 unfold R.jy;refine aA fun _=>bN h0 (by omega) fun x hx _=>?_;have hx:t[n.toNat]?=some x:=hx;have hk:=hf.one _ x hx;have hord:=ho _ x (by omega) hx;refine ae (Fj (by show (x.2.2.2.2.2.length:Int)<=_;omega) (by show (0:Int)<=(x.2.2.2.2.2.length:Int);omega)) (aA fun _=>aB (R:=fun b=>b=false->(shp x.1 x.2.2.2.2.2.length).1.length<=x.2.2.2.2.2.length) (aB (dw0:Safe _).ok fun b _=>aH (fun _=>aD fun e=>by cases e) fun _=>aD fun e=>?_) fun b hb=>?_)
 ·have:=Int.not_lt.1 (of_decide_eq_false e);exact Int.ofNat_le.1 this
 cases b with
 |true=>exact jh rfl (aD fun e=>by cases e)
 |false =>
  have hl:=hb rfl
  refine ik rfl (aB (iC (Q:=fun r:Unit ⊕ Bool=>match r with|.inl _=>∀ (i:Nat) (k:Int),x.2.2.2.2.2[i]?=some k->∃ y,t[k.toNat]?=some y/\oO (srt (shp x.1 x.2.2.2.2.2.length) i) y.1=true|.inr b=>b=false) (fun j=>j) x.2.2.2.2.2.length (by omega) (fun j=>∀ (i:Nat) (k:Int),(i:Int) < j->x.2.2.2.2.2[i]?=some k->∃ y,t[k.toNat]?=some y/\oO (srt (shp x.1 x.2.2.2.2.2.length) i) y.1=true) (by omega) (by omega) (fun i k hi=>by omega) fun j j0 j1 hI=>?_) fun r hr=>?_)
  ·refine fZ (fun hj=>?_) fun hj=>aD fun i k hk=>hI i k (by have:=(List.getElem?_eq_some_iff.1 hk).1;have hj:(x.2.2.2.2.2.length:Int)<=j:=hj;have h3:i < x.2.2.2.2.2.length:=this;omega) hk;have hj:j < (x.2.2.2.2.2.length:Int):=hj;refine bu j0 (by show _ < x.2.2.2.2.2.length;omega) fun k hk _=>ae (a:=srt (shp x.1 x.2.2.2.2.2.length) j.toNat) (fZ (fun hs=>gL (iM j0 (nr hs (bu (by omega) (by omega) fun v hv _=>aD ?_)))) fun hs=>aD ?_) ?_
   ·show v=_;have hv:(shp x.1 x.2.2.2.2.2.length).1[((0:Int)+(j.toNat:Int)).toNat]?=some v:=hv;rw [show ((0:Int)+(j.toNat:Int)).toNat=j.toNat by omega] at hv;unfold srt;rw [List.getD_eq_getElem?_getD,hv];rfl
   ·show (shp x.1 x.2.2.2.2.2.length).2=_;unfold srt;rw [List.getD_eq_getElem?_getD,List.getElem?_eq_none (by omega)];rfl
   ·have:=hord _ k hk;refine bN (by omega) (by omega) fun y hy _=>aB II fun r hr=>eD (aH (fun e=>aD ⟨rfl,hj,fun i k' hi hk'=>?_⟩) fun _=>aD rfl);by_cases hij:(i:Int) < j
    ·exact hI i k' hij hk'
    ·have hi:(i:Int) < w6 (j+1):=hi;rw [wrap64 (by omega)] at hi
     have:i=j.toNat:=by omega
     subst this;have:some k=some k':=hk.symm.trans hk';cases this;exact ⟨y,hy,hr e⟩
  ·cases r with
   |inr b=>exact jf (aD fun e=>by rw [hr] at e;cases e)
   |inl _ =>
    have hr:∀ (i:Nat) (k:Int),x.2.2.2.2.2[i]?=some k->∃ y,t[k.toNat]?=some y/\oO (srt (shp x.1 x.2.2.2.2.2.length) i) y.1=true:=hr
    have hfin:∀ r:Bool,r=true->∀ x',t[n.toNat]?=some x'->(shp x'.1 x'.2.2.2.2.2.length).1.length<=x'.2.2.2.2.2.length/\∀ (i:Nat) (k:Int),x'.2.2.2.2.2[i]?=some k->∃ y,t[k.toNat]?=some y/\oO (srt (shp x'.1 x'.2.2.2.2.2.length) i) y.1=true:=fun _ _ x' hx'=>by
     have:some x=some x':=hx.symm.trans hx';cases this;exact ⟨hl,hr⟩
    have hget:∀ i:Nat,i < x.2.2.2.2.2.length->∀ k:Int,x.2.2.2.2.2[i]?=some k->0<=k/\k.toNat < t.length:=fun i _ k hk=>by have:=hord i k hk;omega
    refine je (bL (fun h16=>?_) fun _=>aB (R:=fun b=>b=true->x.2.2.2.2.2.length=3) (bL (fun _=>aD fun e=>Int.ofNat_inj.1 (eq_of_beq e)) fun _=>aD fun e=>by cases e) fun b hb=>aH (fun e=>?_) fun _=>aD (hfin _))
    ·have h16:x.1=16:=h16
     have h3:3<=x.2.2.2.2.2.length:=by rw [h16] at hl;simpa [shp] using hl
     refine bu (by decide) (by show 1 < x.2.2.2.2.2.length;omega) fun k hk _=>?_;have g1:=hget 1 (by omega) k hk;refine bN g1.1 g1.2 fun _ _ _=>aH (fun _=>aD (hfin _)) fun _=>bu (by decide) (by show 2 < x.2.2.2.2.2.length;omega) fun k' hk' _=>?_;have g2:=hget 2 (by omega) k' hk';exact bN g2.1 g2.2 fun _ _ _=>aD (hfin _)
    ·have h3:=hb e;refine bu (by decide) (by show 1 < x.2.2.2.2.2.length;omega) fun k hk _=>?_;have g1:=hget 1 (by omega) k hk;exact aB (BB ho g1.1 (by omega) ht hf) fun _ _=>aD (hfin _)
theorem Hi {t:List gN}(ho:qy t t.length) (ht:t.length<=4096) (hf:rF t):(R.jC t).sat fun r=>r.length=t.length:=by
 unfold R.jC;refine aA fun _=>gL (iM (by omega) (gL (iM (Int.le_refl _) (n_d (by omega) ?_))));refine aB (iC (Q:=fun r:List Int=>r.length=t.length) (fun x=>x.1) t.length (by omega) (fun x=>x.2.length=t.length) (by simp) (by simp) (by simp) fun x h0 h1 hI=>?_) fun r hr=>aD hr;obtain ⟨i,l⟩:=x;have h0:0<=i:=h0;have hI:l.length=t.length:=hI;refine fZ (fun hi=>?_) fun _=>aD hI;have hi:i < (t.length:Int):=hi;refine bN h0 (by omega) fun x hx _=>?_;have hx:t[i.toNat]?=some x:=hx;have hk:=hf.one _ x hx;have hord:=ho _ x (by omega) hx
 have il:i < (l.length:Int):=by omega
 refine gL (iM h0 (nr il (bu (by omega) (by show _ < l.length;omega) fun a _ _=>gL (iM h0 (nr il (bu (by omega) (by show _ < l.length;omega) fun a' _ _=>?_))))));refine aB (iC (Q:=fun r:List Int=>r.length=t.length) (fun x=>x.1) x.2.2.2.2.2.length (by omega) (fun x=>x.2.length=t.length) (by simp) (by simp) (by show (List.set l _ _).length=_;rw [List.length_set];exact hI) fun y y0 y1 yI=>?_) fun r hr=>aD ⟨rfl,hi,hr⟩;obtain ⟨j,m⟩:=y;have y0:0<=j:=y0;have yI:m.length=t.length:=yI;refine fZ (fun hj=>?_) fun _=>aD yI;have hj:j < (x.2.2.2.2.2.length:Int):=hj;refine bu y0 (by show _ < x.2.2.2.2.2.length;omega) fun k hk _=>?_;have ka:LT.lt (α:=Int) ((i.toNat:Int)) (k):=(hord _ k hk).1;have kb:LT.lt (α:=Int) (k) ((t.length:Int)):=(hord _ k hk).2
 have k0:LE.le (α:=Int) (0) (k):=by omega
 have im:i < (m.length:Int):=by omega
 have km:LT.lt (α:=Int) (k) ((m.length:Int)):=by omega
 refine gL (iM h0 (nr im (bu (by omega) (by show _ < m.length;omega) fun b _ _=>gL (iM k0 (nr km (bu (by omega) (by show ((0:Int)+(Int.toNat k:Int)).toNat < m.length;omega) fun b' _ _=>aD ⟨rfl,hj,?_⟩))))));show (List.set m _ _).length=_;rw [List.length_set];exact yI
theorem max_ok {l:List Int}(h:0 < l.length) (hl:l.length<=2^40):(R.eG l).sat fun _=>True:=by
 unfold R.eG;refine aA fun _=>aB (R:=fun _=>True) (fZ (fun h1=>by have h1:(l.length:Int) < 1:=h1;omega) fun _=>aD trivial) fun _ _=>bN (by decide) (by show 0 < l.length;omega) fun a _ _=>aB (iC (Q:=fun _=>True) (fun x=>x.2) l.length (by omega) (fun _=>True) (by simp) (by show (1:Int)<=(l.length:Int);omega) trivial fun x h0 h1 _=>fZ (fun hi=>bN h0 (by have hi:x.2 < (l.length:Int):=hi;show _ < l.length;omega) fun _ _ _=>aD ⟨rfl,hi,trivial⟩) fun _=>aD trivial) fun _ _=>aD trivial
structure pP (t:List gN):Prop where
 pos:0 < t.length
 len:t.length<=4096
 nod:∀ (n:Nat) (x:gN),t[n]?=some x->qt t x
 rt:∃ x,t[0]?=some x/\x.1=1
theorem may_ok {t:List gN}(hf:rF t):(R.lV t).sat fun r=>r=true->pP t/\qy t t.length:=by
 unfold R.lV;refine aA fun _=>aB (R:=fun b=>b=false->0 < t.length/\t.length<=4096/\qy t t.length/\∃ x,t[0]?=some x/\x.1=1) (bL (fun _=>aD fun e=>by cases e) fun h0=>fZ (fun _=>aD fun e=>by cases e) fun h1=>?_) fun b hb=>?_
 ·have h0:(t.length:Int)≠0:=h0;have h1:(t.length:Int)<=4096:=h1
  refine bN (by decide) (by show 0 < t.length;omega) fun x hx _=>eD (bL (fun h1=>aB (Ff (by omega) hf) fun r hr=>aD fun e=>⟨by omega,by omega,hr (by cases r<;>simp_all),x,hx,h1⟩) fun _=>aD fun e=>by cases e)
 cases b with
 |true=>exact jh rfl (aD fun e=>by cases e)
 |false =>
  obtain ⟨h0,h1,ho,hrt⟩:=hb rfl
  refine ik rfl (aB (iC (Q:=fun r:Unit ⊕ Bool=>match r with|.inl _=>∀ (n:Nat) (x:gN),t[n]?=some x->qt t x|.inr b=>b=false) (fun i=>i) t.length (by omega) (fun i=>∀ (n:Nat) (x:gN),(n:Int) < i->t[n]?=some x->qt t x) (by omega) (by omega) (fun n x hn=>by omega) fun i i0 i1 hI=>?_) fun r hr=>?_)
  ·refine fZ (fun hi=>?_) fun hi=>aD fun n x hx=>hI n x (by have:=(List.getElem?_eq_some_iff.1 hx).1;have hi:(t.length:Int)<=i:=hi;omega) hx;have hi:i < (t.length:Int):=hi
   have hk:∀ x,t[i.toNat]?=some x->((R.hJ x).bind fun r=>br (!r) (Res.ok true) ((R.jy t i).bind fun r=>Res.ok (!r))).sat fun b=>b=false->qt t x:=fun x hx=>by
    refine aB D8 fun r hr=>eD (aH (fun e=>aB (Hm ho h1 hf i0 hi) fun r' hr'=>aD fun e'=>?_) fun _=>aD fun e=>by cases e)
    obtain ⟨g1,g2⟩:=hr' (by cases r'<;>simp_all) x hx
    refine ⟨fun j k hjk=>?_,g1,hr e⟩;obtain ⟨y,y1,y2⟩:=g2 j k hjk;have:=ho _ x (by omega) hx j k hjk;exact ⟨by omega,y,y1,y2,hf.two _ _ x y hx y1 (by omega)⟩
   refine aB (R:=fun b=>b=false->∀ x,t[i.toNat]?=some x->qt t x) (fZ (fun _=>bN i0 (by omega) fun x hx _=>bL (fun _=>aD fun e=>by cases e) fun _=>bN i0 (by omega) fun x' hx' _=>bH (hk x' hx') fun b hb e x'' hx''=>?_) fun _=>bN i0 (by omega) fun x' hx' _=>bH (hk x' hx') fun b hb e x'' hx''=>?_) fun b hb=>?_
   ·have:some x'=some x'':=hx'.symm.trans hx'';cases this;exact hb e
   ·have:some x'=some x'':=hx'.symm.trans hx'';cases this;exact hb e
   ·cases b with
    |true=>exact jh rfl (aD rfl)
    |false =>
     refine ik rfl (aD ⟨rfl,hi,fun n x hn hx=>?_⟩);by_cases hni:(n:Int) < i
     ·exact hI n x hni hx
     ·have hn:(n:Int) < w6 (i+1):=hn;rw [wrap64 (by omega)] at hn
      have:n=i.toNat:=by omega
      subst this;exact hb rfl x hx
  ·cases r with
   |inr b=>exact jf (aD fun e=>by rw [hr] at e;cases e)
   |inl _=>exact je (aB (Hi ho h1 hf) fun d hd=>aA fun _=>aB (max_ok (by omega) (by omega)) fun _ _=>aA fun _=>aD fun _=>⟨⟨h0,h1,hr,hrt⟩,ho⟩)
end Go.Mach

set_option maxRecDepth 100000
namespace Go.Mach
open Res
structure jz (C:Cx):Prop where
 tr:pP C.N
 fw:rF C.N
 od:qy C.N C.N.length
 F:C.F<=3000
 D:C.D<=200
 A:C.A.length<=2^40
section
variable {C:Cx}{m b:Int}{s:RunT}
theorem j7 (h:iS C m s){n:Int}{x:gN}{β:Type}{Q:β->Prop}{k:gN->Res β}(h0:0<=n) (hx:C.N[n.toNat]?=some x) (hk:(k x).sat Q):(idx aF s.1 n k).sat Q:=by
 have e:s.1=C.N:=h.nd;rw [e];refine bu h0 (List.getElem?_eq_some_iff.1 hx).1 fun y hy _=>?_;have:some x=some y:=hx.symm.trans hy;cases this;exact hk
theorem tg (h:iS C m s) (hm:m+1<=2^39){i:Int}{n:List Int}{v:eY}(hv:cJ v):(R.bU s.2.2.2.2.1 i n v).sat fun r=>Aft C (m+1) s.2.2.2.2.2.2.1 s (s.1,(s.2.1,(s.2.2.1,(s.2.2.2.1,(r.2,s.2.2.2.2.2))))):=by
 obtain ⟨B,h1,h2,h3⟩:=h.heap (by omega);exact bH (put_ok h1 h2 hv) fun r ⟨r1,r2⟩=>⟨h.put r1 (by omega),r2,rfl,Int.le_refl _⟩
theorem qA (h:iS C m s) (hm:m+1<=2^39){i:Int}{n:List UInt8}{v:eY}{r f:Bool}(hv:cJ v):(R.bA s.2.2.2.2.1 i n v r f).sat fun r=>Aft C (m+1) s.2.2.2.2.2.2.1 s (s.1,(s.2.1,(s.2.2.1,(s.2.2.2.1,(r.2,s.2.2.2.2.2))))):=by
 obtain ⟨B,h1,h2,h3⟩:=h.heap (by omega);exact bH (BT h1 h2 hv) fun r ⟨r1,r2⟩=>⟨h.put r1 (by omega),r2,rfl,Int.le_refl _⟩
theorem vp (h:iS C m s) (hm:m<=2^39){i:Int}{n:List UInt8}{v:eY}{r:Bool}(hv:cJ v):(R.cQ s.2.2.2.2.1 i n v r).sat fun r=>Aft C m s.2.2.2.2.2.2.1 s (s.1,(s.2.1,(s.2.2.1,(s.2.2.2.1,(r.2,s.2.2.2.2.2))))):=by
 obtain ⟨B,h1,h2,h3⟩:=h.heap hm;exact bH (HN h1 h2 hv) fun r ⟨r1,r2⟩=>⟨h.put r1 h3,r2,rfl,Int.le_refl _⟩
theorem uu (h:iS C m s) (hm:m+2<=2^39){n:Int}(hn:FnI C.N n){e:aO.den}(he:cJ e.2.1):(R.cG s n e).sat (dN C (m+2) s.2.2.2.2.2.2.1 s):=by
 unfold R.cG;obtain ⟨n0,x,hx,hk⟩:=hn;refine aA fun _=>j7 h n0 hx (aB (dw0:Safe _).ok fun own _=>?_)
 refine aB (R:=fun r:(aG.den×jZ.den) ⊕ (Int×(aG.den×aC.den))=>match r with|.inl r=>Aft C (m+1) s.2.2.2.2.2.2.1 s r.1/\∃ sc,r.2=(3,(0,(([]:List bQ.den),(([]:List bJ.den),(([]:List UInt8),(n,(sc,((0,((0,0),((false,([]:List Int)),(([]:List Int),0)))),(0,(0,(0,(0,([]:List Int)))))))))))))|.inr r=>cJ r.2.2/\Pst C (m+2) s.2.2.2.2.2.2.1 s r.1 r.2.1) (aH (fun _=>aB (ph h (by omega)) fun r1 ⟨g1,g2⟩=>aA fun _=>eD (bL (fun e1=>?_) fun _=>aD ⟨bz,g1.mono (by omega) (Int.le_refl _)⟩)) fun _=>aD ⟨(Aft.refl h).mono (by omega) (Int.le_refl _),_,rfl⟩) fun r hr=>?_
 ·have a1:=g1.aft (by rw [e1];decide);exact aB (qA a1.run (by omega) bz) fun r2 a2=>aA fun _=>aD ⟨a1.trans ⟨a2.run,a2.ext,a2.dp,Int.le_trans a1.bg a2.bg⟩,_,rfl⟩
 cases r with
 |inr r=>exact jf (aD ⟨hr.1,hr.2⟩)
 |inl r =>
  obtain ⟨s1,c⟩:=r;obtain ⟨a1,sc,hc⟩:=hr;have hc:c=_:=hc;subst hc;refine je (aB (R:=fun c:jZ.den=>c.1=3/\c.2.2.1=[]/\c.2.2.2.1=[]/\c.2.2.2.2.2.1=n/\cJ c.2.2.2.2.2.2.2.1/\c.2.2.2.2.1.length<=4096) (aB (dw0:Safe _).ok fun _ _=>aH (fun _=>aD ⟨rfl,rfl,rfl,rfl,he,Nat.zero_le _⟩) fun _=>aH (fun _=>aD ⟨rfl,rfl,rfl,rfl,bz,Nat.zero_le _⟩) fun _=>aD ⟨rfl,rfl,rfl,rfl,bz,Nat.zero_le _⟩) fun c ⟨c1,c2,c3,c4,c5,c6⟩=>?_);have k3:∀ k:Int,k≠3->c.1≠k:=fun k hk e=>hk (e.symm.trans c1);refine aB (o4 a1.run (by omega) ⟨fun _=>by rw [c4];exact ⟨n0,x,hx,hk⟩,fun e=>absurd e (k3 5 (by decide)),fun e=>absurd e (k3 6 (by decide)),fun e=>absurd e (k3 7 (by decide)),fun e=>absurd e (k3 8 (by decide))⟩ fun B _=>⟨by rw [c2];exact Nat.zero_le _,by rw [c3];exact Nat.zero_le _,by rw [c2];simp,by rw [c3];simp,c5,c6⟩) fun r2 ⟨⟨g1,g2⟩,g3⟩=>aA fun _=>aB (R:=fun b=>b=false->r2.1.2=0) (eD (bL (fun e=>aD fun _=>e) fun _=>aD fun e=>by cases e)) fun b hb=>?_;have p2:Pst C (m+1) s.2.2.2.2.2.2.1 s r2.1.2 r2.2:=Pst.after a1 (g2.mono (Int.le_refl _) a1.bg);refine aH (fun _=>aD ⟨g1,p2.mono (by omega) (Int.le_refl _)⟩) fun e=>?_;have a2:=p2.aft (by rw [hb e];decide);refine aB (o4 a2.run (by omega) (.mk' 1 rfl (by decide)) fun B _=>⟨Nat.zero_le _,Nat.zero_le _,by simp,by simp,bz,Nat.zero_le _⟩) fun r3 ⟨⟨f1,f2⟩,f3⟩=>aA fun _=>?_;have p3:Pst C (m+1) s.2.2.2.2.2.2.1 s r3.1.2 r3.2:=Pst.after a2 (f2.mono (Int.le_refl _) a2.bg);refine eD (bL (fun e=>?_) fun _=>aD ⟨f1,p3.mono (by omega) (Int.le_refl _)⟩);have a3:=p3.aft (by rw [e];decide);refine aB (dw (by decide)) fun u _=>aA fun _=>aB (tg a3.run (by omega) f1) fun r4 a4=>aA fun _=>?_;have a5:Aft C (m+2) s.2.2.2.2.2.2.1 s _:=a3.trans ⟨(a4.mono (m':=m+2) (b':=s.2.2.2.2.2.2.1) (by omega) (Int.le_trans a3.bg (Int.le_refl _))).run,a4.ext,a4.dp,Int.le_trans a3.bg a4.bg⟩;refine aH (fun _=>aB (vp a5.run (by omega) g1) fun r6 a6=>aA fun _=>aD ⟨g1,.inr ⟨show (0:Int)≠5 by decide,a5.trans ⟨a6.run,a6.ext,a6.dp,Int.le_trans a5.bg a6.bg⟩⟩⟩) fun _=>aD ⟨g1,.inr ⟨show (0:Int)≠5 by decide,a5⟩⟩
end
theorem Ey:R.gW.sat fun r=>r.length<=100:=by
 unfold R.gW;exact aA fun _=>aD (by decide)
theorem qo {α:Type}{r:Res α}{P:α->Bool}(h:(r.strip.map P)=some true):r.sat fun x=>P x=true:=by
 cases hr:r.strip with
 |none=>rw [hr] at h;cases h
 |some x =>
  rw [hr] at h
  exact bH (ox hr rfl) fun y hy=>by subst hy;simpa using h
theorem xC:R.cd.sat fun r=>decide (r.length<=100)=true:=qo (by kernel_rfl)
instance Hh {a}:Safe (R.jx a):=by unfold R.jx;exact dw0
theorem oo {n:List UInt8}:(R.cZ n).sat fun r=>r.1=6:=by
 unfold R.cZ;exact aA fun _=>aB xC fun r _=>aA fun _=>q_b fun _=>aA fun _=>aD rfl
theorem nY {a:aI.den}:(R.cD a).sat fun r=>r.1=3:=by
 unfold R.cD;exact aA fun _=>aD rfl
theorem qn {a:az.den}:(R.db a).sat fun r=>r.1=4:=by
 unfold R.db;exact aA fun _=>aD rfl
theorem lE {a:Bool}:(R.bF a).sat fun r=>r.1=2:=by
 unfold R.bF;exact aA fun _=>aH (fun _=>aD rfl) fun _=>aD rfl
theorem vk {v:eY}{k:Int}(e:v.1=k) (h:k≠5:=by decide):cJ v:=.of (by rw [e];exact h)
theorem Ac {n:List UInt8}:(R.iD n).sat fun r=>cJ r.1:=by
 unfold R.iD;exact aA fun _=>aH (fun _=>aD bz) fun _=>aH (fun _=>aB nY fun r hr=>aA fun _=>aD (vk hr)) fun _=>aH (fun _=>aB nY fun r hr=>aA fun _=>aD (vk hr)) fun _=>aB Ey fun l _=>aA fun _=>q_b fun _=>aH (fun _=>aB oo fun r hr=>aA fun _=>aD (vk hr)) fun _=>aD bz
section
variable {C:Cx}{m b:Int}{s:RunT}
theorem Pst.ret (h:iS C m s):Pst C m s.2.2.2.2.2.2.1 s 0 s:=.inr ⟨by decide,.refl h⟩
theorem AZ (h:iS C m s) (hm:m<=2^39){n:List UInt8}{e:aO.den}{l:Bool}:(R.dF s n e l).sat (dN C m s.2.2.2.2.2.2.1 s):=by
 unfold R.dF;obtain ⟨B,h1,h2,h3⟩:=h.heap hm;exact aA fun _=>aB (Cb h1 h2) fun r hr=>aA fun _=>aB (dw0:Safe _).ok fun _ _=>aH (fun _=>aB (nN h hm) fun r hr=>aA fun _=>aD hr.1) fun _=>aH (fun _=>aD ⟨hr,.ret h⟩) fun _=>aB Ac fun r hr=>aA fun _=>aH (fun _=>aD ⟨hr,.ret h⟩) fun _=>q_b fun _=>aH (fun _=>aB (gU h) fun r hr=>aA fun _=>aD hr) fun _=>aH (fun _=>aD ⟨bz,.ret h⟩) fun _=>aB (nN h hm) fun r hr=>aA fun _=>aD hr.1
theorem CZ (h:iS C m s) (hm:m<=2^39){n:List UInt8}{e:aO.den}:(R.dc s n e).sat (dN C m s.2.2.2.2.2.2.1 s):=by
 unfold R.dc;exact aA fun _=>aB (AZ h hm) fun r hr=>aA fun _=>aD hr
theorem D3 (h:iS C m s) (hm:m<=2^39){n:List UInt8}{v:eY}(hv:cJ v){e:aO.den}:(R.eA s n v e).sat (dN C m s.2.2.2.2.2.2.1 s):=by
 unfold R.eA;obtain ⟨B,h1,h2,h3⟩:=h.heap hm;exact aA fun _=>aB (Cb h1 h2) fun r hr=>aA fun _=>aB (dw0:Safe _).ok fun _ _=>aH (fun _=>aB (nN h hm) fun r hr=>aA fun _=>aD hr.1) fun _=>aB (dw0:Safe _).ok fun _ _=>aH (fun _=>aB (nN h hm) fun r hr=>aA fun _=>aD hr.1) fun _=>aH (fun _=>aB (vp h hm hv) fun r hr=>aA fun _=>aD ⟨hv,.inr ⟨show (0:Int)≠5 by decide,hr⟩⟩) fun _=>aB Ac fun r hr=>aA fun _=>aB (dw0:Safe _).ok fun _ _=>aH (fun _=>aB (gU h) fun r hr=>aA fun _=>aD hr) fun _=>aB (nN h hm) fun r hr=>aA fun _=>aD hr.1
theorem IC (h:iS C m s) (hm:m<=2^39){e:aO.den}:(R.dM s e).sat fun r=>r.1.1.2=e.2/\Pst C m s.2.2.2.2.2.2.1 s r.1.2 r.2/\(r.1.2≠5->r.1.2=0):=by
 unfold R.dM;obtain ⟨B,h1,h2,h3⟩:=h.heap hm;refine aA fun _=>aB (IE h1 h2) fun r hr=>aA fun _=>aB (o4 h hm (.mk' 9 rfl (by decide)) fun B' hB'=>?_) fun r2 ⟨g1,g2⟩=>aA fun _=>aD ⟨rfl,g1.2,fun e=>(g2 e).1⟩;rcases hr with ⟨_,e⟩|⟨_,i0,hi⟩
 ·exact ⟨Nat.zero_le _,by show (List.length r.1.2.2.2.1)<=_;rw [e];exact Nat.zero_le _,by simp,by show ∀ p∈r.1.2.2.2.1,_;rw [e];simp,bz,Nat.zero_le _⟩
 ·have hv:=(hB'.cl _ _ hi).2;exact ⟨Nat.zero_le _,hv.sn,by simp,hv.sv,bz,Nat.zero_le _⟩
theorem Hr {a:Int}:a*(20003-a)<=100100000:=by
 have h:0<=(a-10001)*(a-10001):=by
  rcases Int.le_total 0 (a-10001) with h|h
  ·exact Int.mul_nonneg h h
  ·exact Int.mul_nonneg_of_nonpos_of_nonpos h h
 have e1:(a-10001)*(a-10001)=a*a-10001*a-10001*a+100020001:=by rw [Int.sub_mul,Int.mul_sub,Int.mul_sub];omega
 have e2:a*(20003-a)=a*20003-a*a:=Int.mul_sub _ _ _
 have h3:a<=20000\/20000 < a:=by omega
 rcases h3 with h3|h3
 ·omega
 ·have:a*(20003-a)<=a*3:=Int.mul_le_mul_of_nonneg_left (by omega) (by omega);by_cases h4:a<=20003
  ·omega
  ·have:a*(20003-a)<=a*0:=Int.mul_le_mul_of_nonneg_left (by omega) (by omega);omega
theorem rM (hc:jz C) (h:iS C m s) (hm:m+100100000<=2^39){n:Int}{x:gN}(n0:0<=n) (hx:C.N[n.toNat]?=some x){e:aO.den}(he:cJ e.2.1):(R.bx s n e).sat (dN C (m+100100000) s.2.2.2.2.2.2.1 s):=by
 unfold R.bx;have hk:=hc.fw.one _ x hx;have hg:=hc.tr.nod _ x hx;refine aA fun _=>j7 h n0 hx ?_;obtain ⟨a,ha⟩:∃ a:Int,a=(x.2.2.2.2.2.length:Int):=⟨_,rfl⟩;obtain ⟨c,hcc⟩:∃ c:Int,c=20003-a:=⟨_,rfl⟩;have hac:a*c<=100100000:=hcc▸Hr;have hle:∀ i:Int,i<=a->i*c<=100100000:=fun i hi=>Int.le_trans (Int.mul_le_mul_of_nonneg_right hi (by omega)) hac
 refine aB (iC (Q:=fun r:aG.den ⊕ (Int×(aG.den×aC.den))=>match r with|.inl s'=>Aft C (m+100100000) s.2.2.2.2.2.2.1 s s'|.inr r=>cJ r.2.2/\Pst C (m+100100000) s.2.2.2.2.2.2.1 s r.1 r.2.1) (fun x=>x.1) x.2.2.2.2.2.length (by omega) (fun y=>Aft C (m+y.1*c) s.2.2.2.2.2.2.1 s y.2) (by simp) (by simp) (by simpa using Aft.refl h) fun y y0 y1 yI=>?_) fun r hr=>?_
 ·obtain ⟨i,s1⟩:=y;have y0:0<=i:=y0;have y1:i<=(x.2.2.2.2.2.length:Int):=y1;have yI:Aft C (m+i*c) s.2.2.2.2.2.2.1 s s1:=yI;have hi0:=hle i (by omega);refine fZ (fun hi=>?_) fun _=>aD (yI.mono (by omega) (Int.le_refl _));have hi:i < (x.2.2.2.2.2.length:Int):=hi
  have e1:(i+1)*c=i*c+c:=by rw [Int.add_mul,Int.one_mul]
  have hi1:=hle (i+1) (by omega);rw [e1] at hi1;have ew:w6 (i+1)=i+1:=wrap64 (by omega)
  have nxt:∀ {s'},Aft C (m+i*c+c) s.2.2.2.2.2.2.1 s s'->Aft C (m+(w6 (i+1))*c) s.2.2.2.2.2.2.1 s s':=fun h=>by rw [ew,e1,<- Int.add_assoc];exact h
  refine bu y0 (by show _ < x.2.2.2.2.2.length;omega) fun k hk' _=>?_;obtain ⟨k0,z,hz,_,hxz⟩:=hg.kid _ k hk';refine j7 yI.run k0 hz (aB (dw0:Safe _).ok fun _ _=>aH (fun _=>?_) fun _=>bL (fun h19=>?_) fun _=>aD ⟨rfl,hi,nxt (yI.mono (by omega) (Int.le_refl _))⟩)
  ·have hzk:=hc.fw.one _ z hz;have hzg:=hc.tr.nod _ z hz
   have hx':(x.2.2.2.2.2.length:Int)+(z.2.2.2.2.2.length:Int)<=20000:=by omega
   refine aB (iC (Q:=fun H:eW.den=>Aft C (m+i*c+c) s.2.2.2.2.2.2.1 s (s1.1,(s1.2.1,(s1.2.2.1,(s1.2.2.2.1,(H,s1.2.2.2.2.2)))))) (fun x=>x.1) z.2.2.2.2.2.length (by omega) (fun w=>Aft C (m+i*c+w.1) s.2.2.2.2.2.2.1 s (s1.1,(s1.2.1,(s1.2.2.1,(s1.2.2.2.1,(w.2,s1.2.2.2.2.2)))))) (by simp) (by simp) (by simpa using yI) fun w w0 w1 wI=>?_) fun H hH=>aD ⟨rfl,hi,nxt hH⟩;obtain ⟨j,H⟩:=w;have w0:0<=j:=w0;have w1:j<=(z.2.2.2.2.2.length:Int):=w1;have wI:Aft C (m+i*c+j) s.2.2.2.2.2.2.1 s (s1.1,(s1.2.1,(s1.2.2.1,(s1.2.2.2.1,(H,s1.2.2.2.2.2))))):=wI;refine fZ (fun hj=>?_) fun _=>aD (wI.mono (by omega) (Int.le_refl _));have hj:j < (z.2.2.2.2.2.length:Int):=hj;refine bu w0 (by show _ < z.2.2.2.2.2.length;omega) fun k' hk'' _=>?_;obtain ⟨k'0,z',hz',_⟩:=hzg.kid _ k' hk'';refine j7 yI.run k'0 hz' (aB (qA wI.run (by omega) bz) fun r hr=>aA fun _=>aD ⟨rfl,hj,?_⟩);show Aft C (m+i*c+w6 (j+1)) _ _ _;rw [wrap64 (n:=j+1) (by omega),<- Int.add_assoc];exact wI.trans ⟨hr.run,hr.ext,hr.dp,Int.le_trans wI.bg hr.bg⟩
  ·refine aB (uu yI.run (by omega) ⟨k0,z,hz,.inl h19⟩ he) fun r hr=>aA fun _=>?_;have p:Pst C (m+i*c+2) s.2.2.2.2.2.2.1 s r.1.2 r.2:=Pst.after yI (hr.2.mono (Int.le_refl _) yI.bg);refine eD (bL (fun e=>?_) fun _=>aD ⟨hr.1,p.mono (by omega) (Int.le_refl _)⟩);have a1:=p.aft (by rw [e];decide);refine aB (qA a1.run (by omega) hr.1) fun r2 a2=>aA fun _=>aD ⟨rfl,hi,nxt ?_⟩;exact (a1.trans ⟨a2.run,a2.ext,a2.dp,Int.le_trans a1.bg a2.bg⟩).mono (by omega) (Int.le_refl _)
 ·cases r with
  |inl s'=>exact je (aD ⟨bz,.inr ⟨show (0:Int)≠5 by decide,hr⟩⟩)
  |inr r=>exact jf (aD ⟨hr.1,hr.2⟩)
end
end Go.Mach

set_option maxRecDepth 100000
namespace Go.Mach
open Res
theorem ma {k z:Int}(h:ElI k z):(R.bO k).sat (·=z):=by
 cases h<;>exact bH (qo (P:=fun r=>decide (r=_)) (by kernel_rfl)) fun r hr=>of_decide_eq_true hr
theorem ElI.pos {k z:Int}(h:ElI k z):1<=z/\z<=8/\(z=1\/z=2\/z=4\/z=8):=by cases h<;>omega
theorem qL (x:Int){m:Nat}(hm:m < 2^64):0<=gD .and .u64 x (m:Int)/\gD .and .u64 x (m:Int)<=m:=by
 show 0<=IntKind.wrap .u64 _/\IntKind.wrap .u64 _<=_;have h0:(BitVec.ofInt 64 x &&& BitVec.ofInt 64 (m:Int)).toNat < 2^64:=BitVec.isLt _
 have h1:((BitVec.ofInt 64 x &&& BitVec.ofInt 64 (m:Int)).toNat)<=m:=by
  rw [BitVec.toNat_and];refine Nat.le_trans Nat.and_le_right ?_;rw [BitVec.toNat_ofInt];omega
 have h2:IntKind.wrap .u64 (((BitVec.ofInt 64 x &&& BitVec.ofInt 64 (m:Int)).toNat:Nat):Int)=(((BitVec.ofInt 64 x &&& BitVec.ofInt 64 (m:Int)).toNat:Nat):Int):=by
  generalize (BitVec.ofInt 64 x &&& BitVec.ofInt 64 (m:Int)).toNat=q at h0;simp only [IntKind.wrap,IntKind.signed,IntKind.bits];simp;omega
 rw [show IntKind.bits .u64=64 from rfl,h2]
 omega
def tV (z w:Int):Prop:=0<=w/\w < 18446744073709551616/\(z=8\/w < 2^(8*z).toNat)
theorem tV.zero (z:Int):tV z 0:=⟨by decide,by decide,.inr (Int.pow_pos (by decide))⟩
theorem cut_ok {k z w:Int}(h:ElI k z) (h0:0<=w) (h1:w < 18446744073709551616):(R.fH k w).sat (tV z):=by
 unfold R.fH;refine aA fun _=>ae (ma h) (aA fun _=>?_);cases h
 all_goals first
  |exact ik rfl (aD ⟨h0,h1,.inl rfl⟩)
  |exact jh rfl (bI rfl (aD ⟨(qL w (m:=255) (by decide)).1,by have:=(qL w (m:=255) (by decide)).2;exact Int.lt_of_le_of_lt this (by decide),.inr (Int.lt_of_le_of_lt (qL w (m:=255) (by decide)).2 (by decide))⟩))
  |exact jh rfl (bI rfl (aD ⟨(qL w (m:=65535) (by decide)).1,by have:=(qL w (m:=65535) (by decide)).2;exact Int.lt_of_le_of_lt this (by decide),.inr (Int.lt_of_le_of_lt (qL w (m:=65535) (by decide)).2 (by decide))⟩))
  |exact jh rfl (bI rfl (aD ⟨(qL w (m:=4294967295) (by decide)).1,by have:=(qL w (m:=4294967295) (by decide)).2;exact Int.lt_of_le_of_lt this (by decide),.inr (Int.lt_of_le_of_lt (qL w (m:=4294967295) (by decide)).2 (by decide))⟩))
theorem FN {k:Int}:(R.dQ k).sat (·=decide (k=7\/k=8)):=by
 unfold R.dQ;refine aA fun _=>bL (fun h=>aD ?_) fun h=>aD ?_
 ·rw [decide_eq_true (by omega)]
 ·show (k == 8)=_;by_cases hk:k=8
  ·subst hk;rfl
  ·rw [show (k == 8)=false from beq_false_of_ne hk,decide_eq_false (by omega)]
theorem Fp {a:az.den}:(R.lD a).sat fun w=>0<=w/\w < 18446744073709551616:=by
 unfold R.lD;refine aA fun _=>q_p fun r hr=>aA fun _=>aB (iC (Q:=fun w:Int=>0<=w/\w < 18446744073709551616) (fun x=>x.2) r.1.2.length (by omega) (fun x=>0<=x.1/\x.1 < 18446744073709551616) (by simp) (by simp) (by simp) fun x h0 h1 hI=>?_) fun w hw=>aD hw;have h1:x.2<=(r.1.2.length:Int):=h1;refine fZ (fun hl=>?_) fun _=>aD hI;have hl:x.2 < (r.1.2.length:Int):=hl;refine bu h0 (by show _ < r.1.2.length;omega) fun e _ _=>bI ?_ (aD ⟨rfl,hl,wrap_u64 _⟩);rw [wrap64 (by omega)];exact decide_eq_true (by omega)
theorem wj {k z:Int}(h:ElI k z){a:aI.den}:(R.ff k a).sat (tV z):=by
 unfold R.ff;exact aA fun _=>aB (dw0:Safe _).ok fun _ _=>aH (fun _=>aD (.zero z)) fun _=>aB (cut_ok h (wrap_u64 _).1 (wrap_u64 _).2) fun w hw=>aA fun _=>aD hw
theorem vh {k z:Int}(h:ElI k z){a:az.den}:(R.fb k a).sat (tV z):=by
 unfold R.fb;refine aA fun _=>ae FN (eD (aH (fun e=>aB Fp fun w hw=>aA fun _=>aD ⟨hw.1,hw.2,.inl ?_⟩) fun _=>aD (.zero z)));have:=of_decide_eq_true e
 cases h<;>first|rfl|omega
theorem yy {k z:Int}(h:ElI k z){v:eY}:(R.gv k v).sat fun r=>tV z r.1:=by
 unfold R.gv;exact aA fun _=>q_b fun _=>aH (fun _=>q_b fun _=>aA fun _=>aB (vh h) fun w hw=>aA fun _=>aD hw) fun _=>q_b fun _=>aA fun _=>aB (wj h) fun w hw=>aA fun _=>aD hw
theorem va {k z:Int}(h:ElI k z){v:eY}:(R.gC k v).sat fun r=>tV z r.2.1/\cJ r.1:=by
 unfold R.gC;exact aA fun _=>q_b fun _=>aH (fun _=>q_b fun _=>aA fun _=>aB qn fun b hb=>aA fun _=>aB (vh h) fun w hw=>aA fun _=>aD ⟨hw,vk hb⟩) fun _=>q_b fun _=>aA fun _=>q_b fun _=>aA fun _=>aB nY fun b hb=>aA fun _=>aB (wj h) fun w hw=>aA fun _=>aD ⟨hw,vk hb⟩
theorem ov {k w:Int}:(R.dH k w).sat cJ:=by
 unfold R.dH;exact aA fun _=>q_b fun _=>aH (fun _=>q_b fun _=>aA fun _=>aB qn fun b hb=>aA fun _=>aD (vk hb)) fun _=>q_b fun _=>aA fun _=>aB nY fun b hb=>aA fun _=>aD (vk hb)
theorem zk {a:aI.den}:(R.eh a).sat fun r=>(r.1=0/\-9007199254740991<=r.2/\r.2<=9007199254740991)\/(r.1=3/\r.2=0)\/(r.1=4/\r.2=0):=by
 unfold R.eh;refine aA fun _=>aB (R:=fun r:Int×Int=>(r.1=0->-9007199254740991<=r.2/\r.2<=9007199254740991)/\(r.1≠0->1<=r.1/\r.1<=4/\r.2=0)) (ET (a:=a)).ok fun r ⟨r1,r2⟩=>aA fun _=>aB (R:=fun b=>b=false->Ne (α:=Int) (r.1) (2)/\Ne (α:=Int) (r.1) (1)) (bL (fun _=>aD fun e=>by cases e) fun h=>aD fun e=>⟨h,ne_of_beq_false e⟩) fun b hb=>aH (fun _=>aB (R:=fun r:Int×Int=>r=(0,0)) (bH (qo (P:=fun r=>decide (r=((0:Int),(0:Int)))) (by kernel_rfl)) fun r hr=>of_decide_eq_true hr) fun r hr=>aA fun _=>aD ?_) fun e=>aD ?_
 ·subst hr;exact .inl ⟨rfl,by decide,by decide⟩
 ·obtain ⟨h1,h2⟩:=hb e;by_cases h0:Eq (α:=Int) (r.1) (0)
  ·exact .inl ⟨h0,r1 h0⟩
  ·have:LE.le (α:=Int) (1) (r.1)/\LE.le (α:=Int) (r.1) (4)/\Eq (α:=Int) (r.2) (0):=r2 h0;by_cases h3:Eq (α:=Int) (r.1) (3)
   ·exact .inr (.inl ⟨h3,this.2.2⟩)
   ·exact .inr (.inr ⟨by show Eq (α:=Int) (r.1) (4);omega,this.2.2⟩)
theorem ER {a:aI.den}:(R.kH a).sat fun r=>LE.le (α:=Int) (0) (r.1)/\LE.le (α:=Int) (r.1) (9007199254740991):=by
 unfold R.kH;refine aA fun _=>aB zk fun r hr=>aA fun _=>aB (R:=fun b=>b=false->r.1=0/\ilt r.2 0=false) (eD (bL (fun h=>aD fun e=>⟨h,e⟩) fun _=>aD fun e=>by cases e)) fun b hb=>aH (fun _=>aD ⟨by decide,by decide⟩) fun e=>aD ?_;obtain ⟨h0,h1⟩:=hb e;have h1:¬ LT.lt (α:=Int) (r.2) (0):=of_decide_eq_false h1;rcases hr with ⟨_,hr⟩|⟨hr,_⟩|⟨hr,_⟩
 ·exact ⟨by show LE.le (α:=Int) (0) (r.2);omega,hr.2⟩
 ·rw [h0] at hr;cases hr
 ·rw [h0] at hr;cases hr
theorem nT {v:eY}:(R.cU v).sat fun r=>LE.le (α:=Int) (0) (r.1)/\LE.le (α:=Int) (r.1) (9007199254740991):=by
 unfold R.cU;exact aA fun _=>q_b fun _=>aA fun _=>aH (fun _=>aD ⟨Int.le_refl 0,show (0:Int)<=9007199254740991 by decide⟩) fun _=>q_b fun _=>aA fun _=>aH (fun _=>aD ⟨Int.le_refl 0,show (0:Int)<=9007199254740991 by decide⟩) fun _=>aB ER fun r hr=>aA fun _=>aH (fun _=>aD ⟨Int.le_refl 0,show (0:Int)<=9007199254740991 by decide⟩) fun _=>aD hr
end Go.Mach

set_option maxRecDepth 100000
namespace Go.Mach
open Res
section
variable {β:Type}{Q:β->Prop}
theorem af {m:Res β}{B:β->Bool}(h:m.sat Q):(m.bind fun r=>given (B r) (Res.ok r)).sat Q:=aB h fun _ hr=>aA fun _=>aD hr
theorem ob {a b:Int}{x y:Res β}(h1:a≠b->x.sat Q) (h2:a=b->y.sat Q):(br (!(a == b)) x y).sat Q:=eD (bL h2 h1)
theorem cE {how:Int}{x y:Res β}(h1:how≠0->x.sat Q) (h2:how=0->y.sat Q):(br (!(how == 0)) x y).sat Q:=eD (bL h2 h1)
end
section
variable {C:Cx}{m m1 m2 b b1:Int}{s s0 s':RunT}{how:Int}
theorem Pst.a0 (h:Pst C m b s how s') (e:how=0):Aft C m b s s':=h.aft (by rw [e];decide)
theorem Pst.cat (a:Aft C m1 b1 s0 s) (g:Pst C m2 s.2.2.2.2.2.2.1 s how s'):Pst C m2 b1 s0 how s':=Pst.after a (g.mono (Int.le_refl _) a.bg)
theorem Pst.lP (a:Aft C m1 b1 s0 s) (g:Pst C m2 (HAdd.hAdd (α:=Int) (β:=Int) (γ:=Int) (s.2.2.2.2.2.2.1) (1)) s how s'):Pst C m2 b1 s0 how s':=Pst.after a (g.mono (Int.le_refl _) (by have:=a.bg;omega))
theorem Aft.cat (a:Aft C m1 b1 s0 s) (g:Aft C m2 s.2.2.2.2.2.2.1 s s'):Aft C m2 b1 s0 s':=a.trans (g.mono (Int.le_refl _) a.bg)
theorem Aft.up (a:Aft C m b s s'){m':Int}(h:m<=m'):Aft C m' b s s':=a.mono h (Int.le_refl _)
theorem Pst.up (a:Pst C m b s how s'){m':Int}(h:m<=m'):Pst C m' b s how s':=a.mono h (Int.le_refl _)
theorem dN.up {r:(eY×Int)×RunT}(a:dN C m b s r){m':Int}(h:m<=m'):dN C m' b s r:=⟨a.1,a.2.up h⟩
theorem dN.cat {r:(eY×Int)×RunT}(a:Aft C m1 b1 s0 s) (g:dN C m2 s.2.2.2.2.2.2.1 s r):dN C m2 b1 s0 r:=⟨g.1,Pst.cat a g.2⟩
theorem Pst.ok (a:Aft C m b s s'):Pst C m b s 0 s':=.inr ⟨by decide,a⟩
theorem iO (h:iS C m s) (hm:m<=2^39){k:Int}:(R.aE s k).sat (dN C m s.2.2.2.2.2.2.1 s):=bH (nN h hm) fun _ hr=>hr.1
theorem mg (h:iS C m s){v:eY}(hv:cJ v):dN C m s.2.2.2.2.2.2.1 s ((v,0),s):=⟨hv,.ret h⟩
end
theorem Ij {k n:Int}(h:(k=0/\-9007199254740991<=n/\n<=9007199254740991)\/((k=3\/k=4)/\n=0)):(R.kY (k,n)).sat (·=true):=by
 unfold R.kY;dsimp only;refine aA fun _=>bL (fun e=>?_) fun e=>?_
 ·rcases h with ⟨_,h1,h2⟩|⟨h1,_⟩
  ·exact lg (fun _=>aD (decide_eq_true h2)) fun g=>absurd h1 (Int.not_le.2 g)
  ·omega
 ·rcases h with ⟨h1,_⟩|⟨h1,h2⟩
  ·exact absurd h1 e
  ·subst h2;refine ae (a:=true) (bL (fun g=>aD (by rw [g];rfl)) fun _=>bL (fun g=>aD (by rw [g];rfl)) fun _=>bL (fun g=>aD (by rw [g];rfl)) fun _=>aD ?_) (jh rfl (aD rfl));rw [show k=4 by omega];rfl
theorem as_id {k n:Int}(h:(k=0/\-9007199254740991<=n/\n<=9007199254740991)\/((k=3\/k=4)/\n=0)):(R.eH (k,n)).sat (·=(k,n)):=by
 unfold R.eH;exact aA fun _=>ae (Ij h) (ik rfl (aD rfl))
theorem Cy {k n:Int}:(R.iH (k,n)).sat (·=if k=3 then 9007199254740992 else if k=4 then -9007199254740992 else n):=by
 unfold R.iH;dsimp only;refine aA fun _=>bL (fun e=>aD ?_) fun e=>bL (fun e'=>aD ?_) fun e'=>aD ?_
 ·rw [if_pos e]
 ·rw [if_neg e,if_pos e']
 ·rw [if_neg e,if_neg e']
theorem less0 {k n:Int}(h:(k=0/\-9007199254740991<=n/\n<=9007199254740991)\/((k=3\/k=4)/\n=0)):(R.js (k,n) (0,0)).sat fun b=>b=false->BZ (k,n):=by
 unfold R.js;refine aA fun _=>ae (as_id h) (aA fun _=>ae (as_id (.inl ⟨rfl,by decide,by decide⟩)) (aA fun _=>q_e (eD (bL (fun e=>?_) fun _=>q_e (eD (bL (fun e=>by cases e) fun _=>ae Cy (aA fun _=>ae Cy (aA fun _=>aD fun e=>?_))))))))
 ·have e:k=2:=e;omega
 ·have e:=of_decide_eq_false e;show (k=0/\0<=n/\n<=9007199254740991)\/(k=3/\n=0);rw [if_neg (show ¬ (0:Int)=3 by decide),if_neg (show ¬ (0:Int)=4 by decide)] at e;rcases h with ⟨h1,h2⟩|⟨h1|h1,h2⟩
  ·rw [if_neg (by omega),if_neg (by omega)] at e;omega
  ·exact .inr ⟨h1,h2⟩
  ·rw [if_neg (by omega),if_pos h1] at e;exact absurd (by decide) e
theorem tA {a:aI.den}:(R.eQ a).sat BZ:=by
 unfold R.eQ;refine aA fun _=>aB zk fun r hr=>aA fun _=>?_;obtain ⟨k,n⟩:=r;refine aB (less0 (k:=k) (n:=n) ?_) fun b hb=>aH (fun _=>aD (.inl ⟨rfl,by decide,by decide⟩)) fun e=>aD (hb e);rcases hr with ⟨h1,h2,h3⟩|⟨h1,h2⟩|⟨h1,h2⟩
 ·exact .inl ⟨h1,h2,h3⟩
 ·exact .inr ⟨.inl h1,h2⟩
 ·exact .inr ⟨.inr h1,h2⟩
abbrev PkT:=jJ.den
structure TyI (l:List kA) (p:PkT) (z:Int):Prop where
 el:ElI p.2.2.2.2.2.2.2.2.1 z
 f0:LE.le (α:=Int) (0) (p.2.2.2.2.2.2.2.2.2.2.1)
 l0:LE.le (α:=Int) (0) (p.2.2.2.2.2.2.2.2.2.2.2.1)
 lm:LE.le (α:=Int) (p.2.2.2.2.2.2.2.2.2.2.2.1) (9007199254740991)
 m:LE.le (α:=Int) ((HAdd.hAdd (α:=Int) (β:=Int) (γ:=Int) (p.2.2.2.2.2.2.2.2.2.2.1) (HMul.hMul (α:=Int) (β:=Int) (γ:=Int) p.2.2.2.2.2.2.2.2.2.2.2.1 z))) (9007199254740991)
 bf:qY l p.2.2.2.2.2.2.2.2.2.1 (HAdd.hAdd (α:=Int) (β:=Int) (γ:=Int) (p.2.2.2.2.2.2.2.2.2.2.1) (HMul.hMul (α:=Int) (β:=Int) (γ:=Int) p.2.2.2.2.2.2.2.2.2.2.2.1 z))
structure VwI (l:List kA) (p:PkT):Prop where
 f0:LE.le (α:=Int) (0) (p.2.2.2.2.2.2.2.2.2.2.1)
 l0:LE.le (α:=Int) (0) (p.2.2.2.2.2.2.2.2.2.2.2.1)
 m:LE.le (α:=Int) ((HAdd.hAdd (α:=Int) (β:=Int) (γ:=Int) (p.2.2.2.2.2.2.2.2.2.2.1) (p.2.2.2.2.2.2.2.2.2.2.2.1))) (9007199254740991)
 bf:qY l p.2.2.2.2.2.2.2.2.2.1 (HAdd.hAdd (α:=Int) (β:=Int) (γ:=Int) (p.2.2.2.2.2.2.2.2.2.2.1) (p.2.2.2.2.2.2.2.2.2.2.2.1))
theorem qY.le {l:List kA}{b n n':Int}(h:qY l b n) (hn:n'<=n):qY l b n':=by
 obtain ⟨h0,d,h1,h2⟩:=h;exact ⟨h0,d,h1,h2.imp (fun ⟨a,c⟩=>⟨a,Int.le_trans hn c⟩) fun ⟨a,c⟩=>⟨a,Int.le_trans hn c⟩⟩
structure PkI (N:List gN) (l:List kA) (i:Int) (r:PkT×Bool):Prop where
 no:r.2=false->Eq (α:=Int) (r.1.1) (0)
 ty:Eq (α:=Int) (r.1.1) (7)->∃ z,TyI l r.1 z
 vw:Eq (α:=Int) (r.1.1) (8)->VwI l r.1
 sh:Eq (α:=Int) (r.1.1) (6)->LE.le (α:=Int) (0) (r.1.2.2.2.2.2.2.2.2.2.2.2.1)/\LE.le (α:=Int) (r.1.2.2.2.2.2.2.2.2.2.2.2.1) (9007199254740991)
 th:r.2=true->cJ r.1.2.2.2.2.2.2.2.1
 nn:r.2=true->r.1.2.2.2.2.1.length<=4096
 fn:Eq (α:=Int) (r.1.1) (3)->FnI N r.1.2.2.2.2.2.1
 at':r.2=true->0<=i/\∃ c,l[i.toNat]?=some c/\Eq (α:=Int) (c.1) (r.1.1)
 cl:∀ c,0<=i->l[i.toNat]?=some c->r.2=true/\Eq (α:=Int) (r.1.1) (c.1)
theorem oV {N:List gN}{B:Nat}{h:qS}(hh:jW N B h){i:Int}:(R.aY h i).sat (PkI N h.2 i):=by
 refine bH Ho fun r hr=>?_;obtain ⟨p,ok⟩:=r;rcases hr with ⟨h1,h2,hn⟩|⟨h1,i0,c,hc,h2⟩
 ·have h1:ok=false:=h1;subst h1;have hk:∀ k:Int,k≠0->¬ Eq (α:=Int) (p.1) (k):=fun k hk e=>hk (e.symm.trans h2);exact ⟨fun _=>h2,fun e=>absurd e (hk 7 (by decide)),fun e=>absurd e (hk 8 (by decide)),fun e=>absurd e (hk 6 (by decide)),(fun e=>by cases e),(fun e=>by cases e),fun e=>absurd e (hk 3 (by decide)),(fun e=>by cases e),fun c i0 hc=>absurd ⟨i0,(List.getElem?_eq_some_iff.1 hc).1⟩ hn⟩
 ·have h2:p=_:=h2;subst h2;have h1:ok=true:=h1;subst h1;obtain ⟨g1,g2⟩:=hh.cl _ c hc;refine ⟨(fun e=>by cases e),fun e=>?_,fun e=>?_,fun e=>g1.sh e,fun _=>g2.tv,fun _=>g2.nn,fun e=>g1.fn e,fun _=>⟨i0,c,hc,rfl⟩,fun c' _ hc'=>⟨rfl,?_⟩⟩
  ·obtain ⟨z,a1,a2,a3,a4,a5,a6⟩:=g1.ty e;exact ⟨z,a1,a2,a3,a4,a5,a6⟩
  ·obtain ⟨a1,a2,a3,a4⟩:=g1.vw e;exact ⟨a1,a2,a3,a4⟩
  ·have:some c=some c':=hc.symm.trans hc';cases this;rfl
theorem vc {k z n l f:Int}(h:ElI k z) (n0:0<=n) (nl:n < l) (hf:0<=f) (hm:f+l*z<=9007199254740991):w6 (f+w6 (n*z))=f+n*z/\0<=f+n*z/\f+n*z+z<=f+l*z:=by
 have h1:n*z+z<=l*z:=by rcases h.pos.2.2 with rfl|rfl|rfl|rfl<;>omega
 have h2:0<=n*z:=Int.mul_nonneg n0 (by have:=h.pos.1;omega);have h3:=h.pos.1;rw [wrap64 (n:=n*z) (by omega),wrap64 (by omega)];exact ⟨rfl,by omega,by omega⟩
end Go.Mach

set_option maxRecDepth 100000
namespace Go.Mach
open Res
instance Ao {a b}:Safe (R.cM a b):=by unfold R.cM;exact dw0
theorem oX {β:Type}{Q:β->Prop}(xs:List (List Int)) (i:Int){k:List Int->Res β}(h0:0<=i) (h1:i < xs.length) (h:∀ x:List Int,xs[i.toNat]?=some x->(k x).sat Q) :
  (Res.ai (ile 0 i && ilt i xs.length) (Res.idx (.list (.int .u16)) xs (0+(i.toNat:Int)) k)).sat Q:=by
 refine bI (by rw [Bool.and_eq_true,lv,gu];exact ⟨h0,h1⟩) ?_;have hi:((0:Int)+(i.toNat:Int)).toNat=i.toNat:=idx0 i;refine bu (by omega) (by rw [hi];show i.toNat < xs.length;omega) fun x hx _=>h x (by rw [<- hi];exact hx)
abbrev nC:=List (List Int)
theorem swap_perm {d:nC}{i j:Nat}{x y:List Int}(hx:d[i]?=some x) (hy:d[j]?=some y):((d.set i y).set j x).Perm d:=by
 obtain ⟨hi,hx⟩:=List.getElem?_eq_some_iff.1 hx;obtain ⟨hj,hy⟩:=List.getElem?_eq_some_iff.1 hy;subst hx hy;exact List.set_set_perm hi hj
theorem tW {β:Type}{Q:β->Prop}{d:nC}{i j:Int}{k:nC->Res β}(hi:0<=i/\i < d.length) (hj:0<=j/\j < d.length) (h:∀ x y,d[i.toNat]?=some x->d[j.toNat]?=some y->(k ((d.set i.toNat y).set j.toNat x)).sat Q) :
  (Res.ai (ile 0 j && ilt j d.length) (Res.idx (.list (.int .u16)) d (0+Int.toNat j) fun e7=>Res.ai (ile 0 i && ilt i d.length) (Res.idx (.list (.int .u16)) d (0+Int.toNat i) fun e8=>Res.ai (ile 0 i && ilt i d.length) (Res.idx (.list (.int .u16)) d (0+Int.toNat i) fun e9=>Res.ai (ile 0 j && ilt j (List.set d (0+Int.toNat i) e7).length) (Res.idx (.list (.int .u16)) (List.set d (0+Int.toNat i) e7) (0+Int.toNat j) fun e10=>k (List.set (List.set d (0+Int.toNat i) e7) (0+Int.toNat j) e8)))))).sat Q:=by
 refine oX d j hj.1 hj.2 fun y hy=>?_;refine oX d i hi.1 hi.2 fun x hx=>?_;refine oX d i hi.1 hi.2 fun x' hx'=>?_;refine oX (List.set d (0+Int.toNat i) y) j hj.1 (by rw [List.length_set];exact hj.2) fun y' hy'=>?_;rw [Nat.zero_add,Nat.zero_add];exact h x y hx hy
theorem tF (d:nC) (a b:Int) (ha:0<=a) (hb:b<=d.length) (hab:a<=d.length) (hl:d.length < 2^60):(R.aP d a b ()).sat fun y=>y.2.Perm d:=by
 unfold R.aP;have hw:w6 (a+1)=a+1:=wrap64 (by omega);rw [hw];refine aA fun _=>aB (R:=fun d'=>d'.Perm d) (tN (fun x:Int×nC=>x.1) (d.length+1) (by omega) (fun x=>(a+1<=x.1/\x.1<=d.length+1)/\x.2.Perm d) ⟨⟨by simp,by simp only;omega⟩,List.Perm.refl _⟩ (fun x h=>by omega) ?_) fun d' h=>aD h;rintro ⟨i,d1⟩ ⟨⟨h1,h2⟩,hp⟩;simp only at h1 h2 hp;have hlen:=hp.length_eq;refine aH (fun h3=>?_) fun h3=>aD hp;rw [gu] at h3;simp only at h3;refine aB (R:=fun d'=>d'.Perm d) (nB (fun k (x:Int×nC)=>k=(x.1-a).toNat/\(a<=x.1/\x.1<=i)/\x.2.Perm d) ?_ _ (i-a).toNat _ (by have:fuel=2^70:=rfl;omega) ⟨rfl,⟨by simp only;omega,Int.le_refl _⟩,hp⟩) fun d' h=>aD ⟨wrap64 (by omega),by simp only;rw [wrap64 (by omega)];omega,h⟩;rintro k ⟨j,d2⟩ ⟨hk,⟨h4,h5⟩,hp2⟩;simp only at hk h4 h5 hp2;have hlen2:=hp2.length_eq;refine aB (R:=fun b=>b=true->a < j) ?_ ?_
 ·refine aH (fun h6=>?_) fun h6=>aD fun h=>by cases h
  rw [gu] at h6;simp only at h6;rw [wrap64 (n:=j-1) (by omega)];refine oX d2 j (by omega) (by omega) fun e3 _=>?_;refine oX d2 (j-1) (by omega) (by omega) fun e4 _=>?_;exact q_b fun _=>(aA fun _=>aD fun _=>h6)
 ·intro x hx;refine aH (fun h6=>?_) fun _=>aD hp2;have hj:=hx h6;simp only;rw [wrap64 (n:=j-1) (by omega)]
  refine tW (d:=d2) (i:=j) (j:=j-1) (k:=fun d'=>(Res.ok (Res.Step.next (j-1,d')):Res (Res.Step (Int×nC) nC))) ⟨by omega,by omega⟩ ⟨by omega,by omega⟩ fun x y hx hy=>?_
  exact aD ⟨(j-1-a).toNat,by omega,rfl,⟨by simp only;omega,by simp only;omega⟩,(swap_perm hx hy).trans hp2⟩
theorem qa (d:nC) (a b n:Int) (ha:0<=a) (hb:0<=b) (han:a+n<=d.length) (hbn:b+n<=d.length) (hn:0<=n) (hl:d.length < 2^60):(R.aN d a b n ()).sat fun y=>y.2.Perm d:=by
 unfold R.aN;refine aA fun _=>aB (R:=fun d'=>d'.Perm d) (tN (fun x:Int×nC=>x.1) n.toNat (by omega) (fun x=>(0<=x.1/\x.1<=n.toNat)/\x.2.Perm d) ⟨⟨by simp,by simp only;omega⟩,List.Perm.refl _⟩ (fun x h=>h.1) ?_) fun d' h=>aD h;rintro ⟨i,d1⟩ ⟨⟨h1,h2⟩,hp⟩;simp only at h1 h2 hp;have hlen:=hp.length_eq;refine aH (fun h3=>?_) fun h3=>aD hp;rw [gu] at h3;simp only at h3 ⊢;rw [wrap64 (n:=b+i) (by omega),wrap64 (n:=a+i) (by omega),wrap64 (n:=i+1) (by omega)]
 refine tW (d:=d1) (i:=a+i) (j:=b+i) (k:=fun d'=>(Res.ok (Res.Step.next (i+1,d')):Res (Res.Step (Int×nC) nC))) ⟨by omega,by omega⟩ ⟨by omega,by omega⟩ fun x y hx hy=>?_
 exact aD ⟨rfl,⟨by simp only;omega,by simp only;omega⟩,(swap_perm hx hy).trans hp⟩
theorem Dp (d:nC) (a m b:Int) (ha:0<=a) (ham:a < m) (hmb:m < b) (hb:b<=d.length) (hl:d.length < 2^60):(R.aW d a m b ()).sat fun y=>y.2.Perm d:=by
 unfold R.aW;rw [wrap64 (n:=m-a) (by omega),wrap64 (n:=b-m) (by omega)];refine aA fun _=>aB (R:=fun (x:Int×nC)=>(0 < x.1/\x.1<=m-a/\x.1<=b-m)/\x.2.Perm d) (nB (fun k (x:Int×Int×nC)=>k=(x.1+x.2.1).toNat/\(0 < x.1/\x.1<=m-a)/\(0 < x.2.1/\x.2.1<=b-m)/\x.2.2.Perm d) ?_ _ (b-a).toNat _ (by have:fuel=2^70:=rfl;omega) ⟨by simp only;congr 1;omega,⟨by simp only;omega,by simp only;omega⟩,⟨by simp only;omega,by simp only;omega⟩,List.Perm.refl _⟩) ?_
 ·rintro k ⟨i,j,d1⟩ ⟨hk,⟨h1,h2⟩,⟨h3,h4⟩,hp⟩;simp only at hk h1 h2 h3 h4 hp;have hlen:=hp.length_eq;refine aH (fun h5=>?_) fun h5=>aD ⟨⟨h1,h2,?_⟩,hp⟩
  ·have h5:¬ i=j:=by simpa using h5
   refine aH (fun h6=>?_) fun h6=>?_
   ·rw [gu] at h6;simp only at h6 ⊢;rw [wrap64 (n:=m-i) (by omega),wrap64 (n:=i-j) (by omega)];refine aB (qa d1 (m-i) m j (by omega) (by omega) (by omega) (by omega) (by omega) (by omega)) fun y hy=>aA fun _=>aD ⟨(i-j+j).toNat,by omega,rfl,⟨by simp only;omega,by simp only;omega⟩,⟨by simp only;omega,by simp only;omega⟩,hy.trans hp⟩
   ·rw [ly] at h6;simp only at h6 ⊢;rw [wrap64 (n:=m-i) (by omega),wrap64 (n:=m+j) (by omega),wrap64 (n:=m+j-i) (by omega),wrap64 (n:=j-i) (by omega)];refine aB (qa d1 (m-i) (m+j-i) i (by omega) (by omega) (by omega) (by omega) (by omega) (by omega)) fun y hy=>aA fun _=>aD ⟨(i+(j-i)).toNat,by omega,rfl,⟨by simp only;omega,by simp only;omega⟩,⟨by simp only;omega,by simp only;omega⟩,hy.trans hp⟩
  ·have h5:i=j:=by simpa using h5
   simp only;omega
 ·rintro ⟨i,d1⟩ ⟨⟨h1,h2,h3⟩,hp⟩;simp only at h1 h2 h3 hp ⊢;have hlen:=hp.length_eq;rw [wrap64 (n:=m-i) (by omega)];refine aB (qa d1 (m-i) m i (by omega) (by omega) (by omega) (by omega) (by omega) (by omega)) fun y hy=>aA fun _=>aD (hy.trans hp)
abbrev zj (x:Int):Int:=w6 (ij .u64 (IntKind.wrap .u64 (w6 x)) 1)
theorem vE {x:Int}(h:0<=x/\x < 2^62):zj x=x / 2:=by
 unfold zj;have h1:w6 x=x:=wrap64 (by omega)
 have h2:IntKind.wrap .u64 x=x:=by
  simp [w6,IntKind.wrap,IntKind.signed,IntKind.bits];omega
 have h3:ij .u64 x 1=x / 2:=by
  unfold ij
  have:(min (Int.toNat 1) (IntKind.bits .u64))=1:=by decide
  rw [this];show x.fdiv 2=x / 2;rw [Int.fdiv_eq_ediv];omega
 rw [h1,h2,h3];exact wrap64 (by omega)
theorem uV {d:nC}(lo hi:Int) (hlo:0<=lo) (hhi:hi < 2^60) (hle:lo<=hi) (f:Int×Int->Res (Res.Step (Int×Int) Int))
  (hf:∀ i j,lo<=i->i<=j->j<=hi->(f (i,j)).sat fun
   |.next x=>i < j/\((x=((i+j) / 2+1,j))\/x=(i,(i+j) / 2))
   |.done r=>r=i):(Res.loop f fuel (lo,hi)).sat fun r=>lo<=r/\r<=hi:=by
 refine nB (fun k (x:Int×Int)=>k=(x.2-x.1).toNat/\lo<=x.1/\x.1<=x.2/\x.2<=hi) ?_ _ (hi-lo).toNat _ (by have:fuel=2^70:=rfl;omega) ⟨rfl,Int.le_refl _,hle,Int.le_refl _⟩;rintro k ⟨i,j⟩ ⟨hk,h1,h2,h3⟩;simp only at hk h1 h2 h3;refine bH (hf i j h1 h2 h3) fun s hs=>?_
 cases s with
 |next x =>
  obtain ⟨h4,rfl|rfl⟩:=hs
  ·exact ⟨_,by omega,rfl,by simp only;omega,by simp only;omega,by simp only;omega⟩
  ·exact ⟨_,by omega,rfl,by simp only;omega,by simp only;omega,by simp only;omega⟩
 |done r =>
  have hs:r=i:=hs;subst hs;exact ⟨h1,by omega⟩
theorem pQ:∀ (fu:Nat) (d:nC) (a m b:Int),(b-a).toNat < fu->0<=a->a < m->m < b->b<=d.length->d.length < 2^60->(R.aJ fu d a m b ()).sat fun y=>y.2.Perm d
 |0,_,_,_,_,h,_,_,_,_,_=>by omega
 |fu+1,d,a,m,b,hfu,h0,ham,hmb,hb,hl=>by
  unfold R.aJ;rw [wrap64 (n:=m-a) (by omega),wrap64 (n:=b-m) (by omega)];refine aA fun _=>aH (fun hone=>?_) fun hone=>aH (fun hone2=>?_) fun hone2=>?_
  ·
   refine aB (R:=fun r=>m<=r/\r<=b) (uV (d:=d) m b (by omega) (by omega) (by omega) _ fun i j h1 h2 h3=>?_) fun i5 hi5=>?_
   ·simp only;refine aH (fun h4=>?_) fun h4=>aD rfl;rw [gu] at h4;have hh:zj (i+j)=(i+j) / 2:=vE (by omega);refine bI rfl ?_
    rw [show w6 (ij .u64 (IntKind.wrap .u64 (w6 (i+j))) 1)=(i+j) / 2 from hh]
    refine oX d ((i+j) / 2) (by omega) (by omega) fun e2 _=>?_;refine oX d a (by omega) (by omega) fun e3 _=>?_;refine q_b fun _=>(aA fun _=>aH (fun _=>aD ⟨h4,.inl ?_⟩) fun _=>aD ⟨h4,.inr rfl⟩);rw [wrap64 (by omega)]
   ·rw [wrap64 (n:=i5-1) (by omega)];refine aB (R:=fun d'=>d'.Perm d) (tN (fun x:Int×nC=>x.1) (d.length+1) (by omega) (fun x=>(a<=x.1/\x.1<=d.length)/\x.2.Perm d) ⟨⟨by simp,by simp only;omega⟩,List.Perm.refl _⟩ (fun x h=>by omega) ?_) fun d' h=>aD h;rintro ⟨k,d2⟩ ⟨⟨h1,h2⟩,hp⟩;simp only at h1 h2 hp;have hlen:=hp.length_eq;refine aH (fun h3=>?_) fun h3=>aD hp;rw [gu] at h3;simp only at h3 ⊢;rw [wrap64 (n:=k+1) (by omega)]
    refine tW (d:=d2) (i:=k) (j:=k+1) (k:=fun d'=>(Res.ok (Res.Step.next (k+1,d')):Res (Res.Step (Int×nC) nC))) ⟨by omega,by omega⟩ ⟨by omega,by omega⟩ fun x y hx hy=>?_
    exact aD ⟨rfl,⟨by simp only;omega,by simp only;omega⟩,(swap_perm hx hy).trans hp⟩
  ·
   refine aB (R:=fun r=>a<=r/\r<=m) (uV (d:=d) a m (by omega) (by omega) (by omega) _ fun i j h1 h2 h3=>?_) fun i5 hi5=>?_
   ·simp only;refine aH (fun h4=>?_) fun h4=>aD rfl;rw [gu] at h4;have hh:zj (i+j)=(i+j) / 2:=vE (by omega);refine bI rfl ?_
    rw [show w6 (ij .u64 (IntKind.wrap .u64 (w6 (i+j))) 1)=(i+j) / 2 from hh]
    refine oX d m (by omega) (by omega) fun e2 _=>?_;refine oX d ((i+j) / 2) (by omega) (by omega) fun e3 _=>?_;refine q_b fun _=>(aA fun _=>aH (fun _=>aD ⟨h4,.inl ?_⟩) fun _=>aD ⟨h4,.inr rfl⟩);rw [wrap64 (by omega)]
   ·refine aB (R:=fun d'=>d'.Perm d) (nB (fun k (x:Int×nC)=>k=x.1.toNat/\(0<=x.1/\x.1<=m)/\x.2.Perm d) ?_ _ m.toNat _ (by have:fuel=2^70:=rfl;omega) ⟨rfl,⟨by simp only;omega,Int.le_refl _⟩,List.Perm.refl _⟩) fun d' h=>aD h;rintro q ⟨k,d2⟩ ⟨hq,⟨h1,h2⟩,hp⟩;simp only at hq h1 h2 hp;have hlen:=hp.length_eq;refine aH (fun h3=>?_) fun h3=>aD hp;rw [gu] at h3;simp only at h3 ⊢;rw [wrap64 (n:=k-1) (by omega)]
    refine tW (d:=d2) (i:=k) (j:=k-1) (k:=fun d'=>(Res.ok (Res.Step.next (k-1,d')):Res (Res.Step (Int×nC) nC))) ⟨by omega,by omega⟩ ⟨by omega,by omega⟩ fun x y hx hy=>?_
    exact aD ⟨_,by omega,rfl,⟨by simp only;omega,by simp only;omega⟩,(swap_perm hx hy).trans hp⟩
  ·
   have hone:¬ m-a=1:=by simpa using hone
   have hone2:¬ b-m=1:=by simpa using hone2
   have hmid:w6 (ij .u64 (IntKind.wrap .u64 (w6 (a+b))) 1)=(a+b) / 2:=vE (by omega);rw [hmid];generalize hM:(a+b) / 2=mid
   have hM1:a+b-1<=2*mid/\2*mid<=a+b:=by omega
   rw [wrap64 (n:=mid+m) (by omega),wrap64 (n:=mid+m-b) (by omega),wrap64 (n:=mid+m-1) (by omega)];refine bI rfl (aB (R:=fun (x:Int×Int)=>(a<=x.1/\x.1<=x.2/\x.2<=m)/\mid+m-x.1<=b/\(x.2<=mid)/\(mid<=mid+m-x.2)) ?_ ?_)
   ·refine aH (fun h1=>aD ?_) fun h1=>aD ?_
    ·rw [gu] at h1;simp only;omega
    ·rw [ly] at h1;simp only;omega
   rintro ⟨st,rr⟩ ⟨⟨s1,s2,s3⟩,s4,s5,s6⟩;simp only at s1 s2 s3 s4 s5 s6;refine aB (R:=fun r=>st<=r/\r<=rr) (uV (d:=d) st rr (by omega) (by omega) (by omega) _ fun i j h1 h2 h3=>?_) fun s hs=>?_
   ·simp only;refine aH (fun h4=>?_) fun h4=>aD rfl;rw [gu] at h4;have hh:zj (i+j)=(i+j) / 2:=vE (by omega);refine bI rfl ?_
    rw [show w6 (ij .u64 (IntKind.wrap .u64 (w6 (i+j))) 1)=(i+j) / 2 from hh]
    rw [wrap64 (n:=mid+m-1-(i+j) / 2) (by omega)];refine oX d (mid+m-1-(i+j) / 2) (by omega) (by omega) fun e2 _=>?_;refine oX d ((i+j) / 2) (by omega) (by omega) fun e3 _=>?_;refine q_b fun _=>(aA fun _=>aH (fun _=>aD ⟨h4,.inl ?_⟩) fun _=>aD ⟨h4,.inr rfl⟩);rw [wrap64 (by omega)]
   ·obtain ⟨hs1,hs2⟩:=hs;rw [wrap64 (n:=mid+m-s) (by omega)];refine aB (R:=fun d'=>d'.Perm d) ?_ fun d1 hp1=>aB (R:=fun d'=>d'.Perm d) ?_ fun d2 hp2=>?_
    ·refine aB (R:=fun c=>c=true->s < m/\m < mid+m-s) ?_ fun c hc=>aH (fun h=>?_) fun _=>aD (List.Perm.refl _)
     ·refine aH (fun h1=>aD fun h2=>?_) fun _=>aD fun h=>by cases h
      rw [gu] at h1 h2;exact ⟨h1,h2⟩
     ·obtain ⟨h1,h2⟩:=hc h;exact aB (Dp d s m (mid+m-s) (by omega) h1 h2 (by omega) hl) fun y hy=>aA fun _=>aD hy
    ·have hlen1:=hp1.length_eq;refine aB (R:=fun c=>c=true->a < s/\s < mid) ?_ fun c hc=>aH (fun h=>?_) fun _=>aD hp1
     ·refine aH (fun h1=>aD fun h2=>?_) fun _=>aD fun h=>by cases h
      rw [gu] at h1 h2;exact ⟨h1,h2⟩
     ·obtain ⟨h1,h2⟩:=hc h;exact aB (pQ fu d1 a s mid (by omega) h0 h1 h2 (by omega) (by omega)) fun y hy=>aA fun _=>aD (hy.trans hp1)
    ·have hlen2:=hp2.length_eq;refine aB (R:=fun c=>c=true->mid < mid+m-s/\mid+m-s < b) ?_ fun c hc=>aH (fun h=>?_) fun _=>aD hp2
     ·refine aH (fun h1=>aD fun h2=>?_) fun _=>aD fun h=>by cases h
      rw [gu] at h1 h2;exact ⟨h1,h2⟩
     ·obtain ⟨h1,h2⟩:=hc h;exact aB (pQ fu d2 mid (mid+m-s) b (by omega) (by omega) h1 h2 (by omega) (by omega)) fun y hy=>aA fun _=>aD (hy.trans hp2)
theorem Dl (d:nC) (hl:d.length < 2^50):(R.aX d (d.length:Int) ()).sat fun y=>y.2.Perm d:=by
 unfold R.aX;refine aA fun _=>aB (R:=fun (x:Int×nC)=>(0<=x.1/\x.1<=d.length)/\x.2.Perm d) (nB (fun k (x:Int×Int×nC)=>k=(d.length+20-x.1).toNat/\(0<=x.1/\x.1<=d.length)/\x.2.1=x.1+20/\x.2.2.Perm d) ?_ _ (d.length+20) _ (by have:fuel=2^70:=rfl;omega) ⟨by simp only;omega,⟨by simp only;omega,by simp only;omega⟩,rfl,List.Perm.refl _⟩) ?_
 ·rintro k ⟨a,b,d1⟩ ⟨hk,⟨h1,h2⟩,h3,hp⟩;simp only at hk h1 h2 h3 hp;have hlen:=hp.length_eq;refine aH (fun h4=>?_) fun h4=>aD ⟨⟨h1,h2⟩,hp⟩;rw [lv] at h4;simp only at h4 ⊢;refine aB (tF d1 a b h1 (by omega) (by omega) (by omega)) fun y hy=>aA fun _=>aD ⟨(d.length+20-b).toNat,by omega,rfl,⟨by simp only;omega,h4⟩,wrap64 (by omega),hy.trans hp⟩
 rintro ⟨a,d1⟩ ⟨⟨h1,h2⟩,hp⟩;simp only at h1 h2 hp;have hlen:=hp.length_eq;refine aB (tF d1 a d.length h1 (by omega) (by omega) (by omega)) fun y hy=>aA fun _=>?_;obtain ⟨_,d2⟩:=y;simp only at hy ⊢;have hp2:=hy.trans hp;refine aB (R:=fun d'=>d'.Perm d) (nB (fun k (x:Int×nC)=>k=(d.length-x.1).toNat/\(20<=x.1/\x.1<=2^52)/\x.2.Perm d) ?_ _ ((d.length:Int)-20).toNat _ (by have:fuel=2^70:=rfl;omega) ⟨rfl,⟨by simp only;omega,by simp only;omega⟩,hp2⟩) fun d' h=>aD h;rintro k ⟨bs,d3⟩ ⟨hk,⟨h3,h4⟩,hp3⟩;simp only at hk h3 h4 hp3;have hlen3:=hp3.length_eq;refine aH (fun h5=>?_) fun h5=>aD hp3;rw [gu] at h5;simp only at h5 ⊢;rw [wrap64 (n:=2*bs) (by omega),wrap64 (n:=bs*2) (by omega)];refine aB (R:=fun (x:Int×nC)=>(0<=x.1/\x.1<=d.length)/\x.2.Perm d) (nB (fun k (x:Int×Int×nC)=>k=(d.length+2*bs-x.1).toNat/\(0<=x.1/\x.1<=d.length)/\x.2.1=x.1+2*bs/\x.2.2.Perm d) ?_ _ (d.length+2*bs).toNat _ (by have:fuel=2^70:=rfl;omega) ⟨by simp only;omega,⟨by simp only;omega,by simp only;omega⟩,by simp only;omega,hp3⟩) ?_
 ·rintro k ⟨a,b,d4⟩ ⟨hk,⟨h6,h7⟩,h8,hp4⟩;simp only at hk h6 h7 h8 hp4;have hlen4:=hp4.length_eq;refine aH (fun h9=>?_) fun h9=>aD ⟨⟨h6,h7⟩,hp4⟩;rw [lv] at h9;simp only at h9 ⊢;rw [wrap64 (n:=a+bs) (by omega),wrap64 (n:=b+2*bs) (by omega)];refine aB (pQ fuel d4 a (a+bs) b (by have:fuel=2^70:=rfl;omega) h6 (by omega) (by omega) (by omega) (by omega)) fun y hy=>aA fun _=>aD ⟨(d.length+2*bs-b).toNat,by omega,rfl,⟨by simp only;omega,h9⟩,rfl,hy.trans hp4⟩
 rintro ⟨a,d4⟩ ⟨⟨h6,h7⟩,hp4⟩;simp only at h6 h7 hp4 ⊢;have hlen4:=hp4.length_eq;rw [wrap64 (n:=a+bs) (by omega)];refine aH (fun h9=>?_) fun h9=>aD ⟨(d.length-bs*2).toNat,by omega,rfl,⟨by simp only;omega,by simp only;omega⟩,hp4⟩;rw [gu] at h9;exact aB (pQ fuel d4 a (a+bs) d.length (by have:fuel=2^70:=rfl;omega) h6 (by omega) h9 (by omega) (by omega)) fun y hy=>aA fun _=>aD ⟨(d.length-bs*2).toNat,by omega,rfl,⟨by simp only;omega,by simp only;omega⟩,hy.trans hp4⟩
theorem xF (d:nC) (hl:d.length < 2^50):(R.aU d ()).sat fun y=>y.2.Perm d:=by
 unfold R.aU;exact aA fun _=>aB (Dl d hl) fun y hy=>aA fun _=>aD hy
theorem F0 {h:qS}{i:Int}{c:kA}(h0:0<=i) (hc:h.2[i.toNat]?=some c) (hl:c.2.2.1.length<=2^39):(R.eC h i).sat fun l=>l.length=c.2.2.1.length:=by
 unfold R.eC;refine aA fun _=>kK (fun c' _ hc'=>ik rfl (kg h0 hc ?_)) fun hn=>absurd ⟨h0,(List.getElem?_eq_some_iff.1 hc).1⟩ hn;refine aB (iC (Q:=fun x:nC×nC=>x.1.length+x.2.length=c.2.2.1.length) (fun x=>x.2.2) c.2.2.1.length (by omega) (fun x=>x.1.length+x.2.1.length=x.2.2.toNat) (by simp) (by simp) (by simp) fun x x0 x1 xI=>?_) fun x hx=>?_
 ·obtain ⟨p,q,j⟩:=x;have x0:0<=j:=x0;have x1:j<=(c.2.2.1.length:Int):=x1;have xI:p.length+q.length=j.toNat:=xI;refine fZ (fun hj=>?_) fun hj=>aD ?_
  ·have hj:j < (c.2.2.1.length:Int):=hj;refine bN x0 (by show _ < c.2.2.1.length;omega) fun e he _=>pX (aA fun _=>q_b fun _=>aA fun _=>aH (fun _=>bI (decide_eq_true ?_) (aD ⟨rfl,hj,?_⟩)) fun _=>bI (decide_eq_true ?_) (aD ⟨rfl,hj,?_⟩))
   ·show (p.length+1)*24<=2^47;omega
   ·show (p++[_]).length+q.length=(w6 (j+1)).toNat;rw [wrap64 (by omega),List.length_append];simp;omega
   ·show (q.length+1)*24<=2^47;omega
   ·show p.length+(q++[_]).length=(w6 (j+1)).toNat;rw [wrap64 (by omega),List.length_append];simp;omega
  ·have hj:(c.2.2.1.length:Int)<=j:=hj;show p.length+q.length=c.2.2.1.length;omega
 ·obtain ⟨p,q⟩:=x;have hx:p.length+q.length=c.2.2.1.length:=hx;refine aB (xF p (by omega)) fun y hy=>aA fun _=>?_;have hleny:=hy.length_eq;refine bI (decide_eq_true ?_) (aD ?_)
  ·show (y.2.length+q.length)*24<=2^47;omega
  ·show (y.2++q).length=_;rw [List.length_append];omega
end Go.Mach

set_option maxRecDepth 100000
namespace Go.Mach
open Res
def pe (C:Cx) (m b:Int) (s:RunT){α:Type}(P:α->Prop):α ⊕ (Int×(RunT×eY))->Prop
 |.inl a=>P a
 |.inr z=>dN C m b s ((z.2.2,z.1),z.2.1)
theorem oE {C:Cx}{m b:Int}{s:RunT}{α:Type}{P:α->Prop}{x:α ⊕ (Int×(RunT×eY))}(hx:pe C m b s P x){f:α->Res ((eY×Int)×RunT)}(hf:∀ a,P a->(f a).sat (dN C m b s)):(sum x f fun z=>Res.ok ((z.2.2,z.1),z.2.1)).sat (dN C m b s):=by
 cases x with
 |inl a=>exact je (hf a hx)
 |inr z=>exact jf (aD hx)
theorem oa {C:Cx}{m b:Int}{s:RunT}{α:Type}{P:α->Prop}{F:Res ((eY×Int)×RunT)}{B:(eY×Int)×RunT->Bool}(hF:F.sat (dN C m b s)):(F.bind fun r=>given (B r) (Res.ok (Sum.inr (r.1.2,(r.2,r.1.1)):α ⊕ (Int×(RunT×eY))))).sat (pe C m b s P):=aB hF fun r hr=>aA fun _=>aD hr
theorem FE {B:Nat}{c:kA}(h1:c.2.2.1=[]) (h2:c.2.2.2.1=[]) (h3:cJ c.2.2.2.2.2.2.2.1) (h4:c.2.2.2.2.1.length<=4096:=by exact Nat.zero_le _):sO B c:=⟨by rw [h1];exact Nat.zero_le _,by rw [h2];exact Nat.zero_le _,by rw [h1];simp,by rw [h2];simp,h3,h4⟩
theorem jg {x k j:Int}(e:x=k) (h:k≠j):x≠j:=fun g=>h (e.symm.trans g)
theorem pJ.vw1 {N:List gN}{l:List kA}{c:kA}(e:Eq (α:=Int) (c.1) (8)) (h:LE.le (α:=Int) (0) (c.2.2.2.2.2.2.2.2.2.2.1)/\LE.le (α:=Int) (0) (c.2.2.2.2.2.2.2.2.2.2.2.1)/\LE.le (α:=Int) ((HAdd.hAdd (α:=Int) (β:=Int) (γ:=Int) (c.2.2.2.2.2.2.2.2.2.2.1) (c.2.2.2.2.2.2.2.2.2.2.2.1))) (9007199254740991)/\qY l c.2.2.2.2.2.2.2.2.2.1 (HAdd.hAdd (α:=Int) (β:=Int) (γ:=Int) (c.2.2.2.2.2.2.2.2.2.2.1) (c.2.2.2.2.2.2.2.2.2.2.2.1))):pJ N l c:=⟨fun g=>absurd g (jg e (by decide)),fun g=>absurd g (jg e (by decide)),fun g=>absurd g (jg e (by decide)),fun g=>absurd g (jg e (by decide)),fun _=>h⟩
theorem pJ.ty1 {N:List gN}{l:List kA}{c:kA}{z:Int}(e:Eq (α:=Int) (c.1) (7)) (h:ElI c.2.2.2.2.2.2.2.2.1 z/\LE.le (α:=Int) (0) (c.2.2.2.2.2.2.2.2.2.2.1)/\LE.le (α:=Int) (0) (c.2.2.2.2.2.2.2.2.2.2.2.1)/\LE.le (α:=Int) (c.2.2.2.2.2.2.2.2.2.2.2.1) (9007199254740991)/\LE.le (α:=Int) ((HAdd.hAdd (α:=Int) (β:=Int) (γ:=Int) (c.2.2.2.2.2.2.2.2.2.2.1) (HMul.hMul (α:=Int) (β:=Int) (γ:=Int) c.2.2.2.2.2.2.2.2.2.2.2.1 z))) (9007199254740991)/\qY l c.2.2.2.2.2.2.2.2.2.1 (HAdd.hAdd (α:=Int) (β:=Int) (γ:=Int) (c.2.2.2.2.2.2.2.2.2.2.1) (HMul.hMul (α:=Int) (β:=Int) (γ:=Int) c.2.2.2.2.2.2.2.2.2.2.2.1 z))):pJ N l c:=⟨fun g=>absurd g (jg e (by decide)),fun g=>absurd g (jg e (by decide)),fun g=>absurd g (jg e (by decide)),fun _=>⟨z,h⟩,fun g=>absurd g (jg e (by decide))⟩
theorem pJ.sh1 {N:List gN}{l:List kA}{c:kA}(e:Eq (α:=Int) (c.1) (6)) (h:LE.le (α:=Int) (0) (c.2.2.2.2.2.2.2.2.2.2.2.1)/\LE.le (α:=Int) (c.2.2.2.2.2.2.2.2.2.2.2.1) (9007199254740991)):pJ N l c:=⟨fun g=>absurd g (jg e (by decide)),fun g=>absurd g (jg e (by decide)),fun _=>h,fun g=>absurd g (jg e (by decide)),fun g=>absurd g (jg e (by decide))⟩
theorem pJ.bf1 {N:List gN}{l:List kA}{c:kA}(e:Eq (α:=Int) (c.1) (5)) (h:(c.2.2.2.2.2.2.2.2.2.2.2.2).length<=4096):pJ N l c:=⟨fun g=>absurd g (jg e (by decide)),fun _=>h,fun g=>absurd g (jg e (by decide)),fun g=>absurd g (jg e (by decide)),fun g=>absurd g (jg e (by decide))⟩
theorem lK {l:List eY}(hl:∀ v∈l,cJ v){i:Int}(h0:0<=i):(R.bY l i).sat cJ:=by
 unfold R.bY;exact aA fun _=>fZ (fun h=>bN h0 (by have h:i < (l.length:Int):=h;show _ < l.length;omega) fun x hx _=>aD (hl _ (List.mem_of_getElem? hx))) fun _=>aD bz
theorem lx {n:Int}:(R.bc n).sat cJ:=by
 unfold R.bc;exact aA fun _=>aB nY fun r hr=>aA fun _=>aD (vk hr)
instance Gy {n}:Safe (R.fT n):=by
 unfold R.fT;refine ⟨aA fun h=>?_⟩;simp only [Sg.i,oks,Sh.ok,Ty.ok,List.map,Par.v,Bool.and_eq_true,IL] at h;exact ae (a:=Lib.itoa n) rfl (aA fun _=>aB (dw (Nat.le_trans (Lib.itoa_length_le n (by omega) (by omega)) (by decide))) fun _ _=>aA fun _=>aD trivial)
theorem DG {u:List Int}:(R.eT u).sat fun r=>r.1.length<=u.length:=by
 unfold R.eT;refine aA fun h=>?_;simp only [Sg.i,oks,Sh.ok,Ty.ok,List.map,Par.v,Bool.and_eq_true] at h;have hl:=uE h;simp only [Sh.jq,Ty.jq,IntKind.jq] at hl
 refine aB (iC (Q:=fun r:List Int ⊕ (List UInt8×Bool)=>match r with|.inl l=>l.length<=u.length|.inr r=>r.1.length<=u.length) (fun i=>i.2) u.length (by omega) (fun x=>x.1.length=x.2.toNat) (by simp) (by simp) (by simp) fun x h0 h1 hI=>?_) fun x hx=>?_
 ·obtain ⟨l,i⟩:=x;have h0:0<=i:=h0;have h1:i<=(u.length:Int):=h1;have hI:l.length=i.toNat:=hI;refine fZ (fun hi=>?_) fun _=>aD (by show l.length<=u.length;omega);have hi:i < (u.length:Int):=hi;refine bN h0 (by show _ < u.length;omega) fun e _ _=>fZ (fun _=>aD (Nat.zero_le _)) fun _=>bI (decide_eq_true ?_) (aD ⟨rfl,hi,?_⟩)
  ·show (l.length+1)*1<=2^47;omega
  ·show (l++[_]).length=(w6 (i+1)).toNat;rw [wrap64 (by omega),List.length_append];simp;omega
 ·cases x with
  |inl l=>exact je (aD (by rw [vj];exact hx))
  |inr r=>exact jf (aD hx)
theorem FG {k:Nat}(h:k<=10):(10:Int)^k<=10000000000:=by
 have h1:((10^k:Nat):Int)<=((10000000000:Nat):Int):=Int.ofNat_le.2 (Nat.le_trans (Nat.pow_le_pow_right (by decide) h) (by decide));rw [Int.natCast_pow] at h1;exact h1
theorem yU {u:List Int}:(R.eZ u).sat fun r=>0<=r.1/\r.1<=4294967294:=by
 unfold R.eZ;refine aA fun _=>aB (R:=fun b=>b=false->u.length<=10) (bL (fun _=>aD fun e=>by cases e) fun h0=>fZ (fun _=>aD fun e=>by cases e) fun h1=>?_) fun b hb=>aH (fun _=>aD ⟨by decide,by decide⟩) fun e=>?_
 ·have h0:(u.length:Int)≠0:=h0;have h1:(u.length:Int)<=10:=h1
  exact bN (by decide) (by show 0 < u.length;omega) fun _ _ _=>bL (fun _=>aD fun _=>by omega) fun _=>aD fun _=>by omega
 ·have hl:=hb e
  refine aB (iC (Q:=fun r:Int ⊕ (Int×Bool)=>match r with|.inl n=>0<=n|.inr r=>0<=r.1/\r.1<=4294967294) (fun i=>i.2) u.length (by omega) (fun x=>0<=x.1/\x.1+1<=10^x.2.toNat) (by simp) (by simp) (by simp) fun x h0 h1 hI=>?_) fun x hx=>?_
  ·obtain ⟨n,i⟩:=x;have h0:0<=i:=h0;have h1:i<=(u.length:Int):=h1;obtain ⟨n0,n1⟩:=hI;have n0:0<=n:=n0;have n1:n+1<=10^i.toNat:=n1;refine fZ (fun hi=>?_) fun _=>aD n0;have hi:i < (u.length:Int):=hi;refine bN h0 (by show _ < u.length;omega) fun d _ _=>aB (R:=fun b=>b=true->48<=d/\d<=57) ?_ fun b hb=>eD (aH (fun e=>?_) fun _=>aD ⟨by decide,by decide⟩)
   ·unfold R.gZ
    exact aA fun _=>lg (fun g=>aD fun e=>⟨g,of_decide_eq_true e⟩) fun _=>aD fun e=>by cases e
   ·obtain ⟨d0,d1⟩:=hb e;have d0:LE.le (α:=Int) (48) (d):=d0;have d1:LE.le (α:=Int) (d) (57):=d1;have hp:(10:Int)^i.toNat<=10000000000:=FG (by omega);have hp1:(10:Int)^(i.toNat+1)=10^i.toNat*10:=Int.pow_succ _ _;refine aD ⟨rfl,hi,?_⟩
    have w1:IntKind.wrap .u16 (d-48)=d-48:=by simp [w6,IntKind.wrap,IntKind.signed,IntKind.bits];omega
    show 0<=w6 (w6 (10*n)+w6 (IntKind.wrap .u16 (d-48)))/\w6 (w6 (10*n)+w6 (IntKind.wrap .u16 (d-48)))+1<=10^(w6 (i+1)).toNat;rw [w1,wrap64 (n:=10*n) (by omega),wrap64 (n:=d-48) (by omega),wrap64 (n:=10*n+(d-48)) (by omega),wrap64 (n:=i+1) (by omega),show (i+1).toNat=i.toNat+1 by omega,hp1];omega
  ·cases x with
   |inl n=>exact je (fZ (fun _=>aD ⟨by decide,by decide⟩) fun h=>aD ⟨hx,h⟩)
   |inr r=>exact jf (aD hx)
theorem GK {l:List (List UInt8)}{n:List UInt8}:(R.bT l n).sat fun r=>-1<=r/\r < l.length/\(0<=r->n∈l):=by
 unfold R.bT;refine aA fun h=>?_;simp only [Sg.i,oks,Sh.ok,Ty.ok,List.map,Par.v,Bool.and_eq_true] at h;have hl:=lj h.1
 refine aB (iC (Q:=fun r:Unit ⊕ Int=>match r with|.inl _=>True|.inr r=>-1<=r/\r < l.length/\(0<=r->n∈l)) (fun x=>x) l.length (by omega) (fun _=>True) (by omega) (by omega) trivial fun x h0 h1 _=>?_) fun x hx=>?_
 ·refine fZ (fun h=>bN (by omega) (by omega) fun e he _=>aH (fun g=>aD ⟨by omega,by omega,fun _=>?_⟩) fun _=>aD ⟨rfl,by omega,trivial⟩) fun _=>aD trivial;rw [eq_of_beq g];exact List.mem_of_getElem? he
 ·cases x with
  |inl _=>exact je (aD ⟨by omega,by omega,fun h=>absurd h (by decide)⟩)
  |inr r=>exact jf (aD hx)
theorem zm {l:List (List UInt8)}{n:List UInt8}:(R.aQ l n).sat fun r=>r=true->n∈l:=by
 unfold R.aQ;exact aA fun _=>aB GK fun r hr=>aA fun _=>aD fun e=>hr.2.2 (of_decide_eq_true e)
noncomputable def CC:List (List UInt8):=R.cd.strip.getD []
theorem Cu:R.cd.sat (·=CC):=ox (a:=CC) (by kernel_rfl) rfl
def InN (s:List UInt8):Prop:=s∈([]::CC)
theorem Fw {P:List UInt8->Bool}(h:([]::CC).all P=true){s:List UInt8}(hs:InN s):P s=true:=List.all_eq_true.1 h s hs
theorem Fi:CC.length<=100:=of_decide_eq_true (by kernel_rfl)
theorem zi {s:List UInt8}(hs:InN s):s.length<=100:=of_decide_eq_true (Fw (P:=fun s=>decide (s.length<=100)) (by kernel_rfl) hs)
theorem tT {i:Int}:(R.gJ i).sat fun r=>InN r/\(i < 4096->r=[]):=by
 unfold R.gJ;have hl:=Fi;refine aA fun _=>ae Cu (aA fun _=>aB (R:=fun b=>b=false->4096<=i/\i < 4096+(CC.length:Int)) (fZ (fun _=>aD fun e=>by cases e) fun h=>aD fun e=>?_) fun b hb=>aH (fun _=>aD ⟨List.mem_cons_self,fun _=>rfl⟩) fun e=>?_)
 ·have e:=Int.not_le.1 (of_decide_eq_false e);rw [wrap64 (by omega)] at e;exact ⟨h,e⟩
 ·obtain ⟨h1,h2⟩:=hb e;rw [wrap64 (n:=i-4096) (by omega)];exact gL (iM (by omega) (nr (by omega) (bu (by omega) (by show _ < CC.length;omega) fun x hx _=>aD ⟨List.mem_cons_of_mem _ (List.mem_of_getElem? hx),fun h=>absurd h (by omega)⟩)))
theorem uH {n:List UInt8}:(R.iA n).sat fun r=>r=true->n≠[]:=by
 unfold R.iA;refine aA fun _=>eD (aH (fun _=>aD fun e=>by cases e) fun h=>bH (dw0:Safe _).ok fun r _ _ e=>?_);subst e;cases h
theorem eli {k:Int}(h:1<=k/\k<=8):∃ z,ElI k z:=by
 rcases (by omega:k=1\/k=2\/k=3\/k=4\/k=5\/k=6\/k=7\/k=8) with rfl|rfl|rfl|rfl|rfl|rfl|rfl|rfl
 ·exact ⟨1,.k1⟩
 ·exact ⟨1,.k2⟩
 ·exact ⟨2,.k3⟩
 ·exact ⟨2,.k4⟩
 ·exact ⟨4,.k5⟩
 ·exact ⟨4,.k6⟩
 ·exact ⟨8,.k7⟩
 ·exact ⟨8,.k8⟩
theorem zh {n:List UInt8}:(R.ei n).sat fun r=>0<=r/\r<=8:=by
 unfold R.ei R.fO;refine aA fun _=>fP (aA fun _=>aD (aA fun _=>aB GK fun r hr=>aA fun _=>aD ?_));obtain ⟨h1,h2,_⟩:=hr;have h2:r < 8:=h2;rw [wrap64 (by omega)];omega
theorem GJ {n:List UInt8}:(R.jP n).sat fun r=>0 < r->∃ z,ElI r z:=by
 unfold R.jP;exact aA fun _=>aB safe fun r _=>aA fun _=>aH (fun _=>aB zh fun k hk=>aA fun _=>aD fun h=>eli ⟨by omega,hk.2⟩) fun _=>aD fun h=>absurd h (by decide)
def optB {α:Type}(o:Option α) (f:α->Bool):Bool :=
 match o with
 |some x=>f x
 |none=>false
theorem wO {α:Type}{m:Res α}{f:α->Bool}(h:optB m.strip f=true):m.sat fun x=>f x=true:=by
 cases hm:m.strip with
 |none=>rw [hm] at h;cases h
 |some x =>
  rw [hm] at h;exact ox (Φ:=fun x=>f x=true) hm h
abbrev dvw:List UInt8:=[68,97,116,97,86,105,101,119,35]
def VwN (n:List UInt8):Prop:=3<=n.length/\(R.ei (List.drop 3 n)).sat fun k=>∃ z,ElI k z
theorem G6 {s:List UInt8}(hs:InN s):(R.cO s dvw).sat fun b=>b=true->(R.bw s dvw).sat VwN:=by
 have h:=Fw (P:=fun s=>optB (R.cO s dvw).strip fun b=>!b || optB (R.bw s dvw).strip fun t=>decide (3<=t.length) && optB (R.ei (List.drop 3 t)).strip fun k=>decide (1<=k/\k<=8)) (by kernel_rfl) hs;refine bH (wO h) fun b hb e=>?_;subst e;refine bH (wO hb) fun t ht=>?_;rw [Bool.and_eq_true] at ht;exact ⟨of_decide_eq_true ht.1,bH (wO ht.2) fun k hk=>eli (of_decide_eq_true hk)⟩
theorem B8 {n:List UInt8}:(R.fe n).sat fun r=>∀ x∈r,x.length<=100:=by
 unfold R.fe;refine aA fun _=>aH (fun _=>aD ?_) fun _=>aH (fun _=>aD ?_) fun _=>aH (fun _=>aD ?_) fun _=>aH (fun _=>aD ?_) fun _=>aH (fun _=>aD ?_) fun _=>aD ?_
 all_goals decide
section
variable {C:Cx}{m b:Int}{s:RunT}
theorem o7 (h:iS C m s) (hm:m<=2^39){c:kA}(hc:pJ C.N s.2.2.2.2.1.2 c) (h1:c.2.2.1=[]) (h2:c.2.2.2.1=[]) (h3:cJ c.2.2.2.2.2.2.2.1) (h4:c.2.2.2.2.1.length<=4096:=by exact Nat.zero_le _):(R.aT s c).sat (dN C m s.2.2.2.2.2.2.1 s):=bH (o4 h hm hc fun _ _=>FE h1 h2 h3 h4) fun _ hr=>hr.1
theorem Cz {v:eY}:(R.dI s v).sat fun r=>r=true->0<=v.2.2.2.2/\∃ c,s.2.2.2.2.1.2[v.2.2.2.2.toNat]?=some c/\(Eq (α:=Int) (c.1) (5)\/Eq (α:=Int) (c.1) (6)):=by
 unfold R.dI;refine aA fun _=>eD (bL (fun _=>aB nU fun r hr=>aA fun _=>?_) fun _=>aD fun e=>by cases e);rcases hr with ⟨h0,_⟩|⟨i0,c,hc,e⟩
 ·subst h0;exact ik rfl (aD fun e=>by cases e)
 ·subst e;exact bL (fun e5=>aD fun _=>⟨i0,c,hc,.inl e5⟩) fun _=>aD fun e6=>⟨i0,c,hc,.inr (eq_of_beq e6)⟩
theorem vq {N:List gN}{B:Nat}(hh:jW N B s.2.2.2.2.1){i:Int}{c:kA}(h0:0<=i) (hc:s.2.2.2.2.1.2[i.toNat]?=some c) (hk:Eq (α:=Int) (c.1) (5)\/Eq (α:=Int) (c.1) (6)):(R.cu s i).sat fun r=>LE.le (α:=Int) (0) (r)/\LE.le (α:=Int) (r) (9007199254740991)/\qY s.2.2.2.2.1.2 i r:=by
 unfold R.cu;have g:=(hh.cl _ c hc).1;refine aA fun _=>kK (fun c' _ hc'=>ik rfl (kg h0 hc (bL (fun e=>aD ?_) fun e=>aD ?_))) fun hn=>absurd ⟨h0,(List.getElem?_eq_some_iff.1 hc).1⟩ hn
 ·exact ⟨(g.sh e).1,(g.sh e).2,h0,c,hc,.inr ⟨e,Int.le_refl _⟩⟩
 ·have e5:Eq (α:=Int) (c.1) (5):=hk.resolve_right e;have hl:=g.bf e5;exact ⟨by show LE.le (α:=Int) (0) (((c.2.2.2.2.2.2.2.2.2.2.2.2).length:Int));omega,by show LE.le (α:=Int) (((c.2.2.2.2.2.2.2.2.2.2.2.2).length:Int)) (_);omega,h0,c,hc,.inl ⟨e5,Int.le_refl _⟩⟩
theorem Bm (h:iS C m s) (hm:m<=2^39){l:List eY}(hl:∀ v∈l,cJ v):(R.c7 s l).sat (dN C m s.2.2.2.2.2.2.1 s):=by
 unfold R.c7;obtain ⟨B,g1,g2,g3⟩:=h.heap hm;refine aA fun _=>aB (lK hl (by decide)) fun a _=>aA fun _=>aB Cz fun r2 hr2=>eD (aH (fun e2=>?_) fun _=>af (iO h hm));obtain ⟨i0,c,hc,hk⟩:=hr2 e2;refine aB (vq g1 i0 hc hk) fun n ⟨n0,n1,nb⟩=>aA fun _=>aB (lK hl (by decide)) fun _ _=>aA fun _=>aB nT fun f ⟨f0,f1⟩=>aA fun _=>cE (fun _=>af (iO h hm)) fun _=>fZ (fun _=>af (iO h hm)) fun hf=>?_;have hf:LE.le (α:=Int) (f.1) (n):=hf;have ew:w6 (HSub.hSub (α:=Int) (β:=Int) (γ:=Int) (n) (f.1))=(HSub.hSub (α:=Int) (β:=Int) (γ:=Int) (n) (f.1)):=wrap64 (by omega);refine aB (R:=pe C m s.2.2.2.2.2.2.1 s fun k:Int=>0<=k/\LE.le (α:=Int) ((HAdd.hAdd (α:=Int) (β:=Int) (γ:=Int) (f.1) (k))) (n)) (aB (lK hl (by decide)) fun _ _=>aA fun _=>eD (bL (fun _=>aD ?_) fun _=>aB nT fun k ⟨k0,k1⟩=>aA fun _=>cE (fun _=>oa (iO h hm)) fun _=>fZ (fun _=>oa (iO h hm)) fun hk=>aD ?_)) fun r hr=>oE hr fun k ⟨k0,k1⟩=>af (o7 h hm (.vw1 rfl ⟨f0,k0,?_,?_⟩) rfl rfl bz)
 ·show 0<=w6 _/\LE.le (α:=Int) ((HAdd.hAdd (α:=Int) (β:=Int) (γ:=Int) (f.1) (w6 _))) (n);rw [ew];omega
 ·have hk:LE.le (α:=Int) (k.1) (w6 (HSub.hSub (α:=Int) (β:=Int) (γ:=Int) (n) (f.1))):=hk;rw [ew] at hk;show LE.le (α:=Int) (0) (k.1)/\LE.le (α:=Int) ((HAdd.hAdd (α:=Int) (β:=Int) (γ:=Int) (f.1) (k.1))) (n);omega
 ·show LE.le (α:=Int) ((HAdd.hAdd (α:=Int) (β:=Int) (γ:=Int) (f.1) (k))) (_);omega
 ·exact nb.le k1
theorem tdv {x z:Int}(hx:0<=x) (hx':x<=9007199254740991) (hz:1<=z/\z<=8):w6 (Int.tdiv x z)=x / z/\0<=x / z/\x / z<=x/\x / z*z<=x:=by
 have h1:Int.tdiv x z=x / z:=Int.tdiv_eq_ediv_of_nonneg hx;have h2:0<=x / z:=Int.ediv_nonneg hx (by omega);have h3:x / z<=x:=Int.ediv_le_self _ hx;have h4:x / z*z<=x:=Int.ediv_mul_le _ (by omega);rw [h1,wrap64 (by omega)];exact ⟨rfl,h2,h3,h4⟩
theorem H8 (h:iS C m s) (hm:m<=2^39){k z i:Int}(hz:ElI k z){c:kA}(i0:0<=i) (hc:s.2.2.2.2.1.2[i.toNat]?=some c) (hk:Eq (α:=Int) (c.1) (5)\/Eq (α:=Int) (c.1) (6)){x y:eY}:(R.er s k i x y).sat (dN C m s.2.2.2.2.2.2.1 s):=by
 unfold R.er;obtain ⟨B,g1,g2,g3⟩:=h.heap hm;have z1:=hz.pos;refine aA fun _=>ae (ma hz) (aA fun _=>aB (vq g1 i0 hc hk) fun n ⟨n0,n1,nb⟩=>aA fun _=>aB nT fun f ⟨f0,f1⟩=>aA fun _=>cE (fun _=>af (iO h hm)) fun _=>sZ (by omega) (cE (fun _=>af (iO h hm)) fun _=>?_));refine aB (R:=pe C m s.2.2.2.2.2.2.1 s fun k:Int=>0<=k/\k<=9007199254740991) (cE (fun _=>aB nT fun k hk=>aA fun _=>cE (fun _=>oa (iO h hm)) fun _=>aD hk) fun _=>aD ⟨by decide,by decide⟩) fun r hr=>oE hr fun q ⟨q0,q1⟩=>?_;refine aB (R:=pe C m s.2.2.2.2.2.2.1 s fun q:Int=>0<=q/\q<=9007199254740991/\LE.le (α:=Int) ((HAdd.hAdd (α:=Int) (β:=Int) (γ:=Int) (f.1) (q*z))) (n)) (aB (R:=fun b=>b=false->LE.le (α:=Int) (f.1) (n)/\q<=(HSub.hSub (α:=Int) (β:=Int) (γ:=Int) (n) (f.1)) / z) ?_ fun b hb=>aH (fun _=>oa (iO h hm)) fun e=>?_) fun r hr=>oE hr fun q ⟨q0,q1,q2⟩=>af (o7 h hm (.ty1 rfl ⟨hz,f0,q0,q1,?_,?_⟩) rfl rfl bz)
 ·have hlast:LE.le (α:=Int) (f.1) (n)->(ai (!(z == 0)) (Res.ok (ilt (w6 (Int.tdiv (w6 (HSub.hSub (α:=Int) (β:=Int) (γ:=Int) (n) (f.1))) z)) q))).sat fun b=>b=false->LE.le (α:=Int) (f.1) (n)/\q<=(HSub.hSub (α:=Int) (β:=Int) (γ:=Int) (n) (f.1)) / z:=fun hf=>sZ (by omega) (aD fun e=>⟨hf,by
   have e:=Int.not_lt.1 (of_decide_eq_false e);rw [wrap64 (n:=(HSub.hSub (α:=Int) (β:=Int) (γ:=Int) (n) (f.1))) (by omega),(tdv (x:=(HSub.hSub (α:=Int) (β:=Int) (γ:=Int) (n) (f.1))) (z:=z) (by omega) (by omega) ⟨z1.1,z1.2.1⟩).1] at e
   exact e⟩)
  exact bL (fun _=>sZ (by omega) (cE (fun _=>aD fun e=>by cases e) fun _=>fZ (fun _=>aD fun e=>by cases e) fun hf=>hlast hf)) fun _=>fZ (fun _=>aD fun e=>by cases e) fun hf=>hlast hf
 ·obtain ⟨hf,hq⟩:=hb e;obtain ⟨t1,t2,t3,t4⟩:=tdv (x:=(HSub.hSub (α:=Int) (β:=Int) (γ:=Int) (n) (f.1))) (z:=z) (by omega) (by omega) ⟨z1.1,z1.2.1⟩;refine bL (fun _=>sZ (by omega) (aD ?_)) fun _=>aD ?_
  ·show 0<=w6 (Int.tdiv (w6 (HSub.hSub (α:=Int) (β:=Int) (γ:=Int) (n) (f.1))) z)/\w6 (Int.tdiv (w6 (HSub.hSub (α:=Int) (β:=Int) (γ:=Int) (n) (f.1))) z)<=9007199254740991/\LE.le (α:=Int) ((HAdd.hAdd (α:=Int) (β:=Int) (γ:=Int) (f.1) (w6 (Int.tdiv (w6 (HSub.hSub (α:=Int) (β:=Int) (γ:=Int) (n) (f.1))) z)*z))) (n);rw [wrap64 (n:=(HSub.hSub (α:=Int) (β:=Int) (γ:=Int) (n) (f.1))) (by omega),t1];omega
  ·have:q*z<=(HSub.hSub (α:=Int) (β:=Int) (γ:=Int) (n) (f.1)) / z*z:=Int.mul_le_mul_of_nonneg_right hq (by omega);show 0<=q/\q<=9007199254740991/\LE.le (α:=Int) ((HAdd.hAdd (α:=Int) (β:=Int) (γ:=Int) (f.1) (q*z))) (n);omega
 ·show LE.le (α:=Int) ((HAdd.hAdd (α:=Int) (β:=Int) (γ:=Int) (f.1) (q*z))) (_);omega
 ·exact nb.le q2
theorem C9 (h:iS C m s) (hm:m<=2^39){k z:Int}(hz:ElI k z){l:List eY}(hl:∀ v∈l,cJ v):(R.dU s k l).sat (dN C m s.2.2.2.2.2.2.1 s):=by
 unfold R.dU;have z1:=hz.pos;refine aA fun _=>aB (lK hl (by decide)) fun a _=>aA fun _=>aB (lK hl (by decide)) fun _ _=>aA fun _=>aB (lK hl (by decide)) fun _ _=>aA fun _=>ae (ma hz) (aA fun _=>aB Cz fun r2 hr2=>aH (fun e2=>?_) fun _=>bL (fun _=>af (gU h)) fun _=>aB nT fun n ⟨n0,n1⟩=>aA fun _=>cE (fun _=>af (iO h hm)) fun _=>sZ (by omega) (fZ (fun _=>af (iO h hm)) fun hn=>?_))
 ·obtain ⟨i0,c,hc,hk⟩:=hr2 e2;exact af (H8 h hm hz i0 hc hk)
 ·obtain ⟨t1,t2,t3,t4⟩:=tdv (x:=4096) (z:=z) (by omega) (by omega) ⟨z1.1,z1.2.1⟩;have hn:LE.le (α:=Int) (n.1) (w6 (Int.tdiv 4096 z)):=hn;rw [t1] at hn;have h1:HMul.hMul (α:=Int) (β:=Int) (γ:=Int) n.1 z<=4096 / z*z:=Int.mul_le_mul_of_nonneg_right hn (by omega);have h0:0<=HMul.hMul (α:=Int) (β:=Int) (γ:=Int) n.1 z:=Int.mul_nonneg n0 (by omega);have ew:w6 (HMul.hMul (α:=Int) (β:=Int) (γ:=Int) n.1 z)=HMul.hMul (α:=Int) (β:=Int) (γ:=Int) n.1 z:=wrap64 (by omega);obtain ⟨w,hw⟩:∃ w,w=HMul.hMul (α:=Int) (β:=Int) (γ:=Int) n.1 z:=⟨_,rfl⟩;rw [ew,<- hw];rw [<- hw] at h1 h0;refine gL (iM h0 (gL (iM (Int.le_refl _) (n_d (by omega) (aB (o4 h hm (.bf1 rfl ?_) fun _ _=>FE rfl rfl bz) fun r ⟨r1,r2⟩=>aA fun _=>cE (fun _=>aD r1) fun e=>?_)))))
  ·show (List.replicate w.toNat (0:Int)).length<=4096;rw [List.length_replicate];omega
  ·obtain ⟨_,_,j0,hj⟩:=r2 (by rw [e];decide);have a1:=r1.2.a0 e;refine af (bH (o7 a1.run hm (.ty1 rfl ⟨hz,Int.le_refl 0,n0,n1,?_,j0,_,hj,.inl ⟨rfl,?_⟩⟩) rfl rfl bz) fun _ hr=>hr.cat a1)
   ·show LE.le (α:=Int) ((HAdd.hAdd (α:=Int) (β:=Int) (γ:=Int) (0) (HMul.hMul (α:=Int) (β:=Int) (γ:=Int) n.1 z))) (_);rw [<- hw];omega
   ·show LE.le (α:=Int) ((HAdd.hAdd (α:=Int) (β:=Int) (γ:=Int) (0) (HMul.hMul (α:=Int) (β:=Int) (γ:=Int) n.1 z))) (((List.replicate w.toNat (0:Int)).length:Int));rw [<- hw,List.length_replicate];omega
end
end Go.Mach

set_option maxRecDepth 100000
namespace Go.Mach
open Res
theorem l0:0<=(0:Int)/\(0:Int)<=9007199254740991:=⟨by decide,by decide⟩
theorem z6:(0:Int)=0/\false=false/\false=false/\(0:Int)=0/\(0:Int)=0/\(0:Int)=0:=⟨rfl,rfl,rfl,rfl,rfl,rfl⟩
theorem nw0:BZ (0,0):=.inl ⟨rfl,by decide,by decide⟩
theorem qf {q:wc}(kk:Int) (hk:Eq (α:=Int) (q.1) (kk)) (k:1<=kk/\kk<=14) (k':kk < 2\/6 < kk) (ln:LE.le (α:=Int) (0) (q.2.2.2.2.2.2.2.2.2.2.2)/\LE.le (α:=Int) (q.2.2.2.2.2.2.2.2.2.2.2) (9007199254740991)) (tx:(q.2.2.2.2.2.2.2.2.2.2.1).length<=4096) (nm:BZ q.2.2.2.2.2.2.2.2.2.1) (z:q.2.2.2.1=0/\q.2.2.2.2.2.1=false/\q.2.2.2.2.2.2.1=false/\q.2.2.2.2.2.2.2.1=0/\q.2.2.2.2.2.2.2.2.1=0/\q.2.2.2.2.1=0):wi q:=⟨by rw [hk];exact k,ln,tx,nm,fun _=>z,fun h=>by
 have h1:LE.le (α:=Int) (2) (q.1):=h.1;have h2:LE.le (α:=Int) (q.1) (6):=h.2
 omega⟩
theorem Cp {q:wc}(kk:Int) (hk:Eq (α:=Int) (q.1) (kk)) (k:2<=kk/\kk<=6) (ln:LE.le (α:=Int) (0) (q.2.2.2.2.2.2.2.2.2.2.2)/\LE.le (α:=Int) (q.2.2.2.2.2.2.2.2.2.2.2) (9007199254740991)) (tx:(q.2.2.2.2.2.2.2.2.2.2.1).length<=4096) (nm:BZ q.2.2.2.2.2.2.2.2.2.1) (z:(q.2.2.2.1=1\/q.2.2.2.1=2\/q.2.2.2.1=4\/q.2.2.2.1=8)/\(q.2.2.2.1=8\/(q.2.2.2.2.2.2.2.1 < 2^(8*q.2.2.2.1).toNat/\q.2.2.2.2.2.2.2.2.1 < 2^(8*q.2.2.2.1).toNat))/\0<=q.2.2.1/\(q.2.2.2.2.2.1=true->q.2.2.2.2.2.2.1=true)) (o:(kk=4->LT.lt (α:=Int) (0) (q.2.2.2.2.1)/\LE.le (α:=Int) (q.2.2.2.2.1) (6))/\(kk≠4->Eq (α:=Int) (q.2.2.2.2.1) (0))):wi q:=by
 refine ⟨?_,ln,tx,nm,fun h=>?_,fun _=>⟨z.1,z.2.1,z.2.2.1,z.2.2.2,fun e=>o.1 (hk.symm.trans e),fun e=>o.2 fun g=>e (hk.trans g)⟩⟩
 ·rw [hk];exact (⟨by omega,by omega⟩:(1:Int)<=kk/\kk<=14)
 ·have h:LT.lt (α:=Int) (q.1) (2)\/LT.lt (α:=Int) (6) (q.1):=h;omega
theorem pw (z:Int):(0:Int) < 2^(8*z).toNat:=Int.pow_pos (by decide)
theorem DA {v:eY}:(R.cC v).sat fun r=>cJ r.1:=by
 unfold R.cC;exact aA fun _=>q_p fun r _=>aA fun _=>bL (fun _=>q_b fun _=>aA fun _=>aB qn fun _ h=>aA fun _=>aD (vk h)) fun _=>q_b fun _=>aA fun _=>cE (fun _=>aD bz) fun _=>aB nY fun _ h=>aA fun _=>aD (vk h)
theorem Ii {o:List UInt8}{v:eY}:(R.jT o v).sat fun r=>cJ r.1:=by
 unfold R.jT;exact aA fun _=>aH (fun _=>q_b fun _=>aB lE fun _ h=>aA fun _=>aD (vk h)) fun _=>aH (fun _=>aD bz) fun _=>aH (fun _=>q_b fun _=>aA fun _=>cE (fun _=>aD bz) fun _=>aB nY fun _ h=>aA fun _=>aD (vk h)) fun _=>aB (dw0:Safe _).ok fun _ _=>aH (fun _=>q_b fun _=>aA fun _=>cE (fun _=>aD bz) fun _=>aB (dw0:Safe _).ok fun _ _=>aH (fun _=>q_b fun _=>aA fun _=>aB qn fun _ h=>aA fun _=>aD (vk h)) fun _=>aH (fun _=>q_b fun _=>aA fun _=>aB nY fun _ h=>aA fun _=>aD (vk h)) fun _=>bL (fun _=>aD bz) fun _=>q_b fun _=>aA fun _=>aB nY fun _ h=>aA fun _=>aD (vk h)) fun _=>aD bz
theorem tL {a:az.den}{b:Bool}:(R.fE a b).sat fun r=>cJ r.1:=by
 unfold R.fE;exact aA fun _=>eD (aH (fun _=>aB qn fun _ h=>aA fun _=>aD (vk h)) fun _=>aD bz)
theorem sD {a:aI.den}{b:Bool}:(R.cg a b).sat fun r=>cJ r.1:=by
 unfold R.cg;exact aA fun _=>eD (aH (fun _=>aB nY fun _ h=>aA fun _=>aD (vk h)) fun _=>aD bz)
theorem step_t {v:eY}{n:Int}:(R.kR v n).sat fun r=>cJ r.1:=by
 unfold R.kR;exact aA fun _=>q_b fun _=>aA fun _=>cE (fun _=>aD bz) fun _=>aB (dw0:Safe _).ok fun _ _=>aH (fun _=>aD bz) fun _=>bL (fun _=>q_b fun _=>aA fun _=>q_b fun _=>aA fun _=>af tL) fun _=>q_b fun _=>aA fun _=>af sD
theorem join_t {a b:eY}:(R.kT a b).sat fun r=>cJ r.1:=by
 unfold R.kT;exact aA fun _=>q_p fun r hr=>aA fun _=>cE (fun _=>aD bz) fun _=>q_p fun r' hr'=>aA fun _=>cE (fun _=>aD bz) fun _=>fZ (fun _=>aD bz) fun _=>n_d (by omega) (aB my fun _ h=>aA fun _=>aD h.1)
theorem bigs_t {o:List UInt8}{a b:az.den}:(R.kI o a b).sat fun r=>cJ r.1:=by
 unfold R.kI;exact aA fun _=>aH (fun _=>q_b fun _=>aA fun _=>af tL) fun _=>aH (fun _=>q_b fun _=>aA fun _=>af tL) fun _=>aH (fun _=>q_b fun _=>aA fun _=>af tL) fun _=>q_b fun _=>aA fun _=>aB (R:=fun _=>True) (aH (fun _=>q_b fun _=>aA fun _=>aD trivial) fun _=>aD trivial) fun _ _=>cE (fun _=>aD bz) fun _=>aB qn fun _ h=>aA fun _=>aD (vk h)
theorem GZ {o:List UInt8}{a b:eY}:(R.ja o a b).sat fun r=>cJ r.1:=by
 unfold R.ja;exact aA fun _=>q_b fun _=>aA fun _=>cE (fun _=>aD bz) fun _=>bL (fun _=>af bigs_t) fun _=>aH (fun _=>q_b fun _=>aA fun _=>af sD) fun _=>aH (fun _=>q_b fun _=>aA fun _=>af sD) fun _=>aH (fun _=>q_b fun _=>aA fun _=>af sD) fun _=>aH (fun _=>q_b fun _=>aA fun _=>af sD) fun _=>q_b fun _=>aA fun _=>af sD
theorem bits_t {o:List UInt8}{a b:eY}:(R.kM o a b).sat fun r=>cJ r.1:=by
 unfold R.kM;exact aA fun _=>q_b fun _=>aA fun _=>cE (fun _=>aD bz) fun _=>aB (dw0:Safe _).ok fun _ _=>aH (fun _=>aD bz) fun _=>bL (fun _=>aD bz) fun _=>aB (dw0:Safe _).ok fun _ _=>q_b fun _=>aA fun _=>aB nY fun _ h=>aA fun _=>aD (vk h)
theorem yl {a b:eY}{t n:Bool}:(R.gz a b t n).sat fun r=>cJ r.1:=by
 unfold R.gz;exact aA fun _=>aB (dw0:Safe _).ok fun _ _=>aH (fun _=>aD bz) fun _=>aB (dw0:Safe _).ok fun _ _=>aH (fun _=>aB (dw0:Safe _).ok fun _ _=>q_b fun _=>aB lE fun _ h=>aA fun _=>aD (vk h)) fun _=>aB (dw0:Safe _).ok fun _ _=>aH (fun _=>aD bz) fun _=>q_b fun _=>aA fun _=>cE (fun _=>aD bz) fun _=>q_b fun _=>aA fun _=>cE (fun _=>aD bz) fun _=>aB (dw0:Safe _).ok fun _ _=>q_b fun _=>aA fun _=>aH (fun _=>aB lE fun _ h=>aA fun _=>aD (vk h)) fun _=>aB lE fun _ h=>aA fun _=>aD (vk h)
theorem zz {o:List UInt8}{a b:eY}:(R.gT o a b).sat fun r=>cJ r.1:=by
 unfold R.gT;exact aA fun _=>q_p fun _ _=>aA fun _=>q_p fun _ _=>aA fun _=>aH (fun _=>aB (dw0:Safe _).ok fun _ _=>aH (fun _=>af join_t) fun _=>af GZ) fun _=>aB (dw0:Safe _).ok fun _ _=>aH (fun _=>af GZ) fun _=>aB (dw0:Safe _).ok fun _ _=>aH (fun _=>af bits_t) fun _=>aH (fun _=>af yl) fun _=>aH (fun _=>af yl) fun _=>aH (fun _=>af yl) fun _=>aH (fun _=>af yl) fun _=>aH (fun _=>q_b fun _=>aB lE fun _ h=>aA fun _=>aD (vk h)) fun _=>aH (fun _=>q_b fun _=>aB lE fun _ h=>aA fun _=>aD (vk h)) fun _=>aB (dw0:Safe _).ok fun _ _=>aH (fun _=>q_b fun _=>aA fun _=>cE (fun _=>aD bz) fun _=>aB lE fun _ h=>aA fun _=>aD (vk h)) fun _=>aD bz
instance Ig {v}:Safe (R.jB v):=by unfold R.jB;exact dw0
instance DE {z}:Safe (R.cf z):=by unfold R.cf;exact dw0
instance EZ {n}:Safe (R.gV n):=by unfold R.gV;exact dw0
theorem CG {n:List UInt8}:(R.gr n).sat fun r=>0 < r/\r<=6:=by
 unfold R.gr;refine aA fun _=>aH (fun _=>aD ?_) fun _=>aH (fun _=>aD ?_) fun _=>aH (fun _=>aD ?_) fun _=>aH (fun _=>aD ?_) fun _=>aH (fun _=>aD ?_) fun _=>aD ?_
 all_goals decide
section
variable {N:List gN}{B:Nat}{h:qS}
theorem IB (hh:jW N B h) (hB:B<=2^39){i:Int}{n:List Int}{v:eY}{c:kA}(h0:0<=i) (hc:h.2[i.toNat]?=some c) (hlt:c.2.2.1.length < B) (hv:cJ v):(R.bU h i n v).sat fun r=>jW N B r.2/\nc h.2 r.2.2/\∃ d,r.2.2[i.toNat]?=some d/\d.2.2.1.length<=c.2.2.1.length+1:=by
 unfold R.bU;have hi:=(List.getElem?_eq_some_iff.1 hc).1;refine aA fun _=>kK (fun c' _ _=>ik rfl (kg h0 hc ?_)) fun hn=>absurd ⟨h0,hi⟩ hn;have hl:=(hh.cl _ c hc).2;have hp:=hl.pn;have hs:h.2.set i.toNat c=h.2:=oF hc;rw [hs];refine aB (wD (h:=(h.1,h.2)) h0 hc (by omega)) fun r ⟨r0,r1⟩=>aA fun _=>lg (fun hr=>bI (by simp) (ae oW (aA fun _=>bI (by simp [ile,ilt];omega) (bu (by omega) (by omega) fun p _ _=>aD ⟨?_,?_,_,List.getElem?_set_self hi,?_⟩)))) fun hr=>bI (by simp) (pX (aA fun _=>ae oW (aA fun _=>bI (decide_eq_true (by simp;omega)) (bI (by simp) (aD ⟨?_,?_,_,List.getElem?_set_self hi,?_⟩)))))
 ·exact hh.set hc ⟨rfl,rfl,rfl,rfl,rfl,rfl,rfl⟩ (hl.props (Nat.le_refl B) (by show (c.2.2.1.set _ _).length<=_;rw [List.length_set];omega) (rK hl.pv hv) rfl)
 ·exact .set hc ⟨rfl,rfl,rfl,rfl,rfl,rfl,rfl⟩
 ·show (c.2.2.1.set _ _).length<=_;rw [List.length_set];omega
 ·exact hh.set hc ⟨rfl,rfl,rfl,rfl,rfl,rfl,rfl⟩ (hl.props (Nat.le_refl B) (by show (c.2.2.1++[_]).length<=_;simp;omega) (rP hl.pv hv) rfl)
 ·exact .set hc ⟨rfl,rfl,rfl,rfl,rfl,rfl,rfl⟩
 ·show (c.2.2.1++[_]).length<=_;simp
end
section
variable {C:Cx}{m b:Int}{s:RunT}{l:List eY}{x y v t:eY}
theorem IH {B:Nat}(h:iS C m s) (h1:jW C.N B s.2.2.2.2.1) (h2:B<=2^39) (h3:(B:Int)+134217728*((HSub.hSub (α:=Int) (β:=Int) (γ:=Int) (C.F) (s.2.2.2.2.2.2.1)))<=m){c:kA}(hc:pJ C.N s.2.2.2.2.1.2 c) (hv:sO B c):(R.aT s c).sat fun r=>dN C m s.2.2.2.2.2.2.1 s r/\(r.1.2=0->jW C.N B r.2.2.2.2.2.1/\Eq (α:=Int) (r.2.2.2.2.2.2.2.1) (s.2.2.2.2.2.2.1)/\LE.le (α:=Int) (0) (r.1.1.2.2.2.2)/\r.2.2.2.2.2.1.2[r.1.1.2.2.2.2.toNat]?=some c):=by
 unfold R.aT
 refine aA fun _=>aB (Ce h1 h2 hc hv) fun r ⟨r1,r2,r3⟩=>aA fun _=>eD (aH (fun hr=>aD ⟨⟨.of (show (6:Int)≠5 by decide),.inr ⟨show (0:Int)≠5 by decide,h.put r1 h3,r2,rfl,Int.le_refl _⟩⟩,fun _=>⟨r1,rfl,r3 hr⟩⟩) fun _=>ae qH (aA fun _=>aD ⟨⟨bz,.inl ⟨rfl,h.halt (by decide)⟩⟩,fun e=>absurd (show (5:Int)=0 from e) (by decide)⟩))
theorem Ba (hc:jz C) (h:iS C m s) (hm:m<=2^39) (hl:∀ v∈l,cJ v):(R.dA s l).sat (dN C m s.2.2.2.2.2.2.1 s):=by
 unfold R.dA;refine aA fun _=>aB (lK hl (by decide)) fun _ _=>aA fun _=>aB nT fun n ⟨n0,n1⟩=>aA fun _=>cE (fun _=>af (iO h hm)) fun _=>aB (lK hl (by decide)) fun _ _=>aA fun _=>cE (fun _=>af (gU h)) fun _=>aB (rS h hc.A (qf 1 rfl (by decide) (by decide) ⟨n0,n1⟩ (Nat.zero_le _) nw0 z6)) fun r ⟨g,_⟩=>aA fun _=>cE (fun _=>aD ⟨bz,g⟩) fun e=>?_;have a:=g.a0 e;exact cE (fun _=>af (bH (iO a.run hm) fun _ hr=>hr.cat a)) fun _=>af (bH (o7 a.run hm (.sh1 rfl ⟨n0,n1⟩) rfl rfl bz) fun _ hr=>hr.cat a)
theorem D7 (h:iS C m s) (hm:m<=2^39):(R.dZ s x y).sat (dN C m s.2.2.2.2.2.2.1 s):=by
 unfold R.dZ;exact aA fun _=>aB (R:=pe C m s.2.2.2.2.2.2.1 s fun _:Int=>True) (aB (R:=fun _=>True) (bL (fun _=>aB nU fun _ _=>aA fun _=>aD trivial) fun _=>aD trivial) fun _ _=>aH (fun _=>oa (gU h)) fun _=>bL (fun _=>aD trivial) fun _=>ob (fun _=>oa (iO h hm)) fun _=>aD trivial) fun r hr=>oE hr fun _ _=>cE (fun _=>af (gU h)) fun _=>af (o7 h hm (.mk' 1 rfl (by decide)) rfl rfl bz)
theorem G7 (h:iS C m s) (hm:m+20000<=2^39) (hn:l.length<=20000) (hl:∀ v∈l,cJ v):(R.ev s t l).sat (dN C (m+20000) s.2.2.2.2.2.2.1 s):=by
 unfold R.ev;refine aA fun _=>aB (R:=fun _=>True) (ob (fun _=>aD trivial) fun _=>aB nU fun _ _=>aA fun _=>aD trivial) fun _ _=>aH (fun _=>af (gU h |> fun g=>bH g fun _ hr=>dN.up (m:=m) hr (by omega))) fun _=>aB (iC (Q:=fun H:qS=>Aft C (m+20000) s.2.2.2.2.2.2.1 s (s.1,(s.2.1,(s.2.2.1,(s.2.2.2.1,(H,s.2.2.2.2.2)))))) (fun y=>y.1) l.length (by omega) (fun w=>Aft C (m+w.1) s.2.2.2.2.2.2.1 s (s.1,(s.2.1,(s.2.2.1,(s.2.2.2.1,(w.2,s.2.2.2.2.2)))))) (by simp) (by simp) (by show Aft C (m+0) _ _ _;rw [Int.add_zero];exact Aft.refl h) fun w w0 w1 wI=>?_) fun H hH=>aB o9 fun _ _=>aA fun _=>aB lx fun _ hv=>aA fun _=>aD ⟨hv,.ok hH⟩;obtain ⟨j,H⟩:=w;have w0:0<=j:=w0;have w1:j<=(l.length:Int):=w1;have wI:Aft C (m+j) s.2.2.2.2.2.2.1 s (s.1,(s.2.1,(s.2.2.1,(s.2.2.2.1,(H,s.2.2.2.2.2))))):=wI;refine fZ (fun hj=>?_) fun _=>aD (wI.up (by omega));have hj:j < (l.length:Int):=hj;refine bN w0 (by show _ < l.length;omega) fun v hv _=>aB o9 fun _ _=>aA fun _=>q_b fun _=>aA fun _=>aB (tg wI.run (by omega) (hl v (List.mem_of_getElem? hv))) fun r hr=>aA fun _=>aD ⟨rfl,hj,?_⟩;show Aft C (m+w6 (j+1)) _ _ _;rw [wrap64 (n:=j+1) (by omega),<- Int.add_assoc];exact wI.cat hr
theorem FY (h:iS C m s) (hm:m<=2^39):(R.ep s x).sat (dN C m s.2.2.2.2.2.2.1 s):=by
 unfold R.ep;obtain ⟨B,g1,g2,g3⟩:=h.heap hm;refine aA fun _=>q_b fun _=>aH (fun _=>af (iO h hm)) fun _=>aB (R:=fun r:Int=>r≠0->0<=x.2.2.2.2/\∃ c,s.2.2.2.2.1.2[x.2.2.2.2.toNat]?=some c) (bL (fun _=>aB nU fun r hr=>aA fun _=>aD fun hne=>?_) fun _=>aD fun e=>absurd rfl e) fun kd hkd=>aB (R:=pe C m s.2.2.2.2.2.2.1 s fun l:List (List Int)=>l.length<=B) (bL (fun e1=>?_) fun _=>bL (fun e2=>?_) fun _=>oa (gU h)) fun r hr=>oE hr fun l hl=>?_
 ·rcases hr with ⟨h0,_⟩|⟨i0,c,hc,_⟩
  ·exact absurd h0 hne
  ·exact ⟨i0,c,hc⟩
 ·obtain ⟨i0,c,hc⟩:=hkd (jg e1 (by decide));have hp:=(g1.cl _ c hc).2.pn;exact aB (F0 i0 hc (by omega)) fun l hl=>aA fun _=>aD (by show l.length<=B;omega)
 ·refine aB o9 fun q hq=>aA fun _=>?_
  have hqB:LE.le (α:=Int) (0) (q)/\LE.le (α:=Int) (q) ((B:Int)):=by
   rcases hq with hq|⟨c,i0,hc,hq⟩
   ·rw [hq];omega
   ·have hp:=(g1.cl _ c hc).2.pn;rw [hq];omega
  obtain ⟨q',hq'⟩:∃ q':Int,q'=q:=⟨_,rfl⟩;have hqB':0<=q'/\q'<=(B:Int):=hq'▸hqB;refine aB (iC (Q:=fun l:List (List Int)=>l.length<=B) (fun y=>y.2) q'.toNat (by omega) (fun y=>y.1.length=y.2.toNat) (by simp) (by show (0:Int)<=(q'.toNat:Int);omega) (by simp) fun y y0 y1 yI=>?_) fun l hl=>aD hl;obtain ⟨l,j⟩:=y;have y0:0<=j:=y0;have y1:j<=(q'.toNat:Int):=y1;have yI:l.length=j.toNat:=yI;refine fZ (fun hj=>?_) fun _=>aD (by show l.length<=B;omega)
  have hj:j < q':=by rw [hq'];exact hj
  refine q_b fun u=>aA fun _=>bI (decide_eq_true ?_) (aD ⟨rfl,?_,?_⟩)
  ·show (l.length+1)*24<=2^47;omega
  ·show j < (q'.toNat:Int);omega
  ·show (l++[u]).length=(w6 (j+1)).toNat;rw [wrap64 (by omega),List.length_append];simp;omega
 ·refine aB (IH h g1 g2 g3 (.mk' 2 rfl (by decide)) (FE rfl rfl bz)) fun r2 ⟨h2,h3⟩=>aA fun _=>cE (fun _=>aD h2) fun e2=>?_;obtain ⟨k1,k2,k3,k4⟩:=h3 e2;have a2:=h2.2.a0 e2;refine aB (iC (Q:=fun H:qS=>jW C.N B H/\nc r2.2.2.2.2.2.1.2 H.2) (fun y=>y.1) l.length (by have hl:l.length<=B:=hl;omega) (fun y=>jW C.N B y.2/\nc r2.2.2.2.2.2.1.2 y.2.2/\∃ c,y.2.2[r2.1.1.2.2.2.2.toNat]?=some c/\c.2.2.1.length<=y.1.toNat) (by simp) (by simp) ⟨k1,.refl _,_,k4,Nat.zero_le _⟩ fun y y0 y1 yI=>?_) fun H ⟨hH1,hH2⟩=>aD ⟨h2.1,.ok (a2.cat ⟨a2.run.put hH1 (by rw [k2];exact g3),hH2,rfl,Int.le_refl _⟩)⟩;obtain ⟨j,H⟩:=y;have y0:0<=j:=y0;have y1:j<=(l.length:Int):=y1;obtain ⟨i1,i2,c,i3,i4⟩:=yI;have i1:jW C.N B H:=i1;have i2:nc r2.2.2.2.2.2.1.2 H.2:=i2;have i3:H.2[r2.1.1.2.2.2.2.toNat]?=some c:=i3;have i4:c.2.2.1.length<=j.toNat:=i4;refine fZ (fun hj=>?_) fun _=>aD ⟨i1,i2⟩;have hj:j < (l.length:Int):=hj;have hl:l.length<=B:=hl;refine gL (iM y0 (nr hj (bu (by omega) (by show ((0:Int)+(Int.toNat j:Int)).toNat < l.length;omega) fun u _ _=>q_b fun _=>aA fun _=>aB my fun w hw=>aA fun _=>aB (IB i1 g2 k3 i3 (by omega) hw.1) fun r3 ⟨q1,q2,d,q3,q4⟩=>aA fun _=>aD ⟨rfl,hj,q1,i2.trans q2,d,q3,?_⟩)));show d.2.2.1.length<=(w6 (j+1)).toNat;rw [wrap64 (by omega)];omega
theorem zM (h:iS C m s) (hm:m<=2^39){n:Int}:(R.cr s x n).sat (dN C m s.2.2.2.2.2.2.1 s):=by
 unfold R.cr;exact aA fun _=>bL (fun _=>aB lx fun _ hv=>aA fun _=>aD (mg h hv)) fun _=>bL (fun _=>q_p fun _ _=>aA fun _=>q_b fun _=>aA fun _=>eD (aH (fun _=>aB nY fun _ hv=>aA fun _=>aD (mg h (vk hv))) fun _=>af (gU h))) fun _=>q_b fun _=>aA fun _=>aB nY fun _ hv=>aA fun _=>af (qF h hm (vk hv))
theorem D0 (h:iS C m s) (hm:m<=2^39):(R.dX s x).sat (dN C m s.2.2.2.2.2.2.1 s):=by
 unfold R.dX;exact aA fun _=>bL (fun _=>q_b fun _=>aA fun _=>aB (dw0:Safe _).ok fun _ _=>aH (fun _=>q_b fun _=>aA fun _=>aB qn fun _ hv=>aA fun _=>aD (mg h (vk hv))) fun _=>af (iO h hm)) fun _=>q_b fun _=>aA fun _=>aB qn fun _ hv=>aA fun _=>af (qF h hm (vk hv))
theorem Bt (h:iS C m s) (hm:m<=2^39){n:List UInt8}(hn:n.length<=4096):(R.dB s n x).sat (dN C m s.2.2.2.2.2.2.1 s):=by
 unfold R.dB;exact aA fun _=>aB my fun w hw=>aA fun _=>aB (R:=pe C m s.2.2.2.2.2.2.1 s cJ) (cE (fun _=>q_p fun _ _=>aA fun _=>cE (fun _=>oa (iO h hm)) fun _=>aB my fun w hw=>aA fun _=>aD hw.1) fun _=>aD hw.1) fun r hr=>oE hr fun w hw=>af (o7 h hm (.mk' 10 rfl (by decide)) rfl rfl hw hn)
theorem Hd:(R.ey s v).sat fun r=>r.length<=100:=by
 unfold R.ey;exact aA fun _=>bL (fun _=>aD (by decide)) fun _=>bL (fun _=>aD (by decide)) fun _=>bL (fun _=>aD (by decide)) fun _=>bL (fun _=>aD (by decide)) fun _=>bL (fun _=>aD (by decide)) fun _=>bL (fun _=>aB (R:=fun _=>True) (aB nU fun _ _=>aA fun _=>bL (fun _=>aD trivial) fun _=>aB tT fun _ _=>aA fun _=>aB uH fun _ _=>aD trivial) fun _ _=>aH (fun _=>aD (by decide)) fun _=>aD (by decide)) fun _=>aD (by decide)
end
end Go.Mach

set_option maxRecDepth 100000
namespace Go.Mach
open Res
theorem uD {x:Int}(h:0<=x/\x < 18446744073709551616):IntKind.wrap .u64 x=x:=by
 simp [w6,IntKind.wrap,IntKind.signed,IntKind.bits];omega
theorem or_lt {a b:Int}{k:Nat}(hk:k<=64) (ha:0<=a/\a < 2^k) (hb:0<=b/\b < 2^k):0<=gD .or .u64 a b/\gD .or .u64 a b < 2^k:=by
 obtain ⟨x,rfl⟩:=Int.eq_ofNat_of_zero_le ha.1;obtain ⟨y,rfl⟩:=Int.eq_ofNat_of_zero_le hb.1
 have hx:x < 2^k:=by exact_mod_cast ha.2
 have hy:y < 2^k:=by exact_mod_cast hb.2
 have h64:(2:Nat)^k<=2^64:=Nat.pow_le_pow_right (by decide) hk
 have h1:(BitVec.ofInt 64 (x:Int) ||| BitVec.ofInt 64 (y:Int)).toNat=x ||| y:=by
  rw [BitVec.toNat_or,BitVec.toNat_ofInt,BitVec.toNat_ofInt];rw [show ((x:Int) % ((2^64:Nat):Int)).toNat=x by omega,show ((y:Int) % ((2^64:Nat):Int)).toNat=y by omega]
 have h2:x ||| y < 2^k:=Nat.or_lt_two_pow hx hy;show 0<=IntKind.wrap .u64 (((BitVec.ofInt 64 (x:Int) ||| BitVec.ofInt 64 (y:Int)).toNat:Nat):Int)/\IntKind.wrap .u64 (((BitVec.ofInt 64 (x:Int) ||| BitVec.ofInt 64 (y:Int)).toNat:Nat):Int) < 2^k;rw [h1,uD ⟨by omega,by omega⟩];exact ⟨by omega,by exact_mod_cast h2⟩
theorem CQ {k:Nat}(h:k<=64):(2:Int)^k<=18446744073709551616:=by
 have h1:((2^k:Nat):Int)<=((18446744073709551616:Nat):Int):=Int.ofNat_le.2 (Nat.le_trans (Nat.pow_le_pow_right (by decide) h) (by decide));rw [Int.natCast_pow] at h1;exact h1
theorem Hf {e:Int}{q:Nat}(he:0<=e/\e < 256) (hq:q < 8):pI .u64 (IntKind.wrap .u64 e) (8*(q:Int))=e*2^(8*q)/\0<=e*2^(8*q)/\e*2^(8*q) < 2^(8*(q+1)):=by
 have hp:(0:Int) < 2^(8*q):=Int.pow_pos (by decide)
 have hp8:(2:Int)^(8*(q+1))=2^(8*q)*256:=by rw [show 8*(q+1)=8*q+8 by omega,Int.pow_add];rfl
 have hp64:(2:Int)^(8*(q+1))<=18446744073709551616:=CQ (by omega);have hm:e*2^(8*q)<=255*2^(8*q):=Int.mul_le_mul_of_nonneg_right (by omega) (by omega);have h0:0<=e*2^(8*q):=Int.mul_nonneg he.1 (by omega)
 have hlt:e*2^(8*q) < 2^(8*(q+1)):=by omega
 refine ⟨?_,h0,hlt⟩;unfold pI;rw [uD (x:=e) ⟨he.1,by omega⟩,show min (8*(q:Int)).toNat (IntKind.bits .u64)=8*q by show min (8*(q:Int)).toNat 64=_;omega];exact uD ⟨h0,by omega⟩
theorem Fh {e:Int}(h:(Sh.y).ok e=true):0<=e/\e < 256:=by
 simp [Sh.ok,Ty.ok,fG,w6,IntKind.wrap,IntKind.signed,IntKind.bits] at h;omega
theorem AL {z:Int}(hz:z=1\/z=2\/z=4\/z=8):(R.cf z).sat fun k=>ElI k z:=by
 rcases hz with rfl|rfl|rfl|rfl
 ·exact bH (qo (P:=fun r=>decide (r=2)) (by kernel_rfl)) fun r hr=>by rw [of_decide_eq_true hr];exact .k2
 ·exact bH (qo (P:=fun r=>decide (r=4)) (by kernel_rfl)) fun r hr=>by rw [of_decide_eq_true hr];exact .k4
 ·exact bH (qo (P:=fun r=>decide (r=6)) (by kernel_rfl)) fun r hr=>by rw [of_decide_eq_true hr];exact .k6
 ·exact bH (qo (P:=fun r=>decide (r=8)) (by kernel_rfl)) fun r hr=>by rw [of_decide_eq_true hr];exact .k8
theorem Ej {k z:Int}(h:ElI k z){bs:List Int}:(R.gp k bs).sat fun r=>tV z r.1:=by
 unfold R.gp;have hz:=h.pos;refine aA fun _=>aB (R:=fun b=>b=false->(bs.length:Int)=z) (ae (ma h) (aA fun _=>bL (fun _=>aD fun e=>by cases e) fun _=>ae (ma h) (aA fun _=>aD fun e=>?_))) fun b hb=>aH (fun _=>aD (.zero z)) fun eb=>?_
 ·exact eq_of_beq (by cases hq:((bs.length:Int) == z)<;>simp_all)
 have hl:=hb eb;refine aB (iC (Q:=fun w:Int=>0<=w/\w < 2^(8*bs.length)) (fun y=>y.2) bs.length (by omega) (fun y=>0<=y.1/\y.1 < 2^(8*y.2.toNat)) (by simp) (by simp) (by simp) fun y y0 y1 yI=>?_) fun w ⟨w0,w1⟩=>aD ⟨w0,?_,?_⟩
 ·obtain ⟨w,j⟩:=y;have y0:0<=j:=y0;have y1:j<=(bs.length:Int):=y1;obtain ⟨i0,i1⟩:=yI;have i0:0<=w:=i0;have i1:w < 2^(8*j.toNat):=i1;refine fZ (fun hj=>?_) fun hj=>aD ⟨i0,?_⟩
  ·have hj:j < (bs.length:Int):=hj;have e8:w6 (8*j)=8*j:=wrap64 (by omega);refine bN y0 (by show _ < bs.length;omega) fun e _ he=>iM (by rw [e8];omega) (aD ⟨rfl,hj,?_⟩);have hb:=Fh he;obtain ⟨q,rfl⟩:=Int.eq_ofNat_of_zero_le y0;obtain ⟨es,h0,h1⟩:=Hf hb (q:=q) (by omega);show 0<=gD .or .u64 w (pI .u64 (IntKind.wrap .u64 e) (w6 (8*(q:Int))))/\gD .or .u64 w (pI .u64 (IntKind.wrap .u64 e) (w6 (8*(q:Int)))) < 2^(8*(w6 ((q:Int)+1)).toNat)
   have hmono:(2:Int)^(8*(q+1))=2^(8*q)*256:=by rw [show 8*(q+1)=8*q+8 by omega,Int.pow_add];rfl
   have hp:(0:Int) < 2^(8*q):=Int.pow_pos (by decide);have i1:w < 2^(8*q):=i1;rw [e8,es,wrap64 (n:=(q:Int)+1) (by omega),show ((q:Int)+1).toNat=q+1 by omega];exact or_lt (by omega) ⟨i0,by omega⟩ ⟨h0,h1⟩
  ·have hj:(bs.length:Int)<=j:=hj;show w < 2^(8*bs.length);rw [show bs.length=j.toNat by omega];exact i1
 ·show w < 18446744073709551616;have h3:(2:Int)^(8*bs.length)<=18446744073709551616:=CQ (by omega);omega
 ·right;show w < 2^(8*z).toNat;rw [show (8*z).toNat=8*bs.length by omega];exact w1
theorem xV {k z w:Int}(h:ElI k z):(R.gm z w).sat (tV z):=by
 unfold R.gm;exact aA fun _=>q_b fun _=>aA fun _=>q_p fun _ _=>aA fun _=>q_b fun _=>aA fun _=>aB (AL h.pos.2.2) fun k hk=>aA fun _=>aB (Ej hk) fun r hr=>aA fun _=>aD hr
section
variable {C:Cx}{m b:Int}{s:RunT}{c:PkT}{a z w n:Int}{l:List eY}{x y v:eY}{u:List Int}{nm:List UInt8}
theorem vI (hc:jz C) (h:iS C m s) (hz:z=1\/z=2\/z=4\/z=8) (a0:0<=a) (am:a+z<=9007199254740991) (hb:qY s.2.2.2.2.1.2 c.2.2.2.2.2.2.2.2.2.1 (a+z)){sq nt:Bool}(hq:sq=true->nt=true):(R.cB s c a z sq nt).sat fun r=>Pst C m s.2.2.2.2.2.2.1 s r.1.2 r.2/\(∀ d,s.2.2.2.2.1.2[(c.2.2.2.2.2.2.2.2.2.1).toNat]?=some d->Eq (α:=Int) (d.1) (5)->Eq (α:=Int) (r.1.2) (0)):=by
 unfold R.cB;obtain ⟨b0,d,hd,hk⟩:=hb;have ew:w6 (a+z)=a+z:=wrap64 (by omega);have hs:List.set s.2.2.2.2.1.2 (c.2.2.2.2.2.2.2.2.2.1).toNat d=s.2.2.2.2.1.2:=oF hd;refine aA fun _=>kK (fun c' _ hc'=>ik rfl (kg b0 hd (bI (beq_self_eq_true _) ?_))) fun hn=>absurd ⟨b0,(List.getElem?_eq_some_iff.1 hd).1⟩ hn;rw [hs];refine bL (fun e5=>?_) fun e5=>?_
 ·have hl:a+z<=((d.2.2.2.2.2.2.2.2.2.2.2.2).length:Int):=by
   rcases hk with ⟨_,g⟩|⟨e6,_⟩
   ·exact g
   ·exact absurd (e5.symm.trans e6) (by decide)
  exact q_b fun _=>aA fun _=>gL (iM a0 (gL (iM (by rw [ew];omega) (iM (by rw [ew];exact hl) (q_b fun _=>aA fun _=>aD ⟨.ret h,fun _ _ _=>rfl⟩)))))
 ·refine aB (rS h hc.A (Cp 2 rfl (by decide) l0 (Nat.zero_le _) nw0 ⟨hz,.inr ⟨pw z,pw z⟩,a0,hq⟩ ⟨fun e=>absurd e (by decide),fun _=>rfl⟩)) fun r ⟨g,_⟩=>aA fun _=>aD ⟨g,fun d' hd' e5'=>?_⟩;have:some d=some d':=hd.symm.trans hd';cases this;exact absurd e5' e5
theorem td (hc:jz C) (h:iS C m s) (hm:m<=2^39) (hz:z=1\/z=2\/z=4\/z=8) (a0:0<=a) (hb:qY s.2.2.2.2.1.2 c.2.2.2.2.2.2.2.2.2.1 (a+z)){sq nt:Bool}(hq:sq=true->nt=true) (hw:∀ d,s.2.2.2.2.1.2[(c.2.2.2.2.2.2.2.2.2.1).toNat]?=some d->Eq (α:=Int) (d.1) (6)->tV z w):(R.bo s c a z w sq nt).sat fun r=>Pst C m s.2.2.2.2.2.2.1 s r.1 r.2/\(∀ d,s.2.2.2.2.1.2[(c.2.2.2.2.2.2.2.2.2.1).toNat]?=some d->Eq (α:=Int) (d.1) (5)->Eq (α:=Int) (r.1) (0)):=by
 unfold R.bo;obtain ⟨b0,d,hd,hk⟩:=hb;obtain ⟨B,g1,g2,g3⟩:=h.heap hm;refine aA fun _=>aB (oV g1) fun r hr=>aA fun _=>?_;obtain ⟨t1,t2⟩:=hr.cl d b0 hd;refine bL (fun e5=>?_) fun e5=>?_
 ·have hl:=(g1.cl _ d hd).1.bf (t2.symm.trans e5);refine q_b fun _=>aA fun _=>q_p fun bs hbs=>aA fun _=>aB (F3 g1 g2 hbs fun d' hd'=>?_) fun r2 ⟨k1,k2⟩=>aA fun _=>aD ⟨.ok ⟨h.put k1 g3,k2,rfl,Int.le_refl _⟩,fun _ _ _=>rfl⟩;have:some d=some d':=hd.symm.trans hd';cases this;omega
 ·have e6:Eq (α:=Int) (d.1) (6):=by
   rcases hk with ⟨g,_⟩|⟨g,_⟩
   ·exact absurd (t2.trans g) e5
   ·exact g
  have hw:=hw d hd e6;refine aB (rS h hc.A (Cp 3 rfl (by decide) l0 (Nat.zero_le _) nw0 ⟨hz,hw.2.2.imp id fun g=>⟨g,pw z⟩,a0,hq⟩ ⟨fun e=>absurd e (by decide),fun _=>rfl⟩)) fun r ⟨g,_⟩=>aA fun _=>aD ⟨g,fun d' hd' e5'=>?_⟩;have:some d=some d':=hd.symm.trans hd';cases this;exact absurd (e5'.symm.trans e6) (by decide)
theorem qY.ext' {l l':List kA}(h:nc l l'){b n:Int}(hb:qY l b n):qY l' b n:=hb.ext h
theorem IQ (hc:jz C) (h:iS C m s) (ht:TyI s.2.2.2.2.1.2 c z) (n0:0<=n) (nl:LT.lt (α:=Int) (n) (c.2.2.2.2.2.2.2.2.2.2.2.1)):(R.cz s c n).sat (dN C m s.2.2.2.2.2.2.1 s):=by
 unfold R.cz;obtain ⟨m1,m2,m3⟩:=vc ht.el n0 nl ht.f0 ht.m;have hz:=ht.el.pos;have hm':=ht.m;refine aA fun _=>ae (ma ht.el) (aA fun _=>q_b fun bg=>?_);rw [m1];exact aB (vI hc h hz.2.2 m2 (by omega) (ht.bf.le m3) fun e=>by cases e) fun r ⟨g,_⟩=>aA fun _=>cE (fun _=>aD ⟨bz,g⟩) fun e=>aB ov fun _ hv=>aA fun _=>aD ⟨hv,.ok (g.a0 e)⟩
theorem Fb (hc:jz C) (h:iS C m s) (hm:m<=2^39) (ht:TyI s.2.2.2.2.1.2 c z) (n0:0<=n) (hv:cJ v):(R.fa s c n v).sat (dN C m s.2.2.2.2.2.2.1 s):=by
 unfold R.fa;have hz:=ht.el.pos;have hm':=ht.m;refine aA fun _=>aB (yy ht.el) fun r1 hw=>aA fun _=>cE (fun _=>af (iO h hm)) fun _=>fZ (fun nl=>?_) fun _=>aD (mg h hv);obtain ⟨m1,m2,m3⟩:=vc ht.el n0 nl ht.f0 ht.m;refine ae (ma ht.el) (aA fun _=>ae (ma ht.el) (aA fun _=>q_b fun bg=>?_));rw [m1];exact aB (td hc h hm hz.2.2 m2 (ht.bf.le m3) (fun e=>by cases e) fun _ _ _=>hw) fun r ⟨g,_⟩=>aA fun _=>cE (fun _=>aD ⟨bz,g⟩) fun e=>aD ⟨hv,.ok (g.a0 e)⟩
theorem xa (hc:jz C) (h:iS C m s) (hm:m<=2^39) (ht:TyI s.2.2.2.2.1.2 c z) (n0:0<=n) (nl:LT.lt (α:=Int) (n) (c.2.2.2.2.2.2.2.2.2.2.2.1)){k o w1 w2:Int}(hk:(k=4/\0 < o/\o<=6)\/(k=5/\o=0)) (h1:tV z w1) (h2:tV z w2):(R.cw s c n (k,(0,(0,(0,(o,(false,(false,(w1,(w2,((0,0),(([]:List Int),0)))))))))))).sat (dN C m s.2.2.2.2.2.2.1 s):=by
 unfold R.cw;obtain ⟨B,g1,g2,g3⟩:=h.heap hm;obtain ⟨m1,m2,m3⟩:=vc ht.el n0 nl ht.f0 ht.m;have hz:=ht.el.pos;have hm':=ht.m;have hbf:=ht.bf.le m3;have hbf':=hbf;obtain ⟨b0,d,hd,hkd⟩:=hbf';refine aA fun _=>ae (ma ht.el) (aA fun _=>aB (oV g1) fun r hr=>aA fun _=>?_);obtain ⟨t1,t2⟩:=hr.cl d b0 hd;rw [m1];refine ob (fun _=>?_) fun e5=>?_
 ·have hkk:2<=k/\k<=6:=by omega
  exact aB (rS h hc.A (Cp k rfl hkk l0 (Nat.zero_le _) nw0 ⟨hz.2.2,by
   rcases h1.2.2 with e|e1
   ·exact .inl e
   ·rcases h2.2.2 with e|e2
    ·exact .inl e
    ·exact .inr ⟨e1,e2⟩,m2,fun _=>rfl⟩ ⟨fun e=>by show 0 < o/\o<=6;omega,fun e=>by show o=0;omega⟩)) fun r ⟨g,_⟩=>aA fun _=>cE (fun _=>aD ⟨bz,g⟩) fun e=>aB ov fun _ hv=>aA fun _=>aD ⟨hv,.ok (g.a0 e)⟩
 ·have e5:Eq (α:=Int) (d.1) (5):=t2.symm.trans e5;refine aB (vI hc h hz.2.2 m2 (by omega) hbf fun _=>rfl) fun r5 ⟨g,g'⟩=>aA fun _=>q_b fun r6=>aA fun _=>aB (R:=fun _=>True) (bL (fun _=>bL (fun _=>aD trivial) fun _=>aD trivial) fun _=>aD trivial) fun w7 _=>?_;have a1:=g.a0 (g' d hd e5);obtain ⟨d2,hd2,hs⟩:=a1.ext _ d hd;refine aB (td hc a1.run hm hz.2.2 m2 (hbf.ext a1.ext) (fun _=>rfl) fun d' hd' e6=>?_) fun r8 ⟨g8,g8'⟩=>aA fun _=>aB ov fun _ hv=>aA fun _=>aD ⟨hv,.ok (a1.cat (g8.a0 (g8' d2 hd2 (hs.k.trans e5))))⟩;have:some d2=some d':=hd2.symm.trans hd';cases this;exact absurd ((hs.k.trans e5).symm.trans e6) (by decide)
theorem Hq (h:iS C m s){q:List Int}:(R.fA s u q).sat (dN C m s.2.2.2.2.2.2.1 s):=by
 unfold R.fA;refine aA fun _=>aB (dw (by decide)) fun _ _=>aA fun _=>q_b fun _=>aH (fun _=>aB lx fun _ hv=>aA fun _=>aD (mg h hv)) fun _=>aB yU fun k ⟨k0,k1⟩=>aA fun _=>eD (aH (fun _=>lg (fun _=>aD (mg h bz)) fun hk=>?_) fun _=>af (gU h));have hk:k.1 < (u.length:Int):=hk;have ew:w6 (k.1+1)=k.1+1:=wrap64 (by omega);exact gL (iM k0 (gL (iM (by rw [ew];omega) (iM (by rw [ew];omega) (aB my fun _ hv=>aA fun _=>aD (mg h hv.1))))))
theorem G8 (h:iS C m s) (hm:m<=2^39) (hn:nm.length<=2^46){b:Bool}:(R.eu s n nm u b).sat (dN C m s.2.2.2.2.2.2.1 s):=by
 unfold R.eu;obtain ⟨B,g1,g2,g3⟩:=h.heap hm;exact aA fun _=>aH (fun _=>aB (tt g1 g2) fun _ hv=>aA fun _=>aD (mg h hv)) fun _=>aH (fun _=>aB o9 fun _ _=>aA fun _=>aB lx fun _ hv=>aA fun _=>aD (mg h hv)) fun _=>aB (dw0:Safe _).ok fun _ _=>aH (fun _=>bI (decide_eq_true (by show 6+nm.length<=2^47;omega)) (aB oo fun _ hv=>aA fun _=>aD (mg h (vk hv)))) fun _=>af (gU h)
theorem CM (h:iS C m s) (hn:nm.length<=2^46):(R.dv s c nm n).sat (dN C m s.2.2.2.2.2.2.1 s):=by
 unfold R.dv;have hs:lQ (9+nm.length)=true:=decide_eq_true (by show 9+nm.length<=2^47;omega)
 refine aA fun _=>aB (R:=fun r:Unit ⊕ (Int×eY)=>match r with|.inl _=>True|.inr q=>cJ q.2/\q.1=0) (aH (fun _=>aB lx fun _ hv=>aA fun _=>aD ⟨hv,rfl⟩) fun _=>aH (fun _=>aB lx fun _ hv=>aA fun _=>aD ⟨hv,rfl⟩) fun _=>aH (fun _=>aD ⟨.of (show (6:Int)≠5 by decide),rfl⟩) fun _=>aH (fun _=>bL (fun _=>aB lx fun _ hv=>aA fun _=>aD ⟨hv,rfl⟩) fun _=>aD trivial) fun _=>aD trivial) fun r hr=>?_
 cases r with
 |inl _=>exact je (aB (R:=fun _=>True) (bL (fun _=>aB Cu fun _ _=>aA fun _=>bI hs (q_b fun _=>aD trivial)) fun _=>aD trivial) fun _ _=>aH (fun _=>bI hs (aB oo fun _ hv=>aA fun _=>aD (mg h (vk hv)))) fun _=>af (gU h))
 |inr q =>
  obtain ⟨k,w⟩:=q;obtain ⟨h1,h2⟩:=hr;have h2:k=0:=h2;subst h2;exact jf (aD (mg h h1))
theorem EK (hc:jz C) (h:iS C m s) (hm:m<=2^39) (hu:u.length<=4096):(R.dW s n u).sat (dN C m s.2.2.2.2.2.2.1 s):=by
 unfold R.dW;obtain ⟨B,g1,g2,g3⟩:=h.heap hm;refine aA fun _=>aB DG fun r1 hr1=>aA fun _=>aB (R:=fun q:List UInt8=>q.length<=4096) (eD (aH (fun _=>aD (by omega)) fun _=>aD (by decide))) fun nm hnm=>aB (oV g1) fun r hr=>aA fun _=>eD (aH (fun hr2=>?_) fun _=>?_)
 ·refine aB yU fun k ⟨k0,k1⟩=>aA fun _=>bL (fun _=>aB (Ca g1 g2) fun _ hv=>aA fun _=>aB (dw0:Safe _).ok fun _ _=>aH (fun _=>af (gU h)) fun _=>aD (mg h hv)) fun _=>bL (fun _=>af (G8 h hm (by omega))) fun _=>bL (fun _=>aB (tt g1 g2) fun _ hv=>aA fun _=>aH (fun _=>aD (mg h hv)) fun _=>af (gU h)) fun _=>bL (fun _=>aH (fun _=>?_) fun _=>aH (fun _=>aD (mg h (hr.th hr2))) fun _=>af (gU h)) fun _=>nx (fun h56=>aH (fun _=>?_) fun _=>af (gU h)) fun _=>bL (fun h7=>?_) fun _=>bL (fun _=>af (CM h (by omega))) fun _=>af (gU h)
  ·have hnn:=hr.nn hr2;exact aB (dw (by omega)) fun _ _=>aA fun _=>aB my fun _ hv=>aA fun _=>aD (mg h hv.1)
  ·obtain ⟨i0,d,hd,e⟩:=hr.at' hr2
   exact aB (vq g1 i0 hd (by rw [show d.1=r.1.1 from e];exact h56)) fun _ _=>aA fun _=>aB lx fun _ hv=>aA fun _=>aD (mg h hv)
  ·obtain ⟨z,ht⟩:=hr.ty h7;exact aH (fun _=>lg (fun _=>aD (mg h bz)) fun hk=>af (IQ hc h ht k0 hk)) fun _=>ae (ma ht.el) (aA fun _=>af (CM h (by omega)))
 ·refine aB tT fun q ⟨hq,_⟩=>aA fun _=>aB B8 fun ms hms=>aA fun _=>aB zm fun b hb=>aH (fun e=>?_) fun _=>af (gU h);have h1:=zi hq;have h2:=hms _ (hb e);refine bI (decide_eq_true ?_) (bI (decide_eq_true ?_) (aB oo fun _ hv=>aA fun _=>aD (mg h (vk hv))))
  ·show q.length+1<=2^47;omega
  ·show (q++[46]).length+nm.length<=2^47;rw [List.length_append];simp;omega
theorem B1 (hc:jz C) (h:iS C m s) (hm:m<=2^39){p:fi.den}:(R.dP s p).sat (dN C m s.2.2.2.2.2.2.1 s):=by
 unfold R.dP;exact aA fun _=>q_b fun _=>aH (fun _=>af (iO h hm)) fun _=>q_p fun r hr=>aA fun _=>cE (fun _=>af (iO h hm)) fun _=>bL (fun _=>af (Hq h)) fun _=>bL (fun _=>af (EK hc h hm hr)) fun _=>af (gU h)
theorem set_ok (hc:jz C) (h:iS C m s) (hm:m+1<=2^39){p:fi.den}(hv:cJ v):(R.fc s p v).sat (dN C (m+1) s.2.2.2.2.2.2.1 s):=by
 unfold R.fc;obtain ⟨B,g1,g2,g3⟩:=h.heap (by omega);have up:∀ {F:Res ((eY×Int)×RunT)}{B:(eY×Int)×RunT->Bool},F.sat (dN C m s.2.2.2.2.2.2.1 s)->(F.bind fun r=>given (B r) (Res.ok r)).sat (dN C (m+1) s.2.2.2.2.2.2.1 s):=fun h=>af (bH h fun _ hr=>hr.up (by omega));have ur:∀ {F:Res ((eY×Int)×RunT)}{B:(eY×Int)×RunT->Bool},F.sat (dN C m s.2.2.2.2.2.2.1 s)->(F.bind fun r=>given (B r) (Res.ok (Sum.inr (r.1.2,(r.2,r.1.1)):Unit ⊕ (Int×(RunT×eY))))).sat (pe C (m+1) s.2.2.2.2.2.2.1 s fun _:Unit=>True):=fun h=>oa (bH h fun _ hr=>hr.up (by omega));refine aA fun _=>q_b fun _=>aH (fun _=>up (iO h (by omega))) fun _=>q_p fun r3 hr3=>aA fun _=>cE (fun _=>up (iO h (by omega))) fun _=>ob (fun _=>up (iO h (by omega))) fun _=>aB (oV g1) fun r hr=>aA fun _=>aB yU fun k ⟨k0,k1⟩=>aA fun _=>aB (R:=pe C (m+1) s.2.2.2.2.2.2.1 s fun _:Unit=>True) (bL (fun _=>aB (dw (by decide)) fun _ _=>aA fun _=>q_b fun _=>aH (fun _=>ur (gU h)) fun _=>aD trivial) fun _=>bL (fun _=>aB (R:=fun _=>True) (eD (aH (fun _=>aB o9 fun _ _=>aA fun _=>aD trivial) fun _=>aD trivial)) fun _ _=>aH (fun _=>ur (gU h)) fun _=>aD trivial) fun _=>bL (fun _=>aB (tt g1 g2) fun _ _=>aA fun _=>eD (aH (fun _=>aD trivial) fun _=>ur (gU h))) fun _=>bL (fun h7=>eD (aH (fun _=>?_) fun _=>ur (gU h))) fun _=>ur (gU h)) fun r hr=>oE hr fun _ _=>aB (tg h hm hv) fun r2 a2=>aA fun _=>aD ⟨hv,.ok a2⟩;obtain ⟨z,ht⟩:=hr.ty h7;exact ur (Fb hc h (by omega) ht k0 hv)
theorem in_ok (hc:jz C) (h:iS C m s) (hm:m<=2^39):(R.gO s x y).sat (dN C m s.2.2.2.2.2.2.1 s):=by
 unfold R.gO;obtain ⟨B,g1,g2,g3⟩:=h.heap hm;exact aA fun _=>ob (fun _=>af (iO h hm)) fun _=>q_p fun _ _=>aA fun _=>cE (fun _=>af (iO h hm)) fun _=>aB (oV g1) fun r hr=>aA fun _=>q_b fun _=>aA fun _=>bL (fun _=>aB (Ca g1 g2) fun _ _=>aA fun _=>q_b fun _=>aA fun _=>aB (dw0:Safe _).ok fun _ _=>aH (fun _=>af (gU h)) fun _=>aB lE fun _ hv=>aA fun _=>aD (mg h (vk hv))) fun _=>aB (dw0:Safe _).ok fun _ _=>aH (fun _=>aB o9 fun _ _=>aA fun _=>aB lE fun _ hv=>aA fun _=>aD (mg h (vk hv))) fun _=>aB (dw0:Safe _).ok fun _ _=>aH (fun _=>aB lE fun _ hv=>aA fun _=>aD (mg h (vk hv))) fun _=>af (gU h)
theorem Cf (hc:jz C) (h:iS C m s) (hm:m<=2^39){p:fi.den}{e:aO.den}:(R.dd s p e).sat (dN C m s.2.2.2.2.2.2.1 s):=by
 unfold R.dd;exact aA fun _=>eD (aH (fun _=>af (B1 hc h hm)) fun _=>af (CZ h hm))
theorem FO (hc:jz C) (h:iS C m s) (hm:m+1<=2^39){p:fi.den}{e:aO.den}(hv:cJ v):(R.eR s p v e).sat (dN C (m+1) s.2.2.2.2.2.2.1 s):=by
 unfold R.eR;exact aA fun _=>eD (aH (fun _=>af (set_ok hc h hm hv)) fun _=>af (bH (D3 h (by omega) hv) fun _ hr=>dN.up (m:=m) hr (by omega)))
theorem EC (hc:jz C) (h:iS C m s) (hm:m<=2^39) (hn:VwN nm) (hl:∀ v∈l,cJ v):(R.dV s nm x l).sat (dN C m s.2.2.2.2.2.2.1 s):=by
 unfold R.dV;obtain ⟨B,g1,g2,g3⟩:=h.heap hm;obtain ⟨n3,hel⟩:=hn;refine aA fun _=>aB (oV g1) fun r hr=>aA fun _=>aB (R:=fun b=>b=false->Eq (α:=Int) (r.1.1) (8)) (ob (fun _=>aD fun e=>by cases e) fun _=>aD fun e=>?_) fun b hb=>aH (fun _=>af (iO h hm)) fun eb=>gL (iM (by decide) (iM (by omega) (aB hel fun k ⟨z,hk⟩=>aA fun _=>q_b fun ps=>ae (ma hk) (aA fun _=>aB (lK hl (by decide)) fun _ _=>aA fun _=>aB nT fun f ⟨f0,f1⟩=>aA fun _=>cE (fun _=>af (iO h hm)) fun _=>?_))))
 ·exact eq_of_beq (by cases h:(r.1.1 == 8)<;>simp_all)
 have hvw:=hr.vw (hb eb);have hz:=hk.pos;refine aB (R:=pe C m s.2.2.2.2.2.2.1 s fun q:Int×Int=>tV z q.1/\0<=q.2) (aH (fun _=>aB (lK hl (by decide)) fun _ _=>aA fun _=>aB (yy hk) fun w hw=>aA fun _=>cE (fun _=>oa (iO h hm)) fun _=>aD ⟨hw,show (0:Int)<=2 by decide⟩) fun _=>aD ⟨.zero z,show (0:Int)<=1 by decide⟩) fun r2 hr2=>oE hr2 fun q ⟨q1,q2⟩=>aB (lK hl q2) fun _ _=>aA fun _=>q_b fun lit=>?_;have hv1:=hvw.m;have hv2:=hvw.f0;have hv3:=hvw.l0;refine aB (R:=pe C m s.2.2.2.2.2.2.1 s fun w:Int=>tV z w/\LE.le (α:=Int) ((HAdd.hAdd (α:=Int) (β:=Int) (γ:=Int) (f.1) (z))) (r.1.2.2.2.2.2.2.2.2.2.2.2.1)) (aB (R:=fun b=>b=false->LE.le (α:=Int) ((HAdd.hAdd (α:=Int) (β:=Int) (γ:=Int) (f.1) (z))) (r.1.2.2.2.2.2.2.2.2.2.2.2.1)) (fZ (fun _=>aD fun e=>by cases e) fun h1=>aD fun e=>?_) fun b hb=>aH (fun _=>oa (iO h hm)) fun eb=>aB (dw0:Safe _).ok fun _ _=>aH (fun _=>aB (xV hk) fun w hw=>aA fun _=>aD ⟨hw,hb eb⟩) fun _=>aD ⟨q1,hb eb⟩) fun r3 hr3=>oE hr3 fun w ⟨w1,w2⟩=>?_
 ·have h1:LE.le (α:=Int) (z) (r.1.2.2.2.2.2.2.2.2.2.2.2.1):=h1;have e:=Int.not_lt.1 (of_decide_eq_false e);rw [wrap64 (n:=(HSub.hSub (α:=Int) (β:=Int) (γ:=Int) (r.1.2.2.2.2.2.2.2.2.2.2.2.1) (z))) (by omega)] at e;show LE.le (α:=Int) ((HAdd.hAdd (α:=Int) (β:=Int) (γ:=Int) (f.1) (z))) (r.1.2.2.2.2.2.2.2.2.2.2.2.1);omega
 have ew:w6 (HAdd.hAdd (α:=Int) (β:=Int) (γ:=Int) (r.1.2.2.2.2.2.2.2.2.2.2.1) (f.1))=(HAdd.hAdd (α:=Int) (β:=Int) (γ:=Int) (r.1.2.2.2.2.2.2.2.2.2.2.1) (f.1)):=wrap64 (by omega);have hbf:qY s.2.2.2.2.1.2 r.1.2.2.2.2.2.2.2.2.2.1 ((HAdd.hAdd (α:=Int) (β:=Int) (γ:=Int) (r.1.2.2.2.2.2.2.2.2.2.2.1) (f.1))+z):=hvw.bf.le (by omega)
 have a0:0<=(HAdd.hAdd (α:=Int) (β:=Int) (γ:=Int) (r.1.2.2.2.2.2.2.2.2.2.2.1) (f.1)):=by omega
 rw [ew];refine aH (fun _=>aB (td hc h hm hz.2.2 a0 hbf (fun e=>by cases e) fun _ _ _=>w1) fun r8 ⟨g8,_⟩=>aA fun _=>aD ⟨bz,g8⟩) fun _=>aB (vI hc h hz.2.2 a0 (by omega) hbf fun e=>by cases e) fun r8 ⟨g8,_⟩=>aA fun _=>cE (fun _=>aD ⟨bz,g8⟩) fun e8=>eD (aH (fun _=>aB ov fun _ hv=>aA fun _=>aD ⟨hv,.ok (g8.a0 e8)⟩) fun _=>aB (xV hk) fun _ _=>aA fun _=>aB ov fun _ hv=>aA fun _=>aD ⟨hv,.ok (g8.a0 e8)⟩)
theorem Da (h:iS C m s) (hm:m<=2^39):(R.dz s c x).sat fun r=>cJ r.1.2.1/\Pst C m s.2.2.2.2.2.2.1 s r.1.2.2 r.2/\(r.1.2.2=0->r.2=s/\LE.le (α:=Int) (0) (r.1.1)/\LT.lt (α:=Int) (r.1.1) (c.2.2.2.2.2.2.2.2.2.2.2.1)):=by
 unfold R.dz
 refine aA fun _=>aB nT fun f ⟨f0,f1⟩=>aA fun _=>aB (R:=fun q:Int=>q=0->LT.lt (α:=Int) (f.1) (c.2.2.2.2.2.2.2.2.2.2.2.1)) (aB (R:=fun b=>b=false->f.2=0->LT.lt (α:=Int) (f.1) (c.2.2.2.2.2.2.2.2.2.2.2.1)) (bL (fun _=>aD fun e _=>Int.not_le.1 (of_decide_eq_false e)) fun h0=>aD fun _ e=>absurd e h0) fun b hb=>aH (fun _=>aD fun e=>absurd (show (2:Int)=0 from e) (by decide)) fun eb=>aD fun e=>hb eb e) fun q hq=>cE (fun h0=>aB (nN h hm) fun r ⟨⟨v,g⟩,g0⟩=>aA fun _=>aD ⟨v,g,fun e=>absurd e g0⟩) fun h0=>aD ⟨bz,.ret h,fun _=>⟨rfl,f0,hq h0⟩⟩
theorem Fq (hc:jz C) (h:iS C m s) (hm:m<=2^39){d:PkT}(ht:TyI s.2.2.2.2.1.2 c z) (n0:0<=n) (nl:LT.lt (α:=Int) (n) (c.2.2.2.2.2.2.2.2.2.2.2.1)):(R.eI s c d n x y).sat (dN C m s.2.2.2.2.2.2.1 s):=by
 unfold R.eI;obtain ⟨m1,m2,m3⟩:=vc ht.el n0 nl ht.f0 ht.m;have hz:=ht.el.pos;refine aA fun _=>aB (yy ht.el) fun r1 hw=>aA fun _=>cE (fun _=>af (iO h hm)) fun _=>q_b fun r3=>aA fun _=>cE (fun _=>af (iO h hm)) fun _=>aB (R:=fun _=>True) (bL (fun _=>aD trivial) fun _=>aD trivial) fun nn _=>ae (ma ht.el) (aA fun _=>aB tA fun nu hnu=>aA fun _=>?_);rw [m1];refine aB (rS h hc.A (Cp 6 rfl (by decide) l0 (Nat.zero_le _) hnu ⟨hz.2.2,hw.2.2.imp id fun g=>⟨pw z,g⟩,m2,fun e=>by cases e⟩ ⟨fun e=>absurd e (by decide),fun _=>rfl⟩)) fun r ⟨g,_⟩=>aA fun _=>cE (fun _=>aD ⟨bz,g⟩) fun e=>?_;have a:=g.a0 e;exact bL (fun _=>aB (dw (by decide)) fun _ _=>aA fun _=>aB my fun _ hv=>aA fun _=>aD ⟨hv.1,.ok a⟩) fun _=>bL (fun _=>aB (dw (by decide)) fun _ _=>aA fun _=>aB my fun _ hv=>aA fun _=>aD ⟨hv.1,.ok a⟩) fun _=>aB (dw (by decide)) fun _ _=>aA fun _=>aB my fun _ hv=>aA fun _=>aD ⟨hv.1,.ok a⟩
theorem zI (hc:jz C) (h:iS C m s) (hm:m<=2^39){d:PkT}(ht:TyI s.2.2.2.2.1.2 c z) (n0:0<=n) (nl:LT.lt (α:=Int) (n) (c.2.2.2.2.2.2.2.2.2.2.2.1)):(R.cq s c d n x).sat (dN C m s.2.2.2.2.2.2.1 s):=by
 unfold R.cq;refine aA fun _=>aB (R:=pe C m s.2.2.2.2.2.2.1 s BZ) (cE (fun _=>q_b fun _=>aA fun _=>cE (fun _=>oa (iO h hm)) fun _=>aB tA fun nu hnu=>aA fun _=>aD hnu) fun _=>aD (.inr ⟨rfl,rfl⟩)) fun r hr=>oE hr fun nu hnu=>ob (fun _=>aB lx fun _ hv=>aA fun _=>aD (mg h hv)) fun _=>ae (ma ht.el) (aA fun _=>aB (rS h hc.A (qf 7 rfl (by decide) (by decide) l0 (Nat.zero_le _) hnu z6)) fun r ⟨g,_⟩=>aA fun _=>cE (fun _=>aD ⟨bz,g⟩) fun e=>aB lx fun _ hv=>aA fun _=>aD ⟨hv,.ok (g.a0 e)⟩)
theorem D6 (hc:jz C) (h:iS C m s) (hm:m<=2^39) (hl:∀ v∈l,cJ v):(R.dS s nm l).sat (dN C m s.2.2.2.2.2.2.1 s):=by
 unfold R.dS;obtain ⟨B,g1,g2,g3⟩:=h.heap hm;have rt:∀ {k:Bool}{B:eY->Bool},((R.bF k).bind fun r=>given (B r) (Res.ok ((r,(0:Int)),s))).sat (dN C m s.2.2.2.2.2.2.1 s):=aB lE fun _ hv=>aA fun _=>aD (mg h (vk hv));refine aA fun _=>aH (fun _=>aB (lK hl (by decide)) fun _ _=>aA fun _=>q_b fun _=>aA fun _=>cE (fun _=>af (iO h hm)) fun _=>q_b fun _=>aA fun _=>bL (fun _=>bL (fun _=>rt) fun _=>bL (fun _=>rt) fun _=>bL (fun _=>rt) fun _=>rt) fun _=>rt) fun _=>aB (lK hl (by decide)) fun t _=>aA fun _=>aB (oV g1) fun r hr=>aA fun _=>aB (oV g1) fun r' _=>aA fun _=>aB (dw0:Safe _).ok fun wt _=>aB (R:=fun b=>b=false->Eq (α:=Int) (r.1.1) (7)) (aB (R:=fun b=>b=false->Eq (α:=Int) (r.1.1) (7)) (ob (fun _=>aD fun e=>by cases e) fun _=>aD fun e=>?_) fun b hb=>aH (fun eb=>aD fun e=>by rw [eb] at e;cases e) fun eb=>bH (dw0:Safe _).ok fun _ _ _=>hb eb) fun b hb=>aH (fun _=>af (iO h hm)) fun eb=>aB (lK hl (by decide)) fun _ _=>aA fun _=>aB (Da h hm) fun r19 ⟨v19,g19,k19⟩=>aA fun _=>cE (fun _=>aD ⟨v19,g19⟩) fun e19=>?_
 ·exact eq_of_beq (by cases h:(r.1.1 == 7)<;>simp_all)
 obtain ⟨z,ht⟩:=hr.ty (hb eb);obtain ⟨⟨n,v,how⟩,s'⟩:=r19;obtain ⟨es,n0,nl⟩:=k19 e19;have es:s'=s:=es;subst es;have n0:0<=n:=n0;have nl:LT.lt (α:=Int) (n) (r.1.2.2.2.2.2.2.2.2.2.2.2.1):=nl;obtain ⟨m1,m2,m3⟩:=vc ht.el n0 nl ht.f0 ht.m;have hz:=ht.el.pos;have hm':=ht.m;refine ae (ma ht.el) (aA fun _=>?_);dsimp only;rw [m1];refine aH (fun _=>aB (vI hc h hz.2.2 m2 (by omega) (ht.bf.le m3) fun _=>rfl) fun r5 ⟨g,_⟩=>aA fun _=>cE (fun _=>aD ⟨bz,g⟩) fun e=>aB ov fun _ hv=>aA fun _=>aD ⟨hv,.ok (g.a0 e)⟩) fun _=>aH (fun _=>aB (lK hl (by decide)) fun _ _=>aA fun _=>aB (lK hl (by decide)) fun _ _=>aA fun _=>af (Fq hc h hm ht n0 nl)) fun _=>aH (fun _=>aB (lK hl (by decide)) fun _ _=>aA fun _=>af (zI hc h hm ht n0 nl)) fun _=>aB (lK hl (by decide)) fun _ _=>aA fun _=>aB (va ht.el) fun r29 ⟨hw,hv29⟩=>aA fun _=>cE (fun _=>af (iO h hm)) fun _=>aH (fun _=>aB (td hc h hm hz.2.2 m2 (ht.bf.le m3) (fun _=>rfl) fun _ _ _=>hw) fun r8 ⟨g8,_⟩=>aA fun _=>cE (fun _=>aD ⟨bz,g8⟩) fun e=>aD ⟨hv29,.ok (g8.a0 e)⟩) fun _=>aH (fun _=>aB (lK hl (by decide)) fun _ _=>aA fun _=>aB (va ht.el) fun r33 ⟨hw',_⟩=>aA fun _=>cE (fun _=>af (iO h hm)) fun _=>af (xa hc h hm ht n0 nl (.inr ⟨rfl,rfl⟩) hw' hw)) fun _=>aB CG fun o ⟨o0,o1⟩=>aA fun _=>af (xa hc h hm ht n0 nl (.inl ⟨rfl,o0,o1⟩) hw (.zero z))
end
end Go.Mach

set_option maxRecDepth 100000
namespace Go.Mach
open Res
abbrev mU:=aO.den
abbrev sN:=aV.den
abbrev TarI:=fi.den
def Nd (N:List gN) (t k:Int):Prop:=0<=k/\∃ x,N[k.toNat]?=some x/\oO t x.1=true
def Nk (N:List gN) (x:gN):Prop:=∃ i:Nat,N[i]?=some x
def tO (l:List eY):Prop:=l.length<=20000/\∀ v∈l,cJ v
def TarT (p:TarI):Prop:=cJ p.2.1/\cJ p.2.2
def FnC (s:RunT) (i:Int):Prop:=0<=i/\∃ c,s.2.2.2.2.1.2[i.toNat]?=some c/\Eq (α:=Int) (c.1) (3)
structure Pre (C:Cx) (n:Nat) (k c m:Int) (s:RunT):Prop where
 run:iS C m s
 fu:20*(HSub.hSub (α:=Int) (β:=Int) (γ:=Int) (C.D) (s.2.2.2.2.2.1))+k<=(n:Int)
 hm:m+c<=500000000000
def PPst (C:Cx) (m b:Int) (s:RunT) (r:(TarI×(eY×Int))×RunT):Prop:=TarT r.1.1/\cJ r.1.2.1/\Pst C m b s r.1.2.2 r.2
def APst (C:Cx) (m b:Int) (s:RunT) (r:(List eY×(eY×Int))×RunT):Prop:=tO r.1.1/\cJ r.1.2.1/\Pst C m b s r.1.2.2 r.2
def CPst (C:Cx) (m b:Int) (s:RunT) (r:(eY×(eY×Int))×RunT):Prop:=cJ r.1.1/\cJ r.1.2.1/\Pst C m b s r.1.2.2 r.2
def BPst (C:Cx) (m b:Int) (s:RunT) (r:(Bool×sN)×RunT):Prop:=cJ r.1.2.2.2/\Pst C m b s r.1.2.1 r.2
def FPst (C:Cx) (m b:Int) (s:RunT) (r:(mU×sN)×RunT):Prop:=cJ r.1.1.2.1/\cJ r.1.2.2.2/\Pst C m b s r.1.2.1 r.2
structure GOk (C:Cx) (n:Nat) (G:au):Prop where
 list:∀ {m:Int}{s:RunT}{x:gN}{e:mU},Pre C n 2 0 m s->Nk C.N x->cJ e.2.1->(G.eval_run_list s x.2.2.2.2.2 e).sat (nZ C m s.2.2.2.2.2.2.1 s)
 statement:∀ {m:Int}{s:RunT}{k:Int}{e:mU}{l:List (List UInt8)},Pre C n 1 0 m s->Nd C.N 1 k->cJ e.2.1->LE.le (α:=Int) ((l.length:Int)) (s.2.2.2.2.2.1)->(G.eval_run_statement s k e l).sat (nZ C m (HAdd.hAdd (α:=Int) (β:=Int) (γ:=Int) (s.2.2.2.2.2.2.1) (1)) s)
 act:∀ {m:Int}{s:RunT}{k:Int}{e:mU}{l:List (List UInt8)},Pre C n 4 100300000 m s->Nd C.N 1 k->cJ e.2.1->LE.le (α:=Int) ((HAdd.hAdd (α:=Int) (β:=Int) (γ:=Int) ((l.length:Int)) (1))) (s.2.2.2.2.2.1)->(G.eval_run_act s k e l).sat (nZ C (m+100300000) s.2.2.2.2.2.2.1 s)
 iW:∀ {m:Int}{s:RunT}{k:Int}{e:mU},Pre C n 1 0 m s->Nd C.N 3 k->cJ e.2.1->(G.eval_run_expression s k e).sat (dN C m (HAdd.hAdd (α:=Int) (β:=Int) (γ:=Int) (s.2.2.2.2.2.2.1) (1)) s)
 block:∀ {m:Int}{s:RunT}{k:Int}{x:gN}{e:mU},Pre C n 3 100300000 m s->0<=k->C.N[k.toNat]?=some x->x.1=4->cJ e.2.1->(G.eval_run_block s k e).sat (nZ C (m+100300000) s.2.2.2.2.2.2.1 s)
 decls:∀ {m:Int}{s:RunT}{x:gN}{e:mU},Pre C n 2 0 m s->Nk C.N x->(x.1=5\/x.1=6)->cJ e.2.1->(G.eval_run_decls s x.2.2.2.2.2 e).sat (nZ C m s.2.2.2.2.2.2.1 s)
 choice:∀ {m:Int}{s:RunT}{x:gN}{e:mU},Pre C n 3 0 m s->Nk C.N x->x.1=8->cJ e.2.1->(G.eval_run_choice s x.2.2.2.2.2 e).sat (nZ C m s.2.2.2.2.2.2.1 s)
 Ft:∀ {m:Int}{s:RunT}{x:gN}{e:mU}{l:List (List UInt8)},Pre C n 3 0 m s->Nk C.N x->x.1=9->cJ e.2.1->(G.eval_run_while s x.2.2.2.2.2 e l).sat (nZ C m s.2.2.2.2.2.2.1 s)
 loop:∀ {m:Int}{s:RunT}{x:gN}{e:mU}{l:List (List UInt8)},Pre C n 3 100300000 m s->Nk C.N x->x.1=10->cJ e.2.1->(G.eval_run_loop s x.2.2.2.2.2 e l).sat (nZ C (m+100300000) s.2.2.2.2.2.2.1 s)
 try_:∀ {m:Int}{s:RunT}{x:gN}{e:mU},Pre C n 3 100300000 m s->Nk C.N x->x.1=16->cJ e.2.1->(G.eval_run_try s x.2.2.2.2.2 e).sat (nZ C (m+100300000) s.2.2.2.2.2.2.1 s)
 value:∀ {m:Int}{s:RunT}{k:Int}{e:mU},Pre C n 12 100300000 m s->Nd C.N 3 k->cJ e.2.1->(G.eval_run_value s k e).sat (dN C (m+100300000) s.2.2.2.2.2.2.1 s)
 asked:∀ {m:Int}{s:RunT}{k:Int}{e:mU},Pre C n 2 0 m s->Nd C.N 3 k->cJ e.2.1->(G.eval_run_asked s k e).sat (BPst C m (HAdd.hAdd (α:=Int) (β:=Int) (γ:=Int) (s.2.2.2.2.2.2.1) (1)) s)
 first:∀ {m:Int}{s:RunT}{k:Int}{e:mU},Pre C n 2 100300000 m s->Nd C.N 10 k->cJ e.2.1->(G.eval_run_first s k e).sat (FPst C (m+100000) s.2.2.2.2.2.2.1 s)
 Eg:∀ {m:Int}{s:RunT}{k:Int}{a:List UInt8}{v:eY}{e:mU},Pre C n 2 100300000 m s->Nd C.N 1 k->cJ v->cJ e.2.1->(G.eval_run_catch s a k v e).sat (nZ C (m+10) s.2.2.2.2.2.2.1 s)
 array:∀ {m:Int}{s:RunT}{x:gN}{e:mU},Pre C n 2 100300000 m s->Nk C.N x->x.1=38->cJ e.2.1->(G.eval_run_array s x.2.2.2.2.2 e).sat (dN C (m+100300000) s.2.2.2.2.2.2.1 s)
 object:∀ {m:Int}{s:RunT}{x:gN}{e:mU},Pre C n 2 100300000 m s->Nk C.N x->x.1=39->cJ e.2.1->(G.eval_run_object s x.2.2.2.2.2 e).sat (dN C (m+100300000) s.2.2.2.2.2.2.1 s)
 operation:∀ {m:Int}{s:RunT}{k:Int}{x:gN}{e:mU},Pre C n 11 100300000 m s->0<=k->C.N[k.toNat]?=some x->(43<=x.1/\x.1<=53)->cJ e.2.1->(G.eval_run_operation s k x e).sat (dN C (m+100300000) s.2.2.2.2.2.2.1 s)
 unary:∀ {m:Int}{s:RunT}{k:Int}{o:List UInt8}{e:mU},Pre C n 2 0 m s->Nd C.N 3 k->cJ e.2.1->(G.eval_run_unary s o k e).sat (dN C m s.2.2.2.2.2.2.1 s)
 step:∀ {m:Int}{s:RunT}{x:gN}{e:mU},Pre C n 3 100300000 m s->Nk C.N x->(x.1=44\/x.1=45)->cJ e.2.1->(G.eval_run_step s x e).sat (dN C (m+100300000) s.2.2.2.2.2.2.1 s)
 binary:∀ {m:Int}{s:RunT}{x:gN}{e:mU},Pre C n 2 0 m s->Nk C.N x->x.1=46->cJ e.2.1->(G.eval_run_binary s x e).sat (dN C m s.2.2.2.2.2.2.1 s)
 logic:∀ {m:Int}{s:RunT}{x:gN}{e:mU},Pre C n 2 0 m s->Nk C.N x->x.1=47->cJ e.2.1->(G.eval_run_logic s x e).sat (dN C m s.2.2.2.2.2.2.1 s)
 assign:∀ {m:Int}{s:RunT}{x:gN}{e:mU},Pre C n 3 100300000 m s->Nk C.N x->x.1=49->cJ e.2.1->(G.eval_run_assign s x e).sat (dN C (m+100300000) s.2.2.2.2.2.2.1 s)
 callee:∀ {m:Int}{s:RunT}{x:gN}{e:mU},Pre C n 10 100300000 m s->Nk C.N x->x.1=50->cJ e.2.1->(G.eval_run_callee s x.2.2.2.2.2 e).sat (dN C (m+100300000) s.2.2.2.2.2.2.1 s)
 arguments:∀ {m:Int}{s:RunT}{l:List Int}{e:mU},Pre C n 2 0 m s->l.length<=20000->(∀ k∈l,Nd C.N 3 k)->cJ e.2.1->(G.eval_run_arguments s l e).sat (APst C m s.2.2.2.2.2.2.1 s)
 fresh:∀ {m:Int}{s:RunT}{f:eY}{l:List eY},Pre C n 9 100300000 m s->tO l->(G.eval_run_fresh s f l).sat (dN C (m+100300000) s.2.2.2.2.2.2.1 s)
 property:∀ {m:Int}{s:RunT}{k:Int}{e:mU},Pre C n 3 0 m s->Nd C.N 4 k->cJ e.2.1->(G.eval_run_property s k e).sat (dN C m s.2.2.2.2.2.2.1 s)
 parts:∀ {m:Int}{s:RunT}{k:Int}{e:mU},Pre C n 2 0 m s->Nd C.N 4 k->cJ e.2.1->(G.eval_run_parts s k e).sat (PPst C m s.2.2.2.2.2.2.1 s)
 called:∀ {m:Int}{s:RunT}{k:Int}{e:mU},Pre C n 2 0 m s->Nd C.N 3 k->cJ e.2.1->(G.eval_run_called s k e).sat (CPst C m s.2.2.2.2.2.2.1 s)
 call:∀ {m:Int}{s:RunT}{f t:eY}{l:List eY},Pre C n 8 100300000 m s->cJ t->tO l->(G.eval_run_call s f t l).sat (dN C (m+100300000) s.2.2.2.2.2.2.1 s)
 callF:∀ {m:Int}{s:RunT}{f t:eY}{l:List eY},Pre C n 4 100300000 m s->f.1=6->FnC s f.2.2.2.2->cJ t->tO l->(G.eval_run_call s f t l).sat (dN C (m+100300000) s.2.2.2.2.2.2.1 s)
 builds:∀ {m:Int}{s:RunT}{a:List UInt8}{l:List eY},Pre C n 8 100300000 m s->InN a->tO l->(G.eval_run_builds s a l).sat (dN C (m+100300000) s.2.2.2.2.2.2.1 s)
 apply:∀ {m:Int}{s:RunT}{i:Int}{t:eY}{l:List eY},Pre C n 3 100300000 m s->FnC s i->cJ t->tO l->(G.eval_run_apply s i t l).sat (dN C (m+100300000) s.2.2.2.2.2.2.1 s)
 does:∀ {m:Int}{s:RunT}{a:List UInt8}{t:eY}{l:List eY},Pre C n 7 100300000 m s->InN a->cJ t->tO l->(G.eval_run_does s a t l).sat (dN C (m+100300000) s.2.2.2.2.2.2.1 s)
 host:∀ {m:Int}{s:RunT}{a:List UInt8}{x:eY},Pre C n 6 100300000 m s->cJ x->(G.eval_run_host s a x).sat (dN C (m+100300000) s.2.2.2.2.2.2.1 s)
 Af:∀ {m:Int}{s:RunT}{f:eY},Pre C n 5 100300000 m s->(G.eval_run_receives s f).sat (dN C (m+100300000) s.2.2.2.2.2.2.1 s)
section
variable {C:Cx}{n:Nat}{G:au}{m m' b k k' c c':Int}{s s' s1 s2:RunT}{how:Int}{β:Type}{Q:β->Prop}
theorem Pre.go (p:Pre C (n+1) k c m s) (a:Aft C m' b s s') (hk:k' < k) (hm:m'+c'<=500000000000):Pre C n k' c' m' s':=⟨a.run,by have h1:=p.fu;have h2:=a.dp;rw [h2];omega,hm⟩
theorem Pre.no (p:Pre C 0 k c m s) (hk:1<=k):False:=by
 have h1:=p.fu;have h2:=p.run.dp;omega
theorem Pre.deep (p:Pre C (n+1) k 0 m s) (h:iS C (m-134217728) s1) (e:Eq (α:=Int) (s1.2.2.2.2.2.1) ((HAdd.hAdd (α:=Int) (β:=Int) (γ:=Int) (s.2.2.2.2.2.1) (1)))) (hk:k'<=20) (h1:1<=k) (hc:c'<=134217728):Pre C n k' c' (m-134217728) s1:=⟨h,by have h1:=p.fu;rw [e];omega,by have:=p.hm;omega⟩
theorem yQ (h:iS C m s) (e2:s1.2.2.2.2.1=s.2.2.2.2.1) (e3:Eq (α:=Int) (s1.2.2.2.2.2.1) ((HAdd.hAdd (α:=Int) (β:=Int) (γ:=Int) (s.2.2.2.2.2.1) (1)))) (e4:Eq (α:=Int) (s1.2.2.2.2.2.2.1) ((HAdd.hAdd (α:=Int) (β:=Int) (γ:=Int) (s.2.2.2.2.2.2.1) (1)))) (hD:C.D<=200) (g:Pst C m' s1.2.2.2.2.2.2.1 s1 how s2) (hm:m'<=m):Pst C m (HAdd.hAdd (α:=Int) (β:=Int) (γ:=Int) (s.2.2.2.2.2.2.1) (1)) s how (s2.1,(s2.2.1,(s2.2.2.1,(s2.2.2.2.1,(s2.2.2.2.2.1,(w6 (HSub.hSub (α:=Int) (β:=Int) (γ:=Int) (s2.2.2.2.2.2.1) (1)),s2.2.2.2.2.2.2)))))):=by
 rcases g with ⟨h1,h2⟩|⟨h1,h2⟩
 ·exact .inl ⟨h1,h2.nd,h2.hs⟩
 ·have a:=h2.run;have d1:=h.d0;have d2:=h.dp;have d3:Eq (α:=Int) (s2.2.2.2.2.2.1) (s1.2.2.2.2.2.1):=h2.dp
  have ew:w6 (HSub.hSub (α:=Int) (β:=Int) (γ:=Int) (s2.2.2.2.2.2.1) (1))=s.2.2.2.2.2.1:=by rw [wrap64 (by omega)];omega
  have hb:=h2.bg;refine .inr ⟨h1,⟨a.nd,a.lm,a.an,a.u0,a.us,?_,?_,?_,a.b0,a.bg,a.rq,a.en⟩,?_,?_,?_⟩
  ·obtain ⟨B,g1,g2⟩:=a.hp;exact ⟨B,g1,Int.le_trans g2 hm⟩
  ·show LE.le (α:=Int) (0) (w6 (HSub.hSub (α:=Int) (β:=Int) (γ:=Int) (s2.2.2.2.2.2.1) (1)));rw [ew];exact d1
  ·show LE.le (α:=Int) (w6 (HSub.hSub (α:=Int) (β:=Int) (γ:=Int) (s2.2.2.2.2.2.1) (1))) (C.D);rw [ew];exact d2
  ·have:=h2.ext;rw [e2] at this;exact this
  ·exact ew
  ·show LE.le (α:=Int) ((HAdd.hAdd (α:=Int) (β:=Int) (γ:=Int) (s.2.2.2.2.2.2.1) (1))) (s2.2.2.2.2.2.2.1);rw [<- e4];exact hb
theorem ta (hc:jz C) (p:Pre C (n+1) k 0 m s){f:Bool×RunT->Res β}(h1:∀ s1,Cg C s1->(f (false,s1)).sat Q) (h2:∀ s1,s1.2.2.2.2.1=s.2.2.2.2.1->Eq (α:=Int) (s1.2.2.2.2.2.1) ((HAdd.hAdd (α:=Int) (β:=Int) (γ:=Int) (s.2.2.2.2.2.1) (1)))->Eq (α:=Int) (s1.2.2.2.2.2.2.1) ((HAdd.hAdd (α:=Int) (β:=Int) (γ:=Int) (s.2.2.2.2.2.2.1) (1)))->iS C (m-134217728) s1->(f (true,s1)).sat Q):((R.bj s).bind f).sat Q:=by
 have hF:=hc.F;have hD:=hc.D;refine aB (DN p.run (by omega) (by omega)) fun r hr=>?_;obtain ⟨y,s1⟩:=r;rcases hr with ⟨e,g⟩|⟨e,g1,g2,g3,g4⟩
 ·have e:y=false:=e;subst e;exact h1 s1 g
 ·have e:y=true:=e;subst e;exact h2 s1 g1 g2 g3 g4
theorem fit3 {x:Int}(h:oO 3 x=true):30<=x/\x<=53/\x≠40:=by simpa [oO,vR] using h
theorem fit4 {x:Int}(h:oO 4 x=true):x=33\/x=52\/x=53:=by simpa [oO,zX] using h
theorem fit_4 {x:Int}(h:x=33\/x=52\/x=53):oO 4 x=true:=by simpa [oO,zX] using h
theorem fit_1 {x:Int}:oO 1 x=true:=rfl
theorem qt.nd {x:gN}(h:qt C.N x){i:Nat}{k:Int}(hk:x.2.2.2.2.2[i]?=some k) (t:Int) (ht:srt (shp x.1 (x.2.2.2.2.2).length) i=t):Nd C.N t k:=by
 obtain ⟨k0,y,hy,hf,_⟩:=h.kid i k hk;exact ⟨k0,y,hy,ht▸hf⟩
theorem qt.nd1 {x:gN}(h:qt C.N x){i:Nat}{k:Int}(hk:x.2.2.2.2.2[i]?=some k):Nd C.N 1 k:=by
 obtain ⟨k0,y,hy,hf,_⟩:=h.kid i k hk;exact ⟨k0,y,hy,fit_1⟩
end
end Go.Mach

set_option maxRecDepth 100000
namespace Go.Mach
open Res
instance CT {k}:Safe (R.fY k):=by unfold R.fY;exact dw0
instance CV {k}:Safe (R.eJ k):=by unfold R.eJ;exact dw0
section
variable {t:List gN}{n:Int}{x:gN}
theorem wL (hg:pP t){i:Nat}(hx:t[i]?=some x){j:Nat}{k:Int}(hk:x.2.2.2.2.2[j]?=some k):0<=k/\k.toNat < t.length:=by
 obtain ⟨k0,y,hy,_⟩:=(hg.nod _ x hx).kid j k hk;exact ⟨k0,(List.getElem?_eq_some_iff.1 hy).1⟩
theorem xh (hg:pP t) (hf:rF t) (n0:0<=n) (hn:n.toNat < t.length):(R.gi t n).sat fun r=>r.length<=20000:=by
 unfold R.gi;refine aA fun _=>bN n0 hn fun x hx _=>?_;have hx:t[n.toNat]?=some x:=hx;have hl:=hf.one _ x hx;refine aB (iC (Q:=fun r:List (List UInt8)=>r.length<=20000) (fun y=>y.2) (x.2.2.2.2.2).length (by omega) (fun y=>y.1.length=y.2.toNat) (by simp) (by simp) (by simp) fun y y0 y1 yI=>?_) fun r hr=>aD hr;obtain ⟨l,j⟩:=y;have y0:0<=j:=y0;have y1:j<=((x.2.2.2.2.2).length:Int):=y1;have yI:l.length=j.toNat:=yI;refine fZ (fun hj=>?_) fun _=>aD (by show l.length<=20000;omega);have hj:j < ((x.2.2.2.2.2).length:Int):=hj;refine bu y0 (by show _ < (x.2.2.2.2.2).length;omega) fun k hk _=>?_;obtain ⟨k0,kl⟩:=wL hg hx hk;refine bN k0 kl fun z _ _=>bI (decide_eq_true ?_) (aD ⟨rfl,hj,?_⟩)
 ·show (l.length+1)*16<=2^47;omega
 ·show (l++[_]).length=(w6 (j+1)).toNat;rw [wrap64 (by omega),List.length_append];simp;omega
theorem sF (hg:pP t) (hf:rF t) (n0:0<=n) (hn:n.toNat < t.length):(R.eX t n).sat fun r=>r.length<=400000000:=by
 unfold R.eX;refine aA fun _=>bN n0 hn fun x hx _=>?_;have hx:t[n.toNat]?=some x:=hx;have hl:=hf.one _ x hx;have hgx:=hg.nod _ x hx;refine aB (dw0:Safe _).ok fun _ _=>aH (fun _=>?_) fun _=>aB (R:=fun b=>b=true->x.1=10) (bL (fun h10=>?_) fun _=>aD fun e=>by cases e) fun b hb=>aH (fun e=>?_) fun _=>aB (dw0:Safe _).ok fun _ _=>aH (fun _=>aD (by simp)) fun _=>q_b fun _=>aH (fun _=>?_) fun _=>aD (by simp)
 ·refine aB (iC (Q:=fun r:List (List UInt8)=>r.length<=400000000) (fun y=>y.2) (x.2.2.2.2.2).length (by omega) (fun y=>y.1.length<=20000*y.2.toNat) (by simp) (by simp) (by simp) fun y y0 y1 yI=>?_) fun r hr=>aD hr;obtain ⟨l,j⟩:=y;have y0:0<=j:=y0;have y1:j<=((x.2.2.2.2.2).length:Int):=y1;have yI:l.length<=20000*j.toNat:=yI;refine fZ (fun hj=>?_) fun _=>aD (by show l.length<=400000000;omega);have hj:j < ((x.2.2.2.2.2).length:Int):=hj
  have ew:(w6 (j+1)).toNat=j.toNat+1:=by rw [wrap64 (by omega)];omega
  refine bu y0 (by show _ < (x.2.2.2.2.2).length;omega) fun k hk _=>?_;obtain ⟨k0,kl⟩:=wL hg hx hk;refine bN k0 kl fun z _ _=>q_b fun _=>aH (fun _=>aB (xh hg hf k0 kl) fun r hr=>aA fun _=>bI (decide_eq_true ?_) (aD ⟨rfl,hj,?_⟩)) fun _=>aH (fun _=>bI (decide_eq_true ?_) (aD ⟨rfl,hj,?_⟩)) fun _=>aD ⟨rfl,hj,?_⟩
  ·show (l.length+r.length)*16<=2^47;omega
  ·show (l++r).length<=20000*(w6 (j+1)).toNat;rw [ew,List.length_append];omega
  ·show (l.length+1)*16<=2^47;omega
  ·show (l++[_]).length<=20000*(w6 (j+1)).toNat;rw [ew,List.length_append];simp;omega
  ·show l.length<=20000*(w6 (j+1)).toNat;rw [ew];omega
 ·have h10:x.1=10:=h10;have h4:=hgx.len;rw [h10] at h4;have h4:4<=(x.2.2.2.2.2).length:=h4;refine bu (by decide) (by show 0 < (x.2.2.2.2.2).length;omega) fun k hk _=>?_;obtain ⟨k0,kl⟩:=wL hg hx hk;exact bN k0 kl fun z _ _=>q_b fun _=>aD fun _=>h10
 ·have h4:=hgx.len;rw [hb e] at h4;have h4:4<=(x.2.2.2.2.2).length:=h4;refine bu (by decide) (by show 0 < (x.2.2.2.2.2).length;omega) fun k hk _=>?_;obtain ⟨k0,kl⟩:=wL hg hx hk;exact aB (xh hg hf k0 kl) fun r hr=>aA fun _=>aD (by omega)
 ·refine aB (iC (Q:=fun r:List (List UInt8)=>r.length<=400000000) (fun y=>y.2) (x.2.2.2.2.2).length (by omega) (fun y=>y.1.length<=y.2.toNat) (by simp) (by simp) (by simp) fun y y0 y1 yI=>?_) fun r hr=>aD hr;obtain ⟨l,j⟩:=y;have y0:0<=j:=y0;have y1:j<=((x.2.2.2.2.2).length:Int):=y1;have yI:l.length<=j.toNat:=yI;refine fZ (fun hj=>?_) fun _=>aD (by show l.length<=400000000;omega);have hj:j < ((x.2.2.2.2.2).length:Int):=hj
  have ew:(w6 (j+1)).toNat=j.toNat+1:=by rw [wrap64 (by omega)];omega
  refine bu y0 (by show _ < (x.2.2.2.2.2).length;omega) fun k hk _=>?_;obtain ⟨k0,kl⟩:=wL hg hx hk;refine bN k0 kl fun z _ _=>aH (fun _=>bN k0 kl fun z' _ _=>bI (decide_eq_true ?_) (aD ⟨rfl,hj,?_⟩)) fun _=>aD ⟨rfl,hj,?_⟩
  ·show (l.length+1)*16<=2^47;omega
  ·show (l++[_]).length<=(w6 (j+1)).toNat;rw [ew,List.length_append];simp;omega
  ·show l.length<=(w6 (j+1)).toNat;rw [ew];omega
theorem yL (hg:pP t) (hf:rF t) (n0:0<=n) (hn:n.toNat < t.length):(R.fI t n).sat fun r=>r.length<=400000000:=by
 unfold R.fI;exact aA fun _=>aB (sF hg hf n0 hn) fun r hr=>aA fun _=>aD hr
end
end Go.Mach

set_option maxRecDepth 100000
namespace Go.Mach
open Res
def yX (C:Cx) (m b:Int) (s:RunT){α:Type}(P:α->Prop):α ⊕ (RunT×sN)->Prop
 |.inl a=>P a
 |.inr z=>nZ C m b s (z.2,z.1)
theorem Cr {C:Cx}{m b:Int}{s:RunT}{α:Type}{P:α->Prop}{x:α ⊕ (RunT×sN)}(hx:yX C m b s P x){f:α->Res (sN×RunT)}(hf:∀ a,P a->(f a).sat (nZ C m b s)):(sum x f fun z=>Res.ok (z.2,z.1)).sat (nZ C m b s):=by
 cases x with
 |inl a=>exact je (hf a hx)
 |inr z=>exact jf (aD hx)
def AO (C:Cx) (m b:Int) (s:RunT) (r:RunT×sN):Prop:=nZ C m b s (r.2,r.1)
theorem sum_d {C:Cx}{m b:Int}{s:RunT}{α γ:Type}{P:α->Prop}{x:α ⊕ (RunT×sN)}{Q:Step γ (RunT×sN)->Prop}(hx:yX C m b s P x){f:α->Res (Step γ (RunT×sN))}(hf:∀ a,P a->(f a).sat Q) (hd:∀ z,AO C m b s z->Q (.done z)):(sum x f fun z=>Res.ok (.done z)).sat Q:=by
 cases x with
 |inl a=>exact je (hf a hx)
 |inr z=>exact jf (aD (hd z hx))
theorem sum_di {C:Cx}{m b:Int}{s:RunT}{α γ δ:Type}{P:α->Prop}{x:α ⊕ (RunT×sN)}{Q:Step γ (δ ⊕ (RunT×sN))->Prop}(hx:yX C m b s P x){f:α->Res (Step γ (δ ⊕ (RunT×sN)))}(hf:∀ a,P a->(f a).sat Q) (hd:∀ z,AO C m b s z->Q (.done (.inr z))):(sum x f fun z=>Res.ok (.done (.inr z))).sat Q:=by
 cases x with
 |inl a=>exact je (hf a hx)
 |inr z=>exact jf (aD (hd z hx))
section
variable {β:Type}{Q:β->Prop}{C:Cx}{x:gN}
theorem iQ {t:Ty}{l:List t.den}{i:Int}{a:t.den}{f:t.den->Res β}(i0:0<=i) (h:l[i.toNat]?=some a) (hf:(f a).sat Q):(idx t l i f).sat Q:=bu i0 (List.getElem?_eq_some_iff.1 h).1 fun y hy _=>by
 have:some a=some y:=h.symm.trans hy;cases this;exact hf
theorem jR (h:qt C.N x) (i:Nat) (t:Int) (hi:i < (shp x.1 (x.2.2.2.2.2).length).1.length) (ht:srt (shp x.1 (x.2.2.2.2.2).length) i=t):∃ k,x.2.2.2.2.2[i]?=some k/\Nd C.N t k:=by
 have hl:=Nat.lt_of_lt_of_le hi h.len;exact ⟨_,List.getElem?_eq_getElem hl,h.nd (List.getElem?_eq_getElem hl) t ht⟩
theorem Nd.any {t k:Int}(h:Nd C.N t k):Nd C.N 1 k:=by
 obtain ⟨k0,y,hy,_⟩:=h;exact ⟨k0,y,hy,rfl⟩
theorem Ci {s:RunT}(hn:s.1=C.N){k:Int}{y:gN}(k0:0<=k) (hy:C.N[k.toNat]?=some y){f:gN->Res β}(hf:(f y).sat Q):(idx aF s.1 k f).sat Q:=by
 rw [hn];exact iQ k0 hy hf
theorem Pst.nd {m b how:Int}{s s':RunT}(h:Pst C m b s how s'):s'.1=C.N:=by
 rcases h with ⟨_,h⟩|⟨_,h⟩
 ·exact h.nd
 ·exact h.run.nd
theorem Cj {o:sN}{l:List (List UInt8)}(hv:cJ o.2.2):(R.iY o l).sat fun r=>cJ r.2.2.2/\(r.1=true->Ne (α:=Int) (o.1) (5))/\(r.1=false->Eq (α:=Int) (r.2.1) (o.1)\/(Ne (α:=Int) (o.1) (5)/\Ne (α:=Int) (r.2.1) (5))):=by
 unfold R.iY;refine aA fun _=>bL (fun e=>aD ⟨hv,fun _=>?_,fun e=>by cases e⟩) fun _=>aB (R:=fun b=>b=true->o.1=1) (bL (fun e=>aD fun _=>e) fun _=>aD fun e=>by cases e) fun b hb=>aH (fun e=>aD ⟨bz,(fun e=>by cases e),fun _=>.inr ⟨?_,show (0:Int)≠5 by decide⟩⟩) fun _=>aB (R:=fun b=>b=true->o.1=2) (bL (fun e=>aH (fun _=>aD fun _=>e) fun _=>q_b fun _=>aD fun _=>e) fun _=>aD fun e=>by cases e) fun b hb=>aH (fun e=>aD ⟨bz,fun _=>?_,fun e=>by cases e⟩) fun _=>aD ⟨hv,(fun e=>by cases e),fun _=>.inl rfl⟩
 ·exact jg e (by decide)
 ·exact jg (hb e) (by decide)
 ·exact jg (hb e) (by decide)
end
section
variable {C:Cx}{n:Nat}{G:au}{m k:Int}{s:RunT}{x:gN}{e:mU}{l:List (List UInt8)}{a:List UInt8}{v:eY}
theorem DB (hc:jz C) (hG:GOk C n G) (p:Pre C (n+1) 2 0 m s) (hx:Nk C.N x) (he:cJ e.2.1):(R.eval_run_list G s x.2.2.2.2.2 e).sat (nZ C m s.2.2.2.2.2.2.1 s):=by
 unfold R.eval_run_list;obtain ⟨i,hi⟩:=hx;have hk:=hc.fw.one _ x hi;have hg:=hc.tr.nod _ x hi;have pm:=p.hm;refine aA fun _=>aB (iC (Q:=yX C m s.2.2.2.2.2.2.1 s fun s'=>Aft C m s.2.2.2.2.2.2.1 s s') (fun y=>y.1) (x.2.2.2.2.2).length (by omega) (fun y=>Aft C m s.2.2.2.2.2.2.1 s y.2) (by simp) (by simp) (Aft.refl p.run) fun y y0 y1 yI=>?_) fun r hr=>Cr hr fun s' hs'=>aD ⟨bz,.ok hs'⟩;obtain ⟨j,s1⟩:=y;have y0:0<=j:=y0;have yI:Aft C m s.2.2.2.2.2.2.1 s s1:=yI;refine fZ (fun hj=>?_) fun _=>aD yI;have hj:j < ((x.2.2.2.2.2).length:Int):=hj;refine bu y0 (by show _ < (x.2.2.2.2.2).length;omega) fun k hk' _=>?_;exact aB (hG.statement (l:=[]) (p.go yI (by decide) (by omega)) (hg.nd1 hk') he yI.run.d0) fun r hr=>aA fun _=>cE (fun _=>aD ⟨hr.1,Pst.lP yI hr.2⟩) fun e=>aD ⟨rfl,hj,(Pst.lP yI hr.2).a0 e⟩
theorem wR (hc:jz C) (hG:GOk C n G) (p:Pre C (n+1) 1 0 m s) (hn:Nd C.N 1 k) (he:cJ e.2.1) (hl:LE.le (α:=Int) ((l.length:Int)) (s.2.2.2.2.2.1)):(R.eval_run_statement G s k e l).sat (nZ C m (HAdd.hAdd (α:=Int) (β:=Int) (γ:=Int) (s.2.2.2.2.2.2.1) (1)) s):=by
 unfold R.eval_run_statement;refine aA fun _=>ta hc p (fun s1 h1=>aA fun _=>jh rfl (aD ⟨bz,.inl ⟨rfl,h1⟩⟩)) fun s1 e2 e3 e4 h=>aA fun _=>ik rfl ?_;have p1:Pre C n 4 100300000 (m-134217728) s1:=p.deep h e3 (by decide) (by decide) (by decide);exact aB (hG.act p1 hn he (by rw [e3];omega)) fun r ⟨v,g⟩=>aA fun _=>aD ⟨v,yQ p.run e2 e3 e4 hc.D g (by omega)⟩
theorem Bu (hc:jz C) (hG:GOk C n G) (p:Pre C (n+1) 2 0 m s) (hn:Nd C.N 3 k) (he:cJ e.2.1):(R.eval_run_asked G s k e).sat (BPst C m (HAdd.hAdd (α:=Int) (β:=Int) (γ:=Int) (s.2.2.2.2.2.2.1) (1)) s):=by
 unfold R.eval_run_asked;have pm:=p.hm;exact aA fun _=>aB (hG.iW (p.go (.refl p.run) (by decide) (by omega)) hn he) fun r ⟨v,g⟩=>aA fun _=>cE (fun _=>aD ⟨v,g⟩) fun e=>q_b fun _=>aD ⟨bz,.ok (g.a0 e)⟩
theorem A0 (hc:jz C) (hG:GOk C n G) (p:Pre C (n+1) 2 0 m s) (hx:Nk C.N x) (hk:x.1=5\/x.1=6) (he:cJ e.2.1):(R.eval_run_decls G s x.2.2.2.2.2 e).sat (nZ C m s.2.2.2.2.2.2.1 s):=by
 unfold R.eval_run_decls;obtain ⟨i,hi⟩:=hx;have hl:=hc.fw.one _ x hi;have hg:=hc.tr.nod _ x hi;have pm:=p.hm;refine aA fun _=>aB (iC (Q:=yX C m s.2.2.2.2.2.2.1 s fun s'=>Aft C m s.2.2.2.2.2.2.1 s s') (fun y=>y.1) (x.2.2.2.2.2).length (by omega) (fun y=>Aft C m s.2.2.2.2.2.2.1 s y.2) (by simp) (by simp) (Aft.refl p.run) fun y y0 y1 yI=>?_) fun r hr=>Cr hr fun s' hs'=>aD ⟨bz,.ok hs'⟩;obtain ⟨j,s1⟩:=y;have y0:0<=j:=y0;have yI:Aft C m s.2.2.2.2.2.2.1 s s1:=yI;refine fZ (fun hj=>?_) fun _=>aD yI;have hj:j < ((x.2.2.2.2.2).length:Int):=hj;refine bu y0 (by show _ < (x.2.2.2.2.2).length;omega) fun d hd _=>?_
 have hsrt:srt (shp x.1 (x.2.2.2.2.2).length) j.toNat=5:=by
  rcases hk with e|e<;>rw [e]<;>unfold srt shp<;>(cases j.toNat<;>rfl)
 obtain ⟨d0,z,hz,hf⟩:=hg.nd hd 5 hsrt;have hz7:z.1=7:=eq_of_beq hf;have hgz:=hc.tr.nod _ z hz;refine j7 yI.run d0 hz (aB (R:=yX C m s.2.2.2.2.2.2.1 s fun r=>Aft C m s.2.2.2.2.2.2.1 s r.1/\cJ r.2) (fZ (fun h0=>?_) fun _=>aD ⟨yI,bz⟩) fun r hr=>?_)
 ·have h0:0 < ((z.2.2.2.2.2).length:Int):=h0;refine bu (by decide) (by show 0 < (z.2.2.2.2.2).length;omega) fun q hq _=>?_;have hq:z.2.2.2.2.2[0]?=some q:=hq
  have hsz:srt (shp z.1 (z.2.2.2.2.2).length) 0=3:=by
   rw [hz7];unfold srt shp;rw [show (min ((z.2.2.2.2.2).length:Int) 1).toNat=1 by omega];rfl
  exact aB (hG.iW (p.go yI (by decide) (by omega)) (hgz.nd hq 3 hsz) he) fun r ⟨v,g⟩=>aA fun _=>cE (fun _=>aD ⟨v,Pst.lP yI g⟩) fun e=>aD ⟨(Pst.lP yI g).a0 e,v⟩
 ·refine sum_di hr (fun r ⟨a1,v1⟩=>aB (vp a1.run (by omega) v1) fun r2 a2=>aA fun _=>aD ⟨rfl,hj,a1.cat a2⟩) fun z hz=>hz
theorem Ad (hc:jz C) (hG:GOk C n G) (p:Pre C (n+1) 3 0 m s) (hx:Nk C.N x) (hk:x.1=8) (he:cJ e.2.1):(R.eval_run_choice G s x.2.2.2.2.2 e).sat (nZ C m s.2.2.2.2.2.2.1 s):=by
 unfold R.eval_run_choice;obtain ⟨i,hi⟩:=hx;have hg:=hc.tr.nod _ x hi;have pm:=p.hm
 have hlen:∀ q:Int,(List.take (min (max q 2) 3).toNat [(3:Int),2,2]).length>=2:=fun q=>by simp;omega
 have h2:2<=(x.2.2.2.2.2).length:=by
  have:=hg.len;rw [hk] at this;exact Nat.le_trans (hlen _) this
 have a0:=Aft.refl p.run
 have hs0:srt (shp x.1 (x.2.2.2.2.2).length) 0=3:=by
  rw [hk];show (List.take (min (max ((x.2.2.2.2.2).length:Int) 2) 3).toNat [(3:Int),2,2]).getD 0 0=3;obtain ⟨q,hq⟩:∃ q,(min (max ((x.2.2.2.2.2).length:Int) 2) 3).toNat=q+1:=⟨(min (max ((x.2.2.2.2.2).length:Int) 2) 3).toNat-1,by omega⟩;rw [hq];rfl
 refine aA fun _=>bu (by decide) (by show 0 < (x.2.2.2.2.2).length;omega) fun k0 hk0 _=>aB (hG.asked (p.go a0 (by decide) (by omega)) (hg.nd hk0 3 hs0) he) fun r ⟨v,g⟩=>aA fun _=>cE (fun _=>aD ⟨v,Pst.lP a0 g⟩) fun e0=>?_;have a1:=(Pst.lP a0 g).a0 e0;have st:∀ {k:Int},Nd C.N 1 k->(G.eval_run_statement r.2 k e []).sat (nZ C m s.2.2.2.2.2.2.1 s):=fun hn=>bH (hG.statement (l:=[]) (p.go a1 (by decide) (by omega)) hn he a1.run.d0) fun _ hr=>⟨hr.1,Pst.lP a1 hr.2⟩;refine aH (fun _=>bu (by decide) (by show 1 < (x.2.2.2.2.2).length;omega) fun k1 hk1 _=>af (st (hg.nd1 hk1))) fun _=>fZ (fun h=>bu (by decide) (by have h:2 < ((x.2.2.2.2.2).length:Int):=h;show 2 < (x.2.2.2.2.2).length;omega) fun k1 hk1 _=>af (st (hg.nd1 hk1))) fun _=>aD ⟨bz,.ok a1⟩
theorem BL (hc:jz C) (hG:GOk C n G) (p:Pre C (n+1) 3 0 m s) (hx:Nk C.N x) (hk:x.1=9) (he:cJ e.2.1):(R.eval_run_while G s x.2.2.2.2.2 e l).sat (nZ C m s.2.2.2.2.2.2.1 s):=by
 unfold R.eval_run_while;obtain ⟨i,hi⟩:=hx;have hg:=hc.tr.nod _ x hi;have pm:=p.hm;have hF:=hc.F;have hb0:=p.run.b0;obtain ⟨k0,hk0,n0⟩:=jR hg 0 3 (by rw [hk];simp [shp]) (by rw [hk];rfl);obtain ⟨k1,hk1,n1⟩:=jR hg 1 2 (by rw [hk];simp [shp]) (by rw [hk];rfl);refine aA fun _=>aB (ko (Q:=AO C m s.2.2.2.2.2.2.1 s) (fun y=>((HSub.hSub (α:=Int) (β:=Int) (γ:=Int) (C.F) (y.2.2.2.2.2.2.1))).toNat) (by show ((HSub.hSub (α:=Int) (β:=Int) (γ:=Int) (C.F) (s.2.2.2.2.2.2.1))).toNat<=_;omega) (fun y=>Aft C m s.2.2.2.2.2.2.1 s y) (Aft.refl p.run) fun s1 yI=>?_) fun r hr=>aD hr;refine iQ (by decide) hk0 (aB (hG.asked (p.go yI (by decide) (by omega)) n0 he) fun r1 ⟨v1,g1⟩=>aA fun _=>aB (R:=fun b=>b=false->Eq (α:=Int) (r1.1.2.1) (0)) (cE (fun _=>aD fun e=>by cases e) fun e=>aD fun _=>e) fun b hb=>aH (fun _=>aD ⟨v1,Pst.lP yI g1⟩) fun eb=>?_);have a1:=(Pst.lP yI g1).a0 (hb eb);have hlt:LE.le (α:=Int) ((HAdd.hAdd (α:=Int) (β:=Int) (γ:=Int) (s1.2.2.2.2.2.2.1) (1))) (r1.2.2.2.2.2.2.2.1):=(g1.a0 (hb eb)).bg;refine iQ (by decide) hk1 (aB (hG.statement (l:=[]) (p.go a1 (by decide) (by omega)) n1.any he a1.run.d0) fun r2 ⟨v2,g2⟩=>aA fun _=>aB (Cj v2) fun r3 ⟨v3,t1,t2⟩=>aA fun _=>aH (fun e3=>aD ?_) fun e3=>aD ⟨v3,?_⟩)
 ·have a2:=(Pst.lP a1 g2).aft (t1 e3);have h2:LE.le (α:=Int) ((HAdd.hAdd (α:=Int) (β:=Int) (γ:=Int) (r1.2.2.2.2.2.2.2.1) (1))) (r2.2.2.2.2.2.2.2.1):=(g2.aft (t1 e3)).bg;have h3:=a2.run.bg;have h0:=yI.run.b0;refine ⟨?_,a2⟩;show ((HSub.hSub (α:=Int) (β:=Int) (γ:=Int) (C.F) (r2.2.2.2.2.2.2.2.1))).toNat < ((HSub.hSub (α:=Int) (β:=Int) (γ:=Int) (C.F) (s1.2.2.2.2.2.2.1))).toNat;omega
 ·rcases t2 e3 with e4|⟨e4,e5⟩
  ·show Pst C m s.2.2.2.2.2.2.1 s r3.2.1 r2.2
   rw [show r3.2.1=r2.1.1 from e4]
   exact Pst.lP a1 g2
  ·exact (Pst.lP a1 g2).how e4 e5
theorem Aw (hc:jz C) (hG:GOk C n G) (p:Pre C (n+1) 2 100300000 m s) (hn:Nd C.N 1 k) (hv:cJ v) (he:cJ e.2.1):(R.eval_run_catch G s a k v e).sat (nZ C (m+10) s.2.2.2.2.2.2.1 s):=by
 unfold R.eval_run_catch;have pm:=p.hm;have a0:=Aft.refl p.run;refine aA fun _=>eD (aH (fun _=>af (bH (hG.statement (l:=[]) (p.go a0 (by decide) (by omega)) hn he a0.run.d0) fun _ hr=>⟨hr.1,(Pst.lP a0 hr.2).up (by omega)⟩)) fun _=>aB (ph p.run (by omega)) fun r1 ⟨g1,_⟩=>aA fun _=>cE (fun _=>aD ⟨bz,g1.up (by omega)⟩) fun e1=>?_);have a1:=g1.a0 e1;refine aB (qA a1.run (by omega) hv) fun r2 a2=>aA fun _=>?_;have a3:=a1.cat a2;exact af (bH (hG.statement (l:=[]) (p.go a3 (by decide) (by omega)) hn he a3.run.d0) fun _ hr=>⟨hr.1,(Pst.lP a3 hr.2).up (by omega)⟩)
theorem Ee (hc:jz C) (hG:GOk C n G) (p:Pre C (n+1) 3 100300000 m s) (hx:Nk C.N x) (hk:x.1=16) (he:cJ e.2.1):(R.eval_run_try G s x.2.2.2.2.2 e).sat (nZ C (m+100300000) s.2.2.2.2.2.2.1 s):=by
 unfold R.eval_run_try;obtain ⟨i,hi⟩:=hx;have hg:=hc.tr.nod _ x hi;have pm:=p.hm;have a0:=Aft.refl p.run;obtain ⟨k0,hk0,n0⟩:=jR hg 0 8 (by rw [hk];simp [shp]) (by rw [hk];rfl);obtain ⟨k1,hk1,n1⟩:=jR hg 1 11 (by rw [hk];simp [shp]) (by rw [hk];rfl);obtain ⟨k2,hk2,n2⟩:=jR hg 2 12 (by rw [hk];simp [shp]) (by rw [hk];rfl);have n1':=n1;have n2':=n2;obtain ⟨k10,y1,hy1,_⟩:=n1';obtain ⟨k20,y2,hy2,_⟩:=n2';refine aA fun _=>iQ (by decide) hk0 (aB (hG.statement (l:=[]) (p.go a0 (by decide) (by omega)) n0.any he a0.run.d0) fun r1 ⟨v1,g1⟩=>aA fun _=>?_);have g1:=Pst.lP a0 g1;refine aB (R:=AO C (m+10) s.2.2.2.2.2.2.1 s) (iQ (by decide) hk1 (Ci g1.nd k10 hy1 (aB (R:=fun b=>b=true->Eq (α:=Int) (r1.1.1) (4)/\y1.1=17) (bL (fun e=>aD fun e'=>⟨e,eq_of_beq e'⟩) fun _=>aD fun e=>by cases e) fun b hb=>aH (fun eb=>?_) fun _=>aD ⟨v1,g1.up (by omega)⟩))) fun r2 hr2=>?_
 ·obtain ⟨e1,e2⟩:=hb eb;have a1:=g1.aft (jg e1 (by decide));have hgy:=hc.tr.nod _ y1 hy1;obtain ⟨q,hq,nq⟩:=jR hgy 0 8 (by rw [e2];simp [shp]) (by rw [e2];rfl);exact iQ (by decide) hq (aB (hG.Eg (p.go a1 (by decide) (by omega)) nq.any v1 he) fun r ⟨v,g⟩=>aA fun _=>aD ⟨v,Pst.cat a1 g⟩)
 ·obtain ⟨s2,o⟩:=r2;obtain ⟨v2,g2⟩:=hr2;have v2:cJ o.2.2:=v2;have g2:Pst C (m+10) s.2.2.2.2.2.2.1 s o.1 s2:=g2;refine aB (R:=fun b=>b=false->Ne (α:=Int) (o.1) (5)) (bL (fun _=>aD fun e=>by cases e) fun h5=>iQ (by decide) hk2 (Ci g2.nd k20 hy2 (aD fun _=>h5))) fun b hb=>aH (fun _=>aD ⟨v2,g2.up (by omega)⟩) fun eb=>?_;have a2:=g2.aft (hb eb);exact iQ (by decide) hk2 (aB (hG.statement (l:=[]) (p.go a2 (by decide) (by omega)) n2.any he a2.run.d0) fun r3 ⟨v3,g3⟩=>aA fun _=>cE (fun _=>aD ⟨v3,(Pst.lP a2 g3).up (by omega)⟩) fun e3=>aD ⟨v2,.inr ⟨hb eb,((Pst.lP a2 g3).a0 e3).up (by omega)⟩⟩)
end
end Go.Mach

