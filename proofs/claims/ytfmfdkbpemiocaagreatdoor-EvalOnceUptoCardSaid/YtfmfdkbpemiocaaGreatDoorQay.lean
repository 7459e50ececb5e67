/-
  Proved here: the law renlaw12.EvalOnce returns true for every input of the stated bulk and leaves its arguments as they were; no further condition.
  By an AI agent; no person has read it.
-/
import Derived.Test.YtfmfdkbpemiocaaGreatDoorQac
import Derived.Test.YtfmfdkbpemiocaaGreatDoorQae
import Derived.Lib.ItoaLen
set_option linter.all false
set_option linter.deprecated false
set_option maxRecDepth 100000
namespace Go.Mach
open Res
structure Wd where
 (L L':eJ.den) (A A':List eU.den) (m m':Int) (P:Int->Prop)
 hA:(P 0/\A <+: A')\/A=A'
 h4:(P 4/\LE.le (α:=Int) m m')\/m=m'
 h5:(P 5/\LE.le (α:=Int) L.2.1 L'.2.1)\/L.2.1=L'.2.1
 h6:(P 6/\LE.le (α:=Int) L.2.2 L'.2.2)\/L.2.2=L'.2.2
 la:A.length<=2^40
def Wd.U(W:Wd):Type:={ x:Int // 0<=x/\x<=W.A.length }
abbrev RnT:=aJ.den
abbrev RsT:=Int×(Int×(fT.den×iY.den))
abbrev NdT:=List aE.den
abbrev ClT:=List gu.den
variable (W:Wd)
abbrev lf(N:NdT)(u:W.U)(c:ClT)(z:RsT):RnT:=(N,(W.L,(W.A,(u.1,((W.m,c),z)))))
abbrev rf(N:NdT)(u:W.U)(c:ClT)(z:RsT):RnT:=(N,(W.L',(W.A',(u.1,((W.m',c),z)))))
variable {α β γ δ ε:Type}{α' β':Type}
def Sy(Q:α->α'->Prop)(B:α->Prop)(m:Res α)(m':Res α'):Prop:=∀ a,m.strip=some a->B a\/∃ b,m'.strip=some b/\Q a b
def Bd(B:α->Prop)(m:Res α):Prop:=∀ a,m.strip=some a->B a
class Cs (W:outParam Wd) (m:Res α) (m':Res α') (Q:outParam (α->α'->Prop)) (B:outParam (α->Prop)):Prop where
 h:Sy Q B m m'
def QV(a b:α×RnT):Prop:=∃ v N u c z,a=(v,lf W N u c z)/\b=(v,rf W N u c z)
def QR(a b:RnT):Prop:=∃ N u c z,a=lf W N u c z/\b=rf W N u c z
def QX(a b:RnT×α):Prop:=∃ v N u c z,a=(lf W N u c z,v)/\b=(rf W N u c z,v)
def Q3(a b:α×(RnT×β)):Prop:=∃ x v N u c z,a=(x,(lf W N u c z,v))/\b=(x,(rf W N u c z,v))
def Q4(a b:α×(β×(RnT×γ))):Prop:=∃ x y v N u c z,a=(x,(y,(lf W N u c z,v)))/\b=(x,(y,(rf W N u c z,v)))
def Q5(a b:α×(β×RnT)):Prop:=∃ x y N u c z,a=(x,(y,lf W N u c z))/\b=(x,(y,rf W N u c z))
def QH(a b:α×(Int×ClT)):Prop:=∃ v c,a=(v,(W.m,c))/\b=(v,(W.m',c))
def QI(a b:Int×ClT):Prop:=∃ c,a=(W.m,c)/\b=(W.m',c)
def QS(Q:α->α'->Prop)(R:β->β'->Prop):Res.Step α β->Res.Step α' β'->Prop
 |.next a,.next b=>Q a b
 |.done a,.done b=>R a b
 |_,_=>False
def QU(Q:α->α'->Prop)(R:β->β'->Prop):α ⊕ β->α' ⊕ β'->Prop
 |.inl a,.inl b=>Q a b
 |.inr a,.inr b=>R a b
 |_,_=>False
def bad(s:RnT):Prop:=W.P s.2.2.2.2.2.2.2.2.1
def BN(_:α):Prop:=False
def BV(a:(α×Int)×RnT):Prop:=∃ v s,a=((v,5),s)/\bad W s
def BO(a:(Int×α)×RnT):Prop:=∃ v s,a=((5,v),s)/\bad W s
def BI(a:Int×RnT):Prop:=∃ s,a=(5,s)/\bad W s
def BF(a:Bool×RnT):Prop:=∃ s,a=(false,s)/\bad W s
def BP(a:(α×(Int×β))×RnT):Prop:=∃ x v s,a=((x,(5,v)),s)/\bad W s
def BW(a:(α×(β×Int))×RnT):Prop:=∃ x v s,a=((x,(v,5)),s)/\bad W s
def BX(a:RnT×(Int×α)):Prop:=∃ v s,a=(s,(5,v))/\bad W s
def B3(a:Int×(RnT×α)):Prop:=∃ v s,a=(5,(s,v))/\bad W s
def B4(a:α×(Int×(RnT×β))):Prop:=∃ x v s,a=(x,(5,(s,v)))/\bad W s
def BM(a:(Int×Bool)×(Int×ClT)):Prop:=∃ h,a=((0,false),h)/\W.P 4
def BS(B:β->Prop):Res.Step α β->Prop
 |.done b=>B b
 |.next _=>False
def BU(B:β->Prop):α ⊕ β->Prop
 |.inr b=>B b
 |.inl _=>False
variable {W}{Q:α->α'->Prop}{B:α->Prop}
theorem vO{a:α}{b:α'}(h:Q a b):Sy Q B (ok a) (ok b):=λx e=>by cases e;exact .inr ⟨b,rfl,h⟩
theorem jz{b b':Bool}{m:Res α}{m':Res α'}(h:Sy Q B m m'):Sy Q B (given b m) (given b' m'):=h
theorem s_br{c:Bool}{m n:Res α}{m' n':Res α'}(h1:Sy Q B m m')(h2:Sy Q B n n'):Sy Q B (br c m n) (br c m' n'):=by cases c<;>assumption
theorem C1{c:Bool}{m:Res α}{m':Res α'}(h:Sy Q B m m'):Sy Q B (aZ c m) (aZ c m'):=by
 cases c
 ·exact λ_ e=>by cases e
 ·exact h
theorem GY{t:Ty}{l:List t.den}{i:Int}{k:t.den->Res α}{k':t.den->Res α'}(h:∀ x,Sy Q B (k x) (k' x)):Sy Q B (idx t l i k) (idx t l i k'):=by
 unfold idx;cases decide (0<=i)
 ·exact λ_ e=>by cases e
 ·show Sy Q B (match l[i.toNat]? with|some x=>_|none=>_) (match l[i.toNat]? with|some x=>_|none=>_)
  cases l[i.toNat]? with
  |none=>exact λ_ e=>by cases e
  |some x=>exact h x
theorem GQ{t:Sh}{l:List t.den}{i:Int}{k:t.den->Res α}{k':t.den->Res α'}(h:∀ x,Sy Q B (k x) (k' x)):Sy Q B (cO t l i k) (cO t l i k'):=by
 unfold cO;cases decide (0<=i)
 ·exact λ_ e=>by cases e
 ·show Sy Q B (match l[i.toNat]? with|some x=>_|none=>_) (match l[i.toNat]? with|some x=>_|none=>_)
  cases l[i.toNat]? with
  |none=>exact λ_ e=>by cases e
  |some x=>exact h x
theorem AB{m:Res β}{k:β->Res α}{k':β->Res α'}(h:∀ x,Sy Q B (k x) (k' x)):Sy Q B (m.bind k) (m.bind k'):=λa e=>by
 rw [ky] at e ⊢
 cases hm:m.strip with
 |none=>rw [hm] at e;cases e
 |some x=>rw [hm] at e;exact h x a e
theorem nN{m:Res β}{m':Res β'}{k:β->Res α}{k':β'->Res α'}{R:β->β'->Prop}{C:β->Prop}(h:Sy R C m m')(hk:∀ a b,R a b->Sy Q B (k a) (k' b))(hb:∀ a,C a->Bd B (k a)):Sy Q B (m.bind k) (m'.bind k'):=λa e=>by
 rw [ky] at e ⊢
 cases hm:m.strip with
 |none=>rw [hm] at e;cases e
 |some x =>
  rw [hm] at e;rcases h x hm with h1|⟨y,h1,h2⟩
  ·exact .inl (hb x h1 a e)
  ·rw [h1];exact hk x y h2 a e
theorem Cs.call{m:Res β}{m':Res β'}{k:β->Res α}{k':β'->Res α'}{R:β->β'->Prop}{C:β->Prop}[h:Cs W m m' R C](hk:∀ a b,R a b->Sy Q B (k a) (k' b))(hb:∀ a,C a->Bd B (k a)):Sy Q B (m.bind k) (m'.bind k'):=nN h.h hk hb
theorem vZ{m:Res β}{f:β->Res γ}{k:γ->Res α}:((m.bind f).bind k).strip=(m.bind λx=>(f x).bind k).strip:=by
 rw [ky,ky,ky]
 cases m.strip with
 |none=>rfl
 |some x=>exact ky.symm
theorem Dy{m:Res β}{m':Res β'}{f:β->Res γ}{f':β'->Res δ}{k:γ->Res α}{k':δ->Res α'}(h:Sy Q B (m.bind λx=>(f x).bind k) (m'.bind λx=>(f' x).bind k')):Sy Q B ((m.bind f).bind k) ((m'.bind f').bind k'):=λa e=>by
 rw [vZ] at e ⊢;exact h a e
theorem EN{a:β}{a':β'}{k:β->Res α}{k':β'->Res α'}(h:Sy Q B (k a) (k' a')):Sy Q B ((ok a).bind k) ((ok a').bind k'):=h
theorem As{b b':Bool}{m:Res β}{m':Res β'}{k:β->Res α}{k':β'->Res α'}(h:Sy Q B (m.bind k) (m'.bind k')):Sy Q B ((given b m).bind k) ((given b' m').bind k'):=h
theorem sb_br{c:Bool}{m n:Res β}{m' n':Res β'}{k:β->Res α}{k':β'->Res α'}(h1:Sy Q B (m.bind k) (m'.bind k'))(h2:Sy Q B (n.bind k) (n'.bind k')):Sy Q B ((br c m n).bind k) ((br c m' n').bind k'):=by cases c<;>assumption
theorem Kd{c:Bool}{m:Res β}{m':Res β'}{k:β->Res α}{k':β'->Res α'}(h:Sy Q B (m.bind k) (m'.bind k')):Sy Q B ((aZ c m).bind k) ((aZ c m').bind k'):=by
 cases c
 ·exact λ_ e=>by cases e
 ·exact h
theorem H8{t:Ty}{l:List t.den}{i:Int}{f:t.den->Res β}{f':t.den->Res β'}{k:β->Res α}{k':β'->Res α'}(h:∀ x,Sy Q B ((f x).bind k) ((f' x).bind k')):Sy Q B ((idx t l i f).bind k) ((idx t l i f').bind k'):=by
 have e:∀ {δ:Type}(f:t.den->Res δ){ε:Type}(k:δ->Res ε),(idx t l i f).bind k=idx t l i λx=>(f x).bind k:=λf _ k=>by
  unfold idx;cases decide (0<=i)
  ·rfl
  ·show (match l[i.toNat]? with|some x=>_|none=>_:Res _).bind k=(match l[i.toNat]? with|some x=>_|none=>_)
   cases l[i.toNat]?<;>rfl
 rw [e,e];exact GY h
theorem Ja{t:Sh}{l:List t.den}{i:Int}{f:t.den->Res β}{f':t.den->Res β'}{k:β->Res α}{k':β'->Res α'}(h:∀ x,Sy Q B ((f x).bind k) ((f' x).bind k')):Sy Q B ((cO t l i f).bind k) ((cO t l i f').bind k'):=by
 have e:∀ {δ:Type}(f:t.den->Res δ){ε:Type}(k:δ->Res ε),(cO t l i f).bind k=cO t l i λx=>(f x).bind k:=λf _ k=>by
  unfold cO;cases decide (0<=i)
  ·rfl
  ·show (match l[i.toNat]? with|some x=>_|none=>_:Res _).bind k=(match l[i.toNat]? with|some x=>_|none=>_)
   cases l[i.toNat]?<;>rfl
 rw [e,e];exact GQ h
theorem s_next{a:α}{b:α'}{R:β->β'->Prop}{C:Res.Step α β->Prop}(h:Q a b):Sy (QS Q R) C (ok (.next a)) (ok (.next b)):=vO h
theorem s_done{a:α}{b:α'}{R:β->β'->Prop}{C:Res.Step β α->Prop}(h:Q a b):Sy (QS R Q) C (ok (.done a)) (ok (.done b)):=vO h
theorem s_dl{γ':Type}{a:α}{b:α'}{R:β->β'->Prop}{T:γ->γ'->Prop}{C:Res.Step β (α ⊕ γ)->Prop}(h:Q a b):Sy (QS R (QU Q T)) C (ok (.done (.inl a))) (ok (.done (.inl b))):=vO h
theorem s_dr{γ':Type}{a:α}{b:α'}{R:β->β'->Prop}{T:γ->γ'->Prop}{C:Res.Step β (γ ⊕ α)->Prop}(h:Q a b):Sy (QS R (QU T Q)) C (ok (.done (.inr a))) (ok (.done (.inr b))):=vO h
theorem te{R:β->β'->Prop}{f:β->Res (Res.Step β α)}{f':β'->Res (Res.Step β' α')}(h:∀ a b,R a b->Sy (QS R Q) (BS B) (f a) (f' b)){n:Nat}{a:β}{b:β'}(hr:R a b):Sy Q B (loop f n a) (loop f' n b):=by
 induction n generalizing a b with
 |zero=>exact λ_ e=>by cases e
 |succ n ih =>
  refine nN (h a b hr) (λx y hxy=>?_) λx hx=>?_
  ·cases x<;>cases y
   ·exact ih hxy
   ·exact hxy.elim
   ·exact hxy.elim
   ·exact vO hxy
  ·cases x with
   |next x=>exact hx.elim
   |done x=>exact λy e=>by cases e;exact hx
theorem s_u{β' γ':Type}{R:β->β'->Prop}{T:γ->γ'->Prop}{k:β ⊕ γ->Res α}{k':β' ⊕ γ'->Res α'}(h1:∀ a b,R a b->Sy Q B (k (.inl a)) (k' (.inl b)))(h2:∀ a b,T a b->Sy Q B (k (.inr a)) (k' (.inr b))):∀ a b,QU R T a b->Sy Q B (k a) (k' b):=λa b h=>by
 cases a<;>cases b
 ·exact h1 _ _ h
 ·exact h.elim
 ·exact h.elim
 ·exact h2 _ _ h
theorem b_u{C:γ->Prop}{k:β ⊕ γ->Res α}(h:∀ a,C a->Bd B (k (.inr a))):∀ a,BU C a->Bd B (k a):=λa h1=>by
 cases a
 ·exact h1.elim
 ·exact h _ h1
theorem s_suml{a:β}{a':β'}{f:β->Res α}{g:γ->Res α}{f':β'->Res α'}{g':δ->Res α'}(h:Sy Q B (f a) (f' a')):Sy Q B (sum (.inl a) f g) (sum (.inl a') f' g'):=h
theorem s_sumr{a:γ}{a':δ}{f:β->Res α}{g:γ->Res α}{f':β'->Res α'}{g':δ->Res α'}(h:Sy Q B (g a) (g' a')):Sy Q B (sum (.inr a) f g) (sum (.inr a') f' g'):=h
theorem jM{a:α}(h:B a):Bd B (ok a):=λx e=>by cases e;exact h
theorem b_done{a:α}(h:B a):Bd (BS (α:=β) B) (ok (.done a)):=jM h
theorem b_dr{a:α}(h:B a):Bd (BS (α:=β) (BU (α:=γ) B)) (ok (.done (.inr a))):=jM h
theorem bR{b:Bool}{m:Res α}(h:Bd B m):Bd B (given b m):=h
theorem b_t{c:Bool}(hc:c=true){m n:Res α}(h:Bd B m):Bd B (br c m n):=by subst hc;exact h
theorem b_f{c:Bool}(hc:c=false){m n:Res α}(h:Bd B n):Bd B (br c m n):=by subst hc;exact h
theorem b_br{c:Bool}{m n:Res α}(h1:Bd B m)(h2:Bd B n):Bd B (br c m n):=by cases c<;>assumption
theorem bb_t{c:Bool}(hc:c=true){m n:Res β}{k:β->Res α}(h:Bd B (m.bind k)):Bd B ((br c m n).bind k):=by subst hc;exact h
theorem zU{c:Bool}(hc:c=false){m n:Res β}{k:β->Res α}(h:Bd B (n.bind k)):Bd B ((br c m n).bind k):=by subst hc;exact h
theorem kR{a:β}{k:β->Res α}(h:Bd B (k a)):Bd B ((ok a).bind k):=h
theorem nw{b:Bool}{m:Res β}{k:β->Res α}(h:Bd B (m.bind k)):Bd B ((given b m).bind k):=h
theorem nx{m:Res β}{f:β->Res γ}{k:γ->Res α}(h:Bd B (m.bind λx=>(f x).bind k)):Bd B ((m.bind f).bind k):=λa e=>by
 rw [vZ] at e;exact h a e
theorem wK{a:β}{f:β->Res α}{g:γ->Res α}(h:Bd B (f a)):Bd B (sum (.inl a) f g):=h
theorem tk{a:γ}{f:β->Res α}{g:γ->Res α}(h:Bd B (g a)):Bd B (sum (.inr a) f g):=h
theorem EP{m:Res α}{m':Res α'}(h:Bd B m):Sy Q B m m':=λa e=>.inl (h a e)
theorem s_le{x x' y:Int}{P:Prop}{m n:Res α}{m' n':Res α'}(h:(P/\LE.le (α:=Int) x x')\/x=x')(hb:P->Bd B m)(h1:x=x'->Sy Q B m m')(h2:Sy Q B n n'):Sy Q B (br (ile x y) m n) (br (ile x' y) m' n'):=by
 rcases h with ⟨hp,hx⟩|hx
 ·cases h3:ile x y with
  |true=>exact EP (hb hp)
  |false =>
   have h4:ile x' y=false:=by rw [ki] at h3 ⊢;omega
   rw [h4];exact h2
 ·subst hx;exact s_br (h1 rfl) h2
theorem s_idx2{t:Ty}{l l':List t.den}{i:Int}{k:t.den->Res α}{k':t.den->Res α'}(hl:∀ x,l[i.toNat]?=some x->l'[i.toNat]?=some x)(h:∀ x,Sy Q B (k x) (k' x)):Sy Q B (idx t l i k) (idx t l' i k'):=by
 unfold idx;cases decide (0<=i)
 ·exact λ_ e=>by cases e
 ·show Sy Q B (match l[i.toNat]? with|some x=>_|none=>_) (match l'[i.toNat]? with|some x=>_|none=>_)
  cases hx:l[i.toNat]? with
  |none=>exact λ_ e=>by cases e
  |some x=>rw [hl x hx];exact h x
abbrev stp(s:RnT)(i:Int):RnT:=(s.1,(s.2.1,(s.2.2.1,(s.2.2.2.1,(s.2.2.2.2.1,(s.2.2.2.2.2.1,(s.2.2.2.2.2.2.1,(s.2.2.2.2.2.2.2.1,(i,([]:List Int))))))))))
theorem rB{s:RnT}{i:Int}{k:Int×RnT->Res α}(h:Bd B (k (5,stp s i))):Bd B ((R.cF s i).bind k):=h
theorem HN{m n:Res α}{m' n':Res α'}(h:Sy Q B m m'):Sy Q B (br true m n) (br true m' n'):=h
theorem s_brf{m n:Res α}{m' n':Res α'}(h:Sy Q B n n'):Sy Q B (br false m n) (br false m' n'):=h
theorem s_eqb{m:Res Bool}{k:Bool->Res α}{k':Bool->Res α'}(h:∀ x,Sy Q B (k x) (k' x)):Sy Q B (m.bind k) (m.bind k'):=AB h
theorem gX{m:Res β}{k:β->Res α}(h:∀ x,Bd B (k x)):Bd B (m.bind k):=λa e=>by
 rw [ky] at e
 cases hm:m.strip with
 |none=>rw [hm] at e;cases e
 |some x=>rw [hm] at e;exact h x a e
theorem b_goes{v:List UInt8×aC.den}{l:List (List UInt8)}{k:Bool×aR.den->Res α}(h:Bd B (k (false,(5,v)))):Bd B ((R.iL (5,v) l).bind k):=h
theorem HR{i:Int}{v:aC.den}{k:aR.den->Res α}(h:Bd B (k (5,([],v)))):Bd B ((R.eV i v 5).bind k):=h
theorem p7{c:Bool}{m:Res α}(h:Bd B m):Bd B (aZ c m):=by
 cases c
 ·exact λ_ e=>by cases e
 ·exact h
theorem xW{t:Ty}{l:List t.den}{i:Int}{k:t.den->Res α}(h:∀ x,Bd B (k x)):Bd B (idx t l i k):=λa e=>(GY (Q:=λ_ _=>False) (B:=B) (k':=k) λx=>EP (h x)) a e |>.elim id λ⟨_,_,h⟩=>h.elim
theorem DD{t:Ty}{l:List t.den}{i:Int}{f:t.den->Res β}{k:β->Res α}(h:∀ x,Bd B ((f x).bind k)):Bd B ((idx t l i f).bind k):=λa e=>(H8 (Q:=λ_ _=>False) (B:=B) (f':=f) (k':=k) λx=>EP (h x)) a e |>.elim id λ⟨_,_,h⟩=>h.elim
theorem AP{c:Bool}{m:Res β}{k:β->Res α}(h:Bd B (m.bind k)):Bd B ((aZ c m).bind k):=by
 cases c
 ·exact λ_ e=>by cases e
 ·exact h
end Go.Mach

set_option maxRecDepth 100000
namespace Go.Mach
open Res
variable {W:Wd}{α β γ:Type}{N:NdT}{u:W.U}{c:ClT}{z:RsT}
theorem qv_i{v:α}:QV W (v,lf W N u c z) (v,rf W N u c z):=⟨_,_,_,_,_,rfl,rfl⟩
theorem qr_i:QR W (lf W N u c z) (rf W N u c z):=⟨_,_,_,_,rfl,rfl⟩
theorem qx_i{v:α}:QX W (lf W N u c z,v) (rf W N u c z,v):=⟨_,_,_,_,_,rfl,rfl⟩
theorem q3_i{x:α}{v:β}:Q3 W (x,(lf W N u c z,v)) (x,(rf W N u c z,v)):=⟨_,_,_,_,_,_,rfl,rfl⟩
theorem q4_i{x:α}{y:β}{v:γ}:Q4 W (x,(y,(lf W N u c z,v))) (x,(y,(rf W N u c z,v))):=⟨_,_,_,_,_,_,_,rfl,rfl⟩
theorem q5_i{x:α}{y:β}:Q5 W (x,(y,lf W N u c z)) (x,(y,rf W N u c z)):=⟨_,_,_,_,_,_,rfl,rfl⟩
theorem qh_i{v:α}:QH W (v,(W.m,c)) (v,(W.m',c)):=⟨_,_,rfl,rfl⟩
theorem qi_i:QI W (W.m,c) (W.m',c):=⟨_,rfl,rfl⟩
variable {s:RnT}
theorem bv_i{v:α}(h:bad W s):BV W ((v,5),s):=⟨_,_,rfl,h⟩
theorem bo_i{v:α}(h:bad W s):BO W ((5,v),s):=⟨_,_,rfl,h⟩
theorem bi_i(h:bad W s):BI W (5,s):=⟨_,rfl,h⟩
theorem bf_i(h:bad W s):BF W (false,s):=⟨_,rfl,h⟩
theorem bp_i{x:α}{v:β}(h:bad W s):BP W ((x,(5,v)),s):=⟨_,_,_,rfl,h⟩
theorem bw_i{x:α}{v:β}(h:bad W s):BW W ((x,(v,5)),s):=⟨_,_,_,rfl,h⟩
theorem bx_i{v:α}(h:bad W s):BX W (s,(5,v)):=⟨_,_,rfl,h⟩
theorem b3_i{v:α}(h:bad W s):B3 W (5,(s,v)):=⟨_,_,rfl,h⟩
theorem b4_i{x:α}{v:β}(h:bad W s):B4 W (x,(5,(s,v))):=⟨_,_,_,rfl,h⟩
theorem s_sumx{α':Type}{Q:α->α'->Prop}{B:α->Prop}{x:β ⊕ γ}{f:β->Res α}{g:γ->Res α}{f':β->Res α'}{g':γ->Res α'}(h1:∀ a,Sy Q B (f a) (f' a))(h2:∀ a,Sy Q B (g a) (g' a)):Sy Q B (sum x f g) (sum x f' g'):=by
 cases x
 ·exact h1 _
 ·exact h2 _
variable {α' β':Type}{Q:α->α'->Prop}{B:α->Prop}
theorem wkv{k:β×RnT->Res α}{k':β×RnT->Res α'}(h:∀ v N u c z,Sy Q B (k (v,lf W N u c z)) (k' (v,rf W N u c z))):∀ a b,QV W a b->Sy Q B (k a) (k' b):=by
 rintro _ _ ⟨_,_,_,_,_,rfl,rfl⟩;exact h _ _ _ _ _
theorem wkr{k:RnT->Res α}{k':RnT->Res α'}(h:∀ N u c z,Sy Q B (k (lf W N u c z)) (k' (rf W N u c z))):∀ a b,QR W a b->Sy Q B (k a) (k' b):=by
 rintro _ _ ⟨_,_,_,_,rfl,rfl⟩;exact h _ _ _ _
theorem wkx{k:RnT×β->Res α}{k':RnT×β->Res α'}(h:∀ v N u c z,Sy Q B (k (lf W N u c z,v)) (k' (rf W N u c z,v))):∀ a b,QX W a b->Sy Q B (k a) (k' b):=by
 rintro _ _ ⟨_,_,_,_,_,rfl,rfl⟩;exact h _ _ _ _ _
theorem wk3{k:β×(RnT×γ)->Res α}{k':β×(RnT×γ)->Res α'}(h:∀ x v N u c z,Sy Q B (k (x,(lf W N u c z,v))) (k' (x,(rf W N u c z,v)))):∀ a b,Q3 W a b->Sy Q B (k a) (k' b):=by
 rintro _ _ ⟨_,_,_,_,_,_,rfl,rfl⟩;exact h _ _ _ _ _ _
theorem wk4{δ:Type}{k:β×(γ×(RnT×δ))->Res α}{k':β×(γ×(RnT×δ))->Res α'}(h:∀ x y v N u c z,Sy Q B (k (x,(y,(lf W N u c z,v)))) (k' (x,(y,(rf W N u c z,v))))):∀ a b,Q4 W a b->Sy Q B (k a) (k' b):=by
 rintro _ _ ⟨_,_,_,_,_,_,_,rfl,rfl⟩;exact h _ _ _ _ _ _ _
theorem wk5{k:β×(γ×RnT)->Res α}{k':β×(γ×RnT)->Res α'}(h:∀ x y N u c z,Sy Q B (k (x,(y,lf W N u c z))) (k' (x,(y,rf W N u c z)))):∀ a b,Q5 W a b->Sy Q B (k a) (k' b):=by
 rintro _ _ ⟨_,_,_,_,_,_,rfl,rfl⟩;exact h _ _ _ _ _ _
theorem wkh{k:β×(Int×ClT)->Res α}{k':β×(Int×ClT)->Res α'}(h:∀ v c,Sy Q B (k (v,(W.m,c))) (k' (v,(W.m',c)))):∀ a b,QH W a b->Sy Q B (k a) (k' b):=by
 rintro _ _ ⟨_,_,rfl,rfl⟩;exact h _ _
theorem wki{k:Int×ClT->Res α}{k':Int×ClT->Res α'}(h:∀ c,Sy Q B (k (W.m,c)) (k' (W.m',c))):∀ a b,QI W a b->Sy Q B (k a) (k' b):=by
 rintro _ _ ⟨_,rfl,rfl⟩;exact h _
theorem wke{k:β->Res α}{k':β->Res α'}(h:∀ a,Sy Q B (k a) (k' a)):∀ a b,a=b->Sy Q B (k a) (k' b):=by
 rintro _ _ rfl;exact h _
theorem whn{k:β->Res α}:∀ a,BN a->Bd B (k a):=λ_ h=>h.elim
theorem whv{k:(β×Int)×RnT->Res α}(h:∀ v s,bad W s->Bd B (k ((v,5),s))):∀ a,BV W a->Bd B (k a):=by
 rintro _ ⟨_,_,rfl,g⟩;exact h _ _ g
theorem who{k:(Int×β)×RnT->Res α}(h:∀ v s,bad W s->Bd B (k ((5,v),s))):∀ a,BO W a->Bd B (k a):=by
 rintro _ ⟨_,_,rfl,g⟩;exact h _ _ g
theorem whi{k:Int×RnT->Res α}(h:∀ s,bad W s->Bd B (k (5,s))):∀ a,BI W a->Bd B (k a):=by
 rintro _ ⟨_,rfl,g⟩;exact h _ g
theorem whf{k:Bool×RnT->Res α}(h:∀ s,bad W s->Bd B (k (false,s))):∀ a,BF W a->Bd B (k a):=by
 rintro _ ⟨_,rfl,g⟩;exact h _ g
theorem whp{k:(β×(Int×γ))×RnT->Res α}(h:∀ x v s,bad W s->Bd B (k ((x,(5,v)),s))):∀ a,BP W a->Bd B (k a):=by
 rintro _ ⟨_,_,_,rfl,g⟩;exact h _ _ _ g
theorem whw{k:(β×(γ×Int))×RnT->Res α}(h:∀ x v s,bad W s->Bd B (k ((x,(v,5)),s))):∀ a,BW W a->Bd B (k a):=by
 rintro _ ⟨_,_,_,rfl,g⟩;exact h _ _ _ g
theorem whx{k:RnT×(Int×β)->Res α}(h:∀ v s,bad W s->Bd B (k (s,(5,v)))):∀ a,BX W a->Bd B (k a):=by
 rintro _ ⟨_,_,rfl,g⟩;exact h _ _ g
theorem wh3{k:Int×(RnT×β)->Res α}(h:∀ v s,bad W s->Bd B (k (5,(s,v)))):∀ a,B3 W a->Bd B (k a):=by
 rintro _ ⟨_,_,rfl,g⟩;exact h _ _ g
theorem wh4{k:β×(Int×(RnT×γ))->Res α}(h:∀ x v s,bad W s->Bd B (k (x,(5,(s,v))))):∀ a,B4 W a->Bd B (k a):=by
 rintro _ ⟨_,_,_,rfl,g⟩;exact h _ _ _ g
theorem whm{k:(Int×Bool)×(Int×ClT)->Res α}(h:∀ s,W.P 4->Bd B (k ((0,false),s))):∀ a,BM W a->Bd B (k a):=by
 rintro _ ⟨_,rfl,g⟩;exact h _ g
theorem sd{p:Prop}(h:p:=by repeat' (first|with_reducible (first|refine jz ?_|refine HN ?_|refine s_brf ?_|refine s_br ?_ ?_|refine C1 ?_|refine GY λ_=>?_|refine GQ λ_=>?_|refine s_suml ?_|refine s_sumr ?_|refine As ?_|refine Dy ?_|refine EN ?_|refine s_eqb λ_=>?_|refine sb_br ?_ ?_|refine Kd ?_|refine H8 λ_=>?_|refine Ja λ_=>?_|refine AB λ_=>?_|refine Cs.call ?_ ?_|refine s_next ?_|refine s_dl ?_|refine s_dr ?_|refine s_done ?_|refine vO ?_|exact qv_i|exact qh_i|exact qr_i|exact qx_i|exact qi_i|exact q3_i|exact q4_i|exact q5_i|rfl|refine s_sumx (λ_=>?_) λ_=>?_|refine s_u ?_ ?_|refine b_u ?_|refine bR ?_|refine rB ?_|refine b_goes ?_|refine HR ?_|refine p7 ?_|refine AP ?_|refine xW λ_=>?_|refine DD λ_=>?_|refine nw ?_|refine nx ?_|refine kR ?_|refine wK ?_|refine tk ?_|refine b_dr ?_|refine b_done ?_|refine jM ?_|refine bv_i ?_|refine bo_i ?_|refine bi_i ?_|refine bf_i ?_|refine bp_i ?_|refine bw_i ?_|refine bx_i ?_|refine b3_i ?_|refine b4_i ?_)|refine b_t rfl ?_|refine b_f rfl ?_|refine bb_t rfl ?_|refine zU rfl ?_|with_reducible refine b_br ?_ ?_|with_reducible refine gX λ_=>?_|refine nN (te (R:=QV W) (Q:=QU (QR W) (QX W)) (B:=BU (BX W)) ?_ ?_) ?_ ?_|refine nN (te (R:=QV W) (Q:=QU (QR W) (Q3 W)) (B:=BU (B3 W)) ?_ ?_) ?_ ?_|refine nN (te (R:=QH W) (Q:=QI W) (B:=BN) ?_ ?_) ?_ ?_|refine nN (te (R:=QR W) (Q:=QX W) (B:=BX W) ?_ ?_) ?_ ?_|refine nN (te (R:=QX W) (Q:=QX W) (B:=BX W) ?_ ?_) ?_ ?_|refine nN (te (R:=Q5 W) (Q:=QU (QV W) (Q4 W)) (B:=BU (B4 W)) ?_ ?_) ?_ ?_|refine nN (te (R:=Eq) (Q:=Eq) (B:=BN) ?_ ?_) ?_ ?_|with_reducible (first|exact whn|(refine wke λ_=>?_;try dsimp only [lf,rf])|(refine wkv λ_ _ _ _ _=>?_;try dsimp only [lf,rf])|(refine wkr λ_ _ _ _=>?_;try dsimp only [lf,rf])|(refine wkx λ_ _ _ _ _=>?_;try dsimp only [lf,rf])|(refine wk3 λ_ _ _ _ _ _=>?_;try dsimp only [lf,rf])|(refine wk4 λ_ _ _ _ _ _ _=>?_;try dsimp only [lf,rf])|(refine wk5 λ_ _ _ _ _ _=>?_;try dsimp only [lf,rf])|(refine wkh λ_ _=>?_;try dsimp only [lf,rf])|(refine wki λ_=>?_;try dsimp only [lf,rf])|(refine whv λ_ _ _=>?_;try dsimp only [lf,rf])|(refine who λ_ _ _=>?_;try dsimp only [lf,rf])|(refine whi λ_ _=>?_;try dsimp only [lf,rf])|(refine whf λ_ _=>?_;try dsimp only [lf,rf])|(refine whp λ_ _ _ _=>?_;try dsimp only [lf,rf])|(refine whw λ_ _ _ _=>?_;try dsimp only [lf,rf])|(refine whx λ_ _ _=>?_;try dsimp only [lf,rf])|(refine wh3 λ_ _ _=>?_;try dsimp only [lf,rf])|(refine wh4 λ_ _ _ _=>?_;try dsimp only [lf,rf])|(refine whm λ_ _=>?_;try dsimp only [lf,rf]) )|assumption|dsimp only [lf,rf]|dsimp only)):p:=h
end Go.Mach

set_option maxRecDepth 100000
namespace Go.Mach
open Res
variable {W:Wd}{N:NdT}{u:W.U}{c:ClT}{z:RsT}
instance m_hhas{a}:Cs W (R.bB (W.m,c) a) (R.bB (W.m',c) a) Eq BN:=⟨by unfold R.bB;exact sd⟩
instance m_hslot{a b}:Cs W (R.c7 (W.m,c) a b) (R.c7 (W.m',c) a b) Eq BN:=⟨by unfold R.c7;exact sd⟩
instance LC{a b d e f}:Cs W (R.bE (W.m,c) a b d e f) (R.bE (W.m',c) a b d e f) (QH W) BN:=⟨by unfold R.bE;exact sd⟩
instance m_hplace{a b}:Cs W (R.dI (W.m,c) a b) (R.dI (W.m',c) a b) Eq BN:=⟨by unfold R.dI;exact sd⟩
instance m_hPut{a b d}:Cs W (R.bc (W.m,c) a b d) (R.bc (W.m',c) a b d) (QH W) BN:=⟨by unfold R.bc;exact sd⟩
instance m_hGive{a b d e}:Cs W (R.cN (W.m,c) a b d e) (R.cN (W.m',c) a b d e) (QH W) BN:=⟨by unfold R.cN;exact sd⟩
instance m_hCell{a}:Cs W (R.eR (W.m,c) a) (R.eR (W.m',c) a) Eq BN:=⟨by unfold R.eR;exact sd⟩
instance m_hLook{a b}:Cs W (R.dh (W.m,c) a b) (R.dh (W.m',c) a b) Eq BN:=⟨by unfold R.dh;exact sd⟩
instance m_hKind{a}:Cs W (R.bC (W.m,c) a) (R.bC (W.m',c) a) Eq BN:=⟨by unfold R.bC;exact sd⟩
instance EB{a}:Cs W (R.al (W.m,c) a) (R.al (W.m',c) a) Eq BN:=⟨by unfold R.al;exact sd⟩
instance m_hOwn{a b}:Cs W (R.cW (W.m,c) a b) (R.cW (W.m',c) a b) Eq BN:=⟨by unfold R.cW;exact sd⟩
instance m_hFind{a b}:Cs W (R.dm (W.m,c) a b) (R.dm (W.m',c) a b) Eq BN:=⟨by unfold R.dm;exact sd⟩
instance m_hCount{a}:Cs W (R.bW (W.m,c) a) (R.bW (W.m',c) a) Eq BN:=⟨by unfold R.bW;exact sd⟩
instance m_hWrite{a b d}:Cs W (R.dK (W.m,c) a b d) (R.dK (W.m',c) a b d) (QH W) BN:=⟨by unfold R.dK;exact sd⟩
instance m_hKeys{a}:Cs W (R.eQ (W.m,c) a) (R.eQ (W.m',c) a) Eq BN:=⟨by unfold R.eQ;exact sd⟩
instance m_hDrop{a}:Cs W (R.di (W.m,c) a) (R.di (W.m',c) a) (QH W) BN:=⟨by unfold R.di;exact sd⟩
end Go.Mach

set_option maxRecDepth 100000
namespace Go.Mach
open Res
variable {W:Wd}{N:NdT}{u:W.U}{c:ClT}{z:RsT}
instance m_hMake{a}:Cs W (R.dn (W.m,c) a) (R.dn (W.m',c) a) (QH W) (BM W):=⟨by
 unfold R.dn
 exact jz (s_le W.h4 (λhp=>jM ⟨_,rfl,hp⟩) (λ_=>vO qh_i) sd)⟩
instance m_stop{a}:Cs W (R.cF (lf W N u c z) a) (R.cF (rf W N u c z) a) (QV W) BN:=⟨by unfold R.cF;exact sd⟩
instance m_cell{a}:Cs W (R.aX (lf W N u c z) a) (R.aX (rf W N u c z) a) (QV W) (BV W):=⟨by unfold R.aX;exact sd⟩
instance m_begins:Cs W (R.bu (lf W N u c z)) (R.bu (rf W N u c z)) (QV W) (BF W):=⟨by
 unfold R.bu
 exact jz (s_le W.h5 (λhp=>rB (bR (jM (bf_i hp)))) (λ_=>sd) (s_le W.h6 (λhp=>rB (bR (jM (bf_i hp)))) (λ_=>sd) sd))⟩
instance m_ask{a}:Cs W (R.bT (lf W N u c z) a) (R.bT (rf W N u c z) a) (QV W) (BV W):=⟨by
 unfold R.bT;refine jz ?_;dsimp only [lf,rf];have h0:=u.2.1;have h1:=u.2.2;have hl:=W.la
 cases he:(u.1 == (W.A.length:Int)) with
 |true =>
  rcases W.hA with ⟨hp,_⟩|hA
  ·exact EP (b_t rfl (rB (bR (jM (bv_i hp)))))
  ·have he':(u.1 == (W.A'.length:Int))=true:=hA▸he;rw [he'];exact HN sd
 |false =>
  have h2:u.1≠(W.A.length:Int):=by simpa using he
  have hp:W.A <+: W.A':=W.hA.elim (·.2) λh=>h▸List.prefix_refl _;have h3:=hp.length_le
  have he':(u.1 == (W.A'.length:Int))=false:=by simp;omega
  rw [he'];obtain ⟨t,ht⟩:=hp;refine s_brf (s_idx2 (λx hx=>by rw [<- ht,List.getElem?_append_left (List.getElem?_eq_some_iff.1 hx).1];exact hx) λx=>?_);have hw:w6 (u.1+1)=u.1+1:=wrap64 (by omega)
  have hu:0<=w6 (u.1+1)/\w6 (u.1+1)<=W.A.length:=by rw [hw];omega
  exact AB λr=>jz (vO ⟨_,N,⟨_,hu⟩,c,z,rfl,rfl⟩)⟩
end Go.Mach

set_option maxRecDepth 100000
set_option maxHeartbeats 2000000
namespace Go.Mach
open Res
variable {W:Wd}{N:NdT}{u:W.U}{c:ClT}{z:RsT}
instance m_scope{a}:Cs W (R.bm (lf W N u c z) a) (R.bm (rf W N u c z) a) (QV W) (BV W):=⟨by unfold R.bm;exact sd⟩
instance LJ{a b}:Cs W (R.cC (lf W N u c z) a b) (R.cC (rf W N u c z) a b) (QV W) (BV W):=⟨by unfold R.cC;exact sd⟩
instance m_declare{a b}:Cs W (R.cA (lf W N u c z) a b) (R.cA (rf W N u c z) a b) (QV W) (BV W):=⟨by unfold R.cA;exact sd⟩
instance m_turn{a}:Cs W (R.cw (lf W N u c z) a) (R.cw (rf W N u c z) a) (QV W) (BV W):=⟨by unfold R.cw;exact sd⟩
instance m_raise{a}:Cs W (R.cI (lf W N u c z) a) (R.cI (rf W N u c z) a) (QV W) (BV W):=⟨by unfold R.cI;exact sd⟩
instance m_signal{a}:Cs W (R.aF (lf W N u c z) a) (R.aF (rf W N u c z) a) (QV W) (BV W):=⟨by unfold R.aF;exact sd⟩
instance m_exit:Cs W (R.aL (lf W N u c z)) (R.aL (rf W N u c z)) (QV W) (BV W):=⟨by unfold R.aL;exact sd⟩
instance m_known{a b d}:Cs W (R.dB (lf W N u c z) a b d) (R.dB (rf W N u c z) a b d) (QV W) (BV W):=⟨by unfold R.dB;exact sd⟩
instance m_read{a b}:Cs W (R.da (lf W N u c z) a b) (R.da (rf W N u c z) a b) (QV W) (BV W):=⟨by unfold R.da;exact sd⟩
instance m_result{a b}:Cs W (R.bj (lf W N u c z) a b) (R.bj (rf W N u c z) a b) (QV W) (BV W):=⟨by unfold R.bj;exact sd⟩
instance m_sort{a}:Cs W (R.er (lf W N u c z) a) (R.er (rf W N u c z) a) Eq BN:=⟨by unfold R.er;exact sd⟩
instance m_unit{a b}:Cs W (R.eN (lf W N u c z) a b) (R.eN (rf W N u c z) a b) (QV W) (BV W):=⟨by unfold R.eN;exact sd⟩
instance m_item{a b d e}:Cs W (R.eL (lf W N u c z) a b d e) (R.eL (rf W N u c z) a b d e) (QV W) (BV W):=⟨by unfold R.eL;exact sd⟩
instance m_size{a}:Cs W (R.cx (lf W N u c z) a) (R.cx (rf W N u c z) a) Eq BN:=⟨by unfold R.cx;exact sd⟩
instance m_load{a b d e f}:Cs W (R.bh (lf W N u c z) a b d e f) (R.bh (rf W N u c z) a b d e f) (QV W) (BV W):=⟨by unfold R.bh;exact sd⟩
instance m_element{a b}:Cs W (R.cc (lf W N u c z) a b) (R.cc (rf W N u c z) a b) (QV W) (BV W):=⟨by unfold R.cc;exact sd⟩
instance m_view{a b d}:Cs W (R.dd (lf W N u c z) a b d) (R.dd (rf W N u c z) a b d) (QV W) (BV W):=⟨by unfold R.dd;exact sd⟩
instance m_member{a b}:Cs W (R.dJ (lf W N u c z) a b) (R.dJ (rf W N u c z) a b) (QV W) (BV W):=⟨by unfold R.dJ;exact sd⟩
instance m_get{a}:Cs W (R.de (lf W N u c z) a) (R.de (rf W N u c z) a) (QV W) (BV W):=⟨by unfold R.de;exact sd⟩
instance m_take{a b}:Cs W (R.db (lf W N u c z) a b) (R.db (rf W N u c z) a b) (QV W) (BV W):=⟨by unfold R.db;exact sd⟩
instance m_write{a b d}:Cs W (R.dk (lf W N u c z) a b d) (R.dk (rf W N u c z) a b d) (QV W) (BV W):=⟨by unfold R.dk;exact sd⟩
instance m_store{a b d e f g}:Cs W (R.bZ (lf W N u c z) a b d e f g) (R.bZ (rf W N u c z) a b d e f g) (QV W) (BI W):=⟨by unfold R.bZ;exact sd⟩
instance m_put{a b d}:Cs W (R.eg (lf W N u c z) a b d) (R.eg (rf W N u c z) a b d) (QV W) (BV W):=⟨by unfold R.eg;exact sd⟩
instance m_set{a b}:Cs W (R.ee (lf W N u c z) a b) (R.ee (rf W N u c z) a b) (QV W) (BV W):=⟨by unfold R.ee;exact sd⟩
instance m_lay{a b d}:Cs W (R.eG (lf W N u c z) a b d) (R.eG (rf W N u c z) a b d) (QV W) (BV W):=⟨by unfold R.eG;exact sd⟩
instance m_in{a b}:Cs W (R.fc (lf W N u c z) a b) (R.fc (rf W N u c z) a b) (QV W) (BV W):=⟨by unfold R.fc;exact sd⟩
instance m_sharing{a}:Cs W (R.cb (lf W N u c z) a) (R.cb (rf W N u c z) a) (QV W) (BV W):=⟨by unfold R.cb;exact sd⟩
instance m_buffer{a}:Cs W (R.dx (lf W N u c z) a) (R.dx (rf W N u c z) a) Eq BN:=⟨by unfold R.dx;exact sd⟩
instance m_viewing{a}:Cs W (R.ch (lf W N u c z) a) (R.ch (rf W N u c z) a) (QV W) (BV W):=⟨by unfold R.ch;exact sd⟩
instance m_over{a b d e}:Cs W (R.eM (lf W N u c z) a b d e) (R.eM (rf W N u c z) a b d e) (QV W) (BV W):=⟨by unfold R.eM;exact sd⟩
instance m_typing{a b}:Cs W (R.dG (lf W N u c z) a b) (R.dG (rf W N u c z) a b) (QV W) (BV W):=⟨by unfold R.dG;exact sd⟩
instance m_keys{a}:Cs W (R.eI (lf W N u c z) a) (R.eI (rf W N u c z) a) (QV W) (BV W):=⟨by unfold R.eI;exact sd⟩
instance m_create{a b}:Cs W (R.dL (lf W N u c z) a b) (R.dL (rf W N u c z) a b) (QV W) (BV W):=⟨by unfold R.dL;exact sd⟩
instance m_push{a b}:Cs W (R.eK (lf W N u c z) a b) (R.eK (rf W N u c z) a b) (QV W) (BV W):=⟨by unfold R.eK;exact sd⟩
instance LL{a b}:Cs W (R.cR (lf W N u c z) a b) (R.cR (rf W N u c z) a b) (QV W) (BV W):=⟨by unfold R.cR;exact sd⟩
instance m_bigged{a}:Cs W (R.dE (lf W N u c z) a) (R.dE (rf W N u c z) a) (QV W) (BV W):=⟨by unfold R.dE;exact sd⟩
instance m_failure{a b}:Cs W (R.cf (lf W N u c z) a b) (R.cf (rf W N u c z) a b) (QV W) (BV W):=⟨by unfold R.cf;exact sd⟩
instance m_viewed{a b d}:Cs W (R.dF (lf W N u c z) a b d) (R.dF (rf W N u c z) a b d) (QV W) (BV W):=⟨by unfold R.dF;exact sd⟩
instance m_place{a b}:Cs W (R.dq (lf W N u c z) a b) (R.dq (rf W N u c z) a b) (QV W) (BW W):=⟨by unfold R.dq;exact sd⟩
instance m_waits{a b d e f}:Cs W (R.dt (lf W N u c z) a b d e f) (R.dt (rf W N u c z) a b d e f) (QV W) (BV W):=⟨by unfold R.dt;exact sd⟩
instance LW{a b d e}:Cs W (R.cS (lf W N u c z) a b d e) (R.cS (rf W N u c z) a b d e) (QV W) (BV W):=⟨by unfold R.cS;exact sd⟩
end Go.Mach

set_option maxRecDepth 100000
namespace Go.Mach
open Res
variable {W:Wd}{N:NdT}{u:W.U}{c:ClT}{z:RsT}
variable {α β γ:Type}{α' β':Type}{Q:α->α'->Prop}{B:α->Prop}
def zX(c:ClT)(i:Int):Prop:=0<=i/\∃ x,c[i.toNat]?=some x/\x.1=5
theorem s_val{m:Res β}{m':Res β'}{k:β->Res α}{k':β'->Res α'}{x:β}{y:β'}(h:m.strip=some x)(h':m'.strip=some y)(hk:Sy Q B (k x) (k' y)):Sy Q B (m.bind k) (m'.bind k'):=λa e=>by
 rw [ky] at e ⊢;rw [h] at e;rw [h'];exact hk a e
theorem s_ff{b b':Bool}{m n:Res α}{m' n':Res α'}(h:b=false)(h':b'=false)(hk:Sy Q B n n'):Sy Q B (br b m n) (br b' m' n'):=by subst h h';exact hk
theorem s_tt{b b':Bool}{m n:Res α}{m' n':Res α'}(h:b=true)(h':b'=true)(hk:Sy Q B m m'):Sy Q B (br b m n) (br b' m' n'):=by subst h h';exact hk
theorem s_brh{b:Bool}{m n:Res α}{m' n':Res α'}(h1:b=true->Sy Q B m m')(h2:b=false->Sy Q B n n'):Sy Q B (br b m n) (br b m' n'):=by
 cases b
 ·exact h2 rfl
 ·exact h1 rfl
theorem Ix{t:Sh}{l:List t.den}{i:Int}{x:t.den}{k:t.den->Res α}{k':t.den->Res α'}(h0:0<=i)(hx:l[i.toNat]?=some x)(h:Sy Q B (k x) (k' x)):Sy Q B (cO t l i k) (cO t l i k'):=by
 unfold cO;rw [decide_eq_true h0]
 show Sy Q B (match l[i.toNat]? with|some x=>_|none=>_) (match l[i.toNat]? with|some x=>_|none=>_)
 rw [hx];exact h
theorem s_and{m:Res β}{m':Res β'}{R:β->β'->Prop}{C:β->Prop}{F:β->Prop}(h:Sy R C m m')(hf:∀ a,m.strip=some a->F a):Sy (λa b=>R a b/\F a) C m m':=λa e=>(h a e).imp id λ⟨b,h1,h2⟩=>⟨b,h1,h2,hf a e⟩
theorem D6{m i:Int}(h:zX c i):(R.bB (m,c) i).strip=some true:=by
 obtain ⟨h0,x,hx,_⟩:=h;have hl:=(List.getElem?_eq_some_iff.1 hx).1;unfold R.bB
 have h1:ile 0 i=true:=by rw [kE];exact h0
 have h2:ilt i (c.length:Int)=true:=by rw [fh];omega
 show (br (ile 0 i) (ok (ilt i (c.length:Int))) (ok false)).strip=some true;rw [h1,h2];rfl
theorem HH{m i:Int}{a:iJ.den×Bool}(e:(R.al (m,c) i).strip=some a)(h:a.1.1=5):zX c i:=by
 unfold R.al R.bB at e
 cases h1:ile 0 i with
 |false =>
  rw [show ile 0 i=false from h1] at e
  cases e;exact absurd h (by decide)
 |true =>
  rw [show ile 0 i=true from h1] at e
  cases h2:ilt i (c.length:Int) with
  |false =>
   rw [show ilt i (((m,c):Int×ClT).2.length:Int)=false from h2] at e
   cases e;exact absurd h (by decide)
  |true =>
   rw [show ilt i (((m,c):Int×ClT).2.length:Int)=true from h2] at e
   rw [kE] at h1;rw [fh] at h2
   have h3:i.toNat < c.length:=by omega
   refine ⟨h1,c[i.toNat],List.getElem?_eq_getElem h3,?_⟩;have e:(cO kD c i λe2=>ok (((e2.1,(e2.2.1,((),((),(e2.2.2.2.2.1,(e2.2.2.2.2.2.1,(e2.2.2.2.2.2.2.1,(e2.2.2.2.2.2.2.2.1,(e2.2.2.2.2.2.2.2.2.1,(e2.2.2.2.2.2.2.2.2.2.1,(e2.2.2.2.2.2.2.2.2.2.2.1,(e2.2.2.2.2.2.2.2.2.2.2.2.1,())))))))))))),true):iJ.den×Bool)).strip=some a:=e;unfold cO at e;rw [decide_eq_true h1] at e;simp only [List.getElem?_eq_getElem h3] at e;cases e;exact h
theorem G9{m i:Int}(hb:zX c i){a:iJ.den×Bool}(e:(R.al (m,c) i).strip=some a):a.1.1=5:=by
 unfold R.al at e;obtain ⟨h0,x,hx,h5⟩:=hb;have e:((R.bB (m,c) i).bind _).strip=some a:=e;rw [ky,D6 ⟨h0,x,hx,h5⟩] at e;have e:(cO kD c i λe2=>ok (((e2.1,(e2.2.1,((),((),(e2.2.2.2.2.1,(e2.2.2.2.2.2.1,(e2.2.2.2.2.2.2.1,(e2.2.2.2.2.2.2.2.1,(e2.2.2.2.2.2.2.2.2.1,(e2.2.2.2.2.2.2.2.2.2.1,(e2.2.2.2.2.2.2.2.2.2.2.1,(e2.2.2.2.2.2.2.2.2.2.2.2.1,())))))))))))),true):iJ.den×Bool)).strip=some a:=e;unfold cO at e;rw [decide_eq_true h0] at e;simp only [hx] at e;cases e;exact h5
theorem load_b{p:iJ.den}{a b:Int}{s t:Bool}(h:zX c p.2.2.2.2.2.2.2.2.2.1):Sy (λx y=>∃ v c',zX c' p.2.2.2.2.2.2.2.2.2.1/\x=((v,0),lf W N u c' z)/\y=((v,0),rf W N u c' z)) BN (R.bh (lf W N u c z) p a b s t) (R.bh (rf W N u c z) p a b s t):=by
 unfold R.bh;obtain ⟨h0,x,hx,h5⟩:=h;refine jz (s_val (D6 ⟨h0,x,hx,h5⟩) (D6 ⟨h0,x,hx,h5⟩) (s_ff rfl rfl (Ix h0 hx (C1 ?_))));have hl:=(List.getElem?_eq_some_iff.1 hx).1;exact s_tt (by rw [h5];rfl) (by rw [h5];rfl) (AB λ_=>jz (C1 (AB λ_=>jz (vO ⟨_,_,⟨h0,x,by rw [List.getElem?_set_self hl],h5⟩,rfl,rfl⟩))))
theorem I6{p:iJ.den}{a b d:Int}{s t:Bool}(h:zX c p.2.2.2.2.2.2.2.2.2.1):Sy (QV W) BN (R.bZ (lf W N u c z) p a b d s t) (R.bZ (rf W N u c z) p a b d s t):=by
 unfold R.bZ;refine jz (nN (s_and (EB (W:=W) (c:=c)).h λx e=>G9 h e) ?_ λ_ h=>h.elim);rintro x _ ⟨rfl,h5⟩;exact jz (s_tt (by rw [h5];rfl) (by rw [h5];rfl) sd)
instance m_change{a b d}:Cs W (R.cX (lf W N u c z) a b d) (R.cX (rf W N u c z) a b d) (QV W) (BV W):=⟨by
 unfold R.cX;refine jz (AB λ_=>jz (nN (s_and (EB (W:=W) (c:=c)).h λx e h=>HH e h) ?_ λ_ h=>h.elim));rintro x _ ⟨rfl,hf⟩;refine jz (s_brh (λ_=>sd) λh=>?_);refine nN (load_b (hf (by simpa using h))) ?_ λ_ h=>h.elim;rintro _ _ ⟨v,c',hb,rfl,rfl⟩
 exact jz (AB λ_=>jz (AB λ_=>nN (I6 hb) sd λ_ h=>h.elim))⟩
end Go.Mach

set_option maxRecDepth 100000
set_option maxHeartbeats 2000000
namespace Go.Mach
open Res
variable {W:Wd}{N:NdT}{u:W.U}{c:ClT}{z:RsT}
instance m_atomic{a b}:Cs W (R.dH (lf W N u c z) a b) (R.dH (rf W N u c z) a b) (QV W) (BV W):=⟨by unfold R.dH;exact sd⟩
instance m_thrown{a}:Cs W (R.dw (lf W N u c z) a) (R.dw (rf W N u c z) a) Eq BN:=⟨by unfold R.dw;exact sd⟩
end Go.Mach

set_option maxRecDepth 100000
set_option maxHeartbeats 2000000
namespace Go.Mach
open Res
variable {W:Wd}{N:NdT}{u:W.U}{c:ClT}{z:RsT}
class GS (W:Wd) (G:af):Prop where
 Cp:∀ {N u c z a b},Cs W (G.eval_run_list (lf W N u c z) a b) (G.eval_run_list (rf W N u c z) a b) (QV W) (BO W)
 rz:∀ {N u c z a b d},Cs W (G.eval_run_statement (lf W N u c z) a b d) (G.eval_run_statement (rf W N u c z) a b d) (QV W) (BO W)
 HX:∀ {N u c z a b d},Cs W (G.eval_run_act (lf W N u c z) a b d) (G.eval_run_act (rf W N u c z) a b d) (QV W) (BO W)
 qq:∀ {N u c z a b},Cs W (G.eval_run_expression (lf W N u c z) a b) (G.eval_run_expression (rf W N u c z) a b) (QV W) (BV W)
 AA:∀ {N u c z a b},Cs W (G.eval_run_block (lf W N u c z) a b) (G.eval_run_block (rf W N u c z) a b) (QV W) (BO W)
 ze:∀ {N u c z a b},Cs W (G.eval_run_decls (lf W N u c z) a b) (G.eval_run_decls (rf W N u c z) a b) (QV W) (BO W)
 wv:∀ {N u c z a b},Cs W (G.eval_run_choice (lf W N u c z) a b) (G.eval_run_choice (rf W N u c z) a b) (QV W) (BO W)
 zs:∀ {N u c z a b d},Cs W (G.eval_run_while (lf W N u c z) a b d) (G.eval_run_while (rf W N u c z) a b d) (QV W) (BO W)
 DR:∀ {N u c z a b d},Cs W (G.eval_run_loop (lf W N u c z) a b d) (G.eval_run_loop (rf W N u c z) a b d) (QV W) (BO W)
 HA:∀ {N u c z a b},Cs W (G.eval_run_try (lf W N u c z) a b) (G.eval_run_try (rf W N u c z) a b) (QV W) (BO W)
 zy:∀ {N u c z a b},Cs W (G.eval_run_value (lf W N u c z) a b) (G.eval_run_value (rf W N u c z) a b) (QV W) (BV W)
 zE:∀ {N u c z a b},Cs W (G.eval_run_asked (lf W N u c z) a b) (G.eval_run_asked (rf W N u c z) a b) (QV W) (BP W)
 zx:∀ {N u c z a b},Cs W (G.eval_run_first (lf W N u c z) a b) (G.eval_run_first (rf W N u c z) a b) (QV W) (BP W)
 zK:∀ {N u c z a b d e},Cs W (G.eval_run_catch (lf W N u c z) a b d e) (G.eval_run_catch (rf W N u c z) a b d e) (QV W) (BO W)
 zQ:∀ {N u c z a b},Cs W (G.eval_run_array (lf W N u c z) a b) (G.eval_run_array (rf W N u c z) a b) (QV W) (BV W)
 xD:∀ {N u c z a b},Cs W (G.eval_run_object (lf W N u c z) a b) (G.eval_run_object (rf W N u c z) a b) (QV W) (BV W)
 ry:∀ {N u c z a b d},Cs W (G.eval_run_operation (lf W N u c z) a b d) (G.eval_run_operation (rf W N u c z) a b d) (QV W) (BV W)
 zD:∀ {N u c z a b d},Cs W (G.eval_run_unary (lf W N u c z) a b d) (G.eval_run_unary (rf W N u c z) a b d) (QV W) (BV W)
 Cd:∀ {N u c z a b},Cs W (G.eval_run_step (lf W N u c z) a b) (G.eval_run_step (rf W N u c z) a b) (QV W) (BV W)
 xe:∀ {N u c z a b},Cs W (G.eval_run_binary (lf W N u c z) a b) (G.eval_run_binary (rf W N u c z) a b) (QV W) (BV W)
 zZ:∀ {N u c z a b},Cs W (G.eval_run_logic (lf W N u c z) a b) (G.eval_run_logic (rf W N u c z) a b) (QV W) (BV W)
 xd:∀ {N u c z a b},Cs W (G.eval_run_assign (lf W N u c z) a b) (G.eval_run_assign (rf W N u c z) a b) (QV W) (BV W)
 xa:∀ {N u c z a b},Cs W (G.eval_run_callee (lf W N u c z) a b) (G.eval_run_callee (rf W N u c z) a b) (QV W) (BV W)
 sV:∀ {N u c z a b},Cs W (G.eval_run_arguments (lf W N u c z) a b) (G.eval_run_arguments (rf W N u c z) a b) (QV W) (BW W)
 zq:∀ {N u c z a b},Cs W (G.eval_run_fresh (lf W N u c z) a b) (G.eval_run_fresh (rf W N u c z) a b) (QV W) (BV W)
 ti:∀ {N u c z a b},Cs W (G.eval_run_property (lf W N u c z) a b) (G.eval_run_property (rf W N u c z) a b) (QV W) (BV W)
 AE:∀ {N u c z a b},Cs W (G.eval_run_parts (lf W N u c z) a b) (G.eval_run_parts (rf W N u c z) a b) (QV W) (BW W)
 wk:∀ {N u c z a b},Cs W (G.eval_run_called (lf W N u c z) a b) (G.eval_run_called (rf W N u c z) a b) (QV W) (BW W)
 DE:∀ {N u c z a b d},Cs W (G.eval_run_call (lf W N u c z) a b d) (G.eval_run_call (rf W N u c z) a b d) (QV W) (BV W)
 wj:∀ {N u c z a b},Cs W (G.eval_run_builds (lf W N u c z) a b) (G.eval_run_builds (rf W N u c z) a b) (QV W) (BV W)
 zl:∀ {N u c z a b d},Cs W (G.eval_run_apply (lf W N u c z) a b d) (G.eval_run_apply (rf W N u c z) a b d) (QV W) (BV W)
 DY:∀ {N u c z a b d},Cs W (G.eval_run_does (lf W N u c z) a b d) (G.eval_run_does (rf W N u c z) a b d) (QV W) (BV W)
 C8:∀ {N u c z a b},Cs W (G.eval_run_host (lf W N u c z) a b) (G.eval_run_host (rf W N u c z) a b) (QV W) (BV W)
 tP:∀ {N u c z a},Cs W (G.eval_run_receives (lf W N u c z) a) (G.eval_run_receives (rf W N u c z) a) (QV W) (BV W)
attribute [instance] GS.Cp GS.rz GS.HX GS.qq GS.AA GS.ze GS.wv GS.zs GS.DR GS.HA GS.zy GS.zE GS.zx GS.zK GS.zQ GS.xD GS.ry GS.zD GS.Cd GS.xe GS.zZ GS.xd GS.xa GS.sV GS.zq GS.ti GS.AE GS.wk GS.DE GS.wj GS.zl GS.DY GS.C8 GS.tP
variable {G:af} [GS W G]
instance m_list{a b}:Cs W (R.eval_run_list G (lf W N u c z) a b) (R.eval_run_list G (rf W N u c z) a b) (QV W) (BO W):=⟨by unfold R.eval_run_list;exact sd⟩
instance BH{a b d}:Cs W (R.eval_run_statement G (lf W N u c z) a b d) (R.eval_run_statement G (rf W N u c z) a b d) (QV W) (BO W):=⟨by unfold R.eval_run_statement;exact sd⟩
instance m_act{a b d}:Cs W (R.eval_run_act G (lf W N u c z) a b d) (R.eval_run_act G (rf W N u c z) a b d) (QV W) (BO W):=⟨by unfold R.eval_run_act;exact sd⟩
instance AK{a b}:Cs W (R.eval_run_expression G (lf W N u c z) a b) (R.eval_run_expression G (rf W N u c z) a b) (QV W) (BV W):=⟨by unfold R.eval_run_expression;exact sd⟩
instance Jo{a b}:Cs W (R.eval_run_block G (lf W N u c z) a b) (R.eval_run_block G (rf W N u c z) a b) (QV W) (BO W):=⟨by unfold R.eval_run_block;exact sd⟩
instance KH{a b}:Cs W (R.eval_run_decls G (lf W N u c z) a b) (R.eval_run_decls G (rf W N u c z) a b) (QV W) (BO W):=⟨by unfold R.eval_run_decls;exact sd⟩
instance H5{a b}:Cs W (R.eval_run_choice G (lf W N u c z) a b) (R.eval_run_choice G (rf W N u c z) a b) (QV W) (BO W):=⟨by unfold R.eval_run_choice;exact sd⟩
instance JO{a b d}:Cs W (R.eval_run_while G (lf W N u c z) a b d) (R.eval_run_while G (rf W N u c z) a b d) (QV W) (BO W):=⟨by unfold R.eval_run_while;exact sd⟩
instance m_loop{a b d}:Cs W (R.eval_run_loop G (lf W N u c z) a b d) (R.eval_run_loop G (rf W N u c z) a b d) (QV W) (BO W):=⟨by unfold R.eval_run_loop;exact sd⟩
instance m_try{a b}:Cs W (R.eval_run_try G (lf W N u c z) a b) (R.eval_run_try G (rf W N u c z) a b) (QV W) (BO W):=⟨by unfold R.eval_run_try;exact sd⟩
instance KW{a b}:Cs W (R.eval_run_value G (lf W N u c z) a b) (R.eval_run_value G (rf W N u c z) a b) (QV W) (BV W):=⟨by unfold R.eval_run_value;exact sd⟩
instance KZ{a b}:Cs W (R.eval_run_asked G (lf W N u c z) a b) (R.eval_run_asked G (rf W N u c z) a b) (QV W) (BP W):=⟨by unfold R.eval_run_asked;exact sd⟩
instance KQ{a b}:Cs W (R.eval_run_first G (lf W N u c z) a b) (R.eval_run_first G (rf W N u c z) a b) (QV W) (BP W):=⟨by unfold R.eval_run_first;exact sd⟩
instance JR{a b d e}:Cs W (R.eval_run_catch G (lf W N u c z) a b d e) (R.eval_run_catch G (rf W N u c z) a b d e) (QV W) (BO W):=⟨by unfold R.eval_run_catch;exact sd⟩
instance Jh{a b}:Cs W (R.eval_run_array G (lf W N u c z) a b) (R.eval_run_array G (rf W N u c z) a b) (QV W) (BV W):=⟨by unfold R.eval_run_array;exact sd⟩
instance GP{a b}:Cs W (R.eval_run_object G (lf W N u c z) a b) (R.eval_run_object G (rf W N u c z) a b) (QV W) (BV W):=⟨by unfold R.eval_run_object;exact sd⟩
instance B1{a b d}:Cs W (R.eval_run_operation G (lf W N u c z) a b d) (R.eval_run_operation G (rf W N u c z) a b d) (QV W) (BV W):=⟨by unfold R.eval_run_operation;exact sd⟩
instance Jp{a b d}:Cs W (R.eval_run_unary G (lf W N u c z) a b d) (R.eval_run_unary G (rf W N u c z) a b d) (QV W) (BV W):=⟨by unfold R.eval_run_unary;exact sd⟩
instance m_step{a b}:Cs W (R.eval_run_step G (lf W N u c z) a b) (R.eval_run_step G (rf W N u c z) a b) (QV W) (BV W):=⟨by unfold R.eval_run_step;exact sd⟩
instance GR{a b}:Cs W (R.eval_run_binary G (lf W N u c z) a b) (R.eval_run_binary G (rf W N u c z) a b) (QV W) (BV W):=⟨by unfold R.eval_run_binary;exact sd⟩
instance KU{a b}:Cs W (R.eval_run_logic G (lf W N u c z) a b) (R.eval_run_logic G (rf W N u c z) a b) (QV W) (BV W):=⟨by unfold R.eval_run_logic;exact sd⟩
instance HB{a b}:Cs W (R.eval_run_assign G (lf W N u c z) a b) (R.eval_run_assign G (rf W N u c z) a b) (QV W) (BV W):=⟨by unfold R.eval_run_assign;exact sd⟩
instance HK{a b}:Cs W (R.eval_run_callee G (lf W N u c z) a b) (R.eval_run_callee G (rf W N u c z) a b) (QV W) (BV W):=⟨by unfold R.eval_run_callee;exact sd⟩
instance BB{a b}:Cs W (R.eval_run_arguments G (lf W N u c z) a b) (R.eval_run_arguments G (rf W N u c z) a b) (QV W) (BW W):=⟨by unfold R.eval_run_arguments;exact sd⟩
instance KC{a b}:Cs W (R.eval_run_fresh G (lf W N u c z) a b) (R.eval_run_fresh G (rf W N u c z) a b) (QV W) (BV W):=⟨by unfold R.eval_run_fresh;exact sd⟩
instance CX{a b}:Cs W (R.eval_run_property G (lf W N u c z) a b) (R.eval_run_property G (rf W N u c z) a b) (QV W) (BV W):=⟨by unfold R.eval_run_property;exact sd⟩
instance JS{a b}:Cs W (R.eval_run_parts G (lf W N u c z) a b) (R.eval_run_parts G (rf W N u c z) a b) (QV W) (BW W):=⟨by unfold R.eval_run_parts;exact sd⟩
instance Hy{a b}:Cs W (R.eval_run_called G (lf W N u c z) a b) (R.eval_run_called G (rf W N u c z) a b) (QV W) (BW W):=⟨by unfold R.eval_run_called;exact sd⟩
instance m_call{a b d}:Cs W (R.eval_run_call G (lf W N u c z) a b d) (R.eval_run_call G (rf W N u c z) a b d) (QV W) (BV W):=⟨by unfold R.eval_run_call;exact sd⟩
instance Hb{a b}:Cs W (R.eval_run_builds G (lf W N u c z) a b) (R.eval_run_builds G (rf W N u c z) a b) (QV W) (BV W):=⟨by unfold R.eval_run_builds;exact sd⟩
instance JE{a b d}:Cs W (R.eval_run_apply G (lf W N u c z) a b d) (R.eval_run_apply G (rf W N u c z) a b d) (QV W) (BV W):=⟨by unfold R.eval_run_apply;exact sd⟩
instance m_does{a b d}:Cs W (R.eval_run_does G (lf W N u c z) a b d) (R.eval_run_does G (rf W N u c z) a b d) (QV W) (BV W):=⟨by unfold R.eval_run_does;exact sd⟩
instance m_host{a b}:Cs W (R.eval_run_host G (lf W N u c z) a b) (R.eval_run_host G (rf W N u c z) a b) (QV W) (BV W):=⟨by unfold R.eval_run_host;exact sd⟩
instance C7{a}:Cs W (R.eval_run_receives G (lf W N u c z) a) (R.eval_run_receives G (rf W N u c z) a) (QV W) (BV W):=⟨by unfold R.eval_run_receives;exact sd⟩
end Go.Mach

set_option maxRecDepth 100000
set_option maxHeartbeats 2000000
namespace Go.Mach
open Res
variable {W:Wd}{N:NdT}{u:W.U}{c:ClT}{z:RsT}
theorem Iu{α α':Type}{Q:α->α'->Prop}{B:α->Prop}:Cs W .stuck .stuck Q B:=⟨λ_ e=>by cases e⟩
theorem gs:∀ n,GS W (bw n)
 |0=>by constructor<;>exact Iu
 |n+1=>by
  have:=gs n;exact ⟨m_list,BH,m_act,AK,Jo,KH,H5,JO,m_loop,m_try,KW,KZ,KQ,JR,Jh,GP,B1,Jp,m_step,GR,KU,HB,HK,BB,KC,CX,JS,Hy,m_call,Hb,JE,m_does,m_host,C7⟩
instance {n}:GS W (bw n):=gs n
instance Ff:Cs W (R.cZ (lf W N u c z)) (R.cZ (rf W N u c z)) (QV W) (BO W):=⟨by unfold R.cZ;exact sd⟩
end Go.Mach

set_option maxRecDepth 100000
namespace Go.Mach
open Res
theorem dw0{P:Prop}(h:P:=by repeat' (first|with_reducible (first|apply Safe.g'|apply Safe.br'|apply Safe.bd'|apply Safe.sm'|intro _|infer_instance))):P:=h
theorem dw1{P:Prop}(h:P:=by repeat' (first|with_reducible (first|refine aD ?_|refine aA λ_=>?_|refine eD ?_|refine ef (λ_=>?_) λ_=>?_|refine lb (λ_=>?_) λ_=>?_|refine bK (λ_=>?_) λ_=>?_|refine jK rfl ?_|refine iC rfl ?_|refine aG (λ_=>?_) λ_=>?_|refine qD ?_|refine zw ?_|refine tt ?_|refine q_e ?_|refine q_p λ_ _=>?_|refine q_b λ_=>?_|refine bQ ?_ ?_ λ_ _ _=>?_|refine ba ?_ ?_ λ_ _ _=>?_|refine fZ ?_|refine aB (dc ?_) λ_ _=>?_|refine gY ?_ ?_|refine oL ?_ ?_|refine tZ ?_ ?_|refine n_d ?_ ?_|refine uS (λ_=>?_) λ_=>?_|exact safe|refine fm ?_)|exact trivial|dsimp only [Nx,Dn]|with_reducible (first|rfl|refine And.intro ?_ ?_|intro _|contradiction)|omega|refine bD (by decide) ?_|(simp (disch:=omega) only [wrap64,gG,j7,List.length_append,List.length_cons,List.length_nil,List.length_take,List.length_drop,List.length_set,List.length_replicate,List.length_reverse]<;>omega)|(simp (disch:=omega) only [wrap64,gG,j7,List.length_append,List.length_cons,List.length_nil,List.length_take,List.length_drop,List.length_set,List.length_replicate,List.length_reverse] at*<;> omega)|exact Int.tmod_nonneg _ (by omega)|(simp_all [fh,kE,kJ,ki]<;>omega))):P:=h
theorem dw2{P:Prop}(h:P:=by repeat' (first|with_reducible (first|refine aD ?_|refine aA λ_=>?_|refine eD ?_|refine ef (λ_=>?_) λ_=>?_|refine lb (λ_=>?_) λ_=>?_|refine bK (λ_=>?_) λ_=>?_|refine jK rfl ?_|refine iC rfl ?_|refine aG (λ_=>?_) λ_=>?_|refine qD ?_|refine zw ?_|refine tt ?_|refine q_e ?_|refine q_p λ_ _=>?_|refine q_b λ_=>?_|refine bQ ?_ ?_ λ_ _ _=>?_|refine ba ?_ ?_ λ_ _ _=>?_|refine fZ ?_|refine aB (dc ?_) λ_ _=>?_|refine aB (oZ ?_ ?_) λ_ _=>?_|refine aB (qs ?_ ?_) λ_ _=>?_|refine aB (rK ?_ ?_) λ_ _=>?_|refine aB (tL ?_) λ_ _=>?_|refine aB (yA ?_ ?_) λ_ _=>?_|refine gY ?_ ?_|refine oL ?_ ?_|refine tZ ?_ ?_|refine n_d ?_ ?_|refine uS (λ_=>?_) λ_=>?_|exact safe|refine fm ?_)|exact trivial|dsimp only [Nx,Dn]|with_reducible (first|rfl|refine And.intro ?_ ?_|intro _|contradiction)|omega|refine bD (by decide) ?_|(simp (disch:=omega) only [wrap64,gG,j7,List.length_append,List.length_cons,List.length_nil,List.length_take,List.length_drop,List.length_set,List.length_replicate,List.length_reverse]<;>omega)|(simp (disch:=omega) only [wrap64,gG,j7,List.length_append,List.length_cons,List.length_nil,List.length_take,List.length_drop,List.length_set,List.length_replicate,List.length_reverse] at*<;> omega)|exact Int.tmod_nonneg _ (by omega)|(simp_all [fh,kE,kJ,ki]<;>omega))):P:=h
theorem dw3{P:Prop}(h:P:=by repeat' (first|with_reducible (first|refine aD ?_|refine aA λ_=>?_|refine eD ?_|refine ef (λ_=>?_) λ_=>?_|refine lb (λ_=>?_) λ_=>?_|refine bK (λ_=>?_) λ_=>?_|refine jK rfl ?_|refine iC rfl ?_|refine aG (λ_=>?_) λ_=>?_|refine qD ?_|refine zw ?_|refine tt ?_|refine q_e ?_|refine q_p λ_ _=>?_|refine q_b λ_=>?_|refine bQ ?_ ?_ λ_ _ _=>?_|refine ba ?_ ?_ λ_ _ _=>?_|refine fZ ?_|refine aB (dc ?_) λ_ _=>?_|refine aB (oZ ?_ ?_) λ_ _=>?_|refine gY ?_ ?_|refine oL ?_ ?_|refine tZ ?_ ?_|refine n_d ?_ ?_|refine uS (λ_=>?_) λ_=>?_|exact safe|refine fm ?_)|exact trivial|dsimp only [Nx,Dn]|with_reducible (first|rfl|refine And.intro ?_ ?_|intro _|contradiction)|omega|refine bD (by decide) ?_|(simp (disch:=omega) only [wrap64,gG,j7,List.length_append,List.length_cons,List.length_nil,List.length_take,List.length_drop,List.length_set,List.length_replicate,List.length_reverse]<;>omega)|(simp (disch:=omega) only [wrap64,gG,j7,List.length_append,List.length_cons,List.length_nil,List.length_take,List.length_drop,List.length_set,List.length_replicate,List.length_reverse] at*<;> omega)|exact Int.tmod_nonneg _ (by omega)|(simp_all [fh,kE,kJ,ki]<;>omega))):P:=h
theorem dw4{P:Prop}(h:P:=by repeat' (first|with_reducible (first|refine aD ?_|refine aA λ_=>?_|refine eD ?_|refine ef (λ_=>?_) λ_=>?_|refine lb (λ_=>?_) λ_=>?_|refine bK (λ_=>?_) λ_=>?_|refine jK rfl ?_|refine iC rfl ?_|refine aG (λ_=>?_) λ_=>?_|refine qD ?_|refine zw ?_|refine tt ?_|refine q_e ?_|refine q_p λ_ _=>?_|refine q_b λ_=>?_|refine bQ ?_ ?_ λ_ _ _=>?_|refine ba ?_ ?_ λ_ _ _=>?_|refine fZ ?_|refine aB (dc ?_) λ_ _=>?_|refine aB (oZ ?_ ?_) λ_ _=>?_|refine aB (qs ?_ ?_) λ_ _=>?_|refine aB (rK ?_ ?_) λ_ _=>?_|refine gY ?_ ?_|refine oL ?_ ?_|refine tZ ?_ ?_|refine n_d ?_ ?_|refine uS (λ_=>?_) λ_=>?_|exact safe|refine fm ?_)|exact trivial|dsimp only [Nx,Dn]|with_reducible (first|rfl|refine And.intro ?_ ?_|intro _|contradiction)|omega|refine bD (by decide) ?_|(simp (disch:=omega) only [wrap64,gG,j7,List.length_append,List.length_cons,List.length_nil,List.length_take,List.length_drop,List.length_set,List.length_replicate,List.length_reverse]<;>omega)|(simp (disch:=omega) only [wrap64,gG,j7,List.length_append,List.length_cons,List.length_nil,List.length_take,List.length_drop,List.length_set,List.length_replicate,List.length_reverse] at*<;> omega)|exact Int.tmod_nonneg _ (by omega)|(simp_all [fh,kE,kJ,ki]<;>omega))):P:=h
theorem dw5{P:Prop}(h:P:=by repeat' (first|with_reducible (first|refine aD ?_|refine aA λ_=>?_|refine eD ?_|refine ef (λ_=>?_) λ_=>?_|refine lb (λ_=>?_) λ_=>?_|refine bK (λ_=>?_) λ_=>?_|refine jK rfl ?_|refine iC rfl ?_|refine aG (λ_=>?_) λ_=>?_|refine qD ?_|refine zw ?_|refine tt ?_|refine q_e ?_|refine q_p λ_ _=>?_|refine q_b λ_=>?_|refine bQ ?_ ?_ λ_ _ _=>?_|refine ba ?_ ?_ λ_ _ _=>?_|refine fZ ?_|refine gY ?_ ?_|refine oL ?_ ?_|refine tZ ?_ ?_|refine n_d ?_ ?_|refine uS (λ_=>?_) λ_=>?_|exact safe|refine fm ?_)|exact trivial|dsimp only [Nx,Dn]|with_reducible (first|rfl|refine And.intro ?_ ?_|intro _|contradiction)|omega|refine bD (by decide) ?_|(simp (disch:=omega) only [wrap64,gG,j7,List.length_append,List.length_cons,List.length_nil,List.length_take,List.length_drop,List.length_set,List.length_replicate,List.length_reverse]<;>omega)|(simp (disch:=omega) only [wrap64,gG,j7,List.length_append,List.length_cons,List.length_nil,List.length_take,List.length_drop,List.length_set,List.length_replicate,List.length_reverse] at*<;> omega)|exact Int.tmod_nonneg _ (by omega)|(simp_all [fh,kE,kJ,ki]<;>omega))):P:=h
instance (n):Safe (rn n):=⟨trivial⟩
instance (n):Safe (qU n):=by unfold qU;split<;>exact ⟨trivial⟩
instance (n c):Safe (ixbRun n c):=⟨trivial⟩
instance Ik{a}:Safe (R.kL a):=by
 unfold R.kL;refine ⟨aA λh=>?_⟩;simp only [Sg.i,oks,Sh.ok,Ty.ok,List.map,Par.v,Bool.and_eq_true] at h;have:=oH h
 have hn:(lH a).length=a.length:=by simp [lH]
 refine aB (mL (λi=>i) a.length (by omega) (by omega) (by omega) λi h0 h1=>?_).ok λx _=>?_
 ·exact dw5
 ·cases a with
  |nil=>cases x<;>exact trivial
  |cons=>rw [List.length_cons] at hn;exact dw5
instance Ia{a}:mG (R.fg a) (λr=>r.length<=a.length):=by
 unfold R.fg;refine ⟨aA λh=>?_⟩;simp only [Sg.i,oks,Sh.ok,Ty.ok,List.map,Par.v,Bool.and_eq_true] at h;have:=zO h;refine aB (kG (λm=>m.length) (by omega) (λm=>m.length<=a.length) (Nat.le_refl _) λm hm=>?_) λx hx=>hx;exact dw5
instance K1{a}:mG (R.ec a) (λr=>r.length<=a.length):=by
 unfold R.ec;refine ⟨aA λh=>?_⟩;simp only [Sg.i,oks,Sh.ok,Ty.ok,List.map,Par.v,Bool.and_eq_true] at h;have:=lZ h;refine aB (kG (λm=>m.length) (by omega) (λm=>m.length<=a.length) (Nat.le_refl _) λm hm=>?_) λx hx=>hx;exact dw5
instance Kj{a b}:mG (R.fI a b) (λr=>r.2.length<=a.length):=by
 unfold R.fI;refine ⟨?_⟩;exact dw5
instance J4{a}:mG (R.kn a) (λr=>r.1.2.length<=8):=by
 unfold R.kn;refine ⟨aA λh=>?_⟩;simp only [Sg.i,oks,Sh.ok,Ty.ok,List.map,Par.v,Bool.and_eq_true] at h;have:=oH h
 have hn (a:List UInt8):List.length (α:=(Ty.int IntKind.u8).den) (lH a)=a.length:=by simp [lH]
 have hn1:=hn a;refine aB (R:=λd:List UInt8×Bool=>d.1=a/\(d.2=true->0 < a.length)) ?_ λd ⟨hd,hd2⟩=>aB (R:=λd:List UInt8=>d.length<=a.length) ?_ λt ht=>?_
 ·refine ef (λh0=>ba (by omega) (by omega) λ_ _ _=>aD ⟨rfl,λ_=>by omega⟩) λ_=>aD ⟨rfl,λh=>by cases h⟩
 ·refine aG (λh=>?_) λ_=>aD (by rw [hd];exact Nat.le_refl _);have:=hd2 h;exact fZ (gY (by omega) (gY (by omega) (aD (by simp))))
 ·have hn2:=hn t;refine aB (R:=λ_=>True) (by exact dw5) λ_ _=>aG (λ_=>aD (by simp)) λ_=>?_
  refine aB (gQ (Q:=λm:List Int ⊕ (Int×aj.den)=>match m with|.inl m=>m.length<=8|.inr m=>m.2.2.length<=8) (λi=>i.2) t.length (by omega) (λx=>x.1.length<=8) (by simp) (by simp) (by simp) λi h0 h1 hI=>ef (λhi=>ba (by omega) (by omega) λ_ _ _=>aB (gQ (Q:=λr=>r.2.length=i.1.length) (λi=>i.2.1) i.1.length (by omega) (λx=>x.2.2.length=i.1.length) (by simp) (by simp) (by simp) λk k0 k1 hK=>?_) λm hm=>?_) λ_=>?_) λx hx=>?_
  ·exact dw5
  ·exact dw5
  ·exact aD hI
  ·cases x with
   |inl m=>exact iy (by have h8:List.length m<=8:=hx;exact dw5)
   |inr m=>exact iv (aD hx)
theorem dc{a}(hl:List.length a<=2^40):(R.av a).sat (λr=>r.length=a.length):=by
 unfold R.av;refine aA λh=>?_
 have hn:List.length (α:=(Ty.int IntKind.u8).den) (lH a)=a.length:=by simp [lH]
 refine aB (gQ (Q:=λr=>r.length=a.length) (λi=>i.2) a.length (by omega) (λx=>x.1.length=x.2.toNat) (by simp) (by simp) (by simp) λi h0 h1 hI=>?_) λx hx=>?_<;>exact dw1
instance Ip{x_0}:Safe (R.jo x_0):=by unfold R.jo;exact dw0
instance Ih{x_0}:Safe (R.gJ x_0):=by unfold R.gJ;exact dw0
instance zG{a b}:Safe (R.dY a b):=by
 unfold R.dY;refine ⟨aA λh=>?_⟩;simp only [Sg.i,oks,Sh.ok,Ty.ok,List.map,Par.v,Bool.and_eq_true] at h;have:=lZ h.1
 refine aB (mL (λi=>i) a.length (by omega) (by omega) (by omega) λi h0 h1=>?_).ok λx _=>?_<;>exact dw1
instance xn{s_0 v_1}:Safe (R.cr s_0 v_1):=by unfold R.cr;exact dw0
instance F0{a}:Safe (R.iR a):=by
 unfold R.iR;refine ⟨aA λh=>?_⟩;simp only [Sg.i,oks,Sh.ok,Ty.ok,List.map,Par.v,Bool.and_eq_true] at h;have:=lZ h
 refine aB (mL (λi=>i.2) a.length (by omega) (by omega) (by simp) λi h0 h1=>?_).ok λx _=>?_<;>exact dw1
instance AX{a b}:Safe (R.dX a b):=by
 unfold R.dX;refine ⟨aA λh=>?_⟩;simp only [Sg.i,oks,Sh.ok,Ty.ok,List.map,Par.v,Bool.and_eq_true] at h;have:=lZ h.1
 refine eD (bK (λ_=>?_) λ_=>?_)<;>try exact aD trivial
 refine aB (mL (λi=>i) a.length (by omega) (by omega) (by omega) λi h0 h1=>?_).ok λx _=>?_<;>exact dw1
instance JJ{a_0 b_1}:Safe (R.jL a_0 b_1):=by unfold R.jL;exact dw0
instance FG{x_0}:Safe (R.iA x_0):=by unfold R.iA;exact dw0
instance rS{a b}:Safe (R.aw a b):=by
 unfold R.aw;refine ⟨aA λh=>?_⟩;simp only [Sg.i,oks,Sh.ok,Ty.ok,List.map,Par.v,Bool.and_eq_true] at h;have:=lZ h.1
 refine aB (mL (λi=>i) a.length (by omega) (by omega) (by omega) λi h0 h1=>?_).ok λx _=>?_<;>exact dw1
instance qO{s_0 f_1}:Safe (R.aq s_0 f_1):=by unfold R.aq;exact dw0
instance Ii{a}:Safe (R.jd a):=by
 unfold R.jd;refine ⟨aA λh=>?_⟩;simp only [Sg.i,oks,Sh.ok,Ty.ok,List.map,Par.v,Bool.and_eq_true] at h;have:=lZ h
 refine aB (mL (λi=>i.2) a.length (by omega) (by omega) (by simp) λi h0 h1=>?_).ok λx _=>?_<;>exact dw1
instance LA{a_0}:Safe (R.lT a_0):=by unfold R.lT;exact dw0
instance LK:Safe (R.fY):=by unfold R.fY;exact dw0
instance El{a}:mG (R.ev a) (λr:Int×Int=>(r.1=0->-9007199254740991<=r.2/\r.2<=9007199254740991)/\(r.1≠0->1<=r.1/\r.1<=4/\r.2=0)):=⟨by
 unfold R.ev R.lT R.fY;refine aA λ_=>fm (aA λ_=>bK (λ_=>lb (λ_=>?_) λ_=>?_) λ_=>aB (R:=λx=>x=true->1<=a.1/\a.1<=4) (by exact dw1) λ_ _=>?_)
 ·refine aD (eD (lb (λ_=>aD ?_) λ_=>fm (aA λ_=>aD (aA λ_=>aD ?_))))<;>constructor<;>intro _<;>simp_all
 ·refine aD (eD (iC rfl (fm (aA λ_=>aD (aA λ_=>aD ?_)))));simp
 ·refine aG (λhx=>aD (eD (bK (λ_=>aD ?_) λ_=>fm (aA λ_=>aD (aA λ_=>aD ?_))))) λ_=>aD (eD (iC rfl (fm (aA λ_=>aD (aA λ_=>aD ?_)))))<;>simp_all⟩
instance LP{neg_0}:Safe (R.jy neg_0):=by unfold R.jy;exact dw0
instance Iy{n_0}:Safe (R.cj n_0):=by unfold R.cj;exact dw0
instance Ig{neg_0}:Safe (R.gL neg_0):=by unfold R.gL;exact dw0
instance K5{a_0}:Safe (R.lU a_0):=by unfold R.lU;exact dw0
instance H7{a}:Safe (R.gd a):=by
 unfold R.gd;refine ⟨aA λh=>?_⟩;simp only [Sg.i,oks,Sh.ok,Ty.ok,List.map,Par.v,Bool.and_eq_true] at h;have:=lZ h;refine aB (kG (Q:=λm=>m.length<=a.length) (λm=>m.length) (by omega) (λm=>m.length<=a.length) (Nat.le_refl _) λm hm=>?_) λu hu=>aB (kG (Q:=λm=>m.length<=a.length) (λm=>m.length) (by omega) (λm=>m.length<=a.length) hu λm hm=>?_) λx hx=>bK (λ_=>aD trivial) λhne=>bQ (by omega) (by omega) λe he _=>?_
 ·exact dw1
 ·exact dw1
 ·refine aB (R:=λ_=>True) (by exact dw1) λ_ _=>?_;exact dw1
instance Ic{a}:Safe (R.fW a):=by
 unfold R.fW;refine ⟨aA λh=>?_⟩;simp only [Sg.i,oks,Sh.ok,Ty.ok,List.map,Par.v,Bool.and_eq_true] at h;have:=u3 h;simp only [Sh.jN,Ty.jN,IntKind.jN] at this
 refine aB (gQ (Q:=λ_=>True) (λi=>i.2) a.length (by omega) (λx=>x.1.length=x.2.toNat) (by simp) (by simp) (by simp) λi h0 h1 hI=>?_) λx hx=>?_<;>exact dw1
instance zj{a b}:Safe (R.bt a b):=by
 unfold R.bt;refine ⟨aA λh=>?_⟩;simp only [Sg.i,oks,Sh.ok,Ty.ok,List.map,Par.v,Bool.and_eq_true] at h;have:=lZ h.1
 refine aB (mL (λi=>i) a.length (by omega) (by omega) (by omega) λi h0 h1=>?_).ok λx _=>?_<;>exact dw1
instance xo{s_0 v_1}:Safe (R.aS s_0 v_1):=by unfold R.aS;exact dw0
instance Kp{a}:mG (R.ly a) (λr=>r.length<=4096):=by
 unfold R.ly;refine ⟨aA λ_=>q_p λ(x:Int×Int) hx=>aA λ_=>bK (λ_=>aD (by simp)) λ_=>bK (λ_=>aD (by simp)) λ_=>bK (λ_=>aD (by simp)) λ_=>aa (a:=Lib.itoa x.2) rfl (aA λ_=>aD ?_)⟩
 have h:-9223372036854775808<=x.2/\x.2<=9223372036854775807:=by
  have h3:=hx;by_cases h0:x.1=0
  ·have:=h3.1 h0;omega
  ·have:=h3.2 h0;omega
 exact Nat.le_trans (Lib.itoa_length_le x.2 h.1 h.2) (by decide)
instance LI{a}:mG (R.lQ a) (λr=>r=true->(a.2.length:Int)<=8):=by
 unfold R.lQ;refine ⟨aA λh=>?_⟩;simp only [Sg.i,oks,Sh.ok,Ty.ok,List.map,Par.v,Bool.and_eq_true] at h;exact dw1
instance Km{a_0}:Safe (R.cn a_0):=by unfold R.cn;exact dw0
instance Kv{b_0}:Safe (R.ed b_0):=by unfold R.ed;exact dw0
instance J0{a}:mG (R.ij a) (λr=>r=true->(a.2.2.1.2.length:Int)=0/\(a.2.2.2.1.length:Int)=0):=by
 unfold R.ij;refine ⟨?_⟩;exact dw1
instance Ky{a}:mG (R.mR a) (λr=>r=true->(a.2.2.1.2.length:Int)<=8/\(a.2.2.2.1.length:Int)<=4096):=by
 unfold R.mR;refine ⟨?_⟩;exact dw1
instance IJ{a}:mG (R.cM a) (λr=>(r.2.2.1.2.length:Int)<=8/\(r.2.2.2.1.length:Int)<=4096):=by
 unfold R.cM;refine ⟨aA λ_=>q_p λb hb=>eD (aG (λh=>aD (hb h)) λ_=>aD (by simp))⟩
instance JP{a}:Aj (R.gD a) (a.1 == 2):=⟨aA λ_=>aD rfl⟩
instance Kk{a_0}:Safe (R.iP a_0):=by unfold R.iP;exact dw0
instance Jc{a_0 b_1}:Safe (R.jn a_0 b_1):=by unfold R.jn;exact dw0
instance KM{v_0}:Safe (R.iM v_0):=by unfold R.iM;exact dw0
instance He{v_0}:Safe (R.cH v_0):=by unfold R.cH;exact dw0
instance Kw{b_0}:Safe (R.lC b_0):=by unfold R.lC;exact dw0
instance F4{v_0}:Safe (R.cV v_0):=by unfold R.cV;exact dw0
instance LF{a}:mG (R.dV a) (λr=>r.length<=8):=by
 unfold R.dV;refine ⟨aA λ_=>q_p λb hb=>eD (aG (λh=>fm (aD (aA λ_=>aD ?_))) λ_=>aD (by simp))⟩;have:=hb h;show List.length a.2<=8;omega
instance K7{a_0}:Safe (R.iK a_0):=by unfold R.iK;exact dw0
instance LN{a_0}:Safe (R.lW a_0):=by unfold R.lW;exact dw0
instance IU{a}:mG (R.gm a) (λr=>0<=r/\r < 4294967296):=⟨by
 unfold R.gm;refine aA λ_=>q_p λx hx=>aA λ_=>eD (bK (λ_=>aD ?_) λ_=>aD ?_)
 ·have:=wrap_u32 x.2;rw [wrap64 (by omega)];omega
 ·omega⟩
instance I0{a_0}:Safe (R.js a_0):=by unfold R.js;exact dw0
instance LG{op_0 a_1 b_2}:Safe (R.mN op_0 a_1 b_2):=by
 unfold R.mN;refine ⟨?_⟩;exact dw1
theorem sH{a:List Int}:(R.b9 a).sat (λr=>List.length r.2=a.length):=by
 unfold R.b9;refine aA λh=>?_;simp only [Sg.i,oks,Sh.ok,Ty.ok,List.map,Par.v,Bool.and_eq_true] at h;have:=lZ h;rw [wrap64 (by omega)]
 refine aB (kG (Q:=λr=>r.length=a.length) (λi=>(i.2.1-i.1+1).toNat) (by simp;omega) (λi=>0<=i.1/\i.1<=i.2.1+1/\i.2.1 < a.length/\i.2.2.length=a.length) (by simp<;>omega) λi ⟨i1,i2,i3,i4⟩=>?_) λx hx=>?_<;>exact dw1
instance zf{a}:Safe (R.b9 a):=⟨bG sH λ_ _=>trivial⟩
theorem xc(l:List Int):(sL l).length=l.length:=by simp [sL]
theorem wrap_u64(n:Int):0<=IntKind.wrap .u64 n/\IntKind.wrap .u64 n < 18446744073709551616:=by
 simp [w6,w6,IntKind.wrap,IntKind.signed,IntKind.bits];omega
theorem or_zero{x:Int}(h0:0<=x)(h1:x < 4294967296):fM .or .u64 (pY .u64 0 32) (IntKind.wrap .u64 x)=x:=by
 have e1:pY .u64 0 32=0:=by simp [pY,w6,w6,IntKind.wrap,IntKind.signed,IntKind.bits]
 have e2:IntKind.wrap .u64 x=x:=by simp [w6,w6,IntKind.wrap,IntKind.signed,IntKind.bits];omega
 rw [e1,e2];unfold fM;have e3:BitVec.ofInt IntKind.u64.bits 0=0#64:=rfl;simp only [e3];show IntKind.wrap .u64 ((0#64 ||| BitVec.ofInt 64 x).toNat:Int)=x;rw [BitVec.zero_or,BitVec.toNat_ofInt];simp [w6,w6,IntKind.wrap,IntKind.signed,IntKind.bits];omega
theorem tenth{x:Int}(h0:0<=x)(h1:x < 4294967296):IntKind.wrap .u32 (IntKind.wrap .u64 (Int.tdiv x 10))=x / 10:=by
 rw [Int.tdiv_eq_ediv_of_nonneg h0];simp [w6,w6,IntKind.wrap,IntKind.signed,IntKind.bits];omega
def wW(m:List Int):Prop:=∀ e:Int,m[m.length-1]?=some e->e≠0
theorem vL{m:List Int}(h:(m.length:Int)<=0):wW m:=λe he=>by
 have:m=[]:=List.length_eq_zero_iff.1 (by omega);subst this;cases he
theorem C3{a:List Int}:(R.ec a).sat (λr:List Int=>r.length<=a.length/\r=a.take r.length/\wW r):=by
 unfold R.ec;refine aA λh=>?_;simp only [Sg.i,oks,Sh.ok,Ty.ok,List.map,Par.v,Bool.and_eq_true] at h;have:=lZ h;refine aB (kG (Q:=λm:List Int=>m.length<=a.length/\m=a.take m.length/\wW m) (λm=>m.length) (by omega) (λm=>m.length<=a.length/\m=a.take m.length) ⟨Nat.le_refl _,by simp⟩ λm ⟨hm,ht⟩=>?_) λx hx=>aD hx;refine fm (ef (λh0=>?_) λh0=>aD (iC rfl (aD ⟨hm,ht,vL h0⟩)));have hw:w6 ((m.length:Int)-1)=(m.length:Int)-1:=wrap64 (by omega)
 have hn:((m.length:Int)-1).toNat=m.length-1:=by omega
 rw [hw];refine fZ (gY (by omega) (oL (by omega) (ba (by omega) (by omega) λ(e:Int) he _=>aD (bK (λh=>?_) λh=>aD ⟨hm,ht,?_⟩))))
 ·refine fZ (gY (by omega) (gY (by omega) (aD ⟨?_,?_,?_⟩)))
  ·simp only [List.length_take,List.length_drop];omega
  ·simp only [List.length_take,List.length_drop];omega
  ·rw [List.drop_zero,hn,List.length_take,Nat.min_eq_left (by omega)]
   have:List.take (m.length-1) m=List.take (m.length-1) (List.take m.length a):=by rw [<- ht]
   rw [this,List.take_take,Nat.min_eq_left (by omega)]
 ·intro e' he';rw [idx0,hn,he'] at he;cases he;exact h
theorem EW{a}:(R.lQ a).sat (λr=>r=true->(a.2.length:Int)<=8/\wW a.2):=by
 unfold R.lQ;refine aA λh=>lb (λh8=>?_) λ_=>aD (by simp);have hw (h:0 < (a.2.length:Int)):w6 ((a.2.length:Int)-1)=(a.2.length:Int)-1:=wrap64 (by omega)
 have hn (h:0 < (a.2.length:Int)):((a.2.length:Int)-1).toNat=a.2.length-1:=by omega
 have hk:(Res.br (ilt 0 (a.2.length:Int)) (Res.cO .w a.2 (w6 ((a.2.length:Int)-1)) λe2=>Res.ok ((!(e2 == 0)))) (Res.ok (false))).sat (λr=>r=true->(a.2.length:Int)<=8/\wW a.2):=by
  refine ef (λh0=>?_) λ_=>aD (by simp);rw [hw h0];refine bQ (by omega) (by omega) λ(e:Int) he _=>aD λhr=>⟨h8,λe' he'=>?_⟩;rw [hn h0,he'] at he;cases he;simpa using hr
 exact bK (λh0=>eD (aG (λ_=>hk) λ_=>aD λ_=>⟨h8,vL (by omega)⟩)) λ_=>hk
theorem E2{a}:(R.dV a).sat (λr:List Int=>r.length<=8/\wW r):=by
 unfold R.dV;refine aA λ_=>aB EW λb hb=>eD (aG (λh=>fm (aD (aA λ_=>aD ?_))) λ_=>aD ⟨by simp,vL (by simp)⟩);have:=hb h;exact ⟨by show List.length a.2<=8;omega,this.2⟩
def dgF:Nat->Nat->Nat
 |0,_=>0
 |k+1,e=>if e=0 then 0 else 1+dgF k (e / 10)
def dg(e:Nat):Nat:=dgF 10 e
theorem G3:∀ k e:Nat,dgF k e<=k
 |0,_=>Nat.le_refl 0
 |k+1,e=>by
  have:=G3 k (e / 10)
  show (if e=0 then 0 else 1+dgF k (e / 10))<=k+1
  split<;>omega
theorem dg_le(e:Nat):dg e<=10:=G3 10 e
theorem Gc:∀ k e:Nat,e < 10^k->dgF (k+1) e=dgF k e
 |0,e,h=>by
  have:e=0:=by simpa using h
  subst this;rfl
 |k+1,e,h=>by
  show (if e=0 then 0 else 1+dgF (k+1) (e / 10))=(if e=0 then 0 else 1+dgF k (e / 10))
  rw [Gc k (e / 10) (by rw [Nat.pow_succ] at h;omega)]
theorem dg_lt{e:Int}(h0:0 < e)(h1:e < 4294967296):dg (e / 10).toNat < dg e.toNat:=by
 have h2:(e / 10).toNat=e.toNat / 10:=by omega
 have h3:0 < e.toNat/\e.toNat < 4294967296:=by omega
 rw [h2];generalize e.toNat=n at h3;unfold dg;rw [Gc 9 (n / 10) (by show n / 10 < 1000000000;omega)]
 show dgF 9 (n / 10) < if n=0 then 0 else 1+dgF 9 (n / 10)
 rw [if_neg (by omega)];omega
def mz(m:List Int):Nat:=match m[m.length-1]? with
 |some e=>m.length*11+dg e.toNat
 |none=>0
theorem mz_lt{r m:List Int}(h:r.length < m.length):mz r < mz m:=by
 unfold mz;have hm:∃ e,m[m.length-1]?=some e:=⟨_,List.getElem?_eq_getElem (by omega)⟩;obtain ⟨e,he⟩:=hm;rw [he]
 cases r[r.length-1]? with
 |none=>simp only [];omega
 |some x=>have:=dg_le x.toNat;simp only [];omega
theorem mz_le{m:List Int}(h:m.length<=8):mz m<=98:=by
 unfold mz
 cases m[m.length-1]? with
 |none=>simp only [];omega
 |some x=>have:=dg_le x.toNat;simp only [];omega
theorem Ew{e:Int}(h:(Ty.int IntKind.u32).ok e=true):0<=e/\e < 4294967296:=by
 simp [Ty.ok,eP,w6,w6,IntKind.wrap,IntKind.signed,IntKind.bits] at h;omega
instance Ks{a}:mG (R.kz a) (λr=>r.length<=4096):=by
 unfold R.kz;refine ⟨aA λ_=>aB E2 λm ⟨hm,ht⟩=>aA λ_=>bK (λ_=>aD (by simp)) λhne=>aB (R:=λl:List Int=>l.length<=98) ?_ λl hl=>q_b λ_=>aG (λ_=>?_) λ_=>?_⟩
 ·refine kG (λs=>mz s.1) (Nat.le_trans (mz_le hm) (by decide)) (λs=>s.1.length<=8/\wW s.1/\s.2.length+mz s.1<=98) ⟨hm,ht,by have:=mz_le hm;simp;omega⟩ λ⟨m,l⟩ ⟨h1,h2,h3⟩=>?_;simp only at h1 h2 h3 ⊢;refine ef (λhp=>?_) λ_=>aD (by show l.length<=98;omega);rw [wrap64 (by omega)];obtain ⟨top,htop⟩:∃ e,m[m.length-1]?=some e:=⟨_,List.getElem?_eq_getElem (by omega)⟩;refine aB (R:=λr:Int×List Int=>r.2.length=m.length/\r.2[m.length-1]?=some (top / 10)/\0<=top/\top < 4294967296) ?_ λ⟨r,m'⟩ ⟨g1,g2,g3,g4⟩=>?_
  ·refine kG (λs=>(s.2.1+1).toNat) (by simp;omega) (λs=>-1<=s.2.1/\s.2.1 < m.length/\s.2.2.length=m.length/\(s.2.1=m.length-1->s.1=0/\s.2.2=m)/\(s.2.1 < m.length-1->s.2.2[m.length-1]?=some (top / 10)/\0<=top/\top < 4294967296)) ⟨by simp only;omega,by simp only;omega,rfl,λ_=>⟨rfl,rfl⟩,λh=>by simp only at h;omega⟩ λ⟨r,i,q⟩ ⟨i1,i2,i3,i4,i5⟩=>?_;simp only at i1 i2 i3 i4 i5 ⊢;refine lb (λi0=>?_) λi0=>aD ?_
   ·refine gY (by omega) (fZ (gY (by omega) (oL (by omega) (ba (by omega) (by omega) λ(e:Int) he hok=>bD (by decide) (fZ (gY (by omega) (oL (by omega) (ba (by omega) (by omega) λ_ _ _=>bD (by decide) (aD ?_)))))))));have hw:w6 (i-1)=i-1:=wrap64 (by omega)
    have hix:(0+(i.toNat:Int)).toNat=i.toNat:=by omega
    rw [hix] at he;have hr:=Ew hok;refine ⟨?_,?_,?_,?_,?_,?_⟩
    ·simp only [hw];omega
    ·simp only [hw];omega
    ·simp only [hw];omega
    ·simp only [List.length_set];exact i3
    ·simp only [hw];omega
    ·intro hlt;simp only [hw] at hlt;by_cases hi:i=m.length-1
     ·obtain ⟨e1,e2⟩:=i4 hi;subst e1 e2
      have hin:i.toNat=q.length-1:=by omega
      rw [hin] at he;rw [he] at htop;cases htop;refine ⟨?_,hr⟩;simp only [or_zero hr.1 hr.2,tenth hr.1 hr.2];rw [show 0+i.toNat=q.length-1 by omega,List.getElem?_set_self (by omega)]
     ·obtain ⟨e1,e2⟩:=i5 (by omega);refine ⟨?_,e2⟩;simp only;rw [List.getElem?_set_ne (by omega)];exact e1
   ·have:=i5 (by omega);exact ⟨i3,this.1,this.2.1,this.2.2⟩
  ·simp only at g1 g2 ⊢;refine n_d (by simp only [List.length_cons,List.length_nil];omega) (aB C3 λs ⟨s1,s2,s3⟩=>aA λ_=>aD ?_)
   have hlt:mz s < mz m:=by
    by_cases hs:s.length=m.length
    ·have e:s=m':=by rw [s2,hs,<- g1,List.take_length]
     subst e;unfold mz;rw [hs,g2,htop];have:=dg_lt (e:=top) (by have:=h2 top htop;omega) g4;simp only [];omega
    ·exact mz_lt (by omega)
   exact ⟨hlt,by show s.length<=8;omega,s3,by simp only [List.length_append,List.length_cons,List.length_nil];omega⟩
 ·refine n_d (by simp only [List.length_cons,List.length_nil];omega) (aB sH λr hr=>aA λ_=>aD ?_);rw [xc,hr];simp;omega
 ·refine aB sH λr hr=>aA λ_=>aD ?_;rw [xc,hr];omega
instance KY{a}:mG (R.cz a) (λr=>r.1.length<=4096):=by
 unfold R.cz;refine ⟨?_⟩;exact dw1
instance Ko{a}:Safe (R.eH a):=by
 unfold R.eH;refine ⟨aA λh=>?_⟩;simp only [Sg.i,oks,Sh.ok,Ty.ok,List.map,Par.v,Bool.and_eq_true] at h;have:=lZ h;refine aB (R:=λ_=>True) (by exact dw1) λx2 _=>aG (λ_=>trivial) λ_=>?_
 refine aB (mL (λi=>i.2) a.length (by omega) (by omega) (by simp) λi h0 h1=>?_).ok λx _=>?_<;>exact dw1
instance KL{a}:mG (R.cD a) (λr=>0<=r/\r<=8):=by
 unfold R.cD;refine ⟨?_⟩;exact dw1
instance IY{kind_0}:Safe (R.fU kind_0):=by unfold R.fU;exact dw0
instance Je{a b}:Safe (R.ff a b):=by
 unfold R.ff;refine ⟨aA λ_=>aB (R:=λc=>c=false->(b.length:Int)<=8) (by exact dw1) λc hc=>aG (λ_=>aD trivial) λhc'=>?_⟩;have:=hc hc'
 refine aB (mL (λi=>i.2) b.length (by omega) (by simp) (by simp) λi h0 h1=>?_).ok λx _=>?_<;>exact dw1
instance F6{w_0 signed_1}:Safe (R.iH w_0 signed_1):=by
 unfold R.iH;refine ⟨?_⟩;exact dw1
instance Ie{kind_0 w_1}:Safe (R.jZ kind_0 w_1):=by unfold R.jZ;exact dw0
instance Kq{kind_0 w_1}:Safe (R.fD kind_0 w_1):=by
 unfold R.fD;refine ⟨?_⟩;exact dw1
instance IK{kind_0 w_1}:Safe (R.jh kind_0 w_1):=by unfold R.jh;exact dw0
instance sf_big_Of{n_0}:Safe (R.lB n_0):=by
 unfold R.lB;refine ⟨?_⟩;exact dw1
theorem oZ{a b}(ha:List.length a<=2^40)(hb:List.length b<=2^40):(R.mC a b).sat (λr=>(r.length:Int)=max (a.length:Int) b.length+1):=by
 unfold R.mC;refine aA λh=>?_;rw [j7]
 refine aB (gQ (Q:=λr=>r.1.length=max a.length b.length) (λi=>i.2.2) (max a.length b.length) (by omega) (λx=>x.1.length=x.2.2.toNat) (by simp) (by simp<;>omega) (by simp) λi h0 h1 hI=>?_) λx hx=>?_<;>exact dw3
instance K0{m_0 neg_1}:Safe (R.jJ m_0 neg_1):=by unfold R.jJ;exact dw0
instance Kr{n_0}:Safe (R.lD n_0):=by unfold R.lD;exact dw0
instance LM{a b}:Safe (R.kV a b):=by
 unfold R.kV;refine ⟨aA λh=>?_⟩;simp only [Sg.i,oks,Sh.ok,Ty.ok,List.map,Par.v,Bool.and_eq_true] at h;have:=lZ h.1;refine eD (bK (λ_=>?_) λ_=>?_)
 ·rw [wrap64 (by omega)]
  refine aB (kG (Q:=λ_=>True) (λi=>(i+1).toNat) (by omega) (λi:Int=>-1<=i/\i < a.length) (by omega) λi hi=>?_) λx hx=>?_<;>exact dw3
 ·exact dw3
instance Il{x_0 y_1 borrow_2}:Safe (R.jb x_0 y_1 borrow_2):=by
 unfold R.jb;refine ⟨?_⟩;exact dw3
instance Kl{a b}:mG (R.jD a b) (λr=>r.length=a.length):=by
 unfold R.jD;refine ⟨aA λh=>?_⟩;simp only [Sg.i,oks,Sh.ok,Ty.ok,List.map,Par.v,Bool.and_eq_true] at h;have:=u3 h.1;simp only [Sh.jN,Ty.jN,IntKind.jN] at this
 refine aB (gQ (Q:=λr=>r.length=a.length) (λi=>i.2.2) a.length (by omega) (λx=>x.1.length=x.2.2.toNat) (by simp) (by simp) (by simp) λi h0 h1 hI=>?_) λx hx=>?_<;>exact dw3
instance LQ{a_0 b_1}:Safe (R.lX a_0 b_1):=by
 unfold R.lX;refine ⟨?_⟩;exact dw3
instance KP{a}:Aj (R.ei a) (a.1 == 3 || a.1 == 4):=⟨by unfold R.ei;refine aA λ_=>aG (λh=>?_) λh=>?_<;>exact aD (by simp [h])⟩
instance sf_num_Of{n_0}:Safe (R.nS n_0):=by unfold R.nS;exact dw0
instance LD{a_0 b_1}:Safe (R.lR a_0 b_1):=by unfold R.lR;exact dw0
instance Is{x_0}:Safe (R.jm x_0):=by unfold R.jm;exact dw0
instance Kb{a}:mG (R.kY a) (λr=>r.length<=a.length):=by
 unfold R.kY;refine ⟨aA λh=>?_⟩;simp only [Sg.i,oks,Sh.ok,Ty.ok,List.map,Par.v,Bool.and_eq_true] at h;have:=zO h
 refine aB (kG (Q:=λm=>m.length<=a.length) (λm=>m.length) (by omega) (λm=>m.length<=a.length) (Nat.le_refl _) λm hm=>?_) λu hu=>aB (kG (Q:=λm=>m.length<=a.length) (λm=>m.length) (by omega) (λm=>m.length<=a.length) hu λm hm=>?_) λx hx=>hx<;>exact dw3
instance Im{x_0}:Safe (R.jC x_0):=by unfold R.jC;exact dw0
instance Gz{a}:Safe (R.jP a):=by
 unfold R.jP;refine ⟨aA λh=>?_⟩;simp only [Sg.i,oks,Sh.ok,Ty.ok,List.map,Par.v,Bool.and_eq_true] at h;have:=lZ h
 refine aB (mL (λi=>i) a.length (by omega) (by omega) (by omega) λi h0 h1=>?_).ok λx _=>?_<;>exact dw3
instance Fz{a}:Safe (R.iQ a):=by
 unfold R.iQ;refine ⟨aA λh=>?_⟩;simp only [Sg.i,oks,Sh.ok,Ty.ok,List.map,Par.v,Bool.and_eq_true] at h;have:=lZ h;refine aB (mL (λi=>i.2) a.length (by omega) (by omega) (by simp) λi h0 h1=>?_).ok λx _=>?_
 ·refine ef (λ_=>bQ (by omega) (by omega) λ_ _ _=>aB (R:=λ_=>True) (by exact dw3) λ_ _=>aB (R:=λ_=>True) (by exact dw3) λ_ _=>?_) λ_=>?_<;>exact dw3
 ·exact dw3
instance Gb{a}:Safe (R.ic a):=by
 unfold R.ic;refine ⟨aA λh=>?_⟩;simp only [Sg.i,oks,Sh.ok,Ty.ok,List.map,Par.v,Bool.and_eq_true] at h;have:=zO h
 refine q_p λt (ht:t.length<=a.length)=>aA λ_=>bK (λ_=>aD trivial) λ_=>ba (by omega) (by omega) λe _ _=>aB (R:=λd:List Int=>d.length<=a.length) (by exact dw3) λd hd=>q_b λb=>aG (λ_=>?_) λ_=>by exact dw3
 refine aB (kG (Q:=λm=>m.length<=a.length) (λm=>m.length) (by omega) (λm=>m.length<=a.length) hd λm hm=>?_) λu hu=>?_<;>exact dw3
instance HS{v_0}:Safe (R.gC v_0):=by unfold R.gC;exact dw0
theorem qs{a n}(h0:0<=n)(h1:n<=1000):(R.nD a n).sat (λr=>r.length=8):=by
 unfold R.nD;refine aA λ_=>?_;have e8:Int.toNat 8=8:=rfl
 have hl:(List.take 0 (List.replicate (Int.toNat 8) (0:Int))++(List.take (min (List.length a) (List.replicate (Int.toNat 8) (0:Int)).length) a++List.drop (0+(min (List.length a) (List.replicate (Int.toNat 8) (0:Int)).length)) (List.replicate (Int.toNat 8) (0:Int)))).length=8:=by
  simp only [List.length_append,List.length_take,List.length_drop,List.length_replicate,e8];omega
 rw [hl];refine fZ (gY (by omega) (fZ (gY (by omega) (n_d (by omega) ?_))))
 refine aB (gQ (Q:=λr=>r.length=8) (λi=>i.1) 8 (by omega) (λx=>x.2.length=8) (by simp) (by simp) hl λi h0 h1 hI=>?_) λx hx=>?_<;>repeat' (first|with_reducible (first|refine aD ?_|refine aA λ_=>?_|refine eD ?_|refine ef (λ_=>?_) λ_=>?_|refine lb (λ_=>?_) λ_=>?_|refine bK (λ_=>?_) λ_=>?_|refine jK rfl ?_|refine iC rfl ?_|refine aG (λ_=>?_) λ_=>?_|refine qD ?_|refine zw ?_|refine tt ?_|refine q_e ?_|refine q_p λ_ _=>?_|refine q_b λ_=>?_|refine bQ ?_ ?_ λ_ _ _=>?_|refine ba ?_ ?_ λ_ _ _=>?_|refine fZ ?_|refine aB (dc ?_) λ_ _=>?_|refine aB (oZ ?_ ?_) λ_ _=>?_|refine aB (qs ?_ ?_) λ_ _=>?_|refine gY ?_ ?_|refine oL ?_ ?_|refine tZ ?_ ?_|refine n_d ?_ ?_|refine uS (λ_=>?_) λ_=>?_|exact safe|refine fm ?_)|exact trivial|dsimp only [Nx,Dn]|with_reducible (first|rfl|refine And.intro ?_ ?_|intro _|contradiction)|omega|refine bD (by decide) ?_|(simp (disch:=omega) only [wrap64,gG,j7,List.length_append,List.length_cons,List.length_nil,List.length_take,List.length_drop,List.length_set,List.length_replicate,List.length_reverse]<;>omega)|(simp (disch:=omega) only [wrap64,gG,j7,List.length_append,List.length_cons,List.length_nil,List.length_take,List.length_drop,List.length_set,List.length_replicate,List.length_reverse] at*<;> omega)|exact Int.tmod_nonneg _ (by omega)|(simp_all [fh,kE,kJ,ki]<;>omega))
theorem rK{n}(h0:0<=n)(h1:n<=1000):(R.kX n).sat (λr=>(r.length:Int)=n / 32+1):=by
 unfold R.kX;have e1:n.tdiv 32=n / 32:=Int.tdiv_eq_ediv_of_nonneg h0;have e2:n.tmod 32=n % 32:=Int.tmod_eq_emod_of_nonneg h0;rw [e1,e2];exact dw4
theorem yK{n a}(hn:0<=n->n<=256->n<=256):(R.i6 n a).sat (λr=>r.1.2.length<=9):=by
 unfold R.i6;refine aA λ_=>aB (R:=λc=>c=false->0<=n/\n<=256) (by exact dw4) λc hc=>aG (λ_=>aD (by simp)) λhc'=>?_;have hn:=hc hc';exact dw4
instance IX{n a}:mG (R.i6 n a) (λr=>r.1.2.length<=9):=⟨yK λ_ h=>h⟩
instance IL{a b}:mG (R.iV a b) (λr=>r.length<=8):=by
 unfold R.iV;refine ⟨aA λ_=>q_p λ(n:Int) hn=>aA λ_=>?_⟩
 refine aB (gQ (Q:=λr=>r.length<=8) (λi=>i.2) n.toNat (by omega) (λx=>x.1.length=x.2.toNat) (by simp) (by simp;omega) (by simp) λi h0 h1 hI=>?_) λx hx=>?_<;>exact dw4
instance E5{a_0 b_1}:Safe (R.fR a_0 b_1):=by unfold R.fR;exact dw0
instance K9{a_0 b_1}:Safe (R.mq a_0 b_1):=by unfold R.mq;exact dw0
instance LR{a b}:Safe (R.mw a b):=by
 unfold R.mw;refine ⟨aA λ_=>q_p λx hx=>aA λ_=>q_p λy hy=>aA λ_=>?_⟩;dsimp only;rw [wrap64 (by omega)];refine fZ (gY (by omega) (fZ (gY (by omega) (n_d (by omega) ?_))));refine aB (gQ (Q:=λ_=>True) (λi=>i.1) x.length (by omega) (λs=>s.2.length=x.length+y.length) (by simp) (by simp) (by simp;omega) λi h0 h1 hI=>ef (λhi=>fZ (gY (by omega) (oL (by omega) (ba (by omega) (by omega) λe _ _=>?_)))) λ_=>?_) λx hx=>?_
 ·refine aB (gQ (Q:=λr=>r.2.length=x.length+y.length) (λi=>i.2.1) y.length (by omega) (λs=>s.2.2.length=x.length+y.length) (by simp) (by simp) (by simp;omega) λk k0 k1 hK=>ef (λhk=>?_) λ_=>?_) λs hs=>?_
  ·have hw:w6 (i.1+k.2.1)=i.1+k.2.1:=wrap64 (by omega);rw [hw];exact dw4
  ·exact dw4
  ·have hw:w6 (i.1+(y.length:Int))=i.1+(y.length:Int):=wrap64 (by omega);rw [hw];exact dw4
 ·exact dw4
 ·exact dw4
theorem tL{a b}(ha:List.length a<=2^40):(R.jx a b).sat (λr=>r.length<=a.length+1):=by
 unfold R.jx;refine aA λh=>?_
 refine aB (gQ (Q:=λr=>r.2.length=a.length) (λi=>i.2.2) a.length (by omega) (λx=>x.2.1.length=x.2.2.toNat) (by simp) (by simp) (by simp) λi h0 h1 hI=>?_) λx hx=>?_<;>repeat' (first|with_reducible (first|refine aD ?_|refine aA λ_=>?_|refine eD ?_|refine ef (λ_=>?_) λ_=>?_|refine lb (λ_=>?_) λ_=>?_|refine bK (λ_=>?_) λ_=>?_|refine jK rfl ?_|refine iC rfl ?_|refine aG (λ_=>?_) λ_=>?_|refine qD ?_|refine zw ?_|refine tt ?_|refine q_e ?_|refine q_p λ_ _=>?_|refine q_b λ_=>?_|refine bQ ?_ ?_ λ_ _ _=>?_|refine ba ?_ ?_ λ_ _ _=>?_|refine fZ ?_|refine aB (dc ?_) λ_ _=>?_|refine aB (oZ ?_ ?_) λ_ _=>?_|refine aB (qs ?_ ?_) λ_ _=>?_|refine aB (rK ?_ ?_) λ_ _=>?_|refine aB (tL ?_) λ_ _=>?_|refine gY ?_ ?_|refine oL ?_ ?_|refine tZ ?_ ?_|refine n_d ?_ ?_|refine uS (λ_=>?_) λ_=>?_|exact safe|refine fm ?_)|exact trivial|dsimp only [Nx,Dn]|with_reducible (first|rfl|refine And.intro ?_ ?_|intro _|contradiction)|omega|refine bD (by decide) ?_|(simp (disch:=omega) only [wrap64,gG,j7,List.length_append,List.length_cons,List.length_nil,List.length_take,List.length_drop,List.length_set,List.length_replicate,List.length_reverse]<;>omega)|(simp (disch:=omega) only [wrap64,gG,j7,List.length_append,List.length_cons,List.length_nil,List.length_take,List.length_drop,List.length_set,List.length_replicate,List.length_reverse] at*<;> omega)|exact Int.tmod_nonneg _ (by omega)|(simp_all [fh,kE,kJ,ki]<;>omega))
theorem yA{a b}(ha:List.length a<=8)(hb:List.length b<=8):(R.iU a b).sat (λr=>r.1.length<=8/\r.2.length<=300):=by
 unfold R.iU;refine aA λ_=>fZ (gY (by omega) (fZ (gY (by omega) (n_d (by omega) ?_))));rw [wrap64 (by omega)];refine aB (kG (Q:=λr=>r.2.length=a.length/\r.1.length<=300) (λi=>(i.2.1+1).toNat) (by simp;omega) (λx=>-1<=x.2.1/\x.2.1 < a.length/\x.2.2.length=a.length/\(x.1.length:Int)+32*(x.2.1+1)<=32*a.length) (by simp;omega) λi ⟨i1,i2,i3,i4⟩=>lb (λhi=>?_) λ_=>?_) λx hx=>?_
 ·refine aB (kG (Q:=λr=>r.2.length=a.length/\(r.1.length:Int)+32*i.2.1<=32*a.length) (λk=>(k.2.1+1).toNat) (by simp) (λx=>-1<=x.2.1/\x.2.1<=31/\x.2.2.length=a.length/\(x.1.length:Int)+32*i.2.1+(x.2.1+1)<=32*a.length) (by simp;omega) λk ⟨k1,k2,k3,k4⟩=>lb (λhk=>?_) λ_=>?_) λx hx=>?_<;>exact dw2
 ·exact dw2
 ·exact dw2
instance LS{a_0 b_1}:Safe (R.nB a_0 b_1):=by
 unfold R.nB;refine ⟨?_⟩;exact dw2
instance LV{a_0 b_1}:Safe (R.mm a_0 b_1):=by
 unfold R.mm;refine ⟨?_⟩;exact dw2
instance K8{a_0 b_1}:Safe (R.nC a_0 b_1):=by unfold R.nC;exact dw0
instance J1{a_0}:Safe (R.jl a_0):=by unfold R.jl;exact dw0
instance F5{a}:Aj (R.dC a) (a.1 == 1 || a.1 == 0 && a.2 == 0):=⟨by
 unfold R.dC;refine aA λ_=>aG (λh=>?_) λh=>?_
 ·exact aD (by simp [h])
 ·refine aG (λh2=>?_) λh2=>?_<;>exact aD (by simp [h,h2])⟩
instance Ki{a}:mG (R.fo a) (λr=>-9007199254740991<=a->a<=9007199254740991->r=max a (-a)):=⟨by
 unfold R.fo;refine aA λ_=>aD λh1 h2=>?_;rw [wrap64 (by omega),j7];simp [w6,w6,IntKind.wrap,IntKind.signed,IntKind.bits]
 omega⟩
instance Iq{x_0 y_1}:Safe (R.jg x_0 y_1):=by
 unfold R.jg;refine ⟨?_⟩;exact dw2
instance IM{n_0 neg_1}:Safe (R.gf n_0 neg_1):=by unfold R.gf;exact dw0
instance LH{a_0 b_1}:Safe (R.nE a_0 b_1):=by unfold R.nE;exact dw0
instance K4{a b}:Safe (R.mu a b):=by
 unfold R.mu;refine ⟨aA λ_=>q_p λ(x:Int×Int) hx=>aA λ_=>q_p λ(y:Int×Int) hy=>aA λ_=>?_⟩;refine q_b λs1=>q_b λs2=>?_;refine aB (R:=λc=>c=false->y.1≠2) (by exact dw2) λc hc=>aG (λ_=>(by exact dw2)) λhc'=>?_;have h1:=hc hc';refine aB (R:=λc=>c=false->y.1≠1/\(y.1=0->y.2≠0)) (by exact dw2) λd hd=>aG (λ_=>(by exact dw2)) λhd'=>?_;have h2:=hd hd';refine aB (R:=λc=>c=false->y.1≠3/\y.1≠4) (by exact dw2) λd hd=>aG (λ_=>(by exact dw2)) λhd'=>?_;have h5:=hd hd';have h3:=hx;have h4:=hy
 have hk:∀ v:Int,(-9007199254740991<=y.2->y.2<=9007199254740991->v=max y.2 (-y.2))->v≠0:=λv hv=>by
  by_cases h0:y.1=0
  ·have:=h4.1 h0;have:=hv this.1 this.2;have:=h2.2 h0;omega
  ·have:=h4.2 h0;omega
 refine q_p λu hu=>aA λ_=>q_p λ(v:Int) hv=>aA λ_=>?_;have hv0:=hk v hv;refine tZ hv0 (aG (λ_=>(by exact dw2)) λ_=>?_);refine q_p λu hu=>aA λ_=>q_p λ(v:Int) hv=>aA λ_=>?_;have hv0:=hk v hv;exact dw2
instance K3{a b}:Safe (R.nA a b):=by
 unfold R.nA;refine ⟨aA λ_=>q_p λ(x:Int×Int) hx=>aA λ_=>q_p λ(y:Int×Int) hy=>aA λ_=>?_⟩;refine aB (R:=λc=>c=false->y.1≠2/\y.1≠1/\(y.1=0->y.2≠0)) (by exact dw2) λc hc=>aG (λ_=>(by exact dw2)) λhc'=>?_;have h1:=hc hc';refine aB (R:=λc=>c=false->y.1≠3/\y.1≠4) (by exact dw2) λd hd=>aG (λ_=>(by exact dw2)) λhd'=>?_;have h2:=hd hd';have h3:=hx;have h4:=hy;refine q_p λu hu=>aA λ_=>q_p λ(v:Int) (hv:-9007199254740991<=y.2->y.2<=9007199254740991->v=max y.2 (-y.2))=>aA λ_=>?_
 have hv0:v≠0:=by
  by_cases h0:y.1=0
  ·have:=h4.1 h0;have:=hv this.1 this.2;have:=h1.2.2 h0;omega
  ·have:=h4.2 h0;omega
 exact dw2
instance CH{x_0}:Safe (R.eY x_0):=by unfold R.eY;exact dw0
instance AZ{x_0 y_1}:Safe (R.dv x_0 y_1):=by unfold R.dv;exact dw0
instance yG{a b}:Safe (R.ca a b):=by
 unfold R.ca;refine ⟨aA λh=>?_⟩;simp only [Sg.i,oks,Sh.ok,Ty.ok,List.map,Par.v,Bool.and_eq_true] at h;have:=lZ h.1
 refine aB (mL (λi=>i) a.length (by omega) (by omega) (by omega) λi h0 h1=>?_).ok λx _=>?_<;>exact dw2
instance JD{a_0 b_1}:Safe (R.lL a_0 b_1):=by unfold R.lL;exact dw0
instance LB{a_0 b_1}:Safe (R.lO a_0 b_1):=by unfold R.lO;exact dw0
instance GH{b_0 a_1}:Safe (R.gg b_0 a_1):=by unfold R.gg;exact dw0
instance Kn{a_0 b_1}:Safe (R.kS a_0 b_1):=by unfold R.kS;exact dw0
instance IW{x_0 y_1}:Safe (R.jf x_0 y_1):=by unfold R.jf;exact dw0
instance y7{a b}:Safe (R.dy a b):=by
 unfold R.dy;refine ⟨aA λh=>?_⟩;simp only [Sg.i,oks,Sh.ok,Ty.ok,List.map,Par.v,Bool.and_eq_true] at h;have:=lZ h.1
 refine eD (bK (λ_=>?_) λ_=>?_)<;>try exact aD trivial
 refine aB (mL (λi=>i) a.length (by omega) (by omega) (by omega) λi h0 h1=>?_).ok λx _=>?_<;>exact dw2
instance Jq{a_0 b_1}:Safe (R.lM a_0 b_1):=by unfold R.lM;exact dw0
instance Hu{a_0 b_1}:Safe (R.gi a_0 b_1):=by unfold R.gi;exact dw0
instance J3{v_0}:Safe (R.je v_0):=by unfold R.je;exact dw0
instance F7{v_0}:Safe (R.gK v_0):=by unfold R.gK;exact dw0
instance Kz{a_0 b_1}:Safe (R.lx a_0 b_1):=by unfold R.lx;exact dw0
instance Ib{b_0 a_1}:Safe (R.kM b_0 a_1):=by unfold R.kM;exact dw0
instance IQ{a_0 b_1}:Safe (R.jk a_0 b_1):=by unfold R.jk;exact dw0
instance JW{a_0}:Safe (R.fp a_0):=by unfold R.fp;exact dw0
instance xt{a b}:mG (R.dM a b) (λr=>r=true->(b.length:Int)<=a.length):=by
 unfold R.dM;refine ⟨aA λh=>?_⟩;simp only [Sg.i,oks,Sh.ok,Ty.ok,List.map,Par.v,Bool.and_eq_true] at h;have:=oH h.1;have:=oH h.2;exact dw2
instance yB{a b}:Safe (R.cg a b):=by
 unfold R.cg;refine ⟨aA λh=>?_⟩;simp only [Sg.i,oks,Sh.ok,Ty.ok,List.map,Par.v,Bool.and_eq_true] at h;have:=oH h.1;have:=oH h.2;refine q_p λx hx=>eD (aG (λhb=>?_) λ_=>aD trivial);have:=hx hb;exact dw2
instance Aq{s_0 suffix_1}:Safe (R.eE s_0 suffix_1):=by unfold R.eE;exact dw0
instance KT{s_0}:Safe (R.kc s_0):=by unfold R.kc;exact dw0
instance xq{a b}:mG (R.cm a b) (λr=>r=true->(b.length:Int)<=a.length):=by
 unfold R.cm;refine ⟨?_⟩;exact dw2
instance Bj{s_0 prefix_1}:Safe (R.cY s_0 prefix_1):=by unfold R.cY;exact dw0
instance xm{a b}:Safe (R.cT a b):=by
 unfold R.cT;refine ⟨aA λh=>q_p λx hx=>aG (λhb=>?_) λ_=>aD trivial⟩;have:=hx hb;exact dw2
instance AY{s_0 prefix_1}:Safe (R.cB s_0 prefix_1):=by unfold R.cB;exact dw0
instance GU{kind_0 op_1 old_2 by_3}:Safe (R.ig kind_0 op_1 old_2 by_3):=by unfold R.ig;exact dw0
end Go.Mach

set_option maxRecDepth 100000
namespace Go.Mach
open Res
abbrev eT:=aE.den
abbrev jY:=gu.den
abbrev qW:=gW.den
abbrev dZ:=aC.den
inductive ElI:Int->Int->Prop
 |k1:ElI 1 1
 |k2:ElI 2 1
 |k3:ElI 3 2
 |k4:ElI 4 2
 |k5:ElI 5 4
 |k6:ElI 6 4
 |k7:ElI 7 8
 |k8:ElI 8 8
structure tN (c d:jY):Prop where
 k:d.1=c.1
 n:d.2.2.2.2.2.1=c.2.2.2.2.2.1
 e:d.2.2.2.2.2.2.2.2.1=c.2.2.2.2.2.2.2.2.1
 b:d.2.2.2.2.2.2.2.2.2.1=c.2.2.2.2.2.2.2.2.2.1
 f:d.2.2.2.2.2.2.2.2.2.2.1=c.2.2.2.2.2.2.2.2.2.2.1
 l:d.2.2.2.2.2.2.2.2.2.2.2.1=c.2.2.2.2.2.2.2.2.2.2.2.1
 y:d.2.2.2.2.2.2.2.2.2.2.2.2.length=c.2.2.2.2.2.2.2.2.2.2.2.2.length
theorem tN.refl(c:jY):tN c c:=⟨rfl,rfl,rfl,rfl,rfl,rfl,rfl⟩
theorem tN.trans{a b c:jY}(h:tN a b)(g:tN b c):tN a c:=⟨g.k.trans h.k,g.n.trans h.n,g.e.trans h.e,g.b.trans h.b,g.f.trans h.f,g.l.trans h.l,g.y.trans h.y⟩
def nz(l l':List jY):Prop:=∀ (i:Nat) (c:jY),l[i]?=some c->∃ d,l'[i]?=some d/\tN c d
theorem nz.refl(l:List jY):nz l l:=λ_ c h=>⟨c,h,.refl c⟩
theorem nz.trans{a b c:List jY}(h:nz a b)(g:nz b c):nz a c:=λi x hx=>by
 obtain ⟨y,h1,h2⟩:=h i x hx;obtain ⟨z,g1,g2⟩:=g i y h1;exact ⟨z,g1,h2.trans g2⟩
theorem nz.push(l:List jY)(c:jY):nz l (l++[c]):=λi x hx=>⟨x,by rw [List.getElem?_append_left (List.getElem?_eq_some_iff.1 hx).1];exact hx,.refl x⟩
theorem nz.set{l:List jY}{i:Nat}{c d:jY}(hi:l[i]?=some c)(h:tN c d):nz l (l.set i d):=λj x hx=>by
 by_cases hij:i=j
 ·subst hij;rw [hi] at hx;cases hx;exact ⟨d,by rw [List.getElem?_set_self (List.getElem?_eq_some_iff.1 hi).1],h⟩
 ·exact ⟨x,by rw [List.getElem?_set_ne hij];exact hx,.refl x⟩
def qb(l:List jY)(b n:Int):Prop:=0<=b/\∃ d,l[b.toNat]?=some d/\((d.1=5/\n<=d.2.2.2.2.2.2.2.2.2.2.2.2.length)\/(d.1=6/\n<=d.2.2.2.2.2.2.2.2.2.2.2.1))
theorem qb.ext{l l':List jY}(h:nz l l'){b n:Int}(hb:qb l b n):qb l' b n:=by
 obtain ⟨h0,d,h1,h2⟩:=hb;obtain ⟨d',g1,g2⟩:=h _ d h1;refine ⟨h0,d',g1,?_⟩;rw [g2.k,g2.y,g2.l];exact h2
def FnI(N:List eT)(n:Int):Prop:=0<=n/\∃ x,N[n.toNat]?=some x/\(x.1=19\/x.1=41\/x.1=42)
structure pX (N:List eT) (l:List jY) (c:jY):Prop where
 fn:c.1=3->FnI N c.2.2.2.2.2.1
 bf:c.1=5->c.2.2.2.2.2.2.2.2.2.2.2.2.length<=4096
 sh:c.1=6->0<=c.2.2.2.2.2.2.2.2.2.2.2.1/\c.2.2.2.2.2.2.2.2.2.2.2.1<=9007199254740991
 ty:c.1=7->∃ z,ElI c.2.2.2.2.2.2.2.2.1 z/\0<=c.2.2.2.2.2.2.2.2.2.2.1/\0<=c.2.2.2.2.2.2.2.2.2.2.2.1/\c.2.2.2.2.2.2.2.2.2.2.2.1<=9007199254740991/\c.2.2.2.2.2.2.2.2.2.2.1+c.2.2.2.2.2.2.2.2.2.2.2.1*z<=9007199254740991/\qb l c.2.2.2.2.2.2.2.2.2.1 (c.2.2.2.2.2.2.2.2.2.2.1+c.2.2.2.2.2.2.2.2.2.2.2.1*z)
 vw:c.1=8->0<=c.2.2.2.2.2.2.2.2.2.2.1/\0<=c.2.2.2.2.2.2.2.2.2.2.2.1/\c.2.2.2.2.2.2.2.2.2.2.1+c.2.2.2.2.2.2.2.2.2.2.2.1<=9007199254740991/\qb l c.2.2.2.2.2.2.2.2.2.1 (c.2.2.2.2.2.2.2.2.2.2.1+c.2.2.2.2.2.2.2.2.2.2.2.1)
theorem pX.ext{N:List eT}{l l':List jY}(h:nz l l'){c:jY}(hc:pX N l c):pX N l' c :=
 ⟨hc.fn,hc.bf,hc.sh,λe=>by obtain ⟨z,h1,h2,h3,h4,h5,h6⟩:=hc.ty e;exact ⟨z,h1,h2,h3,h4,h5,h6.ext h⟩,λe=>by obtain ⟨h1,h2,h3,h4⟩:=hc.vw e;exact ⟨h1,h2,h3,h4.ext h⟩⟩
theorem pX.same{N:List eT}{l:List jY}{c d:jY}(h:tN c d)(hc:pX N l c):pX N l d:=by
 obtain ⟨k,n,e,b,f,g,y⟩:=h;constructor
 ·rw [k,n];exact hc.fn
 ·rw [k,y];exact hc.bf
 ·rw [k,g];exact hc.sh
 ·rw [k,e,f,g,b];exact hc.ty
 ·rw [k,f,g,b];exact hc.vw
def b8(v:dZ):Prop:=v.1=5->v.2.2.2.1.length<=4096
theorem b8.of{v:dZ}(h:v.1≠5):b8 v:=λe=>absurd e h
structure tE (B:Nat) (c:jY):Prop where
 pn:c.2.2.1.length<=B
 sn:c.2.2.2.1.length<=B
 pv:∀ p∈c.2.2.1,b8 p.2
 sv:∀ p∈c.2.2.2.1,b8 p.2.1
 tv:b8 c.2.2.2.2.2.2.2.1
 nn:c.2.2.2.2.1.length<=4096
theorem tE.mono{B B':Nat}{c:jY}(h:tE B c)(hb:B<=B'):tE B' c:=⟨Nat.le_trans h.pn hb,Nat.le_trans h.sn hb,h.pv,h.sv,h.tv,h.nn⟩
structure ir (N:List eT) (B:Nat) (h:qW):Prop where
 rm:h.1<=4096
 le:h.2.length<=4096
 cl:∀ (i:Nat) (c:jY),h.2[i]?=some c->pX N h.2 c/\tE B c
theorem ir.mono{N:List eT}{B B':Nat}{h:qW}(hh:ir N B h)(hb:B<=B'):ir N B' h:=⟨hh.rm,hh.le,λi c hc=>⟨(hh.cl i c hc).1,(hh.cl i c hc).2.mono hb⟩⟩
theorem ir.set{N:List eT}{B:Nat}{h:qW}(hh:ir N B h){i:Nat}{c d:jY}(hi:h.2[i]?=some c)(hs:tN c d)(hd:tE B d):ir N B (h.1,h.2.set i d):=by
 have he:nz h.2 (h.2.set i d):=.set hi hs;refine ⟨hh.rm,by show (h.2.set i d).length<=4096;rw [List.length_set];exact hh.le,λj x hx=>?_⟩;have hx:(h.2.set i d)[j]?=some x:=hx;by_cases hij:i=j
 ·subst hij;rw [List.getElem?_set_self (List.getElem?_eq_some_iff.1 hi).1] at hx;cases hx;exact ⟨((hh.cl i c hi).1.same hs).ext he,hd⟩
 ·rw [List.getElem?_set_ne hij] at hx;obtain ⟨h1,h2⟩:=hh.cl j x hx;exact ⟨h1.ext he,h2⟩
theorem ir.push{N:List eT}{B:Nat}{h:qW}(hh:ir N B h){c:jY}(hl:h.2.length < 4096)(hc:pX N h.2 c)(hv:tE B c):ir N B (h.1,h.2++[c]):=by
 have he:=nz.push h.2 c;refine ⟨hh.rm,by show (h.2++[c]).length<=4096;simp;omega,λj x hx=>?_⟩;have hx:(h.2++[c])[j]?=some x:=hx;rw [List.getElem?_append] at hx;split at hx
 ·obtain ⟨h1,h2⟩:=hh.cl j x hx;exact ⟨h1.ext he,h2⟩
 ·have:x=c:=by
   cases hj:j-h.2.length with
   |zero=>rw [hj] at hx;simpa using hx.symm
   |succ k=>rw [hj] at hx;simp at hx
  subst this;exact ⟨hc.ext he,hv⟩
theorem ir.lt{N:List eT}{B:Nat}{h:qW}(hh:ir N B h)(hl:(h.2.length:Int) < h.1):h.2.length < 4096:=Int.ofNat_lt.1 (Int.lt_of_lt_of_le hl hh.rm)
theorem tE.props{B:Nat}{c d:jY}(h:tE B c){B':Nat}(hb:B<=B')(hp:d.2.2.1.length<=B')(hv:∀ p∈d.2.2.1,b8 p.2)(e:d.2.2.2=c.2.2.2):tE B' d:=⟨hp,by rw [e];exact Nat.le_trans h.sn hb,hv,by rw [e];exact h.sv,by rw [e];exact h.tv,by rw [e];exact h.nn⟩
theorem tE.slots{B:Nat}{c d:jY}(h:tE B c){B':Nat}(hb:B<=B')(hp:d.2.2.2.1.length<=B')(hv:∀ p∈d.2.2.2.1,b8 p.2.1)(e:d.2.2.1=c.2.2.1)(e':d.2.2.2.2=c.2.2.2.2):tE B' d:=⟨by rw [e];exact Nat.le_trans h.pn hb,hp,by rw [e];exact h.pv,hv,by rw [e'];exact h.tv,by rw [e'];exact h.nn⟩
end Go.Mach

set_option maxRecDepth 100000
namespace Go.Mach
open Res
theorem has_ok{h:qW}{i:Int}:(R.bB h i).sat λr=>r=decide (0<=i/\i.toNat < h.2.length):=by
 unfold R.bB;refine aA λ_=>lb (λh0=>aD ?_) λh0=>aD ?_
 ·have e:(ilt i ((List.length h.2:Nat):Int))=decide (i < ((List.length h.2:Nat):Int)):=rfl;rw [e];congr 1;refine propext ⟨λg=>⟨h0,by omega⟩,λg=>by omega⟩
 ·rw [decide_eq_false (by omega)]
theorem oo{v:dZ}:(R.ea v).sat (·=v):=by
 unfold R.ea;exact aA λ_=>qD (aA λ_=>qD (aA λ_=>aD rfl))
theorem yq{c:jY}(hp:c.2.2.1.length<=2^39)(hs:c.2.2.2.1.length<=2^39):(R.gv c).sat (·=c):=by
 unfold R.gv;refine aA λ_=>aa (a:=c.2.2.1) (bD (decide_eq_true (by omega)) (aD rfl)) (aA λ_=>aa (a:=c.2.2.2.1) (bD (decide_eq_true (by omega)) (aD rfl)) (aA λ_=>qD (aA λ_=>aa oo (aA λ_=>?_))));refine aa (a:=c.2.2.1) (gQ (Q:=λl=>l=c.2.2.1) (λx=>x.1) (List.length c.2.2.1) (by omega) (λx=>x.2=c.2.2.1) (by simp) (by simp) rfl λx h0 h1 hI=>?_) ?_
 ·obtain ⟨i,l⟩:=x;have hI:l=c.2.2.1:=hI;subst hI;have h0:0<=i:=h0;refine ef (λhl=>?_) λhl=>aD rfl;have hl:i < (List.length c.2.2.1:Int):=hl
  have hl':(0+Int.toNat i:Int).toNat < List.length c.2.2.1:=by omega
  refine fZ (gY h0 (oL hl (ba (by omega) hl' λe he _=>qD (aA λ_=>aa oo (aA λ_=>fZ (gY h0 (oL hl (ba (by omega) hl' λ_ _ _=>aD ⟨rfl,hl,?_⟩))))))))
  have he:(c.2.2.1)[0+Int.toNat i]?=some e:=by rw [<- he];congr 1
  exact ob he
 refine aa (a:=c.2.2.2.1) (gQ (Q:=λl=>l=c.2.2.2.1) (λx=>x.1) (List.length c.2.2.2.1) (by omega) (λx=>x.2=c.2.2.2.1) (by simp) (by simp) rfl λx h0 h1 hI=>?_) ?_
 ·obtain ⟨i,l⟩:=x;have hI:l=c.2.2.2.1:=hI;subst hI;have h0:0<=i:=h0;refine ef (λhl=>?_) λhl=>aD rfl;have hl:i < (List.length c.2.2.2.1:Int):=hl
  have hl':(0+Int.toNat i:Int).toNat < List.length c.2.2.2.1:=by omega
  refine fZ (gY h0 (oL hl (ba (by omega) hl' λe he _=>aa oo (aA λ_=>fZ (gY h0 (oL hl (ba (by omega) hl' λe' he' _=>aD ⟨rfl,hl,?_⟩)))))));have he':some e=some e':=he.symm.trans he';cases he'
  have he:(c.2.2.2.1)[0+Int.toNat i]?=some e:=by rw [<- he];congr 1
  exact ob he
 exact aD rfl
theorem FL{l:List bH.den}{n:List UInt8}(hl:l.length<=2^40):(R.ah l n).sat λr=>-1<=r/\r < l.length:=by
 unfold R.ah
 refine aA λ_=>aB (gQ (Q:=λr:Unit ⊕ Int=>match r with|.inl _=>True|.inr r=>-1<=r/\r < l.length) (λx=>x) l.length (by omega) (λ_=>True) (by omega) (by omega) trivial λx h0 h1 _=>?_) λx hx=>?_
 ·unfold R.fj;refine ef (λh=>bQ (by omega) (by omega) λe _ _=>fm (aA λ_=>aD (aG (λ_=>aD ?_) λ_=>aD ⟨rfl,by omega,trivial⟩))) λ_=>aD trivial;exact ⟨by omega,by omega⟩
 ·cases x with
  |inl _=>exact iy (aD ⟨by omega,by omega⟩)
  |inr r=>exact iv (aD hx)
theorem Fq{l:List bO.den}{n:List Int}(hl:l.length<=2^40):(R.ae l n).sat λr=>-1<=r/\r < l.length:=by
 unfold R.ae
 refine aA λ_=>aB (gQ (Q:=λr:Unit ⊕ Int=>match r with|.inl _=>True|.inr r=>-1<=r/\r < l.length) (λx=>x) l.length (by omega) (λ_=>True) (by omega) (by omega) trivial λx h0 h1 _=>?_) λx hx=>?_
 ·unfold R.fG;refine ef (λh=>bQ (by omega) (by omega) λe _ _=>fm (aA λ_=>q_b λ_=>aD (aG (λ_=>aD ?_) λ_=>aD ⟨rfl,by omega,trivial⟩))) λ_=>aD trivial;exact ⟨by omega,by omega⟩
 ·cases x with
  |inl _=>exact iy (aD ⟨by omega,by omega⟩)
  |inr r=>exact iv (aD hx)
theorem za{h:qW}{i:Int}{n:List UInt8}{c:jY}(h0:0<=i)(hc:h.2[i.toNat]?=some c)(hl:c.2.2.2.1.length<=2^40):(R.c7 h i n).sat λr=>-1<=r/\r < c.2.2.2.1.length:=by
 unfold R.c7;refine aA λ_=>bQ h0 (List.getElem?_eq_some_iff.1 hc).1 λx hx _=>?_;have hx:h.2[i.toNat]?=some x:=hx;rw [hc] at hx;cases hx;exact aB (FL hl) λr hr=>aA λ_=>aD hr
theorem wP{h:qW}{i:Int}{n:List Int}{c:jY}(h0:0<=i)(hc:h.2[i.toNat]?=some c)(hl:c.2.2.1.length<=2^40):(R.dI h i n).sat λr=>-1<=r/\r < c.2.2.1.length:=by
 unfold R.dI;refine aA λ_=>bQ h0 (List.getElem?_eq_some_iff.1 hc).1 λx hx _=>?_;have hx:h.2[i.toNat]?=some x:=hx;rw [hc] at hx;cases hx;exact aB (Fq hl) λr hr=>aA λ_=>aD hr
section
variable {N:List eT}{B:Nat}{h:qW}
theorem jw{i:Int}{β:Type}{Q:β->Prop}{k:Bool->Res β}(h1:∀ c,0<=i->h.2[i.toNat]?=some c->(k true).sat Q)(h2:¬ (0<=i/\i.toNat < h.2.length)->(k false).sat Q):((R.bB h i).bind k).sat Q:=by
 refine aB has_ok λr hr=>?_;by_cases hp:0<=i/\i.toNat < h.2.length
 ·rw [hr,decide_eq_true hp];exact h1 _ hp.1 (List.getElem?_eq_getElem hp.2)
 ·rw [hr,decide_eq_false hp];exact h2 hp
theorem kA{i:Int}{c:jY}{β:Type}{Q:β->Prop}{k:jY->Res β}(h0:0<=i)(hc:h.2[i.toNat]?=some c)(hk:(k c).sat Q):(cO kD h.2 i k).sat Q :=
 bQ h0 (List.getElem?_eq_some_iff.1 hc).1 λx hx _=>by
  have hx:h.2[i.toNat]?=some x:=hx;rw [hc] at hx;cases hx;exact hk
theorem ri{α:Type}{P:α->Prop}{l:List α}{x:α}(h:∀ p∈l,P p)(hx:P x):∀ p∈l++[x],P p:=λp hp=>by
 rcases List.mem_append.1 hp with hp|hp
 ·exact h p hp
 ·cases List.mem_singleton.1 hp;exact hx
theorem sB{α:Type}{P:α->Prop}{l:List α}{i:Nat}{x:α}(h:∀ p∈l,P p)(hx:P x):∀ p∈l.set i x,P p:=λp hp=>by
 rcases List.mem_or_eq_of_mem_set hp with hp|rfl
 ·exact h p hp
 ·exact hx
theorem D5(hh:ir N B h)(hB:B<=2^39){c:jY}(hc:pX N h.2 c)(hv:tE B c) :
  (R.dn h c).sat λr=>ir N B r.2/\nz h.2 r.2.2/\(r.1.2=true->0<=r.1.1/\r.2.2[r.1.1.toNat]?=some c):=by
 unfold R.dn;have hle:=hh.le;have hp:=hv.pn;have ht:=hv.sn;refine aA λ_=>lb (λ_=>aD ⟨hh,.refl _,λe=>by cases e⟩) λhlt=>aa (yq (by omega) (by omega)) (aA λ_=>bD (decide_eq_true (by simp;omega)) ?_);have hlt:(h.2.length:Int) < h.1:=hlt
 have e:w6 (((h.2++[c]).length:Int)-1)=h.2.length:=by rw [wrap64 (by simp;omega)];simp
 rw [e];exact aD ⟨hh.push (hh.lt hlt) hc hv,.push _ _,λ_=>⟨by show (0:Int)<=((h.2.length:Nat):Int);omega,by simp⟩⟩
theorem Cy(hh:ir N B h)(hB:B<=2^39){i:Int}{n:List UInt8}{v:dZ}{r f:Bool}(hv:b8 v):(R.bE h i n v r f).sat λr=>ir N (B+1) r.2/\nz h.2 r.2.2:=by
 unfold R.bE;refine aA λ_=>aB (R:=λb=>b=false->∃ c,0<=i/\h.2[i.toNat]?=some c) (jw (λc h0 hc=>iC rfl (aB (za h0 hc (by have:=(hh.cl _ c hc).2.sn;omega)) λr _=>aA λ_=>aD λ_=>⟨c,h0,hc⟩)) λ_=>jK rfl (aD λe=>by cases e)) λb hb=>?_
 cases b with
 |true=>exact jK rfl (aD ⟨hh.mono (by omega),.refl _⟩)
 |false =>
  obtain ⟨c,h0,hc⟩:=hb rfl;have hl:=(hh.cl _ c hc).2;have hs:=hl.sn;refine iC rfl (kA h0 hc (bD (by simp) (aa oo (aA λ_=>bD (decide_eq_true (by simp;omega)) (bD (by simp) (aD ⟨?_,?_⟩))))))
  ·exact (hh.mono (Nat.le_succ B)).set hc ⟨rfl,rfl,rfl,rfl,rfl,rfl,rfl⟩ (hl.slots (Nat.le_succ B) (by show (c.2.2.2.1++[_]).length<=_;simp;omega) (ri hl.sv hv) rfl rfl)
  ·exact .set hc ⟨rfl,rfl,rfl,rfl,rfl,rfl,rfl⟩
theorem put_ok(hh:ir N B h)(hB:B<=2^39){i:Int}{n:List Int}{v:dZ}(hv:b8 v):(R.bc h i n v).sat λr=>ir N (B+1) r.2/\nz h.2 r.2.2:=by
 unfold R.bc;refine aA λ_=>jw (λc h0 hc=>iC rfl (kA h0 hc ?_)) λ_=>jK rfl (aD ⟨hh.mono (by omega),.refl _⟩);have hl:=(hh.cl _ c hc).2;have hp:=hl.pn;have hs:h.2.set i.toNat c=h.2:=ob hc;rw [hs];refine aB (wP (h:=(h.1,h.2)) h0 hc (by omega)) λr ⟨r0,r1⟩=>aA λ_=>lb (λhr=>bD (by simp) (aa oo (aA λ_=>bD (by simp [ile,ilt];omega) (ba (by omega) (by omega) λp _ _=>aD ⟨?_,?_⟩)))) λhr=>bD (by simp) (qD (aA λ_=>aa oo (aA λ_=>bD (decide_eq_true (by simp;omega)) (bD (by simp) (aD ⟨?_,?_⟩)))))
 ·exact (hh.mono (Nat.le_succ B)).set hc ⟨rfl,rfl,rfl,rfl,rfl,rfl,rfl⟩ (hl.props (Nat.le_succ B) (by show (c.2.2.1.set _ _).length<=_;rw [List.length_set];omega) (sB hl.pv hv) rfl)
 ·exact .set hc ⟨rfl,rfl,rfl,rfl,rfl,rfl,rfl⟩
 ·exact (hh.mono (Nat.le_succ B)).set hc ⟨rfl,rfl,rfl,rfl,rfl,rfl,rfl⟩ (hl.props (Nat.le_succ B) (by show (c.2.2.1++[_]).length<=_;simp;omega) (ri hl.pv hv) rfl)
 ·exact .set hc ⟨rfl,rfl,rfl,rfl,rfl,rfl,rfl⟩
theorem KK(hh:ir N B h)(hB:B<=2^39){i:Int}{n:List UInt8}{v:dZ}{r:Bool}(hv:b8 v):(R.cN h i n v r).sat λr=>ir N B r.2/\nz h.2 r.2.2:=by
 unfold R.cN;refine aA λ_=>jw (λc h0 hc=>iC rfl ?_) λ_=>jK rfl (aD ⟨hh,.refl _⟩);have hl:=(hh.cl _ c hc).2;have hs:=hl.sn;refine aB (za h0 hc (by omega)) λr ⟨r0,r1⟩=>aA λ_=>ef (λhr=>aD ⟨hh,.refl _⟩) λhr=>kA h0 hc (bD (by simp) (bD (by simp [ile,ilt];omega) (aa oo (aA λ_=>ba (by omega) (by omega) λp hp _=>ba (by omega) (by simp;omega) λp' hp' _=>aD ⟨?_,?_⟩))))
 ·exact hh.set hc ⟨rfl,rfl,rfl,rfl,rfl,rfl,rfl⟩ (hl.slots (Nat.le_refl B) (by show ((c.2.2.2.1.set _ _).set _ _).length<=_;rw [List.length_set,List.length_set];omega) (sB (sB hl.sv hv) (sB hl.sv hv p' (List.mem_of_getElem? hp'))) rfl rfl)
 ·exact .set hc ⟨rfl,rfl,rfl,rfl,rfl,rfl,rfl⟩
theorem JH(hh:ir N B h)(hB:B<=2^39){i:Int}:(R.eR h i).sat λr=>(r.1.1=0/\r.1.2.2.2.1=[])\/(r.2=true/\0<=i/\h.2[i.toNat]?=some r.1):=by
 unfold R.eR;refine aA λ_=>jw (λc h0 hc=>iC rfl (kA h0 hc ?_)) λ_=>jK rfl (aD (.inl ⟨rfl,rfl⟩));have hl:=(hh.cl _ c hc).2;have hp:=hl.pn;have hs:=hl.sn;exact aa (yq (by omega) (by omega)) (aA λ_=>aD (.inr ⟨rfl,h0,hc⟩))
theorem pO{i:Int}:(R.bW h i).sat λr=>r=0\/∃ c,0<=i/\h.2[i.toNat]?=some c/\r=(c.2.2.1.length:Int):=by
 unfold R.bW;exact aA λ_=>jw (λc h0 hc=>iC rfl (kA h0 hc (aD (.inr ⟨c,h0,hc,rfl⟩)))) λ_=>jK rfl (aD (.inl rfl))
theorem J7(hh:ir N B h)(hB:B<=2^39){i:Int}:(R.di h i).sat λr=>ir N B r.2/\nz h.2 r.2.2/\b8 r.1.1:=by
 unfold R.di;refine aA λ_=>aB pO λr hr=>aA λ_=>bK (λ_=>aD ⟨hh,.refl _,.of (show (0:Int)≠5 by decide)⟩) λhne=>?_;rcases hr with hr|⟨c,h0,hc,rfl⟩
 ·exact absurd hr hne
 have hl:=(hh.cl _ c hc).2;have hp:=hl.pn;have e:w6 ((c.2.2.1.length:Int)-1)=(c.2.2.1.length:Int)-1:=wrap64 (by omega);refine kA h0 hc ?_;rw [e];refine bD (by simp) (bD (by simp) (bD (by simp [ile,ilt];omega) (ba (by omega) (by omega) λp hp' _=>bD (by simp) (bD (by simp [ile];omega) (bD (by simp) (aa oo (aA λ_=>aD ⟨?_,?_,?_⟩)))))))
 ·exact hh.set hc ⟨rfl,rfl,rfl,rfl,rfl,rfl,rfl⟩ (hl.props (Nat.le_refl B) (by show (List.take _ (List.drop 0 c.2.2.1)).length<=_;simp;omega) (λp hp=>hl.pv p (List.mem_of_mem_take hp)) rfl)
 ·exact .set hc ⟨rfl,rfl,rfl,rfl,rfl,rfl,rfl⟩
 ·exact hl.pv p (List.mem_of_getElem? hp')
theorem H3(hh:ir N B h)(hB:B<=2^39){i a:Int}{b:List Int}(hb:b.length<=8)(hbyt:∀ c:jY,h.2[i.toNat]?=some c->c.2.2.2.2.2.2.2.2.2.2.2.2.length<=2^47):(R.dK h i a b).sat λr=>ir N B r.2/\nz h.2 r.2.2:=by
 unfold R.dK;refine aA λ_=>jw (λc h0 hc=>iC rfl (kA h0 hc ?_)) λ_=>jK rfl (aD ⟨hh,.refl _⟩);have hl:=(hh.cl _ c hc).2;have hy:=hbyt c hc;have hs:h.2.set i.toNat c=h.2:=ob hc;refine aB (R:=λx=>x=false->0<=a/\a<=c.2.2.2.2.2.2.2.2.2.2.2.2.length/\a+b.length<=c.2.2.2.2.2.2.2.2.2.2.2.2.length) (ef (λ_=>aD λe=>by cases e) λa0=>bD (by simp) (ef (λ_=>aD λe=>by cases e) λa1=>bD (by simp) (aD λe=>?_))) λx hx=>?_
 ·rw [wrap64 (by omega),kJ] at e;exact ⟨a0,a1,by omega⟩
 cases x with
 |true =>
  refine jK rfl (aD ⟨?_,?_⟩)
  ·show ir N B (h.1,h.2.set i.toNat c);rw [hs];exact hh
  ·show nz h.2 (h.2.set i.toNat c);rw [hs];exact .refl _
 |false =>
  obtain ⟨a0,a1,a2⟩:=hx rfl
  have e:(List.take (0+a.toNat) c.2.2.2.2.2.2.2.2.2.2.2.2++(List.take (min b.length (c.2.2.2.2.2.2.2.2.2.2.2.2.length-a.toNat)) b++List.drop (0+a.toNat+min b.length (c.2.2.2.2.2.2.2.2.2.2.2.2.length-a.toNat)) c.2.2.2.2.2.2.2.2.2.2.2.2)).length=c.2.2.2.2.2.2.2.2.2.2.2.2.length:=by
   simp only [List.length_append,List.length_take,List.length_drop];omega
  refine iC rfl (bD (by simp) (bD (by simp [ile];omega) (aD ⟨?_,?_⟩)))
  ·exact hh.set hc ⟨rfl,rfl,rfl,rfl,rfl,rfl,e⟩ ⟨hl.pn,hl.sn,hl.pv,hl.sv,hl.tv,hl.nn⟩
  ·exact .set hc ⟨rfl,rfl,rfl,rfl,rfl,rfl,e⟩
theorem Ke{i:Int}:(R.al h i).sat λr=>(r.2=false/\r.1.1=0/\¬ (0<=i/\i.toNat < h.2.length))\/(r.2=true/\0<=i/\∃ c,h.2[i.toNat]?=some c/\r.1=(c.1,(c.2.1,((),((),(c.2.2.2.2.1,(c.2.2.2.2.2.1,(c.2.2.2.2.2.2.1,(c.2.2.2.2.2.2.2.1,(c.2.2.2.2.2.2.2.2.1,(c.2.2.2.2.2.2.2.2.2.1,(c.2.2.2.2.2.2.2.2.2.2.1,(c.2.2.2.2.2.2.2.2.2.2.2.1,()))))))))))))):=by
 unfold R.al;exact aA λ_=>jw (λc h0 hc=>iC rfl (kA h0 hc (aD (.inr ⟨rfl,h0,c,hc,rfl⟩)))) λhn=>jK rfl (aD (.inl ⟨rfl,rfl,hn⟩))
theorem nf{i:Int}:(R.bC h i).sat λr=>(r=0/\¬ (0<=i/\i.toNat < h.2.length))\/(0<=i/\∃ c,h.2[i.toNat]?=some c/\r=c.1):=by
 unfold R.bC;exact aA λ_=>jw (λc h0 hc=>iC rfl (kA h0 hc (aD (.inr ⟨h0,c,hc,rfl⟩)))) λhn=>jK rfl (aD (.inl ⟨rfl,hn⟩))
theorem Dh(hh:ir N B h)(hB:B<=2^39){i:Int}{n:List UInt8}:(R.dh h i n).sat λr=>b8 r.1.2.1:=by
 unfold R.dh;have hle:=hh.le
 refine aA λ_=>aB (gQ (Q:=λr:Unit ⊕ (Int×(Bool×bH.den))=>match r with|.inl _=>True|.inr r=>b8 r.2.2.2.1) (λx=>x.2) h.2.length (by omega) (λ_=>True) (by simp) (by simp) trivial λx h0 h1 _=>?_) λx hx=>?_
 ·refine ef (λhl=>jw (λc c0 hc=>iC rfl ?_) λ_=>jK rfl (aD trivial)) λ_=>aD trivial;have hv:=(hh.cl _ c hc).2;have hs:=hv.sn;refine aB (za c0 hc (by omega)) λr ⟨r0,r1⟩=>aA λ_=>lb (λhr=>kA c0 hc (bQ hr (by omega) λp hp _=>aa oo (aA λ_=>aD ?_))) λ_=>kA c0 hc (aD ⟨rfl,hl,trivial⟩);exact hv.sv p (List.mem_of_getElem? hp)
 ·cases x with
  |inl _=>exact iy (aD (.of (show (0:Int)≠5 by decide)))
  |inr r=>exact iv (aD hx)
theorem uD(hh:ir N B h)(hB:B<=2^39){i:Int}{n:List Int}:(R.cW h i n).sat λr=>b8 r.1:=by
 unfold R.cW;refine aA λ_=>jw (λc c0 hc=>iC rfl ?_) λ_=>jK rfl (aD (.of (show (0:Int)≠5 by decide)));have hv:=(hh.cl _ c hc).2;have hs:=hv.pn;refine aB (wP c0 hc (by omega)) λr ⟨r0,r1⟩=>aA λ_=>ef (λ_=>aD (.of (show (0:Int)≠5 by decide))) λhr=>kA c0 hc (bQ hr (by omega) λp hp _=>aa oo (aA λ_=>aD ?_));exact hv.pv p (List.mem_of_getElem? hp)
theorem D1(hh:ir N B h)(hB:B<=2^39){i:Int}{n:List Int}:(R.dm h i n).sat λr=>b8 r.1:=by
 unfold R.dm;have hle:=hh.le
 refine aA λ_=>aB (gQ (Q:=λr:Unit ⊕ (Int×(Bool×aC.den))=>match r with|.inl _=>True|.inr r=>b8 r.2.2) (λx=>x.2) h.2.length (by omega) (λ_=>True) (by simp) (by simp) trivial λx h0 h1 _=>?_) λx hx=>?_
 ·refine ef (λhl=>aB (uD hh hB) λr hr=>aA λ_=>aG (λ_=>aD hr) λ_=>jw (λc c0 hc=>iC rfl (kA c0 hc (ef (λ_=>aD (.of (show (0:Int)≠5 by decide))) λ_=>aD ⟨rfl,hl,trivial⟩))) λ_=>jK rfl (aD (.of (show (0:Int)≠5 by decide)))) λ_=>aD trivial
 ·cases x with
  |inl _=>exact iy (aD (.of (show (0:Int)≠5 by decide)))
  |inr r=>exact iv (aD hx)
end
end Go.Mach

set_option maxRecDepth 100000
namespace Go.Mach
open Res
abbrev RunT:=aJ.den
abbrev xy:=eU.den
abbrev uP:=fT.den
def Bf:uP:=(0,(0,(0,(0,(0,(false,(false,(0,(0,((0,0),(([]:List Int),0)))))))))))
structure Cx where
 N:List eT
 H:Int
 D:Int
 F:Int
 A:List xy
structure gy (C:Cx) (m:Int) (s:RunT):Prop where
 nd:s.1=C.N
 lm:s.2.1=(C.H,(C.D,C.F))
 an:s.2.2.1=C.A
 u0:LE.le (α:=Int) (0) (s.2.2.2.1)
 us:LE.le (α:=Int) (s.2.2.2.1) ((C.A.length:Int))
 hp:∃ B:Nat,ir C.N B s.2.2.2.2.1/\(B:Int)+134217728*((HSub.hSub (α:=Int) (β:=Int) (γ:=Int) (C.F) (s.2.2.2.2.2.2.1)))<=m
 d0:LE.le (α:=Int) (0) (s.2.2.2.2.2.1)
 dp:LE.le (α:=Int) (s.2.2.2.2.2.1) (C.D)
 b0:LE.le (α:=Int) (0) (s.2.2.2.2.2.2.1)
 bg:LE.le (α:=Int) (s.2.2.2.2.2.2.1) (C.F)
 rq:s.2.2.2.2.2.2.2.1=Bf
 en:s.2.2.2.2.2.2.2.2=(0,([]:List Int))
theorem gy.mono{C:Cx}{m m':Int}{s:RunT}(h:gy C m s)(hm:m<=m'):gy C m' s:=⟨h.nd,h.lm,h.an,h.u0,h.us,by obtain ⟨B,h1,h2⟩:=h.hp;exact ⟨B,h1,Int.le_trans h2 hm⟩,h.d0,h.dp,h.b0,h.bg,h.rq,h.en⟩
def DB(a:Int×Int):Prop:=(a.1=0/\0<=a.2/\a.2<=9007199254740991)\/(a.1=3/\a.2=0)
structure xX (q:uP):Prop where
 k:1<=q.1/\q.1<=14
 ln:0<=q.2.2.2.2.2.2.2.2.2.2.2/\q.2.2.2.2.2.2.2.2.2.2.2<=9007199254740991
 tx:q.2.2.2.2.2.2.2.2.2.2.1.length<=4096
 nm:DB q.2.2.2.2.2.2.2.2.2.1
 a:(q.1 < 2\/6 < q.1)->q.2.2.2.1=0/\q.2.2.2.2.2.1=false/\q.2.2.2.2.2.2.1=false/\q.2.2.2.2.2.2.2.1=0/\q.2.2.2.2.2.2.2.2.1=0/\q.2.2.2.2.1=0
 z:(2<=q.1/\q.1<=6)->(q.2.2.2.1=1\/q.2.2.2.1=2\/q.2.2.2.1=4\/q.2.2.2.1=8)/\(q.2.2.2.1=8\/(q.2.2.2.2.2.2.2.1 < 2^(8*q.2.2.2.1).toNat/\q.2.2.2.2.2.2.2.2.1 < 2^(8*q.2.2.2.1).toNat))/\0<=q.2.2.1/\(q.2.2.2.2.2.1=true->q.2.2.2.2.2.2.1=true)/\(q.1=4->0 < q.2.2.2.2.1/\q.2.2.2.2.1<=6)/\(q.1≠4->q.2.2.2.2.1=0)
structure EE (C:Cx) (s:RunT):Prop where
 nd:s.1=C.N
 hs:(s.2.2.2.2.2.2.2.2=(0,([]:List Int))/\xX s.2.2.2.2.2.2.2.1)\/∃ k:Int,3<=k/\k<=6/\s.2.2.2.2.2.2.2.2=(k,([]:List Int))/\s.2.2.2.2.2.2.2.1=Bf
structure Aft (C:Cx) (m b:Int) (s s':RunT):Prop where
 run:gy C m s'
 ext:nz s.2.2.2.2.1.2 s'.2.2.2.2.1.2
 dp:Eq (α:=Int) (s'.2.2.2.2.2.1) (s.2.2.2.2.2.1)
 bg:LE.le (α:=Int) (b) (s'.2.2.2.2.2.2.1)
def Pst(C:Cx)(m b:Int)(s:RunT)(how:Int)(s':RunT):Prop:=(how=5/\EE C s')\/(how≠5/\Aft C m b s s')
def cy(C:Cx)(m b:Int)(s:RunT)(r:(dZ×Int)×RunT):Prop:=b8 r.1.1/\Pst C m b s r.1.2 r.2
def ng(C:Cx)(m b:Int)(s:RunT)(r:aR.den×RunT):Prop:=b8 r.1.2.2/\Pst C m b s r.1.1 r.2
section
variable {C:Cx}{m b:Int}{s:RunT}
theorem Aft.refl(h:gy C m s):Aft C m s.2.2.2.2.2.2.1 s s:=⟨h,.refl _,rfl,Int.le_refl _⟩
theorem Aft.mono{s':RunT}(h:Aft C m b s s'){m' b':Int}(hm:m<=m')(hb:b'<=b):Aft C m' b' s s':=⟨h.run.mono hm,h.ext,h.dp,Int.le_trans hb h.bg⟩
theorem Aft.trans{m' b':Int}{s' s'':RunT}(h:Aft C m b s s')(g:Aft C m' b' s' s''):Aft C m' b' s s'':=⟨g.run,h.ext.trans g.ext,g.dp.trans h.dp,g.bg⟩
theorem Pst.mono{how:Int}{s':RunT}(h:Pst C m b s how s'){m' b':Int}(hm:m<=m')(hb:b'<=b):Pst C m' b' s how s':=h.imp id λ⟨h1,h2⟩=>⟨h1,h2.mono hm hb⟩
theorem Pst.after{m' b' how:Int}{s' s'':RunT}(h:Aft C m b s s')(g:Pst C m' b' s' how s''):Pst C m' b' s how s'':=g.imp id λ⟨h1,h2⟩=>⟨h1,h.trans h2⟩
theorem Pst.how{how how':Int}{s':RunT}(h:Pst C m b s how s')(hn:how≠5)(hn':how'≠5):Pst C m b s how' s':=by
 rcases h with ⟨h1,_⟩|⟨_,h2⟩
 ·exact absurd h1 hn
 ·exact .inr ⟨hn',h2⟩
theorem Pst.aft{how:Int}{s':RunT}(h:Pst C m b s how s')(hn:how≠5):Aft C m b s s':=by
 rcases h with ⟨h1,_⟩|⟨_,h2⟩
 ·exact absurd h1 hn
 ·exact h2
theorem gy.heap(h:gy C m s)(hm:m<=2^39):∃ B:Nat,ir C.N B s.2.2.2.2.1/\B<=2^39/\(B:Int)+134217728*((HSub.hSub (α:=Int) (β:=Int) (γ:=Int) (C.F) (s.2.2.2.2.2.2.1)))<=m:=by
 obtain ⟨B,h1,h2⟩:=h.hp;have:=h.bg;exact ⟨B,h1,by omega,h2⟩
theorem gy.put(h:gy C m s){H:qW}{B:Nat}{m':Int}(hH:ir C.N B H)(hB:(B:Int)+134217728*((HSub.hSub (α:=Int) (β:=Int) (γ:=Int) (C.F) (s.2.2.2.2.2.2.1)))<=m'):gy C m' (s.1,(s.2.1,(s.2.2.1,(s.2.2.2.1,(H,s.2.2.2.2.2))))):=⟨h.nd,h.lm,h.an,h.u0,h.us,⟨B,hH,hB⟩,h.d0,h.dp,h.b0,h.bg,h.rq,h.en⟩
theorem qg{k:Int}:(R.cF s k).sat (·=(5,(s.1,(s.2.1,(s.2.2.1,(s.2.2.2.1,(s.2.2.2.2.1,(s.2.2.2.2.2.1,(s.2.2.2.2.2.2.1,(s.2.2.2.2.2.2.2.1,(k,([]:List Int))))))))))) ):=by
 unfold R.cF;exact aA λ_=>aD rfl
theorem gy.halt(h:gy C m s){k:Int}(hk:3<=k/\k<=6){H:qW}{d b:Int}:EE C (s.1,(s.2.1,(s.2.2.1,(s.2.2.2.1,(H,(d,(b,(s.2.2.2.2.2.2.2.1,(k,([]:List Int)))))))))):=⟨h.nd,.inr ⟨k,hk.1,hk.2,rfl,h.rq⟩⟩
theorem bn:b8 (0,((0,0),((false,([]:List Int)),(([]:List Int),0)))):=.of (show (0:Int)≠5 by decide)
theorem fe(h:gy C m s):(R.aL s).sat (cy C m b s):=by
 unfold R.aL;exact aA λ_=>aa qg (aA λ_=>aD ⟨bn,.inl ⟨rfl,h.halt (by decide)⟩⟩)
theorem FM(h:gy C m s)(hF:C.F<=2^40)(hD:C.D<=2^40):(R.bu s).sat λr=>(r.1=false/\EE C r.2)\/(r.1=true/\r.2.2.2.2.2.1=s.2.2.2.2.1/\Eq (α:=Int) (r.2.2.2.2.2.2.1) ((HAdd.hAdd (α:=Int) (β:=Int) (γ:=Int) (s.2.2.2.2.2.1) (1)))/\Eq (α:=Int) (r.2.2.2.2.2.2.2.1) ((HAdd.hAdd (α:=Int) (β:=Int) (γ:=Int) (s.2.2.2.2.2.2.1) (1)))/\gy C (m-134217728) r.2):=by
 unfold R.bu;have h1:=h.dp;have h2:=h.bg;have h3:=h.d0;have h4:=h.b0;have e1:s.2.1.2.1=C.D:=congrArg (λx=>x.2.1) h.lm;have e2:s.2.1.2.2=C.F:=congrArg (λx=>x.2.2) h.lm;refine aA λ_=>?_;refine lb (λ_=>aa qg (aA λ_=>aD (.inl ⟨rfl,?_⟩))) λhd=>lb (λ_=>aa qg (aA λ_=>aD (.inl ⟨rfl,?_⟩))) λhf=>aD (.inr ?_)
 ·exact h.halt (k:=5) (by decide)
 ·exact h.halt (k:=6) (by decide)
 ·have hd:LT.lt (α:=Int) (s.2.2.2.2.2.1) (s.2.1.2.1):=hd;have hf:LT.lt (α:=Int) (s.2.2.2.2.2.2.1) (s.2.1.2.2):=hf;rw [e1] at hd;rw [e2] at hf;have e1:w6 (HAdd.hAdd (α:=Int) (β:=Int) (γ:=Int) (s.2.2.2.2.2.1) (1))=(HAdd.hAdd (α:=Int) (β:=Int) (γ:=Int) (s.2.2.2.2.2.1) (1)):=wrap64 (by omega);have e2:w6 (HAdd.hAdd (α:=Int) (β:=Int) (γ:=Int) (s.2.2.2.2.2.2.1) (1))=(HAdd.hAdd (α:=Int) (β:=Int) (γ:=Int) (s.2.2.2.2.2.2.1) (1)):=wrap64 (by omega);rw [e1,e2];refine ⟨rfl,rfl,rfl,rfl,h.nd,h.lm,h.an,h.u0,h.us,?_,?_,?_,?_,?_,h.rq,h.en⟩
  ·obtain ⟨B,g1,g2⟩:=h.hp;refine ⟨B,g1,?_⟩;show (B:Int)+134217728*(C.F-((HAdd.hAdd (α:=Int) (β:=Int) (γ:=Int) (s.2.2.2.2.2.2.1) (1))))<=m-134217728;omega
  ·show LE.le (α:=Int) (0) ((HAdd.hAdd (α:=Int) (β:=Int) (γ:=Int) (s.2.2.2.2.2.1) (1)));omega
  ·show LE.le (α:=Int) ((HAdd.hAdd (α:=Int) (β:=Int) (γ:=Int) (s.2.2.2.2.2.1) (1))) (C.D);omega
  ·show LE.le (α:=Int) (0) ((HAdd.hAdd (α:=Int) (β:=Int) (γ:=Int) (s.2.2.2.2.2.2.1) (1)));omega
  ·show LE.le (α:=Int) ((HAdd.hAdd (α:=Int) (β:=Int) (γ:=Int) (s.2.2.2.2.2.2.1) (1))) (C.F);omega
theorem pS(h:gy C m s)(hm:m<=2^39){c:jY}(hc:pX C.N s.2.2.2.2.1.2 c)(hv:∀ B,ir C.N B s.2.2.2.2.1->tE B c):(R.aX s c).sat λr=>cy C m s.2.2.2.2.2.2.1 s r/\(r.1.2≠5->r.1.2=0/\r.1.1.1=6/\0<=r.1.1.2.2.2.2/\r.2.2.2.2.2.1.2[r.1.1.2.2.2.2.toNat]?=some c):=by
 unfold R.aX;obtain ⟨B,h1,h2,h3⟩:=h.heap hm;refine aA λ_=>aB (D5 h1 h2 hc (hv B h1)) λr ⟨r1,r2,r3⟩=>aA λ_=>eD (aG (λhr=>aD ⟨⟨.of (show (6:Int)≠5 by decide),.inr ⟨show (0:Int)≠5 by decide,h.put r1 h3,r2,rfl,Int.le_refl _⟩⟩,λ_=>⟨rfl,rfl,r3 hr⟩⟩) λ_=>aa qg (aA λ_=>aD ⟨⟨bn,.inl ⟨rfl,h.halt (by decide)⟩⟩,λe=>absurd rfl e⟩))
theorem pX.mk'{N:List eT}{l:List jY}{c:jY}(k:Int)(e:c.1=k)(h:k≠3/\k≠5/\k≠6/\k≠7/\k≠8):pX N l c:=by
 subst e;exact ⟨λe=>absurd e h.1,λe=>absurd e h.2.1,λe=>absurd e h.2.2.1,λe=>absurd e h.2.2.2.1,λe=>absurd e h.2.2.2.2⟩
theorem qP(h:gy C m s)(hm:m<=2^39){a:Int}:(R.bm s a).sat λr=>Pst C m s.2.2.2.2.2.2.1 s r.1.2 r.2/\(r.1.2≠5->r.1.2=0):=by
 unfold R.bm;exact aA λ_=>aB (pS h hm (.mk' 9 rfl (by decide)) λB _=>⟨Nat.zero_le _,Nat.zero_le _,by simp,by simp,bn,Nat.zero_le _⟩) λr ⟨r1,r2⟩=>aA λ_=>aD ⟨r1.2,λe=>(r2 e).1⟩
theorem nH{u:List Int}:(R.cP u).sat λr=>b8 r/\r.1=5:=by
 unfold R.cP
 have h0:(0:Int)<=kF (u.length:Int) 4096/\kF (u.length:Int) 4096<=u.length/\kF (u.length:Int) 4096<=4096:=by rw [gG];omega
 refine aA λ_=>fZ (gY h0.1 (gY h0.2.1 (qD (aA λ_=>aD ⟨λ_=>?_,rfl⟩))));show (List.take _ (List.drop 0 u)).length<=4096;simp only [List.length_take];omega
theorem GK(h:gy C m s)(hm:m<=2^39){n:List UInt8}(hn:n.length<=4096):(R.cI s n).sat λr=>cy C m s.2.2.2.2.2.2.1 s r/\r.1.2≠0:=by
 unfold R.cI;refine aA λ_=>aB nH λu hu=>aA λ_=>aB (pS h hm (.mk' 10 rfl (by decide)) λB _=>⟨Nat.zero_le _,Nat.zero_le _,by simp,by simp,hu.1,hn⟩) λr ⟨r1,r2⟩=>aA λ_=>eD (bK (λe=>aD ⟨⟨r1.1,.inr ⟨show (4:Int)≠5 by decide,r1.2.aft (by rw [e];decide)⟩⟩,show (4:Int)≠0 by decide⟩) λe=>aD ⟨r1,e⟩)
theorem nZ(h:gy C m s)(hm:m<=2^39){k:Int}:(R.aF s k).sat λr=>cy C m s.2.2.2.2.2.2.1 s r/\r.1.2≠0:=by
 unfold R.aF
 refine aA λ_=>bK (λ_=>?_) λ_=>bK (λ_=>?_) λ_=>bK (λ_=>?_) λ_=>bK (λ_=>?_) λ_=>aa qg (aA λ_=>aD ⟨⟨bn,.inl ⟨rfl,h.halt (by decide)⟩⟩,show (5:Int)≠0 by decide⟩)<;>exact aB (GK h hm (by decide)) λr hr=>aA λ_=>aD hr
theorem qK(h:gy C m s)(hm:m<=2^39){v:dZ}(hv:b8 v){k:Int}:(R.bj s v k).sat (cy C m s.2.2.2.2.2.2.1 s):=by
 unfold R.bj;exact aA λ_=>eD (bK (λ_=>aD ⟨hv,.inr ⟨show (0:Int)≠5 by decide,.refl h⟩⟩) λ_=>aB (nZ h hm) λr hr=>aA λ_=>aD hr.1)
theorem sK(h:gy C m s)(hA:C.A.length<=2^40){q:uP}(hq:xX q):(R.bT s q).sat λr=>Pst C m s.2.2.2.2.2.2.1 s r.1.2 r.2/\(r.1.2≠5->r.1.2=0):=by
 unfold R.bT;have h1:=h.u0;have h2:=h.us;refine aA λ_=>bK (λ_=>aa qg (aA λ_=>aD ⟨.inl ⟨rfl,h.nd,.inl ⟨rfl,hq⟩⟩,λe=>absurd rfl e⟩)) λhne=>?_;have e0:s.2.2.1.length=C.A.length:=congrArg List.length h.an;have hne:Ne (α:=Int) (s.2.2.2.1) ((s.2.2.1.length:Int)):=hne;have e1:w6 (HAdd.hAdd (α:=Int) (β:=Int) (γ:=Int) (s.2.2.2.1) (1))=(HAdd.hAdd (α:=Int) (β:=Int) (γ:=Int) (s.2.2.2.1) (1)):=wrap64 (by omega)
 have e2:w6 (HSub.hSub (α:=Int) (β:=Int) (γ:=Int) ((HAdd.hAdd (α:=Int) (β:=Int) (γ:=Int) (s.2.2.2.1) (1))) (1))=s.2.2.2.1:=by rw [wrap64 (by omega)];omega
 rw [e1,e2];exact ba h1 (by omega) λa _ _=>qD (aA λ_=>aD ⟨.inr ⟨show (0:Int)≠5 by decide,⟨h.nd,h.lm,h.an,by show LE.le (α:=Int) (0) ((HAdd.hAdd (α:=Int) (β:=Int) (γ:=Int) (s.2.2.2.1) (1)));omega,by show LE.le (α:=Int) ((HAdd.hAdd (α:=Int) (β:=Int) (γ:=Int) (s.2.2.2.1) (1))) (_);omega,h.hp,h.d0,h.dp,h.b0,h.bg,h.rq,h.en⟩,.refl _,rfl,Int.le_refl _⟩,λ_=>rfl⟩)
end
end Go.Mach

set_option maxRecDepth 100000
namespace Go.Mach
open Res
def wN(k:Int):Bool:=decide (30<=k/\k<=53/\k≠40)
def BZ(k:Int):Bool:=decide (k=33\/k=52\/k=53)
def og(s k:Int):Bool :=
 if s=1\/s=2 then true
 else if s=3 then wN k
 else if s=4 then BZ k
 else if s=5 then k == 7
 else if s=6 then k == 20
 else if s=7 then k == 40
 else if s=8 then k == 4
 else if s=9 then k == 11 || wN k
 else if s=10 then k == 11 || k == 5 || k == 6 || wN k
 else if s=11 then k == 11 || k == 17
 else if s=12 then k == 11 || k == 4
 else if s=13 then k == 4 || wN k
 else false
def zo(n last:Int):List Int:=List.replicate (n-1).toNat 6++[last]
def shp(k n:Int):List Int×Int :=
 if k=1\/k=4 then ([],1)
 else if k=3\/k=15\/k=40\/k=43\/k=52 then ([3],0)
 else if k=5\/k=6 then ([5],5)
 else if k=7\/k=14 then (List.take (min n 1).toNat [3],0)
 else if k=8 then (List.take (min (max n 2) 3).toNat [3,2,2],0)
 else if k=9 then ([3,2],0)
 else if k=10 then ([10,9,9,2],0)
 else if k=16 then ([8,11,12],0)
 else if k=17 then ([8],0)
 else if k=18 then ([2],0)
 else if k=19\/k=41 then (zo n 8,0)
 else if k=42 then (zo n 13,0)
 else if k=38 then ([],3)
 else if k=39 then ([],7)
 else if k=44\/k=45 then ([4],0)
 else if k=46\/k=47\/k=53 then ([3,3],0)
 else if k=48 then ([3,3,3],0)
 else if k=49 then ([4,3],0)
 else if k=50\/k=51 then ([3],3)
 else ([],0)
def srt(l:List Int×Int)(i:Nat):Int:=l.1.getD i l.2
structure rQ (N:List eT) (x:eT):Prop where
 kid:∀ (i:Nat) (k:Int),x.2.2.2.2.2[i]?=some k->0<=k/\∃ y,N[k.toNat]?=some y/\og (srt (shp x.1 x.2.2.2.2.2.length) i) y.1=true/\x.2.2.2.2.2.length+y.2.2.2.2.2.length<=20000
 len:(shp x.1 x.2.2.2.2.2.length).1.length<=x.2.2.2.2.2.length
 nam:x.1=49->x.2.1≠[]
def Kid(N:List eT)(x:eT)(i:Nat)(P:Int->Prop):Prop:=∃ k y,x.2.2.2.2.2[i]?=some k/\0<=k/\N[k.toNat]?=some y/\P y.1
theorem rQ.at'{N:List eT}{x:eT}(h:rQ N x){i:Nat}(hi:i < x.2.2.2.2.2.length)(s:Int)(hs:srt (shp x.1 x.2.2.2.2.2.length) i=s):Kid N x i λk=>og s k=true:=by
 obtain ⟨h0,y,h1,h2,_⟩:=h.kid i _ (List.getElem?_eq_getElem hi);exact ⟨_,y,List.getElem?_eq_getElem hi,h0,h1,hs▸h2⟩
theorem oO{k:Int}:(R.eO k).sat (·=wN k):=by
 unfold R.eO wN;refine aA λ_=>lb (λh1=>lb (λh2=>aD ?_) λh2=>aD ?_) λh1=>aD ?_
 ·show (!(k == 40))=_;by_cases hk:k=40
  ·subst hk;rfl
  ·rw [show (k == 40)=false from beq_false_of_ne hk,decide_eq_true ⟨h1,h2,hk⟩];rfl
 ·rw [decide_eq_false (by omega)]
 ·rw [decide_eq_false (by omega)]
theorem FB{k:Int}:(R.gx k).sat (·=BZ k):=by
 unfold R.gx BZ;refine aA λ_=>bK (λh1=>aD ?_) λh1=>bK (λh2=>aD ?_) λh2=>aD ?_
 ·rw [decide_eq_true (by omega)]
 ·rw [decide_eq_true (by omega)]
 ·show (k == 53)=_;by_cases hk:k=53
  ·subst hk;rfl
  ·rw [show (k == 53)=false from beq_false_of_ne hk,decide_eq_false (by omega)]
theorem uI{k:Int}:Safe (R.ez k):=⟨by unfold R.ez;repeat' (first|with_reducible (first|refine aD ?_|refine aA λ_=>?_|refine eD ?_|refine ef (λ_=>?_) λ_=>?_|refine lb (λ_=>?_) λ_=>?_|refine bK (λ_=>?_) λ_=>?_|refine jK rfl ?_|refine iC rfl ?_|refine aG (λ_=>?_) λ_=>?_|refine qD ?_|refine q_e ?_|refine q_p λ_ _=>?_|refine q_b λ_=>?_|exact safe|refine fm ?_)|exact trivial)⟩
theorem sub_ok{k:Int}:Safe (R.ll k):=⟨by unfold R.ll;have:=@uI;repeat' (first|with_reducible (first|refine aD ?_|refine aA λ_=>?_|refine eD ?_|refine ef (λ_=>?_) λ_=>?_|refine lb (λ_=>?_) λ_=>?_|refine bK (λ_=>?_) λ_=>?_|refine jK rfl ?_|refine iC rfl ?_|refine aG (λ_=>?_) λ_=>?_|refine qD ?_|refine q_e ?_|refine q_p λ_ _=>?_|refine q_b λ_=>?_|exact safe|refine fm ?_)|exact trivial)⟩
theorem JU{s k:Int}:(R.lN s k).sat λr=>r=true->og s k=true:=by
 unfold R.lN og;have i1:Safe (R.ez k):=uI;have i2:Safe (R.ll k):=sub_ok
 refine aA λ_=>bK (λh=>?_) λh1=>bK (λh=>?_) λh2=>bK (λh=>?_) λh3=>bK (λh=>?_) λh4=>bK (λh=>?_) λh5=>bK (λh=>?_) λh6=>bK (λh=>?_) λh7=>bK (λh=>?_) λh8=>bK (λh=>?_) λh9=>bK (λh=>?_) λh10=>bK (λh=>?_) λh11=>bK (λh=>?_) λh12=>bK (λh=>?_) λh13=>aD λe=>by cases e
 all_goals try (subst h)
 ·exact q_b λ_=>aD λ_=>rfl
 ·exact q_b λ_=>aD λ_=>rfl
 ·exact aa oO (aD id)
 ·exact aa FB (aD id)
 ·exact aD id
 ·exact aD id
 ·exact aD id
 ·exact aD id
 ·exact bK (λh=>aD λ_=>by subst h;rfl) λh=>aa oO (aD λe=>by simp [e])
 ·exact bK (λh=>aD λ_=>by subst h;rfl) λh=>bK (λh=>aD λ_=>by subst h;rfl) λh=>bK (λh=>aD λ_=>by subst h;rfl) λh=>aa oO (aD λe=>by simp [e])
 ·exact bK (λh=>aD λ_=>by subst h;rfl) λh=>aD λe=>by simp [e]
 ·exact bK (λh=>aD λ_=>by subst h;rfl) λh=>aD λe=>by simp [e]
 ·exact bK (λh=>aD λ_=>by subst h;rfl) λh=>aa oO (aD λe=>by simp [e])
theorem ya{n last:Int}(hn:n<=2^40)(h0:0<=n):(R.gh n last).sat (·=zo n last):=by
 unfold R.gh;have e:w6 (n-1)=n-1:=wrap64 (by omega);rw [e];refine aA λ_=>aa (a:=List.replicate (n-1).toNat 6) (gQ (Q:=λl:List Int=>l=List.replicate (n-1).toNat 6) (λx=>x.2) (n-1).toNat (by omega) (λx=>x.1=List.replicate x.2.toNat 6) (by simp) (by simp) rfl λx h0 h1 hI=>?_) (bD (decide_eq_true (by simp;omega)) (aD rfl));obtain ⟨l,i⟩:=x;have hI:l=List.replicate i.toNat 6:=hI;have h0:0<=i:=h0;have h1:i<=((n-1).toNat:Int):=h1;subst hI;refine ef (λhl=>bD (decide_eq_true (by simp;omega)) (aD ⟨rfl,?_,?_⟩)) λhl=>aD ?_
 ·have hl:i < n-1:=hl;show i < ((n-1).toNat:Int);omega
 ·have hl:i < n-1:=hl;show List.replicate i.toNat 6++[6]=List.replicate (w6 (i+1)).toNat 6;rw [wrap64 (by omega),show (i+1).toNat=i.toNat+1 by omega,List.replicate_succ']
 ·have hl:n-1<=i:=hl;show List.replicate i.toNat 6=_;rw [show i.toNat=(n-1).toNat by omega]
theorem oE{β:Type}{Q:β->Prop}{k a b:Int}{x y:Res β}(h1:(k=a\/k=b)->x.sat Q)(h2:¬ (k=a\/k=b)->y.sat Q):((br (k == a) (Res.ok (k == a)) (Res.ok (k == b))).bind λv=>br v x y).sat Q:=by
 refine aB (R:=λv=>v=decide (k=a\/k=b)) (bK (λh=>aD ?_) λh=>aD ?_) λv hv=>?_
 ·subst h;simp
 ·by_cases hb:k=b
  ·subst hb;simp
  ·rw [show (k == b)=false from beq_false_of_ne hb,decide_eq_false (by omega)]
 ·subst hv;exact aG (λh=>h1 (of_decide_eq_true h)) λh=>h2 (of_decide_eq_false h)
theorem br_or3{β:Type}{Q:β->Prop}{k a b c:Int}{x y:Res β}(h1:(k=a\/k=b\/k=c)->x.sat Q)(h2:¬ (k=a\/k=b\/k=c)->y.sat Q):((br (k == a) (Res.ok (k == a)) (br (k == b) (Res.ok (k == b)) (Res.ok (k == c)))).bind λv=>br v x y).sat Q:=by
 refine aB (R:=λv=>v=decide (k=a\/k=b\/k=c)) (bK (λh=>aD ?_) λh=>bK (λh=>aD ?_) λh=>aD ?_) λv hv=>?_
 ·subst h;simp
 ·subst h;simp
 ·by_cases hb:k=c
  ·subst hb;simp
  ·rw [show (k == c)=false from beq_false_of_ne hb,decide_eq_false (by omega)]
 ·subst hv;exact aG (λh=>h1 (of_decide_eq_true h)) λh=>h2 (of_decide_eq_false h)
theorem br_or5{β:Type}{Q:β->Prop}{k a b c d e:Int}{x y:Res β}(h1:(k=a\/k=b\/k=c\/k=d\/k=e)->x.sat Q)(h2:¬ (k=a\/k=b\/k=c\/k=d\/k=e)->y.sat Q):((br (k == a) (Res.ok (k == a)) (br (k == b) (Res.ok (k == b)) (br (k == c) (Res.ok (k == c)) (br (k == d) (Res.ok (k == d)) (Res.ok (k == e)))))).bind λv=>br v x y).sat Q:=by
 refine aB (R:=λv=>v=decide (k=a\/k=b\/k=c\/k=d\/k=e)) (bK (λh=>aD ?_) λh=>bK (λh=>aD ?_) λh=>bK (λh=>aD ?_) λh=>bK (λh=>aD ?_) λh=>aD ?_) λv hv=>?_
 ·subst h;simp
 ·subst h;simp
 ·subst h;simp
 ·subst h;simp
 ·by_cases hb:k=e
  ·subst hb;simp
  ·rw [show (k == e)=false from beq_false_of_ne hb,decide_eq_false (by omega)]
 ·subst hv;exact aG (λh=>h1 (of_decide_eq_true h)) λh=>h2 (of_decide_eq_false h)
theorem G2{k n:Int}(hn:n<=2^40)(h0:0<=n):(R.ja k n).sat (·=shp k n):=by
 unfold R.ja shp;refine aA λ_=>oE (λh=>aD (by rw [if_pos h])) λh=>?_;rw [if_neg h];refine br_or5 (λh=>aD (by rw [if_pos h])) λh=>?_;rw [if_neg h];refine oE (λh=>aD (by rw [if_pos h])) λh=>?_;rw [if_neg h];refine oE (λh=>fZ (gY (by rw [gG];omega) (gY (by rw [gG];simp;omega) (aD ?_)))) λh=>?_
 ·rw [if_pos h,gG];rfl
 rw [if_neg h];refine bK (λh=>fZ (gY (by rw [gG,j7];omega) (gY (by rw [gG,j7];simp;omega) (aD ?_)))) λh=>?_
 ·rw [if_pos h,gG,j7];rfl
 rw [if_neg h]
 iterate 5 (refine bK (λh=>aD (by rw [if_pos h])) λh=>?_;rw [if_neg h])
 refine oE (λh=>aa (ya hn h0) (aA λ_=>aD (by rw [if_pos h]))) λh=>?_;rw [if_neg h];refine bK (λh=>aa (ya hn h0) (aA λ_=>aD (by rw [if_pos h]))) λh=>?_;rw [if_neg h]
 iterate 2 (refine bK (λh=>aD (by rw [if_pos h])) λh=>?_;rw [if_neg h])
 refine oE (λh=>aD (by rw [if_pos h])) λh=>?_;rw [if_neg h];refine br_or3 (λh=>aD (by rw [if_pos h])) λh=>?_;rw [if_neg h]
 iterate 2 (refine bK (λh=>aD (by rw [if_pos h])) λh=>?_;rw [if_neg h])
 refine oE (λh=>aD (by rw [if_pos h])) λh=>?_;rw [if_neg h];exact aD rfl
end Go.Mach

set_option maxRecDepth 100000
namespace Go.Mach
open Res
abbrev kl(x:eT):Nat:=x.2.2.2.2.2.length+x.2.1.length
theorem zM:∀ {l:List Nat}{i a:Nat},l[i]?=some a->a<=l.sum
 |[],_,_,h=>by simp at h
 |x::l,0,a,h=>by
  have:x=a:=by simpa using h
  subst this;simp
 |x::l,i+1,a,h=>by
  have h:l[i]?=some a:=by simpa using h
  have:=zM h;simp only [List.sum_cons];omega
theorem D8:∀ {l:List Nat}{i j a b:Nat},l[i]?=some a->l[j]?=some b->i < j->a+b<=l.sum
 |[],_,_,_,_,h,_,_=>by simp at h
 |x::l,0,j,a,b,h,g,hij=>by
  have:x=a:=by simpa using h
  subst this;obtain ⟨j',rfl⟩:∃ j',j=j'+1:=⟨j-1,by omega⟩
  have g:l[j']?=some b:=by simpa using g
  have:=zM g;simp only [List.sum_cons];omega
 |x::l,i+1,j,a,b,h,g,hij=>by
  obtain ⟨j',rfl⟩:∃ j',j=j'+1:=⟨j-1,by omega⟩
  have h:l[i]?=some a:=by simpa using h
  have g:l[j']?=some b:=by simpa using g
  have:=D8 h g (by omega);simp only [List.sum_cons];omega
theorem Fc{t:List eT}(ht:t.length<=20000):(R.gV t 20000).sat λr=>r<=20000->(t.map kl).sum<=20000:=by
 unfold R.gV;refine aA λ_=>aB (gQ (Q:=λr:Int=>r<=20000->(t.map kl).sum<=20000) (λx=>x.2) t.length (by omega) (λx=>0<=x.1/\(x.1<=20000->(((t.take x.2.toNat).map kl).sum:Int)<=x.1)) (by simp) (by simp) (by simp) λx h0 h1 hI=>?_) λr hr=>aD hr;obtain ⟨n,i⟩:=x;obtain ⟨n0,hs⟩:=hI;have h0:0<=i:=h0;have h1:i<=(t.length:Int):=h1;have n0:0<=n:=n0;have hs:n<=20000->(((t.take i.toNat).map kl).sum:Int)<=n:=hs;refine aB (R:=λb=>(b=true->i < (t.length:Int)/\n<=20000)/\(b=false->i=(t.length:Int)\/20000 < n)) (ef (λhl=>aD ⟨λe=>⟨hl,of_decide_eq_true e⟩,λe=>.inr (Int.not_le.1 (of_decide_eq_false e))⟩) λhl=>aD ⟨(λe=>by cases e),λ_=>.inl (Int.le_antisymm h1 hl)⟩) λb ⟨b1,b2⟩=>?_
 cases b with
 |true =>
  obtain ⟨hl,hn⟩:=b1 rfl;refine jK rfl (bQ h0 (by omega) λx hx _=>aD ⟨rfl,hl,?_⟩);have hx:t[i.toNat]?=some x:=hx
  have e1:w6 (20000+1)=20001:=by decide
  have e2:(w6 (i+1)).toNat=i.toNat+1:=by rw [wrap64 (by omega)];omega
  have e3:((t.take (i.toNat+1)).map kl).sum=((t.take i.toNat).map kl).sum+kl x:=by
   rw [List.take_add_one,hx];simp
  have:=hs hn;show 0<=w6 _/\(w6 _<=20000->(((t.take (w6 (i+1)).toNat).map kl).sum:Int)<=w6 _);rw [e1,e2,e3]
  have c1:0<=kF (x.2.2.1.length:Int) 20001/\kF (x.2.2.1.length:Int) 20001<=20001:=by rw [gG];omega
  have c2:0<=kF (x.2.2.2.2.1.2.length:Int) 20001/\kF (x.2.2.2.2.1.2.length:Int) 20001<=20001:=by rw [gG];omega
  have c3:0<=kF (x.2.2.2.2.2.length:Int) 20001/\kF (x.2.2.2.2.2.length:Int) 20001<=20001:=by rw [gG];omega
  have c4:0<=kF (x.2.1.length:Int) 20001/\kF (x.2.1.length:Int) 20001<=20001:=by rw [gG];omega
  have c5:kF (x.2.2.2.2.2.length:Int) 20001<=20000->kF (x.2.2.2.2.2.length:Int) 20001=(x.2.2.2.2.2.length:Int):=by rw [gG];omega
  have c6:kF (x.2.1.length:Int) 20001<=20000->kF (x.2.1.length:Int) 20001=(x.2.1.length:Int):=by rw [gG];omega
  have ek:((kl x:Nat):Int)=(x.2.2.2.2.2.length:Int)+(x.2.1.length:Int):=Int.natCast_add _ _;generalize kl x=kx at *;generalize kF (x.2.2.1.length:Int) 20001=m1 at *;generalize kF (x.2.2.2.2.1.2.length:Int) 20001=m2 at *;generalize kF (x.2.2.2.2.2.length:Int) 20001=m3 at *;generalize kF (x.2.1.length:Int) 20001=m4 at *;rw [wrap64 (n:=n+1) (by omega),wrap64 (n:=n+1+m1) (by omega),wrap64 (n:=n+1+m1+m2) (by omega),wrap64 (n:=n+1+m1+m2+m3) (by omega),wrap64 (n:=n+1+m1+m2+m3+m4) (by omega)];refine ⟨by omega,λhle=>?_⟩;have:=c5 (by omega);have:=c6 (by omega);omega
 |false =>
  refine iC rfl (aD λhle=>?_);have hle:n<=20000:=hle;rcases b2 rfl with e|e
  ·have:=hs hle;rw [e] at this;rw [show ((t.length:Int)).toNat=t.length by omega,List.take_length] at this;omega
  ·omega
structure rW (t:List eT):Prop where
 one:∀ (i:Nat) (x:eT),t[i]?=some x->x.2.2.2.2.2.length<=20000
 two:∀ (i j:Nat) (x y:eT),t[i]?=some x->t[j]?=some y->i < j->x.2.2.2.2.2.length+y.2.2.2.2.2.length<=20000
 nm:∀ (i:Nat) (x:eT),t[i]?=some x->x.2.1.length<=20000
theorem few_ok{t:List eT}:(R.jT t).sat λr=>r=true->t.length<=20000/\rW t:=by
 unfold R.jT
 refine aA λ_=>lb (λh=>?_) λ_=>aD λe=>by cases e
 have h:(t.length:Int)<=20000:=h;refine aB (Fc (by omega)) λr hr=>aA λ_=>aD λe=>?_;have hs:=hr (of_decide_eq_true e)
 have ho:∀ (i:Nat) (x:eT),t[i]?=some x->x.2.2.2.2.2.length+x.2.1.length<=20000:=λi x hx=>by
  have:(t.map kl)[i]?=some (kl x):=by rw [List.getElem?_map,hx];rfl
  exact Nat.le_trans (zM this) hs
 refine ⟨by omega,λi x hx=>?_,λi j x y hx hy hij=>?_,λi x hx=>?_⟩
 ·have:=ho i x hx;omega
 ·have h1:(t.map kl)[i]?=some (kl x):=by rw [List.getElem?_map,hx];rfl
  have h2:(t.map kl)[j]?=some (kl y):=by rw [List.getElem?_map,hy];rfl
  have:(x.2.2.2.2.2.length+x.2.1.length)+(y.2.2.2.2.2.length+y.2.1.length)<=20000:=Nat.le_trans (D8 h1 h2 hij) hs;omega
 ·have:=ho i x hx;omega
def rT(t:List eT)(m:Nat):Prop:=∀ (n:Nat) (x:eT),n < m->t[n]?=some x->∀ (i:Nat) (k:Int),x.2.2.2.2.2[i]?=some k->(n:Int) < k/\k < (t.length:Int)
theorem IC{t:List eT}(ht:t.length<=4096)(hf:rW t):(R.jq t).sat λr=>r=true->rT t t.length:=by
 unfold R.jq
 refine aA λ_=>aB (gQ (Q:=λr:List Int ⊕ Bool=>match r with|.inl _=>rT t t.length|.inr b=>b=false) (λx=>x.2) t.length (by omega) (λx=>x.1.length<=20000*x.2.toNat/\rT t x.2.toNat) (by simp) (by simp) ⟨by simp,λn x h=>by simp at h⟩ λx h0 h1 hI=>?_) λr hr=>?_
 ·obtain ⟨l,i⟩:=x;obtain ⟨hl,ho⟩:=hI;have h0:0<=i:=h0;have h1:i<=(t.length:Int):=h1;have hl:l.length<=20000*i.toNat:=hl;have ho:rT t i.toNat:=ho;refine ef (λhi=>?_) λhi=>aD ?_
  ·have hi:i < (t.length:Int):=hi;refine bQ h0 (by omega) λx hx _=>?_;have hx:t[i.toNat]?=some x:=hx;have hk:=hf.one _ x hx
   refine aB (R:=λr:List Int ⊕ Bool=>match r with|.inl l'=>l'.length<=l.length|.inr b=>b=false) (ef (λ_=>?_) λ_=>aD (Nat.le_refl _)) λr hr=>?_
   ·refine aB (R:=λb=>b=false->0 < l.length) (bK (λ_=>aD λe=>by cases e) λhne=>?_) λb hb=>?_
    ·have hne:(l.length:Int)≠0:=hne;have e:w6 ((l.length:Int)-1)=(l.length:Int)-1:=wrap64 (by omega);show (aZ (ile 0 (w6 ((l.length:Int)-1)) && _) _).sat _;rw [e];exact fZ (gY (by omega) (oL (by show (l.length:Int)-1 < (l.length:Int);omega) (ba (by omega) (by show _ < l.length;omega) λ_ _ _=>aD λ_=>by omega)))
    ·cases b with
     |true=>exact jK rfl (aD rfl)
     |false =>
      have hp:=hb rfl;have e:w6 ((l.length:Int)-1)=(l.length:Int)-1:=wrap64 (by omega);refine iC rfl ?_;show (aZ (ile 0 (w6 ((l.length:Int)-1)) && _) _).sat _;rw [e];refine fZ (gY (by omega) (gY (by show (l.length:Int)-1<=(l.length:Int);omega) (aD ?_)));show (List.take _ (List.drop 0 l)).length<=l.length;simp
   ·cases r with
    |inr b=>exact iv (aD hr)
    |inl l' =>
     have hr:l'.length<=l.length:=hr;refine iy ?_;have e:w6 ((x.2.2.2.2.2.length:Int)-1)=(x.2.2.2.2.2.length:Int)-1:=wrap64 (by omega);show ((loop _ fuel (l',w6 ((x.2.2.2.2.2.length:Int)-1))).bind _).sat _;rw [e]
     refine aB (kG (Q:=λr:List Int ⊕ Bool=>match r with|.inl l''=>l''.length<=l.length+20000/\rT t (i.toNat+1)|.inr b=>b=false) (λy=>(y.2+1).toNat) (by show ((x.2.2.2.2.2.length:Int)-1+1).toNat<=_;omega) (λy=>-1<=y.2/\y.2 < (x.2.2.2.2.2.length:Int)/\(y.1.length:Int)+y.2+1<=(l'.length:Int)+(x.2.2.2.2.2.length:Int)/\∀ (j:Nat) (k:Int),y.2 < (j:Int)->x.2.2.2.2.2[j]?=some k->i < k/\k < (t.length:Int)) ⟨by show -1<=(x.2.2.2.2.2.length:Int)-1;omega,by show (x.2.2.2.2.2.length:Int)-1 < _;omega,by show (l'.length:Int)+((x.2.2.2.2.2.length:Int)-1)+1<=_;omega,λj k hj hk=>?_⟩ λy hy=>?_) λr hr=>?_
     ·have hj:(x.2.2.2.2.2.length:Int)-1 < (j:Int):=hj;have:=(List.getElem?_eq_some_iff.1 hk).1;exact absurd this (by show ¬ (j < x.2.2.2.2.2.length);omega)
     ·obtain ⟨m,j⟩:=y;obtain ⟨y1,y2,y3,y4⟩:=hy;have y1:-1<=j:=y1;have y2:j < (x.2.2.2.2.2.length:Int):=y2;have y3:(m.length:Int)+j+1<=(l'.length:Int)+(x.2.2.2.2.2.length:Int):=y3;have y4:∀ (j':Nat) (k:Int),j < (j':Int)->x.2.2.2.2.2[j']?=some k->i < k/\k < (t.length:Int):=y4;refine lb (λhj=>?_) λhj=>aD ?_
      ·have hj:0<=j:=hj;refine aB (R:=λb=>b=false->∀ k,x.2.2.2.2.2[j.toNat]?=some k->i < k/\k < (t.length:Int)) (ba hj (by show _ < x.2.2.2.2.2.length;omega) λk hk _=>lb (λ_=>aD λe=>by cases e) λhik=>ba hj (by show _ < x.2.2.2.2.2.length;omega) λk' hk' _=>aD λe k'' hk''=>?_) λb hb=>?_
       ·have e1:some k=some k'':=hk.symm.trans hk'';have e2:some k'=some k'':=hk'.symm.trans hk'';cases e1;cases e2;exact ⟨hik,Int.not_le.1 (of_decide_eq_false e)⟩
       ·cases b with
        |true=>exact jK rfl (aD rfl)
        |false =>
         refine iC rfl (ba hj (by show _ < x.2.2.2.2.2.length;omega) λk hk _=>bD (decide_eq_true ?_) (aD ⟨?_,?_⟩))
         ·show (m.length+1)*8<=2^47;omega
         ·show (w6 (j-1)+1).toNat < (j+1).toNat;rw [wrap64 (n:=j-1) (by omega)];omega
         ·show -1<=w6 (j-1)/\w6 (j-1) < _/\((m++[k]).length:Int)+w6 (j-1)+1<=_/\∀ (j':Nat) (k:Int),w6 (j-1) < (j':Int)->_;rw [wrap64 (n:=j-1) (by omega)];refine ⟨by omega,by omega,by simp;omega,λj' k' hj' hk'=>?_⟩;by_cases hjj:j < (j':Int)
          ·exact y4 j' k' hjj hk'
          ·have:j'=j.toNat:=by omega
           subst this;exact hb rfl k' hk'
      ·have hj:j < 0:=hj;refine ⟨by show m.length<=_;omega,λn x' hn hx' i' k hk=>?_⟩;by_cases hni:n < i.toNat
       ·exact ho n x' hni hx' i' k hk
       ·have:n=i.toNat:=by omega
        subst this;have:some x=some x':=hx.symm.trans hx';cases this;have:=y4 i' k (by omega) hk;omega
     ·cases r with
      |inr b=>exact iv (aD hr)
      |inl l'' =>
       obtain ⟨r1,r2⟩:=hr;have r1:l''.length<=l.length+20000:=r1;refine iy (aD ⟨rfl,hi,?_⟩);show l''.length<=20000*(w6 (i+1)).toNat/\rT t (w6 (i+1)).toNat;rw [wrap64 (n:=i+1) (by omega),show (i+1).toNat=i.toNat+1 by omega];exact ⟨by omega,r2⟩
  ·have hi:(t.length:Int)<=i:=hi
   have:i.toNat=t.length:=by omega
   rw [this] at ho;exact ho
 ·cases r with
  |inl _=>exact iy (aD λ_=>hr)
  |inr b=>exact iv (aD λe=>by rw [hr] at e;cases e)
end Go.Mach

set_option maxRecDepth 100000
namespace Go.Mach
open Res
instance IZ{x}:Safe (R.gr x):=by unfold R.gr;exact dw0
instance Js{x}:Safe (R.jt x):=by unfold R.jt;exact dw0
instance Kx{x}:Safe (R.kp x):=by unfold R.kp;exact dw0
instance LO{a}:Safe (R.jH a):=by
 unfold R.jH;refine ⟨aA λh=>?_⟩;simp only [Sg.i,oks,Sh.ok,Ty.ok,List.map,Par.v,Bool.and_eq_true] at h;have:=oH h
 have hn:(lH a).length=a.length:=by simp [lH]
 refine aB (mL (λi=>i) a.length (by omega) (by omega) (by omega) λi h0 h1=>?_).ok λx _=>?_
 ·repeat' (first|with_reducible (first|refine aD ?_|refine aA λ_=>?_|refine eD ?_|refine ef (λ_=>?_) λ_=>?_|refine lb (λ_=>?_) λ_=>?_|refine bK (λ_=>?_) λ_=>?_|refine jK rfl ?_|refine iC rfl ?_|refine aG (λ_=>?_) λ_=>?_|refine qD ?_|refine zw ?_|refine tt ?_|refine q_e ?_|refine q_p λ_ _=>?_|refine q_b λ_=>?_|refine bQ ?_ ?_ λ_ _ _=>?_|refine ba ?_ ?_ λ_ _ _=>?_|refine fZ ?_|refine gY ?_ ?_|refine oL ?_ ?_|refine tZ ?_ ?_|refine n_d ?_ ?_|refine uS (λ_=>?_) λ_=>?_|exact safe|refine fm ?_)|exact trivial|dsimp only [Nx,Dn]|with_reducible (first|rfl|refine And.intro ?_ ?_|intro _|contradiction)|omega|refine bD (by decide) ?_|(simp (disch:=omega) only [wrap64,gG,j7,List.length_append,List.length_cons,List.length_nil,List.length_take,List.length_drop,List.length_set,List.length_replicate,List.length_reverse]<;>omega))
 ·repeat' (first|with_reducible (first|refine aD ?_|refine aA λ_=>?_|refine eD ?_|refine ef (λ_=>?_) λ_=>?_|refine lb (λ_=>?_) λ_=>?_|refine bK (λ_=>?_) λ_=>?_|refine jK rfl ?_|refine iC rfl ?_|refine aG (λ_=>?_) λ_=>?_|refine qD ?_|refine zw ?_|refine tt ?_|refine q_e ?_|refine q_p λ_ _=>?_|refine q_b λ_=>?_|refine bQ ?_ ?_ λ_ _ _=>?_|refine ba ?_ ?_ λ_ _ _=>?_|refine fZ ?_|refine gY ?_ ?_|refine oL ?_ ?_|refine tZ ?_ ?_|refine n_d ?_ ?_|refine uS (λ_=>?_) λ_=>?_|exact safe|refine fm ?_)|exact trivial|dsimp only [Nx,Dn]|with_reducible (first|rfl|refine And.intro ?_ ?_|intro _|contradiction)|omega|refine bD (by decide) ?_|(simp (disch:=omega) only [wrap64,gG,j7,List.length_append,List.length_cons,List.length_nil,List.length_take,List.length_drop,List.length_set,List.length_replicate,List.length_reverse]<;>omega))
instance Ku{a}:Safe (R.iZ a):=by unfold R.iZ;exact dw0
instance Ij{x}:Safe (R.kK x):=by unfold R.kK;exact dw0
instance IV{x}:Safe (R.eC x):=by unfold R.eC;exact dw0
theorem Gj{x:eT}:(R.eC x).sat λr=>r=true->x.1=49->x.2.1≠[]:=by
 by_cases h:x.1=49/\x.2.1=[]
 ·obtain ⟨k,nm,y⟩:=x;obtain ⟨h1,h2⟩:=h;cases h1;cases h2
  have e:(R.eC (49,([],y))).strip=some false:=by kernel_rfl
  exact bG (pH e rfl) λr hr e=>by rw [<- hr] at e;cases e
 ·exact bG safe λr _ _ h1 h2=>h ⟨h1,h2⟩
theorem Fa{x:eT}:(R.eo x).sat λr=>r=true->x.1=49->x.2.1≠[]:=by
 unfold R.eo;refine aA λ_=>aB (dw0:Safe _).ok λb _=>aG (λ_=>aD λe=>by cases e) λ_=>oE (λh=>?_) λh=>bK (λh=>?_) λh=>bK (λh=>?_) λh=>aB Gj λr hr=>aD hr
 all_goals exact bG (dw0:Safe _).ok λr _ _ e=>by rw [e] at h;exact absurd h (by decide)
theorem Ca{t:List eT}(ho:rT t t.length){n:Int}(h0:0<=n)(h1:n < (t.length:Int))(ht:t.length<=4096)(hf:rW t):(R.iS t n).sat λ_=>True:=by
 unfold R.iS;refine aA λ_=>aB (kG (Q:=λ_=>True) (λm=>(t.length:Int).toNat-m.toNat) (by omega) (λm=>0<=m/\m < (t.length:Int)) ⟨h0,h1⟩ λm ⟨m0,m1⟩=>?_) λr _=>aD trivial;have m0:0<=m:=m0;refine bQ m0 (by omega) λx hx _=>aB (dw0:Safe _).ok λb _=>?_;have hx:t[m.toNat]?=some x:=hx;have hk:=hf.one _ x hx
 cases b with
 |inr b=>exact iv (aD trivial)
 |inl _ =>
  refine iy (bK (λ_=>aD trivial) λhne=>?_);have hne:(x.2.2.2.2.2.length:Int)≠0:=hne;have e:w6 ((x.2.2.2.2.2.length:Int)-1)=(x.2.2.2.2.2.length:Int)-1:=wrap64 (by omega);show (idx _ _ (w6 ((x.2.2.2.2.2.length:Int)-1)) _).sat _;rw [e];refine ba (by omega) (by show _ < x.2.2.2.2.2.length;omega) λk hk _=>aD ?_;have:=ho _ x (by omega) hx _ k hk;exact ⟨by show (t.length:Int).toNat-k.toNat < (t.length:Int).toNat-m.toNat;omega,by omega,this.2⟩
theorem Jg{t:List eT}(ho:rT t t.length)(ht:t.length<=4096)(hf:rW t){n:Int}(h0:0<=n)(h1:n < (t.length:Int)):(R.ia t n).sat λr=>r=true->∀ x,t[n.toNat]?=some x->(shp x.1 x.2.2.2.2.2.length).1.length<=x.2.2.2.2.2.length/\∀ (i:Nat) (k:Int),x.2.2.2.2.2[i]?=some k->∃ y,t[k.toNat]?=some y/\og (srt (shp x.1 x.2.2.2.2.2.length) i) y.1=true:=by
 unfold R.ia;refine aA λ_=>bQ h0 (by omega) λx hx _=>?_;have hx:t[n.toNat]?=some x:=hx;have hk:=hf.one _ x hx;have hord:=ho _ x (by omega) hx;refine aa (G2 (by show (x.2.2.2.2.2.length:Int)<=_;omega) (by show (0:Int)<=(x.2.2.2.2.2.length:Int);omega)) (aA λ_=>aB (R:=λb=>b=false->(shp x.1 x.2.2.2.2.2.length).1.length<=x.2.2.2.2.2.length) (aB (dw0:Safe _).ok λb _=>aG (λ_=>aD λe=>by cases e) λ_=>aD λe=>?_) λb hb=>?_)
 ·have:=Int.not_lt.1 (of_decide_eq_false e);exact Int.ofNat_le.1 this
 cases b with
 |true=>exact jK rfl (aD λe=>by cases e)
 |false =>
  have hl:=hb rfl
  refine iC rfl (aB (gQ (Q:=λr:Unit ⊕ Bool=>match r with|.inl _=>∀ (i:Nat) (k:Int),x.2.2.2.2.2[i]?=some k->∃ y,t[k.toNat]?=some y/\og (srt (shp x.1 x.2.2.2.2.2.length) i) y.1=true|.inr b=>b=false) (λj=>j) x.2.2.2.2.2.length (by omega) (λj=>∀ (i:Nat) (k:Int),(i:Int) < j->x.2.2.2.2.2[i]?=some k->∃ y,t[k.toNat]?=some y/\og (srt (shp x.1 x.2.2.2.2.2.length) i) y.1=true) (by omega) (by omega) (λi k hi=>by omega) λj j0 j1 hI=>?_) λr hr=>?_)
  ·refine ef (λhj=>?_) λhj=>aD λi k hk=>hI i k (by have:=(List.getElem?_eq_some_iff.1 hk).1;have hj:(x.2.2.2.2.2.length:Int)<=j:=hj;have h3:i < x.2.2.2.2.2.length:=this;omega) hk;have hj:j < (x.2.2.2.2.2.length:Int):=hj;refine ba j0 (by show _ < x.2.2.2.2.2.length;omega) λk hk _=>aa (a:=srt (shp x.1 x.2.2.2.2.2.length) j.toNat) (ef (λhs=>fZ (gY j0 (oL hs (ba (by omega) (by omega) λv hv _=>aD ?_)))) λhs=>aD ?_) ?_
   ·show v=_;have hv:(shp x.1 x.2.2.2.2.2.length).1[((0:Int)+(j.toNat:Int)).toNat]?=some v:=hv;rw [show ((0:Int)+(j.toNat:Int)).toNat=j.toNat by omega] at hv;unfold srt;rw [List.getD_eq_getElem?_getD,hv];rfl
   ·show (shp x.1 x.2.2.2.2.2.length).2=_;unfold srt;rw [List.getD_eq_getElem?_getD,List.getElem?_eq_none (by omega)];rfl
   ·have:=hord _ k hk;refine bQ (by omega) (by omega) λy hy _=>aB JU λr hr=>eD (aG (λe=>aD ⟨rfl,hj,λi k' hi hk'=>?_⟩) λ_=>aD rfl);by_cases hij:(i:Int) < j
    ·exact hI i k' hij hk'
    ·have hi:(i:Int) < w6 (j+1):=hi;rw [wrap64 (by omega)] at hi
     have:i=j.toNat:=by omega
     subst this;have:some k=some k':=hk.symm.trans hk';cases this;exact ⟨y,hy,hr e⟩
  ·cases r with
   |inr b=>exact iv (aD λe=>by rw [hr] at e;cases e)
   |inl _ =>
    have hr:∀ (i:Nat) (k:Int),x.2.2.2.2.2[i]?=some k->∃ y,t[k.toNat]?=some y/\og (srt (shp x.1 x.2.2.2.2.2.length) i) y.1=true:=hr
    have hfin:∀ r:Bool,r=true->∀ x',t[n.toNat]?=some x'->(shp x'.1 x'.2.2.2.2.2.length).1.length<=x'.2.2.2.2.2.length/\∀ (i:Nat) (k:Int),x'.2.2.2.2.2[i]?=some k->∃ y,t[k.toNat]?=some y/\og (srt (shp x'.1 x'.2.2.2.2.2.length) i) y.1=true:=λ_ _ x' hx'=>by
     have:some x=some x':=hx.symm.trans hx';cases this;exact ⟨hl,hr⟩
    have hget:∀ i:Nat,i < x.2.2.2.2.2.length->∀ k:Int,x.2.2.2.2.2[i]?=some k->0<=k/\k.toNat < t.length:=λi _ k hk=>by have:=hord i k hk;omega
    refine iy (bK (λh16=>?_) λ_=>aB (R:=λb=>b=true->x.2.2.2.2.2.length=3) (bK (λ_=>aD λe=>Int.ofNat_inj.1 (eq_of_beq e)) λ_=>aD λe=>by cases e) λb hb=>aG (λe=>?_) λ_=>aD (hfin _))
    ·have h16:x.1=16:=h16
     have h3:3<=x.2.2.2.2.2.length:=by rw [h16] at hl;simpa [shp] using hl
     refine ba (by decide) (by show 1 < x.2.2.2.2.2.length;omega) λk hk _=>?_;have g1:=hget 1 (by omega) k hk;refine bQ g1.1 g1.2 λ_ _ _=>aG (λ_=>aD (hfin _)) λ_=>ba (by decide) (by show 2 < x.2.2.2.2.2.length;omega) λk' hk' _=>?_;have g2:=hget 2 (by omega) k' hk';exact bQ g2.1 g2.2 λ_ _ _=>aD (hfin _)
    ·have h3:=hb e;refine ba (by decide) (by show 1 < x.2.2.2.2.2.length;omega) λk hk _=>?_;have g1:=hget 1 (by omega) k hk;exact aB (Ca ho g1.1 (by omega) ht hf) λ_ _=>aD (hfin _)
theorem JX{t:List eT}(ho:rT t t.length)(ht:t.length<=4096)(hf:rW t):(R.ik t).sat λr=>r.length=t.length:=by
 unfold R.ik;refine aA λ_=>fZ (gY (by omega) (fZ (gY (Int.le_refl _) (n_d (by omega) ?_))));refine aB (gQ (Q:=λr:List Int=>r.length=t.length) (λx=>x.1) t.length (by omega) (λx=>x.2.length=t.length) (by simp) (by simp) (by simp) λx h0 h1 hI=>?_) λr hr=>aD hr;obtain ⟨i,l⟩:=x;have h0:0<=i:=h0;have hI:l.length=t.length:=hI;refine ef (λhi=>?_) λ_=>aD hI;have hi:i < (t.length:Int):=hi;refine bQ h0 (by omega) λx hx _=>?_;have hx:t[i.toNat]?=some x:=hx;have hk:=hf.one _ x hx;have hord:=ho _ x (by omega) hx
 have il:i < (l.length:Int):=by omega
 refine fZ (gY h0 (oL il (ba (by omega) (by show _ < l.length;omega) λa _ _=>fZ (gY h0 (oL il (ba (by omega) (by show _ < l.length;omega) λa' _ _=>?_))))));refine aB (gQ (Q:=λr:List Int=>r.length=t.length) (λx=>x.1) x.2.2.2.2.2.length (by omega) (λx=>x.2.length=t.length) (by simp) (by simp) (by show (List.set l _ _).length=_;rw [List.length_set];exact hI) λy y0 y1 yI=>?_) λr hr=>aD ⟨rfl,hi,hr⟩;obtain ⟨j,m⟩:=y;have y0:0<=j:=y0;have yI:m.length=t.length:=yI;refine ef (λhj=>?_) λ_=>aD yI;have hj:j < (x.2.2.2.2.2.length:Int):=hj;refine ba y0 (by show _ < x.2.2.2.2.2.length;omega) λk hk _=>?_;have ka:LT.lt (α:=Int) ((i.toNat:Int)) (k):=(hord _ k hk).1;have kb:LT.lt (α:=Int) (k) ((t.length:Int)):=(hord _ k hk).2
 have k0:LE.le (α:=Int) (0) (k):=by omega
 have im:i < (m.length:Int):=by omega
 have km:LT.lt (α:=Int) (k) ((m.length:Int)):=by omega
 refine fZ (gY h0 (oL im (ba (by omega) (by show _ < m.length;omega) λb _ _=>fZ (gY k0 (oL km (ba (by omega) (by show ((0:Int)+(Int.toNat k:Int)).toNat < m.length;omega) λb' _ _=>aD ⟨rfl,hj,?_⟩))))));show (List.set m _ _).length=_;rw [List.length_set];exact yI
theorem max_ok{l:List Int}(h:0 < l.length)(hl:l.length<=2^40):(R.eB l).sat λ_=>True:=by
 unfold R.eB;refine aA λ_=>aB (R:=λ_=>True) (ef (λh1=>by have h1:(l.length:Int) < 1:=h1;omega) λ_=>aD trivial) λ_ _=>bQ (by decide) (by show 0 < l.length;omega) λa _ _=>aB (gQ (Q:=λ_=>True) (λx=>x.2) l.length (by omega) (λ_=>True) (by simp) (by show (1:Int)<=(l.length:Int);omega) trivial λx h0 h1 _=>ef (λhi=>bQ h0 (by have hi:x.2 < (l.length:Int):=hi;show _ < l.length;omega) λ_ _ _=>aD ⟨rfl,hi,trivial⟩) λ_=>aD trivial) λ_ _=>aD trivial
structure pg (t:List eT):Prop where
 pos:0 < t.length
 len:t.length<=4096
 nod:∀ (n:Nat) (x:eT),t[n]?=some x->rQ t x
 rt:∃ x,t[0]?=some x/\x.1=1
theorem may_ok{t:List eT}(hf:rW t):(R.jF t).sat λr=>r=true->pg t/\rT t t.length:=by
 unfold R.jF;refine aA λ_=>aB (R:=λb=>b=false->0 < t.length/\t.length<=4096/\rT t t.length/\∃ x,t[0]?=some x/\x.1=1) (bK (λ_=>aD λe=>by cases e) λh0=>ef (λ_=>aD λe=>by cases e) λh1=>?_) λb hb=>?_
 ·have h0:(t.length:Int)≠0:=h0;have h1:(t.length:Int)<=4096:=h1
  refine bQ (by decide) (by show 0 < t.length;omega) λx hx _=>eD (bK (λh1=>aB (IC (by omega) hf) λr hr=>aD λe=>⟨by omega,by omega,hr (by cases r<;>simp_all),x,hx,h1⟩) λ_=>aD λe=>by cases e)
 cases b with
 |true=>exact jK rfl (aD λe=>by cases e)
 |false =>
  obtain ⟨h0,h1,ho,hrt⟩:=hb rfl
  refine iC rfl (aB (gQ (Q:=λr:Unit ⊕ Bool=>match r with|.inl _=>∀ (n:Nat) (x:eT),t[n]?=some x->rQ t x|.inr b=>b=false) (λi=>i) t.length (by omega) (λi=>∀ (n:Nat) (x:eT),(n:Int) < i->t[n]?=some x->rQ t x) (by omega) (by omega) (λn x hn=>by omega) λi i0 i1 hI=>?_) λr hr=>?_)
  ·refine ef (λhi=>?_) λhi=>aD λn x hx=>hI n x (by have:=(List.getElem?_eq_some_iff.1 hx).1;have hi:(t.length:Int)<=i:=hi;omega) hx;have hi:i < (t.length:Int):=hi
   have hk:∀ x,t[i.toNat]?=some x->((R.eo x).bind λr=>br (!r) (Res.ok true) ((R.ia t i).bind λr=>Res.ok (!r))).sat λb=>b=false->rQ t x:=λx hx=>by
    refine aB Fa λr hr=>eD (aG (λe=>aB (Jg ho h1 hf i0 hi) λr' hr'=>aD λe'=>?_) λ_=>aD λe=>by cases e)
    obtain ⟨g1,g2⟩:=hr' (by cases r'<;>simp_all) x hx
    refine ⟨λj k hjk=>?_,g1,hr e⟩;obtain ⟨y,y1,y2⟩:=g2 j k hjk;have:=ho _ x (by omega) hx j k hjk;exact ⟨by omega,y,y1,y2,hf.two _ _ x y hx y1 (by omega)⟩
   refine aB (R:=λb=>b=false->∀ x,t[i.toNat]?=some x->rQ t x) (ef (λ_=>bQ i0 (by omega) λx hx _=>bK (λ_=>aD λe=>by cases e) λ_=>bQ i0 (by omega) λx' hx' _=>bG (hk x' hx') λb hb e x'' hx''=>?_) λ_=>bQ i0 (by omega) λx' hx' _=>bG (hk x' hx') λb hb e x'' hx''=>?_) λb hb=>?_
   ·have:some x'=some x'':=hx'.symm.trans hx'';cases this;exact hb e
   ·have:some x'=some x'':=hx'.symm.trans hx'';cases this;exact hb e
   ·cases b with
    |true=>exact jK rfl (aD rfl)
    |false =>
     refine iC rfl (aD ⟨rfl,hi,λn x hn hx=>?_⟩);by_cases hni:(n:Int) < i
     ·exact hI n x hni hx
     ·have hn:(n:Int) < w6 (i+1):=hn;rw [wrap64 (by omega)] at hn
      have:n=i.toNat:=by omega
      subst this;exact hb rfl x hx
  ·cases r with
   |inr b=>exact iv (aD λe=>by rw [hr] at e;cases e)
   |inl _=>exact iy (aB (JX ho h1 hf) λd hd=>aA λ_=>aB (max_ok (by omega) (by omega)) λ_ _=>aA λ_=>aD λ_=>⟨⟨h0,h1,hr,hrt⟩,ho⟩)
end Go.Mach

