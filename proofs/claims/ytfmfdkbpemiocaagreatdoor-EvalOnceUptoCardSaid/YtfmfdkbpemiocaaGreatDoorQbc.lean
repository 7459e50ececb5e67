/-
  Proved here: the law renlaw12.EvalOnce returns true for every input of the stated bulk and leaves its arguments as they were; no further condition.
  By an AI agent; no person has read it.
-/
import Derived.Test.YtfmfdkbpemiocaaGreatDoorQae
import Derived.Test.YtfmfdkbpemiocaaGreatDoorQay
import Derived.Test.YtfmfdkbpemiocaaGreatDoorQba
import Derived.Test.YtfmfdkbpemiocaaGreatDoorQbb
set_option linter.all false
set_option linter.deprecated false
set_option maxRecDepth 100000
namespace Go.Mach
open Res
theorem IF:∀ F:Res Bool,F=R.eZ->F.sat (·=true):=by
 intro F h;have h2:=E9;rw [<- h] at h2;exact pH h2 rfl
theorem JZ{l:List xy}:(R.iT l).sat λr=>r=true->l.length<=100:=by
 unfold R.iT
 refine aA λ_=>aB (gQ (Q:=λ_:Int=>True) (λy=>y.2) 100 (by decide) (λ_=>True) (by decide) (by decide) trivial λy y0 y1 _=>?_) λr _=>lb (λh=>aD λ_=>by have h:(l.length:Int)<=100:=h;omega) λ_=>aD λe=>by cases e
 obtain ⟨a,j⟩:=y;have y0:0<=j:=y0;refine aB (R:=λb=>b=true->j < (l.length:Int)/\j < 100) (ef (λh=>aD λe=>⟨h,of_decide_eq_true e⟩) λ_=>aD λe=>by cases e) λb hb=>aG (λe=>?_) λ_=>aD trivial;obtain ⟨h1,h2⟩:=hb e;exact bQ y0 (by omega) λ_ _ _=>aD ⟨rfl,h2,trivial⟩
theorem HU{lim:ub}:(R.gO lim).sat λr=>r=true->LE.le (α:=Int) (lim.2.2) (3000)/\LE.le (α:=Int) (lim.2.1) (200)/\LE.le (α:=Int) (lim.1) (1000):=by
 unfold R.gO
 exact aA λ_=>lb (λh1=>lb (λh2=>aD λe=>⟨h1,h2,of_decide_eq_true e⟩) λ_=>aD λe=>by cases e) λ_=>aD λe=>by cases e
theorem two_s{m m':Res (uP×A9)}{P:Int->Prop}(h:Sy Eq (λr=>P r.2.1) m m'){a b:uP×A9}(ha:m.strip=some a)(hb:m'.strip=some b):P a.2.1\/b=a:=(h a ha).imp id λ⟨_,h1,h2⟩=>by rw [hb] at h1;cases h1;exact h2.symm
end Go.Mach

set_option maxRecDepth 100000
namespace Go.Mach
open Res
theorem FJ{t:NdT}{lim:ub}{A A':List xy}(h:A <+: A')(hl:A.length<=2^40)(hg:zt lim=true):Sy Eq (λr=>r.2.1=(0:Int)) (R.ey t lim A) (R.ey t lim A') :=
 next_s (W:=⟨lim,lim,A,A',kF (o6 lim.1 0) 4096,kF (o6 lim.1 0) 4096,(·=0),.inl ⟨rfl,h⟩,.inr rfl,.inr rfl,.inr rfl,hl⟩) rfl rfl hg hg
end Go.Mach

set_option maxRecDepth 100000
namespace Go.Mach
open Res
def HL(v:dZ):Prop:=∀ r t,(R.cz v).strip=some r->(R.eH r.1).strip=some t->t.2=false
structure Wo where
 (N:NdT) (L:ub) (A:List xy) (m:Int)
 hm:m<=4096
 la:A.length<=2^40
 lF:LE.le (α:=Int) L.2.2 (2^40)
 dot:∀ (i:Nat) (x:eT),N[i]?=some x->x.1=52->∀ r v,(R.av x.2.1).strip=some r->(R.cP r).strip=some v->HL v
def Wo.U(W:Wo):Type:={ x:Int // 0<=x/\x<=W.A.length }
def Wo.C(_:Wo):Type:={ x:ClT // x.length<=4096 }
def Wo.T(W:Wo):Type:={ x:Int // 0<=x/\(x=0\/LE.le (α:=Int) x W.L.2.2) }
abbrev YoT:=fT.den×iY.den
variable (W:Wo)
abbrev ro(u:W.U)(c:W.C)(d:Int)(b:W.T)(y:YoT):RnT:=(W.N,(W.L,(W.A,(u.1,((W.m,c.1),(d,(b.1,y)))))))
def mo{W:Wo}(u:W.U)(b:W.T):Int:=b.1-u.1
def Fi(b:W.T)(y:YoT):Prop:=Eq (α:=Int) y.2.1 0->LE.le (α:=Int) ((W.A.length:Int)+1) b.1
variable {α β γ δ:Type}
def Pd(l:Int)(hw:α->Int)(a:α×RnT):Prop:=∃ v u c d b y,a=(v,ro W u c d b y)/\(hw v≠5->l<=mo u b)/\(hw v=5->Fi W b y)
def Pc(p:Prop)(l:Int)(hw:α->Int)(a:α×RnT):Prop:=p->Pd W l hw a
def PB(l:Int)(a:Bool×RnT):Prop:=∃ v u c d b y,a=(v,ro W u c d b y)/\(v=true->l<=mo u b)/\(v=false->Fi W b y)
noncomputable def qv(v:dZ):Int:=by
 classical exact if HL v then 0 else 1
noncomputable def qk(u:List Int):Int:=by
 classical exact if (∀ t,(R.eH u).strip=some t->t.2=false) then 0 else 1
def PP(n:Int)(a:(dN.den×(aC.den×Int))×RnT):Prop:=∃ x v u c d b y,a=((x,v),ro W u c d b y)/\(v.2≠5->n<=mo u b)/\(v.2=0->n+2*qv x.2.2<=mo u b)/\(v.2=5->Fi W b y)
theorem Fb(v:dZ):0<=qv v/\qv v<=1:=by unfold qv;split<;>decide
theorem qk_b(v:List Int):0<=qk v/\qk v<=1:=by unfold qk;split<;>decide
theorem qv_0{v:dZ}(h:HL v):qv v=0:=if_pos h
theorem qk_le{v:dZ}{r}(h:(R.cz v).strip=some r):qk r.1<=qv v:=by
 unfold qv;split
 ·rename_i hk;exact Int.le_of_eq (if_pos λt ht=>hk r t h ht)
 ·exact (qk_b _).2
theorem qk_1{u:List Int}{t}(h:(R.eH u).strip=some t)(h2:t.2=true):qk u=1:=if_neg λhk=>by rw [hk t h] at h2;cases h2
class Ct (m:Res α) (P:outParam (α->Prop)):Prop where
 h:Bd P m
def EL(P:β->Prop)(B:α->Prop)(k:β->Res α):Prop:=∀ a,P a->Bd B (k a)
def PQ(p:Prop)(n:Int)(a:(dN.den×(aC.den×Int))×RnT):Prop:=p->PP W n a
variable {W}{B:α->Prop}
theorem ct{p:Prop}{l:Int}{hw:α->Int}{m:Res (α×RnT)}(h:p->Bd (Pd W l hw) m):Ct m (Pc W p l hw):=⟨λa e hp=>h hp a e⟩
theorem p9{m:Res β}{P:β->Prop}{k:β->Res α}(h:Bd P m)(hk:∀ a,P a->Bd B (k a)):Bd B (m.bind k):=λa e=>by
 rw [ky] at e
 cases hm:m.strip with
 |none=>rw [hm] at e;cases e
 |some x=>rw [hm] at e;exact hk x (h x hm) a e
theorem nW{m:Res β}{k:β->Res α}(hk:∀ a,m.strip=some a->Bd B (k a)):Bd B (m.bind k):=p9 (P:=λa=>m.strip=some a) (λ_ e=>e) hk
theorem Ct.call{m:Res β}{P:β->Prop}{k:β->Res α}[h:Ct m P](hk:EL P B k):Bd B (m.bind k):=p9 h.h hk
theorem el{l:Int}{p:Prop}{hw:β->Int}{k:β×RnT->Res α}(hp:p)(h:∀ v u c d b y,(hw v≠5->l<=mo u b)->(hw v=5->Fi W b y)->Bd B (k (v,ro W u c d b y))):EL (Pc W p l hw) B k:=λa ha=>by
 obtain ⟨v,u,c,d,b,y,rfl,h1,h2⟩:=ha hp;exact h v u c d b y h1 h2
theorem eb{l:Int}{k:Bool×RnT->Res α}(h:∀ u c d b y,l<=mo u b->Bd B (k (true,ro W u c d b y)))(h2:∀ u c d b y,Fi W b y->Bd B (k (false,ro W u c d b y))):EL (PB W l) B k:=λa ha=>by
 obtain ⟨v,u,c,d,b,y,rfl,h3,h4⟩:=ha;cases v
 ·exact h2 u c d b y (h4 rfl)
 ·exact h u c d b y (h3 rfl)
theorem ep{n:Int}{p:Prop}{k:(dN.den×(aC.den×Int))×RnT->Res α}(hp:p)(h:∀ x v u c d b y,(v.2≠5->n<=mo u b)->(v.2=0->n+2*qv x.2.2<=mo u b)->(v.2=5->Fi W b y)->(0<=qv x.2.2/\qv x.2.2<=1)->Bd B (k ((x,v),ro W u c d b y))):EL (PQ W p n) B k:=λa ha=>by
 obtain ⟨x,v,u,c,d,b,y,rfl,h1,h2,h3⟩:=ha hp;exact h x v u c d b y h1 h2 h3 (Fb _)
theorem vV{m n:Res α}(h:Bd B m):Bd B (br true m n):=h
theorem G7{m n:Res α}(h:Bd B n):Bd B (br false m n):=h
theorem ph{c:Bool}{m n:Res α}(h:Bd B (br c n m)):Bd B (br (!c) m n):=by cases c<;>exact h
theorem oh{c:Bool}{m n:Res α}(h1:c=true->Bd B m)(h2:c=false->Bd B n):Bd B (br c m n):=by
 cases c
 ·exact h2 rfl
 ·exact h1 rfl
theorem tW{x y:Int}{m n:Res α}(h1:x=y->Bd B m)(h2:x≠y->Bd B n):Bd B (br (x == y) m n):=oh (λh=>h1 (eq_of_beq h)) λh=>h2 (ne_of_beq_false h)
theorem DP{m n:Res β}{k:β->Res α}(h:Bd B (m.bind k)):Bd B ((br true m n).bind k):=h
theorem zW{m n:Res β}{k:β->Res α}(h:Bd B (n.bind k)):Bd B ((br false m n).bind k):=h
theorem tg{c:Bool}{m n:Res β}{k:β->Res α}(h:Bd B ((br c n m).bind k)):Bd B ((br (!c) m n).bind k):=by cases c<;>exact h
theorem tM{c:Bool}{m n:Res β}{k:β->Res α}(h1:c=true->Bd B (m.bind k))(h2:c=false->Bd B (n.bind k)):Bd B ((br c m n).bind k):=by
 cases c
 ·exact h2 rfl
 ·exact h1 rfl
theorem tO{x y:Int}{m n:Res β}{k:β->Res α}(h1:x=y->Bd B (m.bind k))(h2:x≠y->Bd B (n.bind k)):Bd B ((br (x == y) m n).bind k):=tM (λh=>h1 (eq_of_beq h)) λh=>h2 (ne_of_beq_false h)
theorem C0{t:Ty}{l:List t.den}{i:Int}{k:t.den->Res α}(h:∀ x,l[i.toNat]?=some x->Bd B (k x)):Bd B (idx t l i k):=by
 unfold idx;cases decide (0<=i)
 ·exact λ_ e=>by cases e
 ·show Bd B (match l[i.toNat]? with|some x=>_|none=>_)
  cases hx:l[i.toNat]? with
  |none=>exact λ_ e=>by cases e
  |some x=>exact h x hx
theorem AF{t:Sh}{l:List t.den}{i:Int}{k:t.den->Res α}(h:∀ x,Bd B (k x)):Bd B (cO t l i k):=by
 unfold cO;cases decide (0<=i)
 ·exact λ_ e=>by cases e
 ·show Bd B (match l[i.toNat]? with|some x=>_|none=>_)
  cases l[i.toNat]? with
  |none=>exact λ_ e=>by cases e
  |some x=>exact h x
theorem Df{x:β ⊕ γ}{f:β->Res α}{g:γ->Res α}(h1:∀ a,Bd B (f a))(h2:∀ a,Bd B (g a)):Bd B (sum x f g):=by
 cases x
 ·exact h1 _
 ·exact h2 _
def JQ(I:γ->Prop)(B:α->Prop)(k:β->Res α):Res.Step γ β->Prop
 |.next a=>I a
 |.done b=>Bd B (k b)
theorem vN{I:γ->Prop}{k:β->Res α}{a:γ}(h:I a):Bd (JQ I B k) (ok (.next a)):=jM h
theorem rJ{I:γ->Prop}{k:β->Res α}{b:β}(h:Bd B (k b)):Bd (JQ I B k) (ok (.done b)):=jM h
theorem rD{I:γ->Prop}{f:γ->Res (Res.Step γ β)}{k:β->Res α}(h:∀ a,I a->Bd (JQ I B k) (f a)){n:Nat}{a:γ}(ha:I a):Bd B ((loop f n a).bind k):=by
 induction n generalizing a with
 |zero=>exact λ_ e=>by cases e
 |succ n ih =>
  refine nx (p9 (h a ha) λx hx=>?_)
  cases x with
  |next x=>exact ih hx
  |done x=>exact hx
def I1(W:Wo)(l:Int)(a:RnT):Prop:=∃ u c d b y,a=ro W u c d b y/\l<=mo u b
def I2(W:Wo)(l:Int)(a:γ×RnT):Prop:=∃ v u c d b y,a=(v,ro W u c d b y)/\l<=mo u b
def I3(W:Wo)(l:Int)(a:RnT×γ):Prop:=∃ v u c d b y,a=(ro W u c d b y,v)/\l<=mo u b
def I4(W:Wo)(l:Int)(a:γ×(δ×RnT)):Prop:=∃ w v u c d b y,a=(w,(v,ro W u c d b y))/\l<=mo u b
variable {u:W.U}{c:W.C}{d:Int}{b:W.T}{y:YoT}{l:Int}
theorem i1(h:l<=mo u b):I1 W l (ro W u c d b y):=⟨_,_,_,_,_,rfl,h⟩
theorem i2{v:γ}(h:l<=mo u b):I2 W l (v,ro W u c d b y):=⟨_,_,_,_,_,_,rfl,h⟩
theorem i3{v:γ}(h:l<=mo u b):I3 W l (ro W u c d b y,v):=⟨_,_,_,_,_,_,rfl,h⟩
theorem i4{w:γ}{v:δ}(h:l<=mo u b):I4 W l (w,(v,ro W u c d b y)):=⟨_,_,_,_,_,_,_,rfl,h⟩
def PH(W:Wo)(a:γ×(Int×ClT)):Prop:=∃ v,∃ c:W.C,a=(v,(W.m,c.1))
theorem ph_0{v:γ}:PH W (v,(W.m,c.1)):=⟨v,c,rfl⟩
theorem ph_s{v:γ}{i:Nat}{x:gu.den}:PH W (v,(W.m,List.set c.1 i x)):=⟨v,⟨List.set c.1 i x,by rw [List.length_set];exact c.2⟩,rfl⟩
theorem eh{k:γ×(Int×ClT)->Res α}(h:∀ v (c:W.C),Bd B (k (v,(W.m,c.1)))):EL (PH W) B k:=λa ha=>by
 obtain ⟨v,c,rfl⟩:=ha;exact h v c
theorem lpH{f:γ×(Int×ClT)->Res (Res.Step (γ×(Int×ClT)) β)}{v:γ}{n:Nat}{k:β->Res α}(h:∀ v1 (c1:W.C),Bd (JQ (PH W) B k) (f (v1,(W.m,c1.1)))):Bd B ((loop f n (v,(W.m,c.1))).bind k):=rD (I:=PH W) (λa ha=>by
 obtain ⟨v,c,rfl⟩:=ha
 exact h v c) ph_0
theorem lp1{f:RnT->Res (Res.Step RnT β)}{n:Nat}{k:β->Res α}(h:∀ u1 c1 d1 b1 y1,mo u b<=mo u1 b1->Bd (JQ (I1 W (mo u b)) B k) (f (ro W u1 c1 d1 b1 y1))):Bd B ((loop f n (ro W u c d b y)).bind k):=rD (I:=I1 W (mo u b)) (λa ha=>by
 obtain ⟨_,_,_,_,_,rfl,h1⟩:=ha
 exact h _ _ _ _ _ h1) (i1 (Int.le_refl _))
theorem lp2{f:γ×RnT->Res (Res.Step (γ×RnT) β)}{v:γ}{n:Nat}{k:β->Res α}(h:∀ v1 u1 c1 d1 b1 y1,mo u b<=mo u1 b1->Bd (JQ (I2 W (mo u b)) B k) (f (v1,ro W u1 c1 d1 b1 y1))):Bd B ((loop f n (v,ro W u c d b y)).bind k):=rD (I:=I2 W (mo u b)) (λa ha=>by
 obtain ⟨_,_,_,_,_,_,rfl,h1⟩:=ha
 exact h _ _ _ _ _ _ h1) (i2 (Int.le_refl _))
theorem lp3{f:RnT×γ->Res (Res.Step (RnT×γ) β)}{v:γ}{n:Nat}{k:β->Res α}(h:∀ v1 u1 c1 d1 b1 y1,mo u b<=mo u1 b1->Bd (JQ (I3 W (mo u b)) B k) (f (ro W u1 c1 d1 b1 y1,v1))):Bd B ((loop f n (ro W u c d b y,v)).bind k):=rD (I:=I3 W (mo u b)) (λa ha=>by
 obtain ⟨_,_,_,_,_,_,rfl,h1⟩:=ha
 exact h _ _ _ _ _ _ h1) (i3 (Int.le_refl _))
theorem lp4{f:γ×(δ×RnT)->Res (Res.Step (γ×(δ×RnT)) β)}{w:γ}{v:δ}{n:Nat}{k:β->Res α}(h:∀ w1 v1 u1 c1 d1 b1 y1,mo u b<=mo u1 b1->Bd (JQ (I4 W (mo u b)) B k) (f (w1,(v1,ro W u1 c1 d1 b1 y1)))):Bd B ((loop f n (w,(v,ro W u c d b y))).bind k):=rD (I:=I4 W (mo u b)) (λa ha=>by
 obtain ⟨_,_,_,_,_,_,_,rfl,h1⟩:=ha
 exact h _ _ _ _ _ _ _ h1) (i4 (Int.le_refl _))
theorem pd_i{hw:γ->Int}{v:γ}(h1:hw v≠5->l<=mo u b)(h2:hw v=5->Fi W b y):Pd W l hw (v,ro W u c d b y):=⟨_,_,_,_,_,_,rfl,h1,h2⟩
theorem pp_i{x:dN.den}{v:aC.den×Int}(h1:v.2≠5->l<=mo u b)(h2:v.2=0->l+2*qv x.2.2<=mo u b)(h3:v.2=5->Fi W b y):PP W l ((x,v),ro W u c d b y):=⟨_,_,_,_,_,_,_,rfl,h1,h2,h3⟩
theorem fi_k{r:fT.den}{i:Int}{t:List Int}(h:i≠0):Fi W b (r,(i,t)):=λe=>absurd e h
theorem Du{x:Int}(h:x=5->Fi W b y)(e:x=5):Fi W b y:=h e
theorem EM{o:aR.den}{ls:List (List UInt8)}{k:Bool×aR.den->Res α}(h1:∀ x,Ne (α:=Int) o.1 5->Bd B (k (true,x)))(h2:∀ x:aR.den,(Eq (α:=Int) x.1 5 ↔ Eq (α:=Int) o.1 5)->Bd B (k (false,x))):Bd B ((R.iL o ls).bind k):=by
 unfold R.iL;refine nw (tO (λe=>kR (h1 _ (by rw [e];decide))) λe=>?_);refine nx (tO (λe1=>kR (tM (λ_=>kR (h2 _ ⟨λh=>absurd h (by decide),λh=>by rw [e1] at h;exact absurd h (by decide)⟩)) λ_=>?_)) λe1=>kR (zW ?_))
 all_goals refine nx (tO (λe2=>?_) λe2=>kR (zW (kR (h2 _ Iff.rfl))))
 all_goals exact tM (λ_=>kR (DP (kR (h1 _ (by rw [e2];decide))))) λ_=>nx (gX λx=>kR (tM (λ_=>kR (h1 _ (by rw [e2];decide))) λ_=>kR (h2 _ Iff.rfl)))
theorem ye{i how:Int}{v:aC.den}{k:aR.den->Res α}(h1:how≠0->Bd B (k (how,([],v))))(h2:how=0->Bd B (k (i,([],v)))):Bd B ((R.eV i v how).bind k):=by
 unfold R.eV;exact nw (tg (tO (λe=>kR (h2 e)) λe=>kR (h1 e)))
theorem b_bool{m:Res Bool}{k:Bool->Res α}(h:∀ x,Bd B (k x)):Bd B (m.bind k):=gX h
theorem b_int{m:Res Int}{k:Int->Res α}(h:∀ x,Bd B (k x)):Bd B (m.bind k):=gX h
theorem cd{p:Prop}(h:p:=by repeat' (first|with_reducible (first|refine bR ?_|refine vV ?_|refine G7 ?_|refine ph ?_|refine tW (λ_=>?_) λ_=>?_|refine oh (λ_=>?_) λ_=>?_|refine p7 ?_|refine xW λ_=>?_|refine AF λ_=>?_|refine wK ?_|refine tk ?_|refine nw ?_|refine nx ?_|refine kR ?_|refine DP ?_|refine zW ?_|refine tg ?_|refine tO (λ_=>?_) λ_=>?_|refine tM (λ_=>?_) λ_=>?_|refine AP ?_|refine DD λ_=>?_|refine rB ?_|refine EM (λ_ _=>?_) λ_ _=>?_|refine ye (λ_=>?_) λ_=>?_|refine Ct.call ?_|(refine lp1 λ_ _ _ _ _ _=>?_;try dsimp only [ro])|(refine lp2 λ_ _ _ _ _ _ _=>?_;try dsimp only [ro])|(refine lp3 λ_ _ _ _ _ _ _=>?_;try dsimp only [ro])|(refine lp4 λ_ _ _ _ _ _ _ _=>?_;try dsimp only [ro])|(refine lpH λ_ _=>?_;try dsimp only [ro])|refine gX λ_=>?_|refine Df (λ_=>?_) λ_=>?_|refine vN ?_|refine rJ ?_|refine jM ?_|refine pd_i ?_ ?_|refine pp_i ?_ ?_ ?_|exact ph_0|exact ph_s|(refine eh λ_ _=>?_;try dsimp only [ro])|refine i1 ?_|refine i2 ?_|refine i3 ?_|refine i4 ?_|(refine el ?_ λ_ _ _ _ _ _ _ _=>?_<;>try dsimp only [ro])|(refine eb (λ_ _ _ _ _ _=>?_) λ_ _ _ _ _ _=>?_<;>try dsimp only [ro])|(refine ep ?_ λ_ _ _ _ _ _ _ _ _ _ _=>?_<;>try dsimp only [ro]))|trivial|omega|assumption|exact λ_=>by omega|exact λ_=>by assumption|exact λh=>absurd h (by decide)|exact λ_=>fi_k (by decide)|exact λh=>Du (by assumption) (by omega)|dsimp only [ro,stp]|dsimp only|(dsimp only at *;first|omega|assumption|exact λ_=>by omega|exact λ_=>by assumption|exact λh=>Du (by assumption) (by omega)|(intro _;exfalso;omega)))):p:=h
theorem cdb{p:Prop}(h:p:=by repeat' (first|with_reducible (first|refine bR ?_|refine b_bool λ_=>?_|refine b_int λ_=>?_|refine vV ?_|refine G7 ?_|refine ph ?_|refine tW (λ_=>?_) λ_=>?_|refine oh (λ_=>?_) λ_=>?_|refine p7 ?_|refine xW λ_=>?_|refine AF λ_=>?_|refine wK ?_|refine tk ?_|refine nw ?_|refine nx ?_|refine kR ?_|refine DP ?_|refine zW ?_|refine tg ?_|refine tO (λ_=>?_) λ_=>?_|refine tM (λ_=>?_) λ_=>?_|refine AP ?_|refine DD λ_=>?_|refine rB ?_|refine EM (λ_ _=>?_) λ_ _=>?_|refine ye (λ_=>?_) λ_=>?_|refine Ct.call ?_|(refine lp1 λ_ _ _ _ _ _=>?_;try dsimp only [ro])|(refine lp2 λ_ _ _ _ _ _ _=>?_;try dsimp only [ro])|(refine lp3 λ_ _ _ _ _ _ _=>?_;try dsimp only [ro])|(refine lp4 λ_ _ _ _ _ _ _ _=>?_;try dsimp only [ro])|(refine lpH λ_ _=>?_;try dsimp only [ro])|refine gX λ_=>?_|refine Df (λ_=>?_) λ_=>?_|refine vN ?_|refine rJ ?_|refine jM ?_|refine pd_i ?_ ?_|refine pp_i ?_ ?_ ?_|exact ph_0|exact ph_s|(refine eh λ_ _=>?_;try dsimp only [ro])|refine i1 ?_|refine i2 ?_|refine i3 ?_|refine i4 ?_|(refine el ?_ λ_ _ _ _ _ _ _ _=>?_<;>try dsimp only [ro])|(refine eb (λ_ _ _ _ _ _=>?_) λ_ _ _ _ _ _=>?_<;>try dsimp only [ro])|(refine ep ?_ λ_ _ _ _ _ _ _ _ _ _ _=>?_<;>try dsimp only [ro]))|trivial|omega|assumption|exact λ_=>by omega|exact λ_=>by assumption|exact λh=>absurd h (by decide)|exact λ_=>fi_k (by decide)|exact λh=>Du (by assumption) (by omega)|dsimp only [ro,stp]|dsimp only|(dsimp only at *;first|omega|assumption|exact λ_=>by omega|exact λ_=>by assumption|exact λh=>Du (by assumption) (by omega)|(intro _;exfalso;omega)))):p:=h
end Go.Mach

set_option maxRecDepth 100000
set_option maxHeartbeats 2000000
namespace Go.Mach
open Res
variable {W:Wo}{u:W.U}{c:W.C}{i:Int}{t:W.T}{y:YoT}
instance LU{a b d e f}:Ct (R.bE (W.m,c.1) a b d e f) (PH W):=⟨by unfold R.bE;exact cd⟩
instance c_hPut{a b d}:Ct (R.bc (W.m,c.1) a b d) (PH W):=⟨by unfold R.bc;exact cd⟩
instance c_hGive{a b d e}:Ct (R.cN (W.m,c.1) a b d e) (PH W):=⟨by unfold R.cN;exact cd⟩
instance c_hWrite{a b d}:Ct (R.dK (W.m,c.1) a b d) (PH W):=⟨by unfold R.dK;exact cd⟩
instance c_hDrop{a}:Ct (R.di (W.m,c.1) a) (PH W):=⟨by unfold R.di;exact cd⟩
instance c_hMake{a}:Ct (R.dn (W.m,c.1) a) (PH W):=⟨by
 unfold R.dn;refine bR (oh (λ_=>jM ph_0) λh=>gX λr1=>bR (p7 (jM ?_)))
 have h:(c.1.length:Int) < W.m:=by rw [ki] at h;exact h
 have hm:=W.hm
 exact ⟨_,⟨c.1++[r1],by rw [List.length_append];simp;omega⟩,rfl⟩⟩
theorem GB{i:Int}{r}(h:i < 4096)(e:(R.fl i).strip=some r):r=[]:=by
 refine (show Bd (λr=>r=[]) (R.fl i) from ?_) r e
 unfold R.fl;refine bR (gX λr1=>bR (tM (λ_=>kR (vV (jM rfl))) λe=>?_));rw [kJ] at e;omega
theorem CK{r}(e:(R.gB []).strip=some r):r=false:=by
 refine (show Bd (λr=>r=false) (R.gB []) from ?_) r e
 unfold R.gB;exact bR (ph (b_t rfl (jM rfl)))
noncomputable def qc(f:dZ):Int:=if LT.lt (α:=Int) f.2.2.2.2 4096 then 0 else 1
theorem qc_b(f:dZ):0<=qc f/\qc f<=1:=by unfold qc;split<;>decide
theorem qc_1{f:dZ}{r}(h:(R.fl f.2.2.2.2).strip=some r)(h2:(R.gB r).strip=some true):qc f=1:=by
 unfold qc;split
 ·rename_i h3;rw [GB h3 h] at h2;cases CK h2
 ·rfl
theorem KD{h:qW}{i r:Int}(e:(R.bC h i).strip=some r)(h3:r≠0):i < (h.2.length:Int):=by
 refine (show Bd (λr:Int=>r≠0->i < (h.2.length:Int)) (R.bC h i) from ?_) r e h3
 unfold R.bC R.bB;exact bR (nw (tM (λ_=>kR (ph (oh (λe=>AF λ_=>jM λ_=>by rw [fh] at e;exact e) λ_=>jM λh=>absurd rfl h))) λ_=>kR (vV (jM λh=>absurd rfl h))))
instance c_cell{a}:Ct (R.aX (ro W u c i t y) a) (Pc W True (mo u t) (λv=>v.2)):=ct λhp=>by unfold R.aX;exact cd
instance c_begins:Ct (R.bu (ro W u c i t y)) (PB W (mo u t+1)):=⟨by
 unfold R.bu;refine bR (oh (λ_=>rB (bR (jM ?_))) λ_=>oh (λ_=>rB (bR (jM ?_))) λh=>jM ?_)
 ·exact ⟨_,_,_,_,_,_,rfl,λh=>(by cases h),λ_=>fi_k (by decide)⟩
 ·exact ⟨_,_,_,_,_,_,rfl,λh=>(by cases h),λ_=>fi_k (by decide)⟩
 ·have h:t.1 < W.L.2.2:=by rw [ki] at h;exact h
  have h0:=t.2.1;have hF:=W.lF;have hw:w6 (t.1+1)=t.1+1:=wrap64 (by omega);refine ⟨true,u,c,_,⟨w6 (t.1+1),by rw [hw];exact ⟨by omega,.inr (by show LE.le (α:=Int) _ _;omega)⟩⟩,y,rfl,λ_=>?_,λh=>by cases h⟩;show t.1-u.1+1<=w6 (t.1+1)-u.1
  omega⟩
instance c_ask{a}:Ct (R.bT (ro W u c i t y) a) (Pc W (1<=mo u t) (mo u t-1) (λv=>v.2)):=ct λhp=>by
 have hp:1<=t.1-u.1:=hp;have h0:=u.2.1;have h1:=u.2.2;have hl:=W.la;unfold R.bT;refine bR (tW (λe=>rB (bR (jM ?_))) λe=>xW λx=>gX λr=>bR (jM ?_))
 ·have e:u.1=(W.A.length:Int):=e;refine ⟨_,u,c,i,t,_,rfl,λh=>absurd rfl h,λ_ _=>?_⟩;show LE.le (α:=Int) _ _;omega
 ·have e:u.1≠(W.A.length:Int):=e;have hw:w6 (u.1+1)=u.1+1:=wrap64 (by omega)
  refine ⟨_,⟨w6 (u.1+1),by rw [hw];omega⟩,c,i,t,y,rfl,λ_=>?_,λh=>absurd (show (0:Int)=5 from h) (by decide)⟩
  show t.1-u.1-1<=t.1-w6 (u.1+1);omega
theorem Jz:(R.cz zV).strip=some ([117,110,100,101,102,105,110,101,100],0):=by kernel_rfl
theorem JI:(R.eH [117,110,100,101,102,105,110,101,100]).strip=some (0,false):=by kernel_rfl
theorem qv_z:qv zV=0:=qv_0 λr t h1 h2=>by
 rw [Jz] at h1;cases h1;rw [JI] at h2;cases h2;rfl
end Go.Mach

set_option maxRecDepth 100000
set_option maxHeartbeats 2000000
namespace Go.Mach
open Res
variable {W:Wo}{u:W.U}{c:W.C}{i:Int}{t:W.T}{y:YoT}
instance c_scope{a}:Ct (R.bm (ro W u c i t y) a) (Pc W (True) (mo u t) (λv=>v.2)):=ct λhp=>by unfold R.bm;exact cdb
instance K2{a b}:Ct (R.cC (ro W u c i t y) a b) (Pc W (True) (mo u t) (λv=>v.2)):=ct λhp=>by unfold R.cC;exact cd
instance c_declare{a b}:Ct (R.cA (ro W u c i t y) a b) (Pc W (True) (mo u t) (λv=>v.2)):=ct λhp=>by unfold R.cA;exact cdb
instance c_turn{a}:Ct (R.cw (ro W u c i t y) a) (Pc W (True) (mo u t) (λv=>v.2)):=ct λhp=>by unfold R.cw;exact cdb
instance c_raise{a}:Ct (R.cI (ro W u c i t y) a) (Pc W (True) (mo u t) (λv=>v.2)):=ct λhp=>by unfold R.cI;exact cdb
instance c_signal{a}:Ct (R.aF (ro W u c i t y) a) (Pc W (True) (mo u t) (λv=>v.2)):=ct λhp=>by unfold R.aF;exact cdb
instance c_exit:Ct (R.aL (ro W u c i t y)) (Pc W (True) (mo u t) (λv=>v.2)):=ct λhp=>by unfold R.aL;exact cdb
instance c_known{a b d}:Ct (R.dB (ro W u c i t y) a b d) (Pc W (True) (mo u t) (λv=>v.2)):=ct λhp=>by unfold R.dB;exact cdb
instance c_read{a b}:Ct (R.da (ro W u c i t y) a b) (Pc W (True) (mo u t) (λv=>v.2)):=ct λhp=>by unfold R.da;exact cdb
instance c_result{a b}:Ct (R.bj (ro W u c i t y) a b) (Pc W (True) (mo u t) (λv=>v.2)):=ct λhp=>by unfold R.bj;exact cdb
instance c_unit{a b}:Ct (R.eN (ro W u c i t y) a b) (Pc W (True) (mo u t) (λv=>v.2)):=ct λhp=>by unfold R.eN;exact cdb
instance c_item{a b d e}:Ct (R.eL (ro W u c i t y) a b d e) (Pc W (True) (mo u t) (λv=>v.2)):=ct λhp=>by unfold R.eL;exact cdb
theorem Hd(c:W.C)(j:Nat)(x:gu.den):(List.set c.1 j x).length<=4096:=by rw [List.length_set];exact c.2
instance c_load{a b d e f}:Ct (R.bh (ro W u c i t y) a b d e f) (Pc W (1<=mo u t) (mo u t-1) (λv=>v.2)):=ct λhp=>by
 unfold R.bh
 refine bR (gX λr1=>ph (oh (λ_=>AF λe5=>p7 (tW (λ_=>gX λr6=>bR (p7 (gX λr7=>bR (jM ⟨_,u,⟨_,Hd c _ e5⟩,i,t,y,rfl,λ_=>?_,λh=>absurd (show (0:Int)=5 from h) (by decide)⟩)))) λ_=>Ct.call (h:=c_ask (u:=u) (c:=⟨List.set c.1 _ e5,Hd c _ e5⟩) (i:=i) (t:=t) (y:=y)) (el hp λv u1 c1 d1 b1 y1 h1 h2=>?_))) λ_=>cdb))
 ·show mo u t-1<=mo u t;omega
 ·dsimp only [ro];exact cdb
instance c_element{a b}:Ct (R.cc (ro W u c i t y) a b) (Pc W (1<=mo u t) (mo u t-1) (λv=>v.2)):=ct λhp=>by unfold R.cc;exact cdb
instance c_view{a b d}:Ct (R.dd (ro W u c i t y) a b d) (Pc W (True) (mo u t) (λv=>v.2)):=ct λhp=>by unfold R.dd;exact cdb
instance c_member{a b}:Ct (R.dJ (ro W u c i t y) a b) (Pc W (qk b<=mo u t) (mo u t-qk b) (λv=>v.2)):=ct λhp=>by
 have h0:=qk_b b;unfold R.dJ;refine bR (gX λr1=>bR (gX λs2=>gX λr3=>bR (ph (oh (λ_=>nW λr9 h9=>bR ?_) λ_=>cdb))));obtain ⟨n,p⟩:=r9;cases p
 ·exact cdb
 ·have h1:=qk_1 h9 rfl;exact cdb
instance c_get{a}:Ct (R.de (ro W u c i t y) a) (Pc W (qv a.2.2<=mo u t) (mo u t-qv a.2.2) (λv=>v.2)):=ct λhp=>by
 have h0:=Fb a.2.2;unfold R.de;refine bR (gX λr1=>oh (λ_=>cdb) λ_=>nW λr3 h3=>bR ?_);have h4:=qk_le h3;have h5:=qk_b r3.1;exact cdb
instance c_take{a b}:Ct (R.db (ro W u c i t y) a b) (Pc W (qv a.2.2<=mo u t) (mo u t-qv a.2.2) (λv=>v.2)):=ct λhp=>by have h0:=Fb a.2.2;unfold R.db;exact cdb
instance c_write{a b d}:Ct (R.dk (ro W u c i t y) a b d) (Pc W (True) (mo u t) (λv=>v.2)):=ct λhp=>by unfold R.dk;exact cdb
instance c_store{a b d e f g}:Ct (R.bZ (ro W u c i t y) a b d e f g) (Pc W (1<=mo u t) (mo u t-1) (λv=>v)):=ct λhp=>by unfold R.bZ;exact cdb
instance c_put{a b d}:Ct (R.eg (ro W u c i t y) a b d) (Pc W (1<=mo u t) (mo u t-1) (λv=>v.2)):=ct λhp=>by unfold R.eg;exact cdb
instance c_set{a b}:Ct (R.ee (ro W u c i t y) a b) (Pc W (qv a.2.2<=mo u t) (mo u t-qv a.2.2) (λv=>v.2)):=ct λhp=>by
 have h0:=Fb a.2.2;unfold R.ee;refine bR (gX λr1=>oh (λ_=>cdb) λ_=>nW λr3 h3=>bR (ph (tW (λ_=>ph (tW (λ_=>gX λr6=>bR (nW λr7 h7=>bR ?_)) λ_=>cdb)) λ_=>cdb)));have h4:=qk_le h3;have h5:=qk_b r3.1;obtain ⟨n,p⟩:=r7;cases p
 ·exact cdb
 ·have h1:=qk_1 h7 rfl;exact cdb
instance c_lay{a b d}:Ct (R.eG (ro W u c i t y) a b d) (Pc W (qv a.2.2<=mo u t) (mo u t-qv a.2.2) (λv=>v.2)):=ct λhp=>by have h0:=Fb a.2.2;unfold R.eG;exact cdb
instance c_in{a b}:Ct (R.fc (ro W u c i t y) a b) (Pc W (True) (mo u t) (λv=>v.2)):=ct λhp=>by unfold R.fc;exact cdb
instance c_sharing{a}:Ct (R.cb (ro W u c i t y) a) (Pc W (1<=mo u t) (mo u t-1) (λv=>v.2)):=ct λhp=>by unfold R.cb;exact cdb
instance c_viewing{a}:Ct (R.ch (ro W u c i t y) a) (Pc W (True) (mo u t) (λv=>v.2)):=ct λhp=>by unfold R.ch;exact cdb
instance c_over{a b d e}:Ct (R.eM (ro W u c i t y) a b d e) (Pc W (True) (mo u t) (λv=>v.2)):=ct λhp=>by unfold R.eM;exact cdb
instance c_typing{a b}:Ct (R.dG (ro W u c i t y) a b) (Pc W (True) (mo u t) (λv=>v.2)):=ct λhp=>by unfold R.dG;exact cdb
instance c_keys{a}:Ct (R.eI (ro W u c i t y) a) (Pc W (True) (mo u t) (λv=>v.2)):=ct λhp=>by unfold R.eI;exact cdb
instance c_create{a b}:Ct (R.dL (ro W u c i t y) a b) (Pc W (True) (mo u t) (λv=>v.2)):=ct λhp=>by unfold R.dL;exact cdb
instance c_push{a b}:Ct (R.eK (ro W u c i t y) a b) (Pc W (True) (mo u t) (λv=>v.2)):=ct λhp=>by unfold R.eK;exact cdb
instance K6{a b}:Ct (R.cR (ro W u c i t y) a b) (Pc W (True) (mo u t) (λv=>v.2)):=ct λhp=>by unfold R.cR;exact cdb
instance c_bigged{a}:Ct (R.dE (ro W u c i t y) a) (Pc W (True) (mo u t) (λv=>v.2)):=ct λhp=>by unfold R.dE;exact cdb
instance c_failure{a b}:Ct (R.cf (ro W u c i t y) a b) (Pc W (True) (mo u t) (λv=>v.2)):=ct λhp=>by unfold R.cf;exact cdb
instance c_viewed{a b d}:Ct (R.dF (ro W u c i t y) a b d) (Pc W (1<=mo u t) (mo u t-1) (λv=>v.2)):=ct λhp=>by unfold R.dF;exact cdb
instance c_place{a b}:Ct (R.dq (ro W u c i t y) a b) (Pc W (True) (mo u t) (λv=>v.2.2)):=ct λhp=>by unfold R.dq;exact cdb
instance c_waits{a b d e f}:Ct (R.dt (ro W u c i t y) a b d e f) (Pc W (1<=mo u t) (mo u t-1) (λv=>v.2)):=ct λhp=>by unfold R.dt;exact cdb
instance LX{a b d e}:Ct (R.cS (ro W u c i t y) a b d e) (Pc W (1<=mo u t) (mo u t-1) (λv=>v.2)):=ct λhp=>by unfold R.cS;exact cdb
theorem b_val{α β:Type}{B:α->Prop}{m:Res β}{k:β->Res α}{x:β}(h:m.strip=some x)(hk:Bd B (k x)):Bd B (m.bind k):=nW λa e=>by
 rw [h] at e;cases e;exact hk
theorem Jb{α:Type}{B:α->Prop}{t:Sh}{l:List t.den}{i:Int}{x:t.den}{k:t.den->Res α}(h0:0<=i)(hx:l[i.toNat]?=some x)(h:Bd B (k x)):Bd B (cO t l i k):=by
 unfold cO;rw [decide_eq_true h0]
 show Bd B (match l[i.toNat]? with|some x=>_|none=>_)
 rw [hx];exact h
theorem It{p:iJ.den}{a b:Int}{s r:Bool}(h:zX c.1 p.2.2.2.2.2.2.2.2.2.1):Bd (λx=>∃ v,∃ c':W.C,zX c'.1 p.2.2.2.2.2.2.2.2.2.1/\x=((v,0),ro W u c' i t y)) (R.bh (ro W u c i t y) p a b s r):=by
 unfold R.bh;obtain ⟨h0,x,hx,h5⟩:=h;have hl:=(List.getElem?_eq_some_iff.1 hx).1;exact bR (b_val (D6 ⟨h0,x,hx,h5⟩) (b_f rfl (Jb h0 hx (p7 (b_t (by rw [h5];rfl) (gX λ_=>bR (p7 (gX λ_=>bR (jM ⟨_,⟨_,Hd c _ x⟩,⟨h0,x,by rw [List.getElem?_set_self hl],h5⟩,rfl⟩)))))))))
theorem Hl{p:iJ.den}{a b d:Int}{s r:Bool}(h:zX c.1 p.2.2.2.2.2.2.2.2.2.1):Bd (λx=>∃ c':W.C,x=(0,ro W u c' i t y)) (R.bZ (ro W u c i t y) p a b d s r):=by
 unfold R.bZ;exact bR (nW λx e=>bR (b_t (by rw [G9 h e];rfl) (gX λ_=>bR (gX λ_=>bR (Ct.call (eh λ_ c'=>bR (jM ⟨c',rfl⟩)))))))
instance c_change{a b d}:Ct (R.cX (ro W u c i t y) a b d) (Pc W (1<=mo u t) (mo u t-1) (λv=>v.2)):=ct λhp=>by
 unfold R.cX;refine bR (gX λ_=>bR (nW λx e=>bR (ph (tW (λh5=>?_) λ_=>cdb))));refine p9 (It (HH e h5)) λa ha=>?_;obtain ⟨v,c',hb',rfl⟩:=ha;refine bR (gX λ_=>bR (gX λ_=>p9 (Hl hb') λa ha=>?_));obtain ⟨c2,rfl⟩:=ha;dsimp only [ro];exact cdb
instance c_atomic{a b}:Ct (R.dH (ro W u c i t y) a b) (Pc W (1<=mo u t) (mo u t-1) (λv=>v.2)):=ct λhp=>by unfold R.dH;exact cdb
end Go.Mach

set_option maxRecDepth 100000
set_option maxHeartbeats 2000000
namespace Go.Mach
open Res
variable {W:Wo}{u:W.U}{c:W.C}{i:Int}{t:W.T}{y:YoT}
class GO (W:Wo) (G:af):Prop where
 Cp:∀ {u c i t y a b},Ct (G.eval_run_list (ro W u c i t y) a b) (Pc W (0<=mo u t) (mo u t) (λv=>v.1))
 rz:∀ {u c i t y a b d},Ct (G.eval_run_statement (ro W u c i t y) a b d) (Pc W (0<=mo u t) (mo u t+1) (λv=>v.1))
 HX:∀ {u c i t y a b d},Ct (G.eval_run_act (ro W u c i t y) a b d) (Pc W (0<=mo u t) (mo u t) (λv=>v.1))
 qq:∀ {u c i t y a b},Ct (G.eval_run_expression (ro W u c i t y) a b) (Pc W (0<=mo u t) (mo u t+1) (λv=>v.2))
 AA:∀ {u c i t y a b},Ct (G.eval_run_block (ro W u c i t y) a b) (Pc W (0<=mo u t) (mo u t) (λv=>v.1))
 ze:∀ {u c i t y a b},Ct (G.eval_run_decls (ro W u c i t y) a b) (Pc W (0<=mo u t) (mo u t) (λv=>v.1))
 wv:∀ {u c i t y a b},Ct (G.eval_run_choice (ro W u c i t y) a b) (Pc W (0<=mo u t) (mo u t) (λv=>v.1))
 zs:∀ {u c i t y a b d},Ct (G.eval_run_while (ro W u c i t y) a b d) (Pc W (0<=mo u t) (mo u t) (λv=>v.1))
 DR:∀ {u c i t y a b d},Ct (G.eval_run_loop (ro W u c i t y) a b d) (Pc W (0<=mo u t) (mo u t) (λv=>v.1))
 HA:∀ {u c i t y a b},Ct (G.eval_run_try (ro W u c i t y) a b) (Pc W (0<=mo u t) (mo u t) (λv=>v.1))
 zy:∀ {u c i t y a b},Ct (G.eval_run_value (ro W u c i t y) a b) (Pc W (0<=mo u t) (mo u t) (λv=>v.2))
 zE:∀ {u c i t y a b},Ct (G.eval_run_asked (ro W u c i t y) a b) (Pc W (0<=mo u t) (mo u t) (λv=>v.2.1))
 zx:∀ {u c i t y a b},Ct (G.eval_run_first (ro W u c i t y) a b) (Pc W (0<=mo u t) (mo u t) (λv=>v.2.1))
 zK:∀ {u c i t y a b d e},Ct (G.eval_run_catch (ro W u c i t y) a b d e) (Pc W (0<=mo u t) (mo u t) (λv=>v.1))
 zQ:∀ {u c i t y a b},Ct (G.eval_run_array (ro W u c i t y) a b) (Pc W (0<=mo u t) (mo u t) (λv=>v.2))
 xD:∀ {u c i t y a b},Ct (G.eval_run_object (ro W u c i t y) a b) (Pc W (0<=mo u t) (mo u t) (λv=>v.2))
 ry:∀ {u c i t y a b d},Ct (G.eval_run_operation (ro W u c i t y) a b d) (Pc W (0<=mo u t) (mo u t) (λv=>v.2))
 zD:∀ {u c i t y a b d},Ct (G.eval_run_unary (ro W u c i t y) a b d) (Pc W (0<=mo u t) (mo u t) (λv=>v.2))
 Cd:∀ {u c i t y a b},Ct (G.eval_run_step (ro W u c i t y) a b) (Pc W (0<=mo u t) (mo u t) (λv=>v.2))
 xe:∀ {u c i t y a b},Ct (G.eval_run_binary (ro W u c i t y) a b) (Pc W (0<=mo u t) (mo u t) (λv=>v.2))
 zZ:∀ {u c i t y a b},Ct (G.eval_run_logic (ro W u c i t y) a b) (Pc W (0<=mo u t) (mo u t) (λv=>v.2))
 xd:∀ {u c i t y a b},Ct (G.eval_run_assign (ro W u c i t y) a b) (Pc W (0<=mo u t) (mo u t) (λv=>v.2))
 xa:∀ {u c i t y a b},Ct (G.eval_run_callee (ro W u c i t y) a b) (Pc W (0<=mo u t) (mo u t) (λv=>v.2))
 sV:∀ {u c i t y a b},Ct (G.eval_run_arguments (ro W u c i t y) a b) (Pc W (0<=mo u t) (mo u t) (λv=>v.2.2))
 zq:∀ {u c i t y a b},Ct (G.eval_run_fresh (ro W u c i t y) a b) (Pc W (1<=mo u t) (mo u t-1) (λv=>v.2))
 ti:∀ {u c i t y a b},Ct (G.eval_run_property (ro W u c i t y) a b) (Pc W (0<=mo u t) (mo u t) (λv=>v.2))
 AE:∀ {u c i t y a b},Ct (G.eval_run_parts (ro W u c i t y) a b) (PQ W (0<=mo u t) (mo u t))
 wk:∀ {u c i t y a b},Ct (G.eval_run_called (ro W u c i t y) a b) (Pc W (0<=mo u t) (mo u t+1) (λv=>v.2.2))
 DE:∀ {u c i t y a b d},Ct (G.eval_run_call (ro W u c i t y) a b d) (Pc W (qc a<=mo u t) (mo u t-qc a) (λv=>v.2))
 wj:∀ {u c i t y a b},Ct (G.eval_run_builds (ro W u c i t y) a b) (Pc W (1<=mo u t) (mo u t-1) (λv=>v.2))
 zl:∀ {u c i t y a b d},Ct (G.eval_run_apply (ro W u c i t y) a b d) (Pc W (0<=mo u t) (mo u t) (λv=>v.2))
 DY:∀ {u c i t y a b d},Ct (G.eval_run_does (ro W u c i t y) a b d) (Pc W (1<=mo u t) (mo u t-1) (λv=>v.2))
 C8:∀ {u c i t y a b},Ct (G.eval_run_host (ro W u c i t y) a b) (Pc W (1<=mo u t) (mo u t-1) (λv=>v.2))
 tP:∀ {u c i t y a},Ct (G.eval_run_receives (ro W u c i t y) a) (Pc W (1<=mo u t) (mo u t-1) (λv=>v.2))
attribute [instance] GO.Cp GO.rz GO.HX GO.qq GO.AA GO.ze GO.wv GO.zs GO.DR GO.HA GO.zy GO.zE GO.zx GO.zK GO.zQ GO.xD GO.ry GO.zD GO.Cd GO.xe GO.zZ GO.xd GO.xa GO.sV GO.zq GO.ti GO.AE GO.wk GO.DE GO.wj GO.zl GO.DY GO.C8 GO.tP
variable {G:af} [GO W G]
instance c_list{a b}:Ct (R.eval_run_list G (ro W u c i t y) a b) (Pc W (0<=mo u t) (mo u t) (λv=>v.1)):=ct λhp=>by unfold R.eval_run_list;exact cd
instance Bh{a b d}:Ct (R.eval_run_statement G (ro W u c i t y) a b d) (Pc W (0<=mo u t) (mo u t+1) (λv=>v.1)):=ct λhp=>by unfold R.eval_run_statement;exact cd
instance c_act{a b d}:Ct (R.eval_run_act G (ro W u c i t y) a b d) (Pc W (0<=mo u t) (mo u t) (λv=>v.1)):=ct λhp=>by unfold R.eval_run_act;exact cd
instance AJ{a b}:Ct (R.eval_run_expression G (ro W u c i t y) a b) (Pc W (0<=mo u t) (mo u t+1) (λv=>v.2)):=ct λhp=>by unfold R.eval_run_expression;exact cd
instance J2{a b}:Ct (R.eval_run_block G (ro W u c i t y) a b) (Pc W (0<=mo u t) (mo u t) (λv=>v.1)):=ct λhp=>by unfold R.eval_run_block;exact cd
instance KJ{a b}:Ct (R.eval_run_decls G (ro W u c i t y) a b) (Pc W (0<=mo u t) (mo u t) (λv=>v.1)):=ct λhp=>by unfold R.eval_run_decls;exact cd
instance HD{a b}:Ct (R.eval_run_choice G (ro W u c i t y) a b) (Pc W (0<=mo u t) (mo u t) (λv=>v.1)):=ct λhp=>by unfold R.eval_run_choice;exact cd
instance Kc{a b d}:Ct (R.eval_run_while G (ro W u c i t y) a b d) (Pc W (0<=mo u t) (mo u t) (λv=>v.1)):=ct λhp=>by unfold R.eval_run_while;exact cd
instance c_loop{a b d}:Ct (R.eval_run_loop G (ro W u c i t y) a b d) (Pc W (0<=mo u t) (mo u t) (λv=>v.1)):=ct λhp=>by unfold R.eval_run_loop;exact cd
instance c_try{a b}:Ct (R.eval_run_try G (ro W u c i t y) a b) (Pc W (0<=mo u t) (mo u t) (λv=>v.1)):=ct λhp=>by unfold R.eval_run_try;exact cd
instance JL{a b}:Ct (R.eval_run_value G (ro W u c i t y) a b) (Pc W (0<=mo u t) (mo u t) (λv=>v.2)):=ct λhp=>by unfold R.eval_run_value;exact cd
instance KN{a b}:Ct (R.eval_run_asked G (ro W u c i t y) a b) (Pc W (0<=mo u t) (mo u t) (λv=>v.2.1)):=ct λhp=>by unfold R.eval_run_asked;exact cd
instance Kf{a b}:Ct (R.eval_run_first G (ro W u c i t y) a b) (Pc W (0<=mo u t) (mo u t) (λv=>v.2.1)):=ct λhp=>by unfold R.eval_run_first;exact cd
instance JY{a b d e}:Ct (R.eval_run_catch G (ro W u c i t y) a b d e) (Pc W (0<=mo u t) (mo u t) (λv=>v.1)):=ct λhp=>by unfold R.eval_run_catch;exact cd
instance KO{a b}:Ct (R.eval_run_array G (ro W u c i t y) a b) (Pc W (0<=mo u t) (mo u t) (λv=>v.2)):=ct λhp=>by unfold R.eval_run_array;exact cd
instance Hx{a b}:Ct (R.eval_run_object G (ro W u c i t y) a b) (Pc W (0<=mo u t) (mo u t) (λv=>v.2)):=ct λhp=>by unfold R.eval_run_object;exact cd
instance Bp{a b d}:Ct (R.eval_run_operation G (ro W u c i t y) a b d) (Pc W (0<=mo u t) (mo u t) (λv=>v.2)):=ct λhp=>by unfold R.eval_run_operation;exact cd
instance I9{a b d}:Ct (R.eval_run_unary G (ro W u c i t y) a b d) (Pc W (0<=mo u t) (mo u t) (λv=>v.2)):=ct λhp=>by unfold R.eval_run_unary;exact cd
instance c_step{a b}:Ct (R.eval_run_step G (ro W u c i t y) a b) (Pc W (0<=mo u t) (mo u t) (λv=>v.2)):=ct λhp=>by unfold R.eval_run_step;exact cd
instance GC{a b}:Ct (R.eval_run_binary G (ro W u c i t y) a b) (Pc W (0<=mo u t) (mo u t) (λv=>v.2)):=ct λhp=>by unfold R.eval_run_binary;exact cd
instance KV{a b}:Ct (R.eval_run_logic G (ro W u c i t y) a b) (Pc W (0<=mo u t) (mo u t) (λv=>v.2)):=ct λhp=>by unfold R.eval_run_logic;exact cd
instance H6{a b}:Ct (R.eval_run_assign G (ro W u c i t y) a b) (Pc W (0<=mo u t) (mo u t) (λv=>v.2)):=ct λhp=>by unfold R.eval_run_assign;exact cd
instance Gk{a b}:Ct (R.eval_run_callee G (ro W u c i t y) a b) (Pc W (0<=mo u t) (mo u t) (λv=>v.2)):=ct λhp=>by
 unfold R.eval_run_callee;refine bR (xW λ_=>Ct.call (el hp λv u1 c1 d1 b1 y1 h1 h2=>?_));have hq:=qc_b v.1;dsimp only [ro];exact cd
instance A0{a b}:Ct (R.eval_run_arguments G (ro W u c i t y) a b) (Pc W (0<=mo u t) (mo u t) (λv=>v.2.2)):=ct λhp=>by unfold R.eval_run_arguments;exact cd
instance Jf{a b}:Ct (R.eval_run_fresh G (ro W u c i t y) a b) (Pc W (1<=mo u t) (mo u t-1) (λv=>v.2)):=ct λhp=>by unfold R.eval_run_fresh;exact cd
instance DM{a b}:Ct (R.eval_run_property G (ro W u c i t y) a b) (Pc W (0<=mo u t) (mo u t) (λv=>v.2)):=ct λhp=>by unfold R.eval_run_property;exact cd
theorem ctp{W:Wo}{p:Prop}{n:Int}{m:Res ((dN.den×(aC.den×Int))×RnT)}(h:p->Bd (PP W n) m):Ct m (PQ W p n):=⟨λa e hp=>h hp a e⟩
instance Iv{a b}:Ct (R.eval_run_parts G (ro W u c i t y) a b) (PQ W (0<=mo u t) (mo u t)):=ctp λhp=>by
 have z:=qv_z;unfold R.eval_run_parts;refine bR (C0 λe1 he=>tW (λ_=>cd) λ_=>xW λe2=>Ct.call (el hp λv u1 c1 d1 b1 y1 h1 h2=>?_));dsimp only [ro];refine bR (ph (tW (λe3=>tW (λe4=>nW λr4 h4=>bR (nW λr5 h5=>bR ?_)) λ_=>xW λe6=>Ct.call (el (by omega) λv2 u2 c2 d2 b2 y2 h3 h4=>?_)) λ_=>cd))
 ·have hq:=qv_0 (W.dot _ _ he e4 _ _ h4 h5);exact cd
 ·have hq:=Fb v2.1;dsimp only [ro];exact cd
instance Hw{a b}:Ct (R.eval_run_called G (ro W u c i t y) a b) (Pc W (0<=mo u t) (mo u t+1) (λv=>v.2.2)):=ct λhp=>by unfold R.eval_run_called;exact cd
instance c_call{a b d}:Ct (R.eval_run_call G (ro W u c i t y) a b d) (Pc W (qc a<=mo u t) (mo u t-qc a) (λv=>v.2)):=ct λhp=>by
 have hb:=qc_b a;unfold R.eval_run_call;refine bR (ph (tW (λ_=>nW λr2 h2=>bR (nW λr3 h3=>oh (λe=>?_) λ_=>cd)) λ_=>cd));have hq:=qc_1 h2 (e▸h3);exact cd
instance Gs{a b}:Ct (R.eval_run_builds G (ro W u c i t y) a b) (Pc W (1<=mo u t) (mo u t-1) (λv=>v.2)):=ct λhp=>by unfold R.eval_run_builds;exact cdb
instance JT{a b d}:Ct (R.eval_run_apply G (ro W u c i t y) a b d) (Pc W (0<=mo u t) (mo u t) (λv=>v.2)):=ct λhp=>by unfold R.eval_run_apply;exact cd
instance c_does{a b d}:Ct (R.eval_run_does G (ro W u c i t y) a b d) (Pc W (1<=mo u t) (mo u t-1) (λv=>v.2)):=ct λhp=>by unfold R.eval_run_does;exact cdb
instance c_host{a b}:Ct (R.eval_run_host G (ro W u c i t y) a b) (Pc W (1<=mo u t) (mo u t-1) (λv=>v.2)):=ct λhp=>by unfold R.eval_run_host;exact cdb
instance DJ{a}:Ct (R.eval_run_receives G (ro W u c i t y) a) (Pc W (1<=mo u t) (mo u t-1) (λv=>v.2)):=ct λhp=>by
 unfold R.eval_run_receives;refine bR (tg (tO (λ_=>nx (nW λr1 h1=>nw (kR (ph (tW (λe=>?_) λ_=>cd))))) λ_=>kR (vV cd)));have hk:LT.lt (α:=Int) a.2.2.2.2 (c.1.length:Int):=KD h1 (by rw [e];decide);have hc:c.1.length<=4096:=c.2;have hq:qc a=0:=if_pos (by show LT.lt (α:=Int) _ _;omega);exact cd
end Go.Mach

set_option maxRecDepth 100000
set_option maxHeartbeats 2000000
namespace Go.Mach
open Res
variable {W:Wo}{u:W.U}{c:W.C}{i:Int}{t:W.T}{y:YoT}
theorem Hn{α:Type}{P:α->Prop}:Ct .stuck P:=⟨λ_ e=>by cases e⟩
theorem go:∀ n,GO W (bw n)
 |0=>by constructor<;>exact Hn
 |n+1=>by
  have:=go n;exact ⟨c_list,Bh,c_act,AJ,J2,KJ,HD,Kc,c_loop,c_try,JL,KN,Kf,JY,KO,Hx,Bp,I9,c_step,GC,KV,H6,Gk,A0,Jf,DM,Iv,Hw,c_call,Gs,JT,c_does,c_host,DJ⟩
instance {n}:GO W (bw n):=go n
instance Es:Ct (R.cZ (ro W u c i t y)) (Pc W (0<=mo u t) (mo u t) (λv=>v.1)):=ct λhp=>by unfold R.cZ;exact cd
def AskE(L:ub)(A:List xy)(r:uP×A9):Prop:=Eq (α:=Int) r.2.1 0->Ne (α:=Int) r.1.1 0->LE.le (α:=Int) ((A.length:Int)+1) L.2.2
theorem IH(hm:W.m=kF (o6 W.L.1 0) 4096):Bd (AskE W.L W.A) (R.fb W.N W.L W.A):=by
 unfold R.fb R.lV;refine bR (nw (kR (bR ?_)));rw [<- hm];refine p9 (Es (W:=W) (u:=⟨0,Int.le_refl 0,by omega⟩) (c:=⟨[],by decide⟩) (i:=0) (t:=⟨0,Int.le_refl 0,.inl rfl⟩) (y:=(Bf,(0,[])))).h λa ha=>?_;obtain ⟨v,u,c,d,b,y,rfl,h1,h2⟩:=ha (by show LE.le (α:=Int) 0 ((0:Int)-0);decide)
 refine bR (tW (λe=>jM λe0 _=>?_) λ_=>tW (λ_=>gX λ_=>bR (jM λe=>absurd (show (2:Int)=0 from e) (by decide))) λ_=>jM λe=>absurd (show (1:Int)=0 from e) (by decide))
 have h3:LE.le (α:=Int) ((W.A.length:Int)+1) b.1:=h2 e e0;have h4:=b.2.2;rcases h4 with h4|h4
 ·rw [h4] at h3;exact absurd h3 (by show ¬ LE.le (α:=Int) _ _;omega)
 ·exact Int.le_trans h3 h4
end Go.Mach

set_option maxRecDepth 100000
set_option maxHeartbeats 2000000
namespace Go.Mach
open Res
def NoD(u:List Int):Prop:=∀ x,u[0]?=some x->¬ (48<=x/\x<=57)
def NoS(s:List UInt8):Prop:=∀ x:Int,(lH s)[0]?=some x->¬ (48<=IntKind.wrap .u16 x/\IntKind.wrap .u16 x<=57)
theorem vv{α:Type}{B:α->Prop}{t:Sh}{l:List t.den}{i:Int}{k:t.den->Res α}(h:∀ x,l[i.toNat]?=some x->Bd B (k x)):Bd B (cO t l i k):=by
 unfold cO;cases decide (0<=i)
 ·exact λ_ e=>by cases e
 ·show Bd B (match l[i.toNat]? with|some x=>_|none=>_)
  cases hx:l[i.toNat]? with
  |none=>exact λ_ e=>by cases e
  |some x=>exact h x hx
theorem KI{x:Int}{r}(h:¬ (48<=x/\x<=57))(e:(R.gJ x).strip=some r):r=false:=by
 refine (show Bd (λr=>r=false) (R.gJ x) from ?_) r e
 unfold R.gJ;refine bR (oh (λe=>jM ?_) λ_=>jM rfl);rw [kE] at e;show ile x 57=false;rw [ki];omega
theorem key_nd{u:List Int}(h:NoD u){t}(e:(R.eH u).strip=some t):t.2=false:=by
 refine (show Bd (λt=>t.2=false) (R.eH u) from ?_) t e
 unfold R.eH;refine bR (tO (λ_=>kR (vV (jM rfl))) λe0=>?_)
 have h0:0 < u.length:=by
  cases u with
  |nil=>exact absurd rfl e0
  |cons=>simp
 refine gX λx2=>oh (λ_=>jM rfl) λ_=>rD (I:=λa:Int×Int=>a.2=0) (λa ha=>?_) rfl;obtain ⟨n,j⟩:=a;have ha:j=0:=ha;subst ha;refine oh (λ_=>vv λx hx=>nW λr hr=>?_) λe=>?_
 ·rw [KI (h x hx) hr];exact b_t rfl (rJ (tk (jM rfl)))
 ·rw [kJ] at e;omega
theorem xh{s:List UInt8}(h:NoS s){r}(e:(R.av s).strip=some r):NoD r:=by
 refine (show Bd NoD (R.av s) from ?_) r e
 unfold R.av;refine bR (rD (I:=λa:List Int×Int=>NoD a.1/\(a.1=[]->a.2=0)) (λa ha=>?_) ⟨λx hx=>by simp at hx,λ_=>rfl⟩);obtain ⟨l,j⟩:=a;obtain ⟨h1,h2⟩:=ha;have h2:l=[]->j=0:=h2;refine oh (λ_=>C0 λx hx=>p7 (vN ⟨?_,λh=>absurd h (by simp)⟩)) λ_=>rJ (jM h1)
 cases l with
 |nil =>
  have hj:j=0:=h2 rfl;subst hj
  exact λz hz=>by
   have hz:some (IntKind.wrap .u16 x)=some z:=hz;cases hz;exact h x hx
 |cons y l=>exact λz hz=>h1 z hz
theorem Jt{u:List Int}(h:NoD u)(n m:Nat):NoD (List.take n (List.drop 0 u)):=λx hx=>by
 rw [List.drop_zero] at hx
 cases n with
 |zero=>simp at hx
 |succ n =>
  cases u with
  |nil=>simp at hx
  |cons y u=>exact h x hx
theorem Jn{v:dZ}(h5:v.1=5)(h:NoD v.2.2.2.1){r}(e:(R.cz v).strip=some r):NoD r.1:=by
 refine (show Bd (λr=>NoD r.1) (R.cz v) from ?_) r e
 have hu:∀ {q:List Int} ,(R.av [117,110,100,101,102,105,110,101,100]).strip=some q->NoD q:=λe=>xh (λx hx=>by
  have hx:some (117:Int)=some x:=hx;cases hx
  decide) e
 unfold R.cz R.cM;refine bR (nw (nx (gX λr1=>tg (tM (λ_=>kR (bR ?_)) λ_=>kR (bR (b_t rfl (nW λq hq=>bR (jM (hu hq)))))))));refine b_f (by rw [h5];rfl) (b_f (by rw [h5];rfl) (b_f (by rw [h5];rfl) (b_f (by rw [h5];rfl) (b_f (by rw [h5];rfl) (b_t (by rw [h5];rfl) (p9 (P:=λq=>q=v.2.2.2.1) (λq hq=>by cases hq;rfl) λq hq=>bR (jM ?_)))))));rw [hq];exact h
theorem Hv{u:List Int}(h:NoD u){v}(e:(R.cP u).strip=some v):v.1=5/\NoD v.2.2.2.1:=by
 refine (show Bd (λv:dZ=>v.1=5/\NoD v.2.2.2.1) (R.cP u) from ?_) v e
 unfold R.cP;exact bR (p7 (kR (bR (jM ⟨rfl,Jt h _ 0⟩))))
theorem Gi{x:Int}(e:(R.gr x).strip=some true):¬ (48<=x/\x<=57):=λ⟨h1,h2⟩=>by
 have e1:ile 97 x=false:=by rw [ki];omega
 have e2:ile 65 x=false:=by rw [ki];omega
 have e3:(x == 95)=false:=by simp;omega
 have e4:(x == 36)=false:=by simp;omega
 unfold R.gr at e;have e:(br (ile 97 x) _ (br (ile 65 x) _ (br (x == 95) (ok true) (ok (x == 36))))).strip=some true:=e;rw [e1,e2,e3,e4] at e;cases e
theorem run_ns{s:List UInt8}(e:(R.jH s).strip=some true):NoS s:=by
 refine (show Bd (λr=>r=true->NoS s) (R.jH s) from ?_) true e rfl
 unfold R.jH;refine bR (rD (I:=λi:Int=>i=0\/NoS s) (λi hi=>?_) (.inl rfl));refine oh (λ_=>C0 λx hx=>nx (nW λr hr=>tg (tM (λe=>kR (G7 (vN (.inr ?_)))) λ_=>?_))) λe=>rJ (wK (jM λ_=>hi.elim (λh=>?_) id))
 ·rcases hi with hi|hi
  ·subst hi
   exact λz hz=>by
    have hz:some x=some z:=hx.symm.trans hz;cases hz;exact Gi (e▸hr)
  ·exact hi
 ·refine tO (λh=>kR (vV (rJ (tk (jM λe=>by cases e))))) λh=>p9 (P:=λ_=>True) (λ_ _=>trivial) λz _=>oh (λ_=>rJ (tk (jM λe=>by cases e))) λ_=>vN (.inr (hi.resolve_left h))
 ·subst h;rw [kJ] at e
  cases s with
  |nil=>exact λx hx=>by simp [lH] at hx
  |cons y s=>simp at e;omega
theorem Gd{x:eT}(h:x.1=52)(e:(R.eC x).strip=some true):NoS x.2.1:=by
 obtain ⟨k,x⟩:=x;have h:k=52:=h;subst h
 refine (show Bd (λr=>r=true->NoS x.1) (R.eC (52,x)) from ?_) true e rfl
 unfold R.eC;exact bR (zU rfl (zU rfl (zU rfl (zU rfl (kR (b_f rfl (zU rfl (zU rfl (zU rfl (kR (b_f rfl (b_t rfl (nW λr h=>jM λe=>run_ns (e▸h))))))))))))))
theorem FU{x:eT}(h:x.1=52)(e:(R.eo x).strip=some true):NoS x.2.1:=by
 have hn:=Gd h;obtain ⟨k,x⟩:=x;have h:k=52:=h;subst h
 refine (show Bd (λr=>r=true->NoS x.1) (R.eo (52,x)) from ?_) true e rfl
 unfold R.eo;exact bR (gX λx1=>oh (λ_=>jM λe=>by cases e) λ_=>zU rfl (kR (b_f rfl (b_f rfl (b_f rfl (nW λr h=>jM λe=>hn (e▸h)))))))
theorem may_ns{t:List eT}(hl:t.length<=2^40)(e:(R.jF t).strip=some true):∀ (i:Nat) (x:eT),t[i]?=some x->x.1=52->NoS x.2.1:=by
 refine (show Bd (λr=>r=true->∀ (i:Nat) (x:eT),t[i]?=some x->x.1=52->NoS x.2.1) (R.jF t) from ?_) true e rfl
 unfold R.jF;refine bR (gX λx3=>oh (λ_=>jM λe=>by cases e) λ_=>rD (I:=λi:Int=>0<=i/\∀ (j:Nat) (x:eT),(j:Int) < i->t[j]?=some x->x.1=52->NoS x.2.1) (λi hi=>?_) ⟨Int.le_refl 0,λj x h=>by omega⟩);obtain ⟨h0,hi⟩:=hi
 have hk:∀ x:eT,t[i.toNat]?=some x->Bd (λb=>b=false->∀ z:eT,t[i.toNat]?=some z->z.1=52->NoS z.2.1) ((R.eo x).bind λr=>br (!r) (ok true) ((R.ia t i).bind λr=>ok (!r))):=λx hx=>nW λr hr=>ph (oh (λe=>gX λ_=>jM λ_ z hz hd=>by
  have hz:some x=some z:=hx.symm.trans hz;cases hz
  exact FU hd (e▸hr)) λ_=>jM λe=>by cases e)
 refine oh (λhlt=>p9 (P:=λb=>b=false->∀ z:eT,t[i.toNat]?=some z->z.1=52->NoS z.2.1) (oh (λ_=>vv λx hx=>tW (λ_=>jM λe=>by cases e) λ_=>vv λx hx=>hk x hx) λ_=>vv λx hx=>hk x hx) λb hb=>oh (λ_=>rJ (tk (jM λe=>by cases e))) λe=>vN ?_) λhlt=>rJ (wK (gX λ_=>bR (gX λ_=>bR (jM λ_ j x hx hd=>hi j x ?_ hx hd))))
 ·rw [fh] at hlt;rw [wrap64 (by omega)];refine ⟨by omega,λj x hj hx hd=>?_⟩;rcases Int.lt_or_le (j:Int) i with h|h
  ·exact hi j x h hx hd
  ·have:j=i.toNat:=by omega
   subst this;exact hb e x hx hd
 ·rw [kJ] at hlt;have:=(List.getElem?_eq_some_iff.1 hx).1;have:(t.length:Int)<=i:=hlt;omega
theorem Gr{t:List eT}(hl:t.length<=2^40){q:Int×Int}(e:(R.fH t).strip=some q)(h:q.2=0):∀ (i:Nat) (x:eT),t[i]?=some x->x.1=52->NoS x.2.1:=by
 refine (show Bd (λq:Int×Int=>q.2=0->∀ (i:Nat) (x:eT),t[i]?=some x->x.1=52->NoS x.2.1) (R.fH t) from ?_) q e h
 unfold R.fH;refine bR (nW λr hr=>ph (oh (λe=>?_) λ_=>jM λe=>absurd e (by decide)));have hn:=may_ns hl (e▸hr);exact gX λ_=>bR (gX λx=>Df (λ_=>jM λ_=>hn) λ_=>jM λ_=>hn)
theorem next_k{t:List eT}{L:ub}{A:List xy}(ht:t.length<=2^40)(la:A.length<=2^40)(lF:LE.le (α:=Int) L.2.2 (2^40)):Bd (AskE L A) (R.ey t L A):=by
 unfold R.ey;have z:∀ {e:A9},AskE L A (((0,(0,(0,(0,(0,(false,(false,(0,(0,((0,0),(([]:List Int),0))))))))))):uP),e):=λ_ h=>absurd rfl h;refine bR (nW λq hq=>bR (tg (tO (λh=>nx (gX λr=>kR (oh (λ_=>jM z) λ_=>?_))) λ_=>kR (vV (jM z)))));have hd:=Gr ht hq h;exact p9 (IH (W:=⟨t,L,A,kF (o6 L.1 0) 4096,by rw [gG];omega,la,lF,λi x hx hk r v hr hv r2 t2 h1 h2=>key_nd (Jn (Hv (xh (hd i x hx hk) hr) hv).1 (Hv (xh (hd i x hx hk) hr) hv).2 h1) h2⟩) rfl) λa ha=>bR (jM ha)
end Go.Mach

set_option maxRecDepth 100000
namespace Go.Mach
open Res
def yh(r:uP×A9):Prop:=Eq (α:=Int) r.2.1 0/\Ne (α:=Int) r.1.1 0
theorem GX{t:List eT}{lim:ub}(hf:rW t)(h3:LE.le (α:=Int) lim.2.2 3000):∃ N:uP×A9->Prop,(∀ A:List xy,A.length<=2^40->(R.ey t lim A).sat N)/\∀ r r':uP×A9,N r->N r'->Eq (α:=Int) r.2.1 0->¬ yh r->¬ yh r':=by
 rcases Iw (BT hf) with ⟨q,hq,_⟩|hno
 ·refine ⟨λr=>(Co q lim->Hg r)/\(¬ Co q lim->r=(Bf,(0,[]))),λA hA=>KE hf h3 hA hq,λr r' h h' e hn ha=>?_⟩;by_cases hg:Co q lim
  ·rcases h.1 hg with ⟨h1,h2⟩|⟨h1,h2,_⟩
   ·exact hn ⟨e,λh=>by have:=h2.k.1;rw [h] at this;exact absurd this (by decide)⟩
   ·rw [e] at h2;exact absurd h2 (by decide)
  ·rw [h'.2 hg] at ha;exact ha.2 rfl
 ·refine ⟨λ_=>False,λA _=>?_,λ_ _ h=>h.elim⟩;unfold R.ey;exact aA λ_=>fm (hno _)
theorem Hi{α:Type}{l:List α}{k n:Nat}(h:k<=n):List.take k l <+: List.take n l:=by
 have e:List.take k l=List.take k (List.take n l):=by rw [List.take_take,Nat.min_eq_left h]
 rw [e];exact List.take_prefix ..
theorem AG(t:List eT)(lim:ub)(l:List xy):mG (R.dS t lim l) (·=true):=by
 constructor;unfold R.dS;have firstF:=IF;generalize hF:R.eZ=F at firstF ⊢;have first_t:=firstF _ rfl
 have no:∀ {p:Prop},(true:Bool)=false->p:=λe=>by cases e
 refine aA λ_=>aa first_t (iC rfl (aB (R:=λb=>b=false->(t.length<=20000/\rW t)/\l.length<=100/\LE.le (α:=Int) (lim.2.2) (1000)/\zt lim=true) (aB few_ok λb1 h1=>eD (aG (λe1=>aB JZ λb2 h2=>eD (aG (λe2=>ef (λ_=>aD no) λh4=>aB HU λb3 h3=>eD (aG (λe3=>ef (λ_=>aD no) λh5=>aa xP (aD λe=>⟨h1 e1,h2 e2,h5,by simpa using e⟩)) λ_=>aD no)) λ_=>aD no)) λ_=>aD no)) λb hb=>aG (λ_=>aa first_t (aD rfl)) λe=>?_));obtain ⟨⟨ht,hf⟩,hl,h3,hg⟩:=hb e;have h0:LE.le (α:=Int) 0 lim.2.2:=(of_decide_eq_true hg).2.2.1;have lF:LE.le (α:=Int) lim.2.2 (2^40):=Int.le_trans h3 (by decide);obtain ⟨N,hN,hX⟩:=GX (t:=t) (lim:=lim) hf (Int.le_trans h3 (by decide));refine aB (R:=λx:Int ⊕ Bool=>∃ k:Int,x=.inl k/\LE.le (α:=Int) k lim.2.2) (gQ (λs:Int×(Bool×Int)=>s.2.2) (l.length+1) (by omega) (λs=>LE.le (α:=Int) s.1 lim.2.2/\(s.2.1=false->s.1=s.2.2)/\(s.2.1=true->∃ k:Nat,(k:Int) < s.2.2/\∃ r,(R.ey t lim (List.take k l)).strip=some r/\N r/\¬ yh r)) (Int.le_refl 0) (by show (0:Int)<=((l.length+1:Nat):Int);omega) ⟨h0,λ_=>rfl,λh=>by cases h⟩ λs i0 i1 hI=>?_) λx ⟨k,hx,hk⟩=>?_
 ·obtain ⟨a,o,n⟩:=s;obtain ⟨ha,h1,h2⟩:=hI;have i0:0<=n:=i0;have h1:o=false->a=n:=h1;refine lb (λhn=>?_) λ_=>aD ⟨a,rfl,ha⟩;have hn:n<=(l.length:Int):=hn
  have hlen:(List.take n.toNat l).length=n.toNat:=by rw [List.length_take];omega
  have hk:(List.take n.toNat l).length<=2^40:=by rw [hlen];omega
  refine bD (by rw [Bool.and_eq_true,kE,kE];exact ⟨i0,hn⟩) (aB (yl (hN _ hk) λa h=>h) λr ⟨nr,sr⟩=>aA λ_=>?_)
  have hov:yh r->o=false:=λhr=>by
   cases o with
   |false=>rfl
   |true =>
    obtain ⟨k,hkn,rk,sk,nk,ak⟩:=h2 rfl;have hkn:(k:Int) < n:=hkn;rcases two_s (P:=(·=0)) (FJ (t:=t) (lim:=lim) (Hi (l:=l) (by omega:k<=n.toNat)) (by rw [List.length_take];omega) hg) sk sr with h|h
    ·exact absurd hr (hX rk r nk nr h ak)
    ·rw [h] at hr;exact absurd hr ak
  refine aB (R:=λb=>b=true ↔ yh r) (bK (λh=>aD ⟨λe=>⟨h,by simpa using e⟩,λe=>by simpa using e.2⟩) λh=>aD ⟨λe=>(by cases e),λe=>absurd e.1 h⟩) λb hb=>aB (R:=λx=>x=false) (aG (λe=>aD (hov (hb.1 e))) λ_=>aD rfl) λx hx=>iC hx (aB (R:=λo'=>o'=(o || !b)) (aG (λe=>aD (by have e:o=true:=e;rw [e];rfl)) λe=>aD (by have e:o=false:=e;rw [e];rfl)) λo' ho=>aG (λe=>aD ⟨rfl,by show n < ((l.length+1:Nat):Int);omega,?_⟩) λe=>aD ⟨rfl,by show n < ((l.length+1:Nat):Int);omega,?_⟩)
  ·have hr:=hb.1 e;have hh:=next_k (t:=t) (L:=lim) (by omega) hk lF r sr hr.1 hr.2;rw [hlen] at hh;have hh:LE.le (α:=Int) ((n.toNat:Int)+1) lim.2.2:=hh;have hof:=hov hr;have han:=h1 hof;subst han;rw [ho,hof,e];have hw:w6 (a+1)=a+1:=wrap64 (by omega);refine ⟨?_,λ_=>rfl,λh=>by cases h⟩;show LE.le (α:=Int) (w6 (a+1)) lim.2.2;rw [hw];exact Int.le_trans (by show LE.le (α:=Int) _ _;omega) hh
  ·have hr:¬ yh r:=λh=>by rw [hb.2 h] at e;cases e
   have hw:w6 (n+1)=n+1:=wrap64 (by omega);rw [ho,e]
   refine ⟨ha,λh=>(by cases o<;>cases h),λ_=>⟨n.toNat,?_,r,sr,nr,hr⟩⟩
   show ((n.toNat:Nat):Int) < w6 (n+1);rw [hw];omega
 ·subst hx;exact aa first_t (jK rfl (aD (by rw [kE];exact hk)))
end Go.Mach

