/-
  A part of the proofs of renlaw25.JudgeErases and renlaw25.JudgeCells: each law returns true for every input of the stated bulk and leaves its arguments as they were; no further condition.
  By an AI agent; no person has read it.
-/
import Derived.Test.YtjfbodbfjhgffaaGreatDoorPjac
import Derived.Test.YtjfbodbfjhgffaaGreatDoorPjaf
set_option linter.all false
set_option linter.deprecated false
set_option maxRecDepth 20000
namespace Go.Mach
open Res
abbrev EvT:=T_event_Event.den
abbrev LogT:=T_event_Log.den
theorem wrapU{n:Int}(h:0<=n/\n < 18446744073709551616):IntKind.wrap .u64 n=n:=by
 simp [IntKind.wrap,IntKind.signed,IntKind.bits];omega
theorem wrapU2{a f:Int}(h:f<=a)(h1:-9223372036854775808<=f)(h2:a < 9223372036854775808):IntKind.wrap .u64 (IntKind.wrap .u64 a-IntKind.wrap .u64 f)=a-f:=by
 simp [IntKind.wrap,IntKind.signed,IntKind.bits];omega
theorem all_loop{f:Int->Res (Step Int (Unit ⊕ Bool))}{k:Unit->Res Bool}{Q:Bool->Prop}(n:Nat)(hn:n<=2^60)(P:Nat->Prop)
  (h:∀ i:Nat,i < n->(∀ k < i,P k)->(f i).sat λs=>s=.next (w6 (i+1))/\P i\/s=.done (.inr false)/\¬ P i) (he:(f n).sat (·=.done (.inl ())))
  (hk:(∀ k < n,P k)->(k ()).sat Q) (hf:¬ (∀ k < n,P k)->Q false):(bd (loop f fuel 0) λx=>sum x k λz=>ok z).sat Q:=by
 refine law_bind' (R:=λr=>r=.inl ()/\(∀ k < n,P k)\/r=.inr false/\¬ ∀ k < n,P k) (law_for (λx:Int=>x) n (by omega) (λx=>0<=x/\x<=n/\∀ k < x.toNat,P k) ⟨Int.le_refl 0,by omega,λk hk=>by omega⟩ (λx h=>⟨h.1,h.2.1⟩) ?_) ?_
 ·rintro x ⟨h0,h1,h2⟩;obtain ⟨i,rfl⟩:∃ i:Nat,x=i:=⟨x.toNat,by omega⟩;rcases Nat.lt_or_ge i n with hi|hi
  ·refine law_mono (h i hi (by simpa using h2)) λs hs=>?_;rcases hs with ⟨rfl,hp⟩|⟨rfl,hp⟩
   ·have hw:w6 ((i:Int)+1)=(i:Int)+1:=wrap64 (by omega);refine ⟨hw,?_⟩;rw [hw];refine ⟨by omega,by omega,λk hk=>?_⟩;rcases Nat.lt_or_ge k i with h3|h3
    ·exact h2 k (by omega)
    ·obtain rfl:k=i:=by omega
     exact hp
   ·exact .inr ⟨rfl,λhh=>hp (hh i hi)⟩
  ·obtain rfl:i=n:=by omega
   refine law_mono he λs hs=>?_;subst hs;exact .inl ⟨rfl,by simpa using h2⟩
 ·rintro r (⟨rfl,h1⟩|⟨rfl,h1⟩)
  ·exact law_inl (hk h1)
  ·exact law_inr (law_ok (hf h1))
theorem all_br{m:Res Bool}{P:Prop}{y:Int}(h:m.sat λb=>b=true ↔ ¬ P):(bd m λx=>br x (ok (Step.done (.inr false):Step Int (Unit ⊕ Bool))) (ok (.next y))).sat λs=>s=.next y/\P\/s=.done (.inr false)/\¬ P :=
 law_bind' h λb hb=>law_br (λe=>law_ok (.inr ⟨rfl,hb.1 e⟩)) λe=>law_ok (.inl ⟨rfl,Classical.byContradiction λhn=>by rw [hb.2 hn] at e;cases e⟩)
def ReadsP(e:EvT):Prop:=Eq (α:=Int) e.2.1 1\/Eq (α:=Int) e.2.1 3
def WritesP(e:EvT):Prop:=Eq (α:=Int) e.2.1 2\/Eq (α:=Int) e.2.1 3
def CoverP(e:EvT)(b a:Int):Prop:=Ne (α:=Int) e.2.1 0/\Eq (α:=Int) e.2.2.2.2.1 b/\LE.le (α:=Int) e.2.2.2.2.2.1 a/\LT.lt (α:=Int) (a-e.2.2.2.2.2.1) e.2.2.2.2.2.2.1
def EqualP(a b:EvT):Prop:=Ne (α:=Int) a.2.1 0/\Ne (α:=Int) b.2.1 0/\Eq (α:=Int) a.2.2.2.2.1 b.2.2.2.2.1/\Eq (α:=Int) a.2.2.2.2.2.1 b.2.2.2.2.2.1/\Eq (α:=Int) a.2.2.2.2.2.2.1 b.2.2.2.2.2.2.1
def OverP(a b:EvT):Prop:=Ne (α:=Int) b.2.1 0/\LE.le (α:=Int) 1 a.2.2.2.2.2.2.1/\LE.le (α:=Int) 1 b.2.2.2.2.2.2.1/\Ne (α:=Int) a.2.1 0/\Eq (α:=Int) a.2.2.2.2.1 b.2.2.2.2.1/\(CoverP b b.2.2.2.2.1 a.2.2.2.2.2.1\/CoverP a a.2.2.2.2.1 b.2.2.2.2.2.1)
def kindB(e:EvT)(b:Bool):Int:=match b with|true=>e.2.2.2.2.2.2.1|false=>0
def FieldsP(e:EvT):Prop :=
 (Eq (α:=Int) e.2.1 0/\e.2.2.1=false/\e.2.2.2.1=false/\Eq (α:=Int) e.2.2.2.2.1 0/\Eq (α:=Int) e.2.2.2.2.2.1 0/\Eq (α:=Int) e.2.2.2.2.2.2.1 0/\e.2.2.2.2.2.2.2.1.length=0/\e.2.2.2.2.2.2.2.2.1.length=0/\e.2.2.2.2.2.2.2.2.2.length=0) \/
 ((Eq (α:=Int) e.2.1 1\/Eq (α:=Int) e.2.1 2\/(Eq (α:=Int) e.2.1 3/\e.2.2.1=true/\e.2.2.2.1=true))/\(LE.le (α:=Int) 0 e.2.2.2.2.1/\LT.lt (α:=Int) e.2.2.2.2.1 16)/\(LE.le (α:=Int) 1 e.2.2.2.2.2.2.1/\LE.le (α:=Int) e.2.2.2.2.2.2.1 8)/\(LE.le (α:=Int) 0 e.2.2.2.2.2.1/\LE.le (α:=Int) (e.2.2.2.2.2.1+e.2.2.2.2.2.2.1) 256) /\
  (ReadsP e->Eq (α:=Int) (e.2.2.2.2.2.2.2.1.length:Int) e.2.2.2.2.2.2.1/\Eq (α:=Int) (e.2.2.2.2.2.2.2.2.2.length:Int) e.2.2.2.2.2.2.1)/\(¬ ReadsP e->e.2.2.2.2.2.2.2.1.length=0/\e.2.2.2.2.2.2.2.2.2.length=0) /\
  (WritesP e->Eq (α:=Int) (e.2.2.2.2.2.2.2.2.1.length:Int) e.2.2.2.2.2.2.1)/\(¬ WritesP e->e.2.2.2.2.2.2.2.2.1.length=0))
section
variable {Q:Bool->Prop}
theorem reads_l(e:EvT):(R.event_Reads e).sat λb=>b=true ↔ ReadsP e:=by
 unfold R.event_Reads ReadsP;exact law_given λ_=>q_eq (λh=>law_ok (by simp [h])) λh=>law_ok (by simp [h])
theorem writes_l(e:EvT):(R.event_Writes e).sat λb=>b=true ↔ WritesP e:=by
 unfold R.event_Writes WritesP;exact law_given λ_=>q_eq (λh=>law_ok (by simp [h])) λh=>law_ok (by simp [h])
theorem reads14_l(e:EvT):(R.renref14_Reads e).sat λb=>b=true ↔ ReadsP e:=reads_l e
theorem writes14_l(e:EvT):(R.renref14_Writes e).sat λb=>b=true ↔ WritesP e:=writes_l e
theorem within_l(a f s:Int):(R.event_within a f s).sat λb=>b=true ↔ f<=a/\a-f < s:=by
 unfold R.event_within;refine law_given λh=>?_;simp only [Sg.i,oks,Sh.ok,Ty.ok,List.map,Par.v,Bool.and_eq_true,range64] at h;obtain ⟨h1,h2,h3⟩:=h;refine q_le (λh=>law_ok ?_) λh=>law_ok ?_
 ·rw [wrapU2 h (by omega) (by omega),maxI_eq,wrapU (by omega),ilt_true];omega
 ·constructor
  ·intro e;cases e
  ·omega
theorem evI{e:EvT}(h:T_event_Event.ok e=true):(LE.le (α:=Int) (-9223372036854775808) e.2.2.2.2.2.1/\LT.lt (α:=Int) e.2.2.2.2.2.1 9223372036854775808)/\LE.le (α:=Int) (-9223372036854775808) e.2.2.2.2.2.2.1/\LT.lt (α:=Int) e.2.2.2.2.2.2.1 9223372036854775808:=by
 simp only [Ty.ok,Bool.and_eq_true,range64] at h;exact ⟨h.2.2.2.2.2.1,h.2.2.2.2.2.2.1⟩
theorem covers_l(e:EvT)(b a:Int):(R.event_Covers e b a).sat λr=>r=true ↔ CoverP e b a:=by
 unfold R.event_Covers CoverP;refine law_given λ_=>q_not (q_eq (λh=>law_ok ?_) λh=>q_eq (λh2=>law_bind' (within_l _ _ _) λr hr=>law_ok ?_) λh2=>law_ok ?_)
 ·simp [h]
 ·rw [hr];simp [h,h2]
 ·simp [h,h2]
theorem covers14_l(e:EvT)(b a:Int):(R.renref14_Covers e b a).sat λr=>r=true ↔ CoverP e b a:=by
 unfold R.renref14_Covers CoverP;refine law_given λhg=>?_;simp only [Sg.i,oks,Sh.ok,Ty.ok,List.map,Par.v,Bool.and_eq_true,range64] at hg;obtain ⟨h0,_,h1⟩:=hg;have h4:=h0.2.2.2.2.2.1;have h5:=h0.2.2.2.2.2.2.1;refine q_not (q_eq (λh=>law_ok ?_) λh=>q_eq (λh2=>q_lt (λh3=>q_le (λh6=>law_ok ?_) λh6=>law_ok ?_) λh3=>law_ok ?_) λh2=>law_ok ?_)
 ·simp [h]
 ·rw [wrapU2 h6 h4.1 h1.2,wrapU (by omega),ilt_true];exact ⟨λx=>⟨h,h2,h6,x⟩,λx=>x.2.2.2⟩
 ·constructor
  ·intro e;cases e
  ·intro x;exact absurd x.2.2.1 (Int.not_le.2 h6)
 ·constructor
  ·intro e;cases e
  ·intro x;have x1:=x.2.2.1;have x2:=x.2.2.2;omega
 ·simp [h2]
theorem equal_l(a b:EvT):(R.event_Equal a b).sat λr=>r=true ↔ EqualP a b:=by
 unfold R.event_Equal EqualP;exact law_given λ_=>q_not (q_eq (λh=>law_ok (by simp [h])) λh=>q_not (q_eq (λh2=>law_ok (by simp [h2])) λh2=>q_eq (λh3=>q_eq (λh4=>law_ok (by simp [h,h2,h3,h4])) λh4=>law_ok (by simp [h4])) λh3=>law_ok (by simp [h3])))
theorem equal14_l(a b:EvT):(R.renref14_Equal a b).sat λr=>r=true ↔ EqualP a b:=equal_l a b
theorem over_l(a b:EvT):(R.event_Overlap a b).sat λr=>r=true ↔ OverP a b:=by
 unfold R.event_Overlap;refine law_given λ_=>law_bind' (R:=λr=>r=true ↔ ¬ (Ne (α:=Int) b.2.1 0/\LE.le (α:=Int) 1 a.2.2.2.2.2.2.1/\LE.le (α:=Int) 1 b.2.2.2.2.2.2.1/\Ne (α:=Int) a.2.1 0/\Eq (α:=Int) a.2.2.2.2.1 b.2.2.2.2.1)) ?_ λr hr=>?_
 ·refine q_eq (λh=>law_ok (by simp [h])) λh=>q_eq (λh2=>law_ok (by simp [h2])) λh2=>q_not (q_eq (λh3=>q_lt (λh4=>law_ok ?_) λh4=>law_ok ?_) λh3=>law_ok (by simp [h3]))
  ·simp only [true_iff];intro x;have:=x.2.1;omega
  ·rw [ilt_true];constructor
   ·intro x y;have:=y.2.2.1;omega
   ·intro x;have h4:(1:Int)<=a.2.2.2.2.2.2.1:=h4;apply Classical.byContradiction;intro y;exact x ⟨h2,h4,by omega,h,h3⟩
 ·refine law_br (λe=>law_ok ?_) λe=>?_
  ·have h:=hr.1 e;constructor
   ·intro e;cases e
   ·intro x;exact absurd ⟨x.1,x.2.1,x.2.2.1,x.2.2.2.1,x.2.2.2.2.1⟩ h
  ·have h:=Classical.byContradiction λx=>Bool.false_ne_true (e.symm.trans (hr.2 x));obtain ⟨h1,h2,h3,h4,h5⟩:=h;refine law_bind' (within_l _ _ _) λb1 hb1=>law_br (λe1=>law_ok ?_) λe1=>law_bind' (within_l _ _ _) λb2 hb2=>law_ok ?_
   ·exact ⟨λ_=>⟨h1,h2,h3,h4,h5,.inl ⟨h1,rfl,hb1.1 e1⟩⟩,λ_=>rfl⟩
   ·rw [hb2];refine ⟨λx=>⟨h1,h2,h3,h4,h5,.inr ⟨h4,rfl,x⟩⟩,λx=>?_⟩;rcases x.2.2.2.2.2 with y|y
    ·exact absurd (hb1.2 y.2.2) (by rw [e1];exact Bool.false_ne_true)
    ·exact y.2.2
theorem over14_l(a b:EvT):(R.renref14_Overlap a b).sat λr=>r=true ↔ OverP a b:=by
 unfold R.renref14_Overlap;refine law_given λ_=>q_lt (λh1=>q_lt (λh2=>q_not (q_eq (λh3=>law_ok (by simp [OverP,h3])) λh3=>q_not (q_eq (λh4=>law_ok (by simp [OverP,h4])) λh4=>q_eq (λh5=>law_bind' (covers14_l _ _ _) λb1 hb1=>law_br (λe1=>law_ok ?_) λe1=>law_bind' (covers14_l _ _ _) λb2 hb2=>law_ok ?_) λh5=>law_ok (by simp [OverP,h5])))) λh2=>law_ok ?_) λh1=>law_ok ?_
 ·have:=hb1.1 e1;rw [<- h5] at this;exact ⟨λ_=>⟨h4,by omega,by omega,h3,h5,.inr this⟩,λ_=>rfl⟩
 ·rw [hb2];constructor
  ·intro x;rw [h5] at x;exact ⟨h4,by omega,by omega,h3,h5,.inl x⟩
  ·intro x;rcases x.2.2.2.2.2 with y|y
   ·rw [h5];exact y
   ·rw [h5] at y;exact absurd (hb1.2 y) (by rw [e1];exact Bool.false_ne_true)
 ·constructor
  ·intro e;cases e
  ·intro x;have:=x.2.2.1;omega
 ·constructor
  ·intro e;cases e
  ·intro x;have:=x.2.1;omega
end
end Go.Mach

set_option maxRecDepth 20000
namespace Go.Mach
open Res
abbrev OneP(e:EvT):Prop:=(Eq (α:=Int) e.2.1 1\/Eq (α:=Int) e.2.1 2\/(Eq (α:=Int) e.2.1 3/\e.2.2.1=true/\e.2.2.2.1=true))
theorem eq_len{l:List Int}{s:Int}:(((l.length:Int) == s)=true)=((l.length:Int)=s):=by simp
abbrev LensP(e:EvT):Prop:=(ReadsP e->Eq (α:=Int) (e.2.2.2.2.2.2.2.1.length:Int) e.2.2.2.2.2.2.1/\Eq (α:=Int) (e.2.2.2.2.2.2.2.2.2.length:Int) e.2.2.2.2.2.2.1)/\(¬ ReadsP e->e.2.2.2.2.2.2.2.1.length=0/\e.2.2.2.2.2.2.2.2.2.length=0) /\
  (WritesP e->Eq (α:=Int) (e.2.2.2.2.2.2.2.2.1.length:Int) e.2.2.2.2.2.2.1)/\(¬ WritesP e->e.2.2.2.2.2.2.2.2.1.length=0)
theorem lens_l{e:EvT}{mr mw:Res Bool}{T:Int->Res Bool}(hr:mr.sat λb=>b=true ↔ ReadsP e)(hw:mw.sat λb=>b=true ↔ WritesP e){P:Prop}(hT:∀ o,(T o).sat λb=>b=true ↔ Eq (α:=Int) (e.2.2.2.2.2.2.2.2.1.length:Int) o/\P) :
  (bd (α:=Int) (bd mr λr=>br r (ok e.2.2.2.2.2.2.1) (ok 0)) λi=>bd (α:=Int) (bd mw λr=>br r (ok e.2.2.2.2.2.2.1) (ok 0)) λo=>br ((e.2.2.2.2.2.2.2.1.length:Int) == i) (br ((e.2.2.2.2.2.2.2.2.2.length:Int) == i) (T o) (ok false)) (ok false)).sat λb=>b=true ↔ LensP e/\P:=by
 refine law_bind' (R:=λi=>(ReadsP e->i=e.2.2.2.2.2.2.1)/\(¬ ReadsP e->i=0)) (law_bind' hr λr h=>law_br (λt=>law_ok ⟨λ_=>rfl,λn=>absurd (h.1 t) n⟩) λt=>law_ok ⟨λy=>absurd (h.2 y) (by rw [t];exact Bool.false_ne_true),λ_=>rfl⟩) λi hi=>?_;refine law_bind' (R:=λi=>(WritesP e->i=e.2.2.2.2.2.2.1)/\(¬ WritesP e->i=0)) (law_bind' hw λr h=>law_br (λt=>law_ok ⟨λ_=>rfl,λn=>absurd (h.1 t) n⟩) λt=>law_ok ⟨λy=>absurd (h.2 y) (by rw [t];exact Bool.false_ne_true),λ_=>rfl⟩) λo ho=>?_;have f:∀ {A:Prop},¬ A->(false=true ↔ A):=λh=>⟨λe=>(by cases e),λa=>absurd a h⟩
 have key:∀ (x y z:Nat),((ReadsP e->Eq (α:=Int) (x:Int) e.2.2.2.2.2.2.1/\Eq (α:=Int) (y:Int) e.2.2.2.2.2.2.1)/\(¬ ReadsP e->x=0/\y=0)/\(WritesP e->Eq (α:=Int) (z:Int) e.2.2.2.2.2.2.1)/\(¬ WritesP e->z=0)) ↔ ((x:Int)=i/\(y:Int)=i/\(z:Int)=o):=by
  intro x y z;constructor
  ·rintro ⟨h1,h2,h3,h4⟩;refine ⟨?_,?_,?_⟩
   ·by_cases h:ReadsP e
    ·rw [hi.1 h];exact (h1 h).1
    ·rw [hi.2 h,(h2 h).1];rfl
   ·by_cases h:ReadsP e
    ·rw [hi.1 h];exact (h1 h).2
    ·rw [hi.2 h,(h2 h).2];rfl
   ·by_cases h:WritesP e
    ·rw [ho.1 h];exact h3 h
    ·rw [ho.2 h,h4 h];rfl
  ·rintro ⟨h1,h2,h3⟩;refine ⟨λh=>?_,λh=>?_,λh=>?_,λh=>?_⟩
   ·rw [hi.1 h] at h1 h2;exact ⟨h1,h2⟩
   ·rw [hi.2 h] at h1 h2;omega
   ·rw [ho.1 h] at h3;exact h3
   ·rw [ho.2 h] at h3;omega
 unfold LensP;rw [key];refine q_eq (λh1=>q_eq (λh2=>law_mono (hT o) λb hb=>hb.trans ⟨λp=>⟨⟨h1,h2,p.1⟩,p.2⟩,λp=>⟨p.1.2.2,p.2⟩⟩) λh2=>law_ok (f λx=>h2 x.1.2.1)) λh1=>law_ok (f λx=>h1 x.1.1)
abbrev RangeP(e:EvT):Prop:=(LE.le (α:=Int) 0 e.2.2.2.2.1/\LT.lt (α:=Int) e.2.2.2.2.1 16)/\(LE.le (α:=Int) 1 e.2.2.2.2.2.2.1/\LE.le (α:=Int) e.2.2.2.2.2.2.1 8)/\(LE.le (α:=Int) 0 e.2.2.2.2.2.1/\LE.le (α:=Int) (e.2.2.2.2.2.1+e.2.2.2.2.2.2.1) 256)
theorem range_l{e:EvT}{Z:Res Bool}{P:Prop}(hZ:RangeP e->Z.sat λb=>b=true ↔ P) :
  (bd (α:=Bool) (br (ilt e.2.2.2.2.1 0) (ok true) (br (ile 16 e.2.2.2.2.1) (ok true) (br (ilt e.2.2.2.2.2.2.1 1) (ok true) (br (ilt 8 e.2.2.2.2.2.2.1) (ok true) (br (ilt e.2.2.2.2.2.1 0) (ok true) (ok ((ilt (w6 (256-e.2.2.2.2.2.2.1)) e.2.2.2.2.2.1)))))))) λx=>br x (ok false) Z).sat λb=>b=true ↔ RangeP e/\P:=by
 have f:∀ {A:Prop},A->(true=true ↔ A):=λh=>⟨λ_=>h,λ_=>rfl⟩;refine law_bind' (R:=λb=>b=true ↔ ¬ RangeP e) ?_ λb hb=>law_br (λt=>law_ok ⟨λe=>(by cases e),λp=>absurd p.1 (hb.1 t)⟩) λt=>?_
 ·refine q_lt (λh1=>law_ok (f λp=>?_)) λh1=>q_le (λh2=>law_ok (f λp=>?_)) λh2=>q_lt (λh3=>law_ok (f λp=>?_)) λh3=>q_lt (λh4=>law_ok (f λp=>?_)) λh4=>q_lt (λh5=>law_ok (f λp=>?_)) λh5=>law_ok ?_
  ·exact Int.not_le.2 h1 p.1.1
  ·exact Int.not_lt.2 h2 p.1.2
  ·exact Int.not_le.2 h3 p.2.1.1
  ·exact Int.not_le.2 h4 p.2.1.2
  ·exact Int.not_le.2 h5 p.2.2.1
  ·have hw:w6 (256-e.2.2.2.2.2.2.1)=256-e.2.2.2.2.2.2.1:=wrap64 (by omega);rw [hw,ilt_true];constructor
   ·intro h p;have:=p.2.2.2;omega
   ·intro h;apply Classical.byContradiction;intro h6;exact h ⟨⟨h1,h2⟩,⟨h3,h4⟩,h5,by omega⟩
 ·have hr:RangeP e:=Classical.byContradiction λn=>by rw [hb.2 n] at t;cases t
  exact law_mono (hZ hr) λb h=>h.trans ⟨λp=>⟨hr,p⟩,λp=>p.2⟩
theorem fields_iff{e:EvT}(h0:Ne (α:=Int) e.2.1 0):FieldsP e ↔ OneP e/\RangeP e/\LensP e:=by
 unfold FieldsP;constructor
 ·rintro (h|⟨h1,h2,h3,h4,h5⟩)
  ·exact absurd h.1 h0
  ·exact ⟨h1,⟨h2,h3,h4⟩,h5⟩
 ·rintro ⟨h1,⟨h2,h3,h4⟩,h5⟩;exact .inr ⟨h1,h2,h3,h4,h5⟩
theorem sync_iff{e:EvT}(h0:Eq (α:=Int) e.2.1 0):FieldsP e ↔ (e.2.2.1=false/\e.2.2.2.1=false/\Eq (α:=Int) e.2.2.2.2.1 0/\Eq (α:=Int) e.2.2.2.2.2.1 0/\Eq (α:=Int) e.2.2.2.2.2.2.1 0/\e.2.2.2.2.2.2.2.1.length=0/\e.2.2.2.2.2.2.2.2.1.length=0/\e.2.2.2.2.2.2.2.2.2.length=0):=by
 unfold FieldsP;constructor
 ·rintro (h|⟨h1,_⟩)
  ·exact h.2
  ·have h0:e.2.1=(0:Int):=h0;rcases h1 with h|h|h
   ·have h:e.2.1=(1:Int):=h;rw [h0] at h;cases h
   ·have h:e.2.1=(2:Int):=h;rw [h0] at h;cases h
   ·have h:e.2.1=(3:Int):=h.1;rw [h0] at h;cases h
 ·exact λh=>.inl ⟨h0,h⟩
theorem fields_l(e:EvT):(R.event_fields e).sat λb=>b=true ↔ FieldsP e:=by
 unfold R.event_fields
 refine law_given λ_=>law_bind' (R:=λx:Unit ⊕ Bool=>match x with|.inl _=>Ne (α:=Int) e.2.1 0/\OneP e|.inr b=>b=true ↔ FieldsP e) (q_eq (λh0=>?_) λh0=>?_) λx hx=>?_
 ·have f:∀ {A:Prop},¬ A->(false=true ↔ A):=λh=>⟨λe=>(by cases e),λa=>absurd a h⟩
  have t:∀ {b:Bool},(!b)=false->¬ b=false:=by intro b;cases b<;>simp
  have t2:∀ {b:Bool},(!b)=true->b=false:=by intro b;cases b<;>simp
  have hs:=sync_iff h0;refine law_br (λh1=>law_br (λh2=>q_eq (λh3=>q_eq (λh4=>q_eq (λh5=>q_eq (λh6=>q_eq (λh7=>law_ok ?_) λh7=>law_ok (f λp=>h7 ?_)) λh6=>law_ok (f λp=>h6 ?_)) λh5=>law_ok (f λp=>h5 ?_)) λh4=>law_ok (f λp=>h4 ?_)) λh3=>law_ok (f λp=>h3 ?_)) λh2=>law_ok (f λp=>t h2 ?_)) λh1=>law_ok (f λp=>t h1 ?_)
  ·show _=true ↔ _;rw [hs,beq_iff_eq];constructor
   ·intro h8;exact ⟨t2 h1,t2 h2,h3,h4,h5,by omega,by omega,by omega⟩
   ·intro p;rw [p.2.2.2.2.2.2.2];rfl
  ·rw [(hs.1 p).2.2.2.2.2.2.1];rfl
  ·rw [(hs.1 p).2.2.2.2.2.1];rfl
  ·exact (hs.1 p).2.2.2.2.1
  ·exact (hs.1 p).2.2.2.1
  ·exact (hs.1 p).2.2.1
  ·exact (hs.1 p).2.1
  ·exact (hs.1 p).1
 ·have f:∀ {A:Prop},¬ A->(false=true ↔ A):=λh=>⟨λe=>(by cases e),λa=>absurd a h⟩;refine law_bind' (R:=λb=>b=true ↔ (Eq (α:=Int) e.2.1 1\/Eq (α:=Int) e.2.1 2)) (q_eq (λh=>law_ok (by simp [h])) λh=>law_ok (by simp [h])) λb hb=>law_br (λt=>law_ok ⟨h0,(hb.1 t).imp id .inl⟩) λt=>?_
  have hn:¬ (Eq (α:=Int) e.2.1 1\/Eq (α:=Int) e.2.1 2):=λh=>by rw [hb.2 h] at t;cases t
  refine q_eq (λh3=>law_bind' (R:=λb=>b=false ↔ (e.2.2.1=true/\e.2.2.2.1=true)) (law_br (λh=>law_ok ?_) λh=>law_ok ?_) λb hb=>law_br (λt=>law_ok (f λp=>?_)) λt=>law_ok ⟨h0,.inr (.inr ⟨h3,hb.1 t⟩)⟩) λh3=>law_ok (f λp=>?_)
  ·cases h4:e.2.2.1<;>simp_all
  ·cases h4:e.2.2.1<;>simp_all
  ·have hp:=((fields_iff h0).1 p).1;rcases hp with h|h|h
   ·exact hn (.inl h)
   ·exact hn (.inr h)
   ·rw [hb.2 h.2] at t;cases t
  ·have hp:=((fields_iff h0).1 p).1;rcases hp with h|h|h
   ·exact hn (.inl h)
   ·exact hn (.inr h)
   ·exact h3 h.1
 ·cases x with
  |inr b=>exact law_inr (law_ok hx)
  |inl u =>
   obtain ⟨h0,h1⟩:=hx;refine law_inl (law_mono (range_l (P:=LensP e/\True) λhr=>lens_l (reads_l e) (writes_l e) λo=>law_ok (by simp)) λb hb=>hb.trans ?_);rw [fields_iff h0,and_true];exact (and_iff_right h1).symm
theorem shape_l(e:EvT):(R.renref14_shape e).sat λb=>b=true ↔ (LE.le (α:=Int) 0 e.1/\LT.lt (α:=Int) e.1 64)/\FieldsP e:=by
 unfold R.renref14_shape;have f:∀ {A:Prop},¬ A->(false=true ↔ A):=λh=>⟨λe=>(by cases e),λa=>absurd a h⟩;have f':∀ {A:Prop},A->(true=true ↔ A):=λh=>⟨λ_=>h,λ_=>rfl⟩;refine law_given λhg=>law_bind' (R:=λb=>b=true ↔ ¬ ((LE.le (α:=Int) 0 e.1/\LT.lt (α:=Int) e.1 64)/\LE.le (α:=Int) 0 e.2.1/\LE.le (α:=Int) e.2.1 3)) (q_lt (λh1=>law_ok (f' λp=>Int.not_le.2 h1 p.1.1)) λh1=>q_le (λh2=>law_ok (f' λp=>Int.not_lt.2 h2 p.1.2)) λh2=>q_lt (λh3=>law_ok (f' λp=>Int.not_le.2 h3 p.2.1)) λh3=>law_ok ?_) λb hb=>law_br (λt=>law_ok (f λp=>?_)) λt=>?_
 ·rw [ilt_true];exact ⟨λh p=>Int.not_le.2 h p.2.2,λh=>Int.not_le.1 λh4=>h ⟨⟨h1,h2⟩,h3,h4⟩⟩
 ·refine hb.1 t ⟨p.1,?_⟩;by_cases h0:Eq (α:=Int) e.2.1 0
  ·have h0:e.2.1=(0:Int):=h0;rw [h0];decide
  ·have hp:=((fields_iff h0).1 p.2).1;rcases hp with h|h|h
   ·have h:e.2.1=(1:Int):=h;rw [h];decide
   ·have h:e.2.1=(2:Int):=h;rw [h];decide
   ·have h:e.2.1=(3:Int):=h.1;rw [h];decide
 ·have ha:(LE.le (α:=Int) 0 e.1/\LT.lt (α:=Int) e.1 64)/\LE.le (α:=Int) 0 e.2.1/\LE.le (α:=Int) e.2.1 3:=Classical.byContradiction λn=>by rw [hb.2 n] at t;cases t
  obtain ⟨ha,hk⟩:=ha;rw [and_iff_right ha];refine q_eq (λh0=>?_) λh0=>?_
  ·have hs:=sync_iff h0
   have t1:∀ {b:Bool},(!b)=false->¬ b=false:=by intro b;cases b<;>simp
   have t2:∀ {b:Bool},(!b)=true->b=false:=by intro b;cases b<;>simp
   refine law_br (λh1=>law_br (λh2=>q_eq (λh3=>q_eq (λh4=>q_eq (λh5=>law_ok ?_) λh5=>law_ok (f λp=>h5 ?_)) λh4=>law_ok (f λp=>h4 ?_)) λh3=>law_ok (f λp=>h3 ?_)) λh2=>law_ok (f λp=>t1 h2 ?_)) λh1=>law_ok (f λp=>t1 h1 ?_)
   ·have hl:e.2.2.2.2.2.2.2.1.length<=2^47/\e.2.2.2.2.2.2.2.2.1.length<=2^47/\e.2.2.2.2.2.2.2.2.2.length<=2^47:=by
     simp only [Sg.i,oks,Sh.ok,Ty.ok,List.map,Par.v,Bool.and_eq_true] at hg;have g:=hg.2.2.2.2.2.2.2;exact ⟨len_le g.1,len_le g.2.1,len_le g.2.2⟩
    obtain ⟨l1,l2,l3⟩:=hl;have w1:w6 ((e.2.2.2.2.2.2.2.1.length:Int)+(e.2.2.2.2.2.2.2.2.1.length:Int))=(e.2.2.2.2.2.2.2.1.length:Int)+(e.2.2.2.2.2.2.2.2.1.length:Int):=wrap64 (by omega);have w2:w6 ((e.2.2.2.2.2.2.2.1.length:Int)+(e.2.2.2.2.2.2.2.2.1.length:Int)+(e.2.2.2.2.2.2.2.2.2.length:Int))=(e.2.2.2.2.2.2.2.1.length:Int)+(e.2.2.2.2.2.2.2.2.1.length:Int)+(e.2.2.2.2.2.2.2.2.2.length:Int):=wrap64 (by omega);rw [w1,w2,hs,beq_iff_eq];constructor
    ·intro h8;exact ⟨t2 h1,t2 h2,h3,h4,h5,by omega,by omega,by omega⟩
    ·intro p;have:=p.2.2.2.2.2;omega
   ·exact (hs.1 p).2.2.2.2.1
   ·exact (hs.1 p).2.2.2.1
   ·exact (hs.1 p).2.2.1
   ·exact (hs.1 p).2.1
   ·exact (hs.1 p).1
  ·refine law_mono (range_l (P:=LensP e/\(Eq (α:=Int) e.2.1 3->e.2.2.1=true/\e.2.2.2.1=true)) λhr=>lens_l (reads14_l e) (writes14_l e) λo=>q_eq (λh1=>q_not (q_eq (λh2=>law_br (λh3=>law_ok ?_) λh3=>law_ok (f λp=>?_)) λh2=>law_ok (f' ⟨h1,λh=>absurd h h2⟩))) λh1=>law_ok (f λp=>h1 p.1)) λb hb=>hb.trans ?_
   ·exact ⟨λh=>⟨h1,λ_=>⟨h3,h⟩⟩,λh=>(h.2 h2).2⟩
   ·rw [(p.2 h2).1] at h3;cases h3
   ·rw [fields_iff h0];constructor
    ·rintro ⟨h1,h2,h3⟩;refine ⟨?_,h1,h2⟩
     have k3:∀ k:Int,k≠0->0<=k->k<=3->k=1\/k=2\/k=3:=λk a b c=>by omega
     have k3:=k3 e.2.1 h0 hk.1 hk.2;rcases k3 with k|k|k
     ·exact .inl k
     ·exact .inr (.inl k)
     ·exact .inr (.inr ⟨k,h3 k⟩)
    ·rintro ⟨h1,h2,h3⟩;refine ⟨h2,h3,λk=>?_⟩;have k:e.2.1=(3:Int):=k;rcases h1 with h|h|h
     ·have h:e.2.1=(1:Int):=h;rw [k] at h;cases h
     ·have h:e.2.1=(2:Int):=h;rw [k] at h;cases h
     ·exact h.2
end Go.Mach

set_option maxRecDepth 20000
namespace Go.Mach
open Res
def RdP(evs:List EvT)(n:Nat)(e:EvT)(i:Nat):Prop :=
 ∃ w:Int,e.2.2.2.2.2.2.2.2.2[i]?=some w/\(w=-1/\e.2.2.2.2.2.2.2.1[i]?=some (0:Int)\/(0<=w/\w < (n:Int))/\∃ x,evs[w.toNat]?=some x/\WritesP x/\CoverP x e.2.2.2.2.1 (HAdd.hAdd (α:=Int) e.2.2.2.2.2.1 (i:Int))/\x.2.2.2.2.2.2.2.2.1[(HSub.hSub (α:=Int) (HAdd.hAdd (α:=Int) e.2.2.2.2.2.1 (i:Int)) x.2.2.2.2.2.1).toNat]?=e.2.2.2.2.2.2.2.1[i]?)
theorem fld_rng{e:EvT}(h:FieldsP e):LE.le (α:=Int) 0 e.2.2.2.2.2.1/\LE.le (α:=Int) (e.2.2.2.2.2.1+e.2.2.2.2.2.2.1) 256/\LE.le (α:=Int) e.2.2.2.2.2.2.1 8:=by
 rcases h with h|h
 ·have h5:e.2.2.2.2.2.1=(0:Int):=h.2.2.2.2.1;have h6:e.2.2.2.2.2.2.1=(0:Int):=h.2.2.2.2.2.1;rw [h5,h6];decide
 ·exact ⟨h.2.2.2.1.1,h.2.2.2.1.2,h.2.2.1.2⟩
theorem rd_len{e:EvT}(h:FieldsP e){i:Nat}(hi:i < e.2.2.2.2.2.2.2.2.2.length):LT.lt (α:=Int) i e.2.2.2.2.2.2.1/\i < e.2.2.2.2.2.2.2.1.length:=by
 rcases h with h|h
 ·rw [h.2.2.2.2.2.2.2.2] at hi;cases hi
 ·by_cases hr:ReadsP e
  ·obtain ⟨h1,h2⟩:=h.2.2.2.2.1 hr;have h1:((e.2.2.2.2.2.2.2.1.length:Nat):Int)=e.2.2.2.2.2.2.1:=h1;have h2:((e.2.2.2.2.2.2.2.2.2.length:Nat):Int)=e.2.2.2.2.2.2.1:=h2;constructor
   ·show (i:Int) < e.2.2.2.2.2.2.1;rw [<- h2];omega
   ·have:((e.2.2.2.2.2.2.2.1.length:Nat):Int)=((e.2.2.2.2.2.2.2.2.2.length:Nat):Int):=h1.trans h2.symm;omega
  ·rw [(h.2.2.2.2.2.1 hr).2] at hi;cases hi
theorem wr_len{e:EvT}(h:FieldsP e)(hw:WritesP e):Eq (α:=Int) (e.2.2.2.2.2.2.2.2.1.length:Int) e.2.2.2.2.2.2.1:=by
 rcases h with h|h
 ·have h0:e.2.1=(0:Int):=h.1;rcases hw with h1|h1
  ·have h1:e.2.1=(2:Int):=h1;rw [h0] at h1;cases h1
  ·have h1:e.2.1=(3:Int):=h1;rw [h0] at h1;cases h1
 ·exact h.2.2.2.2.2.2.1 hw
section
variable {l:LogT}{n:Nat}{e:EvT}
theorem rd_not{evs:List EvT}{i:Nat}{w:Int}(hw:e.2.2.2.2.2.2.2.2.2[i]?=some w)(h:w≠-1)(hn:¬ ((0<=w/\w < (n:Int))/\∃ x,evs[w.toNat]?=some x/\WritesP x/\CoverP x e.2.2.2.2.1 (HAdd.hAdd (α:=Int) e.2.2.2.2.2.1 (i:Int))/\x.2.2.2.2.2.2.2.2.1[(HSub.hSub (α:=Int) (HAdd.hAdd (α:=Int) e.2.2.2.2.2.1 (i:Int)) x.2.2.2.2.2.1).toNat]?=e.2.2.2.2.2.2.2.1[i]?)):¬ RdP evs n e i:=by
 rintro ⟨w',h1,h2⟩;rw [hw] at h1;cases h1;rcases h2 with h2|h2
 ·exact h h2.1
 ·exact hn h2
theorem rd_no1{evs:List EvT}{i:Nat}{w:Int}(hw:e.2.2.2.2.2.2.2.2.2[i]?=some w)(h:w=-1){r:Int}(hr:e.2.2.2.2.2.2.2.1[i]?=some r)(hn:r≠0):¬ RdP evs n e i:=by
 rintro ⟨w',h1,h2⟩;rw [hw] at h1;cases h1;rcases h2 with h2|h2
 ·rw [hr] at h2;exact hn (Option.some.inj h2.2)
 ·omega
theorem at_w6(hF:FieldsP e){i:Nat}(hi:i < e.2.2.2.2.2.2.2.2.2.length):w6 (HAdd.hAdd (α:=Int) (β:=Int) e.2.2.2.2.2.1 (i:Int))=HAdd.hAdd (α:=Int) (β:=Int) e.2.2.2.2.2.1 (i:Int):=by
 obtain ⟨h1,h2,h3⟩:=fld_rng hF;have h4:=(rd_len hF hi).1;have k:∀ a s j:Int,0<=a->a+s<=256->s<=8->j < s->0<=j->w6 (a+j)=a+j:=λa s j h1 h2 h3 h4 h5=>wrap64 (by omega);exact k _ _ _ h1 h2 h3 h4 (by omega)
theorem sub_w6{x:EvT}(hF:FieldsP e){i:Nat}(hi:i < e.2.2.2.2.2.2.2.2.2.length)(hx:FieldsP x){b:Int}(hc:CoverP x b (HAdd.hAdd (α:=Int) e.2.2.2.2.2.1 (i:Int)))(hw:WritesP x) :
  w6 (HSub.hSub (α:=Int) (β:=Int) (HAdd.hAdd (α:=Int) (β:=Int) e.2.2.2.2.2.1 (i:Int)) x.2.2.2.2.2.1)=HSub.hSub (α:=Int) (HAdd.hAdd (α:=Int) e.2.2.2.2.2.1 (i:Int)) x.2.2.2.2.2.1/\0<=HSub.hSub (α:=Int) (HAdd.hAdd (α:=Int) e.2.2.2.2.2.1 (i:Int)) x.2.2.2.2.2.1/\(HSub.hSub (α:=Int) (HAdd.hAdd (α:=Int) e.2.2.2.2.2.1 (i:Int)) x.2.2.2.2.2.1).toNat < x.2.2.2.2.2.2.2.2.1.length:=by
 obtain ⟨h1,h2,h3⟩:=fld_rng hF;obtain ⟨g1,g2,g3⟩:=fld_rng hx;have h4:=(rd_len hF hi).1;have h5:=wr_len hx hw;have k:∀ (a s j xa xs:Int) (L:Nat),0<=a->a+s<=256->s<=8->j < s->0<=j->0<=xa->xa+xs<=256->xs<=8->(L:Int)=xs->xa<=a+j->a+j-xa < xs->w6 (a+j-xa)=a+j-xa/\0<=a+j-xa/\(a+j-xa).toNat < L:=λa s j xa xs L h1 h2 h3 h4 h5 h6 h7 h8 h9 h10 h11=>⟨wrap64 (by omega),by omega,by omega⟩;exact k _ _ _ _ _ _ h1 h2 h3 h4 (by omega) g1 g2 g3 h5 hc.2.2.1 hc.2.2.2
def ReadP(evs:List EvT)(n:Nat)(e:EvT):Prop:=∀ i < e.2.2.2.2.2.2.2.2.2.length,RdP evs n e i
theorem reads_loop_l(hn:l.1[n]?=some e)(hF:∀ m,m<=n->∀ x,l.1[m]?=some x->FieldsP x):(R.event_reads l n).sat λb=>b=true ↔ ReadP l.1 n e:=by
 have he:=hF n (Nat.le_refl n) e hn;have hlt:=(List.getElem?_eq_some_iff.1 hn).1;unfold R.event_reads;refine law_given λ_=>law_idxS (Int.natCast_nonneg n) (by show ((n:Int)).toNat < _;simpa using hlt) λe1 h1 hok=>?_
 have h1:l.1[n]?=some e1:=by simpa using h1
 rw [hn] at h1;cases h1
 have hsz:e.2.2.2.2.2.2.2.2.2.length<=8:=by
  rcases Nat.eq_zero_or_pos e.2.2.2.2.2.2.2.2.2.length with h|h
  ·omega
  ·have h1:=(rd_len he (i:=e.2.2.2.2.2.2.2.2.2.length-1) (by omega)).1;have h2:=(fld_rng he).2.2
   have k:∀ (L:Nat) (s:Int),0 < L->((L-1:Nat):Int) < s->s<=8->L<=8:=λL s a b c=>by omega
   exact k _ _ h h1 h2
 refine all_loop (k:=λ_=>ok true) e.2.2.2.2.2.2.2.2.2.length (by omega) (RdP l.1 n e) (λi hi _=>?_) (law_f (by rw [ilt_false];exact Int.le_refl _) (law_ok rfl)) (λh=>law_ok ⟨λ_=>h,λ_=>rfl⟩) λh=>⟨λe=>(by cases e),λg=>absurd g h⟩;have hrl:=(rd_len he hi).2;refine law_t (by rw [ilt_true];omega) (law_idx (Int.natCast_nonneg i) (by show ((i:Int)).toNat < _;simpa using hi) λ(w:Int) hw _=>?_)
 have hw:e.2.2.2.2.2.2.2.2.2[i]?=some w:=by simpa using hw
 have idxR:∀ {β:Type}{k:Int->Res β}{Q:β->Prop},(∀ r,e.2.2.2.2.2.2.2.1[i]?=some r->(k r).sat Q)->(idx (.int .u8) e.2.2.2.2.2.2.2.1 (i:Int) k).sat Q:=λh=>law_idx (Int.natCast_nonneg i) (by show ((i:Int)).toNat < _;simpa using hrl) λr hr _=>h r (by simpa using hr);refine q_eq (λh=>idxR λr hr=>q_not (q_eq (λh0=>law_ok (.inl ⟨rfl,w,hw,.inl ⟨h,by rw [hr,h0]⟩⟩)) λh0=>law_ok (.inr ⟨rfl,rd_no1 hw h hr h0⟩))) λh=>?_;refine law_bind' (R:=λb=>b=true ↔ ¬ (0<=w/\w < (n:Int))) (q_lt (λg=>law_ok ⟨λ_ p=>Int.not_le.2 g p.1,λ_=>rfl⟩) λg=>law_ok ?_) λb hb=>law_br (λt=>law_ok (.inr ⟨rfl,rd_not hw h λp=>hb.1 t p.1⟩)) λt=>?_
 ·rw [ile_true];constructor
  ·exact λa b=>Int.not_le.2 b.2 a
  ·exact λa=>Int.not_lt.1 λc=>a ⟨g,c⟩
 ·have hr:0<=w/\w < (n:Int):=Classical.byContradiction λn=>by rw [hb.2 n] at t;cases t
  refine law_idxS hr.1 (by show w.toNat < _;omega) λx hx _=>?_;have hx:l.1[w.toNat]?=some x:=hx;have hFx:=hF w.toNat (by omega) x hx;have hno:∀ {p:Prop},¬ p->(RdP l.1 n e i->p)->(true=true ↔ ¬ RdP l.1 n e i):=λa b=>⟨λ_ c=>a (b c),λ_=>rfl⟩;have hin:∀ {p:Prop},((0<=w/\w < (n:Int))/\(∃ x,l.1[w.toNat]?=some x/\WritesP x/\CoverP x e.2.2.2.2.1 (HAdd.hAdd (α:=Int) e.2.2.2.2.2.1 (i:Int))/\x.2.2.2.2.2.2.2.2.1[(HSub.hSub (α:=Int) (HAdd.hAdd (α:=Int) e.2.2.2.2.2.1 (i:Int)) x.2.2.2.2.2.1).toNat]?=e.2.2.2.2.2.2.2.1[i]?)->p)->RdP l.1 n e i->p:=λf g=>Classical.byContradiction λc=>rd_not hw h (λq=>c (f q)) g;refine all_br (law_bind' (writes_l x) λr7 h7=>q_not (law_br (λt7=>law_bind' (covers_l _ _ _) λr8 h8=>q_not (law_br (λt8=>?_) λt8=>law_ok (hno (λc=>?_) (hin λ⟨_,x',hx',p⟩=>by rw [hx] at hx';cases hx';exact p.2.1)))) λt7=>law_ok (hno (λc=>?_) (hin λ⟨_,x',hx',p⟩=>by rw [hx] at hx';cases hx';exact p.1))))
  ·have c7:=h7.1 t7;have c8:=h8.1 t8;rw [at_w6 he hi] at c8 ⊢;obtain ⟨k1,k2,k3⟩:=sub_w6 he hi hFx c8 c7;rw [k1];refine law_idx k2 k3 λe9 h9 _=>idxR λe10 h10=>law_ok ?_;rw [Bool.not_eq_true',beq_eq_false_iff_ne];constructor
   ·rintro hne ⟨w',hw',hh⟩;rw [hw] at hw';cases hw';rcases hh with hh|⟨_,x',hx',p⟩
    ·exact h hh.1
    ·rw [hx] at hx';cases hx';rw [h9,h10] at p;exact hne (Option.some.inj p.2.2)
   ·rintro hn9 rfl;exact hn9 ⟨w,hw,.inr ⟨hr,x,hx,c7,c8,by rw [h9,h10]⟩⟩
  ·rw [at_w6 he hi] at h8;rw [h8.2 c] at t8;cases t8
  ·rw [h7.2 c] at t7;cases t7
end
end Go.Mach

set_option maxRecDepth 20000
namespace Go.Mach
open Res
section
variable {l:LogT}{n:Nat}{e:EvT}
theorem wrote_l{x:EvT}{a:Int}(h0:0<=HSub.hSub (α:=Int) (β:=Int) a x.2.2.2.2.2.1)(hw:w6 (HSub.hSub (α:=Int) (β:=Int) a x.2.2.2.2.2.1)=HSub.hSub (α:=Int) (β:=Int) a x.2.2.2.2.2.1)(hl:(HSub.hSub (α:=Int) (β:=Int) (γ:=Int) a x.2.2.2.2.2.1).toNat < x.2.2.2.2.2.2.2.2.1.length) :
  (R.renref14_wrote x a).sat λr=>x.2.2.2.2.2.2.2.2.1[(HSub.hSub (α:=Int) (β:=Int) (γ:=Int) a x.2.2.2.2.2.1).toNat]?=some r:=by
 unfold R.renref14_wrote;rw [hw];exact law_given λ_=>law_idxS h0 hl λr hr _=>law_ok hr
theorem read14_l(hn:l.1[n]?=some e)(hF:∀ m,m<=n->∀ x,l.1[m]?=some x->FieldsP x):(R.renref14_read l.1 n).sat λb=>b=true ↔ ReadP l.1 n e:=by
 have he:=hF n (Nat.le_refl n) e hn;have hlt:=(List.getElem?_eq_some_iff.1 hn).1;unfold R.renref14_read;refine law_given λ_=>law_idxS (Int.natCast_nonneg n) (by show ((n:Int)).toNat < _;simpa using hlt) λe1 h1 hok=>?_
 have h1:l.1[n]?=some e1:=by simpa using h1
 rw [hn] at h1;cases h1
 have hsz:e.2.2.2.2.2.2.2.2.2.length<=8:=by
  rcases Nat.eq_zero_or_pos e.2.2.2.2.2.2.2.2.2.length with h|h
  ·omega
  ·have h1:=(rd_len he (i:=e.2.2.2.2.2.2.2.2.2.length-1) (by omega)).1;have h2:=(fld_rng he).2.2
   have k:∀ (L:Nat) (s:Int),0 < L->((L-1:Nat):Int) < s->s<=8->L<=8:=λL s a b c=>by omega
   exact k _ _ h h1 h2
 refine all_loop (k:=λ_=>ok true) e.2.2.2.2.2.2.2.2.2.length (by omega) (RdP l.1 n e) (λi hi _=>?_) (law_f (by rw [ilt_false];exact Int.le_refl _) (law_ok rfl)) (λh=>law_ok ⟨λ_=>h,λ_=>rfl⟩) λh=>⟨λe=>(by cases e),λg=>absurd g h⟩;have hrl:=(rd_len he hi).2;refine law_t (by rw [ilt_true];omega) (law_idx (Int.natCast_nonneg i) (by show ((i:Int)).toNat < _;simpa using hi) λ(w:Int) hw _=>?_)
 have hw:e.2.2.2.2.2.2.2.2.2[i]?=some w:=by simpa using hw
 have idxR:∀ {β:Type}{k:Int->Res β}{Q:β->Prop},(∀ r,e.2.2.2.2.2.2.2.1[i]?=some r->(k r).sat Q)->(idx (.int .u8) e.2.2.2.2.2.2.2.1 (i:Int) k).sat Q:=λh=>law_idx (Int.natCast_nonneg i) (by show ((i:Int)).toNat < _;simpa using hrl) λr hr _=>h r (by simpa using hr);refine q_eq (λh=>idxR λr hr=>q_not (q_eq (λh0=>law_ok (.inl ⟨rfl,w,hw,.inl ⟨h,by rw [hr,h0]⟩⟩)) λh0=>law_ok (.inr ⟨rfl,rd_no1 hw h hr h0⟩))) λh=>?_;have hno:∀ {p:Prop},¬ p->(RdP l.1 n e i->p)->(true=true ↔ ¬ RdP l.1 n e i):=λa b=>⟨λ_ c=>a (b c),λ_=>rfl⟩;have hin:∀ {p:Prop},((0<=w/\w < (n:Int))/\(∃ x,l.1[w.toNat]?=some x/\WritesP x/\CoverP x e.2.2.2.2.1 (HAdd.hAdd (α:=Int) e.2.2.2.2.2.1 (i:Int))/\x.2.2.2.2.2.2.2.2.1[(HSub.hSub (α:=Int) (HAdd.hAdd (α:=Int) e.2.2.2.2.2.1 (i:Int)) x.2.2.2.2.2.1).toNat]?=e.2.2.2.2.2.2.2.1[i]?)->p)->RdP l.1 n e i->p:=λf g=>Classical.byContradiction λc=>rd_not hw h (λq=>c (f q)) g;refine all_br (q_lt (λg=>law_ok (hno (p:=0<=w) (Int.not_le.2 g) (hin λq=>q.1.1))) λg=>q_le (λg2=>law_ok (hno (p:=w < (n:Int)) (Int.not_lt.2 g2) (hin λq=>q.1.2))) λg2=>?_);have hr:0<=w/\w < (n:Int):=⟨g,g2⟩
 have hl:w.toNat < l.1.length:=by omega
 refine law_idxS hr.1 hl λx hx _=>?_;have hx:l.1[w.toNat]?=some x:=hx;have hFx:=hF w.toNat (by omega) x hx;refine law_bind' (writes14_l x) λr7 h7=>q_not (law_br (λt7=>law_idxS hr.1 hl λx2 hx2 _=>?_) λt7=>law_ok (hno (λc=>?_) (hin λ⟨_,x',hx',p⟩=>by rw [hx] at hx';cases hx';exact p.1)))
 ·have hx2:l.1[w.toNat]?=some x2:=hx2;rw [hx] at hx2;cases hx2;refine law_bind' (covers14_l _ _ _) λr8 h8=>q_not (law_br (λt8=>law_idxS hr.1 hl λx2 hx2 _=>?_) λt8=>law_ok (hno (λc=>?_) (hin λ⟨_,x',hx',p⟩=>by rw [hx] at hx';cases hx';exact p.2.1)))
  ·have hx2:l.1[w.toNat]?=some x2:=hx2;rw [hx] at hx2;cases hx2;have c7:=h7.1 t7;have c8:=h8.1 t8;rw [at_w6 he hi] at c8 ⊢;obtain ⟨k1,k2,k3⟩:=sub_w6 he hi hFx c8 c7;refine law_bind' (wrote_l k2 k1 k3) λe9 h9=>law_given λ_=>idxR λe10 h10=>law_ok ?_;rw [Bool.not_eq_true',beq_eq_false_iff_ne];constructor
   ·rintro hne ⟨w',hw',hh⟩;rw [hw] at hw';cases hw';rcases hh with hh|⟨_,x',hx',p⟩
    ·exact h hh.1
    ·rw [hx] at hx';cases hx';rw [h9,h10] at p;exact hne (Option.some.inj p.2.2)
   ·rintro hn9 rfl;exact hn9 ⟨w,hw,.inr ⟨hr,x,hx,c7,c8,by rw [h9,h10]⟩⟩
  ·rw [at_w6 he hi] at h8;rw [h8.2 c] at t8;cases t8
 ·rw [h7.2 c] at t7;cases t7
end
def EvP(evs:List EvT)(n:Nat):Prop:=∃ e,evs[n]?=some e/\(LE.le (α:=Int) 0 e.1/\LT.lt (α:=Int) e.1 64)/\FieldsP e/\ReadP evs n e
def PairP(l:LogT)(i:Nat):Prop:=∃ p:T_api_Num.den,l.2[i]?=some p/\LE.le (α:=Int) 0 p.1/\LT.lt (α:=Int) p.1 p.2/\LT.lt (α:=Int) p.2 (l.1.length:Int)
def MayP(l:LogT):Prop:=(l.1.length<=1000/\l.2.length<=1000)/\(∀ n < l.1.length,EvP l.1 n)/\∀ i < l.2.length,PairP l i
section
variable {l:LogT}
theorem ev_fld{i:Nat}(hI:∀ k < i,EvP l.1 k){e:EvT}(he:l.1[i]?=some e)(hF:FieldsP e):∀ m,m<=i->∀ x,l.1[m]?=some x->FieldsP x:=by
 intro m hm x hx;rcases Nat.lt_or_ge m i with h|h
 ·obtain ⟨e',h1,_,h2,_⟩:=hI m h;rw [hx] at h1;cases h1;exact h2
 ·obtain rfl:m=i:=by omega
  rw [he] at hx;cases hx;exact hF
theorem ev_no{i:Nat}{e:EvT}(he:l.1[i]?=some e){p:Prop}(hn:¬ p)(h:(LE.le (α:=Int) 0 e.1/\LT.lt (α:=Int) e.1 64)/\FieldsP e/\ReadP l.1 i e->p):true=true ↔ ¬ EvP l.1 i:=by
 refine ⟨λ_ ⟨e',h1,h2⟩=>?_,λ_=>rfl⟩;rw [he] at h1;cases h1;exact hn (h h2)
theorem pair_no{i:Nat}{e:T_api_Num.den}(he:l.2[i]?=some e){p:Prop}(hn:¬ p)(h:LE.le (α:=Int) 0 e.1/\LT.lt (α:=Int) e.1 e.2/\LT.lt (α:=Int) e.2 (l.1.length:Int)->p):true=true ↔ ¬ PairP l i:=by
 refine ⟨λ_ ⟨e',h1,h2⟩=>?_,λ_=>rfl⟩;rw [he] at h1;cases h1;exact hn (h h2)
theorem not_not_b{b:Bool}{P:Prop}(h:b=true ↔ P):(!b)=true ↔ ¬ P:=by
 rw [Bool.not_eq_true',<- h]
 cases b<;>simp
theorem f_of{b:Bool}{P:Prop}(h:b=true ↔ P)(t:b=false):¬ P:=λp=>by rw [h.2 p] at t;cases t
theorem may_l(l:LogT):(R.event_May l).sat λb=>b=true ↔ MayP l:=by
 unfold R.event_May;have f:∀ {A:Prop},¬ A->(false=true ↔ A):=λh=>⟨λe=>(by cases e),λa=>absurd a h⟩;refine law_given λ_=>law_bind' (R:=λb=>b=true ↔ ¬ (l.1.length<=1000/\l.2.length<=1000)) (q_lt (λh=>law_ok ⟨λ_ p=>by omega,λ_=>rfl⟩) λh=>law_ok (by rw [ilt_true];omega)) λb hb=>law_br (λt=>law_ok (f λp=>hb.1 t p.1)) λt=>?_;have hl:l.1.length<=1000/\l.2.length<=1000:=Classical.byContradiction λn=>f_of hb t n;refine all_loop l.1.length (by omega) (EvP l.1) (λi hi hI=>?_) (law_f (by rw [ilt_false];exact Int.le_refl _) (law_ok rfl)) (λhA=>?_) λh=>f λp=>h p.2.1
 ·refine law_t (by rw [ilt_true];omega) (law_idxS (Int.natCast_nonneg i) (by show ((i:Int)).toNat < _;simpa using hi) λe he _=>?_)
  have he:l.1[i]?=some e:=by simpa using he
  refine all_br (q_lt (λh1=>law_ok (ev_no he (Int.not_le.2 h1) λp=>p.1.1)) λh1=>q_le (λh2=>law_ok (ev_no he (Int.not_lt.2 h2) λp=>p.1.2)) λh2=>law_bind' (fields_l e) λr4 h4=>q_not (law_br (λt4=>law_bind' (reads_loop_l he (ev_fld hI he (h4.1 t4))) λr5 h5=>law_ok ((not_not_b h5).trans (not_congr ⟨λp=>⟨e,he,⟨h1,h2⟩,h4.1 t4,p⟩,?_⟩))) λt4=>law_ok (ev_no he (f_of h4 t4) λp=>p.2.1)));rintro ⟨e',h6,_,_,h7⟩;rw [he] at h6;cases h6;exact h7
 ·refine all_loop (k:=λ_=>ok true) l.2.length (by omega) (PairP l) (λi hi hI=>?_) (law_f (by rw [ilt_false];exact Int.le_refl _) (law_ok rfl)) (λhB=>law_ok ⟨λ_=>⟨hl,hA,hB⟩,λ_=>rfl⟩) λh=>f λp=>h p.2.2;refine law_t (by rw [ilt_true];omega) (law_idxS (Int.natCast_nonneg i) (by show ((i:Int)).toNat < _;simpa using hi) λe he _=>?_)
  have he:l.2[i]?=some e:=by simpa using he
  refine all_br (q_lt (λh1=>law_ok (pair_no he (Int.not_le.2 h1) λp=>p.1)) λh1=>q_le (λh2=>law_ok (pair_no he (Int.not_lt.2 h2) λp=>p.2.1)) λh2=>law_ok ?_);rw [ile_true];constructor
  ·rintro h3 ⟨e',h6,_,_,h7⟩;rw [he] at h6;cases h6;exact Int.not_lt.2 h3 h7
  ·exact λh3=>Int.not_lt.1 λh4=>h3 ⟨e,he,h1,h2,h4⟩
theorem may14_l(l:LogT):(R.renref14_May l).sat λb=>b=true ↔ MayP l:=by
 unfold R.renref14_May;have f:∀ {A:Prop},¬ A->(false=true ↔ A):=λh=>⟨λe=>(by cases e),λa=>absurd a h⟩;refine law_given λ_=>law_bind' (R:=λb=>b=true ↔ ¬ (l.1.length<=1000/\l.2.length<=1000)) (q_lt (λh=>law_ok ⟨λ_ p=>by omega,λ_=>rfl⟩) λh=>law_ok (by rw [ilt_true];omega)) λb hb=>law_br (λt=>law_ok (f λp=>hb.1 t p.1)) λt=>?_;have hl:l.1.length<=1000/\l.2.length<=1000:=Classical.byContradiction λn=>f_of hb t n;refine all_loop l.1.length (by omega) (EvP l.1) (λi hi hI=>?_) (law_f (by rw [ilt_false];exact Int.le_refl _) (law_ok rfl)) (λhA=>?_) λh=>f λp=>h p.2.1
 ·refine law_t (by rw [ilt_true];omega) (all_br (law_idxS (Int.natCast_nonneg i) (by show ((i:Int)).toNat < _;simpa using hi) λe he _=>?_))
  have he:l.1[i]?=some e:=by simpa using he
  refine law_bind' (shape_l e) λr4 h4=>q_not (law_br (λt4=>law_bind' (read14_l he (ev_fld hI he (h4.1 t4).2)) λr5 h5=>law_ok ((not_not_b h5).trans (not_congr ⟨λp=>⟨e,he,(h4.1 t4).1,(h4.1 t4).2,p⟩,?_⟩))) λt4=>law_ok (ev_no he (f_of h4 t4) λp=>⟨p.1,p.2.1⟩));rintro ⟨e',h6,_,_,h7⟩;rw [he] at h6;cases h6;exact h7
 ·refine all_loop (k:=λ_=>ok true) l.2.length (by omega) (PairP l) (λi hi hI=>?_) (law_f (by rw [ilt_false];exact Int.le_refl _) (law_ok rfl)) (λhB=>law_ok ⟨λ_=>⟨hl,hA,hB⟩,λ_=>rfl⟩) λh=>f λp=>h p.2.2;refine law_t (by rw [ilt_true];omega) (law_idxS (Int.natCast_nonneg i) (by show ((i:Int)).toNat < _;simpa using hi) λe he _=>?_)
  have he:l.2[i]?=some e:=by simpa using he
  refine all_br (q_lt (λh1=>law_ok (pair_no he (Int.not_le.2 h1) λp=>p.1)) λh1=>q_le (λh2=>law_ok (pair_no he (Int.not_lt.2 h2) λp=>p.2.2)) λh2=>law_ok ?_);rw [ile_true];constructor
  ·rintro h3 ⟨e',h6,_,h7,_⟩;rw [he] at h6;cases h6;exact Int.not_lt.2 h3 h7
  ·exact λh3=>Int.not_lt.1 λh4=>h3 ⟨e,he,h1,h4,h2⟩
def rngE(b a s:Int):EvT:=(0,(1,(false,(false,(b,(a,(s,(([]:List Int),(([]:List Int),([]:List Int))))))))))
def FreeP(l:LogT)(b a s:Int)(n:Nat):Prop:=∃ e,l.1[n]?=some e/\¬ (OverP e (rngE b a s)/\¬ (e.2.2.1=true/\EqualP e (rngE b a s)))
def CleanP(l:LogT)(b a s:Int):Prop:=(MayP l/\(s=1\/s=2\/s=4\/s=8))/\∀ n < l.1.length,FreeP l b a s n
theorem free_l{m:Res Bool}{m':Res Bool}{b a s:Int}{i:Nat}{e:EvT}(he:l.1[i]?=some e)(hm:m.sat λr=>r=true ↔ OverP e (rngE b a s))(hm':m'.sat λr=>r=true ↔ EqualP e (rngE b a s)) :
  (bd m λr6=>br r6 (br (!e.2.2.1) (ok true) (bd m' λr7=>ok ((!r7)))) (ok false)).sat λb'=>b'=true ↔ ¬ FreeP l b a s i:=by
 have k:FreeP l b a s i ↔ ¬ (OverP e (rngE b a s)/\¬ (e.2.2.1=true/\EqualP e (rngE b a s))):=by
  constructor
  ·rintro ⟨e',h1,h2⟩;rw [he] at h1;cases h1;exact h2
  ·exact λh=>⟨e,he,h⟩
 refine law_bind' hm λr6 h6=>law_br (λt6=>q_not (law_br (λt=>law_bind' hm' λr7 h7=>law_ok ?_) λt=>law_ok ?_)) λt6=>law_ok ?_
 ·rw [k,not_not_b h7,Classical.not_not];exact ⟨λh=>⟨h6.1 t6,λp=>h p.2⟩,λh p=>h.2 ⟨t,p⟩⟩
 ·rw [k,Classical.not_not];exact ⟨λ_=>⟨h6.1 t6,λp=>by rw [t] at p;cases p.1⟩,λ_=>rfl⟩
 ·rw [k,Classical.not_not];exact ⟨λe=>(by cases e),λp=>absurd p.1 (f_of h6 t6)⟩
theorem kind_l(s:Int):(R.cell_kind s).sat λk=>k=0 ↔ ¬ (s=1\/s=2\/s=4\/s=8):=by
 unfold R.cell_kind;exact law_given λ_=>q_eq (λh=>law_ok (by simp [h])) λh1=>q_eq (λh=>law_ok (by simp [h])) λh2=>q_eq (λh=>law_ok (by simp [h])) λh3=>q_eq (λh=>law_ok (by simp [h])) λh4=>law_ok (by simp [h1,h2,h3,h4])
theorem good_l(s:Int):(R.renref18_Good s).sat λb=>b=true ↔ (s=1\/s=2\/s=4\/s=8):=by
 unfold R.renref18_Good;exact law_given λ_=>q_eq (λh=>law_ok (by simp [h])) λh1=>q_eq (λh=>law_ok (by simp [h])) λh2=>q_eq (λh=>law_ok (by simp [h])) λh3=>law_ok (by simp [h1,h2,h3])
theorem clean_l(l:LogT)(b a s:Int):(R.cell_Clean l b a s).sat λr=>r=true ↔ CleanP l b a s:=by
 unfold R.cell_Clean;have f:∀ {A:Prop},¬ A->(false=true ↔ A):=λh=>⟨λe=>(by cases e),λa=>absurd a h⟩;refine law_given λ_=>law_bind' (R:=λr=>r=true ↔ ¬ (MayP l/\(s=1\/s=2\/s=4\/s=8))) (law_bind' (may_l l) λr1 h1=>q_not (law_br (λt=>law_bind' (kind_l s) λk hk=>law_given λ_=>law_ok ?_) λt=>law_ok ⟨λ_ p=>f_of h1 t p.1,λ_=>rfl⟩)) λr3 h3=>law_br (λt=>law_ok (f λp=>h3.1 t p.1)) λt=>?_
 ·rw [beq_iff_eq,hk];exact not_congr ⟨λp=>⟨h1.1 t,p⟩,λp=>p.2⟩
 ·have hM:MayP l/\(s=1\/s=2\/s=4\/s=8):=Classical.byContradiction λn=>f_of h3 t n;refine all_loop (k:=λ_=>ok true) l.1.length (by have:=hM.1.1.1;omega) (FreeP l b a s) (λi hi hI=>?_) (law_f (by rw [ilt_false];exact Int.le_refl _) (law_ok rfl)) (λhB=>law_ok ⟨λ_=>⟨hM,hB⟩,λ_=>rfl⟩) λh=>f λp=>h p.2;refine law_t (by rw [ilt_true];omega) (law_idxS (Int.natCast_nonneg i) (by show ((i:Int)).toNat < _;simpa using hi) λe he _=>?_)
  have he:l.1[i]?=some e:=by simpa using he
  exact all_br (free_l he (over_l _ _) (equal_l _ _))
theorem clean18_l(l:LogT)(b a s:Int):(R.renref18_Clean l b a s).sat λr=>r=true ↔ CleanP l b a s:=by
 unfold R.renref18_Clean;have f:∀ {A:Prop},¬ A->(false=true ↔ A):=λh=>⟨λe=>(by cases e),λa=>absurd a h⟩;refine law_given λ_=>law_bind' (R:=λr=>r=true ↔ ¬ (MayP l/\(s=1\/s=2\/s=4\/s=8))) (law_bind' (may14_l l) λr1 h1=>q_not (law_br (λt=>law_bind' (good_l s) λk hk=>law_ok ?_) λt=>law_ok ⟨λ_ p=>f_of h1 t p.1,λ_=>rfl⟩)) λr3 h3=>law_br (λt=>law_ok (f λp=>h3.1 t p.1)) λt=>?_
 ·rw [not_not_b hk];exact not_congr ⟨λp=>⟨h1.1 t,p⟩,λp=>p.2⟩
 ·have hM:MayP l/\(s=1\/s=2\/s=4\/s=8):=Classical.byContradiction λn=>f_of h3 t n;refine all_loop (k:=λ_=>ok true) l.1.length (by have:=hM.1.1.1;omega) (FreeP l b a s) (λi hi hI=>?_) (law_f (by rw [ilt_false];exact Int.le_refl _) (law_ok rfl)) (λhB=>law_ok ⟨λ_=>⟨hM,hB⟩,λ_=>rfl⟩) λh=>f λp=>h p.2;refine law_t (by rw [ilt_true];omega) (law_idxS (Int.natCast_nonneg i) (by show ((i:Int)).toNat < _;simpa using hi) λe he _=>?_)
  have he:l.1[i]?=some e:=by simpa using he
  exact all_br (free_l he (over14_l _ _) (equal14_l _ _))
end
end Go.Mach

set_option maxRecDepth 20000
namespace Go.Mach
open Res
abbrev P3:=Int×(Int×Int)
def lt3(p q:P3):Prop:=p.1 < q.1\/p.1=q.1/\(p.2.1 < q.2.1\/p.2.1=q.2.1/\p.2.2 < q.2.2)
theorem lt3_irr{p:P3}:¬ lt3 p p:=by unfold lt3;omega
theorem lt3_tr{p q r:P3}(h:lt3 p q)(h2:lt3 q r):lt3 p r:=by unfold lt3 at *;omega
theorem lt3_tot{p q:P3}(h:¬ lt3 p q)(hn:p≠q):lt3 q p:=by
 have:¬ (p.1=q.1/\p.2.1=q.2.1/\p.2.2=q.2.2):=λ⟨a,b,c⟩=>hn (Prod.ext a (Prod.ext b c));unfold lt3 at *;omega
theorem le3_row{p q:P3}:le3 (row3 p) (row3 q)=true ↔ lt3 p q\/p=q:=by
 have h:p=q ↔ (p.1=q.1/\p.2.1=q.2.1/\p.2.2=q.2.2):=⟨λh=>by subst h;exact ⟨rfl,rfl,rfl⟩,λ⟨a,b,c⟩=>Prod.ext a (Prod.ext b c)⟩;rw [h];have e:le3 [] []=true:=rfl;rw [row3,row3,le3,le3,le3,e];simp only [and_true,Bool.and_true,Bool.or_eq_true,Bool.and_eq_true,decide_eq_true_eq,beq_iff_eq,lt3]
 constructor<;>intro h<;>omega
theorem mem_ins3{x y:P3}:∀ {l:List P3},y∈ins3 x l ↔ y=x\/y∈l
 |[]=>by simp [ins3]
 |z::l=>by
  unfold ins3;split
  ·simp
  ·rw [List.mem_cons,mem_ins3,List.mem_cons];constructor
   ·rintro (h|h|h)<;>simp [h]
   ·rintro (h|h|h)<;>simp [h]
theorem ins3_sorted{x:P3}:∀ {l:List P3},l.Pairwise lt3->x ∉ l->(ins3 x l).Pairwise lt3
 |[],_,_=>by simp [ins3]
 |z::l,h,hx=>by
  obtain ⟨h1,h2⟩:=List.pairwise_cons.1 h;unfold ins3;split
  ·rename_i hc;have hl:lt3 x z:=(le3_row.1 hc).resolve_right λe=>hx (by simp [e]);refine List.pairwise_cons.2 ⟨λy hy=>?_,h⟩;rcases List.mem_cons.1 hy with rfl|hy
   ·exact hl
   ·exact lt3_tr hl (h1 y hy)
  ·rename_i hc;have hl:lt3 z x:=lt3_tot (λg=>by rw [le3_row.2 (.inl g)] at hc;cases hc) λe=>hx (by simp [e]);refine List.pairwise_cons.2 ⟨λy hy=>?_,ins3_sorted h2 λg=>hx (by simp [g])⟩;rcases mem_ins3.1 hy with rfl|hy
   ·exact hl
   ·exact h1 y hy
theorem mem_sort3{y:P3}:∀ {l:List P3},y∈sort3 l ↔ y∈l
 |[]=>Iff.rfl
 |x::l=>by rw [sort3,mem_ins3,mem_sort3,List.mem_cons]
theorem sort3_sorted:∀ {l:List P3},l.Nodup->(sort3 l).Pairwise lt3
 |[],_=>List.Pairwise.nil
 |x::l,h=>by
  obtain ⟨h1,h2⟩:=List.nodup_cons.1 h;exact ins3_sorted (sort3_sorted h2) λg=>h1 (mem_sort3.1 g)
theorem sorted_ext:∀ {l m:List P3},l.Pairwise lt3->m.Pairwise lt3->(∀ x,x∈l ↔ x∈m)->l=m
 |[],[],_,_,_=>rfl
 |[],b::m,_,_,h=>by have:=(h b).2 (by simp);cases this
 |a::l,[],_,_,h=>by have:=(h a).1 (by simp);cases this
 |a::l,b::m,h1,h2,h=>by
  obtain ⟨p1,p2⟩:=List.pairwise_cons.1 h1;obtain ⟨q1,q2⟩:=List.pairwise_cons.1 h2
  have hab:a=b:=by
   rcases List.mem_cons.1 ((h a).1 (by simp)) with e|e
   ·exact e
   ·rcases List.mem_cons.1 ((h b).2 (by simp)) with e'|e'
    ·exact e'.symm
    ·exact absurd (lt3_tr (q1 a e) (p1 b e')) lt3_irr
  subst hab;refine congrArg _ (sorted_ext p2 q2 λx=>?_);constructor
  ·intro hx;rcases List.mem_cons.1 ((h x).1 (by simp [hx])) with e|e
   ·subst e;exact absurd (p1 x hx) lt3_irr
   ·exact e
  ·intro hx;rcases List.mem_cons.1 ((h x).2 (by simp [hx])) with e|e
   ·subst e;exact absurd (q1 x hx) lt3_irr
   ·exact e
theorem insert_sorted{l:List P3}{p:P3}{n:Nat}(h:l.Pairwise lt3)(h1:∀ q∈l.take n,lt3 q p)(h2:∀ q∈l.drop n,lt3 p q):(l.take n++([p]++l.drop n)).Pairwise lt3:=by
 have h0:(l.take n++l.drop n).Pairwise lt3:=by rw [List.take_append_drop];exact h
 obtain ⟨a,b,c⟩:=List.pairwise_append.1 h0;refine List.pairwise_append.2 ⟨a,List.pairwise_cons.2 ⟨h2,b⟩,λx hx y hy=>?_⟩;rcases List.mem_cons.1 hy with rfl|hy
 ·exact h1 x hx
 ·exact c x hx y hy
theorem less_l(a b:P3):(R.renref24_less a b).sat λr=>r=true ↔ lt3 a b:=by
 unfold R.renref24_less lt3;refine law_given λ_=>q_not (q_eq (λh1=>q_not (q_eq (λh2=>q_not (q_eq (λh3=>law_ok ?_) λh3=>law_ok ?_)) λh2=>law_ok ?_)) λh1=>law_ok ?_)
 ·constructor
  ·intro e;cases e
  ·intro h;have h1:a.1=b.1:=h1;have h2:a.2.1=b.2.1:=h2;have h3:a.2.2=b.2.2:=h3;omega
 ·rw [ilt_true];have h1:a.1=b.1:=h1;have h2:a.2.1=b.2.1:=h2;omega
 ·rw [ilt_true];have h1:a.1=b.1:=h1;have h2:a.2.1≠b.2.1:=h2;omega
 ·rw [ilt_true];have h1:a.1≠b.1:=h1;omega
end Go.Mach

set_option maxRecDepth 20000
namespace Go.Mach
open Res
def lexC:List Int->List Int->Int
 |x::xs,y::ys=>if x < y then -1 else if y < x then 1 else lexC xs ys
 |_,_=>0
theorem icmp_l(x y:Int):(R.cmp_Compare_int x y).sat λr=>(x < y->r=-1)/\(y < x->r=1)/\(x=y->r=0):=by
 unfold R.cmp_Compare_int
 have n:∀ z:Int,(R.cmp_isNaN_int z).sat (·=false):=λz=>by
  unfold R.cmp_isNaN_int;exact law_given λ_=>law_ok (by simp)
 refine law_given λ_=>law_bind_eq (n x) (law_bind_eq (n y) (law_f rfl (law_f rfl (q_lt (λh=>law_ok ?_) λh=>q_lt (λh2=>law_ok ?_) λh2=>law_ok ?_))))
 ·exact ⟨λ_=>rfl,λg=>by omega,λg=>by omega⟩
 ·exact ⟨λg=>by omega,λ_=>rfl,λg=>by omega⟩
 ·exact ⟨λg=>by omega,λg=>by omega,λ_=>rfl⟩
theorem compare_l(xs ys:List Int)(h:xs.length=ys.length)(hl:xs.length<=100):(R.slices_Compare_int xs ys).sat (·=lexC xs ys):=by
 unfold R.slices_Compare_int
 refine law_given λ_=>law_bind' (R:=λr:Unit ⊕ Int=>match r with|.inl _=>lexC xs ys=0|.inr c=>c=lexC xs ys) (q_for (λx:Int=>x) xs.length (by omega) (λx=>lexC xs ys=lexC (xs.drop x.toNat) (ys.drop x.toNat)) (Int.le_refl 0) (by omega) rfl ?_) λr hr=>?_
 ·intro x h0 h1 hI;obtain ⟨i,rfl⟩:∃ i:Nat,x=i:=⟨x.toNat,by omega⟩
  have hI:lexC xs ys=lexC (xs.drop i) (ys.drop i):=by simpa using hI
  refine q_lt (λhi=>?_) λhi=>law_ok ?_
  ·have hi:i < xs.length:=by omega
   refine law_idxS h0 (by show ((i:Int)).toNat < _;omega) λa ha _=>law_f (by rw [ile_false];omega) (law_idxS h0 (by show ((i:Int)).toNat < _;omega) λb hb _=>law_bind' (icmp_l a b) λr ⟨r1,r2,r3⟩=>law_given λ_=>?_)
   have ha:xs[i]?=some a:=by simpa using ha
   have hb:ys[i]?=some b:=by simpa using hb
   have da:xs.drop i=a::xs.drop (i+1):=by rw [<- List.getElem_cons_drop hi];rw [List.getElem?_eq_getElem hi] at ha;cases ha;rfl
   have db:ys.drop i=b::ys.drop (i+1):=by rw [<- List.getElem_cons_drop (h▸hi)];rw [List.getElem?_eq_getElem (h▸hi)] at hb;cases hb;rfl
   rw [da,db,lexC] at hI;have a':Int:=a;refine q_not (q_eq (λhr=>law_ok ⟨rfl,by show (i:Int) < (xs.length:Int);omega,?_⟩) λhr=>law_ok ?_)
   ·have hw:w6 ((i:Int)+1)=((i+1:Nat):Int):=(wrap64 (by omega)).trans (by omega);show lexC xs ys=lexC (xs.drop (w6 ((i:Int)+1)).toNat) (ys.drop (w6 ((i:Int)+1)).toNat);rw [hw,Int.toNat_natCast,hI,if_neg,if_neg]
    ·intro g;have:=r2 g;rw [hr] at this;cases this
    ·intro g;have:=r1 g;rw [hr] at this;cases this
   ·show r=lexC xs ys;rw [hI];split
    ·rename_i g;exact r1 g
    ·rename_i g;split
     ·rename_i g2;exact r2 g2
     ·rename_i g2;exact absurd (r3 (Int.le_antisymm (Int.not_lt.1 g2) (Int.not_lt.1 g))) hr
  ·have hi:(xs.length:Int)<=(i:Int):=hi;show lexC xs ys=0;rw [hI,List.drop_of_length_le (by omega)];rfl
 ·cases r with
  |inl u=>exact law_inl (law_f (by rw [ilt_false];omega) (law_ok (Eq.symm hr)))
  |inr c=>exact law_inr (law_ok hr)
def cmp3(p q:P3):Int:=lexC (row3 p) (row3 q)
theorem cmp3_l(a b:P3):(R.judge_Cells_1 a b).sat (·=cmp3 a b):=by
 unfold R.judge_Cells_1;exact law_given λ_=>law_bind' (compare_l _ _ rfl (by simp)) λr hr=>law_given λ_=>law_ok hr
theorem cmp3_lt{p q:P3}:cmp3 p q < 0 ↔ lt3 p q:=by
 unfold cmp3 row3 lt3 lexC lexC lexC lexC;split
 ·simp;omega
 ·split
  ·simp;omega
  ·split
   ·simp;omega
   ·split
    ·simp;omega
    ·split
     ·simp;omega
     ·split<;>simp<;>omega
theorem perm_ins3(x:P3):∀ l:List P3,(ins3 x l).Perm (x::l)
 |[]=>.refl _
 |z::l=>by
  unfold ins3;split
  ·exact .refl _
  ·exact ((perm_ins3 x l).cons z).trans (.swap x z l)
theorem perm_sort3:∀ l:List P3,(sort3 l).Perm l
 |[]=>.refl _
 |x::l=>(perm_ins3 x _).trans ((perm_sort3 l).cons x)
abbrev ge3(p q:P3):Prop:=¬ lt3 q p
theorem ge3_tr{p q r:P3}(h:ge3 p q)(h2:ge3 q r):ge3 p r:=by unfold ge3 lt3 at *;omega
theorem ins3_ge{x:P3}:∀ {l:List P3},l.Pairwise ge3->(ins3 x l).Pairwise ge3
 |[],_=>by simp [ins3]
 |z::l,h=>by
  obtain ⟨h1,h2⟩:=List.pairwise_cons.1 h;unfold ins3;split
  ·rename_i hc
   have hl:ge3 x z:=by
    rcases le3_row.1 hc with g|g
    ·exact λk=>lt3_irr (lt3_tr g k)
    ·subst g;exact lt3_irr
   refine List.pairwise_cons.2 ⟨λy hy=>?_,h⟩;rcases List.mem_cons.1 hy with rfl|hy
   ·exact hl
   ·exact ge3_tr hl (h1 y hy)
  ·rename_i hc
   have hl:ge3 z x:=λg=>by rw [le3_row.2 (.inl g)] at hc;cases hc
   refine List.pairwise_cons.2 ⟨λy hy=>?_,ins3_ge h2⟩;rcases mem_ins3.1 hy with rfl|hy
   ·exact hl
   ·exact h1 y hy
theorem sort3_ge:∀ l:List P3,(sort3 l).Pairwise ge3
 |[]=>.nil
 |x::l=>ins3_ge (sort3_ge l)
theorem sort3_eq{l m:List P3}(h:m.Perm l)(hs:m.Pairwise ge3):m=sort3 l:=by
 refine List.Perm.eq_of_pairwise (le:=ge3) (λa b _ _ h1 h2=>?_) hs (sort3_ge l) (h.trans (perm_sort3 l).symm);apply Classical.byContradiction;intro hn;exact h1 (lt3_tot (λg=>h2 g) hn)
end Go.Mach

