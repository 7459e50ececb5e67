/-
  A part of the proofs of renlaw25.JudgeErases and renlaw25.JudgeCells: each law returns true for every input of the stated bulk and leaves its arguments as they were; no further condition.
  By an AI agent; no person has read it.
-/
import GoSem.Dispatch
import Derived.DeepKeys5
import Derived.Orders
import Derived.BigQuiet
import Derived.WalkKit
import Derived.Laws.StructEq
import Derived.ChangeKeysEq
import Derived.Laws.Concat
import Derived.WalkLawsBesides
set_option linter.all false
set_option linter.deprecated false
namespace Go.Mach
def keyV(l:List Int):Value:=.agg (l.map (Value.int .i64)).toArray
def keyFit(l:List Int):Bool:=l.all λa=>IntKind.wrap .i64 a == a
structure KeyT (P:Program) (K n:Nat):Prop where
 law:WideMaps.KeyLaw P K
 ex:∀ l:List Int,l.length=n->keyFit l=true->∃ L,keyOf P K (keyV l)=some L
def keyIx{α:Type}(xs:List (List Int×α))(l:List Int):Option Nat:=xs.findIdx? λx=>decide (x.1=l)
inductive Rose (α:Type) where
 |mk (a:α) (k:List (Rose α))
def Rose.lab{α:Type}:Rose α->α
 |.mk a _=>a
def Rose.kids{α:Type}:Rose α->List (Rose α)
 |.mk _ k=>k
inductive Ty where
 |unit|int (k:IntKind)|bool|str|list (e:Ty)|pair (a b:Ty)|rose (a:Ty)
@[reducible] def Ty.den:Ty->Type
 |.unit=>Unit
 |.int _=>Int
 |.bool=>Bool
 |.str=>List UInt8
 |.list e=>List e.den
 |.pair a b=>a.den×b.den
 |.rose a=>Rose a.den
def Ty.cells:Ty->Nat
 |.unit=>0
 |.int _|.bool|.str|.list _=>1
 |.pair a b=>a.cells+b.cells
 |.rose a=>a.cells+1
def IntKind.same:(j k:IntKind)->Option (PLift (j=k))
 |.i8,.i8=>some ⟨rfl⟩|.i16,.i16=>some ⟨rfl⟩|.i32,.i32=>some ⟨rfl⟩|.i64,.i64=>some ⟨rfl⟩
 |.u8,.u8=>some ⟨rfl⟩|.u16,.u16=>some ⟨rfl⟩|.u32,.u32=>some ⟨rfl⟩|.u64,.u64=>some ⟨rfl⟩
 |_,_=>none
def Ty.same:(a b:Ty)->Option (PLift (a=b))
 |.unit,.unit=>some ⟨rfl⟩
 |.int j,.int k=>match IntKind.same j k with
  |some ⟨h⟩=>some ⟨h▸rfl⟩
  |none=>none
 |.bool,.bool=>some ⟨rfl⟩
 |.str,.str=>some ⟨rfl⟩
 |.list a,.list b=>match Ty.same a b with
  |some ⟨h⟩=>some ⟨h▸rfl⟩
  |none=>none
 |.pair a b,.pair c d=>match Ty.same a c,Ty.same b d with
  |some ⟨h⟩,some ⟨h'⟩=>some ⟨h▸h'▸rfl⟩
  |_,_=>none
 |.rose a,.rose b=>match Ty.same a b with
  |some ⟨h⟩=>some ⟨h▸rfl⟩
  |none=>none
 |_,_=>none
inductive Sh where
 |nil
 |undef
 |nilp
 |nilz
 |frz (t:Ty)
 |own (s:Sh)
 |box (s:Sh)
 |clo (f:FuncId) (s:Sh)
 |seq (a b:Sh)
 |bor (s:Sh)
 |map (n:Nat) (s:Sh)
 |err
 |sb (p:Nat×Nat)
 |opq
@[reducible] def Sh.ty:Sh->Ty
 |.nil|.undef|.nilp|.nilz|.opq=>.unit
 |.frz t=>t
 |.own s=>.list s.ty
 |.box s=>s.ty
 |.clo _ s=>s.ty
 |.seq a b=>.pair a.ty b.ty
 |.bor s=>s.ty
 |.map _ s=>.list (.pair (.list (.int .i64)) s.ty)
 |.err=>.bool
 |.sb _=>.str
@[reducible] def Sh.den(s:Sh):Type:=s.ty.den
def Sh.cells:Sh->Nat
 |.nil=>0
 |.undef|.nilp|.nilz|.opq=>1
 |.frz t=>t.cells
 |.own _|.box _|.clo _ _|.map _ _|.err|.sb _=>1
 |.seq a b=>a.cells+b.cells
 |.bor s=>s.cells
def Sh.same:(a b:Sh)->Option (PLift (a=b))
 |.nil,.nil|.undef,.undef|.nilp,.nilp|.nilz,.nilz|.err,.err|.opq,.opq=>some ⟨rfl⟩
 |.frz a,.frz b=>match Ty.same a b with
  |some ⟨h⟩=>some ⟨h▸rfl⟩
  |none=>none
 |.own a,.own b=>match Sh.same a b with
  |some ⟨h⟩=>some ⟨h▸rfl⟩
  |none=>none
 |.box a,.box b=>match Sh.same a b with
  |some ⟨h⟩=>some ⟨h▸rfl⟩
  |none=>none
 |.bor a,.bor b=>match Sh.same a b with
  |some ⟨h⟩=>some ⟨h▸rfl⟩
  |none=>none
 |.map n a,.map m b=>match Nat.decEq n m,Sh.same a b with
  |.isTrue h,some ⟨h'⟩=>some ⟨h▸h'▸rfl⟩
  |_,_=>none
 |.sb p,.sb q=>match (inferInstance:Decidable (p=q)) with
  |.isTrue h=>some ⟨h▸rfl⟩
  |_=>none
 |.clo f a,.clo g b=>match Nat.decEq f g,Sh.same a b with
  |.isTrue h,some ⟨h'⟩=>some ⟨h▸h'▸rfl⟩
  |_,_=>none
 |.seq a b,.seq c d=>match Sh.same a c,Sh.same b d with
  |some ⟨h⟩,some ⟨h'⟩=>some ⟨h▸h'▸rfl⟩
  |_,_=>none
 |_,_=>none
def Sh.isFrz:Sh->Bool
 |.frz _=>true
 |_=>false
def Sh.caps:Sh->Bool
 |.nil=>true
 |.box _=>true
 |.seq a b=>a.caps && b.caps
 |.bor s=>s.caps
 |_=>false
def Sh.real:Sh->Bool
 |.undef=>false
 |.seq a b=>a.real && b.real
 |.bor _=>false
 |_=>true
def Sh.tame:Sh->Bool
 |.frz _=>true
 |.own s=>s.tame
 |.seq a b=>a.tame && b.tame
 |_=>false
inductive Win where
 |full
 |sub (o n:Nat)
inductive Cap where
 |root (r:Nat)
 |frz (e:Ty) (x:e.den)
inductive C where
 |undef
 |int (k:IntKind) (n:Int)
 |bool (b:Bool)
 |str (s:List UInt8)
 |nils
 |lst (e:Ty) (xs:List e.den)
 |ref (r:Nat) (w:Win)
 |ptr (r off:Nat)
 |eptr (r:Nat) (i:Nat) (off:Nat)
 |lptr (e:Ty) (x:e.den) (off:Nat)
 |nilp
 |nilf
 |nili
 |err (b:Bool)
 |mp (r:Nat)
 |opq
 |stp (q:Nat)
 |fn (f:FuncId) (caps:List Cap)
def C.isUndef:C->Bool
 |.undef=>true
 |_=>false
inductive AV where
 |c (x:C)
 |agg (cs:List C)
 |tup (vs:List (Bool×List C))
def AV.cells:AV->List C
 |.c x=>[x]
 |.agg cs=>cs
 |.tup _=>[]
structure Foc where
 i:Nat
 cells:List C
inductive Root where
 |dead
 |box (cells:List C)
 |arr (s:Sh) (xs:List s.den) (foc:Option Foc)
 |frz (e:Ty) (xs:List e.den)
 |bbox (cells:List C)
 |bor (s:Sh) (xs:List s.den)
 |mapr (n:Nat) (s:Sh) (xs:List (List Int×s.den)) (foc:Option Foc)
 |mape (n:Nat) (s:Sh) (xs:List (List Int×s.den)) (i:Nat) (cells:List C) (q:Nat)
 |sb (p:Nat×Nat) (xs:List UInt8)
 |itr (r n:Nat) (s:Sh) (xs:List (List Int×s.den)) (left:Option (List Int->Bool)) (cur:Option (List Int×Nat))
structure Mem where
 roots:List Root
 dR:Nat
 cur:Nat
def Mem.set(m:Mem)(r:Nat)(x:Root):Mem:=⟨m.roots.set r x,m.dR ||| 2^r,m.cur⟩
def Mem.push(m:Mem)(x:Root):Mem:=⟨m.roots.set m.cur x,m.dR,m.cur+1⟩
structure St where
 tmps:List AV
 mem:Mem
 dT:List Nat
def St.put(s:St)(dst:Option Tmp)(v:AV):St :=
 match dst with
 |some d=>⟨s.tmps.set d v,s.mem,s.dT⟩
 |none=>s
def St.get(s:St)(t:Tmp):AV:=(s.tmps[t]?).getD (.c .undef)
def Ty.flat:(t:Ty)->t.den->List C
 |.unit,_=>[]
 |.int k,n=>[.int k n]
 |.bool,b=>[.bool b]
 |.str,s=>[.str s]
 |.list e,xs=>[.lst e xs]
 |.pair a b,x=>a.flat x.1++b.flat x.2
 |.rose a,x=>a.flat x.lab++[.lst (.rose a) x.kids]
def Win.of{α:Type}(xs:List α):Win->List α
 |.full=>xs
 |.sub o n=>(xs.drop o).take n
def Win.whole:Win->Sh->Bool
 |.full,_=>true
 |_,s=>s.isFrz
def C.list0?(roots:List Root)(e:Ty):C->Option (List e.den)
 |.nils=>some []
 |.lst e' xs=>match Ty.same e' e with
  |some ⟨h⟩=>some (h▸xs)
  |none=>none
 |.ref r w=>match roots[r]? with
  |some (.arr s xs none)=>match s.tame,Ty.same s.ty e with
   |true,some ⟨h⟩=>some (w.of (h▸xs:List e.den))
   |_,_=>none
  |some (.frz e' xs)=>match Ty.same e' e with
   |some ⟨h⟩=>some (w.of (h▸xs))
   |none=>none
  |_=>none
 |_=>none
def C.zlist?(roots:List Root)(e:Ty):C->Option (List e.den)
 |.nils=>some []
 |.lst e' xs=>match Ty.same e' e with
  |some ⟨h⟩=>some (h▸xs)
  |none=>none
 |.ref r w=>match roots[r]? with
  |some (.frz e' xs)=>match Ty.same e' e with
   |some ⟨h⟩=>some (w.of (h▸xs))
   |none=>none
  |_=>none
 |_=>none
def Ty.rdBy(lk:(e:Ty)->C->Option (List e.den)):(t:Ty)->List C->Option (t.den×List C)
 |.unit,cs=>some ((),cs)
 |.int k,.int j n::cs=>match IntKind.same j k with
  |some _=>some (n,cs)
  |none=>none
 |.bool,.bool b::cs=>some (b,cs)
 |.str,.str s::cs=>some (s,cs)
 |.list e,c::cs=>match lk e c with
  |some xs=>some (xs,cs)
  |none=>none
 |.pair a b,cs=>match a.rdBy lk cs with
  |some (x,cs')=>match b.rdBy lk cs' with
   |some (y,cs'')=>some ((x,y),cs'')
   |none=>none
  |none=>none
 |.rose a,cs=>match a.rdBy lk cs with
  |some (x,c::cs')=>match lk (.rose a) c with
   |some xs=>some (.mk x xs,cs')
   |none=>none
  |_=>none
 |_,_=>none
def inRange(k:IntKind)(n:Int):Bool:=k.wrap n == n
def IntKind.minB:IntKind->Nat
 |.i8|.u8=>1
 |.i16|.u16=>2
 |.i32|.u32=>4
 |.i64|.u64=>8
def Ty.minB:Ty->Nat
 |.unit=>0
 |.int k=>IntKind.minB k
 |.bool=>1
 |.str=>16
 |.list _=>24
 |.pair a b=>a.minB+b.minB
 |.rose a=>a.minB+24
def lenOk(e:Ty)(n:Nat):Bool:=decide (n*e.minB<=2^47)
def strOk(n:Nat):Bool:=decide (n<=2^47)
def Ty.ok:(t:Ty)->t.den->Bool
 |.unit,_=>true
 |.int k,n=>inRange k n
 |.bool,_=>true
 |.str,s=>strOk s.length
 |.list e,xs=>lenOk e xs.length
 |.pair a b,x=>a.ok x.1 && b.ok x.2
 |.rose a,x=>a.ok x.lab && lenOk (.rose a) x.kids.length
def Sh.minB:Sh->Nat
 |.nil=>0
 |.undef|.opq=>1
 |.frz t=>t.minB
 |.own _=>24
 |.nilp|.nilz|.box _|.clo _ _|.map _ _|.err|.sb _=>8
 |.seq a b=>a.minB+b.minB
 |.bor s=>s.minB
def lenOkS(s:Sh)(n:Nat):Bool:=decide (n*s.minB<=2^47)
def Sh.ok:(s:Sh)->s.den->Bool
 |.nil,_|.undef,_|.nilp,_|.nilz,_|.err,_|.sb _,_|.opq,_=>true
 |.frz t,x=>t.ok x
 |.own s,xs=>lenOkS s xs.length
 |.box s,x=>s.ok x
 |.clo _ s,x=>s.ok x
 |.map _ _,_=>true
 |.seq a b,x=>a.ok x.1 && b.ok x.2
 |.bor s,x=>s.ok x
inductive Res (α:Type) where
 |ok (a:α)
 |stuck
 |given (b:Bool) (k:Res α)
noncomputable section
namespace Res
variable {α β:Type}
def bind(m:Res α)(k:α->Res β):Res β:=Res.rec (motive:=λ_=>Res β) k .stuck (λb _ ih=>.given b ih) m
def sat(m:Res α)(Q:α->Prop):Prop:=Res.rec (motive:=λ_=>Prop) Q False (λb _ ih=>b=true->ih) m
def facts(m:Res α):Prop:=Res.rec (motive:=λ_=>Prop) (λ_=>True) True (λb _ ih=>b=true/\ih) m
def strip(m:Res α):Option α:=Res.rec (motive:=λ_=>Option α) some none (λ_ _ ih=>ih) m
def br(b:Bool)(x y:Res β):Res β :=
 match b with
 |true=>x
 |false=>y
def need(b:Bool)(k:Res β):Res β :=
 match b with
 |true=>k
 |false=>.stuck
def idx(t:Ty)(xs:List t.den)(i:Int)(k:t.den->Res β):Res β :=
 match decide (0<=i) with
 |true=>match xs[i.toNat]? with
  |some x=>given (t.ok x) (k x)
  |none=>.stuck
 |false=>.stuck
def idxS(s:Sh)(xs:List s.den)(i:Int)(k:s.den->Res β):Res β :=
 match decide (0<=i) with
 |true=>match xs[i.toNat]? with
  |some x=>given (s.ok x) (k x)
  |none=>.stuck
 |false=>.stuck
def sum{γ:Type}(x:α ⊕ γ)(f:α->Res β)(g:γ->Res β):Res β :=
 match x with
 |.inl a=>f a
 |.inr c=>g c
inductive Step (α β:Type) where
 |next (a:α)
 |done (b:β)
def loop(f:α->Res (Step α β)):Nat->α->Res β
 |0,_=>.stuck
 |n+1,a=>(f a).bind fun
  |.next a'=>loop f n a'
  |.done b=>.ok b
def look{γ:Type}(xs:List (List Int×γ))(l:List Int)(f:Nat->γ->Res β)(g:Res β):Res β :=
 match keyIx xs l with
 |some i=>match xs[i]? with
  |some x=>f i x.2
  |none=>.stuck
 |none=>g
def keyIn{γ:Type}(xs:List (List Int×γ))(k:List Int):Bool:=decide (k∈xs.map (·.1))
def each{γ:Type}(f:γ->List γ->α->Res (Step α β)):List γ->α->Res (Step α β)
 |[],a=>.ok (.next a)
 |x::xs,a=>(f x xs a).bind fun
  |.next a'=>each f xs a'
  |.done b=>.ok (.done b)
open Classical in
def order{γ:Type}(xs:List γ)(F:List γ->Res β):Res β :=
 if h:∃ y,∀ p,p.Perm xs->(F p).sat (·=y) then .given (decide (∃ p,p.Perm xs/\(F p).facts)) (.ok h.choose) else .stuck
theorem sat_of_not_facts{m:Res α}{Φ:α->Prop}(h:¬ m.facts):m.sat Φ:=by
 induction m with
 |ok a=>exact absurd trivial h
 |stuck=>exact absurd trivial h
 |given b k ih=>exact λhb=>ih λhf=>h ⟨hb,hf⟩
theorem facts_sat{m:Res α}{Φ:α->Prop}(h:m.sat Φ)(hf:m.facts):∃ a,m.strip=some a/\Φ a:=by
 induction m with
 |ok a=>exact ⟨a,rfl,h⟩
 |stuck=>exact h.elim
 |given b k ih=>exact ih (h hf.1) hf.2
theorem strip_sat{m:Res α}{Φ:α->Prop}{a:α}(hs:m.strip=some a)(h:Φ a):m.sat Φ:=by
 induction m with
 |ok b=>cases hs;exact h
 |stuck=>cases hs
 |given b k ih=>exact λ_=>ih hs
theorem sat_strip{m:Res α}{Φ P:α->Prop}(h:m.sat Φ)(hp:∀ a,m.strip=some a->P a):m.sat λa=>Φ a/\P a:=by
 induction m with
 |ok b=>exact ⟨h,hp b rfl⟩
 |stuck=>exact h
 |given b k ih=>exact λhb=>ih (h hb) hp
theorem bind_sat{m:Res α}{k:α->Res β}{Φ:β->Prop}(h:m.sat λa=>(k a).sat Φ):(m.bind k).sat Φ:=by
 induction m with
 |ok b=>exact h
 |stuck=>exact h
 |given b k ih=>exact λhb=>ih (h hb)
theorem sat_bind'{m:Res α}{k:α->Res β}{Φ:β->Prop}(h:(m.bind k).sat Φ):m.sat λa=>(k a).sat Φ:=by
 induction m with
 |ok b=>exact h
 |stuck=>exact h
 |given b k ih=>exact λhb=>ih (h hb)
theorem sat_imp'{m:Res α}{Φ Ψ:α->Prop}(hi:∀ a,Φ a->Ψ a)(h:m.sat Φ):m.sat Ψ:=by
 induction m with
 |ok b=>exact hi _ h
 |stuck=>exact h
 |given b k ih=>exact λhb=>ih (h hb)
theorem strip_bind{m:Res α}{k:α->Res β}:(m.bind k).strip=m.strip.bind λa=>(k a).strip:=by
 induction m with
 |ok b=>rfl
 |stuck=>rfl
 |given b k ih=>exact ih
end Res
end
def Cap.cell:Cap->C
 |.root r=>.ptr r 0
 |.frz e x=>.lptr e x 0
def C.cap:C->Cap
 |.ptr r _=>.root r
 |.lptr e x _=>.frz e x
 |_=>.root 0
def Sh.news:Sh->Nat
 |.own _|.map _ _|.sb _=>1
 |.box s=>s.news+1
 |.clo _ s=>s.news
 |.seq a b=>a.news+b.news
 |.bor s=>s.news
 |_=>0
def freezeM:List C->Mem->Option Mem
 |[],m=>some m
 |.ref r _::cs,m=>match m.roots[r]? with
  |some (.arr s xs none)=>match s.tame with
   |true=>freezeM cs (m.set r (.frz s.ty xs))
   |false=>none
  |some (.frz _ _)=>freezeM cs m
  |_=>none
 |_::cs,m=>freezeM cs m
def Sh.objOk:Sh->Bool
 |.own _=>true
 |.box _=>true
 |.sb _=>true
 |_=>false
def Sh.mkB:(s:Sh)->s.den->Mem->List C×Mem
 |.nil,_,m=>([],m)
 |.undef,_,m=>([.undef],m)
 |.opq,_,m=>([.opq],m)
 |.nilp,_,m=>([.nilp],m)
 |.nilz,_,m=>([.nils],m)
 |.frz t,x,m=>(t.flat x,m)
 |.own s,xs,m=>([.ref m.cur .full],m.push (.bor s xs))
 |.box s,x,m=>match s.mkB x m with
  |(cs,m')=>([.ptr m'.cur 0],m'.push (.bbox cs))
 |.clo f s,x,m=>match s.mkB x m with
  |(cs,m')=>([.fn f (cs.map C.cap)],m')
 |.seq a b,x,m=>match a.mkB x.1 m with
  |(cs,m')=>match b.mkB x.2 m' with
   |(cs',m'')=>(cs++cs',m'')
 |.bor s,x,m=>s.mkB x m
 |.map _ _,_,m=>([.undef],m.push .dead)
 |.err,b,m=>([.err b],m)
 |.sb _,_,m=>([.undef],m.push .dead)
def Sh.mk:(s:Sh)->s.den->Mem->List C×Mem
 |.nil,_,m=>([],m)
 |.undef,_,m=>([.undef],m)
 |.opq,_,m=>([.opq],m)
 |.nilp,_,m=>([.nilp],m)
 |.nilz,_,m=>([.nils],m)
 |.frz t,x,m=>(t.flat x,m)
 |.own s,xs,m=>([.ref m.cur .full],m.push (.arr s xs none))
 |.box s,x,m=>match s.mk x m with
  |(cs,m')=>([.ptr m'.cur 0],m'.push (.box cs))
 |.clo f s,x,m=>match s.mk x m with
  |(cs,m')=>([.fn f (cs.map C.cap)],m')
 |.seq a b,x,m=>match a.mk x.1 m with
  |(cs,m')=>match b.mk x.2 m' with
   |(cs',m'')=>(cs++cs',m'')
 |.bor s,x,m=>s.mkB x m
 |.map n s,xs,m=>([.mp m.cur],m.push (.mapr n s xs none))
 |.err,b,m=>([.err b],m)
 |.sb p,xs,m=>([.ptr m.cur 0],m.push (.sb p xs))
def Sh.getB(st:Bool)(roots:List Root):(s:Sh)->List C->Option (s.den×List C)
 |.nil,cs=>some ((),cs)
 |.undef,_::cs=>some ((),cs)
 |.opq,c::cs=>match c.isUndef with
  |false=>some ((),cs)
  |true=>none
 |.nilp,.nilp::cs=>some ((),cs)
 |.nilz,.nils::cs=>some ((),cs)
 |.err,.err b::cs=>some (b,cs)
 |.frz t,cs=>t.rdBy (C.zlist? roots) cs
 |.own _,.nils::cs=>some ([],cs)
 |.own s,.lst e xs::cs=>match s.tame,Ty.same e s.ty with
  |true,some ⟨h⟩=>some ((h▸xs:List s.ty.den),cs)
  |_,_=>none
 |.own s,.ref r w::cs=>match roots[r]? with
  |some (.frz e xs)=>match s.tame,Ty.same e s.ty with
   |true,some ⟨h⟩=>some (w.of (h▸xs:List s.ty.den),cs)
   |_,_=>none
  |some (.bor s' xs)=>match Sh.same s' s with
   |some ⟨h⟩=>some (w.of (h▸xs),cs)
   |none=>none
  |some (.arr s' xs foc)=>match st,Sh.same s' s with
   |false,some ⟨h⟩=>match foc with
    |none=>some (w.of (h▸xs),cs)
    |some f=>match s.getB st roots f.cells with
     |some (x,[])=>some (w.of ((h▸xs:List s.den).set f.i x),cs)
     |_=>none
   |_,_=>none
  |_=>none
 |.box s,.ptr r 0::cs=>match roots[r]? with
  |some (.box bs)=>match st with
   |true=>none
   |false=>match s.getB st roots bs with
    |some (x,[])=>some (x,cs)
    |_=>none
  |some (.bbox bs)=>match s.getB st roots bs with
   |some (x,[])=>some (x,cs)
   |_=>none
  |_=>none
 |.box s,.lptr e x 0::cs=>match s.tame,Ty.same e s.ty with
  |true,some ⟨h⟩=>some ((h▸x:s.ty.den),cs)
  |_,_=>none
 |.clo f s,.fn g caps::cs=>match f == g && s.caps,s.getB st roots (caps.map Cap.cell) with
  |true,some (x,[])=>some (x,cs)
  |_,_=>none
 |.map n s,.mp r::cs=>match roots[r]? with
  |some (.mapr n' s' xs none)=>match st,Nat.decEq n' n,Sh.same s' s with
   |false,.isTrue _,some ⟨h⟩=>some ((h▸xs:List (List Int×s.den)),cs)
   |_,_,_=>none
  |_=>none
 |.seq a b,cs=>match a.getB st roots cs with
  |some (x,cs')=>match b.getB st roots cs' with
   |some (y,cs'')=>some ((x,y),cs'')
   |none=>none
  |none=>none
 |.bor s,cs=>s.getB st roots cs
 |_,_=>none
def Sh.get:(s:Sh)->List C->Mem->Option (s.den×List C×Mem)
 |.nil,cs,m=>some ((),cs,m)
 |.undef,_::cs,m=>some ((),cs,m)
 |.opq,c::cs,m=>match c.isUndef with
  |false=>some ((),cs,m)
  |true=>none
 |.nilp,.nilp::cs,m=>some ((),cs,m)
 |.nilz,.nils::cs,m=>some ((),cs,m)
 |.err,.err b::cs,m=>some (b,cs,m)
 |.sb p,.ptr r 0::cs,m=>match m.roots[r]? with
  |some (.sb q xs)=>match (inferInstance:Decidable (q=p)) with
   |.isTrue _=>some (xs,cs,m.set r .dead)
   |_=>none
  |_=>none
 |.frz t,cs,m=>match t.rdBy (C.list0? m.roots) cs with
  |some (x,cs')=>match freezeM (cs.take t.cells) m with
   |some m'=>some (x,cs',m')
   |none=>none
  |none=>none
 |.own _,.nils::cs,m=>some ([],cs,m)
 |.own s,.ref r w::cs,m=>match m.roots[r]? with
  |some (.arr s' xs foc)=>match Sh.same s' s,w.whole s with
   |some ⟨h⟩,true=>match foc with
    |none=>some (w.of (h▸xs),cs,m.set r .dead)
    |some f=>match s.get f.cells (m.set r .dead) with
     |some (x,[],m')=>some (w.of ((h▸xs:List s.den).set f.i x),cs,m')
     |_=>none
   |_,_=>none
  |_=>none
 |.map n s,.mp r::cs,m=>match m.roots[r]? with
  |some (.mapr n' s' xs foc)=>match Nat.decEq n' n,Sh.same s' s with
   |.isTrue _,some ⟨h⟩=>match foc with
    |none=>some ((h▸xs:List (List Int×s.den)),cs,m.set r .dead)
    |some f=>match s.get f.cells (m.set r .dead) with
     |some (x,[],m')=>some ((h▸xs:List (List Int×s.den)).modify f.i λe=>(e.1,x),cs,m')
     |_=>none
   |_,_=>none
  |_=>none
 |.box s,.ptr r 0::cs,m=>match m.roots[r]? with
  |some (.box bs)=>match s.get bs (m.set r .dead) with
   |some (x,[],m')=>some (x,cs,m')
   |_=>none
  |_=>none
 |.clo f s,.fn g caps::cs,m=>match f == g && s.caps,s.get (caps.map Cap.cell) m with
  |true,some (x,[],m')=>some (x,cs,m')
  |_,_=>none
 |.seq a b,cs,m=>match a.get cs m with
  |some (x,cs',m')=>match b.get cs' m' with
   |some (y,cs'',m'')=>some ((x,y),cs'',m'')
   |none=>none
  |none=>none
 |.bor s,cs,m=>match s.getB true m.roots cs with
  |some (x,cs')=>some (x,cs',m)
  |none=>none
 |_,_,_=>none
def Mem.shut(m:Mem)(r:Nat):Option Mem :=
 match m.roots[r]? with
 |some (.arr s xs (some f))=>match s.get f.cells (m.set r .dead) with
  |some (x,[],m')=>some (m'.set r (.arr s (xs.set f.i x) none))
  |_=>none
 |some (.arr _ _ none)=>some m
 |_=>none
def Mem.shutM(m:Mem)(r:Nat):Option Mem :=
 match m.roots[r]? with
 |some (.mapr n s xs (some f))=>match s.get f.cells (m.set r .dead) with
  |some (x,[],m')=>some (m'.set r (.mapr n s (xs.modify f.i λe=>(e.1,x)) none))
  |_=>none
 |some (.mapr _ _ _ none)=>some m
 |_=>none
abbrev VSh:=Bool×Sh
@[reducible] def dens:List VSh->Type
 |[]=>Unit
 |[a]=>a.2.den
 |a::b::r=>a.2.den×dens (b::r)
def avOf(agg:Bool)(cs:List C):AV :=
 match agg,cs with
 |true,cs=>.agg cs
 |false,c::_=>.c c
 |false,[]=>.c .undef
def oks:(l:List VSh)->dens l->Bool
 |[],_=>true
 |[a],x=>a.2.ok x
 |a::b::r,x=>a.2.ok x.1 && oks (b::r) x.2
def AV.form:AV->Bool->Bool
 |.c _,b=>!b
 |.agg _,b=>b
 |.tup _,_=>false
def getV(a:VSh)(v:AV)(m:Mem):Option (a.2.den×Mem) :=
 match v.form a.1,a.2.get v.cells m with
 |true,some (x,[],m')=>some (x,m')
 |_,_=>none
def gets:(l:List VSh)->List AV->Mem->Option (dens l×Mem)
 |[],[],m=>some ((),m)
 |[a],[v],m=>getV a v m
 |a::b::r,v::vs,m=>match getV a v m with
  |some (x,m')=>match gets (b::r) vs m' with
   |some (y,m'')=>some ((x,y),m'')
   |none=>none
  |none=>none
 |_,_,_=>none
def getC(a:VSh)(v:AV)(m:Mem):Option ((Mem->Option a.2.den)×Mem) :=
 match a with
 |(g,.bor s)=>match v.form g with
  |true=>some (λm=>match s.getB false m.roots v.cells with
    |some (x,[])=>some x
    |_=>none,m)
  |false=>none
 |a=>match getV a v m with
  |some (x,m')=>some (λ_=>some x,m')
  |none=>none
def getsC:(l:List VSh)->List AV->Mem->Option ((Mem->Option (dens l))×Mem)
 |[],[],m=>some (λ_=>some (),m)
 |[a],[v],m=>getC a v m
 |a::b::r,v::vs,m=>match getC a v m with
  |some (g,m')=>match getsC (b::r) vs m' with
   |some (g',m'')=>some (λm=>match g m,g' m with
     |some x,some y=>some (x,y)
     |_,_=>none,m'')
   |none=>none
  |none=>none
 |_,_,_=>none
def mks:(l:List VSh)->dens l->Mem->List AV×Mem
 |[],_,m=>([],m)
 |[a],x,m=>match a.2.mk x m with
  |(cs,m')=>([avOf a.1 cs],m')
 |a::b::r,x,m=>match a.2.mk x.1 m with
  |(cs,m')=>match mks (b::r) x.2 m' with
   |(vs,m'')=>(avOf a.1 cs::vs,m'')
def newsL:List VSh->Nat
 |[]=>0
 |a::r=>a.2.news+newsL r
inductive Par where
 |val (agg:Bool) (s:Sh)
 |obj (s:Sh)
@[reducible] def Par.v:Par->VSh
 |.val agg s=>(agg,s)
 |.obj s=>(false,s)
@[reducible] def boxes:List Par->List Sh
 |[]=>[]
 |.obj s::r=>s::boxes r
 |.val _ _::r=>boxes r
@[reducible] def outs(a:Type):List Sh->Type
 |[]=>a
 |s::r=>a×outs s.den r
structure Spec where
 f:FuncId
 ps:List Par
 rs:List VSh
 run:dens (ps.map Par.v)->Res (outs (dens rs) (boxes ps))
structure Inl where
 f:FuncId
 run:(β:Type)->List AV->Mem->(AV->Mem->Res β)->Res β
 news:Nat
 cps:∀ (β:Type) (xs:List AV) (m:Mem) (K:AV->Mem->Res β),run β xs m K=(run (AV×Mem) xs m λv m=>.ok (v,m)).bind λp=>K p.1 p.2
structure Env where
 P:Program
 specs:List Spec
 ety:TypeId->Option Sh
 dr:Bool:=false
 sbs:List (TypeId×TypeId):=[]
 maps:List (TypeId×Nat):=[]
 kok:∀ p∈maps,KeyT P p.1 p.2:=by exact λ_ h=>by cases h
 inls:List Inl:=[]
def outFst{a:Type}:(l:List Sh)->outs a l->a
 |[],y=>y
 |_::_,y=>y.1
def outsOk{a:Type}(oka:a->Bool):(l:List Sh)->outs a l->Bool
 |[],y=>oka y
 |s::r,y=>oka y.1 && outsOk s.ok r y.2
def Ty.plain:Ty->Bool
 |.unit|.bool=>true
 |.pair a b=>a.plain && b.plain
 |_=>false
def Ty.haslist:Ty->Bool
 |.list _|.rose _=>true
 |.pair a b=>a.haslist || b.haslist
 |_=>false
def Sh.plain:Sh->Bool
 |.nil|.undef|.nilp|.nilz|.err|.opq=>true
 |.frz t=>t.plain
 |.seq a b=>a.plain && b.plain
 |_=>false
def C.root?:C->Option Nat
 |.ptr r _=>some r
 |.ref r _=>some r
 |_=>none
def Mem.move(m:Mem)(q r:Nat):Mem:=⟨(m.roots.set q .dead).set r ((m.roots[q]?).getD .dead),m.dR ||| (2^r ||| 2^q),m.cur⟩
def Mem.move?(m:Mem)(q r:Nat):Option Mem :=
 match m.roots[r]? with
 |some .dead=>some (m.move q r)
 |_=>none
def AV.whole:AV->Bool
 |.c (.ref _ .full)=>true
 |.c (.ptr _ 0)=>true
 |.c .nils=>true
 |_=>false
def objsOk:List Par->List AV->Bool
 |[],_=>true
 |.obj _::r,v::vs=>v.whole && objsOk r vs
 |.val _ _::r,_::vs=>objsOk r vs
 |_::_,[]=>false
def backAt(s:Sh)(v:AV)(x:s.den)(m:Mem):Option Mem :=
 match s.mk x m with
 |(cs,m')=>match cs,v with
  |[c],.c y=>match c.root?,y.root? with
   |some q,some p=>m'.move? q p
   |_,_=>some m'
  |_,_=>none
def backs:(ps:List Par)->List AV->{a:Type}->outs a (boxes ps)->Mem->Option Mem
 |[],_,_,_,m=>some m
 |.obj s::r,v::vs,_,y,m=>match backAt s v (outFst (a:=s.den) (boxes r) y.2) m with
  |some m'=>backs r vs (a:=s.den) y.2 m'
  |none=>none
 |.val _ _::r,_::vs,_,y,m=>backs r vs y m
 |_::_,[],_,_,_=>none
end Go.Mach

noncomputable section
namespace Go.Mach
def cellOf:Value->C
 |.int k n=>match inRange k n with
  |true=>.int k n
  |false=>.undef
 |.bool b=>.bool b
 |.string s=>match strOk s.data.toList.length with
  |true=>.str s.data.toList
  |false=>.undef
 |.slice none 0 0=>.nils
 |.pointer none=>.nilp
 |.nilFunc=>.nilf
 |.nilIface=>.nili
 |_=>.undef
def ofVal:Value->AV
 |.agg cs=>.agg (cs.toList.map cellOf)
 |v=>.c (cellOf v)
def val(st:St):Operand->AV
 |.tmp t=>st.get t
 |.const v=>ofVal v
 |.global _=>.c .undef
 |.func f=>.c (.fn f [])
def aggT(P:Program)(t:TypeId):Bool :=
 match P.underlying t with
 |some (.struct _)|some (.array _ _)=>true
 |_=>false
def zeroC(P:Program)(t:TypeId):Option (List C) :=
 match P.info? t with
 |some i=>match i.zero with
  |some v=>some (v.cells.toList.map cellOf)
  |none=>none
 |none=>none
def fieldOf(P:Program)(t:TypeId)(f:Nat):Option (Nat×TypeId) :=
 match P.underlying t with
 |some (.struct fs)=>match fs[f]? with
  |some x=>some (x.offset,x.type)
  |none=>none
 |_=>none
def elemOf(P:Program)(t:TypeId):Option TypeId :=
 match P.underlying t with
 |some (.slice e)=>some e
 |_=>none
def nestT:List (Option Ty)->Option Ty
 |[]=>some .unit
 |[a]=>a
 |a::b::r=>match a,nestT (b::r) with
  |some x,some y=>some (.pair x y)
  |_,_=>none
def tyOf(P:Program):Nat->TypeId->Option Ty
 |0,_=>none
 |n+1,t=>match P.underlying t with
  |some (.int k)=>some (.int k)
  |some .bool=>some .bool
  |some .string=>some .str
  |some (.slice e)=>match tyOf P n e with
   |some x=>some (.list x)
   |none=>none
  |some (.struct fs)=>match fs.toList.getLast? with
   |some f=>match (match P.underlying f.type with|some (.slice e)=>e == t|_=>false) with
    |true=>match nestT (fs.toList.dropLast.map λf=>tyOf P n f.type) with
     |some a=>some (.rose a)
     |none=>none
    |false=>nestT (fs.toList.map λf=>tyOf P n f.type)
   |none=>some .unit
  |some (.array k e)=>nestT (List.replicate k (tyOf P n e))
  |_=>none
def kindOk(P:Program)(t:TypeId):Bool:=(P.underlying t).isSome && (aggT P t || P.cellsOf t == 1)
def szOk(P:Program)(t:TypeId)(n:Nat):Bool :=
 match P.underlying t with
 |some (.slice el)=>P.cellsOf el == n && !(n == 0)
 |_=>false
def slOk(P:Program)(t:TypeId):Bool :=
 match P.underlying t with
 |some (.slice el)=>!(P.cellsOf el == 0)
 |_=>false
def strT(P:Program)(t:TypeId):Bool :=
 match P.underlying t with
 |some .string=>true
 |_=>false
def etyOf(P:Program)(own:List (TypeId×Sh))(t:TypeId):Option Sh :=
 match own.find? λp=>p.1 == t with
 |some p=>some p.2
 |none=>match tyOf P 20 t with
  |some x=>some (.frz x)
  |none=>none
def ibits(op:BinOp)(k:IntKind)(x y:Int):Int :=
 let a:=BitVec.ofInt k.bits x
 let b:=BitVec.ofInt k.bits y
 match op with
 |.and=>k.wrap (a &&& b).toNat
 |.or=>k.wrap (a ||| b).toNat
 |.xor=>k.wrap (a ^^^ b).toNat
 |.andNot=>k.wrap (a &&& ~~~b).toNat
 |_=>0
def ishl(k:IntKind)(x y:Int):Int:=k.wrap (x*2^(min y.toNat k.bits))
def ishr(k:IntKind)(x y:Int):Int:=x.fdiv (2^(min y.toNat k.bits))
def ilt(x y:Int):Bool:=decide (x < y)
def ile(x y:Int):Bool:=decide (x<=y)
section
variable {β:Type}
def pickK(t:Bool)(a b:AV)(K:AV->Res β):Res β :=
 match a,b with
 |.c (.bool x),.c (.bool y)=>K (.c (.bool (bif t then x else y)))
 |a,b=>Res.br t (K a) (K b)
def eqFs(eq:TypeId->List C->List C->Option Bool)(sz:TypeId->Nat)(xs ys:List C):List Field->Option Bool
 |[]=>some true
 |f::fs=>match f.name == "_" || !(decide (f.offset+sz f.type<=xs.length) && decide (f.offset+sz f.type<=ys.length)) with
  |true=>none
  |false=>match eq f.type ((xs.drop f.offset).take (sz f.type)) ((ys.drop f.offset).take (sz f.type)),eqFs eq sz xs ys fs with
   |some b,some c=>some (b && c)
   |_,_=>none
def eqIs(eq:List C->List C->Option Bool)(c:Nat)(xs ys:List C):List Nat->Option Bool
 |[]=>some true
 |i::is=>match decide (i*c+c<=xs.length) && decide (i*c+c<=ys.length) with
  |false=>none
  |true=>match eq ((xs.drop (i*c)).take c) ((ys.drop (i*c)).take c),eqIs eq c xs ys is with
   |some b,some r=>some (b && r)
   |_,_=>none
def eqT(P:Program):Nat->TypeId->List C->List C->Option Bool
 |0,_,_,_=>none
 |n+1,t,xs,ys=>match P.underlying t with
  |some (.int _)=>match xs,ys with
   |[.int j x],[.int k y]=>match IntKind.same j k with
    |some _=>some (x == y)
    |none=>none
   |_,_=>none
  |some .bool=>match xs,ys with
   |[.bool x],[.bool y]=>some (x == y)
   |_,_=>none
  |some .string=>match xs,ys with
   |[.str x],[.str y]=>some (x == y)
   |_,_=>none
  |some (.struct fs)=>match P.stoodInHeld t with
   |true=>none
   |false=>eqFs (eqT P n) P.cellsOf xs ys fs.toList
  |some (.array k e)=>match P.info? e with
   |some _=>eqIs (eqT P n e) (P.cellsOf e) xs ys (List.range k)
   |none=>none
  |_=>none
def eqA(P:Program)(t:TypeId)(c:Bool):AV->AV->Option Bool
 |.c .nilp,.c .nilp=>match P.underlying t with
  |some (.pointer _)=>some true
  |_=>none
 |.c .nilp,.c (.ptr _ _)|.c (.ptr _ _),.c .nilp=>match P.underlying t with
  |some (.pointer _)=>some false
  |_=>none
 |.c .nils,.c .nils=>match P.underlying t with
  |some (.slice _)=>some true
  |_=>none
 |.c .nilf,.c .nilf=>match P.underlying t with
  |some (.func _ _ _)=>some true
  |_=>none
 |.c .nilf,.c (.fn _ _)|.c (.fn _ _),.c .nilf=>match P.underlying t with
  |some (.func _ _ _)=>some false
  |_=>none
 |.c .nili,.c .nili=>match P.underlying t,c with
  |some (.interface _),true=>some true
  |_,_=>none
 |.c (.err b),.c .nili=>match P.underlying t,c with
  |some (.interface _),true=>some b
  |_,_=>none
 |.agg xs,.agg ys=>match P.eqGuardType P.depth t,aggT P t with
  |false,true=>eqT P 100 t xs ys
  |_,_=>none
 |.c (.bool x),.c (.bool y)=>match P.underlying t with
  |some .bool=>some (x == y)
  |_=>none
 |_,_=>none
def aConst(x y:Operand):Bool:=(match x with|.const _=>true|_=>false) || (match y with|.const _=>true|_=>false)
def binK(P:Program)(t:TypeId)(c:Bool)(op:BinOp)(x y:AV)(K:AV->Res β):Res β :=
 match op,x,y with
 |.shl,.c (.int k a),.c (.int _ b)=>Res.need (ile 0 b) (K (.c (.int k (ishl k a b))))
 |.shr,.c (.int k a),.c (.int _ b)=>Res.need (ile 0 b) (K (.c (.int k (ishr k a b))))
 |op,.c (.int k a),.c (.int j b) =>
  match IntKind.same j k with
  |none=>.stuck
  |some _ =>
  match op with
  |.add=>K (.c (.int k (k.wrap (a+b))))
  |.sub=>K (.c (.int k (k.wrap (a-b))))
  |.mul=>K (.c (.int k (k.wrap (a*b))))
  |.quo=>Res.need (!(b == 0)) (K (.c (.int k (k.wrap (a.tdiv b)))))
  |.rem=>Res.need (!(b == 0)) (K (.c (.int k (a.tmod b))))
  |.and=>K (.c (.int k (ibits .and k a b)))
  |.or=>K (.c (.int k (ibits .or k a b)))
  |.xor=>K (.c (.int k (ibits .xor k a b)))
  |.andNot=>K (.c (.int k (ibits .andNot k a b)))
  |.eql=>K (.c (.bool (a == b)))
  |.neq=>K (.c (.bool (!(a == b))))
  |.lss=>K (.c (.bool (ilt a b)))
  |.leq=>K (.c (.bool (ile a b)))
  |.gtr=>K (.c (.bool (ilt b a)))
  |.geq=>K (.c (.bool (ile b a)))
  |_=>.stuck
 |op,.c (.str a),.c (.str b) =>
  match op with
  |.add=>Res.need (strOk (a.length+b.length)) (K (.c (.str (a++b))))
  |.eql=>K (.c (.bool (a == b)))
  |.neq=>K (.c (.bool (!(a == b))))
  |.lss=>K (.c (.bool (Op.bytesLess a b)))
  |.leq=>K (.c (.bool (Op.bytesLess a b || a == b)))
  |.gtr=>K (.c (.bool (!(Op.bytesLess a b || a == b))))
  |.geq=>K (.c (.bool (!(Op.bytesLess a b))))
  |_=>.stuck
 |.eql,x,y=>match eqA P t c x y with
  |some b=>K (.c (.bool b))
  |none=>.stuck
 |.neq,x,y=>match eqA P t c x y with
  |some b=>K (.c (.bool (!b)))
  |none=>.stuck
 |_,_,_=>.stuck
def unA(op:UnOp)(x:AV):Option AV :=
 match op,x with
 |.neg,.c (.int k n)=>some (.c (.int k (k.wrap (0-n))))
 |.xor,.c (.int k n)=>some (.c (.int k (ibits .xor k (if k.signed then -1 else k.max) n)))
 |.not,.c (.bool b)=>some (.c (.bool (!b)))
 |_,_=>none
def nums(s:List UInt8):List Int:=s.map λb=>(b.toNat:Int)
def byts(l:List Int):List UInt8:=l.map λn=>UInt8.ofNat n.toNat
def Win.len(n:Nat):Win->Nat
 |.full=>n
 |.sub _ n=>n
def Mem.sz?(m:Mem)(r:Nat):Nat :=
 match m.roots[r]? with
 |some (.arr s _ _)|some (.bor s _)=>s.cells
 |some (.frz e _)=>e.cells
 |_=>0
def Mem.len?(m:Mem)(r:Nat):Option Nat :=
 match m.roots[r]? with
 |some (.arr _ xs _)=>some xs.length
 |some (.frz _ xs)=>some xs.length
 |some (.bor _ xs)=>some xs.length
 |_=>none
def Win.off:Win->Nat
 |.full=>0
 |.sub o _=>o
inductive Bnd where
 |none
 |at_ (n:Int)
def bndOf:Option AV->Option Bnd
 |none=>some .none
 |some (.c (.int _ n))=>some (.at_ n)
 |some _=>none
def cutK{α:Type}(xs:List α)(lo hi:Bnd)(K:List α->Res β):Res β :=
 match lo,hi with
 |.none,.none=>K xs
 |.at_ l,.none=>Res.need (ile 0 l && ile l xs.length) (K (xs.drop l.toNat))
 |.none,.at_ h=>Res.need (ile 0 h && ile h xs.length) (K (xs.take h.toNat))
 |.at_ l,.at_ h=>Res.need (ile 0 l && (ile l h && ile h xs.length)) (K ((xs.take h.toNat).drop l.toNat))
def winK(o n:Nat)(lo hi:Bnd)(K:Win->Res β):Res β :=
 match lo,hi with
 |.none,.none=>K (.sub o n)
 |.at_ l,.none=>Res.need (ile 0 l && ile l n) (K (.sub (o+l.toNat) (n-l.toNat)))
 |.none,.at_ h=>Res.need (ile 0 h && ile h n) (K (.sub o h.toNat))
 |.at_ l,.at_ h=>Res.need (ile 0 l && (ile l h && ile h n)) (K (.sub (o+l.toNat) (h.toNat-l.toNat)))
def typeFits(P:Program)(t:TypeId)(m:Mem):AV->Bool
 |.c (.str _)=>strT P t
 |.c (.lst e _)=>szOk P t e.cells
 |.c .nils=>slOk P t
 |.c (.ref r _)=>szOk P t (m.sz? r)
 |_=>false
def sliceK(m:Mem)(x:AV)(lo hi:Bnd)(K:AV->Res β):Res β :=
 match x with
 |.c (.str s)=>cutK s lo hi λs=>K (.c (.str s))
 |.c (.lst e xs)=>cutK xs lo hi λxs=>K (.c (.lst e xs))
 |.c .nils=>cutK ([]:List Unit) lo hi λ_=>K (.c .nils)
 |.c (.ref r w)=>match m.len? r with
  |some n =>
   match lo,hi with
   |.none,.none=>K (.c (.ref r w))
   |lo,hi=>winK w.off (w.len n) lo hi λw'=>K (.c (.ref r w'))
  |_=>.stuck
 |_=>.stuck
def Mem.newsAt(m:Mem):AV->Nat
 |.c (.ref r _)=>match m.roots[r]? with
  |some (.arr (.frz _) _ _)=>0
  |some (.arr s _ none)=>s.news
  |some (.bor s _)=>s.news+1
  |_=>0
 |_=>0
def indexAddrK(m:Mem)(x i:AV)(K:AV->Mem->Res β):Res β :=
 match x,i with
 |.c (.lst e xs),.c (.int _ n)=>Res.idx e xs n λx=>K (.c (.lptr e x 0)) m
 |.c (.ref r w),.c (.int _ n)=>match m.roots[r]? with
  |some (.arr (.frz e) xs none)=>Res.need (ile 0 n && ilt n (w.len xs.length)) (K (.c (.eptr r (w.off+n.toNat) 0)) m)
  |some (.arr s xs foc)=>match foc,w with
   |some f,.full=>Res.need (ile 0 n && f.i == n.toNat) (K (.c (.eptr r n.toNat 0)) m)
   |none,.full=>Res.idxS s xs n λx=>match s.mk x (m.set r .dead) with
    |(cs,m')=>K (.c (.eptr r n.toNat 0)) (m'.set r (.arr s xs (some ⟨n.toNat,cs⟩)))
   |_,_=>.stuck
  |some (.frz e xs)=>Res.idx e (w.of xs) n λx=>K (.c (.lptr e x 0)) m
  |some (.bor s xs)=>Res.idxS s (w.of xs) n λx=>match s.mkB x m with
   |(cs,m')=>K (.c (.ptr m'.cur 0)) (m'.push (.bbox cs))
  |_=>.stuck
 |_,_=>.stuck
def loadK(m:Mem)(n:Nat)(a:AV)(K:List C->Res β):Res β :=
 match a with
 |.c (.ptr r off)=>match m.roots[r]? with
  |some (.box cs)=>match ((cs.drop off).take n).length == n with
   |true=>K ((cs.drop off).take n)
   |false=>.stuck
  |some (.bbox cs)=>match ((cs.drop off).take n).length == n with
   |true=>K ((cs.drop off).take n)
   |false=>.stuck
  |_=>.stuck
 |.c (.lptr e x off)=>match (((e.flat x).drop off).take n).length == n with
  |true=>K (((e.flat x).drop off).take n)
  |false=>.stuck
 |.c (.eptr r i off)=>match m.roots[r]? with
  |some (.arr (.frz e) xs none)=>Res.idx e xs i λx=>match (((e.flat x).drop off).take n).length == n with
   |true=>K (((e.flat x).drop off).take n)
   |false=>.stuck
  |some (.arr _ _ (some f))=>Res.need (f.i == i) (match ((f.cells.drop off).take n).length == n with
   |true=>K ((f.cells.drop off).take n)
   |false=>.stuck)
  |_=>.stuck
 |_=>.stuck
def splice(cs:List C)(off:Nat)(vs:List C):Option (List C) :=
 match decide (off+vs.length<=cs.length) with
 |true=>some (cs.take off++(vs++cs.drop (off+vs.length)))
 |false=>none
def storeK(m:Mem)(a:AV)(vs:List C)(K:Mem->Res β):Res β :=
 match a with
 |.c (.ptr r off)=>match m.roots[r]? with
  |some (.box cs)=>match splice cs off vs with
   |some cs'=>K (m.set r (.box cs'))
   |none=>.stuck
  |_=>.stuck
 |.c (.eptr r i off)=>match m.roots[r]? with
  |some (.arr (.frz e) xs none)=>Res.idx e xs i λx=>match splice (e.flat x) off vs with
   |some cs'=>match (Sh.frz e).get cs' (m.set r .dead) with
    |some (y,[],m')=>K (m'.set r (.arr (.frz e) (xs.set i y) none))
    |_=>.stuck
   |none=>.stuck
  |some (.arr s xs (some f))=>Res.need (f.i == i) (match splice f.cells off vs with
   |some cs'=>K (m.set r (.arr s xs (some ⟨f.i,cs'⟩)))
   |none=>.stuck)
  |_=>.stuck
 |_=>.stuck
def moveAddr(a:AV)(o:Nat):Option AV :=
 match a with
 |.c (.ptr r off)=>some (.c (.ptr r (off+o)))
 |.c (.eptr r i off)=>some (.c (.eptr r i (off+o)))
 |.c (.lptr e x off)=>some (.c (.lptr e x (off+o)))
 |_=>none
def C.plain?(roots:List Root)(e:Ty):C->Option (List e.den)
 |.nils=>some []
 |.lst e' xs=>match Ty.same e' e with
  |some ⟨h⟩=>some (h▸xs)
  |none=>none
 |.ref r w=>match roots[r]? with
  |some (.arr (.frz e') xs none)=>match Ty.same e' e with
   |some ⟨h⟩=>some (w.of (h▸xs:List e.den))
   |none=>none
  |some (.frz e' xs)=>match Ty.same e' e with
   |some ⟨h⟩=>some (w.of (h▸xs))
   |none=>none
  |some (.bor (.frz e') xs)=>match Ty.same e' e with
   |some ⟨h⟩=>some (w.of (h▸xs:List e.den))
   |none=>none
  |_=>none
 |_=>none
def srcOf(m:Mem)(e:Ty):AV->Option (List e.den)
 |.c (.str s)=>match Ty.same (.int .u8) e with
  |some ⟨h⟩=>some (h▸nums s)
  |none=>none
 |.c x=>x.plain? m.roots e
 |_=>none
def roomFor(P:Program)(elem:TypeId)(n:Nat):Bool:=decide (n*P.bytesOf elem<=2^47)
def appSrc(m md:Mem):(s:Sh)->AV->Option (List s.den×Mem)
 |.frz e,v=>match srcOf m e v with
  |some ys=>some (ys,md)
  |none=>none
 |s,.c .nils=>some ([],md)
 |s,.c (.ref r .full)=>match md.roots[r]? with
  |some (.arr s' ys none)=>match Sh.same s' s with
   |some ⟨h⟩=>some (h▸ys,md.set r .dead)
   |none=>none
  |_=>none
 |_,_=>none
def appendK(P:Program)(m:Mem)(elem:TypeId)(s:Sh)(d v:AV)(K:AV->Mem->Res β):Res β :=
 match d with
 |.c .nils=>match appSrc m m s v with
  |some (ys,m1)=>Res.need (roomFor P elem ys.length) (K (.c (.ref m1.cur .full)) (m1.push (.arr s ys none)))
  |none=>.stuck
 |.c (.ref r w)=>match m.shut r with
  |some m0=>match m0.roots[r]? with
   |some (.arr s' xs none)=>match Sh.same s' s,w.whole s with
    |some ⟨h⟩,true=>match appSrc m0 (m0.set r .dead) s v with
     |some (ys,m1)=>Res.need (roomFor P elem (w.len xs.length+ys.length)) (K (.c (.ref m1.cur .full)) (m1.push (.arr s (w.of (h▸xs:List s.den)++ys) none)))
     |none=>.stuck
    |_,_=>.stuck
   |_=>.stuck
  |none=>.stuck
 |_=>.stuck
def copyK(m:Mem)(e:Ty)(d:AV)(ys:List e.den)(K:AV->Mem->Res β):Res β :=
 match d with
 |.c (.ref r w)=>match m.roots[r]? with
  |some (.arr (.frz e') xs none)=>match Ty.same e' e with
   |some ⟨h⟩=>K (.c (.int .i64 (min ys.length (w.len xs.length):Nat)))
     (m.set r (.arr (.frz e) ((h▸xs:List e.den).take w.off++(ys.take (min ys.length (w.len xs.length))++(h▸xs:List e.den).drop (w.off+min ys.length (w.len xs.length)))) none))
   |none=>.stuck
  |_=>.stuck
 |_=>.stuck
def intsOf:List C->Option (List Int)
 |[]=>some []
 |.int .i64 n::cs=>match intsOf cs with
  |some l=>some (n::l)
  |none=>none
 |_=>none
def keyA:AV->Option (List Int)
 |.agg cs=>intsOf cs
 |_=>none
def keyCells(n:Nat)(l:List Int):List C:=(List.range n).map λi=>.int .i64 (l.getD i 0)
def Env.key?(E:Env)(t:TypeId):Option Nat :=
 match E.P.underlying t with
 |some (.map K _)=>match E.maps.find? λp=>p.1 == K with
  |some p=>some p.2
  |none=>none
 |_=>none
def zero1(P:Program)(t:TypeId):Option C :=
 match P.info? t with
 |some i=>match i.zero with
  |some (.agg _)=>none
  |some v=>some (cellOf v)
  |none=>none
 |none=>none
def mapKey(P:Program)(t:TypeId):Option TypeId :=
 match P.underlying t with
 |some (.map k _)=>some k
 |_=>none
def mapElem(P:Program)(t:TypeId):Option TypeId :=
 match P.underlying t with
 |some (.map _ e)=>some e
 |_=>none
def lookK(m:Mem)(nw n:Nat)(z:C)(x:AV)(l:Option (List Int))(K:AV->Mem->Res β):Res β :=
 match x,l with
 |.c (.mp r),some l=>match m.shutM r with
  |some m0=>match m0.roots[r]? with
   |some (.mapr k s xs none)=>match k == n && (l.length == n && (s.cells == 1 && decide (s.news<=nw))) with
    |true=>Res.look xs l (λi x=>match s.mk x (m0.set r .dead) with
      |(cs,m')=>K (avOf false cs) (m'.set r (.mapr k s xs (some ⟨i,cs⟩)))) (K (.c z) m0)
    |false=>.stuck
   |_=>.stuck
  |none=>.stuck
 |_,_=>.stuck
def updK(m:Mem)(n:Nat)(x:AV)(l:Option (List Int))(v:AV)(K:Mem->Res β):Res β :=
 match x,l,v with
 |.c (.mp r),some l,.c c=>match m.roots[r]? with
  |some (.mapr k s xs foc)=>match k == n && (l.length == n && (s.cells == 1 && !c.isUndef)) with
   |true=>Res.look xs l (λi _=>match foc with
     |some f=>Res.need (f.i == i) (K (m.set r (.mapr k s xs (some ⟨i,[c]⟩))))
     |none=>K (m.set r (.mapr k s xs (some ⟨i,[c]⟩))))
    (match foc with
     |some _=>.stuck
     |none=>match s.get [c] (m.set r .dead) with
      |some (y,[],m')=>K (m'.set r (.mapr k s (xs++[(l,y)]) none))
      |_=>.stuck)
   |false=>.stuck
  |_=>.stuck
 |_,_,_=>.stuck
def mapEntK(m:Mem)(nw n:Nat)(z:C)(x:AV)(l:Option (List Int))(K:AV->Mem->Res β):Res β :=
 match x,l with
 |.c (.mp r),some l=>match m.shutM r with
  |some m0=>match m0.roots[r]? with
   |some (.mapr k s xs none)=>match k == n && (l.length == n && (s.cells == 1 && decide (s.news+1<=nw))) with
    |true=>Res.look xs l (λi x=>match s.mk x (m0.set r .dead) with
      |(cs,m')=>K (.tup [(false,cs),(false,[.stp m'.cur])]) ((m'.push .dead).set r (.mape k s xs i cs m'.cur)))
     (match s.get [z] (m0.set r .dead) with
      |some (y,[],m')=>K (.tup [(false,[z]),(false,[.stp m'.cur])]) ((m'.push .dead).set r (.mape k s (xs++[(l,y)]) xs.length [z] m'.cur))
      |_=>.stuck)
    |false=>.stuck
   |_=>.stuck
  |none=>.stuck
 |_,_=>.stuck
def entStoK(m:Mem)(x st v:AV)(K:Mem->Res β):Res β :=
 match x,st,v with
 |.c (.mp r),.c (.stp q),.c c=>match m.roots[r]? with
  |some (.mape k s xs i _ q')=>match q == q' && (s.cells == 1 && !c.isUndef) with
   |true=>K (m.set r (.mapr k s xs (some ⟨i,[c]⟩)))
   |false=>.stuck
  |_=>.stuck
 |_,_,_=>.stuck
def delK(m:Mem)(n:Nat)(x:AV)(l:Option (List Int))(K:Mem->Res β):Res β :=
 match x,l with
 |.c (.mp r),some l=>match m.shutM r with
  |some m0=>match m0.roots[r]? with
   |some (.mapr k s xs none)=>match k == n && l.length == n with
    |true=>Res.look xs l (λi _=>K (m0.set r (.mapr k s (xs.eraseIdx i) none))) (K m0)
    |false=>.stuck
   |_=>.stuck
  |none=>.stuck
 |_,_=>.stuck
def rangeK(m:Mem)(x:AV)(K:AV->Mem->Res β):Res β :=
 match x with
 |.c (.mp r)=>match m.shutM r with
  |some m0=>match m0.roots[r]? with
   |some (.mapr n s xs none)=>K (.c (.ptr m0.cur 0)) ((m0.set r .dead).push (.itr r n s xs none none))
   |_=>.stuck
  |none=>.stuck
 |_=>.stuck
def entryA(m:Mem)(x:AV):Option AV :=
 match x with
 |.c (.ptr q 0)=>match m.roots[q]? with
  |some (.itr _ n _ _ _ (some (k,N)))=>some (.tup [(true,keyCells n k),(false,[.ref N .full])])
  |_=>none
 |_=>none
def lenA(m:Mem):AV->Option Int
 |.c (.str s)=>some s.length
 |.c (.lst _ xs)=>some xs.length
 |.c .nils=>some 0
 |.c (.ref r w)=>match m.len? r with
  |some n=>some (w.len n:Nat)
  |none=>none
 |_=>none
def minI(x y:Int):Int:=if y < x then y else x
def maxI(x y:Int):Int:=if y > x then y else x
def foldI1(f:Int->Int->Int)(k:IntKind)(x:Int):List AV->Option (IntKind×Int)
 |[]=>some (k,x)
 |.c (.int j y)::r=>match IntKind.same j k with
  |some _=>foldI1 f k (f x y) r
  |none=>none
 |_=>none
def foldI(f:Int->Int->Int):List AV->Option (IntKind×Int)
 |.c (.int k x)::r=>foldI1 f k x r
 |_=>none
def etyOk(P:Program)(el:TypeId)(e:Sh):Bool:=e.cells == P.cellsOf el && (!(e.cells == 0) && (decide (e.minB<=P.bytesOf el) && e.real))
def zeroLen(P:Program)(el:TypeId):Bool :=
 match zeroC P el with
 |some z=>z.length == P.cellsOf el
 |none=>false
def appT(P:Program)(t:TypeId):Bool :=
 match P.underlying t with
 |some (.slice _)|some .string=>true
 |_=>false
def bytesT(P:Program)(t:TypeId):Bool :=
 match P.underlying t with
 |some (.slice el)=>match P.underlying el with
  |some (.int .u8)=>true
  |_=>false
 |_=>false
def getAll(s:Sh):Nat->List C->Mem->Option (List s.den×Mem)
 |0,[],m=>some ([],m)
 |0,_,_=>none
 |n+1,cs,m=>match s.get cs m with
  |some (x,cs',m1)=>match getAll s n cs' m1 with
   |some (xs,m')=>some (x::xs,m')
   |none=>none
  |none=>none
def AV.real:AV->Bool
 |.c x=>!x.isUndef
 |.agg _=>true
 |.tup _=>false
def fillC(place:Nat->Option (Nat×Nat))(cs:List C):List (Nat×AV)->Option (List C)
 |[]=>some cs
 |(i,v)::r=>match place i with
  |some (off,n)=>match v.real && v.cells.length == n with
   |true=>match splice cs off v.cells with
    |some cs'=>fillC place cs' r
    |none=>none
   |false=>none
  |none=>none
def fieldsOk(P:Program)(T:TypeId):Bool :=
 match P.underlying T with
 |some (.struct fs)=>fs.toList.all λf=>(P.info? f.type).isSome
 |_=>false
def placeOf(P:Program)(T:TypeId):Option (Nat->Option (Nat×Nat)) :=
 match fieldsOk P T with
 |true=>some λi=>(fieldOf P T i).map λp=>(p.1,P.cellsOf p.2)
 |false=>match P.underlying T with
  |some (.array _ el)=>match (P.info? el).isSome with
   |true=>some λi=>some (i*P.cellsOf el,P.cellsOf el)
   |false=>none
  |_=>none
def repl(n:Nat)(cs:List C):List C :=
 match n with
 |0=>[]
 |n+1=>cs++repl n cs
def avs(l:List VSh)(vs:List AV):AV :=
 match l,vs with
 |[_],[v]=>v
 |l,vs=>.tup ((l.zip vs).map λp=>(p.1.1,p.2.cells))
def C.isRef:C->Bool
 |.ref _ _=>true
 |.ptr _ _=>true
 |.eptr _ _ _=>true
 |.fn _ caps=>!caps.isEmpty
 |_=>false
def anyRef(args:List AV):Bool:=args.any λv=>v.cells.any C.isRef
def Spec.mut(sp:Spec):Bool:=match boxes sp.ps with
 |[]=>sp.ps.any λp=>match p.v.2 with
  |.bor _=>false
  |.frz t=>t.haslist
  |_=>true
 |_=>true
def Sh.noBor:Sh->Bool
 |.own s=>s.noBor
 |.box s=>s.noBor
 |.clo _ s=>s.noBor
 |.map _ s=>s.noBor
 |.seq a b=>a.noBor && b.noBor
 |.bor _=>false
 |_=>true
def getsK(strict:Bool)(l:List VSh)(args:List AV)(m:Mem):Option (dens l×Mem) :=
 match strict with
 |true=>gets l args m
 |false=>match getsC l args m with
  |some (g,m1)=>match g m1 with
   |some x=>some (x,m1)
   |none=>none
  |none=>none
def callK(sps:List Spec)(f:FuncId)(args:List AV)(m:Mem)(K:AV->Mem->Res β):Res β :=
 match sps with
 |[]=>.stuck
 |sp::r =>
  match sp.f == f && objsOk sp.ps args with
  |true=>match getsK (!((boxes sp.ps).all Sh.noBor)) (sp.ps.map Par.v) args m with
   |some (x,m1)=>Res.bind (sp.run x) λy =>
     match (sp.rs.all λs=>s.2.plain) && (boxes sp.ps).isEmpty with
     |true=>match mks sp.rs (outFst (boxes sp.ps) y) m1 with
      |(vs,m2)=>match backs sp.ps args y m2 with
       |some m3=>K (avs sp.rs vs) m3
       |none=>.stuck
     |false=>Res.given (outsOk (oks sp.rs) (boxes sp.ps) y) (match mks sp.rs (outFst (boxes sp.ps) y) m1 with
      |(vs,m2)=>match backs sp.ps args y m2 with
       |some m3=>K (avs sp.rs vs) m3
       |none=>.stuck)
   |none=>callK r f args m K
  |false=>callK r f args m K
def newsB:List Sh->Nat
 |[]=>0
 |s::r=>s.news+newsB r
def Spec.news(sp:Spec):Nat:=newsL sp.rs+newsB (boxes sp.ps)
def newsCall(sps:List Spec)(f:Option FuncId):Nat :=
 sps.foldl (λn sp=>match f with
  |some g=>match sp.f == g with
   |true=>max n sp.news
   |false=>n
  |none=>max n sp.news) 0
def arrT(P:Program)(t:TypeId):Option (Nat×TypeId) :=
 match P.underlying t with
 |some (.array n e)=>some (n,e)
 |_=>none
def sliceArrK(E:Env)(M:Mem)(n:Nat)(el:TypeId)(x:AV)(K:AV->Mem->Res β):Res β :=
 match x,E.ety el with
 |.c (.ptr r 0),some s=>match M.roots[r]? with
  |some (.box cs)=>match etyOk E.P el s && lenOkS s n with
   |true=>match getAll s n cs (M.set r .dead) with
    |some (xs,m)=>K (.c (.ref m.cur .full)) (m.push (.arr s xs none))
    |none=>.stuck
   |false=>.stuck
  |_=>.stuck
 |_,_=>.stuck
def indexArrA(P:Program)(n:Nat)(el:TypeId)(x i:AV):Option AV :=
 match i with
 |.c (.int _ k)=>match (ile 0 k && ilt k n) && !(P.cellsOf el == 0) with
  |true=>moveAddr x (k.toNat*P.cellsOf el)
  |false=>none
 |_=>none
def newsOf(E:Env)(o:Oper):Nat :=
 match o.op with
 |.alloc _|.box _ _|.buildSlice _ _ _|.makeSlice _ _ _|.makeMap _ _|.range _ _=>1
 |.mapEntry T _ _=>match mapElem E.P T with
  |some el=>match E.ety el with
   |some s=>s.news+1
   |none=>0
  |none=>0
 |.lookup T _ _ _=>match mapElem E.P T with
  |some el=>match E.ety el with
   |some s=>s.news
   |none=>0
  |none=>0
 |.slice t _ _ _ _=>match arrT E.P t with
  |some _=>1
  |none=>0
 |.convert _ dst _=>match E.P.underlying dst with
  |some (.slice _)=>1
  |_=>0
 |.indexAddr T _ _=>match elemOf E.P T with
  |some el=>match E.ety el with
   |some s=>s.news+1
   |none=>0
  |none=>0
 |.call c=>match c.callee with
  |.value (.func f)=>match E.inls.find? λi=>i.f == f with
   |some i=>i.news
   |none=>newsCall E.specs (some f)
  |.value _=>newsCall E.specs none
  |.builtin .append=>1
  |_=>0
 |_=>0
def St.with(st:St)(dst:Option Tmp)(v:AV)(m:Mem):St:=(⟨st.tmps,m,st.dT⟩:St).put dst v
def AV.capOk:AV->Bool
 |.c (.ptr _ 0)=>true
 |.c (.lptr _ _ 0)=>true
 |_=>false
def AV.cap:AV->Cap
 |.c x=>x.cap
 |_=>.root 0
def Root.none?:Root->Option Bool
 |.arr _ xs _=>some xs.isEmpty
 |.bor _ xs=>some xs.isEmpty
 |.frz _ xs=>some xs.isEmpty
 |_=>none
def nilL(P:Program)(t:TypeId)(M:Mem)(op:BinOp):AV->AV->Option (Bool×Bool)
 |.c (.ref r .full),.c .nils=>match P.underlying t,M.roots[r]? with
  |some (.slice _),some x=>match op,x.none? with
   |.eql,some z=>some (z,false)
   |.neq,some z=>some (z,true)
   |_,_=>none
  |_,_=>none
 |_,_=>none
abbrev Foot:=Option (List Nat)
def rootsIn:List C->List Nat
 |[]=>[]
 |.ref r _::cs=>r::rootsIn cs
 |.ptr r _::cs=>r::rootsIn cs
 |.eptr r _ _::cs=>r::rootsIn cs
 |.mp r::cs=>r::rootsIn cs
 |.fn _ caps::cs=>(caps.filterMap λp=>match p with|.root r=>some r|_=>none)++rootsIn cs
 |_::cs=>rootsIn cs
def Root.open:Root->List C
 |.box cs=>cs
 |.arr _ _ (some f)=>f.cells
 |.mapr _ _ _ (some f)=>f.cells
 |.mape _ _ _ _ cs _=>cs
 |.itr r _ _ _ _ (some (_,N))=>[.mp r,.ref N .full]
 |.itr r _ _ _ _ none=>[.mp r]
 |.bbox cs=>cs
 |_=>[]
def Mem.next(m:Mem)(l:List Nat):List Nat :=
 l.flatMap λr=>match m.roots[r]? with
  |some x=>rootsIn x.open
  |none=>[]
def addNew:List Nat->List Nat->List Nat
 |[],acc=>acc
 |r::rs,acc=>match acc.contains r with
  |true=>addNew rs acc
  |false=>addNew rs (r::acc)
def Mem.reachN(m:Mem):Nat->List Nat->List Nat
 |0,l=>l
 |n+1,l=>match addNew (m.next l) l with
  |l'=>match l'.length == l.length with
   |true=>l
   |false=>Mem.reachN m n l'
def Mem.reach(m:Mem)(cs:List C):Foot :=
 match m.reachN 8 (addNew (rootsIn cs) []) with
 |l=>match (m.next l).all l.contains with
  |true=>some l
  |false=>none
def nodupN:List Nat->Bool
 |[]=>true
 |r::rs=>!(rs.contains r) && nodupN rs
def inlOf(E:Env)(o:Oper):Option (Inl×List Operand) :=
 match o.op with
 |.call c=>match c.callee with
  |.value (.func f)=>match E.inls.find? λi=>i.f == f with
   |some i=>some (i,c.args.toList)
   |none=>none
  |_=>none
 |_=>none
def Cap.ren(f:Nat->Nat):Cap->Cap
 |.root r=>.root (f r)
 |x=>x
def C.ren(f:Nat->Nat):C->C
 |.ref r w=>.ref (f r) w
 |.ptr r o=>.ptr (f r) o
 |.eptr r i o=>.eptr (f r) i o
 |.fn g caps=>.fn g (caps.map (Cap.ren f))
 |c=>c
def C.calm:C->Bool
 |.mp _|.stp _=>false
 |_=>true
def AV.ren(f:Nat->Nat):AV->AV
 |.c x=>.c (x.ren f)
 |.agg cs=>.agg (cs.map (C.ren f))
 |.tup l=>.tup (l.map λp=>(p.1,p.2.map (C.ren f)))
def AV.calm:AV->Bool
 |.c x=>x.calm
 |.agg cs=>cs.all C.calm
 |.tup l=>l.all λp=>p.2.all C.calm
def AV.isTup:AV->Bool
 |.tup _=>true
 |_=>false
def Root.ren(f:Nat->Nat):Root->Root
 |.box cs=>.box (cs.map (C.ren f))
 |.bbox cs=>.bbox (cs.map (C.ren f))
 |.arr s xs (some k)=>.arr s xs (some ⟨k.i,k.cells.map (C.ren f)⟩)
 |x=>x
def Root.calm:Root->Bool
 |.box cs|.bbox cs=>cs.all C.calm
 |.arr _ _ (some k)=>k.cells.all C.calm
 |.mapr _ _ _ _|.mape _ _ _ _ _ _|.itr _ _ _ _ _ _=>false
 |_=>true
def Root.isDead:Root->Bool
 |.dead=>true
 |_=>false
def Mem.root(m:Mem)(r:Nat):Root:=(m.roots[r]?).getD .dead
def posN:List Nat->Nat->Nat
 |[],_=>0
 |x::l,r=>match x == r with
  |true=>0
  |false=>posN l r+1
def backN(l:List Nat)(c i:Nat):Nat :=
 match l[i]? with
 |some r=>r
 |none=>c+(i-l.length)
def Mem.lift(M:Mem)(l:List Nat)(m:Mem):Mem :=
 ⟨M.roots.zipIdx.map λp=>match l.contains p.2 with
  |true=>match m.dR.testBit (posN l p.2) with
   |true=>(m.root (posN l p.2)).ren (backN l M.cur)
   |false=>p.1
  |false=>match Nat.ble M.cur p.2 && Nat.blt (p.2-M.cur+l.length) m.roots.length with
   |true=>(m.root (p.2-M.cur+l.length)).ren (backN l M.cur)
   |false=>p.1,
(l.filter λr=>m.dR.testBit (posN l r)).foldl (λd r=>d ||| 2^r) M.dR,M.cur+(m.roots.length-l.length)⟩
def inlIn(xs:List AV)(M:Mem)(l:List Nat):Bool :=
 nodupN l && ((xs.all λx=>x.calm && !x.isTup) && ((M.roots.zipIdx.all λp=>match l.contains p.2 with
  |true=>p.1.calm && !p.1.isDead
  |false=>p.1.isDead) && ((l.all λr=>Nat.blt r M.roots.length) && ((rootsIn (xs.flatMap AV.cells)).all l.contains && (M.next l).all l.contains))))
def inlOut(M:Mem)(l:List Nat)(n:Nat)(v:AV)(m:Mem):Bool :=
 v.calm && (Nat.ble l.length m.roots.length && (Nat.ble m.roots.length (l.length+n) && (Nat.ble (M.cur+(m.roots.length-l.length)) M.roots.length && m.roots.all Root.calm)))
def inlK(j:Inl)(xs:List AV)(M:Mem)(K:AV->Mem->Res β):Res β :=
 match M.reach (xs.flatMap AV.cells) with
 |some l=>match inlIn xs M l with
  |true=>j.run β (xs.map (AV.ren (posN l))) ⟨l.map λr=>(M.root r).ren (posN l),0,l.length⟩ λv m=>match inlOut M l j.news v m with
   |true=>K (v.ren (backN l M.cur)) (M.lift l m)
   |false=>.stuck
  |false=>.stuck
 |none=>.stuck
def markK(b:Bool)(x:C)(M:Mem)(K:AV->Mem->Res β):Res β :=
 match b,x with
 |true,.ref r .full=>match M.roots[r]? with
  |some (.arr (.frz (.int .u8)) (y::xs) none)=>K (.c (.ref r .full)) (M.set r (.arr (.frz (.int .u8)) (y::xs) none))
  |_=>.stuck
 |_,_=>.stuck
def stepV(E:Env)(ρ:Operand->AV)(M:Mem)(o:Oper)(K:AV->Mem->Res β):Res β :=
 match o.op with
 |.move x=>K (ρ x) M
 |.assign x=>K (ρ x) M
 |.pick c a b=>match ρ c with
  |.c (.bool t)=>pickK t (ρ a) (ρ b) λv=>K v M
  |_=>.stuck
 |.alloc T=>match E.sbs.find? λp=>p.1 == T with
  |some p=>match zeroC E.P T with
   |some [.nilp,.nils]=>K (.c (.ptr M.cur 0)) (M.push (.sb p []))
   |_=>.stuck
  |none=>match zeroC E.P T with
   |some cs=>K (.c (.ptr M.cur 0)) (M.push (.box cs))
   |none=>.stuck
 |.box T x=>match (ρ x).real && (ρ x).cells.length == E.P.cellsOf T with
  |true=>K (.c (.ptr M.cur 0)) (M.push (.box (ρ x).cells))
  |false=>.stuck
 |.build T parts=>match zeroC E.P T,placeOf E.P T with
  |some cs,some pl=>match fillC pl cs (parts.toList.map λp=>(p.1,ρ p.2)) with
   |some cs'=>K (.agg cs') M
   |none=>.stuck
  |_,_=>.stuck
 |.buildSlice T n parts=>match elemOf E.P T with
  |some el=>match E.ety el,zeroC E.P el with
   |some s,some z=>match z.length == E.P.cellsOf el && (etyOk E.P el s && (decide (n*E.P.cellsOf el<=2^24) && lenOkS s n)) with
    |true=>match fillC (λi=>some (i*E.P.cellsOf el,E.P.cellsOf el)) (repl n z) (parts.toList.map λp=>(p.1,ρ p.2)) with
     |some cs=>match getAll s n cs M with
      |some (xs,m)=>K (.c (.ref m.cur .full)) (m.push (.arr s xs none))
      |none=>.stuck
     |none=>.stuck
    |false=>.stuck
   |_,_=>.stuck
  |none=>.stuck
 |.load T a=>match kindOk E.P T with
  |true=>loadK M (E.P.cellsOf T) (ρ a) λcs=>K (avOf (aggT E.P T) cs) M
  |false=>.stuck
 |.store T a x=>match kindOk E.P T && ((ρ x).real && ((ρ x).cells.length == E.P.cellsOf T && !((ρ x).cells.any C.isUndef))) with
  |true=>storeK M (ρ a) (ρ x).cells λm=>K (.c .undef) m
  |false=>.stuck
 |.nilCheck x=>match ρ x with
  |.c (.ptr r off)=>K (.c (.ptr r off)) M
  |.c (.eptr r i off)=>K (.c (.eptr r i off)) M
  |.c (.lptr e v off)=>K (.c (.lptr e v off)) M
  |_=>.stuck
 |.binOp op t x y _=>match nilL E.P t M op (ρ x) (ρ y) with
  |some q=>Res.need (!q.1) (K (.c (.bool q.2)) M)
  |none=>binK E.P t (aConst x y) op (ρ x) (ρ y) λv=>K v M
 |.unOp op _ x=>match unA op (ρ x) with
  |some v=>K v M
  |none=>.stuck
 |.convert src dst x=>match ρ x,(E.P.underlying src).isSome with
  |.c (.int _ n),true=>match E.P.underlying dst with
   |some (.int k)=>K (.c (.int k (k.wrap n))) M
   |_=>.stuck
  |.c (.str s),true=>match E.P.underlying dst with
   |some .string=>K (.c (.str s)) M
   |some (.slice el)=>match E.P.underlying el with
    |some (.int .u8)=>K (.c (.ref M.cur .full)) (M.push (.arr (.frz (.int .u8)) (nums s) none))
    |_=>.stuck
   |_=>.stuck
  |.c x,true=>match bytesT E.P src,E.P.underlying dst,x.plain? M.roots (.int .u8) with
   |true,some .string,some l=>K (.c (.str (byts l))) M
   |_,_,_=>markK (src == dst && bytesT E.P src) x M K
  |_,_=>.stuck
 |.makeFunc (.func f) first caps=>match first.isEmpty && caps.toList.all λx=>(ρ x).capOk with
  |true=>K (.c (.fn f (caps.toList.map λx=>(ρ x).cap))) M
  |false=>.stuck
 |.makeSlice T l c=>match elemOf E.P T,ρ l,ρ c with
  |some el,.c (.int _ n),.c (.int _ m)=>match E.ety el,zeroC E.P el with
   |some (.frz e),some z=>match e.rdBy (C.zlist? []) z,etyOk E.P el (.frz e) with
    |some (x,[]),true=>Res.need (ile 0 n && (ile n m && roomFor E.P el m.toNat)) (K (.c (.ref M.cur .full)) (M.push (.arr (.frz e) (List.replicate n.toNat x) none)))
    |_,_=>.stuck
   |_,_=>.stuck
  |_,_,_=>.stuck
 |.slice t x lo hi none=>match arrT E.P t with
  |some p=>match lo,hi with
   |none,none=>sliceArrK E M p.1 p.2 (ρ x) λv m=>K v m
   |_,_=>.stuck
  |none=>match bndOf (lo.map (ρ)),bndOf (hi.map (ρ)) with
   |some l,some h=>match typeFits E.P t M (ρ x) with
    |true=>sliceK M (ρ x) l h λv=>K v M
    |false=>.stuck
   |_,_=>.stuck
 |.fieldAddr T x f=>match fieldOf E.P T f with
  |some (off,ft)=>match moveAddr (ρ x) off,E.P.cellsOf ft == 0 with
   |some a,false=>K a M
   |_,_=>.stuck
  |none=>.stuck
 |.field T x f=>match fieldOf E.P T f,ρ x with
  |some (off,ft),.agg cs=>match kindOk E.P ft && decide (off+E.P.cellsOf ft<=cs.length) with
   |true=>K (avOf (aggT E.P ft) ((cs.drop off).take (E.P.cellsOf ft))) M
   |false=>.stuck
  |_,_=>.stuck
 |.indexAddr t x i=>match arrT E.P t with
  |some p=>match indexArrA E.P p.1 p.2 (ρ x) (ρ i) with
   |some v=>K v M
   |none=>.stuck
  |none=>match typeFits E.P t M (ρ x) && decide (M.newsAt (ρ x)<=newsOf E o) with
   |true=>indexAddrK M (ρ x) (ρ i) λa m=>K a m
   |false=>.stuck
 |.index t x i=>match strT E.P t,ρ x,ρ i with
  |true,.c (.str s),.c (.int _ n)=>Res.idx (.int .u8) (nums s) n λb=>K (.c (.int .u8 b)) M
  |_,_,_=>.stuck
 |.extract t i=>match ρ t with
  |.tup vs=>match vs[i]? with
   |some (agg,cs)=>K (avOf agg cs) M
   |none=>.stuck
  |_=>.stuck
 |.makeMap T none=>match E.key? T,(mapElem E.P T).bind E.ety with
  |some n,some s=>K (.c (.mp M.cur)) (M.push (.mapr n s [] none))
  |_,_=>.stuck
 |.lookup T x i false=>match E.key? T,(mapElem E.P T).bind (zero1 E.P) with
  |some n,some z=>lookK M (newsOf E o) n z (ρ x) (keyA (ρ i)) λv m=>K v m
  |_,_=>.stuck
 |.mapUpdate T x i v=>match E.key? T with
  |some n=>updK M n (ρ x) (keyA (ρ i)) (ρ v) λm=>K (.c .undef) m
  |none=>.stuck
 |.mapEntry T x i=>match E.key? T,(mapElem E.P T).bind (zero1 E.P) with
  |some n,some z=>mapEntK M (newsOf E o) n z (ρ x) (keyA (ρ i)) λv m=>K v m
  |_,_=>.stuck
 |.entryStore _ x i v=>entStoK M (ρ x) (ρ i) (ρ v) λm=>K (.c .undef) m
 |.range T x=>match E.key? T with
  |some _=>rangeK M (ρ x) λv m=>K v m
  |none=>.stuck
 |.entry x=>match entryA M (ρ x) with
  |some v=>K v M
  |none=>.stuck
 |.call c=>match c.callee with
  |.value f=>match inlOf E o with
   |some (j,xs)=>inlK j (xs.map ρ) M λv m=>K v m
   |none=>match ρ f with
    |.c (.fn f caps)=>callK E.specs f (c.args.toList.map (ρ)++caps.map λp=>.c p.cell) M λv m=>K v m
    |_=>.stuck
  |.builtin .len=>match c.args.toList,c.argTypes.toList with
   |[x],t::_=>match lenA M (ρ x),typeFits E.P t M (ρ x) with
    |some n,true=>K (.c (.int .i64 n)) M
    |_,_=>.stuck
   |_,_=>.stuck
  |.builtin .append=>match c.args.toList,c.argTypes.toList with
   |[d,s],T::U::_=>match elemOf E.P T with
    |some el=>match E.ety el with
     |some w=>match etyOk E.P el w && (appT E.P U && zeroLen E.P el) with
      |true=>appendK E.P M el w (ρ d) (ρ s) λv m=>K v m
      |false=>.stuck
     |_=>.stuck
    |none=>.stuck
   |_,_=>.stuck
  |.builtin .copy=>match c.args.toList,c.argTypes.toList with
   |[d,s],T::_=>match elemOf E.P T with
    |some el=>match E.ety el with
     |some (.frz e)=>match srcOf M e (ρ s),etyOk E.P el (.frz e) with
      |some ys,true=>copyK M e (ρ d) ys λv m=>K v m
      |_,_=>.stuck
     |_=>.stuck
    |none=>.stuck
   |_,_=>.stuck
  |.builtin .delete=>match c.args.toList,c.argTypes.toList with
   |[x,i],[T,U]=>match E.key? T,mapKey E.P T == some U with
    |some n,true=>delK M n (ρ x) (keyA (ρ i)) λm=>K (.tup []) m
    |_,_=>.stuck
   |_,_=>.stuck
  |.builtin .min=>match foldI minI (c.args.toList.map (ρ)) with
   |some (k,n)=>K (.c (.int k n)) M
   |none=>.stuck
  |.builtin .max=>match foldI maxI (c.args.toList.map (ρ)) with
   |some (k,n)=>K (.c (.int k n)) M
   |none=>.stuck
  |_=>.stuck
 |_=>.stuck
def step(E:Env)(st:St)(o:Oper)(K:St->Res β):Res β:=stepV E (val st) st.mem o λv m=>K (st.with o.dst v m)
def isGuard(ops:Array Oper)(dst:Option Tmp):Bool :=
 match dst with
 |some d=>ops.toList.any λo=>match o.guard with
  |some (j,_)=>match ops[j]? with
   |some p=>p.dst == some d
   |none=>false
  |none=>false
 |none=>false
def splitK(st:St)(dst:Option Tmp)(K:St->Res β):Res β :=
 match dst with
 |some d=>match st.get d with
  |.c (.bool t)=>Res.br t (K (st.put (some d) (.c (.bool true)))) (K (st.put (some d) (.c (.bool false))))
  |_=>.stuck
 |none=>K st
def wantedA(ops:Array Oper)(st:St)(o:Oper):Option Bool :=
 match o.guard with
 |none=>some true
 |some (j,want)=>match ops[j]? with
  |some p=>match p.dst with
   |some d=>match st.get d with
    |.c (.bool t)=>some (t == want)
    |.tup _=>some false
    |_=>none
   |none=>none
  |none=>none
def span(c n:Nat):List Nat:=(List.range n).map λk=>c+k
def Root.soft:Option Root->Bool
 |some (.bor _ _)|some (.bbox _)|some (.frz _ _)=>false
 |_=>true
def footAll(m:Mem)(cs:List C)(w:Bool)(n:Nat):Foot×Foot :=
 match m.reach cs with
 |some l=>match w with
  |true=>(some l,some (span m.cur n++l.filter λr=>Root.soft m.roots[r]?))
  |false=>(some l,some (span m.cur n))
 |none=>(none,none)
def foot(E:Env)(st:St)(o:Oper):Foot×Foot :=
 match o.op with
 |.load _ a=>match val st a with
  |.c (.ptr r _)=>(some [r],some [])
  |.c (.eptr r _ _)=>(some [r],some [])
  |_=>(some [],some [])
 |.store _ a x=>match val st a,(val st x).cells.any C.isRef with
  |.c (.ptr r _),_=>(some [r],some [r])
  |.c (.eptr r _ _),false=>(some [r],some [r])
  |v,_=>footAll st.mem (v.cells++(val st x).cells) true 0
 |.indexAddr _ x _=>match val st x with
  |.c (.ref r _)=>match st.mem.roots[r]? with
   |some (.arr (.frz _) _ none)=>(some [r],some [])
   |some (.arr s _ none)=>(some [r],some (r::span st.mem.cur s.news))
   |some (.bor s _)=>(some [r],some (span st.mem.cur (s.news+1)))
   |_=>(some [r],some [])
  |_=>(some [],some [])
 |.slice _ x _ _ _=>match val st x with
  |.c (.ref r _)=>(some [r],some [])
  |.c (.ptr _ _)=>footAll st.mem (val st x).cells true 1
  |_=>(some [],some [])
 |.alloc _|.box _ _|.makeSlice _ _ _|.makeMap _ _=>(some [],some [st.mem.cur])
 |.lookup _ x _ _=>footAll st.mem (val st x).cells true (newsOf E o)
 |.mapEntry _ x _=>footAll st.mem (val st x).cells true (newsOf E o)
 |.entryStore _ x _ v=>footAll st.mem ((val st x).cells++(val st v).cells) true 0
 |.mapUpdate _ x _ v=>footAll st.mem ((val st x).cells++(val st v).cells) true 0
 |.range _ x=>footAll st.mem (val st x).cells true 1
 |.entry x=>footAll st.mem (val st x).cells false 0
 |.buildSlice _ _ ps=>footAll st.mem (ps.toList.flatMap λp=>(val st p.2).cells) true 1
 |.convert src dst x=>footAll st.mem (val st x).cells (src == dst) (newsOf E o)
 |.call c=>match c.callee with
  |.value f=>footAll st.mem ((val st f).cells++c.args.toList.flatMap λx=>(val st x).cells)
    (match val st f with
     |.c (.fn g _)=>(E.inls.any λi=>i.f == g) || E.specs.any λsp=>sp.f == g && sp.mut
     |_=>true) (newsOf E o)
  |.builtin .len=>match c.args.toList.flatMap λx=>(val st x).cells with
   |cs=>(some (rootsIn cs),some [])
  |.builtin .min|.builtin .max=>(some [],some [])
  |.builtin .append=>match c.args.toList,c.argTypes.toList with
   |[d,s],T::_=>match (elemOf E.P T).bind E.ety with
    |some (.frz _)=>match st.mem.reach ((val st d).cells++(val st s).cells),st.mem.reach (val st d).cells with
     |some l,some l'=>(some l,some (st.mem.cur::l'))
     |_,_=>(none,none)
    |_=>footAll st.mem ((val st d).cells++(val st s).cells) true 1
   |_,_=>(none,none)
  |.builtin _=>footAll st.mem (c.args.toList.flatMap λx=>(val st x).cells) true 1
  |_=>(none,none)
 |_=>(some [],some [])
def Foot.off:Foot->Foot->Bool
 |some a,some b=>a.all λr=>!b.contains r
 |some [],none|none,some []=>true
 |_,_=>false
def ancOf(acc:List Nat)(o:Oper):Nat :=
 o.after.toList.foldl (λs e=>match Region.binds .any e with
  |true=>s ||| 2^e.on ||| (acc[e.on]?).getD 0
  |false=>s) 0
def ancs:List Oper->List Nat->List Nat
 |[],acc=>acc
 |o::r,acc=>ancs r (acc++[ancOf acc o])
def ancOk(ops:Array Oper)(A:List Nat):Bool :=
 (ops.toList.zip A).all λp=>p.2 == ancOf A p.1
def ahead(A:List Nat)(i j:Nat):Bool:=((A[j]?).getD 0).testBit i
def slotsOk(ops:Array Oper)(A:List Nat)(j:Nat)(o:Oper)(i:Nat)(p:Oper):Bool :=
 match i == j with
 |true=>true
 |false=>match p.dst with
  |some d=>match (o.looksAt ops).contains d || o.dst == some d with
   |true=>ahead A i j || ahead A j i
   |false=>true
  |none=>true
def slotsAll(ops:Array Oper)(A:List Nat):Bool :=
 (ops.toList.zipIdx).all λq=>(ops.toList.zipIdx).all λp=>slotsOk ops A q.2 q.1 p.2 p.1
def edgesOk(ops:Array Oper):Bool:=(ops.toList.zipIdx).all λp=>p.1.after.toList.all λe=>!(Region.binds .any e) || decide (e.on < p.2)
abbrev Log:=List (Nat×Foot×Foot)
def logFits(A:List Nat)(i:Nat)(f:Foot×Foot)(l:Log):Bool :=
 match f with
 |(some [],some [])=>true
 |f=>l.all λp=>(p.2.2.off f.1 && (f.2.off p.2.1 && f.2.off p.2.2)) || ahead A p.1 i
def logPut(i:Nat)(f:Foot×Foot)(l:Log):Log :=
 match f with
 |(some [],some [])=>l
 |f=>(i,f)::l
def Mem.at(m:Mem)(c:Nat):Mem:=⟨m.roots,m.dR,c⟩
def maskR(l:List Nat):Nat->List Root->List Root
 |_,[]=>[]
 |i,x::xs=>(match l.contains i with
  |true=>x
  |false=>.dead)::maskR l (i+1) xs
def Mem.mask(m:Mem):Foot->Mem
 |some l=>⟨maskR l 0 m.roots,m.dR,m.cur⟩
 |none=>m
def takeR(l:List Nat):Nat->List Root->List Root->List Root
 |_,[],_=>[]
 |i,x::xs,ys=>(match l.contains i with
  |true=>(match ys with
   |y::_=>y
   |[]=>x)
  |false=>x)::takeR l (i+1) xs (match ys with
   |_::ys=>ys
   |[]=>[])
def Mem.over(m m':Mem):Foot->Mem
 |some []=>m
 |some l=>⟨takeR l 0 m.roots m'.roots,l.foldl (λd r=>d ||| 2^r) m.dR,m.cur⟩
 |none=>⟨m'.roots,m.dR ||| (2^m.roots.length-1),m.cur⟩
def Mem.view(m:Mem)(c:Nat)(R:Foot):Mem:=⟨(m.mask R).roots,0,c⟩
def overOk(n:Nat)(m:Mem):Foot->Bool
 |some l=>(List.range n).all λr=>!(m.dR.testBit r) || l.contains r
 |none=>true
def guardK(ops:Array Oper)(dst:Option Tmp)(st:St)(K:St->Res β):Res β :=
 match isGuard ops dst with
 |true=>splitK st dst K
 |false=>K st
def newsAll(E:Env)(ops:List Oper):Nat:=ops.foldl (λn o=>n+newsOf E o) 0
def Mem.room(m:Mem)(n:Nat):Mem:=⟨m.roots++List.replicate n .dead,m.dR,m.cur⟩
def execOps(E:Env)(ops:Array Oper)(A:List Nat):List Oper->Nat->Nat->Log->St->(St->Res β)->Res β
 |[],_,c,_,st,K=>K ⟨st.tmps,st.mem.at c,st.dT⟩
 |o::rest,i,c,l,st,K =>
  match wantedA ops st o with
  |some true=>match E.dr with
   |true=>match foot E ⟨st.tmps,st.mem.at c,st.dT⟩ o with
    |f=>match logFits A i f l with
     |true=>stepV E (val st) (st.mem.view c f.1) o λv m=>match overOk st.mem.roots.length m f.2 with
      |true=>guardK ops o.dst (st.with o.dst v (st.mem.over m f.2)) λst'=>execOps E ops A rest (i+1) (c+newsOf E o) (logPut i f l) st' K
      |false=>.stuck
     |false=>.stuck
   |false=>match inlOf E o with
    |some (j,xs)=>j.run β (xs.map (val st)) (st.mem.at c) λv m=>guardK ops o.dst (st.with o.dst v (m.room (newsAll E rest))) λst'=>execOps E ops A rest (i+1) m.roots.length l st' K
    |none=>stepV E (val st) (st.mem.at c) o λv m=>guardK ops o.dst (st.with o.dst v m) λst'=>execOps E ops A rest (i+1) (c+newsOf E o) l st' K
  |some false=>execOps E ops A rest (i+1) (c+newsOf E o) l (st.put o.dst (.tup [])) K
  |none=>.stuck
inductive EKey where
 |nrm|ret
 |ext (n:Nat)
def EKey.same:EKey->EKey->Bool
 |.nrm,.nrm|.ret,.ret=>true
 |.ext a,.ext b=>a == b
 |_,_=>false
structure Cut where
 sl:List (Nat×VSh)
 kill:List Nat
 rt:List (Nat×Sh)
 kr:List Nat
@[reducible] def Cut.shs(c:Cut):List VSh:=c.sl.map (·.2)++c.rt.map λp=>(false,p.2)
@[reducible] def Cut.den(c:Cut):Type:=dens c.shs
def rootCell(m:Mem)(r:Nat):C :=
 match m.roots[r]? with
 |some (.box _)=>.ptr r 0
 |some (.arr _ _ _)=>.ref r .full
 |some (.sb _ _)=>.ptr r 0
 |_=>.undef
def subset(a b:List Nat):Bool:=a.all λx=>b.contains x
def Cut.get(c:Cut)(n0:Nat)(st:St):Option c.den :=
 match gets c.shs (c.sl.map (λp=>st.get p.1)++c.rt.map λp=>.c (rootCell st.mem p.1)) st.mem with
 |some (x,m) =>
  match subset st.dT (c.sl.map (·.1)++c.kill) && (nodupN (c.rt.map (·.1)) && (nodupN (c.sl.map (·.1)) && c.rt.all λp=>p.2.objOk && decide (p.1 < n0))),subset ((List.range n0).filter λr=>m.dR.testBit r) (c.rt.map (·.1)++c.kr) with
  |true,true=>some x
  |_,_=>none
 |none=>none
def setAll(ts:List AV):List (Nat×AV)->List AV
 |[]=>ts
 |(i,v)::r=>setAll (ts.set i v) r
def killAll(roots:List Root):List Nat->List Root
 |[]=>roots
 |r::rs=>killAll (roots.set r .dead) rs
def rootsBack(m:Mem):List Nat->List AV->Mem
 |r::rs,v::vs=>match v with
  |.c x=>match x.root? with
   |some q=>rootsBack (m.move q r) rs vs
   |none=>rootsBack m rs vs
  |_=>rootsBack m rs vs
 |_,_=>m
def Cut.put(c:Cut)(st:St)(x:c.den):St :=
 match mks c.shs x ⟨killAll st.mem.roots (c.kr++c.rt.map (·.1))++List.replicate (newsL c.shs) .dead,(c.kr++c.rt.map (·.1)).foldl (λd r=>d ||| 2^r) st.mem.dR,st.mem.roots.length⟩ with
 |(vs,m)=>⟨setAll st.tmps ((c.sl.map (·.1)).zip vs++c.kill.map λk=>(k,.c .undef)),
   rootsBack m (c.rt.map (·.1)) (vs.drop c.sl.length),c.sl.map (·.1)++(c.kill++st.dT)⟩
abbrev Exits:=List (EKey×Cut)
@[reducible] def Exits.den:Exits->Type
 |[]=>Empty
 |[a]=>a.2.den
 |a::b::r=>a.2.den ⊕ Exits.den (b::r)
structure Kont (β:Type) where
 nrm:St->Res β
 ext:Nat->St->Res β
 ret:St->Res β
def Kont.at{β:Type}(K:Kont β):EKey->St->Res β
 |.nrm=>K.nrm
 |.ret=>K.ret
 |.ext n=>K.ext n
def Exits.inj(n0:Nat)(k:EKey)(st:St):(l:Exits)->Res l.den
 |[]=>.stuck
 |[a]=>match a.1.same k with
  |true=>match a.2.get n0 st with
   |some x=>.ok x
   |none=>.stuck
  |false=>.stuck
 |a::b::r=>match a.1.same k with
  |true=>match a.2.get n0 st with
   |some x=>.ok (.inl x)
   |none=>.stuck
  |false=>Res.bind (Exits.inj n0 k st (b::r)) λy=>.ok (.inr y)
def Exits.go{β:Type}(st:St)(K:Kont β):(l:Exits)->l.den->Res β
 |[],_=>.stuck
 |[a],x=>K.at a.1 (a.2.put st x)
 |a::b::r,x=>Res.sum x (λy=>K.at a.1 (a.2.put st y)) (λy=>Exits.go st K (b::r) y)
inductive Ann where
 |none
 |two (a b:Ann)
 |piece (ex:Exits) (a:Ann)
 |loop (head:Cut) (ex:Exits) (a:Ann)
 |range (head:Cut) (ex:Exits) (a:Ann)
 |unr (a r:Ann)
def Ann.left:Ann->Ann
 |.two a _=>a
 |_=>.none
def Ann.right:Ann->Ann
 |.two _ b=>b
 |_=>.none
def Ann.exits:Ann->Option Exits
 |.piece ex _=>some ex
 |_=>Option.none
def Ann.inner:Ann->Ann
 |.piece _ a=>a
 |a=>a
def Ann.noRange:Ann->Bool
 |.none=>true
 |.two a b=>a.noRange && b.noRange
 |.piece _ a=>a.noRange
 |.loop _ _ a=>a.noRange
 |.range _ _ _=>false
 |.unr a r=>a.noRange && r.noRange
def fuel:Nat:=2^70
def fresh(st:St):St:=⟨st.tmps,⟨st.mem.roots,0,st.mem.roots.length⟩,[]⟩
def kex(n0:Nat)(ex:Exits):Kont ex.den :=
 {nrm:=λst=>ex.inj n0 .nrm st,ext:=λn st=>ex.inj n0 (.ext n) st,ret:=λst=>ex.inj n0 .ret st }
def kloop(n0:Nat)(head:Cut)(ex:Exits):Kont (Res.Step head.den ex.den) :=
 {nrm:=λst=>match head.get n0 st with
   |some x=>.ok (.next x)
   |none=>.stuck
  ext:=λn st=>Res.bind (ex.inj n0 (.ext n) st) λy=>.ok (.done y)
  ret:=λst=>Res.bind (ex.inj n0 .ret st) λy=>.ok (.done y) }
def cutAt{β:Type}(ann:Ann)(st:St)(K:Kont β)(run:(γ:Type)->Ann->St->Kont γ->Res γ):Res β :=
 match ann.exits with
 |some ex=>Res.bind (run ex.den ann.inner (fresh st) (kex st.mem.roots.length ex)) λx=>ex.go st K x
 |none=>run β ann st K
def dsts(ops:Array Oper):List Nat:=ops.toList.filterMap (·.dst)
def nextOps(ops:Array Oper):Option (Tmp×Tmp×Tmp) :=
 match ops.toList with
 |[⟨some a,.next (.tmp it) false,_,_,_,none⟩,⟨some b,.extract (.tmp a') 0,_,_,_,none⟩]=>match a == a' && !(a == b) with
  |true=>some (it,a,b)
  |false=>none
 |_=>none
def St.lose(s:St)(a b:Tmp):St:=⟨(s.tmps.set a (.c .undef)).set b (.c .undef),s.mem,a::b::s.dT⟩
def St.join(b s:St):St:=⟨s.tmps,⟨s.mem.roots,b.mem.dR ||| s.mem.dR,s.mem.cur⟩,s.dT++b.dT⟩
def St.enter(s:St)(a b:Tmp)(q r n:Nat)(sh:Sh)(xs left:List (List Int×(Sh.own sh).den))(e:List Int×(Sh.own sh).den):St :=
 ⟨(s.tmps.set a (.c .undef)).set b (.c .undef),⟨(s.mem.roots++[Root.arr sh e.2 none]).set q (.itr r n (.own sh) xs (some (Res.keyIn left)) (some (e.1,s.mem.roots.length))),0,s.mem.roots.length+1⟩,[]⟩
def St.leave(s0:St)(a b:Tmp)(q:Nat)(s:St):Option St :=
 match s.mem.dR.testBit q || s.mem.dR.testBit s0.mem.roots.length with
 |true=>none
 |false=>some ⟨s.tmps,⟨(s.mem.roots.set q .dead).set s0.mem.roots.length .dead,s0.mem.dR ||| s.mem.dR,s.mem.cur⟩,a::b::s.dT++s0.dT⟩
def St.back(s:St)(r:Nat)(x:Root):Option St :=
 match s.mem.roots[r]? with
 |some .dead=>some ⟨s.tmps,s.mem.set r x,s.dT⟩
 |_=>none
def St.atIt{β:Type}(s:St)(it q:Nat)(k:Res β):Res β :=
 match s.get it,s.mem.roots[q]? with
 |.c (.ptr q' 0),some .dead=>match q' == q with
  |true=>k
  |false=>.stuck
 |_,_=>.stuck
def kback{β:Type}(K:Kont β)(r:Nat)(x:Root):Kont β :=
 {nrm:=λs=>match s.back r x with
   |some s=>K.nrm s
   |none=>.stuck
  ext:=λn s=>match s.back r x with
   |some s=>K.ext n s
   |none=>.stuck
  ret:=λs=>match s.back r x with
   |some s=>K.ret s
   |none=>.stuck }
def kround(n0:Nat)(head:Cut)(ex:Exits)(s0:St)(a b:Tmp)(q:Nat):Kont (Res.Step head.den ex.den) :=
 {nrm:=λs=>match s0.leave a b q s with
   |some s=>match head.get n0 s with
    |some x=>.ok (.next x)
    |none=>.stuck
   |none=>.stuck
  ext:=λn s=>match s0.leave a b q s with
   |some s=>Res.bind (ex.inj n0 (.ext n) s) λy=>.ok (.done y)
   |none=>.stuck
  ret:=λs=>match s0.leave a b q s with
   |some s=>Res.bind (ex.inj n0 .ret s) λy=>.ok (.done y)
   |none=>.stuck }
def rangeLoop{β:Type}(run:(γ:Type)->Ann->St->Kont γ->Res γ)(ops:Array Oper)(c:Operand)(id:Nat)(head:Cut)(ex:Exits)(a':Ann)(st:St)(K:Kont β):Res β :=
 match nextOps ops,c with
 |some (it,a,b),.tmp g=>match g == b && (decide (a < st.tmps.length) && decide (b < st.tmps.length)),st.get it with
  |true,.c (.ptr q 0)=>match st.mem.roots[q]? with
   |some (.itr r n (.own sh) xs none none) =>
    match head.get st.mem.roots.length (fresh ⟨st.tmps,st.mem.set q .dead,st.dT⟩) with
    |some x0=>Res.order xs λp=>Res.bind (Res.each (λe left x =>
      (head.put (fresh ⟨st.tmps,st.mem.set q .dead,st.dT⟩) x).atIt it q
       (run (Res.Step head.den ex.den) a' ((head.put (fresh ⟨st.tmps,st.mem.set q .dead,st.dT⟩) x).enter a b q r n sh xs left e)
        (kround st.mem.roots.length head ex (head.put (fresh ⟨st.tmps,st.mem.set q .dead,st.dT⟩) x) a b q))) p x0) fun
     |.next x=>(head.put (fresh ⟨st.tmps,st.mem.set q .dead,st.dT⟩) x).atIt it q
       ((kback K r (.mapr n (.own sh) xs none)).ext id (((⟨st.tmps,st.mem.set q .dead,st.dT⟩:St).join (head.put (fresh ⟨st.tmps,st.mem.set q .dead,st.dT⟩) x)).lose a b))
     |.done y=>ex.go ⟨st.tmps,st.mem.set q .dead,st.dT⟩ (kback K r (.mapr n (.own sh) xs none)) y
    |none=>.stuck
   |_=>.stuck
  |_,_=>.stuck
 |_,_=>.stuck
def unrollK{β:Type}(run:Ann->St->Kont β->Res β):Ann->St->Kont β->Res β
 |.unr a r,st,K=>run a st { nrm:=λst=>unrollK run r st K,ext:=K.ext,ret:=K.ret }
 |_,_,_=>.stuck
def exec(E:Env):Code->(β:Type)->Ann->St->Kont β->Res β
 |.skip,_,_,st,K=>K.nrm st
 |.region _ ops draw,β,ann,st,K=>cutAt ann st K λ_ _ st K =>
  match (match draw with|true=>ancs ops.toList []|false=>[]) with
  |A=>match !draw || (edgesOk ops && (ancOk ops A && (slotsAll ops A && Region.noSelect ops))) with
   |true=>execOps { E with dr:=draw } ops A ops.toList 0 st.mem.roots.length []
     ⟨st.tmps,⟨st.mem.roots++List.replicate (newsAll E ops.toList) .dead,st.mem.dR,st.mem.roots.length⟩,dsts ops++st.dT⟩ K.nrm
   |false=>.stuck
 |.seq a b,β,ann,st,K=>cutAt ann st K λγ ann st K =>
  exec E a γ ann.left st { nrm:=λst=>exec E b γ ann.right st K,ext:=K.ext,ret:=K.ret }
 |.cond c a b,β,ann,st,K=>cutAt ann st K λγ ann st K =>
  match val st c with
  |.c (.bool t)=>Res.br t (exec E a γ ann.left st K) (exec E b γ ann.right st K)
  |_=>.stuck
 |.block id a,β,ann,st,K=>cutAt ann st K λγ ann st K =>
  exec E a γ ann.left st { nrm:=K.nrm,ret:=K.ret,ext:=λn st=>match n == id with
   |true=>K.nrm st
   |false=>K.ext n st }
 |.loop a,β,ann,st,K =>
  match ann with
  |.loop head ex a'=>match head.get st.mem.roots.length (fresh st) with
   |some x0=>Res.bind (Res.loop (λx=>exec E a (Res.Step head.den ex.den) a' (head.put (fresh st) x) (kloop st.mem.roots.length head ex)) fuel x0) λy=>ex.go st K y
   |none=>.stuck
  |.range head ex a'=>match a with
   |.seq (.region _ ops false) (.seq (.cond c .skip (.exit id)) body)=>rangeLoop (λγ ann st K=>exec E body γ ann st K) ops c id head ex a' st K
   |_=>.stuck
  |.unr a1 r=>unrollK (λann st K=>exec E a β ann st K) (.unr a1 r) st K
  |_=>.stuck
 |.scope a,β,ann,st,K=>cutAt ann st K λγ ann st K=>exec E a γ ann.left st K
 |.label _,_,_,st,K=>K.nrm st
 |.exit id,_,_,st,K=>K.ext id st
 |.ret,_,_,st,K=>K.ret st
 |_,_,_,_,_=>.stuck
def resAV(P:Program)(st:St)(r:ResultVar){β:Type}(K:AV->Res β):Res β :=
 match r with
 |.tmp t=>K (st.get t)
 |.cell a T=>loadK st.mem (P.cellsOf T) (st.get a) λcs=>K (avOf (aggT P T) cs)
def resAVs(P:Program)(st:St){β:Type}:List ResultVar->(List AV->Res β)->Res β
 |[],K=>K []
 |r::rs,K=>resAV P st r λv=>resAVs P st rs λvs=>K (v::vs)
def outsGet:(ps:List Par)->List AV->{a:Type}->a->Mem->Option (outs a (boxes ps))
 |[],_,_,y,_=>some y
 |.obj s::r,v::vs,_,y,m=>match s.get v.cells m with
  |some (x,[],m')=>match outsGet r vs x m' with
   |some z=>some (y,z)
   |none=>none
  |_=>none
 |.val _ _::r,_::vs,_,y,m=>outsGet r vs y m
 |_::_,[],_,_,_=>none
def fin(P:Program)(fn:Func)(ps:List Par)(rs:List VSh)(entry:List AV)(st:St):Res (outs (dens rs) (boxes ps)) :=
 resAVs P st fn.results.toList λvs=>match gets rs vs st.mem with
  |some (y,m)=>match outsGet ps entry y m with
   |some z=>.ok z
   |none=>.stuck
  |none=>.stuck
def runBody(E:Env)(fn:Func)(ps:List Par)(rs:List VSh)(ann:Ann)(x:dens (ps.map Par.v)):Res (outs (dens rs) (boxes ps)) :=
 match fn.body with
 |some code=>match mks (ps.map Par.v) x ⟨List.replicate (newsL (ps.map Par.v)) .dead,0,0⟩ with
  |(vs,m)=>Res.given (oks (ps.map Par.v) x) (exec E code _ ann ⟨vs++List.replicate (fn.ntmps-vs.length) (.c .undef),m,[]⟩
    {nrm:=fin E.P fn ps rs vs,ext:=λ_ _=>.stuck,ret:=fin E.P fn ps rs vs })
 |none=>.stuck
end
end Go.Mach
end

namespace Go.Mach
def SameOn(D:Nat->Prop)(w w':World):Prop:=∀ b,D b->w'.heap[b]?=w.heap[b]?
def Io(D:Prop)(w w':World):Prop:=w'.os=w.os/\w'.output=w.output/\w'.tape=w.tape/\(D->w.drawn<=w'.drawn)
theorem Io.refl{D:Prop}(w:World):Io D w w:=⟨rfl,rfl,rfl,λ_=>Nat.le_refl _⟩
theorem Io.trans{D:Prop}{w w' w'':World}(h:Io D w w')(h':Io D w' w''):Io D w w'':=⟨h'.1.trans h.1,h'.2.1.trans h.2.1,h'.2.2.1.trans h.2.2.1,λd=>Nat.le_trans (h.2.2.2 d) (h'.2.2.2 d)⟩
theorem Io.same{D:Prop}{w w':World}(h1:w'.os=w.os)(h2:w'.output=w.output)(h3:w'.tape=w.tape)(h4:w'.drawn=w.drawn\/w'.drawn=w.drawn+1):Io D w w':=⟨h1,h2,h3,λ_=>by omega⟩
theorem SameOn.mono{D D':Nat->Prop}{w w':World}(h:SameOn D w w')(hd:∀ b,D' b->D b):SameOn D' w w':=λb hb=>h b (hd b hb)
theorem SameOn.refl(D:Nat->Prop)(w:World):SameOn D w w:=λ_ _=>rfl
theorem SameOn.trans{D:Nat->Prop}{w w' w'':World}(h:SameOn D w w')(h':SameOn D w' w''):SameOn D w w'':=λb hb=>(h' b hb).trans (h b hb)
theorem cell_same{D:Nat->Prop}{w w':World}(h:SameOn D w w'){a:Addr}(hb:D a.block):w'.cell? a=w.cell? a:=by
 simp only [World.cell?,h _ hb]
def CellsAt(w:World)(b o:Nat)(vs:List Value):Prop:=∀ k (h:k < vs.length),w.cell? ⟨b,o+k,none⟩=some vs[k]
theorem CellsAt.same{D:Nat->Prop}{w w':World}(h:SameOn D w w'){b o:Nat}{vs:List Value}(hb:D b)(hc:CellsAt w b o vs):CellsAt w' b o vs :=
 λk hk=>(cell_same h hb).trans (hc k hk)
def BlockOk(w:World)(b n:Nat):Prop :=
 ∃ vs T fz,w.heap[b]?=some (.cells vs T fz)/\n<=vs.size/\fz.1<=fz.2/\∀ k,k < vs.size->(fz.1<=k && k < fz.2)=false
theorem BlockOk.same{D:Nat->Prop}{w w':World}(h:SameOn D w w'){b n:Nat}(hb:D b)(hc:BlockOk w b n):BlockOk w' b n:=by
 obtain ⟨vs,T,fz,h1,h2⟩:=hc;exact ⟨vs,T,fz,by rw [h b hb,h1],h2⟩
def strV(s:List UInt8):Value:=.string ⟨⟨s⟩⟩
inductive RoseR {α:Type}(w:World) (Z:Nat->Prop) (c:Nat) (ok:Nat->Bool) (L:List Value->α->Prop):List Value->Rose α->Prop
 |leaf {v1:List Value}{x:Rose α}{a:Option Addr}{cap:Nat}:L v1 x.lab->x.kids=[]->ok 0=true->RoseR w Z c ok L (v1++[.slice a 0 cap]) x
 |node {v1:List Value}{x:Rose α}{b o cap:Nat}(us:Nat->List Value):L v1 x.lab->x.kids.length<=cap->ok x.kids.length=true->Z b ->
   (∀ i,i < x.kids.length->(us i).length=c)->(∀ i,i < x.kids.length->CellsAt w b (o+i*c) (us i)) ->
   (∀ i (h:i < x.kids.length),RoseR w Z c ok L (us i) x.kids[i])->RoseR w Z c ok L (v1++[.slice (some ⟨b,o,none⟩) x.kids.length cap]) x
section
variable (w:World) (Z:Nat->Prop)
def Frz:(t:Ty)->List Value->t.den->Prop
 |.unit,vs,_=>vs=[]
 |.int k,vs,n=>vs=[.int k n]/\inRange k n=true
 |.bool,vs,b=>vs=[.bool b]
 |.str,vs,s=>vs=[strV s]/\strOk s.length=true
 |.list e,vs,xs=>∃ a cap,vs=[.slice a xs.length cap]/\xs.length<=cap/\lenOk e xs.length=true /\
   (xs=[]\/∃ b o,a=some ⟨b,o,none⟩/\Z b/\∀ i (h:i < xs.length),∃ us,us.length=e.cells/\CellsAt w b (o+i*e.cells) us/\Frz e us xs[i])
 |.pair a b,vs,x=>∃ v1 v2,vs=v1++v2/\Frz a v1 x.1/\Frz b v2 x.2
 |.rose a,vs,x=>RoseR w Z (a.cells+1) (lenOk (.rose a)) (Frz a) vs x
end
theorem Frz.rose_iff{w:World}{Z:Nat->Prop}{a:Ty}{vs:List Value}{x:Rose a.den} :
  Frz w Z (.rose a) vs x ↔ ∃ v1 v2,vs=v1++v2/\Frz w Z a v1 x.lab/\Frz w Z (.list (.rose a)) v2 x.kids:=by
 constructor
 ·intro h;simp only [Frz] at h
  cases h with
  |leaf h1 h2 h3 =>
   refine ⟨_,_,rfl,h1,?_⟩;simp only [Frz];rw [h2];exact ⟨_,_,rfl,by simp,h3,.inl rfl⟩
  |node us h1 h2 h3 h4 h5 h6 h7 =>
   refine ⟨_,_,rfl,h1,?_⟩;simp only [Frz];exact ⟨_,_,rfl,h2,h3,.inr ⟨_,_,rfl,h4,λi hi=>⟨us i,h5 i hi,h6 i hi,h7 i hi⟩⟩⟩
 ·rintro ⟨v1,v2,rfl,h1,h2⟩;simp only [Frz] at h2 ⊢;obtain ⟨a',cap,rfl,h3,h4,h5⟩:=h2;rcases h5 with h5|⟨b,o,rfl,h6,h7⟩
  ·rw [h5] at h4 ⊢;exact .leaf h1 h5 h4
  ·have h8:∀ i,∃ us:List Value,∀ h:i < x.kids.length,us.length=a.cells+1/\CellsAt w b (o+i*(a.cells+1)) us/\RoseR w Z (a.cells+1) (lenOk (.rose a)) (Frz w Z a) us x.kids[i]:=λi=>by
    by_cases hi:i < x.kids.length
    ·obtain ⟨us,g1,g2,g3⟩:=h7 i hi;exact ⟨us,λ_=>⟨g1,g2,g3⟩⟩
    ·exact ⟨[],λh=>absurd h hi⟩
   exact .node (λi=>(h8 i).choose) h1 h3 h4 h6 (λi hi=>((h8 i).choose_spec hi).1) (λi hi=>((h8 i).choose_spec hi).2.1) λi hi=>((h8 i).choose_spec hi).2.2
theorem RoseR.imp{α:Type}{w w':World}{Z Z':Nat->Prop}{c:Nat}{ok:Nat->Bool}{L L':List Value->α->Prop}(h:SameOn Z w w')(hz:∀ b,Z b->Z' b)(hl:∀ vs x,L vs x->L' vs x)
  {vs:List Value}{x:Rose α}(hr:RoseR w Z c ok L vs x):RoseR w' Z' c ok L' vs x:=by
 induction hr with
 |leaf h1 h2 h3=>exact .leaf (hl _ _ h1) h2 h3
 |node us h1 h2 h3 h4 h5 h6 _ ih=>exact .node us (hl _ _ h1) h2 h3 (hz _ h4) h5 (λi hi=>(h6 i hi).same h h4) ih
theorem Frz.length{w:World}{Z:Nat->Prop}:∀ {t:Ty}{vs:List Value}{x:t.den},Frz w Z t vs x->vs.length=t.cells
 |.unit,_,_,h=>by simp only [Frz] at h;simp [h,Ty.cells]
 |.int _,_,_,h=>by simp only [Frz] at h;simp [h.1,Ty.cells]
 |.bool,_,_,h=>by simp only [Frz] at h;simp [h,Ty.cells]
 |.str,_,_,h=>by simp only [Frz] at h;simp [h.1,Ty.cells]
 |.list _,_,_,h=>by simp only [Frz] at h;obtain ⟨a,cap,h,_⟩:=h;simp [h,Ty.cells]
 |.pair _ _,_,_,h=>by
  simp only [Frz] at h;obtain ⟨v1,v2,rfl,h1,h2⟩:=h;simp [Ty.cells,Frz.length h1,Frz.length h2]
 |.rose a,_,_,h=>by
  obtain ⟨v1,v2,rfl,h1,h2⟩:=Frz.rose_iff.1 h;simp only [Frz] at h2;obtain ⟨_,_,rfl,_⟩:=h2;simp [Ty.cells,Frz.length h1]
theorem Frz.ok{w:World}{Z:Nat->Prop}:∀ {t:Ty}{vs:List Value}{x:t.den},Frz w Z t vs x->t.ok x=true
 |.unit,_,_,_=>rfl
 |.int _,_,_,h=>by simp only [Frz] at h;exact h.2
 |.bool,_,_,_=>rfl
 |.str,_,_,h=>by simp only [Frz] at h;exact h.2
 |.list _,_,_,h=>by simp only [Frz] at h;obtain ⟨a,cap,_,_,h,_⟩:=h;exact h
 |.pair _ _,_,_,h=>by
  simp only [Frz] at h;obtain ⟨v1,v2,rfl,h1,h2⟩:=h;simp only [Ty.ok,Frz.ok h1,Frz.ok h2,Bool.and_self]
 |.rose a,_,_,h=>by
  obtain ⟨v1,v2,rfl,h1,h2⟩:=Frz.rose_iff.1 h;simp only [Frz] at h2;obtain ⟨_,_,_,_,h3,_⟩:=h2;simp only [Ty.ok,Frz.ok h1,h3,Bool.and_self]
theorem Frz.same{w w':World}{Z Z':Nat->Prop}(h:SameOn Z w w')(hz:∀ b,Z b->Z' b):∀ {t:Ty}{vs:List Value}{x:t.den},Frz w Z t vs x->Frz w' Z' t vs x
 |.unit,_,_,hf=>hf
 |.int _,_,_,hf=>hf
 |.bool,_,_,hf=>hf
 |.str,_,_,hf=>hf
 |.list _,_,_,hf=>by
  simp only [Frz] at hf ⊢;obtain ⟨a,cap,h1,h2,h3,h4⟩:=hf;refine ⟨a,cap,h1,h2,h3,h4.imp id ?_⟩;rintro ⟨b,o,h5,h6,h7⟩;refine ⟨b,o,h5,hz b h6,λi hi=>?_⟩;obtain ⟨us,h8,h9,h10⟩:=h7 i hi;exact ⟨us,h8,h9.same h h6,Frz.same h hz h10⟩
 |.pair _ _,_,_,hf=>by
  simp only [Frz] at hf ⊢;obtain ⟨v1,v2,h1,h2,h3⟩:=hf;exact ⟨v1,v2,h1,Frz.same h hz h2,Frz.same h hz h3⟩
 |.rose _,_,_,hf=>by
  simp only [Frz] at hf ⊢;exact hf.imp h hz λ_ _=>Frz.same h hz
structure Loc where
 blk:Option Nat
 base:Nat
 sz:Nat
 len:Nat
 cap:Nat
 S:Nat->Prop
 odd:Option Addr
def Loc.addr(ℓ:Loc)(o:Nat):Option Addr :=
 match ℓ.odd with
 |some a=>some (a.add (o*ℓ.sz))
 |none=>ℓ.blk.map λb=>⟨b,ℓ.base+o*ℓ.sz,none⟩
theorem Loc.addr_some{ℓ:Loc}(ho:ℓ.odd=none){b:Nat}(hb:ℓ.blk=some b)(o:Nat):ℓ.addr o=some ⟨b,ℓ.base+o*ℓ.sz,none⟩:=by simp [Loc.addr,ho,hb]
def SlR(ℓ:Loc):Win->Value->Prop
 |.full,v=>v=.slice (ℓ.addr 0) ℓ.len ℓ.cap
 |.sub o n,v=>o+n<=ℓ.len/\∃ p,v=.slice (ℓ.addr p) n (ℓ.cap-o)/\p<=ℓ.cap/\(p=o\/ℓ.cap=o)
abbrev Locs:=Nat->Option Loc
def ErrR(b:Bool)(v:Value):Prop:=(b=true/\v=.nilIface)\/(b=false/\∃ t p,v=.iface t p)
def OpqR(v:Value):Prop:=v.cells=#[v]/\v.oneCell'=true
section
variable (w:World) (Z:Nat->Prop) (μ:Locs)
def PtrR(r off:Nat)(v:Value):Prop:=∃ ℓ b,μ r=some ℓ/\ℓ.blk=some b/\v=.pointer (some ⟨b,ℓ.base+off,none⟩)
def LptrR(e:Ty)(x:e.den)(off:Nat)(v:Value):Prop :=
 ∃ b o us,Z b/\v=.pointer (some ⟨b,o+off,none⟩)/\us.length=e.cells/\CellsAt w b o us/\Frz w Z e us x
def CapR:Cap->Value->Prop
 |.root r,v=>PtrR μ r 0 v
 |.frz e x,v=>LptrR w Z e x 0 v
def CR:C->Value->Prop
 |.undef,_=>True
 |.int k n,v=>v=.int k n/\inRange k n=true
 |.bool b,v=>v=.bool b
 |.str s,v=>v=strV s/\strOk s.length=true
 |.nils,v=>v=.slice none 0 0
 |.lst e xs,v=>Frz w Z (.list e) [v] xs
 |.ref r wd,v=>∃ ℓ,μ r=some ℓ/\SlR ℓ wd v
 |.ptr r off,v=>PtrR μ r off v
 |.eptr r i off,v=>∃ ℓ b,μ r=some ℓ/\ℓ.blk=some b/\i < ℓ.len/\v=.pointer (some ⟨b,ℓ.base+i*ℓ.sz+off,none⟩)
 |.lptr e x off,v=>LptrR w Z e x off v
 |.nilp,v=>v=.pointer none
 |.nilf,v=>v=.nilFunc
 |.nili,v=>v=.nilIface
 |.err b,v=>ErrR b v
 |.opq,v=>OpqR v
 |.stp q,v=>∃ ℓ,μ q=some ℓ/\v=.int .i64 (ℓ.base:Int)
 |.mp r,v=>∃ ℓ b,μ r=some ℓ/\ℓ.blk=some b/\v=.map (some b)
 |.fn f caps,v=>∃ vs:List Value,v=.func (.func f) #[] vs.toArray/\vs.length=caps.length/\∀ k (h:k < caps.length) (h':k < vs.length),CapR w Z μ caps[k] vs[k]
def CRs(cs:List C)(vs:List Value):Prop:=cs.length=vs.length/\∀ k (h:k < cs.length) (h':k < vs.length),CR w Z μ cs[k] vs[k]
def AR:AV->Value->Prop
 |.c x,v=>CR w Z μ x v
 |.agg cs,v=>∃ vs:List Value,v=.agg vs.toArray/\CRs w Z μ cs vs
 |.tup l,v=>∃ vs:List Value,v=.tuple vs.toArray/\vs.length=l.length/\∀ k (h:k < l.length) (h':k < vs.length),
   match l[k] with
   |(true,cs)=>∃ us:List Value,vs[k]=.agg us.toArray/\CRs w Z μ cs us
   |(false,cs)=>match cs with
    |c::_=>CR w Z μ c vs[k]
    |[]=>True
end
def RdR(w:World)(c:Nat){α:Type}(xs:List α)(lok:Bool)(V:Nat->Prop)(R:List Value->α->Prop)(ℓ:Loc):Prop :=
 ℓ.sz=c/\ℓ.len=xs.length/\xs.length<=ℓ.cap/\lok=true/\(ℓ.odd=none\/xs=[]) /\
 match ℓ.blk with
 |none=>xs=[]
 |some b=>(xs=[]\/V b)/\∀ i (h:i < xs.length),∃ us,us.length=c/\CellsAt w b (ℓ.base+i*ℓ.sz) us/\R us xs[i]
def ArrR(w:World)(c:Nat){α:Type}(xs:List α)(lok:Bool)(R:Nat->List Value->α->(Nat->Prop)->Prop)(ℓ:Loc):Prop :=
 ℓ.sz=c/\ℓ.len=xs.length/\xs.length<=ℓ.cap/\lok=true/\ℓ.odd=none /\
 match ℓ.blk with
 |none=>xs=[]/\ℓ.cap=0
 |some b=>ℓ.S b/\BlockOk w b (ℓ.base+ℓ.cap*ℓ.sz)/\∃ N:Nat->Nat->Prop,
   (∀ i,i < xs.length->∀ d,N i d->ℓ.S d/\d≠b)/\(∀ i j,i < xs.length->j < xs.length->i≠j->∀ d,N i d->N j d->False) /\
   ∀ i (h:i < xs.length),∃ us,us.length=c/\CellsAt w b (ℓ.base+i*ℓ.sz) us/\R i us xs[i] (N i)
def MapR(w:World)(n:Nat){α:Type}(xs:List (List Int×α))(R:Nat->List Value->α->(Nat->Prop)->Prop)(b:Nat)(S:Nat->Prop):Prop :=
 S b/\∃ es clock,w.heap[b]?=some (.map es clock)/\es.size=xs.length/\(∀ e∈es.toList,e.born < clock)/\(es.toList.map (·.born)).Nodup/\(xs.map (·.1)).Nodup /\
 (∀ x∈xs,x.1.length=n/\∀ a∈x.1,inRange .i64 a=true)/\∃ N:Nat->Nat->Prop,
   (∀ i,i < xs.length->∀ d,N i d->S d/\d≠b)/\(∀ i j,i < xs.length->j < xs.length->i≠j->∀ d,N i d->N j d->False) /\
   ∀ i (h:i < xs.length) (h':i < es.size),es[i].key=keyV xs[i].1/\R i [es[i].val] xs[i].2 (N i)
def MapB(w:World)(n:Nat){α:Type}(xs:List (List Int×α))(R:List Value->α->Prop)(b:Nat):Prop :=
 ∃ es clock,w.heap[b]?=some (.map es clock)/\es.size=xs.length/\(∀ e∈es.toList,e.born < clock)/\(es.toList.map (·.born)).Nodup/\(xs.map (·.1)).Nodup /\
 (∀ x∈xs,x.1.length=n/\∀ a∈x.1,inRange .i64 a=true)/\∀ i (h:i < xs.length) (h':i < es.size),es[i].key=keyV xs[i].1/\R [es[i].val] xs[i].2
def SbR(w:World)(p:Nat×Nat)(xs:List UInt8)(b:Nat)(S:Nat->Prop):Prop :=
 S b/\∃ q v,w.heap[b]?=some (.cells #[q,v] p.1)/\(q=.pointer none\/q=.pointer (some ⟨b,0,none⟩)) /\
  ((v=.slice none 0 0/\xs=[])\/∃ g cap cur,v=.slice (some ⟨g,0,none⟩) xs.length cap/\S g/\g≠b/\w.heap[g]?=some (.cells cur p.2)/\xs.length<=cap/\cap<=maxLen/\cur.size=cap /\
   cur.toList.take xs.length=xs.map λc=>Value.int .u8 c.toNat)
theorem SbR.mono{w w':World}{p:Nat×Nat}{xs:List UInt8}{b:Nat}{S S':Nat->Prop}(h:SameOn S w w')(hS:∀ d,S d->S' d)(hc:SbR w p xs b S):SbR w' p xs b S':=by
 obtain ⟨h0,q,v,h1,h2,h3⟩:=hc;refine ⟨hS b h0,q,v,by rw [h b h0,h1],h2,h3.imp id ?_⟩;rintro ⟨g,cap,cur,g1,g2,g3,g4,g5⟩;exact ⟨g,cap,cur,g1,hS g g2,g3,by rw [h g g2,g4],g5⟩
section
variable (w:World) (Z:Nat->Prop)
def BR(V:Nat->Prop):(s:Sh)->List Value->s.den->Prop
 |.nil,us,_=>us=[]
 |.undef,us,_=>us.length=1
 |.nilp,us,_=>us=[.pointer none]
 |.nilz,us,_=>us=[.slice none 0 0]
 |.err,us,b=>∃ v,us=[v]/\ErrR b v
 |.opq,us,_=>∃ v,us=[v]/\OpqR v
 |.sb _,us,_=>us.length=1
 |.frz t,us,x=>Frz w Z t us x
 |.own s,us,xs=>∃ a cap,us=[.slice a xs.length cap]/\xs.length<=cap/\lenOkS s xs.length=true /\
   (xs=[]\/∃ b o,a=some ⟨b,o,none⟩/\V b/\∀ i (h:i < xs.length),∃ us,us.length=s.cells/\CellsAt w b (o+i*s.cells) us/\BR V s us xs[i])
 |.box s,us,x=>∃ b o us',us=[.pointer (some ⟨b,o,none⟩)]/\V b/\us'.length=s.cells/\CellsAt w b o us'/\BR V s us' x
 |.clo f s,us,x=>s.caps=true/\∃ vs:List Value,us=[.func (.func f) #[] vs.toArray]/\BR V s vs x
 |.seq a b,us,x=>∃ u1 u2,us=u1++u2/\BR V a u1 x.1/\BR V b u2 x.2
 |.bor s,us,x=>BR V s us x
 |.map n s,us,xs=>∃ b,us=[.map (some b)]/\V b/\MapB w n xs (λus x=>BR V s us x) b
def SR(Y:Nat->Prop):(s:Sh)->List Value->s.den->(Nat->Prop)->Prop
 |.nil,us,_,_=>us=[]
 |.undef,us,_,_=>us.length=1
 |.nilp,us,_,_=>us=[.pointer none]
 |.nilz,us,_,_=>us=[.slice none 0 0]
 |.err,us,b,_=>∃ v,us=[v]/\ErrR b v
 |.opq,us,_,_=>∃ v,us=[v]/\OpqR v
 |.sb p,us,xs,S=>∃ b,us=[.pointer (some ⟨b,0,none⟩)]/\SbR w p xs b S
 |.frz t,us,x,_=>Frz w Z t us x
 |.own s,us,xs,S=>∃ ℓ:Loc,us=[.slice (ℓ.addr 0) ℓ.len ℓ.cap]/\(∀ b,ℓ.S b->S b)/\ArrR w s.cells xs (lenOkS s xs.length) (λ_ us x S=>SR Y s us x S) ℓ
 |.box s,us,x,S=>∃ b o us' S',us=[.pointer (some ⟨b,o,none⟩)]/\S b/\BlockOk w b (o+s.cells)/\us'.length=s.cells/\CellsAt w b o us'/\(∀ d,S' d->S d/\d≠b)/\SR Y s us' x S'
 |.clo f s,us,x,S=>s.caps=true/\∃ vs:List Value,us=[.func (.func f) #[] vs.toArray]/\SR Y s vs x S
 |.seq a b,us,x,S=>∃ u1 u2 S1 S2,us=u1++u2/\(∀ d,S1 d->S d)/\(∀ d,S2 d->S d)/\(∀ d,S1 d->S2 d->False)/\SR Y a u1 x.1 S1/\SR Y b u2 x.2 S2
 |.bor s,us,x,_=>BR w Z (λb=>Y b\/Z b) s us x
 |.map n s,us,xs,S=>∃ b,us=[.map (some b)]/\MapR w n xs (λ_ us x S=>SR Y s us x S) b S
variable (Y:Nat->Prop) (μ:Locs)
def ElR(s:Sh)(foc:Option Foc)(i:Nat)(us:List Value)(x:s.den)(S:Nat->Prop):Prop :=
 match foc with
 |some f=>if f.i=i then CRs w Z μ f.cells us else SR w Z Y s us x S
 |none=>SR w Z Y s us x S
def EnR(s:Sh)(foc:Option Foc)(i:Nat)(us:List Value)(x:s.den)(S:Nat->Prop):Prop:=ElR w Z Y μ s foc i us x S
def ItrR(ℓ:Loc)(r n:Nat)(s:Sh)(xs:List (List Int×s.den))(left:Option (List Int->Bool))(cur:Option (List Int×Nat)):Prop :=
 ∃ (itb b:Nat) (ℓr:Loc) (es:Array MapEntry) (clock:Nat) (seen:Array Nat) (foc:Option Foc) (S:Nat->Prop),
  ℓ.blk=some itb/\ℓ.base=0/\ℓ.S itb/\(∀ d,S d->ℓ.S d/\d≠itb)/\μ r=some ℓr/\ℓr.blk=some b /\
  w.heap[itb]?=some (.mapIter (some b) clock seen clock)/\w.heap[b]?=some (.map es clock) /\
  (∀ i (h:i < xs.length) (h':i < es.size),left.getD (Res.keyIn xs) xs[i].1=true ↔ seen.contains es[i].born=false)/\MapR w n xs (EnR w Z Y μ s foc) b S /\
  match cur with
  |none=>foc=none
  |some (k,N)=>∃ i,foc=some ⟨i,[.ref N .full]⟩/\∃ (h:i < xs.length) (h':i < es.size),xs[i].1=k/\seen.back?=some es[i].born
def RootOk(ℓ:Loc):Root->Prop
 |.dead=>True
 |.frz e xs=>RdR w e.cells xs (lenOk e xs.length) Z (λus x=>Frz w Z e us x) ℓ
 |.bor s xs=>RdR w s.cells xs (lenOkS s xs.length) (λb=>Y b\/Z b) (λus x=>BR w Z (λb=>Y b\/Z b) s us x) ℓ
 |.bbox cs=>∃ b,ℓ.blk=some b/\(Y b\/Z b)/\∃ us,CellsAt w b ℓ.base us/\CRs w Z μ cs us
 |.box cs=>∃ b,ℓ.blk=some b/\ℓ.S b/\BlockOk w b (ℓ.base+cs.length)/\∃ us,CellsAt w b ℓ.base us/\CRs w Z μ cs us
 |.arr s xs foc=>(∀ f,foc=some f->f.i < xs.length)/\ArrR w s.cells xs (lenOkS s xs.length) (ElR w Z Y μ s foc) ℓ
 |.mapr n s xs foc=>(∀ f,foc=some f->f.i < xs.length)/\∃ b,ℓ.blk=some b/\MapR w n xs (EnR w Z Y μ s foc) b ℓ.S
 |.mape n s xs i cs q=>i < xs.length/\∃ b es clock ℓq,ℓ.blk=some b/\w.heap[b]?=some (.map es clock)/\μ q=some ℓq/\(∀ h:i < es.size,es[i].born=ℓq.base)/\MapR w n xs (EnR w Z Y μ s (some ⟨i,cs⟩)) b ℓ.S
 |.itr r n s xs left cur=>ItrR w Z Y μ ℓ r n s xs left cur
 |.sb p xs=>∃ b,ℓ.blk=some b/\ℓ.base=0/\SbR w p xs b ℓ.S
end
def Root.owns:Root->Bool
 |.box _|.arr _ _ _|.mapr _ _ _ _|.itr _ _ _ _ _ _|.mape _ _ _ _ _ _|.sb _ _=>true
 |_=>false
structure Glob where
 n:Nat
 holds:World->Prop
 mono:∀ w w',(∀ b,b < n->w'.heap[b]?=w.heap[b]?)->holds w->holds w'
 dr:Prop:=False
def Glob.nil:Glob:=⟨0,λ_=>True,λ_ _ _ _=>trivial,False⟩
def Glob.At(G:Glob)(w:World)(Z:Nat->Prop):Prop:=G.holds w/\∀ b,b < G.n->Z b
theorem Glob.nil_at(w:World)(Z:Nat->Prop):Glob.nil.At w Z:=⟨trivial,λ_ h=>absurd h (Nat.not_lt_zero _)⟩
structure Base where
 w0:World
 A:Nat->Prop
 Z0:Nat->Prop
 Y:Nat->Prop
 g:Glob
 hg:g.holds w0/\∀ b,b < g.n->Z0 b/\b < w0.heap.size/\¬ A b
structure MemOk (B:Base) (m:Mem) (w:World) (Z:Nat->Prop) (μ:Locs):Prop where
 rt:∀ r x,m.roots[r]?=some x->x≠.dead->∃ ℓ,μ r=some ℓ/\RootOk w Z B.Y μ ℓ x
 dj:∀ r s x y ℓ ℓ',r≠s->m.roots[r]?=some x->m.roots[s]?=some y->x.owns=true->y.owns=true->μ r=some ℓ->μ s=some ℓ'->∀ b,ℓ.S b->ℓ'.S b->False
 own:∀ r x ℓ b,m.roots[r]?=some x->x.owns=true->μ r=some ℓ->ℓ.S b->¬ Z b/\b < w.heap.size/\(B.w0.heap.size<=b\/B.A b)
 frz:∀ b,Z b->b < w.heap.size/\(B.Z0 b\/B.w0.heap.size<=b\/B.A b)
 frz0:∀ b,B.Z0 b->Z b
 size:B.w0.heap.size<=w.heap.size
 keep:∀ b,b < B.w0.heap.size->¬ B.A b->w.heap[b]?=B.w0.heap[b]?
 far:∀ r,m.roots.length<=r->μ r=none
 lent:∀ b,B.Y b->b < B.w0.heap.size/\¬ B.A b
 io:Io B.g.dr B.w0 w
theorem MemOk.glob{B:Base}{m:Mem}{w:World}{Z:Nat->Prop}{μ:Locs}(h:MemOk B m w Z μ):B.g.At w Z :=
 ⟨B.g.mono _ _ (λb hb=>h.keep b (B.hg.2 b hb).2.1 (B.hg.2 b hb).2.2) B.hg.1,λb hb=>h.frz0 b (B.hg.2 b hb).1⟩
end Go.Mach

namespace Go.Mach
def ExtL(μ μ':Locs):Prop:=∀ r ℓ,μ r=some ℓ->∃ S',μ' r=some { ℓ with S:=S' }
theorem ExtL.refl(μ:Locs):ExtL μ μ:=λ_ ℓ h=>⟨ℓ.S,h⟩
theorem ExtL.trans{μ μ' μ'':Locs}(h:ExtL μ μ')(h':ExtL μ' μ''):ExtL μ μ'':=λr ℓ hr=>by
 obtain ⟨S',h1⟩:=h r ℓ hr;obtain ⟨S'',h2⟩:=h' r _ h1;exact ⟨S'',h2⟩
theorem SlR.withS{ℓ:Loc}{S':Nat->Prop}{wd:Win}{v:Value}(h:SlR ℓ wd v):SlR { ℓ with S:=S' } wd v:=by
 cases wd<;>exact h
section
variable {w w':World}{Z Z':Nat->Prop}{μ μ':Locs}(h:SameOn Z w w') (hz:∀ b,Z b->Z' b) (hm:ExtL μ μ')
include hm
theorem PtrR.mono{r off:Nat}{v:Value}(hc:PtrR μ r off v):PtrR μ' r off v:=by
 obtain ⟨ℓ,b,h1,h2,h3⟩:=hc;obtain ⟨S',h4⟩:=hm r ℓ h1;exact ⟨_,b,h4,h2,h3⟩
include h hz
omit hm in
theorem LptrR.mono{e:Ty}{x:e.den}{off:Nat}{v:Value}(hc:LptrR w Z e x off v):LptrR w' Z' e x off v:=by
 obtain ⟨b,o,us,h1,h2,h3,h4,h5⟩:=hc;exact ⟨b,o,us,hz b h1,h2,h3,h4.same h h1,h5.same h hz⟩
theorem CapR.mono{p:Cap}{v:Value}(hc:CapR w Z μ p v):CapR w' Z' μ' p v:=by
 cases p with
 |root r=>exact PtrR.mono hm hc
 |frz e x=>exact LptrR.mono h hz hc
theorem CR.mono{c:C}{v:Value}(hc:CR w Z μ c v):CR w' Z' μ' c v:=by
 cases c with
 |undef=>trivial
 |int k n=>exact hc
 |bool b=>exact hc
 |str s=>exact hc
 |nils=>exact hc
 |lst e xs=>exact Frz.same h hz hc
 |ref r wd =>
  obtain ⟨ℓ,h1,h2⟩:=hc;obtain ⟨S',h3⟩:=hm r ℓ h1;exact ⟨_,h3,h2.withS⟩
 |ptr r off=>exact PtrR.mono hm hc
 |eptr r i off =>
  obtain ⟨ℓ,b,h1,h2,h3,h4⟩:=hc;obtain ⟨S',h5⟩:=hm r ℓ h1;exact ⟨_,b,h5,h2,h3,h4⟩
 |lptr e x off=>exact LptrR.mono h hz hc
 |nilp=>exact hc
 |err _=>exact hc
 |opq=>exact hc
 |nilf=>exact hc
 |nili=>exact hc
 |stp q =>
  obtain ⟨ℓ,h1,h2⟩:=hc;obtain ⟨S',h3⟩:=hm q ℓ h1;exact ⟨_,h3,h2⟩
 |mp r =>
  obtain ⟨ℓ,b,h1,h2,h3⟩:=hc;obtain ⟨S',h4⟩:=hm r ℓ h1;exact ⟨_,b,h4,h2,h3⟩
 |fn f caps =>
  obtain ⟨vs,h1,h2,h3⟩:=hc;exact ⟨vs,h1,h2,λk hk hk'=>CapR.mono h hz hm (h3 k hk hk')⟩
theorem CRs.mono{cs:List C}{vs:List Value}(hc:CRs w Z μ cs vs):CRs w' Z' μ' cs vs :=
 ⟨hc.1,λk hk hk'=>CR.mono h hz hm (hc.2 k hk hk')⟩
theorem AR.mono{x:AV}{v:Value}(hc:AR w Z μ x v):AR w' Z' μ' x v:=by
 cases x with
 |c x=>exact CR.mono h hz hm hc
 |agg cs =>
  obtain ⟨vs,h1,h2⟩:=hc;exact ⟨vs,h1,h2.mono h hz hm⟩
 |tup l =>
  obtain ⟨vs,h1,h2,h3⟩:=hc;refine ⟨vs,h1,h2,λk hk hk'=>?_⟩;have h4:=h3 k hk hk';rcases hl:l[k] with ⟨ag,cs⟩;rw [hl] at h4
  cases ag with
  |true =>
   obtain ⟨us,h5,h6⟩:=h4;exact ⟨us,h5,h6.mono h hz hm⟩
  |false =>
   match cs,h4 with
   |c::_,h4=>exact CR.mono h hz hm h4
   |[],_=>trivial
end
section
variable {w w':World}{Z Z':Nat->Prop}{μ μ':Locs}
theorem RdR.mono{c:Nat}{α:Type}{xs:List α}{lok:Bool}{V V':Nat->Prop}{R R':List Value->α->Prop}{ℓ:Loc}(h:SameOn V w w')(hv:∀ b,V b->V' b)
  (hr:∀ us x,x∈xs->R us x->R' us x) (hc:RdR w c xs lok V R ℓ):RdR w' c xs lok V' R' ℓ:=by
 obtain ⟨h1,h2,h3,h4,h0,h5⟩:=hc;refine ⟨h1,h2,h3,h4,h0,?_⟩
 cases hb:ℓ.blk with
 |none=>simpa [hb] using h5
 |some b =>
  simp only [hb] at h5 ⊢;refine ⟨h5.1.imp id (hv b),λi hi=>?_⟩;obtain ⟨us,h9,h10,h11⟩:=h5.2 i hi;refine ⟨us,h9,?_,hr _ _ (List.getElem_mem _) h11⟩;rcases h5.1 with h6|h6
  ·subst h6;simp at hi
  ·exact h10.same h h6
theorem ArrR.mono{c:Nat}{α:Type}{xs:List α}{lok:Bool}{R R':Nat->List Value->α->(Nat->Prop)->Prop}{ℓ:Loc}(h:SameOn ℓ.S w w')
  (hr:∀ i us x (S:Nat->Prop),x∈xs->(∀ d,S d->ℓ.S d)->R i us x S->R' i us x S) (hc:ArrR w c xs lok R ℓ):ArrR w' c xs lok R' ℓ:=by
 obtain ⟨h1,h2,h3,h4,h0,h5⟩:=hc;refine ⟨h1,h2,h3,h4,h0,?_⟩
 cases hb:ℓ.blk with
 |none=>simpa [hb] using h5
 |some b =>
  simp only [hb] at h5 ⊢;obtain ⟨h6,h7,N,h8,h9,h10⟩:=h5;refine ⟨h6,h7.same h h6,N,h8,h9,λi hi=>?_⟩;obtain ⟨us,h11,h12,h13⟩:=h10 i hi;exact ⟨us,h11,h12.same h h6,hr _ _ _ _ (List.getElem_mem _) (λd hd=>(h8 i hi d hd).1) h13⟩
theorem MapR.mono{n:Nat}{α:Type}{xs:List (List Int×α)}{R R':Nat->List Value->α->(Nat->Prop)->Prop}{b:Nat}{S S':Nat->Prop}(h:w'.heap[b]?=w.heap[b]?)(hS:∀ d,S d->S' d)
  (hr:∀ i us x (T:Nat->Prop),(∀ d,T d->S d)->R i us x T->R' i us x T) (hc:MapR w n xs R b S):MapR w' n xs R' b S':=by
 obtain ⟨h0,es,clock,h1,h2,h3,h4,h5,h6,N,h7,h8,h9⟩:=hc;refine ⟨hS b h0,es,clock,by rw [h,h1],h2,h3,h4,h5,h6,N,λi hi d hd=>⟨hS d (h7 i hi d hd).1,(h7 i hi d hd).2⟩,h8,λi hi hi'=>?_⟩;obtain ⟨h10,h11⟩:=h9 i hi hi';exact ⟨h10,hr _ _ _ _ (λd hd=>(h7 i hi d hd).1) h11⟩
theorem BR.same{V V':Nat->Prop}(h:SameOn (λb=>Z b\/V b) w w')(hz:∀ b,Z b->Z' b)(hv:∀ b,V b->V' b):∀ {s:Sh}{us:List Value}{x:s.den},BR w Z V s us x->BR w' Z' V' s us x
 |.nil,_,_,hc=>hc
 |.undef,_,_,hc=>hc
 |.nilp,_,_,hc=>hc
 |.nilz,_,_,hc=>hc
 |.err,_,_,hc=>hc
 |.opq,_,_,hc=>hc
 |.sb _,_,_,hc=>hc
 |.frz _,_,_,hc=>Frz.same (h.mono λ_ h=>.inl h) hz (show Frz w Z _ _ _ from hc)
 |.own s,us,xs,hc=>by
  simp only [BR] at hc ⊢;obtain ⟨a,cap,h1,h2,h3,h4⟩:=hc;refine ⟨a,cap,h1,h2,h3,h4.imp id ?_⟩;rintro ⟨b,o,h5,h6,h7⟩;refine ⟨b,o,h5,hv b h6,λi hi=>?_⟩;obtain ⟨us,h8,h9,h10⟩:=h7 i hi;exact ⟨us,h8,h9.same h (.inr h6),BR.same h hz hv h10⟩
 |.box s,us,x,hc=>by
  simp only [BR] at hc ⊢;obtain ⟨b,o,us',h1,h2,h3,h4,h5⟩:=hc;exact ⟨b,o,us',h1,hv b h2,h3,h4.same h (.inr h2),BR.same h hz hv h5⟩
 |.clo f s,us,x,hc=>by
  simp only [BR] at hc ⊢;obtain ⟨h0,vs,h1,h2⟩:=hc;exact ⟨h0,vs,h1,BR.same h hz hv h2⟩
 |.seq a b,us,x,hc=>by
  simp only [BR] at hc ⊢;obtain ⟨u1,u2,h1,h2,h3⟩:=hc;exact ⟨u1,u2,h1,BR.same h hz hv h2,BR.same h hz hv h3⟩
 |.bor s,us,x,hc=>by
  simp only [BR] at hc ⊢;exact BR.same h hz hv hc
 |.map n s,us,xs,hc=>by
  simp only [BR] at hc ⊢;obtain ⟨b,h1,h2,es,clock,h3,h4,h5,h6,h7,h8,h9⟩:=hc;exact ⟨b,h1,hv b h2,es,clock,by rw [h b (.inr h2),h3],h4,h5,h6,h7,h8,λi hi hi'=>⟨(h9 i hi hi').1,BR.same h hz hv (h9 i hi hi').2⟩⟩
theorem SR.grow{Y:Nat->Prop}:∀ {s:Sh}{us:List Value}{x:s.den}{S S':Nat->Prop},(∀ b,S b->S' b)->SR w Z Y s us x S->SR w Z Y s us x S'
 |.nil,_,_,_,_,_,hc=>hc
 |.undef,_,_,_,_,_,hc=>hc
 |.nilp,_,_,_,_,_,hc=>hc
 |.nilz,_,_,_,_,_,hc=>hc
 |.err,_,_,_,_,_,hc=>hc
 |.opq,_,_,_,_,_,hc=>hc
 |.sb p,us,xs,S,S',hS,hc=>by
  simp only [SR] at hc ⊢;obtain ⟨b,h1,h2⟩:=hc;exact ⟨b,h1,h2.mono (SameOn.refl _ _) hS⟩
 |.frz _,_,_,_,_,_,hc=>hc
 |.own s,us,xs,S,S',hS,hc=>by
  simp only [SR] at hc ⊢;obtain ⟨ℓ,h1,h2,h3⟩:=hc;exact ⟨ℓ,h1,λb hb=>hS b (h2 b hb),h3⟩
 |.box s,us,x,S,S',hS,hc=>by
  simp only [SR] at hc ⊢;obtain ⟨b,o,us',T,h1,h2,h3,h4,h5,h6,h7⟩:=hc;exact ⟨b,o,us',T,h1,hS b h2,h3,h4,h5,λd hd=>⟨hS d (h6 d hd).1,(h6 d hd).2⟩,h7⟩
 |.clo f s,us,x,S,S',hS,hc=>by
  simp only [SR] at hc ⊢;obtain ⟨h0,vs,h1,h2⟩:=hc;exact ⟨h0,vs,h1,SR.grow hS h2⟩
 |.seq a b,us,x,S,S',hS,hc=>by
  simp only [SR] at hc ⊢;obtain ⟨u1,u2,S1,S2,h1,h2,h3,h4,h5,h6⟩:=hc;exact ⟨u1,u2,S1,S2,h1,λd hd=>hS d (h2 d hd),λd hd=>hS d (h3 d hd),h4,h5,h6⟩
 |.bor s,_,_,_,_,_,hc=>hc
 |.map n s,us,xs,S,S',hS,hc=>by
  simp only [SR] at hc ⊢;obtain ⟨b,h1,h2⟩:=hc;exact ⟨b,h1,h2.mono rfl hS λ_ _ _ _ _ h=>h⟩
theorem SR.same{Y Y':Nat->Prop}(hz:∀ b,Z b->Z' b)(hy:∀ b,Y b->Y' b):∀ {s:Sh}{us:List Value}{x:s.den}{S:Nat->Prop},SameOn (λb=>(Z b\/Y b)\/S b) w w'->SR w Z Y s us x S->SR w' Z' Y' s us x S
 |.nil,_,_,_,_,hc=>hc
 |.undef,_,_,_,_,hc=>hc
 |.nilp,_,_,_,_,hc=>hc
 |.nilz,_,_,_,_,hc=>hc
 |.err,_,_,_,_,hc=>hc
 |.opq,_,_,_,_,hc=>hc
 |.sb p,us,xs,S,h,hc=>by
  simp only [SR] at hc ⊢;obtain ⟨b,h1,h2⟩:=hc;exact ⟨b,h1,h2.mono (h.mono λd hd=>.inr hd) λ_ h=>h⟩
 |.frz _,_,_,_,h,hc=>Frz.same (h.mono λ_ h=>.inl (.inl h)) hz (show Frz w Z _ _ _ from hc)
 |.own s,us,xs,S,h,hc=>by
  simp only [SR] at hc ⊢;obtain ⟨ℓ,h1,h2,h3⟩:=hc;refine ⟨ℓ,h1,h2,h3.mono (h.mono λb hb=>.inr (h2 b hb)) λi us x T _ hT hR=>?_⟩;exact SR.same hz hy (h.mono λb hb=>hb.imp id λhb=>h2 b (hT b hb)) hR
 |.box s,us,x,S,h,hc=>by
  simp only [SR] at hc ⊢;obtain ⟨b,o,us',T,h1,h2,h3,h4,h5,h6,h7⟩:=hc;exact ⟨b,o,us',T,h1,h2,h3.same h (.inr h2),h4,h5.same h (.inr h2),h6,SR.same hz hy (h.mono λd hd=>hd.imp id λhd=>(h6 d hd).1) h7⟩
 |.clo f s,us,x,S,h,hc=>by
  simp only [SR] at hc ⊢;obtain ⟨h0,vs,h1,h2⟩:=hc;exact ⟨h0,vs,h1,SR.same hz hy h h2⟩
 |.seq a b,us,x,S,h,hc=>by
  simp only [SR] at hc ⊢;obtain ⟨u1,u2,S1,S2,h1,h2,h3,h4,h5,h6⟩:=hc;exact ⟨u1,u2,S1,S2,h1,h2,h3,h4,SR.same hz hy (h.mono λd hd=>hd.imp id (h2 d)) h5,SR.same hz hy (h.mono λd hd=>hd.imp id (h3 d)) h6⟩
 |.bor s,us,x,S,h,hc=>by
  simp only [SR] at hc ⊢;refine BR.same (h.mono λb hb=>.inl ?_) hz (λb hb=>hb.imp (hy b) (hz b)) hc;rcases hb with hb|hb|hb
  ·exact .inl hb
  ·exact .inr hb
  ·exact .inl hb
 |.map n s,us,xs,S,h,hc=>by
  simp only [SR] at hc ⊢;obtain ⟨b,h1,h2⟩:=hc;exact ⟨b,h1,h2.mono (h b (.inr h2.1)) (λ_ h=>h) λi us x T hT hR=>SR.same hz hy (h.mono λd hd=>hd.imp id (hT d)) hR⟩
theorem ElR.mono{Y Y':Nat->Prop}{s:Sh}{foc:Option Foc}{i:Nat}{us:List Value}{x:s.den}{S:Nat->Prop}(h:SameOn (λb=>(Z b\/Y b)\/S b) w w')(hz:∀ b,Z b->Z' b)(hy:∀ b,Y b->Y' b)(hm:ExtL μ μ')
  (hc:ElR w Z Y μ s foc i us x S):ElR w' Z' Y' μ' s foc i us x S:=by
 cases foc with
 |none=>exact SR.same hz hy h (show SR w Z Y s us x S from hc)
 |some f =>
  simp only [ElR] at hc ⊢;by_cases hi:f.i=i
  ·rw [if_pos hi] at hc ⊢;exact hc.mono (h.mono λb hb=>.inl (.inl hb)) hz hm
  ·rw [if_neg hi] at hc ⊢;exact hc.same hz hy h
theorem RootOk.mono{Y Y':Nat->Prop}{ℓ:Loc}{x:Root}(h:SameOn (λb=>(Z b\/Y b)\/ℓ.S b) w w')(hz:∀ b,Z b->Z' b)(hy:∀ b,Y b->Y' b)(hm:ExtL μ μ')(hc:RootOk w Z Y μ ℓ x):RootOk w' Z' Y' μ' ℓ x:=by
 have hZ:SameOn Z w w':=h.mono λb hb=>.inl (.inl hb);have hYZ:SameOn (λb=>Y b\/Z b) w w':=h.mono λb hb=>.inl hb.symm
 cases x with
 |dead=>trivial
 |frz e xs=>exact RdR.mono hZ hz (λus x _ hr=>hr.same hZ hz) hc
 |bor s xs=>exact RdR.mono hYZ (λb hb=>hb.imp (hy b) (hz b)) (λus x _ hr=>hr.same (hYZ.mono λb hb=>hb.elim .inr id) hz λb hb=>hb.imp (hy b) (hz b)) hc
 |bbox cs =>
  obtain ⟨b,h1,h2,us,h3,h4⟩:=hc;exact ⟨b,h1,h2.imp (hy b) (hz b),us,h3.same hYZ h2,h4.mono hZ hz hm⟩
 |box cs =>
  obtain ⟨b,h1,h2,h3,us,h4,h5⟩:=hc;exact ⟨b,h1,h2,h3.same h (.inr h2),us,h4.same h (.inr h2),h5.mono hZ hz hm⟩
 |arr s xs foc =>
  exact ⟨hc.1,hc.2.mono (h.mono λb hb=>.inr hb) λi us x S _ hS hr=>hr.mono (h.mono λb hb=>hb.imp id (hS b)) hz hy hm⟩
 |mapr n s xs foc =>
  obtain ⟨h1,b,h2,h3⟩:=hc;exact ⟨h1,b,h2,h3.mono (h b (.inr h3.1)) (λ_ h=>h) λi us x S hS hr=>ElR.mono (h.mono λb hb=>hb.imp id (hS b)) hz hy hm hr⟩
 |sb p xs =>
  obtain ⟨b,h1,h2,h3⟩:=hc;exact ⟨b,h1,h2,h3.mono (h.mono λb hb=>.inr hb) λ_ h=>h⟩
 |mape n s xs i cs q =>
  obtain ⟨h1,b,es,clock,ℓq,h2,h3,h4,h5,h6⟩:=hc;obtain ⟨S',h4'⟩:=hm q ℓq h4;exact ⟨h1,b,es,clock,{ ℓq with S:=S' },h2,by rw [h b (.inr h6.1),h3],h4',h5,h6.mono (h b (.inr h6.1)) (λ_ h=>h) λi us x S hS hr=>ElR.mono (h.mono λb hb=>hb.imp id (hS b)) hz hy hm hr⟩
 |itr r n s xs left cur =>
  obtain ⟨itb,b,ℓr,es,clock,seen,foc,S,h1,h2,h3,h4,h5,h6,h7,h9,h11,h12,h13⟩:=hc;obtain ⟨S',h5'⟩:=hm r ℓr h5
  exact ⟨itb,b,{ ℓr with S:=S' },es,clock,seen,foc,S,h1,h2,h3,h4,h5',h6,by rw [h itb (.inr h3),h7],by rw [h b (.inr (h4 b h12.1).1),h9],h11,
   h12.mono (h b (.inr (h4 b h12.1).1)) (λ_ h=>h) λi us x T hT hr=>ElR.mono (h.mono λb hb=>hb.imp id λht=>(h4 b (hT b ht)).1) hz hy hm hr,h13⟩
end
section
variable {w:World}{Z:Nat->Prop}{μ:Locs}
theorem CR.one{c:C}{v:Value}(h:CR w Z μ c v)(hu:c.isUndef=false):v.cells=#[v]/\v.oneCell'=true:=by
 cases c with
 |undef=>simp [C.isUndef] at hu
 |int k n=>obtain ⟨rfl,_⟩:=h;exact ⟨rfl,rfl⟩
 |bool b=>cases (show v=_ from h);exact ⟨rfl,rfl⟩
 |str s=>obtain ⟨rfl,_⟩:=h;exact ⟨rfl,rfl⟩
 |nils=>cases (show v=_ from h);exact ⟨rfl,rfl⟩
 |lst e xs =>
  obtain ⟨q,cap,h1,_⟩:=(show Frz w Z (.list e) [v] xs from h)
  simp only [List.cons.injEq,and_true] at h1;subst h1;exact ⟨rfl,rfl⟩
 |ref r wd =>
  obtain ⟨ℓ,_,h⟩:=h
  cases wd with
  |full=>cases (show v=_ from h);exact ⟨rfl,rfl⟩
  |sub p q=>obtain ⟨_,a,rfl,_⟩:=h;exact ⟨rfl,rfl⟩
 |ptr r off=>obtain ⟨_,_,_,_,rfl⟩:=h;exact ⟨rfl,rfl⟩
 |eptr r i off=>obtain ⟨_,_,_,_,_,rfl⟩:=h;exact ⟨rfl,rfl⟩
 |lptr e x off=>obtain ⟨_,_,_,_,rfl,_⟩:=h;exact ⟨rfl,rfl⟩
 |nilp=>cases (show v=_ from h);exact ⟨rfl,rfl⟩
 |nilf=>cases (show v=_ from h);exact ⟨rfl,rfl⟩
 |nili=>cases (show v=_ from h);exact ⟨rfl,rfl⟩
 |err b=>obtain ⟨_,rfl⟩|⟨_,_,_,rfl⟩:=(show ErrR b v from h)<;>exact ⟨rfl,rfl⟩
 |stp q=>obtain ⟨_,_,rfl⟩:=h;exact ⟨rfl,rfl⟩
 |opq=>exact h
 |mp r=>obtain ⟨_,_,_,_,rfl⟩:=h;exact ⟨rfl,rfl⟩
 |fn f caps=>obtain ⟨vs,rfl,_⟩:=h;exact ⟨rfl,rfl⟩
end
end Go.Mach

namespace Go.Mach
theorem RootOk.frzS{w:World}{Z Y:Nat->Prop}{μ:Locs}{ℓ:Loc}{x:Root}(ho:x.owns=false)(S':Nat->Prop)(h:RootOk w Z Y μ ℓ x):RootOk w Z Y μ { ℓ with S:=S' } x:=by
 cases x with
 |dead=>trivial
 |frz e xs=>exact h
 |bor s xs=>exact h
 |bbox cs=>exact h
 |box cs=>simp [Root.owns] at ho
 |arr s xs foc=>simp [Root.owns] at ho
 |mapr n s xs foc=>simp [Root.owns] at ho
 |itr r n s xs left cur=>simp [Root.owns] at ho
 |mape n s xs i cs q=>simp [Root.owns] at ho
 |sb p xs=>simp [Root.owns] at ho
def OwnsAt(m:Mem)(μ:Locs)(r b:Nat):Prop:=∃ x ℓ,m.roots[r]?=some x/\x.owns=true/\μ r=some ℓ/\ℓ.S b
theorem MemOk.step{B:Base}{m m':Mem}{w w':World}{Z Z':Nat->Prop}{μ μ':Locs}(h:MemOk B m w Z μ)(R:Nat->Prop)
  (hroots:∀ r,¬ R r->m'.roots[r]?=m.roots[r]?/\μ' r=μ r)
  (hw:∀ b,b < w.heap.size->(∀ r,R r->¬ OwnsAt m μ r b)->w'.heap[b]?=w.heap[b]?)
  (hsz:w.heap.size<=w'.heap.size) (hext:ExtL μ μ')
  (hZ:∀ b,Z b->Z' b) (hZ':∀ b,Z' b->Z b\/((∃ r,R r/\OwnsAt m μ r b)\/w.heap.size<=b)/\b < w'.heap.size)
  (hnew:∀ r x,R r->m'.roots[r]?=some x->x≠.dead->∃ ℓ,μ' r=some ℓ/\RootOk w' Z' B.Y μ' ℓ x /\
   (x.owns=true->∀ b,ℓ.S b->b < w'.heap.size/\¬ Z' b/\((∃ r,R r/\OwnsAt m μ r b)\/w.heap.size<=b)))
  (hdj:∀ r s,R r->R s->r≠s->∀ b,OwnsAt m' μ' r b->OwnsAt m' μ' s b->False)
  (hfar:∀ r,R r->m'.roots.length<=r->μ' r=none) (hlen:m.roots.length<=m'.roots.length) (hio:Io B.g.dr w w':=by first|exact Io.same rfl rfl rfl (.inl rfl)|exact Io.same rfl rfl rfl (.inr rfl)):MemOk B m' w' Z' μ':=by
 have hZw:SameOn Z w w':=λb hb=>hw b (h.frz b hb).1 λr _ ⟨x,ℓ,h1,h2,h3,h4⟩=>(h.own r x ℓ b h1 h2 h3 h4).1 hb
 have hYw:SameOn B.Y w w':=λb hb=>hw b (Nat.lt_of_lt_of_le (h.lent b hb).1 h.size) λr _ ⟨x,ℓ,h1,h2,h3,h4⟩=>by
  have h5:=(h.own r x ℓ b h1 h2 h3 h4).2.2;have h6:=h.lent b hb;rcases h5 with h5|h5
  ·omega
  ·exact h6.2 h5
 have hOld:∀ r b,OwnsAt m μ r b->¬ Z b/\b < w.heap.size/\(B.w0.heap.size<=b\/B.A b):=λr b ⟨x,ℓ,h1,h2,h3,h4⟩=>h.own r x ℓ b h1 h2 h3 h4
 have hOff:∀ r b,¬ R r->OwnsAt m μ r b->∀ s,R s->¬ OwnsAt m μ s b:=λr b hr ⟨x,ℓ,h1,h2,h3,h4⟩ s hs ⟨y,ℓ',h5,h6,h7,h8⟩ =>
  h.dj r s x y ℓ ℓ' (λe=>hr (e▸hs)) h1 h5 h2 h6 h3 h7 b h4 h8
 have hKeepOwn:∀ r b,OwnsAt m' μ' r b->(R r/\b < w'.heap.size/\¬ Z' b/\((∃ r,R r/\OwnsAt m μ r b)\/w.heap.size<=b))\/(¬ R r/\OwnsAt m μ r b):=by
  rintro r b ⟨x,ℓ,h1,h2,h3,h4⟩;by_cases hr:R r
  ·obtain ⟨ℓ',h5,_,h7⟩:=hnew r x hr h1 (by rintro rfl;simp [Root.owns] at h2);rw [h3] at h5;cases h5;exact .inl ⟨hr,h7 h2 b h4⟩
  ·obtain ⟨h5,h6⟩:=hroots r hr;exact .inr ⟨hr,x,ℓ,h5▸h1,h2,h6▸h3,h4⟩
 constructor
 ·intro r x hx hd;by_cases hr:R r
  ·obtain ⟨ℓ,h1,h2,_⟩:=hnew r x hr hx hd;exact ⟨ℓ,h1,h2⟩
  ·obtain ⟨h1,h2⟩:=hroots r hr;rw [h1] at hx;obtain ⟨ℓ,h3,h4⟩:=h.rt r x hx hd;refine ⟨ℓ,h2▸h3,?_⟩
   cases ho:x.owns with
   |true =>
    refine h4.mono (λb hb=>?_) hZ (λ_ h=>h) hext;rcases hb with (hb|hb)|hb
    ·exact hZw b hb
    ·exact hYw b hb
    ·exact hw b (h.own r x ℓ b hx ho h3 hb).2.1 (hOff r b hr ⟨x,ℓ,hx,ho,h3,hb⟩)
   |false =>
    have h5:=(h4.frzS ho (λ_=>False)).mono (w':=w') (Z':=Z') (μ':=μ') (λb hb=>by
     rcases hb with (hb|hb)|hb
     ·exact hZw b hb
     ·exact hYw b hb
     ·exact hb.elim) hZ (λ_ h=>h) hext
    exact h5.frzS ho ℓ.S
 ·intro r s x y ℓ ℓ' hrs hx hy hox hoy hl hl' b hb hb';have h1:OwnsAt m' μ' r b:=⟨x,ℓ,hx,hox,hl,hb⟩;have h2:OwnsAt m' μ' s b:=⟨y,ℓ',hy,hoy,hl',hb'⟩
  rcases hKeepOwn r b h1 with ⟨hr,hlt,hz,h3⟩|⟨hr,h3⟩<;>rcases hKeepOwn s b h2 with ⟨hs,hlt',hz',h4⟩|⟨hs,h4⟩
  ·exact hdj r s hr hs hrs b h1 h2
  ·rcases h3 with ⟨t,ht,h3⟩|h3
   ·exact hOff s b hs h4 t ht h3
   ·have:=(hOld s b h4).2.1;omega
  ·rcases h4 with ⟨t,ht,h4⟩|h4
   ·exact hOff r b hr h3 t ht h4
   ·have:=(hOld r b h3).2.1;omega
  ·obtain ⟨x',l1,a1,a2,a3,a4⟩:=h3;obtain ⟨y',l2,b1,b2,b3,b4⟩:=h4;exact h.dj r s x' y' l1 l2 hrs a1 b1 a2 b2 a3 b3 b a4 b4
 ·intro r x ℓ b hx ho hl hb;rcases hKeepOwn r b ⟨x,ℓ,hx,ho,hl,hb⟩ with ⟨_,hlt,hz,h3⟩|⟨hr,h3⟩
  ·refine ⟨hz,hlt,?_⟩;rcases h3 with ⟨t,_,h3⟩|h3
   ·exact (hOld t b h3).2.2
   ·exact .inl (Nat.le_trans h.size h3)
  ·obtain ⟨h4,h5,h6⟩:=hOld r b h3;refine ⟨λhz=>?_,by omega,h6⟩;rcases hZ' b hz with hz|⟨⟨t,ht,h7⟩|h7,_⟩
   ·exact h4 hz
   ·exact hOff r b hr h3 t ht h7
   ·omega
 ·intro b hb;rcases hZ' b hb with hz|⟨⟨t,_,h7⟩|h7,hlt⟩
  ·obtain ⟨h1,h2⟩:=h.frz b hz;exact ⟨by omega,h2⟩
  ·exact ⟨hlt,.inr (hOld t b h7).2.2⟩
  ·exact ⟨hlt,.inr (.inl (Nat.le_trans h.size h7))⟩
 ·exact λb hb=>hZ b (h.frz0 b hb)
 ·exact Nat.le_trans h.size hsz
 ·intro b hb hA;rw [<- h.keep b hb hA];refine hw b (Nat.lt_of_lt_of_le hb h.size) λr _ ho=>?_;rcases (hOld r b ho).2.2 with h1|h1
  ·omega
  ·exact hA h1
 ·intro r hr;by_cases hR:R r
  ·exact hfar r hR hr
  ·rw [(hroots r hR).2];exact h.far r (Nat.le_trans hlen hr)
 ·exact h.lent
 ·exact h.io.trans hio
structure Rel (B:Base) (st:St) (a:Act) (w:World) (Z:Nat->Prop) (μ:Locs):Prop where
 mem:MemOk B st.mem w Z μ
 tm:∀ (i:Nat) (x:AV),st.tmps[i]?=some x->AR w Z μ x (a.tmps.getD i undef)
 len:st.tmps.length=a.tmps.size
 df:a.defers=[]
theorem AR.undef{w:World}{Z:Nat->Prop}{μ:Locs}(v:Value):AR w Z μ (.c .undef) v:=trivial
theorem Rel.get{B:Base}{st:St}{a:Act}{w:World}{Z:Nat->Prop}{μ:Locs}(h:Rel B st a w Z μ)(t:Nat):AR w Z μ (st.get t) (a.tmps.getD t Go.undef):=by
 unfold St.get
 cases hx:st.tmps[t]? with
 |none=>exact AR.undef _
 |some x=>exact h.tm t x hx
theorem Rel.put{B:Base}{st:St}{a:Act}{w w':World}{Z Z':Nat->Prop}{μ μ':Locs}{m':Mem}(h:Rel B st a w Z μ)(hm:MemOk B m' w' Z' μ')
  (hw:SameOn Z w w') (hz:∀ b,Z b->Z' b) (he:ExtL μ μ') (dst:Option Tmp){x:AV}{v:Value}(hx:AR w' Z' μ' x v) :
  Rel B (st.with dst x m') (a.put dst v) w' Z' μ':=by
 cases dst with
 |none=>exact ⟨hm,λi y hy=>(h.tm i y hy).mono hw hz he,h.len,h.df⟩
 |some d =>
  refine ⟨hm,λi y hy=>?_,?_,h.df⟩
  ·simp only [St.with,St.put] at hy;rw [List.getElem?_set] at hy;simp only [Act.put];by_cases hd:d=i
   ·subst hd;by_cases hlt:d < st.tmps.length
    ·simp [hlt] at hy;subst hy;have:d < a.tmps.size:=h.len▸hlt;simpa [this] using hx
    ·simp [hlt] at hy
   ·simp [hd] at hy;have h1:=(h.tm i y hy).mono hw hz he;simpa [Array.getElem?_setIfInBounds_ne hd] using h1
  ·simp [St.with,St.put,Act.put,h.len]
theorem Rel.put0{B:Base}{st:St}{a:Act}{w:World}{Z:Nat->Prop}{μ:Locs}(h:Rel B st a w Z μ)(dst:Option Tmp){x:AV}{v:Value}(hx:AR w Z μ x v) :
  Rel B (st.put dst x) (a.put dst v) w Z μ:=by
 have:=h.put h.mem (SameOn.refl _ _) (λ_ h=>h) (ExtL.refl μ) dst hx
 cases dst<;>exact this
theorem cellOf_ok{w:World}{Z:Nat->Prop}{μ:Locs}(v:Value):CR w Z μ (cellOf v) v:=by
 unfold cellOf;split
 ·split
  ·rename_i h;exact ⟨rfl,h⟩
  ·trivial
 ·rfl
 ·split
  ·rename_i h;exact ⟨rfl,h⟩
  ·trivial
 all_goals first|rfl|trivial
theorem CRs_map{w:World}{Z:Nat->Prop}{μ:Locs}(vs:List Value):CRs w Z μ (vs.map cellOf) vs :=
 ⟨by simp,λk h h'=>by simpa using cellOf_ok _⟩
theorem ofVal_ok{w:World}{Z:Nat->Prop}{μ:Locs}(v:Value):AR w Z μ (ofVal v) v:=by
 unfold ofVal;split
 ·rename_i cs;exact ⟨cs.toList,rfl,CRs_map _⟩
 ·exact cellOf_ok v
theorem Rel.val{B:Base}{st:St}{a:Act}{w:World}{Z:Nat->Prop}{μ:Locs}(h:Rel B st a w Z μ)(x:Operand):AR w Z μ (val st x) (a.eval x):=by
 cases x with
 |tmp t=>exact h.get t
 |const v=>exact ofVal_ok v
 |global g=>trivial
 |func f=>exact ⟨[],rfl,rfl,λk h=>by simp at h⟩
theorem AR.cells{w:World}{Z:Nat->Prop}{μ:Locs}{x:AV}{v:Value}(h:AR w Z μ x v)(hx:x.cells≠[]) :
  (∃ c,x=.c c/\CR w Z μ c v)\/(∃ cs vs,x=.agg cs/\v=.agg vs.toArray/\CRs w Z μ cs vs):=by
 cases x with
 |c c=>exact .inl ⟨c,rfl,h⟩
 |agg cs=>obtain ⟨vs,h1,h2⟩:=h;exact .inr ⟨cs,vs,rfl,h1,h2⟩
 |tup l=>simp [AV.cells] at hx
end Go.Mach

namespace Go.Mach
def Fresh(st:St)(n:Nat)(μ:Locs):Prop :=
 ∀ k,k < n->μ (st.mem.cur+k)=none/\st.mem.roots[st.mem.cur+k]?=some .dead
def Nxt(B:Base)(st:St)(n:Nat)(Z:Nat->Prop)(μ:Locs)(Φ:St->Prop)(a':Act)(w':World):Prop :=
 ∃ st' Z' μ',Rel B st' a' w' Z' μ'/\Φ st'/\st'.mem.roots.length=st.mem.roots.length/\st'.dT=st.dT /\
  (∀ r,(r < st.mem.cur\/st.mem.cur+n<=r)->μ r=none->μ' r=none)/\(∀ b,Z b->Z' b)/\ExtL μ μ'
section
variable {P:Program}{o:Oper}{a:Act}{w w':World}{next:Act->World->Prop}{Q:Exit->Act->World->Prop}
theorem wp_of_value{v:Value}(h:(execOp a.eval o).run P w=.ok (.value v) w')(hn:next (a.put o.dst v) w'):o.wp P a w next Q:=by
 unfold Oper.wp;rw [h];exact hn
theorem wp_of_skip(h:(execOp a.eval o).run P w=.ok .skip w')(hn:next (a.put o.dst Go.undef) w'):o.wp P a w next Q:=by
 unfold Oper.wp;rw [h];exact hn
theorem wp_of_enter{f:FuncId}{args:Array Value}(h:(execOp a.eval o).run P w=.ok (.enter f args) w')
  (hn:Calls P f args w' λe w''=>∃ v,e=.returned v/\next (a.put o.dst v) w''):o.wp P a w next Q:=by
 unfold Oper.wp;rw [h];refine Calls.mono hn ?_;rintro e w'' ⟨v,rfl,hv⟩;exact hv
end
section
variable {B:Base}{E:Env}{st:St}{o:Oper}{a:Act}{w:World}{Z:Nat->Prop}{μ:Locs}{Φ:St->Prop}
theorem pure_sound(hR:Rel B st a w Z μ){x:AV}{v:Value}(n:Nat)(hx:AR w Z μ x v)(hrun:(execOp a.eval o).run E.P w=.ok (.value v) w)
  (hΦ:Φ (st.put o.dst x)):o.wp E.P a w (Nxt B st n Z μ Φ) (λ_ _ _=>False):=by
 refine wp_of_value hrun ⟨_,Z,μ,hR.put0 o.dst hx,hΦ,?_,?_,λ_ _ h=>h,λ_ h=>h,ExtL.refl μ⟩
 ·cases o.dst<;>rfl
 ·cases o.dst<;>rfl
theorem sound_move(hR:Rel B st a w Z μ)(n:Nat){x:Operand}(ho:o.op=.move x)(h:(step E st o Res.ok).sat Φ):o.wp E.P a w (Nxt B st n Z μ Φ) (λ_ _ _=>False):=by
 simp only [step,stepV,ho,Res.sat] at h;exact pure_sound hR n (hR.val x) (by simp [execOp,ho]) h
theorem sound_assign(hR:Rel B st a w Z μ)(n:Nat){x:Operand}(ho:o.op=.assign x)(h:(step E st o Res.ok).sat Φ):o.wp E.P a w (Nxt B st n Z μ Φ) (λ_ _ _=>False):=by
 simp only [step,stepV,ho,Res.sat] at h;exact pure_sound hR n (hR.val x) (by simp [execOp,ho]) h
theorem sat_br{β:Type}{t:Bool}{x y:Res β}{Φ:β->Prop}(h:(Res.br t x y).sat Φ):(t=true/\x.sat Φ)\/(t=false/\y.sat Φ):=by
 cases t
 ·exact .inr ⟨rfl,h⟩
 ·exact .inl ⟨rfl,h⟩
theorem sat_need{β:Type}{t:Bool}{x:Res β}{Φ:β->Prop}(h:(Res.need t x).sat Φ):t=true/\x.sat Φ:=by
 cases t
 ·exact h.elim
 ·exact ⟨rfl,h⟩
theorem sat_given{β:Type}{t:Bool}{x:Res β}{Φ:β->Prop}(h:(Res.given t x).sat Φ)(ht:t=true):x.sat Φ:=h ht
theorem sat_idx{β:Type}{t:Ty}{xs:List t.den}{i:Int}{k:t.den->Res β}{Φ:β->Prop}(h:(Res.idx t xs i k).sat Φ) :
  0<=i/\∃ hi:i.toNat < xs.length,(t.ok xs[i.toNat]=true->(k xs[i.toNat]).sat Φ):=by
 unfold Res.idx at h;split at h
 ·rename_i h0;refine ⟨by simpa using h0,?_⟩;split at h
  ·rename_i x hx;obtain ⟨hi,rfl⟩:=List.getElem?_eq_some_iff.1 hx;exact ⟨hi,λhok=>sat_given h hok⟩
  ·exact h.elim
 ·exact h.elim
theorem sound_pick(hR:Rel B st a w Z μ)(n:Nat){c x y:Operand}(ho:o.op=.pick c x y)(h:(step E st o Res.ok).sat Φ):o.wp E.P a w (Nxt B st n Z μ Φ) (λ_ _ _=>False):=by
 simp only [step,stepV,ho] at h;have hc:=hR.val c;have hx:=hR.val x;have hy:=hR.val y;split at h
 case h_2=>exact h.elim
 rename_i t ht;rw [ht] at hc;have hc':a.eval c=.bool t:=hc;unfold pickK at h;split at h
 ·rename_i p q hp hq;rw [hp] at hx;rw [hq] at hy;have hx':a.eval x=.bool p:=hx;have hy':a.eval y=.bool q:=hy;refine pure_sound hR n (x:=.c (.bool (bif t then p else q))) (v:=.bool (bif t then p else q)) rfl ?_ h
  cases t<;>simp [execOp,ho,hc',hx',hy',asBool]
 ·rcases sat_br h with ⟨rfl,h⟩|⟨rfl,h⟩
  ·exact pure_sound hR n hx (by simp [execOp,ho,hc',asBool]) h
  ·exact pure_sound hR n hy (by simp [execOp,ho,hc',asBool]) h
theorem sound_nilCheck(hR:Rel B st a w Z μ)(n:Nat){x:Operand}(ho:o.op=.nilCheck x)(h:(step E st o Res.ok).sat Φ):o.wp E.P a w (Nxt B st n Z μ Φ) (λ_ _ _=>False):=by
 simp only [step,stepV,ho] at h;have hx:=hR.val x;split at h
 case h_4=>exact h.elim
 all_goals
  rename_i hv;rw [hv] at hx;refine pure_sound hR n hx ?_ h
 ·obtain ⟨ℓ,b,_,_,h3⟩:=hx;simp [execOp,ho,h3]
 ·obtain ⟨ℓ,b,_,_,_,h3⟩:=hx;simp [execOp,ho,h3]
 ·obtain ⟨b,q,us,_,h3,_⟩:=hx;simp [execOp,ho,h3]
theorem inRange_wrap(k:IntKind)(n:Int):inRange k (k.wrap n)=true:=by
 unfold inRange;simp only [beq_iff_eq];unfold IntKind.wrap
 cases k<;>simp only [IntKind.bits,IntKind.signed]<;>simp<;>omega
end
end Go.Mach

namespace Go.Mach
theorem range_spec{k:IntKind}{n:Int}(h:inRange k n=true):k.min<=n/\n<=k.max:=by
 have:=beq_iff_eq.1 h;rw [<- this];unfold IntKind.wrap IntKind.min IntKind.max
 cases k<;>simp only [IntKind.bits,IntKind.signed]<;>simp<;>omega
theorem inRange_of{k:IntKind}{n:Int}(h:k.min<=n)(h':n<=k.max):inRange k n=true:=by
 unfold inRange;simp only [beq_iff_eq];unfold IntKind.wrap;unfold IntKind.min at h;unfold IntKind.max at h'
 cases k<;>simp only [IntKind.bits,IntKind.signed] at*<;> simp at*<;> omega
theorem min_le_zero(k:IntKind):k.min<=0:=by cases k<;>decide
theorem zero_le_max(k:IntKind):0<=k.max:=by cases k<;>decide
theorem inRange_tmod{k:IntKind}{a:Int}(b:Int)(h:inRange k a=true):inRange k (a.tmod b)=true:=by
 obtain ⟨h1,h2⟩:=range_spec h;have h3:=min_le_zero k;have h4:=zero_le_max k
 have h5:(a.tmod b).natAbs<=a.natAbs:=by rw [Int.natAbs_tmod];exact Nat.mod_le _ _
 refine inRange_of ?_ ?_
 ·rcases Int.le_total 0 a with h0|h0
  ·have:=Int.tmod_nonneg b h0;omega
  ·omega
 ·rcases Int.le_total 0 a with h0|h0
  ·omega
  ·have h6:(a.tmod b)=-((-a).tmod b):=by rw [Int.neg_tmod];simp
   have:=Int.tmod_nonneg b (show 0<=-a by omega);omega
theorem inRange_shr{k:IntKind}{a:Int}(n:Nat)(h:inRange k a=true):inRange k (a.fdiv (2^n))=true:=by
 obtain ⟨h1,h2⟩:=range_spec h;have h3:=min_le_zero k;have h4:=zero_le_max k;have hp:(0:Int) < 2^n:=Int.pow_pos (by decide);rw [Int.fdiv_eq_ediv_of_nonneg _ (Int.le_of_lt hp)];refine inRange_of ?_ ?_
 ·rcases Int.le_total 0 a with h0|h0
  ·have:=Int.ediv_nonneg h0 (Int.le_of_lt hp);omega
  ·have:a<=a / 2^n:=Int.le_ediv_of_mul_le hp (by
    have:(1:Int)<=2^n:=hp
    calc a*2^n<=a*1:=Int.mul_le_mul_of_nonpos_left h0 this
     _=a:=by omega)
   omega
 ·rcases Int.le_total 0 a with h0|h0
  ·have:=Int.ediv_le_self (2^n) h0;omega
  ·skip
   have:a / 2^n<=0:=Int.ediv_le_of_le_mul hp (by simpa using h0);omega
theorem inRange_ibits{op:BinOp}{k:IntKind}{a b:Int}:inRange k (ibits op k a b)=true:=by
 unfold ibits
 split<;>first|exact inRange_wrap _ _|skip
 have:=min_le_zero k;have:=zero_le_max k;exact inRange_of (by omega) (by omega)
theorem same_spec{j k:IntKind}{x:PLift (j=k)}(_:IntKind.same j k=some x):j=k:=x.down
section
variable {B:Base}{E:Env}{st:St}{o:Oper}{a:Act}{w:World}{Z:Nat->Prop}{μ:Locs}{Φ:St->Prop}
theorem run_binOp{op:BinOp}{t u:TypeId}{x y:Operand}(ho:o.op=.binOp op t x y u){v:Value}
  (hg:(eqGuard op t x y (a.eval x) (a.eval y)).run E.P w=.ok () w) (hb:(binOp op t (a.eval x) (a.eval y)).run E.P w=.ok v w) :
  (execOp a.eval o).run E.P w=.ok (.value v) w:=by
 simp [execOp,ho,hg,hb]
theorem guard_int{op:BinOp}{t:TypeId}{x y:Operand}{k j:IntKind}{p q:Int}:(eqGuard op t x y (.int k p) (.int j q)).run E.P w=.ok () w:=by
 unfold eqGuard;split<;>rfl
theorem guard_str{op:BinOp}{t:TypeId}{x y:Operand}{p q:ByteArray}:(eqGuard op t x y (.string p) (.string q)).run E.P w=.ok () w:=by
 unfold eqGuard;split<;>rfl
theorem bin_int{β:Type}{op:BinOp}{t:TypeId}{k j:IntKind}{p q:Int}{K:AV->Res β}{Ψ:β->Prop}(hp:inRange k p=true)
  {c:Bool}(h:(binK E.P t c op (.c (.int k p)) (.c (.int j q)) K).sat Ψ) :
  ∃ c v,(binOp op t (.int k p) (.int j q)).run E.P w=.ok v w/\CR w Z μ c v/\(K (.c c)).sat Ψ:=by
 by_cases hs:op=.shl
 ·subst hs;obtain ⟨hb,h⟩:=sat_need h
  have hb':¬ q < 0:=by simp [ile] at hb;omega
  refine ⟨.int k (ishl k p q),.int k (ishl k p q),?_,⟨rfl,inRange_wrap _ _⟩,h⟩;simp [binOp,Op.shift,hb',ishl]
 by_cases hs':op=.shr
 ·subst hs';obtain ⟨hb,h⟩:=sat_need h
  have hb':¬ q < 0:=by simp [ile] at hb;omega
  refine ⟨.int k (ishr k p q),.int k (ishr k p q),?_,⟨rfl,inRange_shr _ hp⟩,h⟩;simp [binOp,Op.shift,hb',ishr]
 have hjk:j=k:=by
  cases hz:IntKind.same j k with
  |none=>cases op<;>first|exact absurd rfl hs|exact absurd rfl hs'|(simp only [binK,hz] at h;exact h.elim)
  |some z=>exact same_spec hz
 subst hjk
 have hz:IntKind.same j j=some ⟨rfl⟩:=by cases j<;>rfl
 cases op<;>first|exact absurd rfl hs|exact absurd rfl hs'|skip
 all_goals simp only [binK,hz] at h
 case add =>
  refine ⟨.int j (j.wrap (p+q)),.int j (j.wrap (p+q)),?_,⟨rfl,inRange_wrap _ _⟩,h⟩;simp [binOp,Op.intArith]
 case sub =>
  refine ⟨.int j (j.wrap (p-q)),.int j (j.wrap (p-q)),?_,⟨rfl,inRange_wrap _ _⟩,h⟩;simp [binOp,Op.intArith]
 case mul =>
  refine ⟨.int j (j.wrap (p*q)),.int j (j.wrap (p*q)),?_,⟨rfl,inRange_wrap _ _⟩,h⟩;simp [binOp,Op.intArith]
 case quo =>
  obtain ⟨hb,h⟩:=sat_need h
  have hb':q≠0:=by simpa using hb
  refine ⟨.int j (j.wrap (p.tdiv q)),.int j (j.wrap (p.tdiv q)),?_,⟨rfl,inRange_wrap _ _⟩,h⟩;simp [binOp,Op.intDiv,hb']
 case rem =>
  obtain ⟨hb,h⟩:=sat_need h
  have hb':q≠0:=by simpa using hb
  refine ⟨.int j (p.tmod q),.int j (p.tmod q),?_,⟨rfl,inRange_tmod _ hp⟩,h⟩;simp [binOp,Op.intDiv,hb']
 case and =>
  refine ⟨.int j (ibits .and j p q),.int j (ibits .and j p q),?_,⟨rfl,inRange_ibits⟩,h⟩;simp only [binOp,ne_eq,not_true,if_false];rfl
 case or =>
  refine ⟨.int j (ibits .or j p q),.int j (ibits .or j p q),?_,⟨rfl,inRange_ibits⟩,h⟩;simp only [binOp,ne_eq,not_true,if_false];rfl
 case xor =>
  refine ⟨.int j (ibits .xor j p q),.int j (ibits .xor j p q),?_,⟨rfl,inRange_ibits⟩,h⟩;simp only [binOp,ne_eq,not_true,if_false];rfl
 case andNot =>
  refine ⟨.int j (ibits .andNot j p q),.int j (ibits .andNot j p q),?_,⟨rfl,inRange_ibits⟩,h⟩;simp only [binOp,ne_eq,not_true,if_false];rfl
 case eql =>
  refine ⟨.bool (p == q),.bool (p == q),?_,rfl,h⟩;simp [binOp,Op.intCmp,ilt,ile,bne]
 case neq =>
  refine ⟨.bool (!(p == q)),.bool (!(p == q)),?_,rfl,h⟩;simp [binOp,Op.intCmp,ilt,ile,bne]
 case lss =>
  refine ⟨.bool (ilt p q),.bool (ilt p q),?_,rfl,h⟩;simp [binOp,Op.intCmp,ilt,ile,bne]
 case leq =>
  refine ⟨.bool (ile p q),.bool (ile p q),?_,rfl,h⟩;simp [binOp,Op.intCmp,ilt,ile,bne]
 case gtr =>
  refine ⟨.bool (ilt q p),.bool (ilt q p),?_,rfl,h⟩;simp [binOp,Op.intCmp,ilt,ile,bne]
 case geq =>
  refine ⟨.bool (ile q p),.bool (ile q p),?_,rfl,h⟩;simp [binOp,Op.intCmp,ilt,ile,bne]
theorem strV_toList(s:List UInt8):(ByteArray.mk ⟨s⟩).toList=s:=by rw [ByteArray.toList_eq]
theorem strV_size(s:List UInt8):(ByteArray.mk ⟨s⟩).size=s.length:=rfl
theorem bin_str{β:Type}{op:BinOp}{t:TypeId}{p q:List UInt8}{K:AV->Res β}{Ψ:β->Prop}
  {c:Bool}(h:(binK E.P t c op (.c (.str p)) (.c (.str q)) K).sat Ψ) :
  ∃ c v,(binOp op t (strV p) (strV q)).run E.P w=.ok v w/\CR w Z μ c v/\(K (.c c)).sat Ψ:=by
 cases op
 case add =>
  simp only [binK] at h;obtain ⟨hb,h⟩:=sat_need h;refine ⟨.str (p++q),strV (p++q),?_,⟨rfl,by simpa using hb⟩,h⟩
  have hlt:¬ ((p.length+q.length:Nat):Int) > IntKind.i64.max:=by
   simp [strOk] at hb;simp [IntKind.max,IntKind.signed,IntKind.bits];omega
  simp only [strV,binOp,Op.stringOp,strV_size];rw [if_neg hlt];simp only [Sem.run_pure];have:=ByteArray.mk_append_mk p q;simp only [List.toArray] at this;simp [this]
 case eql=>exact ⟨.bool (p == q),.bool (p == q),by simp [binOp,Op.stringOp,strV,strV_toList],rfl,h⟩
 case neq=>exact ⟨.bool (!(p == q)),.bool (!(p == q)),by simp [binOp,Op.stringOp,strV,strV_toList],rfl,h⟩
 case lss=>exact ⟨.bool (Op.bytesLess p q),.bool (Op.bytesLess p q),by simp [binOp,Op.stringOp,strV,strV_toList],rfl,h⟩
 case leq=>exact ⟨.bool (Op.bytesLess p q || p == q),.bool (Op.bytesLess p q || p == q),by simp [binOp,Op.stringOp,strV,strV_toList],rfl,h⟩
 case gtr=>exact ⟨.bool (!(Op.bytesLess p q || p == q)),.bool (!(Op.bytesLess p q || p == q)),by simp [binOp,Op.stringOp,strV,strV_toList],rfl,h⟩
 case geq=>exact ⟨.bool (!(Op.bytesLess p q)),.bool (!(Op.bytesLess p q)),by simp [binOp,Op.stringOp,strV,strV_toList],rfl,h⟩
 all_goals exact h.elim
theorem same_none{x:AV}{y:AV}{P:Program}{t:TypeId}{c:Bool}:True:=trivial
def OfCells(agg:Bool)(us:List Value)(v:Value):Prop :=
 match agg with
 |true=>v=.agg us.toArray
 |false=>us=[v]
theorem run_isAgg{P:Program}{t:TypeId}{d:TypeDesc}(h:P.underlying t=some d):(isAgg t).run P w=.ok (aggT P t) w:=by
 simp only [isAgg,Sem.run_bind,run_underlying h,Result.andThen_ok,aggT,h]
 cases d<;>rfl
theorem CRs.length{cs:List C}{us:List Value}(h:CRs w Z μ cs us):cs.length=us.length:=h.1
theorem CRs.sub{cs:List C}{us:List Value}(h:CRs w Z μ cs us)(o n:Nat):CRs w Z μ ((cs.drop o).take n) ((us.drop o).take n):=by
 refine ⟨by simp [h.1],λk h1 h2=>?_⟩;simp only [List.getElem_take,List.getElem_drop];exact h.2 _ _ _
theorem CRs.one{c:C}{us:List Value}(h:CRs w Z μ [c] us):∃ v,us=[v]/\CR w Z μ c v:=by
 obtain ⟨h1,h2⟩:=h
 match us,h1 with
 |[v],_=>exact ⟨v,rfl,h2 0 (by simp) (by simp)⟩
theorem CRs.mk1{c:C}{v:Value}(h:CR w Z μ c v):CRs w Z μ [c] [v]:=by
 refine ⟨rfl,λk h1 h2=>?_⟩
 have:k=0:=by simp at h1;omega
 subst this;exact h
theorem run_part{P:Program}{t:TypeId}{us:List Value}{off:Nat}(hk:(P.underlying t).isSome=true)(hl:off+P.cellsOf t<=us.length)(hs:aggT P t=true\/P.cellsOf t=1) :
  ∃ v,(part t us.toArray off).run P w=.ok v w/\OfCells (aggT P t) ((us.drop off).take (P.cellsOf t)) v:=by
 obtain ⟨d,hd⟩:=Option.isSome_iff_exists.1 hk
 have hsz:(sizeOf t).run P w=.ok (P.cellsOf t) w:=by
  unfold Program.underlying at hd
  cases hi:P.info? t with
  |none=>rw [hi] at hd;simp at hd
  |some i=>simp [sizeOf,typeInfo,hi,Program.cellsOf]
 unfold part;simp only [Sem.run_bind,run_isAgg (w:=w) hd,Result.andThen_ok]
 cases ha:aggT P t with
 |true =>
  simp only [if_true,Sem.run_bind,hsz,Result.andThen_ok,Sem.run_pure];refine ⟨_,rfl,?_⟩;simp only [OfCells,Value.agg.injEq];apply Array.ext';simp [Array.toList_extract,List.extract_eq_take_drop]
 |false =>
  have h1:P.cellsOf t=1:=hs.resolve_left (by simp [ha])
  have hlt:off < us.length:=by omega
  refine ⟨us[off],?_,?_⟩
  ·simp [hlt]
  ·simp only [OfCells,h1];rw [List.drop_eq_getElem_cons hlt];rfl
theorem cr_int{k:IntKind}{x:Int}{v:Value}(h:CR w Z μ (.int k x) v):v=.int k x:=h.1
theorem cr_bool{x:Bool}{v:Value}(h:CR w Z μ (.bool x) v):v=.bool x:=h
theorem cr_str{x:List UInt8}{v:Value}(h:CR w Z μ (.str x) v):v=strV x:=h.1
theorem ofCells_one{agg:Bool}{v u:Value}(ha:agg=false)(h:OfCells agg [v] u):u=v:=by
 subst ha;simp [OfCells] at h;exact h.symm
theorem aggT_of{P:Program}{t:TypeId}{d:TypeDesc}(h:P.underlying t=some d):aggT P t=(match d with|.struct _|.array _ _=>true|_=>false):=by
 simp only [aggT,h];cases d<;>rfl
theorem eqT_kind{P:Program}{n:Nat}{t:TypeId}{xs ys:List C}{b:Bool}(h1:eqT P n t xs ys=some b)(hlen:xs.length=P.cellsOf t):(P.underlying t).isSome=true/\(aggT P t=true\/P.cellsOf t=1):=by
 cases n with
 |zero=>simp [eqT] at h1
 |succ n =>
  simp only [eqT] at h1;split at h1
  ·rename_i hk;refine ⟨by simp [hk],.inr ?_⟩;split at h1
   ·rename_i e1 _;exact hlen.symm
   ·cases h1
  ·rename_i hk;refine ⟨by simp [hk],.inr ?_⟩;split at h1
   ·rename_i e1 _;exact hlen.symm
   ·cases h1
  ·rename_i hk;refine ⟨by simp [hk],.inr ?_⟩;split at h1
   ·rename_i e1 _;exact hlen.symm
   ·cases h1
  ·rename_i hk;exact ⟨by simp [hk],.inl (by rw [aggT_of hk])⟩
  ·rename_i hk;exact ⟨by simp [hk],.inl (by rw [aggT_of hk])⟩
  ·cases h1
theorem eqT_sound{P:Program}:∀ (n:Nat) (t:TypeId) (xs ys:List C) (us vs:List Value) (v u:Value) (b:Bool) (d:Nat),eqT P n t xs ys=some b ->
  CRs w Z μ xs us->CRs w Z μ ys vs->OfCells (aggT P t) us v->OfCells (aggT P t) vs u->n<=d ->
  (Op.equalIn d t v u).run P w=.ok b w/\(P.underlying t).isSome=true/\(aggT P t=true\/xs.length=1)
 |0,_,_,_,_,_,_,_,_,_,h,_,_,_,_,_=>by simp [eqT] at h
 |n+1,t,xs,ys,us,vs,v,u,b,d,h,hx,hy,hv,hu,hd=>by
  obtain ⟨d,rfl⟩:∃ d',d=d'+1:=⟨d-1,by omega⟩;simp only [eqT] at h;split at h
  ·rename_i k ht;rw [aggT_of ht] at hv hu;split at h
   ·rename_i j x i y;split at h
    ·obtain ⟨v',rfl,hv'⟩:=hx.one;obtain ⟨u',rfl,hu'⟩:=hy.one;cases h;rw [ofCells_one rfl hv,ofCells_one rfl hu,cr_int hv',cr_int hu'];rename_i z hz;have:=same_spec hz;subst this;exact ⟨run_equalIn_int w d t _ _ _ _ ht,by simp [ht],.inr rfl⟩
    ·cases h
   ·cases h
  ·rename_i ht;rw [aggT_of ht] at hv hu;split at h
   ·obtain ⟨v',rfl,hv'⟩:=hx.one;obtain ⟨u',rfl,hu'⟩:=hy.one;cases h;rw [ofCells_one rfl hv,ofCells_one rfl hu,cr_bool hv',cr_bool hu'];exact ⟨run_equalIn_bool' w d t _ _ ht,by simp [ht],.inr rfl⟩
   ·cases h
  ·rename_i ht;rw [aggT_of ht] at hv hu;split at h
   ·obtain ⟨v',rfl,hv'⟩:=hx.one;obtain ⟨u',rfl,hu'⟩:=hy.one;cases h;rw [ofCells_one rfl hv,ofCells_one rfl hu,cr_str hv',cr_str hu'];refine ⟨?_,by simp [ht],.inr rfl⟩;rw [strV,strV,run_equalIn_string w d t _ _ ht,strV_toList,strV_toList]
   ·cases h
  ·rename_i fs ht
   have hag:aggT P t=true:=by rw [aggT_of ht]
   rw [hag] at hv hu;simp only [OfCells] at hv hu;subst hv;subst hu;split at h
   ·cases h
   ·rename_i hst
    have hf:P.fieldsOf t=fs:=by simp [Program.fieldsOf,ht]
    refine ⟨?_,by simp [ht],.inl hag⟩;rw [run_equalIn_struct w d t _ _ (by rw [hf];exact ht) hst,hf];generalize fs.toList=l at h;clear ht hf
    induction l generalizing b with
    |nil=>simp only [eqFs,Option.some.injEq] at h;subst h;rfl
    |cons f fs' ih =>
     simp only [eqFs] at h;split at h
     ·cases h
     ·rename_i hnm;simp only [Bool.or_eq_false_iff,Bool.not_eq_false',Bool.and_eq_true,decide_eq_true_eq] at hnm;obtain ⟨hnm,hl1,hl2⟩:=hnm;split at h
      ·rename_i b1 b2 h1 h2;cases h
       have hrec:∀ {v u},OfCells (aggT P f.type) ((us.drop f.offset).take (P.cellsOf f.type)) v->OfCells (aggT P f.type) ((vs.drop f.offset).take (P.cellsOf f.type)) u->_:=λ{v u} hv hu =>
        eqT_sound n f.type _ _ _ _ v u b1 d h1 (hx.sub f.offset (P.cellsOf f.type)) (hy.sub f.offset (P.cellsOf f.type)) hv hu (by omega)
       have hkind:=eqT_kind h1 (by simp;omega);obtain ⟨p,hp1,hp2⟩:=run_part (w:=w) (us:=us) hkind.1 (by rw [<- hx.1];exact hl1) hkind.2;obtain ⟨q,hq1,hq2⟩:=run_part (w:=w) (us:=vs) hkind.1 (by rw [<- hy.1];exact hl2) hkind.2;obtain ⟨hr,_⟩:=hrec hp2 hq2
       have hne:f.name ≠ "_":=by simpa using hnm
       simp only [Op.eqFields,if_pos hne,Sem.run_bind,hp1,hq1,hr,Result.andThen_ok,Sem.run_ite]
       cases b1 with
       |false=>simp
       |true=>simpa using ih b2 h2
      ·cases h
  ·rename_i k e ht
   have hag:aggT P t=true:=by rw [aggT_of ht]
   rw [hag] at hv hu;simp only [OfCells] at hv hu;subst hv;subst hu;split at h
   ·rename_i inf hi;refine ⟨?_,by simp [ht],.inl hag⟩;rw [run_equalIn_array w d _ _ ht hi];generalize List.range k=l at h;clear ht
    induction l generalizing b with
    |nil=>simp only [eqIs,Option.some.injEq] at h;subst h;rfl
    |cons j js ih =>
     simp only [eqIs] at h;split at h
     ·cases h
     ·rename_i hl;simp only [Bool.and_eq_true,decide_eq_true_eq] at hl;obtain ⟨hl1,hl2⟩:=hl;split at h
      ·rename_i b1 b2 h1 h2;cases h
       have hrec:∀ {v u},OfCells (aggT P e) ((us.drop (j*P.cellsOf e)).take (P.cellsOf e)) v->OfCells (aggT P e) ((vs.drop (j*P.cellsOf e)).take (P.cellsOf e)) u->_:=λ{v u} hv hu =>
        eqT_sound n e _ _ _ _ v u b1 d h1 (hx.sub (j*P.cellsOf e) (P.cellsOf e)) (hy.sub (j*P.cellsOf e) (P.cellsOf e)) hv hu (by omega)
       have hkind:=eqT_kind h1 (by simp;omega);obtain ⟨p,hp1,hp2⟩:=run_part (w:=w) (us:=us) hkind.1 (by rw [<- hx.1];exact hl1) hkind.2;obtain ⟨q,hq1,hq2⟩:=run_part (w:=w) (us:=vs) hkind.1 (by rw [<- hy.1];exact hl2) hkind.2;obtain ⟨hr,_⟩:=hrec hp2 hq2;simp only [Op.eqItems,Sem.run_bind,hp1,hq1,hr,Result.andThen_ok,Sem.run_ite]
       cases b1 with
       |false=>simp
       |true=>simpa using ih b2 h2
      ·cases h
   ·cases h
  ·cases h
end
end Go.Mach

namespace Go.Mach
section
variable {B:Base}{E:Env}{st:St}{o:Oper}{a:Act}{w:World}{Z:Nat->Prop}{μ:Locs}{Φ:St->Prop}
theorem eq_run{P:Program}{t:TypeId}{v u:Value}{b:Bool}(hn:∀ op:BinOp,op=.eql\/op=.neq->binOp op t v u=(if op=.eql then (do pure (.bool (<- Op.equal t v u))) else (do pure (.bool (!(<- Op.equal t v u))))))
  (h:(Op.equalIn 10000 t v u).run P w=.ok b w):(binOp .eql t v u).run P w=.ok (.bool b) w/\(binOp .neq t v u).run P w=.ok (.bool (!b)) w:=by
 rw [hn .eql (.inl rfl),hn .neq (.inr rfl)];simp [Op.equal,Op.maxDepth,h]
theorem eqA_sound{P:Program}{t:TypeId}{x y:Operand}{X Y:AV}{v u:Value}{b:Bool}(h:eqA P t (aConst x y) X Y=some b)(hx:AR w Z μ X v)(hy:AR w Z μ Y u) :
  (binOp .eql t v u).run P w=.ok (.bool b) w/\(binOp .neq t v u).run P w=.ok (.bool (!b)) w /\
  (eqGuard .eql t x y v u).run P w=.ok () w/\(eqGuard .neq t x y v u).run P w=.ok () w:=by
 unfold eqA at h;split at h
 ·split at h
  ·rename_i ht;cases h;have e1:v=.pointer none:=hx;have e2:u=.pointer none:=hy;subst e1;subst e2
   obtain ⟨h1,h2⟩:=eq_run (w:=w) (P:=P) (t:=t) (v:=.pointer none) (u:=.pointer none) (b:=true) (by rintro op (rfl|rfl)<;>rfl) ((λd=>by simp [Op.equalIn,run_underlying ht]:∀ d,(Op.equalIn (d+1) t _ _).run P w=.ok _ w) 9999)
   exact ⟨h1,h2,rfl,rfl⟩
  ·cases h
 ·split at h
  ·rename_i ht;cases h;have e1:v=.pointer none:=hx;obtain ⟨ℓ,bb,_,_,e2⟩:=hy;subst e1;subst e2
   obtain ⟨h1,h2⟩:=eq_run (w:=w) (P:=P) (t:=t) (v:=.pointer none) (u:=.pointer (some ⟨bb,_,none⟩)) (b:=false) (by rintro op (rfl|rfl)<;>rfl) ((λd=>by simp [Op.equalIn,run_underlying ht]:∀ d,(Op.equalIn (d+1) t _ _).run P w=.ok _ w) 9999)
   exact ⟨h1,h2,rfl,rfl⟩
  ·cases h
 ·split at h
  ·rename_i ht;cases h;have e1:u=.pointer none:=hy;obtain ⟨ℓ,bb,_,_,e2⟩:=hx;subst e1;subst e2
   obtain ⟨h1,h2⟩:=eq_run (w:=w) (P:=P) (t:=t) (v:=.pointer (some ⟨bb,_,none⟩)) (u:=.pointer none) (b:=false) (by rintro op (rfl|rfl)<;>rfl) ((λd=>by simp [Op.equalIn,run_underlying ht]:∀ d,(Op.equalIn (d+1) t _ _).run P w=.ok _ w) 9999)
   exact ⟨h1,h2,rfl,rfl⟩
  ·cases h
 ·split at h
  ·rename_i ht;cases h;have e1:v=.slice none 0 0:=hx;have e2:u=.slice none 0 0:=hy;subst e1;subst e2
   obtain ⟨h1,h2⟩:=eq_run (w:=w) (P:=P) (t:=t) (v:=.slice none 0 0) (u:=.slice none 0 0) (b:=true) (by rintro op (rfl|rfl)<;>rfl) ((λd=>by simp [Op.equalIn,run_underlying ht]:∀ d,(Op.equalIn (d+1) t _ _).run P w=.ok _ w) 9999)
   exact ⟨h1,h2,rfl,rfl⟩
  ·cases h
 ·split at h
  ·rename_i ht;cases h;have e1:v=.nilFunc:=hx;have e2:u=.nilFunc:=hy;subst e1;subst e2
   obtain ⟨h1,h2⟩:=eq_run (w:=w) (P:=P) (t:=t) (v:=.nilFunc) (u:=.nilFunc) (b:=true) (by rintro op (rfl|rfl)<;>rfl) ((λd=>by simp [Op.equalIn,run_underlying ht]:∀ d,(Op.equalIn (d+1) t _ _).run P w=.ok _ w) 9999)
   exact ⟨h1,h2,rfl,rfl⟩
  ·cases h
 ·split at h
  ·rename_i ht;cases h;have e1:v=.nilFunc:=hx;obtain ⟨vs,e2,_⟩:=hy;subst e1;subst e2
   obtain ⟨h1,h2⟩:=eq_run (w:=w) (P:=P) (t:=t) (v:=.nilFunc) (u:=.func _ #[] vs.toArray) (b:=false) (by rintro op (rfl|rfl)<;>rfl) ((λd=>by simp [Op.equalIn,run_underlying ht]:∀ d,(Op.equalIn (d+1) t _ _).run P w=.ok _ w) 9999)
   exact ⟨h1,h2,rfl,rfl⟩
  ·cases h
 ·split at h
  ·rename_i ht;cases h;have e1:u=.nilFunc:=hy;obtain ⟨vs,e2,_⟩:=hx;subst e1;subst e2
   obtain ⟨h1,h2⟩:=eq_run (w:=w) (P:=P) (t:=t) (v:=.func _ #[] vs.toArray) (u:=.nilFunc) (b:=false) (by rintro op (rfl|rfl)<;>rfl) ((λd=>by simp [Op.equalIn,run_underlying ht]:∀ d,(Op.equalIn (d+1) t _ _).run P w=.ok _ w) 9999)
   exact ⟨h1,h2,rfl,rfl⟩
  ·cases h
 ·split at h
  ·rename_i ht hc;cases h;have e1:v=.nilIface:=hx;have e2:u=.nilIface:=hy;subst e1;subst e2
   obtain ⟨h1,h2⟩:=eq_run (w:=w) (P:=P) (t:=t) (v:=.nilIface) (u:=.nilIface) (b:=true) (by rintro op (rfl|rfl)<;>rfl) ((λd=>by simp [Op.equalIn,run_underlying ht]:∀ d,(Op.equalIn (d+1) t _ _).run P w=.ok _ w) 9999)
   refine ⟨h1,h2,?_,?_⟩<;>(cases x<;>cases y<;>first|rfl|(simp [aConst] at hc))
  ·cases h
 ·split at h
  ·rename_i ht hc;cases h;have e2:u=.nilIface:=hy;subst e2
   obtain ⟨e0,e1⟩|⟨e0,T,p,e1⟩:=(show ErrR _ v from hx)
   ·subst e0 e1
    obtain ⟨h1,h2⟩:=eq_run (w:=w) (P:=P) (t:=t) (v:=.nilIface) (u:=.nilIface) (b:=true) (by rintro op (rfl|rfl)<;>rfl) ((λd=>by simp [Op.equalIn,run_underlying ht]:∀ d,(Op.equalIn (d+1) t _ _).run P w=.ok _ w) 9999)
    refine ⟨h1,h2,?_,?_⟩<;>(cases x<;>cases y<;>first|rfl|(simp [aConst] at hc))
   ·subst e0 e1
    obtain ⟨h1,h2⟩:=eq_run (w:=w) (P:=P) (t:=t) (v:=.iface T p) (u:=.nilIface) (b:=false) (by rintro op (rfl|rfl)<;>rfl) ((λd=>by simp [Op.equalIn,run_underlying ht]:∀ d,(Op.equalIn (d+1) t _ _).run P w=.ok _ w) 9999)
    refine ⟨h1,h2,?_,?_⟩<;>(cases x<;>cases y<;>first|rfl|(simp [aConst] at hc))
  ·cases h
 ·split at h
  case h_2=>cases h
  ·rename_i hg hb;obtain ⟨vs,rfl,hx⟩:=hx;obtain ⟨us,rfl,hy⟩:=hy;have hag:=hb;obtain ⟨h1,_,_⟩:=eqT_sound (w:=w) (Z:=Z) (μ:=μ) 100 t _ _ _ _ (.agg vs.toArray) (.agg us.toArray) b 10000 h hx hy (by rw [hag];rfl) (by rw [hag];rfl) (by omega)
   obtain ⟨h2,h3⟩:=eq_run (w:=w) (by rintro op (rfl|rfl)<;>rfl) h1
   exact ⟨h2,h3,run_eqGuard_agg w .eql t x y _ _ hg,run_eqGuard_agg w .neq t x y _ _ hg⟩
 ·split at h
  ·rename_i ht;cases h;have e1:v=.bool _:=hx;have e2:u=.bool _:=hy;subst e1;subst e2
   obtain ⟨h1,h2⟩:=eq_run (w:=w) (P:=P) (t:=t) (by rintro op (rfl|rfl)<;>rfl) (run_equalIn_bool' w 9999 t _ _ ht)
   exact ⟨h1,h2,rfl,rfl⟩
  ·cases h
 ·cases h
theorem nilL_sound{P:Program}{t:TypeId}{x y:Operand}{M:Mem}{op:BinOp}{X Y:AV}{v u:Value}{z b:Bool}(hM:MemOk B M w Z μ)(h:nilL P t M op X Y=some (z,b))(hz:z=false)(hx:AR w Z μ X v)(hy:AR w Z μ Y u) :
  (binOp op t v u).run P w=.ok (.bool b) w/\(eqGuard op t x y v u).run P w=.ok () w:=by
 unfold nilL at h;split at h
 case h_2=>cases h
 rename_i r;split at h
 case h_2=>cases h
 rename_i e x' ht hr;obtain ⟨ℓ,hl,hv⟩:=hx;have hv:v=.slice (ℓ.addr 0) ℓ.len ℓ.cap:=hv;have hu:u=.slice none 0 0:=hy
 have hk:∀ q,x'.none?=some q->q=false->∃ bb,ℓ.odd=none/\ℓ.blk=some bb:=by
  intro q hq hf;subst hf;obtain ⟨ℓ',hl',hro⟩:=hM.rt r _ hr (by rintro rfl;simp [Root.none?] at hq);rw [hl] at hl';cases hl'
  cases x' with
  |arr s a foc =>
   have he:a.isEmpty=false:=by simpa [Root.none?] using hq
   obtain ⟨_,_,_,_,_,hodd,hb⟩:=hro
   cases hblk:ℓ.blk with
   |none=>rw [hblk] at hb;rw [hb.1] at he;cases he
   |some bb=>exact ⟨bb,hodd,rfl⟩
  |bor s a =>
   have he:a.isEmpty=false:=by simpa [Root.none?] using hq
   obtain ⟨_,_,_,_,hodd,hb⟩:=hro
   cases hblk:ℓ.blk with
   |none=>rw [hblk] at hb;rw [hb] at he;cases he
   |some bb=>exact ⟨bb,hodd.resolve_right (by rintro rfl;cases he),rfl⟩
  |frz s a =>
   have he:a.isEmpty=false:=by simpa [Root.none?] using hq
   obtain ⟨_,_,_,_,hodd,hb⟩:=hro
   cases hblk:ℓ.blk with
   |none=>rw [hblk] at hb;rw [hb] at he;cases he
   |some bb=>exact ⟨bb,hodd.resolve_right (by rintro rfl;cases he),rfl⟩
  |_=>simp [Root.none?] at hq
 have hw:x'.none?=some z->∃ bb,v=.slice (some ⟨bb,ℓ.base+0*ℓ.sz,none⟩) ℓ.len ℓ.cap:=by
  intro hq;obtain ⟨bb,h1,h2⟩:=hk _ hq hz;exact ⟨bb,by rw [hv,Loc.addr_some h1 h2]⟩
 have hq:x'.none?=some z/\((op=.eql/\b=false)\/(op=.neq/\b=true)):=by
  split at h
  ·rename_i hz';cases h;exact ⟨hz',.inl ⟨rfl,rfl⟩⟩
  ·rename_i hz';cases h;exact ⟨hz',.inr ⟨rfl,rfl⟩⟩
  ·cases h
 obtain ⟨bb,hv⟩:=hw hq.1;subst hv;subst hu
 obtain ⟨h1,h2⟩:=eq_run (w:=w) (P:=P) (t:=t) (v:=.slice (some ⟨bb,ℓ.base+0*ℓ.sz,none⟩) ℓ.len ℓ.cap) (u:=.slice none 0 0) (b:=false) (by rintro op (rfl|rfl)<;>rfl) ((λd=>by simp [Op.equalIn,run_underlying ht]:∀ d,(Op.equalIn (d+1) t _ _).run P w=.ok _ w) 9999)
 rcases hq.2 with ⟨rfl,rfl⟩|⟨rfl,rfl⟩
 ·exact ⟨h1,rfl⟩
 ·exact ⟨h2,rfl⟩
theorem sound_bin(hR:Rel B st a w Z μ)(n:Nat){op:BinOp}{t u:TypeId}{x y:Operand}(ho:o.op=.binOp op t x y u)(h:(step E st o Res.ok).sat Φ) :
  o.wp E.P a w (Nxt B st n Z μ Φ) (λ_ _ _=>False):=by
 simp only [step,stepV,ho] at h;have hx:=hR.val x;have hy:=hR.val y;generalize hX:val st x=X at h hx;generalize hY:val st y=Y at h hy;split at h
 ·rename_i q hb;obtain ⟨hq,h⟩:=sat_need h;obtain ⟨h1,h2⟩:=nilL_sound (x:=x) (y:=y) (z:=q.1) (b:=q.2) hR.mem hb (by simpa using hq) hx hy;exact pure_sound hR n (x:=.c (.bool q.2)) rfl (run_binOp ho h2 h1) h
 by_cases hi:∃ k p j q,X=.c (.int k p)/\Y=.c (.int j q)
 ·obtain ⟨k,p,j,q,rfl,rfl⟩:=hi;obtain ⟨hx1,hx2⟩:=hx;obtain ⟨hy1,hy2⟩:=hy;obtain ⟨c,v,h1,h2,h3⟩:=bin_int (w:=w) (Z:=Z) (μ:=μ) (E:=E) hx2 h;exact pure_sound hR n (x:=.c c) h2 (run_binOp ho (by rw [hx1,hy1];exact guard_int) (by rw [hx1,hy1];exact h1)) h3
 by_cases hs:∃ p q,X=.c (.str p)/\Y=.c (.str q)
 ·obtain ⟨p,q,rfl,rfl⟩:=hs;obtain ⟨hx1,hx2⟩:=hx;obtain ⟨hy1,hy2⟩:=hy;obtain ⟨c,v,h1,h2,h3⟩:=bin_str (w:=w) (Z:=Z) (μ:=μ) (E:=E) h;exact pure_sound hR n (x:=.c c) h2 (run_binOp ho (by rw [hx1,hy1];exact guard_str) (by rw [hx1,hy1];exact h1)) h3
 have hq:∃ b,eqA E.P t (aConst x y) X Y=some b/\((op=.eql/\Φ (st.put o.dst (.c (.bool b))))\/(op=.neq/\Φ (st.put o.dst (.c (.bool (!b)))))):=by
  unfold binK at h;split at h
  ·exact absurd ⟨_,_,_,_,rfl,rfl⟩ hi
  ·exact absurd ⟨_,_,_,_,rfl,rfl⟩ hi
  ·exact absurd ⟨_,_,_,_,rfl,rfl⟩ hi
  ·exact absurd ⟨_,_,rfl,rfl⟩ hs
  ·split at h
   ·rename_i b hb;exact ⟨b,hb,.inl ⟨rfl,h⟩⟩
   ·exact h.elim
  ·split at h
   ·rename_i b hb;exact ⟨b,hb,.inr ⟨rfl,h⟩⟩
   ·exact h.elim
  ·exact h.elim
 obtain ⟨b,hb,hc⟩:=hq;obtain ⟨h1,h2,h3,h4⟩:=eqA_sound hb hx hy;rcases hc with ⟨rfl,hΦ⟩|⟨rfl,hΦ⟩
 ·exact pure_sound hR n (x:=.c (.bool b)) rfl (run_binOp ho h3 h1) hΦ
 ·exact pure_sound hR n (x:=.c (.bool (!b))) rfl (run_binOp ho h4 h2) hΦ
theorem sound_unOp(hR:Rel B st a w Z μ)(n:Nat){op:UnOp}{t:TypeId}{x:Operand}(ho:o.op=.unOp op t x)(h:(step E st o Res.ok).sat Φ) :
  o.wp E.P a w (Nxt B st n Z μ Φ) (λ_ _ _=>False):=by
 simp only [step,stepV,ho] at h;have hx:=hR.val x;split at h
 case h_2=>exact h.elim
 rename_i v hv;unfold unA at hv;split at hv
 ·rename_i k m hk;rw [hk] at hx;cases hv;refine pure_sound hR n (x:=.c (.int k (k.wrap (0-m)))) (v:=.int k (k.wrap (0-m))) ⟨rfl,inRange_wrap _ _⟩ ?_ h;simp only [execOp,ho];rw [hx.1];simp [Op.unary,Op.intArith]
 ·rename_i k m hk;rw [hk] at hx;cases hv
  refine pure_sound hR n (x:=.c (.int k (ibits .xor k (if k.signed then -1 else k.max) m))) (v:=.int k (ibits .xor k (if k.signed then -1 else k.max) m)) ⟨rfl,inRange_ibits⟩ ?_ h
  simp only [execOp,ho];rw [hx.1];rfl
 ·rename_i m hk;rw [hk] at hx;cases hv;refine pure_sound hR n (x:=.c (.bool (!m))) (v:=.bool (!m)) rfl ?_ h;simp only [execOp,ho]
  rw [show a.eval x=.bool m from hx];simp [Op.unary]
 ·cases hv
theorem sound_extract(hR:Rel B st a w Z μ)(n:Nat){x:Operand}{i:Nat}(ho:o.op=.extract x i)(h:(step E st o Res.ok).sat Φ) :
  o.wp E.P a w (Nxt B st n Z μ Φ) (λ_ _ _=>False):=by
 simp only [step,stepV,ho] at h;have hx:=hR.val x;split at h
 case h_2=>exact h.elim
 rename_i l hl;rw [hl] at hx;obtain ⟨vs,hv,hlen,hk⟩:=hx;split at h
 case h_2=>exact h.elim
 rename_i ag cs hi;obtain ⟨hi1,hi2⟩:=List.getElem?_eq_some_iff.1 hi
 have hlt:i < vs.length:=by omega
 have h1:=hk i hi1 hlt;rw [hi2] at h1;refine pure_sound hR n (x:=avOf ag cs) (v:=vs[i]) ?_ (by simp [execOp,ho,hv,Instr.extract,hlt]) h
 cases ag with
 |true=>obtain ⟨us,h2,h3⟩:=h1;exact ⟨us,h2,h3⟩
 |false =>
  match cs,h1 with
  |[],_=>trivial
  |c::_,h1=>exact h1
end
end Go.Mach

namespace Go.Mach
section
variable {B:Base}{E:Env}{st:St}{o:Oper}{a:Act}{w:World}{Z:Nat->Prop}{μ:Locs}{Φ:St->Prop}
theorem addr_add(b p n:Nat):(⟨b,p,none⟩:Addr).add n=⟨b,p+n,none⟩:=by
 unfold Addr.add;split
 ·rename_i h;subst h;rfl
 ·rfl
theorem kind_spec{P:Program}{t:TypeId}(h:kindOk P t=true):(P.underlying t).isSome=true/\(aggT P t=true\/P.cellsOf t=1):=by
 simpa [kindOk] using h
theorem avOf_ok{agg:Bool}{cs:List C}{us:List Value}{v:Value}(hc:CRs w Z μ cs us)(hv:OfCells agg us v):AR w Z μ (avOf agg cs) v:=by
 cases agg with
 |true=>simp only [OfCells] at hv;exact ⟨us,hv,hc⟩
 |false =>
  simp only [OfCells] at hv;subst hv
  match cs,hc with
  |[],_=>trivial
  |[c],hc=>exact hc.2 0 (by simp) (by simp)
  |_::_::_,hc=>simp [CRs] at hc
theorem sound_fieldAddr(hR:Rel B st a w Z μ)(n:Nat){t:TypeId}{x:Operand}{f:Nat}(ho:o.op=.fieldAddr t x f)(h:(step E st o Res.ok).sat Φ) :
  o.wp E.P a w (Nxt B st n Z μ Φ) (λ_ _ _=>False):=by
 simp only [step,stepV,ho] at h;have hx:=hR.val x;split at h
 case h_2=>exact h.elim
 rename_i off ft hf;split at h
 case h_2=>exact h.elim
 rename_i y hm hz;unfold fieldOf at hf;split at hf
 case h_2=>cases hf
 rename_i fs ht;split at hf
 case h_2=>cases hf
 rename_i fld hfld;cases hf
 have hz':E.P.cellsOf fld.type≠0:=by simpa using hz
 have hsz:(sizeOf fld.type).run E.P w=.ok (E.P.cellsOf fld.type) w:=by
  unfold Program.cellsOf at hz' ⊢
  cases hi:E.P.info? fld.type with
  |none=>rw [hi] at hz';simp at hz'
  |some i=>simp [sizeOf,typeInfo,hi]
 have hrun:∀ b p,a.eval x=.pointer (some ⟨b,p,none⟩)->(execOp a.eval o).run E.P w=.ok (.value (.pointer (some ⟨b,p+fld.offset,none⟩))) w:=λb p hp=>by
  simp only [execOp,ho,hp];simp [Instr.fieldAt,run_underlying ht,hfld,Instr.sureAddr,fieldPlace,hsz,hz',addr_add]
 unfold moveAddr at hm;split at hm
 ·rename_i r p hv;rw [hv] at hx;cases hm;obtain ⟨ℓ,b,h1,h2,h3⟩:=hx;exact pure_sound hR n (x:=.c (.ptr r (p+fld.offset))) ⟨ℓ,b,h1,h2,rfl⟩ (by rw [hrun _ _ h3,Nat.add_assoc]) h
 ·rename_i r i p hv;rw [hv] at hx;cases hm;obtain ⟨ℓ,b,h1,h2,h4,h3⟩:=hx;exact pure_sound hR n (x:=.c (.eptr r i (p+fld.offset))) ⟨ℓ,b,h1,h2,h4,rfl⟩ (by rw [hrun _ _ h3,Nat.add_assoc]) h
 ·rename_i e v p hv;rw [hv] at hx;cases hm;obtain ⟨b,q,us,h1,h2,h3⟩:=hx;exact pure_sound hR n (x:=.c (.lptr e v (p+fld.offset))) ⟨b,q,us,h1,rfl,h3⟩ (by rw [hrun _ _ h2,Nat.add_assoc]) h
 ·cases hm
theorem sound_indexArr(hR:Rel B st a w Z μ)(n:Nat){t:TypeId}{x i:Operand}(ho:o.op=.indexAddr t x i){q:Nat×TypeId}(hq:arrT E.P t=some q)(h:(step E st o Res.ok).sat Φ) :
  o.wp E.P a w (Nxt B st n Z μ Φ) (λ_ _ _=>False):=by
 simp only [step,stepV,ho,hq] at h;obtain ⟨len,el⟩:=q;have hx:=hR.val x;have hi:=hR.val i;split at h
 case h_2=>exact h.elim
 rename_i y hm;unfold indexArrA at hm;split at hm
 case h_2=>cases hm
 rename_i kd k hk;split at hm
 case h_2=>cases hm
 rename_i hb;rw [hk] at hi;obtain ⟨hi1,_⟩:=hi;simp only [Bool.and_eq_true,ile,ilt,decide_eq_true_eq,Bool.not_eq_true',beq_eq_false_iff_ne,ne_eq] at hb;obtain ⟨⟨hb1,hb2⟩,hb3⟩:=hb
 have ht:E.P.underlying t=some (.array len el):=by
  unfold arrT at hq;split at hq
  ·cases hq;assumption
  ·cases hq
 have hsz:(sizeOf el).run E.P w=.ok (E.P.cellsOf el) w:=by
  unfold Program.cellsOf at hb3 ⊢
  cases hi:E.P.info? el with
  |none=>rw [hi] at hb3;simp at hb3
  |some i=>simp [sizeOf,typeInfo,hi]
 have hrun:∀ b p,a.eval x=.pointer (some ⟨b,p,none⟩)->(execOp a.eval o).run E.P w=.ok (.value (.pointer (some ⟨b,p+k.toNat*E.P.cellsOf el,none⟩))) w:=λb p hp=>by
  simp only [execOp,ho,hp,show a.eval i=_ from hi1]
  simp [Instr.indexAt,asIntOf,run_underlying ht,Instr.sureAddr,hsz,hb1,hb2,addr_add]
 unfold moveAddr at hm;split at hm
 ·rename_i r p hv;rw [hv] at hx;cases hm;obtain ⟨ℓ,b,h1,h2,h3⟩:=hx;exact pure_sound hR n (x:=.c (.ptr r (p+k.toNat*E.P.cellsOf el))) ⟨ℓ,b,h1,h2,rfl⟩ (by rw [hrun _ _ h3,Nat.add_assoc]) h
 ·rename_i r i p hv;rw [hv] at hx;cases hm;obtain ⟨ℓ,b,h1,h2,h4,h3⟩:=hx;exact pure_sound hR n (x:=.c (.eptr r i (p+k.toNat*E.P.cellsOf el))) ⟨ℓ,b,h1,h2,h4,rfl⟩ (by rw [hrun _ _ h3,Nat.add_assoc]) h
 ·rename_i e v p hv;rw [hv] at hx;cases hm;obtain ⟨b,q,us,h1,h2,h3⟩:=hx;exact pure_sound hR n (x:=.c (.lptr e v (p+k.toNat*E.P.cellsOf el))) ⟨b,q,us,h1,rfl,h3⟩ (by rw [hrun _ _ h2,Nat.add_assoc]) h
 ·cases hm
theorem sound_field(hR:Rel B st a w Z μ)(n:Nat){t:TypeId}{x:Operand}{f:Nat}(ho:o.op=.field t x f)(h:(step E st o Res.ok).sat Φ) :
  o.wp E.P a w (Nxt B st n Z μ Φ) (λ_ _ _=>False):=by
 simp only [step,stepV,ho] at h;have hx:=hR.val x;split at h
 case h_2=>exact h.elim
 rename_i off ft cs hf hv;split at h
 case h_2=>exact h.elim
 rename_i hk;rw [hv] at hx;obtain ⟨us,hu,hcs⟩:=hx;simp only [Bool.and_eq_true,decide_eq_true_eq] at hk;obtain ⟨hk1,hk2⟩:=kind_spec hk.1;unfold fieldOf at hf;split at hf
 case h_2=>cases hf
 rename_i fs ht;split at hf
 case h_2=>cases hf
 rename_i fld hfld;cases hf;obtain ⟨v,h1,h2⟩:=run_part (w:=w) (us:=us) hk1 (by rw [<- hcs.1];exact hk.2) hk2;refine pure_sound hR n (avOf_ok (hcs.sub _ _) h2) ?_ h;simp only [execOp,ho,hu];simp [Instr.field,run_underlying ht,hfld,asAgg,h1]
theorem str_spec{P:Program}{t:TypeId}(h:strT P t=true):P.underlying t=some .string:=by
 unfold strT at h;split at h
 ·assumption
 ·cases h
theorem nums_get(s:List UInt8)(i:Nat)(h:i < (nums s).length):∃ h':i < s.length,(nums s)[i]=(s[i].toNat:Int):=⟨by simpa [nums] using h,by simp [nums]⟩
theorem sound_index(hR:Rel B st a w Z μ)(n:Nat){t:TypeId}{x i:Operand}(ho:o.op=.index t x i)(h:(step E st o Res.ok).sat Φ) :
  o.wp E.P a w (Nxt B st n Z μ Φ) (λ_ _ _=>False):=by
 simp only [step,stepV,ho] at h;have hx:=hR.val x;have hi:=hR.val i;split at h
 case h_2=>exact h.elim
 rename_i s k m ht hs hk;rw [hs] at hx;rw [hk] at hi;obtain ⟨hx1,hx2⟩:=hx;obtain ⟨hi1,hi2⟩:=hi;obtain ⟨h0,hlt,h2⟩:=sat_idx h;obtain ⟨hlt',hget⟩:=nums_get s m.toNat hlt
 have hok:(Ty.int IntKind.u8).ok ((nums s)[m.toNat])=true:=by
  rw [hget];have:=UInt8.toNat_lt s[m.toNat];exact inRange_of (by simp [IntKind.min,IntKind.signed]) (by simp [IntKind.max,IntKind.signed,IntKind.bits];omega)
 have h3:=h2 hok;refine pure_sound hR n (x:=.c (.int .u8 (nums s)[m.toNat])) (v:=.int .u8 (s[m.toNat].toNat:Int)) ⟨by rw [hget],hok⟩ ?_ h3;simp only [execOp,ho,hx1,hi1,strV];have hst:=str_spec ht
 have h4:(⟨⟨s⟩⟩:ByteArray)[m.toNat]?=some s[m.toNat]:=by
  rw [ByteArray.getElem?_lt' _ _ (by simpa [ByteArray.size] using hlt')];rfl
 simp [Instr.index,asIntOf,run_underlying hst,h0,h4]
theorem slT_spec{P:Program}{t:TypeId}{n:Nat}(h:szOk P t n=true):∃ el,P.underlying t=some (.slice el)/\P.cellsOf el=n/\n≠0:=by
 unfold szOk at h;split at h
 ·rename_i el he;exact ⟨el,he,by simpa using h⟩
 ·cases h
theorem slT_spec'{P:Program}{t:TypeId}(h:slOk P t=true):∃ el,P.underlying t=some (.slice el)/\P.cellsOf el≠0:=by
 unfold slOk at h;split at h
 ·rename_i el he;exact ⟨el,he,by simpa using h⟩
 ·cases h
theorem run_sizeOf{P:Program}{t:TypeId}(h:P.cellsOf t≠0):(sizeOf t).run P w=.ok (P.cellsOf t) w:=by
 unfold Program.cellsOf at h ⊢
 cases hi:P.info? t with
 |none=>rw [hi] at h;simp at h
 |some i=>simp [sizeOf,typeInfo,hi]
theorem cells_le_minB:∀ t:Ty,t.cells<=t.minB
 |.unit=>Nat.le_refl _
 |.int k=>by cases k<;>decide
 |.bool=>by decide
 |.str=>by decide
 |.list _=>by simp [Ty.cells,Ty.minB]
 |.pair a b=>by
  have:=cells_le_minB a;have:=cells_le_minB b;simp only [Ty.cells,Ty.minB];omega
 |.rose a=>by
  have:=cells_le_minB a;simp only [Ty.cells,Ty.minB];omega
theorem cells_le_minBS:∀ s:Sh,s.cells<=s.minB
 |.nil=>Nat.le_refl _
 |.undef=>Nat.le_refl _
 |.nilp=>by decide
 |.nilz=>by decide
 |.err=>by decide
 |.opq=>Nat.le_refl _
 |.sb _=>by simp [Sh.cells,Sh.minB]
 |.frz t=>cells_le_minB t
 |.own _=>by simp [Sh.cells,Sh.minB]
 |.box _=>by simp [Sh.cells,Sh.minB]
 |.clo _ _=>by simp [Sh.cells,Sh.minB]
 |.map _ _=>by simp [Sh.cells,Sh.minB]
 |.seq a b=>by
  have:=cells_le_minBS a;have:=cells_le_minBS b;simp only [Sh.cells,Sh.minB];omega
 |.bor s=>cells_le_minBS s
theorem len_boundS{s:Sh}{n:Nat}(h:lenOkS s n=true)(hc:s.cells≠0):n<=2^47:=by
 simp only [lenOkS,decide_eq_true_eq] at h;have:=cells_le_minBS s;have h2:n*1<=n*s.minB:=Nat.mul_le_mul_left n (by omega);omega
theorem len_bound{e:Ty}{n:Nat}(h:lenOk e n=true)(hc:e.cells≠0):n<=2^47:=by
 simp only [lenOk,decide_eq_true_eq] at h;have:=cells_le_minB e;have h2:n*1<=n*e.minB:=Nat.mul_le_mul_left n (by omega);omega
theorem nat_range{n:Nat}(h:n<=2^47):inRange .i64 (n:Int)=true :=
 inRange_of (by have:IntKind.min .i64=-9223372036854775808:=(by decide);omega) (by have:IntKind.max .i64=9223372036854775807:=(by decide);omega)
theorem sz_arr{m:Mem}{r:Nat}{s:Sh}{xs:List s.den}{foc:Option Foc}(h:m.roots[r]?=some (.arr s xs foc)):m.sz? r=s.cells:=by simp [Mem.sz?,h]
theorem sz_frz{m:Mem}{r:Nat}{e:Ty}{xs:List e.den}(h:m.roots[r]?=some (.frz e xs)):m.sz? r=e.cells:=by simp [Mem.sz?,h]
theorem sz_bor{m:Mem}{r:Nat}{s:Sh}{xs:List s.den}(h:m.roots[r]?=some (.bor s xs)):m.sz? r=s.cells:=by simp [Mem.sz?,h]
theorem ref_spec(hR:MemOk B st.mem w Z μ){r:Nat}{wd:Win}{v:Value}(hx:CR w Z μ (.ref r wd) v){m:Nat}(hl:st.mem.len? r=some m) :
  ∃ ℓ x,st.mem.roots[r]?=some x/\μ r=some ℓ/\RootOk w Z B.Y μ ℓ x/\ℓ.len=m/\ℓ.len<=ℓ.cap/\ℓ.sz=st.mem.sz? r/\SlR ℓ wd v/\(ℓ.odd=none\/m=0)/\(st.mem.sz? r≠0->m<=2^47):=by
 obtain ⟨ℓ,h1,h2⟩:=hx;unfold Mem.len? at hl;split at hl
 ·rename_i s xs foc hr;obtain ⟨ℓ',h3,h4⟩:=hR.rt r _ hr (by simp);rw [h1] at h3;cases h3;rw [sz_arr hr];cases hl;obtain ⟨g1,g2,g3,g4,g0,g5⟩:=h4.2;refine ⟨ℓ,_,hr,h1,h4,g2,by rw [g2];exact g3,g1,h2,.inl g0,len_boundS g4⟩
 ·rename_i e xs hr;obtain ⟨ℓ',h3,h4⟩:=hR.rt r _ hr (by simp);rw [h1] at h3;cases h3;rw [sz_frz hr];cases hl
  obtain ⟨g1,g2,g3,g4,g0,g5⟩:=(show RdR _ _ _ _ _ _ _ from h4)
  refine ⟨ℓ,_,hr,h1,h4,g2,by rw [g2];exact g3,g1,h2,g0.imp id (λh=>by rw [h];rfl),len_bound g4⟩
 ·rename_i s xs hr;obtain ⟨ℓ',h3,h4⟩:=hR.rt r _ hr (by simp);rw [h1] at h3;cases h3;rw [sz_bor hr];cases hl
  obtain ⟨g1,g2,g3,g4,g0,g5⟩:=(show RdR _ _ _ _ _ _ _ from h4)
  refine ⟨ℓ,_,hr,h1,h4,g2,by rw [g2];exact g3,g1,h2,g0.imp id (λh=>by rw [h];rfl),len_boundS g4⟩
 ·cases hl
theorem SlR.slice'{ℓ:Loc}{wd:Win}{v:Value}(h:SlR ℓ wd v)(hc:ℓ.len<=ℓ.cap):∃ p c,v=.slice (ℓ.addr p) (wd.len ℓ.len) c/\wd.len ℓ.len<=c/\wd.off+wd.len ℓ.len<=ℓ.len/\c=ℓ.cap-wd.off/\p<=ℓ.cap/\(p=wd.off\/ℓ.cap=wd.off):=by
 cases wd with
 |full=>exact ⟨0,_,h,hc,by simp [Win.off,Win.len],by simp [Win.off],by omega,.inl rfl⟩
 |sub q m =>
  obtain ⟨h1,p,h2,h3,h4⟩:=h;exact ⟨p,_,h2,by simp [Win.len];omega,by simp [Win.off,Win.len];exact h1,rfl,h3,h4⟩
theorem SlR.slice{ℓ:Loc}{wd:Win}{v:Value}(h:SlR ℓ wd v)(hc:ℓ.len<=ℓ.cap):∃ a c,v=.slice a (wd.len ℓ.len) c/\wd.len ℓ.len<=c/\wd.off+wd.len ℓ.len<=ℓ.len/\c=ℓ.cap-wd.off/\(a=ℓ.addr wd.off\/ℓ.cap=wd.off):=by
 obtain ⟨p,c,h1,h2,h3,h4,_,h5⟩:=h.slice' hc;exact ⟨_,c,h1,h2,h3,h4,h5.imp (λe=>by rw [e]) id⟩
theorem len_sound(hR:Rel B st a w Z μ){t:TypeId}{x:AV}{v:Value}{k:Int}(hx:AR w Z μ x v)(hl:lenA st.mem x=some k)(ht:typeFits E.P t st.mem x=true)(ts:Array TypeId)(u:TypeId)(hts:ts[0]?=some t) :
  (Builtin.len_ ts u #[v]).run E.P w=.ok (.int .i64 k) w/\inRange .i64 k=true:=by
 unfold lenA at hl;split at hl
 ·rename_i s;cases hl;have hst:=str_spec ht;obtain ⟨hx1,hx2⟩:=hx;refine ⟨by simp [Builtin.len_,hts,run_underlying hst,hx1,strV,goInt,strV_size],?_⟩;exact nat_range (by simpa [strOk] using hx2)
 ·rename_i e xs;cases hl;obtain ⟨el,h1,h2,h3⟩:=slT_spec ht;obtain ⟨q,cap,h4,h5,h6,_⟩:=hx;simp only [List.cons.injEq,and_true] at h4;exact ⟨by simp [Builtin.len_,hts,run_underlying h1,h4,goInt],nat_range (len_bound h6 (by omega))⟩
 ·cases hl;obtain ⟨el,h1,h2⟩:=slT_spec' ht;have hv:v=.slice none 0 0:=hx;exact ⟨by simp [Builtin.len_,hts,run_underlying h1,hv,goInt],by decide⟩
 ·rename_i r wd;split at hl
  case h_2=>cases hl
  rename_i m hm;cases hl;obtain ⟨el,h1,h2,h3⟩:=slT_spec ht;obtain ⟨ℓ,y,h4,h5,h6,h7,h8,h9,h10,h11,h15⟩:=ref_spec hR.mem hx hm;obtain ⟨q,c,h12,h13,h14,_,_⟩:=h10.slice h8;rw [h7] at h12 h13 h14;exact ⟨by simp [Builtin.len_,hts,run_underlying h1,h12,goInt],nat_range (by have:=h15 h3;omega)⟩
 ·cases hl
def OptR(w:World)(Z:Nat->Prop)(μ:Locs):Option AV->Option Value->Prop
 |none,none=>True
 |some x,some y=>AR w Z μ x y
 |_,_=>False
def BndV:Bnd->Option Value->Prop
 |.none,u=>u=none
 |.at_ n,u=>∃ k,u=some (.int k n)
def LoOk(len:Nat):Bnd->Bnd->Prop
 |.none,_=>True
 |.at_ l,.none=>0<=l/\l<=(len:Int)
 |.at_ l,.at_ h=>0<=l/\l<=h
def HiOk(len:Nat):Bnd->Prop
 |.none=>True
 |.at_ h=>0<=h/\h<=(len:Int)
def loN:Bnd->Nat
 |.none=>0
 |.at_ l=>l.toNat
def hiN(len:Nat):Bnd->Nat
 |.none=>len
 |.at_ h=>h.toNat
theorem bnd_run{v:Option AV}{b:Bnd}(h:bndOf v=some b){u:Option Value}(hv:OptR w Z μ v u) :
  BndV b u:=by
 unfold bndOf at h;split at h
 ·cases h;cases u with
  |none=>rfl
  |some y=>exact hv.elim
 ·cases h
  cases u with
  |none=>exact hv.elim
  |some y=>exact ⟨_,by rw [show y=_ from hv.1]⟩
 ·cases h
theorem bounds_run{P:Program}{isSl:Bool}{len cap:Nat}{lo hi:Bnd}{ul uh:Option Value}
  (hl:BndV lo ul) (hh:BndV hi uh) (hlc:len<=cap) (h1:LoOk len lo hi) (h2:HiOk len hi) :
  (Instr.sliceBounds isSl len cap ul uh none).run P w=.ok (loN lo,hiN len hi,cap) w:=by
 cases hi with
 |none =>
  cases (hh:uh=none)
  cases lo with
  |none=>cases (hl:ul=none);simp [Instr.sliceBounds,loN,hiN]
  |at_ l =>
   obtain ⟨k,rfl⟩:=hl;have h3:0<=l/\l<=(len:Int):=h1;simp [Instr.sliceBounds,Instr.sliceBound,asIntOf,h3.1,h3.2,loN,hiN]
 |at_ hh' =>
  obtain ⟨k,rfl⟩:=hh;have h2:0<=hh'/\hh'<=(len:Int):=h2
  have h4:hh'<=(cap:Int):=by omega
  cases lo with
  |none=>cases (hl:ul=none);simp [Instr.sliceBounds,Instr.sliceBound,asIntOf,h2.1,h4,loN,hiN]
  |at_ l =>
   obtain ⟨k',rfl⟩:=hl;have h3:0<=l/\l<=hh':=h1
   have h5:l<=(hh'.toNat:Int):=by omega
   have h6:l<=max hh' 0:=by omega
   simp [Instr.sliceBounds,Instr.sliceBound,asIntOf,h2.1,h4,h3.1,h6,loN,hiN]
end
end Go.Mach

namespace Go.Mach
section
variable {B:Base}{E:Env}{st:St}{o:Oper}{a:Act}{w:World}{Z:Nat->Prop}{μ:Locs}{Φ:St->Prop}
theorem cut_spec{α β:Type}{xs:List α}{lo hi:Bnd}{K:List α->Res β}{Ψ:β->Prop}(h:(cutK xs lo hi K).sat Ψ) :
  LoOk xs.length lo hi/\HiOk xs.length hi /\
  loN lo<=hiN xs.length hi/\hiN xs.length hi<=xs.length/\(K ((xs.take (hiN xs.length hi)).drop (loN lo))).sat Ψ:=by
 cases lo with
 |none =>
  cases hi with
  |none=>exact ⟨trivial,trivial,by simp [loN],by simp [hiN],by simpa [cutK,loN,hiN] using h⟩
  |at_ b =>
   obtain ⟨hb,h⟩:=sat_need (show (Res.need (ile 0 b && ile b xs.length) (K (xs.take b.toNat))).sat Ψ from h)
   simp [ile] at hb;exact ⟨trivial,hb,by simp [loN],by simp [hiN];omega,by simpa [loN,hiN] using h⟩
 |at_ l =>
  cases hi with
  |none =>
   obtain ⟨hb,h⟩:=sat_need (show (Res.need (ile 0 l && ile l xs.length) (K (xs.drop l.toNat))).sat Ψ from h)
   simp [ile] at hb;exact ⟨hb,trivial,by simp [loN,hiN];omega,by simp [hiN],by simpa [loN,hiN] using h⟩
  |at_ b =>
   obtain ⟨hb,h⟩:=sat_need (show (Res.need (ile 0 l && (ile l b && ile b xs.length)) (K ((xs.take b.toNat).drop l.toNat))).sat Ψ from h)
   simp [ile] at hb;have h1:0<=l/\l<=b:=⟨hb.1,hb.2.1⟩;have h2:0<=b/\b<=(xs.length:Int):=⟨by omega,hb.2.2⟩;exact ⟨h1,h2,by simp [loN,hiN];omega,by simp [hiN];omega,by simpa [loN,hiN] using h⟩
theorem win_spec{β:Type}{o n:Nat}{lo hi:Bnd}{K:Win->Res β}{Ψ:β->Prop}(h:(winK o n lo hi K).sat Ψ) :
  LoOk n lo hi/\HiOk n hi/\loN lo<=hiN n hi/\hiN n hi<=n/\(K (.sub (o+loN lo) (hiN n hi-loN lo))).sat Ψ:=by
 cases lo with
 |none =>
  cases hi with
  |none=>exact ⟨trivial,trivial,by simp [loN],by simp [hiN],by simpa [winK,loN,hiN] using h⟩
  |at_ b =>
   obtain ⟨hb,h⟩:=sat_need (show (Res.need (ile 0 b && ile b n) (K (.sub o b.toNat))).sat Ψ from h)
   simp [ile] at hb;exact ⟨trivial,hb,by simp [loN],by simp [hiN];omega,by simpa [loN,hiN] using h⟩
 |at_ l =>
  cases hi with
  |none =>
   obtain ⟨hb,h⟩:=sat_need (show (Res.need (ile 0 l && ile l n) (K (.sub (o+l.toNat) (n-l.toNat)))).sat Ψ from h)
   simp [ile] at hb;exact ⟨hb,trivial,by simp [loN,hiN];omega,by simp [hiN],by simpa [loN,hiN] using h⟩
  |at_ b =>
   obtain ⟨hb,h⟩:=sat_need (show (Res.need (ile 0 l && (ile l b && ile b n)) (K (.sub (o+l.toNat) (b.toNat-l.toNat)))).sat Ψ from h)
   simp [ile] at hb;have h1:0<=l/\l<=b:=⟨hb.1,hb.2.1⟩;have h2:0<=b/\b<=(n:Int):=⟨by omega,hb.2.2⟩;exact ⟨h1,h2,by simp [loN,hiN];omega,by simp [hiN];omega,by simpa [loN,hiN] using h⟩
theorem loc_add(ℓ:Loc)(o n:Nat):(ℓ.addr o).map (·.add (n*ℓ.sz))=ℓ.addr (o+n):=by
 unfold Loc.addr
 cases ℓ.odd with
 |some a =>
  simp only [Option.map_some,Option.some.injEq,Nat.add_mul];unfold Addr.add
  by_cases h1:o*ℓ.sz=0<;>by_cases h2:n*ℓ.sz=0<;>simp [h1,h2,Nat.add_assoc]
 |none =>
  cases ℓ.blk with
  |none=>rfl
  |some b=>simp [addr_add,Nat.add_mul,Nat.add_assoc]
theorem str_extract(s:List UInt8)(l h:Nat):(⟨⟨s⟩⟩:ByteArray).extract l h=⟨⟨(s.take h).drop l⟩⟩:=by
 apply ByteArray.ext;simp only [ByteArray.data_extract];apply Array.ext';simp [Array.toList_extract,List.extract_eq_take_drop,List.drop_take]
theorem opt_val(hR:Rel B st a w Z μ)(x:Option Operand):OptR w Z μ (x.map (val st)) (x.map a.eval):=by
 cases x with
 |none=>trivial
 |some x=>exact hR.val x
theorem take_len{α:Type}{xs:List α}{l h:Nat}(h1:l<=h)(h2:h<=xs.length):((xs.take h).drop l).length=h-l:=by simp;omega
theorem sound_slice(hR:Rel B st a w Z μ)(n:Nat){t:TypeId}{x:Operand}{lo hi:Option Operand}(ho:o.op=.slice t x lo hi none)(hna:arrT E.P t=none)(h:(step E st o Res.ok).sat Φ) :
  o.wp E.P a w (Nxt B st n Z μ Φ) (λ_ _ _=>False):=by
 simp only [step,stepV,ho,hna] at h;have hx:=hR.val x;split at h
 case h_2=>exact h.elim
 rename_i L H hL hH;split at h
 case h_2=>exact h.elim
 rename_i ht;have hl:=bnd_run hL (opt_val hR lo);have hh:=bnd_run hH (opt_val hR hi);generalize hX:val st x=X at h ht hx;unfold sliceK at h;split at h
 ·rename_i s;obtain ⟨h1,h2,h3,h4,h5⟩:=cut_spec h;have hst:=str_spec ht;obtain ⟨hx1,hx2⟩:=hx;have hb:=bounds_run (w:=w) (P:=E.P) (isSl:=false) (cap:=s.length) hl hh (Nat.le_refl _) h1 h2;refine pure_sound hR n (x:=.c (.str ((s.take (hiN s.length H)).drop (loN L)))) (v:=strV ((s.take (hiN s.length H)).drop (loN L))) ⟨rfl,?_⟩ ?_ h5
  ·simp [strOk] at hx2 ⊢;omega
  ·simp only [execOp,ho,hx1,strV];simp [Instr.sliceAt,Instr.slice,run_underlying hst,strV_size,hb,str_extract]
 ·rename_i e xs;obtain ⟨h1,h2,h3,h4,h5⟩:=cut_spec h;obtain ⟨el,e1,e2,e3⟩:=slT_spec ht;obtain ⟨q,cap,e4,e5,e6,e7⟩:=hx;simp only [List.cons.injEq,and_true] at e4;have hb:=bounds_run (w:=w) (P:=E.P) (isSl:=true) (cap:=cap) hl hh e5 h1 h2;have hsz:=run_sizeOf (w:=w) (P:=E.P) (t:=el) (by omega)
  refine pure_sound hR n (x:=.c (.lst e ((xs.take (hiN xs.length H)).drop (loN L)))) (v:=.slice (if cap=loN L then q else q.map (·.add (loN L*E.P.cellsOf el))) (hiN xs.length H-loN L) (cap-loN L)) ?_ ?_ h5
  ·refine ⟨_,_,by rw [take_len h3 h4],by rw [take_len h3 h4];omega,?_,?_⟩
   ·rw [take_len h3 h4];simp only [lenOk,decide_eq_true_eq] at e6 ⊢;exact Nat.le_trans (Nat.mul_le_mul_right _ (by omega)) e6
   ·by_cases hemp:hiN xs.length H-loN L=0
    ·left;apply List.eq_nil_of_length_eq_zero;rw [take_len h3 h4];exact hemp
    ·right;rcases e7 with e7|⟨b,p,e8,e9,e10⟩
     ·subst e7;simp only [List.length_nil,Nat.le_zero_eq] at h4 hemp;omega
     ·rw [if_neg (by omega),e8];refine ⟨b,p+loN L*E.P.cellsOf el,by simp [addr_add],e9,λi hi=>?_⟩;rw [take_len h3 h4] at hi;obtain ⟨us,g1,g2,g3⟩:=e10 (loN L+i) (by omega);refine ⟨us,g1,?_,?_⟩
      ·rw [e2,show p+loN L*e.cells+i*e.cells=p+(loN L+i)*e.cells from by rw [Nat.add_mul];omega]
       exact g2
      ·simpa [List.getElem_drop,List.getElem_take] using g3
  ·simp only [execOp,ho,e4];simp [Instr.sliceAt,Instr.slice,run_underlying e1,hb,hsz]
 ·obtain ⟨h1,h2,h3,h4,h5⟩:=cut_spec h;obtain ⟨el,e1,e2⟩:=slT_spec' ht;have hv:a.eval x=.slice none 0 0:=hx;have hb:=bounds_run (w:=w) (P:=E.P) (isSl:=true) (cap:=0) hl hh (Nat.le_refl _) h1 h2;have hsz:=run_sizeOf (w:=w) (P:=E.P) (t:=el) e2;simp at h4
  have h6:loN L=0:=by simp at h3;omega
  refine pure_sound hR n (x:=.c .nils) (v:=.slice none 0 0) rfl ?_ h5;simp only [execOp,ho,hv];simp [Instr.sliceAt,Instr.slice,run_underlying e1,hb,hsz,h6,h4]
 ·rename_i r wd;split at h
  case h_2=>exact h.elim
  rename_i m hm;obtain ⟨el,e1,e2,e3⟩:=slT_spec ht;obtain ⟨ℓ,y,h4,h5,h6,h7,h8,h9,h10,h11,h15⟩:=ref_spec hR.mem hx hm;obtain ⟨p,c,h12,h13,h14,h16,hpc,h17⟩:=h10.slice' h8;rw [h7] at h12 h13 h14;have hsz:=run_sizeOf (w:=w) (P:=E.P) (t:=el) (by omega);have hcap:ℓ.len<=ℓ.cap:=h8
  have hkey:(L=.none/\H=.none/\(Res.ok (st.put o.dst (.c (.ref r wd)))).sat Φ)\/((winK wd.off (wd.len m) L H λw'=>(Res.ok (st.put o.dst (.c (.ref r w'))))).sat Φ):=by
   cases L with
   |none =>
    cases H with
    |none=>exact .inl ⟨rfl,rfl,h⟩
    |at_ b=>exact .inr h
   |at_ b=>exact .inr h
  rcases hkey with ⟨rfl,rfl,h⟩|h
  ·have hl:lo.map a.eval=none:=hl;have hh:hi.map a.eval=none:=hh;have hb:=bounds_run (w:=w) (P:=E.P) (isSl:=true) (len:=wd.len m) (cap:=c) (lo:=.none) (hi:=.none) (ul:=none) (uh:=none) rfl rfl h13 trivial trivial;refine pure_sound hR n (x:=.c (.ref r wd)) (v:=.slice (ℓ.addr p) (wd.len m) c) ?_ ?_ h
   ·have h10':AR w Z μ (.c (.ref r wd)) (a.eval x):=hx;rw [h12] at h10';exact h10'
   ·simp only [execOp,ho,h12,hl,hh];simp [Instr.sliceAt,Instr.slice,run_underlying e1,hb,hsz,loN,hiN];intro hc0;rcases h17 with h17|h17
    ·have:=loc_add ℓ p 0;simpa using this
    ·have:=loc_add ℓ p 0;simpa using this
  ·obtain ⟨g1,g2,g3,g4,g5⟩:=win_spec h;have hb:=bounds_run (w:=w) (P:=E.P) (isSl:=true) (cap:=c) hl hh h13 g1 g2
   refine pure_sound hR n (x:=.c (.ref r (.sub (wd.off+loN L) (hiN (wd.len m) H-loN L)))) (v:=.slice (if c=loN L then ℓ.addr p else (ℓ.addr p).map (·.add (loN L*E.P.cellsOf el))) (hiN (wd.len m) H-loN L) (c-loN L)) ⟨ℓ,h5,?_⟩ ?_ g5
   ·refine ⟨by omega,?_⟩
    rw [show ℓ.cap-(wd.off+loN L)=c-loN L from by omega]
    by_cases hc:c=loN L
    ·exact ⟨p,by rw [if_pos hc],hpc,by omega⟩
    ·refine ⟨p+loN L,?_,by omega,by omega⟩;rw [if_neg hc,e2,<- h9,loc_add]
   ·simp only [execOp,ho,h12];simp [Instr.sliceAt,Instr.slice,run_underlying e1,hb,hsz]
 ·exact h.elim
end
end Go.Mach

namespace Go.Mach
section
variable {w:World}{Z:Nat->Prop}{μ:Locs}
theorem CRs.nil:CRs w Z μ [] []:=⟨rfl,λk h=>by simp at h⟩
theorem CRs.append{cs cs':List C}{us us':List Value}(h:CRs w Z μ cs us)(h':CRs w Z μ cs' us'):CRs w Z μ (cs++cs') (us++us'):=by
 refine ⟨by simp [h.1,h'.1],λk h1 h2=>?_⟩;by_cases hk:k < cs.length
 ·have hk':k < us.length:=h.1▸hk;rw [List.getElem_append_left hk,List.getElem_append_left hk'];exact h.2 k hk hk'
 ·have e:=h.1;rw [List.getElem_append_right (by omega),List.getElem_append_right (by omega)];simp only [<- e];exact h'.2 _ _ _
theorem CRs.cons{c:C}{v:Value}{cs:List C}{us:List Value}(h:CR w Z μ c v)(h':CRs w Z μ cs us):CRs w Z μ (c::cs) (v::us) :=
 (CRs.mk1 h).append h'
theorem Frz.flat:∀ {t:Ty}{us:List Value}{x:t.den},Frz w Z t us x->CRs w Z μ (t.flat x) us
 |.unit,_,_,h=>by simp only [Frz] at h;subst h;exact CRs.nil
 |.int _,_,_,h=>by simp only [Frz] at h;obtain ⟨rfl,h⟩:=h;exact CRs.mk1 ⟨rfl,h⟩
 |.bool,_,_,h=>by simp only [Frz] at h;subst h;exact CRs.mk1 rfl
 |.str,_,_,h=>by simp only [Frz] at h;obtain ⟨rfl,h⟩:=h;exact CRs.mk1 ⟨rfl,h⟩
 |.list e,us,x,h=>by
  have hl:=h.length;simp only [Ty.cells] at hl
  match us,hl with
  |[v],_=>exact CRs.mk1 h
 |.pair a b,us,x,h=>by
  simp only [Frz] at h;obtain ⟨v1,v2,rfl,h1,h2⟩:=h;exact (Frz.flat h1).append (Frz.flat h2)
 |.rose a,us,x,h=>by
  obtain ⟨v1,v2,rfl,h1,h2⟩:=Frz.rose_iff.1 h;have hl:=h2.length;simp only [Ty.cells] at hl
  match v2,hl,h2 with
  |[v],_,h2=>exact (Frz.flat h1).append (CRs.mk1 h2)
theorem CellsAt.sub{b o n k:Nat}{us:List Value}(h:CellsAt w b o us):CellsAt w b (o+n) ((us.drop n).take k):=by
 intro j hj
 have h1:n+j < us.length:=by simp at hj;omega
 have:=h (n+j) h1;simp only [List.getElem_take,List.getElem_drop];rw [Nat.add_assoc];exact this
theorem CRs.split{cs cs':List C}{us:List Value}(h:CRs w Z μ (cs++cs') us):∃ v1 v2,us=v1++v2/\CRs w Z μ cs v1/\CRs w Z μ cs' v2:=by
 have hl:=h.1;simp only [List.length_append] at hl;refine ⟨us.take cs.length,us.drop cs.length,(List.take_append_drop _ _).symm,?_,?_⟩
 ·have:=h.sub 0 cs.length;simpa using this
 ·have:=h.sub cs.length cs'.length
  rwa [List.drop_left,List.take_of_length_le (Nat.le_refl _),List.take_of_length_le (by simp;omega)] at this
theorem CRs.ok:∀ {t:Ty}{x:t.den}{us:List Value},CRs w Z μ (t.flat x) us->t.ok x=true
 |.unit,_,_,_=>rfl
 |.int _,_,_,h=>by obtain ⟨v,_,h⟩:=h.one;exact h.2
 |.bool,_,_,_=>rfl
 |.str,_,_,h=>by obtain ⟨v,_,h⟩:=h.one;exact h.2
 |.list _,_,_,h=>by obtain ⟨v,_,h⟩:=h.one;exact Frz.ok (show Frz w Z _ _ _ from h)
 |.pair a b,x,_,h=>by
  obtain ⟨v1,v2,_,h1,h2⟩:=CRs.split (cs:=a.flat x.1) (cs':=b.flat x.2) h;simp only [Ty.ok,CRs.ok h1,CRs.ok h2,Bool.and_self]
 |.rose a,x,_,h=>by
  obtain ⟨v1,v2,_,h1,h2⟩:=CRs.split (cs:=a.flat x.lab) (cs':=[.lst (.rose a) x.kids]) h;obtain ⟨v,_,h⟩:=h2.one
  have h3:Ty.ok (.list (.rose a)) x.kids=true:=Frz.ok (show Frz w Z (.list (.rose a)) _ _ from h)
  simp only [Ty.ok] at h3 ⊢;simp only [CRs.ok h1,h3,Bool.and_self]
theorem run_size{P:Program}{t:TypeId}(hk:(P.underlying t).isSome=true):(sizeOf t).run P w=.ok (P.cellsOf t) w:=by
 obtain ⟨d,hd⟩:=Option.isSome_iff_exists.1 hk;unfold Program.underlying at hd
 cases hi:P.info? t with
 |none=>rw [hi] at hd;simp at hd
 |some i=>simp [sizeOf,typeInfo,hi,Program.cellsOf]
theorem load_spec{B:Base}{m:Mem}(hM:MemOk B m w Z μ){n:Nat}{x:AV}{v:Value}(hx:AR w Z μ x v){β:Type}{K:List C->Res β}{Ψ:β->Prop}(h:(loadK m n x K).sat Ψ) :
  ∃ b o cs us,v=.pointer (some ⟨b,o,none⟩)/\cs.length=n/\CellsAt w b o us/\CRs w Z μ cs us/\(K cs).sat Ψ:=by
 unfold loadK at h;split at h
 ·rename_i r off;obtain ⟨ℓ,b,h1,h2,h3⟩:=hx;split at h
  case h_3=>exact h.elim
  ·rename_i cs hr;split at h
   case h_2=>exact h.elim
   rename_i hn;obtain ⟨ℓ',h4,b',h5,h6,h7,us,h8,h9⟩:=hM.rt r _ hr (by simp);rw [h1] at h4;cases h4;rw [h2] at h5;cases h5;exact ⟨b,_,_,_,h3,by simpa using hn,h8.sub,h9.sub off n,h⟩
  ·rename_i cs hr;split at h
   case h_2=>exact h.elim
   rename_i hn;obtain ⟨ℓ',h4,b',h5,h6,us,h8,h9⟩:=hM.rt r _ hr (by simp);rw [h1] at h4;cases h4;rw [h2] at h5;cases h5;exact ⟨b,_,_,_,h3,by simpa using hn,h8.sub,h9.sub off n,h⟩
 ·rename_i e x off;obtain ⟨b,o,us,h1,h2,h3,h4,h5⟩:=hx;split at h
  case h_2=>exact h.elim
  rename_i hn;exact ⟨b,_,_,_,h2,by simpa using hn,h4.sub,h5.flat.sub off n,h⟩
 ·rename_i r i off;obtain ⟨ℓ,b,h1,h2,h3,h4⟩:=hx;split at h
  ·rename_i e xs hr;obtain ⟨hi0,hi,h⟩:=sat_idx h;obtain ⟨ℓ',h5,h6,h7,h8,h9,h10,h0,h11⟩:=hM.rt r _ hr (by simp);rw [h1] at h5;cases h5;rw [h2] at h11;obtain ⟨_,_,N,_,_,h12⟩:=h11;obtain ⟨us,g1,g2,g3⟩:=h12 i (by simpa using hi)
   have g4:CRs w Z μ (e.flat xs[i]) us:=Frz.flat (show Frz w Z e us xs[i] from g3)
   have hok:e.ok xs[i]=true:=g4.ok;have h:=h (by simpa using hok);simp only [Int.toNat_natCast] at h;split at h
   case h_2=>exact h.elim
   rename_i hn;exact ⟨b,_,_,_,h4,by simpa using hn,g2.sub,g4.sub off n,h⟩
  ·rename_i s xs f hr;obtain ⟨hfi,h⟩:=sat_need h
   have hfi:f.i=i:=by simpa using hfi
   split at h
   case h_2=>exact h.elim
   rename_i hn;obtain ⟨ℓ',h5,h6,h7,h8,h9,h10,h0,h11⟩:=hM.rt r _ hr (by simp);rw [h1] at h5;cases h5;rw [h2] at h11;obtain ⟨_,_,N,_,_,h12⟩:=h11;have hlt:=h6 f rfl;obtain ⟨us,g1,g2,g3⟩:=h12 i (by omega);simp only [ElR,hfi,if_true] at g3;exact ⟨b,_,_,_,h4,by simpa using hn,g2.sub,g3.sub off n,h⟩
  ·exact h.elim
 ·exact h.elim
theorem cellsAt_get{b o:Nat}{us:List Value}(h:CellsAt w b o us)(j:Nat)(v:Value)(hv:us[j]?=some v):w.cell? ((⟨b,o,none⟩:Addr).add j)=some v:=by
 obtain ⟨hj,rfl⟩:=List.getElem?_eq_some_iff.1 hv;rw [addr_add];exact h j hj
theorem run_loadVar{P:Program}{t:TypeId}{b o:Nat}{us:List Value}(hk:kindOk P t=true)(hl:us.length=P.cellsOf t)(hc:CellsAt w b o us) :
  ∃ v,(loadVar t ⟨b,o,none⟩).run P w=.ok v w/\OfCells (aggT P t) us v:=by
 obtain ⟨h1,h2⟩:=kind_spec hk;obtain ⟨d,hd⟩:=Option.isSome_iff_exists.1 h1;have hlc:=run_loadCells_list (P:=P) w ⟨b,o,none⟩ us (cellsAt_get hc);rw [hl] at hlc
 cases ha:aggT P t with
 |true =>
  refine ⟨.agg us.toArray,?_,rfl⟩;simp [loadVar,run_isAgg hd,ha,run_size h1,hlc]
 |false =>
  rcases h2 with h2|h2
  ·rw [ha] at h2;cases h2
  ·rw [h2] at hl
   match us,hl with
   |[v],_ =>
    refine ⟨v,?_,rfl⟩;have:=hc 0 (by simp);simp at this;simp [loadVar,run_isAgg hd,ha,this]
end
section
variable {B:Base}{E:Env}{st:St}{o:Oper}{a:Act}{w:World}{Z:Nat->Prop}{μ:Locs}{Φ:St->Prop}
theorem sound_load(hR:Rel B st a w Z μ)(n:Nat){t:TypeId}{x:Operand}(ho:o.op=.load t x)(h:(step E st o Res.ok).sat Φ) :
  o.wp E.P a w (Nxt B st n Z μ Φ) (λ_ _ _=>False):=by
 simp only [step,stepV,ho] at h;split at h
 case h_2=>exact h.elim
 rename_i hk;obtain ⟨b,p,cs,us,h1,h2,h3,h4,h5⟩:=load_spec hR.mem (hR.val x) h;obtain ⟨v,h6,h7⟩:=run_loadVar (w:=w) hk (by rw [<- h4.1,h2]) h3;refine pure_sound hR n (avOf_ok h4 h7) ?_ h5;simp only [execOp,ho,h1];simp [Instr.loadAt,Instr.sureAddr,h6]
theorem run_builtin{w':World}{b:Builtin}{c:Call}{v:Value}(ho:o.op=.call c)(hc:c.callee=.builtin b)
  (h:∀ ks,(builtin b c.argTypes o.type ks (c.args.map a.eval)).run E.P w=.ok (.value v) w') :
  (execOp a.eval o).run E.P w=.ok (.value v) w':=by
 simp only [execOp,ho,resolve,hc,invoke,Sem.run_bind,Sem.run_pure,Result.andThen_ok,h]
theorem sound_len(hR:Rel B st a w Z μ)(n:Nat){c:Call}(ho:o.op=.call c)(hc:c.callee=.builtin .len)(h:(step E st o Res.ok).sat Φ) :
  o.wp E.P a w (Nxt B st n Z μ Φ) (λ_ _ _=>False):=by
 simp only [step,stepV,ho,hc] at h;split at h
 case h_2=>exact h.elim
 rename_i x t ts hx ht;split at h
 case h_2=>exact h.elim
 rename_i k hk hf
 have h1:c.args=#[x]:=by rw [<- c.args.toArray_toList,hx]
 have h2:c.argTypes[0]?=some t:=by rw [<- Array.getElem?_toList,ht];rfl
 obtain ⟨h3,h4⟩:=len_sound hR (hR.val x) hk hf c.argTypes o.type h2;refine pure_sound hR n (x:=.c (.int .i64 k)) (v:=.int .i64 k) ⟨rfl,h4⟩ (run_builtin ho hc λks=>?_) h;rw [h1];simp only [builtin];simp [h3]
theorem foldM_spec(hR:Rel B st a w Z μ){P:Program}{f:Int->Int->Int}{g:Value->Value->Sem Value}(hg:∀ k j x y,g (.int k x) (.int j y)=pure (.int k (f x y)))(hf:∀ x y,f x y=x\/f x y=y) :
  ∀ (l:List Operand) (k:IntKind) (x:Int) (j:IntKind) (y:Int),inRange k x=true->foldI1 f k x (l.map (val st))=some (j,y) ->
   ((l.map a.eval).foldlM g (.int k x)).run P w=.ok (.int j y) w/\inRange j y=true
 |[],k,x,j,y,hx,h=>by
  simp only [List.map_nil,foldI1,Option.some.injEq,Prod.mk.injEq] at h;obtain ⟨rfl,rfl⟩:=h;exact ⟨rfl,hx⟩
 |z::l,k,x,j,y,hx,h=>by
  have hz:=hR.val z;simp only [List.map_cons] at h ⊢;generalize val st z=q at h hz;unfold foldI1 at h;split at h
  ·rename_i h';cases h'
  ·rename_i i' y' l' h';cases h';split at h
   case h_2=>cases h
   rename_i hs _;have hs':=hs.down;subst hs';obtain ⟨hv,hr⟩:=hz;rw [List.foldlM_cons,hv,hg]
   have hr':inRange i' (f x y')=true:=by rcases hf x y' with e|e<;>rw [e]<;>assumption
   simpa using foldM_spec hR hg hf l _ _ _ _ hr' h
  ·cases h
theorem fold_spec(hR:Rel B st a w Z μ){P:Program}{f:Int->Int->Int}{g:Value->Value->Sem Value}(hg:∀ k j x y,g (.int k x) (.int j y)=pure (.int k (f x y)))(hf:∀ x y,f x y=x\/f x y=y)
  {l:List Operand}{j:IntKind}{y:Int}(h:foldI f (l.map (val st))=some (j,y)) :
  ∃ v vs,l.map a.eval=v::vs/\(vs.foldlM g v).run P w=.ok (.int j y) w/\inRange j y=true:=by
 cases l with
 |nil=>cases h
 |cons z l =>
  have hz:=hR.val z;simp only [List.map_cons] at h ⊢;refine ⟨_,_,rfl,?_⟩;generalize val st z=q at h hz;unfold foldI at h;split at h
  ·rename_i h';cases h';obtain ⟨hv,hr⟩:=hz;rw [hv];exact foldM_spec hR hg hf l _ _ _ _ hr h
  ·cases h
theorem sound_min(hR:Rel B st a w Z μ)(n:Nat){c:Call}(ho:o.op=.call c)(hc:c.callee=.builtin .min)(h:(step E st o Res.ok).sat Φ) :
  o.wp E.P a w (Nxt B st n Z μ Φ) (λ_ _ _=>False):=by
 simp only [step,stepV,ho,hc] at h;split at h
 case h_2=>exact h.elim
 rename_i j y hf
 obtain ⟨v,vs,h1,h2,h3⟩:=fold_spec (P:=E.P) hR (f:=minI) (g:=Builtin.min2) (λ_ _ _ _=>rfl) (λx y=>by unfold minI;split<;>simp) hf
 refine pure_sound hR n (x:=.c (.int j y)) (v:=.int j y) ⟨rfl,h3⟩ (run_builtin ho hc λks=>?_) h;simp only [builtin,Builtin.min_,Array.toList_map,h1];simp [h2]
theorem sound_max(hR:Rel B st a w Z μ)(n:Nat){c:Call}(ho:o.op=.call c)(hc:c.callee=.builtin .max)(h:(step E st o Res.ok).sat Φ) :
  o.wp E.P a w (Nxt B st n Z μ Φ) (λ_ _ _=>False):=by
 simp only [step,stepV,ho,hc] at h;split at h
 case h_2=>exact h.elim
 rename_i j y hf
 obtain ⟨v,vs,h1,h2,h3⟩:=fold_spec (P:=E.P) hR (f:=maxI) (g:=Builtin.max2) (λ_ _ _ _=>rfl) (λx y=>by unfold maxI;split<;>simp) hf
 refine pure_sound hR n (x:=.c (.int j y)) (v:=.int j y) ⟨rfl,h3⟩ (run_builtin ho hc λks=>?_) h;simp only [builtin,Builtin.max_,Array.toList_map,h1];simp [h2]
theorem index_run{P:Program}{t el:TypeId}{b p len cap:Nat}{k:IntKind}{i:Int}(ht:P.underlying t=some (.slice el))(hz:P.cellsOf el≠0)(h0:0<=i)(h1:i.toNat < len) :
  (Instr.indexAt t (.slice (some ⟨b,p,none⟩) len cap) (.int k i)).run P w=.ok (.pointer (some ⟨b,p+i.toNat*P.cellsOf el,none⟩)) w:=by
 have h2:0<=i/\i < (len:Int):=⟨h0,by omega⟩;simp [Instr.indexAt,asIntOf,run_underlying ht,h2,run_sizeOf hz,addr_add]
theorem win_of{α:Type}(xs:List α)(wd:Win)(h:wd.off+wd.len xs.length<=xs.length) :
  (wd.of xs).length=wd.len xs.length/\∀ i (hi:i < (wd.of xs).length),∃ (hj:wd.off+i < xs.length),(wd.of xs)[i]=xs[wd.off+i]:=by
 cases wd with
 |full=>exact ⟨rfl,λi hi=>⟨by simpa [Win.off,Win.of] using hi,by simp [Win.of,Win.off]⟩⟩
 |sub o n =>
  simp only [Win.off,Win.len] at h;refine ⟨by simp [Win.of,Win.len];omega,λi hi=>?_⟩;simp [Win.of] at hi;exact ⟨by simp only [Win.off];omega,by simp [Win.of,Win.off]⟩
theorem sound_indexAddr_plain(hR:Rel B st a w Z μ)(n:Nat){t:TypeId}{x i:Operand}(ho:o.op=.indexAddr t x i)(hna:arrT E.P t=none)(h:(step E st o Res.ok).sat Φ)
  (hx:∀ r w' s xs,val st x=.c (.ref r w')->st.mem.roots[r]?=some (.arr s xs none)->s.isFrz=true)
  (hx':∀ r w' s xs,val st x=.c (.ref r w')->st.mem.roots[r]?=some (.bor s xs)->False) :
  o.wp E.P a w (Nxt B st n Z μ Φ) (λ_ _ _=>False):=by
 simp only [step,stepV,ho,hna] at h;split at h
 case h_2=>exact h.elim
 rename_i ht;simp only [Bool.and_eq_true] at ht;replace ht:=ht.1;have hX:=hR.val x;have hI:=hR.val i;generalize hqx:val st x=X at h ht hX;generalize hqi:val st i=I at h hI;unfold indexAddrK at h;split at h
 ·rename_i e xs k ix;obtain ⟨h0,hi,h⟩:=sat_idx h;obtain ⟨el,e1,e2,e3⟩:=slT_spec ht;obtain ⟨q,cap,e4,e5,e6,e7⟩:=hX;simp only [List.cons.injEq,and_true] at e4;obtain ⟨hI1,hI2⟩:=hI;rcases e7 with e7|⟨b,p,e8,e9,e10⟩
  ·subst e7;simp at hi
  ·obtain ⟨us,g1,g2,g3⟩:=e10 _ hi;subst e8;refine pure_sound hR n (x:=.c (.lptr e xs[ix.toNat] 0)) (v:=.pointer (some ⟨b,p+ix.toNat*E.P.cellsOf el,none⟩)) ⟨b,_,us,e9,by rw [e2,Nat.add_zero],g1,g2,g3⟩ ?_ (h (Frz.ok g3));simp only [execOp,ho,e4,hI1];simp [index_run e1 (by omega) h0 hi]
 ·rename_i r wd k ix;obtain ⟨hI1,hI2⟩:=hI;obtain ⟨el,e1,e2,e3⟩:=slT_spec ht;obtain ⟨ℓ,m1,m2⟩:=hX
  have fin:∀ (b len:Nat) (y:AV),ℓ.odd=none->len=wd.len ℓ.len->ℓ.blk=some b->ℓ.len<=ℓ.cap->ℓ.sz=E.P.cellsOf el->0<=ix->ix.toNat < len ->
    AR w Z μ y (.pointer (some ⟨b,ℓ.base+(wd.off+ix.toNat)*ℓ.sz,none⟩))->Φ (st.put o.dst y)->o.wp E.P a w (Nxt B st n Z μ Φ) (λ_ _ _=>False):=by
   intro b len y hod hlen hb hcap hsz h0 hlt hy hΦ;obtain ⟨q,c,p1,p2,p3,p4,p5⟩:=m2.slice hcap
   have hq:q=some ⟨b,ℓ.base+wd.off*ℓ.sz,none⟩:=by
    rcases p5 with p5|p5
    ·rw [p5];exact ℓ.addr_some hod hb _
    ·omega
   subst hq;refine pure_sound hR n (x:=y) (v:=.pointer (some ⟨b,(ℓ.base+wd.off*ℓ.sz)+ix.toNat*E.P.cellsOf el,none⟩)) ?_ ?_ hΦ
   ·rw [<- hsz,Nat.add_assoc,<- Nat.add_mul];exact hy
   ·simp only [execOp,ho,p1,hI1];simp [index_run e1 (by omega) h0 (hlen▸hlt)]
  split at h
  ·rename_i e xs hr;obtain ⟨hb,h⟩:=sat_need h;simp [ile,ilt] at hb;obtain ⟨ℓ',h5,h6,h7,h8,h9,h10,h0,h11⟩:=hR.mem.rt r _ hr (by simp);rw [m1] at h5;cases h5
   have hsz:ℓ.sz=E.P.cellsOf el:=by
    rw [h7,e2];simp [Mem.sz?,hr]
   obtain ⟨q,c,p1,p2,p3,p4,p5⟩:=m2.slice (by omega);rw [<- h8] at hb
   cases hbk:ℓ.blk with
   |none=>rw [hbk] at h11;have:=h11.1;subst this;simp at h8;omega
   |some b =>
    refine fin b (wd.len ℓ.len) (.c (.eptr r (wd.off+ix.toNat) 0)) h0 rfl hbk (by omega) hsz hb.1 (by omega) ⟨ℓ,b,m1,hbk,by omega,by simp⟩ h
  ·rename_i s xs foc hne hr;split at h
   ·rename_i f;obtain ⟨hb,h⟩:=sat_need h;simp [ile] at hb;obtain ⟨ℓ',h5,h6,h7,h8,h9,h10,h0,h11⟩:=hR.mem.rt r _ hr (by simp);rw [m1] at h5;cases h5
    have hsz:ℓ.sz=E.P.cellsOf el:=by
     rw [h7,e2];simp [Mem.sz?,hr]
    have hf:=h6 f rfl
    cases hbk:ℓ.blk with
    |none=>rw [hbk] at h11;have:=h11.1;subst this;simp at hf
    |some b =>
     exact fin b ℓ.len (.c (.eptr r ix.toNat 0)) h0 rfl hbk (by omega) hsz hb.1 (by omega) ⟨ℓ,b,m1,hbk,by omega,by simp [Win.off]⟩ h
   ·have:=hx _ _ _ _ hqx hr
    cases s<;>simp [Sh.isFrz] at this
    exact (hne _ _ rfl HEq.rfl rfl).elim
   ·exact h.elim
  ·rename_i e xs hr;obtain ⟨hge,hi,h⟩:=sat_idx h;obtain ⟨ℓ',h5,h6,h7,h8,h9,h0,h10⟩:=hR.mem.rt r _ hr (by simp);rw [m1] at h5;cases h5
   have hsz:ℓ.sz=E.P.cellsOf el:=by
    rw [h6,e2];simp [Mem.sz?,hr]
   obtain ⟨q,c,p1,p2,p3,p4,p5⟩:=m2.slice (by omega);rw [h7] at p3;obtain ⟨w1,w2⟩:=win_of xs wd p3
   have hlt:wd.off+ix.toNat < xs.length:=by omega
   have h0':ℓ.odd=none:=h0.resolve_right (by rintro rfl;simp at hlt)
   cases hbk:ℓ.blk with
   |none=>rw [hbk] at h10;have:xs=[]:=h10;subst this;simp at hlt
   |some b =>
    rw [hbk] at h10;obtain ⟨us,g1,g2,g3⟩:=h10.2 _ hlt;have hZ:Z b:=h10.1.resolve_left (by rintro rfl;simp at hlt);obtain ⟨_,hel⟩:=w2 ix.toNat hi;refine fin b (wd.len ℓ.len) (.c (.lptr e (wd.of xs)[ix.toNat] 0)) h0' rfl hbk (by omega) hsz hge (by rw [h7,<- w1];exact hi) ⟨b,_,us,hZ,by simp,g1,g2,?_⟩ (h ?_)
    ·rw [hel];exact g3
    ·rw [hel];exact Frz.ok g3
  ·rename_i s xs hr;exact (hx' _ _ _ _ hqx hr).elim
  ·exact h.elim
 ·exact h.elim
end
end Go.Mach

namespace Go.Mach
section
variable {w:World}{Z:Nat->Prop}{μ:Locs}
theorem alloc_old(w:World)(o:Obj){b:Nat}(h:b < w.heap.size):(w.alloc o).heap[b]?=w.heap[b]?:=by
 simp only [World.alloc,Array.getElem?_push];rw [if_neg (by omega)]
theorem alloc_size(w:World)(o:Obj):(w.alloc o).heap.size=w.heap.size+1:=Array.size_push _
theorem alloc_new(w:World)(o:Obj):(w.alloc o).heap[w.heap.size]?=some o:=Array.getElem?_push_size
theorem alloc_cells(w:World)(us:List Value)(T:TypeId):CellsAt (w.alloc (.cells us.toArray T)) w.heap.size 0 us:=by
 intro k hk;simp only [World.cell?,alloc_new];simp [hk]
theorem alloc_block(w:World)(us:List Value)(T:TypeId){n:Nat}(h:n<=us.length):BlockOk (w.alloc (.cells us.toArray T)) w.heap.size n :=
 ⟨_,_,_,alloc_new _ _,by simpa using h,Nat.le_refl _,λk _=>by simp⟩
theorem setCell_other(w:World)(b o:Nat)(v:Value){b':Nat}(h:b'≠b):(w.setCell ⟨b,o,none⟩ v).heap[b']?=w.heap[b']?:=by
 simp only [World.setCell,Array.getElem?_modify];rw [if_neg (λe=>h e.symm)]
theorem setCells_other(b:Nat){b':Nat}(h:b'≠b):∀ (vs:List Value) (o:Nat) (w:World),(w.setCells b o vs).heap[b']?=w.heap[b']?
 |[],_,_=>rfl
 |v::vs,o,w=>by rw [World.setCells,setCells_other b h vs,setCell_other _ _ _ _ h]
theorem setCells_size(b:Nat):∀ (vs:List Value) (o:Nat) (w:World),(w.setCells b o vs).heap.size=w.heap.size
 |[],_,_=>rfl
 |v::vs,o,w=>by rw [World.setCells,setCells_size b vs];simp [World.setCell]
theorem setCells_io{D:Prop}(b:Nat):∀ (vs:List Value) (o:Nat) (w:World),Io D w (w.setCells b o vs)
 |[],_,_=>Io.refl _
 |v::vs,o,w=>by rw [World.setCells];exact Io.trans (w':=w.setCell ⟨b,o,none⟩ v) (Io.same rfl rfl rfl (.inl rfl)) (setCells_io b vs _ _)
theorem setCells_block(b:Nat):∀ (vs:List Value) (o:Nat) (w:World){n:Nat},BlockOk w b n->BlockOk (w.setCells b o vs) b n
 |[],_,_,_,h=>h
 |v::vs,o,w,n,h=>by
  rw [World.setCells];refine setCells_block b vs (o+1) _ ?_;obtain ⟨c,T,fz,h1,h2,h3⟩:=h;refine ⟨c.setIfInBounds o v,T,fz,?_,by simpa using h2,by simpa using h3⟩;simp [World.setCell,Array.getElem?_modify,h1]
theorem BlockOk.frozen{b n o:Nat}(h:BlockOk w b n)(ho:o < n):w.frozen? ⟨b,o,none⟩=false:=by
 obtain ⟨c,T,fz,h1,h2,h3⟩:=h;simp only [World.frozen?,h1];exact h3.2 o (by omega)
theorem BlockOk.cell{b n o:Nat}(h:BlockOk w b n)(ho:o < n):(w.cell? ⟨b,o,none⟩).isSome=true:=by
 obtain ⟨c,T,fz,h1,h2,h3⟩:=h;simp only [World.cell?,h1];simp;omega
theorem run_store_cells{P:Program}{b o n:Nat}{vs:List Value}(hb:BlockOk w b n)(hn:o+vs.length<=n)(h1:∀ v∈vs,v.oneCell'=true) :
  (storeCells ⟨b,o,none⟩ vs).run P w=.ok () (w.setCells b o vs):=by
 have:=run_storeCells_cells (P:=P) b o vs 0 w (λj hj=>hb.cell (by omega)) (λj hj=>hb.frozen (by omega)) h1;simpa using this
theorem setCells_in{b o n p:Nat}{vs us:List Value}(hb:BlockOk w b n)(hn:p+us.length<=n)(ho:o+vs.length<=us.length)(hc:CellsAt w b p us) :
  CellsAt (w.setCells b (p+o) vs) b p (us.take o++(vs++us.drop (o+vs.length))):=by
 intro k hk;by_cases h1:k < o
 ·rw [World.cell?_setCells_out b vs _ w _ (λ_ _=>Or.inl (by simp;omega))]
  have hk':k < us.length:=by omega
  rw [hc k hk',List.getElem_append_left (by simp;omega),List.getElem_take]
 ·by_cases h2:k < o+vs.length
  ·have h3:=World.cell?_setCells_in b vs (p+o) w (λj hj=>hb.cell (by omega)) (k-o) (by omega)
   rw [show p+o+(k-o)=p+k from by omega] at h3
   rw [h3,List.getElem_append_right (by simp;omega),List.getElem_append_left (by simp;omega)];congr 2;simp;omega
  ·rw [World.cell?_setCells_out b vs _ w _ (λ_ _=>Or.inr (by simp;omega))]
   have hk':k < us.length:=by simp at hk;omega
   rw [hc k hk',List.getElem_append_right (by simp;omega),List.getElem_append_right (by simp;omega),List.getElem_drop];congr 2;simp;omega
theorem setCells_off{b o p:Nat}{vs us:List Value}(h:p+us.length<=o\/o+vs.length<=p)(hc:CellsAt w b p us):CellsAt (w.setCells b o vs) b p us:=by
 intro k hk;rw [World.cell?_setCells_out b vs _ w _ (λ_ _=>by simp;omega)];exact hc k hk
def Locs.set(μ:Locs)(r:Nat)(ℓ:Loc):Locs:=λs=>if s=r then some ℓ else μ s
theorem Locs.set_at(μ:Locs)(r:Nat)(ℓ:Loc):μ.set r ℓ r=some ℓ:=by simp [Locs.set]
theorem Locs.set_ne(μ:Locs){r s:Nat}(ℓ:Loc)(h:s≠r):μ.set r ℓ s=μ s:=by simp [Locs.set,h]
theorem ExtL.set{r:Nat}{ℓ:Loc}(h:μ r=none):ExtL μ (μ.set r ℓ):=λs ℓ' hs=>by
 by_cases e:s=r
 ·subst e;rw [h] at hs;cases hs
 ·exact ⟨ℓ'.S,by rw [Locs.set_ne _ _ e,hs]⟩
theorem push_roots{m:Mem}(_:m.cur < m.roots.length)(x:Root):(m.push x)=⟨m.roots.set m.cur x,m.dR,m.cur+1⟩:=rfl
theorem MemOk.push{B:Base}{m:Mem}(h:MemOk B m w Z μ)(hr:m.roots[m.cur]?=some .dead)(hf:μ m.cur=none){w':World}{ℓ:Loc}{x:Root}
  (hw:∀ b,b < w.heap.size->w'.heap[b]?=w.heap[b]?) (hsz:w.heap.size<=w'.heap.size) (hS:∀ b,ℓ.S b->w.heap.size<=b/\b < w'.heap.size)
  (hok:RootOk w' Z B.Y (μ.set m.cur ℓ) ℓ x) (hio:Io B.g.dr w w':=by first|exact Io.same rfl rfl rfl (.inl rfl)|exact Io.same rfl rfl rfl (.inr rfl)):MemOk B (m.push x) w' Z (μ.set m.cur ℓ):=by
 have hlt:m.cur < m.roots.length:=(List.getElem?_eq_some_iff.1 hr).1;rw [push_roots hlt];refine h.step (λr=>r=m.cur) ?_ (λb hb _=>hw b hb) hsz (ExtL.set hf) (λ_ h=>h) (λ_ h=>.inl h) ?_ ?_ ?_ (by simp) hio
 ·intro r hr';exact ⟨by simp [List.getElem?_set,Ne.symm hr'],Locs.set_ne _ _ hr'⟩
 ·rintro r y rfl hy _;simp [List.getElem?_set,hlt] at hy;subst hy;refine ⟨ℓ,Locs.set_at _ _ _,hok,λ_ b hb=>⟨(hS b hb).2,λhz=>?_,.inr (hS b hb).1⟩⟩;have:=(h.frz b hz).1;have:=(hS b hb).1;omega
 ·rintro r s rfl rfl hne;exact absurd rfl hne
 ·rintro r rfl hge;simp at hge;omega
end
section
variable {B:Base}{E:Env}{st:St}{o:Oper}{a:Act}{w:World}{Z:Nat->Prop}{μ:Locs}{Φ:St->Prop}
theorem new_sound(hR:Rel B st a w Z μ){n:Nat}(hF:Fresh st n μ)(hn:1<=n){w':World}{v:Value}{y:AV}{x:Root}{ℓ:Loc}
  (hrun:(execOp a.eval o).run E.P w=.ok (.value v) w')
  (hw:∀ b,b < w.heap.size->w'.heap[b]?=w.heap[b]?) (hsz:w.heap.size<=w'.heap.size) (hS:∀ b,ℓ.S b->w.heap.size<=b/\b < w'.heap.size)
  (hok:RootOk w' Z B.Y (μ.set st.mem.cur ℓ) ℓ x) (hy:AR w' Z (μ.set st.mem.cur ℓ) y v)
  (hΦ:Φ (st.with o.dst y (st.mem.push x))) (hio:Io B.g.dr w w':=by first|exact Io.same rfl rfl rfl (.inl rfl)|exact Io.same rfl rfl rfl (.inr rfl)):o.wp E.P a w (Nxt B st n Z μ Φ) (λ_ _ _=>False):=by
 obtain ⟨h1,h2⟩:=hF 0 (by omega);rw [Nat.add_zero] at h1 h2;have hlt:st.mem.cur < st.mem.roots.length:=(List.getElem?_eq_some_iff.1 h2).1;have hm:=hR.mem.push h2 h1 hw hsz hS hok hio;refine wp_of_value hrun ⟨_,Z,_,hR.put hm (λb hb=>hw b (hR.mem.frz b hb).1) (λ_ h=>h) (ExtL.set h1) o.dst hy,hΦ,?_,?_,λr hr hμ=>?_,λ_ h=>h,ExtL.set h1⟩
 ·cases o.dst<;>simp [St.with,St.put,push_roots hlt]
 ·cases o.dst<;>rfl
 ·rw [Locs.set_ne _ _ (by omega)];exact hμ
theorem cellOf_nilp{v:Value}(h:cellOf v=.nilp):v=.pointer none:=by
 unfold cellOf at h
 split at h<;>first|rfl|(split at h<;>cases h)|cases h
theorem cellOf_nils{v:Value}(h:cellOf v=.nils):v=.slice none 0 0:=by
 unfold cellOf at h
 split at h<;>first|rfl|(split at h<;>cases h)|cases h
theorem sound_alloc(hR:Rel B st a w Z μ){n:Nat}(hF:Fresh st n μ)(hn:1<=n){T:TypeId}(ho:o.op=.alloc T)(h:(step E st o Res.ok).sat Φ) :
  o.wp E.P a w (Nxt B st n Z μ Φ) (λ_ _ _=>False):=by
 simp only [step,stepV,ho] at h;split at h
 ·rename_i pq hfind;split at h
  case h_2=>exact h.elim
  rename_i hz;unfold zeroC at hz;split at hz
  case h_2=>cases hz
  rename_i i hi;split at hz
  case h_2=>cases hz
  rename_i zv hzv
  have hpT:pq.1=T:=by simpa using List.find?_some hfind
  have hz:zv.cells.toList.map cellOf=[.nilp,.nils]:=by simpa using hz
  have hcs:zv.cells=#[.pointer none,.slice none 0 0]:=by
   apply Array.ext'
   have hlen:zv.cells.toList.length=2:=by
    have:=congrArg List.length hz;simpa using this
   revert hz hlen;generalize zv.cells.toList=l;intro hz hlen
   match l,hlen with
   |[x,y],_ =>
    simp only [List.map_cons,List.map_nil,List.cons.injEq,and_true] at hz;obtain ⟨h1,h2⟩:=hz;rw [cellOf_nilp h1,cellOf_nils h2]
  refine new_sound hR hF hn (w':=w.alloc (.cells zv.cells T)) (v:=.pointer (some ⟨w.heap.size,0,none⟩)) (ℓ:=⟨some w.heap.size,0,0,0,0,λb=>b=w.heap.size,none⟩) ?_
   (λb hb=>alloc_old _ _ hb) (by rw [alloc_size];omega) (by rintro b rfl;rw [alloc_size];omega) ?_ ?_ h
  ·simp only [execOp,ho];simp [Instr.alloc,zeroValue,typeInfo,hi,hzv,newVar,newRow]
  ·refine ⟨w.heap.size,rfl,rfl,rfl,.pointer none,.slice none 0 0,?_,.inl rfl,.inl ⟨rfl,rfl⟩⟩;rw [hcs,hpT];exact alloc_new w _
  ·exact ⟨_,_,Locs.set_at _ _ _,rfl,by simp⟩
 split at h
 case h_2=>exact h.elim
 rename_i cs hz;unfold zeroC at hz;split at hz
 case h_2=>cases hz
 rename_i i hi;split at hz
 case h_2=>cases hz
 rename_i zv hzv;cases hz
 refine new_sound hR hF hn (w':=w.alloc (.cells zv.cells T)) (v:=.pointer (some ⟨w.heap.size,0,none⟩)) (ℓ:=⟨some w.heap.size,0,0,0,0,λb=>b=w.heap.size,none⟩) ?_
  (λb hb=>alloc_old _ _ hb) (by rw [alloc_size];omega) (by rintro b rfl;rw [alloc_size];omega) ?_ ?_ h
 ·simp only [execOp,ho];simp [Instr.alloc,zeroValue,typeInfo,hi,hzv,newVar,newRow]
 ·refine ⟨_,rfl,rfl,?_,zv.cells.toList,?_,CRs_map _⟩
  ·have:=alloc_block w zv.cells.toList T (n:=zv.cells.toList.length) (Nat.le_refl _);simpa using this
  ·have:=alloc_cells w zv.cells.toList T;simpa using this
 ·exact ⟨_,_,Locs.set_at _ _ _,rfl,by simp⟩
end
end Go.Mach

namespace Go.Mach
section
variable {w:World}{Z:Nat->Prop}{μ:Locs}
theorem AR.real{x:AV}{v:Value}(h:AR w Z μ x v)(hx:x.real=true):∃ us:List Value,v.cells=us.toArray/\CRs w Z μ x.cells us:=by
 cases x with
 |c c =>
  have h':CR w Z μ c v:=h;simp [AV.real] at hx;exact ⟨[v],(h'.one hx).1,CRs.mk1 h'⟩
 |agg cs=>obtain ⟨vs,rfl,h2⟩:=h;exact ⟨vs,rfl,h2⟩
 |tup l=>simp [AV.real] at hx
theorem splice_ok{cs vs cs':List C}{off:Nat}(h:splice cs off vs=some cs'):off+vs.length<=cs.length/\cs'=cs.take off++(vs++cs.drop (off+vs.length)):=by
 unfold splice at h;split at h
 ·rename_i hd;cases h;exact ⟨by simpa using hd,rfl⟩
 ·cases h
theorem CRs.splice{cs vs:List C}{us ws:List Value}(h:CRs w Z μ cs us)(h':CRs w Z μ vs ws)(off:Nat) :
  CRs w Z μ (cs.take off++(vs++cs.drop (off+vs.length))) (us.take off++(ws++us.drop (off+ws.length))):=by
 have h1:CRs w Z μ (cs.take off) (us.take off):=by simpa using h.sub 0 off
 have h2:CRs w Z μ (cs.drop (off+vs.length)) (us.drop (off+ws.length)):=by
  have:=h.sub (off+vs.length) cs.length;rw [List.take_of_length_le (by simp),List.take_of_length_le (by simp;have:=h.1;omega),h'.1] at this;rw [h'.1];exact this
 exact h1.append (h'.append h2)
theorem foldl_set(off:Nat):∀ (ws:List Value) (j:Nat) (A B D:List Value),A.length=off+j->B.length=ws.length ->
  (ws.zipIdx j).foldl (λ(cs:List Value) (p:Value×Nat)=>cs.set (off+p.2) p.1) (A++(B++D))=A++(ws++D)
 |[],j,A,B,D,_,h=>by
  have:B=[]:=List.eq_nil_of_length_eq_zero h;subst this;rfl
 |v::ws,j,A,[],D,_,h=>by simp at h
 |v::ws,j,A,b::B,D,hA,h=>by
  simp only [List.zipIdx_cons,List.foldl_cons]
  have h1:(A++(b::B++D)).set (off+j) v=(A++[v])++(B++D):=by
   rw [<- hA,List.set_append_right _ _ (Nat.le_refl _)];simp
  rw [h1,foldl_set off ws (j+1) (A++[v]) B D (by simp [hA];omega) (by simpa using h)];simp
theorem arr_foldl_set(off:Nat):∀ (l:List (Value×Nat)) (acc:Array Value),
  (l.foldl (λ(cs:Array Value) (p:Value×Nat)=>cs.setIfInBounds (off+p.2) p.1) acc).toList=l.foldl (λ(cs:List Value) (p:Value×Nat)=>cs.set (off+p.2) p.1) acc.toList
 |[],_=>rfl
 |p::l,acc=>by
  simp only [List.foldl_cons];rw [arr_foldl_set off l,Array.toList_setIfInBounds]
theorem fill_put{us ws:List Value}{off:Nat}(h:off+ws.length<=us.length) :
  (ws.toArray.zipIdx.foldl (λ(cs:Array Value) (p:Value×Nat)=>cs.setIfInBounds (off+p.2) p.1) us.toArray)=(us.take off++(ws++us.drop (off+ws.length))).toArray:=by
 apply Array.ext';rw [<- Array.foldl_toList,arr_foldl_set]
 have e:us=us.take off++((us.drop off).take ws.length++us.drop (off+ws.length)):=by
  rw [<- List.drop_drop,List.take_append_drop,List.take_append_drop]
 have h1:ws.toArray.zipIdx.toList=ws.zipIdx 0:=by simp [Array.toList_zipIdx]
 rw [h1]
 conv=>lhs;rw [show us.toArray.toList=us.take off++((us.drop off).take ws.length++us.drop (off+ws.length)) from e]
 rw [foldl_set off ws 0 _ _ _ (by simp;omega) (by simp;omega)]
theorem fill_ok{B:Base}{st:St}{a:Act}(hR:Rel B st a w Z μ){place:Nat->Option (Nat×Nat)}:∀ (parts:List (Nat×Operand)){cs cs':List C}{us:List Value},CRs w Z μ cs us ->
  fillC place cs (parts.map λp=>(p.1,val st p.2))=some cs' ->
   ∃ us',Instr.fill place us.toArray (parts.map λp=>(p.1,a.eval p.2))=some us'.toArray/\CRs w Z μ cs' us'
 |[],cs,cs',us,hc,h=>by
  simp only [List.map_nil,fillC,Option.some.injEq] at h;subst h;exact ⟨us,rfl,hc⟩
 |(i,x)::r,cs,cs',us,hc,h=>by
  simp only [List.map_cons,fillC] at h ⊢;split at h
  case h_2=>cases h
  rename_i off n hp;split at h
  case h_2=>cases h
  rename_i hb;simp at hb;split at h
  case h_2=>cases h
  rename_i cs1 hs;obtain ⟨ws,h1,h2⟩:=(hR.val x).real hb.1;obtain ⟨h3,rfl⟩:=splice_ok hs
  have hlen:off+ws.length<=us.length:=by rw [<- h2.1,<- hc.1];exact h3
  obtain ⟨us',h4,h5⟩:=fill_ok hR r (hc.splice h2 off) h;refine ⟨us',?_,h5⟩;rw [Instr.fill,hp]
  have h6:ws.length=n:=by rw [<- h2.1];exact hb.2
  simp only [h1,List.size_toArray];rw [if_neg (by simp;omega),fill_put hlen];exact h4
end
section
variable {B:Base}{E:Env}{st:St}{o:Oper}{a:Act}{w:World}{Z:Nat->Prop}{μ:Locs}{Φ:St->Prop}
theorem sound_box(hR:Rel B st a w Z μ){n:Nat}(hF:Fresh st n μ)(hn:1<=n){T:TypeId}{x:Operand}(ho:o.op=.box T x)(h:(step E st o Res.ok).sat Φ) :
  o.wp E.P a w (Nxt B st n Z μ Φ) (λ_ _ _=>False):=by
 simp only [step,stepV,ho] at h;split at h
 case h_2=>exact h.elim
 rename_i hb;simp at hb;obtain ⟨us,h1,h2⟩:=(hR.val x).real hb.1;have hF0:=(hF 0 (by omega)).1
 refine new_sound hR hF hn (w':=w.alloc (.cells us.toArray T)) (v:=.pointer (some ⟨w.heap.size,0,none⟩)) (ℓ:=⟨some w.heap.size,0,0,0,0,λb=>b=w.heap.size,none⟩) ?_
  (λb hb=>alloc_old _ _ hb) (by rw [alloc_size];omega) (by rintro b rfl;rw [alloc_size];omega) ?_ ?_ h
 ·simp only [execOp,ho];simp [Instr.box,newVar,newRow,h1]
 ·refine ⟨_,rfl,rfl,?_,us,?_,h2.mono (λb hb=>alloc_old _ _ (hR.mem.frz b hb).1) (λ_ h=>h) (ExtL.set hF0)⟩
  ·rw [h2.1];simpa using alloc_block w us T (Nat.le_refl _)
  ·exact alloc_cells w us T
 ·exact ⟨_,_,Locs.set_at _ _ _,rfl,by simp⟩
theorem run_places{P:Program}:∀ (fs:List Field),(fs.all λf=>(P.info? f.type).isSome)=true ->
  (fs.mapM (m:=Sem) λf=>Prod.mk f.offset <$> sizeOf f.type).run P w=.ok (fs.map λf=>(f.offset,P.cellsOf f.type)) w
 |[],_=>rfl
 |f::fs,h=>by
  simp only [List.all_cons,Bool.and_eq_true] at h;obtain ⟨i,hi⟩:=Option.isSome_iff_exists.1 h.1
  have hs:(sizeOf f.type).run P w=.ok (P.cellsOf f.type) w:=by simp [sizeOf,typeInfo,hi,Program.cellsOf]
  simp [List.mapM_cons,hs,run_places fs h.2]
theorem sound_build(hR:Rel B st a w Z μ)(n:Nat){T:TypeId}{parts:Array (Nat×Operand)}(ho:o.op=.build T parts)(h:(step E st o Res.ok).sat Φ) :
  o.wp E.P a w (Nxt B st n Z μ Φ) (λ_ _ _=>False):=by
 simp only [step,stepV,ho] at h;split at h
 case h_2=>exact h.elim
 rename_i cs pl hz hpl0;split at h
 case h_2=>exact h.elim
 rename_i cs' hc;unfold zeroC at hz;split at hz
 case h_2=>cases hz
 rename_i i hi;split at hz
 case h_2=>cases hz
 rename_i zv hzv;cases hz;unfold placeOf at hpl0;split at hpl0
 case h_2 =>
  split at hpl0
  case h_2=>cases hpl0
  rename_i n0 el hu;split at hpl0
  case h_2=>cases hpl0
  rename_i hel;cases hpl0;obtain ⟨us',h1,h2⟩:=fill_ok hR parts.toList (CRs_map zv.cells.toList) hc;refine pure_sound hR n (x:=.agg cs') (v:=.agg us'.toArray) ⟨_,rfl,h2⟩ ?_ h;simp only [execOp,ho];obtain ⟨ie,hie⟩:=Option.isSome_iff_exists.1 hel
  have hsz:(sizeOf el).run E.P w=.ok (E.P.cellsOf el) w:=by simp [sizeOf,typeInfo,hie,Program.cellsOf]
  simp only [Array.toArray_toList] at h1;simp [Instr.build,zeroValue,typeInfo,hi,hzv,run_underlying hu,hsz,h1]
 rename_i hf;cases hpl0;unfold fieldsOk at hf;split at hf
 case h_2=>cases hf
 rename_i fs hu;obtain ⟨us',h1,h2⟩:=fill_ok hR parts.toList (CRs_map zv.cells.toList) hc;refine pure_sound hR n (x:=.agg cs') (v:=.agg us'.toArray) ⟨_,rfl,h2⟩ ?_ h;simp only [execOp,ho]
 have hp:(fs.mapM (m:=Sem) λf=>Prod.mk f.offset <$> sizeOf f.type).run E.P w=.ok (fs.toList.map λf=>(f.offset,E.P.cellsOf f.type)).toArray w:=by
  rw [Array.mapM_eq_mapM_toList];have:=run_places (w:=w) (P:=E.P) fs.toList hf;simp [this]
 have hpl:(λi=>(fieldOf E.P T i).map λp=>(p.1,E.P.cellsOf p.2))=(λi=>Option.map (λf=>(f.offset,E.P.cellsOf f.type)) fs[i]?):=by
  funext j;unfold fieldOf;rw [hu];simp
  cases fs[j]?<;>rfl
 rw [hpl] at h1;simp only [Array.toArray_toList] at h1;simp [Instr.build,zeroValue,typeInfo,hi,hzv,run_underlying hu,hp,h1]
end
end Go.Mach

namespace Go.Mach
section
variable {w:World}{Z:Nat->Prop}{μ:Locs}
theorem CRs.frz:∀ {t:Ty}{x:t.den}{us:List Value},CRs w Z μ (t.flat x) us->Frz w Z t us x
 |.unit,_,us,h=>by
  have:=h.1;simp only [Frz];exact List.eq_nil_of_length_eq_zero (by simpa [Ty.flat] using this.symm)
 |.int k,x,_,h=>by obtain ⟨v,rfl,g⟩:=h.one;simp only [Frz];obtain ⟨g1,g2⟩:=(show v=.int k x/\inRange k x=true from g);exact ⟨by rw [g1],g2⟩
 |.bool,x,_,h=>by obtain ⟨v,rfl,g⟩:=h.one;simp only [Frz];rw [show v=.bool x from g]
 |.str,x,_,h=>by obtain ⟨v,rfl,g⟩:=h.one;simp only [Frz];obtain ⟨g1,g2⟩:=(show v=strV x/\strOk x.length=true from g);exact ⟨by rw [g1],g2⟩
 |.list _,_,_,h=>by obtain ⟨v,rfl,g⟩:=h.one;exact g
 |.pair a b,x,_,h=>by
  obtain ⟨v1,v2,rfl,h1,h2⟩:=CRs.split (cs:=a.flat x.1) (cs':=b.flat x.2) h;simp only [Frz];exact ⟨v1,v2,rfl,h1.frz,h2.frz⟩
 |.rose a,x,_,h=>by
  obtain ⟨v1,v2,rfl,h1,h2⟩:=CRs.split (cs:=a.flat x.lab) (cs':=[.lst (.rose a) x.kids]) h;obtain ⟨v,rfl,g⟩:=h2.one;exact Frz.rose_iff.2 ⟨v1,[v],rfl,h1.frz,g⟩
theorem lenOk_mono{e:Ty}{m n:Nat}(h:lenOk e n=true)(hm:m<=n):lenOk e m=true:=by
 simp only [lenOk,decide_eq_true_eq] at h ⊢;exact Nat.le_trans (Nat.mul_le_mul_right _ hm) h
theorem lenOkS_mono{e:Sh}{m n:Nat}(h:lenOkS e n=true)(hm:m<=n):lenOkS e m=true:=by
 simp only [lenOkS,decide_eq_true_eq] at h ⊢;exact Nat.le_trans (Nat.mul_le_mul_right _ hm) h
def SliceR(w:World)(c:Nat)(V:Nat->Prop){α:Type}(R:List Value->α->Prop)(v:Value)(l:List α):Prop :=
 ∃ a cap,v=.slice a l.length cap/\l.length<=cap /\
  (l=[]\/∃ b p,a=some ⟨b,p,none⟩/\V b/\∀ i (h:i < l.length),∃ us,us.length=c/\CellsAt w b (p+i*c) us/\R us l[i])
theorem SliceR.imp{w:World}{c:Nat}{V V':Nat->Prop}{α:Type}{R R':List Value->α->Prop}{v:Value}{l:List α}(h:SliceR w c V R v l)(hv:∀ b,V b->V' b)(hr:∀ us x,R us x->R' us x):SliceR w c V' R' v l:=by
 obtain ⟨a,cap,h1,h2,h3⟩:=h;refine ⟨a,cap,h1,h2,h3.imp id ?_⟩;rintro ⟨b,p,h4,h5,h6⟩;refine ⟨b,p,h4,hv b h5,λi hi=>?_⟩;obtain ⟨us,g1,g2,g3⟩:=h6 i hi;exact ⟨us,g1,g2,hr _ _ g3⟩
theorem RdR.win{c:Nat}{α:Type}{xs:List α}{lok:Bool}{V:Nat->Prop}{R:List Value->α->Prop}{ℓ:Loc}(h:RdR w c xs lok V R ℓ){wd:Win}{v:Value}(hv:SlR ℓ wd v) :
  SliceR w c V R v (wd.of xs)/\(wd.of xs).length<=xs.length:=by
 obtain ⟨h1,h2,h3,h4,h0,h5⟩:=h;obtain ⟨q,k,p1,p2,p3,p4,p5⟩:=hv.slice (by omega);have p3':=p3;rw [h2] at p3';obtain ⟨w1,w2⟩:=win_of xs wd p3';refine ⟨⟨q,k,by rw [p1,w1,h2],by rw [w1,<- h2];exact p2,?_⟩,by rw [w1];omega⟩;by_cases he:wd.of xs=[]
 ·exact .inl he
 ·right;have hpos:0 < (wd.of xs).length:=List.length_pos_iff.2 he;obtain ⟨hj0,_⟩:=w2 0 hpos
  have hne:xs≠[]:=by rintro rfl;simp at hj0
  cases hb:ℓ.blk with
  |none=>rw [hb] at h5;exact absurd h5 hne
  |some b =>
   rw [hb] at h5;refine ⟨b,ℓ.base+wd.off*ℓ.sz,?_,h5.1.resolve_left hne,λi hi=>?_⟩
   ·rcases p5 with p5|p5
    ·rw [p5];exact ℓ.addr_some (h0.resolve_right hne) hb _
    ·omega
   ·obtain ⟨hj,he⟩:=w2 i hi;obtain ⟨us,g1,g2,g3⟩:=h5.2 _ hj;refine ⟨us,g1,?_,by rw [he];exact g3⟩;rw [<- h1,Nat.add_assoc,<- Nat.add_mul];exact g2
theorem ArrR.rd{c:Nat}{α:Type}{xs:List α}{lok:Bool}{R:Nat->List Value->α->(Nat->Prop)->Prop}{R':List Value->α->Prop}{V:Nat->Prop}{ℓ:Loc}(h:ArrR w c xs lok R ℓ)
  (hV:∀ b,ℓ.S b->V b) (hR:∀ i us x S,i < xs.length->xs[i]?=some x->(∀ d,S d->ℓ.S d)->R i us x S->R' us x):RdR w c xs lok V R' ℓ:=by
 obtain ⟨h1,h2,h3,h4,h0,h5⟩:=h;refine ⟨h1,h2,h3,h4,.inl h0,?_⟩
 cases hb:ℓ.blk with
 |none=>rw [hb] at h5;exact h5.1
 |some b =>
  simp only [hb] at h5 ⊢;obtain ⟨h6,h7,N,h8,h9,h10⟩:=h5;refine ⟨.inr (hV b h6),λi hi=>?_⟩;obtain ⟨us,g1,g2,g3⟩:=h10 i hi;exact ⟨us,g1,g2,hR i us _ _ hi (by simp [hi]) (λd hd=>(h8 i hi d hd).1) g3⟩
def Elems(w:World)(Z:Nat->Prop)(e:Ty)(v:Value)(l:List e.den):Prop :=
 SliceR w e.cells (λb=>b < w.heap.size) (λus x=>Frz w Z e us x) v l/\lenOk e l.length=true
theorem slice_nil(w:World)(c:Nat)(V:Nat->Prop){α:Type}(R:List Value->α->Prop):SliceR w c V R (.slice none 0 0) ([]:List α):=⟨none,0,rfl,Nat.le_refl _,.inl rfl⟩
theorem Frz.slice{e:Ty}{v:Value}{xs:List e.den}(h:Frz w Z (.list e) [v] xs):SliceR w e.cells Z (λus x=>Frz w Z e us x) v xs/\lenOk e xs.length=true:=by
 simp only [Frz] at h;obtain ⟨q,cap,e4,e5,e6,e7⟩:=h;simp only [List.cons.injEq,and_true] at e4;exact ⟨⟨q,cap,e4,e5,e7⟩,e6⟩
theorem SliceR.frz{e:Ty}{v:Value}{xs:List e.den}(h:SliceR w e.cells Z (λus x=>Frz w Z e us x) v xs)(hl:lenOk e xs.length=true):Frz w Z (.list e) [v] xs:=by
 simp only [Frz];obtain ⟨q,cap,e4,e5,e7⟩:=h;exact ⟨q,cap,by rw [e4],e5,hl,e7⟩
theorem root_lt{B:Base}{m:Mem}(hM:MemOk B m w Z μ){r:Nat}{x:Root}{ℓ:Loc}(hr:m.roots[r]?=some x)(ho:x.owns=true)(hl:μ r=some ℓ):∀ b,ℓ.S b->b < w.heap.size:=λb hb=>(hM.own r x ℓ b hr ho hl hb).2.1
theorem plain_spec{B:Base}{m:Mem}(hM:MemOk B m w Z μ){e:Ty}{c:C}{v:Value}{l:List e.den}(hc:CR w Z μ c v)(h:c.plain? m.roots e=some l):Elems w Z e v l:=by
 have hZ:∀ b,Z b->b < w.heap.size:=λb hb=>(hM.frz b hb).1;unfold C.plain? at h;split at h
 ·cases h
  rw [show v=_ from hc]
  exact ⟨slice_nil _ _ _ _,by simp [lenOk]⟩
 ·rename_i e' xs;split at h
  case h_2=>cases h
  rename_i he _;subst he;cases h
  obtain ⟨h1,h2⟩:=Frz.slice (show Frz w Z (.list e') [v] xs from hc)
  exact ⟨h1.imp hZ λ_ _ h=>h,h2⟩
 ·rename_i r wd;obtain ⟨ℓ,m1,m2⟩:=hc;split at h
  ·rename_i e' xs hr;split at h
   case h_2=>cases h
   rename_i he _;subst he;cases h;obtain ⟨ℓ',h5,h6,h7⟩:=hM.rt r _ hr (by simp);rw [m1] at h5;cases h5;obtain ⟨g1,g2⟩:=(h7.rd (V:=λb=>b < w.heap.size) (R':=λus x=>Frz w Z e' us x) (root_lt hM hr rfl m1) λi us x S _ _ _ hR=>hR).win m2;exact ⟨g1,lenOk_mono (n:=xs.length) h7.2.2.2.1 g2⟩
  ·rename_i e' xs hr;split at h
   case h_2=>cases h
   rename_i he _;subst he;cases h;obtain ⟨ℓ',h5,h6⟩:=hM.rt r _ hr (by simp);rw [m1] at h5;cases h5
   obtain ⟨g1,g2⟩:=RdR.win (show RdR _ _ _ _ _ _ _ from h6) m2
   exact ⟨g1.imp hZ λ_ _ h=>h,lenOk_mono (n:=xs.length) h6.2.2.2.1 g2⟩
  ·rename_i e' xs hr;split at h
   case h_2=>cases h
   rename_i he _;subst he;cases h;obtain ⟨ℓ',h5,h6⟩:=hM.rt r _ hr (by simp);rw [m1] at h5;cases h5
   obtain ⟨g1,g2⟩:=RdR.win (show RdR _ _ _ _ _ _ _ from h6) m2
   refine ⟨g1.imp (λb hb=>?_) λ_ _ h=>h,lenOk_mono (n:=xs.length) h6.2.2.2.1 g2⟩;rcases hb with hb|hb
   ·exact Nat.lt_of_lt_of_le (hM.lent b hb).1 hM.size
   ·exact hZ b hb
  ·cases h
 ·cases h
end
end Go.Mach

namespace Go.Mach
section
variable {B:Base}{E:Env}{st:St}{o:Oper}{a:Act}{w:World}{Z:Nat->Prop}{μ:Locs}{Φ:St->Prop}
theorem bytes_fold:∀ (ns:List Int) (r:ByteArray),ns.foldl (λr n=>r.push (UInt8.ofNat n.toNat)) r=⟨⟨r.data.toList++byts ns⟩⟩
 |[],r=>by simp [byts]
 |n::ns,r=>by
  rw [List.foldl_cons,bytes_fold ns];simp [byts,ByteArray.push]
theorem byte_cells{b p:Nat}:∀ {l:List Int},(∀ i (h:i < l.length),∃ us,us.length=(Ty.int .u8).cells/\CellsAt w b (p+i*(Ty.int .u8).cells) us/\Frz w Z (.int .u8) us l[i]) ->
  CellsAt w b p (l.map (Value.int .u8)):=by
 intro l h k hk;simp only [List.length_map] at hk;obtain ⟨us,h1,h2,h3⟩:=h k hk;simp only [Frz] at h3;obtain ⟨rfl,_⟩:=h3;have:=h2 0 (by simp);simpa [Ty.cells] using this
theorem freeze_size(W:World)(x:Addr)(k:Nat):(W.freeze x k).heap.size=W.heap.size:=by
 unfold World.freeze;split
 ·rfl
 ·simp
theorem freeze_ne(W:World){x:Addr}{k b:Nat}(h:x.block≠b):(W.freeze x k).heap[b]?=W.heap[b]?:=by
 unfold World.freeze;split
 ·rfl
 ·simp [Array.getElem?_modify,h]
theorem freeze_io{D:Prop}(W:World)(x:Addr)(k:Nat):Io D W (W.freeze x k):=by
 unfold World.freeze;split<;>exact Io.same rfl rfl rfl (.inl rfl)
theorem freeze_at(W:World){b:Nat}{c:Array Value}{T:TypeId}(h:W.heap[b]?=some (.cells c T)):(W.freeze ⟨b,c.size,none⟩ 1).heap[b]?=some (.cells c T (c.size,c.size+1)):=by
 unfold World.freeze;simp [Array.getElem?_modify,h]
theorem str_bytes_run{P:Program}(el:TypeId)(s:List UInt8) :
  ∃ w' cap c,(Conv.stringToBytes el ⟨⟨s⟩⟩).run P w=.ok (.slice (some ⟨w.heap.size,0,none⟩) s.length cap) w'/\s.length<=cap/\w'.heap.size=w.heap.size+1 /\
   (∀ b,b < w.heap.size->w'.heap[b]?=w.heap[b]?)/\w'.heap[w.heap.size]?=some (.cells c el (c.size,c.size+1))/\c.size=cap/\(∀ i (h:i < s.length),c[i]?=some (.int .u8 (s[i].toNat:Int)))/\Io B.g.dr w w':=by
 let cap:=(Question.appendCap s.length 0 el).cut (w.tape w.drawn (Question.appendCap s.length 0 el))
 have hcap:s.length<=cap:=Nat.le_add_right _ _
 let c:Array Value:=(s.toArray.map λb=>Value.int .u8 b.toNat)++Array.replicate (cap-s.length) (.int .u8 0)
 have hc:c.size=cap:=by simp [c];omega
 let W1:World:=w.drew.alloc (.cells c el)
 have hs:W1.shape? w.heap.size=some (el,c.size):=by
  have h1:W1.heap[w.heap.size]?=some (.cells c el):=alloc_new w.drew _;simp only [World.shape?,h1]
 refine ⟨W1.freeze ⟨w.heap.size,c.size,none⟩ 1,cap,c,?_,hcap,?_,?_,?_,hc,?_,Io.trans (w':=W1) (Io.same rfl rfl rfl (.inr rfl)) (freeze_io _ _ _)⟩
 ·have h1:(choose (.appendCap s.length 0 el)).run P w=.ok cap w.drew:=by simp [choose,Sem.run,Question.forced,cap]
  have h2:(newRow el c).run P w.drew=.ok ⟨w.heap.size,0,none⟩ W1:=rfl
  have h3:(markStringish ⟨w.heap.size,0,none⟩).run P W1=.ok () (W1.freeze ⟨w.heap.size,c.size,none⟩ 1):=by
   simp [markStringish,hs]
  have h4:(⟨⟨s⟩⟩:ByteArray).size=s.length:=rfl;simp only [Conv.stringToBytes,Sem.run_bind,h4,h1,Result.andThen_ok];show Result.andThen ((newRow el c).run P w.drew) _=_;simp only [h2,Result.andThen_ok,h3,Sem.run_bind,Sem.run_pure]
 ·rw [freeze_size];exact alloc_size w.drew _
 ·intro b hb;rw [freeze_ne _ (by simp;omega)];exact alloc_old w.drew _ hb
 ·exact freeze_at _ (alloc_new w.drew _)
 ·intro i hi;simp only [c];rw [Array.getElem?_append_left (by simpa using hi)];simp [hi]
theorem MemOk.change{m:Mem}(h:MemOk B m w Z μ){r:Nat}{x y:Root}{ℓ:Loc}(hr:m.roots[r]?=some x)(hox:x.owns=true)(hoy:y.owns=true)(hμ:μ r=some ℓ){w':World}
  (hw:∀ b,¬ ℓ.S b->w'.heap[b]?=w.heap[b]?) (hsz:w'.heap.size=w.heap.size) (hok:RootOk w' Z B.Y μ ℓ y) (hio:Io B.g.dr w w':=by first|exact Io.same rfl rfl rfl (.inl rfl)|exact Io.same rfl rfl rfl (.inr rfl)):MemOk B (m.set r y) w' Z μ:=by
 have hlt:r < m.roots.length:=(List.getElem?_eq_some_iff.1 hr).1;refine h.step (λs=>s=r) ?_ ?_ (by omega) (ExtL.refl μ) (λ_ h=>h) (λ_ h=>.inl h) ?_ ?_ ?_ (by simp [Mem.set]) hio
 ·intro s hs;exact ⟨by simp [Mem.set,List.getElem?_set,Ne.symm hs],rfl⟩
 ·intro b _ hb;refine hw b λhS=>hb r rfl ⟨x,ℓ,hr,hox,hμ,hS⟩
 ·rintro s z rfl hz _;simp [Mem.set,List.getElem?_set,hlt] at hz;subst hz;refine ⟨ℓ,hμ,hok,λ_ b hb=>?_⟩;obtain ⟨g1,g2,_⟩:=h.own s x ℓ b hr hox hμ hb;exact ⟨by omega,g1,.inl ⟨s,rfl,x,ℓ,hr,hox,hμ,hb⟩⟩
 ·rintro s t rfl rfl hne;exact absurd rfl hne
 ·rintro s rfl hge;simp [Mem.set] at hge;omega
theorem mark_run{P:Program}{b n o:Nat}(h:BlockOk w b n):∃ w',(markStringish ⟨b,o,none⟩).run P w=.ok () w'/\BlockOk w' b n/\(∀ c,c≠b->w'.heap[c]?=w.heap[c]?)/\w'.heap.size=w.heap.size/\(∀ p us,CellsAt w b p us->CellsAt w' b p us)/\Io B.g.dr w w':=by
 obtain ⟨vs,T,fz,h1,h2,h3,h4⟩:=h
 have hs:w.shape? b=some (T,vs.size):=by simp only [World.shape?,h1]
 have ha:(w.freeze ⟨b,vs.size,none⟩ 1).heap[b]?=some (.cells vs T (if fz.1 == fz.2 then (vs.size,vs.size+1) else (min fz.1 vs.size,max fz.2 (vs.size+1)))):=by
  unfold World.freeze;obtain ⟨lo,hi⟩:=fz;simp [Array.getElem?_modify,h1]
 refine ⟨w.freeze ⟨b,vs.size,none⟩ 1,by simp [markStringish,hs],⟨vs,T,_,ha,h2,?_,λk hk=>?_⟩,λc hc=>freeze_ne _ (Ne.symm hc),freeze_size _ _ _,λp us hu k hk=>?_,freeze_io _ _ _⟩
 ·split
  ·exact Nat.le_succ _
  ·show min _ _<=max _ _;omega
 ·split
  ·simp;omega
  ·rename_i hne
   have hne:fz.1≠fz.2:=by simpa using hne
   have h5:¬ fz.1 < vs.size:=λhl=>by
    have:=h4 fz.1 hl;simp at this;omega
   simp;omega
 ·have:=hu k hk;simp only [World.cell?,h1] at this;simp only [World.cell?,ha];exact this
theorem sound_mark(hR:Rel B st a w Z μ)(n:Nat){src dst:TypeId}{x:Operand}{c:C}{b:Bool}(hb:b=(src == dst && bytesT E.P src))(ho:o.op=.convert src dst x)(hX:AR w Z μ (.c c) (a.eval x))(h:(markK b c st.mem λv m=>Res.ok (st.with o.dst v m)).sat Φ) :
  o.wp E.P a w (Nxt B st n Z μ Φ) (λ_ _ _=>False):=by
 unfold markK at h;split at h
 case h_2=>exact h.elim
 rename_i r;split at h
 case h_2=>exact h.elim
 rename_i y xs hr;obtain ⟨e1,e2⟩:=Bool.and_eq_true_iff.1 hb.symm
 have e1:src=dst:=by simpa using e1
 subst e1;unfold bytesT at e2;split at e2
 case h_2=>cases e2
 rename_i el he;split at e2
 case h_2=>cases e2
 rename_i hel;obtain ⟨ℓ,m1,m2⟩:=hX;obtain ⟨ℓ',h5,h6,h7⟩:=hR.mem.rt r _ hr (by simp);rw [m1] at h5;cases h5;obtain ⟨q1,q2,q3,q4,q0,q5⟩:=h7
 cases hbk:ℓ.blk with
 |none=>rw [hbk] at q5;cases q5.1
 |some b =>
  rw [hbk] at q5;obtain ⟨k1,k2,N,k3,k4,k5⟩:=q5;have m2:a.eval x=.slice (ℓ.addr 0) ℓ.len ℓ.cap:=m2;rw [Loc.addr_some q0 hbk] at m2;obtain ⟨w',g1,g2,g3,g4,g5,g6⟩:=mark_run (P:=E.P) (o:=ℓ.base+0*ℓ.sz) k2;have hZb:¬ Z b:=(hR.mem.own r _ ℓ b hr rfl m1 k1).1;have hSame:SameOn Z w w':=λd hd=>g3 d λe=>hZb (e▸hd)
  have hm:MemOk B (st.mem.set r (.arr (.frz (.int .u8)) (y::xs) none)) w' Z μ:=by
   refine hR.mem.change (hio:=g6) hr rfl rfl m1 (λd hd=>g3 d λe=>hd (e▸k1)) g4 ⟨h6,q1,q2,q3,q4,q0,?_⟩;rw [hbk]
   exact ⟨k1,g2,N,k3,k4,λi hi=>by
    obtain ⟨us,u1,u2,u3⟩:=k5 i hi
    exact ⟨us,u1,g5 _ _ u2,u3⟩⟩
  have hrun:(execOp a.eval o).run E.P w=.ok (.value (a.eval x)) w':=by
   simp only [execOp,ho,m2]
   have g0:ℓ.base+0*ℓ.sz=ℓ.base:=by omega
   rw [g0] at g1;simp [convert,run_underlying he,run_underlying hel,g1]
  refine wp_of_value hrun ⟨_,Z,μ,hR.put hm hSame (λ_ h=>h) (ExtL.refl μ) o.dst (x:=.c (.ref r .full)) ⟨ℓ,m1,?_⟩,h,?_,?_,λ_ _ h=>h,λ_ h=>h,ExtL.refl μ⟩
  ·rw [m2,<- Loc.addr_some q0 hbk];rfl
  ·cases o.dst<;>simp [St.with,St.put,Mem.set]
  ·cases o.dst<;>rfl
theorem sound_convert(hR:Rel B st a w Z μ){n:Nat}(hF:Fresh st n μ){src dst:TypeId}(hn:bytesT E.P dst=true->1<=n){x:Operand}(ho:o.op=.convert src dst x)(h:(step E st o Res.ok).sat Φ) :
  o.wp E.P a w (Nxt B st n Z μ Φ) (λ_ _ _=>False):=by
 simp only [step,stepV,ho] at h;have hX:=hR.val x;generalize hqx:val st x=X at h hX;split at h
 ·rename_i k m hs;obtain ⟨d,hd⟩:=Option.isSome_iff_exists.1 hs
  obtain ⟨h1,h2⟩:=(show a.eval x=.int k m/\_ from hX)
  split at h
  case h_2=>exact h.elim
  rename_i k' hk;refine pure_sound hR n (x:=.c (.int k' (k'.wrap m))) (v:=.int k' (k'.wrap m)) ⟨rfl,inRange_wrap _ _⟩ ?_ h;simp only [execOp,ho,h1];simp [convert,run_underlying hd,run_underlying hk,Conv.intToInt]
 ·rename_i s hs;obtain ⟨d,hd⟩:=Option.isSome_iff_exists.1 hs
  obtain ⟨h1,h2⟩:=(show a.eval x=strV s/\strOk s.length=true from hX)
  split at h
  ·rename_i hk;refine pure_sound hR n (x:=.c (.str s)) (v:=strV s) ⟨rfl,h2⟩ ?_ h;simp only [execOp,ho,h1,strV];simp [convert,run_underlying hd,run_underlying hk]
  ·rename_i el hk;split at h
   case h_2=>exact h.elim
   rename_i hel;obtain ⟨w',cap,c,r1,r2,r3,r4,r5,r6,r7,r8⟩:=str_bytes_run (w:=w) (P:=E.P) el s;have hn':=hn (by simp only [bytesT,hk,hel]);refine new_sound hR hF hn' (w':=w') (v:=.slice (some ⟨w.heap.size,0,none⟩) s.length cap) (ℓ:=⟨some w.heap.size,0,1,s.length,cap,λb=>b=w.heap.size,none⟩) ?_ r4 (by omega) (by rintro b rfl;omega) ?_ ?_ h r8
   ·simp only [execOp,ho,h1,strV];simp [convert,run_underlying hd,run_underlying hk,run_underlying hel,r1]
   ·refine ⟨by simp,rfl,by simp [nums],by simpa [nums] using r2,?_,?_⟩
    ·simpa [lenOkS,nums,Sh.minB,Ty.minB,IntKind.minB,strOk] using h2
    ·refine ⟨rfl,rfl,⟨c,el,_,r5,by simp [r6],Nat.le_succ _,λk hk=>by simp;omega⟩,λ_ _=>False,λ_ _ _ h=>h.elim,λ_ _ _ _ _ _ h=>h.elim,λi hi=>?_⟩
     have hi':i < s.length:=by simpa [nums] using hi
     refine ⟨[.int .u8 (s[i].toNat:Int)],rfl,?_,?_⟩
     ·intro k hk
      have:k=0:=by simpa using hk
      subst this;simp only [World.cell?,r5];simp [r7 i hi']
     ·show Frz w' Z (.int .u8) _ _;simp only [Frz];refine ⟨by simp [nums],?_⟩;have:=s[i].toNat_lt;simp only [nums,List.getElem_map];exact inRange_of (by have:IntKind.min .u8=0:=(by decide);omega) (by have:IntKind.max .u8=255:=(by decide);omega)
   ·exact ⟨_,Locs.set_at _ _ _,by simp [SlR,Loc.addr]⟩
  ·exact h.elim
 ·rename_i c hs _ _;split at h
  case h_2=>exact sound_mark hR n rfl ho hX h
  rename_i l hb hk hl;obtain ⟨⟨q,cap,p1,p2,p4⟩,p3⟩:=plain_spec hR.mem hX hl;unfold bytesT at hb;split at hb
  case h_2=>cases hb
  rename_i el he;split at hb
  case h_2=>cases hb
  rename_i hel
  have hout:(convert src dst (a.eval x)).run E.P w=.ok (strV (byts l)) w:=by
   rw [p1];rcases p4 with rfl|⟨b,p,rfl,hlt,p5⟩
   ·cases q with
    |none=>simp [convert,run_underlying he,run_underlying hk,run_underlying hel,Conv.bytesToString,strV,byts];rfl
    |some ad =>
     have:=run_bytesToString (P:=E.P) w ad 0 cap [] (by simp [loadCells,loadCellsFrom]);simp [convert,run_underlying he,run_underlying hk,run_underlying hel,this,strV,byts];rfl
   ·have h3:=run_loadCells_list (P:=E.P) w ⟨b,p,none⟩ (l.map (Value.int .u8)) (cellsAt_get (byte_cells p5));rw [List.length_map] at h3;have:=run_bytesToString (P:=E.P) w ⟨b,p,none⟩ l.length cap l h3;rw [bytes_fold] at this;simp [convert,run_underlying he,run_underlying hk,run_underlying hel,this,strV]
  refine pure_sound hR n (x:=.c (.str (byts l))) (v:=strV (byts l)) ⟨rfl,?_⟩ ?_ h
  ·simp only [strOk,byts,List.length_map];simp only [lenOk] at p3;simpa [Ty.minB,IntKind.minB] using p3
  ·simp only [execOp,ho];simp [hout]
 ·exact h.elim
end
end Go.Mach

namespace Go.Mach
section
variable {w w':World}{Z Z':Nat->Prop}{μ:Locs}
theorem rdBy_spec{lk:(e:Ty)->C->Option (List e.den)}:∀ (t:Ty){cs rest:List C}{us:List Value}{x:t.den}
  (_:∀ (e:Ty) (c:C) (v:Value) (xs:List e.den),c∈cs->CR w Z μ c v->lk e c=some xs->Frz w' Z' (.list e) [v] xs),CRs w Z μ cs us->t.rdBy lk cs=some (x,rest) ->
  ∃ pre us1 us2,us=us1++us2/\cs=pre++rest/\pre.length=us1.length/\Frz w' Z' t us1 x/\CRs w Z μ rest us2
 |.unit,cs,rest,us,x,H,hc,h=>by
  simp only [Ty.rdBy,Option.some.injEq,Prod.mk.injEq] at h;obtain ⟨_,rfl⟩:=h;exact ⟨[],[],us,rfl,rfl,rfl,by simp only [Frz],hc⟩
 |.int k,cs,rest,us,x,H,hc,h=>by
  match cs,h with
  |.int j n::cs,h =>
   simp only [Ty.rdBy] at h;split at h
   case h_2=>cases h
   rename_i hs _;have:=hs.down;subst this;cases h;obtain ⟨v1,us2,rfl,h1,h2⟩:=CRs.split (cs:=[_]) (cs':=rest) hc;obtain ⟨v,rfl,g⟩:=h1.one
   obtain ⟨g1,g2⟩:=(show v=.int _ _/\_ from g)
   exact ⟨[_],[v],us2,rfl,rfl,rfl,by simp only [Frz];exact ⟨by rw [g1],g2⟩,h2⟩
 |.bool,cs,rest,us,x,H,hc,h=>by
  match cs,h with
  |.bool b::cs,h =>
   simp only [Ty.rdBy,Option.some.injEq,Prod.mk.injEq] at h;obtain ⟨rfl,rfl⟩:=h;obtain ⟨v1,us2,rfl,h1,h2⟩:=CRs.split (cs:=[_]) (cs':=cs) hc;obtain ⟨v,rfl,g⟩:=h1.one
   exact ⟨[_],[v],us2,rfl,rfl,rfl,by simp only [Frz];rw [show v=.bool b from g],h2⟩
 |.str,cs,rest,us,x,H,hc,h=>by
  match cs,h with
  |.str s::cs,h =>
   simp only [Ty.rdBy,Option.some.injEq,Prod.mk.injEq] at h;obtain ⟨rfl,rfl⟩:=h;obtain ⟨v1,us2,rfl,h1,h2⟩:=CRs.split (cs:=[_]) (cs':=cs) hc;obtain ⟨v,rfl,g⟩:=h1.one
   obtain ⟨g1,g2⟩:=(show v=strV s/\_ from g)
   exact ⟨[_],[v],us2,rfl,rfl,rfl,by simp only [Frz];exact ⟨by rw [g1],g2⟩,h2⟩
 |.list e,cs,rest,us,x,H,hc,h=>by
  match cs,h with
  |c::cs,h =>
   simp only [Ty.rdBy] at h;split at h
   case h_2=>cases h
   rename_i xs hl;cases h;obtain ⟨v1,us2,rfl,h1,h2⟩:=CRs.split (cs:=[_]) (cs':=rest) hc;obtain ⟨v,rfl,g⟩:=h1.one;exact ⟨[_],[v],us2,rfl,rfl,rfl,H e c v _ (by simp) g hl,h2⟩
 |.pair a b,cs,rest,us,x,H,hc,h=>by
  simp only [Ty.rdBy] at h;split at h
  case h_2=>cases h
  rename_i y cs1 ha;split at h
  case h_2=>cases h
  rename_i z cs2 hb;cases h;obtain ⟨p1,us1,us2,rfl,rfl,e1,f1,c1⟩:=rdBy_spec a H hc ha;obtain ⟨p2,us3,us4,rfl,rfl,e2,f2,c2⟩:=rdBy_spec b (λe c v xs hm=>H e c v xs (by simp at hm ⊢;right;exact hm)) c1 hb;exact ⟨p1++p2,us1++us3,us4,by simp,by simp,by simp [e1,e2],by simp only [Frz];exact ⟨us1,us3,rfl,f1,f2⟩,c2⟩
 |.rose a,cs,rest,us,x,H,hc,h=>by
  simp only [Ty.rdBy] at h;split at h
  case h_2=>cases h
  rename_i y c1 cs1 ha;split at h
  case h_2=>cases h
  rename_i xs hl;cases h;obtain ⟨p1,us1,us2,rfl,rfl,e1,f1,c1'⟩:=rdBy_spec a H hc ha;obtain ⟨v1,us4,rfl,h1,h2⟩:=CRs.split (cs:=[_]) (cs':=rest) c1';obtain ⟨v,rfl,g⟩:=h1.one;exact ⟨p1++[c1],us1++[v],us4,by simp,by simp,by simp [e1],Frz.rose_iff.2 ⟨us1,[v],rfl,f1,H _ _ _ _ (by simp) g hl⟩,h2⟩
theorem zlist_spec{B:Base}{m:Mem}(hM:MemOk B m w Z μ){e:Ty}{c:C}{v:Value}{xs:List e.den}(hc:CR w Z μ c v)(h:c.zlist? m.roots e=some xs):Frz w Z (.list e) [v] xs:=by
 unfold C.zlist? at h;split at h
 ·cases h;simp only [Frz]
  exact ⟨none,0,by rw [show v=_ from hc];rfl,by simp,by simp [lenOk],by simp⟩
 ·split at h
  case h_2=>cases h
  rename_i he _;subst he;cases h;exact hc
 ·rename_i r wd;obtain ⟨ℓ,m1,m2⟩:=hc;split at h
  case h_2=>cases h
  rename_i e' xs hr;split at h
  case h_2=>cases h
  rename_i he _;subst he;cases h;obtain ⟨ℓ',h5,h6⟩:=hM.rt r _ hr (by simp);rw [m1] at h5;cases h5
  obtain ⟨g1,g2⟩:=RdR.win (show RdR _ _ _ _ _ _ _ from h6) m2
  exact g1.frz (lenOk_mono (n:=xs.length) h6.2.2.2.1 g2)
 ·cases h
theorem list_none{e:Ty}{c:C}{v:Value}{xs:List e.den}(hc:CR w Z μ c v)(h:c.zlist? [] e=some xs):Frz w Z (.list e) [v] xs:=by
 unfold C.zlist? at h;split at h
 ·cases h;simp only [Frz]
  exact ⟨none,0,by rw [show v=_ from hc];rfl,by simp,by simp [lenOk],by simp⟩
 ·split at h
  case h_2=>cases h
  rename_i he _;subst he;cases h;exact hc
 ·simp at h
 ·cases h
end
section
variable {B:Base}{E:Env}{st:St}{o:Oper}{a:Act}{w:World}{Z:Nat->Prop}{μ:Locs}{Φ:St->Prop}
theorem made_at{T:TypeId}{us:List Value}(hne:us≠[]){n i:Nat}(hi:i < n):CellsAt (w.alloc (.cells (madeCells us.toArray (n*us.length)) T)) w.heap.size (i*us.length) us:=by
 intro k hk;have hL:0 < us.length:=List.length_pos_iff.2 hne
 have hlt:i*us.length+k < n*us.length:=by
  have:(i+1)*us.length<=n*us.length:=Nat.mul_le_mul_right _ hi;rw [Nat.add_mul] at this;omega
 simp only [World.cell?,alloc_new];simp only [madeCells];rw [if_neg (by simp)];rw [Array.getElem?_map,Array.getElem?_range];simp [hlt,Nat.mul_add_mod',Nat.mod_eq_of_lt hk,hk]
theorem sound_makeSlice(hR:Rel B st a w Z μ){n:Nat}(hF:Fresh st n μ)(hn:1<=n){T:TypeId}{l c:Operand}(ho:o.op=.makeSlice T l c)(h:(step E st o Res.ok).sat Φ) :
  o.wp E.P a w (Nxt B st n Z μ Φ) (λ_ _ _=>False):=by
 simp only [step,stepV,ho] at h;have hL:=hR.val l;have hC:=hR.val c;split at h
 case h_2=>exact h.elim
 rename_i el k n' k' m' hT hl hc;split at h
 case h_2=>exact h.elim
 rename_i e z he hz;split at h
 case h_2=>exact h.elim
 rename_i x hrd hety;obtain ⟨hb,h⟩:=sat_need h;rw [hl] at hL;rw [hc] at hC;obtain ⟨l1,l2⟩:=hL;obtain ⟨c1,c2⟩:=hC;simp [ile,roomFor,etyOk,Sh.cells,Sh.minB] at hb hety;unfold elemOf at hT;split at hT
 case h_2=>cases hT
 rename_i el' hT';cases hT;unfold zeroC at hz;split at hz
 case h_2=>cases hz
 rename_i i hi;split at hz
 case h_2=>cases hz
 rename_i zv hzv;cases hz;obtain ⟨pre,us1,us2,e1,e2,e3,e4,e5⟩:=rdBy_spec (w:=w) (Z:=Z) (μ:=μ) e (λe c v xs _ hc h=>list_none hc h) (CRs_map zv.cells.toList) hrd;have h5:=e5.1;simp at h5;have h5':us2=[]:=List.eq_nil_of_length_eq_zero (by simpa using h5.symm);subst h5';simp only [List.append_nil] at e1;have hlen:=e4.length
 have hsz:i.size=e.cells:=by rw [hety.1];simp [Program.cellsOf,hi]
 have hby:E.P.bytesOf el=i.bytes:=by simp [Program.bytesOf,hi]
 rw [hby] at hb hety;obtain ⟨b1,b2,b3⟩:=hb;obtain ⟨t1,t2,t3⟩:=hety;replace t3:e.minB<=i.bytes:=of_decide_eq_true t3.1
 have hby1:1<=i.bytes:=by have:=cells_le_minB e;omega
 have hm:m'.toNat<=2^47:=Nat.le_trans (Nat.le_mul_of_pos_right _ hby1) b3
 have hm0:(m'.toNat:Int)=m':=by omega
 have hbb:(i.bytes:Int)*m'<=281474976710656:=by
  have e:(i.bytes:Int)*m'=((m'.toNat*i.bytes:Nat):Int):=by rw [Int.natCast_mul,hm0,Int.mul_comm]
  rw [e];omega
 have hrun:=run_make (P:=E.P) w T el i zv hT' hi hzv k k' n' m' b1 b2 hbb (by omega)
 have hz:zv.cells=us1.toArray:=by rw [<- e1]
 rw [hz,hsz,<- hlen] at hrun
 have hne:us1≠[]:=by rintro rfl;simp at hlen;omega
 have hnm:n'.toNat<=m'.toNat:=by omega
 refine new_sound hR hF hn (v:=.slice (some ⟨w.heap.size,0,none⟩) n'.toNat m'.toNat) (ℓ:=⟨some w.heap.size,0,e.cells,n'.toNat,m'.toNat,λb=>b=w.heap.size,none⟩)
  (w':=w.alloc (.cells (madeCells us1.toArray (m'.toNat*us1.length)) el)) ?_ (λb hb=>alloc_old _ _ hb) (by rw [alloc_size];omega) (by rintro b rfl;rw [alloc_size];omega) ?_ ?_ h
 ·simp only [execOp,ho,l1,c1];simp [hrun]
 ·refine ⟨by simp,rfl,by simp,by simpa using hnm,?_,?_⟩
  ·simp only [lenOkS,Sh.minB,List.length_replicate,decide_eq_true_eq]
   calc n'.toNat*e.minB<=m'.toNat*i.bytes:=Nat.mul_le_mul hnm t3
    _<=2^47:=b3
  ·refine ⟨rfl,rfl,⟨_,el,_,alloc_new _ _,by simp [size_madeCells,hlen],Nat.le_refl _,λk _=>by simp⟩,λ_ _=>False,λ_ _ _ h=>h.elim,λ_ _ _ _ _ _ h=>h.elim,λj hj=>?_⟩
   have hj':j < n'.toNat:=by simpa using hj
   refine ⟨us1,hlen,?_,?_⟩
   ·have:=made_at (w:=w) (T:=el) hne (n:=m'.toNat) (i:=j) (by omega);simp only [Nat.zero_add];rw [<- hlen];exact this
   ·show Frz _ Z e us1 _;rw [List.getElem_replicate];exact e4.same (λb hb=>alloc_old _ _ (hR.mem.frz b hb).1) (λ_ h=>h)
 ·exact ⟨_,Locs.set_at _ _ _,by simp [SlR,Loc.addr]⟩
end
end Go.Mach

namespace Go.Mach
section
variable {B:Base}{E:Env}{st:St}{o:Oper}{a:Act}{w:World}{Z:Nat->Prop}{μ:Locs}{Φ:St->Prop}
theorem cap_ok{x:AV}{v:Value}(h:AR w Z μ x v)(hx:x.capOk=true):CapR w Z μ x.cap v:=by
 unfold AV.capOk at hx;split at hx
 ·exact h
 ·exact h
 ·cases hx
theorem sound_makeFunc(hR:Rel B st a w Z μ)(n:Nat){f:FuncId}{first caps:Array Operand}(ho:o.op=.makeFunc (.func f) first caps)(h:(step E st o Res.ok).sat Φ) :
  o.wp E.P a w (Nxt B st n Z μ Φ) (λ_ _ _=>False):=by
 simp only [step,stepV,ho] at h;split at h
 case h_2=>exact h.elim
 rename_i hb;simp only [Bool.and_eq_true,List.all_eq_true] at hb;obtain ⟨h1,h2⟩:=hb
 have h1':first=#[]:=by simpa using h1
 subst h1';refine pure_sound hR n (x:=.c (.fn f (caps.toList.map λx=>(val st x).cap))) (v:=.func (.func f) #[] (caps.toList.map a.eval).toArray) ⟨_,rfl,by simp,λk hk hk'=>?_⟩ ?_ h
 ·simp only [List.getElem_map];exact cap_ok (hR.val _) (h2 _ (List.getElem_mem _))
 ·simp only [execOp,ho];simp [Instr.makeFunc];rw [<- Array.toList_map,Array.toArray_toList]
theorem run_storeVar{P:Program}{t:TypeId}{b p n:Nat}{v:Value}{ws:List Value}(hk:kindOk P t=true)(hv:v.cells=ws.toArray)(hl:ws.length=P.cellsOf t)(hb:BlockOk w b n)(hn:p+ws.length<=n)(h1:∀ u∈ws,u.oneCell'=true) :
  (storeVar t ⟨b,p,none⟩ v).run P w=.ok () (w.setCells b p ws):=by
 have hs:=run_size (w:=w) (kind_spec hk).1;simp [storeVar,hs,hv,hl,run_store_cells hb hn h1]
theorem CRs.one_cells{cs:List C}{us:List Value}(h:CRs w Z μ cs us)(hu:(cs.any C.isUndef)=false):∀ u∈us,u.oneCell'=true:=by
 intro u hm;obtain ⟨k,hk,rfl⟩:=List.getElem_of_mem hm;have hk':k < cs.length:=h.1▸hk;refine (CR.one (h.2 k hk' hk) ?_).2;have:=List.any_eq_false.1 hu cs[k] (List.getElem_mem _);simpa using this
theorem store_box(hR:Rel B st a w Z μ)(n:Nat){T:TypeId}{x y:Operand}{r off:Nat}{cs cs':List C}(ho:o.op=.store T x y)(hx:val st x=.c (.ptr r off))(hr:st.mem.roots[r]?=some (.box cs))
  (hk:kindOk E.P T=true) (hreal:(val st y).real=true) (hlen:(val st y).cells.length=E.P.cellsOf T) (hu:((val st y).cells.any C.isUndef)=false)
  (hs:splice cs off (val st y).cells=some cs') (hΦ:Φ (st.with o.dst (.c .undef) (st.mem.set r (.box cs')))) :
  o.wp E.P a w (Nxt B st n Z μ Φ) (λ_ _ _=>False):=by
 have hX:=hR.val x;rw [hx] at hX;obtain ⟨ℓ,b,m1,m2,m3⟩:=hX;obtain ⟨ws,v1,v2⟩:=(hR.val y).real hreal;obtain ⟨ℓ',h5,b',h6,h7,h8,us,h9,h10⟩:=hR.mem.rt r _ hr (by simp);rw [m1] at h5;cases h5;rw [m2] at h6;cases h6;obtain ⟨s1,rfl⟩:=splice_ok hs;have hws:ws.length=(val st y).cells.length:=v2.1.symm;have hZb:¬ Z b:=(hR.mem.own r _ ℓ b hr rfl m1 h7).1;have hrun:=run_storeVar (P:=E.P) (p:=ℓ.base+off) hk v1 (by omega) h8 (by omega) (v2.one_cells hu);have hSame:SameOn Z w (w.setCells b (ℓ.base+off) ws):=λc hc=>setCells_other b (λe=>hZb (e▸hc)) _ _ _
 have hm:MemOk B (st.mem.set r (.box (cs.take off++((val st y).cells++cs.drop (off+(val st y).cells.length))))) (w.setCells b (ℓ.base+off) ws) Z μ:=by
  refine hR.mem.change (hio:=setCells_io _ _ _ _) hr rfl rfl m1 (λc hc=>setCells_other b (λ(e:c=b)=>hc (by rw [e];exact h7)) _ _ _) (setCells_size _ _ _ _) ?_;refine ⟨b,m2,h7,?_,_,setCells_in h8 (by rw [h10.1];exact Nat.le_refl _) (by rw [<- h10.1];omega) h9,?_⟩
  ·refine setCells_block b _ _ _ ?_
   have e:(cs.take off++((val st y).cells++cs.drop (off+(val st y).cells.length))).length=cs.length:=by simp;omega
   rw [e];exact h8
  ·exact (h10.splice v2 off).mono hSame (λ_ h=>h) (ExtL.refl μ)
 have hrun':(execOp a.eval o).run E.P w=.ok .skip (w.setCells b (ℓ.base+off) ws):=by
  simp only [execOp,ho,m3];simp [Instr.storeAt,Instr.sureAddr,hrun]
 refine wp_of_skip hrun' ⟨_,Z,μ,hR.put hm hSame (λ_ h=>h) (ExtL.refl μ) o.dst (AR.undef _),hΦ,?_,?_,λ_ _ h=>h,λ_ h=>h,ExtL.refl μ⟩
 ·cases o.dst<;>simp [St.with,St.put,Mem.set]
 ·cases o.dst<;>rfl
end
end Go.Mach

namespace Go.Mach
section
variable {B:Base}{E:Env}{st:St}{o:Oper}{a:Act}{w:World}{Z:Nat->Prop}{μ:Locs}{Φ:St->Prop}
theorem mul_apart{i j sz:Nat}(h:i≠j):i*sz+sz<=j*sz\/j*sz+sz<=i*sz:=by
 rcases Nat.lt_or_gt_of_ne h with h|h
 ·left;have:=Nat.mul_le_mul_right sz (show i+1<=j from h);rw [Nat.add_mul] at this;omega
 ·right;have:=Nat.mul_le_mul_right sz (show j+1<=i from h);rw [Nat.add_mul] at this;omega
theorem mul_last{i n c sz:Nat}(h:i < n)(hc:n<=c):i*sz+sz<=c*sz:=by
 have:=Nat.mul_le_mul_right sz (show i+1<=c from Nat.le_trans h hc);rw [Nat.add_mul] at this;omega
theorem CellsAt.unique{b p:Nat}{us vs:List Value}(h:CellsAt w b p us)(h':CellsAt w b p vs)(hl:us.length=vs.length):us=vs:=by
 refine List.ext_getElem hl λk h1 h2=>?_;have a1:=h k h1;have a2:=h' k h2;rw [a1] at a2;simpa using a2
theorem ArrR.write{c:Nat}{α:Type}{xs:List α}{lok:Bool}{R R':Nat->List Value->α->(Nat->Prop)->Prop}{ℓ:Loc}(h:ArrR w c xs lok R ℓ){b i off:Nat}{ws:List Value}{xs':List α}(hb:ℓ.blk=some b)(hi:i < xs.length)
  (hl:xs'.length=xs.length) (hin:off+ws.length<=c)
  (hat:∀ us S (hi':i < xs'.length),us.length=c->CellsAt w b (ℓ.base+i*ℓ.sz) us->R i us xs[i] S->(∀ d,S d->ℓ.S d/\d≠b)->R' i (us.take off++(ws++us.drop (off+ws.length))) xs'[i] S)
  (hoth:∀ j us S (hj:j < xs.length) (hj':j < xs'.length),j≠i->R j us xs[j] S->(∀ d,S d->ℓ.S d/\d≠b)->R' j us xs'[j] S) :
  ArrR (w.setCells b (ℓ.base+i*ℓ.sz+off) ws) c xs' lok R' ℓ:=by
 obtain ⟨h1,h2,h3,h4,h0,h5⟩:=h;refine ⟨h1,by rw [hl,h2],by rw [hl];exact h3,h4,h0,?_⟩;rw [hb] at h5 ⊢;obtain ⟨h6,h7,N,h8,h9,h10⟩:=h5;have hcap:=mul_last (sz:=ℓ.sz) hi h3;refine ⟨h6,setCells_block b _ _ _ h7,N,λj hj=>h8 j (hl▸hj),λj k hj hk=>h9 j k (hl▸hj) (hl▸hk),λj hj=>?_⟩;by_cases hij:j=i
 ·subst hij;obtain ⟨us,g1,g2,g3⟩:=h10 j hi;refine ⟨_,?_,setCells_in h7 (by rw [g1,<- h1];omega) (by omega) g2,hat us _ hj g1 g2 g3 (h8 j hi)⟩;simp;omega
 ·obtain ⟨us,g1,g2,g3⟩:=h10 j (hl▸hj);refine ⟨us,g1,setCells_off ?_ g2,hoth j us _ _ hj hij g3 (h8 j (hl▸hj))⟩;have:=mul_apart (sz:=ℓ.sz) hij;omega
theorem store_foc(hR:Rel B st a w Z μ)(n:Nat){T:TypeId}{x y:Operand}{r i off:Nat}{s:Sh}{xs:List s.den}{f:Foc}{cs':List C}(ho:o.op=.store T x y)(hx:val st x=.c (.eptr r i off))
  (hr:st.mem.roots[r]?=some (.arr s xs (some f))) (hfi:f.i=i)
  (hk:kindOk E.P T=true) (hreal:(val st y).real=true) (hlen:(val st y).cells.length=E.P.cellsOf T) (hu:((val st y).cells.any C.isUndef)=false)
  (hs:splice f.cells off (val st y).cells=some cs') (hΦ:Φ (st.with o.dst (.c .undef) (st.mem.set r (.arr s xs (some ⟨f.i,cs'⟩))))) :
  o.wp E.P a w (Nxt B st n Z μ Φ) (λ_ _ _=>False):=by
 subst hfi;have hX:=hR.val x;rw [hx] at hX;obtain ⟨ℓ,b,m1,m2,m3,m4⟩:=hX;obtain ⟨ws,v1,v2⟩:=(hR.val y).real hreal;obtain ⟨ℓ',h5,h6,h7⟩:=hR.mem.rt r _ hr (by simp);rw [m1] at h5;cases h5;have hi:=h6 f rfl;have h7':=h7;obtain ⟨g1,g2,g3,g4,g0,h11⟩:=h7;rw [m2] at h11;obtain ⟨hSb,hBl,N,hN1,hN2,hel⟩:=h11;obtain ⟨s1,rfl⟩:=splice_ok hs;have hws:ws.length=(val st y).cells.length:=v2.1.symm
 have hfl:f.cells.length=s.cells:=by
  obtain ⟨us,k1,k2,k3⟩:=hel f.i hi;simp only [ElR,if_true] at k3;rw [k3.1,k1]
 have hin:=mul_last (sz:=ℓ.sz) m3 (show ℓ.len<=ℓ.cap by omega);have hZb:¬ Z b:=(hR.mem.own r _ ℓ b hr rfl m1 hSb).1
 have hYb:¬ B.Y b:=λhy=>by
  have h8:=(hR.mem.own r _ ℓ b hr rfl m1 hSb).2.2;have h9:=hR.mem.lent b hy;rcases h8 with h8|h8
  ·omega
  ·exact h9.2 h8
 have hrun:=run_storeVar (P:=E.P) (p:=ℓ.base+f.i*ℓ.sz+off) hk v1 (by omega) hBl (by omega) (v2.one_cells hu);have hOth:∀ c,c≠b->(w.setCells b (ℓ.base+f.i*ℓ.sz+off) ws).heap[c]?=w.heap[c]?:=λc hc=>setCells_other b hc _ _ _;have hSame:SameOn Z w (w.setCells b (ℓ.base+f.i*ℓ.sz+off) ws):=λc hc=>hOth c (λe=>hZb (e▸hc))
 have hm:MemOk B (st.mem.set r (.arr s xs (some ⟨f.i,f.cells.take off++((val st y).cells++f.cells.drop (off+(val st y).cells.length))⟩))) (w.setCells b (ℓ.base+f.i*ℓ.sz+off) ws) Z μ:=by
  refine hR.mem.change (hio:=setCells_io _ _ _ _) hr rfl rfl m1 (λc hc=>hOth c (λ(e:c=b)=>hc (by rw [e];exact hSb))) (setCells_size _ _ _ _) ?_;refine ⟨λf' hf'=>by cases hf';exact hi,h7'.write m2 hi rfl (by omega) ?_ ?_⟩
  ·intro us S hi' hus _ hRR _;simp only [ElR,if_true] at hRR ⊢;exact (hRR.splice v2 off).mono hSame (λ_ h=>h) (ExtL.refl μ)
  ·intro j us S hj hj' hij hRR hS;simp only [ElR,if_neg (Ne.symm hij)] at hRR ⊢;refine hRR.same (λ_ h=>h) (λ_ h=>h) λc hc=>hOth c ?_;rintro rfl;rcases hc with (hc|hc)|hc
   ·exact hZb hc
   ·exact hYb hc
   ·exact (hS _ hc).2 rfl
 have hrun':(execOp a.eval o).run E.P w=.ok .skip (w.setCells b (ℓ.base+f.i*ℓ.sz+off) ws):=by
  simp only [execOp,ho,m4];simp [Instr.storeAt,Instr.sureAddr,hrun]
 refine wp_of_skip hrun' ⟨_,Z,μ,hR.put hm hSame (λ_ h=>h) (ExtL.refl μ) o.dst (AR.undef _),hΦ,?_,?_,λ_ _ h=>h,λ_ h=>h,ExtL.refl μ⟩
 ·cases o.dst<;>simp [St.with,St.put,Mem.set]
 ·cases o.dst<;>rfl
end
end Go.Mach

namespace Go.Mach
structure Loose (B:Base) (m:Mem) (w:World) (Z:Nat->Prop) (μ:Locs) (F:Nat->Prop):Prop where
 ok:∀ b,F b->¬ Z b/\b < w.heap.size/\(B.w0.heap.size<=b\/B.A b)
 off:∀ b r,F b->¬ OwnsAt m μ r b
section
variable {B:Base}{m m':Mem}{w:World}{Z Z':Nat->Prop}{μ μ':Locs}{F F':Nat->Prop}
theorem Loose.none(B:Base)(m:Mem)(w:World)(Z:Nat->Prop)(μ:Locs):Loose B m w Z μ (λ_=>False):=⟨λ_ h=>h.elim,λ_ _ h=>h.elim⟩
theorem own_step(h:MemOk B m w Z μ)(hF:Loose B m w Z μ F)(r:Nat)(x':Root)(hlt:r < m.roots.length)(hm:m'.roots=m.roots.set r x')
  (hμ:∀ s,s≠r->μ' s=μ s) (hext:ExtL μ μ') (hZ:∀ b,Z b->Z' b) (hZ':∀ b,Z' b->Z b\/(F b\/OwnsAt m μ r b))
  (hnew:x'≠.dead->∃ ℓ,μ' r=some ℓ/\RootOk w Z' B.Y μ' ℓ x'/\(x'.owns=true->∀ b,ℓ.S b->(F b\/OwnsAt m μ r b)/\¬ Z' b))
  (hF':∀ b,F' b->(F b\/OwnsAt m μ r b)/\¬ Z' b/\∀ ℓ,x'.owns=true->μ' r=some ℓ->¬ ℓ.S b) :
  MemOk B m' w Z' μ'/\Loose B m' w Z' μ' F':=by
 have hold:∀ s,s≠r->m'.roots[s]?=m.roots[s]?:=λs hs=>by rw [hm,List.getElem?_set_ne (Ne.symm hs)]
 have hat:m'.roots[r]?=some x':=by rw [hm];simp [hlt]
 have havail:∀ b,(F b\/OwnsAt m μ r b)->¬ Z b/\b < w.heap.size/\(B.w0.heap.size<=b\/B.A b):=by
  rintro b (hb|⟨x,ℓ,h1,h2,h3,h4⟩)
  ·exact hF.ok b hb
  ·exact h.own r x ℓ b h1 h2 h3 h4
 have hapart:∀ s b,s≠r->OwnsAt m μ s b->(F b\/OwnsAt m μ r b)->False:=by
  rintro s b hs ho (hb|⟨x,ℓ,h1,h2,h3,h4⟩)
  ·exact hF.off b s hb ho
  ·obtain ⟨y,ℓ',k1,k2,k3,k4⟩:=ho;exact h.dj s r y x ℓ' ℓ hs k1 h1 k2 h2 k3 h3 b k4 h4
 have hown:∀ s b,s≠r->OwnsAt m' μ' s b->OwnsAt m μ s b:=by
  rintro s b hs ⟨y,ℓ,k1,k2,k3,k4⟩;exact ⟨y,ℓ,hold s hs▸k1,k2,hμ s hs▸k3,k4⟩
 have hownr:∀ b,OwnsAt m' μ' r b->(F b\/OwnsAt m μ r b)/\¬ Z' b:=by
  rintro b ⟨y,ℓ,k1,k2,k3,k4⟩;rw [hat] at k1;cases k1;obtain ⟨ℓ',j1,j2,j3⟩:=hnew (by rintro rfl;simp [Root.owns] at k2);rw [k3] at j1;cases j1;exact j3 k2 b k4
 refine ⟨⟨?_,?_,?_,?_,λb hb=>hZ b (h.frz0 b hb),h.size,h.keep,?_,h.lent,h.io⟩,?_,?_⟩
 ·intro s x hx hd;by_cases hs:s=r
  ·subst hs;rw [hat] at hx;cases hx;obtain ⟨ℓ,j1,j2,_⟩:=hnew hd;exact ⟨ℓ,j1,j2⟩
  ·rw [hold s hs] at hx;obtain ⟨ℓ,j1,j2⟩:=h.rt s x hx hd;exact ⟨ℓ,by rw [hμ s hs,j1],j2.mono (SameOn.refl _ _) hZ (λ_ h=>h) hext⟩
 ·intro s t x y ℓ ℓ' hst hx hy hox hoy hl hl' b hb hb';have h1:OwnsAt m' μ' s b:=⟨x,ℓ,hx,hox,hl,hb⟩;have h2:OwnsAt m' μ' t b:=⟨y,ℓ',hy,hoy,hl',hb'⟩;by_cases hs:s=r
  ·subst hs;exact hapart t b (Ne.symm hst) (hown t b (Ne.symm hst) h2) (hownr b h1).1
  ·by_cases ht:t=r
   ·subst ht;exact hapart s b hst (hown s b hst h1) (hownr b h2).1
   ·obtain ⟨x1,l1,a1,a2,a3,a4⟩:=hown s b hs h1;obtain ⟨y1,l2,b1,b2,b3,b4⟩:=hown t b ht h2;exact h.dj s t x1 y1 l1 l2 hst a1 b1 a2 b2 a3 b3 b a4 b4
 ·intro s x ℓ b hx ho hl hb;have h1:OwnsAt m' μ' s b:=⟨x,ℓ,hx,ho,hl,hb⟩;by_cases hs:s=r
  ·subst hs;obtain ⟨k1,k2⟩:=hownr b h1;exact ⟨k2,(havail b k1).2⟩
  ·have h2:=hown s b hs h1;obtain ⟨y,l1,a1,a2,a3,a4⟩:=h2;have h3:=h.own s y l1 b a1 a2 a3 a4;refine ⟨λhz=>?_,h3.2⟩;rcases hZ' b hz with hz|hz
   ·exact h3.1 hz
   ·exact hapart s b hs ⟨y,l1,a1,a2,a3,a4⟩ hz
 ·intro b hb;rcases hZ' b hb with hz|hz
  ·exact h.frz b hz
  ·have:=havail b hz;exact ⟨this.2.1,.inr this.2.2⟩
 ·intro s hs
  have hl:m'.roots.length=m.roots.length:=by rw [hm];simp
  rw [hl] at hs;rw [hμ s (by omega)];exact h.far s hs
 ·intro b hb;obtain ⟨k1,k2,_⟩:=hF' b hb;exact ⟨k2,(havail b k1).2⟩
 ·intro b s hb ho;obtain ⟨k1,k2,k3⟩:=hF' b hb;by_cases hs:s=r
  ·subst hs;obtain ⟨y,ℓ,j1,j2,j3,j4⟩:=ho;rw [hat] at j1;cases j1;exact k3 ℓ j2 j3 j4
  ·exact hapart s b hs (hown s b hs ho) k1
theorem take_root(h:MemOk B m w Z μ)(hF:Loose B m w Z μ F){r:Nat}{x:Root}{ℓ:Loc}(hr:m.roots[r]?=some x)(hμ:μ r=some ℓ)(ho:x.owns=true) :
  MemOk B (m.set r .dead) w Z μ/\Loose B (m.set r .dead) w Z μ (λb=>F b\/ℓ.S b):=by
 have hlt:r < m.roots.length:=(List.getElem?_eq_some_iff.1 hr).1;refine own_step h hF r .dead hlt rfl (λ_ _=>rfl) (ExtL.refl μ) (λ_ h=>h) (λ_ h=>.inl h) (λh=>absurd rfl h) ?_;rintro b (hb|hb)
 ·exact ⟨.inl hb,(hF.ok b hb).1,λ_ h=>by simp [Root.owns] at h⟩
 ·exact ⟨.inr ⟨x,ℓ,hr,ho,hμ,hb⟩,(h.own r x ℓ b hr ho hμ hb).1,λ_ h=>by simp [Root.owns] at h⟩
theorem put_root(h:MemOk B m w Z μ)(hF:Loose B m w Z μ F){r:Nat}{x:Root}{ℓ:Loc}(hr:m.roots[r]?=some .dead)(hext:ExtL μ (μ.set r ℓ))(hok:RootOk w Z B.Y (μ.set r ℓ) ℓ x)(hS:x.owns=true->∀ b,ℓ.S b->F b) :
  MemOk B (m.set r x) w Z (μ.set r ℓ)/\Loose B (m.set r x) w Z (μ.set r ℓ) (λb=>F b/\(x.owns=true->¬ ℓ.S b)):=by
 have hlt:r < m.roots.length:=(List.getElem?_eq_some_iff.1 hr).1;refine own_step h hF r x hlt rfl (λs hs=>Locs.set_ne _ _ hs) hext (λ_ h=>h) (λ_ h=>.inl h) (λ_=>?_) ?_
 ·exact ⟨ℓ,Locs.set_at _ _ _,hok,λho b hb=>⟨.inl (hS ho b hb),(hF.ok b (hS ho b hb)).1⟩⟩
 ·rintro b ⟨hb,hn⟩;refine ⟨.inl hb,(hF.ok b hb).1,λℓ' ho hl=>?_⟩;rw [Locs.set_at] at hl;cases hl;exact hn ho
theorem ExtL.setS{r:Nat}{ℓ:Loc}{S:Nat->Prop}(h:μ r=some ℓ):ExtL μ (μ.set r { ℓ with S:=S }):=λs ℓ' hs=>by
 by_cases e:s=r
 ·subst e;rw [h] at hs;cases hs;exact ⟨S,Locs.set_at _ _ _⟩
 ·exact ⟨ℓ'.S,by rw [Locs.set_ne _ _ e,hs]⟩
theorem tame_cells:∀ {s:Sh},s.tame=true->s.cells=s.ty.cells/\s.minB=s.ty.minB
 |.frz _,_=>⟨rfl,rfl⟩
 |.own _,_=>⟨rfl,rfl⟩
 |.seq a b,h=>by
  simp only [Sh.tame,Bool.and_eq_true] at h;obtain ⟨h1,h2⟩:=tame_cells h.1;obtain ⟨h3,h4⟩:=tame_cells h.2;simp only [Sh.cells,Ty.cells,Sh.minB,Ty.minB,h1,h2,h3,h4,and_self]
 |.nil,h=>by simp [Sh.tame] at h
 |.undef,h=>by simp [Sh.tame] at h
 |.nilp,h=>by simp [Sh.tame] at h
 |.nilz,h=>by simp [Sh.tame] at h
 |.err,h=>by simp [Sh.tame] at h
 |.opq,h=>by simp [Sh.tame] at h
 |.sb _,h=>by simp [Sh.tame] at h
 |.box _,h=>by simp [Sh.tame] at h
 |.clo _ _,h=>by simp [Sh.tame] at h
 |.map _ _,h=>by simp [Sh.tame] at h
 |.bor _,h=>by simp [Sh.tame] at h
theorem tame_len{s:Sh}(h:s.tame=true)(n:Nat):lenOkS s n=lenOk s.ty n:=by
 simp only [lenOkS,lenOk,(tame_cells h).2]
theorem full_slice(ℓ:Loc):SlR ℓ .full (.slice (ℓ.addr 0) ℓ.len ℓ.cap):=rfl
theorem SR.frz{Y Z':Nat->Prop}:∀ {s:Sh}{us:List Value}{x:s.den}{S:Nat->Prop},s.tame=true->SR w Z Y s us x S->(∀ b,Z b->Z' b)->(∀ b,S b->Z' b)->Frz w Z' s.ty us x
 |.frz t,us,x,S,_,h,hz,_=>Frz.same (SameOn.refl _ _) hz (show Frz w Z t us x from h)
 |.own s,us,xs,S,ht,h,hz,hS=>by
  have ht':s.tame=true:=ht;simp only [SR] at h;obtain ⟨ℓ,rfl,h2,h3⟩:=h;have h4:=h3.rd (V:=Z') (R':=λus x=>Frz w Z' s.ty us x) (λb hb=>hS b (h2 b hb)) λi us x T _ _ hT hR=>SR.frz ht' hR hz λd hd=>hS d (h2 d (hT d hd));rw [(tame_cells ht').1] at h4;have h5:=(h4.win (full_slice ℓ)).1;refine SliceR.frz h5 ?_;have:=h3.2.2.2.1;rw [<- tame_len ht'];exact this
 |.seq a b,us,x,S,ht,h,hz,hS=>by
  simp only [Sh.tame,Bool.and_eq_true] at ht;simp only [SR] at h;obtain ⟨u1,u2,S1,S2,h1,h2,h3,_,h5,h6⟩:=h;simp only [Frz];exact ⟨u1,u2,h1,SR.frz ht.1 h5 hz λd hd=>hS d (h2 d hd),SR.frz ht.2 h6 hz λd hd=>hS d (h3 d hd)⟩
 |.nil,_,_,_,ht,_,_,_=>by simp [Sh.tame] at ht
 |.undef,_,_,_,ht,_,_,_=>by simp [Sh.tame] at ht
 |.nilp,_,_,_,ht,_,_,_=>by simp [Sh.tame] at ht
 |.nilz,_,_,_,ht,_,_,_=>by simp [Sh.tame] at ht
 |.err,_,_,_,ht,_,_,_=>by simp [Sh.tame] at ht
 |.opq,_,_,_,ht,_,_,_=>by simp [Sh.tame] at ht
 |.sb _,_,_,_,ht,_,_,_=>by simp [Sh.tame] at ht
 |.box _,_,_,_,ht,_,_,_=>by simp [Sh.tame] at ht
 |.clo _ _,_,_,_,ht,_,_,_=>by simp [Sh.tame] at ht
 |.map _ _,_,_,_,ht,_,_,_=>by simp [Sh.tame] at ht
 |.bor _,_,_,_,ht,_,_,_=>by simp [Sh.tame] at ht
theorem SR.br{Y V:Nat->Prop}(hV:∀ b,Y b\/Z b->V b):∀ {s:Sh}{us:List Value}{x:s.den}{S:Nat->Prop},SR w Z Y s us x S->(∀ b,S b->V b)->BR w Z V s us x
 |.nil,_,_,_,h,_=>h
 |.undef,_,_,_,h,_=>h
 |.nilp,_,_,_,h,_=>h
 |.nilz,_,_,_,h,_=>h
 |.err,_,_,_,h,_=>h
 |.opq,_,_,_,h,_=>h
 |.sb _,_,_,_,h,_=>by
  simp only [SR] at h;simp only [BR];obtain ⟨_,rfl,_⟩:=h;rfl
 |.frz _,_,_,_,h,_=>h
 |.own s,us,xs,S,h,hS=>by
  simp only [SR] at h;simp only [BR];obtain ⟨ℓ,rfl,h2,h3⟩:=h;have h4:=h3.rd (V:=V) (R':=λus x=>BR w Z V s us x) (λb hb=>hS b (h2 b hb)) λi us x T _ _ hT hR=>SR.br hV hR λd hd=>hS d (h2 d (hT d hd));obtain ⟨a,cap,g1,g2,g3⟩:=(h4.win (full_slice ℓ)).1;exact ⟨a,cap,by rw [g1];rfl,g2,h3.2.2.2.1,g3⟩
 |.box s,us,x,S,h,hS=>by
  simp only [SR] at h;simp only [BR];obtain ⟨b,o,us',T,h1,h2,h3,h4,h5,h6,h7⟩:=h;exact ⟨b,o,us',h1,hS b h2,h4,h5,SR.br hV h7 λd hd=>hS d (h6 d hd).1⟩
 |.map n s,us,xs,S,h,hS=>by
  simp only [SR] at h;simp only [BR];obtain ⟨b,h1,h2,es,clock,h3,h4,h5,h6,h7,h8,N,h9,_,h11⟩:=h;exact ⟨b,h1,hS b h2,es,clock,h3,h4,h5,h6,h7,h8,λi hi hi'=>⟨(h11 i hi hi').1,SR.br hV (h11 i hi hi').2 λd hd=>hS d (h9 i hi d hd).1⟩⟩
 |.clo f s,us,x,S,h,hS=>by
  simp only [SR] at h;simp only [BR];obtain ⟨h0,vs,h1,h2⟩:=h;exact ⟨h0,vs,h1,SR.br hV h2 hS⟩
 |.seq a b,us,x,S,h,hS=>by
  simp only [SR] at h;simp only [BR];obtain ⟨u1,u2,S1,S2,h1,h2,h3,_,h5,h6⟩:=h;exact ⟨u1,u2,h1,SR.br hV h5 λd hd=>hS d (h2 d hd),SR.br hV h6 λd hd=>hS d (h3 d hd)⟩
 |.bor s,us,x,S,h,_=>by
  simp only [SR] at h;simp only [BR];exact BR.same (SameOn.refl _ _) (λ_ h=>h) hV h
theorem Frz.br{V:Nat->Prop}(hV:∀ b,Z b->V b):∀ {s:Sh}{us:List Value}{x:s.den},s.tame=true->Frz w Z s.ty us x->BR w Z V s us x
 |.frz _,_,_,_,h=>h
 |.own s,us,xs,ht,h=>by
  have ht':s.tame=true:=ht;simp only [Frz] at h;simp only [BR];obtain ⟨a,cap,h1,h2,h3,h4⟩:=h;refine ⟨a,cap,h1,h2,by rw [tame_len ht'];exact h3,h4.imp id ?_⟩;rintro ⟨b,o,h5,h6,h7⟩;refine ⟨b,o,h5,hV b h6,λi hi=>?_⟩;obtain ⟨us,g1,g2,g3⟩:=h7 i hi;rw [(tame_cells ht').1];exact ⟨us,g1,g2,Frz.br hV ht' g3⟩
 |.seq a b,us,x,ht,h=>by
  simp only [Sh.tame,Bool.and_eq_true] at ht;simp only [Frz] at h;simp only [BR];obtain ⟨v1,v2,h1,h2,h3⟩:=h;exact ⟨v1,v2,h1,Frz.br hV ht.1 h2,Frz.br hV ht.2 h3⟩
 |.nil,_,_,ht,_=>by simp [Sh.tame] at ht
 |.undef,_,_,ht,_=>by simp [Sh.tame] at ht
 |.nilp,_,_,ht,_=>by simp [Sh.tame] at ht
 |.nilz,_,_,ht,_=>by simp [Sh.tame] at ht
 |.err,_,_,ht,_=>by simp [Sh.tame] at ht
 |.opq,_,_,ht,_=>by simp [Sh.tame] at ht
 |.sb _,_,_,ht,_=>by simp [Sh.tame] at ht
 |.box _,_,_,ht,_=>by simp [Sh.tame] at ht
 |.clo _ _,_,_,ht,_=>by simp [Sh.tame] at ht
 |.map _ _,_,_,ht,_=>by simp [Sh.tame] at ht
 |.bor _,_,_,ht,_=>by simp [Sh.tame] at ht
theorem RootOk.toFrz{Y Z':Nat->Prop}{ℓ:Loc}{s:Sh}{xs:List s.den}(ht:s.tame=true)(h:RootOk w Z Y μ ℓ (.arr s xs none))(hz:∀ b,Z b->Z' b)(hS:∀ b,ℓ.S b->Z' b):RootOk w Z' Y μ ℓ (.frz s.ty xs):=by
 have h4:=h.2.rd (V:=Z') (R':=λus x=>Frz w Z' s.ty us x) hS λi us x T _ _ hT hR=>SR.frz ht hR hz λd hd=>hS d (hT d hd);rw [(tame_cells ht).1,tame_len ht] at h4;exact h4
theorem freeze_root(h:MemOk B m w Z μ)(hF:Loose B m w Z μ F){r:Nat}{s:Sh}{xs:List s.den}{ℓ:Loc}(ht:s.tame=true)(hr:m.roots[r]?=some (.arr s xs none))(hμ:μ r=some ℓ) :
  MemOk B (m.set r (.frz s.ty xs)) w (λb=>Z b\/ℓ.S b) μ/\Loose B (m.set r (.frz s.ty xs)) w (λb=>Z b\/ℓ.S b) μ F:=by
 have hlt:r < m.roots.length:=(List.getElem?_eq_some_iff.1 hr).1;have hO:∀ b,ℓ.S b->OwnsAt m μ r b:=λb hb=>⟨_,ℓ,hr,rfl,hμ,hb⟩;refine own_step h hF r (.frz s.ty xs) hlt rfl (λ_ _=>rfl) (ExtL.refl μ) (λ_ h=>.inl h) (λb hb=>hb.imp id λhb=>.inr (hO b hb)) (λ_=>?_) ?_
 ·obtain ⟨ℓ',j1,j2⟩:=h.rt r _ hr (by simp);rw [hμ] at j1;cases j1;exact ⟨ℓ,hμ,j2.toFrz ht (λ_ h=>.inl h) (λ_ h=>.inr h),λh=>by simp [Root.owns] at h⟩
 ·intro b hb;refine ⟨.inl hb,λhz=>?_,λ_ h=>by simp [Root.owns] at h⟩;rcases hz with hz|hz
  ·exact (hF.ok b hb).1 hz
  ·exact hF.off b r hb (hO b hz)
theorem make_root(h:MemOk B m w Z μ)(hF:Loose B m w Z μ F){x:Root}{ℓ:Loc}(hr:m.roots[m.cur]?=some .dead)(hμ:μ m.cur=none)(hok:RootOk w Z B.Y (μ.set m.cur ℓ) ℓ x)(hS:x.owns=true->∀ b,ℓ.S b->F b) :
  MemOk B (m.push x) w Z (μ.set m.cur ℓ)/\Loose B (m.push x) w Z (μ.set m.cur ℓ) (λb=>F b/\(x.owns=true->¬ ℓ.S b)):=by
 have hlt:m.cur < m.roots.length:=(List.getElem?_eq_some_iff.1 hr).1;refine own_step h hF m.cur x hlt (by rw [push_roots hlt]) (λs hs=>Locs.set_ne _ _ hs) (ExtL.set hμ) (λ_ h=>h) (λ_ h=>.inl h) (λ_=>?_) ?_
 ·exact ⟨ℓ,Locs.set_at _ _ _,hok,λho b hb=>⟨.inl (hS ho b hb),(hF.ok b (hS ho b hb)).1⟩⟩
 ·rintro b ⟨hb,hn⟩;refine ⟨.inl hb,(hF.ok b hb).1,λℓ' ho hl=>?_⟩;rw [Locs.set_at] at hl;cases hl;exact hn ho
theorem freeze_loose(h:MemOk B m w Z μ)(hF:Loose B m w Z μ F){G:Nat->Prop}(hG:∀ b,G b->F b) :
  MemOk B m w (λb=>Z b\/G b) μ/\Loose B m w (λb=>Z b\/G b) μ (λb=>F b/\¬ G b):=by
 refine ⟨⟨λr x hx hd=>?_,h.dj,λr x ℓ b hx ho hl hb=>?_,λb hb=>?_,λb hb=>.inl (h.frz0 b hb),h.size,h.keep,h.far,h.lent,h.io⟩,λb hb=>?_,λb r hb=>hF.off b r hb.1⟩
 ·obtain ⟨ℓ,j1,j2⟩:=h.rt r x hx hd;exact ⟨ℓ,j1,j2.mono (SameOn.refl _ _) (λ_ h=>.inl h) (λ_ h=>h) (ExtL.refl μ)⟩
 ·obtain ⟨k1,k2⟩:=h.own r x ℓ b hx ho hl hb;refine ⟨?_,k2⟩;rintro (hz|hz)
  ·exact k1 hz
  ·exact hF.off b r (hG b hz) ⟨x,ℓ,hx,ho,hl,hb⟩
 ·rcases hb with hb|hb
  ·exact h.frz b hb
  ·have:=hF.ok b (hG b hb);exact ⟨this.2.1,.inr this.2.2⟩
 ·obtain ⟨h1,h2⟩:=hb;have:=hF.ok b h1;refine ⟨?_,this.2⟩;rintro (hz|hz)
  ·exact this.1 hz
  ·exact h2 hz
end
end Go.Mach

namespace Go.Mach
section
variable {B:Base}{w:World}{μ:Locs}
theorem rdBy_pre{lk:(e:Ty)->C->Option (List e.den)}:∀ (t:Ty){cs rest:List C}{x:t.den},t.rdBy lk cs=some (x,rest) ->
  ∃ pre,cs=pre++rest/\pre.length=t.cells/\t.rdBy lk pre=some (x,[])
 |.unit,cs,rest,x,h=>by
  simp only [Ty.rdBy,Option.some.injEq,Prod.mk.injEq] at h;obtain ⟨_,rfl⟩:=h;exact ⟨[],rfl,rfl,rfl⟩
 |.int k,cs,rest,x,h=>by
  match cs,h with
  |.int j n::cs,h =>
   simp only [Ty.rdBy] at h;split at h
   case h_2=>cases h
   rename_i hs;cases h;exact ⟨[_],rfl,rfl,by simp only [Ty.rdBy,hs]⟩
 |.bool,cs,rest,x,h=>by
  match cs,h with
  |.bool b::cs,h =>
   simp only [Ty.rdBy,Option.some.injEq,Prod.mk.injEq] at h;obtain ⟨rfl,rfl⟩:=h;exact ⟨[_],rfl,rfl,rfl⟩
 |.str,cs,rest,x,h=>by
  match cs,h with
  |.str b::cs,h =>
   simp only [Ty.rdBy,Option.some.injEq,Prod.mk.injEq] at h;obtain ⟨rfl,rfl⟩:=h;exact ⟨[_],rfl,rfl,rfl⟩
 |.list e,cs,rest,x,h=>by
  match cs,h with
  |c::cs,h =>
   simp only [Ty.rdBy] at h;split at h
   case h_2=>cases h
   rename_i hs;cases h;exact ⟨[_],rfl,rfl,by simp only [Ty.rdBy,hs]⟩
 |.pair a b,cs,rest,x,h=>by
  simp only [Ty.rdBy] at h;split at h
  case h_2=>cases h
  rename_i y cs1 ha;split at h
  case h_2=>cases h
  rename_i z cs2 hb;cases h;obtain ⟨p1,e1,l1,r1⟩:=rdBy_pre a ha;obtain ⟨p2,e2,l2,r2⟩:=rdBy_pre b hb;refine ⟨p1++p2,by rw [e1,e2,List.append_assoc],by simp [Ty.cells,l1,l2],?_⟩;simp only [Ty.rdBy,rdBy_tail a r1,List.nil_append,r2]
 |.rose a,cs,rest,x,h=>by
  simp only [Ty.rdBy] at h;split at h
  case h_2=>cases h
  rename_i y c1 cs1 ha;split at h
  case h_2=>cases h
  rename_i xs hl;cases h;obtain ⟨p1,e1,l1,r1⟩:=rdBy_pre a ha;refine ⟨p1++[c1],by rw [e1];simp,by simp [Ty.cells,l1],?_⟩;simp only [Ty.rdBy,rdBy_tail a r1,List.nil_append,hl]
where
 rdBy_tail {lk:(e:Ty)->C->Option (List e.den)}:∀ (t:Ty){cs rest tail:List C}{x:t.den},t.rdBy lk cs=some (x,rest)->t.rdBy lk (cs++tail)=some (x,rest++tail)
 |.unit,cs,rest,tail,x,h=>by
  simp only [Ty.rdBy,Option.some.injEq,Prod.mk.injEq] at h ⊢;exact ⟨h.1,by rw [h.2]⟩
 |.int k,cs,rest,tail,x,h=>by
  match cs,h with
  |.int j n::cs,h =>
   simp only [Ty.rdBy] at h;split at h
   case h_2=>cases h
   rename_i hs;cases h;simp only [List.cons_append,Ty.rdBy,hs]
 |.bool,cs,rest,tail,x,h=>by
  match cs,h with
  |.bool b::cs,h =>
   simp only [Ty.rdBy,Option.some.injEq,Prod.mk.injEq] at h;obtain ⟨rfl,rfl⟩:=h;rfl
 |.str,cs,rest,tail,x,h=>by
  match cs,h with
  |.str b::cs,h =>
   simp only [Ty.rdBy,Option.some.injEq,Prod.mk.injEq] at h;obtain ⟨rfl,rfl⟩:=h;rfl
 |.list e,cs,rest,tail,x,h=>by
  match cs,h with
  |c::cs,h =>
   simp only [Ty.rdBy] at h;split at h
   case h_2=>cases h
   rename_i hs;cases h;simp only [List.cons_append,Ty.rdBy,hs]
 |.pair a b,cs,rest,tail,x,h=>by
  simp only [Ty.rdBy] at h;split at h
  case h_2=>cases h
  rename_i y cs1 ha;split at h
  case h_2=>cases h
  rename_i z cs2 hb;cases h;simp only [Ty.rdBy,rdBy_tail a ha,rdBy_tail b hb]
 |.rose a,cs,rest,tail,x,h=>by
  simp only [Ty.rdBy] at h;split at h
  case h_2=>cases h
  rename_i y c1 cs1 ha;split at h
  case h_2=>cases h
  rename_i xs hl;cases h;simp only [Ty.rdBy,rdBy_tail a ha,List.cons_append,hl]
theorem CRs.cons_inv{w:World}{Z:Nat->Prop}{c:C}{cs:List C}{us:List Value}(h:CRs w Z μ (c::cs) us):∃ v us',us=v::us'/\CR w Z μ c v/\CRs w Z μ cs us':=by
 obtain ⟨v1,us',rfl,c1,c2⟩:=CRs.split (cs:=[c]) (cs':=cs) h;obtain ⟨v,rfl,cv⟩:=c1.one;exact ⟨v,us',rfl,cv,c2⟩
theorem CRs.nil_inv{w:World}{Z:Nat->Prop}{us:List Value}(h:CRs w Z μ [] us):us=[]:=List.eq_nil_of_length_eq_zero (by simpa using h.1.symm)
theorem CRs.caps{w:World}{Z:Nat->Prop}{caps:List Cap}{vs:List Value}(hl:vs.length=caps.length)(h:∀ k (h:k < caps.length) (h':k < vs.length),CapR w Z μ caps[k] vs[k]):CRs w Z μ (caps.map Cap.cell) vs:=by
 refine ⟨by simp [hl],λk h1 h2=>?_⟩;simp only [List.getElem_map];have h3:=h k (by simpa using h1) h2
 cases hc:caps[k] with
 |root r=>rw [hc] at h3;exact h3
 |frz e x=>rw [hc] at h3;exact h3
theorem SliceR.own{w:World}{Z V:Nat->Prop}{s:Sh}{v:Value}{xs:List s.den}(h:SliceR w s.cells V (λus x=>BR w Z V s us x) v xs)(hl:lenOkS s xs.length=true):BR w Z V (.own s) [v] xs:=by
 simp only [BR];obtain ⟨q,cap,e4,e5,e7⟩:=h;exact ⟨q,cap,by rw [e4],e5,hl,e7⟩
theorem getB_spec{st:Bool}{m:Mem}{Z V:Nat->Prop}(hM:MemOk B m w Z μ)(hV:∀ b,B.Y b\/Z b->V b)(hV':st=false->∀ r b,OwnsAt m μ r b->V b) :
  ∀ (s:Sh){cs rest:List C}{us:List Value}{x:s.den},CRs w Z μ cs us->s.getB st m.roots cs=some (x,rest) ->
   ∃ us1 us2,us=us1++us2/\us1.length=s.cells/\BR w Z V s us1 x/\CRs w Z μ rest us2
 |.nil,cs,rest,us,x,hc,h=>by
  simp only [Sh.getB,Option.some.injEq,Prod.mk.injEq] at h;obtain ⟨_,rfl⟩:=h;exact ⟨[],us,rfl,rfl,by simp only [BR],hc⟩
 |.undef,cs,rest,us,x,hc,h=>by
  match cs,h with
  |c::cs,h =>
   simp only [Sh.getB,Option.some.injEq,Prod.mk.injEq] at h;obtain ⟨_,rfl⟩:=h;obtain ⟨v,us',rfl,h1,h2⟩:=hc.cons_inv;exact ⟨[v],us',rfl,rfl,by simp only [BR,List.length_singleton],h2⟩
 |.opq,cs,rest,us,x,hc,h=>by
  match cs,h with
  |c::cs,h =>
   simp only [Sh.getB] at h;split at h
   case h_2=>cases h
   rename_i hu;simp only [Option.some.injEq,Prod.mk.injEq] at h;obtain ⟨_,rfl⟩:=h;obtain ⟨v,us',rfl,h1,h2⟩:=hc.cons_inv;exact ⟨[v],us',rfl,rfl,by simp only [BR];exact ⟨v,rfl,h1.one hu⟩,h2⟩
 |.err,cs,rest,us,x,hc,h=>by
  match cs,h with
  |.err b::cs,h =>
   simp only [Sh.getB,Option.some.injEq,Prod.mk.injEq] at h;obtain ⟨rfl,rfl⟩:=h;obtain ⟨v,us',rfl,h1,h2⟩:=hc.cons_inv;exact ⟨[v],us',rfl,rfl,by simp only [BR];exact ⟨v,rfl,h1⟩,h2⟩
 |.nilp,cs,rest,us,x,hc,h=>by
  match cs,h with
  |.nilp::cs,h =>
   simp only [Sh.getB,Option.some.injEq,Prod.mk.injEq] at h;obtain ⟨_,rfl⟩:=h;obtain ⟨v,us',rfl,h1,h2⟩:=hc.cons_inv
   exact ⟨[v],us',rfl,rfl,by simp only [BR];rw [show v=_ from h1],h2⟩
 |.nilz,cs,rest,us,x,hc,h=>by
  match cs,h with
  |.nils::cs,h =>
   simp only [Sh.getB,Option.some.injEq,Prod.mk.injEq] at h;obtain ⟨_,rfl⟩:=h;obtain ⟨v,us',rfl,h1,h2⟩:=hc.cons_inv
   exact ⟨[v],us',rfl,rfl,by simp only [BR];rw [show v=_ from h1],h2⟩
 |.frz t,cs,rest,us,x,hc,h=>by
  simp only [Sh.getB] at h;obtain ⟨pre,us1,us2,e1,e2,e3,e4,e5⟩:=rdBy_spec (w:=w) (Z:=Z) (w':=w) (Z':=Z) (μ:=μ) t (λe c v xs _ hc h=>zlist_spec hM hc h) hc h;exact ⟨us1,us2,e1,e4.length,e4,e5⟩
 |.own s,cs,rest,us,x,hc,h=>by
  match cs,h with
  |.nils::cs,h =>
   simp only [Sh.getB,Option.some.injEq,Prod.mk.injEq] at h;obtain ⟨rfl,rfl⟩:=h;obtain ⟨v,us',rfl,h1,h2⟩:=hc.cons_inv;refine ⟨[v],us',rfl,rfl,SliceR.own (V:=V) ?_ ?_,h2⟩
   ·rw [show v=_ from h1];exact slice_nil _ _ _ _
   ·simp [lenOkS]
  |.lst e xs::cs,h =>
   simp only [Sh.getB] at h;split at h
   case h_2=>cases h
   rename_i he ht _;subst he;simp only [Option.some.injEq,Prod.mk.injEq] at h;obtain ⟨rfl,rfl⟩:=h;obtain ⟨v,us',rfl,h1,h2⟩:=hc.cons_inv;exact ⟨[v],us',rfl,rfl,Frz.br (λb hb=>hV b (.inr hb)) (s:=.own s) ht h1,h2⟩
  |.ref r wd::cs,h =>
   simp only [Sh.getB] at h;obtain ⟨v,us',rfl,⟨ℓ,m1,m2⟩,h2⟩:=hc.cons_inv;split at h
   ·rename_i e xs hr;split at h
    case h_2=>cases h
    rename_i he ht _;subst he;simp only [Option.some.injEq,Prod.mk.injEq] at h;obtain ⟨rfl,rfl⟩:=h;obtain ⟨ℓ',h5,h6⟩:=hM.rt r _ hr (by simp);rw [m1] at h5;cases h5
    obtain ⟨g1,g2⟩:=RdR.win (show RdR _ _ _ _ _ _ _ from h6) m2
    have g3:=g1.frz (lenOk_mono (n:=xs.length) h6.2.2.2.1 g2);exact ⟨[v],us',rfl,rfl,Frz.br (λb hb=>hV b (.inr hb)) (s:=.own s) ht g3,h2⟩
   ·rename_i s' xs hr;split at h
    case h_2=>cases h
    rename_i he _;subst he;simp only [Option.some.injEq,Prod.mk.injEq] at h;obtain ⟨rfl,rfl⟩:=h;obtain ⟨ℓ',h5,h6⟩:=hM.rt r _ hr (by simp);rw [m1] at h5;cases h5
    obtain ⟨g1,g2⟩:=RdR.win (show RdR _ _ _ _ _ _ _ from h6) m2
    refine ⟨[v],us',rfl,rfl,SliceR.own (V:=V) (g1.imp hV λus x hR=>BR.same (SameOn.refl _ _) (λ_ h=>h) hV hR) (lenOkS_mono (n:=xs.length) h6.2.2.2.1 g2),h2⟩
   ·rename_i s' xs foc hr;split at h
    case h_2=>cases h
    rename_i he _ _;subst he;obtain ⟨ℓ',h5,h6,h7⟩:=hM.rt r _ hr (by simp);rw [m1] at h5;cases h5;have hO:∀ b,ℓ.S b->V b:=λb hb=>hV' rfl r b ⟨_,ℓ,hr,rfl,m1,hb⟩;split at h
    ·simp only [Option.some.injEq,Prod.mk.injEq] at h;obtain ⟨rfl,rfl⟩:=h;obtain ⟨g1,g2⟩:=(h7.rd (V:=V) (R':=λus x=>BR w Z V s' us x) hO λi us x S _ _ hS hR=>SR.br hV hR λd hd=>hO d (hS d hd)).win m2;exact ⟨[v],us',rfl,rfl,SliceR.own (V:=V) g1 (lenOkS_mono (n:=xs.length) h7.2.2.2.1 g2),h2⟩
    ·rename_i f;split at h
     case h_2=>cases h
     rename_i y hy;simp only [Option.some.injEq,Prod.mk.injEq] at h;obtain ⟨rfl,rfl⟩:=h;have hi:=h6 f rfl;obtain ⟨q1,q2,q3,q4,q0,q5⟩:=h7
     have key:RdR w s'.cells ((xs:List s'.den).set f.i y) (lenOkS s' xs.length) V (λus x=>BR w Z V s' us x) ℓ:=by
      refine ⟨q1,by rw [List.length_set];exact q2,by rw [List.length_set];exact q3,q4,.inl q0,?_⟩
      cases hb:ℓ.blk with
      |none=>rw [hb] at q5;obtain ⟨rfl,_⟩:=q5;simp at hi
      |some b =>
       rw [hb] at q5;obtain ⟨k1,k2,N,k3,k4,k5⟩:=q5;refine ⟨.inr (hO b k1),λi hi'=>?_⟩;obtain ⟨us,j1,j2,j3⟩:=k5 i (by simpa using hi');by_cases hif:f.i=i
       ·subst hif;simp only [ElR,if_true] at j3;obtain ⟨us1,us2,e1,e2,e3,e4⟩:=getB_spec hM hV hV' s' j3 hy;have:=e4.nil_inv;subst this;rw [List.append_nil] at e1;subst e1;exact ⟨us,j1,j2,by simpa using e3⟩
       ·simp only [ElR,if_neg hif] at j3;exact ⟨us,j1,j2,by rw [List.getElem_set_ne hif];exact SR.br hV j3 λd hd=>hO d (k3 i (by simpa using hi') d hd).1⟩
     obtain ⟨g1,g2⟩:=key.win m2;exact ⟨[v],us',rfl,rfl,SliceR.own (V:=V) g1 (lenOkS_mono (n:=xs.length) q4 (by simpa using g2)),h2⟩
   ·cases h
 |.box s,cs,rest,us,x,hc,h=>by
  match cs,h with
  |.ptr r 0::cs,h =>
   simp only [Sh.getB] at h;obtain ⟨v,us',rfl,⟨ℓ,b,m1,m2,rfl⟩,h2⟩:=hc.cons_inv;split at h
   ·rename_i bs hr;split at h
    ·cases h
    rename_i hst;split at h
    case h_2=>cases h
    rename_i y hy;simp only [Option.some.injEq,Prod.mk.injEq] at h;obtain ⟨rfl,rfl⟩:=h;obtain ⟨ℓ',h5,b',h6,h7,h8,ws,h9,h10⟩:=hM.rt r _ hr (by simp);rw [m1] at h5;cases h5;rw [m2] at h6;cases h6;obtain ⟨us1,us2,e1,e2,e3,e4⟩:=getB_spec hM hV hV' s h10 hy;have:=e4.nil_inv;subst this;rw [List.append_nil] at e1;subst e1;refine ⟨[_],us',rfl,rfl,?_,h2⟩;simp only [BR];exact ⟨b,_,ws,rfl,hV' rfl r b ⟨_,ℓ,hr,rfl,m1,h7⟩,e2,h9,e3⟩
   ·rename_i bs hr;split at h
    case h_2=>cases h
    rename_i y hy;simp only [Option.some.injEq,Prod.mk.injEq] at h;obtain ⟨rfl,rfl⟩:=h;obtain ⟨ℓ',h5,b',h6,h7,ws,h9,h10⟩:=hM.rt r _ hr (by simp);rw [m1] at h5;cases h5;rw [m2] at h6;cases h6;obtain ⟨us1,us2,e1,e2,e3,e4⟩:=getB_spec hM hV hV' s h10 hy;have:=e4.nil_inv;subst this;rw [List.append_nil] at e1;subst e1;refine ⟨[_],us',rfl,rfl,?_,h2⟩;simp only [BR];exact ⟨b,_,ws,rfl,hV b h7,e2,h9,e3⟩
   ·cases h
  |.lptr e y 0::cs,h =>
   simp only [Sh.getB] at h;split at h
   case h_2=>cases h
   rename_i he ht _;subst he;simp only [Option.some.injEq,Prod.mk.injEq] at h;obtain ⟨rfl,rfl⟩:=h;obtain ⟨v,us',rfl,⟨b,o,ws,h3,rfl,h5,h6,h7⟩,h2⟩:=hc.cons_inv;refine ⟨[_],us',rfl,rfl,?_,h2⟩;simp only [BR];exact ⟨b,o,ws,rfl,hV b (.inr h3),by rw [(tame_cells ht).1];exact h5,h6,Frz.br (λb hb=>hV b (.inr hb)) ht h7⟩
 |.clo f s,cs,rest,us,x,hc,h=>by
  match cs,h with
  |.fn g caps::cs,h =>
   simp only [Sh.getB] at h;split at h
   case h_2=>cases h
   rename_i y hfg hy;simp only [Option.some.injEq,Prod.mk.injEq] at h;obtain ⟨rfl,rfl⟩:=h;obtain ⟨v,us',rfl,⟨vs,rfl,h4,h5⟩,h2⟩:=hc.cons_inv;obtain ⟨us1,us2,e1,e2,e3,e4⟩:=getB_spec hM hV hV' s (CRs.caps h4 h5) hy;have:=e4.nil_inv;subst this;rw [List.append_nil] at e1;subst e1;simp only [Bool.and_eq_true,beq_iff_eq] at hfg;obtain ⟨hfg,hcp⟩:=hfg;subst hfg;refine ⟨[_],us',rfl,rfl,?_,h2⟩;simp only [BR];exact ⟨hcp,vs,rfl,e3⟩
 |.map n s,cs,rest,us,x,hc,h=>by
  match cs,h with
  |.mp r::cs,h =>
   simp only [Sh.getB] at h;obtain ⟨v,us',rfl,⟨ℓ,b,m1,m2,rfl⟩,h2⟩:=hc.cons_inv;split at h
   case h_2=>cases h
   rename_i n' s' xs hr;split at h
   case h_2=>cases h
   obtain rfl:n'=n:=by assumption
   obtain rfl:s'=s:=by assumption
   simp only [Option.some.injEq,Prod.mk.injEq] at h;obtain ⟨rfl,rfl⟩:=h;obtain ⟨ℓ',h5,_,b',h6,h7⟩:=hM.rt r _ hr (by simp);rw [m1] at h5;cases h5;rw [m2] at h6;cases h6;have hO:∀ b,ℓ.S b->V b:=λb hb=>hV' rfl r b ⟨_,ℓ,hr,rfl,m1,hb⟩;obtain ⟨k1,es,ck,k2,k3,k4,k5,k6,k7,N,k8,k9,k10⟩:=h7;refine ⟨[_],us',rfl,rfl,?_,h2⟩;simp only [BR];exact ⟨b,rfl,hO b k1,es,ck,k2,k3,k4,k5,k6,k7,λi h h'=>⟨(k10 i h h').1,SR.br hV (k10 i h h').2 λd hd=>hO d (k8 i h d hd).1⟩⟩
 |.seq a b,cs,rest,us,x,hc,h=>by
  simp only [Sh.getB] at h;split at h
  case h_2=>cases h
  rename_i y cs1 ha;split at h
  case h_2=>cases h
  rename_i z cs2 hb;simp only [Option.some.injEq,Prod.mk.injEq] at h;obtain ⟨rfl,rfl⟩:=h;obtain ⟨us1,us2,rfl,e2,e3,e4⟩:=getB_spec hM hV hV' a hc ha;obtain ⟨us3,us4,rfl,e6,e7,e8⟩:=getB_spec hM hV hV' b e4 hb;refine ⟨us1++us3,us4,by simp,by simp [Sh.cells,e2,e6],?_,e8⟩;simp only [BR];exact ⟨us1,us3,rfl,e3,e7⟩
 |.bor s,cs,rest,us,x,hc,h=>by
  simp only [Sh.getB] at h;obtain ⟨us1,us2,e1,e2,e3,e4⟩:=getB_spec hM hV hV' s hc h;exact ⟨us1,us2,e1,e2,by simp only [BR];exact e3,e4⟩
end
end Go.Mach

