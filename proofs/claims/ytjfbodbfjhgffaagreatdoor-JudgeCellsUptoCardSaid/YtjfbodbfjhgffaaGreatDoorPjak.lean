/-
  A part of the proofs of renlaw25.JudgeErases and renlaw25.JudgeCells: each law returns true for every input of the stated bulk and leaves its arguments as they were; no further condition.
  By an AI agent; no person has read it.
-/
import Derived.Test.YtjfbodbfjhgffaaGreatDoorPjac
import Derived.Test.YtjfbodbfjhgffaaGreatDoorPjad
import Derived.Test.YtjfbodbfjhgffaaGreatDoorPjaj
import Derived.Lib.ItoaLen
import Derived.Lib.AtoiErrMem
import Derived.Lib.AtoiAllCases
set_option linter.all false
set_option linter.deprecated false
set_option maxRecDepth 10000
namespace Go.Mach
open Go.Proofs Go.Shelf
theorem gPow:Tryz.prog.globalNamed "internal/strconv.uint64pow10"=some 3:=by kernel_rfl
theorem gSyn:Tryz.prog.globalNamed "strconv.ErrSyntax"=some 6:=by kernel_rfl
theorem gRng:Tryz.prog.globalNamed "strconv.ErrRange"=some 7:=by kernel_rfl
def globs:Glob where
 n:=8
 holds w:=Lib.TabIs Tryz.prog w "internal/strconv.uint64pow10" .u64 Lib.pow10Tab /\
  (∃ tp p,World.var? Tryz.prog w "strconv.ErrSyntax"=some #[.iface tp p])/\∃ tp p,World.var? Tryz.prog w "strconv.ErrRange"=some #[.iface tp p]
 mono:=λw w' h ⟨h2,⟨t3,p3,h3⟩,t4,p4,h4⟩=>by
  refine ⟨?_,⟨t3,p3,?_⟩,t4,p4,?_⟩
  ·simp only [Lib.TabIs,World.var?,gPow,Option.bind_some,h 3 (by decide)] at h2 ⊢;exact h2
  ·simp only [World.var?,gSyn,Option.bind_some,h 6 (by decide)] at h3 ⊢;exact h3
  ·simp only [World.var?,gRng,Option.bind_some,h 7 (by decide)] at h4 ⊢;exact h4
theorem int_range{n:Int}(h:inRange .i64 n=true):-9223372036854775808<=n/\n<=9223372036854775807:=by
 have h:IntKind.wrap .i64 n=n:=by simpa [inRange] using h
 have h1:∀ m,-9223372036854775808<=IntKind.wrap .i64 m/\IntKind.wrap .i64 m<=9223372036854775807:=by
  intro m
  have e:IntKind.wrap .i64 m=(m+2^63) % 2^64-2^63:=by
   simp only [IntKind.wrap,IntKind.signed,IntKind.bits];first|rfl|(simp;try omega)
  rw [e]
  constructor<;>omega
 rw [<- h];exact h1 n
theorem range_int{n:Int}(h0:-9223372036854775808<=n)(h1:n<=9223372036854775807):inRange .i64 n=true:=by
 have e:IntKind.wrap .i64 n=(n+2^63) % 2^64-2^63:=by
  simp only [IntKind.wrap,IntKind.signed,IntKind.bits];first|rfl|(simp;try omega)
 simp only [inRange,e,beq_iff_eq];omega
theorem strOk_le{n:Nat}(h:strOk n=true):n<=140737488355328:=by
 simp only [strOk,decide_eq_true_eq] at h;omega
theorem strOk_of{n:Nat}(h:n<=140737488355328):strOk n=true:=by
 simp only [strOk,decide_eq_true_eq];omega
theorem str_inv{w:World}{Z Y S:Nat->Prop}{v:Value}{x:List UInt8}(h:ValR w Z Y (false,.frz .str) v x S):v=strV x/\strOk x.length=true:=by
 obtain ⟨us,h1,h2,h3⟩:=h;have h1:us=[v]:=h1;subst h1;have h3:[v]=[strV x]/\strOk x.length=true:=h3;exact ⟨by simpa using h3.1,h3.2⟩
theorem int_inv{w:World}{Z Y S:Nat->Prop}{v:Value}{x:Int}(h:ValR w Z Y (false,.frz (.int .i64)) v x S):v=.int .i64 x/\inRange .i64 x=true:=by
 obtain ⟨us,h1,h2,h3⟩:=h;have h1:us=[v]:=h1;subst h1;have h3:[v]=[.int .i64 x]/\inRange .i64 x=true:=h3;exact ⟨by simpa using h3.1,h3.2⟩
theorem str_mk{w:World}{Z Y S:Nat->Prop}{x:List UInt8}(h:strOk x.length=true):ValR w Z Y (false,.frz .str) (strV x) x S:=⟨[strV x],rfl,rfl,rfl,h⟩
theorem int_mk{w:World}{Z Y S:Nat->Prop}{x:Int}(h:inRange .i64 x=true):ValR w Z Y (false,.frz (.int .i64)) (.int .i64 x) x S:=⟨[.int .i64 x],rfl,rfl,rfl,h⟩
theorem bool_mk{w:World}{Z Y S:Nat->Prop}{x:Bool}:ValR w Z Y (false,.frz .bool) (.bool x) x S:=⟨[.bool x],rfl,rfl,rfl⟩
theorem err_mk{w:World}{Z Y S:Nat->Prop}{v:Value}{b:Bool}(h1:v.cells=#[v])(h:ErrR b v):ValR w Z Y (false,.err) v b S:=⟨[v],rfl,rfl,v,rfl,h⟩
theorem post_pure{w w':World}{Z S:Nat->Prop}{ps:List Par}{rs:List VSh}{args:List Value}{e:Ending}{v:Value}{vals:List Value}{Ψ:outs (dens rs) (boxes ps)->Prop}{y:outs (dens rs) (boxes ps)}
  (he:e=.returned v) (hΨ:Ψ y) (hret:RetR rs v vals) (hv:ValsR w' Z (λ_=>False) rs vals (outFst (boxes ps) y) (λ_=>False)) (ho:OutsR w' Z (λ_=>False) ps args y (λ_=>False))
  (hZ:∀ b,Z b->b < w.heap.size) (hsz:w.heap.size<=w'.heap.size) (hk:∀ b,b < w.heap.size->w'.heap[b]?=w.heap[b]?) (hio:Io globs.dr w w') :
  ∃ y v vals,∃ Z' S1 S2:Nat->Prop,e=.returned v/\Ψ y/\RetR rs v vals /\
   ValsR w' Z' (λ_=>False) rs vals (outFst (boxes ps) y) S1/\OutsR w' Z' (λ_=>False) ps args y S2/\(∀ d,S1 d->S2 d->False) /\
   (∀ b,S1 b\/S2 b->b < w'.heap.size/\¬ Z' b/\(S b\/w.heap.size<=b))/\(∀ b,Z b->Z' b)/\(∀ b,Z' b->b < w'.heap.size/\(Z b\/S b\/w.heap.size<=b)) /\
   w.heap.size<=w'.heap.size/\(∀ b,b < w.heap.size->¬ S b->w'.heap[b]?=w.heap[b]?)/\Io globs.dr w w' :=
 ⟨y,v,vals,Z,λ_=>False,λ_=>False,he,hΨ,hret,hv,ho,λ_ h=>h.elim,λb hb=>by rcases hb with hb|hb<;>exact hb.elim,λ_ h=>h,λb hb=>⟨Nat.lt_of_lt_of_le (hZ b hb) hsz,.inl hb⟩,hsz,λb hb _=>hk b hb,hio⟩
theorem itoaS_ok:Contract Tryz.prog globs (itoaSSpec 395):=by
 refine ⟨⟨Tryz.f395,by kernel_rfl,by kernel_rfl,by kernel_rfl⟩,rfl,λw Z Y S args x Ψ hsat hG hZ hY hS hV=>?_⟩;obtain ⟨v,rfl,hv⟩:=hV;have hv:ValR w Z Y (false,.frz (.int .i64)) v x S:=hv;obtain ⟨rfl,hr⟩:=int_inv hv;obtain ⟨h0,h1⟩:=int_range hr;have hΨ:Ψ (Lib.itoa x):=hsat;have hc:=Any.strconv_Itoa itoaLay x h0 h1 w hG.1.1;change Calls Tryz.prog 395 _ _ _ at hc;refine hc.mono ?_;rintro e w' ⟨rfl,k,os,rfl⟩;refine post_pure (ps:=itoaS.ps) (rs:=itoaS.rs) rfl hΨ rfl ⟨strV (Lib.itoa x),rfl,str_mk (strOk_of (Nat.le_trans (Lib.itoa_length_le x h0 h1) (by omega)))⟩ ⟨_,_,rfl,trivial⟩ hZ ?_ ?_ ⟨rfl,rfl,rfl,λh=>False.elim h⟩
 ·show w.heap.size<=(w.heap++os).size;rw [Array.size_append];omega
 ·intro b hb;show (w.heap++os)[b]?=_;rw [Array.getElem?_append_left hb]
theorem u8_inv{w:World}{Z Y S:Nat->Prop}{v:Value}{x:Int}(h:ValR w Z Y (false,.frz (.int .u8)) v x S):v=.int .u8 x:=by
 obtain ⟨us,h1,h2,h3⟩:=h;have h1:us=[v]:=h1;subst h1;have h3:[v]=[.int .u8 x]/\inRange .u8 x=true:=h3;simpa using h3.1
theorem indexByte_range(l:List UInt8)(c:UInt8):-1<=Lib.indexByte l c/\Lib.indexByte l c < l.length\/Lib.indexByte l c=-1:=by
 induction l with
 |nil=>right;rfl
 |cons b l ih =>
  unfold Lib.indexByte;simp only [List.length_cons];split
  ·left;omega
  ·split
   ·right;rfl
   ·left;rcases ih with h|h
    ·omega
    ·rename_i h2;rw [h] at h2;simp at h2
theorem ixb_ok:Contract Tryz.prog globs (ixbSpec 373):=by
 refine ⟨⟨Tryz.f373,by kernel_rfl,by kernel_rfl,by kernel_rfl⟩,rfl,λw Z Y S args x Ψ hsat hG hZ hY hS hV=>?_⟩;obtain ⟨x1,x2⟩:=x;obtain ⟨v,vs',S1,S2,rfl,_,_,_,hv,v2,rfl,hv2⟩:=hV;have hv:ValR w Z Y (false,.frz .str) v x1 S1:=hv;have hv2:ValR w Z Y (false,.frz (.int .u8)) v2 x2 S2:=hv2;obtain ⟨rfl,hr⟩:=str_inv hv;obtain rfl:=u8_inv hv2;have hΨ:Ψ (Lib.indexByte x1 x2.toNat.toUInt8):=hsat;have hx:=strOk_le hr;have hi:=indexByte_range x1 x2.toNat.toUInt8;have hrg:inRange .i64 (Lib.indexByte x1 x2.toNat.toUInt8)=true:=range_int (by omega) (by omega);have hc:=Any.strings_IndexByte ixbLay ⟨⟨x1⟩⟩ x2 w;change Calls Tryz.prog 373 _ _ _ at hc;refine hc.mono ?_;rintro e w' ⟨rfl,rfl⟩;exact post_pure (ps:=ixb.ps) (rs:=ixb.rs) rfl hΨ rfl ⟨_,rfl,int_mk hrg⟩ ⟨_,_,rfl,_,_,rfl,trivial⟩ hZ (Nat.le_refl _) (λ_ _=>rfl) ⟨rfl,rfl,rfl,λh=>False.elim h⟩
theorem atoiSat_range(l:List UInt8):inRange .i64 (Lib.atoiSat l)=true:=by
 unfold Lib.atoiSat
 split<;>decide
theorem atoiS_ok:Contract Tryz.prog globs (atoiSSpec 648):=by
 refine ⟨⟨Tryz.f648,by kernel_rfl,by kernel_rfl,by kernel_rfl⟩,rfl,λw Z Y S args x Ψ hsat hG hZ hY hS hV=>?_⟩;obtain ⟨v,rfl,hv⟩:=hV;have hv:ValR w Z Y (false,.frz .str) v x S:=hv;obtain ⟨rfl,hr⟩:=str_inv hv;have hx:=strOk_le hr;have hsat:(atoiSRun x).sat Ψ:=hsat;unfold atoiSRun at hsat
 have fin:∀ (n:Int) (b:Bool) (u:Value) (w':World),inRange .i64 n=true->ErrR b u->u.cells=#[u]->Ψ (n,b)->RowKit.Below w.heap.size w w'->∃ y v vals,∃ Z' S1 S2:Nat->Prop,Ending.returned (.tuple #[.int .i64 n,u])=.returned v/\Ψ y/\RetR atoiS.rs v vals /\
   ValsR w' Z' (λ_=>False) atoiS.rs vals (outFst (boxes atoiS.ps) y) S1/\OutsR w' Z' (λ_=>False) atoiS.ps [strV x] y S2/\(∀ d,S1 d->S2 d->False) /\
   (∀ b,S1 b\/S2 b->b < w'.heap.size/\¬ Z' b/\(S b\/w.heap.size<=b))/\(∀ b,Z b->Z' b)/\(∀ b,Z' b->b < w'.heap.size/\(Z b\/S b\/w.heap.size<=b)) /\
   w.heap.size<=w'.heap.size/\(∀ b,b < w.heap.size->¬ S b->w'.heap[b]?=w.heap[b]?)/\Io globs.dr w w':=λn b u w' h1 h2 h3 h4 h5 =>
  post_pure (ps:=atoiS.ps) (rs:=atoiS.rs) (vals:=[.int .i64 n,u]) rfl h4 rfl ⟨_,_,λ_=>False,λ_=>False,rfl,λ_ h=>h,λ_ h=>h,λ_ h _=>h,int_mk h1,_,rfl,err_mk h3 h2⟩ ⟨_,_,rfl,trivial⟩ hZ h5.size h5.block ⟨h5.os,h5.output,h5.tape,λh=>False.elim h⟩
 rcases ha:Lib.atoiAll x with n|_|_
 ·rw [ha] at hsat;obtain ⟨b1,b2⟩:=Lib.atoiAll_bounds ha;have hc:=Any.strconv_Atoi_ok atoiLay ⟨⟨x⟩⟩ (show x.length<=_ by omega) n ha w;change Calls Tryz.prog 648 _ _ _ at hc;refine hc.mono ?_;rintro e w' ⟨rfl,hw⟩;refine fin n true .nilIface w' (range_int b1 b2) (.inl ⟨rfl,rfl⟩) rfl hsat ?_;rcases hw with rfl|⟨t,rfl⟩
  ·exact ⟨rfl,rfl,rfl,Nat.le_refl _,λ_ _=>rfl⟩
  ·exact Lib.bytesWorld_below _ _ _
 ·rw [ha] at hsat;obtain ⟨tp,p,hp⟩:=hG.1.2.1;have hc:=Any.strconv_Atoi_syntax_var atoiLay ⟨⟨x⟩⟩ (show x.length<=_ by omega) ha tp p w hp;change Calls Tryz.prog 648 _ _ _ at hc;refine hc.mono ?_;rintro e w' ⟨N,rfl,_,_,hb⟩;exact fin 0 false _ w' (by decide) (.inr ⟨rfl,_,_,rfl⟩) rfl hsat hb
 ·rw [ha] at hsat;obtain ⟨tp,p,hp⟩:=hG.1.2.2;have hc:=Any.strconv_Atoi_range_var atoiLay ⟨⟨x⟩⟩ (show x.length<=_ by omega) ha tp p w hp;change Calls Tryz.prog 648 _ _ _ at hc;refine hc.mono ?_;rintro e w' ⟨N,rfl,_,_,hb⟩;exact fin (Lib.atoiSat x) false _ w' (atoiSat_range x) (.inr ⟨rfl,_,_,rfl⟩) rfl hsat hb
end Go.Mach

