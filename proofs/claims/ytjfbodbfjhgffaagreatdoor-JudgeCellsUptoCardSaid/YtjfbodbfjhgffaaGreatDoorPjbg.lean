/-
  A part of the proofs of renlaw25.JudgeErases and renlaw25.JudgeCells: each law returns true for every input of the stated bulk and leaves its arguments as they were; no further condition.
  By an AI agent; no person has read it.
-/
import GoSem.ClaimFn
set_option linter.all false
set_option linter.deprecated false
namespace Go.Mach
open Go
def closT(T:List (List Nat)):Nat->List Nat->Nat->List Nat->Option (List Nat)
 |0,_,_,_=>none
 |_+1,[],_,seen=>some seen.reverse
 |n+1,f::todo,m,seen =>
  match m.testBit f with
  |true=>closT T n todo m seen
  |false=>closT T n ((T[f]?).getD []++todo) (m ||| 2^f) (f::seen)
theorem closT_spec{P:Program}{T:List (List Nat)}(hT:P.funcs.toList.map P.leadsTo=T):∀ (n:Nat) (todo:List Nat) (m:Nat) (seen L:List Nat),(∀ f,m.testBit f=seen.contains f)->closT T n todo m seen=some L ->
  ∀ k,n<=k+1->P.closureVia k todo seen=L
 |0,_,_,_,_,_,h,_,_=>by cases h
 |n+1,[],m,seen,L,hm,h,k,hk=>by
  have h:some seen.reverse=some L:=h;cases h
  cases k<;>rfl
 |n+1,f::todo,m,seen,L,hm,h,k,hk=>by
  have hn:n≠0:=by
   rintro rfl;simp only [closT] at h
   split at h<;>cases h
  obtain ⟨k,rfl⟩:∃ j,k=j+1:=⟨k-1,by omega⟩;simp only [closT] at h;simp only [Program.closureVia];split at h
  ·rename_i hb;rw [hm] at hb;rw [if_pos hb];exact closT_spec hT n todo m seen L hm h k (by omega)
  ·rename_i hb;rw [hm] at hb;rw [if_neg (by rw [hb];exact Bool.false_ne_true)]
   have e:(T[f]?).getD []=(P.funcs[f]?).elim [] P.leadsTo:=by
    rw [<- hT,List.getElem?_map,Array.getElem?_toList]
    cases P.funcs[f]?<;>rfl
   rw [e] at h;refine closT_spec hT n _ _ _ L (λg=>?_) h k (by omega);rw [Nat.testBit_or,hm,Nat.testBit_two_pow,List.contains_cons,Bool.or_comm];congr 1;rw [Bool.eq_iff_iff,decide_eq_true_iff,beq_iff_eq];exact eq_comm
theorem clos_eq{P:Program}{T:List (List Nat)}{f:FuncId}{L:List Nat}(n:Nat)(hT:P.funcs.toList.map P.leadsTo=T)(h:closT T n [f] 0 []=some L)(hn:n<=2+(T.map λl=>l.length+1).sum):P.closure f=L:=by
 unfold Program.closure
 have e:(P.funcs.toList.map λg=>(P.leadsTo g).length+1)=T.map λl=>l.length+1:=by rw [<- hT,List.map_map];rfl
 rw [e];exact closT_spec hT n [f] 0 [] L (λg=>by simp) h _ (by omega)
theorem map_step{α β:Type}{h:α->β}{l:List α}{a b:List β}(k n j:Nat)(hj:k+n=j)(h1:((l.drop k).take n).map h=a)(h2:(l.drop j).map h=b):(l.drop k).map h=a++b:=by
 subst hj;rw [<- h1,<- h2,<- List.drop_drop,<- List.map_append,List.take_append_drop]
end Go.Mach

