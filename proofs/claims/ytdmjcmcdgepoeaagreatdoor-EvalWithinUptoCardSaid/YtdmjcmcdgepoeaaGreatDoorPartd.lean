/-
  Proved here: the law renlaw12.EvalWithin returns true for every input of the stated bulk and leaves its arguments as they were; no further condition.
  By an AI agent; no person has read it.
-/
import Derived.Test.YtdmjcmcdgepoeaaGreatDoorPartc
import Derived.KernelRfl
import Derived.Test.YtdmjcmcdgepoeaaGreatDoorProg
set_option linter.all false
set_option linter.deprecated false
set_option linter.unusedVariables false
set_option maxRecDepth 20000
noncomputable section
namespace Go.Mach
open Res
abbrev cg.g:Sg:=⟨[.s,.s],[vb]⟩
def R.cg (s_0:(List UInt8)) (suffix_1:(List UInt8)):Res (Bool) :=
 given (cg.g.i (s_0,suffix_1)) (br (ile (suffix_1.length:Int) (s_0.length:Int)) (ah (ile 0 (IntKind.wrap .i64 ((s_0.length:Int)-(suffix_1.length:Int))) && ile (IntKind.wrap .i64 ((s_0.length:Int)-(suffix_1.length:Int))) s_0.length) (ok (((List.drop (Int.toNat (IntKind.wrap .i64 ((s_0.length:Int)-(suffix_1.length:Int)))) s_0) == suffix_1)))) (ok false))
abbrev cP.g:Sg:=⟨[.s,.s],[vs,vb]⟩
def R.cP (s_0:(List UInt8)) (suffix_1:(List UInt8)):Res (((List UInt8)×Bool)) :=
 given (cP.g.i (s_0,suffix_1)) (bd (R.cg s_0 suffix_1) fun r1=>br (!r1) (ok ((s_0,false))) (ah (ile 0 (IntKind.wrap .i64 ((s_0.length:Int)-(suffix_1.length:Int))) && ile (IntKind.wrap .i64 ((s_0.length:Int)-(suffix_1.length:Int))) s_0.length) (ok (((List.take (Int.toNat (IntKind.wrap .i64 ((s_0.length:Int)-(suffix_1.length:Int)))) s_0),true)))))
abbrev dF.g:Sg:=⟨[.s,.s],[vs,vb]⟩
def R.dF (s_0:(List UInt8)) (suffix_1:(List UInt8)):Res (((List UInt8)×Bool)) :=
 given (dF.g.i (s_0,suffix_1)) (bd (R.cP s_0 suffix_1) fun r1=>given (cP.g.o r1) (ok r1))
abbrev eE.g:Sg:=⟨[.s],[vi]⟩
def R.eE (s_0:(List UInt8)):Res (Int) :=
 given (eE.g.i s_0) (bd (R.ep) fun r1=>given (ep.g.o r1) (bd (R.bQ r1 s_0) fun r2=>given (bQ.g.o r2) (ok (IntKind.wrap .i64 (1+r2)))))
abbrev jJ.g:Sg:=⟨[.s],[vi]⟩
def R.jJ (s_0:(List UInt8)):Res (Int) :=
 given (jJ.g.i s_0) (bd (R.dF s_0 [65,114,114,97,121]) fun r1=>given (dF.g.o r1) (br r1.2 (bd (R.eE r1.1) fun r2=>given (eE.g.o r2) (ok r2)) (ok 0)))
abbrev fo.g:Sg:=⟨[.obj aG,.i,.i,.val true (.frz aC),.val true (.frz aC)],[(true,(.frz aC)),vi]⟩
def R.fo (r_0:aG.den) (kind_1:Int) (ref_2:Int) (b_3:aC.den) (c_4:aC.den):Res ((aC.den×Int)×aG.den) :=
 given (fo.g.i (r_0,(kind_1,(ref_2,(b_3,c_4))))) (bd (R.bN kind_1) fun r1=>given (bN.g.o r1) (bd (R.dD r_0 ref_2) fun r2=>given (dD.g.o r2) (bd (R.cQ b_3) fun r3=>given (cQ.g.o r3) (br (!(r3.2 == 0)) (bd (R.aF r_0 r3.2) fun r4=>given (aF.g.o r4) (ok r4)) (ah (!(r1 == 0)) (br (!((Int.tmod r3.1 r1) == 0)) (bd (R.aF r_0 2) fun r5=>given (aF.g.o r5) (ok r5)) (bd (α:=(Int ⊕ (Int×(aG.den×aC.den)))) (br (!(c_4.1 == 0)) (bd (R.cQ c_4) fun r6=>given (cQ.g.o r6) (br (!(r6.2 == 0)) (bd (R.aF r_0 r6.2) fun r7=>given (aF.g.o r7) (ok (.inr (r7.1.2,(r7.2,r7.1.1))))) (ok (.inl r6.1)))) (ok (.inl 0))) fun n8=>sum n8 (fun n9=>bd (α:=(Int ⊕ (Int×(aG.den×aC.den)))) (bd (α:=Bool) (br (c_4.1 == 0) (ah (!(r1 == 0)) (br (!((Int.tmod r2 r1) == 0)) (ok true) (br (ilt r2 r3.1) (ok true) (ah (!(r1 == 0)) (ok ((ilt (IntKind.wrap .i64 (Int.tdiv (IntKind.wrap .i64 (r2-r3.1)) r1)) n9))))))) (br (ilt r2 r3.1) (ok true) (ah (!(r1 == 0)) (ok ((ilt (IntKind.wrap .i64 (Int.tdiv (IntKind.wrap .i64 (r2-r3.1)) r1)) n9)))))) fun x11=>br x11 (bd (R.aF r_0 2) fun r12=>given (aF.g.o r12) (ok (.inr (r12.1.2,(r12.2,r12.1.1))))) (br (c_4.1 == 0) (ah (!(r1 == 0)) (ok (.inl (IntKind.wrap .i64 (Int.tdiv (IntKind.wrap .i64 (r2-r3.1)) r1))))) (ok (.inl n9)))) fun n13=>sum n13 (fun n14=>bd (R.aT r_0 (7,(0,(([]:List bO.den),(([]:List bJ.den),(([]:List UInt8),(0,(0,(zV,(kind_1,(ref_2,(r3.1,(n14,([]:List Int)))))))))))))) fun r16=>given (aT.g.o r16) (ok r16)) (fun z15=>ok (((z15.2.2,z15.1),z15.2.1)))) (fun z10=>ok (((z10.2.2,z10.1),z10.2.1))))))))))
abbrev eW.g:Sg:=⟨[.obj aG,.i,.val false (.bor (.own (.frz aC)))],[(true,(.frz aC)),vi]⟩
def R.eW (r_0:aG.den) (kind_1:Int) (l_2:(List aC.den)):Res ((aC.den×Int)×aG.den) :=
 given (eW.g.i (r_0,(kind_1,l_2))) (bd (R.bU l_2 0) fun r1=>given (bU.g.o r1) (bd (R.bU l_2 1) fun r2=>given (bU.g.o r2) (bd (R.bU l_2 2) fun r3=>given (bU.g.o r3) (bd (R.bN kind_1) fun r4=>given (bN.g.o r4) (bd (R.dq r_0 r1) fun r5=>br r5 (bd (R.fo r_0 kind_1 r1.2.2.2.2 r2 r3) fun r6=>given (fo.g.o r6) (ok r6)) (br (r1.1 == 6) (bd (R.aK r_0) fun r7=>given (aK.g.o r7) (ok r7)) (bd (R.cQ r1) fun r8=>given (cQ.g.o r8) (br (!(r8.2 == 0)) (bd (R.aF r_0 r8.2) fun r9=>given (aF.g.o r9) (ok r9)) (ah (!(r4 == 0)) (br (ilt (IntKind.wrap .i64 (Int.tdiv 4096 r4)) r8.1) (bd (R.aF r_0 2) fun r10=>given (aF.g.o r10) (ok r10)) (ah (ile 0 (IntKind.wrap .i64 (r8.1*r4)) && (ile (IntKind.wrap .i64 (r8.1*r4)) (IntKind.wrap .i64 (r8.1*r4)) && decide ((Int.toNat (IntKind.wrap .i64 (r8.1*r4)))*1<=2^47))) (bd (R.aT r_0 (5,(0,(([]:List bO.den),(([]:List bJ.den),(([]:List UInt8),(0,(0,(zV,(0,(0,(0,(0,(List.replicate (Int.toNat (IntKind.wrap .i64 (r8.1*r4))) (0:Int))))))))))))))) fun r11=>given (aT.g.o r11) (br (!(r11.1.2 == 0)) (ok r11) (bd (R.aT r11.2 (7,(0,(([]:List bO.den),(([]:List bJ.den),(([]:List UInt8),(0,(0,(zV,(kind_1,(r11.1.1.2.2.2.2,(0,(r8.1,([]:List Int)))))))))))))) fun r12=>given (aT.g.o r12) (ok r12)))))))))))))))
abbrev cG.g:Sg:=⟨[.val false (.bor (.own .h)),.val false (.bor (.own .h))],[vi]⟩
def R.cG (a_0:(List Int)) (b_1:(List Int)):Res (Int) :=
 given (cG.g.i (a_0,b_1)) (bd (R.eI a_0) fun r1=>given (eI.g.o r1) (bd (R.eI b_1) fun r2=>given (eI.g.o r2) (ok (IntKind.wrap .i64 (r1.1-r2.1)))))
abbrev aP.g:Sg:=⟨[.obj (.own (.frz (.list (.int .u16)))),.i,.i,.val false (.bor (.clo 436 .nil))],[]⟩
def R.aP (data_0:(List (List Int))) (a_1:Int) (b_2:Int) (cmp_3:Unit):Res (Unit×(List (List Int))) :=
 given (aP.g.i (data_0,(a_1,(b_2,cmp_3)))) (bd (loop (α:=(Int×(List (List Int)))) (β:=(List (List Int))) (fun i1=>br (ilt i1.1 b_2) (bd (loop (α:=(Int×(List (List Int)))) (β:=(List (List Int))) (fun j2=>bd (α:=Bool) (br (ilt a_1 j2.1) (ah (ile 0 j2.1 && ilt j2.1 j2.2.length) (idx (.list (.int .u16)) j2.2 (0+Int.toNat j2.1) fun e3=>ah (ile 0 (IntKind.wrap .i64 (j2.1-1)) && ilt (IntKind.wrap .i64 (j2.1-1)) j2.2.length) (idx (.list (.int .u16)) j2.2 (0+Int.toNat (IntKind.wrap .i64 (j2.1-1))) fun e4=>bd (R.cG e3 e4) fun r5=>given (cG.g.o r5) (ok ((ilt r5 0)))))) (ok false)) fun x6=>br x6 (ah (ile 0 (IntKind.wrap .i64 (j2.1-1)) && ilt (IntKind.wrap .i64 (j2.1-1)) j2.2.length) (idx (.list (.int .u16)) j2.2 (0+Int.toNat (IntKind.wrap .i64 (j2.1-1))) fun e7=>ah (ile 0 j2.1 && ilt j2.1 j2.2.length) (idx (.list (.int .u16)) j2.2 (0+Int.toNat j2.1) fun e8=>ah (ile 0 j2.1 && ilt j2.1 j2.2.length) (idx (.list (.int .u16)) j2.2 (0+Int.toNat j2.1) fun e9=>ah (ile 0 (IntKind.wrap .i64 (j2.1-1)) && ilt (IntKind.wrap .i64 (j2.1-1)) (List.set j2.2 (0+Int.toNat j2.1) e7).length) (idx (.list (.int .u16)) (List.set j2.2 (0+Int.toNat j2.1) e7) (0+Int.toNat (IntKind.wrap .i64 (j2.1-1))) fun e10=>ok (.next ((IntKind.wrap .i64 (j2.1-1),(List.set (List.set j2.2 (0+Int.toNat j2.1) e7) (0+Int.toNat (IntKind.wrap .i64 (j2.1-1))) e8))))))))) (ok (.done (j2.2)))) fuel i1) fun x11=>ok (.next ((IntKind.wrap .i64 (i1.1+1),x11)))) (ok (.done (i1.2)))) fuel (IntKind.wrap .i64 (a_1+1),data_0)) fun x12=>ok (((),x12)))
abbrev aN.g:Sg:=⟨[.obj (.own (.frz (.list (.int .u16)))),.i,.i,.i,.val false (.bor (.clo 436 .nil))],[]⟩
def R.aN (data_0:(List (List Int))) (a_1:Int) (b_2:Int) (n_3:Int) (cmp_4:Unit):Res (Unit×(List (List Int))) :=
 given (aN.g.i (data_0,(a_1,(b_2,(n_3,cmp_4))))) (bd (loop (α:=(Int×(List (List Int)))) (β:=(List (List Int))) (fun i1=>br (ilt i1.1 n_3) (ah (ile 0 (IntKind.wrap .i64 (b_2+i1.1)) && ilt (IntKind.wrap .i64 (b_2+i1.1)) i1.2.length) (idx (.list (.int .u16)) i1.2 (0+Int.toNat (IntKind.wrap .i64 (b_2+i1.1))) fun e2=>ah (ile 0 (IntKind.wrap .i64 (a_1+i1.1)) && ilt (IntKind.wrap .i64 (a_1+i1.1)) i1.2.length) (idx (.list (.int .u16)) i1.2 (0+Int.toNat (IntKind.wrap .i64 (a_1+i1.1))) fun e3=>ah (ile 0 (IntKind.wrap .i64 (a_1+i1.1)) && ilt (IntKind.wrap .i64 (a_1+i1.1)) i1.2.length) (idx (.list (.int .u16)) i1.2 (0+Int.toNat (IntKind.wrap .i64 (a_1+i1.1))) fun e4=>ah (ile 0 (IntKind.wrap .i64 (b_2+i1.1)) && ilt (IntKind.wrap .i64 (b_2+i1.1)) (List.set i1.2 (0+Int.toNat (IntKind.wrap .i64 (a_1+i1.1))) e2).length) (idx (.list (.int .u16)) (List.set i1.2 (0+Int.toNat (IntKind.wrap .i64 (a_1+i1.1))) e2) (0+Int.toNat (IntKind.wrap .i64 (b_2+i1.1))) fun e5=>ok (.next ((IntKind.wrap .i64 (i1.1+1),(List.set (List.set i1.2 (0+Int.toNat (IntKind.wrap .i64 (a_1+i1.1))) e2) (0+Int.toNat (IntKind.wrap .i64 (b_2+i1.1))) e3))))))))) (ok (.done (i1.2)))) fuel (0,data_0)) fun x6=>ok (((),x6)))
abbrev aV.g:Sg:=⟨[.obj (.own (.frz (.list (.int .u16)))),.i,.i,.i,.val false (.bor (.clo 436 .nil))],[]⟩
def R.aV (data_0:(List (List Int))) (a_1:Int) (m_2:Int) (b_3:Int) (cmp_4:Unit):Res (Unit×(List (List Int))) :=
 given (aV.g.i (data_0,(a_1,(m_2,(b_3,cmp_4))))) (bd (loop (α:=(Int×(Int×(List (List Int))))) (β:=(Int×(List (List Int)))) (fun i1=>br (!(i1.1 == i1.2.1)) (br (ilt i1.2.1 i1.1) (bd (R.aN i1.2.2 (IntKind.wrap .i64 (m_2-i1.1)) m_2 i1.2.1 ()) fun r2=>given (aN.g.o r2) (ok (.next ((IntKind.wrap .i64 (i1.1-i1.2.1),(i1.2.1,r2.2)))))) (bd (R.aN i1.2.2 (IntKind.wrap .i64 (m_2-i1.1)) (IntKind.wrap .i64 ((IntKind.wrap .i64 (m_2+i1.2.1))-i1.1)) i1.1 ()) fun r3=>given (aN.g.o r3) (ok (.next ((i1.1,(IntKind.wrap .i64 (i1.2.1-i1.1),r3.2))))))) (ok (.done ((i1.1,i1.2.2))))) fuel (IntKind.wrap .i64 (m_2-a_1),(IntKind.wrap .i64 (b_3-m_2),data_0))) fun i4=>bd (R.aN i4.2 (IntKind.wrap .i64 (m_2-i4.1)) m_2 i4.1 ()) fun r5=>given (aN.g.o r5) (ok (((),r5.2))))
abbrev aJ.g:Sg:=⟨[.obj (.own (.frz (.list (.int .u16)))),.i,.i,.i,.val false (.bor (.clo 436 .nil))],[]⟩
def R.aJ:Nat->(List (List Int))->Int->Int->Int->Unit->Res (Unit×(List (List Int)))
 |0,_,_,_,_,_=>.stuck
 |fu+1,data_0,a_1,m_2,b_3,cmp_4=>given (aJ.g.i (data_0,(a_1,(m_2,(b_3,cmp_4))))) (br ((IntKind.wrap .i64 (m_2-a_1)) == 1) (bd (loop (α:=(Int×Int)) (β:=Int) (fun i1=>br (ilt i1.1 i1.2) (ah (ile 0 1) (ah (ile 0 (IntKind.wrap .i64 (ir .u64 (IntKind.wrap .u64 (IntKind.wrap .i64 (i1.1+i1.2))) 1)) && ilt (IntKind.wrap .i64 (ir .u64 (IntKind.wrap .u64 (IntKind.wrap .i64 (i1.1+i1.2))) 1)) data_0.length) (idx (.list (.int .u16)) data_0 (0+Int.toNat (IntKind.wrap .i64 (ir .u64 (IntKind.wrap .u64 (IntKind.wrap .i64 (i1.1+i1.2))) 1))) fun e2=>ah (ile 0 a_1 && ilt a_1 data_0.length) (idx (.list (.int .u16)) data_0 (0+Int.toNat a_1) fun e3=>bd (R.cG e2 e3) fun r4=>given (cG.g.o r4) (br (ilt r4 0) (ok (.next ((IntKind.wrap .i64 ((IntKind.wrap .i64 (ir .u64 (IntKind.wrap .u64 (IntKind.wrap .i64 (i1.1+i1.2))) 1))+1),i1.2)))) (ok (.next ((i1.1,IntKind.wrap .i64 (ir .u64 (IntKind.wrap .u64 (IntKind.wrap .i64 (i1.1+i1.2))) 1)))))))))) (ok (.done (i1.1)))) fuel (m_2,b_3)) fun i5=>bd (loop (α:=(Int×(List (List Int)))) (β:=(List (List Int))) (fun k6=>br (ilt k6.1 (IntKind.wrap .i64 (i5-1))) (ah (ile 0 (IntKind.wrap .i64 (k6.1+1)) && ilt (IntKind.wrap .i64 (k6.1+1)) k6.2.length) (idx (.list (.int .u16)) k6.2 (0+Int.toNat (IntKind.wrap .i64 (k6.1+1))) fun e7=>ah (ile 0 k6.1 && ilt k6.1 k6.2.length) (idx (.list (.int .u16)) k6.2 (0+Int.toNat k6.1) fun e8=>ah (ile 0 k6.1 && ilt k6.1 k6.2.length) (idx (.list (.int .u16)) k6.2 (0+Int.toNat k6.1) fun e9=>ah (ile 0 (IntKind.wrap .i64 (k6.1+1)) && ilt (IntKind.wrap .i64 (k6.1+1)) (List.set k6.2 (0+Int.toNat k6.1) e7).length) (idx (.list (.int .u16)) (List.set k6.2 (0+Int.toNat k6.1) e7) (0+Int.toNat (IntKind.wrap .i64 (k6.1+1))) fun e10=>ok (.next ((IntKind.wrap .i64 (k6.1+1),(List.set (List.set k6.2 (0+Int.toNat k6.1) e7) (0+Int.toNat (IntKind.wrap .i64 (k6.1+1))) e8))))))))) (ok (.done (k6.2)))) fuel (a_1,data_0)) fun x11=>ok (((),x11))) (br ((IntKind.wrap .i64 (b_3-m_2)) == 1) (bd (loop (α:=(Int×Int)) (β:=Int) (fun i12=>br (ilt i12.1 i12.2) (ah (ile 0 1) (ah (ile 0 m_2 && ilt m_2 data_0.length) (idx (.list (.int .u16)) data_0 (0+Int.toNat m_2) fun e13=>ah (ile 0 (IntKind.wrap .i64 (ir .u64 (IntKind.wrap .u64 (IntKind.wrap .i64 (i12.1+i12.2))) 1)) && ilt (IntKind.wrap .i64 (ir .u64 (IntKind.wrap .u64 (IntKind.wrap .i64 (i12.1+i12.2))) 1)) data_0.length) (idx (.list (.int .u16)) data_0 (0+Int.toNat (IntKind.wrap .i64 (ir .u64 (IntKind.wrap .u64 (IntKind.wrap .i64 (i12.1+i12.2))) 1))) fun e14=>bd (R.cG e13 e14) fun r15=>given (cG.g.o r15) (br (!(ilt r15 0)) (ok (.next ((IntKind.wrap .i64 ((IntKind.wrap .i64 (ir .u64 (IntKind.wrap .u64 (IntKind.wrap .i64 (i12.1+i12.2))) 1))+1),i12.2)))) (ok (.next ((i12.1,IntKind.wrap .i64 (ir .u64 (IntKind.wrap .u64 (IntKind.wrap .i64 (i12.1+i12.2))) 1)))))))))) (ok (.done (i12.1)))) fuel (a_1,m_2)) fun i16=>bd (loop (α:=(Int×(List (List Int)))) (β:=(List (List Int))) (fun k17=>br (ilt i16 k17.1) (ah (ile 0 (IntKind.wrap .i64 (k17.1-1)) && ilt (IntKind.wrap .i64 (k17.1-1)) k17.2.length) (idx (.list (.int .u16)) k17.2 (0+Int.toNat (IntKind.wrap .i64 (k17.1-1))) fun e18=>ah (ile 0 k17.1 && ilt k17.1 k17.2.length) (idx (.list (.int .u16)) k17.2 (0+Int.toNat k17.1) fun e19=>ah (ile 0 k17.1 && ilt k17.1 k17.2.length) (idx (.list (.int .u16)) k17.2 (0+Int.toNat k17.1) fun e20=>ah (ile 0 (IntKind.wrap .i64 (k17.1-1)) && ilt (IntKind.wrap .i64 (k17.1-1)) (List.set k17.2 (0+Int.toNat k17.1) e18).length) (idx (.list (.int .u16)) (List.set k17.2 (0+Int.toNat k17.1) e18) (0+Int.toNat (IntKind.wrap .i64 (k17.1-1))) fun e21=>ok (.next ((IntKind.wrap .i64 (k17.1-1),(List.set (List.set k17.2 (0+Int.toNat k17.1) e18) (0+Int.toNat (IntKind.wrap .i64 (k17.1-1))) e19))))))))) (ok (.done (k17.2)))) fuel (m_2,data_0)) fun x22=>ok (((),x22))) (ah (ile 0 1) (bd (α:=(Int×Int)) (br (ilt (IntKind.wrap .i64 (ir .u64 (IntKind.wrap .u64 (IntKind.wrap .i64 (a_1+b_3))) 1)) m_2) (ok ((IntKind.wrap .i64 ((IntKind.wrap .i64 ((IntKind.wrap .i64 (ir .u64 (IntKind.wrap .u64 (IntKind.wrap .i64 (a_1+b_3))) 1))+m_2))-b_3),IntKind.wrap .i64 (ir .u64 (IntKind.wrap .u64 (IntKind.wrap .i64 (a_1+b_3))) 1)))) (ok ((a_1,m_2)))) fun start23=>bd (loop (α:=(Int×Int)) (β:=Int) (fun start24=>br (ilt start24.1 start24.2) (ah (ile 0 1) (ah (ile 0 (IntKind.wrap .i64 ((IntKind.wrap .i64 ((IntKind.wrap .i64 ((IntKind.wrap .i64 (ir .u64 (IntKind.wrap .u64 (IntKind.wrap .i64 (a_1+b_3))) 1))+m_2))-1))-(IntKind.wrap .i64 (ir .u64 (IntKind.wrap .u64 (IntKind.wrap .i64 (start24.1+start24.2))) 1)))) && ilt (IntKind.wrap .i64 ((IntKind.wrap .i64 ((IntKind.wrap .i64 ((IntKind.wrap .i64 (ir .u64 (IntKind.wrap .u64 (IntKind.wrap .i64 (a_1+b_3))) 1))+m_2))-1))-(IntKind.wrap .i64 (ir .u64 (IntKind.wrap .u64 (IntKind.wrap .i64 (start24.1+start24.2))) 1)))) data_0.length) (idx (.list (.int .u16)) data_0 (0+Int.toNat (IntKind.wrap .i64 ((IntKind.wrap .i64 ((IntKind.wrap .i64 ((IntKind.wrap .i64 (ir .u64 (IntKind.wrap .u64 (IntKind.wrap .i64 (a_1+b_3))) 1))+m_2))-1))-(IntKind.wrap .i64 (ir .u64 (IntKind.wrap .u64 (IntKind.wrap .i64 (start24.1+start24.2))) 1))))) fun e25=>ah (ile 0 (IntKind.wrap .i64 (ir .u64 (IntKind.wrap .u64 (IntKind.wrap .i64 (start24.1+start24.2))) 1)) && ilt (IntKind.wrap .i64 (ir .u64 (IntKind.wrap .u64 (IntKind.wrap .i64 (start24.1+start24.2))) 1)) data_0.length) (idx (.list (.int .u16)) data_0 (0+Int.toNat (IntKind.wrap .i64 (ir .u64 (IntKind.wrap .u64 (IntKind.wrap .i64 (start24.1+start24.2))) 1))) fun e26=>bd (R.cG e25 e26) fun r27=>given (cG.g.o r27) (br (!(ilt r27 0)) (ok (.next ((IntKind.wrap .i64 ((IntKind.wrap .i64 (ir .u64 (IntKind.wrap .u64 (IntKind.wrap .i64 (start24.1+start24.2))) 1))+1),start24.2)))) (ok (.next ((start24.1,IntKind.wrap .i64 (ir .u64 (IntKind.wrap .u64 (IntKind.wrap .i64 (start24.1+start24.2))) 1)))))))))) (ok (.done (start24.1)))) fuel start23) fun start28=>bd (α:=(List (List Int))) (bd (α:=Bool) (br (ilt start28 m_2) (ok ((ilt m_2 (IntKind.wrap .i64 ((IntKind.wrap .i64 ((IntKind.wrap .i64 (ir .u64 (IntKind.wrap .u64 (IntKind.wrap .i64 (a_1+b_3))) 1))+m_2))-start28))))) (ok false)) fun x29=>br x29 (bd (R.aV data_0 start28 m_2 (IntKind.wrap .i64 ((IntKind.wrap .i64 ((IntKind.wrap .i64 (ir .u64 (IntKind.wrap .u64 (IntKind.wrap .i64 (a_1+b_3))) 1))+m_2))-start28)) ()) fun r30=>given (aV.g.o r30) (ok (r30.2))) (ok data_0)) fun x31=>bd (α:=(List (List Int))) (bd (α:=Bool) (br (ilt a_1 start28) (ok ((ilt start28 (IntKind.wrap .i64 (ir .u64 (IntKind.wrap .u64 (IntKind.wrap .i64 (a_1+b_3))) 1))))) (ok false)) fun x32=>br x32 (bd (R.aJ fu x31 a_1 start28 (IntKind.wrap .i64 (ir .u64 (IntKind.wrap .u64 (IntKind.wrap .i64 (a_1+b_3))) 1)) ()) fun r33=>given (aJ.g.o r33) (ok (r33.2))) (ok x31)) fun x34=>bd (α:=Bool) (br (ilt (IntKind.wrap .i64 (ir .u64 (IntKind.wrap .u64 (IntKind.wrap .i64 (a_1+b_3))) 1)) (IntKind.wrap .i64 ((IntKind.wrap .i64 ((IntKind.wrap .i64 (ir .u64 (IntKind.wrap .u64 (IntKind.wrap .i64 (a_1+b_3))) 1))+m_2))-start28))) (ok ((ilt (IntKind.wrap .i64 ((IntKind.wrap .i64 ((IntKind.wrap .i64 (ir .u64 (IntKind.wrap .u64 (IntKind.wrap .i64 (a_1+b_3))) 1))+m_2))-start28)) b_3))) (ok false)) fun x35=>br x35 (bd (R.aJ fu x34 (IntKind.wrap .i64 (ir .u64 (IntKind.wrap .u64 (IntKind.wrap .i64 (a_1+b_3))) 1)) (IntKind.wrap .i64 ((IntKind.wrap .i64 ((IntKind.wrap .i64 (ir .u64 (IntKind.wrap .u64 (IntKind.wrap .i64 (a_1+b_3))) 1))+m_2))-start28)) b_3 ()) fun r36=>given (aJ.g.o r36) (ok (((),r36.2)))) (ok (((),x34)))))))
abbrev aW.g:Sg:=⟨[.obj (.own (.frz (.list (.int .u16)))),.i,.val false (.bor (.clo 436 .nil))],[]⟩
def R.aW (data_0:(List (List Int))) (n_1:Int) (cmp_2:Unit):Res (Unit×(List (List Int))) :=
 given (aW.g.i (data_0,(n_1,cmp_2))) (bd (loop (α:=(Int×(Int×(List (List Int))))) (β:=(Int×(List (List Int)))) (fun a1=>br (ile a1.2.1 n_1) (bd (R.aP a1.2.2 a1.1 a1.2.1 ()) fun r2=>given (aP.g.o r2) (ok (.next ((a1.2.1,(IntKind.wrap .i64 (a1.2.1+20),r2.2)))))) (ok (.done ((a1.1,a1.2.2))))) fuel (0,(20,data_0))) fun a3=>bd (R.aP a3.2 a3.1 n_1 ()) fun r4=>given (aP.g.o r4) (bd (loop (α:=(Int×(List (List Int)))) (β:=(List (List Int))) (fun blockSize5=>br (ilt blockSize5.1 n_1) (bd (loop (α:=(Int×(Int×(List (List Int))))) (β:=(Int×(List (List Int)))) (fun a6=>br (ile a6.2.1 n_1) (bd (R.aJ fuel a6.2.2 a6.1 (IntKind.wrap .i64 (a6.1+blockSize5.1)) a6.2.1 ()) fun r7=>given (aJ.g.o r7) (ok (.next ((a6.2.1,(IntKind.wrap .i64 (a6.2.1+(IntKind.wrap .i64 (2*blockSize5.1))),r7.2)))))) (ok (.done ((a6.1,a6.2.2))))) fuel (0,(IntKind.wrap .i64 (2*blockSize5.1),blockSize5.2))) fun a8=>br (ilt (IntKind.wrap .i64 (a8.1+blockSize5.1)) n_1) (bd (R.aJ fuel a8.2 a8.1 (IntKind.wrap .i64 (a8.1+blockSize5.1)) n_1 ()) fun r9=>given (aJ.g.o r9) (ok (.next ((IntKind.wrap .i64 (blockSize5.1*2),r9.2))))) (ok (.next ((IntKind.wrap .i64 (blockSize5.1*2),a8.2))))) (ok (.done (blockSize5.2)))) fuel (20,r4.2)) fun x10=>ok (((),x10))))
abbrev aU.g:Sg:=⟨[.obj (.own (.frz (.list (.int .u16)))),.val false (.bor (.clo 436 .nil))],[]⟩
def R.aU (x_0:(List (List Int))) (cmp_1:Unit):Res (Unit×(List (List Int))) :=
 given (aU.g.i (x_0,cmp_1)) (bd (R.aW x_0 (x_0.length:Int) ()) fun r1=>given (aW.g.o r1) (ok (((),r1.2))))
abbrev fQ.g:Sg:=⟨[.val false (.bor dz),.i],[(false,(.own (.frz (.list (.int .u16)))))]⟩
def R.fQ (h_0:gy.den) (ref_1:Int):Res ((List (List Int))) :=
 given (fQ.g.i (h_0,ref_1)) (bd (R.bB h_0 ref_1) fun r1=>br (!r1) (ok (([]:List (List Int)))) (dC kv h_0.2 ref_1 fun e2=>bd (loop (α:=((List (List Int))×((List (List Int))×Int))) (β:=((List (List Int))×(List (List Int)))) (fun places3=>br (ilt places3.2.2 (e2.2.2.1.length:Int)) (dC (.frz bO) e2.2.2.1 places3.2.2 fun e4=>bd (ok e4.1) fun r5=>given (ma (.int .u16) r5) (bd (R.eI r5) fun r6=>given (eI.g.o r6) (br r6.2 (ah (decide ((places3.1.length+[r5].length)*24<=2^47)) (ok (.next (((places3.1++[r5]),(places3.2.1,IntKind.wrap .i64 (places3.2.2+1))))))) (ah (decide ((places3.2.1.length+[r5].length)*24<=2^47)) (ok (.next ((places3.1,((places3.2.1++[r5]),IntKind.wrap .i64 (places3.2.2+1)))))))))) (ok (.done ((places3.1,places3.2.1))))) fuel (([]:List (List Int)),(([]:List (List Int)),0))) fun places7=>bd (R.aU places7.1 ()) fun r8=>given (aU.g.o r8) (ah (decide ((r8.2.length+places7.2.length)*24<=2^47)) (ok ((r8.2++places7.2))))))
abbrev fq.g:Sg:=⟨[.obj aG,.val true (.bor (.seq .i (.seq (.frz aH) (.seq (.seq .b (.own .w)) (.seq (.own .h) .i)))))],[(true,(.frz aC)),vi]⟩
def R.fq (r_0:aG.den) (x_1:aC.den):Res ((aC.den×Int)×aG.den) :=
 given (fq.g.i (r_0,x_1)) (bd (R.jC x_1) fun r1=>br r1 (bd (R.aF r_0 1) fun r2=>given (aF.g.o r2) (ok r2)) (bd (α:=Int) (br (x_1.1 == 6) (bd (R.ay r_0.2.2.2.2.1 x_1.2.2.2.2) fun r3=>given (ay.g.o r3) (ok r3)) (ok 0)) fun kind4=>bd (α:=((List (List Int)) ⊕ (Int×(aG.den×aC.den)))) (br (kind4 == 1) (bd (R.fQ r_0.2.2.2.2.1 x_1.2.2.2.2) fun r5=>given (fQ.g.o r5) (ok (.inl r5))) (br (kind4 == 2) (bd (R.bM r_0.2.2.2.2.1 x_1.2.2.2.2) fun r6=>given (bM.g.o r6) (bd (loop (α:=((List (List Int))×Int)) (β:=(List (List Int))) (fun l7=>br (ilt l7.2 r6) (bd (R.fL l7.2) fun r8=>given (fL.g.o r8) (ah (decide ((l7.1.length+[r8].length)*24<=2^47)) (ok (.next (((l7.1++[r8]),IntKind.wrap .i64 (l7.2+1))))))) (ok (.done (l7.1)))) fuel (([]:List (List Int)),0)) fun l9=>ok (.inl l9))) (bd (R.aK r_0) fun r10=>given (aK.g.o r10) (ok (.inr (r10.1.2,(r10.2,r10.1.1))))))) fun l11=>sum l11 (fun l12=>bd (R.aT r_0 (2,(0,(([]:List bO.den),(([]:List bJ.den),(([]:List UInt8),(0,(0,(zV,(0,(0,(0,(0,([]:List Int)))))))))))))) fun r14=>given (aT.g.o r14) (br (!(r14.1.2 == 0)) (ok r14) (bd (loop (α:=(Int×dz.den)) (β:=dz.den) (fun x15=>br (ilt x15.1 (l12.length:Int)) (ah (ile 0 x15.1 && ilt x15.1 l12.length) (idx (.list (.int .u16)) l12 (0+Int.toNat x15.1) fun e16=>bd (R.fL x15.1) fun r17=>given (fL.g.o r17) (bd (R.bw e16) fun r18=>given (bw.g.o r18) (bd (R.bj x15.2 r14.1.1.2.2.2.2 r17 r18) fun r19=>given (bj.g.o r19) (ok (.next ((IntKind.wrap .i64 (x15.1+1),r19.2)))))))) (ok (.done (x15.2)))) fuel (0,r14.2.2.2.2.2.1)) fun x20=>ok (((r14.1.1,0),(r14.2.1,(r14.2.2.1,(r14.2.2.2.1,(r14.2.2.2.2.1,(x20,r14.2.2.2.2.2.2)))))))))) (fun z13=>ok (((z13.2.2,z13.1),z13.2.1)))))
abbrev eR.g:Sg:=⟨[.obj aG,.val true (.bor (.seq .i (.seq (.frz aH) (.seq (.seq .b (.own .w)) (.seq (.own .h) .i))))),.val true (.bor (.seq .i (.seq (.frz aH) (.seq (.seq .b (.own .w)) (.seq (.own .h) .i)))))],[(true,(.frz aC)),vi]⟩
def R.eR (r_0:aG.den) (p_1:aC.den) (q_2:aC.den):Res ((aC.den×Int)×aG.den) :=
 given (eR.g.i (r_0,(p_1,q_2))) (bd (α:=(Int ⊕ (Int×(aG.den×aC.den)))) (bd (α:=Bool) (br (p_1.1 == 6) (bd (R.ay r_0.2.2.2.2.1 p_1.2.2.2.2) fun r1=>given (ay.g.o r1) (ok ((!(r1 == 1))))) (ok false)) fun x2=>br x2 (bd (R.aK r_0) fun r3=>given (aK.g.o r3) (ok (.inr (r3.1.2,(r3.2,r3.1.1))))) (br (p_1.1 == 6) (ok (.inl p_1.2.2.2.2)) (br (!(p_1.1 == 1)) (bd (R.aF r_0 1) fun r4=>given (aF.g.o r4) (ok (.inr (r4.1.2,(r4.2,r4.1.1))))) (ok (.inl (-2)))))) fun proto5=>sum proto5 (fun proto6=>br (!(q_2.1 == 0)) (bd (R.aK r_0) fun r8=>given (aK.g.o r8) (ok r8)) (bd (R.aT r_0 (1,(proto6,(([]:List bO.den),(([]:List bJ.den),(([]:List UInt8),(0,(0,(zV,(0,(0,(0,(0,([]:List Int)))))))))))))) fun r9=>given (aT.g.o r9) (ok r9))) (fun z7=>ok (((z7.2.2,z7.1),z7.2.1))))
abbrev gC.g:Sg:=⟨[.obj aG,.val true (.bor (.seq .i (.seq (.frz aH) (.seq (.seq .b (.own .w)) (.seq (.own .h) .i))))),.val false (.bor (.own (.frz aC)))],[(true,(.frz aC)),vi]⟩
def R.gC (r_0:aG.den) (this_1:aC.den) (l_2:(List aC.den)):Res ((aC.den×Int)×aG.den) :=
 given (gC.g.i (r_0,(this_1,l_2))) (bd (α:=Bool) (br (!(this_1.1 == 6)) (ok true) (bd (R.ay r_0.2.2.2.2.1 this_1.2.2.2.2) fun r1=>given (ay.g.o r1) (ok ((!(r1 == 2)))))) fun x2=>br x2 (bd (R.aK r_0) fun r3=>given (aK.g.o r3) (ok r3)) (bd (loop (α:=(Int×dz.den)) (β:=dz.den) (fun x4=>br (ilt x4.1 (l_2.length:Int)) (dC (.frz aC) l_2 x4.1 fun e5=>bd (R.bM x4.2 this_1.2.2.2.2) fun r6=>given (bM.g.o r6) (bd (R.fL r6) fun r7=>given (fL.g.o r7) (bd (R.bj x4.2 this_1.2.2.2.2 r7 e5) fun r8=>given (bj.g.o r8) (ok (.next ((IntKind.wrap .i64 (x4.1+1),r8.2))))))) (ok (.done (x4.2)))) fuel (0,r_0.2.2.2.2.1)) fun x9=>bd (R.bM x9 this_1.2.2.2.2) fun r10=>given (bM.g.o r10) (bd (R.bY r10) fun r11=>given (bY.g.o r11) (ok (((r11,0),(r_0.1,(r_0.2.1,(r_0.2.2.1,(r_0.2.2.2.1,(x9,r_0.2.2.2.2.2)))))))))))
abbrev fH.g:Sg:=⟨[.obj dz,.i],[(true,(.frz aC)),vb]⟩
def R.fH (h_0:dz.den) (ref_1:Int):Res ((aC.den×Bool)×dz.den) :=
 given (fH.g.i (h_0,ref_1)) (bd (R.bM h_0 ref_1) fun r1=>given (bM.g.o r1) (br (r1 == 0) (ok (((zV,false),h_0))) (dC kv h_0.2 ref_1 fun e2=>ah ((Int.toNat ref_1) == (Int.toNat ref_1)) (ah ((Int.toNat ref_1) == (Int.toNat ref_1)) (ah (ile 0 (IntKind.wrap .i64 ((e2.2.2.1.length:Int)-1)) && ilt (IntKind.wrap .i64 ((e2.2.2.1.length:Int)-1)) e2.2.2.1.length) (idx bO e2.2.2.1 (0+Int.toNat (IntKind.wrap .i64 ((e2.2.2.1.length:Int)-1))) fun e3=>ah ((Int.toNat ref_1) == (Int.toNat ref_1)) (ah (ile 0 (IntKind.wrap .i64 ((e2.2.2.1.length:Int)-1)) && ile (IntKind.wrap .i64 ((e2.2.2.1.length:Int)-1)) e2.2.2.1.length) (ah ((Int.toNat ref_1) == (Int.toNat ref_1)) (bd (R.dJ e3.2) fun r4=>given (dJ.g.o r4) (ok (((r4,true),(h_0.1,(List.set h_0.2 (Int.toNat ref_1) (e2.1,(e2.2.1,((List.take (Int.toNat (IntKind.wrap .i64 ((e2.2.2.1.length:Int)-1))) (List.drop 0 e2.2.2.1)),e2.2.2.2)))))))))))))))))
abbrev kJ.g:Sg:=⟨[.s],[(true,(.frz aH)),vb]⟩
def R.kJ (s_0:(List UInt8)):Res ((aH.den×Bool)) :=
 given (kJ.g.i s_0) (br (s_0 == [78,97,78]) (bd (R.dv) fun r1=>given (dv.g.o r1) (ok ((r1,true)))) (br (s_0 == [73,110,102,105,110,105,116,121]) (bd (R.i6 false) fun r2=>given (i6.g.o r2) (ok ((r2,true)))) (br (s_0 == [45,73,110,102,105,110,105,116,121]) (bd (R.i6 true) fun r3=>given (i6.g.o r3) (ok ((r3,true)))) (bd (ph s_0) fun r4=>given (qB.g.o r4) (bd (α:=Bool) (br (!r4.2) (ok true) (bd (rU r4.1) fun r5=>given (rQ.g.o r5) (ok ((!(r5 == s_0)))))) fun x6=>br x6 (bd (R.dv) fun r7=>given (dv.g.o r7) (ok ((r7,false)))) (bd (R.mV r4.1) fun r8=>given (mV.g.o r8) (ok r8)))))))
abbrev dE.g:Sg:=⟨[.obj aG,.val true (.frz aC),.i],[(true,(.frz aC)),vi]⟩
def R.dE (r_0:aG.den) (x_1:aC.den) (n_2:Int):Res ((aC.den×Int)×aG.den) :=
 given (dE.g.i (r_0,(x_1,n_2))) (br (n_2 == 0) (bd (R.bY 0) fun r1=>given (bY.g.o r1) (ok (((r1,0),r_0)))) (br (x_1.1 == 4) (bd (R.kA x_1.2.2.1) fun r2=>given (kA.g.o r2) (bd (R.kJ r2) fun r3=>given (kJ.g.o r3) (br (!r3.2) (bd (R.aK r_0) fun r4=>given (aK.g.o r4) (ok r4)) (bd (R.b8 r3.1) fun r5=>given (b8.g.o r5) (ok (((r5,0),r_0))))))) (bd (R.bP x_1) fun r6=>given (bP.g.o r6) (bd (R.b8 r6.1) fun r7=>given (b8.g.o r7) (bd (R.bm r_0 r7 r6.2) fun r8=>given (bm.g.o r8) (ok r8))))))
abbrev eS.g:Sg:=⟨[.obj aG,.val true (.frz aC)],[(true,(.frz aC)),vi]⟩
def R.eS (r_0:aG.den) (x_1:aC.den):Res ((aC.den×Int)×aG.den) :=
 given (eS.g.i (r_0,x_1)) (br (x_1.1 == 3) (bd (R.eJ x_1.2.1) fun r1=>given (eJ.g.o r1) (bd (α:=Bool) (br (!(x_1.2.1.1 == 2)) (ok ((r1.1 == 0))) (ok false)) fun x2=>br x2 (bd (R.jl r1.2) fun r3=>given (jl.g.o r3) (bd (R.dB r3) fun r4=>given (dB.g.o r4) (ok (((r4,0),r_0))))) (bd (R.aF r_0 2) fun r5=>given (aF.g.o r5) (ok r5)))) (bd (R.ev x_1) fun r6=>given (ev.g.o r6) (bd (R.dB r6.1) fun r7=>given (dB.g.o r7) (bd (R.bm r_0 r7 r6.2) fun r8=>given (bm.g.o r8) (ok r8)))))
abbrev de.g:Sg:=⟨[.obj aG,.s,.val true (.frz aC)],[(true,(.frz aC)),vi]⟩
def R.de (r_0:aG.den) (s_1:(List UInt8)) (x_2:aC.den):Res ((aC.den×Int)×aG.den) :=
 given (de.g.i (r_0,(s_1,x_2))) (bd (R.bw ([]:List Int)) fun r1=>given (bw.g.o r1) (bd (α:=(aC.den ⊕ (Int×(aG.den×aC.den)))) (br (!(x_2.1 == 0)) (bd (R.cm x_2) fun r2=>given (cm.g.o r2) (br (!(r2.2 == 0)) (bd (R.aF r_0 r2.2) fun r3=>given (aF.g.o r3) (ok (.inr (r3.1.2,(r3.2,r3.1.1))))) (bd (R.bw r2.1) fun r4=>given (bw.g.o r4) (ok (.inl r4))))) (ok (.inl r1))) fun x5=>sum x5 (fun x6=>bd (R.aT r_0 (10,(0,(([]:List bO.den),(([]:List bJ.den),(s_1,(0,(0,(x6,(0,(0,(0,(0,([]:List Int)))))))))))))) fun r8=>given (aT.g.o r8) (ok r8)) (fun z7=>ok (((z7.2.2,z7.1),z7.2.1)))))
abbrev cE.g:Sg:=⟨[.s,.s],[vb]⟩
def R.cE (s_0:(List UInt8)) (prefix_1:(List UInt8)):Res (Bool) :=
 given (cE.g.i (s_0,prefix_1)) (br (ile (prefix_1.length:Int) (s_0.length:Int)) (ah (ile 0 (prefix_1.length:Int) && ile (prefix_1.length:Int) s_0.length) (ok (((List.take (Int.toNat (prefix_1.length:Int)) s_0) == prefix_1)))) (ok false))
abbrev cJ.g:Sg:=⟨[.s,.s],[vb]⟩
def R.cJ (s_0:(List UInt8)) (prefix_1:(List UInt8)):Res (Bool) :=
 given (cJ.g.i (s_0,prefix_1)) (bd (R.cE s_0 prefix_1) fun r1=>ok r1)
abbrev cI.g:Sg:=⟨[.s,.s],[vs]⟩
def R.cI (s_0:(List UInt8)) (prefix_1:(List UInt8)):Res ((List UInt8)) :=
 given (cI.g.i (s_0,prefix_1)) (bd (R.cE s_0 prefix_1) fun r1=>br r1 (ah (ile 0 (prefix_1.length:Int) && ile (prefix_1.length:Int) s_0.length) (ok ((List.drop (Int.toNat (prefix_1.length:Int)) s_0)))) (ok s_0))
abbrev bo.g:Sg:=⟨[.s,.s],[vs]⟩
def R.bo (s_0:(List UInt8)) (prefix_1:(List UInt8)):Res ((List UInt8)) :=
 given (bo.g.i (s_0,prefix_1)) (bd (R.cI s_0 prefix_1) fun r1=>given (cI.g.o r1) (ok r1))
abbrev gZ.g:Sg:=⟨[.i,.val false (.frz (.int .u64))],[(false,(.frz (.int .u64)))]⟩
def R.gZ (size_0:Int) (w_1:Int):Res (Int) :=
 given (gZ.g.i (size_0,w_1)) (bd (R.cZ size_0) fun r1=>given (cZ.g.o r1) (bd (R.iC r1 w_1) fun r2=>given (iC.g.o r2) (bd (R.bc r2) fun r3=>given (bc.g.o r3) (bd (R.cZ size_0) fun r4=>given (cZ.g.o r4) (bd (R.gg r4 r3.2) fun r5=>given (gg.g.o r5) (ok (r5.1)))))))
abbrev eV.g:Sg:=⟨[.obj aG,.s,.val true (.bor (.seq .i (.seq (.frz aH) (.seq (.seq .b (.own .w)) (.seq (.own .h) .i))))),.val false (.bor (.own (.frz aC)))],[(true,(.frz aC)),vi]⟩
def R.eV (r_0:aG.den) (s_1:(List UInt8)) (this_2:aC.den) (l_3:(List aC.den)):Res ((aC.den×Int)×aG.den) :=
 given (eV.g.i (r_0,(s_1,(this_2,l_3)))) (bd (R.aj r_0.2.2.2.2.1 this_2.2.2.2.2) fun r1=>given (aj.g.o r1) (bd (α:=Bool) (br (!(this_2.1 == 6)) (ok true) (ok ((!(r1.1.1 == 8))))) fun x2=>br x2 (bd (R.aF r_0 1) fun r3=>given (aF.g.o r3) (ok r3)) (ah (ile 0 3 && ile 3 s_1.length) (bd (R.eE (List.drop (Int.toNat 3) s_1)) fun r4=>given (eE.g.o r4) (bd (R.cJ s_1 [115,101,116]) fun r5=>bd (R.bN r4) fun r6=>given (bN.g.o r6) (bd (R.bU l_3 0) fun r7=>given (bU.g.o r7) (bd (R.cQ r7) fun r8=>given (cQ.g.o r8) (br (!(r8.2 == 0)) (bd (R.aF r_0 r8.2) fun r9=>given (aF.g.o r9) (ok r9)) (bd (α:=((Int×Int) ⊕ (Int×(aG.den×aC.den)))) (br r5 (bd (R.bU l_3 1) fun r10=>given (bU.g.o r10) (bd (R.gq r4 r10) fun r11=>given (gq.g.o r11) (br (!(r11.2 == 0)) (bd (R.aF r_0 r11.2) fun r12=>given (aF.g.o r12) (ok (.inr (r12.1.2,(r12.2,r12.1.1))))) (ok (.inl (r11.1,2)))))) (ok (.inl (0,1)))) fun w13=>sum w13 (fun w14=>bd (R.bU l_3 w14.2) fun r16=>given (bU.g.o r16) (bd (R.fa r16) fun r17=>bd (α:=(Int ⊕ (Int×(aG.den×aC.den)))) (bd (α:=Bool) (br (ilt r1.1.2.2.2.2.2.2.2.2.2.2.2.1 r6) (ok true) (ok ((ilt (IntKind.wrap .i64 (r1.1.2.2.2.2.2.2.2.2.2.2.2.1-r6)) r8.1)))) fun x18=>br x18 (bd (R.aF r_0 2) fun r19=>given (aF.g.o r19) (ok (.inr (r19.1.2,(r19.2,r19.1.1))))) (bd (α:=Bool) (br r5 (ok ((!r17))) (ok false)) fun x20=>br x20 (bd (R.gZ r6 w14.1) fun r21=>given (gZ.g.o r21) (ok (.inl r21))) (ok (.inl w14.1)))) fun w22=>sum w22 (fun w23=>br r5 (bd (R.cS r_0 (r1.1.1,(r1.1.2.1,((),((),(r1.1.2.2.2.2.1,(r1.1.2.2.2.2.2.1,(r1.1.2.2.2.2.2.2.1,(r1.1.2.2.2.2.2.2.2.1,(r1.1.2.2.2.2.2.2.2.2.1,(r1.1.2.2.2.2.2.2.2.2.2.1,(r1.1.2.2.2.2.2.2.2.2.2.2.1,(r1.1.2.2.2.2.2.2.2.2.2.2.2.1,())))))))))))) (IntKind.wrap .i64 (r1.1.2.2.2.2.2.2.2.2.2.2.1+r8.1)) r6 w23 false false) fun r25=>given (cS.g.o r25) (ok (((zV,r25.1),r25.2)))) (bd (R.cj r_0 (r1.1.1,(r1.1.2.1,((),((),(r1.1.2.2.2.2.1,(r1.1.2.2.2.2.2.1,(r1.1.2.2.2.2.2.2.1,(r1.1.2.2.2.2.2.2.2.1,(r1.1.2.2.2.2.2.2.2.2.1,(r1.1.2.2.2.2.2.2.2.2.2.1,(r1.1.2.2.2.2.2.2.2.2.2.2.1,(r1.1.2.2.2.2.2.2.2.2.2.2.2.1,())))))))))))) (IntKind.wrap .i64 (r1.1.2.2.2.2.2.2.2.2.2.2.1+r8.1)) r6 false false) fun r26=>given (cj.g.o r26) (br (!(r26.1.2 == 0)) (ok (((zV,r26.1.2),r26.2))) (br (!r17) (bd (R.gZ r6 r26.1.1) fun r27=>given (gZ.g.o r27) (bd (R.ct r4 r27) fun r28=>given (ct.g.o r28) (ok (((r28,0),r26.2))))) (bd (R.ct r4 r26.1.1) fun r29=>given (ct.g.o r29) (ok (((r29,0),r26.2)))))))) (fun z24=>ok (((z24.2.2,z24.1),z24.2.1))))) (fun z15=>ok (((z15.2.2,z15.1),z15.2.1))))))))))))
abbrev fD.g:Sg:=⟨[.obj aG,.val true kq,.val true (.frz aC)],[vi,(true,(.frz aC)),vi]⟩
def R.fD (r_0:aG.den) (c_1:kq.den) (v_2:aC.den):Res ((Int×(aC.den×Int))×aG.den) :=
 given (fD.g.i (r_0,(c_1,v_2))) (bd (R.cQ v_2) fun r1=>given (cQ.g.o r1) (bd (α:=Int) (bd (α:=Bool) (br (r1.2 == 0) (ok ((ile c_1.2.2.2.2.2.2.2.2.2.2.2.1 r1.1))) (ok false)) fun x2=>br x2 (ok 2) (ok (r1.2))) fun s3=>br (!(s3 == 0)) (bd (R.aF r_0 s3) fun r4=>given (aF.g.o r4) (ok (((0,r4.1),r4.2)))) (ok (((r1.1,(zV,0)),r_0)))))
abbrev du.g:Sg:=⟨[.val true (.frz aH)],[(true,(.frz aH))]⟩
def R.du (a_0:aH.den):Res (aH.den) :=
 given (du.g.i a_0) (bd (R.eJ a_0) fun r1=>given (eJ.g.o r1) (bd (R.jn r1 (0,0)) fun r2=>br r2 (ok ((0,0))) (ok r1)))
abbrev fE.g:Sg:=⟨[.obj aG,.val true kq,.val true kq,.i,.val true (.frz aC),.val true (.frz aC)],[(true,(.frz aC)),vi]⟩
def R.fE (r_0:aG.den) (c_1:kq.den) (b_2:kq.den) (n_3:Int) (v_4:aC.den) (q_5:aC.den):Res ((aC.den×Int)×aG.den) :=
 given (fE.g.i (r_0,(c_1,(b_2,(n_3,(v_4,q_5)))))) (bd (R.gq c_1.2.2.2.2.2.2.2.2.1 v_4) fun r1=>given (gq.g.o r1) (br (!(r1.2 == 0)) (bd (R.aF r_0 r1.2) fun r2=>given (aF.g.o r2) (ok r2)) (bd (R.bP q_5) fun r3=>given (bP.g.o r3) (br (!(r3.2 == 0)) (bd (R.aF r_0 r3.2) fun r4=>given (aF.g.o r4) (ok r4)) (bd (α:=aH.den) (br (r3.1.1 == 2) (ok ((3,0))) (ok (r3.1))) fun x5=>bd (R.bN c_1.2.2.2.2.2.2.2.2.1) fun r6=>given (bN.g.o r6) (bd (R.du x5) fun r7=>given (du.g.o r7) (bd (R.bX r_0 (6,(b_2.2.2.2.2.2.2.2.2.2.1,(IntKind.wrap .i64 (c_1.2.2.2.2.2.2.2.2.2.2.1+(IntKind.wrap .i64 (n_3*r6))),(r6,(0,(false,(false,(0,(r1.1,(r7,(([]:List Int),0)))))))))))) fun r8=>given (bX.g.o r8) (br (!(r8.1.2 == 0)) (ok (((zV,r8.1.2),r8.2))) (br (r8.1.1.2.1 == 0) (bd (R.ai [111,107]) fun r9=>given (ai.g.o r9) (bd (R.bw r9) fun r10=>given (bw.g.o r10) (ok (((r10,0),r8.2))))) (br (r8.1.1.2.1 == 1) (bd (R.ai [110,111,116,45,101,113,117,97,108]) fun r11=>given (ai.g.o r11) (bd (R.bw r11) fun r12=>given (bw.g.o r12) (ok (((r12,0),r8.2))))) (bd (R.ai [116,105,109,101,100,45,111,117,116]) fun r13=>given (ai.g.o r13) (bd (R.bw r13) fun r14=>given (bw.g.o r14) (ok (((r14,0),r8.2)))))))))))))))
abbrev dI.g:Sg:=⟨[.obj aG,.val true kq,.val true kq,.i,.val true (.frz aC)],[(true,(.frz aC)),vi]⟩
def R.dI (r_0:aG.den) (c_1:kq.den) (b_2:kq.den) (n_3:Int) (v_4:aC.den):Res ((aC.den×Int)×aG.den) :=
 given (dI.g.i (r_0,(c_1,(b_2,(n_3,v_4))))) (bd (α:=(aH.den ⊕ (Int×(aG.den×aC.den)))) (br (!(v_4.1 == 0)) (bd (R.bP v_4) fun r1=>given (bP.g.o r1) (br (!(r1.2 == 0)) (bd (R.aF r_0 r1.2) fun r2=>given (aF.g.o r2) (ok (.inr (r2.1.2,(r2.2,r2.1.1))))) (bd (R.du r1.1) fun r3=>given (du.g.o r3) (ok (.inl r3))))) (ok (.inl (3,0)))) fun x4=>sum x4 (fun x5=>br (!(b_2.1 == 6)) (bd (R.bY 0) fun r7=>given (bY.g.o r7) (ok (((r7,0),r_0)))) (bd (R.bN c_1.2.2.2.2.2.2.2.2.1) fun r8=>given (bN.g.o r8) (bd (R.bX r_0 (7,(b_2.2.2.2.2.2.2.2.2.2.1,(IntKind.wrap .i64 (c_1.2.2.2.2.2.2.2.2.2.2.1+(IntKind.wrap .i64 (n_3*r8))),(0,(0,(false,(false,(0,(0,(x5,(([]:List Int),0)))))))))))) fun r9=>given (bX.g.o r9) (br (!(r9.1.2 == 0)) (ok (((zV,r9.1.2),r9.2))) (bd (R.bY (IntKind.wrap .i64 (fm .and .u64 r9.1.1.1 9007199254740991))) fun r10=>given (bY.g.o r10) (ok (((r10,0),r9.2)))))))) (fun z6=>ok (((z6.2.2,z6.1),z6.2.1))))
abbrev fj.g:Sg:=⟨[.i,.val true (.frz aC)],[(true,(.frz aC)),(false,(.frz (.int .u64))),vi]⟩
def R.fj (kind_0:Int) (v_1:aC.den):Res ((aC.den×(Int×Int))) :=
 given (fj.g.i (kind_0,v_1)) (bd (R.c7 kind_0) fun r1=>br r1 (bd (R.ev v_1) fun r2=>given (ev.g.o r2) (bd (R.dB r2.1) fun r3=>given (dB.g.o r3) (bd (R.fS kind_0 r2.1) fun r4=>given (fS.g.o r4) (ok ((r3,(r4,r2.2))))))) (bd (R.bP v_1) fun r5=>given (bP.g.o r5) (bd (R.eJ r5.1) fun r6=>given (eJ.g.o r6) (bd (R.b8 r6) fun r7=>given (b8.g.o r7) (bd (R.fR kind_0 r6) fun r8=>given (fR.g.o r8) (ok ((r7,(r8,r5.2)))))))))
abbrev iS.g:Sg:=⟨[.i,.i,.val false (.frz (.int .u64)),.val false (.frz (.int .u64))],[(false,(.frz (.int .u64))),vb]⟩
def R.iS (kind_0:Int) (op_1:Int) (old_2:Int) (by_3:Int):Res ((Int×Bool)) :=
 given (iS.g.i (kind_0,(op_1,(old_2,by_3)))) (bd (R.bN kind_0) fun r1=>given (bN.g.o r1) (br (r1 == 0) (ok ((0,false))) (br (op_1 == 1) (bd (R.ef kind_0 (IntKind.wrap .u64 (old_2+by_3))) fun r2=>given (ef.g.o r2) (ok ((r2,true)))) (br (op_1 == 2) (bd (R.ef kind_0 (fm .and .u64 old_2 by_3)) fun r3=>given (ef.g.o r3) (ok ((r3,true)))) (br (op_1 == 3) (bd (R.ef kind_0 (fm .or .u64 old_2 by_3)) fun r4=>given (ef.g.o r4) (ok ((r4,true)))) (br (op_1 == 4) (bd (R.ef kind_0 (IntKind.wrap .u64 (old_2-by_3))) fun r5=>given (ef.g.o r5) (ok ((r5,true)))) (br (op_1 == 5) (bd (R.ef kind_0 (fm .xor .u64 old_2 by_3)) fun r6=>given (ef.g.o r6) (ok ((r6,true)))) (br (op_1 == 6) (bd (R.ef kind_0 by_3) fun r7=>given (ef.g.o r7) (ok ((r7,true)))) (ok ((0,false)))))))))))
abbrev dP.g:Sg:=⟨[.obj aG,.val true kq,.i,.val true (.frz eZ)],[(true,(.frz aC)),vi]⟩
def R.dP (r_0:aG.den) (c_1:kq.den) (n_2:Int) (q_3:eZ.den):Res ((aC.den×Int)×aG.den) :=
 given (dP.g.i (r_0,(c_1,(n_2,q_3)))) (bd (R.bN c_1.2.2.2.2.2.2.2.2.1) fun r1=>given (bN.g.o r1) (bd (R.aj r_0.2.2.2.2.1 c_1.2.2.2.2.2.2.2.2.2.1) fun r2=>given (aj.g.o r2) (br (!(r2.1.1 == 5)) (bd (R.bX r_0 (q_3.1,(r2.1.2.2.2.2.2.2.2.2.2.1,(IntKind.wrap .i64 (c_1.2.2.2.2.2.2.2.2.2.2.1+(IntKind.wrap .i64 (n_2*r1))),(r1,(q_3.2.2.2.2.1,(true,(true,q_3.2.2.2.2.2.2.2)))))))) fun r3=>given (bX.g.o r3) (br (!(r3.1.2 == 0)) (ok (((zV,r3.1.2),r3.2))) (bd (R.ct c_1.2.2.2.2.2.2.2.2.1 r3.1.1.1) fun r4=>given (ct.g.o r4) (ok (((r4,0),r3.2)))))) (bd (R.cj r_0 (c_1.1,(c_1.2.1,((),((),(c_1.2.2.2.2.1,(c_1.2.2.2.2.2.1,(c_1.2.2.2.2.2.2.1,(c_1.2.2.2.2.2.2.2.1,(c_1.2.2.2.2.2.2.2.2.1,(c_1.2.2.2.2.2.2.2.2.2.1,(c_1.2.2.2.2.2.2.2.2.2.2.1,(c_1.2.2.2.2.2.2.2.2.2.2.2.1,())))))))))))) (IntKind.wrap .i64 (c_1.2.2.2.2.2.2.2.2.2.2.1+(IntKind.wrap .i64 (n_2*r1)))) r1 true true) fun r5=>given (cj.g.o r5) (bd (R.iS c_1.2.2.2.2.2.2.2.2.1 q_3.2.2.2.2.1 r5.1.1 q_3.2.2.2.2.2.2.2.1) fun r6=>given (iS.g.o r6) (bd (α:=Int) (br (q_3.1 == 5) (br (r5.1.1 == q_3.2.2.2.2.2.2.2.2.1) (ok (q_3.2.2.2.2.2.2.2.1)) (ok (r5.1.1))) (ok (r6.1))) fun w7=>bd (R.cS r5.2 (c_1.1,(c_1.2.1,((),((),(c_1.2.2.2.2.1,(c_1.2.2.2.2.2.1,(c_1.2.2.2.2.2.2.1,(c_1.2.2.2.2.2.2.2.1,(c_1.2.2.2.2.2.2.2.2.1,(c_1.2.2.2.2.2.2.2.2.2.1,(c_1.2.2.2.2.2.2.2.2.2.2.1,(c_1.2.2.2.2.2.2.2.2.2.2.2.1,())))))))))))) (IntKind.wrap .i64 (c_1.2.2.2.2.2.2.2.2.2.2.1+(IntKind.wrap .i64 (n_2*r1)))) r1 w7 true true) fun r8=>given (cS.g.o r8) (bd (R.ct c_1.2.2.2.2.2.2.2.2.1 r5.1.1) fun r9=>given (ct.g.o r9) (ok (((r9,0),r8.2))))))))))
abbrev gm.g:Sg:=⟨[.s],[vi]⟩
def R.gm (s_0:(List UInt8)):Res (Int) :=
 given (gm.g.i s_0) (br (s_0 == [97,100,100]) (ok 1) (br (s_0 == [97,110,100]) (ok 2) (br (s_0 == [111,114]) (ok 3) (br (s_0 == [115,117,98]) (ok 4) (br (s_0 == [120,111,114]) (ok 5) (ok 6))))))
end Go.Mach
end

set_option linter.unusedVariables false
set_option maxRecDepth 20000
noncomputable section
namespace Go.Mach
open Res
abbrev ea.g:Sg:=⟨[.obj aG,.s,.val false (.bor (.own (.frz aC)))],[(true,(.frz aC)),vi]⟩
def R.ea (r_0:aG.den) (s_1:(List UInt8)) (l_2:(List aC.den)):Res ((aC.den×Int)×aG.den) :=
 given (ea.g.i (r_0,(s_1,l_2))) (br (s_1 == [105,115,76,111,99,107,70,114,101,101]) (bd (R.bU l_2 0) fun r1=>given (bU.g.o r1) (bd (R.bP r1) fun r2=>given (bP.g.o r2) (br (!(r2.2 == 0)) (bd (R.aF r_0 r2.2) fun r3=>given (aF.g.o r3) (ok r3)) (bd (R.eJ r2.1) fun r4=>given (eJ.g.o r4) (br (r4.1 == 0) (br (r4.2 == 1) (bd (R.bE true) fun r5=>given (bE.g.o r5) (ok (((r5,0),r_0)))) (br (r4.2 == 2) (bd (R.bE true) fun r6=>given (bE.g.o r6) (ok (((r6,0),r_0)))) (br (r4.2 == 4) (bd (R.bE true) fun r7=>given (bE.g.o r7) (ok (((r7,0),r_0)))) (bd (R.bE (r4.2 == 8)) fun r8=>given (bE.g.o r8) (ok (((r8,0),r_0))))))) (bd (R.bE false) fun r9=>given (bE.g.o r9) (ok (((r9,0),r_0))))))))) (bd (R.bU l_2 0) fun r10=>given (bU.g.o r10) (bd (R.aj r_0.2.2.2.2.1 r10.2.2.2.2) fun r11=>given (aj.g.o r11) (bd (R.aj r_0.2.2.2.2.1 r11.1.2.2.2.2.2.2.2.2.2.1) fun r12=>given (aj.g.o r12) (bd (α:=Bool) (br (s_1 == [119,97,105,116]) (ok true) (ok ((s_1 == [110,111,116,105,102,121])))) fun waits13=>bd (α:=Bool) (bd (α:=Bool) (br (!(r10.1 == 6)) (ok true) (ok ((!(r11.1.1 == 7))))) fun x14=>br x14 (ok x14) (bd (α:=Bool) (br waits13 (br (!(r11.1.2.2.2.2.2.2.2.2.1 == 5)) (ok ((!(r11.1.2.2.2.2.2.2.2.2.1 == 7)))) (ok false)) (ok false)) fun x15=>br x15 (ok x15) (br (s_1 == [119,97,105,116]) (ok ((!(r12.1.1 == 6)))) (ok false)))) fun x16=>br x16 (bd (R.aF r_0 1) fun r17=>given (aF.g.o r17) (ok r17)) (bd (R.bU l_2 1) fun r18=>given (bU.g.o r18) (bd (R.fD r_0 (r11.1.1,(r11.1.2.1,((),((),(r11.1.2.2.2.2.1,(r11.1.2.2.2.2.2.1,(r11.1.2.2.2.2.2.2.1,(r11.1.2.2.2.2.2.2.2.1,(r11.1.2.2.2.2.2.2.2.2.1,(r11.1.2.2.2.2.2.2.2.2.2.1,(r11.1.2.2.2.2.2.2.2.2.2.2.1,(r11.1.2.2.2.2.2.2.2.2.2.2.2.1,())))))))))))) r18) fun r19=>given (fD.g.o r19) (br (!(r19.1.2.2 == 0)) (ok ((r19.1.2,r19.2))) (bd (R.bN r11.1.2.2.2.2.2.2.2.2.1) fun r20=>given (bN.g.o r20) (br (s_1 == [108,111,97,100]) (bd (R.cj r19.2 (r11.1.1,(r11.1.2.1,((),((),(r11.1.2.2.2.2.1,(r11.1.2.2.2.2.2.1,(r11.1.2.2.2.2.2.2.1,(r11.1.2.2.2.2.2.2.2.1,(r11.1.2.2.2.2.2.2.2.2.1,(r11.1.2.2.2.2.2.2.2.2.2.1,(r11.1.2.2.2.2.2.2.2.2.2.2.1,(r11.1.2.2.2.2.2.2.2.2.2.2.2.1,())))))))))))) (IntKind.wrap .i64 (r11.1.2.2.2.2.2.2.2.2.2.2.1+(IntKind.wrap .i64 (r19.1.1*r20)))) r20 true true) fun r21=>given (cj.g.o r21) (br (!(r21.1.2 == 0)) (ok (((zV,r21.1.2),r21.2))) (bd (R.ct r11.1.2.2.2.2.2.2.2.2.1 r21.1.1) fun r22=>given (ct.g.o r22) (ok (((r22,0),r21.2)))))) (br (s_1 == [119,97,105,116]) (bd (R.bU l_2 2) fun r23=>given (bU.g.o r23) (bd (R.bU l_2 3) fun r24=>given (bU.g.o r24) (bd (R.fE r19.2 (r11.1.1,(r11.1.2.1,((),((),(r11.1.2.2.2.2.1,(r11.1.2.2.2.2.2.1,(r11.1.2.2.2.2.2.2.1,(r11.1.2.2.2.2.2.2.2.1,(r11.1.2.2.2.2.2.2.2.2.1,(r11.1.2.2.2.2.2.2.2.2.2.1,(r11.1.2.2.2.2.2.2.2.2.2.2.1,(r11.1.2.2.2.2.2.2.2.2.2.2.2.1,())))))))))))) (r12.1.1,(r12.1.2.1,((),((),(r12.1.2.2.2.2.1,(r12.1.2.2.2.2.2.1,(r12.1.2.2.2.2.2.2.1,(r12.1.2.2.2.2.2.2.2.1,(r12.1.2.2.2.2.2.2.2.2.1,(r12.1.2.2.2.2.2.2.2.2.2.1,(r12.1.2.2.2.2.2.2.2.2.2.2.1,(r12.1.2.2.2.2.2.2.2.2.2.2.2.1,())))))))))))) r19.1.1 r23 r24) fun r25=>given (fE.g.o r25) (ok r25)))) (br (s_1 == [110,111,116,105,102,121]) (bd (R.bU l_2 2) fun r26=>given (bU.g.o r26) (bd (R.dI r19.2 (r11.1.1,(r11.1.2.1,((),((),(r11.1.2.2.2.2.1,(r11.1.2.2.2.2.2.1,(r11.1.2.2.2.2.2.2.1,(r11.1.2.2.2.2.2.2.2.1,(r11.1.2.2.2.2.2.2.2.2.1,(r11.1.2.2.2.2.2.2.2.2.2.1,(r11.1.2.2.2.2.2.2.2.2.2.2.1,(r11.1.2.2.2.2.2.2.2.2.2.2.2.1,())))))))))))) (r12.1.1,(r12.1.2.1,((),((),(r12.1.2.2.2.2.1,(r12.1.2.2.2.2.2.1,(r12.1.2.2.2.2.2.2.1,(r12.1.2.2.2.2.2.2.2.1,(r12.1.2.2.2.2.2.2.2.2.1,(r12.1.2.2.2.2.2.2.2.2.2.1,(r12.1.2.2.2.2.2.2.2.2.2.2.1,(r12.1.2.2.2.2.2.2.2.2.2.2.2.1,())))))))))))) r19.1.1 r26) fun r27=>given (dI.g.o r27) (ok r27))) (bd (R.bU l_2 2) fun r28=>given (bU.g.o r28) (bd (R.fj r11.1.2.2.2.2.2.2.2.2.1 r28) fun r29=>given (fj.g.o r29) (br (!(r29.2.2 == 0)) (bd (R.aF r19.2 r29.2.2) fun r30=>given (aF.g.o r30) (ok r30)) (br (s_1 == [115,116,111,114,101]) (bd (R.cS r19.2 (r11.1.1,(r11.1.2.1,((),((),(r11.1.2.2.2.2.1,(r11.1.2.2.2.2.2.1,(r11.1.2.2.2.2.2.2.1,(r11.1.2.2.2.2.2.2.2.1,(r11.1.2.2.2.2.2.2.2.2.1,(r11.1.2.2.2.2.2.2.2.2.2.1,(r11.1.2.2.2.2.2.2.2.2.2.2.1,(r11.1.2.2.2.2.2.2.2.2.2.2.2.1,())))))))))))) (IntKind.wrap .i64 (r11.1.2.2.2.2.2.2.2.2.2.2.1+(IntKind.wrap .i64 (r19.1.1*r20)))) r20 r29.2.1 true true) fun r31=>given (cS.g.o r31) (br (!(r31.1 == 0)) (ok (((zV,r31.1),r31.2))) (ok (((r29.1,0),r31.2))))) (br (s_1 == [99,111,109,112,97,114,101,69,120,99,104,97,110,103,101]) (bd (R.bU l_2 3) fun r32=>given (bU.g.o r32) (bd (R.fj r11.1.2.2.2.2.2.2.2.2.1 r32) fun r33=>given (fj.g.o r33) (br (!(r33.2.2 == 0)) (bd (R.aF r19.2 r33.2.2) fun r34=>given (aF.g.o r34) (ok r34)) (bd (R.dP r19.2 (r11.1.1,(r11.1.2.1,((),((),(r11.1.2.2.2.2.1,(r11.1.2.2.2.2.2.1,(r11.1.2.2.2.2.2.2.1,(r11.1.2.2.2.2.2.2.2.1,(r11.1.2.2.2.2.2.2.2.2.1,(r11.1.2.2.2.2.2.2.2.2.2.1,(r11.1.2.2.2.2.2.2.2.2.2.2.1,(r11.1.2.2.2.2.2.2.2.2.2.2.2.1,())))))))))))) r19.1.1 (5,(0,(0,(0,(0,(false,(false,(r33.2.1,(r29.2.1,((0,0),(([]:List Int),0)))))))))))) fun r35=>given (dP.g.o r35) (ok r35))))) (bd (R.gm s_1) fun r36=>given (gm.g.o r36) (bd (R.dP r19.2 (r11.1.1,(r11.1.2.1,((),((),(r11.1.2.2.2.2.1,(r11.1.2.2.2.2.2.1,(r11.1.2.2.2.2.2.2.1,(r11.1.2.2.2.2.2.2.2.1,(r11.1.2.2.2.2.2.2.2.2.1,(r11.1.2.2.2.2.2.2.2.2.2.1,(r11.1.2.2.2.2.2.2.2.2.2.2.1,(r11.1.2.2.2.2.2.2.2.2.2.2.2.1,())))))))))))) r19.1.1 (4,(0,(0,(0,(r36,(false,(false,(r29.2.1,(0,((0,0),(([]:List Int),0)))))))))))) fun r37=>given (dP.g.o r37) (ok r37))))))))))))))))))))
end Go.Mach
end

set_option linter.unusedVariables false
set_option maxRecDepth 20000
noncomputable section
namespace Go.Mach
open Res
abbrev eval_run_list.g:Sg:=⟨[.obj aG,.val false (.frz (.list (.int .i64))),.val true (.frz aO)],[(true,(.frz aX))]⟩
abbrev eval_run_statement.g:Sg:=⟨[.obj aG,.i,.val true (.frz aO),.val false (.frz (.list .str))],[(true,(.frz aX))]⟩
abbrev eval_run_act.g:Sg:=⟨[.obj aG,.i,.val true (.frz aO),.val false (.frz (.list .str))],[(true,(.frz aX))]⟩
abbrev eval_run_expression.g:Sg:=⟨[.obj aG,.i,.val true (.frz aO)],[(true,(.frz aC)),vi]⟩
abbrev eval_run_block.g:Sg:=⟨[.obj aG,.i,.val true (.frz aO)],[(true,(.frz aX))]⟩
abbrev eval_run_decls.g:Sg:=⟨[.obj aG,.val false (.frz (.list (.int .i64))),.val true (.frz aO)],[(true,(.frz aX))]⟩
abbrev eval_run_choice.g:Sg:=⟨[.obj aG,.val false (.frz (.list (.int .i64))),.val true (.frz aO)],[(true,(.frz aX))]⟩
abbrev eval_run_while.g:Sg:=⟨[.obj aG,.val false (.frz (.list (.int .i64))),.val true (.frz aO),.val false (.frz (.list .str))],[(true,(.frz aX))]⟩
abbrev eval_run_loop.g:Sg:=⟨[.obj aG,.val false (.frz (.list (.int .i64))),.val true (.frz aO),.val false (.frz (.list .str))],[(true,(.frz aX))]⟩
abbrev eval_run_try.g:Sg:=⟨[.obj aG,.val false (.frz (.list (.int .i64))),.val true (.frz aO)],[(true,(.frz aX))]⟩
abbrev eval_run_value.g:Sg:=⟨[.obj aG,.i,.val true (.frz aO)],[(true,(.frz aC)),vi]⟩
abbrev eval_run_asked.g:Sg:=⟨[.obj aG,.i,.val true (.frz aO)],[vb,(true,(.frz aX))]⟩
abbrev eval_run_first.g:Sg:=⟨[.obj aG,.i,.val true (.frz aO)],[(true,(.frz aO)),(true,(.frz aX))]⟩
abbrev eval_run_catch.g:Sg:=⟨[.obj aG,.s,.i,.val true (.frz aC),.val true (.frz aO)],[(true,(.frz aX))]⟩
abbrev eval_run_array.g:Sg:=⟨[.obj aG,.val false (.frz (.list (.int .i64))),.val true (.frz aO)],[(true,(.frz aC)),vi]⟩
abbrev eval_run_object.g:Sg:=⟨[.obj aG,.val false (.frz (.list (.int .i64))),.val true (.frz aO)],[(true,(.frz aC)),vi]⟩
abbrev eval_run_operation.g:Sg:=⟨[.obj aG,.i,.val true (.frz aE),.val true (.frz aO)],[(true,(.frz aC)),vi]⟩
abbrev eval_run_unary.g:Sg:=⟨[.obj aG,.s,.i,.val true (.frz aO)],[(true,(.frz aC)),vi]⟩
abbrev eval_run_step.g:Sg:=⟨[.obj aG,.val true (.frz aE),.val true (.frz aO)],[(true,(.frz aC)),vi]⟩
abbrev eval_run_binary.g:Sg:=⟨[.obj aG,.val true (.frz aE),.val true (.frz aO)],[(true,(.frz aC)),vi]⟩
abbrev eval_run_logic.g:Sg:=⟨[.obj aG,.val true (.frz aE),.val true (.frz aO)],[(true,(.frz aC)),vi]⟩
abbrev eval_run_assign.g:Sg:=⟨[.obj aG,.val true (.frz aE),.val true (.frz aO)],[(true,(.frz aC)),vi]⟩
abbrev eval_run_callee.g:Sg:=⟨[.obj aG,.val false (.frz (.list (.int .i64))),.val true (.frz aO)],[(true,(.frz aC)),vi]⟩
abbrev eval_run_arguments.g:Sg:=⟨[.obj aG,.val false (.frz (.list (.int .i64))),.val true (.frz aO)],[(false,(.own (.frz aC))),(true,(.frz aC)),vi]⟩
abbrev eval_run_fresh.g:Sg:=⟨[.obj aG,.val true (.frz aC),.val false (.frz (.list aC))],[(true,(.frz aC)),vi]⟩
abbrev eval_run_property.g:Sg:=⟨[.obj aG,.i,.val true (.frz aO)],[(true,(.frz aC)),vi]⟩
abbrev eval_run_parts.g:Sg:=⟨[.obj aG,.i,.val true (.frz aO)],[(true,(.frz fX)),(true,(.frz aC)),vi]⟩
abbrev eval_run_called.g:Sg:=⟨[.obj aG,.i,.val true (.frz aO)],[(true,(.frz aC)),(true,(.frz aC)),vi]⟩
abbrev eval_run_call.g:Sg:=⟨[.obj aG,.val true (.frz aC),.val true (.frz aC),.val false (.frz (.list aC))],[(true,(.frz aC)),vi]⟩
abbrev eval_run_builds.g:Sg:=⟨[.obj aG,.s,.val false (.frz (.list aC))],[(true,(.frz aC)),vi]⟩
abbrev eval_run_apply.g:Sg:=⟨[.obj aG,.i,.val true (.frz aC),.val false (.frz (.list aC))],[(true,(.frz aC)),vi]⟩
abbrev eval_run_does.g:Sg:=⟨[.obj aG,.s,.val true (.frz aC),.val false (.frz (.list aC))],[(true,(.frz aC)),vi]⟩
abbrev eval_run_host.g:Sg:=⟨[.obj aG,.s,.val true (.frz aC)],[(true,(.frz aC)),vi]⟩
abbrev eval_run_receives.g:Sg:=⟨[.obj aG,.val true (.frz aC)],[(true,(.frz aC)),vi]⟩
structure au where
 eval_run_list:aG.den->(List Int)->aO.den->Res (aX.den×aG.den)
 eval_run_statement:aG.den->Int->aO.den->(List (List UInt8))->Res (aX.den×aG.den)
 eval_run_act:aG.den->Int->aO.den->(List (List UInt8))->Res (aX.den×aG.den)
 eval_run_expression:aG.den->Int->aO.den->Res ((aC.den×Int)×aG.den)
 eval_run_block:aG.den->Int->aO.den->Res (aX.den×aG.den)
 eval_run_decls:aG.den->(List Int)->aO.den->Res (aX.den×aG.den)
 eval_run_choice:aG.den->(List Int)->aO.den->Res (aX.den×aG.den)
 eval_run_while:aG.den->(List Int)->aO.den->(List (List UInt8))->Res (aX.den×aG.den)
 eval_run_loop:aG.den->(List Int)->aO.den->(List (List UInt8))->Res (aX.den×aG.den)
 eval_run_try:aG.den->(List Int)->aO.den->Res (aX.den×aG.den)
 eval_run_value:aG.den->Int->aO.den->Res ((aC.den×Int)×aG.den)
 eval_run_asked:aG.den->Int->aO.den->Res ((Bool×aX.den)×aG.den)
 eval_run_first:aG.den->Int->aO.den->Res ((aO.den×aX.den)×aG.den)
 eval_run_catch:aG.den->(List UInt8)->Int->aC.den->aO.den->Res (aX.den×aG.den)
 eval_run_array:aG.den->(List Int)->aO.den->Res ((aC.den×Int)×aG.den)
 eval_run_object:aG.den->(List Int)->aO.den->Res ((aC.den×Int)×aG.den)
 eval_run_operation:aG.den->Int->aE.den->aO.den->Res ((aC.den×Int)×aG.den)
 eval_run_unary:aG.den->(List UInt8)->Int->aO.den->Res ((aC.den×Int)×aG.den)
 eval_run_step:aG.den->aE.den->aO.den->Res ((aC.den×Int)×aG.den)
 eval_run_binary:aG.den->aE.den->aO.den->Res ((aC.den×Int)×aG.den)
 eval_run_logic:aG.den->aE.den->aO.den->Res ((aC.den×Int)×aG.den)
 eval_run_assign:aG.den->aE.den->aO.den->Res ((aC.den×Int)×aG.den)
 eval_run_callee:aG.den->(List Int)->aO.den->Res ((aC.den×Int)×aG.den)
 eval_run_arguments:aG.den->(List Int)->aO.den->Res (((List aC.den)×(aC.den×Int))×aG.den)
 eval_run_fresh:aG.den->aC.den->(List aC.den)->Res ((aC.den×Int)×aG.den)
 eval_run_property:aG.den->Int->aO.den->Res ((aC.den×Int)×aG.den)
 eval_run_parts:aG.den->Int->aO.den->Res ((fX.den×(aC.den×Int))×aG.den)
 eval_run_called:aG.den->Int->aO.den->Res ((aC.den×(aC.den×Int))×aG.den)
 eval_run_call:aG.den->aC.den->aC.den->(List aC.den)->Res ((aC.den×Int)×aG.den)
 eval_run_builds:aG.den->(List UInt8)->(List aC.den)->Res ((aC.den×Int)×aG.den)
 eval_run_apply:aG.den->Int->aC.den->(List aC.den)->Res ((aC.den×Int)×aG.den)
 eval_run_does:aG.den->(List UInt8)->aC.den->(List aC.den)->Res ((aC.den×Int)×aG.den)
 eval_run_host:aG.den->(List UInt8)->aC.den->Res ((aC.den×Int)×aG.den)
 eval_run_receives:aG.den->aC.den->Res ((aC.den×Int)×aG.den)
def R.eval_run_list (G:au) (r_0:aG.den) (l_1:(List Int)) (e_2:aO.den):Res (aX.den×aG.den) :=
 given (eval_run_list.g.i (r_0,(l_1,e_2))) (bd (loop (α:=(Int×aG.den)) (β:=(aG.den ⊕ (aG.den×aX.den))) (fun x1=>br (ilt x1.1 (l_1.length:Int)) (idx (.int .i64) l_1 x1.1 fun e2=>bd (G.eval_run_statement x1.2 e2 e_2 ([]:List (List UInt8))) fun r3=>given (eval_run_statement.g.o r3) (br (!(r3.1.1 == 0)) (ok (.done (.inr (r3.2,r3.1)))) (ok (.next ((IntKind.wrap .i64 (x1.1+1),r3.2)))))) (ok (.done (.inl x1.2)))) fuel (0,r_0)) fun x4=>sum x4 (fun x5=>ok (((0,(([]:List UInt8),zV)),x5))) (fun z6=>ok ((z6.2,z6.1))))
def R.eval_run_statement (G:au) (r_0:aG.den) (n_1:Int) (e_2:aO.den) (labels_3:(List (List UInt8))):Res (aX.den×aG.den) :=
 given (eval_run_statement.g.i (r_0,(n_1,(e_2,labels_3)))) (bd (R.bz r_0) fun r1=>given (bz.g.o r1) (br (!r1.1) (ok (((5,(([]:List UInt8),zV)),r1.2))) (bd (G.eval_run_act r1.2 n_1 e_2 labels_3) fun r2=>given (eval_run_act.g.o r2) (ok ((r2.1,(r2.2.1,(r2.2.2.1,(r2.2.2.2.1,(r2.2.2.2.2.1,(r2.2.2.2.2.2.1,(IntKind.wrap .i64 (r2.2.2.2.2.2.2.1-1),r2.2.2.2.2.2.2.2))))))))))))
def R.eval_run_act (G:au) (r_0:aG.den) (n_1:Int) (e_2:aO.den) (labels_3:(List (List UInt8))):Res (aX.den×aG.den) :=
 given (eval_run_act.g.i (r_0,(n_1,(e_2,labels_3)))) (idx aE r_0.1 n_1 fun e1=>br (e1.1 == 3) (idx (.int .i64) e1.2.2.2.2.2 0 fun e2=>bd (G.eval_run_expression r_0 e2 e_2) fun r3=>given (eval_run_expression.g.o r3) (br (!(r3.1.2 == 0)) (ok (((r3.1.2,(([]:List UInt8),r3.1.1)),r3.2))) (ok (((0,(([]:List UInt8),zV)),r3.2))))) (br (e1.1 == 4) (bd (G.eval_run_block r_0 n_1 e_2) fun r4=>given (eval_run_block.g.o r4) (ok r4)) (bd (α:=Bool) (br (e1.1 == 5) (ok ((e1.1 == 5))) (ok ((e1.1 == 6)))) fun x5=>br x5 (bd (G.eval_run_decls r_0 e1.2.2.2.2.2 e_2) fun r6=>given (eval_run_decls.g.o r6) (ok r6)) (br (e1.1 == 8) (bd (G.eval_run_choice r_0 e1.2.2.2.2.2 e_2) fun r7=>given (eval_run_choice.g.o r7) (ok r7)) (br (e1.1 == 9) (bd (G.eval_run_while r_0 e1.2.2.2.2.2 e_2 labels_3) fun r8=>given (eval_run_while.g.o r8) (ok r8)) (br (e1.1 == 10) (bd (G.eval_run_loop r_0 e1.2.2.2.2.2 e_2 labels_3) fun r9=>given (eval_run_loop.g.o r9) (ok r9)) (br (e1.1 == 12) (ok (((1,(e1.2.1,zV)),r_0))) (br (e1.1 == 13) (ok (((2,(e1.2.1,zV)),r_0))) (br (e1.1 == 14) (br ((e1.2.2.2.2.2.length:Int) == 0) (ok (((3,(([]:List UInt8),zV)),r_0))) (idx (.int .i64) e1.2.2.2.2.2 0 fun e10=>bd (G.eval_run_expression r_0 e10 e_2) fun r11=>given (eval_run_expression.g.o r11) (bd (R.ej 3 r11.1.1 r11.1.2) fun r12=>given (ej.g.o r12) (ok ((r12,r11.2)))))) (br (e1.1 == 15) (idx (.int .i64) e1.2.2.2.2.2 0 fun e13=>bd (G.eval_run_expression r_0 e13 e_2) fun r14=>given (eval_run_expression.g.o r14) (bd (R.ej 4 r14.1.1 r14.1.2) fun r15=>given (ej.g.o r15) (ok ((r15,r14.2))))) (br (e1.1 == 16) (bd (G.eval_run_try r_0 e1.2.2.2.2.2 e_2) fun r16=>given (eval_run_try.g.o r16) (ok r16)) (br (e1.1 == 18) (idx (.int .i64) e1.2.2.2.2.2 0 fun e17=>bd (ok labels_3) fun r18=>given (ma .str r18) (ah (decide ((r18.length+[e1.2.1].length)*16<=2^47)) (bd (G.eval_run_statement r_0 e17 e_2 (r18++[e1.2.1])) fun r19=>given (eval_run_statement.g.o r19) (bd (α:=Bool) (br (r19.1.1 == 1) (ok ((r19.1.2.1 == e1.2.1))) (ok false)) fun x20=>br x20 (ok (((0,(([]:List UInt8),zV)),r19.2))) (ok r19))))) (ok (((0,(([]:List UInt8),zV)),r_0)))))))))))))))
def R.eval_run_expression (G:au) (r_0:aG.den) (n_1:Int) (e_2:aO.den):Res ((aC.den×Int)×aG.den) :=
 given (eval_run_expression.g.i (r_0,(n_1,e_2))) (bd (R.bz r_0) fun r1=>given (bz.g.o r1) (br (!r1.1) (ok (((zV,5),r1.2))) (bd (G.eval_run_value r1.2 n_1 e_2) fun r2=>given (eval_run_value.g.o r2) (ok ((r2.1,(r2.2.1,(r2.2.2.1,(r2.2.2.2.1,(r2.2.2.2.2.1,(r2.2.2.2.2.2.1,(IntKind.wrap .i64 (r2.2.2.2.2.2.2.1-1),r2.2.2.2.2.2.2.2))))))))))))
def R.eval_run_block (G:au) (r_0:aG.den) (n_1:Int) (e_2:aO.den):Res (aX.den×aG.den) :=
 given (eval_run_block.g.i (r_0,(n_1,e_2))) (bd (α:=((aG.den×aO.den) ⊕ (aG.den×aX.den))) (bd (R.eg r_0.1 n_1) fun r1=>given (eg.g.o r1) (br (ilt 0 (r1.length:Int)) (bd (R.bk r_0 e_2.1) fun r2=>given (bk.g.o r2) (br (!(r2.1.2 == 0)) (ok (.inr (r2.2,(r2.1.2,(([]:List UInt8),zV))))) (bd (R.cL r2.2 n_1 (r2.1.1,e_2.2)) fun r3=>given (cL.g.o r3) (br (!(r3.1.2 == 0)) (ok (.inr (r3.2,(r3.1.2,(([]:List UInt8),r3.1.1))))) (ok (.inl (r3.2,(r2.1.1,e_2.2)))))))) (ok (.inl (r_0,e_2))))) fun x4=>sum x4 (fun x5=>idx aE x5.1.1 n_1 fun e7=>bd (G.eval_run_list x5.1 e7.2.2.2.2.2 x5.2) fun r8=>given (eval_run_list.g.o r8) (ok r8)) (fun z6=>ok ((z6.2,z6.1))))
def R.eval_run_decls (G:au) (r_0:aG.den) (l_1:(List Int)) (e_2:aO.den):Res (aX.den×aG.den) :=
 given (eval_run_decls.g.i (r_0,(l_1,e_2))) (bd (loop (α:=(Int×aG.den)) (β:=(aG.den ⊕ (aG.den×aX.den))) (fun x1=>br (ilt x1.1 (l_1.length:Int)) (idx (.int .i64) l_1 x1.1 fun e2=>idx aE x1.2.1 e2 fun e3=>bd (α:=((aG.den×aC.den) ⊕ (aG.den×aX.den))) (br (ilt 0 (e3.2.2.2.2.2.length:Int)) (idx (.int .i64) e3.2.2.2.2.2 0 fun e4=>bd (G.eval_run_expression x1.2 e4 e_2) fun r5=>given (eval_run_expression.g.o r5) (br (!(r5.1.2 == 0)) (ok (.inr (r5.2,(r5.1.2,(([]:List UInt8),r5.1.1))))) (ok (.inl (r5.2,r5.1.1))))) (ok (.inl (x1.2,zV)))) fun x6=>sum x6 (fun x7=>bd (R.ch x7.1.2.2.2.2.1 e_2.1 e3.2.1 x7.2 true) fun r9=>given (ch.g.o r9) (ok (.next ((IntKind.wrap .i64 (x1.1+1),(x7.1.1,(x7.1.2.1,(x7.1.2.2.1,(x7.1.2.2.2.1,(r9.2,x7.1.2.2.2.2.2)))))))))) (fun z8=>ok (.done (.inr z8)))) (ok (.done (.inl x1.2)))) fuel (0,r_0)) fun x10=>sum x10 (fun x11=>ok (((0,(([]:List UInt8),zV)),x11))) (fun z12=>ok ((z12.2,z12.1))))
def R.eval_run_choice (G:au) (r_0:aG.den) (k_1:(List Int)) (e_2:aO.den):Res (aX.den×aG.den) :=
 given (eval_run_choice.g.i (r_0,(k_1,e_2))) (idx (.int .i64) k_1 0 fun e1=>bd (G.eval_run_asked r_0 e1 e_2) fun r2=>given (eval_run_asked.g.o r2) (br (!(r2.1.2.1 == 0)) (ok ((r2.1.2,r2.2))) (br r2.1.1 (idx (.int .i64) k_1 1 fun e3=>bd (G.eval_run_statement r2.2 e3 e_2 ([]:List (List UInt8))) fun r4=>given (eval_run_statement.g.o r4) (ok r4)) (br (ilt 2 (k_1.length:Int)) (idx (.int .i64) k_1 2 fun e5=>bd (G.eval_run_statement r2.2 e5 e_2 ([]:List (List UInt8))) fun r6=>given (eval_run_statement.g.o r6) (ok r6)) (ok (((0,(([]:List UInt8),zV)),r2.2)))))))
def R.eval_run_while (G:au) (r_0:aG.den) (k_1:(List Int)) (e_2:aO.den) (labels_3:(List (List UInt8))):Res (aX.den×aG.den) :=
 given (eval_run_while.g.i (r_0,(k_1,(e_2,labels_3)))) (bd (loop (α:=aG.den) (β:=(aG.den×aX.den)) (fun x1=>idx (.int .i64) k_1 0 fun e2=>bd (G.eval_run_asked x1 e2 e_2) fun r3=>given (eval_run_asked.g.o r3) (bd (α:=Bool) (br (!(r3.1.2.1 == 0)) (ok true) (ok ((!r3.1.1)))) fun x4=>br x4 (ok (.done ((r3.2,r3.1.2)))) (idx (.int .i64) k_1 1 fun e5=>bd (G.eval_run_statement r3.2 e5 e_2 ([]:List (List UInt8))) fun r6=>given (eval_run_statement.g.o r6) (bd (R.jF r6.1 labels_3) fun r7=>given (jF.g.o r7) (br r7.1 (ok (.next (r6.2))) (ok (.done ((r6.2,r7.2))))))))) fuel r_0) fun x8=>ok ((x8.2,x8.1)))
def R.eval_run_loop (G:au) (r_0:aG.den) (k_1:(List Int)) (e_2:aO.den) (labels_3:(List (List UInt8))):Res (aX.den×aG.den) :=
 given (eval_run_loop.g.i (r_0,(k_1,(e_2,labels_3)))) (idx (.int .i64) k_1 0 fun e1=>bd (G.eval_run_first r_0 e1 e_2) fun r2=>given (eval_run_first.g.o r2) (br (!(r2.1.2.1 == 0)) (ok ((r2.1.2,r2.2))) (idx (.int .i64) k_1 0 fun e3=>idx aE r2.2.1 e3 fun e4=>bd (α:=((aG.den×aO.den) ⊕ (aG.den×aX.den))) (br (e4.1 == 5) (bd (R.dt r2.2 r2.1.1) fun r5=>given (dt.g.o r5) (br (!(r5.1.2 == 0)) (ok (.inr (r5.2,(r5.1.2,(([]:List UInt8),zV))))) (ok (.inl (r5.2,r5.1.1))))) (ok (.inl (r2.2,r2.1.1)))) fun x6=>sum x6 (fun x7=>bd (loop (α:=(aG.den×aO.den)) (β:=(aG.den×aX.den)) (fun x9=>bd (α:=(aG.den ⊕ (aG.den×aX.den))) (idx (.int .i64) k_1 1 fun e10=>idx aE x9.1.1 e10 fun e11=>br (!(e11.1 == 11)) (idx (.int .i64) k_1 1 fun e12=>bd (G.eval_run_asked x9.1 e12 x9.2) fun r13=>given (eval_run_asked.g.o r13) (bd (α:=Bool) (br (!(r13.1.2.1 == 0)) (ok true) (ok ((!r13.1.1)))) fun x14=>br x14 (ok (.inr (r13.2,r13.1.2))) (ok (.inl r13.2)))) (ok (.inl x9.1))) fun x15=>sum x15 (fun x16=>idx (.int .i64) k_1 3 fun e18=>bd (G.eval_run_statement x16 e18 x9.2 ([]:List (List UInt8))) fun r19=>given (eval_run_statement.g.o r19) (bd (R.jF r19.1 labels_3) fun r20=>given (jF.g.o r20) (br (!r20.1) (ok (.done ((r19.2,r20.2)))) (bd (α:=((aG.den×aO.den) ⊕ (aG.den×aX.den))) (br (e4.1 == 5) (bd (R.dt r19.2 x9.2) fun r21=>given (dt.g.o r21) (br (!(r21.1.2 == 0)) (ok (.inr (r21.2,(r21.1.2,(([]:List UInt8),zV))))) (ok (.inl (r21.2,r21.1.1))))) (ok (.inl (r19.2,x9.2)))) fun x22=>sum x22 (fun x23=>idx (.int .i64) k_1 2 fun e25=>idx aE x23.1.1 e25 fun e26=>br (e26.1 == 11) (ok (.next (x23))) (idx (.int .i64) k_1 2 fun e27=>bd (G.eval_run_expression x23.1 e27 x23.2) fun r28=>given (eval_run_expression.g.o r28) (br (!(r28.1.2 == 0)) (ok (.done ((r28.2,(r28.1.2,(([]:List UInt8),r28.1.1)))))) (ok (.next ((r28.2,x23.2))))))) (fun z24=>ok (.done (z24))))))) (fun z17=>ok (.done (z17)))) fuel x7) fun x29=>ok ((x29.2,x29.1))) (fun z8=>ok ((z8.2,z8.1))))))
def R.eval_run_try (G:au) (r_0:aG.den) (k_1:(List Int)) (e_2:aO.den):Res (aX.den×aG.den) :=
 given (eval_run_try.g.i (r_0,(k_1,e_2))) (idx (.int .i64) k_1 0 fun e1=>bd (G.eval_run_statement r_0 e1 e_2 ([]:List (List UInt8))) fun r2=>given (eval_run_statement.g.o r2) (bd (α:=(aG.den×aX.den)) (idx (.int .i64) k_1 1 fun e3=>idx aE r2.2.1 e3 fun e4=>bd (α:=Bool) (br (r2.1.1 == 4) (ok ((e4.1 == 17))) (ok false)) fun x5=>br x5 (idx (.int .i64) e4.2.2.2.2.2 0 fun e6=>bd (G.eval_run_catch r2.2 e4.2.1 e6 r2.1.2.2 e_2) fun r7=>given (eval_run_catch.g.o r7) (ok ((r7.2,r7.1)))) (ok ((r2.2,r2.1)))) fun x8=>bd (α:=Bool) (br (x8.2.1 == 5) (ok true) (idx (.int .i64) k_1 2 fun e9=>idx aE x8.1.1 e9 fun e10=>ok ((e10.1 == 11)))) fun x11=>br x11 (ok ((x8.2,x8.1))) (idx (.int .i64) k_1 2 fun e12=>bd (G.eval_run_statement x8.1 e12 e_2 ([]:List (List UInt8))) fun r13=>given (eval_run_statement.g.o r13) (br (!(r13.1.1 == 0)) (ok r13) (ok ((x8.2,r13.2)))))))
def R.eval_run_value (G:au) (r_0:aG.den) (n_1:Int) (e_2:aO.den):Res ((aC.den×Int)×aG.den) :=
 given (eval_run_value.g.i (r_0,(n_1,e_2))) (idx aE r_0.1 n_1 fun e1=>br (e1.1 == 30) (bd (R.b8 e1.2.2.2.1) fun r2=>given (b8.g.o r2) (ok (((r2,0),r_0)))) (br (e1.1 == 31) (bd (R.dB e1.2.2.2.2.1) fun r3=>given (dB.g.o r3) (ok (((r3,0),r_0)))) (br (e1.1 == 32) (bd (R.bw e1.2.2.1) fun r4=>given (bw.g.o r4) (ok (((r4,0),r_0)))) (br (e1.1 == 33) (bd (R.eN r_0 e1.2.1 e_2) fun r5=>given (eN.g.o r5) (ok r5)) (bd (α:=Bool) (br (e1.1 == 34) (ok ((e1.1 == 34))) (ok ((e1.1 == 35)))) fun x6=>br x6 (bd (R.bE (e1.1 == 34)) fun r7=>given (bE.g.o r7) (ok (((r7,0),r_0)))) (br (e1.1 == 36) (ok ((((1,((0,0),((false,([]:List Int)),(([]:List Int),0)))),0),r_0))) (br (e1.1 == 37) (br (!e_2.2.2) (bd (R.aK r_0) fun r8=>given (aK.g.o r8) (ok r8)) (ok (((e_2.2.1,0),r_0)))) (br (e1.1 == 38) (bd (G.eval_run_array r_0 e1.2.2.2.2.2 e_2) fun r9=>given (eval_run_array.g.o r9) (ok r9)) (br (e1.1 == 39) (bd (G.eval_run_object r_0 e1.2.2.2.2.2 e_2) fun r10=>given (eval_run_object.g.o r10) (ok r10)) (bd (α:=Bool) (br (e1.1 == 41) (ok ((e1.1 == 41))) (ok ((e1.1 == 42)))) fun x11=>br x11 (bd (R.cd r_0 n_1 e_2) fun r12=>given (cd.g.o r12) (ok r12)) (bd (G.eval_run_operation r_0 n_1 e1 e_2) fun r13=>given (eval_run_operation.g.o r13) (ok r13))))))))))))
def R.eval_run_asked (G:au) (r_0:aG.den) (n_1:Int) (e_2:aO.den):Res ((Bool×aX.den)×aG.den) :=
 given (eval_run_asked.g.i (r_0,(n_1,e_2))) (bd (G.eval_run_expression r_0 n_1 e_2) fun r1=>given (eval_run_expression.g.o r1) (br (!(r1.1.2 == 0)) (ok (((false,(r1.1.2,(([]:List UInt8),r1.1.1))),r1.2))) (bd (R.fa r1.1.1) fun r2=>ok (((r2,(0,(([]:List UInt8),zV))),r1.2)))))
def R.eval_run_first (G:au) (r_0:aG.den) (n_1:Int) (e_2:aO.den):Res ((aO.den×aX.den)×aG.den) :=
 given (eval_run_first.g.i (r_0,(n_1,e_2))) (idx aE r_0.1 n_1 fun e1=>br (e1.1 == 11) (ok (((e_2,(0,(([]:List UInt8),zV))),r_0))) (bd (α:=Bool) (br (e1.1 == 5) (ok ((e1.1 == 5))) (ok ((e1.1 == 6)))) fun x2=>br x2 (bd (R.bk r_0 e_2.1) fun r3=>given (bk.g.o r3) (br (!(r3.1.2 == 0)) (ok (((e_2,(r3.1.2,(([]:List UInt8),zV))),r3.2))) (bd (loop (α:=(Int×dz.den)) (β:=dz.den) (fun x4=>br (ilt x4.1 (e1.2.2.2.2.2.length:Int)) (idx (.int .i64) e1.2.2.2.2.2 x4.1 fun e5=>idx aE r3.2.1 e5 fun e6=>bd (R.bF x4.2 r3.1.1 e6.2.1 zV false (e1.1 == 6)) fun r7=>given (bF.g.o r7) (ok (.next ((IntKind.wrap .i64 (x4.1+1),r7.2))))) (ok (.done (x4.2)))) fuel (0,r3.2.2.2.2.2.1)) fun x8=>bd (G.eval_run_statement (r3.2.1,(r3.2.2.1,(r3.2.2.2.1,(r3.2.2.2.2.1,(x8,r3.2.2.2.2.2.2))))) n_1 (r3.1.1,e_2.2) ([]:List (List UInt8))) fun r9=>given (eval_run_statement.g.o r9) (ok ((((r3.1.1,e_2.2),r9.1),r9.2)))))) (bd (G.eval_run_expression r_0 n_1 e_2) fun r10=>given (eval_run_expression.g.o r10) (bd (R.ej 0 r10.1.1 r10.1.2) fun r11=>given (ej.g.o r11) (ok (((e_2,r11),r10.2)))))))
def R.eval_run_catch (G:au) (r_0:aG.den) (name_1:(List UInt8)) (n_2:Int) (v_3:aC.den) (e_4:aO.den):Res (aX.den×aG.den) :=
 given (eval_run_catch.g.i (r_0,(name_1,(n_2,(v_3,e_4))))) (br (!(name_1 == ([]:List UInt8))) (bd (R.bk r_0 e_4.1) fun r1=>given (bk.g.o r1) (br (!(r1.1.2 == 0)) (ok (((r1.1.2,(([]:List UInt8),zV)),r1.2))) (bd (R.bF r1.2.2.2.2.2.1 r1.1.1 name_1 v_3 true false) fun r2=>given (bF.g.o r2) (bd (G.eval_run_statement (r1.2.1,(r1.2.2.1,(r1.2.2.2.1,(r1.2.2.2.2.1,(r2.2,r1.2.2.2.2.2.2))))) n_2 (r1.1.1,e_4.2) ([]:List (List UInt8))) fun r3=>given (eval_run_statement.g.o r3) (ok r3))))) (bd (G.eval_run_statement r_0 n_2 e_4 ([]:List (List UInt8))) fun r4=>given (eval_run_statement.g.o r4) (ok r4)))
def R.eval_run_array (G:au) (r_0:aG.den) (k_1:(List Int)) (e_2:aO.den):Res ((aC.den×Int)×aG.den) :=
 given (eval_run_array.g.i (r_0,(k_1,e_2))) (bd (R.aT r_0 (2,(0,(([]:List bO.den),(([]:List bJ.den),(([]:List UInt8),(0,(0,(zV,(0,(0,(0,(0,([]:List Int)))))))))))))) fun r1=>given (aT.g.o r1) (br (!(r1.1.2 == 0)) (ok r1) (bd (loop (α:=(Int×aG.den)) (β:=(aG.den ⊕ (Int×(aG.den×aC.den)))) (fun x2=>br (ilt x2.1 (k_1.length:Int)) (idx (.int .i64) k_1 x2.1 fun e3=>bd (G.eval_run_expression x2.2 e3 e_2) fun r4=>given (eval_run_expression.g.o r4) (br (!(r4.1.2 == 0)) (ok (.done (.inr (r4.1.2,(r4.2,r4.1.1))))) (bd (R.fL x2.1) fun r5=>given (fL.g.o r5) (bd (R.bj r4.2.2.2.2.2.1 r1.1.1.2.2.2.2 r5 r4.1.1) fun r6=>given (bj.g.o r6) (ok (.next ((IntKind.wrap .i64 (x2.1+1),(r4.2.1,(r4.2.2.1,(r4.2.2.2.1,(r4.2.2.2.2.1,(r6.2,r4.2.2.2.2.2.2))))))))))))) (ok (.done (.inl x2.2)))) fuel (0,r1.2)) fun x7=>sum x7 (fun x8=>ok (((r1.1.1,0),x8))) (fun z9=>ok (((z9.2.2,z9.1),z9.2.1))))))
def R.eval_run_object (G:au) (r_0:aG.den) (k_1:(List Int)) (e_2:aO.den):Res ((aC.den×Int)×aG.den) :=
 given (eval_run_object.g.i (r_0,(k_1,e_2))) (bd (R.aT r_0 (1,((-1),(([]:List bO.den),(([]:List bJ.den),(([]:List UInt8),(0,(0,(zV,(0,(0,(0,(0,([]:List Int)))))))))))))) fun r1=>given (aT.g.o r1) (br (!(r1.1.2 == 0)) (ok r1) (bd (loop (α:=(Int×aG.den)) (β:=(aG.den ⊕ (Int×(aG.den×aC.den)))) (fun x2=>br (ilt x2.1 (k_1.length:Int)) (idx (.int .i64) k_1 x2.1 fun e3=>idx aE x2.2.1 e3 fun e4=>idx (.int .i64) e4.2.2.2.2.2 0 fun e5=>bd (G.eval_run_expression x2.2 e5 e_2) fun r6=>given (eval_run_expression.g.o r6) (br (!(r6.1.2 == 0)) (ok (.done (.inr (r6.1.2,(r6.2,r6.1.1))))) (bd (R.ai [95,95,112,114,111,116,111,95,95]) fun r7=>given (ai.g.o r7) (bd (R.gf e4.2.2.1 r7) fun r8=>br r8 (bd (R.aK r6.2) fun r9=>given (aK.g.o r9) (ok (.done (.inr (r9.1.2,(r9.2,r9.1.1)))))) (bd (R.bj r6.2.2.2.2.2.1 r1.1.1.2.2.2.2 e4.2.2.1 r6.1.1) fun r10=>given (bj.g.o r10) (ok (.next ((IntKind.wrap .i64 (x2.1+1),(r6.2.1,(r6.2.2.1,(r6.2.2.2.1,(r6.2.2.2.2.1,(r10.2,r6.2.2.2.2.2.2)))))))))))))) (ok (.done (.inl x2.2)))) fuel (0,r1.2)) fun x11=>sum x11 (fun x12=>ok (((r1.1.1,0),x12))) (fun z13=>ok (((z13.2.2,z13.1),z13.2.1))))))
def R.eval_run_operation (G:au) (r_0:aG.den) (n_1:Int) (x_2:aE.den) (e_3:aO.den):Res ((aC.den×Int)×aG.den) :=
 given (eval_run_operation.g.i (r_0,(n_1,(x_2,e_3)))) (br (x_2.1 == 43) (idx (.int .i64) x_2.2.2.2.2.2 0 fun e1=>bd (G.eval_run_unary r_0 x_2.2.1 e1 e_3) fun r2=>given (eval_run_unary.g.o r2) (ok r2)) (bd (α:=Bool) (br (x_2.1 == 44) (ok ((x_2.1 == 44))) (ok ((x_2.1 == 45)))) fun x3=>br x3 (bd (G.eval_run_step r_0 x_2 e_3) fun r4=>given (eval_run_step.g.o r4) (ok r4)) (br (x_2.1 == 46) (bd (G.eval_run_binary r_0 x_2 e_3) fun r5=>given (eval_run_binary.g.o r5) (ok r5)) (br (x_2.1 == 47) (bd (G.eval_run_logic r_0 x_2 e_3) fun r6=>given (eval_run_logic.g.o r6) (ok r6)) (br (x_2.1 == 48) (idx (.int .i64) x_2.2.2.2.2.2 0 fun e7=>bd (G.eval_run_expression r_0 e7 e_3) fun r8=>given (eval_run_expression.g.o r8) (br (!(r8.1.2 == 0)) (ok r8) (bd (R.fa r8.1.1) fun r9=>br r9 (idx (.int .i64) x_2.2.2.2.2.2 1 fun e10=>bd (G.eval_run_expression r8.2 e10 e_3) fun r11=>given (eval_run_expression.g.o r11) (ok r11)) (idx (.int .i64) x_2.2.2.2.2.2 2 fun e12=>bd (G.eval_run_expression r8.2 e12 e_3) fun r13=>given (eval_run_expression.g.o r13) (ok r13))))) (br (x_2.1 == 49) (bd (G.eval_run_assign r_0 x_2 e_3) fun r14=>given (eval_run_assign.g.o r14) (ok r14)) (br (x_2.1 == 50) (bd (G.eval_run_callee r_0 x_2.2.2.2.2.2 e_3) fun r15=>given (eval_run_callee.g.o r15) (ok r15)) (br (x_2.1 == 51) (idx (.int .i64) x_2.2.2.2.2.2 0 fun e16=>bd (G.eval_run_expression r_0 e16 e_3) fun r17=>given (eval_run_expression.g.o r17) (br (!(r17.1.2 == 0)) (ok r17) (ah (ile 0 1 && ile 1 x_2.2.2.2.2.2.length) (bd (G.eval_run_arguments r17.2 (List.drop (Int.toNat 1) x_2.2.2.2.2.2) e_3) fun r18=>given (eval_run_arguments.g.o r18) (br (!(r18.1.2.2 == 0)) (ok ((r18.1.2,r18.2))) (bd (G.eval_run_fresh r18.2 r17.1.1 r18.1.1) fun r19=>given (eval_run_fresh.g.o r19) (ok r19))))))) (bd (G.eval_run_property r_0 n_1 e_3) fun r20=>given (eval_run_property.g.o r20) (ok r20))))))))))
def R.eval_run_unary (G:au) (r_0:aG.den) (op_1:(List UInt8)) (n_2:Int) (e_3:aO.den):Res ((aC.den×Int)×aG.den) :=
 given (eval_run_unary.g.i (r_0,(op_1,(n_2,e_3)))) (br (!(op_1 == [116,121,112,101,111,102])) (bd (G.eval_run_expression r_0 n_2 e_3) fun r1=>given (eval_run_expression.g.o r1) (br (!(r1.1.2 == 0)) (ok r1) (bd (R.jO op_1 r1.1.1) fun r2=>given (jO.g.o r2) (bd (R.bm r1.2 r2.1 r2.2) fun r3=>given (bm.g.o r3) (ok r3))))) (bd (α:=((Int×(aG.den×aC.den)) ⊕ (Int×(aG.den×aC.den)))) (idx aE r_0.1 n_2 fun e4=>br (e4.1 == 33) (bd (R.bz r_0) fun r5=>given (bz.g.o r5) (br (!r5.1) (ok (.inr (5,(r5.2,zV)))) (bd (R.dW r5.2 e4.2.1 e_3 true) fun r6=>given (dW.g.o r6) (ok (.inl (r6.1.2,((r6.2.1,(r6.2.2.1,(r6.2.2.2.1,(r6.2.2.2.2.1,(r6.2.2.2.2.2.1,(IntKind.wrap .i64 (r6.2.2.2.2.2.2.1-1),r6.2.2.2.2.2.2.2)))))),r6.1.1))))))) (bd (G.eval_run_expression r_0 n_2 e_3) fun r7=>given (eval_run_expression.g.o r7) (ok (.inl (r7.1.2,(r7.2,r7.1.1)))))) fun how8=>sum how8 (fun how9=>br (!(how9.1 == 0)) (ok (((how9.2.2,how9.1),how9.2.1))) (bd (R.fy how9.2.1 how9.2.2) fun r11=>given (fy.g.o r11) (bd (R.ai r11) fun r12=>given (ai.g.o r12) (bd (R.bw r12) fun r13=>given (bw.g.o r13) (ok (((r13,0),how9.2.1))))))) (fun z10=>ok (((z10.2.2,z10.1),z10.2.1)))))
def R.eval_run_step (G:au) (r_0:aG.den) (x_1:aE.den) (e_2:aO.den):Res ((aC.den×Int)×aG.den) :=
 given (eval_run_step.g.i (r_0,(x_1,e_2))) (idx (.int .i64) x_1.2.2.2.2.2 0 fun e1=>bd (G.eval_run_parts r_0 e1 e_2) fun r2=>given (eval_run_parts.g.o r2) (br (!(r2.1.2.2 == 0)) (ok ((r2.1.2,r2.2))) (bd (R.eP r2.2 r2.1.1 e_2) fun r3=>given (eP.g.o r3) (br (!(r3.1.2 == 0)) (ok r3) (bd (R.bx r3.1.1) fun r4=>given (bx.g.o r4) (br (!(r4.2 == 0)) (bd (R.aF r3.2 r4.2) fun r5=>given (aF.g.o r5) (ok r5)) (bd (α:=Int) (br (x_1.2.1 == [45,45]) (ok ((-1))) (ok 1)) fun by6=>bd (R.kF r4.1 by6) fun r7=>given (kF.g.o r7) (br (!(r7.2 == 0)) (bd (R.aF r3.2 r7.2) fun r8=>given (aF.g.o r8) (ok r8)) (bd (R.fU r3.2 r2.1.1 r7.1 e_2) fun r9=>given (fU.g.o r9) (br (!(r9.1.2 == 0)) (ok r9) (br (x_1.1 == 44) (ok (((r7.1,0),r9.2))) (ok (((r4.1,0),r9.2))))))))))))))
def R.eval_run_binary (G:au) (r_0:aG.den) (x_1:aE.den) (e_2:aO.den):Res ((aC.den×Int)×aG.den) :=
 given (eval_run_binary.g.i (r_0,(x_1,e_2))) (idx (.int .i64) x_1.2.2.2.2.2 0 fun e1=>bd (G.eval_run_expression r_0 e1 e_2) fun r2=>given (eval_run_expression.g.o r2) (br (!(r2.1.2 == 0)) (ok r2) (idx (.int .i64) x_1.2.2.2.2.2 1 fun e3=>bd (G.eval_run_expression r2.2 e3 e_2) fun r4=>given (eval_run_expression.g.o r4) (br (!(r4.1.2 == 0)) (ok r4) (br (x_1.2.1 == [105,110]) (bd (R.iW r4.2 r2.1.1 r4.1.1) fun r5=>given (iW.g.o r5) (ok r5)) (bd (R.gM x_1.2.1 r2.1.1 r4.1.1) fun r6=>given (gM.g.o r6) (bd (R.bm r4.2 r6.1 r6.2) fun r7=>given (bm.g.o r7) (ok r7))))))))
def R.eval_run_logic (G:au) (r_0:aG.den) (x_1:aE.den) (e_2:aO.den):Res ((aC.den×Int)×aG.den) :=
 given (eval_run_logic.g.i (r_0,(x_1,e_2))) (idx (.int .i64) x_1.2.2.2.2.2 0 fun e1=>bd (G.eval_run_expression r_0 e1 e_2) fun r2=>given (eval_run_expression.g.o r2) (br (!(r2.1.2 == 0)) (ok r2) (bd (α:=Bool) (br (x_1.2.1 == [38,38]) (bd (R.fa r2.1.1) fun r3=>ok ((!r3))) (br (x_1.2.1 == [124,124]) (bd (R.fa r2.1.1) fun r4=>ok r4) (br (!(r2.1.1.1 == 0)) (ok ((!(r2.1.1.1 == 1)))) (ok false)))) fun enough5=>br enough5 (ok (((r2.1.1,0),r2.2))) (idx (.int .i64) x_1.2.2.2.2.2 1 fun e6=>bd (G.eval_run_expression r2.2 e6 e_2) fun r7=>given (eval_run_expression.g.o r7) (ok r7)))))
def R.eval_run_assign (G:au) (r_0:aG.den) (x_1:aE.den) (e_2:aO.den):Res ((aC.den×Int)×aG.den) :=
 given (eval_run_assign.g.i (r_0,(x_1,e_2))) (idx (.int .i64) x_1.2.2.2.2.2 0 fun e1=>bd (G.eval_run_parts r_0 e1 e_2) fun r2=>given (eval_run_parts.g.o r2) (br (!(r2.1.2.2 == 0)) (ok ((r2.1.2,r2.2))) (ah (ile 0 (IntKind.wrap .i64 ((x_1.2.1.length:Int)-1)) && ile (IntKind.wrap .i64 ((x_1.2.1.length:Int)-1)) x_1.2.1.length) (bd (α:=((aG.den×aC.den) ⊕ (Int×(aG.den×aC.den)))) (br (!((List.take (Int.toNat (IntKind.wrap .i64 ((x_1.2.1.length:Int)-1))) x_1.2.1) == ([]:List UInt8))) (bd (R.eP r2.2 r2.1.1 e_2) fun r3=>given (eP.g.o r3) (br (!(r3.1.2 == 0)) (ok (.inr (r3.1.2,(r3.2,r3.1.1)))) (ok (.inl (r3.2,r3.1.1))))) (ok (.inl (r2.2,zV)))) fun x4=>sum x4 (fun x5=>idx (.int .i64) x_1.2.2.2.2.2 1 fun e7=>bd (G.eval_run_expression x5.1 e7 e_2) fun r8=>given (eval_run_expression.g.o r8) (br (!(r8.1.2 == 0)) (ok r8) (bd (α:=(aC.den ⊕ (Int×(aG.den×aC.den)))) (br (!((List.take (Int.toNat (IntKind.wrap .i64 ((x_1.2.1.length:Int)-1))) x_1.2.1) == ([]:List UInt8))) (bd (R.gM (List.take (Int.toNat (IntKind.wrap .i64 ((x_1.2.1.length:Int)-1))) x_1.2.1) x5.2 r8.1.1) fun r9=>given (gM.g.o r9) (br (!(r9.2 == 0)) (bd (R.aF r8.2 r9.2) fun r10=>given (aF.g.o r10) (ok (.inr (r10.1.2,(r10.2,r10.1.1))))) (ok (.inl r9.1)))) (ok (.inl r8.1.1))) fun x11=>sum x11 (fun x12=>bd (R.fU r8.2 r2.1.1 x12 e_2) fun r14=>given (fU.g.o r14) (br (!(r14.1.2 == 0)) (ok r14) (ok (((x12,0),r14.2))))) (fun z13=>ok (((z13.2.2,z13.1),z13.2.1)))))) (fun z6=>ok (((z6.2.2,z6.1),z6.2.1)))))))
def R.eval_run_callee (G:au) (r_0:aG.den) (k_1:(List Int)) (e_2:aO.den):Res ((aC.den×Int)×aG.den) :=
 given (eval_run_callee.g.i (r_0,(k_1,e_2))) (idx (.int .i64) k_1 0 fun e1=>bd (G.eval_run_called r_0 e1 e_2) fun r2=>given (eval_run_called.g.o r2) (br (!(r2.1.2.2 == 0)) (ok (((r2.1.1,r2.1.2.2),r2.2))) (ah (ile 0 1 && ile 1 k_1.length) (bd (G.eval_run_arguments r2.2 (List.drop (Int.toNat 1) k_1) e_2) fun r3=>given (eval_run_arguments.g.o r3) (br (!(r3.1.2.2 == 0)) (ok ((r3.1.2,r3.2))) (bd (G.eval_run_call r3.2 r2.1.1 r2.1.2.1 r3.1.1) fun r4=>given (eval_run_call.g.o r4) (ok r4)))))))
def R.eval_run_arguments (G:au) (r_0:aG.den) (k_1:(List Int)) (e_2:aO.den):Res (((List aC.den)×(aC.den×Int))×aG.den) :=
 given (eval_run_arguments.g.i (r_0,(k_1,e_2))) (bd (loop (α:=((List aC.den)×(Int×aG.den))) (β:=(((List aC.den)×aG.den) ⊕ ((List aC.den)×(Int×(aG.den×aC.den))))) (fun l1=>br (ilt l1.2.1 (k_1.length:Int)) (idx (.int .i64) k_1 l1.2.1 fun e2=>bd (G.eval_run_expression l1.2.2 e2 e_2) fun r3=>given (eval_run_expression.g.o r3) (br (!(r3.1.2 == 0)) (ok (.done (.inr (([]:List aC.den),(r3.1.2,(r3.2,r3.1.1)))))) (ah (decide ((l1.1.length+[r3.1.1].length)*88<=2^47)) (ok (.next (((l1.1++[r3.1.1]),(IntKind.wrap .i64 (l1.2.1+1),r3.2)))))))) (ok (.done (.inl (l1.1,l1.2.2))))) fuel (([]:List aC.den),(0,r_0))) fun l4=>sum l4 (fun l5=>ok (((l5.1,(zV,0)),l5.2))) (fun z6=>ok (((z6.1,(z6.2.2.2,z6.2.1)),z6.2.2.1))))
def R.eval_run_fresh (G:au) (r_0:aG.den) (f_1:aC.den) (l_2:(List aC.den)):Res ((aC.den×Int)×aG.den) :=
 given (eval_run_fresh.g.i (r_0,(f_1,l_2))) (br (!(f_1.1 == 6)) (bd (R.aF r_0 1) fun r1=>given (aF.g.o r1) (ok r1)) (bd (R.aj r_0.2.2.2.2.1 f_1.2.2.2.2) fun r2=>given (aj.g.o r2) (br (!r2.2) (bd (R.gF f_1.2.2.2.2) fun r3=>given (gF.g.o r3) (bd (G.eval_run_builds r_0 r3 l_2) fun r4=>given (eval_run_builds.g.o r4) (ok r4))) (bd (α:=Bool) (br (!(r2.1.1 == 3)) (ok true) (ok ((!(r2.1.2.2.2.2.2.2.2.2.1 == 0))))) fun x5=>br x5 (bd (R.aF r_0 1) fun r6=>given (aF.g.o r6) (ok r6)) (bd (α:=(Int ⊕ (Int×(aG.den×aC.den)))) (bd (R.ai [112,114,111,116,111,116,121,112,101]) fun r7=>given (ai.g.o r7) (bd (R.cM r_0.2.2.2.2.1 f_1.2.2.2.2 r7) fun r8=>given (cM.g.o r8) (br (r8.1.1 == 6) (bd (R.ay r_0.2.2.2.2.1 r8.1.2.2.2.2) fun r9=>given (ay.g.o r9) (br (!(r9 == 1)) (bd (R.aK r_0) fun r10=>given (aK.g.o r10) (ok (.inr (r10.1.2,(r10.2,r10.1.1))))) (ok (.inl r8.1.2.2.2.2)))) (ok (.inl (-1)))))) fun proto11=>sum proto11 (fun proto12=>bd (R.aT r_0 (1,(proto12,(([]:List bO.den),(([]:List bJ.den),(([]:List UInt8),(0,(0,(zV,(0,(0,(0,(0,([]:List Int)))))))))))))) fun r14=>given (aT.g.o r14) (br (!(r14.1.2 == 0)) (ok r14) (bd (G.eval_run_apply r14.2 f_1.2.2.2.2 r14.1.1 l_2) fun r15=>given (eval_run_apply.g.o r15) (bd (α:=Bool) (br (!(r15.1.2 == 0)) (ok true) (ok ((r15.1.1.1 == 6)))) fun x16=>br x16 (ok r15) (ok (((r14.1.1,0),r15.2))))))) (fun z13=>ok (((z13.2.2,z13.1),z13.2.1))))))))
def R.eval_run_property (G:au) (r_0:aG.den) (n_1:Int) (e_2:aO.den):Res ((aC.den×Int)×aG.den) :=
 given (eval_run_property.g.i (r_0,(n_1,e_2))) (bd (G.eval_run_parts r_0 n_1 e_2) fun r1=>given (eval_run_parts.g.o r1) (br (!(r1.1.2.2 == 0)) (ok ((r1.1.2,r1.2))) (bd (R.dw r1.2 r1.1.1) fun r2=>given (dw.g.o r2) (ok r2))))
def R.eval_run_parts (G:au) (r_0:aG.den) (n_1:Int) (e_2:aO.den):Res ((fX.den×(aC.den×Int))×aG.den) :=
 given (eval_run_parts.g.i (r_0,(n_1,e_2))) (idx aE r_0.1 n_1 fun e1=>br (e1.1 == 33) (ok ((((e1.2.1,(zV,zV)),(zV,0)),r_0))) (idx (.int .i64) e1.2.2.2.2.2 0 fun e2=>bd (G.eval_run_expression r_0 e2 e_2) fun r3=>given (eval_run_expression.g.o r3) (br (!(r3.1.2 == 0)) (ok ((((([]:List UInt8),(zV,zV)),r3.1),r3.2))) (br (e1.1 == 52) (bd (R.ai e1.2.1) fun r4=>given (ai.g.o r4) (bd (R.bw r4) fun r5=>given (bw.g.o r5) (ok ((((([]:List UInt8),(r3.1.1,r5)),(zV,0)),r3.2))))) (idx (.int .i64) e1.2.2.2.2.2 1 fun e6=>bd (G.eval_run_expression r3.2 e6 e_2) fun r7=>given (eval_run_expression.g.o r7) (br (!(r7.1.2 == 0)) (ok ((((([]:List UInt8),(zV,zV)),r7.1),r7.2))) (ok ((((([]:List UInt8),(r3.1.1,r7.1.1)),(zV,0)),r7.2)))))))))
def R.eval_run_called (G:au) (r_0:aG.den) (n_1:Int) (e_2:aO.den):Res ((aC.den×(aC.den×Int))×aG.den) :=
 given (eval_run_called.g.i (r_0,(n_1,e_2))) (idx aE r_0.1 n_1 fun e1=>bd (α:=Bool) (br (!(e1.1 == 52)) (ok ((!(e1.1 == 53)))) (ok false)) fun x2=>br x2 (bd (G.eval_run_expression r_0 n_1 e_2) fun r3=>given (eval_run_expression.g.o r3) (ok (((r3.1.1,(zV,r3.1.2)),r3.2)))) (bd (R.bz r_0) fun r4=>given (bz.g.o r4) (br (!r4.1) (ok (((zV,(zV,5)),r4.2))) (bd (G.eval_run_parts r4.2 n_1 e_2) fun r5=>given (eval_run_parts.g.o r5) (bd (α:=(Int×(aG.den×aC.den))) (br (r5.1.2.2 == 0) (bd (R.dw r5.2 r5.1.1) fun r6=>given (dw.g.o r6) (ok ((r6.1.2,(r6.2,r6.1.1))))) (ok ((r5.1.2.2,(r5.2,r5.1.2.1))))) fun how7=>ok (((how7.2.2,(r5.1.1.2.1,how7.1)),(how7.2.1.1,(how7.2.1.2.1,(how7.2.1.2.2.1,(how7.2.1.2.2.2.1,(how7.2.1.2.2.2.2.1,(IntKind.wrap .i64 (how7.2.1.2.2.2.2.2.1-1),how7.2.1.2.2.2.2.2.2)))))))))))))
def R.eval_run_call (G:au) (r_0:aG.den) (f_1:aC.den) (this_2:aC.den) (l_3:(List aC.den)):Res ((aC.den×Int)×aG.den) :=
 given (eval_run_call.g.i (r_0,(f_1,(this_2,l_3)))) (br (!(f_1.1 == 6)) (bd (R.aF r_0 1) fun r1=>given (aF.g.o r1) (ok r1)) (bd (R.gF f_1.2.2.2.2) fun r2=>given (gF.g.o r2) (bd (R.gz r2) fun r3=>br r3 (bd (G.eval_run_does r_0 r2 this_2 l_3) fun r4=>given (eval_run_does.g.o r4) (ok r4)) (bd (R.ay r_0.2.2.2.2.1 f_1.2.2.2.2) fun r5=>given (ay.g.o r5) (br (!(r5 == 3)) (bd (R.aF r_0 1) fun r6=>given (aF.g.o r6) (ok r6)) (bd (G.eval_run_apply r_0 f_1.2.2.2.2 this_2 l_3) fun r7=>given (eval_run_apply.g.o r7) (ok r7)))))))
def R.eval_run_builds (G:au) (r_0:aG.den) (s_1:(List UInt8)) (l_2:(List aC.den)):Res ((aC.den×Int)×aG.den) :=
 given (eval_run_builds.g.i (r_0,(s_1,l_2))) (bd (α:=Bool) (br (s_1 == [79,98,106,101,99,116]) (ok ((s_1 == [79,98,106,101,99,116]))) (br (s_1 == [65,114,114,97,121]) (ok ((s_1 == [65,114,114,97,121]))) (br (s_1 == [78,117,109,98,101,114]) (ok ((s_1 == [78,117,109,98,101,114]))) (br (s_1 == [83,116,114,105,110,103]) (ok ((s_1 == [83,116,114,105,110,103]))) (ok ((s_1 == [66,111,111,108,101,97,110]))))))) fun x1=>br x1 (bd (R.aK r_0) fun r2=>given (aK.g.o r2) (ok r2)) (bd (α:=Bool) (br (s_1 == [69,114,114,111,114]) (ok ((s_1 == [69,114,114,111,114]))) (br (s_1 == [84,121,112,101,69,114,114,111,114]) (ok ((s_1 == [84,121,112,101,69,114,114,111,114]))) (br (s_1 == [82,97,110,103,101,69,114,114,111,114]) (ok ((s_1 == [82,97,110,103,101,69,114,114,111,114]))) (br (s_1 == [82,101,102,101,114,101,110,99,101,69,114,114,111,114]) (ok ((s_1 == [82,101,102,101,114,101,110,99,101,69,114,114,111,114]))) (ok ((s_1 == [83,121,110,116,97,120,69,114,114,111,114]))))))) fun x3=>br x3 (bd (G.eval_run_does r_0 s_1 zV l_2) fun r4=>given (eval_run_does.g.o r4) (ok r4)) (br (s_1 == [65,114,114,97,121,66,117,102,102,101,114]) (bd (R.bU l_2 0) fun r5=>given (bU.g.o r5) (bd (R.cQ r5) fun r6=>given (cQ.g.o r6) (br (!(r6.2 == 0)) (bd (R.aF r_0 r6.2) fun r7=>given (aF.g.o r7) (ok r7)) (br (ilt 4096 r6.1) (bd (R.aF r_0 2) fun r8=>given (aF.g.o r8) (ok r8)) (ah (ile 0 r6.1 && (ile r6.1 r6.1 && decide ((Int.toNat r6.1)*1<=2^47))) (bd (R.aT r_0 (5,(0,(([]:List bO.den),(([]:List bJ.den),(([]:List UInt8),(0,(0,(zV,(0,(0,(0,(0,(List.replicate (Int.toNat r6.1) (0:Int))))))))))))))) fun r9=>given (aT.g.o r9) (ok r9))))))) (br (s_1 == [83,104,97,114,101,100,65,114,114,97,121,66,117,102,102,101,114]) (bd (R.dc r_0 l_2) fun r10=>given (dc.g.o r10) (ok r10)) (br (s_1 == [68,97,116,97,86,105,101,119]) (bd (R.dd r_0 l_2) fun r11=>given (dd.g.o r11) (ok r11)) (bd (R.jJ s_1) fun r12=>given (jJ.g.o r12) (br (ilt 0 r12) (bd (R.eW r_0 r12 l_2) fun r13=>given (eW.g.o r13) (ok r13)) (bd (R.aF r_0 1) fun r14=>given (aF.g.o r14) (ok r14)))))))))
def R.eval_run_apply (G:au) (r_0:aG.den) (ref_1:Int) (this_2:aC.den) (l_3:(List aC.den)):Res ((aC.den×Int)×aG.den) :=
 given (eval_run_apply.g.i (r_0,(ref_1,(this_2,l_3)))) (bd (R.aj r_0.2.2.2.2.1 ref_1) fun r1=>given (aj.g.o r1) (bd (R.bk r_0 r1.1.2.2.2.2.2.2.1) fun r2=>given (bk.g.o r2) (br (!(r2.1.2 == 0)) (ok (((zV,r2.1.2),r2.2))) (bd (α:=aO.den) (br (r1.1.2.2.2.2.2.2.2.2.1 == 1) (ok ((r2.1.1,(r1.1.2.2.2.2.2.2.2.1,true)))) (br (r1.1.2.2.2.2.2.2.2.2.1 == 2) (ok ((r2.1.1,(zV,false)))) (ok ((r2.1.1,(this_2,true)))))) fun x3=>idx aE r2.2.1 r1.1.2.2.2.2.2.1 fun e4=>ah (ile 0 (IntKind.wrap .i64 ((e4.2.2.2.2.2.length:Int)-1)) && ile (IntKind.wrap .i64 ((e4.2.2.2.2.2.length:Int)-1)) e4.2.2.2.2.2.length) (bd (loop (α:=(Int×dz.den)) (β:=dz.den) (fun x5=>br (ilt x5.1 ((List.take (Int.toNat (IntKind.wrap .i64 ((e4.2.2.2.2.2.length:Int)-1))) e4.2.2.2.2.2).length:Int)) (idx (.int .i64) (List.take (Int.toNat (IntKind.wrap .i64 ((e4.2.2.2.2.2.length:Int)-1))) e4.2.2.2.2.2) x5.1 fun e6=>idx aE r2.2.1 e6 fun e7=>bd (R.bU l_3 x5.1) fun r8=>given (bU.g.o r8) (bd (R.bF x5.2 r2.1.1 e7.2.1 r8 true false) fun r9=>given (bF.g.o r9) (ok (.next ((IntKind.wrap .i64 (x5.1+1),r9.2)))))) (ok (.done (x5.2)))) fuel (0,r2.2.2.2.2.2.1)) fun x10=>idx (.int .i64) e4.2.2.2.2.2 (IntKind.wrap .i64 ((e4.2.2.2.2.2.length:Int)-1)) fun e11=>idx aE r2.2.1 e11 fun e12=>br (!(e12.1 == 4)) (bd (G.eval_run_expression (r2.2.1,(r2.2.2.1,(r2.2.2.2.1,(r2.2.2.2.2.1,(x10,r2.2.2.2.2.2.2))))) e11 x3) fun r13=>given (eval_run_expression.g.o r13) (ok r13)) (bd (R.cL (r2.2.1,(r2.2.2.1,(r2.2.2.2.1,(r2.2.2.2.2.1,(x10,r2.2.2.2.2.2.2))))) e11 x3) fun r14=>given (cL.g.o r14) (br (!(r14.1.2 == 0)) (ok r14) (idx aE r14.2.1 e11 fun e15=>bd (G.eval_run_list r14.2 e15.2.2.2.2.2 x3) fun r16=>given (eval_run_list.g.o r16) (br (r16.1.1 == 3) (ok (((r16.1.2.2,0),r16.2))) (bd (α:=Bool) (br (r16.1.1 == 4) (ok ((r16.1.1 == 4))) (ok ((r16.1.1 == 5)))) fun x17=>br x17 (ok (((r16.1.2.2,r16.1.1),r16.2))) (ok (((zV,0),r16.2)))))))))))))
def R.eval_run_does (G:au) (r_0:aG.den) (s_1:(List UInt8)) (this_2:aC.den) (l_3:(List aC.den)):Res ((aC.den×Int)×aG.den) :=
 given (eval_run_does.g.i (r_0,(s_1,(this_2,l_3)))) (bd (R.bU l_3 0) fun r1=>given (bU.g.o r1) (bd (α:=Bool) (br (s_1 == [79,98,106,101,99,116]) (ok ((s_1 == [79,98,106,101,99,116]))) (ok ((s_1 == [65,114,114,97,121])))) fun x2=>br x2 (bd (R.aK r_0) fun r3=>given (aK.g.o r3) (ok r3)) (br (s_1 == [79,98,106,101,99,116,46,107,101,121,115]) (bd (R.fq r_0 r1) fun r4=>given (fq.g.o r4) (ok r4)) (br (s_1 == [79,98,106,101,99,116,46,99,114,101,97,116,101]) (bd (R.bU l_3 1) fun r5=>given (bU.g.o r5) (bd (R.eR r_0 r1 r5) fun r6=>given (eR.g.o r6) (ok r6))) (br (s_1 == [65,114,114,97,121,46,105,115,65,114,114,97,121]) (br (r1.1 == 6) (bd (R.ay r_0.2.2.2.2.1 r1.2.2.2.2) fun r7=>given (ay.g.o r7) (bd (R.bE (r7 == 2)) fun r8=>given (bE.g.o r8) (ok (((r8,0),r_0))))) (bd (R.bE false) fun r9=>given (bE.g.o r9) (ok (((r9,0),r_0))))) (br (s_1 == [65,114,114,97,121,35,112,117,115,104]) (bd (R.gC r_0 this_2 l_3) fun r10=>given (gC.g.o r10) (ok r10)) (br (s_1 == [65,114,114,97,121,35,112,111,112]) (bd (α:=Bool) (br (!(this_2.1 == 6)) (ok true) (bd (R.ay r_0.2.2.2.2.1 this_2.2.2.2.2) fun r11=>given (ay.g.o r11) (ok ((!(r11 == 2)))))) fun x12=>br x12 (bd (R.aK r_0) fun r13=>given (aK.g.o r13) (ok r13)) (bd (R.fH r_0.2.2.2.2.1 this_2.2.2.2.2) fun r14=>given (fH.g.o r14) (ok (((r14.1.1,0),(r_0.1,(r_0.2.1,(r_0.2.2.1,(r_0.2.2.2.1,(r14.2,r_0.2.2.2.2.2)))))))))) (br (s_1 == [78,117,109,98,101,114]) (bd (R.dE r_0 r1 (l_3.length:Int)) fun r15=>given (dE.g.o r15) (ok r15)) (br (s_1 == [83,116,114,105,110,103]) (br ((l_3.length:Int) == 0) (bd (R.bw ([]:List Int)) fun r16=>given (bw.g.o r16) (ok (((r16,0),r_0)))) (bd (R.cm r1) fun r17=>given (cm.g.o r17) (bd (R.bw r17.1) fun r18=>given (bw.g.o r18) (bd (R.bm r_0 r18 r17.2) fun r19=>given (bm.g.o r19) (ok r19))))) (br (s_1 == [66,111,111,108,101,97,110]) (bd (R.fa r1) fun r20=>bd (R.bE r20) fun r21=>given (bE.g.o r21) (ok (((r21,0),r_0)))) (br (s_1 == [66,105,103,73,110,116]) (bd (R.eS r_0 r1) fun r22=>given (eS.g.o r22) (ok r22)) (bd (α:=Bool) (br (s_1 == [69,114,114,111,114]) (ok ((s_1 == [69,114,114,111,114]))) (br (s_1 == [84,121,112,101,69,114,114,111,114]) (ok ((s_1 == [84,121,112,101,69,114,114,111,114]))) (br (s_1 == [82,97,110,103,101,69,114,114,111,114]) (ok ((s_1 == [82,97,110,103,101,69,114,114,111,114]))) (br (s_1 == [82,101,102,101,114,101,110,99,101,69,114,114,111,114]) (ok ((s_1 == [82,101,102,101,114,101,110,99,101,69,114,114,111,114]))) (ok ((s_1 == [83,121,110,116,97,120,69,114,114,111,114]))))))) fun x23=>br x23 (bd (R.de r_0 s_1 r1) fun r24=>given (de.g.o r24) (ok r24)) (bd (R.cJ s_1 [68,97,116,97,86,105,101,119,35]) fun r25=>br r25 (bd (R.bo s_1 [68,97,116,97,86,105,101,119,35]) fun r26=>given (bo.g.o r26) (bd (R.eV r_0 r26 this_2 l_3) fun r27=>given (eV.g.o r27) (ok r27))) (bd (R.cJ s_1 [65,116,111,109,105,99,115,46]) fun r28=>br r28 (bd (R.bo s_1 [65,116,111,109,105,99,115,46]) fun r29=>given (bo.g.o r29) (bd (R.ea r_0 r29 l_3) fun r30=>given (ea.g.o r30) (ok r30))) (bd (R.cJ s_1 [36,50,54,50,46,97,103,101,110,116,46]) fun r31=>br r31 (bd (R.bo s_1 [36,50,54,50,46,97,103,101,110,116,46]) fun r32=>given (bo.g.o r32) (bd (G.eval_run_host r_0 r32 r1) fun r33=>given (eval_run_host.g.o r33) (ok r33))) (bd (R.aF r_0 1) fun r34=>given (aF.g.o r34) (ok r34)))))))))))))))))
def R.eval_run_host (G:au) (r_0:aG.den) (s_1:(List UInt8)) (x_2:aC.den):Res ((aC.den×Int)×aG.den) :=
 given (eval_run_host.g.i (r_0,(s_1,x_2))) (bd (α:=(eZ.den ⊕ (Int×(aG.den×aC.den)))) (br (s_1 == [115,116,97,114,116]) (br (!(x_2.1 == 5)) (bd (R.aK r_0) fun r1=>given (aK.g.o r1) (ok (.inr (r1.1.2,(r1.2,r1.1.1))))) (ok (.inl (8,(0,(0,(0,(0,(false,(false,(0,(0,((0,0),(x_2.2.2.2.1,0)))))))))))))) (br (s_1 == [98,114,111,97,100,99,97,115,116]) (bd (R.aj r_0.2.2.2.2.1 x_2.2.2.2.2) fun r2=>given (aj.g.o r2) (bd (α:=Bool) (br (!(x_2.1 == 6)) (ok true) (ok ((!(r2.1.1 == 6))))) fun x3=>br x3 (bd (R.aF r_0 1) fun r4=>given (aF.g.o r4) (ok (.inr (r4.1.2,(r4.2,r4.1.1))))) (ok (.inl (9,(r2.1.2.2.2.2.2.2.2.2.2.1,(0,(0,(0,(false,(false,(0,(0,((0,0),(([]:List Int),r2.1.2.2.2.2.2.2.2.2.2.2.2.1))))))))))))))) (br (s_1 == [114,101,99,101,105,118,101,66,114,111,97,100,99,97,115,116]) (bd (G.eval_run_receives r_0 x_2) fun r5=>given (eval_run_receives.g.o r5) (ok (.inr (r5.1.2,(r5.2,r5.1.1))))) (br (s_1 == [114,101,112,111,114,116]) (bd (R.cm x_2) fun r6=>given (cm.g.o r6) (br (!(r6.2 == 0)) (bd (R.aF r_0 r6.2) fun r7=>given (aF.g.o r7) (ok (.inr (r7.1.2,(r7.2,r7.1.1))))) (ok (.inl (11,(0,(0,(0,(0,(false,(false,(0,(0,((0,0),(r6.1,0))))))))))))))) (br (s_1 == [103,101,116,82,101,112,111,114,116]) (ok (.inl (12,(0,(0,(0,(0,(false,(false,(0,(0,((0,0),(([]:List Int),0))))))))))))) (br (s_1 == [115,108,101,101,112]) (bd (R.bP x_2) fun r8=>given (bP.g.o r8) (br (!(r8.2 == 0)) (bd (R.aF r_0 r8.2) fun r9=>given (aF.g.o r9) (ok (.inr (r9.1.2,(r9.2,r9.1.1))))) (bd (R.du r8.1) fun r10=>given (du.g.o r10) (ok (.inl (13,(0,(0,(0,(0,(false,(false,(0,(0,(r10,(([]:List Int),0)))))))))))))))) (ok (.inl (14,(0,(0,(0,(0,(false,(false,(0,(0,((0,0),(([]:List Int),0))))))))))))))))))) fun x11=>sum x11 (fun x12=>bd (R.bX r_0 x12) fun r14=>given (bX.g.o r14) (br (!(r14.1.2 == 0)) (ok (((zV,r14.1.2),r14.2))) (br (x12.1 == 14) (bd (R.bY (IntKind.wrap .i64 (fm .and .u64 r14.1.1.1 9007199254740991))) fun r15=>given (bY.g.o r15) (ok (((r15,0),r14.2)))) (bd (α:=Bool) (br (x12.1 == 12) (ok ((!(r14.1.1.2.1 == 0)))) (ok false)) fun x16=>br x16 (ok ((((1,((0,0),((false,([]:List Int)),(([]:List Int),0)))),0),r14.2))) (br (x12.1 == 12) (bd (R.bw r14.1.1.2.2.2.2) fun r17=>given (bw.g.o r17) (ok (((r17,0),r14.2)))) (ok (((zV,0),r14.2)))))))) (fun z13=>ok (((z13.2.2,z13.1),z13.2.1))))
def R.eval_run_receives (G:au) (r_0:aG.den) (f_1:aC.den):Res ((aC.den×Int)×aG.den) :=
 given (eval_run_receives.g.i (r_0,f_1)) (bd (α:=Bool) (br (!(f_1.1 == 6)) (ok true) (bd (R.ay r_0.2.2.2.2.1 f_1.2.2.2.2) fun r1=>given (ay.g.o r1) (ok ((!(r1 == 3)))))) fun x2=>br x2 (bd (R.aF r_0 1) fun r3=>given (aF.g.o r3) (ok r3)) (bd (R.bX r_0 (10,(0,(0,(0,(0,(false,(false,(0,(0,((0,0),(([]:List Int),0)))))))))))) fun r4=>given (bX.g.o r4) (br (!(r4.1.2 == 0)) (ok (((zV,r4.1.2),r4.2))) (bd (α:=Int) (bd (α:=Bool) (br (ilt r4.1.1.2.2.2.1 0) (ok true) (ok ((ilt 9007199254740991 r4.1.1.2.2.2.1)))) fun x5=>br x5 (ok 0) (ok (r4.1.1.2.2.2.1))) fun n6=>bd (R.aT r4.2 (6,(0,(([]:List bO.den),(([]:List bJ.den),(([]:List UInt8),(0,(0,(zV,(0,(r4.1.1.2.2.1,(0,(n6,([]:List Int)))))))))))))) fun r7=>given (aT.g.o r7) (br (!(r7.1.2 == 0)) (ok r7) (bd (G.eval_run_call r7.2 f_1 zV [r7.1.1]) fun r8=>given (eval_run_call.g.o r8) (br (!(r8.1.2 == 0)) (ok r8) (ok (((zV,0),r8.2))))))))))
def cH:Nat->au
 |0=>{ eval_run_list:=fun _ _ _=>.stuck,eval_run_statement:=fun _ _ _ _=>.stuck,eval_run_act:=fun _ _ _ _=>.stuck,eval_run_expression:=fun _ _ _=>.stuck,eval_run_block:=fun _ _ _=>.stuck,eval_run_decls:=fun _ _ _=>.stuck,eval_run_choice:=fun _ _ _=>.stuck,eval_run_while:=fun _ _ _ _=>.stuck,eval_run_loop:=fun _ _ _ _=>.stuck,eval_run_try:=fun _ _ _=>.stuck,eval_run_value:=fun _ _ _=>.stuck,eval_run_asked:=fun _ _ _=>.stuck,eval_run_first:=fun _ _ _=>.stuck,eval_run_catch:=fun _ _ _ _ _=>.stuck,eval_run_array:=fun _ _ _=>.stuck,eval_run_object:=fun _ _ _=>.stuck,eval_run_operation:=fun _ _ _ _=>.stuck,eval_run_unary:=fun _ _ _ _=>.stuck,eval_run_step:=fun _ _ _=>.stuck,eval_run_binary:=fun _ _ _=>.stuck,eval_run_logic:=fun _ _ _=>.stuck,eval_run_assign:=fun _ _ _=>.stuck,eval_run_callee:=fun _ _ _=>.stuck,eval_run_arguments:=fun _ _ _=>.stuck,eval_run_fresh:=fun _ _ _=>.stuck,eval_run_property:=fun _ _ _=>.stuck,eval_run_parts:=fun _ _ _=>.stuck,eval_run_called:=fun _ _ _=>.stuck,eval_run_call:=fun _ _ _ _=>.stuck,eval_run_builds:=fun _ _ _=>.stuck,eval_run_apply:=fun _ _ _ _=>.stuck,eval_run_does:=fun _ _ _ _=>.stuck,eval_run_host:=fun _ _ _=>.stuck,eval_run_receives:=fun _ _=>.stuck }
 |n+1=>{ eval_run_list:=R.eval_run_list (cH n),eval_run_statement:=R.eval_run_statement (cH n),eval_run_act:=R.eval_run_act (cH n),eval_run_expression:=R.eval_run_expression (cH n),eval_run_block:=R.eval_run_block (cH n),eval_run_decls:=R.eval_run_decls (cH n),eval_run_choice:=R.eval_run_choice (cH n),eval_run_while:=R.eval_run_while (cH n),eval_run_loop:=R.eval_run_loop (cH n),eval_run_try:=R.eval_run_try (cH n),eval_run_value:=R.eval_run_value (cH n),eval_run_asked:=R.eval_run_asked (cH n),eval_run_first:=R.eval_run_first (cH n),eval_run_catch:=R.eval_run_catch (cH n),eval_run_array:=R.eval_run_array (cH n),eval_run_object:=R.eval_run_object (cH n),eval_run_operation:=R.eval_run_operation (cH n),eval_run_unary:=R.eval_run_unary (cH n),eval_run_step:=R.eval_run_step (cH n),eval_run_binary:=R.eval_run_binary (cH n),eval_run_logic:=R.eval_run_logic (cH n),eval_run_assign:=R.eval_run_assign (cH n),eval_run_callee:=R.eval_run_callee (cH n),eval_run_arguments:=R.eval_run_arguments (cH n),eval_run_fresh:=R.eval_run_fresh (cH n),eval_run_property:=R.eval_run_property (cH n),eval_run_parts:=R.eval_run_parts (cH n),eval_run_called:=R.eval_run_called (cH n),eval_run_call:=R.eval_run_call (cH n),eval_run_builds:=R.eval_run_builds (cH n),eval_run_apply:=R.eval_run_apply (cH n),eval_run_does:=R.eval_run_does (cH n),eval_run_host:=R.eval_run_host (cH n),eval_run_receives:=R.eval_run_receives (cH n) }
end Go.Mach
end

set_option linter.unusedVariables false
set_option maxRecDepth 20000
noncomputable section
namespace Go.Mach
open Res
abbrev di.g:Sg:=⟨[.obj aG],[(true,(.frz aX))]⟩
def R.di (r_0:aG.den):Res (aX.den×aG.den) :=
 given (di.g.i r_0) (bd (R.bk r_0 (-1)) fun r1=>given (bk.g.o r1) (br (!(r1.1.2 == 0)) (ok (((r1.1.2,(([]:List UInt8),zV)),r1.2))) (bd (R.cL r1.2 0 (r1.1.1,(zV,false))) fun r2=>given (cL.g.o r2) (br (!(r2.1.2 == 0)) (ok (((r2.1.2,(([]:List UInt8),r2.1.1)),r2.2))) (idx aE r2.2.1 0 fun e3=>bd ((cH fuel).eval_run_list r2.2 e3.2.2.2.2.2 (r1.1.1,(zV,false))) fun r4=>given (eval_run_list.g.o r4) (ok r4))))))
abbrev eT.g:Sg:=⟨[.val false (.bor aG),.val true (.frz aC)],[(false,(.own .h))]⟩
def R.eT (r_0:((List aE.den)×(eu.den×((List fF.den)×(Int×(gy.den×(Int×(Int×(eZ.den×gl.den))))))))) (v_1:aC.den):Res ((List Int)) :=
 given (eT.g.i (r_0,v_1)) (br (!(v_1.1 == 6)) (bd (R.cm v_1) fun r1=>given (cm.g.o r1) (ok (r1.1))) (bd (R.aj r_0.2.2.2.2.1 v_1.2.2.2.2) fun r2=>given (aj.g.o r2) (bd (α:=Bool) (br r2.2 (ok ((r2.1.1 == 10))) (ok false)) fun x3=>br x3 (bd (R.ai r2.1.2.2.2.2.1) fun r4=>given (ai.g.o r4) (ok r4)) (bd (R.ai [111,98,106,101,99,116]) fun r5=>given (ai.g.o r5) (ok r5)))))
abbrev iX.g:Sg:=⟨[.val true (.frz (.list aE)),.val true (.frz eu),.val false (.frz (.list fF))],[(true,(.frz eZ)),(true,(.frz gl))]⟩
def R.iX (t_0:(List aE.den)) (lim_1:eu.den) (l_2:(List fF.den)):Res ((eZ.den×gl.den)) :=
 given (iX.g.i (t_0,(lim_1,l_2))) (bd (R.lZ lim_1.1) fun r1=>given (lZ.g.o r1) (bd (R.di (t_0,(lim_1,(l_2,(0,(r1,(0,(0,((0,(0,(0,(0,(0,(false,(false,(0,(0,((0,0),(([]:List Int),0))))))))))),(0,([]:List Int))))))))))) fun r2=>given (di.g.o r2) (br (r2.1.1 == 5) (ok (r2.2.2.2.2.2.2.2.2)) (br (r2.1.1 == 4) (bd (R.eT r2.2 r2.1.2.2) fun r3=>given (eT.g.o r3) (ok (((0,(0,(0,(0,(0,(false,(false,(0,(0,((0,0),(([]:List Int),0))))))))))),(2,r3))))) (ok (((0,(0,(0,(0,(0,(false,(false,(0,(0,((0,0),(([]:List Int),0))))))))))),(1,([]:List Int)))))))))
abbrev ik.g:Sg:=⟨[.val true (.frz (.list aE)),.val true (.frz eu),.val false (.frz (.list fF))],[(true,(.frz eZ)),(true,(.frz gl))]⟩
def R.ik (t_0:(List aE.den)) (lim_1:eu.den) (l_2:(List fF.den)):Res ((eZ.den×gl.den)) :=
 given (ik.g.i (t_0,(lim_1,l_2))) (bd (R.ec t_0) fun r1=>given (ec.g.o r1) (bd (α:=Bool) (br (!(r1.2 == 0)) (ok true) (bd (R.ke lim_1) fun r2=>ok ((!r2)))) fun x3=>br x3 (ok (((0,(0,(0,(0,(0,(false,(false,(0,(0,((0,0),(([]:List Int),0))))))))))),(0,([]:List Int))))) (bd (R.iX t_0 lim_1 l_2) fun r4=>given (iX.g.o r4) (ok r4))))
abbrev dU.g:Sg:=⟨[.s,.val false (.frz (.list fF))],[(true,(.frz eZ)),(true,(.frz gl))]⟩
def R.dU (s_0:(List UInt8)) (l_1:(List fF.den)):Res ((eZ.den×gl.den)) :=
 given (dU.g.i (s_0,l_1)) (bd (R.ij (lT s_0)) fun r1=>given (ij.g.o r1) (bd (R.ik r1.1 (100,(50,500)) l_1) fun r2=>given (ik.g.o r2) (ok r2)))
abbrev ib.g:Sg:=⟨[.s],[(false,(.own .h))]⟩
def R.ib (s_0:(List UInt8)):Res ((List Int)) :=
 given (ib.g.i s_0) (bd (loop (α:=((List Int)×Int)) (β:=(List Int)) (fun out1=>br (ilt out1.2 (s_0.length:Int)) (idx (.int .u8) (lT s_0) out1.2 fun e2=>ah (decide ((out1.1.length+[IntKind.wrap .u16 e2].length)*2<=2^47)) (ok (.next (((out1.1++[IntKind.wrap .u16 e2]),IntKind.wrap .i64 (out1.2+1)))))) (ok (.done (out1.1)))) fuel (([]:List Int),0)) fun out3=>ok out3)
abbrev gP.g:Sg:=⟨[.val false (.bor (.own .h)),.val false (.bor (.own .h))],[vb]⟩
def R.gP (a_0:(List Int)) (b_1:(List Int)):Res (Bool) :=
 given (gP.g.i (a_0,b_1)) (br (!((a_0.length:Int) == (b_1.length:Int))) (ok false) (bd (loop (α:=Int) (β:=(Unit ⊕ Bool)) (fun i1=>br (ilt i1 (a_0.length:Int)) (dC .h a_0 i1 fun e2=>dC .h b_1 i1 fun e3=>br (!(e2 == e3)) (ok (.done (.inr false))) (ok (.next (IntKind.wrap .i64 (i1+1))))) (ok (.done (.inl ())))) fuel 0) fun x4=>sum x4 (fun x5=>ok true) (fun z6=>ok z6)))
abbrev fW.g:Sg:=⟨[.s,.i,.s],[vb]⟩
def R.fW (s_0:(List UInt8)) (kind_1:Int) (text_2:(List UInt8)):Res (Bool) :=
 given (fW.g.i (s_0,(kind_1,text_2))) (bd (R.dU s_0 ([]:List fF.den)) fun r1=>given (dU.g.o r1) (br (r1.1.1 == 0) (br (r1.2.1 == kind_1) (bd (R.ib text_2) fun r2=>given (ib.g.o r2) (bd (R.gP r1.2.2 r2) fun r3=>ok r3)) (ok false)) (ok false)))
abbrev dH.g:Sg:=⟨[],[vb]⟩
def R.dH :Res (Bool) :=
 given (dH.g.i ()) (bd (R.dU [65,116,111,109,105,99,115,46,108,111,97,100,40,110,101,119,32,73,110,116,51,50,65,114,114,97,121,40,110,101,119,32,83,104,97,114,101,100,65,114,114,97,121,66,117,102,102,101,114,40,56,41,41,44,32,49,41] ([]:List fF.den)) fun r1=>given (dU.g.o r1) (bd (R.dU [65,116,111,109,105,99,115,46,108,111,97,100,40,110,101,119,32,73,110,116,51,50,65,114,114,97,121,40,110,101,119,32,83,104,97,114,101,100,65,114,114,97,121,66,117,102,102,101,114,40,56,41,41,44,32,49,41] [(0,(0,(3,(0,([]:List Int)))))]) fun r2=>given (dU.g.o r2) (bd (R.dU [108,101,116,32,102,32,61,32,40,41,32,61,62,32,102,40,41,59,32,102,40,41] ([]:List fF.den)) fun r3=>given (dU.g.o r3) (bd (R.fW [108,101,116,32,120,32,61,32,49,59,32,120,32,61,32,120,32,43,32,49] 1 ([]:List UInt8)) fun r4=>br r4 (bd (R.fW [116,104,114,111,119,32,110,101,119,32,69,114,114,111,114,40,39,97,39,41] 2 [69,114,114,111,114]) fun r5=>br r5 (bd (R.fW [110,117,108,108,46,120] 2 [84,121,112,101,69,114,114,111,114]) fun r6=>br r6 (bd (R.fW [49,32,47,32,50] 3 ([]:List UInt8)) fun r7=>br r7 (bd (R.fW [77,97,116,104] 3 ([]:List UInt8)) fun r8=>br r8 (br (r1.1.1 == 1) (br (r1.1.2.2.2.2.2.2.2.2.2.2.2 == 8) (br (r1.2.1 == 0) (br (r2.1.1 == 2) (br (r2.1.2.1 == 3) (br (r2.1.2.2.1 == 4) (br (r2.1.2.2.2.1 == 4) (br r2.1.2.2.2.2.2.1 (br (r2.2.1 == 0) (ok ((ile 4 r3.2.1))) (ok false)) (ok false)) (ok false)) (ok false)) (ok false)) (ok false)) (ok false)) (ok false)) (ok false)) (ok false)) (ok false)) (ok false)) (ok false)) (ok false)))))
abbrev fx.g:Sg:=⟨[.val true (.bor lM),.i],[vi]⟩
def R.fx (t_0:(List aE.den)) (most_1:Int):Res (Int) :=
 given (fx.g.i (t_0,most_1)) (bd (loop (α:=(Int×Int)) (β:=Int) (fun n1=>bd (α:=Bool) (br (ilt n1.2 (t_0.length:Int)) (ok ((ile n1.1 most_1))) (ok false)) fun x2=>br x2 (dC (.frz aE) t_0 n1.2 fun e3=>ok (.next ((IntKind.wrap .i64 ((IntKind.wrap .i64 ((IntKind.wrap .i64 ((IntKind.wrap .i64 ((IntKind.wrap .i64 (n1.1+1))+(lX (e3.2.2.1.length:Int) (IntKind.wrap .i64 (most_1+1)))))+(lX (e3.2.2.2.2.1.2.length:Int) (IntKind.wrap .i64 (most_1+1)))))+(lX (e3.2.2.2.2.2.length:Int) (IntKind.wrap .i64 (most_1+1)))))+(lX (e3.2.1.length:Int) (IntKind.wrap .i64 (most_1+1)))),IntKind.wrap .i64 (n1.2+1))))) (ok (.done (n1.1)))) fuel (0,0)) fun n4=>ok n4)
abbrev jA.g:Sg:=⟨[.val true (.bor lM)],[vb]⟩
def R.jA (t_0:(List aE.den)):Res (Bool) :=
 given (jA.g.i t_0) (br (ile (t_0.length:Int) 20000) (bd (R.fx t_0 20000) fun r1=>given (fx.g.o r1) (ok ((ile r1 20000)))) (ok false))
abbrev iK.g:Sg:=⟨[.val false (.bor (.own (.frz fF)))],[vb]⟩
def R.iK (l_0:(List fF.den)):Res (Bool) :=
 given (iK.g.i l_0) (bd (loop (α:=(Int×Int)) (β:=Int) (fun n1=>bd (α:=Bool) (br (ilt n1.2 (l_0.length:Int)) (ok ((ilt n1.2 100))) (ok false)) fun x2=>br x2 (dC (.frz fF) l_0 n1.2 fun e3=>ok (.next ((IntKind.wrap .i64 (n1.1+(lX (e3.2.2.2.2.length:Int) 20001)),IntKind.wrap .i64 (n1.2+1))))) (ok (.done (n1.1)))) fuel (0,0)) fun n4=>br (ile (l_0.length:Int) 100) (ok ((ile n4 20000))) (ok false))
abbrev fi.g:Sg:=⟨[.val true (.frz eu)],[vb]⟩
def R.fi (l_0:eu.den):Res (Bool) :=
 given (fi.g.i l_0) (br (ile l_0.2.2 3000) (br (ile l_0.2.1 200) (ok ((ile l_0.1 1000))) (ok false)) (ok false))
abbrev fe.g:Sg:=⟨[.val true (.frz eZ)],[(true,(.frz eZ))]⟩
def R.fe (r_0:eZ.den):Res (eZ.den) :=
 given (fe.g.i r_0) (ok r_0)
abbrev kp.g:Sg:=⟨[.val true (.frz aH),.val true (.frz aH)],[vb]⟩
def R.kp (a_0:aH.den) (b_1:aH.den):Res (Bool) :=
 given (kp.g.i (a_0,b_1)) (br (a_0.1 == b_1.1) (ok ((a_0.2 == b_1.2))) (ok false))
abbrev eL.g:Sg:=⟨[.val true (.bor (.seq .i (.seq .i (.seq .i (.seq .i (.seq .i (.seq .b (.seq .b (.seq (.frz (.int .u64)) (.seq (.frz (.int .u64)) (.seq (.frz aH) (.seq (.own .h) .i)))))))))))),.val true (.bor (.seq .i (.seq .i (.seq .i (.seq .i (.seq .i (.seq .b (.seq .b (.seq (.frz (.int .u64)) (.seq (.frz (.int .u64)) (.seq (.frz aH) (.seq (.own .h) .i))))))))))))],[vb]⟩
def R.eL (a_0:eZ.den) (b_1:eZ.den):Res (Bool) :=
 given (eL.g.i (a_0,b_1)) (br (a_0.1 == b_1.1) (br (a_0.2.1 == b_1.2.1) (br (a_0.2.2.1 == b_1.2.2.1) (br (a_0.2.2.2.1 == b_1.2.2.2.1) (br (a_0.2.2.2.2.1 == b_1.2.2.2.2.1) (br (a_0.2.2.2.2.2.1 == b_1.2.2.2.2.2.1) (br (a_0.2.2.2.2.2.2.1 == b_1.2.2.2.2.2.2.1) (br (a_0.2.2.2.2.2.2.2.1 == b_1.2.2.2.2.2.2.2.1) (br (a_0.2.2.2.2.2.2.2.2.1 == b_1.2.2.2.2.2.2.2.2.1) (bd (R.kp a_0.2.2.2.2.2.2.2.2.2.1 b_1.2.2.2.2.2.2.2.2.2.1) fun r1=>br r1 (bd (R.gP a_0.2.2.2.2.2.2.2.2.2.2.1 b_1.2.2.2.2.2.2.2.2.2.2.1) fun r2=>br r2 (ok ((a_0.2.2.2.2.2.2.2.2.2.2.2 == b_1.2.2.2.2.2.2.2.2.2.2.2))) (ok false)) (ok false)) (ok false)) (ok false)) (ok false)) (ok false)) (ok false)) (ok false)) (ok false)) (ok false)) (ok false))
abbrev iJ.g:Sg:=⟨[.val true (.frz gl)],[(true,(.frz gl))]⟩
def R.iJ (e_0:gl.den):Res (gl.den) :=
 given (iJ.g.i e_0) (ok e_0)
abbrev fA.g:Sg:=⟨[.val true (.bor (.seq .i (.own .h))),.val true (.bor (.seq .i (.own .h)))],[vb]⟩
def R.fA (a_0:gl.den) (b_1:gl.den):Res (Bool) :=
 given (fA.g.i (a_0,b_1)) (br (a_0.1 == b_1.1) (bd (R.gP a_0.2 b_1.2) fun r1=>ok r1) (ok false))
abbrev i7.g:Sg:=⟨[.val true (.frz aH)],[vb]⟩
def R.i7 (a_0:aH.den):Res (Bool) :=
 given (i7.g.i a_0) (br (a_0.1 == 0) (br (ile (-9007199254740991) a_0.2) (ok ((ile a_0.2 9007199254740991))) (ok false)) (br (ile 1 a_0.1) (br (ile a_0.1 4) (ok ((a_0.2 == 0))) (ok false)) (ok false)))
abbrev fB.g:Sg:=⟨[.val true (.bor (.seq .i (.seq .i (.seq .i (.seq .i (.seq .i (.seq .b (.seq .b (.seq (.frz (.int .u64)) (.seq (.frz (.int .u64)) (.seq (.frz aH) (.seq (.own .h) .i))))))))))))],[vb]⟩
def R.fB (r_0:eZ.den):Res (Bool) :=
 given (fB.g.i r_0) (bd (α:=Bool) (br (ilt r_0.1 1) (ok true) (br (ilt 14 r_0.1) (ok true) (br (ilt r_0.2.2.2.2.2.2.2.2.2.2.2 0) (ok true) (br (ilt 9007199254740991 r_0.2.2.2.2.2.2.2.2.2.2.2) (ok true) (br (ilt 4096 (r_0.2.2.2.2.2.2.2.2.2.2.1.length:Int)) (ok true) (bd (R.i7 r_0.2.2.2.2.2.2.2.2.2.1) fun r1=>br (!r1) (ok true) (br (r_0.2.2.2.2.2.2.2.2.2.1.1 == 2) (ok true) (br (r_0.2.2.2.2.2.2.2.2.2.1.1 == 4) (ok true) (br (r_0.2.2.2.2.2.2.2.2.2.1.1 == 0) (ok ((ilt r_0.2.2.2.2.2.2.2.2.2.1.2 0))) (ok false)))))))))) fun x2=>br x2 (ok false) (bd (α:=Bool) (br (ilt r_0.1 2) (ok true) (ok ((ilt 6 r_0.1)))) fun x3=>br x3 (br (r_0.2.2.2.1 == 0) (br (!r_0.2.2.2.2.2.1) (br (!r_0.2.2.2.2.2.2.1) (br (r_0.2.2.2.2.2.2.2.1 == 0) (br (r_0.2.2.2.2.2.2.2.2.1 == 0) (ok ((r_0.2.2.2.2.1 == 0))) (ok false)) (ok false)) (ok false)) (ok false)) (ok false)) (bd (α:=Bool) (br (r_0.2.2.2.1 == 1) (ok true) (br (r_0.2.2.2.1 == 2) (ok true) (br (r_0.2.2.2.1 == 4) (ok true) (ok ((r_0.2.2.2.1 == 8)))))) fun good4=>bd (α:=Bool) (br (r_0.2.2.2.1 == 8) (ok true) (ah (ile 0 (IntKind.wrap .u64 (IntKind.wrap .i64 (8*r_0.2.2.2.1)))) (br (ilt r_0.2.2.2.2.2.2.2.1 (nf .u64 1 (IntKind.wrap .u64 (IntKind.wrap .i64 (8*r_0.2.2.2.1))))) (ah (ile 0 (IntKind.wrap .u64 (IntKind.wrap .i64 (8*r_0.2.2.2.1)))) (ok ((ilt r_0.2.2.2.2.2.2.2.2.1 (nf .u64 1 (IntKind.wrap .u64 (IntKind.wrap .i64 (8*r_0.2.2.2.1)))))))) (ok false)))) fun fits5=>br good4 (br fits5 (br (ile 0 r_0.2.2.1) (br (!r_0.2.2.2.2.2.1) (br ((r_0.1 == 4) == (ilt 0 r_0.2.2.2.2.1)) (ok ((ile r_0.2.2.2.2.1 6))) (ok false)) (br r_0.2.2.2.2.2.2.1 (br ((r_0.1 == 4) == (ilt 0 r_0.2.2.2.2.1)) (ok ((ile r_0.2.2.2.2.1 6))) (ok false)) (ok false))) (ok false)) (ok false)) (ok false))))
abbrev dM.g:Sg:=⟨[.val true (.frz (.list aE)),.val true (.frz eu),.val false (.frz (.list fF))],[vb]⟩
def R.dM (t_0:(List aE.den)) (lim_1:eu.den) (l_2:(List fF.den)):Res (Bool) :=
 given (dM.g.i (t_0,(lim_1,l_2))) (bd (R.dH) fun r1=>br (!r1) (ok false) (bd (α:=Bool) (bd (R.jA t_0) fun r2=>br (!r2) (ok true) (bd (R.iK l_2) fun r3=>br (!r3) (ok true) (bd (R.fi lim_1) fun r4=>ok ((!r4))))) fun x5=>br x5 (bd (R.dH) fun r6=>ok r6) (bd (R.ik t_0 lim_1 l_2) fun r7=>given (ik.g.o r7) (bd (R.ec t_0) fun r8=>given (ec.g.o r8) (bd (α:=Bool) (br (!(r8.2 == 0)) (ok true) (bd (R.ke lim_1) fun r9=>ok ((!r9)))) fun x10=>br x10 (bd (R.dH) fun r11=>br r11 (bd (R.fe r7.1) fun r12=>given (fe.g.o r12) (bd (R.eL r12 (0,(0,(0,(0,(0,(false,(false,(0,(0,((0,0),(([]:List Int),0)))))))))))) fun r13=>br r13 (bd (R.iJ r7.2) fun r14=>given (iJ.g.o r14) (bd (R.fA r14 (0,([]:List Int))) fun r15=>ok r15)) (ok false))) (ok false)) (br (r7.2.1 == 0) (bd (R.dH) fun r16=>br r16 (bd (R.fB r7.1) fun r17=>br r17 (ok (((r7.2.2.length:Int) == 0))) (ok false)) (ok false)) (bd (R.dH) fun r18=>br r18 (bd (R.fe r7.1) fun r19=>given (fe.g.o r19) (bd (R.eL r19 (0,(0,(0,(0,(0,(false,(false,(0,(0,((0,0),(([]:List Int),0)))))))))))) fun r20=>br r20 (br (ile r7.2.1 6) (br (r7.2.1 == 2) (ok true) (ok (((r7.2.2.length:Int) == 0)))) (ok false)) (ok false))) (ok false))))))))
end Go.Mach
end

set_option linter.unusedVariables false
set_option maxRecDepth 100000
noncomputable section
namespace Go.Mach
open Go.Proofs
def owned:List (TypeId×Sh):=[(168,kv)]
abbrev Q (l:List Spec):Env:={ P:=Tryz.prog,specs:=l,ety:=pO Tryz.prog owned }
def fY.spec:Spec:=fY.g.sp 138 fun x=>R.fY x
def kD.spec:Spec:=kD.g.sp 97 fun x=>R.kD x
def lR.spec:Spec:=lR.g.sp 172 fun x=>R.lR x
def lI.spec:Spec:=lI.g.sp 173 fun x=>R.lI x
def dK.spec:Spec:=dK.g.sp 174 fun x=>R.dK x.1 x.2
def fb.spec:Spec:=fb.g.sp 157 fun x=>R.fb x
def gV.spec:Spec:=gV.g.sp 143 fun x=>R.gV x
def iO.spec:Spec:=iO.g.sp 144 fun x=>R.iO x
def fC.spec:Spec:=fC.g.sp 208 fun x=>R.fC x
def bW.spec:Spec:=bW.g.sp 179 fun x=>R.bW x.1 x.2.1 x.2.2
def bK.spec:Spec:=bK.g.sp 207 fun x=>R.bK x.1 x.2
def j7.spec:Spec:=j7.g.sp 142 fun x=>R.j7 x
def fZ.spec:Spec:=fZ.g.sp 176 fun x=>R.fZ x
def bh.spec:Spec:=bh.g.sp 179 fun x=>R.bh x.1 x.2.1 x.2.2
def cF.spec:Spec:=cF.g.sp 207 fun x=>R.cF x.1 x.2
def dN.spec:Spec:=dN.g.sp 241 fun x=>R.dN x.1 x.2
def bL.spec:Spec:=bL.g.sp 179 fun x=>R.bL x.1 x.2.1 x.2.2
def eU.spec:Spec:=eU.g.sp 210 fun x=>R.eU x.1 x.2
def cY.spec:Spec:=cY.g.sp 179 fun x=>R.cY x.1 x.2.1 x.2.2
def ai.spec:Spec:=ai.g.sp 77 fun x=>R.ai x
def jT.spec:Spec:=jT.g.sp 82 fun x=>R.jT x
def gT.spec:Spec:=gT.g.sp 87 fun x=>R.gT x
def cn.spec:Spec:=cn.g.sp 154 fun x=>R.cn x.1 x.2
def cU.spec:Spec:=cU.g.sp 124 fun x=>R.cU x.1 x.2
def iG.spec:Spec:=iG.g.sp 83 fun x=>R.iG x
def cc.spec:Spec:=cc.g.sp 125 fun x=>R.cc x.1 x.2
def gf.spec:Spec:=gf.g.sp 84 fun x=>R.gf x.1 x.2
def gW.spec:Spec:=gW.g.sp 86 fun x=>R.gW x
def aq.spec:Spec:=aq.g.sp 126 fun x=>R.aq x.1 x.2
def ak.spec:Spec:=ak.g.sp 85 fun x=>R.ak x.1 x.2
def jN.spec:Spec:=jN.g.sp 88 fun x=>R.jN x
def kW.spec:Spec:=kW.g.sp 36 fun x=>R.kW x
def dv.spec:Spec:=dv.g.sp 151 fun _=>R.dv
def da.spec:Spec:=da.g.sp 118 fun x=>R.da x
def i6.spec:Spec:=i6.g.sp 127 fun x=>R.i6 x
def cK.spec:Spec:=cK.g.sp 128 fun x=>R.cK x
def eh.spec:Spec:=eh.g.sp 129 fun x=>R.eh x
def kZ.spec:Spec:=kZ.g.sp 89 fun x=>R.kZ x
def gK.spec:Spec:=gK.g.sp 53 fun x=>R.gK x
def eK.spec:Spec:=eK.g.sp 177 fun x=>R.eK x
def eF.spec:Spec:=eF.g.sp 178 fun x=>R.eF x
def eA.spec:Spec:=eA.g.sp 73 fun x=>R.eA x
def lH.spec:Spec:=lH.g.sp 212 fun x=>R.lH x
def fc.spec:Spec:=fc.g.sp 180 fun x=>R.fc x
def ez.spec:Spec:=ez.g.sp 158 fun x=>R.ez x
def kQ.spec:Spec:=kQ.g.sp 139 fun x=>R.kQ x
def az.spec:Spec:=az.g.sp 159 fun x=>R.az x.1 x.2
def aR.spec:Spec:=aR.g.sp 160 fun x=>R.aR x
def gI.spec:Spec:=gI.g.sp 181 fun x=>R.gI x.1 x.2
def bT.spec:Spec:=bT.g.sp 218 fun x=>R.bT x.1 x.2
def aM.spec:Spec:=aM.g.sp 184 fun x=>R.aM x.1 x.2
def cT.spec:Spec:=cT.g.sp 183 fun x=>R.cT x
def bS.spec:Spec:=bS.g.sp 185 fun x=>R.bS x
def af.spec:Spec:=af.g.sp 213 fun x=>R.af x.1 x.2
def bD.spec:Spec:=bD.g.sp 214 fun x=>R.bD x.1 x.2.1 x.2.2
def cB.spec:Spec:=cB.g.sp 216 fun x=>R.cB x
def bC.spec:Spec:=bC.g.sp 221 fun x=>R.bC x.1 x.2
def eQ.spec:Spec:=eQ.g.sp 245 fun x=>R.eQ x
def dL.spec:Spec:=dL.g.sp 219 fun x=>R.dL x
def gS.spec:Spec:=gS.g.sp 101 fun x=>R.gS x
def bQ.spec:Spec:=bQ.g.sp 145 fun x=>R.bQ x.1 x.2
def aQ.spec:Spec:=aQ.g.sp 102 fun x=>R.aQ x.1 x.2
def lj.spec:Spec:=lj.g.sp 247 fun x=>R.lj x.1 x.2
def fl.spec:Spec:=fl.g.sp 107 fun x=>R.fl x
def ja.spec:Spec:=ja.g.sp 311 fun x=>R.ja x
def parse_parser_item.spec (G:bu):Spec:=parse_parser_item.g.sp 161 fun x=>G.parse_parser_item x
def parse_parser_declares.spec (G:bu):Spec:=parse_parser_declares.g.sp 182 fun x=>G.parse_parser_declares x
def parse_parser_statement.spec (G:bu):Spec:=parse_parser_statement.g.sp 187 fun x=>G.parse_parser_statement x
def parse_parser_assign.spec (G:bu):Spec:=parse_parser_assign.g.sp 215 fun x=>G.parse_parser_assign x
def parse_parser_word.spec (G:bu):Spec:=parse_parser_word.g.sp 222 fun x=>G.parse_parser_word x.1 x.2
def parse_parser_simple.spec (G:bu):Spec:=parse_parser_simple.g.sp 223 fun x=>G.parse_parser_simple x
def parse_parser_body.spec (G:bu):Spec:=parse_parser_body.g.sp 244 fun x=>G.parse_parser_body x.1 x.2
def parse_parser_cond.spec (G:bu):Spec:=parse_parser_cond.g.sp 246 fun x=>G.parse_parser_cond x
def parse_parser_either.spec (G:bu):Spec:=parse_parser_either.g.sp 269 fun x=>G.parse_parser_either x
def parse_parser_level.spec (G:bu):Spec:=parse_parser_level.g.sp 284 fun x=>G.parse_parser_level x.1 x.2
def parse_parser_both.spec (G:bu):Spec:=parse_parser_both.g.sp 285 fun x=>G.parse_parser_both x.1 x.2
def parse_parser_unary.spec (G:bu):Spec:=parse_parser_unary.g.sp 310 fun x=>G.parse_parser_unary x
def parse_parser_calls.spec (G:bu):Spec:=parse_parser_calls.g.sp 344 fun x=>G.parse_parser_calls x
def parse_parser_head.spec (G:bu):Spec:=parse_parser_head.g.sp 390 fun x=>G.parse_parser_head x
def parse_parser_arguments.spec (G:bu):Spec:=parse_parser_arguments.g.sp 391 fun x=>G.parse_parser_arguments x
def parse_parser_member.spec (G:bu):Spec:=parse_parser_member.g.sp 392 fun x=>G.parse_parser_member x.1 x.2
def parse_parser_primary.spec (G:bu):Spec:=parse_parser_primary.g.sp 428 fun x=>G.parse_parser_primary x
def parse_parser_list.spec (G:bu):Spec:=parse_parser_list.g.sp 429 fun x=>G.parse_parser_list x.1 x.2
def cz.spec:Spec:=cz.g.sp 140 fun x=>R.cz x
def ic.spec (fu:Nat):Spec:=ic.g.sp 162 fun x=>R.ic fu x.1 x.2
def kR.spec:Spec:=kR.g.sp 141 fun x=>R.kR x
def jD.spec:Spec:=jD.g.sp 42 fun x=>R.jD x
def dX.spec:Spec:=dX.g.sp 41 fun x=>R.dX x
def jW.spec:Spec:=jW.g.sp 98 fun x=>R.jW x
def jq.spec:Spec:=jq.g.sp 38 fun x=>R.jq x
def jy.spec:Spec:=jy.g.sp 37 fun x=>R.jy x
def kz.spec:Spec:=kz.g.sp 100 fun x=>R.kz x
def j9.spec:Spec:=j9.g.sp 99 fun x=>R.j9 x
def pW.env (P:Program):Env:={ P:=P,specs:=[],ety:=pO P owned }
def fG.spec:Spec:=fG.g.sp 61 fun x=>R.fG x
def gx.spec:Spec:=gx.g.sp 39 fun x=>R.gx x
def ga.spec:Spec:=ga.g.sp 103 fun x=>R.ga x.1 x.2
def jR.spec:Spec:=jR.g.sp 62 fun x=>R.jR x.1 x.2
def jo.spec:Spec:=jo.g.sp 63 fun x=>R.jo x
def dy.spec:Spec:=dy.g.sp 104 fun x=>R.dy x
def lL.spec:Spec:=lL.g.sp 105 fun x=>R.lL x
def dO.spec:Spec:=dO.g.sp 106 fun x=>R.dO x
def ki.spec:Spec:=ki.g.sp 64 fun x=>R.ki x.1 x.2
def iF.spec:Spec:=iF.g.sp 65 fun x=>R.iF x.1 x.2
def ju.spec:Spec:=ju.g.sp 40 fun x=>R.ju x.1 x.2
def lU.spec:Spec:=lU.g.sp 12 fun x=>R.lU x
def fp.spec:Spec:=fp.g.sp 56 fun x=>R.fp x
def fP.spec:Spec:=fP.g.sp 130 fun x=>R.fP x
def gY.spec:Spec:=gY.g.sp 131 fun x=>R.gY x.1 x.2
def dY.spec:Spec:=dY.g.sp 132 fun x=>R.dY x
def eC.spec:Spec:=eC.g.sp 91 fun x=>R.eC x.1 x.2
def iw.spec:Spec:=iw.g.sp 90 fun x=>R.iw x
def gX.spec:Spec:=gX.g.sp 134 fun x=>R.gX x.1 x.2
def aw.spec:Spec:=aw.g.sp 155 fun x=>R.aw x.1 x.2
def al.spec:Spec:=al.g.sp 133 fun x=>R.al x.1 x.2
def jB.spec:Spec:=jB.g.sp 92 fun x=>R.jB x.1 x.2.1 x.2.2
def ei.spec:Spec:=ei.g.sp 93 fun x=>R.ei x.1 x.2.1 x.2.2
def gv.spec:Spec:=gv.g.sp 95 fun x=>R.gv x.1 x.2.1 x.2.2
def bA.spec:Spec:=bA.g.sp 135 fun x=>R.bA x.1 x.2
def av.spec:Spec:=av.g.sp 94 fun x=>R.av x.1 x.2
def jP.spec:Spec:=jP.g.sp 136 fun x=>R.jP x
def fK.spec:Spec:=fK.g.sp 137 fun x=>R.fK x.1 x.2
def iy.spec:Spec:=iy.g.sp 96 fun x=>R.iy x.1 x.2.1 x.2.2
def iz.spec:Spec:=iz.g.sp 57 fun x=>R.iz x.1 x.2.1 x.2.2
def ec.spec:Spec:=ec.g.sp 26 fun x=>R.ec x
def ij.spec:Spec:=ij.g.sp 60 fun x=>R.ij x
def ke.spec:Spec:=ke.g.sp 27 fun x=>R.ke x
def lZ.spec:Spec:=lZ.g.sp 66 fun x=>R.lZ x
def dJ.spec:Spec:=dJ.g.sp 166 fun x=>R.dJ x
def gL.spec:Spec:=gL.g.sp 188 fun x=>R.gL x
def fN.spec:Spec:=fN.g.sp 163 fun x=>R.fN x.1 x.2
def cA.spec:Spec:=cA.g.sp 164 fun x=>R.cA x.1 x.2
def aT.spec:Spec:=aT.g.sp 146 fun x=>R.aT x.1 x.2
def bk.spec:Spec:=bk.g.sp 108 fun x=>R.bk x.1 x.2
def bB.spec:Spec:=bB.g.sp 150 fun x=>R.bB x.1 x.2
def ey.spec:Spec:=ey.g.sp 190 fun x=>R.ey x.1 x.2
def aa.spec:Spec:=aa.g.sp 189 fun x=>R.aa x.1 x.2
def cp.spec:Spec:=cp.g.sp 165 fun x=>R.cp x.1 x.2.1 x.2.2
def bF.spec:Spec:=bF.g.sp 147 fun x=>R.bF x.1 x.2.1 x.2.2.1 x.2.2.2.1 x.2.2.2.2.1 x.2.2.2.2.2
def eM.spec:Spec:=eM.g.sp 228 fun x=>R.eM x.1 x.2
def aZ.spec:Spec:=aZ.g.sp 227 fun x=>R.aZ x.1 x.2
def dA.spec:Spec:=dA.g.sp 191 fun x=>R.dA x.1 x.2.1 x.2.2
def bj.spec:Spec:=bj.g.sp 167 fun x=>R.bj x.1 x.2.1 x.2.2.1 x.2.2.2
def ch.spec:Spec:=ch.g.sp 168 fun x=>R.ch x.1 x.2.1 x.2.2.1 x.2.2.2.1 x.2.2.2.2
def cd.spec:Spec:=cd.g.sp 148 fun x=>R.cd x.1 x.2.1 x.2.2
def cL.spec:Spec:=cL.g.sp 109 fun x=>R.cL x.1 x.2.1 x.2.2
def bz.spec:Spec:=bz.g.sp 169 fun x=>R.bz x
def ej.spec:Spec:=ej.g.sp 198 fun x=>R.ej x.1 x.2.1 x.2.2
def eg.spec:Spec:=eg.g.sp 230 fun x=>R.eg x.1 x.2
def jF.spec:Spec:=jF.g.sp 232 fun x=>R.jF x.1 x.2
def fI.spec:Spec:=fI.g.sp 263 fun x=>R.fI x.1 x.2
def dt.spec:Spec:=dt.g.sp 234 fun x=>R.dt x.1 x.2
def b8.spec:Spec:=b8.g.sp 20 fun x=>R.b8 x
def dB.spec:Spec:=dB.g.sp 254 fun x=>R.dB x
def bw.spec:Spec:=bw.g.sp 255 fun x=>R.bw x
def dZ.spec:Spec:=dZ.g.sp 286 fun x=>R.dZ x.1 x.2.1 x.2.2
def cq.spec:Spec:=cq.g.sp 312 fun x=>R.cq x.1 x.2
def aF.spec:Spec:=aF.g.sp 287 fun x=>R.aF x.1 x.2
def gU.spec:Spec:=gU.g.sp 313 fun _=>R.gU
def fT.spec:Spec:=fT.g.sp 384 fun x=>R.fT x
def ep.spec:Spec:=ep.g.sp 385 fun _=>R.ep
def cX.spec:Spec:=cX.g.sp 340 fun _=>R.cX
def cW.spec:Spec:=cW.g.sp 314 fun x=>R.cW x
def iB.spec:Spec:=iB.g.sp 288 fun x=>R.iB x
def jt.spec:Spec:=jt.g.sp 289 fun x=>R.jt x
def aK.spec:Spec:=aK.g.sp 258 fun x=>R.aK x
def dW.spec:Spec:=dW.g.sp 271 fun x=>R.dW x.1 x.2.1 x.2.2.1 x.2.2.2
def eN.spec:Spec:=eN.g.sp 256 fun x=>R.eN x.1 x.2.1 x.2.2
def bE.spec:Spec:=bE.g.sp 257 fun x=>R.bE x
def ia.spec:Spec:=ia.g.sp 35 fun x=>R.ia x
def lW.spec:Spec:=lW.g.sp 10 fun x=>R.lW x
def bl.spec:Spec:=bl.g.sp 44 fun x=>R.bl x
def eH.spec:Spec:=eH.g.sp 308 fun x=>R.eH x
def iH.spec:Spec:=iH.g.sp 309 fun x=>R.iH x
def iN.spec:Spec:=iN.g.sp 282 fun x=>R.iN x.1 x.2
def fa.spec:Spec:=fa.g.sp 262 fun x=>R.fa x
def fL.spec:Spec:=fL.g.sp 272 fun x=>R.fL x
def bP.spec:Spec:=bP.g.sp 19 fun x=>R.bP x
def j8.spec:Spec:=j8.g.sp 46 fun x=>R.j8 x
def bx.spec:Spec:=bx.g.sp 295 fun x=>R.bx x
def cf.spec:Spec:=cf.g.sp 116 fun x=>R.cf x
def fg.spec:Spec:=fg.g.sp 117 fun x=>R.fg x
def iD.spec:Spec:=iD.g.sp 112 fun x=>R.iD x
def fk.spec:Spec:=fk.g.sp 112 fun x=>R.fk x
def dQ.spec:Spec:=dQ.g.sp 69 fun x=>R.dQ x.1 x.2
def kU.spec:Spec:=kU.g.sp 75 fun x=>R.kU x
def gR.spec:Spec:=gR.g.sp 346 fun x=>R.gR x
def jc.spec:Spec:=jc.g.sp 345 fun x=>R.jc x
def lN.spec:Spec:=lN.g.sp 315 fun x=>R.lN x.1 x.2.1 x.2.2
def jO.spec:Spec:=jO.g.sp 291 fun x=>R.jO x.1 x.2
def bm.spec:Spec:=bm.g.sp 290 fun x=>R.bm x.1 x.2.1 x.2.2
def ay.spec:Spec:=ay.g.sp 305 fun x=>R.ay x.1 x.2
def gF.spec:Spec:=gF.g.sp 303 fun x=>R.gF x
def gz.spec:Spec:=gz.g.sp 316 fun x=>R.gz x
def fy.spec:Spec:=fy.g.sp 292 fun x=>R.fy x.1 x.2
def jC.spec:Spec:=jC.g.sp 341 fun x=>R.jC x
def lC.spec:Spec:=lC.g.sp 78 fun x=>R.lC x
def bc.spec:Spec:=bc.g.sp 120 fun x=>R.bc x
def kA.spec:Spec:=kA.g.sp 79 fun x=>R.kA x
def cm.spec:Spec:=cm.g.sp 48 fun x=>R.cm x
def bY.spec:Spec:=bY.g.sp 386 fun x=>R.bY x
def eI.spec:Spec:=eI.g.sp 323 fun x=>R.eI x
def gA.spec:Spec:=gA.g.sp 342 fun x=>R.gA x.1 x.2.1 x.2.2
def aj.spec:Spec:=aj.g.sp 111 fun x=>R.aj x.1 x.2
def cM.spec:Spec:=cM.g.sp 304 fun x=>R.cM x.1 x.2.1 x.2.2
def db.spec:Spec:=db.g.sp 324 fun x=>R.db x.1 x.2.1 x.2.2
def gQ.spec:Spec:=gQ.g.sp 325 fun x=>R.gQ x
def bM.spec:Spec:=bM.g.sp 326 fun x=>R.bM x.1 x.2
def gB.spec:Spec:=gB.g.sp 387 fun x=>R.gB x.1 x.2.1 x.2.2.1 x.2.2.2.1 x.2.2.2.2
def pd.env (P:Program):Env:={ P:=P,specs:=[bB.spec],ety:=pO P owned }
def dD.spec:Spec:=dD.g.sp 380 fun x=>R.dD x.1 x.2
def bN.spec:Spec:=bN.g.sp 11 fun x=>R.bN x
def c7.spec:Spec:=c7.g.sp 14 fun x=>R.c7 x
def cZ.spec:Spec:=cZ.g.sp 432 fun x=>R.cZ x
def gg.spec:Spec:=gg.g.sp 438 fun x=>R.gg x.1 x.2
def bX.spec:Spec:=bX.g.sp 378 fun x=>R.bX x.1 x.2
def qA.env (P:Program):Env:={ P:=P,specs:=[bB.spec],ety:=pO P owned }
def cj.spec:Spec:=cj.g.sp 416 fun x=>R.cj x.1 x.2.1 x.2.2.1 x.2.2.2.1 x.2.2.2.2.1 x.2.2.2.2.2
def gi.spec:Spec:=gi.g.sp 51 fun x=>R.gi x.1 x.2
def jQ.spec:Spec:=jQ.g.sp 17 fun x=>R.jQ x.1 x.2
def ef.spec:Spec:=ef.g.sp 54 fun x=>R.ef x.1 x.2
def jL.spec:Spec:=jL.g.sp 21 fun x=>R.jL x.1 x.2
def ct.spec:Spec:=ct.g.sp 417 fun x=>R.ct x.1 x.2
def dh.spec:Spec:=dh.g.sp 388 fun x=>R.dh x.1 x.2.1 x.2.2
def eo.spec:Spec:=eo.g.sp 389 fun x=>R.eo x.1 x.2.1 x.2.2.1 x.2.2.2
def eX.spec:Spec:=eX.g.sp 343 fun x=>R.eX x.1 x.2.1 x.2.2
def dw.spec:Spec:=dw.g.sp 307 fun x=>R.dw x.1 x.2
def eP.spec:Spec:=eP.g.sp 294 fun x=>R.eP x.1 x.2.1 x.2.2
def jl.spec:Spec:=jl.g.sp 45 fun x=>R.jl x
def lG.spec:Spec:=lG.g.sp 348 fun x=>R.lG x.1 x.2
def iq.spec:Spec:=iq.g.sp 347 fun x=>R.iq x.1 x.2
def kc.spec:Spec:=kc.g.sp 393 fun x=>R.kc x
def jm.spec:Spec:=jm.g.sp 349 fun x=>R.jm x.1 x.2
def jM.spec:Spec:=jM.g.sp 153 fun x=>R.jM x.1 x.2.1 x.2.2
def iU.spec:Spec:=iU.g.sp 122 fun x=>R.iU x.1 x.2
def kV.spec:Spec:=kV.g.sp 318 fun x=>R.kV x.1 x.2
def ed.spec:Spec:=ed.g.sp 317 fun x=>R.ed x.1 x.2
def dk.spec:Spec:=dk.g.sp 350 fun x=>R.dk x
def mV.spec:Spec:=mV.g.sp 351 fun x=>R.mV x
def kT.spec:Spec:=kT.g.sp 320 fun x=>R.kT x.1 x.2
def ca.spec:Spec:=ca.g.sp 319 fun x=>R.ca x.1 x.2
def kF.spec:Spec:=kF.g.sp 296 fun x=>R.kF x.1 x.2
def fM.spec:Spec:=fM.g.sp 321 fun x=>R.fM x.1 x.2.1 x.2.2.1 x.2.2.2
def jU.spec:Spec:=jU.g.sp 113 fun x=>R.jU x
def kM.spec:Spec:=kM.g.sp 71 fun x=>R.kM x
def iZ.spec:Spec:=iZ.g.sp 114 fun x=>R.iZ x
def iv.spec:Spec:=iv.g.sp 72 fun x=>R.iv x
def jk.spec:Spec:=jk.g.sp 115 fun x=>R.jk x
def kK.spec:Spec:=kK.g.sp 74 fun x=>R.kK x
def iI.spec:Spec:=iI.g.sp 76 fun x=>R.iI x
def iQ.spec:Spec:=iQ.g.sp 47 fun x=>R.iQ x
def ev.spec:Spec:=ev.g.sp 15 fun x=>R.ev x
def mG.spec:Spec:=mG.g.sp 121 fun x=>R.mG x.1 x.2
def kN.spec:Spec:=kN.g.sp 123 fun x=>R.kN x
def iu.spec:Spec:=iu.g.sp 81 fun x=>R.iu x.1 x.2
def lD.spec:Spec:=lD.g.sp 52 fun x=>R.lD x
def fS.spec:Spec:=fS.g.sp 18 fun x=>R.fS x.1 x.2
def fR.spec:Spec:=fR.g.sp 22 fun x=>R.fR x.1 x.2
def gq.spec:Spec:=gq.g.sp 394 fun x=>R.gq x.1 x.2
def iC.spec:Spec:=iC.g.sp 431 fun x=>R.iC x.1 x.2
def eY.spec:Spec:=eY.g.sp 430 fun x=>R.eY x.1 x.2.1 x.2.2.1 x.2.2.2
def cS.spec:Spec:=cS.g.sp 395 fun x=>R.cS x.1 x.2.1 x.2.2.1 x.2.2.2.1 x.2.2.2.2.1 x.2.2.2.2.2.1 x.2.2.2.2.2.2
def gj.spec:Spec:=gj.g.sp 352 fun x=>R.gj x.1 x.2.1 x.2.2.1 x.2.2.2
def gh.spec:Spec:=gh.g.sp 322 fun x=>R.gh x.1 x.2.1 x.2.2
def fU.spec:Spec:=fU.g.sp 297 fun x=>R.fU x.1 x.2.1 x.2.2.1 x.2.2.2
def iW.spec:Spec:=iW.g.sp 298 fun x=>R.iW x.1 x.2.1 x.2.2
def kG.spec:Spec:=kG.g.sp 327 fun x=>R.kG x.1 x.2
def eO.spec:Spec:=eO.g.sp 353 fun x=>R.eO x.1 x.2
def mO.spec:Spec:=mO.g.sp 396 fun x=>R.mO x.1 x.2
def mK.spec:Spec:=mK.g.sp 397 fun x=>R.mK x.1 x.2
def jH.spec:Spec:=jH.g.sp 442 fun x=>R.jH x.1 x.2
def iE.spec:Spec:=iE.g.sp 433 fun x=>R.iE x.1 x.2
def mC.spec:Spec:=mC.g.sp 398 fun x=>R.mC x.1 x.2
def mM.spec:Spec:=mM.g.sp 399 fun x=>R.mM x.1 x.2
def kH.spec:Spec:=kH.g.sp 354 fun x=>R.kH x.1 x.2.1 x.2.2
def mB.spec:Spec:=mB.g.sp 355 fun x=>R.mB x.1 x.2
def jE.spec:Spec:=jE.g.sp 400 fun x=>R.jE x
def cb.spec:Spec:=cb.g.sp 401 fun x=>R.cb x
def fO.spec:Spec:=fO.g.sp 403 fun x=>R.fO x
def jV.spec:Spec:=jV.g.sp 402 fun x=>R.jV x.1 x.2
def gD.spec:Spec:=gD.g.sp 404 fun x=>R.gD x.1 x.2
def mN.spec:Spec:=mN.g.sp 356 fun x=>R.mN x.1 x.2
def mJ.spec:Spec:=mJ.g.sp 357 fun x=>R.mJ x.1 x.2
def mF.spec:Spec:=mF.g.sp 358 fun x=>R.mF x.1 x.2
def jZ.spec:Spec:=jZ.g.sp 328 fun x=>R.jZ x.1 x.2.1 x.2.2
def kO.spec:Spec:=kO.g.sp 329 fun x=>R.kO x.1 x.2.1 x.2.2
def dm.spec:Spec:=dm.g.sp 443 fun x=>R.dm x
def cw.spec:Spec:=cw.g.sp 434 fun x=>R.cw x.1 x.2
def cR.spec:Spec:=cR.g.sp 405 fun x=>R.cR x.1 x.2
def kh.spec:Spec:=kh.g.sp 359 fun x=>R.kh x.1 x.2
def kY.spec:Spec:=kY.g.sp 406 fun x=>R.kY x.1 x.2
def gd.spec:Spec:=gd.g.sp 407 fun x=>R.gd x.1 x.2
def jn.spec:Spec:=jn.g.sp 408 fun x=>R.jn x.1 x.2
def jI.spec:Spec:=jI.g.sp 360 fun x=>R.jI x.1 x.2
def gu.spec:Spec:=gu.g.sp 330 fun x=>R.gu x.1 x.2.1 x.2.2.1 x.2.2.2
def cx.spec:Spec:=cx.g.sp 409 fun x=>R.cx x.1 x.2
def kj.spec:Spec:=kj.g.sp 361 fun x=>R.kj x.1 x.2
def gN.spec:Spec:=gN.g.sp 331 fun x=>R.gN x.1 x.2
def jY.spec:Spec:=jY.g.sp 362 fun x=>R.jY x
def fh.spec:Spec:=fh.g.sp 363 fun x=>R.fh x
def lK.spec:Spec:=lK.g.sp 410 fun x=>R.lK x.1 x.2
def js.spec:Spec:=js.g.sp 364 fun x=>R.js x.1 x.2
def jS.spec:Spec:=jS.g.sp 332 fun x=>R.jS x.1 x.2
def gM.spec:Spec:=gM.g.sp 299 fun x=>R.gM x.1 x.2.1 x.2.2
def bU.spec:Spec:=bU.g.sp 335 fun x=>R.bU x.1 x.2
def eJ.spec:Spec:=eJ.g.sp 413 fun x=>R.eJ x
def kP.spec:Spec:=kP.g.sp 377 fun x=>R.kP x
def cQ.spec:Spec:=cQ.g.sp 334 fun x=>R.cQ x
def dc.spec:Spec:=dc.g.sp 336 fun x=>R.dc x.1 x.2
def dq.spec:Spec:=dq.g.sp 379 fun x=>R.dq x.1 x.2
def dd.spec:Spec:=dd.g.sp 337 fun x=>R.dd x.1 x.2
def cg.spec:Spec:=cg.g.sp 440 fun x=>R.cg x.1 x.2
def cP.spec:Spec:=cP.g.sp 427 fun x=>R.cP x.1 x.2
def dF.spec:Spec:=dF.g.sp 381 fun x=>R.dF x.1 x.2
def eE.spec:Spec:=eE.g.sp 382 fun x=>R.eE x
def jJ.spec:Spec:=jJ.g.sp 338 fun x=>R.jJ x
def fo.spec:Spec:=fo.g.sp 383 fun x=>R.fo x.1 x.2.1 x.2.2.1 x.2.2.2.1 x.2.2.2.2
def eW.spec:Spec:=eW.g.sp 339 fun x=>R.eW x.1 x.2.1 x.2.2
def cG.spec:Spec:=cG.g.sp 436 fun x=>R.cG x.1 x.2
def aP.spec:Spec:=aP.g.sp 448 fun x=>R.aP x.1 x.2.1 x.2.2.1 x.2.2.2
def aN.spec:Spec:=aN.g.sp 459 fun x=>R.aN x.1 x.2.1 x.2.2.1 x.2.2.2.1 x.2.2.2.2
def aV.spec:Spec:=aV.g.sp 455 fun x=>R.aV x.1 x.2.1 x.2.2.1 x.2.2.2.1 x.2.2.2.2
def aJ.spec (fu:Nat):Spec:=aJ.g.sp 449 fun x=>R.aJ fu x.1 x.2.1 x.2.2.1 x.2.2.2.1 x.2.2.2.2
def aW.spec:Spec:=aW.g.sp 444 fun x=>R.aW x.1 x.2.1 x.2.2
def aU.spec:Spec:=aU.g.sp 435 fun x=>R.aU x.1 x.2
def fQ.spec:Spec:=fQ.g.sp 411 fun x=>R.fQ x.1 x.2
def fq.spec:Spec:=fq.g.sp 365 fun x=>R.fq x.1 x.2
def eR.spec:Spec:=eR.g.sp 366 fun x=>R.eR x.1 x.2.1 x.2.2
def gC.spec:Spec:=gC.g.sp 367 fun x=>R.gC x.1 x.2.1 x.2.2
def fH.spec:Spec:=fH.g.sp 368 fun x=>R.fH x.1 x.2
def kJ.spec:Spec:=kJ.g.sp 412 fun x=>R.kJ x
def dE.spec:Spec:=dE.g.sp 369 fun x=>R.dE x.1 x.2.1 x.2.2
def eS.spec:Spec:=eS.g.sp 370 fun x=>R.eS x.1 x.2
def de.spec:Spec:=de.g.sp 371 fun x=>R.de x.1 x.2.1 x.2.2
def cE.spec:Spec:=cE.g.sp 414 fun x=>R.cE x.1 x.2
def cJ.spec:Spec:=cJ.g.sp 372 fun x=>R.cJ x.1 x.2
def cI.spec:Spec:=cI.g.sp 418 fun x=>R.cI x.1 x.2
def bo.spec:Spec:=bo.g.sp 374 fun x=>R.bo x.1 x.2
def gZ.spec:Spec:=gZ.g.sp 415 fun x=>R.gZ x.1 x.2
def eV.spec:Spec:=eV.g.sp 373 fun x=>R.eV x.1 x.2.1 x.2.2.1 x.2.2.2
def fD.spec:Spec:=fD.g.sp 419 fun x=>R.fD x.1 x.2.1 x.2.2
def du.spec:Spec:=du.g.sp 426 fun x=>R.du x
def fE.spec:Spec:=fE.g.sp 420 fun x=>R.fE x.1 x.2.1 x.2.2.1 x.2.2.2.1 x.2.2.2.2.1 x.2.2.2.2.2
def dI.spec:Spec:=dI.g.sp 421 fun x=>R.dI x.1 x.2.1 x.2.2.1 x.2.2.2.1 x.2.2.2.2
def fj.spec:Spec:=fj.g.sp 422 fun x=>R.fj x.1 x.2
def iS.spec:Spec:=iS.g.sp 439 fun x=>R.iS x.1 x.2.1 x.2.2.1 x.2.2.2
def dP.spec:Spec:=dP.g.sp 423 fun x=>R.dP x.1 x.2.1 x.2.2.1 x.2.2.2
def gm.spec:Spec:=gm.g.sp 424 fun x=>R.gm x
def ea.spec:Spec:=ea.g.sp 375 fun x=>R.ea x.1 x.2.1 x.2.2
def eval_run_list.spec (G:au):Spec:=eval_run_list.g.sp 110 fun x=>G.eval_run_list x.1 x.2.1 x.2.2
def eval_run_statement.spec (G:au):Spec:=eval_run_statement.g.sp 149 fun x=>G.eval_run_statement x.1 x.2.1 x.2.2.1 x.2.2.2
def eval_run_act.spec (G:au):Spec:=eval_run_act.g.sp 170 fun x=>G.eval_run_act x.1 x.2.1 x.2.2.1 x.2.2.2
def eval_run_expression.spec (G:au):Spec:=eval_run_expression.g.sp 192 fun x=>G.eval_run_expression x.1 x.2.1 x.2.2
def eval_run_block.spec (G:au):Spec:=eval_run_block.g.sp 193 fun x=>G.eval_run_block x.1 x.2.1 x.2.2
def eval_run_decls.spec (G:au):Spec:=eval_run_decls.g.sp 194 fun x=>G.eval_run_decls x.1 x.2.1 x.2.2
def eval_run_choice.spec (G:au):Spec:=eval_run_choice.g.sp 195 fun x=>G.eval_run_choice x.1 x.2.1 x.2.2
def eval_run_while.spec (G:au):Spec:=eval_run_while.g.sp 196 fun x=>G.eval_run_while x.1 x.2.1 x.2.2.1 x.2.2.2
def eval_run_loop.spec (G:au):Spec:=eval_run_loop.g.sp 197 fun x=>G.eval_run_loop x.1 x.2.1 x.2.2.1 x.2.2.2
def eval_run_try.spec (G:au):Spec:=eval_run_try.g.sp 199 fun x=>G.eval_run_try x.1 x.2.1 x.2.2
def eval_run_value.spec (G:au):Spec:=eval_run_value.g.sp 229 fun x=>G.eval_run_value x.1 x.2.1 x.2.2
def eval_run_asked.spec (G:au):Spec:=eval_run_asked.g.sp 231 fun x=>G.eval_run_asked x.1 x.2.1 x.2.2
def eval_run_first.spec (G:au):Spec:=eval_run_first.g.sp 233 fun x=>G.eval_run_first x.1 x.2.1 x.2.2
def eval_run_catch.spec (G:au):Spec:=eval_run_catch.g.sp 235 fun x=>G.eval_run_catch x.1 x.2.1 x.2.2.1 x.2.2.2.1 x.2.2.2.2
def eval_run_array.spec (G:au):Spec:=eval_run_array.g.sp 259 fun x=>G.eval_run_array x.1 x.2.1 x.2.2
def eval_run_object.spec (G:au):Spec:=eval_run_object.g.sp 260 fun x=>G.eval_run_object x.1 x.2.1 x.2.2
def eval_run_operation.spec (G:au):Spec:=eval_run_operation.g.sp 261 fun x=>G.eval_run_operation x.1 x.2.1 x.2.2.1 x.2.2.2
def eval_run_unary.spec (G:au):Spec:=eval_run_unary.g.sp 273 fun x=>G.eval_run_unary x.1 x.2.1 x.2.2.1 x.2.2.2
def eval_run_step.spec (G:au):Spec:=eval_run_step.g.sp 274 fun x=>G.eval_run_step x.1 x.2.1 x.2.2
def eval_run_binary.spec (G:au):Spec:=eval_run_binary.g.sp 275 fun x=>G.eval_run_binary x.1 x.2.1 x.2.2
def eval_run_logic.spec (G:au):Spec:=eval_run_logic.g.sp 276 fun x=>G.eval_run_logic x.1 x.2.1 x.2.2
def eval_run_assign.spec (G:au):Spec:=eval_run_assign.g.sp 277 fun x=>G.eval_run_assign x.1 x.2.1 x.2.2
def eval_run_callee.spec (G:au):Spec:=eval_run_callee.g.sp 278 fun x=>G.eval_run_callee x.1 x.2.1 x.2.2
def eval_run_arguments.spec (G:au):Spec:=eval_run_arguments.g.sp 279 fun x=>G.eval_run_arguments x.1 x.2.1 x.2.2
def eval_run_fresh.spec (G:au):Spec:=eval_run_fresh.g.sp 280 fun x=>G.eval_run_fresh x.1 x.2.1 x.2.2
def eval_run_property.spec (G:au):Spec:=eval_run_property.g.sp 281 fun x=>G.eval_run_property x.1 x.2.1 x.2.2
def eval_run_parts.spec (G:au):Spec:=eval_run_parts.g.sp 293 fun x=>G.eval_run_parts x.1 x.2.1 x.2.2
def eval_run_called.spec (G:au):Spec:=eval_run_called.g.sp 300 fun x=>G.eval_run_called x.1 x.2.1 x.2.2
def eval_run_call.spec (G:au):Spec:=eval_run_call.g.sp 301 fun x=>G.eval_run_call x.1 x.2.1 x.2.2.1 x.2.2.2
def eval_run_builds.spec (G:au):Spec:=eval_run_builds.g.sp 302 fun x=>G.eval_run_builds x.1 x.2.1 x.2.2
def eval_run_apply.spec (G:au):Spec:=eval_run_apply.g.sp 306 fun x=>G.eval_run_apply x.1 x.2.1 x.2.2.1 x.2.2.2
def eval_run_does.spec (G:au):Spec:=eval_run_does.g.sp 333 fun x=>G.eval_run_does x.1 x.2.1 x.2.2.1 x.2.2.2
def eval_run_host.spec (G:au):Spec:=eval_run_host.g.sp 376 fun x=>G.eval_run_host x.1 x.2.1 x.2.2
def eval_run_receives.spec (G:au):Spec:=eval_run_receives.g.sp 425 fun x=>G.eval_run_receives x.1 x.2
def di.spec:Spec:=di.g.sp 67 fun x=>R.di x
def eT.spec:Spec:=eT.g.sp 68 fun x=>R.eT x.1 x.2
def iX.spec:Spec:=iX.g.sp 43 fun x=>R.iX x.1 x.2.1 x.2.2
def ik.spec:Spec:=ik.g.sp 13 fun x=>R.ik x.1 x.2.1 x.2.2
def dU.spec:Spec:=dU.g.sp 33 fun x=>R.dU x.1 x.2
def ib.spec:Spec:=ib.g.sp 50 fun x=>R.ib x
def gP.spec:Spec:=gP.g.sp 49 fun x=>R.gP x.1 x.2
def fW.spec:Spec:=fW.g.sp 34 fun x=>R.fW x.1 x.2.1 x.2.2
def dH.spec:Spec:=dH.g.sp 8 fun _=>R.dH
def fx.spec:Spec:=fx.g.sp 55 fun x=>R.fx x.1 x.2
def jA.spec:Spec:=jA.g.sp 23 fun x=>R.jA x
def iK.spec:Spec:=iK.g.sp 24 fun x=>R.iK x
def fi.spec:Spec:=fi.g.sp 25 fun x=>R.fi x
def fe.spec:Spec:=fe.g.sp 29 fun x=>R.fe x
def kp.spec:Spec:=kp.g.sp 58 fun x=>R.kp x.1 x.2
def eL.spec:Spec:=eL.g.sp 28 fun x=>R.eL x.1 x.2
def iJ.spec:Spec:=iJ.g.sp 31 fun x=>R.iJ x
def fA.spec:Spec:=fA.g.sp 30 fun x=>R.fA x.1 x.2
def i7.spec:Spec:=i7.g.sp 59 fun x=>R.i7 x
def fB.spec:Spec:=fB.g.sp 32 fun x=>R.fB x
def dM.spec:Spec:=dM.g.sp 4 fun x=>R.dM x.1 x.2.1 x.2.2
abbrev zs0:Sh:=(.own (.frz (.list (.int .u16))))
abbrev zs1:Sh:=(.box (.frz aC))
abbrev zs2:Sh:=(.frz (.rose aE))
abbrev zs3:Sh:=(.seq .i (.seq (.frz aH) (.seq (.seq .b (.own .w)) (.seq (.own .h) .i))))
abbrev zs4:Sh:=(.frz (.int .u64))
abbrev zs5:Sh:=(.box (.seq .i (.seq .s (.seq (.own .h) (.seq (.frz aH) (.seq (.seq .b (.own .w)) (.seq .i .b)))))))
abbrev zs6:Sh:=(.box (.frz aX))
abbrev zs7:Sh:=(.frz (.list (.int .u16)))
end Go.Mach
end

