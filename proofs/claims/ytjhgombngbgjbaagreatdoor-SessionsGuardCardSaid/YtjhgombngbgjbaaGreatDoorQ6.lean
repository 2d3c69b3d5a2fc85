/- Part 6 of 11. A session's sealed cut that was changed, shortened, lengthened or emptied is not resumed, and a cut is resumed under another model only where the two models are one. Names are shortened and spaces left out by program, for the size. -/
import Derived.Test.YtjhgombngbgjbaaGreatDoorQ5
import Derived.IntWalk
set_option linter.unusedVariables false
set_option linter.unusedSimpArgs false
set_option linter.unusedSectionVars false
set_option linter.constructorNameAsVariable false
set_option maxRecDepth 100000
namespace Go.Pq
open Go.Pl Go.Proofs
def C91:Ctx:=⟨tab,sigs,68,[0,1,4,5,6,7,8,9],[pp 5],[],[],[],[]⟩
theorem Td (a0:T) (a1:T) (y0:T) (I0:(Nat×List T)→Prop) (M0:(Nat×List T)→Nat) (I1:(Nat×List T)→X1→Prop) (M1:(Nat×List T)→X1→Nat) (h:(0≤pL .i64 (lenOf a0.list) (lenOf a1.list)∧pL .i64 (lenOf a0.list) (lenOf a1.list)≤pL .i64 (lenOf a0.list) (lenOf a1.list)∧(↑4:Int)*pL .i64 (lenOf a0.list) (lenOf a1.list)≤(281474976710656:Int)∧pL .i64 (lenOf a0.list) (lenOf a1.list)≤(9223372036854775807:Int))∧(∃(i:Nat×List T),I0 i∧R2 a0 a1 (List.replicate (pL .i64 (lenOf a0.list) (lenOf a1.list)).toNat (T.i .u32 0)=i.2∧kI 0=kI ↑i.1∧True))∧(∀(i:Nat×List T),true=true)∧∀(i:Nat×List T),I0 i→(ltI ↑i.1 (lenOf a0.list)=true→(∃(i_1:X1),I1 i i_1∧R2 a0 a1 (i.2=i_1.2.2∧kI ↑i.1=kI ↑i.1∧T.i .u64 0=T.i .u64 i_1.2.1∧kI 0=kI ↑i_1.1∧True))∧(∀(i:X1),true=true)∧∀(i_1:X1),I1 i i_1→(ltI ↑i_1.1 (lenOf a1.list)=true→(Bd ↑i.1 (lenOf a0.list))∧(Bd ↑i_1.1 (lenOf a1.list))∧(Bd (pL .i64 ↑i.1 (↑i_1.1:Int)) (↑i_1.2.2.length:Int))∧0≤(32:Int)∧(Bd (pL .i64 ↑i.1 (↑i_1.1:Int)) (↑i_1.2.2.length:Int))∧∃(j:X1),I1 i j∧M1 i j<M1 i i_1∧R2 a0 a1 (i_1.2.2.set (0+(pL .i64 ↑i.1 (↑i_1.1:Int)).toNat) (T.i .u32 (pG .u32 (pL .u64 (pL .u64 (zk .u64 (pG .u64 ((a0.list.getD (↑i.1:Int).toNat T.u).cell 0).int) (pG .u64 ((a1.list.getD (↑i_1.1:Int).toNat T.u).cell 0).int)) (pG .u64 ((i_1.2.2.getD (0+(pL .i64 ↑i.1 (↑i_1.1:Int)).toNat) T.u).cell 0).int)) i_1.2.1)))=j.2.2∧kI ↑i.1=kI ↑i.1∧T.i .u64 (sE .u64 (pL .u64 (pL .u64 (zk .u64 (pG .u64 ((a0.list.getD (↑i.1:Int).toNat T.u).cell 0).int) (pG .u64 ((a1.list.getD (↑i_1.1:Int).toNat T.u).cell 0).int)) (pG .u64 ((i_1.2.2.getD (0+(pL .i64 ↑i.1 (↑i_1.1:Int)).toNat) T.u).cell 0).int)) i_1.2.1) (32:Int))=T.i .u64 j.2.1∧kI (pL .i64 ↑i_1.1 1)=kI ↑j.1∧True))∧(ltI ↑i_1.1 (lenOf a1.list)=false→(Bd (pL .i64 ↑i.1 (lenOf a1.list)) (↑i_1.2.2.length:Int))∧∃(j:Nat×List T),I0 j∧M0 j<M0 i∧R2 a0 a1 (i_1.2.2.set (0+(pL .i64 ↑i.1 (lenOf a1.list)).toNat) (T.i .u32 (pG .u32 i_1.2.1))=j.2∧kI (pL .i64 ↑i.1 1)=kI ↑j.1∧True)))∧(ltI ↑i.1 (lenOf a0.list)=false→∃y:T,F 131 [.t 22 (T.l (List.take i.2.length (List.drop 0 i.2)))] (zo 1 22) [y]∧True∧y=y0∧True)):F 91 [.t 22 a0,.t 22 a1] (zo 2 22) [y0] :=
 p7 C91 (by kernel_rfl) Tryz.func91 (by kernel_rfl) (.two .no (.two .no (.two (.two .no (.lp (fun (ia:Nat×List T)=>[(pp 0,AV.t 22 a0),(pp 1,AV.t 22 a1),(pp 4,AV.t 22 (T.l [])),(pp 5,.own 22 0 ia.2),(pp 6,.t 2 (.i .i64 (ia.1:Int)))]) I0 M0 (fun (ia:Nat×List T)=>(.two .no (.two (.two .no (.two (.two .no (.lp (fun (ib:X1)=>[(pp 0,AV.t 22 a0),(pp 1,AV.t 22 a1),(pp 4,AV.t 22 (T.l [])),(pp 5,.own 22 0 ib.2.2),(pp 6,AV.t 2 (T.i IntKind.i64 (↑ia.1:Int))),(pp 7,.t 12 (.i .u64 ib.2.1)),(pp 8,.t 2 (.i .i64 (ib.1:Int)))]) (I1 ia) (M1 ia) (fun _=>.no))) .no)) .no))))) .no))) (by kernel_rfl) h
def VM:Ctx:=⟨tab,sigs,27,[0,2,3],[],[],[],[],[]⟩
theorem PJ (a0:T) (y0:T) (I0:Nat→Prop) (M0:Nat→Nat) (h:(∃i:Nat,I0 i∧R3 a0 (kI (zk .i64 32 (lenOf a0.list))=kI ↑i∧True))∧(∀i:Nat,true=true)∧∀i:Nat,I0 i→(ltI 0 ↑i=true∧True→(32:Int)≠(0:Int))∧(ltI 0 ↑i=true∧True→0≤uQ .i64 (qc .i64 ↑i (1:Int)) (32:Int)∧uQ .i64 (qc .i64 ↑i (1:Int)) (32:Int)<lenOf a0.list)∧(ltI 0 ↑i=true∧True→(32:Int)≠(0:Int))∧(ltI 0 ↑i=true∧True→0≤pG .u64 (uA (qc .i64 ↑i (1:Int)) (32:Int)))∧((T.ite (ltI 0 (↑i:Int)) (T.b (eqI (qv BinOp.and .u32 (sE .u32 ((a0.list.getD (uQ .i64 (qc .i64 ↑i (1:Int)) (32:Int)).toNat T.u).cell 0).int (pG .u64 (uA (qc .i64 ↑i (1:Int)) (32:Int)))) (1:Int)) (0:Int))) (T.b false)).bool=true→∃j:Nat,I0 j∧M0 j<M0 i∧R3 a0 (kI (qc .i64 ↑i (1:Int))=kI ↑j∧True))∧((T.ite (ltI 0 (↑i:Int)) (T.b (eqI (qv BinOp.and .u32 (sE .u32 ((a0.list.getD (uQ .i64 (qc .i64 ↑i (1:Int)) (32:Int)).toNat T.u).cell 0).int (pG .u64 (uA (qc .i64 ↑i (1:Int)) (32:Int)))) (1:Int)) (0:Int))) (T.b false)).bool=false→True∧kI ↑i=y0∧True)):F 161 [.t 22 a0] (zo 1 2) [y0] :=
 p7 VM (by kernel_rfl) Tryz.func161 (by kernel_rfl) (.two .no (.two .no (.two (.lp (fun (ia:Nat)=>[(pp 0,AV.t 22 a0),(pp 2,AV.t 2 (T.i IntKind.i64 (0:Int))),(pp 3,.t 2 (.i .i64 (ia:Int)))]) I0 M0 (fun _=>.no)) .no))) (by kernel_rfl) h
def VN:Ctx:=⟨tab,sigs,34,[0,1,4,5,6],[pp 5],[],[],[],[]⟩
theorem PK (a0:T) (a1:T) (y0:T) (I0:(Nat×List T)→Prop) (M0:(Nat×List T)→Nat) (h:(32:Int)≠(0:Int)∧(∃(i:Nat×List T),I0 i∧R2 a0 a1 ([]=i.2∧kI (uQ .i64 a1.int 32)=kI ↑i.1∧True))∧(∀(i:Nat×List T),true=true)∧∀(i:Nat×List T),I0 i→(ltI ↑i.1 (lenOf a0.list)=true→∃y:T,F 159 [.t 22 a0,.t 2 (kI (pL .i64 ↑i.1 1))] (zo 2 12) [y]∧0≤(32:Int)∧∃y_1:T,F 159 [.t 22 a0,.t 2 (kI ↑i.1)] (zo 2 12) [y_1]∧(32:Int)≠(0:Int)∧0≤pG .u64 (uA a1.int (32:Int))∧(Rm ((List.take i.2.length i.2).length+((List.replicate 1 (T.i .u32 0)).set 0 (T.i .u32 (pG .u32 (sE .u64 (qv BinOp.or .u64 (zp .u64 y.int 32) y_1.int) (pG .u64 (uA a1.int (32:Int))))))).length) 4)∧∃(j:Nat×List T),I0 j∧M0 j<M0 i∧R2 a0 a1 (List.take i.2.length i.2++(List.replicate 1 (T.i .u32 0)).set 0 (T.i .u32 (pG .u32 (sE .u64 (qv BinOp.or .u64 (zp .u64 y.int 32) y_1.int) (pG .u64 (uA a1.int (32:Int))))))=j.2∧kI (pL .i64 ↑i.1 1)=kI ↑j.1∧True))∧(ltI ↑i.1 (lenOf a0.list)=false→∃y:T,F 131 [.t 22 (T.l (List.take i.2.length (List.drop 0 i.2)))] (zo 1 22) [y]∧True∧y=y0∧True)):F 162 [.t 22 a0,.t 2 a1] (zo 2 22) [y0] :=
 p7 VN (by kernel_rfl) Tryz.func162 (by kernel_rfl) (.two .no (.two .no (.two (.two .no (.lp (fun (ia:Nat×List T)=>[(pp 0,AV.t 22 a0),(pp 1,AV.t 2 a1),(pp 4,AV.t 22 (T.l [])),(pp 5,.own 22 0 ia.2),(pp 6,.t 2 (.i .i64 (ia.1:Int)))]) I0 M0 (fun _=>.no))) .no))) (by kernel_rfl) h
def Vm:Ctx:=⟨tab,sigs,66,[0,1,4,5,6,7,8,9],[pp 6],[],[],[],[]⟩
theorem Pm (a0:T) (a1:T) (y0:T) (y1:T) (I0:X2→Prop) (M0:X2→Nat) (h:(0≤lenOf a0.list∧lenOf a0.list≤lenOf a0.list∧(↑4:Int)*lenOf a0.list≤(281474976710656:Int)∧lenOf a0.list≤(9223372036854775807:Int))∧∃y:T,F 161 [.t 22 a0] (zo 1 2) [y]∧∃y_1:T,F 161 [.t 22 a1] (zo 1 2) [y_1]∧∃y_2:T,F 162 [.t 22 a0,.t 2 (kI (pL .i64 (xk (qc .i64 y.int y_1.int) (-1:Int)) (1:Int)))] (zo 2 22) [y_2]∧(∃(i:X2),I0 i∧R4 a0 a1 (List.replicate (lenOf a0.list).toNat (T.i .u32 0)=i.2.2.2∧kI (xk (qc .i64 y.int y_1.int) (-1:Int))=i.2.2.1∧y_2=i.2.1∧kI (xk (qc .i64 y.int y_1.int) (-1:Int))=kI ((↑i.1:Int)-(1:Int))∧True))∧(∀(i:X2),true=true)∧∀(i:X2),I0 i→(leI 0 ((↑i.1:Int)-(1:Int))=true→∃y:T,F 122 [.t 22 i.2.1,.t 22 i.2.1] (zo 2 22) [y]∧(32:Int)≠(0:Int)∧(Bd (uQ .i64 ((↑i.1:Int)-(1:Int)) (32:Int)) (lenOf a0.list))∧(32:Int)≠(0:Int)∧0≤pG .u64 (uA ((↑i.1:Int)-(1:Int)) (32:Int))∧(eqI (qv BinOp.and .u32 (sE .u32 ((a0.list.getD (uQ .i64 ((↑i.1:Int)-(1:Int)) (32:Int)).toNat T.u).cell 0).int (pG .u64 (uA ((↑i.1:Int)-(1:Int)) (32:Int)))) (1:Int)) (1:Int)=true→∃y_3:T,F 122 [.t 22 y,.t 22 (T.l ((List.replicate 1 (T.i .u32 0)).set 0 (T.i .u32 1)))] (zo 2 22) [y_3]∧∃y:T,F 123 [.t 22 y_3,.t 22 a1] (zo 2 2) [y]∧(leI 0 y.int=true→∃y:T,F 124 [.t 22 y_3,.t 22 a1] (zo 2 22) [y]∧(32:Int)≠(0:Int)∧(Bd (uQ .i64 ((↑i.1:Int)-(1:Int)) (32:Int)) (↑i.2.2.2.length:Int))∧(32:Int)≠(0:Int)∧0≤pG .u64 (uA ((↑i.1:Int)-(1:Int)) (32:Int))∧(Bd (uQ .i64 ((↑i.1:Int)-(1:Int)) (32:Int)) (↑i.2.2.2.length:Int))∧∃(j:X2),I0 j∧M0 j<M0 i∧R4 a0 a1 (i.2.2.2.set (0+(uQ .i64 ((↑i.1:Int)-(1:Int)) (32:Int)).toNat) (T.i .u32 (qv BinOp.or .u32 ((i.2.2.2.getD (0+(uQ .i64 ((↑i.1:Int)-(1:Int)) (32:Int)).toNat) T.u).cell 0).int (zp .u32 1 (pG .u64 (uA ((↑i.1:Int)-(1:Int)) (32:Int))))))=j.2.2.2∧i.2.2.1=j.2.2.1∧y=j.2.1∧kI (qc .i64 ((↑i.1:Int)-(1:Int)) (1:Int))=kI ((↑j.1:Int)-(1:Int))∧True))∧(leI 0 y.int=false→∃(j:X2),I0 j∧M0 j<M0 i∧R4 a0 a1 (i.2.2.2=j.2.2.2∧i.2.2.1=j.2.2.1∧y_3=j.2.1∧kI (qc .i64 ((↑i.1:Int)-(1:Int)) (1:Int))=kI ((↑j.1:Int)-(1:Int))∧True)))∧(eqI (qv BinOp.and .u32 (sE .u32 ((a0.list.getD (uQ .i64 ((↑i.1:Int)-(1:Int)) (32:Int)).toNat T.u).cell 0).int (pG .u64 (uA ((↑i.1:Int)-(1:Int)) (32:Int)))) (1:Int)) (1:Int)=false→∃y_3:T,F 123 [.t 22 y,.t 22 a1] (zo 2 2) [y_3]∧(leI 0 y_3.int=true→∃y_4:T,F 124 [.t 22 y,.t 22 a1] (zo 2 22) [y_4]∧(32:Int)≠(0:Int)∧(Bd (uQ .i64 ((↑i.1:Int)-(1:Int)) (32:Int)) (↑i.2.2.2.length:Int))∧(32:Int)≠(0:Int)∧0≤pG .u64 (uA ((↑i.1:Int)-(1:Int)) (32:Int))∧(Bd (uQ .i64 ((↑i.1:Int)-(1:Int)) (32:Int)) (↑i.2.2.2.length:Int))∧∃(j:X2),I0 j∧M0 j<M0 i∧R4 a0 a1 (i.2.2.2.set (0+(uQ .i64 ((↑i.1:Int)-(1:Int)) (32:Int)).toNat) (T.i .u32 (qv BinOp.or .u32 ((i.2.2.2.getD (0+(uQ .i64 ((↑i.1:Int)-(1:Int)) (32:Int)).toNat) T.u).cell 0).int (zp .u32 1 (pG .u64 (uA ((↑i.1:Int)-(1:Int)) (32:Int))))))=j.2.2.2∧i.2.2.1=j.2.2.1∧y_4=j.2.1∧kI (qc .i64 ((↑i.1:Int)-(1:Int)) (1:Int))=kI ((↑j.1:Int)-(1:Int))∧True))∧(leI 0 y_3.int=false→∃(j:X2),I0 j∧M0 j<M0 i∧R4 a0 a1 (i.2.2.2=j.2.2.2∧i.2.2.1=j.2.2.1∧y=j.2.1∧kI (qc .i64 ((↑i.1:Int)-(1:Int)) (1:Int))=kI ((↑j.1:Int)-(1:Int))∧True))))∧(leI 0 ((↑i.1:Int)-(1:Int))=false→∃y:T,F 131 [.t 22 (T.l (List.take i.2.2.2.length (List.drop 0 i.2.2.2)))] (zo 1 22) [y]∧True∧y=y0∧i.2.1=y1∧True)):F 129 [.t 22 a0,.t 22 a1] Z3 [y0,y1] :=
 p7 Vm (by kernel_rfl) Tryz.func129 (by kernel_rfl) (.two .no (.two .no (.two .no (.two .no (.two (.two .no (.lp (fun (ia:X2)=>[(pp 0,AV.t 22 a0),(pp 1,AV.t 22 a1),(pp 4,AV.t 22 (T.l [])),(pp 5,AV.t 22 (T.l [])),(pp 6,.own 22 0 ia.2.2.2),(pp 7,.t 2 ia.2.2.1),(pp 8,.t 22 ia.2.1),(pp 9,.t 2 (.i .i64 ((ia.1:Int)-1)))]) I0 M0 (fun _=>.no))) .no))))) (by kernel_rfl) h
def Vl:Ctx:=⟨tab,sigs,19,[0,1,4,5,6],[],[],[],[],[]⟩
theorem Pk (a0:T) (a1:T) (y0:T) (I0:(T×T)→Prop) (M0:(T×T)→Nat) (h:(∃(i:T×T),I0 i∧a0=i.1∧a1=i.2∧T.l []=T.l []∧True)∧(∀(i:T×T),true=true)∧∀(i:T×T),I0 i→(ltI 0 (lenOf i.2.list)=true→∃y y_1:T,F 129 [.t 22 i.1,.t 22 i.2] Z3 [y,y_1]∧∃(j:T×T),I0 j∧M0 j<M0 i∧i.2=j.1∧y_1=j.2∧T.l []=T.l []∧True)∧(ltI 0 (lenOf i.2.list)=false→True∧i.1=y0∧True)):F 128 [.t 22 a0,.t 22 a1] (zo 2 22) [y0] :=
 p7 Vl (by kernel_rfl) Tryz.func128 (by kernel_rfl) (.two .no (.two (.lp (fun (ia:T×T)=>[(pp 0,.t 22 ia.1),(pp 1,.t 22 ia.2),(pp 4,AV.t 22 (T.l []))]) I0 M0 (fun _=>.no)) .no)) (by kernel_rfl) h
def C92:Ctx:=⟨tab,sigs,10,[0,1,2],[],[],[],[],[]⟩
theorem Te (a0:T) (y0:T) (h:(eqI (lenOf (a0.cell 2).list) 0=true→True∧T.l ((List.replicate 1 (T.i .u32 0)).set 0 (T.i .u32 1))=y0∧True)∧(eqI (lenOf (a0.cell 2).list) 0=false→True∧a0.cell 2=y0∧True)):F 92 [.t 23 a0] (zo 1 22) [y0] :=
 p7 C92 (by kernel_rfl) Tryz.func92 (by kernel_rfl) .no (by kernel_rfl) h
def C93:Ctx:=⟨tab,sigs,10,[0,2],[],[],[],[],[]⟩
theorem Tf (a0:T) (y0:T) (h:0≤(32:Int)∧∃y:T,F 131 [.t 22 (T.l (((List.replicate 2 (T.i .u32 0)).set 0 (T.i .u32 (pG .u32 a0.int))).set 1 (T.i .u32 (pG .u32 (sE .u64 a0.int 32)))))] (zo 1 22) [y]∧True∧y=y0∧True):F 93 [.t 12 a0] (zo 1 22) [y0] :=
 p7 C93 (by kernel_rfl) Tryz.func93 (by kernel_rfl) .no (by kernel_rfl) h
def C94:Ctx:=⟨tab,sigs,12,[0,2],[],[],[],[],[]⟩
theorem Tg (a0:T) (y0:T) (h:(ltI a0.int 0=true→True∧T.i .u64 (pL .u64 (pG .u64 (qc .i64 0 (pL .i64 a0.int 1))) (1:Int))=y0∧True)∧(ltI a0.int 0=false→True∧T.i .u64 (pG .u64 a0.int)=y0∧True)):F 94 [.t 2 a0] (zo 1 12) [y0] :=
 p7 C94 (by kernel_rfl) Tryz.func94 (by kernel_rfl) .no (by kernel_rfl) h
def Vo:Ctx:=⟨tab,sigs,21,[0,2],[],[],[],[],[]⟩
theorem Po (a0:T) (y0:T) (I0:List T→Prop) (M0:List T→Nat) (h:(∃(i:List T),I0 i∧a0=T.l i∧T.l []=T.l []∧True)∧(∀(i:List T),true=true)∧∀(i:List T),I0 i→(ltI 0 (lenOf i)=true∧True→0≤qc .i64 (lenOf i) 1∧qc .i64 (lenOf i) 1<lenOf i)∧((T.ite (ltI 0 (lenOf i)) (T.b (eqI ((i.getD (qc .i64 (lenOf i) 1).toNat T.u).cell 0).int (0:Int))) (T.b false)).bool=true→(0≤(0:Int)∧0≤qc .i64 (lenOf i) 1∧qc .i64 (lenOf i) 1≤lenOf i)∧∃(j:List T),I0 j∧M0 j<M0 i∧T.l (List.take (qc .i64 (lenOf i) 1-(0:Int)).toNat (List.drop 0 i))=T.l j∧T.l []=T.l []∧True)∧((T.ite (ltI 0 (lenOf i)) (T.b (eqI ((i.getD (qc .i64 (lenOf i) 1).toNat T.u).cell 0).int (0:Int))) (T.b false)).bool=false→True∧T.l i=y0∧True)):F 131 [.t 22 a0] (zo 1 22) [y0] :=
 p7 Vo (by kernel_rfl) Tryz.func131 (by kernel_rfl) (.two .no (.two (.lp (fun (ia:List T)=>[(pp 0,.t 22 (.l ia)),(pp 2,AV.t 22 (T.l []))]) I0 M0 (fun _=>.no)) .no)) (by kernel_rfl) h
def Vn:Ctx:=⟨tab,sigs,12,[0,2],[],[],[],[],[]⟩
theorem Pn (a0:T) (y0:T) (h:(eqI (lenOf a0.list) 1=true∧True→0≤(0:Int)∧(0:Int)<lenOf a0.list)∧True∧T.ite (eqI (lenOf a0.list) 1) (T.b (eqI ((a0.list.getD (Int.toNat (0:Int)) T.u).cell 0).int (1:Int))) (T.b false)=y0∧True):F 130 [.t 22 a0] (zo 1 4) [y0] :=
 p7 Vn (by kernel_rfl) Tryz.func130 (by kernel_rfl) .no (by kernel_rfl) h
def VK:Ctx:=⟨tab,sigs,14,[0,1,4],[],[],[],[],[]⟩
theorem PH (a0:T) (a1:T) (y0:T) (h:(leI (lenOf a0.list) a1.int=true→True∧T.i .u64 0=y0∧True)∧(leI (lenOf a0.list) a1.int=false→(Bd (a1.int) (lenOf a0.list))∧True∧T.i .u64 (pG .u64 ((a0.list.getD a1.int.toNat T.u).cell 0).int)=y0∧True)):F 159 [.t 22 a0,.t 2 a1] (zo 2 12) [y0] :=
 p7 VK (by kernel_rfl) Tryz.func159 (by kernel_rfl) .no (by kernel_rfl) h
def VL:Ctx:=⟨tab,sigs,9,[0,2,3,6],[],[],[],[],[]⟩
theorem PI (a0:T) (y0:T) (h:(ltI a0.int 0=true→True∧kI (-1:Int)=y0∧True)∧(ltI a0.int 0=false→(ltI 0 a0.int=true→True∧kI 1=y0∧True)∧(ltI 0 a0.int=false→True∧kI 0=y0∧True))):F 160 [.t 2 a0] (zo 1 2) [y0] :=
 p7 VL (by kernel_rfl) Tryz.func160 (by kernel_rfl) .no (by kernel_rfl) h
def Vi:Ctx:=⟨tab,sigs,43,[0,1,4,5,6,7,8],[pp 5],[],[],[],[]⟩
theorem Ph (a0:T) (a1:T) (y0:T) (I0:X1→Prop) (M0:X1→Nat) (h:(0≤(0:Int)∧0≤pL .i64 (xk (lenOf a0.list) (lenOf a1.list)) (1:Int)∧(↑4:Int)*pL .i64 (xk (lenOf a0.list) (lenOf a1.list)) (1:Int)≤(281474976710656:Int)∧pL .i64 (xk (lenOf a0.list) (lenOf a1.list)) (1:Int)≤(9223372036854775807:Int))∧(∃(i:X1),I0 i∧R2 a0 a1 (List.replicate (Int.toNat (0:Int)) (T.i .u32 0)=i.2.2∧T.i .u64 0=T.i .u64 i.2.1∧kI 0=kI ↑i.1∧True))∧(∀(i:X1),true=true)∧∀(i:X1),I0 i→(leI ↑i.1 (xk (lenOf a0.list) (lenOf a1.list))=true→∃y:T,F 159 [.t 22 a0,.t 2 (kI ↑i.1)] (zo 2 12) [y]∧∃y_1:T,F 159 [.t 22 a1,.t 2 (kI ↑i.1)] (zo 2 12) [y_1]∧(Rm ((List.take i.2.2.length i.2.2).length+((List.replicate 1 (T.i .u32 0)).set 0 (T.i .u32 (pG .u32 (pL .u64 (pL .u64 y.int y_1.int) i.2.1)))).length) 4)∧0≤(32:Int)∧∃(j:X1),I0 j∧M0 j<M0 i∧R2 a0 a1 (List.take i.2.2.length i.2.2++(List.replicate 1 (T.i .u32 0)).set 0 (T.i .u32 (pG .u32 (pL .u64 (pL .u64 y.int y_1.int) i.2.1)))=j.2.2∧T.i .u64 (sE .u64 (pL .u64 (pL .u64 y.int y_1.int) i.2.1) (32:Int))=T.i .u64 j.2.1∧kI (pL .i64 ↑i.1 1)=kI ↑j.1∧True))∧(leI ↑i.1 (xk (lenOf a0.list) (lenOf a1.list))=false→∃y:T,F 131 [.t 22 (T.l (List.take i.2.2.length (List.drop 0 i.2.2)))] (zo 1 22) [y]∧True∧y=y0∧True)):F 122 [.t 22 a0,.t 22 a1] (zo 2 22) [y0] :=
 p7 Vi (by kernel_rfl) Tryz.func122 (by kernel_rfl) (.two .no (.two .no (.two .no (.two (.two .no (.lp (fun (ia:X1)=>[(pp 0,AV.t 22 a0),(pp 1,AV.t 22 a1),(pp 4,AV.t 22 (T.l [])),(pp 5,.own 22 0 ia.2.2),(pp 6,.t 12 (.i .u64 ia.2.1)),(pp 7,.t 2 (.i .i64 (ia.1:Int)))]) I0 M0 (fun _=>.no))) .no)))) (by kernel_rfl) h
def Vk:Ctx:=⟨tab,sigs,38,[0,1,4,5,6,7,8],[pp 5],[],[],[],[]⟩
theorem Pj (a0:T) (a1:T) (y0:T) (I0:X1→Prop) (M0:X1→Nat) (h:(0≤(0:Int)∧0≤lenOf a0.list∧(↑4:Int)*lenOf a0.list≤(281474976710656:Int)∧lenOf a0.list≤(9223372036854775807:Int))∧(∃(i:X1),I0 i∧R2 a0 a1 (List.replicate (Int.toNat (0:Int)) (T.i .u32 0)=i.2.2∧T.i .u64 0=T.i .u64 i.2.1∧kI 0=kI ↑i.1∧True))∧(∀(i:X1),true=true)∧∀(i:X1),I0 i→(ltI ↑i.1 (lenOf a0.list)=true→∃y:T,F 159 [.t 22 a0,.t 2 (kI ↑i.1)] (zo 2 12) [y]∧∃y_1:T,F 159 [.t 22 a1,.t 2 (kI ↑i.1)] (zo 2 12) [y_1]∧(Rm ((List.take i.2.2.length i.2.2).length+((List.replicate 1 (T.i .u32 0)).set 0 (T.i .u32 (pG .u32 (qc .u64 (qc .u64 (pL .u64 y.int 4294967296) y_1.int) i.2.1)))).length) 4)∧0≤(32:Int)∧∃(j:X1),I0 j∧M0 j<M0 i∧R2 a0 a1 (List.take i.2.2.length i.2.2++(List.replicate 1 (T.i .u32 0)).set 0 (T.i .u32 (pG .u32 (qc .u64 (qc .u64 (pL .u64 y.int 4294967296) y_1.int) i.2.1)))=j.2.2∧T.i .u64 (qc .u64 1 (sE .u64 (qc .u64 (qc .u64 (pL .u64 y.int 4294967296) y_1.int) i.2.1) (32:Int)))=T.i .u64 j.2.1∧kI (pL .i64 ↑i.1 1)=kI ↑j.1∧True))∧(ltI ↑i.1 (lenOf a0.list)=false→∃y:T,F 131 [.t 22 (T.l (List.take i.2.2.length (List.drop 0 i.2.2)))] (zo 1 22) [y]∧True∧y=y0∧True)):F 124 [.t 22 a0,.t 22 a1] (zo 2 22) [y0] :=
 p7 Vk (by kernel_rfl) Tryz.func124 (by kernel_rfl) (.two .no (.two .no (.two .no (.two (.two .no (.lp (fun (ia:X1)=>[(pp 0,AV.t 22 a0),(pp 1,AV.t 22 a1),(pp 4,AV.t 22 (T.l [])),(pp 5,.own 22 0 ia.2.2),(pp 6,.t 12 (.i .u64 ia.2.1)),(pp 7,.t 2 (.i .i64 (ia.1:Int)))]) I0 M0 (fun _=>.no))) .no)))) (by kernel_rfl) h
def Vj:Ctx:=⟨tab,sigs,45,[0,1,4,5],[],[],[],[],[]⟩
theorem Pi (a0:T) (a1:T) (y0:T) (I0:Nat→Prop) (M0:Nat→Nat) (h:(neI (lenOf a0.list) (lenOf a1.list)=true→∃y:T,F 160 [.t 2 (kI (qc .i64 (lenOf a0.list) (lenOf a1.list)))] (zo 1 2) [y]∧True∧y=y0∧True)∧(neI (lenOf a0.list) (lenOf a1.list)=false→(∃i:Nat,I0 i∧R5 a0 a1 (kI (qc .i64 (lenOf a0.list) 1)=kI ((↑i:Int)-(1:Int))∧True))∧(∀i:Nat,true=true)∧∀i:Nat,I0 i→(leI 0 ((↑i:Int)-(1:Int))=true→(Bd ((↑i:Int)-(1:Int)) (lenOf a0.list))∧(Bd ((↑i:Int)-(1:Int)) (lenOf a1.list))∧(neI ((a0.list.getD ((↑i:Int)-(1:Int)).toNat T.u).cell 0).int ((a1.list.getD ((↑i:Int)-(1:Int)).toNat T.u).cell 0).int=true→(Bd ((↑i:Int)-(1:Int)) (lenOf a0.list))∧(Bd ((↑i:Int)-(1:Int)) (lenOf a1.list))∧∃y:T,F 160 [.t 2 (kI (qc .i64 (pG .i64 ((a0.list.getD ((↑i:Int)-(1:Int)).toNat T.u).cell 0).int) (pG .i64 ((a1.list.getD ((↑i:Int)-(1:Int)).toNat T.u).cell 0).int)))] (zo 1 2) [y]∧True∧y=y0∧True)∧(neI ((a0.list.getD ((↑i:Int)-(1:Int)).toNat T.u).cell 0).int ((a1.list.getD ((↑i:Int)-(1:Int)).toNat T.u).cell 0).int=false→∃j:Nat,I0 j∧M0 j<M0 i∧R5 a0 a1 (kI (qc .i64 ((↑i:Int)-(1:Int)) (1:Int))=kI ((↑j:Int)-(1:Int))∧True)))∧(leI 0 ((↑i:Int)-(1:Int))=false→True∧kI 0=y0∧True))):F 123 [.t 22 a0,.t 22 a1] (zo 2 2) [y0] :=
 p7 Vj (by kernel_rfl) Tryz.func123 (by kernel_rfl) (.two .no (.two .no (.two (.two .no (.lp (fun (ia:Nat)=>[(pp 0,AV.t 22 a0),(pp 1,AV.t 22 a1),(pp 4,AV.t 2 (T.i IntKind.i64 (0:Int))),(pp 5,.t 2 (.i .i64 ((ia:Int)-1)))]) I0 M0 (fun _=>.no))) .no))) (by kernel_rfl) h
def VG:Ctx:=⟨tab,sigs,19,[0,1,4,5,6],[],[],[],[],[]⟩
theorem PE (a0:T) (a1:T) (y0:T) (I0:(T×T)→Prop) (M0:(T×T)→Nat) (h:(∃(i:T×T),I0 i∧a0=i.1∧a1=i.2∧T.l []=T.l []∧True)∧(∀(i:T×T),true=true)∧∀(i:T×T),I0 i→(ltI 0 (lenOf i.2.list)=true→∃y y_1:T,F 191 [.t 22 i.1,.t 22 i.2] Z3 [y,y_1]∧∃(j:T×T),I0 j∧M0 j<M0 i∧i.2=j.1∧y_1=j.2∧T.l []=T.l []∧True)∧(ltI 0 (lenOf i.2.list)=false→True∧i.1=y0∧True)):F 154 [.t 22 a0,.t 22 a1] (zo 2 22) [y0] :=
 p7 VG (by kernel_rfl) Tryz.func154 (by kernel_rfl) (.two .no (.two (.lp (fun (ia:T×T)=>[(pp 0,.t 22 ia.1),(pp 1,.t 22 ia.2),(pp 4,AV.t 22 (T.l []))]) I0 M0 (fun _=>.no)) .no)) (by kernel_rfl) h
def Wh:Ctx:=⟨tab,sigs,111,[0,1,4,5,6,7,8,9,10,11,12,13,14],[pp 4],[],[],[],[]⟩
theorem P7 (a0:T) (a1:T) (y0:T) (y1:T) (I0:X3→Prop) (M0:X3→Nat) (I1:X3→(Int×T)→Prop) (M1:X3→(Int×T)→Nat) (h:(eqI (lenOf a1.list) 1=true→(Bd (0:Int) (lenOf a1.list))∧∃y y_1:T,F 205 [.t 22 a0,.t 155 ((a1.list.getD (Int.toNat (0:Int)) T.u).cell 0)] Z4 [y,y_1]∧∃y_2:T,F 189 [.t 22 (T.l ((List.replicate 1 (T.i .u32 0)).set 0 y_1))] (zo 1 22) [y_2]∧True∧y=y0∧y_2=y1∧True)∧(eqI (lenOf a1.list) 1=false→∃y:T,F 206 [.t 22 a1] (zo 1 2) [y]∧∃y_1:T,F 207 [.t 22 a0,.t 2 (kI (qc .i64 (zk .i64 32 (lenOf a1.list)) y.int))] (zo 2 22) [y_1]∧∃y_2:T,F 207 [.t 22 a1,.t 2 (kI (qc .i64 (zk .i64 32 (lenOf a1.list)) y.int))] (zo 2 22) [y_2]∧(0≤xk (0:Int) (pL .i64 (qc .i64 (lenOf y_1.list) (lenOf y_2.list)) (1:Int))∧xk (0:Int) (pL .i64 (qc .i64 (lenOf y_1.list) (lenOf y_2.list)) (1:Int))≤xk (0:Int) (pL .i64 (qc .i64 (lenOf y_1.list) (lenOf y_2.list)) (1:Int))∧(↑4:Int)*xk (0:Int) (pL .i64 (qc .i64 (lenOf y_1.list) (lenOf y_2.list)) (1:Int))≤(281474976710656:Int)∧xk (0:Int) (pL .i64 (qc .i64 (lenOf y_1.list) (lenOf y_2.list)) (1:Int))≤(9223372036854775807:Int))∧(∃(i:X3),I0 i∧a0=a0∧a1=a1∧List.replicate (xk (0:Int) (pL .i64 (qc .i64 (lenOf y_1.list) (lenOf y_2.list)) (1:Int))).toNat (T.i .u32 0)=i.2.2.2.2∧T.l []=T.l []∧kI (qc .i64 (zk .i64 32 (lenOf a1.list)) y.int)=i.2.2.2.1∧y_1=i.2.1∧y_2=i.2.2.1∧kI (qc .i64 (↑(List.replicate (xk (0:Int) (pL .i64 (qc .i64 (lenOf y_1.list) (lenOf y_2.list)) (1:Int))).toNat (T.i .u32 0)).length:Int) (1:Int))=kI ((↑i.1:Int)-(1:Int))∧True)∧(∀(i:X3),true=true)∧∀(i:X3),I0 i→(leI 0 ((↑i.1:Int)-(1:Int))=true→∃y:T,F 192 [.t 22 i.2.1,.t 2 (kI (pL .i64 ((↑i.1:Int)-(1:Int)) (lenOf i.2.2.1.list)))] (zo 2 12) [y]∧0≤(32:Int)∧∃y_3:T,F 192 [.t 22 i.2.1,.t 2 (kI (qc .i64 (pL .i64 ((↑i.1:Int)-(1:Int)) (lenOf i.2.2.1.list)) (1:Int)))] (zo 2 12) [y_3]∧∃y_4:T,F 192 [.t 22 i.2.2.1,.t 2 (kI (qc .i64 (lenOf i.2.2.1.list) 1))] (zo 2 12) [y_4]∧y_4.int≠(0:Int)∧∃y_5:T,F 189 [.t 22 (T.l ((List.replicate 1 (T.i .u32 0)).set 0 (T.i .u32 (pG .u32 (xT (uQ .u64 (qv BinOp.or .u64 (zp .u64 y.int 32) y_3.int) y_4.int) (4294967295:Int))))))] (zo 1 22) [y_5]∧∃y_6:T,F 196 [.t 22 i.2.2.1,.t 22 y_5] (zo 2 22) [y_6]∧∃y_7:T,F 207 [.t 22 y_6,.t 2 (kI (zk .i64 32 ((↑i.1:Int)-(1:Int))))] (zo 2 22) [y_7]∧(∃(i_1:Int×T),I1 i i_1∧R6 a0 a1 i.2.2.2.2 i.2.2.2.1 i.2.1 i.2.2.1 i.1 (T.i .u64 (xT (uQ .u64 (qv BinOp.or .u64 (zp .u64 y.int 32) y_3.int) y_4.int) (4294967295:Int))=T.i .u64 i_1.1∧y_7=i_1.2∧True))∧(∀(i:Int×T),true=true)∧∀(i_1:Int×T),I1 i i_1→∃y:T,F 152 [.t 22 i.2.1,.t 22 i_1.2] (zo 2 2) [y]∧(ltI y.int 0=true→∃y:T,F 207 [.t 22 i.2.2.1,.t 2 (kI (zk .i64 32 ((↑i.1:Int)-(1:Int))))] (zo 2 22) [y]∧∃y_8:T,F 208 [.t 22 i_1.2,.t 22 y] (zo 2 22) [y_8]∧∃(j:Int×T),I1 i j∧M1 i j<M1 i i_1∧R6 a0 a1 i.2.2.2.2 i.2.2.2.1 i.2.1 i.2.2.1 i.1 (T.i .u64 (qc .u64 i_1.1 1)=T.i .u64 j.1∧y_8=j.2∧True))∧(ltI y.int 0=false→∃y:T,F 208 [.t 22 i.2.1,.t 22 i_1.2] (zo 2 22) [y]∧(Bd ((↑i.1:Int)-(1:Int)) (↑i.2.2.2.2.length:Int))∧∃(j:X3),I0 j∧M0 j<M0 i∧a0=a0∧a1=a1∧i.2.2.2.2.set (0+((↑i.1:Int)-(1:Int)).toNat) (T.i .u32 (pG .u32 i_1.1))=j.2.2.2.2∧T.l []=T.l []∧i.2.2.2.1=j.2.2.2.1∧y=j.2.1∧i.2.2.1=j.2.2.1∧kI (qc .i64 ((↑i.1:Int)-(1:Int)) (1:Int))=kI ((↑j.1:Int)-(1:Int))∧True))∧(leI 0 ((↑i.1:Int)-(1:Int))=false→∃y:T,F 189 [.t 22 (T.l (List.take i.2.2.2.2.length (List.drop 0 i.2.2.2.2)))] (zo 1 22) [y]∧∃y_3:T,F 209 [.t 22 i.2.1,.t 2 i.2.2.2.1] (zo 2 22) [y_3]∧True∧y=y0∧y_3=y1∧True))):F 191 [.t 22 a0,.t 22 a1] Z3 [y0,y1] :=
 p7 Wh (by kernel_rfl) Tryz.func191 (by kernel_rfl) (.two .no (.two .no (.two .no (.two .no (.two .no (.two (.two .no (.lp (fun (ia:X3)=>[(pp 0,AV.t 22 a0),(pp 1,AV.t 22 a1),(pp 4,.own 22 0 ia.2.2.2.2),(pp 5,AV.t 22 (T.l [])),(pp 8,.t 2 ia.2.2.2.1),(pp 9,.t 22 ia.2.1),(pp 10,.t 22 ia.2.2.1),(pp 11,.t 2 (.i .i64 ((ia.1:Int)-1)))]) I0 M0 (fun (ia:X3)=>(.two .no (.two (.two .no (.two .no (.two .no (.two (.lp (fun (ib:Int×T)=>[(pp 0,AV.t 22 a0),(pp 1,AV.t 22 a1),(pp 4,AV.own 22 0 ia.2.2.2.2),(pp 5,AV.t 22 (T.l [])),(pp 8,AV.t 2 ia.2.2.2.1),(pp 9,AV.t 22 ia.2.1),(pp 10,AV.t 22 ia.2.2.1),(pp 11,AV.t 2 (T.i IntKind.i64 ((↑ia.1:Int)-(1:Int)))),(pp 12,AV.t 2 (T.i IntKind.i64 (pL IntKind.i64 ((↑ia.1:Int)-(1:Int)) (lenOf ia.2.2.1.list)))),(pp 13,.t 12 (.i .u64 ib.1)),(pp 14,.t 22 ib.2)]) (I1 ia) (M1 ia) (fun _=>.no)) .no)))) .no))))) .no)))))) (by kernel_rfl) h
def Wx:Ctx:=⟨tab,sigs,6,[0,2],[],[],[],[],[]⟩
theorem Qk (a0:T) (y0:T) (h:∃y:T,F 216 [.t 155 a0] (zo 1 2) [y]∧True∧kI (qc .i64 32 y.int)=y0∧True):F 214 [.t 155 a0] (zo 1 2) [y0] :=
 p7 Wx (by kernel_rfl) Tryz.func214 (by kernel_rfl) .no (by kernel_rfl) h
def Wy:Ctx:=⟨tab,sigs,19,[0,2],[],[],[],[],[]⟩
def vO:List Nat:=[0,1,2,2,3,3,3,3,4,4,4,4,4,4,4,4,5,5,5,5,5,5,5,5,5,5,5,5,5,5,5,5,6,6,6,6,6,6,6,6,6,6,6,6,6,6,6,6,6,6,6,6,6,6,6,6,6,6,6,6,6,6,6,6,7,7,7,7,7,7,7,7,7,7,7,7,7,7,7,7,7,7,7,7,7,7,7,7,7,7,7,7,7,7,7,7,7,7,7,7,7,7,7,7,7,7,7,7,7,7,7,7,7,7,7,7,7,7,7,7,7,7,7,7,7,7,7,7,8,8,8,8,8,8,8,8,8,8,8,8,8,8,8,8,8,8,8,8,8,8,8,8,8,8,8,8,8,8,8,8,8,8,8,8,8,8,8,8,8,8,8,8,8,8,8,8,8,8,8,8,8,8,8,8,8,8,8,8,8,8,8,8,8,8,8,8,8,8,8,8,8,8,8,8,8,8,8,8,8,8,8,8,8,8,8,8,8,8,8,8,8,8,8,8,8,8,8,8,8,8,8,8,8,8,8,8,8,8,8,8,8,8,8,8,8,8,8,8,8,8,8,8,8,8,8,8]
theorem Ql (a0:T) (y0:T) (h:(leI 65536 a0.int=true→0≤(16:Int)∧(leI 256 (sE .u32 a0.int 16)=true→0≤(8:Int)∧(Bd (pG .u8 (sE .u32 (sE .u32 a0.int 16) (8:Int))) (↑(bs vO).size:Int))∧True∧kI (pL .i64 (pL .i64 16 8) (pG .i64 (Ak (bs vO) (pG .u8 (sE .u32 (sE .u32 a0.int 16) (8:Int))))))=y0∧True)∧(leI 256 (sE .u32 a0.int 16)=false→(Bd (pG .u8 (sE .u32 a0.int 16)) (↑(bs vO).size:Int))∧True∧kI (pL .i64 16 (pG .i64 (Ak (bs vO) (pG .u8 (sE .u32 a0.int 16)))))=y0∧True))∧(leI 65536 a0.int=false→(leI 256 a0.int=true→0≤(8:Int)∧(Bd (pG .u8 (sE .u32 a0.int 8)) (↑(bs vO).size:Int))∧True∧kI (pL .i64 (pL .i64 0 8) (pG .i64 (Ak (bs vO) (pG .u8 (sE .u32 a0.int 8)))))=y0∧True)∧(leI 256 a0.int=false→(Bd (pG .u8 a0.int) (↑(bs vO).size:Int))∧True∧kI (pL .i64 0 (pG .i64 (Ak (bs vO) (pG .u8 a0.int))))=y0∧True))):F 216 [.t 155 a0] (zo 1 2) [y0] :=
 p7 Wy (by kernel_rfl) Tryz.func216 (by kernel_rfl) .no (by kernel_rfl) h
def Wr:Ctx:=⟨tab,sigs,43,[0,1,4,5,6,7,8],[pp 6],[],[],[],[]⟩
theorem Qe (a0:T) (a1:T) (y0:T) (y1:T) (I0:X1→Prop) (M0:X1→Nat) (h:(0≤lenOf a0.list∧lenOf a0.list≤lenOf a0.list∧(↑4:Int)*lenOf a0.list≤(281474976710656:Int)∧lenOf a0.list≤(9223372036854775807:Int))∧(∃(i:X1),I0 i∧R2 a0 a1 (T.i .u32 0=T.i .u32 0∧List.replicate (lenOf a0.list).toNat (T.i .u32 0)=i.2.2∧T.i .u64 0=T.i .u64 i.2.1∧kI (qc .i64 (lenOf a0.list) 1)=kI ((↑i.1:Int)-(1:Int))∧True))∧(∀(i:X1),true=true)∧∀(i:X1),I0 i→(leI 0 ((↑i.1:Int)-(1:Int))=true→0≤(32:Int)∧(Bd ((↑i.1:Int)-(1:Int)) (lenOf a0.list))∧pG .u64 a1.int≠(0:Int)∧(Bd ((↑i.1:Int)-(1:Int)) (↑i.2.2.length:Int))∧pG .u64 a1.int≠(0:Int)∧∃(j:X1),I0 j∧M0 j<M0 i∧R2 a0 a1 (T.i .u32 0=T.i .u32 0∧i.2.2.set (0+((↑i.1:Int)-(1:Int)).toNat) (T.i .u32 (pG .u32 (uQ .u64 (qv BinOp.or .u64 (zp .u64 i.2.1 32) (pG .u64 ((a0.list.getD ((↑i.1:Int)-(1:Int)).toNat T.u).cell 0).int)) (pG .u64 a1.int))))=j.2.2∧T.i .u64 (uA (qv BinOp.or .u64 (zp .u64 i.2.1 32) (pG .u64 ((a0.list.getD ((↑i.1:Int)-(1:Int)).toNat T.u).cell 0).int)) (pG .u64 a1.int))=T.i .u64 j.2.1∧kI (qc .i64 ((↑i.1:Int)-(1:Int)) (1:Int))=kI ((↑j.1:Int)-(1:Int))∧True))∧(leI 0 ((↑i.1:Int)-(1:Int))=false→∃y:T,F 189 [.t 22 (T.l (List.take i.2.2.length (List.drop 0 i.2.2)))] (zo 1 22) [y]∧True∧y=y0∧T.i .u32 (pG .u32 i.2.1)=y1∧True)):F 205 [.t 22 a0,.t 155 a1] Z4 [y0,y1] :=
 p7 Wr (by kernel_rfl) Tryz.func205 (by kernel_rfl) (.two .no (.two .no (.two (.two .no (.lp (fun (ia:X1)=>[(pp 0,AV.t 22 a0),(pp 1,AV.t 155 a1),(pp 4,AV.t 22 (T.l [])),(pp 5,AV.t 155 (T.i IntKind.u32 (0:Int))),(pp 6,.own 22 0 ia.2.2),(pp 7,.t 12 (.i .u64 ia.2.1)),(pp 8,.t 2 (.i .i64 ((ia.1:Int)-1)))]) I0 M0 (fun _=>.no))) .no))) (by kernel_rfl) h
def Wt:Ctx:=⟨tab,sigs,45,[0,1,4,5,6,8,18,19,20],[pp 5],[],[],[],[]⟩
theorem Qg (a0:T) (a1:T) (y0:T) (I0:X1→Prop) (M0:X1→Nat) (h:(32:Int)≠(0:Int)∧(32:Int)≠(0:Int)∧(0≤uQ .i64 a1.int 32∧uQ .i64 a1.int 32≤pL .i64 (pL .i64 (uQ .i64 a1.int 32) (lenOf a0.list)) (1:Int)∧(↑4:Int)*pL .i64 (pL .i64 (uQ .i64 a1.int 32) (lenOf a0.list)) (1:Int)≤(281474976710656:Int)∧pL .i64 (pL .i64 (uQ .i64 a1.int 32) (lenOf a0.list)) (1:Int)≤(9223372036854775807:Int))∧(∃(i:X1),I0 i∧R2 a0 a1 (List.replicate (uQ .i64 a1.int 32).toNat (T.i .u32 0)=i.2.2∧T.i .u64 0=T.i .u64 i.2.1∧R7 a0 (kI 0=kI ↑i.1∧True)))∧(∀(i:X1),true=true)∧∀(i:X1),I0 i→(ltI ↑i.1 (lenOf a0.list)=true→(Bd ↑i.1 (lenOf a0.list))∧(32:Int)≠(0:Int)∧0≤uA a1.int (32:Int)∧(Rm ((List.take i.2.2.length i.2.2).length+((List.replicate 1 (T.i .u32 0)).set 0 (T.i .u32 (pG .u32 (qv BinOp.or .u64 i.2.1 (zp .u64 (pG .u64 ((a0.list.getD (↑i.1:Int).toNat T.u).cell 0).int) (uA a1.int (32:Int))))))).length) 4)∧0≤(32:Int)∧∃(j:X1),I0 j∧M0 j<M0 i∧R2 a0 a1 (List.take i.2.2.length i.2.2++(List.replicate 1 (T.i .u32 0)).set 0 (T.i .u32 (pG .u32 (qv BinOp.or .u64 i.2.1 (zp .u64 (pG .u64 ((a0.list.getD (↑i.1:Int).toNat T.u).cell 0).int) (uA a1.int (32:Int))))))=j.2.2∧T.i .u64 (sE .u64 (qv BinOp.or .u64 i.2.1 (zp .u64 (pG .u64 ((a0.list.getD (↑i.1:Int).toNat T.u).cell 0).int) (uA a1.int (32:Int)))) (32:Int))=T.i .u64 j.2.1∧R7 a0 (kI (pL .i64 ↑i.1 1)=kI ↑j.1∧True)))∧(ltI ↑i.1 (lenOf a0.list)=false→(Rm ((List.take i.2.2.length i.2.2).length+((List.replicate 1 (T.i .u32 0)).set 0 (T.i .u32 (pG .u32 i.2.1))).length) 4)∧∃y:T,F 189 [.t 22 (T.l (List.take i.2.2.length i.2.2++(List.replicate 1 (T.i .u32 0)).set 0 (T.i .u32 (pG .u32 i.2.1))))] (zo 1 22) [y]∧True∧y=y0∧True)):F 207 [.t 22 a0,.t 2 a1] (zo 2 22) [y0] :=
 p7 Wt (by kernel_rfl) Tryz.func207 (by kernel_rfl) (.two .no (.two .no (.two .no (.two (.two .no (.lp (fun (ia:X1)=>[(pp 0,AV.t 22 a0),(pp 1,AV.t 2 a1),(pp 4,AV.t 22 (T.l [])),(pp 5,.own 22 0 ia.2.2),(pp 6,.t 12 (.i .u64 ia.2.1)),(pp 18,AV.t 22 a0),(pp 19,AV.t 2 (T.i IntKind.i64 (lenOf a0.list))),(pp 20,.t 2 (.i .i64 (ia.1:Int)))]) I0 M0 (fun _=>.no))) .no)))) (by kernel_rfl) h
def Wv:Ctx:=⟨tab,sigs,33,[0,1,4,5,6],[pp 5],[],[],[],[]⟩
theorem Qi (a0:T) (a1:T) (y0:T) (I0:(Nat×List T)→Prop) (M0:(Nat×List T)→Nat) (h:(32:Int)≠(0:Int)∧(∃(i:Nat×List T),I0 i∧R2 a0 a1 ([]=i.2∧kI (uQ .i64 a1.int 32)=kI ↑i.1∧True))∧(∀(i:Nat×List T),true=true)∧∀(i:Nat×List T),I0 i→(ltI ↑i.1 (lenOf a0.list)=true→∃y:T,F 192 [.t 22 a0,.t 2 (kI (pL .i64 ↑i.1 1))] (zo 2 12) [y]∧0≤(32:Int)∧∃y_1:T,F 192 [.t 22 a0,.t 2 (kI ↑i.1)] (zo 2 12) [y_1]∧(32:Int)≠(0:Int)∧0≤uA a1.int (32:Int)∧(Rm ((List.take i.2.length i.2).length+((List.replicate 1 (T.i .u32 0)).set 0 (T.i .u32 (pG .u32 (sE .u64 (qv BinOp.or .u64 (zp .u64 y.int 32) y_1.int) (uA a1.int (32:Int)))))).length) 4)∧∃(j:Nat×List T),I0 j∧M0 j<M0 i∧R2 a0 a1 (List.take i.2.length i.2++(List.replicate 1 (T.i .u32 0)).set 0 (T.i .u32 (pG .u32 (sE .u64 (qv BinOp.or .u64 (zp .u64 y.int 32) y_1.int) (uA a1.int (32:Int)))))=j.2∧kI (pL .i64 ↑i.1 1)=kI ↑j.1∧True))∧(ltI ↑i.1 (lenOf a0.list)=false→∃y:T,F 189 [.t 22 (T.l (List.take i.2.length (List.drop 0 i.2)))] (zo 1 22) [y]∧True∧y=y0∧True)):F 209 [.t 22 a0,.t 2 a1] (zo 2 22) [y0] :=
 p7 Wv (by kernel_rfl) Tryz.func209 (by kernel_rfl) (.two .no (.two .no (.two (.two .no (.lp (fun (ia:Nat×List T)=>[(pp 0,AV.t 22 a0),(pp 1,AV.t 2 a1),(pp 4,AV.t 22 (T.l [])),(pp 5,.own 22 0 ia.2),(pp 6,.t 2 (.i .i64 (ia.1:Int)))]) I0 M0 (fun _=>.no))) .no))) (by kernel_rfl) h
def Wu:Ctx:=⟨tab,sigs,36,[0,1,4,5,6,7,8,13,14],[pp 5],[],[],[],[]⟩
theorem Qh (a0:T) (a1:T) (y0:T) (I0:X1→Prop) (M0:X1→Nat) (h:(0≤lenOf a0.list∧lenOf a0.list≤lenOf a0.list∧(↑4:Int)*lenOf a0.list≤(281474976710656:Int)∧lenOf a0.list≤(9223372036854775807:Int))∧(∃(i:X1),I0 i∧R2 a0 a1 (List.replicate (lenOf a0.list).toNat (T.i .u32 0)=i.2.2∧T.i .u64 0=T.i .u64 i.2.1∧kI (lenOf a0.list)=kI (lenOf a0.list)∧kI 0=kI ↑i.1∧True))∧(∀(i:X1),true=true)∧∀(i:X1),I0 i→(ltI ↑i.1 (lenOf a0.list)=true→∃y:T,F 192 [.t 22 a0,.t 2 (kI ↑i.1)] (zo 2 12) [y]∧∃y_1:T,F 192 [.t 22 a1,.t 2 (kI ↑i.1)] (zo 2 12) [y_1]∧0≤(63:Int)∧(Bd ↑i.1 (↑i.2.2.length:Int))∧∃(j:X1),I0 j∧M0 j<M0 i∧R2 a0 a1 (i.2.2.set (0+(↑i.1:Int).toNat) (T.i .u32 (pG .u32 (qc .u64 (qc .u64 y.int y_1.int) i.2.1)))=j.2.2∧T.i .u64 (sE .u64 (qc .u64 (qc .u64 y.int y_1.int) i.2.1) (63:Int))=T.i .u64 j.2.1∧kI (lenOf a0.list)=kI (lenOf a0.list)∧kI (pL .i64 ↑i.1 1)=kI ↑j.1∧True))∧(ltI ↑i.1 (lenOf a0.list)=false→∃y:T,F 189 [.t 22 (T.l (List.take i.2.2.length (List.drop 0 i.2.2)))] (zo 1 22) [y]∧True∧y=y0∧True)):F 208 [.t 22 a0,.t 22 a1] (zo 2 22) [y0] :=
 p7 Wu (by kernel_rfl) Tryz.func208 (by kernel_rfl) (.two .no (.two .no (.two .no (.two (.two .no (.lp (fun (ia:X1)=>[(pp 0,AV.t 22 a0),(pp 1,AV.t 22 a1),(pp 4,AV.t 22 (T.l [])),(pp 5,.own 22 0 ia.2.2),(pp 6,.t 12 (.i .u64 ia.2.1)),(pp 13,AV.t 2 (T.i IntKind.i64 (lenOf a0.list))),(pp 14,.t 2 (.i .i64 (ia.1:Int)))]) I0 M0 (fun _=>.no))) .no)))) (by kernel_rfl) h
def Wn:Ctx:=⟨tab,sigs,59,[0,1,4,5,6,7,8,16,17],[pp 5],[],[],[],[]⟩
theorem Qa (a0:T) (a1:T) (y0:T) (I0:(Nat×List T)→Prop) (M0:(Nat×List T)→Nat) (I1:(Nat×List T)→X1→Prop) (M1:(Nat×List T)→X1→Nat) (h:(0≤pL .i64 (lenOf a0.list) (lenOf a1.list)∧pL .i64 (lenOf a0.list) (lenOf a1.list)≤pL .i64 (lenOf a0.list) (lenOf a1.list)∧(↑4:Int)*pL .i64 (lenOf a0.list) (lenOf a1.list)≤(281474976710656:Int)∧pL .i64 (lenOf a0.list) (lenOf a1.list)≤(9223372036854775807:Int))∧(∃(i:Nat×List T),I0 i∧R2 a0 a1 (List.replicate (pL .i64 (lenOf a0.list) (lenOf a1.list)).toNat (T.i .u32 0)=i.2∧kI (lenOf a0.list)=kI (lenOf a0.list)∧kI 0=kI ↑i.1∧True))∧(∀(i:Nat×List T),true=true)∧∀(i:Nat×List T),I0 i→(ltI ↑i.1 (lenOf a0.list)=true→(∃(i_1:X1),I1 i i_1∧R2 a0 a1 (i.2=i_1.2.2∧R8 a0 i.1 (T.i .u64 0=T.i .u64 i_1.2.1∧kI 0=kI ↑i_1.1∧True)))∧(∀(i:X1),true=true)∧∀(i_1:X1),I1 i i_1→((T.ite (ltI ↑i_1.1 (lenOf a1.list)) (T.b true) (T.b (ltI 0 i_1.2.1))).bool=true→(Bd (pL .i64 ↑i.1 (↑i_1.1:Int)) (↑i_1.2.2.length:Int))∧∃y:T,F 192 [.t 22 a0,.t 2 (kI ↑i.1)] (zo 2 12) [y]∧∃y_1:T,F 192 [.t 22 a1,.t 2 (kI ↑i_1.1)] (zo 2 12) [y_1]∧(Bd (pL .i64 ↑i.1 (↑i_1.1:Int)) (↑i_1.2.2.length:Int))∧0≤(32:Int)∧∃(j:X1),I1 i j∧M1 i j<M1 i i_1∧R2 a0 a1 (i_1.2.2.set (0+(pL .i64 ↑i.1 (↑i_1.1:Int)).toNat) (T.i .u32 (pG .u32 (pL .u64 i_1.2.1 (pL .u64 (pG .u64 ((i_1.2.2.getD (0+(pL .i64 ↑i.1 (↑i_1.1:Int)).toNat) T.u).cell 0).int) (zk .u64 y.int y_1.int)))))=j.2.2∧R8 a0 i.1 (T.i .u64 (sE .u64 (pL .u64 i_1.2.1 (pL .u64 (pG .u64 ((i_1.2.2.getD (0+(pL .i64 ↑i.1 (↑i_1.1:Int)).toNat) T.u).cell 0).int) (zk .u64 y.int y_1.int))) (32:Int))=T.i .u64 j.2.1∧kI (pL .i64 ↑i_1.1 1)=kI ↑j.1∧True)))∧((T.ite (ltI ↑i_1.1 (lenOf a1.list)) (T.b true) (T.b (ltI 0 i_1.2.1))).bool=false→∃(j:Nat×List T),I0 j∧M0 j<M0 i∧R2 a0 a1 (i_1.2.2=j.2∧kI (lenOf a0.list)=kI (lenOf a0.list)∧kI (pL .i64 ↑i.1 1)=kI ↑j.1∧True)))∧(ltI ↑i.1 (lenOf a0.list)=false→∃y:T,F 189 [.t 22 (T.l (List.take i.2.length (List.drop 0 i.2)))] (zo 1 22) [y]∧True∧y=y0∧True)):F 196 [.t 22 a0,.t 22 a1] (zo 2 22) [y0] :=
 p7 Wn (by kernel_rfl) Tryz.func196 (by kernel_rfl) (.two .no (.two .no (.two (.two .no (.lp (fun (ia:Nat×List T)=>[(pp 0,AV.t 22 a0),(pp 1,AV.t 22 a1),(pp 4,AV.t 22 (T.l [])),(pp 5,.own 22 0 ia.2),(pp 16,AV.t 2 (T.i IntKind.i64 (lenOf a0.list))),(pp 17,.t 2 (.i .i64 (ia.1:Int)))]) I0 M0 (fun (ia:Nat×List T)=>(.two .no (.two .no (.two (.two .no (.two .no (.two .no (.lp (fun (ib:X1)=>[(pp 0,AV.t 22 a0),(pp 1,AV.t 22 a1),(pp 4,AV.t 22 (T.l [])),(pp 5,.own 22 0 ib.2.2),(pp 16,AV.t 2 (T.i IntKind.i64 (lenOf a0.list))),(pp 17,AV.t 2 (T.i IntKind.i64 (↑ia.1:Int))),(pp 6,AV.t 2 (T.i IntKind.i64 (↑ia.1:Int))),(pp 7,.t 12 (.i .u64 ib.2.1)),(pp 8,.t 2 (.i .i64 (ib.1:Int)))]) (I1 ia) (M1 ia) (fun _=>.no))))) .no)))))) .no))) (by kernel_rfl) h
def Ws:Ctx:=⟨tab,sigs,17,[0,2],[],[],[],[],[]⟩
theorem Qf (a0:T) (y0:T) (h:(eqI (lenOf a0.list) 0=true→True∧kI 0=y0∧True)∧(eqI (lenOf a0.list) 0=false→(Bd (qc .i64 (lenOf a0.list) 1) (lenOf a0.list))∧∃y:T,F 214 [.t 155 ((a0.list.getD (qc .i64 (lenOf a0.list) 1).toNat T.u).cell 0)] (zo 1 2) [y]∧True∧kI (qc .i64 (zk .i64 32 (lenOf a0.list)) y.int)=y0∧True)):F 206 [.t 22 a0] (zo 1 2) [y0] :=
 p7 Ws (by kernel_rfl) Tryz.func206 (by kernel_rfl) .no (by kernel_rfl) h
def VF:Ctx:=⟨tab,sigs,2,[0],[],[],[],[],[]⟩
theorem PD  (y0:T) (h:True∧T.l ((List.replicate 1 (T.i .u32 0)).set 0 (T.i .u32 1))=y0∧True):F 153 [] (zo 0 22) [y0] :=
 p7 VF (by kernel_rfl) Tryz.func153 (by kernel_rfl) .no (by kernel_rfl) h
def We:Ctx:=⟨tab,sigs,21,[0,2],[],[],[],[],[]⟩
theorem P5 (a0:T) (y0:T) (I0:List T→Prop) (M0:List T→Nat) (h:(∃(i:List T),I0 i∧a0=T.l i∧T.l []=T.l []∧True)∧(∀(i:List T),true=true)∧∀(i:List T),I0 i→(ltI 0 (lenOf i)=true∧True→0≤qc .i64 (lenOf i) 1∧qc .i64 (lenOf i) 1<lenOf i)∧((T.ite (ltI 0 (lenOf i)) (T.b (eqI ((i.getD (qc .i64 (lenOf i) 1).toNat T.u).cell 0).int (0:Int))) (T.b false)).bool=true→(0≤(0:Int)∧0≤qc .i64 (lenOf i) 1∧qc .i64 (lenOf i) 1≤lenOf i)∧∃(j:List T),I0 j∧M0 j<M0 i∧T.l (List.take (qc .i64 (lenOf i) 1-(0:Int)).toNat (List.drop 0 i))=T.l j∧T.l []=T.l []∧True)∧((T.ite (ltI 0 (lenOf i)) (T.b (eqI ((i.getD (qc .i64 (lenOf i) 1).toNat T.u).cell 0).int (0:Int))) (T.b false)).bool=false→True∧T.l i=y0∧True)):F 189 [.t 22 a0] (zo 1 22) [y0] :=
 p7 We (by kernel_rfl) Tryz.func189 (by kernel_rfl) (.two .no (.two (.lp (fun (ia:List T)=>[(pp 0,.t 22 (.l ia)),(pp 2,AV.t 22 (T.l []))]) I0 M0 (fun _=>.no)) .no)) (by kernel_rfl) h
def Wi:Ctx:=⟨tab,sigs,14,[0,1,4],[],[],[],[],[]⟩
theorem P8 (a0:T) (a1:T) (y0:T) (h:(ltI a1.int (lenOf a0.list)=true→(Bd (a1.int) (lenOf a0.list))∧True∧T.i .u64 (pG .u64 ((a0.list.getD a1.int.toNat T.u).cell 0).int)=y0∧True)∧(ltI a1.int (lenOf a0.list)=false→True∧T.i .u64 0=y0∧True)):F 192 [.t 22 a0,.t 2 a1] (zo 2 12) [y0] :=
 p7 Wi (by kernel_rfl) Tryz.func192 (by kernel_rfl) .no (by kernel_rfl) h
def VE:Ctx:=⟨tab,sigs,34,[0,1,4,5,6,7],[],[],[],[],[]⟩
theorem PC (a0:T) (a1:T) (y0:T) (I0:Nat→Prop) (M0:Nat→Nat) (h:(∃i:Nat,I0 i∧R5 a0 a1 (kI (qc .i64 (xk (lenOf a0.list) (lenOf a1.list)) (1:Int))=kI (↑i-(1:Int))∧True))∧(∀i:Nat,true=true)∧∀i:Nat,I0 i→(leI 0 (↑i-(1:Int))=true→∃y:T,F 192 [.t 22 a0,.t 2 (kI (↑i-(1:Int)))] (zo 2 12) [y]∧∃y_1:T,F 192 [.t 22 a1,.t 2 (kI (↑i-(1:Int)))] (zo 2 12) [y_1]∧(neI y.int y_1.int=true→0≤(63:Int)∧True∧kI (qc .i64 1 (zk .i64 2 (pG .i64 (sE .u64 (qc .u64 y.int y_1.int) 63))))=y0∧True)∧(neI y.int y_1.int=false→∃j:Nat,I0 j∧M0 j<M0 i∧R5 a0 a1 (kI (qc .i64 (↑i-(1:Int)) (1:Int))=kI (↑j-(1:Int))∧True)))∧(leI 0 (↑i-(1:Int))=false→True∧kI 0=y0∧True)):F 152 [.t 22 a0,.t 22 a1] (zo 2 2) [y0] :=
 p7 VE (by kernel_rfl) Tryz.func152 (by kernel_rfl) (.two .no (.two (.two .no (.lp (fun (ia:Nat)=>[(pp 0,AV.t 22 a0),(pp 1,AV.t 22 a1),(pp 4,AV.t 2 (T.i IntKind.i64 (0:Int))),(pp 5,.t 2 (.i .i64 ((ia:Int)-1)))]) I0 M0 (fun _=>.no))) .no)) (by kernel_rfl) h
def Ww:Ctx:=⟨tab,sigs,39,[0,1,4,5,6,7],[pp 5],[],[],[],[]⟩
theorem Qj (a0:T) (a1:T) (y0:T) (I0:X1→Prop) (M0:X1→Nat) (h:(∃(i:X1),I0 i∧R2 a0 a1 ([]=i.2.2∧T.i .u64 0=T.i .u64 i.2.1∧kI 0=kI ↑i.1∧True))∧(∀(i:X1),true=true)∧∀(i:X1),I0 i→((T.ite (ltI (↑i.1) (xk (lenOf a0.list) (lenOf a1.list))) (T.b true) (T.b (ltI 0 i.2.1))).bool=true→∃y:T,F 192 [.t 22 a0,.t 2 (kI ↑i.1)] (zo 2 12) [y]∧∃y_1:T,F 192 [.t 22 a1,.t 2 (kI ↑i.1)] (zo 2 12) [y_1]∧(Rm ((List.take i.2.2.length i.2.2).length+((List.replicate 1 (T.i .u32 0)).set 0 (T.i .u32 (pG .u32 (pL .u64 i.2.1 (pL .u64 y.int y_1.int))))).length) 4)∧0≤(32:Int)∧∃(j:X1),I0 j∧M0 j<M0 i∧R2 a0 a1 (List.take i.2.2.length i.2.2++(List.replicate 1 (T.i .u32 0)).set 0 (T.i .u32 (pG .u32 (pL .u64 i.2.1 (pL .u64 y.int y_1.int))))=j.2.2∧T.i .u64 (sE .u64 (pL .u64 i.2.1 (pL .u64 y.int y_1.int)) (32:Int))=T.i .u64 j.2.1∧kI (pL .i64 ↑i.1 1)=kI ↑j.1∧True))∧((T.ite (ltI (↑i.1) (xk (lenOf a0.list) (lenOf a1.list))) (T.b true) (T.b (ltI 0 i.2.1))).bool=false→∃y:T,F 189 [.t 22 (T.l (List.take i.2.2.length (List.drop 0 i.2.2)))] (zo 1 22) [y]∧True∧y=y0∧True)):F 210 [.t 22 a0,.t 22 a1] (zo 2 22) [y0] :=
 p7 Ww (by kernel_rfl) Tryz.func210 (by kernel_rfl) (.two .no (.two .no (.two .no (.two (.two .no (.lp (fun (ia:X1)=>[(pp 0,AV.t 22 a0),(pp 1,AV.t 22 a1),(pp 4,AV.t 22 (T.l [])),(pp 5,.own 22 0 ia.2.2),(pp 6,.t 12 (.i .u64 ia.2.1)),(pp 7,.t 2 (.i .i64 (ia.1:Int)))]) I0 M0 (fun _=>.no))) .no)))) (by kernel_rfl) h
end Go.Pq
namespace Go.Pl
theorem pC (k:IntKind) (n:Int):(T.i k n).int=n:=rfl
theorem pt {x y:Int} (h : -9223372036854775808≤x+y∧x+y≤9223372036854775807):pL .i64 x y=x+y:=IntWalk.i64_in _ h
theorem qm {x y:Int} (h : -9223372036854775808≤x-y∧x-y≤9223372036854775807):qc .i64 x y=x-y:=IntWalk.i64_in _ h
theorem xU {x y:Int} (h : -9223372036854775808≤x*y∧x*y≤9223372036854775807):zk .i64 x y=x*y:=IntWalk.i64_in _ h
theorem wR {x y:Int} (h:0≤x+y∧x+y≤18446744073709551615):pL .u64 x y=x+y:=IntWalk.u64_in _ h
theorem Er {x y:Int} (h:0≤x-y∧x-y≤18446744073709551615):qc .u64 x y=x-y:=IntWalk.u64_in _ h
theorem N8 {x y:Int} (h:0≤x*y∧x*y≤18446744073709551615):zk .u64 x y=x*y:=IntWalk.u64_in _ h
theorem zc (n:Int):IntKind.u64.wrap n=n%18446744073709551616:=by simp [IntKind.wrap,IntKind.bits,IntKind.signed]
theorem FY (n:Int):IntKind.u32.wrap n=n%4294967296:=by simp [IntKind.wrap,IntKind.bits,IntKind.signed]
theorem rY {x:Int} (h:0≤x∧x≤18446744073709551615):pG .u64 x=x:=IntWalk.u64_in _ h
theorem vT {x:Int} (h : -9223372036854775808≤x∧x≤9223372036854775807):pG .i64 x=x:=IntWalk.i64_in _ h
theorem xf (x:Int):pG .u32 x=x%4294967296:=FY x
theorem Ei (x:Int):sE .u64 x 32=x / 4294967296:=by
 unfold sE;rw [show (min (Int.toNat 32) IntKind.u64.bits)=32 from rfl,XZ _ (by decide)];rfl
theorem Rp (x:Int):sE .u64 x 63=x / 9223372036854775808:=by
 unfold sE;rw [show (min (Int.toNat 63) IntKind.u64.bits)=63 from rfl,XZ _ (by decide)];rfl
theorem pw {x y:Int}:ltI x y=true↔x<y:=by simp [ltI]
theorem pF {x y:Int}:ltI x y=false↔y≤x:=by simp [ltI]
theorem rD {x y:Int}:leI x y=true↔x≤y:=by simp [leI]
theorem tH {x y:Int}:leI x y=false↔y<x:=by simp [leI]
theorem qe {x y:Int}:eqI x y=true↔x=y:=by simp [eqI]
theorem rk {x y:Int}:eqI x y=false↔x≠y:=by simp [eqI]
theorem rr {x y:Int}:neI x y=true↔x≠y:=by simp [neI]
theorem sq {x y:Int}:neI x y=false↔x=y:=by simp [neI]
theorem tM {c x:Bool}:(T.ite c (T.b x) (T.b false)).bool=(c && x):=by cases c<;>rfl
theorem tQ {c x:Bool}:(T.ite c (T.b true) (T.b x)).bool=(c || x):=by cases c<;>rfl
theorem zL (a b:Nat):xk a b=((max a b:Nat):Int):=by unfold xk;split<;>omega
theorem MA (a b:Nat):xT a b=((min a b:Nat):Int):=by unfold xT;split<;>omega
def lm (x:UInt32):T:=.i .u32 (x.toNat:Int)
def qJ (a:List UInt32):List T:=a.map lm
def lim (a:List UInt32):T:=.l (qJ a)
theorem pE (a:List UInt32):(lim a).list=qJ a:=rfl
theorem pT (a:List UInt32):(qJ a).length=a.length:=by simp [qJ]
theorem py (a:List UInt32):lenOf (qJ a)=(a.length:Int):=by simp [lenOf,qJ]
theorem qi (a:List UInt32) {i:Nat} (h:i<a.length):(qJ a).getD i .u=lm (a.getD i 0):=by
 simp [qJ,WM,h]
theorem sC (x:UInt32):((lm x).cell 0).int=(x.toNat:Int):=rfl
theorem qE (a:List UInt32) (n:Nat):(qJ a).take n=qJ (a.take n):=by simp [qJ]
theorem sz (a b:List UInt32):qJ a++qJ b=qJ (a++b):=by simp [qJ]
theorem vo (a:List UInt32) (i:Nat) (x:UInt32):(qJ a).set i (lm x)=qJ (a.set i x):=by simp [qJ,Zg]
theorem ri (n:Nat):List.replicate n (T.i .u32 0)=qJ (List.replicate n 0):=by simp [qJ,lm]
end Go.Pl
namespace Lb
def B:Nat:=4294967296
theorem qL:0<B:=by decide
def val:List UInt32→Nat
 | []=>0
 | x::r=>x.toNat+B*val r
def QJ:Nat→Nat→List UInt32
 | 0,_=>[]
 | f+1,n=>match n with
  | 0=>[]
  | n+1=>UInt32.ofNat ((n+1)%B)::QJ f ((n+1) / B)
def nat (n:Nat):List UInt32:=QJ (n.log2+1) n
def dg (a:List UInt32) (i:Nat):Nat:=(a.getD i 0).toNat
def pv (f:Nat→Nat):Nat→Nat
 | 0=>0
 | n+1=>pv f n+f n*B ^ n
theorem rQ (a:List UInt32) (i:Nat):dg a i<B:=(a.getD i 0).toNat_lt
theorem um {a:List UInt32} {i:Nat} (h:a.length≤i):dg a i=0:=by
 unfold dg;rw [WM,Ym h];rfl
theorem Ch (a b:List UInt32):val (a++b)=val a+B ^ a.length*val b:=by
 induction a with
 | nil=>simp [val]
 | cons x r ih =>
  simp only [Yy,val,ih,W4,Xt];rw [Yh,YD,←Xu,W8 B (B ^ r.length)]
theorem vJ (a:List UInt32) (x:UInt32):val (a++[x])=val a+B ^ a.length*x.toNat:=by
 rw [Ch];simp [val]
theorem qV (a:List UInt32):val a<B ^ a.length:=by
 induction a with
 | nil=>simp [val]
 | cons x r ih =>
  simp only [val,W4,Xt];have hx:x.toNat<B:=x.toNat_lt
  have:B*(val r+1)≤B*B ^ r.length:=Yt _ ih
  rw [W8 (B ^ r.length) B];rw [Yh,Yq] at this;omega
theorem KR (a:List UInt32):∀n,n≤a.length→val (a.take n)=pv (dg a) n:=by
 intro n
 induction n with
 | zero=>intro _;simp [val,pv]
 | succ n ih =>
  intro h;rw [W9 (by omega),vJ,ih (by omega),pv]
  have:(a.take n).length=n:=by simp;omega
  rw [this,W8]
  congr 2
  unfold dg;rw [WM,WL (by omega)];rfl
theorem UL (f:Nat→Nat) (n:Nat):∀m,n≤m→(∀i,n≤i→f i=0)→pv f m=pv f n:=by
 intro m h hz
 induction m with
 | zero =>
  have:n=0:=by omega
  rw [this]
 | succ m ih =>
  by_cases hm:n≤m
  ·rw [pv,ih hm,hz m hm];simp
  ·have:n=m+1:=by omega
   rw [this]
theorem rA (a:List UInt32) (n:Nat) (h:a.length≤n):val a=pv (dg a) n:=by
 rw [UL (dg a) a.length n h fun i hi=>um hi,←KR a a.length (WU _),XM]
theorem Q5 (f:Nat→Nat) (hf:∀i,f i<B) (n:Nat):pv f n<B ^ n:=by
 induction n with
 | zero=>simp [pv]
 | succ n ih =>
  rw [pv,Xt]
  have:(f n+1)*B ^ n≤B*B ^ n:=Xb _ (hf n)
  rw [Xe,Yb,W8 B] at this;omega
theorem zR {f g:Nat→Nat} (n:Nat) (h:∀i,i<n→f i=g i):pv f n=pv g n:=by
 induction n with
 | zero=>rfl
 | succ n ih=>rw [pv,pv,ih fun i hi=>h i (by omega),h n (by omega)]
theorem GQ {f g:Nat→Nat} (hf:∀i,f i<B) (k:Nat):∀n,k<n→(∀i,k<i→i<n→f i=g i)→f k<g k→pv f n<pv g n:=by
 intro n
 induction n with
 | zero=>intro h;omega
 | succ n ih =>
  intro hk he b_;rw [pv,pv]
  by_cases eH:k<n
  ·have:=ih eH (fun i h1 h2=>he i h1 (by omega)) b_
   rw [he n eH (by omega)];omega
  ·have:k=n:=by omega
   subst this;have h1:=Q5 f hf k;have h2:(f k+1)*B ^ k≤g k*B ^ k:=Xb _ b_;rw [Xe,Yb] at h2;omega
theorem GA:∀(f n:Nat),n<2 ^ f→val (QJ f n)=n:=by
 intro f
 induction f with
 | zero=>intro n h;simp at h;subst h;rfl
 | succ f ih =>
  intro n h
  cases n with
  | zero=>rfl
  | succ n =>
   simp only [QJ,val];have h1:(n+1) / B<2 ^ f:=by
    rw [XE qL]
    calc n+1<2 ^ (f+1):=h
     _=2 ^ f*2:=Xt ..
     _≤2 ^ f*B:=Yt _ (by decide)
   rw [ih _ h1];have h2:(UInt32.ofNat ((n+1)%B)).toNat=(n+1)%B:=by
    rw [YJ];exact Xj (Xz (XA _ qL) (by decide))
   rw [h2,Yx]
theorem pA (n:Nat):val (nat n)=n:=GA _ _ Nat.lt_log2_self
def Canon (a:List UInt32):Prop:=a=[]∨dg a (a.length-1)≠0
theorem HY:∀(f n:Nat),n<2 ^ f→Canon (QJ f n):=by
 intro f
 induction f with
 | zero=>intro n _;exact .inl rfl
 | succ f ih =>
  intro n h
  cases n with
  | zero=>exact .inl rfl
  | succ n =>
   right
   have h1:(n+1) / B<2 ^ f:=by
    rw [XE qL]
    calc n+1<2 ^ (f+1):=h
     _=2 ^ f*2:=Xt ..
     _≤2 ^ f*B:=Yt _ (by decide)
   simp only [QJ,W4,YO]
   rcases ih _ h1 with hc | hc
   ·rw [hc]
    have hv:=GA f _ h1;rw [hc] at hv;simp only [val] at hv
    have:(n+1)%B=n+1:=Xj ((Nat.div_eq_zero_iff_lt qL).1 hv.symm)
    simp only [YH,dg,List.getD_cons_zero];rw [YJ,this];have b_:=XA (n+1) qL;rw [this] at b_;rw [Xj (Xz b_ (by decide))];omega
   ·intro hz
    apply hc;have hl:(QJ f ((n+1) / B)).length≠0:=by
     intro q;rw [Yf] at q;rw [q] at hc;exact hc rfl
    obtain ⟨m,hm⟩:=Nat.exists_eq_succ_of_ne_zero hl;rw [hm] at hz ⊢;simpa [dg] using hz
theorem p8 (n:Nat):Canon (nat n):=HY _ _ Nat.lt_log2_self
theorem Canon.lower {a:List UInt32} (h:Canon a) (hn:a≠[]):B ^ (a.length-1)≤val a:=by
 rcases h with h | h
 ·exact absurd h hn
 ·have hl:0<a.length:=XB.2 hn
  rw [rA a a.length (WU _)];obtain ⟨m,hm⟩:∃m,a.length=m+1:=⟨a.length-1,by omega⟩;rw [hm] at h ⊢;simp only [YO] at h ⊢;rw [pv]
  have:1*B ^ m≤dg a m*B ^ m:=Xb _ (by omega)
  omega
theorem Sq {a b:List UInt32} (hl:a.length=b.length) (h:∀i,i<a.length→dg a i=dg b i):a=b:=by
 apply Yj hl;intro i h1 h2
 have:=h i h1
 unfold dg at this;rw [WM,WM,WL h1,WL h2] at this;exact Zk.1 this
theorem RG {a b:List UInt32} (hl:a.length=b.length) (h:val a=val b):a=b:=by
 induction a generalizing b with
 | nil=>cases b with
  | nil=>rfl
  | cons=>simp at hl
 | cons x r ih=>cases b with
  | nil=>simp at hl
  | cons y s =>
   simp only [val] at h;have hx:x.toNat<B:=x.toNat_lt;have hy:y.toNat<B:=y.toNat_lt;have h1:x.toNat=y.toNat:=by
    have:=Xx (·%B) h
    simpa [Nat.add_mul_mod_self_left,Xj hx,Xj hy] using this
   have h2:B*val r=B*val s:=by omega
   rw [Zk.1 h1,ih (by simpa using hl) (Nat.eq_of_mul_eq_mul_left qL h2)]
theorem Canon.eq {a b:List UInt32} (ha:Canon a) (hb:Canon b) (h:val a=val b):a=b:=by
 have len:∀{a b:List UInt32},Canon a→Canon b→val a=val b→a.length≤b.length:=by
  intro a b ha hb h
  by_cases hn:a=[]
  ·subst hn;simp
  ·have h1:=ha.lower hn
   have h2:=qV b;rw [h] at h1
   have:B ^ (a.length-1)<B ^ b.length:=XS h1 h2
   have:=(Yz (by decide:1<B)).1 this
   have hl:0<a.length:=XB.2 hn;omega
 exact RG (Nat.le_antisymm (len ha hb h) (len hb ha h.symm)) h
theorem BY {a:List UInt32} (h:Canon a):nat (val a)=a:=(p8 _).eq h (pA _)
theorem sA {n:Nat}:nat n=[]↔n=0:=by
 constructor
 ·intro h
  have:=pA n
  rw [h] at this;exact this.symm
 ·intro h;subst h;rfl
theorem tN (n k:Nat) (h:n<B ^ k):(nat n).length≤k:=by
 by_cases hn:nat n=[]
 ·rw [hn];simp
 ·have h1:=(p8 n).lower hn
  rw [pA] at h1
  have:=(Yz (by decide:1<B)).1 (XS h1 h)
  have hl:0<(nat n).length:=XB.2 hn;omega
theorem uc:nat 1=[1]:=by
 apply (p8 1).eq (.inr (by decide));rw [pA];rfl
end Lb
namespace Go.Pq
open Go.Pl Go.Proofs
theorem Hm (a:List UInt32) (i:Nat):F 192 [.t 22 (lim a),.t 2 (.i .i64 (i:Int))] (zo 2 12) [.i .u64 (Lb.dg a i:Int)]:=by
 refine P8 _ _ _ ⟨fun h=>?_,fun h=>?_⟩
 ·rw [pE,py,pw] at h
  simp only [T.int] at h;have hi:i<a.length:=by omega
  have hx:=(a.getD i 0).toNat_lt;refine ⟨⟨by simp only [T.int];omega,by rw [pE,py];exact h⟩,(by trivial),?_,(by trivial)⟩;simp only [T.int,pE];rw [WP,qi a hi]
  have:((lm (a.getD i 0)).cell 0).int=((a.getD i 0).toNat:Int):=rfl
  simp only [T.int] at this;rw [this,rY (by omega)];rfl
 ·rw [pE,py,pF] at h
  simp only [T.int] at h;refine ⟨(by trivial),?_,(by trivial)⟩;rw [Lb.um (by omega)];rfl
theorem Ew {a:List UInt32} {n:Nat} (hn:a.length=n+1) (h:Lb.dg a n=0):Lb.val (a.take n)=Lb.val a:=by
 rw [Lb.KR a n (by omega),Lb.rA a (n+1) (by omega),Lb.pv,h];simp
theorem uw (a:List UInt32) (ha:a.length≤2 ^ 60):F 189 [.t 22 (lim a)] (zo 1 22) [lim (Lb.nat (Lb.val a))]:=by
 refine P5 _ _ (fun i=>∃b:List UInt32,i=qJ b∧Lb.val b=Lb.val a∧b.length≤2 ^ 60) (fun i=>i.length) ⟨⟨qJ a,⟨a,rfl,rfl,ha⟩,rfl,rfl,(by trivial)⟩,fun _=>rfl,?_⟩;rintro i ⟨b,rfl,hv,hb⟩;rw [py]
 by_cases h0:0<b.length
 ·have b_:ltI 0 (b.length:Int)=true:=pw.2 (by omega)
  have y_:qc .i64 (b.length:Int) 1=((b.length-1:Nat):Int):=by rw [qm (by omega)];omega
  have hg:((qJ b).getD (Int.toNat ((b.length-1:Nat):Int)) .u)=lm (b.getD (b.length-1) 0):=by
   rw [WP];exact qi b (by omega)
  rw [y_,hg,sC,tM,b_,ZX];refine ⟨fun _=>by omega,fun h=>?_,fun h=>?_⟩
  ·rw [qe] at h
   have hz:Lb.dg b (b.length-1)=0:=by unfold Lb.dg;omega
   refine ⟨by omega,qJ (b.take (b.length-1)),⟨b.take (b.length-1),rfl,?_,by simp;omega⟩,?_,?_,rfl,(by trivial)⟩
   ·rw [←hv];exact Ew (by omega) hz
   ·simp only [pT,Xg];omega
   ·rw [Int.sub_zero,WP,Xc,qE]
  ·rw [rk] at h
   refine ⟨(by trivial),?_,(by trivial)⟩;have hc:Lb.Canon b:=.inr (by unfold Lb.dg;omega);rw [←hv,Lb.BY hc];rfl
 ·have j3:b=[]:=by
   cases b with
   | nil=>rfl
   | cons=>simp at h0
  subst j3;have b_:ltI 0 (([]:List UInt32).length:Int)=false:=pF.2 (by simp);rw [tM,b_,Bool.false_and];refine ⟨fun h=>(by cases h.1),fun h=>(by cases h),fun _=>⟨(by trivial),?_,(by trivial)⟩⟩;rw [←hv];rfl
def F7 (x y:Nat):Int:=if x<y then -1 else if x=y then 0 else 1
theorem Cu (a b:List UInt32) (ha:a.length≤2 ^ 60) (hb:b.length≤2 ^ 60):F 152 [.t 22 (lim a),.t 22 (lim b)] (zo 2 2) [.i .i64 (F7 (Lb.val a) (Lb.val b))]:=by
 have hm:qc .i64 (xk (lenOf (lim a).list) (lenOf (lim b).list)) 1=((max a.length b.length:Nat):Int)-1:=by
  rw [pE,pE,py,py,zL,qm (by omega)]
 refine PC _ _ _ (fun k=>k≤max a.length b.length∧∀i,k≤i→Lb.dg a i=Lb.dg b i) (fun k=>k) ⟨⟨max a.length b.length,⟨WU _,fun i hi=>?_⟩,rfl,rfl,rfl,by rw [hm],(by trivial)⟩,fun _=>rfl,?_⟩
 ·rw [Lb.um (by omega),Lb.um (by omega)]
 rintro k ⟨hk,he⟩;refine ⟨fun h=>?_,fun h=>?_⟩
 ·rw [rD] at h
  obtain ⟨m,rfl⟩:∃m,k=m+1:=⟨k-1,by omega⟩;have lx:((m+1:Nat):Int)-1=(m:Int):=by omega
  rw [lx];refine ⟨_,Hm a m,_,Hm b m,fun t_=>?_,fun dV=>?_⟩
  ·rw [rr] at t_
   simp only [T.int] at t_ ⊢;have cH:=Lb.rQ a m;have aB:=Lb.rQ b m;unfold Lb.B at cH aB;refine ⟨by decide,(by trivial),?_,(by trivial)⟩;have dM:=Lb.rA a (max a.length b.length) (by omega);have gK:=Lb.rA b (max a.length b.length) (by omega);unfold F7
   rcases YW (Lb.dg a m) (Lb.dg b m) with q | q | q
   ·have b_:Lb.val a<Lb.val b:=by
     rw [dM,gK];exact Lb.GQ (Lb.rQ a) m _ (by omega) (fun i h1 _=>he i (by omega)) q
    rw [WY b_];have e1:qc .u64 (Lb.dg a m:Int) (Lb.dg b m:Int)=(Lb.dg a m:Int)-(Lb.dg b m:Int)+18446744073709551616:=by
     unfold qc;rw [zc];omega
    rw [e1,Rp];have e2:((Lb.dg a m:Int)-(Lb.dg b m:Int)+18446744073709551616) / 9223372036854775808=1:=by omega
    rw [e2,vT (by omega),xU (by omega),qm (by omega)];rfl
   ·exact absurd (by rw [q]) t_
   ·have b_:Lb.val b<Lb.val a:=by
     rw [dM,gK];exact Lb.GQ (Lb.rQ b) m _ (by omega) (fun i h1 _=>(he i (by omega)).symm) q
    rw [WZ (by omega),WZ (by omega)];have e1:qc .u64 (Lb.dg a m:Int) (Lb.dg b m:Int)=(Lb.dg a m:Int)-(Lb.dg b m:Int):=Er (by omega);rw [e1,Rp];have e2:((Lb.dg a m:Int)-(Lb.dg b m:Int)) / 9223372036854775808=0:=by omega
    rw [e2,vT (by omega),xU (by omega),qm (by omega)];rfl
  ·rw [sq] at dV
   simp only [T.int] at dV;refine ⟨m,⟨by omega,fun i hi=>?_⟩,by omega,rfl,rfl,rfl,by rw [qm (by omega)],(by trivial)⟩
   by_cases ly:i=m
   ·subst ly;omega
   ·exact he i (by omega)
 ·rw [tH] at h
  refine ⟨(by trivial),?_,(by trivial)⟩;have aT:k=0:=by omega
  subst aT
  have:Lb.val a=Lb.val b:=by
   rw [Lb.rA a (max a.length b.length) (by omega),Lb.rA b (max a.length b.length) (by omega)];exact Lb.zR _ fun i _=>he i (by omega)
  unfold F7;rw [this,WZ (by omega),WY rfl]
theorem HG (a:List UInt32) (x:UInt32) {i:Nat} (h:i<a.length):Lb.dg (a++[x]) i=Lb.dg a i:=by
 unfold Lb.dg;rw [WM,WM,Xr h]
theorem TK (a b:List UInt32) (ha:a.length≤2 ^ 40) (hb:b.length≤2 ^ 40):F 210 [.t 22 (lim a),.t 22 (lim b)] (zo 2 22) [lim (Lb.nat (Lb.val a+Lb.val b))]:=by
 refine Qj _ _ _ (fun i=>∃(c:List UInt32) (s:Nat),i.2.1=(s:Int)∧i.2.2=qJ c∧s≤1∧c.length=i.1∧i.1≤max a.length b.length+1∧Lb.val c+s*Lb.B ^ i.1=Lb.pv (Lb.dg a) i.1+Lb.pv (Lb.dg b) i.1∧(max a.length b.length<i.1→s=0))
  (fun i=>2*(max a.length b.length-i.1)+i.2.1.toNat) ⟨⟨(0,0,[]),⟨[],0,rfl,rfl,by omega,rfl,by omega,rfl,fun _=>rfl⟩,rfl,rfl,rfl,rfl,rfl,rfl,(by trivial)⟩,fun _=>rfl,?_⟩
 rintro ⟨k,s',xs⟩ ⟨c,s,hs,aL,aX,hc,hk,hv,bf⟩;simp only at hs aL hc hk hv bf ⊢;subst hs;subst aL;rw [tQ,pE,pE,py,py,zL,qE,pT];refine ⟨fun h=>?_,fun h=>?_⟩
 ·refine ⟨_,Hm a k,_,Hm b k,?_⟩
  simp only [T.int];have cH:=Lb.rQ a k;have aB:=Lb.rQ b k;have hB:Lb.B=4294967296:=rfl;have aK:pL .u64 (s:Int) (pL .u64 (Lb.dg a k:Int) (Lb.dg b k:Int))=((s+(Lb.dg a k+Lb.dg b k):Nat):Int):=by
   rw [wR (x:=(Lb.dg a k:Int)) (by omega),wR (by omega)];omega
  rw [aK]
  generalize hq:s+(Lb.dg a k+Lb.dg b k)=q at *
  have j4:q / Lb.B≤1:=by rw [hB] at cH aB ⊢;omega
  have n9:(T.i .u32 (pG .u32 (q:Int)))=lm (UInt32.ofNat (q%Lb.B)):=by
   unfold lm;rw [xf,YJ,hB]
   congr 1
   omega
  have aC:(List.replicate 1 (T.i .u32 0)).set 0 (T.i .u32 (pG .u32 (q:Int)))=qJ [UInt32.ofNat (q%Lb.B)]:=by
   rw [n9];rfl
  have di:List.take (qJ c).length c=c:=by rw [pT];exact WX (WU _)
  rw [aC,Ei,di,sz];simp only [pT];refine ⟨⟨by simp;(try unfold Rm);unfold room;omega,by simp;omega⟩,by decide,(k+1,((q / Lb.B:Nat):Int),qJ (c++[UInt32.ofNat (q%Lb.B)])),⟨c++[UInt32.ofNat (q%Lb.B)],q / Lb.B,rfl,rfl,by omega,by simp;omega,?_,?_,?_⟩,?_,(by trivial),(by trivial),(by trivial),rfl,?_,?_,(by trivial)⟩
  ·simp only
   rw [Yv,pw,pw] at h
   rcases h with h | h
   ·omega
   ·have:¬ max a.length b.length<k:=fun q=>by have:=bf q;omega
    omega
  ·simp only
   rw [Lb.vJ,hc,Lb.pv,Lb.pv];have hm:(UInt32.ofNat (q%Lb.B)).toNat=q%Lb.B:=by
    rw [YJ,hB];omega
   rw [hm,Xt];have e1:q / Lb.B*(Lb.B ^ k*Lb.B)=(q / Lb.B*Lb.B)*Lb.B ^ k:=by
    rw [W8 (Lb.B ^ k),Xu]
   have e2:(q%Lb.B+q / Lb.B*Lb.B)*Lb.B ^ k=q*Lb.B ^ k:=by
    rw [W8 (q / Lb.B),Yx]
   rw [e1,W8 (Lb.B ^ k) (q%Lb.B),YD,←Xe,e2,←hq,Xe,Xe];omega
  ·simp only
   intro b_;have hz:Lb.dg a k=0:=Lb.um (by omega);have fM:Lb.dg b k=0:=Lb.um (by omega)
   have:q≤1:=by omega
   exact Yk (by omega)
  ·simp only [WP]
   rw [Yv,pw,pw] at h
   by_cases fc:k<max a.length b.length
   ·omega
   ·have hz:Lb.dg a k=0:=Lb.um (by omega)
    have fM:Lb.dg b k=0:=Lb.um (by omega)
    have:q / Lb.B=0:=Yk (by omega)
    omega
  ·congr 1
  ·rw [pt (by omega)];congr 1
 ·rw [XX,pF,pF] at h
  obtain ⟨h1,h2⟩:=h;have cO:s=0:=by omega
  have aR:max a.length b.length≤k:=by omega
  rw [Xc,qE];have di:List.take (qJ c).length c=c:=by rw [pT];exact WX (WU _)
  rw [di];refine ⟨_,uw c (by omega),(by trivial),?_,(by trivial)⟩
  congr 2
  rw [cO] at hv;rw [Lb.rA a k (by omega),Lb.rA b k (by omega)];omega
end Go.Pq
namespace Lb
theorem Dy (c:List UInt32) (k:Nat) (x:UInt32) (hk:k<c.length) (i:Nat):dg (c.set k x) i=if i=k then x.toNat else dg c i:=by
 unfold dg;rw [WM,WM,YA]
 by_cases h:k=i
 ·subst h;simp [hk]
 ·rw [WZ h,WZ (fun e=>h e.symm)]
theorem TN (c:List UInt32) (k:Nat) (x:UInt32) (hk:k<c.length) (n:Nat) (h:n≤k):pv (dg (c.set k x)) n=pv (dg c) n :=
 zR n fun i hi=>by rw [Dy c k x hk,WZ (by omega)]
theorem ofNat_toNat {n:Nat} (h:n<B):(UInt32.ofNat n).toNat=n:=by
 rw [YJ];exact Xj h
theorem IH {a:List UInt32} {n:Nat} (h:val a<B ^ n):∀m,n≤m→pv (dg a) m=val a→pv (dg a) n=val a:=by
 intro m
 induction m with
 | zero =>
  intro hn he
  have:n=0:=by omega
  rw [this];exact he
 | succ m ih =>
  intro hn he
  by_cases hm:n=m+1
  ·rw [hm];exact he
  ·have mL:n≤m:=by omega
   refine ih mL ?_;rw [pv] at he
   by_cases hz:dg a m=0
   ·rw [hz] at he;simpa using he
   ·have h1:B ^ n≤B ^ m:=XC qL mL
    have h2:1*B ^ m≤dg a m*B ^ m:=Xb _ (by omega);omega
theorem GP {a:List UInt32} {n:Nat} (h:val a<B ^ n):pv (dg a) n=val a:=by
 by_cases hn:a.length≤n
 ·exact (rA a n hn).symm
 ·exact IH h a.length (by omega) (rA a a.length (WU _)).symm
theorem yh (n:Nat):val (List.replicate n 0)=0:=by
 induction n with
 | zero=>rfl
 | succ n ih=>simp [Zr,val,ih]
theorem Da (c:List UInt32) (k:Nat) (x:UInt32) (hk:k<c.length):val (c.set k x)+dg c k*B ^ k=val c+x.toNat*B ^ k:=by
 induction c generalizing k with
 | nil=>simp at hk
 | cons y r ih =>
  cases k with
  | zero=>simp [val,dg];omega
  | succ k =>
   have:=ih k (by simpa using hk)
   have hd:dg (y::r) (k+1)=dg r k:=by simp [dg]
   simp only [List.set_cons_succ,val,hd,Xt];have e:∀z:Nat,z*(B ^ k*B)=B*(z*B ^ k):=fun z=>by rw [W8 (B ^ k),←Xu,←Xu,W8 z]
   rw [e,e];have h2:B*(val (r.set k x)+dg r k*B ^ k)=B*(val r+x.toNat*B ^ k):=by rw [this]
   rw [Yh,Yh] at h2;omega
end Lb
namespace Go.Pq
open Go.Pl Go.Proofs
theorem Kq {x:Int} {n:Nat} (h:x=(n:Int)) (hn:n<Lb.B):T.i .u32 x=lm (UInt32.ofNat n):=by
 unfold lm;rw [Lb.ofNat_toNat hn,h]
theorem CJ (a b:List UInt32) (ha:a.length≤2 ^ 40) (P_:Lb.val b≤Lb.val a):F 208 [.t 22 (lim a),.t 22 (lim b)] (zo 2 22) [lim (Lb.nat (Lb.val a-Lb.val b))]:=by
 have hB:Lb.B=4294967296:=rfl;refine Qh _ _ _ (fun i=>∃(c:List UInt32) (s:Nat),i.2.1=(s:Int)∧i.2.2=qJ c∧s≤1∧c.length=a.length∧i.1≤a.length∧Lb.pv (Lb.dg c) i.1+Lb.pv (Lb.dg b) i.1=Lb.pv (Lb.dg a) i.1+s*Lb.B ^ i.1)
  (fun i=>a.length-i.1) ⟨?_,⟨(0,0,qJ (List.replicate a.length 0)),⟨List.replicate a.length 0,0,rfl,rfl,by omega,by simp,by simp,rfl⟩,rfl,rfl,rfl,?_,rfl,rfl,rfl,(by trivial)⟩,fun _=>rfl,?_⟩
 ·rw [pE,py];omega
 ·rw [pE,py,WP,ri]
 rintro ⟨k,s',xs⟩ ⟨c,s,hs,aL,aX,hc,hk,hv⟩;simp only at hs aL hc hk hv ⊢;subst hs;subst aL;rw [pE,py];refine ⟨fun h=>?_,fun h=>?_⟩
 ·rw [pw] at h
  have b_:k<a.length:=by omega
  refine ⟨_,Hm a k,_,Hm b k,by decide,⟨by omega,by rw [pT];omega⟩,?_⟩;simp only [T.int];have cH:=Lb.rQ a k;have aB:=Lb.rQ b k;rw [hB] at cH aB;obtain ⟨d,s2,hd,iv,hrel,gc,bg⟩:∃d s2:Nat,d<Lb.B∧s2≤1∧d+Lb.dg b k+s=Lb.dg a k+s2*Lb.B ∧
    pG .u32 (qc .u64 (qc .u64 (Lb.dg a k:Int) (Lb.dg b k:Int)) (s:Int))=(d:Int)∧sE .u64 (qc .u64 (qc .u64 (Lb.dg a k:Int) (Lb.dg b k:Int)) (s:Int)) 63=(s2:Int):=by
   rw [xf,Rp];unfold qc;rw [zc,zc]
   by_cases q:Lb.dg b k+s≤Lb.dg a k
   ·exact ⟨Lb.dg a k-Lb.dg b k-s,0,by omega,by omega,by omega,by omega,by omega⟩
   ·exact ⟨Lb.dg a k+Lb.B-Lb.dg b k-s,1,by omega,by omega,by omega,by omega,by omega⟩
  have aC:(qJ c).set (0+(k:Int).toNat) (T.i .u32 (pG .u32 (qc .u64 (qc .u64 (Lb.dg a k:Int) (Lb.dg b k:Int)) (s:Int))))=qJ (c.set k (UInt32.ofNat d)):=by
   rw [Kq gc hd,WP,WV,vo]
  rw [aC,bg];refine ⟨(k+1,(s2:Int),qJ (c.set k (UInt32.ofNat d))),⟨c.set k (UInt32.ofNat d),s2,rfl,rfl,iv,by simp [hc],by simp only;omega,?_⟩,by simp only;omega,(by trivial),(by trivial),(by trivial),rfl,rfl,(by trivial),?_,(by trivial)⟩
  ·simp only
   rw [Lb.pv,Lb.pv,Lb.pv,Lb.TN c k _ (by omega) k (WU _),Lb.Dy c k _ (by omega),WY rfl,Lb.ofNat_toNat hd];have e1:(d+Lb.dg b k+s)*Lb.B ^ k=(Lb.dg a k+s2*Lb.B)*Lb.B ^ k:=by rw [hrel]
   have e2:s2*Lb.B ^ (k+1)=s2*Lb.B*Lb.B ^ k:=by rw [Xt,W8 (Lb.B ^ k),Xu]
   rw [e2];simp only [Xe] at e1;omega
  ·rw [pt (by omega)];congr 1
 ·rw [pF] at h
  have aR:k=a.length:=by omega
  have di:List.take (qJ c).length c=c:=by rw [pT];exact WX (WU _)
  rw [Xc,qE,di];refine ⟨_,uw c (by omega),(by trivial),?_,(by trivial)⟩;have dM:=Lb.rA a k (by omega);have gK:Lb.pv (Lb.dg b) k=Lb.val b:=Lb.GP (by rw [aR];have:=Lb.qV a;omega);have kX:=Lb.rA c k (by omega);have cI:=Lb.qV c;rw [hc,←aR] at cI;have cO:s=0:=by
   by_cases cO:s=0
   ·exact cO
   ·have:s=1:=by omega
    subst this;omega
  subst cO
  congr 2
  omega
theorem za (a b:List UInt32) (ha:a.length≤2 ^ 40) (hb:b.length≤2 ^ 40):F 196 [.t 22 (lim a),.t 22 (lim b)] (zo 2 22) [lim (Lb.nat (Lb.val a*Lb.val b))]:=by
 have hB:Lb.B=4294967296:=rfl;have dj:pL .i64 (lenOf (lim a).list) (lenOf (lim b).list)=((a.length+b.length:Nat):Int):=by
  rw [pE,pE,py,py,pt (by omega)];omega
 refine Qa _ _ _
  (fun i=>∃c:List UInt32,i.2=qJ c∧c.length=a.length+b.length∧i.1≤a.length∧Lb.val c=Lb.pv (Lb.dg a) i.1*Lb.val b)
  (fun i=>a.length-i.1)
  (fun i j=>∃(c:List UInt32) (s:Nat),i.1<a.length∧j.2.2=qJ c∧j.2.1=(s:Int)∧s<Lb.B∧c.length=a.length+b.length∧j.1≤b.length+1 ∧
   Lb.val c+s*Lb.B ^ (i.1+j.1)=Lb.pv (Lb.dg a) i.1*Lb.val b+Lb.B ^ i.1*(Lb.dg a i.1*Lb.pv (Lb.dg b) j.1))
  (fun i j=>b.length+1-j.1) ⟨?_,⟨(0,qJ (List.replicate (a.length+b.length) 0)),⟨List.replicate (a.length+b.length) 0,rfl,by simp,by simp,?_⟩,rfl,rfl,rfl,?_,rfl,rfl,(by trivial)⟩,fun _=>rfl,?_⟩
 ·rw [dj];omega
 ·simp only [Lb.pv,Nat.zero_mul]
  exact Lb.yh _
 ·rw [dj,WP,ri]
 rintro ⟨k,xs⟩ ⟨c,aL,hc,hk,hv⟩;simp only at aL hk hv ⊢;subst aL;rw [pE,pE,py,py];refine ⟨fun h=>?_,fun h=>?_⟩
 ·rw [pw] at h
  have b_:k<a.length:=by omega
  refine ⟨⟨(0,0,qJ c),⟨c,0,b_,rfl,rfl,Lb.qL,hc,by simp,by simp [Lb.pv,hv]⟩,(by trivial),(by trivial),(by trivial),rfl,(by trivial),(by trivial),(by trivial),rfl,rfl,(by trivial)⟩,fun _=>(by trivial),?_⟩;rintro ⟨m,s',ys⟩ ⟨c1,s,-,ck,hs,fV,bz,hm,aq⟩;simp only at ck hs hm aq ⊢;subst ck;subst hs;rw [tQ];refine ⟨fun h2=>?_,fun h2=>?_⟩
  ·rw [Yv,pw,pw] at h2
   have a7:m≤b.length:=by
    rcases YP m b.length with q | q
    ·omega
    ·have lz:Lb.pv (Lb.dg b) m=Lb.val b:=(Lb.rA b m q).symm
     have h3:s*Lb.B ^ (k+m)≤Lb.pv (Lb.dg a) (k+1)*Lb.val b:=by
      rw [Lb.pv,Xe,W8 (Lb.dg a k),Xu];rw [lz] at aq;omega
     have h4:Lb.pv (Lb.dg a) (k+1)<Lb.B ^ (k+1):=Lb.Q5 _ (Lb.rQ a) _;have h5:Lb.pv (Lb.dg a) (k+1)*Lb.val b<Lb.B ^ (k+1)*Lb.B ^ b.length∨Lb.val b=0:=by
      by_cases hz:Lb.val b=0
      ·exact .inr hz
      ·exact .inl (Zw h4 (Zt (Lb.qV b)) (XQ Lb.qL))
     have cO:0<s:=by
      rcases h2 with h2 | h2
      ·omega
      ·omega
     have h6:1*Lb.B ^ (k+m)≤s*Lb.B ^ (k+m):=Xb _ cO
     rcases h5 with h5 | h5
     ·rw [←XL] at h5
      rw [Yb] at h6
      have:=(Yz (by decide:1<Lb.B)).1 (XS (XU h6 h3) h5)
      omega
     ·rw [h5,Nat.mul_zero] at h3
      have:0<Lb.B ^ (k+m):=XQ Lb.qL
      rw [Yb] at h6;exact absurd (XU h6 h3) (Nat.not_le.2 this)
   have lx:k+m<a.length+b.length:=by omega
   have eI:pL .i64 (k:Int) (m:Int)=((k+m:Nat):Int):=by rw [pt (by omega)];omega
   rw [eI];have o_:(qJ c1).getD (0+((k+m:Nat):Int).toNat) .u=lm (c1.getD (k+m) 0):=by
    rw [WP,WV];exact qi c1 (by omega)
   refine ⟨⟨by omega,by rw [pT];omega⟩,_,Hm a k,_,Hm b m,⟨by omega,by rw [pT];omega⟩,by decide,?_⟩;rw [o_,sC];simp only [T.int];have cH:=Lb.rQ a k;have aB:=Lb.rQ b m;have lA:=Lb.rQ c1 (k+m);have lB:(c1.getD (k+m) 0).toNat=Lb.dg c1 (k+m):=rfl;rw [lB];have br:Lb.dg a k*Lb.dg b m≤(Lb.B-1)*(Lb.B-1):=Yn (by omega) (by omega);have fT:((Lb.dg a k:Int)*(Lb.dg b m:Int))=((Lb.dg a k*Lb.dg b m:Nat):Int):=by simp
   have cj:(Lb.B-1)*(Lb.B-1)=18446744065119617025:=by rw [hB]
   rw [cj] at br
   generalize lC:Lb.dg a k*Lb.dg b m=pr at *
   rw [hB] at cH aB lA fV;have aK:pL .u64 (s:Int) (pL .u64 (pG .u64 (Lb.dg c1 (k+m):Int)) (zk .u64 (Lb.dg a k:Int) (Lb.dg b m:Int)))=((s+(Lb.dg c1 (k+m)+pr):Nat):Int):=by
    rw [N8 (by rw [fT];omega),fT,rY (by omega),wR (x:=(Lb.dg c1 (k+m):Int)) (by omega),wR (by omega)];omega
   rw [aK,Ei]
   generalize hq:s+(Lb.dg c1 (k+m)+pr)=q at *
   have aC:(qJ c1).set (0+((k+m:Nat):Int).toNat) (T.i .u32 (pG .u32 (q:Int)))=qJ (c1.set (k+m) (UInt32.ofNat (q%Lb.B))):=by
    rw [Kq (n:=q%Lb.B) (by rw [xf,hB];omega) (XA _ Lb.qL),WP,WV,vo]
   rw [aC];refine ⟨(m+1,((q / Lb.B:Nat):Int),qJ (c1.set (k+m) (UInt32.ofNat (q%Lb.B)))),⟨c1.set (k+m) (UInt32.ofNat (q%Lb.B)),q / Lb.B,b_,rfl,rfl,?_,by simp [bz],?_,?_⟩,?_,(by trivial),(by trivial),(by trivial),rfl,(by trivial),(by trivial),(by trivial),?_,?_,(by trivial)⟩
   ·rw [hB];omega
   ·simp only;omega
   ·simp only
    have bm:=Lb.Da c1 (k+m) (UInt32.ofNat (q%Lb.B)) (by omega);rw [Lb.ofNat_toNat (XA _ Lb.qL)] at bm;have e1:q / Lb.B*Lb.B ^ (k+(m+1))=(q / Lb.B*Lb.B)*Lb.B ^ (k+m):=by
     rw [←YD,Xt,W8 (Lb.B ^ (k+m)),Xu]
    have e2:q%Lb.B*Lb.B ^ (k+m)+q / Lb.B*Lb.B*Lb.B ^ (k+m)=s*Lb.B ^ (k+m)+Lb.dg c1 (k+m)*Lb.B ^ (k+m)+pr*Lb.B ^ (k+m):=by
     rw [←Xe,W8 (q / Lb.B),Yx,←hq,Xe,Xe,YD]
    have e3:Lb.B ^ k*(Lb.dg a k*Lb.pv (Lb.dg b) (m+1))=Lb.B ^ k*(Lb.dg a k*Lb.pv (Lb.dg b) m)+pr*Lb.B ^ (k+m):=by
     rw [Lb.pv,Yh,Yh,←lC,XL]
     congr 1
     simp only [Ya,W8,Xu]
    rw [e1,e3];omega
   ·simp only;omega
   ·rw [show ((q / Lb.B:Nat):Int)=(q:Int) / 4294967296 by rw [hB];omega]
   ·rw [pt (by omega)];congr 1
  ·rw [XX,pF,pF] at h2
   have cO:s=0:=by omega
   subst cO;refine ⟨(k+1,qJ c1),⟨c1,rfl,bz,by simp only;omega,?_⟩,by simp only;omega,(by trivial),(by trivial),(by trivial),rfl,(by trivial),?_,(by trivial)⟩
   ·simp only
    rw [Lb.pv,Xe];have lz:Lb.pv (Lb.dg b) m=Lb.val b:=(Lb.rA b m (by omega)).symm;rw [lz] at aq;rw [W8 (Lb.dg a k),Xu];omega
   ·rw [pt (by omega)];congr 1
 ·rw [pF] at h
  have aR:k=a.length:=by omega
  have di:List.take (qJ c).length c=c:=by rw [pT];exact WX (WU _)
  rw [Xc,qE,di];refine ⟨_,uw c (by omega),(by trivial),?_,(by trivial)⟩;rw [hv,←Lb.rA a k (by omega)]
end Go.Pq
namespace Go.Pl
theorem Cc {n k:Nat} (hk:k≤64) (h:n*2 ^ k<18446744073709551616):zp .u64 (n:Int) (k:Int)=((n*2 ^ k:Nat):Int):=by
 unfold zp;rw [show IntKind.u64.bits=64 from rfl,WP,YB hk];rw [show ((n:Int)*2 ^ k)=((n*2 ^ k:Nat):Int) by simp];exact IntWalk.u64_in _ ⟨by omega,by omega⟩
theorem Ov {n k:Nat} (hk:k≤64):sE .u64 (n:Int) (k:Int)=((n / 2 ^ k:Nat):Int):=by
 unfold sE;rw [show IntKind.u64.bits=64 from rfl,WP,YB hk];rw [XZ _ (by exact_mod_cast WS (2 ^ k))];simp
theorem QT {a b:Nat} (ha:a<18446744073709551616) (hb:b<18446744073709551616):qv .or .u64 (a:Int) (b:Int)=((a ||| b:Nat):Int):=by
 unfold qv;simp only []
 show IntKind.u64.wrap ((BitVec.ofInt 64 (a:Int) ||| BitVec.ofInt 64 (b:Int)).toNat:Int)=_
 rw [Yr,Yr,BitVec.toNat_or,Yi,Yi,Xj (b:=2 ^ 64) (by omega),Xj (b:=2 ^ 64) (by omega)]
 have:a ||| b<2 ^ 64:=Nat.or_lt_two_pow (by omega) (by omega)
 exact IntWalk.u64_in _ ⟨by omega,by omega⟩
theorem KF {x s k:Nat} (hs:s<2 ^ k) (h:x*2 ^ k+s<18446744073709551616):qv .or .u64 ((x*2 ^ k:Nat):Int) (s:Int)=((x*2 ^ k+s:Nat):Int):=by
 rw [QT (by omega) (by omega),W8,Nat.two_pow_add_eq_or_of_lt hs]
theorem TF {x s k:Nat} (hs:s<2 ^ k) (h:x*2 ^ k+s<18446744073709551616):qv .or .u64 (s:Int) ((x*2 ^ k:Nat):Int)=((x*2 ^ k+s:Nat):Int):=by
 rw [←KF hs h,QT (by omega) (by omega),QT (by omega) (by omega),Nat.or_comm]
theorem Om {a b:Nat} (ha:a<18446744073709551616):uQ .u64 (a:Int) (b:Int)=((a / b:Nat):Int):=by
 unfold uQ;rw [←Int.ofNat_tdiv]
 have:a / b≤a:=YC a b
 generalize a / b=q at *
 exact IntWalk.u64_in _ ⟨by omega,by omega⟩
theorem D9 {a b:Nat} (ha:a<9223372036854775808):uQ .i64 (a:Int) (b:Int)=((a / b:Nat):Int):=by
 unfold uQ;rw [←Int.ofNat_tdiv]
 have:a / b≤a:=YC a b
 generalize a / b=q at *
 exact IntWalk.i64_in _ ⟨by omega,by omega⟩
theorem B6 {a b:Nat}:uA (a:Int) (b:Int)=((a%b:Nat):Int):=by
 unfold uA;exact (Int.ofNat_tmod ..).symm
end Go.Pl
namespace Lb
theorem zW (a:List UInt32) (k:Nat) (h:k<a.length):val (a.drop k)=dg a k+B*val (a.drop (k+1)):=by
 rw [XI h,val];unfold dg;rw [WM,WL h];rfl
theorem vU (a:List UInt32) (i:Nat):dg a i=val a / B ^ i%B:=by
 by_cases h:i<a.length
 ·have h1:=Ch (a.take i) (a.drop i)
  rw [YT,Xg,YB (by omega)] at h1;have h2:=qV (a.take i);rw [Xg,YB (by omega)] at h2;rw [h1,Nat.add_mul_div_left _ _ (XQ qL),Yk h2,WV,zW a i h,Nat.add_mul_mod_self_left,Xj (rQ a i)]
 ·rw [um (by omega),Yk,Nat.zero_mod]
  exact Xz (qV a) (XC qL (by omega))
theorem xz (n:Nat):B ^ n=2 ^ (32*n):=by
 rw [Nat.pow_mul];rfl
end Lb
namespace Go.Pq
open Go.Pl Go.Proofs
theorem vq (w:Nat):T.i .u32 (pG .u32 (w:Int))=lm (UInt32.ofNat (w%Lb.B)):=by
 have hB:Lb.B=4294967296:=rfl;exact Kq (n:=w%Lb.B) (by rw [xf,hB];omega) (XA _ Lb.qL)
theorem vr {w:Nat} (h:w<Lb.B):T.i .u32 (pG .u32 (w:Int))=lm (UInt32.ofNat w):=by
 rw [vq,Xj h]
theorem Kn (x:UInt32):(List.replicate 1 (T.i .u32 0)).set 0 (lm x)=qJ [x]:=rfl
theorem Rr (a:List UInt32) (d:UInt32) (ha:a.length≤2 ^ 40) (hd:d≠0):F 205 [.t 22 (lim a),.t 155 (lm d)] Z4
  [lim (Lb.nat (Lb.val a / d.toNat)),.i .u32 ((Lb.val a%d.toNat:Nat):Int)]:=by
 have hB:Lb.B=4294967296:=rfl;have iw:0<d.toNat:=by
  rcases XT d.toNat with q | q
  ·exact absurd (Zk.1 (by rw [q];rfl)) hd
  ·exact q
 have jr:d.toNat<Lb.B:=d.toNat_lt;have jY:(lm d).int=(d.toNat:Int):=rfl;have j5:pG .u64 (d.toNat:Int)=(d.toNat:Int):=rY (by rw [hB] at jr;omega);refine Qe _ _ _ _ (fun i=>∃(c:List UInt32) (r:Nat),i.2.1=(r:Int)∧i.2.2=qJ c∧c.length=a.length∧i.1≤a.length∧r<d.toNat∧Lb.val (a.drop i.1)=Lb.val (c.drop i.1)*d.toNat+r)
  (fun i=>i.1) ⟨?_,⟨(a.length,0,qJ (List.replicate a.length 0)),⟨List.replicate a.length 0,0,rfl,rfl,by simp,by simp,iw,by simp [Lb.val]⟩,rfl,rfl,rfl,rfl,?_,rfl,?_,(by trivial)⟩,fun _=>rfl,?_⟩
 ·rw [pE,py];omega
 ·rw [pE,py,WP,ri]
 ·rw [pE,py,qm (by omega)]
 rintro ⟨k,r',xs⟩ ⟨c,r,hr,aL,hc,hk,dX,hv⟩;simp only at hr aL hk hv ⊢;subst hr;subst aL;rw [pE,py,jY,j5];refine ⟨fun h=>?_,fun h=>?_⟩
 ·rw [rD] at h
  obtain ⟨m,rfl⟩:∃m,k=m+1:=⟨k-1,by omega⟩;have e0:((m+1:Nat):Int)-1=(m:Int):=by omega
  rw [e0,WP,qi a (by omega),sC,show ((a.getD m 0).toNat)=Lb.dg a m from rfl,WV];have hx:=Lb.rQ a m;have e1:qv .or .u64 (zp .u64 (r:Int) 32) (pG .u64 (Lb.dg a m:Int))=((r*Lb.B+Lb.dg a m:Nat):Int):=by
   rw [rY (by rw [hB] at hx;omega),show (32:Int)=((32:Nat):Int) from rfl,Cc (by decide) (by rw [hB] at jr;omega),KF (by exact hx) (by rw [hB] at jr hx;omega)];rfl
  rw [e1,Om (by rw [hB] at jr hx ⊢;omega),B6]
  generalize hw:r*Lb.B+Lb.dg a m=w at *
  have mM:w / d.toNat<Lb.B:=by
   rw [XE iw,←hw];have h5:(r+1)*Lb.B≤d.toNat*Lb.B:=Xb _ dX;rw [Xe,Yb,W8 d.toNat] at h5;omega
  refine ⟨by decide,⟨by omega,by omega⟩,by omega,⟨by omega,by rw [pT];omega⟩,by omega,
   (m,((w%d.toNat:Nat):Int),qJ (c.set m (UInt32.ofNat (w / d.toNat)))),⟨c.set m (UInt32.ofNat (w / d.toNat)),w%d.toNat,(by trivial),(by trivial),by simp [hc],by simp only;omega,XA _ iw,?_⟩,by simp only;omega,(by trivial),(by trivial),(by trivial),(by trivial),?_,(by trivial),?_,(by trivial)⟩
  ·simp only
   rw [Lb.zW a m (by omega),hv,Lb.zW (c.set m _) m (by simp;omega),Lb.Dy c m _ (by omega),WY rfl,Lb.ofNat_toNat mM,List.drop_set_of_lt (by omega)];have h1:=ZN w d.toNat
   generalize Lb.val (List.drop (m+1) c)=V
   rw [Xe,W8 (w / d.toNat),Yh,Xu]
   have:Lb.B*r=r*Lb.B:=W8 ..
   omega
  ·rw [vr mM,vo]
  ·rw [qm (by omega)]
 ·rw [tH] at h
  have aT:k=0:=by omega
  subst aT;rw [Xc,Xc] at hv;have di:List.take (qJ c).length c=c:=by rw [pT];exact WX (WU _)
  rw [Xc,qE,di];have h1:Lb.val a / d.toNat=Lb.val c:=by
   rw [hv,W8,ZO iw,Yk dX,XW]
  have h2:Lb.val a%d.toNat=r:=by
   rw [hv,W8,Zp,Xj dX]
  rw [h1,h2];refine ⟨_,uw c (by omega),(by trivial),(by trivial),?_,(by trivial)⟩;rw [xf];congr 1;rw [hB] at jr;omega
theorem Gx (a:List UInt32) (n:Nat) (ha:a.length≤2 ^ 40) (hn:n≤2 ^ 45):F 207 [.t 22 (lim a),.t 2 (.i .i64 (n:Int))] (zo 2 22) [lim (Lb.nat (Lb.val a*2 ^ n))]:=by
 have hB:Lb.B=4294967296:=rfl;have oa:Lb.B=2 ^ 32:=rfl;have hq:uQ .i64 (n:Int) 32=((n / 32:Nat):Int):=D9 (b:=32) (by omega);have hm:uA (n:Int) 32=((n%32:Nat):Int):=B6 (b:=32);have dv:n%32<32:=XA _ (by decide);have dk:2 ^ n=Lb.B ^ (n / 32)*2 ^ (n%32):=by
  rw [Lb.xz,←XL];congr 1;omega
 have dP:2 ^ (n%32)≤2 ^ 31:=XC (by decide) (by omega);have dj:pL .i64 (pL .i64 ((n / 32:Nat):Int) (a.length:Int)) 1=((n / 32+a.length+1:Nat):Int):=by
  rw [pt (x:=((n / 32:Nat):Int)) (by omega),pt (by omega)];omega
 refine Qg _ _ _ (fun i=>∃(c:List UInt32) (s:Nat),i.2.1=(s:Int)∧i.2.2=qJ c∧c.length=n / 32+i.1∧i.1≤a.length∧s<2 ^ (n%32)∧Lb.val c+s*Lb.B ^ (n / 32+i.1)=Lb.pv (Lb.dg a) i.1*2 ^ n)
  (fun i=>a.length-i.1) ?_
 simp only [pC];rw [pE,py,hq,dj,hm];refine ⟨by decide,by decide,⟨by omega,by omega,by omega,by omega⟩,⟨(0,0,qJ (List.replicate (n / 32) 0)),⟨List.replicate (n / 32) 0,0,(by trivial),(by trivial),by simp,by simp,XQ (by decide),?_⟩,(by trivial),(by trivial),(by trivial),?_,(by trivial),(by trivial),(by trivial),(by trivial),(by trivial)⟩,fun _=>(by trivial),?_⟩
 ·simp only [Lb.pv,Nat.zero_mul,Lb.yh]
 ·rw [WP,ri]
 rintro ⟨k,s',xs⟩ ⟨c,s,hs,aL,hc,hk,bc,hv⟩;simp only at hs aL hc hk hv ⊢;subst hs;subst aL;rw [pT c,qE,WX (l:=c) (WU _)];refine ⟨fun h=>?_,fun h=>?_⟩
 ·rw [pw] at h
  have b_:k<a.length:=by omega
  have hx:=Lb.rQ a k;rw [WP,qi a b_,sC,show ((a.getD k 0).toNat)=Lb.dg a k from rfl];have br:Lb.dg a k*2 ^ (n%32)≤(Lb.B-1)*2 ^ (n%32):=Xb _ (by omega);have js:Lb.dg a k*2 ^ (n%32)+s<Lb.B*2 ^ (n%32):=by
   have:Lb.B*2 ^ (n%32)=(Lb.B-1)*2 ^ (n%32)+2 ^ (n%32):=by
    rw [←Nat.succ_mul];rfl
   omega
  have oc:Lb.B*2 ^ (n%32)<18446744073709551616:=by
   have:=Yt Lb.B dP
   have e:Lb.B*2 ^ 31<18446744073709551616:=by decide
   omega
  have e1:qv .or .u64 (s:Int) (zp .u64 (pG .u64 (Lb.dg a k:Int)) ((n%32:Nat):Int))=((Lb.dg a k*2 ^ (n%32)+s:Nat):Int):=by
   rw [rY (by rw [hB] at hx;omega),Cc (by omega) (by omega),TF bc (by omega)]
  rw [e1]
  generalize hw:Lb.dg a k*2 ^ (n%32)+s=w at *
  have aC:(List.replicate 1 (T.i .u32 0)).set 0 (T.i .u32 (pG .u32 (w:Int)))=qJ [UInt32.ofNat (w%Lb.B)]:=by
   rw [vq];rfl
  rw [aC,sz,Ei];simp only [pT];refine ⟨⟨by omega,by omega⟩,by decide,by omega,⟨by simp only [Xv];(try unfold Rm);unfold room;omega,by simp only [Xv];omega⟩,by decide,
   (k+1,((w / Lb.B:Nat):Int),qJ (c++[UInt32.ofNat (w%Lb.B)])),⟨c++[UInt32.ofNat (w%Lb.B)],w / Lb.B,(by trivial),(by trivial),by simp;omega,by simp only;omega,?_,?_⟩,by simp only;omega,(by trivial),(by trivial),(by trivial),(by trivial),?_,(by trivial),(by trivial),?_,(by trivial)⟩
  ·rw [XE Lb.qL,W8];exact js
  ·simp only
   rw [Lb.vJ,Lb.ofNat_toNat (XA _ Lb.qL),hc,Lb.pv,Xe,←hv];have e2:w / Lb.B*Lb.B ^ (n / 32+(k+1))=(w / Lb.B*Lb.B)*Lb.B ^ (n / 32+k):=by
    rw [←YD,Xt,W8 (Lb.B ^ (n / 32+k)),Xu]
   have e3:w%Lb.B*Lb.B ^ (n / 32+k)+w / Lb.B*Lb.B*Lb.B ^ (n / 32+k)=(Lb.dg a k*2 ^ (n%32))*Lb.B ^ (n / 32+k)+s*Lb.B ^ (n / 32+k):=by
    rw [←Xe,W8 (w / Lb.B),Yx,←hw,Xe]
   have e4:Lb.dg a k*Lb.B ^ k*2 ^ n=(Lb.dg a k*2 ^ (n%32))*Lb.B ^ (n / 32+k):=by
    rw [dk,XL];simp only [Ya,W8,Xu]
   rw [e2,e4,W8 (Lb.B ^ (n / 32+k))];omega
  ·congr 1
  ·rw [pt (by omega)];congr 1
 ·rw [pF] at h
  have aR:k=a.length:=by omega
  have fV:s<Lb.B:=by rw [hB];omega
  have aC:(List.replicate 1 (T.i .u32 0)).set 0 (T.i .u32 (pG .u32 (s:Int)))=qJ [UInt32.ofNat s]:=by
   rw [vr fV];rfl
  rw [aC,sz];simp only [pT];refine ⟨⟨by simp only [Xv];(try unfold Rm);unfold room;omega,by simp only [Xv];omega⟩,_,uw (c++[UInt32.ofNat s]) (by simp;omega),(by trivial),?_,(by trivial)⟩
  congr 2
  rw [Lb.vJ,Lb.ofNat_toNat fV,hc,W8 (Lb.B ^ (n / 32+k)),hv,aR,←Lb.rA a a.length (WU _)]
theorem Q7 (a:List UInt32) (n:Nat) (ha:a.length≤2 ^ 40) (hn:n≤2 ^ 45):F 209 [.t 22 (lim a),.t 2 (.i .i64 (n:Int))] (zo 2 22) [lim (Lb.nat (Lb.val a / 2 ^ n))]:=by
 have hB:Lb.B=4294967296:=rfl;have hq:uQ .i64 (n:Int) 32=((n / 32:Nat):Int):=D9 (b:=32) (by omega);have hm:uA (n:Int) 32=((n%32:Nat):Int):=B6 (b:=32);have dv:n%32<32:=XA _ (by decide);have dk:2 ^ n=Lb.B ^ (n / 32)*2 ^ (n%32):=by
  rw [Lb.xz,←XL];congr 1;omega
 refine Qi _ _ _ (fun i=>∃(c:List UInt32),i.2=qJ c∧i.1=n / 32+c.length∧c.length≤a.length∧Lb.val c=Lb.val a / 2 ^ n%Lb.B ^ c.length)
  (fun i=>a.length-i.1) ?_
 simp only [pC];rw [pE,py,hq,hm];refine ⟨by decide,⟨(n / 32,qJ []),⟨[],(by trivial),(by trivial),by simp,by simp [Lb.val,Nat.mod_one]⟩,(by trivial),(by trivial),(by trivial),(by trivial),(by trivial),(by trivial)⟩,fun _=>(by trivial),?_⟩;rintro ⟨k,xs⟩ ⟨c,aL,hk,gL,hv⟩;simp only at aL hk ⊢;subst aL;rw [pT c,Xc,qE,WX (l:=c) (WU _)];refine ⟨fun h=>?_,fun h=>?_⟩
 ·rw [pw] at h
  have b_:k<a.length:=by omega
  rw [show pL .i64 (k:Int) 1=((k+1:Nat):Int) by rw [pt (by omega)];omega];refine ⟨_,Hm a (k+1),by decide,_,Hm a k,by decide,by omega,?_⟩;simp only [pC];have hx:=Lb.rQ a k;have hy:=Lb.rQ a (k+1);have e1:qv .or .u64 (zp .u64 (Lb.dg a (k+1):Int) 32) (Lb.dg a k:Int)=((Lb.dg a (k+1)*Lb.B+Lb.dg a k:Nat):Int):=by
   rw [show (32:Int)=((32:Nat):Int) from rfl,Cc (by decide) (by rw [hB] at hy;omega),KF (by exact hx) (by rw [hB] at hx hy;omega)];rfl
  rw [e1,Ov (by omega)]
  generalize hw:Lb.dg a (k+1)*Lb.B+Lb.dg a k=w at *
  have aC:(List.replicate 1 (T.i .u32 0)).set 0 (T.i .u32 (pG .u32 ((w / 2 ^ (n%32):Nat):Int)))=qJ [UInt32.ofNat (w / 2 ^ (n%32)%Lb.B)]:=by
   rw [vq];rfl
  rw [aC,sz];simp only [pT];refine ⟨⟨by simp only [Xv];(try unfold Rm);unfold room;omega,by simp only [Xv];omega⟩,
   (k+1,qJ (c++[UInt32.ofNat (w / 2 ^ (n%32)%Lb.B)])),⟨c++[UInt32.ofNat (w / 2 ^ (n%32)%Lb.B)],(by trivial),by simp;omega,by simp;omega,?_⟩,by simp only;omega,(by trivial),(by trivial),(by trivial),(by trivial),(by trivial),(by trivial)⟩
  ·rw [Lb.vJ,Lb.ofNat_toNat (XA _ Lb.qL),hv,WN,Xv,Xt,ZQ]
   congr 2
   have e2:w=Lb.val a / Lb.B ^ k%(Lb.B*Lb.B):=by
    rw [ZQ,←Lb.vU,XN,←Xt,←Lb.vU,←hw,W8 Lb.B,ZI]
   have e3:Lb.B*Lb.B=2 ^ (n%32)*(Lb.B*2 ^ (32-n%32)):=by
    rw [Ya,←XL,ZV (by omega)];rfl
   rw [e2,e3,Zx,Nat.mod_mul_right_mod,XN,XN,hk,dk,XL]
   congr 2
   simp only [Ya,W8,Xu]
 ·rw [pF] at h
  refine ⟨_,uw c (by omega),(by trivial),?_,(by trivial)⟩
  congr 2
  rw [hv];apply Xj;rw [dk,←XN];refine XS (YC _ _) ?_;rw [XE (XQ Lb.qL),←XL];exact Xz (Lb.qV a) (XC Lb.qL (by omega))
end Go.Pq
namespace Lb
def bl (n:Nat):Nat:=if n=0 then 0 else n.log2+1
theorem OJ (n:Nat):n<2 ^ bl n:=by
 unfold bl;split
 ·omega
 ·exact Nat.lt_log2_self
theorem LS {n:Nat} (h:n≠0):2 ^ (bl n-1)≤n:=by
 unfold bl;rw [WZ h,YO];exact Nat.log2_self_le h
theorem Dm {n:Nat} (h:n≠0):0<bl n:=by unfold bl;rw [WZ h];omega
theorem OI {n k:Nat} (h1:n<2 ^ k) (h2:k=0∨2 ^ (k-1)≤n):bl n=k:=by
 by_cases h:n=0
 ·subst h
  rcases h2 with h2 | h2
  ·rw [h2];rfl
  ·have:0<2 ^ (k-1):=XQ (by decide)
   omega
 ·have a1:=OJ n
  have a2:=LS h;have a3:=Dm h
  rcases h2 with h2 | h2
  ·subst h2;omega
  ·have q1:=(Yz (by decide:1<2)).1 (XS a2 h1)
   have q2:=(Yz (by decide:1<2)).1 (XS h2 a1)
   have:k≠0:=by intro q;subst q;simp at h1;exact h h1
   omega
theorem yw {n k:Nat} (h:n<2 ^ k):bl n≤k:=by
 by_cases hz:n=0
 ·subst hz;simp [bl]
 ·have a2:=LS hz
  have q1:=(Yz (by decide:1<2)).1 (XS a2 h)
  have:=Dm hz
  omega
theorem F3 {n k:Nat} (h:2 ^ k≤n):bl n=bl (n / 2 ^ k)+k:=by
 have hp:0<2 ^ k:=XQ (by decide);have hz:n / 2 ^ k≠0:=by
  have:=(Nat.one_le_div_iff hp).2 h
  omega
 apply OI
 ·rw [XL]
  exact (XE hp).1 (OJ _)
 ·right
  have a2:=LS hz;have a3:=Dm hz;rw [show bl (n / 2 ^ k)+k-1=(bl (n / 2 ^ k)-1)+k by omega,XL];exact (YU hp).1 a2
theorem NN {a:List UInt32} (hc:Canon a) (hn:a≠[]):bl (val a)=32*(a.length-1)+bl (dg a (a.length-1)):=by
 have hl:0<a.length:=XB.2 hn;have hd:dg a (a.length-1)=val a / 2 ^ (32*(a.length-1)):=by
  rw [←xz,vU];apply Xj;rw [XE (XQ qL),W8,←Xt]
  have:=qV a
  rw [show (a.length-1).succ=a.length by omega];exact this
 have:=hc.lower hn
 rw [xz] at this;rw [F3 this,hd];omega
end Lb
namespace Go.Pq
open Go.Pl Go.Proofs
theorem T4:((List.range 256).all fun i=>Ak (bs vO) (i:Int) == (Lb.bl i:Int))=true:=by kernel_rfl
theorem Ls {n:Nat} (h:n<256):Ak (bs vO) (n:Int)=(Lb.bl n:Int):=by
 have:=List.all_eq_true.1 T4 n (XJ.2 h)
 simpa using this
theorem Rq:(bs vO).size=256:=by kernel_rfl
theorem Ej {n k:Nat} (hk:k≤32):sE .u32 (n:Int) (k:Int)=((n / 2 ^ k:Nat):Int):=by
 unfold sE;rw [show IntKind.u32.bits=32 from rfl,WP,YB hk];rw [XZ _ (by exact_mod_cast WS (2 ^ k))];simp
theorem Dx {n:Nat} (h:n<256):pG .u8 (n:Int)=(n:Int):=by
 unfold pG;rw [UP];omega
theorem QE (x:UInt32):F 216 [.t 155 (lm x)] (zo 1 2) [.i .i64 (Lb.bl x.toNat:Int)]:=by
 have hx:x.toNat<4294967296:=x.toNat_lt;have hi:(lm x).int=(x.toNat:Int):=rfl;refine Ql _ _ ?_;have s16:sE .u32 (x.toNat:Int) 16=((x.toNat / 65536:Nat):Int):=Ej (k:=16) (by decide);have s8:sE .u32 (x.toNat:Int) 8=((x.toNat / 256:Nat):Int):=Ej (k:=8) (by decide);have s24:sE .u32 ((x.toNat / 65536:Nat):Int) 8=((x.toNat / 65536 / 256:Nat):Int):=Ej (k:=8) (by decide);rw [hi,s16,s8,s24,Rq];have fin:∀{n:Nat} (_:n<256) (k:Nat),k≤24→pL .i64 (k:Int) (pG .i64 (Ak (bs vO) (pG .u8 (n:Int))))=((Lb.bl n+k:Nat):Int):=by
  intro n hn k hk
  have:=Lb.yw (n:=n) (k:=8) hn
  rw [Dx hn,Ls hn,vT (by omega),pt (by omega)];omega
 refine ⟨fun h=>⟨by decide,fun h2=>?_,fun h2=>?_⟩,fun h=>⟨fun h2=>?_,fun h2=>?_⟩⟩
 ·rw [rD] at h h2
  have hn:x.toNat / 65536 / 256<256:=by omega
  have e:pL .i64 16 8=((24:Nat):Int):=by rw [pt (by omega)];rfl
  rw [e,fin hn 24 (by omega),Dx hn];refine ⟨by decide,⟨by omega,by omega⟩,(by trivial),?_,(by trivial)⟩;rw [Lb.F3 (n:=x.toNat) (k:=24) (by omega),XN]
 ·rw [rD] at h
  rw [tH] at h2;have hn:x.toNat / 65536<256:=by omega
  have e:=fin hn 16 (by omega);rw [show ((16:Nat):Int)=16 from rfl] at e;rw [e,Dx hn];refine ⟨⟨by omega,by omega⟩,(by trivial),?_,(by trivial)⟩;rw [Lb.F3 (n:=x.toNat) (k:=16) (by omega)]
 ·rw [rD] at h2
  rw [tH] at h;have hn:x.toNat / 256<256:=by omega
  have e:pL .i64 0 8=((8:Nat):Int):=by rw [pt (by omega)];rfl
  rw [e,fin hn 8 (by omega),Dx hn];refine ⟨by decide,⟨by omega,by omega⟩,(by trivial),?_,(by trivial)⟩;rw [Lb.F3 (n:=x.toNat) (k:=8) (by omega)]
 ·rw [tH] at h h2
  have hn:x.toNat<256:=by omega
  have e:=fin hn 0 (by omega);rw [show ((0:Nat):Int)=0 from rfl] at e;rw [e,Dx hn];refine ⟨⟨by omega,by omega⟩,(by trivial),?_,(by trivial)⟩;rfl
theorem Tp (x:UInt32):F 214 [.t 155 (lm x)] (zo 1 2) [.i .i64 ((32-Lb.bl x.toNat:Nat):Int)]:=by
 have:=Lb.yw (n:=x.toNat) (k:=32) x.toNat_lt
 refine Qk _ _ ⟨_,QE x,(by trivial),?_,(by trivial)⟩;rw [pC,qm (by omega)]
 congr 1
 omega
theorem Mw (a:List UInt32) (ha:a.length≤2 ^ 40) (hc:Lb.Canon a):F 206 [.t 22 (lim a)] (zo 1 2) [.i .i64 (Lb.bl (Lb.val a):Int)]:=by
 refine Qf _ _ ?_;rw [pE,py];refine ⟨fun h=>?_,fun h=>?_⟩
 ·rw [qe] at h
  have:a=[]:=Yf.1 (by omega)
  subst this;exact ⟨(by trivial),rfl,(by trivial)⟩
 ·rw [rk] at h
  have hl:0<a.length:=by omega
  have hn:a≠[]:=XB.1 hl;have e:qc .i64 (a.length:Int) 1=((a.length-1:Nat):Int):=by rw [qm (by omega)];omega
  rw [e,WP,qi a (by omega)];refine ⟨⟨by omega,by omega⟩,_,Tp _,(by trivial),?_,(by trivial)⟩;have hb:=Lb.yw (n:=(a.getD (a.length-1) 0).toNat) (k:=32) (UInt32.toNat_lt _);rw [pC,Lb.NN hc hn,xU (by omega),qm (by omega)]
  have:Lb.dg a (a.length-1)=(a.getD (a.length-1) 0).toNat:=rfl
  rw [this]
  congr 1
  omega
end Go.Pq
namespace Lb
theorem ub {x y m n:Nat} (h1:x<B ^ m) (h2:y<B ^ n):(nat (x*y)).length≤m+n:=by
 apply tN;rw [XL]
 rcases XT y with q | q
 ·subst q;simp;exact Nat.mul_pos (XQ qL) (XQ qL)
 ·exact Zw h1 (Zt h2) (by omega)
theorem xD {b:List UInt32} (hc:Canon b) (hn:b≠[]):0<val b:=by
 have:=hc.lower hn
 have h2:0<B ^ (b.length-1):=XQ qL;omega
theorem C8 (x:UInt32):val [x]=x.toNat:=by simp [val]
theorem Mq {U V m l tu tv Q:Nat} (hu:tu=U / B ^ (m+l)) (hv:tv=V / B ^ l) (v_:tv≠0) (hq:Q*(V*B ^ m)≤U):Q≤tu / tv:=by
 rw [YU (by omega),hu,YU (XQ qL)];have h1:tv*B ^ l≤V:=by rw [hv];exact Nat.div_mul_le_self _ _
 have h2:Q*tv*B ^ (m+l)=Q*((tv*B ^ l)*B ^ m):=by
  rw [XL];simp only [Ya,W8,Xu]
 rw [h2];exact XU (Yt _ (Xb _ h1)) hq
end Lb
namespace Go.Pq
open Go.Pl Go.Proofs
theorem Tu {x y:UInt32} (h:lm x=lm y):x=y:=by
 unfold lm at h
 injection h with _ h
 exact Zk.1 (by omega)
theorem Fi {a b:List UInt32} (h:lim a=lim b):a=b:=by
 unfold lim at h
 injection h with h
 unfold qJ at h;exact (List.map_inj_right fun _ _=>Tu).1 h
def lv (t:T):Nat:=Lb.val (t.list.map fun x=>UInt32.ofNat x.int.toNat)
theorem Gy (a:List UInt32):lv (lim a)=Lb.val a:=by
 unfold lv;rw [pE];unfold qJ;rw [Yo]
 congr 1
 conv=>rhs;rw [←List.map_id a]
 apply Yu;intro x _
 show UInt32.ofNat (Int.toNat (x.toNat:Int))=x
 rw [WP,UInt32.ofNat_toNat]
theorem KJ (a b:List UInt32) (ha:a.length≤2 ^ 32) (hb:b.length≤2 ^ 32) (hc:Lb.Canon b) (hn:b≠[]) :
  F 191 [.t 22 (lim a),.t 22 (lim b)] Z3 [lim (Lb.nat (Lb.val a / Lb.val b)),lim (Lb.nat (Lb.val a%Lb.val b))]:=by
 have hB:Lb.B=4294967296:=rfl;have iy:=Lb.xD hc hn;have lD:0<b.length:=XB.2 hn;have j6:∃n:Nat,n=32*b.length-Lb.bl (Lb.val b)∧n<32∧Lb.bl (Lb.val b)≤32*b.length:=by
  refine ⟨_,rfl,?_,?_⟩
  ·rw [Lb.NN hc hn]
   rcases hc with h | h
   ·exact absurd h hn
   ·have:=Lb.Dm h
    omega
  ·apply Lb.yw
   rw [←Lb.xz];exact Lb.qV b
 obtain ⟨n,jU,od,oe⟩:=j6;have gM:2 ^ n≤2 ^ 31:=XC (by decide) (by omega);have mN:2 ^ n<Lb.B ^ 1:=by rw [ZR,hB];omega
 have p_:0<2 ^ n:=XQ (by decide)
 generalize hV:Lb.val b*2 ^ n=V at *
 generalize j7:Lb.val a*2 ^ n=U0 at *
 have mO:0<V:=by rw [←hV];exact Nat.mul_pos iy p_
 have pa:(Lb.nat V).length≤b.length+1:=by rw [←hV];exact Lb.ub (Lb.qV b) mN
 have pb:(Lb.nat U0).length≤a.length+1:=by rw [←j7];exact Lb.ub (Lb.qV a) mN
 have lG:Lb.nat V≠[]:=fun q=>by have:=Lb.sA.1 q;omega
 have eJ:=(Lb.p8 V).lower lG;have fC:=Lb.qV (Lb.nat V);have fD:=Lb.qV (Lb.nat U0);rw [Lb.pA] at eJ fC fD;have og:0<(Lb.nat V).length:=XB.2 lG
 generalize ai:(Lb.nat V).length=lv at *
 generalize oh:(Lb.nat U0).length=lu at *
 have hL:xk (0:Int) (pL .i64 (qc .i64 (lu:Int) (lv:Int)) 1)=((lu+1-lv:Nat):Int):=by
  rw [qm (by omega),pt (by omega)];unfold xk;split<;>omega
 refine P7 _ _ _ _
  (fun i=>∃(c:List UInt32) (U:Nat),i.2.2.1=lim (Lb.nat V)∧i.2.2.2.1=.i .i64 (n:Int)∧i.2.2.2.2=qJ c∧c.length=lu+1-lv∧i.1≤lu+1-lv∧i.2.1=lim (Lb.nat U)∧U<V*Lb.B ^ i.1∧Lb.val (c.drop i.1)*V*Lb.B ^ i.1+U=U0)
  (fun i=>i.1)
  (fun i j=>∃(U G:Nat),0<i.1∧i.2.1=lim (Lb.nat U)∧j.1=(G:Int)∧G<Lb.B∧U / (V*Lb.B ^ (i.1-1))≤G∧j.2=lim (Lb.nat (V*G*Lb.B ^ (i.1-1))))
  (fun _ j=>j.1.toNat) ?_
 rw [pE,py];refine ⟨fun h=>?_,fun h=>?_⟩
 ·
  rw [qe] at h;obtain ⟨d,rfl⟩:=List.length_eq_one_iff.1 (show b.length=1 by omega);have hd:d≠0:=by
   rintro rfl;simp [Lb.val] at iy
  have lH:Lb.val [d]=d.toNat:=by simp [Lb.val]
  have o_:((qJ [d]).getD (Int.toNat 0) .u).cell 0=lm d:=rfl;rw [o_];have b_:Lb.val a%d.toNat<Lb.B:=Xz (XA _ (by rw [←lH];exact iy)) (Zt d.toNat_lt);have aC:(List.replicate 1 (T.i .u32 0)).set 0 (T.i .u32 ((Lb.val a%d.toNat:Nat):Int))=qJ [UInt32.ofNat (Lb.val a%d.toNat)]:=by
   rw [Kq rfl b_];rfl
  refine ⟨⟨by omega,by omega⟩,_,_,Rr a d (by omega) hd,_,?_,(by trivial),?_,rfl,(by trivial)⟩
  ·rw [aC]
   have:=uw [UInt32.ofNat (Lb.val a%d.toNat)] (by simp)
   have aq:Lb.val [UInt32.ofNat (Lb.val a%d.toNat)]=Lb.val a%Lb.val [d]:=by
    rw [lH,Lb.C8,Lb.ofNat_toNat b_]
   rw [aq] at this;exact this
  ·rw [lH]
 ·
  have dv:qc .i64 (zk .i64 32 (b.length:Int)) (Lb.bl (Lb.val b):Int)=(n:Int):=by
   rw [xU (by omega),qm (by omega)];omega
  have mP:=Gx a n (by omega) (by omega);have mQ:=Gx b n (by omega) (by omega);rw [j7] at mP;rw [hV] at mQ;refine ⟨_,Mw b (by omega) hc,lim (Lb.nat U0),?_,lim (Lb.nat V),?_,?_⟩
  ·rw [pC,dv];exact mP
  ·rw [pC,dv];exact mQ
  rw [pC,dv,pE,pE,py,py,oh,ai,hL,WP,ri];have eK:U0<V*Lb.B ^ (lu+1-lv):=by
   by_cases q:lv≤lu+1
   ·have h1:Lb.B ^ lu≤Lb.B ^ (lv-1)*Lb.B ^ (lu+1-lv):=by
     rw [←XL];exact XC Lb.qL (by omega)
    exact Xz fD (XU h1 (Xb _ eJ))
   ·have h1:Lb.B ^ lu≤Lb.B ^ (lv-1):=XC Lb.qL (by omega)
    have e:lu+1-lv=0:=by omega
    rw [e,ZJ,Yq];exact Xz fD (XU h1 eJ)
  refine ⟨⟨by omega,by omega,by omega,by omega⟩,⟨(lu+1-lv,lim (Lb.nat U0),lim (Lb.nat V),.i .i64 (n:Int),qJ (List.replicate (lu+1-lv) 0)),
   ⟨List.replicate (lu+1-lv) 0,U0,rfl,rfl,rfl,by simp,WU _,rfl,eK,by simp [Lb.val]⟩,rfl,rfl,rfl,rfl,rfl,rfl,rfl,?_,(by trivial)⟩,fun _=>rfl,?_⟩
  ·rw [pT,Xm,qm (by omega)]
  rintro ⟨k,u,v,up,q⟩ ⟨c,U,hv,j6,hq,cI,hk,hu,eL,eM⟩;simp only at hv j6 hq hk hu eL eM ⊢;subst hv;subst j6;subst hq;subst hu;have lI:U≤U0:=by omega
  have oi:(Lb.nat U).length≤lu:=Lb.tN _ _ (XS lI fD);refine ⟨fun aT=>?_,fun aT=>?_⟩
  ·rw [rD] at aT
   obtain ⟨m,rfl⟩:∃m,k=m+1:=⟨k-1,by omega⟩;have em:((m+1:Nat):Int)-1=(m:Int):=by omega
   simp only [YO];rw [em,pE,py,ai];have e1:pL .i64 (m:Int) (lv:Int)=((m+lv:Nat):Int):=by rw [pt (by omega)];omega
   have e2:qc .i64 ((m+lv:Nat):Int) 1=((m+lv-1:Nat):Int):=by rw [qm (by omega)];omega
   have e3:qc .i64 (lv:Int) 1=((lv-1:Nat):Int):=by rw [qm (by omega)];omega
   have e4:zk .i64 32 (m:Int)=((32*m:Nat):Int):=by rw [xU (by omega)];omega
   rw [e1,e2,e3,e4];have hx:=Lb.rQ (Lb.nat U) (m+lv);have hy:=Lb.rQ (Lb.nat U) (m+lv-1);have hz:=Lb.rQ (Lb.nat V) (lv-1)
   generalize jb:Lb.dg (Lb.nat U) (m+lv)*Lb.B+Lb.dg (Lb.nat U) (m+lv-1)=tu at *
   generalize j8:Lb.dg (Lb.nat V) (lv-1)=tv at *
   have ol:qv .or .u64 (zp .u64 (Lb.dg (Lb.nat U) (m+lv):Int) 32) (Lb.dg (Lb.nat U) (m+lv-1):Int)=(tu:Int):=by
    rw [show (32:Int)=((32:Nat):Int) from rfl,Cc (by decide) (by rw [hB] at hx;omega),KF (by exact hy) (by rw [hB] at hx hy;omega),←jb];rfl
   have lJ:tv≠0:=by
    rcases Lb.p8 V with h | h
    ·exact absurd h lG
    ·rw [ai,j8] at h;exact h
   have lK:tu=U / Lb.B ^ (m+(lv-1)):=by
    have h1:U<Lb.B ^ (m+lv+1):=by
     have:V*Lb.B ^ (m+1)≤Lb.B ^ lv*Lb.B ^ (m+1):=Xb _ (Zt fC)
     rw [←XL] at this;rw [show m+lv+1=lv+(m+1) by omega];omega
    rw [←jb,Lb.vU,Lb.vU,Lb.pA,show m+(lv-1)=m+lv-1 by omega];have h2:U / Lb.B ^ (m+lv)<Lb.B:=by
     rw [XE (XQ Lb.qL),W8,←Xt];exact h1
    rw [Xj h2];have h3:Lb.B ^ (m+lv)=Lb.B ^ (m+lv-1)*Lb.B:=by rw [←Xt];congr 1;omega
    rw [h3,←XN,W8,ZI];exact Yx _ _
   have lL:tv=V / Lb.B ^ (lv-1):=by
    rw [←j8,Lb.vU,Lb.pA];apply Xj;rw [XE (XQ Lb.qL),W8,←Xt,show (lv-1).succ=lv by omega];exact fC
   have lM:tu<18446744073709551616:=by rw [←jb,hB];rw [hB] at hx hy;omega
   have j9:0<V*Lb.B ^ m:=Nat.mul_pos mO (XQ Lb.qL);have pc:U / (V*Lb.B ^ m)<Lb.B:=by
    rw [XE j9,W8,Xu,←Xt];exact eL
   have om:U / (V*Lb.B ^ m)≤tu / tv:=Lb.Mq lK lL lJ (Nat.div_mul_le_self _ _);have lN:xT (uQ .u64 (tu:Int) (tv:Int)) 4294967295=((min (tu / tv) (Lb.B-1):Nat):Int):=by
    have bk:Lb.B-1=4294967295:=by omega
    rw [Om lM,bk]
    generalize tu / tv=z
    unfold xT;split<;>omega
   have gd:min (tu / tv) (Lb.B-1)<Lb.B:=by rw [hB];omega
   have c9:U / (V*Lb.B ^ m)≤min (tu / tv) (Lb.B-1):=by rw [Nat.le_min];exact ⟨om,by omega⟩
   generalize hG:min (tu / tv) (Lb.B-1)=G at *
   have b7:T.l ((List.replicate 1 (T.i .u32 0)).set 0 (T.i .u32 (pG .u32 (G:Int))))=lim [UInt32.ofNat G]:=by
    rw [vr gd];rfl
   have jt:Lb.val [UInt32.ofNat G]=G:=by rw [Lb.C8,Lb.ofNat_toNat gd]
   have c1:=uw [UInt32.ofNat G] (by simp);rw [jt] at c1;have pd:(Lb.nat G).length≤1:=Lb.tN _ _ (by rw [ZR];exact gd);have c2:=za (Lb.nat V) (Lb.nat G) (by omega) (by omega);rw [Lb.pA,Lb.pA] at c2;have ju:∀z,z<Lb.B→(Lb.nat (V*z)).length≤lv+1:=fun z hz=>Lb.ub fC (by rw [ZR];exact hz);have mR:∀z,z<Lb.B→(Lb.nat (V*z*Lb.B ^ m)).length≤lv+1+(m+1):=fun z hz =>
    Lb.ub (m:=lv+1) (by have:=Lb.qV (Lb.nat (V*z));rw [Lb.pA] at this;exact Xz this (XC Lb.qL (ju z hz)))
     (by rw [Xt];have:0<Lb.B ^ m:=XQ Lb.qL;rw [hB] at this ⊢;omega)
   have c3:=Gx (Lb.nat (V*G)) (32*m) (by have:=ju G gd;omega) (by omega);rw [Lb.pA,←Lb.xz] at c3;have c4:=Gx (Lb.nat V) (32*m) (by omega) (by omega);rw [Lb.pA,←Lb.xz] at c4;refine ⟨_,Hm (Lb.nat U) (m+lv),by decide,_,Hm (Lb.nat U) (m+lv-1),_,Hm (Lb.nat V) (lv-1),?_,?_⟩
   ·rw [pC,j8];omega
   rw [pC,pC,pC,ol,j8,lN,b7];refine ⟨_,c1,_,c2,_,c3,⟨((G:Int),lim (Lb.nat (V*G*Lb.B ^ m))),⟨U,G,by omega,rfl,rfl,gd,c9,rfl⟩,(by trivial),(by trivial),(by trivial),(by trivial),(by trivial),(by trivial),(by trivial),(by trivial),(by trivial),(by trivial),(by trivial),(by trivial)⟩,fun _=>(by trivial),?_⟩;rintro ⟨g,p⟩ ⟨U',G',-,mS,hg,jv,hQ,hp⟩;simp only [YO] at mS hg hQ hp ⊢;subst hg;subst hp;have oo:U'=U:=by
    have:=Xx Lb.val (Fi mS)
    rw [Lb.pA,Lb.pA] at this;exact this.symm
   subst oo;have c5:=Cu (Lb.nat U') (Lb.nat (V*G'*Lb.B ^ m)) (by omega) (by have:=mR G' jv;omega);rw [Lb.pA,Lb.pA] at c5;refine ⟨_,c5,fun b_=>?_,fun fx=>?_⟩
   ·rw [pC,pw] at b_
    have b_:U'<V*G'*Lb.B ^ m:=by
     unfold F7 at b_
     by_cases q:U'<V*G'*Lb.B ^ m
     ·exact q
     ·rw [WZ q] at b_;split at b_<;>omega
    have ka:U' / (V*Lb.B ^ m)<G' := by
     rw [XE j9,←Xu,W8 G'];exact b_
    obtain ⟨G1,rfl⟩:∃z,G'=z+1:=⟨G'-1,(Nat.succ_pred_eq_of_pos (XS (WS _) ka)).symm⟩;have y_:V*(G1+1)*Lb.B ^ m-V*Lb.B ^ m=V*G1*Lb.B ^ m:=by
     rw [Yh,Yq,Xe,YO]
    have c6:=CJ (Lb.nat (V*(G1+1)*Lb.B ^ m)) (Lb.nat (V*Lb.B ^ m)) (by have:=mR _ jv;omega) (by
     rw [Lb.pA,Lb.pA,Yh,Yq,Xe];omega)
    rw [Lb.pA,Lb.pA,y_] at c6;refine ⟨_,c4,_,c6,((G1:Int),lim (Lb.nat (V*G1*Lb.B ^ m))),⟨U',G1,by omega,rfl,rfl,by omega,Nat.le_of_lt_succ ka,rfl⟩,by simp only;omega,(by trivial),(by trivial),(by trivial),(by trivial),(by trivial),(by trivial),(by trivial),(by trivial),(by trivial),?_,(by trivial),(by trivial)⟩;rw [hB] at jv;rw [Er (by omega)]
    congr 1
    simp only;omega
   ·rw [pC,pF] at fx
    have fx:V*G'*Lb.B ^ m≤U' := by
     unfold F7 at fx
     by_cases q:U'<V*G'*Lb.B ^ m
     ·rw [WY q] at fx;omega
     ·omega
    have ka:U' / (V*Lb.B ^ m)=G' := by
     refine Nat.le_antisymm hQ ?_;rw [YU j9,←Xu,W8 G'];exact fx
    have c6:=CJ (Lb.nat U') (Lb.nat (V*G'*Lb.B ^ m)) (by omega) (by rw [Lb.pA,Lb.pA];exact fx);rw [Lb.pA,Lb.pA] at c6;have mT:=ZN U' (V*Lb.B ^ m);rw [ka] at mT;have e5:V*Lb.B ^ m*G'=V*G'*Lb.B ^ m:=by simp only [Ya,W8,Xu]
    rw [e5] at mT;have a7:=XA U' j9;refine ⟨_,c6,⟨by omega,by rw [pT];omega⟩,(m,lim (Lb.nat (U'-V*G'*Lb.B ^ m)),lim (Lb.nat V),.i .i64 (n:Int),qJ (c.set m (UInt32.ofNat G'))),
     ⟨c.set m (UInt32.ofNat G'),U'-V*G'*Lb.B ^ m,rfl,rfl,rfl,by simp [cI],by simp only;omega,rfl,?_,?_⟩,by simp only;omega,(by trivial),(by trivial),?_,(by trivial),(by trivial),(by trivial),(by trivial),?_,(by trivial)⟩
    ·simp only;omega
    ·simp only
     rw [Lb.zW (c.set m _) m (by simp;omega),Lb.Dy c m _ (by omega),WY rfl,Lb.ofNat_toNat jv,List.drop_set_of_lt (by omega),Xe,Xe,←eM];have e6:Lb.B*Lb.val (List.drop (m+1) c)*V*Lb.B ^ m=Lb.val (List.drop (m+1) c)*V*Lb.B ^ (m+1):=by
      rw [Xt];simp only [Ya,W8,Xu]
     have e7:G'*V*Lb.B ^ m=V*G'*Lb.B ^ m:=by rw [W8 G']
     rw [e6,e7];omega
    ·rw [WP,WV,vr jv,vo]
    ·rw [qm (by omega)]
  ·rw [tH] at aT
   have jP:k=0:=by omega
   subst jP;rw [ZJ,Yq,Xc] at eM;rw [ZJ,Yq] at eL;have di:List.take (qJ c).length c=c:=by rw [pT];exact WX (WU _)
   rw [Xc,qE,di];have d1:Lb.val a / Lb.val b=Lb.val c:=by
    rw [←Nat.mul_div_mul_right _ _ p_,j7,hV,←eM,W8,ZO mO,Yk eL,XW]
   have d2:U / 2 ^ n=Lb.val a%Lb.val b:=by
    have:U=U0%V:=by rw [←eM,W8,Zp,Xj eL]
    rw [this,←j7,←hV,Nat.mul_mod_mul_right,Nat.mul_div_cancel _ p_]
   have c7:=Q7 (Lb.nat U) n (by omega) (by omega);rw [Lb.pA,d2] at c7;refine ⟨_,uw c (by omega),_,c7,(by trivial),by rw [d1],rfl,(by trivial)⟩
theorem Qx (a b:List UInt32) (ha:a.length≤2 ^ 32) (hb:b.length≤2 ^ 32) (gL:Lb.Canon a) (dE:Lb.Canon b) :
  F 154 [.t 22 (lim a),.t 22 (lim b)] (zo 2 22) [lim (Lb.nat (Nat.gcd (Lb.val a) (Lb.val b)))]:=by
 refine PE _ _ _ (fun i=>∃x y:List UInt32,i.1=lim x∧i.2=lim y∧x.length≤2 ^ 32∧y.length≤2 ^ 32∧Lb.Canon x∧Lb.Canon y∧Nat.gcd (Lb.val x) (Lb.val y)=Nat.gcd (Lb.val a) (Lb.val b))
  (fun i=>(lv i.2)) ⟨⟨(lim a,lim b),⟨a,b,rfl,rfl,ha,hb,gL,dE,rfl⟩,rfl,rfl,rfl,(by trivial)⟩,fun _=>rfl,?_⟩
 rintro ⟨x',y'⟩ ⟨x,y,hx,hy,jw,fO,gr,gO,hg⟩;simp only at hx hy ⊢;subst hx;subst hy;rw [pE,py];refine ⟨fun h=>?_,fun h=>?_⟩
 ·rw [pw] at h
  have hn:y≠[]:=XB.1 (by omega);have hp:=Lb.xD gO hn;have a7:=XA (Lb.val x) hp;refine ⟨_,_,KJ x y jw fO gO hn,(lim y,lim (Lb.nat (Lb.val x%Lb.val y))),⟨y,Lb.nat (Lb.val x%Lb.val y),rfl,rfl,fO,?_,gO,Lb.p8 _,?_⟩,?_,rfl,rfl,(by trivial),(by trivial)⟩
  ·exact XU (Lb.tN _ y.length (Nat.lt_trans a7 (Lb.qV y))) fO
  ·rw [Lb.pA,←hg,Zu (Lb.val y),←Nat.gcd_rec,Zu]
  ·simp only
   rw [Gy,Gy,Lb.pA];exact a7
 ·rw [pF] at h
  have:y=[]:=Yf.1 (by omega)
  subst this;refine ⟨(by trivial),?_,(by trivial)⟩;rw [←hg]
  have:Lb.val ([]:List UInt32)=0:=rfl
  rw [this,Nat.gcd_zero_right,Lb.BY gr]
theorem zb (a:List UInt32) (ha:a.length≤2 ^ 60):F 131 [.t 22 (lim a)] (zo 1 22) [lim (Lb.nat (Lb.val a))]:=by
 refine Po _ _ (fun i=>∃b:List UInt32,i=qJ b∧Lb.val b=Lb.val a∧b.length≤2 ^ 60) (fun i=>i.length) ⟨⟨qJ a,⟨a,rfl,rfl,ha⟩,rfl,rfl,(by trivial)⟩,fun _=>rfl,?_⟩;rintro i ⟨b,rfl,hv,hb⟩;rw [py]
 by_cases h0:0<b.length
 ·have b_:ltI 0 (b.length:Int)=true:=pw.2 (by omega)
  have y_:qc .i64 (b.length:Int) 1=((b.length-1:Nat):Int):=by rw [qm (by omega)];omega
  have hg:((qJ b).getD (Int.toNat ((b.length-1:Nat):Int)) .u)=lm (b.getD (b.length-1) 0):=by
   rw [WP];exact qi b (by omega)
  rw [y_,hg,sC,tM,b_,ZX];refine ⟨fun _=>by omega,fun h=>?_,fun h=>?_⟩
  ·rw [qe] at h
   have hz:Lb.dg b (b.length-1)=0:=by unfold Lb.dg;omega
   refine ⟨by omega,qJ (b.take (b.length-1)),⟨b.take (b.length-1),rfl,?_,by simp;omega⟩,?_,?_,rfl,(by trivial)⟩
   ·rw [←hv];exact Ew (by omega) hz
   ·simp only [pT,Xg];omega
   ·rw [Int.sub_zero,WP,Xc,qE]
  ·rw [rk] at h
   refine ⟨(by trivial),?_,(by trivial)⟩;have hc:Lb.Canon b:=.inr (by unfold Lb.dg;omega);rw [←hv,Lb.BY hc];rfl
 ·have j3:b=[]:=by
   cases b with
   | nil=>rfl
   | cons=>simp at h0
  subst j3;have b_:ltI 0 (([]:List UInt32).length:Int)=false:=pF.2 (by simp);rw [tM,b_,Bool.false_and];refine ⟨fun h=>(by cases h.1),fun h=>(by cases h),fun _=>⟨(by trivial),?_,(by trivial)⟩⟩;rw [←hv];rfl
theorem Kz (a:List UInt32):F 130 [.t 22 (lim a)] (zo 1 4) [.b (decide (a=[1]))]:=by
 refine Pn _ _ ⟨fun h=>?_,(by trivial),?_,(by trivial)⟩
 ·rw [pE,py,qe] at h
  rw [pE,py];omega
 ·rw [pE,py]
  match a with
  | []=>rfl
  | [x] =>
   have:eqI (([x]:List UInt32).length:Int) 1=true:=rfl
   rw [this]
   show T.b (eqI (x.toNat:Int) 1)=_
   congr 1
   by_cases h:x=1
   ·subst h;rfl
   ·rw [rk.2 fun q=>h (Zk.1 (show x.toNat=1 by omega))]
    simp [h]
  | x::y::r =>
   have:eqI ((x::y::r:List UInt32).length:Int) 1=false:=rk.2 (by simp only [W4];omega)
   rw [this];simp [T.ite]
theorem yP (a:List UInt32) (i:Nat):F 159 [.t 22 (lim a),.t 2 (.i .i64 (i:Int))] (zo 2 12) [.i .u64 (Lb.dg a i:Int)]:=by
 refine PH _ _ _ ⟨fun h=>?_,fun h=>?_⟩
 ·rw [pE,py,rD,pC] at h
  refine ⟨(by trivial),?_,(by trivial)⟩;rw [Lb.um (by omega)];rfl
 ·rw [pE,py,tH,pC] at h
  have hi:i<a.length:=by omega
  have hx:=(a.getD i 0).toNat_lt;rw [pC,pE,py];refine ⟨⟨by omega,h⟩,(by trivial),?_,(by trivial)⟩;rw [WP,qi a hi,sC,rY (by omega)];rfl
def sgn (x:Int):Int:=if x<0 then -1 else if 0<x then 1 else 0
theorem Lg (x:Int):F 160 [.t 2 (.i .i64 x)] (zo 1 2) [.i .i64 (sgn x)]:=by
 refine PI _ _ ⟨fun h=>?_,fun h=>⟨fun h2=>?_,fun h2=>?_⟩⟩
 ·rw [pC,pw] at h
  exact ⟨(by trivial),by unfold sgn;rw [WY h],(by trivial)⟩
 ·rw [pC,pF] at h
  rw [pC,pw] at h2;exact ⟨(by trivial),by unfold sgn;rw [WZ (by omega),WY h2],(by trivial)⟩
 ·rw [pC,pF] at h h2
  exact ⟨(by trivial),by unfold sgn;rw [WZ (by omega),WZ (by omega)],(by trivial)⟩
theorem FA (a b:List UInt32) (ha:a.length≤2 ^ 40) (hb:b.length≤2 ^ 40):F 122 [.t 22 (lim a),.t 22 (lim b)] (zo 2 22) [lim (Lb.nat (Lb.val a+Lb.val b))]:=by
 have hB:Lb.B=4294967296:=rfl;refine Ph _ _ _ (fun i=>∃(c:List UInt32) (s:Nat),i.2.1=(s:Int)∧i.2.2=qJ c∧s≤1∧c.length=i.1∧i.1≤max a.length b.length+1∧Lb.val c+s*Lb.B ^ i.1=Lb.pv (Lb.dg a) i.1+Lb.pv (Lb.dg b) i.1∧(max a.length b.length<i.1→s=0))
  (fun i=>max a.length b.length+1-i.1) ?_
 rw [pE,pE,py,py,zL];have e0:pL .i64 ((max a.length b.length:Nat):Int) 1=((max a.length b.length+1:Nat):Int):=by rw [pt (by omega)];omega
 rw [e0];refine ⟨⟨by omega,by omega,by omega,by omega⟩,⟨(0,0,[]),⟨[],0,rfl,rfl,by omega,rfl,by omega,rfl,fun _=>rfl⟩,(by trivial),(by trivial),(by trivial),(by trivial),(by trivial),(by trivial),(by trivial)⟩,fun _=>rfl,?_⟩;rintro ⟨k,s',xs⟩ ⟨c,s,hs,aL,aX,hc,hk,hv,bf⟩;simp only at hs aL hc hk hv bf ⊢;subst hs;subst aL;rw [pT c,qE,WX (l:=c) (WU _),Xc,qE,WX (l:=c) (WU _)];refine ⟨fun h=>?_,fun h=>?_⟩
 ·rw [rD] at h
  refine ⟨_,yP a k,_,yP b k,?_⟩;simp only [pC];have cH:=Lb.rQ a k;have aB:=Lb.rQ b k;have aK:pL .u64 (pL .u64 (Lb.dg a k:Int) (Lb.dg b k:Int)) (s:Int)=((s+(Lb.dg a k+Lb.dg b k):Nat):Int):=by
   rw [hB] at cH aB;rw [wR (x:=(Lb.dg a k:Int)) (by omega),wR (by omega)];omega
  rw [aK]
  generalize hq:s+(Lb.dg a k+Lb.dg b k)=q at *
  have j4:q / Lb.B≤1:=by rw [hB] at cH aB ⊢;omega
  rw [vq,Kn,sz,Ei];simp only [pT];refine ⟨⟨by simp only [Xv];(try unfold Rm);unfold room;omega,by simp only [Xv];omega⟩,by decide,(k+1,((q / Lb.B:Nat):Int),qJ (c++[UInt32.ofNat (q%Lb.B)])),⟨c++[UInt32.ofNat (q%Lb.B)],q / Lb.B,rfl,rfl,j4,by simp;omega,by simp only;omega,?_,?_⟩,by simp only;omega,(by trivial),(by trivial),(by trivial),(by trivial),?_,?_,(by trivial)⟩
  ·simp only
   rw [Lb.vJ,hc,Lb.pv,Lb.pv,Lb.ofNat_toNat (XA _ Lb.qL),Xt];have e1:q / Lb.B*(Lb.B ^ k*Lb.B)=(q / Lb.B*Lb.B)*Lb.B ^ k:=by
    rw [W8 (Lb.B ^ k),Xu]
   have e2:(q%Lb.B+q / Lb.B*Lb.B)*Lb.B ^ k=q*Lb.B ^ k:=by
    rw [W8 (q / Lb.B),Yx]
   rw [e1,W8 (Lb.B ^ k) (q%Lb.B),YD,←Xe,e2,←hq,Xe,Xe];omega
  ·simp only
   intro b_;have hz:Lb.dg a k=0:=Lb.um (by omega);have fM:Lb.dg b k=0:=Lb.um (by omega)
   have:q≤1:=by omega
   exact Yk (by omega)
  ·congr 1
  ·rw [pt (by omega)];congr 1
 ·rw [tH] at h
  have cO:s=0:=bf (by omega);refine ⟨_,zb c (by omega),(by trivial),?_,(by trivial)⟩
  congr 2
  rw [cO] at hv;rw [Lb.rA a k (by omega),Lb.rA b k (by omega)];omega
theorem CI (a b:List UInt32) (ha:a.length≤2 ^ 40) (P_:Lb.val b≤Lb.val a):F 124 [.t 22 (lim a),.t 22 (lim b)] (zo 2 22) [lim (Lb.nat (Lb.val a-Lb.val b))]:=by
 have hB:Lb.B=4294967296:=rfl;refine Pj _ _ _ (fun i=>∃(c:List UInt32) (s:Nat),i.2.1=(s:Int)∧i.2.2=qJ c∧s≤1∧c.length=i.1∧i.1≤a.length∧Lb.pv (Lb.dg c) i.1+Lb.pv (Lb.dg b) i.1=Lb.pv (Lb.dg a) i.1+s*Lb.B ^ i.1)
  (fun i=>a.length-i.1) ?_
 rw [pE,py];refine ⟨⟨by omega,by omega,by omega,by omega⟩,⟨(0,0,[]),⟨[],0,rfl,rfl,by omega,rfl,by omega,rfl⟩,(by trivial),(by trivial),(by trivial),(by trivial),(by trivial),(by trivial),(by trivial)⟩,fun _=>rfl,?_⟩;rintro ⟨k,s',xs⟩ ⟨c,s,hs,aL,aX,hc,hk,hv⟩;simp only at hs aL hc hk hv ⊢;subst hs;subst aL;rw [pT c,qE,WX (l:=c) (WU _),Xc,qE,WX (l:=c) (WU _)];refine ⟨fun h=>?_,fun h=>?_⟩
 ·rw [pw] at h
  have b_:k<a.length:=by omega
  refine ⟨_,yP a k,_,yP b k,?_⟩;simp only [pC];have cH:=Lb.rQ a k;have aB:=Lb.rQ b k;have aK:qc .u64 (qc .u64 (pL .u64 (Lb.dg a k:Int) 4294967296) (Lb.dg b k:Int)) (s:Int)=((Lb.dg a k+Lb.B-Lb.dg b k-s:Nat):Int):=by
   rw [hB] at cH aB ⊢;rw [wR (by omega),Er (x:=(Lb.dg a k:Int)+4294967296) (by omega),Er (by omega)];omega
  rw [aK];have oq:Lb.dg a k+Lb.B-Lb.dg b k-s+Lb.dg b k+s=Lb.dg a k+Lb.B:=by rw [hB] at cH aB ⊢;omega
  generalize Lb.dg a k+Lb.B-Lb.dg b k-s=q at *
  have j4:q / Lb.B≤1:=by rw [hB] at cH aB oq ⊢;omega
  rw [vq,Kn,sz,Ei];simp only [pT];have iV:qc .u64 1 ((q:Int) / 4294967296)=((1-q / Lb.B:Nat):Int):=by
   rw [hB] at j4 ⊢;rw [Er (by omega)];omega
  rw [iV];have hd:Lb.dg (c++[UInt32.ofNat (q%Lb.B)]) k=q%Lb.B:=by
   unfold Lb.dg;rw [WM,Xf (by omega),hc,Yp];exact Lb.ofNat_toNat (XA _ Lb.qL)
  refine ⟨⟨by simp only [Xv];(try unfold Rm);unfold room;omega,by simp only [Xv];omega⟩,by decide,(k+1,((1-q / Lb.B:Nat):Int),qJ (c++[UInt32.ofNat (q%Lb.B)])),⟨c++[UInt32.ofNat (q%Lb.B)],1-q / Lb.B,rfl,rfl,Nat.sub_le _ _,by simp;omega,by simp only;omega,?_⟩,by simp only;omega,(by trivial),(by trivial),(by trivial),(by trivial),(by trivial),?_,(by trivial)⟩
  ·simp only
   rw [Lb.pv,Lb.pv,Lb.pv,hd,Lb.zR (g:=Lb.dg c) k (fun i hi=>HG c _ (by omega))];have e1:q%Lb.B+Lb.dg b k+s=Lb.dg a k+(1-q / Lb.B)*Lb.B:=by
    have h1:=Yx q Lb.B;have h2:Lb.B*(q / Lb.B)+(1-q / Lb.B)*Lb.B=Lb.B:=by
     rw [W8 (1-q / Lb.B),←Yh,show q / Lb.B+(1-q / Lb.B)=1 by omega,Yq]
    omega
   have e2:(q%Lb.B+Lb.dg b k+s)*Lb.B ^ k=(Lb.dg a k+(1-q / Lb.B)*Lb.B)*Lb.B ^ k:=by rw [e1]
   have e3:(1-q / Lb.B)*Lb.B ^ (k+1)=(1-q / Lb.B)*Lb.B*Lb.B ^ k:=by rw [Xt,W8 (Lb.B ^ k),Xu]
   rw [e3]
   generalize (1-q / Lb.B)*Lb.B=t at *
   generalize q%Lb.B=z at *
   simp only [Xe] at e2;omega
  ·rw [pt (by omega)];congr 1
 ·rw [pF] at h
  have aR:k=a.length:=by omega
  refine ⟨_,zb c (by omega),(by trivial),?_,(by trivial)⟩;have dM:=Lb.rA a k (by omega);have gK:Lb.pv (Lb.dg b) k=Lb.val b:=Lb.GP (by rw [aR];have:=Lb.qV a;omega);have kX:=Lb.rA c k (by omega);have cI:=Lb.qV c;rw [hc] at cI;have cO:s=0:=by
   by_cases cO:s=0
   ·exact cO
   ·have:s=1:=by omega
    subst this;omega
  subst cO
  congr 2
  omega
theorem BK (a b:List UInt32) (ha:a.length≤2 ^ 60) (hb:b.length≤2 ^ 60) (gL:Lb.Canon a) (dE:Lb.Canon b):F 123 [.t 22 (lim a),.t 22 (lim b)] (zo 2 2) [.i .i64 (F7 (Lb.val a) (Lb.val b))]:=by
 have longer:∀{a b:List UInt32},Lb.Canon b→a.length<b.length→Lb.val a<Lb.val b:=by
  intro a b hc hl;have h1:=hc.lower (fun q=>by subst q;simp at hl);have h2:=Lb.qV a;have h3:Lb.B ^ a.length≤Lb.B ^ (b.length-1):=XC Lb.qL (by omega);omega
 refine Pi _ _ _ (fun k=>k≤a.length∧∀i,k≤i→Lb.dg a i=Lb.dg b i) (fun k=>k) ?_;rw [pE,pE,py,py];refine ⟨fun h=>?_,fun h=>?_⟩
 ·rw [rr] at h
  refine ⟨_,Lg _,(by trivial),?_,(by trivial)⟩;rw [qm (by omega)];unfold sgn F7
  rcases YW a.length b.length with q | q | q
  ·rw [WY (by omega),WY (longer dE q)]
  ·omega
  ·have:=longer gL q
   rw [WZ (by omega),WY (by omega),WZ (by omega),WZ (by omega)]
 ·rw [sq] at h
  have hl:a.length=b.length:=by omega
  refine ⟨⟨a.length,⟨WU _,fun i hi=>by rw [Lb.um (by omega),Lb.um (by omega)]⟩,(by trivial),(by trivial),(by trivial),by rw [qm (by omega)],(by trivial)⟩,fun _=>rfl,?_⟩;rintro k ⟨hk,he⟩;refine ⟨fun h2=>?_,fun h2=>?_⟩
  ·rw [rD] at h2
   obtain ⟨m,rfl⟩:∃m,k=m+1:=⟨k-1,by omega⟩;have em:((m+1:Nat):Int)-1=(m:Int):=by omega
   rw [em,WP,qi a (by omega),qi b (by omega),sC,sC,show (a.getD m 0).toNat=Lb.dg a m from rfl,show (b.getD m 0).toNat=Lb.dg b m from rfl];have cH:=Lb.rQ a m;have aB:=Lb.rQ b m;unfold Lb.B at cH aB;refine ⟨⟨by omega,by omega⟩,⟨by omega,by omega⟩,fun t_=>?_,fun dV=>?_⟩
   ·rw [rr] at t_
    refine ⟨⟨by omega,by omega⟩,⟨by omega,by omega⟩,_,Lg _,(by trivial),?_,(by trivial)⟩;rw [vT (by omega),vT (by omega),qm (by omega)];have dM:=Lb.rA a a.length (by omega);have gK:=Lb.rA b a.length (by omega);unfold sgn F7
    rcases YW (Lb.dg a m) (Lb.dg b m) with q | q | q
    ·have b_:Lb.val a<Lb.val b:=by
      rw [dM,gK];exact Lb.GQ (Lb.rQ a) m _ (by omega) (fun i h1 _=>he i (by omega)) q
     rw [WY (by omega),WY b_]
    ·exact absurd (by rw [q]) t_
    ·have b_:Lb.val b<Lb.val a:=by
      rw [dM,gK];exact Lb.GQ (Lb.rQ b) m _ (by omega) (fun i h1 _=>(he i (by omega)).symm) q
     rw [WZ (by omega),WY (by omega),WZ (by omega),WZ (by omega)]
   ·rw [sq] at dV
    refine ⟨m,⟨by omega,fun i hi=>?_⟩,by omega,(by trivial),(by trivial),(by trivial),by rw [qm (by omega)],(by trivial)⟩
    by_cases ly:i=m
    ·subst ly;omega
    ·exact he i (by omega)
  ·rw [tH] at h2
   refine ⟨(by trivial),?_,(by trivial)⟩;have aT:k=0:=by omega
   subst aT
   have:Lb.val a=Lb.val b:=by
    rw [Lb.rA a a.length (by omega),Lb.rA b a.length (by omega)];exact Lb.zR _ fun i _=>he i (by omega)
   unfold F7;rw [this,WZ (by omega),WY rfl]
end Go.Pq
namespace Go.Pl
theorem NJ (n:Nat) (h:n<4294967296):qv .and .u32 (n:Int) 1=((n%2:Nat):Int):=by
 show IntKind.u32.wrap ((BitVec.ofInt 32 (n:Int) &&& BitVec.ofInt 32 1).toNat:Int)=_
 rw [show (1:Int)=((1:Nat):Int) from rfl,Yr,Yr,BitVec.toNat_and,Yi,Yi,Xj (b:=2 ^ 32) (by omega),Xj (b:=2 ^ 32) (by omega),Nat.and_one_is_mod,Lz];omega
theorem UK {a b:Nat} (ha:a<4294967296) (hb:b<4294967296):qv .or .u32 (a:Int) (b:Int)=((a ||| b:Nat):Int):=by
 show IntKind.u32.wrap ((BitVec.ofInt 32 (a:Int) ||| BitVec.ofInt 32 (b:Int)).toNat:Int)=_
 rw [Yr,Yr,BitVec.toNat_or,Yi,Yi,Xj (b:=2 ^ 32) (by omega),Xj (b:=2 ^ 32) (by omega),Lz]
 have:a ||| b<2 ^ 32:=Nat.or_lt_two_pow (by omega) (by omega)
 omega
theorem TX {n k:Nat} (hk:k≤32) (h:n*2 ^ k<4294967296):zp .u32 (n:Int) (k:Int)=((n*2 ^ k:Nat):Int):=by
 unfold zp;rw [show IntKind.u32.bits=32 from rfl,WP,YB hk,show ((n:Int)*2 ^ k)=((n*2 ^ k:Nat):Int) by simp,Lz];omega
end Go.Pl
namespace Lb
theorem NM (a:List UInt32) (j:Nat):dg a (j / 32) / 2 ^ (j%32)%2=val a / 2 ^ j%2:=by
 have hs:j%32<32:=XA _ (by decide);have hB:B=2 ^ (j%32)*2 ^ (32-j%32):=by rw [←XL,ZV (by omega)];rfl
 have h2:2 ∣ 2 ^ (32-j%32):=Nat.dvd_trans (by simp) (Nat.pow_dvd_pow 2 (show 1≤32-j%32 by omega));have hp:B ^ (j / 32)*2 ^ (j%32)=2 ^ j:=by rw [xz,←XL];congr 1;omega
 rw [vU]
 generalize hX:val a / B ^ (j / 32)=X
 rw [hB,Zx,Nat.mod_mod_of_dvd _ h2,←hX,XN,hp]
theorem IX {v k:Nat} (h:v<2 ^ (k+1)):(v / 2 ^ k%2=0→v<2 ^ k)∧(v / 2 ^ k%2≠0→2 ^ k≤v):=by
 have hp:0<2 ^ k:=XQ (by decide);have h1:v / 2 ^ k<2:=by rw [XE hp,W8,←Xt];exact h
 rw [Xj h1];refine ⟨fun h2=>?_,fun h2=>?_⟩
 ·exact (Nat.div_eq_zero_iff_lt hp).1 h2
 ·have:=(YU hp (x:=1) (y:=v)).1 (YQ h2)
  omega
end Lb
namespace Go.Pq
open Go.Pl Go.Proofs
theorem C3 (a b:List UInt32) (ha:a.length≤2 ^ 40) (hb:b.length≤2 ^ 40):F 91 [.t 22 (lim a),.t 22 (lim b)] (zo 2 22) [lim (Lb.nat (Lb.val a*Lb.val b))]:=by
 have hB:Lb.B=4294967296:=rfl;have dj:pL .i64 (lenOf (lim a).list) (lenOf (lim b).list)=((a.length+b.length:Nat):Int):=by
  rw [pE,pE,py,py,pt (by omega)];omega
 refine Td _ _ _
  (fun i=>∃c:List UInt32,i.2=qJ c∧c.length=a.length+b.length∧i.1≤a.length∧Lb.val c=Lb.pv (Lb.dg a) i.1*Lb.val b)
  (fun i=>a.length-i.1)
  (fun i j=>∃(c:List UInt32) (s:Nat),i.1<a.length∧j.2.2=qJ c∧j.2.1=(s:Int)∧s<Lb.B∧c.length=a.length+b.length∧j.1≤b.length∧Lb.dg c (i.1+b.length)=0 ∧
   Lb.val c+s*Lb.B ^ (i.1+j.1)=Lb.pv (Lb.dg a) i.1*Lb.val b+Lb.B ^ i.1*(Lb.dg a i.1*Lb.pv (Lb.dg b) j.1))
  (fun i j=>b.length-j.1) ⟨?_,⟨(0,qJ (List.replicate (a.length+b.length) 0)),⟨List.replicate (a.length+b.length) 0,rfl,by simp,by simp,?_⟩,(by trivial),(by trivial),(by trivial),?_,(by trivial),(by trivial)⟩,fun _=>rfl,?_⟩
 ·rw [dj];omega
 ·simp only [Lb.pv,Nat.zero_mul]
  exact Lb.yh _
 ·rw [dj,WP,ri]
 rintro ⟨k,xs⟩ ⟨c,aL,hc,hk,hv⟩;simp only at aL hk hv ⊢;subst aL;rw [pE,pE,py,py];refine ⟨fun h=>?_,fun h=>?_⟩
 ·rw [pw] at h
  have b_:k<a.length:=by omega
  have hz:Lb.dg c (k+b.length)=0:=by
   rw [Lb.vU,Yk,Nat.zero_mod];rw [hv,XL]
   rcases XT (Lb.val b) with q | q
   ·rw [q,Nat.mul_zero];exact Nat.mul_pos (XQ Lb.qL) (XQ Lb.qL)
   ·exact Zw (Lb.Q5 _ (Lb.rQ a) _) (Zt (Lb.qV b)) (XQ Lb.qL)
  refine ⟨⟨(0,0,qJ c),⟨c,0,b_,rfl,rfl,Lb.qL,hc,by simp,hz,by simp [Lb.pv,hv]⟩,(by trivial),(by trivial),(by trivial),(by trivial),(by trivial),(by trivial),(by trivial),(by trivial)⟩,fun _=>(by trivial),?_⟩;rintro ⟨m,s',ys⟩ ⟨c1,s,-,ck,hs,fV,bz,hm,cT,aq⟩;simp only at ck hs hm aq cT ⊢;subst ck;subst hs;refine ⟨fun h2=>?_,fun h2=>?_⟩
  ·rw [pw] at h2
   have a7:m<b.length:=by omega
   have lx:k+m<a.length+b.length:=by omega
   have eI:pL .i64 (k:Int) (m:Int)=((k+m:Nat):Int):=by rw [pt (by omega)];omega
   rw [eI];have o_:(qJ c1).getD (0+((k+m:Nat):Int).toNat) .u=lm (c1.getD (k+m) 0):=by
    rw [WP,WV];exact qi c1 (by omega)
   rw [o_,sC];simp only [WP];rw [qi a (by omega),qi b (by omega),sC,sC,show (a.getD k 0).toNat=Lb.dg a k from rfl,show (b.getD m 0).toNat=Lb.dg b m from rfl];refine ⟨⟨by omega,by omega⟩,⟨by omega,by omega⟩,⟨by omega,by rw [pT];omega⟩,by decide,⟨by omega,by rw [pT];omega⟩,?_⟩;have cH:=Lb.rQ a k;have aB:=Lb.rQ b m;have lA:=Lb.rQ c1 (k+m);have lB:(c1.getD (k+m) 0).toNat=Lb.dg c1 (k+m):=rfl;rw [lB];have br:Lb.dg a k*Lb.dg b m≤(Lb.B-1)*(Lb.B-1):=Yn (by omega) (by omega);have fT:((Lb.dg a k:Int)*(Lb.dg b m:Int))=((Lb.dg a k*Lb.dg b m:Nat):Int):=by simp
   have cj:(Lb.B-1)*(Lb.B-1)=18446744065119617025:=by rw [hB]
   rw [cj] at br;rw [rY (x:=(Lb.dg a k:Int)) (by rw [hB] at cH;omega),rY (x:=(Lb.dg b m:Int)) (by rw [hB] at aB;omega)]
   generalize lC:Lb.dg a k*Lb.dg b m=pr at *
   rw [hB] at cH aB lA fV;have aK:pL .u64 (pL .u64 (zk .u64 (Lb.dg a k:Int) (Lb.dg b m:Int)) (pG .u64 (Lb.dg c1 (k+m):Int))) (s:Int)=((s+(Lb.dg c1 (k+m)+pr):Nat):Int):=by
    rw [N8 (by rw [fT];omega),fT,rY (by omega),wR (x:=(pr:Int)) (by omega),wR (by omega)];omega
   rw [aK,Ei,vq]
   generalize hq:s+(Lb.dg c1 (k+m)+pr)=q at *
   refine ⟨(m+1,((q / Lb.B:Nat):Int),qJ (c1.set (k+m) (UInt32.ofNat (q%Lb.B)))),⟨c1.set (k+m) (UInt32.ofNat (q%Lb.B)),q / Lb.B,b_,rfl,rfl,?_,by simp [bz],?_,?_,?_⟩,?_,(by trivial),(by trivial),(by trivial),?_,(by trivial),?_,?_,(by trivial)⟩
   ·rw [hB];omega
   ·simp only;omega
   ·rw [Lb.Dy c1 (k+m) _ (by omega),WZ (by omega)];exact cT
   ·simp only
    have bm:=Lb.Da c1 (k+m) (UInt32.ofNat (q%Lb.B)) (by omega);rw [Lb.ofNat_toNat (XA _ Lb.qL)] at bm;have e1:q / Lb.B*Lb.B ^ (k+(m+1))=(q / Lb.B*Lb.B)*Lb.B ^ (k+m):=by
     rw [←YD,Xt,W8 (Lb.B ^ (k+m)),Xu]
    have e2:q%Lb.B*Lb.B ^ (k+m)+q / Lb.B*Lb.B*Lb.B ^ (k+m)=s*Lb.B ^ (k+m)+Lb.dg c1 (k+m)*Lb.B ^ (k+m)+pr*Lb.B ^ (k+m):=by
     rw [←Xe,W8 (q / Lb.B),Yx,←hq,Xe,Xe,YD]
    have e3:Lb.B ^ k*(Lb.dg a k*Lb.pv (Lb.dg b) (m+1))=Lb.B ^ k*(Lb.dg a k*Lb.pv (Lb.dg b) m)+pr*Lb.B ^ (k+m):=by
     rw [Lb.pv,Yh,Yh,←lC,XL]
     congr 1
     simp only [Ya,W8,Xu]
    rw [e1,e3];omega
   ·simp only;omega
   ·rw [WV,vo]
   ·rw [show ((q / Lb.B:Nat):Int)=(q:Int) / 4294967296 by rw [hB];omega]
   ·rw [pt (by omega)];congr 1
  ·rw [pF] at h2
   have ot:m=b.length:=by omega
   subst ot;have eI:pL .i64 (k:Int) (b.length:Int)=((k+b.length:Nat):Int):=by rw [pt (by omega)];omega
   rw [eI,vr fV,WP,WV,vo];refine ⟨⟨by omega,by rw [pT];omega⟩,(k+1,qJ (c1.set (k+b.length) (UInt32.ofNat s))),⟨c1.set (k+b.length) (UInt32.ofNat s),rfl,by simp [bz],by simp only;omega,?_⟩,by simp only;omega,(by trivial),(by trivial),(by trivial),(by trivial),?_,(by trivial)⟩
   ·simp only
    have bm:=Lb.Da c1 (k+b.length) (UInt32.ofNat s) (by omega);rw [Lb.ofNat_toNat fV,cT,Nat.zero_mul,XW] at bm;rw [bm,aq,Lb.pv,Xe,←Lb.rA b b.length (WU _)]
    congr 1
    simp only [Ya,W8,Xu]
   ·rw [pt (by omega)];congr 1
 ·rw [pF] at h
  have aR:k=a.length:=by omega
  have di:List.take (qJ c).length c=c:=by rw [pT];exact WX (WU _)
  rw [Xc,qE,di];refine ⟨_,zb c (by omega),(by trivial),?_,(by trivial)⟩;rw [hv,←Lb.rA a k (by omega)]
theorem DR (a:List UInt32) (ha:a.length≤2 ^ 40):F 161 [.t 22 (lim a)] (zo 1 2) [.i .i64 (Lb.bl (Lb.val a):Int)]:=by
 refine PJ _ _ (fun k=>k≤32*a.length∧Lb.val a<2 ^ k) (fun k=>k) ⟨⟨32*a.length,⟨WU _,by rw [←Lb.xz];exact Lb.qV a⟩,(by trivial),(by trivial),?_,(by trivial)⟩,fun _=>rfl,?_⟩
 ·rw [pE,py,xU (by omega)];congr 1
 rintro k ⟨hk,hv⟩;rw [pE,py]
 cases k with
 | zero =>
  have h0:ltI 0 ((0:Nat):Int)=false:=rfl;rw [tM,h0,Bool.false_and];refine ⟨fun h=>(by cases h.1),fun h=>(by cases h.1),fun h=>(by cases h.1),fun h=>(by cases h.1),fun h=>(by cases h),fun _=>⟨(by trivial),?_,(by trivial)⟩⟩;rw [Lb.OI hv (.inl rfl)]
 | succ k =>
  have h1:ltI 0 ((k+1:Nat):Int)=true:=pw.2 (by omega);have e1:qc .i64 ((k+1:Nat):Int) 1=(k:Int):=by rw [qm (by omega)];omega
  have e2:uQ .i64 (k:Int) 32=((k / 32:Nat):Int):=D9 (b:=32) (by omega);have e3:pG .u64 (uA (k:Int) 32)=((k%32:Nat):Int):=by
   rw [show uA (k:Int) 32=((k%32:Nat):Int) from B6 (b:=32),rY (by omega)]
  have hd:=Lb.rQ a (k / 32);have hs:k%32<32:=XA _ (by decide);have e4:qv .and .u32 (sE .u32 (((qJ a).getD ((k / 32:Nat):Int).toNat .u).cell 0).int ((k%32:Nat):Int)) 1=((Lb.val a / 2 ^ k%2:Nat):Int):=by
   rw [WP,qi a (by omega),sC,Ej (by omega),show (a.getD (k / 32) 0).toNat=Lb.dg a (k / 32) from rfl,NJ _ (XS (YC _ _) hd),Lb.NM]
  rw [tM,h1,ZX,e1,e2,e3,e4];have hb:=Lb.IX hv;refine ⟨fun _=>by decide,fun _=>⟨by omega,by omega⟩,fun _=>by decide,fun _=>by omega,fun h=>?_,fun h=>?_⟩
  ·rw [qe] at h
   exact ⟨k,⟨by omega,hb.1 (by omega)⟩,by omega,(by trivial),(by trivial),(by trivial),(by trivial)⟩
  ·rw [rk] at h
   refine ⟨(by trivial),?_,(by trivial)⟩;rw [Lb.OI hv (.inr (hb.2 (by omega)))]
theorem LM (a:List UInt32) (n:Nat) (ha:a.length≤2 ^ 40) (hn:n≤2 ^ 45):F 162 [.t 22 (lim a),.t 2 (.i .i64 (n:Int))] (zo 2 22) [lim (Lb.nat (Lb.val a / 2 ^ n))]:=by
 have hB:Lb.B=4294967296:=rfl;have hq:uQ .i64 (n:Int) 32=((n / 32:Nat):Int):=D9 (b:=32) (by omega);have hm:pG .u64 (uA (n:Int) 32)=((n%32:Nat):Int):=by
  rw [show uA (n:Int) 32=((n%32:Nat):Int) from B6 (b:=32),rY (by omega)]
 have dv:n%32<32:=XA _ (by decide);have dk:2 ^ n=Lb.B ^ (n / 32)*2 ^ (n%32):=by
  rw [Lb.xz,←XL];congr 1;omega
 refine PK _ _ _ (fun i=>∃(c:List UInt32),i.2=qJ c∧i.1=n / 32+c.length∧c.length≤a.length∧Lb.val c=Lb.val a / 2 ^ n%Lb.B ^ c.length)
  (fun i=>a.length-i.1) ?_
 simp only [pC];rw [pE,py,hq,hm];refine ⟨by decide,⟨(n / 32,qJ []),⟨[],(by trivial),(by trivial),by simp,by simp [Lb.val,Nat.mod_one]⟩,(by trivial),(by trivial),(by trivial),(by trivial),(by trivial),(by trivial)⟩,fun _=>(by trivial),?_⟩;rintro ⟨k,xs⟩ ⟨c,aL,hk,gL,hv⟩;simp only at aL hk ⊢;subst aL;rw [pT c,Xc,qE,WX (l:=c) (WU _)];refine ⟨fun h=>?_,fun h=>?_⟩
 ·rw [pw] at h
  have b_:k<a.length:=by omega
  rw [show pL .i64 (k:Int) 1=((k+1:Nat):Int) by rw [pt (by omega)];omega];refine ⟨_,yP a (k+1),by decide,_,yP a k,by decide,by omega,?_⟩;simp only [pC];have hx:=Lb.rQ a k;have hy:=Lb.rQ a (k+1);have e1:qv .or .u64 (zp .u64 (Lb.dg a (k+1):Int) 32) (Lb.dg a k:Int)=((Lb.dg a (k+1)*Lb.B+Lb.dg a k:Nat):Int):=by
   rw [show (32:Int)=((32:Nat):Int) from rfl,Cc (by decide) (by rw [hB] at hy;omega),KF (by exact hx) (by rw [hB] at hx hy;omega)];rfl
  rw [e1,Ov (by omega)]
  generalize hw:Lb.dg a (k+1)*Lb.B+Lb.dg a k=w at *
  have aC:(List.replicate 1 (T.i .u32 0)).set 0 (T.i .u32 (pG .u32 ((w / 2 ^ (n%32):Nat):Int)))=qJ [UInt32.ofNat (w / 2 ^ (n%32)%Lb.B)]:=by
   rw [vq];rfl
  rw [aC,sz];simp only [pT];refine ⟨⟨by simp only [Xv];(try unfold Rm);unfold room;omega,by simp only [Xv];omega⟩,
   (k+1,qJ (c++[UInt32.ofNat (w / 2 ^ (n%32)%Lb.B)])),⟨c++[UInt32.ofNat (w / 2 ^ (n%32)%Lb.B)],(by trivial),by simp;omega,by simp;omega,?_⟩,by simp only;omega,(by trivial),(by trivial),(by trivial),(by trivial),(by trivial),(by trivial)⟩
  ·rw [Lb.vJ,Lb.ofNat_toNat (XA _ Lb.qL),hv,WN,Xv,Xt,ZQ]
   congr 2
   have e2:w=Lb.val a / Lb.B ^ k%(Lb.B*Lb.B):=by
    rw [ZQ,←Lb.vU,XN,←Xt,←Lb.vU,←hw,W8 Lb.B,ZI]
   have e3:Lb.B*Lb.B=2 ^ (n%32)*(Lb.B*2 ^ (32-n%32)):=by
    rw [Ya,←XL,ZV (by omega)];rfl
   rw [e2,e3,Zx,Nat.mod_mul_right_mod,XN,XN,hk,dk,XL]
   congr 2
   simp only [Ya,W8,Xu]
 ·rw [pF] at h
  refine ⟨_,zb c (by omega),(by trivial),?_,(by trivial)⟩
  congr 2
  rw [hv];apply Xj;rw [dk,←XN];refine XS (YC _ _) ?_;rw [XE (XQ Lb.qL),←XL];exact Xz (Lb.qV a) (XC Lb.qL (by omega))
end Go.Pq
namespace Lb
theorem OX (v k:Nat):v / 2 ^ k=2*(v / 2 ^ (k+1))+v / 2 ^ k%2:=by
 rw [Xt,←XN]
 have:=ZN (v / 2 ^ k) 2
 omega
theorem Nn {X Y b t:Nat} (hb:0<b) (hY:Y=2*X+t) (ht:t<2) (ou:t=0∨True) :
  (2*(X%b)+t<b→Y%b=2*(X%b)+t∧Y / b=2*(X / b))∧(b≤2*(X%b)+t→Y%b=2*(X%b)+t-b∧Y / b=2*(X / b)+1):=by
 have h1:=ZN X b;have h2:=XA X hb;have e:Y=b*(2*(X / b))+(2*(X%b)+t):=by
  have:b*(2*(X / b))=2*(b*(X / b)):=by rw [Ya]
  omega
 refine ⟨fun h=>?_,fun h=>?_⟩
 ·rw [e,Zp,Xj h,ZO hb,Yk h];exact ⟨rfl,rfl⟩
 ·have e2:Y=b*(2*(X / b)+1)+(2*(X%b)+t-b):=by rw [Yh,Yq];omega
  have b_:2*(X%b)+t-b<b:=by omega
  rw [e2,Zp,Xj b_,ZO hb,Yk b_];exact ⟨rfl,rfl⟩
theorem Of (q:List UInt32) (k Z:Nat) (h:val q=2 ^ (k+1)*Z):dg q (k / 32) ||| 2 ^ (k%32)=dg q (k / 32)+2 ^ (k%32):=by
 have hs:k%32<32:=XA _ (by decide);have ov:2 ^ (k%32+1) ∣ dg q (k / 32):=by
  rw [vU,h];have hp:2 ^ (k+1)=B ^ (k / 32)*2 ^ (k%32+1):=by rw [xz,←XL];congr 1;omega
  rw [hp,Xu,Nat.mul_div_cancel_left _ (XQ qL)];have hB:B=2 ^ (k%32+1)*2 ^ (31-k%32):=by rw [←XL,show k%32+1+(31-k%32)=32 by omega];rfl
  rw [hB,Nat.mul_mod_mul_left];exact Nat.dvd_mul_right ..
 obtain ⟨z,hz⟩:=ov;rw [hz];exact (Nat.two_pow_add_eq_or_of_lt (Nat.pow_lt_pow_right (by decide) (by omega)) z).symm
end Lb
namespace Go.Pq
open Go.Pl Go.Proofs
theorem Mx:T.l ((List.replicate 1 (T.i .u32 0)).set 0 (T.i .u32 1))=lim [1]:=rfl
theorem zC {x y:Nat}:leI 0 (F7 x y)=false↔x<y:=by
 rw [tH];unfold F7
 constructor
 ·intro h;by_cases q:x<y
  ·exact q
  ·rw [WZ q] at h;split at h<;>omega
 ·intro h;rw [WY h];decide
theorem Ct {x y:Nat}:leI 0 (F7 x y)=true↔y≤x:=by
 rw [←Bool.not_eq_false,zC];omega
theorem Aq (a b:List UInt32) (ha:a.length≤2 ^ 32) (hb:b.length≤2 ^ 32) (dE:Lb.Canon b) (hn:b≠[]) :
  F 129 [.t 22 (lim a),.t 22 (lim b)] Z3 [lim (Lb.nat (Lb.val a / Lb.val b)),lim (Lb.nat (Lb.val a%Lb.val b))]:=by
 have hB:Lb.B=4294967296:=rfl;have iy:=Lb.xD dE hn;have dm:Lb.bl (Lb.val a)≤32*a.length:=Lb.yw (by rw [←Lb.xz];exact Lb.qV a);have cX:Lb.bl (Lb.val b)≤32*b.length:=Lb.yw (by rw [←Lb.xz];exact Lb.qV b);have ow:=Lb.Dm (show Lb.val b≠0 by omega);have bW:xk (qc .i64 (Lb.bl (Lb.val a):Int) (Lb.bl (Lb.val b):Int)) (-1)=((Lb.bl (Lb.val a)+1-Lb.bl (Lb.val b):Nat):Int)-1:=by
  rw [qm (by omega)];unfold xk;split<;>omega
 have hK:Lb.bl (Lb.val a)+1-Lb.bl (Lb.val b)≤32*a.length:=by omega
 have hstart:Lb.val a / 2 ^ (Lb.bl (Lb.val a)+1-Lb.bl (Lb.val b))<Lb.val b:=by
  rw [XE (XQ (by decide))];have h1:=Lb.OJ (Lb.val a);have h2:=Lb.LS (show Lb.val b≠0 by omega);have h3:2 ^ (Lb.bl (Lb.val b)-1)*2 ^ (Lb.bl (Lb.val a)+1-Lb.bl (Lb.val b))≤Lb.val b*2 ^ (Lb.bl (Lb.val a)+1-Lb.bl (Lb.val b)):=Xb _ h2;rw [←XL] at h3;have h4:2 ^ Lb.bl (Lb.val a)≤2 ^ (Lb.bl (Lb.val b)-1+(Lb.bl (Lb.val a)+1-Lb.bl (Lb.val b))):=XC (by decide) (by omega);omega
 refine Pm _ _ _ _ (fun i=>∃c:List UInt32,i.2.2.2=qJ c∧c.length=a.length∧i.1≤32*a.length∧i.2.1=lim (Lb.nat (Lb.val a / 2 ^ i.1%Lb.val b))∧Lb.val c=2 ^ i.1*(Lb.val a / 2 ^ i.1 / Lb.val b))
  (fun i=>i.1) ?_
 rw [pE,py];refine ⟨⟨by omega,by omega,by omega,by omega⟩,_,DR a (by omega),_,DR b (by omega),?_⟩;simp only [pC];rw [bW,show pL .i64 (((Lb.bl (Lb.val a)+1-Lb.bl (Lb.val b):Nat):Int)-1) 1=((Lb.bl (Lb.val a)+1-Lb.bl (Lb.val b):Nat):Int) by rw [pt (by omega)];omega]
 generalize Lb.bl (Lb.val a)+1-Lb.bl (Lb.val b)=K at *
 refine ⟨_,LM a K (by omega) (by omega),⟨(K,lim (Lb.nat (Lb.val a / 2 ^ K)),.i .i64 ((K:Int)-1),qJ (List.replicate a.length 0)),⟨List.replicate a.length 0,rfl,by simp,hK,?_,?_⟩,(by trivial),(by trivial),(by trivial),(by trivial),?_,(by trivial),(by trivial),(by trivial),(by trivial)⟩,fun _=>(by trivial),?_⟩
 ·simp only;rw [Xj hstart]
 ·simp only;rw [Yk hstart,Lb.yh,Nat.mul_zero]
 ·rw [WP,ri]
 rintro ⟨k,r,tp,xs⟩ ⟨c,aL,hc,hk,hr,hv⟩;simp only at aL hk hr hv ⊢;subst aL;subst hr;refine ⟨fun h=>?_,fun h=>?_⟩
 ·rw [rD] at h
  obtain ⟨m,rfl⟩:∃m,k=m+1:=⟨k-1,by omega⟩;have em:((m+1:Nat):Int)-1=(m:Int):=by omega
  have e2:uQ .i64 (m:Int) 32=((m / 32:Nat):Int):=D9 (b:=32) (by omega);have e3:pG .u64 (uA (m:Int) 32)=((m%32:Nat):Int):=by
   rw [show uA (m:Int) 32=((m%32:Nat):Int) from B6 (b:=32),rY (by omega)]
  have hd:=Lb.rQ a (m / 32);have j5:=Lb.rQ c (m / 32);have hs:m%32<32:=XA _ (by decide);have e4:qv .and .u32 (sE .u32 (((qJ a).getD ((m / 32:Nat):Int).toNat .u).cell 0).int ((m%32:Nat):Int)) 1=((Lb.val a / 2 ^ m%2:Nat):Int):=by
   rw [WP,qi a (by omega),sC,Ej (by omega),show (a.getD (m / 32) 0).toNat=Lb.dg a (m / 32) from rfl,NJ _ (XS (YC _ _) hd),Lb.NM]
  have gM:2 ^ (m%32)<4294967296:=by
   have:2 ^ (m%32)≤2 ^ 31:=XC (by decide) (by omega)
   omega
  have e5:zp .u32 1 ((m%32:Nat):Int)=((2 ^ (m%32):Nat):Int):=by
   have:=TX (n:=1) (k:=m%32) (by omega) (by omega)
   rw [Yb] at this;exact this
  have e6:qv .or .u32 (((qJ c).getD (0+((m / 32:Nat):Int).toNat) .u).cell 0).int ((2 ^ (m%32):Nat):Int)=((Lb.dg c (m / 32)+2 ^ (m%32):Nat):Int):=by
   rw [WP,WV,qi c (by omega),sC,show (c.getD (m / 32) 0).toNat=Lb.dg c (m / 32) from rfl,UK j5 gM,Lb.Of c m _ hv]
  have aK:Lb.dg c (m / 32)+2 ^ (m%32)<Lb.B:=by
   rw [←Lb.Of c m _ hv];exact Nat.or_lt_two_pow (n:=32) j5 gM
  have e7:T.i .u32 ((Lb.dg c (m / 32)+2 ^ (m%32):Nat):Int)=lm (UInt32.ofNat (Lb.dg c (m / 32)+2 ^ (m%32))):=Kq rfl aK;have aC:Lb.val (c.set (m / 32) (UInt32.ofNat (Lb.dg c (m / 32)+2 ^ (m%32))))=Lb.val c+2 ^ m:=by
   have:=Lb.Da c (m / 32) (UInt32.ofNat (Lb.dg c (m / 32)+2 ^ (m%32))) (by omega)
   rw [Lb.ofNat_toNat aK,Xe] at this;have hp:2 ^ (m%32)*Lb.B ^ (m / 32)=2 ^ m:=by rw [Lb.xz,←XL];congr 1;omega
   omega
  rw [em,e2,e3,e4,e5,e6,e7,Mx];simp only [WP,WV,vo,pT];have ox:Lb.val a / 2 ^ (m+1)%Lb.val b<Lb.val b:=XA _ iy;have lD:=Lb.qV b;have ke:∀{z:Nat},z<Lb.val b*2→(Lb.nat z).length≤b.length+1:=fun {z} hz=>Lb.tN _ _ (by rw [Xt,hB] at *;omega);have aH:=Lb.Nn (t:=Lb.val a / 2 ^ m%2) iy (Lb.OX (Lb.val a) m) (XA _ (by decide)) (.inr trivial);have pe:Lb.val a / 2 ^ m%2<2:=XA _ (by decide);have mU:Lb.val c=2 ^ m*(2*(Lb.val a / 2 ^ (m+1) / Lb.val b)):=by rw [hv,Xt,Xu]
  generalize hX:Lb.val a / 2 ^ (m+1)%Lb.val b=X at *
  generalize Lb.val a / 2 ^ (m+1) / Lb.val b=Q at *
  generalize ht:Lb.val a / 2 ^ m%2=t at *
  have c1:=FA (Lb.nat X) (Lb.nat X) (by have:=ke (z:=X) (by omega);omega) (by have:=ke (z:=X) (by omega);omega);rw [Lb.pA,←Nat.two_mul] at c1;have tail:∀R,R=2*X+t →
    ∃y,F 123 [.t 22 (lim (Lb.nat R)),.t 22 (lim b)] (zo 2 2) [y] ∧
     (leI 0 y.int=true→∃y,F 124 [.t 22 (lim (Lb.nat R)),.t 22 (lim b)] (zo 2 22) [y]∧y=lim (Lb.nat (Lb.val a / 2 ^ m%Lb.val b))∧Lb.val c+2 ^ m=2 ^ m*(Lb.val a / 2 ^ m / Lb.val b)) ∧
     (leI 0 y.int=false→lim (Lb.nat R)=lim (Lb.nat (Lb.val a / 2 ^ m%Lb.val b))∧Lb.val c=2 ^ m*(Lb.val a / 2 ^ m / Lb.val b)):=by
   rintro R rfl;have hl:=ke (z:=2*X+t) (by omega);have c2:=BK (Lb.nat (2*X+t)) b (by omega) (by omega) (Lb.p8 _) dE;rw [Lb.pA] at c2;refine ⟨_,c2,fun h=>?_,fun h=>?_⟩
   ·rw [pC,Ct] at h
    have c3:=CI (Lb.nat (2*X+t)) b (by omega) (by rw [Lb.pA];exact h);rw [Lb.pA] at c3;refine ⟨_,c3,?_,?_⟩
    ·rw [(aH.2 h).1]
    ·rw [(aH.2 h).2,mU,Yh,Yq]
   ·rw [pC,zC] at h
    rw [(aH.1 h).1,(aH.1 h).2];exact ⟨rfl,mU⟩
  refine ⟨_,c1,by decide,⟨by omega,by omega⟩,by decide,by omega,fun h1=>?_,fun h1=>?_⟩
  ·rw [qe] at h1
   have bZ:t=1:=by omega
   have c4:=FA (Lb.nat (2*X)) [1] (by have:=ke (z:=2*X) (by omega);omega) (by simp);rw [Lb.pA,show Lb.val [1]=t by rw [bZ];rfl] at c4;obtain ⟨y,hy,hp,hq⟩:=tail _ rfl;refine ⟨_,c4,y,hy,fun h2=>?_,fun h2=>?_⟩
   ·obtain ⟨z,hz,rfl,eN⟩:=hp h2
    exact ⟨_,hz,by decide,⟨by omega,by omega⟩,by decide,by omega,⟨by omega,by omega⟩,(m,lim (Lb.nat (Lb.val a / 2 ^ m%Lb.val b)),tp,qJ _),⟨_,rfl,by simp [hc],by simp only;omega,rfl,by rw [aC];exact eN⟩,by simp only;omega,(by trivial),(by trivial),(by trivial),(by trivial),rfl,(by trivial),(by trivial),by rw [qm (by omega)],(by trivial)⟩
   ·obtain ⟨hz,eN⟩:=hq h2
    exact ⟨(m,lim (Lb.nat (Lb.val a / 2 ^ m%Lb.val b)),tp,qJ c),⟨c,rfl,hc,by simp only;omega,rfl,eN⟩,by simp only;omega,(by trivial),(by trivial),(by trivial),(by trivial),(by trivial),(by trivial),hz,by rw [qm (by omega)],(by trivial)⟩
  ·rw [rk] at h1
   have mB:t=0:=by omega
   obtain ⟨y,hy,hp,hq⟩:=tail (2*X) (by omega);refine ⟨y,hy,fun h2=>?_,fun h2=>?_⟩
   ·obtain ⟨z,hz,rfl,eN⟩:=hp h2
    exact ⟨_,hz,by decide,⟨by omega,by omega⟩,by decide,by omega,⟨by omega,by omega⟩,(m,lim (Lb.nat (Lb.val a / 2 ^ m%Lb.val b)),tp,qJ _),⟨_,rfl,by simp [hc],by simp only;omega,rfl,by rw [aC];exact eN⟩,by simp only;omega,(by trivial),(by trivial),(by trivial),(by trivial),rfl,(by trivial),(by trivial),by rw [qm (by omega)],(by trivial)⟩
   ·obtain ⟨hz,eN⟩:=hq h2
    exact ⟨(m,lim (Lb.nat (Lb.val a / 2 ^ m%Lb.val b)),tp,qJ c),⟨c,rfl,hc,by simp only;omega,rfl,eN⟩,by simp only;omega,(by trivial),(by trivial),(by trivial),(by trivial),(by trivial),(by trivial),hz,by rw [qm (by omega)],(by trivial)⟩
 ·rw [tH] at h
  have aT:k=0:=by omega
  subst aT;rw [ZJ,Yb,Zo] at hv;have di:List.take (qJ c).length c=c:=by rw [pT];exact WX (WU _)
  rw [Xc,qE,di];refine ⟨_,zb c (by omega),(by trivial),by rw [hv],by rw [ZJ,Zo],(by trivial)⟩
theorem BM (a b:List UInt32) (ha:a.length≤2 ^ 32) (hb:b.length≤2 ^ 32) (gL:Lb.Canon a) (dE:Lb.Canon b) :
  F 128 [.t 22 (lim a),.t 22 (lim b)] (zo 2 22) [lim (Lb.nat (Nat.gcd (Lb.val a) (Lb.val b)))]:=by
 refine Pk _ _ _ (fun i=>∃x y:List UInt32,i.1=lim x∧i.2=lim y∧x.length≤2 ^ 32∧y.length≤2 ^ 32∧Lb.Canon x∧Lb.Canon y∧Nat.gcd (Lb.val x) (Lb.val y)=Nat.gcd (Lb.val a) (Lb.val b))
  (fun i=>(lv i.2)) ⟨⟨(lim a,lim b),⟨a,b,rfl,rfl,ha,hb,gL,dE,rfl⟩,rfl,rfl,rfl,(by trivial)⟩,fun _=>rfl,?_⟩
 rintro ⟨x',y'⟩ ⟨x,y,hx,hy,jw,fO,gr,gO,hg⟩;simp only at hx hy ⊢;subst hx;subst hy;rw [pE,py];refine ⟨fun h=>?_,fun h=>?_⟩
 ·rw [pw] at h
  have hn:y≠[]:=XB.1 (by omega);have hp:=Lb.xD gO hn;have a7:=XA (Lb.val x) hp;refine ⟨_,_,Aq x y jw fO gO hn,(lim y,lim (Lb.nat (Lb.val x%Lb.val y))),⟨y,Lb.nat (Lb.val x%Lb.val y),rfl,rfl,fO,?_,gO,Lb.p8 _,?_⟩,?_,rfl,rfl,(by trivial),(by trivial)⟩
  ·exact XU (Lb.tN _ y.length (Nat.lt_trans a7 (Lb.qV y))) fO
  ·rw [Lb.pA,←hg,Zu (Lb.val y),←Nat.gcd_rec,Zu]
  ·simp only
   rw [Gy,Gy,Lb.pA];exact a7
 ·rw [pF] at h
  have:y=[]:=Yf.1 (by omega)
  subst this;refine ⟨(by trivial),?_,(by trivial)⟩;rw [←hg]
  have:Lb.val ([]:List UInt32)=0:=rfl
  rw [this,Nat.gcd_zero_right,Lb.BY gr]
theorem BZ (n:Nat) (h:n<18446744073709551616):F 93 [.t 12 (.i .u64 (n:Int))] (zo 1 22) [lim (Lb.nat n)]:=by
 have hB:Lb.B=4294967296:=rfl;have hq:n / Lb.B<Lb.B:=by rw [hB];omega
 refine Tf _ _ ⟨by decide,_,?_,(by trivial),rfl,(by trivial)⟩;rw [pC,Ei,show (n:Int) / 4294967296=((n / Lb.B:Nat):Int) by rw [hB];omega,vq,vr hq];have e:T.l (((List.replicate 2 (T.i .u32 0)).set 0 (lm (UInt32.ofNat (n%Lb.B)))).set 1 (lm (UInt32.ofNat (n / Lb.B))))=lim [UInt32.ofNat (n%Lb.B),UInt32.ofNat (n / Lb.B)]:=rfl;rw [e];have c:=zb [UInt32.ofNat (n%Lb.B),UInt32.ofNat (n / Lb.B)] (by simp);have hv:Lb.val [UInt32.ofNat (n%Lb.B),UInt32.ofNat (n / Lb.B)]=n:=by
  rw [Lb.val,Lb.C8,Lb.ofNat_toNat (XA _ Lb.qL),Lb.ofNat_toNat hq,Yx]
 rw [hv] at c;exact c
theorem zZ (x:Int) (h : -9223372036854775808≤x∧x≤9223372036854775807):F 94 [.t 2 (.i .i64 x)] (zo 1 12) [.i .u64 (x.natAbs:Int)]:=by
 refine Tg _ _ ⟨fun h1=>?_,fun h1=>?_⟩
 ·rw [pC,pw] at h1
  refine ⟨(by trivial),?_,(by trivial)⟩;rw [pC,pt (by omega),qm (by omega),rY (by omega),wR (by omega)]
  congr 1
  omega
 ·rw [pC,pF] at h1
  refine ⟨(by trivial),?_,(by trivial)⟩;rw [pC,rY (by omega)]
  congr 1
  omega
end Go.Pq
