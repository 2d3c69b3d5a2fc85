/- Part 9 of 11. What a session has committed at any time is the beginning of what it commits later, and of the path at its end (SessionsCommit), for every input; no condition. Names are shortened and spaces left out by program, for the size. -/
import Derived.Test.YtjhgombngbgjbaaGreatDoorQ8
set_option linter.unusedVariables false
set_option linter.unusedSimpArgs false
set_option linter.unusedSectionVars false
set_option linter.constructorNameAsVariable false
set_option maxRecDepth 100000
namespace Go.Pq
open Go.Pl Go.Proofs
def C110 : Ctx:=⟨tab,sigs,47,[0,1,2,3,12,13],[],[],[],[],[]⟩
theorem q_K (a0 : T) (y0 : T) (I0 : Nat → Prop) (M0 : Nat → Nat) (h : ∃ y : T,F 145 [.t 25 (a0.cell 5),.t 25 (T.l ((List.replicate 1 (T.g [T.b false,T.l [],T.l []])).set 0 (T.g [a0.cell 2,a0.cell 3,a0.cell 4])))] (zo 2 4) [y] ∧ ((!y.bool) = true → True ∧ T.b false = y0 ∧ True) ∧ ((!y.bool) = false → (∃ i : Nat,I0 i ∧ R13 a0 (kI 0 = kI ↑i ∧ True)) ∧ (∀ i : Nat,true = true) ∧ ∀ i : Nat,I0 i → (ltI ↑i (a0.cell 1).int = true → (Bd ↑i (lenOf (a0.cell 6).list)) ∧ (Bd ↑i (lenOf (a0.cell 7).list)) ∧ ∃ y : T,F 145 [.t 25 (((a0.cell 6).list.getD (↑i : Int).toNat T.u).cell 0),.t 25 (T.l ((List.replicate 1 (T.g [T.b false,T.l [],T.l []])).set 0 (((a0.cell 7).list.getD (↑i : Int).toNat T.u).part 0 3)))] (zo 2 4) [y] ∧ ((!y.bool) = false ∧ True → 0 ≤ (↑i : Int) ∧ (↑i : Int) < lenOf (a0.cell 9).list) ∧ ((!y.bool) = false ∧ (!(((a0.cell 9).list.getD (↑i : Int).toNat T.u).cell 0).bool) = true ∧ True → 0 ≤ (↑i : Int) ∧ (↑i : Int) < lenOf (a0.cell 8).list) ∧ ∃ y_1 : T,((!y.bool) = false ∧ (!(((a0.cell 9).list.getD (↑i : Int).toNat T.u).cell 0).bool) = true ∧ True → F 145 [.t 25 (((a0.cell 8).list.getD (↑i : Int).toNat T.u).cell 0),.t 25 (T.l [])] (zo 2 4) [y_1]) ∧ ((T.ite (!y.bool) (T.b true) (T.ite (!(((a0.cell 9).list.getD (↑i : Int).toNat T.u).cell 0).bool) (T.b !y_1.bool) (T.b false))).bool = true → True ∧ T.b false = y0 ∧ True) ∧ ((T.ite (!y.bool) (T.b true) (T.ite (!(((a0.cell 9).list.getD (↑i : Int).toNat T.u).cell 0).bool) (T.b !y_1.bool) (T.b false))).bool = false → ∃ j : Nat,I0 j ∧ M0 j < M0 i ∧ R13 a0 (kI (addI .i64 ↑i 1) = kI ↑j ∧ True))) ∧ (ltI ↑i (a0.cell 1).int = false → True ∧ T.b true = y0 ∧ True))) : F 110 [.t 29 a0] (zo 1 4) [y0] :=
 F_nf C110 (by kernel_rfl) Tryz.func110 (by kernel_rfl) (.two .no (.two .no (.two (.two .no (.lp (fun (ia : Nat) => [(a_ 0,AV.t 29 a0),(a_ 1,AV.box 29 0 11)] ++ bxS 1 a0 0 Y2 ++ [(a_ 2,AV.t 4 (T.b false)),(a_ 12,AV.t 2 (a0.cell 1)),(a_ 13,.t 2 (.i .i64 (ia : Int)))]) I0 M0 (fun _ => .no))) .no))) (by kernel_rfl) h
def C113 : Ctx:=⟨tab,sigs,19,[0,1,4,5,7,8],[],[],[],[],[]⟩
theorem q_M (a0 : T) (a1 : T) (y0 : T) (I0 : Nat → Prop) (M0 : Nat → Nat) (h : (∃ i : Nat,I0 i ∧ R22 a0 a1 (kI 0 = kI ↑i ∧ True)) ∧ (∀ i : Nat,true = true) ∧ ∀ i : Nat,I0 i → (ltI ↑i (lenOf a0.list) = true → (Bd ↑i (lenOf a0.list)) ∧ ((a1.bool == ((a0.list.getD (↑i : Int).toNat T.u).cell 0).bool) = true → True ∧ kI ↑i = y0 ∧ True) ∧ ((a1.bool == ((a0.list.getD (↑i : Int).toNat T.u).cell 0).bool) = false → ∃ j : Nat,I0 j ∧ M0 j < M0 i ∧ R22 a0 a1 (kI (addI .i64 ↑i 1) = kI ↑j ∧ True))) ∧ (ltI ↑i (lenOf a0.list) = false → True ∧ kI (-1 : Int) = y0 ∧ True)) : F 113 [.t 27 a0,.t 4 a1] (zo 2 2) [y0] :=
 F_nf C113 (by kernel_rfl) Tryz.func113 (by kernel_rfl) (.two .no (.two (.two .no (.lp (fun (ia : Nat) => [(a_ 0,AV.t 27 a0),(a_ 1,AV.t 4 a1),(a_ 4,AV.t 2 (T.i IntKind.i64 (0 : Int))),(a_ 7,AV.t 2 (T.i IntKind.i64 (lenOf a0.list))),(a_ 8,.t 2 (.i .i64 (ia : Int)))]) I0 M0 (fun _ => .no))) .no)) (by kernel_rfl) h
def C145 : Ctx:=⟨tab,sigs,26,[0,1,4,5,7,12,13,14],[],[],[],[],[]⟩
theorem r_a (a0 : T) (a1 : T) (y0 : T) (I0 : X9 → Prop) (M0 : X9 → Nat) (h : ∃ y : T,F 186 [.t 26 (T.l (((List.replicate 2 (T.l [])).set 0 a0).set 1 a1))] (zo 1 25) [y] ∧ (∃ (i : X9),I0 i ∧ R23 a0 a1 (T.b false = i.2.1.cell 0 ∧ T.l [] = i.2.1.cell 1 ∧ T.l [] = i.2.1.cell 2 ∧ y = i.1 ∧ kI (lenOf y.list) = kI (lenOf i.1.list) ∧ kI 0 = kI ↑i.2.2 ∧ True)) ∧ (∀ (i : X9),true = true) ∧ ∀ (i : X9),I0 i → (ltI ↑i.2.2 (lenOf i.1.list) = true → (Bd ↑i.2.2 (lenOf i.1.list)) ∧ ∃ y : T,F 187 [.t 23 (G3 i.2.1),.t 23 (G3 ((i.1.list.getD (↑i.2.2 : Int).toNat T.u).part 0 3))] (zo 2 23) [y] ∧ ∃ (j : X9),I0 j ∧ M0 j < M0 i ∧ R23 a0 a1 (E3 y j.2.1 (i.1 = j.1 ∧ kI (lenOf i.1.list) = kI (lenOf j.1.list) ∧ kI (addI .i64 ↑i.2.2 1) = kI ↑j.2.2 ∧ True))) ∧ (ltI ↑i.2.2 (lenOf i.1.list) = false → ∃ y : T,F 183 [] (zo 0 23) [y] ∧ ∃ y_1 : T,F 117 [.t 23 (G3 i.2.1),.t 23 y] (zo 2 2) [y_1] ∧ True ∧ T.b (eqI y_1.int 0) = y0 ∧ True)) : F 145 [.t 25 a0,.t 25 a1] (zo 2 4) [y0] :=
 F_nf C145 (by kernel_rfl) Tryz.func145 (by kernel_rfl) (.two .no (.two .no (.two (.two .no (.lp (fun (ia : X9) => [(a_ 0,AV.t 25 a0),(a_ 1,AV.t 25 a1),(a_ 4,AV.t 4 (T.b false)),(a_ 5,AV.box 23 0 3)] ++ bxS 5 ia.2.1 0 Y1 ++ [(a_ 12,.t 25 ia.1),(a_ 13,.t 2 (.i .i64 (lenOf ia.1.list))),(a_ 14,.t 2 (.i .i64 (ia.2.2 : Int)))]) I0 M0 (fun _ => .no))) .no))) (by kernel_rfl) h
def C203 : Ctx:=⟨tab,sigs,19,[0,1,4,5,7,8],[],[],[],[],[]⟩
theorem r_F (a0 : T) (y0 : T) (I0 : Nat → Prop) (M0 : Nat → Nat) (h : (∃ i : Nat,I0 i ∧ a0 = a0 ∧ T.f 185 [] = T.f 185 [] ∧ R24 a0 (kI 0 = kI ↑i ∧ True)) ∧ (∀ i : Nat,true = true) ∧ ∀ i : Nat,I0 i → (ltI ↑i (lenOf a0.list) = true → (Bd ↑i (lenOf a0.list)) ∧ ∃ y : T,(true = true ∧ F 185 [.t 23 ((a0.list.getD (↑i : Int).toNat T.u).part 0 3)] (zo 1 4) [y]) ∧ (y.bool = true → True ∧ kI ↑i = y0 ∧ True) ∧ (y.bool = false → ∃ j : Nat,I0 j ∧ M0 j < M0 i ∧ a0 = a0 ∧ T.f 185 [] = T.f 185 [] ∧ R24 a0 (kI (addI .i64 ↑i 1) = kI ↑j ∧ True))) ∧ (ltI ↑i (lenOf a0.list) = false → True ∧ kI (-1 : Int) = y0 ∧ True)) : F 203 [.t 25 a0,.t 1 (.f 185 [])] (zo 2 2) [y0] :=
 F_nf C203 (by kernel_rfl) Tryz.func203 (by kernel_rfl) (.two .no (.two (.two .no (.lp (fun (ia : Nat) => [(a_ 0,AV.t 25 a0),(a_ 1,AV.t 1 (T.f 185 [])),(a_ 4,AV.t 2 (T.i IntKind.i64 (0 : Int))),(a_ 7,AV.t 2 (T.i IntKind.i64 (lenOf a0.list))),(a_ 8,.t 2 (.i .i64 (ia : Int)))]) I0 M0 (fun _ => .no))) .no)) (by kernel_rfl) h
def C73 : Ctx:=⟨tab,sigs,32,[0,1,2,6,7,8,9,15,16,17],[],[],[],[],[]⟩
theorem r_S (a0 : T) (a1 : T) (y0 : T) (I0 : Nat → Prop) (M0 : Nat → Nat) (h : (neI (lenOf a0.list) (lenOf a1.list) = true → True ∧ T.b false = y0 ∧ True) ∧ (neI (lenOf a0.list) (lenOf a1.list) = false → (∃ i : Nat,I0 i ∧ a0 = a0 ∧ a1 = a1 ∧ T.f 74 [] = T.f 74 [] ∧ R25 a0 (kI 0 = kI ↑i ∧ True)) ∧ (∀ i : Nat,true = true) ∧ ∀ i : Nat,I0 i → (ltI ↑i (lenOf a0.list) = true → (Bd ↑i (lenOf a0.list)) ∧ (Bd ↑i (lenOf a1.list)) ∧ ∃ y : T,(true = true ∧ F 74 [.t 23 (G3 ((a0.list.getD (↑i : Int).toNat T.u).part 0 3)),.t 23 (G3 ((a1.list.getD (↑i : Int).toNat T.u).part 0 3))] (zo 2 4) [y]) ∧ ((!y.bool) = true → True ∧ T.b false = y0 ∧ True) ∧ ((!y.bool) = false → ∃ j : Nat,I0 j ∧ M0 j < M0 i ∧ a0 = a0 ∧ a1 = a1 ∧ T.f 74 [] = T.f 74 [] ∧ R25 a0 (kI (addI .i64 ↑i 1) = kI ↑j ∧ True))) ∧ (ltI ↑i (lenOf a0.list) = false → True ∧ T.b true = y0 ∧ True))) : F 73 [.t 25 a0,.t 25 a1,.t 1 (.f 74 [])] (zo 3 4) [y0] :=
 F_nf C73 (by kernel_rfl) Tryz.func73 (by kernel_rfl) (.two .no (.two .no (.two (.two .no (.lp (fun (ia : Nat) => [(a_ 0,AV.t 25 a0),(a_ 1,AV.t 25 a1),(a_ 2,AV.t 1 (T.f 74 [])),(a_ 6,AV.t 4 (T.b false)),(a_ 15,AV.t 25 a0),(a_ 16,AV.t 2 (T.i IntKind.i64 (lenOf a0.list))),(a_ 17,.t 2 (.i .i64 (ia : Int)))]) I0 M0 (fun _ => .no))) .no))) (by kernel_rfl) h
theorem r_T (a0 : T) (a1 : T) (y0 : T) (I0 : Nat → Prop) (M0 : Nat → Nat) (h : (neI (lenOf a0.list) (lenOf a1.list) = true → True ∧ T.b false = y0 ∧ True) ∧ (neI (lenOf a0.list) (lenOf a1.list) = false → (∃ i : Nat,I0 i ∧ a0 = a0 ∧ a1 = a1 ∧ T.f 188 [] = T.f 188 [] ∧ R25 a0 (kI 0 = kI ↑i ∧ True)) ∧ (∀ i : Nat,true = true) ∧ ∀ i : Nat,I0 i → (ltI ↑i (lenOf a0.list) = true → (Bd ↑i (lenOf a0.list)) ∧ (Bd ↑i (lenOf a1.list)) ∧ ∃ y : T,(true = true ∧ F 188 [.t 23 (G3 ((a0.list.getD (↑i : Int).toNat T.u).part 0 3)),.t 23 (G3 ((a1.list.getD (↑i : Int).toNat T.u).part 0 3))] (zo 2 4) [y]) ∧ ((!y.bool) = true → True ∧ T.b false = y0 ∧ True) ∧ ((!y.bool) = false → ∃ j : Nat,I0 j ∧ M0 j < M0 i ∧ a0 = a0 ∧ a1 = a1 ∧ T.f 188 [] = T.f 188 [] ∧ R25 a0 (kI (addI .i64 ↑i 1) = kI ↑j ∧ True))) ∧ (ltI ↑i (lenOf a0.list) = false → True ∧ T.b true = y0 ∧ True))) : F 73 [.t 25 a0,.t 25 a1,.t 1 (.f 188 [])] (zo 3 4) [y0] :=
 F_nf C73 (by kernel_rfl) Tryz.func73 (by kernel_rfl) (.two .no (.two .no (.two (.two .no (.lp (fun (ia : Nat) => [(a_ 0,AV.t 25 a0),(a_ 1,AV.t 25 a1),(a_ 2,AV.t 1 (T.f 188 [])),(a_ 6,AV.t 4 (T.b false)),(a_ 15,AV.t 25 a0),(a_ 16,AV.t 2 (T.i IntKind.i64 (lenOf a0.list))),(a_ 17,.t 2 (.i .i64 (ia : Int)))]) I0 M0 (fun _ => .no))) .no))) (by kernel_rfl) h
def C75 : Ctx:=⟨tab,sigs,32,[0,1,2,6,7,8,9,15,16,17],[],[],[],[],[]⟩
theorem t_I (a0 : T) (a1 : T) (y0 : T) (I0 : Nat → Prop) (M0 : Nat → Nat) (h : (neI (lenOf a0.list) (lenOf a1.list) = true → True ∧ T.b false = y0 ∧ True) ∧ (neI (lenOf a0.list) (lenOf a1.list) = false → (∃ i : Nat,I0 i ∧ a0 = a0 ∧ a1 = a1 ∧ T.f 72 [] = T.f 72 [] ∧ R25 a0 (kI 0 = kI ↑i ∧ True)) ∧ (∀ i : Nat,true = true) ∧ ∀ i : Nat,I0 i → (ltI ↑i (lenOf a0.list) = true → (Bd ↑i (lenOf a0.list)) ∧ (Bd ↑i (lenOf a1.list)) ∧ ∃ y : T,(true = true ∧ F 72 [.t 25 ((a0.list.getD (↑i : Int).toNat T.u).cell 0),.t 25 ((a1.list.getD (↑i : Int).toNat T.u).cell 0)] (zo 2 4) [y]) ∧ ((!y.bool) = true → True ∧ T.b false = y0 ∧ True) ∧ ((!y.bool) = false → ∃ j : Nat,I0 j ∧ M0 j < M0 i ∧ a0 = a0 ∧ a1 = a1 ∧ T.f 72 [] = T.f 72 [] ∧ R25 a0 (kI (addI .i64 ↑i 1) = kI ↑j ∧ True))) ∧ (ltI ↑i (lenOf a0.list) = false → True ∧ T.b true = y0 ∧ True))) : F 75 [.t 26 a0,.t 26 a1,.t 1 (.f 72 [])] (zo 3 4) [y0] :=
 F_nf C75 (by kernel_rfl) Tryz.func75 (by kernel_rfl) (.two .no (.two .no (.two (.two .no (.lp (fun (ia : Nat) => [(a_ 0,AV.t 26 a0),(a_ 1,AV.t 26 a1),(a_ 2,AV.t 1 (T.f 72 [])),(a_ 6,AV.t 4 (T.b false)),(a_ 15,AV.t 26 a0),(a_ 16,AV.t 2 (T.i IntKind.i64 (lenOf a0.list))),(a_ 17,.t 2 (.i .i64 (ia : Int)))]) I0 M0 (fun _ => .no))) .no))) (by kernel_rfl) h
def C76 : Ctx:=⟨tab,sigs,26,[0,1,4,5,12,13],[],[],[],[],[]⟩
theorem t_J (a0 : T) (a1 : T) (y0 : T) (I0 : Nat → Prop) (M0 : Nat → Nat) (h : (neI (lenOf a0.list) (lenOf a1.list) = true → True ∧ T.b false = y0 ∧ True) ∧ (neI (lenOf a0.list) (lenOf a1.list) = false → (∃ i : Nat,I0 i ∧ R26 a0 a1 (kI 0 = kI ↑i ∧ True)) ∧ (∀ i : Nat,true = true) ∧ ∀ i : Nat,I0 i → (ltI ↑i (lenOf a0.list) = true → (Bd ↑i (lenOf a0.list)) ∧ (Bd ↑i (lenOf a1.list)) ∧ ((!((a0.list.getD (↑i : Int).toNat T.u).cell 0).bool == ((a1.list.getD (↑i : Int).toNat T.u).cell 0).bool) = true → True ∧ T.b false = y0 ∧ True) ∧ ((!((a0.list.getD (↑i : Int).toNat T.u).cell 0).bool == ((a1.list.getD (↑i : Int).toNat T.u).cell 0).bool) = false → ∃ j : Nat,I0 j ∧ M0 j < M0 i ∧ R26 a0 a1 (kI (addI .i64 ↑i 1) = kI ↑j ∧ True))) ∧ (ltI ↑i (lenOf a0.list) = false → True ∧ T.b true = y0 ∧ True))) : F 76 [.t 27 a0,.t 27 a1] (zo 2 4) [y0] :=
 F_nf C76 (by kernel_rfl) Tryz.func76 (by kernel_rfl) (.two .no (.two .no (.two (.two .no (.lp (fun (ia : Nat) => [(a_ 0,AV.t 27 a0),(a_ 1,AV.t 27 a1),(a_ 4,AV.t 4 (T.b false)),(a_ 12,AV.t 2 (T.i IntKind.i64 (lenOf a0.list))),(a_ 13,.t 2 (.i .i64 (ia : Int)))]) I0 M0 (fun _ => .no))) .no))) (by kernel_rfl) h
def C77 : Ctx:=⟨tab,sigs,26,[0,1,4,5,12,13],[],[],[],[],[]⟩
theorem t_K (a0 : T) (a1 : T) (y0 : T) (I0 : Nat → Prop) (M0 : Nat → Nat) (h : (neI (lenOf a0.list) (lenOf a1.list) = true → True ∧ T.b false = y0 ∧ True) ∧ (neI (lenOf a0.list) (lenOf a1.list) = false → (∃ i : Nat,I0 i ∧ R26 a0 a1 (kI 0 = kI ↑i ∧ True)) ∧ (∀ i : Nat,true = true) ∧ ∀ i : Nat,I0 i → (ltI ↑i (lenOf a0.list) = true → (Bd ↑i (lenOf a0.list)) ∧ (Bd ↑i (lenOf a1.list)) ∧ (neI ((a0.list.getD (↑i : Int).toNat T.u).cell 0).int ((a1.list.getD (↑i : Int).toNat T.u).cell 0).int = true → True ∧ T.b false = y0 ∧ True) ∧ (neI ((a0.list.getD (↑i : Int).toNat T.u).cell 0).int ((a1.list.getD (↑i : Int).toNat T.u).cell 0).int = false → ∃ j : Nat,I0 j ∧ M0 j < M0 i ∧ R26 a0 a1 (kI (addI .i64 ↑i 1) = kI ↑j ∧ True))) ∧ (ltI ↑i (lenOf a0.list) = false → True ∧ T.b true = y0 ∧ True))) : F 77 [.t 28 a0,.t 28 a1] (zo 2 4) [y0] :=
 F_nf C77 (by kernel_rfl) Tryz.func77 (by kernel_rfl) (.two .no (.two .no (.two (.two .no (.lp (fun (ia : Nat) => [(a_ 0,AV.t 28 a0),(a_ 1,AV.t 28 a1),(a_ 4,AV.t 4 (T.b false)),(a_ 12,AV.t 2 (T.i IntKind.i64 (lenOf a0.list))),(a_ 13,.t 2 (.i .i64 (ia : Int)))]) I0 M0 (fun _ => .no))) .no))) (by kernel_rfl) h
def C121 : Ctx:=⟨tab,sigs,26,[0,1,4,5,12,13],[],[],[],[],[]⟩
theorem q_U (a0 : T) (a1 : T) (y0 : T) (I0 : Nat → Prop) (M0 : Nat → Nat) (h : (neI (lenOf a0.list) (lenOf a1.list) = true → True ∧ T.b false = y0 ∧ True) ∧ (neI (lenOf a0.list) (lenOf a1.list) = false → (∃ i : Nat,I0 i ∧ R26 a0 a1 (kI 0 = kI ↑i ∧ True)) ∧ (∀ i : Nat,true = true) ∧ ∀ i : Nat,I0 i → (ltI ↑i (lenOf a0.list) = true → (Bd ↑i (lenOf a0.list)) ∧ (Bd ↑i (lenOf a1.list)) ∧ (neI ((a0.list.getD (↑i : Int).toNat T.u).cell 0).int ((a1.list.getD (↑i : Int).toNat T.u).cell 0).int = true → True ∧ T.b false = y0 ∧ True) ∧ (neI ((a0.list.getD (↑i : Int).toNat T.u).cell 0).int ((a1.list.getD (↑i : Int).toNat T.u).cell 0).int = false → ∃ j : Nat,I0 j ∧ M0 j < M0 i ∧ R26 a0 a1 (kI (addI .i64 ↑i 1) = kI ↑j ∧ True))) ∧ (ltI ↑i (lenOf a0.list) = false → True ∧ T.b true = y0 ∧ True))) : F 121 [.t 22 a0,.t 22 a1] (zo 2 4) [y0] :=
 F_nf C121 (by kernel_rfl) Tryz.func121 (by kernel_rfl) (.two .no (.two .no (.two (.two .no (.lp (fun (ia : Nat) => [(a_ 0,AV.t 22 a0),(a_ 1,AV.t 22 a1),(a_ 4,AV.t 4 (T.b false)),(a_ 12,AV.t 2 (T.i IntKind.i64 (lenOf a0.list))),(a_ 13,.t 2 (.i .i64 (ia : Int)))]) I0 M0 (fun _ => .no))) .no))) (by kernel_rfl) h
def C103 : Ctx:=⟨tab,sigs,28,[0,1,4,5,6,7,13,14,15],[a_ 5],[],[],[],[]⟩
theorem q_D (a0 : T) (y0 : T) (I0 : (List T × Nat) → Prop) (M0 : (List T × Nat) → Nat) (h : ∀ y : T,nilC a0 y → (y.bool = true → True ∧ T.l [] = y0 ∧ True) ∧ (y.bool = false → (0 ≤ lenOf a0.list ∧ lenOf a0.list ≤ lenOf a0.list ∧ (↑56 : Int) * lenOf a0.list ≤ (281474976710656 : Int) ∧ lenOf a0.list ≤ (9223372036854775807 : Int)) ∧ (∃ (i : List T × Nat),I0 i ∧ a0 = a0 ∧ T.f 100 [] = T.f 100 [] ∧ T.l [] = T.l [] ∧ List.replicate (lenOf a0.list).toNat (T.g [T.b false,T.l [],T.l []]) = i.1 ∧ R10 a0 (kI 0 = kI ↑i.2 ∧ True)) ∧ (∀ (i : List T × Nat),true = true) ∧ ∀ (i : List T × Nat),I0 i → (ltI ↑i.2 (lenOf a0.list) = true → (Bd ↑i.2 (lenOf a0.list)) ∧ ∃ y : T,(true = true ∧ F 100 [.t 23 (G3 ((a0.list.getD (↑i.2 : Int).toNat T.u).part 0 3))] (zo 1 23) [y]) ∧ (Bd ↑i.2 (↑i.1.length : Int)) ∧ ∃ (j : List T × Nat),I0 j ∧ M0 j < M0 i ∧ a0 = a0 ∧ T.f 100 [] = T.f 100 [] ∧ T.l [] = T.l [] ∧ i.1.set (0 + (↑i.2 : Int).toNat) ((((i.1.getD (0 + (↑i.2 : Int).toNat) T.u).setCell 0 (y.cell 0)).setCell 1 (y.cell 1)).setCell 2 (y.cell 2)) = j.1 ∧ R10 a0 (kI (addI .i64 ↑i.2 1) = kI ↑j.2 ∧ True)) ∧ (ltI ↑i.2 (lenOf a0.list) = false → True ∧ T.l (List.take i.1.length (List.drop 0 i.1)) = y0 ∧ True))) : F 103 [.t 25 a0,.t 1 (.f 100 [])] (zo 2 25) [y0] :=
 F_nf C103 (by kernel_rfl) Tryz.func103 (by kernel_rfl) (.two .no (.two .no (.two .no (.two (.two .no (.lp (fun (ia : List T × Nat) => [(a_ 0,AV.t 25 a0),(a_ 1,AV.t 1 (T.f 100 [])),(a_ 4,AV.t 25 (T.l [])),(a_ 5,.own 25 0 ia.1),(a_ 13,AV.t 25 a0),(a_ 14,AV.t 2 (T.i IntKind.i64 (lenOf a0.list))),(a_ 15,.t 2 (.i .i64 (ia.2 : Int)))]) I0 M0 (fun _ => .no))) .no)))) (by kernel_rfl) h
def C104 : Ctx:=⟨tab,sigs,28,[0,1,4,5,6,7,13,14,15],[a_ 5],[],[],[],[]⟩
theorem q_E (a0 : T) (y0 : T) (I0 : (List T × Nat) → Prop) (M0 : (List T × Nat) → Nat) (h : ∀ y : T,nilC a0 y → (y.bool = true → True ∧ T.l [] = y0 ∧ True) ∧ (y.bool = false → (0 ≤ lenOf a0.list ∧ lenOf a0.list ≤ lenOf a0.list ∧ (↑24 : Int) * lenOf a0.list ≤ (281474976710656 : Int) ∧ lenOf a0.list ≤ (9223372036854775807 : Int)) ∧ (∃ (i : List T × Nat),I0 i ∧ a0 = a0 ∧ T.f 62 [] = T.f 62 [] ∧ T.l [] = T.l [] ∧ List.replicate (lenOf a0.list).toNat (T.l []) = i.1 ∧ R10 a0 (kI 0 = kI ↑i.2 ∧ True)) ∧ (∀ (i : List T × Nat),true = true) ∧ ∀ (i : List T × Nat),I0 i → (ltI ↑i.2 (lenOf a0.list) = true → (Bd ↑i.2 (lenOf a0.list)) ∧ ∃ y : T,(true = true ∧ F 62 [.t 28 ((a0.list.getD (↑i.2 : Int).toNat T.u).cell 0)] (zo 1 28) [y]) ∧ (Bd ↑i.2 (↑i.1.length : Int)) ∧ ∃ (j : List T × Nat),I0 j ∧ M0 j < M0 i ∧ a0 = a0 ∧ T.f 62 [] = T.f 62 [] ∧ T.l [] = T.l [] ∧ i.1.set (0 + (↑i.2 : Int).toNat) y = j.1 ∧ R10 a0 (kI (addI .i64 ↑i.2 1) = kI ↑j.2 ∧ True)) ∧ (ltI ↑i.2 (lenOf a0.list) = false → True ∧ T.l (List.take i.1.length (List.drop 0 i.1)) = y0 ∧ True))) : F 104 [.t 59 a0,.t 1 (.f 62 [])] (zo 2 59) [y0] :=
 F_nf C104 (by kernel_rfl) Tryz.func104 (by kernel_rfl) (.two .no (.two .no (.two .no (.two (.two .no (.lp (fun (ia : List T × Nat) => [(a_ 0,AV.t 59 a0),(a_ 1,AV.t 1 (T.f 62 [])),(a_ 4,AV.t 59 (T.l [])),(a_ 5,.own 59 0 ia.1),(a_ 13,AV.t 59 a0),(a_ 14,AV.t 2 (T.i IntKind.i64 (lenOf a0.list))),(a_ 15,.t 2 (.i .i64 (ia.2 : Int)))]) I0 M0 (fun _ => .no))) .no)))) (by kernel_rfl) h
def C140 : Ctx:=⟨tab,sigs,28,[0,1,4,5,6,7,13,14,15],[a_ 5],[],[],[],[]⟩
theorem q_5 (a0 : T) (y0 : T) (I0 : (List T × Nat) → Prop) (M0 : (List T × Nat) → Nat) (h : ∀ y : T,nilC a0 y → (y.bool = true → True ∧ T.l [] = y0 ∧ True) ∧ (y.bool = false → (0 ≤ lenOf a0.list ∧ lenOf a0.list ≤ lenOf a0.list ∧ (↑24 : Int) * lenOf a0.list ≤ (281474976710656 : Int) ∧ lenOf a0.list ≤ (9223372036854775807 : Int)) ∧ (∃ (i : List T × Nat),I0 i ∧ a0 = a0 ∧ T.f 60 [] = T.f 60 [] ∧ T.l [] = T.l [] ∧ List.replicate (lenOf a0.list).toNat (T.l []) = i.1 ∧ R10 a0 (kI 0 = kI ↑i.2 ∧ True)) ∧ (∀ (i : List T × Nat),true = true) ∧ ∀ (i : List T × Nat),I0 i → (ltI ↑i.2 (lenOf a0.list) = true → (Bd ↑i.2 (lenOf a0.list)) ∧ ∃ y : T,(true = true ∧ F 60 [.t 25 ((a0.list.getD (↑i.2 : Int).toNat T.u).cell 0)] (zo 1 25) [y]) ∧ (Bd ↑i.2 (↑i.1.length : Int)) ∧ ∃ (j : List T × Nat),I0 j ∧ M0 j < M0 i ∧ a0 = a0 ∧ T.f 60 [] = T.f 60 [] ∧ T.l [] = T.l [] ∧ i.1.set (0 + (↑i.2 : Int).toNat) y = j.1 ∧ R10 a0 (kI (addI .i64 ↑i.2 1) = kI ↑j.2 ∧ True)) ∧ (ltI ↑i.2 (lenOf a0.list) = false → True ∧ T.l (List.take i.1.length (List.drop 0 i.1)) = y0 ∧ True))) : F 140 [.t 26 a0,.t 1 (.f 60 [])] (zo 2 26) [y0] :=
 F_nf C140 (by kernel_rfl) Tryz.func140 (by kernel_rfl) (.two .no (.two .no (.two .no (.two (.two .no (.lp (fun (ia : List T × Nat) => [(a_ 0,AV.t 26 a0),(a_ 1,AV.t 1 (T.f 60 [])),(a_ 4,AV.t 26 (T.l [])),(a_ 5,.own 26 0 ia.1),(a_ 13,AV.t 26 a0),(a_ 14,AV.t 2 (T.i IntKind.i64 (lenOf a0.list))),(a_ 15,.t 2 (.i .i64 (ia.2 : Int)))]) I0 M0 (fun _ => .no))) .no)))) (by kernel_rfl) h
theorem r_R (a0 : T) (y0 : T) (h : ∀ y : T,nilC a0 y → (y.bool = true → True ∧ T.l [] = y0 ∧ True) ∧ (y.bool = false → (Rm (0 + a0.list.length) 8) ∧ True ∧ T.l (List.replicate 0 (kI 0) ++ a0.list) = y0 ∧ True)) : F 62 [.t 28 a0] (zo 1 28) [y0] :=
 F_nf C62 (by kernel_rfl) Tryz.func62 (by kernel_rfl) .no (by kernel_rfl) h
def C158 : Ctx:=⟨tab,sigs,19,[0,1,4,5,7,8],[],[],[],[],[]⟩
theorem r_k (a0 : T) (c : T) (y0 : T) (I0 : Nat → Prop) (M0 : Nat → Nat) (h : (∃ i : Nat,I0 i ∧ a0 = a0 ∧ T.f 120 [c] = T.f 120 [c] ∧ R24 a0 (kI 0 = kI ↑i ∧ True)) ∧ (∀ i : Nat,true = true) ∧ ∀ i : Nat,I0 i → (ltI ↑i (lenOf a0.list) = true → (Bd ↑i (lenOf a0.list)) ∧ ∃ y : T,(true = true ∧ F 120 [.t 2 ((a0.list.getD (↑i : Int).toNat T.u).cell 0),k_E c] (zo 2 4) [y]) ∧ (y.bool = true → True ∧ kI ↑i = y0 ∧ True) ∧ (y.bool = false → ∃ j : Nat,I0 j ∧ M0 j < M0 i ∧ a0 = a0 ∧ T.f 120 [c] = T.f 120 [c] ∧ R24 a0 (kI (addI .i64 ↑i 1) = kI ↑j ∧ True))) ∧ (ltI ↑i (lenOf a0.list) = false → True ∧ kI (-1 : Int) = y0 ∧ True)) : F 158 [.t 28 a0,.t 1 (.f 120 [c])] (zo 2 2) [y0] :=
 F_nf C158 (by kernel_rfl) Tryz.func158 (by kernel_rfl) (.two .no (.two (.two .no (.lp (fun (ia : Nat) => [(a_ 0,AV.t 28 a0),(a_ 1,AV.t 1 (T.f 120 [c])),(a_ 4,AV.t 2 (T.i IntKind.i64 (0 : Int))),(a_ 7,AV.t 2 (T.i IntKind.i64 (lenOf a0.list))),(a_ 8,.t 2 (.i .i64 (ia : Int)))]) I0 M0 (fun _ => .no))) .no)) (by kernel_rfl) h
def C167 : Ctx:=⟨tab,sigs,36,[0,1,4,5,6,7,8,9,10,11],[],[],[],[],[]⟩
theorem r_s (a0 : T) (a1 : T) (y0 : T) (I0 : Nat → Prop) (M0 : Nat → Nat) (h : (∃ i : Nat,I0 i ∧ R27 a0 a1 (kI 0 = kI ↑i ∧ True)) ∧ (∀ i : Nat,true = true) ∧ ∀ i : Nat,I0 i → (ltI ↑i (lenOf a0.list) = true → (Bd ↑i (lenOf a0.list)) ∧ (leI (lenOf a1.list) ↑i = true → True ∧ kI 1 = y0 ∧ True) ∧ (leI (lenOf a1.list) ↑i = false → (Bd ↑i (lenOf a1.list)) ∧ ∃ y : T,F 165 [.t 2 ((a0.list.getD (↑i : Int).toNat T.u).cell 0),.t 2 ((a1.list.getD (↑i : Int).toNat T.u).cell 0)] (zo 2 2) [y] ∧ (neI y.int 0 = true → True ∧ y = y0 ∧ True) ∧ (neI y.int 0 = false → ∃ j : Nat,I0 j ∧ M0 j < M0 i ∧ R27 a0 a1 (kI (addI .i64 ↑i 1) = kI ↑j ∧ True)))) ∧ (ltI ↑i (lenOf a0.list) = false → (ltI (lenOf a0.list) (lenOf a1.list) = true → True ∧ kI (-1 : Int) = y0 ∧ True) ∧ (ltI (lenOf a0.list) (lenOf a1.list) = false → True ∧ kI 0 = y0 ∧ True))) : F 167 [.t 28 a0,.t 28 a1] (zo 2 2) [y0] :=
 F_nf C167 (by kernel_rfl) Tryz.func167 (by kernel_rfl) (.two .no (.two (.two .no (.lp (fun (ia : Nat) => [(a_ 0,AV.t 28 a0),(a_ 1,AV.t 28 a1),(a_ 4,AV.t 2 (T.i IntKind.i64 (0 : Int))),(a_ 9,AV.t 28 a0),(a_ 10,AV.t 2 (T.i IntKind.i64 (lenOf a0.list))),(a_ 11,.t 2 (.i .i64 (ia : Int)))]) I0 M0 (fun _ => .no))) .no)) (by kernel_rfl) h
def C163 : Ctx:=⟨tab,sigs,49,[0,1,2,6,7,8,9,10,11],[],[],[],[],[]⟩
theorem r_p (a0 : T) (a1 : T) (y0 : T) (y1 : T) (I0 : (Nat × Nat) → Prop) (M0 : (Nat × Nat) → Nat) (h : (∃ (i : Nat × Nat),I0 i ∧ a0 = a0 ∧ a1 = a1 ∧ T.f 164 [] = T.f 164 [] ∧ R28 a0 (kI 0 = kI ↑i.1 ∧ kI (lenOf a0.list) = kI ↑i.2 ∧ True)) ∧ (∀ (i : Nat × Nat),true = true) ∧ ∀ (i : Nat × Nat),I0 i → (ltI ↑i.1 ↑i.2 = true → 0 ≤ (1 : Int) ∧ (Bd (p_ .i64 (shrI .u64 (p_ .u64 (addI .i64 ↑i.1 (↑i.2 : Int))) (1 : Int))) (lenOf a0.list)) ∧ ∃ y : T,(true = true ∧ F 164 [.t 62 ((a0.list.getD (p_ .i64 (shrI .u64 (p_ .u64 (addI .i64 ↑i.1 (↑i.2 : Int))) (1 : Int))).toNat T.u).part 0 16),.t 2 a1] (zo 2 2) [y]) ∧ (ltI y.int 0 = true → ∃ (j : Nat × Nat),I0 j ∧ M0 j < M0 i ∧ a0 = a0 ∧ a1 = a1 ∧ T.f 164 [] = T.f 164 [] ∧ R28 a0 (kI (addI .i64 (p_ .i64 (shrI .u64 (p_ .u64 (addI .i64 ↑i.1 (↑i.2 : Int))) (1 : Int))) (1 : Int)) = kI ↑j.1 ∧ kI ↑i.2 = kI ↑j.2 ∧ True)) ∧ (ltI y.int 0 = false → ∃ (j : Nat × Nat),I0 j ∧ M0 j < M0 i ∧ a0 = a0 ∧ a1 = a1 ∧ T.f 164 [] = T.f 164 [] ∧ R28 a0 (kI ↑i.1 = kI ↑j.1 ∧ kI (p_ .i64 (shrI .u64 (p_ .u64 (addI .i64 ↑i.1 (↑i.2 : Int))) (1 : Int))) = kI ↑j.2 ∧ True))) ∧ (ltI ↑i.1 ↑i.2 = false → (ltI ↑i.1 (lenOf a0.list) = true ∧ True → 0 ≤ (↑i.1 : Int) ∧ (↑i.1 : Int) < lenOf a0.list) ∧ ∃ y : T,(ltI ↑i.1 (lenOf a0.list) = true ∧ True → true = true ∧ F 164 [.t 62 ((a0.list.getD (↑i.1 : Int).toNat T.u).part 0 16),.t 2 a1] (zo 2 2) [y]) ∧ True ∧ kI ↑i.1 = y0 ∧ T.ite (ltI ↑i.1 (lenOf a0.list)) (T.b (eqI y.int 0)) (T.b false) = y1 ∧ True)) : F 163 [.t 31 a0,.t 2 a1,.t 1 (.f 164 [])] Z8 [y0,y1] :=
 F_nf C163 (by kernel_rfl) Tryz.func163 (by kernel_rfl) (.two .no (.two .no (.two .no (.two (.lp (fun (ia : Nat × Nat) => [(a_ 0,AV.t 31 a0),(a_ 1,AV.t 2 a1),(a_ 2,AV.t 1 (T.f 164 [])),(a_ 6,AV.t 2 (T.i IntKind.i64 (0 : Int))),(a_ 7,AV.t 4 (T.b false)),(a_ 8,AV.t 2 (T.i IntKind.i64 (lenOf a0.list))),(a_ 9,.t 2 (.i .i64 (ia.1 : Int))),(a_ 10,.t 2 (.i .i64 (ia.2 : Int)))]) I0 M0 (fun _ => .no)) .no)))) (by kernel_rfl) h
def C64 : Ctx:=⟨tab,sigs,25,[0,1,4,5],[],[],[],[],[]⟩
theorem t_y (a0 : T) (a1 : T) (y0 : T) (I0 : Nat → Prop) (M0 : Nat → Nat) (h : (∃ i : Nat,I0 i ∧ R3 a0 a1 (kI 0 = kI ↑i ∧ True)) ∧ (∀ i : Nat,true = true) ∧ ∀ i : Nat,I0 i → (ltI ↑i (lenOf a0.list) = true → (Bd ↑i (lenOf a0.list)) ∧ (ltI ((a0.list.getD (↑i : Int).toNat T.u).cell 0).int (0 : Int) = false ∧ True → 0 ≤ (↑i : Int) ∧ (↑i : Int) < lenOf a0.list) ∧ ((T.ite (ltI ((a0.list.getD (↑i : Int).toNat T.u).cell 0).int (0 : Int)) (T.b true) (T.b (leI a1.int ((a0.list.getD (↑i : Int).toNat T.u).cell 0).int))).bool = true → True ∧ T.b false = y0 ∧ True) ∧ ((T.ite (ltI ((a0.list.getD (↑i : Int).toNat T.u).cell 0).int (0 : Int)) (T.b true) (T.b (leI a1.int ((a0.list.getD (↑i : Int).toNat T.u).cell 0).int))).bool = false → ∃ j : Nat,I0 j ∧ M0 j < M0 i ∧ R3 a0 a1 (kI (addI .i64 ↑i 1) = kI ↑j ∧ True))) ∧ (ltI ↑i (lenOf a0.list) = false → True ∧ T.b true = y0 ∧ True)) : F 64 [.t 28 a0,.t 2 a1] (zo 2 4) [y0] :=
 F_nf C64 (by kernel_rfl) Tryz.func64 (by kernel_rfl) (.two .no (.two (.two .no (.lp (fun (ia : Nat) => [(a_ 0,AV.t 28 a0),(a_ 1,AV.t 2 a1),(a_ 4,AV.t 4 (T.b false)),(a_ 5,.t 2 (.i .i64 (ia : Int)))]) I0 M0 (fun _ => .no))) .no)) (by kernel_rfl) h
def C41 : Ctx:=⟨tab,sigs,40,[0,1,4,5],[],[],[],[],[]⟩
theorem t_h (a0 : T) (a1 : T) (y0 : T) (I0 : Nat → Prop) (M0 : Nat → Nat) (h : (neI (lenOf a0.list) (lenOf a1.list) = true → (ltI (lenOf a0.list) (lenOf a1.list) = true → True ∧ kI (-1 : Int) = y0 ∧ True) ∧ (ltI (lenOf a0.list) (lenOf a1.list) = false → True ∧ kI 1 = y0 ∧ True)) ∧ (neI (lenOf a0.list) (lenOf a1.list) = false → (∃ i : Nat,I0 i ∧ R8 a0 a1 (kI 0 = kI ↑i ∧ True)) ∧ (∀ i : Nat,true = true) ∧ ∀ i : Nat,I0 i → (ltI ↑i (lenOf a0.list) = true → (Bd ↑i (lenOf a0.list)) ∧ (Bd ↑i (lenOf a1.list)) ∧ (ltI ((a0.list.getD (↑i : Int).toNat T.u).cell 0).int ((a1.list.getD (↑i : Int).toNat T.u).cell 0).int = true → True ∧ kI (-1 : Int) = y0 ∧ True) ∧ (ltI ((a0.list.getD (↑i : Int).toNat T.u).cell 0).int ((a1.list.getD (↑i : Int).toNat T.u).cell 0).int = false → (Bd ↑i (lenOf a0.list)) ∧ (Bd ↑i (lenOf a1.list)) ∧ (ltI ((a1.list.getD (↑i : Int).toNat T.u).cell 0).int ((a0.list.getD (↑i : Int).toNat T.u).cell 0).int = true → True ∧ kI 1 = y0 ∧ True) ∧ (ltI ((a1.list.getD (↑i : Int).toNat T.u).cell 0).int ((a0.list.getD (↑i : Int).toNat T.u).cell 0).int = false → ∃ j : Nat,I0 j ∧ M0 j < M0 i ∧ R8 a0 a1 (kI (addI .i64 ↑i 1) = kI ↑j ∧ True)))) ∧ (ltI ↑i (lenOf a0.list) = false → True ∧ kI 0 = y0 ∧ True))) : F 41 [.t 28 a0,.t 28 a1] (zo 2 2) [y0] :=
 F_nf C41 (by kernel_rfl) Tryz.func41 (by kernel_rfl) (.two .no (.two .no (.two (.two .no (.lp (fun (ia : Nat) => [(a_ 0,AV.t 28 a0),(a_ 1,AV.t 28 a1),(a_ 4,AV.t 2 (T.i IntKind.i64 (0 : Int))),(a_ 5,.t 2 (.i .i64 (ia : Int)))]) I0 M0 (fun _ => .no))) .no))) (by kernel_rfl) h
def C82 : Ctx:=⟨tab,sigs,27,[0,1,4,5],[],[],[],[],[]⟩
theorem t_P (a0 : T) (a1 : T) (y0 : T) (I0 : Nat → Prop) (M0 : Nat → Nat) (h : (neI (lenOf a0.list) (lenOf a1.list) = true → True ∧ T.b false = y0 ∧ True) ∧ (neI (lenOf a0.list) (lenOf a1.list) = false → (∃ i : Nat,I0 i ∧ R3 a0 a1 (kI 0 = kI ↑i ∧ True)) ∧ (∀ i : Nat,true = true) ∧ ∀ i : Nat,I0 i → (ltI ↑i (lenOf a0.list) = true → (Bd ↑i (lenOf a0.list)) ∧ (Bd ↑i (lenOf a1.list)) ∧ ∃ y : T,F 23 [.t 23 ((a0.list.getD (↑i : Int).toNat T.u).part 0 3),.t 23 ((a1.list.getD (↑i : Int).toNat T.u).part 0 3)] (zo 2 2) [y] ∧ (neI y.int 0 = true → True ∧ T.b false = y0 ∧ True) ∧ (neI y.int 0 = false → ∃ j : Nat,I0 j ∧ M0 j < M0 i ∧ R3 a0 a1 (kI (addI .i64 ↑i 1) = kI ↑j ∧ True))) ∧ (ltI ↑i (lenOf a0.list) = false → True ∧ T.b true = y0 ∧ True))) : F 82 [.t 25 a0,.t 25 a1] (zo 2 4) [y0] :=
 F_nf C82 (by kernel_rfl) Tryz.func82 (by kernel_rfl) (.two .no (.two .no (.two (.two .no (.lp (fun (ia : Nat) => [(a_ 0,AV.t 25 a0),(a_ 1,AV.t 25 a1),(a_ 4,AV.t 4 (T.b false)),(a_ 5,.t 2 (.i .i64 (ia : Int)))]) I0 M0 (fun _ => .no))) .no))) (by kernel_rfl) h
def C20 : Ctx:=⟨tab,sigs,31,[0,1,2,6,7,8],[a_ 7],[],[],[],[]⟩
theorem s_5 (a0 : T) (a1 : T) (a2 : T) (y0 : T) (I0 : (List T × Nat) → Prop) (M0 : (List T × Nat) → Nat) (h : (∃ (i : List T × Nat),I0 i ∧ R29 a0 a1 a2 ([] = i.1 ∧ kI 0 = kI ↑i.2 ∧ True)) ∧ (∀ (i : List T × Nat),true = true) ∧ ∀ (i : List T × Nat),I0 i → ((T.ite (ltI ↑i.2 (lenOf a0.list)) (T.b (ltI ↑i.2 a2.int)) (T.b false)).bool = true → (Bd ↑i.2 (lenOf a0.list)) ∧ ∃ y : T,F 19 [.t 2 ((a0.list.getD (↑i.2 : Int).toNat T.u).cell 0),.t 2 a1] (zo 2 2) [y] ∧ (Rm ((List.take i.1.length i.1).length + ((List.replicate 1 (kI 0)).set 0 (kI (addI .i64 1 y.int))).length) 8) ∧ ∃ (j : List T × Nat),I0 j ∧ M0 j < M0 i ∧ R29 a0 a1 a2 (List.take i.1.length i.1 ++ (List.replicate 1 (kI 0)).set 0 (kI (addI .i64 1 y.int)) = j.1 ∧ kI (addI .i64 ↑i.2 1) = kI ↑j.2 ∧ True)) ∧ ((T.ite (ltI ↑i.2 (lenOf a0.list)) (T.b (ltI ↑i.2 a2.int)) (T.b false)).bool = false → True ∧ T.l (List.take i.1.length (List.drop 0 i.1)) = y0 ∧ True)) : F 20 [.t 28 a0,.t 2 a1,.t 2 a2] (zo 3 28) [y0] :=
 F_nf C20 (by kernel_rfl) Tryz.func20 (by kernel_rfl) (.two .no (.two .no (.two (.two .no (.lp (fun (ia : List T × Nat) => [(a_ 0,AV.t 28 a0),(a_ 1,AV.t 2 a1),(a_ 2,AV.t 2 a2),(a_ 6,AV.t 28 (T.l [])),(a_ 7,.own 28 0 ia.1),(a_ 8,.t 2 (.i .i64 (ia.2 : Int)))]) I0 M0 (fun _ => .no))) .no))) (by kernel_rfl) h
def C22 : Ctx:=⟨tab,sigs,26,[0,1,4,5],[],[],[],[],[]⟩
theorem s_6 (a0 : T) (a1 : T) (y0 : T) (I0 : Nat → Prop) (M0 : Nat → Nat) (h : (neI (lenOf a0.list) (lenOf a1.list) = true → True ∧ T.b false = y0 ∧ True) ∧ (neI (lenOf a0.list) (lenOf a1.list) = false → (∃ i : Nat,I0 i ∧ R3 a0 a1 (kI 0 = kI ↑i ∧ True)) ∧ (∀ i : Nat,true = true) ∧ ∀ i : Nat,I0 i → (ltI ↑i (lenOf a0.list) = true → (Bd ↑i (lenOf a0.list)) ∧ (Bd ↑i (lenOf a1.list)) ∧ (neI ((a0.list.getD (↑i : Int).toNat T.u).cell 0).int ((a1.list.getD (↑i : Int).toNat T.u).cell 0).int = true → True ∧ T.b false = y0 ∧ True) ∧ (neI ((a0.list.getD (↑i : Int).toNat T.u).cell 0).int ((a1.list.getD (↑i : Int).toNat T.u).cell 0).int = false → ∃ j : Nat,I0 j ∧ M0 j < M0 i ∧ R3 a0 a1 (kI (addI .i64 ↑i 1) = kI ↑j ∧ True))) ∧ (ltI ↑i (lenOf a0.list) = false → True ∧ T.b true = y0 ∧ True))) : F 22 [.t 28 a0,.t 28 a1] (zo 2 4) [y0] :=
 F_nf C22 (by kernel_rfl) Tryz.func22 (by kernel_rfl) (.two .no (.two .no (.two (.two .no (.lp (fun (ia : Nat) => [(a_ 0,AV.t 28 a0),(a_ 1,AV.t 28 a1),(a_ 4,AV.t 4 (T.b false)),(a_ 5,.t 2 (.i .i64 (ia : Int)))]) I0 M0 (fun _ => .no))) .no))) (by kernel_rfl) h
def C109 : Ctx:=⟨tab,sigs,131,[0,1,2,3,4,5,66,67],[],[],[],[],[]⟩
theorem q_J (a0 : T) (y0 : T) (I0 : Nat → Prop) (M0 : Nat → Nat) (h : ∃ y : T,F 143 [.t 23 (T.g [a0.cell 2,a0.cell 3,a0.cell 4])] (zo 1 4) [y] ∧ ∃ y_1 : T,((T.ite (T.ite (T.ite (T.ite (T.ite (T.ite (!y.bool) (T.b true) (T.b (neI (lenOf (a0.cell 5).list) (a0.cell 1).int))).bool (T.b true) (T.b (neI (lenOf (a0.cell 7).list) (a0.cell 1).int))).bool (T.b true) (T.b (neI (lenOf (a0.cell 9).list) (a0.cell 1).int))).bool (T.b true) (T.b (neI (lenOf (a0.cell 10).list) (a0.cell 1).int))).bool (T.b true) (T.b (neI (lenOf (a0.cell 6).list) (a0.cell 1).int))).bool (T.b true) (T.b (neI (lenOf (a0.cell 8).list) (a0.cell 1).int))).bool = false ∧ True → F 144 [.t 25 (a0.cell 5)] (zo 1 4) [y_1]) ∧ ∃ y_2 : T,((T.ite (T.ite (T.ite (T.ite (T.ite (T.ite (T.ite (!y.bool) (T.b true) (T.b (neI (lenOf (a0.cell 5).list) (a0.cell 1).int))).bool (T.b true) (T.b (neI (lenOf (a0.cell 7).list) (a0.cell 1).int))).bool (T.b true) (T.b (neI (lenOf (a0.cell 9).list) (a0.cell 1).int))).bool (T.b true) (T.b (neI (lenOf (a0.cell 10).list) (a0.cell 1).int))).bool (T.b true) (T.b (neI (lenOf (a0.cell 6).list) (a0.cell 1).int))).bool (T.b true) (T.b (neI (lenOf (a0.cell 8).list) (a0.cell 1).int))).bool (T.b true) (T.b !y_1.bool)).bool = false ∧ True → F 144 [.t 25 (a0.cell 7)] (zo 1 4) [y_2]) ∧ ((T.ite (T.ite (T.ite (T.ite (T.ite (T.ite (T.ite (T.ite (!y.bool) (T.b true) (T.b (neI (lenOf (a0.cell 5).list) (a0.cell 1).int))).bool (T.b true) (T.b (neI (lenOf (a0.cell 7).list) (a0.cell 1).int))).bool (T.b true) (T.b (neI (lenOf (a0.cell 9).list) (a0.cell 1).int))).bool (T.b true) (T.b (neI (lenOf (a0.cell 10).list) (a0.cell 1).int))).bool (T.b true) (T.b (neI (lenOf (a0.cell 6).list) (a0.cell 1).int))).bool (T.b true) (T.b (neI (lenOf (a0.cell 8).list) (a0.cell 1).int))).bool (T.b true) (T.b !y_1.bool)).bool (T.b true) (T.b !y_2.bool)).bool = true → True ∧ T.b false = y0 ∧ True) ∧ ((T.ite (T.ite (T.ite (T.ite (T.ite (T.ite (T.ite (T.ite (!y.bool) (T.b true) (T.b (neI (lenOf (a0.cell 5).list) (a0.cell 1).int))).bool (T.b true) (T.b (neI (lenOf (a0.cell 7).list) (a0.cell 1).int))).bool (T.b true) (T.b (neI (lenOf (a0.cell 9).list) (a0.cell 1).int))).bool (T.b true) (T.b (neI (lenOf (a0.cell 10).list) (a0.cell 1).int))).bool (T.b true) (T.b (neI (lenOf (a0.cell 6).list) (a0.cell 1).int))).bool (T.b true) (T.b (neI (lenOf (a0.cell 8).list) (a0.cell 1).int))).bool (T.b true) (T.b !y_1.bool)).bool (T.b true) (T.b !y_2.bool)).bool = false → (∃ i : Nat,I0 i ∧ R30 a0 (kI 0 = kI ↑i ∧ True)) ∧ (∀ i : Nat,true = true) ∧ ∀ i : Nat,I0 i → (ltI ↑i (a0.cell 1).int = true → (Bd ↑i (lenOf (a0.cell 9).list)) ∧ ((((a0.cell 9).list.getD (↑i : Int).toNat T.u).cell 0).bool = true → (Bd ↑i (lenOf (a0.cell 6).list)) ∧ (neI (lenOf (((a0.cell 6).list.getD (↑i : Int).toNat T.u).cell 0).list) (a0.cell 1).int = false ∧ True → 0 ≤ (↑i : Int) ∧ (↑i : Int) < lenOf (a0.cell 8).list) ∧ ((T.ite (neI (lenOf (((a0.cell 6).list.getD (↑i : Int).toNat T.u).cell 0).list) (a0.cell 1).int) (T.b true) (T.b (neI (lenOf (((a0.cell 8).list.getD (↑i : Int).toNat T.u).cell 0).list) (0 : Int)))).bool = false ∧ True → 0 ≤ (↑i : Int) ∧ (↑i : Int) < lenOf (a0.cell 6).list) ∧ ∃ y : T,((T.ite (neI (lenOf (((a0.cell 6).list.getD (↑i : Int).toNat T.u).cell 0).list) (a0.cell 1).int) (T.b true) (T.b (neI (lenOf (((a0.cell 8).list.getD (↑i : Int).toNat T.u).cell 0).list) (0 : Int)))).bool = false ∧ True → F 144 [.t 25 (((a0.cell 6).list.getD (↑i : Int).toNat T.u).cell 0)] (zo 1 4) [y]) ∧ ((T.ite (T.ite (neI (lenOf (((a0.cell 6).list.getD (↑i : Int).toNat T.u).cell 0).list) (a0.cell 1).int) (T.b true) (T.b (neI (lenOf (((a0.cell 8).list.getD (↑i : Int).toNat T.u).cell 0).list) (0 : Int)))).bool (T.b true) (T.b !y.bool)).bool = false ∧ True → 0 ≤ (↑i : Int) ∧ (↑i : Int) < lenOf (a0.cell 8).list) ∧ ∃ y_3 : T,((T.ite (T.ite (neI (lenOf (((a0.cell 6).list.getD (↑i : Int).toNat T.u).cell 0).list) (a0.cell 1).int) (T.b true) (T.b (neI (lenOf (((a0.cell 8).list.getD (↑i : Int).toNat T.u).cell 0).list) (0 : Int)))).bool (T.b true) (T.b !y.bool)).bool = false ∧ True → F 144 [.t 25 (((a0.cell 8).list.getD (↑i : Int).toNat T.u).cell 0)] (zo 1 4) [y_3]) ∧ ((T.ite (T.ite (T.ite (neI (lenOf (((a0.cell 6).list.getD (↑i : Int).toNat T.u).cell 0).list) (a0.cell 1).int) (T.b true) (T.b (neI (lenOf (((a0.cell 8).list.getD (↑i : Int).toNat T.u).cell 0).list) (0 : Int)))).bool (T.b true) (T.b !y.bool)).bool (T.b true) (T.b !y_3.bool)).bool = false ∧ True → 0 ≤ (↑i : Int) ∧ (↑i : Int) < lenOf (a0.cell 10).list) ∧ ((T.ite (T.ite (T.ite (T.ite (neI (lenOf (((a0.cell 6).list.getD (↑i : Int).toNat T.u).cell 0).list) (a0.cell 1).int) (T.b true) (T.b (neI (lenOf (((a0.cell 8).list.getD (↑i : Int).toNat T.u).cell 0).list) (0 : Int)))).bool (T.b true) (T.b !y.bool)).bool (T.b true) (T.b !y_3.bool)).bool (T.b true) (T.b (ltI (((a0.cell 10).list.getD (↑i : Int).toNat T.u).cell 0).int (0 : Int)))).bool = false ∧ True → 0 ≤ (↑i : Int) ∧ (↑i : Int) < lenOf (a0.cell 10).list) ∧ ((T.ite (T.ite (T.ite (T.ite (T.ite (neI (lenOf (((a0.cell 6).list.getD (↑i : Int).toNat T.u).cell 0).list) (a0.cell 1).int) (T.b true) (T.b (neI (lenOf (((a0.cell 8).list.getD (↑i : Int).toNat T.u).cell 0).list) (0 : Int)))).bool (T.b true) (T.b !y.bool)).bool (T.b true) (T.b !y_3.bool)).bool (T.b true) (T.b (ltI (((a0.cell 10).list.getD (↑i : Int).toNat T.u).cell 0).int (0 : Int)))).bool (T.b true) (T.b (leI (a0.cell 1).int (((a0.cell 10).list.getD (↑i : Int).toNat T.u).cell 0).int))).bool = true → True ∧ T.b false = y0 ∧ True) ∧ ((T.ite (T.ite (T.ite (T.ite (T.ite (neI (lenOf (((a0.cell 6).list.getD (↑i : Int).toNat T.u).cell 0).list) (a0.cell 1).int) (T.b true) (T.b (neI (lenOf (((a0.cell 8).list.getD (↑i : Int).toNat T.u).cell 0).list) (0 : Int)))).bool (T.b true) (T.b !y.bool)).bool (T.b true) (T.b !y_3.bool)).bool (T.b true) (T.b (ltI (((a0.cell 10).list.getD (↑i : Int).toNat T.u).cell 0).int (0 : Int)))).bool (T.b true) (T.b (leI (a0.cell 1).int (((a0.cell 10).list.getD (↑i : Int).toNat T.u).cell 0).int))).bool = false → ∃ j : Nat,I0 j ∧ M0 j < M0 i ∧ R30 a0 (kI (addI .i64 ↑i 1) = kI ↑j ∧ True))) ∧ ((((a0.cell 9).list.getD (↑i : Int).toNat T.u).cell 0).bool = false → (Bd ↑i (lenOf (a0.cell 6).list)) ∧ (neI (lenOf (((a0.cell 6).list.getD (↑i : Int).toNat T.u).cell 0).list) (a0.cell 1).int = false ∧ True → 0 ≤ (↑i : Int) ∧ (↑i : Int) < lenOf (a0.cell 8).list) ∧ ((T.ite (neI (lenOf (((a0.cell 6).list.getD (↑i : Int).toNat T.u).cell 0).list) (a0.cell 1).int) (T.b true) (T.b (neI (lenOf (((a0.cell 8).list.getD (↑i : Int).toNat T.u).cell 0).list) (a0.cell 0).int))).bool = false ∧ True → 0 ≤ (↑i : Int) ∧ (↑i : Int) < lenOf (a0.cell 6).list) ∧ ∃ y : T,((T.ite (neI (lenOf (((a0.cell 6).list.getD (↑i : Int).toNat T.u).cell 0).list) (a0.cell 1).int) (T.b true) (T.b (neI (lenOf (((a0.cell 8).list.getD (↑i : Int).toNat T.u).cell 0).list) (a0.cell 0).int))).bool = false ∧ True → F 144 [.t 25 (((a0.cell 6).list.getD (↑i : Int).toNat T.u).cell 0)] (zo 1 4) [y]) ∧ ((T.ite (T.ite (neI (lenOf (((a0.cell 6).list.getD (↑i : Int).toNat T.u).cell 0).list) (a0.cell 1).int) (T.b true) (T.b (neI (lenOf (((a0.cell 8).list.getD (↑i : Int).toNat T.u).cell 0).list) (a0.cell 0).int))).bool (T.b true) (T.b !y.bool)).bool = false ∧ True → 0 ≤ (↑i : Int) ∧ (↑i : Int) < lenOf (a0.cell 8).list) ∧ ∃ y_3 : T,((T.ite (T.ite (neI (lenOf (((a0.cell 6).list.getD (↑i : Int).toNat T.u).cell 0).list) (a0.cell 1).int) (T.b true) (T.b (neI (lenOf (((a0.cell 8).list.getD (↑i : Int).toNat T.u).cell 0).list) (a0.cell 0).int))).bool (T.b true) (T.b !y.bool)).bool = false ∧ True → F 144 [.t 25 (((a0.cell 8).list.getD (↑i : Int).toNat T.u).cell 0)] (zo 1 4) [y_3]) ∧ ((T.ite (T.ite (T.ite (neI (lenOf (((a0.cell 6).list.getD (↑i : Int).toNat T.u).cell 0).list) (a0.cell 1).int) (T.b true) (T.b (neI (lenOf (((a0.cell 8).list.getD (↑i : Int).toNat T.u).cell 0).list) (a0.cell 0).int))).bool (T.b true) (T.b !y.bool)).bool (T.b true) (T.b !y_3.bool)).bool = false ∧ True → 0 ≤ (↑i : Int) ∧ (↑i : Int) < lenOf (a0.cell 10).list) ∧ ((T.ite (T.ite (T.ite (T.ite (neI (lenOf (((a0.cell 6).list.getD (↑i : Int).toNat T.u).cell 0).list) (a0.cell 1).int) (T.b true) (T.b (neI (lenOf (((a0.cell 8).list.getD (↑i : Int).toNat T.u).cell 0).list) (a0.cell 0).int))).bool (T.b true) (T.b !y.bool)).bool (T.b true) (T.b !y_3.bool)).bool (T.b true) (T.b (ltI (((a0.cell 10).list.getD (↑i : Int).toNat T.u).cell 0).int (0 : Int)))).bool = false ∧ True → 0 ≤ (↑i : Int) ∧ (↑i : Int) < lenOf (a0.cell 10).list) ∧ ((T.ite (T.ite (T.ite (T.ite (T.ite (neI (lenOf (((a0.cell 6).list.getD (↑i : Int).toNat T.u).cell 0).list) (a0.cell 1).int) (T.b true) (T.b (neI (lenOf (((a0.cell 8).list.getD (↑i : Int).toNat T.u).cell 0).list) (a0.cell 0).int))).bool (T.b true) (T.b !y.bool)).bool (T.b true) (T.b !y_3.bool)).bool (T.b true) (T.b (ltI (((a0.cell 10).list.getD (↑i : Int).toNat T.u).cell 0).int (0 : Int)))).bool (T.b true) (T.b (leI (a0.cell 1).int (((a0.cell 10).list.getD (↑i : Int).toNat T.u).cell 0).int))).bool = true → True ∧ T.b false = y0 ∧ True) ∧ ((T.ite (T.ite (T.ite (T.ite (T.ite (neI (lenOf (((a0.cell 6).list.getD (↑i : Int).toNat T.u).cell 0).list) (a0.cell 1).int) (T.b true) (T.b (neI (lenOf (((a0.cell 8).list.getD (↑i : Int).toNat T.u).cell 0).list) (a0.cell 0).int))).bool (T.b true) (T.b !y.bool)).bool (T.b true) (T.b !y_3.bool)).bool (T.b true) (T.b (ltI (((a0.cell 10).list.getD (↑i : Int).toNat T.u).cell 0).int (0 : Int)))).bool (T.b true) (T.b (leI (a0.cell 1).int (((a0.cell 10).list.getD (↑i : Int).toNat T.u).cell 0).int))).bool = false → ∃ j : Nat,I0 j ∧ M0 j < M0 i ∧ R30 a0 (kI (addI .i64 ↑i 1) = kI ↑j ∧ True)))) ∧ (ltI ↑i (a0.cell 1).int = false → True ∧ T.b true = y0 ∧ True))) : F 109 [.t 29 a0] (zo 1 4) [y0] :=
 F_nf C109 (by kernel_rfl) Tryz.func109 (by kernel_rfl) (.two .no (.two .no (.two .no (.two (.two .no (.lp (fun (ia : Nat) => [(a_ 0,AV.t 29 a0),(a_ 1,AV.box 29 0 11)] ++ bxS 1 a0 0 Y2 ++ [(a_ 2,AV.t 4 (T.b false)),(a_ 3,AV.t 2 (a0.cell 1)),(a_ 66,AV.t 2 (a0.cell 1)),(a_ 67,.t 2 (.i .i64 (ia : Int)))]) I0 M0 (fun _ => .no))) .no)))) (by kernel_rfl) h
def C12 : Ctx:=⟨tab,sigs,63,[0,1,2,3,5,27,28,29],[],[],[],[],[]⟩
theorem s_1 (a0 : T) (y0 : T) (I0 : (Nat × Nat) → Prop) (M0 : (Nat × Nat) → Nat) (h : ∃ y : T,F 33 [.t 29 (G11 a0)] (zo 1 4) [y] ∧ ((T.ite (T.ite (T.ite (!y.bool) (T.b true) (T.b (ltI 8 (lenOf (a0.cell 11).list)))).bool (T.b true) (T.b (ltI (a0.cell 12).int (0 : Int)))).bool (T.b true) (T.b (ltI 1099511627776 (a0.cell 12).int))).bool = true → True ∧ T.b false = y0 ∧ True) ∧ ((T.ite (T.ite (T.ite (!y.bool) (T.b true) (T.b (ltI 8 (lenOf (a0.cell 11).list)))).bool (T.b true) (T.b (ltI (a0.cell 12).int (0 : Int)))).bool (T.b true) (T.b (ltI 1099511627776 (a0.cell 12).int))).bool = false → (∃ (i : Nat × Nat),I0 i ∧ R32 a0 (kI 0 = kI ↑i.1 ∧ R31 a0 (kI 0 = kI ↑i.2 ∧ True))) ∧ (∀ (i : Nat × Nat),true = true) ∧ ∀ (i : Nat × Nat),I0 i → (ltI ↑i.2 (lenOf (a0.cell 11).list) = true → (Bd ↑i.2 (lenOf (a0.cell 11).list)) ∧ ∃ y : T,((T.ite (ltI ((((a0.cell 11).list.getD (↑i.2 : Int).toNat T.u).part 0 16).cell 0).int (↑i.1 : Int)) (T.b true) (T.b (leI (a0.cell 12).int ((((a0.cell 11).list.getD (↑i.2 : Int).toNat T.u).part 0 16).cell 0).int))).bool = false ∧ True → F 34 [.t 60 (T.g [(((a0.cell 11).list.getD (↑i.2 : Int).toNat T.u).part 0 16).cell 1,(((a0.cell 11).list.getD (↑i.2 : Int).toNat T.u).part 0 16).cell 2,(((a0.cell 11).list.getD (↑i.2 : Int).toNat T.u).part 0 16).cell 3,(((a0.cell 11).list.getD (↑i.2 : Int).toNat T.u).part 0 16).cell 4,(((a0.cell 11).list.getD (↑i.2 : Int).toNat T.u).part 0 16).cell 5,(((a0.cell 11).list.getD (↑i.2 : Int).toNat T.u).part 0 16).cell 6,(((a0.cell 11).list.getD (↑i.2 : Int).toNat T.u).part 0 16).cell 7,(((a0.cell 11).list.getD (↑i.2 : Int).toNat T.u).part 0 16).cell 8,(((a0.cell 11).list.getD (↑i.2 : Int).toNat T.u).part 0 16).cell 9,(((a0.cell 11).list.getD (↑i.2 : Int).toNat T.u).part 0 16).cell 10,(((a0.cell 11).list.getD (↑i.2 : Int).toNat T.u).part 0 16).cell 11,(((a0.cell 11).list.getD (↑i.2 : Int).toNat T.u).part 0 16).cell 12,(((a0.cell 11).list.getD (↑i.2 : Int).toNat T.u).part 0 16).cell 13,(((a0.cell 11).list.getD (↑i.2 : Int).toNat T.u).part 0 16).cell 14,(((a0.cell 11).list.getD (↑i.2 : Int).toNat T.u).part 0 16).cell 15])] (zo 1 4) [y]) ∧ ∃ y_1 : T,((T.ite (T.ite (ltI ((((a0.cell 11).list.getD (↑i.2 : Int).toNat T.u).part 0 16).cell 0).int (↑i.1 : Int)) (T.b true) (T.b (leI (a0.cell 12).int ((((a0.cell 11).list.getD (↑i.2 : Int).toNat T.u).part 0 16).cell 0).int))).bool (T.b true) (T.b !y.bool)).bool = false ∧ True → F 35 [.t 29 (T.g [(((a0.cell 11).list.getD (↑i.2 : Int).toNat T.u).part 0 16).cell 1,(((a0.cell 11).list.getD (↑i.2 : Int).toNat T.u).part 0 16).cell 2,(((a0.cell 11).list.getD (↑i.2 : Int).toNat T.u).part 0 16).cell 3,(((a0.cell 11).list.getD (↑i.2 : Int).toNat T.u).part 0 16).cell 4,(((a0.cell 11).list.getD (↑i.2 : Int).toNat T.u).part 0 16).cell 5,(((a0.cell 11).list.getD (↑i.2 : Int).toNat T.u).part 0 16).cell 6,(((a0.cell 11).list.getD (↑i.2 : Int).toNat T.u).part 0 16).cell 7,(((a0.cell 11).list.getD (↑i.2 : Int).toNat T.u).part 0 16).cell 8,(((a0.cell 11).list.getD (↑i.2 : Int).toNat T.u).part 0 16).cell 9,(((a0.cell 11).list.getD (↑i.2 : Int).toNat T.u).part 0 16).cell 10,(((a0.cell 11).list.getD (↑i.2 : Int).toNat T.u).part 0 16).cell 11]),.t 29 (G11 a0)] (zo 2 4) [y_1]) ∧ ((T.ite (T.ite (T.ite (ltI ((((a0.cell 11).list.getD (↑i.2 : Int).toNat T.u).part 0 16).cell 0).int (↑i.1 : Int)) (T.b true) (T.b (leI (a0.cell 12).int ((((a0.cell 11).list.getD (↑i.2 : Int).toNat T.u).part 0 16).cell 0).int))).bool (T.b true) (T.b !y.bool)).bool (T.b true) (T.b !y_1.bool)).bool = true → True ∧ T.b false = y0 ∧ True) ∧ ((T.ite (T.ite (T.ite (ltI ((((a0.cell 11).list.getD (↑i.2 : Int).toNat T.u).part 0 16).cell 0).int (↑i.1 : Int)) (T.b true) (T.b (leI (a0.cell 12).int ((((a0.cell 11).list.getD (↑i.2 : Int).toNat T.u).part 0 16).cell 0).int))).bool (T.b true) (T.b !y.bool)).bool (T.b true) (T.b !y_1.bool)).bool = false → ∃ (j : Nat × Nat),I0 j ∧ M0 j < M0 i ∧ R32 a0 (kI (addI .i64 ((((a0.cell 11).list.getD (↑i.2 : Int).toNat T.u).part 0 16).cell 0).int (1 : Int)) = kI ↑j.1 ∧ R31 a0 (kI (addI .i64 ↑i.2 1) = kI ↑j.2 ∧ True)))) ∧ (ltI ↑i.2 (lenOf (a0.cell 11).list) = false → True ∧ T.b true = y0 ∧ True))) : F 12 [.t 32 a0] (zo 1 4) [y0] :=
 F_nf C12 (by kernel_rfl) Tryz.func12 (by kernel_rfl) (.two .no (.two .no (.two .no (.two (.two .no (.lp (fun (ia : Nat × Nat) => [(a_ 0,AV.t 32 a0),(a_ 1,AV.box 32 0 13)] ++ bxS 1 a0 0 Y4 ++ [(a_ 2,AV.t 4 (T.b false)),(a_ 3,.t 2 (.i .i64 (ia.1 : Int))),(a_ 27,AV.t 31 (a0.cell 11)),(a_ 28,AV.t 2 (T.i IntKind.i64 (lenOf (a0.cell 11).list))),(a_ 29,.t 2 (.i .i64 (ia.2 : Int)))]) I0 M0 (fun _ => .no))) .no)))) (by kernel_rfl) h
def C32 : Ctx:=⟨tab,sigs,128,[0,1,2,3,4,5,6],[],[],[],[],[]⟩
theorem t_d (a0 : T) (y0 : T) (I0 : (Bool × Nat) → Prop) (M0 : (Bool × Nat) → Nat) (h : ∃ y : T,F 31 [.t 29 (G11 a0)] (zo 1 4) [y] ∧ ((T.ite (T.ite (!y.bool) (T.b true) (T.b (ltI (a0.cell 11).int (0 : Int)))).bool (T.b true) (T.b (ltI 256 (a0.cell 11).int))).bool = true → True ∧ T.b false = y0 ∧ True) ∧ ((T.ite (T.ite (!y.bool) (T.b true) (T.b (ltI (a0.cell 11).int (0 : Int)))).bool (T.b true) (T.b (ltI 256 (a0.cell 11).int))).bool = false → (eqI (a0.cell 11).int (0 : Int) = true → True ∧ T.ite (T.ite (eqI (lenOf (a0.cell 12).list) 0) (T.b (eqI (lenOf (a0.cell 13).list) 0)) (T.b false)).bool (T.b (eqI (lenOf (a0.cell 14).list) 0)) (T.b false) = y0 ∧ True) ∧ (eqI (a0.cell 11).int (0 : Int) = false → ∃ y : T,((T.ite (neI (lenOf (a0.cell 12).list) (a0.cell 1).int) (T.b true) (T.b (neI (lenOf (a0.cell 13).list) (a0.cell 1).int))).bool = false ∧ True → F 64 [.t 28 (a0.cell 14),.t 2 (a0.cell 1)] (zo 2 4) [y]) ∧ ((T.ite (T.ite (neI (lenOf (a0.cell 12).list) (a0.cell 1).int) (T.b true) (T.b (neI (lenOf (a0.cell 13).list) (a0.cell 1).int))).bool (T.b true) (T.b !y.bool)).bool = true → True ∧ T.b false = y0 ∧ True) ∧ ((T.ite (T.ite (neI (lenOf (a0.cell 12).list) (a0.cell 1).int) (T.b true) (T.b (neI (lenOf (a0.cell 13).list) (a0.cell 1).int))).bool (T.b true) (T.b !y.bool)).bool = false → (∃ (i : Bool × Nat),I0 i ∧ R33 a0 (T.b false = T.b i.1 ∧ kI 0 = kI ↑i.2 ∧ True)) ∧ (∀ (i : Bool × Nat),true = true) ∧ ∀ (i : Bool × Nat),I0 i → (ltI ↑i.2 (a0.cell 1).int = true → (Bd ↑i.2 (lenOf (a0.cell 12).list)) ∧ ∃ y : T,F 65 [.t 23 (((a0.cell 12).list.getD (↑i.2 : Int).toNat T.u).part 0 3)] (zo 1 4) [y] ∧ ((!y.bool) = false ∧ True → 0 ≤ (↑i.2 : Int) ∧ (↑i.2 : Int) < lenOf (a0.cell 13).list) ∧ ∃ y_1 : T,((!y.bool) = false ∧ True → F 64 [.t 28 (((a0.cell 13).list.getD (↑i.2 : Int).toNat T.u).cell 0),.t 2 (a0.cell 1)] (zo 2 4) [y_1]) ∧ ((T.ite (!y.bool) (T.b true) (T.b !y_1.bool)).bool = true → True ∧ T.b false = y0 ∧ True) ∧ ((T.ite (!y.bool) (T.b true) (T.b !y_1.bool)).bool = false → ∃ y : T,F 54 [.t 60 (G15 a0),.t 2 (kI ↑i.2)] (zo 2 4) [y] ∧ ((!y.bool) = true → (Bd ↑i.2 (lenOf (a0.cell 13).list)) ∧ (ltI 0 (lenOf (((a0.cell 13).list.getD (↑i.2 : Int).toNat T.u).cell 0).list) = true → True ∧ T.b false = y0 ∧ True) ∧ (ltI 0 (lenOf (((a0.cell 13).list.getD (↑i.2 : Int).toNat T.u).cell 0).list) = false → ∃ (j : Bool × Nat),I0 j ∧ M0 j < M0 i ∧ R33 a0 (T.b i.1 = T.b j.1 ∧ kI (addI .i64 ↑i.2 1) = kI ↑j.2 ∧ True))) ∧ ((!y.bool) = false → (Rm (0 + (a0.cell 14).list.length) 8) ∧ (Bd ↑i.2 (lenOf (a0.cell 13).list)) ∧ (Rm ((List.replicate 0 (kI 0) ++ (a0.cell 14).list).length + (((a0.cell 13).list.getD (↑i.2 : Int).toNat T.u).cell 0).list.length) 8) ∧ (neI (lenOf (List.replicate 0 (kI 0) ++ (a0.cell 14).list ++ (((a0.cell 13).list.getD (↑i.2 : Int).toNat T.u).cell 0).list)) (a0.cell 11).int = false ∧ True → 0 ≤ subI .i64 (lenOf (List.replicate 0 (kI 0) ++ (a0.cell 14).list ++ (((a0.cell 13).list.getD (↑i.2 : Int).toNat T.u).cell 0).list)) (1 : Int) ∧ subI .i64 (lenOf (List.replicate 0 (kI 0) ++ (a0.cell 14).list ++ (((a0.cell 13).list.getD (↑i.2 : Int).toNat T.u).cell 0).list)) (1 : Int) < lenOf (List.replicate 0 (kI 0) ++ (a0.cell 14).list ++ (((a0.cell 13).list.getD (↑i.2 : Int).toNat T.u).cell 0).list)) ∧ ((T.ite (neI (lenOf (List.replicate 0 (kI 0) ++ (a0.cell 14).list ++ (((a0.cell 13).list.getD (↑i.2 : Int).toNat T.u).cell 0).list)) (a0.cell 11).int) (T.b true) (T.b (neI (((List.replicate 0 (kI 0) ++ (a0.cell 14).list ++ (((a0.cell 13).list.getD (↑i.2 : Int).toNat T.u).cell 0).list).getD (subI .i64 (lenOf (List.replicate 0 (kI 0) ++ (a0.cell 14).list ++ (((a0.cell 13).list.getD (↑i.2 : Int).toNat T.u).cell 0).list)) (1 : Int)).toNat T.u).cell 0).int (↑i.2 : Int)))).bool = true → True ∧ T.b false = y0 ∧ True) ∧ ((T.ite (neI (lenOf (List.replicate 0 (kI 0) ++ (a0.cell 14).list ++ (((a0.cell 13).list.getD (↑i.2 : Int).toNat T.u).cell 0).list)) (a0.cell 11).int) (T.b true) (T.b (neI (((List.replicate 0 (kI 0) ++ (a0.cell 14).list ++ (((a0.cell 13).list.getD (↑i.2 : Int).toNat T.u).cell 0).list).getD (subI .i64 (lenOf (List.replicate 0 (kI 0) ++ (a0.cell 14).list ++ (((a0.cell 13).list.getD (↑i.2 : Int).toNat T.u).cell 0).list)) (1 : Int)).toNat T.u).cell 0).int (↑i.2 : Int)))).bool = false → ∃ (j : Bool × Nat),I0 j ∧ M0 j < M0 i ∧ R33 a0 (T.b true = T.b j.1 ∧ kI (addI .i64 ↑i.2 1) = kI ↑j.2 ∧ True))))) ∧ (ltI ↑i.2 (a0.cell 1).int = false → ∃ y : T,(i.1 = true ∧ True → F 53 [.t 60 (G15 a0),.t 59 (a0.cell 13)] (zo 2 2) [y]) ∧ True ∧ T.ite i.1 (T.b (eqI y.int 0)) (T.b false) = y0 ∧ True))))) : F 32 [.t 60 a0] (zo 1 4) [y0] :=
 F_nf C32 (by kernel_rfl) Tryz.func32 (by kernel_rfl) (.two .no (.two .no (.two .no (.two .no (.two .no (.two .no (.two (.two .no (.lp (fun (ia : Bool × Nat) => [(a_ 0,AV.t 60 a0),(a_ 1,AV.box 60 0 15)] ++ bxS 1 a0 0 Y3 ++ [(a_ 2,AV.t 4 (T.b false)),(a_ 3,AV.t 2 (a0.cell 1)),(a_ 4,.t 4 (.b ia.1)),(a_ 5,.t 2 (.i .i64 (ia.2 : Int)))]) I0 M0 (fun _ => .no))) .no))))))) (by kernel_rfl) h
def C34 : Ctx:=⟨tab,sigs,92,[0,1,2,3,4,5,56,57,58,63,67,75],[],[],[],[],[]⟩
theorem t_f (a0 : T) (y0 : T) (I0 : (Bool × Nat) → Prop) (M0 : (Bool × Nat) → Nat) (h : ∃ y : T,F 33 [.t 29 (G11 a0)] (zo 1 4) [y] ∧ ((T.ite (T.ite (!y.bool) (T.b true) (T.b (ltI (a0.cell 11).int (0 : Int)))).bool (T.b true) (T.b (ltI 256 (a0.cell 11).int))).bool = true → True ∧ T.b false = y0 ∧ True) ∧ ((T.ite (T.ite (!y.bool) (T.b true) (T.b (ltI (a0.cell 11).int (0 : Int)))).bool (T.b true) (T.b (ltI 256 (a0.cell 11).int))).bool = false → (eqI (a0.cell 11).int (0 : Int) = true → True ∧ T.ite (T.ite (eqI (lenOf (a0.cell 12).list) 0) (T.b (eqI (lenOf (a0.cell 13).list) 0)) (T.b false)).bool (T.b (eqI (lenOf (a0.cell 14).list) 0)) (T.b false) = y0 ∧ True) ∧ (eqI (a0.cell 11).int (0 : Int) = false → ((T.ite (neI (lenOf (a0.cell 12).list) (a0.cell 1).int) (T.b true) (T.b (neI (lenOf (a0.cell 13).list) (a0.cell 1).int))).bool = true → True ∧ T.b false = y0 ∧ True) ∧ ((T.ite (neI (lenOf (a0.cell 12).list) (a0.cell 1).int) (T.b true) (T.b (neI (lenOf (a0.cell 13).list) (a0.cell 1).int))).bool = false → (∃ (i : Bool × Nat),I0 i ∧ R35 a0 (T.b false = T.b i.1 ∧ R34 a0 (kI 0 = kI ↑i.2 ∧ True))) ∧ (∀ (i : Bool × Nat),true = true) ∧ ∀ (i : Bool × Nat),I0 i → (ltI ↑i.2 (lenOf (a0.cell 12).list) = true → (Bd ↑i.2 (lenOf (a0.cell 12).list)) ∧ ∃ y : T,F 68 [.t 23 (G3 (((a0.cell 12).list.getD (↑i.2 : Int).toNat T.u).part 0 3))] (zo 1 4) [y] ∧ ((!y.bool) = true → True ∧ T.b false = y0 ∧ True) ∧ ((!y.bool) = false → ∃ y : T,F 69 [.t 60 (G15 a0),.t 2 (kI ↑i.2)] (zo 2 4) [y] ∧ (y.bool = true → ∃ y : T,F 70 [.t 60 (G15 a0),.t 2 (kI ↑i.2)] (zo 2 4) [y] ∧ ((!y.bool) = true → True ∧ T.b false = y0 ∧ True) ∧ ((!y.bool) = false → ∃ (j : Bool × Nat),I0 j ∧ M0 j < M0 i ∧ R35 a0 (T.b true = T.b j.1 ∧ R34 a0 (kI (addI .i64 ↑i.2 1) = kI ↑j.2 ∧ True)))) ∧ (y.bool = false → (Bd ↑i.2 (lenOf (a0.cell 13).list)) ∧ (ltI 0 (lenOf (((a0.cell 13).list.getD (↑i.2 : Int).toNat T.u).cell 0).list) = true → True ∧ T.b false = y0 ∧ True) ∧ (ltI 0 (lenOf (((a0.cell 13).list.getD (↑i.2 : Int).toNat T.u).cell 0).list) = false → ∃ (j : Bool × Nat),I0 j ∧ M0 j < M0 i ∧ R35 a0 (T.b i.1 = T.b j.1 ∧ R34 a0 (kI (addI .i64 ↑i.2 1) = kI ↑j.2 ∧ True)))))) ∧ (ltI ↑i.2 (lenOf (a0.cell 12).list) = false → ∃ y : T,(i.1 = true ∧ True → F 71 [.t 60 (G15 a0),.t 59 (a0.cell 13)] (zo 2 2) [y]) ∧ True ∧ T.ite i.1 (T.b (eqI y.int 0)) (T.b false) = y0 ∧ True))))) : F 34 [.t 60 a0] (zo 1 4) [y0] :=
 F_nf C34 (by kernel_rfl) Tryz.func34 (by kernel_rfl) (.two .no (.two .no (.two .no (.two .no (.two .no (.two (.two .no (.lp (fun (ia : Bool × Nat) => [(a_ 0,AV.t 60 a0),(a_ 1,AV.box 60 0 15)] ++ bxS 1 a0 0 Y3 ++ [(a_ 2,AV.t 4 (T.b false)),(a_ 3,.t 4 (.b ia.1)),(a_ 56,AV.t 25 (a0.cell 12)),(a_ 57,AV.t 2 (T.i IntKind.i64 (lenOf (a0.cell 12).list))),(a_ 58,.t 2 (.i .i64 (ia.2 : Int)))]) I0 M0 (fun _ => .no))) .no)))))) (by kernel_rfl) h
end Go.Pq
namespace Go.Pl
theorem b_J {α : Type} (m : List (List α)) {k : Nat} (h : k < m.length) : (m.take (k + 1)).flatten = (m.take k).flatten ++ m.getD k []:=by
 rw [List.take_succ_eq_append_getElem h,List.flatten_append,List.getD_eq_getElem?_getD,List.getElem?_eq_getElem h];simp
theorem e_5 {α : Type} (m : List (List α)) (k : Nat) : (m.take k).flatten.length ≤ m.flatten.length:=by
 have : m.flatten = (m.take k).flatten ++ (m.drop k).flatten:=by rw [← List.flatten_append,List.take_append_drop]
 rw [this,List.length_append];omega
theorem e_b (a b : List Rat) : ratL a ++ ratL b = ratL (a ++ b):=by simp [ratL]
theorem q_ {α : Type} (l : List α) : l.take l.length = l:=List.take_length
end Go.Pl
namespace Go.Pq
open Go.Pl Go.Proofs
theorem p_3 : F 183 [] (zo 0 23) [ratT 1]:=by
 have c:=p_X 1 1 (by decide) (by decide) (by decide);rw [k_c] at c;exact r_t _ ⟨_,_,c,trivial,rfl,trivial⟩
theorem l_n (q : Rat) (hq : rl q ≤ 2 ^ 30) (hs : Share q) : F 143 [.t 23 (ratT q)] (zo 1 4) [.b true]:=by
 have c2:=b_1 q 1 hq (by rw [f_C];decide);refine q_8 _ _ ⟨_,k_z q (by omega),_,fun _ => e_e q (by omega),_,fun _ => p_3,_,fun _ => c2,trivial,?_,trivial⟩;have h1 : leI 0 (sgnZ q.num) = true:=by
  rw [a_R,← Int.not_lt,f_S,k_3,Rat.not_lt];exact hs.1
 have h2 : leI (cmpQ q 1) 0 = true:=by rw [a_R,j_D];exact hs.2
 rw [k_,k_,h1,h2];rfl
theorem l_X (q : Rat) (hq : rl q ≤ 2 ^ 30) (hs : Share q) : F 185 [.t 23 (ratT q)] (zo 1 4) [.b false] :=
 r_v _ _ ⟨_,l_n q hq hs,trivial,rfl,trivial⟩
theorem e_D (l : List Rat) (hl : l.length ≤ 2 ^ 40) (h : ∀ q ∈ l,rl q ≤ 2 ^ 30 ∧ Share q) : F 144 [.t 25 (v_ l)] (zo 1 4) [.b true]:=by
 have c1 : F 203 [.t 25 (v_ l),.t 1 (.f 185 [])] (zo 2 2) [.i .i64 (-1)]:=by
  refine r_F _ _ (fun k => k ≤ l.length) (fun k => l.length - k) ⟨⟨0,Nat.zero_le _,(by and_intros <;> first | exact trivial | rfl | (rw [c_ (by omega)];rfl))⟩,fun _ => rfl,?_⟩;intro k hk;rw [z_];refine ⟨fun h1 => ?_,fun h1 => ⟨trivial,rfl,trivial⟩⟩;rw [d_] at h1;have hlt : k < l.length:=by omega
  rw [a_v,Int.toNat_natCast,a_W l hlt,C_];refine ⟨⟨by omega,by omega⟩,_,⟨rfl,l_X _ (h _ (b_e hlt)).1 (h _ (b_e hlt)).2⟩,fun h2 => (by cases h2),fun _ => ⟨k + 1,hlt,by omega,(by and_intros <;> first | exact trivial | rfl | (rw [c_ (by omega)];rfl))⟩⟩
 exact q_9 _ _ ⟨_,r_u _ _ _ ⟨_,c1,trivial,rfl,trivial⟩,trivial,rfl,trivial⟩
theorem m_4 (m : List (List Rat)) (hm : m.length ≤ 2 ^ 20) (hf : m.flatten.length ≤ 2 ^ 20) : F 186 [.t 26 (R_ m)] (zo 1 25) [v_ m.flatten]:=by
 refine r_w _ _ (fun i => i.1 = (m.take i.2).flatten.length ∧ i.2 ≤ m.length) (fun i => m.length - i.2) (fun i => i.1 = ratL (m.take i.2.2).flatten ∧ i.2.2 ≤ m.length) (fun i => m.length - i.2.2) ?_;rw [a_x];refine ⟨⟨(0,0),⟨rfl,Nat.zero_le _⟩,(by and_intros <;> first | exact trivial | rfl | (rw [c_ (by omega)];rfl))⟩,fun _ => rfl,?_⟩;rintro ⟨s,k⟩ ⟨hs,hk⟩;dsimp only at hs hk ⊢;have hle:=e_5 m k;refine ⟨fun h1 => ?_,fun h1 => ?_⟩
 ·rw [d_] at h1
  have hlt : k < m.length:=by omega
  have hle2:=e_5 m (k + 1);rw [b_J m hlt,List.length_append] at hle2;rw [b_y,Int.toNat_natCast,b_x m hlt,a_h,z_,c_ (by omega)];refine ⟨⟨by omega,by omega⟩,fun q => (by rw [d_] at q;omega),fun _ => ⟨(s + (m.getD k []).length,k + 1),⟨by dsimp only;rw [b_J m hlt,List.length_append,hs],hlt⟩,by dsimp only;omega,by and_intros <;> first | exact trivial | rfl | (rw [c_ (by omega)];rfl)⟩⟩
 ·refine ⟨_,r_X s (by omega),⟨([],s,0),⟨rfl,Nat.zero_le _⟩,(by and_intros <;> first | exact trivial | rfl | (rw [c_ (by omega)];rfl))⟩,fun _ => rfl,?_⟩
  rintro ⟨g,s2,j⟩ ⟨hg,hj⟩;dsimp only at hg hj ⊢;subst hg;refine ⟨fun h2 => ?_,fun h2 => ?_⟩
  ·rw [d_] at h2
   have hlt : j < m.length:=by omega
   have hle2:=e_5 m (j + 1);rw [b_J m hlt,List.length_append] at hle2;rw [b_y,Int.toNat_natCast,b_x m hlt,a_h,a_v,q_,d_J,d_J];have hr : room = 140737488355328:=rfl;refine ⟨⟨by omega,by omega⟩,⟨by rw [hr];omega,by omega⟩,(ratL (m.take (j + 1)).flatten,s2,j + 1),⟨rfl,hlt⟩,by dsimp only;omega,?_⟩;rw [b_J m hlt,← e_b];exact (by and_intros <;> first | exact trivial | rfl | (rw [c_ (by omega)];rfl))
  ·rw [l_] at h2
   have : j = m.length:=by omega
   subst this;rw [List.take_length,List.drop_zero,q_];exact ⟨trivial,rfl,trivial⟩
def C44 : Ctx:=⟨tab,sigs,14,[0,1,2,3,4],[],[],[],[],[]⟩
theorem t_j (a0 : T) (y0 : T) (y1 : T) (h : ∃ y : T,F 83 [.t 29 (G11 a0)] (zo 1 2) [y] ∧ (neI y.int 0 = true → True ∧ T.g [kI 0,kI 0,T.b false,T.l [],T.l [],T.l [],T.l [],T.l [],T.l [],T.l [],T.l [],kI 0,T.l [],T.l [],T.l []] = y0 ∧ y = y1 ∧ True) ∧ (neI y.int 0 = false → ∃ y : T,F 59 [.t 29 (G11 a0)] (zo 1 29) [y] ∧ True ∧ T.g [y.cell 0,y.cell 1,y.cell 2,y.cell 3,y.cell 4,y.cell 5,y.cell 6,y.cell 7,y.cell 8,y.cell 9,y.cell 10,kI 0,T.l [],T.l [],T.l []] = y0 ∧ kI 0 = y1 ∧ True)) : F 44 [.t 29 a0] Z9 [y0,y1] :=
 F_nf C44 (by kernel_rfl) Tryz.func44 (by kernel_rfl) .no (by kernel_rfl) h
def C83 : Ctx:=⟨tab,sigs,12,[0,1,2,3],[],[],[],[],[]⟩
theorem t_Q (a0 : T) (y0 : T) (h : ∃ y : T,F 66 [.t 29 (G11 a0)] (zo 1 2) [y] ∧ (neI y.int 0 = true → True ∧ y = y0 ∧ True) ∧ (neI y.int 0 = false → ∃ y : T,F 33 [.t 29 (G11 a0)] (zo 1 4) [y] ∧ ((!y.bool) = true → True ∧ kI 4 = y0 ∧ True) ∧ ((!y.bool) = false → True ∧ kI 0 = y0 ∧ True))) : F 83 [.t 29 a0] (zo 1 2) [y0] :=
 F_nf C83 (by kernel_rfl) Tryz.func83 (by kernel_rfl) .no (by kernel_rfl) h
def C68 : Ctx:=⟨tab,sigs,22,[0,1,2,3,4],[],[],[],[],[]⟩
theorem t_C (a0 : T) (y0 : T) (h : ∃ y y_1 : T,F 114 [.t 2 (kI 1),.t 2 (kI 1)] Z1 [y,y_1] ∧ ∃ y_2 : T,F 115 [.t 23 (G3 a0)] (zo 1 4) [y_2] ∧ ∃ y_3 : T,(y_2.bool = true ∧ True → F 116 [.t 23 (G3 a0)] (zo 1 2) [y_3]) ∧ ∃ y_4 : T,((T.ite y_2.bool (T.b (leI 0 y_3.int)) (T.b false)).bool = true ∧ True → F 117 [.t 23 (G3 a0),.t 23 (G3 y)] (zo 2 2) [y_4]) ∧ True ∧ T.ite (T.ite y_2.bool (T.b (leI 0 y_3.int)) (T.b false)).bool (T.b (leI y_4.int 0)) (T.b false) = y0 ∧ True) : F 68 [.t 23 a0] (zo 1 4) [y0] :=
 F_nf C68 (by kernel_rfl) Tryz.func68 (by kernel_rfl) .no (by kernel_rfl) h
def C69 : Ctx:=⟨tab,sigs,12,[0,1,2,4],[],[],[],[],[]⟩
theorem t_D (a0 : T) (a1 : T) (y0 : T) (h : (Bd (a1.int) (lenOf (a0.cell 12).list)) ∧ ∃ y : T,F 116 [.t 23 (((a0.cell 12).list.getD a1.int.toNat T.u).part 0 3)] (zo 1 2) [y] ∧ True ∧ T.b (ltI 0 y.int) = y0 ∧ True) : F 69 [.t 60 a0,.t 2 a1] (zo 2 4) [y0] :=
 F_nf C69 (by kernel_rfl) Tryz.func69 (by kernel_rfl) .no (by kernel_rfl) h
def C70 : Ctx:=⟨tab,sigs,36,[0,1,2,4,5],[],[],[],[2],[]⟩
theorem t_E (a0 : T) (a1 : T) (y0 : T) (h : (Bd (a1.int) (lenOf (a0.cell 13).list)) ∧ ∃ y : T,F 118 [.t 59 (T.l (((List.replicate 2 (T.l [])).set 0 (a0.cell 14)).set 1 (((a0.cell 13).list.getD a1.int.toNat T.u).cell 0)))] (zo 1 28) [y] ∧ (eqI (lenOf y.list) (a0.cell 11).int = true ∧ True → 0 ≤ subI .i64 (lenOf y.list) 1 ∧ subI .i64 (lenOf y.list) 1 < lenOf y.list) ∧ ∃ y_1 : T,((T.ite (eqI (lenOf y.list) (a0.cell 11).int) (T.b (eqI ((y.list.getD (subI .i64 (lenOf y.list) 1).toNat T.u).cell 0).int a1.int)) (T.b false)).bool = true ∧ True → F 119 [.t 28 y,.t 1 (T.f 120 [T.e 60 a0])] (zo 2 4) [y_1]) ∧ True ∧ T.ite (T.ite (eqI (lenOf y.list) (a0.cell 11).int) (T.b (eqI ((y.list.getD (subI .i64 (lenOf y.list) 1).toNat T.u).cell 0).int a1.int)) (T.b false)).bool (T.b !y_1.bool) (T.b false) = y0 ∧ True) : F 70 [.t 60 a0,.t 2 a1] (zo 2 4) [y0] :=
 F_nf C70 (by kernel_rfl) Tryz.func70 (by kernel_rfl) .no (by kernel_rfl) h
def C120 : Ctx:=⟨tab,sigs,13,[0,1,3],[],[],[],[],[]⟩
theorem q_T (a0 : T) (c1 : T) (y0 : T) (h : True ∧ T.ite (ltI a0.int 0) (T.b true) (T.b (leI (c1.cell 1).int a0.int)) = y0 ∧ True) : F 120 [.t 2 a0,.pl 60 c1] (zo 2 4) [y0] :=
 F_nf C120 (by kernel_rfl) Tryz.func120 (by kernel_rfl) .no (by kernel_rfl) h
def C119 : Ctx:=⟨tab,sigs,9,[0,1,4],[],[],[],[],[]⟩
theorem q_S (a0 : T) (a1 : T) (y0 : T) (h : ∃ y : T,F 158 [.t 28 a0,.t 1 a1] (zo 2 2) [y] ∧ True ∧ T.b (leI 0 y.int) = y0 ∧ True) : F 119 [.t 28 a0,.t 1 a1] (zo 2 4) [y0] :=
 F_nf C119 (by kernel_rfl) Tryz.func119 (by kernel_rfl) .no (by kernel_rfl) h
def C10 : Ctx:=⟨tab,sigs,23,[0,1,2,3,4,5,6,7,8],[],[],[],[],[]⟩
theorem s_0 (a0 : T) (a1 : T) (y0 : T) (y1 : T) (y2 : T) (h : ∃ y : T,F 12 [.t 32 (G13 a0)] (zo 1 4) [y] ∧ ((!y.bool) = true → True ∧ T.g [kI 0,kI 0,T.b false,T.l [],T.l [],T.l [],T.l [],T.l [],T.l [],T.l [],T.l [],T.l [],kI 0] = y0 ∧ T.g [kI 0,kI 0,T.l [],T.l [],T.l [],T.b false,T.l [],T.l []] = y1 ∧ kI 4 = y2 ∧ True) ∧ ((!y.bool) = false → ∃ y : T,F 30 [.t 32 (G13 a0)] (zo 1 32) [y] ∧ ∃ y_1 y_2 : T,F 29 [.t 32 y,.t 35 (G5 a1)] Z10 [y_1,y_2] ∧ True ∧ (G13 y_1) = y0 ∧ (G8 y_2) = y1 ∧ kI 0 = y2 ∧ True)) : F 10 [.t 32 a0,.t 35 a1] Z11 [y0,y1,y2] :=
 F_nf C10 (by kernel_rfl) Tryz.func10 (by kernel_rfl) .no (by kernel_rfl) h
def C17 : Ctx:=⟨tab,sigs,18,[0,1,2,3,4,5],[],[],[],[],[]⟩
theorem s_3 (a0 : T) (y0 : T) (y1 : T) (h : ∃ y y_1 : T,F 44 [.t 29 (G11 a0)] Z9 [y,y_1] ∧ (neI y_1.int 0 = true → True ∧ T.g [kI 0,kI 0,T.b false,T.l [],T.l [],T.l [],T.l [],T.l [],T.l [],T.l [],T.l [],T.l [],kI 0] = y0 ∧ y_1 = y1 ∧ True) ∧ (neI y_1.int 0 = false → True ∧ T.g [y.cell 0,y.cell 1,y.cell 2,y.cell 3,y.cell 4,y.cell 5,y.cell 6,y.cell 7,y.cell 8,y.cell 9,y.cell 10,T.l [],kI 0] = y0 ∧ kI 0 = y1 ∧ True)) : F 17 [.t 29 a0] Z12 [y0,y1] :=
 F_nf C17 (by kernel_rfl) Tryz.func17 (by kernel_rfl) .no (by kernel_rfl) h
def C57 : Ctx:=⟨tab,sigs,8,[0,2],[a_ 2],[],[],[],[]⟩
theorem t_s (a0 : T) (y0 : T) (h : ∀ y : T,nilC a0 y → (y.bool = true → True ∧ T.l [] = y0 ∧ True) ∧ (y.bool = false → (Rm (0 + a0.list.length) 304) ∧ True ∧ T.l (List.replicate 0 (T.g [kI 0,kI 0,kI 0,T.b false,T.l [],T.l [],T.l [],T.l [],T.l [],T.l [],T.l [],T.l [],kI 0,T.l [],T.l [],T.l []]) ++ a0.list) = y0 ∧ True)) : F 57 [.t 31 a0] (zw 1 31) [y0] :=
 F_nf C57 (by kernel_rfl) Tryz.func57 (by kernel_rfl) .no (by kernel_rfl) h
def C95 : Ctx:=⟨tab,sigs,72,[0,1,4,5,6,7,8],[cell 0 11],[],[],[],[0]⟩
theorem p_U (b0_0 : T) (b0_1 : T) (b0_2 : T) (b0_3 : T) (b0_4 : T) (b0_5 : T) (b0_6 : T) (b0_7 : T) (b0_8 : T) (b0_9 : T) (b0_10 : T) (b0_11 : List T) (b0_12 : T) (a1 : T) (y0 : T) (y1 : T) (y2 : T) (y3 : T) (y4 : T) (y5 : T) (y6 : T) (y7 : T) (y8 : T) (y9 : T) (y10 : T) (y11 : T) (y12 : T) (y13 : T) (y14 : T) (h : ((T.ite (eqI ↑b0_11.length 8) (T.b true) (T.b (eqI b0_12.int 1099511627776))).bool = true → (True ∧ True) ∧ T.g [kI 0,kI 0,T.l [],T.l [],T.l [],T.b false,T.l [],T.l []] = y0 ∧ kI 2 = y1 ∧ b0_0 = y2 ∧ b0_1 = y3 ∧ b0_2 = y4 ∧ b0_3 = y5 ∧ b0_4 = y6 ∧ b0_5 = y7 ∧ b0_6 = y8 ∧ b0_7 = y9 ∧ b0_8 = y10 ∧ b0_9 = y11 ∧ b0_10 = y12 ∧ T.l b0_11 = y13 ∧ b0_12 = y14 ∧ True) ∧ ((T.ite (eqI ↑b0_11.length 8) (T.b true) (T.b (eqI b0_12.int 1099511627776))).bool = false → ∃ y y_1 : T,F 44 [.t 29 (T.g [b0_0,b0_1,b0_2,b0_3,b0_4,b0_5,b0_6,b0_7,b0_8,b0_9,b0_10])] Z9 [y,y_1] ∧ (neI y_1.int 0 = true → (True ∧ True) ∧ T.g [kI 0,kI 0,T.l [],T.l [],T.l [],T.b false,T.l [],T.l []] = y0 ∧ y_1 = y1 ∧ b0_0 = y2 ∧ b0_1 = y3 ∧ b0_2 = y4 ∧ b0_3 = y5 ∧ b0_4 = y6 ∧ b0_5 = y7 ∧ b0_6 = y8 ∧ b0_7 = y9 ∧ b0_8 = y10 ∧ b0_9 = y11 ∧ b0_10 = y12 ∧ T.l b0_11 = y13 ∧ b0_12 = y14 ∧ True) ∧ (neI y_1.int 0 = false → (Rm ((List.take b0_11.length b0_11).length + ((List.replicate 1 (T.g [kI 0,kI 0,kI 0,T.b false,T.l [],T.l [],T.l [],T.l [],T.l [],T.l [],T.l [],T.l [],kI 0,T.l [],T.l [],T.l []])).set 0 (T.g [b0_12.cell 0,y.cell 0,y.cell 1,y.cell 2,y.cell 3,y.cell 4,y.cell 5,y.cell 6,y.cell 7,y.cell 8,y.cell 9,y.cell 10,y.cell 11,y.cell 12,y.cell 13,y.cell 14])).length) 304) ∧ (True ∧ True) ∧ T.g [kI 0,b0_12.cell 0,T.l [],T.l [],T.l [],T.b false,T.l [],T.l []] = y0 ∧ kI 0 = y1 ∧ b0_0 = y2 ∧ b0_1 = y3 ∧ b0_2 = y4 ∧ b0_3 = y5 ∧ b0_4 = y6 ∧ b0_5 = y7 ∧ b0_6 = y8 ∧ b0_7 = y9 ∧ b0_8 = y10 ∧ b0_9 = y11 ∧ b0_10 = y12 ∧ T.l (List.take b0_11.length b0_11 ++ (List.replicate 1 (T.g [kI 0,kI 0,kI 0,T.b false,T.l [],T.l [],T.l [],T.l [],T.l [],T.l [],T.l [],T.l [],kI 0,T.l [],T.l [],T.l []])).set 0 (T.g [b0_12.cell 0,y.cell 0,y.cell 1,y.cell 2,y.cell 3,y.cell 4,y.cell 5,y.cell 6,y.cell 7,y.cell 8,y.cell 9,y.cell 10,y.cell 11,y.cell 12,y.cell 13,y.cell 14])) = y13 ∧ kI (addI .i64 b0_12.int 1) = y14 ∧ True))) : F 95 [.box 111 13 [.t 2 b0_0,.t 2 b0_1,.t 4 b0_2,.t 22 b0_3,.t 22 b0_4,.t 25 b0_5,.t 26 b0_6,.t 25 b0_7,.t 26 b0_8,.t 27 b0_9,.t 28 b0_10,.own 31 0 b0_11,.t 2 b0_12],.t 35 a1] Z13 [y0,y1,y2,y3,y4,y5,y6,y7,y8,y9,y10,y11,y12,y13,y14] :=
 F_nf C95 (by kernel_rfl) Tryz.func95 (by kernel_rfl) .no (by kernel_rfl) h
def C132 : Ctx:=⟨tab,sigs,15,[0,1,4,5],[cell 0 11],[],[],[],[0]⟩
theorem q_2 (b0_0 : T) (b0_1 : T) (b0_2 : T) (b0_3 : T) (b0_4 : T) (b0_5 : T) (b0_6 : T) (b0_7 : T) (b0_8 : T) (b0_9 : T) (b0_10 : T) (b0_11 : List T) (b0_12 : T) (a1 : T) (y0 : T) (y1 : T) (y2 : T) (y3 : T) (y4 : T) (y5 : T) (y6 : T) (y7 : T) (y8 : T) (y9 : T) (y10 : T) (y11 : T) (y12 : T) (y13 : T) (y14 : T) (h : ∃ y y_1 : T,F 163 [.t 31 (T.l (List.take b0_11.length (List.drop 0 b0_11))),.t 2 a1,.t 1 (T.f 164 [])] Z8 [y,y_1] ∧ (True ∧ True) ∧ y = y0 ∧ y_1 = y1 ∧ b0_0 = y2 ∧ b0_1 = y3 ∧ b0_2 = y4 ∧ b0_3 = y5 ∧ b0_4 = y6 ∧ b0_5 = y7 ∧ b0_6 = y8 ∧ b0_7 = y9 ∧ b0_8 = y10 ∧ b0_9 = y11 ∧ b0_10 = y12 ∧ T.l b0_11 = y13 ∧ b0_12 = y14 ∧ True) : F 132 [.box 111 13 [.t 2 b0_0,.t 2 b0_1,.t 4 b0_2,.t 22 b0_3,.t 22 b0_4,.t 25 b0_5,.t 26 b0_6,.t 25 b0_7,.t 26 b0_8,.t 27 b0_9,.t 28 b0_10,.own 31 0 b0_11,.t 2 b0_12],.t 2 a1] Z14 [y0,y1,y2,y3,y4,y5,y6,y7,y8,y9,y10,y11,y12,y13,y14] :=
 F_nf C132 (by kernel_rfl) Tryz.func132 (by kernel_rfl) .no (by kernel_rfl) h
def C164 : Ctx:=⟨tab,sigs,9,[0,1,2,4],[],[],[],[],[]⟩
theorem r_q (a0 : T) (a1 : T) (y0 : T) (h : ∃ y : T,F 165 [.t 2 (a0.cell 0),.t 2 a1] (zo 2 2) [y] ∧ True ∧ y = y0 ∧ True) : F 164 [.t 62 a0,.t 2 a1] (zo 2 2) [y0] :=
 F_nf C164 (by kernel_rfl) Tryz.func164 (by kernel_rfl) .no (by kernel_rfl) h
def C165 : Ctx:=⟨tab,sigs,20,[0,1,4,5,6],[],[],[],[],[]⟩
theorem n_i (a0 : T) (a1 : T) (y0 : T) (h : ∃ y : T,F 195 [.t 2 a0] (zo 1 4) [y] ∧ ∃ y_1 : T,F 195 [.t 2 a1] (zo 1 4) [y_1] ∧ (y.bool = true → (y_1.bool = true → True ∧ kI 0 = y0 ∧ True) ∧ (y_1.bool = false → True ∧ kI (-1 : Int) = y0 ∧ True)) ∧ (y.bool = false → (y_1.bool = true → True ∧ kI 1 = y0 ∧ True) ∧ (y_1.bool = false → (ltI a0.int a1.int = true → True ∧ kI (-1 : Int) = y0 ∧ True) ∧ (ltI a0.int a1.int = false → (ltI a1.int a0.int = true → True ∧ kI 1 = y0 ∧ True) ∧ (ltI a1.int a0.int = false → True ∧ kI 0 = y0 ∧ True))))) : F 165 [.t 2 a0,.t 2 a1] (zo 2 2) [y0] :=
 F_nf C165 (by kernel_rfl) Tryz.func165 (by kernel_rfl) .no (by kernel_rfl) h
def C195 : Ctx:=⟨tab,sigs,6,[0,2],[],[],[],[],[]⟩
theorem n_j (a0 : T) (y0 : T) (h : True ∧ T.b (neI a0.int a0.int) = y0 ∧ True) : F 195 [.t 2 a0] (zo 1 4) [y0] :=
 F_nf C195 (by kernel_rfl) Tryz.func195 (by kernel_rfl) .no (by kernel_rfl) h
def C99 : Ctx:=⟨tab,sigs,57,[0,1,3,4,5,6,7,8,9,10],[cell 0 11],[(132,⟨[],[(0,[false,false,false,false,false,false,false,false,false,false,false,true,false])],[]⟩),(135,⟨[true],[],[true,false,false]⟩)],[],[],[0]⟩
theorem n_l (b0_0 : T) (b0_1 : T) (b0_2 : T) (b0_3 : T) (b0_4 : T) (b0_5 : T) (b0_6 : T) (b0_7 : T) (b0_8 : T) (b0_9 : T) (b0_10 : T) (b0_11 : List T) (b0_12 : T) (a1 : T) (y0 : T) (y1 : T) (y2 : T) (y3 : T) (y4 : T) (y5 : T) (y6 : T) (y7 : T) (y8 : T) (y9 : T) (y10 : T) (y11 : T) (y12 : T) (y13 : T) (y14 : T) (h : ∃ y y_1 y_2 y_3 y_4 y_5 y_6 y_7 y_8 y_9 y_10 y_11 y_12 y_13 y_14 : T,F 132 [.box 111 13 [.t 2 b0_0,.t 2 b0_1,.t 4 b0_2,.t 22 b0_3,.t 22 b0_4,.t 25 b0_5,.t 26 b0_6,.t 25 b0_7,.t 26 b0_8,.t 27 b0_9,.t 28 b0_10,.own 31 0 b0_11,.t 2 b0_12],.t 2 (a1.cell 1)] Z14 [y,y_1,y_2,y_3,y_4,y_5,y_6,y_7,y_8,y_9,y_10,y_11,y_12,y_13,y_14] ∧ ((!y_1.bool) = true → (True ∧ True) ∧ T.g [kI 0,kI 0,T.l [],T.l [],T.l [],T.b false,T.l [],T.l []] = y0 ∧ kI 5 = y1 ∧ y_2 = y2 ∧ y_3 = y3 ∧ y_4 = y4 ∧ y_5 = y5 ∧ y_6 = y6 ∧ y_7 = y7 ∧ y_8 = y8 ∧ y_9 = y9 ∧ y_10 = y10 ∧ y_11 = y11 ∧ y_12 = y12 ∧ T.l y_13.list = y13 ∧ y_14 = y14 ∧ True) ∧ ((!y_1.bool) = false → (Bd (y.int) (↑y_13.list.length : Int)) ∧ ∃ y_15 y_16 y_17 : T,F 138 [.t 60 ((y_13.list.getD (0 + y.int.toNat) T.u).part 1 15)] Z15 [y_15,y_16,y_17] ∧ (neI y_17.int 0 = true → (True ∧ True) ∧ T.g [kI 0,kI 0,T.l [],T.l [],T.l [],T.b false,T.l [],T.l []] = y0 ∧ y_17 = y1 ∧ y_2 = y2 ∧ y_3 = y3 ∧ y_4 = y4 ∧ y_5 = y5 ∧ y_6 = y6 ∧ y_7 = y7 ∧ y_8 = y8 ∧ y_9 = y9 ∧ y_10 = y10 ∧ y_11 = y11 ∧ y_12 = y12 ∧ T.l y_13.list = y13 ∧ y_14 = y14 ∧ True) ∧ (neI y_17.int 0 = false → ∃ y_18 : T,F 135 [.own 31 (List.take y_13.list.length y_13.list),.t 2 y,.t 2 (kI (addI .i64 y.int 1))] [(a_ 3,31,[true].headD false)] [y_18] ∧ (True ∧ True) ∧ T.g [kI 0,(a1.cell 1).cell 0,T.l [],T.l [],y_15.cell 0,y_16.cell 0,y_16.cell 1,y_16.cell 2] = y0 ∧ kI 0 = y1 ∧ y_2 = y2 ∧ y_3 = y3 ∧ y_4 = y4 ∧ y_5 = y5 ∧ y_6 = y6 ∧ y_7 = y7 ∧ y_8 = y8 ∧ y_9 = y9 ∧ y_10 = y10 ∧ y_11 = y11 ∧ y_12 = y12 ∧ T.l y_18.list = y13 ∧ y_14 = y14 ∧ True))) : F 99 [.box 111 13 [.t 2 b0_0,.t 2 b0_1,.t 4 b0_2,.t 22 b0_3,.t 22 b0_4,.t 25 b0_5,.t 26 b0_6,.t 25 b0_7,.t 26 b0_8,.t 27 b0_9,.t 28 b0_10,.own 31 0 b0_11,.t 2 b0_12],.t 35 a1] Z13 [y0,y1,y2,y3,y4,y5,y6,y7,y8,y9,y10,y11,y12,y13,y14] :=
 F_nf C99 (by kernel_rfl) Tryz.func99 (by kernel_rfl) .no (by kernel_rfl) h
def C25 : Ctx:=⟨tab,sigs,13,[0,1,2,3,4],[],[],[],[],[]⟩
theorem s_8 (a0 : T) (y0 : T) (y1 : T) (h : ∃ y : T,F 45 [.t 29 (G11 a0)] (zo 1 2) [y] ∧ (neI y.int 0 = true → True ∧ T.g [kI 0,kI 0,T.b false,T.l [],T.l [],T.l [],T.l [],T.l [],T.l [],T.l [],T.l [],kI 0,T.l [],T.l [],T.l []] = y0 ∧ y = y1 ∧ True) ∧ (neI y.int 0 = false → True ∧ T.g [a0.cell 0,a0.cell 1,a0.cell 2,a0.cell 3,a0.cell 4,a0.cell 5,a0.cell 6,a0.cell 7,a0.cell 8,a0.cell 9,a0.cell 10,kI 0,T.l [],T.l [],T.l []] = y0 ∧ kI 0 = y1 ∧ True)) : F 25 [.t 29 a0] Z9 [y0,y1] :=
 F_nf C25 (by kernel_rfl) Tryz.func25 (by kernel_rfl) .no (by kernel_rfl) h
def C54 : Ctx:=⟨tab,sigs,12,[0,1,2,4],[],[],[],[],[]⟩
theorem t_p (a0 : T) (a1 : T) (y0 : T) (h : (Bd (a1.int) (lenOf (a0.cell 12).list)) ∧ ∃ y : T,F 48 [.t 23 (((a0.cell 12).list.getD a1.int.toNat T.u).part 0 3)] (zo 1 2) [y] ∧ True ∧ T.b (ltI 0 y.int) = y0 ∧ True) : F 54 [.t 60 a0,.t 2 a1] (zo 2 4) [y0] :=
 F_nf C54 (by kernel_rfl) Tryz.func54 (by kernel_rfl) .no (by kernel_rfl) h
def C16 : Ctx:=⟨tab,sigs,8,[0,1,2,4],[],[],[],[],[]⟩
theorem s_2 (a0 : T) (a1 : T) (y0 : T) (h : ∃ y : T,F 43 [.t 49 (G3 a0),.t 2 a1,.t 4 (T.b false)] (zo 3 29) [y] ∧ True ∧ (G11 y) = y0 ∧ True) : F 16 [.t 49 a0,.t 2 a1] (zo 2 29) [y0] :=
 F_nf C16 (by kernel_rfl) Tryz.func16 (by kernel_rfl) .no (by kernel_rfl) h
def C81 : Ctx:=⟨tab,sigs,35,[0,1,4],[],[],[],[],[0]⟩
theorem t_O (b0_0 : T) (b0_1 : T) (a1 : T) (y0 : T) (y1 : T) (y2 : T) (h : (leI (lenOf b0_0.list) b0_1.int = true → (True ∧ True) ∧ kI 0 = y0 ∧ b0_0 = y1 ∧ b0_1 = y2 ∧ True) ∧ (leI (lenOf b0_0.list) b0_1.int = false → (Bd (subI .i64 (addI .i64 b0_1.int 1) (1 : Int)) (lenOf b0_0.list)) ∧ ∃ y : T,F 19 [.t 2 ((b0_0.list.getD (subI .i64 (addI .i64 b0_1.int 1) (1 : Int)).toNat T.u).cell 0),.t 2 a1] (zo 2 2) [y] ∧ (True ∧ True) ∧ y = y0 ∧ b0_0 = y1 ∧ kI (addI .i64 b0_1.int 1) = y2 ∧ True)) : F 81 [.box 129 2 [.t 28 b0_0,.t 2 b0_1],.t 2 a1] Z6 [y0,y1,y2] :=
 F_nf C81 (by kernel_rfl) Tryz.func81 (by kernel_rfl) .no (by kernel_rfl) h
def C19 : Ctx:=⟨tab,sigs,16,[0,1,4],[],[],[],[],[]⟩
theorem s_4 (a0 : T) (a1 : T) (y0 : T) (h : (ltI a1.int 1 = true → True ∧ kI 0 = y0 ∧ True) ∧ (ltI a1.int 1 = false → a1.int ≠ (0 : Int) ∧ (ltI (remI a0.int a1.int) 0 = true → True ∧ kI (addI .i64 (remI a0.int a1.int) a1.int) = y0 ∧ True) ∧ (ltI (remI a0.int a1.int) 0 = false → True ∧ kI (remI a0.int a1.int) = y0 ∧ True))) : F 19 [.t 2 a0,.t 2 a1] (zo 2 2) [y0] :=
 F_nf C19 (by kernel_rfl) Tryz.func19 (by kernel_rfl) .no (by kernel_rfl) h
def C28 : Ctx:=⟨tab,sigs,32,[0,1,2,3],[],[],[],[],[]⟩
theorem t_a  (y0 : T) (h : ∃ y y_1 : T,F 55 [.t 2 (kI 1),.t 2 (kI 2)] Z1 [y,y_1] ∧ ∃ y_2 : T,F 56 [.t 2 (kI 1)] (zo 1 23) [y_2] ∧ True ∧ T.g [kI 2,kI 2,T.b false,T.l [],T.l [],T.l (((List.replicate 2 (T.g [T.b false,T.l [],T.l []])).set 0 (G3 y)).set 1 (G3 y)),T.l (((List.replicate 2 (T.l [])).set 0 (T.l (((List.replicate 2 (T.g [T.b false,T.l [],T.l []])).set 0 (T.g [T.b false,T.l [],T.l []])).set 1 (G3 y)))).set 1 (T.l (((List.replicate 2 (T.g [T.b false,T.l [],T.l []])).set 0 (T.g [T.b false,T.l [],T.l []])).set 1 (T.g [T.b false,T.l [],T.l []])))),T.l (((List.replicate 2 (T.g [T.b false,T.l [],T.l []])).set 0 (G3 y)).set 1 (G3 y_2)),T.l (((List.replicate 2 (T.l [])).set 0 (T.l (((List.replicate 2 (T.g [T.b false,T.l [],T.l []])).set 0 (G3 y_2)).set 1 (T.g [T.b false,T.l [],T.l []])))).set 1 (T.l (((List.replicate 2 (T.g [T.b false,T.l [],T.l []])).set 0 (T.g [T.b false,T.l [],T.l []])).set 1 (G3 y_2)))),T.l (((List.replicate 2 (T.b false)).set 0 (T.b false)).set 1 (T.b false)),T.l (((List.replicate 2 (kI 0)).set 0 (kI 0)).set 1 (kI 1))] = y0 ∧ True) : F 28 [] (zo 0 29) [y0] :=
 F_nf C28 (by kernel_rfl) Tryz.func28 (by kernel_rfl) .no (by kernel_rfl) h
theorem i_i (l f : List Rat) (c : Nat) (hl : (l ++ f).length ≤ 2 ^ 14) (hc : c ≤ 2 ^ 14) (h : ∀ q ∈ l ++ f,rl q ≤ c) (hs : sumQ (l ++ f) = 1) : F 145 [.t 25 (v_ l),.t 25 (v_ f)] (zo 2 4) [.b true]:=by
 have c1:=m_4 [l,f] (by simp) (by simp at hl ⊢;omega);have e : [l,f].flatten = l ++ f:=by simp
 rw [e] at c1;refine r_a _ _ _ (fun i => i.1 = v_ (l ++ f) ∧ i.2.1 = ratT (sumQ ((l ++ f).take i.2.2)) ∧ i.2.2 ≤ (l ++ f).length) (fun i => (l ++ f).length - i.2.2) ⟨_,c1,⟨(v_ (l ++ f),ratT 0,0),⟨rfl,rfl,Nat.zero_le _⟩,(by and_intros <;> first | exact trivial | rfl | (rw [c_ (by omega)];rfl))⟩,fun _ => rfl,?_⟩;rintro ⟨L,x,k⟩ ⟨hL,hx,hk⟩;dsimp only at hL hx hk ⊢;subst hL;subst hx;rw [z_];refine ⟨fun h1 => ?_,fun h1 => ?_⟩
 ·rw [d_] at h1
  have hlt : k < (l ++ f).length:=by omega
  rw [a_v,Int.toNat_natCast,a_W _ hlt,C_];have hb:=k_o (l ++ f) c h k (by omega);have hm : k * (c + 1) ≤ 2 ^ 14 * (2 ^ 14 + 1):=Nat.mul_le_mul (by omega) (by omega);have c2:=u_E (sumQ ((l ++ f).take k)) ((l ++ f).getD k 0) (by omega) (by have:=h _ (b_e hlt);omega);rw [← d_s _ hlt] at c2;exact ⟨⟨by omega,by omega⟩,_,c2,(v_ (l ++ f),ratT (sumQ ((l ++ f).take (k + 1))),k + 1),⟨rfl,rfl,hlt⟩,by dsimp only;omega,by and_intros <;> first | exact trivial | rfl | (dsimp only;rw [z_]) | (rw [c_ (by omega)];rfl)⟩
 ·rw [l_] at h1
  have : k = (l ++ f).length:=by omega
  subst this;rw [List.take_length,hs];have c3:=b_1 1 1 (by rw [f_C];decide) (by rw [f_C];decide);rw [b_H.2 rfl] at c3;exact ⟨_,p_3,_,c3,trivial,rfl,trivial⟩
theorem n_q (h : Md) (c : Nat) (hk : MdOk h c) : F 109 [.t 29 (hidT h)] (zo 1 4) [.b true]:=by
 have hst:=hk.st;have hsy:=hk.sym;have hc:=hk.cc;refine q_J _ _ (fun i => i ≤ h.st) (fun i => h.st - i) ?_;rw [c_E,d_P,h_S,c_Q,b_K,d_y,c_h,c_p,d_z,z_,z_,a_x,a_x,b_L,D_,hk.init,hk.stop,hk.trans,hk.emit,hk.ties,List.length_replicate,a_f];refine ⟨_,l_n _ (by have:=hk.q0.1;omega) hk.q0.2,_,fun _ => e_D _ (by rw [hk.init];omega) (fun q hq => ⟨by have:=(hk.q1 q hq).1;omega,(hk.q1 q hq).2⟩),_,fun _ => e_D _ (by rw [hk.stop];omega) (fun q hq => ⟨by have:=(hk.q3 q hq).1;omega,(hk.q3 q hq).2⟩),fun q => (by cases q),fun _ => ⟨⟨0,Nat.zero_le _,(by and_intros <;> first | exact trivial | rfl | (rw [c_ (by omega)];rfl))⟩,fun _ => rfl,?_⟩⟩;intro i hi;refine ⟨fun h1 => ?_,fun h1 => ⟨trivial,rfl,trivial⟩⟩;rw [d_] at h1;have hlt : i < h.st:=by omega
 rw [hk.tr hlt,hk.em hlt,hk.si hlt,hk.ti hlt,a_h,a_h,z_,z_,hk.trl hlt,hk.eml hlt,a_f,a_f];have hti:=hk.til hlt;have b1 : ltI ((T.i .i64 ((h.ties.getD i 0 : Nat) : Int)).cell 0).int 0 = false:=by rw [l_];show (0 : Int) ≤ ((h.ties.getD i 0 : Nat) : Int);omega
 have b2 : leI (h.st : Int) ((T.i .i64 ((h.ties.getD i 0 : Nat) : Int)).cell 0).int = false:=by rw [b_o];show ((h.ties.getD i 0 : Nat) : Int) < _;omega
 refine ⟨⟨by omega,by omega⟩,fun q => (by cases q),fun _ => ⟨⟨by omega,by omega⟩,fun _ => ⟨by omega,by omega⟩,fun _ => ⟨by omega,by omega⟩,_,fun _ => e_D _ (by rw [hk.trl hlt];omega) (fun q hq => ⟨by have:=(hk.trq hlt q hq).1;omega,(hk.trq hlt q hq).2⟩),fun _ => ⟨by omega,by omega⟩,_,fun _ => e_D _ (by rw [hk.eml hlt];omega) (fun q hq => ⟨by have:=(hk.emq hlt q hq).1;omega,(hk.emq hlt q hq).2⟩),fun _ => ⟨by omega,by omega⟩,fun _ => ⟨by omega,by omega⟩,?_,?_⟩⟩
 ·rw [b1,b2];intro q;cases q
 ·intro _
  exact ⟨i + 1,hlt,by omega,(by and_intros <;> first | exact trivial | rfl | (rw [c_ (by omega)];rfl))⟩
theorem j_n (q : Rat) (l : List Rat) : sumQ (l ++ [q]) = q + sumQ l:=by
 unfold sumQ;rw [List.foldl_append,Rat.add_comm];rfl
theorem s_y (h : Md) (c : Nat) (hk : MdOk h c) : F 110 [.t 29 (hidT h)] (zo 1 4) [.b true]:=by
 have hst:=hk.st;have hsy:=hk.sym;have hc:=hk.cc;refine q_K _ _ (fun i => i ≤ h.st) (fun i => h.st - i) ?_;rw [c_E,d_P,c_Q,b_K,d_y,c_h,c_p,z_,a_x,a_x,b_L,hk.stop,hk.trans,hk.emit,List.length_replicate];refine ⟨_,i_i h.init [h.empty] c (by simp [hk.init];omega) (by omega) (fun q hq => ?_) (by rw [j_n];exact hk.s0),fun q => (by cases q),fun _ => ⟨⟨0,Nat.zero_le _,(by and_intros <;> first | exact trivial | rfl | (rw [c_ (by omega)];rfl))⟩,fun _ => rfl,?_⟩⟩
 ·rcases List.mem_append.1 hq with hq | hq
  ·exact (hk.q1 q hq).1
  ·rw [List.mem_singleton.1 hq];exact hk.q0.1
 ·intro i hi
  refine ⟨fun h1 => ?_,fun h1 => ⟨trivial,rfl,trivial⟩⟩;rw [d_] at h1;have hlt : i < h.st:=by omega
  rw [hk.tr hlt,hk.em hlt,hk.si hlt,hk.sp hlt,a_h,a_h,C_];have w1:=i_i (h.trans.getD i []) [h.stop.getD i 0] c (by rw [List.length_append,hk.trl hlt];simp only [List.length_singleton];omega) (by omega) (fun q hq => by
   rcases List.mem_append.1 hq with hq | hq
   ·exact (hk.trq hlt q hq).1
   ·rw [List.mem_singleton.1 hq];exact (hk.q3 _ (b_e (by rw [hk.stop];exact hlt))).1) (by rw [j_n];exact hk.s1 i hlt)
  have w2:=i_i (h.emit.getD i []) [] c (by rw [List.length_append,hk.eml hlt];simp only [List.length_nil];omega) (by omega) (fun q hq => by rw [List.append_nil] at hq;exact (hk.emq hlt q hq).1) (by rw [List.append_nil];exact hk.s2 _ (r_ (by have:=hk.emit;omega)));exact ⟨⟨by omega,by omega⟩,⟨by omega,by omega⟩,_,w1,fun _ => ⟨by omega,by omega⟩,fun _ => ⟨by omega,by omega⟩,_,fun _ => w2,fun q => (by cases q),fun _ => ⟨i + 1,hlt,by omega,(by and_intros <;> first | exact trivial | rfl | (rw [c_ (by omega)];rfl))⟩⟩
theorem o_P (l : List Rat) (hl : l.length ≤ 2 ^ 40) (h : ∀ q ∈ l,rl q ≤ 2 ^ 30) : F 148 [.t 25 (v_ l),.t 25 (v_ l)] (zo 2 4) [.b true]:=by
 have c1 : F 73 [.t 25 (v_ l),.t 25 (v_ l),.t 1 (.f 188 [])] (zo 3 4) [.b true]:=by
  refine r_T _ _ _ (fun k => k ≤ l.length) (fun k => l.length - k) ?_;rw [z_];refine ⟨fun h1 => absurd rfl (b_h.1 h1),fun _ => ⟨⟨0,Nat.zero_le _,(by and_intros <;> first | exact trivial | rfl | (rw [c_ (by omega)];rfl))⟩,fun _ => rfl,?_⟩⟩;intro k hk;refine ⟨fun h1 => ?_,fun h1 => ⟨trivial,rfl,trivial⟩⟩;rw [d_] at h1;have hlt : k < l.length:=by omega
  rw [a_v,Int.toNat_natCast,a_W l hlt,C_];have hb:=h _ (b_e hlt);have c2:=b_1 _ _ hb hb;rw [b_H.2 rfl] at c2;exact ⟨⟨by omega,by omega⟩,⟨by omega,by omega⟩,_,⟨rfl,r_y _ _ _ ⟨_,c2,trivial,rfl,trivial⟩⟩,fun q => (by cases q),fun _ => ⟨k + 1,hlt,by omega,(by and_intros <;> first | exact trivial | rfl | (rw [c_ (by omega)];rfl))⟩⟩
 exact r_b _ _ _ ⟨_,c1,trivial,rfl,trivial⟩
theorem s_A (h : Md) (c : Nat) (hk : MdOk h c) : F 112 [.t 29 (hidT h)] (zo 1 4) [.b true]:=by
 have hst:=hk.st;have hsy:=hk.sym;have hc:=hk.cc;refine q_L _ _ (fun i => i ≤ h.st) (fun i => h.st - i) (fun i j => i < h.st ∧ j ≤ i) (fun i j => i - j) ?_;rw [d_P,c_h,c_p,d_z,a_x,b_L,D_,hk.emit,hk.ties,List.length_replicate];refine ⟨⟨0,Nat.zero_le _,(by and_intros <;> first | exact trivial | rfl | (rw [c_ (by omega)];rfl))⟩,fun _ => rfl,?_⟩;intro i hi;refine ⟨fun h1 => ?_,fun h1 => ⟨trivial,rfl,trivial⟩⟩;rw [d_] at h1;have hlt : i < h.st:=by omega
 refine ⟨⟨0,⟨hlt,Nat.zero_le _⟩,(by and_intros <;> first | exact trivial | rfl | (rw [c_ (by omega)];rfl))⟩,fun _ => rfl,?_⟩;rintro j ⟨-,hj⟩;refine ⟨fun h2 => ?_,fun h2 => ⟨i + 1,hlt,by omega,(by and_intros <;> first | exact trivial | rfl | (rw [c_ (by omega)];rfl))⟩⟩;rw [d_] at h2;have hjlt : j < h.st:=by omega
 rw [hk.si hlt,hk.si hjlt,hk.ti hlt,hk.ti hjlt,hk.em hlt,hk.em hjlt,a_h,a_h];refine ⟨⟨by omega,by omega⟩,fun _ => ⟨by omega,by omega⟩,fun _ => ⟨by omega,by omega⟩,fun _ => ⟨by omega,by omega⟩,fun _ => ⟨by omega,by omega⟩,fun _ => ⟨by omega,by omega⟩,.b true,fun q => ?_,fun q => ?_,fun _ => ⟨j + 1,⟨hlt,by omega⟩,by omega,(by and_intros <;> first | exact trivial | rfl | (rw [c_ (by omega)];rfl))⟩⟩
 ·have q1:=q.1
  have q2 : eqI ((h.ties.getD i 0 : Nat) : Int) ((h.ties.getD j 0 : Nat) : Int) = true:=q1;rw [M_] at q2;rw [← hk.tied i j hlt (by omega) (by omega)];exact o_P _ (by rw [hk.eml hlt];omega) (fun q hq => by have:=(hk.emq hlt q hq).1;omega)
 ·exfalso
  revert q;have : ∀ b : Bool,(T.ite b (T.b false) (T.b false)).bool = true → False:=by intro b;cases b <;> intro q <;> cases q
  exact this _
theorem l_W (n : Nat) (hn : n ≤ 2 ^ 40) : F 67 [.t 27 (b_b (List.replicate n false)),.t 4 (.b true)] (zo 2 4) [.b false]:=by
 have c1 : F 113 [.t 27 (b_b (List.replicate n false)),.t 4 (.b true)] (zo 2 2) [.i .i64 (-1)]:=by
  refine q_M _ _ _ (fun k => k ≤ n) (fun k => n - k) ?_;rw [b_L,List.length_replicate];refine ⟨⟨0,Nat.zero_le _,(by and_intros <;> first | exact trivial | rfl | (rw [c_ (by omega)];rfl))⟩,fun _ => rfl,?_⟩;intro k hk;refine ⟨fun h1 => ?_,fun h1 => ⟨trivial,rfl,trivial⟩⟩;rw [d_] at h1;have hlt : k < n:=by omega
  have e : (b_b (List.replicate n false)).list.getD (k : Int).toNat T.u = .b false:=by
   rw [Int.toNat_natCast,e_W,c_w _ (by simpa using hlt)];simp [List.getD_eq_getElem?_getD,hlt]
  rw [e];exact ⟨⟨by omega,by omega⟩,fun q => (by cases q),fun _ => ⟨k + 1,hlt,by omega,(by and_intros <;> first | exact trivial | rfl | (rw [c_ (by omega)];rfl))⟩⟩
 exact t_B _ _ _ ⟨_,c1,trivial,rfl,trivial⟩
end Go.Pq
namespace Go.Pl
theorem k_P {α : Type} (A : List α) (n : Nat) (z d : α) {k : Nat} (hA : A.length = k) (hn : 0 < n) : (A ++ List.replicate n z).getD k d = z:=by
 rw [List.getD_eq_getElem?_getD,List.getElem?_append_right (by omega),List.getElem?_replicate,if_pos (by omega)];rfl
theorem d_f {α : Type} (A : List α) (n : Nat) (z v : α) {k : Nat} (hA : A.length = k) (hn : 0 < n) : (A ++ List.replicate n z).set k v = (A ++ [v]) ++ List.replicate (n - 1) z:=by
 obtain ⟨m,rfl⟩ : ∃ m,n = m + 1:=⟨n - 1,by omega⟩;rw [List.set_append_right _ _ (by omega),hA,Nat.sub_self,List.replicate_succ];simp
theorem c_W {α : Type} (l : List α) (f : α → T) {k : Nat} (d : α) (h : k < l.length) : (l.take (k + 1)).map f = (l.take k).map f ++ [f (l.getD k d)]:=by
 rw [List.take_succ_eq_append_getElem h,List.map_append,List.getD_eq_getElem?_getD,List.getElem?_eq_getElem h];rfl
theorem c_z {xs : List T} {b : Bool} {z : T} (y : T) (hn : nilC (.l xs) y) (m : Nat) (hl : xs.length * m ≤ room) (hm : xs.length ≤ 9223372036854775807) :
  (y.bool = true → True ∧ T.l [] = T.l xs ∧ True) ∧ (y.bool = false → ((0 + (T.l xs).list.length) * m ≤ room ∧ 0 + (T.l xs).list.length ≤ 9223372036854775807) ∧ True ∧ T.l (List.replicate 0 z ++ (T.l xs).list) = T.l xs ∧ True):=by
 refine ⟨fun h => ?_,fun _ => ?_⟩
 ·have : xs = []:=hn h
  exact ⟨trivial,by rw [this],trivial⟩
 ·show ((0 + xs.length) * m ≤ room ∧ 0 + xs.length ≤ 9223372036854775807) ∧ True ∧ T.l ([] ++ xs) = T.l xs ∧ True
  rw [Nat.zero_add];exact ⟨⟨hl,hm⟩,trivial,rfl,trivial⟩
end Go.Pl
namespace Go.Pq
open Go.Pl Go.Proofs
theorem c_y (xs : List T) (h : xs.length ≤ 2 ^ 40) : F 62 [.t 28 (.l xs)] (zw 1 28) [.l xs] :=
 t_w _ _ fun y hn => c_z (b:=true) y hn 8 (by have : room = 140737488355328:=rfl;omega) (by omega)
theorem l_H (xs : List T) (h : xs.length ≤ 2 ^ 40) : F 62 [.t 28 (.l xs)] (zo 1 28) [.l xs] :=
 r_R _ _ fun y hn => c_z (b:=true) y hn 8 (by have : room = 140737488355328:=rfl;omega) (by omega)
theorem l_G (xs : List T) (h : xs.length ≤ 2 ^ 40) : F 102 [.t 27 (.l xs)] (zo 1 27) [.l xs] :=
 q_C _ _ fun y hn => c_z (b:=true) y hn 1 (by have : room = 140737488355328:=rfl;omega) (by omega)
theorem g_6 (xs : List T) (h : xs.length ≤ 2 ^ 40) : F 139 [.t 22 (.l xs)] (zo 1 22) [.l xs] :=
 q_4 _ _ fun y hn => c_z (b:=true) y hn 4 (by have : room = 140737488355328:=rfl;omega) (by omega)
theorem g_b (xs : List T) (h : xs.length ≤ 2 ^ 30) : F 57 [.t 31 (.l xs)] (zw 1 31) [.l xs] :=
 t_s _ _ fun y hn => c_z (b:=true) y hn 304 (by have : room = 140737488355328:=rfl;omega) (by omega)
theorem e_6 (q : Rat) (hq : rl q ≤ 2 ^ 30) : F 100 [.t 23 (ratT q)] (zo 1 23) [ratT q]:=by
 have h1 : (Lb.nat q.num.natAbs).length ≤ 2 ^ 40:=by have:=Nat.le_max_left (Lb.nat q.num.natAbs).length (Lb.nat q.den).length;unfold rl at hq;omega
 have h2 : (Lb.nat q.den).length ≤ 2 ^ 40:=by have:=Nat.le_max_right (Lb.nat q.num.natAbs).length (Lb.nat q.den).length;unfold rl at hq;omega
 have c1 : F 139 [.t 22 (lim (Lb.nat q.num.natAbs))] (zo 1 22) [lim (Lb.nat q.num.natAbs)]:=g_6 _ (by rw [y_];exact h1);have c2 : F 139 [.t 22 (den1 q.den)] (zo 1 22) [den1 q.den]:=g_6 _ (by
  rw [y_];unfold dl;split
  ·simp
  ·exact h2)
 exact q_A _ _ ⟨_,c1,_,c2,trivial,rfl,trivial⟩
theorem c_P (l : List Rat) (hl : l.length ≤ 2 ^ 30) (h : ∀ q ∈ l,rl q ≤ 2 ^ 30) : F 60 [.t 25 (v_ l)] (zo 1 25) [v_ l]:=by
 have c1 : F 103 [.t 25 (v_ l),.t 1 (.f 100 [])] (zo 2 25) [v_ l]:=by
  refine q_D _ _ (fun i => i.1 = (l.take i.2).map ratT ++ List.replicate (l.length - i.2) (T.g [T.b false,T.l [],T.l []]) ∧ i.2 ≤ l.length) (fun i => l.length - i.2) fun y hn => ⟨fun hy => ?_,fun _ => ?_⟩
  ·have : ratL l = []:=hn hy
   exact ⟨trivial,by unfold v_;rw [this],trivial⟩
  ·rw [z_]
   refine ⟨⟨by omega,by omega,by omega,by omega⟩,⟨(List.replicate l.length (T.g [T.b false,T.l [],T.l []]),0),⟨by simp,Nat.zero_le _⟩,(by and_intros <;> first | exact trivial | rfl | (rw [c_ (by omega)];rfl))⟩,fun _ => rfl,?_⟩;rintro ⟨g,k⟩ ⟨hg,hk⟩;dsimp only at hg hk ⊢;subst hg;refine ⟨fun h1 => ?_,fun h1 => ?_⟩
   ·rw [d_] at h1
    have hlt : k < l.length:=by omega
    have hA : ((l.take k).map ratT).length = k:=by simp;omega
    rw [a_v,Int.toNat_natCast,a_W l hlt,C_,Nat.zero_add,k_P _ _ _ _ hA (by omega)];refine ⟨⟨by omega,by omega⟩,_,⟨rfl,e_6 _ (h _ (b_e hlt))⟩,⟨by omega,by simp;omega⟩,((l.take (k + 1)).map ratT ++ List.replicate (l.length - (k + 1)) (T.g [T.b false,T.l [],T.l []]),k + 1),⟨rfl,hlt⟩,by dsimp only;omega,?_⟩;rw [d_f _ _ _ _ hA (by omega),c_W l ratT 0 hlt];exact (by and_intros <;> first | exact trivial | rfl | (rw [c_ (by omega)];rfl))
   ·rw [l_] at h1
    have : k = l.length:=by omega
    subst this;rw [List.drop_zero,q_,q_,Nat.sub_self];exact ⟨trivial,by simp [v_,ratL],trivial⟩
 exact t_u _ _ ⟨_,c1,trivial,rfl,trivial⟩
theorem g_k (m : List (List Rat)) (hl : m.length ≤ 2 ^ 30) (h : ∀ r ∈ m,r.length ≤ 2 ^ 30 ∧ ∀ q ∈ r,rl q ≤ 2 ^ 30) : F 101 [.t 26 (R_ m)] (zo 1 26) [R_ m]:=by
 have c1 : F 140 [.t 26 (R_ m),.t 1 (.f 60 [])] (zo 2 26) [R_ m]:=by
  refine q_5 _ _ (fun i => i.1 = (m.take i.2).map v_ ++ List.replicate (m.length - i.2) (T.l []) ∧ i.2 ≤ m.length) (fun i => m.length - i.2) fun y hn => ⟨fun hy => ?_,fun _ => ?_⟩
  ·have : b_w m = []:=hn hy
   exact ⟨trivial,by unfold R_;rw [this],trivial⟩
  ·rw [a_x]
   refine ⟨⟨by omega,by omega,by omega,by omega⟩,⟨(List.replicate m.length (T.l []),0),⟨by simp,Nat.zero_le _⟩,(by and_intros <;> first | exact trivial | rfl | (rw [c_ (by omega)];rfl))⟩,fun _ => rfl,?_⟩;rintro ⟨g,k⟩ ⟨hg,hk⟩;dsimp only at hg hk ⊢;subst hg;refine ⟨fun h1 => ?_,fun h1 => ?_⟩
   ·rw [d_] at h1
    have hlt : k < m.length:=by omega
    have hA : ((m.take k).map v_).length = k:=by simp;omega
    have hr:=h _ (r_ (d:=[]) hlt);rw [b_y,Int.toNat_natCast,b_x m hlt,a_h,Nat.zero_add];refine ⟨⟨by omega,by omega⟩,_,⟨rfl,c_P _ hr.1 hr.2⟩,⟨by omega,by simp;omega⟩,((m.take (k + 1)).map v_ ++ List.replicate (m.length - (k + 1)) (T.l []),k + 1),⟨rfl,hlt⟩,by dsimp only;omega,?_⟩;rw [d_f _ _ _ _ hA (by omega),c_W m v_ [] hlt];exact (by and_intros <;> first | exact trivial | rfl | (rw [c_ (by omega)];rfl))
   ·rw [l_] at h1
    have : k = m.length:=by omega
    subst this;rw [List.drop_zero,q_,q_,Nat.sub_self];exact ⟨trivial,by simp [R_,b_w],trivial⟩
 exact q_B _ _ ⟨_,c1,trivial,rfl,trivial⟩
theorem b_U (h : Md) (c : Nat) (hk : MdOk h c) : F 59 [.t 29 (hidT h)] (zo 1 29) [hidT h]:=by
 have hst:=hk.st;have hsy:=hk.sym;have hc:=hk.cc;refine t_t _ _ ?_;rw [c_E,c_Q,b_K,d_y,c_h,c_p,d_z];refine ⟨_,e_6 _ (by have:=hk.q0.1;omega),_,c_P _ (by rw [hk.init];omega) (fun q hq => by have:=(hk.q1 q hq).1;omega),_,g_k _ (by rw [hk.trans];omega) (fun r hr => ⟨by rw [hk.rows r hr];omega,fun q hq => by have:=(hk.q2 r hr q hq).1;omega⟩),
  _,c_P _ (by rw [hk.stop];omega) (fun q hq => by have:=(hk.q3 q hq).1;omega),_,g_k _ (by rw [hk.emit];omega) (fun r hr => ⟨by rw [hk.shows r hr];omega,fun q hq => by have:=(hk.q4 r hr q hq).1;omega⟩),_,l_G _ (by rw [d_c,List.length_replicate];omega),_,c_y _ (by rw [T_,hk.ties];omega),trivial,rfl,trivial⟩
theorem i_H (m : List (List T)) (hl : m.length ≤ 2 ^ 30) (h : ∀ r ∈ m,r.length ≤ 2 ^ 30) : F 61 [.t 59 (.l (m.map T.l))] (zo 1 59) [.l (m.map T.l)]:=by
 have hlen : lenOf (T.l (m.map T.l)).list = (m.length : Int):=by show ((m.map T.l).length : Int) = _;simp
 have c1 : F 104 [.t 59 (.l (m.map T.l)),.t 1 (.f 62 [])] (zo 2 59) [.l (m.map T.l)]:=by
  refine q_E _ _ (fun i => i.1 = (m.take i.2).map T.l ++ List.replicate (m.length - i.2) (T.l []) ∧ i.2 ≤ m.length) (fun i => m.length - i.2) fun y hn => ⟨fun hy => ?_,fun _ => ?_⟩
  ·have : m.map T.l = []:=hn hy
   exact ⟨trivial,by rw [this],trivial⟩
  ·rw [hlen]
   refine ⟨⟨by omega,by omega,by omega,by omega⟩,⟨(List.replicate m.length (T.l []),0),⟨by simp,Nat.zero_le _⟩,(by and_intros <;> first | exact trivial | rfl | (rw [c_ (by omega)];rfl))⟩,fun _ => rfl,?_⟩;rintro ⟨g,k⟩ ⟨hg,hk⟩;dsimp only at hg hk ⊢;subst hg;refine ⟨fun h1 => ?_,fun h1 => ?_⟩
   ·rw [d_] at h1
    have hlt : k < m.length:=by omega
    have hA : ((m.take k).map T.l).length = k:=by simp;omega
    have hr:=h _ (r_ (d:=[]) hlt);have hget : ((T.l (m.map T.l)).list.getD (k : Int).toNat T.u).cell 0 = T.l (m.getD k []):=by
     show (((m.map T.l).getD (k : Int).toNat T.u)).cell 0 = _
     rw [Int.toNat_natCast,List.getD_eq_getElem?_getD,List.getElem?_map,List.getD_eq_getElem?_getD,List.getElem?_eq_getElem hlt];rfl
    rw [hget,Nat.zero_add,Int.toNat_natCast];refine ⟨⟨by omega,by omega⟩,_,⟨rfl,l_H _ (by omega)⟩,⟨by omega,by simp;omega⟩,((m.take (k + 1)).map T.l ++ List.replicate (m.length - (k + 1)) (T.l []),k + 1),⟨rfl,hlt⟩,by dsimp only;omega,?_⟩;rw [d_f _ _ _ _ hA (by omega),c_W m T.l [] hlt];exact (by and_intros <;> first | exact trivial | rfl | (rw [c_ (by omega)];rfl))
   ·rw [l_] at h1
    have : k = m.length:=by omega
    subst this;rw [List.drop_zero,q_,q_,Nat.sub_self];exact ⟨trivial,by simp,trivial⟩
 exact t_v _ _ ⟨_,c1,trivial,rfl,trivial⟩
end Go.Pq
namespace Go.Pl
structure On where
 time : Nat
 sc : List Rat
 tails : List (List Nat)
 done : List Nat
def G_ (m : List (List Nat)) : List T:=m.map intT
def d_u (m : List (List Nat)) : T:=.l (G_ m)
def onT (h : Md) (o : On) : T:=.g [.i .i64 (h.sym : Int),.i .i64 (h.st : Int),.b (decide (h.empty.num < 0)),lim (Lb.nat h.empty.num.natAbs),den1 h.empty.den,
 v_ h.init,R_ h.trans,v_ h.stop,R_ h.emit,b_b (List.replicate h.st false),intT h.ties,.i .i64 (o.time : Int),v_ o.sc,d_u o.tails,intT o.done]
theorem c_q (h : Md) (o : On) : (G15 (onT h o)) = onT h o:=rfl
theorem k_4 (h : Md) (o : On) : (G11 (onT h o)) = hidT h:=rfl
theorem k_5 (h : Md) (o : On) : ((onT h o).cell 0).int = (h.sym : Int):=rfl
theorem p_a (h : Md) (o : On) : ((onT h o).cell 1).int = (h.st : Int):=rfl
theorem r_8 (h : Md) (o : On) : (onT h o).cell 5 = v_ h.init:=rfl
theorem p_b (h : Md) (o : On) : (onT h o).cell 6 = R_ h.trans:=rfl
theorem r_9 (h : Md) (o : On) : (onT h o).cell 7 = v_ h.stop:=rfl
theorem r_7 (h : Md) (o : On) : (onT h o).cell 8 = R_ h.emit:=rfl
theorem c_r (h : Md) (o : On) : ((onT h o).cell 11).int = (o.time : Int):=rfl
theorem k_g (h : Md) (o : On) : (onT h o).cell 12 = v_ o.sc:=rfl
theorem d_F (h : Md) (o : On) : (onT h o).cell 13 = d_u o.tails:=rfl
theorem e_a (h : Md) (o : On) : (onT h o).cell 14 = intT o.done:=rfl
def on0 : On:=⟨0,[],[],[]⟩
theorem g_Y (m : List (List Nat)) : (d_u m).list = G_ m:=rfl
theorem b_f (m : List (List Nat)) : lenOf (d_u m).list = (m.length : Int):=by rw [g_Y];simp [lenOf,G_]
theorem e_f (m : List (List Nat)) {i : Nat} (h : i < m.length) : (G_ m).getD i .u = intT (m.getD i []):=by
 simp [G_,List.getD_eq_getElem?_getD,h]
theorem b_n (m : List (List Nat)) {i : Nat} (h : i < m.length) : (d_u m).list.getD (i : Int).toNat T.u = intT (m.getD i []):=by
 rw [Int.toNat_natCast,g_Y,e_f m h]
theorem a_X (m : List Rat) {i : Nat} (h : i < m.length) : (v_ m).list.getD (i : Int).toNat T.u = ratT (m.getD i 0):=by
 rw [Int.toNat_natCast,a_v,a_W m h]
theorem a_p (m : List Nat) {i : Nat} (h : i < m.length) : (intT m).list.getD (i : Int).toNat T.u = .i .i64 ((m.getD i 0 : Nat) : Int):=by
 rw [Int.toNat_natCast,a_c,e_q m h]
theorem b_t (l : List Nat) : (intT l).cell 0 = intT l:=rfl
theorem a_E (x : Int) : (T.i .i64 x).cell 0 = T.i .i64 x:=rfl
end Go.Pl
namespace Go.Pq
open Go.Pl Go.Proofs
theorem l_s (h : Md) (c : Nat) (hk : MdOk h c) : F 66 [.t 29 (hidT h)] (zo 1 2) [.i .i64 0]:=by
 have hst:=hk.st;have hsy:=hk.sym;have e0 : ltI (h.sym : Int) 1 = false:=l_.2 (by omega);have e1 : ltI (32 : Int) (h.sym : Int) = false:=l_.2 (by omega);have e2 : ltI (h.st : Int) 1 = false:=l_.2 (by omega);have e3 : ltI (12 : Int) (h.st : Int) = false:=l_.2 (by omega);refine t_A _ _ ?_;rw [a_7,h_S,d_P,e0,e1,e2,e3];exact ⟨fun q => (by cases q),fun _ => ⟨_,n_q h c hk,fun q => (by cases q),fun _ => ⟨_,s_y h c hk,fun q => (by cases q),fun _ => ⟨_,_,s_c hk,fun q => (by cases q),fun _ => ⟨_,s_A h c hk,fun q => (by cases q),
  fun _ => ⟨trivial,rfl,trivial⟩⟩⟩⟩⟩⟩
theorem h_3 (h : Md) (c : Nat) (hk : MdOk h c) : F 33 [.t 29 (hidT h)] (zo 1 4) [.b true]:=by
 refine t_e _ _ ?_;rw [a_7,c_p];exact ⟨_,l_s h c hk,_,fun _ => l_W h.st (by have:=hk.st;omega),trivial,rfl,trivial⟩
theorem p_l (h : Md) (c : Nat) (hk : MdOk h c) : F 83 [.t 29 (hidT h)] (zo 1 2) [.i .i64 0]:=by
 refine t_Q _ _ ?_;rw [a_7];exact ⟨_,l_s h c hk,fun q => (by cases q),fun _ => ⟨_,h_3 h c hk,fun q => (by cases q),fun _ => ⟨trivial,rfl,trivial⟩⟩⟩
theorem p_4 (h : Md) (c : Nat) (hk : MdOk h c) : F 44 [.t 29 (hidT h)] Z9 [onT h on0,.i .i64 0]:=by
 refine t_j _ _ _ ?_;rw [a_7];exact ⟨_,p_l h c hk,fun q => (by cases q),fun _ => ⟨_,b_U h c hk,trivial,rfl,rfl,trivial⟩⟩
theorem s_a (h : Md) (c : Nat) (hk : MdOk h c) : F 25 [.t 29 (hidT h)] Z9 [onT h on0,.i .i64 0]:=by
 refine s_8 _ _ _ ?_;rw [a_7];exact ⟨_,o_F h c hk,fun q => (by cases q),fun _ => ⟨trivial,rfl,rfl,trivial⟩⟩
theorem s_v (q : Rat) (hq : rl q ≤ 2 ^ 30) (hs : Share q) : F 68 [.t 23 (ratT q)] (zo 1 4) [.b true]:=by
 have c1:=p_X 1 1 (by decide) (by decide) (by decide);rw [k_c] at c1;have c2:=b_1 q 1 hq (by rw [f_C];decide);refine t_C _ _ ⟨_,_,c1,_,k_z q (by omega),_,fun _ => e_e q (by omega),_,fun _ => c2,trivial,?_,trivial⟩;have h1 : leI 0 (sgnZ q.num) = true:=by
  rw [a_R,← Int.not_lt,f_S,k_3,Rat.not_lt];exact hs.1
 have h2 : leI (cmpQ q 1) 0 = true:=by rw [a_R,j_D];exact hs.2
 rw [k_,k_,h1,h2];rfl
end Go.Pq
namespace Go.Pl
def cp : List Nat → List Nat → Nat
 | a :: x,b :: y => if a = b then cp x y + 1 else 0
 | _,_ => 0
theorem m_5 {k : Nat} {p f : List Nat} : k < cp p f ↔ k < p.length ∧ k < f.length ∧ ∀ j,j ≤ k → p.getD j 0 = f.getD j 0:=by
 induction p generalizing k f with
 | nil => simp [cp]
 | cons a x ih =>
  match f with
  | [] => simp [cp]
  | b :: y =>
   unfold cp
   by_cases h : a = b
   ·rw [if_pos h]
    match k with
    | 0 =>
     refine ⟨fun _ => ⟨by simp,by simp,fun j hj => ?_⟩,fun _ => by omega⟩;have : j = 0:=by omega
     subst this;simpa using h
    | k + 1 =>
     rw [Nat.add_lt_add_iff_right,ih];simp only [List.length_cons,Nat.add_lt_add_iff_right];refine and_congr Iff.rfl (and_congr Iff.rfl ⟨fun q j hj => ?_,fun q j hj => ?_⟩)
     ·match j with
      | 0 => simpa using h
      | j + 1 => simpa using q j (by omega)
     ·simpa using q (j + 1) (by omega)
   ·rw [if_neg h]
    refine ⟨fun q => by omega,fun q => ?_⟩;exact absurd (by simpa using q.2.2 0 (by omega)) h
theorem c_A (p f : List Nat) : cp p f ≤ p.length:=by
 rcases Nat.eq_zero_or_pos (cp p f) with h | h
 ·omega
 ·have:=(m_5 (k:=cp p f - 1) (p:=p) (f:=f)).1 (by omega);omega
theorem j_J (p f : List Nat) : cp p f ≤ f.length:=by
 rcases Nat.eq_zero_or_pos (cp p f) with h | h
 ·omega
 ·have:=(m_5 (k:=cp p f - 1) (p:=p) (f:=f)).1 (by omega);omega
theorem m_6 {k : Nat} {p f : List Nat} (h : k ≤ cp p f) {j : Nat} (hj : j < k) : p.getD j 0 = f.getD j 0:=(m_5.1 (Nat.lt_of_lt_of_le hj h)).2.2 j (Nat.le_refl _)
theorem j_K {k : Nat} {p f : List Nat} (h : k ≤ cp p f) (hp : k < p.length) (hf : k < f.length) (he : p.getD k 0 = f.getD k 0) : k + 1 ≤ cp p f :=
 m_5.2 ⟨hp,hf,fun j hj => by
  by_cases q : j = k
  ·subst q;exact he
  ·exact m_6 h (by omega)⟩
theorem j_L {k : Nat} {p f : List Nat} (he : p.getD k 0 ≠ f.getD k 0) : cp p f ≤ k:=by
 rcases Nat.lt_or_ge k (cp p f) with h | h
 ·exact absurd ((m_5.1 h).2.2 k (Nat.le_refl _)) he
 ·exact h
theorem m_7 (p : List Nat) : cp p p = p.length:=by
 induction p with
 | nil => rfl
 | cons a x ih => simp [cp,ih]
theorem s_X (d p f : List Nat) : cp (d ++ p) (d ++ f) = d.length + cp p f:=by
 induction d with
 | nil => simp
 | cons a x ih => simp [cp,ih];omega
theorem q_t (a b : Nat) (x y : List Nat) : cp (a :: x) (b :: y) = if a = b then cp x y + 1 else 0:=rfl
theorem q_u (p f : List Nat) (k : Nat) : k ≤ cp p f → cp (p.drop k) (f.drop k) = cp p f - k:=by
 induction k generalizing p f with
 | zero => simp
 | succ k ih =>
  intro h
  match p,f with
  | [],_ => simp [cp] at h
  | a :: x,[] => simp [cp] at h
  | a :: x,b :: y =>
   rw [q_t] at h ⊢
   by_cases q : a = b
   ·rw [if_pos q] at h ⊢
    simp only [List.drop_succ_cons];rw [ih x y (by omega)];omega
   ·rw [if_neg q] at h;omega
theorem m_8 {k : Nat} {p f : List Nat} (h : k ≤ cp p f) : p.take k = f.take k:=by
 have h1:=c_A p f;have h2:=j_J p f;apply List.ext_getElem
 ·simp;omega
 ·intro i h3 h4
  simp only [List.length_take] at h3 h4
  have:=m_6 h (j:=i) (by omega)
  rw [List.getD_eq_getElem?_getD,List.getD_eq_getElem?_getD,List.getElem?_eq_getElem (by omega),List.getElem?_eq_getElem (by omega)] at this;simpa using this
def comF : List (List Nat) → Nat
 | [] => 0
 | f :: r => r.foldl (fun n p => min n (cp p f)) f.length
theorem i_y (f : List Nat) (r : List (List Nat)) (p : List Nat) : comF (f :: r ++ [p]) = min (comF (f :: r)) (cp p f):=by
 simp [comF,List.foldl_append]
theorem j_T (f : List Nat) (r : List (List Nat)) : ∀ n,r.foldl (fun n p => min n (cp p f)) n ≤ n ∧ ∀ p ∈ r,r.foldl (fun n p => min n (cp p f)) n ≤ cp p f:=by
 induction r with
 | nil => intro n;simp
 | cons a x ih =>
  intro n;obtain ⟨h1,h2⟩:=ih (min n (cp a f));simp only [List.foldl_cons];refine ⟨by omega,fun p hp => ?_⟩
  rcases List.mem_cons.1 hp with rfl | hp
  ·omega
  ·exact h2 p hp
theorem j_G {f : List Nat} {r : List (List Nat)} : ∀ p ∈ f :: r,comF (f :: r) ≤ cp p f:=by
 intro p hp
 rcases List.mem_cons.1 hp with rfl | hp
 ·rw [m_7];exact (j_T _ r _).1
 ·exact (j_T f r _).2 p hp
theorem h_K {l : List (List Nat)} : ∀ p ∈ l,comF l ≤ p.length:=by
 intro p hp
 match l,hp with
 | f :: r,hp => exact Nat.le_trans (j_G p hp) (c_A p f)
theorem m_2 {l : List (List Nat)} {p q : List Nat} (hp : p ∈ l) (hq : q ∈ l) : p.take (comF l) = q.take (comF l):=by
 match l,hp,hq with
 | f :: r,hp,hq => rw [m_8 (j_G p hp),m_8 (j_G q hq)]
theorem o_J (d : List Nat) (f : List Nat) (r : List (List Nat)) : comF ((f :: r).map (d ++ ·)) = d.length + comF (f :: r):=by
 unfold comF;simp only [List.map_cons,List.length_append];rw [List.foldl_map]
 generalize f.length = n
 induction r generalizing n with
 | nil => rfl
 | cons a x ih =>
  simp only [List.foldl_cons];rw [s_X,show min (d.length + n) (d.length + cp a f) = d.length + min n (cp a f) from by omega];exact ih _
theorem m_1 (l : List (List Nat)) : comF (l.map (List.drop (comF l))) = 0:=by
 match l with
 | [] => rfl
 | f :: r =>
  have hle:=j_T f r f.length;have key : ∀ (x : List (List Nat)) (k n : Nat),(∀ p ∈ x,k ≤ cp p f) → x.foldl (fun m p => min m (cp (p.drop k) (f.drop k))) (n - k) = x.foldl (fun m p => min m (cp p f)) n - k:=by
   intro x k
   induction x with
   | nil => intro n _;rfl
   | cons a x ih =>
    intro n hx;simp only [List.foldl_cons];rw [q_u a f k (hx a (by simp)),show min (n - k) (cp a f - k) = min n (cp a f) - k from by omega];exact ih _ fun p hp => hx p (by simp [hp])
  show comF (List.map (List.drop (comF (f :: r))) (f :: r)) = 0
  generalize hk : comF (f :: r) = k
  have hk' : r.foldl (fun n p => min n (cp p f)) f.length = k:=hk;rw [hk'] at hle;unfold comF;simp only [List.map_cons,List.length_drop];rw [List.foldl_map,key r k f.length hle.2,hk',Nat.sub_self]
def b_9 (sc : List Rat) (ts : List (List Nat)) (k : Nat) : List (List Nat):=((List.range k).filter fun i => decide (0 < sc.getD i 0)).map fun i => ts.getD i []
theorem d_C (sc : List Rat) (ts : List (List Nat)) (k : Nat) : b_9 sc ts (k + 1) = if 0 < sc.getD k 0 then b_9 sc ts k ++ [ts.getD k []] else b_9 sc ts k:=by
 unfold b_9;rw [List.range_succ,List.filter_append,List.map_append]
 by_cases h : 0 < sc.getD k 0
 ·rw [if_pos h,List.filter_cons_of_pos (by simpa using h)];rfl
 ·rw [if_neg h,List.filter_cons_of_neg (by simpa using h)];simp
theorem i_R {sc : List Rat} {ts : List (List Nat)} {n : Nat} {p : List Nat} : p ∈ b_9 sc ts n ↔ ∃ i,i < n ∧ 0 < sc.getD i 0 ∧ p = ts.getD i []:=by
 unfold b_9;simp only [List.mem_map,List.mem_filter,List.mem_range,decide_eq_true_eq]
 constructor
 ·rintro ⟨i,⟨h1,h2⟩,rfl⟩;exact ⟨i,h1,h2,rfl⟩
 ·rintro ⟨i,h1,h2,rfl⟩;exact ⟨i,⟨h1,h2⟩,rfl⟩
def cmpL : List Nat → List Nat → Int
 | [],[] => 0
 | [],_ :: _ => -1
 | _ :: _,[] => 1
 | a :: x,b :: y => if a < b then -1 else if b < a then 1 else cmpL x y
def cmpS (a b : List Nat) : Int:=if a.length ≠ b.length then (if a.length < b.length then -1 else 1) else cmpL a b
theorem k_J {a b : List Nat} (h : a.length = b.length) : cmpS a b = cmpL a b:=by unfold cmpS;rw [if_neg (by simpa using h)]
theorem o_G (d a b : List Nat) : cmpL (d ++ a) (d ++ b) = cmpL a b:=by
 induction d with
 | nil => rfl
 | cons x r ih => simp [cmpL,ih]
theorem i_w {a b : List Nat} {k : Nat} (ha : k < a.length) (hb : k < b.length) :
  cmpL (a.drop k) (b.drop k) = if a.getD k 0 < b.getD k 0 then -1 else if b.getD k 0 < a.getD k 0 then 1 else cmpL (a.drop (k + 1)) (b.drop (k + 1)):=by
 rw [List.drop_eq_getElem_cons ha,List.drop_eq_getElem_cons hb];rw [List.getD_eq_getElem?_getD,List.getD_eq_getElem?_getD,List.getElem?_eq_getElem ha,List.getElem?_eq_getElem hb];rfl
theorem k_H {a b : List Nat} {k : Nat} (ha : a.length ≤ k) (hb : b.length ≤ k) : cmpL (a.drop k) (b.drop k) = 0:=by
 rw [List.drop_eq_nil_of_le ha,List.drop_eq_nil_of_le hb];rfl
theorem m_U {a b : List Nat} {k : Nat} (ha : a.length ≤ k) (hb : k < b.length) : cmpL (a.drop k) (b.drop k) = -1:=by
 rw [List.drop_eq_nil_of_le ha,List.drop_eq_getElem_cons hb];rfl
theorem m_V {a b : List Nat} {k : Nat} (ha : k < a.length) (hb : b.length ≤ k) : cmpL (a.drop k) (b.drop k) = 1:=by
 rw [List.drop_eq_nil_of_le hb,List.drop_eq_getElem_cons ha];rfl
end Go.Pl
namespace Go.Pq
open Go.Pl Go.Proofs
theorem s_U (a b : List Nat) (ha : a.length ≤ 2 ^ 40) (hb : b.length ≤ 2 ^ 40) : F 41 [.t 28 (intT a),.t 28 (intT b)] (zo 2 2) [.i .i64 (cmpS a b)]:=by
 refine t_h _ _ _ (fun k => k ≤ a.length ∧ cmpL a b = cmpL (a.drop k) (b.drop k)) (fun k => a.length - k) ?_;rw [D_,D_];refine ⟨fun h1 => ?_,fun h1 => ?_⟩
 ·rw [b_h] at h1
  have hne : a.length ≠ b.length:=by omega
  unfold cmpS;rw [if_pos hne];refine ⟨fun h2 => ?_,fun h2 => ?_⟩
  ·rw [d_] at h2
   rw [if_pos (by omega)];exact ⟨trivial,rfl,trivial⟩
  ·rw [l_] at h2
   rw [if_neg (by omega)];exact ⟨trivial,rfl,trivial⟩
 ·rw [c_i] at h1
  have he : a.length = b.length:=by omega
  rw [k_J he];refine ⟨⟨0,⟨Nat.zero_le _,rfl⟩,(by and_intros <;> first | exact trivial | rfl | (rw [c_ (by omega)];rfl))⟩,fun _ => rfl,?_⟩;rintro k ⟨hk,hc⟩;refine ⟨fun h2 => ?_,fun h2 => ?_⟩
  ·rw [d_] at h2
   have hlt : k < a.length:=by omega
   rw [a_p a hlt,a_p b (by omega),a_E,a_E,k_,k_];have hd:=i_w hlt (show k < b.length by omega);refine ⟨⟨by omega,by omega⟩,⟨by omega,by omega⟩,fun h3 => ?_,fun h3 => ?_⟩
   ·rw [d_] at h3
    rw [hc,hd,if_pos (by omega)];exact ⟨trivial,rfl,trivial⟩
   ·rw [l_] at h3
    refine ⟨⟨by omega,by omega⟩,⟨by omega,by omega⟩,fun h4 => ?_,fun h4 => ?_⟩
    ·rw [d_] at h4
     rw [hc,hd,if_neg (by omega),if_pos (by omega)];exact ⟨trivial,rfl,trivial⟩
    ·rw [l_] at h4
     refine ⟨k + 1,⟨hlt,?_⟩,by omega,(by and_intros <;> first | exact trivial | rfl | (rw [c_ (by omega)];rfl))⟩;rw [hc,hd,if_neg (by omega),if_neg (by omega)]
  ·rw [l_] at h2
   rw [hc,k_H (by omega) (by omega)];exact ⟨trivial,rfl,trivial⟩
theorem s_T (a b : Nat) (y : Int) (hy : y = if a < b then -1 else if b < a then 1 else 0) : F 165 [.t 2 (.i .i64 (a : Int)),.t 2 (.i .i64 (b : Int))] (zo 2 2) [.i .i64 y]:=by
 subst hy;have n1 : ∀ x : Nat,F 195 [.t 2 (.i .i64 (x : Int))] (zo 1 4) [.b false]:=fun x => n_j _ _ ⟨trivial,by rw [a_f],trivial⟩
 refine n_i _ _ _ ⟨_,n1 a,_,n1 b,fun q => (by cases q),fun _ => ⟨fun q => (by cases q),fun _ => ⟨fun h => ?_,fun h => ⟨fun h2 => ?_,fun h2 => ?_⟩⟩⟩⟩
 ·rw [k_,k_,d_] at h
  rw [if_pos (by omega)];exact ⟨trivial,rfl,trivial⟩
 ·rw [k_,k_,l_] at h
  rw [k_,k_,d_] at h2;rw [if_neg (by omega),if_pos (by omega)];exact ⟨trivial,rfl,trivial⟩
 ·rw [k_,k_,l_] at h
  rw [k_,k_,l_] at h2;rw [if_neg (by omega),if_neg (by omega)];exact ⟨trivial,rfl,trivial⟩
theorem p_R (a b : List Nat) (ha : a.length ≤ 2 ^ 40) (hb : b.length ≤ 2 ^ 40) : F 167 [.t 28 (intT a),.t 28 (intT b)] (zo 2 2) [.i .i64 (cmpL a b)]:=by
 refine r_s _ _ _ (fun k => k ≤ a.length ∧ cmpL a b = cmpL (a.drop k) (b.drop k) ∧ k ≤ b.length) (fun k => a.length - k) ?_;rw [D_,D_];refine ⟨⟨0,⟨Nat.zero_le _,rfl,Nat.zero_le _⟩,(by and_intros <;> first | exact trivial | rfl | (rw [c_ (by omega)];rfl))⟩,fun _ => rfl,?_⟩;rintro k ⟨hk,hc,hkb⟩;refine ⟨fun h2 => ?_,fun h2 => ?_⟩
 ·rw [d_] at h2
  have hlt : k < a.length:=by omega
  refine ⟨⟨by omega,by omega⟩,fun h3 => ?_,fun h3 => ?_⟩
  ·rw [a_R] at h3
   rw [hc,m_V hlt (by omega)];exact ⟨trivial,rfl,trivial⟩
  ·rw [b_o] at h3
   have hlb : k < b.length:=by omega
   have hd:=i_w hlt hlb;rw [a_p a hlt,a_p b hlb,a_E,a_E];refine ⟨⟨by omega,by omega⟩,_,s_T _ _ _ rfl,fun h4 => ?_,fun h4 => ?_⟩
   ·rw [k_,b_h] at h4
    refine ⟨trivial,?_,trivial⟩;rw [hc,hd];split at h4
    ·rename_i q;rw [if_pos q,if_pos q]
    ·rename_i q
     split at h4
     ·rename_i q2;rw [if_neg q,if_pos q2,if_neg q,if_pos q2]
     ·exact absurd rfl h4
   ·rw [k_,c_i] at h4
    refine ⟨k + 1,⟨hlt,?_,hlb⟩,by omega,(by and_intros <;> first | exact trivial | rfl | (rw [c_ (by omega)];rfl))⟩;rw [hc,hd];split at h4
    ·cases h4
    ·rename_i q
     split at h4
     ·cases h4
     ·rename_i q2;rw [if_neg q,if_neg q2]
 ·rw [l_] at h2
  refine ⟨fun h3 => ?_,fun h3 => ?_⟩
  ·rw [d_] at h3
   rw [hc,m_U (by omega) (by omega)];exact ⟨trivial,rfl,trivial⟩
  ·rw [l_] at h3
   rw [hc,k_H (by omega) (by omega)];exact ⟨trivial,rfl,trivial⟩
theorem h_A (h : Md) (o : On) (i : Nat) (hi : i < o.sc.length) (hl : o.sc.length ≤ 2 ^ 40) (hq : rl (o.sc.getD i 0) ≤ 2 ^ 30) :
  F 69 [.t 60 (onT h o),.t 2 (.i .i64 (i : Int))] (zo 2 4) [.b (decide (0 < o.sc.getD i 0))]:=by
 refine t_D _ _ _ ?_;rw [k_g,z_,k_,a_X _ hi,C_];refine ⟨⟨by omega,by omega⟩,_,e_e _ (by omega),trivial,?_,trivial⟩;rw [k_]
 congr 1
 unfold ltI;exact decide_eq_decide.2 (c_l.trans f_A)
theorem n_D (h : Md) (o : On) (i : Nat) (hi : i < o.sc.length) (hl : o.sc.length ≤ 2 ^ 40) (hq : rl (o.sc.getD i 0) ≤ 2 ^ 30) :
  F 54 [.t 60 (onT h o),.t 2 (.i .i64 (i : Int))] (zo 2 4) [.b (decide (0 < o.sc.getD i 0))]:=by
 refine t_p _ _ _ ?_;rw [k_g,z_,k_,a_X _ hi,C_];refine ⟨⟨by omega,by omega⟩,_,e_E _ (by omega),trivial,?_,trivial⟩;rw [k_]
 congr 1
 unfold ltI;exact decide_eq_decide.2 (c_l.trans f_A)
end Go.Pq
namespace Go.Pl
theorem o_K (p : List Nat) : comF [p] = p.length:=rfl
theorem and3 {a b c : Bool} : ((a && b) && c) = true ↔ a = true ∧ b = true ∧ c = true:=by cases a <;> cases b <;> cases c <;> simp
end Go.Pl
namespace Go.Pq
open Go.Pl Go.Proofs
theorem k_L (h : Md) (o : On) (ts : List (List Nat)) (hl : ts.length ≤ o.sc.length) (hm : o.sc.length ≤ 2 ^ 20) (ht : ∀ p ∈ ts,p.length ≤ 2 ^ 20) (hq : ∀ q ∈ o.sc,rl q ≤ 2 ^ 30) :
  F 71 [.t 60 (onT h o),.t 59 (d_u ts)] (zo 2 2) [.i .i64 ((comF (b_9 o.sc ts ts.length) : Nat) : Int)]:=by
 refine t_F _ _ _
  (fun i => i.2.2 ≤ ts.length ∧ ((b_9 o.sc ts i.2.2 = [] ∧ i.1 = -1 ∧ i.2.1 = .l []) ∨ ∃ f r,b_9 o.sc ts i.2.2 = f :: r ∧ i.1 = ((comF (f :: r) : Nat) : Int) ∧ i.2.1 = intT f ∧ f.length ≤ 2 ^ 20))
  (fun i => ts.length - i.2.2)
  (fun i j => ∃ f r n,i.2.2 < ts.length ∧ j.1 = ((n : Nat) : Int) ∧ j.2.1 = intT f ∧ f.length ≤ 2 ^ 20 ∧ n ≤ f.length ∧ j.2.2 ≤ n ∧ j.2.2 ≤ cp (ts.getD i.2.2 []) f ∧ b_9 o.sc ts (i.2.2 + 1) = f :: r ∧ comF (f :: r) = min n (cp (ts.getD i.2.2 []) f))
  (fun i j => j.1.toNat - j.2.2) ?_
 rw [c_q,b_f];refine ⟨⟨(-1,.l [],0),⟨Nat.zero_le _,.inl ⟨rfl,rfl,rfl⟩⟩,(by and_intros <;> first | exact trivial | rfl | (rw [c_ (by omega)];rfl))⟩,fun _ => rfl,?_⟩;rintro ⟨l,ft,k⟩ ⟨hk,hI⟩;dsimp only at hk hI ⊢;refine ⟨fun h1 => ?_,fun h1 => ?_⟩
 ·rw [d_] at h1
  have hlt : k < ts.length:=by omega
  have hp : (ts.getD k []).length ≤ 2 ^ 20:=ht _ (r_ hlt);rw [b_n ts hlt,b_t,D_];refine ⟨⟨by omega,by omega⟩,_,h_A h o k (by omega) (by omega) (hq _ (r_ (by omega))),fun h2 => ?_,fun h2 => ?_⟩
  ·have h3 : ¬ 0 < o.sc.getD k 0:=by
    show ¬ _
    have : decide (0 < o.sc.getD k 0) = false:=by simpa [T.bool] using h2
    simpa using this
   have e:=d_C o.sc ts k;rw [if_neg h3] at e;refine ⟨(l,ft,k + 1),⟨hlt,?_⟩,by dsimp only;omega,(by and_intros <;> first | exact trivial | rfl | (rw [c_ (by omega)];rfl))⟩;dsimp only;rw [e];exact hI
  ·have h3 : 0 < o.sc.getD k 0:=by
    have : decide (0 < o.sc.getD k 0) = true:=by simpa [T.bool] using h2
    simpa using this
   have e:=d_C o.sc ts k;rw [if_pos h3] at e;refine ⟨fun h4 => ⟨⟨(((ts.getD k []).length : Int),intT (ts.getD k []),0),?_,(by and_intros <;> first | exact trivial | rfl | (rw [c_ (by omega)];rfl))⟩,fun _ => rfl,?_⟩,fun h4 => ⟨⟨(l,ft,0),?_,(by and_intros <;> first | exact trivial | rfl | (rw [c_ (by omega)];rfl))⟩,fun _ => rfl,?_⟩⟩
   ·rw [d_] at h4
    rcases hI with ⟨q1,-,-⟩ | ⟨f,r,-,q2,-⟩
    ·rw [q1] at e
     exact ⟨ts.getD k [],[],(ts.getD k []).length,hlt,rfl,rfl,hp,Nat.le_refl _,Nat.zero_le _,Nat.zero_le _,e,by rw [m_7,o_K];omega⟩
    ·omega
   ·rintro ⟨l',ft',j⟩ ⟨f,r,n,-,hn,hft,hfl,hnf,hjn,hjc,hlv,hcm⟩
    dsimp only at hn hft hjn hjc hlv hcm ⊢;subst hn hft;rw [a_3,a_3,D_];have g1 : (ltI (j : Int) (n : Int) && ltI (j : Int) ((ts.getD k []).length : Int)) = true → j < n ∧ j < (ts.getD k []).length:=by
     intro q;rw [Bool.and_eq_true,d_,d_] at q;omega
    refine ⟨fun q => ?_,fun q => ?_,fun q => ?_,fun q => ?_⟩
    ·have:=g1 q.1;exact ⟨by omega,by omega⟩
    ·have:=g1 q.1;exact ⟨by omega,by omega⟩
    ·have q' := and3.1 q
     obtain ⟨a1,a2⟩:=g1 (by rw [q'.1,q'.2.1];rfl);have q3:=q'.2.2;rw [a_p _ a2,a_p _ (by omega),a_E,a_E,k_,k_,M_] at q3;refine ⟨(n,intT f,j + 1),⟨f,r,n,hlt,rfl,rfl,hfl,hnf,a1,j_K hjc a2 (by omega) (by omega),hlv,hcm⟩,by dsimp only;omega,(by and_intros <;> first | exact trivial | rfl | (rw [c_ (by omega)];rfl))⟩
    ·have hj : min n (cp (ts.getD k []) f) = j:=by
      by_cases b1 : j < n
      ·by_cases b2 : j < (ts.getD k []).length
       ·have b3 : (ts.getD k []).getD j 0 ≠ f.getD j 0:=by
         intro b3;rw [a_p _ b2,a_p _ (by omega),a_E,a_E,k_,k_,b3,c_N,d_.2 (by omega),d_.2 (by omega)] at q;cases q
        have:=j_L b3
        omega
       ·have:=c_A (ts.getD k []) f
        omega
      ·omega
     refine ⟨((j : Int),intT f,k + 1),⟨hlt,.inr ⟨f,r,hlv,?_,rfl,hfl⟩⟩,by dsimp only;omega,(by and_intros <;> first | exact trivial | rfl | (rw [c_ (by omega)];rfl))⟩;dsimp only;rw [hcm,hj]
   ·rw [l_] at h4
    rcases hI with ⟨-,q1,-⟩ | ⟨f,r,q1,q2,q3,q4⟩
    ·omega
    ·rw [q1] at e
     exact ⟨f,r ++ [ts.getD k []],comF (f :: r),hlt,q2,q3,q4,h_K f (by simp),Nat.zero_le _,Nat.zero_le _,e,i_y f r _⟩
   ·rintro ⟨l',ft',j⟩ ⟨f,r,n,-,hn,hft,hfl,hnf,hjn,hjc,hlv,hcm⟩
    dsimp only at hn hft hjn hjc hlv hcm ⊢;subst hn hft;rw [a_3,a_3,D_];have g1 : (ltI (j : Int) (n : Int) && ltI (j : Int) ((ts.getD k []).length : Int)) = true → j < n ∧ j < (ts.getD k []).length:=by
     intro q;rw [Bool.and_eq_true,d_,d_] at q;omega
    refine ⟨fun q => ?_,fun q => ?_,fun q => ?_,fun q => ?_⟩
    ·have:=g1 q.1;exact ⟨by omega,by omega⟩
    ·have:=g1 q.1;exact ⟨by omega,by omega⟩
    ·have q' := and3.1 q
     obtain ⟨a1,a2⟩:=g1 (by rw [q'.1,q'.2.1];rfl);have q3:=q'.2.2;rw [a_p _ a2,a_p _ (by omega),a_E,a_E,k_,k_,M_] at q3;refine ⟨(n,intT f,j + 1),⟨f,r,n,hlt,rfl,rfl,hfl,hnf,a1,j_K hjc a2 (by omega) (by omega),hlv,hcm⟩,by dsimp only;omega,(by and_intros <;> first | exact trivial | rfl | (rw [c_ (by omega)];rfl))⟩
    ·have hj : min n (cp (ts.getD k []) f) = j:=by
      by_cases b1 : j < n
      ·by_cases b2 : j < (ts.getD k []).length
       ·have b3 : (ts.getD k []).getD j 0 ≠ f.getD j 0:=by
         intro b3;rw [a_p _ b2,a_p _ (by omega),a_E,a_E,k_,k_,b3,c_N,d_.2 (by omega),d_.2 (by omega)] at q;cases q
        have:=j_L b3
        omega
       ·have:=c_A (ts.getD k []) f
        omega
      ·omega
     refine ⟨((j : Int),intT f,k + 1),⟨hlt,.inr ⟨f,r,hlv,?_,rfl,hfl⟩⟩,by dsimp only;omega,(by and_intros <;> first | exact trivial | rfl | (rw [c_ (by omega)];rfl))⟩;dsimp only;rw [hcm,hj]
 ·rw [l_] at h1
  have : k = ts.length:=by omega
  subst this;refine ⟨trivial,?_,trivial⟩
  rcases hI with ⟨q1,q2,-⟩ | ⟨f,r,q1,q2,-⟩
  ·rw [q1,q2];rfl
  ·rw [q1,q2]
   congr 1
theorem i_z (h : Md) (o : On) (ts : List (List Nat)) (hl : ts.length ≤ o.sc.length) (hm : o.sc.length ≤ 2 ^ 20) (ht : ∀ p ∈ ts,p.length ≤ 2 ^ 20) (hq : ∀ q ∈ o.sc,rl q ≤ 2 ^ 30) :
  F 53 [.t 60 (onT h o),.t 59 (d_u ts)] (zo 2 2) [.i .i64 (if b_9 o.sc ts ts.length = [] then -1 else ((comF (b_9 o.sc ts ts.length) : Nat) : Int))]:=by
 refine t_o _ _ _
  (fun i => i.2.2.2 ≤ ts.length ∧ ((b_9 o.sc ts i.2.2.2 = [] ∧ i.2.1 = -1 ∧ i.2.2.1 = -1) ∨ ∃ f r m,b_9 o.sc ts i.2.2.2 = f :: r ∧ i.2.1 = ((comF (f :: r) : Nat) : Int) ∧ i.2.2.1 = ((m : Nat) : Int) ∧ m < ts.length ∧ ts.getD m [] = f))
  (fun i => ts.length - i.2.2.2)
  (fun i j => j ≤ i.2.1.toNat ∧ j ≤ cp (ts.getD i.2.2.2 []) (ts.getD i.2.2.1.toNat []))
  (fun i j => i.2.1.toNat - j) ?_
 rw [c_q,b_f];refine ⟨⟨(0,-1,-1,0),⟨Nat.zero_le _,.inl ⟨rfl,rfl,rfl⟩⟩,(by and_intros <;> first | exact trivial | rfl | (rw [c_ (by omega)];rfl))⟩,fun _ => rfl,?_⟩;rintro ⟨kv,l,fi,k⟩ ⟨hk,hI⟩;dsimp only at hk hI ⊢;refine ⟨fun h1 => ?_,fun h1 => ?_⟩
 ·rw [d_] at h1
  have hlt : k < ts.length:=by omega
  have hp : (ts.getD k []).length ≤ 2 ^ 20:=ht _ (r_ hlt);rw [b_n ts hlt,b_t,D_];refine ⟨_,n_D h o k (by omega) (by omega) (hq _ (r_ (by omega))),fun h2 => ?_,fun h2 => ?_⟩
  ·have h3 : ¬ 0 < o.sc.getD k 0:=by
    have : decide (0 < o.sc.getD k 0) = false:=by simpa [T.bool] using h2
    simpa using this
   have e:=d_C o.sc ts k;rw [if_neg h3] at e;refine ⟨(kv,l,fi,k + 1),⟨hlt,?_⟩,by dsimp only;omega,(by and_intros <;> first | exact trivial | rfl | (rw [c_ (by omega)];rfl))⟩;dsimp only;rw [e];exact hI
  ·have h3 : 0 < o.sc.getD k 0:=by
    have : decide (0 < o.sc.getD k 0) = true:=by simpa [T.bool] using h2
    simpa using this
   have e:=d_C o.sc ts k;rw [if_pos h3] at e;refine ⟨fun h4 => ⟨⟨by omega,by omega⟩,?_⟩,fun h4 => ?_⟩
   ·rw [d_] at h4
    rcases hI with ⟨q1,-,-⟩ | ⟨f,r,m,-,-,q2,-⟩
    ·rw [q1] at e
     refine ⟨(kv,((ts.getD k []).length : Int),(k : Int),k + 1),⟨hlt,.inr ⟨ts.getD k [],[],k,e,rfl,rfl,hlt,rfl⟩⟩,by dsimp only;omega,(by and_intros <;> first | exact trivial | rfl | (rw [c_ (by omega)];rfl))⟩
    ·omega
   ·rw [l_] at h4
    rcases hI with ⟨-,-,q1⟩ | ⟨f,r,m,q1,q2,q3,q4,q5⟩
    ·omega
    rw [q1] at e;have hnf : comF (f :: r) ≤ f.length:=h_K f (by simp);have hfl : f.length ≤ 2 ^ 20:=by rw [← q5];exact ht _ (r_ q4)
    have hcm:=i_y f r (ts.getD k [])
    generalize hn : comF (f :: r) = n at *
    subst q2 q3;refine ⟨⟨0,⟨Nat.zero_le _,Nat.zero_le _⟩,(by and_intros <;> first | exact trivial | rfl | (rw [c_ (by omega)];rfl))⟩,fun _ => rfl,?_⟩;rintro j ⟨hjn,hjc⟩
    skip
    rw [Int.toNat_natCast] at hjn;rw [Int.toNat_natCast,q5] at hjc;rw [b_n ts q4,b_t,q5,D_,a_3,a_3];have g1 : (ltI (j : Int) (n : Int) && ltI (j : Int) ((ts.getD k []).length : Int)) = true → j < n ∧ j < (ts.getD k []).length:=by
     intro q;rw [Bool.and_eq_true,d_,d_] at q;omega
    refine ⟨fun q => ⟨by omega,by omega⟩,fun q => ⟨by omega,by omega⟩,fun q => ?_,fun q => ⟨by omega,by omega⟩,fun q => ?_,fun q => ?_,fun q => ?_⟩
    ·have:=g1 q.1;exact ⟨by omega,by omega⟩
    ·have:=g1 q.1;exact ⟨by omega,by omega⟩
    ·have q' := and3.1 q
     obtain ⟨a1,a2⟩:=g1 (by rw [q'.1,q'.2.1];rfl);have q3:=q'.2.2;rw [a_p _ a2,a_p _ (by omega),a_E,a_E,k_,k_,M_] at q3;refine ⟨j + 1,⟨by rw [Int.toNat_natCast];omega,by rw [Int.toNat_natCast,q5];exact j_K hjc a2 (by omega) (by omega)⟩,by rw [Int.toNat_natCast];omega,(by and_intros <;> first | exact trivial | rfl | (rw [c_ (by omega)];rfl))⟩
    ·have hj : min n (cp (ts.getD k []) f) = j:=by
      by_cases b1 : j < n
      ·by_cases b2 : j < (ts.getD k []).length
       ·have b3 : (ts.getD k []).getD j 0 ≠ f.getD j 0:=by
         intro b3;rw [a_p _ b2,a_p _ (by omega),a_E,a_E,k_,k_,b3,c_N,d_.2 (by omega),d_.2 (by omega)] at q;cases q
        have:=j_L b3
        omega
       ·have:=c_A (ts.getD k []) f
        omega
      ·omega
     refine ⟨(kv,(j : Int),(m : Int),k + 1),⟨hlt,.inr ⟨f,r ++ [ts.getD k []],m,e,?_,rfl,q4,q5⟩⟩,by dsimp only;omega,(by and_intros <;> first | exact trivial | rfl | (rw [c_ (by omega)];rfl))⟩;dsimp only;rw [← List.cons_append,hcm,hj]
 ·rw [l_] at h1
  have : k = ts.length:=by omega
  subst this;refine ⟨trivial,?_,trivial⟩
  rcases hI with ⟨q1,q2,-⟩ | ⟨f,r,m,q1,q2,-⟩
  ·rw [if_pos q1,q2]
  ·rw [q1,q2,if_neg (by simp)]
end Go.Pq
namespace Go.Pl
structure OnOk (h : Md) (c : Nat) (o : On) : Prop where
 time : o.time ≤ 256
 zero : o.time = 0 → o.sc = [] ∧ o.tails = [] ∧ o.done = []
 lens : 0 < o.time → o.sc.length = h.st ∧ o.tails.length = h.st
 rls : ∀ x ∈ o.sc,rl x ≤ 2 * o.time * c
 share : ∀ x ∈ o.sc,Share x
 dst : ∀ s ∈ o.done,s < h.st
 tst : ∀ l ∈ o.tails,∀ s ∈ l,s < h.st
 tlen : ∀ l ∈ o.tails,l.length ≤ 256
 dlen : o.done.length ≤ 256
 dead : ∀ i,i < h.st → ¬ 0 < o.sc.getD i 0 → o.tails.getD i [] = []
 live : ∀ i,i < h.st → 0 < o.sc.getD i 0 → o.done.length + (o.tails.getD i []).length = o.time ∧ (o.done ++ o.tails.getD i []).getD (o.time - 1) 0 = i
 some : 0 < o.time → ∃ i,i < h.st ∧ 0 < o.sc.getD i 0
 comm : 0 < o.time → comF (b_9 o.sc o.tails h.st) = 0
theorem OnOk.rl30 {h : Md} {c : Nat} {o : On} (H : OnOk h c o) (hk : MdOk h c) : ∀ x ∈ o.sc,rl x ≤ 2 ^ 19:=by
 intro x hx;have h1:=H.rls x hx;have h2:=H.time;have h3:=hk.cc;have : 2 * o.time * c ≤ 2 * 256 * 2 ^ 10:=Nat.mul_le_mul (by omega) h3.2;omega
theorem a_9 (a b : List Nat) : intL a ++ intL b = intL (a ++ b):=by simp [intL]
theorem b_7 (a : List Nat) (n : Nat) : (intL a).take n = intL (a.take n):=by simp [intL]
theorem e_p (a : List Nat) (n : Nat) : (intL a).drop n = intL (a.drop n):=by simp [intL]
end Go.Pl
namespace Go.Pq
open Go.Pl Go.Proofs
theorem m_3 (m : List (List Nat)) (hm : m.length ≤ 2 ^ 20) (hf : m.flatten.length ≤ 2 ^ 20) : F 118 [.t 59 (d_u m)] (zo 1 28) [intT m.flatten]:=by
 refine q_R _ _ (fun i => i.1 = (m.take i.2).flatten.length ∧ i.2 ≤ m.length) (fun i => m.length - i.2) (fun i => i.1 = intL (m.take i.2.2).flatten ∧ i.2.2 ≤ m.length) (fun i => m.length - i.2.2) ?_;rw [b_f];refine ⟨⟨(0,0),⟨rfl,Nat.zero_le _⟩,(by and_intros <;> first | exact trivial | rfl | (rw [c_ (by omega)];rfl))⟩,fun _ => rfl,?_⟩;rintro ⟨s,k⟩ ⟨hs,hk⟩;dsimp only at hs hk ⊢;have hle:=e_5 m k;refine ⟨fun h1 => ?_,fun h1 => ?_⟩
 ·rw [d_] at h1
  have hlt : k < m.length:=by omega
  have hle2:=e_5 m (k + 1);rw [b_J m hlt,List.length_append] at hle2;rw [b_n m hlt,b_t,D_,c_ (by omega)];refine ⟨⟨by omega,by omega⟩,fun q => (by rw [d_] at q;omega),fun _ => ⟨(s + (m.getD k []).length,k + 1),⟨by dsimp only;rw [b_J m hlt,List.length_append,hs],hlt⟩,by dsimp only;omega,by and_intros <;> first | exact trivial | rfl | (rw [c_ (by omega)];rfl)⟩⟩
 ·refine ⟨_,r_W s (by omega),⟨([],s,0),⟨rfl,Nat.zero_le _⟩,(by and_intros <;> first | exact trivial | rfl | (rw [c_ (by omega)];rfl))⟩,fun _ => rfl,?_⟩
  rintro ⟨g,s2,j⟩ ⟨hg,hj⟩;dsimp only at hg hj ⊢;subst hg;refine ⟨fun h2 => ?_,fun h2 => ?_⟩
  ·rw [d_] at h2
   have hlt : j < m.length:=by omega
   have hle2:=e_5 m (j + 1);rw [b_J m hlt,List.length_append] at hle2;rw [b_n m hlt,b_t,a_c,q_,T_,T_];have hr : room = 140737488355328:=rfl;refine ⟨⟨by omega,by omega⟩,⟨by rw [hr];omega,by omega⟩,(intL (m.take (j + 1)).flatten,s2,j + 1),⟨rfl,hlt⟩,by dsimp only;omega,?_⟩;rw [b_J m hlt,← a_9];exact (by and_intros <;> first | exact trivial | rfl | (rw [c_ (by omega)];rfl))
  ·rw [l_] at h2
   have : j = m.length:=by omega
   subst this;rw [List.take_length,List.drop_zero,q_];exact ⟨trivial,rfl,trivial⟩
theorem g_d (a b : List Nat) (ha : a.length ≤ 2 ^ 18) (hb : b.length ≤ 2 ^ 18) : F 118 [.t 59 (.l [intT a,intT b])] (zo 1 28) [intT (a ++ b)]:=by
 have:=m_3 [a,b] (by simp) (by simp;omega)
 have e : [a,b].flatten = a ++ b:=by simp
 rw [e] at this;exact this
theorem n_S (h : Md) (o : On) (l : List Nat) (hl : l.length ≤ 2 ^ 40) (hs : ∀ s ∈ l,s < h.st) : F 119 [.t 28 (intT l),.t 1 (.f 120 [.e 60 (onT h o)])] (zo 2 4) [.b false]:=by
 have c1 : F 158 [.t 28 (intT l),.t 1 (.f 120 [.e 60 (onT h o)])] (zo 2 2) [.i .i64 (-1)]:=by
  refine r_k _ _ _ (fun k => k ≤ l.length) (fun k => l.length - k) ?_;rw [D_];refine ⟨⟨0,Nat.zero_le _,(by and_intros <;> first | exact trivial | rfl | (rw [c_ (by omega)];rfl))⟩,fun _ => rfl,?_⟩;intro k hk;refine ⟨fun h1 => ?_,fun h1 => ⟨trivial,rfl,trivial⟩⟩;rw [d_] at h1;have hlt : k < l.length:=by omega
  have hsk:=hs _ (r_ (d:=0) hlt);rw [a_p l hlt,a_E];refine ⟨⟨by omega,by omega⟩,.b false,⟨rfl,q_T _ _ _ ⟨trivial,?_,trivial⟩⟩,fun q => (by cases q),fun _ => ⟨k + 1,hlt,by omega,(by and_intros <;> first | exact trivial | rfl | (rw [c_ (by omega)];rfl))⟩⟩;rw [p_a,k_,l_.2 (by omega),b_o.2 (by omega)];rfl
 exact q_S _ _ _ ⟨_,c1,trivial,rfl,trivial⟩
theorem n_o {h : Md} {c : Nat} {o : On} (H : OnOk h c o) {i : Nat} (hi : i < h.st) (hz : 0 < o.time) (ha : 0 < o.sc.getD i 0) : F 70 [.t 60 (onT h o),.t 2 (.i .i64 (i : Int))] (zo 2 4) [.b true]:=by
 obtain ⟨h1,h2⟩:=H.live i hi ha;have h3:=H.time;have h4:=(H.lens hz).2;have hlt : i < o.tails.length:=by omega
 refine t_E _ _ _ ?_;rw [d_F,b_f,k_,b_n _ hlt,b_t,e_a,c_r];have c1:=g_d o.done (o.tails.getD i []) (by omega) (by omega);have hlen : (o.done ++ o.tails.getD i []).length = o.time:=by rw [List.length_append];omega
 refine ⟨⟨by omega,by omega⟩,_,c1,?_⟩;rw [D_,hlen,c_N,Y_ (by omega),show ((o.time : Int) - 1) = ((o.time - 1 : Nat) : Int) from by omega,a_p _ (by omega),a_E,k_,h2,c_N];refine ⟨fun _ => ⟨by omega,by omega⟩,.b false,fun _ => n_S h o _ (by omega) fun s hs => ?_,trivial,rfl,trivial⟩
 rcases List.mem_append.1 hs with q | q
 ·exact H.dst s q
 ·exact H.tst _ (r_ hlt) s q
theorem f_U {h : Md} {c : Nat} {o : On} (hk : MdOk h c) (H : OnOk h c o) : F 34 [.t 60 (onT h o)] (zo 1 4) [.b true]:=by
 have ht:=H.time;have hst:=hk.st;have hr:=H.rl30 hk;refine t_f _ _ (fun i => i.2 ≤ h.st ∧ (i.1 = true ∨ ∀ j,j < i.2 → ¬ 0 < o.sc.getD j 0)) (fun i => h.st - i.2) ?_;rw [k_4,c_q,c_r,k_g,d_F,e_a,z_,b_f,D_,p_a];refine ⟨_,h_3 h c hk,fun q => ?_,fun _ => ⟨fun h0 => ?_,fun h0 => ?_⟩⟩
 ·exfalso
  rw [l_.2 (by omega),l_.2 (by omega)] at q;cases q
 ·rw [M_] at h0
  obtain ⟨z1,z2,z3⟩:=H.zero (by omega);rw [z1,z2,z3];exact ⟨trivial,rfl,trivial⟩
 ·rw [a_D] at h0
  have hz : 0 < o.time:=by omega
  obtain ⟨l1,l2⟩:=H.lens hz;rw [l1,l2,a_f];refine ⟨fun q => (by cases q),fun _ => ⟨⟨(false,0),⟨Nat.zero_le _,.inr fun j hj => by omega⟩,(by and_intros <;> first | exact trivial | rfl | (rw [c_ (by omega)];rfl))⟩,fun _ => rfl,?_⟩⟩;rintro ⟨s,k⟩ ⟨hkk,hs⟩;dsimp only at hkk hs ⊢;refine ⟨fun h1 => ?_,fun h1 => ?_⟩
  ·rw [d_] at h1
   have hlt : k < h.st:=by omega
   have hm:=r_ (d:=(0 : Rat)) (show k < o.sc.length by omega);have hrk:=hr _ hm;rw [a_X _ (show k < o.sc.length by omega),b_n _ (show k < o.tails.length by omega),b_t,D_];refine ⟨⟨by omega,by omega⟩,_,s_v _ (by omega) (H.share _ hm),fun q => (by cases q),fun _ => ⟨_,h_A h o k (by omega) (by omega) (by omega),fun q => ?_,fun q => ?_⟩⟩
   ·have h3 : 0 < o.sc.getD k 0:=by
     have : decide (0 < o.sc.getD k 0) = true:=q;simpa using this
    exact ⟨_,n_o H hlt hz h3,fun q => (by cases q),fun _ => ⟨(true,k + 1),⟨hlt,.inl rfl⟩,by dsimp only;omega,(by and_intros <;> first | exact trivial | rfl | (rw [c_ (by omega)];rfl))⟩⟩
   ·have h3 : ¬ 0 < o.sc.getD k 0:=by
     have : decide (0 < o.sc.getD k 0) = false:=q;simpa using this
    rw [H.dead k hlt h3];refine ⟨⟨by omega,by omega⟩,fun q => (by cases q),fun _ => ⟨(s,k + 1),⟨hlt,?_⟩,by dsimp only;omega,(by and_intros <;> first | exact trivial | rfl | (rw [c_ (by omega)];rfl))⟩⟩
    rcases hs with hs | hs
    ·exact .inl hs
    ·refine .inr fun j hj => ?_
     dsimp only at hj
     by_cases e : j = k
     ·subst e;exact h3
     ·exact hs j (by omega)
  ·rw [l_] at h1
   have hke : k = h.st:=by omega
   obtain ⟨j,hj,hja⟩:=H.some hz;have hs' : s = true:=by
    rcases hs with hs | hs
    ·exact hs
    ·exact absurd hja (hs j (by omega))
   subst hs';have c1:=k_L h o o.tails (by omega) (by omega) (fun p hp => by have:=H.tlen p hp;omega) (fun q hq => by have:=hr q hq;omega);rw [l2,H.comm hz] at c1;exact ⟨_,fun _ => c1,trivial,rfl,trivial⟩
theorem n_t (l : List Nat) (n : Nat) (hl : l.length ≤ 2 ^ 40) (hs : ∀ s ∈ l,s < n) : F 64 [.t 28 (intT l),.t 2 (.i .i64 (n : Int))] (zo 2 4) [.b true]:=by
 refine t_y _ _ _ (fun k => k ≤ l.length) (fun k => l.length - k) ?_;rw [D_];refine ⟨⟨0,Nat.zero_le _,(by and_intros <;> first | exact trivial | rfl | (rw [c_ (by omega)];rfl))⟩,fun _ => rfl,?_⟩;intro k hk;refine ⟨fun h1 => ?_,fun h1 => ⟨trivial,rfl,trivial⟩⟩;rw [d_] at h1;have hlt : k < l.length:=by omega
 have hsk:=hs _ (r_ (d:=0) hlt);rw [a_p l hlt,a_E,k_,k_,l_.2 (by omega),b_o.2 (by omega)];exact ⟨⟨by omega,by omega⟩,fun _ => ⟨by omega,by omega⟩,fun q => (by cases q),fun _ => ⟨k + 1,hlt,by omega,(by and_intros <;> first | exact trivial | rfl | (rw [c_ (by omega)];rfl))⟩⟩
theorem j_r {h : Md} {c : Nat} {o : On} (hk : MdOk h c) (H : OnOk h c o) : F 32 [.t 60 (onT h o)] (zo 1 4) [.b true]:=by
 have ht:=H.time;have hst:=hk.st;have hr:=H.rl30 hk;have hdl:=H.dlen;have hroom : room = 140737488355328:=rfl;refine t_d _ _ (fun i => i.2 ≤ h.st ∧ (i.1 = true ∨ ∀ j,j < i.2 → ¬ 0 < o.sc.getD j 0)) (fun i => h.st - i.2) ?_;rw [k_4,c_q,c_r,k_g,d_F,e_a,z_,b_f,D_,p_a];refine ⟨_,l_a h c hk,fun q => ?_,fun _ => ⟨fun h0 => ?_,fun h0 => ?_⟩⟩
 ·exfalso
  rw [l_.2 (by omega),l_.2 (by omega)] at q;cases q
 ·rw [M_] at h0
  obtain ⟨z1,z2,z3⟩:=H.zero (by omega);rw [z1,z2,z3];exact ⟨trivial,rfl,trivial⟩
 ·rw [a_D] at h0
  have hz : 0 < o.time:=by omega
  obtain ⟨l1,l2⟩:=H.lens hz;rw [l1,l2,a_f];refine ⟨_,fun _ => n_t o.done h.st (by omega) H.dst,fun q => (by cases q),fun _ => ⟨⟨(false,0),⟨Nat.zero_le _,.inr fun j hj => by omega⟩,(by and_intros <;> first | exact trivial | rfl | (rw [c_ (by omega)];rfl))⟩,fun _ => rfl,?_⟩⟩;rintro ⟨s,k⟩ ⟨hkk,hs⟩;dsimp only at hkk hs ⊢;refine ⟨fun h1 => ?_,fun h1 => ?_⟩
  ·rw [d_] at h1
   have hlt : k < h.st:=by omega
   have hm:=r_ (d:=(0 : Rat)) (show k < o.sc.length by omega);have hmt:=r_ (d:=([] : List Nat)) (show k < o.tails.length by omega);have hrk:=hr _ hm;have htl:=H.tlen _ hmt;rw [a_X _ (show k < o.sc.length by omega),b_n _ (show k < o.tails.length by omega),b_t,D_,C_];refine ⟨⟨by omega,by omega⟩,_,g_a _ (by omega) (H.share _ hm),fun _ => ⟨by omega,by omega⟩,_,fun _ => n_t _ h.st (by omega) (H.tst _ hmt),fun q => (by cases q),fun _ => ⟨_,n_D h o k (by omega) (by omega) (by omega),fun q => ?_,fun q => ?_⟩⟩
   ·have h3 : ¬ 0 < o.sc.getD k 0:=by
     have : (!decide (0 < o.sc.getD k 0)) = true:=q;simpa using this
    rw [H.dead k hlt h3];refine ⟨⟨by omega,by omega⟩,fun q => (by cases q),fun _ => ⟨(s,k + 1),⟨hlt,?_⟩,by dsimp only;omega,(by and_intros <;> first | exact trivial | rfl | (rw [c_ (by omega)];rfl))⟩⟩
    rcases hs with hs | hs
    ·exact .inl hs
    ·refine .inr fun j hj => ?_
     dsimp only at hj
     by_cases e : j = k
     ·subst e;exact h3
     ·exact hs j (by omega)
   ·have h3 : 0 < o.sc.getD k 0:=by
     have : (!decide (0 < o.sc.getD k 0)) = false:=q;simpa using this
    obtain ⟨e1,e2⟩:=H.live k hlt h3;have hw : List.replicate 0 (T.i .i64 0) ++ (intT o.done).list ++ (intT (o.tails.getD k [])).list = (intT (o.done ++ o.tails.getD k [])).list:=by
     rw [List.replicate_zero,List.nil_append,a_c,a_c,a_9];rfl
    have hwl : (o.done ++ o.tails.getD k []).length = o.time:=by rw [List.length_append];omega
    rw [hw,D_,hwl,a_f,Y_ (by omega),show ((o.time : Int) - 1) = ((o.time - 1 : Nat) : Int) from by omega,a_p _ (by omega),a_E,k_,e2,a_f];simp only [List.replicate_zero,List.nil_append,a_c,T_];exact ⟨⟨by omega,by omega⟩,⟨by omega,by omega⟩,⟨by omega,by omega⟩,fun _ => ⟨by omega,by omega⟩,fun q => (by cases q),fun _ => ⟨(true,k + 1),⟨hlt,.inl rfl⟩,by dsimp only;omega,(by and_intros <;> first | exact trivial | rfl | (rw [c_ (by omega)];rfl))⟩⟩
  ·rw [l_] at h1
   have hke : k = h.st:=by omega
   obtain ⟨j,hj,hja⟩:=H.some hz;have hs' : s = true:=by
    rcases hs with hs | hs
    ·exact hs
    ·exact absurd hja (hs j (by omega))
   subst hs';have c1:=i_z h o o.tails (by omega) (by omega) (fun p hp => by have:=H.tlen p hp;omega) (fun q hq => by have:=hr q hq;omega);have hne : b_9 o.sc o.tails h.st ≠ []:=by
    intro e;have : o.tails.getD j [] ∈ b_9 o.sc o.tails h.st:=i_R.2 ⟨j,hj,hja,rfl⟩;rw [e] at this;cases this
   rw [l2,if_neg hne,H.comm hz] at c1;exact ⟨_,fun _ => c1,trivial,rfl,trivial⟩
end Go.Pq
