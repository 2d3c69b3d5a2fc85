/- Part 11 of 11. What a session has committed at any time is the beginning of what it commits later, and of the path at its end (SessionsCommit), for every input; no condition. Names are shortened and spaces left out by program, for the size. -/
import Derived.Test.YtjhgombngbgjbaaGreatDoorQ10
import Derived.WalkKit
import Derived.Lib.Walk
import Derived.Test.YtjhgombngbgjbaaGreatDoorCards
import Derived.Test.YtjhgombngbgjbaaGreatDoorTie
set_option linter.unusedVariables false
set_option linter.unusedSimpArgs false
set_option linter.unusedSectionVars false
set_option linter.constructorNameAsVariable false
set_option maxRecDepth 100000
namespace Go.Pq
open Go.Pl Go.Proofs
def C29a : Ctx:=⟨tab,sigs,48,[0,1,2,3,4,5,6,7,8,9,10,13],[cell 13 11,⟨4,58,95⟩,⟨5,58,0⟩],[(57,⟨[true],[],[]⟩),(95,⟨[],[(0,[false,false,false,false,false,false,false,false,false,false,false,true,false])],[]⟩),(96,⟨[],[(0,[false,false,false,false,false,false,false,false,false,false,false,true,false])],[]⟩),(97,⟨[],[(0,[false,false,false,false,false,false,false,false,false,false,false,true,false])],[]⟩),(98,⟨[],[(0,[false,false,false,false,false,false,false,false,false,false,false,true,false])],[]⟩),(99,⟨[],[(0,[false,false,false,false,false,false,false,false,false,false,false,true,false])],[]⟩)],[],[],[]⟩
theorem r_O (a0 : T) (a1 : T) (y0 : T) (y1 : T) (h : ∃ y : T,F 57 [.t 31 (a0.cell 11)] (zw 1 31) [y] ∧ f_E Tryz.prog 58 (a1.cell 0).int (some 95) ∧ ((!true) = true → True ∧ (G13 a0) = y0 ∧ T.g [kI 1,kI 0,T.l [],T.l [],T.l [],T.b false,T.l [],T.l []] = y1 ∧ True) ∧ ((!true) = false → ∃ y_1 y_2 y_3 y_4 y_5 y_6 y_7 y_8 y_9 y_10 y_11 y_12 y_13 y_14 y_15 : T,F 95 [.box 111 13 [.t 2 (a0.cell 0),.t 2 (a0.cell 1),.t 4 (a0.cell 2),.t 22 (a0.cell 3),.t 22 (a0.cell 4),.t 25 (a0.cell 5),.t 26 (a0.cell 6),.t 25 (a0.cell 7),.t 26 (a0.cell 8),.t 27 (a0.cell 9),.t 28 (a0.cell 10),.own 31 0 y.list,.t 2 (a0.cell 12)],.t 35 (G5 a1)] Z13 [y_1,y_2,y_3,y_4,y_5,y_6,y_7,y_8,y_9,y_10,y_11,y_12,y_13,y_14,y_15] ∧ (neI y_2.int 0 = true → True ∧ (G13 a0) = y0 ∧ T.g [y_2.cell 0,kI 0,T.l [],T.l [],T.l [],T.b false,T.l [],T.l []] = y1 ∧ True) ∧ (neI y_2.int 0 = false → True ∧ T.g [y_3,y_4,y_5,y_6,y_7,y_8,y_9,y_10,y_11,y_12,y_13,T.l y_14.list,y_15] = y0 ∧ (G8 y_1) = y1 ∧ True))) : F 29 [.t 32 a0,.t 35 a1] Z10 [y0,y1] :=
 F_nf C29a (by kernel_rfl) Tryz.func29 (by kernel_rfl) .no (by kernel_rfl) h
def C29b : Ctx:=⟨tab,sigs,48,[0,1,2,3,4,5,6,7,8,9,10,13],[cell 13 11,⟨4,58,96⟩,⟨5,58,0⟩],[(57,⟨[true],[],[]⟩),(95,⟨[],[(0,[false,false,false,false,false,false,false,false,false,false,false,true,false])],[]⟩),(96,⟨[],[(0,[false,false,false,false,false,false,false,false,false,false,false,true,false])],[]⟩),(97,⟨[],[(0,[false,false,false,false,false,false,false,false,false,false,false,true,false])],[]⟩),(98,⟨[],[(0,[false,false,false,false,false,false,false,false,false,false,false,true,false])],[]⟩),(99,⟨[],[(0,[false,false,false,false,false,false,false,false,false,false,false,true,false])],[]⟩)],[],[],[]⟩
theorem r_P (a0 : T) (a1 : T) (y0 : T) (y1 : T) (h : ∃ y : T,F 57 [.t 31 (a0.cell 11)] (zw 1 31) [y] ∧ f_E Tryz.prog 58 (a1.cell 0).int (some 96) ∧ ((!true) = true → True ∧ (G13 a0) = y0 ∧ T.g [kI 1,kI 0,T.l [],T.l [],T.l [],T.b false,T.l [],T.l []] = y1 ∧ True) ∧ ((!true) = false → ∃ y_1 y_2 y_3 y_4 y_5 y_6 y_7 y_8 y_9 y_10 y_11 y_12 y_13 y_14 y_15 : T,F 96 [.box 111 13 [.t 2 (a0.cell 0),.t 2 (a0.cell 1),.t 4 (a0.cell 2),.t 22 (a0.cell 3),.t 22 (a0.cell 4),.t 25 (a0.cell 5),.t 26 (a0.cell 6),.t 25 (a0.cell 7),.t 26 (a0.cell 8),.t 27 (a0.cell 9),.t 28 (a0.cell 10),.own 31 0 y.list,.t 2 (a0.cell 12)],.t 35 (G5 a1)] Z13 [y_1,y_2,y_3,y_4,y_5,y_6,y_7,y_8,y_9,y_10,y_11,y_12,y_13,y_14,y_15] ∧ (neI y_2.int 0 = true → True ∧ (G13 a0) = y0 ∧ T.g [y_2.cell 0,kI 0,T.l [],T.l [],T.l [],T.b false,T.l [],T.l []] = y1 ∧ True) ∧ (neI y_2.int 0 = false → True ∧ T.g [y_3,y_4,y_5,y_6,y_7,y_8,y_9,y_10,y_11,y_12,y_13,T.l y_14.list,y_15] = y0 ∧ (G8 y_1) = y1 ∧ True))) : F 29 [.t 32 a0,.t 35 a1] Z10 [y0,y1] :=
 F_nf C29b (by kernel_rfl) Tryz.func29 (by kernel_rfl) .no (by kernel_rfl) h
def C29e : Ctx:=⟨tab,sigs,48,[0,1,2,3,4,5,6,7,8,9,10,13],[cell 13 11,⟨4,58,99⟩,⟨5,58,0⟩],[(57,⟨[true],[],[]⟩),(95,⟨[],[(0,[false,false,false,false,false,false,false,false,false,false,false,true,false])],[]⟩),(96,⟨[],[(0,[false,false,false,false,false,false,false,false,false,false,false,true,false])],[]⟩),(97,⟨[],[(0,[false,false,false,false,false,false,false,false,false,false,false,true,false])],[]⟩),(98,⟨[],[(0,[false,false,false,false,false,false,false,false,false,false,false,true,false])],[]⟩),(99,⟨[],[(0,[false,false,false,false,false,false,false,false,false,false,false,true,false])],[]⟩)],[],[],[]⟩
theorem r_Q (a0 : T) (a1 : T) (y0 : T) (y1 : T) (h : ∃ y : T,F 57 [.t 31 (a0.cell 11)] (zw 1 31) [y] ∧ f_E Tryz.prog 58 (a1.cell 0).int (some 99) ∧ ((!true) = true → True ∧ (G13 a0) = y0 ∧ T.g [kI 1,kI 0,T.l [],T.l [],T.l [],T.b false,T.l [],T.l []] = y1 ∧ True) ∧ ((!true) = false → ∃ y_1 y_2 y_3 y_4 y_5 y_6 y_7 y_8 y_9 y_10 y_11 y_12 y_13 y_14 y_15 : T,F 99 [.box 111 13 [.t 2 (a0.cell 0),.t 2 (a0.cell 1),.t 4 (a0.cell 2),.t 22 (a0.cell 3),.t 22 (a0.cell 4),.t 25 (a0.cell 5),.t 26 (a0.cell 6),.t 25 (a0.cell 7),.t 26 (a0.cell 8),.t 27 (a0.cell 9),.t 28 (a0.cell 10),.own 31 0 y.list,.t 2 (a0.cell 12)],.t 35 (G5 a1)] Z13 [y_1,y_2,y_3,y_4,y_5,y_6,y_7,y_8,y_9,y_10,y_11,y_12,y_13,y_14,y_15] ∧ (neI y_2.int 0 = true → True ∧ (G13 a0) = y0 ∧ T.g [y_2.cell 0,kI 0,T.l [],T.l [],T.l [],T.b false,T.l [],T.l []] = y1 ∧ True) ∧ (neI y_2.int 0 = false → True ∧ T.g [y_3,y_4,y_5,y_6,y_7,y_8,y_9,y_10,y_11,y_12,y_13,T.l y_14.list,y_15] = y0 ∧ (G8 y_1) = y1 ∧ True))) : F 29 [.t 32 a0,.t 35 a1] Z10 [y0,y1] :=
 F_nf C29e (by kernel_rfl) Tryz.func29 (by kernel_rfl) .no (by kernel_rfl) h
theorem e_U {k : Int} {g : Option FuncId} (h : ∀ (a : Go.Addr) (w : World),Calls Tryz.prog 58 #[.pointer (some a),.int .i64 k] w fun e w' => e = .returned (.tuple #[q_n a g,.bool (o_A g)]) ∧ w' = w) : f_E Tryz.prog 58 k g:=by
 intro a w;have hcall : (callFunc 58 #[.pointer (some a),.int .i64 k]).run Tryz.prog w = .ok (.enter 58 #[.pointer (some a),.int .i64 k]) w:=by
  have h1 : Tryz.prog.funcs[58]? = some Tryz.f58:=Tryz.func58;have h2 : ¬ Tryz.f58.name = "runtime.NumGoroutine" := by
   have : (Tryz.f58.name == "runtime.NumGoroutine") = false := by kernel_rfl
   simpa using this
  have h3 : Tryz.f58.body = some (c_5 Tryz.f58):=by kernel_rfl
  simp [callFunc,h1,h2,h3]
 unfold CallsF;rw [hcall];exact (h a w).mono fun e w' q => ⟨_,q.1,q.2,rfl⟩
set_option maxHeartbeats 2000000 in
theorem bind1 : f_E Tryz.prog 58 1 (some 95):=by
 refine e_U fun a w => ?_
 go_enter Tryz.func58,Tryz.ntmps58
 go_wp2
 go_ret2
 exact ⟨rfl,rfl⟩
set_option maxHeartbeats 2000000 in
theorem bind2 : f_E Tryz.prog 58 2 (some 96):=by
 refine e_U fun a w => ?_
 go_enter Tryz.func58,Tryz.ntmps58
 go_wp2
 go_ret2
 exact ⟨rfl,rfl⟩
set_option maxHeartbeats 2000000 in
theorem bind5 : f_E Tryz.prog 58 5 (some 99):=by
 refine e_U fun a w => ?_
 go_enter Tryz.func58,Tryz.ntmps58
 go_wp2
 go_ret2
 exact ⟨rfl,rfl⟩
end Go.Pq
namespace Go.Pl
def ansT (e n : Int) (done : T) : T:=T.g [.i .i64 e,.i .i64 n,done,T.l [],T.l [],T.b false,T.l [],T.l []]
def ans0 : T:=T.g [T.i .i64 0,T.i .i64 0,T.l [],T.l [],T.l [],T.b false,T.l [],T.l []]
def a_V (l : List Int) : T:=.l (l.map fun x => T.i .i64 x)
def reqT (kind n seq : Int) (syms : List Int) (tok : T) : T:=.g [.i .i64 kind,.i .i64 n,.i .i64 seq,a_V syms,tok]
theorem e_9 (l : List Int) : (a_V l).list = l.map fun x => T.i .i64 x:=rfl
theorem d_i (l : List Int) : lenOf (a_V l).list = (l.length : Int):=by rw [e_9];simp [lenOf]
theorem h_T (l : List Int) {i : Nat} (h : i < l.length) : (a_V l).list.getD (i : Int).toNat T.u = .i .i64 (l.getD i 0):=by
 rw [Int.toNat_natCast,e_9];simp [List.getD_eq_getElem?_getD,h]
theorem o_o (m : List (List Nat)) : d_u m = .l ((m.map intL).map T.l):=by simp [d_u,G_,intT]
def seq0 (o : On) (seq : Int) (syms : List Int) : List Int:=syms.drop (min ((o.time : Int) - seq).toNat syms.length)
theorem n_4 (h : Md) (x : Nat × On) : (sesT h x).part 1 15 = onT h x.2:=rfl
end Go.Pl
namespace Go.Pq
open Go.Pl Go.Proofs
theorem h_c (h : Md) (ss : List (Nat × On)) (made : Nat) (n : Int) (k : Nat) (hl : ss.length ≤ 2 ^ 40) (hf : Fnd ss n k) :
  F 132 [.box 111 13 [.t 2 (.i .i64 (h.sym : Int)),.t 2 (.i .i64 (h.st : Int)),.t 4 (.b (decide (h.empty.num < 0))),.t 22 (lim (Lb.nat h.empty.num.natAbs)),.t 22 (den1 h.empty.den),.t 25 (v_ h.init),.t 26 (R_ h.trans),.t 25 (v_ h.stop),.t 26 (R_ h.emit),.t 27 (b_b (List.replicate h.st false)),.t 28 (intT h.ties),.own 31 0 (sesL h ss),.t 2 (.i .i64 (made : Int))],.t 2 (.i .i64 n)] Z14 [.i .i64 (k : Int),.b (decide (k < ss.length ∧ ((ss.getD k (0,on0)).1 : Int) = n)),.i .i64 (h.sym : Int),.i .i64 (h.st : Int),.b (decide (h.empty.num < 0)),lim (Lb.nat h.empty.num.natAbs),den1 h.empty.den,v_ h.init,R_ h.trans,v_ h.stop,R_ h.emit,b_b (List.replicate h.st false),intT h.ties,.l (sesL h ss),.i .i64 (made : Int)]:=by
 refine q_2 _ _ _ _ _ _ _ _ _ _ _ _ _ _ _ _ _ _ _ _ _ _ _ _ _ _ _ _ _ ?_;rw [List.drop_zero,q_];exact ⟨_,_,p_t h ss n k hl hf,⟨trivial,trivial⟩,rfl,rfl,rfl,rfl,rfl,rfl,rfl,rfl,rfl,rfl,rfl,rfl,rfl,rfl,rfl,trivial⟩
theorem p_c {h : Md} {c : Nat} (hk : MdOk h c) (ss : List (Nat × On)) (made : Nat) (hs : ss.length ≤ 8) (hm : made ≤ 1099511627776) (r : T) (hfull : ¬ (ss.length = 8 ∨ made = 1099511627776)) :
  F 95 [.box 111 13 [.t 2 (.i .i64 (h.sym : Int)),.t 2 (.i .i64 (h.st : Int)),.t 4 (.b (decide (h.empty.num < 0))),.t 22 (lim (Lb.nat h.empty.num.natAbs)),.t 22 (den1 h.empty.den),.t 25 (v_ h.init),.t 26 (R_ h.trans),.t 25 (v_ h.stop),.t 26 (R_ h.emit),.t 27 (b_b (List.replicate h.st false)),.t 28 (intT h.ties),.own 31 0 (sesL h ss),.t 2 (.i .i64 (made : Int))],.t 35 r] Z13 [ansT 0 (made : Int) (.l []),.i .i64 0,.i .i64 (h.sym : Int),.i .i64 (h.st : Int),.b (decide (h.empty.num < 0)),lim (Lb.nat h.empty.num.natAbs),den1 h.empty.den,v_ h.init,R_ h.trans,v_ h.stop,R_ h.emit,b_b (List.replicate h.st false),intT h.ties,.l (sesL h (ss ++ [(made,on0)])),.i .i64 ((made + 1 : Nat) : Int)]:=by
 refine p_U _ _ _ _ _ _ _ _ _ _ _ _ _ _ _ _ _ _ _ _ _ _ _ _ _ _ _ _ _ ?_;rw [k_,d_R,q_,a_L];refine ⟨fun q => ?_,fun q => ?_⟩
 ·exfalso
  rw [Bool.or_eq_true,M_,M_] at q;omega
 ·have hroom : room = 140737488355328:=rfl
  refine ⟨_,_,p_4 h c hk,fun q => (by cases q),fun _ => ⟨⟨?_,?_⟩,⟨trivial,trivial⟩,rfl,rfl,rfl,rfl,rfl,rfl,rfl,rfl,rfl,rfl,rfl,rfl,rfl,?_,?_,trivial⟩⟩
  ·show (ss.length + 1) * 304 ≤ room;omega
  ·show ss.length + 1 ≤ _;omega
  ·rw [← g_Q];rfl
  ·rw [c_ (by omega)];rfl
theorem l_0 (h : Md) (ss : List (Nat × On)) (made : Nat) (r : T) (hfull : ss.length = 8 ∨ made = 1099511627776) :
  F 95 [.box 111 13 [.t 2 (.i .i64 (h.sym : Int)),.t 2 (.i .i64 (h.st : Int)),.t 4 (.b (decide (h.empty.num < 0))),.t 22 (lim (Lb.nat h.empty.num.natAbs)),.t 22 (den1 h.empty.den),.t 25 (v_ h.init),.t 26 (R_ h.trans),.t 25 (v_ h.stop),.t 26 (R_ h.emit),.t 27 (b_b (List.replicate h.st false)),.t 28 (intT h.ties),.own 31 0 (sesL h ss),.t 2 (.i .i64 (made : Int))],.t 35 r] Z13 [ans0,.i .i64 2,.i .i64 (h.sym : Int),.i .i64 (h.st : Int),.b (decide (h.empty.num < 0)),lim (Lb.nat h.empty.num.natAbs),den1 h.empty.den,v_ h.init,R_ h.trans,v_ h.stop,R_ h.emit,b_b (List.replicate h.st false),intT h.ties,.l (sesL h ss),.i .i64 (made : Int)]:=by
 refine p_U _ _ _ _ _ _ _ _ _ _ _ _ _ _ _ _ _ _ _ _ _ _ _ _ _ _ _ _ _ ?_;rw [k_,d_R,a_L];refine ⟨fun q => ⟨⟨trivial,trivial⟩,rfl,rfl,rfl,rfl,rfl,rfl,rfl,rfl,rfl,rfl,rfl,rfl,rfl,rfl,rfl,trivial⟩,fun q => ?_⟩
 exfalso
 rw [Bool.or_eq_false_iff,a_D,a_D] at q;omega
theorem l_M (h : Md) (ss : List (Nat × On)) (made : Nat) (kind n seq : Int) (syms : List Int) (tok : T) (k : Nat) (hl : ss.length ≤ 8) (hf : Fnd ss n k) (hno : ¬ (k < ss.length ∧ ((ss.getD k (0,on0)).1 : Int) = n)) :
  F 96 [.box 111 13 [.t 2 (.i .i64 (h.sym : Int)),.t 2 (.i .i64 (h.st : Int)),.t 4 (.b (decide (h.empty.num < 0))),.t 22 (lim (Lb.nat h.empty.num.natAbs)),.t 22 (den1 h.empty.den),.t 25 (v_ h.init),.t 26 (R_ h.trans),.t 25 (v_ h.stop),.t 26 (R_ h.emit),.t 27 (b_b (List.replicate h.st false)),.t 28 (intT h.ties),.own 31 0 (sesL h ss),.t 2 (.i .i64 (made : Int))],.t 35 (reqT kind n seq syms tok)] Z13 [ans0,.i .i64 5,.i .i64 (h.sym : Int),.i .i64 (h.st : Int),.b (decide (h.empty.num < 0)),lim (Lb.nat h.empty.num.natAbs),den1 h.empty.den,v_ h.init,R_ h.trans,v_ h.stop,R_ h.emit,b_b (List.replicate h.st false),intT h.ties,.l (sesL h ss),.i .i64 (made : Int)]:=by
 refine n_k _ _ _ _ _ _ _ _ _ _ _ _ _ _ _ _ _ _ _ _ _ _ _ _ _ _ _ _ _ (fun _ => True) (fun _ => 0) ?_;refine ⟨_,_,_,_,_,_,_,_,_,_,_,_,_,_,_,h_c h ss made n k (by omega) hf,fun _ => ⟨⟨trivial,trivial⟩,rfl,rfl,rfl,rfl,rfl,rfl,rfl,rfl,rfl,rfl,rfl,rfl,rfl,rfl,rfl,trivial⟩,fun q => ?_⟩
 exfalso
 rw [decide_eq_false hno] at q;cases q
theorem j_P (h : Md) (ss : List (Nat × On)) (made : Nat) (kind n seq : Int) (syms : List Int) (tok : T) (k : Nat) (hl : ss.length ≤ 8) (hf : Fnd ss n k) (hyes : k < ss.length ∧ ((ss.getD k (0,on0)).1 : Int) = n)
  (hseq : seq < 0 ∨ ((ss.getD k (0,on0)).2.time : Int) < seq) :
  F 96 [.box 111 13 [.t 2 (.i .i64 (h.sym : Int)),.t 2 (.i .i64 (h.st : Int)),.t 4 (.b (decide (h.empty.num < 0))),.t 22 (lim (Lb.nat h.empty.num.natAbs)),.t 22 (den1 h.empty.den),.t 25 (v_ h.init),.t 26 (R_ h.trans),.t 25 (v_ h.stop),.t 26 (R_ h.emit),.t 27 (b_b (List.replicate h.st false)),.t 28 (intT h.ties),.own 31 0 (sesL h ss),.t 2 (.i .i64 (made : Int))],.t 35 (reqT kind n seq syms tok)] Z13 [ans0,.i .i64 23,.i .i64 (h.sym : Int),.i .i64 (h.st : Int),.b (decide (h.empty.num < 0)),lim (Lb.nat h.empty.num.natAbs),den1 h.empty.den,v_ h.init,R_ h.trans,v_ h.stop,R_ h.emit,b_b (List.replicate h.st false),intT h.ties,.l (sesL h ss),.i .i64 (made : Int)]:=by
 have hat : (T.l (sesL h ss)).list.getD (0 + (T.i .i64 (k : Int)).int.toNat) T.u = sesT h (ss.getD k (0,on0)):=by
  show (sesL h ss).getD (0 + ((k : Nat) : Int).toNat) T.u = _
  rw [Nat.zero_add,Int.toNat_natCast,d_r h ss hyes.1]
 have hlen : (T.l (sesL h ss)).list.length = ss.length:=a_L h ss;refine n_k _ _ _ _ _ _ _ _ _ _ _ _ _ _ _ _ _ _ _ _ _ _ _ _ _ _ _ _ _ (fun _ => True) (fun _ => 0) ?_;refine ⟨_,_,_,_,_,_,_,_,_,_,_,_,_,_,_,h_c h ss made n k (by omega) hf,fun q => ?_,fun q => ?_⟩
 ·exfalso
  rw [decide_eq_true hyes] at q;cases q
 ·rw [hat,n_4,c_r,hlen,d_R]
  have e : ((reqT kind n seq syms tok).cell 2).int = seq:=rfl;rw [e,k_];refine ⟨⟨by omega,by omega⟩,fun _ => ⟨⟨trivial,trivial⟩,rfl,rfl,rfl,rfl,rfl,rfl,rfl,rfl,rfl,rfl,rfl,rfl,rfl,rfl,rfl,trivial⟩,fun w => ?_⟩
  exfalso
  rw [Bool.or_eq_false_iff,l_,l_] at w;omega
theorem p_V {h : Md} {c : Nat} (hk : MdOk h c) (ss : List (Nat × On)) (made : Nat) (kind n seq : Int) (syms : List Int) (tok : T) (k : Nat) (hl : ss.length ≤ 8) (hf : Fnd ss n k) (hkl : k < ss.length) (num : Nat) (o : On) (hx : ss.getD k (0,on0) = (num,o)) (hn : (num : Int) = n)
  (H : OnOk h c o) (hseq : ¬ (seq < 0 ∨ (o.time : Int) < seq)) (hsy : syms.length ≤ 2 ^ 40) (y0 y1 : T) (ss' : List (Nat × On))
  (hres : match c_o h o (seq0 o seq syms) with
   | .ok o' => y0 = ansT 0 n (intT o'.done) ∧ y1 = .i .i64 0 ∧ ss' = ss.set k (num,o')
   | .error e => y0 = ans0 ∧ y1 = .i .i64 e ∧ ss' = ss) :
  F 96 [.box 111 13 [.t 2 (.i .i64 (h.sym : Int)),.t 2 (.i .i64 (h.st : Int)),.t 4 (.b (decide (h.empty.num < 0))),.t 22 (lim (Lb.nat h.empty.num.natAbs)),.t 22 (den1 h.empty.den),.t 25 (v_ h.init),.t 26 (R_ h.trans),.t 25 (v_ h.stop),.t 26 (R_ h.emit),.t 27 (b_b (List.replicate h.st false)),.t 28 (intT h.ties),.own 31 0 (sesL h ss),.t 2 (.i .i64 (made : Int))],.t 35 (reqT kind n seq syms tok)] Z13 [y0,y1,.i .i64 (h.sym : Int),.i .i64 (h.st : Int),.b (decide (h.empty.num < 0)),lim (Lb.nat h.empty.num.natAbs),den1 h.empty.den,v_ h.init,R_ h.trans,v_ h.stop,R_ h.emit,b_b (List.replicate h.st false),intT h.ties,.l (sesL h ss'),.i .i64 (made : Int)]:=by
 have hyes : k < ss.length ∧ ((ss.getD k (0,on0)).1 : Int) = n:=⟨hkl,by rw [hx];exact hn⟩;have hat : (T.l (sesL h ss)).list.getD (0 + (T.i .i64 (k : Int)).int.toNat) T.u = sesT h (num,o):=by
  show (sesL h ss).getD (0 + ((k : Nat) : Int).toNat) T.u = _
  rw [Nat.zero_add,Int.toNat_natCast,d_r h ss hyes.1,hx]
 have hlen : (T.l (sesL h ss)).list.length = ss.length:=a_L h ss;have htm:=H.time
 generalize hw : seq0 o seq syms = w at *
 refine n_k _ _ _ _ _ _ _ _ _ _ _ _ _ _ _ _ _ _ _ _ _ _ _ _ _ _ _ _ _
  (fun i => i.1 = srvT h ⟨ss,made⟩ ∧ i.2.1 = sesL h ss ∧ i.2.2.1 = k ∧ i.2.2.2.2.2 = a_V w ∧ ∃ o1,i.2.2.2.1 = onT h o1 ∧ OnOk h c o1 ∧ i.2.2.2.2.1 ≤ w.length ∧ c_o h o w = c_o h o1 (w.drop i.2.2.2.2.1))
  (fun i => w.length - i.2.2.2.2.1) ?_
 refine ⟨_,_,_,_,_,_,_,_,_,_,_,_,_,_,_,h_c h ss made n k (by omega) hf,fun q => ?_,fun q => ?_⟩
 ·exfalso
  rw [decide_eq_true hyes] at q;cases q
 ·rw [hat,show (sesT h (num,o)).part 1 15 = onT h o from rfl,c_r,hlen,d_R]
  have e : ((reqT kind n seq syms tok).cell 2).int = seq:=rfl;have e3 : (reqT kind n seq syms tok).cell 3 = a_V syms:=rfl;rw [e,e3,k_,d_i,Y_ (by omega)];have em : minI ((o.time : Int) - seq) (syms.length : Int) = ((min ((o.time : Int) - seq).toNat syms.length : Nat) : Int):=by unfold minI;split <;> omega
  rw [em];have ew : T.l (List.take ((syms.length : Int) - ((min ((o.time : Int) - seq).toNat syms.length : Nat) : Int)).toNat (List.drop ((min ((o.time : Int) - seq).toNat syms.length : Nat) : Int).toNat (a_V syms).list)) = a_V w:=by
   rw [Int.toNat_natCast,e_9,← List.map_drop,List.take_of_length_le (by rw [List.length_map,List.length_drop];omega),← hw];rfl
  have ewl : lenOf (List.take ((syms.length : Int) - ((min ((o.time : Int) - seq).toNat syms.length : Nat) : Int)).toNat (List.drop ((min ((o.time : Int) - seq).toNat syms.length : Nat) : Int).toNat (a_V syms).list)) = lenOf (a_V w).list:=by rw [← ew];rfl
  rw [ew,ewl];have hwl : w.length ≤ 2 ^ 40:=by rw [← hw];unfold seq0;rw [List.length_drop];omega
  refine ⟨⟨by omega,by omega⟩,fun w => ?_,fun _ => ⟨⟨by omega,by omega,by omega⟩,⟨(srvT h ⟨ss,made⟩,sesL h ss,k,onT h o,0,a_V w),⟨rfl,rfl,rfl,rfl,o,rfl,H,Nat.zero_le _,rfl⟩,(by and_intros <;> first | exact trivial | rfl | (rw [c_ (by omega)];rfl))⟩,fun _ => rfl,?_⟩⟩
  ·exfalso
   rw [Bool.or_eq_true,d_,d_] at w;omega
  rintro ⟨sv,sl,k',dt,m,wt⟩ ⟨h1,h2,h3,h4,o1,h5,h6,h7,h8⟩;dsimp only at h1 h2 h3 h4 h5 h7 h8 ⊢;subst h1 h2 h4 h5;rw [h3];clear h3;rw [d_i];refine ⟨fun g => ?_,fun g => ?_⟩
  ·rw [d_] at g
   have hml : m < w.length:=by omega
   rw [h_T w hml,a_E];obtain ⟨z0,z1,z2,hz,hm⟩:=p_h hk h6 (w.getD m 0);have hdr : w.drop m = w.getD m 0 :: w.drop (m + 1):=by
    rw [List.drop_eq_getElem_cons hml,List.getD_eq_getElem?_getD,List.getElem?_eq_getElem hml];rfl
   rw [hdr] at h8;refine ⟨⟨by omega,by omega⟩,_,_,_,hz,fun v => ?_,fun v => ?_⟩
   ·rw [k_,b_h] at v
    cases hp : d_o h o1 (w.getD m 0) with
    | ok o2 => rw [hp] at hm;exact absurd hm.2.2 v
    | error e =>
     rw [hp] at hm;have : c_o h o w = .error e:=by rw [h8];unfold c_o;rw [hp]
     rw [this] at hres;obtain ⟨r0,r1,r2⟩:=hres;subst r0 r1 r2;obtain ⟨-,-,rfl⟩:=hm;exact ⟨⟨trivial,trivial⟩,rfl,rfl,rfl,rfl,rfl,rfl,rfl,rfl,rfl,rfl,rfl,rfl,rfl,rfl,rfl,trivial⟩
   ·rw [k_,c_i] at v
    cases hp : d_o h o1 (w.getD m 0) with
    | error e => rw [hp] at hm;rcases g_J hp with q | q <;> (rw [hm.2.2,q] at v;cases v)
    | ok o2 =>
     rw [hp] at hm;obtain ⟨rfl,-,-⟩:=hm
     have : c_o h o w = c_o h o2 (w.drop (m + 1)):=by rw [h8];show (match d_o h o1 (w.getD m 0) with | .ok o' => c_o h o' (w.drop (m + 1)) | .error e => .error e) = _;rw [hp]
     exact ⟨(srvT h ⟨ss,made⟩,sesL h ss,k,onT h o2,m + 1,a_V w),⟨rfl,rfl,rfl,rfl,o2,rfl,(h_4 hk h6 hp).1,hml,this⟩,by dsimp only;omega,by dsimp only;rw [d_i];exact (by and_intros <;> first | exact trivial | rfl | (rw [c_ (by omega)];rfl))⟩
  ·rw [l_] at g
   have hme : m = w.length:=by omega
   subst hme;rw [List.drop_length] at h8;have h9 : c_o h o w = .ok o1:=h8;rw [h9] at hres;obtain ⟨r0,r1,r2⟩:=hres;subst r0 r1 r2;have hdl:=h6.dlen;refine ⟨⟨by omega,by rw [a_L];omega⟩,_,c_y (intL o1.done) (by rw [T_];omega),⟨trivial,trivial⟩,rfl,rfl,rfl,rfl,rfl,rfl,rfl,rfl,rfl,rfl,rfl,rfl,rfl,?_,rfl,trivial⟩;have e5 : (sesL h ss).getD (0 + ((k : Nat) : Int).toNat) T.u = sesT h (num,o):=by rw [Nat.zero_add,Int.toNat_natCast,d_r h ss hyes.1,hx]
   rw [e5,Nat.zero_add,Int.toNat_natCast,← p_v];rfl
end Go.Pq
namespace Go.Pl
def h_N (h : Md) (s : Srv) (n seq : Int) (syms : List Int) (k : Nat) : Srv × T :=
 if k < s.ss.length ∧ ((s.ss.getD k (0,on0)).1 : Int) = n then
  if seq < 0 ∨ ((s.ss.getD k (0,on0)).2.time : Int) < seq then (s,ansT 23 0 (.l []))
  else match c_o h (s.ss.getD k (0,on0)).2 (seq0 (s.ss.getD k (0,on0)).2 seq syms) with
   | .ok o' => (⟨s.ss.set k ((s.ss.getD k (0,on0)).1,o'),s.made⟩,ansT 0 n (intT o'.done))
   | .error e => (s,ansT e 0 (.l []))
 else (s,ansT 5 0 (.l []))
def l_1 (s : Srv) : Srv × T :=
 if s.ss.length = 8 ∨ s.made = 1099511627776 then (s,ansT 2 0 (.l [])) else (⟨s.ss ++ [(s.made,on0)],s.made + 1⟩,ansT 0 (s.made : Int) (.l []))
theorem o_R {h : Md} {c : Nat} (hk : MdOk h c) : ∀ (w : List Int) {o o' : On},OnOk h c o → c_o h o w = .ok o' → OnOk h c o' := by
 intro w
 induction w with
 | nil => intro o o' H q;cases q;exact H
 | cons x r ih =>
  intro o o' H q;unfold c_o at q
  cases hp : d_o h o x with
  | ok o2 => rw [hp] at q;exact ih (h_4 hk H hp).1 q
  | error e => rw [hp] at q;cases q
theorem n_m {h : Md} : ∀ (w : List Int) {o : On} {e : Int},c_o h o w = .error e → e = 1 ∨ e = 11:=by
 intro w
 induction w with
 | nil => intro o e q;cases q
 | cons x r ih =>
  intro o e q;unfold c_o at q
  cases hp : d_o h o x with
  | ok o2 => rw [hp] at q;exact ih q
  | error e' => rw [hp] at q;cases q;exact g_J hp
theorem p_w {α : Type} (l : List α) (k i : Nat) (v d : α) : (l.set k v).getD i d = if i = k ∧ k < l.length then v else l.getD i d:=by
 rw [List.getD_eq_getElem?_getD,List.getD_eq_getElem?_getD,List.getElem?_set]
 by_cases e : k = i
 ·subst e
  by_cases q : k < l.length
  ·simp [q]
  ·simp [q]
 ·rw [if_neg e,if_neg (by omega)]
theorem k_O {h : Md} {c : Nat} {s : Srv} (hk : MdOk h c) (H : b_O h c s) (n seq : Int) (syms : List Int) (k : Nat) : b_O h c (h_N h s n seq syms k).1:=by
 unfold h_N;split
 ·rename_i hy
  split
  ·exact H
  ·split
   ·rename_i o' hf
    have hg : ∀ i,((s.ss.set k ((s.ss.getD k (0,on0)).1,o')).getD i (0,on0)).1 = (s.ss.getD i (0,on0)).1:=by
     intro i;rw [p_w];split
     ·rename_i q;rw [q.1]
     ·rfl
    refine ⟨by show (s.ss.set _ _).length ≤ 8;rw [List.length_set];exact H.few,H.made,?_,?_,?_⟩
    ·intro i hi
     show ((s.ss.set _ _).getD i _).1 < s.made
     rw [hg];exact H.num i (by simpa using hi)
    ·intro i hi
     show ((s.ss.set _ _).getD i _).1 < ((s.ss.set _ _).getD (i + 1) _).1
     rw [hg,hg];exact H.up i (by simpa using hi)
    ·intro x hx
     rcases List.mem_or_eq_of_mem_set hx with q | q
     ·exact H.ok x q
     ·rw [q];exact o_R hk _ (H.ok _ (r_ hy.1)) hf
   ·exact H
 ·exact H
theorem p_d {h : Md} {c : Nat} {s : Srv} (H : b_O h c s) : b_O h c (l_1 s).1:=by
 have hf:=H.few;have hm:=H.made;unfold l_1;split
 ·exact H
 ·rename_i q
  have hg : ∀ i,(s.ss ++ [(s.made,on0)]).getD i (0,on0) = if i < s.ss.length then s.ss.getD i (0,on0) else if i = s.ss.length then (s.made,on0) else (0,on0):=by
   intro i;rw [List.getD_eq_getElem?_getD,List.getD_eq_getElem?_getD,List.getElem?_append]
   by_cases g : i < s.ss.length
   ·rw [if_pos g,if_pos g]
   ·rw [if_neg g,if_neg g]
    by_cases g2 : i = s.ss.length
    ·rw [if_pos g2,g2,Nat.sub_self];rfl
    ·rw [if_neg g2]
     obtain ⟨d,hd⟩ : ∃ d,i - s.ss.length = d + 1:=⟨i - s.ss.length - 1,by omega⟩;rw [hd];rfl
  refine ⟨by show (s.ss ++ _).length ≤ 8;simp;omega,by show s.made + 1 ≤ _;omega,?_,?_,?_⟩
  ·intro i hi
   show ((s.ss ++ _).getD i _).1 < s.made + 1
   rw [hg];have hi' : i < s.ss.length + 1:=by simpa using hi
   by_cases g : i < s.ss.length
   ·rw [if_pos g];have:=H.num i g;omega
   ·rw [if_neg g,if_pos (by omega)];show s.made < _;omega
  ·intro i hi
   show ((s.ss ++ _).getD i _).1 < ((s.ss ++ _).getD (i + 1) _).1
   have hi' : i + 1 < s.ss.length + 1:=by simpa using hi
   rw [hg,hg,if_pos (by omega)]
   by_cases g : i + 1 < s.ss.length
   ·rw [if_pos g];exact H.up i g
   ·rw [if_neg g,if_pos (by omega)];exact H.num i (by omega)
  ·intro x hx
   rcases List.mem_append.1 hx with q | q
   ·exact H.ok x q
   ·simp at q;rw [q];exact p_2 h c
end Go.Pl
namespace Go.Pq
open Go.Pl Go.Proofs
theorem k_M {h : Md} {c : Nat} {s : Srv} (hk : MdOk h c) (H : b_O h c s) : F 30 [.t 32 (srvT h s)] (zo 1 32) [srvT h s]:=by
 have hf:=H.few;have hroom : room = 140737488355328:=rfl;refine t_b _ _ (fun i => i.1 = srvT h s ∧ i.2.1 = sesL h (s.ss.take i.2.2) ∧ i.2.2 ≤ s.ss.length) (fun i => s.ss.length - i.2.2) ?_;rw [o_e,q_c,j_6];refine ⟨_,b_U h c hk,⟨(srvT h s,[],0),⟨rfl,rfl,Nat.zero_le _⟩,(by and_intros <;> first | exact trivial | rfl | (rw [c_ (by omega)];rfl))⟩,fun _ => rfl,?_⟩;rintro ⟨t,l,k⟩ ⟨ht,hl,hkk⟩;dsimp only at ht hl hkk ⊢;subst ht hl;refine ⟨fun g => ?_,fun g => ?_⟩
 ·rw [d_] at g
  have hlt : k < s.ss.length:=by omega
  have Hx:=H.ok _ (r_ (d:=(0,on0)) hlt)
  generalize hx : s.ss.getD k (0,on0) = x at Hx
  have hr:=Hx.rl30 hk;have hst:=hk.st;have h0 : x.2.sc.length ≤ 8 ∧ x.2.tails.length ≤ 8:=by
   rcases Nat.eq_zero_or_pos x.2.time with q | q
   ·obtain ⟨a,b,-⟩:=Hx.zero q;rw [a,b];exact ⟨Nat.zero_le _,Nat.zero_le _⟩
   ·obtain ⟨a,b⟩:=Hx.lens q;omega
  have cw:=i_H (x.2.tails.map intL) (by rw [List.length_map];omega) (by
   intro r hr;obtain ⟨t,ht,rfl⟩:=List.mem_map.1 hr
   have:=Hx.tlen t ht
   rw [T_];omega)
  rw [← o_o] at cw;have l1 : (List.take (sesL h (s.ss.take k)).length (sesL h (s.ss.take k))).length = k:=by rw [q_,a_L,List.length_take];omega
  rw [l_k _ _ hlt,hx,f_R,n_3];refine ⟨⟨by omega,by omega⟩,_,b_U h c hk,_,c_P x.2.sc (by omega) (fun q hq => by have:=hr q hq;omega),_,cw,_,c_y (intL x.2.done) (by rw [T_];have:=Hx.dlen;omega),⟨by rw [l1];show (k + 1) * 304 ≤ room;omega,by rw [l1];show k + 1 ≤ _;omega⟩,
   (srvT h s,sesL h (s.ss.take (k + 1)),k + 1),⟨rfl,rfl,hlt⟩,by dsimp only;omega,?_⟩
  have e : List.take (sesL h (s.ss.take k)).length (sesL h (s.ss.take k)) ++ [sesT h x] = sesL h (s.ss.take (k + 1)):=by
   rw [q_,List.take_succ_eq_append_getElem hlt,← g_Q];have : s.ss[k] = x:=by rw [← hx,List.getD_eq_getElem?_getD,List.getElem?_eq_getElem hlt];rfl
   rw [this];rfl
  rw [← e];exact (by and_intros <;> first | exact trivial | rfl | (rw [c_ (by omega)];rfl))
 ·rw [l_] at g
  have : k = s.ss.length:=by omega
  subst this;rw [List.take_length];exact ⟨trivial,rfl,trivial⟩
theorem n_M {h : Md} {c : Nat} {s : Srv} (hk : MdOk h c) (H : b_O h c s) (n seq : Int) (syms : List Int) (tok : T) :
  F 29 [.t 32 (srvT h s),.t 35 (reqT 1 n seq syms tok)] Z10 [srvT h (l_1 s).1,(l_1 s).2]:=by
 have hf:=H.few;have hm:=H.made;have h57 : (sesL h s.ss).length ≤ 2 ^ 30:=by rw [a_L];omega
 have hb : f_E Tryz.prog 58 ((reqT 1 n seq syms tok).cell 0).int (some 95):=bind1;refine r_O _ _ _ _ ?_;refine ⟨_,g_b (sesL h s.ss) h57,?_⟩;refine ⟨hb,fun q => ?_,fun _ => ?_⟩
 ·cases q
 unfold l_1
 by_cases hfull : s.ss.length = 8 ∨ s.made = 1099511627776
 ·rw [if_pos hfull]
  refine ⟨_,_,_,_,_,_,_,_,_,_,_,_,_,_,_,l_0 h s.ss s.made _ hfull,fun _ => ⟨trivial,rfl,rfl,trivial⟩,fun q => (by cases q)⟩
 ·rw [if_neg hfull]
  refine ⟨_,_,_,_,_,_,_,_,_,_,_,_,_,_,_,p_c hk s.ss s.made hf hm _ hfull,fun q => (by cases q),fun _ => ⟨trivial,rfl,rfl,trivial⟩⟩
theorem j_O {h : Md} {c : Nat} {s : Srv} (hk : MdOk h c) (H : b_O h c s) (n seq : Int) (syms : List Int) (tok : T) (k : Nat) (hfn : Fnd s.ss n k) (hsy : syms.length ≤ 2 ^ 40) :
  F 29 [.t 32 (srvT h s),.t 35 (reqT 2 n seq syms tok)] Z10 [srvT h (h_N h s n seq syms k).1,(h_N h s n seq syms k).2]:=by
 have hf:=H.few;have h57 : (sesL h s.ss).length ≤ 2 ^ 30:=by rw [a_L];omega
 have hb : f_E Tryz.prog 58 ((reqT 2 n seq syms tok).cell 0).int (some 96):=bind2;refine r_P _ _ _ _ ?_;refine ⟨_,g_b (sesL h s.ss) h57,?_⟩;refine ⟨hb,fun q => ?_,fun _ => ?_⟩
 ·cases q
 unfold h_N
 by_cases hy : k < s.ss.length ∧ ((s.ss.getD k (0,on0)).1 : Int) = n
 ·rw [if_pos hy]
  by_cases ho : seq < 0 ∨ ((s.ss.getD k (0,on0)).2.time : Int) < seq
  ·rw [if_pos ho]
   exact ⟨_,_,_,_,_,_,_,_,_,_,_,_,_,_,_,j_P h s.ss s.made 2 n seq syms tok k hf hfn hy ho,fun _ => ⟨trivial,rfl,rfl,trivial⟩,fun q => (by cases q)⟩
  ·rw [if_neg ho]
   have Hx:=H.ok _ (r_ (d:=(0,on0)) hy.1)
   generalize hx : s.ss.getD k (0,on0) = x at *
   obtain ⟨num,o⟩:=x;have hn : (num : Int) = n:=hy.2;have ho' : ¬ (seq < 0 ∨ (o.time : Int) < seq):=ho
   show ∃ y,_
   cases hfe : c_o h o (seq0 o seq syms) with
   | ok o' =>
    have cf:=p_V hk s.ss s.made 2 n seq syms tok k hf hfn hy.1 num o hx hn Hx ho' hsy (ansT 0 n (intT o'.done)) (.i .i64 0) (s.ss.set k (num,o')) (by rw [hfe];exact ⟨rfl,rfl,rfl⟩);exact ⟨_,_,_,_,_,_,_,_,_,_,_,_,_,_,_,cf,fun q => (by cases q),fun _ => ⟨trivial,rfl,rfl,trivial⟩⟩
   | error e =>
    have he:=n_m _ hfe;have cf:=p_V hk s.ss s.made 2 n seq syms tok k hf hfn hy.1 num o hx hn Hx ho' hsy ans0 (.i .i64 e) s.ss (by rw [hfe];exact ⟨rfl,rfl,rfl⟩);refine ⟨_,_,_,_,_,_,_,_,_,_,_,_,_,_,_,cf,fun _ => ⟨trivial,rfl,rfl,trivial⟩,fun q => ?_⟩;rw [k_,c_i] at q;omega
 ·rw [if_neg hy]
  exact ⟨_,_,_,_,_,_,_,_,_,_,_,_,_,_,_,l_M h s.ss s.made 2 n seq syms tok k hf hfn hy,fun _ => ⟨trivial,rfl,rfl,trivial⟩,fun q => (by cases q)⟩
theorem u_d {h : Md} {c : Nat} (hk : MdOk h c) : F 17 [.t 29 (hidT h)] Z12 [srvT h ⟨[],0⟩,.i .i64 0]:=by
 refine s_3 _ _ _ ?_;rw [a_7];exact ⟨_,_,p_4 h c hk,fun q => (by cases q),fun _ => ⟨trivial,rfl,rfl,trivial⟩⟩
theorem h_z {h : Md} {c : Nat} {s : Srv} (hk : MdOk h c) (H : b_O h c s) (kind n seq : Int) (syms : List Int) (tok : T) (s' : Srv) (e m : Int) (d t p q0 q1 q2 : T)
  (hh : F 29 [.t 32 (srvT h s),.t 35 (reqT kind n seq syms tok)] Z10 [srvT h s',.g [.i .i64 e,.i .i64 m,d,t,p,q0,q1,q2]]) :
  F 10 [.t 32 (srvT h s),.t 35 (reqT kind n seq syms tok)] Z11 [srvT h s',.g [.i .i64 e,.i .i64 m,d,t,p,q0,q1,q2],.i .i64 0]:=by
 refine s_0 _ _ _ _ _ ?_;rw [e_F];exact ⟨_,p_H hk H,fun q => (by cases q),fun _ => ⟨_,k_M hk H,_,_,hh,trivial,rfl,rfl,rfl,trivial⟩⟩
end Go.Pq
namespace Go.Pl
def endT (n : Int) (p : T) (q : Rat) : T:=.g [.i .i64 0,.i .i64 n,.l [],.l [],p,(ratT q).cell 0,(ratT q).cell 1,(ratT q).cell 2]
def endS (h : Md) (s : Srv) (n : Int) (k : Nat) : Srv × T :=
 if k < s.ss.length ∧ ((s.ss.getD k (0,on0)).1 : Int) = n then
  if 0 < (finO h (s.ss.getD k (0,on0)).2).1 then (⟨s.ss.eraseIdx k,s.made⟩,endT n (intT ((s.ss.getD k (0,on0)).2.done ++ (finO h (s.ss.getD k (0,on0)).2).2)) (finO h (s.ss.getD k (0,on0)).2).1)
  else (s,ansT 11 0 (.l []))
 else (s,ansT 5 0 (.l []))
theorem e_2 {α : Type} (l : List α) (k i : Nat) (d : α) : (l.eraseIdx k).getD i d = if i < k then l.getD i d else l.getD (i + 1) d:=by
 rw [List.getD_eq_getElem?_getD,List.getElem?_eraseIdx];split <;> rw [List.getD_eq_getElem?_getD]
theorem o_Q {h : Md} {c : Nat} {s : Srv} (H : b_O h c s) {k : Nat} (hk : k < s.ss.length) : b_O h c ⟨s.ss.eraseIdx k,s.made⟩:=by
 have hl : (s.ss.eraseIdx k).length = s.ss.length - 1:=List.length_eraseIdx_of_lt hk;have hf:=H.few;refine ⟨by show (s.ss.eraseIdx k).length ≤ 8;omega,H.made,?_,?_,?_⟩
 ·intro i hi
  show ((s.ss.eraseIdx k).getD i _).1 < s.made
  have hi' : i < s.ss.length - 1:=by rw [← hl];exact hi
  rw [e_2];split
  ·exact H.num i (by omega)
  ·exact H.num (i + 1) (by omega)
 ·intro i hi
  show ((s.ss.eraseIdx k).getD i _).1 < ((s.ss.eraseIdx k).getD (i + 1) _).1
  have hi' : i + 1 < s.ss.length - 1:=by rw [← hl];exact hi
  rw [e_2,e_2];split
  ·split
   ·exact H.up i (by omega)
   ·exact H.mono (by omega) (by omega)
  ·rw [if_neg (by omega)];exact H.up (i + 1) (by omega)
 ·intro x hx
  exact H.ok x (List.mem_of_mem_eraseIdx hx)
theorem q_x {h : Md} {c : Nat} {s : Srv} (H : b_O h c s) (n : Int) (k : Nat) : b_O h c (endS h s n k).1:=by
 unfold endS;split
 ·rename_i q
  split
  ·exact o_Q H q.1
  ·exact H
 ·exact H
theorem m_d (h : Md) (l : List (Nat × On)) (k : Nat) : (sesL h l).eraseIdx k = sesL h (l.eraseIdx k):=by
 unfold sesL
 induction l generalizing k with
 | nil => rfl
 | cons a r ih =>
  cases k with
  | zero => rfl
  | succ k => simp only [List.map_cons,List.eraseIdx_cons_succ,ih]
end Go.Pl
namespace Go.Pq
open Go.Pl Go.Proofs
theorem n_e (h : Md) (ss : List (Nat × On)) (made : Nat) (kind n seq : Int) (syms : List Int) (tok : T) (k : Nat) (hl : ss.length ≤ 8) (hf : Fnd ss n k) (hno : ¬ (k < ss.length ∧ ((ss.getD k (0,on0)).1 : Int) = n)) :
  F 99 [.box 111 13 [.t 2 (.i .i64 (h.sym : Int)),.t 2 (.i .i64 (h.st : Int)),.t 4 (.b (decide (h.empty.num < 0))),.t 22 (lim (Lb.nat h.empty.num.natAbs)),.t 22 (den1 h.empty.den),.t 25 (v_ h.init),.t 26 (R_ h.trans),.t 25 (v_ h.stop),.t 26 (R_ h.emit),.t 27 (b_b (List.replicate h.st false)),.t 28 (intT h.ties),.own 31 0 (sesL h ss),.t 2 (.i .i64 (made : Int))],.t 35 (reqT kind n seq syms tok)] Z13 [ans0,.i .i64 5,.i .i64 (h.sym : Int),.i .i64 (h.st : Int),.b (decide (h.empty.num < 0)),lim (Lb.nat h.empty.num.natAbs),den1 h.empty.den,v_ h.init,R_ h.trans,v_ h.stop,R_ h.emit,b_b (List.replicate h.st false),intT h.ties,.l (sesL h ss),.i .i64 (made : Int)]:=by
 refine n_l _ _ _ _ _ _ _ _ _ _ _ _ _ _ _ _ _ _ _ _ _ _ _ _ _ _ _ _ _ ?_;refine ⟨_,_,_,_,_,_,_,_,_,_,_,_,_,_,_,h_c h ss made n k (by omega) hf,fun _ => ⟨⟨trivial,trivial⟩,rfl,rfl,rfl,rfl,rfl,rfl,rfl,rfl,rfl,rfl,rfl,rfl,rfl,rfl,rfl,trivial⟩,fun q => ?_⟩
 exfalso
 rw [decide_eq_false hno] at q;cases q
theorem u_F {h : Md} {c : Nat} (hk : MdOk h c) (ss : List (Nat × On)) (made : Nat) (kind n seq : Int) (syms : List Int) (tok : T) (k : Nat) (hl : ss.length ≤ 8) (hf : Fnd ss n k) (hkl : k < ss.length) (num : Nat) (o : On) (hx : ss.getD k (0,on0) = (num,o)) (hn : (num : Int) = n)
  (H : OnOk h c o) (hp : 0 < (finO h o).1) :
  F 99 [.box 111 13 [.t 2 (.i .i64 (h.sym : Int)),.t 2 (.i .i64 (h.st : Int)),.t 4 (.b (decide (h.empty.num < 0))),.t 22 (lim (Lb.nat h.empty.num.natAbs)),.t 22 (den1 h.empty.den),.t 25 (v_ h.init),.t 26 (R_ h.trans),.t 25 (v_ h.stop),.t 26 (R_ h.emit),.t 27 (b_b (List.replicate h.st false)),.t 28 (intT h.ties),.own 31 0 (sesL h ss),.t 2 (.i .i64 (made : Int))],.t 35 (reqT kind n seq syms tok)] Z13 [endT n (intT (o.done ++ (finO h o).2)) (finO h o).1,.i .i64 0,.i .i64 (h.sym : Int),.i .i64 (h.st : Int),.b (decide (h.empty.num < 0)),lim (Lb.nat h.empty.num.natAbs),den1 h.empty.den,v_ h.init,R_ h.trans,v_ h.stop,R_ h.emit,b_b (List.replicate h.st false),intT h.ties,.l (sesL h (ss.eraseIdx k)),.i .i64 (made : Int)]:=by
 have hyes : k < ss.length ∧ ((ss.getD k (0,on0)).1 : Int) = n:=⟨hkl,by rw [hx];exact hn⟩;have hat : (T.l (sesL h ss)).list.getD (0 + (T.i .i64 (k : Int)).int.toNat) T.u = sesT h (num,o):=by
  show (sesL h ss).getD (0 + ((k : Nat) : Int).toNat) T.u = _
  rw [Nat.zero_add,Int.toNat_natCast,d_r h ss hyes.1,hx]
 have hlen : (T.l (sesL h ss)).list.length = ss.length:=a_L h ss;have htk : List.take ss.length (T.l (sesL h ss)).list = sesL h ss:=List.take_of_length_le (Nat.le_of_eq (a_L h ss));have fin:=k_Q hk H;rw [if_pos hp] at fin;have del:=o_N (sesL h ss) k (by rw [a_L];exact hkl) (by rw [a_L];exact hl);rw [m_d] at del;refine n_l _ _ _ _ _ _ _ _ _ _ _ _ _ _ _ _ _ _ _ _ _ _ _ _ _ _ _ _ _ ?_;refine ⟨_,_,_,_,_,_,_,_,_,_,_,_,_,_,_,h_c h ss made n k (by omega) hf,fun q => ?_,fun q => ?_⟩
 ·exfalso
  rw [decide_eq_true hyes] at q;cases q
 ·rw [hat,show (sesT h (num,o)).part 1 15 = onT h o from rfl,hlen,htk,k_,c_ (by omega),show ((k : Int) + 1) = ((k + 1 : Nat) : Int) from by omega]
  refine ⟨⟨by omega,by omega⟩,_,_,_,fin,fun g => (by cases g),fun _ => ⟨_,del,⟨trivial,trivial⟩,rfl,rfl,rfl,rfl,rfl,rfl,rfl,rfl,rfl,rfl,rfl,rfl,rfl,rfl,rfl,trivial⟩⟩
theorem n_c {h : Md} {c : Nat} (hk : MdOk h c) (ss : List (Nat × On)) (made : Nat) (kind n seq : Int) (syms : List Int) (tok : T) (k : Nat) (hl : ss.length ≤ 8) (hf : Fnd ss n k) (hkl : k < ss.length) (num : Nat) (o : On) (hx : ss.getD k (0,on0) = (num,o)) (hn : (num : Int) = n)
  (H : OnOk h c o) (hp : ¬ 0 < (finO h o).1) :
  F 99 [.box 111 13 [.t 2 (.i .i64 (h.sym : Int)),.t 2 (.i .i64 (h.st : Int)),.t 4 (.b (decide (h.empty.num < 0))),.t 22 (lim (Lb.nat h.empty.num.natAbs)),.t 22 (den1 h.empty.den),.t 25 (v_ h.init),.t 26 (R_ h.trans),.t 25 (v_ h.stop),.t 26 (R_ h.emit),.t 27 (b_b (List.replicate h.st false)),.t 28 (intT h.ties),.own 31 0 (sesL h ss),.t 2 (.i .i64 (made : Int))],.t 35 (reqT kind n seq syms tok)] Z13 [ans0,.i .i64 11,.i .i64 (h.sym : Int),.i .i64 (h.st : Int),.b (decide (h.empty.num < 0)),lim (Lb.nat h.empty.num.natAbs),den1 h.empty.den,v_ h.init,R_ h.trans,v_ h.stop,R_ h.emit,b_b (List.replicate h.st false),intT h.ties,.l (sesL h ss),.i .i64 (made : Int)]:=by
 have hyes : k < ss.length ∧ ((ss.getD k (0,on0)).1 : Int) = n:=⟨hkl,by rw [hx];exact hn⟩;have hat : (T.l (sesL h ss)).list.getD (0 + (T.i .i64 (k : Int)).int.toNat) T.u = sesT h (num,o):=by
  show (sesL h ss).getD (0 + ((k : Nat) : Int).toNat) T.u = _
  rw [Nat.zero_add,Int.toNat_natCast,d_r h ss hyes.1,hx]
 have hlen : (T.l (sesL h ss)).list.length = ss.length:=a_L h ss;have fin:=k_Q hk H;rw [if_neg hp] at fin;refine n_l _ _ _ _ _ _ _ _ _ _ _ _ _ _ _ _ _ _ _ _ _ _ _ _ _ _ _ _ _ ?_;refine ⟨_,_,_,_,_,_,_,_,_,_,_,_,_,_,_,h_c h ss made n k (by omega) hf,fun q => ?_,fun q => ?_⟩
 ·exfalso
  rw [decide_eq_true hyes] at q;cases q
 ·rw [hat,show (sesT h (num,o)).part 1 15 = onT h o from rfl,hlen,k_]
  exact ⟨⟨by omega,by omega⟩,_,_,_,fin,fun _ => ⟨⟨trivial,trivial⟩,rfl,rfl,rfl,rfl,rfl,rfl,rfl,rfl,rfl,rfl,rfl,rfl,rfl,rfl,rfl,trivial⟩,fun g => (by cases g)⟩
theorem s_Z {h : Md} {c : Nat} {s : Srv} (hk : MdOk h c) (H : b_O h c s) (n seq : Int) (syms : List Int) (tok : T) (k : Nat) (hfn : Fnd s.ss n k) :
  F 29 [.t 32 (srvT h s),.t 35 (reqT 5 n seq syms tok)] Z10 [srvT h (endS h s n k).1,(endS h s n k).2]:=by
 have hf:=H.few;have h57 : (sesL h s.ss).length ≤ 2 ^ 30:=by rw [a_L];omega
 have hb : f_E Tryz.prog 58 ((reqT 5 n seq syms tok).cell 0).int (some 99):=bind5;refine r_Q _ _ _ _ ?_;refine ⟨_,g_b (sesL h s.ss) h57,?_⟩;refine ⟨hb,fun q => ?_,fun _ => ?_⟩
 ·cases q
 unfold endS
 by_cases hy : k < s.ss.length ∧ ((s.ss.getD k (0,on0)).1 : Int) = n
 ·rw [if_pos hy]
  have Hx:=H.ok _ (r_ (d:=(0,on0)) hy.1)
  generalize hx : s.ss.getD k (0,on0) = x at *
  obtain ⟨num,o⟩:=x;have hn : (num : Int) = n:=hy.2;dsimp only at Hx ⊢
  by_cases hp : 0 < (finO h o).1
  ·rw [if_pos hp]
   exact ⟨_,_,_,_,_,_,_,_,_,_,_,_,_,_,_,u_F hk s.ss s.made 5 n seq syms tok k hf hfn hy.1 num o hx hn Hx hp,fun q => (by cases q),fun _ => ⟨trivial,rfl,rfl,trivial⟩⟩
  ·rw [if_neg hp]
   exact ⟨_,_,_,_,_,_,_,_,_,_,_,_,_,_,_,n_c hk s.ss s.made 5 n seq syms tok k hf hfn hy.1 num o hx hn Hx hp,fun _ => ⟨trivial,rfl,rfl,trivial⟩,fun q => (by cases q)⟩
 ·rw [if_neg hy]
  exact ⟨_,_,_,_,_,_,_,_,_,_,_,_,_,_,_,n_e h s.ss s.made 5 n seq syms tok k hf hfn hy,fun _ => ⟨trivial,rfl,rfl,trivial⟩,fun q => (by cases q)⟩
end Go.Pq
namespace Go.Pl
def within (x : Int) (m : Nat) : Nat:=(x % (m : Int)).toNat
theorem a_6 (x : Int) {m : Nat} (h : 0 < m) : within x m < m:=by unfold within;have:=Int.emod_lt_of_pos x (show (0 : Int) < (m : Int) by omega);have:=Int.emod_nonneg x (show (m : Int) ≠ 0 by omega);omega
def b_i (L : List Int) (at' n : Nat) : Nat × Nat:=if L.length ≤ at' then (0,at') else (within (L.getD at' 0) n,at' + 1)
theorem k_2 (L : List Int) (a : Nat) {n : Nat} (h : 0 < n) : (b_i L a n).1 < n:=by
 unfold b_i;split
 ·exact h
 ·exact a_6 _ h
theorem d_D (L : List Int) {a : Nat} (h : a ≤ L.length) (n : Nat) : (b_i L a n).2 ≤ L.length:=by
 unfold b_i;split
 ·exact h
 ·show a + 1 ≤ _;omega
def i_Y (v : Nat) : Nat:=if v = 3 then 0 else v
def F_ (L : List Int) (a : Nat) : Nat → List Nat × Nat
 | 0 => ([],a)
 | k + 1 => ((F_ L a k).1 ++ [i_Y (b_i L (F_ L a k).2 4).1],(b_i L (F_ L a k).2 4).2)
theorem i_0 (L : List Int) {a : Nat} (h : a ≤ L.length) : ∀ k,(F_ L a k).2 ≤ L.length ∧ (F_ L a k).1.length = k ∧ ∀ x ∈ (F_ L a k).1,x ≤ 2:=by
 intro k
 induction k with
 | zero => exact ⟨h,rfl,fun x hx => by cases hx⟩
 | succ k ih =>
  obtain ⟨h1,h2,h3⟩:=ih;refine ⟨d_D L h1 4,by show (_ ++ [_]).length = _;simp [h2],?_⟩;intro x hx
  rcases List.mem_append.1 hx with q | q
  ·exact h3 x q
  ·simp only [List.mem_singleton] at q
   subst q
   have:=k_2 L (F_ L a k).2 (show 0 < 4 by decide)
   unfold i_Y;split <;> omega
def fixT (L : List Int) (a n : Nat) : List Nat × Nat :=
 if (F_ L a n).1.sum = 0 then ((F_ L a n).1.set (within ((b_i L (F_ L a n).2 100).1 : Int) n) 1,(b_i L (F_ L a n).2 100).2) else F_ L a n
theorem l_p {l : List Nat} (h : l.sum = 0) : ∀ x ∈ l,x = 0:=by
 induction l with
 | nil => intro x hx;cases hx
 | cons a r ih =>
  simp only [List.sum_cons] at h;intro x hx
  rcases List.mem_cons.1 hx with rfl | q
  ·omega
  ·exact ih (by omega) x q
theorem o_i {l : List Nat} {k : Nat} (hk : k < l.length) (h : ∀ x ∈ l,x = 0) : (l.set k 1).sum = 1:=by
 induction l generalizing k with
 | nil => cases hk
 | cons a r ih =>
  have ha:=h a (by simp);have hr : r.sum = 0:=by
   clear ih hk
   induction r with
   | nil => rfl
   | cons b t ih =>
    have hb:=h b (by simp)
    have:=ih (fun x hx => h x (by rcases List.mem_cons.1 hx with q | q <;> simp [q]))
    simp [hb,this]
  match k with
  | 0 => simp [hr]
  | k + 1 => simp only [List.set_cons_succ,List.sum_cons,ha,Nat.zero_add];exact ih (by simpa using hk) (fun x hx => h x (by simp [hx]))
theorem q_d {l : List Nat} (c : Nat) (h : ∀ x ∈ l,x ≤ c) : l.sum ≤ c * l.length:=by
 induction l with
 | nil => simp
 | cons a r ih =>
  have h1:=h a (by simp);have h2:=ih fun x hx => h x (by simp [hx])
  simp only [List.sum_cons,List.length_cons,Nat.mul_add,Nat.mul_one];omega
theorem h_g {l : List Nat} {x : Nat} (h : x ∈ l) : x ≤ l.sum:=by
 induction l with
 | nil => cases h
 | cons a r ih =>
  simp only [List.sum_cons]
  rcases List.mem_cons.1 h with rfl | q
  ·omega
  ·have:=ih q;omega
theorem n_p (L : List Int) {a : Nat} (h : a ≤ L.length) {n : Nat} (hn : 0 < n) : (fixT L a n).2 ≤ L.length ∧ (fixT L a n).1.length = n ∧ 0 < (fixT L a n).1.sum ∧ (fixT L a n).1.sum ≤ 2 * n:=by
 obtain ⟨h1,h2,h3⟩:=i_0 L h n;unfold fixT;split
 ·rename_i q
  have hw:=a_6 ((b_i L (F_ L a n).2 100).1 : Int) hn;have h4:=o_i (l:=(F_ L a n).1) (k:=within ((b_i L (F_ L a n).2 100).1 : Int) n) (by omega) (l_p q);exact ⟨d_D L h1 100,by show (List.set _ _ _).length = n;rw [List.length_set];exact h2,by show 0 < (List.set _ _ _).sum;omega,by show (List.set _ _ _).sum ≤ _;omega⟩
 ·rename_i q
  have:=q_d 2 h3
  rw [h2] at this;exact ⟨h1,h2,by omega,this⟩
def a_G (p : List Nat) : List Rat:=p.map fun x : Nat => mkQ (x : Int) (p.sum : Int)
def u_ (L : List Int) (a n : Nat) : List Rat × Nat:=(a_G (fixT L a n).1,(fixT L a n).2)
theorem n_G (a b : Nat) : mkQ (a : Int) (b : Int) = mkRat (a : Int) b:=by
 unfold mkQ frac sg;have h1 : decide ((a : Int) < 0) = false:=decide_eq_false (by omega);have h2 : decide ((b : Int) < 0) = false:=decide_eq_false (by omega);rw [h1,h2];simp
theorem g_s (a b : Nat) : mkRat (a : Int) b = (a : Rat) * mkRat 1 b:=by
 rw [Rat.mkRat_eq_div,Rat.mkRat_eq_div,Rat.div_def,Rat.div_def];have e1 : ((1 : Int) : Rat) = 1:=rfl;have e2 : ((a : Int) : Rat) = (a : Rat):=rfl;rw [e1,e2,Rat.one_mul]
theorem h_h {b : Nat} (hb : 0 < b) : (b : Rat) * mkRat 1 b = 1:=by
 rw [← g_s,Rat.mkRat_eq_div,Rat.div_def];have : ((b : Int) : Rat) ≠ 0:=by
  intro h;have : (b : Int) = 0:=by exact_mod_cast h
  omega
 exact Rat.mul_inv_cancel _ this
theorem i_T (b : Nat) : 0 ≤ mkRat 1 b:=by
 rw [← Rat.num_nonneg,Rat.num_mkRat];split
 ·exact Int.le_refl _
 ·exact Int.ediv_nonneg (by decide) (by omega)
theorem l_o {a b : Nat} (h : a ≤ b) (hb : 0 < b) : Share (mkQ (a : Int) (b : Int)):=by
 rw [n_G,g_s];refine ⟨Rat.mul_nonneg (by exact_mod_cast Nat.zero_le a) (i_T b),?_⟩;have h1 : (a : Rat) ≤ (b : Rat):=by exact_mod_cast h
 have:=Rat.mul_le_mul_of_nonneg_right h1 (i_T b)
 rwa [h_h hb] at this
theorem u_i {a b : Nat} (h : a < 2 ^ 32) (hb : b < 2 ^ 32) (hb0 : 0 < b) : rl (mkQ (a : Int) (b : Int)) ≤ 1:=by
 unfold mkQ
 have:=j_V (!(decide ((a : Int) < 0) == decide ((b : Int) < 0))) (a : Int).natAbs (b : Int).natAbs (by omega)
 have h1 : (Lb.nat (a : Int).natAbs).length ≤ 1:=Lb.b_P _ _ (by rw [Nat.pow_one];show _ < 4294967296;omega);have h2 : (Lb.nat (b : Int).natAbs).length ≤ 1:=Lb.b_P _ _ (by rw [Nat.pow_one];show _ < 4294967296;omega);omega
theorem m_k (f : Nat → Rat) (u : Rat) (hf : ∀ x,f x = (x : Rat) * u) (p : List Nat) : ∀ a,(p.map f).foldl (· + ·) a = a + (p.sum : Rat) * u:=by
 induction p with
 | nil => intro a;simp [Rat.zero_mul,Rat.add_zero]
 | cons x r ih =>
  intro a;simp only [List.map_cons,List.foldl_cons,List.sum_cons];rw [ih,hf,Rat.natCast_add,Rat.add_mul,Rat.add_assoc]
theorem m_l {p : List Nat} (h : 0 < p.sum) : sumQ (a_G p) = 1:=by
 unfold a_G sumQ;rw [m_k _ (mkRat 1 p.sum) (fun x => by rw [n_G,g_s]) p 0,h_h h,Rat.zero_add]
theorem b_z (L : List Int) {a : Nat} (h : a ≤ L.length) {n : Nat} (hn : 0 < n ∧ n ≤ 1000) : (u_ L a n).2 ≤ L.length ∧ (u_ L a n).1.length = n ∧ sumQ (u_ L a n).1 = 1 ∧ ∀ q ∈ (u_ L a n).1,rl q ≤ 1 ∧ Share q:=by
 obtain ⟨h1,h2,h3,h4⟩:=n_p L h hn.1;refine ⟨h1,by show (a_G _).length = n;unfold a_G;rw [List.length_map];exact h2,m_l h3,?_⟩;intro q hq;obtain ⟨x,hx,rfl⟩:=List.mem_map.1 hq
 have:=h_g hx
 exact ⟨u_i (by omega) (by omega) h3,l_o this h3⟩
def tieT (L : List Int) (em : List (List Rat)) (ties : List Nat) (e : List Rat) : Nat → Nat → Nat → Nat → Nat × Nat
 | 0,_,a,t => (a,t)
 | n + 1,j,a,t => if (b_i L a 3).1 = 0 then tieT L em ties e n (j + 1) (b_i L a 3).2 (if em.getD j [] = e then ties.getD j 0 else t) else ((b_i L a 3).2,t)
structure Mk where
 pos : Nat
 trans : List (List Rat)
 stop : List Rat
 emit : List (List Rat)
 ties : List Nat
def i_U (L : List Int) (st sym i : Nat) (m : Mk) : Mk :=
 ⟨(tieT L m.emit m.ties (u_ L (u_ L m.pos (st + 1)).2 sym).1 i 0 (u_ L (u_ L m.pos (st + 1)).2 sym).2 i).1,
  m.trans ++ [(u_ L m.pos (st + 1)).1.take st],m.stop ++ [(u_ L m.pos (st + 1)).1.getD st 0],m.emit ++ [(u_ L (u_ L m.pos (st + 1)).2 sym).1],
  m.ties ++ [(tieT L m.emit m.ties (u_ L (u_ L m.pos (st + 1)).2 sym).1 i 0 (u_ L (u_ L m.pos (st + 1)).2 sym).2 i).2]⟩
def mkN (L : List Int) (st sym : Nat) : Nat → Mk
 | 0 => ⟨(u_ L 0 (st + 1)).2,[],[],[],[]⟩
 | i + 1 => i_U L st sym i (mkN L st sym i)
def f_9 (S Y : Int) (L : List Int) (most : Nat) : Md :=
 ⟨1 + within Y 3,1 + within S most,(u_ L 0 (1 + within S most + 1)).1.getD (1 + within S most) 0,(u_ L 0 (1 + within S most + 1)).1.take (1 + within S most),
  (mkN L (1 + within S most) (1 + within Y 3) (1 + within S most)).trans,(mkN L (1 + within S most) (1 + within Y 3) (1 + within S most)).stop,
  (mkN L (1 + within S most) (1 + within Y 3) (1 + within S most)).emit,(mkN L (1 + within S most) (1 + within Y 3) (1 + within S most)).ties⟩
structure MkOk (L : List Int) (st sym i : Nat) (m : Mk) : Prop where
 pos : m.pos ≤ L.length
 tl : m.trans.length = i
 sl : m.stop.length = i
 el : m.emit.length = i
 il : m.ties.length = i
 rows : ∀ r ∈ m.trans,r.length = st ∧ ∀ q ∈ r,rl q ≤ 1 ∧ Share q
 stops : ∀ q ∈ m.stop,rl q ≤ 1 ∧ Share q
 shows : ∀ r ∈ m.emit,r.length = sym ∧ sumQ r = 1 ∧ ∀ q ∈ r,rl q ≤ 1 ∧ Share q
 sums : ∀ k,k < i → m.stop.getD k 0 + sumQ (m.trans.getD k []) = 1
 le : ∀ k,k < i → m.ties.getD k 0 ≤ k
 tied : ∀ k j,k < i → j < k → m.ties.getD k 0 = m.ties.getD j 0 → m.emit.getD k [] = m.emit.getD j []
theorem s_z (L : List Int) (em : List (List Rat)) (ties : List Nat) (e : List Rat) (i : Nat) (hle : ∀ k,k < i → ties.getD k 0 ≤ k) :
  ∀ n j a t,j + n = i → a ≤ L.length → (t = i ∨ ∃ k,k < i ∧ t = ties.getD k 0 ∧ em.getD k [] = e) →
   (tieT L em ties e n j a t).1 ≤ L.length ∧ ((tieT L em ties e n j a t).2 = i ∨ ∃ k,k < i ∧ (tieT L em ties e n j a t).2 = ties.getD k 0 ∧ em.getD k [] = e):=by
 intro n
 induction n with
 | zero => intro j a t _ ha ht;exact ⟨ha,ht⟩
 | succ n ih =>
  intro j a t hj ha ht;unfold tieT;split
  ·refine ih (j + 1) _ _ (by omega) (d_D L ha 3) ?_
   split
   ·rename_i q;exact .inr ⟨j,by omega,rfl,q⟩
   ·exact ht
  ·exact ⟨d_D L ha 3,ht⟩
theorem a_5 {α : Type} (l : List α) (x d : α) (i : Nat) : (l ++ [x]).getD i d = if i < l.length then l.getD i d else if i = l.length then x else d:=by
 rw [List.getD_eq_getElem?_getD,List.getD_eq_getElem?_getD,List.getElem?_append]
 by_cases g : i < l.length
 ·rw [if_pos g,if_pos g]
 ·rw [if_neg g,if_neg g]
  by_cases g2 : i = l.length
  ·rw [if_pos g2,g2,Nat.sub_self];rfl
  ·rw [if_neg g2]
   obtain ⟨d',hd⟩ : ∃ d',i - l.length = d' + 1:=⟨i - l.length - 1,by omega⟩;rw [hd];rfl
theorem p_Y (L : List Int) {st sym : Nat} (hst : 1 ≤ st ∧ st ≤ 8) (hsy : 1 ≤ sym ∧ sym ≤ 8) : ∀ i,i ≤ st → MkOk L st sym i (mkN L st sym i):=by
 intro i
 induction i with
 | zero =>
  intro _;refine ⟨(b_z L (Nat.zero_le _) (by omega)).1,rfl,rfl,rfl,rfl,?_,?_,?_,?_,?_,?_⟩
  ·intro x hx;cases hx
  ·intro x hx;cases hx
  ·intro x hx;cases hx
  ·intro k hk;exact absurd hk (by omega)
  ·intro k hk;exact absurd hk (by omega)
  ·intro k j hk;exact absurd hk (by omega)
 | succ i ih =>
  intro hi;have M:=ih (by omega);have s1:=b_z L M.pos (show 0 < st + 1 ∧ st + 1 ≤ 1000 by omega);have s2:=b_z L s1.1 (show 0 < sym ∧ sym ≤ 1000 by omega);have t1:=s_z L (mkN L st sym i).emit (mkN L st sym i).ties (u_ L (u_ L (mkN L st sym i).pos (st + 1)).2 sym).1 i M.le i 0 _ i (by omega) s2.1 (.inl rfl)
  show MkOk L st sym (i + 1) (i_U L st sym i (mkN L st sym i))
  unfold i_U
  generalize hm : mkN L st sym i = m at *
  generalize hl : (u_ L m.pos (st + 1)).1 = l at *
  generalize he : (u_ L (u_ L m.pos (st + 1)).2 sym).1 = e at *
  generalize ht : tieT L m.emit m.ties e i 0 (u_ L (u_ L m.pos (st + 1)).2 sym).2 i = t at *
  have htl : t.2 ≤ i:=by
   rcases t1.2 with q | ⟨k,k1,k2,-⟩
   ·omega
   ·have:=M.le k k1;omega
  have hmem : l.getD st 0 ∈ l:=r_ (by omega);refine ⟨t1.1,by simp [M.tl],by simp [M.sl],by simp [M.el],by simp [M.il],?_,?_,?_,?_,?_,?_⟩
  ·intro r hr
   rcases List.mem_append.1 hr with q | q
   ·exact M.rows r q
   ·simp only [List.mem_singleton] at q
    subst q;exact ⟨by rw [List.length_take];omega,fun q hq => s1.2.2.2 q (List.mem_of_mem_take hq)⟩
  ·intro q hq
   rcases List.mem_append.1 hq with q' | q'
   ·exact M.stops q q'
   ·simp only [List.mem_singleton] at q'
    subst q';exact s1.2.2.2 _ hmem
  ·intro r hr
   rcases List.mem_append.1 hr with q | q
   ·exact M.shows r q
   ·simp only [List.mem_singleton] at q
    subst q;exact ⟨s2.2.1,s2.2.2.1,s2.2.2.2⟩
  ·intro k hk
   show (m.stop ++ [_]).getD k 0 + sumQ ((m.trans ++ [_]).getD k []) = 1
   rw [a_5,a_5,M.sl,M.tl]
   by_cases q : k < i
   ·rw [if_pos q,if_pos q];exact M.sums k q
   ·rw [if_neg q,if_neg q,if_pos (by omega),if_pos (by omega)]
    have h1:=d_s l (k:=st) (by omega);rw [List.take_of_length_le (by omega),s1.2.2.1] at h1;rw [Rat.add_comm];exact h1.symm
  ·intro k hk
   show (m.ties ++ [_]).getD k 0 ≤ k
   rw [a_5,M.il]
   by_cases q : k < i
   ·rw [if_pos q];exact M.le k q
   ·rw [if_neg q,if_pos (by omega)];omega
  ·intro k j hk hj
   show (m.ties ++ [_]).getD k 0 = (m.ties ++ [_]).getD j 0 → (m.emit ++ [_]).getD k [] = (m.emit ++ [_]).getD j []
   rw [a_5,a_5,a_5,a_5,M.il,M.el,if_pos (show j < i by omega),if_pos (show j < i by omega)]
   by_cases q : k < i
   ·rw [if_pos q,if_pos q];exact M.tied k j q hj
   ·rw [if_neg q,if_neg q,if_pos (by omega),if_pos (by omega)]
    intro heq
    rcases t1.2 with q1 | ⟨k2,k3,k4,k5⟩
    ·have:=M.le j (by omega);omega
    ·rw [k4] at heq
     rw [← k5]
     rcases Nat.lt_trichotomy k2 j with g | g | g
     ·exact (M.tied j k2 (by omega) g heq.symm).symm
     ·rw [g]
     ·exact M.tied k2 j k3 g heq
theorem k_G (S Y : Int) (L : List Int) {most : Nat} (hm : 1 ≤ most ∧ most ≤ 6) : MdOk (f_9 S Y L most) 1:=by
 have w1:=a_6 S (show 0 < most by omega);have w2:=a_6 Y (show 0 < 3 by omega)
 have M:=p_Y L (st:=1 + within S most) (sym:=1 + within Y 3) (by omega) (by omega) (1 + within S most) (Nat.le_refl _)
 have s1:=b_z L (Nat.zero_le _) (show 0 < 1 + within S most + 1 ∧ 1 + within S most + 1 ≤ 1000 by omega)
 refine ⟨⟨by show 1 ≤ 1 + within Y 3;omega,by show 1 + within Y 3 ≤ 8;omega⟩,⟨by show 1 ≤ 1 + within S most;omega,by show 1 + within S most ≤ 8;omega⟩,⟨Nat.le_refl _,by decide⟩,?_,M.tl,M.sl,M.el,M.il,fun r hr => (M.rows r hr).1,fun r hr => (M.shows r hr).1,?_,?_,?_,fun r hr => (M.rows r hr).2,M.stops,fun r hr => (M.shows r hr).2.2,?_,M.sums,fun r hr => (M.shows r hr).2.1,M.tied⟩
 ·show ((u_ L 0 (1 + within S most + 1)).1.take (1 + within S most)).length = _
  rw [List.length_take,s1.2.1]
  show min (1 + within S most) _ = 1 + within S most
  omega
 ·intro t ht
  have ht' : t ∈ (mkN L (1 + within S most) (1 + within Y 3) (1 + within S most)).ties:=ht;obtain ⟨k,hk,rfl⟩:=List.getElem_of_mem ht'
  have hk' : k < 1 + within S most:=by have:=M.il;omega
  have:=M.le k hk'
  rw [List.getD_eq_getElem?_getD,List.getElem?_eq_getElem hk] at this;simp only [Option.getD_some] at this
  show _ < 1 + within S most
  omega
 ·exact s1.2.2.2 _ (r_ (by omega))
 ·intro q hq
  exact s1.2.2.2 q (List.mem_of_mem_take hq)
 ·have h1:=d_s (u_ L 0 (1 + within S most + 1)).1 (k:=1 + within S most) (by omega)
  rw [List.take_of_length_le (by omega),s1.2.2.1] at h1
  show (u_ L 0 (1 + within S most + 1)).1.getD (1 + within S most) 0 + sumQ ((u_ L 0 (1 + within S most + 1)).1.take (1 + within S most)) = 1
  rw [Rat.add_comm];exact h1.symm
end Go.Pl
namespace Go.Pq
open Go.Pl Go.Proofs
def C43 : Ctx:=⟨tab,sigs,167,[0,1,2,3,6,7,8,9,10,11,12,13,14,15,16,20],[cell 8 6,cell 8 7,cell 8 8,cell 8 9,cell 8 10,fld 30 11 6,fld 30 11 7,fld 30 11 8,fld 30 11 9,fld 30 11 10,a_ 12,a_ 30,spl 54,spl 129],[(80,⟨[],[(0,[false,false])],[]⟩),(81,⟨[],[(0,[false,false])],[]⟩)],[],[],[]⟩
theorem t_i (a0 : T) (a1 : T) (a2 : T) (y0 : T) (I0 : X16 → Prop) (M0 : X16 → Nat) (I1 : X16 → (Bool × Nat) → Prop) (I2 : X16 → (Bool × Nat) → X18 → Prop) (I3 : X16 → (Bool × Nat) → X18 → X19 → Prop) (I4 : X16 → (Bool × Nat) → X17 → Prop) (M4 : X16 → (Bool × Nat) → X17 → Nat) (I5 : X16 → (Bool × Nat) → X18 → X19 → X6 → Prop) (M5 : X16 → (Bool × Nat) → X18 → X19 → X6 → Nat) (h : ∃ y : T,F 19 [.t 2 (a0.cell 0),.t 2 a1] (zo 2 2) [y] ∧ ∃ y_1 : T,F 19 [.t 2 (a0.cell 1),.t 2 (kI 3)] (zo 2 2) [y_1] ∧ ∃ y_2 y_3 y_4 : T,F 80 [.box 129 2 [.t 28 ((a0.cell 2).cell 0),.t 2 (kI 0)],.t 2 (kI (addI .i64 (addI .i64 1 y.int) 1))] Z7 [y_2,y_3,y_4] ∧ (Bd (addI .i64 1 y.int) (lenOf y_2.list)) ∧ (0 ≤ (0 : Int) ∧ 0 ≤ addI .i64 1 y.int ∧ addI .i64 1 y.int ≤ lenOf y_2.list) ∧ (∃ (i : X16),I0 i ∧ R48 a0 a1 a2 (y_3 = a0.cell 2 ∧ y_4 = kI ↑i.2.2.2.2.2.2.1 ∧ True ∧ True ∧ kI (addI .i64 1 y_1.int) = i.1.cell 0 ∧ kI (addI .i64 1 y.int) = i.1.cell 1 ∧ ((y_2.list.getD (addI .i64 1 y.int).toNat T.u).part 0 3).cell 0 = i.1.cell 2 ∧ ((y_2.list.getD (addI .i64 1 y.int).toNat T.u).part 0 3).cell 1 = i.1.cell 3 ∧ ((y_2.list.getD (addI .i64 1 y.int).toNat T.u).part 0 3).cell 2 = i.1.cell 4 ∧ T.l (List.take (addI .i64 1 y.int - (0 : Int)).toNat (List.drop 0 y_2.list)) = i.1.cell 5 ∧ [] = i.2.1 ∧ [] = i.2.2.1 ∧ [] = i.2.2.2.1 ∧ [] = i.2.2.2.2.1 ∧ [] = i.2.2.2.2.2.1 ∧ kI 0 = kI ↑i.2.2.2.2.2.2.2 ∧ True)) ∧ (∀ (i : X16),true = true) ∧ ∀ (i : X16),I0 i → (ltI ↑i.2.2.2.2.2.2.2 (i.1.cell 1).int = true → ((a2.bool = true → ∃ y y_5 y_6 : T,F 81 [.box 129 2 [.t 28 (a0.cell 2),.t 2 (kI ↑i.2.2.2.2.2.2.1)],.t 2 (kI 3)] Z6 [y,y_5,y_6] ∧ ∃ (i_1 : Bool × Nat),I1 i i_1 ∧ R48 a0 a1 a2 (y_5 = a0.cell 2 ∧ y_6 = kI ↑i_1.2 ∧ R49 i.1 i.2.1 i.2.2.1 i.2.2.2.1 i.2.2.2.2.1 i.2.2.2.2.2.1 i.2.2.2.2.2.2.2 (T.b (eqI y.int 0) = T.b i_1.1 ∧ True))) ∧ (a2.bool = false → ∃ (i_1 : Bool × Nat),I1 i i_1 ∧ R50 a0 a1 a2 (kI ↑i.2.2.2.2.2.2.1 = kI ↑i_1.2 ∧ R49 i.1 i.2.1 i.2.2.1 i.2.2.2.1 i.2.2.2.2.1 i.2.2.2.2.2.1 i.2.2.2.2.2.2.2 (T.b false = T.b i_1.1 ∧ True)))) ∧ (∀ (i : Bool × Nat),true = true) ∧ ∀ (i_1 : Bool × Nat),I1 i i_1 → ∃ y y_5 y_6 : T,F 80 [.box 129 2 [.t 28 (a0.cell 2),.t 2 (kI ↑i_1.2)],.t 2 (kI (addI .i64 (i.1.cell 1).int (1 : Int)))] Z7 [y,y_5,y_6] ∧ ((i_1.1 = true → (∃ (i_2 : X17),I4 i i_1 i_2 ∧ R48 a0 a1 a2 (y_5 = a0.cell 2 ∧ y_6 = kI ↑i_2.2.1 ∧ R49 i.1 i.2.1 i.2.2.1 i.2.2.2.1 i.2.2.2.2.1 i.2.2.2.2.2.1 i.2.2.2.2.2.2.2 (T.b i_1.1 = T.b i_2.2.2.2 ∧ y = i_2.2.2.1 ∧ kI 0 = kI ↑i_2.1 ∧ True))) ∧ (∀ (i : X17),true = true) ∧ ∀ (i_2 : X17),I4 i i_1 i_2 → (leI ↑i_2.1 ↑i.2.2.2.2.2.2.2 = true → (Bd ((i.1.cell 1).int) (lenOf i_2.2.2.1.list)) ∧ (Bd ↑i_2.1 (lenOf i_2.2.2.1.list)) ∧ ∃ y : T,F 78 [.t 23 ((i_2.2.2.1.list.getD (i.1.cell 1).int.toNat T.u).part 0 3),.t 23 ((i_2.2.2.1.list.getD (↑i_2.1 : Int).toNat T.u).part 0 3)] (zo 2 23) [y] ∧ (Bd ((i.1.cell 1).int) (lenOf i_2.2.2.1.list)) ∧ False) ∧ (leI ↑i_2.1 ↑i.2.2.2.2.2.2.2 = false → ∃ (i_3 : X18),I2 i i_1 i_3 ∧ R50 a0 a1 a2 (kI ↑i_2.2.1 = kI ↑i_3.2.1 ∧ R49 i.1 i.2.1 i.2.2.1 i.2.2.2.1 i.2.2.2.2.1 i.2.2.2.2.2.1 i.2.2.2.2.2.2.2 (T.b i_2.2.2.2 = T.b i_3.1 ∧ i_2.2.2.1 = i_3.2.2 ∧ True)))) ∧ (i_1.1 = false → ∃ (i_2 : X18),I2 i i_1 i_2 ∧ R48 a0 a1 a2 (y_5 = a0.cell 2 ∧ y_6 = kI ↑i_2.2.1 ∧ R49 i.1 i.2.1 i.2.2.1 i.2.2.2.1 i.2.2.2.2.1 i.2.2.2.2.2.1 i.2.2.2.2.2.2.2 (T.b i_1.1 = T.b i_2.1 ∧ y = i_2.2.2 ∧ True)))) ∧ (∀ (i : X18),true = true) ∧ ∀ (i_2 : X18),I2 i i_1 i_2 → (0 ≤ (0 : Int) ∧ 0 ≤ (i.1.cell 1).int ∧ (i.1.cell 1).int ≤ lenOf i_2.2.2.list) ∧ (Rm ((List.take i.2.1.length i.2.1).length + ((List.replicate 1 (T.l [])).set 0 (T.l (List.take ((i.1.cell 1).int - (0 : Int)).toNat (List.drop 0 i_2.2.2.list)))).length) 24) ∧ (Bd ((i.1.cell 1).int) (lenOf i_2.2.2.list)) ∧ (Rm ((List.take i.2.2.1.length i.2.2.1).length + ((List.replicate 1 (T.g [T.b false,T.l [],T.l []])).set 0 ((i_2.2.2.list.getD (i.1.cell 1).int.toNat T.u).part 0 3)).length) 56) ∧ (Rm ((List.take i.2.2.2.2.1.length i.2.2.2.2.1).length + ((List.replicate 1 (T.b false)).set 0 (T.b i_2.1)).length) 1) ∧ (((!i_2.1) = true → ∃ y y_7 y_8 : T,F 80 [.box 129 2 [.t 28 (a0.cell 2),.t 2 (kI ↑i_2.2.1)],.t 2 (i.1.cell 0)] Z7 [y,y_7,y_8] ∧ ∃ (i_3 : X19),I3 i i_1 i_2 i_3 ∧ R48 a0 a1 a2 (y_7 = a0.cell 2 ∧ y_8 = kI ↑i_3.2.2.2.2.2 ∧ R52 i.1 (List.take i.2.1.length i.2.1 ++ (List.replicate 1 (T.l [])).set 0 (T.l (List.take ((i.1.cell 1).int - (0 : Int)).toNat (List.drop 0 i_2.2.2.list))) = i_3.1 ∧ List.take i.2.2.1.length i.2.2.1 ++ (List.replicate 1 (T.g [T.b false,T.l [],T.l []])).set 0 ((i_2.2.2.list.getD (i.1.cell 1).int.toNat T.u).part 0 3) = i_3.2.1 ∧ i.2.2.2.1 = i.2.2.2.1 ∧ List.take i.2.2.2.2.1.length i.2.2.2.2.1 ++ (List.replicate 1 (T.b false)).set 0 (T.b i_2.1) = i_3.2.2.1 ∧ R51 i.2.2.2.2.2.1 i.2.2.2.2.2.2.2 (y = i_3.2.2.2.1 ∧ T.b i_2.1 = T.b i_3.2.2.2.2.1 ∧ True)))) ∧ ((!i_2.1) = false → ∃ (i_3 : X19),I3 i i_1 i_2 i_3 ∧ R50 a0 a1 a2 (kI ↑i_2.2.1 = kI ↑i_3.2.2.2.2.2 ∧ R52 i.1 (List.take i.2.1.length i.2.1 ++ (List.replicate 1 (T.l [])).set 0 (T.l (List.take ((i.1.cell 1).int - (0 : Int)).toNat (List.drop 0 i_2.2.2.list))) = i_3.1 ∧ List.take i.2.2.1.length i.2.2.1 ++ (List.replicate 1 (T.g [T.b false,T.l [],T.l []])).set 0 ((i_2.2.2.list.getD (i.1.cell 1).int.toNat T.u).part 0 3) = i_3.2.1 ∧ i.2.2.2.1 = i.2.2.2.1 ∧ List.take i.2.2.2.2.1.length i.2.2.2.2.1 ++ (List.replicate 1 (T.b false)).set 0 (T.b i_2.1) = i_3.2.2.1 ∧ R51 i.2.2.2.2.2.1 i.2.2.2.2.2.2.2 (T.l [] = i_3.2.2.2.1 ∧ T.b i_2.1 = T.b i_3.2.2.2.2.1 ∧ True))))) ∧ (∀ (i : X19),true = true) ∧ ∀ (i_3 : X19),I3 i i_1 i_2 i_3 → (Rm ((List.take i.2.2.2.1.length i.2.2.2.1).length + ((List.replicate 1 (T.l [])).set 0 i_3.2.2.2.1).length) 24) ∧ (∃ (i_4 : X6),I5 i i_1 i_2 i_3 i_4 ∧ R50 a0 a1 a2 (kI ↑i_3.2.2.2.2.2 = kI ↑i_4.2.1 ∧ R54 i.1 i_3.1 i_3.2.1 (List.take i.2.2.2.1.length i.2.2.2.1 ++ (List.replicate 1 (T.l [])).set 0 i_3.2.2.2.1 = i_4.1 ∧ R53 i_3.2.2.1 i.2.2.2.2.2.1 i.2.2.2.2.2.2.2 i_3.2.2.2.1 i_3.2.2.2.2.1 (kI ↑i.2.2.2.2.2.2.2 = kI ↑i_4.2.2.1 ∧ kI 0 = kI ↑i_4.2.2.2 ∧ True)))) ∧ (∀ (i : X6),true = true) ∧ ∀ (i_4 : X6),I5 i i_1 i_2 i_3 i_4 → (ltI ↑i_4.2.2.2 ↑i.2.2.2.2.2.2.2 = true → ∃ y y_7 y_8 : T,F 81 [.box 129 2 [.t 28 (a0.cell 2),.t 2 (kI ↑i_4.2.1)],.t 2 (kI 3)] Z6 [y,y_7,y_8] ∧ (eqI y.int 0 = true → ((!i_3.2.2.2.2.1) = true ∧ True → 0 ≤ (↑i_4.2.2.2 : Int) ∧ (↑i_4.2.2.2 : Int) < (↑i_3.2.2.1.length : Int)) ∧ ((T.ite (!i_3.2.2.2.2.1) (T.b !((i_3.2.2.1.getD (0 + (↑i_4.2.2.2 : Int).toNat) T.u).cell 0).bool) (T.b false)).bool = true ∧ True → 0 ≤ (↑i_4.2.2.2 : Int) ∧ (↑i_4.2.2.2 : Int) < (↑i_4.1.length : Int)) ∧ ∃ y : T,((T.ite (!i_3.2.2.2.2.1) (T.b !((i_3.2.2.1.getD (0 + (↑i_4.2.2.2 : Int).toNat) T.u).cell 0).bool) (T.b false)).bool = true ∧ True → F 82 [.t 25 ((i_4.1.getD (0 + (↑i_4.2.2.2 : Int).toNat) T.u).cell 0),.t 25 i_3.2.2.2.1] (zo 2 4) [y]) ∧ ((T.ite (T.ite (!i_3.2.2.2.2.1) (T.b !((i_3.2.2.1.getD (0 + (↑i_4.2.2.2 : Int).toNat) T.u).cell 0).bool) (T.b false)).bool y (T.b false)).bool = true → (Bd ↑i_4.2.2.2 (↑i.2.2.2.2.2.1.length : Int)) ∧ ∃ (j : X6),I5 i i_1 i_2 i_3 j ∧ M5 i i_1 i_2 i_3 j < M5 i i_1 i_2 i_3 i_4 ∧ R48 a0 a1 a2 (y_7 = a0.cell 2 ∧ y_8 = kI ↑j.2.1 ∧ R54 i.1 i_3.1 i_3.2.1 (i_4.1 = j.1 ∧ R53 i_3.2.2.1 i.2.2.2.2.2.1 i.2.2.2.2.2.2.2 i_3.2.2.2.1 i_3.2.2.2.2.1 ((i.2.2.2.2.2.1.getD (0 + (↑i_4.2.2.2 : Int).toNat) T.u).cell 0 = kI ↑j.2.2.1 ∧ kI (addI .i64 ↑i_4.2.2.2 1) = kI ↑j.2.2.2 ∧ True)))) ∧ ((T.ite (T.ite (!i_3.2.2.2.2.1) (T.b !((i_3.2.2.1.getD (0 + (↑i_4.2.2.2 : Int).toNat) T.u).cell 0).bool) (T.b false)).bool y (T.b false)).bool = false → ∃ (j : X6),I5 i i_1 i_2 i_3 j ∧ M5 i i_1 i_2 i_3 j < M5 i i_1 i_2 i_3 i_4 ∧ R48 a0 a1 a2 (y_7 = a0.cell 2 ∧ y_8 = kI ↑j.2.1 ∧ R54 i.1 i_3.1 i_3.2.1 (i_4.1 = j.1 ∧ R53 i_3.2.2.1 i.2.2.2.2.2.1 i.2.2.2.2.2.2.2 i_3.2.2.2.1 i_3.2.2.2.2.1 (kI ↑i_4.2.2.1 = kI ↑j.2.2.1 ∧ kI (addI .i64 ↑i_4.2.2.2 1) = kI ↑j.2.2.2 ∧ True))))) ∧ (eqI y.int 0 = false → (Rm ((List.take i.2.2.2.2.2.1.length i.2.2.2.2.2.1).length + ((List.replicate 1 (kI 0)).set 0 (kI ↑i_4.2.2.1)).length) 8) ∧ ∃ (j : X16),I0 j ∧ M0 j < M0 i ∧ R48 a0 a1 a2 (y_7 = a0.cell 2 ∧ y_8 = kI ↑j.2.2.2.2.2.2.1 ∧ True ∧ True ∧ E6 i.1 j.1 (i_3.1 = j.2.1 ∧ i_3.2.1 = j.2.2.1 ∧ i_4.1 = j.2.2.2.1 ∧ i_3.2.2.1 = j.2.2.2.2.1 ∧ List.take i.2.2.2.2.2.1.length i.2.2.2.2.2.1 ++ (List.replicate 1 (kI 0)).set 0 (kI ↑i_4.2.2.1) = j.2.2.2.2.2.1 ∧ kI (addI .i64 ↑i.2.2.2.2.2.2.2 1) = kI ↑j.2.2.2.2.2.2.2 ∧ True)))) ∧ (ltI ↑i_4.2.2.2 ↑i.2.2.2.2.2.2.2 = false → (false = true → ((!i_3.2.2.2.2.1) = true ∧ True → 0 ≤ (↑i_4.2.2.2 : Int) ∧ (↑i_4.2.2.2 : Int) < (↑i_3.2.2.1.length : Int)) ∧ ((T.ite (!i_3.2.2.2.2.1) (T.b !((i_3.2.2.1.getD (0 + (↑i_4.2.2.2 : Int).toNat) T.u).cell 0).bool) (T.b false)).bool = true ∧ True → 0 ≤ (↑i_4.2.2.2 : Int) ∧ (↑i_4.2.2.2 : Int) < (↑i_4.1.length : Int)) ∧ ∃ y : T,((T.ite (!i_3.2.2.2.2.1) (T.b !((i_3.2.2.1.getD (0 + (↑i_4.2.2.2 : Int).toNat) T.u).cell 0).bool) (T.b false)).bool = true ∧ True → F 82 [.t 25 ((i_4.1.getD (0 + (↑i_4.2.2.2 : Int).toNat) T.u).cell 0),.t 25 i_3.2.2.2.1] (zo 2 4) [y]) ∧ ((T.ite (T.ite (!i_3.2.2.2.2.1) (T.b !((i_3.2.2.1.getD (0 + (↑i_4.2.2.2 : Int).toNat) T.u).cell 0).bool) (T.b false)).bool y (T.b false)).bool = true → (Bd ↑i_4.2.2.2 (↑i.2.2.2.2.2.1.length : Int)) ∧ ∃ (j : X6),I5 i i_1 i_2 i_3 j ∧ M5 i i_1 i_2 i_3 j < M5 i i_1 i_2 i_3 i_4 ∧ R50 a0 a1 a2 (kI ↑i_4.2.1 = kI ↑j.2.1 ∧ R54 i.1 i_3.1 i_3.2.1 (i_4.1 = j.1 ∧ R53 i_3.2.2.1 i.2.2.2.2.2.1 i.2.2.2.2.2.2.2 i_3.2.2.2.1 i_3.2.2.2.2.1 ((i.2.2.2.2.2.1.getD (0 + (↑i_4.2.2.2 : Int).toNat) T.u).cell 0 = kI ↑j.2.2.1 ∧ kI (addI .i64 ↑i_4.2.2.2 1) = kI ↑j.2.2.2 ∧ True)))) ∧ ((T.ite (T.ite (!i_3.2.2.2.2.1) (T.b !((i_3.2.2.1.getD (0 + (↑i_4.2.2.2 : Int).toNat) T.u).cell 0).bool) (T.b false)).bool y (T.b false)).bool = false → ∃ (j : X6),I5 i i_1 i_2 i_3 j ∧ M5 i i_1 i_2 i_3 j < M5 i i_1 i_2 i_3 i_4 ∧ R50 a0 a1 a2 (kI ↑i_4.2.1 = kI ↑j.2.1 ∧ R54 i.1 i_3.1 i_3.2.1 (i_4.1 = j.1 ∧ R53 i_3.2.2.1 i.2.2.2.2.2.1 i.2.2.2.2.2.2.2 i_3.2.2.2.1 i_3.2.2.2.2.1 (kI ↑i_4.2.2.1 = kI ↑j.2.2.1 ∧ kI (addI .i64 ↑i_4.2.2.2 1) = kI ↑j.2.2.2 ∧ True))))) ∧ (false = false → (Rm ((List.take i.2.2.2.2.2.1.length i.2.2.2.2.2.1).length + ((List.replicate 1 (kI 0)).set 0 (kI ↑i_4.2.2.1)).length) 8) ∧ ∃ (j : X16),I0 j ∧ M0 j < M0 i ∧ R50 a0 a1 a2 (kI ↑i_4.2.1 = kI ↑j.2.2.2.2.2.2.1 ∧ True ∧ True ∧ E6 i.1 j.1 (i_3.1 = j.2.1 ∧ i_3.2.1 = j.2.2.1 ∧ i_4.1 = j.2.2.2.1 ∧ i_3.2.2.1 = j.2.2.2.2.1 ∧ List.take i.2.2.2.2.2.1.length i.2.2.2.2.2.1 ++ (List.replicate 1 (kI 0)).set 0 (kI ↑i_4.2.2.1) = j.2.2.2.2.2.1 ∧ kI (addI .i64 ↑i.2.2.2.2.2.2.2 1) = kI ↑j.2.2.2.2.2.2.2 ∧ True))))) ∧ (ltI ↑i.2.2.2.2.2.2.2 (i.1.cell 1).int = false → True ∧ T.g [i.1.cell 0,i.1.cell 1,i.1.cell 2,i.1.cell 3,i.1.cell 4,i.1.cell 5,T.l i.2.1,T.l i.2.2.1,T.l i.2.2.2.1,T.l i.2.2.2.2.1,T.l i.2.2.2.2.2.1] = y0 ∧ True)) : F 43 [.t 49 a0,.t 2 a1,.t 4 a2] (zo 3 29) [y0] :=
 F_nf C43 (by kernel_rfl) Tryz.func43 (by kernel_rfl) (.two .no (.two .no (.two .no (.two .no (.two .no (.two (.two .no (.lp (fun (ia : X16) => [(a_ 0,AV.t 49 a0),(a_ 1,AV.t 2 a1),(a_ 2,AV.t 4 a2),(a_ 3,AV.box 49 0 3)] ++ bxS 3 a0 0 Y6 ++ [(a_ 6,AV.box 29 0 11),(cell 6 0,AV.t 2 (T.i IntKind.i64 (0 : Int))),(cell 6 1,AV.t 2 (T.i IntKind.i64 (0 : Int))),(cell 6 2,AV.t 4 (T.b false)),(cell 6 3,AV.t 22 (T.l [])),(cell 6 4,AV.t 22 (T.l [])),(cell 6 5,AV.t 25 (T.l [])),(cell 6 6,AV.t 26 (T.l [])),(cell 6 7,AV.t 25 (T.l [])),(cell 6 8,AV.t 26 (T.l [])),(cell 6 9,AV.t 27 (T.l [])),(cell 6 10,AV.t 28 (T.l [])),(a_ 20,AV.box 129 0 2),(cell 20 0,.t 28 (a0.cell 2)),(cell 20 1,.t 2 (.i .i64 (ia.2.2.2.2.2.2.1 : Int))),(a_ 7,AV.ptr 20 0 0),(a_ 8,AV.box 29 0 11)] ++ bxS 8 ia.1 0 Y7 ++ [(cell 8 6,.own 26 0 ia.2.1),(cell 8 7,.own 25 0 ia.2.2.1),(cell 8 8,.own 26 0 ia.2.2.2.1),(cell 8 9,.own 27 0 ia.2.2.2.2.1),(cell 8 10,.own 28 0 ia.2.2.2.2.2.1),(a_ 10,.t 2 (.i .i64 (ia.2.2.2.2.2.2.2 : Int)))]) I0 M0 (fun (ia : X16) => (.two .no (.two (.cut (fun (ib : Bool × Nat) => [(a_ 0,AV.t 49 a0),(a_ 1,AV.t 2 a1),(a_ 2,AV.t 4 a2),(a_ 3,AV.box 49 0 3)] ++ bxS 3 a0 0 Y6 ++ [(a_ 6,AV.box 29 0 11),(cell 6 0,AV.t 2 (T.i IntKind.i64 (0 : Int))),(cell 6 1,AV.t 2 (T.i IntKind.i64 (0 : Int))),(cell 6 2,AV.t 4 (T.b false)),(cell 6 3,AV.t 22 (T.l [])),(cell 6 4,AV.t 22 (T.l [])),(cell 6 5,AV.t 25 (T.l [])),(cell 6 6,AV.t 26 (T.l [])),(cell 6 7,AV.t 25 (T.l [])),(cell 6 8,AV.t 26 (T.l [])),(cell 6 9,AV.t 27 (T.l [])),(cell 6 10,AV.t 28 (T.l [])),(a_ 20,AV.box 129 0 2),(cell 20 0,.t 28 (a0.cell 2)),(cell 20 1,.t 2 (.i .i64 (ib.2 : Int))),(a_ 7,AV.ptr 20 0 0),(a_ 8,AV.box 29 0 11)] ++ bxS 8 ia.1 0 Y7 ++ [(cell 8 6,.own 26 0 ia.2.1),(cell 8 7,.own 25 0 ia.2.2.1),(cell 8 8,.own 26 0 ia.2.2.2.1),(cell 8 9,.own 27 0 ia.2.2.2.2.1),(cell 8 10,.own 28 0 ia.2.2.2.2.2.1),(a_ 10,.t 2 (.i .i64 (ia.2.2.2.2.2.2.2 : Int))),(a_ 11,.t 4 (.b ib.1))]) (I1 ia) .no (fun (ib : Bool × Nat) => (.two .no (.cut (fun (ic : X18) => [(a_ 0,AV.t 49 a0),(a_ 1,AV.t 2 a1),(a_ 2,AV.t 4 a2),(a_ 3,AV.box 49 0 3)] ++ bxS 3 a0 0 Y6 ++ [(a_ 6,AV.box 29 0 11),(cell 6 0,AV.t 2 (T.i IntKind.i64 (0 : Int))),(cell 6 1,AV.t 2 (T.i IntKind.i64 (0 : Int))),(cell 6 2,AV.t 4 (T.b false)),(cell 6 3,AV.t 22 (T.l [])),(cell 6 4,AV.t 22 (T.l [])),(cell 6 5,AV.t 25 (T.l [])),(cell 6 6,AV.t 26 (T.l [])),(cell 6 7,AV.t 25 (T.l [])),(cell 6 8,AV.t 26 (T.l [])),(cell 6 9,AV.t 27 (T.l [])),(cell 6 10,AV.t 28 (T.l [])),(a_ 20,AV.box 129 0 2),(cell 20 0,.t 28 (a0.cell 2)),(cell 20 1,.t 2 (.i .i64 (ic.2.1 : Int))),(a_ 7,AV.ptr 20 0 0),(a_ 8,AV.box 29 0 11)] ++ bxS 8 ia.1 0 Y7 ++ [(cell 8 6,.own 26 0 ia.2.1),(cell 8 7,.own 25 0 ia.2.2.1),(cell 8 8,.own 26 0 ia.2.2.2.1),(cell 8 9,.own 27 0 ia.2.2.2.2.1),(cell 8 10,.own 28 0 ia.2.2.2.2.2.1),(a_ 10,.t 2 (.i .i64 (ia.2.2.2.2.2.2.2 : Int))),(a_ 11,.t 4 (.b ic.1)),(a_ 12,.t 25 ic.2.2)]) (I2 ia ib) (.two .no (.two (.two .no (.lp (fun (ie : X17) => [(a_ 0,AV.t 49 a0),(a_ 1,AV.t 2 a1),(a_ 2,AV.t 4 a2),(a_ 3,AV.box 49 0 3)] ++ bxS 3 a0 0 Y6 ++ [(a_ 6,AV.box 29 0 11),(cell 6 0,AV.t 2 (T.i IntKind.i64 (0 : Int))),(cell 6 1,AV.t 2 (T.i IntKind.i64 (0 : Int))),(cell 6 2,AV.t 4 (T.b false)),(cell 6 3,AV.t 22 (T.l [])),(cell 6 4,AV.t 22 (T.l [])),(cell 6 5,AV.t 25 (T.l [])),(cell 6 6,AV.t 26 (T.l [])),(cell 6 7,AV.t 25 (T.l [])),(cell 6 8,AV.t 26 (T.l [])),(cell 6 9,AV.t 27 (T.l [])),(cell 6 10,AV.t 28 (T.l [])),(a_ 20,AV.box 129 0 2),(cell 20 0,.t 28 (a0.cell 2)),(cell 20 1,.t 2 (.i .i64 (ie.2.1 : Int))),(a_ 7,AV.ptr 20 0 0),(a_ 8,AV.box 29 0 11)] ++ bxS 8 ia.1 0 Y7 ++ [(cell 8 6,AV.own 26 0 ia.2.1),(cell 8 7,AV.own 25 0 ia.2.2.1),(cell 8 8,AV.own 26 0 ia.2.2.2.1),(cell 8 9,AV.own 27 0 ia.2.2.2.2.1),(cell 8 10,AV.own 28 0 ia.2.2.2.2.2.1),(a_ 10,AV.t 2 (T.i IntKind.i64 (↑ia.2.2.2.2.2.2.2 : Int))),(a_ 11,.t 4 (.b ie.2.2.2)),(a_ 12,.t 25 ie.2.2.1),(a_ 13,.t 2 (.i .i64 (ie.1 : Int)))]) (I4 ia ib) (M4 ia ib) (fun _ => .no))) .no)) (fun (ic : X18) => (.two .no (.two .no (.cut (fun (id : X19) => [(a_ 0,AV.t 49 a0),(a_ 1,AV.t 2 a1),(a_ 2,AV.t 4 a2),(a_ 3,AV.box 49 0 3)] ++ bxS 3 a0 0 Y6 ++ [(a_ 6,AV.box 29 0 11),(cell 6 0,AV.t 2 (T.i IntKind.i64 (0 : Int))),(cell 6 1,AV.t 2 (T.i IntKind.i64 (0 : Int))),(cell 6 2,AV.t 4 (T.b false)),(cell 6 3,AV.t 22 (T.l [])),(cell 6 4,AV.t 22 (T.l [])),(cell 6 5,AV.t 25 (T.l [])),(cell 6 6,AV.t 26 (T.l [])),(cell 6 7,AV.t 25 (T.l [])),(cell 6 8,AV.t 26 (T.l [])),(cell 6 9,AV.t 27 (T.l [])),(cell 6 10,AV.t 28 (T.l [])),(a_ 20,AV.box 129 0 2),(cell 20 0,.t 28 (a0.cell 2)),(cell 20 1,.t 2 (.i .i64 (id.2.2.2.2.2 : Int))),(a_ 7,AV.ptr 20 0 0),(a_ 8,AV.box 29 0 11)] ++ bxS 8 ia.1 0 Y7 ++ [(cell 8 6,.own 26 0 id.1),(cell 8 7,.own 25 0 id.2.1),(cell 8 8,.own 26 0 ia.2.2.2.1),(cell 8 9,.own 27 0 id.2.2.1),(cell 8 10,.own 28 0 ia.2.2.2.2.2.1),(a_ 10,.t 2 (.i .i64 (ia.2.2.2.2.2.2.2 : Int))),(a_ 14,.t 25 id.2.2.2.1),(a_ 11,.t 4 (.b id.2.2.2.2.1))]) (I3 ia ib ic) .no (fun (id : X19) => (.two .no (.two .no (.two (.two .no (.lp (fun (ig : X6) => [(a_ 0,AV.t 49 a0),(a_ 1,AV.t 2 a1),(a_ 2,AV.t 4 a2),(a_ 3,AV.box 49 0 3)] ++ bxS 3 a0 0 Y6 ++ [(a_ 6,AV.box 29 0 11),(cell 6 0,AV.t 2 (T.i IntKind.i64 (0 : Int))),(cell 6 1,AV.t 2 (T.i IntKind.i64 (0 : Int))),(cell 6 2,AV.t 4 (T.b false)),(cell 6 3,AV.t 22 (T.l [])),(cell 6 4,AV.t 22 (T.l [])),(cell 6 5,AV.t 25 (T.l [])),(cell 6 6,AV.t 26 (T.l [])),(cell 6 7,AV.t 25 (T.l [])),(cell 6 8,AV.t 26 (T.l [])),(cell 6 9,AV.t 27 (T.l [])),(cell 6 10,AV.t 28 (T.l [])),(a_ 20,AV.box 129 0 2),(cell 20 0,AV.t 28 (a0.cell 2)),(cell 20 1,.t 2 (.i .i64 (ig.2.1 : Int))),(a_ 7,AV.ptr 20 0 0),(a_ 8,AV.box 29 0 11)] ++ bxS 8 ia.1 0 Y7 ++ [(cell 8 6,AV.own 26 0 id.1),(cell 8 7,AV.own 25 0 id.2.1),(cell 8 8,.own 26 0 ig.1),(cell 8 9,AV.own 27 0 id.2.2.1),(cell 8 10,AV.own 28 0 ia.2.2.2.2.2.1),(a_ 10,AV.t 2 (T.i IntKind.i64 (↑ia.2.2.2.2.2.2.2 : Int))),(a_ 14,AV.t 25 id.2.2.2.1),(a_ 11,AV.t 4 (T.b id.2.2.2.2.1)),(a_ 15,.t 2 (.i .i64 (ig.2.2.1 : Int))),(a_ 16,.t 2 (.i .i64 (ig.2.2.2 : Int)))]) (I5 ia ib ic id) (M5 ia ib ic id) (fun _ => .no))) .no)))))))))))) .no))))) .no)))))) (by kernel_rfl) h
end Go.Pq
namespace Go.Pl
theorem p_m (x : Int) {m : Nat} (hm : 0 < m) : (remI x (m : Int) < 0 → remI x (m : Int) + (m : Int) = (within x m : Int)) ∧ (¬ remI x (m : Int) < 0 → remI x (m : Int) = (within x m : Int)):=by
 have e : remI x (m : Int) = x.tmod (m : Int):=rfl;have h1:=Int.emod_nonneg x (show (m : Int) ≠ 0 by omega);have h2:=Int.emod_lt_of_pos x (show (0 : Int) < (m : Int) by omega)
 have hw : (within x m : Int) = x % (m : Int):=by unfold within;omega
 rw [e,hw];have h3:=Int.tmod_eq_emod (a:=x) (b:=(m : Int));have h4 : ((m : Int).natAbs : Int) = (m : Int):=by omega
 constructor
 ·intro h
  rw [h3] at h ⊢;split at h
  ·omega
  ·rename_i q;rw [if_neg q];omega
 ·intro h
  rw [h3] at h ⊢;split at h
  ·rename_i q;rw [if_pos q];omega
  ·rename_i q
   rw [if_neg q];omega
end Go.Pl
namespace Go.Pq
open Go.Pl Go.Proofs
theorem e_I (x : Int) {m : Nat} (hm : 0 < m ∧ m ≤ 2 ^ 20) : F 19 [.t 2 (.i .i64 x),.t 2 (.i .i64 (m : Int))] (zo 2 2) [.i .i64 (within x m : Int)]:=by
 obtain ⟨h1,h2⟩:=p_m x hm.1;have hw:=a_6 x hm.1;refine s_4 _ _ _ ⟨fun q => ?_,fun _ => ⟨?_,fun q => ?_,fun q => ?_⟩⟩
 ·rw [k_,d_] at q;omega
 ·rw [k_];omega
 ·rw [k_,k_,d_] at q
  have:=h1 q
  rw [k_,k_,c_ (by omega),this];exact ⟨trivial,rfl,trivial⟩
 ·rw [k_,k_,l_] at q
  rw [k_,k_,h2 (by omega)];exact ⟨trivial,rfl,trivial⟩
theorem n_I (L : List Int) (a : Nat) {n : Nat} (hn : 0 < n ∧ n ≤ 2 ^ 20) (ha : a ≤ L.length) (hL : L.length ≤ 9223372036854775807) :
  F 81 [.box 129 2 [.t 28 (a_V L),.t 2 (.i .i64 (a : Int))],.t 2 (.i .i64 (n : Int))] Z6 [.i .i64 ((b_i L a n).1 : Int),a_V L,.i .i64 ((b_i L a n).2 : Int)]:=by
 refine t_O _ _ _ _ _ _ ?_;rw [d_i,k_];unfold b_i;refine ⟨fun q => ?_,fun q => ?_⟩
 ·rw [a_R] at q
  rw [if_pos (by omega)];exact ⟨⟨trivial,trivial⟩,rfl,rfl,rfl,trivial⟩
 ·rw [b_o] at q
  rw [if_neg (by omega),c_ (by omega),Y_ (by omega),show ((a : Int) + 1 - 1) = (a : Int) from by omega,h_T L (by omega),a_E];exact ⟨⟨by omega,by omega⟩,_,e_I _ hn,⟨trivial,trivial⟩,rfl,rfl,rfl,trivial⟩
theorem u_x (w : List Int) {y n : Nat} (hy : 0 < y ∧ y ≤ 2 ^ 20) (hn : n ≤ 1000) :
  F 20 [.t 28 (a_V w),.t 2 (.i .i64 (y : Int)),.t 2 (.i .i64 (n : Int))] (zo 3 28) [intT ((w.take n).map fun x => 1 + within x y)]:=by
 have hroom : room = 140737488355328:=rfl
 refine s_5 _ _ _ _ (fun i => i.1 = intL ((w.take i.2).map fun x => 1 + within x y) ∧ i.2 ≤ w.length ∧ i.2 ≤ n) (fun i => w.length - i.2) ?_;rw [d_i,k_];refine ⟨⟨([],0),⟨rfl,Nat.zero_le _,Nat.zero_le _⟩,(by and_intros <;> first | exact trivial | rfl | (rw [c_ (by omega)];rfl))⟩,fun _ => rfl,?_⟩;rintro ⟨l,k⟩ ⟨hl,hk,hkn⟩;dsimp only at hl hk hkn ⊢;subst hl;rw [a_3];refine ⟨fun q => ?_,fun q => ?_⟩
 ·rw [Bool.and_eq_true,d_,d_] at q
  have hlt : k < w.length:=by omega
  have hw:=a_6 (w.getD k 0) hy.1;rw [h_T w hlt,a_E]
  have l1 : (List.take (intL ((w.take k).map fun x => 1 + within x y)).length (intL ((w.take k).map fun x => 1 + within x y))).length = k:=by
   rw [q_,T_,List.length_map,List.length_take];omega
  refine ⟨⟨by omega,by omega⟩,_,e_I _ hy,⟨by rw [l1];show (k + 1) * 8 ≤ room;omega,by rw [l1];show k + 1 ≤ _;omega⟩,(intL ((w.take (k + 1)).map fun x => 1 + within x y),k + 1),⟨rfl,hlt,by dsimp only;omega⟩,by dsimp only;omega,?_⟩
  have e : List.take (intL ((w.take k).map fun x => 1 + within x y)).length (intL ((w.take k).map fun x => 1 + within x y)) ++ (List.replicate 1 (T.i .i64 0)).set 0 (T.i .i64 (addI .i64 1 (T.i .i64 (within (w.getD k 0) y : Int)).int)) = intL ((w.take (k + 1)).map fun x => 1 + within x y):=by
   rw [q_,List.take_succ_eq_append_getElem hlt,List.map_append,← a_9,k_,c_ (by omega)];have : w[k] = w.getD k 0:=by rw [List.getD_eq_getElem?_getD,List.getElem?_eq_getElem hlt];rfl
   rw [this]
   have e2 : ((1 : Int) + (within (w.getD k 0) y : Int)) = ((1 + within (w.getD k 0) y : Nat) : Int):=by omega
   rw [e2];rfl
  rw [e];exact (by and_intros <;> first | exact trivial | rfl | (rw [c_ (by omega)];rfl))
 ·have hke : w.take k = w.take n:=by
   by_cases g : k < w.length
   ·by_cases g2 : k < n
    ·rw [d_.2 (by omega),d_.2 (by omega)] at q;cases q
    ·rw [show k = n from by omega]
   ·rw [List.take_of_length_le (by omega),List.take_of_length_le (by omega)]
  rw [hke,List.drop_zero,q_];exact ⟨trivial,rfl,trivial⟩
theorem s_n (a b : List Rat) (ha : a.length ≤ 2 ^ 40) (hb : b.length ≤ 2 ^ 40) (h1 : ∀ q ∈ a,rl q ≤ 2 ^ 30) (h2 : ∀ q ∈ b,rl q ≤ 2 ^ 30) : F 82 [.t 25 (v_ a),.t 25 (v_ b)] (zo 2 4) [.b (decide (a = b))]:=by
 refine t_P _ _ _ (fun k => k ≤ a.length ∧ a.take k = b.take k) (fun k => a.length - k) ?_;rw [z_,z_];refine ⟨fun q => ?_,fun q => ⟨⟨0,⟨Nat.zero_le _,rfl⟩,(by and_intros <;> first | exact trivial | rfl | (rw [c_ (by omega)];rfl))⟩,fun _ => rfl,?_⟩⟩
 ·rw [b_h] at q
  rw [decide_eq_false (fun e => q (by rw [e]))];exact ⟨trivial,rfl,trivial⟩
 ·rw [c_i] at q
  rintro k ⟨hk,he⟩;refine ⟨fun g => ?_,fun g => ?_⟩
  ·rw [d_] at g
   have hla : k < a.length:=by omega
   have hlb : k < b.length:=by omega
   rw [a_X a hla,a_X b hlb,C_,C_];refine ⟨⟨by omega,by omega⟩,⟨by omega,by omega⟩,_,b_6 _ _ (h1 _ (r_ hla)) (h2 _ (r_ hlb)),fun w => ?_,fun w => ?_⟩
   ·rw [k_,b_h] at w
    rw [decide_eq_false (fun e => w (b_H.2 (by rw [e])))];exact ⟨trivial,rfl,trivial⟩
   ·rw [k_,c_i,b_H] at w
    refine ⟨k + 1,⟨hla,?_⟩,by omega,(by and_intros <;> first | exact trivial | rfl | (rw [c_ (by omega)];rfl))⟩;rw [List.take_succ_eq_append_getElem hla,List.take_succ_eq_append_getElem hlb,he];rw [List.getD_eq_getElem?_getD,List.getD_eq_getElem?_getD,List.getElem?_eq_getElem hla,List.getElem?_eq_getElem hlb] at w;simp only [Option.getD_some] at w;rw [w]
  ·rw [l_] at g
   rw [List.take_of_length_le (by omega),List.take_of_length_le (by omega)] at he;rw [decide_eq_true he];exact ⟨trivial,rfl,trivial⟩
theorem i_b (L : List Int) (a : Nat) {n : Nat} (hn : 0 < n ∧ n ≤ 1000) (ha : a ≤ L.length) (hL : L.length ≤ 9223372036854775807) :
  F 80 [.box 129 2 [.t 28 (a_V L),.t 2 (.i .i64 (a : Int))],.t 2 (.i .i64 (n : Int))] Z7 [v_ (u_ L a n).1,a_V L,.i .i64 ((u_ L a n).2 : Int)]:=by
 have hroom : room = 140737488355328:=rfl;obtain ⟨x1,x2,x3,x4⟩:=n_p L ha hn.1;refine t_N _ _ _ _ _ _
  (fun i => i.1 = intL (F_ L a i.2.2.2).1 ∧ i.2.1 = (F_ L a i.2.2.2).2 ∧ i.2.2.1 = (F_ L a i.2.2.2).1.sum ∧ i.2.2.2 ≤ n)
  (fun i => n - i.2.2.2)
  (fun i => i.1 = intL (fixT L a n).1 ∧ i.2.1 = ratL ((a_G (fixT L a n).1).take i.2.2.2.2) ∧ i.2.2.1 = (fixT L a n).2 ∧ i.2.2.2.1 = (fixT L a n).1.sum ∧ i.2.2.2.2 ≤ n)
  (fun i => n - i.2.2.2.2) ?_
 rw [k_];refine ⟨⟨([],a,0,0),⟨rfl,rfl,rfl,Nat.zero_le _⟩,(by and_intros <;> first | exact trivial | rfl | (rw [c_ (by omega)];rfl))⟩,fun _ => rfl,?_⟩;rintro ⟨l,p,s,k⟩ ⟨hl,hp,hs,hk⟩;dsimp only at hl hp hs hk ⊢;subst hl hp hs;obtain ⟨p1,p2,p3⟩:=i_0 L ha k;have hsum:=q_d 2 p3;rw [p2] at hsum;have second : ∀ (l2 : List T) (p2 s2 : Nat),l2 = intL (fixT L a n).1 → p2 = (fixT L a n).2 → s2 = (fixT L a n).1.sum → True:=fun _ _ _ _ _ _ => trivial
 refine ⟨fun q => ?_,fun q => ?_⟩
 ·rw [d_] at q
  have hkn : k < n:=by omega
  have nx:=n_I L (F_ L a k).2 (n:=4) (by decide) p1 hL;have nlt:=k_2 L (F_ L a k).2 (show 0 < 4 by decide);have l1 : (List.take (intL (F_ L a k).1).length (intL (F_ L a k).1)).length = k:=by rw [q_,T_,p2]
  have es : ∀ v : Nat,v = i_Y (b_i L (F_ L a k).2 4).1 → List.take (intL (F_ L a k).1).length (intL (F_ L a k).1) ++ (List.replicate 1 (T.i .i64 0)).set 0 (T.i .i64 (v : Int)) = intL (F_ L a (k + 1)).1:=by
   intro v hv;rw [q_]
   show intL (F_ L a k).1 ++ intL [v] = intL ((F_ L a k).1 ++ [_])
   rw [a_9,hv]
  have esum : ∀ v : Nat,v = i_Y (b_i L (F_ L a k).2 4).1 → (F_ L a (k + 1)).1.sum = (F_ L a k).1.sum + v:=by
   intro v hv
   show ((F_ L a k).1 ++ [_]).sum = _
   rw [List.sum_append,hv];simp
  refine ⟨_,_,_,nx,fun w => ?_,fun w => ?_⟩
  ·rw [k_,M_] at w
   have hv : (0 : Nat) = i_Y (b_i L (F_ L a k).2 4).1:=by unfold i_Y;rw [if_pos (by omega)]
   refine ⟨⟨by rw [l1];show (k + 1) * 8 ≤ room;omega,by rw [l1];show k + 1 ≤ _;omega⟩,(intL (F_ L a (k + 1)).1,(F_ L a (k + 1)).2,(F_ L a (k + 1)).1.sum,k + 1),⟨rfl,rfl,rfl,hkn⟩,by dsimp only;omega,?_⟩;have e1:=es 0 hv;have e2:=esum 0 hv;have e1 : _ = _:=e1;refine ⟨trivial,rfl,rfl,rfl,rfl,e1,?_,?_,trivial⟩
   ·dsimp only;rw [e2,c_ (by omega)];rfl
   ·dsimp only;rw [c_ (by omega)];rfl
  ·rw [k_,a_D] at w
   have hv : (b_i L (F_ L a k).2 4).1 = i_Y (b_i L (F_ L a k).2 4).1:=by unfold i_Y;rw [if_neg (by omega)]
   refine ⟨⟨by rw [l1];show (k + 1) * 8 ≤ room;omega,by rw [l1];show k + 1 ≤ _;omega⟩,(intL (F_ L a (k + 1)).1,(F_ L a (k + 1)).2,(F_ L a (k + 1)).1.sum,k + 1),⟨rfl,rfl,rfl,hkn⟩,by dsimp only;omega,?_⟩;have e1:=es _ hv;have e2:=esum _ hv;refine ⟨trivial,rfl,rfl,rfl,rfl,e1,?_,?_,trivial⟩
   ·dsimp only;rw [e2,k_,c_ (by omega)];rfl
   ·dsimp only;rw [c_ (by omega)];rfl
 ·rw [l_] at q
  have hkn : k = n:=by omega
  subst hkn;have loop : ∀ (i : List T × List T × Nat × Nat × Nat),(i.1 = intL (fixT L a k).1 ∧ i.2.1 = ratL ((a_G (fixT L a k).1).take i.2.2.2.2) ∧ i.2.2.1 = (fixT L a k).2 ∧ i.2.2.2.1 = (fixT L a k).1.sum ∧ i.2.2.2.2 ≤ k) → i.2.2.2.2 < k →
    ((0 : Int) ≤ (i.2.2.2.2 : Int) ∧ (i.2.2.2.2 : Int) < (i.1.length : Int)) ∧ F 55 [.t 2 ((i.1.getD (0 + ((i.2.2.2.2 : Nat) : Int).toNat) T.u).cell 0),.t 2 (T.i .i64 (i.2.2.2.1 : Int))] Z1 [ratT ((a_G (fixT L a k).1).getD i.2.2.2.2 0),.i .i64 0]:=by
   rintro ⟨l,r,p,s,m⟩ ⟨h1,h2,h3,h4,h5⟩ hm;dsimp only at h1 h2 h3 h4 h5 hm ⊢;subst h1 h4;refine ⟨⟨by omega,by rw [T_,x2];omega⟩,?_⟩;rw [Nat.zero_add,Int.toNat_natCast,e_q _ (by omega),a_E];have hx:=h_g (r_ (d:=0) (show m < (fixT L a k).1.length by omega))
   have:=k_a ((fixT L a k).1.getD m 0 : Int) ((fixT L a k).1.sum : Int) (by omega) (by omega) (by omega)
   have e : (a_G (fixT L a k).1).getD m 0 = mkQ ((fixT L a k).1.getD m 0 : Int) ((fixT L a k).1.sum : Int):=by
    unfold a_G;rw [List.getD_eq_getElem?_getD,List.getElem?_map,List.getD_eq_getElem?_getD,List.getElem?_eq_getElem (by omega)];rfl
   rw [e];exact this
  have slen : (a_G (fixT L a k).1).length = k:=by unfold a_G;rw [List.length_map];exact x2
  have step : ∀ m,m < k → List.take (ratL ((a_G (fixT L a k).1).take m)).length (ratL ((a_G (fixT L a k).1).take m)) ++ [ratT ((a_G (fixT L a k).1).getD m 0)] = ratL ((a_G (fixT L a k).1).take (m + 1)) ∧ (List.take (ratL ((a_G (fixT L a k).1).take m)).length (ratL ((a_G (fixT L a k).1).take m))).length = m:=by
   intro m hm;rw [q_];refine ⟨?_,by rw [d_J,List.length_take];omega⟩;rw [List.take_succ_eq_append_getElem (by omega),← e_b,List.getD_eq_getElem?_getD,List.getElem?_eq_getElem (by omega)];rfl
  refine ⟨fun w => ?_,fun w => ?_⟩
  ·rw [M_] at w
   have hz : (F_ L a k).1.sum = 0:=by omega
   have ef : fixT L a k = ((F_ L a k).1.set (within ((b_i L (F_ L a k).2 100).1 : Int) k) 1,(b_i L (F_ L a k).2 100).2):=by unfold fixT;rw [if_pos hz]
   have es1 : (fixT L a k).1.sum = 1:=by
    rw [ef];exact o_i (by have:=a_6 ((b_i L (F_ L a k).2 100).1 : Int) hn.1;omega) (l_p hz)
   have hwl:=a_6 ((b_i L (F_ L a k).2 100).1 : Int) hn.1;refine ⟨_,_,_,n_I L (F_ L a k).2 (n:=100) (by decide) p1 hL,_,e_I _ ⟨hn.1,by omega⟩,⟨by rw [k_];omega,by rw [k_,T_,p2];omega⟩,
    ⟨(intL (fixT L a k).1,[],(fixT L a k).2,1,0),⟨rfl,rfl,rfl,es1.symm,Nat.zero_le _⟩,?_⟩,fun _ => rfl,?_⟩
   ·have e3 : (intL (F_ L a k).1).set (0 + (T.i .i64 (within ((b_i L (F_ L a k).2 100).1 : Int) k : Int)).int.toNat) (T.i .i64 1) = intL (fixT L a k).1:=by
     rw [ef,Nat.zero_add,k_,Int.toNat_natCast]
     show _ = intL ((F_ L a k).1.set _ 1)
     simp [intL,List.map_set]
    rw [e3,ef];exact (by and_intros <;> first | exact trivial | rfl | (rw [c_ (by omega)];rfl))
   ·intro i hi
    have hl:=loop i hi;obtain ⟨l,r,p,s,m⟩:=i;obtain ⟨h1,h2,h3,h4,h5⟩:=hi;dsimp only at h1 h2 h3 h4 h5 hl ⊢;refine ⟨fun g => ?_,fun g => ?_⟩
    ·rw [d_] at g
     obtain ⟨g1,g2⟩:=hl (by omega);obtain ⟨t1,t2⟩:=step m (by omega);subst h1 h2 h3 h4;refine ⟨g1,_,_,g2,⟨by rw [t2];show (m + 1) * 56 ≤ room;omega,by rw [t2];show m + 1 ≤ _;omega⟩,(intL (fixT L a k).1,ratL ((a_G (fixT L a k).1).take (m + 1)),(fixT L a k).2,(fixT L a k).1.sum,m + 1),⟨rfl,rfl,rfl,rfl,by dsimp only;omega⟩,by dsimp only;omega,?_⟩;rw [← t1];exact (by and_intros <;> first | exact trivial | rfl | (rw [c_ (by omega)];rfl))
    ·rw [l_] at g
     have : m = k:=by omega
     subst this;rw [List.take_of_length_le (by omega)] at h2;subst h2 h3;rw [List.drop_zero,q_];exact ⟨⟨trivial,trivial⟩,rfl,rfl,rfl,trivial⟩
  ·rw [a_D] at w
   have hz : ¬ (F_ L a k).1.sum = 0:=by omega
   have ef : fixT L a k = F_ L a k:=by unfold fixT;rw [if_neg hz]
   refine ⟨⟨(intL (fixT L a k).1,[],(fixT L a k).2,(fixT L a k).1.sum,0),⟨rfl,rfl,rfl,rfl,Nat.zero_le _⟩,?_⟩,fun _ => rfl,?_⟩
   ·rw [ef]
    exact (by and_intros <;> first | exact trivial | rfl | (rw [c_ (by omega)];rfl))
   ·intro i hi
    have hl:=loop i hi;obtain ⟨l,r,p,s,m⟩:=i;obtain ⟨h1,h2,h3,h4,h5⟩:=hi;dsimp only at h1 h2 h3 h4 h5 hl ⊢;refine ⟨fun g => ?_,fun g => ?_⟩
    ·rw [d_] at g
     obtain ⟨g1,g2⟩:=hl (by omega);obtain ⟨t1,t2⟩:=step m (by omega);subst h1 h2 h3 h4;refine ⟨g1,_,_,g2,⟨by rw [t2];show (m + 1) * 56 ≤ room;omega,by rw [t2];show m + 1 ≤ _;omega⟩,(intL (fixT L a k).1,ratL ((a_G (fixT L a k).1).take (m + 1)),(fixT L a k).2,(fixT L a k).1.sum,m + 1),⟨rfl,rfl,rfl,rfl,by dsimp only;omega⟩,by dsimp only;omega,?_⟩;rw [← t1];exact (by and_intros <;> first | exact trivial | rfl | (rw [c_ (by omega)];rfl))
    ·rw [l_] at g
     have : m = k:=by omega
     subst this;rw [List.take_of_length_le (by omega)] at h2;subst h2 h3;rw [List.drop_zero,q_];exact ⟨⟨trivial,trivial⟩,rfl,rfl,rfl,trivial⟩
end Go.Pq
namespace Go.Pl
def chT (S Y : Int) (L : List Int) : T:=.g [.i .i64 S,.i .i64 Y,a_V L]
theorem ch0 (S Y : Int) (L : List Int) : (chT S Y L).cell 0 = .i .i64 S:=rfl
theorem ch1 (S Y : Int) (L : List Int) : (chT S Y L).cell 1 = .i .i64 Y:=rfl
theorem ch2 (S Y : Int) (L : List Int) : (chT S Y L).cell 2 = a_V L:=rfl
theorem r_Y (L : List Int) : (a_V L).cell 0 = a_V L:=rfl
theorem h_p (m : List (List Rat)) (r : List Rat) : b_w m ++ [v_ r] = b_w (m ++ [r]):=by simp [b_w]
theorem n_W (m : List Rat) (r : Rat) : ratL m ++ [ratT r] = ratL (m ++ [r]):=by simp [ratL]
theorem i_N (m : List Nat) (r : Nat) : intL m ++ [T.i .i64 (r : Int)] = intL (m ++ [r]):=by simp [intL]
theorem m_H (k : Nat) : a_Y (List.replicate k false) ++ [T.b false] = a_Y (List.replicate (k + 1) false):=by simp [a_Y,List.replicate_succ']
theorem l_h (l : List Rat) (k : Nat) : T.l (List.take ((k : Int) - 0).toNat (List.drop 0 (v_ l).list)) = v_ (l.take k):=by
 rw [show ((k : Int) - 0).toNat = k from by omega,List.drop_zero];simp [v_,ratL,T.list,List.map_take]
theorem e_d (x y : T) : (List.replicate 1 x).set 0 y = [y]:=rfl
def topT (st sym : Nat) (q : Rat) (l : List Rat) : T:=.g [.i .i64 (sym : Int),.i .i64 (st : Int),(ratT q).cell 0,(ratT q).cell 1,(ratT q).cell 2,v_ l]
theorem top0 (st sym q l) : (topT st sym q l).cell 0 = .i .i64 (sym : Int):=rfl
theorem top1 (st sym q l) : (topT st sym q l).cell 1 = .i .i64 (st : Int):=rfl
abbrev S8:=T × List T × List T × List T × List T × List T × Nat × Nat
structure MkI (L : List Int) (st sym : Nat) (W : T) (i : S8) : Prop where
 w : i.1 = W
 tr : i.2.1 = b_w (mkN L st sym i.2.2.2.2.2.2.2).trans
 sp : i.2.2.1 = ratL (mkN L st sym i.2.2.2.2.2.2.2).stop
 em : i.2.2.2.1 = b_w (mkN L st sym i.2.2.2.2.2.2.2).emit
 si : i.2.2.2.2.1 = a_Y (List.replicate i.2.2.2.2.2.2.2 false)
 ti : i.2.2.2.2.2.1 = intL (mkN L st sym i.2.2.2.2.2.2.2).ties
 at' : i.2.2.2.2.2.2.1 = (mkN L st sym i.2.2.2.2.2.2.2).pos
 le : i.2.2.2.2.2.2.2 ≤ st
structure MkJ (L : List Int) (st sym : Nat) (i : S8) (j : List T × Nat × Nat × Nat) : Prop where
 em : j.1 = b_w (mkN L st sym (i.2.2.2.2.2.2.2 + 1)).emit
 at' : j.2.1 ≤ L.length
 le : j.2.2.2 ≤ i.2.2.2.2.2.2.2
 tie : (tieT L (mkN L st sym i.2.2.2.2.2.2.2).emit (mkN L st sym i.2.2.2.2.2.2.2).ties ((mkN L st sym (i.2.2.2.2.2.2.2 + 1)).emit.getD i.2.2.2.2.2.2.2 []) (i.2.2.2.2.2.2.2 - j.2.2.2) j.2.2.2 j.2.1 j.2.2.1) =
  ((mkN L st sym (i.2.2.2.2.2.2.2 + 1)).pos,(mkN L st sym (i.2.2.2.2.2.2.2 + 1)).ties.getD i.2.2.2.2.2.2.2 0)
end Go.Pl
namespace Go.Pq
open Go.Pl Go.Proofs
theorem u_a (S Y : Int) (L : List Int) {most : Nat} (hm : 1 ≤ most ∧ most ≤ 6) (hL : L.length ≤ 9223372036854775807) :
  F 43 [.t 49 (chT S Y L),.t 2 (.i .i64 (most : Int)),.t 4 (.b false)] (zo 3 29) [hidT (f_9 S Y L most)]:=by
 have hroom : room = 140737488355328:=rfl;have w1:=a_6 S (show 0 < most by omega);have w2:=a_6 Y (show 0 < 3 by omega);have ok:=k_G S Y L hm;have wf1:=e_I S (m:=most) (by omega);have wf2:=e_I Y (m:=3) (by omega)
 have e1 : addI .i64 1 (T.i .i64 (within S most : Int)).int = ((1 + within S most : Nat) : Int):=by rw [k_,c_ (by omega)];omega
 have e2 : addI .i64 1 (T.i .i64 (within Y 3 : Int)).int = ((1 + within Y 3 : Nat) : Int):=by rw [k_,c_ (by omega)];omega
 unfold f_9 at ok ⊢
 have N0:=fun i (hi : i ≤ 1 + within S most) => p_Y L (st:=1 + within S most) (sym:=1 + within Y 3) (by omega) (by omega) i hi
 have hst : 1 + within S most ≤ 6:=by omega
 have hsy : 1 + within Y 3 ≤ 3:=by omega
 have hst1 : 1 ≤ 1 + within S most:=by omega
 have hsy1 : 1 ≤ 1 + within Y 3:=by omega
 generalize hs : 1 + within S most = st at *
 generalize hy : 1 + within Y 3 = sym at *
 have e3 : addI .i64 (st : Int) 1 = ((st + 1 : Nat) : Int):=by rw [c_ (by omega)];omega
 have s1:=b_z L (Nat.zero_le _) (show 0 < st + 1 ∧ st + 1 ≤ 1000 by omega);have sf:=i_b L 0 (n:=st + 1) (by omega) (Nat.zero_le _) hL
 generalize hl0 : u_ L 0 (st + 1) = r0 at *
 have hp0 : (mkN L st sym 0).pos = r0.2:=by rw [← hl0];rfl
 refine t_i _ _ _ _ (MkI L st sym (topT st sym (r0.1.getD st 0) (r0.1.take st))) (fun i => st - i.2.2.2.2.2.2.2) (fun i b => b = (false,i.2.2.2.2.2.2.1))
  (fun i _ c => c = (false,(u_ L i.2.2.2.2.2.2.1 (st + 1)).2,v_ (u_ L i.2.2.2.2.2.2.1 (st + 1)).1))
  (fun i _ _ d => d = (b_w (mkN L st sym (i.2.2.2.2.2.2.2 + 1)).trans,ratL (mkN L st sym (i.2.2.2.2.2.2.2 + 1)).stop,a_Y (List.replicate (i.2.2.2.2.2.2.2 + 1) false),v_ ((mkN L st sym (i.2.2.2.2.2.2.2 + 1)).emit.getD i.2.2.2.2.2.2.2 []),false,(u_ L (u_ L i.2.2.2.2.2.2.1 (st + 1)).2 sym).2))
  (fun _ _ _ => False) (fun _ _ _ => 0) (fun i _ _ _ j => MkJ L st sym i j) (fun i _ _ _ j => i.2.2.2.2.2.2.2 - j.2.2.2) ?_
 rw [ch0,ch1,ch2,r_Y];refine ⟨_,wf1,_,wf2,?_⟩;rw [e1,e2,e3];refine ⟨_,_,_,sf,?_⟩;rw [z_,a_X _ (show st < r0.1.length by omega),C_,l_h];refine ⟨⟨by omega,by omega⟩,⟨by omega,by omega,by omega⟩,⟨(topT st sym (r0.1.getD st 0) (r0.1.take st),[],[],[],[],[],r0.2,0),⟨rfl,rfl,rfl,rfl,rfl,rfl,hp0.symm,Nat.zero_le _⟩,(by and_intros <;> first | exact trivial | rfl | (rw [c_ (by omega)];rfl))⟩,fun _ => rfl,?_⟩;rintro i I;obtain ⟨w,tr,sp,em,si,ti,a,k⟩:=i;obtain ⟨h1,h2,h3,h4,h5,h6,h7,h8⟩:=I;dsimp only at h1 h2 h3 h4 h5 h6 h7 h8 ⊢;subst h1 h2 h3 h4 h5 h6 h7;rw [top0,top1,k_];refine ⟨fun q => ⟨⟨fun g => (by cases g),fun _ => ⟨(false,(mkN L st sym k).pos),rfl,(by and_intros <;> first | exact trivial | rfl | (rw [c_ (by omega)];rfl))⟩⟩,fun _ => rfl,?_⟩,fun q => ?_⟩
 ·rw [d_] at q
  have hk : k < st:=by omega
  have N:=N0 k h8;have N1:=N0 (k + 1) hk;have hN1 : mkN L st sym (k + 1) = i_U L st sym k (mkN L st sym k):=rfl;unfold i_U at hN1;have t1:=b_z L N.pos (show 0 < st + 1 ∧ st + 1 ≤ 1000 by omega);have tf:=i_b L (mkN L st sym k).pos (n:=st + 1) (by omega) N.pos hL;have t2:=b_z L t1.1 (show 0 < sym ∧ sym ≤ 1000 by omega);have uf:=i_b L (u_ L (mkN L st sym k).pos (st + 1)).2 (n:=sym) (by omega) t1.1 hL;rintro _ rfl;dsimp only;refine ⟨_,_,_,by rw [e3];exact tf,⟨fun g => (by cases g),fun _ => ⟨(false,(u_ L (mkN L st sym k).pos (st + 1)).2,v_ (u_ L (mkN L st sym k).pos (st + 1)).1),rfl,(by and_intros <;> first | exact trivial | rfl | (rw [c_ (by omega)];rfl))⟩⟩,fun _ => rfl,?_⟩;rintro _ rfl;dsimp only;rw [z_,a_X _ (show st < _ by omega),C_,l_h,e_d,e_d,e_d,q_,q_,q_,h_p,n_W,m_H];have b1 : (b_w ((mkN L st sym k).trans)).length + [v_ ((u_ L (mkN L st sym k).pos (st + 1)).1.take st)].length = k + 1:=by rw [g_N,N.tl];rfl
  have b2 : (ratL ((mkN L st sym k).stop)).length + [ratT ((u_ L (mkN L st sym k).pos (st + 1)).1.getD st 0)].length = k + 1:=by rw [d_J,N.sl];rfl
  have b3 : (a_Y (List.replicate k false)).length + [T.b false].length = k + 1:=by rw [d_c,List.length_replicate];rfl
  have el : (mkN L st sym (k + 1)).emit.getD k [] = (u_ L (u_ L (mkN L st sym k).pos (st + 1)).2 sym).1:=by
   rw [hN1];dsimp only;rw [a_5,N.el,if_neg (by omega),if_pos rfl]
  have tl : (mkN L st sym (k + 1)).ties.getD k 0 = (tieT L (mkN L st sym k).emit (mkN L st sym k).ties (u_ L (u_ L (mkN L st sym k).pos (st + 1)).2 sym).1 k 0 (u_ L (u_ L (mkN L st sym k).pos (st + 1)).2 sym).2 k).2:=by
   rw [hN1];dsimp only;rw [a_5,N.il,if_neg (by omega),if_pos rfl]
  have pl : (mkN L st sym (k + 1)).pos = (tieT L (mkN L st sym k).emit (mkN L st sym k).ties (u_ L (u_ L (mkN L st sym k).pos (st + 1)).2 sym).1 k 0 (u_ L (u_ L (mkN L st sym k).pos (st + 1)).2 sym).2 k).1:=by rw [hN1]
  have ttl : (mkN L st sym (k + 1)).ties = (mkN L st sym k).ties ++ [(mkN L st sym (k + 1)).ties.getD k 0]:=by rw [tl];rw [hN1]
  have eml : ∀ j,j < k → (mkN L st sym (k + 1)).emit.getD j [] = (mkN L st sym k).emit.getD j []:=by
   intro j hj;rw [hN1];dsimp only;rw [a_5,N.el,if_pos hj]
  rw [b1,b2,b3,el];refine ⟨⟨by omega,by omega,by omega⟩,⟨by omega,by omega⟩,⟨by omega,by omega⟩,⟨by omega,by omega⟩,⟨by omega,by omega⟩,⟨fun _ => ⟨_,_,_,uf,⟨_,rfl,(by and_intros <;> first | exact trivial | rfl | (rw [c_ (by omega)];rfl))⟩⟩,fun g => (by cases g)⟩,fun _ => rfl,?_⟩;rintro _ rfl;dsimp only;have b4 : (b_w ((mkN L st sym k).emit)).length + [v_ (u_ L (u_ L (mkN L st sym k).pos (st + 1)).2 sym).1].length = k + 1:=by rw [g_N,N.el];rfl
  rw [e_d,q_,h_p,b4];refine ⟨⟨by omega,by omega⟩,⟨(b_w (mkN L st sym (k + 1)).emit,(u_ L (u_ L (mkN L st sym k).pos (st + 1)).2 sym).2,k,0),⟨rfl,t2.1,Nat.zero_le _,?_⟩,(by and_intros <;> first | exact trivial | rfl | (rw [c_ (by omega)];rfl))⟩,fun _ => rfl,?_⟩
  ·dsimp only;rw [el,tl,pl,Nat.sub_zero]
  ·rintro j J
   obtain ⟨e,a,t,j⟩:=j;obtain ⟨h1,h7,h9,h10⟩:=J;dsimp only at h1 h7 h9 h10 ⊢;subst h1;rw [← el];have bt : ∀ t : Nat,((List.take (intL (mkN L st sym k).ties).length (intL (mkN L st sym k).ties)).length + [T.i .i64 (t : Int)].length) = k + 1:=by intro t;rw [q_,T_,N.il];rfl
   refine ⟨fun g => ?_,fun g => ⟨fun z => (by cases z),fun _ => ?_⟩⟩
   ·rw [d_] at g
    have hj : j < k:=by omega
    have nf:=n_I L a (n:=3) (by decide) h7 hL;refine ⟨_,_,_,nf,?_⟩;rw [k_,e_d,bt];have hun : k - j = (k - (j + 1)) + 1:=by omega
    rw [hun] at h10;unfold tieT at h10;refine ⟨fun z => ?_,fun z => ?_⟩
    ·rw [M_] at z
     rw [if_pos (by omega)] at h10;have g1 : ((a_Y (List.replicate (k + 1) false)).getD (0 + (j : Int).toNat) T.u).cell 0 = T.b false:=by
      rw [Nat.zero_add,Int.toNat_natCast,c_w _ (by simp;omega)];simp [List.getD_eq_getElem?_getD,show j < k + 1 by omega];rfl
     have g2 : ((b_w (mkN L st sym (k + 1)).emit).getD (0 + (j : Int).toNat) T.u).cell 0 = v_ ((mkN L st sym k).emit.getD j []):=by
      rw [Nat.zero_add,Int.toNat_natCast,b_x _ (by rw [N1.el];omega),eml j hj];rfl
     have g3 : ((intL (mkN L st sym k).ties).getD (0 + (j : Int).toNat) T.u).cell 0 = T.i .i64 (((mkN L st sym k).ties.getD j 0 : Nat) : Int):=by
      rw [Nat.zero_add,Int.toNat_natCast,e_q _ (by rw [N.il];omega)];rfl
     have r1:=N.shows _ (r_ (l:=(mkN L st sym k).emit) (d:=[]) (i:=j) (by rw [N.el];omega));have r2:=N1.shows _ (r_ (l:=(mkN L st sym (k + 1)).emit) (d:=[]) (i:=k) (by rw [N1.el];omega));rw [g1,g2,g3];refine ⟨fun _ => ⟨by omega,by rw [d_c,List.length_replicate];omega⟩,fun _ => ⟨by omega,by rw [g_N,N1.el];omega⟩,_,fun _ => s_n _ _ (by rw [r1.1];omega) (by rw [r2.1];omega) (fun q hq => by have:=(r1.2.2 q hq).1;omega) (fun q hq => by have:=(r2.2.2 q hq).1;omega),fun y => ?_,fun y => ?_⟩
     ·have hy : (mkN L st sym k).emit.getD j [] = (mkN L st sym (k + 1)).emit.getD k []:=by
       by_cases hd : (mkN L st sym k).emit.getD j [] = (mkN L st sym (k + 1)).emit.getD k []
       ·exact hd
       ·rw [decide_eq_false hd] at y;cases y
      rw [if_pos hy] at h10;refine ⟨⟨by omega,by rw [T_,N.il];omega⟩,(b_w (mkN L st sym (k + 1)).emit,(b_i L a 3).2,(mkN L st sym k).ties.getD j 0,j + 1),
       ⟨rfl,d_D L h7 3,hj,h10⟩,by dsimp only;omega,(by and_intros <;> first | exact trivial | rfl | (rw [c_ (by omega)];rfl))⟩
     ·have hy : ¬ (mkN L st sym k).emit.getD j [] = (mkN L st sym (k + 1)).emit.getD k []:=by
       intro hd;rw [decide_eq_true hd] at y;cases y
      rw [if_neg hy] at h10;refine ⟨(b_w (mkN L st sym (k + 1)).emit,(b_i L a 3).2,t,j + 1),
       ⟨rfl,d_D L h7 3,hj,h10⟩,by dsimp only;omega,(by and_intros <;> first | exact trivial | rfl | (rw [c_ (by omega)];rfl))⟩
    ·rw [a_D] at z
     rw [if_neg (by omega)] at h10;have p1:=congrArg Prod.fst h10;have p2:=congrArg Prod.snd h10;dsimp only at p1 p2;subst p2;refine ⟨⟨by omega,by omega⟩,(topT st sym (r0.1.getD st 0) (r0.1.take st),b_w (mkN L st sym (k + 1)).trans,ratL (mkN L st sym (k + 1)).stop,b_w (mkN L st sym (k + 1)).emit,a_Y (List.replicate (k + 1) false),intL (mkN L st sym (k + 1)).ties,(b_i L a 3).2,k + 1),
      ⟨rfl,rfl,rfl,rfl,rfl,rfl,p1,hk⟩,by dsimp only;omega,?_⟩
     have tt : List.take (intL (mkN L st sym k).ties).length (intL (mkN L st sym k).ties) ++ [T.i .i64 (((mkN L st sym (k + 1)).ties.getD k 0 : Nat) : Int)] = intL (mkN L st sym (k + 1)).ties:=by rw [q_,i_N,← ttl]
     dsimp only;rw [tt];exact (by and_intros <;> first | exact trivial | rfl | (rw [c_ (by omega)];rfl))
   ·rw [l_] at g
    have : j = k:=by omega
    subst this;rw [Nat.sub_self] at h10;unfold tieT at h10;have p1:=congrArg Prod.fst h10;have p2:=congrArg Prod.snd h10;dsimp only at p1 p2;subst p2;rw [e_d,bt];refine ⟨⟨by omega,by omega⟩,(topT st sym (r0.1.getD st 0) (r0.1.take st),b_w (mkN L st sym (j + 1)).trans,ratL (mkN L st sym (j + 1)).stop,b_w (mkN L st sym (j + 1)).emit,a_Y (List.replicate (j + 1) false),intL (mkN L st sym (j + 1)).ties,a,j + 1),
      ⟨rfl,rfl,rfl,rfl,rfl,rfl,p1,hk⟩,by dsimp only;omega,?_⟩
    have tt : List.take (intL (mkN L st sym j).ties).length (intL (mkN L st sym j).ties) ++ [T.i .i64 (((mkN L st sym (j + 1)).ties.getD j 0 : Nat) : Int)] = intL (mkN L st sym (j + 1)).ties:=by rw [q_,i_N,← ttl]
    dsimp only;rw [tt];exact (by and_intros <;> first | exact trivial | rfl | (rw [c_ (by omega)];rfl))
 ·rw [l_] at q
  have : k = st:=by omega
  subst this;exact ⟨trivial,rfl,trivial⟩
theorem q_r (S Y : Int) (L : List Int) {most : Nat} (hm : 1 ≤ most ∧ most ≤ 6) (hL : L.length ≤ 9223372036854775807) :
  F 16 [.t 49 (chT S Y L),.t 2 (.i .i64 (most : Int))] (zo 2 29) [hidT (f_9 S Y L most)] :=
 s_2 _ _ _ ⟨_,u_a S Y L hm hL,trivial,rfl,trivial⟩
def C7 : Ctx:=⟨tab,sigs,120,[0,1,2,4,5,6,7,8,9,10,11,12,13,14,15,16,17,18],[],[],[],[],[]⟩
theorem u_G (a0 : T) (a1 : T) (y0 : T) (I0 : X20 → Prop) (M0 : X20 → Nat) (h : ∃ y : T,F 16 [.t 49 (G3 a0),.t 2 (kI 3)] (zo 2 29) [y] ∧ ∃ y_1 : T,F 20 [.t 28 a1,.t 2 (y.cell 0),.t 2 (kI 8)] (zo 3 28) [y_1] ∧ ∃ y_2 y_3 : T,F 25 [.t 29 (G11 y)] Z9 [y_2,y_3] ∧ ∃ y_4 y_5 : T,F 17 [.t 29 (G11 y)] Z12 [y_4,y_5] ∧ ∃ y_6 y_7 y_8 : T,F 10 [.t 32 (G13 y_4),.t 35 (T.g [kI 1,kI 0,kI 0,T.l [],T.l []])] Z11 [y_6,y_7,y_8] ∧ ((T.ite (T.ite (neI y_3.int 0) (T.b true) (T.b (neI y_5.int 0))).bool (T.b true) (T.b (neI y_8.int 0))).bool = true → True ∧ T.b false = y0 ∧ True) ∧ ((T.ite (T.ite (neI y_3.int 0) (T.b true) (T.b (neI y_5.int 0))).bool (T.b true) (T.b (neI y_8.int 0))).bool = false → (∃ (i : X20),I0 i ∧ R55 a0 a1 (E11 y i.1 (y_1 = i.2.1 ∧ True ∧ E15 y_2 i.2.2.1 (True ∧ E13 y_6 i.2.2.2.1 (True ∧ T.l [] = i.2.2.2.2.1 ∧ kI 0 = kI ↑i.2.2.2.2.2 ∧ True))))) ∧ (∀ (i : X20),true = true) ∧ ∀ (i : X20),I0 i → (ltI ↑i.2.2.2.2.2 (lenOf i.2.1.list) = true → (0 ≤ (↑i.2.2.2.2.2 : Int) ∧ (↑i.2.2.2.2.2 : Int) ≤ addI .i64 ↑i.2.2.2.2.2 1 ∧ addI .i64 ↑i.2.2.2.2.2 1 ≤ lenOf i.2.1.list) ∧ ∃ y y_9 y_10 : T,F 10 [.t 32 (G13 i.2.2.2.1),.t 35 (T.g [kI 2,kI 0,kI ↑i.2.2.2.2.2,T.l (List.take (addI .i64 ↑i.2.2.2.2.2 1 - (↑i.2.2.2.2.2 : Int)).toNat (List.drop (↑i.2.2.2.2.2 : Int).toNat i.2.1.list)),T.l []])] Z11 [y,y_9,y_10] ∧ (Bd ↑i.2.2.2.2.2 (lenOf i.2.1.list)) ∧ ∃ y_11 y_12 y_13 : T,F 26 [.t 60 (G15 i.2.2.1),.t 2 ((i.2.1.list.getD (↑i.2.2.2.2.2 : Int).toNat T.u).cell 0)] Z16 [y_11,y_12,y_13] ∧ ((T.ite (neI y_10.int 0) (T.b true) (T.b (neI (y_9.cell 0).int y_13.int))).bool = true → True ∧ T.b false = y0 ∧ True) ∧ ((T.ite (neI y_10.int 0) (T.b true) (T.b (neI (y_9.cell 0).int y_13.int))).bool = false → (neI y_13.int 0 = true → ∃ y : T,F 9 [] (zo 0 4) [y] ∧ True ∧ y = y0 ∧ True) ∧ (neI y_13.int 0 = false → (ltI (lenOf (y_9.cell 2).list) (lenOf i.2.2.2.2.1.list) = false ∧ True → 0 ≤ (0 : Int) ∧ 0 ≤ lenOf i.2.2.2.2.1.list ∧ lenOf i.2.2.2.2.1.list ≤ lenOf (y_9.cell 2).list) ∧ ∃ y_14 : T,(ltI (lenOf (y_9.cell 2).list) (lenOf i.2.2.2.2.1.list) = false ∧ True → F 22 [.t 28 (T.l (List.take (lenOf i.2.2.2.2.1.list - (0 : Int)).toNat (List.drop 0 (y_9.cell 2).list))),.t 28 i.2.2.2.2.1] (zo 2 4) [y_14]) ∧ ∃ y_15 : T,((T.ite (ltI (lenOf (y_9.cell 2).list) (lenOf i.2.2.2.2.1.list)) (T.b true) (T.b !y_14.bool)).bool = false ∧ True → F 22 [.t 28 (y_9.cell 2),.t 28 (y_11.cell 14)] (zo 2 4) [y_15]) ∧ ((T.ite (T.ite (ltI (lenOf (y_9.cell 2).list) (lenOf i.2.2.2.2.1.list)) (T.b true) (T.b !y_14.bool)).bool (T.b true) (T.b !y_15.bool)).bool = true → True ∧ T.b false = y0 ∧ True) ∧ ((T.ite (T.ite (ltI (lenOf (y_9.cell 2).list) (lenOf i.2.2.2.2.1.list)) (T.b true) (T.b !y_14.bool)).bool (T.b true) (T.b !y_15.bool)).bool = false → ∃ (j : X20),I0 j ∧ M0 j < M0 i ∧ R55 a0 a1 (E11 i.1 j.1 (i.2.1 = j.2.1 ∧ True ∧ E15 y_11 j.2.2.1 (True ∧ E13 y j.2.2.2.1 (True ∧ y_9.cell 2 = j.2.2.2.2.1 ∧ kI (addI .i64 ↑i.2.2.2.2.2 1) = kI ↑j.2.2.2.2.2 ∧ True)))))))) ∧ (ltI ↑i.2.2.2.2.2 (lenOf i.2.1.list) = false → ∃ y : T,F 9 [] (zo 0 4) [y] ∧ True ∧ y = y0 ∧ True))) : F 7 [.t 49 a0,.t 28 a1] (zo 2 4) [y0] :=
 F_nf C7 (by kernel_rfl) Tryz.func7 (by kernel_rfl) (.two .no (.two .no (.two .no (.two .no (.two .no (.two .no (.two .no (.two .no (.two (.two .no (.lp (fun (ia : X20) => [(a_ 0,AV.t 49 a0),(a_ 1,AV.t 28 a1),(a_ 2,AV.box 49 0 3)] ++ bxS 2 a0 0 Y6 ++ [(a_ 4,AV.t 4 (T.b false)),(a_ 5,AV.box 29 0 11)] ++ bxS 5 ia.1 0 Y2 ++ [(a_ 6,.t 28 ia.2.1),(a_ 7,AV.box 60 0 15)] ++ bxS 7 ia.2.2.1 0 Y3 ++ [(a_ 9,AV.box 32 0 13)] ++ bxS 9 ia.2.2.2.1 0 Y4 ++ [(a_ 11,AV.box 40 0 8),(a_ 13,.t 28 ia.2.2.2.2.1),(a_ 14,.t 2 (.i .i64 (ia.2.2.2.2.2 : Int)))]) I0 M0 (fun _ => .no))) .no))))))))) (by kernel_rfl) h
def C9 : Ctx:=⟨tab,sigs,43,[0,1,2,3],[],[],[],[],[]⟩
theorem u_H  (y0 : T) (h : ∃ y : T,F 28 [] (zo 0 29) [y] ∧ ∃ y_1 y_2 y_3 : T,F 27 [.t 29 y,.t 82 (T.l (((((List.replicate 4 (T.g [kI 0,kI 0,kI 0,T.l [],T.l []])).set 0 (T.g [kI 1,kI 0,kI 0,T.l [],T.l []])).set 1 (T.g [kI 2,kI 0,kI 0,T.l ((List.replicate 1 (kI 0)).set 0 (kI 1)),T.l []])).set 2 (T.g [kI 2,kI 0,kI 0,T.l (((List.replicate 2 (kI 0)).set 0 (kI 1)).set 1 (kI 2)),T.l []])).set 3 (T.g [kI 5,kI 0,kI 0,T.l [],T.l []])))] Z17 [y_1,y_2,y_3] ∧ ((T.ite (eqI y_3.int 0) (T.b (eqI (lenOf y_1.list) 4)) (T.b false)).bool = true ∧ True → 0 ≤ (3 : Int) ∧ (3 : Int) < lenOf y_1.list) ∧ ∃ y : T,((T.ite (eqI y_3.int 0) (T.b (eqI (lenOf y_1.list) 4)) (T.b false)).bool = true ∧ True → F 22 [.t 28 ((y_1.list.getD (Int.toNat (3 : Int)) T.u).cell 4),.t 28 (T.l (((List.replicate 2 (kI 0)).set 0 (kI 0)).set 1 (kI 1)))] (zo 2 4) [y]) ∧ True ∧ T.ite (T.ite (T.ite (T.ite (eqI y_3.int 0) (T.b (eqI (lenOf y_1.list) 4)) (T.b false)).bool y (T.b false)).bool (T.b (eqI (lenOf (y_2.cell 11).list) 0)) (T.b false)).bool (T.b (eqI (y_2.cell 12).int (1 : Int))) (T.b false) = y0 ∧ True) : F 9 [] (zo 0 4) [y0] :=
 F_nf C9 (by kernel_rfl) Tryz.func9 (by kernel_rfl) .no (by kernel_rfl) h
end Go.Pq
namespace Go.Pl
theorem p_n (kind n seq : Int) (syms : List Int) (tok : T) : (reqT kind n seq syms tok).part 0 5 = reqT kind n seq syms tok:=rfl
theorem p_o (kind n seq : Int) (syms : List Int) (tok : T) : (G5 (reqT kind n seq syms tok)) = reqT kind n seq syms tok:=rfl
def l_O (a : T) : Prop:=∃ e m d t p q0 q1 q2,a = .g [e,m,d,t,p,q0,q1,q2]
theorem l_O.self {a : T} (h : l_O a) : (G8 a) = a:=by
 obtain ⟨e,m,d,t,p,q0,q1,q2,rfl⟩:=h;rfl
theorem j_s (e n : Int) (d : T) : l_O (ansT e n d):=⟨_,_,_,_,_,_,_,_,rfl⟩
theorem q_y (n : Int) (p : T) (q : Rat) : l_O (endT n p q):=⟨_,_,_,_,_,_,_,_,rfl⟩
def a_M : Md:=⟨2,2,0,[mkQ 1 2,mkQ 1 2],[[0,mkQ 1 2],[0,0]],[mkQ 1 2,1],[[1,0],[0,1]],[0,1]⟩
theorem j_Y : rl (mkQ 1 2) ≤ 1 ∧ Share (mkQ 1 2):=⟨u_i (a:=1) (b:=2) (by decide) (by decide) (by decide),l_o (a:=1) (b:=2) (by decide) (by decide)⟩
theorem g_2 : rl 0 ≤ 1 ∧ Share 0:=⟨by rw [f_p];decide,f_q⟩
theorem n_K : rl 1 ≤ 1 ∧ Share 1:=⟨by rw [f_C];decide,by decide,by decide⟩
theorem d_4 : MdOk a_M 1:=by
 refine ⟨by decide,by decide,by decide,rfl,rfl,rfl,rfl,rfl,?_,?_,?_,g_2,?_,?_,?_,?_,by decide +kernel,?_,?_,?_⟩
 ·intro r hr;simp [a_M] at hr;rcases hr with rfl | rfl <;> rfl
 ·intro r hr;simp [a_M] at hr;rcases hr with rfl | rfl <;> rfl
 ·intro r hr;simp [a_M] at hr;rcases hr with rfl | rfl <;> decide
 ·intro q hq;simp [a_M] at hq;subst hq;exact j_Y
 ·intro r hr q hq
  simp [a_M] at hr
  rcases hr with rfl | rfl
  ·simp at hq;rcases hq with rfl | rfl
   ·exact g_2
   ·exact j_Y
  ·simp at hq;subst hq;exact g_2
 ·intro q hq;simp [a_M] at hq;rcases hq with rfl | rfl
  ·exact j_Y
  ·exact n_K
 ·intro r hr q hq
  simp [a_M] at hr
  rcases hr with rfl | rfl
  ·simp at hq;rcases hq with rfl | rfl
   ·exact n_K
   ·exact g_2
  ·simp at hq;rcases hq with rfl | rfl
   ·exact g_2
   ·exact n_K
 ·intro i hi
  have : i = 0 ∨ i = 1:=by have : i < 2:=hi;omega
  rcases this with rfl | rfl <;> decide +kernel
 ·intro r hr;simp [a_M] at hr;rcases hr with rfl | rfl <;> decide +kernel
 ·intro i j hi hj
  have : i = 1 ∧ j = 0:=by have : i < 2:=hi;omega
  obtain ⟨rfl,rfl⟩:=this;intro h;cases h
def coin1 : On:=⟨1,[mkQ 1 2,0],[[],[]],[0]⟩
def coin2 : On:=⟨2,[0,mkQ 1 4],[[],[]],[0,1]⟩
theorem l_I : c_o a_M on0 (seq0 on0 0 [1]) = .ok coin1:=by kernel_rfl
theorem l_J : c_o a_M coin1 (seq0 coin1 0 [1,2]) = .ok coin2:=by kernel_rfl
theorem o_I : finO a_M coin2 = (mkQ 1 4,[]):=by kernel_rfl
end Go.Pl
namespace Go.Pq
open Go.Pl Go.Proofs
theorem s_s {h : Md} {c : Nat} (hk : MdOk h c) (rs : List T) (hl : rs.length ≤ 400) (S : Nat → Srv) (A : Nat → T) (h0 : S 0 = ⟨[],0⟩) (hok : b_O h c (S rs.length)) (hA : ∀ k,l_O (A k))
  (hr : ∀ k,k < rs.length → ∃ kind n seq syms tok,rs.getD k T.u = reqT kind n seq syms tok)
  (hs : ∀ k,k < rs.length → F 29 [.t 32 (srvT h (S k)),.t 35 (rs.getD k T.u)] Z10 [srvT h (S (k + 1)),A k]) :
  F 27 [.t 29 (hidT h),.t 82 (.l rs)] Z17 [.l ((List.range rs.length).map A),srvT h (S rs.length),.i .i64 0]:=by
 have hroom : room = 140737488355328:=rfl;refine s_9 _ _ _ _ _ (fun i => i.1 = srvT h (S i.2.2) ∧ i.2.1 = (List.range i.2.2).map A ∧ i.2.2 ≤ rs.length) (fun i => rs.length - i.2.2) ?_;have hlen : lenOf (T.l rs).list = (rs.length : Int):=rfl;rw [a_7,hlen];refine ⟨_,_,u_d hk,fun q => (by cases q),fun _ => ⟨fun q => ?_,fun _ => ⟨⟨(srvT h (S 0),[],0),⟨rfl,rfl,Nat.zero_le _⟩,?_⟩,fun _ => rfl,?_⟩⟩⟩
 ·rw [d_] at q;omega
 ·rw [h0];exact (by and_intros <;> first | exact trivial | rfl | (rw [c_ (by omega)];rfl))
 rintro ⟨sv,an,k⟩ ⟨h1,h2,h3⟩;dsimp only at h1 h2 h3 ⊢;subst h1 h2;rw [e_F];refine ⟨fun q => ?_,fun q => ?_⟩
 ·rw [d_] at q
  have hlt : k < rs.length:=by omega
  obtain ⟨kind,n,seq,syms,tok,hq⟩:=hr k hlt;have hst:=hs k hlt;have hat : (T.l rs).list.getD (k : Int).toNat T.u = reqT kind n seq syms tok:=by rw [Int.toNat_natCast];exact hq
  rw [hat,p_n,p_o,q_];rw [hq] at hst;refine ⟨⟨by omega,by omega⟩,_,_,hst,?_⟩;rw [(hA k).self,e_d];have hl1 : ((List.range k).map A).length + [A k].length = k + 1:=by simp
  rw [hl1];refine ⟨⟨by omega,by omega⟩,(srvT h (S (k + 1)),(List.range (k + 1)).map A,k + 1),⟨rfl,rfl,hlt⟩,by dsimp only;omega,?_⟩;have : (List.range (k + 1)).map A = (List.range k).map A ++ [A k]:=by rw [List.range_succ,List.map_append];rfl
  dsimp only;rw [this];exact (by and_intros <;> first | exact trivial | rfl | (rw [c_ (by omega)];rfl))
 ·rw [l_] at q
  have hke : k = rs.length:=by omega
  subst hke;refine ⟨_,k_M hk hok,trivial,?_,?_,rfl,trivial⟩
  ·rw [List.drop_zero,q_]
  ·exact e_F _ _
theorem s_W : F 28 [] (zo 0 29) [hidT a_M] :=
 t_a _ ⟨_,_,k_a 1 2 (by decide) (by decide) (by decide),_,i_j 1 (by decide),trivial,rfl,trivial⟩
end Go.Pq
namespace Go.Pl
theorem o_Z {a b : List Nat} (h : a.length = b.length) (h2 : ∀ i,i < a.length → a.getD i 0 = b.getD i 0) : a = b:=by
 apply List.ext_getElem h;intro i h3 h4
 have:=h2 i h3
 rw [List.getD_eq_getElem?_getD,List.getD_eq_getElem?_getD,List.getElem?_eq_getElem h3,List.getElem?_eq_getElem h4] at this;exact this
def m_W : List T:=[reqT 1 0 0 [] (.l []),reqT 2 0 0 [1] (.l []),reqT 2 0 0 [1,2] (.l []),reqT 5 0 0 [] (.l [])]
def c_M : Nat → Srv
 | 0 => ⟨[],0⟩
 | 1 => ⟨[(0,on0)],1⟩
 | 2 => ⟨[(0,coin1)],1⟩
 | 3 => ⟨[(0,coin2)],1⟩
 | _ => ⟨[],1⟩
def i_x : Nat → T
 | 0 => ansT 0 0 (.l [])
 | 1 => ansT 0 0 (intT [0])
 | 2 => ansT 0 0 (intT [0,1])
 | _ => endT 0 (intT [0,1]) (mkQ 1 4)
theorem o_H (k : Nat) : l_O (i_x k):=by
 unfold i_x;split
 ·exact j_s _ _ _
 ·exact j_s _ _ _
 ·exact j_s _ _ _
 ·exact q_y _ _ _
theorem m_X : l_1 (c_M 0) = (c_M 1,i_x 0):=rfl
theorem g_h (h : Md) (o : On) (m : Nat) (seq : Int) (syms : List Int) (hs : ¬ (seq < 0 ∨ (o.time : Int) < seq)) : h_N h ⟨[(0,o)],m⟩ 0 seq syms 0 =
  match c_o h o (seq0 o seq syms) with | .ok o' => (⟨[(0,o')],m⟩,ansT 0 0 (intT o'.done)) | .error e => (⟨[(0,o)],m⟩,ansT e 0 (.l [])):=by
 have h1 : 0 < (⟨[(0,o)],m⟩ : Srv).ss.length ∧ (((⟨[(0,o)],m⟩ : Srv).ss.getD 0 (0,on0)).1 : Int) = 0:=⟨Nat.one_pos,rfl⟩;have h2 : ¬ (seq < 0 ∨ (((⟨[(0,o)],m⟩ : Srv).ss.getD 0 (0,on0)).2.time : Int) < seq):=hs;unfold h_N;rw [if_pos h1,if_neg h2];rfl
theorem m_Y : h_N a_M (c_M 1) 0 0 [1] 0 = (c_M 2,i_x 1):=by
 have:=g_h a_M on0 1 0 [1] (by intro q;rcases q with q | q <;> cases q)
 rw [l_I] at this;exact this
theorem m_Z : h_N a_M (c_M 2) 0 0 [1,2] 0 = (c_M 3,i_x 2):=by
 have:=g_h a_M coin1 1 0 [1,2] (by intro q;rcases q with q | q <;> cases q)
 rw [l_J] at this;exact this
theorem m_0 : endS a_M (c_M 3) 0 0 = (c_M 4,i_x 3):=by
 have h1 : 0 < (c_M 3).ss.length ∧ (((c_M 3).ss.getD 0 (0,on0)).1 : Int) = 0:=⟨Nat.one_pos,rfl⟩;have h2 : ((c_M 3).ss.getD 0 (0,on0)).2 = coin2:=rfl;unfold endS;rw [if_pos h1,h2,o_I,if_pos (by decide +kernel)];rfl
theorem o_d (h : Md) (c : Nat) : b_O h c ⟨[],0⟩:=by
 refine ⟨by decide,by decide,fun i hi => (by cases hi),fun i hi => (by cases hi),fun x hx => (by cases hx)⟩
theorem fnd0 (x : Nat × On) (h : x.1 = 0) : Fnd [x] 0 0:=by
 refine ⟨Nat.zero_le _,fun j hj => (by cases hj),fun j _ hj => ?_⟩;have : j = 0:=by simpa using hj
 subst this
 show (0 : Int) ≤ (x.1 : Int)
 omega
end Go.Pl
namespace Go.Pq
open Go.Pl Go.Proofs
theorem h_9 (a b : List Nat) (ha : a.length ≤ 2 ^ 40) : F 22 [.t 28 (intT a),.t 28 (intT b)] (zo 2 4) [.b (decide (a = b))]:=by
 refine s_6 _ _ _ (fun k => k ≤ a.length ∧ ∀ j,j < k → a.getD j 0 = b.getD j 0) (fun k => a.length - k) ?_;rw [D_,D_];refine ⟨fun q => ?_,fun q => ⟨⟨0,⟨Nat.zero_le _,fun j hj => (by cases hj)⟩,(by and_intros <;> first | exact trivial | rfl | (rw [c_ (by omega)];rfl))⟩,fun _ => rfl,?_⟩⟩
 ·rw [b_h] at q
  rw [decide_eq_false (fun e => q (by rw [e]))];exact ⟨trivial,rfl,trivial⟩
 ·rw [c_i] at q
  rintro k ⟨hk,he⟩;refine ⟨fun g => ?_,fun g => ?_⟩
  ·rw [d_] at g
   have hla : k < a.length:=by omega
   have hlb : k < b.length:=by omega
   rw [a_p a hla,a_p b hlb,a_E,a_E,k_,k_];refine ⟨⟨by omega,by omega⟩,⟨by omega,by omega⟩,fun w => ?_,fun w => ?_⟩
   ·rw [b_h] at w
    rw [decide_eq_false (fun e => w (by rw [e]))];exact ⟨trivial,rfl,trivial⟩
   ·rw [c_i] at w
    refine ⟨k + 1,⟨hla,fun j hj => ?_⟩,by omega,(by and_intros <;> first | exact trivial | rfl | (rw [c_ (by omega)];rfl))⟩
    by_cases e : j = k
    ·subst e;omega
    ·exact he j (by omega)
  ·rw [l_] at g
   have hab : a = b:=o_Z (by omega) fun i hi => he i (by omega)
   rw [decide_eq_true hab];exact ⟨trivial,rfl,trivial⟩
theorem n_x : F 9 [] (zo 0 4) [.b true]:=by
 have H0 : b_O a_M 1 (c_M 0):=o_d _ _;have H1 : b_O a_M 1 (c_M 1):=by have:=p_d H0;rw [m_X] at this;exact this
 have H2 : b_O a_M 1 (c_M 2):=by have:=k_O d_4 H1 0 0 [1] 0;rw [m_Y] at this;exact this
 have H3 : b_O a_M 1 (c_M 3):=by have:=k_O d_4 H2 0 0 [1,2] 0;rw [m_Z] at this;exact this
 have H4 : b_O a_M 1 (c_M 4):=by have:=q_x H3 0 0;rw [m_0] at this;exact this
 have c1:=n_M d_4 H0 0 0 [] (.l []);rw [m_X] at c1;have c2:=j_O d_4 H1 0 0 [1] (.l []) 0 (fnd0 _ rfl) (by decide);rw [m_Y] at c2;have c3:=j_O d_4 H2 0 0 [1,2] (.l []) 0 (fnd0 _ rfl) (by decide);rw [m_Z] at c3;have c4:=s_Z d_4 H3 0 0 [] (.l []) 0 (fnd0 _ rfl);rw [m_0] at c4;have four : ∀ {p : Nat → Prop},p 0 → p 1 → p 2 → p 3 → ∀ k,k < 4 → p k:=by
  intro p p0 p1 p2 p3 k hk
  match k,hk with
  | 0,_ => exact p0
  | 1,_ => exact p1
  | 2,_ => exact p2
  | 3,_ => exact p3
 have sv:=s_s d_4 m_W (by decide) c_M i_x rfl H4 o_H
  (four (p:=fun k => ∃ kind n seq syms tok,m_W.getD k T.u = reqT kind n seq syms tok) ⟨_,_,_,_,_,rfl⟩ ⟨_,_,_,_,_,rfl⟩ ⟨_,_,_,_,_,rfl⟩ ⟨_,_,_,_,_,rfl⟩)
  (four (p:=fun k => F 29 [.t 32 (srvT a_M (c_M k)),.t 35 (m_W.getD k T.u)] Z10 [srvT a_M (c_M (k + 1)),i_x k]) c1 c2 c3 c4)
 refine u_H _ ⟨_,s_W,_,_,_,sv,fun _ => ⟨by decide,by decide⟩,.b true,fun _ => h_9 [0,1] [0,1] (by decide),?_⟩;exact ⟨trivial,rfl,trivial⟩
end Go.Pq
namespace Go.Pl
abbrev S6:=T × T × T × T × T × Nat
structure CmI (h : Md) (w : List Nat) (i : S6) : Prop where
 a : i.1 = hidT h
 b : i.2.1 = intT w
 le : i.2.2.2.2.2 ≤ w.length
 c : ∃ o,i.2.2.1 = onT h o ∧ i.2.2.2.1 = srvT h ⟨[(0,o)],1⟩ ∧ i.2.2.2.2.1 = intT o.done ∧ o.time = i.2.2.2.2.2 ∧ OnOk h 1 o
end Go.Pl
namespace Go.Pq
open Go.Pl Go.Proofs
theorem o_L (S Y : Int) (L W : List Int) (hL : L.length ≤ 9223372036854775807) : F 7 [.t 49 (chT S Y L),.t 28 (a_V W)] (zo 2 4) [.b true]:=by
 have hk:=k_G S Y L (most:=3) (by decide);have ch:=q_r S Y L (most:=3) (by decide) hL
 generalize f_9 S Y L 3 = h at *
 have hsy:=hk.sym;have wd:=u_x W (y:=h.sym) (n:=8) (by omega) (by decide)
 generalize hw : (W.take 8).map (fun x => 1 + within x h.sym) = w at wd
 have hwl : w.length ≤ 8:=by rw [← hw,List.length_map,List.length_take];omega
 have H0 : b_O h 1 ⟨[],0⟩:=o_d h 1;have op:=n_M hk H0 0 0 [] (.l []);have hop:=h_z hk H0 1 0 0 [] (.l []) _ _ _ _ _ _ _ _ _ op;refine u_G _ _ _ (CmI h w) (fun i => w.length - i.2.2.2.2.2) ?_;rw [show (G3 (chT S Y L)) = chT S Y L from rfl];refine ⟨_,ch,_,wd,_,_,by rw [a_7];exact s_a h 1 hk,_,_,by rw [a_7];exact u_d hk,_,_,_,by rw [e_F];exact hop,fun q => (by cases q),fun _ => ⟨⟨(hidT h,intT w,onT h on0,srvT h ⟨[(0,on0)],1⟩,intT [],0),⟨rfl,rfl,Nat.zero_le _,on0,rfl,rfl,rfl,rfl,p_2 h 1⟩,(by and_intros <;> first | exact trivial | rfl | (rw [c_ (by omega)];rfl))⟩,fun _ => rfl,?_⟩⟩;rintro ⟨md,wt,ot,st,la,t⟩ ⟨h1,h2,h3,o,h4,h5,h6,h7,H⟩;dsimp only at h1 h2 h3 h4 h5 h6 h7 ⊢;subst h1 h2 h4 h5 h6;rw [D_];have HS : b_O h 1 ⟨[(0,o)],1⟩:=by
  refine ⟨by show 1 ≤ 8;decide,by show 1 ≤ 1099511627776;decide,fun i hi => ?_,fun i hi => ?_,fun x hx => ?_⟩
  ·have : i = 0:=by simpa using hi
   subst this;show 0 < 1;decide
  ·have : i + 1 < 1:=hi;omega
  ·have : x = (0,o):=by simpa using hx
   subst this;exact H
 refine ⟨fun q => ?_,fun q => ⟨_,n_x,trivial,rfl,trivial⟩⟩;rw [d_] at q;have hlt : t < w.length:=by omega
 have hone : addI .i64 (t : Int) 1 = ((t + 1 : Nat) : Int):=by rw [c_ (by omega)];omega
 have hsy1 : T.l (List.take (addI .i64 (t : Int) 1 - (t : Int)).toNat (List.drop (t : Int).toNat (intT w).list)) = a_V [((w.getD t 0 : Nat) : Int)]:=by
  rw [hone,show (((t + 1 : Nat) : Int) - (t : Int)).toNat = 1 from by omega,Int.toNat_natCast,a_c,e_p,b_7,List.drop_eq_getElem_cons hlt,List.getD_eq_getElem?_getD,List.getElem?_eq_getElem hlt];rfl
 have hreq : T.g [T.i .i64 2,T.i .i64 0,T.i .i64 (t : Int),T.l (List.take (addI .i64 (t : Int) 1 - (t : Int)).toNat (List.drop (t : Int).toNat (intT w).list)),T.l []] = reqT 2 0 (t : Int) [((w.getD t 0 : Nat) : Int)] (.l []):=by rw [hsy1];rfl
 have fd:=j_O hk HS 0 (t : Int) [((w.getD t 0 : Nat) : Int)] (.l []) 0 (fnd0 _ rfl) (by show 1 ≤ 2 ^ 40;decide);have fo:=g_h h o 1 (t : Int) [((w.getD t 0 : Nat) : Int)] (by omega);have hseq : seq0 o (t : Int) [((w.getD t 0 : Nat) : Int)] = [((w.getD t 0 : Nat) : Int)]:=by
  unfold seq0;rw [show ((o.time : Int) - (t : Int)).toNat = 0 from by omega,Nat.zero_min,List.drop_zero]
 rw [hseq] at fo;obtain ⟨z0,z1,z2,pz,hp⟩:=p_i hk H ((w.getD t 0 : Nat) : Int);have hdl:=H.dlen;rw [hreq,e_F,c_q,a_p w hlt,a_E,hone];have fe : c_o h o [((w.getD t 0 : Nat) : Int)] = d_o h o ((w.getD t 0 : Nat) : Int):=by
  unfold c_o;cases d_o h o ((w.getD t 0 : Nat) : Int) <;> rfl
 rw [fe] at fo
 cases hpe : d_o h o ((w.getD t 0 : Nat) : Int) with
 | error e =>
  rw [hpe] at fo hp;dsimp only at fo hp;obtain ⟨p0,p1,p2⟩:=hp;subst p0 p1 p2;rw [fo] at fd;have hfd:=h_z hk HS 2 0 (t : Int) [((w.getD t 0 : Nat) : Int)] (.l []) _ _ _ _ _ _ _ _ _ fd;have he:=g_J hpe;refine ⟨⟨by omega,by omega,by omega⟩,_,_,_,hfd,⟨by omega,by omega⟩,_,_,_,pz,fun g => ?_,fun _ => ⟨fun _ => ⟨_,n_x,trivial,rfl,trivial⟩,fun g => ?_⟩⟩
  ·exfalso
   have : neI z2 z2 = true:=g;rw [a_f] at this;cases this
  ·rw [k_,c_i] at g
   omega
 | ok o' =>
  rw [hpe] at fo hp;dsimp only at fo hp;obtain ⟨p0,p1,p2⟩:=hp;subst p0 p1 p2;rw [fo] at fd;have hfd:=h_z hk HS 2 0 (t : Int) [((w.getD t 0 : Nat) : Int)] (.l []) _ _ _ _ _ _ _ _ _ fd;obtain ⟨H',ho',ht'⟩:=h_4 hk H hpe;have hdl' := H'.dlen;have hpre : o'.done = o.done ++ S_ h o (((w.getD t 0 : Nat) : Int).toNat):=by rw [ho'];rfl
  have hple : o.done.length ≤ o'.done.length:=by rw [hpre,List.length_append];omega
  have hcut : T.l (List.take (lenOf (intT o.done).list - 0).toNat (List.drop 0 (intT o'.done).list)) = intT o.done:=by
   rw [D_,show ((o.done.length : Int) - 0).toNat = o.done.length from by omega,List.drop_zero,a_c,b_7,hpre,List.take_left']
   ·rfl
   ·rfl
  have s1:=h_9 o.done o.done (by omega);rw [decide_eq_true rfl] at s1;have s2:=h_9 o'.done o'.done (by omega);rw [decide_eq_true rfl] at s2;have hans : (T.g [T.i .i64 0,T.i .i64 0,intT o'.done,T.l [],T.l [],T.b false,T.l [],T.l []]).cell 2 = intT o'.done:=rfl;refine ⟨⟨by omega,by omega,by omega⟩,_,_,_,hfd,⟨by omega,by omega⟩,_,_,_,pz,fun g => (by cases g),fun _ => ⟨fun g => (by cases g),fun _ => ?_⟩⟩;rw [hans,e_a,hcut,D_,D_,l_.2 (show (o.done.length : Int) ≤ (o'.done.length : Int) by omega)];refine ⟨fun _ => ⟨by omega,by omega,by omega⟩,_,fun _ => s1,_,fun _ => s2,fun g => (by cases g),fun _ => ⟨(hidT h,intT w,onT h o',srvT h ⟨[(0,o')],1⟩,intT o'.done,t + 1),⟨rfl,rfl,hlt,o',rfl,rfl,rfl,by dsimp only;omega,H'⟩,by dsimp only;omega,(by and_intros <;> first | exact trivial | rfl | (rw [c_ (by omega)];rfl))⟩⟩
end Go.Pq
namespace Go.Pl
open Go.RowKit Go.ChangeShapes Go.WideShapes Go.ChangeAt
theorem q_i {tab : Tab} {w : World} {O : Nat → Prop} {c : TypeId} {v : Value} {x : T} (h : L tab w O c v x) : Go.Pl.isAgg v = false ∧ v.cells = #[v]:=by
 cases h <;> exact ⟨rfl,rfl⟩
theorem s_R {w : World} {tab : Tab} {c e ce : TypeId} {ti te : TI} (hc : tab.at c = some (c,ti)) (hk : ti.k = .sl e) (he : tab.at e = some (ce,te)) (hci : tab.at ce = some (ce,te)) (hek : te.k = .int .i64) (hcells : te.cells = 1) {a : Addr} {len cap : Nat} {zs : List Int}
  (hl : len ≤ cap) (hm : cap ≤ maxLen) (hz : len ≤ zs.length) (hcell : ∀ i,i < zs.length → w.cell? (a.add i) = some (.int .i64 (zs.getD i 0))) (hw : ∀ n ∈ zs,(Lit.int .i64 n).wf = true) :
  L tab w (fun _ => False) c (.slice (some a) len cap) (a_V (zs.take len)):=by
 have hlen : ((zs.take len).map fun x => T.i .i64 x).length = len:=by simp;omega
 have:=L.sl (tab:=tab) (w:=w) (O:=fun _ => False) (a:=a) (cap:=cap) (xs:=(zs.take len).map fun x => T.i .i64 x) hc hk he (by omega) (by rw [hlen];exact hl) hm (fun _ h => h) (fun j _ => .int .i64 (zs.getD j 0)) ?_ ?_ ?_
 ·rw [hlen] at this;exact this
 ·intro j x hx
  simp only [List.getElem?_map,Option.map_eq_some_iff] at hx;obtain ⟨z,-,rfl⟩:=hx;refine ⟨?_,?_⟩
  ·unfold TI.isS;rw [hek];rfl
  ·rw [hcells];rfl
 ·intro j x n y hx hy
  simp only [List.getElem?_map,Option.map_eq_some_iff] at hx;obtain ⟨z,hz',rfl⟩:=hx;have hj : j < len:=by
   have:=(List.getElem?_eq_some_iff.1 hz').1
   rw [List.length_take] at this;omega
  have hn : n = 0:=by
   have:=(List.getElem?_eq_some_iff.1 hy).1
   have h1 : (T.i IntKind.i64 z).leaves.length = 1:=rfl;omega
  subst hn;rw [hcells,Nat.mul_one];exact hcell j (by omega)
 ·intro j x n y ty hx hy ht
  simp only [List.getElem?_map,Option.map_eq_some_iff] at hx;obtain ⟨z,hz',rfl⟩:=hx;have hj : j < len:=by
   have:=(List.getElem?_eq_some_iff.1 hz').1
   rw [List.length_take] at this;omega
  have hn : n = 0:=by
   have:=(List.getElem?_eq_some_iff.1 hy).1
   have h1 : (T.i IntKind.i64 z).leaves.length = 1:=rfl;omega
  subst hn;have hy' : y = .i .i64 z:=by
   have h1 : (T.i IntKind.i64 z).leaves = [.i .i64 z]:=rfl;rw [h1] at hy;simpa using hy.symm
  have ht' : ty = ce:=by
   unfold TI.lv at ht;rw [hek] at ht;simpa using ht.symm
  subst hy' ht';have hzz : zs.getD j 0 = z:=by
   rw [List.getElem?_take,if_pos hj] at hz';rw [List.getD_eq_getElem?_getD,hz'];rfl
  show L tab w _ ty (.int .i64 (zs.getD j 0)) _
  rw [hzz];refine .int hci hek ?_;have hzm : z ∈ zs:=by
   rw [List.getElem?_take,if_pos hj] at hz';exact List.mem_of_getElem? hz'
  have hwz:=hw z hzm;have h1 : IntKind.i64.min = -9223372036854775808:=rfl;simp [Lit.wf] at hwz;exact IntWalk.i64_in _ ⟨by omega,hwz.2⟩
end Go.Pl
namespace Go.Proofs.YtjhgombngbgjbaaGreatDoor.Commit
open Go.Pl Go.Pq Go.RowKit Go.ChangeShapes Go.WideShapes Go.ChangeAt
theorem own : ownKnob Tryz.prog.godebug = none:=by kernel_rfl
theorem n_y : laidOutB Tryz.prog = true:=by kernel_rfl
noncomputable def low : Nat:=(World.holding Tryz.prog default ⟨#[],#[],[]⟩).heap.size
noncomputable def g_n (os : Os) : World :=
 let w0:=World.holding Tryz.prog os ⟨#[.cells #[.string ⟨#[98,121,116,101,115,46,66,117,102,102,101,114,58,32,116,111,111,32,108,97,114,103,101]⟩] 251],#[],[]⟩
 { w0 with heap:=w0.heap.modify 0 fun
   | .cells _ t frozen => .cells #[.iface 235 (.pointer (some ⟨low,0,none⟩))] t frozen
   | o => o }
abbrev p_I : Array Value:=#[.agg #[.int .i64 0,.int .i64 0,.slice none 0 0],.slice none 0 0]
theorem o_1 (os : Os) : laidMet Tryz.prog Rows.sessionsCommitRow.laid ((g_n os).forCall (fun _ _ => 0) ⟨#[],p_I,[]⟩).memory :=
 laidMet_of_run (ps:=[.cell 0 0,.cell low 0]) 8 (by kernel_rfl) (by kernel_rfl) (by kernel_rfl)
theorem reads (os : Os) {H : Type} (enc : TypeId × Value → H) : ∃ places,DataW.whole enc Tryz.prog ((g_n os).forCall (fun _ _ => 0) ⟨#[],p_I,[]⟩).memory Tryz.f7.params.toList Rows.sessionsCommitSpec.vars false p_I.toList 8 = some ([.agg [.lit (.int .i64 0),.lit (.int .i64 0),.nil],.nil],[],places) :=
 ⟨[],by kernel_rfl⟩
theorem cells50 : Tryz.prog.cellsOf 50 = 3:=by kernel_rfl
theorem cells3 : Tryz.prog.cellsOf 3 = 1:=by kernel_rfl
theorem t28 : tab.at 28 = some (28,⟨.sl 3,1,24,[],.l []⟩):=by kernel_rfl
theorem t3 : tab.at 3 = some (2,⟨.int .i64,1,8,[],.i .i64 0⟩):=by kernel_rfl
theorem t2 : tab.at 2 = some (2,⟨.int .i64,1,8,[],.i .i64 0⟩):=by kernel_rfl
theorem t4 : tab.at 4 = some (4,⟨.bool,1,1,[],.b false⟩):=by kernel_rfl
theorem t49 : tab.at 49 = some (49,⟨.st [(0,2),(1,2),(2,28)],3,40,[2,2,28],.g [.i .i64 0,.i .i64 0,.l []]⟩):=by kernel_rfl
theorem q_g {n : Int} (h : (Lit.int .i64 n).wf = true) : IntKind.i64.wrap n = n:=by
 have h1 : IntKind.i64.min = -9223372036854775808:=rfl;simp [Lit.wf] at h;exact IntWalk.i64_in _ ⟨by omega,h.2⟩
theorem i_V {H : Type} {enc : TypeId × Value → H} {W : World} {fuel : Nat} {v : Value} {x : DataW H × List MemPlace} (h : DataW.trod enc Tryz.prog W 0 (fun _ => true) true fuel 28 [v] = some x) :
  ∃ l : List Int,l.length ≤ 9223372036854775807 ∧ L tab W (fun _ => False) 28 v (a_V l):=by
 rcases open_ints Tryz.underlying28 Tryz.underlying3 cells3 h with ⟨hcs,-⟩ | ⟨a,len,cap,zs,hcs,-,hl,hm,hz,-,hcell,hw⟩
 ·have : v = .slice none 0 0:=by simpa using hcs
  subst this;exact ⟨[],by decide,.nil t28 rfl⟩
 ·have : v = .slice (some a) len cap:=by simpa using hcs
  subst this;have hm' : maxLen = 9223372036854775807:=rfl;have hz' : zs.length = cap:=hz;exact ⟨zs.take len,by rw [List.length_take];omega,s_R t28 rfl t3 t2 rfl rfl hl hm (by omega) hcell hw⟩
theorem u_D {W : World} {O : Nat → Prop} {v : Value} {l : List Int} (h : L tab W O 28 v (a_V l)) : V tab W O 28 v (a_V l):=by
 have hv:=q_i h;refine ⟨_,t28,rfl,hv.1,by rw [hv.2];rfl,rfl,fun j y ty hy ht => ?_⟩;have hj : j = 0:=by
  have:=(List.getElem?_eq_some_iff.1 hy).1
  have h1 : (a_V l).leaves.length = 1:=rfl;omega
 subst hj;have h1 : (a_V l).leaves = [a_V l]:=rfl;rw [h1] at hy;have hy' : y = a_V l:=by simpa using hy.symm
 have ht' : ty = 28:=by simpa [TI.lv] using ht.symm
 subst hy' ht';exact ⟨v,by rw [hv.2];rfl,h⟩
theorem q_k {W : World} {O : Nat → Prop} {S Y : Int} {v : Value} {l : List Int} (hS : IntKind.i64.wrap S = S) (hY : IntKind.i64.wrap Y = Y) (h : L tab W O 28 v (a_V l)) :
  V tab W O 49 (.agg #[.int .i64 S,.int .i64 Y,v]) (chT S Y l):=by
 refine ⟨_,t49,rfl,rfl,rfl,rfl,fun j y ty hy ht => ?_⟩;have h1 : (chT S Y l).leaves = [.i .i64 S,.i .i64 Y,a_V l]:=rfl;rw [h1] at hy;have ht1 : ([2,2,28] : List TypeId)[j]? = some ty:=ht;have hc : (Value.agg #[.int .i64 S,.int .i64 Y,v]).cells = #[.int .i64 S,.int .i64 Y,v]:=rfl;rw [hc]
 match j with
 | 0 =>
  have e1 : y = .i .i64 S:=by simpa using hy.symm
  have e2 : ty = 2:=by simpa using ht1.symm
  subst e1 e2;exact ⟨_,rfl,.int t2 rfl hS⟩
 | 1 =>
  have e1 : y = .i .i64 Y:=by simpa using hy.symm
  have e2 : ty = 2:=by simpa using ht1.symm
  subst e1 e2;exact ⟨_,rfl,.int t2 rfl hY⟩
 | 2 =>
  have e1 : y = a_V l:=by simpa using hy.symm
  have e2 : ty = 28:=by simpa using ht1.symm
  subst e1 e2;exact ⟨_,rfl,h⟩
 | j + 3 => simp at hy
theorem f_v {W : World} {O : Nat → Prop} {v : Value} {b : Bool} (h : V tab W O 4 v (.b b)) : v = .bool b:=by
 obtain ⟨hl,-,-⟩:=b_Q t4 (by simp [TI.isS]) h;cases hl;rfl
theorem lifted (os : Os) (started : os.Started) (H : Type) (enc : TypeId × Value → H) (F : Stop.Interp) :
  ReturnsInHanded {} Tryz.checked os 7 .any ((OpenSpec.ofChange Rows.sessionsCommitSpec).preRow enc Tryz.prog Tryz.f7 Rows.sessionsCommitRow.domain false Rows.sessionsCommitRow.laid) (((OpenSpec.ofChange Rows.sessionsCommitSpec).at F).post enc Tryz.prog Tryz.f7 false true false false):=by
 obtain ⟨places,hx⟩:=reads os enc;refine returnsInHanded_of_row (C:=Tryz.checked) (s:=OpenSpec.ofChange Rows.sessionsCommitSpec) own started (by kernel_rfl) Tryz.func7
  (witness_row_atRef (enc:=enc) (C:=Tryz.checked) false (g_n os) p_I rfl (by kernel_rfl) (by kernel_rfl) (by kernel_rfl)
   (OpenSpec.preRow_of_cond 8 hx (by kernel_rfl) (fun k hk => by cases hk) (by kernel_rfl) (o_1 os))) ?_
 intro W base args ds gs before hval0 hW _ _ _ _ _ _;have hval : ∀ (j : Nat) t v,Tryz.f7.params[j]? = some t → args[j]? = some v → Value.okWide Tryz.prog W .any base t v:=hval0;have hW' := hW;obtain ⟨p,q,hA0,hV,rfl,-,-⟩:=hW;have hA : DataW.TrodAll enc Tryz.prog W 0 (fun _ => true) true Tryz.f7.params.toList args.toList ds p:=hA0;rw [Tryz.params7] at hA hval;obtain ⟨v0,v1,d0,d1,p0,p1,rfl,rfl,rfl,h0,h1⟩:=trodAll_two hA;obtain ⟨rfl,rfl⟩:=trodVars_none hV;simp only [List.append_nil] at hW';have k0:=h0;have k1:=h1;obtain ⟨c0,c1,c2,y0,y1,y2,n,rfl,-,-,f0,f1,f2⟩:=Go.Joins.open_agg3 Tryz.underlying50 (by kernel_rfl) cells50 (hval 0 50 v0 rfl rfl) h0;obtain ⟨S,e0,-,w0⟩:=DataW.trod_int Tryz.underlying3 f0;obtain ⟨Y,e1,-,w1⟩:=DataW.trod_int Tryz.underlying3 f1;have g0 : c0 = .int .i64 S:=by simpa using e0
 have g1 : c1 = .int .i64 Y:=by simpa using e1
 subst g0 g1;obtain ⟨Ll,hLl,HL⟩:=i_V f2;obtain ⟨a1,len1,cap1,rfl⟩:=okWide_slice Tryz.underlying28 (hval 1 28 v1 rfl rfl);obtain ⟨fuel,hf⟩:=h1;obtain ⟨Wl,-,HW⟩:=i_V (v:=.slice a1 len1 cap1) hf;have FC : Go.Pq.F 7 (i_c [(49,chT S Y Ll),(28,a_V Wl)]) (zo 2 4) [.b true]:=o_L S Y Ll Wl hLl;have lt : ∀ x ∈ p0 ++ p1,x.block < W.heap.size:=fun x hx => by simpa using hW'.lt x hx
 refine (Fn.calls (c:=c_5 Tryz.f7) FC Tryz.func7 (by kernel_rfl) (by kernel_rfl) W #[.agg #[.int .i64 S,.int .i64 Y,c2],.slice a1 len1 cap1] rfl ?_).mono ?_
 ·intro i c x v hi hv
  match i with
  | 0 =>
   simp at hi hv;obtain ⟨rfl,rfl⟩:=hi;subst hv;exact q_k (q_g w0) (q_g w1) HL
  | 1 =>
   simp at hi hv;obtain ⟨rfl,rfl⟩:=hi;subst hv;exact u_D HW
  | i + 2 => simp at hi
 ·rintro e W' ⟨v,rfl,hb,O,hVb⟩
  have:=f_v hVb
  subst this;refine ⟨_,rfl,_,_,_,[],p0 ++ p1,[],hW',trodAll_mk1 (shut_bool Tryz.underlying4 true),?_,rfl,hb.frame _,fun h => by cases h⟩;exact trodAll_mk2 (Below.trod n_y (by kernel_rfl) (of_decide_eq_true (by kernel_rfl)) k0 hb (fun x hx => lt x (List.mem_append.2 (.inl hx)))) (Below.trod n_y (by kernel_rfl) (of_decide_eq_true (by kernel_rfl)) k1 hb (fun x hx => lt x (List.mem_append.2 (.inr hx))))
theorem said : Rows.SessionsCommitSaid :=
 OpenClaim.holds_of_cond 7 Tryz.f7 rfl rfl rfl rfl rfl rfl rfl ⟨rfl,rfl,rfl,rfl,rfl⟩ rfl rfl rfl rfl rfl (by kernel_rfl) Tryz.func7 (by kernel_rfl)
  (of_decide_eq_true (by kernel_rfl)) (by unfold Func.isWrapper;first | (rw [if_pos (by decide +kernel)];kernel_rfl) | (rw [if_neg (by decide +kernel)];exact ⟨rfl,rfl⟩))
  (fun os started H enc _ F => by rw [OpenClaim.pre_eq_preRow];exact lifted os started H enc F)
theorem plain (f : FuncId) (fn : Func) (hf : Tryz.pinned.checked.prog.funcNamed "weighted/weightedlaw43.SessionsCommit" = some f) (hfn : Tryz.pinned.checked.prog.funcs[f]? = some fn) :
  false = Tryz.pinned.checked.prog.looks [] ∧ ∀ (j : Nat) t,fn.params[j]? = some t → Tryz.pinned.checked.prog.wantsStandIn t = false:=by
 obtain rfl : f = 7 := Option.some.inj ((show Tryz.prog.funcNamed "weighted/weightedlaw43.SessionsCommit" = some 7 by kernel_rfl).symm.trans hf) |>.symm;obtain rfl : fn = Tryz.f7:=(Option.some.inj (Tryz.func7.symm.trans hfn)).symm;refine ⟨by kernel_rfl,fun j t ht => ?_⟩;rw [Tryz.params7] at ht
 match j with
 | 0 =>
  obtain rfl : t = 50:=by simpa using ht.symm
  exact (show Tryz.prog.wantsStandIn 50 = false by kernel_rfl)
 | 1 =>
  obtain rfl : t = 28:=by simpa using ht.symm
  exact (show Tryz.prog.wantsStandIn 28 = false by kernel_rfl)
 | j + 2 => simp at ht
theorem card : Rows.SessionsCommitCardSaid :=
 Claim7.holds_tied_plain_at .later [] _ _ _ _ said (fun _ h => by cases h) (by kernel_rfl) (fun _ h => by cases h) sessionsCommit_row_tie rfl ⟨rfl,rfl⟩ (by kernel_rfl) rfl plain (by kernel_rfl)
end Go.Proofs.YtjhgombngbgjbaaGreatDoor.Commit
namespace Go.Proofs.YtjhgombngbgjbaaGreatDoor
theorem sessionsCommit_holds : Rows.SessionsCommitCardSaid:=Commit.card
end Go.Proofs.YtjhgombngbgjbaaGreatDoor
