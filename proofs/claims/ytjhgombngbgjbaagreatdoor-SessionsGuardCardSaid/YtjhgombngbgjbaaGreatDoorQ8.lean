/- Part 8 of 11. A session's sealed cut that was changed, shortened, lengthened or emptied is not resumed, and a cut is resumed under another model only where the two models are one. Names are shortened and spaces left out by program, for the size. -/
import Derived.Test.YtjhgombngbgjbaaGreatDoorQ7
set_option linter.unusedVariables false
set_option linter.unusedSimpArgs false
set_option linter.unusedSectionVars false
set_option linter.constructorNameAsVariable false
set_option maxRecDepth 100000
namespace Go.Pq
open Go.Pl Go.Proofs
def C44:Ctx:=⟨tab,sigs,14,[0,1,2,3,4],[],[],[],[],[]⟩
theorem SH (a0:T) (y0:T) (y1:T) (h:∃y:T,F 83 [.t 29 (G11 a0)] (zo 1 2) [y]∧(neI y.int 0=true→True∧T.g [kI 0,kI 0,T.b false,T.l [],T.l [],T.l [],T.l [],T.l [],T.l [],T.l [],T.l [],kI 0,T.l [],T.l [],T.l []]=y0∧y=y1∧True)∧(neI y.int 0=false→∃y:T,F 59 [.t 29 (G11 a0)] (zo 1 29) [y]∧True∧T.g [y.cell 0,y.cell 1,y.cell 2,y.cell 3,y.cell 4,y.cell 5,y.cell 6,y.cell 7,y.cell 8,y.cell 9,y.cell 10,kI 0,T.l [],T.l [],T.l []]=y0∧kI 0=y1∧True)):F 44 [.t 29 a0] Z9 [y0,y1] :=
 p7 C44 (by kernel_rfl) Tryz.func44 (by kernel_rfl) .no (by kernel_rfl) h
def C83:Ctx:=⟨tab,sigs,12,[0,1,2,3],[],[],[],[],[]⟩
theorem S7 (a0:T) (y0:T) (h:∃y:T,F 66 [.t 29 (G11 a0)] (zo 1 2) [y]∧(neI y.int 0=true→True∧y=y0∧True)∧(neI y.int 0=false→∃y:T,F 33 [.t 29 (G11 a0)] (zo 1 4) [y]∧((!y.bool)=true→True∧kI 4=y0∧True)∧((!y.bool)=false→True∧kI 0=y0∧True))):F 83 [.t 29 a0] (zo 1 2) [y0] :=
 p7 C83 (by kernel_rfl) Tryz.func83 (by kernel_rfl) .no (by kernel_rfl) h
def C68:Ctx:=⟨tab,sigs,22,[0,1,2,3,4],[],[],[],[],[]⟩
theorem J1 (a0:T) (y0:T) (h:∃y y_1:T,F 114 [.t 2 (kI 1),.t 2 (kI 1)] Z1 [y,y_1]∧∃y_2:T,F 115 [.t 23 (G3 a0)] (zo 1 4) [y_2]∧∃y_3:T,(y_2.bool=true∧True→F 116 [.t 23 (G3 a0)] (zo 1 2) [y_3])∧∃y_4:T,((T.ite y_2.bool (T.b (leI 0 y_3.int)) (T.b false)).bool=true∧True→F 117 [.t 23 (G3 a0),.t 23 (G3 y)] (zo 2 2) [y_4])∧True∧T.ite (T.ite y_2.bool (T.b (leI 0 y_3.int)) (T.b false)).bool (T.b (leI y_4.int 0)) (T.b false)=y0∧True):F 68 [.t 23 a0] (zo 1 4) [y0] :=
 p7 C68 (by kernel_rfl) Tryz.func68 (by kernel_rfl) .no (by kernel_rfl) h
def C69:Ctx:=⟨tab,sigs,12,[0,1,2,4],[],[],[],[],[]⟩
theorem NV (a0:T) (a1:T) (y0:T) (h:(Bd (a1.int) (lenOf (a0.cell 12).list))∧∃y:T,F 116 [.t 23 (((a0.cell 12).list.getD a1.int.toNat T.u).part 0 3)] (zo 1 2) [y]∧True∧T.b (ltI 0 y.int)=y0∧True):F 69 [.t 60 a0,.t 2 a1] (zo 2 4) [y0] :=
 p7 C69 (by kernel_rfl) Tryz.func69 (by kernel_rfl) .no (by kernel_rfl) h
def C70:Ctx:=⟨tab,sigs,36,[0,1,2,4,5],[],[],[],[2],[]⟩
theorem NW (a0:T) (a1:T) (y0:T) (h:(Bd (a1.int) (lenOf (a0.cell 13).list))∧∃y:T,F 118 [.t 59 (T.l (((List.replicate 2 (T.l [])).set 0 (a0.cell 14)).set 1 (((a0.cell 13).list.getD a1.int.toNat T.u).cell 0)))] (zo 1 28) [y]∧(eqI (lenOf y.list) (a0.cell 11).int=true∧True→0≤qc .i64 (lenOf y.list) 1∧qc .i64 (lenOf y.list) 1<lenOf y.list)∧∃y_1:T,((T.ite (eqI (lenOf y.list) (a0.cell 11).int) (T.b (eqI ((y.list.getD (qc .i64 (lenOf y.list) 1).toNat T.u).cell 0).int a1.int)) (T.b false)).bool=true∧True→F 119 [.t 28 y,.t 1 (T.f 120 [T.e 60 a0])] (zo 2 4) [y_1])∧True∧T.ite (T.ite (eqI (lenOf y.list) (a0.cell 11).int) (T.b (eqI ((y.list.getD (qc .i64 (lenOf y.list) 1).toNat T.u).cell 0).int a1.int)) (T.b false)).bool (T.b !y_1.bool) (T.b false)=y0∧True):F 70 [.t 60 a0,.t 2 a1] (zo 2 4) [y0] :=
 p7 C70 (by kernel_rfl) Tryz.func70 (by kernel_rfl) .no (by kernel_rfl) h
def Vg:Ctx:=⟨tab,sigs,13,[0,1,3],[],[],[],[],[]⟩
theorem JU (a0:T) (c1:T) (y0:T) (h:True∧T.ite (ltI a0.int 0) (T.b true) (T.b (leI (c1.cell 1).int a0.int))=y0∧True):F 120 [.t 2 a0,.pl 60 c1] (zo 2 4) [y0] :=
 p7 Vg (by kernel_rfl) Tryz.func120 (by kernel_rfl) .no (by kernel_rfl) h
def Vf:Ctx:=⟨tab,sigs,9,[0,1,4],[],[],[],[],[]⟩
theorem JT (a0:T) (a1:T) (y0:T) (h:∃y:T,F 158 [.t 28 a0,.t 1 a1] (zo 2 2) [y]∧True∧T.b (leI 0 y.int)=y0∧True):F 119 [.t 28 a0,.t 1 a1] (zo 2 4) [y0] :=
 p7 Vf (by kernel_rfl) Tryz.func119 (by kernel_rfl) .no (by kernel_rfl) h
def C10:Ctx:=⟨tab,sigs,23,[0,1,2,3,4,5,6,7,8],[],[],[],[],[]⟩
theorem Sr (a0:T) (a1:T) (y0:T) (y1:T) (y2:T) (h:∃y:T,F 12 [.t 32 (G13 a0)] (zo 1 4) [y]∧((!y.bool)=true→True∧T.g [kI 0,kI 0,T.b false,T.l [],T.l [],T.l [],T.l [],T.l [],T.l [],T.l [],T.l [],T.l [],kI 0]=y0∧T.g [kI 0,kI 0,T.l [],T.l [],T.l [],T.b false,T.l [],T.l []]=y1∧kI 4=y2∧True)∧((!y.bool)=false→∃y:T,F 30 [.t 32 (G13 a0)] (zo 1 32) [y]∧∃y_1 y_2:T,F 29 [.t 32 y,.t 35 (G5 a1)] Z10 [y_1,y_2]∧True∧(G13 y_1)=y0∧(G8 y_2)=y1∧kI 0=y2∧True)):F 10 [.t 32 a0,.t 35 a1] Z11 [y0,y1,y2] :=
 p7 C10 (by kernel_rfl) Tryz.func10 (by kernel_rfl) .no (by kernel_rfl) h
def C17:Ctx:=⟨tab,sigs,18,[0,1,2,3,4,5],[],[],[],[],[]⟩
theorem Sv (a0:T) (y0:T) (y1:T) (h:∃y y_1:T,F 44 [.t 29 (G11 a0)] Z9 [y,y_1]∧(neI y_1.int 0=true→True∧T.g [kI 0,kI 0,T.b false,T.l [],T.l [],T.l [],T.l [],T.l [],T.l [],T.l [],T.l [],T.l [],kI 0]=y0∧y_1=y1∧True)∧(neI y_1.int 0=false→True∧T.g [y.cell 0,y.cell 1,y.cell 2,y.cell 3,y.cell 4,y.cell 5,y.cell 6,y.cell 7,y.cell 8,y.cell 9,y.cell 10,T.l [],kI 0]=y0∧kI 0=y1∧True)):F 17 [.t 29 a0] Z12 [y0,y1] :=
 p7 C17 (by kernel_rfl) Tryz.func17 (by kernel_rfl) .no (by kernel_rfl) h
def C57:Ctx:=⟨tab,sigs,8,[0,2],[pp 2],[],[],[],[]⟩
theorem SO (a0:T) (y0:T) (h:∀y:T,IK a0 y→(y.bool=true→True∧T.l []=y0∧True)∧(y.bool=false→(Rm (0+a0.list.length) 304)∧True∧T.l (List.replicate 0 (T.g [kI 0,kI 0,kI 0,T.b false,T.l [],T.l [],T.l [],T.l [],T.l [],T.l [],T.l [],T.l [],kI 0,T.l [],T.l [],T.l []])++a0.list)=y0∧True)):F 57 [.t 31 a0] (zw 1 31) [y0] :=
 p7 C57 (by kernel_rfl) Tryz.func57 (by kernel_rfl) .no (by kernel_rfl) h
def C95:Ctx:=⟨tab,sigs,72,[0,1,4,5,6,7,8],[cell 0 11],[],[],[],[0]⟩
theorem NX (b0_0:T) (b0_1:T) (b0_2:T) (b0_3:T) (b0_4:T) (b0_5:T) (b0_6:T) (b0_7:T) (b0_8:T) (b0_9:T) (b0_10:T) (b0_11:List T) (b0_12:T) (a1:T) (y0:T) (y1:T) (y2:T) (y3:T) (y4:T) (y5:T) (y6:T) (y7:T) (y8:T) (y9:T) (y10:T) (y11:T) (y12:T) (y13:T) (y14:T) (h:((T.ite (eqI ↑b0_11.length 8) (T.b true) (T.b (eqI b0_12.int 1099511627776))).bool=true→(True∧True)∧T.g [kI 0,kI 0,T.l [],T.l [],T.l [],T.b false,T.l [],T.l []]=y0∧kI 2=y1∧b0_0=y2∧b0_1=y3∧b0_2=y4∧b0_3=y5∧b0_4=y6∧b0_5=y7∧b0_6=y8∧b0_7=y9∧b0_8=y10∧b0_9=y11∧b0_10=y12∧T.l b0_11=y13∧b0_12=y14∧True)∧((T.ite (eqI ↑b0_11.length 8) (T.b true) (T.b (eqI b0_12.int 1099511627776))).bool=false→∃y y_1:T,F 44 [.t 29 (T.g [b0_0,b0_1,b0_2,b0_3,b0_4,b0_5,b0_6,b0_7,b0_8,b0_9,b0_10])] Z9 [y,y_1]∧(neI y_1.int 0=true→(True∧True)∧T.g [kI 0,kI 0,T.l [],T.l [],T.l [],T.b false,T.l [],T.l []]=y0∧y_1=y1∧b0_0=y2∧b0_1=y3∧b0_2=y4∧b0_3=y5∧b0_4=y6∧b0_5=y7∧b0_6=y8∧b0_7=y9∧b0_8=y10∧b0_9=y11∧b0_10=y12∧T.l b0_11=y13∧b0_12=y14∧True)∧(neI y_1.int 0=false→(Rm ((List.take b0_11.length b0_11).length+((List.replicate 1 (T.g [kI 0,kI 0,kI 0,T.b false,T.l [],T.l [],T.l [],T.l [],T.l [],T.l [],T.l [],T.l [],kI 0,T.l [],T.l [],T.l []])).set 0 (T.g [b0_12.cell 0,y.cell 0,y.cell 1,y.cell 2,y.cell 3,y.cell 4,y.cell 5,y.cell 6,y.cell 7,y.cell 8,y.cell 9,y.cell 10,y.cell 11,y.cell 12,y.cell 13,y.cell 14])).length) 304)∧(True∧True)∧T.g [kI 0,b0_12.cell 0,T.l [],T.l [],T.l [],T.b false,T.l [],T.l []]=y0∧kI 0=y1∧b0_0=y2∧b0_1=y3∧b0_2=y4∧b0_3=y5∧b0_4=y6∧b0_5=y7∧b0_6=y8∧b0_7=y9∧b0_8=y10∧b0_9=y11∧b0_10=y12∧T.l (List.take b0_11.length b0_11++(List.replicate 1 (T.g [kI 0,kI 0,kI 0,T.b false,T.l [],T.l [],T.l [],T.l [],T.l [],T.l [],T.l [],T.l [],kI 0,T.l [],T.l [],T.l []])).set 0 (T.g [b0_12.cell 0,y.cell 0,y.cell 1,y.cell 2,y.cell 3,y.cell 4,y.cell 5,y.cell 6,y.cell 7,y.cell 8,y.cell 9,y.cell 10,y.cell 11,y.cell 12,y.cell 13,y.cell 14]))=y13∧kI (pL .i64 b0_12.int 1)=y14∧True))):F 95 [.box 111 13 [.t 2 b0_0,.t 2 b0_1,.t 4 b0_2,.t 22 b0_3,.t 22 b0_4,.t 25 b0_5,.t 26 b0_6,.t 25 b0_7,.t 26 b0_8,.t 27 b0_9,.t 28 b0_10,.own 31 0 b0_11,.t 2 b0_12],.t 35 a1] Z13 [y0,y1,y2,y3,y4,y5,y6,y7,y8,y9,y10,y11,y12,y13,y14] :=
 p7 C95 (by kernel_rfl) Tryz.func95 (by kernel_rfl) .no (by kernel_rfl) h
def Vp:Ctx:=⟨tab,sigs,15,[0,1,4,5],[cell 0 11],[],[],[],[0]⟩
theorem Pp (b0_0:T) (b0_1:T) (b0_2:T) (b0_3:T) (b0_4:T) (b0_5:T) (b0_6:T) (b0_7:T) (b0_8:T) (b0_9:T) (b0_10:T) (b0_11:List T) (b0_12:T) (a1:T) (y0:T) (y1:T) (y2:T) (y3:T) (y4:T) (y5:T) (y6:T) (y7:T) (y8:T) (y9:T) (y10:T) (y11:T) (y12:T) (y13:T) (y14:T) (h:∃y y_1:T,F 163 [.t 31 (T.l (List.take b0_11.length (List.drop 0 b0_11))),.t 2 a1,.t 1 (T.f 164 [])] Z8 [y,y_1]∧(True∧True)∧y=y0∧y_1=y1∧b0_0=y2∧b0_1=y3∧b0_2=y4∧b0_3=y5∧b0_4=y6∧b0_5=y7∧b0_6=y8∧b0_7=y9∧b0_8=y10∧b0_9=y11∧b0_10=y12∧T.l b0_11=y13∧b0_12=y14∧True):F 132 [.box 111 13 [.t 2 b0_0,.t 2 b0_1,.t 4 b0_2,.t 22 b0_3,.t 22 b0_4,.t 25 b0_5,.t 26 b0_6,.t 25 b0_7,.t 26 b0_8,.t 27 b0_9,.t 28 b0_10,.own 31 0 b0_11,.t 2 b0_12],.t 2 a1] Z14 [y0,y1,y2,y3,y4,y5,y6,y7,y8,y9,y10,y11,y12,y13,y14] :=
 p7 Vp (by kernel_rfl) Tryz.func132 (by kernel_rfl) .no (by kernel_rfl) h
def VP:Ctx:=⟨tab,sigs,9,[0,1,2,4],[],[],[],[],[]⟩
theorem PM (a0:T) (a1:T) (y0:T) (h:∃y:T,F 165 [.t 2 (a0.cell 0),.t 2 a1] (zo 2 2) [y]∧True∧y=y0∧True):F 164 [.t 62 a0,.t 2 a1] (zo 2 2) [y0] :=
 p7 VP (by kernel_rfl) Tryz.func164 (by kernel_rfl) .no (by kernel_rfl) h
def VQ:Ctx:=⟨tab,sigs,20,[0,1,4,5,6],[],[],[],[],[]⟩
theorem JY (a0:T) (a1:T) (y0:T) (h:∃y:T,F 195 [.t 2 a0] (zo 1 4) [y]∧∃y_1:T,F 195 [.t 2 a1] (zo 1 4) [y_1]∧(y.bool=true→(y_1.bool=true→True∧kI 0=y0∧True)∧(y_1.bool=false→True∧kI (-1:Int)=y0∧True))∧(y.bool=false→(y_1.bool=true→True∧kI 1=y0∧True)∧(y_1.bool=false→(ltI a0.int a1.int=true→True∧kI (-1:Int)=y0∧True)∧(ltI a0.int a1.int=false→(ltI a1.int a0.int=true→True∧kI 1=y0∧True)∧(ltI a1.int a0.int=false→True∧kI 0=y0∧True))))):F 165 [.t 2 a0,.t 2 a1] (zo 2 2) [y0] :=
 p7 VQ (by kernel_rfl) Tryz.func165 (by kernel_rfl) .no (by kernel_rfl) h
def Wm:Ctx:=⟨tab,sigs,6,[0,2],[],[],[],[],[]⟩
theorem JZ (a0:T) (y0:T) (h:True∧T.b (neI a0.int a0.int)=y0∧True):F 195 [.t 2 a0] (zo 1 4) [y0] :=
 p7 Wm (by kernel_rfl) Tryz.func195 (by kernel_rfl) .no (by kernel_rfl) h
def C99:Ctx:=⟨tab,sigs,57,[0,1,3,4,5,6,7,8,9,10],[cell 0 11],[(132,⟨[],[(0,[false,false,false,false,false,false,false,false,false,false,false,true,false])],[]⟩),(135,⟨[true],[],[true,false,false]⟩)],[],[],[0]⟩
theorem J3 (b0_0:T) (b0_1:T) (b0_2:T) (b0_3:T) (b0_4:T) (b0_5:T) (b0_6:T) (b0_7:T) (b0_8:T) (b0_9:T) (b0_10:T) (b0_11:List T) (b0_12:T) (a1:T) (y0:T) (y1:T) (y2:T) (y3:T) (y4:T) (y5:T) (y6:T) (y7:T) (y8:T) (y9:T) (y10:T) (y11:T) (y12:T) (y13:T) (y14:T) (h:∃y y_1 y_2 y_3 y_4 y_5 y_6 y_7 y_8 y_9 y_10 y_11 y_12 y_13 y_14:T,F 132 [.box 111 13 [.t 2 b0_0,.t 2 b0_1,.t 4 b0_2,.t 22 b0_3,.t 22 b0_4,.t 25 b0_5,.t 26 b0_6,.t 25 b0_7,.t 26 b0_8,.t 27 b0_9,.t 28 b0_10,.own 31 0 b0_11,.t 2 b0_12],.t 2 (a1.cell 1)] Z14 [y,y_1,y_2,y_3,y_4,y_5,y_6,y_7,y_8,y_9,y_10,y_11,y_12,y_13,y_14]∧((!y_1.bool)=true→(True∧True)∧T.g [kI 0,kI 0,T.l [],T.l [],T.l [],T.b false,T.l [],T.l []]=y0∧kI 5=y1∧y_2=y2∧y_3=y3∧y_4=y4∧y_5=y5∧y_6=y6∧y_7=y7∧y_8=y8∧y_9=y9∧y_10=y10∧y_11=y11∧y_12=y12∧T.l y_13.list=y13∧y_14=y14∧True)∧((!y_1.bool)=false→(Bd (y.int) (↑y_13.list.length:Int))∧∃y_15 y_16 y_17:T,F 138 [.t 60 ((y_13.list.getD (0+y.int.toNat) T.u).part 1 15)] Z15 [y_15,y_16,y_17]∧(neI y_17.int 0=true→(True∧True)∧T.g [kI 0,kI 0,T.l [],T.l [],T.l [],T.b false,T.l [],T.l []]=y0∧y_17=y1∧y_2=y2∧y_3=y3∧y_4=y4∧y_5=y5∧y_6=y6∧y_7=y7∧y_8=y8∧y_9=y9∧y_10=y10∧y_11=y11∧y_12=y12∧T.l y_13.list=y13∧y_14=y14∧True)∧(neI y_17.int 0=false→∃y_18:T,F 135 [.own 31 (List.take y_13.list.length y_13.list),.t 2 y,.t 2 (kI (pL .i64 y.int 1))] [(pp 3,31,[true].headD false)] [y_18]∧(True∧True)∧T.g [kI 0,(a1.cell 1).cell 0,T.l [],T.l [],y_15.cell 0,y_16.cell 0,y_16.cell 1,y_16.cell 2]=y0∧kI 0=y1∧y_2=y2∧y_3=y3∧y_4=y4∧y_5=y5∧y_6=y6∧y_7=y7∧y_8=y8∧y_9=y9∧y_10=y10∧y_11=y11∧y_12=y12∧T.l y_18.list=y13∧y_14=y14∧True))):F 99 [.box 111 13 [.t 2 b0_0,.t 2 b0_1,.t 4 b0_2,.t 22 b0_3,.t 22 b0_4,.t 25 b0_5,.t 26 b0_6,.t 25 b0_7,.t 26 b0_8,.t 27 b0_9,.t 28 b0_10,.own 31 0 b0_11,.t 2 b0_12],.t 35 a1] Z13 [y0,y1,y2,y3,y4,y5,y6,y7,y8,y9,y10,y11,y12,y13,y14] :=
 p7 C99 (by kernel_rfl) Tryz.func99 (by kernel_rfl) .no (by kernel_rfl) h
def C16:Ctx:=⟨tab,sigs,8,[0,1,2,4],[],[],[],[],[]⟩
theorem Su (a0:T) (a1:T) (y0:T) (h:∃y:T,F 43 [.t 49 (G3 a0),.t 2 a1,.t 4 (T.b false)] (zo 3 29) [y]∧True∧(G11 y)=y0∧True):F 16 [.t 49 a0,.t 2 a1] (zo 2 29) [y0] :=
 p7 C16 (by kernel_rfl) Tryz.func16 (by kernel_rfl) .no (by kernel_rfl) h
def C81:Ctx:=⟨tab,sigs,35,[0,1,4],[],[],[],[],[0]⟩
theorem S5 (b0_0:T) (b0_1:T) (a1:T) (y0:T) (y1:T) (y2:T) (h:(leI (lenOf b0_0.list) b0_1.int=true→(True∧True)∧kI 0=y0∧b0_0=y1∧b0_1=y2∧True)∧(leI (lenOf b0_0.list) b0_1.int=false→(Bd (qc .i64 (pL .i64 b0_1.int 1) (1:Int)) (lenOf b0_0.list))∧∃y:T,F 19 [.t 2 ((b0_0.list.getD (qc .i64 (pL .i64 b0_1.int 1) (1:Int)).toNat T.u).cell 0),.t 2 a1] (zo 2 2) [y]∧(True∧True)∧y=y0∧b0_0=y1∧kI (pL .i64 b0_1.int 1)=y2∧True)):F 81 [.box 129 2 [.t 28 b0_0,.t 2 b0_1],.t 2 a1] Z6 [y0,y1,y2] :=
 p7 C81 (by kernel_rfl) Tryz.func81 (by kernel_rfl) .no (by kernel_rfl) h
def C19:Ctx:=⟨tab,sigs,16,[0,1,4],[],[],[],[],[]⟩
theorem Sw (a0:T) (a1:T) (y0:T) (h:(ltI a1.int 1=true→True∧kI 0=y0∧True)∧(ltI a1.int 1=false→a1.int≠(0:Int)∧(ltI (uA a0.int a1.int) 0=true→True∧kI (pL .i64 (uA a0.int a1.int) a1.int)=y0∧True)∧(ltI (uA a0.int a1.int) 0=false→True∧kI (uA a0.int a1.int)=y0∧True))):F 19 [.t 2 a0,.t 2 a1] (zo 2 2) [y0] :=
 p7 C19 (by kernel_rfl) Tryz.func19 (by kernel_rfl) .no (by kernel_rfl) h
def C28:Ctx:=⟨tab,sigs,32,[0,1,2,3],[],[],[],[],[]⟩
theorem SC  (y0:T) (h:∃y y_1:T,F 55 [.t 2 (kI 1),.t 2 (kI 2)] Z1 [y,y_1]∧∃y_2:T,F 56 [.t 2 (kI 1)] (zo 1 23) [y_2]∧True∧T.g [kI 2,kI 2,T.b false,T.l [],T.l [],T.l (((List.replicate 2 (T.g [T.b false,T.l [],T.l []])).set 0 (G3 y)).set 1 (G3 y)),T.l (((List.replicate 2 (T.l [])).set 0 (T.l (((List.replicate 2 (T.g [T.b false,T.l [],T.l []])).set 0 (T.g [T.b false,T.l [],T.l []])).set 1 (G3 y)))).set 1 (T.l (((List.replicate 2 (T.g [T.b false,T.l [],T.l []])).set 0 (T.g [T.b false,T.l [],T.l []])).set 1 (T.g [T.b false,T.l [],T.l []])))),T.l (((List.replicate 2 (T.g [T.b false,T.l [],T.l []])).set 0 (G3 y)).set 1 (G3 y_2)),T.l (((List.replicate 2 (T.l [])).set 0 (T.l (((List.replicate 2 (T.g [T.b false,T.l [],T.l []])).set 0 (G3 y_2)).set 1 (T.g [T.b false,T.l [],T.l []])))).set 1 (T.l (((List.replicate 2 (T.g [T.b false,T.l [],T.l []])).set 0 (T.g [T.b false,T.l [],T.l []])).set 1 (G3 y_2)))),T.l (((List.replicate 2 (T.b false)).set 0 (T.b false)).set 1 (T.b false)),T.l (((List.replicate 2 (kI 0)).set 0 (kI 0)).set 1 (kI 1))]=y0∧True):F 28 [] (zo 0 29) [y0] :=
 p7 C28 (by kernel_rfl) Tryz.func28 (by kernel_rfl) .no (by kernel_rfl) h
theorem Db (l f:List Rat) (c:Nat) (hl:(l++f).length≤2 ^ 14) (hc:c≤2 ^ 14) (h:∀q∈l++f,rl q≤c) (hs:Bo (l++f)=1):F 145 [.t 25 (pO l),.t 25 (pO f)] (zo 2 4) [.b true]:=by
 have c1:=JC [l,f] (by simp) (by simp at hl ⊢;omega);have e:[l,f].flatten=l++f:=by simp
 rw [e] at c1;refine Py _ _ _ (fun i=>i.1=pO (l++f)∧i.2.1=qr (Bo ((l++f).take i.2.2))∧i.2.2≤(l++f).length) (fun i=>(l++f).length-i.2.2) ⟨_,c1,⟨(pO (l++f),qr 0,0),⟨rfl,rfl,WS _⟩,(by and_intros<;>first | exact trivial | rfl | (rw [pt (by omega)];rfl))⟩,fun _=>rfl,?_⟩;rintro ⟨L,x,k⟩ ⟨hL,hx,hk⟩;dsimp only at hL hx hk ⊢;subst hL;subst hx;rw [qj];refine ⟨fun h1=>?_,fun h1=>?_⟩
 ·rw [pw] at h1
  have b_:k<(l++f).length:=by omega
  rw [rL,WP,tJ _ b_,qu];have hb:=Q9 (l++f) c h k (by omega);have hm:k*(c+1)≤2 ^ 14*(2 ^ 14+1):=Yn (by omega) (by omega);have c2:=Ut (Bo ((l++f).take k)) ((l++f).getD k 0) (by omega) (by have:=h _ (ww b_);omega);rw [←yg _ b_] at c2;exact ⟨⟨by omega,by omega⟩,_,c2,(pO (l++f),qr (Bo ((l++f).take (k+1))),k+1),⟨rfl,rfl,b_⟩,by dsimp only;omega,by and_intros<;>first | exact trivial | rfl | (dsimp only;rw [qj]) | (rw [pt (by omega)];rfl)⟩
 ·rw [pF] at h1
  have:k=(l++f).length:=by omega
  subst this;rw [XM,hs];have c3:=sZ 1 1 (by rw [B7];decide) (by rw [B7];decide);rw [vS.2 rfl] at c3;exact ⟨_,Od,_,c3,a_,rfl,a_⟩
theorem J8 (h:Md) (c:Nat) (hk:rV h c):F 109 [.t 29 (rx h)] (zo 1 4) [.b true]:=by
 have z_:=hk.st;have cY:=hk.sym;have hc:=hk.cc;refine O9 _ _ (fun i=>i≤h.st) (fun i=>h.st-i) ?_;rw [xK,BR,Kd,xL,vW,zH,wz,yK,zI,qj,qj,tz,tz,xP,qZ,hk.init,hk.stop,hk.trans,hk.emit,hk.ties,Xm,rT];refine ⟨_,G7 _ (by have:=hk.q0.1;omega) hk.q0.2,_,fun _=>yf _ (by rw [hk.init];omega) (fun q hq=>⟨by have:=(hk.q1 q hq).1;omega,(hk.q1 q hq).2⟩),_,fun _=>yf _ (by rw [hk.stop];omega) (fun q hq=>⟨by have:=(hk.q3 q hq).1;omega,(hk.q3 q hq).2⟩),fun q=>(by cases q),fun _=>⟨⟨0,WS _,(by and_intros<;>first | exact trivial | rfl | (rw [pt (by omega)];rfl))⟩,fun _=>rfl,?_⟩⟩;intro i hi;refine ⟨fun h1=>?_,fun h1=>⟨a_,rfl,a_⟩⟩;rw [pw] at h1;have b_:i<h.st:=by omega
 rw [hk.tr b_,hk.em b_,hk.si b_,hk.ti b_,qS,qS,qj,qj,hk.trl b_,hk.eml b_,rT,rT];have kg:=hk.til b_;have b1:ltI ((T.i .i64 ((h.ties.getD i 0:Nat):Int)).cell 0).int 0=false:=by rw [pF];show (0:Int)≤((h.ties.getD i 0:Nat):Int);omega
 have b2:leI (h.st:Int) ((T.i .i64 ((h.ties.getD i 0:Nat):Int)).cell 0).int=false:=by rw [tH];show ((h.ties.getD i 0:Nat):Int)<_;omega
 refine ⟨⟨by omega,by omega⟩,fun q=>(by cases q),fun _=>⟨⟨by omega,by omega⟩,fun _=>⟨by omega,by omega⟩,fun _=>⟨by omega,by omega⟩,_,fun _=>yf _ (by rw [hk.trl b_];omega) (fun q hq=>⟨by have:=(hk.trq b_ q hq).1;omega,(hk.trq b_ q hq).2⟩),fun _=>⟨by omega,by omega⟩,_,fun _=>yf _ (by rw [hk.eml b_];omega) (fun q hq=>⟨by have:=(hk.emq b_ q hq).1;omega,(hk.emq b_ q hq).2⟩),fun _=>⟨by omega,by omega⟩,fun _=>⟨by omega,by omega⟩,?_,?_⟩⟩
 ·rw [b1,b2];intro q;cases q
 ·intro _
  exact ⟨i+1,b_,by omega,(by and_intros<;>first | exact trivial | rfl | (rw [pt (by omega)];rfl))⟩
theorem Es (q:Rat) (l:List Rat):Bo (l++[q])=q+Bo l:=by
 unfold Bo;rw [List.foldl_append,Rat.add_comm];rfl
theorem Rt (h:Md) (c:Nat) (hk:rV h c):F 110 [.t 29 (rx h)] (zo 1 4) [.b true]:=by
 have z_:=hk.st;have cY:=hk.sym;have hc:=hk.cc;refine Pa _ _ (fun i=>i≤h.st) (fun i=>h.st-i) ?_;rw [xK,BR,xL,vW,zH,wz,yK,qj,tz,tz,xP,hk.stop,hk.trans,hk.emit,Xm];refine ⟨_,Db h.init [h.empty] c (by simp [hk.init];omega) (by omega) (fun q hq=>?_) (by rw [Es];exact hk.s0),fun q=>(by cases q),fun _=>⟨⟨0,WS _,(by and_intros<;>first | exact trivial | rfl | (rw [pt (by omega)];rfl))⟩,fun _=>rfl,?_⟩⟩
 ·rcases W2.1 hq with hq | hq
  ·exact (hk.q1 q hq).1
  ·rw [Xn.1 hq];exact hk.q0.1
 ·intro i hi
  refine ⟨fun h1=>?_,fun h1=>⟨a_,rfl,a_⟩⟩;rw [pw] at h1;have b_:i<h.st:=by omega
  rw [hk.tr b_,hk.em b_,hk.si b_,hk.sp b_,qS,qS,qu];have w1:=Db (h.trans.getD i []) [h.stop.getD i 0] c (by rw [WN,hk.trl b_];simp only [Xv];omega) (by omega) (fun q hq=>by
   rcases W2.1 hq with hq | hq
   ·exact (hk.trq b_ q hq).1
   ·rw [Xn.1 hq];exact (hk.q3 _ (ww (by rw [hk.stop];exact b_))).1) (by rw [Es];exact hk.s1 i b_)
  have w2:=Db (h.emit.getD i []) [] c (by rw [WN,hk.eml b_];simp only [YH];omega) (by omega) (fun q hq=>by rw [XD] at hq;exact (hk.emq b_ q hq).1) (by rw [XD];exact hk.s2 _ (pN (by have:=hk.emit;omega)));exact ⟨⟨by omega,by omega⟩,⟨by omega,by omega⟩,_,w1,fun _=>⟨by omega,by omega⟩,fun _=>⟨by omega,by omega⟩,_,fun _=>w2,fun q=>(by cases q),fun _=>⟨i+1,b_,by omega,(by and_intros<;>first | exact trivial | rfl | (rw [pt (by omega)];rfl))⟩⟩
theorem Mg (l:List Rat) (hl:l.length≤2 ^ 40) (h:∀q∈l,rl q≤2 ^ 30):F 148 [.t 25 (pO l),.t 25 (pO l)] (zo 2 4) [.b true]:=by
 have c1:F 73 [.t 25 (pO l),.t 25 (pO l),.t 1 (.f 188 [])] (zo 3 4) [.b true]:=by
  refine Qs _ _ _ (fun k=>k≤l.length) (fun k=>l.length-k) ?_;rw [qj];refine ⟨fun h1=>absurd rfl (rr.1 h1),fun _=>⟨⟨0,WS _,(by and_intros<;>first | exact trivial | rfl | (rw [pt (by omega)];rfl))⟩,fun _=>rfl,?_⟩⟩;intro k hk;refine ⟨fun h1=>?_,fun h1=>⟨a_,rfl,a_⟩⟩;rw [pw] at h1;have b_:k<l.length:=by omega
  rw [rL,WP,tJ l b_,qu];have hb:=h _ (ww b_);have c2:=sZ _ _ hb hb;rw [vS.2 rfl] at c2;exact ⟨⟨by omega,by omega⟩,⟨by omega,by omega⟩,_,⟨rfl,P4 _ _ _ ⟨_,c2,a_,rfl,a_⟩⟩,fun q=>(by cases q),fun _=>⟨k+1,b_,by omega,(by and_intros<;>first | exact trivial | rfl | (rw [pt (by omega)];rfl))⟩⟩
 exact Pz _ _ _ ⟨_,c1,a_,rfl,a_⟩
theorem Rw (h:Md) (c:Nat) (hk:rV h c):F 112 [.t 29 (rx h)] (zo 1 4) [.b true]:=by
 have z_:=hk.st;have cY:=hk.sym;have hc:=hk.cc;refine Pb _ _ (fun i=>i≤h.st) (fun i=>h.st-i) (fun i j=>i<h.st∧j≤i) (fun i j=>i-j) ?_;rw [BR,wz,yK,zI,tz,xP,qZ,hk.emit,hk.ties,Xm];refine ⟨⟨0,WS _,(by and_intros<;>first | exact trivial | rfl | (rw [pt (by omega)];rfl))⟩,fun _=>rfl,?_⟩;intro i hi;refine ⟨fun h1=>?_,fun h1=>⟨a_,rfl,a_⟩⟩;rw [pw] at h1;have b_:i<h.st:=by omega
 refine ⟨⟨0,⟨b_,WS _⟩,(by and_intros<;>first | exact trivial | rfl | (rw [pt (by omega)];rfl))⟩,fun _=>rfl,?_⟩;rintro j ⟨-,hj⟩;refine ⟨fun h2=>?_,fun h2=>⟨i+1,b_,by omega,(by and_intros<;>first | exact trivial | rfl | (rw [pt (by omega)];rfl))⟩⟩;rw [pw] at h2;have gP:j<h.st:=by omega
 rw [hk.si b_,hk.si gP,hk.ti b_,hk.ti gP,hk.em b_,hk.em gP,qS,qS];refine ⟨⟨by omega,by omega⟩,fun _=>⟨by omega,by omega⟩,fun _=>⟨by omega,by omega⟩,fun _=>⟨by omega,by omega⟩,fun _=>⟨by omega,by omega⟩,fun _=>⟨by omega,by omega⟩,.b true,fun q=>?_,fun q=>?_,fun _=>⟨j+1,⟨b_,by omega⟩,by omega,(by and_intros<;>first | exact trivial | rfl | (rw [pt (by omega)];rfl))⟩⟩
 ·have q1:=q.1
  have q2:eqI ((h.ties.getD i 0:Nat):Int) ((h.ties.getD j 0:Nat):Int)=true:=q1;rw [qe] at q2;rw [←hk.tied i j b_ (by omega) (by omega)];exact Mg _ (by rw [hk.eml b_];omega) (fun q hq=>by have:=(hk.emq b_ q hq).1;omega)
 ·exfalso
  revert q
  have:∀b:Bool,(T.ite b (T.b false) (T.b false)).bool=true→False:=by intro b;cases b<;>intro q<;>cases q
  exact this _
theorem H5 (n:Nat) (hn:n≤2 ^ 40):F 67 [.t 27 (rP (List.replicate n false)),.t 4 (.b true)] (zo 2 4) [.b false]:=by
 have c1:F 113 [.t 27 (rP (List.replicate n false)),.t 4 (.b true)] (zo 2 2) [.i .i64 (-1)]:=by
  refine Pc _ _ _ (fun k=>k≤n) (fun k=>n-k) ?_;rw [xP,Xm];refine ⟨⟨0,WS _,(by and_intros<;>first | exact trivial | rfl | (rw [pt (by omega)];rfl))⟩,fun _=>rfl,?_⟩;intro k hk;refine ⟨fun h1=>?_,fun h1=>⟨a_,rfl,a_⟩⟩;rw [pw] at h1;have b_:k<n:=by omega
  have e:(rP (List.replicate n false)).list.getD (k:Int).toNat T.u=.b false:=by
   rw [WP,uE,wo _ (by simpa using b_)];simp [WM,b_]
  rw [e];exact ⟨⟨by omega,by omega⟩,fun q=>(by cases q),fun _=>⟨k+1,b_,by omega,(by and_intros<;>first | exact trivial | rfl | (rw [pt (by omega)];rfl))⟩⟩
 exact SU _ _ _ ⟨_,c1,a_,rfl,a_⟩
end Go.Pq
namespace Go.Pl
theorem CB {α:Type} (A:List α) (n:Nat) (z d:α) {k:Nat} (hA:A.length=k) (hn:0<n):(A++List.replicate n z).getD k d=z:=by
 rw [WM,Xf (by omega),YK,WY (by omega)];rfl
theorem tE {α:Type} (A:List α) (n:Nat) (z v:α) {k:Nat} (hA:A.length=k) (hn:0<n):(A++List.replicate n z).set k v=(A++[v])++List.replicate (n-1) z:=by
 obtain ⟨m,rfl⟩:∃m,n=m+1:=⟨n-1,by omega⟩;rw [List.set_append_right _ _ (by omega),hA,Yp,Zr];simp
theorem vt {α:Type} (l:List α) (f:α→T) {k:Nat} (d:α) (h:k<l.length):(l.take (k+1)).map f=(l.take k).map f++[f (l.getD k d)]:=by
 rw [W9 h,XY,WM,WL h];rfl
theorem uH {xs:List T} {b:Bool} {z:T} (y:T) (hn:IK (.l xs) y) (m:Nat) (hl:xs.length*m≤room) (hm:xs.length≤9223372036854775807) :
  (y.bool=true→True∧T.l []=T.l xs∧True)∧(y.bool=false→((0+(T.l xs).list.length)*m≤room∧0+(T.l xs).list.length≤9223372036854775807)∧True∧T.l (List.replicate 0 z++(T.l xs).list)=T.l xs∧True):=by
 refine ⟨fun h=>?_,fun _=>?_⟩
 ·have:xs=[]:=hn h
  exact ⟨a_,by rw [this],a_⟩
 ·show ((0+xs.length)*m≤room∧0+xs.length≤9223372036854775807)∧True∧T.l ([]++xs)=T.l xs∧True
  rw [WV];exact ⟨⟨hl,hm⟩,a_,rfl,a_⟩
end Go.Pl
namespace Go.Pq
open Go.Pl Go.Proofs
theorem t7 (xs:List T) (h:xs.length≤2 ^ 40):F 62 [.t 28 (.l xs)] (zw 1 28) [.l xs] :=
 SS _ _ fun y hn=>uH (b:=true) y hn 8 (by have:room=140737488355328:=rfl;omega) (by omega)
theorem HC (xs:List T) (h:xs.length≤2 ^ 40):F 62 [.t 28 (.l xs)] (zo 1 28) [.l xs] :=
 Qq _ _ fun y hn=>uH (b:=true) y hn 8 (by have:room=140737488355328:=rfl;omega) (by omega)
theorem HB (xs:List T) (h:xs.length≤2 ^ 40):F 102 [.t 27 (.l xs)] (zo 1 27) [.l xs] :=
 O5 _ _ fun y hn=>uH (b:=true) y hn 1 (by have:room=140737488355328:=rfl;omega) (by omega)
theorem BI (xs:List T) (h:xs.length≤2 ^ 40):F 139 [.t 22 (.l xs)] (zo 1 22) [.l xs] :=
 Pu _ _ fun y hn=>uH (b:=true) y hn 4 (by have:room=140737488355328:=rfl;omega) (by omega)
theorem uG (xs:List T) (h:xs.length≤2 ^ 30):F 57 [.t 31 (.l xs)] (zw 1 31) [.l xs] :=
 SO _ _ fun y hn=>uH (b:=true) y hn 304 (by have:room=140737488355328:=rfl;omega) (by omega)
theorem yI (q:Rat) (hq:rl q≤2 ^ 30):F 100 [.t 23 (qr q)] (zo 1 23) [qr q]:=by
 have h1:(Lb.nat q.num.natAbs).length≤2 ^ 40:=by have:=Nat.le_max_left (Lb.nat q.num.natAbs).length (Lb.nat q.den).length;unfold rl at hq;omega
 have h2:(Lb.nat q.den).length≤2 ^ 40:=by have:=Nat.le_max_right (Lb.nat q.num.natAbs).length (Lb.nat q.den).length;unfold rl at hq;omega
 have c1:F 139 [.t 22 (lim (Lb.nat q.num.natAbs))] (zo 1 22) [lim (Lb.nat q.num.natAbs)]:=BI _ (by rw [pT];exact h1);have c2:F 139 [.t 22 (ux q.den)] (zo 1 22) [ux q.den]:=BI _ (by
  rw [pT];unfold dl;split
  ·simp
  ·exact h2)
 exact O3 _ _ ⟨_,c1,_,c2,a_,rfl,a_⟩
theorem vj (l:List Rat) (hl:l.length≤2 ^ 30) (h:∀q∈l,rl q≤2 ^ 30):F 60 [.t 25 (pO l)] (zo 1 25) [pO l]:=by
 have c1:F 103 [.t 25 (pO l),.t 1 (.f 100 [])] (zo 2 25) [pO l]:=by
  refine O6 _ _ (fun i=>i.1=(l.take i.2).map qr++List.replicate (l.length-i.2) (T.g [T.b false,T.l [],T.l []])∧i.2≤l.length) (fun i=>l.length-i.2) fun y hn=>⟨fun hy=>?_,fun _=>?_⟩
  ·have:tI l=[]:=hn hy
   exact ⟨a_,by unfold pO;rw [this],a_⟩
  ·rw [qj]
   refine ⟨⟨by omega,by omega,by omega,by omega⟩,⟨(List.replicate l.length (T.g [T.b false,T.l [],T.l []]),0),⟨by simp,WS _⟩,(by and_intros<;>first | exact trivial | rfl | (rw [pt (by omega)];rfl))⟩,fun _=>rfl,?_⟩;rintro ⟨g,k⟩ ⟨hg,hk⟩;dsimp only at hg hk ⊢;subst hg;refine ⟨fun h1=>?_,fun h1=>?_⟩
   ·rw [pw] at h1
    have b_:k<l.length:=by omega
    have hA:((l.take k).map qr).length=k:=by simp;omega
    rw [rL,WP,tJ l b_,qu,WV,CB _ _ _ _ hA (by omega)];refine ⟨⟨by omega,by omega⟩,_,⟨rfl,yI _ (h _ (ww b_))⟩,⟨by omega,by simp;omega⟩,((l.take (k+1)).map qr++List.replicate (l.length-(k+1)) (T.g [T.b false,T.l [],T.l []]),k+1),⟨rfl,b_⟩,by dsimp only;omega,?_⟩;rw [tE _ _ _ _ hA (by omega),vt l qr 0 b_];exact (by and_intros<;>first | exact trivial | rfl | (rw [pt (by omega)];rfl))
   ·rw [pF] at h1
    have:k=l.length:=by omega
    subst this;rw [Xc,pQ,pQ,Yp];exact ⟨a_,by simp [pO,tI],a_⟩
 exact SQ _ _ ⟨_,c1,a_,rfl,a_⟩
theorem Az (m:List (List Rat)) (hl:m.length≤2 ^ 30) (h:∀r∈m,r.length≤2 ^ 30∧∀q∈r,rl q≤2 ^ 30):F 101 [.t 26 (p9 m)] (zo 1 26) [p9 m]:=by
 have c1:F 140 [.t 26 (p9 m),.t 1 (.f 60 [])] (zo 2 26) [p9 m]:=by
  refine Pv _ _ (fun i=>i.1=(m.take i.2).map pO++List.replicate (m.length-i.2) (T.l [])∧i.2≤m.length) (fun i=>m.length-i.2) fun y hn=>⟨fun hy=>?_,fun _=>?_⟩
  ·have:ta m=[]:=hn hy
   exact ⟨a_,by unfold p9;rw [this],a_⟩
  ·rw [tz]
   refine ⟨⟨by omega,by omega,by omega,by omega⟩,⟨(List.replicate m.length (T.l []),0),⟨by simp,WS _⟩,(by and_intros<;>first | exact trivial | rfl | (rw [pt (by omega)];rfl))⟩,fun _=>rfl,?_⟩;rintro ⟨g,k⟩ ⟨hg,hk⟩;dsimp only at hg hk ⊢;subst hg;refine ⟨fun h1=>?_,fun h1=>?_⟩
   ·rw [pw] at h1
    have b_:k<m.length:=by omega
    have hA:((m.take k).map pO).length=k:=by simp;omega
    have hr:=h _ (pN (d:=[]) b_);rw [rt,WP,rM m b_,qS,WV];refine ⟨⟨by omega,by omega⟩,_,⟨rfl,vj _ hr.1 hr.2⟩,⟨by omega,by simp;omega⟩,((m.take (k+1)).map pO++List.replicate (m.length-(k+1)) (T.l []),k+1),⟨rfl,b_⟩,by dsimp only;omega,?_⟩;rw [tE _ _ _ _ hA (by omega),vt m pO [] b_];exact (by and_intros<;>first | exact trivial | rfl | (rw [pt (by omega)];rfl))
   ·rw [pF] at h1
    have:k=m.length:=by omega
    subst this;rw [Xc,pQ,pQ,Yp];exact ⟨a_,by simp [p9,ta],a_⟩
 exact O4 _ _ ⟨_,c1,a_,rfl,a_⟩
theorem sL (h:Md) (c:Nat) (hk:rV h c):F 59 [.t 29 (rx h)] (zo 1 29) [rx h]:=by
 have z_:=hk.st;have cY:=hk.sym;have hc:=hk.cc;refine SP _ _ ?_;rw [xK,xL,vW,zH,wz,yK,zI];refine ⟨_,yI _ (by have:=hk.q0.1;omega),_,vj _ (by rw [hk.init];omega) (fun q hq=>by have:=(hk.q1 q hq).1;omega),_,Az _ (by rw [hk.trans];omega) (fun r hr=>⟨by rw [hk.rows r hr];omega,fun q hq=>by have:=(hk.q2 r hr q hq).1;omega⟩),
  _,vj _ (by rw [hk.stop];omega) (fun q hq=>by have:=(hk.q3 q hq).1;omega),_,Az _ (by rw [hk.emit];omega) (fun r hr=>⟨by rw [hk.shows r hr];omega,fun q hq=>by have:=(hk.q4 r hr q hq).1;omega⟩),_,HB _ (by rw [Af,Xm];omega),_,t7 _ (by rw [qX,hk.ties];omega),a_,rfl,a_⟩
theorem DG (m:List (List T)) (hl:m.length≤2 ^ 30) (h:∀r∈m,r.length≤2 ^ 30):F 61 [.t 59 (.l (m.map T.l))] (zo 1 59) [.l (m.map T.l)]:=by
 have i_:lenOf (T.l (m.map T.l)).list=(m.length:Int):=by show ((m.map T.l).length:Int)=_;simp
 have c1:F 104 [.t 59 (.l (m.map T.l)),.t 1 (.f 62 [])] (zo 2 59) [.l (m.map T.l)]:=by
  refine O7 _ _ (fun i=>i.1=(m.take i.2).map T.l++List.replicate (m.length-i.2) (T.l [])∧i.2≤m.length) (fun i=>m.length-i.2) fun y hn=>⟨fun hy=>?_,fun _=>?_⟩
  ·have:m.map T.l=[]:=hn hy
   exact ⟨a_,by rw [this],a_⟩
  ·rw [i_]
   refine ⟨⟨by omega,by omega,by omega,by omega⟩,⟨(List.replicate m.length (T.l []),0),⟨by simp,WS _⟩,(by and_intros<;>first | exact trivial | rfl | (rw [pt (by omega)];rfl))⟩,fun _=>rfl,?_⟩;rintro ⟨g,k⟩ ⟨hg,hk⟩;dsimp only at hg hk ⊢;subst hg;refine ⟨fun h1=>?_,fun h1=>?_⟩
   ·rw [pw] at h1
    have b_:k<m.length:=by omega
    have hA:((m.take k).map T.l).length=k:=by simp;omega
    have hr:=h _ (pN (d:=[]) b_);have o_:((T.l (m.map T.l)).list.getD (k:Int).toNat T.u).cell 0=T.l (m.getD k []):=by
     show (((m.map T.l).getD (k:Int).toNat T.u)).cell 0=_
     rw [WP,WM,Xs,WM,WL b_];rfl
    rw [o_,WV,WP];refine ⟨⟨by omega,by omega⟩,_,⟨rfl,HC _ (by omega)⟩,⟨by omega,by simp;omega⟩,((m.take (k+1)).map T.l++List.replicate (m.length-(k+1)) (T.l []),k+1),⟨rfl,b_⟩,by dsimp only;omega,?_⟩;rw [tE _ _ _ _ hA (by omega),vt m T.l [] b_];exact (by and_intros<;>first | exact trivial | rfl | (rw [pt (by omega)];rfl))
   ·rw [pF] at h1
    have:k=m.length:=by omega
    subst this;rw [Xc,pQ,pQ,Yp];exact ⟨a_,by simp,a_⟩
 exact SR _ _ ⟨_,c1,a_,rfl,a_⟩
end Go.Pq
namespace Go.Pl
structure On where
 time:Nat
 sc:List Rat
 tails:List (List Nat)
 done:List Nat
def rm (m:List (List Nat)):List T:=m.map qH
def uv (m:List (List Nat)):T:=.l (rm m)
def onT (h:Md) (o:On):T:=.g [.i .i64 (h.sym:Int),.i .i64 (h.st:Int),.b (decide (h.empty.num<0)),lim (Lb.nat h.empty.num.natAbs),ux h.empty.den,
 pO h.init,p9 h.trans,pO h.stop,p9 h.emit,rP (List.replicate h.st false),qH h.ties,.i .i64 (o.time:Int),pO o.sc,uv o.tails,qH o.done]
theorem AS (h:Md) (o:On):(G15 (onT h o))=onT h o:=rfl
theorem Ky (h:Md) (o:On):(G11 (onT h o))=rx h:=rfl
theorem Oa (h:Md) (o:On):((onT h o).cell 0).int=(h.sym:Int):=rfl
theorem TD (h:Md) (o:On):((onT h o).cell 1).int=(h.st:Int):=rfl
theorem QS (h:Md) (o:On):(onT h o).cell 7=pO h.stop:=rfl
theorem xm (h:Md) (o:On):((onT h o).cell 11).int=(o.time:Int):=rfl
theorem MF (h:Md) (o:On):(onT h o).cell 12=pO o.sc:=rfl
theorem zM (h:Md) (o:On):(onT h o).cell 13=uv o.tails:=rfl
theorem CM (h:Md) (o:On):(onT h o).cell 14=qH o.done:=rfl
def on0:On:=⟨0,[],[],[]⟩
theorem Bt (m:List (List Nat)):(uv m).list=rm m:=rfl
theorem uN (m:List (List Nat)):lenOf (uv m).list=(m.length:Int):=by rw [Bt];simp [lenOf,rm]
theorem Bs (m:List (List Nat)) {i:Nat} (h:i<m.length):(rm m).getD i .u=qH (m.getD i []):=by
 simp [rm,WM,h]
theorem vK (m:List (List Nat)) {i:Nat} (h:i<m.length):(uv m).list.getD (i:Int).toNat T.u=qH (m.getD i []):=by
 rw [WP,Bt,Bs m h]
theorem sQ (m:List Rat) {i:Nat} (h:i<m.length):(pO m).list.getD (i:Int).toNat T.u=qr (m.getD i 0):=by
 rw [WP,rL,tJ m h]
theorem sd (m:List Nat) {i:Nat} (h:i<m.length):(qH m).list.getD (i:Int).toNat T.u=.i .i64 ((m.getD i 0:Nat):Int):=by
 rw [WP,vY,xM m h]
theorem vX (l:List Nat):(qH l).cell 0=qH l:=rfl
theorem r9 (x:Int):(T.i .i64 x).cell 0=T.i .i64 x:=rfl
end Go.Pl
namespace Go.Pq
open Go.Pl Go.Proofs
theorem Hh (h:Md) (c:Nat) (hk:rV h c):F 66 [.t 29 (rx h)] (zo 1 2) [.i .i64 0]:=by
 have z_:=hk.st;have cY:=hk.sym;have e0:ltI (h.sym:Int) 1=false:=pF.2 (by omega);have e1:ltI (32:Int) (h.sym:Int)=false:=pF.2 (by omega);have e2:ltI (h.st:Int) 1=false:=pF.2 (by omega);have e3:ltI (12:Int) (h.st:Int)=false:=pF.2 (by omega);refine ST _ _ ?_;rw [tS,Kd,BR,e0,e1,e2,e3];exact ⟨fun q=>(by cases q),fun _=>⟨_,J8 h c hk,fun q=>(by cases q),fun _=>⟨_,Rt h c hk,fun q=>(by cases q),fun _=>⟨_,_,QU hk,fun q=>(by cases q),fun _=>⟨_,Rw h c hk,fun q=>(by cases q),
  fun _=>⟨a_,rfl,a_⟩⟩⟩⟩⟩⟩
theorem vA (h:Md) (c:Nat) (hk:rV h c):F 33 [.t 29 (rx h)] (zo 1 4) [.b true]:=by
 refine SE _ _ ?_;rw [tS,yK];exact ⟨_,Hh h c hk,_,fun _=>H5 h.st (by have:=hk.st;omega),a_,rfl,a_⟩
theorem MR (h:Md) (c:Nat) (hk:rV h c):F 83 [.t 29 (rx h)] (zo 1 2) [.i .i64 0]:=by
 refine S7 _ _ ?_;rw [tS];exact ⟨_,Hh h c hk,fun q=>(by cases q),fun _=>⟨_,vA h c hk,fun q=>(by cases q),fun _=>⟨a_,rfl,a_⟩⟩⟩
theorem Oe (h:Md) (c:Nat) (hk:rV h c):F 44 [.t 29 (rx h)] Z9 [onT h on0,.i .i64 0]:=by
 refine SH _ _ _ ?_;rw [tS];exact ⟨_,MR h c hk,fun q=>(by cases q),fun _=>⟨_,sL h c hk,a_,rfl,rfl,a_⟩⟩
theorem Lf (q:Rat) (hq:rl q≤2 ^ 30) (hs:Share q):F 68 [.t 23 (qr q)] (zo 1 4) [.b true]:=by
 have c1:=Kr 1 1 (by decide) (by decide) (by decide);rw [CK] at c1;have c2:=sZ q 1 hq (by rw [B7];decide);refine J1 _ _ ⟨_,_,c1,_,FV q (by omega),_,fun _=>vG q (by omega),_,fun _=>c2,a_,?_,a_⟩;have h1:leI 0 (FM q.num)=true:=by
  rw [rD,←Int.not_lt,zV,GE,Rat.not_lt];exact hs.1
 have h2:leI (Du q 1) 0=true:=by rw [rD,EM];exact hs.2
 rw [pC,pC,h1,h2];rfl
end Go.Pq
namespace Go.Pl
def within (x:Int) (m:Nat):Nat:=(x%(m:Int)).toNat
theorem rK (x:Int) {m:Nat} (h:0<m):within x m<m:=by unfold within;have:=Zc x (show (0:Int)<(m:Int) by omega);have:=YR x (show (m:Int)≠0 by omega);omega
def sN (L:List Int) (at' n:Nat):Nat×Nat:=if L.length≤at' then (0,at') else (within (L.getD at' 0) n,at'+1)
theorem GB (L:List Int) (a:Nat) {n:Nat} (h:0<n):(sN L a n).1<n:=by
 unfold sN;split
 ·exact h
 ·exact rK _ h
theorem wE (L:List Int) {a:Nat} (h:a≤L.length) (n:Nat):(sN L a n).2≤L.length:=by
 unfold sN;split
 ·exact h
 ·show a+1≤_;omega
def D3 (v:Nat):Nat:=if v=3 then 0 else v
def pX (L:List Int) (a:Nat):Nat→List Nat×Nat
 | 0=>([],a)
 | k+1=>((pX L a k).1++[D3 (sN L (pX L a k).2 4).1],(sN L (pX L a k).2 4).2)
theorem D5 (L:List Int) {a:Nat} (h:a≤L.length):∀k,(pX L a k).2≤L.length∧(pX L a k).1.length=k∧∀x∈(pX L a k).1,x≤2:=by
 intro k
 induction k with
 | zero=>exact ⟨h,rfl,fun x hx=>by cases hx⟩
 | succ k ih =>
  obtain ⟨h1,h2,h3⟩:=ih;refine ⟨wE L h1 4,by show (_++[_]).length=_;simp [h2],?_⟩;intro x hx
  rcases W2.1 hx with q | q
  ·exact h3 x q
  ·simp only [Xn] at q
   subst q
   have:=GB L (pX L a k).2 (show 0<4 by decide)
   unfold D3;split<;>omega
def tL (L:List Int) (a n:Nat):List Nat×Nat :=
 if (pX L a n).1.sum=0 then ((pX L a n).1.set (within ((sN L (pX L a n).2 100).1:Int) n) 1,(sN L (pX L a n).2 100).2) else pX L a n
theorem Ha {l:List Nat} (h:l.sum=0):∀x∈l,x=0:=by
 induction l with
 | nil=>intro x hx;cases hx
 | cons a r ih =>
  simp only [ZD] at h;intro x hx
  rcases WW.1 hx with rfl | q
  ·omega
  ·exact ih (by omega) x q
theorem Lq {l:List Nat} {k:Nat} (hk:k<l.length) (h:∀x∈l,x=0):(l.set k 1).sum=1:=by
 induction l generalizing k with
 | nil=>cases hk
 | cons a r ih =>
  have ha:=h a (by simp);have hr:r.sum=0:=by
   clear ih hk
   induction r with
   | nil=>rfl
   | cons b t ih =>
    have hb:=h b (by simp)
    have:=ih (fun x hx=>h x (by rcases WW.1 hx with q | q<;>simp [q]))
    simp [hb,this]
  match k with
  | 0=>simp [hr]
  | k+1=>simp only [List.set_cons_succ,ZD,ha,WV];exact ih (by simpa using hk) (fun x hx=>h x (by simp [hx]))
theorem Ox {l:List Nat} (c:Nat) (h:∀x∈l,x≤c):l.sum≤c*l.length:=by
 induction l with
 | nil=>simp
 | cons a r ih =>
  have h1:=h a (by simp);have h2:=ih fun x hx=>h x (by simp [hx])
  simp only [ZD,W4,Yh,Yq];omega
theorem BW {l:List Nat} {x:Nat} (h:x∈l):x≤l.sum:=by
 induction l with
 | nil=>cases h
 | cons a r ih =>
  simp only [ZD]
  rcases WW.1 h with rfl | q
  ·omega
  ·have:=ih q;omega
theorem J7 (L:List Int) {a:Nat} (h:a≤L.length) {n:Nat} (hn:0<n):(tL L a n).2≤L.length∧(tL L a n).1.length=n∧0<(tL L a n).1.sum∧(tL L a n).1.sum≤2*n:=by
 obtain ⟨h1,h2,h3⟩:=D5 L h n;unfold tL;split
 ·rename_i q
  have hw:=rK ((sN L (pX L a n).2 100).1:Int) hn;have h4:=Lq (l:=(pX L a n).1) (k:=within ((sN L (pX L a n).2 100).1:Int) n) (by omega) (Ha q);exact ⟨wE L h1 100,by show (List.set _ _ _).length=n;rw [Yw];exact h2,by show 0<(List.set _ _ _).sum;omega,by show (List.set _ _ _).sum≤_;omega⟩
 ·rename_i q
  have:=Ox 2 h3
  rw [h2] at this;exact ⟨h1,h2,by omega,this⟩
def rv (p:List Nat):List Rat:=p.map fun x:Nat=>mkQ (x:Int) (p.sum:Int)
def pR (L:List Int) (a n:Nat):List Rat×Nat:=(rv (tL L a n).1,(tL L a n).2)
theorem Kt (a b:Nat):mkQ (a:Int) (b:Int)=mkRat (a:Int) b:=by
 unfold mkQ frac sg;have h1:decide ((a:Int)<0)=false:=Xh (by omega);have h2:decide ((b:Int)<0)=false:=Xh (by omega);rw [h1,h2];simp
theorem AK (a b:Nat):mkRat (a:Int) b=(a:Rat)*mkRat 1 b:=by
 rw [Rat.mkRat_eq_div,Rat.mkRat_eq_div,Rat.div_def,Rat.div_def];have e1:((1:Int):Rat)=1:=rfl;have e2:((a:Int):Rat)=(a:Rat):=rfl;rw [e1,e2,Rat.one_mul]
theorem BX {b:Nat} (hb:0<b):(b:Rat)*mkRat 1 b=1:=by
 rw [←AK,Rat.mkRat_eq_div,Rat.div_def]
 have:((b:Int):Rat)≠0:=by
  intro h
  have:(b:Int)=0:=by exact_mod_cast h
  omega
 exact Rat.mul_inv_cancel _ this
theorem DU (b:Nat):0≤mkRat 1 b:=by
 rw [←Rat.num_nonneg,Rat.num_mkRat];split
 ·exact Int.le_refl _
 ·exact Int.ediv_nonneg (by decide) (by omega)
theorem G9 {a b:Nat} (h:a≤b) (hb:0<b):Share (mkQ (a:Int) (b:Int)):=by
 rw [Kt,AK];refine ⟨Rat.mul_nonneg (by exact_mod_cast WS a) (DU b),?_⟩;have h1:(a:Rat)≤(b:Rat):=by exact_mod_cast h
 have:=Rat.mul_le_mul_of_nonneg_right h1 (DU b)
 rwa [BX hb] at this
theorem TR {a b:Nat} (h:a<2 ^ 32) (hb:b<2 ^ 32) (j3:0<b):rl (mkQ (a:Int) (b:Int))≤1:=by
 unfold mkQ
 have:=Ay (!(decide ((a:Int)<0) == decide ((b:Int)<0))) (a:Int).natAbs (b:Int).natAbs (by omega)
 have h1:(Lb.nat (a:Int).natAbs).length≤1:=Lb.tN _ _ (by rw [ZR];show _<4294967296;omega);have h2:(Lb.nat (b:Int).natAbs).length≤1:=Lb.tN _ _ (by rw [ZR];show _<4294967296;omega);omega
theorem Ix (f:Nat→Rat) (u:Rat) (hf:∀x,f x=(x:Rat)*u) (p:List Nat):∀a,(p.map f).foldl (·+·) a=a+(p.sum:Rat)*u:=by
 induction p with
 | nil=>intro a;simp [Rat.zero_mul,Rat.add_zero]
 | cons x r ih =>
  intro a;simp only [XP,ZL,ZD];rw [ih,hf,Rat.natCast_add,Rat.add_mul,Rat.add_assoc]
theorem Iy {p:List Nat} (h:0<p.sum):Bo (rv p)=1:=by
 unfold rv Bo;rw [Ix _ (mkRat 1 p.sum) (fun x=>by rw [Kt,AK]) p 0,BX h,Rat.zero_add]
theorem td (L:List Int) {a:Nat} (h:a≤L.length) {n:Nat} (hn:0<n∧n≤1000):(pR L a n).2≤L.length∧(pR L a n).1.length=n∧Bo (pR L a n).1=1∧∀q∈(pR L a n).1,rl q≤1∧Share q:=by
 obtain ⟨h1,h2,h3,h4⟩:=J7 L h hn.1;refine ⟨h1,by show (rv _).length=n;unfold rv;rw [Xk];exact h2,Iy h3,?_⟩;intro q hq;obtain ⟨x,hx,rfl⟩:=Xw.1 hq
 have:=BW hx
 exact ⟨TR (by omega) (by omega) h3,G9 this h3⟩
def IA (L:List Int) (em:List (List Rat)) (ties:List Nat) (e:List Rat):Nat→Nat→Nat→Nat→Nat×Nat
 | 0,_,a,t=>(a,t)
 | n+1,j,a,t=>if (sN L a 3).1=0 then IA L em ties e n (j+1) (sN L a 3).2 (if em.getD j []=e then ties.getD j 0 else t) else ((sN L a 3).2,t)
structure Mk where
 pos:Nat
 trans:List (List Rat)
 stop:List Rat
 emit:List (List Rat)
 ties:List Nat
def DV (L:List Int) (st sym i:Nat) (m:Mk):Mk :=
 ⟨(IA L m.emit m.ties (pR L (pR L m.pos (st+1)).2 sym).1 i 0 (pR L (pR L m.pos (st+1)).2 sym).2 i).1,
  m.trans++[(pR L m.pos (st+1)).1.take st],m.stop++[(pR L m.pos (st+1)).1.getD st 0],m.emit++[(pR L (pR L m.pos (st+1)).2 sym).1],
  m.ties++[(IA L m.emit m.ties (pR L (pR L m.pos (st+1)).2 sym).1 i 0 (pR L (pR L m.pos (st+1)).2 sym).2 i).2]⟩
def mkN (L:List Int) (st sym:Nat):Nat→Mk
 | 0=>⟨(pR L 0 (st+1)).2,[],[],[],[]⟩
 | i+1=>DV L st sym i (mkN L st sym i)
def yB (S Y:Int) (L:List Int) (most:Nat):Md :=
 ⟨1+within Y 3,1+within S most,(pR L 0 (1+within S most+1)).1.getD (1+within S most) 0,(pR L 0 (1+within S most+1)).1.take (1+within S most),
  (mkN L (1+within S most) (1+within Y 3) (1+within S most)).trans,(mkN L (1+within S most) (1+within Y 3) (1+within S most)).stop,
  (mkN L (1+within S most) (1+within Y 3) (1+within S most)).emit,(mkN L (1+within S most) (1+within Y 3) (1+within S most)).ties⟩
structure UR (L:List Int) (st sym i:Nat) (m:Mk):Prop where
 pos:m.pos≤L.length
 tl:m.trans.length=i
 sl:m.stop.length=i
 el:m.emit.length=i
 il:m.ties.length=i
 rows:∀r∈m.trans,r.length=st∧∀q∈r,rl q≤1∧Share q
 stops:∀q∈m.stop,rl q≤1∧Share q
 shows:∀r∈m.emit,r.length=sym∧Bo r=1∧∀q∈r,rl q≤1∧Share q
 sums:∀k,k<i→m.stop.getD k 0+Bo (m.trans.getD k [])=1
 le:∀k,k<i→m.ties.getD k 0≤k
 tied:∀k j,k<i→j<k→m.ties.getD k 0=m.ties.getD j 0→m.emit.getD k []=m.emit.getD j []
theorem Rv (L:List Int) (em:List (List Rat)) (ties:List Nat) (e:List Rat) (i:Nat) (P_:∀k,k<i→ties.getD k 0≤k) :
  ∀n j a t,j+n=i→a≤L.length→(t=i∨∃k,k<i∧t=ties.getD k 0∧em.getD k []=e) →
   (IA L em ties e n j a t).1≤L.length∧((IA L em ties e n j a t).2=i∨∃k,k<i∧(IA L em ties e n j a t).2=ties.getD k 0∧em.getD k []=e):=by
 intro n
 induction n with
 | zero=>intro j a t _ ha ht;exact ⟨ha,ht⟩
 | succ n ih =>
  intro j a t hj ha ht;unfold IA;split
  ·refine ih (j+1) _ _ (by omega) (wE L ha 3) ?_
   split
   ·rename_i q;exact .inr ⟨j,by omega,rfl,q⟩
   ·exact ht
  ·exact ⟨wE L ha 3,ht⟩
theorem sr {α:Type} (l:List α) (x d:α) (i:Nat):(l++[x]).getD i d=if i<l.length then l.getD i d else if i=l.length then x else d:=by
 rw [WM,WM,ZT]
 by_cases g:i<l.length
 ·rw [WY g,WY g]
 ·rw [WZ g,WZ g]
  by_cases g2:i=l.length
  ·rw [WY g2,g2,Yp];rfl
  ·rw [WZ g2]
   obtain ⟨d',hd⟩:∃d',i-l.length=d'+1:=⟨i-l.length-1,by omega⟩;rw [hd];rfl
theorem N7 (L:List Int) {st sym:Nat} (z_:1≤st∧st≤8) (cY:1≤sym∧sym≤8):∀i,i≤st→UR L st sym i (mkN L st sym i):=by
 intro i
 induction i with
 | zero =>
  intro _;refine ⟨(td L (WS _) (by omega)).1,rfl,rfl,rfl,rfl,?_,?_,?_,?_,?_,?_⟩
  ·intro x hx;cases hx
  ·intro x hx;cases hx
  ·intro x hx;cases hx
  ·intro k hk;exact absurd hk (by omega)
  ·intro k hk;exact absurd hk (by omega)
  ·intro k j hk;exact absurd hk (by omega)
 | succ i ih =>
  intro hi;have M:=ih (by omega);have s1:=td L M.pos (show 0<st+1∧st+1≤1000 by omega);have s2:=td L s1.1 (show 0<sym∧sym≤1000 by omega);have t1:=Rv L (mkN L st sym i).emit (mkN L st sym i).ties (pR L (pR L (mkN L st sym i).pos (st+1)).2 sym).1 i M.le i 0 _ i (by omega) s2.1 (.inl rfl)
  show UR L st sym (i+1) (DV L st sym i (mkN L st sym i))
  unfold DV
  generalize hm:mkN L st sym i=m at *
  generalize hl:(pR L m.pos (st+1)).1=l at *
  generalize he:(pR L (pR L m.pos (st+1)).2 sym).1=e at *
  generalize ht:IA L m.emit m.ties e i 0 (pR L (pR L m.pos (st+1)).2 sym).2 i=t at *
  have cq:t.2≤i:=by
   rcases t1.2 with q | ⟨k,k1,k2,-⟩
   ·omega
   ·have:=M.le k k1;omega
  have T_:l.getD st 0∈l:=pN (by omega);refine ⟨t1.1,by simp [M.tl],by simp [M.sl],by simp [M.el],by simp [M.il],?_,?_,?_,?_,?_,?_⟩
  ·intro r hr
   rcases W2.1 hr with q | q
   ·exact M.rows r q
   ·simp only [Xn] at q
    subst q;exact ⟨by rw [Xg];omega,fun q hq=>s1.2.2.2 q (ZU hq)⟩
  ·intro q hq
   rcases W2.1 hq with q' | q'
   ·exact M.stops q q'
   ·simp only [Xn] at q'
    subst q';exact s1.2.2.2 _ T_
  ·intro r hr
   rcases W2.1 hr with q | q
   ·exact M.shows r q
   ·simp only [Xn] at q
    subst q;exact ⟨s2.2.1,s2.2.2.1,s2.2.2.2⟩
  ·intro k hk
   show (m.stop++[_]).getD k 0+Bo ((m.trans++[_]).getD k [])=1
   rw [sr,sr,M.sl,M.tl]
   by_cases q:k<i
   ·rw [WY q,WY q];exact M.sums k q
   ·rw [WZ q,WZ q,WY (by omega),WY (by omega)]
    have h1:=yg l (k:=st) (by omega);rw [WX (by omega),s1.2.2.1] at h1;rw [Rat.add_comm];exact h1.symm
  ·intro k hk
   show (m.ties++[_]).getD k 0≤k
   rw [sr,M.il]
   by_cases q:k<i
   ·rw [WY q];exact M.le k q
   ·rw [WZ q,WY (by omega)];omega
  ·intro k j hk hj
   show (m.ties++[_]).getD k 0=(m.ties++[_]).getD j 0→(m.emit++[_]).getD k []=(m.emit++[_]).getD j []
   rw [sr,sr,sr,sr,M.il,M.el,WY (show j<i by omega),WY (show j<i by omega)]
   by_cases q:k<i
   ·rw [WY q,WY q];exact M.tied k j q hj
   ·rw [WZ q,WZ q,WY (by omega),WY (by omega)]
    intro dV
    rcases t1.2 with q1 | ⟨k2,k3,k4,k5⟩
    ·have:=M.le j (by omega);omega
    ·rw [k4] at dV
     rw [←k5]
     rcases YW k2 j with g | g | g
     ·exact (M.tied j k2 (by omega) g dV.symm).symm
     ·rw [g]
     ·exact M.tied k2 j k3 g dV
theorem Cs (S Y:Int) (L:List Int) {most:Nat} (hm:1≤most∧most≤6):rV (yB S Y L most) 1:=by
 have w1:=rK S (show 0<most by omega);have w2:=rK Y (show 0<3 by omega);have M:=N7 L (st:=1+within S most) (sym:=1+within Y 3) (by omega) (by omega) (1+within S most) (WU _);have s1:=td L (WS _) (show 0<1+within S most+1∧1+within S most+1≤1000 by omega);refine ⟨⟨by show 1≤1+within Y 3;omega,by show 1+within Y 3≤8;omega⟩,⟨by show 1≤1+within S most;omega,by show 1+within S most≤8;omega⟩,⟨WU _,by decide⟩,?_,M.tl,M.sl,M.el,M.il,fun r hr=>(M.rows r hr).1,fun r hr=>(M.shows r hr).1,?_,?_,?_,fun r hr=>(M.rows r hr).2,M.stops,fun r hr=>(M.shows r hr).2.2,?_,M.sums,fun r hr=>(M.shows r hr).2.1,M.tied⟩
 ·show ((pR L 0 (1+within S most+1)).1.take (1+within S most)).length=_
  rw [Xg,s1.2.1]
  show min (1+within S most) _=1+within S most
  omega
 ·intro t ht
  have cN:t∈(mkN L (1+within S most) (1+within Y 3) (1+within S most)).ties:=ht;obtain ⟨k,hk,rfl⟩:=Ys cN;have e_:k<1+within S most:=by have:=M.il;omega
  have:=M.le k e_
  rw [WM,WL hk] at this;simp only [XF] at this
  show _<1+within S most
  omega
 ·exact s1.2.2.2 _ (pN (by omega))
 ·intro q hq
  exact s1.2.2.2 q (ZU hq)
 ·have h1:=yg (pR L 0 (1+within S most+1)).1 (k:=1+within S most) (by omega)
  rw [WX (by omega),s1.2.2.1] at h1
  show (pR L 0 (1+within S most+1)).1.getD (1+within S most) 0+Bo ((pR L 0 (1+within S most+1)).1.take (1+within S most))=1
  rw [Rat.add_comm];exact h1.symm
def cp:List Nat→List Nat→Nat
 | a::x,b::y=>if a=b then cp x y+1 else 0
 | _,_=>0
theorem JE {k:Nat} {p f:List Nat}:k<cp p f↔k<p.length∧k<f.length∧∀j,j≤k→p.getD j 0=f.getD j 0:=by
 induction p generalizing k f with
 | nil=>simp [cp]
 | cons a x ih =>
  match f with
  | []=>simp [cp]
  | b::y =>
   unfold cp
   by_cases h:a=b
   ·rw [WY h]
    match k with
    | 0 =>
     refine ⟨fun _=>⟨by simp,by simp,fun j hj=>?_⟩,fun _=>by omega⟩
     have:j=0:=by omega
     subst this;simpa using h
    | k+1 =>
     rw [Nat.add_lt_add_iff_right,ih];simp only [W4,Nat.add_lt_add_iff_right];refine and_congr Iff.rfl (and_congr Iff.rfl ⟨fun q j hj=>?_,fun q j hj=>?_⟩)
     ·match j with
      | 0=>simpa using h
      | j+1=>simpa using q j (by omega)
     ·simpa using q (j+1) (by omega)
   ·rw [WZ h]
    refine ⟨fun q=>by omega,fun q=>?_⟩;exact absurd (by simpa using q.2.2 0 (by omega)) h
theorem wq (p f:List Nat):cp p f≤p.length:=by
 rcases XT (cp p f) with h | h
 ·omega
 ·have:=(JE (k:=cp p f-1) (p:=p) (f:=f)).1 (by omega);omega
theorem ES (p f:List Nat):cp p f≤f.length:=by
 rcases XT (cp p f) with h | h
 ·omega
 ·have:=(JE (k:=cp p f-1) (p:=p) (f:=f)).1 (by omega);omega
theorem JF {k:Nat} {p f:List Nat} (h:k≤cp p f) {j:Nat} (hj:j<k):p.getD j 0=f.getD j 0:=(JE.1 (Xz hj h)).2.2 j (WU _)
theorem JH {k:Nat} {p f:List Nat} (h:k≤cp p f) (hp:k<p.length) (hf:k<f.length) (he:p.getD k 0=f.getD k 0):k+1≤cp p f :=
 JE.2 ⟨hp,hf,fun j hj=>by
  by_cases q:j=k
  ·subst q;exact he
  ·exact JF h (by omega)⟩
theorem JI {k:Nat} {p f:List Nat} (he:p.getD k 0≠f.getD k 0):cp p f≤k:=by
 rcases YP k (cp p f) with h | h
 ·exact absurd ((JE.1 h).2.2 k (WU _)) he
 ·exact h
theorem JG (p:List Nat):cp p p=p.length:=by
 induction p with
 | nil=>rfl
 | cons a x ih=>simp [cp,ih]
theorem OR (a b:Nat) (x y:List Nat):cp (a::x) (b::y)=if a=b then cp x y+1 else 0:=rfl
theorem OS (p f:List Nat) (k:Nat):k≤cp p f→cp (p.drop k) (f.drop k)=cp p f-k:=by
 induction k generalizing p f with
 | zero=>simp
 | succ k ih =>
  intro h
  match p,f with
  | [],_=>simp [cp] at h
  | a::x,[]=>simp [cp] at h
  | a::x,b::y =>
   rw [OR] at h ⊢
   by_cases q:a=b
   ·rw [WY q] at h ⊢
    simp only [List.drop_succ_cons];rw [ih x y (by omega)];omega
   ·rw [WZ q] at h;omega
theorem JJ {k:Nat} {p f:List Nat} (h:k≤cp p f):p.take k=f.take k:=by
 have h1:=wq p f;have h2:=ES p f;apply Yj
 ·simp;omega
 ·intro i h3 h4
  simp only [Xg] at h3 h4
  have:=JF h (j:=i) (by omega)
  rw [WM,WM,WL (by omega),WL (by omega)] at this;simpa using this
def BJ:List (List Nat)→Nat
 | []=>0
 | f::r=>r.foldl (fun n p=>min n (cp p f)) f.length
theorem Jz (f:List Nat) (r:List (List Nat)) (p:List Nat):BJ (f::r++[p])=min (BJ (f::r)) (cp p f):=by
 simp [BJ,List.foldl_append]
theorem E0 (f:List Nat) (r:List (List Nat)):∀n,r.foldl (fun n p=>min n (cp p f)) n≤n∧∀p∈r,r.foldl (fun n p=>min n (cp p f)) n≤cp p f:=by
 induction r with
 | nil=>intro n;simp
 | cons a x ih =>
  intro n;obtain ⟨h1,h2⟩:=ih (min n (cp a f));simp only [ZL];refine ⟨by omega,fun p hp=>?_⟩
  rcases WW.1 hp with rfl | hp
  ·omega
  ·exact h2 p hp
theorem EO {f:List Nat} {r:List (List Nat)}:∀p∈f::r,BJ (f::r)≤cp p f:=by
 intro p hp
 rcases WW.1 hp with rfl | hp
 ·rw [JG];exact (E0 _ r _).1
 ·exact (E0 f r _).2 p hp
theorem Gb {l:List (List Nat)}:∀p∈l,BJ l≤p.length:=by
 intro p hp
 match l,hp with
 | f::r,hp=>exact XU (EO p hp) (wq p f)
theorem JA {l:List (List Nat)} {p q:List Nat} (hp:p∈l) (hq:q∈l):p.take (BJ l)=q.take (BJ l):=by
 match l,hp,hq with
 | f::r,hp,hq=>rw [JJ (EO p hp),JJ (EO q hq)]
theorem Jy (l:List (List Nat)):BJ (l.map (List.drop (BJ l)))=0:=by
 match l with
 | []=>rfl
 | f::r =>
  have P_:=E0 f r f.length;have key:∀(x:List (List Nat)) (k n:Nat),(∀p∈x,k≤cp p f)→x.foldl (fun m p=>min m (cp (p.drop k) (f.drop k))) (n-k)=x.foldl (fun m p=>min m (cp p f)) n-k:=by
   intro x k
   induction x with
   | nil=>intro n _;rfl
   | cons a x ih =>
    intro n hx;simp only [ZL];rw [OS a f k (hx a (by simp)),show min (n-k) (cp a f-k)=min n (cp a f)-k from by omega];exact ih _ fun p hp=>hx p (by simp [hp])
  show BJ (List.map (List.drop (BJ (f::r))) (f::r))=0
  generalize hk:BJ (f::r)=k
  have e_:r.foldl (fun n p=>min n (cp p f)) f.length=k:=hk;rw [e_] at P_;unfold BJ;simp only [XP,Xi];rw [List.foldl_map,key r k f.length P_.2,e_,Yp]
def xR (sc:List Rat) (ts:List (List Nat)) (k:Nat):List (List Nat):=((List.range k).filter fun i=>decide (0<sc.getD i 0)).map fun i=>ts.getD i []
theorem BU (sc:List Rat) (ts:List (List Nat)) (k:Nat):xR sc ts (k+1)=if 0<sc.getD k 0 then xR sc ts k++[ts.getD k []] else xR sc ts k:=by
 unfold xR;rw [Za,List.filter_append,XY]
 by_cases h:0<sc.getD k 0
 ·rw [WY h,ZE (by simpa using h)];rfl
 ·rw [WZ h,ZF (by simpa using h)];simp
theorem Kp {sc:List Rat} {ts:List (List Nat)} {n:Nat} {p:List Nat}:p∈xR sc ts n↔∃i,i<n∧0<sc.getD i 0∧p=ts.getD i []:=by
 unfold xR;simp only [Xw,Y0,XJ,Xo]
 constructor
 ·rintro ⟨i,⟨h1,h2⟩,rfl⟩;exact ⟨i,h1,h2,rfl⟩
 ·rintro ⟨i,h1,h2,rfl⟩;exact ⟨i,⟨h1,h2⟩,rfl⟩
def F8:List Nat→List Nat→Int
 | [],[]=>0
 | [],_::_ => -1
 | _::_,[]=>1
 | a::x,b::y=>if a<b then -1 else if b<a then 1 else F8 x y
theorem Jp {a b:List Nat} {k:Nat} (ha:k<a.length) (hb:k<b.length) :
  F8 (a.drop k) (b.drop k)=if a.getD k 0<b.getD k 0 then -1 else if b.getD k 0<a.getD k 0 then 1 else F8 (a.drop (k+1)) (b.drop (k+1)):=by
 rw [XI ha,XI hb];rw [WM,WM,WL ha,WL hb];rfl
theorem L0 {a b:List Nat} {k:Nat} (ha:a.length≤k) (hb:b.length≤k):F8 (a.drop k) (b.drop k)=0:=by
 rw [Zh ha,Zh hb];rfl
theorem Jq {a b:List Nat} {k:Nat} (ha:a.length≤k) (hb:k<b.length):F8 (a.drop k) (b.drop k) = -1:=by
 rw [Zh ha,XI hb];rfl
theorem Jr {a b:List Nat} {k:Nat} (ha:k<a.length) (hb:b.length≤k):F8 (a.drop k) (b.drop k)=1:=by
 rw [Zh hb,XI ha];rfl
end Go.Pl
namespace Go.Pq
open Go.Pl Go.Proofs
theorem Sg (a b:Nat) (y:Int) (hy:y=if a<b then -1 else if b<a then 1 else 0):F 165 [.t 2 (.i .i64 (a:Int)),.t 2 (.i .i64 (b:Int))] (zo 2 2) [.i .i64 y]:=by
 subst hy;have n1:∀x:Nat,F 195 [.t 2 (.i .i64 (x:Int))] (zo 1 4) [.b false]:=fun x=>JZ _ _ ⟨a_,by rw [rT],a_⟩;refine JY _ _ _ ⟨_,n1 a,_,n1 b,fun q=>(by cases q),fun _=>⟨fun q=>(by cases q),fun _=>⟨fun h=>?_,fun h=>⟨fun h2=>?_,fun h2=>?_⟩⟩⟩⟩
 ·rw [pC,pC,pw] at h
  rw [WY (by omega)];exact ⟨a_,rfl,a_⟩
 ·rw [pC,pC,pF] at h
  rw [pC,pC,pw] at h2;rw [WZ (by omega),WY (by omega)];exact ⟨a_,rfl,a_⟩
 ·rw [pC,pC,pF] at h
  rw [pC,pC,pF] at h2;rw [WZ (by omega),WZ (by omega)];exact ⟨a_,rfl,a_⟩
theorem NT (a b:List Nat) (ha:a.length≤2 ^ 40) (hb:b.length≤2 ^ 40):F 167 [.t 28 (qH a),.t 28 (qH b)] (zo 2 2) [.i .i64 (F8 a b)]:=by
 refine PO _ _ _ (fun k=>k≤a.length∧F8 a b=F8 (a.drop k) (b.drop k)∧k≤b.length) (fun k=>a.length-k) ?_;rw [qZ,qZ];refine ⟨⟨0,⟨WS _,rfl,WS _⟩,(by and_intros<;>first | exact trivial | rfl | (rw [pt (by omega)];rfl))⟩,fun _=>rfl,?_⟩;rintro k ⟨hk,hc,pg⟩;refine ⟨fun h2=>?_,fun h2=>?_⟩
 ·rw [pw] at h2
  have b_:k<a.length:=by omega
  refine ⟨⟨by omega,by omega⟩,fun h3=>?_,fun h3=>?_⟩
  ·rw [rD] at h3
   rw [hc,Jr b_ (by omega)];exact ⟨a_,rfl,a_⟩
  ·rw [tH] at h3
   have cX:k<b.length:=by omega
   have hd:=Jp b_ cX;rw [sd a b_,sd b cX,r9,r9];refine ⟨⟨by omega,by omega⟩,_,Sg _ _ _ rfl,fun h4=>?_,fun h4=>?_⟩
   ·rw [pC,rr] at h4
    refine ⟨a_,?_,a_⟩;rw [hc,hd];split at h4
    ·rename_i q;rw [WY q,WY q]
    ·rename_i q
     split at h4
     ·rename_i q2;rw [WZ q,WY q2,WZ q,WY q2]
     ·exact absurd rfl h4
   ·rw [pC,sq] at h4
    refine ⟨k+1,⟨b_,?_,cX⟩,by omega,(by and_intros<;>first | exact trivial | rfl | (rw [pt (by omega)];rfl))⟩;rw [hc,hd];split at h4
    ·cases h4
    ·rename_i q
     split at h4
     ·cases h4
     ·rename_i q2;rw [WZ q,WZ q2]
 ·rw [pF] at h2
  refine ⟨fun h3=>?_,fun h3=>?_⟩
  ·rw [pw] at h3
   rw [hc,Jq (by omega) (by omega)];exact ⟨a_,rfl,a_⟩
  ·rw [pF] at h3
   rw [hc,L0 (by omega) (by omega)];exact ⟨a_,rfl,a_⟩
theorem Cl (h:Md) (o:On) (i:Nat) (hi:i<o.sc.length) (hl:o.sc.length≤2 ^ 40) (hq:rl (o.sc.getD i 0)≤2 ^ 30) :
  F 69 [.t 60 (onT h o),.t 2 (.i .i64 (i:Int))] (zo 2 4) [.b (decide (0<o.sc.getD i 0))]:=by
 refine NV _ _ _ ?_;rw [MF,qj,pC,sQ _ hi,qu];refine ⟨⟨by omega,by omega⟩,_,vG _ (by omega),a_,?_,a_⟩;rw [pC]
 congr 1
 unfold ltI;exact Zl.2 (wM.trans B0)
end Go.Pq
namespace Go.Pl
theorem L5 (p:List Nat):BJ [p]=p.length:=rfl
theorem US {a b c:Bool}:((a && b) && c)=true↔a=true∧b=true∧c=true:=by cases a<;>cases b<;>cases c<;>simp
end Go.Pl
namespace Go.Pq
open Go.Pl Go.Proofs
theorem Cw (h:Md) (o:On) (ts:List (List Nat)) (hl:ts.length≤o.sc.length) (hm:o.sc.length≤2 ^ 20) (ht:∀p∈ts,p.length≤2 ^ 20) (hq:∀q∈o.sc,rl q≤2 ^ 30) :
  F 71 [.t 60 (onT h o),.t 59 (uv ts)] (zo 2 2) [.i .i64 ((BJ (xR o.sc ts ts.length):Nat):Int)]:=by
 refine SV _ _ _
  (fun i=>i.2.2≤ts.length∧((xR o.sc ts i.2.2=[]∧i.1 = -1∧i.2.1=.l [])∨∃f r,xR o.sc ts i.2.2=f::r∧i.1=((BJ (f::r):Nat):Int)∧i.2.1=qH f∧f.length≤2 ^ 20))
  (fun i=>ts.length-i.2.2)
  (fun i j=>∃f r n,i.2.2<ts.length∧j.1=((n:Nat):Int)∧j.2.1=qH f∧f.length≤2 ^ 20∧n≤f.length∧j.2.2≤n∧j.2.2≤cp (ts.getD i.2.2 []) f∧xR o.sc ts (i.2.2+1)=f::r∧BJ (f::r)=min n (cp (ts.getD i.2.2 []) f))
  (fun i j=>j.1.toNat-j.2.2) ?_
 rw [AS,uN];refine ⟨⟨(-1,.l [],0),⟨WS _,.inl ⟨rfl,rfl,rfl⟩⟩,(by and_intros<;>first | exact trivial | rfl | (rw [pt (by omega)];rfl))⟩,fun _=>rfl,?_⟩;rintro ⟨l,ft,k⟩ ⟨hk,hI⟩;dsimp only at hk hI ⊢;refine ⟨fun h1=>?_,fun h1=>?_⟩
 ·rw [pw] at h1
  have b_:k<ts.length:=by omega
  have hp:(ts.getD k []).length≤2 ^ 20:=ht _ (pN b_);rw [vK ts b_,vX,qZ];refine ⟨⟨by omega,by omega⟩,_,Cl h o k (by omega) (by omega) (hq _ (pN (by omega))),fun h2=>?_,fun h2=>?_⟩
  ·have h3:¬ 0<o.sc.getD k 0:=by
    show ¬ _
    have:decide (0<o.sc.getD k 0)=false:=by simpa [T.bool] using h2
    simpa using this
   have e:=BU o.sc ts k;rw [WZ h3] at e;refine ⟨(l,ft,k+1),⟨b_,?_⟩,by dsimp only;omega,(by and_intros<;>first | exact trivial | rfl | (rw [pt (by omega)];rfl))⟩;dsimp only;rw [e];exact hI
  ·have h3:0<o.sc.getD k 0:=by
    have:decide (0<o.sc.getD k 0)=true:=by simpa [T.bool] using h2
    simpa using this
   have e:=BU o.sc ts k;rw [WY h3] at e;refine ⟨fun h4=>⟨⟨(((ts.getD k []).length:Int),qH (ts.getD k []),0),?_,(by and_intros<;>first | exact trivial | rfl | (rw [pt (by omega)];rfl))⟩,fun _=>rfl,?_⟩,fun h4=>⟨⟨(l,ft,0),?_,(by and_intros<;>first | exact trivial | rfl | (rw [pt (by omega)];rfl))⟩,fun _=>rfl,?_⟩⟩
   ·rw [pw] at h4
    rcases hI with ⟨q1,-,-⟩ | ⟨f,r,-,q2,-⟩
    ·rw [q1] at e
     exact ⟨ts.getD k [],[],(ts.getD k []).length,b_,rfl,rfl,hp,WU _,WS _,WS _,e,by rw [JG,L5];omega⟩
    ·omega
   ·rintro ⟨l',ft',j⟩ ⟨f,r,n,-,hn,eU,dI,lP,lQ,iz,ai,aP⟩
    dsimp only at hn eU lQ iz ai aP ⊢;subst hn eU;rw [tM,tM,qZ];have g1:(ltI (j:Int) (n:Int) && ltI (j:Int) ((ts.getD k []).length:Int))=true→j<n∧j<(ts.getD k []).length:=by
     intro q;rw [XG,pw,pw] at q;omega
    refine ⟨fun q=>?_,fun q=>?_,fun q=>?_,fun q=>?_⟩
    ·have:=g1 q.1;exact ⟨by omega,by omega⟩
    ·have:=g1 q.1;exact ⟨by omega,by omega⟩
    ·have q' := US.1 q
     obtain ⟨a1,a2⟩:=g1 (by rw [q'.1,q'.2.1];rfl);have q3:=q'.2.2;rw [sd _ a2,sd _ (by omega),r9,r9,pC,pC,qe] at q3;refine ⟨(n,qH f,j+1),⟨f,r,n,b_,rfl,rfl,dI,lP,a1,JH iz a2 (by omega) (by omega),ai,aP⟩,by dsimp only;omega,(by and_intros<;>first | exact trivial | rfl | (rw [pt (by omega)];rfl))⟩
    ·have hj:min n (cp (ts.getD k []) f)=j:=by
      by_cases b1:j<n
      ·by_cases b2:j<(ts.getD k []).length
       ·have b3:(ts.getD k []).getD j 0≠f.getD j 0:=by
         intro b3;rw [sd _ b2,sd _ (by omega),r9,r9,pC,pC,b3,wr,pw.2 (by omega),pw.2 (by omega)] at q;cases q
        have:=JI b3
        omega
       ·have:=wq (ts.getD k []) f
        omega
      ·omega
     refine ⟨((j:Int),qH f,k+1),⟨b_,.inr ⟨f,r,ai,?_,rfl,dI⟩⟩,by dsimp only;omega,(by and_intros<;>first | exact trivial | rfl | (rw [pt (by omega)];rfl))⟩;dsimp only;rw [aP,hj]
   ·rw [pF] at h4
    rcases hI with ⟨-,q1,-⟩ | ⟨f,r,q1,q2,q3,q4⟩
    ·omega
    ·rw [q1] at e
     exact ⟨f,r++[ts.getD k []],BJ (f::r),b_,q2,q3,q4,Gb f (by simp),WS _,WS _,e,Jz f r _⟩
   ·rintro ⟨l',ft',j⟩ ⟨f,r,n,-,hn,eU,dI,lP,lQ,iz,ai,aP⟩
    dsimp only at hn eU lQ iz ai aP ⊢;subst hn eU;rw [tM,tM,qZ];have g1:(ltI (j:Int) (n:Int) && ltI (j:Int) ((ts.getD k []).length:Int))=true→j<n∧j<(ts.getD k []).length:=by
     intro q;rw [XG,pw,pw] at q;omega
    refine ⟨fun q=>?_,fun q=>?_,fun q=>?_,fun q=>?_⟩
    ·have:=g1 q.1;exact ⟨by omega,by omega⟩
    ·have:=g1 q.1;exact ⟨by omega,by omega⟩
    ·have q' := US.1 q
     obtain ⟨a1,a2⟩:=g1 (by rw [q'.1,q'.2.1];rfl);have q3:=q'.2.2;rw [sd _ a2,sd _ (by omega),r9,r9,pC,pC,qe] at q3;refine ⟨(n,qH f,j+1),⟨f,r,n,b_,rfl,rfl,dI,lP,a1,JH iz a2 (by omega) (by omega),ai,aP⟩,by dsimp only;omega,(by and_intros<;>first | exact trivial | rfl | (rw [pt (by omega)];rfl))⟩
    ·have hj:min n (cp (ts.getD k []) f)=j:=by
      by_cases b1:j<n
      ·by_cases b2:j<(ts.getD k []).length
       ·have b3:(ts.getD k []).getD j 0≠f.getD j 0:=by
         intro b3;rw [sd _ b2,sd _ (by omega),r9,r9,pC,pC,b3,wr,pw.2 (by omega),pw.2 (by omega)] at q;cases q
        have:=JI b3
        omega
       ·have:=wq (ts.getD k []) f
        omega
      ·omega
     refine ⟨((j:Int),qH f,k+1),⟨b_,.inr ⟨f,r,ai,?_,rfl,dI⟩⟩,by dsimp only;omega,(by and_intros<;>first | exact trivial | rfl | (rw [pt (by omega)];rfl))⟩;dsimp only;rw [aP,hj]
 ·rw [pF] at h1
  have:k=ts.length:=by omega
  subst this;refine ⟨a_,?_,a_⟩
  rcases hI with ⟨q1,q2,-⟩ | ⟨f,r,q1,q2,-⟩
  ·rw [q1,q2];rfl
  ·rw [q1,q2]
   congr 1
end Go.Pq
namespace Go.Pl
structure vP (h:Md) (c:Nat) (o:On):Prop where
 time:o.time≤256
 zero:o.time=0→o.sc=[]∧o.tails=[]∧o.done=[]
 lens:0<o.time→o.sc.length=h.st∧o.tails.length=h.st
 rls:∀x∈o.sc,rl x≤2*o.time*c
 share:∀x∈o.sc,Share x
 dst:∀s∈o.done,s<h.st
 tst:∀l∈o.tails,∀s∈l,s<h.st
 tlen:∀l∈o.tails,l.length≤256
 dlen:o.done.length≤256
 dead:∀i,i<h.st→¬ 0<o.sc.getD i 0→o.tails.getD i []=[]
 live:∀i,i<h.st→0<o.sc.getD i 0→o.done.length+(o.tails.getD i []).length=o.time∧(o.done++o.tails.getD i []).getD (o.time-1) 0=i
 some:0<o.time→∃i,i<h.st∧0<o.sc.getD i 0
 comm:0<o.time→BJ (xR o.sc o.tails h.st)=0
theorem vP.Q8 {h:Md} {c:Nat} {o:On} (H:vP h c o) (hk:rV h c):∀x∈o.sc,rl x≤2 ^ 19:=by
 intro x hx;have h1:=H.rls x hx;have h2:=H.time;have h3:=hk.cc
 have:2*o.time*c≤2*256*2 ^ 10:=Yn (by omega) h3.2
 omega
theorem vk (a b:List Nat):ry a++ry b=ry (a++b):=by simp [ry]
theorem DO (a:List Nat) (n:Nat):(ry a).take n=ry (a.take n):=by simp [ry]
theorem Kg (a:List Nat) (n:Nat):(ry a).drop n=ry (a.drop n):=by simp [ry]
end Go.Pl
namespace Go.Pq
open Go.Pl Go.Proofs
theorem JB (m:List (List Nat)) (hm:m.length≤2 ^ 20) (hf:m.flatten.length≤2 ^ 20):F 118 [.t 59 (uv m)] (zo 1 28) [qH m.flatten]:=by
 refine JS _ _ (fun i=>i.1=(m.take i.2).flatten.length∧i.2≤m.length) (fun i=>m.length-i.2) (fun i=>i.1=ry (m.take i.2.2).flatten∧i.2.2≤m.length) (fun i=>m.length-i.2.2) ?_;rw [uN];refine ⟨⟨(0,0),⟨rfl,WS _⟩,(by and_intros<;>first | exact trivial | rfl | (rw [pt (by omega)];rfl))⟩,fun _=>rfl,?_⟩;rintro ⟨s,k⟩ ⟨hs,hk⟩;dsimp only at hs hk ⊢;have P_:=vh m k;refine ⟨fun h1=>?_,fun h1=>?_⟩
 ·rw [pw] at h1
  have b_:k<m.length:=by omega
  have bQ:=vh m (k+1);rw [rG m b_,WN] at bQ;rw [vK m b_,vX,qZ,pt (by omega)];refine ⟨⟨by omega,by omega⟩,fun q=>(by rw [pw] at q;omega),fun _=>⟨(s+(m.getD k []).length,k+1),⟨by dsimp only;rw [rG m b_,WN,hs],b_⟩,by dsimp only;omega,by and_intros<;>first | exact trivial | rfl | (rw [pt (by omega)];rfl)⟩⟩
 ·refine ⟨_,Ka s (by omega),⟨([],s,0),⟨rfl,WS _⟩,(by and_intros<;>first | exact trivial | rfl | (rw [pt (by omega)];rfl))⟩,fun _=>rfl,?_⟩
  rintro ⟨g,s2,j⟩ ⟨hg,hj⟩;dsimp only at hg hj ⊢;subst hg;refine ⟨fun h2=>?_,fun h2=>?_⟩
  ·rw [pw] at h2
   have b_:j<m.length:=by omega
   have bQ:=vh m (j+1);rw [rG m b_,WN] at bQ;rw [vK m b_,vX,vY,pQ,qX,qX];have hr:room=140737488355328:=rfl;refine ⟨⟨by omega,by omega⟩,⟨by rw [hr];omega,by omega⟩,(ry (m.take (j+1)).flatten,s2,j+1),⟨rfl,b_⟩,by dsimp only;omega,?_⟩;rw [rG m b_,←vk];exact (by and_intros<;>first | exact trivial | rfl | (rw [pt (by omega)];rfl))
  ·rw [pF] at h2
   have:j=m.length:=by omega
   subst this;rw [XM,Xc,pQ];exact ⟨a_,rfl,a_⟩
theorem Ao (a b:List Nat) (ha:a.length≤2 ^ 18) (hb:b.length≤2 ^ 18):F 118 [.t 59 (.l [qH a,qH b])] (zo 1 28) [qH (a++b)]:=by
 have:=JB [a,b] (by simp) (by simp;omega)
 have e:[a,b].flatten=a++b:=by simp
 rw [e] at this;exact this
theorem KI (h:Md) (o:On) (l:List Nat) (hl:l.length≤2 ^ 40) (hs:∀s∈l,s<h.st):F 119 [.t 28 (qH l),.t 1 (.f 120 [.e 60 (onT h o)])] (zo 2 4) [.b false]:=by
 have c1:F 158 [.t 28 (qH l),.t 1 (.f 120 [.e 60 (onT h o)])] (zo 2 2) [.i .i64 (-1)]:=by
  refine JX _ _ _ (fun k=>k≤l.length) (fun k=>l.length-k) ?_;rw [qZ];refine ⟨⟨0,WS _,(by and_intros<;>first | exact trivial | rfl | (rw [pt (by omega)];rfl))⟩,fun _=>rfl,?_⟩;intro k hk;refine ⟨fun h1=>?_,fun h1=>⟨a_,rfl,a_⟩⟩;rw [pw] at h1;have b_:k<l.length:=by omega
  have dA:=hs _ (pN (d:=0) b_);rw [sd l b_,r9];refine ⟨⟨by omega,by omega⟩,.b false,⟨rfl,JU _ _ _ ⟨a_,?_,a_⟩⟩,fun q=>(by cases q),fun _=>⟨k+1,b_,by omega,(by and_intros<;>first | exact trivial | rfl | (rw [pt (by omega)];rfl))⟩⟩;rw [TD,pC,pF.2 (by omega),tH.2 (by omega)];rfl
 exact JT _ _ _ ⟨_,c1,a_,rfl,a_⟩
theorem J6 {h:Md} {c:Nat} {o:On} (H:vP h c o) {i:Nat} (hi:i<h.st) (hz:0<o.time) (ha:0<o.sc.getD i 0):F 70 [.t 60 (onT h o),.t 2 (.i .i64 (i:Int))] (zo 2 4) [.b true]:=by
 obtain ⟨h1,h2⟩:=H.live i hi ha;have h3:=H.time;have h4:=(H.lens hz).2;have b_:i<o.tails.length:=by omega
 refine NW _ _ _ ?_;rw [zM,uN,pC,vK _ b_,vX,CM,xm];have c1:=Ao o.done (o.tails.getD i []) (by omega) (by omega);have i_:(o.done++o.tails.getD i []).length=o.time:=by rw [WN];omega
 refine ⟨⟨by omega,by omega⟩,_,c1,?_⟩;rw [qZ,i_,wr,qm (by omega),show ((o.time:Int)-1)=((o.time-1:Nat):Int) from by omega,sd _ (by omega),r9,pC,h2,wr];refine ⟨fun _=>⟨by omega,by omega⟩,.b false,fun _=>KI h o _ (by omega) fun s hs=>?_,a_,rfl,a_⟩
 rcases W2.1 hs with q | q
 ·exact H.dst s q
 ·exact H.tst _ (pN b_) s q
theorem yi {h:Md} {c:Nat} {o:On} (hk:rV h c) (H:vP h c o):F 34 [.t 60 (onT h o)] (zo 1 4) [.b true]:=by
 have ht:=H.time;have z_:=hk.st;have hr:=H.Q8 hk;refine DB _ _ (fun i=>i.2≤h.st∧(i.1=true∨∀j,j<i.2→¬ 0<o.sc.getD j 0)) (fun i=>h.st-i.2) ?_;rw [Ky,AS,xm,MF,zM,CM,qj,uN,qZ,TD];refine ⟨_,vA h c hk,fun q=>?_,fun _=>⟨fun h0=>?_,fun h0=>?_⟩⟩
 ·exfalso
  rw [pF.2 (by omega),pF.2 (by omega)] at q;cases q
 ·rw [qe] at h0
  obtain ⟨z1,z2,z3⟩:=H.zero (by omega);rw [z1,z2,z3];exact ⟨a_,rfl,a_⟩
 ·rw [rk] at h0
  have hz:0<o.time:=by omega
  obtain ⟨l1,l2⟩:=H.lens hz;rw [l1,l2,rT];refine ⟨fun q=>(by cases q),fun _=>⟨⟨(false,0),⟨WS _,.inr fun j hj=>by omega⟩,(by and_intros<;>first | exact trivial | rfl | (rw [pt (by omega)];rfl))⟩,fun _=>rfl,?_⟩⟩;rintro ⟨s,k⟩ ⟨aR,hs⟩;dsimp only at aR hs ⊢;refine ⟨fun h1=>?_,fun h1=>?_⟩
  ·rw [pw] at h1
   have b_:k<h.st:=by omega
   have hm:=pN (d:=(0:Rat)) (show k<o.sc.length by omega);have ph:=hr _ hm;rw [sQ _ (show k<o.sc.length by omega),vK _ (show k<o.tails.length by omega),vX,qZ];refine ⟨⟨by omega,by omega⟩,_,Lf _ (by omega) (H.share _ hm),fun q=>(by cases q),fun _=>⟨_,Cl h o k (by omega) (by omega) (by omega),fun q=>?_,fun q=>?_⟩⟩
   ·have h3:0<o.sc.getD k 0:=by
     have:decide (0<o.sc.getD k 0)=true:=q
     simpa using this
    exact ⟨_,J6 H b_ hz h3,fun q=>(by cases q),fun _=>⟨(true,k+1),⟨b_,.inl rfl⟩,by dsimp only;omega,(by and_intros<;>first | exact trivial | rfl | (rw [pt (by omega)];rfl))⟩⟩
   ·have h3:¬ 0<o.sc.getD k 0:=by
     have:decide (0<o.sc.getD k 0)=false:=q
     simpa using this
    rw [H.dead k b_ h3];refine ⟨⟨by omega,by omega⟩,fun q=>(by cases q),fun _=>⟨(s,k+1),⟨b_,?_⟩,by dsimp only;omega,(by and_intros<;>first | exact trivial | rfl | (rw [pt (by omega)];rfl))⟩⟩
    rcases hs with hs | hs
    ·exact .inl hs
    ·refine .inr fun j hj=>?_
     dsimp only at hj
     by_cases e:j=k
     ·subst e;exact h3
     ·exact hs j (by omega)
  ·rw [pF] at h1
   have cJ:k=h.st:=by omega
   obtain ⟨j,hj,oz⟩:=H.some hz;have bj:s=true:=by
    rcases hs with hs | hs
    ·exact hs
    ·exact absurd oz (hs j (by omega))
   subst bj;have c1:=Cw h o o.tails (by omega) (by omega) (fun p hp=>by have:=H.tlen p hp;omega) (fun q hq=>by have:=hr q hq;omega);rw [l2,H.comm hz] at c1;exact ⟨_,fun _=>c1,a_,rfl,a_⟩
end Go.Pq
namespace Go.Pl
def better (p b:Rat) (t u:List Nat):Bool:=decide (b<p) || ((decide (p=b) && decide (0<p)) && decide (F8 t u<0))
def tl:Option (List Nat)→List Nat
 | some t=>t
 | none=>[]
def Oj (d:List Nat):Option (List Nat)→List Nat
 | some t=>d++t
 | none=>[]
def qx (h:Md) (o:On) (j:Nat):Nat→Rat×Option (List Nat)
 | 0=>(if o.time=0 then h.init.getD j 0 else 0,none)
 | i+1 =>
  if better (o.sc.getD i 0*(h.trans.getD i []).getD j 0) (qx h o j i).1 (o.tails.getD i []) (tl (qx h o j i).2) then (o.sc.getD i 0*(h.trans.getD i []).getD j 0,some (o.tails.getD i [])) else qx h o j i
def Bq (h:Md) (o:On) (j:Nat):Rat×Option (List Nat):=qx h o j o.sc.length
def rn (h:Md) (o:On) (s j:Nat):Rat:=(Bq h o j).1*(h.emit.getD j []).getD (s-1) 0
def pU (h:Md) (o:On) (s j:Nat):List Nat:=if 0<rn h o s j then tl (Bq h o j).2++[j] else []
def Kv (h:Md) (o:On) (s j:Nat):List Nat:=if 0<rn h o s j then Oj o.done (Bq h o j).2++[j] else []
def scN (h:Md) (o:On) (s k:Nat):List Rat:=(List.range k).map (rn h o s)
def tlN (h:Md) (o:On) (s k:Nat):List (List Nat):=(List.range k).map (pU h o s)
def lvN (h:Md) (o:On) (s:Nat):List (List Nat):=xR (scN h o s h.st) (tlN h o s h.st) h.st
def zu (h:Md) (o:On) (s:Nat):Nat:=BJ (lvN h o s)
def sI (h:Md) (o:On) (s:Nat):List Nat:=((lvN h o s).headD []).take (zu h o s)
def FN (h:Md) (o:On) (s:Nat):Bool:=decide (∃j,j<h.st∧0<rn h o s j)
def zA (h:Md) (o:On) (s:Nat):On:=⟨o.time+1,scN h o s h.st,(tlN h o s h.st).map (List.drop (zu h o s)),o.done++sI h o s⟩
theorem sa {α:Type} (f:Nat→α) (d:α) {n i:Nat} (h:i<n):((List.range n).map f).getD i d=f i:=by
 rw [WM,Xs,Yl h];rfl
theorem Bl {a b:Rat} (ha:Share a) (hb:Share b):Share (a*b) :=
 ⟨Rat.mul_nonneg ha.1 hb.1,by
  have h1:=Rat.mul_le_mul_of_nonneg_left hb.2 ha.1;rw [Rat.mul_one] at h1;exact Rat.le_trans h1 ha.2⟩
theorem yZ:Share 0:=⟨by decide,by decide⟩
theorem B3 {a b:Rat} (ha:0≤a) (hb:0≤b) (h:0<a*b):0<a∧0<b:=by
 constructor
 ·rcases ZW.1 ha with q | q
  ·exact q
  ·rw [←q,Rat.zero_mul] at h;exact absurd h YZ
 ·rcases ZW.1 hb with q | q
  ·exact q
  ·rw [←q,Rat.mul_zero] at h;exact absurd h YZ
section
variable {h:Md} {c:Nat} {o:On} (hk:rV h c) (H:vP h c o)
include hk H
theorem vP.EE {j:Nat} (hj:j<h.st):∀i,i≤o.sc.length→Share (qx h o j i).1∧rl (qx h o j i).1≤2*o.time*c+c ∧
  (((qx h o j i).2=none∧(0<o.time→(qx h o j i).1=0))∨∃m,m<i∧m<h.st∧0<o.sc.getD m 0∧(qx h o j i).2=Option.some (o.tails.getD m [])):=by
 intro i
 induction i with
 | zero =>
  intro _;unfold qx
  by_cases hz:o.time=0
  ·rw [WY hz]
   have:=hk.q1 _ (pN (d:=(0:Rat)) (show j<h.init.length by have:=hk.init;omega))
   exact ⟨this.2,by have:=this.1;show rl (h.init.getD j 0)≤_;omega,.inl ⟨rfl,fun q=>by omega⟩⟩
  ·rw [WZ hz]
   refine ⟨yZ,?_,.inl ⟨rfl,fun _=>rfl⟩⟩
   have:=hk.cc.1
   show rl 0≤_
   rw [Be];omega
 | succ i ih =>
  intro hi;obtain ⟨h1,h2,h3⟩:=ih (by omega);have hz:0<o.time:=by
   rcases XT o.time with q | q
   ·rw [(H.zero q).1] at hi;simp at hi
   ·exact q
  have hl:=(H.lens hz).1;have hm:=pN (d:=(0:Rat)) (show i<o.sc.length by omega);have dv:=H.share _ hm;have aS:=hk.trq (show i<h.st by omega) _ (pN (d:=(0:Rat)) (show j<(h.trans.getD i []).length by rw [hk.trl (by omega)];exact hj));have hr:=Eb (o.sc.getD i 0) ((h.trans.getD i []).getD j 0);have gB:=H.rls _ hm;unfold qx
  by_cases hb:better (o.sc.getD i 0*(h.trans.getD i []).getD j 0) (qx h o j i).1 (o.tails.getD i []) (tl (qx h o j i).2)=true
  ·rw [WY hb]
   have hp:0<o.sc.getD i 0*(h.trans.getD i []).getD j 0:=by
    unfold better at hb;rw [Yv,XG,XG,Xo,Xo,Xo] at hb
    rcases hb with q | q
    ·exact Rat.not_le.1 fun P_=>absurd (Rat.le_trans P_ h1.1) (Rat.not_le.2 q)
    ·exact q.1.2
   refine ⟨Bl dv aS.2,by have:=aS.1;show rl (o.sc.getD i 0*(h.trans.getD i []).getD j 0)≤_;omega,.inr ⟨i,by omega,by omega,(B3 dv.1 aS.2.1 hp).1,rfl⟩⟩
  ·rw [WZ hb]
   refine ⟨h1,h2,?_⟩
   rcases h3 with q | ⟨m,q1,q2⟩
   ·exact .inl q
   ·exact .inr ⟨m,by omega,q2⟩
theorem vP.K6 {s j:Nat} (hs:1≤s∧s≤h.sym) (hj:j<h.st):Share (rn h o s j)∧rl (rn h o s j)≤2*(o.time+1)*c∧rl (Bq h o j).1≤2 ^ 20:=by
 obtain ⟨h1,h2,-⟩:=H.EE hk hj o.sc.length (WU _);have he:=hk.emq hj _ (pN (d:=(0:Rat)) (show s-1<(h.emit.getD j []).length by rw [hk.eml hj];omega));have hr:=Eb (Bq h o j).1 ((h.emit.getD j []).getD (s-1) 0);have h3:=H.time;have h4:=hk.cc;have h5:2*o.time*c≤2*256*2 ^ 10:=Yn (by omega) h4.2;have h6:2*(o.time+1)*c=2*o.time*c+2*c:=by rw [Yh,Xe]
 have ll:rl (Bq h o j).1≤2*o.time*c+c:=h2;refine ⟨Bl h1 he.2,?_,by omega⟩
 have:rl (rn h o s j)≤rl (Bq h o j).1+rl ((h.emit.getD j []).getD (s-1) 0):=hr
 have:=he.1
 omega
theorem vP.path {s j:Nat} (hs:1≤s∧s≤h.sym) (hj:j<h.st) (hp:0<rn h o s j) :
  Kv h o s j=o.done++pU h o s j∧o.done.length+(pU h o s j).length=o.time+1∧(o.done++pU h o s j).getD o.time 0=j∧∀x∈pU h o s j,x<h.st:=by
 obtain ⟨h1,-,h3⟩:=H.EE hk hj o.sc.length (WU _);have he:=hk.emq hj _ (pN (d:=(0:Rat)) (show s-1<(h.emit.getD j []).length by rw [hk.eml hj];omega));have hb:=(B3 h1.1 he.2.1 hp).1;unfold Kv pU;rw [WY hp,WY hp];have last:∀(d t:List Nat),d.length+t.length=o.time→(d++(t++[j])).getD o.time 0=j:=by
  intro d t hl;rw [←W7,WM,Xf (by rw [WN];omega),WN,hl,Yp];rfl
 rcases h3 with ⟨q1,q2⟩ | ⟨m,-,q2,q3,q4⟩
 ·have hz:o.time=0:=by
   rcases XT o.time with q | q
   ·exact q
   ·rw [q2 q] at hb;exact absurd hb YZ
  obtain ⟨-,-,z3⟩:=H.zero hz;have q1':(Bq h o j).2=none:=q1;rw [q1',z3];refine ⟨rfl,by simp [tl];omega,last [] [] (by simp [hz]),?_⟩;intro x hx;simp [tl] at hx;omega
 ·have q4':(Bq h o j).2=Option.some (o.tails.getD m []):=q4
  have hz:0<o.time:=by
   rcases XT o.time with q | q
   ·rw [(H.zero q).1] at q3;exact absurd q3 YZ
   ·exact q
  obtain ⟨q5,-⟩:=H.live m q2 q3;rw [q4'];refine ⟨by simp [tl,Oj],by simp only [tl,WN,W4,YH];omega,last _ _ q5,?_⟩;intro x hx
  rcases W2.1 hx with q | q
  ·exact H.tst _ (pN (by have:=(H.lens hz).2;omega)) x q
  ·simp at q;omega
theorem vP.Tw {s:Nat} {p:List Nat}:p∈lvN h o s↔∃i,i<h.st∧0<rn h o s i∧p=pU h o s i:=by
 unfold lvN;rw [Kp]
 constructor
 ·rintro ⟨i,h1,h2,h3⟩
  unfold scN at h2;unfold tlN at h3;rw [sa _ _ h1] at h2 h3;exact ⟨i,h1,h2,h3⟩
 ·rintro ⟨i,h1,h2,h3⟩
  refine ⟨i,h1,?_,?_⟩
  ·unfold scN;rw [sa _ _ h1];exact h2
  ·unfold tlN;rw [sa _ _ h1];exact h3
theorem vP.commit {s i:Nat} (hi:i<h.st) (hp:0<rn h o s i):sI h o s=(pU h o s i).take (zu h o s)∧zu h o s≤(pU h o s i).length:=by
 have hm:pU h o s i∈lvN h o s:=(H.Tw hk).2 ⟨i,hi,hp,rfl⟩;refine ⟨?_,Gb _ hm⟩;unfold sI zu
 cases hl:lvN h o s with
 | nil=>rw [hl] at hm;cases hm
 | cons f r =>
  rw [hl] at hm;exact JA (by simp) hm
theorem vP.Q4 {s:Nat} (hs:1≤s∧s≤h.sym) (ht:o.time<256) (ha:FN h o s=true):vP h c (zA h o s):=by
 have scAt:∀{i},i<h.st→(zA h o s).sc.getD i 0=rn h o s i:=fun {i} hi=>sa _ _ hi;have tlAt:∀{i},i<h.st→(zA h o s).tails.getD i []=(pU h o s i).drop (zu h o s):=by
  intro i hi
  show ((tlN h o s h.st).map _).getD i []=_
  unfold tlN;rw [Yo];exact sa (fun j=>(pU h o s j).drop (zu h o s)) _ hi
 have full:∀{i},i<h.st→0<rn h o s i→(zA h o s).done++(zA h o s).tails.getD i []=o.done++pU h o s i:=by
  intro i hi hp;rw [tlAt hi]
  show o.done++sI h o s++_=_
  rw [(H.commit hk hi hp).1,W7,YT]
 obtain ⟨j0,eF,dD⟩:=Xd ha;have sc_mem:∀x∈(zA h o s).sc,∃i,i<h.st∧x=rn h o s i:=by
  intro x hx;obtain ⟨i,hi,rfl⟩:=Xw.1 hx;exact ⟨i,XJ.1 hi,rfl⟩
 have tl_mem:∀x∈(zA h o s).tails,∃i,i<h.st∧x=(pU h o s i).drop (zu h o s):=by
  intro x hx;obtain ⟨t,ht,rfl⟩:=Xw.1 hx;obtain ⟨i,hi,rfl⟩:=Xw.1 ht;exact ⟨i,XJ.1 hi,rfl⟩
 have tlen:∀{i},i<h.st→(pU h o s i).length≤256:=by
  intro i hi
  by_cases hp:0<rn h o s i
  ·have:=(H.path hk hs hi hp).2.1;omega
  ·unfold pU;rw [WZ hp];simp
 have tst:∀{i},i<h.st→∀x∈pU h o s i,x<h.st:=by
  intro i hi
  by_cases hp:0<rn h o s i
  ·exact (H.path hk hs hi hp).2.2.2
  ·unfold pU;rw [WZ hp];intro x hx;cases hx
 have cI:(sI h o s).length≤(pU h o s j0).length:=by
  rw [(H.commit hk eF dD).1,Xg];omega
 have eW:=(H.path hk hs eF dD).2.1;refine ⟨?_,?_,?_,?_,?_,?_,?_,?_,?_,?_,?_,?_,?_⟩
 ·show o.time+1≤256;omega
 ·intro q;exact absurd q (Nat.succ_ne_zero _)
 ·intro _
  exact ⟨by show ((List.range h.st).map _).length=_;simp,by show ((tlN h o s h.st).map _).length=_;unfold tlN;simp⟩
 ·intro x hx
  obtain ⟨i,hi,rfl⟩:=sc_mem x hx;exact (H.K6 hk hs hi).2.1
 ·intro x hx
  obtain ⟨i,hi,rfl⟩:=sc_mem x hx;exact (H.K6 hk hs hi).1
 ·intro x hx
  rcases W2.1 hx with q | q
  ·exact H.dst x q
  ·rw [(H.commit hk eF dD).1] at q
   exact tst eF x (ZU q)
 ·intro l hl x hx
  obtain ⟨i,hi,rfl⟩:=tl_mem l hl;exact tst hi x (List.mem_of_mem_drop hx)
 ·intro l hl
  obtain ⟨i,hi,rfl⟩:=tl_mem l hl
  have:=tlen hi
  rw [Xi];omega
 ·show (o.done++sI h o s).length≤256
  rw [WN];omega
 ·intro i hi hd
  rw [scAt hi] at hd;rw [tlAt hi];unfold pU;rw [WZ hd];simp
 ·intro i hi hp
  rw [scAt hi] at hp;obtain ⟨-,p2,p3,-⟩:=H.path hk hs hi hp;rw [full hi hp,←WN,full hi hp,WN];exact ⟨p2,p3⟩
 ·intro _
  exact ⟨j0,eF,by rw [scAt eF];exact dD⟩
 ·intro _
  have e:xR (zA h o s).sc (zA h o s).tails h.st=(lvN h o s).map (List.drop (zu h o s)):=by
   unfold lvN xR;rw [Yo];apply Yu;intro i hi;have cC:i<h.st:=XJ.1 (Y0.1 hi).1;rw [tlAt cC]
   show _=List.drop _ ((tlN h o s h.st).getD i [])
   unfold tlN;rw [sa _ _ cC]
  rw [e];exact Jy _
end
theorem TC (h:Md) (c:Nat):vP h c on0:=by
 refine ⟨WS _,fun _=>⟨rfl,rfl,rfl⟩,fun q=>absurd q (ZC _),?_,?_,?_,?_,?_,WS _,?_,?_,fun q=>absurd q (ZC _),fun q=>absurd q (ZC _)⟩
 ·intro x hx;cases hx
 ·intro x hx;cases hx
 ·intro x hx;cases hx
 ·intro x hx;cases hx
 ·intro x hx;cases hx
 ·intro i _ _;rfl
 ·intro i _ q;exact absurd q YZ
end Go.Pl
namespace Go.Pq
open Go.Pl Go.Proofs
def Vq:Ctx:=⟨tab,sigs,185,[0,1,2,4,5,6,7,8,9,10,11,12,13,14,15,16,17,18,19,20,21,26,57,58,70,71,72,154,155,156],[cell 8 12,cell 8 13,fld 55 15 12,fld 55 15 13,pp 55,pp 133,pp 149,pp 161],[(62,⟨[true],[],[]⟩)],[],[],[]⟩
theorem JV (a0:T) (a1:T) (y0:T) (y1:T) (y2:T) (I0:X9→Prop) (M0:X9→Nat) (I1:X9→T→Prop) (I2:X9→T→X8→Prop) (M2:X9→T→X8→Nat) (I3:X10→Prop) (M3:X10→Nat) (h:∃y:T,F 34 [.t 60 (G15 a0)] (zo 1 4) [y]∧((!y.bool)=true→True∧T.g [kI 0,kI 0,T.b false,T.l [],T.l [],T.l [],T.l [],T.l [],T.l [],T.l [],T.l [],kI 0,T.l [],T.l [],T.l []]=y0∧T.l []=y1∧kI 4=y2∧True)∧((!y.bool)=false→((T.ite (T.ite (ltI a1.int 1) (T.b true) (T.b (ltI (a0.cell 0).int a1.int))).bool (T.b true) (T.b (eqI (a0.cell 11).int (256:Int)))).bool=true→True∧T.g [kI 0,kI 0,T.b false,T.l [],T.l [],T.l [],T.l [],T.l [],T.l [],T.l [],T.l [],kI 0,T.l [],T.l [],T.l []]=y0∧T.l []=y1∧kI 1=y2∧True)∧((T.ite (T.ite (ltI a1.int 1) (T.b true) (T.b (ltI (a0.cell 0).int a1.int))).bool (T.b true) (T.b (eqI (a0.cell 11).int (256:Int)))).bool=false→∃y:T,F 59 [.t 29 (G11 a0)] (zo 1 29) [y]∧(0≤(y.cell 1).int∧(y.cell 1).int≤(y.cell 1).int∧(↑56:Int)*(y.cell 1).int≤(281474976710656:Int)∧(y.cell 1).int≤(9223372036854775807:Int))∧(0≤(y.cell 1).int∧(y.cell 1).int≤(y.cell 1).int∧(↑24:Int)*(y.cell 1).int≤(281474976710656:Int)∧(y.cell 1).int≤(9223372036854775807:Int))∧(∃(i:X9),I0 i∧R27 a0 a1 (E11 y i.1 (True∧E11 y i.1 (kI (pL .i64 (a0.cell 11).int (1:Int))=kI (pL .i64 (a0.cell 11).int (1:Int))∧List.replicate (y.cell 1).int.toNat (T.g [T.b false,T.l [],T.l []])=i.2.1∧List.replicate (y.cell 1).int.toNat (T.l [])=i.2.2.1∧T.l []=T.l []∧T.b false=T.b i.2.2.2.1∧y.cell 1=i.1.cell 1∧kI 0=kI ↑i.2.2.2.2∧True))))∧(∀(i:X9),true=true)∧∀(i:X9),I0 i→(ltI ↑i.2.2.2.2 (i.1.cell 1).int=true→((eqI (a0.cell 11).int (0:Int)=true→(Bd ↑i.2.2.2.2 (lenOf (i.1.cell 5).list))∧∃i_1:T,I1 i i_1∧R28 a0 a1 i.1 i.2.1 i.2.2.1 i.2.2.2.1 i.2.2.2.2 (E3 (((i.1.cell 5).list.getD (↑i.2.2.2.2:Int).toNat T.u).part 0 3) i_1 (True)))∧(eqI (a0.cell 11).int (0:Int)=false→∃i_1:T,I1 i i_1∧R28 a0 a1 i.1 i.2.1 i.2.2.1 i.2.2.2.1 i.2.2.2.2 (T.b false=i_1.cell 0∧T.l []=i_1.cell 1∧T.l []=i_1.cell 2∧True)))∧(∀i:T,true=true)∧∀i_1:T,I1 i i_1→(∃(i_2:X8),I2 i i_1 i_2∧R29 a0 a1 i.1 i.2.1 i.2.2.1 i.2.2.2.1 i.2.2.2.2 (T.l []=i_2.2.1∧E3 i_1 i_2.1 (R25 a0 (kI 0=kI ↑i_2.2.2∧True))))∧(∀(i:X8),true=true)∧∀(i_2:X8),I2 i i_1 i_2→(ltI ↑i_2.2.2 (lenOf (a0.cell 12).list)=true→(Bd ↑i_2.2.2 (lenOf (a0.cell 12).list))∧(Bd ↑i_2.2.2 (lenOf (i.1.cell 6).list))∧(Bd ↑i.2.2.2.2 (lenOf (((i.1.cell 6).list.getD (↑i_2.2.2:Int).toNat T.u).cell 0).list))∧∃y:T,F 166 [.t 23 (G3 (((a0.cell 12).list.getD (↑i_2.2.2:Int).toNat T.u).part 0 3)),.t 23 (((((i.1.cell 6).list.getD (↑i_2.2.2:Int).toNat T.u).cell 0).list.getD (↑i.2.2.2.2:Int).toNat T.u).part 0 3)] (zo 2 23) [y]∧∃y_1:T,F 117 [.t 23 (G3 y),.t 23 (G3 i_2.1)] (zo 2 2) [y_1]∧∃y_2:T,(ltI 0 y_1.int=false∧eqI y_1.int 0=true∧True→F 116 [.t 23 (G3 y)] (zo 1 2) [y_2])∧(ltI 0 y_1.int=false∧(T.ite (eqI y_1.int 0) (T.b (ltI 0 y_2.int)) (T.b false)).bool=true∧True→0≤(↑i_2.2.2:Int)∧(↑i_2.2.2:Int)<lenOf (a0.cell 13).list)∧∃y_3:T,(ltI 0 y_1.int=false∧(T.ite (eqI y_1.int 0) (T.b (ltI 0 y_2.int)) (T.b false)).bool=true∧True→F 167 [.t 28 (((a0.cell 13).list.getD (↑i_2.2.2:Int).toNat T.u).cell 0),.t 28 i_2.2.1] (zo 2 2) [y_3])∧((T.ite (ltI 0 y_1.int) (T.b true) (T.ite (T.ite (eqI y_1.int 0) (T.b (ltI 0 y_2.int)) (T.b false)).bool (T.b (ltI y_3.int 0)) (T.b false))).bool=true→(Bd ↑i_2.2.2 (lenOf (a0.cell 13).list))∧∃(j:X8),I2 i i_1 j∧M2 i i_1 j<M2 i i_1 i_2∧R29 a0 a1 i.1 i.2.1 i.2.2.1 i.2.2.2.1 i.2.2.2.2 (((a0.cell 13).list.getD (↑i_2.2.2:Int).toNat T.u).cell 0=j.2.1∧E3 y j.1 (R25 a0 (kI (pL .i64 ↑i_2.2.2 1)=kI ↑j.2.2∧True))))∧((T.ite (ltI 0 y_1.int) (T.b true) (T.ite (T.ite (eqI y_1.int 0) (T.b (ltI 0 y_2.int)) (T.b false)).bool (T.b (ltI y_3.int 0)) (T.b false))).bool=false→∃(j:X8),I2 i i_1 j∧M2 i i_1 j<M2 i i_1 i_2∧R29 a0 a1 i.1 i.2.1 i.2.2.1 i.2.2.2.1 i.2.2.2.2 (i_2.2.1=j.2.1∧E3 i_2.1 j.1 (R25 a0 (kI (pL .i64 ↑i_2.2.2 1)=kI ↑j.2.2∧True)))))∧(ltI ↑i_2.2.2 (lenOf (a0.cell 12).list)=false→(Bd ↑i.2.2.2.2 (lenOf (i.1.cell 8).list))∧(Bd (qc .i64 a1.int 1) (lenOf (((i.1.cell 8).list.getD (↑i.2.2.2.2:Int).toNat T.u).cell 0).list))∧∃y:T,F 166 [.t 23 (G3 i_2.1),.t 23 (((((i.1.cell 8).list.getD (↑i.2.2.2.2:Int).toNat T.u).cell 0).list.getD (qc .i64 a1.int 1).toNat T.u).part 0 3)] (zo 2 23) [y]∧(Bd ↑i.2.2.2.2 (↑i.2.1.length:Int))∧∃y_1:T,F 69 [.t 60 (T.g [i.1.cell 0,i.1.cell 1,i.1.cell 2,i.1.cell 3,i.1.cell 4,i.1.cell 5,i.1.cell 6,i.1.cell 7,i.1.cell 8,i.1.cell 9,i.1.cell 10,kI (pL .i64 (a0.cell 11).int (1:Int)),T.l (List.take (i.2.1.set (0+(↑i.2.2.2.2:Int).toNat) ((((i.2.1.getD (0+(↑i.2.2.2.2:Int).toNat) T.u).setCell 0 (y.cell 0)).setCell 1 (y.cell 1)).setCell 2 (y.cell 2))).length (List.drop 0 (i.2.1.set (0+(↑i.2.2.2.2:Int).toNat) ((((i.2.1.getD (0+(↑i.2.2.2.2:Int).toNat) T.u).setCell 0 (y.cell 0)).setCell 1 (y.cell 1)).setCell 2 (y.cell 2))))),T.l (List.take i.2.2.1.length (List.drop 0 i.2.2.1)),T.l []]),.t 2 (kI ↑i.2.2.2.2)] (zo 2 4) [y_1]∧(y_1.bool=true→∃y_2:T,F 62 [.t 28 i_2.2.1] (zw 1 28) [y_2]∧(Rm (y_2.list.length+((List.replicate 1 (kI 0)).set 0 (kI ↑i.2.2.2.2)).length) 8)∧(Bd ↑i.2.2.2.2 (↑i.2.2.1.length:Int))∧∃(j:X9),I0 j∧M0 j<M0 i∧R27 a0 a1 (E11 i.1 j.1 (True∧E11 i.1 j.1 (kI (pL .i64 (a0.cell 11).int (1:Int))=kI (pL .i64 (a0.cell 11).int (1:Int))∧i.2.1.set (0+(↑i.2.2.2.2:Int).toNat) ((((i.2.1.getD (0+(↑i.2.2.2.2:Int).toNat) T.u).setCell 0 (y.cell 0)).setCell 1 (y.cell 1)).setCell 2 (y.cell 2))=j.2.1∧i.2.2.1.set (0+(↑i.2.2.2.2:Int).toNat) (T.l (y_2.list++(List.replicate 1 (kI 0)).set 0 (kI ↑i.2.2.2.2)))=j.2.2.1∧T.l []=T.l []∧T.b true=T.b j.2.2.2.1∧i.1.cell 1=j.1.cell 1∧kI (pL .i64 ↑i.2.2.2.2 1)=kI ↑j.2.2.2.2∧True))))∧(y_1.bool=false→∃(j:X9),I0 j∧M0 j<M0 i∧R27 a0 a1 (E11 i.1 j.1 (True∧E11 i.1 j.1 (kI (pL .i64 (a0.cell 11).int (1:Int))=kI (pL .i64 (a0.cell 11).int (1:Int))∧i.2.1.set (0+(↑i.2.2.2.2:Int).toNat) ((((i.2.1.getD (0+(↑i.2.2.2.2:Int).toNat) T.u).setCell 0 (y.cell 0)).setCell 1 (y.cell 1)).setCell 2 (y.cell 2))=j.2.1∧i.2.2.1=j.2.2.1∧T.l []=T.l []∧T.b i.2.2.2.1=T.b j.2.2.2.1∧i.1.cell 1=j.1.cell 1∧kI (pL .i64 ↑i.2.2.2.2 1)=kI ↑j.2.2.2.2∧True))))))∧(ltI ↑i.2.2.2.2 (i.1.cell 1).int=false→((!i.2.2.2.1)=true→True∧T.g [kI 0,kI 0,T.b false,T.l [],T.l [],T.l [],T.l [],T.l [],T.l [],T.l [],T.l [],kI 0,T.l [],T.l [],T.l []]=y0∧T.l []=y1∧kI 11=y2∧True)∧((!i.2.2.2.1)=false→∃y:T,F 71 [.t 60 (T.g [i.1.cell 0,i.1.cell 1,i.1.cell 2,i.1.cell 3,i.1.cell 4,i.1.cell 5,i.1.cell 6,i.1.cell 7,i.1.cell 8,i.1.cell 9,i.1.cell 10,kI (pL .i64 (a0.cell 11).int (1:Int)),T.l (List.take i.2.1.length (List.drop 0 i.2.1)),T.l (List.take i.2.2.1.length (List.drop 0 i.2.2.1)),T.l []]),.t 59 (T.l (List.take i.2.2.1.length (List.drop 0 i.2.2.1)))] (zo 2 2) [y]∧(∃(i_1:X10),I3 i_1∧R27 a0 a1 (E11 i.1 i_1.1 (kI (pL .i64 (a0.cell 11).int (1:Int))=kI (pL .i64 (a0.cell 11).int (1:Int))∧i.2.1=i_1.2.1∧i.2.2.1=i_1.2.2.1∧T.l []=T.l []∧y=kI ↑i_1.2.2.2.2.1∧T.l []=i_1.2.2.2.1∧kI ↑i.2.2.1.length=kI ↑i_1.2.2.1.length∧kI 0=kI ↑i_1.2.2.2.2.2∧i.2.2.1.length=i_1.2.2.1.length∧True)))∧(∀(i:X10),true=true)∧∀(i:X10),I3 i→(ltI ↑i.2.2.2.2.2 ↑i.2.2.1.length=true→(Bd ↑i.2.2.2.2.2 (↑i.2.2.1.length:Int))∧∃y:T,F 69 [.t 60 (T.g [i.1.cell 0,i.1.cell 1,i.1.cell 2,i.1.cell 3,i.1.cell 4,i.1.cell 5,i.1.cell 6,i.1.cell 7,i.1.cell 8,i.1.cell 9,i.1.cell 10,kI (pL .i64 (a0.cell 11).int (1:Int)),T.l (List.take i.2.1.length (List.drop 0 i.2.1)),T.l (List.take i.2.2.1.length (List.drop 0 i.2.2.1)),T.l []]),.t 2 (kI ↑i.2.2.2.2.2)] (zo 2 4) [y]∧(y.bool=true→(0≤(0:Int)∧0≤(↑i.2.2.2.2.1:Int)∧(↑i.2.2.2.2.1:Int)≤lenOf ((i.2.2.1.getD (0+(↑i.2.2.2.2.2:Int).toNat) T.u).cell 0).list)∧∃y:T,F 62 [.t 28 (T.l (List.take ((↑i.2.2.2.2.1:Int)-(0:Int)).toNat (List.drop 0 ((i.2.2.1.getD (0+(↑i.2.2.2.2.2:Int).toNat) T.u).cell 0).list)))] (zw 1 28) [y]∧(0≤(↑i.2.2.2.2.1:Int)∧(↑i.2.2.2.2.1:Int)≤lenOf ((i.2.2.1.getD (0+(↑i.2.2.2.2.2:Int).toNat) T.u).cell 0).list∧lenOf ((i.2.2.1.getD (0+(↑i.2.2.2.2.2:Int).toNat) T.u).cell 0).list≤lenOf ((i.2.2.1.getD (0+(↑i.2.2.2.2.2:Int).toNat) T.u).cell 0).list)∧∃y_1:T,F 62 [.t 28 (T.l (List.take (lenOf ((i.2.2.1.getD (0+(↑i.2.2.2.2.2:Int).toNat) T.u).cell 0).list-(↑i.2.2.2.2.1:Int)).toNat (List.drop (↑i.2.2.2.2.1:Int).toNat ((i.2.2.1.getD (0+(↑i.2.2.2.2.2:Int).toNat) T.u).cell 0).list)))] (zw 1 28) [y_1]∧(Bd ↑i.2.2.2.2.2 (↑i.2.2.1.length:Int))∧∃(j:X10),I3 j∧M3 j<M3 i∧R27 a0 a1 (E11 i.1 j.1 (kI (pL .i64 (a0.cell 11).int (1:Int))=kI (pL .i64 (a0.cell 11).int (1:Int))∧i.2.1=j.2.1∧i.2.2.1.set (0+(↑i.2.2.2.2.2:Int).toNat) (T.l y_1.list)=j.2.2.1∧T.l []=T.l []∧kI ↑i.2.2.2.2.1=kI ↑j.2.2.2.2.1∧T.l y.list=j.2.2.2.1∧kI ↑i.2.2.1.length=kI ↑j.2.2.1.length∧kI (pL .i64 ↑i.2.2.2.2.2 1)=kI ↑j.2.2.2.2.2∧i.2.2.1.length=j.2.2.1.length∧True)))∧(y.bool=false→∃(j:X10),I3 j∧M3 j<M3 i∧R27 a0 a1 (E11 i.1 j.1 (kI (pL .i64 (a0.cell 11).int (1:Int))=kI (pL .i64 (a0.cell 11).int (1:Int))∧i.2.1=j.2.1∧i.2.2.1=j.2.2.1∧T.l []=T.l []∧kI ↑i.2.2.2.2.1=kI ↑j.2.2.2.2.1∧i.2.2.2.1=j.2.2.2.1∧kI ↑i.2.2.1.length=kI ↑j.2.2.1.length∧kI (pL .i64 ↑i.2.2.2.2.2 1)=kI ↑j.2.2.2.2.2∧i.2.2.1.length=j.2.2.1.length∧True))))∧(ltI ↑i.2.2.2.2.2 ↑i.2.2.1.length=false→∃y:T,F 118 [.t 59 (T.l (((List.replicate 2 (T.l [])).set 0 (a0.cell 14)).set 1 i.2.2.2.1))] (zo 1 28) [y]∧True∧T.g [i.1.cell 0,i.1.cell 1,i.1.cell 2,i.1.cell 3,i.1.cell 4,i.1.cell 5,i.1.cell 6,i.1.cell 7,i.1.cell 8,i.1.cell 9,i.1.cell 10,kI (pL .i64 (a0.cell 11).int (1:Int)),T.l i.2.1,T.l i.2.2.1,y]=y0∧i.2.2.2.1=y1∧kI 0=y2∧True)))))):F 133 [.t 60 a0,.t 2 a1] Z16 [y0,y1,y2] :=
 p7 Vq (by kernel_rfl) Tryz.func133 (by kernel_rfl) (.two .no (.two .no (.two .no (.two .no (.two .no (.two (.two .no (.lp (fun (ia:X9)=>[(pp 0,AV.t 60 a0),(pp 1,AV.t 2 a1),(pp 2,AV.box 60 0 15)]++bxS 2 a0 0 Y2++[(pp 4,AV.box 60 0 15),(cell 4 0,AV.t 2 (T.i IntKind.i64 (0:Int))),(cell 4 1,AV.t 2 (T.i IntKind.i64 (0:Int))),(cell 4 2,AV.t 4 (T.b false)),(cell 4 3,AV.t 22 (T.l [])),(cell 4 4,AV.t 22 (T.l [])),(cell 4 5,AV.t 25 (T.l [])),(cell 4 6,AV.t 26 (T.l [])),(cell 4 7,AV.t 25 (T.l [])),(cell 4 8,AV.t 26 (T.l [])),(cell 4 9,AV.t 27 (T.l [])),(cell 4 10,AV.t 28 (T.l [])),(cell 4 11,AV.t 2 (T.i IntKind.i64 (0:Int))),(cell 4 12,AV.t 25 (T.l [])),(cell 4 13,AV.t 59 (T.l [])),(cell 4 14,AV.t 28 (T.l [])),(pp 5,AV.t 28 (T.l [])),(pp 6,AV.t 2 (T.i IntKind.i64 (0:Int))),(pp 7,AV.box 29 0 11)]++bxS 7 ia.1 0 Y1++[(pp 8,AV.box 60 0 15)]++bxS 8 ia.1 0 Y1++[(cell 8 11,AV.t 2 (T.i IntKind.i64 (pL IntKind.i64 (a0.cell 11).int (1:Int)))),(cell 8 12,.own 25 0 ia.2.1),(cell 8 13,.own 59 0 ia.2.2.1),(cell 8 14,AV.t 28 (T.l [])),(pp 9,.t 4 (.b ia.2.2.2.1)),(pp 57,.t 2 (ia.1.cell 1)),(pp 58,.t 2 (.i .i64 (ia.2.2.2.2:Int)))]) I0 M0 (fun (ia:X9)=>(.two .no (.two .no (.two (.two .no (.two .no (.two .no (.cut (fun (ib:T)=>[(pp 0,AV.t 60 a0),(pp 1,AV.t 2 a1),(pp 2,AV.box 60 0 15)]++bxS 2 a0 0 Y2++[(pp 4,AV.box 60 0 15),(cell 4 0,AV.t 2 (T.i IntKind.i64 (0:Int))),(cell 4 1,AV.t 2 (T.i IntKind.i64 (0:Int))),(cell 4 2,AV.t 4 (T.b false)),(cell 4 3,AV.t 22 (T.l [])),(cell 4 4,AV.t 22 (T.l [])),(cell 4 5,AV.t 25 (T.l [])),(cell 4 6,AV.t 26 (T.l [])),(cell 4 7,AV.t 25 (T.l [])),(cell 4 8,AV.t 26 (T.l [])),(cell 4 9,AV.t 27 (T.l [])),(cell 4 10,AV.t 28 (T.l [])),(cell 4 11,AV.t 2 (T.i IntKind.i64 (0:Int))),(cell 4 12,AV.t 25 (T.l [])),(cell 4 13,AV.t 59 (T.l [])),(cell 4 14,AV.t 28 (T.l [])),(pp 5,AV.t 28 (T.l [])),(pp 6,AV.t 2 (T.i IntKind.i64 (0:Int))),(pp 7,AV.box 29 0 11)]++bxS 7 ia.1 0 Y1++[(pp 8,AV.box 60 0 15)]++bxS 8 ia.1 0 Y1++[(cell 8 11,AV.t 2 (T.i IntKind.i64 (pL IntKind.i64 (a0.cell 11).int (1:Int)))),(cell 8 12,.own 25 0 ia.2.1),(cell 8 13,.own 59 0 ia.2.2.1),(cell 8 14,AV.t 28 (T.l [])),(pp 9,.t 4 (.b ia.2.2.2.1)),(pp 57,.t 2 (ia.1.cell 1)),(pp 58,.t 2 (.i .i64 (ia.2.2.2.2:Int))),(pp 10,.t 2 (.i .i64 (ia.2.2.2.2:Int))),(pp 11,.box 23 0 3),(pp 12,.t 28 (.l []))]++bxS 11 ib 0 Y3) (I1 ia) .no (fun (ib:T)=>(.two (.two .no (.lp (fun (ic:X8)=>[(pp 0,AV.t 60 a0),(pp 1,AV.t 2 a1),(pp 2,AV.box 60 0 15)]++bxS 2 a0 0 Y2++[(pp 4,AV.box 60 0 15),(cell 4 0,AV.t 2 (T.i IntKind.i64 (0:Int))),(cell 4 1,AV.t 2 (T.i IntKind.i64 (0:Int))),(cell 4 2,AV.t 4 (T.b false)),(cell 4 3,AV.t 22 (T.l [])),(cell 4 4,AV.t 22 (T.l [])),(cell 4 5,AV.t 25 (T.l [])),(cell 4 6,AV.t 26 (T.l [])),(cell 4 7,AV.t 25 (T.l [])),(cell 4 8,AV.t 26 (T.l [])),(cell 4 9,AV.t 27 (T.l [])),(cell 4 10,AV.t 28 (T.l [])),(cell 4 11,AV.t 2 (T.i IntKind.i64 (0:Int))),(cell 4 12,AV.t 25 (T.l [])),(cell 4 13,AV.t 59 (T.l [])),(cell 4 14,AV.t 28 (T.l [])),(pp 5,AV.t 28 (T.l [])),(pp 6,AV.t 2 (T.i IntKind.i64 (0:Int))),(pp 7,AV.box 29 0 11)]++bxS 7 ia.1 0 Y1++[(pp 8,AV.box 60 0 15)]++bxS 8 ia.1 0 Y1++[(cell 8 11,AV.t 2 (T.i IntKind.i64 (pL IntKind.i64 (a0.cell 11).int (1:Int)))),(cell 8 12,AV.own 25 0 ia.2.1),(cell 8 13,AV.own 59 0 ia.2.2.1),(cell 8 14,AV.t 28 (T.l [])),(pp 9,AV.t 4 (T.b ia.2.2.2.1)),(pp 57,AV.t 2 (ia.1.cell 1)),(pp 58,AV.t 2 (T.i IntKind.i64 (↑ia.2.2.2.2:Int))),(pp 10,AV.t 2 (T.i IntKind.i64 (↑ia.2.2.2.2:Int))),(pp 11,AV.box 23 0 3),(pp 12,.t 28 ic.2.1)]++bxS 11 ic.1 0 Y3++[(pp 70,AV.t 25 (a0.cell 12)),(pp 71,AV.t 2 (T.i IntKind.i64 (lenOf (a0.cell 12).list))),(pp 72,.t 2 (.i .i64 (ic.2.2:Int)))]) (I2 ia ib) (M2 ia ib) (fun _=>.no))) .no)))))) .no)))))) (.two .no (.two .no (.two .no (.two (.two .no (.lp (fun (id:X10)=>[(pp 0,AV.t 60 a0),(pp 1,AV.t 2 a1),(pp 2,AV.box 60 0 15)]++bxS 2 a0 0 Y2++[(pp 4,AV.box 60 0 15),(cell 4 0,AV.t 2 (T.i IntKind.i64 (0:Int))),(cell 4 1,AV.t 2 (T.i IntKind.i64 (0:Int))),(cell 4 2,AV.t 4 (T.b false)),(cell 4 3,AV.t 22 (T.l [])),(cell 4 4,AV.t 22 (T.l [])),(cell 4 5,AV.t 25 (T.l [])),(cell 4 6,AV.t 26 (T.l [])),(cell 4 7,AV.t 25 (T.l [])),(cell 4 8,AV.t 26 (T.l [])),(cell 4 9,AV.t 27 (T.l [])),(cell 4 10,AV.t 28 (T.l [])),(cell 4 11,AV.t 2 (T.i IntKind.i64 (0:Int))),(cell 4 12,AV.t 25 (T.l [])),(cell 4 13,AV.t 59 (T.l [])),(cell 4 14,AV.t 28 (T.l [])),(pp 5,AV.t 28 (T.l [])),(pp 6,AV.t 2 (T.i IntKind.i64 (0:Int))),(pp 8,AV.box 60 0 15)]++bxS 8 id.1 0 Y1++[(cell 8 11,AV.t 2 (T.i IntKind.i64 (pL IntKind.i64 (a0.cell 11).int (1:Int)))),(cell 8 12,.own 25 0 id.2.1),(cell 8 13,.own 59 0 id.2.2.1),(cell 8 14,AV.t 28 (T.l [])),(pp 17,.t 2 (.i .i64 (id.2.2.2.2.1:Int))),(pp 18,.t 28 id.2.2.2.1),(pp 155,.t 2 (.i .i64 (id.2.2.1.length:Int))),(pp 156,.t 2 (.i .i64 (id.2.2.2.2.2:Int))),(pp 154,.alias (cell 8 13) 0 59 0 id.2.2.1.length)]) I3 M3 (fun _=>.no))) .no)))))))))) (by kernel_rfl) h
end Go.Pq
namespace Go.Pl
def scP (h:Md) (o:On) (s k:Nat):List Rat:=scN h o s k++List.replicate (h.st-k) 0
def tlP (h:Md) (o:On) (s k:Nat):List (List Nat):=tlN h o s k++List.replicate (h.st-k) []
def tlD (h:Md) (o:On) (s k:Nat):List (List Nat):=(List.range h.st).map fun m=>if m<k then (pU h o s m).drop (zu h o s) else pU h o s m
def LG:T:=T.g [T.i .i64 0,T.i .i64 0,T.b false,T.l [],T.l [],T.l [],T.l [],T.l [],T.l [],T.l [],T.l [],T.i .i64 0,T.l [],T.l [],T.l []]
theorem Dl (p b:Rat) (t u:List Nat):(T.ite (ltI 0 (Du p b)) (T.b true) (T.ite (T.ite (eqI (Du p b) 0) (T.b (ltI 0 (FM p.num))) (T.b false)).bool (T.b (ltI (F8 t u) 0)) (T.b false))).bool=better p b t u:=by
 unfold better;have e1:ltI 0 (Du p b)=decide (b<p):=by unfold ltI;exact Zl.2 zD
 have e2:eqI (Du p b) 0=decide (p=b):=by unfold eqI;exact Zl.2 vS
 have e3:ltI 0 (FM p.num)=decide (0<p):=by unfold ltI;exact Zl.2 (wM.trans B0)
 have e4:ltI (F8 t u) 0=decide (F8 t u<0):=rfl;rw [e1,e2,e3,e4];cases decide (b<p)<;>cases decide (p=b)<;>cases decide (0<p)<;>cases decide (F8 t u<0)<;>rfl
theorem map_set {α:Type} (f:Nat→α) (n k:Nat) (v:α):((List.range n).map f).set k v=(List.range n).map fun m=>if m=k then v else f m:=by
 apply Yj
 ·simp
 ·intro i h1 h2
  simp only [Xk,YV] at h2;rw [List.getElem_set];simp only [ZG,List.getElem_range]
  by_cases e:k=i
  ·subst e;simp
  ·rw [WZ e,WZ (YL e)]
theorem MN (l:List Rat) (k:Nat) (x:Rat):(tI l).set k (qr x)=tI (l.set k x):=by simp [tI,Zg]
theorem Ci (l:List (List Nat)) (k:Nat) (x:List Nat):(rm l).set k (qH x)=rm (l.set k x):=by simp [rm,Zg]
theorem wN (l:List (List Nat)):(rm l).length=l.length:=by simp [rm]
theorem xq (h:Md) (o:On) (s k:Nat):(scN h o s k).length=k:=by simp [scN]
theorem C5 (h:Md) (o:On) (s k:Nat):(tlN h o s k).length=k:=by simp [tlN]
theorem K5 {h:Md} {o:On} {s k:Nat} (hk:k≤h.st):(scP h o s k).length=h.st:=by simp [scP,xq];omega
theorem RA {h:Md} {o:On} {s k:Nat} (hk:k≤h.st):(tlP h o s k).length=h.st:=by simp [tlP,C5];omega
theorem Na (h:Md) (o:On) (s k:Nat):scN h o s (k+1)=scN h o s k++[rn h o s k]:=by simp [scN,Za]
theorem Hb (h:Md) (o:On) (s k:Nat):tlN h o s (k+1)=tlN h o s k++[pU h o s k]:=by simp [tlN,Za]
theorem Rh {h:Md} {o:On} {s k:Nat} (hk:k<h.st):(scP h o s k).set k (rn h o s k)=scP h o s (k+1):=by
 unfold scP;rw [tE _ _ _ _ (xq h o s k) (by omega),Na];rfl
theorem RB {h:Md} {o:On} {s k:Nat} (hk:k<h.st):(tlP h o s k).set k (pU h o s k)=tlP h o s (k+1):=by
 unfold tlP;rw [tE _ _ _ _ (C5 h o s k) (by omega),Hb];rfl
theorem Nw {h:Md} {o:On} {s k:Nat} (hk:k<h.st) (hd:pU h o s k=[]):tlP h o s (k+1)=tlP h o s k:=by
 unfold tlP;rw [Hb,hd];obtain ⟨m,hm⟩:∃m,h.st-k=m+1:=⟨h.st-k-1,by omega⟩;rw [hm,show h.st-(k+1)=m from by omega,Zr,W7];rfl
theorem Rg (h:Md) (o:On) (s:Nat):scP h o s h.st=scN h o s h.st:=by simp [scP]
theorem Rz (h:Md) (o:On) (s:Nat):tlP h o s h.st=tlN h o s h.st:=by simp [tlP]
theorem TS {h:Md} {o:On} {s k i:Nat} (hi:i<k):(scP h o s k).getD i 0=rn h o s i:=by
 unfold scP;rw [WM,Xr (by rw [xq];exact hi),←WM];exact sa _ _ hi
theorem C4 (h:Md) (o:On) (s k:Nat):(tlD h o s k).length=h.st:=by simp [tlD]
theorem Nv (h:Md) (o:On) (s:Nat):tlD h o s 0=tlN h o s h.st:=by simp [tlD,tlN]
theorem Rx (h:Md) (o:On) (s:Nat):tlD h o s h.st=(tlN h o s h.st).map (List.drop (zu h o s)):=by
 unfold tlD tlN;rw [Yo];apply Yu;intro i hi;rw [WY (XJ.1 hi)];rfl
theorem T5 {h:Md} {o:On} {s k:Nat} (hk:k<h.st):(tlD h o s k).getD k []=pU h o s k:=by
 unfold tlD;rw [sa _ _ hk,WZ (ZC _)]
theorem Ry {h:Md} {o:On} {s k:Nat}:(tlD h o s k).set k ((pU h o s k).drop (zu h o s))=tlD h o s (k+1):=by
 unfold tlD;rw [map_set];apply Yu;intro i _
 by_cases e:i=k
 ·subst e;rw [WY rfl,WY (by omega)]
 ·rw [WZ e]
  by_cases q:i<k
  ·rw [WY q,WY (by omega)]
  ·rw [WZ q,WZ (by omega)]
theorem Nu {h:Md} {o:On} {s k:Nat} (hd:pU h o s k=[]):tlD h o s (k+1)=tlD h o s k:=by
 unfold tlD;apply Yu;intro i _
 by_cases e:i=k
 ·subst e;rw [WY (by omega),WZ (by omega),hd];simp
 ·by_cases q:i<k
  ·rw [WY q,WY (by omega)]
  ·rw [WZ q,WZ (by omega)]
def Hl (h:Md) (o:On) (s k:Nat):Bool:=decide (∃j,j<k∧0<rn h o s j)
theorem F2 {h:Md} {o:On} {s k:Nat} (hp:0<rn h o s k):Hl h o s (k+1)=true:=Xq ⟨k,by omega,hp⟩
theorem IS {h:Md} {o:On} {s k:Nat} (hp:¬ 0<rn h o s k):Hl h o s (k+1)=Hl h o s k:=by
 unfold Hl;rw [Zl]
 constructor
 ·rintro ⟨j,h1,h2⟩
  by_cases e:j=k
  ·subst e;exact absurd h2 hp
  ·exact ⟨j,by omega,h2⟩
 ·rintro ⟨j,h1,h2⟩;exact ⟨j,by omega,h2⟩
theorem u4 (h:Md) (o:On) (j i:Nat):qx h o j (i+1) =
  if better (o.sc.getD i 0*(h.trans.getD i []).getD j 0) (qx h o j i).1 (o.tails.getD i []) (tl (qx h o j i).2) then (o.sc.getD i 0*(h.trans.getD i []).getD j 0,some (o.tails.getD i [])) else qx h o j i:=rfl
end Go.Pl
namespace Go.Pq
open Go.Pl Go.Proofs
theorem Ol {h:Md} {c:Nat} {o:On} (hk:rV h c) (H:vP h c o) (s:Nat) (hs:1≤s∧s≤h.sym) (ht:o.time<256) (y0 y1:T) (y2:Int)
  (r1:FN h o s=true→y0=onT h (zA h o s)∧y1=qH (sI h o s)∧y2=0) (r2:FN h o s=false→y0=LG∧y1=.l []∧y2=11) :
  F 133 [.t 60 (onT h o),.t 2 (.i .i64 (s:Int))] Z16 [y0,y1,.i .i64 y2]:=by
 have z_:=hk.st;have cY:=hk.sym;have hr:=H.Q8 hk;have ae:=hk.cc;refine JV _ _ _ _ _
  (fun i=>i.1=rx h∧i.2.1=tI (scP h o s i.2.2.2.2)∧i.2.2.1=rm (tlP h o s i.2.2.2.2)∧i.2.2.2.1=Hl h o s i.2.2.2.2∧i.2.2.2.2≤h.st)
  (fun i=>h.st-i.2.2.2.2)
  (fun i x=>x=qr (qx h o i.2.2.2.2 0).1)
  (fun i _ j=>i.2.2.2.2<h.st∧j.1=qr (qx h o i.2.2.2.2 j.2.2).1∧j.2.1=qH (tl (qx h o i.2.2.2.2 j.2.2).2)∧j.2.2≤o.sc.length)
  (fun _ _ j=>o.sc.length-j.2.2)
  (fun i=>i.1=rx h∧i.2.1=tI (scN h o s h.st)∧i.2.2.1=rm (tlD h o s i.2.2.2.2.2)∧i.2.2.2.1=(if Hl h o s i.2.2.2.2.2 then qH (sI h o s) else .l [])∧i.2.2.2.2.1=zu h o s∧i.2.2.2.2.2≤h.st)
  (fun i=>h.st-i.2.2.2.2.2) ?_
 rw [AS,Ky,xm,MF,zM,CM,Oa,qj,uN,pC,rk.2 (by omega:(o.time:Int)≠256),pF.2 (by omega:(1:Int)≤(s:Int)),pF.2 (by omega:(s:Int)≤(h.sym:Int))];refine ⟨_,yi hk H,fun q=>(by cases q),fun _=>⟨fun q=>(by cases q),fun _=>⟨_,sL h c hk,?_⟩⟩⟩;rw [BR];refine ⟨⟨by omega,by omega,by omega,by omega⟩,⟨by omega,by omega,by omega,by omega⟩,⟨(rx h,tI (scP h o s 0),rm (tlP h o s 0),false,0),⟨rfl,rfl,rfl,rfl,WS _⟩,?_⟩,fun _=>rfl,?_⟩
 ·rw [WP]
  have e1:List.replicate h.st (T.g [T.b false,T.l [],T.l []])=tI (scP h o s 0):=by
   rw [←A5];simp [scP,scN,tI]
  have e2:List.replicate h.st (T.l [])=rm (tlP h o s 0):=by
   simp [tlP,tlN,rm,qH,ry]
  rw [e1,e2];exact (by and_intros<;>first | exact trivial | rfl | (rw [pt (by omega)];rfl))
 rintro ⟨md,scs,tls,sm,k⟩ ⟨cQ,jx,cq,jV,aR⟩;dsimp only at cQ jx cq jV aR ⊢;subst cQ jx cq jV;rw [BR,xL,vW,wz];refine ⟨fun h1=>?_,fun h1=>?_⟩
 ·rw [pw] at h1
  have b_:k<h.st:=by omega
  refine ⟨⟨fun h0=>⟨⟨by omega,by rw [qj,hk.init];omega⟩,qr (qx h o k 0).1,rfl,?_⟩,fun h0=>⟨qr (qx h o k 0).1,rfl,?_⟩⟩,fun _=>rfl,?_⟩
  ·rw [qe] at h0
   have e:(qx h o k 0).1=h.init.getD k 0:=by unfold qx;rw [WY (by omega)]
   rw [e,hk.it b_,qu];exact (by and_intros<;>first | exact trivial | rfl | (rw [pt (by omega)];rfl))
  ·rw [rk] at h0
   have e:(qx h o k 0).1=0:=by unfold qx;rw [WZ (by omega)]
   rw [e,A5];exact (by and_intros<;>first | exact trivial | rfl | (rw [pt (by omega)];rfl))
  rintro _ rfl;refine ⟨⟨(qr (qx h o k 0).1,qH [],0),⟨b_,rfl,rfl,WS _⟩,(by and_intros<;>first | exact trivial | rfl | (rw [pt (by omega)];rfl))⟩,fun _=>rfl,?_⟩
  all_goals
   rintro ⟨bt,tt,m⟩ ⟨-,fY,bu,hm⟩;dsimp only at fY bu hm ⊢;subst fY bu;obtain ⟨b1,b2,b3⟩:=H.EE hk b_ m hm;have b4:rl (qx h o k m).1≤2 ^ 20:=by
    have h3:=H.time;have h5:2*o.time*c≤2*256*2 ^ 10:=Yn (by omega) ae.2;omega
   refine ⟨fun h2=>?_,fun h2=>?_⟩
   ·rw [pw] at h2
    have a7:m<o.sc.length:=by omega
    have hz:0<o.time:=by
     rcases XT o.time with q | q
     ·rw [(H.zero q).1] at a7;simp at a7
     ·exact q
    obtain ⟨l1,l2⟩:=H.lens hz;have dK:m<h.st:=by omega
    have q1:=hr _ (pN (d:=(0:Rat)) a7);have q2:=(hk.trq dK _ (pN (d:=(0:Rat)) (show k<(h.trans.getD m []).length by rw [hk.trl dK];exact b_))).1;have q3:=Eb (o.sc.getD m 0) ((h.trans.getD m []).getD k 0);have q4:=H.tlen _ (pN (d:=([]:List Nat)) (show m<o.tails.length by omega));have q5:(tl (qx h o k m).2).length≤256:=by
     rcases b3 with ⟨e,-⟩ | ⟨i,-,e1,-,e⟩
     ·rw [e];exact WS _
     ·rw [e];exact H.tlen _ (pN (d:=([]:List Nat)) (show i<o.tails.length by omega))
    rw [sQ _ a7,hk.tr dK,qS,tz,hk.trans,qj,hk.trl dK,sQ _ (show k<(h.trans.getD m []).length by rw [hk.trl dK];exact b_),qu,qu,vK _ (show m<o.tails.length by omega),vX];refine ⟨⟨by omega,by omega⟩,⟨by omega,by omega⟩,⟨by omega,by omega⟩,_,QI _ _ (by omega) (by omega),_,sZ _ _ (by omega) (by omega),_,fun _=>vG _ (by omega),fun _=>⟨by omega,by omega⟩,_,fun _=>NT _ _ (by omega) (by omega),?_⟩;rw [pC,pC,pC,Dl];refine ⟨fun hb=>⟨⟨by omega,by omega⟩,?_⟩,fun hb=>?_⟩
    ·refine ⟨(qr (o.sc.getD m 0*(h.trans.getD m []).getD k 0),qH (o.tails.getD m []),m+1),⟨b_,?_,?_,a7⟩,by dsimp only;omega,(by and_intros<;>first | exact trivial | rfl | (rw [pt (by omega)];rfl))⟩
     ·dsimp only;rw [u4,WY hb]
     ·dsimp only;rw [u4,WY hb];rfl
    ·refine ⟨(qr (qx h o k m).1,qH (tl (qx h o k m).2),m+1),⟨b_,?_,?_,a7⟩,by dsimp only;omega,(by and_intros<;>first | exact trivial | rfl | (rw [pt (by omega)];rfl))⟩
     ·dsimp only;rw [u4,WZ (by rw [hb];decide)]
     ·dsimp only;rw [u4,WZ (by rw [hb];decide)]
   ·rw [pF] at h2
    have jy:m=o.sc.length:=by omega
    subst jy;have mW:s-1<(h.emit.getD k []).length:=by rw [hk.eml b_];omega
    have q1:=(hk.emq b_ _ (pN (d:=(0:Rat)) mW)).1;obtain ⟨n1,n2,n3⟩:=H.K6 hk hs b_;have n4:∀x∈scP h o s (k+1),rl x≤2 ^ 20:=by
     intro x hx
     rcases W2.1 hx with q | q
     ·obtain ⟨i,hi,rfl⟩:=Xw.1 q
      have cC:=XJ.1 hi
      have:=(H.K6 hk hs (show i<h.st by omega)).2.1
      have h3:=H.time;have h5:2*(o.time+1)*c≤2*257*2 ^ 10:=Yn (by omega) ae.2;omega
     ·rw [(List.mem_replicate.1 q).2,Be];omega
    have bc:=K5 (h:=h) (o:=o) (s:=s) aR;have oA:=K5 (h:=h) (o:=o) (s:=s) (show k+1≤h.st by omega);have cq:=RA (h:=h) (o:=o) (s:=s) aR;rw [hk.em b_,qS,tz,hk.emit,qj,hk.eml b_,qm (by omega),show ((s:Int)-1)=((s-1:Nat):Int) from by omega,sQ _ mW,qu];refine ⟨⟨by omega,by omega⟩,⟨by omega,by omega⟩,_,QI _ _ (by omega) (by omega),⟨by omega,by rw [wK,bc];omega⟩,?_⟩;have e0:(tI (scP h o s k)).getD (0+((k:Nat):Int).toNat) T.u=qr 0:=by
     rw [WV,WP,tJ _ (by omega)];unfold scP;rw [CB _ _ _ _ (xq h o s k) (by omega)]
    have e1:(tI (scP h o s k)).set (0+((k:Nat):Int).toNat) (((((tI (scP h o s k)).getD (0+((k:Nat):Int).toNat) T.u).setCell 0 ((qr (rn h o s k)).cell 0)).setCell 1 ((qr (rn h o s k)).cell 1)).setCell 2 ((qr (rn h o s k)).cell 2))=tI (scP h o s (k+1)):=by
     rw [e0,WV,WP]
     have:(((qr 0).setCell 0 ((qr (rn h o s k)).cell 0)).setCell 1 ((qr (rn h o s k)).cell 1)).setCell 2 ((qr (rn h o s k)).cell 2)=qr (rn h o s k):=rfl
     rw [this,MN,Rh b_]
    have e1' := e1;unfold rn Bq at e1';rw [e1',Xc,Xc,pQ,pQ];have al:=Cl h ⟨o.time+1,scP h o s (k+1),tlP h o s k,[]⟩ k (by show k<(scP h o s (k+1)).length;omega) (by show (scP h o s (k+1)).length≤_;omega) (by have:=n4 _ (pN (d:=(0:Rat)) (show k<(scP h o s (k+1)).length by omega));show rl ((scP h o s (k+1)).getD k 0)≤_;omega);have al2:((scP h o s (k+1)).getD k 0)=rn h o s k:=TS (by omega);rw [show (⟨o.time+1,scP h o s (k+1),tlP h o s k,[]⟩:On).sc.getD k 0=rn h o s k from al2] at al;rw [pt (by omega),show ((o.time:Int)+1)=((o.time+1:Nat):Int) from by omega];refine ⟨_,al,fun q=>?_,fun q=>?_⟩
    ·have hp:0<rn h o s k:=by
      have:decide (0<rn h o s k)=true:=q
      simpa using this
     have q5:(tl (Bq h o k).2).length≤256:=by
      have:=(H.path hk hs b_ hp).2.1
      unfold pU at this;rw [WY hp,WN] at this;simp only [W4,YH] at this;omega
     have e2:(qH (tl (qx h o k o.sc.length).2)).list++(List.replicate 1 (T.i .i64 0)).set 0 (T.i .i64 (k:Int))=ry (pU h o s k):=by
      unfold pU;rw [WY hp,←vk];rfl
     have C_:room=140737488355328:=rfl;have e3:(ry (tl (qx h o k o.sc.length).2)).length≤256:=by rw [qX];exact q5
     refine ⟨_,t7 (ry (tl (qx h o k o.sc.length).2)) (by omega),⟨?_,?_⟩,⟨by omega,by rw [wN,cq];omega⟩,?_⟩
     ·show ((ry (tl (qx h o k o.sc.length).2)).length+1)*8≤room
      omega
     ·show (ry (tl (qx h o k o.sc.length).2)).length+1≤_
      omega
     ·have e4:(rm (tlP h o s k)).set (0+((k:Nat):Int).toNat) (T.l ((T.l (ry (tl (qx h o k o.sc.length).2))).list++(List.replicate 1 (T.i .i64 0)).set 0 (T.i .i64 (k:Int))))=rm (tlP h o s (k+1)):=by
       rw [show (T.l (ry (tl (qx h o k o.sc.length).2))).list++(List.replicate 1 (T.i .i64 0)).set 0 (T.i .i64 (k:Int))=ry (pU h o s k) from e2,WV,WP];rw [show T.l (ry (pU h o s k))=qH (pU h o s k) from rfl,Ci,RB b_]
      rw [e4];refine ⟨(rx h,tI (scP h o s (k+1)),rm (tlP h o s (k+1)),true,k+1),⟨rfl,rfl,rfl,(F2 hp).symm,b_⟩,by dsimp only;omega,(by and_intros<;>first | exact trivial | rfl | (rw [pt (by omega)];rfl))⟩
    ·have hp:¬ 0<rn h o s k:=by
      have:decide (0<rn h o s k)=false:=q
      simpa using this
     have hd:pU h o s k=[]:=by unfold pU;rw [WZ hp]
     refine ⟨(rx h,tI (scP h o s (k+1)),rm (tlP h o s k),Hl h o s k,k+1),⟨rfl,rfl,?_,?_,b_⟩,by dsimp only;omega,(by and_intros<;>first | exact trivial | rfl | (rw [pt (by omega)];rfl))⟩
     ·dsimp only;rw [Nw b_ hd]
     ·dsimp only;rw [IS hp]
 ·rw [pF] at h1
  have cJ:k=h.st:=by omega
  subst cJ;refine ⟨fun q=>?_,fun q=>?_⟩
  ·have ha:FN h o s=false:=by
    have e:(!Hl h o s h.st)=true:=q
    have:Hl h o s h.st=false:=by simpa using e
    exact this
   obtain ⟨e0,e1,e2⟩:=r2 ha;subst e0 e1 e2;exact ⟨a_,rfl,rfl,rfl,a_⟩
  ·have ha:FN h o s=true:=by
    have e:(!Hl h o s h.st)=false:=q
    have:Hl h o s h.st=true:=by simpa using e
    exact this
   obtain ⟨e0,e1,e2⟩:=r1 ha;have n4:∀x∈scN h o s h.st,rl x≤2 ^ 20:=by
    intro x hx;obtain ⟨i,hi,rfl⟩:=Xw.1 hx;have cC:=XJ.1 hi
    have:=(H.K6 hk hs cC).2.1
    have h3:=H.time;have h5:2*(o.time+1)*c≤2*257*2 ^ 10:=Yn (by omega) ae.2;omega
   have n5:∀i,i<h.st→(pU h o s i).length≤256:=by
    intro i hi
    by_cases hp:0<rn h o s i
    ·have:=(H.path hk hs hi hp).2.1;omega
    ·unfold pU;rw [WZ hp];exact WS _
   have n6:∀p∈tlN h o s h.st,p.length≤2 ^ 20:=by
    intro x hx;obtain ⟨i,hi,rfl⟩:=Xw.1 hx
    have:=n5 i (XJ.1 hi)
    omega
   have cm:=Cw h ⟨o.time+1,scN h o s h.st,tlN h o s h.st,[]⟩ (tlN h o s h.st) (by rw [C5];show _≤(scN h o s h.st).length;rw [xq];exact WU _) (by show (scN h o s h.st).length≤_;rw [xq];omega) n6
    (fun x hx=>by have:=n4 x hx;omega)
   rw [C5] at cm;rw [Rg,Rz,Xc,Xc,pQ,pQ,pt (by omega),show ((o.time:Int)+1)=((o.time+1:Nat):Int) from by omega];refine ⟨_,cm,⟨(rx h,tI (scN h o s h.st),rm (tlD h o s 0),.l [],zu h o s,0),⟨rfl,rfl,rfl,rfl,rfl,WS _⟩,?_⟩,fun _=>rfl,?_⟩
   ·rw [←Nv]
    exact (by and_intros<;>first | exact trivial | rfl | (rw [pt (by omega)];rfl))
   rintro ⟨md,scs,tls,cmt,kc,i⟩ ⟨cQ,jx,cq,aP,aD,hi⟩;dsimp only at cQ jx cq aP aD hi ⊢;subst cQ jx cq aD;rw [aP,Xc,Xc,pQ,pQ,wN,C4];refine ⟨fun h2=>?_,fun h2=>?_⟩
   ·rw [pw] at h2
    have b_:i<h.st:=by omega
    have oB:=xq h o s h.st;have al:=Cl h ⟨o.time+1,scN h o s h.st,tlD h o s i,[]⟩ i (by show i<(scN h o s h.st).length;omega) (by show (scN h o s h.st).length≤_;omega) (by have:=n4 _ (pN (d:=(0:Rat)) (show i<(scN h o s h.st).length by omega));show rl ((scN h o s h.st).getD i 0)≤_;omega);have al2:((scN h o s h.st).getD i 0)=rn h o s i:=sa _ _ b_;rw [show (⟨o.time+1,scN h o s h.st,tlD h o s i,[]⟩:On).sc.getD i 0=rn h o s i from al2] at al;have ar:(rm (tlD h o s i)).getD (0+((i:Nat):Int).toNat) T.u=qH (pU h o s i):=by
     rw [WV,WP,Bs _ (by rw [C4];exact b_),T5 b_]
    rw [ar,vX,qZ,vY,Xc];have i_:=n5 i b_;refine ⟨⟨by omega,by omega⟩,_,al,fun q=>?_,fun q=>?_⟩
    ·have hp:0<rn h o s i:=by
      have:decide (0<rn h o s i)=true:=q
      simpa using this
     obtain ⟨c1,c2⟩:=H.commit hk b_ hp;have e1:(((zu h o s:Nat):Int)-0).toNat=zu h o s:=by omega
     have e2:(((pU h o s i).length:Int)-((zu h o s:Nat):Int)).toNat=(pU h o s i).length-zu h o s:=by omega
     have e3:((pU h o s i).drop (zu h o s)).length=(pU h o s i).length-zu h o s:=by rw [Xi]
     rw [e1,e2,WP,DO,Kg,DO,←c1,←e3,pQ];have cI:(sI h o s).length≤256:=by rw [c1,Xg];omega
     refine ⟨⟨by omega,by omega,by omega⟩,_,t7 _ (by rw [qX];omega),⟨by omega,by omega,by omega⟩,_,t7 _ (by rw [qX];omega),⟨by omega,by omega⟩,
      (rx h,tI (scN h o s h.st),rm (tlD h o s (i+1)),qH (sI h o s),zu h o s,i+1),⟨rfl,rfl,rfl,?_,rfl,b_⟩,by dsimp only;omega,?_⟩
     ·dsimp only;rw [F2 hp];rfl
     ·have e4:(rm (tlD h o s i)).set (0+((i:Nat):Int).toNat) (T.l (T.l (ry ((pU h o s i).drop (zu h o s)))).list)=rm (tlD h o s (i+1)):=by
       rw [WV,WP];rw [show T.l (T.l (ry ((pU h o s i).drop (zu h o s)))).list=qH ((pU h o s i).drop (zu h o s)) from rfl,Ci,Ry]
      rw [e4];dsimp only;rw [wN,C4];exact (by and_intros<;>first | exact trivial | rfl | (rw [pt (by omega)];rfl))
    ·have hp:¬ 0<rn h o s i:=by
      have:decide (0<rn h o s i)=false:=q
      simpa using this
     have hd:pU h o s i=[]:=by unfold pU;rw [WZ hp]
     have e5:=Nu (h:=h) (o:=o) (s:=s) hd;refine ⟨(rx h,tI (scN h o s h.st),rm (tlD h o s i),(if Hl h o s i=true then qH (sI h o s) else T.l []),zu h o s,i+1),⟨rfl,rfl,?_,?_,rfl,b_⟩,by dsimp only;omega,?_⟩
     ·dsimp only;rw [e5]
     ·dsimp only;rw [IS hp]
     ·dsimp only
      rw [wN,C4];exact (by and_intros<;>first | exact trivial | rfl | (rw [pt (by omega)];rfl))
   ·rw [pF] at h2
    have oC:i=h.st:=by omega
    subst oC;have lR:Hl h o s h.st=true:=ha;rw [WY lR];have cI:(sI h o s).length≤256:=by
     obtain ⟨j0,eF,dD⟩:=Xd ha;rw [(H.commit hk eF dD).1,Xg]
     have:=n5 j0 eF
     omega
    have c1:=Ao o.done (sI h o s) (by have:=H.dlen;omega) (by omega);refine ⟨_,c1,a_,?_,e1.symm,by rw [e2],a_⟩;rw [e0,Rx];rfl
end Go.Pq
namespace Go.Pl
section
variable {h:Md} {c:Nat} {o:On} (hk:rV h c) (H:vP h c o)
include hk H
end
end Go.Pl
namespace Go.Pq
open Go.Pl Go.Proofs
end Go.Pq
namespace Go.Pl
structure Srv where
 ss:List (Nat×On)
 made:Nat
def tB (h:Md) (x:Nat×On):T:=.g [.i .i64 (x.1:Int),.i .i64 (h.sym:Int),.i .i64 (h.st:Int),.b (decide (h.empty.num<0)),lim (Lb.nat h.empty.num.natAbs),ux h.empty.den,
 pO h.init,p9 h.trans,pO h.stop,p9 h.emit,rP (List.replicate h.st false),qH h.ties,.i .i64 (x.2.time:Int),pO x.2.sc,uv x.2.tails,qH x.2.done]
def qT (h:Md) (l:List (Nat×On)):List T:=l.map (tB h)
def tW (h:Md) (s:Srv):T:=.g [.i .i64 (h.sym:Int),.i .i64 (h.st:Int),.b (decide (h.empty.num<0)),lim (Lb.nat h.empty.num.natAbs),ux h.empty.den,
 pO h.init,p9 h.trans,pO h.stop,p9 h.emit,rP (List.replicate h.st false),qH h.ties,.l (qT h s.ss),.i .i64 (s.made:Int)]
theorem uu (h:Md) (s:Srv):(G13 (tW h s))=tW h s:=rfl
theorem Lk (h:Md) (s:Srv):(G11 (tW h s))=rx h:=rfl
theorem Ow (h:Md) (s:Srv):(tW h s).cell 11=.l (qT h s.ss):=rfl
theorem Nm (h:Md) (s:Srv):((tW h s).cell 12).int=(s.made:Int):=rfl
theorem ye (h:Md) (x:Nat×On):(tB h x).part 0 16=tB h x:=rfl
theorem Rk (h:Md) (x:Nat×On):((tB h x).cell 0).int=(x.1:Int):=rfl
theorem TT (h:Md) (x:Nat×On):T.g [(tB h x).cell 1,(tB h x).cell 2,(tB h x).cell 3,(tB h x).cell 4,(tB h x).cell 5,(tB h x).cell 6,(tB h x).cell 7,(tB h x).cell 8,(tB h x).cell 9,(tB h x).cell 10,(tB h x).cell 11,
 (tB h x).cell 12,(tB h x).cell 13,(tB h x).cell 14,(tB h x).cell 15]=onT h x.2:=rfl
theorem K8 (h:Md) (x:Nat×On):T.g [(tB h x).cell 1,(tB h x).cell 2,(tB h x).cell 3,(tB h x).cell 4,(tB h x).cell 5,(tB h x).cell 6,(tB h x).cell 7,(tB h x).cell 8,(tB h x).cell 9,(tB h x).cell 10,(tB h x).cell 11]=rx h:=rfl
theorem ql (h:Md) (l:List (Nat×On)):(qT h l).length=l.length:=by simp [qT]
theorem Fh (h:Md) (l:List (Nat×On)):lenOf (T.l (qT h l)).list=(l.length:Int):=by show ((qT h l).length:Int)=_;rw [ql]
theorem GY (h:Md) (l:List (Nat×On)) {i:Nat} (hi:i<l.length):(T.l (qT h l)).list.getD (i:Int).toNat T.u=tB h (l.getD i (0,on0)):=by
 rw [WP]
 show (qT h l).getD i T.u=_
 simp [qT,WM,hi]
theorem uS (h:Md) (l:List (Nat×On)) {i:Nat} (hi:i<l.length):(qT h l).getD i T.u=tB h (l.getD i (0,on0)):=by
 simp [qT,WM,hi]
theorem xr (h:Md) (a b:List (Nat×On)):qT h a++qT h b=qT h (a++b):=by simp [qT]
theorem Ng (h:Md) (l:List (Nat×On)) (k:Nat) (x:Nat×On):(qT h l).set k (tB h x)=qT h (l.set k x):=by simp [qT,Zg]
structure sj (h:Md) (c:Nat) (s:Srv):Prop where
 few:s.ss.length≤8
 made:s.made≤1099511627776
 num:∀i,i<s.ss.length→(s.ss.getD i (0,on0)).1<s.made
 up:∀i,i+1<s.ss.length→(s.ss.getD i (0,on0)).1<(s.ss.getD (i+1) (0,on0)).1
 ok:∀x∈s.ss,vP h c x.2
theorem sj.mono {h:Md} {c:Nat} {s:Srv} (H:sj h c s):∀{i j:Nat},i<j→j<s.ss.length→(s.ss.getD i (0,on0)).1<(s.ss.getD j (0,on0)).1:=by
 intro i j pi hj
 induction j with
 | zero=>omega
 | succ j ih =>
  have:=H.up j hj
  by_cases e:i=j
  ·subst e;exact this
  ·have:=ih (by omega) (by omega);omega
end Go.Pl
namespace Go.Pq
open Go.Pl Go.Proofs
theorem K2 (xs:List T) (hl:xs.length≤2 ^ 40):F 121 [.t 22 (.l xs),.t 22 (.l xs)] (zo 2 4) [.b true]:=by
 refine Pg _ _ _ (fun k=>k≤xs.length) (fun k=>xs.length-k) ?_;have i_:lenOf (T.l xs).list=(xs.length:Int):=rfl;rw [i_,rT];refine ⟨fun q=>(by cases q),fun _=>⟨⟨0,WS _,(by and_intros<;>first | exact trivial | rfl | (rw [pt (by omega)];rfl))⟩,fun _=>rfl,?_⟩⟩;intro k hk;refine ⟨fun h1=>?_,fun h1=>⟨a_,rfl,a_⟩⟩;rw [pw] at h1;rw [rT];exact ⟨⟨by omega,by omega⟩,⟨by omega,by omega⟩,fun q=>(by cases q),fun _=>⟨k+1,by omega,by omega,(by and_intros<;>first | exact trivial | rfl | (rw [pt (by omega)];rfl))⟩⟩
theorem Rf (xs:List T) (hl:xs.length≤2 ^ 40):F 77 [.t 28 (.l xs),.t 28 (.l xs)] (zo 2 4) [.b true]:=by
 refine S1 _ _ _ (fun k=>k≤xs.length) (fun k=>xs.length-k) ?_;have i_:lenOf (T.l xs).list=(xs.length:Int):=rfl;rw [i_,rT];refine ⟨fun q=>(by cases q),fun _=>⟨⟨0,WS _,(by and_intros<;>first | exact trivial | rfl | (rw [pt (by omega)];rfl))⟩,fun _=>rfl,?_⟩⟩;intro k hk;refine ⟨fun h1=>?_,fun h1=>⟨a_,rfl,a_⟩⟩;rw [pw] at h1;rw [rT];exact ⟨⟨by omega,by omega⟩,⟨by omega,by omega⟩,fun q=>(by cases q),fun _=>⟨k+1,by omega,by omega,(by and_intros<;>first | exact trivial | rfl | (rw [pt (by omega)];rfl))⟩⟩
theorem Rb (xs:List T) (hl:xs.length≤2 ^ 40):F 76 [.t 27 (.l xs),.t 27 (.l xs)] (zo 2 4) [.b true]:=by
 refine S0 _ _ _ (fun k=>k≤xs.length) (fun k=>xs.length-k) ?_;have i_:lenOf (T.l xs).list=(xs.length:Int):=rfl;rw [i_,rT];refine ⟨fun q=>(by cases q),fun _=>⟨⟨0,WS _,(by and_intros<;>first | exact trivial | rfl | (rw [pt (by omega)];rfl))⟩,fun _=>rfl,?_⟩⟩;intro k hk;refine ⟨fun h1=>?_,fun h1=>⟨a_,rfl,a_⟩⟩;rw [pw] at h1;exact ⟨⟨by omega,by omega⟩,⟨by omega,by omega⟩,fun q=>(by simp at q),fun _=>⟨k+1,by omega,by omega,(by and_intros<;>first | exact trivial | rfl | (rw [pt (by omega)];rfl))⟩⟩
theorem K3 (q:Rat) (hq:rl q≤2 ^ 30):F 74 [.t 23 (qr q),.t 23 (qr q)] (zo 2 4) [.b true]:=by
 have l1:=wh q;have l2:=wg q;have c1:F 121 [.t 22 (lim (Lb.nat q.num.natAbs)),.t 22 (lim (Lb.nat q.num.natAbs))] (zo 2 4) [.b true]:=K2 _ (by rw [pT];omega);have c2:F 121 [.t 22 (ux q.den),.t 22 (ux q.den)] (zo 2 4) [.b true]:=K2 _ (by
  rw [pT];unfold dl;split
  ·simp
  ·omega)
 refine SY _ _ _ ⟨_,fun _=>c1,_,fun _=>c2,a_,?_,a_⟩;have e:(((qr q).cell 0).bool == ((qr q).cell 0).bool)=true:=by simp
 rw [e];rfl
theorem CY (l:List Rat) (hl:l.length≤2 ^ 40) (h:∀q∈l,rl q≤2 ^ 30):F 72 [.t 25 (pO l),.t 25 (pO l)] (zo 2 4) [.b true]:=by
 have c1:F 73 [.t 25 (pO l),.t 25 (pO l),.t 1 (.f 74 [])] (zo 3 4) [.b true]:=by
  refine Qr _ _ _ (fun k=>k≤l.length) (fun k=>l.length-k) ?_;rw [qj,rT];refine ⟨fun q=>(by cases q),fun _=>⟨⟨0,WS _,(by and_intros<;>first | exact trivial | rfl | (rw [pt (by omega)];rfl))⟩,fun _=>rfl,?_⟩⟩;intro k hk;refine ⟨fun h1=>?_,fun h1=>⟨a_,rfl,a_⟩⟩;rw [pw] at h1;have b_:k<l.length:=by omega
  rw [sQ _ b_,qu];exact ⟨⟨by omega,by omega⟩,⟨by omega,by omega⟩,_,⟨rfl,K3 _ (h _ (pN b_))⟩,fun q=>(by cases q),fun _=>⟨k+1,by omega,by omega,(by and_intros<;>first | exact trivial | rfl | (rw [pt (by omega)];rfl))⟩⟩
 exact SX _ _ _ ⟨_,c1,a_,rfl,a_⟩
theorem B9 (m:List (List Rat)) (hl:m.length≤2 ^ 40) (h:∀r∈m,r.length≤2 ^ 40∧∀q∈r,rl q≤2 ^ 30):F 75 [.t 26 (p9 m),.t 26 (p9 m),.t 1 (.f 72 [])] (zo 3 4) [.b true]:=by
 refine SZ _ _ _ (fun k=>k≤m.length) (fun k=>m.length-k) ?_;rw [tz,rT];refine ⟨fun q=>(by cases q),fun _=>⟨⟨0,WS _,(by and_intros<;>first | exact trivial | rfl | (rw [pt (by omega)];rfl))⟩,fun _=>rfl,?_⟩⟩;intro k hk;refine ⟨fun h1=>?_,fun h1=>⟨a_,rfl,a_⟩⟩;rw [pw] at h1;have b_:k<m.length:=by omega
 have hr:=h _ (pN (d:=[]) b_);rw [rt,WP,rM m b_,qS];exact ⟨⟨by omega,by omega⟩,⟨by omega,by omega⟩,_,⟨rfl,CY _ hr.1 hr.2⟩,fun q=>(by cases q),fun _=>⟨k+1,by omega,by omega,(by and_intros<;>first | exact trivial | rfl | (rw [pt (by omega)];rfl))⟩⟩
theorem Re (h:Md) (c:Nat) (hk:rV h c):F 35 [.t 29 (rx h),.t 29 (rx h)] (zo 2 4) [.b true]:=by
 have z_:=hk.st;have cY:=hk.sym;have hc:=hk.cc;refine SF _ _ _ ?_;rw [xK,xL,vW,zH,wz,yK,zI,wr,wr];refine ⟨_,fun _=>K3 _ (by have:=hk.q0.1;omega),_,fun _=>⟨rfl,CY _ (by rw [hk.init];omega) fun q hq=>by have:=(hk.q1 q hq).1;omega⟩,_,fun _=>B9 _ (by rw [hk.trans];omega) fun r hr=>⟨by rw [hk.rows r hr];omega,fun q hq=>by have:=(hk.q2 r hr q hq).1;omega⟩,
  _,fun _=>⟨rfl,CY _ (by rw [hk.stop];omega) fun q hq=>by have:=(hk.q3 q hq).1;omega⟩,_,fun _=>B9 _ (by rw [hk.emit];omega) fun r hr=>⟨by rw [hk.shows r hr];omega,fun q hq=>by have:=(hk.q4 r hr q hq).1;omega⟩,
  _,fun _=>Rb _ (by simp [ul];omega),_,fun _=>Rf _ (by rw [qX,hk.ties];omega),a_,rfl,a_⟩
theorem NC {h:Md} {c:Nat} {s:Srv} (hk:rV h c) (H:sj h c s):F 12 [.t 32 (tW h s)] (zo 1 4) [.b true]:=by
 have hf:=H.few;have hm:=H.made;refine Ss _ _ (fun i=>i.2≤s.ss.length∧(∀j,i.2=j+1→i.1=(s.ss.getD j (0,on0)).1+1)∧(i.2=0→i.1=0)) (fun i=>s.ss.length-i.2) ?_;rw [Lk,Ow,Nm,Fh];refine ⟨_,vA h c hk,fun q=>?_,fun _=>⟨⟨(0,0),⟨WS _,(fun j hj=>by cases hj),fun _=>rfl⟩,(by and_intros<;>first | exact trivial | rfl | (rw [pt (by omega)];rfl))⟩,fun _=>rfl,?_⟩⟩
 ·exfalso
  rw [pF.2 (by omega),pF.2 (by omega),pF.2 (by omega)] at q;cases q
 rintro ⟨l,k⟩ ⟨aR,jz,fi⟩;dsimp only at aR jz fi ⊢;refine ⟨fun h1=>?_,fun h1=>⟨a_,rfl,a_⟩⟩;rw [pw] at h1;have b_:k<s.ss.length:=by omega
 have hn:=H.num k b_;have P_:l≤(s.ss.getD k (0,on0)).1:=by
  match k,jz with
  | 0,jz=>have:=fi rfl;omega
  | j+1,jz=>have:=jz j rfl;have:=H.up j b_;omega
 rw [GY _ _ b_,ye,TT,K8,Rk,pF.2 (by omega),tH.2 (by omega)];exact ⟨⟨by omega,by omega⟩,_,fun _=>yi hk (H.ok _ (pN b_)),_,fun _=>Re h c hk,fun q=>(by cases q),fun _=>⟨((s.ss.getD k (0,on0)).1+1,k+1),⟨b_,(fun j hj=>by simp at hj;subst hj;rfl),fun q=>by simp at q⟩,by dsimp only;omega,(by and_intros<;>first | exact trivial | rfl | (rw [pt (by omega)];rfl))⟩⟩
def Vu:Ctx:=⟨tab,sigs,79,[0,1,2,3,4,5,6,7,8,9,10,23,24,25],[],[],[],[],[]⟩
theorem Pt (a0:T) (y0:T) (y1:T) (y2:T) (I0:X8→Prop) (M0:X8→Nat) (I1:T→Prop) (h:∃y:T,F 34 [.t 60 (G15 a0)] (zo 1 4) [y]∧((!y.bool)=true→True∧T.l []=y0∧T.g [T.b false,T.l [],T.l []]=y1∧kI 4=y2∧True)∧((!y.bool)=false→((eqI (a0.cell 11).int (0:Int)=true→∃y:T,F 100 [.t 23 (T.g [a0.cell 2,a0.cell 3,a0.cell 4])] (zo 1 23) [y]∧∃i:T,I1 i∧R30 a0 (E3 y i (T.l []=T.l []∧True)))∧(eqI (a0.cell 11).int (0:Int)=false→∃i:T,I1 i∧R30 a0 (T.b false=i.cell 0∧T.l []=i.cell 1∧T.l []=i.cell 2∧T.l []=T.l []∧True)))∧(∀i:T,true=true)∧∀i:T,I1 i→(∃(i_1:X8),I0 i_1∧R30 a0 (E3 i i_1.1 (T.l []=i_1.2.1∧R25 a0 (kI 0=kI ↑i_1.2.2∧True))))∧(∀(i:X8),true=true)∧∀(i:X8),I0 i→(ltI ↑i.2.2 (lenOf (a0.cell 12).list)=true→(Bd ↑i.2.2 (lenOf (a0.cell 12).list))∧(Bd ↑i.2.2 (lenOf (a0.cell 7).list))∧∃y:T,F 166 [.t 23 (G3 (((a0.cell 12).list.getD (↑i.2.2:Int).toNat T.u).part 0 3)),.t 23 (((a0.cell 7).list.getD (↑i.2.2:Int).toNat T.u).part 0 3)] (zo 2 23) [y]∧∃y_1:T,F 117 [.t 23 (G3 y),.t 23 (G3 i.1)] (zo 2 2) [y_1]∧∃y_2:T,(ltI 0 y_1.int=false∧eqI y_1.int 0=true∧True→F 116 [.t 23 (G3 y)] (zo 1 2) [y_2])∧(ltI 0 y_1.int=false∧(T.ite (eqI y_1.int 0) (T.b (ltI 0 y_2.int)) (T.b false)).bool=true∧True→0≤(↑i.2.2:Int)∧(↑i.2.2:Int)<lenOf (a0.cell 13).list)∧∃y_3:T,(ltI 0 y_1.int=false∧(T.ite (eqI y_1.int 0) (T.b (ltI 0 y_2.int)) (T.b false)).bool=true∧True→F 167 [.t 28 (((a0.cell 13).list.getD (↑i.2.2:Int).toNat T.u).cell 0),.t 28 i.2.1] (zo 2 2) [y_3])∧((T.ite (ltI 0 y_1.int) (T.b true) (T.ite (T.ite (eqI y_1.int 0) (T.b (ltI 0 y_2.int)) (T.b false)).bool (T.b (ltI y_3.int 0)) (T.b false))).bool=true→(Bd ↑i.2.2 (lenOf (a0.cell 13).list))∧∃(j:X8),I0 j∧M0 j<M0 i∧R30 a0 (E3 y j.1 (((a0.cell 13).list.getD (↑i.2.2:Int).toNat T.u).cell 0=j.2.1∧R25 a0 (kI (pL .i64 ↑i.2.2 1)=kI ↑j.2.2∧True))))∧((T.ite (ltI 0 y_1.int) (T.b true) (T.ite (T.ite (eqI y_1.int 0) (T.b (ltI 0 y_2.int)) (T.b false)).bool (T.b (ltI y_3.int 0)) (T.b false))).bool=false→∃(j:X8),I0 j∧M0 j<M0 i∧R30 a0 (E3 i.1 j.1 (i.2.1=j.2.1∧R25 a0 (kI (pL .i64 ↑i.2.2 1)=kI ↑j.2.2∧True)))))∧(ltI ↑i.2.2 (lenOf (a0.cell 12).list)=false→∃y:T,F 116 [.t 23 (G3 i.1)] (zo 1 2) [y]∧(eqI y.int 0=true→True∧T.l []=y0∧T.g [T.b false,T.l [],T.l []]=y1∧kI 11=y2∧True)∧(eqI y.int 0=false→∃y:T,F 118 [.t 59 (T.l (((List.replicate 2 (T.l [])).set 0 (a0.cell 14)).set 1 i.2.1))] (zo 1 28) [y]∧True∧y=y0∧(G3 i.1)=y1∧kI 0=y2∧True)))):F 138 [.t 60 a0] Z15 [y0,y1,y2] :=
 p7 Vu (by kernel_rfl) Tryz.func138 (by kernel_rfl) (.two .no (.two .no (.two .no (.two .no (.cut (fun (ib:T)=>[(pp 0,AV.t 60 a0),(pp 1,AV.box 60 0 15)]++bxS 1 a0 0 Y2++[(pp 2,AV.t 28 (T.l [])),(pp 3,AV.box 23 0 3),(cell 3 0,AV.t 4 (T.b false)),(cell 3 1,AV.t 22 (T.l [])),(cell 3 2,AV.t 22 (T.l [])),(pp 4,AV.t 2 (T.i IntKind.i64 (0:Int))),(pp 5,AV.box 23 0 3)]++bxS 5 ib 0 Y3++[(pp 6,.t 28 (.l []))]) I1 .no (fun (ib:T)=>(.two (.two .no (.lp (fun (ia:X8)=>[(pp 0,AV.t 60 a0),(pp 1,AV.box 60 0 15)]++bxS 1 a0 0 Y2++[(pp 2,AV.t 28 (T.l [])),(pp 3,AV.box 23 0 3),(cell 3 0,AV.t 4 (T.b false)),(cell 3 1,AV.t 22 (T.l [])),(cell 3 2,AV.t 22 (T.l [])),(pp 4,AV.t 2 (T.i IntKind.i64 (0:Int))),(pp 5,AV.box 23 0 3)]++bxS 5 ia.1 0 Y3++[(pp 6,.t 28 ia.2.1),(pp 23,AV.t 25 (a0.cell 12)),(pp 24,AV.t 2 (T.i IntKind.i64 (lenOf (a0.cell 12).list))),(pp 25,.t 2 (.i .i64 (ia.2.2:Int)))]) I0 M0 (fun _=>.no))) .no))))))) (by kernel_rfl) h
def C96:Ctx:=⟨tab,sigs,89,[0,1,3,4,5,6,7,8,10,11,12,13,55,56,57],[cell 0 11],[(62,⟨[true],[],[]⟩),(132,⟨[],[(0,[false,false,false,false,false,false,false,false,false,false,false,true,false])],[]⟩)],[],[],[0]⟩
theorem J2 (b0_0:T) (b0_1:T) (b0_2:T) (b0_3:T) (b0_4:T) (b0_5:T) (b0_6:T) (b0_7:T) (b0_8:T) (b0_9:T) (b0_10:T) (b0_11:List T) (b0_12:T) (a1:T) (y0:T) (y1:T) (y2:T) (y3:T) (y4:T) (y5:T) (y6:T) (y7:T) (y8:T) (y9:T) (y10:T) (y11:T) (y12:T) (y13:T) (y14:T) (I0:X11→Prop) (M0:X11→Nat) (h:∃y y_1 y_2 y_3 y_4 y_5 y_6 y_7 y_8 y_9 y_10 y_11 y_12 y_13 y_14:T,F 132 [.box 111 13 [.t 2 b0_0,.t 2 b0_1,.t 4 b0_2,.t 22 b0_3,.t 22 b0_4,.t 25 b0_5,.t 26 b0_6,.t 25 b0_7,.t 26 b0_8,.t 27 b0_9,.t 28 b0_10,.own 31 0 b0_11,.t 2 b0_12],.t 2 (a1.cell 1)] Z14 [y,y_1,y_2,y_3,y_4,y_5,y_6,y_7,y_8,y_9,y_10,y_11,y_12,y_13,y_14]∧((!y_1.bool)=true→(True∧True)∧T.g [kI 0,kI 0,T.l [],T.l [],T.l [],T.b false,T.l [],T.l []]=y0∧kI 5=y1∧y_2=y2∧y_3=y3∧y_4=y4∧y_5=y5∧y_6=y6∧y_7=y7∧y_8=y8∧y_9=y9∧y_10=y10∧y_11=y11∧y_12=y12∧T.l y_13.list=y13∧y_14=y14∧True)∧((!y_1.bool)=false→(Bd (y.int) (↑y_13.list.length:Int))∧((T.ite (ltI (a1.cell 2).int (0:Int)) (T.b true) (T.b (ltI (((y_13.list.getD (0+y.int.toNat) T.u).part 1 15).cell 11).int (a1.cell 2).int))).bool=true→(True∧True)∧T.g [kI 0,kI 0,T.l [],T.l [],T.l [],T.b false,T.l [],T.l []]=y0∧kI 23=y1∧y_2=y2∧y_3=y3∧y_4=y4∧y_5=y5∧y_6=y6∧y_7=y7∧y_8=y8∧y_9=y9∧y_10=y10∧y_11=y11∧y_12=y12∧T.l y_13.list=y13∧y_14=y14∧True)∧((T.ite (ltI (a1.cell 2).int (0:Int)) (T.b true) (T.b (ltI (((y_13.list.getD (0+y.int.toNat) T.u).part 1 15).cell 11).int (a1.cell 2).int))).bool=false→(0≤xT (qc .i64 (((y_13.list.getD (0+y.int.toNat) T.u).part 1 15).cell 11).int (a1.cell 2).int) (lenOf (a1.cell 3).list)∧xT (qc .i64 (((y_13.list.getD (0+y.int.toNat) T.u).part 1 15).cell 11).int (a1.cell 2).int) (lenOf (a1.cell 3).list)≤lenOf (a1.cell 3).list∧lenOf (a1.cell 3).list≤lenOf (a1.cell 3).list)∧(∃(i:X11),I0 i∧True∧y_2=i.1.cell 0∧y_3=i.1.cell 1∧y_4=i.1.cell 2∧y_5=i.1.cell 3∧y_6=i.1.cell 4∧y_7=i.1.cell 5∧y_8=i.1.cell 6∧y_9=i.1.cell 7∧y_10=i.1.cell 8∧y_11=i.1.cell 9∧y_12=i.1.cell 10∧y_13.list=i.2.1∧y_14=i.1.cell 12∧R31 a1 (y=kI ↑i.2.2.1∧True∧E15 ((y_13.list.getD (0+y.int.toNat) T.u).part 1 15) i.2.2.2.1 (T.l (List.take (lenOf (a1.cell 3).list-xT (qc .i64 (((y_13.list.getD (0+y.int.toNat) T.u).part 1 15).cell 11).int (a1.cell 2).int) (lenOf (a1.cell 3).list)).toNat (List.drop (xT (qc .i64 (((y_13.list.getD (0+y.int.toNat) T.u).part 1 15).cell 11).int (a1.cell 2).int) (lenOf (a1.cell 3).list)).toNat (a1.cell 3).list))=i.2.2.2.2.2∧kI (lenOf (List.take (lenOf (a1.cell 3).list-xT (qc .i64 (((y_13.list.getD (0+y.int.toNat) T.u).part 1 15).cell 11).int (a1.cell 2).int) (lenOf (a1.cell 3).list)).toNat (List.drop (xT (qc .i64 (((y_13.list.getD (0+y.int.toNat) T.u).part 1 15).cell 11).int (a1.cell 2).int) (lenOf (a1.cell 3).list)).toNat (a1.cell 3).list)))=kI (lenOf i.2.2.2.2.2.list)∧kI 0=kI ↑i.2.2.2.2.1∧True)))∧(∀(i:X11),true=true)∧∀(i:X11),I0 i→(ltI ↑i.2.2.2.2.1 (lenOf i.2.2.2.2.2.list)=true→(Bd ↑i.2.2.2.2.1 (lenOf i.2.2.2.2.2.list))∧∃y y_15 y_16:T,F 133 [.t 60 (G15 i.2.2.2.1),.t 2 ((i.2.2.2.2.2.list.getD (↑i.2.2.2.2.1:Int).toNat T.u).cell 0)] Z16 [y,y_15,y_16]∧(neI y_16.int 0=true→(True∧True)∧T.g [kI 0,kI 0,T.l [],T.l [],T.l [],T.b false,T.l [],T.l []]=y0∧y_16=y1∧i.1.cell 0=y2∧i.1.cell 1=y3∧i.1.cell 2=y4∧i.1.cell 3=y5∧i.1.cell 4=y6∧i.1.cell 5=y7∧i.1.cell 6=y8∧i.1.cell 7=y9∧i.1.cell 8=y10∧i.1.cell 9=y11∧i.1.cell 10=y12∧T.l i.2.1=y13∧i.1.cell 12=y14∧True)∧(neI y_16.int 0=false→∃(j:X11),I0 j∧M0 j<M0 i∧True∧E11 i.1 j.1 (i.2.1=j.2.1∧i.1.cell 12=j.1.cell 12∧R31 a1 (kI ↑i.2.2.1=kI ↑j.2.2.1∧True∧E15 y j.2.2.2.1 (i.2.2.2.2.2=j.2.2.2.2.2∧kI (lenOf i.2.2.2.2.2.list)=kI (lenOf j.2.2.2.2.2.list)∧kI (pL .i64 ↑i.2.2.2.2.1 1)=kI ↑j.2.2.2.2.1∧True)))))∧(ltI ↑i.2.2.2.2.1 (lenOf i.2.2.2.2.2.list)=false→(Bd ↑i.2.2.1 (↑i.2.1.length:Int))∧∃y:T,F 62 [.t 28 (i.2.2.2.1.cell 14)] [(pp 1,28,[true].headD false)] [y]∧(True∧True)∧T.g [kI 0,(a1.cell 1).cell 0,T.l y.list,T.l [],T.l [],T.b false,T.l [],T.l []]=y0∧kI 0=y1∧i.1.cell 0=y2∧i.1.cell 1=y3∧i.1.cell 2=y4∧i.1.cell 3=y5∧i.1.cell 4=y6∧i.1.cell 5=y7∧i.1.cell 6=y8∧i.1.cell 7=y9∧i.1.cell 8=y10∧i.1.cell 9=y11∧i.1.cell 10=y12∧T.l (i.2.1.set (0+(↑i.2.2.1:Int).toNat) ((((((((((((((((i.2.1.getD (0+(↑i.2.2.1:Int).toNat) T.u).setCell 1 (i.2.2.2.1.cell 0)).setCell 2 (i.2.2.2.1.cell 1)).setCell 3 (i.2.2.2.1.cell 2)).setCell 4 (i.2.2.2.1.cell 3)).setCell 5 (i.2.2.2.1.cell 4)).setCell 6 (i.2.2.2.1.cell 5)).setCell 7 (i.2.2.2.1.cell 6)).setCell 8 (i.2.2.2.1.cell 7)).setCell 9 (i.2.2.2.1.cell 8)).setCell 10 (i.2.2.2.1.cell 9)).setCell 11 (i.2.2.2.1.cell 10)).setCell 12 (i.2.2.2.1.cell 11)).setCell 13 (i.2.2.2.1.cell 12)).setCell 14 (i.2.2.2.1.cell 13)).setCell 15 (i.2.2.2.1.cell 14)))=y13∧i.1.cell 12=y14∧True)))):F 96 [.box 111 13 [.t 2 b0_0,.t 2 b0_1,.t 4 b0_2,.t 22 b0_3,.t 22 b0_4,.t 25 b0_5,.t 26 b0_6,.t 25 b0_7,.t 26 b0_8,.t 27 b0_9,.t 28 b0_10,.own 31 0 b0_11,.t 2 b0_12],.t 35 a1] Z13 [y0,y1,y2,y3,y4,y5,y6,y7,y8,y9,y10,y11,y12,y13,y14] :=
 p7 C96 (by kernel_rfl) Tryz.func96 (by kernel_rfl) (.two .no (.two .no (.two .no (.two .no (.two .no (.two (.two .no (.lp (fun (ia:X11)=>[(pp 0,AV.box 111 0 13)]++bxS 0 ia.1 0 Y1++[(cell 0 11,.own 31 0 ia.2.1),(cell 0 12,.t 2 (ia.1.cell 12)),(pp 1,AV.t 35 a1),(pp 3,AV.box 35 0 5)]++bxS 3 a1 0 Y5++[(pp 4,AV.box 40 0 8),(cell 4 0,AV.t 2 (T.i IntKind.i64 (0:Int))),(cell 4 1,AV.t 2 (T.i IntKind.i64 (0:Int))),(cell 4 2,AV.t 28 (T.l [])),(cell 4 3,AV.t 34 (T.l [])),(cell 4 4,AV.t 28 (T.l [])),(cell 4 5,AV.t 4 (T.b false)),(cell 4 6,AV.t 22 (T.l [])),(cell 4 7,AV.t 22 (T.l [])),(pp 5,AV.t 2 (T.i IntKind.i64 (0:Int))),(pp 6,.t 2 (.i .i64 (ia.2.2.1:Int))),(pp 8,AV.box 60 0 15)]++bxS 8 ia.2.2.2.1 0 Y2++[(pp 55,.t 28 ia.2.2.2.2.2),(pp 56,.t 2 (.i .i64 (lenOf ia.2.2.2.2.2.list))),(pp 57,.t 2 (.i .i64 (ia.2.2.2.2.1:Int)))]) I0 M0 (fun _=>.no))) .no)))))) (by kernel_rfl) h
def C27:Ctx:=⟨tab,sigs,50,[0,1,2,4,5,6,7,8,9,11,12,13,19,24,29,30,31],[pp 9],[],[],[],[]⟩
theorem SB (a0:T) (a1:T) (y0:T) (y1:T) (y2:T) (I0:X12→Prop) (M0:X12→Nat) (h:∃y y_1:T,F 17 [.t 29 (G11 a0)] Z12 [y,y_1]∧(neI y_1.int 0=true→True∧T.l []=y0∧T.g [kI 0,kI 0,T.b false,T.l [],T.l [],T.l [],T.l [],T.l [],T.l [],T.l [],T.l [],T.l [],kI 0]=y1∧y_1=y2∧True)∧(neI y_1.int 0=false→(ltI 400 (lenOf a1.list)=true→True∧T.l []=y0∧T.g [kI 0,kI 0,T.b false,T.l [],T.l [],T.l [],T.l [],T.l [],T.l [],T.l [],T.l [],T.l [],kI 0]=y1∧kI 2=y2∧True)∧(ltI 400 (lenOf a1.list)=false→(∃(i:X12),I0 i∧R32 a0 a1 (E13 y i.1 ([]=i.2.1∧R7 a1 (kI 0=kI ↑i.2.2∧True))))∧(∀(i:X12),true=true)∧∀(i:X12),I0 i→(ltI ↑i.2.2 (lenOf a1.list)=true→(Bd ↑i.2.2 (lenOf a1.list))∧∃y y_2:T,F 29 [.t 32 (G13 i.1),.t 35 (G5 ((a1.list.getD (↑i.2.2:Int).toNat T.u).part 0 5))] Z10 [y,y_2]∧(Rm ((List.take i.2.1.length i.2.1).length+((List.replicate 1 (T.g [kI 0,kI 0,T.l [],T.l [],T.l [],T.b false,T.l [],T.l []])).set 0 (G8 y_2)).length) 144)∧∃(j:X12),I0 j∧M0 j<M0 i∧R32 a0 a1 (E13 y j.1 (List.take i.2.1.length i.2.1++(List.replicate 1 (T.g [kI 0,kI 0,T.l [],T.l [],T.l [],T.b false,T.l [],T.l []])).set 0 (G8 y_2)=j.2.1∧R7 a1 (kI (pL .i64 ↑i.2.2 1)=kI ↑j.2.2∧True))))∧(ltI ↑i.2.2 (lenOf a1.list)=false→∃y:T,F 30 [.t 32 (G13 i.1)] (zo 1 32) [y]∧True∧T.l (List.take i.2.1.length (List.drop 0 i.2.1))=y0∧(G13 y)=y1∧kI 0=y2∧True)))):F 27 [.t 29 a0,.t 82 a1] Z17 [y0,y1,y2] :=
 p7 C27 (by kernel_rfl) Tryz.func27 (by kernel_rfl) (.two .no (.two .no (.two .no (.two .no (.two (.two .no (.lp (fun (ia:X12)=>[(pp 0,AV.t 29 a0),(pp 1,AV.t 82 a1),(pp 2,AV.box 29 0 11)]++bxS 2 a0 0 Y1++[(pp 4,AV.t 78 (T.l [])),(pp 5,AV.box 32 0 13),(cell 5 0,AV.t 2 (T.i IntKind.i64 (0:Int))),(cell 5 1,AV.t 2 (T.i IntKind.i64 (0:Int))),(cell 5 2,AV.t 4 (T.b false)),(cell 5 3,AV.t 22 (T.l [])),(cell 5 4,AV.t 22 (T.l [])),(cell 5 5,AV.t 25 (T.l [])),(cell 5 6,AV.t 26 (T.l [])),(cell 5 7,AV.t 25 (T.l [])),(cell 5 8,AV.t 26 (T.l [])),(cell 5 9,AV.t 27 (T.l [])),(cell 5 10,AV.t 28 (T.l [])),(cell 5 11,AV.t 31 (T.l [])),(cell 5 12,AV.t 2 (T.i IntKind.i64 (0:Int))),(pp 6,AV.t 2 (T.i IntKind.i64 (0:Int))),(pp 7,AV.box 32 0 13)]++bxS 7 ia.1 0 Y4++[(pp 9,.own 78 0 ia.2.1),(pp 29,AV.t 82 a1),(pp 30,AV.t 2 (T.i IntKind.i64 (lenOf a1.list))),(pp 31,.t 2 (.i .i64 (ia.2.2:Int)))]) I0 M0 (fun _=>.no))) .no))))) (by kernel_rfl) h
def C30:Ctx:=⟨tab,sigs,49,[0,1,2,3,5,6,14,15,16],[cell 3 11,fld 12 13 11,pp 12],[(62,⟨[true],[],[]⟩)],[],[],[]⟩
theorem SD (a0:T) (y0:T) (I0:X12→Prop) (M0:X12→Nat) (h:∃y:T,F 59 [.t 29 (G11 a0)] (zo 1 29) [y]∧(∃(i:X12),I0 i∧R34 a0 (E11 y i.1 ([]=i.2.1∧R33 a0 (kI 0=kI ↑i.2.2∧True))))∧(∀(i:X12),true=true)∧∀(i:X12),I0 i→(ltI ↑i.2.2 (lenOf (a0.cell 11).list)=true→(Bd ↑i.2.2 (lenOf (a0.cell 11).list))∧∃y:T,F 59 [.t 29 (T.g [(((a0.cell 11).list.getD (↑i.2.2:Int).toNat T.u).part 0 16).cell 1,(((a0.cell 11).list.getD (↑i.2.2:Int).toNat T.u).part 0 16).cell 2,(((a0.cell 11).list.getD (↑i.2.2:Int).toNat T.u).part 0 16).cell 3,(((a0.cell 11).list.getD (↑i.2.2:Int).toNat T.u).part 0 16).cell 4,(((a0.cell 11).list.getD (↑i.2.2:Int).toNat T.u).part 0 16).cell 5,(((a0.cell 11).list.getD (↑i.2.2:Int).toNat T.u).part 0 16).cell 6,(((a0.cell 11).list.getD (↑i.2.2:Int).toNat T.u).part 0 16).cell 7,(((a0.cell 11).list.getD (↑i.2.2:Int).toNat T.u).part 0 16).cell 8,(((a0.cell 11).list.getD (↑i.2.2:Int).toNat T.u).part 0 16).cell 9,(((a0.cell 11).list.getD (↑i.2.2:Int).toNat T.u).part 0 16).cell 10,(((a0.cell 11).list.getD (↑i.2.2:Int).toNat T.u).part 0 16).cell 11])] (zo 1 29) [y]∧∃y_1:T,F 60 [.t 25 ((((a0.cell 11).list.getD (↑i.2.2:Int).toNat T.u).part 0 16).cell 13)] (zo 1 25) [y_1]∧∃y_2:T,F 61 [.t 59 ((((a0.cell 11).list.getD (↑i.2.2:Int).toNat T.u).part 0 16).cell 14)] (zo 1 59) [y_2]∧∃y_3:T,F 62 [.t 28 ((((a0.cell 11).list.getD (↑i.2.2:Int).toNat T.u).part 0 16).cell 15)] [(pp 1,28,[true].headD false)] [y_3]∧(Rm ((List.take i.2.1.length i.2.1).length+((List.replicate 1 (T.g [kI 0,kI 0,kI 0,T.b false,T.l [],T.l [],T.l [],T.l [],T.l [],T.l [],T.l [],T.l [],kI 0,T.l [],T.l [],T.l []])).set 0 (T.g [((((a0.cell 11).list.getD (↑i.2.2:Int).toNat T.u).part 0 16).cell 0).cell 0,y.cell 0,y.cell 1,y.cell 2,y.cell 3,y.cell 4,y.cell 5,y.cell 6,y.cell 7,y.cell 8,y.cell 9,y.cell 10,(((a0.cell 11).list.getD (↑i.2.2:Int).toNat T.u).part 0 16).cell 12,y_1,y_2,T.l y_3.list])).length) 304)∧∃(j:X12),I0 j∧M0 j<M0 i∧R34 a0 (E11 i.1 j.1 (List.take i.2.1.length i.2.1++(List.replicate 1 (T.g [kI 0,kI 0,kI 0,T.b false,T.l [],T.l [],T.l [],T.l [],T.l [],T.l [],T.l [],T.l [],kI 0,T.l [],T.l [],T.l []])).set 0 (T.g [((((a0.cell 11).list.getD (↑i.2.2:Int).toNat T.u).part 0 16).cell 0).cell 0,y.cell 0,y.cell 1,y.cell 2,y.cell 3,y.cell 4,y.cell 5,y.cell 6,y.cell 7,y.cell 8,y.cell 9,y.cell 10,(((a0.cell 11).list.getD (↑i.2.2:Int).toNat T.u).part 0 16).cell 12,y_1,y_2,T.l y_3.list])=j.2.1∧R33 a0 (kI (pL .i64 ↑i.2.2 1)=kI ↑j.2.2∧True))))∧(ltI ↑i.2.2 (lenOf (a0.cell 11).list)=false→True∧T.g [i.1.cell 0,i.1.cell 1,i.1.cell 2,i.1.cell 3,i.1.cell 4,i.1.cell 5,i.1.cell 6,i.1.cell 7,i.1.cell 8,i.1.cell 9,i.1.cell 10,T.l i.2.1,(a0.cell 12).cell 0]=y0∧True)):F 30 [.t 32 a0] (zo 1 32) [y0] :=
 p7 C30 (by kernel_rfl) Tryz.func30 (by kernel_rfl) (.two .no (.two .no (.two (.two .no (.lp (fun (ia:X12)=>[(pp 0,AV.t 32 a0),(pp 1,AV.box 32 0 13)]++bxS 1 a0 0 Y4++[(pp 2,AV.box 32 0 13),(cell 2 0,AV.t 2 (T.i IntKind.i64 (0:Int))),(cell 2 1,AV.t 2 (T.i IntKind.i64 (0:Int))),(cell 2 2,AV.t 4 (T.b false)),(cell 2 3,AV.t 22 (T.l [])),(cell 2 4,AV.t 22 (T.l [])),(cell 2 5,AV.t 25 (T.l [])),(cell 2 6,AV.t 26 (T.l [])),(cell 2 7,AV.t 25 (T.l [])),(cell 2 8,AV.t 26 (T.l [])),(cell 2 9,AV.t 27 (T.l [])),(cell 2 10,AV.t 28 (T.l [])),(cell 2 11,AV.t 31 (T.l [])),(cell 2 12,AV.t 2 (T.i IntKind.i64 (0:Int))),(pp 3,AV.box 32 0 13)]++bxS 3 ia.1 0 Y1++[(cell 3 11,.own 31 0 ia.2.1),(cell 3 12,AV.t 2 ((a0.cell 12).cell 0)),(pp 14,AV.t 31 (a0.cell 11)),(pp 15,AV.t 2 (T.i IntKind.i64 (lenOf (a0.cell 11).list))),(pp 16,.t 2 (.i .i64 (ia.2.2:Int)))]) I0 M0 (fun _=>.no))) .no))) (by kernel_rfl) h
end Go.Pq
