/- The program and the reference agree which cocycles are cohomologous, for all arguments (FnExactAreCohomologous). This file is a part of the proof. -/
import Derived.Test.YtkifphhpbcgieaaGreatAbC
import Derived.Test.YtkifphhpbcgieaaGreatWF
import Derived.Test.YtkifphhpbcgieaaGreatProg
namespace Go.Wk
open Go Go.Proofs Go.Ab
abbrev lV:=L 1 I
abbrev lM:=L 1 lV
abbrev lC:=L 1 lM
abbrev uC (x:zU):T:=T.agg [I x.Prime,I x.xG,T.ro (lM x.Rows)]
abbrev zV (x:zE):T:=T.agg [I x.Prime,I x.Dim,T.ro (lC x.zL)]
abbrev qPr (x:SPr):T:=T.agg [T.ro (lV x.zA),T.ro (lM x.zW),T.ro (lC x.zC)]
abbrev yD (x:zJ):T:=T.agg [T.ro (lV x.x),T.ro (lV x.v)]
theorem xD:Tryz.prog.follows .mixedOrders = true:=rfl
instance:Mix Tryz.prog:=⟨xD⟩
instance sli_22:zIo Tryz.prog 22 2:=⟨Tryz.underlying22⟩
instance row_23:zBF Tryz.prog 23 22 Tryz.t22 1:=⟨Tryz.underlying23,zP Tryz.type22,rfl⟩
instance sli_23:zIo Tryz.prog 23 22:=⟨Tryz.underlying23⟩
instance var_22:zAu Tryz.prog 22 true 1:=⟨fun u h1 h2 => ⟨_,_,Tryz.underlying22,zP Tryz.type22,by rw [h1];rfl,by rw [h2];rfl⟩⟩
instance row_24:zBF Tryz.prog 24 23 Tryz.t23 1:=⟨Tryz.underlying24,zP Tryz.type23,rfl⟩
instance sli_24:zIo Tryz.prog 24 23:=⟨Tryz.underlying24⟩
instance var_23:zAu Tryz.prog 23 true 1:=⟨fun u h1 h2 => ⟨_,_,Tryz.underlying23,zP Tryz.type23,by rw [h1];rfl,by rw [h2];rfl⟩⟩
instance fld_26_0:sU Tryz.prog 26 0 0:=⟨_,_,_,Tryz.underlying26,rfl,zP Tryz.type22,by decide,rfl⟩
instance fld_26_1:sU Tryz.prog 26 1 1:=⟨_,_,_,Tryz.underlying26,rfl,zP Tryz.type23,by decide,rfl⟩
instance fld_26_2:sU Tryz.prog 26 2 2:=⟨_,_,_,Tryz.underlying26,rfl,zP Tryz.type24,by decide,rfl⟩
instance var_24:zAu Tryz.prog 24 true 1:=⟨fun u h1 h2 => ⟨_,_,Tryz.underlying24,zP Tryz.type24,by rw [h1];rfl,by rw [h2];rfl⟩⟩
instance fld_28_2:sU Tryz.prog 28 2 2:=⟨_,_,_,Tryz.underlying28,rfl,zP Tryz.type24,by decide,rfl⟩
instance elt_22:ElT Tryz.prog 22 2 Tryz.t2 1 (I 0):=⟨Tryz.underlying22,zP Tryz.type2,⟨_,rfl,rfl⟩,rfl,Nat.le_of_ble_eq_true rfl,rfl,rfl,Nat.le_of_ble_eq_true rfl⟩
theorem zCK:Tryz.prog.info? 2 = some Tryz.t2:=zP Tryz.type2
instance infI_2:zEf Tryz.prog 2 Tryz.t2:=⟨zCK⟩
instance mkz_22:MkZ Tryz.prog 22 I 0 (I 0):=⟨rfl⟩
instance row_22:zBF Tryz.prog 22 2 Tryz.t2 1:=⟨Tryz.underlying22,zP Tryz.type2,rfl⟩
instance var_2:zAu Tryz.prog 2 true 1:=⟨fun u h1 h2 => ⟨_,_,Tryz.underlying2,zP Tryz.type2,by rw [h1];rfl,by rw [h2];rfl⟩⟩
instance elt_23:ElT Tryz.prog 23 22 Tryz.t22 1 (L 1 I []):=⟨Tryz.underlying23,zP Tryz.type22,⟨_,rfl,rfl⟩,rfl,Nat.le_of_ble_eq_true rfl,rfl,rfl,Nat.le_of_ble_eq_true rfl⟩
theorem zBY:Tryz.prog.info? 22 = some Tryz.t22:=zP Tryz.type22
instance infI_22:zEf Tryz.prog 22 Tryz.t22:=⟨zBY⟩
instance mkz_23:MkZ Tryz.prog 23 (L 1 I) ([]:List Int) (L 1 I []):=⟨rfl⟩
instance elt_24:ElT Tryz.prog 24 23 Tryz.t23 1 (L 1 (L 1 I) []):=⟨Tryz.underlying24,zP Tryz.type23,⟨_,rfl,rfl⟩,rfl,Nat.le_of_ble_eq_true rfl,rfl,rfl,Nat.le_of_ble_eq_true rfl⟩
theorem zIA:Tryz.prog.info? 23 = some Tryz.t23:=zP Tryz.type23
instance infI_23:zEf Tryz.prog 23 Tryz.t23:=⟨zIA⟩
instance mkz_24:MkZ Tryz.prog 24 (L 1 (L 1 I)) ([]:List (List Int)) (L 1 (L 1 I) []):=⟨rfl⟩
instance fld_34_0:sU Tryz.prog 34 0 0:=⟨_,_,_,Tryz.underlying34,rfl,zP Tryz.type22,by decide,rfl⟩
instance fld_34_1:sU Tryz.prog 34 1 1:=⟨_,_,_,Tryz.underlying34,rfl,zP Tryz.type23,by decide,rfl⟩
instance fld_34_2:sU Tryz.prog 34 2 2:=⟨_,_,_,Tryz.underlying34,rfl,zP Tryz.type24,by decide,rfl⟩
theorem zR7:Tryz.prog.info? 24 = some Tryz.t24:=zP Tryz.type24
instance infI_24:zEf Tryz.prog 24 Tryz.t24:=⟨zR7⟩
theorem zGB:Tryz.prog.info? 34 = some Tryz.t34:=zP Tryz.type34
instance infI_34:zEf Tryz.prog 34 Tryz.t34:=⟨zGB⟩
instance var_34:zAu Tryz.prog 34 false 3:=⟨fun u h1 h2 => ⟨_,_,Tryz.underlying34,zP Tryz.type34,by rw [h1];rfl,by rw [h2];rfl⟩⟩
instance zer_34:zJk Tryz.prog 34 (T.agg [L 1 I [],L 1 (L 1 I) [],L 1 (L 1 (L 1 I)) []]):=⟨_,_,zP Tryz.type34,rfl,rfl,rfl,rfl⟩
instance fld_28_0:sU Tryz.prog 28 0 0:=⟨_,_,_,Tryz.underlying28,rfl,zP Tryz.type2,by decide,rfl⟩
instance fld_28_1:sU Tryz.prog 28 1 1:=⟨_,_,_,Tryz.underlying28,rfl,zP Tryz.type2,by decide,rfl⟩
instance fld_36_0:sU Tryz.prog 36 0 0:=⟨_,_,_,Tryz.underlying36,rfl,zP Tryz.type2,by decide,rfl⟩
instance fld_36_1:sU Tryz.prog 36 1 1:=⟨_,_,_,Tryz.underlying36,rfl,zP Tryz.type2,by decide,rfl⟩
instance fld_36_2:sU Tryz.prog 36 2 2:=⟨_,_,_,Tryz.underlying36,rfl,zP Tryz.type24,by decide,rfl⟩
theorem zUT:Tryz.prog.info? 36 = some Tryz.t36:=zP Tryz.type36
instance infI_36:zEf Tryz.prog 36 Tryz.t36:=⟨zUT⟩
instance var_36:zAu Tryz.prog 36 false 3:=⟨fun u h1 h2 => ⟨_,_,Tryz.underlying36,zP Tryz.type36,by rw [h1];rfl,by rw [h2];rfl⟩⟩
instance zer_36:zJk Tryz.prog 36 (T.agg [I 0,I 0,L 1 (L 1 (L 1 I)) []]):=⟨_,_,zP Tryz.type36,rfl,rfl,rfl,rfl⟩
instance bld_130:zJm Tryz.prog 130 [I 0,I 0,I 0,I 0]:=⟨_,_,fun ps => sQ (zP Tryz.type130) Tryz.underlying130 rfl (places:=[(0,1),(1,1),(2,1),(3,1)]) (by simp [zP Tryz.type2];decide) ps,rfl,rfl,(by intro i u hu;match i,hu with | 0,hu => cases hu;rfl | 1,hu => cases hu;rfl | 2,hu => cases hu;rfl | 3,hu => cases hu;rfl | _ + 4,hu => simp at hu)⟩
theorem zSW:Tryz.prog.info? 130 = some Tryz.t130:=zP Tryz.type130
instance infI_130:zEf Tryz.prog 130 Tryz.t130:=⟨zSW⟩
instance var_130:zAu Tryz.prog 130 false 4:=⟨fun u h1 h2 => ⟨_,_,Tryz.underlying130,zP Tryz.type130,by rw [h1];rfl,by rw [h2];rfl⟩⟩
instance zer_130:zJk Tryz.prog 130 (T.agg [I 0,I 0,I 0,I 0]):=⟨_,_,zP Tryz.type130,rfl,rfl,rfl,rfl⟩
instance fld_130_0:sU Tryz.prog 130 0 0:=⟨_,_,_,Tryz.underlying130,rfl,zP Tryz.type2,by decide,rfl⟩
theorem zLN {u:T} (h1:u.single = true) (h2:u.size = 1):∃ (ds:TypeDesc) (ti:TypeInfo) (fs:Array Field) (f:Field),Tryz.prog.underlying 130 = some (.struct fs) ∧ fs[0]? = some f ∧ Tryz.prog.underlying f.type = some ds ∧ Tryz.prog.info? f.type = some ti ∧ zDM ds = !u.single ∧ ti.size = u.size:=⟨_,_,_,_,Tryz.underlying130,rfl,Tryz.underlying2,zP Tryz.type2,by rw [h1];rfl,by rw [h2];rfl⟩
instance fldw_130_0:zUa Tryz.prog 130 0 true 1:=⟨fun _ h1 h2 => zLN h1 h2⟩
instance bld_143:zJm Tryz.prog 143 [L 1 I [],L 1 I []]:=⟨_,_,fun ps => sQ (zP Tryz.type143) Tryz.underlying143 rfl (places:=[(0,1),(1,1)]) (by simp [zP Tryz.type22];decide) ps,rfl,rfl,(by intro i u hu;match i,hu with | 0,hu => cases hu;rfl | 1,hu => cases hu;rfl | _ + 2,hu => simp at hu)⟩
instance fld_95_0:sU Tryz.prog 95 0 0:=⟨_,_,_,Tryz.underlying95,rfl,zP Tryz.type34,by decide,rfl⟩
instance fld_95_2:sU Tryz.prog 95 2 6:=⟨_,_,_,Tryz.underlying95,rfl,zP Tryz.type23,by decide,rfl⟩
theorem wS:Tryz.prog.info? 143 = some Tryz.t143:=zP Tryz.type143
instance infI_143:zEf Tryz.prog 143 Tryz.t143:=⟨wS⟩
instance var_143:zAu Tryz.prog 143 false 2:=⟨fun u h1 h2 => ⟨_,_,Tryz.underlying143,zP Tryz.type143,by rw [h1];rfl,by rw [h2];rfl⟩⟩
instance zer_143:zJk Tryz.prog 143 (T.agg [L 1 I [],L 1 I []]):=⟨_,_,zP Tryz.type143,rfl,rfl,rfl,rfl⟩
instance fld_95_1:sU Tryz.prog 95 1 3:=⟨_,_,_,Tryz.underlying95,rfl,zP Tryz.type36,by decide,rfl⟩
instance fld_143_0:sU Tryz.prog 143 0 0:=⟨_,_,_,Tryz.underlying143,rfl,zP Tryz.type22,by decide,rfl⟩
instance fld_143_1:sU Tryz.prog 143 1 1:=⟨_,_,_,Tryz.underlying143,rfl,zP Tryz.type22,by decide,rfl⟩
instance var_95:zAu Tryz.prog 95 false 7:=⟨fun u h1 h2 => ⟨_,_,Tryz.underlying95,zP Tryz.type95,by rw [h1];rfl,by rw [h2];rfl⟩⟩
instance bld_95:zJm Tryz.prog 95 [T.agg [L 1 I [],L 1 (L 1 I) [],L 1 (L 1 (L 1 I)) []],T.agg [I 0,I 0,L 1 (L 1 (L 1 I)) []],L 1 (L 1 I) []]:=⟨_,_,fun ps => sQ (zP Tryz.type95) Tryz.underlying95 rfl (places:=[(0,3),(3,3),(6,1)]) (by simp [zP Tryz.type23,zP Tryz.type34,zP Tryz.type36];decide) ps,rfl,rfl,(by intro i u hu;match i,hu with | 0,hu => cases hu;rfl | 1,hu => cases hu;rfl | 2,hu => cases hu;rfl | _ + 3,hu => simp at hu)⟩
instance eqs_130:zRT Tryz.prog 130:=⟨⟨_,_,_,_,Tryz.underlying130,⟨by decide,rfl,Tryz.underlying2⟩,⟨by decide,rfl,Tryz.underlying2⟩,⟨by decide,rfl,Tryz.underlying2⟩,⟨by decide,rfl,Tryz.underlying2⟩⟩,Tryz.stoodInHeld130,Tryz.eqGuardType130⟩
instance bld_78:zJm Tryz.prog 78 [I 0,I 0,L 1 (L 1 I) []]:=⟨_,_,fun ps => sQ (zP Tryz.type78) Tryz.underlying78 rfl (places:=[(0,1),(1,1),(2,1)]) (by simp [zP Tryz.type2,zP Tryz.type23];decide) ps,rfl,rfl,(by intro i u hu;match i,hu with | 0,hu => cases hu;rfl | 1,hu => cases hu;rfl | 2,hu => cases hu;rfl | _ + 3,hu => simp at hu)⟩
theorem zGC:Tryz.prog.info? 78 = some Tryz.t78:=zP Tryz.type78
instance infI_78:zEf Tryz.prog 78 Tryz.t78:=⟨zGC⟩
instance var_78:zAu Tryz.prog 78 false 3:=⟨fun u h1 h2 => ⟨_,_,Tryz.underlying78,zP Tryz.type78,by rw [h1];rfl,by rw [h2];rfl⟩⟩
instance zer_78:zJk Tryz.prog 78 (T.agg [I 0,I 0,L 1 (L 1 I) []]):=⟨_,_,zP Tryz.type78,rfl,rfl,rfl,rfl⟩
instance fld_78_0:sU Tryz.prog 78 0 0:=⟨_,_,_,Tryz.underlying78,rfl,zP Tryz.type2,by decide,rfl⟩
instance fld_78_1:sU Tryz.prog 78 1 1:=⟨_,_,_,Tryz.underlying78,rfl,zP Tryz.type2,by decide,rfl⟩
instance fld_78_2:sU Tryz.prog 78 2 2:=⟨_,_,_,Tryz.underlying78,rfl,zP Tryz.type23,by decide,rfl⟩
instance bld_104:zJm Tryz.prog 104 [L 1 I [],L 1 I []]:=⟨_,_,fun ps => zIN (zP Tryz.type104) Tryz.underlying104 rfl (zP Tryz.type22) ps,rfl,rfl,(by intro i u hu;match i,hu with | 0,hu => cases hu;rfl | 1,hu => cases hu;rfl | _ + 2,hu => simp at hu)⟩
instance elt_102:ElT Tryz.prog 102 104 Tryz.t104 2 (T.agg [L 1 I ((([]:List Int),([]:List Int)).1),L 1 I ((([]:List Int),([]:List Int)).2)]):=⟨Tryz.underlying102,zP Tryz.type104,⟨_,rfl,rfl⟩,rfl,Nat.le_of_ble_eq_true rfl,rfl,rfl,Nat.le_of_ble_eq_true rfl⟩
instance row_102:zBF Tryz.prog 102 104 Tryz.t104 2:=⟨Tryz.underlying102,zP Tryz.type104,rfl⟩
instance arr_104:zVd Tryz.prog 104 22 Tryz.t22 2 1:=⟨Tryz.underlying104,zP Tryz.type22,rfl⟩
theorem zEx {u:T} (h1:u.single = true) (h2:u.size = 1):∃ (ds:TypeDesc) (ti:TypeInfo) (fs:Array Field) (f:Field),Tryz.prog.underlying 78 = some (.struct fs) ∧ fs[2]? = some f ∧ Tryz.prog.underlying f.type = some ds ∧ Tryz.prog.info? f.type = some ti ∧ zDM ds = !u.single ∧ ti.size = u.size:=⟨_,_,_,_,Tryz.underlying78,rfl,Tryz.underlying23,zP Tryz.type23,by rw [h1];rfl,by rw [h2];rfl⟩
instance fldw_78_2:zUa Tryz.prog 78 2 true 1:=⟨fun _ h1 h2 => zEx h1 h2⟩
theorem zIB:Tryz.prog.info? 104 = some Tryz.t104:=zP Tryz.type104
instance infI_104:zEf Tryz.prog 104 Tryz.t104:=⟨zIB⟩
instance sli_102:zIo Tryz.prog 102 104:=⟨Tryz.underlying102⟩
instance var_104:zAu Tryz.prog 104 false 2:=⟨fun u h1 h2 => ⟨_,_,Tryz.underlying104,zP Tryz.type104,by rw [h1];rfl,by rw [h2];rfl⟩⟩
instance zer_104:zJk Tryz.prog 104 (T.agg [L 1 I ((([]:List Int),([]:List Int)).1),L 1 I ((([]:List Int),([]:List Int)).2)]):=⟨_,_,zP Tryz.type104,rfl,rfl,rfl,rfl⟩
instance bld_34:zJm Tryz.prog 34 [L 1 I [],L 1 (L 1 I) [],L 1 (L 1 (L 1 I)) []]:=⟨_,_,fun ps => sQ (zP Tryz.type34) Tryz.underlying34 rfl (places:=[(0,1),(1,1),(2,1)]) (by simp [zP Tryz.type22,zP Tryz.type23,zP Tryz.type24];decide) ps,rfl,rfl,(by intro i u hu;match i,hu with | 0,hu => cases hu;rfl | 1,hu => cases hu;rfl | 2,hu => cases hu;rfl | _ + 3,hu => simp at hu)⟩
instance elt_111:ElT Tryz.prog 111 3 Tryz.t3 1 (I 0):=⟨Tryz.underlying111,zP Tryz.type3,⟨_,rfl,rfl⟩,rfl,Nat.le_of_ble_eq_true rfl,rfl,rfl,Nat.le_of_ble_eq_true rfl⟩
instance row_111:zBF Tryz.prog 111 3 Tryz.t3 1:=⟨Tryz.underlying111,zP Tryz.type3,rfl⟩
instance sli_111:zIo Tryz.prog 111 3:=⟨Tryz.underlying111⟩
instance var_3:zAu Tryz.prog 3 true 1:=⟨fun u h1 h2 => ⟨_,_,Tryz.underlying3,zP Tryz.type3,by rw [h1];rfl,by rw [h2];rfl⟩⟩
instance var_26:zAu Tryz.prog 26 false 3:=⟨fun u h1 h2 => ⟨_,_,Tryz.underlying26,zP Tryz.type26,by rw [h1];rfl,by rw [h2];rfl⟩⟩
instance var_28:zAu Tryz.prog 28 false 3:=⟨fun u h1 h2 => ⟨_,_,Tryz.underlying28,zP Tryz.type28,by rw [h1];rfl,by rw [h2];rfl⟩⟩
instance boo_4:zTw Tryz.prog 4:=⟨Tryz.underlying4⟩
end Go.Wk
