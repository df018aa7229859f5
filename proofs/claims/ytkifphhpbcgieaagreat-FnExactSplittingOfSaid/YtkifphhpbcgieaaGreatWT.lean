/- The program and the reference return the same splittings of cocycles, for all arguments (FnExactSplittingOf). This file is a part of the proof. -/
import Derived.Test.YtkifphhpbcgieaaGreatAbC
import Derived.Test.YtkifphhpbcgieaaGreatWF
import Derived.Test.YtkifphhpbcgieaaGreatProg
namespace Go.Wk
open Go Go.Proofs Go.Ab
abbrev lV:=L 1 I
abbrev lM:=L 1 lV
abbrev lC:=L 1 lM
abbrev uF (x:zV):T:=T.agg [I x.Prime,I x.xJ,T.ro (lM x.Rows)]
abbrev zY (x:zD):T:=T.agg [I x.Prime,I x.Dim,T.ro (lC x.zK)]
abbrev qPr (x:SPr):T:=T.agg [T.ro (lV x.zA),T.ro (lM x.zW),T.ro (lC x.zC)]
abbrev yF (x:zJ):T:=T.agg [T.ro (lV x.x),T.ro (lV x.v)]
theorem yW:Tryz.prog.follows .mixedOrders = true:=rfl
instance:Mix Tryz.prog:=⟨yW⟩
instance sli_22:zI2 Tryz.prog 22 2:=⟨Tryz.underlying22⟩
instance row_23:zBH Tryz.prog 23 22 Tryz.t22 1:=⟨Tryz.underlying23,zP Tryz.type22,rfl⟩
instance sli_23:zI2 Tryz.prog 23 22:=⟨Tryz.underlying23⟩
instance var_22:zA2 Tryz.prog 22 true 1:=⟨fun u h1 h2 => ⟨_,_,Tryz.underlying22,zP Tryz.type22,by rw [h1];rfl,by rw [h2];rfl⟩⟩
instance row_24:zBH Tryz.prog 24 23 Tryz.t23 1:=⟨Tryz.underlying24,zP Tryz.type23,rfl⟩
instance sli_24:zI2 Tryz.prog 24 23:=⟨Tryz.underlying24⟩
instance var_23:zA2 Tryz.prog 23 true 1:=⟨fun u h1 h2 => ⟨_,_,Tryz.underlying23,zP Tryz.type23,by rw [h1];rfl,by rw [h2];rfl⟩⟩
instance fld_26_0:qB Tryz.prog 26 0 0:=⟨_,_,_,Tryz.underlying26,rfl,zP Tryz.type22,by decide,rfl⟩
instance fld_26_1:qB Tryz.prog 26 1 1:=⟨_,_,_,Tryz.underlying26,rfl,zP Tryz.type23,by decide,rfl⟩
instance fld_26_2:qB Tryz.prog 26 2 2:=⟨_,_,_,Tryz.underlying26,rfl,zP Tryz.type24,by decide,rfl⟩
instance var_24:zA2 Tryz.prog 24 true 1:=⟨fun u h1 h2 => ⟨_,_,Tryz.underlying24,zP Tryz.type24,by rw [h1];rfl,by rw [h2];rfl⟩⟩
instance fld_28_2:qB Tryz.prog 28 2 2:=⟨_,_,_,Tryz.underlying28,rfl,zP Tryz.type24,by decide,rfl⟩
instance elt_22:ElT Tryz.prog 22 2 Tryz.t2 1 (I 0):=⟨Tryz.underlying22,zP Tryz.type2,⟨_,rfl,rfl⟩,rfl,Nat.le_of_ble_eq_true rfl,rfl,rfl,Nat.le_of_ble_eq_true rfl⟩
theorem zCO:Tryz.prog.info? 2 = some Tryz.t2:=zP Tryz.type2
instance infI_2:zEp Tryz.prog 2 Tryz.t2:=⟨zCO⟩
instance mkz_22:MkZ Tryz.prog 22 I 0 (I 0):=⟨rfl⟩
instance row_22:zBH Tryz.prog 22 2 Tryz.t2 1:=⟨Tryz.underlying22,zP Tryz.type2,rfl⟩
instance var_2:zA2 Tryz.prog 2 true 1:=⟨fun u h1 h2 => ⟨_,_,Tryz.underlying2,zP Tryz.type2,by rw [h1];rfl,by rw [h2];rfl⟩⟩
instance elt_23:ElT Tryz.prog 23 22 Tryz.t22 1 (L 1 I []):=⟨Tryz.underlying23,zP Tryz.type22,⟨_,rfl,rfl⟩,rfl,Nat.le_of_ble_eq_true rfl,rfl,rfl,Nat.le_of_ble_eq_true rfl⟩
theorem zCf:Tryz.prog.info? 22 = some Tryz.t22:=zP Tryz.type22
instance infI_22:zEp Tryz.prog 22 Tryz.t22:=⟨zCf⟩
instance mkz_23:MkZ Tryz.prog 23 (L 1 I) ([]:List Int) (L 1 I []):=⟨rfl⟩
instance elt_24:ElT Tryz.prog 24 23 Tryz.t23 1 (L 1 (L 1 I) []):=⟨Tryz.underlying24,zP Tryz.type23,⟨_,rfl,rfl⟩,rfl,Nat.le_of_ble_eq_true rfl,rfl,rfl,Nat.le_of_ble_eq_true rfl⟩
theorem zIP:Tryz.prog.info? 23 = some Tryz.t23:=zP Tryz.type23
instance infI_23:zEp Tryz.prog 23 Tryz.t23:=⟨zIP⟩
instance mkz_24:MkZ Tryz.prog 24 (L 1 (L 1 I)) ([]:List (List Int)) (L 1 (L 1 I) []):=⟨rfl⟩
instance fld_34_0:qB Tryz.prog 34 0 0:=⟨_,_,_,Tryz.underlying34,rfl,zP Tryz.type22,by decide,rfl⟩
instance fld_34_1:qB Tryz.prog 34 1 1:=⟨_,_,_,Tryz.underlying34,rfl,zP Tryz.type23,by decide,rfl⟩
instance fld_34_2:qB Tryz.prog 34 2 2:=⟨_,_,_,Tryz.underlying34,rfl,zP Tryz.type24,by decide,rfl⟩
theorem zSo:Tryz.prog.info? 24 = some Tryz.t24:=zP Tryz.type24
instance infI_24:zEp Tryz.prog 24 Tryz.t24:=⟨zSo⟩
theorem zE9:Tryz.prog.info? 34 = some Tryz.t34:=zP Tryz.type34
instance infI_34:zEp Tryz.prog 34 Tryz.t34:=⟨zE9⟩
instance var_34:zA2 Tryz.prog 34 false 3:=⟨fun u h1 h2 => ⟨_,_,Tryz.underlying34,zP Tryz.type34,by rw [h1];rfl,by rw [h2];rfl⟩⟩
instance zer_34:zJx Tryz.prog 34 (T.agg [L 1 I [],L 1 (L 1 I) [],L 1 (L 1 (L 1 I)) []]):=⟨_,_,zP Tryz.type34,rfl,rfl,rfl,rfl⟩
instance fld_28_0:qB Tryz.prog 28 0 0:=⟨_,_,_,Tryz.underlying28,rfl,zP Tryz.type2,by decide,rfl⟩
instance fld_28_1:qB Tryz.prog 28 1 1:=⟨_,_,_,Tryz.underlying28,rfl,zP Tryz.type2,by decide,rfl⟩
instance fld_36_0:qB Tryz.prog 36 0 0:=⟨_,_,_,Tryz.underlying36,rfl,zP Tryz.type2,by decide,rfl⟩
instance fld_36_1:qB Tryz.prog 36 1 1:=⟨_,_,_,Tryz.underlying36,rfl,zP Tryz.type2,by decide,rfl⟩
instance fld_36_2:qB Tryz.prog 36 2 2:=⟨_,_,_,Tryz.underlying36,rfl,zP Tryz.type24,by decide,rfl⟩
theorem zSp:Tryz.prog.info? 36 = some Tryz.t36:=zP Tryz.type36
instance infI_36:zEp Tryz.prog 36 Tryz.t36:=⟨zSp⟩
instance var_36:zA2 Tryz.prog 36 false 3:=⟨fun u h1 h2 => ⟨_,_,Tryz.underlying36,zP Tryz.type36,by rw [h1];rfl,by rw [h2];rfl⟩⟩
instance zer_36:zJx Tryz.prog 36 (T.agg [I 0,I 0,L 1 (L 1 (L 1 I)) []]):=⟨_,_,zP Tryz.type36,rfl,rfl,rfl,rfl⟩
instance bld_130:zJ0 Tryz.prog 130 [I 0,I 0,I 0,I 0]:=⟨_,_,fun ps => qA (zP Tryz.type130) Tryz.underlying130 rfl (places:=[(0,1),(1,1),(2,1),(3,1)]) (by simp [zP Tryz.type2];decide) ps,rfl,rfl,(by intro i u hu;match i,hu with | 0,hu => cases hu;rfl | 1,hu => cases hu;rfl | 2,hu => cases hu;rfl | 3,hu => cases hu;rfl | _ + 4,hu => simp at hu)⟩
theorem zTF:Tryz.prog.info? 130 = some Tryz.t130:=zP Tryz.type130
instance infI_130:zEp Tryz.prog 130 Tryz.t130:=⟨zTF⟩
instance var_130:zA2 Tryz.prog 130 false 4:=⟨fun u h1 h2 => ⟨_,_,Tryz.underlying130,zP Tryz.type130,by rw [h1];rfl,by rw [h2];rfl⟩⟩
instance zer_130:zJx Tryz.prog 130 (T.agg [I 0,I 0,I 0,I 0]):=⟨_,_,zP Tryz.type130,rfl,rfl,rfl,rfl⟩
instance fld_130_0:qB Tryz.prog 130 0 0:=⟨_,_,_,Tryz.underlying130,rfl,zP Tryz.type2,by decide,rfl⟩
theorem zMm {u:T} (h1:u.single = true) (h2:u.size = 1):∃ (ds:TypeDesc) (ti:TypeInfo) (fs:Array Field) (f:Field),Tryz.prog.underlying 130 = some (.struct fs) ∧ fs[0]? = some f ∧ Tryz.prog.underlying f.type = some ds ∧ Tryz.prog.info? f.type = some ti ∧ zDW ds = !u.single ∧ ti.size = u.size:=⟨_,_,_,_,Tryz.underlying130,rfl,Tryz.underlying2,zP Tryz.type2,by rw [h1];rfl,by rw [h2];rfl⟩
instance fldw_130_0:zUF Tryz.prog 130 0 true 1:=⟨fun _ h1 h2 => zMm h1 h2⟩
instance bld_143:zJ0 Tryz.prog 143 [L 1 I [],L 1 I []]:=⟨_,_,fun ps => qA (zP Tryz.type143) Tryz.underlying143 rfl (places:=[(0,1),(1,1)]) (by simp [zP Tryz.type22];decide) ps,rfl,rfl,(by intro i u hu;match i,hu with | 0,hu => cases hu;rfl | 1,hu => cases hu;rfl | _ + 2,hu => simp at hu)⟩
instance fld_95_0:qB Tryz.prog 95 0 0:=⟨_,_,_,Tryz.underlying95,rfl,zP Tryz.type34,by decide,rfl⟩
instance fld_95_2:qB Tryz.prog 95 2 6:=⟨_,_,_,Tryz.underlying95,rfl,zP Tryz.type23,by decide,rfl⟩
theorem wX:Tryz.prog.info? 143 = some Tryz.t143:=zP Tryz.type143
instance infI_143:zEp Tryz.prog 143 Tryz.t143:=⟨wX⟩
instance var_143:zA2 Tryz.prog 143 false 2:=⟨fun u h1 h2 => ⟨_,_,Tryz.underlying143,zP Tryz.type143,by rw [h1];rfl,by rw [h2];rfl⟩⟩
instance zer_143:zJx Tryz.prog 143 (T.agg [L 1 I [],L 1 I []]):=⟨_,_,zP Tryz.type143,rfl,rfl,rfl,rfl⟩
instance fld_95_1:qB Tryz.prog 95 1 3:=⟨_,_,_,Tryz.underlying95,rfl,zP Tryz.type36,by decide,rfl⟩
instance fld_143_0:qB Tryz.prog 143 0 0:=⟨_,_,_,Tryz.underlying143,rfl,zP Tryz.type22,by decide,rfl⟩
instance fld_143_1:qB Tryz.prog 143 1 1:=⟨_,_,_,Tryz.underlying143,rfl,zP Tryz.type22,by decide,rfl⟩
instance var_95:zA2 Tryz.prog 95 false 7:=⟨fun u h1 h2 => ⟨_,_,Tryz.underlying95,zP Tryz.type95,by rw [h1];rfl,by rw [h2];rfl⟩⟩
instance bld_95:zJ0 Tryz.prog 95 [T.agg [L 1 I [],L 1 (L 1 I) [],L 1 (L 1 (L 1 I)) []],T.agg [I 0,I 0,L 1 (L 1 (L 1 I)) []],L 1 (L 1 I) []]:=⟨_,_,fun ps => qA (zP Tryz.type95) Tryz.underlying95 rfl (places:=[(0,3),(3,3),(6,1)]) (by simp [zP Tryz.type23,zP Tryz.type34,zP Tryz.type36];decide) ps,rfl,rfl,(by intro i u hu;match i,hu with | 0,hu => cases hu;rfl | 1,hu => cases hu;rfl | 2,hu => cases hu;rfl | _ + 3,hu => simp at hu)⟩
instance eqs_130:zSA Tryz.prog 130:=⟨⟨_,_,_,_,Tryz.underlying130,⟨by decide,rfl,Tryz.underlying2⟩,⟨by decide,rfl,Tryz.underlying2⟩,⟨by decide,rfl,Tryz.underlying2⟩,⟨by decide,rfl,Tryz.underlying2⟩⟩,Tryz.stoodInHeld130,Tryz.eqGuardType130⟩
instance bld_78:zJ0 Tryz.prog 78 [I 0,I 0,L 1 (L 1 I) []]:=⟨_,_,fun ps => qA (zP Tryz.type78) Tryz.underlying78 rfl (places:=[(0,1),(1,1),(2,1)]) (by simp [zP Tryz.type2,zP Tryz.type23];decide) ps,rfl,rfl,(by intro i u hu;match i,hu with | 0,hu => cases hu;rfl | 1,hu => cases hu;rfl | 2,hu => cases hu;rfl | _ + 3,hu => simp at hu)⟩
theorem zGP:Tryz.prog.info? 78 = some Tryz.t78:=zP Tryz.type78
instance infI_78:zEp Tryz.prog 78 Tryz.t78:=⟨zGP⟩
instance var_78:zA2 Tryz.prog 78 false 3:=⟨fun u h1 h2 => ⟨_,_,Tryz.underlying78,zP Tryz.type78,by rw [h1];rfl,by rw [h2];rfl⟩⟩
instance zer_78:zJx Tryz.prog 78 (T.agg [I 0,I 0,L 1 (L 1 I) []]):=⟨_,_,zP Tryz.type78,rfl,rfl,rfl,rfl⟩
instance fld_78_0:qB Tryz.prog 78 0 0:=⟨_,_,_,Tryz.underlying78,rfl,zP Tryz.type2,by decide,rfl⟩
instance fld_78_1:qB Tryz.prog 78 1 1:=⟨_,_,_,Tryz.underlying78,rfl,zP Tryz.type2,by decide,rfl⟩
instance fld_78_2:qB Tryz.prog 78 2 2:=⟨_,_,_,Tryz.underlying78,rfl,zP Tryz.type23,by decide,rfl⟩
instance int_162:zPR Tryz.prog 162 .u32:=⟨Tryz.underlying162⟩
instance int_165:zPR Tryz.prog 165 .u64:=⟨Tryz.underlying165⟩
instance int_3:zPR Tryz.prog 3 .i64:=⟨Tryz.underlying3⟩
instance int_151:zPR Tryz.prog 151 .u64:=⟨Tryz.underlying151⟩
instance bld_104:zJ0 Tryz.prog 104 [L 1 I [],L 1 I []]:=⟨_,_,fun ps => zJc (zP Tryz.type104) Tryz.underlying104 rfl (zP Tryz.type22) ps,rfl,rfl,(by intro i u hu;match i,hu with | 0,hu => cases hu;rfl | 1,hu => cases hu;rfl | _ + 2,hu => simp at hu)⟩
instance elt_102:ElT Tryz.prog 102 104 Tryz.t104 2 (T.agg [L 1 I ((([]:List Int),([]:List Int)).1),L 1 I ((([]:List Int),([]:List Int)).2)]):=⟨Tryz.underlying102,zP Tryz.type104,⟨_,rfl,rfl⟩,rfl,Nat.le_of_ble_eq_true rfl,rfl,rfl,Nat.le_of_ble_eq_true rfl⟩
instance row_102:zBH Tryz.prog 102 104 Tryz.t104 2:=⟨Tryz.underlying102,zP Tryz.type104,rfl⟩
instance arr_104:zVG Tryz.prog 104 22 Tryz.t22 2 1:=⟨Tryz.underlying104,zP Tryz.type22,rfl⟩
theorem zEA {u:T} (h1:u.single = true) (h2:u.size = 1):∃ (ds:TypeDesc) (ti:TypeInfo) (fs:Array Field) (f:Field),Tryz.prog.underlying 78 = some (.struct fs) ∧ fs[2]? = some f ∧ Tryz.prog.underlying f.type = some ds ∧ Tryz.prog.info? f.type = some ti ∧ zDW ds = !u.single ∧ ti.size = u.size:=⟨_,_,_,_,Tryz.underlying78,rfl,Tryz.underlying23,zP Tryz.type23,by rw [h1];rfl,by rw [h2];rfl⟩
instance fldw_78_2:zUF Tryz.prog 78 2 true 1:=⟨fun _ h1 h2 => zEA h1 h2⟩
theorem zIQ:Tryz.prog.info? 104 = some Tryz.t104:=zP Tryz.type104
instance infI_104:zEp Tryz.prog 104 Tryz.t104:=⟨zIQ⟩
instance sli_102:zI2 Tryz.prog 102 104:=⟨Tryz.underlying102⟩
instance var_104:zA2 Tryz.prog 104 false 2:=⟨fun u h1 h2 => ⟨_,_,Tryz.underlying104,zP Tryz.type104,by rw [h1];rfl,by rw [h2];rfl⟩⟩
instance zer_104:zJx Tryz.prog 104 (T.agg [L 1 I ((([]:List Int),([]:List Int)).1),L 1 I ((([]:List Int),([]:List Int)).2)]):=⟨_,_,zP Tryz.type104,rfl,rfl,rfl,rfl⟩
instance bld_34:zJ0 Tryz.prog 34 [L 1 I [],L 1 (L 1 I) [],L 1 (L 1 (L 1 I)) []]:=⟨_,_,fun ps => qA (zP Tryz.type34) Tryz.underlying34 rfl (places:=[(0,1),(1,1),(2,1)]) (by simp [zP Tryz.type22,zP Tryz.type23,zP Tryz.type24];decide) ps,rfl,rfl,(by intro i u hu;match i,hu with | 0,hu => cases hu;rfl | 1,hu => cases hu;rfl | 2,hu => cases hu;rfl | _ + 3,hu => simp at hu)⟩
instance elt_111:ElT Tryz.prog 111 3 Tryz.t3 1 (I 0):=⟨Tryz.underlying111,zP Tryz.type3,⟨_,rfl,rfl⟩,rfl,Nat.le_of_ble_eq_true rfl,rfl,rfl,Nat.le_of_ble_eq_true rfl⟩
instance row_111:zBH Tryz.prog 111 3 Tryz.t3 1:=⟨Tryz.underlying111,zP Tryz.type3,rfl⟩
instance sli_111:zI2 Tryz.prog 111 3:=⟨Tryz.underlying111⟩
instance var_3:zA2 Tryz.prog 3 true 1:=⟨fun u h1 h2 => ⟨_,_,Tryz.underlying3,zP Tryz.type3,by rw [h1];rfl,by rw [h2];rfl⟩⟩
instance var_26:zA2 Tryz.prog 26 false 3:=⟨fun u h1 h2 => ⟨_,_,Tryz.underlying26,zP Tryz.type26,by rw [h1];rfl,by rw [h2];rfl⟩⟩
instance var_28:zA2 Tryz.prog 28 false 3:=⟨fun u h1 h2 => ⟨_,_,Tryz.underlying28,zP Tryz.type28,by rw [h1];rfl,by rw [h2];rfl⟩⟩
end Go.Wk
