/- The program and the reference return the same Baer sums of cocycles, for all arguments (FnExactBaerSum). This file is a part of the proof. -/
import Derived.Test.YtkifphhpbcgieaaGreatAbC
import Derived.Test.YtkifphhpbcgieaaGreatWF
import Derived.Test.YtkifphhpbcgieaaGreatProg
namespace Go.Wk
open Go Go.Proofs Go.Ab
abbrev lV:=L 1 I
abbrev lM:=L 1 lV
abbrev lC:=L 1 lM
abbrev qMatrix (x:SMatrix):T:=T.agg [I x.Prime,I x.Columns,T.ro (lM x.Rows)]
abbrev qModule (x:SModule):T:=T.agg [I x.Prime,I x.Dim,T.ro (lC x.Actions)]
abbrev qPr (x:SPr):T:=T.agg [T.ro (lV x.Orders),T.ro (lM x.Powers),T.ro (lC x.Conjugates)]
abbrev ql23Pair (x:Sl23Pair):T:=T.agg [T.ro (lV x.x),T.ro (lV x.v)]
theorem mixedP:Tryz.prog.follows .mixedOrders = true:=rfl
instance:Mix Tryz.prog:=⟨mixedP⟩
instance sli_22:SliI Tryz.prog 22 2:=⟨Tryz.underlying22⟩
instance row_23:RowT Tryz.prog 23 22 Tryz.t22 1:=⟨Tryz.underlying23,info_of Tryz.type22,rfl⟩
instance sli_23:SliI Tryz.prog 23 22:=⟨Tryz.underlying23⟩
instance var_22:VarI Tryz.prog 22 true 1:=⟨fun u h1 h2 => ⟨_,_,Tryz.underlying22,info_of Tryz.type22,by rw [h1];rfl,by rw [h2];rfl⟩⟩
instance row_24:RowT Tryz.prog 24 23 Tryz.t23 1:=⟨Tryz.underlying24,info_of Tryz.type23,rfl⟩
instance sli_24:SliI Tryz.prog 24 23:=⟨Tryz.underlying24⟩
instance var_23:VarI Tryz.prog 23 true 1:=⟨fun u h1 h2 => ⟨_,_,Tryz.underlying23,info_of Tryz.type23,by rw [h1];rfl,by rw [h2];rfl⟩⟩
instance fld_26_0:FldT Tryz.prog 26 0 0:=⟨_,_,_,Tryz.underlying26,rfl,info_of Tryz.type22,by decide,rfl⟩
instance fld_26_1:FldT Tryz.prog 26 1 1:=⟨_,_,_,Tryz.underlying26,rfl,info_of Tryz.type23,by decide,rfl⟩
instance fld_26_2:FldT Tryz.prog 26 2 2:=⟨_,_,_,Tryz.underlying26,rfl,info_of Tryz.type24,by decide,rfl⟩
instance var_24:VarI Tryz.prog 24 true 1:=⟨fun u h1 h2 => ⟨_,_,Tryz.underlying24,info_of Tryz.type24,by rw [h1];rfl,by rw [h2];rfl⟩⟩
instance fld_28_2:FldT Tryz.prog 28 2 2:=⟨_,_,_,Tryz.underlying28,rfl,info_of Tryz.type24,by decide,rfl⟩
instance elt_22:ElT Tryz.prog 22 2 Tryz.t2 1 (I 0):=⟨Tryz.underlying22,info_of Tryz.type2,⟨_,rfl,rfl⟩,rfl,Nat.le_of_ble_eq_true rfl,rfl,rfl,Nat.le_of_ble_eq_true rfl⟩
theorem inf_2:Tryz.prog.info? 2 = some Tryz.t2:=info_of Tryz.type2
instance infI_2:InfI Tryz.prog 2 Tryz.t2:=⟨inf_2⟩
instance mkz_22:MkZ Tryz.prog 22 I 0 (I 0):=⟨rfl⟩
instance row_22:RowT Tryz.prog 22 2 Tryz.t2 1:=⟨Tryz.underlying22,info_of Tryz.type2,rfl⟩
instance var_2:VarI Tryz.prog 2 true 1:=⟨fun u h1 h2 => ⟨_,_,Tryz.underlying2,info_of Tryz.type2,by rw [h1];rfl,by rw [h2];rfl⟩⟩
instance elt_23:ElT Tryz.prog 23 22 Tryz.t22 1 (L 1 I []):=⟨Tryz.underlying23,info_of Tryz.type22,⟨_,rfl,rfl⟩,rfl,Nat.le_of_ble_eq_true rfl,rfl,rfl,Nat.le_of_ble_eq_true rfl⟩
theorem inf_22:Tryz.prog.info? 22 = some Tryz.t22:=info_of Tryz.type22
instance infI_22:InfI Tryz.prog 22 Tryz.t22:=⟨inf_22⟩
instance mkz_23:MkZ Tryz.prog 23 (L 1 I) ([]:List Int) (L 1 I []):=⟨rfl⟩
instance elt_24:ElT Tryz.prog 24 23 Tryz.t23 1 (L 1 (L 1 I) []):=⟨Tryz.underlying24,info_of Tryz.type23,⟨_,rfl,rfl⟩,rfl,Nat.le_of_ble_eq_true rfl,rfl,rfl,Nat.le_of_ble_eq_true rfl⟩
theorem inf_23:Tryz.prog.info? 23 = some Tryz.t23:=info_of Tryz.type23
instance infI_23:InfI Tryz.prog 23 Tryz.t23:=⟨inf_23⟩
instance mkz_24:MkZ Tryz.prog 24 (L 1 (L 1 I)) ([]:List (List Int)) (L 1 (L 1 I) []):=⟨rfl⟩
instance fld_34_0:FldT Tryz.prog 34 0 0:=⟨_,_,_,Tryz.underlying34,rfl,info_of Tryz.type22,by decide,rfl⟩
instance fld_34_1:FldT Tryz.prog 34 1 1:=⟨_,_,_,Tryz.underlying34,rfl,info_of Tryz.type23,by decide,rfl⟩
instance fld_34_2:FldT Tryz.prog 34 2 2:=⟨_,_,_,Tryz.underlying34,rfl,info_of Tryz.type24,by decide,rfl⟩
theorem inf_24:Tryz.prog.info? 24 = some Tryz.t24:=info_of Tryz.type24
instance infI_24:InfI Tryz.prog 24 Tryz.t24:=⟨inf_24⟩
theorem inf_34:Tryz.prog.info? 34 = some Tryz.t34:=info_of Tryz.type34
instance infI_34:InfI Tryz.prog 34 Tryz.t34:=⟨inf_34⟩
instance var_34:VarI Tryz.prog 34 false 3:=⟨fun u h1 h2 => ⟨_,_,Tryz.underlying34,info_of Tryz.type34,by rw [h1];rfl,by rw [h2];rfl⟩⟩
instance zer_34:ZerT Tryz.prog 34 (T.agg [L 1 I [],L 1 (L 1 I) [],L 1 (L 1 (L 1 I)) []]):=⟨_,_,info_of Tryz.type34,rfl,rfl,rfl,rfl⟩
instance fld_28_0:FldT Tryz.prog 28 0 0:=⟨_,_,_,Tryz.underlying28,rfl,info_of Tryz.type2,by decide,rfl⟩
instance fld_28_1:FldT Tryz.prog 28 1 1:=⟨_,_,_,Tryz.underlying28,rfl,info_of Tryz.type2,by decide,rfl⟩
instance fld_36_0:FldT Tryz.prog 36 0 0:=⟨_,_,_,Tryz.underlying36,rfl,info_of Tryz.type2,by decide,rfl⟩
instance fld_36_1:FldT Tryz.prog 36 1 1:=⟨_,_,_,Tryz.underlying36,rfl,info_of Tryz.type2,by decide,rfl⟩
instance fld_36_2:FldT Tryz.prog 36 2 2:=⟨_,_,_,Tryz.underlying36,rfl,info_of Tryz.type24,by decide,rfl⟩
theorem inf_36:Tryz.prog.info? 36 = some Tryz.t36:=info_of Tryz.type36
instance infI_36:InfI Tryz.prog 36 Tryz.t36:=⟨inf_36⟩
instance var_36:VarI Tryz.prog 36 false 3:=⟨fun u h1 h2 => ⟨_,_,Tryz.underlying36,info_of Tryz.type36,by rw [h1];rfl,by rw [h2];rfl⟩⟩
instance zer_36:ZerT Tryz.prog 36 (T.agg [I 0,I 0,L 1 (L 1 (L 1 I)) []]):=⟨_,_,info_of Tryz.type36,rfl,rfl,rfl,rfl⟩
instance bld_130:BldT Tryz.prog 130 [I 0,I 0,I 0,I 0]:=⟨_,_,fun ps => built_struct (info_of Tryz.type130) Tryz.underlying130 rfl (places:=[(0,1),(1,1),(2,1),(3,1)]) (by simp [info_of Tryz.type2];decide) ps,rfl,rfl,(by intro i u hu;match i,hu with | 0,hu => cases hu;rfl | 1,hu => cases hu;rfl | 2,hu => cases hu;rfl | 3,hu => cases hu;rfl | _ + 4,hu => simp at hu)⟩
theorem inf_130:Tryz.prog.info? 130 = some Tryz.t130:=info_of Tryz.type130
instance infI_130:InfI Tryz.prog 130 Tryz.t130:=⟨inf_130⟩
instance var_130:VarI Tryz.prog 130 false 4:=⟨fun u h1 h2 => ⟨_,_,Tryz.underlying130,info_of Tryz.type130,by rw [h1];rfl,by rw [h2];rfl⟩⟩
instance zer_130:ZerT Tryz.prog 130 (T.agg [I 0,I 0,I 0,I 0]):=⟨_,_,info_of Tryz.type130,rfl,rfl,rfl,rfl⟩
instance fld_130_0:FldT Tryz.prog 130 0 0:=⟨_,_,_,Tryz.underlying130,rfl,info_of Tryz.type2,by decide,rfl⟩
theorem fldv_130_0 {u:T} (h1:u.single = true) (h2:u.size = 1):∃ (ds:TypeDesc) (ti:TypeInfo) (fs:Array Field) (f:Field),Tryz.prog.underlying 130 = some (.struct fs) ∧ fs[0]? = some f ∧ Tryz.prog.underlying f.type = some ds ∧ Tryz.prog.info? f.type = some ti ∧ aggB ds = !u.single ∧ ti.size = u.size:=⟨_,_,_,_,Tryz.underlying130,rfl,Tryz.underlying2,info_of Tryz.type2,by rw [h1];rfl,by rw [h2];rfl⟩
instance fldw_130_0:FldV Tryz.prog 130 0 true 1:=⟨fun _ h1 h2 => fldv_130_0 h1 h2⟩
instance bld_143:BldT Tryz.prog 143 [L 1 I [],L 1 I []]:=⟨_,_,fun ps => built_struct (info_of Tryz.type143) Tryz.underlying143 rfl (places:=[(0,1),(1,1)]) (by simp [info_of Tryz.type22];decide) ps,rfl,rfl,(by intro i u hu;match i,hu with | 0,hu => cases hu;rfl | 1,hu => cases hu;rfl | _ + 2,hu => simp at hu)⟩
instance fld_95_0:FldT Tryz.prog 95 0 0:=⟨_,_,_,Tryz.underlying95,rfl,info_of Tryz.type34,by decide,rfl⟩
instance fld_95_2:FldT Tryz.prog 95 2 6:=⟨_,_,_,Tryz.underlying95,rfl,info_of Tryz.type23,by decide,rfl⟩
theorem inf_143:Tryz.prog.info? 143 = some Tryz.t143:=info_of Tryz.type143
instance infI_143:InfI Tryz.prog 143 Tryz.t143:=⟨inf_143⟩
instance var_143:VarI Tryz.prog 143 false 2:=⟨fun u h1 h2 => ⟨_,_,Tryz.underlying143,info_of Tryz.type143,by rw [h1];rfl,by rw [h2];rfl⟩⟩
instance zer_143:ZerT Tryz.prog 143 (T.agg [L 1 I [],L 1 I []]):=⟨_,_,info_of Tryz.type143,rfl,rfl,rfl,rfl⟩
instance fld_95_1:FldT Tryz.prog 95 1 3:=⟨_,_,_,Tryz.underlying95,rfl,info_of Tryz.type36,by decide,rfl⟩
instance fld_143_0:FldT Tryz.prog 143 0 0:=⟨_,_,_,Tryz.underlying143,rfl,info_of Tryz.type22,by decide,rfl⟩
instance fld_143_1:FldT Tryz.prog 143 1 1:=⟨_,_,_,Tryz.underlying143,rfl,info_of Tryz.type22,by decide,rfl⟩
instance var_95:VarI Tryz.prog 95 false 7:=⟨fun u h1 h2 => ⟨_,_,Tryz.underlying95,info_of Tryz.type95,by rw [h1];rfl,by rw [h2];rfl⟩⟩
instance bld_95:BldT Tryz.prog 95 [T.agg [L 1 I [],L 1 (L 1 I) [],L 1 (L 1 (L 1 I)) []],T.agg [I 0,I 0,L 1 (L 1 (L 1 I)) []],L 1 (L 1 I) []]:=⟨_,_,fun ps => built_struct (info_of Tryz.type95) Tryz.underlying95 rfl (places:=[(0,3),(3,3),(6,1)]) (by simp [info_of Tryz.type23,info_of Tryz.type34,info_of Tryz.type36];decide) ps,rfl,rfl,(by intro i u hu;match i,hu with | 0,hu => cases hu;rfl | 1,hu => cases hu;rfl | 2,hu => cases hu;rfl | _ + 3,hu => simp at hu)⟩
instance eqs_130:EqS4 Tryz.prog 130:=⟨⟨_,_,_,_,Tryz.underlying130,⟨by decide,rfl,Tryz.underlying2⟩,⟨by decide,rfl,Tryz.underlying2⟩,⟨by decide,rfl,Tryz.underlying2⟩,⟨by decide,rfl,Tryz.underlying2⟩⟩,Tryz.stoodInHeld130,Tryz.eqGuardType130⟩
instance bld_78:BldT Tryz.prog 78 [I 0,I 0,L 1 (L 1 I) []]:=⟨_,_,fun ps => built_struct (info_of Tryz.type78) Tryz.underlying78 rfl (places:=[(0,1),(1,1),(2,1)]) (by simp [info_of Tryz.type2,info_of Tryz.type23];decide) ps,rfl,rfl,(by intro i u hu;match i,hu with | 0,hu => cases hu;rfl | 1,hu => cases hu;rfl | 2,hu => cases hu;rfl | _ + 3,hu => simp at hu)⟩
theorem inf_78:Tryz.prog.info? 78 = some Tryz.t78:=info_of Tryz.type78
instance infI_78:InfI Tryz.prog 78 Tryz.t78:=⟨inf_78⟩
instance var_78:VarI Tryz.prog 78 false 3:=⟨fun u h1 h2 => ⟨_,_,Tryz.underlying78,info_of Tryz.type78,by rw [h1];rfl,by rw [h2];rfl⟩⟩
instance zer_78:ZerT Tryz.prog 78 (T.agg [I 0,I 0,L 1 (L 1 I) []]):=⟨_,_,info_of Tryz.type78,rfl,rfl,rfl,rfl⟩
instance fld_78_0:FldT Tryz.prog 78 0 0:=⟨_,_,_,Tryz.underlying78,rfl,info_of Tryz.type2,by decide,rfl⟩
instance fld_78_1:FldT Tryz.prog 78 1 1:=⟨_,_,_,Tryz.underlying78,rfl,info_of Tryz.type2,by decide,rfl⟩
instance fld_78_2:FldT Tryz.prog 78 2 2:=⟨_,_,_,Tryz.underlying78,rfl,info_of Tryz.type23,by decide,rfl⟩
instance bld_104:BldT Tryz.prog 104 [L 1 I [],L 1 I []]:=⟨_,_,fun ps => built_array (info_of Tryz.type104) Tryz.underlying104 rfl (info_of Tryz.type22) ps,rfl,rfl,(by intro i u hu;match i,hu with | 0,hu => cases hu;rfl | 1,hu => cases hu;rfl | _ + 2,hu => simp at hu)⟩
instance elt_102:ElT Tryz.prog 102 104 Tryz.t104 2 (T.agg [L 1 I ((([]:List Int),([]:List Int)).1),L 1 I ((([]:List Int),([]:List Int)).2)]):=⟨Tryz.underlying102,info_of Tryz.type104,⟨_,rfl,rfl⟩,rfl,Nat.le_of_ble_eq_true rfl,rfl,rfl,Nat.le_of_ble_eq_true rfl⟩
instance row_102:RowT Tryz.prog 102 104 Tryz.t104 2:=⟨Tryz.underlying102,info_of Tryz.type104,rfl⟩
instance arr_104:ArrT Tryz.prog 104 22 Tryz.t22 2 1:=⟨Tryz.underlying104,info_of Tryz.type22,rfl⟩
theorem fldv_78_2 {u:T} (h1:u.single = true) (h2:u.size = 1):∃ (ds:TypeDesc) (ti:TypeInfo) (fs:Array Field) (f:Field),Tryz.prog.underlying 78 = some (.struct fs) ∧ fs[2]? = some f ∧ Tryz.prog.underlying f.type = some ds ∧ Tryz.prog.info? f.type = some ti ∧ aggB ds = !u.single ∧ ti.size = u.size:=⟨_,_,_,_,Tryz.underlying78,rfl,Tryz.underlying23,info_of Tryz.type23,by rw [h1];rfl,by rw [h2];rfl⟩
instance fldw_78_2:FldV Tryz.prog 78 2 true 1:=⟨fun _ h1 h2 => fldv_78_2 h1 h2⟩
theorem inf_104:Tryz.prog.info? 104 = some Tryz.t104:=info_of Tryz.type104
instance infI_104:InfI Tryz.prog 104 Tryz.t104:=⟨inf_104⟩
instance sli_102:SliI Tryz.prog 102 104:=⟨Tryz.underlying102⟩
instance var_104:VarI Tryz.prog 104 false 2:=⟨fun u h1 h2 => ⟨_,_,Tryz.underlying104,info_of Tryz.type104,by rw [h1];rfl,by rw [h2];rfl⟩⟩
instance zer_104:ZerT Tryz.prog 104 (T.agg [L 1 I ((([]:List Int),([]:List Int)).1),L 1 I ((([]:List Int),([]:List Int)).2)]):=⟨_,_,info_of Tryz.type104,rfl,rfl,rfl,rfl⟩
instance bld_34:BldT Tryz.prog 34 [L 1 I [],L 1 (L 1 I) [],L 1 (L 1 (L 1 I)) []]:=⟨_,_,fun ps => built_struct (info_of Tryz.type34) Tryz.underlying34 rfl (places:=[(0,1),(1,1),(2,1)]) (by simp [info_of Tryz.type22,info_of Tryz.type23,info_of Tryz.type24];decide) ps,rfl,rfl,(by intro i u hu;match i,hu with | 0,hu => cases hu;rfl | 1,hu => cases hu;rfl | 2,hu => cases hu;rfl | _ + 3,hu => simp at hu)⟩
instance elt_111:ElT Tryz.prog 111 3 Tryz.t3 1 (I 0):=⟨Tryz.underlying111,info_of Tryz.type3,⟨_,rfl,rfl⟩,rfl,Nat.le_of_ble_eq_true rfl,rfl,rfl,Nat.le_of_ble_eq_true rfl⟩
instance row_111:RowT Tryz.prog 111 3 Tryz.t3 1:=⟨Tryz.underlying111,info_of Tryz.type3,rfl⟩
instance sli_111:SliI Tryz.prog 111 3:=⟨Tryz.underlying111⟩
instance var_3:VarI Tryz.prog 3 true 1:=⟨fun u h1 h2 => ⟨_,_,Tryz.underlying3,info_of Tryz.type3,by rw [h1];rfl,by rw [h2];rfl⟩⟩
instance var_26:VarI Tryz.prog 26 false 3:=⟨fun u h1 h2 => ⟨_,_,Tryz.underlying26,info_of Tryz.type26,by rw [h1];rfl,by rw [h2];rfl⟩⟩
instance var_28:VarI Tryz.prog 28 false 3:=⟨fun u h1 h2 => ⟨_,_,Tryz.underlying28,info_of Tryz.type28,by rw [h1];rfl,by rw [h2];rfl⟩⟩
end Go.Wk
