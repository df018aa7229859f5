/- The program and the reference say alike which tails are cocycles, for all arguments (FnExactIsCocycle). This file is a part of the proof. -/
import Derived.Test.YtjbinegfmombcaaGreatAbC
import Derived.Test.YtjbinegfmombcaaGreatWF
import Derived.Test.YtjbinegfmombcaaGreatProg
namespace Go.Wk
open Go Go.Proofs Go.Ab
abbrev lV:=L 1 I
abbrev lM:=L 1 lV
abbrev lC:=L 1 lM
abbrev qFault (x:SFault):T:=T.agg [I x.Kind,I x.Level,I x.First,I x.Second]
abbrev qMatrix (x:SMatrix):T:=T.agg [I x.Prime,I x.Columns,T.ro (lM x.Rows)]
abbrev qModule (x:SModule):T:=T.agg [I x.Prime,I x.Dim,T.ro (lC x.Actions)]
abbrev qPresentation (x:SPresentation):T:=T.agg [T.ro (lV x.Orders),T.ro (lM x.Powers),T.ro (lC x.Conjugates)]
abbrev ql23Pair (x:Sl23Pair):T:=T.agg [T.ro (lV x.x),T.ro (lV x.v)]
theorem mixedP:Tryz.prog.follows .mixedOrders = true:=rfl
instance sli_22:SliI Tryz.prog 22 2:=⟨Tryz.underlying22⟩
instance row_23:RowT Tryz.prog 23 22 Tryz.t22 1:=⟨Tryz.underlying23,info_of Tryz.type22,rfl⟩
instance sli_23:SliI Tryz.prog 23 22:=⟨Tryz.underlying23⟩
instance var_22:VarI Tryz.prog 22 true 1:=⟨fun u h1 h2 => ⟨_,_,Tryz.underlying22,info_of Tryz.type22,by rw [h1];rfl,by rw [h2];rfl⟩⟩
instance row_24:RowT Tryz.prog 24 23 Tryz.t23 1:=⟨Tryz.underlying24,info_of Tryz.type23,rfl⟩
instance sli_24:SliI Tryz.prog 24 23:=⟨Tryz.underlying24⟩
instance var_23:VarI Tryz.prog 23 true 1:=⟨fun u h1 h2 => ⟨_,_,Tryz.underlying23,info_of Tryz.type23,by rw [h1];rfl,by rw [h2];rfl⟩⟩
instance fld_26_0:FldT Tryz.prog 26 0 0:=⟨_,_,_,Tryz.underlying26,rfl,info_of Tryz.type22,by decide,rfl⟩
instance fld_26_1:FldT Tryz.prog 26 1 1:=⟨_,_,_,Tryz.underlying26,rfl,info_of Tryz.type23,by decide,rfl⟩
instance fld_26_2:FldT Tryz.prog 26 2 2:=⟨_,_,_,Tryz.underlying26,rfl,info_of Tryz.type24,by decide,rfl⟩
instance var_24:VarI Tryz.prog 24 true 1:=⟨fun u h1 h2 => ⟨_,_,Tryz.underlying24,info_of Tryz.type24,by rw [h1];rfl,by rw [h2];rfl⟩⟩
instance fld_28_2:FldT Tryz.prog 28 2 2:=⟨_,_,_,Tryz.underlying28,rfl,info_of Tryz.type24,by decide,rfl⟩
instance elt_22:ElT Tryz.prog 22 2 Tryz.t2 1 (I 0):=⟨Tryz.underlying22,info_of Tryz.type2,⟨_,rfl,rfl⟩,rfl,Nat.le_of_ble_eq_true rfl,rfl,rfl,Nat.le_of_ble_eq_true rfl⟩
theorem inf_2:Tryz.prog.info? 2 = some Tryz.t2:=info_of Tryz.type2
instance row_22:RowT Tryz.prog 22 2 Tryz.t2 1:=⟨Tryz.underlying22,info_of Tryz.type2,rfl⟩
instance var_2:VarI Tryz.prog 2 true 1:=⟨fun u h1 h2 => ⟨_,_,Tryz.underlying2,info_of Tryz.type2,by rw [h1];rfl,by rw [h2];rfl⟩⟩
instance elt_23:ElT Tryz.prog 23 22 Tryz.t22 1 (L 1 I []):=⟨Tryz.underlying23,info_of Tryz.type22,⟨_,rfl,rfl⟩,rfl,Nat.le_of_ble_eq_true rfl,rfl,rfl,Nat.le_of_ble_eq_true rfl⟩
theorem inf_22:Tryz.prog.info? 22 = some Tryz.t22:=info_of Tryz.type22
instance elt_24:ElT Tryz.prog 24 23 Tryz.t23 1 (L 1 (L 1 I) []):=⟨Tryz.underlying24,info_of Tryz.type23,⟨_,rfl,rfl⟩,rfl,Nat.le_of_ble_eq_true rfl,rfl,rfl,Nat.le_of_ble_eq_true rfl⟩
theorem inf_23:Tryz.prog.info? 23 = some Tryz.t23:=info_of Tryz.type23
instance fld_34_0:FldT Tryz.prog 34 0 0:=⟨_,_,_,Tryz.underlying34,rfl,info_of Tryz.type22,by decide,rfl⟩
instance fld_34_1:FldT Tryz.prog 34 1 1:=⟨_,_,_,Tryz.underlying34,rfl,info_of Tryz.type23,by decide,rfl⟩
instance fld_34_2:FldT Tryz.prog 34 2 2:=⟨_,_,_,Tryz.underlying34,rfl,info_of Tryz.type24,by decide,rfl⟩
theorem inf_24:Tryz.prog.info? 24 = some Tryz.t24:=info_of Tryz.type24
theorem inf_34:Tryz.prog.info? 34 = some Tryz.t34:=info_of Tryz.type34
instance var_34:VarI Tryz.prog 34 false 3:=⟨fun u h1 h2 => ⟨_,_,Tryz.underlying34,info_of Tryz.type34,by rw [h1];rfl,by rw [h2];rfl⟩⟩
instance zer_34:ZerT Tryz.prog 34 (T.agg [L 1 I [],L 1 (L 1 I) [],L 1 (L 1 (L 1 I)) []]):=⟨_,_,info_of Tryz.type34,rfl,rfl,rfl,rfl⟩
instance fld_28_0:FldT Tryz.prog 28 0 0:=⟨_,_,_,Tryz.underlying28,rfl,info_of Tryz.type2,by decide,rfl⟩
instance fld_28_1:FldT Tryz.prog 28 1 1:=⟨_,_,_,Tryz.underlying28,rfl,info_of Tryz.type2,by decide,rfl⟩
instance fld_36_0:FldT Tryz.prog 36 0 0:=⟨_,_,_,Tryz.underlying36,rfl,info_of Tryz.type2,by decide,rfl⟩
instance fld_36_1:FldT Tryz.prog 36 1 1:=⟨_,_,_,Tryz.underlying36,rfl,info_of Tryz.type2,by decide,rfl⟩
instance fld_36_2:FldT Tryz.prog 36 2 2:=⟨_,_,_,Tryz.underlying36,rfl,info_of Tryz.type24,by decide,rfl⟩
theorem inf_36:Tryz.prog.info? 36 = some Tryz.t36:=info_of Tryz.type36
instance var_36:VarI Tryz.prog 36 false 3:=⟨fun u h1 h2 => ⟨_,_,Tryz.underlying36,info_of Tryz.type36,by rw [h1];rfl,by rw [h2];rfl⟩⟩
instance zer_36:ZerT Tryz.prog 36 (T.agg [I 0,I 0,L 1 (L 1 (L 1 I)) []]):=⟨_,_,info_of Tryz.type36,rfl,rfl,rfl,rfl⟩
instance bld_142:BldT Tryz.prog 142 [I 0,I 0,I 0,I 0]:=⟨_,_,fun ps => built_struct (info_of Tryz.type142) Tryz.underlying142 rfl (places:=[(0,1),(1,1),(2,1),(3,1)]) (by simp [info_of Tryz.type2];decide) ps,rfl,rfl,(by intro i u hu;match i,hu with | 0,hu => cases hu;rfl | 1,hu => cases hu;rfl | 2,hu => cases hu;rfl | 3,hu => cases hu;rfl | _ + 4,hu => simp at hu)⟩
theorem inf_142:Tryz.prog.info? 142 = some Tryz.t142:=info_of Tryz.type142
instance var_142:VarI Tryz.prog 142 false 4:=⟨fun u h1 h2 => ⟨_,_,Tryz.underlying142,info_of Tryz.type142,by rw [h1];rfl,by rw [h2];rfl⟩⟩
instance zer_142:ZerT Tryz.prog 142 (T.agg [I 0,I 0,I 0,I 0]):=⟨_,_,info_of Tryz.type142,rfl,rfl,rfl,rfl⟩
instance fld_142_0:FldT Tryz.prog 142 0 0:=⟨_,_,_,Tryz.underlying142,rfl,info_of Tryz.type2,by decide,rfl⟩
theorem fldv_142_0 {u:T} (h1:u.single = true) (h2:u.size = 1):∃ (ds:TypeDesc) (ti:TypeInfo) (fs:Array Field) (f:Field),Tryz.prog.underlying 142 = some (.struct fs) ∧ fs[0]? = some f ∧ Tryz.prog.underlying f.type = some ds ∧ Tryz.prog.info? f.type = some ti ∧ aggB ds = !u.single ∧ ti.size = u.size:=⟨_,_,_,_,Tryz.underlying142,rfl,Tryz.underlying2,info_of Tryz.type2,by rw [h1];rfl,by rw [h2];rfl⟩
instance eqs_142:EqS4 Tryz.prog 142:=⟨⟨_,_,_,_,Tryz.underlying142,⟨by decide,rfl,Tryz.underlying2⟩,⟨by decide,rfl,Tryz.underlying2⟩,⟨by decide,rfl,Tryz.underlying2⟩,⟨by decide,rfl,Tryz.underlying2⟩⟩,Tryz.stoodInHeld142,Tryz.eqGuardType142⟩
instance bld_55:BldT Tryz.prog 55 [I 0,I 0,L 1 (L 1 I) []]:=⟨_,_,fun ps => built_struct (info_of Tryz.type55) Tryz.underlying55 rfl (places:=[(0,1),(1,1),(2,1)]) (by simp [info_of Tryz.type2,info_of Tryz.type23];decide) ps,rfl,rfl,(by intro i u hu;match i,hu with | 0,hu => cases hu;rfl | 1,hu => cases hu;rfl | 2,hu => cases hu;rfl | _ + 3,hu => simp at hu)⟩
theorem inf_55:Tryz.prog.info? 55 = some Tryz.t55:=info_of Tryz.type55
instance var_55:VarI Tryz.prog 55 false 3:=⟨fun u h1 h2 => ⟨_,_,Tryz.underlying55,info_of Tryz.type55,by rw [h1];rfl,by rw [h2];rfl⟩⟩
instance zer_55:ZerT Tryz.prog 55 (T.agg [I 0,I 0,L 1 (L 1 I) []]):=⟨_,_,info_of Tryz.type55,rfl,rfl,rfl,rfl⟩
instance fld_55_0:FldT Tryz.prog 55 0 0:=⟨_,_,_,Tryz.underlying55,rfl,info_of Tryz.type2,by decide,rfl⟩
instance fld_55_1:FldT Tryz.prog 55 1 1:=⟨_,_,_,Tryz.underlying55,rfl,info_of Tryz.type2,by decide,rfl⟩
instance fld_55_2:FldT Tryz.prog 55 2 2:=⟨_,_,_,Tryz.underlying55,rfl,info_of Tryz.type23,by decide,rfl⟩
instance bld_102:BldT Tryz.prog 102 [L 1 I [],L 1 I []]:=⟨_,_,fun ps => built_array (info_of Tryz.type102) Tryz.underlying102 rfl (info_of Tryz.type22) ps,rfl,rfl,(by intro i u hu;match i,hu with | 0,hu => cases hu;rfl | 1,hu => cases hu;rfl | _ + 2,hu => simp at hu)⟩
instance elt_100:ElT Tryz.prog 100 102 Tryz.t102 2 (T.agg [L 1 I ((([]:List Int),([]:List Int)).1),L 1 I ((([]:List Int),([]:List Int)).2)]):=⟨Tryz.underlying100,info_of Tryz.type102,⟨_,rfl,rfl⟩,rfl,Nat.le_of_ble_eq_true rfl,rfl,rfl,Nat.le_of_ble_eq_true rfl⟩
instance arr_102:ArrT Tryz.prog 102 22 Tryz.t22 2 1:=⟨Tryz.underlying102,info_of Tryz.type22,rfl⟩
theorem fldv_55_2 {u:T} (h1:u.single = true) (h2:u.size = 1):∃ (ds:TypeDesc) (ti:TypeInfo) (fs:Array Field) (f:Field),Tryz.prog.underlying 55 = some (.struct fs) ∧ fs[2]? = some f ∧ Tryz.prog.underlying f.type = some ds ∧ Tryz.prog.info? f.type = some ti ∧ aggB ds = !u.single ∧ ti.size = u.size:=⟨_,_,_,_,Tryz.underlying55,rfl,Tryz.underlying23,info_of Tryz.type23,by rw [h1];rfl,by rw [h2];rfl⟩
theorem inf_102:Tryz.prog.info? 102 = some Tryz.t102:=info_of Tryz.type102
instance row_100:RowT Tryz.prog 100 102 Tryz.t102 2:=⟨Tryz.underlying100,info_of Tryz.type102,rfl⟩
instance sli_100:SliI Tryz.prog 100 102:=⟨Tryz.underlying100⟩
instance var_102:VarI Tryz.prog 102 false 2:=⟨fun u h1 h2 => ⟨_,_,Tryz.underlying102,info_of Tryz.type102,by rw [h1];rfl,by rw [h2];rfl⟩⟩
instance zer_102:ZerT Tryz.prog 102 (T.agg [L 1 I ((([]:List Int),([]:List Int)).1),L 1 I ((([]:List Int),([]:List Int)).2)]):=⟨_,_,info_of Tryz.type102,rfl,rfl,rfl,rfl⟩
instance var_26:VarI Tryz.prog 26 false 3:=⟨fun u h1 h2 => ⟨_,_,Tryz.underlying26,info_of Tryz.type26,by rw [h1];rfl,by rw [h2];rfl⟩⟩
instance var_28:VarI Tryz.prog 28 false 3:=⟨fun u h1 h2 => ⟨_,_,Tryz.underlying28,info_of Tryz.type28,by rw [h1];rfl,by rw [h2];rfl⟩⟩
instance bld_154:BldT Tryz.prog 154 [L 1 I [],L 1 I []]:=⟨_,_,fun ps => built_struct (info_of Tryz.type154) Tryz.underlying154 rfl (places:=[(0,1),(1,1)]) (by simp [info_of Tryz.type22];decide) ps,rfl,rfl,(by intro i u hu;match i,hu with | 0,hu => cases hu;rfl | 1,hu => cases hu;rfl | _ + 2,hu => simp at hu)⟩
instance fld_113_0:FldT Tryz.prog 113 0 0:=⟨_,_,_,Tryz.underlying113,rfl,info_of Tryz.type34,by decide,rfl⟩
instance fld_113_2:FldT Tryz.prog 113 2 6:=⟨_,_,_,Tryz.underlying113,rfl,info_of Tryz.type23,by decide,rfl⟩
theorem inf_154:Tryz.prog.info? 154 = some Tryz.t154:=info_of Tryz.type154
instance var_154:VarI Tryz.prog 154 false 2:=⟨fun u h1 h2 => ⟨_,_,Tryz.underlying154,info_of Tryz.type154,by rw [h1];rfl,by rw [h2];rfl⟩⟩
instance zer_154:ZerT Tryz.prog 154 (T.agg [L 1 I [],L 1 I []]):=⟨_,_,info_of Tryz.type154,rfl,rfl,rfl,rfl⟩
instance fld_113_1:FldT Tryz.prog 113 1 3:=⟨_,_,_,Tryz.underlying113,rfl,info_of Tryz.type36,by decide,rfl⟩
instance fld_154_0:FldT Tryz.prog 154 0 0:=⟨_,_,_,Tryz.underlying154,rfl,info_of Tryz.type22,by decide,rfl⟩
instance fld_154_1:FldT Tryz.prog 154 1 1:=⟨_,_,_,Tryz.underlying154,rfl,info_of Tryz.type22,by decide,rfl⟩
instance var_113:VarI Tryz.prog 113 false 7:=⟨fun u h1 h2 => ⟨_,_,Tryz.underlying113,info_of Tryz.type113,by rw [h1];rfl,by rw [h2];rfl⟩⟩
instance bld_113:BldT Tryz.prog 113 [T.agg [L 1 I [],L 1 (L 1 I) [],L 1 (L 1 (L 1 I)) []],T.agg [I 0,I 0,L 1 (L 1 (L 1 I)) []],L 1 (L 1 I) []]:=⟨_,_,fun ps => built_struct (info_of Tryz.type113) Tryz.underlying113 rfl (places:=[(0,3),(3,3),(6,1)]) (by simp [info_of Tryz.type23,info_of Tryz.type34,info_of Tryz.type36];decide) ps,rfl,rfl,(by intro i u hu;match i,hu with | 0,hu => cases hu;rfl | 1,hu => cases hu;rfl | 2,hu => cases hu;rfl | _ + 3,hu => simp at hu)⟩
instance bld_34:BldT Tryz.prog 34 [L 1 I [],L 1 (L 1 I) [],L 1 (L 1 (L 1 I)) []]:=⟨_,_,fun ps => built_struct (info_of Tryz.type34) Tryz.underlying34 rfl (places:=[(0,1),(1,1),(2,1)]) (by simp [info_of Tryz.type22,info_of Tryz.type23,info_of Tryz.type24];decide) ps,rfl,rfl,(by intro i u hu;match i,hu with | 0,hu => cases hu;rfl | 1,hu => cases hu;rfl | 2,hu => cases hu;rfl | _ + 3,hu => simp at hu)⟩
instance fld_52_2:FldT Tryz.prog 52 2 2:=⟨_,_,_,Tryz.underlying52,rfl,info_of Tryz.type23,by decide,rfl⟩
instance fld_52_0:FldT Tryz.prog 52 0 0:=⟨_,_,_,Tryz.underlying52,rfl,info_of Tryz.type2,by decide,rfl⟩
instance fld_52_1:FldT Tryz.prog 52 1 1:=⟨_,_,_,Tryz.underlying52,rfl,info_of Tryz.type2,by decide,rfl⟩
instance elt_145:ElT Tryz.prog 145 3 Tryz.t3 1 (I 0):=⟨Tryz.underlying145,info_of Tryz.type3,⟨_,rfl,rfl⟩,rfl,Nat.le_of_ble_eq_true rfl,rfl,rfl,Nat.le_of_ble_eq_true rfl⟩
instance row_145:RowT Tryz.prog 145 3 Tryz.t3 1:=⟨Tryz.underlying145,info_of Tryz.type3,rfl⟩
instance sli_145:SliI Tryz.prog 145 3:=⟨Tryz.underlying145⟩
instance var_3:VarI Tryz.prog 3 true 1:=⟨fun u h1 h2 => ⟨_,_,Tryz.underlying3,info_of Tryz.type3,by rw [h1];rfl,by rw [h2];rfl⟩⟩
instance var_52:VarI Tryz.prog 52 false 3:=⟨fun u h1 h2 => ⟨_,_,Tryz.underlying52,info_of Tryz.type52,by rw [h1];rfl,by rw [h2];rfl⟩⟩
end Go.Wk
