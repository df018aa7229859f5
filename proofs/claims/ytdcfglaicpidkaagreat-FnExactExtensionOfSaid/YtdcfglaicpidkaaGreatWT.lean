/- The program and the reference return the same extensions by tails, for all arguments (FnExactExtensionOf). This file is a part of the proof. -/
import Derived.Test.YtdcfglaicpidkaaGreatAbC
import Derived.Test.YtdcfglaicpidkaaGreatWF
import Derived.Test.YtdcfglaicpidkaaGreatProg
namespace Go.Wk
open Go Go.Proofs Go.Ab
abbrev lV:=L 1 I
abbrev lM:=L 1 lV
abbrev lC:=L 1 lM
abbrev qFault (x:SFault):T:=T.agg [I x.Kind,I x.Level,I x.First,I x.Second]
abbrev qMatrix (x:SMatrix):T:=T.agg [I x.Prime,I x.Columns,T.ro (lM x.Rows)]
abbrev qModule (x:SModule):T:=T.agg [I x.Prime,I x.Dim,T.ro (lC x.Actions)]
abbrev qPr (x:SPr):T:=T.agg [T.ro (lV x.Orders),T.ro (lM x.Powers),T.ro (lC x.Conjugates)]
abbrev ql23Pair (x:Sl23Pair):T:=T.agg [T.ro (lV x.x),T.ro (lV x.v)]
theorem mixedP:Tryz.prog.follows .mixedOrders = true:=rfl
instance sli_22:SliI Tryz.prog 22 2:=⟨Tryz.underlying22⟩
instance row_23:RowT Tryz.prog 23 22 Tryz.t22 1:=⟨Tryz.underlying23,info_of Tryz.type22,rfl⟩
instance sli_23:SliI Tryz.prog 23 22:=⟨Tryz.underlying23⟩
instance var_22:VarI Tryz.prog 22 true 1:=⟨fun u h1 h2 => ⟨_,_,Tryz.underlying22,info_of Tryz.type22,by rw [h1];rfl,by rw [h2];rfl⟩⟩
instance row_24:RowT Tryz.prog 24 23 Tryz.t23 1:=⟨Tryz.underlying24,info_of Tryz.type23,rfl⟩
instance sli_24:SliI Tryz.prog 24 23:=⟨Tryz.underlying24⟩
instance var_23:VarI Tryz.prog 23 true 1:=⟨fun u h1 h2 => ⟨_,_,Tryz.underlying23,info_of Tryz.type23,by rw [h1];rfl,by rw [h2];rfl⟩⟩
instance fld_26_0:FldT Tryz.prog 26 0 0:=⟨_,_,_,Tryz.underlying26,rfl,info_of Tryz.type22,by decide,rfl⟩
instance fld_26_1:FldT Tryz.prog 26 1 1:=⟨_,_,_,Tryz.underlying26,rfl,info_of Tryz.type23,by decide,rfl⟩
instance fld_26_2:FldT Tryz.prog 26 2 2:=⟨_,_,_,Tryz.underlying26,rfl,info_of Tryz.type24,by decide,rfl⟩
instance var_24:VarI Tryz.prog 24 true 1:=⟨fun u h1 h2 => ⟨_,_,Tryz.underlying24,info_of Tryz.type24,by rw [h1];rfl,by rw [h2];rfl⟩⟩
instance fld_28_2:FldT Tryz.prog 28 2 2:=⟨_,_,_,Tryz.underlying28,rfl,info_of Tryz.type24,by decide,rfl⟩
instance elt_22:ElT Tryz.prog 22 2 Tryz.t2 1 (I 0):=⟨Tryz.underlying22,info_of Tryz.type2,⟨_,rfl,rfl⟩,rfl,Nat.le_of_ble_eq_true rfl,rfl,rfl,Nat.le_of_ble_eq_true rfl⟩
theorem inf_2:Tryz.prog.info? 2 = some Tryz.t2:=info_of Tryz.type2
instance row_22:RowT Tryz.prog 22 2 Tryz.t2 1:=⟨Tryz.underlying22,info_of Tryz.type2,rfl⟩
instance var_2:VarI Tryz.prog 2 true 1:=⟨fun u h1 h2 => ⟨_,_,Tryz.underlying2,info_of Tryz.type2,by rw [h1];rfl,by rw [h2];rfl⟩⟩
instance elt_23:ElT Tryz.prog 23 22 Tryz.t22 1 (L 1 I []):=⟨Tryz.underlying23,info_of Tryz.type22,⟨_,rfl,rfl⟩,rfl,Nat.le_of_ble_eq_true rfl,rfl,rfl,Nat.le_of_ble_eq_true rfl⟩
theorem inf_22:Tryz.prog.info? 22 = some Tryz.t22:=info_of Tryz.type22
instance elt_24:ElT Tryz.prog 24 23 Tryz.t23 1 (L 1 (L 1 I) []):=⟨Tryz.underlying24,info_of Tryz.type23,⟨_,rfl,rfl⟩,rfl,Nat.le_of_ble_eq_true rfl,rfl,rfl,Nat.le_of_ble_eq_true rfl⟩
theorem inf_23:Tryz.prog.info? 23 = some Tryz.t23:=info_of Tryz.type23
instance fld_33_0:FldT Tryz.prog 33 0 0:=⟨_,_,_,Tryz.underlying33,rfl,info_of Tryz.type22,by decide,rfl⟩
instance fld_33_1:FldT Tryz.prog 33 1 1:=⟨_,_,_,Tryz.underlying33,rfl,info_of Tryz.type23,by decide,rfl⟩
instance fld_33_2:FldT Tryz.prog 33 2 2:=⟨_,_,_,Tryz.underlying33,rfl,info_of Tryz.type24,by decide,rfl⟩
theorem inf_24:Tryz.prog.info? 24 = some Tryz.t24:=info_of Tryz.type24
theorem inf_33:Tryz.prog.info? 33 = some Tryz.t33:=info_of Tryz.type33
instance var_33:VarI Tryz.prog 33 false 3:=⟨fun u h1 h2 => ⟨_,_,Tryz.underlying33,info_of Tryz.type33,by rw [h1];rfl,by rw [h2];rfl⟩⟩
instance zer_33:ZerT Tryz.prog 33 (T.agg [L 1 I [],L 1 (L 1 I) [],L 1 (L 1 (L 1 I)) []]):=⟨_,_,info_of Tryz.type33,rfl,rfl,rfl,rfl⟩
instance fld_28_0:FldT Tryz.prog 28 0 0:=⟨_,_,_,Tryz.underlying28,rfl,info_of Tryz.type2,by decide,rfl⟩
instance fld_28_1:FldT Tryz.prog 28 1 1:=⟨_,_,_,Tryz.underlying28,rfl,info_of Tryz.type2,by decide,rfl⟩
instance fld_35_0:FldT Tryz.prog 35 0 0:=⟨_,_,_,Tryz.underlying35,rfl,info_of Tryz.type2,by decide,rfl⟩
instance fld_35_1:FldT Tryz.prog 35 1 1:=⟨_,_,_,Tryz.underlying35,rfl,info_of Tryz.type2,by decide,rfl⟩
instance fld_35_2:FldT Tryz.prog 35 2 2:=⟨_,_,_,Tryz.underlying35,rfl,info_of Tryz.type24,by decide,rfl⟩
theorem inf_35:Tryz.prog.info? 35 = some Tryz.t35:=info_of Tryz.type35
instance var_35:VarI Tryz.prog 35 false 3:=⟨fun u h1 h2 => ⟨_,_,Tryz.underlying35,info_of Tryz.type35,by rw [h1];rfl,by rw [h2];rfl⟩⟩
instance zer_35:ZerT Tryz.prog 35 (T.agg [I 0,I 0,L 1 (L 1 (L 1 I)) []]):=⟨_,_,info_of Tryz.type35,rfl,rfl,rfl,rfl⟩
instance bld_129:BldT Tryz.prog 129 [I 0,I 0,I 0,I 0]:=⟨_,_,fun ps => built_struct (info_of Tryz.type129) Tryz.underlying129 rfl (places:=[(0,1),(1,1),(2,1),(3,1)]) (by simp [info_of Tryz.type2];decide) ps,rfl,rfl,(by intro i u hu;match i,hu with | 0,hu => cases hu;rfl | 1,hu => cases hu;rfl | 2,hu => cases hu;rfl | 3,hu => cases hu;rfl | _ + 4,hu => simp at hu)⟩
theorem inf_129:Tryz.prog.info? 129 = some Tryz.t129:=info_of Tryz.type129
instance var_129:VarI Tryz.prog 129 false 4:=⟨fun u h1 h2 => ⟨_,_,Tryz.underlying129,info_of Tryz.type129,by rw [h1];rfl,by rw [h2];rfl⟩⟩
instance zer_129:ZerT Tryz.prog 129 (T.agg [I 0,I 0,I 0,I 0]):=⟨_,_,info_of Tryz.type129,rfl,rfl,rfl,rfl⟩
instance fld_129_0:FldT Tryz.prog 129 0 0:=⟨_,_,_,Tryz.underlying129,rfl,info_of Tryz.type2,by decide,rfl⟩
theorem fldv_129_0 {u:T} (h1:u.single = true) (h2:u.size = 1):∃ (ds:TypeDesc) (ti:TypeInfo) (fs:Array Field) (f:Field),Tryz.prog.underlying 129 = some (.struct fs) ∧ fs[0]? = some f ∧ Tryz.prog.underlying f.type = some ds ∧ Tryz.prog.info? f.type = some ti ∧ aggB ds = !u.single ∧ ti.size = u.size:=⟨_,_,_,_,Tryz.underlying129,rfl,Tryz.underlying2,info_of Tryz.type2,by rw [h1];rfl,by rw [h2];rfl⟩
instance eqs_129:EqS4 Tryz.prog 129:=⟨⟨_,_,_,_,Tryz.underlying129,⟨by decide,rfl,Tryz.underlying2⟩,⟨by decide,rfl,Tryz.underlying2⟩,⟨by decide,rfl,Tryz.underlying2⟩,⟨by decide,rfl,Tryz.underlying2⟩⟩,Tryz.stoodInHeld129,Tryz.eqGuardType129⟩
instance bld_73:BldT Tryz.prog 73 [I 0,I 0,L 1 (L 1 I) []]:=⟨_,_,fun ps => built_struct (info_of Tryz.type73) Tryz.underlying73 rfl (places:=[(0,1),(1,1),(2,1)]) (by simp [info_of Tryz.type2,info_of Tryz.type23];decide) ps,rfl,rfl,(by intro i u hu;match i,hu with | 0,hu => cases hu;rfl | 1,hu => cases hu;rfl | 2,hu => cases hu;rfl | _ + 3,hu => simp at hu)⟩
theorem inf_73:Tryz.prog.info? 73 = some Tryz.t73:=info_of Tryz.type73
instance var_73:VarI Tryz.prog 73 false 3:=⟨fun u h1 h2 => ⟨_,_,Tryz.underlying73,info_of Tryz.type73,by rw [h1];rfl,by rw [h2];rfl⟩⟩
instance zer_73:ZerT Tryz.prog 73 (T.agg [I 0,I 0,L 1 (L 1 I) []]):=⟨_,_,info_of Tryz.type73,rfl,rfl,rfl,rfl⟩
instance fld_73_0:FldT Tryz.prog 73 0 0:=⟨_,_,_,Tryz.underlying73,rfl,info_of Tryz.type2,by decide,rfl⟩
instance fld_73_1:FldT Tryz.prog 73 1 1:=⟨_,_,_,Tryz.underlying73,rfl,info_of Tryz.type2,by decide,rfl⟩
instance fld_73_2:FldT Tryz.prog 73 2 2:=⟨_,_,_,Tryz.underlying73,rfl,info_of Tryz.type23,by decide,rfl⟩
instance bld_77:BldT Tryz.prog 77 [L 1 I [],L 1 I []]:=⟨_,_,fun ps => built_array (info_of Tryz.type77) Tryz.underlying77 rfl (info_of Tryz.type22) ps,rfl,rfl,(by intro i u hu;match i,hu with | 0,hu => cases hu;rfl | 1,hu => cases hu;rfl | _ + 2,hu => simp at hu)⟩
instance elt_75:ElT Tryz.prog 75 77 Tryz.t77 2 (T.agg [L 1 I ((([]:List Int),([]:List Int)).1),L 1 I ((([]:List Int),([]:List Int)).2)]):=⟨Tryz.underlying75,info_of Tryz.type77,⟨_,rfl,rfl⟩,rfl,Nat.le_of_ble_eq_true rfl,rfl,rfl,Nat.le_of_ble_eq_true rfl⟩
instance arr_77:ArrT Tryz.prog 77 22 Tryz.t22 2 1:=⟨Tryz.underlying77,info_of Tryz.type22,rfl⟩
theorem fldv_73_2 {u:T} (h1:u.single = true) (h2:u.size = 1):∃ (ds:TypeDesc) (ti:TypeInfo) (fs:Array Field) (f:Field),Tryz.prog.underlying 73 = some (.struct fs) ∧ fs[2]? = some f ∧ Tryz.prog.underlying f.type = some ds ∧ Tryz.prog.info? f.type = some ti ∧ aggB ds = !u.single ∧ ti.size = u.size:=⟨_,_,_,_,Tryz.underlying73,rfl,Tryz.underlying23,info_of Tryz.type23,by rw [h1];rfl,by rw [h2];rfl⟩
theorem inf_77:Tryz.prog.info? 77 = some Tryz.t77:=info_of Tryz.type77
instance row_75:RowT Tryz.prog 75 77 Tryz.t77 2:=⟨Tryz.underlying75,info_of Tryz.type77,rfl⟩
instance sli_75:SliI Tryz.prog 75 77:=⟨Tryz.underlying75⟩
instance var_77:VarI Tryz.prog 77 false 2:=⟨fun u h1 h2 => ⟨_,_,Tryz.underlying77,info_of Tryz.type77,by rw [h1];rfl,by rw [h2];rfl⟩⟩
instance zer_77:ZerT Tryz.prog 77 (T.agg [L 1 I ((([]:List Int),([]:List Int)).1),L 1 I ((([]:List Int),([]:List Int)).2)]):=⟨_,_,info_of Tryz.type77,rfl,rfl,rfl,rfl⟩
instance var_26:VarI Tryz.prog 26 false 3:=⟨fun u h1 h2 => ⟨_,_,Tryz.underlying26,info_of Tryz.type26,by rw [h1];rfl,by rw [h2];rfl⟩⟩
instance var_28:VarI Tryz.prog 28 false 3:=⟨fun u h1 h2 => ⟨_,_,Tryz.underlying28,info_of Tryz.type28,by rw [h1];rfl,by rw [h2];rfl⟩⟩
instance bld_150:BldT Tryz.prog 150 [L 1 I [],L 1 I []]:=⟨_,_,fun ps => built_struct (info_of Tryz.type150) Tryz.underlying150 rfl (places:=[(0,1),(1,1)]) (by simp [info_of Tryz.type22];decide) ps,rfl,rfl,(by intro i u hu;match i,hu with | 0,hu => cases hu;rfl | 1,hu => cases hu;rfl | _ + 2,hu => simp at hu)⟩
instance fld_120_0:FldT Tryz.prog 120 0 0:=⟨_,_,_,Tryz.underlying120,rfl,info_of Tryz.type33,by decide,rfl⟩
instance fld_120_2:FldT Tryz.prog 120 2 6:=⟨_,_,_,Tryz.underlying120,rfl,info_of Tryz.type23,by decide,rfl⟩
theorem inf_150:Tryz.prog.info? 150 = some Tryz.t150:=info_of Tryz.type150
instance var_150:VarI Tryz.prog 150 false 2:=⟨fun u h1 h2 => ⟨_,_,Tryz.underlying150,info_of Tryz.type150,by rw [h1];rfl,by rw [h2];rfl⟩⟩
instance zer_150:ZerT Tryz.prog 150 (T.agg [L 1 I [],L 1 I []]):=⟨_,_,info_of Tryz.type150,rfl,rfl,rfl,rfl⟩
instance fld_120_1:FldT Tryz.prog 120 1 3:=⟨_,_,_,Tryz.underlying120,rfl,info_of Tryz.type35,by decide,rfl⟩
instance fld_150_0:FldT Tryz.prog 150 0 0:=⟨_,_,_,Tryz.underlying150,rfl,info_of Tryz.type22,by decide,rfl⟩
instance fld_150_1:FldT Tryz.prog 150 1 1:=⟨_,_,_,Tryz.underlying150,rfl,info_of Tryz.type22,by decide,rfl⟩
instance var_120:VarI Tryz.prog 120 false 7:=⟨fun u h1 h2 => ⟨_,_,Tryz.underlying120,info_of Tryz.type120,by rw [h1];rfl,by rw [h2];rfl⟩⟩
instance bld_120:BldT Tryz.prog 120 [T.agg [L 1 I [],L 1 (L 1 I) [],L 1 (L 1 (L 1 I)) []],T.agg [I 0,I 0,L 1 (L 1 (L 1 I)) []],L 1 (L 1 I) []]:=⟨_,_,fun ps => built_struct (info_of Tryz.type120) Tryz.underlying120 rfl (places:=[(0,3),(3,3),(6,1)]) (by simp [info_of Tryz.type23,info_of Tryz.type33,info_of Tryz.type35];decide) ps,rfl,rfl,(by intro i u hu;match i,hu with | 0,hu => cases hu;rfl | 1,hu => cases hu;rfl | 2,hu => cases hu;rfl | _ + 3,hu => simp at hu)⟩
instance bld_33:BldT Tryz.prog 33 [L 1 I [],L 1 (L 1 I) [],L 1 (L 1 (L 1 I)) []]:=⟨_,_,fun ps => built_struct (info_of Tryz.type33) Tryz.underlying33 rfl (places:=[(0,1),(1,1),(2,1)]) (by simp [info_of Tryz.type22,info_of Tryz.type23,info_of Tryz.type24];decide) ps,rfl,rfl,(by intro i u hu;match i,hu with | 0,hu => cases hu;rfl | 1,hu => cases hu;rfl | 2,hu => cases hu;rfl | _ + 3,hu => simp at hu)⟩
end Go.Wk
