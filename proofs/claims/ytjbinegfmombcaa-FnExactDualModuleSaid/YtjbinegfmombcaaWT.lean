/- The program and the reference return the same dual modules, for all arguments (FnExactDualModule). This file is a part of the proof. -/
import Derived.Test.YtjbinegfmombcaaAbC
import Derived.Test.YtjbinegfmombcaaWF
import Derived.Test.YtjbinegfmombcaaProg
namespace Go.Wk
open Go Go.Proofs Go.Ab
abbrev lV := L 1 I
abbrev lM := L 1 lV
abbrev lC := L 1 lM
abbrev qFault (x : SFault) : T := T.agg [I x.Kind,I x.Level,I x.First,I x.Second]
abbrev qMatrix (x : SMatrix) : T := T.agg [I x.Prime,I x.Columns,T.ro (lM x.Rows)]
abbrev qModule (x : SModule) : T := T.agg [I x.Prime,I x.Dim,T.ro (lC x.Actions)]
abbrev qPresentation (x : SPresentation) : T := T.agg [T.ro (lV x.Orders),T.ro (lM x.Powers),T.ro (lC x.Conjugates)]
theorem mixedP : Try.prog.follows .mixedOrders = true := rfl
instance sli_22 : SliI Try.prog 22 2 := ⟨Try.underlying22⟩
instance row_23 : RowT Try.prog 23 22 Try.t22 1 := ⟨Try.underlying23,info_of Try.type22,rfl⟩
instance sli_23 : SliI Try.prog 23 22 := ⟨Try.underlying23⟩
instance var_22 : VarI Try.prog 22 true 1 := ⟨fun u h1 h2 => ⟨_,_,Try.underlying22,info_of Try.type22,by rw [h1];rfl,by rw [h2];rfl⟩⟩
instance row_24 : RowT Try.prog 24 23 Try.t23 1 := ⟨Try.underlying24,info_of Try.type23,rfl⟩
instance sli_24 : SliI Try.prog 24 23 := ⟨Try.underlying24⟩
instance var_23 : VarI Try.prog 23 true 1 := ⟨fun u h1 h2 => ⟨_,_,Try.underlying23,info_of Try.type23,by rw [h1];rfl,by rw [h2];rfl⟩⟩
instance fld_26_0 : FldT Try.prog 26 0 0 := ⟨_,_,_,Try.underlying26,rfl,info_of Try.type22,by decide,rfl⟩
instance fld_26_1 : FldT Try.prog 26 1 1 := ⟨_,_,_,Try.underlying26,rfl,info_of Try.type23,by decide,rfl⟩
instance fld_26_2 : FldT Try.prog 26 2 2 := ⟨_,_,_,Try.underlying26,rfl,info_of Try.type24,by decide,rfl⟩
instance var_24 : VarI Try.prog 24 true 1 := ⟨fun u h1 h2 => ⟨_,_,Try.underlying24,info_of Try.type24,by rw [h1];rfl,by rw [h2];rfl⟩⟩
instance fld_28_2 : FldT Try.prog 28 2 2 := ⟨_,_,_,Try.underlying28,rfl,info_of Try.type24,by decide,rfl⟩
instance elt_22 : ElT Try.prog 22 2 Try.t2 1 (I 0) := ⟨Try.underlying22,info_of Try.type2,⟨_,rfl,rfl⟩,rfl,Nat.le_of_ble_eq_true rfl,rfl,rfl,Nat.le_of_ble_eq_true rfl⟩
theorem inf_2 : Try.prog.info? 2 = some Try.t2 := info_of Try.type2
instance row_22 : RowT Try.prog 22 2 Try.t2 1 := ⟨Try.underlying22,info_of Try.type2,rfl⟩
instance var_2 : VarI Try.prog 2 true 1 := ⟨fun u h1 h2 => ⟨_,_,Try.underlying2,info_of Try.type2,by rw [h1];rfl,by rw [h2];rfl⟩⟩
instance elt_23 : ElT Try.prog 23 22 Try.t22 1 (L 1 I []) := ⟨Try.underlying23,info_of Try.type22,⟨_,rfl,rfl⟩,rfl,Nat.le_of_ble_eq_true rfl,rfl,rfl,Nat.le_of_ble_eq_true rfl⟩
theorem inf_22 : Try.prog.info? 22 = some Try.t22 := info_of Try.type22
instance elt_24 : ElT Try.prog 24 23 Try.t23 1 (L 1 (L 1 I) []) := ⟨Try.underlying24,info_of Try.type23,⟨_,rfl,rfl⟩,rfl,Nat.le_of_ble_eq_true rfl,rfl,rfl,Nat.le_of_ble_eq_true rfl⟩
theorem inf_23 : Try.prog.info? 23 = some Try.t23 := info_of Try.type23
instance fld_34_0 : FldT Try.prog 34 0 0 := ⟨_,_,_,Try.underlying34,rfl,info_of Try.type22,by decide,rfl⟩
instance fld_34_1 : FldT Try.prog 34 1 1 := ⟨_,_,_,Try.underlying34,rfl,info_of Try.type23,by decide,rfl⟩
instance fld_34_2 : FldT Try.prog 34 2 2 := ⟨_,_,_,Try.underlying34,rfl,info_of Try.type24,by decide,rfl⟩
theorem inf_24 : Try.prog.info? 24 = some Try.t24 := info_of Try.type24
theorem inf_34 : Try.prog.info? 34 = some Try.t34 := info_of Try.type34
instance var_34 : VarI Try.prog 34 false 3 := ⟨fun u h1 h2 => ⟨_,_,Try.underlying34,info_of Try.type34,by rw [h1];rfl,by rw [h2];rfl⟩⟩
instance zer_34 : ZerT Try.prog 34 (T.agg [L 1 I [],L 1 (L 1 I) [],L 1 (L 1 (L 1 I)) []]) := ⟨_,_,info_of Try.type34,rfl,rfl,rfl,rfl⟩
instance fld_28_0 : FldT Try.prog 28 0 0 := ⟨_,_,_,Try.underlying28,rfl,info_of Try.type2,by decide,rfl⟩
instance fld_28_1 : FldT Try.prog 28 1 1 := ⟨_,_,_,Try.underlying28,rfl,info_of Try.type2,by decide,rfl⟩
instance fld_31_0 : FldT Try.prog 31 0 0 := ⟨_,_,_,Try.underlying31,rfl,info_of Try.type2,by decide,rfl⟩
instance fld_31_1 : FldT Try.prog 31 1 1 := ⟨_,_,_,Try.underlying31,rfl,info_of Try.type2,by decide,rfl⟩
instance fld_31_2 : FldT Try.prog 31 2 2 := ⟨_,_,_,Try.underlying31,rfl,info_of Try.type24,by decide,rfl⟩
theorem inf_31 : Try.prog.info? 31 = some Try.t31 := info_of Try.type31
instance var_31 : VarI Try.prog 31 false 3 := ⟨fun u h1 h2 => ⟨_,_,Try.underlying31,info_of Try.type31,by rw [h1];rfl,by rw [h2];rfl⟩⟩
instance zer_31 : ZerT Try.prog 31 (T.agg [I 0,I 0,L 1 (L 1 (L 1 I)) []]) := ⟨_,_,info_of Try.type31,rfl,rfl,rfl,rfl⟩
instance bld_134 : BldT Try.prog 134 [I 0,I 0,I 0,I 0] := ⟨_,_,fun ps => built_struct (info_of Try.type134) Try.underlying134 rfl (places := [(0,1),(1,1),(2,1),(3,1)]) (by simp [info_of Try.type2];decide) ps,rfl,rfl,(by intro i u hu;match i,hu with | 0,hu => cases hu;rfl | 1,hu => cases hu;rfl | 2,hu => cases hu;rfl | 3,hu => cases hu;rfl | _ + 4,hu => simp at hu)⟩
theorem inf_134 : Try.prog.info? 134 = some Try.t134 := info_of Try.type134
instance var_134 : VarI Try.prog 134 false 4 := ⟨fun u h1 h2 => ⟨_,_,Try.underlying134,info_of Try.type134,by rw [h1];rfl,by rw [h2];rfl⟩⟩
instance zer_134 : ZerT Try.prog 134 (T.agg [I 0,I 0,I 0,I 0]) := ⟨_,_,info_of Try.type134,rfl,rfl,rfl,rfl⟩
instance fld_134_0 : FldT Try.prog 134 0 0 := ⟨_,_,_,Try.underlying134,rfl,info_of Try.type2,by decide,rfl⟩
theorem fldv_134_0 {u : T} (h1 : u.single = true) (h2 : u.size = 1) : ∃ (ds : TypeDesc) (ti : TypeInfo) (fs : Array Field) (f : Field),Try.prog.underlying 134 = some (.struct fs) ∧ fs[0]? = some f ∧ Try.prog.underlying f.type = some ds ∧ Try.prog.info? f.type = some ti ∧ aggB ds = !u.single ∧ ti.size = u.size := ⟨_,_,_,_,Try.underlying134,rfl,Try.underlying2,info_of Try.type2,by rw [h1];rfl,by rw [h2];rfl⟩
instance bld_31 : BldT Try.prog 31 [I 0,I 0,L 1 (L 1 (L 1 I)) []] := ⟨_,_,fun ps => built_struct (info_of Try.type31) Try.underlying31 rfl (places := [(0,1),(1,1),(2,1)]) (by simp [info_of Try.type2,info_of Try.type24];decide) ps,rfl,rfl,(by intro i u hu;match i,hu with | 0,hu => cases hu;rfl | 1,hu => cases hu;rfl | 2,hu => cases hu;rfl | _ + 3,hu => simp at hu)⟩
instance eqs_134 : EqS4 Try.prog 134 := ⟨⟨_,_,_,_,Try.underlying134,⟨by decide,rfl,Try.underlying2⟩,⟨by decide,rfl,Try.underlying2⟩,⟨by decide,rfl,Try.underlying2⟩,⟨by decide,rfl,Try.underlying2⟩⟩,Try.stoodInHeld134,Try.eqGuardType134⟩
instance bld_76 : BldT Try.prog 76 [I 0,I 0,L 1 (L 1 I) []] := ⟨_,_,fun ps => built_struct (info_of Try.type76) Try.underlying76 rfl (places := [(0,1),(1,1),(2,1)]) (by simp [info_of Try.type2,info_of Try.type23];decide) ps,rfl,rfl,(by intro i u hu;match i,hu with | 0,hu => cases hu;rfl | 1,hu => cases hu;rfl | 2,hu => cases hu;rfl | _ + 3,hu => simp at hu)⟩
theorem inf_76 : Try.prog.info? 76 = some Try.t76 := info_of Try.type76
instance var_76 : VarI Try.prog 76 false 3 := ⟨fun u h1 h2 => ⟨_,_,Try.underlying76,info_of Try.type76,by rw [h1];rfl,by rw [h2];rfl⟩⟩
instance zer_76 : ZerT Try.prog 76 (T.agg [I 0,I 0,L 1 (L 1 I) []]) := ⟨_,_,info_of Try.type76,rfl,rfl,rfl,rfl⟩
instance fld_76_0 : FldT Try.prog 76 0 0 := ⟨_,_,_,Try.underlying76,rfl,info_of Try.type2,by decide,rfl⟩
instance fld_76_1 : FldT Try.prog 76 1 1 := ⟨_,_,_,Try.underlying76,rfl,info_of Try.type2,by decide,rfl⟩
instance fld_76_2 : FldT Try.prog 76 2 2 := ⟨_,_,_,Try.underlying76,rfl,info_of Try.type23,by decide,rfl⟩
instance bld_121 : BldT Try.prog 121 [L 1 I [],L 1 I []] := ⟨_,_,fun ps => built_array (info_of Try.type121) Try.underlying121 rfl (info_of Try.type22) ps,rfl,rfl,(by intro i u hu;match i,hu with | 0,hu => cases hu;rfl | 1,hu => cases hu;rfl | _ + 2,hu => simp at hu)⟩
instance elt_119 : ElT Try.prog 119 121 Try.t121 2 (T.agg [L 1 I ((([] : List Int),([] : List Int)).1),L 1 I ((([] : List Int),([] : List Int)).2)]) := ⟨Try.underlying119,info_of Try.type121,⟨_,rfl,rfl⟩,rfl,Nat.le_of_ble_eq_true rfl,rfl,rfl,Nat.le_of_ble_eq_true rfl⟩
instance arr_121 : ArrT Try.prog 121 22 Try.t22 2 1 := ⟨Try.underlying121,info_of Try.type22,rfl⟩
theorem fldv_76_2 {u : T} (h1 : u.single = true) (h2 : u.size = 1) : ∃ (ds : TypeDesc) (ti : TypeInfo) (fs : Array Field) (f : Field),Try.prog.underlying 76 = some (.struct fs) ∧ fs[2]? = some f ∧ Try.prog.underlying f.type = some ds ∧ Try.prog.info? f.type = some ti ∧ aggB ds = !u.single ∧ ti.size = u.size := ⟨_,_,_,_,Try.underlying76,rfl,Try.underlying23,info_of Try.type23,by rw [h1];rfl,by rw [h2];rfl⟩
theorem inf_121 : Try.prog.info? 121 = some Try.t121 := info_of Try.type121
instance row_119 : RowT Try.prog 119 121 Try.t121 2 := ⟨Try.underlying119,info_of Try.type121,rfl⟩
instance sli_119 : SliI Try.prog 119 121 := ⟨Try.underlying119⟩
instance var_121 : VarI Try.prog 121 false 2 := ⟨fun u h1 h2 => ⟨_,_,Try.underlying121,info_of Try.type121,by rw [h1];rfl,by rw [h2];rfl⟩⟩
instance zer_121 : ZerT Try.prog 121 (T.agg [L 1 I ((([] : List Int),([] : List Int)).1),L 1 I ((([] : List Int),([] : List Int)).2)]) := ⟨_,_,info_of Try.type121,rfl,rfl,rfl,rfl⟩
instance var_26 : VarI Try.prog 26 false 3 := ⟨fun u h1 h2 => ⟨_,_,Try.underlying26,info_of Try.type26,by rw [h1];rfl,by rw [h2];rfl⟩⟩
instance var_28 : VarI Try.prog 28 false 3 := ⟨fun u h1 h2 => ⟨_,_,Try.underlying28,info_of Try.type28,by rw [h1];rfl,by rw [h2];rfl⟩⟩
instance bld_34 : BldT Try.prog 34 [L 1 I [],L 1 (L 1 I) [],L 1 (L 1 (L 1 I)) []] := ⟨_,_,fun ps => built_struct (info_of Try.type34) Try.underlying34 rfl (places := [(0,1),(1,1),(2,1)]) (by simp [info_of Try.type22,info_of Try.type23,info_of Try.type24];decide) ps,rfl,rfl,(by intro i u hu;match i,hu with | 0,hu => cases hu;rfl | 1,hu => cases hu;rfl | 2,hu => cases hu;rfl | _ + 3,hu => simp at hu)⟩
end Go.Wk
