/- The program and the reference return the same equivalences of extensions, for all arguments (FnExactEquivalenceOf). This file is a part of the proof. -/
import Derived.Test.YtkifphhpbcgieabGreatAbC
import Derived.Test.YtkifphhpbcgieabGreatWF
import Derived.Test.YtkifphhpbcgieabGreatProg
namespace Go.Wk
open Go Go.Proofs Go.Ab
abbrev lV:=L 1 I
abbrev lM:=L 1 lV
abbrev lC:=L 1 lM
abbrev sE (x:zV):T:=T.agg [I x.Prime,I x.xT,T.ro (lM x.Rows)]
abbrev wB (x:zC):T:=T.agg [I x.Prime,I x.Dim,T.ro (lC x.zI)]
abbrev qPr (x:SPr):T:=T.agg [T.ro (lV x.zA),T.ro (lM x.zU),T.ro (lC x.zB)]
abbrev yC (x:zE):T:=T.agg [T.ro (lV x.x),T.ro (lV x.v)]
abbrev yH (x:zP):T:=T.agg [T.agg [T.ro (lV x.p.zA),T.ro (lM x.p.zU),T.ro (lC x.p.zB)],T.agg [I x.m.Prime,I x.m.Dim,T.ro (lC x.m.zI)],T.ro (lM x.zKG)]
theorem xR:Tryz.prog.follows .mixedOrders = true:=rfl
instance:Mix Tryz.prog:=⟨xR⟩
instance sli_22:zIv Tryz.prog 22 2:=⟨Tryz.underlying22⟩
instance row_23:zB8 Tryz.prog 23 22 Tryz.t22 1:=⟨Tryz.underlying23,zN Tryz.type22,rfl⟩
instance sli_23:zIv Tryz.prog 23 22:=⟨Tryz.underlying23⟩
instance var_22:kS Tryz.prog 22 true 1:=⟨fun u h1 h2 => ⟨_,_,Tryz.underlying22,zN Tryz.type22,by rw [h1];rfl,by rw [h2];rfl⟩⟩
instance row_24:zB8 Tryz.prog 24 23 Tryz.t23 1:=⟨Tryz.underlying24,zN Tryz.type23,rfl⟩
instance sli_24:zIv Tryz.prog 24 23:=⟨Tryz.underlying24⟩
instance var_23:kS Tryz.prog 23 true 1:=⟨fun u h1 h2 => ⟨_,_,Tryz.underlying23,zN Tryz.type23,by rw [h1];rfl,by rw [h2];rfl⟩⟩
instance fld_26_0:tW Tryz.prog 26 0 0:=⟨_,_,_,Tryz.underlying26,rfl,zN Tryz.type22,by decide,rfl⟩
instance fld_26_1:tW Tryz.prog 26 1 1:=⟨_,_,_,Tryz.underlying26,rfl,zN Tryz.type23,by decide,rfl⟩
instance fld_26_2:tW Tryz.prog 26 2 2:=⟨_,_,_,Tryz.underlying26,rfl,zN Tryz.type24,by decide,rfl⟩
instance var_24:kS Tryz.prog 24 true 1:=⟨fun u h1 h2 => ⟨_,_,Tryz.underlying24,zN Tryz.type24,by rw [h1];rfl,by rw [h2];rfl⟩⟩
instance fld_28_2:tW Tryz.prog 28 2 2:=⟨_,_,_,Tryz.underlying28,rfl,zN Tryz.type24,by decide,rfl⟩
instance elt_22:ElT Tryz.prog 22 2 Tryz.t2 1 (I 0):=⟨Tryz.underlying22,zN Tryz.type2,⟨_,rfl,rfl⟩,rfl,Nat.le_of_ble_eq_true rfl,rfl,rfl,Nat.le_of_ble_eq_true rfl⟩
theorem zDM:Tryz.prog.info? 2 = some Tryz.t2:=zN Tryz.type2
instance infI_2:zEj Tryz.prog 2 Tryz.t2:=⟨zDM⟩
instance mkz_22:MkZ Tryz.prog 22 I 0 (I 0):=⟨rfl⟩
instance row_22:zB8 Tryz.prog 22 2 Tryz.t2 1:=⟨Tryz.underlying22,zN Tryz.type2,rfl⟩
instance var_2:kS Tryz.prog 2 true 1:=⟨fun u h1 h2 => ⟨_,_,Tryz.underlying2,zN Tryz.type2,by rw [h1];rfl,by rw [h2];rfl⟩⟩
instance elt_23:ElT Tryz.prog 23 22 Tryz.t22 1 (L 1 I []):=⟨Tryz.underlying23,zN Tryz.type22,⟨_,rfl,rfl⟩,rfl,Nat.le_of_ble_eq_true rfl,rfl,rfl,Nat.le_of_ble_eq_true rfl⟩
theorem zBV:Tryz.prog.info? 22 = some Tryz.t22:=zN Tryz.type22
instance infI_22:zEj Tryz.prog 22 Tryz.t22:=⟨zBV⟩
instance mkz_23:MkZ Tryz.prog 23 (L 1 I) ([]:List Int) (L 1 I []):=⟨rfl⟩
instance elt_24:ElT Tryz.prog 24 23 Tryz.t23 1 (L 1 (L 1 I) []):=⟨Tryz.underlying24,zN Tryz.type23,⟨_,rfl,rfl⟩,rfl,Nat.le_of_ble_eq_true rfl,rfl,rfl,Nat.le_of_ble_eq_true rfl⟩
theorem zMa:Tryz.prog.info? 23 = some Tryz.t23:=zN Tryz.type23
instance infI_23:zEj Tryz.prog 23 Tryz.t23:=⟨zMa⟩
instance mkz_24:MkZ Tryz.prog 24 (L 1 (L 1 I)) ([]:List (List Int)) (L 1 (L 1 I) []):=⟨rfl⟩
instance fld_34_0:tW Tryz.prog 34 0 0:=⟨_,_,_,Tryz.underlying34,rfl,zN Tryz.type22,by decide,rfl⟩
instance fld_34_1:tW Tryz.prog 34 1 1:=⟨_,_,_,Tryz.underlying34,rfl,zN Tryz.type23,by decide,rfl⟩
instance fld_34_2:tW Tryz.prog 34 2 2:=⟨_,_,_,Tryz.underlying34,rfl,zN Tryz.type24,by decide,rfl⟩
theorem zRY:Tryz.prog.info? 24 = some Tryz.t24:=zN Tryz.type24
instance infI_24:zEj Tryz.prog 24 Tryz.t24:=⟨zRY⟩
theorem zE1:Tryz.prog.info? 34 = some Tryz.t34:=zN Tryz.type34
instance infI_34:zEj Tryz.prog 34 Tryz.t34:=⟨zE1⟩
instance var_34:kS Tryz.prog 34 false 3:=⟨fun u h1 h2 => ⟨_,_,Tryz.underlying34,zN Tryz.type34,by rw [h1];rfl,by rw [h2];rfl⟩⟩
instance zer_34:zJk Tryz.prog 34 (T.agg [L 1 I [],L 1 (L 1 I) [],L 1 (L 1 (L 1 I)) []]):=⟨_,_,zN Tryz.type34,rfl,rfl,rfl,rfl⟩
instance fld_28_0:tW Tryz.prog 28 0 0:=⟨_,_,_,Tryz.underlying28,rfl,zN Tryz.type2,by decide,rfl⟩
instance fld_28_1:tW Tryz.prog 28 1 1:=⟨_,_,_,Tryz.underlying28,rfl,zN Tryz.type2,by decide,rfl⟩
instance fld_36_0:tW Tryz.prog 36 0 0:=⟨_,_,_,Tryz.underlying36,rfl,zN Tryz.type2,by decide,rfl⟩
instance fld_36_1:tW Tryz.prog 36 1 1:=⟨_,_,_,Tryz.underlying36,rfl,zN Tryz.type2,by decide,rfl⟩
instance fld_36_2:tW Tryz.prog 36 2 2:=⟨_,_,_,Tryz.underlying36,rfl,zN Tryz.type24,by decide,rfl⟩
theorem zRZ:Tryz.prog.info? 36 = some Tryz.t36:=zN Tryz.type36
instance infI_36:zEj Tryz.prog 36 Tryz.t36:=⟨zRZ⟩
instance var_36:kS Tryz.prog 36 false 3:=⟨fun u h1 h2 => ⟨_,_,Tryz.underlying36,zN Tryz.type36,by rw [h1];rfl,by rw [h2];rfl⟩⟩
instance zer_36:zJk Tryz.prog 36 (T.agg [I 0,I 0,L 1 (L 1 (L 1 I)) []]):=⟨_,_,zN Tryz.type36,rfl,rfl,rfl,rfl⟩
instance bld_140:zJn Tryz.prog 140 [I 0,I 0,I 0,I 0]:=⟨_,_,fun ps => sO (zN Tryz.type140) Tryz.underlying140 rfl (places:=[(0,1),(1,1),(2,1),(3,1)]) (by simp [zN Tryz.type2];decide) ps,rfl,rfl,(by intro i u hu;match i,hu with | 0,hu => cases hu;rfl | 1,hu => cases hu;rfl | 2,hu => cases hu;rfl | 3,hu => cases hu;rfl | _ + 4,hu => simp at hu)⟩
theorem zT5:Tryz.prog.info? 140 = some Tryz.t140:=zN Tryz.type140
instance infI_140:zEj Tryz.prog 140 Tryz.t140:=⟨zT5⟩
instance var_140:kS Tryz.prog 140 false 4:=⟨fun u h1 h2 => ⟨_,_,Tryz.underlying140,zN Tryz.type140,by rw [h1];rfl,by rw [h2];rfl⟩⟩
instance zer_140:zJk Tryz.prog 140 (T.agg [I 0,I 0,I 0,I 0]):=⟨_,_,zN Tryz.type140,rfl,rfl,rfl,rfl⟩
instance fld_140_0:tW Tryz.prog 140 0 0:=⟨_,_,_,Tryz.underlying140,rfl,zN Tryz.type2,by decide,rfl⟩
theorem zMb {u:T} (h1:u.single = true) (h2:u.size = 1):∃ (ds:TypeDesc) (ti:TypeInfo) (fs:Array Field) (f:Field),Tryz.prog.underlying 140 = some (.struct fs) ∧ fs[0]? = some f ∧ Tryz.prog.underlying f.type = some ds ∧ Tryz.prog.info? f.type = some ti ∧ zDN ds = !u.single ∧ ti.size = u.size:=⟨_,_,_,_,Tryz.underlying140,rfl,Tryz.underlying2,zN Tryz.type2,by rw [h1];rfl,by rw [h2];rfl⟩
instance fldw_140_0:zUB Tryz.prog 140 0 true 1:=⟨fun _ h1 h2 => zMb h1 h2⟩
instance bld_163:zJn Tryz.prog 163 [L 1 I [],L 1 I []]:=⟨_,_,fun ps => sO (zN Tryz.type163) Tryz.underlying163 rfl (places:=[(0,1),(1,1)]) (by simp [zN Tryz.type22];decide) ps,rfl,rfl,(by intro i u hu;match i,hu with | 0,hu => cases hu;rfl | 1,hu => cases hu;rfl | _ + 2,hu => simp at hu)⟩
instance fld_124_0:tW Tryz.prog 124 0 0:=⟨_,_,_,Tryz.underlying124,rfl,zN Tryz.type34,by decide,rfl⟩
instance fld_124_2:tW Tryz.prog 124 2 6:=⟨_,_,_,Tryz.underlying124,rfl,zN Tryz.type23,by decide,rfl⟩
theorem vN:Tryz.prog.info? 163 = some Tryz.t163:=zN Tryz.type163
instance infI_163:zEj Tryz.prog 163 Tryz.t163:=⟨vN⟩
instance var_163:kS Tryz.prog 163 false 2:=⟨fun u h1 h2 => ⟨_,_,Tryz.underlying163,zN Tryz.type163,by rw [h1];rfl,by rw [h2];rfl⟩⟩
instance zer_163:zJk Tryz.prog 163 (T.agg [L 1 I [],L 1 I []]):=⟨_,_,zN Tryz.type163,rfl,rfl,rfl,rfl⟩
instance fld_124_1:tW Tryz.prog 124 1 3:=⟨_,_,_,Tryz.underlying124,rfl,zN Tryz.type36,by decide,rfl⟩
instance fld_163_0:tW Tryz.prog 163 0 0:=⟨_,_,_,Tryz.underlying163,rfl,zN Tryz.type22,by decide,rfl⟩
instance fld_163_1:tW Tryz.prog 163 1 1:=⟨_,_,_,Tryz.underlying163,rfl,zN Tryz.type22,by decide,rfl⟩
instance var_124:kS Tryz.prog 124 false 7:=⟨fun u h1 h2 => ⟨_,_,Tryz.underlying124,zN Tryz.type124,by rw [h1];rfl,by rw [h2];rfl⟩⟩
instance bld_124:zJn Tryz.prog 124 [T.agg [L 1 I [],L 1 (L 1 I) [],L 1 (L 1 (L 1 I)) []],T.agg [I 0,I 0,L 1 (L 1 (L 1 I)) []],L 1 (L 1 I) []]:=⟨_,_,fun ps => sO (zN Tryz.type124) Tryz.underlying124 rfl (places:=[(0,3),(3,3),(6,1)]) (by simp [zN Tryz.type23,zN Tryz.type34,zN Tryz.type36];decide) ps,rfl,rfl,(by intro i u hu;match i,hu with | 0,hu => cases hu;rfl | 1,hu => cases hu;rfl | 2,hu => cases hu;rfl | _ + 3,hu => simp at hu)⟩
instance int_3:zPE Tryz.prog 3 .i64:=⟨Tryz.underlying3⟩
instance eqs_140:zSt Tryz.prog 140:=⟨⟨_,_,_,_,Tryz.underlying140,⟨by decide,rfl,Tryz.underlying2⟩,⟨by decide,rfl,Tryz.underlying2⟩,⟨by decide,rfl,Tryz.underlying2⟩,⟨by decide,rfl,Tryz.underlying2⟩⟩,Tryz.stoodInHeld140,Tryz.eqGuardType140⟩
instance bld_52:zJn Tryz.prog 52 [I 0,I 0,L 1 (L 1 I) []]:=⟨_,_,fun ps => sO (zN Tryz.type52) Tryz.underlying52 rfl (places:=[(0,1),(1,1),(2,1)]) (by simp [zN Tryz.type2,zN Tryz.type23];decide) ps,rfl,rfl,(by intro i u hu;match i,hu with | 0,hu => cases hu;rfl | 1,hu => cases hu;rfl | 2,hu => cases hu;rfl | _ + 3,hu => simp at hu)⟩
theorem zMc:Tryz.prog.info? 52 = some Tryz.t52:=zN Tryz.type52
instance infI_52:zEj Tryz.prog 52 Tryz.t52:=⟨zMc⟩
instance var_52:kS Tryz.prog 52 false 3:=⟨fun u h1 h2 => ⟨_,_,Tryz.underlying52,zN Tryz.type52,by rw [h1];rfl,by rw [h2];rfl⟩⟩
instance zer_52:zJk Tryz.prog 52 (T.agg [I 0,I 0,L 1 (L 1 I) []]):=⟨_,_,zN Tryz.type52,rfl,rfl,rfl,rfl⟩
instance fld_52_0:tW Tryz.prog 52 0 0:=⟨_,_,_,Tryz.underlying52,rfl,zN Tryz.type2,by decide,rfl⟩
instance fld_52_1:tW Tryz.prog 52 1 1:=⟨_,_,_,Tryz.underlying52,rfl,zN Tryz.type2,by decide,rfl⟩
instance fld_52_2:tW Tryz.prog 52 2 2:=⟨_,_,_,Tryz.underlying52,rfl,zN Tryz.type23,by decide,rfl⟩
instance int_172:zPE Tryz.prog 172 .u32:=⟨Tryz.underlying172⟩
instance int_175:zPE Tryz.prog 175 .u64:=⟨Tryz.underlying175⟩
instance int_156:zPE Tryz.prog 156 .u64:=⟨Tryz.underlying156⟩
instance bld_108:zJn Tryz.prog 108 [L 1 I [],L 1 I []]:=⟨_,_,fun ps => zIP (zN Tryz.type108) Tryz.underlying108 rfl (zN Tryz.type22) ps,rfl,rfl,(by intro i u hu;match i,hu with | 0,hu => cases hu;rfl | 1,hu => cases hu;rfl | _ + 2,hu => simp at hu)⟩
instance elt_106:ElT Tryz.prog 106 108 Tryz.t108 2 (T.agg [L 1 I ((([]:List Int),([]:List Int)).1),L 1 I ((([]:List Int),([]:List Int)).2)]):=⟨Tryz.underlying106,zN Tryz.type108,⟨_,rfl,rfl⟩,rfl,Nat.le_of_ble_eq_true rfl,rfl,rfl,Nat.le_of_ble_eq_true rfl⟩
instance row_106:zB8 Tryz.prog 106 108 Tryz.t108 2:=⟨Tryz.underlying106,zN Tryz.type108,rfl⟩
instance arr_108:zSu Tryz.prog 108 22 Tryz.t22 2 1:=⟨Tryz.underlying108,zN Tryz.type22,rfl⟩
theorem zE2 {u:T} (h1:u.single = true) (h2:u.size = 1):∃ (ds:TypeDesc) (ti:TypeInfo) (fs:Array Field) (f:Field),Tryz.prog.underlying 52 = some (.struct fs) ∧ fs[2]? = some f ∧ Tryz.prog.underlying f.type = some ds ∧ Tryz.prog.info? f.type = some ti ∧ zDN ds = !u.single ∧ ti.size = u.size:=⟨_,_,_,_,Tryz.underlying52,rfl,Tryz.underlying23,zN Tryz.type23,by rw [h1];rfl,by rw [h2];rfl⟩
instance fldw_52_2:zUB Tryz.prog 52 2 true 1:=⟨fun _ h1 h2 => zE2 h1 h2⟩
theorem zNz:Tryz.prog.info? 108 = some Tryz.t108:=zN Tryz.type108
instance infI_108:zEj Tryz.prog 108 Tryz.t108:=⟨zNz⟩
instance sli_106:zIv Tryz.prog 106 108:=⟨Tryz.underlying106⟩
instance var_108:kS Tryz.prog 108 false 2:=⟨fun u h1 h2 => ⟨_,_,Tryz.underlying108,zN Tryz.type108,by rw [h1];rfl,by rw [h2];rfl⟩⟩
instance zer_108:zJk Tryz.prog 108 (T.agg [L 1 I ((([]:List Int),([]:List Int)).1),L 1 I ((([]:List Int),([]:List Int)).2)]):=⟨_,_,zN Tryz.type108,rfl,rfl,rfl,rfl⟩
instance bld_34:zJn Tryz.prog 34 [L 1 I [],L 1 (L 1 I) [],L 1 (L 1 (L 1 I)) []]:=⟨_,_,fun ps => sO (zN Tryz.type34) Tryz.underlying34 rfl (places:=[(0,1),(1,1),(2,1)]) (by simp [zN Tryz.type22,zN Tryz.type23,zN Tryz.type24];decide) ps,rfl,rfl,(by intro i u hu;match i,hu with | 0,hu => cases hu;rfl | 1,hu => cases hu;rfl | 2,hu => cases hu;rfl | _ + 3,hu => simp at hu)⟩
instance elt_149:ElT Tryz.prog 149 3 Tryz.t3 1 (I 0):=⟨Tryz.underlying149,zN Tryz.type3,⟨_,rfl,rfl⟩,rfl,Nat.le_of_ble_eq_true rfl,rfl,rfl,Nat.le_of_ble_eq_true rfl⟩
instance row_149:zB8 Tryz.prog 149 3 Tryz.t3 1:=⟨Tryz.underlying149,zN Tryz.type3,rfl⟩
instance sli_149:zIv Tryz.prog 149 3:=⟨Tryz.underlying149⟩
instance var_3:kS Tryz.prog 3 true 1:=⟨fun u h1 h2 => ⟨_,_,Tryz.underlying3,zN Tryz.type3,by rw [h1];rfl,by rw [h2];rfl⟩⟩
instance var_26:kS Tryz.prog 26 false 3:=⟨fun u h1 h2 => ⟨_,_,Tryz.underlying26,zN Tryz.type26,by rw [h1];rfl,by rw [h2];rfl⟩⟩
instance var_28:kS Tryz.prog 28 false 3:=⟨fun u h1 h2 => ⟨_,_,Tryz.underlying28,zN Tryz.type28,by rw [h1];rfl,by rw [h2];rfl⟩⟩
instance fld_49_2:tW Tryz.prog 49 2 2:=⟨_,_,_,Tryz.underlying49,rfl,zN Tryz.type23,by decide,rfl⟩
instance fld_49_0:tW Tryz.prog 49 0 0:=⟨_,_,_,Tryz.underlying49,rfl,zN Tryz.type2,by decide,rfl⟩
instance fld_49_1:tW Tryz.prog 49 1 1:=⟨_,_,_,Tryz.underlying49,rfl,zN Tryz.type2,by decide,rfl⟩
instance var_49:kS Tryz.prog 49 false 3:=⟨fun u h1 h2 => ⟨_,_,Tryz.underlying49,zN Tryz.type49,by rw [h1];rfl,by rw [h2];rfl⟩⟩
end Go.Wk
