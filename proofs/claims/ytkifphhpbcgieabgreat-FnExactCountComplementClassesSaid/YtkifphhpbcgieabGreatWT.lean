/- The program and the reference count the same classes of complements, for all arguments (FnExactCountComplementClasses). This file is a part of the proof. -/
import Derived.Test.YtkifphhpbcgieabGreatAbC
import Derived.Test.YtkifphhpbcgieabGreatWF
import Derived.Test.YtkifphhpbcgieabGreatProg
namespace Go.Wk
open Go Go.Proofs Go.Ab
abbrev lV:=L 1 I
abbrev lM:=L 1 lV
abbrev lC:=L 1 lM
abbrev sD (x:zS):T:=T.agg [I x.Prime,I x.xS,T.ro (lM x.Rows)]
abbrev wH (x:zB):T:=T.agg [I x.Prime,I x.Dim,T.ro (lC x.zI)]
abbrev qPr (x:SPr):T:=T.agg [T.ro (lV x.zA),T.ro (lM x.zT),T.ro (lC x.zC)]
abbrev yB (x:zE):T:=T.agg [T.ro (lV x.x),T.ro (lV x.v)]
abbrev yH (x:zP):T:=T.agg [T.agg [T.ro (lV x.p.zA),T.ro (lM x.p.zT),T.ro (lC x.p.zC)],T.agg [I x.m.Prime,I x.m.Dim,T.ro (lC x.m.zI)],T.ro (lM x.zKO)]
theorem xY:Tryz.prog.follows .mixedOrders = true:=rfl
instance:Mix Tryz.prog:=⟨xY⟩
instance sli_22:zIw Tryz.prog 22 2:=⟨Tryz.underlying22⟩
instance row_23:zBA Tryz.prog 23 22 Tryz.t22 1:=⟨Tryz.underlying23,zM Tryz.type22,rfl⟩
instance sli_23:zIw Tryz.prog 23 22:=⟨Tryz.underlying23⟩
instance var_22:kY Tryz.prog 22 true 1:=⟨fun u h1 h2 => ⟨_,_,Tryz.underlying22,zM Tryz.type22,by rw [h1];rfl,by rw [h2];rfl⟩⟩
instance row_24:zBA Tryz.prog 24 23 Tryz.t23 1:=⟨Tryz.underlying24,zM Tryz.type23,rfl⟩
instance sli_24:zIw Tryz.prog 24 23:=⟨Tryz.underlying24⟩
instance var_23:kY Tryz.prog 23 true 1:=⟨fun u h1 h2 => ⟨_,_,Tryz.underlying23,zM Tryz.type23,by rw [h1];rfl,by rw [h2];rfl⟩⟩
instance fld_26_0:tS Tryz.prog 26 0 0:=⟨_,_,_,Tryz.underlying26,rfl,zM Tryz.type22,by decide,rfl⟩
instance fld_26_1:tS Tryz.prog 26 1 1:=⟨_,_,_,Tryz.underlying26,rfl,zM Tryz.type23,by decide,rfl⟩
instance fld_26_2:tS Tryz.prog 26 2 2:=⟨_,_,_,Tryz.underlying26,rfl,zM Tryz.type24,by decide,rfl⟩
instance var_24:kY Tryz.prog 24 true 1:=⟨fun u h1 h2 => ⟨_,_,Tryz.underlying24,zM Tryz.type24,by rw [h1];rfl,by rw [h2];rfl⟩⟩
instance fld_28_2:tS Tryz.prog 28 2 2:=⟨_,_,_,Tryz.underlying28,rfl,zM Tryz.type24,by decide,rfl⟩
instance elt_22:ElT Tryz.prog 22 2 Tryz.t2 1 (I 0):=⟨Tryz.underlying22,zM Tryz.type2,⟨_,rfl,rfl⟩,rfl,Nat.le_of_ble_eq_true rfl,rfl,rfl,Nat.le_of_ble_eq_true rfl⟩
theorem zDG:Tryz.prog.info? 2 = some Tryz.t2:=zM Tryz.type2
instance infI_2:zEe Tryz.prog 2 Tryz.t2:=⟨zDG⟩
instance mkz_22:MkZ Tryz.prog 22 I 0 (I 0):=⟨rfl⟩
instance row_22:zBA Tryz.prog 22 2 Tryz.t2 1:=⟨Tryz.underlying22,zM Tryz.type2,rfl⟩
instance var_2:kY Tryz.prog 2 true 1:=⟨fun u h1 h2 => ⟨_,_,Tryz.underlying2,zM Tryz.type2,by rw [h1];rfl,by rw [h2];rfl⟩⟩
instance elt_23:ElT Tryz.prog 23 22 Tryz.t22 1 (L 1 I []):=⟨Tryz.underlying23,zM Tryz.type22,⟨_,rfl,rfl⟩,rfl,Nat.le_of_ble_eq_true rfl,rfl,rfl,Nat.le_of_ble_eq_true rfl⟩
theorem zBX:Tryz.prog.info? 22 = some Tryz.t22:=zM Tryz.type22
instance infI_22:zEe Tryz.prog 22 Tryz.t22:=⟨zBX⟩
instance mkz_23:MkZ Tryz.prog 23 (L 1 I) ([]:List Int) (L 1 I []):=⟨rfl⟩
instance elt_24:ElT Tryz.prog 24 23 Tryz.t23 1 (L 1 (L 1 I) []):=⟨Tryz.underlying24,zM Tryz.type23,⟨_,rfl,rfl⟩,rfl,Nat.le_of_ble_eq_true rfl,rfl,rfl,Nat.le_of_ble_eq_true rfl⟩
theorem zMh:Tryz.prog.info? 23 = some Tryz.t23:=zM Tryz.type23
instance infI_23:zEe Tryz.prog 23 Tryz.t23:=⟨zMh⟩
instance mkz_24:MkZ Tryz.prog 24 (L 1 (L 1 I)) ([]:List (List Int)) (L 1 (L 1 I) []):=⟨rfl⟩
instance fld_34_0:tS Tryz.prog 34 0 0:=⟨_,_,_,Tryz.underlying34,rfl,zM Tryz.type22,by decide,rfl⟩
instance fld_34_1:tS Tryz.prog 34 1 1:=⟨_,_,_,Tryz.underlying34,rfl,zM Tryz.type23,by decide,rfl⟩
instance fld_34_2:tS Tryz.prog 34 2 2:=⟨_,_,_,Tryz.underlying34,rfl,zM Tryz.type24,by decide,rfl⟩
theorem zSf:Tryz.prog.info? 24 = some Tryz.t24:=zM Tryz.type24
instance infI_24:zEe Tryz.prog 24 Tryz.t24:=⟨zSf⟩
theorem zGF:Tryz.prog.info? 34 = some Tryz.t34:=zM Tryz.type34
instance infI_34:zEe Tryz.prog 34 Tryz.t34:=⟨zGF⟩
instance var_34:kY Tryz.prog 34 false 3:=⟨fun u h1 h2 => ⟨_,_,Tryz.underlying34,zM Tryz.type34,by rw [h1];rfl,by rw [h2];rfl⟩⟩
instance zer_34:zJp Tryz.prog 34 (T.agg [L 1 I [],L 1 (L 1 I) [],L 1 (L 1 (L 1 I)) []]):=⟨_,_,zM Tryz.type34,rfl,rfl,rfl,rfl⟩
instance fld_28_0:tS Tryz.prog 28 0 0:=⟨_,_,_,Tryz.underlying28,rfl,zM Tryz.type2,by decide,rfl⟩
instance fld_28_1:tS Tryz.prog 28 1 1:=⟨_,_,_,Tryz.underlying28,rfl,zM Tryz.type2,by decide,rfl⟩
instance fld_36_0:tS Tryz.prog 36 0 0:=⟨_,_,_,Tryz.underlying36,rfl,zM Tryz.type2,by decide,rfl⟩
instance fld_36_1:tS Tryz.prog 36 1 1:=⟨_,_,_,Tryz.underlying36,rfl,zM Tryz.type2,by decide,rfl⟩
instance fld_36_2:tS Tryz.prog 36 2 2:=⟨_,_,_,Tryz.underlying36,rfl,zM Tryz.type24,by decide,rfl⟩
theorem zVF:Tryz.prog.info? 36 = some Tryz.t36:=zM Tryz.type36
instance infI_36:zEe Tryz.prog 36 Tryz.t36:=⟨zVF⟩
instance var_36:kY Tryz.prog 36 false 3:=⟨fun u h1 h2 => ⟨_,_,Tryz.underlying36,zM Tryz.type36,by rw [h1];rfl,by rw [h2];rfl⟩⟩
instance zer_36:zJp Tryz.prog 36 (T.agg [I 0,I 0,L 1 (L 1 (L 1 I)) []]):=⟨_,_,zM Tryz.type36,rfl,rfl,rfl,rfl⟩
instance bld_140:zJs Tryz.prog 140 [I 0,I 0,I 0,I 0]:=⟨_,_,fun ps => sL (zM Tryz.type140) Tryz.underlying140 rfl (places:=[(0,1),(1,1),(2,1),(3,1)]) (by simp [zM Tryz.type2];decide) ps,rfl,rfl,(by intro i u hu;match i,hu with | 0,hu => cases hu;rfl | 1,hu => cases hu;rfl | 2,hu => cases hu;rfl | 3,hu => cases hu;rfl | _ + 4,hu => simp at hu)⟩
theorem zTE:Tryz.prog.info? 140 = some Tryz.t140:=zM Tryz.type140
instance infI_140:zEe Tryz.prog 140 Tryz.t140:=⟨zTE⟩
instance var_140:kY Tryz.prog 140 false 4:=⟨fun u h1 h2 => ⟨_,_,Tryz.underlying140,zM Tryz.type140,by rw [h1];rfl,by rw [h2];rfl⟩⟩
instance zer_140:zJp Tryz.prog 140 (T.agg [I 0,I 0,I 0,I 0]):=⟨_,_,zM Tryz.type140,rfl,rfl,rfl,rfl⟩
instance fld_140_0:tS Tryz.prog 140 0 0:=⟨_,_,_,Tryz.underlying140,rfl,zM Tryz.type2,by decide,rfl⟩
theorem zMi {u:T} (h1:u.single = true) (h2:u.size = 1):∃ (ds:TypeDesc) (ti:TypeInfo) (fs:Array Field) (f:Field),Tryz.prog.underlying 140 = some (.struct fs) ∧ fs[0]? = some f ∧ Tryz.prog.underlying f.type = some ds ∧ Tryz.prog.info? f.type = some ti ∧ zDH ds = !u.single ∧ ti.size = u.size:=⟨_,_,_,_,Tryz.underlying140,rfl,Tryz.underlying2,zM Tryz.type2,by rw [h1];rfl,by rw [h2];rfl⟩
instance fldw_140_0:zUJ Tryz.prog 140 0 true 1:=⟨fun _ h1 h2 => zMi h1 h2⟩
instance bld_163:zJs Tryz.prog 163 [L 1 I [],L 1 I []]:=⟨_,_,fun ps => sL (zM Tryz.type163) Tryz.underlying163 rfl (places:=[(0,1),(1,1)]) (by simp [zM Tryz.type22];decide) ps,rfl,rfl,(by intro i u hu;match i,hu with | 0,hu => cases hu;rfl | 1,hu => cases hu;rfl | _ + 2,hu => simp at hu)⟩
instance fld_124_0:tS Tryz.prog 124 0 0:=⟨_,_,_,Tryz.underlying124,rfl,zM Tryz.type34,by decide,rfl⟩
instance fld_124_2:tS Tryz.prog 124 2 6:=⟨_,_,_,Tryz.underlying124,rfl,zM Tryz.type23,by decide,rfl⟩
theorem vL:Tryz.prog.info? 163 = some Tryz.t163:=zM Tryz.type163
instance infI_163:zEe Tryz.prog 163 Tryz.t163:=⟨vL⟩
instance var_163:kY Tryz.prog 163 false 2:=⟨fun u h1 h2 => ⟨_,_,Tryz.underlying163,zM Tryz.type163,by rw [h1];rfl,by rw [h2];rfl⟩⟩
instance zer_163:zJp Tryz.prog 163 (T.agg [L 1 I [],L 1 I []]):=⟨_,_,zM Tryz.type163,rfl,rfl,rfl,rfl⟩
instance fld_124_1:tS Tryz.prog 124 1 3:=⟨_,_,_,Tryz.underlying124,rfl,zM Tryz.type36,by decide,rfl⟩
instance fld_163_0:tS Tryz.prog 163 0 0:=⟨_,_,_,Tryz.underlying163,rfl,zM Tryz.type22,by decide,rfl⟩
instance fld_163_1:tS Tryz.prog 163 1 1:=⟨_,_,_,Tryz.underlying163,rfl,zM Tryz.type22,by decide,rfl⟩
instance var_124:kY Tryz.prog 124 false 7:=⟨fun u h1 h2 => ⟨_,_,Tryz.underlying124,zM Tryz.type124,by rw [h1];rfl,by rw [h2];rfl⟩⟩
instance bld_124:zJs Tryz.prog 124 [T.agg [L 1 I [],L 1 (L 1 I) [],L 1 (L 1 (L 1 I)) []],T.agg [I 0,I 0,L 1 (L 1 (L 1 I)) []],L 1 (L 1 I) []]:=⟨_,_,fun ps => sL (zM Tryz.type124) Tryz.underlying124 rfl (places:=[(0,3),(3,3),(6,1)]) (by simp [zM Tryz.type23,zM Tryz.type34,zM Tryz.type36];decide) ps,rfl,rfl,(by intro i u hu;match i,hu with | 0,hu => cases hu;rfl | 1,hu => cases hu;rfl | 2,hu => cases hu;rfl | _ + 3,hu => simp at hu)⟩
instance int_3:zPE Tryz.prog 3 .i64:=⟨Tryz.underlying3⟩
instance eqs_140:zSz Tryz.prog 140:=⟨⟨_,_,_,_,Tryz.underlying140,⟨by decide,rfl,Tryz.underlying2⟩,⟨by decide,rfl,Tryz.underlying2⟩,⟨by decide,rfl,Tryz.underlying2⟩,⟨by decide,rfl,Tryz.underlying2⟩⟩,Tryz.stoodInHeld140,Tryz.eqGuardType140⟩
instance bld_52:zJs Tryz.prog 52 [I 0,I 0,L 1 (L 1 I) []]:=⟨_,_,fun ps => sL (zM Tryz.type52) Tryz.underlying52 rfl (places:=[(0,1),(1,1),(2,1)]) (by simp [zM Tryz.type2,zM Tryz.type23];decide) ps,rfl,rfl,(by intro i u hu;match i,hu with | 0,hu => cases hu;rfl | 1,hu => cases hu;rfl | 2,hu => cases hu;rfl | _ + 3,hu => simp at hu)⟩
theorem zMj:Tryz.prog.info? 52 = some Tryz.t52:=zM Tryz.type52
instance infI_52:zEe Tryz.prog 52 Tryz.t52:=⟨zMj⟩
instance var_52:kY Tryz.prog 52 false 3:=⟨fun u h1 h2 => ⟨_,_,Tryz.underlying52,zM Tryz.type52,by rw [h1];rfl,by rw [h2];rfl⟩⟩
instance zer_52:zJp Tryz.prog 52 (T.agg [I 0,I 0,L 1 (L 1 I) []]):=⟨_,_,zM Tryz.type52,rfl,rfl,rfl,rfl⟩
instance fld_52_0:tS Tryz.prog 52 0 0:=⟨_,_,_,Tryz.underlying52,rfl,zM Tryz.type2,by decide,rfl⟩
instance fld_52_1:tS Tryz.prog 52 1 1:=⟨_,_,_,Tryz.underlying52,rfl,zM Tryz.type2,by decide,rfl⟩
instance fld_52_2:tS Tryz.prog 52 2 2:=⟨_,_,_,Tryz.underlying52,rfl,zM Tryz.type23,by decide,rfl⟩
instance int_172:zPE Tryz.prog 172 .u32:=⟨Tryz.underlying172⟩
instance int_175:zPE Tryz.prog 175 .u64:=⟨Tryz.underlying175⟩
instance int_156:zPE Tryz.prog 156 .u64:=⟨Tryz.underlying156⟩
instance bld_108:zJs Tryz.prog 108 [L 1 I [],L 1 I []]:=⟨_,_,fun ps => zIS (zM Tryz.type108) Tryz.underlying108 rfl (zM Tryz.type22) ps,rfl,rfl,(by intro i u hu;match i,hu with | 0,hu => cases hu;rfl | 1,hu => cases hu;rfl | _ + 2,hu => simp at hu)⟩
instance elt_106:ElT Tryz.prog 106 108 Tryz.t108 2 (T.agg [L 1 I ((([]:List Int),([]:List Int)).1),L 1 I ((([]:List Int),([]:List Int)).2)]):=⟨Tryz.underlying106,zM Tryz.type108,⟨_,rfl,rfl⟩,rfl,Nat.le_of_ble_eq_true rfl,rfl,rfl,Nat.le_of_ble_eq_true rfl⟩
instance row_106:zBA Tryz.prog 106 108 Tryz.t108 2:=⟨Tryz.underlying106,zM Tryz.type108,rfl⟩
instance arr_108:zS0 Tryz.prog 108 22 Tryz.t22 2 1:=⟨Tryz.underlying108,zM Tryz.type22,rfl⟩
theorem zE3 {u:T} (h1:u.single = true) (h2:u.size = 1):∃ (ds:TypeDesc) (ti:TypeInfo) (fs:Array Field) (f:Field),Tryz.prog.underlying 52 = some (.struct fs) ∧ fs[2]? = some f ∧ Tryz.prog.underlying f.type = some ds ∧ Tryz.prog.info? f.type = some ti ∧ zDH ds = !u.single ∧ ti.size = u.size:=⟨_,_,_,_,Tryz.underlying52,rfl,Tryz.underlying23,zM Tryz.type23,by rw [h1];rfl,by rw [h2];rfl⟩
instance fldw_52_2:zUJ Tryz.prog 52 2 true 1:=⟨fun _ h1 h2 => zE3 h1 h2⟩
theorem zN1:Tryz.prog.info? 108 = some Tryz.t108:=zM Tryz.type108
instance infI_108:zEe Tryz.prog 108 Tryz.t108:=⟨zN1⟩
instance sli_106:zIw Tryz.prog 106 108:=⟨Tryz.underlying106⟩
instance var_108:kY Tryz.prog 108 false 2:=⟨fun u h1 h2 => ⟨_,_,Tryz.underlying108,zM Tryz.type108,by rw [h1];rfl,by rw [h2];rfl⟩⟩
instance zer_108:zJp Tryz.prog 108 (T.agg [L 1 I ((([]:List Int),([]:List Int)).1),L 1 I ((([]:List Int),([]:List Int)).2)]):=⟨_,_,zM Tryz.type108,rfl,rfl,rfl,rfl⟩
instance bld_34:zJs Tryz.prog 34 [L 1 I [],L 1 (L 1 I) [],L 1 (L 1 (L 1 I)) []]:=⟨_,_,fun ps => sL (zM Tryz.type34) Tryz.underlying34 rfl (places:=[(0,1),(1,1),(2,1)]) (by simp [zM Tryz.type22,zM Tryz.type23,zM Tryz.type24];decide) ps,rfl,rfl,(by intro i u hu;match i,hu with | 0,hu => cases hu;rfl | 1,hu => cases hu;rfl | 2,hu => cases hu;rfl | _ + 3,hu => simp at hu)⟩
instance elt_149:ElT Tryz.prog 149 3 Tryz.t3 1 (I 0):=⟨Tryz.underlying149,zM Tryz.type3,⟨_,rfl,rfl⟩,rfl,Nat.le_of_ble_eq_true rfl,rfl,rfl,Nat.le_of_ble_eq_true rfl⟩
instance row_149:zBA Tryz.prog 149 3 Tryz.t3 1:=⟨Tryz.underlying149,zM Tryz.type3,rfl⟩
instance sli_149:zIw Tryz.prog 149 3:=⟨Tryz.underlying149⟩
instance var_3:kY Tryz.prog 3 true 1:=⟨fun u h1 h2 => ⟨_,_,Tryz.underlying3,zM Tryz.type3,by rw [h1];rfl,by rw [h2];rfl⟩⟩
instance var_26:kY Tryz.prog 26 false 3:=⟨fun u h1 h2 => ⟨_,_,Tryz.underlying26,zM Tryz.type26,by rw [h1];rfl,by rw [h2];rfl⟩⟩
instance var_28:kY Tryz.prog 28 false 3:=⟨fun u h1 h2 => ⟨_,_,Tryz.underlying28,zM Tryz.type28,by rw [h1];rfl,by rw [h2];rfl⟩⟩
instance fld_49_2:tS Tryz.prog 49 2 2:=⟨_,_,_,Tryz.underlying49,rfl,zM Tryz.type23,by decide,rfl⟩
instance fld_49_0:tS Tryz.prog 49 0 0:=⟨_,_,_,Tryz.underlying49,rfl,zM Tryz.type2,by decide,rfl⟩
instance fld_49_1:tS Tryz.prog 49 1 1:=⟨_,_,_,Tryz.underlying49,rfl,zM Tryz.type2,by decide,rfl⟩
instance var_49:kY Tryz.prog 49 false 3:=⟨fun u h1 h2 => ⟨_,_,Tryz.underlying49,zM Tryz.type49,by rw [h1];rfl,by rw [h2];rfl⟩⟩
end Go.Wk
