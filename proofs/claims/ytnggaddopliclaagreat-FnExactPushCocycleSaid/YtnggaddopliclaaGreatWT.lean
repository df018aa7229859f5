/- The program's PushCocycle returns what the reference's returns, for all arguments; no conditions. -/
import Derived.Test.YtnggaddopliclaaGreatAbC
import Derived.Test.YtnggaddopliclaaGreatWF
import Derived.Test.YtnggaddopliclaaGreatProg
namespace Go.Wk
open Go Go.Proofs Go.Ab
abbrev lV:=L 1 I
abbrev lM:=L 1 lV
abbrev lC:=L 1 lM
abbrev wR (x:zL):T:=T.agg [I x.Prime,I x.yS,T.ro (lM x.Rows)]
abbrev yR (x:zC):T:=T.agg [I x.Prime,I x.Dim,T.ro (lC x.zE)]
abbrev qPr (x:SPr):T:=T.agg [T.ro (lV x.zA),T.ro (lM x.zR),T.ro (lC x.zB)]
abbrev zY (x:zD):T:=T.agg [T.ro (lV x.x),T.ro (lV x.v)]
abbrev yD (x:zO):T:=T.agg [T.agg [T.ro (lV x.p.zA),T.ro (lM x.p.zR),T.ro (lC x.p.zB)],T.agg [I x.m.Prime,I x.m.Dim,T.ro (lC x.m.zE)],T.ro (lM x.zIS)]
theorem wG:Tryz.prog.follows .mixedOrders = true:=rfl
instance:Mix Tryz.prog:=⟨wG⟩
instance sli_22:zEL Tryz.prog 22 2:=⟨Tryz.underlying22⟩
instance row_23:zAJ Tryz.prog 23 22 Tryz.t22 1:=⟨Tryz.underlying23,zI Tryz.type22,rfl⟩
instance sli_23:zEL Tryz.prog 23 22:=⟨Tryz.underlying23⟩
instance var_22:sC Tryz.prog 22 true 1:=⟨fun u h1 h2 => ⟨_,_,Tryz.underlying22,zI Tryz.type22,by rw [h1];rfl,by rw [h2];rfl⟩⟩
instance row_24:zAJ Tryz.prog 24 23 Tryz.t23 1:=⟨Tryz.underlying24,zI Tryz.type23,rfl⟩
instance sli_24:zEL Tryz.prog 24 23:=⟨Tryz.underlying24⟩
instance var_23:sC Tryz.prog 23 true 1:=⟨fun u h1 h2 => ⟨_,_,Tryz.underlying23,zI Tryz.type23,by rw [h1];rfl,by rw [h2];rfl⟩⟩
instance fld_26_0:uV Tryz.prog 26 0 0:=⟨_,_,_,Tryz.underlying26,rfl,zI Tryz.type22,by decide,rfl⟩
instance fld_26_1:uV Tryz.prog 26 1 1:=⟨_,_,_,Tryz.underlying26,rfl,zI Tryz.type23,by decide,rfl⟩
instance fld_26_2:uV Tryz.prog 26 2 2:=⟨_,_,_,Tryz.underlying26,rfl,zI Tryz.type24,by decide,rfl⟩
instance var_24:sC Tryz.prog 24 true 1:=⟨fun u h1 h2 => ⟨_,_,Tryz.underlying24,zI Tryz.type24,by rw [h1];rfl,by rw [h2];rfl⟩⟩
instance fld_28_2:uV Tryz.prog 28 2 2:=⟨_,_,_,Tryz.underlying28,rfl,zI Tryz.type24,by decide,rfl⟩
instance fld_30_2:uV Tryz.prog 30 2 2:=⟨_,_,_,Tryz.underlying30,rfl,zI Tryz.type23,by decide,rfl⟩
instance elt_22:ElT Tryz.prog 22 2 Tryz.t2 1 (I 0):=⟨Tryz.underlying22,zI Tryz.type2,⟨_,rfl,rfl⟩,rfl,Nat.le_of_ble_eq_true rfl,rfl,rfl,Nat.le_of_ble_eq_true rfl⟩
theorem zF6:Tryz.prog.info? 2 = some Tryz.t2:=zI Tryz.type2
instance infI_2:zDj Tryz.prog 2 Tryz.t2:=⟨zF6⟩
instance mkz_22:MkZ Tryz.prog 22 I 0 (I 0):=⟨rfl⟩
instance row_22:zAJ Tryz.prog 22 2 Tryz.t2 1:=⟨Tryz.underlying22,zI Tryz.type2,rfl⟩
instance var_2:sC Tryz.prog 2 true 1:=⟨fun u h1 h2 => ⟨_,_,Tryz.underlying2,zI Tryz.type2,by rw [h1];rfl,by rw [h2];rfl⟩⟩
instance elt_23:ElT Tryz.prog 23 22 Tryz.t22 1 (L 1 I []):=⟨Tryz.underlying23,zI Tryz.type22,⟨_,rfl,rfl⟩,rfl,Nat.le_of_ble_eq_true rfl,rfl,rfl,Nat.le_of_ble_eq_true rfl⟩
theorem zHd:Tryz.prog.info? 22 = some Tryz.t22:=zI Tryz.type22
instance infI_22:zDj Tryz.prog 22 Tryz.t22:=⟨zHd⟩
instance mkz_23:MkZ Tryz.prog 23 (L 1 I) ([]:List Int) (L 1 I []):=⟨rfl⟩
instance elt_24:ElT Tryz.prog 24 23 Tryz.t23 1 (L 1 (L 1 I) []):=⟨Tryz.underlying24,zI Tryz.type23,⟨_,rfl,rfl⟩,rfl,Nat.le_of_ble_eq_true rfl,rfl,rfl,Nat.le_of_ble_eq_true rfl⟩
theorem zJU:Tryz.prog.info? 23 = some Tryz.t23:=zI Tryz.type23
instance infI_23:zDj Tryz.prog 23 Tryz.t23:=⟨zJU⟩
instance mkz_24:MkZ Tryz.prog 24 (L 1 (L 1 I)) ([]:List (List Int)) (L 1 (L 1 I) []):=⟨rfl⟩
instance fld_37_0:uV Tryz.prog 37 0 0:=⟨_,_,_,Tryz.underlying37,rfl,zI Tryz.type22,by decide,rfl⟩
instance fld_37_1:uV Tryz.prog 37 1 1:=⟨_,_,_,Tryz.underlying37,rfl,zI Tryz.type23,by decide,rfl⟩
instance fld_37_2:uV Tryz.prog 37 2 2:=⟨_,_,_,Tryz.underlying37,rfl,zI Tryz.type24,by decide,rfl⟩
theorem zPg:Tryz.prog.info? 24 = some Tryz.t24:=zI Tryz.type24
instance infI_24:zDj Tryz.prog 24 Tryz.t24:=⟨zPg⟩
theorem zD2:Tryz.prog.info? 37 = some Tryz.t37:=zI Tryz.type37
instance infI_37:zDj Tryz.prog 37 Tryz.t37:=⟨zD2⟩
instance var_37:sC Tryz.prog 37 false 3:=⟨fun u h1 h2 => ⟨_,_,Tryz.underlying37,zI Tryz.type37,by rw [h1];rfl,by rw [h2];rfl⟩⟩
instance zer_37:zEE Tryz.prog 37 (T.agg [L 1 I [],L 1 (L 1 I) [],L 1 (L 1 (L 1 I)) []]):=⟨_,_,zI Tryz.type37,rfl,rfl,rfl,rfl⟩
instance fld_28_0:uV Tryz.prog 28 0 0:=⟨_,_,_,Tryz.underlying28,rfl,zI Tryz.type2,by decide,rfl⟩
instance fld_28_1:uV Tryz.prog 28 1 1:=⟨_,_,_,Tryz.underlying28,rfl,zI Tryz.type2,by decide,rfl⟩
instance fld_39_0:uV Tryz.prog 39 0 0:=⟨_,_,_,Tryz.underlying39,rfl,zI Tryz.type2,by decide,rfl⟩
instance fld_39_1:uV Tryz.prog 39 1 1:=⟨_,_,_,Tryz.underlying39,rfl,zI Tryz.type2,by decide,rfl⟩
instance fld_39_2:uV Tryz.prog 39 2 2:=⟨_,_,_,Tryz.underlying39,rfl,zI Tryz.type24,by decide,rfl⟩
theorem zJV:Tryz.prog.info? 39 = some Tryz.t39:=zI Tryz.type39
instance infI_39:zDj Tryz.prog 39 Tryz.t39:=⟨zJV⟩
instance var_39:sC Tryz.prog 39 false 3:=⟨fun u h1 h2 => ⟨_,_,Tryz.underlying39,zI Tryz.type39,by rw [h1];rfl,by rw [h2];rfl⟩⟩
instance zer_39:zEE Tryz.prog 39 (T.agg [I 0,I 0,L 1 (L 1 (L 1 I)) []]):=⟨_,_,zI Tryz.type39,rfl,rfl,rfl,rfl⟩
instance fld_30_0:uV Tryz.prog 30 0 0:=⟨_,_,_,Tryz.underlying30,rfl,zI Tryz.type2,by decide,rfl⟩
instance fld_30_1:uV Tryz.prog 30 1 1:=⟨_,_,_,Tryz.underlying30,rfl,zI Tryz.type2,by decide,rfl⟩
instance fld_41_0:uV Tryz.prog 41 0 0:=⟨_,_,_,Tryz.underlying41,rfl,zI Tryz.type2,by decide,rfl⟩
instance fld_41_1:uV Tryz.prog 41 1 1:=⟨_,_,_,Tryz.underlying41,rfl,zI Tryz.type2,by decide,rfl⟩
instance fld_41_2:uV Tryz.prog 41 2 2:=⟨_,_,_,Tryz.underlying41,rfl,zI Tryz.type23,by decide,rfl⟩
theorem zHe:Tryz.prog.info? 41 = some Tryz.t41:=zI Tryz.type41
instance infI_41:zDj Tryz.prog 41 Tryz.t41:=⟨zHe⟩
instance var_41:sC Tryz.prog 41 false 3:=⟨fun u h1 h2 => ⟨_,_,Tryz.underlying41,zI Tryz.type41,by rw [h1];rfl,by rw [h2];rfl⟩⟩
instance zer_41:zEE Tryz.prog 41 (T.agg [I 0,I 0,L 1 (L 1 I) []]):=⟨_,_,zI Tryz.type41,rfl,rfl,rfl,rfl⟩
instance bld_170:zDO Tryz.prog 170 [I 0,I 0,I 0,I 0]:=⟨_,_,fun ps => wX (zI Tryz.type170) Tryz.underlying170 rfl (places:=[(0,1),(1,1),(2,1),(3,1)]) (by simp [zI Tryz.type2];decide) ps,rfl,rfl,(by intro i u hu;match i,hu with | 0,hu => cases hu;rfl | 1,hu => cases hu;rfl | 2,hu => cases hu;rfl | 3,hu => cases hu;rfl | _ + 4,hu => simp at hu)⟩
theorem zQn:Tryz.prog.info? 170 = some Tryz.t170:=zI Tryz.type170
instance infI_170:zDj Tryz.prog 170 Tryz.t170:=⟨zQn⟩
instance var_170:sC Tryz.prog 170 false 4:=⟨fun u h1 h2 => ⟨_,_,Tryz.underlying170,zI Tryz.type170,by rw [h1];rfl,by rw [h2];rfl⟩⟩
instance zer_170:zEE Tryz.prog 170 (T.agg [I 0,I 0,I 0,I 0]):=⟨_,_,zI Tryz.type170,rfl,rfl,rfl,rfl⟩
instance fld_170_0:uV Tryz.prog 170 0 0:=⟨_,_,_,Tryz.underlying170,rfl,zI Tryz.type2,by decide,rfl⟩
theorem zJW {u:T} (h1:u.single = true) (h2:u.size = 1):∃ (ds:TypeDesc) (ti:TypeInfo) (fs:Array Field) (f:Field),Tryz.prog.underlying 170 = some (.struct fs) ∧ fs[0]? = some f ∧ Tryz.prog.underlying f.type = some ds ∧ Tryz.prog.info? f.type = some ti ∧ zCQ ds = !u.single ∧ ti.size = u.size:=⟨_,_,_,_,Tryz.underlying170,rfl,Tryz.underlying2,zI Tryz.type2,by rw [h1];rfl,by rw [h2];rfl⟩
instance fldw_170_0:zRl Tryz.prog 170 0 true 1:=⟨fun _ h1 h2 => zJW h1 h2⟩
instance bld_197:zDO Tryz.prog 197 [L 1 I [],L 1 I []]:=⟨_,_,fun ps => wX (zI Tryz.type197) Tryz.underlying197 rfl (places:=[(0,1),(1,1)]) (by simp [zI Tryz.type22];decide) ps,rfl,rfl,(by intro i u hu;match i,hu with | 0,hu => cases hu;rfl | 1,hu => cases hu;rfl | _ + 2,hu => simp at hu)⟩
instance fld_127_0:uV Tryz.prog 127 0 0:=⟨_,_,_,Tryz.underlying127,rfl,zI Tryz.type37,by decide,rfl⟩
instance fld_127_2:uV Tryz.prog 127 2 6:=⟨_,_,_,Tryz.underlying127,rfl,zI Tryz.type23,by decide,rfl⟩
theorem vJ:Tryz.prog.info? 197 = some Tryz.t197:=zI Tryz.type197
instance infI_197:zDj Tryz.prog 197 Tryz.t197:=⟨vJ⟩
instance var_197:sC Tryz.prog 197 false 2:=⟨fun u h1 h2 => ⟨_,_,Tryz.underlying197,zI Tryz.type197,by rw [h1];rfl,by rw [h2];rfl⟩⟩
instance zer_197:zEE Tryz.prog 197 (T.agg [L 1 I [],L 1 I []]):=⟨_,_,zI Tryz.type197,rfl,rfl,rfl,rfl⟩
instance fld_127_1:uV Tryz.prog 127 1 3:=⟨_,_,_,Tryz.underlying127,rfl,zI Tryz.type39,by decide,rfl⟩
instance fld_197_0:uV Tryz.prog 197 0 0:=⟨_,_,_,Tryz.underlying197,rfl,zI Tryz.type22,by decide,rfl⟩
instance fld_197_1:uV Tryz.prog 197 1 1:=⟨_,_,_,Tryz.underlying197,rfl,zI Tryz.type22,by decide,rfl⟩
instance var_127:sC Tryz.prog 127 false 7:=⟨fun u h1 h2 => ⟨_,_,Tryz.underlying127,zI Tryz.type127,by rw [h1];rfl,by rw [h2];rfl⟩⟩
instance bld_127:zDO Tryz.prog 127 [T.agg [L 1 I [],L 1 (L 1 I) [],L 1 (L 1 (L 1 I)) []],T.agg [I 0,I 0,L 1 (L 1 (L 1 I)) []],L 1 (L 1 I) []]:=⟨_,_,fun ps => wX (zI Tryz.type127) Tryz.underlying127 rfl (places:=[(0,3),(3,3),(6,1)]) (by simp [zI Tryz.type23,zI Tryz.type37,zI Tryz.type39];decide) ps,rfl,rfl,(by intro i u hu;match i,hu with | 0,hu => cases hu;rfl | 1,hu => cases hu;rfl | 2,hu => cases hu;rfl | _ + 3,hu => simp at hu)⟩
instance eqs_170:zP2 Tryz.prog 170:=⟨⟨_,_,_,_,Tryz.underlying170,⟨by decide,rfl,Tryz.underlying2⟩,⟨by decide,rfl,Tryz.underlying2⟩,⟨by decide,rfl,Tryz.underlying2⟩,⟨by decide,rfl,Tryz.underlying2⟩⟩,Tryz.stoodInHeld170,Tryz.eqGuardType170⟩
instance bld_41:zDO Tryz.prog 41 [I 0,I 0,L 1 (L 1 I) []]:=⟨_,_,fun ps => wX (zI Tryz.type41) Tryz.underlying41 rfl (places:=[(0,1),(1,1),(2,1)]) (by simp [zI Tryz.type2,zI Tryz.type23];decide) ps,rfl,rfl,(by intro i u hu;match i,hu with | 0,hu => cases hu;rfl | 1,hu => cases hu;rfl | 2,hu => cases hu;rfl | _ + 3,hu => simp at hu)⟩
instance bld_120:zDO Tryz.prog 120 [L 1 I [],L 1 I []]:=⟨_,_,fun ps => zHq (zI Tryz.type120) Tryz.underlying120 rfl (zI Tryz.type22) ps,rfl,rfl,(by intro i u hu;match i,hu with | 0,hu => cases hu;rfl | 1,hu => cases hu;rfl | _ + 2,hu => simp at hu)⟩
instance elt_118:ElT Tryz.prog 118 120 Tryz.t120 2 (T.agg [L 1 I ((([]:List Int),([]:List Int)).1),L 1 I ((([]:List Int),([]:List Int)).2)]):=⟨Tryz.underlying118,zI Tryz.type120,⟨_,rfl,rfl⟩,rfl,Nat.le_of_ble_eq_true rfl,rfl,rfl,Nat.le_of_ble_eq_true rfl⟩
instance row_118:zAJ Tryz.prog 118 120 Tryz.t120 2:=⟨Tryz.underlying118,zI Tryz.type120,rfl⟩
instance arr_120:zSs Tryz.prog 120 22 Tryz.t22 2 1:=⟨Tryz.underlying120,zI Tryz.type22,rfl⟩
theorem zD3 {u:T} (h1:u.single = true) (h2:u.size = 1):∃ (ds:TypeDesc) (ti:TypeInfo) (fs:Array Field) (f:Field),Tryz.prog.underlying 41 = some (.struct fs) ∧ fs[2]? = some f ∧ Tryz.prog.underlying f.type = some ds ∧ Tryz.prog.info? f.type = some ti ∧ zCQ ds = !u.single ∧ ti.size = u.size:=⟨_,_,_,_,Tryz.underlying41,rfl,Tryz.underlying23,zI Tryz.type23,by rw [h1];rfl,by rw [h2];rfl⟩
instance fldw_41_2:zRl Tryz.prog 41 2 true 1:=⟨fun _ h1 h2 => zD3 h1 h2⟩
theorem zLm:Tryz.prog.info? 120 = some Tryz.t120:=zI Tryz.type120
instance infI_120:zDj Tryz.prog 120 Tryz.t120:=⟨zLm⟩
instance sli_118:zEL Tryz.prog 118 120:=⟨Tryz.underlying118⟩
instance var_120:sC Tryz.prog 120 false 2:=⟨fun u h1 h2 => ⟨_,_,Tryz.underlying120,zI Tryz.type120,by rw [h1];rfl,by rw [h2];rfl⟩⟩
instance zer_120:zEE Tryz.prog 120 (T.agg [L 1 I ((([]:List Int),([]:List Int)).1),L 1 I ((([]:List Int),([]:List Int)).2)]):=⟨_,_,zI Tryz.type120,rfl,rfl,rfl,rfl⟩
instance bld_37:zDO Tryz.prog 37 [L 1 I [],L 1 (L 1 I) [],L 1 (L 1 (L 1 I)) []]:=⟨_,_,fun ps => wX (zI Tryz.type37) Tryz.underlying37 rfl (places:=[(0,1),(1,1),(2,1)]) (by simp [zI Tryz.type22,zI Tryz.type23,zI Tryz.type24];decide) ps,rfl,rfl,(by intro i u hu;match i,hu with | 0,hu => cases hu;rfl | 1,hu => cases hu;rfl | 2,hu => cases hu;rfl | _ + 3,hu => simp at hu)⟩
instance var_26:sC Tryz.prog 26 false 3:=⟨fun u h1 h2 => ⟨_,_,Tryz.underlying26,zI Tryz.type26,by rw [h1];rfl,by rw [h2];rfl⟩⟩
instance var_28:sC Tryz.prog 28 false 3:=⟨fun u h1 h2 => ⟨_,_,Tryz.underlying28,zI Tryz.type28,by rw [h1];rfl,by rw [h2];rfl⟩⟩
instance var_30:sC Tryz.prog 30 false 3:=⟨fun u h1 h2 => ⟨_,_,Tryz.underlying30,zI Tryz.type30,by rw [h1];rfl,by rw [h2];rfl⟩⟩
instance zer_127:zEE Tryz.prog 127 (T.agg [T.agg [L 1 I [],L 1 (L 1 I) [],L 1 (L 1 (L 1 I)) []],T.agg [I 0,I 0,L 1 (L 1 (L 1 I)) []],L 1 (L 1 I) []]):=⟨_,_,zI Tryz.type127,rfl,rfl,rfl,rfl⟩
instance bld_133:zDO Tryz.prog 133 [L 1 I [],L 1 I [],L 1 I []]:=⟨_,_,fun ps => wX (zI Tryz.type133) Tryz.underlying133 rfl (places:=[(0,1),(1,1),(2,1)]) (by simp [zI Tryz.type22];decide) ps,rfl,rfl,(by intro i u hu;match i,hu with | 0,hu => cases hu;rfl | 1,hu => cases hu;rfl | 2,hu => cases hu;rfl | _ + 3,hu => simp at hu)⟩
instance elt_130:ElT Tryz.prog 130 133 Tryz.t133 3 (T.agg [L 1 I [],L 1 I [],L 1 I []]):=⟨Tryz.underlying130,zI Tryz.type133,⟨_,rfl,rfl⟩,rfl,Nat.le_of_ble_eq_true rfl,rfl,rfl,Nat.le_of_ble_eq_true rfl⟩
instance var_78:sC Tryz.prog 78 true 1:=⟨fun u h1 h2 => ⟨_,_,Tryz.underlying78,zI Tryz.type78,by rw [h1];rfl,by rw [h2];rfl⟩⟩
instance var_130:sC Tryz.prog 130 true 1:=⟨fun u h1 h2 => ⟨_,_,Tryz.underlying130,zI Tryz.type130,by rw [h1];rfl,by rw [h2];rfl⟩⟩
instance row_130:zAJ Tryz.prog 130 133 Tryz.t133 3:=⟨Tryz.underlying130,zI Tryz.type133,rfl⟩
instance fld_137_0:uV Tryz.prog 137 0 0:=⟨_,_,_,Tryz.underlying137,rfl,zI Tryz.type78,by decide,rfl⟩
instance fld_137_1:uV Tryz.prog 137 1 1:=⟨_,_,_,Tryz.underlying137,rfl,zI Tryz.type79,by decide,rfl⟩
instance fld_137_2:uV Tryz.prog 137 2 2:=⟨_,_,_,Tryz.underlying137,rfl,zI Tryz.type135,by decide,rfl⟩
instance row_135:zAJ Tryz.prog 135 41 Tryz.t41 3:=⟨Tryz.underlying135,zI Tryz.type41,rfl⟩
instance var_79:sC Tryz.prog 79 true 1:=⟨fun u h1 h2 => ⟨_,_,Tryz.underlying79,zI Tryz.type79,by rw [h1];rfl,by rw [h2];rfl⟩⟩
instance var_135:sC Tryz.prog 135 true 1:=⟨fun u h1 h2 => ⟨_,_,Tryz.underlying135,zI Tryz.type135,by rw [h1];rfl,by rw [h2];rfl⟩⟩
instance bld_137:zDO Tryz.prog 137 [T.lit (.pointer none),T.lit (.pointer none),L 3 xT []]:=⟨_,_,fun ps => wX (zI Tryz.type137) Tryz.underlying137 rfl (places:=[(0,1),(1,1),(2,1)]) (by simp [zI Tryz.type135,zI Tryz.type78,zI Tryz.type79];decide) ps,rfl,rfl,(by intro i u hu;match i,hu with | 0,hu => cases hu;rfl | 1,hu => cases hu;rfl | 2,hu => cases hu;rfl | _ + 3,hu => simp at hu)⟩
instance elt_135:ElT Tryz.prog 135 41 Tryz.t41 3 (T.agg [I 0,I 0,L 1 (L 1 I) []]):=⟨Tryz.underlying135,zI Tryz.type41,⟨_,rfl,rfl⟩,rfl,Nat.le_of_ble_eq_true rfl,rfl,rfl,Nat.le_of_ble_eq_true rfl⟩
instance fld_133_0:uV Tryz.prog 133 0 0:=⟨_,_,_,Tryz.underlying133,rfl,zI Tryz.type22,by decide,rfl⟩
instance rp_41 {a0:Int} {a1:Int} {a2:List (List Int)}:Rp (.agg [I a0,I a1,(L 1 (L 1 I)) a2]) xT (zL.mk a0 a1 a2):=⟨rfl⟩
instance sli_130:zEL Tryz.prog 130 133:=⟨Tryz.underlying130⟩
instance sli_135:zEL Tryz.prog 135 41:=⟨Tryz.underlying135⟩
instance var_133:sC Tryz.prog 133 false 3:=⟨fun u h1 h2 => ⟨_,_,Tryz.underlying133,zI Tryz.type133,by rw [h1];rfl,by rw [h2];rfl⟩⟩
instance zer_133:zEE Tryz.prog 133 (T.agg [L 1 I [],L 1 I [],L 1 I []]):=⟨_,_,zI Tryz.type133,rfl,rfl,rfl,rfl⟩
instance bld_39:zDO Tryz.prog 39 [I 0,I 0,L 1 (L 1 (L 1 I)) []]:=⟨_,_,fun ps => wX (zI Tryz.type39) Tryz.underlying39 rfl (places:=[(0,1),(1,1),(2,1)]) (by simp [zI Tryz.type2,zI Tryz.type24];decide) ps,rfl,rfl,(by intro i u hu;match i,hu with | 0,hu => cases hu;rfl | 1,hu => cases hu;rfl | 2,hu => cases hu;rfl | _ + 3,hu => simp at hu)⟩
instance elt_181:ElT Tryz.prog 181 3 Tryz.t3 1 (I 0):=⟨Tryz.underlying181,zI Tryz.type3,⟨_,rfl,rfl⟩,rfl,Nat.le_of_ble_eq_true rfl,rfl,rfl,Nat.le_of_ble_eq_true rfl⟩
instance row_181:zAJ Tryz.prog 181 3 Tryz.t3 1:=⟨Tryz.underlying181,zI Tryz.type3,rfl⟩
instance sli_181:zEL Tryz.prog 181 3:=⟨Tryz.underlying181⟩
instance var_3:sC Tryz.prog 3 true 1:=⟨fun u h1 h2 => ⟨_,_,Tryz.underlying3,zI Tryz.type3,by rw [h1];rfl,by rw [h2];rfl⟩⟩
instance bld_63:zDO Tryz.prog 63 [T.agg [L 1 I [],L 1 (L 1 I) [],L 1 (L 1 (L 1 I)) []],T.agg [L 1 I [],L 1 (L 1 I) [],L 1 (L 1 (L 1 I)) []],L 1 (L 1 I) []]:=⟨_,_,fun ps => wX (zI Tryz.type63) Tryz.underlying63 rfl (places:=[(0,3),(3,3),(6,1)]) (by simp [zI Tryz.type23,zI Tryz.type37];decide) ps,rfl,rfl,(by intro i u hu;match i,hu with | 0,hu => cases hu;rfl | 1,hu => cases hu;rfl | 2,hu => cases hu;rfl | _ + 3,hu => simp at hu)⟩
instance var_63:sC Tryz.prog 63 false 7:=⟨fun u h1 h2 => ⟨_,_,Tryz.underlying63,zI Tryz.type63,by rw [h1];rfl,by rw [h2];rfl⟩⟩
instance zer_63:zEE Tryz.prog 63 (T.agg [T.agg [L 1 I [],L 1 (L 1 I) [],L 1 (L 1 (L 1 I)) []],T.agg [L 1 I [],L 1 (L 1 I) [],L 1 (L 1 (L 1 I)) []],L 1 (L 1 I) []]):=⟨_,_,zI Tryz.type63,rfl,rfl,rfl,rfl⟩
end Go.Wk
