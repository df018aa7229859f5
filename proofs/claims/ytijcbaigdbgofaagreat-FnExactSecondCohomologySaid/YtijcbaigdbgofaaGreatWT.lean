/- The program's SecondCohomology returns what the reference's returns,for all arguments;no conditions. -/
import Derived.Test.YtijcbaigdbgofaaGreatAbC
import Derived.Test.YtijcbaigdbgofaaGreatWF
import Derived.Test.YtijcbaigdbgofaaGreatProg
open Go.Proofs.Tryz renaming prog→J0,type23→Kz,type22→L4,underlying22→L5,type2→Le,underlying92→H3,type33→H4,underlying2→H6,underlying160→Hc,underlying133→Hd,underlying48→Hh,underlying33→Hi,underlying23→Hj,type24→Hr,type101→Hu,underlying176→Hw,underlying105→Hx,underlying103→Hy,underlying98→G7,underlying35→G8,underlying28→G9,underlying26→Ga,underlying24→Gb,type96→Gd,type92→Ge,underlying3→Gy,type35→U1,underlying147→Ui,underlying101→Uj,underlying96→Un,underlying94→Uo,type176→Up,type160→Uq,type133→Ur,type103→Us,t22→Qc,t101→Ql,type98→Qz,type63→Ja0,type62→Ja1,type48→Ja2,t96→Ja3,t92→Ja4,t23→Ja5,type3→Jap,t2→Jav,t176→Jcd,t160→Jce,t133→Jcf,t103→Jcg,t98→Jcl,t35→Jcm,t33→Jcn,t24→Jco,t3→Jct
open Option renaming some→i7,none→i8
open Bool renaming true→i9,false→ia
namespace Go.Wk
open Go Go.Proofs Go.Ab
abbrev lV:=L 1 I
abbrev lM:=L 1 lV
abbrev lC:=L 1 lM
abbrev uW(x:zK):T:=T.agg [T.ro (lV x.Word),T.ro (lV x.Left),T.ro (lV x.zVR)]
abbrev zG1(x:zU):T:=T.agg [I x.Prime,I x.xG,T.ro (lM x.Rows)]
abbrev xY(x:zE):T:=T.agg [I x.Prime,I x.Dim,T.ro (lC x.zH)]
abbrev qPr(x:SPr):T:=T.agg [T.ro (lV x.zA),T.ro (lM x.zT),T.ro (lC x.zF)]
abbrev yL(x:zI):T:=T.agg [T.ro (lV x.x),T.ro (lV x.v)]
abbrev yP(x:zX):T:=T.agg [T.agg [T.ro (lV x.p.zA),T.ro (lM x.p.zT),T.ro (lC x.p.zF)],T.agg [I x.m.Prime,I x.m.Dim,T.ro (lC x.m.zH)],T.ro (lM x.zMz)]
abbrev zIc(x:xL):T:=T.agg [T.ro ((Pt yM) x.p),T.ro ((Pt zV) x.m),T.ro ((L 3 zO) x.sums)]
theorem xS:J0.follows .mixedOrders=i9:=rfl
instance:Mix J0:=⟨xS⟩
instance sli_22:zHb J0 22 2:=⟨L5⟩
instance row_23:zB5 J0 23 22 Qc 1:=⟨Hj,zP L4,rfl⟩
instance sli_23:zHb J0 23 22:=⟨Hj⟩
instance var_22:jW J0 22 i9 1:=⟨fun u h1 h2=>⟨_,_,L5,zP L4,by rw[h1];rfl,by rw[h2];rfl⟩⟩
instance row_24:zB5 J0 24 23 Ja5 1:=⟨Gb,zP Kz,rfl⟩
instance sli_24:zHb J0 24 23:=⟨Gb⟩
instance var_23:jW J0 23 i9 1:=⟨fun u h1 h2=>⟨_,_,Hj,zP Kz,by rw[h1];rfl,by rw[h2];rfl⟩⟩
instance fld_26_0:sG J0 26 0 0:=⟨_,_,_,Ga,rfl,zP L4,by decide,rfl⟩
instance fld_26_1:sG J0 26 1 1:=⟨_,_,_,Ga,rfl,zP Kz,by decide,rfl⟩
instance fld_26_2:sG J0 26 2 2:=⟨_,_,_,Ga,rfl,zP Hr,by decide,rfl⟩
instance var_24:jW J0 24 i9 1:=⟨fun u h1 h2=>⟨_,_,Gb,zP Hr,by rw[h1];rfl,by rw[h2];rfl⟩⟩
instance fld_28_2:sG J0 28 2 2:=⟨_,_,_,G9,rfl,zP Hr,by decide,rfl⟩
instance elt_22:ElT J0 22 2 Jav 1 (I 0):=⟨L5,zP Le,⟨_,rfl,rfl⟩,rfl,Nat.le_of_ble_eq_true rfl,rfl,rfl,Nat.le_of_ble_eq_true rfl⟩
theorem zEU:J0.info? 2=i7 Jav:=zP Le
instance infI_2:zCt J0 2 Jav:=⟨zEU⟩
instance mkz_22:MkZ J0 22 I 0 (I 0):=⟨rfl⟩
instance row_22:zB5 J0 22 2 Jav 1:=⟨L5,zP Le,rfl⟩
instance var_2:jW J0 2 i9 1:=⟨fun u h1 h2=>⟨_,_,H6,zP Le,by rw[h1];rfl,by rw[h2];rfl⟩⟩
instance elt_23:ElT J0 23 22 Qc 1 (L 1 I []):=⟨Hj,zP L4,⟨_,rfl,rfl⟩,rfl,Nat.le_of_ble_eq_true rfl,rfl,rfl,Nat.le_of_ble_eq_true rfl⟩
theorem zCI:J0.info? 22=i7 Qc:=zP L4
instance infI_22:zCt J0 22 Qc:=⟨zCI⟩
instance mkz_23:MkZ J0 23 (L 1 I) ([]:ig) (L 1 I []):=⟨rfl⟩
instance elt_24:ElT J0 24 23 Ja5 1 (L 1 (L 1 I) []):=⟨Gb,zP Kz,⟨_,rfl,rfl⟩,rfl,Nat.le_of_ble_eq_true rfl,rfl,rfl,Nat.le_of_ble_eq_true rfl⟩
theorem zT8:J0.info? 23=i7 Ja5:=zP Kz
instance infI_23:zCt J0 23 Ja5:=⟨zT8⟩
instance mkz_24:MkZ J0 24 (L 1 (L 1 I)) ([]:ii) (L 1 (L 1 I) []):=⟨rfl⟩
instance fld_33_0:sG J0 33 0 0:=⟨_,_,_,Hi,rfl,zP L4,by decide,rfl⟩
instance fld_33_1:sG J0 33 1 1:=⟨_,_,_,Hi,rfl,zP Kz,by decide,rfl⟩
instance fld_33_2:sG J0 33 2 2:=⟨_,_,_,Hi,rfl,zP Hr,by decide,rfl⟩
theorem zX1:J0.info? 24=i7 Jco:=zP Hr
instance infI_24:zCt J0 24 Jco:=⟨zX1⟩
theorem zX2:J0.info? 33=i7 Jcn:=zP H4
instance infI_33:zCt J0 33 Jcn:=⟨zX2⟩
instance var_33:jW J0 33 ia 3:=⟨fun u h1 h2=>⟨_,_,Hi,zP H4,by rw[h1];rfl,by rw[h2];rfl⟩⟩
instance zer_33:zGc J0 33 (T.agg [L 1 I [],L 1 (L 1 I) [],L 1 (L 1 (L 1 I)) []]):=⟨_,_,zP H4,rfl,rfl,rfl,rfl⟩
instance fld_28_0:sG J0 28 0 0:=⟨_,_,_,G9,rfl,zP Le,by decide,rfl⟩
instance fld_28_1:sG J0 28 1 1:=⟨_,_,_,G9,rfl,zP Le,by decide,rfl⟩
instance fld_35_0:sG J0 35 0 0:=⟨_,_,_,G8,rfl,zP Le,by decide,rfl⟩
instance fld_35_1:sG J0 35 1 1:=⟨_,_,_,G8,rfl,zP Le,by decide,rfl⟩
instance fld_35_2:sG J0 35 2 2:=⟨_,_,_,G8,rfl,zP Hr,by decide,rfl⟩
theorem zX3:J0.info? 35=i7 Jcm:=zP U1
instance infI_35:zCt J0 35 Jcm:=⟨zX3⟩
instance var_35:jW J0 35 ia 3:=⟨fun u h1 h2=>⟨_,_,G8,zP U1,by rw[h1];rfl,by rw[h2];rfl⟩⟩
instance zer_35:zGc J0 35 (T.agg [I 0,I 0,L 1 (L 1 (L 1 I)) []]):=⟨_,_,zP U1,rfl,rfl,rfl,rfl⟩
instance bld_160:zGZ J0 160 [I 0,I 0,I 0,I 0]:=⟨_,_,fun ps=>uN (zP Uq) Hc rfl (places:=[(0,1),(1,1),(2,1),(3,1)]) (by simp[zP Le];decide) ps,rfl,rfl,(by intro i u hu;match i,hu with|0,hu=>cases hu;rfl|1,hu=>cases hu;rfl|2,hu=>cases hu;rfl|3,hu=>cases hu;rfl|_+4,hu=>simp at hu)⟩
theorem zVe:J0.info? 160=i7 Jce:=zP Uq
instance infI_160:zCt J0 160 Jce:=⟨zVe⟩
instance var_160:jW J0 160 ia 4:=⟨fun u h1 h2=>⟨_,_,Hc,zP Uq,by rw[h1];rfl,by rw[h2];rfl⟩⟩
instance zer_160:zGc J0 160 (T.agg [I 0,I 0,I 0,I 0]):=⟨_,_,zP Uq,rfl,rfl,rfl,rfl⟩
instance fld_160_0:sG J0 160 0 0:=⟨_,_,_,Hc,rfl,zP Le,by decide,rfl⟩
theorem zN9{u:T}(h1:u.single=i9)(h2:u.size=1):∃(ds:TypeDesc)(ti:TypeInfo)(fs:Array Field)(f:Field),J0.underlying 160=i7 (.struct fs)∧fs[0]? =i7 f∧J0.underlying f.type=i7 ds∧J0.info? f.type=i7 ti∧zEW ds= !u.single∧ti.size=u.size:=⟨_,_,_,_,Hc,rfl,H6,zP Le,by rw[h1];rfl,by rw[h2];rfl⟩
instance fldw_160_0:zWu J0 160 0 i9 1:=⟨fun _ h1 h2=>zN9 h1 h2⟩
instance bld_176:zGZ J0 176 [L 1 I [],L 1 I []]:=⟨_,_,fun ps=>uN (zP Up) Hw rfl (places:=[(0,1),(1,1)]) (by simp[zP L4];decide) ps,rfl,rfl,(by intro i u hu;match i,hu with|0,hu=>cases hu;rfl|1,hu=>cases hu;rfl|_+2,hu=>simp at hu)⟩
instance fld_133_0:sG J0 133 0 0:=⟨_,_,_,Hd,rfl,zP H4,by decide,rfl⟩
instance fld_133_2:sG J0 133 2 6:=⟨_,_,_,Hd,rfl,zP Kz,by decide,rfl⟩
theorem uG:J0.info? 176=i7 Jcd:=zP Up
instance infI_176:zCt J0 176 Jcd:=⟨uG⟩
instance var_176:jW J0 176 ia 2:=⟨fun u h1 h2=>⟨_,_,Hw,zP Up,by rw[h1];rfl,by rw[h2];rfl⟩⟩
instance zer_176:zGc J0 176 (T.agg [L 1 I [],L 1 I []]):=⟨_,_,zP Up,rfl,rfl,rfl,rfl⟩
instance fld_133_1:sG J0 133 1 3:=⟨_,_,_,Hd,rfl,zP U1,by decide,rfl⟩
instance fld_176_0:sG J0 176 0 0:=⟨_,_,_,Hw,rfl,zP L4,by decide,rfl⟩
instance fld_176_1:sG J0 176 1 1:=⟨_,_,_,Hw,rfl,zP L4,by decide,rfl⟩
instance var_133:jW J0 133 ia 7:=⟨fun u h1 h2=>⟨_,_,Hd,zP Ur,by rw[h1];rfl,by rw[h2];rfl⟩⟩
instance bld_133:zGZ J0 133 [T.agg [L 1 I [],L 1 (L 1 I) [],L 1 (L 1 (L 1 I)) []],T.agg [I 0,I 0,L 1 (L 1 (L 1 I)) []],L 1 (L 1 I) []]:=⟨_,_,fun ps=>uN (zP Ur) Hd rfl (places:=[(0,3),(3,3),(6,1)]) (by simp[zP Kz,zP H4,zP U1];decide) ps,rfl,rfl,(by intro i u hu;match i,hu with|0,hu=>cases hu;rfl|1,hu=>cases hu;rfl|2,hu=>cases hu;rfl|_+3,hu=>simp at hu)⟩
theorem zOZ:J0.info? 133=i7 Jcf:=zP Ur
instance infI_133:zCt J0 133 Jcf:=⟨zOZ⟩
instance zer_133:zGc J0 133 (T.agg [T.agg [L 1 I [],L 1 (L 1 I) [],L 1 (L 1 (L 1 I)) []],T.agg [I 0,I 0,L 1 (L 1 (L 1 I)) []],L 1 (L 1 I) []]):=⟨_,_,zP Ur,rfl,rfl,rfl,rfl⟩
instance eqs_160:zTW J0 160:=⟨⟨_,_,_,_,Hc,⟨by decide,rfl,H6⟩,⟨by decide,rfl,H6⟩,⟨by decide,rfl,H6⟩,⟨by decide,rfl,H6⟩⟩,Tryz.stoodInHeld160,Tryz.eqGuardType160⟩
instance bld_92:zGZ J0 92 [I 0,I 0,L 1 (L 1 I) []]:=⟨_,_,fun ps=>uN (zP Ge) H3 rfl (places:=[(0,1),(1,1),(2,1)]) (by simp[zP Le,zP Kz];decide) ps,rfl,rfl,(by intro i u hu;match i,hu with|0,hu=>cases hu;rfl|1,hu=>cases hu;rfl|2,hu=>cases hu;rfl|_+3,hu=>simp at hu)⟩
theorem zCJ:J0.info? 92=i7 Ja4:=zP Ge
instance infI_92:zCt J0 92 Ja4:=⟨zCJ⟩
instance var_92:jW J0 92 ia 3:=⟨fun u h1 h2=>⟨_,_,H3,zP Ge,by rw[h1];rfl,by rw[h2];rfl⟩⟩
instance zer_92:zGc J0 92 (T.agg [I 0,I 0,L 1 (L 1 I) []]):=⟨_,_,zP Ge,rfl,rfl,rfl,rfl⟩
instance fld_92_0:sG J0 92 0 0:=⟨_,_,_,H3,rfl,zP Le,by decide,rfl⟩
instance fld_92_1:sG J0 92 1 1:=⟨_,_,_,H3,rfl,zP Le,by decide,rfl⟩
instance fld_92_2:sG J0 92 2 2:=⟨_,_,_,H3,rfl,zP Kz,by decide,rfl⟩
instance bld_96:zGZ J0 96 [L 1 I [],L 1 I []]:=⟨_,_,fun ps=>zKz (zP Gd) Un rfl (zP L4) ps,rfl,rfl,(by intro i u hu;match i,hu with|0,hu=>cases hu;rfl|1,hu=>cases hu;rfl|_+2,hu=>simp at hu)⟩
instance elt_94:ElT J0 94 96 Ja3 2 (T.agg [L 1 I ((([]:ig),([]:ig)).1),L 1 I ((([]:ig),([]:ig)).2)]):=⟨Uo,zP Gd,⟨_,rfl,rfl⟩,rfl,Nat.le_of_ble_eq_true rfl,rfl,rfl,Nat.le_of_ble_eq_true rfl⟩
instance row_94:zB5 J0 94 96 Ja3 2:=⟨Uo,zP Gd,rfl⟩
instance arr_96:zTX J0 96 22 Qc 2 1:=⟨Un,zP L4,rfl⟩
theorem zFC{u:T}(h1:u.single=i9)(h2:u.size=1):∃(ds:TypeDesc)(ti:TypeInfo)(fs:Array Field)(f:Field),J0.underlying 92=i7 (.struct fs)∧fs[2]? =i7 f∧J0.underlying f.type=i7 ds∧J0.info? f.type=i7 ti∧zEW ds= !u.single∧ti.size=u.size:=⟨_,_,_,_,H3,rfl,Hj,zP Kz,by rw[h1];rfl,by rw[h2];rfl⟩
instance fldw_92_2:zWu J0 92 2 i9 1:=⟨fun _ h1 h2=>zFC h1 h2⟩
theorem zT9:J0.info? 96=i7 Ja3:=zP Gd
instance infI_96:zCt J0 96 Ja3:=⟨zT9⟩
instance sli_94:zHb J0 94 96:=⟨Uo⟩
instance var_96:jW J0 96 ia 2:=⟨fun u h1 h2=>⟨_,_,Un,zP Gd,by rw[h1];rfl,by rw[h2];rfl⟩⟩
instance zer_96:zGc J0 96 (T.agg [L 1 I ((([]:ig),([]:ig)).1),L 1 I ((([]:ig),([]:ig)).2)]):=⟨_,_,zP Gd,rfl,rfl,rfl,rfl⟩
instance bld_101:zGZ J0 101 [L 1 I [],L 1 I [],L 1 I []]:=⟨_,_,fun ps=>uN (zP Hu) Uj rfl (places:=[(0,1),(1,1),(2,1)]) (by simp[zP L4];decide) ps,rfl,rfl,(by intro i u hu;match i,hu with|0,hu=>cases hu;rfl|1,hu=>cases hu;rfl|2,hu=>cases hu;rfl|_+3,hu=>simp at hu)⟩
instance elt_98:ElT J0 98 101 Ql 3 (T.agg [L 1 I [],L 1 I [],L 1 I []]):=⟨G7,zP Hu,⟨_,rfl,rfl⟩,rfl,Nat.le_of_ble_eq_true rfl,rfl,rfl,Nat.le_of_ble_eq_true rfl⟩
theorem zTA:J0.info? 98=i7 Jcl:=zP Qz
instance infI_98:zCt J0 98 Jcl:=⟨zTA⟩
instance rp_101{a0:ig}{a1:ig}{a2:ig}:Rp (.agg [(L 1 I) a0,(L 1 I) a1,(L 1 I) a2]) zG (zK.mk a0 a1 a2):=⟨rfl⟩
instance var_62:jW J0 62 i9 1:=⟨fun u h1 h2=>⟨_,_,Tryz.underlying62,zP Ja1,by rw[h1];rfl,by rw[h2];rfl⟩⟩
instance var_98:jW J0 98 i9 1:=⟨fun u h1 h2=>⟨_,_,G7,zP Qz,by rw[h1];rfl,by rw[h2];rfl⟩⟩
instance row_98:zB5 J0 98 101 Ql 3:=⟨G7,zP Hu,rfl⟩
instance zer_98:zGc J0 98 (L 3 zG []):=⟨_,_,zP Qz,rfl,rfl,rfl,rfl⟩
instance fld_105_0:sG J0 105 0 0:=⟨_,_,_,Hx,rfl,zP Ja1,by decide,rfl⟩
instance fld_105_1:sG J0 105 1 1:=⟨_,_,_,Hx,rfl,zP Ja0,by decide,rfl⟩
instance fld_105_2:sG J0 105 2 2:=⟨_,_,_,Hx,rfl,zP Us,by decide,rfl⟩
instance row_103:zB5 J0 103 92 Ja4 3:=⟨Hy,zP Ge,rfl⟩
instance var_63:jW J0 63 i9 1:=⟨fun u h1 h2=>⟨_,_,Tryz.underlying63,zP Ja0,by rw[h1];rfl,by rw[h2];rfl⟩⟩
instance var_103:jW J0 103 i9 1:=⟨fun u h1 h2=>⟨_,_,Hy,zP Us,by rw[h1];rfl,by rw[h2];rfl⟩⟩
instance bld_105:zGZ J0 105 [T.lit (.pointer i8),T.lit (.pointer i8),L 3 zO []]:=⟨_,_,fun ps=>uN (zP Tryz.type105) Hx rfl (places:=[(0,1),(1,1),(2,1)]) (by simp[zP Us,zP Ja1,zP Ja0];decide) ps,rfl,rfl,(by intro i u hu;match i,hu with|0,hu=>cases hu;rfl|1,hu=>cases hu;rfl|2,hu=>cases hu;rfl|_+3,hu=>simp at hu)⟩
instance elt_103:ElT J0 103 92 Ja4 3 (T.agg [I 0,I 0,L 1 (L 1 I) []]):=⟨Hy,zP Ge,⟨_,rfl,rfl⟩,rfl,Nat.le_of_ble_eq_true rfl,rfl,rfl,Nat.le_of_ble_eq_true rfl⟩
instance fld_101_0:sG J0 101 0 0:=⟨_,_,_,Uj,rfl,zP L4,by decide,rfl⟩
theorem zPa:J0.info? 101=i7 Ql:=zP Hu
instance infI_101:zCt J0 101 Ql:=⟨zPa⟩
theorem zPb:J0.info? 103=i7 Jcg:=zP Us
instance infI_103:zCt J0 103 Jcg:=⟨zPb⟩
instance rp_92{a0:Int}{a1:Int}{a2:ii}:Rp (.agg [I a0,I a1,(L 1 (L 1 I)) a2]) zO (zU.mk a0 a1 a2):=⟨rfl⟩
instance sli_98:zHb J0 98 101:=⟨G7⟩
instance sli_103:zHb J0 103 92:=⟨Hy⟩
instance var_101:jW J0 101 ia 3:=⟨fun u h1 h2=>⟨_,_,Uj,zP Hu,by rw[h1];rfl,by rw[h2];rfl⟩⟩
instance zer_101:zGc J0 101 (T.agg [L 1 I [],L 1 I [],L 1 I []]):=⟨_,_,zP Hu,rfl,rfl,rfl,rfl⟩
instance var_26:jW J0 26 ia 3:=⟨fun u h1 h2=>⟨_,_,Ga,zP Tryz.type26,by rw[h1];rfl,by rw[h2];rfl⟩⟩
instance var_28:jW J0 28 ia 3:=⟨fun u h1 h2=>⟨_,_,G9,zP Tryz.type28,by rw[h1];rfl,by rw[h2];rfl⟩⟩
instance elt_147:ElT J0 147 3 Jct 1 (I 0):=⟨Ui,zP Jap,⟨_,rfl,rfl⟩,rfl,Nat.le_of_ble_eq_true rfl,rfl,rfl,Nat.le_of_ble_eq_true rfl⟩
instance row_147:zB5 J0 147 3 Jct 1:=⟨Ui,zP Jap,rfl⟩
instance sli_147:zHb J0 147 3:=⟨Ui⟩
instance var_3:jW J0 3 i9 1:=⟨fun u h1 h2=>⟨_,_,Gy,zP Jap,by rw[h1];rfl,by rw[h2];rfl⟩⟩
instance bld_33:zGZ J0 33 [L 1 I [],L 1 (L 1 I) [],L 1 (L 1 (L 1 I)) []]:=⟨_,_,fun ps=>uN (zP H4) Hi rfl (places:=[(0,1),(1,1),(2,1)]) (by simp[zP L4,zP Kz,zP Hr];decide) ps,rfl,rfl,(by intro i u hu;match i,hu with|0,hu=>cases hu;rfl|1,hu=>cases hu;rfl|2,hu=>cases hu;rfl|_+3,hu=>simp at hu)⟩
instance bld_48:zGZ J0 48 [T.agg [L 1 I [],L 1 (L 1 I) [],L 1 (L 1 (L 1 I)) []],T.agg [L 1 I [],L 1 (L 1 I) [],L 1 (L 1 (L 1 I)) []],L 1 (L 1 I) []]:=⟨_,_,fun ps=>uN (zP Ja2) Hh rfl (places:=[(0,3),(3,3),(6,1)]) (by simp[zP Kz,zP H4];decide) ps,rfl,rfl,(by intro i u hu;match i,hu with|0,hu=>cases hu;rfl|1,hu=>cases hu;rfl|2,hu=>cases hu;rfl|_+3,hu=>simp at hu)⟩
instance var_48:jW J0 48 ia 7:=⟨fun u h1 h2=>⟨_,_,Hh,zP Ja2,by rw[h1];rfl,by rw[h2];rfl⟩⟩
instance zer_48:zGc J0 48 (T.agg [T.agg [L 1 I [],L 1 (L 1 I) [],L 1 (L 1 (L 1 I)) []],T.agg [L 1 I [],L 1 (L 1 I) [],L 1 (L 1 (L 1 I)) []],L 1 (L 1 I) []]):=⟨_,_,zP Ja2,rfl,rfl,rfl,rfl⟩
instance fld_48_0:sG J0 48 0 0:=⟨_,_,_,Hh,rfl,zP H4,by decide,rfl⟩
instance fld_48_1:sG J0 48 1 3:=⟨_,_,_,Hh,rfl,zP H4,by decide,rfl⟩
instance fld_48_2:sG J0 48 2 6:=⟨_,_,_,Hh,rfl,zP Kz,by decide,rfl⟩
end Go.Wk
