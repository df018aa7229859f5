/- x -/
import Derived.Test.YtchnmobojdcikaaGreatKAbC
import Derived.Test.YtchnmobojdcikaaGreatKWF
import Derived.Test.YtchnmobojdcikaaGreatProg
open Go.Proofs.Tryz renaming prog→J0,type2→Ky,type25→L9,underlying2→Lb,type24→Li,underlying24→Lp,underlying62→Ly,underlying3→H2,underlying237→H4,underlying234→H5,underlying30→H7,underlying28→H8,underlying25→H9,type3→Hf,type208→Hk,underlying275→Hn,underlying202→Ho,underlying138→Hp,underlying26→Hu,underlying22→Hv,type30→Hw,type28→Hx,type26→Hy,underlying141→Hz,type22→Gd,underlying286→Gu,underlying208→Gv,underlying206→Gw,underlying174→Gx,underlying57→U0,type275→U1,type237→U2,type234→U3,underlying5→U7,type62→U8,t24→Ud,t208→Uh,type57→Uq,t25→Ur,underlying288→Q2,underlying263→Q3,type9→Q4,type5→Q5,t3→Qc,t2→Qd,underlying9→Qk,type98→Jac,t275→Jai,t237→Jaj,t234→Jak,t62→Jap,t30→Jaq,t28→Jar,t26→Jas,t9→Jaw,t5→Jax
open Option renaming some→dJ,none→dK
open Bool renaming true→dL,false→dM
namespace Go.Wk
open Go Go.Proofs Go.Ab
abbrev lV:=L 1 I
abbrev lM:=L 1 lV
abbrev lC:=L 1 lM
abbrev zHc(x:zS):T:=T.agg [I x.Prime,I x.tD,T.ro (lM x.Rows)]
abbrev wL(x:zC):T:=T.agg [I x.Prime,I x.Dim,T.ro (lC x.zG)]
abbrev qPr(x:SPr):T:=T.agg [T.ro (lV x.zA),T.ro (lM x.zJ),T.ro (lC x.zB)]
abbrev wO(x:zE):T:=T.agg [T.ro ((L 1 (IK .u8)) x.code),I x.at_,I x.seed]
abbrev xD(x:zI):T:=T.agg [T.ro (lV x.x),T.ro (lV x.v)]
abbrev xG(x:zN):T:=T.agg [T.agg [T.ro (lV x.p.zA),T.ro (lM x.p.zJ),T.ro (lC x.p.zB)],T.agg [I x.m.Prime,I x.m.Dim,T.ro (lC x.m.zG)],T.ro (lM x.zNz)]
theorem zEE:J0.follows .mixedOrders=dL:=rfl
instance:Mix J0:=⟨zEE⟩
instance sli_22:zGE J0 22 5:=⟨Hv⟩
instance bld_202:zHA J0 202 [L 1 (IK .u8) [],I 0,I 0]:=⟨_,_,fun ps=>uN (zO Tryz.type202) Ho rfl (places:=[(0,1),(1,1),(2,1)]) (by simp[zO Ky,zO Gd,zO Hf];decide) ps,rfl,rfl,(by intro i u hu;match i,hu with|0,hu=>cases hu;rfl|1,hu=>cases hu;rfl|2,hu=>cases hu;rfl|_+3,hu=>simp at hu)⟩
instance fld_202_2:jR J0 202 2 2:=⟨_,_,_,Ho,rfl,zO Ky,by decide,rfl⟩
theorem yDw:J0.info? 2=dJ Qd:=zO Ky
instance infI_2:zE1 J0 2 Qd:=⟨yDw⟩
instance int_2:zK2 J0 2 .i64:=⟨Lb⟩
instance row_22:zDT J0 22 5 Jax 1:=⟨Hv,zO Q5,rfl⟩
instance und_5:zNE J0 5:=⟨_,U7⟩
instance var_2:zA6 J0 2 dL 1:=⟨fun u h1 h2=>⟨_,_,Lb,zO Ky,by rw[h1];rfl,by rw[h2];rfl⟩⟩
instance var_5:zA6 J0 5 dL 1:=⟨fun u h1 h2=>⟨_,_,U7,zO Q5,by rw[h1];rfl,by rw[h2];rfl⟩⟩
instance fld_202_0:jR J0 202 0 0:=⟨_,_,_,Ho,rfl,zO Gd,by decide,rfl⟩
instance fld_202_1:jR J0 202 1 1:=⟨_,_,_,Ho,rfl,zO Hf,by decide,rfl⟩
theorem yDx:J0.info? 3=dJ Qc:=zO Hf
instance infI_3:zE1 J0 3 Qc:=⟨yDx⟩
instance var_3:zA6 J0 3 dL 1:=⟨fun u h1 h2=>⟨_,_,H2,zO Hf,by rw[h1];rfl,by rw[h2];rfl⟩⟩
instance var_22:zA6 J0 22 dL 1:=⟨fun u h1 h2=>⟨_,_,Hv,zO Gd,by rw[h1];rfl,by rw[h2];rfl⟩⟩
instance row_24:zDT J0 24 2 Qd 1:=⟨Lp,zO Ky,rfl⟩
instance sli_24:zGE J0 24 2:=⟨Lp⟩
instance elt_24:ElT J0 24 2 Qd 1 (I 0):=⟨Lp,zO Ky,⟨_,rfl,rfl⟩,rfl,Nat.le_of_ble_eq_true rfl,rfl,rfl,Nat.le_of_ble_eq_true rfl⟩
instance mkz_24:MkZ J0 24 I 0 (I 0):=⟨rfl⟩
instance bld_28:zHA J0 28 [L 1 I [],L 1 (L 1 I) [],L 1 (L 1 (L 1 I)) []]:=⟨_,_,fun ps=>uN (zO Hx) H8 rfl (places:=[(0,1),(1,1),(2,1)]) (by simp[zO Li,zO L9,zO Hy];decide) ps,rfl,rfl,(by intro i u hu;match i,hu with|0,hu=>cases hu;rfl|1,hu=>cases hu;rfl|2,hu=>cases hu;rfl|_+3,hu=>simp at hu)⟩
instance elt_25:ElT J0 25 24 Ud 1 (L 1 I []):=⟨H9,zO Li,⟨_,rfl,rfl⟩,rfl,Nat.le_of_ble_eq_true rfl,rfl,rfl,Nat.le_of_ble_eq_true rfl⟩
instance elt_26:ElT J0 26 25 Ur 1 (L 1 (L 1 I) []):=⟨Hu,zO L9,⟨_,rfl,rfl⟩,rfl,Nat.le_of_ble_eq_true rfl,rfl,rfl,Nat.le_of_ble_eq_true rfl⟩
instance fld_28_1:jR J0 28 1 1:=⟨_,_,_,H8,rfl,zO L9,by decide,rfl⟩
instance fld_28_2:jR J0 28 2 2:=⟨_,_,_,H8,rfl,zO Hy,by decide,rfl⟩
theorem yBc:J0.info? 25=dJ Ur:=zO L9
instance infI_25:zE1 J0 25 Ur:=⟨yBc⟩
theorem yBd:J0.info? 26=dJ Jas:=zO Hy
instance infI_26:zE1 J0 26 Jas:=⟨yBd⟩
theorem yBe:J0.info? 28=dJ Jar:=zO Hx
instance infI_28:zE1 J0 28 Jar:=⟨yBe⟩
instance var_25:zA6 J0 25 dL 1:=⟨fun u h1 h2=>⟨_,_,H9,zO L9,by rw[h1];rfl,by rw[h2];rfl⟩⟩
instance var_26:zA6 J0 26 dL 1:=⟨fun u h1 h2=>⟨_,_,Hu,zO Hy,by rw[h1];rfl,by rw[h2];rfl⟩⟩
instance var_28:zA6 J0 28 dM 3:=⟨fun u h1 h2=>⟨_,_,H8,zO Hx,by rw[h1];rfl,by rw[h2];rfl⟩⟩
instance zer_28:zKv J0 28 (T.agg [L 1 I [],L 1 (L 1 I) [],L 1 (L 1 (L 1 I)) []]):=⟨_,_,zO Hx,rfl,rfl,rfl,rfl⟩
theorem yBf:J0.info? 24=dJ Ud:=zO Li
instance infI_24:zE1 J0 24 Ud:=⟨yBf⟩
instance row_25:zDT J0 25 24 Ud 1:=⟨H9,zO Li,rfl⟩
instance row_26:zDT J0 26 25 Ur 1:=⟨Hu,zO L9,rfl⟩
instance sli_25:zGE J0 25 24:=⟨H9⟩
instance var_24:zA6 J0 24 dL 1:=⟨fun u h1 h2=>⟨_,_,Lp,zO Li,by rw[h1];rfl,by rw[h2];rfl⟩⟩
instance int_3:zK2 J0 3 .i64:=⟨H2⟩
instance elt_286:ElT J0 286 9 Jaw 1 (Str ByteArray.empty):=⟨Gu,zO Q4,⟨_,rfl,rfl⟩,rfl,Nat.le_of_ble_eq_true rfl,rfl,rfl,Nat.le_of_ble_eq_true rfl⟩
instance row_286:zDT J0 286 9 Jaw 1:=⟨Gu,zO Q4,rfl⟩
instance str_9:zSN J0 9:=⟨Qk⟩
instance sli_286:zGE J0 286 9:=⟨Gu⟩
instance var_9:zA6 J0 9 dL 1:=⟨fun u h1 h2=>⟨_,_,Qk,zO Q4,by rw[h1];rfl,by rw[h2];rfl⟩⟩
instance fld_28_0:jR J0 28 0 0:=⟨_,_,_,H8,rfl,zO Li,by decide,rfl⟩
instance sli_26:zGE J0 26 25:=⟨Hu⟩
instance elt_22:ElT J0 22 5 Jax 1 ((IK .u8) 0):=⟨Hv,zO Q5,⟨_,rfl,rfl⟩,rfl,Nat.le_of_ble_eq_true rfl,rfl,rfl,Nat.le_of_ble_eq_true rfl⟩
instance int_5:zK2 J0 5 .u8:=⟨U7⟩
instance und_2:zNE J0 2:=⟨_,Lb⟩
instance bld_237:zHA J0 237 [I 0,I 0,I 0,I 0]:=⟨_,_,fun ps=>uN (zO U2) H4 rfl (places:=[(0,1),(1,1),(2,1),(3,1)]) (by simp[zO Ky];decide) ps,rfl,rfl,(by intro i u hu;match i,hu with|0,hu=>cases hu;rfl|1,hu=>cases hu;rfl|2,hu=>cases hu;rfl|3,hu=>cases hu;rfl|_+4,hu=>simp at hu)⟩
theorem zYo:J0.info? 237=dJ Jaj:=zO U2
instance infI_237:zE1 J0 237 Jaj:=⟨zYo⟩
instance var_237:zA6 J0 237 dM 4:=⟨fun u h1 h2=>⟨_,_,H4,zO U2,by rw[h1];rfl,by rw[h2];rfl⟩⟩
instance zer_237:zKv J0 237 (T.agg [I 0,I 0,I 0,I 0]):=⟨_,_,zO U2,rfl,rfl,rfl,rfl⟩
instance fld_237_0:jR J0 237 0 0:=⟨_,_,_,H4,rfl,zO Ky,by decide,rfl⟩
theorem zOH{u:T}(h1:u.single=dL)(h2:u.size=1):∃(ds:TypeDesc)(ti:TypeInfo)(fs:Array Field)(f:Field),J0.underlying 237=dJ (.struct fs)∧fs[0]? =dJ f∧J0.underlying f.type=dJ ds∧J0.info? f.type=dJ ti∧zF8 ds= !u.single∧ti.size=u.size:=⟨_,_,_,_,H4,rfl,Lb,zO Ky,by rw[h1];rfl,by rw[h2];rfl⟩
instance fldw_237_0:zZC J0 237 0 dL 1:=⟨fun _ h1 h2=>zOH h1 h2⟩
instance bld_30:zHA J0 30 [I 0,I 0,L 1 (L 1 (L 1 I)) []]:=⟨_,_,fun ps=>uN (zO Hw) H7 rfl (places:=[(0,1),(1,1),(2,1)]) (by simp[zO Ky,zO Hy];decide) ps,rfl,rfl,(by intro i u hu;match i,hu with|0,hu=>cases hu;rfl|1,hu=>cases hu;rfl|2,hu=>cases hu;rfl|_+3,hu=>simp at hu)⟩
instance fld_30_2:jR J0 30 2 2:=⟨_,_,_,H7,rfl,zO Hy,by decide,rfl⟩
theorem yBg:J0.info? 30=dJ Jaq:=zO Hw
instance infI_30:zE1 J0 30 Jaq:=⟨yBg⟩
instance var_30:zA6 J0 30 dM 3:=⟨fun u h1 h2=>⟨_,_,H7,zO Hw,by rw[h1];rfl,by rw[h2];rfl⟩⟩
instance zer_30:zKv J0 30 (T.agg [I 0,I 0,L 1 (L 1 (L 1 I)) []]):=⟨_,_,zO Hw,rfl,rfl,rfl,rfl⟩
instance fld_30_0:jR J0 30 0 0:=⟨_,_,_,H7,rfl,zO Ky,by decide,rfl⟩
instance fld_30_1:jR J0 30 1 1:=⟨_,_,_,H7,rfl,zO Ky,by decide,rfl⟩
instance bld_275:zHA J0 275 [L 1 I [],L 1 I []]:=⟨_,_,fun ps=>uN (zO U1) Hn rfl (places:=[(0,1),(1,1)]) (by simp[zO Li];decide) ps,rfl,rfl,(by intro i u hu;match i,hu with|0,hu=>cases hu;rfl|1,hu=>cases hu;rfl|_+2,hu=>simp at hu)⟩
instance fld_234_0:jR J0 234 0 0:=⟨_,_,_,H5,rfl,zO Hx,by decide,rfl⟩
instance fld_234_2:jR J0 234 2 6:=⟨_,_,_,H5,rfl,zO L9,by decide,rfl⟩
theorem zYp:J0.info? 275=dJ Jai:=zO U1
instance infI_275:zE1 J0 275 Jai:=⟨zYp⟩
instance var_275:zA6 J0 275 dM 2:=⟨fun u h1 h2=>⟨_,_,Hn,zO U1,by rw[h1];rfl,by rw[h2];rfl⟩⟩
instance zer_275:zKv J0 275 (T.agg [L 1 I [],L 1 I []]):=⟨_,_,zO U1,rfl,rfl,rfl,rfl⟩
instance fld_234_1:jR J0 234 1 3:=⟨_,_,_,H5,rfl,zO Hw,by decide,rfl⟩
instance fld_275_0:jR J0 275 0 0:=⟨_,_,_,Hn,rfl,zO Li,by decide,rfl⟩
instance fld_275_1:jR J0 275 1 1:=⟨_,_,_,Hn,rfl,zO Li,by decide,rfl⟩
instance var_234:zA6 J0 234 dM 7:=⟨fun u h1 h2=>⟨_,_,H5,zO U3,by rw[h1];rfl,by rw[h2];rfl⟩⟩
instance bld_234:zHA J0 234 [T.agg [L 1 I [],L 1 (L 1 I) [],L 1 (L 1 (L 1 I)) []],T.agg [I 0,I 0,L 1 (L 1 (L 1 I)) []],L 1 (L 1 I) []]:=⟨_,_,fun ps=>uN (zO U3) H5 rfl (places:=[(0,3),(3,3),(6,1)]) (by simp[zO L9,zO Hx,zO Hw];decide) ps,rfl,rfl,(by intro i u hu;match i,hu with|0,hu=>cases hu;rfl|1,hu=>cases hu;rfl|2,hu=>cases hu;rfl|_+3,hu=>simp at hu)⟩
theorem zYq:J0.info? 234=dJ Jak:=zO U3
instance infI_234:zE1 J0 234 Jak:=⟨zYq⟩
instance zer_234:zKv J0 234 (T.agg [T.agg [L 1 I [],L 1 (L 1 I) [],L 1 (L 1 (L 1 I)) []],T.agg [I 0,I 0,L 1 (L 1 (L 1 I)) []],L 1 (L 1 I) []]):=⟨_,_,zO U3,rfl,rfl,rfl,rfl⟩
instance eqs_237:zWq J0 237:=⟨⟨_,_,_,_,H4,⟨by decide,rfl,Lb⟩,⟨by decide,rfl,Lb⟩,⟨by decide,rfl,Lb⟩,⟨by decide,rfl,Lb⟩⟩,Tryz.stoodInHeld237,Tryz.eqGuardType237⟩
instance bld_62:zHA J0 62 [I 0,I 0,L 1 (L 1 I) []]:=⟨_,_,fun ps=>uN (zO U8) Ly rfl (places:=[(0,1),(1,1),(2,1)]) (by simp[zO Ky,zO L9];decide) ps,rfl,rfl,(by intro i u hu;match i,hu with|0,hu=>cases hu;rfl|1,hu=>cases hu;rfl|2,hu=>cases hu;rfl|_+3,hu=>simp at hu)⟩
theorem yBh:J0.info? 62=dJ Jap:=zO U8
instance infI_62:zE1 J0 62 Jap:=⟨yBh⟩
instance var_62:zA6 J0 62 dM 3:=⟨fun u h1 h2=>⟨_,_,Ly,zO U8,by rw[h1];rfl,by rw[h2];rfl⟩⟩
instance zer_62:zKv J0 62 (T.agg [I 0,I 0,L 1 (L 1 I) []]):=⟨_,_,zO U8,rfl,rfl,rfl,rfl⟩
instance fld_62_0:jR J0 62 0 0:=⟨_,_,_,Ly,rfl,zO Ky,by decide,rfl⟩
instance fld_62_1:jR J0 62 1 1:=⟨_,_,_,Ly,rfl,zO Ky,by decide,rfl⟩
instance fld_62_2:jR J0 62 2 2:=⟨_,_,_,Ly,rfl,zO L9,by decide,rfl⟩
instance int_57:zK2 J0 57 .u64:=⟨U0⟩
instance int_288:zK2 J0 288 .u32:=⟨Q2⟩
instance und_57:zNE J0 57:=⟨_,U0⟩
instance und_288:zNE J0 288:=⟨_,Q2⟩
instance int_141:zK2 J0 141 .u64:=⟨Hz⟩
instance und_3:zNE J0 3:=⟨_,H2⟩
instance und_141:zNE J0 141:=⟨_,Hz⟩
instance bld_208:zHA J0 208 [L 1 I [],L 1 I []]:=⟨_,_,fun ps=>zL1 (zO Hk) Gv rfl (zO Li) ps,rfl,rfl,(by intro i u hu;match i,hu with|0,hu=>cases hu;rfl|1,hu=>cases hu;rfl|_+2,hu=>simp at hu)⟩
instance elt_206:ElT J0 206 208 Uh 2 (T.agg [L 1 I ((([]:dR),([]:dR)).1),L 1 I ((([]:dR),([]:dR)).2)]):=⟨Gw,zO Hk,⟨_,rfl,rfl⟩,rfl,Nat.le_of_ble_eq_true rfl,rfl,rfl,Nat.le_of_ble_eq_true rfl⟩
instance row_206:zDT J0 206 208 Uh 2:=⟨Gw,zO Hk,rfl⟩
instance arr_208:yB7 J0 208 24 Ud 2 1:=⟨Gv,zO Li,rfl⟩
theorem zGn{u:T}(h1:u.single=dL)(h2:u.size=1):∃(ds:TypeDesc)(ti:TypeInfo)(fs:Array Field)(f:Field),J0.underlying 62=dJ (.struct fs)∧fs[2]? =dJ f∧J0.underlying f.type=dJ ds∧J0.info? f.type=dJ ti∧zF8 ds= !u.single∧ti.size=u.size:=⟨_,_,_,_,Ly,rfl,H9,zO L9,by rw[h1];rfl,by rw[h2];rfl⟩
instance fldw_62_2:zZC J0 62 2 dL 1:=⟨fun _ h1 h2=>zGn h1 h2⟩
theorem zQy:J0.info? 208=dJ Uh:=zO Hk
instance infI_208:zE1 J0 208 Uh:=⟨zQy⟩
instance sli_206:zGE J0 206 208:=⟨Gw⟩
instance var_208:zA6 J0 208 dM 2:=⟨fun u h1 h2=>⟨_,_,Gv,zO Hk,by rw[h1];rfl,by rw[h2];rfl⟩⟩
instance zer_208:zKv J0 208 (T.agg [L 1 I ((([]:dR),([]:dR)).1),L 1 I ((([]:dR),([]:dR)).2)]):=⟨_,_,zO Hk,rfl,rfl,rfl,rfl⟩
instance elt_174:ElT J0 174 3 Qc 1 (I 0):=⟨Gx,zO Hf,⟨_,rfl,rfl⟩,rfl,Nat.le_of_ble_eq_true rfl,rfl,rfl,Nat.le_of_ble_eq_true rfl⟩
instance row_174:zDT J0 174 3 Qc 1:=⟨Gx,zO Hf,rfl⟩
instance sli_174:zGE J0 174 3:=⟨Gx⟩
instance boo_4:zSK J0 4:=⟨Tryz.underlying4⟩
instance bld_138:zHA J0 138 [L 1 (IK .u8) [],I 0,(IK .u64) 0]:=⟨_,_,fun ps=>uN (zO Tryz.type138) Hp rfl (places:=[(0,1),(1,1),(2,1)]) (by simp[zO Gd,zO Hf,zO Uq];decide) ps,rfl,rfl,(by intro i u hu;match i,hu with|0,hu=>cases hu;rfl|1,hu=>cases hu;rfl|2,hu=>cases hu;rfl|_+3,hu=>simp at hu)⟩
instance fld_138_2:jR J0 138 2 2:=⟨_,_,_,Hp,rfl,zO Uq,by decide,rfl⟩
instance var_57:zA6 J0 57 dL 1:=⟨fun u h1 h2=>⟨_,_,U0,zO Uq,by rw[h1];rfl,by rw[h2];rfl⟩⟩
instance fld_138_0:jR J0 138 0 0:=⟨_,_,_,Hp,rfl,zO Gd,by decide,rfl⟩
instance fld_138_1:jR J0 138 1 1:=⟨_,_,_,Hp,rfl,zO Hf,by decide,rfl⟩
instance mkz_25:MkZ J0 25 (L 1 I) ([]:dR) (L 1 I []):=⟨rfl⟩
instance fld_263_0:jR J0 263 0 0:=⟨_,_,_,Q3,rfl,zO Jac,by decide,rfl⟩
instance fld_263_1:jR J0 263 1 1:=⟨_,_,_,Q3,rfl,zO L9,by decide,rfl⟩
instance var_98:zA6 J0 98 dL 1:=⟨fun u h1 h2=>⟨_,_,Tryz.underlying98,zO Jac,by rw[h1];rfl,by rw[h2];rfl⟩⟩
end Go.Wk
