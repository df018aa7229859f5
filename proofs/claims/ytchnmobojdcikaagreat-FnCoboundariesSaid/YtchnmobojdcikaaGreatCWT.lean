/- x -/
import Derived.Test.YtchnmobojdcikaaGreatCAbC
import Derived.Test.YtchnmobojdcikaaGreatCWF
import Derived.Test.YtchnmobojdcikaaGreatProg
open Go.Proofs.Tryz renaming prog→J0,type2→Ks,type25→Kx,underlying2→L8,type24→La,underlying24→Li,underlying62→Lm,underlying237→Ls,underlying234→Lt,underlying30→Ly,underlying28→Lz,underlying25→H0,type3→H5,type208→Hd,underlying275→Hg,underlying202→Hh,underlying138→Hi,underlying26→Ho,underlying22→Hp,type30→Hq,type28→Hr,type26→Hs,underlying3→Ht,underlying141→Hu,type22→G9,underlying286→Gg,underlying263→Gi,underlying208→Gj,underlying206→Gk,underlying174→Gl,underlying57→Gm,type275→Gp,type237→Gs,type234→Gt,underlying5→Gz,type62→U3,type57→U4,t24→U9,t208→Uf,type98→Uo,t25→Up,underlying288→Q0,type9→Q2,type5→Q3,t3→Qb,t2→Qc,underlying9→Qj,t275→Ja9,t237→Jaa,t234→Jab,t62→Jag,t57→Jah,t30→Jai,t28→Jaj,t26→Jak,t9→Jaq,t5→Jar
open Option renaming some→iz,none→iA
open Bool renaming true→iB,false→iC
namespace Go.Wk
open Go Go.Proofs Go.Ab
abbrev lV:=L 1 I
abbrev lM:=L 1 lV
abbrev lC:=L 1 lM
abbrev yDk(x:yR):T:=T.agg [I x.Kind,I x.zVd,I x.zVc,I x.zOv]
abbrev qO(x:zT):T:=T.agg [I x.Prime,I x.wA,T.ro (lM x.Rows)]
abbrev vC(x:zC):T:=T.agg [I x.Prime,I x.Dim,T.ro (lC x.zE)]
abbrev qPr(x:SPr):T:=T.agg [T.ro (lV x.zA),T.ro (lM x.zJ),T.ro (lC x.zB)]
abbrev vU(x:zF):T:=T.agg [T.ro ((L 1 (IK .u8)) x.code),I x.at_,I x.seed]
abbrev xC(x:zH):T:=T.agg [T.ro (lV x.x),T.ro (lV x.v)]
abbrev xG(x:zN):T:=T.agg [T.agg [T.ro (lV x.p.zA),T.ro (lM x.p.zJ),T.ro (lC x.p.zB)],T.agg [I x.m.Prime,I x.m.Dim,T.ro (lC x.m.zE)],T.ro (lM x.zML)]
theorem zBx:J0.follows .mixedOrders=iB:=rfl
instance:Mix J0:=⟨zBx⟩
instance sli_22:zG9 J0 22 5:=⟨Hp⟩
instance bld_202:zG7 J0 202 [L 1 (IK .u8) [],I 0,I 0]:=⟨_,_,fun ps=>vX (zM Tryz.type202) Hh rfl (places:=[(0,1),(1,1),(2,1)]) (by simp[zM Ks,zM G9,zM H5];decide) ps,rfl,rfl,(by intro i u hu;match i,hu with|0,hu=>cases hu;rfl|1,hu=>cases hu;rfl|2,hu=>cases hu;rfl|_+3,hu=>simp at hu)⟩
instance fld_202_2:qR J0 202 2 2:=⟨_,_,_,Hh,rfl,zM Ks,by decide,rfl⟩
theorem zYr:J0.info? 2=iz Qc:=zM Ks
instance infI_2:zCc J0 2 Qc:=⟨zYr⟩
instance int_2:zKn J0 2 .i64:=⟨L8⟩
instance row_22:zBZ J0 22 5 Jar 1:=⟨Hp,zM Q3,rfl⟩
instance und_5:zNf J0 5:=⟨_,Gz⟩
instance var_2:zA2 J0 2 iB 1:=⟨fun u h1 h2=>⟨_,_,L8,zM Ks,by rw[h1];rfl,by rw[h2];rfl⟩⟩
instance var_5:zA2 J0 5 iB 1:=⟨fun u h1 h2=>⟨_,_,Gz,zM Q3,by rw[h1];rfl,by rw[h2];rfl⟩⟩
instance fld_202_0:qR J0 202 0 0:=⟨_,_,_,Hh,rfl,zM G9,by decide,rfl⟩
instance fld_202_1:qR J0 202 1 1:=⟨_,_,_,Hh,rfl,zM H5,by decide,rfl⟩
theorem yCi:J0.info? 3=iz Qb:=zM H5
instance infI_3:zCc J0 3 Qb:=⟨yCi⟩
instance var_3:zA2 J0 3 iB 1:=⟨fun u h1 h2=>⟨_,_,Ht,zM H5,by rw[h1];rfl,by rw[h2];rfl⟩⟩
instance var_22:zA2 J0 22 iB 1:=⟨fun u h1 h2=>⟨_,_,Hp,zM G9,by rw[h1];rfl,by rw[h2];rfl⟩⟩
instance row_24:zBZ J0 24 2 Qc 1:=⟨Li,zM Ks,rfl⟩
instance sli_24:zG9 J0 24 2:=⟨Li⟩
instance elt_24:ElT J0 24 2 Qc 1 (I 0):=⟨Li,zM Ks,⟨_,rfl,rfl⟩,rfl,Nat.le_of_ble_eq_true rfl,rfl,rfl,Nat.le_of_ble_eq_true rfl⟩
instance mkz_24:MkZ J0 24 I 0 (I 0):=⟨rfl⟩
instance bld_28:zG7 J0 28 [L 1 I [],L 1 (L 1 I) [],L 1 (L 1 (L 1 I)) []]:=⟨_,_,fun ps=>vX (zM Hr) Lz rfl (places:=[(0,1),(1,1),(2,1)]) (by simp[zM La,zM Kx,zM Hs];decide) ps,rfl,rfl,(by intro i u hu;match i,hu with|0,hu=>cases hu;rfl|1,hu=>cases hu;rfl|2,hu=>cases hu;rfl|_+3,hu=>simp at hu)⟩
instance elt_25:ElT J0 25 24 U9 1 (L 1 I []):=⟨H0,zM La,⟨_,rfl,rfl⟩,rfl,Nat.le_of_ble_eq_true rfl,rfl,rfl,Nat.le_of_ble_eq_true rfl⟩
instance elt_26:ElT J0 26 25 Up 1 (L 1 (L 1 I) []):=⟨Ho,zM Kx,⟨_,rfl,rfl⟩,rfl,Nat.le_of_ble_eq_true rfl,rfl,rfl,Nat.le_of_ble_eq_true rfl⟩
instance fld_28_1:qR J0 28 1 1:=⟨_,_,_,Lz,rfl,zM Kx,by decide,rfl⟩
instance fld_28_2:qR J0 28 2 2:=⟨_,_,_,Lz,rfl,zM Hs,by decide,rfl⟩
theorem yAj:J0.info? 25=iz Up:=zM Kx
instance infI_25:zCc J0 25 Up:=⟨yAj⟩
theorem yAk:J0.info? 26=iz Jak:=zM Hs
instance infI_26:zCc J0 26 Jak:=⟨yAk⟩
theorem yAl:J0.info? 28=iz Jaj:=zM Hr
instance infI_28:zCc J0 28 Jaj:=⟨yAl⟩
instance var_25:zA2 J0 25 iB 1:=⟨fun u h1 h2=>⟨_,_,H0,zM Kx,by rw[h1];rfl,by rw[h2];rfl⟩⟩
instance var_26:zA2 J0 26 iB 1:=⟨fun u h1 h2=>⟨_,_,Ho,zM Hs,by rw[h1];rfl,by rw[h2];rfl⟩⟩
instance var_28:zA2 J0 28 iC 3:=⟨fun u h1 h2=>⟨_,_,Lz,zM Hr,by rw[h1];rfl,by rw[h2];rfl⟩⟩
instance zer_28:zKd J0 28 (T.agg [L 1 I [],L 1 (L 1 I) [],L 1 (L 1 (L 1 I)) []]):=⟨_,_,zM Hr,rfl,rfl,rfl,rfl⟩
theorem yAm:J0.info? 24=iz U9:=zM La
instance infI_24:zCc J0 24 U9:=⟨yAm⟩
instance row_25:zBZ J0 25 24 U9 1:=⟨H0,zM La,rfl⟩
instance row_26:zBZ J0 26 25 Up 1:=⟨Ho,zM Kx,rfl⟩
instance sli_25:zG9 J0 25 24:=⟨H0⟩
instance var_24:zA2 J0 24 iB 1:=⟨fun u h1 h2=>⟨_,_,Li,zM La,by rw[h1];rfl,by rw[h2];rfl⟩⟩
instance int_3:zKn J0 3 .i64:=⟨Ht⟩
instance elt_286:ElT J0 286 9 Jaq 1 (Str ByteArray.empty):=⟨Gg,zM Q2,⟨_,rfl,rfl⟩,rfl,Nat.le_of_ble_eq_true rfl,rfl,rfl,Nat.le_of_ble_eq_true rfl⟩
instance row_286:zBZ J0 286 9 Jaq 1:=⟨Gg,zM Q2,rfl⟩
instance str_9:zSg J0 9:=⟨Qj⟩
instance sli_286:zG9 J0 286 9:=⟨Gg⟩
instance var_9:zA2 J0 9 iB 1:=⟨fun u h1 h2=>⟨_,_,Qj,zM Q2,by rw[h1];rfl,by rw[h2];rfl⟩⟩
instance fld_28_0:qR J0 28 0 0:=⟨_,_,_,Lz,rfl,zM La,by decide,rfl⟩
instance sli_26:zG9 J0 26 25:=⟨Ho⟩
instance elt_22:ElT J0 22 5 Jar 1 ((IK .u8) 0):=⟨Hp,zM Q3,⟨_,rfl,rfl⟩,rfl,Nat.le_of_ble_eq_true rfl,rfl,rfl,Nat.le_of_ble_eq_true rfl⟩
instance int_5:zKn J0 5 .u8:=⟨Gz⟩
instance und_2:zNf J0 2:=⟨_,L8⟩
instance bld_237:zG7 J0 237 [I 0,I 0,I 0,I 0]:=⟨_,_,fun ps=>vX (zM Gs) Ls rfl (places:=[(0,1),(1,1),(2,1),(3,1)]) (by simp[zM Ks];decide) ps,rfl,rfl,(by intro i u hu;match i,hu with|0,hu=>cases hu;rfl|1,hu=>cases hu;rfl|2,hu=>cases hu;rfl|3,hu=>cases hu;rfl|_+4,hu=>simp at hu)⟩
theorem zX0:J0.info? 237=iz Jaa:=zM Gs
instance infI_237:zCc J0 237 Jaa:=⟨zX0⟩
instance var_237:zA2 J0 237 iC 4:=⟨fun u h1 h2=>⟨_,_,Ls,zM Gs,by rw[h1];rfl,by rw[h2];rfl⟩⟩
instance zer_237:zKd J0 237 (T.agg [I 0,I 0,I 0,I 0]):=⟨_,_,zM Gs,rfl,rfl,rfl,rfl⟩
instance fld_237_0:qR J0 237 0 0:=⟨_,_,_,Ls,rfl,zM Ks,by decide,rfl⟩
theorem zOu{u:T}(h1:u.single=iB)(h2:u.size=1):∃(ds:TypeDesc)(ti:TypeInfo)(fs:Array Field)(f:Field),J0.underlying 237=iz (.struct fs)∧fs[0]? =iz f∧J0.underlying f.type=iz ds∧J0.info? f.type=iz ti∧zF0 ds= !u.single∧ti.size=u.size:=⟨_,_,_,_,Ls,rfl,L8,zM Ks,by rw[h1];rfl,by rw[h2];rfl⟩
instance fldw_237_0:zYK J0 237 0 iB 1:=⟨fun _ h1 h2=>zOu h1 h2⟩
instance bld_30:zG7 J0 30 [I 0,I 0,L 1 (L 1 (L 1 I)) []]:=⟨_,_,fun ps=>vX (zM Hq) Ly rfl (places:=[(0,1),(1,1),(2,1)]) (by simp[zM Ks,zM Hs];decide) ps,rfl,rfl,(by intro i u hu;match i,hu with|0,hu=>cases hu;rfl|1,hu=>cases hu;rfl|2,hu=>cases hu;rfl|_+3,hu=>simp at hu)⟩
instance fld_30_2:qR J0 30 2 2:=⟨_,_,_,Ly,rfl,zM Hs,by decide,rfl⟩
theorem yAn:J0.info? 30=iz Jai:=zM Hq
instance infI_30:zCc J0 30 Jai:=⟨yAn⟩
instance var_30:zA2 J0 30 iC 3:=⟨fun u h1 h2=>⟨_,_,Ly,zM Hq,by rw[h1];rfl,by rw[h2];rfl⟩⟩
instance zer_30:zKd J0 30 (T.agg [I 0,I 0,L 1 (L 1 (L 1 I)) []]):=⟨_,_,zM Hq,rfl,rfl,rfl,rfl⟩
instance fld_30_0:qR J0 30 0 0:=⟨_,_,_,Ly,rfl,zM Ks,by decide,rfl⟩
instance fld_30_1:qR J0 30 1 1:=⟨_,_,_,Ly,rfl,zM Ks,by decide,rfl⟩
instance bld_275:zG7 J0 275 [L 1 I [],L 1 I []]:=⟨_,_,fun ps=>vX (zM Gp) Hg rfl (places:=[(0,1),(1,1)]) (by simp[zM La];decide) ps,rfl,rfl,(by intro i u hu;match i,hu with|0,hu=>cases hu;rfl|1,hu=>cases hu;rfl|_+2,hu=>simp at hu)⟩
instance fld_234_0:qR J0 234 0 0:=⟨_,_,_,Lt,rfl,zM Hr,by decide,rfl⟩
instance fld_234_2:qR J0 234 2 6:=⟨_,_,_,Lt,rfl,zM Kx,by decide,rfl⟩
theorem zX1:J0.info? 275=iz Ja9:=zM Gp
instance infI_275:zCc J0 275 Ja9:=⟨zX1⟩
instance var_275:zA2 J0 275 iC 2:=⟨fun u h1 h2=>⟨_,_,Hg,zM Gp,by rw[h1];rfl,by rw[h2];rfl⟩⟩
instance zer_275:zKd J0 275 (T.agg [L 1 I [],L 1 I []]):=⟨_,_,zM Gp,rfl,rfl,rfl,rfl⟩
instance fld_234_1:qR J0 234 1 3:=⟨_,_,_,Lt,rfl,zM Hq,by decide,rfl⟩
instance fld_275_0:qR J0 275 0 0:=⟨_,_,_,Hg,rfl,zM La,by decide,rfl⟩
instance fld_275_1:qR J0 275 1 1:=⟨_,_,_,Hg,rfl,zM La,by decide,rfl⟩
instance var_234:zA2 J0 234 iC 7:=⟨fun u h1 h2=>⟨_,_,Lt,zM Gt,by rw[h1];rfl,by rw[h2];rfl⟩⟩
instance bld_234:zG7 J0 234 [T.agg [L 1 I [],L 1 (L 1 I) [],L 1 (L 1 (L 1 I)) []],T.agg [I 0,I 0,L 1 (L 1 (L 1 I)) []],L 1 (L 1 I) []]:=⟨_,_,fun ps=>vX (zM Gt) Lt rfl (places:=[(0,3),(3,3),(6,1)]) (by simp[zM Kx,zM Hr,zM Hq];decide) ps,rfl,rfl,(by intro i u hu;match i,hu with|0,hu=>cases hu;rfl|1,hu=>cases hu;rfl|2,hu=>cases hu;rfl|_+3,hu=>simp at hu)⟩
theorem zX2:J0.info? 234=iz Jab:=zM Gt
instance infI_234:zCc J0 234 Jab:=⟨zX2⟩
instance zer_234:zKd J0 234 (T.agg [T.agg [L 1 I [],L 1 (L 1 I) [],L 1 (L 1 (L 1 I)) []],T.agg [I 0,I 0,L 1 (L 1 (L 1 I)) []],L 1 (L 1 I) []]):=⟨_,_,zM Gt,rfl,rfl,rfl,rfl⟩
instance eqs_237:zVz J0 237:=⟨⟨_,_,_,_,Ls,⟨by decide,rfl,L8⟩,⟨by decide,rfl,L8⟩,⟨by decide,rfl,L8⟩,⟨by decide,rfl,L8⟩⟩,Tryz.stoodInHeld237,Tryz.eqGuardType237⟩
instance bld_62:zG7 J0 62 [I 0,I 0,L 1 (L 1 I) []]:=⟨_,_,fun ps=>vX (zM U3) Lm rfl (places:=[(0,1),(1,1),(2,1)]) (by simp[zM Ks,zM Kx];decide) ps,rfl,rfl,(by intro i u hu;match i,hu with|0,hu=>cases hu;rfl|1,hu=>cases hu;rfl|2,hu=>cases hu;rfl|_+3,hu=>simp at hu)⟩
theorem yAo:J0.info? 62=iz Jag:=zM U3
instance infI_62:zCc J0 62 Jag:=⟨yAo⟩
instance var_62:zA2 J0 62 iC 3:=⟨fun u h1 h2=>⟨_,_,Lm,zM U3,by rw[h1];rfl,by rw[h2];rfl⟩⟩
instance zer_62:zKd J0 62 (T.agg [I 0,I 0,L 1 (L 1 I) []]):=⟨_,_,zM U3,rfl,rfl,rfl,rfl⟩
instance fld_62_0:qR J0 62 0 0:=⟨_,_,_,Lm,rfl,zM Ks,by decide,rfl⟩
instance fld_62_1:qR J0 62 1 1:=⟨_,_,_,Lm,rfl,zM Ks,by decide,rfl⟩
instance fld_62_2:qR J0 62 2 2:=⟨_,_,_,Lm,rfl,zM Kx,by decide,rfl⟩
instance int_57:zKn J0 57 .u64:=⟨Gm⟩
instance int_288:zKn J0 288 .u32:=⟨Q0⟩
instance und_57:zNf J0 57:=⟨_,Gm⟩
instance und_288:zNf J0 288:=⟨_,Q0⟩
instance int_141:zKn J0 141 .u64:=⟨Hu⟩
instance und_3:zNf J0 3:=⟨_,Ht⟩
instance und_141:zNf J0 141:=⟨_,Hu⟩
instance bld_208:zG7 J0 208 [L 1 I [],L 1 I []]:=⟨_,_,fun ps=>zKP (zM Hd) Gj rfl (zM La) ps,rfl,rfl,(by intro i u hu;match i,hu with|0,hu=>cases hu;rfl|1,hu=>cases hu;rfl|_+2,hu=>simp at hu)⟩
instance elt_206:ElT J0 206 208 Uf 2 (T.agg [L 1 I ((([]:iF),([]:iF)).1),L 1 I ((([]:iF),([]:iF)).2)]):=⟨Gk,zM Hd,⟨_,rfl,rfl⟩,rfl,Nat.le_of_ble_eq_true rfl,rfl,rfl,Nat.le_of_ble_eq_true rfl⟩
instance row_206:zBZ J0 206 208 Uf 2:=⟨Gk,zM Hd,rfl⟩
instance arr_208:zV0 J0 208 24 U9 2 1:=⟨Gj,zM La,rfl⟩
theorem zGf{u:T}(h1:u.single=iB)(h2:u.size=1):∃(ds:TypeDesc)(ti:TypeInfo)(fs:Array Field)(f:Field),J0.underlying 62=iz (.struct fs)∧fs[2]? =iz f∧J0.underlying f.type=iz ds∧J0.info? f.type=iz ti∧zF0 ds= !u.single∧ti.size=u.size:=⟨_,_,_,_,Lm,rfl,H0,zM Kx,by rw[h1];rfl,by rw[h2];rfl⟩
instance fldw_62_2:zYK J0 62 2 iB 1:=⟨fun _ h1 h2=>zGf h1 h2⟩
theorem zPQ:J0.info? 208=iz Uf:=zM Hd
instance infI_208:zCc J0 208 Uf:=⟨zPQ⟩
instance sli_206:zG9 J0 206 208:=⟨Gk⟩
instance var_208:zA2 J0 208 iC 2:=⟨fun u h1 h2=>⟨_,_,Gj,zM Hd,by rw[h1];rfl,by rw[h2];rfl⟩⟩
instance zer_208:zKd J0 208 (T.agg [L 1 I ((([]:iF),([]:iF)).1),L 1 I ((([]:iF),([]:iF)).2)]):=⟨_,_,zM Hd,rfl,rfl,rfl,rfl⟩
instance elt_174:ElT J0 174 3 Qb 1 (I 0):=⟨Gl,zM H5,⟨_,rfl,rfl⟩,rfl,Nat.le_of_ble_eq_true rfl,rfl,rfl,Nat.le_of_ble_eq_true rfl⟩
instance row_174:zBZ J0 174 3 Qb 1:=⟨Gl,zM H5,rfl⟩
instance sli_174:zG9 J0 174 3:=⟨Gl⟩
instance boo_4:zXV J0 4:=⟨Tryz.underlying4⟩
instance bld_138:zG7 J0 138 [L 1 (IK .u8) [],I 0,(IK .u64) 0]:=⟨_,_,fun ps=>vX (zM Tryz.type138) Hi rfl (places:=[(0,1),(1,1),(2,1)]) (by simp[zM G9,zM H5,zM U4];decide) ps,rfl,rfl,(by intro i u hu;match i,hu with|0,hu=>cases hu;rfl|1,hu=>cases hu;rfl|2,hu=>cases hu;rfl|_+3,hu=>simp at hu)⟩
instance fld_138_2:qR J0 138 2 2:=⟨_,_,_,Hi,rfl,zM U4,by decide,rfl⟩
theorem yAp:J0.info? 57=iz Jah:=zM U4
instance infI_57:zCc J0 57 Jah:=⟨yAp⟩
instance var_57:zA2 J0 57 iB 1:=⟨fun u h1 h2=>⟨_,_,Gm,zM U4,by rw[h1];rfl,by rw[h2];rfl⟩⟩
instance fld_138_0:qR J0 138 0 0:=⟨_,_,_,Hi,rfl,zM G9,by decide,rfl⟩
instance fld_138_1:qR J0 138 1 1:=⟨_,_,_,Hi,rfl,zM H5,by decide,rfl⟩
instance mkz_25:MkZ J0 25 (L 1 I) ([]:iF) (L 1 I []):=⟨rfl⟩
instance bld_263:zG7 J0 263 [T.lit (.pointer iA),L 1 (Ro (Nz 1 I)) []]:=⟨_,_,fun ps=>vX (zM Tryz.type263) Gi rfl (places:=[(0,1),(1,1)]) (by simp[zM Kx,zM Uo];decide) ps,rfl,rfl,(by intro i u hu;match i,hu with|0,hu=>cases hu;rfl|1,hu=>cases hu;rfl|_+2,hu=>simp at hu)⟩
instance fld_263_0:qR J0 263 0 0:=⟨_,_,_,Gi,rfl,zM Uo,by decide,rfl⟩
instance fld_263_1:qR J0 263 1 1:=⟨_,_,_,Gi,rfl,zM Kx,by decide,rfl⟩
instance var_98:zA2 J0 98 iB 1:=⟨fun u h1 h2=>⟨_,_,Tryz.underlying98,zM Uo,by rw[h1];rfl,by rw[h2];rfl⟩⟩
end Go.Wk
