/- x -/
import Derived.Test.YtchnmobojdcikaaGreatPAbC
import Derived.Test.YtchnmobojdcikaaGreatPWF
import Derived.Test.YtchnmobojdcikaaGreatProg
open Go.Proofs.Tryz renaming prog→J0,type2→Kg,type25→Ki,underlying2→Kn,type24→Ku,underlying24→Kz,underlying62→L7,underlying237→Lj,underlying234→Ll,underlying30→Ln,underlying28→Lo,underlying25→Lp,type3→Lv,type208→Lz,underlying3→H2,underlying275→H3,underlying202→H4,underlying138→H5,underlying26→Hc,underlying22→Hd,type30→He,type28→Hf,type26→Hg,underlying141→Hh,type22→Hr,underlying286→Hx,underlying263→Hy,underlying208→Hz,underlying206→G1,underlying174→G3,underlying57→G4,type275→G5,type237→G6,type234→G7,underlying5→Gd,type62→Gg,type57→Gi,t24→Gs,t208→U0,type98→Ua,t25→Ub,underlying288→Um,type9→Un,type5→Uo,t3→Ut,t2→Uu,underlying9→Uy,t275→Qp,t237→Qq,t234→Qr,t62→Qv,t57→Qw,t30→Qx,t28→Qy,t26→Qz,t9→Ja2,t5→Ja3
open Option renaming some→aB,none→aC
open Bool renaming true→aD,false→aE
namespace Go.Wk
open Go Go.Proofs Go.Ab
abbrev lV:=L 1 I
abbrev lM:=L 1 lV
abbrev lC:=L 1 lM
abbrev zX2(x:yH):T:=T.agg [I x.Kind,I x.zQo,I x.zQp,I x.zKG]
abbrev zEW(x:yE):T:=T.agg [I x.Prime,I x.qE,T.ro (lM x.Rows)]
abbrev zDE(x:zG):T:=T.agg [I x.Prime,I x.Dim,T.ro (lC x.zE)]
abbrev qPr(x:SPr):T:=T.agg [T.ro (lV x.zA),T.ro (lM x.zF),T.ro (lC x.zB)]
abbrev uJ(x:zH):T:=T.agg [T.ro ((L 1 (IK .u8)) x.code),I x.at_,I x.seed]
abbrev zW4(x:zL):T:=T.agg [T.ro (lV x.x),T.ro (lV x.v)]
abbrev zUH(x:yC):T:=T.agg [T.agg [T.ro (lV x.p.zA),T.ro (lM x.p.zF),T.ro (lC x.p.zB)],T.agg [I x.m.Prime,I x.m.Dim,T.ro (lC x.m.zE)],T.ro (lM x.zJ4)]
theorem zDb:J0.follows .mixedOrders=aD:=rfl
instance:Mix J0:=⟨zDb⟩
instance sli_22:zED J0 22 5:=⟨Hd⟩
instance bld_202:zEB J0 202 [L 1 (IK .u8) [],I 0,I 0]:=⟨_,_,fun ps=>wS (zI Tryz.type202) H4 rfl (places:=[(0,1),(1,1),(2,1)]) (by simp[zI Kg,zI Hr,zI Lv];decide) ps,rfl,rfl,(by intro i u hu;match i,hu with|0,hu=>cases hu;rfl|1,hu=>cases hu;rfl|2,hu=>cases hu;rfl|_+3,hu=>simp at hu)⟩
instance fld_202_2:sU J0 202 2 2:=⟨_,_,_,H4,rfl,zI Kg,by decide,rfl⟩
theorem zW5:J0.info? 2=aB Uu:=zI Kg
instance infI_2:zC1 J0 2 Uu:=⟨zW5⟩
instance int_2:zH6 J0 2 .i64:=⟨Kn⟩
instance row_22:zCz J0 22 5 Ja3 1:=⟨Hd,zI Uo,rfl⟩
instance und_5:zJJ J0 5:=⟨_,Gd⟩
instance var_2:kJ J0 2 aD 1:=⟨fun u h1 h2=>⟨_,_,Kn,zI Kg,by rw[h1];rfl,by rw[h2];rfl⟩⟩
instance var_5:kJ J0 5 aD 1:=⟨fun u h1 h2=>⟨_,_,Gd,zI Uo,by rw[h1];rfl,by rw[h2];rfl⟩⟩
instance fld_202_0:sU J0 202 0 0:=⟨_,_,_,H4,rfl,zI Hr,by decide,rfl⟩
instance fld_202_1:sU J0 202 1 1:=⟨_,_,_,H4,rfl,zI Lv,by decide,rfl⟩
theorem zW6:J0.info? 3=aB Ut:=zI Lv
instance infI_3:zC1 J0 3 Ut:=⟨zW6⟩
instance var_3:kJ J0 3 aD 1:=⟨fun u h1 h2=>⟨_,_,H2,zI Lv,by rw[h1];rfl,by rw[h2];rfl⟩⟩
instance var_22:kJ J0 22 aD 1:=⟨fun u h1 h2=>⟨_,_,Hd,zI Hr,by rw[h1];rfl,by rw[h2];rfl⟩⟩
instance row_24:zCz J0 24 2 Uu 1:=⟨Kz,zI Kg,rfl⟩
instance sli_24:zED J0 24 2:=⟨Kz⟩
instance elt_24:ElT J0 24 2 Uu 1 (I 0):=⟨Kz,zI Kg,⟨_,rfl,rfl⟩,rfl,Nat.le_of_ble_eq_true rfl,rfl,rfl,Nat.le_of_ble_eq_true rfl⟩
instance mkz_24:MkZ J0 24 I 0 (I 0):=⟨rfl⟩
instance bld_28:zEB J0 28 [L 1 I [],L 1 (L 1 I) [],L 1 (L 1 (L 1 I)) []]:=⟨_,_,fun ps=>wS (zI Hf) Lo rfl (places:=[(0,1),(1,1),(2,1)]) (by simp[zI Ku,zI Ki,zI Hg];decide) ps,rfl,rfl,(by intro i u hu;match i,hu with|0,hu=>cases hu;rfl|1,hu=>cases hu;rfl|2,hu=>cases hu;rfl|_+3,hu=>simp at hu)⟩
instance elt_25:ElT J0 25 24 Gs 1 (L 1 I []):=⟨Lp,zI Ku,⟨_,rfl,rfl⟩,rfl,Nat.le_of_ble_eq_true rfl,rfl,rfl,Nat.le_of_ble_eq_true rfl⟩
instance elt_26:ElT J0 26 25 Ub 1 (L 1 (L 1 I) []):=⟨Hc,zI Ki,⟨_,rfl,rfl⟩,rfl,Nat.le_of_ble_eq_true rfl,rfl,rfl,Nat.le_of_ble_eq_true rfl⟩
instance fld_28_1:sU J0 28 1 1:=⟨_,_,_,Lo,rfl,zI Ki,by decide,rfl⟩
instance fld_28_2:sU J0 28 2 2:=⟨_,_,_,Lo,rfl,zI Hg,by decide,rfl⟩
theorem zUA:J0.info? 25=aB Ub:=zI Ki
instance infI_25:zC1 J0 25 Ub:=⟨zUA⟩
theorem zUB:J0.info? 26=aB Qz:=zI Hg
instance infI_26:zC1 J0 26 Qz:=⟨zUB⟩
theorem zUC:J0.info? 28=aB Qy:=zI Hf
instance infI_28:zC1 J0 28 Qy:=⟨zUC⟩
instance var_25:kJ J0 25 aD 1:=⟨fun u h1 h2=>⟨_,_,Lp,zI Ki,by rw[h1];rfl,by rw[h2];rfl⟩⟩
instance var_26:kJ J0 26 aD 1:=⟨fun u h1 h2=>⟨_,_,Hc,zI Hg,by rw[h1];rfl,by rw[h2];rfl⟩⟩
instance var_28:kJ J0 28 aE 3:=⟨fun u h1 h2=>⟨_,_,Lo,zI Hf,by rw[h1];rfl,by rw[h2];rfl⟩⟩
instance zer_28:zHz J0 28 (T.agg [L 1 I [],L 1 (L 1 I) [],L 1 (L 1 (L 1 I)) []]):=⟨_,_,zI Hf,rfl,rfl,rfl,rfl⟩
theorem zUD:J0.info? 24=aB Gs:=zI Ku
instance infI_24:zC1 J0 24 Gs:=⟨zUD⟩
instance row_25:zCz J0 25 24 Gs 1:=⟨Lp,zI Ku,rfl⟩
instance row_26:zCz J0 26 25 Ub 1:=⟨Hc,zI Ki,rfl⟩
instance sli_25:zED J0 25 24:=⟨Lp⟩
instance var_24:kJ J0 24 aD 1:=⟨fun u h1 h2=>⟨_,_,Kz,zI Ku,by rw[h1];rfl,by rw[h2];rfl⟩⟩
instance int_3:zH6 J0 3 .i64:=⟨H2⟩
instance elt_286:ElT J0 286 9 Ja2 1 (Str ByteArray.empty):=⟨Hx,zI Un,⟨_,rfl,rfl⟩,rfl,Nat.le_of_ble_eq_true rfl,rfl,rfl,Nat.le_of_ble_eq_true rfl⟩
instance row_286:zCz J0 286 9 Ja2 1:=⟨Hx,zI Un,rfl⟩
instance str_9:zOm J0 9:=⟨Uy⟩
instance sli_286:zED J0 286 9:=⟨Hx⟩
instance var_9:kJ J0 9 aD 1:=⟨fun u h1 h2=>⟨_,_,Uy,zI Un,by rw[h1];rfl,by rw[h2];rfl⟩⟩
instance fld_28_0:sU J0 28 0 0:=⟨_,_,_,Lo,rfl,zI Ku,by decide,rfl⟩
instance sli_26:zED J0 26 25:=⟨Hc⟩
instance elt_22:ElT J0 22 5 Ja3 1 ((IK .u8) 0):=⟨Hd,zI Uo,⟨_,rfl,rfl⟩,rfl,Nat.le_of_ble_eq_true rfl,rfl,rfl,Nat.le_of_ble_eq_true rfl⟩
instance int_5:zH6 J0 5 .u8:=⟨Gd⟩
instance und_2:zJJ J0 2:=⟨_,Kn⟩
instance bld_237:zEB J0 237 [I 0,I 0,I 0,I 0]:=⟨_,_,fun ps=>wS (zI G6) Lj rfl (places:=[(0,1),(1,1),(2,1),(3,1)]) (by simp[zI Kg];decide) ps,rfl,rfl,(by intro i u hu;match i,hu with|0,hu=>cases hu;rfl|1,hu=>cases hu;rfl|2,hu=>cases hu;rfl|3,hu=>cases hu;rfl|_+4,hu=>simp at hu)⟩
theorem zSs:J0.info? 237=aB Qq:=zI G6
instance infI_237:zC1 J0 237 Qq:=⟨zSs⟩
instance var_237:kJ J0 237 aE 4:=⟨fun u h1 h2=>⟨_,_,Lj,zI G6,by rw[h1];rfl,by rw[h2];rfl⟩⟩
instance zer_237:zHz J0 237 (T.agg [I 0,I 0,I 0,I 0]):=⟨_,_,zI G6,rfl,rfl,rfl,rfl⟩
instance fld_237_0:sU J0 237 0 0:=⟨_,_,_,Lj,rfl,zI Kg,by decide,rfl⟩
theorem zKF{u:T}(h1:u.single=aD)(h2:u.size=1):∃(ds:TypeDesc)(ti:TypeInfo)(fs:Array Field)(f:Field),J0.underlying 237=aB (.struct fs)∧fs[0]? =aB f∧J0.underlying f.type=aB ds∧J0.info? f.type=aB ti∧zDG ds= !u.single∧ti.size=u.size:=⟨_,_,_,_,Lj,rfl,Kn,zI Kg,by rw[h1];rfl,by rw[h2];rfl⟩
instance fldw_237_0:zT1 J0 237 0 aD 1:=⟨fun _ h1 h2=>zKF h1 h2⟩
instance bld_30:zEB J0 30 [I 0,I 0,L 1 (L 1 (L 1 I)) []]:=⟨_,_,fun ps=>wS (zI He) Ln rfl (places:=[(0,1),(1,1),(2,1)]) (by simp[zI Kg,zI Hg];decide) ps,rfl,rfl,(by intro i u hu;match i,hu with|0,hu=>cases hu;rfl|1,hu=>cases hu;rfl|2,hu=>cases hu;rfl|_+3,hu=>simp at hu)⟩
instance fld_30_2:sU J0 30 2 2:=⟨_,_,_,Ln,rfl,zI Hg,by decide,rfl⟩
theorem zUE:J0.info? 30=aB Qx:=zI He
instance infI_30:zC1 J0 30 Qx:=⟨zUE⟩
instance var_30:kJ J0 30 aE 3:=⟨fun u h1 h2=>⟨_,_,Ln,zI He,by rw[h1];rfl,by rw[h2];rfl⟩⟩
instance zer_30:zHz J0 30 (T.agg [I 0,I 0,L 1 (L 1 (L 1 I)) []]):=⟨_,_,zI He,rfl,rfl,rfl,rfl⟩
instance fld_30_0:sU J0 30 0 0:=⟨_,_,_,Ln,rfl,zI Kg,by decide,rfl⟩
instance fld_30_1:sU J0 30 1 1:=⟨_,_,_,Ln,rfl,zI Kg,by decide,rfl⟩
instance bld_275:zEB J0 275 [L 1 I [],L 1 I []]:=⟨_,_,fun ps=>wS (zI G5) H3 rfl (places:=[(0,1),(1,1)]) (by simp[zI Ku];decide) ps,rfl,rfl,(by intro i u hu;match i,hu with|0,hu=>cases hu;rfl|1,hu=>cases hu;rfl|_+2,hu=>simp at hu)⟩
instance fld_234_0:sU J0 234 0 0:=⟨_,_,_,Ll,rfl,zI Hf,by decide,rfl⟩
instance fld_234_2:sU J0 234 2 6:=⟨_,_,_,Ll,rfl,zI Ki,by decide,rfl⟩
theorem zSt:J0.info? 275=aB Qp:=zI G5
instance infI_275:zC1 J0 275 Qp:=⟨zSt⟩
instance var_275:kJ J0 275 aE 2:=⟨fun u h1 h2=>⟨_,_,H3,zI G5,by rw[h1];rfl,by rw[h2];rfl⟩⟩
instance zer_275:zHz J0 275 (T.agg [L 1 I [],L 1 I []]):=⟨_,_,zI G5,rfl,rfl,rfl,rfl⟩
instance fld_234_1:sU J0 234 1 3:=⟨_,_,_,Ll,rfl,zI He,by decide,rfl⟩
instance fld_275_0:sU J0 275 0 0:=⟨_,_,_,H3,rfl,zI Ku,by decide,rfl⟩
instance fld_275_1:sU J0 275 1 1:=⟨_,_,_,H3,rfl,zI Ku,by decide,rfl⟩
instance var_234:kJ J0 234 aE 7:=⟨fun u h1 h2=>⟨_,_,Ll,zI G7,by rw[h1];rfl,by rw[h2];rfl⟩⟩
instance bld_234:zEB J0 234 [T.agg [L 1 I [],L 1 (L 1 I) [],L 1 (L 1 (L 1 I)) []],T.agg [I 0,I 0,L 1 (L 1 (L 1 I)) []],L 1 (L 1 I) []]:=⟨_,_,fun ps=>wS (zI G7) Ll rfl (places:=[(0,3),(3,3),(6,1)]) (by simp[zI Ki,zI Hf,zI He];decide) ps,rfl,rfl,(by intro i u hu;match i,hu with|0,hu=>cases hu;rfl|1,hu=>cases hu;rfl|2,hu=>cases hu;rfl|_+3,hu=>simp at hu)⟩
theorem zSu:J0.info? 234=aB Qr:=zI G7
instance infI_234:zC1 J0 234 Qr:=⟨zSu⟩
instance zer_234:zHz J0 234 (T.agg [T.agg [L 1 I [],L 1 (L 1 I) [],L 1 (L 1 (L 1 I)) []],T.agg [I 0,I 0,L 1 (L 1 (L 1 I)) []],L 1 (L 1 I) []]):=⟨_,_,zI G7,rfl,rfl,rfl,rfl⟩
instance eqs_237:zQD J0 237:=⟨⟨_,_,_,_,Lj,⟨by decide,rfl,Kn⟩,⟨by decide,rfl,Kn⟩,⟨by decide,rfl,Kn⟩,⟨by decide,rfl,Kn⟩⟩,Tryz.stoodInHeld237,Tryz.eqGuardType237⟩
instance bld_62:zEB J0 62 [I 0,I 0,L 1 (L 1 I) []]:=⟨_,_,fun ps=>wS (zI Gg) L7 rfl (places:=[(0,1),(1,1),(2,1)]) (by simp[zI Kg,zI Ki];decide) ps,rfl,rfl,(by intro i u hu;match i,hu with|0,hu=>cases hu;rfl|1,hu=>cases hu;rfl|2,hu=>cases hu;rfl|_+3,hu=>simp at hu)⟩
theorem zUF:J0.info? 62=aB Qv:=zI Gg
instance infI_62:zC1 J0 62 Qv:=⟨zUF⟩
instance var_62:kJ J0 62 aE 3:=⟨fun u h1 h2=>⟨_,_,L7,zI Gg,by rw[h1];rfl,by rw[h2];rfl⟩⟩
instance zer_62:zHz J0 62 (T.agg [I 0,I 0,L 1 (L 1 I) []]):=⟨_,_,zI Gg,rfl,rfl,rfl,rfl⟩
instance fld_62_0:sU J0 62 0 0:=⟨_,_,_,L7,rfl,zI Kg,by decide,rfl⟩
instance fld_62_1:sU J0 62 1 1:=⟨_,_,_,L7,rfl,zI Kg,by decide,rfl⟩
instance fld_62_2:sU J0 62 2 2:=⟨_,_,_,L7,rfl,zI Ki,by decide,rfl⟩
instance int_57:zH6 J0 57 .u64:=⟨G4⟩
instance int_288:zH6 J0 288 .u32:=⟨Um⟩
instance und_57:zJJ J0 57:=⟨_,G4⟩
instance und_288:zJJ J0 288:=⟨_,Um⟩
instance int_141:zH6 J0 141 .u64:=⟨Hh⟩
instance und_3:zJJ J0 3:=⟨_,H2⟩
instance und_141:zJJ J0 141:=⟨_,Hh⟩
instance bld_208:zEB J0 208 [L 1 I [],L 1 I []]:=⟨_,_,fun ps=>zIh (zI Lz) Hz rfl (zI Ku) ps,rfl,rfl,(by intro i u hu;match i,hu with|0,hu=>cases hu;rfl|1,hu=>cases hu;rfl|_+2,hu=>simp at hu)⟩
instance elt_206:ElT J0 206 208 U0 2 (T.agg [L 1 I ((([]:aH),([]:aH)).1),L 1 I ((([]:aH),([]:aH)).2)]):=⟨G1,zI Lz,⟨_,rfl,rfl⟩,rfl,Nat.le_of_ble_eq_true rfl,rfl,rfl,Nat.le_of_ble_eq_true rfl⟩
instance row_206:zCz J0 206 208 U0 2:=⟨G1,zI Lz,rfl⟩
instance arr_208:zVe J0 208 24 Gs 2 1:=⟨Hz,zI Ku,rfl⟩
theorem zEo{u:T}(h1:u.single=aD)(h2:u.size=1):∃(ds:TypeDesc)(ti:TypeInfo)(fs:Array Field)(f:Field),J0.underlying 62=aB (.struct fs)∧fs[2]? =aB f∧J0.underlying f.type=aB ds∧J0.info? f.type=aB ti∧zDG ds= !u.single∧ti.size=u.size:=⟨_,_,_,_,L7,rfl,Lp,zI Ki,by rw[h1];rfl,by rw[h2];rfl⟩
instance fldw_62_2:zT1 J0 62 2 aD 1:=⟨fun _ h1 h2=>zEo h1 h2⟩
theorem zMj:J0.info? 208=aB U0:=zI Lz
instance infI_208:zC1 J0 208 U0:=⟨zMj⟩
instance sli_206:zED J0 206 208:=⟨G1⟩
instance var_208:kJ J0 208 aE 2:=⟨fun u h1 h2=>⟨_,_,Hz,zI Lz,by rw[h1];rfl,by rw[h2];rfl⟩⟩
instance zer_208:zHz J0 208 (T.agg [L 1 I ((([]:aH),([]:aH)).1),L 1 I ((([]:aH),([]:aH)).2)]):=⟨_,_,zI Lz,rfl,rfl,rfl,rfl⟩
instance elt_174:ElT J0 174 3 Ut 1 (I 0):=⟨G3,zI Lv,⟨_,rfl,rfl⟩,rfl,Nat.le_of_ble_eq_true rfl,rfl,rfl,Nat.le_of_ble_eq_true rfl⟩
instance row_174:zCz J0 174 3 Ut 1:=⟨G3,zI Lv,rfl⟩
instance sli_174:zED J0 174 3:=⟨G3⟩
instance bld_138:zEB J0 138 [L 1 (IK .u8) [],I 0,(IK .u64) 0]:=⟨_,_,fun ps=>wS (zI Tryz.type138) H5 rfl (places:=[(0,1),(1,1),(2,1)]) (by simp[zI Hr,zI Lv,zI Gi];decide) ps,rfl,rfl,(by intro i u hu;match i,hu with|0,hu=>cases hu;rfl|1,hu=>cases hu;rfl|2,hu=>cases hu;rfl|_+3,hu=>simp at hu)⟩
instance fld_138_2:sU J0 138 2 2:=⟨_,_,_,H5,rfl,zI Gi,by decide,rfl⟩
theorem zUG:J0.info? 57=aB Qw:=zI Gi
instance infI_57:zC1 J0 57 Qw:=⟨zUG⟩
instance var_57:kJ J0 57 aD 1:=⟨fun u h1 h2=>⟨_,_,G4,zI Gi,by rw[h1];rfl,by rw[h2];rfl⟩⟩
instance fld_138_0:sU J0 138 0 0:=⟨_,_,_,H5,rfl,zI Hr,by decide,rfl⟩
instance fld_138_1:sU J0 138 1 1:=⟨_,_,_,H5,rfl,zI Lv,by decide,rfl⟩
instance mkz_25:MkZ J0 25 (L 1 I) ([]:aH) (L 1 I []):=⟨rfl⟩
instance bld_263:zEB J0 263 [T.lit (.pointer aC),L 1 (Ro (Nz 1 I)) []]:=⟨_,_,fun ps=>wS (zI Tryz.type263) Hy rfl (places:=[(0,1),(1,1)]) (by simp[zI Ki,zI Ua];decide) ps,rfl,rfl,(by intro i u hu;match i,hu with|0,hu=>cases hu;rfl|1,hu=>cases hu;rfl|_+2,hu=>simp at hu)⟩
instance fld_263_0:sU J0 263 0 0:=⟨_,_,_,Hy,rfl,zI Ua,by decide,rfl⟩
instance fld_263_1:sU J0 263 1 1:=⟨_,_,_,Hy,rfl,zI Ki,by decide,rfl⟩
instance var_98:kJ J0 98 aD 1:=⟨fun u h1 h2=>⟨_,_,Tryz.underlying98,zI Ua,by rw[h1];rfl,by rw[h2];rfl⟩⟩
end Go.Wk
