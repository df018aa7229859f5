/- x -/
import Derived.Test.YtchnmobojdcikaaGreatRAbC
import Derived.Test.YtchnmobojdcikaaGreatRWF
import Derived.Test.YtchnmobojdcikaaGreatProg
open Go.Proofs.Tryz renaming prog->J0,type2->L6,type25->Ld,underlying2->Li,underlying24->Lj,type24->Lo,underlying62->Lx,underlying237->H4,underlying234->H5,underlying30->H8,underlying28->H9,underlying25->Ha,type3->Hh,type208->Hr,underlying275->Hu,underlying202->Hv,underlying138->Hw,underlying26->G4,underlying22->G5,type30->G6,type28->G7,type26->G8,underlying3->G9,underlying141->Ga,type22->Gt,underlying286->U1,underlying263->U2,underlying208->U3,underlying206->U4,underlying174->U5,underlying57->U7,type275->U8,type237->U9,type234->Ua,underlying5->Ug,type62->Ui,type57->Uj,t24->Un,t208->Ut,type98->Q0,t25->Q2,underlying288->Qc,type9->Qd,type5->Qe,t3->Qn,t2->Qo,underlying9->Qv,t275->Jao,t237->Jap,t234->Jaq,t62->Jaw,t57->Jax,t30->Jay,t28->Jaz,t26->Jb0,t9->Jb4,t5->Jb5
open Option renaming some->iW,none->iY
open Bool renaming true->iZ,false->ja
namespace Go.Wk
open Go Go.Proofs Go.Ab
abbrev lV:=L 1 I
abbrev lM:=L 1 lV
abbrev lC:=L 1 lM
abbrev yFJ(x:yW):T:=T.agg [I x.Kind,I x.zXn,I x.zXm,I x.zPA]
abbrev jW(x:zN):T:=T.agg [I x.Prime,I x.xT,T.ro (lM x.Rows)]
abbrev wS(x:zB):T:=T.agg [I x.Prime,I x.Dim,T.ro (lC x.zF)]
abbrev qPr(x:SPr):T:=T.agg [T.ro (lV x.zA),T.ro (lM x.zJ),T.ro (lC x.zC)]
abbrev wY(x:zE):T:=T.agg [T.ro ((L 1 (IK .u8)) x.code),I x.at_,I x.seed]
abbrev xH(x:zI):T:=T.agg [T.ro (lV x.x),T.ro (lV x.v)]
abbrev xM(x:zO):T:=T.agg [T.agg [T.ro (lV x.p.zA),T.ro (lM x.p.zJ),T.ro (lC x.p.zC)],T.agg [I x.m.Prime,I x.m.Dim,T.ro (lC x.m.zF)],T.ro (lM x.zOg)]
theorem zBK:J0.follows .mixedOrders=iZ:=rfl
instance:Mix J0:=⟨zBK⟩
instance sli_22:zHz J0 22 5:=⟨G5⟩
instance bld_202:zHx J0 202 [L 1 (IK .u8) [],I 0,I 0]:=⟨_,_,fun ps=>uF (zP Tryz.type202) Hv rfl (places:=[(0,1),(1,1),(2,1)]) (by simp[zP L6,zP Gt,zP Hh];decide) ps,rfl,rfl,(by intro i u hu;match i,hu with|0,hu=>cases hu;rfl|1,hu=>cases hu;rfl|2,hu=>cases hu;rfl|_+3,hu=>simp at hu)⟩
instance fld_202_2:kD J0 202 2 2:=⟨_,_,_,Hv,rfl,zP L6,by decide,rfl⟩
theorem yAy:J0.info? 2=iW Qo:=zP L6
instance infI_2:zCy J0 2 Qo:=⟨yAy⟩
instance int_2:zLg J0 2 .i64:=⟨Li⟩
instance row_22:zCv J0 22 5 Jb5 1:=⟨G5,zP Qe,rfl⟩
instance und_5:zO1 J0 5:=⟨_,Ug⟩
instance var_2:zAS J0 2 iZ 1:=⟨fun u h1 h2=>⟨_,_,Li,zP L6,by rw[h1];rfl,by rw[h2];rfl⟩⟩
instance var_5:zAS J0 5 iZ 1:=⟨fun u h1 h2=>⟨_,_,Ug,zP Qe,by rw[h1];rfl,by rw[h2];rfl⟩⟩
instance fld_202_0:kD J0 202 0 0:=⟨_,_,_,Hv,rfl,zP Gt,by decide,rfl⟩
instance fld_202_1:kD J0 202 1 1:=⟨_,_,_,Hv,rfl,zP Hh,by decide,rfl⟩
theorem yE9:J0.info? 3=iW Qn:=zP Hh
instance infI_3:zCy J0 3 Qn:=⟨yE9⟩
instance var_3:zAS J0 3 iZ 1:=⟨fun u h1 h2=>⟨_,_,G9,zP Hh,by rw[h1];rfl,by rw[h2];rfl⟩⟩
instance var_22:zAS J0 22 iZ 1:=⟨fun u h1 h2=>⟨_,_,G5,zP Gt,by rw[h1];rfl,by rw[h2];rfl⟩⟩
instance row_24:zCv J0 24 2 Qo 1:=⟨Lj,zP L6,rfl⟩
instance sli_24:zHz J0 24 2:=⟨Lj⟩
instance elt_24:ElT J0 24 2 Qo 1 (I 0):=⟨Lj,zP L6,⟨_,rfl,rfl⟩,rfl,Nat.le_of_ble_eq_true rfl,rfl,rfl,Nat.le_of_ble_eq_true rfl⟩
instance mkz_24:MkZ J0 24 I 0 (I 0):=⟨rfl⟩
instance bld_28:zHx J0 28 [L 1 I [],L 1 (L 1 I) [],L 1 (L 1 (L 1 I)) []]:=⟨_,_,fun ps=>uF (zP G7) H9 rfl (places:=[(0,1),(1,1),(2,1)]) (by simp[zP Lo,zP Ld,zP G8];decide) ps,rfl,rfl,(by intro i u hu;match i,hu with|0,hu=>cases hu;rfl|1,hu=>cases hu;rfl|2,hu=>cases hu;rfl|_+3,hu=>simp at hu)⟩
instance elt_25:ElT J0 25 24 Un 1 (L 1 I []):=⟨Ha,zP Lo,⟨_,rfl,rfl⟩,rfl,Nat.le_of_ble_eq_true rfl,rfl,rfl,Nat.le_of_ble_eq_true rfl⟩
instance elt_26:ElT J0 26 25 Q2 1 (L 1 (L 1 I) []):=⟨G4,zP Ld,⟨_,rfl,rfl⟩,rfl,Nat.le_of_ble_eq_true rfl,rfl,rfl,Nat.le_of_ble_eq_true rfl⟩
instance fld_28_1:kD J0 28 1 1:=⟨_,_,_,H9,rfl,zP Ld,by decide,rfl⟩
instance fld_28_2:kD J0 28 2 2:=⟨_,_,_,H9,rfl,zP G8,by decide,rfl⟩
theorem yCy:J0.info? 25=iW Q2:=zP Ld
instance infI_25:zCy J0 25 Q2:=⟨yCy⟩
theorem yCz:J0.info? 26=iW Jb0:=zP G8
instance infI_26:zCy J0 26 Jb0:=⟨yCz⟩
theorem yC0:J0.info? 28=iW Jaz:=zP G7
instance infI_28:zCy J0 28 Jaz:=⟨yC0⟩
instance var_25:zAS J0 25 iZ 1:=⟨fun u h1 h2=>⟨_,_,Ha,zP Ld,by rw[h1];rfl,by rw[h2];rfl⟩⟩
instance var_26:zAS J0 26 iZ 1:=⟨fun u h1 h2=>⟨_,_,G4,zP G8,by rw[h1];rfl,by rw[h2];rfl⟩⟩
instance var_28:zAS J0 28 ja 3:=⟨fun u h1 h2=>⟨_,_,H9,zP G7,by rw[h1];rfl,by rw[h2];rfl⟩⟩
instance zer_28:zKW J0 28 (T.agg [L 1 I [],L 1 (L 1 I) [],L 1 (L 1 (L 1 I)) []]):=⟨_,_,zP G7,rfl,rfl,rfl,rfl⟩
theorem yC1:J0.info? 24=iW Un:=zP Lo
instance infI_24:zCy J0 24 Un:=⟨yC1⟩
instance row_25:zCv J0 25 24 Un 1:=⟨Ha,zP Lo,rfl⟩
instance row_26:zCv J0 26 25 Q2 1:=⟨G4,zP Ld,rfl⟩
instance sli_25:zHz J0 25 24:=⟨Ha⟩
instance var_24:zAS J0 24 iZ 1:=⟨fun u h1 h2=>⟨_,_,Lj,zP Lo,by rw[h1];rfl,by rw[h2];rfl⟩⟩
instance int_3:zLg J0 3 .i64:=⟨G9⟩
instance elt_286:ElT J0 286 9 Jb4 1 (Str ByteArray.empty):=⟨U1,zP Qd,⟨_,rfl,rfl⟩,rfl,Nat.le_of_ble_eq_true rfl,rfl,rfl,Nat.le_of_ble_eq_true rfl⟩
instance row_286:zCv J0 286 9 Jb4 1:=⟨U1,zP Qd,rfl⟩
instance str_9:zTL J0 9:=⟨Qv⟩
instance sli_286:zHz J0 286 9:=⟨U1⟩
instance var_9:zAS J0 9 iZ 1:=⟨fun u h1 h2=>⟨_,_,Qv,zP Qd,by rw[h1];rfl,by rw[h2];rfl⟩⟩
instance fld_28_0:kD J0 28 0 0:=⟨_,_,_,H9,rfl,zP Lo,by decide,rfl⟩
instance sli_26:zHz J0 26 25:=⟨G4⟩
instance elt_22:ElT J0 22 5 Jb5 1 ((IK .u8) 0):=⟨G5,zP Qe,⟨_,rfl,rfl⟩,rfl,Nat.le_of_ble_eq_true rfl,rfl,rfl,Nat.le_of_ble_eq_true rfl⟩
instance int_5:zLg J0 5 .u8:=⟨Ug⟩
instance und_2:zO1 J0 2:=⟨_,Li⟩
instance bld_237:zHx J0 237 [I 0,I 0,I 0,I 0]:=⟨_,_,fun ps=>uF (zP U9) H4 rfl (places:=[(0,1),(1,1),(2,1),(3,1)]) (by simp[zP L6];decide) ps,rfl,rfl,(by intro i u hu;match i,hu with|0,hu=>cases hu;rfl|1,hu=>cases hu;rfl|2,hu=>cases hu;rfl|3,hu=>cases hu;rfl|_+4,hu=>simp at hu)⟩
theorem zZ2:J0.info? 237=iW Jap:=zP U9
instance infI_237:zCy J0 237 Jap:=⟨zZ2⟩
instance var_237:zAS J0 237 ja 4:=⟨fun u h1 h2=>⟨_,_,H4,zP U9,by rw[h1];rfl,by rw[h2];rfl⟩⟩
instance zer_237:zKW J0 237 (T.agg [I 0,I 0,I 0,I 0]):=⟨_,_,zP U9,rfl,rfl,rfl,rfl⟩
instance fld_237_0:kD J0 237 0 0:=⟨_,_,_,H4,rfl,zP L6,by decide,rfl⟩
theorem zP9{u:T}(h1:u.single=iZ)(h2:u.size=1):∃(ds:TypeDesc)(ti:TypeInfo)(fs:Array Field)(f:Field),J0.underlying 237=iW (.struct fs)/\fs[0]? =iW f/\J0.underlying f.type=iW ds/\J0.info? f.type=iW ti/\zGf ds= !u.single/\ti.size=u.size:=⟨_,_,_,_,H4,rfl,Li,zP L6,by rw[h1];rfl,by rw[h2];rfl⟩
instance fldw_237_0:yAR J0 237 0 iZ 1:=⟨fun _ h1 h2=>zP9 h1 h2⟩
instance bld_30:zHx J0 30 [I 0,I 0,L 1 (L 1 (L 1 I)) []]:=⟨_,_,fun ps=>uF (zP G6) H8 rfl (places:=[(0,1),(1,1),(2,1)]) (by simp[zP L6,zP G8];decide) ps,rfl,rfl,(by intro i u hu;match i,hu with|0,hu=>cases hu;rfl|1,hu=>cases hu;rfl|2,hu=>cases hu;rfl|_+3,hu=>simp at hu)⟩
instance fld_30_2:kD J0 30 2 2:=⟨_,_,_,H8,rfl,zP G8,by decide,rfl⟩
theorem yC2:J0.info? 30=iW Jay:=zP G6
instance infI_30:zCy J0 30 Jay:=⟨yC2⟩
instance var_30:zAS J0 30 ja 3:=⟨fun u h1 h2=>⟨_,_,H8,zP G6,by rw[h1];rfl,by rw[h2];rfl⟩⟩
instance zer_30:zKW J0 30 (T.agg [I 0,I 0,L 1 (L 1 (L 1 I)) []]):=⟨_,_,zP G6,rfl,rfl,rfl,rfl⟩
instance fld_30_0:kD J0 30 0 0:=⟨_,_,_,H8,rfl,zP L6,by decide,rfl⟩
instance fld_30_1:kD J0 30 1 1:=⟨_,_,_,H8,rfl,zP L6,by decide,rfl⟩
instance bld_275:zHx J0 275 [L 1 I [],L 1 I []]:=⟨_,_,fun ps=>uF (zP U8) Hu rfl (places:=[(0,1),(1,1)]) (by simp[zP Lo];decide) ps,rfl,rfl,(by intro i u hu;match i,hu with|0,hu=>cases hu;rfl|1,hu=>cases hu;rfl|_+2,hu=>simp at hu)⟩
instance fld_234_0:kD J0 234 0 0:=⟨_,_,_,H5,rfl,zP G7,by decide,rfl⟩
instance fld_234_2:kD J0 234 2 6:=⟨_,_,_,H5,rfl,zP Ld,by decide,rfl⟩
theorem zZ3:J0.info? 275=iW Jao:=zP U8
instance infI_275:zCy J0 275 Jao:=⟨zZ3⟩
instance var_275:zAS J0 275 ja 2:=⟨fun u h1 h2=>⟨_,_,Hu,zP U8,by rw[h1];rfl,by rw[h2];rfl⟩⟩
instance zer_275:zKW J0 275 (T.agg [L 1 I [],L 1 I []]):=⟨_,_,zP U8,rfl,rfl,rfl,rfl⟩
instance fld_234_1:kD J0 234 1 3:=⟨_,_,_,H5,rfl,zP G6,by decide,rfl⟩
instance fld_275_0:kD J0 275 0 0:=⟨_,_,_,Hu,rfl,zP Lo,by decide,rfl⟩
instance fld_275_1:kD J0 275 1 1:=⟨_,_,_,Hu,rfl,zP Lo,by decide,rfl⟩
instance var_234:zAS J0 234 ja 7:=⟨fun u h1 h2=>⟨_,_,H5,zP Ua,by rw[h1];rfl,by rw[h2];rfl⟩⟩
instance bld_234:zHx J0 234 [T.agg [L 1 I [],L 1 (L 1 I) [],L 1 (L 1 (L 1 I)) []],T.agg [I 0,I 0,L 1 (L 1 (L 1 I)) []],L 1 (L 1 I) []]:=⟨_,_,fun ps=>uF (zP Ua) H5 rfl (places:=[(0,3),(3,3),(6,1)]) (by simp[zP Ld,zP G7,zP G6];decide) ps,rfl,rfl,(by intro i u hu;match i,hu with|0,hu=>cases hu;rfl|1,hu=>cases hu;rfl|2,hu=>cases hu;rfl|_+3,hu=>simp at hu)⟩
theorem zZ4:J0.info? 234=iW Jaq:=zP Ua
instance infI_234:zCy J0 234 Jaq:=⟨zZ4⟩
instance zer_234:zKW J0 234 (T.agg [T.agg [L 1 I [],L 1 (L 1 I) [],L 1 (L 1 (L 1 I)) []],T.agg [I 0,I 0,L 1 (L 1 (L 1 I)) []],L 1 (L 1 I) []]):=⟨_,_,zP Ua,rfl,rfl,rfl,rfl⟩
instance eqs_237:zX9 J0 237:=⟨⟨_,_,_,_,H4,⟨by decide,rfl,Li⟩,⟨by decide,rfl,Li⟩,⟨by decide,rfl,Li⟩,⟨by decide,rfl,Li⟩⟩,Tryz.stoodInHeld237,Tryz.eqGuardType237⟩
instance bld_62:zHx J0 62 [I 0,I 0,L 1 (L 1 I) []]:=⟨_,_,fun ps=>uF (zP Ui) Lx rfl (places:=[(0,1),(1,1),(2,1)]) (by simp[zP L6,zP Ld];decide) ps,rfl,rfl,(by intro i u hu;match i,hu with|0,hu=>cases hu;rfl|1,hu=>cases hu;rfl|2,hu=>cases hu;rfl|_+3,hu=>simp at hu)⟩
theorem yC3:J0.info? 62=iW Jaw:=zP Ui
instance infI_62:zCy J0 62 Jaw:=⟨yC3⟩
instance var_62:zAS J0 62 ja 3:=⟨fun u h1 h2=>⟨_,_,Lx,zP Ui,by rw[h1];rfl,by rw[h2];rfl⟩⟩
instance zer_62:zKW J0 62 (T.agg [I 0,I 0,L 1 (L 1 I) []]):=⟨_,_,zP Ui,rfl,rfl,rfl,rfl⟩
instance fld_62_0:kD J0 62 0 0:=⟨_,_,_,Lx,rfl,zP L6,by decide,rfl⟩
instance fld_62_1:kD J0 62 1 1:=⟨_,_,_,Lx,rfl,zP L6,by decide,rfl⟩
instance fld_62_2:kD J0 62 2 2:=⟨_,_,_,Lx,rfl,zP Ld,by decide,rfl⟩
instance int_57:zLg J0 57 .u64:=⟨U7⟩
instance int_288:zLg J0 288 .u32:=⟨Qc⟩
instance und_57:zO1 J0 57:=⟨_,U7⟩
instance und_288:zO1 J0 288:=⟨_,Qc⟩
instance int_141:zLg J0 141 .u64:=⟨Ga⟩
instance und_3:zO1 J0 3:=⟨_,G9⟩
instance und_141:zO1 J0 141:=⟨_,Ga⟩
instance bld_208:zHx J0 208 [L 1 I [],L 1 I []]:=⟨_,_,fun ps=>zMc (zP Hr) U3 rfl (zP Lo) ps,rfl,rfl,(by intro i u hu;match i,hu with|0,hu=>cases hu;rfl|1,hu=>cases hu;rfl|_+2,hu=>simp at hu)⟩
instance elt_206:ElT J0 206 208 Ut 2 (T.agg [L 1 I ((([]:jd),([]:jd)).1),L 1 I ((([]:jd),([]:jd)).2)]):=⟨U4,zP Hr,⟨_,rfl,rfl⟩,rfl,Nat.le_of_ble_eq_true rfl,rfl,rfl,Nat.le_of_ble_eq_true rfl⟩
instance row_206:zCv J0 206 208 Ut 2:=⟨U4,zP Hr,rfl⟩
instance arr_208:zXA J0 208 24 Un 2 1:=⟨U3,zP Lo,rfl⟩
theorem zGV{u:T}(h1:u.single=iZ)(h2:u.size=1):∃(ds:TypeDesc)(ti:TypeInfo)(fs:Array Field)(f:Field),J0.underlying 62=iW (.struct fs)/\fs[2]? =iW f/\J0.underlying f.type=iW ds/\J0.info? f.type=iW ti/\zGf ds= !u.single/\ti.size=u.size:=⟨_,_,_,_,Lx,rfl,Ha,zP Ld,by rw[h1];rfl,by rw[h2];rfl⟩
instance fldw_62_2:yAR J0 62 2 iZ 1:=⟨fun _ h1 h2=>zGV h1 h2⟩
theorem zRz:J0.info? 208=iW Ut:=zP Hr
instance infI_208:zCy J0 208 Ut:=⟨zRz⟩
instance sli_206:zHz J0 206 208:=⟨U4⟩
instance var_208:zAS J0 208 ja 2:=⟨fun u h1 h2=>⟨_,_,U3,zP Hr,by rw[h1];rfl,by rw[h2];rfl⟩⟩
instance zer_208:zKW J0 208 (T.agg [L 1 I ((([]:jd),([]:jd)).1),L 1 I ((([]:jd),([]:jd)).2)]):=⟨_,_,zP Hr,rfl,rfl,rfl,rfl⟩
instance elt_174:ElT J0 174 3 Qn 1 (I 0):=⟨U5,zP Hh,⟨_,rfl,rfl⟩,rfl,Nat.le_of_ble_eq_true rfl,rfl,rfl,Nat.le_of_ble_eq_true rfl⟩
instance row_174:zCv J0 174 3 Qn 1:=⟨U5,zP Hh,rfl⟩
instance sli_174:zHz J0 174 3:=⟨U5⟩
instance boo_4:zZX J0 4:=⟨Tryz.underlying4⟩
instance bld_138:zHx J0 138 [L 1 (IK .u8) [],I 0,(IK .u64) 0]:=⟨_,_,fun ps=>uF (zP Tryz.type138) Hw rfl (places:=[(0,1),(1,1),(2,1)]) (by simp[zP Gt,zP Hh,zP Uj];decide) ps,rfl,rfl,(by intro i u hu;match i,hu with|0,hu=>cases hu;rfl|1,hu=>cases hu;rfl|2,hu=>cases hu;rfl|_+3,hu=>simp at hu)⟩
instance fld_138_2:kD J0 138 2 2:=⟨_,_,_,Hw,rfl,zP Uj,by decide,rfl⟩
theorem yC4:J0.info? 57=iW Jax:=zP Uj
instance infI_57:zCy J0 57 Jax:=⟨yC4⟩
instance var_57:zAS J0 57 iZ 1:=⟨fun u h1 h2=>⟨_,_,U7,zP Uj,by rw[h1];rfl,by rw[h2];rfl⟩⟩
instance fld_138_0:kD J0 138 0 0:=⟨_,_,_,Hw,rfl,zP Gt,by decide,rfl⟩
instance fld_138_1:kD J0 138 1 1:=⟨_,_,_,Hw,rfl,zP Hh,by decide,rfl⟩
instance mkz_25:MkZ J0 25 (L 1 I) ([]:jd) (L 1 I []):=⟨rfl⟩
instance bld_263:zHx J0 263 [T.lit (.pointer iY),L 1 (Ro (Nz 1 I)) []]:=⟨_,_,fun ps=>uF (zP Tryz.type263) U2 rfl (places:=[(0,1),(1,1)]) (by simp[zP Ld,zP Q0];decide) ps,rfl,rfl,(by intro i u hu;match i,hu with|0,hu=>cases hu;rfl|1,hu=>cases hu;rfl|_+2,hu=>simp at hu)⟩
instance fld_263_0:kD J0 263 0 0:=⟨_,_,_,U2,rfl,zP Q0,by decide,rfl⟩
instance fld_263_1:kD J0 263 1 1:=⟨_,_,_,U2,rfl,zP Ld,by decide,rfl⟩
instance var_98:zAS J0 98 iZ 1:=⟨fun u h1 h2=>⟨_,_,Tryz.underlying98,zP Q0,by rw[h1];rfl,by rw[h2];rfl⟩⟩
end Go.Wk
