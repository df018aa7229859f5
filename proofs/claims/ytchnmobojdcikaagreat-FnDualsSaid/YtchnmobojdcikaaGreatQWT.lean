/- x -/
import Derived.Test.YtchnmobojdcikaaGreatQAbC
import Derived.Test.YtchnmobojdcikaaGreatQWF
import Derived.Test.YtchnmobojdcikaaGreatProg
open Go.Proofs.Tryz renaming prog→J0,type2→Kn,type25→Kr,underlying2→Kv,type24→L0,underlying62→L9,underlying237→Lm,underlying234→Ln,underlying30→Lq,underlying28→Lr,underlying25→Ls,type3→Ly,underlying3→H1,type208→H4,underlying275→H9,underlying202→Ha,underlying138→Hb,underlying26→He,underlying22→Hf,type30→Hg,type28→Hh,type26→Hi,underlying141→Hj,underlying24→Ho,type22→Hs,underlying286→Hy,underlying263→Hz,underlying208→G1,underlying206→G3,underlying174→G4,underlying57→Ga,type275→Gb,type237→Gd,type234→Ge,underlying5→Gl,type62→Gp,type57→Gs,t24→Gw,t208→U7,type98→Uf,t25→Ug,underlying288→Uu,type9→Uv,type5→Uw,t3→Q0,t2→Q2,underlying9→Q8,t275→Ja2,t237→Ja3,t234→Ja4,t62→Ja9,t57→Jaa,t30→Jab,t28→Jac,t26→Jad,t9→Jai,t5→Jaj
open Option renaming some→dq,none→dt
open Bool renaming true→du,false→dv
namespace Go.Wk
open Go Go.Proofs Go.Ab
abbrev lV:=L 1 I
abbrev lM:=L 1 lV
abbrev lC:=L 1 lM
abbrev yAb(x:yS):T:=T.agg [I x.Kind,I x.zS9,I x.zS8,I x.zM0]
abbrev wZ(x:zF):T:=T.agg [I x.Prime,I x.yW,T.ro (lM x.Rows)]
abbrev xQ(x:zC):T:=T.agg [I x.Prime,I x.Dim,T.ro (lC x.zB)]
abbrev qPr(x:SPr):T:=T.agg [T.ro (lV x.zA),T.ro (lM x.zN),T.ro (lC x.zD)]
abbrev vB(x:zE):T:=T.agg [T.ro ((L 1 (IK .u8)) x.code),I x.at_,I x.seed]
theorem zD4:J0.follows .mixedOrders=du:=rfl
instance:Mix J0:=⟨zD4⟩
instance sli_22:zFn J0 22 5:=⟨Hf⟩
instance bld_202:zFl J0 202 [L 1 (IK .u8) [],I 0,I 0]:=⟨_,_,fun ps=>vE (zL Tryz.type202) Ha rfl (places:=[(0,1),(1,1),(2,1)]) (by simp[zL Kn,zL Hs,zL Ly];decide) ps,rfl,rfl,(by intro i u hu;match i,hu with|0,hu=>cases hu;rfl|1,hu=>cases hu;rfl|2,hu=>cases hu;rfl|_+3,hu=>simp at hu)⟩
instance fld_202_2:qG J0 202 2 2:=⟨_,_,_,Ha,rfl,zL Kn,by decide,rfl⟩
theorem zYZ:J0.info? 2=dq Q2:=zL Kn
instance infI_2:zBa J0 2 Q2:=⟨zYZ⟩
instance int_2:zIK J0 2 .i64:=⟨Kv⟩
instance row_22:zBs J0 22 5 Jaj 1:=⟨Hf,zL Uw,rfl⟩
instance und_5:zL6 J0 5:=⟨_,Gl⟩
instance var_2:zAc J0 2 du 1:=⟨fun u h1 h2=>⟨_,_,Kv,zL Kn,by rw[h1];rfl,by rw[h2];rfl⟩⟩
instance var_5:zAc J0 5 du 1:=⟨fun u h1 h2=>⟨_,_,Gl,zL Uw,by rw[h1];rfl,by rw[h2];rfl⟩⟩
instance fld_202_0:qG J0 202 0 0:=⟨_,_,_,Ha,rfl,zL Hs,by decide,rfl⟩
instance fld_202_1:qG J0 202 1 1:=⟨_,_,_,Ha,rfl,zL Ly,by decide,rfl⟩
theorem zZa:J0.info? 3=dq Q0:=zL Ly
instance infI_3:zBa J0 3 Q0:=⟨zZa⟩
instance var_3:zAc J0 3 du 1:=⟨fun u h1 h2=>⟨_,_,H1,zL Ly,by rw[h1];rfl,by rw[h2];rfl⟩⟩
instance var_22:zAc J0 22 du 1:=⟨fun u h1 h2=>⟨_,_,Hf,zL Hs,by rw[h1];rfl,by rw[h2];rfl⟩⟩
instance row_24:zBs J0 24 2 Q2 1:=⟨Ho,zL Kn,rfl⟩
instance sli_24:zFn J0 24 2:=⟨Ho⟩
instance elt_24:ElT J0 24 2 Q2 1 (I 0):=⟨Ho,zL Kn,⟨_,rfl,rfl⟩,rfl,Nat.le_of_ble_eq_true rfl,rfl,rfl,Nat.le_of_ble_eq_true rfl⟩
instance mkz_24:MkZ J0 24 I 0 (I 0):=⟨rfl⟩
instance bld_28:zFl J0 28 [L 1 I [],L 1 (L 1 I) [],L 1 (L 1 (L 1 I)) []]:=⟨_,_,fun ps=>vE (zL Hh) Lr rfl (places:=[(0,1),(1,1),(2,1)]) (by simp[zL L0,zL Kr,zL Hi];decide) ps,rfl,rfl,(by intro i u hu;match i,hu with|0,hu=>cases hu;rfl|1,hu=>cases hu;rfl|2,hu=>cases hu;rfl|_+3,hu=>simp at hu)⟩
instance elt_25:ElT J0 25 24 Gw 1 (L 1 I []):=⟨Ls,zL L0,⟨_,rfl,rfl⟩,rfl,Nat.le_of_ble_eq_true rfl,rfl,rfl,Nat.le_of_ble_eq_true rfl⟩
instance elt_26:ElT J0 26 25 Ug 1 (L 1 (L 1 I) []):=⟨He,zL Kr,⟨_,rfl,rfl⟩,rfl,Nat.le_of_ble_eq_true rfl,rfl,rfl,Nat.le_of_ble_eq_true rfl⟩
instance fld_28_1:qG J0 28 1 1:=⟨_,_,_,Lr,rfl,zL Kr,by decide,rfl⟩
instance fld_28_2:qG J0 28 2 2:=⟨_,_,_,Lr,rfl,zL Hi,by decide,rfl⟩
theorem zXj:J0.info? 25=dq Ug:=zL Kr
instance infI_25:zBa J0 25 Ug:=⟨zXj⟩
theorem zXk:J0.info? 26=dq Jad:=zL Hi
instance infI_26:zBa J0 26 Jad:=⟨zXk⟩
theorem zXl:J0.info? 28=dq Jac:=zL Hh
instance infI_28:zBa J0 28 Jac:=⟨zXl⟩
instance var_25:zAc J0 25 du 1:=⟨fun u h1 h2=>⟨_,_,Ls,zL Kr,by rw[h1];rfl,by rw[h2];rfl⟩⟩
instance var_26:zAc J0 26 du 1:=⟨fun u h1 h2=>⟨_,_,He,zL Hi,by rw[h1];rfl,by rw[h2];rfl⟩⟩
instance var_28:zAc J0 28 dv 3:=⟨fun u h1 h2=>⟨_,_,Lr,zL Hh,by rw[h1];rfl,by rw[h2];rfl⟩⟩
instance zer_28:zIC J0 28 (T.agg [L 1 I [],L 1 (L 1 I) [],L 1 (L 1 (L 1 I)) []]):=⟨_,_,zL Hh,rfl,rfl,rfl,rfl⟩
theorem zXm:J0.info? 24=dq Gw:=zL L0
instance infI_24:zBa J0 24 Gw:=⟨zXm⟩
instance row_25:zBs J0 25 24 Gw 1:=⟨Ls,zL L0,rfl⟩
instance row_26:zBs J0 26 25 Ug 1:=⟨He,zL Kr,rfl⟩
instance sli_25:zFn J0 25 24:=⟨Ls⟩
instance var_24:zAc J0 24 du 1:=⟨fun u h1 h2=>⟨_,_,Ho,zL L0,by rw[h1];rfl,by rw[h2];rfl⟩⟩
instance int_3:zIK J0 3 .i64:=⟨H1⟩
instance elt_286:ElT J0 286 9 Jai 1 (Str ByteArray.empty):=⟨Hy,zL Uv,⟨_,rfl,rfl⟩,rfl,Nat.le_of_ble_eq_true rfl,rfl,rfl,Nat.le_of_ble_eq_true rfl⟩
instance row_286:zBs J0 286 9 Jai 1:=⟨Hy,zL Uv,rfl⟩
instance str_9:zQj J0 9:=⟨Q8⟩
instance sli_286:zFn J0 286 9:=⟨Hy⟩
instance var_9:zAc J0 9 du 1:=⟨fun u h1 h2=>⟨_,_,Q8,zL Uv,by rw[h1];rfl,by rw[h2];rfl⟩⟩
instance fld_28_0:qG J0 28 0 0:=⟨_,_,_,Lr,rfl,zL L0,by decide,rfl⟩
instance sli_26:zFn J0 26 25:=⟨He⟩
instance elt_22:ElT J0 22 5 Jaj 1 ((IK .u8) 0):=⟨Hf,zL Uw,⟨_,rfl,rfl⟩,rfl,Nat.le_of_ble_eq_true rfl,rfl,rfl,Nat.le_of_ble_eq_true rfl⟩
instance int_5:zIK J0 5 .u8:=⟨Gl⟩
instance und_2:zL6 J0 2:=⟨_,Kv⟩
instance bld_237:zFl J0 237 [I 0,I 0,I 0,I 0]:=⟨_,_,fun ps=>vE (zL Gd) Lm rfl (places:=[(0,1),(1,1),(2,1),(3,1)]) (by simp[zL Kn];decide) ps,rfl,rfl,(by intro i u hu;match i,hu with|0,hu=>cases hu;rfl|1,hu=>cases hu;rfl|2,hu=>cases hu;rfl|3,hu=>cases hu;rfl|_+4,hu=>simp at hu)⟩
theorem zUU:J0.info? 237=dq Ja3:=zL Gd
instance infI_237:zBa J0 237 Ja3:=⟨zUU⟩
instance var_237:zAc J0 237 dv 4:=⟨fun u h1 h2=>⟨_,_,Lm,zL Gd,by rw[h1];rfl,by rw[h2];rfl⟩⟩
instance zer_237:zIC J0 237 (T.agg [I 0,I 0,I 0,I 0]):=⟨_,_,zL Gd,rfl,rfl,rfl,rfl⟩
instance fld_237_0:qG J0 237 0 0:=⟨_,_,_,Lm,rfl,zL Kn,by decide,rfl⟩
theorem zMz{u:T}(h1:u.single=du)(h2:u.size=1):∃(ds:TypeDesc)(ti:TypeInfo)(fs:Array Field)(f:Field),J0.underlying 237=dq (.struct fs)∧fs[0]? =dq f∧J0.underlying f.type=dq ds∧J0.info? f.type=dq ti∧zEn ds= !u.single∧ti.size=u.size:=⟨_,_,_,_,Lm,rfl,Kv,zL Kn,by rw[h1];rfl,by rw[h2];rfl⟩
instance fldw_237_0:zVW J0 237 0 du 1:=⟨fun _ h1 h2=>zMz h1 h2⟩
instance bld_30:zFl J0 30 [I 0,I 0,L 1 (L 1 (L 1 I)) []]:=⟨_,_,fun ps=>vE (zL Hg) Lq rfl (places:=[(0,1),(1,1),(2,1)]) (by simp[zL Kn,zL Hi];decide) ps,rfl,rfl,(by intro i u hu;match i,hu with|0,hu=>cases hu;rfl|1,hu=>cases hu;rfl|2,hu=>cases hu;rfl|_+3,hu=>simp at hu)⟩
instance fld_30_2:qG J0 30 2 2:=⟨_,_,_,Lq,rfl,zL Hi,by decide,rfl⟩
theorem zXn:J0.info? 30=dq Jab:=zL Hg
instance infI_30:zBa J0 30 Jab:=⟨zXn⟩
instance var_30:zAc J0 30 dv 3:=⟨fun u h1 h2=>⟨_,_,Lq,zL Hg,by rw[h1];rfl,by rw[h2];rfl⟩⟩
instance zer_30:zIC J0 30 (T.agg [I 0,I 0,L 1 (L 1 (L 1 I)) []]):=⟨_,_,zL Hg,rfl,rfl,rfl,rfl⟩
instance fld_30_0:qG J0 30 0 0:=⟨_,_,_,Lq,rfl,zL Kn,by decide,rfl⟩
instance fld_30_1:qG J0 30 1 1:=⟨_,_,_,Lq,rfl,zL Kn,by decide,rfl⟩
instance bld_275:zFl J0 275 [L 1 I [],L 1 I []]:=⟨_,_,fun ps=>vE (zL Gb) H9 rfl (places:=[(0,1),(1,1)]) (by simp[zL L0];decide) ps,rfl,rfl,(by intro i u hu;match i,hu with|0,hu=>cases hu;rfl|1,hu=>cases hu;rfl|_+2,hu=>simp at hu)⟩
instance fld_234_0:qG J0 234 0 0:=⟨_,_,_,Ln,rfl,zL Hh,by decide,rfl⟩
instance fld_234_2:qG J0 234 2 6:=⟨_,_,_,Ln,rfl,zL Kr,by decide,rfl⟩
theorem zUV:J0.info? 275=dq Ja2:=zL Gb
instance infI_275:zBa J0 275 Ja2:=⟨zUV⟩
instance var_275:zAc J0 275 dv 2:=⟨fun u h1 h2=>⟨_,_,H9,zL Gb,by rw[h1];rfl,by rw[h2];rfl⟩⟩
instance zer_275:zIC J0 275 (T.agg [L 1 I [],L 1 I []]):=⟨_,_,zL Gb,rfl,rfl,rfl,rfl⟩
instance fld_234_1:qG J0 234 1 3:=⟨_,_,_,Ln,rfl,zL Hg,by decide,rfl⟩
instance fld_275_0:qG J0 275 0 0:=⟨_,_,_,H9,rfl,zL L0,by decide,rfl⟩
instance fld_275_1:qG J0 275 1 1:=⟨_,_,_,H9,rfl,zL L0,by decide,rfl⟩
instance var_234:zAc J0 234 dv 7:=⟨fun u h1 h2=>⟨_,_,Ln,zL Ge,by rw[h1];rfl,by rw[h2];rfl⟩⟩
instance bld_234:zFl J0 234 [T.agg [L 1 I [],L 1 (L 1 I) [],L 1 (L 1 (L 1 I)) []],T.agg [I 0,I 0,L 1 (L 1 (L 1 I)) []],L 1 (L 1 I) []]:=⟨_,_,fun ps=>vE (zL Ge) Ln rfl (places:=[(0,3),(3,3),(6,1)]) (by simp[zL Kr,zL Hh,zL Hg];decide) ps,rfl,rfl,(by intro i u hu;match i,hu with|0,hu=>cases hu;rfl|1,hu=>cases hu;rfl|2,hu=>cases hu;rfl|_+3,hu=>simp at hu)⟩
theorem zUW:J0.info? 234=dq Ja4:=zL Ge
instance infI_234:zBa J0 234 Ja4:=⟨zUW⟩
instance zer_234:zIC J0 234 (T.agg [T.agg [L 1 I [],L 1 (L 1 I) [],L 1 (L 1 (L 1 I)) []],T.agg [I 0,I 0,L 1 (L 1 (L 1 I)) []],L 1 (L 1 I) []]):=⟨_,_,zL Ge,rfl,rfl,rfl,rfl⟩
instance eqs_237:zSW J0 237:=⟨⟨_,_,_,_,Lm,⟨by decide,rfl,Kv⟩,⟨by decide,rfl,Kv⟩,⟨by decide,rfl,Kv⟩,⟨by decide,rfl,Kv⟩⟩,Tryz.stoodInHeld237,Tryz.eqGuardType237⟩
instance bld_62:zFl J0 62 [I 0,I 0,L 1 (L 1 I) []]:=⟨_,_,fun ps=>vE (zL Gp) L9 rfl (places:=[(0,1),(1,1),(2,1)]) (by simp[zL Kn,zL Kr];decide) ps,rfl,rfl,(by intro i u hu;match i,hu with|0,hu=>cases hu;rfl|1,hu=>cases hu;rfl|2,hu=>cases hu;rfl|_+3,hu=>simp at hu)⟩
theorem zXo:J0.info? 62=dq Ja9:=zL Gp
instance infI_62:zBa J0 62 Ja9:=⟨zXo⟩
instance var_62:zAc J0 62 dv 3:=⟨fun u h1 h2=>⟨_,_,L9,zL Gp,by rw[h1];rfl,by rw[h2];rfl⟩⟩
instance zer_62:zIC J0 62 (T.agg [I 0,I 0,L 1 (L 1 I) []]):=⟨_,_,zL Gp,rfl,rfl,rfl,rfl⟩
instance fld_62_0:qG J0 62 0 0:=⟨_,_,_,L9,rfl,zL Kn,by decide,rfl⟩
instance fld_62_1:qG J0 62 1 1:=⟨_,_,_,L9,rfl,zL Kn,by decide,rfl⟩
instance fld_62_2:qG J0 62 2 2:=⟨_,_,_,L9,rfl,zL Kr,by decide,rfl⟩
instance int_57:zIK J0 57 .u64:=⟨Ga⟩
instance int_288:zIK J0 288 .u32:=⟨Uu⟩
instance und_57:zL6 J0 57:=⟨_,Ga⟩
instance und_288:zL6 J0 288:=⟨_,Uu⟩
instance int_141:zIK J0 141 .u64:=⟨Hj⟩
instance und_3:zL6 J0 3:=⟨_,H1⟩
instance und_141:zL6 J0 141:=⟨_,Hj⟩
instance bld_208:zFl J0 208 [L 1 I [],L 1 I []]:=⟨_,_,fun ps=>zJx (zL H4) G1 rfl (zL L0) ps,rfl,rfl,(by intro i u hu;match i,hu with|0,hu=>cases hu;rfl|1,hu=>cases hu;rfl|_+2,hu=>simp at hu)⟩
instance elt_206:ElT J0 206 208 U7 2 (T.agg [L 1 I ((([]:dy),([]:dy)).1),L 1 I ((([]:dy),([]:dy)).2)]):=⟨G3,zL H4,⟨_,rfl,rfl⟩,rfl,Nat.le_of_ble_eq_true rfl,rfl,rfl,Nat.le_of_ble_eq_true rfl⟩
instance row_206:zBs J0 206 208 U7 2:=⟨G3,zL H4,rfl⟩
instance arr_208:zXC J0 208 24 Gw 2 1:=⟨G1,zL L0,rfl⟩
theorem zEN{u:T}(h1:u.single=du)(h2:u.size=1):∃(ds:TypeDesc)(ti:TypeInfo)(fs:Array Field)(f:Field),J0.underlying 62=dq (.struct fs)∧fs[2]? =dq f∧J0.underlying f.type=dq ds∧J0.info? f.type=dq ti∧zEn ds= !u.single∧ti.size=u.size:=⟨_,_,_,_,L9,rfl,Ls,zL Kr,by rw[h1];rfl,by rw[h2];rfl⟩
instance fldw_62_2:zVW J0 62 2 du 1:=⟨fun _ h1 h2=>zEN h1 h2⟩
theorem zNZ:J0.info? 208=dq U7:=zL H4
instance infI_208:zBa J0 208 U7:=⟨zNZ⟩
instance sli_206:zFn J0 206 208:=⟨G3⟩
instance var_208:zAc J0 208 dv 2:=⟨fun u h1 h2=>⟨_,_,G1,zL H4,by rw[h1];rfl,by rw[h2];rfl⟩⟩
instance zer_208:zIC J0 208 (T.agg [L 1 I ((([]:dy),([]:dy)).1),L 1 I ((([]:dy),([]:dy)).2)]):=⟨_,_,zL H4,rfl,rfl,rfl,rfl⟩
instance elt_174:ElT J0 174 3 Q0 1 (I 0):=⟨G4,zL Ly,⟨_,rfl,rfl⟩,rfl,Nat.le_of_ble_eq_true rfl,rfl,rfl,Nat.le_of_ble_eq_true rfl⟩
instance row_174:zBs J0 174 3 Q0 1:=⟨G4,zL Ly,rfl⟩
instance sli_174:zFn J0 174 3:=⟨G4⟩
instance boo_4:zVr J0 4:=⟨Tryz.underlying4⟩
instance bld_138:zFl J0 138 [L 1 (IK .u8) [],I 0,(IK .u64) 0]:=⟨_,_,fun ps=>vE (zL Tryz.type138) Hb rfl (places:=[(0,1),(1,1),(2,1)]) (by simp[zL Hs,zL Ly,zL Gs];decide) ps,rfl,rfl,(by intro i u hu;match i,hu with|0,hu=>cases hu;rfl|1,hu=>cases hu;rfl|2,hu=>cases hu;rfl|_+3,hu=>simp at hu)⟩
instance fld_138_2:qG J0 138 2 2:=⟨_,_,_,Hb,rfl,zL Gs,by decide,rfl⟩
theorem zXp:J0.info? 57=dq Jaa:=zL Gs
instance infI_57:zBa J0 57 Jaa:=⟨zXp⟩
instance var_57:zAc J0 57 du 1:=⟨fun u h1 h2=>⟨_,_,Ga,zL Gs,by rw[h1];rfl,by rw[h2];rfl⟩⟩
instance fld_138_0:qG J0 138 0 0:=⟨_,_,_,Hb,rfl,zL Hs,by decide,rfl⟩
instance fld_138_1:qG J0 138 1 1:=⟨_,_,_,Hb,rfl,zL Ly,by decide,rfl⟩
instance mkz_25:MkZ J0 25 (L 1 I) ([]:dy) (L 1 I []):=⟨rfl⟩
instance bld_263:zFl J0 263 [T.lit (.pointer dt),L 1 (Ro (Nz 1 I)) []]:=⟨_,_,fun ps=>vE (zL Tryz.type263) Hz rfl (places:=[(0,1),(1,1)]) (by simp[zL Kr,zL Uf];decide) ps,rfl,rfl,(by intro i u hu;match i,hu with|0,hu=>cases hu;rfl|1,hu=>cases hu;rfl|_+2,hu=>simp at hu)⟩
instance fld_263_0:qG J0 263 0 0:=⟨_,_,_,Hz,rfl,zL Uf,by decide,rfl⟩
instance fld_263_1:qG J0 263 1 1:=⟨_,_,_,Hz,rfl,zL Kr,by decide,rfl⟩
instance var_98:zAc J0 98 du 1:=⟨fun u h1 h2=>⟨_,_,Tryz.underlying98,zL Uf,by rw[h1];rfl,by rw[h2];rfl⟩⟩
end Go.Wk
