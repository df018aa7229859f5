/- x -/
import Derived.Test.YtchnmobojdcikaaGreatAbC
import Derived.Test.YtchnmobojdcikaaGreatWF
import Derived.Test.YtchnmobojdcikaaGreatProg
open Go.Proofs.Tryz renaming prog→J0,type2→Kn,type25→Kr,underlying2→Ky,type24→L6,underlying24→Ld,underlying62→Lg,underlying237→Lt,underlying234→Lu,underlying30→Lw,underlying28→Lx,underlying25→H2,type3→H3,type208→Hb,underlying275→He,underlying202→Hf,underlying138→Hg,underlying26→Hm,underlying22→Hn,type30→Ho,type28→Hp,type26→Hq,underlying3→Hr,underlying141→Hs,type22→G8,underlying286→Gd,underlying263→Ge,underlying208→Gf,underlying206→Gg,underlying174→Gi,underlying57→Gs,type237→Gt,underlying5→U0,type62→U3,type57→U4,t24→Ub,t208→Uj,type275→Uo,type234→Up,type98→Q0,t25→Q2,underlying288→Qf,type9→Qg,type5→Qh,t3→Qm,t2→Qn,underlying9→Qs,t237→Jar,t62→Jb0,t57→Jb1,t30→Jb2,t28→Jb3,t26→Jb4,t9→Jb7,t5→Jb8
open Option renaming some→dS,none→dT
open Bool renaming true→dU,false→dV
namespace Go.Wk
open Go Go.Proofs Go.Ab
abbrev lV:=L 1 I
abbrev lM:=L 1 lV
abbrev lC:=L 1 lM
abbrev uS(x:zJ):T:=T.agg [I x.Prime,I x.xL,T.ro (lM x.Rows)]
abbrev xD(x:zB):T:=T.agg [I x.Prime,I x.Dim,T.ro (lC x.zG)]
abbrev qPr(x:SPr):T:=T.agg [T.ro (lV x.zA),T.ro (lM x.zN),T.ro (lC x.zC)]
abbrev yBY(x:jV):T:=T.agg [T.ro ((L 1 (IK .u8)) x.b),I x.i,(IK .u64) x.h]
abbrev wO(x:zD):T:=T.agg [T.ro ((L 1 (IK .u8)) x.code),I x.at_,I x.seed]
theorem zA5:J0.follows .mixedOrders=dU:=rfl
instance:Mix J0:=⟨zA5⟩
instance sli_22:zF6 J0 22 5:=⟨Hn⟩
instance bld_202:zGy J0 202 [L 1 (IK .u8) [],I 0,I 0]:=⟨_,_,fun ps=>vP (zM Tryz.type202) Hf rfl (places:=[(0,1),(1,1),(2,1)]) (by simp[zM Kn,zM G8,zM H3];decide) ps,rfl,rfl,(by intro i u hu;match i,hu with|0,hu=>cases hu;rfl|1,hu=>cases hu;rfl|2,hu=>cases hu;rfl|_+3,hu=>simp at hu)⟩
instance fld_202_2:qP J0 202 2 2:=⟨_,_,_,Hf,rfl,zM Kn,by decide,rfl⟩
theorem zYg:J0.info? 2=dS Qn:=zM Kn
instance infI_2:zCm J0 2 Qn:=⟨zYg⟩
instance int_2:zKs J0 2 .i64:=⟨Ky⟩
instance row_22:zBk J0 22 5 Jb8 1:=⟨Hn,zM Qh,rfl⟩
instance und_5:zN2 J0 5:=⟨_,U0⟩
instance var_2:jP J0 2 dU 1:=⟨fun u h1 h2=>⟨_,_,Ky,zM Kn,by rw[h1];rfl,by rw[h2];rfl⟩⟩
instance var_5:jP J0 5 dU 1:=⟨fun u h1 h2=>⟨_,_,U0,zM Qh,by rw[h1];rfl,by rw[h2];rfl⟩⟩
instance fld_202_0:qP J0 202 0 0:=⟨_,_,_,Hf,rfl,zM G8,by decide,rfl⟩
instance fld_202_1:qP J0 202 1 1:=⟨_,_,_,Hf,rfl,zM H3,by decide,rfl⟩
theorem yBZ:J0.info? 3=dS Qm:=zM H3
instance infI_3:zCm J0 3 Qm:=⟨yBZ⟩
instance var_3:jP J0 3 dU 1:=⟨fun u h1 h2=>⟨_,_,Hr,zM H3,by rw[h1];rfl,by rw[h2];rfl⟩⟩
instance var_22:jP J0 22 dU 1:=⟨fun u h1 h2=>⟨_,_,Hn,zM G8,by rw[h1];rfl,by rw[h2];rfl⟩⟩
instance row_24:zBk J0 24 2 Qn 1:=⟨Ld,zM Kn,rfl⟩
instance sli_24:zF6 J0 24 2:=⟨Ld⟩
instance elt_24:ElT J0 24 2 Qn 1 (I 0):=⟨Ld,zM Kn,⟨_,rfl,rfl⟩,rfl,Nat.le_of_ble_eq_true rfl,rfl,rfl,Nat.le_of_ble_eq_true rfl⟩
instance mkz_24:MkZ J0 24 I 0 (I 0):=⟨rfl⟩
instance bld_28:zGy J0 28 [L 1 I [],L 1 (L 1 I) [],L 1 (L 1 (L 1 I)) []]:=⟨_,_,fun ps=>vP (zM Hp) Lx rfl (places:=[(0,1),(1,1),(2,1)]) (by simp[zM L6,zM Kr,zM Hq];decide) ps,rfl,rfl,(by intro i u hu;match i,hu with|0,hu=>cases hu;rfl|1,hu=>cases hu;rfl|2,hu=>cases hu;rfl|_+3,hu=>simp at hu)⟩
instance elt_25:ElT J0 25 24 Ub 1 (L 1 I []):=⟨H2,zM L6,⟨_,rfl,rfl⟩,rfl,Nat.le_of_ble_eq_true rfl,rfl,rfl,Nat.le_of_ble_eq_true rfl⟩
instance elt_26:ElT J0 26 25 Q2 1 (L 1 (L 1 I) []):=⟨Hm,zM Kr,⟨_,rfl,rfl⟩,rfl,Nat.le_of_ble_eq_true rfl,rfl,rfl,Nat.le_of_ble_eq_true rfl⟩
instance fld_28_1:qP J0 28 1 1:=⟨_,_,_,Lx,rfl,zM Kr,by decide,rfl⟩
instance fld_28_2:qP J0 28 2 2:=⟨_,_,_,Lx,rfl,zM Hq,by decide,rfl⟩
theorem yAe:J0.info? 25=dS Q2:=zM Kr
instance infI_25:zCm J0 25 Q2:=⟨yAe⟩
theorem yAf:J0.info? 26=dS Jb4:=zM Hq
instance infI_26:zCm J0 26 Jb4:=⟨yAf⟩
theorem yAg:J0.info? 28=dS Jb3:=zM Hp
instance infI_28:zCm J0 28 Jb3:=⟨yAg⟩
instance var_25:jP J0 25 dU 1:=⟨fun u h1 h2=>⟨_,_,H2,zM Kr,by rw[h1];rfl,by rw[h2];rfl⟩⟩
instance var_26:jP J0 26 dU 1:=⟨fun u h1 h2=>⟨_,_,Hm,zM Hq,by rw[h1];rfl,by rw[h2];rfl⟩⟩
instance var_28:jP J0 28 dV 3:=⟨fun u h1 h2=>⟨_,_,Lx,zM Hp,by rw[h1];rfl,by rw[h2];rfl⟩⟩
instance zer_28:zKi J0 28 (T.agg [L 1 I [],L 1 (L 1 I) [],L 1 (L 1 (L 1 I)) []]):=⟨_,_,zM Hp,rfl,rfl,rfl,rfl⟩
theorem yAh:J0.info? 24=dS Ub:=zM L6
instance infI_24:zCm J0 24 Ub:=⟨yAh⟩
instance row_25:zBk J0 25 24 Ub 1:=⟨H2,zM L6,rfl⟩
instance row_26:zBk J0 26 25 Q2 1:=⟨Hm,zM Kr,rfl⟩
instance sli_25:zF6 J0 25 24:=⟨H2⟩
instance var_24:jP J0 24 dU 1:=⟨fun u h1 h2=>⟨_,_,Ld,zM L6,by rw[h1];rfl,by rw[h2];rfl⟩⟩
instance int_3:zKs J0 3 .i64:=⟨Hr⟩
instance elt_286:ElT J0 286 9 Jb7 1 (Str ByteArray.empty):=⟨Gd,zM Qg,⟨_,rfl,rfl⟩,rfl,Nat.le_of_ble_eq_true rfl,rfl,rfl,Nat.le_of_ble_eq_true rfl⟩
instance row_286:zBk J0 286 9 Jb7 1:=⟨Gd,zM Qg,rfl⟩
instance str_9:zS7 J0 9:=⟨Qs⟩
instance sli_286:zF6 J0 286 9:=⟨Gd⟩
instance var_9:jP J0 9 dU 1:=⟨fun u h1 h2=>⟨_,_,Qs,zM Qg,by rw[h1];rfl,by rw[h2];rfl⟩⟩
instance fld_28_0:qP J0 28 0 0:=⟨_,_,_,Lx,rfl,zM L6,by decide,rfl⟩
instance sli_26:zF6 J0 26 25:=⟨Hm⟩
instance elt_22:ElT J0 22 5 Jb8 1 ((IK .u8) 0):=⟨Hn,zM Qh,⟨_,rfl,rfl⟩,rfl,Nat.le_of_ble_eq_true rfl,rfl,rfl,Nat.le_of_ble_eq_true rfl⟩
instance int_5:zKs J0 5 .u8:=⟨U0⟩
instance und_2:zN2 J0 2:=⟨_,Ky⟩
instance bld_237:zGy J0 237 [I 0,I 0,I 0,I 0]:=⟨_,_,fun ps=>vP (zM Gt) Lt rfl (places:=[(0,1),(1,1),(2,1),(3,1)]) (by simp[zM Kn];decide) ps,rfl,rfl,(by intro i u hu;match i,hu with|0,hu=>cases hu;rfl|1,hu=>cases hu;rfl|2,hu=>cases hu;rfl|3,hu=>cases hu;rfl|_+4,hu=>simp at hu)⟩
theorem zXv:J0.info? 237=dS Jar:=zM Gt
instance infI_237:zCm J0 237 Jar:=⟨zXv⟩
instance var_237:jP J0 237 dV 4:=⟨fun u h1 h2=>⟨_,_,Lt,zM Gt,by rw[h1];rfl,by rw[h2];rfl⟩⟩
instance zer_237:zKi J0 237 (T.agg [I 0,I 0,I 0,I 0]):=⟨_,_,zM Gt,rfl,rfl,rfl,rfl⟩
instance fld_237_0:qP J0 237 0 0:=⟨_,_,_,Lt,rfl,zM Kn,by decide,rfl⟩
theorem zOA{u:T}(h1:u.single=dU)(h2:u.size=1):∃(ds:TypeDesc)(ti:TypeInfo)(fs:Array Field)(f:Field),J0.underlying 237=dS (.struct fs)∧fs[0]? =dS f∧J0.underlying f.type=dS ds∧J0.info? f.type=dS ti∧zFq ds= !u.single∧ti.size=u.size:=⟨_,_,_,_,Lt,rfl,Ky,zM Kn,by rw[h1];rfl,by rw[h2];rfl⟩
instance fldw_237_0:zY9 J0 237 0 dU 1:=⟨fun _ h1 h2=>zOA h1 h2⟩
instance bld_30:zGy J0 30 [I 0,I 0,L 1 (L 1 (L 1 I)) []]:=⟨_,_,fun ps=>vP (zM Ho) Lw rfl (places:=[(0,1),(1,1),(2,1)]) (by simp[zM Kn,zM Hq];decide) ps,rfl,rfl,(by intro i u hu;match i,hu with|0,hu=>cases hu;rfl|1,hu=>cases hu;rfl|2,hu=>cases hu;rfl|_+3,hu=>simp at hu)⟩
instance fld_30_2:qP J0 30 2 2:=⟨_,_,_,Lw,rfl,zM Hq,by decide,rfl⟩
theorem yAi:J0.info? 30=dS Jb2:=zM Ho
instance infI_30:zCm J0 30 Jb2:=⟨yAi⟩
instance var_30:jP J0 30 dV 3:=⟨fun u h1 h2=>⟨_,_,Lw,zM Ho,by rw[h1];rfl,by rw[h2];rfl⟩⟩
instance zer_30:zKi J0 30 (T.agg [I 0,I 0,L 1 (L 1 (L 1 I)) []]):=⟨_,_,zM Ho,rfl,rfl,rfl,rfl⟩
instance fld_30_0:qP J0 30 0 0:=⟨_,_,_,Lw,rfl,zM Kn,by decide,rfl⟩
instance fld_30_1:qP J0 30 1 1:=⟨_,_,_,Lw,rfl,zM Kn,by decide,rfl⟩
instance bld_275:zGy J0 275 [L 1 I [],L 1 I []]:=⟨_,_,fun ps=>vP (zM Uo) He rfl (places:=[(0,1),(1,1)]) (by simp[zM L6];decide) ps,rfl,rfl,(by intro i u hu;match i,hu with|0,hu=>cases hu;rfl|1,hu=>cases hu;rfl|_+2,hu=>simp at hu)⟩
instance fld_234_0:qP J0 234 0 0:=⟨_,_,_,Lu,rfl,zM Hp,by decide,rfl⟩
instance fld_234_2:qP J0 234 2 6:=⟨_,_,_,Lu,rfl,zM Kr,by decide,rfl⟩
instance var_275:jP J0 275 dV 2:=⟨fun u h1 h2=>⟨_,_,He,zM Uo,by rw[h1];rfl,by rw[h2];rfl⟩⟩
instance zer_275:zKi J0 275 (T.agg [L 1 I [],L 1 I []]):=⟨_,_,zM Uo,rfl,rfl,rfl,rfl⟩
instance fld_234_1:qP J0 234 1 3:=⟨_,_,_,Lu,rfl,zM Ho,by decide,rfl⟩
instance fld_275_0:qP J0 275 0 0:=⟨_,_,_,He,rfl,zM L6,by decide,rfl⟩
instance fld_275_1:qP J0 275 1 1:=⟨_,_,_,He,rfl,zM L6,by decide,rfl⟩
instance var_234:jP J0 234 dV 7:=⟨fun u h1 h2=>⟨_,_,Lu,zM Up,by rw[h1];rfl,by rw[h2];rfl⟩⟩
instance bld_234:zGy J0 234 [T.agg [L 1 I [],L 1 (L 1 I) [],L 1 (L 1 (L 1 I)) []],T.agg [I 0,I 0,L 1 (L 1 (L 1 I)) []],L 1 (L 1 I) []]:=⟨_,_,fun ps=>vP (zM Up) Lu rfl (places:=[(0,3),(3,3),(6,1)]) (by simp[zM Kr,zM Hp,zM Ho];decide) ps,rfl,rfl,(by intro i u hu;match i,hu with|0,hu=>cases hu;rfl|1,hu=>cases hu;rfl|2,hu=>cases hu;rfl|_+3,hu=>simp at hu)⟩
instance zer_234:zKi J0 234 (T.agg [T.agg [L 1 I [],L 1 (L 1 I) [],L 1 (L 1 (L 1 I)) []],T.agg [I 0,I 0,L 1 (L 1 (L 1 I)) []],L 1 (L 1 I) []]):=⟨_,_,zM Up,rfl,rfl,rfl,rfl⟩
instance eqs_237:zVy J0 237:=⟨⟨_,_,_,_,Lt,⟨by decide,rfl,Ky⟩,⟨by decide,rfl,Ky⟩,⟨by decide,rfl,Ky⟩,⟨by decide,rfl,Ky⟩⟩,Tryz.stoodInHeld237,Tryz.eqGuardType237⟩
instance bld_62:zGy J0 62 [I 0,I 0,L 1 (L 1 I) []]:=⟨_,_,fun ps=>vP (zM U3) Lg rfl (places:=[(0,1),(1,1),(2,1)]) (by simp[zM Kn,zM Kr];decide) ps,rfl,rfl,(by intro i u hu;match i,hu with|0,hu=>cases hu;rfl|1,hu=>cases hu;rfl|2,hu=>cases hu;rfl|_+3,hu=>simp at hu)⟩
theorem yAj:J0.info? 62=dS Jb0:=zM U3
instance infI_62:zCm J0 62 Jb0:=⟨yAj⟩
instance var_62:jP J0 62 dV 3:=⟨fun u h1 h2=>⟨_,_,Lg,zM U3,by rw[h1];rfl,by rw[h2];rfl⟩⟩
instance zer_62:zKi J0 62 (T.agg [I 0,I 0,L 1 (L 1 I) []]):=⟨_,_,zM U3,rfl,rfl,rfl,rfl⟩
instance fld_62_0:qP J0 62 0 0:=⟨_,_,_,Lg,rfl,zM Kn,by decide,rfl⟩
instance fld_62_1:qP J0 62 1 1:=⟨_,_,_,Lg,rfl,zM Kn,by decide,rfl⟩
instance fld_62_2:qP J0 62 2 2:=⟨_,_,_,Lg,rfl,zM Kr,by decide,rfl⟩
instance int_57:zKs J0 57 .u64:=⟨Gs⟩
instance int_288:zKs J0 288 .u32:=⟨Qf⟩
instance und_57:zN2 J0 57:=⟨_,Gs⟩
instance und_288:zN2 J0 288:=⟨_,Qf⟩
instance int_141:zKs J0 141 .u64:=⟨Hs⟩
instance und_3:zN2 J0 3:=⟨_,Hr⟩
instance und_141:zN2 J0 141:=⟨_,Hs⟩
instance bld_208:zGy J0 208 [L 1 I [],L 1 I []]:=⟨_,_,fun ps=>zLf (zM Hb) Gf rfl (zM L6) ps,rfl,rfl,(by intro i u hu;match i,hu with|0,hu=>cases hu;rfl|1,hu=>cases hu;rfl|_+2,hu=>simp at hu)⟩
instance elt_206:ElT J0 206 208 Uj 2 (T.agg [L 1 I ((([]:dY),([]:dY)).1),L 1 I ((([]:dY),([]:dY)).2)]):=⟨Gg,zM Hb,⟨_,rfl,rfl⟩,rfl,Nat.le_of_ble_eq_true rfl,rfl,rfl,Nat.le_of_ble_eq_true rfl⟩
instance row_206:zBk J0 206 208 Uj 2:=⟨Gg,zM Hb,rfl⟩
instance arr_208:zVz J0 208 24 Ub 2 1:=⟨Gf,zM L6,rfl⟩
theorem zFY{u:T}(h1:u.single=dU)(h2:u.size=1):∃(ds:TypeDesc)(ti:TypeInfo)(fs:Array Field)(f:Field),J0.underlying 62=dS (.struct fs)∧fs[2]? =dS f∧J0.underlying f.type=dS ds∧J0.info? f.type=dS ti∧zFq ds= !u.single∧ti.size=u.size:=⟨_,_,_,_,Lg,rfl,H2,zM Kr,by rw[h1];rfl,by rw[h2];rfl⟩
instance fldw_62_2:zY9 J0 62 2 dU 1:=⟨fun _ h1 h2=>zFY h1 h2⟩
theorem zQa:J0.info? 208=dS Uj:=zM Hb
instance infI_208:zCm J0 208 Uj:=⟨zQa⟩
instance sli_206:zF6 J0 206 208:=⟨Gg⟩
instance var_208:jP J0 208 dV 2:=⟨fun u h1 h2=>⟨_,_,Gf,zM Hb,by rw[h1];rfl,by rw[h2];rfl⟩⟩
instance zer_208:zKi J0 208 (T.agg [L 1 I ((([]:dY),([]:dY)).1),L 1 I ((([]:dY),([]:dY)).2)]):=⟨_,_,zM Hb,rfl,rfl,rfl,rfl⟩
instance elt_174:ElT J0 174 3 Qm 1 (I 0):=⟨Gi,zM H3,⟨_,rfl,rfl⟩,rfl,Nat.le_of_ble_eq_true rfl,rfl,rfl,Nat.le_of_ble_eq_true rfl⟩
instance row_174:zBk J0 174 3 Qm 1:=⟨Gi,zM H3,rfl⟩
instance sli_174:zF6 J0 174 3:=⟨Gi⟩
instance boo_4:zS0 J0 4:=⟨Tryz.underlying4⟩
instance bld_138:zGy J0 138 [L 1 (IK .u8) [],I 0,(IK .u64) 0]:=⟨_,_,fun ps=>vP (zM Tryz.type138) Hg rfl (places:=[(0,1),(1,1),(2,1)]) (by simp[zM G8,zM H3,zM U4];decide) ps,rfl,rfl,(by intro i u hu;match i,hu with|0,hu=>cases hu;rfl|1,hu=>cases hu;rfl|2,hu=>cases hu;rfl|_+3,hu=>simp at hu)⟩
instance fld_138_2:qP J0 138 2 2:=⟨_,_,_,Hg,rfl,zM U4,by decide,rfl⟩
theorem yAk:J0.info? 57=dS Jb1:=zM U4
instance infI_57:zCm J0 57 Jb1:=⟨yAk⟩
instance var_57:jP J0 57 dU 1:=⟨fun u h1 h2=>⟨_,_,Gs,zM U4,by rw[h1];rfl,by rw[h2];rfl⟩⟩
instance fld_138_0:qP J0 138 0 0:=⟨_,_,_,Hg,rfl,zM G8,by decide,rfl⟩
instance fld_138_1:qP J0 138 1 1:=⟨_,_,_,Hg,rfl,zM H3,by decide,rfl⟩
instance mkz_25:MkZ J0 25 (L 1 I) ([]:dY) (L 1 I []):=⟨rfl⟩
instance bld_263:zGy J0 263 [T.lit (.pointer dT),L 1 (Ro (Nz 1 I)) []]:=⟨_,_,fun ps=>vP (zM Tryz.type263) Ge rfl (places:=[(0,1),(1,1)]) (by simp[zM Kr,zM Q0];decide) ps,rfl,rfl,(by intro i u hu;match i,hu with|0,hu=>cases hu;rfl|1,hu=>cases hu;rfl|_+2,hu=>simp at hu)⟩
instance fld_263_0:qP J0 263 0 0:=⟨_,_,_,Ge,rfl,zM Q0,by decide,rfl⟩
instance fld_263_1:qP J0 263 1 1:=⟨_,_,_,Ge,rfl,zM Kr,by decide,rfl⟩
instance var_98:jP J0 98 dU 1:=⟨fun u h1 h2=>⟨_,_,Tryz.underlying98,zM Q0,by rw[h1];rfl,by rw[h2];rfl⟩⟩
end Go.Wk
