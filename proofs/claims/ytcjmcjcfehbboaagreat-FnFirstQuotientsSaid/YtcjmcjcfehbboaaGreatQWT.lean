/- x -/
import Derived.Test.YtcjmcjcfehbboaaGreatQAbC
import Derived.Test.YtcjmcjcfehbboaaGreatQWF
import Derived.Test.YtcjmcjcfehbboaaGreatProg
open Go.Proofs.Tryz renaming prog→J0,type24→Kc,type2→Ke,underlying38→Kz,underlying37→L6,underlying117→Lm,type38→Lq,underlying58→Lw,underlying24→H2,type160→Ha,underlying3→Hd,underlying164→He,underlying162→Hf,underlying157→Hg,underlying76→Ho,underlying56→Hp,underlying26→Hq,underlying22→Hr,type56→Hs,type37→Ht,underlying186→Hu,underlying2→Hv,type3→G1,type62→Gd,underlying192→Gi,underlying172→Gj,underlying160→Gk,underlying96→Gp,underlying41→Gs,underlying33→Gt,type162→Gu,type117→Gv,underlying5→U0,type58→U1,type33→U2,type26→U3,t160→Uj,type157→Uo,type120→Up,t2→Uq,type22→Uw,t38→Ux,t37→Uy,t24→Uz,underlying200→Qd,underlying197→Qe,type9→Qf,type5→Qg,t3→Qo,underlying9→Qr,t162→Jaw,t157→Jax,t117→Jay,t58→Jb5,t56→Jb6,t33→Jb7,t26→Jb8,t9→Jbd,t5→Jbe
open Option renaming some→jq,none→jr
open Bool renaming true→js,false→jt
namespace Go.Wk
open Go Go.Proofs Go.Ab
abbrev lV:=L 1 I
abbrev lM:=L 1 lV
abbrev lC:=L 1 lM
abbrev uX(x:zI):T:=T.agg [T.ro (lV x.Word),T.ro (lV x.Left),T.ro (lV x.zWX)]
abbrev zBS(x:zY):T:=T.agg [I x.Gens,T.ro (lM x.zO)]
abbrev zAR(x:zN):T:=T.agg [I x.Prime,I x.xU,T.ro (lM x.Rows)]
abbrev qPr(x:SPr):T:=T.agg [T.ro (lV x.zA),T.ro (lM x.yB),T.ro (lC x.zD)]
abbrev zW(x:zM):T:=T.agg [T.ro ((L 1 (IK .u8)) x.code),I x.at_,I x.seed]
abbrev zH1(x:xM):T:=T.agg [T.ro ((Pt yI) x.p),T.ro ((Pt yF) x.m),T.ro ((L 3 zS) x.sums)]
theorem tZ:J0.follows .mixedOrders=js:=rfl
instance:Mix J0:=⟨tZ⟩
instance sli_22:zEs J0 22 5:=⟨Hr⟩
instance bld_76:zGH J0 76 [L 1 (IK .u8) [],I 0,I 0]:=⟨_,_,fun ps=>vY (zP Tryz.type76) Ho rfl (places:=[(0,1),(1,1),(2,1)]) (by simp[zP Ke,zP Uw,zP G1];decide) ps,rfl,rfl,(by intro i u hu;match i,hu with|0,hu=>cases hu;rfl|1,hu=>cases hu;rfl|2,hu=>cases hu;rfl|_+3,hu=>simp at hu)⟩
instance fld_76_2:qW J0 76 2 2:=⟨_,_,_,Ho,rfl,zP Ke,by decide,rfl⟩
theorem zTA:J0.info? 2=jq Uq:=zP Ke
instance infI_2:zB1 J0 2 Uq:=⟨zTA⟩
instance int_2:zJq J0 2 .i64:=⟨Hv⟩
instance row_22:zBk J0 22 5 Jbe 1:=⟨Hr,zP Qg,rfl⟩
instance und_5:zMf J0 5:=⟨_,U0⟩
instance var_2:jU J0 2 js 1:=⟨fun u h1 h2=>⟨_,_,Hv,zP Ke,by rw[h1];rfl,by rw[h2];rfl⟩⟩
instance var_5:jU J0 5 js 1:=⟨fun u h1 h2=>⟨_,_,U0,zP Qg,by rw[h1];rfl,by rw[h2];rfl⟩⟩
instance fld_76_0:qW J0 76 0 0:=⟨_,_,_,Ho,rfl,zP Uw,by decide,rfl⟩
instance fld_76_1:qW J0 76 1 1:=⟨_,_,_,Ho,rfl,zP G1,by decide,rfl⟩
theorem yBb:J0.info? 3=jq Qo:=zP G1
instance infI_3:zB1 J0 3 Qo:=⟨yBb⟩
instance var_3:jU J0 3 js 1:=⟨fun u h1 h2=>⟨_,_,Hd,zP G1,by rw[h1];rfl,by rw[h2];rfl⟩⟩
instance var_22:jU J0 22 js 1:=⟨fun u h1 h2=>⟨_,_,Hr,zP Uw,by rw[h1];rfl,by rw[h2];rfl⟩⟩
instance row_38:zBk J0 38 2 Uq 1:=⟨Kz,zP Ke,rfl⟩
instance sli_38:zEs J0 38 2:=⟨Kz⟩
instance elt_38:ElT J0 38 2 Uq 1 (I 0):=⟨Kz,zP Ke,⟨_,rfl,rfl⟩,rfl,Nat.le_of_ble_eq_true rfl,rfl,rfl,Nat.le_of_ble_eq_true rfl⟩
instance mkz_38:MkZ J0 38 I 0 (I 0):=⟨rfl⟩
instance bld_58:zGH J0 58 [L 1 I [],L 1 (L 1 I) [],L 1 (L 1 (L 1 I)) []]:=⟨_,_,fun ps=>vY (zP U1) Lw rfl (places:=[(0,1),(1,1),(2,1)]) (by simp[zP Kc,zP Lq,zP Hs];decide) ps,rfl,rfl,(by intro i u hu;match i,hu with|0,hu=>cases hu;rfl|1,hu=>cases hu;rfl|2,hu=>cases hu;rfl|_+3,hu=>simp at hu)⟩
instance elt_24:ElT J0 24 38 Ux 1 (L 1 I []):=⟨H2,zP Lq,⟨_,rfl,rfl⟩,rfl,Nat.le_of_ble_eq_true rfl,rfl,rfl,Nat.le_of_ble_eq_true rfl⟩
instance elt_56:ElT J0 56 24 Uz 1 (L 1 (L 1 I) []):=⟨Hp,zP Kc,⟨_,rfl,rfl⟩,rfl,Nat.le_of_ble_eq_true rfl,rfl,rfl,Nat.le_of_ble_eq_true rfl⟩
instance fld_58_1:qW J0 58 1 1:=⟨_,_,_,Lw,rfl,zP Kc,by decide,rfl⟩
instance fld_58_2:qW J0 58 2 2:=⟨_,_,_,Lw,rfl,zP Hs,by decide,rfl⟩
theorem zEa:J0.info? 24=jq Uz:=zP Kc
instance infI_24:zB1 J0 24 Uz:=⟨zEa⟩
theorem zYH:J0.info? 56=jq Jb6:=zP Hs
instance infI_56:zB1 J0 56 Jb6:=⟨zYH⟩
theorem zCo:J0.info? 58=jq Jb5:=zP U1
instance infI_58:zB1 J0 58 Jb5:=⟨zCo⟩
instance var_24:jU J0 24 js 1:=⟨fun u h1 h2=>⟨_,_,H2,zP Kc,by rw[h1];rfl,by rw[h2];rfl⟩⟩
instance var_56:jU J0 56 js 1:=⟨fun u h1 h2=>⟨_,_,Hp,zP Hs,by rw[h1];rfl,by rw[h2];rfl⟩⟩
instance var_58:jU J0 58 jt 3:=⟨fun u h1 h2=>⟨_,_,Lw,zP U1,by rw[h1];rfl,by rw[h2];rfl⟩⟩
instance zer_58:zJk J0 58 (T.agg [L 1 I [],L 1 (L 1 I) [],L 1 (L 1 (L 1 I)) []]):=⟨_,_,zP U1,rfl,rfl,rfl,rfl⟩
theorem zFt:J0.info? 38=jq Ux:=zP Lq
instance infI_38:zB1 J0 38 Ux:=⟨zFt⟩
instance row_24:zBk J0 24 38 Ux 1:=⟨H2,zP Lq,rfl⟩
instance row_56:zBk J0 56 24 Uz 1:=⟨Hp,zP Kc,rfl⟩
instance sli_24:zEs J0 24 38:=⟨H2⟩
instance var_38:jU J0 38 js 1:=⟨fun u h1 h2=>⟨_,_,Kz,zP Lq,by rw[h1];rfl,by rw[h2];rfl⟩⟩
instance int_3:zJq J0 3 .i64:=⟨Hd⟩
instance elt_192:ElT J0 192 9 Jbd 1 (Str ByteArray.empty):=⟨Gi,zP Qf,⟨_,rfl,rfl⟩,rfl,Nat.le_of_ble_eq_true rfl,rfl,rfl,Nat.le_of_ble_eq_true rfl⟩
instance row_192:zBk J0 192 9 Jbd 1:=⟨Gi,zP Qf,rfl⟩
instance str_9:zRo J0 9:=⟨Qr⟩
instance sli_192:zEs J0 192 9:=⟨Gi⟩
instance var_9:jU J0 9 js 1:=⟨fun u h1 h2=>⟨_,_,Qr,zP Qf,by rw[h1];rfl,by rw[h2];rfl⟩⟩
instance fld_58_0:qW J0 58 0 0:=⟨_,_,_,Lw,rfl,zP Lq,by decide,rfl⟩
instance sli_56:zEs J0 56 24:=⟨Hp⟩
instance elt_22:ElT J0 22 5 Jbe 1 ((IK .u8) 0):=⟨Hr,zP Qg,⟨_,rfl,rfl⟩,rfl,Nat.le_of_ble_eq_true rfl,rfl,rfl,Nat.le_of_ble_eq_true rfl⟩
instance int_5:zJq J0 5 .u8:=⟨U0⟩
instance und_2:zMf J0 2:=⟨_,Hv⟩
instance bld_26:zGH J0 26 [I 0,L 1 (L 1 I) []]:=⟨_,_,fun ps=>vY (zP U3) Hq rfl (places:=[(0,1),(1,1)]) (by simp[zP Ke,zP Kc];decide) ps,rfl,rfl,(by intro i u hu;match i,hu with|0,hu=>cases hu;rfl|1,hu=>cases hu;rfl|_+2,hu=>simp at hu)⟩
theorem sP:J0.info? 26=jq Jb8:=zP U3
instance infI_26:zB1 J0 26 Jb8:=⟨sP⟩
instance var_26:jU J0 26 jt 2:=⟨fun u h1 h2=>⟨_,_,Hq,zP U3,by rw[h1];rfl,by rw[h2];rfl⟩⟩
instance zer_26:zJk J0 26 (T.agg [I 0,L 1 (L 1 I) []]):=⟨_,_,zP U3,rfl,rfl,rfl,rfl⟩
instance fld_26_0:qW J0 26 0 0:=⟨_,_,_,Hq,rfl,zP Ke,by decide,rfl⟩
instance fld_26_1:qW J0 26 1 1:=⟨_,_,_,Hq,rfl,zP Kc,by decide,rfl⟩
instance bld_37:zGH J0 37 [I 0,I 0,L 1 (L 1 I) []]:=⟨_,_,fun ps=>vY (zP Ht) L6 rfl (places:=[(0,1),(1,1),(2,1)]) (by simp[zP Ke,zP Kc];decide) ps,rfl,rfl,(by intro i u hu;match i,hu with|0,hu=>cases hu;rfl|1,hu=>cases hu;rfl|2,hu=>cases hu;rfl|_+3,hu=>simp at hu)⟩
instance fld_37_2:qW J0 37 2 2:=⟨_,_,_,L6,rfl,zP Kc,by decide,rfl⟩
theorem zH2:J0.info? 37=jq Uy:=zP Ht
instance infI_37:zB1 J0 37 Uy:=⟨zH2⟩
instance var_37:jU J0 37 jt 3:=⟨fun u h1 h2=>⟨_,_,L6,zP Ht,by rw[h1];rfl,by rw[h2];rfl⟩⟩
instance zer_37:zJk J0 37 (T.agg [I 0,I 0,L 1 (L 1 I) []]):=⟨_,_,zP Ht,rfl,rfl,rfl,rfl⟩
instance bld_117:zGH J0 117 [I 0,I 0,L 1 (L 1 (L 1 I)) []]:=⟨_,_,fun ps=>vY (zP Gv) Lm rfl (places:=[(0,1),(1,1),(2,1)]) (by simp[zP Ke,zP Hs];decide) ps,rfl,rfl,(by intro i u hu;match i,hu with|0,hu=>cases hu;rfl|1,hu=>cases hu;rfl|2,hu=>cases hu;rfl|_+3,hu=>simp at hu)⟩
instance fld_117_2:qW J0 117 2 2:=⟨_,_,_,Lm,rfl,zP Hs,by decide,rfl⟩
theorem zQm{u:T}(h1:u.single=js)(h2:u.size=1):∃(ds:TypeDesc)(ti:TypeInfo)(fs:Array Field)(f:Field),J0.underlying 37=jq (.struct fs)∧fs[2]? =jq f∧J0.underlying f.type=jq ds∧J0.info? f.type=jq ti∧zGm ds= !u.single∧ti.size=u.size:=⟨_,_,_,_,L6,rfl,H2,zP Kc,by rw[h1];rfl,by rw[h2];rfl⟩
instance fldw_37_2:zZl J0 37 2 js 1:=⟨fun _ h1 h2=>zQm h1 h2⟩
theorem zWi:J0.info? 117=jq Jay:=zP Gv
instance infI_117:zB1 J0 117 Jay:=⟨zWi⟩
instance var_117:jU J0 117 jt 3:=⟨fun u h1 h2=>⟨_,_,Lm,zP Gv,by rw[h1];rfl,by rw[h2];rfl⟩⟩
instance zer_117:zJk J0 117 (T.agg [I 0,I 0,L 1 (L 1 (L 1 I)) []]):=⟨_,_,zP Gv,rfl,rfl,rfl,rfl⟩
instance bld_160:zGH J0 160 [L 1 I [],L 1 I [],L 1 I []]:=⟨_,_,fun ps=>vY (zP Ha) Gk rfl (places:=[(0,1),(1,1),(2,1)]) (by simp[zP Lq];decide) ps,rfl,rfl,(by intro i u hu;match i,hu with|0,hu=>cases hu;rfl|1,hu=>cases hu;rfl|2,hu=>cases hu;rfl|_+3,hu=>simp at hu)⟩
instance elt_157:ElT J0 157 160 Uj 3 (T.agg [L 1 I [],L 1 I [],L 1 I []]):=⟨Hg,zP Ha,⟨_,rfl,rfl⟩,rfl,Nat.le_of_ble_eq_true rfl,rfl,rfl,Nat.le_of_ble_eq_true rfl⟩
theorem zOF:J0.info? 157=jq Jax:=zP Uo
instance infI_157:zB1 J0 157 Jax:=⟨zOF⟩
instance rp_160{a0:jx}{a1:jx}{a2:jx}:Rp (.agg [(L 1 I) a0,(L 1 I) a1,(L 1 I) a2]) zF (zI.mk a0 a1 a2):=⟨rfl⟩
instance(priority:=8) rq_160{t0 t1 t2:T}{a0:jx}{a1:jx}{a2:jx}[h0:Rp t0 (L 1 I) a0][h1:Rp t1 (L 1 I) a1][h2:Rp t2 (L 1 I) a2]:Rp (.agg [t0,t1,t2]) zF (zI.mk a0 a1 a2):=⟨by rw[h0.h,h1.h,h2.h]⟩
instance var_62:jU J0 62 js 1:=⟨fun u h1 h2=>⟨_,_,Tryz.underlying62,zP Gd,by rw[h1];rfl,by rw[h2];rfl⟩⟩
instance var_157:jU J0 157 js 1:=⟨fun u h1 h2=>⟨_,_,Hg,zP Uo,by rw[h1];rfl,by rw[h2];rfl⟩⟩
instance int_197:zJq J0 197 .u32:=⟨Qe⟩
instance int_200:zJq J0 200 .u64:=⟨Qd⟩
instance und_197:zMf J0 197:=⟨_,Qe⟩
instance und_200:zMf J0 200:=⟨_,Qd⟩
instance int_186:zJq J0 186 .u64:=⟨Hu⟩
instance und_3:zMf J0 3:=⟨_,Hd⟩
instance und_186:zMf J0 186:=⟨_,Hu⟩
instance row_157:zBk J0 157 160 Uj 3:=⟨Hg,zP Ha,rfl⟩
instance zer_157:zJk J0 157 (L 3 zF []):=⟨_,_,zP Uo,rfl,rfl,rfl,rfl⟩
instance fld_164_0:qW J0 164 0 0:=⟨_,_,_,He,rfl,zP Gd,by decide,rfl⟩
instance fld_117_0:qW J0 117 0 0:=⟨_,_,_,Lm,rfl,zP Ke,by decide,rfl⟩
instance fld_117_1:qW J0 117 1 1:=⟨_,_,_,Lm,rfl,zP Ke,by decide,rfl⟩
instance fld_37_0:qW J0 37 0 0:=⟨_,_,_,L6,rfl,zP Ke,by decide,rfl⟩
instance fld_37_1:qW J0 37 1 1:=⟨_,_,_,L6,rfl,zP Ke,by decide,rfl⟩
instance fld_164_1:qW J0 164 1 1:=⟨_,_,_,He,rfl,zP Up,by decide,rfl⟩
instance fld_164_2:qW J0 164 2 2:=⟨_,_,_,He,rfl,zP Gu,by decide,rfl⟩
instance row_162:zBk J0 162 37 Uy 3:=⟨Hf,zP Ht,rfl⟩
instance var_120:jU J0 120 js 1:=⟨fun u h1 h2=>⟨_,_,Tryz.underlying120,zP Up,by rw[h1];rfl,by rw[h2];rfl⟩⟩
instance var_162:jU J0 162 js 1:=⟨fun u h1 h2=>⟨_,_,Hf,zP Gu,by rw[h1];rfl,by rw[h2];rfl⟩⟩
instance bld_164:zGH J0 164 [T.lit (.pointer jr),T.lit (.pointer jr),L 3 zS []]:=⟨_,_,fun ps=>vY (zP Tryz.type164) He rfl (places:=[(0,1),(1,1),(2,1)]) (by simp[zP Up,zP Gu,zP Gd];decide) ps,rfl,rfl,(by intro i u hu;match i,hu with|0,hu=>cases hu;rfl|1,hu=>cases hu;rfl|2,hu=>cases hu;rfl|_+3,hu=>simp at hu)⟩
instance elt_162:ElT J0 162 37 Uy 3 (T.agg [I 0,I 0,L 1 (L 1 I) []]):=⟨Hf,zP Ht,⟨_,rfl,rfl⟩,rfl,Nat.le_of_ble_eq_true rfl,rfl,rfl,Nat.le_of_ble_eq_true rfl⟩
instance fld_160_0:qW J0 160 0 0:=⟨_,_,_,Gk,rfl,zP Lq,by decide,rfl⟩
theorem zOG:J0.info? 160=jq Uj:=zP Ha
instance infI_160:zB1 J0 160 Uj:=⟨zOG⟩
theorem zOH:J0.info? 162=jq Jaw:=zP Gu
instance infI_162:zB1 J0 162 Jaw:=⟨zOH⟩
instance mkz_24:MkZ J0 24 (L 1 I) ([]:jx) (L 1 I []):=⟨rfl⟩
instance rp_37{a0:Int}{a1:Int}{a2:jy}:Rp (.agg [I a0,I a1,(L 1 (L 1 I)) a2]) zS (zN.mk a0 a1 a2):=⟨rfl⟩
instance(priority:=8) rq_37{t0 t1 t2:T}{a0:Int}{a1:Int}{a2:jy}[h0:Rp t0 I a0][h1:Rp t1 I a1][h2:Rp t2 (L 1 (L 1 I)) a2]:Rp (.agg [t0,t1,t2]) zS (zN.mk a0 a1 a2):=⟨by rw[h0.h,h1.h,h2.h]⟩
instance sli_157:zEs J0 157 160:=⟨Hg⟩
instance sli_162:zEs J0 162 37:=⟨Hf⟩
instance var_160:jU J0 160 jt 3:=⟨fun u h1 h2=>⟨_,_,Gk,zP Ha,by rw[h1];rfl,by rw[h2];rfl⟩⟩
instance zer_160:zJk J0 160 (T.agg [L 1 I [],L 1 I [],L 1 I []]):=⟨_,_,zP Ha,rfl,rfl,rfl,rfl⟩
instance elt_96:ElT J0 96 3 Qo 1 (I 0):=⟨Gp,zP G1,⟨_,rfl,rfl⟩,rfl,Nat.le_of_ble_eq_true rfl,rfl,rfl,Nat.le_of_ble_eq_true rfl⟩
instance row_96:zBk J0 96 3 Qo 1:=⟨Gp,zP G1,rfl⟩
instance sli_96:zEs J0 96 3:=⟨Gp⟩
instance bld_172:zGH J0 172 [T.lit (.pointer jr),L 1 (Ro (Nz 1 I)) []]:=⟨_,_,fun ps=>vY (zP Tryz.type172) Gj rfl (places:=[(0,1),(1,1)]) (by simp[zP Kc,zP Gd];decide) ps,rfl,rfl,(by intro i u hu;match i,hu with|0,hu=>cases hu;rfl|1,hu=>cases hu;rfl|_+2,hu=>simp at hu)⟩
instance fld_172_0:qW J0 172 0 0:=⟨_,_,_,Gj,rfl,zP Gd,by decide,rfl⟩
instance fld_172_1:qW J0 172 1 1:=⟨_,_,_,Gj,rfl,zP Kc,by decide,rfl⟩
instance mapT_89:zUi J0 89 2 2 Uq:=⟨Tryz.underlying89,Hv,zP Ke,rfl⟩
instance bld_33:zGH J0 33 [I 0,L 1 (L 1 I) []]:=⟨_,_,fun ps=>vY (zP U2) Gt rfl (places:=[(0,1),(1,1)]) (by simp[zP Ke,zP Kc];decide) ps,rfl,rfl,(by intro i u hu;match i,hu with|0,hu=>cases hu;rfl|1,hu=>cases hu;rfl|_+2,hu=>simp at hu)⟩
instance fld_33_1:qW J0 33 1 1:=⟨_,_,_,Gt,rfl,zP Kc,by decide,rfl⟩
theorem zYI:J0.info? 33=jq Jb7:=zP U2
instance infI_33:zB1 J0 33 Jb7:=⟨zYI⟩
instance var_33:jU J0 33 jt 2:=⟨fun u h1 h2=>⟨_,_,Gt,zP U2,by rw[h1];rfl,by rw[h2];rfl⟩⟩
instance zer_33:zJk J0 33 (T.agg [I 0,L 1 (L 1 I) []]):=⟨_,_,zP U2,rfl,rfl,rfl,rfl⟩
instance fld_41_1:qW J0 41 1 1:=⟨_,_,_,Gs,rfl,zP Kc,by decide,rfl⟩
instance fld_41_0:qW J0 41 0 0:=⟨_,_,_,Gs,rfl,zP Ke,by decide,rfl⟩
instance var_41:jU J0 41 jt 2:=⟨fun u h1 h2=>⟨_,_,Gs,zP Tryz.type41,by rw[h1];rfl,by rw[h2];rfl⟩⟩
end Go.Wk
