/- The program's EquivalenceMap returns what the reference's returns,for all arguments;no conditions. -/
import Derived.Test.YtijcbaigdbgofaaGreatAbC
import Derived.Test.YtijcbaigdbgofaaGreatWF
import Derived.Test.YtijcbaigdbgofaaGreatProg
open Go.Proofs.Tryz renaming prog→J0,underlying22→Kk,type23→Ks,type22→Kt,type2→Ky,underlying92→Ll,type33→Ln,underlying2→Lq,underlying3→Lv,underlying160→Lx,underlying133→Ly,underlying48→H3,underlying33→H4,underlying23→H5,type24→Hc,underlying176→Hj,underlying105→Hk,underlying103→Hl,underlying98→Hq,underlying35→Hr,underlying28→Hs,underlying26→Ht,underlying24→Hu,type96→Hv,type92→Hw,type101→G7,type35→Gf,underlying147→Gv,underlying101→Gw,underlying96→Gy,underlying94→Gz,type176→U0,type160→U1,underlying166→U8,type48→Uc,t22→Ul,type133→Uu,type103→Uv,type63→Q4,type62→Q5,t96→Q6,t92→Q7,t23→Q8,type3→Qz,t2→Ja3,t176→Jbz,t160→Jc0,t101→Jc1,t48→Jc6,t35→Jc7,t33→Jc8,t24→Jc9,t3→Jcd
open Option renaming some→dJ,none→dK
open Bool renaming true→dL,false→dM
namespace Go.Wk
open Go Go.Proofs Go.Ab
abbrev lV:=L 1 I
abbrev lM:=L 1 lV
abbrev lC:=L 1 lM
abbrev zBv(x:tH):T:=T.agg [T.agg [T.ro (lV x.jC.zA),T.ro (lM x.jC.zU),T.ro (lC x.jC.zD)],T.agg [T.ro (lV x.kD.zA),T.ro (lM x.kD.zU),T.ro (lC x.kD.zD)],T.ro (lM x.qK)]
abbrev sU(x:zV):T:=T.agg [I x.Prime,I x.xW,T.ro (lM x.Rows)]
abbrev xM(x:zC):T:=T.agg [I x.Prime,I x.Dim,T.ro (lC x.zI)]
abbrev qPr(x:SPr):T:=T.agg [T.ro (lV x.zA),T.ro (lM x.zU),T.ro (lC x.zD)]
abbrev yD(x:zG):T:=T.agg [T.ro (lV x.x),T.ro (lV x.v)]
abbrev yJ(x:zP):T:=T.agg [T.agg [T.ro (lV x.p.zA),T.ro (lM x.p.zU),T.ro (lC x.p.zD)],T.agg [I x.m.Prime,I x.m.Dim,T.ro (lC x.m.zI)],T.ro (lM x.zLu)]
theorem wH:J0.follows .mixedOrders=dL:=rfl
instance:Mix J0:=⟨wH⟩
instance sli_22:zGb J0 22 2:=⟨Kk⟩
instance row_23:zBb J0 23 22 Ul 1:=⟨H5,zM Kt,rfl⟩
instance sli_23:zGb J0 23 22:=⟨H5⟩
instance var_22:qM J0 22 dL 1:=⟨fun u h1 h2=>⟨_,_,Kk,zM Kt,by rw[h1];rfl,by rw[h2];rfl⟩⟩
instance row_24:zBb J0 24 23 Q8 1:=⟨Hu,zM Ks,rfl⟩
instance sli_24:zGb J0 24 23:=⟨Hu⟩
instance var_23:qM J0 23 dL 1:=⟨fun u h1 h2=>⟨_,_,H5,zM Ks,by rw[h1];rfl,by rw[h2];rfl⟩⟩
instance fld_26_0:tN J0 26 0 0:=⟨_,_,_,Ht,rfl,zM Kt,by decide,rfl⟩
instance fld_26_1:tN J0 26 1 1:=⟨_,_,_,Ht,rfl,zM Ks,by decide,rfl⟩
instance fld_26_2:tN J0 26 2 2:=⟨_,_,_,Ht,rfl,zM Hc,by decide,rfl⟩
instance var_24:qM J0 24 dL 1:=⟨fun u h1 h2=>⟨_,_,Hu,zM Hc,by rw[h1];rfl,by rw[h2];rfl⟩⟩
instance fld_28_2:tN J0 28 2 2:=⟨_,_,_,Hs,rfl,zM Hc,by decide,rfl⟩
instance elt_22:ElT J0 22 2 Ja3 1 (I 0):=⟨Kk,zM Ky,⟨_,rfl,rfl⟩,rfl,Nat.le_of_ble_eq_true rfl,rfl,rfl,Nat.le_of_ble_eq_true rfl⟩
theorem zFc:J0.info? 2=dJ Ja3:=zM Ky
instance infI_2:zDB J0 2 Ja3:=⟨zFc⟩
instance mkz_22:MkZ J0 22 I 0 (I 0):=⟨rfl⟩
instance row_22:zBb J0 22 2 Ja3 1:=⟨Kk,zM Ky,rfl⟩
instance var_2:qM J0 2 dL 1:=⟨fun u h1 h2=>⟨_,_,Lq,zM Ky,by rw[h1];rfl,by rw[h2];rfl⟩⟩
instance elt_23:ElT J0 23 22 Ul 1 (L 1 I []):=⟨H5,zM Kt,⟨_,rfl,rfl⟩,rfl,Nat.le_of_ble_eq_true rfl,rfl,rfl,Nat.le_of_ble_eq_true rfl⟩
theorem zHa:J0.info? 22=dJ Ul:=zM Kt
instance infI_22:zDB J0 22 Ul:=⟨zHa⟩
instance mkz_23:MkZ J0 23 (L 1 I) ([]:dQ) (L 1 I []):=⟨rfl⟩
instance elt_24:ElT J0 24 23 Q8 1 (L 1 (L 1 I) []):=⟨Hu,zM Ks,⟨_,rfl,rfl⟩,rfl,Nat.le_of_ble_eq_true rfl,rfl,rfl,Nat.le_of_ble_eq_true rfl⟩
theorem zW8:J0.info? 23=dJ Q8:=zM Ks
instance infI_23:zDB J0 23 Q8:=⟨zW8⟩
instance mkz_24:MkZ J0 24 (L 1 (L 1 I)) ([]:dR) (L 1 (L 1 I) []):=⟨rfl⟩
instance fld_33_0:tN J0 33 0 0:=⟨_,_,_,H4,rfl,zM Kt,by decide,rfl⟩
instance fld_33_1:tN J0 33 1 1:=⟨_,_,_,H4,rfl,zM Ks,by decide,rfl⟩
instance fld_33_2:tN J0 33 2 2:=⟨_,_,_,H4,rfl,zM Hc,by decide,rfl⟩
theorem zW9:J0.info? 24=dJ Jc9:=zM Hc
instance infI_24:zDB J0 24 Jc9:=⟨zW9⟩
theorem zED:J0.info? 33=dJ Jc8:=zM Ln
instance infI_33:zDB J0 33 Jc8:=⟨zED⟩
instance var_33:qM J0 33 dM 3:=⟨fun u h1 h2=>⟨_,_,H4,zM Ln,by rw[h1];rfl,by rw[h2];rfl⟩⟩
instance zer_33:zFV J0 33 (T.agg [L 1 I [],L 1 (L 1 I) [],L 1 (L 1 (L 1 I)) []]):=⟨_,_,zM Ln,rfl,rfl,rfl,rfl⟩
instance fld_28_0:tN J0 28 0 0:=⟨_,_,_,Hs,rfl,zM Ky,by decide,rfl⟩
instance fld_28_1:tN J0 28 1 1:=⟨_,_,_,Hs,rfl,zM Ky,by decide,rfl⟩
instance fld_35_0:tN J0 35 0 0:=⟨_,_,_,Hr,rfl,zM Ky,by decide,rfl⟩
instance fld_35_1:tN J0 35 1 1:=⟨_,_,_,Hr,rfl,zM Ky,by decide,rfl⟩
instance fld_35_2:tN J0 35 2 2:=⟨_,_,_,Hr,rfl,zM Hc,by decide,rfl⟩
theorem zSQ:J0.info? 35=dJ Jc7:=zM Gf
instance infI_35:zDB J0 35 Jc7:=⟨zSQ⟩
instance var_35:qM J0 35 dM 3:=⟨fun u h1 h2=>⟨_,_,Hr,zM Gf,by rw[h1];rfl,by rw[h2];rfl⟩⟩
instance zer_35:zFV J0 35 (T.agg [I 0,I 0,L 1 (L 1 (L 1 I)) []]):=⟨_,_,zM Gf,rfl,rfl,rfl,rfl⟩
instance bld_160:zGa J0 160 [I 0,I 0,I 0,I 0]:=⟨_,_,fun ps=>vX (zM U1) Lx rfl (places:=[(0,1),(1,1),(2,1),(3,1)]) (by simp[zM Ky];decide) ps,rfl,rfl,(by intro i u hu;match i,hu with|0,hu=>cases hu;rfl|1,hu=>cases hu;rfl|2,hu=>cases hu;rfl|3,hu=>cases hu;rfl|_+4,hu=>simp at hu)⟩
theorem zUz:J0.info? 160=dJ Jc0:=zM U1
instance infI_160:zDB J0 160 Jc0:=⟨zUz⟩
instance var_160:qM J0 160 dM 4:=⟨fun u h1 h2=>⟨_,_,Lx,zM U1,by rw[h1];rfl,by rw[h2];rfl⟩⟩
instance zer_160:zFV J0 160 (T.agg [I 0,I 0,I 0,I 0]):=⟨_,_,zM U1,rfl,rfl,rfl,rfl⟩
instance fld_160_0:tN J0 160 0 0:=⟨_,_,_,Lx,rfl,zM Ky,by decide,rfl⟩
theorem zMM{u:T}(h1:u.single=dL)(h2:u.size=1):∃(ds:TypeDesc)(ti:TypeInfo)(fs:Array Field)(f:Field),J0.underlying 160=dJ (.struct fs)∧fs[0]? =dJ f∧J0.underlying f.type=dJ ds∧J0.info? f.type=dJ ti∧zEa ds= !u.single∧ti.size=u.size:=⟨_,_,_,_,Lx,rfl,Lq,zM Ky,by rw[h1];rfl,by rw[h2];rfl⟩
instance fldw_160_0:zV9 J0 160 0 dL 1:=⟨fun _ h1 h2=>zMM h1 h2⟩
instance bld_176:zGa J0 176 [L 1 I [],L 1 I []]:=⟨_,_,fun ps=>vX (zM U0) Hj rfl (places:=[(0,1),(1,1)]) (by simp[zM Kt];decide) ps,rfl,rfl,(by intro i u hu;match i,hu with|0,hu=>cases hu;rfl|1,hu=>cases hu;rfl|_+2,hu=>simp at hu)⟩
instance fld_133_0:tN J0 133 0 0:=⟨_,_,_,Ly,rfl,zM Ln,by decide,rfl⟩
instance fld_133_2:tN J0 133 2 6:=⟨_,_,_,Ly,rfl,zM Ks,by decide,rfl⟩
theorem vS:J0.info? 176=dJ Jbz:=zM U0
instance infI_176:zDB J0 176 Jbz:=⟨vS⟩
instance var_176:qM J0 176 dM 2:=⟨fun u h1 h2=>⟨_,_,Hj,zM U0,by rw[h1];rfl,by rw[h2];rfl⟩⟩
instance zer_176:zFV J0 176 (T.agg [L 1 I [],L 1 I []]):=⟨_,_,zM U0,rfl,rfl,rfl,rfl⟩
instance fld_133_1:tN J0 133 1 3:=⟨_,_,_,Ly,rfl,zM Gf,by decide,rfl⟩
instance fld_176_0:tN J0 176 0 0:=⟨_,_,_,Hj,rfl,zM Kt,by decide,rfl⟩
instance fld_176_1:tN J0 176 1 1:=⟨_,_,_,Hj,rfl,zM Kt,by decide,rfl⟩
instance var_133:qM J0 133 dM 7:=⟨fun u h1 h2=>⟨_,_,Ly,zM Uu,by rw[h1];rfl,by rw[h2];rfl⟩⟩
instance bld_133:zGa J0 133 [T.agg [L 1 I [],L 1 (L 1 I) [],L 1 (L 1 (L 1 I)) []],T.agg [I 0,I 0,L 1 (L 1 (L 1 I)) []],L 1 (L 1 I) []]:=⟨_,_,fun ps=>vX (zM Uu) Ly rfl (places:=[(0,3),(3,3),(6,1)]) (by simp[zM Ks,zM Ln,zM Gf];decide) ps,rfl,rfl,(by intro i u hu;match i,hu with|0,hu=>cases hu;rfl|1,hu=>cases hu;rfl|2,hu=>cases hu;rfl|_+3,hu=>simp at hu)⟩
instance zer_133:zFV J0 133 (T.agg [T.agg [L 1 I [],L 1 (L 1 I) [],L 1 (L 1 (L 1 I)) []],T.agg [I 0,I 0,L 1 (L 1 (L 1 I)) []],L 1 (L 1 I) []]):=⟨_,_,zM Uu,rfl,rfl,rfl,rfl⟩
instance eqs_160:zTl J0 160:=⟨⟨_,_,_,_,Lx,⟨by decide,rfl,Lq⟩,⟨by decide,rfl,Lq⟩,⟨by decide,rfl,Lq⟩,⟨by decide,rfl,Lq⟩⟩,Tryz.stoodInHeld160,Tryz.eqGuardType160⟩
instance bld_92:zGa J0 92 [I 0,I 0,L 1 (L 1 I) []]:=⟨_,_,fun ps=>vX (zM Hw) Ll rfl (places:=[(0,1),(1,1),(2,1)]) (by simp[zM Ky,zM Ks];decide) ps,rfl,rfl,(by intro i u hu;match i,hu with|0,hu=>cases hu;rfl|1,hu=>cases hu;rfl|2,hu=>cases hu;rfl|_+3,hu=>simp at hu)⟩
theorem zWA:J0.info? 92=dJ Q7:=zM Hw
instance infI_92:zDB J0 92 Q7:=⟨zWA⟩
instance var_92:qM J0 92 dM 3:=⟨fun u h1 h2=>⟨_,_,Ll,zM Hw,by rw[h1];rfl,by rw[h2];rfl⟩⟩
instance zer_92:zFV J0 92 (T.agg [I 0,I 0,L 1 (L 1 I) []]):=⟨_,_,zM Hw,rfl,rfl,rfl,rfl⟩
instance fld_92_0:tN J0 92 0 0:=⟨_,_,_,Ll,rfl,zM Ky,by decide,rfl⟩
instance fld_92_1:tN J0 92 1 1:=⟨_,_,_,Ll,rfl,zM Ky,by decide,rfl⟩
instance fld_92_2:tN J0 92 2 2:=⟨_,_,_,Ll,rfl,zM Ks,by decide,rfl⟩
instance int_186:zQ1 J0 186 .u32:=⟨Tryz.underlying186⟩
instance int_189:zQ1 J0 189 .u64:=⟨Tryz.underlying189⟩
instance int_3:zQ1 J0 3 .i64:=⟨Lv⟩
instance int_166:zQ1 J0 166 .u64:=⟨U8⟩
instance bld_96:zGa J0 96 [L 1 I [],L 1 I []]:=⟨_,_,fun ps=>zJ2 (zM Hv) Gy rfl (zM Kt) ps,rfl,rfl,(by intro i u hu;match i,hu with|0,hu=>cases hu;rfl|1,hu=>cases hu;rfl|_+2,hu=>simp at hu)⟩
instance elt_94:ElT J0 94 96 Q6 2 (T.agg [L 1 I ((([]:dQ),([]:dQ)).1),L 1 I ((([]:dQ),([]:dQ)).2)]):=⟨Gz,zM Hv,⟨_,rfl,rfl⟩,rfl,Nat.le_of_ble_eq_true rfl,rfl,rfl,Nat.le_of_ble_eq_true rfl⟩
instance row_94:zBb J0 94 96 Q6 2:=⟨Gz,zM Hv,rfl⟩
instance arr_96:zTm J0 96 22 Ul 2 1:=⟨Gy,zM Kt,rfl⟩
theorem zEE{u:T}(h1:u.single=dL)(h2:u.size=1):∃(ds:TypeDesc)(ti:TypeInfo)(fs:Array Field)(f:Field),J0.underlying 92=dJ (.struct fs)∧fs[2]? =dJ f∧J0.underlying f.type=dJ ds∧J0.info? f.type=dJ ti∧zEa ds= !u.single∧ti.size=u.size:=⟨_,_,_,_,Ll,rfl,H5,zM Ks,by rw[h1];rfl,by rw[h2];rfl⟩
instance fldw_92_2:zV9 J0 92 2 dL 1:=⟨fun _ h1 h2=>zEE h1 h2⟩
theorem zSR:J0.info? 96=dJ Q6:=zM Hv
instance infI_96:zDB J0 96 Q6:=⟨zSR⟩
instance sli_94:zGb J0 94 96:=⟨Gz⟩
instance var_96:qM J0 96 dM 2:=⟨fun u h1 h2=>⟨_,_,Gy,zM Hv,by rw[h1];rfl,by rw[h2];rfl⟩⟩
instance zer_96:zFV J0 96 (T.agg [L 1 I ((([]:dQ),([]:dQ)).1),L 1 I ((([]:dQ),([]:dQ)).2)]):=⟨_,_,zM Hv,rfl,rfl,rfl,rfl⟩
instance bld_101:zGa J0 101 [L 1 I [],L 1 I [],L 1 I []]:=⟨_,_,fun ps=>vX (zM G7) Gw rfl (places:=[(0,1),(1,1),(2,1)]) (by simp[zM Kt];decide) ps,rfl,rfl,(by intro i u hu;match i,hu with|0,hu=>cases hu;rfl|1,hu=>cases hu;rfl|2,hu=>cases hu;rfl|_+3,hu=>simp at hu)⟩
instance elt_98:ElT J0 98 101 Jc1 3 (T.agg [L 1 I [],L 1 I [],L 1 I []]):=⟨Hq,zM G7,⟨_,rfl,rfl⟩,rfl,Nat.le_of_ble_eq_true rfl,rfl,rfl,Nat.le_of_ble_eq_true rfl⟩
instance var_62:qM J0 62 dL 1:=⟨fun u h1 h2=>⟨_,_,Tryz.underlying62,zM Q5,by rw[h1];rfl,by rw[h2];rfl⟩⟩
instance var_98:qM J0 98 dL 1:=⟨fun u h1 h2=>⟨_,_,Hq,zM Tryz.type98,by rw[h1];rfl,by rw[h2];rfl⟩⟩
instance row_98:zBb J0 98 101 Jc1 3:=⟨Hq,zM G7,rfl⟩
instance fld_105_0:tN J0 105 0 0:=⟨_,_,_,Hk,rfl,zM Q5,by decide,rfl⟩
instance fld_105_1:tN J0 105 1 1:=⟨_,_,_,Hk,rfl,zM Q4,by decide,rfl⟩
instance fld_105_2:tN J0 105 2 2:=⟨_,_,_,Hk,rfl,zM Uv,by decide,rfl⟩
instance row_103:zBb J0 103 92 Q7 3:=⟨Hl,zM Hw,rfl⟩
instance var_63:qM J0 63 dL 1:=⟨fun u h1 h2=>⟨_,_,Tryz.underlying63,zM Q4,by rw[h1];rfl,by rw[h2];rfl⟩⟩
instance var_103:qM J0 103 dL 1:=⟨fun u h1 h2=>⟨_,_,Hl,zM Uv,by rw[h1];rfl,by rw[h2];rfl⟩⟩
instance bld_105:zGa J0 105 [T.lit (.pointer dK),T.lit (.pointer dK),L 3 zAg []]:=⟨_,_,fun ps=>vX (zM Tryz.type105) Hk rfl (places:=[(0,1),(1,1),(2,1)]) (by simp[zM Uv,zM Q5,zM Q4];decide) ps,rfl,rfl,(by intro i u hu;match i,hu with|0,hu=>cases hu;rfl|1,hu=>cases hu;rfl|2,hu=>cases hu;rfl|_+3,hu=>simp at hu)⟩
instance elt_103:ElT J0 103 92 Q7 3 (T.agg [I 0,I 0,L 1 (L 1 I) []]):=⟨Hl,zM Hw,⟨_,rfl,rfl⟩,rfl,Nat.le_of_ble_eq_true rfl,rfl,rfl,Nat.le_of_ble_eq_true rfl⟩
instance fld_101_0:tN J0 101 0 0:=⟨_,_,_,Gw,rfl,zM Kt,by decide,rfl⟩
instance rp_92{a0:Int}{a1:Int}{a2:dR}:Rp (.agg [I a0,I a1,(L 1 (L 1 I)) a2]) zAg (zV.mk a0 a1 a2):=⟨rfl⟩
instance sli_98:zGb J0 98 101:=⟨Hq⟩
instance sli_103:zGb J0 103 92:=⟨Hl⟩
instance var_101:qM J0 101 dM 3:=⟨fun u h1 h2=>⟨_,_,Gw,zM G7,by rw[h1];rfl,by rw[h2];rfl⟩⟩
instance zer_101:zFV J0 101 (T.agg [L 1 I [],L 1 I [],L 1 I []]):=⟨_,_,zM G7,rfl,rfl,rfl,rfl⟩
instance var_26:qM J0 26 dM 3:=⟨fun u h1 h2=>⟨_,_,Ht,zM Tryz.type26,by rw[h1];rfl,by rw[h2];rfl⟩⟩
instance var_28:qM J0 28 dM 3:=⟨fun u h1 h2=>⟨_,_,Hs,zM Tryz.type28,by rw[h1];rfl,by rw[h2];rfl⟩⟩
instance elt_147:ElT J0 147 3 Jcd 1 (I 0):=⟨Gv,zM Qz,⟨_,rfl,rfl⟩,rfl,Nat.le_of_ble_eq_true rfl,rfl,rfl,Nat.le_of_ble_eq_true rfl⟩
instance row_147:zBb J0 147 3 Jcd 1:=⟨Gv,zM Qz,rfl⟩
instance sli_147:zGb J0 147 3:=⟨Gv⟩
instance var_3:qM J0 3 dL 1:=⟨fun u h1 h2=>⟨_,_,Lv,zM Qz,by rw[h1];rfl,by rw[h2];rfl⟩⟩
instance bld_33:zGa J0 33 [L 1 I [],L 1 (L 1 I) [],L 1 (L 1 (L 1 I)) []]:=⟨_,_,fun ps=>vX (zM Ln) H4 rfl (places:=[(0,1),(1,1),(2,1)]) (by simp[zM Kt,zM Ks,zM Hc];decide) ps,rfl,rfl,(by intro i u hu;match i,hu with|0,hu=>cases hu;rfl|1,hu=>cases hu;rfl|2,hu=>cases hu;rfl|_+3,hu=>simp at hu)⟩
instance bld_48:zGa J0 48 [T.agg [L 1 I [],L 1 (L 1 I) [],L 1 (L 1 (L 1 I)) []],T.agg [L 1 I [],L 1 (L 1 I) [],L 1 (L 1 (L 1 I)) []],L 1 (L 1 I) []]:=⟨_,_,fun ps=>vX (zM Uc) H3 rfl (places:=[(0,3),(3,3),(6,1)]) (by simp[zM Ks,zM Ln];decide) ps,rfl,rfl,(by intro i u hu;match i,hu with|0,hu=>cases hu;rfl|1,hu=>cases hu;rfl|2,hu=>cases hu;rfl|_+3,hu=>simp at hu)⟩
theorem kC:J0.info? 48=dJ Jc6:=zM Uc
instance infI_48:zDB J0 48 Jc6:=⟨kC⟩
instance var_48:qM J0 48 dM 7:=⟨fun u h1 h2=>⟨_,_,H3,zM Uc,by rw[h1];rfl,by rw[h2];rfl⟩⟩
instance zer_48:zFV J0 48 (T.agg [T.agg [L 1 I [],L 1 (L 1 I) [],L 1 (L 1 (L 1 I)) []],T.agg [L 1 I [],L 1 (L 1 I) [],L 1 (L 1 (L 1 I)) []],L 1 (L 1 I) []]):=⟨_,_,zM Uc,rfl,rfl,rfl,rfl⟩
instance fld_48_0:tN J0 48 0 0:=⟨_,_,_,H3,rfl,zM Ln,by decide,rfl⟩
instance fld_48_1:tN J0 48 1 3:=⟨_,_,_,H3,rfl,zM Ln,by decide,rfl⟩
instance fld_48_2:tN J0 48 2 6:=⟨_,_,_,H3,rfl,zM Ks,by decide,rfl⟩
end Go.Wk
