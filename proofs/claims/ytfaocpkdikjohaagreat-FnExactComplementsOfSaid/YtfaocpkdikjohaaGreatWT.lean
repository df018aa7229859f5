/- The program's ComplementsOf returns what the reference's returns,for all arguments;no conditions. -/
import Derived.Test.YtfaocpkdikjohaaGreatAbC
import Derived.Test.YtfaocpkdikjohaaGreatWF
import Derived.Test.YtfaocpkdikjohaaGreatProg
open Go.Proofs.Tryz renaming prog→J0,underlying22→L6,type2→L7,type22→Lh,type23→Ln,underlying35→He,underlying2→Hh,underlying3→Hl,underlying173→Hn,underlying151→Ho,type24→Hr,underlying52→Ht,underlying33→Hu,underlying23→Hv,type179→Gb,underlying215→Ge,underlying161→Gf,underlying159→Gg,underlying154→Gi,underlying48→Gm,underlying28→Gp,underlying26→Gs,underlying24→Gt,type52→Gu,type35→Gv,type33→Gw,type157→U1,underlying179→Uj,underlying177→Uk,underlying157→Ul,underlying146→Um,type215→Uq,type151→Ur,underlying194→Uz,t22→Qa,t179→Qh,type173→Qq,type159→Qr,type99→Ja2,type82→Ja3,t35→Ja4,t23→Ja5,type3→Jak,t2→Jao,t215→Jce,t157→Jcf,t151→Jcg,t52→Jcl,t33→Jcm,t24→Jcn,t3→Jcv
namespace Go.Wk
open Go Go.Proofs Go.Ab
abbrev lV:=L 1 I
abbrev lM:=L 1 lV
abbrev lC:=L 1 lM
abbrev sN(x:zU):T:=T.agg [I x.Prime,I x.xW,T.ro (lM x.Rows)]
abbrev wH(x:zC):T:=T.agg [I x.Prime,I x.Dim,T.ro (lC x.zI)]
abbrev qPr(x:SPr):T:=T.agg [T.ro (lV x.zA),T.ro (lM x.zT),T.ro (lC x.zB)]
abbrev yD(x:zG):T:=T.agg [T.ro (lV x.x),T.ro (lV x.v)]
abbrev yH(x:zP):T:=T.agg [T.agg [T.ro (lV x.p.zA),T.ro (lM x.p.zT),T.ro (lC x.p.zB)],T.agg [I x.m.Prime,I x.m.Dim,T.ro (lC x.m.zI)],T.ro (lM x.zLt)]
theorem xY:J0.follows .mixedOrders=true:=rfl
instance:Mix J0:=⟨xY⟩
instance sli_22:zGn J0 22 2:=⟨L6⟩
instance row_23:zBf J0 23 22 Qa 1:=⟨Hv,zK Lh,rfl⟩
instance sli_23:zGn J0 23 22:=⟨Hv⟩
instance var_22:qR J0 22 true 1:=⟨fun u h1 h2=>⟨_,_,L6,zK Lh,by rw[h1];rfl,by rw[h2];rfl⟩⟩
instance row_24:zBf J0 24 23 Ja5 1:=⟨Gt,zK Ln,rfl⟩
instance sli_24:zGn J0 24 23:=⟨Gt⟩
instance var_23:qR J0 23 true 1:=⟨fun u h1 h2=>⟨_,_,Hv,zK Ln,by rw[h1];rfl,by rw[h2];rfl⟩⟩
instance fld_26_0:tI J0 26 0 0:=⟨_,_,_,Gs,rfl,zK Lh,by decide,rfl⟩
instance fld_26_1:tI J0 26 1 1:=⟨_,_,_,Gs,rfl,zK Ln,by decide,rfl⟩
instance fld_26_2:tI J0 26 2 2:=⟨_,_,_,Gs,rfl,zK Hr,by decide,rfl⟩
instance var_24:qR J0 24 true 1:=⟨fun u h1 h2=>⟨_,_,Gt,zK Hr,by rw[h1];rfl,by rw[h2];rfl⟩⟩
instance fld_28_2:tI J0 28 2 2:=⟨_,_,_,Gp,rfl,zK Ln,by decide,rfl⟩
instance elt_22:ElT J0 22 2 Jao 1 (I 0):=⟨L6,zK L7,⟨_,rfl,rfl⟩,rfl,Nat.le_of_ble_eq_true rfl,rfl,rfl,Nat.le_of_ble_eq_true rfl⟩
theorem zEg:J0.info? 2=some Jao:=zK L7
instance infI_2:zE4 J0 2 Jao:=⟨zEg⟩
instance mkz_22:MkZ J0 22 I 0 (I 0):=⟨rfl⟩
instance row_22:zBf J0 22 2 Jao 1:=⟨L6,zK L7,rfl⟩
instance var_2:qR J0 2 true 1:=⟨fun u h1 h2=>⟨_,_,Hh,zK L7,by rw[h1];rfl,by rw[h2];rfl⟩⟩
instance elt_23:ElT J0 23 22 Qa 1 (L 1 I []):=⟨Hv,zK Lh,⟨_,rfl,rfl⟩,rfl,Nat.le_of_ble_eq_true rfl,rfl,rfl,Nat.le_of_ble_eq_true rfl⟩
theorem zCn:J0.info? 22=some Qa:=zK Lh
instance infI_22:zE4 J0 22 Qa:=⟨zCn⟩
instance mkz_23:MkZ J0 23 (L 1 I) ([]:List Int) (L 1 I []):=⟨rfl⟩
instance elt_24:ElT J0 24 23 Ja5 1 (L 1 (L 1 I) []):=⟨Gt,zK Ln,⟨_,rfl,rfl⟩,rfl,Nat.le_of_ble_eq_true rfl,rfl,rfl,Nat.le_of_ble_eq_true rfl⟩
theorem zMJ:J0.info? 23=some Ja5:=zK Ln
instance infI_23:zE4 J0 23 Ja5:=⟨zMJ⟩
instance mkz_24:MkZ J0 24 (L 1 (L 1 I)) ([]:List (List Int)) (L 1 (L 1 I) []):=⟨rfl⟩
instance fld_33_0:tI J0 33 0 0:=⟨_,_,_,Hu,rfl,zK Lh,by decide,rfl⟩
instance fld_33_1:tI J0 33 1 1:=⟨_,_,_,Hu,rfl,zK Ln,by decide,rfl⟩
instance fld_33_2:tI J0 33 2 2:=⟨_,_,_,Hu,rfl,zK Hr,by decide,rfl⟩
theorem zTe:J0.info? 24=some Jcn:=zK Hr
instance infI_24:zE4 J0 24 Jcn:=⟨zTe⟩
theorem zHc:J0.info? 33=some Jcm:=zK Gw
instance infI_33:zE4 J0 33 Jcm:=⟨zHc⟩
instance var_33:qR J0 33 false 3:=⟨fun u h1 h2=>⟨_,_,Hu,zK Gw,by rw[h1];rfl,by rw[h2];rfl⟩⟩
instance zer_33:zHh J0 33 (T.agg [L 1 I [],L 1 (L 1 I) [],L 1 (L 1 (L 1 I)) []]):=⟨_,_,zK Gw,rfl,rfl,rfl,rfl⟩
instance fld_28_0:tI J0 28 0 0:=⟨_,_,_,Gp,rfl,zK L7,by decide,rfl⟩
instance fld_28_1:tI J0 28 1 1:=⟨_,_,_,Gp,rfl,zK L7,by decide,rfl⟩
instance fld_35_0:tI J0 35 0 0:=⟨_,_,_,He,rfl,zK L7,by decide,rfl⟩
instance fld_35_1:tI J0 35 1 1:=⟨_,_,_,He,rfl,zK L7,by decide,rfl⟩
instance fld_35_2:tI J0 35 2 2:=⟨_,_,_,He,rfl,zK Ln,by decide,rfl⟩
theorem zMK:J0.info? 35=some Ja4:=zK Gv
instance infI_35:zE4 J0 35 Ja4:=⟨zMK⟩
instance var_35:qR J0 35 false 3:=⟨fun u h1 h2=>⟨_,_,He,zK Gv,by rw[h1];rfl,by rw[h2];rfl⟩⟩
instance zer_35:zHh J0 35 (T.agg [I 0,I 0,L 1 (L 1 I) []]):=⟨_,_,zK Gv,rfl,rfl,rfl,rfl⟩
instance bld_151:zGm J0 151 [I 0,I 0,I 0,I 0]:=⟨_,_,fun ps=>vU (zK Ur) Ho rfl (places:=[(0,1),(1,1),(2,1),(3,1)]) (by simp[zK L7];decide) ps,rfl,rfl,(by intro i u hu;match i,hu with|0,hu=>cases hu;rfl|1,hu=>cases hu;rfl|2,hu=>cases hu;rfl|3,hu=>cases hu;rfl|_+4,hu=>simp at hu)⟩
theorem zUD:J0.info? 151=some Jcg:=zK Ur
instance infI_151:zE4 J0 151 Jcg:=⟨zUD⟩
instance var_151:qR J0 151 false 4:=⟨fun u h1 h2=>⟨_,_,Ho,zK Ur,by rw[h1];rfl,by rw[h2];rfl⟩⟩
instance zer_151:zHh J0 151 (T.agg [I 0,I 0,I 0,I 0]):=⟨_,_,zK Ur,rfl,rfl,rfl,rfl⟩
instance fld_151_0:tI J0 151 0 0:=⟨_,_,_,Ho,rfl,zK L7,by decide,rfl⟩
theorem zML{u:T}(h1:u.single=true)(h2:u.size=1):∃(ds:TypeDesc)(ti:TypeInfo)(fs:Array Field)(f:Field),J0.underlying 151=some (.struct fs)∧fs[0]? =some f∧J0.underlying f.type=some ds∧J0.info? f.type=some ti∧zEh ds= !u.single∧ti.size=u.size:=⟨_,_,_,_,Ho,rfl,Hh,zK L7,by rw[h1];rfl,by rw[h2];rfl⟩
instance fldw_151_0:zVI J0 151 0 true 1:=⟨fun _ h1 h2=>zML h1 h2⟩
instance bld_52:zGm J0 52 [I 0,I 0,L 1 (L 1 (L 1 I)) []]:=⟨_,_,fun ps=>vU (zK Gu) Ht rfl (places:=[(0,1),(1,1),(2,1)]) (by simp[zK L7,zK Hr];decide) ps,rfl,rfl,(by intro i u hu;match i,hu with|0,hu=>cases hu;rfl|1,hu=>cases hu;rfl|2,hu=>cases hu;rfl|_+3,hu=>simp at hu)⟩
instance fld_52_2:tI J0 52 2 2:=⟨_,_,_,Ht,rfl,zK Hr,by decide,rfl⟩
theorem zWH:J0.info? 52=some Jcl:=zK Gu
instance infI_52:zE4 J0 52 Jcl:=⟨zWH⟩
instance var_52:qR J0 52 false 3:=⟨fun u h1 h2=>⟨_,_,Ht,zK Gu,by rw[h1];rfl,by rw[h2];rfl⟩⟩
instance zer_52:zHh J0 52 (T.agg [I 0,I 0,L 1 (L 1 (L 1 I)) []]):=⟨_,_,zK Gu,rfl,rfl,rfl,rfl⟩
instance fld_52_0:tI J0 52 0 0:=⟨_,_,_,Ht,rfl,zK L7,by decide,rfl⟩
instance fld_52_1:tI J0 52 1 1:=⟨_,_,_,Ht,rfl,zK L7,by decide,rfl⟩
instance bld_215:zGm J0 215 [L 1 I [],L 1 I []]:=⟨_,_,fun ps=>vU (zK Uq) Ge rfl (places:=[(0,1),(1,1)]) (by simp[zK Lh];decide) ps,rfl,rfl,(by intro i u hu;match i,hu with|0,hu=>cases hu;rfl|1,hu=>cases hu;rfl|_+2,hu=>simp at hu)⟩
instance fld_173_0:tI J0 173 0 0:=⟨_,_,_,Hn,rfl,zK Gw,by decide,rfl⟩
instance fld_173_2:tI J0 173 2 6:=⟨_,_,_,Hn,rfl,zK Ln,by decide,rfl⟩
theorem vP:J0.info? 215=some Jce:=zK Uq
instance infI_215:zE4 J0 215 Jce:=⟨vP⟩
instance var_215:qR J0 215 false 2:=⟨fun u h1 h2=>⟨_,_,Ge,zK Uq,by rw[h1];rfl,by rw[h2];rfl⟩⟩
instance zer_215:zHh J0 215 (T.agg [L 1 I [],L 1 I []]):=⟨_,_,zK Uq,rfl,rfl,rfl,rfl⟩
instance fld_173_1:tI J0 173 1 3:=⟨_,_,_,Hn,rfl,zK Gu,by decide,rfl⟩
instance fld_215_0:tI J0 215 0 0:=⟨_,_,_,Ge,rfl,zK Lh,by decide,rfl⟩
instance fld_215_1:tI J0 215 1 1:=⟨_,_,_,Ge,rfl,zK Lh,by decide,rfl⟩
instance var_173:qR J0 173 false 7:=⟨fun u h1 h2=>⟨_,_,Hn,zK Qq,by rw[h1];rfl,by rw[h2];rfl⟩⟩
instance bld_173:zGm J0 173 [T.agg [L 1 I [],L 1 (L 1 I) [],L 1 (L 1 (L 1 I)) []],T.agg [I 0,I 0,L 1 (L 1 (L 1 I)) []],L 1 (L 1 I) []]:=⟨_,_,fun ps=>vU (zK Qq) Hn rfl (places:=[(0,3),(3,3),(6,1)]) (by simp[zK Ln,zK Gw,zK Gu];decide) ps,rfl,rfl,(by intro i u hu;match i,hu with|0,hu=>cases hu;rfl|1,hu=>cases hu;rfl|2,hu=>cases hu;rfl|_+3,hu=>simp at hu)⟩
instance zer_173:zHh J0 173 (T.agg [T.agg [L 1 I [],L 1 (L 1 I) [],L 1 (L 1 (L 1 I)) []],T.agg [I 0,I 0,L 1 (L 1 (L 1 I)) []],L 1 (L 1 I) []]):=⟨_,_,zK Qq,rfl,rfl,rfl,rfl⟩
instance eqs_151:zTy J0 151:=⟨⟨_,_,_,_,Ho,⟨by decide,rfl,Hh⟩,⟨by decide,rfl,Hh⟩,⟨by decide,rfl,Hh⟩,⟨by decide,rfl,Hh⟩⟩,Tryz.stoodInHeld151,Tryz.eqGuardType151⟩
instance bld_35:zGm J0 35 [I 0,I 0,L 1 (L 1 I) []]:=⟨_,_,fun ps=>vU (zK Gv) He rfl (places:=[(0,1),(1,1),(2,1)]) (by simp[zK L7,zK Ln];decide) ps,rfl,rfl,(by intro i u hu;match i,hu with|0,hu=>cases hu;rfl|1,hu=>cases hu;rfl|2,hu=>cases hu;rfl|_+3,hu=>simp at hu)⟩
theorem zER{u:T}(h1:u.single=true)(h2:u.size=1):∃(ds:TypeDesc)(ti:TypeInfo)(fs:Array Field)(f:Field),J0.underlying 35=some (.struct fs)∧fs[2]? =some f∧J0.underlying f.type=some ds∧J0.info? f.type=some ti∧zEh ds= !u.single∧ti.size=u.size:=⟨_,_,_,_,He,rfl,Hv,zK Ln,by rw[h1];rfl,by rw[h2];rfl⟩
instance fldw_35_2:zVI J0 35 2 true 1:=⟨fun _ h1 h2=>zER h1 h2⟩
instance int_3:zQ6 J0 3 .i64:=⟨Hl⟩
instance bld_157:zGm J0 157 [L 1 I [],L 1 I [],L 1 I []]:=⟨_,_,fun ps=>vU (zK U1) Ul rfl (places:=[(0,1),(1,1),(2,1)]) (by simp[zK Lh];decide) ps,rfl,rfl,(by intro i u hu;match i,hu with|0,hu=>cases hu;rfl|1,hu=>cases hu;rfl|2,hu=>cases hu;rfl|_+3,hu=>simp at hu)⟩
instance elt_154:ElT J0 154 157 Jcf 3 (T.agg [L 1 I [],L 1 I [],L 1 I []]):=⟨Gi,zK U1,⟨_,rfl,rfl⟩,rfl,Nat.le_of_ble_eq_true rfl,rfl,rfl,Nat.le_of_ble_eq_true rfl⟩
instance var_82:qR J0 82 true 1:=⟨fun u h1 h2=>⟨_,_,Tryz.underlying82,zK Ja3,by rw[h1];rfl,by rw[h2];rfl⟩⟩
instance var_154:qR J0 154 true 1:=⟨fun u h1 h2=>⟨_,_,Gi,zK Tryz.type154,by rw[h1];rfl,by rw[h2];rfl⟩⟩
instance int_208:zQ6 J0 208 .u32:=⟨Tryz.underlying208⟩
instance int_211:zQ6 J0 211 .u64:=⟨Tryz.underlying211⟩
instance int_194:zQ6 J0 194 .u64:=⟨Uz⟩
instance row_154:zBf J0 154 157 Jcf 3:=⟨Gi,zK U1,rfl⟩
instance fld_161_0:tI J0 161 0 0:=⟨_,_,_,Gf,rfl,zK Ja3,by decide,rfl⟩
instance fld_161_1:tI J0 161 1 1:=⟨_,_,_,Gf,rfl,zK Ja2,by decide,rfl⟩
instance fld_161_2:tI J0 161 2 2:=⟨_,_,_,Gf,rfl,zK Qr,by decide,rfl⟩
instance row_159:zBf J0 159 35 Ja4 3:=⟨Gg,zK Gv,rfl⟩
instance var_99:qR J0 99 true 1:=⟨fun u h1 h2=>⟨_,_,Tryz.underlying99,zK Ja2,by rw[h1];rfl,by rw[h2];rfl⟩⟩
instance var_159:qR J0 159 true 1:=⟨fun u h1 h2=>⟨_,_,Gg,zK Qr,by rw[h1];rfl,by rw[h2];rfl⟩⟩
instance bld_161:zGm J0 161 [T.lit (.pointer none),T.lit (.pointer none),L 3 jS []]:=⟨_,_,fun ps=>vU (zK Tryz.type161) Gf rfl (places:=[(0,1),(1,1),(2,1)]) (by simp[zK Qr,zK Ja3,zK Ja2];decide) ps,rfl,rfl,(by intro i u hu;match i,hu with|0,hu=>cases hu;rfl|1,hu=>cases hu;rfl|2,hu=>cases hu;rfl|_+3,hu=>simp at hu)⟩
instance elt_159:ElT J0 159 35 Ja4 3 (T.agg [I 0,I 0,L 1 (L 1 I) []]):=⟨Gg,zK Gv,⟨_,rfl,rfl⟩,rfl,Nat.le_of_ble_eq_true rfl,rfl,rfl,Nat.le_of_ble_eq_true rfl⟩
instance fld_157_0:tI J0 157 0 0:=⟨_,_,_,Ul,rfl,zK Lh,by decide,rfl⟩
instance rp_35{a0:Int}{a1:Int}{a2:List (List Int)}:Rp (.agg [I a0,I a1,(L 1 (L 1 I)) a2]) jS (zU.mk a0 a1 a2):=⟨rfl⟩
instance sli_154:zGn J0 154 157:=⟨Gi⟩
instance sli_159:zGn J0 159 35:=⟨Gg⟩
instance var_157:qR J0 157 false 3:=⟨fun u h1 h2=>⟨_,_,Ul,zK U1,by rw[h1];rfl,by rw[h2];rfl⟩⟩
instance zer_157:zHh J0 157 (T.agg [L 1 I [],L 1 I [],L 1 I []]):=⟨_,_,zK U1,rfl,rfl,rfl,rfl⟩
instance bld_179:zGm J0 179 [L 1 I [],L 1 I []]:=⟨_,_,fun ps=>zJ1 (zK Gb) Uj rfl (zK Lh) ps,rfl,rfl,(by intro i u hu;match i,hu with|0,hu=>cases hu;rfl|1,hu=>cases hu;rfl|_+2,hu=>simp at hu)⟩
instance elt_177:ElT J0 177 179 Qh 2 (T.agg [L 1 I ((([]:List Int),([]:List Int)).1),L 1 I ((([]:List Int),([]:List Int)).2)]):=⟨Uk,zK Gb,⟨_,rfl,rfl⟩,rfl,Nat.le_of_ble_eq_true rfl,rfl,rfl,Nat.le_of_ble_eq_true rfl⟩
instance row_177:zBf J0 177 179 Qh 2:=⟨Uk,zK Gb,rfl⟩
instance arr_179:zT0 J0 179 22 Qa 2 1:=⟨Uj,zK Lh,rfl⟩
theorem zOi:J0.info? 179=some Qh:=zK Gb
instance infI_179:zE4 J0 179 Qh:=⟨zOi⟩
instance sli_177:zGn J0 177 179:=⟨Uk⟩
instance var_179:qR J0 179 false 2:=⟨fun u h1 h2=>⟨_,_,Uj,zK Gb,by rw[h1];rfl,by rw[h2];rfl⟩⟩
instance zer_179:zHh J0 179 (T.agg [L 1 I ((([]:List Int),([]:List Int)).1),L 1 I ((([]:List Int),([]:List Int)).2)]):=⟨_,_,zK Gb,rfl,rfl,rfl,rfl⟩
instance elt_146:ElT J0 146 3 Jcv 1 (I 0):=⟨Um,zK Jak,⟨_,rfl,rfl⟩,rfl,Nat.le_of_ble_eq_true rfl,rfl,rfl,Nat.le_of_ble_eq_true rfl⟩
instance row_146:zBf J0 146 3 Jcv 1:=⟨Um,zK Jak,rfl⟩
instance sli_146:zGn J0 146 3:=⟨Um⟩
instance var_3:qR J0 3 true 1:=⟨fun u h1 h2=>⟨_,_,Hl,zK Jak,by rw[h1];rfl,by rw[h2];rfl⟩⟩
instance mvh_18:MvH J0 18 [(0,[0,0]),(1,[1,0]),(2,[2,0])] 2:=⟨⟩
instance mvh_19:MvH J0 19 [(2,[2,0])] 2:=⟨⟩
instance var_26:qR J0 26 false 3:=⟨fun u h1 h2=>⟨_,_,Gs,zK Tryz.type26,by rw[h1];rfl,by rw[h2];rfl⟩⟩
instance var_28:qR J0 28 false 3:=⟨fun u h1 h2=>⟨_,_,Gp,zK Tryz.type28,by rw[h1];rfl,by rw[h2];rfl⟩⟩
instance bld_33:zGm J0 33 [L 1 I [],L 1 (L 1 I) [],L 1 (L 1 (L 1 I)) []]:=⟨_,_,fun ps=>vU (zK Gw) Hu rfl (places:=[(0,1),(1,1),(2,1)]) (by simp[zK Lh,zK Ln,zK Hr];decide) ps,rfl,rfl,(by intro i u hu;match i,hu with|0,hu=>cases hu;rfl|1,hu=>cases hu;rfl|2,hu=>cases hu;rfl|_+3,hu=>simp at hu)⟩
instance fld_48_2:tI J0 48 2 2:=⟨_,_,_,Gm,rfl,zK Hr,by decide,rfl⟩
instance fld_48_0:tI J0 48 0 0:=⟨_,_,_,Gm,rfl,zK L7,by decide,rfl⟩
instance fld_48_1:tI J0 48 1 1:=⟨_,_,_,Gm,rfl,zK L7,by decide,rfl⟩
instance mvh_33:MvH J0 33 [(2,[2,0])] 2:=⟨⟩
instance var_48:qR J0 48 false 3:=⟨fun u h1 h2=>⟨_,_,Gm,zK Tryz.type48,by rw[h1];rfl,by rw[h2];rfl⟩⟩
end Go.Wk
