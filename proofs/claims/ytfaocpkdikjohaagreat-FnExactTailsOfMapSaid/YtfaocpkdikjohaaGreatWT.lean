/- The program's TailsOfMap returns what the reference's returns,for all arguments;no conditions. -/
import Derived.Test.YtfaocpkdikjohaaGreatAbC
import Derived.Test.YtfaocpkdikjohaaGreatWF
import Derived.Test.YtfaocpkdikjohaaGreatProg
open Go.Proofs.Tryz renaming prog→J0,type2→La,type22→Lh,underlying22→Li,type23→Ll,underlying35→Hj,underlying2→Hm,underlying173→Hw,underlying151→Hx,type24→Hz,underlying52→G5,underlying33→G6,underlying23→G7,type179→Gs,type157→Gt,underlying215→Gx,underlying161→Gy,underlying159→Gz,underlying154→U0,underlying48→U6,underlying28→U7,underlying26→U8,underlying24→U9,type52→Ua,type35→Ub,type33→Uc,underlying3→Uq,underlying179→Q0,underlying177→Q2,underlying157→Q3,underlying146→Q4,type215→Qa,type173→Qb,type159→Qc,type151→Qd,t22→Qv,t179→Ja2,t157→Ja3,type154→Jad,type99→Jar,type82→Jas,t35→Jat,t23→Jau,type3→Jb5,t2→Jbc,t215→Jcv,t173→Jcw,t159→Jcx,t154→Jcy,t151→Jcz,t52→Jd3,t33→Jd4,t24→Jd5,t3→Jdf
open Option renaming some→ja,none→jb
open Bool renaming true→jc,false→jd
namespace Go.Wk
open Go Go.Proofs Go.Ab
abbrev lV:=L 1 I
abbrev lM:=L 1 lV
abbrev lC:=L 1 lM
abbrev uZ(x:zL):T:=T.agg [T.ro (lV x.Word),T.ro (lV x.Left),T.ro (lV x.zWZ)]
abbrev qC(x:zK):T:=T.agg [I x.Prime,I x.yI,T.ro (lM x.Rows)]
abbrev vB(x:zG):T:=T.agg [I x.Prime,I x.Dim,T.ro (lC x.zR)]
abbrev qPr(x:SPr):T:=T.agg [T.ro (lV x.zA),T.ro (lM x.zT),T.ro (lC x.zE)]
abbrev yM(x:zJ):T:=T.agg [T.ro (lV x.x),T.ro (lV x.v)]
abbrev yT(x:zZ):T:=T.agg [T.agg [T.ro (lV x.p.zA),T.ro (lM x.p.zT),T.ro (lC x.p.zE)],T.agg [I x.m.Prime,I x.m.Dim,T.ro (lC x.m.zR)],T.ro (lM x.zMS)]
abbrev zI1(x:xR):T:=T.agg [T.ro ((Pt yO) x.p),T.ro ((Pt zV) x.m),T.ro ((L 3 zP) x.sums)]
theorem wD:J0.follows .mixedOrders=jc:=rfl
instance:Mix J0:=⟨wD⟩
instance sli_22:zHy J0 22 2:=⟨Li⟩
instance row_23:zBH J0 23 22 Qv 1:=⟨G7,zQ Lh,rfl⟩
instance sli_23:zHy J0 23 22:=⟨G7⟩
instance var_22:jV J0 22 jc 1:=⟨fun u h1 h2=>⟨_,_,Li,zQ Lh,by rw[h1];rfl,by rw[h2];rfl⟩⟩
instance row_24:zBH J0 24 23 Jau 1:=⟨U9,zQ Ll,rfl⟩
instance sli_24:zHy J0 24 23:=⟨U9⟩
instance var_23:jV J0 23 jc 1:=⟨fun u h1 h2=>⟨_,_,G7,zQ Ll,by rw[h1];rfl,by rw[h2];rfl⟩⟩
instance fld_26_0:sM J0 26 0 0:=⟨_,_,_,U8,rfl,zQ Lh,by decide,rfl⟩
instance fld_26_1:sM J0 26 1 1:=⟨_,_,_,U8,rfl,zQ Ll,by decide,rfl⟩
instance fld_26_2:sM J0 26 2 2:=⟨_,_,_,U8,rfl,zQ Hz,by decide,rfl⟩
instance var_24:jV J0 24 jc 1:=⟨fun u h1 h2=>⟨_,_,U9,zQ Hz,by rw[h1];rfl,by rw[h2];rfl⟩⟩
instance fld_28_2:sM J0 28 2 2:=⟨_,_,_,U7,rfl,zQ Ll,by decide,rfl⟩
instance elt_22:ElT J0 22 2 Jbc 1 (I 0):=⟨Li,zQ La,⟨_,rfl,rfl⟩,rfl,Nat.le_of_ble_eq_true rfl,rfl,rfl,Nat.le_of_ble_eq_true rfl⟩
theorem zDI:J0.info? 2=ja Jbc:=zQ La
instance infI_2:zC5 J0 2 Jbc:=⟨zDI⟩
instance mkz_22:MkZ J0 22 I 0 (I 0):=⟨rfl⟩
instance row_22:zBH J0 22 2 Jbc 1:=⟨Li,zQ La,rfl⟩
instance var_2:jV J0 2 jc 1:=⟨fun u h1 h2=>⟨_,_,Hm,zQ La,by rw[h1];rfl,by rw[h2];rfl⟩⟩
instance elt_23:ElT J0 23 22 Qv 1 (L 1 I []):=⟨G7,zQ Lh,⟨_,rfl,rfl⟩,rfl,Nat.le_of_ble_eq_true rfl,rfl,rfl,Nat.le_of_ble_eq_true rfl⟩
theorem zCT:J0.info? 22=ja Qv:=zQ Lh
instance infI_22:zC5 J0 22 Qv:=⟨zCT⟩
instance mkz_23:MkZ J0 23 (L 1 I) ([]:jg) (L 1 I []):=⟨rfl⟩
instance elt_24:ElT J0 24 23 Jau 1 (L 1 (L 1 I) []):=⟨U9,zQ Ll,⟨_,rfl,rfl⟩,rfl,Nat.le_of_ble_eq_true rfl,rfl,rfl,Nat.le_of_ble_eq_true rfl⟩
theorem zOm:J0.info? 23=ja Jau:=zQ Ll
instance infI_23:zC5 J0 23 Jau:=⟨zOm⟩
instance mkz_24:MkZ J0 24 (L 1 (L 1 I)) ([]:jh) (L 1 (L 1 I) []):=⟨rfl⟩
instance fld_33_0:sM J0 33 0 0:=⟨_,_,_,G6,rfl,zQ Lh,by decide,rfl⟩
instance fld_33_1:sM J0 33 1 1:=⟨_,_,_,G6,rfl,zQ Ll,by decide,rfl⟩
instance fld_33_2:sM J0 33 2 2:=⟨_,_,_,G6,rfl,zQ Hz,by decide,rfl⟩
theorem zU6:J0.info? 24=ja Jd5:=zQ Hz
instance infI_24:zC5 J0 24 Jd5:=⟨zU6⟩
theorem zYG:J0.info? 33=ja Jd4:=zQ Uc
instance infI_33:zC5 J0 33 Jd4:=⟨zYG⟩
instance var_33:jV J0 33 jd 3:=⟨fun u h1 h2=>⟨_,_,G6,zQ Uc,by rw[h1];rfl,by rw[h2];rfl⟩⟩
instance zer_33:zHr J0 33 (T.agg [L 1 I [],L 1 (L 1 I) [],L 1 (L 1 (L 1 I)) []]):=⟨_,_,zQ Uc,rfl,rfl,rfl,rfl⟩
instance fld_28_0:sM J0 28 0 0:=⟨_,_,_,U7,rfl,zQ La,by decide,rfl⟩
instance fld_28_1:sM J0 28 1 1:=⟨_,_,_,U7,rfl,zQ La,by decide,rfl⟩
instance fld_35_0:sM J0 35 0 0:=⟨_,_,_,Hj,rfl,zQ La,by decide,rfl⟩
instance fld_35_1:sM J0 35 1 1:=⟨_,_,_,Hj,rfl,zQ La,by decide,rfl⟩
instance fld_35_2:sM J0 35 2 2:=⟨_,_,_,Hj,rfl,zQ Ll,by decide,rfl⟩
theorem zBf:J0.info? 35=ja Jat:=zQ Ub
instance infI_35:zC5 J0 35 Jat:=⟨zBf⟩
instance var_35:jV J0 35 jd 3:=⟨fun u h1 h2=>⟨_,_,Hj,zQ Ub,by rw[h1];rfl,by rw[h2];rfl⟩⟩
instance zer_35:zHr J0 35 (T.agg [I 0,I 0,L 1 (L 1 I) []]):=⟨_,_,zQ Ub,rfl,rfl,rfl,rfl⟩
instance bld_151:zHw J0 151 [I 0,I 0,I 0,I 0]:=⟨_,_,fun ps=>uP (zQ Qd) Hx rfl (places:=[(0,1),(1,1),(2,1),(3,1)]) (by simp[zQ La];decide) ps,rfl,rfl,(by intro i u hu;match i,hu with|0,hu=>cases hu;rfl|1,hu=>cases hu;rfl|2,hu=>cases hu;rfl|3,hu=>cases hu;rfl|_+4,hu=>simp at hu)⟩
theorem zWh:J0.info? 151=ja Jcz:=zQ Qd
instance infI_151:zC5 J0 151 Jcz:=⟨zWh⟩
instance var_151:jV J0 151 jd 4:=⟨fun u h1 h2=>⟨_,_,Hx,zQ Qd,by rw[h1];rfl,by rw[h2];rfl⟩⟩
instance zer_151:zHr J0 151 (T.agg [I 0,I 0,I 0,I 0]):=⟨_,_,zQ Qd,rfl,rfl,rfl,rfl⟩
instance fld_151_0:sM J0 151 0 0:=⟨_,_,_,Hx,rfl,zQ La,by decide,rfl⟩
theorem zOn{u:T}(h1:u.single=jc)(h2:u.size=1):∃(ds:TypeDesc)(ti:TypeInfo)(fs:Array Field)(f:Field),J0.underlying 151=ja (.struct fs)∧fs[0]? =ja f∧J0.underlying f.type=ja ds∧J0.info? f.type=ja ti∧zFj ds= !u.single∧ti.size=u.size:=⟨_,_,_,_,Hx,rfl,Hm,zQ La,by rw[h1];rfl,by rw[h2];rfl⟩
instance fldw_151_0:zX3 J0 151 0 jc 1:=⟨fun _ h1 h2=>zOn h1 h2⟩
instance bld_52:zHw J0 52 [I 0,I 0,L 1 (L 1 (L 1 I)) []]:=⟨_,_,fun ps=>uP (zQ Ua) G5 rfl (places:=[(0,1),(1,1),(2,1)]) (by simp[zQ La,zQ Hz];decide) ps,rfl,rfl,(by intro i u hu;match i,hu with|0,hu=>cases hu;rfl|1,hu=>cases hu;rfl|2,hu=>cases hu;rfl|_+3,hu=>simp at hu)⟩
instance fld_52_2:sM J0 52 2 2:=⟨_,_,_,G5,rfl,zQ Hz,by decide,rfl⟩
theorem zOo:J0.info? 52=ja Jd3:=zQ Ua
instance infI_52:zC5 J0 52 Jd3:=⟨zOo⟩
instance var_52:jV J0 52 jd 3:=⟨fun u h1 h2=>⟨_,_,G5,zQ Ua,by rw[h1];rfl,by rw[h2];rfl⟩⟩
instance zer_52:zHr J0 52 (T.agg [I 0,I 0,L 1 (L 1 (L 1 I)) []]):=⟨_,_,zQ Ua,rfl,rfl,rfl,rfl⟩
instance fld_52_0:sM J0 52 0 0:=⟨_,_,_,G5,rfl,zQ La,by decide,rfl⟩
instance fld_52_1:sM J0 52 1 1:=⟨_,_,_,G5,rfl,zQ La,by decide,rfl⟩
instance bld_215:zHw J0 215 [L 1 I [],L 1 I []]:=⟨_,_,fun ps=>uP (zQ Qa) Gx rfl (places:=[(0,1),(1,1)]) (by simp[zQ Lh];decide) ps,rfl,rfl,(by intro i u hu;match i,hu with|0,hu=>cases hu;rfl|1,hu=>cases hu;rfl|_+2,hu=>simp at hu)⟩
instance fld_173_0:sM J0 173 0 0:=⟨_,_,_,Hw,rfl,zQ Uc,by decide,rfl⟩
instance fld_173_2:sM J0 173 2 6:=⟨_,_,_,Hw,rfl,zQ Ll,by decide,rfl⟩
theorem uL:J0.info? 215=ja Jcv:=zQ Qa
instance infI_215:zC5 J0 215 Jcv:=⟨uL⟩
instance var_215:jV J0 215 jd 2:=⟨fun u h1 h2=>⟨_,_,Gx,zQ Qa,by rw[h1];rfl,by rw[h2];rfl⟩⟩
instance zer_215:zHr J0 215 (T.agg [L 1 I [],L 1 I []]):=⟨_,_,zQ Qa,rfl,rfl,rfl,rfl⟩
instance fld_173_1:sM J0 173 1 3:=⟨_,_,_,Hw,rfl,zQ Ua,by decide,rfl⟩
instance fld_215_0:sM J0 215 0 0:=⟨_,_,_,Gx,rfl,zQ Lh,by decide,rfl⟩
instance fld_215_1:sM J0 215 1 1:=⟨_,_,_,Gx,rfl,zQ Lh,by decide,rfl⟩
instance var_173:jV J0 173 jd 7:=⟨fun u h1 h2=>⟨_,_,Hw,zQ Qb,by rw[h1];rfl,by rw[h2];rfl⟩⟩
instance bld_173:zHw J0 173 [T.agg [L 1 I [],L 1 (L 1 I) [],L 1 (L 1 (L 1 I)) []],T.agg [I 0,I 0,L 1 (L 1 (L 1 I)) []],L 1 (L 1 I) []]:=⟨_,_,fun ps=>uP (zQ Qb) Hw rfl (places:=[(0,3),(3,3),(6,1)]) (by simp[zQ Ll,zQ Uc,zQ Ua];decide) ps,rfl,rfl,(by intro i u hu;match i,hu with|0,hu=>cases hu;rfl|1,hu=>cases hu;rfl|2,hu=>cases hu;rfl|_+3,hu=>simp at hu)⟩
theorem zPH:J0.info? 173=ja Jcw:=zQ Qb
instance infI_173:zC5 J0 173 Jcw:=⟨zPH⟩
instance zer_173:zHr J0 173 (T.agg [T.agg [L 1 I [],L 1 (L 1 I) [],L 1 (L 1 (L 1 I)) []],T.agg [I 0,I 0,L 1 (L 1 (L 1 I)) []],L 1 (L 1 I) []]):=⟨_,_,zQ Qb,rfl,rfl,rfl,rfl⟩
instance eqs_151:zUR J0 151:=⟨⟨_,_,_,_,Hx,⟨by decide,rfl,Hm⟩,⟨by decide,rfl,Hm⟩,⟨by decide,rfl,Hm⟩,⟨by decide,rfl,Hm⟩⟩,Tryz.stoodInHeld151,Tryz.eqGuardType151⟩
instance bld_35:zHw J0 35 [I 0,I 0,L 1 (L 1 I) []]:=⟨_,_,fun ps=>uP (zQ Ub) Hj rfl (places:=[(0,1),(1,1),(2,1)]) (by simp[zQ La,zQ Ll];decide) ps,rfl,rfl,(by intro i u hu;match i,hu with|0,hu=>cases hu;rfl|1,hu=>cases hu;rfl|2,hu=>cases hu;rfl|_+3,hu=>simp at hu)⟩
theorem zRg{u:T}(h1:u.single=jc)(h2:u.size=1):∃(ds:TypeDesc)(ti:TypeInfo)(fs:Array Field)(f:Field),J0.underlying 35=ja (.struct fs)∧fs[2]? =ja f∧J0.underlying f.type=ja ds∧J0.info? f.type=ja ti∧zFj ds= !u.single∧ti.size=u.size:=⟨_,_,_,_,Hj,rfl,G7,zQ Ll,by rw[h1];rfl,by rw[h2];rfl⟩
instance fldw_35_2:zX3 J0 35 2 jc 1:=⟨fun _ h1 h2=>zRg h1 h2⟩
instance bld_157:zHw J0 157 [L 1 I [],L 1 I [],L 1 I []]:=⟨_,_,fun ps=>uP (zQ Gt) Q3 rfl (places:=[(0,1),(1,1),(2,1)]) (by simp[zQ Lh];decide) ps,rfl,rfl,(by intro i u hu;match i,hu with|0,hu=>cases hu;rfl|1,hu=>cases hu;rfl|2,hu=>cases hu;rfl|_+3,hu=>simp at hu)⟩
instance elt_154:ElT J0 154 157 Ja3 3 (T.agg [L 1 I [],L 1 I [],L 1 I []]):=⟨U0,zQ Gt,⟨_,rfl,rfl⟩,rfl,Nat.le_of_ble_eq_true rfl,rfl,rfl,Nat.le_of_ble_eq_true rfl⟩
theorem zPI:J0.info? 154=ja Jcy:=zQ Jad
instance infI_154:zC5 J0 154 Jcy:=⟨zPI⟩
instance rp_157{a0:jg}{a1:jg}{a2:jg}:Rp (.agg [(L 1 I) a0,(L 1 I) a1,(L 1 I) a2]) zF (zL.mk a0 a1 a2):=⟨rfl⟩
instance var_82:jV J0 82 jc 1:=⟨fun u h1 h2=>⟨_,_,Tryz.underlying82,zQ Jas,by rw[h1];rfl,by rw[h2];rfl⟩⟩
instance var_154:jV J0 154 jc 1:=⟨fun u h1 h2=>⟨_,_,U0,zQ Jad,by rw[h1];rfl,by rw[h2];rfl⟩⟩
instance row_154:zBH J0 154 157 Ja3 3:=⟨U0,zQ Gt,rfl⟩
instance zer_154:zHr J0 154 (L 3 zF []):=⟨_,_,zQ Jad,rfl,rfl,rfl,rfl⟩
instance fld_161_0:sM J0 161 0 0:=⟨_,_,_,Gy,rfl,zQ Jas,by decide,rfl⟩
instance fld_161_1:sM J0 161 1 1:=⟨_,_,_,Gy,rfl,zQ Jar,by decide,rfl⟩
instance fld_161_2:sM J0 161 2 2:=⟨_,_,_,Gy,rfl,zQ Qc,by decide,rfl⟩
instance row_159:zBH J0 159 35 Jat 3:=⟨Gz,zQ Ub,rfl⟩
instance var_99:jV J0 99 jc 1:=⟨fun u h1 h2=>⟨_,_,Tryz.underlying99,zQ Jar,by rw[h1];rfl,by rw[h2];rfl⟩⟩
instance var_159:jV J0 159 jc 1:=⟨fun u h1 h2=>⟨_,_,Gz,zQ Qc,by rw[h1];rfl,by rw[h2];rfl⟩⟩
instance bld_161:zHw J0 161 [T.lit (.pointer jb),T.lit (.pointer jb),L 3 zP []]:=⟨_,_,fun ps=>uP (zQ Tryz.type161) Gy rfl (places:=[(0,1),(1,1),(2,1)]) (by simp[zQ Qc,zQ Jas,zQ Jar];decide) ps,rfl,rfl,(by intro i u hu;match i,hu with|0,hu=>cases hu;rfl|1,hu=>cases hu;rfl|2,hu=>cases hu;rfl|_+3,hu=>simp at hu)⟩
instance elt_159:ElT J0 159 35 Jat 3 (T.agg [I 0,I 0,L 1 (L 1 I) []]):=⟨Gz,zQ Ub,⟨_,rfl,rfl⟩,rfl,Nat.le_of_ble_eq_true rfl,rfl,rfl,Nat.le_of_ble_eq_true rfl⟩
instance fld_157_0:sM J0 157 0 0:=⟨_,_,_,Q3,rfl,zQ Lh,by decide,rfl⟩
theorem zPJ:J0.info? 157=ja Ja3:=zQ Gt
instance infI_157:zC5 J0 157 Ja3:=⟨zPJ⟩
theorem zPK:J0.info? 159=ja Jcx:=zQ Qc
instance infI_159:zC5 J0 159 Jcx:=⟨zPK⟩
instance rp_35{a0:Int}{a1:Int}{a2:jh}:Rp (.agg [I a0,I a1,(L 1 (L 1 I)) a2]) zP (zK.mk a0 a1 a2):=⟨rfl⟩
instance sli_154:zHy J0 154 157:=⟨U0⟩
instance sli_159:zHy J0 159 35:=⟨Gz⟩
instance var_157:jV J0 157 jd 3:=⟨fun u h1 h2=>⟨_,_,Q3,zQ Gt,by rw[h1];rfl,by rw[h2];rfl⟩⟩
instance zer_157:zHr J0 157 (T.agg [L 1 I [],L 1 I [],L 1 I []]):=⟨_,_,zQ Gt,rfl,rfl,rfl,rfl⟩
instance bld_179:zHw J0 179 [L 1 I [],L 1 I []]:=⟨_,_,fun ps=>zKL (zQ Gs) Q0 rfl (zQ Lh) ps,rfl,rfl,(by intro i u hu;match i,hu with|0,hu=>cases hu;rfl|1,hu=>cases hu;rfl|_+2,hu=>simp at hu)⟩
instance elt_177:ElT J0 177 179 Ja2 2 (T.agg [L 1 I ((([]:jg),([]:jg)).1),L 1 I ((([]:jg),([]:jg)).2)]):=⟨Q2,zQ Gs,⟨_,rfl,rfl⟩,rfl,Nat.le_of_ble_eq_true rfl,rfl,rfl,Nat.le_of_ble_eq_true rfl⟩
instance row_177:zBH J0 177 179 Ja2 2:=⟨Q2,zQ Gs,rfl⟩
instance arr_179:zUT J0 179 22 Qv 2 1:=⟨Q0,zQ Lh,rfl⟩
theorem zWi:J0.info? 179=ja Ja2:=zQ Gs
instance infI_179:zC5 J0 179 Ja2:=⟨zWi⟩
instance sli_177:zHy J0 177 179:=⟨Q2⟩
instance var_179:jV J0 179 jd 2:=⟨fun u h1 h2=>⟨_,_,Q0,zQ Gs,by rw[h1];rfl,by rw[h2];rfl⟩⟩
instance zer_179:zHr J0 179 (T.agg [L 1 I ((([]:jg),([]:jg)).1),L 1 I ((([]:jg),([]:jg)).2)]):=⟨_,_,zQ Gs,rfl,rfl,rfl,rfl⟩
instance elt_146:ElT J0 146 3 Jdf 1 (I 0):=⟨Q4,zQ Jb5,⟨_,rfl,rfl⟩,rfl,Nat.le_of_ble_eq_true rfl,rfl,rfl,Nat.le_of_ble_eq_true rfl⟩
instance row_146:zBH J0 146 3 Jdf 1:=⟨Q4,zQ Jb5,rfl⟩
instance sli_146:zHy J0 146 3:=⟨Q4⟩
instance var_3:jV J0 3 jc 1:=⟨fun u h1 h2=>⟨_,_,Uq,zQ Jb5,by rw[h1];rfl,by rw[h2];rfl⟩⟩
instance mvh_18:MvH J0 18 [(0,[0,0]),(1,[1,0]),(2,[2,0])] 2:=⟨⟩
instance mvh_19:MvH J0 19 [(2,[2,0])] 2:=⟨⟩
instance var_26:jV J0 26 jd 3:=⟨fun u h1 h2=>⟨_,_,U8,zQ Tryz.type26,by rw[h1];rfl,by rw[h2];rfl⟩⟩
instance var_28:jV J0 28 jd 3:=⟨fun u h1 h2=>⟨_,_,U7,zQ Tryz.type28,by rw[h1];rfl,by rw[h2];rfl⟩⟩
instance bld_33:zHw J0 33 [L 1 I [],L 1 (L 1 I) [],L 1 (L 1 (L 1 I)) []]:=⟨_,_,fun ps=>uP (zQ Uc) G6 rfl (places:=[(0,1),(1,1),(2,1)]) (by simp[zQ Lh,zQ Ll,zQ Hz];decide) ps,rfl,rfl,(by intro i u hu;match i,hu with|0,hu=>cases hu;rfl|1,hu=>cases hu;rfl|2,hu=>cases hu;rfl|_+3,hu=>simp at hu)⟩
instance fld_48_2:sM J0 48 2 2:=⟨_,_,_,U6,rfl,zQ Hz,by decide,rfl⟩
instance fld_48_0:sM J0 48 0 0:=⟨_,_,_,U6,rfl,zQ La,by decide,rfl⟩
instance fld_48_1:sM J0 48 1 1:=⟨_,_,_,U6,rfl,zQ La,by decide,rfl⟩
instance mvh_33:MvH J0 33 [(2,[2,0])] 2:=⟨⟩
instance var_48:jV J0 48 jd 3:=⟨fun u h1 h2=>⟨_,_,U6,zQ Tryz.type48,by rw[h1];rfl,by rw[h2];rfl⟩⟩
end Go.Wk
