/- The program's CocycleClasses returns what the reference's returns,for all arguments;no conditions. -/
import Derived.Test.YtijcbaigdbgofaaGreatAbC
import Derived.Test.YtijcbaigdbgofaaGreatWF
import Derived.Test.YtijcbaigdbgofaaGreatProg
open Go.Proofs.Tryz renaming prog→J0,type23→L4,type22→L5,underlying22→L6,type2→Lg,underlying92→H6,type33→H7,underlying2→H8,underlying160→Hg,underlying133→Hh,underlying48→Hj,underlying33→Hk,underlying23→Hl,type24→Hw,type101→G7,underlying176→G9,underlying105→Ga,underlying103→Gb,underlying98→Gj,underlying35→Gk,underlying28→Gl,underlying26→Gm,underlying24→Gp,type96→Gs,type92→Gt,underlying3→Ua,type35→Ud,underlying147→Uq,underlying101→Ur,underlying96→Uw,underlying94→Ux,type176→Uy,type160→Uz,type133→Q0,type103→Q2,t22→Qh,t101→Qo,type98→Ja2,type63→Ja3,type62→Ja4,type48→Ja5,t96→Ja6,t92→Ja7,t23→Ja8,type3→Jas,t2→Jaz,t176→Jcq,t160→Jcr,t133→Jcs,t103→Jct,t98→Jcx,t35→Jcy,t33→Jcz,t24→Jd0,t3→Jd6
open Option renaming some→ik,none→im
open Bool renaming true→io,false→iq
namespace Go.Wk
open Go Go.Proofs Go.Ab
abbrev lV:=L 1 I
abbrev lM:=L 1 lV
abbrev lC:=L 1 lM
abbrev tE(x:zK):T:=T.agg [T.ro (lV x.Word),T.ro (lV x.Left),T.ro (lV x.zXx)]
abbrev zFr(x:zT):T:=T.agg [I x.Prime,I x.xI,T.ro (lM x.Rows)]
abbrev xT(x:zB):T:=T.agg [I x.Prime,I x.Dim,T.ro (lC x.zG)]
abbrev qPr(x:SPr):T:=T.agg [T.ro (lV x.zA),T.ro (lM x.zU),T.ro (lC x.zF)]
abbrev yN(x:zJ):T:=T.agg [T.ro (lV x.x),T.ro (lV x.v)]
abbrev yS(x:zY):T:=T.agg [T.agg [T.ro (lV x.p.zA),T.ro (lM x.p.zU),T.ro (lC x.p.zF)],T.agg [I x.m.Prime,I x.m.Dim,T.ro (lC x.m.zG)],T.ro (lM x.zNb)]
abbrev zIy(x:xQ):T:=T.agg [T.ro ((Pt yL) x.p),T.ro ((Pt zS) x.m),T.ro ((L 3 zO) x.sums)]
theorem xK:J0.follows .mixedOrders=io:=rfl
instance:Mix J0:=⟨xK⟩
instance sli_22:zHx J0 22 2:=⟨L6⟩
instance row_23:zBJ J0 23 22 Qh 1:=⟨Hl,zQ L5,rfl⟩
instance sli_23:zHx J0 23 22:=⟨Hl⟩
instance var_22:kC J0 22 io 1:=⟨fun u h1 h2=>⟨_,_,L6,zQ L5,by rw[h1];rfl,by rw[h2];rfl⟩⟩
instance row_24:zBJ J0 24 23 Ja8 1:=⟨Gp,zQ L4,rfl⟩
instance sli_24:zHx J0 24 23:=⟨Gp⟩
instance var_23:kC J0 23 io 1:=⟨fun u h1 h2=>⟨_,_,Hl,zQ L4,by rw[h1];rfl,by rw[h2];rfl⟩⟩
instance fld_26_0:sO J0 26 0 0:=⟨_,_,_,Gm,rfl,zQ L5,by decide,rfl⟩
instance fld_26_1:sO J0 26 1 1:=⟨_,_,_,Gm,rfl,zQ L4,by decide,rfl⟩
instance fld_26_2:sO J0 26 2 2:=⟨_,_,_,Gm,rfl,zQ Hw,by decide,rfl⟩
instance var_24:kC J0 24 io 1:=⟨fun u h1 h2=>⟨_,_,Gp,zQ Hw,by rw[h1];rfl,by rw[h2];rfl⟩⟩
instance fld_28_2:sO J0 28 2 2:=⟨_,_,_,Gl,rfl,zQ Hw,by decide,rfl⟩
instance elt_22:ElT J0 22 2 Jaz 1 (I 0):=⟨L6,zQ Lg,⟨_,rfl,rfl⟩,rfl,Nat.le_of_ble_eq_true rfl,rfl,rfl,Nat.le_of_ble_eq_true rfl⟩
theorem zFs:J0.info? 2=ik Jaz:=zQ Lg
instance infI_2:zCB J0 2 Jaz:=⟨zFs⟩
instance mkz_22:MkZ J0 22 I 0 (I 0):=⟨rfl⟩
instance row_22:zBJ J0 22 2 Jaz 1:=⟨L6,zQ Lg,rfl⟩
instance var_2:kC J0 2 io 1:=⟨fun u h1 h2=>⟨_,_,H8,zQ Lg,by rw[h1];rfl,by rw[h2];rfl⟩⟩
instance elt_23:ElT J0 23 22 Qh 1 (L 1 I []):=⟨Hl,zQ L5,⟨_,rfl,rfl⟩,rfl,Nat.le_of_ble_eq_true rfl,rfl,rfl,Nat.le_of_ble_eq_true rfl⟩
theorem zDa:J0.info? 22=ik Qh:=zQ L5
instance infI_22:zCB J0 22 Qh:=⟨zDa⟩
instance mkz_23:MkZ J0 23 (L 1 I) ([]:iv) (L 1 I []):=⟨rfl⟩
instance elt_24:ElT J0 24 23 Ja8 1 (L 1 (L 1 I) []):=⟨Gp,zQ L4,⟨_,rfl,rfl⟩,rfl,Nat.le_of_ble_eq_true rfl,rfl,rfl,Nat.le_of_ble_eq_true rfl⟩
theorem zUR:J0.info? 23=ik Ja8:=zQ L4
instance infI_23:zCB J0 23 Ja8:=⟨zUR⟩
instance mkz_24:MkZ J0 24 (L 1 (L 1 I)) ([]:iw) (L 1 (L 1 I) []):=⟨rfl⟩
instance fld_33_0:sO J0 33 0 0:=⟨_,_,_,Hk,rfl,zQ L5,by decide,rfl⟩
instance fld_33_1:sO J0 33 1 1:=⟨_,_,_,Hk,rfl,zQ L4,by decide,rfl⟩
instance fld_33_2:sO J0 33 2 2:=⟨_,_,_,Hk,rfl,zQ Hw,by decide,rfl⟩
theorem zYX:J0.info? 24=ik Jd0:=zQ Hw
instance infI_24:zCB J0 24 Jd0:=⟨zYX⟩
theorem zUS:J0.info? 33=ik Jcz:=zQ H7
instance infI_33:zCB J0 33 Jcz:=⟨zUS⟩
instance var_33:kC J0 33 iq 3:=⟨fun u h1 h2=>⟨_,_,Hk,zQ H7,by rw[h1];rfl,by rw[h2];rfl⟩⟩
instance zer_33:zGy J0 33 (T.agg [L 1 I [],L 1 (L 1 I) [],L 1 (L 1 (L 1 I)) []]):=⟨_,_,zQ H7,rfl,rfl,rfl,rfl⟩
instance fld_28_0:sO J0 28 0 0:=⟨_,_,_,Gl,rfl,zQ Lg,by decide,rfl⟩
instance fld_28_1:sO J0 28 1 1:=⟨_,_,_,Gl,rfl,zQ Lg,by decide,rfl⟩
instance fld_35_0:sO J0 35 0 0:=⟨_,_,_,Gk,rfl,zQ Lg,by decide,rfl⟩
instance fld_35_1:sO J0 35 1 1:=⟨_,_,_,Gk,rfl,zQ Lg,by decide,rfl⟩
instance fld_35_2:sO J0 35 2 2:=⟨_,_,_,Gk,rfl,zQ Hw,by decide,rfl⟩
theorem zUT:J0.info? 35=ik Jcy:=zQ Ud
instance infI_35:zCB J0 35 Jcy:=⟨zUT⟩
instance var_35:kC J0 35 iq 3:=⟨fun u h1 h2=>⟨_,_,Gk,zQ Ud,by rw[h1];rfl,by rw[h2];rfl⟩⟩
instance zer_35:zGy J0 35 (T.agg [I 0,I 0,L 1 (L 1 (L 1 I)) []]):=⟨_,_,zQ Ud,rfl,rfl,rfl,rfl⟩
instance bld_160:zHv J0 160 [I 0,I 0,I 0,I 0]:=⟨_,_,fun ps=>uS (zQ Uz) Hg rfl (places:=[(0,1),(1,1),(2,1),(3,1)]) (by simp[zQ Lg];decide) ps,rfl,rfl,(by intro i u hu;match i,hu with|0,hu=>cases hu;rfl|1,hu=>cases hu;rfl|2,hu=>cases hu;rfl|3,hu=>cases hu;rfl|_+4,hu=>simp at hu)⟩
theorem zW7:J0.info? 160=ik Jcr:=zQ Uz
instance infI_160:zCB J0 160 Jcr:=⟨zW7⟩
instance var_160:kC J0 160 iq 4:=⟨fun u h1 h2=>⟨_,_,Hg,zQ Uz,by rw[h1];rfl,by rw[h2];rfl⟩⟩
instance zer_160:zGy J0 160 (T.agg [I 0,I 0,I 0,I 0]):=⟨_,_,zQ Uz,rfl,rfl,rfl,rfl⟩
instance fld_160_0:sO J0 160 0 0:=⟨_,_,_,Hg,rfl,zQ Lg,by decide,rfl⟩
theorem zOt{u:T}(h1:u.single=io)(h2:u.size=1):∃(ds:TypeDesc)(ti:TypeInfo)(fs:Array Field)(f:Field),J0.underlying 160=ik (.struct fs)∧fs[0]? =ik f∧J0.underlying f.type=ik ds∧J0.info? f.type=ik ti∧zFu ds= !u.single∧ti.size=u.size:=⟨_,_,_,_,Hg,rfl,H8,zQ Lg,by rw[h1];rfl,by rw[h2];rfl⟩
instance fldw_160_0:zXP J0 160 0 io 1:=⟨fun _ h1 h2=>zOt h1 h2⟩
instance bld_176:zHv J0 176 [L 1 I [],L 1 I []]:=⟨_,_,fun ps=>uS (zQ Uy) G9 rfl (places:=[(0,1),(1,1)]) (by simp[zQ L5];decide) ps,rfl,rfl,(by intro i u hu;match i,hu with|0,hu=>cases hu;rfl|1,hu=>cases hu;rfl|_+2,hu=>simp at hu)⟩
instance fld_133_0:sO J0 133 0 0:=⟨_,_,_,Hh,rfl,zQ H7,by decide,rfl⟩
instance fld_133_2:sO J0 133 2 6:=⟨_,_,_,Hh,rfl,zQ L4,by decide,rfl⟩
theorem uO:J0.info? 176=ik Jcq:=zQ Uy
instance infI_176:zCB J0 176 Jcq:=⟨uO⟩
instance var_176:kC J0 176 iq 2:=⟨fun u h1 h2=>⟨_,_,G9,zQ Uy,by rw[h1];rfl,by rw[h2];rfl⟩⟩
instance zer_176:zGy J0 176 (T.agg [L 1 I [],L 1 I []]):=⟨_,_,zQ Uy,rfl,rfl,rfl,rfl⟩
instance fld_133_1:sO J0 133 1 3:=⟨_,_,_,Hh,rfl,zQ Ud,by decide,rfl⟩
instance fld_176_0:sO J0 176 0 0:=⟨_,_,_,G9,rfl,zQ L5,by decide,rfl⟩
instance fld_176_1:sO J0 176 1 1:=⟨_,_,_,G9,rfl,zQ L5,by decide,rfl⟩
instance var_133:kC J0 133 iq 7:=⟨fun u h1 h2=>⟨_,_,Hh,zQ Q0,by rw[h1];rfl,by rw[h2];rfl⟩⟩
instance bld_133:zHv J0 133 [T.agg [L 1 I [],L 1 (L 1 I) [],L 1 (L 1 (L 1 I)) []],T.agg [I 0,I 0,L 1 (L 1 (L 1 I)) []],L 1 (L 1 I) []]:=⟨_,_,fun ps=>uS (zQ Q0) Hh rfl (places:=[(0,3),(3,3),(6,1)]) (by simp[zQ L4,zQ H7,zQ Ud];decide) ps,rfl,rfl,(by intro i u hu;match i,hu with|0,hu=>cases hu;rfl|1,hu=>cases hu;rfl|2,hu=>cases hu;rfl|_+3,hu=>simp at hu)⟩
theorem zPQ:J0.info? 133=ik Jcs:=zQ Q0
instance infI_133:zCB J0 133 Jcs:=⟨zPQ⟩
instance zer_133:zGy J0 133 (T.agg [T.agg [L 1 I [],L 1 (L 1 I) [],L 1 (L 1 (L 1 I)) []],T.agg [I 0,I 0,L 1 (L 1 (L 1 I)) []],L 1 (L 1 I) []]):=⟨_,_,zQ Q0,rfl,rfl,rfl,rfl⟩
instance eqs_160:zVr J0 160:=⟨⟨_,_,_,_,Hg,⟨by decide,rfl,H8⟩,⟨by decide,rfl,H8⟩,⟨by decide,rfl,H8⟩,⟨by decide,rfl,H8⟩⟩,Tryz.stoodInHeld160,Tryz.eqGuardType160⟩
instance bld_92:zHv J0 92 [I 0,I 0,L 1 (L 1 I) []]:=⟨_,_,fun ps=>uS (zQ Gt) H6 rfl (places:=[(0,1),(1,1),(2,1)]) (by simp[zQ Lg,zQ L4];decide) ps,rfl,rfl,(by intro i u hu;match i,hu with|0,hu=>cases hu;rfl|1,hu=>cases hu;rfl|2,hu=>cases hu;rfl|_+3,hu=>simp at hu)⟩
theorem zDb:J0.info? 92=ik Ja7:=zQ Gt
instance infI_92:zCB J0 92 Ja7:=⟨zDb⟩
instance var_92:kC J0 92 iq 3:=⟨fun u h1 h2=>⟨_,_,H6,zQ Gt,by rw[h1];rfl,by rw[h2];rfl⟩⟩
instance zer_92:zGy J0 92 (T.agg [I 0,I 0,L 1 (L 1 I) []]):=⟨_,_,zQ Gt,rfl,rfl,rfl,rfl⟩
instance fld_92_0:sO J0 92 0 0:=⟨_,_,_,H6,rfl,zQ Lg,by decide,rfl⟩
instance fld_92_1:sO J0 92 1 1:=⟨_,_,_,H6,rfl,zQ Lg,by decide,rfl⟩
instance fld_92_2:sO J0 92 2 2:=⟨_,_,_,H6,rfl,zQ L4,by decide,rfl⟩
instance bld_96:zHv J0 96 [L 1 I [],L 1 I []]:=⟨_,_,fun ps=>zKY (zQ Gs) Uw rfl (zQ L5) ps,rfl,rfl,(by intro i u hu;match i,hu with|0,hu=>cases hu;rfl|1,hu=>cases hu;rfl|_+2,hu=>simp at hu)⟩
instance elt_94:ElT J0 94 96 Ja6 2 (T.agg [L 1 I ((([]:iv),([]:iv)).1),L 1 I ((([]:iv),([]:iv)).2)]):=⟨Ux,zQ Gs,⟨_,rfl,rfl⟩,rfl,Nat.le_of_ble_eq_true rfl,rfl,rfl,Nat.le_of_ble_eq_true rfl⟩
instance row_94:zBJ J0 94 96 Ja6 2:=⟨Ux,zQ Gs,rfl⟩
instance arr_96:zVs J0 96 22 Qh 2 1:=⟨Uw,zQ L5,rfl⟩
theorem zGa{u:T}(h1:u.single=io)(h2:u.size=1):∃(ds:TypeDesc)(ti:TypeInfo)(fs:Array Field)(f:Field),J0.underlying 92=ik (.struct fs)∧fs[2]? =ik f∧J0.underlying f.type=ik ds∧J0.info? f.type=ik ti∧zFu ds= !u.single∧ti.size=u.size:=⟨_,_,_,_,H6,rfl,Hl,zQ L4,by rw[h1];rfl,by rw[h2];rfl⟩
instance fldw_92_2:zXP J0 92 2 io 1:=⟨fun _ h1 h2=>zGa h1 h2⟩
theorem zUU:J0.info? 96=ik Ja6:=zQ Gs
instance infI_96:zCB J0 96 Ja6:=⟨zUU⟩
instance sli_94:zHx J0 94 96:=⟨Ux⟩
instance var_96:kC J0 96 iq 2:=⟨fun u h1 h2=>⟨_,_,Uw,zQ Gs,by rw[h1];rfl,by rw[h2];rfl⟩⟩
instance zer_96:zGy J0 96 (T.agg [L 1 I ((([]:iv),([]:iv)).1),L 1 I ((([]:iv),([]:iv)).2)]):=⟨_,_,zQ Gs,rfl,rfl,rfl,rfl⟩
instance bld_101:zHv J0 101 [L 1 I [],L 1 I [],L 1 I []]:=⟨_,_,fun ps=>uS (zQ G7) Ur rfl (places:=[(0,1),(1,1),(2,1)]) (by simp[zQ L5];decide) ps,rfl,rfl,(by intro i u hu;match i,hu with|0,hu=>cases hu;rfl|1,hu=>cases hu;rfl|2,hu=>cases hu;rfl|_+3,hu=>simp at hu)⟩
instance elt_98:ElT J0 98 101 Qo 3 (T.agg [L 1 I [],L 1 I [],L 1 I []]):=⟨Gj,zQ G7,⟨_,rfl,rfl⟩,rfl,Nat.le_of_ble_eq_true rfl,rfl,rfl,Nat.le_of_ble_eq_true rfl⟩
theorem zUV:J0.info? 98=ik Jcx:=zQ Ja2
instance infI_98:zCB J0 98 Jcx:=⟨zUV⟩
instance rp_101{a0:iv}{a1:iv}{a2:iv}:Rp (.agg [(L 1 I) a0,(L 1 I) a1,(L 1 I) a2]) zH (zK.mk a0 a1 a2):=⟨rfl⟩
instance var_62:kC J0 62 io 1:=⟨fun u h1 h2=>⟨_,_,Tryz.underlying62,zQ Ja4,by rw[h1];rfl,by rw[h2];rfl⟩⟩
instance var_98:kC J0 98 io 1:=⟨fun u h1 h2=>⟨_,_,Gj,zQ Ja2,by rw[h1];rfl,by rw[h2];rfl⟩⟩
instance row_98:zBJ J0 98 101 Qo 3:=⟨Gj,zQ G7,rfl⟩
instance zer_98:zGy J0 98 (L 3 zH []):=⟨_,_,zQ Ja2,rfl,rfl,rfl,rfl⟩
instance fld_105_0:sO J0 105 0 0:=⟨_,_,_,Ga,rfl,zQ Ja4,by decide,rfl⟩
instance fld_105_1:sO J0 105 1 1:=⟨_,_,_,Ga,rfl,zQ Ja3,by decide,rfl⟩
instance fld_105_2:sO J0 105 2 2:=⟨_,_,_,Ga,rfl,zQ Q2,by decide,rfl⟩
instance row_103:zBJ J0 103 92 Ja7 3:=⟨Gb,zQ Gt,rfl⟩
instance var_63:kC J0 63 io 1:=⟨fun u h1 h2=>⟨_,_,Tryz.underlying63,zQ Ja3,by rw[h1];rfl,by rw[h2];rfl⟩⟩
instance var_103:kC J0 103 io 1:=⟨fun u h1 h2=>⟨_,_,Gb,zQ Q2,by rw[h1];rfl,by rw[h2];rfl⟩⟩
instance bld_105:zHv J0 105 [T.lit (.pointer im),T.lit (.pointer im),L 3 zO []]:=⟨_,_,fun ps=>uS (zQ Tryz.type105) Ga rfl (places:=[(0,1),(1,1),(2,1)]) (by simp[zQ Q2,zQ Ja4,zQ Ja3];decide) ps,rfl,rfl,(by intro i u hu;match i,hu with|0,hu=>cases hu;rfl|1,hu=>cases hu;rfl|2,hu=>cases hu;rfl|_+3,hu=>simp at hu)⟩
instance elt_103:ElT J0 103 92 Ja7 3 (T.agg [I 0,I 0,L 1 (L 1 I) []]):=⟨Gb,zQ Gt,⟨_,rfl,rfl⟩,rfl,Nat.le_of_ble_eq_true rfl,rfl,rfl,Nat.le_of_ble_eq_true rfl⟩
instance fld_101_0:sO J0 101 0 0:=⟨_,_,_,Ur,rfl,zQ L5,by decide,rfl⟩
theorem zPR:J0.info? 101=ik Qo:=zQ G7
instance infI_101:zCB J0 101 Qo:=⟨zPR⟩
theorem zPS:J0.info? 103=ik Jct:=zQ Q2
instance infI_103:zCB J0 103 Jct:=⟨zPS⟩
instance rp_92{a0:Int}{a1:Int}{a2:iw}:Rp (.agg [I a0,I a1,(L 1 (L 1 I)) a2]) zO (zT.mk a0 a1 a2):=⟨rfl⟩
instance sli_98:zHx J0 98 101:=⟨Gj⟩
instance sli_103:zHx J0 103 92:=⟨Gb⟩
instance var_101:kC J0 101 iq 3:=⟨fun u h1 h2=>⟨_,_,Ur,zQ G7,by rw[h1];rfl,by rw[h2];rfl⟩⟩
instance zer_101:zGy J0 101 (T.agg [L 1 I [],L 1 I [],L 1 I []]):=⟨_,_,zQ G7,rfl,rfl,rfl,rfl⟩
instance var_26:kC J0 26 iq 3:=⟨fun u h1 h2=>⟨_,_,Gm,zQ Tryz.type26,by rw[h1];rfl,by rw[h2];rfl⟩⟩
instance var_28:kC J0 28 iq 3:=⟨fun u h1 h2=>⟨_,_,Gl,zQ Tryz.type28,by rw[h1];rfl,by rw[h2];rfl⟩⟩
instance elt_147:ElT J0 147 3 Jd6 1 (I 0):=⟨Uq,zQ Jas,⟨_,rfl,rfl⟩,rfl,Nat.le_of_ble_eq_true rfl,rfl,rfl,Nat.le_of_ble_eq_true rfl⟩
instance row_147:zBJ J0 147 3 Jd6 1:=⟨Uq,zQ Jas,rfl⟩
instance sli_147:zHx J0 147 3:=⟨Uq⟩
instance var_3:kC J0 3 io 1:=⟨fun u h1 h2=>⟨_,_,Ua,zQ Jas,by rw[h1];rfl,by rw[h2];rfl⟩⟩
instance bld_33:zHv J0 33 [L 1 I [],L 1 (L 1 I) [],L 1 (L 1 (L 1 I)) []]:=⟨_,_,fun ps=>uS (zQ H7) Hk rfl (places:=[(0,1),(1,1),(2,1)]) (by simp[zQ L5,zQ L4,zQ Hw];decide) ps,rfl,rfl,(by intro i u hu;match i,hu with|0,hu=>cases hu;rfl|1,hu=>cases hu;rfl|2,hu=>cases hu;rfl|_+3,hu=>simp at hu)⟩
instance bld_48:zHv J0 48 [T.agg [L 1 I [],L 1 (L 1 I) [],L 1 (L 1 (L 1 I)) []],T.agg [L 1 I [],L 1 (L 1 I) [],L 1 (L 1 (L 1 I)) []],L 1 (L 1 I) []]:=⟨_,_,fun ps=>uS (zQ Ja5) Hj rfl (places:=[(0,3),(3,3),(6,1)]) (by simp[zQ L4,zQ H7];decide) ps,rfl,rfl,(by intro i u hu;match i,hu with|0,hu=>cases hu;rfl|1,hu=>cases hu;rfl|2,hu=>cases hu;rfl|_+3,hu=>simp at hu)⟩
instance var_48:kC J0 48 iq 7:=⟨fun u h1 h2=>⟨_,_,Hj,zQ Ja5,by rw[h1];rfl,by rw[h2];rfl⟩⟩
instance zer_48:zGy J0 48 (T.agg [T.agg [L 1 I [],L 1 (L 1 I) [],L 1 (L 1 (L 1 I)) []],T.agg [L 1 I [],L 1 (L 1 I) [],L 1 (L 1 (L 1 I)) []],L 1 (L 1 I) []]):=⟨_,_,zQ Ja5,rfl,rfl,rfl,rfl⟩
instance fld_48_0:sO J0 48 0 0:=⟨_,_,_,Hj,rfl,zQ H7,by decide,rfl⟩
instance fld_48_1:sO J0 48 1 3:=⟨_,_,_,Hj,rfl,zQ H7,by decide,rfl⟩
instance fld_48_2:sO J0 48 2 6:=⟨_,_,_,Hj,rfl,zQ L4,by decide,rfl⟩
end Go.Wk
