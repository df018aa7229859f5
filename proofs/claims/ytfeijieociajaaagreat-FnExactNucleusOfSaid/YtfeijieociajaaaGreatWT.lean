/- The program's NucleusOf returns what the reference's returns,for all arguments;no conditions. -/
import Derived.Test.YtfeijieociajaaaGreatAbC
import Derived.Test.YtfeijieociajaaaGreatWF
import Derived.Test.YtfeijieociajaaaGreatProg
open Go.Proofs.Tryz renaming prog->J0,type23->Ky,type22->L5,underlying23->L6,type2->Lb,underlying22->Lv,underlying35->H3,underlying2->H6,underlying132->Hd,underlying75->Hi,underlying72->Hj,underlying30->Hk,type24->Ht,type192->Hx,type115->Hy,underlying119->G7,underlying117->G8,underlying112->G9,underlying77->Gi,underlying41->Gj,underlying26->Gk,underlying24->Gl,type72->Gm,type35->Gp,type30->Gs,type56->U6,underlying3->U9,underlying192->Ub,underlying190->Uc,underlying182->Ud,underlying162->Uf,underlying115->Ug,type132->Ul,type117->Um,type77->Ur,type75->Us,t22->Uz,t192->Q7,t115->Q8,type112->Qb,type90->Qj,t35->Qk,t23->Ql,type3->Qy,t2->Ja5,t132->Jbf,t117->Jbg,t112->Jbh,t77->Jbq,t75->Jbr,t72->Jbs,t30->Jbt,t24->Jbu,t3->Jby
open Option renaming some->jh,none->ji
open Bool renaming true->jj,false->jk
namespace Go.Wk
open Go Go.Proofs Go.Ab
abbrev lV:=L 1 I
abbrev lM:=L 1 lV
abbrev lC:=L 1 lM
abbrev zBL(x:zL):T:=T.agg [I x.Prime,I x.vN,T.ro (lM x.Rows)]
abbrev jW(x:zG):T:=T.agg [I x.Prime,I x.Dim,T.ro (lC x.zM)]
abbrev qPr(x:SPr):T:=T.agg [T.ro (lV x.zA),T.ro (lM x.zP),T.ro (lC x.zE)]
abbrev xH(x:zC):T:=T.agg [T.ro (lV x.x),T.ro (lV x.v)]
abbrev xR(x:zQ):T:=T.agg [T.agg [T.ro (lV x.p.zA),T.ro (lM x.p.zP),T.ro (lC x.p.zE)],T.agg [I x.m.Prime,I x.m.Dim,T.ro (lC x.m.zM)],T.ro (lM x.zOh)]
theorem zL7:J0.follows .mixedOrders=jj:=rfl
instance:Mix J0:=⟨zL7⟩
instance sli_22:zGx J0 22 2:=⟨Lv⟩
instance row_23:zAJ J0 23 22 Uz 1:=⟨L6,zO L5,rfl⟩
instance sli_23:zGx J0 23 22:=⟨L6⟩
instance var_22:qT J0 22 jj 1:=⟨fun u h1 h2=>⟨_,_,Lv,zO L5,by rw[h1];rfl,by rw[h2];rfl⟩⟩
instance row_24:zAJ J0 24 23 Ql 1:=⟨Gl,zO Ky,rfl⟩
instance sli_24:zGx J0 24 23:=⟨Gl⟩
instance var_23:qT J0 23 jj 1:=⟨fun u h1 h2=>⟨_,_,L6,zO Ky,by rw[h1];rfl,by rw[h2];rfl⟩⟩
instance fld_26_0:sH J0 26 0 0:=⟨_,_,_,Gk,rfl,zO L5,by decide,rfl⟩
instance fld_26_1:sH J0 26 1 1:=⟨_,_,_,Gk,rfl,zO Ky,by decide,rfl⟩
instance fld_26_2:sH J0 26 2 2:=⟨_,_,_,Gk,rfl,zO Ht,by decide,rfl⟩
instance var_24:qT J0 24 jj 1:=⟨fun u h1 h2=>⟨_,_,Gl,zO Ht,by rw[h1];rfl,by rw[h2];rfl⟩⟩
instance elt_22:ElT J0 22 2 Ja5 1 (I 0):=⟨Lv,zO Lb,⟨_,rfl,rfl⟩,rfl,Nat.le_of_ble_eq_true rfl,rfl,rfl,Nat.le_of_ble_eq_true rfl⟩
theorem yEW:J0.info? 2=jh Ja5:=zO Lb
instance infI_2:zAz J0 2 Ja5:=⟨yEW⟩
instance mkz_22:MkZ J0 22 I 0 (I 0):=⟨rfl⟩
instance row_22:zAJ J0 22 2 Ja5 1:=⟨Lv,zO Lb,rfl⟩
instance var_2:qT J0 2 jj 1:=⟨fun u h1 h2=>⟨_,_,H6,zO Lb,by rw[h1];rfl,by rw[h2];rfl⟩⟩
instance elt_23:ElT J0 23 22 Uz 1 (L 1 I []):=⟨L6,zO L5,⟨_,rfl,rfl⟩,rfl,Nat.le_of_ble_eq_true rfl,rfl,rfl,Nat.le_of_ble_eq_true rfl⟩
theorem yC9:J0.info? 22=jh Uz:=zO L5
instance infI_22:zAz J0 22 Uz:=⟨yC9⟩
instance mkz_23:MkZ J0 23 (L 1 I) ([]:jn) (L 1 I []):=⟨rfl⟩
instance elt_24:ElT J0 24 23 Ql 1 (L 1 (L 1 I) []):=⟨Gl,zO Ky,⟨_,rfl,rfl⟩,rfl,Nat.le_of_ble_eq_true rfl,rfl,rfl,Nat.le_of_ble_eq_true rfl⟩
theorem yCA:J0.info? 23=jh Ql:=zO Ky
instance infI_23:zAz J0 23 Ql:=⟨yCA⟩
instance mkz_24:MkZ J0 24 (L 1 (L 1 I)) ([]:jo) (L 1 (L 1 I) []):=⟨rfl⟩
instance fld_30_0:sH J0 30 0 0:=⟨_,_,_,Hk,rfl,zO L5,by decide,rfl⟩
instance fld_30_1:sH J0 30 1 1:=⟨_,_,_,Hk,rfl,zO Ky,by decide,rfl⟩
instance fld_30_2:sH J0 30 2 2:=⟨_,_,_,Hk,rfl,zO Ht,by decide,rfl⟩
theorem yCB:J0.info? 24=jh Jbu:=zO Ht
instance infI_24:zAz J0 24 Jbu:=⟨yCB⟩
theorem yCC:J0.info? 30=jh Jbt:=zO Gs
instance infI_30:zAz J0 30 Jbt:=⟨yCC⟩
instance var_30:qT J0 30 jk 3:=⟨fun u h1 h2=>⟨_,_,Hk,zO Gs,by rw[h1];rfl,by rw[h2];rfl⟩⟩
instance zer_30:zHt J0 30 (T.agg [L 1 I [],L 1 (L 1 I) [],L 1 (L 1 (L 1 I)) []]):=⟨_,_,zO Gs,rfl,rfl,rfl,rfl⟩
instance bld_132:zGv J0 132 [I 0,I 0,I 0,I 0]:=⟨_,_,fun ps=>uF (zO Ul) Hd rfl (places:=[(0,1),(1,1),(2,1),(3,1)]) (by simp[zO Lb];decide) ps,rfl,rfl,(by intro i u hu;match i,hu with|0,hu=>cases hu;rfl|1,hu=>cases hu;rfl|2,hu=>cases hu;rfl|3,hu=>cases hu;rfl|_+4,hu=>simp at hu)⟩
theorem zZA:J0.info? 132=jh Jbf:=zO Ul
instance infI_132:zAz J0 132 Jbf:=⟨zZA⟩
instance var_132:qT J0 132 jk 4:=⟨fun u h1 h2=>⟨_,_,Hd,zO Ul,by rw[h1];rfl,by rw[h2];rfl⟩⟩
instance zer_132:zHt J0 132 (T.agg [I 0,I 0,I 0,I 0]):=⟨_,_,zO Ul,rfl,rfl,rfl,rfl⟩
instance fld_132_0:sH J0 132 0 0:=⟨_,_,_,Hd,rfl,zO Lb,by decide,rfl⟩
theorem zQh{u:T}(h1:u.single=jj)(h2:u.size=1):∃(ds:TypeDesc)(ti:TypeInfo)(fs:Array Field)(f:Field),J0.underlying 132=jh (.struct fs)/\fs[0]? =jh f/\J0.underlying f.type=jh ds/\J0.info? f.type=jh ti/\zFk ds= !u.single/\ti.size=u.size:=⟨_,_,_,_,Hd,rfl,H6,zO Lb,by rw[h1];rfl,by rw[h2];rfl⟩
instance fldw_132_0:yBb J0 132 0 jj 1:=⟨fun _ h1 h2=>zQh h1 h2⟩
instance bld_72:zGv J0 72 [I 0,I 0,L 1 (L 1 (L 1 I)) []]:=⟨_,_,fun ps=>uF (zO Gm) Hj rfl (places:=[(0,1),(1,1),(2,1)]) (by simp[zO Lb,zO Ht];decide) ps,rfl,rfl,(by intro i u hu;match i,hu with|0,hu=>cases hu;rfl|1,hu=>cases hu;rfl|2,hu=>cases hu;rfl|_+3,hu=>simp at hu)⟩
instance fld_72_2:sH J0 72 2 2:=⟨_,_,_,Hj,rfl,zO Ht,by decide,rfl⟩
theorem yCD:J0.info? 72=jh Jbs:=zO Gm
instance infI_72:zAz J0 72 Jbs:=⟨yCD⟩
instance var_72:qT J0 72 jk 3:=⟨fun u h1 h2=>⟨_,_,Hj,zO Gm,by rw[h1];rfl,by rw[h2];rfl⟩⟩
instance zer_72:zHt J0 72 (T.agg [I 0,I 0,L 1 (L 1 (L 1 I)) []]):=⟨_,_,zO Gm,rfl,rfl,rfl,rfl⟩
instance fld_72_0:sH J0 72 0 0:=⟨_,_,_,Hj,rfl,zO Lb,by decide,rfl⟩
instance fld_72_1:sH J0 72 1 1:=⟨_,_,_,Hj,rfl,zO Lb,by decide,rfl⟩
instance bld_77:zGv J0 77 [L 1 I [],L 1 I []]:=⟨_,_,fun ps=>uF (zO Ur) Gi rfl (places:=[(0,1),(1,1)]) (by simp[zO L5];decide) ps,rfl,rfl,(by intro i u hu;match i,hu with|0,hu=>cases hu;rfl|1,hu=>cases hu;rfl|_+2,hu=>simp at hu)⟩
instance fld_75_0:sH J0 75 0 0:=⟨_,_,_,Hi,rfl,zO Gs,by decide,rfl⟩
instance fld_75_2:sH J0 75 2 6:=⟨_,_,_,Hi,rfl,zO Ky,by decide,rfl⟩
theorem yCE:J0.info? 77=jh Jbq:=zO Ur
instance infI_77:zAz J0 77 Jbq:=⟨yCE⟩
instance var_77:qT J0 77 jk 2:=⟨fun u h1 h2=>⟨_,_,Gi,zO Ur,by rw[h1];rfl,by rw[h2];rfl⟩⟩
instance zer_77:zHt J0 77 (T.agg [L 1 I [],L 1 I []]):=⟨_,_,zO Ur,rfl,rfl,rfl,rfl⟩
instance fld_75_1:sH J0 75 1 3:=⟨_,_,_,Hi,rfl,zO Gm,by decide,rfl⟩
instance fld_77_0:sH J0 77 0 0:=⟨_,_,_,Gi,rfl,zO L5,by decide,rfl⟩
instance fld_77_1:sH J0 77 1 1:=⟨_,_,_,Gi,rfl,zO L5,by decide,rfl⟩
instance var_75:qT J0 75 jk 7:=⟨fun u h1 h2=>⟨_,_,Hi,zO Us,by rw[h1];rfl,by rw[h2];rfl⟩⟩
instance bld_75:zGv J0 75 [T.agg [L 1 I [],L 1 (L 1 I) [],L 1 (L 1 (L 1 I)) []],T.agg [I 0,I 0,L 1 (L 1 (L 1 I)) []],L 1 (L 1 I) []]:=⟨_,_,fun ps=>uF (zO Us) Hi rfl (places:=[(0,3),(3,3),(6,1)]) (by simp[zO Ky,zO Gs,zO Gm];decide) ps,rfl,rfl,(by intro i u hu;match i,hu with|0,hu=>cases hu;rfl|1,hu=>cases hu;rfl|2,hu=>cases hu;rfl|_+3,hu=>simp at hu)⟩
theorem yCF:J0.info? 75=jh Jbr:=zO Us
instance infI_75:zAz J0 75 Jbr:=⟨yCF⟩
instance zer_75:zHt J0 75 (T.agg [T.agg [L 1 I [],L 1 (L 1 I) [],L 1 (L 1 (L 1 I)) []],T.agg [I 0,I 0,L 1 (L 1 (L 1 I)) []],L 1 (L 1 I) []]):=⟨_,_,zO Us,rfl,rfl,rfl,rfl⟩
instance eqs_132:zYc J0 132:=⟨⟨_,_,_,_,Hd,⟨by decide,rfl,H6⟩,⟨by decide,rfl,H6⟩,⟨by decide,rfl,H6⟩,⟨by decide,rfl,H6⟩⟩,Tryz.stoodInHeld132,Tryz.eqGuardType132⟩
instance bld_35:zGv J0 35 [I 0,I 0,L 1 (L 1 I) []]:=⟨_,_,fun ps=>uF (zO Gp) H3 rfl (places:=[(0,1),(1,1),(2,1)]) (by simp[zO Lb,zO Ky];decide) ps,rfl,rfl,(by intro i u hu;match i,hu with|0,hu=>cases hu;rfl|1,hu=>cases hu;rfl|2,hu=>cases hu;rfl|_+3,hu=>simp at hu)⟩
instance fld_35_2:sH J0 35 2 2:=⟨_,_,_,H3,rfl,zO Ky,by decide,rfl⟩
theorem yCG:J0.info? 35=jh Qk:=zO Gp
instance infI_35:zAz J0 35 Qk:=⟨yCG⟩
instance var_35:qT J0 35 jk 3:=⟨fun u h1 h2=>⟨_,_,H3,zO Gp,by rw[h1];rfl,by rw[h2];rfl⟩⟩
instance zer_35:zHt J0 35 (T.agg [I 0,I 0,L 1 (L 1 I) []]):=⟨_,_,zO Gp,rfl,rfl,rfl,rfl⟩
theorem zTz{u:T}(h1:u.single=jj)(h2:u.size=1):∃(ds:TypeDesc)(ti:TypeInfo)(fs:Array Field)(f:Field),J0.underlying 35=jh (.struct fs)/\fs[2]? =jh f/\J0.underlying f.type=jh ds/\J0.info? f.type=jh ti/\zFk ds= !u.single/\ti.size=u.size:=⟨_,_,_,_,H3,rfl,L6,zO Ky,by rw[h1];rfl,by rw[h2];rfl⟩
instance fldw_35_2:yBb J0 35 2 jj 1:=⟨fun _ h1 h2=>zTz h1 h2⟩
instance bld_115:zGv J0 115 [L 1 I [],L 1 I [],L 1 I []]:=⟨_,_,fun ps=>uF (zO Hy) Ug rfl (places:=[(0,1),(1,1),(2,1)]) (by simp[zO L5];decide) ps,rfl,rfl,(by intro i u hu;match i,hu with|0,hu=>cases hu;rfl|1,hu=>cases hu;rfl|2,hu=>cases hu;rfl|_+3,hu=>simp at hu)⟩
instance elt_112:ElT J0 112 115 Q8 3 (T.agg [L 1 I [],L 1 I [],L 1 I []]):=⟨G9,zO Hy,⟨_,rfl,rfl⟩,rfl,Nat.le_of_ble_eq_true rfl,rfl,rfl,Nat.le_of_ble_eq_true rfl⟩
theorem zRL:J0.info? 112=jh Jbh:=zO Qb
instance infI_112:zAz J0 112 Jbh:=⟨zRL⟩
instance rp_115{a0:jn}{a1:jn}{a2:jn}:Rp (.agg [(L 1 I) a0,(L 1 I) a1,(L 1 I) a2]) zK (zI.mk a0 a1 a2):=⟨rfl⟩
instance(priority:=8) rq_115{t0 t1 t2:T}{a0:jn}{a1:jn}{a2:jn}[h0:Rp t0 (L 1 I) a0][h1:Rp t1 (L 1 I) a1][h2:Rp t2 (L 1 I) a2]:Rp (.agg [t0,t1,t2]) zK (zI.mk a0 a1 a2):=⟨by rw[h0.h,h1.h,h2.h]⟩
instance var_56:qT J0 56 jj 1:=⟨fun u h1 h2=>⟨_,_,Tryz.underlying56,zO U6,by rw[h1];rfl,by rw[h2];rfl⟩⟩
instance var_112:qT J0 112 jj 1:=⟨fun u h1 h2=>⟨_,_,G9,zO Qb,by rw[h1];rfl,by rw[h2];rfl⟩⟩
instance row_112:zAJ J0 112 115 Q8 3:=⟨G9,zO Hy,rfl⟩
instance zer_112:zHt J0 112 (L 3 zK []):=⟨_,_,zO Qb,rfl,rfl,rfl,rfl⟩
instance fld_119_0:sH J0 119 0 0:=⟨_,_,_,G7,rfl,zO U6,by decide,rfl⟩
instance fld_35_0:sH J0 35 0 0:=⟨_,_,_,H3,rfl,zO Lb,by decide,rfl⟩
instance fld_35_1:sH J0 35 1 1:=⟨_,_,_,H3,rfl,zO Lb,by decide,rfl⟩
instance fld_119_1:sH J0 119 1 1:=⟨_,_,_,G7,rfl,zO Qj,by decide,rfl⟩
instance fld_119_2:sH J0 119 2 2:=⟨_,_,_,G7,rfl,zO Um,by decide,rfl⟩
instance row_117:zAJ J0 117 35 Qk 3:=⟨G8,zO Gp,rfl⟩
instance var_90:qT J0 90 jj 1:=⟨fun u h1 h2=>⟨_,_,Tryz.underlying90,zO Qj,by rw[h1];rfl,by rw[h2];rfl⟩⟩
instance var_117:qT J0 117 jj 1:=⟨fun u h1 h2=>⟨_,_,G8,zO Um,by rw[h1];rfl,by rw[h2];rfl⟩⟩
instance bld_119:zGv J0 119 [T.lit (.pointer ji),T.lit (.pointer ji),L 3 xL []]:=⟨_,_,fun ps=>uF (zO Tryz.type119) G7 rfl (places:=[(0,1),(1,1),(2,1)]) (by simp[zO Um,zO U6,zO Qj];decide) ps,rfl,rfl,(by intro i u hu;match i,hu with|0,hu=>cases hu;rfl|1,hu=>cases hu;rfl|2,hu=>cases hu;rfl|_+3,hu=>simp at hu)⟩
instance elt_117:ElT J0 117 35 Qk 3 (T.agg [I 0,I 0,L 1 (L 1 I) []]):=⟨G8,zO Gp,⟨_,rfl,rfl⟩,rfl,Nat.le_of_ble_eq_true rfl,rfl,rfl,Nat.le_of_ble_eq_true rfl⟩
instance fld_115_0:sH J0 115 0 0:=⟨_,_,_,Ug,rfl,zO L5,by decide,rfl⟩
theorem zZB:J0.info? 115=jh Q8:=zO Hy
instance infI_115:zAz J0 115 Q8:=⟨zZB⟩
theorem zZC:J0.info? 117=jh Jbg:=zO Um
instance infI_117:zAz J0 117 Jbg:=⟨zZC⟩
instance rp_35{a0:Int}{a1:Int}{a2:jo}:Rp (.agg [I a0,I a1,(L 1 (L 1 I)) a2]) xL (zL.mk a0 a1 a2):=⟨rfl⟩
instance(priority:=8) rq_35{t0 t1 t2:T}{a0:Int}{a1:Int}{a2:jo}[h0:Rp t0 I a0][h1:Rp t1 I a1][h2:Rp t2 (L 1 (L 1 I)) a2]:Rp (.agg [t0,t1,t2]) xL (zL.mk a0 a1 a2):=⟨by rw[h0.h,h1.h,h2.h]⟩
instance sli_112:zGx J0 112 115:=⟨G9⟩
instance sli_117:zGx J0 117 35:=⟨G8⟩
instance var_115:qT J0 115 jk 3:=⟨fun u h1 h2=>⟨_,_,Ug,zO Hy,by rw[h1];rfl,by rw[h2];rfl⟩⟩
instance zer_115:zHt J0 115 (T.agg [L 1 I [],L 1 I [],L 1 I []]):=⟨_,_,zO Hy,rfl,rfl,rfl,rfl⟩
instance bld_192:zGv J0 192 [L 1 I [],L 1 I []]:=⟨_,_,fun ps=>zLK (zO Hx) Ub rfl (zO L5) ps,rfl,rfl,(by intro i u hu;match i,hu with|0,hu=>cases hu;rfl|1,hu=>cases hu;rfl|_+2,hu=>simp at hu)⟩
instance elt_190:ElT J0 190 192 Q7 2 (T.agg [L 1 I ((([]:jn),([]:jn)).1),L 1 I ((([]:jn),([]:jn)).2)]):=⟨Uc,zO Hx,⟨_,rfl,rfl⟩,rfl,Nat.le_of_ble_eq_true rfl,rfl,rfl,Nat.le_of_ble_eq_true rfl⟩
instance row_190:zAJ J0 190 192 Q7 2:=⟨Uc,zO Hx,rfl⟩
instance arr_192:zYf J0 192 22 Uz 2 1:=⟨Ub,zO L5,rfl⟩
theorem zZD:J0.info? 192=jh Q7:=zO Hx
instance infI_192:zAz J0 192 Q7:=⟨zZD⟩
instance sli_190:zGx J0 190 192:=⟨Uc⟩
instance var_192:qT J0 192 jk 2:=⟨fun u h1 h2=>⟨_,_,Ub,zO Hx,by rw[h1];rfl,by rw[h2];rfl⟩⟩
instance zer_192:zHt J0 192 (T.agg [L 1 I ((([]:jn),([]:jn)).1),L 1 I ((([]:jn),([]:jn)).2)]):=⟨_,_,zO Hx,rfl,rfl,rfl,rfl⟩
instance elt_162:ElT J0 162 3 Jby 1 (I 0):=⟨Uf,zO Qy,⟨_,rfl,rfl⟩,rfl,Nat.le_of_ble_eq_true rfl,rfl,rfl,Nat.le_of_ble_eq_true rfl⟩
instance row_162:zAJ J0 162 3 Jby 1:=⟨Uf,zO Qy,rfl⟩
instance sli_162:zGx J0 162 3:=⟨Uf⟩
instance var_3:qT J0 3 jj 1:=⟨fun u h1 h2=>⟨_,_,U9,zO Qy,by rw[h1];rfl,by rw[h2];rfl⟩⟩
instance bld_30:zGv J0 30 [L 1 I [],L 1 (L 1 I) [],L 1 (L 1 (L 1 I)) []]:=⟨_,_,fun ps=>uF (zO Gs) Hk rfl (places:=[(0,1),(1,1),(2,1)]) (by simp[zO L5,zO Ky,zO Ht];decide) ps,rfl,rfl,(by intro i u hu;match i,hu with|0,hu=>cases hu;rfl|1,hu=>cases hu;rfl|2,hu=>cases hu;rfl|_+3,hu=>simp at hu)⟩
instance bld_182:zGv J0 182 [T.lit (.pointer ji),L 1 (Ro (Nz 1 I)) []]:=⟨_,_,fun ps=>uF (zO Tryz.type182) Ud rfl (places:=[(0,1),(1,1)]) (by simp[zO Ky,zO U6];decide) ps,rfl,rfl,(by intro i u hu;match i,hu with|0,hu=>cases hu;rfl|1,hu=>cases hu;rfl|_+2,hu=>simp at hu)⟩
instance fld_182_0:sH J0 182 0 0:=⟨_,_,_,Ud,rfl,zO U6,by decide,rfl⟩
instance fld_182_1:sH J0 182 1 1:=⟨_,_,_,Ud,rfl,zO Ky,by decide,rfl⟩
instance var_26:qT J0 26 jk 3:=⟨fun u h1 h2=>⟨_,_,Gk,zO Tryz.type26,by rw[h1];rfl,by rw[h2];rfl⟩⟩
instance mvh_14:MvH J0 14 [(0,[0,0]),(1,[1,0]),(2,[2,0])] 2:=⟨⟩
instance mvh_15:MvH J0 15 [(2,[2,0])] 2:=⟨⟩
instance fld_41_2:sH J0 41 2 2:=⟨_,_,_,Gj,rfl,zO Ky,by decide,rfl⟩
instance fld_41_0:sH J0 41 0 0:=⟨_,_,_,Gj,rfl,zO Lb,by decide,rfl⟩
instance fld_41_1:sH J0 41 1 1:=⟨_,_,_,Gj,rfl,zO Lb,by decide,rfl⟩
instance var_41:qT J0 41 jk 3:=⟨fun u h1 h2=>⟨_,_,Gj,zO Tryz.type41,by rw[h1];rfl,by rw[h2];rfl⟩⟩
end Go.Wk
