/- The program's IsAllowable returns what the reference's returns,for all arguments;no conditions. -/
import Derived.Test.YtfeijieociajaaaGreatAbC
import Derived.Test.YtfeijieociajaaaGreatWF
import Derived.Test.YtfeijieociajaaaGreatProg
open Go.Proofs.Tryz renaming prog->J0,type23->Kz,type22->L6,underlying23->L7,type2->Lb,underlying22->Lv,underlying35->H3,underlying2->H5,underlying132->Hc,underlying75->Hh,underlying72->Hi,underlying30->Hj,type24->Ht,type192->Hx,type115->Hy,underlying119->G5,underlying117->G6,underlying112->G7,underlying77->Gb,underlying41->Gf,underlying26->Gg,underlying24->Gi,type72->Gj,type35->Gk,type30->Gl,type56->U2,underlying3->U5,underlying192->U8,underlying190->U9,underlying182->Ua,underlying162->Uc,underlying115->Ud,type132->Ui,type117->Uj,type77->Uq,type75->Ur,t22->Ux,t192->Q5,t115->Q6,type112->Q9,type90->Qh,t35->Qi,t23->Qj,type3->Qx,t2->Ja3,t132->Jbe,t117->Jbf,t112->Jbg,t77->Jbp,t75->Jbq,t72->Jbr,t30->Jbs,t24->Jbt,t3->Jbx
open Option renaming some->jf,none->jg
open Bool renaming true->jh,false->ji
namespace Go.Wk
open Go Go.Proofs Go.Ab
abbrev lV:=L 1 I
abbrev lM:=L 1 lV
abbrev lC:=L 1 lM
abbrev vP(x:zI):T:=T.agg [I x.Prime,I x.xF,T.ro (lM x.Rows)]
abbrev jW(x:zF):T:=T.agg [I x.Prime,I x.Dim,T.ro (lC x.zM)]
abbrev qPr(x:SPr):T:=T.agg [T.ro (lV x.zA),T.ro (lM x.zQ),T.ro (lC x.zG)]
abbrev xI(x:zC):T:=T.agg [T.ro (lV x.x),T.ro (lV x.v)]
abbrev xS(x:zP):T:=T.agg [T.agg [T.ro (lV x.p.zA),T.ro (lM x.p.zQ),T.ro (lC x.p.zG)],T.agg [I x.m.Prime,I x.m.Dim,T.ro (lC x.m.zM)],T.ro (lM x.zOb)]
theorem zIA:J0.follows .mixedOrders=jh:=rfl
instance:Mix J0:=⟨zIA⟩
instance sli_22:zGx J0 22 2:=⟨Lv⟩
instance row_23:zAN J0 23 22 Ux 1:=⟨L7,zN L6,rfl⟩
instance sli_23:zGx J0 23 22:=⟨L7⟩
instance var_22:qY J0 22 jh 1:=⟨fun u h1 h2=>⟨_,_,Lv,zN L6,by rw[h1];rfl,by rw[h2];rfl⟩⟩
instance row_24:zAN J0 24 23 Qj 1:=⟨Gi,zN Kz,rfl⟩
instance sli_24:zGx J0 24 23:=⟨Gi⟩
instance var_23:qY J0 23 jh 1:=⟨fun u h1 h2=>⟨_,_,L7,zN Kz,by rw[h1];rfl,by rw[h2];rfl⟩⟩
instance fld_26_0:sJ J0 26 0 0:=⟨_,_,_,Gg,rfl,zN L6,by decide,rfl⟩
instance fld_26_1:sJ J0 26 1 1:=⟨_,_,_,Gg,rfl,zN Kz,by decide,rfl⟩
instance fld_26_2:sJ J0 26 2 2:=⟨_,_,_,Gg,rfl,zN Ht,by decide,rfl⟩
instance var_24:qY J0 24 jh 1:=⟨fun u h1 h2=>⟨_,_,Gi,zN Ht,by rw[h1];rfl,by rw[h2];rfl⟩⟩
instance elt_22:ElT J0 22 2 Ja3 1 (I 0):=⟨Lv,zN Lb,⟨_,rfl,rfl⟩,rfl,Nat.le_of_ble_eq_true rfl,rfl,rfl,Nat.le_of_ble_eq_true rfl⟩
theorem yFe:J0.info? 2=jf Ja3:=zN Lb
instance infI_2:zA1 J0 2 Ja3:=⟨yFe⟩
instance mkz_22:MkZ J0 22 I 0 (I 0):=⟨rfl⟩
instance row_22:zAN J0 22 2 Ja3 1:=⟨Lv,zN Lb,rfl⟩
instance var_2:qY J0 2 jh 1:=⟨fun u h1 h2=>⟨_,_,H5,zN Lb,by rw[h1];rfl,by rw[h2];rfl⟩⟩
instance elt_23:ElT J0 23 22 Ux 1 (L 1 I []):=⟨L7,zN L6,⟨_,rfl,rfl⟩,rfl,Nat.le_of_ble_eq_true rfl,rfl,rfl,Nat.le_of_ble_eq_true rfl⟩
theorem yCG:J0.info? 22=jf Ux:=zN L6
instance infI_22:zA1 J0 22 Ux:=⟨yCG⟩
instance mkz_23:MkZ J0 23 (L 1 I) ([]:jl) (L 1 I []):=⟨rfl⟩
instance elt_24:ElT J0 24 23 Qj 1 (L 1 (L 1 I) []):=⟨Gi,zN Kz,⟨_,rfl,rfl⟩,rfl,Nat.le_of_ble_eq_true rfl,rfl,rfl,Nat.le_of_ble_eq_true rfl⟩
theorem yCH:J0.info? 23=jf Qj:=zN Kz
instance infI_23:zA1 J0 23 Qj:=⟨yCH⟩
instance mkz_24:MkZ J0 24 (L 1 (L 1 I)) ([]:jm) (L 1 (L 1 I) []):=⟨rfl⟩
instance fld_30_0:sJ J0 30 0 0:=⟨_,_,_,Hj,rfl,zN L6,by decide,rfl⟩
instance fld_30_1:sJ J0 30 1 1:=⟨_,_,_,Hj,rfl,zN Kz,by decide,rfl⟩
instance fld_30_2:sJ J0 30 2 2:=⟨_,_,_,Hj,rfl,zN Ht,by decide,rfl⟩
theorem yCI:J0.info? 24=jf Jbt:=zN Ht
instance infI_24:zA1 J0 24 Jbt:=⟨yCI⟩
theorem yCJ:J0.info? 30=jf Jbs:=zN Gl
instance infI_30:zA1 J0 30 Jbs:=⟨yCJ⟩
instance var_30:qY J0 30 ji 3:=⟨fun u h1 h2=>⟨_,_,Hj,zN Gl,by rw[h1];rfl,by rw[h2];rfl⟩⟩
instance zer_30:zHs J0 30 (T.agg [L 1 I [],L 1 (L 1 I) [],L 1 (L 1 (L 1 I)) []]):=⟨_,_,zN Gl,rfl,rfl,rfl,rfl⟩
instance bld_132:zGv J0 132 [I 0,I 0,I 0,I 0]:=⟨_,_,fun ps=>uF (zN Ui) Hc rfl (places:=[(0,1),(1,1),(2,1),(3,1)]) (by simp[zN Lb];decide) ps,rfl,rfl,(by intro i u hu;match i,hu with|0,hu=>cases hu;rfl|1,hu=>cases hu;rfl|2,hu=>cases hu;rfl|3,hu=>cases hu;rfl|_+4,hu=>simp at hu)⟩
theorem zZA:J0.info? 132=jf Jbe:=zN Ui
instance infI_132:zA1 J0 132 Jbe:=⟨zZA⟩
instance var_132:qY J0 132 ji 4:=⟨fun u h1 h2=>⟨_,_,Hc,zN Ui,by rw[h1];rfl,by rw[h2];rfl⟩⟩
instance zer_132:zHs J0 132 (T.agg [I 0,I 0,I 0,I 0]):=⟨_,_,zN Ui,rfl,rfl,rfl,rfl⟩
instance fld_132_0:sJ J0 132 0 0:=⟨_,_,_,Hc,rfl,zN Lb,by decide,rfl⟩
theorem zPX{u:T}(h1:u.single=jh)(h2:u.size=1):∃(ds:TypeDesc)(ti:TypeInfo)(fs:Array Field)(f:Field),J0.underlying 132=jf (.struct fs)/\fs[0]? =jf f/\J0.underlying f.type=jf ds/\J0.info? f.type=jf ti/\zFl ds= !u.single/\ti.size=u.size:=⟨_,_,_,_,Hc,rfl,H5,zN Lb,by rw[h1];rfl,by rw[h2];rfl⟩
instance fldw_132_0:yBg J0 132 0 jh 1:=⟨fun _ h1 h2=>zPX h1 h2⟩
instance bld_72:zGv J0 72 [I 0,I 0,L 1 (L 1 (L 1 I)) []]:=⟨_,_,fun ps=>uF (zN Gj) Hi rfl (places:=[(0,1),(1,1),(2,1)]) (by simp[zN Lb,zN Ht];decide) ps,rfl,rfl,(by intro i u hu;match i,hu with|0,hu=>cases hu;rfl|1,hu=>cases hu;rfl|2,hu=>cases hu;rfl|_+3,hu=>simp at hu)⟩
instance fld_72_2:sJ J0 72 2 2:=⟨_,_,_,Hi,rfl,zN Ht,by decide,rfl⟩
theorem yCK:J0.info? 72=jf Jbr:=zN Gj
instance infI_72:zA1 J0 72 Jbr:=⟨yCK⟩
instance var_72:qY J0 72 ji 3:=⟨fun u h1 h2=>⟨_,_,Hi,zN Gj,by rw[h1];rfl,by rw[h2];rfl⟩⟩
instance zer_72:zHs J0 72 (T.agg [I 0,I 0,L 1 (L 1 (L 1 I)) []]):=⟨_,_,zN Gj,rfl,rfl,rfl,rfl⟩
instance fld_72_0:sJ J0 72 0 0:=⟨_,_,_,Hi,rfl,zN Lb,by decide,rfl⟩
instance fld_72_1:sJ J0 72 1 1:=⟨_,_,_,Hi,rfl,zN Lb,by decide,rfl⟩
instance bld_77:zGv J0 77 [L 1 I [],L 1 I []]:=⟨_,_,fun ps=>uF (zN Uq) Gb rfl (places:=[(0,1),(1,1)]) (by simp[zN L6];decide) ps,rfl,rfl,(by intro i u hu;match i,hu with|0,hu=>cases hu;rfl|1,hu=>cases hu;rfl|_+2,hu=>simp at hu)⟩
instance fld_75_0:sJ J0 75 0 0:=⟨_,_,_,Hh,rfl,zN Gl,by decide,rfl⟩
instance fld_75_2:sJ J0 75 2 6:=⟨_,_,_,Hh,rfl,zN Kz,by decide,rfl⟩
theorem yCL:J0.info? 77=jf Jbp:=zN Uq
instance infI_77:zA1 J0 77 Jbp:=⟨yCL⟩
instance var_77:qY J0 77 ji 2:=⟨fun u h1 h2=>⟨_,_,Gb,zN Uq,by rw[h1];rfl,by rw[h2];rfl⟩⟩
instance zer_77:zHs J0 77 (T.agg [L 1 I [],L 1 I []]):=⟨_,_,zN Uq,rfl,rfl,rfl,rfl⟩
instance fld_75_1:sJ J0 75 1 3:=⟨_,_,_,Hh,rfl,zN Gj,by decide,rfl⟩
instance fld_77_0:sJ J0 77 0 0:=⟨_,_,_,Gb,rfl,zN L6,by decide,rfl⟩
instance fld_77_1:sJ J0 77 1 1:=⟨_,_,_,Gb,rfl,zN L6,by decide,rfl⟩
instance var_75:qY J0 75 ji 7:=⟨fun u h1 h2=>⟨_,_,Hh,zN Ur,by rw[h1];rfl,by rw[h2];rfl⟩⟩
instance bld_75:zGv J0 75 [T.agg [L 1 I [],L 1 (L 1 I) [],L 1 (L 1 (L 1 I)) []],T.agg [I 0,I 0,L 1 (L 1 (L 1 I)) []],L 1 (L 1 I) []]:=⟨_,_,fun ps=>uF (zN Ur) Hh rfl (places:=[(0,3),(3,3),(6,1)]) (by simp[zN Kz,zN Gl,zN Gj];decide) ps,rfl,rfl,(by intro i u hu;match i,hu with|0,hu=>cases hu;rfl|1,hu=>cases hu;rfl|2,hu=>cases hu;rfl|_+3,hu=>simp at hu)⟩
theorem yCM:J0.info? 75=jf Jbq:=zN Ur
instance infI_75:zA1 J0 75 Jbq:=⟨yCM⟩
instance zer_75:zHs J0 75 (T.agg [T.agg [L 1 I [],L 1 (L 1 I) [],L 1 (L 1 (L 1 I)) []],T.agg [I 0,I 0,L 1 (L 1 (L 1 I)) []],L 1 (L 1 I) []]):=⟨_,_,zN Ur,rfl,rfl,rfl,rfl⟩
instance eqs_132:zYb J0 132:=⟨⟨_,_,_,_,Hc,⟨by decide,rfl,H5⟩,⟨by decide,rfl,H5⟩,⟨by decide,rfl,H5⟩,⟨by decide,rfl,H5⟩⟩,Tryz.stoodInHeld132,Tryz.eqGuardType132⟩
instance bld_35:zGv J0 35 [I 0,I 0,L 1 (L 1 I) []]:=⟨_,_,fun ps=>uF (zN Gk) H3 rfl (places:=[(0,1),(1,1),(2,1)]) (by simp[zN Lb,zN Kz];decide) ps,rfl,rfl,(by intro i u hu;match i,hu with|0,hu=>cases hu;rfl|1,hu=>cases hu;rfl|2,hu=>cases hu;rfl|_+3,hu=>simp at hu)⟩
instance fld_35_2:sJ J0 35 2 2:=⟨_,_,_,H3,rfl,zN Kz,by decide,rfl⟩
theorem yCN:J0.info? 35=jf Qi:=zN Gk
instance infI_35:zA1 J0 35 Qi:=⟨yCN⟩
instance var_35:qY J0 35 ji 3:=⟨fun u h1 h2=>⟨_,_,H3,zN Gk,by rw[h1];rfl,by rw[h2];rfl⟩⟩
instance zer_35:zHs J0 35 (T.agg [I 0,I 0,L 1 (L 1 I) []]):=⟨_,_,zN Gk,rfl,rfl,rfl,rfl⟩
theorem zTv{u:T}(h1:u.single=jh)(h2:u.size=1):∃(ds:TypeDesc)(ti:TypeInfo)(fs:Array Field)(f:Field),J0.underlying 35=jf (.struct fs)/\fs[2]? =jf f/\J0.underlying f.type=jf ds/\J0.info? f.type=jf ti/\zFl ds= !u.single/\ti.size=u.size:=⟨_,_,_,_,H3,rfl,L7,zN Kz,by rw[h1];rfl,by rw[h2];rfl⟩
instance fldw_35_2:yBg J0 35 2 jh 1:=⟨fun _ h1 h2=>zTv h1 h2⟩
instance bld_115:zGv J0 115 [L 1 I [],L 1 I [],L 1 I []]:=⟨_,_,fun ps=>uF (zN Hy) Ud rfl (places:=[(0,1),(1,1),(2,1)]) (by simp[zN L6];decide) ps,rfl,rfl,(by intro i u hu;match i,hu with|0,hu=>cases hu;rfl|1,hu=>cases hu;rfl|2,hu=>cases hu;rfl|_+3,hu=>simp at hu)⟩
instance elt_112:ElT J0 112 115 Q6 3 (T.agg [L 1 I [],L 1 I [],L 1 I []]):=⟨G7,zN Hy,⟨_,rfl,rfl⟩,rfl,Nat.le_of_ble_eq_true rfl,rfl,rfl,Nat.le_of_ble_eq_true rfl⟩
theorem zRD:J0.info? 112=jf Jbg:=zN Q9
instance infI_112:zA1 J0 112 Jbg:=⟨zRD⟩
instance rp_115{a0:jl}{a1:jl}{a2:jl}:Rp (.agg [(L 1 I) a0,(L 1 I) a1,(L 1 I) a2]) zL (zJ.mk a0 a1 a2):=⟨rfl⟩
instance(priority:=8) rq_115{t0 t1 t2:T}{a0:jl}{a1:jl}{a2:jl}[h0:Rp t0 (L 1 I) a0][h1:Rp t1 (L 1 I) a1][h2:Rp t2 (L 1 I) a2]:Rp (.agg [t0,t1,t2]) zL (zJ.mk a0 a1 a2):=⟨by rw[h0.h,h1.h,h2.h]⟩
instance var_56:qY J0 56 jh 1:=⟨fun u h1 h2=>⟨_,_,Tryz.underlying56,zN U2,by rw[h1];rfl,by rw[h2];rfl⟩⟩
instance var_112:qY J0 112 jh 1:=⟨fun u h1 h2=>⟨_,_,G7,zN Q9,by rw[h1];rfl,by rw[h2];rfl⟩⟩
instance row_112:zAN J0 112 115 Q6 3:=⟨G7,zN Hy,rfl⟩
instance zer_112:zHs J0 112 (L 3 zL []):=⟨_,_,zN Q9,rfl,rfl,rfl,rfl⟩
instance fld_119_0:sJ J0 119 0 0:=⟨_,_,_,G5,rfl,zN U2,by decide,rfl⟩
instance fld_35_0:sJ J0 35 0 0:=⟨_,_,_,H3,rfl,zN Lb,by decide,rfl⟩
instance fld_35_1:sJ J0 35 1 1:=⟨_,_,_,H3,rfl,zN Lb,by decide,rfl⟩
instance fld_119_1:sJ J0 119 1 1:=⟨_,_,_,G5,rfl,zN Qh,by decide,rfl⟩
instance fld_119_2:sJ J0 119 2 2:=⟨_,_,_,G5,rfl,zN Uj,by decide,rfl⟩
instance row_117:zAN J0 117 35 Qi 3:=⟨G6,zN Gk,rfl⟩
instance var_90:qY J0 90 jh 1:=⟨fun u h1 h2=>⟨_,_,Tryz.underlying90,zN Qh,by rw[h1];rfl,by rw[h2];rfl⟩⟩
instance var_117:qY J0 117 jh 1:=⟨fun u h1 h2=>⟨_,_,G6,zN Uj,by rw[h1];rfl,by rw[h2];rfl⟩⟩
instance bld_119:zGv J0 119 [T.lit (.pointer jg),T.lit (.pointer jg),L 3 xU []]:=⟨_,_,fun ps=>uF (zN Tryz.type119) G5 rfl (places:=[(0,1),(1,1),(2,1)]) (by simp[zN Uj,zN U2,zN Qh];decide) ps,rfl,rfl,(by intro i u hu;match i,hu with|0,hu=>cases hu;rfl|1,hu=>cases hu;rfl|2,hu=>cases hu;rfl|_+3,hu=>simp at hu)⟩
instance elt_117:ElT J0 117 35 Qi 3 (T.agg [I 0,I 0,L 1 (L 1 I) []]):=⟨G6,zN Gk,⟨_,rfl,rfl⟩,rfl,Nat.le_of_ble_eq_true rfl,rfl,rfl,Nat.le_of_ble_eq_true rfl⟩
instance fld_115_0:sJ J0 115 0 0:=⟨_,_,_,Ud,rfl,zN L6,by decide,rfl⟩
theorem zZB:J0.info? 115=jf Q6:=zN Hy
instance infI_115:zA1 J0 115 Q6:=⟨zZB⟩
theorem zZC:J0.info? 117=jf Jbf:=zN Uj
instance infI_117:zA1 J0 117 Jbf:=⟨zZC⟩
instance rp_35{a0:Int}{a1:Int}{a2:jm}:Rp (.agg [I a0,I a1,(L 1 (L 1 I)) a2]) xU (zI.mk a0 a1 a2):=⟨rfl⟩
instance(priority:=8) rq_35{t0 t1 t2:T}{a0:Int}{a1:Int}{a2:jm}[h0:Rp t0 I a0][h1:Rp t1 I a1][h2:Rp t2 (L 1 (L 1 I)) a2]:Rp (.agg [t0,t1,t2]) xU (zI.mk a0 a1 a2):=⟨by rw[h0.h,h1.h,h2.h]⟩
instance sli_112:zGx J0 112 115:=⟨G7⟩
instance sli_117:zGx J0 117 35:=⟨G6⟩
instance var_115:qY J0 115 ji 3:=⟨fun u h1 h2=>⟨_,_,Ud,zN Hy,by rw[h1];rfl,by rw[h2];rfl⟩⟩
instance zer_115:zHs J0 115 (T.agg [L 1 I [],L 1 I [],L 1 I []]):=⟨_,_,zN Hy,rfl,rfl,rfl,rfl⟩
instance bld_192:zGv J0 192 [L 1 I [],L 1 I []]:=⟨_,_,fun ps=>zLF (zN Hx) U8 rfl (zN L6) ps,rfl,rfl,(by intro i u hu;match i,hu with|0,hu=>cases hu;rfl|1,hu=>cases hu;rfl|_+2,hu=>simp at hu)⟩
instance elt_190:ElT J0 190 192 Q5 2 (T.agg [L 1 I ((([]:jl),([]:jl)).1),L 1 I ((([]:jl),([]:jl)).2)]):=⟨U9,zN Hx,⟨_,rfl,rfl⟩,rfl,Nat.le_of_ble_eq_true rfl,rfl,rfl,Nat.le_of_ble_eq_true rfl⟩
instance row_190:zAN J0 190 192 Q5 2:=⟨U9,zN Hx,rfl⟩
instance arr_192:zYc J0 192 22 Ux 2 1:=⟨U8,zN L6,rfl⟩
theorem zZD:J0.info? 192=jf Q5:=zN Hx
instance infI_192:zA1 J0 192 Q5:=⟨zZD⟩
instance sli_190:zGx J0 190 192:=⟨U9⟩
instance var_192:qY J0 192 ji 2:=⟨fun u h1 h2=>⟨_,_,U8,zN Hx,by rw[h1];rfl,by rw[h2];rfl⟩⟩
instance zer_192:zHs J0 192 (T.agg [L 1 I ((([]:jl),([]:jl)).1),L 1 I ((([]:jl),([]:jl)).2)]):=⟨_,_,zN Hx,rfl,rfl,rfl,rfl⟩
instance elt_162:ElT J0 162 3 Jbx 1 (I 0):=⟨Uc,zN Qx,⟨_,rfl,rfl⟩,rfl,Nat.le_of_ble_eq_true rfl,rfl,rfl,Nat.le_of_ble_eq_true rfl⟩
instance row_162:zAN J0 162 3 Jbx 1:=⟨Uc,zN Qx,rfl⟩
instance sli_162:zGx J0 162 3:=⟨Uc⟩
instance var_3:qY J0 3 jh 1:=⟨fun u h1 h2=>⟨_,_,U5,zN Qx,by rw[h1];rfl,by rw[h2];rfl⟩⟩
instance bld_30:zGv J0 30 [L 1 I [],L 1 (L 1 I) [],L 1 (L 1 (L 1 I)) []]:=⟨_,_,fun ps=>uF (zN Gl) Hj rfl (places:=[(0,1),(1,1),(2,1)]) (by simp[zN L6,zN Kz,zN Ht];decide) ps,rfl,rfl,(by intro i u hu;match i,hu with|0,hu=>cases hu;rfl|1,hu=>cases hu;rfl|2,hu=>cases hu;rfl|_+3,hu=>simp at hu)⟩
instance bld_182:zGv J0 182 [T.lit (.pointer jg),L 1 (Ro (Nz 1 I)) []]:=⟨_,_,fun ps=>uF (zN Tryz.type182) Ua rfl (places:=[(0,1),(1,1)]) (by simp[zN Kz,zN U2];decide) ps,rfl,rfl,(by intro i u hu;match i,hu with|0,hu=>cases hu;rfl|1,hu=>cases hu;rfl|_+2,hu=>simp at hu)⟩
instance fld_182_0:sJ J0 182 0 0:=⟨_,_,_,Ua,rfl,zN U2,by decide,rfl⟩
instance fld_182_1:sJ J0 182 1 1:=⟨_,_,_,Ua,rfl,zN Kz,by decide,rfl⟩
instance boo_4:yAe J0 4:=⟨Tryz.underlying4⟩
instance var_26:qY J0 26 ji 3:=⟨fun u h1 h2=>⟨_,_,Gg,zN Tryz.type26,by rw[h1];rfl,by rw[h2];rfl⟩⟩
instance fld_41_2:sJ J0 41 2 2:=⟨_,_,_,Gf,rfl,zN Kz,by decide,rfl⟩
instance fld_41_0:sJ J0 41 0 0:=⟨_,_,_,Gf,rfl,zN Lb,by decide,rfl⟩
instance fld_41_1:sJ J0 41 1 1:=⟨_,_,_,Gf,rfl,zN Lb,by decide,rfl⟩
instance var_41:qY J0 41 ji 3:=⟨fun u h1 h2=>⟨_,_,Gf,zN Tryz.type41,by rw[h1];rfl,by rw[h2];rfl⟩⟩
end Go.Wk
