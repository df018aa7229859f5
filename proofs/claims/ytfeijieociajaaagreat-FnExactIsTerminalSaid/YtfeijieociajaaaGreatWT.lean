/- The program's IsTerminal returns what the reference's returns,for all arguments;no conditions. -/
import Derived.Test.YtfeijieociajaaaGreatAbC
import Derived.Test.YtfeijieociajaaaGreatWF
import Derived.Test.YtfeijieociajaaaGreatProg
open Go.Proofs.Tryz renaming prog->J0,type23->Kw,type22->L4,type2->L9,underlying22->Ll,underlying23->Lp,underlying35->H2,underlying2->H6,underlying132->Hc,underlying75->Hh,underlying72->Hi,underlying30->Hj,type24->Ht,type192->Hx,type115->Hy,underlying119->G5,underlying117->G6,underlying112->G7,underlying77->Gf,underlying41->Gg,underlying26->Gi,underlying24->Gj,type72->Gk,type35->Gl,type30->Gm,type56->U3,underlying192->U8,underlying190->U9,underlying182->Ua,underlying162->Uc,underlying115->Ud,type132->Uh,type117->Ui,type77->Uq,type75->Ur,t22->Ux,t192->Q4,t115->Q5,type112->Q8,type90->Qf,t35->Qg,t23->Qh,underlying3->Qv,type3->Qw,t2->Ja2,t132->Jbf,t117->Jbg,t112->Jbh,t77->Jbq,t75->Jbr,t72->Jbs,t30->Jbt,t24->Jbu,t3->Jby
open Option renaming some->jd,none->je
open Bool renaming true->jf,false->jg
namespace Go.Wk
open Go Go.Proofs Go.Ab
abbrev lV:=L 1 I
abbrev lM:=L 1 lV
abbrev lC:=L 1 lM
abbrev zGE(x:zS):T:=T.agg [I x.Prime,I x.tC,T.ro (lM x.Rows)]
abbrev jT(x:zE):T:=T.agg [I x.Prime,I x.Dim,T.ro (lC x.zL)]
abbrev qPr(x:SPr):T:=T.agg [T.ro (lV x.zA),T.ro (lM x.zP),T.ro (lC x.zF)]
abbrev xH(x:zC):T:=T.agg [T.ro (lV x.x),T.ro (lV x.v)]
abbrev xQ(x:zO):T:=T.agg [T.agg [T.ro (lV x.p.zA),T.ro (lM x.p.zP),T.ro (lC x.p.zF)],T.agg [I x.m.Prime,I x.m.Dim,T.ro (lC x.m.zL)],T.ro (lM x.zNR)]
theorem zLt:J0.follows .mixedOrders=jf:=rfl
instance:Mix J0:=⟨zLt⟩
instance sli_22:zGm J0 22 2:=⟨Ll⟩
instance row_23:zAH J0 23 22 Ux 1:=⟨Lp,zM L4,rfl⟩
instance sli_23:zGm J0 23 22:=⟨Lp⟩
instance var_22:qV J0 22 jf 1:=⟨fun u h1 h2=>⟨_,_,Ll,zM L4,by rw[h1];rfl,by rw[h2];rfl⟩⟩
instance row_24:zAH J0 24 23 Qh 1:=⟨Gj,zM Kw,rfl⟩
instance sli_24:zGm J0 24 23:=⟨Gj⟩
instance var_23:qV J0 23 jf 1:=⟨fun u h1 h2=>⟨_,_,Lp,zM Kw,by rw[h1];rfl,by rw[h2];rfl⟩⟩
instance fld_26_0:sG J0 26 0 0:=⟨_,_,_,Gi,rfl,zM L4,by decide,rfl⟩
instance fld_26_1:sG J0 26 1 1:=⟨_,_,_,Gi,rfl,zM Kw,by decide,rfl⟩
instance fld_26_2:sG J0 26 2 2:=⟨_,_,_,Gi,rfl,zM Ht,by decide,rfl⟩
instance var_24:qV J0 24 jf 1:=⟨fun u h1 h2=>⟨_,_,Gj,zM Ht,by rw[h1];rfl,by rw[h2];rfl⟩⟩
instance elt_22:ElT J0 22 2 Ja2 1 (I 0):=⟨Ll,zM L9,⟨_,rfl,rfl⟩,rfl,Nat.le_of_ble_eq_true rfl,rfl,rfl,Nat.le_of_ble_eq_true rfl⟩
theorem yEv:J0.info? 2=jd Ja2:=zM L9
instance infI_2:zAv J0 2 Ja2:=⟨yEv⟩
instance mkz_22:MkZ J0 22 I 0 (I 0):=⟨rfl⟩
instance row_22:zAH J0 22 2 Ja2 1:=⟨Ll,zM L9,rfl⟩
instance var_2:qV J0 2 jf 1:=⟨fun u h1 h2=>⟨_,_,H6,zM L9,by rw[h1];rfl,by rw[h2];rfl⟩⟩
instance elt_23:ElT J0 23 22 Ux 1 (L 1 I []):=⟨Lp,zM L4,⟨_,rfl,rfl⟩,rfl,Nat.le_of_ble_eq_true rfl,rfl,rfl,Nat.le_of_ble_eq_true rfl⟩
theorem yBZ:J0.info? 22=jd Ux:=zM L4
instance infI_22:zAv J0 22 Ux:=⟨yBZ⟩
instance mkz_23:MkZ J0 23 (L 1 I) ([]:jj) (L 1 I []):=⟨rfl⟩
instance elt_24:ElT J0 24 23 Qh 1 (L 1 (L 1 I) []):=⟨Gj,zM Kw,⟨_,rfl,rfl⟩,rfl,Nat.le_of_ble_eq_true rfl,rfl,rfl,Nat.le_of_ble_eq_true rfl⟩
theorem yCa:J0.info? 23=jd Qh:=zM Kw
instance infI_23:zAv J0 23 Qh:=⟨yCa⟩
instance mkz_24:MkZ J0 24 (L 1 (L 1 I)) ([]:jk) (L 1 (L 1 I) []):=⟨rfl⟩
instance fld_30_0:sG J0 30 0 0:=⟨_,_,_,Hj,rfl,zM L4,by decide,rfl⟩
instance fld_30_1:sG J0 30 1 1:=⟨_,_,_,Hj,rfl,zM Kw,by decide,rfl⟩
instance fld_30_2:sG J0 30 2 2:=⟨_,_,_,Hj,rfl,zM Ht,by decide,rfl⟩
theorem yCb:J0.info? 24=jd Jbu:=zM Ht
instance infI_24:zAv J0 24 Jbu:=⟨yCb⟩
theorem yCc:J0.info? 30=jd Jbt:=zM Gm
instance infI_30:zAv J0 30 Jbt:=⟨yCc⟩
instance var_30:qV J0 30 jg 3:=⟨fun u h1 h2=>⟨_,_,Hj,zM Gm,by rw[h1];rfl,by rw[h2];rfl⟩⟩
instance zer_30:zHg J0 30 (T.agg [L 1 I [],L 1 (L 1 I) [],L 1 (L 1 (L 1 I)) []]):=⟨_,_,zM Gm,rfl,rfl,rfl,rfl⟩
instance bld_132:zGk J0 132 [I 0,I 0,I 0,I 0]:=⟨_,_,fun ps=>uD (zM Uh) Hc rfl (places:=[(0,1),(1,1),(2,1),(3,1)]) (by simp[zM L9];decide) ps,rfl,rfl,(by intro i u hu;match i,hu with|0,hu=>cases hu;rfl|1,hu=>cases hu;rfl|2,hu=>cases hu;rfl|3,hu=>cases hu;rfl|_+4,hu=>simp at hu)⟩
theorem zZb:J0.info? 132=jd Jbf:=zM Uh
instance infI_132:zAv J0 132 Jbf:=⟨zZb⟩
instance var_132:qV J0 132 jg 4:=⟨fun u h1 h2=>⟨_,_,Hc,zM Uh,by rw[h1];rfl,by rw[h2];rfl⟩⟩
instance zer_132:zHg J0 132 (T.agg [I 0,I 0,I 0,I 0]):=⟨_,_,zM Uh,rfl,rfl,rfl,rfl⟩
instance fld_132_0:sG J0 132 0 0:=⟨_,_,_,Hc,rfl,zM L9,by decide,rfl⟩
theorem zPK{u:T}(h1:u.single=jf)(h2:u.size=1):∃(ds:TypeDesc)(ti:TypeInfo)(fs:Array Field)(f:Field),J0.underlying 132=jd (.struct fs)/\fs[0]? =jd f/\J0.underlying f.type=jd ds/\J0.info? f.type=jd ti/\zEZ ds= !u.single/\ti.size=u.size:=⟨_,_,_,_,Hc,rfl,H6,zM L9,by rw[h1];rfl,by rw[h2];rfl⟩
instance fldw_132_0:yA3 J0 132 0 jf 1:=⟨fun _ h1 h2=>zPK h1 h2⟩
instance bld_72:zGk J0 72 [I 0,I 0,L 1 (L 1 (L 1 I)) []]:=⟨_,_,fun ps=>uD (zM Gk) Hi rfl (places:=[(0,1),(1,1),(2,1)]) (by simp[zM L9,zM Ht];decide) ps,rfl,rfl,(by intro i u hu;match i,hu with|0,hu=>cases hu;rfl|1,hu=>cases hu;rfl|2,hu=>cases hu;rfl|_+3,hu=>simp at hu)⟩
instance fld_72_2:sG J0 72 2 2:=⟨_,_,_,Hi,rfl,zM Ht,by decide,rfl⟩
theorem yCd:J0.info? 72=jd Jbs:=zM Gk
instance infI_72:zAv J0 72 Jbs:=⟨yCd⟩
instance var_72:qV J0 72 jg 3:=⟨fun u h1 h2=>⟨_,_,Hi,zM Gk,by rw[h1];rfl,by rw[h2];rfl⟩⟩
instance zer_72:zHg J0 72 (T.agg [I 0,I 0,L 1 (L 1 (L 1 I)) []]):=⟨_,_,zM Gk,rfl,rfl,rfl,rfl⟩
instance fld_72_0:sG J0 72 0 0:=⟨_,_,_,Hi,rfl,zM L9,by decide,rfl⟩
instance fld_72_1:sG J0 72 1 1:=⟨_,_,_,Hi,rfl,zM L9,by decide,rfl⟩
instance bld_77:zGk J0 77 [L 1 I [],L 1 I []]:=⟨_,_,fun ps=>uD (zM Uq) Gf rfl (places:=[(0,1),(1,1)]) (by simp[zM L4];decide) ps,rfl,rfl,(by intro i u hu;match i,hu with|0,hu=>cases hu;rfl|1,hu=>cases hu;rfl|_+2,hu=>simp at hu)⟩
instance fld_75_0:sG J0 75 0 0:=⟨_,_,_,Hh,rfl,zM Gm,by decide,rfl⟩
instance fld_75_2:sG J0 75 2 6:=⟨_,_,_,Hh,rfl,zM Kw,by decide,rfl⟩
theorem yCe:J0.info? 77=jd Jbq:=zM Uq
instance infI_77:zAv J0 77 Jbq:=⟨yCe⟩
instance var_77:qV J0 77 jg 2:=⟨fun u h1 h2=>⟨_,_,Gf,zM Uq,by rw[h1];rfl,by rw[h2];rfl⟩⟩
instance zer_77:zHg J0 77 (T.agg [L 1 I [],L 1 I []]):=⟨_,_,zM Uq,rfl,rfl,rfl,rfl⟩
instance fld_75_1:sG J0 75 1 3:=⟨_,_,_,Hh,rfl,zM Gk,by decide,rfl⟩
instance fld_77_0:sG J0 77 0 0:=⟨_,_,_,Gf,rfl,zM L4,by decide,rfl⟩
instance fld_77_1:sG J0 77 1 1:=⟨_,_,_,Gf,rfl,zM L4,by decide,rfl⟩
instance var_75:qV J0 75 jg 7:=⟨fun u h1 h2=>⟨_,_,Hh,zM Ur,by rw[h1];rfl,by rw[h2];rfl⟩⟩
instance bld_75:zGk J0 75 [T.agg [L 1 I [],L 1 (L 1 I) [],L 1 (L 1 (L 1 I)) []],T.agg [I 0,I 0,L 1 (L 1 (L 1 I)) []],L 1 (L 1 I) []]:=⟨_,_,fun ps=>uD (zM Ur) Hh rfl (places:=[(0,3),(3,3),(6,1)]) (by simp[zM Kw,zM Gm,zM Gk];decide) ps,rfl,rfl,(by intro i u hu;match i,hu with|0,hu=>cases hu;rfl|1,hu=>cases hu;rfl|2,hu=>cases hu;rfl|_+3,hu=>simp at hu)⟩
theorem yCf:J0.info? 75=jd Jbr:=zM Ur
instance infI_75:zAv J0 75 Jbr:=⟨yCf⟩
instance zer_75:zHg J0 75 (T.agg [T.agg [L 1 I [],L 1 (L 1 I) [],L 1 (L 1 (L 1 I)) []],T.agg [I 0,I 0,L 1 (L 1 (L 1 I)) []],L 1 (L 1 I) []]):=⟨_,_,zM Ur,rfl,rfl,rfl,rfl⟩
instance eqs_132:zX7 J0 132:=⟨⟨_,_,_,_,Hc,⟨by decide,rfl,H6⟩,⟨by decide,rfl,H6⟩,⟨by decide,rfl,H6⟩,⟨by decide,rfl,H6⟩⟩,Tryz.stoodInHeld132,Tryz.eqGuardType132⟩
instance bld_35:zGk J0 35 [I 0,I 0,L 1 (L 1 I) []]:=⟨_,_,fun ps=>uD (zM Gl) H2 rfl (places:=[(0,1),(1,1),(2,1)]) (by simp[zM L9,zM Kw];decide) ps,rfl,rfl,(by intro i u hu;match i,hu with|0,hu=>cases hu;rfl|1,hu=>cases hu;rfl|2,hu=>cases hu;rfl|_+3,hu=>simp at hu)⟩
instance fld_35_2:sG J0 35 2 2:=⟨_,_,_,H2,rfl,zM Kw,by decide,rfl⟩
theorem yCg:J0.info? 35=jd Qg:=zM Gl
instance infI_35:zAv J0 35 Qg:=⟨yCg⟩
instance var_35:qV J0 35 jg 3:=⟨fun u h1 h2=>⟨_,_,H2,zM Gl,by rw[h1];rfl,by rw[h2];rfl⟩⟩
instance zer_35:zHg J0 35 (T.agg [I 0,I 0,L 1 (L 1 I) []]):=⟨_,_,zM Gl,rfl,rfl,rfl,rfl⟩
theorem zSX{u:T}(h1:u.single=jf)(h2:u.size=1):∃(ds:TypeDesc)(ti:TypeInfo)(fs:Array Field)(f:Field),J0.underlying 35=jd (.struct fs)/\fs[2]? =jd f/\J0.underlying f.type=jd ds/\J0.info? f.type=jd ti/\zEZ ds= !u.single/\ti.size=u.size:=⟨_,_,_,_,H2,rfl,Lp,zM Kw,by rw[h1];rfl,by rw[h2];rfl⟩
instance fldw_35_2:yA3 J0 35 2 jf 1:=⟨fun _ h1 h2=>zSX h1 h2⟩
instance bld_115:zGk J0 115 [L 1 I [],L 1 I [],L 1 I []]:=⟨_,_,fun ps=>uD (zM Hy) Ud rfl (places:=[(0,1),(1,1),(2,1)]) (by simp[zM L4];decide) ps,rfl,rfl,(by intro i u hu;match i,hu with|0,hu=>cases hu;rfl|1,hu=>cases hu;rfl|2,hu=>cases hu;rfl|_+3,hu=>simp at hu)⟩
instance elt_112:ElT J0 112 115 Q5 3 (T.agg [L 1 I [],L 1 I [],L 1 I []]):=⟨G7,zM Hy,⟨_,rfl,rfl⟩,rfl,Nat.le_of_ble_eq_true rfl,rfl,rfl,Nat.le_of_ble_eq_true rfl⟩
theorem zRv:J0.info? 112=jd Jbh:=zM Q8
instance infI_112:zAv J0 112 Jbh:=⟨zRv⟩
instance rp_115{a0:jj}{a1:jj}{a2:jj}:Rp (.agg [(L 1 I) a0,(L 1 I) a1,(L 1 I) a2]) zK (zI.mk a0 a1 a2):=⟨rfl⟩
instance(priority:=8) rq_115{t0 t1 t2:T}{a0:jj}{a1:jj}{a2:jj}[h0:Rp t0 (L 1 I) a0][h1:Rp t1 (L 1 I) a1][h2:Rp t2 (L 1 I) a2]:Rp (.agg [t0,t1,t2]) zK (zI.mk a0 a1 a2):=⟨by rw[h0.h,h1.h,h2.h]⟩
instance var_56:qV J0 56 jf 1:=⟨fun u h1 h2=>⟨_,_,Tryz.underlying56,zM U3,by rw[h1];rfl,by rw[h2];rfl⟩⟩
instance var_112:qV J0 112 jf 1:=⟨fun u h1 h2=>⟨_,_,G7,zM Q8,by rw[h1];rfl,by rw[h2];rfl⟩⟩
instance row_112:zAH J0 112 115 Q5 3:=⟨G7,zM Hy,rfl⟩
instance zer_112:zHg J0 112 (L 3 zK []):=⟨_,_,zM Q8,rfl,rfl,rfl,rfl⟩
instance fld_119_0:sG J0 119 0 0:=⟨_,_,_,G5,rfl,zM U3,by decide,rfl⟩
instance fld_35_0:sG J0 35 0 0:=⟨_,_,_,H2,rfl,zM L9,by decide,rfl⟩
instance fld_35_1:sG J0 35 1 1:=⟨_,_,_,H2,rfl,zM L9,by decide,rfl⟩
instance fld_119_1:sG J0 119 1 1:=⟨_,_,_,G5,rfl,zM Qf,by decide,rfl⟩
instance fld_119_2:sG J0 119 2 2:=⟨_,_,_,G5,rfl,zM Ui,by decide,rfl⟩
instance row_117:zAH J0 117 35 Qg 3:=⟨G6,zM Gl,rfl⟩
instance var_90:qV J0 90 jf 1:=⟨fun u h1 h2=>⟨_,_,Tryz.underlying90,zM Qf,by rw[h1];rfl,by rw[h2];rfl⟩⟩
instance var_117:qV J0 117 jf 1:=⟨fun u h1 h2=>⟨_,_,G6,zM Ui,by rw[h1];rfl,by rw[h2];rfl⟩⟩
instance bld_119:zGk J0 119 [T.lit (.pointer je),T.lit (.pointer je),L 3 wB []]:=⟨_,_,fun ps=>uD (zM Tryz.type119) G5 rfl (places:=[(0,1),(1,1),(2,1)]) (by simp[zM Ui,zM U3,zM Qf];decide) ps,rfl,rfl,(by intro i u hu;match i,hu with|0,hu=>cases hu;rfl|1,hu=>cases hu;rfl|2,hu=>cases hu;rfl|_+3,hu=>simp at hu)⟩
instance elt_117:ElT J0 117 35 Qg 3 (T.agg [I 0,I 0,L 1 (L 1 I) []]):=⟨G6,zM Gl,⟨_,rfl,rfl⟩,rfl,Nat.le_of_ble_eq_true rfl,rfl,rfl,Nat.le_of_ble_eq_true rfl⟩
instance fld_115_0:sG J0 115 0 0:=⟨_,_,_,Ud,rfl,zM L4,by decide,rfl⟩
theorem zZc:J0.info? 115=jd Q5:=zM Hy
instance infI_115:zAv J0 115 Q5:=⟨zZc⟩
theorem zZd:J0.info? 117=jd Jbg:=zM Ui
instance infI_117:zAv J0 117 Jbg:=⟨zZd⟩
instance rp_35{a0:Int}{a1:Int}{a2:jk}:Rp (.agg [I a0,I a1,(L 1 (L 1 I)) a2]) wB (zS.mk a0 a1 a2):=⟨rfl⟩
instance(priority:=8) rq_35{t0 t1 t2:T}{a0:Int}{a1:Int}{a2:jk}[h0:Rp t0 I a0][h1:Rp t1 I a1][h2:Rp t2 (L 1 (L 1 I)) a2]:Rp (.agg [t0,t1,t2]) wB (zS.mk a0 a1 a2):=⟨by rw[h0.h,h1.h,h2.h]⟩
instance sli_112:zGm J0 112 115:=⟨G7⟩
instance sli_117:zGm J0 117 35:=⟨G6⟩
instance var_115:qV J0 115 jg 3:=⟨fun u h1 h2=>⟨_,_,Ud,zM Hy,by rw[h1];rfl,by rw[h2];rfl⟩⟩
instance zer_115:zHg J0 115 (T.agg [L 1 I [],L 1 I [],L 1 I []]):=⟨_,_,zM Hy,rfl,rfl,rfl,rfl⟩
instance bld_192:zGk J0 192 [L 1 I [],L 1 I []]:=⟨_,_,fun ps=>zL6 (zM Hx) U8 rfl (zM L4) ps,rfl,rfl,(by intro i u hu;match i,hu with|0,hu=>cases hu;rfl|1,hu=>cases hu;rfl|_+2,hu=>simp at hu)⟩
instance elt_190:ElT J0 190 192 Q4 2 (T.agg [L 1 I ((([]:jj),([]:jj)).1),L 1 I ((([]:jj),([]:jj)).2)]):=⟨U9,zM Hx,⟨_,rfl,rfl⟩,rfl,Nat.le_of_ble_eq_true rfl,rfl,rfl,Nat.le_of_ble_eq_true rfl⟩
instance row_190:zAH J0 190 192 Q4 2:=⟨U9,zM Hx,rfl⟩
instance arr_192:zX8 J0 192 22 Ux 2 1:=⟨U8,zM L4,rfl⟩
theorem zZe:J0.info? 192=jd Q4:=zM Hx
instance infI_192:zAv J0 192 Q4:=⟨zZe⟩
instance sli_190:zGm J0 190 192:=⟨U9⟩
instance var_192:qV J0 192 jg 2:=⟨fun u h1 h2=>⟨_,_,U8,zM Hx,by rw[h1];rfl,by rw[h2];rfl⟩⟩
instance zer_192:zHg J0 192 (T.agg [L 1 I ((([]:jj),([]:jj)).1),L 1 I ((([]:jj),([]:jj)).2)]):=⟨_,_,zM Hx,rfl,rfl,rfl,rfl⟩
instance elt_162:ElT J0 162 3 Jby 1 (I 0):=⟨Uc,zM Qw,⟨_,rfl,rfl⟩,rfl,Nat.le_of_ble_eq_true rfl,rfl,rfl,Nat.le_of_ble_eq_true rfl⟩
instance row_162:zAH J0 162 3 Jby 1:=⟨Uc,zM Qw,rfl⟩
instance sli_162:zGm J0 162 3:=⟨Uc⟩
instance var_3:qV J0 3 jf 1:=⟨fun u h1 h2=>⟨_,_,Qv,zM Qw,by rw[h1];rfl,by rw[h2];rfl⟩⟩
instance bld_30:zGk J0 30 [L 1 I [],L 1 (L 1 I) [],L 1 (L 1 (L 1 I)) []]:=⟨_,_,fun ps=>uD (zM Gm) Hj rfl (places:=[(0,1),(1,1),(2,1)]) (by simp[zM L4,zM Kw,zM Ht];decide) ps,rfl,rfl,(by intro i u hu;match i,hu with|0,hu=>cases hu;rfl|1,hu=>cases hu;rfl|2,hu=>cases hu;rfl|_+3,hu=>simp at hu)⟩
instance bld_182:zGk J0 182 [T.lit (.pointer je),L 1 (Ro (Nz 1 I)) []]:=⟨_,_,fun ps=>uD (zM Tryz.type182) Ua rfl (places:=[(0,1),(1,1)]) (by simp[zM Kw,zM U3];decide) ps,rfl,rfl,(by intro i u hu;match i,hu with|0,hu=>cases hu;rfl|1,hu=>cases hu;rfl|_+2,hu=>simp at hu)⟩
instance fld_182_0:sG J0 182 0 0:=⟨_,_,_,Ua,rfl,zM U3,by decide,rfl⟩
instance fld_182_1:sG J0 182 1 1:=⟨_,_,_,Ua,rfl,zM Kw,by decide,rfl⟩
instance boo_4:zZ3 J0 4:=⟨Tryz.underlying4⟩
instance var_26:qV J0 26 jg 3:=⟨fun u h1 h2=>⟨_,_,Gi,zM Tryz.type26,by rw[h1];rfl,by rw[h2];rfl⟩⟩
instance fld_41_2:sG J0 41 2 2:=⟨_,_,_,Gg,rfl,zM Kw,by decide,rfl⟩
instance fld_41_0:sG J0 41 0 0:=⟨_,_,_,Gg,rfl,zM L9,by decide,rfl⟩
instance fld_41_1:sG J0 41 1 1:=⟨_,_,_,Gg,rfl,zM L9,by decide,rfl⟩
instance var_41:qV J0 41 jg 3:=⟨fun u h1 h2=>⟨_,_,Gg,zM Tryz.type41,by rw[h1];rfl,by rw[h2];rfl⟩⟩
end Go.Wk
