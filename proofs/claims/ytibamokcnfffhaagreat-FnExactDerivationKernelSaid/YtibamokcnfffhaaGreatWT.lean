/- The program's DerivationKernel returns what the reference's returns,for all arguments;no conditions. -/
import Derived.Test.YtibamokcnfffhaaGreatAbC
import Derived.Test.YtibamokcnfffhaaGreatWF
import Derived.Test.YtibamokcnfffhaaGreatProg
open Go.Proofs.Tryz renaming prog→J0,underlying22→Jy,type2→Kb,type23→Ki,underlying89→Ks,underlying2→Kx,underlying181→L5,type22→L8,underlying23→Lf,type115→Ll,underlying36→Lr,underlying34→Ls,underlying28→Lt,underlying26→Lu,underlying24→Lv,type24→Lw,underlying3→H4,underlying143→Hg,underlying129→Hh,underlying115→Hj,underlying113→Hk,type181→Hq,type89→Hz,t22→Ge,t115→Gm,type64→U4,type36→U5,type34→U6,t23→U7,type3→Ur,t2→Uv,t181→Jb3,t89→Jb8,t36→Jb9,t34→Jba,t24→Jbb,t3→Jbg
open Option renaming some→aN,none→aO
open Bool renaming true→aP,false→aQ
namespace Go.Wk
open Go Go.Proofs Go.Ab
abbrev lV:=L 1 I
abbrev lM:=L 1 lV
abbrev lC:=L 1 lM
abbrev zD8(x:zZ):T:=T.agg [I x.Prime,I x.tC,T.ro (lM x.Rows)]
abbrev xE(x:zD):T:=T.agg [I x.Prime,I x.Dim,T.ro (lC x.zL)]
abbrev qPr(x:SPr):T:=T.agg [T.ro (lV x.zA),T.ro (lM x.zW),T.ro (lC x.zB)]
theorem wU:J0.follows .mixedOrders=aP:=rfl
instance:Mix J0:=⟨wU⟩
instance sli_22:zGw J0 22 2:=⟨Jy⟩
instance row_23:zB3 J0 23 22 Ge 1:=⟨Lf,zN L8,rfl⟩
instance sli_23:zGw J0 23 22:=⟨Lf⟩
instance var_22:jD J0 22 aP 1:=⟨fun u h1 h2=>⟨_,_,Jy,zN L8,by rw[h1];rfl,by rw[h2];rfl⟩⟩
instance row_24:zB3 J0 24 23 U7 1:=⟨Lv,zN Ki,rfl⟩
instance sli_24:zGw J0 24 23:=⟨Lv⟩
instance var_23:jD J0 23 aP 1:=⟨fun u h1 h2=>⟨_,_,Lf,zN Ki,by rw[h1];rfl,by rw[h2];rfl⟩⟩
instance fld_26_0:sT J0 26 0 0:=⟨_,_,_,Lu,rfl,zN L8,by decide,rfl⟩
instance fld_26_1:sT J0 26 1 1:=⟨_,_,_,Lu,rfl,zN Ki,by decide,rfl⟩
instance fld_26_2:sT J0 26 2 2:=⟨_,_,_,Lu,rfl,zN Lw,by decide,rfl⟩
instance var_24:jD J0 24 aP 1:=⟨fun u h1 h2=>⟨_,_,Lv,zN Lw,by rw[h1];rfl,by rw[h2];rfl⟩⟩
instance fld_28_2:sT J0 28 2 2:=⟨_,_,_,Lt,rfl,zN Lw,by decide,rfl⟩
instance elt_22:ElT J0 22 2 Uv 1 (I 0):=⟨Jy,zN Kb,⟨_,rfl,rfl⟩,rfl,Nat.le_of_ble_eq_true rfl,rfl,rfl,Nat.le_of_ble_eq_true rfl⟩
theorem zQ5:J0.info? 2=aN Uv:=zN Kb
instance infI_2:zDv J0 2 Uv:=⟨zQ5⟩
instance mkz_22:MkZ J0 22 I 0 (I 0):=⟨rfl⟩
instance row_22:zB3 J0 22 2 Uv 1:=⟨Jy,zN Kb,rfl⟩
instance var_2:jD J0 2 aP 1:=⟨fun u h1 h2=>⟨_,_,Kx,zN Kb,by rw[h1];rfl,by rw[h2];rfl⟩⟩
instance elt_23:ElT J0 23 22 Ge 1 (L 1 I []):=⟨Lf,zN L8,⟨_,rfl,rfl⟩,rfl,Nat.le_of_ble_eq_true rfl,rfl,rfl,Nat.le_of_ble_eq_true rfl⟩
theorem zGI:J0.info? 22=aN Ge:=zN L8
instance infI_22:zDv J0 22 Ge:=⟨zGI⟩
instance mkz_23:MkZ J0 23 (L 1 I) ([]:aT) (L 1 I []):=⟨rfl⟩
instance elt_24:ElT J0 24 23 U7 1 (L 1 (L 1 I) []):=⟨Lv,zN Ki,⟨_,rfl,rfl⟩,rfl,Nat.le_of_ble_eq_true rfl,rfl,rfl,Nat.le_of_ble_eq_true rfl⟩
theorem zRE:J0.info? 23=aN U7:=zN Ki
instance infI_23:zDv J0 23 U7:=⟨zRE⟩
instance mkz_24:MkZ J0 24 (L 1 (L 1 I)) ([]:aU) (L 1 (L 1 I) []):=⟨rfl⟩
instance fld_34_0:sT J0 34 0 0:=⟨_,_,_,Ls,rfl,zN L8,by decide,rfl⟩
instance fld_34_1:sT J0 34 1 1:=⟨_,_,_,Ls,rfl,zN Ki,by decide,rfl⟩
instance fld_34_2:sT J0 34 2 2:=⟨_,_,_,Ls,rfl,zN Lw,by decide,rfl⟩
theorem zRF:J0.info? 24=aN Jbb:=zN Lw
instance infI_24:zDv J0 24 Jbb:=⟨zRF⟩
theorem zO7:J0.info? 34=aN Jba:=zN U6
instance infI_34:zDv J0 34 Jba:=⟨zO7⟩
instance var_34:jD J0 34 aQ 3:=⟨fun u h1 h2=>⟨_,_,Ls,zN U6,by rw[h1];rfl,by rw[h2];rfl⟩⟩
instance zer_34:zI5 J0 34 (T.agg [L 1 I [],L 1 (L 1 I) [],L 1 (L 1 (L 1 I)) []]):=⟨_,_,zN U6,rfl,rfl,rfl,rfl⟩
instance fld_28_0:sT J0 28 0 0:=⟨_,_,_,Lt,rfl,zN Kb,by decide,rfl⟩
instance fld_28_1:sT J0 28 1 1:=⟨_,_,_,Lt,rfl,zN Kb,by decide,rfl⟩
instance fld_36_0:sT J0 36 0 0:=⟨_,_,_,Lr,rfl,zN Kb,by decide,rfl⟩
instance fld_36_1:sT J0 36 1 1:=⟨_,_,_,Lr,rfl,zN Kb,by decide,rfl⟩
instance fld_36_2:sT J0 36 2 2:=⟨_,_,_,Lr,rfl,zN Lw,by decide,rfl⟩
theorem zO8:J0.info? 36=aN Jb9:=zN U5
instance infI_36:zDv J0 36 Jb9:=⟨zO8⟩
instance var_36:jD J0 36 aQ 3:=⟨fun u h1 h2=>⟨_,_,Lr,zN U5,by rw[h1];rfl,by rw[h2];rfl⟩⟩
instance zer_36:zI5 J0 36 (T.agg [I 0,I 0,L 1 (L 1 (L 1 I)) []]):=⟨_,_,zN U5,rfl,rfl,rfl,rfl⟩
instance bld_181:zK8 J0 181 [I 0,I 0,I 0,I 0]:=⟨_,_,fun ps=>kH (zN Hq) L5 rfl (places:=[(0,1),(1,1),(2,1),(3,1)]) (by simp[zN Kb];decide) ps,rfl,rfl,(by intro i u hu;match i,hu with|0,hu=>cases hu;rfl|1,hu=>cases hu;rfl|2,hu=>cases hu;rfl|3,hu=>cases hu;rfl|_+4,hu=>simp at hu)⟩
theorem zPT:J0.info? 181=aN Jb3:=zN Hq
instance infI_181:zDv J0 181 Jb3:=⟨zPT⟩
instance var_181:jD J0 181 aQ 4:=⟨fun u h1 h2=>⟨_,_,L5,zN Hq,by rw[h1];rfl,by rw[h2];rfl⟩⟩
instance zer_181:zI5 J0 181 (T.agg [I 0,I 0,I 0,I 0]):=⟨_,_,zN Hq,rfl,rfl,rfl,rfl⟩
instance fld_181_0:sT J0 181 0 0:=⟨_,_,_,L5,rfl,zN Kb,by decide,rfl⟩
theorem zJq{u:T}(h1:u.single=aP)(h2:u.size=1):∃(ds:TypeDesc)(ti:TypeInfo)(fs:Array Field)(f:Field),J0.underlying 181=aN (.struct fs)∧fs[0]? =aN f∧J0.underlying f.type=aN ds∧J0.info? f.type=aN ti∧zC2 ds= !u.single∧ti.size=u.size:=⟨_,_,_,_,L5,rfl,Kx,zN Kb,by rw[h1];rfl,by rw[h2];rfl⟩
instance fldw_181_0:zQT J0 181 0 aP 1:=⟨fun _ h1 h2=>zJq h1 h2⟩
instance eqs_181:zOV J0 181:=⟨⟨_,_,_,_,L5,⟨by decide,rfl,Kx⟩,⟨by decide,rfl,Kx⟩,⟨by decide,rfl,Kx⟩,⟨by decide,rfl,Kx⟩⟩,Tryz.stoodInHeld181,Tryz.eqGuardType181⟩
instance bld_89:zK8 J0 89 [I 0,I 0,L 1 (L 1 I) []]:=⟨_,_,fun ps=>kH (zN Hz) Ks rfl (places:=[(0,1),(1,1),(2,1)]) (by simp[zN Kb,zN Ki];decide) ps,rfl,rfl,(by intro i u hu;match i,hu with|0,hu=>cases hu;rfl|1,hu=>cases hu;rfl|2,hu=>cases hu;rfl|_+3,hu=>simp at hu)⟩
theorem zRG:J0.info? 89=aN Jb8:=zN Hz
instance infI_89:zDv J0 89 Jb8:=⟨zRG⟩
instance var_89:jD J0 89 aQ 3:=⟨fun u h1 h2=>⟨_,_,Ks,zN Hz,by rw[h1];rfl,by rw[h2];rfl⟩⟩
instance zer_89:zI5 J0 89 (T.agg [I 0,I 0,L 1 (L 1 I) []]):=⟨_,_,zN Hz,rfl,rfl,rfl,rfl⟩
instance fld_89_0:sT J0 89 0 0:=⟨_,_,_,Ks,rfl,zN Kb,by decide,rfl⟩
instance fld_89_1:sT J0 89 1 1:=⟨_,_,_,Ks,rfl,zN Kb,by decide,rfl⟩
instance fld_89_2:sT J0 89 2 2:=⟨_,_,_,Ks,rfl,zN Ki,by decide,rfl⟩
instance bld_115:zK8 J0 115 [L 1 I [],L 1 I []]:=⟨_,_,fun ps=>zGV (zN Ll) Hj rfl (zN L8) ps,rfl,rfl,(by intro i u hu;match i,hu with|0,hu=>cases hu;rfl|1,hu=>cases hu;rfl|_+2,hu=>simp at hu)⟩
instance elt_113:ElT J0 113 115 Gm 2 (T.agg [L 1 I ((([]:aT),([]:aT)).1),L 1 I ((([]:aT),([]:aT)).2)]):=⟨Hk,zN Ll,⟨_,rfl,rfl⟩,rfl,Nat.le_of_ble_eq_true rfl,rfl,rfl,Nat.le_of_ble_eq_true rfl⟩
instance row_113:zB3 J0 113 115 Gm 2:=⟨Hk,zN Ll,rfl⟩
instance arr_115:zOX J0 115 22 Ge 2 1:=⟨Hj,zN L8,rfl⟩
theorem zCX{u:T}(h1:u.single=aP)(h2:u.size=1):∃(ds:TypeDesc)(ti:TypeInfo)(fs:Array Field)(f:Field),J0.underlying 89=aN (.struct fs)∧fs[2]? =aN f∧J0.underlying f.type=aN ds∧J0.info? f.type=aN ti∧zC2 ds= !u.single∧ti.size=u.size:=⟨_,_,_,_,Ks,rfl,Lf,zN Ki,by rw[h1];rfl,by rw[h2];rfl⟩
instance fldw_89_2:zQT J0 89 2 aP 1:=⟨fun _ h1 h2=>zCX h1 h2⟩
theorem zKz:J0.info? 115=aN Gm:=zN Ll
instance infI_115:zDv J0 115 Gm:=⟨zKz⟩
instance sli_113:zGw J0 113 115:=⟨Hk⟩
instance var_115:jD J0 115 aQ 2:=⟨fun u h1 h2=>⟨_,_,Hj,zN Ll,by rw[h1];rfl,by rw[h2];rfl⟩⟩
instance zer_115:zI5 J0 115 (T.agg [L 1 I ((([]:aT),([]:aT)).1),L 1 I ((([]:aT),([]:aT)).2)]):=⟨_,_,zN Ll,rfl,rfl,rfl,rfl⟩
instance bld_143:zK8 J0 143 [T.lit (.pointer aO),L 1 (Ro (Nz 1 I)) []]:=⟨_,_,fun ps=>kH (zN Tryz.type143) Hg rfl (places:=[(0,1),(1,1)]) (by simp[zN Ki,zN U4];decide) ps,rfl,rfl,(by intro i u hu;match i,hu with|0,hu=>cases hu;rfl|1,hu=>cases hu;rfl|_+2,hu=>simp at hu)⟩
instance fld_143_0:sT J0 143 0 0:=⟨_,_,_,Hg,rfl,zN U4,by decide,rfl⟩
instance fld_143_1:sT J0 143 1 1:=⟨_,_,_,Hg,rfl,zN Ki,by decide,rfl⟩
instance var_64:jD J0 64 aP 1:=⟨fun u h1 h2=>⟨_,_,Tryz.underlying64,zN U4,by rw[h1];rfl,by rw[h2];rfl⟩⟩
instance elt_129:ElT J0 129 3 Jbg 1 (I 0):=⟨Hh,zN Ur,⟨_,rfl,rfl⟩,rfl,Nat.le_of_ble_eq_true rfl,rfl,rfl,Nat.le_of_ble_eq_true rfl⟩
instance row_129:zB3 J0 129 3 Jbg 1:=⟨Hh,zN Ur,rfl⟩
instance sli_129:zGw J0 129 3:=⟨Hh⟩
instance var_3:jD J0 3 aP 1:=⟨fun u h1 h2=>⟨_,_,H4,zN Ur,by rw[h1];rfl,by rw[h2];rfl⟩⟩
instance var_26:jD J0 26 aQ 3:=⟨fun u h1 h2=>⟨_,_,Lu,zN Tryz.type26,by rw[h1];rfl,by rw[h2];rfl⟩⟩
instance var_28:jD J0 28 aQ 3:=⟨fun u h1 h2=>⟨_,_,Lt,zN Tryz.type28,by rw[h1];rfl,by rw[h2];rfl⟩⟩
end Go.Wk
