/- The program's ComplementAt returns what the reference's returns,for all arguments;no conditions. -/
import Derived.Test.YtibamokcnfffhaaGreatAbC
import Derived.Test.YtibamokcnfffhaaGreatWF
import Derived.Test.YtibamokcnfffhaaGreatProg
open Go.Proofs.Tryz renaming prog→J0,underlying22→K5,type23→Kg,type2→Kl,type22→Kq,underlying89→L7,underlying2→Lb,underlying181→Lj,underlying159→Ll,underlying34→Lr,underlying23→Ly,type24→H1,type115→H8,underlying208→Hd,underlying36→Hi,underlying28→Hj,underlying26→Hk,underlying24→Hl,type34→Hm,underlying3→Hv,type36→Hz,underlying143→Gb,underlying129→Gd,underlying115→Gf,underlying113→Gg,type208→Gj,type181→Gk,type89→U1,t22→Ub,t115→Uj,type64→Uw,t23→Ux,type3→Qf,t2→Qo,type159→Jah,t208→Jcc,t181→Jcd,t89→Jci,t36→Jcj,t34→Jck,t24→Jcl,t3→Jcp
open Option renaming some→ud,none→ue
open Bool renaming true→uf,false→ug
namespace Go.Wk
open Go Go.Proofs Go.Ab
abbrev lV:=L 1 I
abbrev lM:=L 1 lV
abbrev lC:=L 1 lM
abbrev zFf(x:yL):T:=T.agg [I x.Prime,I x.sY,T.ro (lM x.Rows)]
abbrev yZ(x:zC):T:=T.agg [I x.Prime,I x.Dim,T.ro (lC x.zJ)]
abbrev qPr(x:SPr):T:=T.agg [T.ro (lV x.zA),T.ro (lM x.zV),T.ro (lC x.zD)]
abbrev yA(x:zF):T:=T.agg [T.ro (lV x.x),T.ro (lV x.v)]
abbrev yF(x:zP):T:=T.agg [T.agg [T.ro (lV x.p.zA),T.ro (lM x.p.zV),T.ro (lC x.p.zD)],T.agg [I x.m.Prime,I x.m.Dim,T.ro (lC x.m.zJ)],T.ro (lM x.zKA)]
theorem xP:J0.follows .mixedOrders=uf:=rfl
instance:Mix J0:=⟨xP⟩
instance sli_22:zIj J0 22 2:=⟨K5⟩
instance row_23:zCK J0 23 22 Ub 1:=⟨Ly,zO Kq,rfl⟩
instance sli_23:zIj J0 23 22:=⟨Ly⟩
instance var_22:jV J0 22 uf 1:=⟨fun u h1 h2=>⟨_,_,K5,zO Kq,by rw[h1];rfl,by rw[h2];rfl⟩⟩
instance row_24:zCK J0 24 23 Ux 1:=⟨Hl,zO Kg,rfl⟩
instance sli_24:zIj J0 24 23:=⟨Hl⟩
instance var_23:jV J0 23 uf 1:=⟨fun u h1 h2=>⟨_,_,Ly,zO Kg,by rw[h1];rfl,by rw[h2];rfl⟩⟩
instance fld_26_0:sG J0 26 0 0:=⟨_,_,_,Hk,rfl,zO Kq,by decide,rfl⟩
instance fld_26_1:sG J0 26 1 1:=⟨_,_,_,Hk,rfl,zO Kg,by decide,rfl⟩
instance fld_26_2:sG J0 26 2 2:=⟨_,_,_,Hk,rfl,zO H1,by decide,rfl⟩
instance var_24:jV J0 24 uf 1:=⟨fun u h1 h2=>⟨_,_,Hl,zO H1,by rw[h1];rfl,by rw[h2];rfl⟩⟩
instance fld_28_2:sG J0 28 2 2:=⟨_,_,_,Hj,rfl,zO H1,by decide,rfl⟩
instance elt_22:ElT J0 22 2 Qo 1 (I 0):=⟨K5,zO Kl,⟨_,rfl,rfl⟩,rfl,Nat.le_of_ble_eq_true rfl,rfl,rfl,Nat.le_of_ble_eq_true rfl⟩
theorem zEJ:J0.info? 2=ud Qo:=zO Kl
instance infI_2:zEe J0 2 Qo:=⟨zEJ⟩
instance mkz_22:MkZ J0 22 I 0 (I 0):=⟨rfl⟩
instance row_22:zCK J0 22 2 Qo 1:=⟨K5,zO Kl,rfl⟩
instance var_2:jV J0 2 uf 1:=⟨fun u h1 h2=>⟨_,_,Lb,zO Kl,by rw[h1];rfl,by rw[h2];rfl⟩⟩
instance elt_23:ElT J0 23 22 Ub 1 (L 1 I []):=⟨Ly,zO Kq,⟨_,rfl,rfl⟩,rfl,Nat.le_of_ble_eq_true rfl,rfl,rfl,Nat.le_of_ble_eq_true rfl⟩
theorem zIC:J0.info? 22=ud Ub:=zO Kq
instance infI_22:zEe J0 22 Ub:=⟨zIC⟩
instance mkz_23:MkZ J0 23 (L 1 I) ([]:uj) (L 1 I []):=⟨rfl⟩
instance elt_24:ElT J0 24 23 Ux 1 (L 1 (L 1 I) []):=⟨Hl,zO Kg,⟨_,rfl,rfl⟩,rfl,Nat.le_of_ble_eq_true rfl,rfl,rfl,Nat.le_of_ble_eq_true rfl⟩
theorem zVb:J0.info? 23=ud Ux:=zO Kg
instance infI_23:zEe J0 23 Ux:=⟨zVb⟩
instance mkz_24:MkZ J0 24 (L 1 (L 1 I)) ([]:uk) (L 1 (L 1 I) []):=⟨rfl⟩
instance fld_34_0:sG J0 34 0 0:=⟨_,_,_,Lr,rfl,zO Kq,by decide,rfl⟩
instance fld_34_1:sG J0 34 1 1:=⟨_,_,_,Lr,rfl,zO Kg,by decide,rfl⟩
instance fld_34_2:sG J0 34 2 2:=⟨_,_,_,Lr,rfl,zO H1,by decide,rfl⟩
theorem zVc:J0.info? 24=ud Jcl:=zO H1
instance infI_24:zEe J0 24 Jcl:=⟨zVc⟩
theorem zBc:J0.info? 34=ud Jck:=zO Hm
instance infI_34:zEe J0 34 Jck:=⟨zBc⟩
instance var_34:jV J0 34 ug 3:=⟨fun u h1 h2=>⟨_,_,Lr,zO Hm,by rw[h1];rfl,by rw[h2];rfl⟩⟩
instance zer_34:zJj J0 34 (T.agg [L 1 I [],L 1 (L 1 I) [],L 1 (L 1 (L 1 I)) []]):=⟨_,_,zO Hm,rfl,rfl,rfl,rfl⟩
instance fld_28_0:sG J0 28 0 0:=⟨_,_,_,Hj,rfl,zO Kl,by decide,rfl⟩
instance fld_28_1:sG J0 28 1 1:=⟨_,_,_,Hj,rfl,zO Kl,by decide,rfl⟩
instance fld_36_0:sG J0 36 0 0:=⟨_,_,_,Hi,rfl,zO Kl,by decide,rfl⟩
instance fld_36_1:sG J0 36 1 1:=⟨_,_,_,Hi,rfl,zO Kl,by decide,rfl⟩
instance fld_36_2:sG J0 36 2 2:=⟨_,_,_,Hi,rfl,zO H1,by decide,rfl⟩
theorem zRE:J0.info? 36=ud Jcj:=zO Hz
instance infI_36:zEe J0 36 Jcj:=⟨zRE⟩
instance var_36:jV J0 36 ug 3:=⟨fun u h1 h2=>⟨_,_,Hi,zO Hz,by rw[h1];rfl,by rw[h2];rfl⟩⟩
instance zer_36:zJj J0 36 (T.agg [I 0,I 0,L 1 (L 1 (L 1 I)) []]):=⟨_,_,zO Hz,rfl,rfl,rfl,rfl⟩
instance bld_181:zIc J0 181 [I 0,I 0,I 0,I 0]:=⟨_,_,fun ps=>tM (zO Gk) Lj rfl (places:=[(0,1),(1,1),(2,1),(3,1)]) (by simp[zO Kl];decide) ps,rfl,rfl,(by intro i u hu;match i,hu with|0,hu=>cases hu;rfl|1,hu=>cases hu;rfl|2,hu=>cases hu;rfl|3,hu=>cases hu;rfl|_+4,hu=>simp at hu)⟩
theorem zTm:J0.info? 181=ud Jcd:=zO Gk
instance infI_181:zEe J0 181 Jcd:=⟨zTm⟩
instance var_181:jV J0 181 ug 4:=⟨fun u h1 h2=>⟨_,_,Lj,zO Gk,by rw[h1];rfl,by rw[h2];rfl⟩⟩
instance zer_181:zJj J0 181 (T.agg [I 0,I 0,I 0,I 0]):=⟨_,_,zO Gk,rfl,rfl,rfl,rfl⟩
instance fld_181_0:sG J0 181 0 0:=⟨_,_,_,Lj,rfl,zO Kl,by decide,rfl⟩
theorem zLU{u:T}(h1:u.single=uf)(h2:u.size=1):∃(ds:TypeDesc)(ti:TypeInfo)(fs:Array Field)(f:Field),J0.underlying 181=ud (.struct fs)∧fs[0]? =ud f∧J0.underlying f.type=ud ds∧J0.info? f.type=ud ti∧zDM ds= !u.single∧ti.size=u.size:=⟨_,_,_,_,Lj,rfl,Lb,zO Kl,by rw[h1];rfl,by rw[h2];rfl⟩
instance fldw_181_0:zUm J0 181 0 uf 1:=⟨fun _ h1 h2=>zLU h1 h2⟩
instance bld_208:zIc J0 208 [L 1 I [],L 1 I []]:=⟨_,_,fun ps=>tM (zO Gj) Hd rfl (places:=[(0,1),(1,1)]) (by simp[zO Kq];decide) ps,rfl,rfl,(by intro i u hu;match i,hu with|0,hu=>cases hu;rfl|1,hu=>cases hu;rfl|_+2,hu=>simp at hu)⟩
instance fld_159_0:sG J0 159 0 0:=⟨_,_,_,Ll,rfl,zO Hm,by decide,rfl⟩
instance fld_159_2:sG J0 159 2 6:=⟨_,_,_,Ll,rfl,zO Kg,by decide,rfl⟩
theorem vP:J0.info? 208=ud Jcc:=zO Gj
instance infI_208:zEe J0 208 Jcc:=⟨vP⟩
instance var_208:jV J0 208 ug 2:=⟨fun u h1 h2=>⟨_,_,Hd,zO Gj,by rw[h1];rfl,by rw[h2];rfl⟩⟩
instance zer_208:zJj J0 208 (T.agg [L 1 I [],L 1 I []]):=⟨_,_,zO Gj,rfl,rfl,rfl,rfl⟩
instance fld_159_1:sG J0 159 1 3:=⟨_,_,_,Ll,rfl,zO Hz,by decide,rfl⟩
instance fld_208_0:sG J0 208 0 0:=⟨_,_,_,Hd,rfl,zO Kq,by decide,rfl⟩
instance fld_208_1:sG J0 208 1 1:=⟨_,_,_,Hd,rfl,zO Kq,by decide,rfl⟩
instance var_159:jV J0 159 ug 7:=⟨fun u h1 h2=>⟨_,_,Ll,zO Jah,by rw[h1];rfl,by rw[h2];rfl⟩⟩
instance bld_159:zIc J0 159 [T.agg [L 1 I [],L 1 (L 1 I) [],L 1 (L 1 (L 1 I)) []],T.agg [I 0,I 0,L 1 (L 1 (L 1 I)) []],L 1 (L 1 I) []]:=⟨_,_,fun ps=>tM (zO Jah) Ll rfl (places:=[(0,3),(3,3),(6,1)]) (by simp[zO Kg,zO Hm,zO Hz];decide) ps,rfl,rfl,(by intro i u hu;match i,hu with|0,hu=>cases hu;rfl|1,hu=>cases hu;rfl|2,hu=>cases hu;rfl|_+3,hu=>simp at hu)⟩
instance bld_34:zIc J0 34 [L 1 I [],L 1 (L 1 I) [],L 1 (L 1 (L 1 I)) []]:=⟨_,_,fun ps=>tM (zO Hm) Lr rfl (places:=[(0,1),(1,1),(2,1)]) (by simp[zO Kq,zO Kg,zO H1];decide) ps,rfl,rfl,(by intro i u hu;match i,hu with|0,hu=>cases hu;rfl|1,hu=>cases hu;rfl|2,hu=>cases hu;rfl|_+3,hu=>simp at hu)⟩
instance eqs_181:zSa J0 181:=⟨⟨_,_,_,_,Lj,⟨by decide,rfl,Lb⟩,⟨by decide,rfl,Lb⟩,⟨by decide,rfl,Lb⟩,⟨by decide,rfl,Lb⟩⟩,Tryz.stoodInHeld181,Tryz.eqGuardType181⟩
instance bld_89:zIc J0 89 [I 0,I 0,L 1 (L 1 I) []]:=⟨_,_,fun ps=>tM (zO U1) L7 rfl (places:=[(0,1),(1,1),(2,1)]) (by simp[zO Kl,zO Kg];decide) ps,rfl,rfl,(by intro i u hu;match i,hu with|0,hu=>cases hu;rfl|1,hu=>cases hu;rfl|2,hu=>cases hu;rfl|_+3,hu=>simp at hu)⟩
theorem zVd:J0.info? 89=ud Jci:=zO U1
instance infI_89:zEe J0 89 Jci:=⟨zVd⟩
instance var_89:jV J0 89 ug 3:=⟨fun u h1 h2=>⟨_,_,L7,zO U1,by rw[h1];rfl,by rw[h2];rfl⟩⟩
instance zer_89:zJj J0 89 (T.agg [I 0,I 0,L 1 (L 1 I) []]):=⟨_,_,zO U1,rfl,rfl,rfl,rfl⟩
instance fld_89_0:sG J0 89 0 0:=⟨_,_,_,L7,rfl,zO Kl,by decide,rfl⟩
instance fld_89_1:sG J0 89 1 1:=⟨_,_,_,L7,rfl,zO Kl,by decide,rfl⟩
instance fld_89_2:sG J0 89 2 2:=⟨_,_,_,L7,rfl,zO Kg,by decide,rfl⟩
instance bld_115:zIc J0 115 [L 1 I [],L 1 I []]:=⟨_,_,fun ps=>zIP (zO H8) Gf rfl (zO Kq) ps,rfl,rfl,(by intro i u hu;match i,hu with|0,hu=>cases hu;rfl|1,hu=>cases hu;rfl|_+2,hu=>simp at hu)⟩
instance elt_113:ElT J0 113 115 Uj 2 (T.agg [L 1 I ((([]:uj),([]:uj)).1),L 1 I ((([]:uj),([]:uj)).2)]):=⟨Gg,zO H8,⟨_,rfl,rfl⟩,rfl,Nat.le_of_ble_eq_true rfl,rfl,rfl,Nat.le_of_ble_eq_true rfl⟩
instance row_113:zCK J0 113 115 Uj 2:=⟨Gg,zO H8,rfl⟩
instance arr_115:zSc J0 115 22 Ub 2 1:=⟨Gf,zO Kq,rfl⟩
theorem zEv{u:T}(h1:u.single=uf)(h2:u.size=1):∃(ds:TypeDesc)(ti:TypeInfo)(fs:Array Field)(f:Field),J0.underlying 89=ud (.struct fs)∧fs[2]? =ud f∧J0.underlying f.type=ud ds∧J0.info? f.type=ud ti∧zDM ds= !u.single∧ti.size=u.size:=⟨_,_,_,_,L7,rfl,Ly,zO Kg,by rw[h1];rfl,by rw[h2];rfl⟩
instance fldw_89_2:zUm J0 89 2 uf 1:=⟨fun _ h1 h2=>zEv h1 h2⟩
theorem zNe:J0.info? 115=ud Uj:=zO H8
instance infI_115:zEe J0 115 Uj:=⟨zNe⟩
instance sli_113:zIj J0 113 115:=⟨Gg⟩
instance var_115:jV J0 115 ug 2:=⟨fun u h1 h2=>⟨_,_,Gf,zO H8,by rw[h1];rfl,by rw[h2];rfl⟩⟩
instance zer_115:zJj J0 115 (T.agg [L 1 I ((([]:uj),([]:uj)).1),L 1 I ((([]:uj),([]:uj)).2)]):=⟨_,_,zO H8,rfl,rfl,rfl,rfl⟩
instance bld_143:zIc J0 143 [T.lit (.pointer ue),L 1 (Ro (Nz 1 I)) []]:=⟨_,_,fun ps=>tM (zO Tryz.type143) Gb rfl (places:=[(0,1),(1,1)]) (by simp[zO Kg,zO Uw];decide) ps,rfl,rfl,(by intro i u hu;match i,hu with|0,hu=>cases hu;rfl|1,hu=>cases hu;rfl|_+2,hu=>simp at hu)⟩
instance fld_143_0:sG J0 143 0 0:=⟨_,_,_,Gb,rfl,zO Uw,by decide,rfl⟩
instance fld_143_1:sG J0 143 1 1:=⟨_,_,_,Gb,rfl,zO Kg,by decide,rfl⟩
instance var_64:jV J0 64 uf 1:=⟨fun u h1 h2=>⟨_,_,Tryz.underlying64,zO Uw,by rw[h1];rfl,by rw[h2];rfl⟩⟩
instance elt_129:ElT J0 129 3 Jcp 1 (I 0):=⟨Gd,zO Qf,⟨_,rfl,rfl⟩,rfl,Nat.le_of_ble_eq_true rfl,rfl,rfl,Nat.le_of_ble_eq_true rfl⟩
instance row_129:zCK J0 129 3 Jcp 1:=⟨Gd,zO Qf,rfl⟩
instance sli_129:zIj J0 129 3:=⟨Gd⟩
instance var_3:jV J0 3 uf 1:=⟨fun u h1 h2=>⟨_,_,Hv,zO Qf,by rw[h1];rfl,by rw[h2];rfl⟩⟩
instance var_26:jV J0 26 ug 3:=⟨fun u h1 h2=>⟨_,_,Hk,zO Tryz.type26,by rw[h1];rfl,by rw[h2];rfl⟩⟩
instance var_28:jV J0 28 ug 3:=⟨fun u h1 h2=>⟨_,_,Hj,zO Tryz.type28,by rw[h1];rfl,by rw[h2];rfl⟩⟩
end Go.Wk
