/- x -/
import Derived.Test.YtmgckbgmmpemgaaGreatSAbC
import Derived.Test.YtmgckbgmmpemgaaGreatSWF
import Derived.Test.YtmgckbgmmpemgaaGreatProg
open Go.Proofs.Tryz renaming prog→J0,underlying5→Jm,underlying3→Jw,underlying140→Ke,type2→Ko,underlying2→Kv,underlying22→L2,underlying52→L4,type23→L5,underlying116→Lg,type22→Lj,underlying23→Lm,underlying68→Lr,type3→Lt,underlying81→Lw,underlying36→Lx,underlying34→Ly,underlying28→Lz,underlying26→H0,underlying24→H1,type84→H2,type77→H3,type52→H4,type24→H5,underlying84→Hn,underlying82→Ho,underlying79→Hp,underlying77→Hq,underlying75→Hr,underlying31→Hs,type116→Ht,t22→Gb,t3→Gr,type81→Gz,type36→U0,type34→U1,t84→U2,t77→U3,t52→U4,t23→U5,underlying138→Uh,t2→Ul,t116→Qj,t81→Qm,t36→Qn,t34→Qo,t24→Qp
open Option renaming some→VU,none→VV
open Bool renaming true→VW,false→VX
namespace Go.Wk
open Go Go.Proofs Go.Ab
abbrev lV:=L 1 I
abbrev lM:=L 1 lV
abbrev lC:=L 1 lM
abbrev vZ(x:zD):T:=T.agg [I x.Prime,I x.yC,T.ro (lM x.Rows)]
abbrev vG(x:zS):T:=T.agg [I x.Prime,I x.Dim,T.ro (lC x.zP)]
abbrev qPr(x:SPr):T:=T.agg [T.ro (lV x.zF),T.ro (lM x.yV),T.ro (lC x.zJ)]
instance stripSMatrix:tM (fun x:zD=>T.agg [I x.Prime,I x.yC,Ro lM x.Rows]) zA:=⟨fun _=>stA rfl⟩
theorem yH:J0.follows .mixedOrders=VW:=rfl
instance:Mix J0:=⟨yH⟩
instance sli_22:zFQ J0 22 2:=⟨L2⟩
instance row_23:zBK J0 23 22 Gb 1:=⟨Lm,zU Lj,rfl⟩
instance sli_23:zFQ J0 23 22:=⟨Lm⟩
instance var_22:zBq J0 22 VW 1:=⟨fun u h1 h2=>⟨_,_,L2,zU Lj,by rw[h1];rfl,by rw[h2];rfl⟩⟩
instance row_24:zBK J0 24 23 U5 1:=⟨H1,zU L5,rfl⟩
instance sli_24:zFQ J0 24 23:=⟨H1⟩
instance var_23:zBq J0 23 VW 1:=⟨fun u h1 h2=>⟨_,_,Lm,zU L5,by rw[h1];rfl,by rw[h2];rfl⟩⟩
instance fld_26_0:zAY J0 26 0 0:=⟨_,_,_,H0,rfl,zU Lj,by decide,rfl⟩
instance fld_26_1:zAY J0 26 1 1:=⟨_,_,_,H0,rfl,zU L5,by decide,rfl⟩
instance fld_26_2:zAY J0 26 2 2:=⟨_,_,_,H0,rfl,zU H5,by decide,rfl⟩
instance var_24:zBq J0 24 VW 1:=⟨fun u h1 h2=>⟨_,_,H1,zU H5,by rw[h1];rfl,by rw[h2];rfl⟩⟩
instance fld_28_2:zAY J0 28 2 2:=⟨_,_,_,Lz,rfl,zU H5,by decide,rfl⟩
instance elt_22:ElT J0 22 2 Ul 1 (I 0):=⟨L2,zU Ko,⟨_,rfl,rfl⟩,rfl,Nat.le_of_ble_eq_true rfl,rfl,rfl,Nat.le_of_ble_eq_true rfl⟩
theorem zRj:J0.info? 2=VU Ul:=zU Ko
instance infI_2:zE3 J0 2 Ul:=⟨zRj⟩
instance mkz_22:MkZ J0 22 I 0 (I 0):=⟨rfl⟩
instance row_22:zBK J0 22 2 Ul 1:=⟨L2,zU Ko,rfl⟩
instance var_2:zBq J0 2 VW 1:=⟨fun u h1 h2=>⟨_,_,Kv,zU Ko,by rw[h1];rfl,by rw[h2];rfl⟩⟩
instance elt_23:ElT J0 23 22 Gb 1 (L 1 I []):=⟨Lm,zU Lj,⟨_,rfl,rfl⟩,rfl,Nat.le_of_ble_eq_true rfl,rfl,rfl,Nat.le_of_ble_eq_true rfl⟩
theorem zVj:J0.info? 22=VU Gb:=zU Lj
instance infI_22:zE3 J0 22 Gb:=⟨zVj⟩
instance mkz_23:MkZ J0 23 (L 1 I) ([]:Wa) (L 1 I []):=⟨rfl⟩
instance elt_24:ElT J0 24 23 U5 1 (L 1 (L 1 I) []):=⟨H1,zU L5,⟨_,rfl,rfl⟩,rfl,Nat.le_of_ble_eq_true rfl,rfl,rfl,Nat.le_of_ble_eq_true rfl⟩
theorem zVk:J0.info? 23=VU U5:=zU L5
instance infI_23:zE3 J0 23 U5:=⟨zVk⟩
instance mkz_24:MkZ J0 24 (L 1 (L 1 I)) ([]:Wb) (L 1 (L 1 I) []):=⟨rfl⟩
instance fld_34_0:zAY J0 34 0 0:=⟨_,_,_,Ly,rfl,zU Lj,by decide,rfl⟩
instance fld_34_1:zAY J0 34 1 1:=⟨_,_,_,Ly,rfl,zU L5,by decide,rfl⟩
instance fld_34_2:zAY J0 34 2 2:=⟨_,_,_,Ly,rfl,zU H5,by decide,rfl⟩
theorem zVl:J0.info? 24=VU Qp:=zU H5
instance infI_24:zE3 J0 24 Qp:=⟨zVl⟩
theorem zRk:J0.info? 34=VU Qo:=zU U1
instance infI_34:zE3 J0 34 Qo:=⟨zRk⟩
instance var_34:zBq J0 34 VX 3:=⟨fun u h1 h2=>⟨_,_,Ly,zU U1,by rw[h1];rfl,by rw[h2];rfl⟩⟩
instance zer_34:zIT J0 34 (T.agg [L 1 I [],L 1 (L 1 I) [],L 1 (L 1 (L 1 I)) []]):=⟨_,_,zU U1,rfl,rfl,rfl,rfl⟩
instance fld_28_0:zAY J0 28 0 0:=⟨_,_,_,Lz,rfl,zU Ko,by decide,rfl⟩
instance fld_28_1:zAY J0 28 1 1:=⟨_,_,_,Lz,rfl,zU Ko,by decide,rfl⟩
instance fld_36_0:zAY J0 36 0 0:=⟨_,_,_,Lx,rfl,zU Ko,by decide,rfl⟩
instance fld_36_1:zAY J0 36 1 1:=⟨_,_,_,Lx,rfl,zU Ko,by decide,rfl⟩
instance fld_36_2:zAY J0 36 2 2:=⟨_,_,_,Lx,rfl,zU H5,by decide,rfl⟩
theorem zRl:J0.info? 36=VU Qn:=zU U0
instance infI_36:zE3 J0 36 Qn:=⟨zRl⟩
instance var_36:zBq J0 36 VX 3:=⟨fun u h1 h2=>⟨_,_,Lx,zU U0,by rw[h1];rfl,by rw[h2];rfl⟩⟩
instance zer_36:zIT J0 36 (T.agg [I 0,I 0,L 1 (L 1 (L 1 I)) []]):=⟨_,_,zU U0,rfl,rfl,rfl,rfl⟩
instance bld_116:zNz J0 116 [I 0,I 0,I 0,I 0]:=⟨_,_,fun ps=>zEp (zU Ht) Lg rfl (places:=[(0,1),(1,1),(2,1),(3,1)]) (by simp[zU Ko];decide) ps,rfl,rfl,(by intro i u hu;match i,hu with|0,hu=>cases hu;rfl|1,hu=>cases hu;rfl|2,hu=>cases hu;rfl|3,hu=>cases hu;rfl|_+4,hu=>simp at hu)⟩
theorem zSZ:J0.info? 116=VU Qj:=zU Ht
instance infI_116:zE3 J0 116 Qj:=⟨zSZ⟩
instance var_116:zBq J0 116 VX 4:=⟨fun u h1 h2=>⟨_,_,Lg,zU Ht,by rw[h1];rfl,by rw[h2];rfl⟩⟩
instance zer_116:zIT J0 116 (T.agg [I 0,I 0,I 0,I 0]):=⟨_,_,zU Ht,rfl,rfl,rfl,rfl⟩
instance fld_116_0:zAY J0 116 0 0:=⟨_,_,_,Lg,rfl,zU Ko,by decide,rfl⟩
theorem zLU{u:T}(h1:u.single=VW)(h2:u.size=1):∃(ds:TypeDesc)(ti:TypeInfo)(fs:Array Field)(f:Field),J0.underlying 116=VU (.struct fs)∧fs[0]? =VU f∧J0.underlying f.type=VU ds∧J0.info? f.type=VU ti∧zEU ds= !u.single∧ti.size=u.size:=⟨_,_,_,_,Lg,rfl,Kv,zU Ko,by rw[h1];rfl,by rw[h2];rfl⟩
instance fldw_116_0:zUb J0 116 0 VW 1:=⟨fun _ h1 h2=>zLU h1 h2⟩
instance elt_31:ElT J0 31 52 U4 3 (T.agg [I 0,I 0,L 1 (L 1 I) []]):=⟨Hs,zU H4,⟨_,rfl,rfl⟩,rfl,Nat.le_of_ble_eq_true rfl,rfl,rfl,Nat.le_of_ble_eq_true rfl⟩
instance fld_52_2:zAY J0 52 2 2:=⟨_,_,_,L4,rfl,zU L5,by decide,rfl⟩
instance row_31:zBK J0 31 52 U4 3:=⟨Hs,zU H4,rfl⟩
instance rp_52{a0:Int}{a1:Int}{a2:Wb}:Rp (.agg [I a0,I a1,(L 1 (L 1 I)) a2]) zA (zD.mk a0 a1 a2):=⟨rfl⟩
instance(priority:=8) rq_52{t0 t1 t2:T}{a0:Int}{a1:Int}{a2:Wb}[h0:Rp t0 I a0][h1:Rp t1 I a1][h2:Rp t2 (L 1 (L 1 I)) a2]:Rp (.agg [t0,t1,t2]) zA (zD.mk a0 a1 a2):=⟨by rw[h0.h,h1.h,h2.h]⟩
instance sli_31:zFQ J0 31 52:=⟨Hs⟩
instance var_52:zBq J0 52 VX 3:=⟨fun u h1 h2=>⟨_,_,L4,zU H4,by rw[h1];rfl,by rw[h2];rfl⟩⟩
instance bld_52:zNz J0 52 [I 0,I 0,L 1 (L 1 I) []]:=⟨_,_,fun ps=>zEp (zU H4) L4 rfl (places:=[(0,1),(1,1),(2,1)]) (by simp[zU Ko,zU L5];decide) ps,rfl,rfl,(by intro i u hu;match i,hu with|0,hu=>cases hu;rfl|1,hu=>cases hu;rfl|2,hu=>cases hu;rfl|_+3,hu=>simp at hu)⟩
instance int_68:zN8 J0 68 .u64:=⟨Lr⟩
instance und_2:zLk J0 2:=⟨_,Kv⟩
instance eqs_116:zR8 J0 116:=⟨⟨_,_,_,_,Lg,⟨by decide,rfl,Kv⟩,⟨by decide,rfl,Kv⟩,⟨by decide,rfl,Kv⟩,⟨by decide,rfl,Kv⟩⟩,Tryz.stoodInHeld116,Tryz.eqGuardType116⟩
theorem tH:J0.info? 52=VU U4:=zU H4
instance infI_52:zE3 J0 52 U4:=⟨tH⟩
instance zer_52:zIT J0 52 (T.agg [I 0,I 0,L 1 (L 1 I) []]):=⟨_,_,zU H4,rfl,rfl,rfl,rfl⟩
instance fld_52_0:zAY J0 52 0 0:=⟨_,_,_,L4,rfl,zU Ko,by decide,rfl⟩
instance fld_52_1:zAY J0 52 1 1:=⟨_,_,_,L4,rfl,zU Ko,by decide,rfl⟩
instance int_138:zN8 J0 138 .u32:=⟨Uh⟩
instance int_140:zN8 J0 140 .u64:=⟨Ke⟩
instance und_138:zLk J0 138:=⟨_,Uh⟩
instance und_140:zLk J0 140:=⟨_,Ke⟩
instance int_3:zN8 J0 3 .i64:=⟨Jw⟩
instance und_3:zLk J0 3:=⟨_,Jw⟩
instance und_68:zLk J0 68:=⟨_,Lr⟩
instance bld_77:zNz J0 77 [L 1 I [],L 1 I []]:=⟨_,_,fun ps=>zF7 (zU H3) Hq rfl (zU Lj) ps,rfl,rfl,(by intro i u hu;match i,hu with|0,hu=>cases hu;rfl|1,hu=>cases hu;rfl|_+2,hu=>simp at hu)⟩
instance elt_75:ElT J0 75 77 U3 2 (T.agg [L 1 I ((([]:Wa),([]:Wa)).1),L 1 I ((([]:Wa),([]:Wa)).2)]):=⟨Hr,zU H3,⟨_,rfl,rfl⟩,rfl,Nat.le_of_ble_eq_true rfl,rfl,rfl,Nat.le_of_ble_eq_true rfl⟩
instance row_75:zBK J0 75 77 U3 2:=⟨Hr,zU H3,rfl⟩
instance arr_77:zPe J0 77 22 Gb 2 1:=⟨Hq,zU Lj,rfl⟩
theorem zF3{u:T}(h1:u.single=VW)(h2:u.size=1):∃(ds:TypeDesc)(ti:TypeInfo)(fs:Array Field)(f:Field),J0.underlying 52=VU (.struct fs)∧fs[2]? =VU f∧J0.underlying f.type=VU ds∧J0.info? f.type=VU ti∧zEU ds= !u.single∧ti.size=u.size:=⟨_,_,_,_,L4,rfl,Lm,zU L5,by rw[h1];rfl,by rw[h2];rfl⟩
instance fldw_52_2:zUb J0 52 2 VW 1:=⟨fun _ h1 h2=>zF3 h1 h2⟩
theorem zRm:J0.info? 77=VU U3:=zU H3
instance infI_77:zE3 J0 77 U3:=⟨zRm⟩
instance sli_75:zFQ J0 75 77:=⟨Hr⟩
instance var_77:zBq J0 77 VX 2:=⟨fun u h1 h2=>⟨_,_,Hq,zU H3,by rw[h1];rfl,by rw[h2];rfl⟩⟩
instance zer_77:zIT J0 77 (T.agg [L 1 I ((([]:Wa),([]:Wa)).1),L 1 I ((([]:Wa),([]:Wa)).2)]):=⟨_,_,zU H3,rfl,rfl,rfl,rfl⟩
instance elt_79:ElT J0 79 81 Qm 1 (L 1 I []):=⟨Hp,zU Gz,⟨_,rfl,rfl⟩,rfl,Nat.le_of_ble_eq_true rfl,rfl,rfl,Nat.le_of_ble_eq_true rfl⟩
instance elt_81:ElT J0 81 3 Gr 1 (I 0):=⟨Lw,zU Lt,⟨_,rfl,rfl⟩,rfl,Nat.le_of_ble_eq_true rfl,rfl,rfl,Nat.le_of_ble_eq_true rfl⟩
instance row_79:zBK J0 79 81 Qm 1:=⟨Hp,zU Gz,rfl⟩
instance sli_79:zFQ J0 79 81:=⟨Hp⟩
instance var_81:zBq J0 81 VW 1:=⟨fun u h1 h2=>⟨_,_,Lw,zU Gz,by rw[h1];rfl,by rw[h2];rfl⟩⟩
instance row_81:zBK J0 81 3 Gr 1:=⟨Lw,zU Lt,rfl⟩
instance sli_81:zFQ J0 81 3:=⟨Lw⟩
instance var_3:zBq J0 3 VW 1:=⟨fun u h1 h2=>⟨_,_,Jw,zU Lt,by rw[h1];rfl,by rw[h2];rfl⟩⟩
instance int_5:zN8 J0 5 .u8:=⟨Jm⟩
instance und_5:zLk J0 5:=⟨_,Jm⟩
instance var_152:zBq J0 152 VW 1:=⟨fun u h1 h2=>⟨_,_,Tryz.underlying152,zU Tryz.type152,by rw[h1];rfl,by rw[h2];rfl⟩⟩
theorem zT8:J0.info? 3=VU Gr:=zU Lt
instance infI_3:zE3 J0 3 Gr:=⟨zT8⟩
instance zer_3:zIT J0 3 (I 0):=⟨_,_,zU Lt,rfl,rfl,rfl,rfl⟩
instance arr_84:zPe J0 84 3 Gr 2 1:=⟨Hn,zU Lt,rfl⟩
instance bld_84:zNz J0 84 [I 0,I 0]:=⟨_,_,fun ps=>zF7 (zU H2) Hn rfl (zU Lt) ps,rfl,rfl,(by intro i u hu;match i,hu with|0,hu=>cases hu;rfl|1,hu=>cases hu;rfl|_+2,hu=>simp at hu)⟩
instance elt_82:ElT J0 82 84 U2 2 (T.agg [I (((0:Int),(0:Int)).1),I (((0:Int),(0:Int)).2)]):=⟨Ho,zU H2,⟨_,rfl,rfl⟩,rfl,Nat.le_of_ble_eq_true rfl,rfl,rfl,Nat.le_of_ble_eq_true rfl⟩
theorem zVm:J0.info? 84=VU U2:=zU H2
instance infI_84:zE3 J0 84 U2:=⟨zVm⟩
instance row_82:zBK J0 82 84 U2 2:=⟨Ho,zU H2,rfl⟩
instance sli_82:zFQ J0 82 84:=⟨Ho⟩
instance var_84:zBq J0 84 VX 2:=⟨fun u h1 h2=>⟨_,_,Hn,zU H2,by rw[h1];rfl,by rw[h2];rfl⟩⟩
instance zer_84:zIT J0 84 (T.agg [I (((0:Int),(0:Int)).1),I (((0:Int),(0:Int)).2)]):=⟨_,_,zU H2,rfl,rfl,rfl,rfl⟩
instance var_26:zBq J0 26 VX 3:=⟨fun u h1 h2=>⟨_,_,H0,zU Tryz.type26,by rw[h1];rfl,by rw[h2];rfl⟩⟩
instance var_28:zBq J0 28 VX 3:=⟨fun u h1 h2=>⟨_,_,Lz,zU Tryz.type28,by rw[h1];rfl,by rw[h2];rfl⟩⟩
end Go.Wk
