/- The program's MultiplicatorRank returns what the reference's returns,for all arguments;no conditions. -/
import Derived.Test.YtnggaddopliclaaGreatAbC
import Derived.Test.YtnggaddopliclaaGreatWF
import Derived.Test.YtnggaddopliclaaGreatProg
open Go.Proofs.Tryz renaming prog→J0,type2→L7,type23→Lh,type22→Li,underlying22→Lj,underlying41→Hi,underlying2→Hk,underlying170→Ht,underlying127→Hu,type24→Hv,underlying39→Hx,underlying37→Hy,underlying23→Hz,type37→Gb,type133→Gg,type120→Gi,underlying197→Gm,underlying137→Gp,underlying135→Gs,underlying130→Gt,underlying30→U1,underlying28→U2,underlying26→U3,underlying24→U4,type41→U5,type39→U6,underlying3→Ul,underlying181→Uw,underlying133→Ux,underlying120→Uy,underlying118→Uz,type197→Q6,type170→Q7,type135→Q8,type127→Q9,t22→Qr,t133→Qy,t120→Qz,type130→Ja8,type79→Jak,type78→Jal,type63→Jam,t41→Jan,t23→Jao,type3→Jb0,underlying63→Jb7,t2→Jb8,t197→Jcr,t170→Jcs,t135→Jct,t130→Jcu,t127→Jcv,t39→Jcz,t37→Jd0,t24→Jd1,t3→Jd9
namespace Go.Wk
open Go Go.Proofs Go.Ab
abbrev lV:=L 1 I
abbrev lM:=L 1 lV
abbrev lC:=L 1 lM
abbrev uV(x:zJ):T:=T.agg [T.ro (lV x.Word),T.ro (lV x.Left),T.ro (lV x.zVM)]
abbrev zG1(x:zS):T:=T.agg [I x.Prime,I x.xN,T.ro (lM x.Rows)]
abbrev vA(x:zG):T:=T.agg [I x.Prime,I x.Dim,T.ro (lC x.zQ)]
abbrev qPr(x:SPr):T:=T.agg [T.ro (lV x.zA),T.ro (lM x.zU),T.ro (lC x.zF)]
abbrev yL(x:zH):T:=T.agg [T.ro (lV x.x),T.ro (lV x.v)]
abbrev yQ(x:zY):T:=T.agg [T.agg [T.ro (lV x.p.zA),T.ro (lM x.p.zU),T.ro (lC x.p.zF)],T.agg [I x.m.Prime,I x.m.Dim,T.ro (lC x.m.zQ)],T.ro (lM x.zMt)]
abbrev zHY(x:xM):T:=T.agg [T.ro ((Pt yN) x.p),T.ro ((Pt zV) x.m),T.ro ((L 3 zO) x.sums)]
theorem wA:J0.follows .mixedOrders=true:=rfl
instance:Mix J0:=⟨wA⟩
instance sli_22:zHb J0 22 2:=⟨Lj⟩
instance row_23:zB4 J0 23 22 Qr 1:=⟨Hz,zP Li,rfl⟩
instance sli_23:zHb J0 23 22:=⟨Hz⟩
instance var_22:jE J0 22 true 1:=⟨fun u h1 h2=>⟨_,_,Lj,zP Li,by rw[h1];rfl,by rw[h2];rfl⟩⟩
instance row_24:zB4 J0 24 23 Jao 1:=⟨U4,zP Lh,rfl⟩
instance sli_24:zHb J0 24 23:=⟨U4⟩
instance var_23:jE J0 23 true 1:=⟨fun u h1 h2=>⟨_,_,Hz,zP Lh,by rw[h1];rfl,by rw[h2];rfl⟩⟩
instance fld_26_0:sJ J0 26 0 0:=⟨_,_,_,U3,rfl,zP Li,by decide,rfl⟩
instance fld_26_1:sJ J0 26 1 1:=⟨_,_,_,U3,rfl,zP Lh,by decide,rfl⟩
instance fld_26_2:sJ J0 26 2 2:=⟨_,_,_,U3,rfl,zP Hv,by decide,rfl⟩
instance var_24:jE J0 24 true 1:=⟨fun u h1 h2=>⟨_,_,U4,zP Hv,by rw[h1];rfl,by rw[h2];rfl⟩⟩
instance fld_28_2:sJ J0 28 2 2:=⟨_,_,_,U2,rfl,zP Hv,by decide,rfl⟩
instance fld_30_2:sJ J0 30 2 2:=⟨_,_,_,U1,rfl,zP Lh,by decide,rfl⟩
instance elt_22:ElT J0 22 2 Jb8 1 (I 0):=⟨Lj,zP L7,⟨_,rfl,rfl⟩,rfl,Nat.le_of_ble_eq_true rfl,rfl,rfl,Nat.le_of_ble_eq_true rfl⟩
theorem zD2:J0.info? 2=some Jb8:=zP L7
instance infI_2:zCq J0 2 Jb8:=⟨zD2⟩
instance mkz_22:MkZ J0 22 I 0 (I 0):=⟨rfl⟩
instance row_22:zB4 J0 22 2 Jb8 1:=⟨Lj,zP L7,rfl⟩
instance var_2:jE J0 2 true 1:=⟨fun u h1 h2=>⟨_,_,Hk,zP L7,by rw[h1];rfl,by rw[h2];rfl⟩⟩
instance elt_23:ElT J0 23 22 Qr 1 (L 1 I []):=⟨Hz,zP Li,⟨_,rfl,rfl⟩,rfl,Nat.le_of_ble_eq_true rfl,rfl,rfl,Nat.le_of_ble_eq_true rfl⟩
theorem zCF:J0.info? 22=some Qr:=zP Li
instance infI_22:zCq J0 22 Qr:=⟨zCF⟩
instance mkz_23:MkZ J0 23 (L 1 I) ([]:List Int) (L 1 I []):=⟨rfl⟩
instance elt_24:ElT J0 24 23 Jao 1 (L 1 (L 1 I) []):=⟨U4,zP Lh,⟨_,rfl,rfl⟩,rfl,Nat.le_of_ble_eq_true rfl,rfl,rfl,Nat.le_of_ble_eq_true rfl⟩
theorem zN7:J0.info? 23=some Jao:=zP Lh
instance infI_23:zCq J0 23 Jao:=⟨zN7⟩
instance mkz_24:MkZ J0 24 (L 1 (L 1 I)) ([]:List (List Int)) (L 1 (L 1 I) []):=⟨rfl⟩
instance fld_37_0:sJ J0 37 0 0:=⟨_,_,_,Hy,rfl,zP Li,by decide,rfl⟩
instance fld_37_1:sJ J0 37 1 1:=⟨_,_,_,Hy,rfl,zP Lh,by decide,rfl⟩
instance fld_37_2:sJ J0 37 2 2:=⟨_,_,_,Hy,rfl,zP Hv,by decide,rfl⟩
theorem zT6:J0.info? 24=some Jd1:=zP Hv
instance infI_24:zCq J0 24 Jd1:=⟨zT6⟩
theorem zX3:J0.info? 37=some Jd0:=zP Gb
instance infI_37:zCq J0 37 Jd0:=⟨zX3⟩
instance var_37:jE J0 37 false 3:=⟨fun u h1 h2=>⟨_,_,Hy,zP Gb,by rw[h1];rfl,by rw[h2];rfl⟩⟩
instance zer_37:zGa J0 37 (T.agg [L 1 I [],L 1 (L 1 I) [],L 1 (L 1 (L 1 I)) []]):=⟨_,_,zP Gb,rfl,rfl,rfl,rfl⟩
instance fld_28_0:sJ J0 28 0 0:=⟨_,_,_,U2,rfl,zP L7,by decide,rfl⟩
instance fld_28_1:sJ J0 28 1 1:=⟨_,_,_,U2,rfl,zP L7,by decide,rfl⟩
instance fld_39_0:sJ J0 39 0 0:=⟨_,_,_,Hx,rfl,zP L7,by decide,rfl⟩
instance fld_39_1:sJ J0 39 1 1:=⟨_,_,_,Hx,rfl,zP L7,by decide,rfl⟩
instance fld_39_2:sJ J0 39 2 2:=⟨_,_,_,Hx,rfl,zP Hv,by decide,rfl⟩
theorem zN8:J0.info? 39=some Jcz:=zP U6
instance infI_39:zCq J0 39 Jcz:=⟨zN8⟩
instance var_39:jE J0 39 false 3:=⟨fun u h1 h2=>⟨_,_,Hx,zP U6,by rw[h1];rfl,by rw[h2];rfl⟩⟩
instance zer_39:zGa J0 39 (T.agg [I 0,I 0,L 1 (L 1 (L 1 I)) []]):=⟨_,_,zP U6,rfl,rfl,rfl,rfl⟩
instance fld_30_0:sJ J0 30 0 0:=⟨_,_,_,U1,rfl,zP L7,by decide,rfl⟩
instance fld_30_1:sJ J0 30 1 1:=⟨_,_,_,U1,rfl,zP L7,by decide,rfl⟩
instance fld_41_0:sJ J0 41 0 0:=⟨_,_,_,Hi,rfl,zP L7,by decide,rfl⟩
instance fld_41_1:sJ J0 41 1 1:=⟨_,_,_,Hi,rfl,zP L7,by decide,rfl⟩
instance fld_41_2:sJ J0 41 2 2:=⟨_,_,_,Hi,rfl,zP Lh,by decide,rfl⟩
theorem zAS:J0.info? 41=some Jan:=zP U5
instance infI_41:zCq J0 41 Jan:=⟨zAS⟩
instance var_41:jE J0 41 false 3:=⟨fun u h1 h2=>⟨_,_,Hi,zP U5,by rw[h1];rfl,by rw[h2];rfl⟩⟩
instance zer_41:zGa J0 41 (T.agg [I 0,I 0,L 1 (L 1 I) []]):=⟨_,_,zP U5,rfl,rfl,rfl,rfl⟩
instance bld_170:zGb J0 170 [I 0,I 0,I 0,I 0]:=⟨_,_,fun ps=>vV (zP Q7) Ht rfl (places:=[(0,1),(1,1),(2,1),(3,1)]) (by simp[zP L7];decide) ps,rfl,rfl,(by intro i u hu;match i,hu with|0,hu=>cases hu;rfl|1,hu=>cases hu;rfl|2,hu=>cases hu;rfl|3,hu=>cases hu;rfl|_+4,hu=>simp at hu)⟩
theorem zUZ:J0.info? 170=some Jcs:=zP Q7
instance infI_170:zCq J0 170 Jcs:=⟨zUZ⟩
instance var_170:jE J0 170 false 4:=⟨fun u h1 h2=>⟨_,_,Ht,zP Q7,by rw[h1];rfl,by rw[h2];rfl⟩⟩
instance zer_170:zGa J0 170 (T.agg [I 0,I 0,I 0,I 0]):=⟨_,_,zP Q7,rfl,rfl,rfl,rfl⟩
instance fld_170_0:sJ J0 170 0 0:=⟨_,_,_,Ht,rfl,zP L7,by decide,rfl⟩
theorem zN9{u:T}(h1:u.single=true)(h2:u.size=1):∃(ds:TypeDesc)(ti:TypeInfo)(fs:Array Field)(f:Field),J0.underlying 170=some (.struct fs)∧fs[0]? =some f∧J0.underlying f.type=some ds∧J0.info? f.type=some ti∧zES ds= !u.single∧ti.size=u.size:=⟨_,_,_,_,Ht,rfl,Hk,zP L7,by rw[h1];rfl,by rw[h2];rfl⟩
instance fldw_170_0:zWq J0 170 0 true 1:=⟨fun _ h1 h2=>zN9 h1 h2⟩
instance bld_197:zGb J0 197 [L 1 I [],L 1 I []]:=⟨_,_,fun ps=>vV (zP Q6) Gm rfl (places:=[(0,1),(1,1)]) (by simp[zP Li];decide) ps,rfl,rfl,(by intro i u hu;match i,hu with|0,hu=>cases hu;rfl|1,hu=>cases hu;rfl|_+2,hu=>simp at hu)⟩
instance fld_127_0:sJ J0 127 0 0:=⟨_,_,_,Hu,rfl,zP Gb,by decide,rfl⟩
instance fld_127_2:sJ J0 127 2 6:=⟨_,_,_,Hu,rfl,zP Lh,by decide,rfl⟩
theorem uG:J0.info? 197=some Jcr:=zP Q6
instance infI_197:zCq J0 197 Jcr:=⟨uG⟩
instance var_197:jE J0 197 false 2:=⟨fun u h1 h2=>⟨_,_,Gm,zP Q6,by rw[h1];rfl,by rw[h2];rfl⟩⟩
instance zer_197:zGa J0 197 (T.agg [L 1 I [],L 1 I []]):=⟨_,_,zP Q6,rfl,rfl,rfl,rfl⟩
instance fld_127_1:sJ J0 127 1 3:=⟨_,_,_,Hu,rfl,zP U6,by decide,rfl⟩
instance fld_197_0:sJ J0 197 0 0:=⟨_,_,_,Gm,rfl,zP Li,by decide,rfl⟩
instance fld_197_1:sJ J0 197 1 1:=⟨_,_,_,Gm,rfl,zP Li,by decide,rfl⟩
instance var_127:jE J0 127 false 7:=⟨fun u h1 h2=>⟨_,_,Hu,zP Q9,by rw[h1];rfl,by rw[h2];rfl⟩⟩
instance bld_127:zGb J0 127 [T.agg [L 1 I [],L 1 (L 1 I) [],L 1 (L 1 (L 1 I)) []],T.agg [I 0,I 0,L 1 (L 1 (L 1 I)) []],L 1 (L 1 I) []]:=⟨_,_,fun ps=>vV (zP Q9) Hu rfl (places:=[(0,3),(3,3),(6,1)]) (by simp[zP Lh,zP Gb,zP U6];decide) ps,rfl,rfl,(by intro i u hu;match i,hu with|0,hu=>cases hu;rfl|1,hu=>cases hu;rfl|2,hu=>cases hu;rfl|_+3,hu=>simp at hu)⟩
instance eqs_170:zTR J0 170:=⟨⟨_,_,_,_,Ht,⟨by decide,rfl,Hk⟩,⟨by decide,rfl,Hk⟩,⟨by decide,rfl,Hk⟩,⟨by decide,rfl,Hk⟩⟩,Tryz.stoodInHeld170,Tryz.eqGuardType170⟩
instance bld_41:zGb J0 41 [I 0,I 0,L 1 (L 1 I) []]:=⟨_,_,fun ps=>vV (zP U5) Hi rfl (places:=[(0,1),(1,1),(2,1)]) (by simp[zP L7,zP Lh];decide) ps,rfl,rfl,(by intro i u hu;match i,hu with|0,hu=>cases hu;rfl|1,hu=>cases hu;rfl|2,hu=>cases hu;rfl|_+3,hu=>simp at hu)⟩
instance bld_120:zGb J0 120 [L 1 I [],L 1 I []]:=⟨_,_,fun ps=>zKw (zP Gi) Uy rfl (zP Li) ps,rfl,rfl,(by intro i u hu;match i,hu with|0,hu=>cases hu;rfl|1,hu=>cases hu;rfl|_+2,hu=>simp at hu)⟩
instance elt_118:ElT J0 118 120 Qz 2 (T.agg [L 1 I ((([]:List Int),([]:List Int)).1),L 1 I ((([]:List Int),([]:List Int)).2)]):=⟨Uz,zP Gi,⟨_,rfl,rfl⟩,rfl,Nat.le_of_ble_eq_true rfl,rfl,rfl,Nat.le_of_ble_eq_true rfl⟩
instance row_118:zB4 J0 118 120 Qz 2:=⟨Uz,zP Gi,rfl⟩
instance arr_120:zTS J0 120 22 Qr 2 1:=⟨Uy,zP Li,rfl⟩
theorem zQr{u:T}(h1:u.single=true)(h2:u.size=1):∃(ds:TypeDesc)(ti:TypeInfo)(fs:Array Field)(f:Field),J0.underlying 41=some (.struct fs)∧fs[2]? =some f∧J0.underlying f.type=some ds∧J0.info? f.type=some ti∧zES ds= !u.single∧ti.size=u.size:=⟨_,_,_,_,Hi,rfl,Hz,zP Lh,by rw[h1];rfl,by rw[h2];rfl⟩
instance fldw_41_2:zWq J0 41 2 true 1:=⟨fun _ h1 h2=>zQr h1 h2⟩
theorem zVa:J0.info? 120=some Qz:=zP Gi
instance infI_120:zCq J0 120 Qz:=⟨zVa⟩
instance sli_118:zHb J0 118 120:=⟨Uz⟩
instance var_120:jE J0 120 false 2:=⟨fun u h1 h2=>⟨_,_,Uy,zP Gi,by rw[h1];rfl,by rw[h2];rfl⟩⟩
instance zer_120:zGa J0 120 (T.agg [L 1 I ((([]:List Int),([]:List Int)).1),L 1 I ((([]:List Int),([]:List Int)).2)]):=⟨_,_,zP Gi,rfl,rfl,rfl,rfl⟩
instance bld_37:zGb J0 37 [L 1 I [],L 1 (L 1 I) [],L 1 (L 1 (L 1 I)) []]:=⟨_,_,fun ps=>vV (zP Gb) Hy rfl (places:=[(0,1),(1,1),(2,1)]) (by simp[zP Li,zP Lh,zP Hv];decide) ps,rfl,rfl,(by intro i u hu;match i,hu with|0,hu=>cases hu;rfl|1,hu=>cases hu;rfl|2,hu=>cases hu;rfl|_+3,hu=>simp at hu)⟩
instance var_26:jE J0 26 false 3:=⟨fun u h1 h2=>⟨_,_,U3,zP Tryz.type26,by rw[h1];rfl,by rw[h2];rfl⟩⟩
instance var_28:jE J0 28 false 3:=⟨fun u h1 h2=>⟨_,_,U2,zP Tryz.type28,by rw[h1];rfl,by rw[h2];rfl⟩⟩
instance var_30:jE J0 30 false 3:=⟨fun u h1 h2=>⟨_,_,U1,zP Tryz.type30,by rw[h1];rfl,by rw[h2];rfl⟩⟩
theorem zOX:J0.info? 127=some Jcv:=zP Q9
instance infI_127:zCq J0 127 Jcv:=⟨zOX⟩
instance zer_127:zGa J0 127 (T.agg [T.agg [L 1 I [],L 1 (L 1 I) [],L 1 (L 1 (L 1 I)) []],T.agg [I 0,I 0,L 1 (L 1 (L 1 I)) []],L 1 (L 1 I) []]):=⟨_,_,zP Q9,rfl,rfl,rfl,rfl⟩
instance bld_133:zGb J0 133 [L 1 I [],L 1 I [],L 1 I []]:=⟨_,_,fun ps=>vV (zP Gg) Ux rfl (places:=[(0,1),(1,1),(2,1)]) (by simp[zP Li];decide) ps,rfl,rfl,(by intro i u hu;match i,hu with|0,hu=>cases hu;rfl|1,hu=>cases hu;rfl|2,hu=>cases hu;rfl|_+3,hu=>simp at hu)⟩
instance elt_130:ElT J0 130 133 Qy 3 (T.agg [L 1 I [],L 1 I [],L 1 I []]):=⟨Gt,zP Gg,⟨_,rfl,rfl⟩,rfl,Nat.le_of_ble_eq_true rfl,rfl,rfl,Nat.le_of_ble_eq_true rfl⟩
theorem zOY:J0.info? 130=some Jcu:=zP Ja8
instance infI_130:zCq J0 130 Jcu:=⟨zOY⟩
instance rp_133{a0:List Int}{a1:List Int}{a2:List Int}:Rp (.agg [(L 1 I) a0,(L 1 I) a1,(L 1 I) a2]) zE (zJ.mk a0 a1 a2):=⟨rfl⟩
instance var_78:jE J0 78 true 1:=⟨fun u h1 h2=>⟨_,_,Tryz.underlying78,zP Jal,by rw[h1];rfl,by rw[h2];rfl⟩⟩
instance var_130:jE J0 130 true 1:=⟨fun u h1 h2=>⟨_,_,Gt,zP Ja8,by rw[h1];rfl,by rw[h2];rfl⟩⟩
instance row_130:zB4 J0 130 133 Qy 3:=⟨Gt,zP Gg,rfl⟩
instance zer_130:zGa J0 130 (L 3 zE []):=⟨_,_,zP Ja8,rfl,rfl,rfl,rfl⟩
instance fld_137_0:sJ J0 137 0 0:=⟨_,_,_,Gp,rfl,zP Jal,by decide,rfl⟩
instance fld_137_1:sJ J0 137 1 1:=⟨_,_,_,Gp,rfl,zP Jak,by decide,rfl⟩
instance fld_137_2:sJ J0 137 2 2:=⟨_,_,_,Gp,rfl,zP Q8,by decide,rfl⟩
instance row_135:zB4 J0 135 41 Jan 3:=⟨Gs,zP U5,rfl⟩
instance var_79:jE J0 79 true 1:=⟨fun u h1 h2=>⟨_,_,Tryz.underlying79,zP Jak,by rw[h1];rfl,by rw[h2];rfl⟩⟩
instance var_135:jE J0 135 true 1:=⟨fun u h1 h2=>⟨_,_,Gs,zP Q8,by rw[h1];rfl,by rw[h2];rfl⟩⟩
instance bld_137:zGb J0 137 [T.lit (.pointer none),T.lit (.pointer none),L 3 zO []]:=⟨_,_,fun ps=>vV (zP Tryz.type137) Gp rfl (places:=[(0,1),(1,1),(2,1)]) (by simp[zP Q8,zP Jal,zP Jak];decide) ps,rfl,rfl,(by intro i u hu;match i,hu with|0,hu=>cases hu;rfl|1,hu=>cases hu;rfl|2,hu=>cases hu;rfl|_+3,hu=>simp at hu)⟩
instance elt_135:ElT J0 135 41 Jan 3 (T.agg [I 0,I 0,L 1 (L 1 I) []]):=⟨Gs,zP U5,⟨_,rfl,rfl⟩,rfl,Nat.le_of_ble_eq_true rfl,rfl,rfl,Nat.le_of_ble_eq_true rfl⟩
instance fld_133_0:sJ J0 133 0 0:=⟨_,_,_,Ux,rfl,zP Li,by decide,rfl⟩
theorem zOZ:J0.info? 133=some Qy:=zP Gg
instance infI_133:zCq J0 133 Qy:=⟨zOZ⟩
theorem zPa:J0.info? 135=some Jct:=zP Q8
instance infI_135:zCq J0 135 Jct:=⟨zPa⟩
instance rp_41{a0:Int}{a1:Int}{a2:List (List Int)}:Rp (.agg [I a0,I a1,(L 1 (L 1 I)) a2]) zO (zS.mk a0 a1 a2):=⟨rfl⟩
instance sli_130:zHb J0 130 133:=⟨Gt⟩
instance sli_135:zHb J0 135 41:=⟨Gs⟩
instance var_133:jE J0 133 false 3:=⟨fun u h1 h2=>⟨_,_,Ux,zP Gg,by rw[h1];rfl,by rw[h2];rfl⟩⟩
instance zer_133:zGa J0 133 (T.agg [L 1 I [],L 1 I [],L 1 I []]):=⟨_,_,zP Gg,rfl,rfl,rfl,rfl⟩
instance bld_39:zGb J0 39 [I 0,I 0,L 1 (L 1 (L 1 I)) []]:=⟨_,_,fun ps=>vV (zP U6) Hx rfl (places:=[(0,1),(1,1),(2,1)]) (by simp[zP L7,zP Hv];decide) ps,rfl,rfl,(by intro i u hu;match i,hu with|0,hu=>cases hu;rfl|1,hu=>cases hu;rfl|2,hu=>cases hu;rfl|_+3,hu=>simp at hu)⟩
instance elt_181:ElT J0 181 3 Jd9 1 (I 0):=⟨Uw,zP Jb0,⟨_,rfl,rfl⟩,rfl,Nat.le_of_ble_eq_true rfl,rfl,rfl,Nat.le_of_ble_eq_true rfl⟩
instance row_181:zB4 J0 181 3 Jd9 1:=⟨Uw,zP Jb0,rfl⟩
instance sli_181:zHb J0 181 3:=⟨Uw⟩
instance var_3:jE J0 3 true 1:=⟨fun u h1 h2=>⟨_,_,Ul,zP Jb0,by rw[h1];rfl,by rw[h2];rfl⟩⟩
instance bld_63:zGb J0 63 [T.agg [L 1 I [],L 1 (L 1 I) [],L 1 (L 1 (L 1 I)) []],T.agg [L 1 I [],L 1 (L 1 I) [],L 1 (L 1 (L 1 I)) []],L 1 (L 1 I) []]:=⟨_,_,fun ps=>vV (zP Jam) Jb7 rfl (places:=[(0,3),(3,3),(6,1)]) (by simp[zP Lh,zP Gb];decide) ps,rfl,rfl,(by intro i u hu;match i,hu with|0,hu=>cases hu;rfl|1,hu=>cases hu;rfl|2,hu=>cases hu;rfl|_+3,hu=>simp at hu)⟩
instance var_63:jE J0 63 false 7:=⟨fun u h1 h2=>⟨_,_,Jb7,zP Jam,by rw[h1];rfl,by rw[h2];rfl⟩⟩
instance zer_63:zGa J0 63 (T.agg [T.agg [L 1 I [],L 1 (L 1 I) [],L 1 (L 1 (L 1 I)) []],T.agg [L 1 I [],L 1 (L 1 I) [],L 1 (L 1 (L 1 I)) []],L 1 (L 1 I) []]):=⟨_,_,zP Jam,rfl,rfl,rfl,rfl⟩
end Go.Wk
