/- The program's CocycleBasis returns what the reference's returns,for all arguments;no conditions. -/
import Derived.Test.YtnggaddopliclaaGreatAbC
import Derived.Test.YtnggaddopliclaaGreatWF
import Derived.Test.YtnggaddopliclaaGreatProg
open Go.Proofs.Tryz renaming prog→J0,type2→L5,type23→Le,type22→Lf,underlying22→Lg,underlying41→Hf,underlying2→Hh,underlying170→Hs,underlying127→Ht,type24→Hw,underlying39→Hz,underlying37→G4,underlying23→G5,type37→Gb,type133→Gi,type120→Gj,underlying197→Gs,underlying137→Gt,underlying135→Gu,underlying130→Gv,underlying30→U0,underlying28→U1,underlying26→U2,underlying24→U3,type41→U4,type39→U5,underlying3→Uj,underlying181→Uz,underlying133→Q0,underlying120→Q2,underlying118→Q3,type197→Q7,type170→Q8,type135→Q9,type127→Qa,t22→Qw,t133→Ja5,t120→Ja6,type130→Jae,type79→Jap,type78→Jaq,type63→Jar,t41→Jas,t23→Jat,type3→Jb5,underlying63→Jbd,t2→Jbe,t197→Jd0,t170→Jd1,t135→Jd2,t130→Jd3,t127→Jd4,t39→Jd8,t37→Jd9,t24→Jda,t3→Jdg
namespace Go.Wk
open Go Go.Proofs Go.Ab
abbrev lV:=L 1 I
abbrev lM:=L 1 lV
abbrev lC:=L 1 lM
abbrev uY(x:zK):T:=T.agg [T.ro (lV x.Word),T.ro (lV x.Left),T.ro (lV x.zVF)]
abbrev zG5(x:zU):T:=T.agg [I x.Prime,I x.xF,T.ro (lM x.Rows)]
abbrev wT(x:zH):T:=T.agg [I x.Prime,I x.Dim,T.ro (lC x.zF)]
abbrev qPr(x:SPr):T:=T.agg [T.ro (lV x.zA),T.ro (lM x.zS),T.ro (lC x.zC)]
abbrev yL(x:zI):T:=T.agg [T.ro (lV x.x),T.ro (lV x.v)]
abbrev yQ(x:zX):T:=T.agg [T.agg [T.ro (lV x.p.zA),T.ro (lM x.p.zS),T.ro (lC x.p.zC)],T.agg [I x.m.Prime,I x.m.Dim,T.ro (lC x.m.zF)],T.ro (lM x.zMj)]
abbrev zIc(x:xM):T:=T.agg [T.ro ((Pt yM) x.p),T.ro ((Pt zV) x.m),T.ro ((L 3 zO) x.sums)]
theorem xS:J0.follows .mixedOrders=true:=rfl
instance:Mix J0:=⟨xS⟩
instance sli_22:zHd J0 22 2:=⟨Lg⟩
instance row_23:zB7 J0 23 22 Qw 1:=⟨G5,zP Lf,rfl⟩
instance sli_23:zHd J0 23 22:=⟨G5⟩
instance var_22:jG J0 22 true 1:=⟨fun u h1 h2=>⟨_,_,Lg,zP Lf,by rw[h1];rfl,by rw[h2];rfl⟩⟩
instance row_24:zB7 J0 24 23 Jat 1:=⟨U3,zP Le,rfl⟩
instance sli_24:zHd J0 24 23:=⟨U3⟩
instance var_23:jG J0 23 true 1:=⟨fun u h1 h2=>⟨_,_,G5,zP Le,by rw[h1];rfl,by rw[h2];rfl⟩⟩
instance fld_26_0:sJ J0 26 0 0:=⟨_,_,_,U2,rfl,zP Lf,by decide,rfl⟩
instance fld_26_1:sJ J0 26 1 1:=⟨_,_,_,U2,rfl,zP Le,by decide,rfl⟩
instance fld_26_2:sJ J0 26 2 2:=⟨_,_,_,U2,rfl,zP Hw,by decide,rfl⟩
instance var_24:jG J0 24 true 1:=⟨fun u h1 h2=>⟨_,_,U3,zP Hw,by rw[h1];rfl,by rw[h2];rfl⟩⟩
instance fld_28_2:sJ J0 28 2 2:=⟨_,_,_,U1,rfl,zP Hw,by decide,rfl⟩
instance fld_30_2:sJ J0 30 2 2:=⟨_,_,_,U0,rfl,zP Le,by decide,rfl⟩
instance elt_22:ElT J0 22 2 Jbe 1 (I 0):=⟨Lg,zP L5,⟨_,rfl,rfl⟩,rfl,Nat.le_of_ble_eq_true rfl,rfl,rfl,Nat.le_of_ble_eq_true rfl⟩
theorem zDC:J0.info? 2=some Jbe:=zP L5
instance infI_2:zCx J0 2 Jbe:=⟨zDC⟩
instance mkz_22:MkZ J0 22 I 0 (I 0):=⟨rfl⟩
instance row_22:zB7 J0 22 2 Jbe 1:=⟨Lg,zP L5,rfl⟩
instance var_2:jG J0 2 true 1:=⟨fun u h1 h2=>⟨_,_,Hh,zP L5,by rw[h1];rfl,by rw[h2];rfl⟩⟩
instance elt_23:ElT J0 23 22 Qw 1 (L 1 I []):=⟨G5,zP Lf,⟨_,rfl,rfl⟩,rfl,Nat.le_of_ble_eq_true rfl,rfl,rfl,Nat.le_of_ble_eq_true rfl⟩
theorem zCN:J0.info? 22=some Qw:=zP Lf
instance infI_22:zCx J0 22 Qw:=⟨zCN⟩
instance mkz_23:MkZ J0 23 (L 1 I) ([]:List Int) (L 1 I []):=⟨rfl⟩
instance elt_24:ElT J0 24 23 Jat 1 (L 1 (L 1 I) []):=⟨U3,zP Le,⟨_,rfl,rfl⟩,rfl,Nat.le_of_ble_eq_true rfl,rfl,rfl,Nat.le_of_ble_eq_true rfl⟩
theorem zNz:J0.info? 23=some Jat:=zP Le
instance infI_23:zCx J0 23 Jat:=⟨zNz⟩
instance mkz_24:MkZ J0 24 (L 1 (L 1 I)) ([]:List (List Int)) (L 1 (L 1 I) []):=⟨rfl⟩
instance fld_37_0:sJ J0 37 0 0:=⟨_,_,_,G4,rfl,zP Lf,by decide,rfl⟩
instance fld_37_1:sJ J0 37 1 1:=⟨_,_,_,G4,rfl,zP Le,by decide,rfl⟩
instance fld_37_2:sJ J0 37 2 2:=⟨_,_,_,G4,rfl,zP Hw,by decide,rfl⟩
theorem zXg:J0.info? 24=some Jda:=zP Hw
instance infI_24:zCx J0 24 Jda:=⟨zXg⟩
theorem zXh:J0.info? 37=some Jd9:=zP Gb
instance infI_37:zCx J0 37 Jd9:=⟨zXh⟩
instance var_37:jG J0 37 false 3:=⟨fun u h1 h2=>⟨_,_,G4,zP Gb,by rw[h1];rfl,by rw[h2];rfl⟩⟩
instance zer_37:zGh J0 37 (T.agg [L 1 I [],L 1 (L 1 I) [],L 1 (L 1 (L 1 I)) []]):=⟨_,_,zP Gb,rfl,rfl,rfl,rfl⟩
instance fld_28_0:sJ J0 28 0 0:=⟨_,_,_,U1,rfl,zP L5,by decide,rfl⟩
instance fld_28_1:sJ J0 28 1 1:=⟨_,_,_,U1,rfl,zP L5,by decide,rfl⟩
instance fld_39_0:sJ J0 39 0 0:=⟨_,_,_,Hz,rfl,zP L5,by decide,rfl⟩
instance fld_39_1:sJ J0 39 1 1:=⟨_,_,_,Hz,rfl,zP L5,by decide,rfl⟩
instance fld_39_2:sJ J0 39 2 2:=⟨_,_,_,Hz,rfl,zP Hw,by decide,rfl⟩
theorem zXi:J0.info? 39=some Jd8:=zP U5
instance infI_39:zCx J0 39 Jd8:=⟨zXi⟩
instance var_39:jG J0 39 false 3:=⟨fun u h1 h2=>⟨_,_,Hz,zP U5,by rw[h1];rfl,by rw[h2];rfl⟩⟩
instance zer_39:zGh J0 39 (T.agg [I 0,I 0,L 1 (L 1 (L 1 I)) []]):=⟨_,_,zP U5,rfl,rfl,rfl,rfl⟩
instance fld_30_0:sJ J0 30 0 0:=⟨_,_,_,U0,rfl,zP L5,by decide,rfl⟩
instance fld_30_1:sJ J0 30 1 1:=⟨_,_,_,U0,rfl,zP L5,by decide,rfl⟩
instance fld_41_0:sJ J0 41 0 0:=⟨_,_,_,Hf,rfl,zP L5,by decide,rfl⟩
instance fld_41_1:sJ J0 41 1 1:=⟨_,_,_,Hf,rfl,zP L5,by decide,rfl⟩
instance fld_41_2:sJ J0 41 2 2:=⟨_,_,_,Hf,rfl,zP Le,by decide,rfl⟩
theorem zAY:J0.info? 41=some Jas:=zP U4
instance infI_41:zCx J0 41 Jas:=⟨zAY⟩
instance var_41:jG J0 41 false 3:=⟨fun u h1 h2=>⟨_,_,Hf,zP U4,by rw[h1];rfl,by rw[h2];rfl⟩⟩
instance zer_41:zGh J0 41 (T.agg [I 0,I 0,L 1 (L 1 I) []]):=⟨_,_,zP U4,rfl,rfl,rfl,rfl⟩
instance bld_170:zGi J0 170 [I 0,I 0,I 0,I 0]:=⟨_,_,fun ps=>vW (zP Q8) Hs rfl (places:=[(0,1),(1,1),(2,1),(3,1)]) (by simp[zP L5];decide) ps,rfl,rfl,(by intro i u hu;match i,hu with|0,hu=>cases hu;rfl|1,hu=>cases hu;rfl|2,hu=>cases hu;rfl|3,hu=>cases hu;rfl|_+4,hu=>simp at hu)⟩
theorem zUP:J0.info? 170=some Jd1:=zP Q8
instance infI_170:zCx J0 170 Jd1:=⟨zUP⟩
instance var_170:jG J0 170 false 4:=⟨fun u h1 h2=>⟨_,_,Hs,zP Q8,by rw[h1];rfl,by rw[h2];rfl⟩⟩
instance zer_170:zGh J0 170 (T.agg [I 0,I 0,I 0,I 0]):=⟨_,_,zP Q8,rfl,rfl,rfl,rfl⟩
instance fld_170_0:sJ J0 170 0 0:=⟨_,_,_,Hs,rfl,zP L5,by decide,rfl⟩
theorem zN0{u:T}(h1:u.single=true)(h2:u.size=1):∃(ds:TypeDesc)(ti:TypeInfo)(fs:Array Field)(f:Field),J0.underlying 170=some (.struct fs)∧fs[0]? =some f∧J0.underlying f.type=some ds∧J0.info? f.type=some ti∧zFb ds= !u.single∧ti.size=u.size:=⟨_,_,_,_,Hs,rfl,Hh,zP L5,by rw[h1];rfl,by rw[h2];rfl⟩
instance fldw_170_0:zWh J0 170 0 true 1:=⟨fun _ h1 h2=>zN0 h1 h2⟩
instance bld_197:zGi J0 197 [L 1 I [],L 1 I []]:=⟨_,_,fun ps=>vW (zP Q7) Gs rfl (places:=[(0,1),(1,1)]) (by simp[zP Lf];decide) ps,rfl,rfl,(by intro i u hu;match i,hu with|0,hu=>cases hu;rfl|1,hu=>cases hu;rfl|_+2,hu=>simp at hu)⟩
instance fld_127_0:sJ J0 127 0 0:=⟨_,_,_,Ht,rfl,zP Gb,by decide,rfl⟩
instance fld_127_2:sJ J0 127 2 6:=⟨_,_,_,Ht,rfl,zP Le,by decide,rfl⟩
theorem uJ:J0.info? 197=some Jd0:=zP Q7
instance infI_197:zCx J0 197 Jd0:=⟨uJ⟩
instance var_197:jG J0 197 false 2:=⟨fun u h1 h2=>⟨_,_,Gs,zP Q7,by rw[h1];rfl,by rw[h2];rfl⟩⟩
instance zer_197:zGh J0 197 (T.agg [L 1 I [],L 1 I []]):=⟨_,_,zP Q7,rfl,rfl,rfl,rfl⟩
instance fld_127_1:sJ J0 127 1 3:=⟨_,_,_,Ht,rfl,zP U5,by decide,rfl⟩
instance fld_197_0:sJ J0 197 0 0:=⟨_,_,_,Gs,rfl,zP Lf,by decide,rfl⟩
instance fld_197_1:sJ J0 197 1 1:=⟨_,_,_,Gs,rfl,zP Lf,by decide,rfl⟩
instance var_127:jG J0 127 false 7:=⟨fun u h1 h2=>⟨_,_,Ht,zP Qa,by rw[h1];rfl,by rw[h2];rfl⟩⟩
instance bld_127:zGi J0 127 [T.agg [L 1 I [],L 1 (L 1 I) [],L 1 (L 1 (L 1 I)) []],T.agg [I 0,I 0,L 1 (L 1 (L 1 I)) []],L 1 (L 1 I) []]:=⟨_,_,fun ps=>vW (zP Qa) Ht rfl (places:=[(0,3),(3,3),(6,1)]) (by simp[zP Le,zP Gb,zP U5];decide) ps,rfl,rfl,(by intro i u hu;match i,hu with|0,hu=>cases hu;rfl|1,hu=>cases hu;rfl|2,hu=>cases hu;rfl|_+3,hu=>simp at hu)⟩
instance eqs_170:zTG J0 170:=⟨⟨_,_,_,_,Hs,⟨by decide,rfl,Hh⟩,⟨by decide,rfl,Hh⟩,⟨by decide,rfl,Hh⟩,⟨by decide,rfl,Hh⟩⟩,Tryz.stoodInHeld170,Tryz.eqGuardType170⟩
instance bld_41:zGi J0 41 [I 0,I 0,L 1 (L 1 I) []]:=⟨_,_,fun ps=>vW (zP U4) Hf rfl (places:=[(0,1),(1,1),(2,1)]) (by simp[zP L5,zP Le];decide) ps,rfl,rfl,(by intro i u hu;match i,hu with|0,hu=>cases hu;rfl|1,hu=>cases hu;rfl|2,hu=>cases hu;rfl|_+3,hu=>simp at hu)⟩
instance bld_120:zGi J0 120 [L 1 I [],L 1 I []]:=⟨_,_,fun ps=>zKw (zP Gj) Q2 rfl (zP Lf) ps,rfl,rfl,(by intro i u hu;match i,hu with|0,hu=>cases hu;rfl|1,hu=>cases hu;rfl|_+2,hu=>simp at hu)⟩
instance elt_118:ElT J0 118 120 Ja6 2 (T.agg [L 1 I ((([]:List Int),([]:List Int)).1),L 1 I ((([]:List Int),([]:List Int)).2)]):=⟨Q3,zP Gj,⟨_,rfl,rfl⟩,rfl,Nat.le_of_ble_eq_true rfl,rfl,rfl,Nat.le_of_ble_eq_true rfl⟩
instance row_118:zB7 J0 118 120 Ja6 2:=⟨Q3,zP Gj,rfl⟩
instance arr_120:zXt J0 120 22 Qw 2 1:=⟨Q2,zP Lf,rfl⟩
theorem zFG{u:T}(h1:u.single=true)(h2:u.size=1):∃(ds:TypeDesc)(ti:TypeInfo)(fs:Array Field)(f:Field),J0.underlying 41=some (.struct fs)∧fs[2]? =some f∧J0.underlying f.type=some ds∧J0.info? f.type=some ti∧zFb ds= !u.single∧ti.size=u.size:=⟨_,_,_,_,Hf,rfl,G5,zP Le,by rw[h1];rfl,by rw[h2];rfl⟩
instance fldw_41_2:zWh J0 41 2 true 1:=⟨fun _ h1 h2=>zFG h1 h2⟩
theorem zOT:J0.info? 120=some Ja6:=zP Gj
instance infI_120:zCx J0 120 Ja6:=⟨zOT⟩
instance sli_118:zHd J0 118 120:=⟨Q3⟩
instance var_120:jG J0 120 false 2:=⟨fun u h1 h2=>⟨_,_,Q2,zP Gj,by rw[h1];rfl,by rw[h2];rfl⟩⟩
instance zer_120:zGh J0 120 (T.agg [L 1 I ((([]:List Int),([]:List Int)).1),L 1 I ((([]:List Int),([]:List Int)).2)]):=⟨_,_,zP Gj,rfl,rfl,rfl,rfl⟩
instance bld_37:zGi J0 37 [L 1 I [],L 1 (L 1 I) [],L 1 (L 1 (L 1 I)) []]:=⟨_,_,fun ps=>vW (zP Gb) G4 rfl (places:=[(0,1),(1,1),(2,1)]) (by simp[zP Lf,zP Le,zP Hw];decide) ps,rfl,rfl,(by intro i u hu;match i,hu with|0,hu=>cases hu;rfl|1,hu=>cases hu;rfl|2,hu=>cases hu;rfl|_+3,hu=>simp at hu)⟩
instance mvh_23:MvH J0 23 [(0,[0,0]),(1,[1,0]),(2,[2,0])] 2:=⟨⟩
instance mvh_24:MvH J0 24 [(2,[2,0])] 2:=⟨⟩
instance mvh_25:MvH J0 25 [(2,[2,0])] 2:=⟨⟩
instance var_26:jG J0 26 false 3:=⟨fun u h1 h2=>⟨_,_,U2,zP Tryz.type26,by rw[h1];rfl,by rw[h2];rfl⟩⟩
instance var_28:jG J0 28 false 3:=⟨fun u h1 h2=>⟨_,_,U1,zP Tryz.type28,by rw[h1];rfl,by rw[h2];rfl⟩⟩
instance var_30:jG J0 30 false 3:=⟨fun u h1 h2=>⟨_,_,U0,zP Tryz.type30,by rw[h1];rfl,by rw[h2];rfl⟩⟩
theorem zOU:J0.info? 127=some Jd4:=zP Qa
instance infI_127:zCx J0 127 Jd4:=⟨zOU⟩
instance zer_127:zGh J0 127 (T.agg [T.agg [L 1 I [],L 1 (L 1 I) [],L 1 (L 1 (L 1 I)) []],T.agg [I 0,I 0,L 1 (L 1 (L 1 I)) []],L 1 (L 1 I) []]):=⟨_,_,zP Qa,rfl,rfl,rfl,rfl⟩
instance bld_133:zGi J0 133 [L 1 I [],L 1 I [],L 1 I []]:=⟨_,_,fun ps=>vW (zP Gi) Q0 rfl (places:=[(0,1),(1,1),(2,1)]) (by simp[zP Lf];decide) ps,rfl,rfl,(by intro i u hu;match i,hu with|0,hu=>cases hu;rfl|1,hu=>cases hu;rfl|2,hu=>cases hu;rfl|_+3,hu=>simp at hu)⟩
instance elt_130:ElT J0 130 133 Ja5 3 (T.agg [L 1 I [],L 1 I [],L 1 I []]):=⟨Gv,zP Gi,⟨_,rfl,rfl⟩,rfl,Nat.le_of_ble_eq_true rfl,rfl,rfl,Nat.le_of_ble_eq_true rfl⟩
theorem zOV:J0.info? 130=some Jd3:=zP Jae
instance infI_130:zCx J0 130 Jd3:=⟨zOV⟩
instance rp_133{a0:List Int}{a1:List Int}{a2:List Int}:Rp (.agg [(L 1 I) a0,(L 1 I) a1,(L 1 I) a2]) zG (zK.mk a0 a1 a2):=⟨rfl⟩
instance var_78:jG J0 78 true 1:=⟨fun u h1 h2=>⟨_,_,Tryz.underlying78,zP Jaq,by rw[h1];rfl,by rw[h2];rfl⟩⟩
instance var_130:jG J0 130 true 1:=⟨fun u h1 h2=>⟨_,_,Gv,zP Jae,by rw[h1];rfl,by rw[h2];rfl⟩⟩
instance row_130:zB7 J0 130 133 Ja5 3:=⟨Gv,zP Gi,rfl⟩
instance zer_130:zGh J0 130 (L 3 zG []):=⟨_,_,zP Jae,rfl,rfl,rfl,rfl⟩
instance fld_137_0:sJ J0 137 0 0:=⟨_,_,_,Gt,rfl,zP Jaq,by decide,rfl⟩
instance fld_137_1:sJ J0 137 1 1:=⟨_,_,_,Gt,rfl,zP Jap,by decide,rfl⟩
instance fld_137_2:sJ J0 137 2 2:=⟨_,_,_,Gt,rfl,zP Q9,by decide,rfl⟩
instance row_135:zB7 J0 135 41 Jas 3:=⟨Gu,zP U4,rfl⟩
instance var_79:jG J0 79 true 1:=⟨fun u h1 h2=>⟨_,_,Tryz.underlying79,zP Jap,by rw[h1];rfl,by rw[h2];rfl⟩⟩
instance var_135:jG J0 135 true 1:=⟨fun u h1 h2=>⟨_,_,Gu,zP Q9,by rw[h1];rfl,by rw[h2];rfl⟩⟩
instance bld_137:zGi J0 137 [T.lit (.pointer none),T.lit (.pointer none),L 3 zO []]:=⟨_,_,fun ps=>vW (zP Tryz.type137) Gt rfl (places:=[(0,1),(1,1),(2,1)]) (by simp[zP Q9,zP Jaq,zP Jap];decide) ps,rfl,rfl,(by intro i u hu;match i,hu with|0,hu=>cases hu;rfl|1,hu=>cases hu;rfl|2,hu=>cases hu;rfl|_+3,hu=>simp at hu)⟩
instance elt_135:ElT J0 135 41 Jas 3 (T.agg [I 0,I 0,L 1 (L 1 I) []]):=⟨Gu,zP U4,⟨_,rfl,rfl⟩,rfl,Nat.le_of_ble_eq_true rfl,rfl,rfl,Nat.le_of_ble_eq_true rfl⟩
instance fld_133_0:sJ J0 133 0 0:=⟨_,_,_,Q0,rfl,zP Lf,by decide,rfl⟩
theorem zOW:J0.info? 133=some Ja5:=zP Gi
instance infI_133:zCx J0 133 Ja5:=⟨zOW⟩
theorem zOX:J0.info? 135=some Jd2:=zP Q9
instance infI_135:zCx J0 135 Jd2:=⟨zOX⟩
instance rp_41{a0:Int}{a1:Int}{a2:List (List Int)}:Rp (.agg [I a0,I a1,(L 1 (L 1 I)) a2]) zO (zU.mk a0 a1 a2):=⟨rfl⟩
instance sli_130:zHd J0 130 133:=⟨Gv⟩
instance sli_135:zHd J0 135 41:=⟨Gu⟩
instance var_133:jG J0 133 false 3:=⟨fun u h1 h2=>⟨_,_,Q0,zP Gi,by rw[h1];rfl,by rw[h2];rfl⟩⟩
instance zer_133:zGh J0 133 (T.agg [L 1 I [],L 1 I [],L 1 I []]):=⟨_,_,zP Gi,rfl,rfl,rfl,rfl⟩
instance bld_39:zGi J0 39 [I 0,I 0,L 1 (L 1 (L 1 I)) []]:=⟨_,_,fun ps=>vW (zP U5) Hz rfl (places:=[(0,1),(1,1),(2,1)]) (by simp[zP L5,zP Hw];decide) ps,rfl,rfl,(by intro i u hu;match i,hu with|0,hu=>cases hu;rfl|1,hu=>cases hu;rfl|2,hu=>cases hu;rfl|_+3,hu=>simp at hu)⟩
instance elt_181:ElT J0 181 3 Jdg 1 (I 0):=⟨Uz,zP Jb5,⟨_,rfl,rfl⟩,rfl,Nat.le_of_ble_eq_true rfl,rfl,rfl,Nat.le_of_ble_eq_true rfl⟩
instance row_181:zB7 J0 181 3 Jdg 1:=⟨Uz,zP Jb5,rfl⟩
instance sli_181:zHd J0 181 3:=⟨Uz⟩
instance var_3:jG J0 3 true 1:=⟨fun u h1 h2=>⟨_,_,Uj,zP Jb5,by rw[h1];rfl,by rw[h2];rfl⟩⟩
instance bld_63:zGi J0 63 [T.agg [L 1 I [],L 1 (L 1 I) [],L 1 (L 1 (L 1 I)) []],T.agg [L 1 I [],L 1 (L 1 I) [],L 1 (L 1 (L 1 I)) []],L 1 (L 1 I) []]:=⟨_,_,fun ps=>vW (zP Jar) Jbd rfl (places:=[(0,3),(3,3),(6,1)]) (by simp[zP Le,zP Gb];decide) ps,rfl,rfl,(by intro i u hu;match i,hu with|0,hu=>cases hu;rfl|1,hu=>cases hu;rfl|2,hu=>cases hu;rfl|_+3,hu=>simp at hu)⟩
instance var_63:jG J0 63 false 7:=⟨fun u h1 h2=>⟨_,_,Jbd,zP Jar,by rw[h1];rfl,by rw[h2];rfl⟩⟩
instance zer_63:zGh J0 63 (T.agg [T.agg [L 1 I [],L 1 (L 1 I) [],L 1 (L 1 (L 1 I)) []],T.agg [L 1 I [],L 1 (L 1 I) [],L 1 (L 1 (L 1 I)) []],L 1 (L 1 I) []]):=⟨_,_,zP Jar,rfl,rfl,rfl,rfl⟩
end Go.Wk
