/- The program's CoverMap returns what the reference's returns,for all arguments;no conditions. -/
import Derived.Test.YtmoaeebpmcafpaaGreatAbC
import Derived.Test.YtmoaeebpmcafpaaGreatWF
import Derived.Test.YtmoaeebpmcafpaaGreatProg
open Go.Proofs.Tryz renaming prog→J0,type22→Ks,underlying22→Ku,type2→Kw,type23→L9,underlying48→Lw,underlying2→Lz,underlying143→H7,underlying131→H8,type24→H9,underlying41→Hc,underlying28→Hd,underlying23→He,type137→Hr,type116→Hs,underlying177→Hx,underlying120→Hy,underlying118→Hz,underlying113→G4,underlying36→Gb,underlying26→Gd,underlying24→Ge,type48→Gf,type41→Gg,type28→Gi,underlying3→Gu,underlying137→Uf,underlying135→Ug,underlying116→Uh,underlying104→Ui,type177→Uk,type143→Ul,type131→Um,type118→Un,t22→Q5,t137→Qe,t116→Qf,type113→Qi,type74→Qs,type64→Qt,t48→Qu,t23→Qv,type3→Jae,t2→Jaj,t177→Jcg,t143→Jch,t131→Jci,t118→Jcj,t113→Jck,t41→Jcn,t28→Jco,t24→Jcp,t3→Jcx
open Option renaming some→iF,none→iG
open Bool renaming true→iH,false→iI
namespace Go.Wk
open Go Go.Proofs Go.Ab
abbrev lV:=L 1 I
abbrev lM:=L 1 lV
abbrev lC:=L 1 lM
abbrev tG(x:zN):T:=T.agg [T.ro (lV x.Word),T.ro (lV x.Left),T.ro (lV x.zZj)]
abbrev zBk(x:zO):T:=T.agg [I x.Prime,I x.yR,T.ro (lM x.Rows)]
abbrev xE(x:zB):T:=T.agg [I x.Prime,I x.Dim,T.ro (lC x.zF)]
abbrev qPr(x:SPr):T:=T.agg [T.ro (lV x.zA),T.ro (lM x.zV),T.ro (lC x.zG)]
abbrev yP(x:zJ):T:=T.agg [T.ro (lV x.x),T.ro (lV x.v)]
abbrev yV(x:zZ):T:=T.agg [T.agg [T.ro (lV x.p.zA),T.ro (lM x.p.zV),T.ro (lC x.p.zG)],T.agg [I x.m.Prime,I x.m.Dim,T.ro (lC x.m.zF)],T.ro (lM x.zNU)]
abbrev zIZ(x:xR):T:=T.agg [T.ro ((Pt yH) x.p),T.ro ((Pt zR) x.m),T.ro ((L 3 zK) x.sums)]
theorem xK:J0.follows .mixedOrders=iH:=rfl
instance:Mix J0:=⟨xK⟩
instance sli_22:zHN J0 22 2:=⟨Ku⟩
instance row_23:zBW J0 23 22 Q5 1:=⟨He,zU Ks,rfl⟩
instance sli_23:zHN J0 23 22:=⟨He⟩
instance var_22:kP J0 22 iH 1:=⟨fun u h1 h2=>⟨_,_,Ku,zU Ks,by rw[h1];rfl,by rw[h2];rfl⟩⟩
instance row_24:zBW J0 24 23 Qv 1:=⟨Ge,zU L9,rfl⟩
instance sli_24:zHN J0 24 23:=⟨Ge⟩
instance var_23:kP J0 23 iH 1:=⟨fun u h1 h2=>⟨_,_,He,zU L9,by rw[h1];rfl,by rw[h2];rfl⟩⟩
instance fld_26_0:qS J0 26 0 0:=⟨_,_,_,Gd,rfl,zU Ks,by decide,rfl⟩
instance fld_26_1:qS J0 26 1 1:=⟨_,_,_,Gd,rfl,zU L9,by decide,rfl⟩
instance fld_26_2:qS J0 26 2 2:=⟨_,_,_,Gd,rfl,zU H9,by decide,rfl⟩
instance var_24:kP J0 24 iH 1:=⟨fun u h1 h2=>⟨_,_,Ge,zU H9,by rw[h1];rfl,by rw[h2];rfl⟩⟩
instance elt_22:ElT J0 22 2 Jaj 1 (I 0):=⟨Ku,zU Kw,⟨_,rfl,rfl⟩,rfl,Nat.le_of_ble_eq_true rfl,rfl,rfl,Nat.le_of_ble_eq_true rfl⟩
theorem zFB:J0.info? 2=iF Jaj:=zU Kw
instance infI_2:zCQ J0 2 Jaj:=⟨zFB⟩
instance mkz_22:MkZ J0 22 I 0 (I 0):=⟨rfl⟩
instance row_22:zBW J0 22 2 Jaj 1:=⟨Ku,zU Kw,rfl⟩
instance var_2:kP J0 2 iH 1:=⟨fun u h1 h2=>⟨_,_,Lz,zU Kw,by rw[h1];rfl,by rw[h2];rfl⟩⟩
instance elt_23:ElT J0 23 22 Q5 1 (L 1 I []):=⟨He,zU Ks,⟨_,rfl,rfl⟩,rfl,Nat.le_of_ble_eq_true rfl,rfl,rfl,Nat.le_of_ble_eq_true rfl⟩
theorem zDo:J0.info? 22=iF Q5:=zU Ks
instance infI_22:zCQ J0 22 Q5:=⟨zDo⟩
instance mkz_23:MkZ J0 23 (L 1 I) ([]:iM) (L 1 I []):=⟨rfl⟩
instance elt_24:ElT J0 24 23 Qv 1 (L 1 (L 1 I) []):=⟨Ge,zU L9,⟨_,rfl,rfl⟩,rfl,Nat.le_of_ble_eq_true rfl,rfl,rfl,Nat.le_of_ble_eq_true rfl⟩
theorem zW6:J0.info? 23=iF Qv:=zU L9
instance infI_23:zCQ J0 23 Qv:=⟨zW6⟩
instance mkz_24:MkZ J0 24 (L 1 (L 1 I)) ([]:iN) (L 1 (L 1 I) []):=⟨rfl⟩
instance fld_28_0:qS J0 28 0 0:=⟨_,_,_,Hd,rfl,zU Ks,by decide,rfl⟩
instance fld_28_1:qS J0 28 1 1:=⟨_,_,_,Hd,rfl,zU L9,by decide,rfl⟩
instance fld_28_2:qS J0 28 2 2:=⟨_,_,_,Hd,rfl,zU H9,by decide,rfl⟩
theorem yAP:J0.info? 24=iF Jcp:=zU H9
instance infI_24:zCQ J0 24 Jcp:=⟨yAP⟩
theorem zW7:J0.info? 28=iF Jco:=zU Gi
instance infI_28:zCQ J0 28 Jco:=⟨zW7⟩
instance var_28:kP J0 28 iI 3:=⟨fun u h1 h2=>⟨_,_,Hd,zU Gi,by rw[h1];rfl,by rw[h2];rfl⟩⟩
instance zer_28:zHF J0 28 (T.agg [L 1 I [],L 1 (L 1 I) [],L 1 (L 1 (L 1 I)) []]):=⟨_,_,zU Gi,rfl,rfl,rfl,rfl⟩
instance bld_143:zHL J0 143 [I 0,I 0,I 0,I 0]:=⟨_,_,fun ps=>uX (zU Ul) H7 rfl (places:=[(0,1),(1,1),(2,1),(3,1)]) (by simp[zU Kw];decide) ps,rfl,rfl,(by intro i u hu;match i,hu with|0,hu=>cases hu;rfl|1,hu=>cases hu;rfl|2,hu=>cases hu;rfl|3,hu=>cases hu;rfl|_+4,hu=>simp at hu)⟩
theorem zYr:J0.info? 143=iF Jch:=zU Ul
instance infI_143:zCQ J0 143 Jch:=⟨zYr⟩
instance var_143:kP J0 143 iI 4:=⟨fun u h1 h2=>⟨_,_,H7,zU Ul,by rw[h1];rfl,by rw[h2];rfl⟩⟩
instance zer_143:zHF J0 143 (T.agg [I 0,I 0,I 0,I 0]):=⟨_,_,zU Ul,rfl,rfl,rfl,rfl⟩
instance fld_143_0:qS J0 143 0 0:=⟨_,_,_,H7,rfl,zU Kw,by decide,rfl⟩
theorem zP2{u:T}(h1:u.single=iH)(h2:u.size=1):∃(ds:TypeDesc)(ti:TypeInfo)(fs:Array Field)(f:Field),J0.underlying 143=iF (.struct fs)∧fs[0]? =iF f∧J0.underlying f.type=iF ds∧J0.info? f.type=iF ti∧zFD ds= !u.single∧ti.size=u.size:=⟨_,_,_,_,H7,rfl,Lz,zU Kw,by rw[h1];rfl,by rw[h2];rfl⟩
instance fldw_143_0:zZB J0 143 0 iH 1:=⟨fun _ h1 h2=>zP2 h1 h2⟩
instance bld_41:zHL J0 41 [I 0,I 0,L 1 (L 1 (L 1 I)) []]:=⟨_,_,fun ps=>uX (zU Gg) Hc rfl (places:=[(0,1),(1,1),(2,1)]) (by simp[zU Kw,zU H9];decide) ps,rfl,rfl,(by intro i u hu;match i,hu with|0,hu=>cases hu;rfl|1,hu=>cases hu;rfl|2,hu=>cases hu;rfl|_+3,hu=>simp at hu)⟩
instance fld_41_2:qS J0 41 2 2:=⟨_,_,_,Hc,rfl,zU H9,by decide,rfl⟩
theorem zW8:J0.info? 41=iF Jcn:=zU Gg
instance infI_41:zCQ J0 41 Jcn:=⟨zW8⟩
instance var_41:kP J0 41 iI 3:=⟨fun u h1 h2=>⟨_,_,Hc,zU Gg,by rw[h1];rfl,by rw[h2];rfl⟩⟩
instance zer_41:zHF J0 41 (T.agg [I 0,I 0,L 1 (L 1 (L 1 I)) []]):=⟨_,_,zU Gg,rfl,rfl,rfl,rfl⟩
instance fld_41_0:qS J0 41 0 0:=⟨_,_,_,Hc,rfl,zU Kw,by decide,rfl⟩
instance fld_41_1:qS J0 41 1 1:=⟨_,_,_,Hc,rfl,zU Kw,by decide,rfl⟩
instance bld_177:zHL J0 177 [L 1 I [],L 1 I []]:=⟨_,_,fun ps=>uX (zU Uk) Hx rfl (places:=[(0,1),(1,1)]) (by simp[zU Ks];decide) ps,rfl,rfl,(by intro i u hu;match i,hu with|0,hu=>cases hu;rfl|1,hu=>cases hu;rfl|_+2,hu=>simp at hu)⟩
instance fld_131_0:qS J0 131 0 0:=⟨_,_,_,H8,rfl,zU Gi,by decide,rfl⟩
instance fld_131_2:qS J0 131 2 6:=⟨_,_,_,H8,rfl,zU L9,by decide,rfl⟩
theorem uP:J0.info? 177=iF Jcg:=zU Uk
instance infI_177:zCQ J0 177 Jcg:=⟨uP⟩
instance var_177:kP J0 177 iI 2:=⟨fun u h1 h2=>⟨_,_,Hx,zU Uk,by rw[h1];rfl,by rw[h2];rfl⟩⟩
instance zer_177:zHF J0 177 (T.agg [L 1 I [],L 1 I []]):=⟨_,_,zU Uk,rfl,rfl,rfl,rfl⟩
instance fld_131_1:qS J0 131 1 3:=⟨_,_,_,H8,rfl,zU Gg,by decide,rfl⟩
instance fld_177_0:qS J0 177 0 0:=⟨_,_,_,Hx,rfl,zU Ks,by decide,rfl⟩
instance fld_177_1:qS J0 177 1 1:=⟨_,_,_,Hx,rfl,zU Ks,by decide,rfl⟩
instance var_131:kP J0 131 iI 7:=⟨fun u h1 h2=>⟨_,_,H8,zU Um,by rw[h1];rfl,by rw[h2];rfl⟩⟩
instance bld_131:zHL J0 131 [T.agg [L 1 I [],L 1 (L 1 I) [],L 1 (L 1 (L 1 I)) []],T.agg [I 0,I 0,L 1 (L 1 (L 1 I)) []],L 1 (L 1 I) []]:=⟨_,_,fun ps=>uX (zU Um) H8 rfl (places:=[(0,3),(3,3),(6,1)]) (by simp[zU L9,zU Gi,zU Gg];decide) ps,rfl,rfl,(by intro i u hu;match i,hu with|0,hu=>cases hu;rfl|1,hu=>cases hu;rfl|2,hu=>cases hu;rfl|_+3,hu=>simp at hu)⟩
theorem zQZ:J0.info? 131=iF Jci:=zU Um
instance infI_131:zCQ J0 131 Jci:=⟨zQZ⟩
instance zer_131:zHF J0 131 (T.agg [T.agg [L 1 I [],L 1 (L 1 I) [],L 1 (L 1 (L 1 I)) []],T.agg [I 0,I 0,L 1 (L 1 (L 1 I)) []],L 1 (L 1 I) []]):=⟨_,_,zU Um,rfl,rfl,rfl,rfl⟩
instance bld_28:zHL J0 28 [L 1 I [],L 1 (L 1 I) [],L 1 (L 1 (L 1 I)) []]:=⟨_,_,fun ps=>uX (zU Gi) Hd rfl (places:=[(0,1),(1,1),(2,1)]) (by simp[zU Ks,zU L9,zU H9];decide) ps,rfl,rfl,(by intro i u hu;match i,hu with|0,hu=>cases hu;rfl|1,hu=>cases hu;rfl|2,hu=>cases hu;rfl|_+3,hu=>simp at hu)⟩
instance eqs_143:zWT J0 143:=⟨⟨_,_,_,_,H7,⟨by decide,rfl,Lz⟩,⟨by decide,rfl,Lz⟩,⟨by decide,rfl,Lz⟩,⟨by decide,rfl,Lz⟩⟩,Tryz.stoodInHeld143,Tryz.eqGuardType143⟩
instance bld_48:zHL J0 48 [I 0,I 0,L 1 (L 1 I) []]:=⟨_,_,fun ps=>uX (zU Gf) Lw rfl (places:=[(0,1),(1,1),(2,1)]) (by simp[zU Kw,zU L9];decide) ps,rfl,rfl,(by intro i u hu;match i,hu with|0,hu=>cases hu;rfl|1,hu=>cases hu;rfl|2,hu=>cases hu;rfl|_+3,hu=>simp at hu)⟩
instance fld_48_2:qS J0 48 2 2:=⟨_,_,_,Lw,rfl,zU L9,by decide,rfl⟩
theorem zAS:J0.info? 48=iF Qu:=zU Gf
instance infI_48:zCQ J0 48 Qu:=⟨zAS⟩
instance var_48:kP J0 48 iI 3:=⟨fun u h1 h2=>⟨_,_,Lw,zU Gf,by rw[h1];rfl,by rw[h2];rfl⟩⟩
instance zer_48:zHF J0 48 (T.agg [I 0,I 0,L 1 (L 1 I) []]):=⟨_,_,zU Gf,rfl,rfl,rfl,rfl⟩
theorem zGx{u:T}(h1:u.single=iH)(h2:u.size=1):∃(ds:TypeDesc)(ti:TypeInfo)(fs:Array Field)(f:Field),J0.underlying 48=iF (.struct fs)∧fs[2]? =iF f∧J0.underlying f.type=iF ds∧J0.info? f.type=iF ti∧zFD ds= !u.single∧ti.size=u.size:=⟨_,_,_,_,Lw,rfl,He,zU L9,by rw[h1];rfl,by rw[h2];rfl⟩
instance fldw_48_2:zZB J0 48 2 iH 1:=⟨fun _ h1 h2=>zGx h1 h2⟩
instance bld_116:zHL J0 116 [L 1 I [],L 1 I [],L 1 I []]:=⟨_,_,fun ps=>uX (zU Hs) Uh rfl (places:=[(0,1),(1,1),(2,1)]) (by simp[zU Ks];decide) ps,rfl,rfl,(by intro i u hu;match i,hu with|0,hu=>cases hu;rfl|1,hu=>cases hu;rfl|2,hu=>cases hu;rfl|_+3,hu=>simp at hu)⟩
instance elt_113:ElT J0 113 116 Qf 3 (T.agg [L 1 I [],L 1 I [],L 1 I []]):=⟨G4,zU Hs,⟨_,rfl,rfl⟩,rfl,Nat.le_of_ble_eq_true rfl,rfl,rfl,Nat.le_of_ble_eq_true rfl⟩
theorem zRa:J0.info? 113=iF Jck:=zU Qi
instance infI_113:zCQ J0 113 Jck:=⟨zRa⟩
instance rp_116{a0:iM}{a1:iM}{a2:iM}:Rp (.agg [(L 1 I) a0,(L 1 I) a1,(L 1 I) a2]) zH (zN.mk a0 a1 a2):=⟨rfl⟩
instance var_64:kP J0 64 iH 1:=⟨fun u h1 h2=>⟨_,_,Tryz.underlying64,zU Qt,by rw[h1];rfl,by rw[h2];rfl⟩⟩
instance var_113:kP J0 113 iH 1:=⟨fun u h1 h2=>⟨_,_,G4,zU Qi,by rw[h1];rfl,by rw[h2];rfl⟩⟩
instance row_113:zBW J0 113 116 Qf 3:=⟨G4,zU Hs,rfl⟩
instance zer_113:zHF J0 113 (L 3 zH []):=⟨_,_,zU Qi,rfl,rfl,rfl,rfl⟩
instance fld_120_0:qS J0 120 0 0:=⟨_,_,_,Hy,rfl,zU Qt,by decide,rfl⟩
instance fld_48_0:qS J0 48 0 0:=⟨_,_,_,Lw,rfl,zU Kw,by decide,rfl⟩
instance fld_48_1:qS J0 48 1 1:=⟨_,_,_,Lw,rfl,zU Kw,by decide,rfl⟩
instance fld_120_1:qS J0 120 1 1:=⟨_,_,_,Hy,rfl,zU Qs,by decide,rfl⟩
instance fld_120_2:qS J0 120 2 2:=⟨_,_,_,Hy,rfl,zU Un,by decide,rfl⟩
instance row_118:zBW J0 118 48 Qu 3:=⟨Hz,zU Gf,rfl⟩
instance var_74:kP J0 74 iH 1:=⟨fun u h1 h2=>⟨_,_,Tryz.underlying74,zU Qs,by rw[h1];rfl,by rw[h2];rfl⟩⟩
instance var_118:kP J0 118 iH 1:=⟨fun u h1 h2=>⟨_,_,Hz,zU Un,by rw[h1];rfl,by rw[h2];rfl⟩⟩
instance bld_120:zHL J0 120 [T.lit (.pointer iG),T.lit (.pointer iG),L 3 zK []]:=⟨_,_,fun ps=>uX (zU Tryz.type120) Hy rfl (places:=[(0,1),(1,1),(2,1)]) (by simp[zU Un,zU Qt,zU Qs];decide) ps,rfl,rfl,(by intro i u hu;match i,hu with|0,hu=>cases hu;rfl|1,hu=>cases hu;rfl|2,hu=>cases hu;rfl|_+3,hu=>simp at hu)⟩
instance elt_118:ElT J0 118 48 Qu 3 (T.agg [I 0,I 0,L 1 (L 1 I) []]):=⟨Hz,zU Gf,⟨_,rfl,rfl⟩,rfl,Nat.le_of_ble_eq_true rfl,rfl,rfl,Nat.le_of_ble_eq_true rfl⟩
instance fld_116_0:qS J0 116 0 0:=⟨_,_,_,Uh,rfl,zU Ks,by decide,rfl⟩
theorem zRb:J0.info? 116=iF Qf:=zU Hs
instance infI_116:zCQ J0 116 Qf:=⟨zRb⟩
theorem zRc:J0.info? 118=iF Jcj:=zU Un
instance infI_118:zCQ J0 118 Jcj:=⟨zRc⟩
instance rp_48{a0:Int}{a1:Int}{a2:iN}:Rp (.agg [I a0,I a1,(L 1 (L 1 I)) a2]) zK (zO.mk a0 a1 a2):=⟨rfl⟩
instance sli_113:zHN J0 113 116:=⟨G4⟩
instance sli_118:zHN J0 118 48:=⟨Hz⟩
instance var_116:kP J0 116 iI 3:=⟨fun u h1 h2=>⟨_,_,Uh,zU Hs,by rw[h1];rfl,by rw[h2];rfl⟩⟩
instance zer_116:zHF J0 116 (T.agg [L 1 I [],L 1 I [],L 1 I []]):=⟨_,_,zU Hs,rfl,rfl,rfl,rfl⟩
instance bld_137:zHL J0 137 [L 1 I [],L 1 I []]:=⟨_,_,fun ps=>zLI (zU Hr) Uf rfl (zU Ks) ps,rfl,rfl,(by intro i u hu;match i,hu with|0,hu=>cases hu;rfl|1,hu=>cases hu;rfl|_+2,hu=>simp at hu)⟩
instance elt_135:ElT J0 135 137 Qe 2 (T.agg [L 1 I ((([]:iM),([]:iM)).1),L 1 I ((([]:iM),([]:iM)).2)]):=⟨Ug,zU Hr,⟨_,rfl,rfl⟩,rfl,Nat.le_of_ble_eq_true rfl,rfl,rfl,Nat.le_of_ble_eq_true rfl⟩
instance row_135:zBW J0 135 137 Qe 2:=⟨Ug,zU Hr,rfl⟩
instance arr_137:zWV J0 137 22 Q5 2 1:=⟨Uf,zU Ks,rfl⟩
theorem zRd:J0.info? 137=iF Qe:=zU Hr
instance infI_137:zCQ J0 137 Qe:=⟨zRd⟩
instance sli_135:zHN J0 135 137:=⟨Ug⟩
instance var_137:kP J0 137 iI 2:=⟨fun u h1 h2=>⟨_,_,Uf,zU Hr,by rw[h1];rfl,by rw[h2];rfl⟩⟩
instance zer_137:zHF J0 137 (T.agg [L 1 I ((([]:iM),([]:iM)).1),L 1 I ((([]:iM),([]:iM)).2)]):=⟨_,_,zU Hr,rfl,rfl,rfl,rfl⟩
instance elt_104:ElT J0 104 3 Jcx 1 (I 0):=⟨Ui,zU Jae,⟨_,rfl,rfl⟩,rfl,Nat.le_of_ble_eq_true rfl,rfl,rfl,Nat.le_of_ble_eq_true rfl⟩
instance row_104:zBW J0 104 3 Jcx 1:=⟨Ui,zU Jae,rfl⟩
instance sli_104:zHN J0 104 3:=⟨Ui⟩
instance var_3:kP J0 3 iH 1:=⟨fun u h1 h2=>⟨_,_,Gu,zU Jae,by rw[h1];rfl,by rw[h2];rfl⟩⟩
instance var_26:kP J0 26 iI 3:=⟨fun u h1 h2=>⟨_,_,Gd,zU Tryz.type26,by rw[h1];rfl,by rw[h2];rfl⟩⟩
instance fld_36_2:qS J0 36 2 2:=⟨_,_,_,Gb,rfl,zU H9,by decide,rfl⟩
instance fld_36_0:qS J0 36 0 0:=⟨_,_,_,Gb,rfl,zU Kw,by decide,rfl⟩
instance fld_36_1:qS J0 36 1 1:=⟨_,_,_,Gb,rfl,zU Kw,by decide,rfl⟩
instance var_36:kP J0 36 iI 3:=⟨fun u h1 h2=>⟨_,_,Gb,zU Tryz.type36,by rw[h1];rfl,by rw[h2];rfl⟩⟩
end Go.Wk
