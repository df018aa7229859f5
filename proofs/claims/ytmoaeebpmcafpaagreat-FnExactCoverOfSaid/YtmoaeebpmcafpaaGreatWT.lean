/- The program's CoverOf returns what the reference's returns,for all arguments;no conditions. -/
import Derived.Test.YtmoaeebpmcafpaaGreatAbC
import Derived.Test.YtmoaeebpmcafpaaGreatWF
import Derived.Test.YtmoaeebpmcafpaaGreatProg
open Go.Proofs.Tryz renaming prog→J1,type22→L9,underlying22→La,type2→Lf,type23→Lq,underlying48→H9,underlying2→Ha,underlying143→Hk,underlying131→Hl,type24→Hm,underlying41→Hp,underlying28→Hq,underlying23→Hr,type137→Gi,type116→Gj,underlying177→Gp,underlying120→Gs,underlying118→Gt,underlying113→Gu,underlying36→U0,underlying26→U1,underlying24→U2,type48→U3,type41→U4,type28→U5,underlying3→Uh,underlying137→Ux,underlying135→Uy,underlying116→Uz,underlying104→Q0,type177→Q7,type143→Q8,type131→Q9,type118→Qa,t22→Qn,t137→Qv,t116→Qw,type113→Ja3,type74→Jaf,type64→Jag,t48→Jah,t23→Jai,type3→Jaz,t2→Jb3,t177→Jct,t143→Jcu,t131→Jcv,t118→Jcw,t113→Jcx,t41→Jd1,t28→Jd2,t24→Jd3,t3→Jdb
open Option renaming some→iz,none→iA
open Bool renaming true→iB,false→iC
namespace Go.Wk
open Go Go.Proofs Go.Ab
abbrev lV:=L 1 I
abbrev lM:=L 1 lV
abbrev lC:=L 1 lM
abbrev tB(x:zL):T:=T.agg [T.ro (lV x.Word),T.ro (lV x.Left),T.ro (lV x.zXx)]
abbrev zGC(x:zU):T:=T.agg [I x.Prime,I x.xU,T.ro (lM x.Rows)]
abbrev wX(x:zF):T:=T.agg [I x.Prime,I x.Dim,T.ro (lC x.zP)]
abbrev qPr(x:SPr):T:=T.agg [T.ro (lV x.zA),T.ro (lM x.zR),T.ro (lC x.zE)]
abbrev yO(x:zJ):T:=T.agg [T.ro (lV x.x),T.ro (lV x.v)]
abbrev yT(x:zY):T:=T.agg [T.agg [T.ro (lV x.p.zA),T.ro (lM x.p.zR),T.ro (lC x.p.zE)],T.agg [I x.m.Prime,I x.m.Dim,T.ro (lC x.m.zP)],T.ro (lM x.zMY)]
abbrev zIr(x:xT):T:=T.agg [T.ro ((Pt yF) x.p),T.ro ((Pt zW) x.m),T.ro ((L 3 zO) x.sums)]
theorem xZ:J1.follows .mixedOrders=iB:=rfl
instance:Mix J1:=⟨xZ⟩
instance sli_22:zHp J1 22 2:=⟨La⟩
instance row_23:zBG J1 23 22 Qn 1:=⟨Hr,zT L9,rfl⟩
instance sli_23:zHp J1 23 22:=⟨Hr⟩
instance var_22:kD J1 22 iB 1:=⟨fun u h1 h2=>⟨_,_,La,zT L9,by rw[h1];rfl,by rw[h2];rfl⟩⟩
instance row_24:zBG J1 24 23 Jai 1:=⟨U2,zT Lq,rfl⟩
instance sli_24:zHp J1 24 23:=⟨U2⟩
instance var_23:kD J1 23 iB 1:=⟨fun u h1 h2=>⟨_,_,Hr,zT Lq,by rw[h1];rfl,by rw[h2];rfl⟩⟩
instance fld_26_0:qK J1 26 0 0:=⟨_,_,_,U1,rfl,zT L9,by decide,rfl⟩
instance fld_26_1:qK J1 26 1 1:=⟨_,_,_,U1,rfl,zT Lq,by decide,rfl⟩
instance fld_26_2:qK J1 26 2 2:=⟨_,_,_,U1,rfl,zT Hm,by decide,rfl⟩
instance var_24:kD J1 24 iB 1:=⟨fun u h1 h2=>⟨_,_,U2,zT Hm,by rw[h1];rfl,by rw[h2];rfl⟩⟩
instance elt_22:ElT J1 22 2 Jb3 1 (I 0):=⟨La,zT Lf,⟨_,rfl,rfl⟩,rfl,Nat.le_of_ble_eq_true rfl,rfl,rfl,Nat.le_of_ble_eq_true rfl⟩
theorem zFa:J1.info? 2=iz Jb3:=zT Lf
instance infI_2:zC6 J1 2 Jb3:=⟨zFa⟩
instance mkz_22:MkZ J1 22 I 0 (I 0):=⟨rfl⟩
instance row_22:zBG J1 22 2 Jb3 1:=⟨La,zT Lf,rfl⟩
instance var_2:kD J1 2 iB 1:=⟨fun u h1 h2=>⟨_,_,Ha,zT Lf,by rw[h1];rfl,by rw[h2];rfl⟩⟩
instance elt_23:ElT J1 23 22 Qn 1 (L 1 I []):=⟨Hr,zT L9,⟨_,rfl,rfl⟩,rfl,Nat.le_of_ble_eq_true rfl,rfl,rfl,Nat.le_of_ble_eq_true rfl⟩
theorem zCT:J1.info? 22=iz Qn:=zT L9
instance infI_22:zC6 J1 22 Qn:=⟨zCT⟩
instance mkz_23:MkZ J1 23 (L 1 I) ([]:iF) (L 1 I []):=⟨rfl⟩
instance elt_24:ElT J1 24 23 Jai 1 (L 1 (L 1 I) []):=⟨U2,zT Lq,⟨_,rfl,rfl⟩,rfl,Nat.le_of_ble_eq_true rfl,rfl,rfl,Nat.le_of_ble_eq_true rfl⟩
theorem zVg:J1.info? 23=iz Jai:=zT Lq
instance infI_23:zC6 J1 23 Jai:=⟨zVg⟩
instance mkz_24:MkZ J1 24 (L 1 (L 1 I)) ([]:iG) (L 1 (L 1 I) []):=⟨rfl⟩
instance fld_28_0:qK J1 28 0 0:=⟨_,_,_,Hq,rfl,zT L9,by decide,rfl⟩
instance fld_28_1:qK J1 28 1 1:=⟨_,_,_,Hq,rfl,zT Lq,by decide,rfl⟩
instance fld_28_2:qK J1 28 2 2:=⟨_,_,_,Hq,rfl,zT Hm,by decide,rfl⟩
theorem zZd:J1.info? 24=iz Jd3:=zT Hm
instance infI_24:zC6 J1 24 Jd3:=⟨zZd⟩
theorem zEk:J1.info? 28=iz Jd2:=zT U5
instance infI_28:zC6 J1 28 Jd2:=⟨zEk⟩
instance var_28:kD J1 28 iC 3:=⟨fun u h1 h2=>⟨_,_,Hq,zT U5,by rw[h1];rfl,by rw[h2];rfl⟩⟩
instance zer_28:zHg J1 28 (T.agg [L 1 I [],L 1 (L 1 I) [],L 1 (L 1 (L 1 I)) []]):=⟨_,_,zT U5,rfl,rfl,rfl,rfl⟩
instance bld_143:zHn J1 143 [I 0,I 0,I 0,I 0]:=⟨_,_,fun ps=>uQ (zT Q8) Hk rfl (places:=[(0,1),(1,1),(2,1),(3,1)]) (by simp[zT Lf];decide) ps,rfl,rfl,(by intro i u hu;match i,hu with|0,hu=>cases hu;rfl|1,hu=>cases hu;rfl|2,hu=>cases hu;rfl|3,hu=>cases hu;rfl|_+4,hu=>simp at hu)⟩
theorem zW8:J1.info? 143=iz Jcu:=zT Q8
instance infI_143:zC6 J1 143 Jcu:=⟨zW8⟩
instance var_143:kD J1 143 iC 4:=⟨fun u h1 h2=>⟨_,_,Hk,zT Q8,by rw[h1];rfl,by rw[h2];rfl⟩⟩
instance zer_143:zHg J1 143 (T.agg [I 0,I 0,I 0,I 0]):=⟨_,_,zT Q8,rfl,rfl,rfl,rfl⟩
instance fld_143_0:qK J1 143 0 0:=⟨_,_,_,Hk,rfl,zT Lf,by decide,rfl⟩
theorem zO2{u:T}(h1:u.single=iB)(h2:u.size=1):∃(ds:TypeDesc)(ti:TypeInfo)(fs:Array Field)(f:Field),J1.underlying 143=iz (.struct fs)∧fs[0]? =iz f∧J1.underlying f.type=iz ds∧J1.info? f.type=iz ti∧zFc ds= !u.single∧ti.size=u.size:=⟨_,_,_,_,Hk,rfl,Ha,zT Lf,by rw[h1];rfl,by rw[h2];rfl⟩
instance fldw_143_0:zXP J1 143 0 iB 1:=⟨fun _ h1 h2=>zO2 h1 h2⟩
instance bld_41:zHn J1 41 [I 0,I 0,L 1 (L 1 (L 1 I)) []]:=⟨_,_,fun ps=>uQ (zT U4) Hp rfl (places:=[(0,1),(1,1),(2,1)]) (by simp[zT Lf,zT Hm];decide) ps,rfl,rfl,(by intro i u hu;match i,hu with|0,hu=>cases hu;rfl|1,hu=>cases hu;rfl|2,hu=>cases hu;rfl|_+3,hu=>simp at hu)⟩
instance fld_41_2:qK J1 41 2 2:=⟨_,_,_,Hp,rfl,zT Hm,by decide,rfl⟩
theorem zVh:J1.info? 41=iz Jd1:=zT U4
instance infI_41:zC6 J1 41 Jd1:=⟨zVh⟩
instance var_41:kD J1 41 iC 3:=⟨fun u h1 h2=>⟨_,_,Hp,zT U4,by rw[h1];rfl,by rw[h2];rfl⟩⟩
instance zer_41:zHg J1 41 (T.agg [I 0,I 0,L 1 (L 1 (L 1 I)) []]):=⟨_,_,zT U4,rfl,rfl,rfl,rfl⟩
instance fld_41_0:qK J1 41 0 0:=⟨_,_,_,Hp,rfl,zT Lf,by decide,rfl⟩
instance fld_41_1:qK J1 41 1 1:=⟨_,_,_,Hp,rfl,zT Lf,by decide,rfl⟩
instance bld_177:zHn J1 177 [L 1 I [],L 1 I []]:=⟨_,_,fun ps=>uQ (zT Q7) Gp rfl (places:=[(0,1),(1,1)]) (by simp[zT L9];decide) ps,rfl,rfl,(by intro i u hu;match i,hu with|0,hu=>cases hu;rfl|1,hu=>cases hu;rfl|_+2,hu=>simp at hu)⟩
instance fld_131_0:qK J1 131 0 0:=⟨_,_,_,Hl,rfl,zT U5,by decide,rfl⟩
instance fld_131_2:qK J1 131 2 6:=⟨_,_,_,Hl,rfl,zT Lq,by decide,rfl⟩
theorem uM:J1.info? 177=iz Jct:=zT Q7
instance infI_177:zC6 J1 177 Jct:=⟨uM⟩
instance var_177:kD J1 177 iC 2:=⟨fun u h1 h2=>⟨_,_,Gp,zT Q7,by rw[h1];rfl,by rw[h2];rfl⟩⟩
instance zer_177:zHg J1 177 (T.agg [L 1 I [],L 1 I []]):=⟨_,_,zT Q7,rfl,rfl,rfl,rfl⟩
instance fld_131_1:qK J1 131 1 3:=⟨_,_,_,Hl,rfl,zT U4,by decide,rfl⟩
instance fld_177_0:qK J1 177 0 0:=⟨_,_,_,Gp,rfl,zT L9,by decide,rfl⟩
instance fld_177_1:qK J1 177 1 1:=⟨_,_,_,Gp,rfl,zT L9,by decide,rfl⟩
instance var_131:kD J1 131 iC 7:=⟨fun u h1 h2=>⟨_,_,Hl,zT Q9,by rw[h1];rfl,by rw[h2];rfl⟩⟩
instance bld_131:zHn J1 131 [T.agg [L 1 I [],L 1 (L 1 I) [],L 1 (L 1 (L 1 I)) []],T.agg [I 0,I 0,L 1 (L 1 (L 1 I)) []],L 1 (L 1 I) []]:=⟨_,_,fun ps=>uQ (zT Q9) Hl rfl (places:=[(0,3),(3,3),(6,1)]) (by simp[zT Lq,zT U5,zT U4];decide) ps,rfl,rfl,(by intro i u hu;match i,hu with|0,hu=>cases hu;rfl|1,hu=>cases hu;rfl|2,hu=>cases hu;rfl|_+3,hu=>simp at hu)⟩
theorem zPW:J1.info? 131=iz Jcv:=zT Q9
instance infI_131:zC6 J1 131 Jcv:=⟨zPW⟩
instance zer_131:zHg J1 131 (T.agg [T.agg [L 1 I [],L 1 (L 1 I) [],L 1 (L 1 (L 1 I)) []],T.agg [I 0,I 0,L 1 (L 1 (L 1 I)) []],L 1 (L 1 I) []]):=⟨_,_,zT Q9,rfl,rfl,rfl,rfl⟩
instance bld_28:zHn J1 28 [L 1 I [],L 1 (L 1 I) [],L 1 (L 1 (L 1 I)) []]:=⟨_,_,fun ps=>uQ (zT U5) Hq rfl (places:=[(0,1),(1,1),(2,1)]) (by simp[zT L9,zT Lq,zT Hm];decide) ps,rfl,rfl,(by intro i u hu;match i,hu with|0,hu=>cases hu;rfl|1,hu=>cases hu;rfl|2,hu=>cases hu;rfl|_+3,hu=>simp at hu)⟩
instance eqs_143:zV2 J1 143:=⟨⟨_,_,_,_,Hk,⟨by decide,rfl,Ha⟩,⟨by decide,rfl,Ha⟩,⟨by decide,rfl,Ha⟩,⟨by decide,rfl,Ha⟩⟩,Tryz.stoodInHeld143,Tryz.eqGuardType143⟩
instance bld_48:zHn J1 48 [I 0,I 0,L 1 (L 1 I) []]:=⟨_,_,fun ps=>uQ (zT U3) H9 rfl (places:=[(0,1),(1,1),(2,1)]) (by simp[zT Lf,zT Lq];decide) ps,rfl,rfl,(by intro i u hu;match i,hu with|0,hu=>cases hu;rfl|1,hu=>cases hu;rfl|2,hu=>cases hu;rfl|_+3,hu=>simp at hu)⟩
instance fld_48_2:qK J1 48 2 2:=⟨_,_,_,H9,rfl,zT Lq,by decide,rfl⟩
theorem zCU:J1.info? 48=iz Jah:=zT U3
instance infI_48:zC6 J1 48 Jah:=⟨zCU⟩
instance var_48:kD J1 48 iC 3:=⟨fun u h1 h2=>⟨_,_,H9,zT U3,by rw[h1];rfl,by rw[h2];rfl⟩⟩
instance zer_48:zHg J1 48 (T.agg [I 0,I 0,L 1 (L 1 I) []]):=⟨_,_,zT U3,rfl,rfl,rfl,rfl⟩
theorem zR2{u:T}(h1:u.single=iB)(h2:u.size=1):∃(ds:TypeDesc)(ti:TypeInfo)(fs:Array Field)(f:Field),J1.underlying 48=iz (.struct fs)∧fs[2]? =iz f∧J1.underlying f.type=iz ds∧J1.info? f.type=iz ti∧zFc ds= !u.single∧ti.size=u.size:=⟨_,_,_,_,H9,rfl,Hr,zT Lq,by rw[h1];rfl,by rw[h2];rfl⟩
instance fldw_48_2:zXP J1 48 2 iB 1:=⟨fun _ h1 h2=>zR2 h1 h2⟩
instance bld_116:zHn J1 116 [L 1 I [],L 1 I [],L 1 I []]:=⟨_,_,fun ps=>uQ (zT Gj) Uz rfl (places:=[(0,1),(1,1),(2,1)]) (by simp[zT L9];decide) ps,rfl,rfl,(by intro i u hu;match i,hu with|0,hu=>cases hu;rfl|1,hu=>cases hu;rfl|2,hu=>cases hu;rfl|_+3,hu=>simp at hu)⟩
instance elt_113:ElT J1 113 116 Qw 3 (T.agg [L 1 I [],L 1 I [],L 1 I []]):=⟨Gu,zT Gj,⟨_,rfl,rfl⟩,rfl,Nat.le_of_ble_eq_true rfl,rfl,rfl,Nat.le_of_ble_eq_true rfl⟩
theorem zPX:J1.info? 113=iz Jcx:=zT Ja3
instance infI_113:zC6 J1 113 Jcx:=⟨zPX⟩
instance rp_116{a0:iF}{a1:iF}{a2:iF}:Rp (.agg [(L 1 I) a0,(L 1 I) a1,(L 1 I) a2]) zG (zL.mk a0 a1 a2):=⟨rfl⟩
instance var_64:kD J1 64 iB 1:=⟨fun u h1 h2=>⟨_,_,Tryz.underlying64,zT Jag,by rw[h1];rfl,by rw[h2];rfl⟩⟩
instance var_113:kD J1 113 iB 1:=⟨fun u h1 h2=>⟨_,_,Gu,zT Ja3,by rw[h1];rfl,by rw[h2];rfl⟩⟩
instance row_113:zBG J1 113 116 Qw 3:=⟨Gu,zT Gj,rfl⟩
instance zer_113:zHg J1 113 (L 3 zG []):=⟨_,_,zT Ja3,rfl,rfl,rfl,rfl⟩
instance fld_120_0:qK J1 120 0 0:=⟨_,_,_,Gs,rfl,zT Jag,by decide,rfl⟩
instance fld_48_0:qK J1 48 0 0:=⟨_,_,_,H9,rfl,zT Lf,by decide,rfl⟩
instance fld_48_1:qK J1 48 1 1:=⟨_,_,_,H9,rfl,zT Lf,by decide,rfl⟩
instance fld_120_1:qK J1 120 1 1:=⟨_,_,_,Gs,rfl,zT Jaf,by decide,rfl⟩
instance fld_120_2:qK J1 120 2 2:=⟨_,_,_,Gs,rfl,zT Qa,by decide,rfl⟩
instance row_118:zBG J1 118 48 Jah 3:=⟨Gt,zT U3,rfl⟩
instance var_74:kD J1 74 iB 1:=⟨fun u h1 h2=>⟨_,_,Tryz.underlying74,zT Jaf,by rw[h1];rfl,by rw[h2];rfl⟩⟩
instance var_118:kD J1 118 iB 1:=⟨fun u h1 h2=>⟨_,_,Gt,zT Qa,by rw[h1];rfl,by rw[h2];rfl⟩⟩
instance bld_120:zHn J1 120 [T.lit (.pointer iA),T.lit (.pointer iA),L 3 zO []]:=⟨_,_,fun ps=>uQ (zT Tryz.type120) Gs rfl (places:=[(0,1),(1,1),(2,1)]) (by simp[zT Qa,zT Jag,zT Jaf];decide) ps,rfl,rfl,(by intro i u hu;match i,hu with|0,hu=>cases hu;rfl|1,hu=>cases hu;rfl|2,hu=>cases hu;rfl|_+3,hu=>simp at hu)⟩
instance elt_118:ElT J1 118 48 Jah 3 (T.agg [I 0,I 0,L 1 (L 1 I) []]):=⟨Gt,zT U3,⟨_,rfl,rfl⟩,rfl,Nat.le_of_ble_eq_true rfl,rfl,rfl,Nat.le_of_ble_eq_true rfl⟩
instance fld_116_0:qK J1 116 0 0:=⟨_,_,_,Uz,rfl,zT L9,by decide,rfl⟩
theorem zPY:J1.info? 116=iz Qw:=zT Gj
instance infI_116:zC6 J1 116 Qw:=⟨zPY⟩
theorem zPZ:J1.info? 118=iz Jcw:=zT Qa
instance infI_118:zC6 J1 118 Jcw:=⟨zPZ⟩
instance rp_48{a0:Int}{a1:Int}{a2:iG}:Rp (.agg [I a0,I a1,(L 1 (L 1 I)) a2]) zO (zU.mk a0 a1 a2):=⟨rfl⟩
instance sli_113:zHp J1 113 116:=⟨Gu⟩
instance sli_118:zHp J1 118 48:=⟨Gt⟩
instance var_116:kD J1 116 iC 3:=⟨fun u h1 h2=>⟨_,_,Uz,zT Gj,by rw[h1];rfl,by rw[h2];rfl⟩⟩
instance zer_116:zHg J1 116 (T.agg [L 1 I [],L 1 I [],L 1 I []]):=⟨_,_,zT Gj,rfl,rfl,rfl,rfl⟩
instance bld_137:zHn J1 137 [L 1 I [],L 1 I []]:=⟨_,_,fun ps=>zKU (zT Gi) Ux rfl (zT L9) ps,rfl,rfl,(by intro i u hu;match i,hu with|0,hu=>cases hu;rfl|1,hu=>cases hu;rfl|_+2,hu=>simp at hu)⟩
instance elt_135:ElT J1 135 137 Qv 2 (T.agg [L 1 I ((([]:iF),([]:iF)).1),L 1 I ((([]:iF),([]:iF)).2)]):=⟨Uy,zT Gi,⟨_,rfl,rfl⟩,rfl,Nat.le_of_ble_eq_true rfl,rfl,rfl,Nat.le_of_ble_eq_true rfl⟩
instance row_135:zBG J1 135 137 Qv 2:=⟨Uy,zT Gi,rfl⟩
instance arr_137:zV3 J1 137 22 Qn 2 1:=⟨Ux,zT L9,rfl⟩
theorem zW9:J1.info? 137=iz Qv:=zT Gi
instance infI_137:zC6 J1 137 Qv:=⟨zW9⟩
instance sli_135:zHp J1 135 137:=⟨Uy⟩
instance var_137:kD J1 137 iC 2:=⟨fun u h1 h2=>⟨_,_,Ux,zT Gi,by rw[h1];rfl,by rw[h2];rfl⟩⟩
instance zer_137:zHg J1 137 (T.agg [L 1 I ((([]:iF),([]:iF)).1),L 1 I ((([]:iF),([]:iF)).2)]):=⟨_,_,zT Gi,rfl,rfl,rfl,rfl⟩
instance elt_104:ElT J1 104 3 Jdb 1 (I 0):=⟨Q0,zT Jaz,⟨_,rfl,rfl⟩,rfl,Nat.le_of_ble_eq_true rfl,rfl,rfl,Nat.le_of_ble_eq_true rfl⟩
instance row_104:zBG J1 104 3 Jdb 1:=⟨Q0,zT Jaz,rfl⟩
instance sli_104:zHp J1 104 3:=⟨Q0⟩
instance var_3:kD J1 3 iB 1:=⟨fun u h1 h2=>⟨_,_,Uh,zT Jaz,by rw[h1];rfl,by rw[h2];rfl⟩⟩
instance var_26:kD J1 26 iC 3:=⟨fun u h1 h2=>⟨_,_,U1,zT Tryz.type26,by rw[h1];rfl,by rw[h2];rfl⟩⟩
instance fld_36_2:qK J1 36 2 2:=⟨_,_,_,U0,rfl,zT Hm,by decide,rfl⟩
instance fld_36_0:qK J1 36 0 0:=⟨_,_,_,U0,rfl,zT Lf,by decide,rfl⟩
instance fld_36_1:qK J1 36 1 1:=⟨_,_,_,U0,rfl,zT Lf,by decide,rfl⟩
instance var_36:kD J1 36 iC 3:=⟨fun u h1 h2=>⟨_,_,U0,zT Tryz.type36,by rw[h1];rfl,by rw[h2];rfl⟩⟩
end Go.Wk
