/- The program's KeepsRank returns what the reference's returns,for all arguments;no conditions. -/
import Derived.Test.YtmoaeebpmcafpaaGreatAbC
import Derived.Test.YtmoaeebpmcafpaaGreatWF
import Derived.Test.YtmoaeebpmcafpaaGreatProg
open Go.Proofs.Tryz renaming prog→J0,type22→L6,underlying22→L7,type2→La,type23→Ln,underlying48→H6,underlying2→H8,underlying143→Hf,underlying131→Hg,type24→Hj,underlying41→Hl,underlying28→Hm,underlying23→Hn,type137→G3,type116→G4,underlying177→G7,underlying120→G8,underlying118→G9,underlying113→Ga,underlying36→Gj,underlying26→Gk,underlying24→Gl,type48→Gm,type41→Gp,type28→Gs,underlying3→U5,underlying137→Un,underlying135→Uo,underlying116→Up,underlying104→Uq,type177→Uv,type143→Uw,type131→Ux,type118→Uy,t22→Qg,t137→Qo,t116→Qp,type113→Qv,type74→Ja7,type64→Ja8,t48→Ja9,t23→Jaa,type3→Jap,t2→Jat,t177→Jcf,t143→Jcg,t131→Jch,t118→Jci,t113→Jcj,t41→Jcn,t28→Jco,t24→Jcp,t3→Jcy
open Option renaming some→iG,none→iH
open Bool renaming true→iI,false→iJ
namespace Go.Wk
open Go Go.Proofs Go.Ab
abbrev lV:=L 1 I
abbrev lM:=L 1 lV
abbrev lC:=L 1 lM
abbrev tD(x:zL):T:=T.agg [T.ro (lV x.Word),T.ro (lV x.Left),T.ro (lV x.zYr)]
abbrev zFz(x:zQ):T:=T.agg [I x.Prime,I x.xJ,T.ro (lM x.Rows)]
abbrev xP(x:zB):T:=T.agg [I x.Prime,I x.Dim,T.ro (lC x.zF)]
abbrev qPr(x:SPr):T:=T.agg [T.ro (lV x.zA),T.ro (lM x.zS),T.ro (lC x.zG)]
abbrev yP(x:zJ):T:=T.agg [T.ro (lV x.x),T.ro (lV x.v)]
abbrev yT(x:yA):T:=T.agg [T.agg [T.ro (lV x.p.zA),T.ro (lM x.p.zS),T.ro (lC x.p.zG)],T.agg [I x.m.Prime,I x.m.Dim,T.ro (lC x.m.zF)],T.ro (lM x.zND)]
abbrev zIM(x:xR):T:=T.agg [T.ro ((Pt yL) x.p),T.ro ((Pt zV) x.m),T.ro ((L 3 zP) x.sums)]
theorem xV:J0.follows .mixedOrders=iI:=rfl
instance:Mix J0:=⟨xV⟩
instance sli_22:zHF J0 22 2:=⟨L7⟩
instance row_23:zBM J0 23 22 Qg 1:=⟨Hn,zR L6,rfl⟩
instance sli_23:zHF J0 23 22:=⟨Hn⟩
instance var_22:kZ J0 22 iI 1:=⟨fun u h1 h2=>⟨_,_,L7,zR L6,by rw[h1];rfl,by rw[h2];rfl⟩⟩
instance row_24:zBM J0 24 23 Jaa 1:=⟨Gl,zR Ln,rfl⟩
instance sli_24:zHF J0 24 23:=⟨Gl⟩
instance var_23:kZ J0 23 iI 1:=⟨fun u h1 h2=>⟨_,_,Hn,zR Ln,by rw[h1];rfl,by rw[h2];rfl⟩⟩
instance fld_26_0:qP J0 26 0 0:=⟨_,_,_,Gk,rfl,zR L6,by decide,rfl⟩
instance fld_26_1:qP J0 26 1 1:=⟨_,_,_,Gk,rfl,zR Ln,by decide,rfl⟩
instance fld_26_2:qP J0 26 2 2:=⟨_,_,_,Gk,rfl,zR Hj,by decide,rfl⟩
instance var_24:kZ J0 24 iI 1:=⟨fun u h1 h2=>⟨_,_,Gl,zR Hj,by rw[h1];rfl,by rw[h2];rfl⟩⟩
instance elt_22:ElT J0 22 2 Jat 1 (I 0):=⟨L7,zR La,⟨_,rfl,rfl⟩,rfl,Nat.le_of_ble_eq_true rfl,rfl,rfl,Nat.le_of_ble_eq_true rfl⟩
theorem zF0:J0.info? 2=iG Jat:=zR La
instance infI_2:zCF J0 2 Jat:=⟨zF0⟩
instance mkz_22:MkZ J0 22 I 0 (I 0):=⟨rfl⟩
instance row_22:zBM J0 22 2 Jat 1:=⟨L7,zR La,rfl⟩
instance var_2:kZ J0 2 iI 1:=⟨fun u h1 h2=>⟨_,_,H8,zR La,by rw[h1];rfl,by rw[h2];rfl⟩⟩
instance elt_23:ElT J0 23 22 Qg 1 (L 1 I []):=⟨Hn,zR L6,⟨_,rfl,rfl⟩,rfl,Nat.le_of_ble_eq_true rfl,rfl,rfl,Nat.le_of_ble_eq_true rfl⟩
theorem zDd:J0.info? 22=iG Qg:=zR L6
instance infI_22:zCF J0 22 Qg:=⟨zDd⟩
instance mkz_23:MkZ J0 23 (L 1 I) ([]:iN) (L 1 I []):=⟨rfl⟩
instance elt_24:ElT J0 24 23 Jaa 1 (L 1 (L 1 I) []):=⟨Gl,zR Ln,⟨_,rfl,rfl⟩,rfl,Nat.le_of_ble_eq_true rfl,rfl,rfl,Nat.le_of_ble_eq_true rfl⟩
theorem zVJ:J0.info? 23=iG Jaa:=zR Ln
instance infI_23:zCF J0 23 Jaa:=⟨zVJ⟩
instance mkz_24:MkZ J0 24 (L 1 (L 1 I)) ([]:iO) (L 1 (L 1 I) []):=⟨rfl⟩
instance fld_28_0:qP J0 28 0 0:=⟨_,_,_,Hm,rfl,zR L6,by decide,rfl⟩
instance fld_28_1:qP J0 28 1 1:=⟨_,_,_,Hm,rfl,zR Ln,by decide,rfl⟩
instance fld_28_2:qP J0 28 2 2:=⟨_,_,_,Hm,rfl,zR Hj,by decide,rfl⟩
theorem zZY:J0.info? 24=iG Jcp:=zR Hj
instance infI_24:zCF J0 24 Jcp:=⟨zZY⟩
theorem zZZ:J0.info? 28=iG Jco:=zR Gs
instance infI_28:zCF J0 28 Jco:=⟨zZZ⟩
instance var_28:kZ J0 28 iJ 3:=⟨fun u h1 h2=>⟨_,_,Hm,zR Gs,by rw[h1];rfl,by rw[h2];rfl⟩⟩
instance zer_28:zH6 J0 28 (T.agg [L 1 I [],L 1 (L 1 I) [],L 1 (L 1 (L 1 I)) []]):=⟨_,_,zR Gs,rfl,rfl,rfl,rfl⟩
instance bld_143:zHD J0 143 [I 0,I 0,I 0,I 0]:=⟨_,_,fun ps=>uS (zR Uw) Hf rfl (places:=[(0,1),(1,1),(2,1),(3,1)]) (by simp[zR La];decide) ps,rfl,rfl,(by intro i u hu;match i,hu with|0,hu=>cases hu;rfl|1,hu=>cases hu;rfl|2,hu=>cases hu;rfl|3,hu=>cases hu;rfl|_+4,hu=>simp at hu)⟩
theorem zXz:J0.info? 143=iG Jcg:=zR Uw
instance infI_143:zCF J0 143 Jcg:=⟨zXz⟩
instance var_143:kZ J0 143 iJ 4:=⟨fun u h1 h2=>⟨_,_,Hf,zR Uw,by rw[h1];rfl,by rw[h2];rfl⟩⟩
instance zer_143:zH6 J0 143 (T.agg [I 0,I 0,I 0,I 0]):=⟨_,_,zR Uw,rfl,rfl,rfl,rfl⟩
instance fld_143_0:qP J0 143 0 0:=⟨_,_,_,Hf,rfl,zR La,by decide,rfl⟩
theorem zPd{u:T}(h1:u.single=iI)(h2:u.size=1):∃(ds:TypeDesc)(ti:TypeInfo)(fs:Array Field)(f:Field),J0.underlying 143=iG (.struct fs)∧fs[0]? =iG f∧J0.underlying f.type=iG ds∧J0.info? f.type=iG ti∧zF2 ds= !u.single∧ti.size=u.size:=⟨_,_,_,_,Hf,rfl,H8,zR La,by rw[h1];rfl,by rw[h2];rfl⟩
instance fldw_143_0:zYK J0 143 0 iI 1:=⟨fun _ h1 h2=>zPd h1 h2⟩
instance bld_41:zHD J0 41 [I 0,I 0,L 1 (L 1 (L 1 I)) []]:=⟨_,_,fun ps=>uS (zR Gp) Hl rfl (places:=[(0,1),(1,1),(2,1)]) (by simp[zR La,zR Hj];decide) ps,rfl,rfl,(by intro i u hu;match i,hu with|0,hu=>cases hu;rfl|1,hu=>cases hu;rfl|2,hu=>cases hu;rfl|_+3,hu=>simp at hu)⟩
instance fld_41_2:qP J0 41 2 2:=⟨_,_,_,Hl,rfl,zR Hj,by decide,rfl⟩
theorem yAa:J0.info? 41=iG Jcn:=zR Gp
instance infI_41:zCF J0 41 Jcn:=⟨yAa⟩
instance var_41:kZ J0 41 iJ 3:=⟨fun u h1 h2=>⟨_,_,Hl,zR Gp,by rw[h1];rfl,by rw[h2];rfl⟩⟩
instance zer_41:zH6 J0 41 (T.agg [I 0,I 0,L 1 (L 1 (L 1 I)) []]):=⟨_,_,zR Gp,rfl,rfl,rfl,rfl⟩
instance fld_41_0:qP J0 41 0 0:=⟨_,_,_,Hl,rfl,zR La,by decide,rfl⟩
instance fld_41_1:qP J0 41 1 1:=⟨_,_,_,Hl,rfl,zR La,by decide,rfl⟩
instance bld_177:zHD J0 177 [L 1 I [],L 1 I []]:=⟨_,_,fun ps=>uS (zR Uv) G7 rfl (places:=[(0,1),(1,1)]) (by simp[zR L6];decide) ps,rfl,rfl,(by intro i u hu;match i,hu with|0,hu=>cases hu;rfl|1,hu=>cases hu;rfl|_+2,hu=>simp at hu)⟩
instance fld_131_0:qP J0 131 0 0:=⟨_,_,_,Hg,rfl,zR Gs,by decide,rfl⟩
instance fld_131_2:qP J0 131 2 6:=⟨_,_,_,Hg,rfl,zR Ln,by decide,rfl⟩
theorem uL:J0.info? 177=iG Jcf:=zR Uv
instance infI_177:zCF J0 177 Jcf:=⟨uL⟩
instance var_177:kZ J0 177 iJ 2:=⟨fun u h1 h2=>⟨_,_,G7,zR Uv,by rw[h1];rfl,by rw[h2];rfl⟩⟩
instance zer_177:zH6 J0 177 (T.agg [L 1 I [],L 1 I []]):=⟨_,_,zR Uv,rfl,rfl,rfl,rfl⟩
instance fld_131_1:qP J0 131 1 3:=⟨_,_,_,Hg,rfl,zR Gp,by decide,rfl⟩
instance fld_177_0:qP J0 177 0 0:=⟨_,_,_,G7,rfl,zR L6,by decide,rfl⟩
instance fld_177_1:qP J0 177 1 1:=⟨_,_,_,G7,rfl,zR L6,by decide,rfl⟩
instance var_131:kZ J0 131 iJ 7:=⟨fun u h1 h2=>⟨_,_,Hg,zR Ux,by rw[h1];rfl,by rw[h2];rfl⟩⟩
instance bld_131:zHD J0 131 [T.agg [L 1 I [],L 1 (L 1 I) [],L 1 (L 1 (L 1 I)) []],T.agg [I 0,I 0,L 1 (L 1 (L 1 I)) []],L 1 (L 1 I) []]:=⟨_,_,fun ps=>uS (zR Ux) Hg rfl (places:=[(0,3),(3,3),(6,1)]) (by simp[zR Ln,zR Gs,zR Gp];decide) ps,rfl,rfl,(by intro i u hu;match i,hu with|0,hu=>cases hu;rfl|1,hu=>cases hu;rfl|2,hu=>cases hu;rfl|_+3,hu=>simp at hu)⟩
theorem zQ5:J0.info? 131=iG Jch:=zR Ux
instance infI_131:zCF J0 131 Jch:=⟨zQ5⟩
instance zer_131:zH6 J0 131 (T.agg [T.agg [L 1 I [],L 1 (L 1 I) [],L 1 (L 1 (L 1 I)) []],T.agg [I 0,I 0,L 1 (L 1 (L 1 I)) []],L 1 (L 1 I) []]):=⟨_,_,zR Ux,rfl,rfl,rfl,rfl⟩
instance bld_28:zHD J0 28 [L 1 I [],L 1 (L 1 I) [],L 1 (L 1 (L 1 I)) []]:=⟨_,_,fun ps=>uS (zR Gs) Hm rfl (places:=[(0,1),(1,1),(2,1)]) (by simp[zR L6,zR Ln,zR Hj];decide) ps,rfl,rfl,(by intro i u hu;match i,hu with|0,hu=>cases hu;rfl|1,hu=>cases hu;rfl|2,hu=>cases hu;rfl|_+3,hu=>simp at hu)⟩
instance eqs_143:zWf J0 143:=⟨⟨_,_,_,_,Hf,⟨by decide,rfl,H8⟩,⟨by decide,rfl,H8⟩,⟨by decide,rfl,H8⟩,⟨by decide,rfl,H8⟩⟩,Tryz.stoodInHeld143,Tryz.eqGuardType143⟩
instance bld_48:zHD J0 48 [I 0,I 0,L 1 (L 1 I) []]:=⟨_,_,fun ps=>uS (zR Gm) H6 rfl (places:=[(0,1),(1,1),(2,1)]) (by simp[zR La,zR Ln];decide) ps,rfl,rfl,(by intro i u hu;match i,hu with|0,hu=>cases hu;rfl|1,hu=>cases hu;rfl|2,hu=>cases hu;rfl|_+3,hu=>simp at hu)⟩
instance fld_48_2:qP J0 48 2 2:=⟨_,_,_,H6,rfl,zR Ln,by decide,rfl⟩
theorem zDe:J0.info? 48=iG Ja9:=zR Gm
instance infI_48:zCF J0 48 Ja9:=⟨zDe⟩
instance var_48:kZ J0 48 iJ 3:=⟨fun u h1 h2=>⟨_,_,H6,zR Gm,by rw[h1];rfl,by rw[h2];rfl⟩⟩
instance zer_48:zH6 J0 48 (T.agg [I 0,I 0,L 1 (L 1 I) []]):=⟨_,_,zR Gm,rfl,rfl,rfl,rfl⟩
theorem zGo{u:T}(h1:u.single=iI)(h2:u.size=1):∃(ds:TypeDesc)(ti:TypeInfo)(fs:Array Field)(f:Field),J0.underlying 48=iG (.struct fs)∧fs[2]? =iG f∧J0.underlying f.type=iG ds∧J0.info? f.type=iG ti∧zF2 ds= !u.single∧ti.size=u.size:=⟨_,_,_,_,H6,rfl,Hn,zR Ln,by rw[h1];rfl,by rw[h2];rfl⟩
instance fldw_48_2:zYK J0 48 2 iI 1:=⟨fun _ h1 h2=>zGo h1 h2⟩
instance bld_116:zHD J0 116 [L 1 I [],L 1 I [],L 1 I []]:=⟨_,_,fun ps=>uS (zR G4) Up rfl (places:=[(0,1),(1,1),(2,1)]) (by simp[zR L6];decide) ps,rfl,rfl,(by intro i u hu;match i,hu with|0,hu=>cases hu;rfl|1,hu=>cases hu;rfl|2,hu=>cases hu;rfl|_+3,hu=>simp at hu)⟩
instance elt_113:ElT J0 113 116 Qp 3 (T.agg [L 1 I [],L 1 I [],L 1 I []]):=⟨Ga,zR G4,⟨_,rfl,rfl⟩,rfl,Nat.le_of_ble_eq_true rfl,rfl,rfl,Nat.le_of_ble_eq_true rfl⟩
theorem zQ6:J0.info? 113=iG Jcj:=zR Qv
instance infI_113:zCF J0 113 Jcj:=⟨zQ6⟩
instance rp_116{a0:iN}{a1:iN}{a2:iN}:Rp (.agg [(L 1 I) a0,(L 1 I) a1,(L 1 I) a2]) zH (zL.mk a0 a1 a2):=⟨rfl⟩
instance var_64:kZ J0 64 iI 1:=⟨fun u h1 h2=>⟨_,_,Tryz.underlying64,zR Ja8,by rw[h1];rfl,by rw[h2];rfl⟩⟩
instance var_113:kZ J0 113 iI 1:=⟨fun u h1 h2=>⟨_,_,Ga,zR Qv,by rw[h1];rfl,by rw[h2];rfl⟩⟩
instance row_113:zBM J0 113 116 Qp 3:=⟨Ga,zR G4,rfl⟩
instance zer_113:zH6 J0 113 (L 3 zH []):=⟨_,_,zR Qv,rfl,rfl,rfl,rfl⟩
instance fld_120_0:qP J0 120 0 0:=⟨_,_,_,G8,rfl,zR Ja8,by decide,rfl⟩
instance fld_48_0:qP J0 48 0 0:=⟨_,_,_,H6,rfl,zR La,by decide,rfl⟩
instance fld_48_1:qP J0 48 1 1:=⟨_,_,_,H6,rfl,zR La,by decide,rfl⟩
instance fld_120_1:qP J0 120 1 1:=⟨_,_,_,G8,rfl,zR Ja7,by decide,rfl⟩
instance fld_120_2:qP J0 120 2 2:=⟨_,_,_,G8,rfl,zR Uy,by decide,rfl⟩
instance row_118:zBM J0 118 48 Ja9 3:=⟨G9,zR Gm,rfl⟩
instance var_74:kZ J0 74 iI 1:=⟨fun u h1 h2=>⟨_,_,Tryz.underlying74,zR Ja7,by rw[h1];rfl,by rw[h2];rfl⟩⟩
instance var_118:kZ J0 118 iI 1:=⟨fun u h1 h2=>⟨_,_,G9,zR Uy,by rw[h1];rfl,by rw[h2];rfl⟩⟩
instance bld_120:zHD J0 120 [T.lit (.pointer iH),T.lit (.pointer iH),L 3 zP []]:=⟨_,_,fun ps=>uS (zR Tryz.type120) G8 rfl (places:=[(0,1),(1,1),(2,1)]) (by simp[zR Uy,zR Ja8,zR Ja7];decide) ps,rfl,rfl,(by intro i u hu;match i,hu with|0,hu=>cases hu;rfl|1,hu=>cases hu;rfl|2,hu=>cases hu;rfl|_+3,hu=>simp at hu)⟩
instance elt_118:ElT J0 118 48 Ja9 3 (T.agg [I 0,I 0,L 1 (L 1 I) []]):=⟨G9,zR Gm,⟨_,rfl,rfl⟩,rfl,Nat.le_of_ble_eq_true rfl,rfl,rfl,Nat.le_of_ble_eq_true rfl⟩
instance fld_116_0:qP J0 116 0 0:=⟨_,_,_,Up,rfl,zR L6,by decide,rfl⟩
theorem zQ7:J0.info? 116=iG Qp:=zR G4
instance infI_116:zCF J0 116 Qp:=⟨zQ7⟩
theorem zQ8:J0.info? 118=iG Jci:=zR Uy
instance infI_118:zCF J0 118 Jci:=⟨zQ8⟩
instance rp_48{a0:Int}{a1:Int}{a2:iO}:Rp (.agg [I a0,I a1,(L 1 (L 1 I)) a2]) zP (zQ.mk a0 a1 a2):=⟨rfl⟩
instance sli_113:zHF J0 113 116:=⟨Ga⟩
instance sli_118:zHF J0 118 48:=⟨G9⟩
instance var_116:kZ J0 116 iJ 3:=⟨fun u h1 h2=>⟨_,_,Up,zR G4,by rw[h1];rfl,by rw[h2];rfl⟩⟩
instance zer_116:zH6 J0 116 (T.agg [L 1 I [],L 1 I [],L 1 I []]):=⟨_,_,zR G4,rfl,rfl,rfl,rfl⟩
instance bld_137:zHD J0 137 [L 1 I [],L 1 I []]:=⟨_,_,fun ps=>zL4 (zR G3) Un rfl (zR L6) ps,rfl,rfl,(by intro i u hu;match i,hu with|0,hu=>cases hu;rfl|1,hu=>cases hu;rfl|_+2,hu=>simp at hu)⟩
instance elt_135:ElT J0 135 137 Qo 2 (T.agg [L 1 I ((([]:iN),([]:iN)).1),L 1 I ((([]:iN),([]:iN)).2)]):=⟨Uo,zR G3,⟨_,rfl,rfl⟩,rfl,Nat.le_of_ble_eq_true rfl,rfl,rfl,Nat.le_of_ble_eq_true rfl⟩
instance row_135:zBM J0 135 137 Qo 2:=⟨Uo,zR G3,rfl⟩
instance arr_137:zWg J0 137 22 Qg 2 1:=⟨Un,zR L6,rfl⟩
theorem zQ9:J0.info? 137=iG Qo:=zR G3
instance infI_137:zCF J0 137 Qo:=⟨zQ9⟩
instance sli_135:zHF J0 135 137:=⟨Uo⟩
instance var_137:kZ J0 137 iJ 2:=⟨fun u h1 h2=>⟨_,_,Un,zR G3,by rw[h1];rfl,by rw[h2];rfl⟩⟩
instance zer_137:zH6 J0 137 (T.agg [L 1 I ((([]:iN),([]:iN)).1),L 1 I ((([]:iN),([]:iN)).2)]):=⟨_,_,zR G3,rfl,rfl,rfl,rfl⟩
instance elt_104:ElT J0 104 3 Jcy 1 (I 0):=⟨Uq,zR Jap,⟨_,rfl,rfl⟩,rfl,Nat.le_of_ble_eq_true rfl,rfl,rfl,Nat.le_of_ble_eq_true rfl⟩
instance row_104:zBM J0 104 3 Jcy 1:=⟨Uq,zR Jap,rfl⟩
instance sli_104:zHF J0 104 3:=⟨Uq⟩
instance var_3:kZ J0 3 iI 1:=⟨fun u h1 h2=>⟨_,_,U5,zR Jap,by rw[h1];rfl,by rw[h2];rfl⟩⟩
instance var_26:kZ J0 26 iJ 3:=⟨fun u h1 h2=>⟨_,_,Gk,zR Tryz.type26,by rw[h1];rfl,by rw[h2];rfl⟩⟩
instance fld_36_2:qP J0 36 2 2:=⟨_,_,_,Gj,rfl,zR Hj,by decide,rfl⟩
instance fld_36_0:qP J0 36 0 0:=⟨_,_,_,Gj,rfl,zR La,by decide,rfl⟩
instance fld_36_1:qP J0 36 1 1:=⟨_,_,_,Gj,rfl,zR La,by decide,rfl⟩
instance boo_4:zXM J0 4:=⟨Tryz.underlying4⟩
instance var_36:kZ J0 36 iJ 3:=⟨fun u h1 h2=>⟨_,_,Gj,zR Tryz.type36,by rw[h1];rfl,by rw[h2];rfl⟩⟩
end Go.Wk
