/- x -/
import Derived.Test.YtcjmcjcfehbboaaGreatRAbC
import Derived.Test.YtcjmcjcfehbboaaGreatRWF
import Derived.Test.YtcjmcjcfehbboaaGreatProg
open Go.Proofs.Tryz renaming prog->J1,type24->Kn,type2->Ks,underlying38->Lb,underlying37->Ls,underlying117->H0,type38->H2,underlying58->H7,underlying24->Hd,type160->Hl,underlying164->Hn,underlying162->Ho,underlying157->Hp,underlying76->Hz,underlying56->G4,underlying26->G5,underlying22->G6,type56->G7,type37->G8,type62->Gw,underlying3->U0,underlying192->U5,underlying172->U6,underlying160->U7,type3->U8,underlying96->Ud,underlying41->Ue,underlying33->Uf,type162->Ug,type117->Uh,underlying2->Un,underlying186->Uo,type58->Ur,type26->Us,t160->Q8,type157->Qe,type120->Qf,t2->Qg,type33->Ql,type22->Qm,t38->Qn,t37->Qo,t24->Qp,type9->Qz,type5->Ja0,underlying5->Jab,t162->Jbd,t157->Jbe,t117->Jbf,t58->Jbk,t56->Jbl,t26->Jbm,t9->Jbs,t5->Jbt,t3->Jbu
open Option renaming some->Wu,none->Wv
open Bool renaming true->Ww,false->Wx
namespace Go.Wk
open Go Go.Proofs Go.Ab
abbrev lV:=L 1 I
abbrev lM:=L 1 lV
abbrev lC:=L 1 lM
abbrev uW(x:zH):T:=T.agg [T.ro (lV x.Word),T.ro (lV x.Left),T.ro (lV x.zZg)]
abbrev qG(x:yF):T:=T.agg [I x.Gens,T.ro (lM x.zW)]
abbrev zDx(x:zM):T:=T.agg [I x.Prime,I x.wP,T.ro (lM x.Rows)]
abbrev qPr(x:SPr):T:=T.agg [T.ro (lV x.zA),T.ro (lM x.zQ),T.ro (lC x.zG)]
abbrev zI7(x:xJ):T:=T.agg [T.ro ((Pt yM) x.p),T.ro ((Pt yE) x.m),T.ro ((L 3 zU) x.sums)]
theorem zAO:J1.follows .mixedOrders=Ww:=rfl
instance:Mix J1:=⟨zAO⟩
instance sli_22:zF5 J1 22 5:=⟨G6⟩
instance bld_76:zHy J1 76 [L 1 (IK .u8) [],I 0,I 0]:=⟨_,_,fun ps=>vX (zO Tryz.type76) Hz rfl (places:=[(0,1),(1,1),(2,1)]) (by simp[zO Ks,zO Qm,zO U8];decide) ps,rfl,rfl,(by intro i u hu;match i,hu with|0,hu=>cases hu;rfl|1,hu=>cases hu;rfl|2,hu=>cases hu;rfl|_+3,hu=>simp at hu)⟩
instance fld_76_2:qK J1 76 2 2:=⟨_,_,_,Hz,rfl,zO Ks,by decide,rfl⟩
theorem zZf:J1.info? 2=Wu Qg:=zO Ks
instance infI_2:zBU J1 2 Qg:=⟨zZf⟩
instance int_2:zN3 J1 2 .i64:=⟨Un⟩
instance row_22:zAR J1 22 5 Jbt 1:=⟨G6,zO Ja0,rfl⟩
instance var_2:qX J1 2 Ww 1:=⟨fun u h1 h2=>⟨_,_,Un,zO Ks,by rw[h1];rfl,by rw[h2];rfl⟩⟩
instance var_5:qX J1 5 Ww 1:=⟨fun u h1 h2=>⟨_,_,Jab,zO Ja0,by rw[h1];rfl,by rw[h2];rfl⟩⟩
instance fld_76_0:qK J1 76 0 0:=⟨_,_,_,Hz,rfl,zO Qm,by decide,rfl⟩
instance fld_76_1:qK J1 76 1 1:=⟨_,_,_,Hz,rfl,zO U8,by decide,rfl⟩
instance var_3:qX J1 3 Ww 1:=⟨fun u h1 h2=>⟨_,_,U0,zO U8,by rw[h1];rfl,by rw[h2];rfl⟩⟩
instance var_22:qX J1 22 Ww 1:=⟨fun u h1 h2=>⟨_,_,G6,zO Qm,by rw[h1];rfl,by rw[h2];rfl⟩⟩
instance row_38:zAR J1 38 2 Qg 1:=⟨Lb,zO Ks,rfl⟩
instance sli_38:zF5 J1 38 2:=⟨Lb⟩
instance elt_38:ElT J1 38 2 Qg 1 (I 0):=⟨Lb,zO Ks,⟨_,rfl,rfl⟩,rfl,Nat.le_of_ble_eq_true rfl,rfl,rfl,Nat.le_of_ble_eq_true rfl⟩
instance mkz_38:MkZ J1 38 I 0 (I 0):=⟨rfl⟩
instance bld_58:zHy J1 58 [L 1 I [],L 1 (L 1 I) [],L 1 (L 1 (L 1 I)) []]:=⟨_,_,fun ps=>vX (zO Ur) H7 rfl (places:=[(0,1),(1,1),(2,1)]) (by simp[zO Kn,zO H2,zO G7];decide) ps,rfl,rfl,(by intro i u hu;match i,hu with|0,hu=>cases hu;rfl|1,hu=>cases hu;rfl|2,hu=>cases hu;rfl|_+3,hu=>simp at hu)⟩
instance elt_24:ElT J1 24 38 Qn 1 (L 1 I []):=⟨Hd,zO H2,⟨_,rfl,rfl⟩,rfl,Nat.le_of_ble_eq_true rfl,rfl,rfl,Nat.le_of_ble_eq_true rfl⟩
instance elt_56:ElT J1 56 24 Qp 1 (L 1 (L 1 I) []):=⟨G4,zO Kn,⟨_,rfl,rfl⟩,rfl,Nat.le_of_ble_eq_true rfl,rfl,rfl,Nat.le_of_ble_eq_true rfl⟩
instance fld_58_1:qK J1 58 1 1:=⟨_,_,_,H7,rfl,zO Kn,by decide,rfl⟩
instance fld_58_2:qK J1 58 2 2:=⟨_,_,_,H7,rfl,zO G7,by decide,rfl⟩
theorem yAR:J1.info? 24=Wu Qp:=zO Kn
instance infI_24:zBU J1 24 Qp:=⟨yAR⟩
theorem yAS:J1.info? 56=Wu Jbl:=zO G7
instance infI_56:zBU J1 56 Jbl:=⟨yAS⟩
theorem zCk:J1.info? 58=Wu Jbk:=zO Ur
instance infI_58:zBU J1 58 Jbk:=⟨zCk⟩
instance var_24:qX J1 24 Ww 1:=⟨fun u h1 h2=>⟨_,_,Hd,zO Kn,by rw[h1];rfl,by rw[h2];rfl⟩⟩
instance var_56:qX J1 56 Ww 1:=⟨fun u h1 h2=>⟨_,_,G4,zO G7,by rw[h1];rfl,by rw[h2];rfl⟩⟩
instance var_58:qX J1 58 Wx 3:=⟨fun u h1 h2=>⟨_,_,H7,zO Ur,by rw[h1];rfl,by rw[h2];rfl⟩⟩
instance zer_58:zKo J1 58 (T.agg [L 1 I [],L 1 (L 1 I) [],L 1 (L 1 (L 1 I)) []]):=⟨_,_,zO Ur,rfl,rfl,rfl,rfl⟩
theorem zFW:J1.info? 38=Wu Qn:=zO H2
instance infI_38:zBU J1 38 Qn:=⟨zFW⟩
instance row_24:zAR J1 24 38 Qn 1:=⟨Hd,zO H2,rfl⟩
instance row_56:zAR J1 56 24 Qp 1:=⟨G4,zO Kn,rfl⟩
instance sli_24:zF5 J1 24 38:=⟨Hd⟩
instance var_38:qX J1 38 Ww 1:=⟨fun u h1 h2=>⟨_,_,Lb,zO H2,by rw[h1];rfl,by rw[h2];rfl⟩⟩
instance int_3:zN3 J1 3 .i64:=⟨U0⟩
instance elt_192:ElT J1 192 9 Jbs 1 (Str ByteArray.empty):=⟨U5,zO Qz,⟨_,rfl,rfl⟩,rfl,Nat.le_of_ble_eq_true rfl,rfl,rfl,Nat.le_of_ble_eq_true rfl⟩
instance row_192:zAR J1 192 9 Jbs 1:=⟨U5,zO Qz,rfl⟩
instance sli_192:zF5 J1 192 9:=⟨U5⟩
instance var_9:qX J1 9 Ww 1:=⟨fun u h1 h2=>⟨_,_,Tryz.underlying9,zO Qz,by rw[h1];rfl,by rw[h2];rfl⟩⟩
instance fld_58_0:qK J1 58 0 0:=⟨_,_,_,H7,rfl,zO H2,by decide,rfl⟩
instance sli_56:zF5 J1 56 24:=⟨G4⟩
instance elt_22:ElT J1 22 5 Jbt 1 ((IK .u8) 0):=⟨G6,zO Ja0,⟨_,rfl,rfl⟩,rfl,Nat.le_of_ble_eq_true rfl,rfl,rfl,Nat.le_of_ble_eq_true rfl⟩
instance int_5:zN3 J1 5 .u8:=⟨Jab⟩
instance bld_26:zHy J1 26 [I 0,L 1 (L 1 I) []]:=⟨_,_,fun ps=>vX (zO Us) G5 rfl (places:=[(0,1),(1,1)]) (by simp[zO Ks,zO Kn];decide) ps,rfl,rfl,(by intro i u hu;match i,hu with|0,hu=>cases hu;rfl|1,hu=>cases hu;rfl|_+2,hu=>simp at hu)⟩
theorem yAT:J1.info? 26=Wu Jbm:=zO Us
instance infI_26:zBU J1 26 Jbm:=⟨yAT⟩
instance var_26:qX J1 26 Wx 2:=⟨fun u h1 h2=>⟨_,_,G5,zO Us,by rw[h1];rfl,by rw[h2];rfl⟩⟩
instance zer_26:zKo J1 26 (T.agg [I 0,L 1 (L 1 I) []]):=⟨_,_,zO Us,rfl,rfl,rfl,rfl⟩
instance fld_26_0:qK J1 26 0 0:=⟨_,_,_,G5,rfl,zO Ks,by decide,rfl⟩
instance fld_26_1:qK J1 26 1 1:=⟨_,_,_,G5,rfl,zO Kn,by decide,rfl⟩
instance bld_37:zHy J1 37 [I 0,I 0,L 1 (L 1 I) []]:=⟨_,_,fun ps=>vX (zO G8) Ls rfl (places:=[(0,1),(1,1),(2,1)]) (by simp[zO Ks,zO Kn];decide) ps,rfl,rfl,(by intro i u hu;match i,hu with|0,hu=>cases hu;rfl|1,hu=>cases hu;rfl|2,hu=>cases hu;rfl|_+3,hu=>simp at hu)⟩
instance fld_37_2:qK J1 37 2 2:=⟨_,_,_,Ls,rfl,zO Kn,by decide,rfl⟩
theorem zI8:J1.info? 37=Wu Qo:=zO G8
instance infI_37:zBU J1 37 Qo:=⟨zI8⟩
instance var_37:qX J1 37 Wx 3:=⟨fun u h1 h2=>⟨_,_,Ls,zO G8,by rw[h1];rfl,by rw[h2];rfl⟩⟩
instance zer_37:zKo J1 37 (T.agg [I 0,I 0,L 1 (L 1 I) []]):=⟨_,_,zO G8,rfl,rfl,rfl,rfl⟩
instance bld_117:zHy J1 117 [I 0,I 0,L 1 (L 1 (L 1 I)) []]:=⟨_,_,fun ps=>vX (zO Uh) H0 rfl (places:=[(0,1),(1,1),(2,1)]) (by simp[zO Ks,zO G7];decide) ps,rfl,rfl,(by intro i u hu;match i,hu with|0,hu=>cases hu;rfl|1,hu=>cases hu;rfl|2,hu=>cases hu;rfl|_+3,hu=>simp at hu)⟩
instance fld_117_2:qK J1 117 2 2:=⟨_,_,_,H0,rfl,zO G7,by decide,rfl⟩
theorem zSg{u:T}(h1:u.single=Ww)(h2:u.size=1):∃(ds:TypeDesc)(ti:TypeInfo)(fs:Array Field)(f:Field),J1.underlying 37=Wu (.struct fs)/\fs[2]? =Wu f/\J1.underlying f.type=Wu ds/\J1.info? f.type=Wu ti/\zGT ds= !u.single/\ti.size=u.size:=⟨_,_,_,_,Ls,rfl,Hd,zO Kn,by rw[h1];rfl,by rw[h2];rfl⟩
instance fldw_37_2:yB0 J1 37 2 Ww 1:=⟨fun _ h1 h2=>zSg h1 h2⟩
theorem zYi:J1.info? 117=Wu Jbf:=zO Uh
instance infI_117:zBU J1 117 Jbf:=⟨zYi⟩
instance var_117:qX J1 117 Wx 3:=⟨fun u h1 h2=>⟨_,_,H0,zO Uh,by rw[h1];rfl,by rw[h2];rfl⟩⟩
instance zer_117:zKo J1 117 (T.agg [I 0,I 0,L 1 (L 1 (L 1 I)) []]):=⟨_,_,zO Uh,rfl,rfl,rfl,rfl⟩
instance bld_160:zHy J1 160 [L 1 I [],L 1 I [],L 1 I []]:=⟨_,_,fun ps=>vX (zO Hl) U7 rfl (places:=[(0,1),(1,1),(2,1)]) (by simp[zO H2];decide) ps,rfl,rfl,(by intro i u hu;match i,hu with|0,hu=>cases hu;rfl|1,hu=>cases hu;rfl|2,hu=>cases hu;rfl|_+3,hu=>simp at hu)⟩
instance elt_157:ElT J1 157 160 Q8 3 (T.agg [L 1 I [],L 1 I [],L 1 I []]):=⟨Hp,zO Hl,⟨_,rfl,rfl⟩,rfl,Nat.le_of_ble_eq_true rfl,rfl,rfl,Nat.le_of_ble_eq_true rfl⟩
theorem zQr:J1.info? 157=Wu Jbe:=zO Qe
instance infI_157:zBU J1 157 Jbe:=⟨zQr⟩
instance rp_160{a0:WA}{a1:WA}{a2:WA}:Rp (.agg [(L 1 I) a0,(L 1 I) a1,(L 1 I) a2]) zC (zH.mk a0 a1 a2):=⟨rfl⟩
instance(priority:=8) rq_160{t0 t1 t2:T}{a0:WA}{a1:WA}{a2:WA}[h0:Rp t0 (L 1 I) a0][h1:Rp t1 (L 1 I) a1][h2:Rp t2 (L 1 I) a2]:Rp (.agg [t0,t1,t2]) zC (zH.mk a0 a1 a2):=⟨by rw[h0.h,h1.h,h2.h]⟩
instance var_62:qX J1 62 Ww 1:=⟨fun u h1 h2=>⟨_,_,Tryz.underlying62,zO Gw,by rw[h1];rfl,by rw[h2];rfl⟩⟩
instance var_157:qX J1 157 Ww 1:=⟨fun u h1 h2=>⟨_,_,Hp,zO Qe,by rw[h1];rfl,by rw[h2];rfl⟩⟩
instance int_197:zN3 J1 197 .u32:=⟨Tryz.underlying197⟩
instance int_200:zN3 J1 200 .u64:=⟨Tryz.underlying200⟩
instance int_186:zN3 J1 186 .u64:=⟨Uo⟩
instance row_157:zAR J1 157 160 Q8 3:=⟨Hp,zO Hl,rfl⟩
instance zer_157:zKo J1 157 (L 3 zC []):=⟨_,_,zO Qe,rfl,rfl,rfl,rfl⟩
instance fld_164_0:qK J1 164 0 0:=⟨_,_,_,Hn,rfl,zO Gw,by decide,rfl⟩
instance fld_117_0:qK J1 117 0 0:=⟨_,_,_,H0,rfl,zO Ks,by decide,rfl⟩
instance fld_117_1:qK J1 117 1 1:=⟨_,_,_,H0,rfl,zO Ks,by decide,rfl⟩
instance fld_37_0:qK J1 37 0 0:=⟨_,_,_,Ls,rfl,zO Ks,by decide,rfl⟩
instance fld_37_1:qK J1 37 1 1:=⟨_,_,_,Ls,rfl,zO Ks,by decide,rfl⟩
instance fld_164_1:qK J1 164 1 1:=⟨_,_,_,Hn,rfl,zO Qf,by decide,rfl⟩
instance fld_164_2:qK J1 164 2 2:=⟨_,_,_,Hn,rfl,zO Ug,by decide,rfl⟩
instance row_162:zAR J1 162 37 Qo 3:=⟨Ho,zO G8,rfl⟩
instance var_120:qX J1 120 Ww 1:=⟨fun u h1 h2=>⟨_,_,Tryz.underlying120,zO Qf,by rw[h1];rfl,by rw[h2];rfl⟩⟩
instance var_162:qX J1 162 Ww 1:=⟨fun u h1 h2=>⟨_,_,Ho,zO Ug,by rw[h1];rfl,by rw[h2];rfl⟩⟩
instance bld_164:zHy J1 164 [T.lit (.pointer Wv),T.lit (.pointer Wv),L 3 zU []]:=⟨_,_,fun ps=>vX (zO Tryz.type164) Hn rfl (places:=[(0,1),(1,1),(2,1)]) (by simp[zO Qf,zO Ug,zO Gw];decide) ps,rfl,rfl,(by intro i u hu;match i,hu with|0,hu=>cases hu;rfl|1,hu=>cases hu;rfl|2,hu=>cases hu;rfl|_+3,hu=>simp at hu)⟩
instance elt_162:ElT J1 162 37 Qo 3 (T.agg [I 0,I 0,L 1 (L 1 I) []]):=⟨Ho,zO G8,⟨_,rfl,rfl⟩,rfl,Nat.le_of_ble_eq_true rfl,rfl,rfl,Nat.le_of_ble_eq_true rfl⟩
instance fld_160_0:qK J1 160 0 0:=⟨_,_,_,U7,rfl,zO H2,by decide,rfl⟩
theorem zQs:J1.info? 160=Wu Q8:=zO Hl
instance infI_160:zBU J1 160 Q8:=⟨zQs⟩
theorem zQt:J1.info? 162=Wu Jbd:=zO Ug
instance infI_162:zBU J1 162 Jbd:=⟨zQt⟩
instance mkz_24:MkZ J1 24 (L 1 I) ([]:WA) (L 1 I []):=⟨rfl⟩
instance rp_37{a0:Int}{a1:Int}{a2:WB}:Rp (.agg [I a0,I a1,(L 1 (L 1 I)) a2]) zU (zM.mk a0 a1 a2):=⟨rfl⟩
instance(priority:=8) rq_37{t0 t1 t2:T}{a0:Int}{a1:Int}{a2:WB}[h0:Rp t0 I a0][h1:Rp t1 I a1][h2:Rp t2 (L 1 (L 1 I)) a2]:Rp (.agg [t0,t1,t2]) zU (zM.mk a0 a1 a2):=⟨by rw[h0.h,h1.h,h2.h]⟩
instance sli_157:zF5 J1 157 160:=⟨Hp⟩
instance sli_162:zF5 J1 162 37:=⟨Ho⟩
instance var_160:qX J1 160 Wx 3:=⟨fun u h1 h2=>⟨_,_,U7,zO Hl,by rw[h1];rfl,by rw[h2];rfl⟩⟩
instance zer_160:zKo J1 160 (T.agg [L 1 I [],L 1 I [],L 1 I []]):=⟨_,_,zO Hl,rfl,rfl,rfl,rfl⟩
instance elt_96:ElT J1 96 3 Jbu 1 (I 0):=⟨Ud,zO U8,⟨_,rfl,rfl⟩,rfl,Nat.le_of_ble_eq_true rfl,rfl,rfl,Nat.le_of_ble_eq_true rfl⟩
instance row_96:zAR J1 96 3 Jbu 1:=⟨Ud,zO U8,rfl⟩
instance sli_96:zF5 J1 96 3:=⟨Ud⟩
instance bld_172:zHy J1 172 [T.lit (.pointer Wv),L 1 (Ro (Nz 1 I)) []]:=⟨_,_,fun ps=>vX (zO Tryz.type172) U6 rfl (places:=[(0,1),(1,1)]) (by simp[zO Kn,zO Gw];decide) ps,rfl,rfl,(by intro i u hu;match i,hu with|0,hu=>cases hu;rfl|1,hu=>cases hu;rfl|_+2,hu=>simp at hu)⟩
instance fld_172_0:qK J1 172 0 0:=⟨_,_,_,U6,rfl,zO Gw,by decide,rfl⟩
instance fld_172_1:qK J1 172 1 1:=⟨_,_,_,U6,rfl,zO Kn,by decide,rfl⟩
instance mapT_89:zW5 J1 89 2 2 Qg:=⟨Tryz.underlying89,Un,zO Ks,rfl⟩
instance bld_33:zHy J1 33 [I 0,L 1 (L 1 I) []]:=⟨_,_,fun ps=>vX (zO Ql) Uf rfl (places:=[(0,1),(1,1)]) (by simp[zO Ks,zO Kn];decide) ps,rfl,rfl,(by intro i u hu;match i,hu with|0,hu=>cases hu;rfl|1,hu=>cases hu;rfl|_+2,hu=>simp at hu)⟩
instance fld_33_1:qK J1 33 1 1:=⟨_,_,_,Uf,rfl,zO Kn,by decide,rfl⟩
instance var_33:qX J1 33 Wx 2:=⟨fun u h1 h2=>⟨_,_,Uf,zO Ql,by rw[h1];rfl,by rw[h2];rfl⟩⟩
instance zer_33:zKo J1 33 (T.agg [I 0,L 1 (L 1 I) []]):=⟨_,_,zO Ql,rfl,rfl,rfl,rfl⟩
instance fld_41_1:qK J1 41 1 1:=⟨_,_,_,Ue,rfl,zO Kn,by decide,rfl⟩
instance fld_41_0:qK J1 41 0 0:=⟨_,_,_,Ue,rfl,zO Ks,by decide,rfl⟩
instance mvh_16:MvH J1 16 [(1,[1,0])] 2:=⟨⟩
instance var_41:qX J1 41 Wx 2:=⟨fun u h1 h2=>⟨_,_,Ue,zO Tryz.type41,by rw[h1];rfl,by rw[h2];rfl⟩⟩
end Go.Wk
