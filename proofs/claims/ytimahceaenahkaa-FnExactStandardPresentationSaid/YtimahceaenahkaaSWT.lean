/- x -/
import Derived.Test.YtimahceaenahkaaSAbC
import Derived.Test.YtimahceaenahkaaSWF
import Derived.Test.YtimahceaenahkaaProg
open Go.Proofs.Try renaming prog→J0,type23→Kt,underlying22→Kx,underlying2→L3,underlying77→Lb,underlying28→Ld,type22→Le,underlying67→Lt,underlying61→Lu,underlying52→Lw,underlying26→Lx,underlying24→Ly,underlying23→Lz,type2→H0,type52→H4,type24→Hb,underlying66→Hf,underlying65→Hg,underlying54→Hi,type3→Hj,type77→Hq,type28→Hr,t22→G7,type67→U5,type66→U6,type61→U7,t52→Ub,t23→Uc,underlying64→Uj,t3→Uu,t2→Uv,underlying3→Qc
open Option renaming some→df,none→dg
open Bool renaming true→dh,false→di
namespace Go.Wk
open Go Go.Proofs Go.Ab
abbrev lV:=L 1 I
abbrev lM:=L 1 lV
abbrev lC:=L 1 lM
abbrev qPr(x:SPr):T:=T.agg [T.ro (lV x.zA),T.ro (lM x.zV),T.ro (lC x.zB)]
abbrev zEB(x:zE):T:=T.agg [T.ro (lM x.qP),T.ro (lM x.wW)]
theorem zDM:J0.follows .mixedOrders=dh:=rfl
instance:Mix J0:=⟨zDM⟩
instance sli_22:zDr J0 22 2:=⟨Kx⟩
instance row_23:jU J0 23 22 G7 1:=⟨Lz,zI Le,rfl⟩
instance sli_23:zDr J0 23 22:=⟨Lz⟩
instance var_22:qK J0 22 dh 1:=⟨fun u h1 h2=>⟨_,_,Kx,zI Le,by rw[h1];rfl,by rw[h2];rfl⟩⟩
instance row_24:jU J0 24 23 Uc 1:=⟨Ly,zI Kt,rfl⟩
instance sli_24:zDr J0 24 23:=⟨Ly⟩
instance var_23:qK J0 23 dh 1:=⟨fun u h1 h2=>⟨_,_,Lz,zI Kt,by rw[h1];rfl,by rw[h2];rfl⟩⟩
instance fld_26_0:zAt J0 26 0 0:=⟨_,_,_,Lx,rfl,zI Le,by decide,rfl⟩
instance fld_26_1:zAt J0 26 1 1:=⟨_,_,_,Lx,rfl,zI Kt,by decide,rfl⟩
instance fld_26_2:zAt J0 26 2 2:=⟨_,_,_,Lx,rfl,zI Hb,by decide,rfl⟩
instance var_24:qK J0 24 dh 1:=⟨fun u h1 h2=>⟨_,_,Ly,zI Hb,by rw[h1];rfl,by rw[h2];rfl⟩⟩
instance elt_22:ElT J0 22 2 Uv 1 (I 0):=⟨Kx,zI H0,⟨_,rfl,rfl⟩,rfl,Nat.le_of_ble_eq_true rfl,rfl,rfl,Nat.le_of_ble_eq_true rfl⟩
theorem zQL:J0.info? 2=df Uv:=zI H0
instance infI_2:zDT J0 2 Uv:=⟨zQL⟩
instance mkz_22:MkZ J0 22 I 0 (I 0):=⟨rfl⟩
instance row_22:jU J0 22 2 Uv 1:=⟨Kx,zI H0,rfl⟩
instance var_2:qK J0 2 dh 1:=⟨fun u h1 h2=>⟨_,_,L3,zI H0,by rw[h1];rfl,by rw[h2];rfl⟩⟩
instance elt_23:ElT J0 23 22 G7 1 (L 1 I []):=⟨Lz,zI Le,⟨_,rfl,rfl⟩,rfl,Nat.le_of_ble_eq_true rfl,rfl,rfl,Nat.le_of_ble_eq_true rfl⟩
theorem zLQ:J0.info? 22=df G7:=zI Le
instance infI_22:zDT J0 22 G7:=⟨zLQ⟩
instance mkz_23:MkZ J0 23 (L 1 I) ([]:dn) (L 1 I []):=⟨rfl⟩
instance elt_24:ElT J0 24 23 Uc 1 (L 1 (L 1 I) []):=⟨Ly,zI Kt,⟨_,rfl,rfl⟩,rfl,Nat.le_of_ble_eq_true rfl,rfl,rfl,Nat.le_of_ble_eq_true rfl⟩
theorem zLR:J0.info? 23=df Uc:=zI Kt
instance infI_23:zDT J0 23 Uc:=⟨zLR⟩
instance mkz_24:MkZ J0 24 (L 1 (L 1 I)) ([]:dp) (L 1 (L 1 I) []):=⟨rfl⟩
instance fld_28_0:zAt J0 28 0 0:=⟨_,_,_,Ld,rfl,zI Le,by decide,rfl⟩
instance fld_28_1:zAt J0 28 1 1:=⟨_,_,_,Ld,rfl,zI Kt,by decide,rfl⟩
instance fld_28_2:zAt J0 28 2 2:=⟨_,_,_,Ld,rfl,zI Hb,by decide,rfl⟩
theorem zPj:J0.info? 24=df Try.t24:=zI Hb
instance infI_24:zDT J0 24 Try.t24:=⟨zPj⟩
theorem zFx:J0.info? 28=df Try.t28:=zI Hr
instance infI_28:zDT J0 28 Try.t28:=⟨zFx⟩
instance var_28:qK J0 28 di 3:=⟨fun u h1 h2=>⟨_,_,Ld,zI Hr,by rw[h1];rfl,by rw[h2];rfl⟩⟩
instance zer_28:zKa J0 28 (T.agg [L 1 I [],L 1 (L 1 I) [],L 1 (L 1 (L 1 I)) []]):=⟨_,_,zI Hr,rfl,rfl,rfl,rfl⟩
instance bld_77:zIK J0 77 [I 0,I 0,I 0,I 0]:=⟨_,_,fun ps=>tG (zI Hq) Lb rfl (places:=[(0,1),(1,1),(2,1),(3,1)]) (by simp[zI H0];decide) ps,rfl,rfl,(by intro i u hu;match i,hu with|0,hu=>cases hu;rfl|1,hu=>cases hu;rfl|2,hu=>cases hu;rfl|3,hu=>cases hu;rfl|_+4,hu=>simp at hu)⟩
theorem zPk:J0.info? 77=df Try.t77:=zI Hq
instance infI_77:zDT J0 77 Try.t77:=⟨zPk⟩
instance var_77:qK J0 77 di 4:=⟨fun u h1 h2=>⟨_,_,Lb,zI Hq,by rw[h1];rfl,by rw[h2];rfl⟩⟩
instance zer_77:zKa J0 77 (T.agg [I 0,I 0,I 0,I 0]):=⟨_,_,zI Hq,rfl,rfl,rfl,rfl⟩
instance fld_77_0:zAt J0 77 0 0:=⟨_,_,_,Lb,rfl,zI H0,by decide,rfl⟩
theorem zJw{u:T}(h1:u.single=dh)(h2:u.size=1):∃(ds:TypeDesc)(ti:TypeInfo)(fs:Array Field)(f:Field),J0.underlying 77=df (.struct fs)∧fs[0]? =df f∧J0.underlying f.type=df ds∧J0.info? f.type=df ti∧zCr ds= !u.single∧ti.size=u.size:=⟨_,_,_,_,Lb,rfl,L3,zI H0,by rw[h1];rfl,by rw[h2];rfl⟩
instance fldw_77_0:zPG J0 77 0 dh 1:=⟨fun _ h1 h2=>zJw h1 h2⟩
instance bld_28:zIK J0 28 [L 1 I [],L 1 (L 1 I) [],L 1 (L 1 (L 1 I)) []]:=⟨_,_,fun ps=>tG (zI Hr) Ld rfl (places:=[(0,1),(1,1),(2,1)]) (by simp[zI Le,zI Kt,zI Hb];decide) ps,rfl,rfl,(by intro i u hu;match i,hu with|0,hu=>cases hu;rfl|1,hu=>cases hu;rfl|2,hu=>cases hu;rfl|_+3,hu=>simp at hu)⟩
instance fld_52_0:zAt J0 52 0 0:=⟨_,_,_,Lw,rfl,zI Kt,by decide,rfl⟩
instance fld_52_1:zAt J0 52 1 1:=⟨_,_,_,Lw,rfl,zI Kt,by decide,rfl⟩
instance bld_52:zIK J0 52 [L 1 (L 1 I) [],L 1 (L 1 I) []]:=⟨_,_,fun ps=>tG (zI H4) Lw rfl (places:=[(0,1),(1,1)]) (by simp[zI Kt];decide) ps,rfl,rfl,(by intro i u hu;match i,hu with|0,hu=>cases hu;rfl|1,hu=>cases hu;rfl|_+2,hu=>simp at hu)⟩
theorem zPl:J0.info? 52=df Ub:=zI H4
instance infI_52:zDT J0 52 Ub:=⟨zPl⟩
instance var_52:qK J0 52 di 2:=⟨fun u h1 h2=>⟨_,_,Lw,zI H4,by rw[h1];rfl,by rw[h2];rfl⟩⟩
instance zer_52:zKa J0 52 (T.agg [L 1 (L 1 I) [],L 1 (L 1 I) []]):=⟨_,_,zI H4,rfl,rfl,rfl,rfl⟩
instance elt_54:ElT J0 54 52 Ub 2 (T.agg [L 1 (L 1 I) [],L 1 (L 1 I) []]):=⟨Hi,zI H4,⟨_,rfl,rfl⟩,rfl,Nat.le_of_ble_eq_true rfl,rfl,rfl,Nat.le_of_ble_eq_true rfl⟩
instance row_54:jU J0 54 52 Ub 2:=⟨Hi,zI H4,rfl⟩
instance rp_52{a0:dp}{a1:dp}:Rp (.agg [(L 1 (L 1 I)) a0,(L 1 (L 1 I)) a1]) tZ (zE.mk a0 a1):=⟨rfl⟩
instance(priority:=8) rq_52{t0 t1:T}{a0:dp}{a1:dp}[h0:Rp t0 (L 1 (L 1 I)) a0][h1:Rp t1 (L 1 (L 1 I)) a1]:Rp (.agg [t0,t1]) tZ (zE.mk a0 a1):=⟨by rw[h0.h,h1.h]⟩
instance sli_54:zDr J0 54 52:=⟨Hi⟩
instance eqs_77:zMr J0 77:=⟨⟨_,_,_,_,Lb,⟨by decide,rfl,L3⟩,⟨by decide,rfl,L3⟩,⟨by decide,rfl,L3⟩,⟨by decide,rfl,L3⟩⟩,Try.stoodInHeld77,Try.eqGuardType77⟩
instance elt_61:ElT J0 61 66 Try.t66 1 (L 1 I []):=⟨Lu,zI U6,⟨_,rfl,rfl⟩,rfl,Nat.le_of_ble_eq_true rfl,rfl,rfl,Nat.le_of_ble_eq_true rfl⟩
instance elt_66:ElT J0 66 3 Uu 1 (I 0):=⟨Hf,zI Hj,⟨_,rfl,rfl⟩,rfl,Nat.le_of_ble_eq_true rfl,rfl,rfl,Nat.le_of_ble_eq_true rfl⟩
instance row_61:jU J0 61 66 Try.t66 1:=⟨Lu,zI U6,rfl⟩
instance row_66:jU J0 66 3 Uu 1:=⟨Hf,zI Hj,rfl⟩
instance fld_64_0:zAt J0 64 0 0:=⟨_,_,_,Uj,rfl,zI U7,by decide,rfl⟩
instance var_3:qK J0 3 dh 1:=⟨fun u h1 h2=>⟨_,_,Qc,zI Hj,by rw[h1];rfl,by rw[h2];rfl⟩⟩
instance var_61:qK J0 61 dh 1:=⟨fun u h1 h2=>⟨_,_,Lu,zI U7,by rw[h1];rfl,by rw[h2];rfl⟩⟩
instance var_66:qK J0 66 dh 1:=⟨fun u h1 h2=>⟨_,_,Hf,zI U6,by rw[h1];rfl,by rw[h2];rfl⟩⟩
instance mapV_68:zKz J0 68 3 22 G7:=⟨Try.underlying68,Qc,zI Le,rfl⟩
instance row_67:jU J0 67 3 Uu 1:=⟨Lt,zI Hj,rfl⟩
instance sli_67:zDr J0 67 3:=⟨Lt⟩
instance bld_64:zIK J0 64 [L 1 (L 1 I) []]:=⟨_,_,fun ps=>tG (zI Try.type64) Uj rfl (places:=[(0,1)]) (by simp[zI U7];decide) ps,rfl,rfl,(by intro i u hu;match i,hu with|0,hu=>cases hu;rfl|_+1,hu=>simp at hu)⟩
instance elt_65:ElT J0 65 67 Try.t67 1 (L 1 I []):=⟨Hg,zI U5,⟨_,rfl,rfl⟩,rfl,Nat.le_of_ble_eq_true rfl,rfl,rfl,Nat.le_of_ble_eq_true rfl⟩
instance elt_67:ElT J0 67 3 Uu 1 (I 0):=⟨Lt,zI Hj,⟨_,rfl,rfl⟩,rfl,Nat.le_of_ble_eq_true rfl,rfl,rfl,Nat.le_of_ble_eq_true rfl⟩
instance row_65:jU J0 65 67 Try.t67 1:=⟨Hg,zI U5,rfl⟩
instance sli_61:zDr J0 61 66:=⟨Lu⟩
instance sli_65:zDr J0 65 67:=⟨Hg⟩
instance var_67:qK J0 67 dh 1:=⟨fun u h1 h2=>⟨_,_,Lt,zI U5,by rw[h1];rfl,by rw[h2];rfl⟩⟩
instance mvh_9:MvH J0 9 [(0,[0,0]),(1,[1,0]),(2,[2,0])] 2:=⟨⟩
instance var_26:qK J0 26 di 3:=⟨fun u h1 h2=>⟨_,_,Lx,zI Try.type26,by rw[h1];rfl,by rw[h2];rfl⟩⟩
instance rpx_52{a0:dp}{a1:dp}:Rp (.agg [(L 1 (Ro (L 1 I))) a0,(L 1 (L 1 I)) a1]) (fun x:zE=>T.agg [(L 1 (Ro lV)) x.qP,lM x.wW]) (zE.mk a0 a1):=⟨rfl⟩
instance stripx_52:xM (fun x:zE=>T.agg [(L 1 (Ro lV)) x.qP,lM x.wW]) tZ:=⟨fun _=>stA (stC (xM.h (f:=L 1 (Ro lV)) (g:=lM) _) (stC (xM.h (f:=lM) (g:=lM) _) rfl))⟩
end Go.Wk
