/- x -/
import Derived.Test.YtcjmcjcfehbboaaGreatRWT
open Go.Proofs.Tryz renaming prog->J1,underlying24->Hd
open Option renaming some->Wu,none->Wv
open Bool renaming true->Ww,false->Wx
namespace Go.Wk
open Go Go.Proofs Go.Ab
set_option maxRecDepth 100000
set_option maxHeartbeats 4000000
section
attribute [local irreducible] RW CW DK OkL Ok yX xC wK wY XS.post rng vP vL ixO zT yR wN yO zF GTo zI FnC FnK vB uC Kp Lk BsL BuL RpL Bk Lc
instance:HS Tryz.f152.8 [(2,2,0,.tr 5 7)]:=⟨⟩
instance t_bv:FI J1 152 (∀(a b:Int),FnK J1 152 [I a,I b] (fun r=>[lV r]) (fun _=>[]) (yAC a b)):=⟨Tryz.call152,fun a b=>iM Tryz.func152⟩
instance:HS Tryz.f64.8 [(2,2,0,.tr 7 11),(0,14,0,.tr 12 7)]:=⟨⟩
instance t_a7:FI J1 64 (∀(a:Int)(b:List Int)(c:Int),FnK J1 64 [I a,T.ro (lV b),I c] (fun r=>[lV r]) (fun _=>[]) (zRU a b c)):=⟨Tryz.call64,fun a b c=>iM Tryz.func64⟩
instance:HS Tryz.f134.8 [(2,6,0,.tr 7 16),(0,23,0,.tr 22 7),(0,24,0,.trq 21 5 [2,0]),(1,4,0,.trf 27 2 5 [2,0])]:=⟨⟩
instance(a:Int):LN (zLf a) 5:=⟨⟩
instance(a:Int)(A0 A1 A2:T):LHk (R:=zM) (zLf a) (T.ptr (T.agg [A0,A1,A2])) [1,4,11] [] (fun b=>[(5,T.ptr (T.agg [A0,I a,L 1 lV b.1])),(12,I b.2)]) (.xe 0 [1,11] fun c=>[(5,T.ptr (T.agg [A0,I a,L 1 lV c]))]):=⟨⟩
instance t_G:FI J1 134 (∀(a b:Int),FnK J1 134 [I a,I b] (fun r=>[zU r]) (fun _=>[]) (f_G a b)):=⟨Tryz.call134,fun a b=>iM Tryz.func134⟩
instance t_bz:FI J1 183 (∀(a b:Int),FnK J1 183 [(IK .u64) a,(IK .u64) b] (fun r=>[(IK .u64) r.1,(IK .u64) r.2]) (fun _=>[]) (yDj a b)):=⟨Tryz.call183,fun a b=>iM Tryz.func183⟩
instance t_bk:FI J1 169 (∀(a:xJ)(b:List Int)(c:Int),FnK J1 169 [T.ro ((Pt zJM) a),T.ro (lV b),I c] (fun r=>[I r]) (fun _=>[]) (zXM a b c)):=⟨Tryz.call169,fun a b c=>iM Tryz.func169⟩
instance t_bh:FI J1 181 (∀(a:zS)(b:Int),FnK J1 181 [T.ro ((Pt yE) a),I b] (fun r=>[(fun x=>T.agg [I x.Prime,I x.wP,(Ro lM) x.Rows]) r]) (fun _=>[]) (zXB a b)):=⟨Tryz.call181,fun a b=>iM Tryz.func181⟩
instance t_a6:FI J1 144 (∀(a:Int),FnK J1 144 [I a] (fun r=>[B r]) (fun _=>[]) (zR8 a)):=⟨Tryz.call144,fun a=>iM Tryz.func144⟩
instance:HS Tryz.f97.8 [(2,2,0,.tr 5 7)]:=⟨⟩
instance t_bc:FI J1 97 (∀(a b:Int),FnK J1 97 [I a,I b] (fun r=>[lV r]) (fun _=>[]) (zVn a b)):=⟨Tryz.call97,fun a b=>iM Tryz.func97⟩
end
theorem yEi(x0:List (List Int))(r:(List (List Int)))(h:zVD x0=Wu r):FnC J1 147 [T.ro (lM x0)] [(L 1 (Ro lV)) r] []:=by
 refine fB Tryz.func147 (fun St W w0 v=>?_);refine sR (oP (zAn 1 rfl) ?_);refine rN (CW.seq (sR (zP ?_)));refine RW.isnil Hd (uB rfl rfl) (.inl rfl) rfl rfl (fun b1 uv=>?_);refine rN (CW.cond _ rfl (fun hc=>?_) (fun hc=>?_));have hx:=uv hc;subst hx;have h:Wu ([])=Wu r:=by simpa[yR,zVD]using h
 refine sR (oP (zAn 1 rfl) ?_);refine rN (CW.ret (rA ?_));obtain rfl:=sI h;exact rT;refine CW.skip (nA (sR (oP (zSO elt_24 rfl) ?_)));refine zP ?_;obtain⟨v2,eU,h⟩:=bd h;refine oP (zDR (f:=(Ro lV)) (g:=lV) elt_24 (fun _=>rfl) (fun _=>rfl) inferInstance eU rfl (uB rfl rfl) rfl) ?_;refine xP ?_;refine RW.ghost (zI.tr 2 7 _ rfl rfl (zE (zJ (fun _=>trivial))) rfl) ?_;refine rN (CW.ret ?_);obtain rfl:=sI h;exact rT
instance t_a0:FI J1 147 (∀(a:List (List Int)),FnK J1 147 [T.ro (lM a)] (fun r:(List (List Int))=>[(L 1 (Ro lV)) r]) (fun _=>[]) (zVD a)):=⟨Tryz.call147,fun a=>FnK.mk (yEi a)⟩
section
attribute [local irreducible] RW CW DK OkL Ok yX xC wK wY XS.post rng vP vL ixO zT yR wN yO zF GTo zI FnC FnK vB uC Kp Lk BsL BuL RpL Bk Lc
instance(a:List Int):LH (R:=Int) (zIO a) [0] [] (fun b=>[(3,I b)]) (.xs (.xe 0 [] fun _=>[]) .xr):=⟨⟩
instance t_w:FI J1 111 (∀(a:List Int),FnK J1 111 [T.ro (lV a)] (fun r=>[I r]) (fun _=>[]) (f_w a)):=⟨Tryz.call111,fun a=>iM Tryz.func111⟩
end
end Go.Wk
