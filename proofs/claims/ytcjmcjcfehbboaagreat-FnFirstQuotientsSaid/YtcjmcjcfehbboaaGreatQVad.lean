/- x -/
import Derived.Test.YtcjmcjcfehbboaaGreatQWT
open Go.Proofs.Tryz renaming prog→J0,call22→Kg,underlying24→H2
open Option renaming some→jq,none→jr
open Bool renaming true→js,false→jt
namespace Go.Wk
open Go Go.Proofs Go.Ab
set_option maxRecDepth 100000
set_option maxHeartbeats 4000000
section
attribute [local irreducible] RW CW DK OkL Ok yL yM xQ wE XS.post rng wF xN ixO zQ yC xR yH zC GTo zE FnC FnK wJ wS Kp Lk BsL BuL RpL Bk Lc
instance t_e:FI J0 22 (∀(a:zM)(b:Int),FnK J0 22 [T.ptr (zW a),I b] (fun r=>[I r.1]) (fun r=>[(0,(Pt (fun x=>T.agg [(Ro (L 1 (IK .u8))) x.code,I x.at_,I x.seed])) r.2)]) (f_e a b)):=⟨Kg,fun a b=>iM Tryz.func22⟩
instance t_a6:FI J0 46 (∀(a:SPr),FnK J0 46 [T.ro ((Pt yI) a)] (fun r=>[I r]) (fun _=>[]) (zNa a)):=⟨Tryz.call46,fun a=>iM Tryz.func46⟩
instance:HS Tryz.f134.8 [(2,6,0,.tr 7 16),(0,23,0,.tr 22 7),(0,24,0,.trq 21 5 [2,0]),(1,4,0,.trf 27 2 5 [2,0])]:=⟨⟩
instance(a:Int):LN (zJO a) 5:=⟨⟩
instance(a:Int)(A0 A1 A2:T):LHk (R:=zN) (zJO a) (T.ptr (T.agg [A0,A1,A2])) [1,4,11] [] (fun b=>[(5,T.ptr (T.agg [A0,I a,L 1 lV b.1])),(12,I b.2)]) (.xe 0 [1,11] fun c=>[(5,T.ptr (T.agg [A0,I a,L 1 lV c]))]):=⟨⟩
instance t_L:FI J0 134 (∀(a b:Int),FnK J0 134 [I a,I b] (fun r=>[zS r]) (fun _=>[]) (f_L a b)):=⟨Tryz.call134,fun a b=>iM Tryz.func134⟩
instance t_ce:FI J0 183 (∀(a b:Int),FnK J0 183 [(IK .u64) a,(IK .u64) b] (fun r=>[(IK .u64) r.1,(IK .u64) r.2]) (fun _=>[]) (yAD a b)):=⟨Tryz.call183,fun a b=>iM Tryz.func183⟩
instance t_cf:FI J0 169 (∀(a:xM)(b:List Int)(c:Int),FnK J0 169 [T.ro ((Pt zIH) a),T.ro (lV b),I c] (fun r=>[I r]) (fun _=>[]) (yAL a b c)):=⟨Tryz.call169,fun a b c=>iM Tryz.func169⟩
instance t_cg:FI J0 181 (∀(a:yS)(b:Int),FnK J0 181 [T.ro ((Pt yF) a),I b] (fun r=>[(fun x=>T.agg [I x.Prime,I x.xU,(Ro lM) x.Rows]) r]) (fun _=>[]) (yAC a b)):=⟨Tryz.call181,fun a b=>iM Tryz.func181⟩
instance(a:List Int):LH (R:=Bool) (zID a) [5,6] [] (fun b=>[(7,I b)]) (.xs (.xe 0 [5,6] fun _=>[]) .xr):=⟨⟩
instance t_ap:FI J0 106 (∀(a:List Int),FnK J0 106 [T.ro (lV a)] (fun r=>[B r]) (fun _=>[]) (zPE a)):=⟨Tryz.call106,fun a=>iM Tryz.func106⟩
instance:HS Tryz.f97.8 [(2,2,0,.tr 5 7)]:=⟨⟩
instance t_bN:FI J0 97 (∀(a b:Int),FnK J0 97 [I a,I b] (fun r=>[lV r]) (fun _=>[]) (zS4 a b)):=⟨Tryz.call97,fun a b=>iM Tryz.func97⟩
instance t_bQ:FI J0 74 (∀(a:Int),FnK J0 74 [I a] (fun r=>[I r]) (fun _=>[]) (zTn a)):=⟨Tryz.call74,fun a=>iM Tryz.func74⟩
end
theorem yBU(x0:List (List Int))(r:(List (List Int)))(h:zSI x0=jq r):FnC J0 147 [T.ro (lM x0)] [(L 1 (Ro lV)) r] []:=by
 refine fB Tryz.func147 (fun St W w0 v=>?_);refine sR (oP (zAH 1 rfl) ?_);refine rN (CW.seq (sR (zL ?_)));refine RW.isnil H2 (wU rfl rfl) (.inl rfl) rfl rfl (fun b1 da=>?_);refine rN (CW.cond _ rfl (fun hc=>?_) (fun hc=>?_));have hx:=da hc;subst hx;have h:jq ([])=jq r:=by simpa[yC,zSI]using h
 refine sR (oP (zAH 1 rfl) ?_);refine rN (CW.ret (rA ?_));obtain rfl:=sI h;exact rT;refine CW.skip (nA (sR (oP (zKz elt_24 rfl) ?_)));refine zL ?_;obtain⟨v2,fJ,h⟩:=bd h;refine oP (zDN (f:=(Ro lV)) (g:=lV) elt_24 (fun _=>rfl) (fun _=>rfl) inferInstance fJ rfl (wU rfl rfl) rfl) ?_;refine yX ?_;refine RW.ghost (zE.tr 2 7 _ rfl rfl (zB (zG (fun _=>trivial))) rfl) ?_;refine rN (CW.ret ?_);obtain rfl:=sI h;exact rT
instance t_bx:FI J0 147 (∀(a:List (List Int)),FnK J0 147 [T.ro (lM a)] (fun r:(List (List Int))=>[(L 1 (Ro lV)) r]) (fun _=>[]) (zSI a)):=⟨Tryz.call147,fun a=>FnK.mk (yBU a)⟩
end Go.Wk
