/- x -/
import Derived.Test.YtchnmobojdcikaaGreatVav
import Derived.Test.YtchnmobojdcikaaGreatVbi
import Derived.Test.YtchnmobojdcikaaGreatWT
open Go.Proofs.Tryz renaming prog→J0,underlying25→H2,f275→Jau
open Option renaming some→dS,none→dT
open Bool renaming true→dU,false→dV
namespace Go.Wk
open Go Go.Proofs Go.Ab
set_option maxRecDepth 100000
set_option maxHeartbeats 4000000
section
attribute [local irreducible] RW CW DK OkL Ok zU zY yO yZ XS.post rng xC yL ixO zL zX yM zV zE GTo zK FnC FnK xJ xQ Kp Lk BsL BuL RpL Bk Lc JQ AK
instance:HS Tryz.f86.8 [(2,2,0,.tr 5 7),(0,11,0,.fz 10)]:=⟨⟩
instance t_c2:FI J0 86 (∀(a:List Int),FnK J0 86 [T.ro ((L 1 (IK .u8)) a)] (fun r:SPr×zB×(List (List Int))=>[(fun x=>T.agg [(Ro lV) x.zA,(Ro lM) x.zN,(Ro lC) x.zC]) r.1,(fun x=>T.agg [I x.Prime,I x.Dim,(Ro lC) x.zG]) r.2.1,lM r.2.2]) (fun _=>[]) (yAd a)):=⟨Tryz.call86,fun a=>iM Tryz.func86⟩
instance(b:SPr):LH (R:=Int) (zUs b) [9,10] [] (fun a=>[(3,I a.1),(11,I a.2)]) (.xe 0 [9,10] fun c=>[(3,I c)]):=⟨⟩
instance t_bd:FI J0 204 (∀(a:SPr),FnK J0 204 [T.ro ((Pt xR) a)] (fun r=>[I r]) (fun _=>[]) (zRg a)):=⟨Tryz.call204,fun a=>iM Tryz.func204⟩
instance:HS Jau.8 []:=⟨⟩
instance:MkN Jau.8 9 I:=⟨⟩
instance t_b9:FI J0 275 (∀(a:SPr),FnK J0 275 [T.ro ((Pt xR) a)] (fun r=>[(Pt (fun x=>T.agg [(Ro (Pt xR)) x.p,(L 1 (Ro (Nz 1 I))) x.base])) r]) (fun _=>[]) (zUu a)):=⟨Tryz.call275,fun a=>iM Tryz.func275⟩
end
theorem yDa(x0:List (List Int))(r:(List (List Int)))(h:zUv x0=dS r):FnC J0 308 [T.ro (lM x0)] [(L 1 (Ro lV)) r] []:=by
 refine fB Tryz.func308 (fun St W w0 v=>?_);refine sR (oP (zA9 1 rfl) ?_);refine rN (CW.seq (sR (xZ ?_)));refine RW.isnil H2 (jO rfl rfl) (.inl rfl) rfl rfl (fun b1 bX=>?_);refine rN (CW.cond _ rfl (fun hc=>?_) (fun hc=>?_));have hx:=bX hc;subst hx;have h:dS ([])=dS r:=by simpa[zX,zUv]using h
 refine sR (oP (zA9 1 rfl) ?_);refine rN (CW.ret (rA ?_));obtain rfl:=sI h;exact rT;refine CW.skip (nA (sR (oP (zSe elt_25 rfl) ?_)));refine xZ ?_;obtain⟨v2,ch,h⟩:=bd h;refine oP (zKl (f:=(Ro lV)) (g:=lV) elt_25 (fun _=>rfl) (fun _=>rfl) inferInstance ch rfl (jO rfl rfl) rfl) ?_;refine uD ?_;refine RW.ghost (zK.tr 2 7 _ rfl rfl (wL (vE (fun _=>trivial))) rfl) ?_;refine rN (CW.ret ?_);obtain rfl:=sI h;exact rT
instance t_b3:FI J0 308 (∀(a:List (List Int)),FnK J0 308 [T.ro (lM a)] (fun r:(List (List Int))=>[(L 1 (Ro lV)) r]) (fun _=>[]) (zUv a)):=⟨Tryz.call308,fun a=>FnK.mk (yDa a)⟩
section
attribute [local irreducible] RW CW DK OkL Ok zU zY yO yZ XS.post rng xC yL ixO zL zX yM zV zE GTo zK FnC FnK xJ xQ Kp Lk BsL BuL RpL Bk Lc JQ AK
instance t_cA:FI J0 311 (∀(a:SPr)(b c:List Int),FnK J0 311 [T.ro ((Pt xR) a),T.ro (lV b),T.ro (lV c)] (fun r=>[lV r]) (fun _=>[]) (zW8 a b c)):=⟨Tryz.call311,fun a b c=>iM Tryz.func311⟩
instance:HS Tryz.f284.8 [(2,2,0,.tr 7 11)]:=⟨⟩
instance(a:SPr)(b:List (List Int))(c:(List Int)×Int)(d:Int):LH (R:=(List Int)) (zRm a b c d) [0,1,8,9,13,14,15] [] (fun e=>[(7,L 1 I e)]) (.xe 2 [8,9] fun f=>[(7,L 1 I f)]):=⟨⟩
instance(b:SPr)(c:List (List Int))(d:(List Int)):LH (R:=(List Int)) (zI0 b c d) [0,1,13,14] [] (fun a=>[(7,L 1 I a.1),(15,I a.2)]) (.xe 0 [0,1,13,14] fun e=>[(7,L 1 I e)]):=⟨⟩
instance t_x:FI J0 284 (∀(a:SPr)(b:List (List Int))(c:List Int),FnK J0 284 [T.ro ((Pt xR) a),T.ro (lM b),T.ro (lV c)] (fun r=>[lV r]) (fun _=>[]) (f_x a b c)):=⟨Tryz.call284,fun a b c=>iM Tryz.func284⟩
instance:HS Tryz.f278.8 [(0,36,0,.nil 35 8),(2,7,0,.tr 5 36),(0,38,0,.tr 37 5),(0,40,0,.tr 39 3),(2,4,0,.tr 3 40)]:=⟨⟩
instance(b:yV):LH (R:=(List (List Int))) (zPP b) [0] [] (fun a=>[(3,L 1 lV a.1),(4,I a.2)]) (.xe 0 [0] fun c=>[(3,L 1 lV c)]):=⟨⟩
instance t_bb:FI J0 278 (∀(a:yV),FnK J0 278 [T.ro ((Pt zIz) a)] (fun r:(List (List Int))=>[lM r]) (fun _=>[]) (zUw a)):=⟨Tryz.call278,fun a=>iM Tryz.func278⟩
instance t_cK:FI J0 211 (∀(a:SPr)(b:List (List Int))(c:List Int),FnK J0 211 [T.ro ((Pt xR) a),T.ro (lM b),T.ro (lV c)] (fun r=>[B r]) (fun _=>[]) (zXs a b c)):=⟨Tryz.call211,fun a b c=>iM Tryz.func211⟩
end
end Go.Wk
