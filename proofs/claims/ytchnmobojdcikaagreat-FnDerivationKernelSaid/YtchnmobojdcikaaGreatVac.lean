/- x -/
import Derived.Test.YtchnmobojdcikaaGreatWT
open Go.Proofs.Tryz renaming prog→J0,underlying24→Ld,call233→Qi
open Option renaming some→dS,none→dT
open Bool renaming true→dU,false→dV
namespace Go.Wk
open Go Go.Proofs Go.Ab
set_option maxRecDepth 100000
set_option maxHeartbeats 4000000
section
attribute [local irreducible] RW CW DK OkL Ok zU zY yO yZ XS.post rng xC yL ixO zL zX yM zV zE GTo zK FnC FnK xJ xQ Kp Lk BsL BuL RpL Bk Lc JQ AK
instance t_e:FI J0 112 (∀(a:zD)(b:Int),FnK J0 112 [T.ptr (wO a),I b] (fun r=>[I r.1]) (fun r=>[(0,(Pt (fun x=>T.agg [(Ro (L 1 (IK .u8))) x.code,I x.at_,I x.seed])) r.2)]) (f_e a b)):=⟨Tryz.call112,fun a b=>iM Tryz.func112⟩
instance t_ak:FI J0 203 (∀(a:zD)(b:List Int),FnK J0 203 [T.ptr (wO a),T.ro (lV b)] (fun r=>[I r.1]) (fun r=>[(0,(Pt (fun x=>T.agg [(Ro (L 1 (IK .u8))) x.code,I x.at_,I x.seed])) r.2)]) (zDL a b)):=⟨Tryz.call203,fun a b=>iM Tryz.func203⟩
instance:HS Tryz.f329.8 [(2,2,0,.tr 7 11)]:=⟨⟩
instance(b:List Int):LH (R:=(List Int)) (zU2 b) [0] [] (fun a=>[(2,I a.1),(7,L 1 I a.2.1),(8,I a.2.2)]) (.xe 0 [0] fun c=>[(7,L 1 I c)]):=⟨⟩
instance t_bn:FI J0 329 (∀(a:List Int)(b c:Int),FnK J0 329 [T.ro (lV a),I b,I c] (fun r=>[lV r]) (fun _=>[]) (zRo a b c)):=⟨Tryz.call329,fun a b c=>iM Tryz.func329⟩
instance(c:Int):LH (R:=Int) (zU3 c) [2] [] (fun a=>[(0,I a.1),(1,I a.2.1),(7,I a.2.2)]) (.xe 0 [2] fun b=>[(7,I b)]):=⟨⟩
instance t_bF:FI J0 330 (∀(a b c:Int),FnK J0 330 [I a,I b,I c] (fun r=>[I r]) (fun _=>[]) (zU4 a b c)):=⟨Tryz.call330,fun a b c=>iM Tryz.func330⟩
instance:HS Tryz.f139.8 [(2,2,0,.tr 9 13)]:=⟨⟩
instance(c:Int)(d:List Int)(e:List (List Int))(f:(List Int)×Int):LH (R:=(List Int)) (zQN c d e f) [0,1,2,10] [] (fun b=>[(9,L 1 I b.1),(11,I b.2)]) (.xe 2 [] fun a=>[(9,L 1 I a)]):=⟨⟩
instance(c:Int)(d:List Int)(e:List (List Int)):LH (R:=(List Int)) (zOo c d e) [0,1,2] [] (fun b=>[(9,L 1 I b.1),(10,I b.2)]) (.xe 0 [0,1,2] fun a=>[(9,L 1 I a)]):=⟨⟩
instance t_z:FI J0 139 (∀(a:Int)(b:List Int)(c:List (List Int))(d:Int),FnK J0 139 [I a,T.ro (lV b),T.ro (lM c),I d] (fun r=>[lV r]) (fun _=>[]) (f_z a b c d)):=⟨Tryz.call139,fun a b c d=>iM Tryz.func139⟩
instance:HS Tryz.f244.8 [(2,2,0,.tr 9 11),(0,28,0,.tr 18 9),(2,4,0,.tr 9 28)]:=⟨⟩
instance(b:Int)(c:List (List Int))(d:List (List Int))(e:Int):LH (R:=(List (List Int))) (zOp b c d e) [0,1,2,3] [] (fun a=>[(9,L 1 lV a.1),(10,I a.2)]) (.xe 0 [0,1,2,3] fun f=>[(9,L 1 lV f)]):=⟨⟩
instance t_U:FI J0 244 (∀(a:Int)(b:List (List Int))(c:List (List Int))(d:Int),FnK J0 244 [I a,T.ro (lM b),T.ro (lM c),I d] (fun r:(List (List Int))=>[lM r]) (fun _=>[]) (f_U a b c d)):=⟨Tryz.call244,fun a b c d=>iM Tryz.func244⟩
instance:HS Tryz.f341.8 [(2,2,0,.tr 6 9)]:=⟨⟩
instance(c:List Int):LH (R:=(List Int)×Bool) (zUE c) [1] [] (fun b=>[(6,L 1 I b.1),(7,I b.2)]) (.xs (.xe 0 [1] fun a=>[(6,L 1 I a)]) .xr):=⟨⟩
instance t_bT:FI J0 341 (∀(a:Int)(b:List Int),FnK J0 341 [I a,T.ro (lV b)] (fun r:(List Int)×Bool=>[lV r.1,B r.2]) (fun _=>[]) (zWK a b)):=⟨Tryz.call341,fun a b=>iM Tryz.func341⟩
instance(a:List Int):LH (R:=Bool) (zZF a) [0] [] (fun b=>[(3,I b)]) (.xs (.xe 0 [0] fun _=>[]) .xr):=⟨⟩
instance t_Q:FI J0 208 (∀(a:List Int),FnK J0 208 [T.ro (lV a)] (fun r=>[B r]) (fun _=>[]) (f_Q a)):=⟨Tryz.call208,fun a=>iM Tryz.func208⟩
instance:HS Tryz.f345.8 [(2,2,0,.tr 3 6),(0,25,0,.tr 21 3),(2,7,0,.tr 3 25)]:=⟨⟩
instance(b:List Int)(c:(List Int)×Int):LH (R:=(List Int)) (zUG b c) [0,4] [] (fun a=>[(3,L 1 I a.1),(5,I a.2)]) (.xe 2 [] fun d=>[(3,L 1 I d)]):=⟨⟩
instance(b:List Int):LH (R:=(List Int)) (zPU b) [0] [] (fun a=>[(3,L 1 I a.1),(4,I a.2)]) (.xe 0 [0] fun c=>[(3,L 1 I c)]):=⟨⟩
instance t_aw:FI J0 345 (∀(a:List Int),FnK J0 345 [T.ro (lV a)] (fun r=>[lV r]) (fun _=>[]) (zUH a)):=⟨Tryz.call345,fun a=>iM Tryz.func345⟩
instance(a b:List Int):LH (R:=Bool) (zTs a b) [0,1] [] (fun c=>[(5,I c)]) (.xs (.xe 0 [0,1] fun _=>[]) .xr):=⟨⟩
instance t_ab:FI J0 231 (∀(a b:List Int),FnK J0 231 [T.ro (lV a),T.ro (lV b)] (fun r=>[B r]) (fun _=>[]) (zFX a b)):=⟨Tryz.call231,fun a b=>iM Tryz.func231⟩
instance(a:SPr)(b c:Int):LH (R:=Bool) (zUM a b c) [1,2,5] [] (fun d=>[(6,I d)]) (.xs (.xe 2 [] fun _=>[]) .xr):=⟨⟩
instance(a:SPr)(b:Int):LH (R:=Bool) (zUN a b) [1,2] [] (fun c=>[(5,I c)]) (.xs (.xe 0 [1,2] fun _=>[]) .xr):=⟨⟩
instance t_aJ:FI J0 230 (∀(a:SPr)(b:Int),FnK J0 230 [qPr a,I b] (fun r=>[B r]) (fun _=>[]) (zUO a b)):=⟨Tryz.call230,fun a b=>iM Tryz.func230⟩
instance:HS Tryz.f241.8 [(2,2,0,.tr 3 6),(2,6,0,.tr 5 13),(0,19,0,.tr 18 5),(0,20,0,.tr 17 3),(2,4,0,.tr 3 20)]:=⟨⟩
instance(b:Int):LH (R:=(List (List Int))) (zIw b) [0] [] (fun a=>[(3,L 1 lV a.1),(4,I a.2)]) (.xe 0 [0] fun c=>[(3,L 1 lV c)]):=⟨⟩
instance t_u:FI J0 241 (∀(a:Int),FnK J0 241 [I a] (fun r:(List (List Int))=>[lM r]) (fun _=>[]) (f_u a)):=⟨Tryz.call241,fun a=>iM Tryz.func241⟩
instance:HS Tryz.f256.8 [(0,25,0,.trq 21 7 [2,0]),(1,6,0,.trf 27 2 7 [2,0])]:=⟨⟩
instance(a:SPr)(b:Int):LN (zJL a b) 7:=⟨⟩
instance(c:SPr)(a:Int)(A0 A1 A2:T):LHk (R:=zB) (zJL c a) (T.ptr (T.agg [A0,A1,A2])) [2,3,6] [] (fun b=>[(7,T.ptr (T.agg [A0,I a,L 1 lM b.1])),(8,I b.2)]) (.xe 0 [2,3] fun d=>[(7,T.ptr (T.agg [A0,I a,L 1 lM d]))]):=⟨⟩
instance t_a0:FI J0 256 (∀(a:SPr)(b c:Int),FnK J0 256 [qPr a,I b,I c] (fun r=>[yX r]) (fun _=>[]) (zUr a b c)):=⟨Tryz.call256,fun a b c=>iM Tryz.func256⟩
instance:HS Tryz.f140.8 [(2,2,0,.tr 5 10)]:=⟨⟩
instance(b:zB)(c:List Int)(d:(List (List Int))×Int):LH (R:=(List (List Int))) (zTy b c d) [1,2,6] [] (fun a=>[(5,L 1 lV a.1),(7,I a.2)]) (.xe 2 [] fun e=>[(5,L 1 lV e)]):=⟨⟩
instance(b:zB)(c:List Int):LH (R:=(List (List Int))) (zTz b c) [1,2] [] (fun a=>[(5,L 1 lV a.1),(6,I a.2)]) (.xe 0 [1,2] fun d=>[(5,L 1 lV d)]):=⟨⟩
instance t_O:FI J0 140 (∀(a:zB)(b:List Int),FnK J0 140 [xD a,T.ro (lV b)] (fun r:(List (List Int))=>[lM r]) (fun _=>[]) (f_O a b)):=⟨Tryz.call140,fun a b=>iM Tryz.func140⟩
instance(a:List (List Int))(b:List (List Int)):LH (R:=Bool) (zT0 a b) [0,1] [] (fun c=>[(5,I c)]) (.xs (.xe 0 [0,1] fun _=>[]) .xr):=⟨⟩
instance t_bO:FI J0 297 (∀(a:List (List Int))(b:List (List Int)),FnK J0 297 [T.ro (lM a),T.ro (lM b)] (fun r=>[B r]) (fun _=>[]) (zWv a b)):=⟨Tryz.call297,fun a b=>iM Tryz.func297⟩
instance:HS Tryz.f129.8 [(2,2,0,.tr 5 7),(0,20,0,.tr 14 5),(2,4,0,.tr 5 20),(0,26,0,.tr 24 5),(2,8,0,.tr 5 26)]:=⟨⟩
instance(c:zB):LH (R:=(List Int)×zD) (zUS c) [3] [] (fun a=>[(0,T.ptr (T.agg [T.ro ((L 1 (IK .u8)) a.1),I a.2.1,I a.2.2.1])),(5,L 1 I a.2.2.2.1),(6,I a.2.2.2.2)]) (.xe 0 [3] fun b=>[(0,T.ptr (T.agg [T.ro ((L 1 (IK .u8)) b.1),I b.2.1,I b.2.2.1])),(5,L 1 I b.2.2.2)]):=⟨⟩
instance t_be:FI J0 129 (∀(a:zD)(b:zB),FnK J0 129 [T.ptr (wO a),xD b] (fun r:(List Int)×zD=>[lV r.1]) (fun r=>[(0,(Pt (fun x=>T.agg [(Ro (L 1 (IK .u8))) x.code,I x.at_,I x.seed])) r.2)]) (zO9 a b)):=⟨Tryz.call129,fun a b=>iM Tryz.func129⟩
instance(a:List Int):LH (R:=Int) (zIC a) [0] [] (fun b=>[(3,I b)]) (.xs (.xe 0 [] fun _=>[]) .xr):=⟨⟩
instance t_M:FI J0 250 (∀(a:List Int),FnK J0 250 [T.ro (lV a)] (fun r=>[I r]) (fun _=>[]) (f_M a)):=⟨Tryz.call250,fun a=>iM Tryz.func250⟩
instance:HS Tryz.f107.8 [(2,2,0,.tr 3 5),(0,17,0,.tr 12 3),(2,4,0,.tr 3 17)]:=⟨⟩
instance(b:List (List Int)):LH (R:=(List Int)) (zMQ b) [0] [] (fun a=>[(3,L 1 I a.1),(4,I a.2)]) (.xe 0 [0] fun c=>[(3,L 1 I c)]):=⟨⟩
instance t_aS:FI J0 107 (∀(a:List (List Int)),FnK J0 107 [T.ro (lM a)] (fun r=>[lV r]) (fun _=>[]) (zRa a)):=⟨Tryz.call107,fun a=>iM Tryz.func107⟩
instance t_bw:FI J0 233 (∀(a:Int),FnK J0 233 [I a] (fun r=>[B r]) (fun _=>[]) (zQO a)):=⟨Qi,fun a=>iM Tryz.func233⟩
instance(a:List Int):LH (R:=Bool) (zM2 a) [5,6] [] (fun b=>[(7,I b)]) (.xs (.xe 0 [5,6] fun _=>[]) .xr):=⟨⟩
instance t_y:FI J0 207 (∀(a:List Int),FnK J0 207 [T.ro (lV a)] (fun r=>[B r]) (fun _=>[]) (f_y a)):=⟨Tryz.call207,fun a=>iM Tryz.func207⟩
end
theorem u_K(x0:List Int)(r:(List Int))(h:f_K x0=dS r):FnC J0 227 [T.ro (lV x0)] [lV r] []:=by
 refine fB Tryz.func227 (fun St W w0 v=>?_);refine sR (oP (zA9 1 rfl) ?_);refine rN (CW.seq (sR (xZ ?_)));refine RW.isnil Ld (jO rfl rfl) (.inl rfl) rfl rfl (fun b1 bX=>?_);refine rN (CW.cond _ rfl (fun hc=>?_) (fun hc=>?_));have hx:=bX hc;subst hx;have h:dS ([])=dS r:=by simpa[zX,f_K]using h
 refine sR (oP (zA9 1 rfl) ?_);refine rN (CW.ret (rA ?_));obtain rfl:=sI h;exact rT;refine CW.skip (nA (sR (oP (zSe elt_24 rfl) ?_)));refine xZ ?_;obtain⟨v2,ch,h⟩:=bd h;refine oP (zKl (f:=I) (g:=I) elt_24 (fun _=>rfl) (fun _=>rfl) inferInstance ch rfl (jO rfl rfl) rfl) ?_;refine uD ?_;refine RW.ghost (zK.tr 2 7 _ rfl rfl (wL (vE (Enc.clean (f:=I)))) rfl) ?_;refine rN (CW.ret ?_);obtain rfl:=sI h;exact rT
instance t_K:FI J0 227 (∀(a:List Int),FnK J0 227 [T.ro (lV a)] (fun r=>[lV r]) (fun _=>[]) (f_K a)):=⟨Tryz.call227,fun a=>FnK.mk (u_K a)⟩
section
attribute [local irreducible] RW CW DK OkL Ok zU zY yO yZ XS.post rng xC yL ixO zL zX yM zV zE GTo zK FnC FnK xJ xQ Kp Lk BsL BuL RpL Bk Lc JQ AK
instance:HS Tryz.f298.8 [(2,1,0,.tr 6 14),(3,2,0,.tr 58 6)]:=⟨⟩
instance(b:Int)(c:(List Int)):LH (R:=(List Int)) (zT7 b c) [0,2,6,16] [] (fun a=>[(1,L 1 I a.1),(17,I a.2)]) (.xe 0 [16] fun d=>[(1,L 1 I d)]):=⟨⟩
instance(g_b:SPr→(List Int)→(List Int)→Option (List Int))(d:SPr)(e:Int)(f:(List Int)×Int)(a:Int):LH (R:=(List Int)) (zZ8 g_b d e f a) [0,2,8,58,59,60,65] [] (fun c=>[(1,L 1 I c.1),(66,I c.2)]) (.xe 4 [8,65] fun b=>[(1,L 1 I b)]):=⟨⟩
instance(g_b:SPr→(List Int)→(List Int)→Option (List Int))(c:SPr)(d:Int)(e:(List Int)):LH (R:=(List Int)) (zZ9 g_b c d e) [0,2,58,59] [] (fun b=>[(1,L 1 I b.1),(60,I b.2)]) (.xe 2 [0,2,58,59] fun a=>[(1,L 1 I a)]):=⟨⟩
instance(g_b:SPr→(List Int)→(List Int)→Option (List Int))(e:SPr)(f:Int)(b:(List Int)×Int)(c:Int):LH (R:=(List Int)) (zZA g_b e f b c) [0,2,8,58,59,60,65] [] (fun a=>[(1,L 1 I a.1),(66,I a.2)]) (.xe 4 [8,65] fun d=>[(1,L 1 I d)]):=⟨⟩
instance(g_b:SPr→(List Int)→(List Int)→Option (List Int))(c:SPr)(d:Int)(e:(List Int)):LH (R:=(List Int)) (zZB g_b c d e) [0,2,58,59] [] (fun a=>[(1,L 1 I a.1),(60,I a.2)]) (.xe 2 [0,2,58,59] fun b=>[(1,L 1 I b)]):=⟨⟩
theorem yCS{g_b:SPr→(List Int)→(List Int)→Option (List Int)}[FI J0 246 (∀(x0:SPr)(x1:List Int)(x2:List Int),FnK J0 246 [T.ro ((Pt xR) x0),L 1 I x1,T.ro (lV x2)] (fun _:(List Int)=>[]) (fun r=>[(1,lV r)]) (g_b x0 x1 x2))]:∀(x0:SPr)(x1:List Int)(x2:Int),FnK J0 298 [T.ro ((Pt xR) x0),L 1 I x1,I x2] (fun _:(List Int)=>[]) (fun r=>[(1,lV r)]) (b_c g_b x0 x1 x2):=fun x0 x1 x2=>iM Tryz.func298
theorem yCT{g_b:SPr→(List Int)→(List Int)→Option (List Int)}(H_b:∀(x0:SPr)(x1:List Int)(x2:List Int) r,g_b x0 x1 x2=dS r→FnC J0 246 [T.ro ((Pt xR) x0),L 1 I x1,T.ro (lV x2)] [] [(1,lV r)])(x0:SPr)(x1:List Int)(x2:Int)(r:(List Int))(h:b_c g_b x0 x1 x2=dS r):FnC J0 298 [T.ro ((Pt xR) x0),L 1 I x1,I x2] [] [(1,lV r)]:=by have:FI J0 246 (∀(x0:SPr)(x1:List Int)(x2:List Int),FnK J0 246 [T.ro ((Pt xR) x0),L 1 I x1,T.ro (lV x2)] (fun _:(List Int)=>[]) (fun r=>[(1,lV r)]) (g_b x0 x1 x2)):=⟨Tryz.call246,fun x0 x1 x2=>FnK.mk (H_b x0 x1 x2)⟩;exact(yCS x0 x1 x2).go h
end
end Go.Wk
