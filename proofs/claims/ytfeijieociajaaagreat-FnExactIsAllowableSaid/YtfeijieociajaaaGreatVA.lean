/- The program's IsAllowable returns what the reference's returns,for all arguments;no conditions. -/
import Derived.Test.YtfeijieociajaaaGreatWT
open Go.Proofs.Tryz renaming prog->J0,underlying22->Lv,call202->Qa,call206->Jaq,call203->Jar,call52->Jby
open Option renaming some->jf,none->jg
open Bool renaming true->jh,false->ji
namespace Go.Wk
open Go Go.Proofs Go.Ab
set_option maxRecDepth 100000
set_option maxHeartbeats 4000000
section
attribute [local irreducible] RW CW DK OkL Ok yR yT wH vK XS.post rng vN vD ixO zS yH wK yG zE GTo zR FnC FnK wX uJ Kp Lk BsL BuL RpL Bk Lc
instance t_bM:FI J0 21 (∀(a:List Int)(b:Int),FnK J0 21 [T.ro (lV a),I b] (fun r=>[I r]) (fun _=>[]) (zWd a b)):=⟨Tryz.call21,fun a b=>iM Tryz.func21⟩
instance(b:List (List Int)):LH (R:=Int) (yAD b) [0] [] (fun a=>[(1,I a.1),(5,I a.2)]) (.xs (.xe 0 [0] fun c=>[(1,I c)]) .xr):=⟨⟩
instance t_bg:FI J0 22 (∀(a:List (List Int))(b:Int),FnK J0 22 [T.ro (lM a),I b] (fun r=>[I r]) (fun _=>[]) (zWe a b)):=⟨Tryz.call22,fun a b=>iM Tryz.func22⟩
instance(b:List (List (List Int))):LH (R:=Int) (yAE b) [0] [] (fun a=>[(1,I a.1),(5,I a.2)]) (.xs (.xe 0 [0] fun c=>[(1,I c)]) .xr):=⟨⟩
instance t_bB:FI J0 23 (∀(a:List (List (List Int)))(b:Int),FnK J0 23 [T.ro (lC a),I b] (fun r=>[I r]) (fun _=>[]) (yCu a b)):=⟨Tryz.call23,fun a b=>iM Tryz.func23⟩
instance t_b2:FI J0 6 (∀(a:SPr)(b:Int),FnK J0 6 [qPr a,I b] (fun r=>[I r]) (fun _=>[]) (zYR a b)):=⟨Tryz.call6,fun a b=>iM Tryz.func6⟩
instance(a b:List Int):LH (R:=Bool) (yAF a b) [0,1] [] (fun c=>[(5,I c)]) (.xs (.xe 0 [0,1] fun _=>[]) .xr):=⟨⟩
instance t_ar:FI J0 164 (∀(a b:List Int),FnK J0 164 [T.ro (lV a),T.ro (lV b)] (fun r=>[B r]) (fun _=>[]) (zLv a b)):=⟨Tryz.call164,fun a b=>iM Tryz.func164⟩
instance:HS Tryz.f53.8 [(2,2,0,.tr 5 7)]:=⟨⟩
instance t_bQ:FI J0 53 (∀(a b:Int),FnK J0 53 [I a,I b] (fun r=>[lV r]) (fun _=>[]) (zWo a b)):=⟨Tryz.call53,fun a b=>iM Tryz.func53⟩
instance(b:SPr):LH (R:=Int) (zXv b) [1] [] (fun a=>[(3,I a.1),(4,I a.2)]) (.xe 0 [1] fun c=>[(3,I c)]):=⟨⟩
instance t_bw:FI J0 61 (∀(a:SPr),FnK J0 61 [qPr a] (fun r=>[I r]) (fun _=>[]) (yC9 a)):=⟨Tryz.call61,fun a=>iM Tryz.func61⟩
instance t_bS:FI J0 129 (∀(a b:Int),FnK J0 129 [I a,I b] (fun r=>[I r]) (fun _=>[]) (zWX a b)):=⟨Tryz.call129,fun a b=>iM Tryz.func129⟩
instance:HS Tryz.f187.8 [(2,2,0,.tr 3 5),(0,17,0,.tr 12 3),(2,4,0,.tr 3 17)]:=⟨⟩
instance(b:List (List Int)):LH (R:=(List Int)) (zNK b) [0] [] (fun a=>[(3,L 1 I a.1),(4,I a.2)]) (.xe 0 [0] fun c=>[(3,L 1 I c)]):=⟨⟩
instance t_aV:FI J0 187 (∀(a:List (List Int)),FnK J0 187 [T.ro (lM a)] (fun r=>[lV r]) (fun _=>[]) (zZp a)):=⟨Tryz.call187,fun a=>iM Tryz.func187⟩
instance(a:List Int):LH (R:=Int) (zIU a) [0] [] (fun b=>[(3,I b)]) (.xs (.xe 0 [] fun _=>[]) .xr):=⟨⟩
instance t_I:FI J0 89 (∀(a:List Int),FnK J0 89 [T.ro (lV a)] (fun r=>[I r]) (fun _=>[]) (f_I a)):=⟨Tryz.call89,fun a=>iM Tryz.func89⟩
instance(a b:Int):LH (R:=Int) (zNC a b) [0,1] [] (fun c=>[(5,I c)]) (.xs (.xe 0 [0,1] fun _=>[]) .xr):=⟨⟩
instance t_aB:FI J0 91 (∀(a b:Int),FnK J0 91 [I a,I b] (fun r=>[I r]) (fun _=>[]) (zWZ a b)):=⟨Tryz.call91,fun a b=>iM Tryz.func91⟩
instance t_aG:FI J0 51 (∀(a:zP),FnK J0 51 [xS a] (fun r=>[wG r]) (fun _=>[]) (zI4 a)):=⟨Tryz.call51,fun a=>iM Tryz.func51⟩
instance:HS Tryz.f26.8 [(2,2,0,.tr 3 7)]:=⟨⟩
instance(b:List Int):LH (R:=(List Int)) (zWf b) [0] [] (fun a=>[(3,L 1 I a.1),(4,I a.2)]) (.xe 0 [0] fun c=>[(3,L 1 I c)]):=⟨⟩
instance t_aN:FI J0 26 (∀(a:List Int),FnK J0 26 [T.ro (lV a)] (fun r=>[lV r]) (fun _=>[]) (zS7 a)):=⟨Tryz.call26,fun a=>iM Tryz.func26⟩
instance:HS Tryz.f27.8 [(2,2,0,.tr 3 7)]:=⟨⟩
instance(b:List (List Int)):LH (R:=(List (List Int))) (zWg b) [0] [] (fun a=>[(3,L 1 lV a.1),(4,I a.2)]) (.xe 0 [0] fun c=>[(3,L 1 lV c)]):=⟨⟩
instance t_ax:FI J0 27 (∀(a:List (List Int)),FnK J0 27 [T.ro (lM a)] (fun r:(List (List Int))=>[lM r]) (fun _=>[]) (zP5 a)):=⟨Tryz.call27,fun a=>iM Tryz.func27⟩
instance:HS Tryz.f28.8 [(2,2,0,.tr 3 7)]:=⟨⟩
instance(b:List (List (List Int))):LH (R:=(List (List (List Int)))) (zWh b) [0] [] (fun a=>[(3,L 1 lM a.1),(4,I a.2)]) (.xe 0 [0] fun c=>[(3,L 1 lM c)]):=⟨⟩
instance t_bh:FI J0 28 (∀(a:List (List (List Int))),FnK J0 28 [T.ro (lC a)] (fun r:(List (List (List Int)))=>[lC r]) (fun _=>[]) (zYS a)):=⟨Tryz.call28,fun a=>iM Tryz.func28⟩
instance:HS Tryz.f8.8 [(1,2,0,.trf 16 0 3 [0,0]),(1,2,1,.trf 16 1 3 [1,0]),(1,2,2,.trf 16 2 3 [2,0])]:=⟨⟩
instance t_bC:FI J0 8 (∀(a:SPr),FnK J0 8 [qPr a] (fun r=>[yW r]) (fun _=>[]) (zS8 a)):=⟨Tryz.call8,fun a=>iM Tryz.func8⟩
instance:HS Tryz.f175.8 [(2,2,0,.tr 9 13)]:=⟨⟩
instance(c:Int)(d:List Int)(e:List (List Int))(f:(List Int)×Int):LH (R:=(List Int)) (zWu c d e f) [0,1,2,10] [] (fun b=>[(9,L 1 I b.1),(11,I b.2)]) (.xe 2 [] fun a=>[(9,L 1 I a)]):=⟨⟩
instance(c:Int)(d:List Int)(e:List (List Int)):LH (R:=(List Int)) (zWv c d e) [0,1,2] [] (fun b=>[(9,L 1 I b.1),(10,I b.2)]) (.xe 0 [0,1,2] fun a=>[(9,L 1 I a)]):=⟨⟩
instance t_R:FI J0 175 (∀(a:Int)(b:List Int)(c:List (List Int))(d:Int),FnK J0 175 [I a,T.ro (lV b),T.ro (lM c),I d] (fun r=>[lV r]) (fun _=>[]) (f_R a b c d)):=⟨Tryz.call175,fun a b c d=>iM Tryz.func175⟩
instance t_b4:FI J0 143 (∀(a:Int),FnK J0 143 [I a] (fun r=>[B r]) (fun _=>[]) (zYT a)):=⟨Tryz.call143,fun a=>iM Tryz.func143⟩
instance t_z:FI J0 85 (∀(a:List Int),FnK J0 85 [T.ro (lV a)] (fun r=>[lV r]) (fun _=>[]) (f_z a)):=⟨Tryz.call85,fun a=>iM Tryz.func85⟩
instance:HS Tryz.f206.8 [(2,3,0,.tr 8 15)]:=⟨⟩
instance(g_a:SPr->Int->(List Int)->(List Int)->Option (List Int))(c:SPr)(d:Int)(e:List Int)(f:(List Int)×Int):LH (R:=(List Int)) (zWm g_a c d e f) [1,2,3,7,9] [] (fun b=>[(8,L 1 I b.1),(10,I b.2)]) (.xe 2 [] fun a=>[(8,L 1 I a)]):=⟨⟩
instance(g_a:SPr->Int->(List Int)->(List Int)->Option (List Int))(c:SPr)(d:Int)(e:List Int):LH (R:=(List Int)) (zWn g_a c d e) [1,2,3,7] [] (fun b=>[(8,L 1 I b.1),(9,I b.2)]) (.xe 0 [1,2,3,7] fun a=>[(8,L 1 I a)]):=⟨⟩
theorem yGd{g_a:SPr->Int->(List Int)->(List Int)->Option (List Int)}[FI J0 202 (∀(x0:SPr)(x1:Int)(x2:List Int)(x3:List Int),FnK J0 202 [qPr x0,I x1,T.ro (lV x2),T.ro (lV x3)] (fun r:(List Int)=>[lV r]) (fun _=>[]) (g_a x0 x1 x2 x3))]:∀(x0:SPr)(x1:Int)(x2:List Int),FnK J0 206 [qPr x0,I x1,T.ro (lV x2)] (fun r:(List Int)=>[lV r]) (fun _=>[]) (b_g g_a x0 x1 x2):=fun x0 x1 x2=>iM Tryz.func206
theorem yGe{g_a:SPr->Int->(List Int)->(List Int)->Option (List Int)}(H_a:∀(x0:SPr)(x1:Int)(x2:List Int)(x3:List Int) r,g_a x0 x1 x2 x3=jf r->FnC J0 202 [qPr x0,I x1,T.ro (lV x2),T.ro (lV x3)] [lV r] [])(x0:SPr)(x1:Int)(x2:List Int)(r:(List Int))(h:b_g g_a x0 x1 x2=jf r):FnC J0 206 [qPr x0,I x1,T.ro (lV x2)] [lV r] []:=by have:FI J0 202 (∀(x0:SPr)(x1:Int)(x2:List Int)(x3:List Int),FnK J0 202 [qPr x0,I x1,T.ro (lV x2),T.ro (lV x3)] (fun r:(List Int)=>[lV r]) (fun _=>[]) (g_a x0 x1 x2 x3)):=⟨Qa,fun x0 x1 x2 x3=>FnK.mk (H_a x0 x1 x2 x3)⟩;exact(yGd x0 x1 x2).go h
instance:HS Tryz.f202.8 [(2,5,0,.tr 10 25),(2,5,1,.tr 11 27),(2,9,0,.tr 10 45),(2,12,0,.tr 13 51),(2,16,0,.tr 13 84),(2,17,0,.tr 15 86)]:=⟨⟩
instance(g_g:SPr->Int->(List Int)->Option (List Int))(b:SPr)(c:Int)(d:List Int):LH (R:=(List Int)) (zYV g_g b c d) [1,2,3,4,11] [] (fun a=>[(10,L 1 I a.1),(12,I a.2)]) (.xe 0 [] fun e=>[(10,L 1 I e)]):=⟨⟩
theorem yGf{g_g:SPr->Int->(List Int)->Option (List Int)}[FI J0 206 (∀(x0:SPr)(x1:Int)(x2:List Int),FnK J0 206 [qPr x0,I x1,T.ro (lV x2)] (fun r:(List Int)=>[lV r]) (fun _=>[]) (g_g x0 x1 x2))]{g_a:SPr->Int->(List Int)->(List Int)->Option (List Int)}[FI J0 202 (∀(x0:SPr)(x1:Int)(x2:List Int)(x3:List Int),FnK J0 202 [qPr x0,I x1,T.ro (lV x2),T.ro (lV x3)] (fun r:(List Int)=>[lV r]) (fun _=>[]) (g_a x0 x1 x2 x3))]:∀(x0:SPr)(x1:Int)(x2:List Int)(x3:List Int),FnK J0 202 [qPr x0,I x1,T.ro (lV x2),T.ro (lV x3)] (fun r:(List Int)=>[lV r]) (fun _=>[]) (b_a g_g g_a x0 x1 x2 x3):=fun x0 x1 x2 x3=>iM Tryz.func202
theorem yGg{g_g:SPr->Int->(List Int)->Option (List Int)}(H_g:∀(x0:SPr)(x1:Int)(x2:List Int) r,g_g x0 x1 x2=jf r->FnC J0 206 [qPr x0,I x1,T.ro (lV x2)] [lV r] []){g_a:SPr->Int->(List Int)->(List Int)->Option (List Int)}(H_a:∀(x0:SPr)(x1:Int)(x2:List Int)(x3:List Int) r,g_a x0 x1 x2 x3=jf r->FnC J0 202 [qPr x0,I x1,T.ro (lV x2),T.ro (lV x3)] [lV r] [])(x0:SPr)(x1:Int)(x2:List Int)(x3:List Int)(r:(List Int))(h:b_a g_g g_a x0 x1 x2 x3=jf r):FnC J0 202 [qPr x0,I x1,T.ro (lV x2),T.ro (lV x3)] [lV r] []:=by have:FI J0 206 (∀(x0:SPr)(x1:Int)(x2:List Int),FnK J0 206 [qPr x0,I x1,T.ro (lV x2)] (fun r:(List Int)=>[lV r]) (fun _=>[]) (g_g x0 x1 x2)):=⟨Jaq,fun x0 x1 x2=>FnK.mk (H_g x0 x1 x2)⟩;have:FI J0 202 (∀(x0:SPr)(x1:Int)(x2:List Int)(x3:List Int),FnK J0 202 [qPr x0,I x1,T.ro (lV x2),T.ro (lV x3)] (fun r:(List Int)=>[lV r]) (fun _=>[]) (g_a x0 x1 x2 x3)):=⟨Qa,fun x0 x1 x2 x3=>FnK.mk (H_a x0 x1 x2 x3)⟩;exact(yGf x0 x1 x2 x3).go h
instance(b:List Int):LH (R:=Int) (zNy b) [0] [] (fun a=>[(3,I a.1),(4,I a.2)]) (.xe 0 [0] fun c=>[(3,I c)]):=⟨⟩
instance t_aQ:FI J0 144 (∀(a:List Int),FnK J0 144 [T.ro (lV a)] (fun r=>[I r]) (fun _=>[]) (zYU a)):=⟨Tryz.call144,fun a=>iM Tryz.func144⟩
instance t_bN:FI J0 162 (∀(a b c:Int),FnK J0 162 [I a,I b,I c] (fun r=>[B r]) (fun _=>[]) (zWi a b c)):=⟨Tryz.call162,fun a b c=>iM Tryz.func162⟩
instance(a b:List Int)(c:Int):LH (R:=Bool) (zR5 a b c) [0,1,2] [] (fun d=>[(7,I d)]) (.xs (.xe 0 [0,1,2] fun _=>[]) .xr):=⟨⟩
instance t_aP:FI J0 145 (∀(a b:List Int)(c:Int),FnK J0 145 [T.ro (lV a),T.ro (lV b),I c] (fun r=>[B r]) (fun _=>[]) (zWj a b c)):=⟨Tryz.call145,fun a b c=>iM Tryz.func145⟩
instance:HS Tryz.f82.8 [(2,2,0,.tr 3 6),(2,6,0,.tr 5 13),(0,19,0,.tr 18 5),(0,20,0,.tr 17 3),(2,4,0,.tr 3 20)]:=⟨⟩
instance(b:Int):LH (R:=(List (List Int))) (zFj b) [0] [] (fun a=>[(3,L 1 lV a.1),(4,I a.2)]) (.xe 0 [0] fun c=>[(3,L 1 lV c)]):=⟨⟩
instance t_v:FI J0 82 (∀(a:Int),FnK J0 82 [I a] (fun r:(List (List Int))=>[lM r]) (fun _=>[]) (f_v a)):=⟨Tryz.call82,fun a=>iM Tryz.func82⟩
instance:HS Tryz.f49.8 [(0,25,0,.trq 21 7 [2,0]),(1,6,0,.trf 27 2 7 [2,0])]:=⟨⟩
instance(a:SPr)(b:Int):LN (zL2 a b) 7:=⟨⟩
instance(c:SPr)(a:Int)(A0 A1 A2:T):LHk (R:=zF) (zL2 c a) (T.ptr (T.agg [A0,A1,A2])) [2,3,6] [] (fun b=>[(7,T.ptr (T.agg [A0,I a,L 1 lM b.1])),(8,I b.2)]) (.xe 0 [2,3] fun d=>[(7,T.ptr (T.agg [A0,I a,L 1 lM d]))]):=⟨⟩
instance t_T:FI J0 49 (∀(a:SPr)(b c:Int),FnK J0 49 [qPr a,I b,I c] (fun r=>[xT r]) (fun _=>[]) (f_T a b c)):=⟨Tryz.call49,fun a b c=>iM Tryz.func49⟩
instance t_cf:FI J0 63 (∀(a:SPr),FnK J0 63 [qPr a] (fun r=>[xT r]) (fun _=>[]) (zZu a)):=⟨Tryz.call63,fun a=>iM Tryz.func63⟩
instance t_bT:FI J0 83 (∀(a:SPr),FnK J0 83 [qPr a] (fun r=>[I r]) (fun _=>[]) (zXa a)):=⟨Tryz.call83,fun a=>iM Tryz.func83⟩
instance t_cl:FI J0 174 (∀(a b c:Int),FnK J0 174 [I a,I b,I c] (fun r=>[I r]) (fun _=>[]) (yC5 a b c)):=⟨Tryz.call174,fun a b c=>iM Tryz.func174⟩
instance(a:SPr):LH (R:=Bool) (zWk a) [1,3] [] (fun b=>[(4,I b)]) (.xs (.xe 0 [] fun _=>[]) .xr):=⟨⟩
instance(a:SPr)(b:Int):LH (R:=Bool) (zWl a b) [1,3,5] [] (fun c=>[(6,I c)]) (.xs (.xe 4 [] fun _=>[]) .xr):=⟨⟩
instance(a:SPr):LH (R:=Bool) (zP6 a) [1,3] [] (fun b=>[(5,I b)]) (.xs (.xe 2 [1,3] fun _=>[]) .xr):=⟨⟩
instance t_w:FI J0 100 (∀(a:SPr),FnK J0 100 [qPr a] (fun r=>[B r]) (fun _=>[]) (f_w a)):=⟨Tryz.call100,fun a=>iM Tryz.func100⟩
end
theorem yEY:∀n,(∀(x0:SPr)(x1:Int)(x2:List Int) r,zP7 n x0 x1 x2=jf r->FnC J0 206 [qPr x0,I x1,T.ro (lV x2)] [lV r] [])/\(∀(x0:SPr)(x1:Int)(x2:List Int)(x3:List Int) r,zP8 n x0 x1 x2 x3=jf r->FnC J0 202 [qPr x0,I x1,T.ro (lV x2),T.ro (lV x3)] [lV r] []):=by
  intro n
  induction n with
  |zero=>exact⟨(fun _ _ _ r h=>by simp[zP7]at h),(fun _ _ _ _ r h=>by simp[zP8]at h)⟩
  |succ n ih=>exact⟨(fun x0 x1 x2 r h=>yGe ih.2 x0 x1 x2 r (by simpa[zP7]using h)),(fun x0 x1 x2 x3 r h=>yGg ih.1 ih.2 x0 x1 x2 x3 r (by simpa[zP8]using h))⟩
theorem u_g(x0:SPr)(x1:Int)(x2:List Int)(r:(List Int))(h:f_g x0 x1 x2=jf r):FnC J0 206 [qPr x0,I x1,T.ro (lV x2)] [lV r] []:=by obtain⟨n,hn⟩:=qL h;exact(yEY n).1 x0 x1 x2 r hn
theorem u_a(x0:SPr)(x1:Int)(x2:List Int)(x3:List Int)(r:(List Int))(h:f_a x0 x1 x2 x3=jf r):FnC J0 202 [qPr x0,I x1,T.ro (lV x2),T.ro (lV x3)] [lV r] []:=by obtain⟨n,hn⟩:=qL h;exact(yEY n).2 x0 x1 x2 x3 r hn
instance t_g:FI J0 206 (∀(a:SPr)(b:Int)(c:List Int),FnK J0 206 [qPr a,I b,T.ro (lV c)] (fun r=>[lV r]) (fun _=>[]) (f_g a b c)):=⟨Jaq,fun a b c=>FnK.mk (u_g a b c)⟩
instance t_a:FI J0 202 (∀(a:SPr)(b:Int)(c d:List Int),FnK J0 202 [qPr a,I b,T.ro (lV c),T.ro (lV d)] (fun r=>[lV r]) (fun _=>[]) (f_a a b c d)):=⟨Qa,fun a b c d=>FnK.mk (u_a a b c d)⟩
section
attribute [local irreducible] RW CW DK OkL Ok yR yT wH vK XS.post rng vN vD ixO zS yH wK yG zE GTo zR FnC FnK wX uJ Kp Lk BsL BuL RpL Bk Lc
instance:HS Tryz.f170.8 [(2,2,0,.tr 9 14),(2,6,0,.tr 9 25),(2,7,0,.tr 10 30)]:=⟨⟩
instance(b:SPr)(c:Int):LH (R:=(List Int)) (zJT b c) [1,4] [] (fun a=>[(3,I a.1),(9,L 1 I a.2.1),(10,T.ro (lV a.2.2))]) (.xe 0 [1,4] fun d=>[(9,L 1 I d)]):=⟨⟩
instance t_af:FI J0 170 (∀(a:SPr)(b:Int)(c:List Int)(d:Int),FnK J0 170 [qPr a,I b,T.ro (lV c),I d] (fun r=>[lV r]) (fun _=>[]) (zNz a b c d)):=⟨Tryz.call170,fun a b c d=>iM Tryz.func170⟩
instance:HS Tryz.f186.8 [(2,7,0,.tr 8 49),(2,17,0,.tr 13 113),(2,26,0,.tr 16 155),(2,28,0,.tr 17 16),(2,28,1,.fz 17),(2,28,2,.res 16 17 []),(2,29,0,.tr 17 169),(2,31,0,.tr 17 16),(2,31,1,.fz 17),(2,31,2,.res 16 17 [])]:=⟨⟩
instance(a:SPr)(b:Int):LH (R:=xG) (zWp a b) [1,2,4,5,6] [] (fun c=>[(7,I c)]) (.xs (.xe 0 [] fun _=>[]) .xr):=⟨⟩
instance(a:SPr)(b c:Int):LH (R:=xG) (zWq a b c) [1,2,4,5,6,9] [] (fun d=>[(10,I d)]) (.xs (.xe 4 [] fun _=>[]) .xr):=⟨⟩
instance(a:SPr)(b:Int):LH (R:=xG) (zWr a b) [1,2,4,5,6] [] (fun c=>[(9,I c)]) (.xs (.xe 2 [] fun _=>[]) .xr):=⟨⟩
instance(c:SPr)(d:Int):LH (R:=xG) (zWs c d) [1,2,4,5,6,14,15,16] [16] (fun a=>[(17,T.ro (lV a.1)),(18,I a.2)]) (.xe 8 [] fun b=>[(17,T.ro (lV b))]):=⟨⟩
instance(c:SPr)(d:Int)(a:List Int):LH (R:=xG) (zWt c d a) [1,2,4,5,6,14] [] (fun b=>[(15,I b)]) (.xs (.xe 6 [1,2,5,6,14] fun _=>[]) .xr):=⟨⟩
instance t_p:FI J0 186 (∀(a:SPr)(b:Int),FnK J0 186 [qPr a,I b] (fun r=>[zGQ r]) (fun _=>[]) (f_p a b)):=⟨Tryz.call186,fun a b=>iM Tryz.func186⟩
instance:HS Tryz.f189.8 [(2,2,0,.tr 5 7),(0,26,0,.tr 17 5),(2,4,0,.tr 5 26)]:=⟨⟩
instance(b:List Int)(c:Int):LH (R:=(List (List Int))) (zNL b c) [0,1] [] (fun a=>[(5,L 1 lV a.1),(6,I a.2)]) (.xe 0 [0,1] fun d=>[(5,L 1 lV d)]):=⟨⟩
instance t_aE:FI J0 189 (∀(a:List Int)(b:Int),FnK J0 189 [T.ro (lV a),I b] (fun r:(List (List Int))=>[lM r]) (fun _=>[]) (zXj a b)):=⟨Tryz.call189,fun a b=>iM Tryz.func189⟩
instance t_bd:FI J0 130 (∀(a:zP)(b c:Int),FnK J0 130 [xS a,I b,I c] (fun r=>[(fun x=>T.agg [(Ro lV) x.x,(Ro lV) x.v]) r]) (fun _=>[]) (zL0 a b c)):=⟨Tryz.call130,fun a b c=>iM Tryz.func130⟩
instance:HS Tryz.f131.8 [(2,2,0,.tr 7 9),(0,36,0,.tr 18 7)]:=⟨⟩
instance(b:zF)(c:List Int)(d:Int):LH (R:=(List Int)) (zD7 b c d) [1,2,3] [] (fun a=>[(7,L 1 I a.1),(8,I a.2)]) (.xe 0 [1,2,3] fun e=>[(7,L 1 I e)]):=⟨⟩
instance t_aa:FI J0 131 (∀(a:zF)(b:List Int)(c:Int),FnK J0 131 [jW a,T.ro (lV b),I c] (fun r=>[lV r]) (fun _=>[]) (zXf a b c)):=⟨Tryz.call131,fun a b c=>iM Tryz.func131⟩
instance t_bs:FI J0 87 (∀(a:zP)(b:Int),FnK J0 87 [xS a,I b] (fun r=>[(fun x=>T.agg [(Ro lV) x.x,(Ro lV) x.v]) r]) (fun _=>[]) (zPJ a b)):=⟨Tryz.call87,fun a b=>iM Tryz.func87⟩
instance t_bZ:FI J0 80 (∀(a:SPr),FnK J0 80 [qPr a] (fun r:(List (List Int))=>[lM r]) (fun _=>[]) (zX6 a)):=⟨Tryz.call80,fun a=>iM Tryz.func80⟩
instance:HS Tryz.f64.8 [(2,2,0,.tr 3 5),(0,19,0,.tr 12 3),(2,4,0,.tr 3 19)]:=⟨⟩
instance(b:List (List Int)):LH (R:=(List (List Int))) (zNJ b) [0] [] (fun a=>[(3,L 1 lV a.1),(4,I a.2)]) (.xe 0 [0] fun c=>[(3,L 1 lV c)]):=⟨⟩
instance t_an:FI J0 64 (∀(a:List (List Int)),FnK J0 64 [T.ro (lM a)] (fun r:(List (List Int))=>[lM r]) (fun _=>[]) (zPM a)):=⟨Tryz.call64,fun a=>iM Tryz.func64⟩
instance:HS Tryz.f50.8 [(2,2,0,.tr 5 9),(2,6,0,.tr 7 16),(0,32,0,.tr 23 7),(2,8,0,.tr 7 32),(0,35,0,.tr 34 7),(0,36,0,.tr 33 5),(2,4,0,.tr 5 36)]:=⟨⟩
instance(b:List (List Int))(c:(List (List Int))×Int):LH (R:=(List (List Int))) (zXz b c) [1,2,5,6] [] (fun a=>[(7,L 1 I a.1),(8,I a.2)]) (.xe 2 [] fun d=>[(7,L 1 I d)]):=⟨⟩
instance(b:SPr)(c:List (List Int)):LH (R:=(List (List Int))) (zX0 b c) [1,2] [] (fun a=>[(5,L 1 lV a.1),(6,I a.2)]) (.xe 0 [1,2] fun d=>[(5,L 1 lV d)]):=⟨⟩
instance t_U:FI J0 50 (∀(a:SPr)(b:List (List Int)),FnK J0 50 [qPr a,T.ro (lM b)] (fun r:(List (List Int))=>[lM r]) (fun _=>[]) (f_U a b)):=⟨Tryz.call50,fun a b=>iM Tryz.func50⟩
instance t_bO:FI J0 119 (∀(a:Int),FnK J0 119 [I a] (fun r=>[B r]) (fun _=>[]) (zWx a)):=⟨Tryz.call119,fun a=>iM Tryz.func119⟩
instance:HS Tryz.f84.8 [(2,2,0,.tr 9 12)]:=⟨⟩
instance(b c:Int)(d:List Int):LH (R:=(List Int)) (zWY b c d) [0,2,3] [] (fun a=>[(9,L 1 I a.1),(10,I a.2)]) (.xe 0 [0,2,3] fun e=>[(9,L 1 I e)]):=⟨⟩
instance t_x:FI J0 84 (∀(a:Int)(b:List Int)(c:Int)(d:List Int),FnK J0 84 [I a,T.ro (lV b),I c,T.ro (lV d)] (fun r=>[lV r]) (fun _=>[]) (f_x a b c d)):=⟨Tryz.call84,fun a b c d=>iM Tryz.func84⟩
instance t_bi:FI J0 207 (∀(a:zF)(b:List (List Int))(c:List Int)(d:Int),FnK J0 207 [jW a,T.ro (lM b),T.ro (lV c),I d] (fun r=>[lV r]) (fun _=>[]) (zNF a b c d)):=⟨Tryz.call207,fun a b c d=>iM Tryz.func207⟩
instance:HS Tryz.f208.8 [(2,6,0,.tr 2 29)]:=⟨⟩
instance(b:zF)(c:List (List Int))(d:List Int)(e:(List Int)×Int):LH (R:=(List Int)) (zXc b c d e) [1,3,4,9] [] (fun a=>[(2,T.ro (lV a.1)),(10,I a.2)]) (.xe 2 [] fun f=>[(2,T.ro (lV f))]):=⟨⟩
instance(b:zF)(c:List (List Int))(d:List Int):LH (R:=(List Int)) (zXd b c d) [1,3,4] [] (fun a=>[(2,T.ro (lV a.1)),(9,I a.2)]) (.xe 0 [1,3,4] fun e=>[(2,T.ro (lV e))]):=⟨⟩
instance t_S:FI J0 208 (∀(a:zF)(b:List (List Int))(c d:List Int),FnK J0 208 [jW a,T.ro (lM b),T.ro (lV c),T.ro (lV d)] (fun r=>[T.ro (lV r)]) (fun _=>[]) (f_S a b c d)):=⟨Tryz.call208,fun a b c d=>iM Tryz.func208⟩
instance:HS Tryz.f188.8 [(2,3,0,.tr 8 22),(2,4,0,.tr 9 23),(2,5,0,.fz 8),(2,10,0,.tr 11 43),(0,62,0,.tr 44 9),(2,13,0,.fz 8),(2,20,0,.tr 15 83),(0,102,0,.fz 90),(0,113,0,.tr 103 9),(2,18,0,.tr 9 113)]:=⟨⟩
instance(b:SPr)(c:zF)(d:List (List Int))(e:(List (List Int))×Int):LH (R:=(List (List Int))) (zXk b c d e) [2,3,4,7,8,9,10] [] (fun a=>[(11,T.ro (lV a.1)),(12,I a.2)]) (.xe 2 [] fun f=>[(11,T.ro (lV f))]):=⟨⟩
instance(c:SPr)(d:zF)(e:List (List Int))(f:Nat):LH (R:=(List (List Int))) (zXl c d e f) [2,3,4,7,8] [8] (fun b=>[(9,L 1 lV b.1),(10,I b.2)]) (.xe 0 [] fun a=>[(9,L 1 lV a)]):=⟨⟩
instance(d:SPr)(e:zF)(f:List (List Int))(g:Nat)(b:(List (List Int))×Int):LH (R:=(List (List Int))) (zXm d e f g b) [2,3,4,7,8,13] [] (fun a=>[(9,L 1 lV a.1),(14,I a.2)]) (.xe 6 [] fun c=>[(9,L 1 lV c)]):=⟨⟩
instance(c:SPr)(d:zF)(e:List (List Int))(f:Nat):LH (R:=(List (List Int))) (zXn c d e f) [2,3,4,7,8] [] (fun a=>[(9,L 1 lV a.1),(13,I a.2)]) (.xe 4 [2,3,4,7,8] fun b=>[(9,L 1 lV b)]):=⟨⟩
instance t_s:FI J0 188 (∀(a:SPr)(b:zF)(c:List (List Int)),FnK J0 188 [qPr a,jW b,T.ro (lM c)] (fun r:(List (List Int))=>[lM r]) (fun _=>[]) (f_s a b c)):=⟨Tryz.call188,fun a b c=>iM Tryz.func188⟩
instance:HS Tryz.f88.8 [(2,2,0,.tr 7 11)]:=⟨⟩
instance(c:Int)(d:List (List Int)):LH (R:=(List Int)) (zNB c d) [0,1] [] (fun b=>[(7,L 1 I b.1),(8,I b.2)]) (.xe 0 [0,1] fun a=>[(7,L 1 I a)]):=⟨⟩
instance t_as:FI J0 88 (∀(a:Int)(b:List (List Int))(c:List Int),FnK J0 88 [I a,T.ro (lM b),T.ro (lV c)] (fun r=>[lV r]) (fun _=>[]) (zSG a b c)):=⟨Tryz.call88,fun a b c=>iM Tryz.func88⟩
instance(a:SPr):LH (R:=xG) (zN0 a) [1,2] [] (fun b=>[(3,I b)]) (.xs (.xe 0 [1] fun _=>[]) .xr):=⟨⟩
instance t_a9:FI J0 146 (∀(a:SPr),FnK J0 146 [qPr a] (fun r=>[zGQ r]) (fun _=>[]) (yCv a)):=⟨Tryz.call146,fun a=>iM Tryz.func146⟩
instance t_ck:FI J0 101 (∀(a:SPr),FnK J0 101 [qPr a] (fun r=>[B r]) (fun _=>[]) (yCw a)):=⟨Tryz.call101,fun a=>iM Tryz.func101⟩
instance t_bF:FI J0 59 (∀(a:SPr),FnK J0 59 [qPr a] (fun r=>[B r]) (fun _=>[]) (zS9 a)):=⟨Tryz.call59,fun a=>iM Tryz.func59⟩
instance(a:SPr):LH (R:=Bool) (yAG a) [1] [] (fun b=>[(3,I b)]) (.xs (.xe 0 [1] fun _=>[]) .xr):=⟨⟩
instance t_bu:FI J0 60 (∀(a:SPr),FnK J0 60 [qPr a] (fun r=>[B r]) (fun _=>[]) (zZs a)):=⟨Tryz.call60,fun a=>iM Tryz.func60⟩
instance t_cd:FI J0 34 (∀(a:SPr),FnK J0 34 [qPr a] (fun r=>[I r]) (fun _=>[]) (zZt a)):=⟨Tryz.call34,fun a=>iM Tryz.func34⟩
instance t_bD:FI J0 122 (∀(a b c:Int),FnK J0 122 [I a,I b,I c] (fun r=>[B r]) (fun _=>[]) (zSA a b c)):=⟨Tryz.call122,fun a b c=>iM Tryz.func122⟩
instance(a:SPr)(b:List Int):LH (R:=Bool) (zR7 a b) [0,15,16] [] (fun c=>[(17,I c)]) (.xs (.xe 0 [0,15,16] fun _=>[]) .xr):=⟨⟩
instance t_a6:FI J0 165 (∀(a:SPr)(b:List Int),FnK J0 165 [T.ro ((Pt yW) a),T.ro (lV b)] (fun r=>[B r]) (fun _=>[]) (zYX a b)):=⟨Tryz.call165,fun a b=>iM Tryz.func165⟩
instance(a:List Int):LH (R:=Bool) (zJU a) [5,6] [] (fun b=>[(7,I b)]) (.xs (.xe 0 [5,6] fun _=>[]) .xr):=⟨⟩
instance t_aq:FI J0 157 (∀(a:List Int),FnK J0 157 [T.ro (lV a)] (fun r=>[B r]) (fun _=>[]) (zWy a)):=⟨Tryz.call157,fun a=>iM Tryz.func157⟩
instance t_bP:FI J0 120 (∀(a:SPr)(b:Int)(c:List Int),FnK J0 120 [T.ro ((Pt yW) a),I b,T.ro (lV c)] (fun r=>[B r]) (fun _=>[]) (zWz a b c)):=⟨Tryz.call120,fun a b c=>iM Tryz.func120⟩
instance(b:SPr):LH (R:=Bool) (zP9 b) [1,3,30,31] [] (fun a=>[(4,I a.1),(32,I a.2)]) (.xs (.xe 0 [30,31] fun _=>[]) .xr):=⟨⟩
instance(b:SPr)(c:Int)(a:List (List Int)):LH (R:=Bool) (zW0 b c a) [1,3,7,49,50,78,79] [] (fun d=>[(80,I d)]) (.xs (.xe 4 [7,78,79] fun _=>[]) .xr):=⟨⟩
instance(a:SPr):LH (R:=Bool) (zPA a) [1,3,49] [] (fun b=>[(50,I b)]) (.xs (.xe 2 [1,3,49] fun _=>[]) .xr):=⟨⟩
instance t_u:FI J0 74 (∀(a:SPr),FnK J0 74 [qPr a] (fun r=>[B r]) (fun _=>[]) (f_u a)):=⟨Tryz.call74,fun a=>iM Tryz.func74⟩
instance:HS Tryz.f147.8 [(2,3,0,.tr 6 15),(2,7,0,.tr 8 22),(0,36,0,.tr 26 6)]:=⟨⟩
instance(b:SPr)(c:zF)(d:Int):LH (R:=(List (List Int))) (zNM b c d) [2,3,5] [] (fun a=>[(6,L 1 lV a.1),(7,I a.2)]) (.xe 0 [2,3,5] fun e=>[(6,L 1 lV e)]):=⟨⟩
instance t_a0:FI J0 147 (∀(a:SPr)(b:zF),FnK J0 147 [qPr a,jW b] (fun r:(List (List Int))=>[lM r]) (fun _=>[]) (zZq a b)):=⟨Tryz.call147,fun a b=>iM Tryz.func147⟩
instance:HS Tryz.f52.8 [(2,7,0,.fi 1 9),(2,10,0,.fi 1 9),(2,16,0,.tr 14 111),(0,119,0,.tr 116 14),(0,119,1,.trq 118 12 [1,0])]:=⟨⟩
instance(g_h:zP->Int->zC->Option zC)(c:zP)(d:Int)(e:zC):LH (R:=zC) (zSL g_h c d e) [1,4,6,7,8,10] [] (fun b=>[(9,T.ptr (T.agg [T.ro (lV b.1),T.ro (lV b.2.1)])),(11,I b.2.2)]) (.xe 0 [] fun a=>[(9,T.ptr (T.agg [T.ro (lV a.1),T.ro (lV a.2)]))]):=⟨⟩
theorem yGh{g_h:zP->Int->zC->Option zC}[FI J0 86 (∀(x0:zP)(x1:Int)(x2:zC),FnK J0 86 [xS x0,I x1,xI x2] (fun r:zC=>[wG r]) (fun _=>[]) (g_h x0 x1 x2))]{g_b:zP->Int->zC->zC->Option zC}[FI J0 52 (∀(x0:zP)(x1:Int)(x2:zC)(x3:zC),FnK J0 52 [xS x0,I x1,xI x2,xI x3] (fun r:zC=>[wG r]) (fun _=>[]) (g_b x0 x1 x2 x3))]:∀(x0:zP)(x1:Int)(x2:zC)(x3:zC),FnK J0 52 [xS x0,I x1,xI x2,xI x3] (fun r:zC=>[wG r]) (fun _=>[]) (b_b g_h g_b x0 x1 x2 x3):=fun x0 x1 x2 x3=>iM Tryz.func52
theorem yGi{g_h:zP->Int->zC->Option zC}(H_h:∀(x0:zP)(x1:Int)(x2:zC) r,g_h x0 x1 x2=jf r->FnC J0 86 [xS x0,I x1,xI x2] [wG r] []){g_b:zP->Int->zC->zC->Option zC}(H_b:∀(x0:zP)(x1:Int)(x2:zC)(x3:zC) r,g_b x0 x1 x2 x3=jf r->FnC J0 52 [xS x0,I x1,xI x2,xI x3] [wG r] [])(x0:zP)(x1:Int)(x2:zC)(x3:zC)(r:zC)(h:b_b g_h g_b x0 x1 x2 x3=jf r):FnC J0 52 [xS x0,I x1,xI x2,xI x3] [wG r] []:=by have:FI J0 86 (∀(x0:zP)(x1:Int)(x2:zC),FnK J0 86 [xS x0,I x1,xI x2] (fun r:zC=>[wG r]) (fun _=>[]) (g_h x0 x1 x2)):=⟨Tryz.call86,fun x0 x1 x2=>FnK.mk (H_h x0 x1 x2)⟩;have:FI J0 52 (∀(x0:zP)(x1:Int)(x2:zC)(x3:zC),FnK J0 52 [xS x0,I x1,xI x2,xI x3] (fun r:zC=>[wG r]) (fun _=>[]) (g_b x0 x1 x2 x3)):=⟨Jby,fun x0 x1 x2 x3=>FnK.mk (H_b x0 x1 x2 x3)⟩;exact(yGh x0 x1 x2 x3).go h
instance t_b6:FI J0 90 (∀(a b:Int)(c:List Int),FnK J0 90 [I a,I b,T.ro (lV c)] (fun r=>[lV r]) (fun _=>[]) (zZe a b c)):=⟨Tryz.call90,fun a b c=>iM Tryz.func90⟩
instance:HS Tryz.f55.8 [(2,2,0,.tr 5 12),(2,6,0,.tr 7 25),(0,7,0,.fz 40),(2,10,0,.tr 9 41),(0,62,0,.tr 59 9),(2,15,0,.tr 9 62),(0,80,0,.fz 79),(0,81,0,.tr 63 9),(0,87,0,.tr 84 9),(2,19,0,.tr 9 87),(2,4,0,.tr 5 9)]:=⟨⟩
instance(c:Int)(d:(List (List Int))×Int)(e:Int)(f:(List Int)):LH (R:=(List (List Int))) (zIV c d e f) [0,1,5,6,7,8] [] (fun b=>[(9,L 1 (Ro lV) b.1),(10,B b.2.1),(11,I b.2.2)]) (.xe 2 [5,8] fun a=>[(9,L 1 (Ro lV) a.1),(10,B a.2)]):=⟨⟩
instance(c:Int)(d:List (List Int)):LH (R:=(List (List Int))) (zSH c d) [0,1] [] (fun b=>[(5,L 1 (Ro lV) b.1),(6,I b.2)]) (.xe 0 [0,1] fun a=>[(5,L 1 (Ro lV) a)]):=⟨⟩
instance t_q:FI J0 55 (∀(a:Int)(b:List (List Int)),FnK J0 55 [I a,T.ro (lM b)] (fun r:(List (List Int))=>[(L 1 (Ro lV)) r]) (fun _=>[]) (f_q a b)):=⟨Tryz.call55,fun a b=>iM Tryz.func55⟩
instance:HS Tryz.f191.8 [(2,2,0,.tr 5 10),(2,3,0,.tr 6 11),(0,30,0,.tr 18 6),(0,33,0,.fz 6),(0,33,1,.res 32 6 [])]:=⟨⟩
instance(b:List (List Int))(c:(List (List Int))):LH (R:=(List (List Int))) (zND b c) [0,1,5] [] (fun a=>[(6,L 1 lV a.1),(7,I a.2)]) (.xe 0 [1,5] fun d=>[(6,L 1 lV d)]):=⟨⟩
instance t_aY:FI J0 191 (∀(a:Int)(b:List (List Int)),FnK J0 191 [I a,T.ro (lM b)] (fun r:(List (List Int))=>[(L 1 (Ro lV)) r]) (fun _=>[]) (zZf a b)):=⟨Tryz.call191,fun a b=>iM Tryz.func191⟩
instance:HS Tryz.f149.8 [(2,2,0,.tr 7 12),(2,3,0,.tr 8 13),(0,36,0,.tr 27 8),(2,5,0,.tr 8 36)]:=⟨⟩
instance(c:Int)(d:(List (List Int))):LH (R:=(List (List Int))) (zJW c d) [2,7] [] (fun b=>[(8,L 1 lV b.1),(9,I b.2)]) (.xe 0 [2,7] fun a=>[(8,L 1 lV a)]):=⟨⟩
instance t_aD:FI J0 149 (∀(a:Int)(b:List (List Int))(c:Int),FnK J0 149 [I a,T.ro (lM b),I c] (fun r:(List (List Int))=>[lM r]) (fun _=>[]) (zZg a b c)):=⟨Tryz.call149,fun a b c=>iM Tryz.func149⟩
end
theorem u_B(x0:List Int)(r:(List Int))(h:f_B x0=jf r):FnC J0 58 [T.ro (lV x0)] [lV r] []:=by
 refine fB Tryz.func58 (fun St W w0 v=>?_);refine sR (oP (zDv 1 rfl) ?_);refine rN (CW.seq (sR (xN ?_)));refine RW.isnil Lv (zAp rfl rfl) (.inl rfl) rfl rfl (fun b1 db=>?_);refine rN (CW.cond _ rfl (fun hc=>?_) (fun hc=>?_));have hx:=db hc;subst hx;have h:jf ([])=jf r:=by simpa[yH,f_B]using h
 refine sR (oP (zDv 1 rfl) ?_);refine rN (CW.ret (rA ?_));obtain rfl:=sI h;exact rT;refine CW.skip (nA (sR (oP (zUf elt_22 rfl) ?_)));refine xN ?_;obtain⟨v2,cu,h⟩:=bd h;refine oP (zH0 (f:=I) (g:=I) elt_22 (fun _=>rfl) (fun _=>rfl) inferInstance cu rfl (zAp rfl rfl) rfl) ?_;refine uQ ?_;refine RW.ghost (zR.tr 2 7 _ rfl rfl (yL (xE (Enc.clean (f:=I)))) rfl) ?_;refine rN (CW.ret ?_);obtain rfl:=sI h;exact rT
instance t_B:FI J0 58 (∀(a:List Int),FnK J0 58 [T.ro (lV a)] (fun r=>[lV r]) (fun _=>[]) (f_B a)):=⟨Tryz.call58,fun a=>FnK.mk (u_B a)⟩
section
attribute [local irreducible] RW CW DK OkL Ok yR yT wH vK XS.post rng vN vD ixO zS yH wK yG zE GTo zR FnC FnK wX uJ Kp Lk BsL BuL RpL Bk Lc
instance:HS Tryz.f181.8 [(2,1,0,.tr 6 14),(3,2,0,.tr 58 6)]:=⟨⟩
instance(b:Int)(c:(List Int)):LH (R:=(List Int)) (zW1 b c) [0,2,6,16] [] (fun a=>[(1,L 1 I a.1),(17,I a.2)]) (.xe 0 [16] fun d=>[(1,L 1 I d)]):=⟨⟩
instance(g_c:SPr->(List Int)->(List Int)->Option (List Int))(d:SPr)(e:Int)(f:(List Int)×Int)(a:Int):LH (R:=(List Int)) (yCy g_c d e f a) [0,2,8,58,59,60,65] [] (fun c=>[(1,L 1 I c.1),(66,I c.2)]) (.xe 4 [8,65] fun b=>[(1,L 1 I b)]):=⟨⟩
instance(g_c:SPr->(List Int)->(List Int)->Option (List Int))(c:SPr)(d:Int)(e:(List Int)):LH (R:=(List Int)) (yCz g_c c d e) [0,2,58,59] [] (fun b=>[(1,L 1 I b.1),(60,I b.2)]) (.xe 2 [0,2,58,59] fun a=>[(1,L 1 I a)]):=⟨⟩
instance(g_c:SPr->(List Int)->(List Int)->Option (List Int))(e:SPr)(f:Int)(b:(List Int)×Int)(c:Int):LH (R:=(List Int)) (yC0 g_c e f b c) [0,2,8,58,59,60,65] [] (fun a=>[(1,L 1 I a.1),(66,I a.2)]) (.xe 4 [8,65] fun d=>[(1,L 1 I d)]):=⟨⟩
instance(g_c:SPr->(List Int)->(List Int)->Option (List Int))(c:SPr)(d:Int)(e:(List Int)):LH (R:=(List Int)) (yC1 g_c c d e) [0,2,58,59] [] (fun a=>[(1,L 1 I a.1),(60,I a.2)]) (.xe 2 [0,2,58,59] fun b=>[(1,L 1 I b)]):=⟨⟩
theorem yGj{g_c:SPr->(List Int)->(List Int)->Option (List Int)}[FI J0 139 (∀(x0:SPr)(x1:List Int)(x2:List Int),FnK J0 139 [T.ro ((Pt yW) x0),L 1 I x1,T.ro (lV x2)] (fun _:(List Int)=>[]) (fun r=>[(1,lV r)]) (g_c x0 x1 x2))]:∀(x0:SPr)(x1:List Int)(x2:Int),FnK J0 181 [T.ro ((Pt yW) x0),L 1 I x1,I x2] (fun _:(List Int)=>[]) (fun r=>[(1,lV r)]) (b_d g_c x0 x1 x2):=fun x0 x1 x2=>iM Tryz.func181
theorem yGk{g_c:SPr->(List Int)->(List Int)->Option (List Int)}(H_c:∀(x0:SPr)(x1:List Int)(x2:List Int) r,g_c x0 x1 x2=jf r->FnC J0 139 [T.ro ((Pt yW) x0),L 1 I x1,T.ro (lV x2)] [] [(1,lV r)])(x0:SPr)(x1:List Int)(x2:Int)(r:(List Int))(h:b_d g_c x0 x1 x2=jf r):FnC J0 181 [T.ro ((Pt yW) x0),L 1 I x1,I x2] [] [(1,lV r)]:=by have:FI J0 139 (∀(x0:SPr)(x1:List Int)(x2:List Int),FnK J0 139 [T.ro ((Pt yW) x0),L 1 I x1,T.ro (lV x2)] (fun _:(List Int)=>[]) (fun r=>[(1,lV r)]) (g_c x0 x1 x2)):=⟨Tryz.call139,fun x0 x1 x2=>FnK.mk (H_c x0 x1 x2)⟩;exact(yGj x0 x1 x2).go h
instance:HS Tryz.f86.8 [(0,53,0,.trq 40 7 [0,0])]:=⟨⟩
instance(g_b:zP->Int->zC->zC->Option zC)(c:zP)(d:Int)(e:zC)(f:(List Int)×(List Int)×Int):LH (R:=zC) (zZi g_b c d e f) [1,3,5,6,8] [] (fun a=>[(7,T.ptr (T.agg [L 1 I a.1,L 1 I a.2.1])),(9,I a.2.2)]) (.xe 2 [] fun b=>[(7,T.ptr (T.agg [L 1 I b.1,L 1 I b.2]))]):=⟨⟩
instance(g_b:zP->Int->zC->zC->Option zC)(c:zP)(d:Int)(e:zC):LH (R:=zC) (zXg g_b c d e) [1,3,5,6] [] (fun b=>[(7,T.ptr (T.agg [L 1 I b.1,L 1 I b.2.1])),(8,I b.2.2)]) (.xe 0 [] fun a=>[(7,T.ptr (T.agg [L 1 I a.1,L 1 I a.2]))]):=⟨⟩
theorem yGl{g_b:zP->Int->zC->zC->Option zC}[FI J0 52 (∀(x0:zP)(x1:Int)(x2:zC)(x3:zC),FnK J0 52 [xS x0,I x1,xI x2,xI x3] (fun r:zC=>[wG r]) (fun _=>[]) (g_b x0 x1 x2 x3))]:∀(x0:zP)(x1:Int)(x2:zC),FnK J0 86 [xS x0,I x1,xI x2] (fun r:zC=>[wG r]) (fun _=>[]) (b_h g_b x0 x1 x2):=fun x0 x1 x2=>iM Tryz.func86
theorem yGm{g_b:zP->Int->zC->zC->Option zC}(H_b:∀(x0:zP)(x1:Int)(x2:zC)(x3:zC) r,g_b x0 x1 x2 x3=jf r->FnC J0 52 [xS x0,I x1,xI x2,xI x3] [wG r] [])(x0:zP)(x1:Int)(x2:zC)(r:zC)(h:b_h g_b x0 x1 x2=jf r):FnC J0 86 [xS x0,I x1,xI x2] [wG r] []:=by have:FI J0 52 (∀(x0:zP)(x1:Int)(x2:zC)(x3:zC),FnK J0 52 [xS x0,I x1,xI x2,xI x3] (fun r:zC=>[wG r]) (fun _=>[]) (g_b x0 x1 x2 x3)):=⟨Jby,fun x0 x1 x2 x3=>FnK.mk (H_b x0 x1 x2 x3)⟩;exact(yGl x0 x1 x2).go h
instance t_aH:FI J0 54 (∀(a:zP)(b c:zC),FnK J0 54 [xS a,xI b,xI c] (fun r=>[lV r]) (fun _=>[]) (zI5 a b c)):=⟨Tryz.call54,fun a b c=>iM Tryz.func54⟩
instance t_a1:FI J0 200 (∀(a:SPr)(b c:List Int),FnK J0 200 [qPr a,T.ro (lV b),T.ro (lV c)] (fun r=>[lV r]) (fun _=>[]) (zIX a b c)):=⟨Tryz.call200,fun a b c=>iM Tryz.func200⟩
instance:HS Tryz.f203.8 [(2,5,0,.tr 8 20),(2,7,0,.tr 9 28),(2,10,0,.tr 10 36)]:=⟨⟩
theorem yGn{g_j:SPr->Int->(List Int)->Option (List Int)}[FI J0 203 (∀(x0:SPr)(x1:Int)(x2:List Int),FnK J0 203 [qPr x0,I x1,T.ro (lV x2)] (fun r:(List Int)=>[lV r]) (fun _=>[]) (g_j x0 x1 x2))]:∀(x0:SPr)(x1:Int)(x2:List Int),FnK J0 203 [qPr x0,I x1,T.ro (lV x2)] (fun r:(List Int)=>[lV r]) (fun _=>[]) (b_j g_j x0 x1 x2):=fun x0 x1 x2=>iM Tryz.func203
theorem yGo{g_j:SPr->Int->(List Int)->Option (List Int)}(H_j:∀(x0:SPr)(x1:Int)(x2:List Int) r,g_j x0 x1 x2=jf r->FnC J0 203 [qPr x0,I x1,T.ro (lV x2)] [lV r] [])(x0:SPr)(x1:Int)(x2:List Int)(r:(List Int))(h:b_j g_j x0 x1 x2=jf r):FnC J0 203 [qPr x0,I x1,T.ro (lV x2)] [lV r] []:=by have:FI J0 203 (∀(x0:SPr)(x1:Int)(x2:List Int),FnK J0 203 [qPr x0,I x1,T.ro (lV x2)] (fun r:(List Int)=>[lV r]) (fun _=>[]) (g_j x0 x1 x2)):=⟨Jar,fun x0 x1 x2=>FnK.mk (H_j x0 x1 x2)⟩;exact(yGn x0 x1 x2).go h
end
theorem yGp:∀n,(∀(x0:SPr)(x1:Int)(x2:List Int) r,zPC n x0 x1 x2=jf r->FnC J0 203 [qPr x0,I x1,T.ro (lV x2)] [lV r] []):=by
  intro n
  induction n with
  |zero=>exact(fun _ _ _ r h=>by simp[zPC]at h)
  |succ n ih=>exact(fun x0 x1 x2 r h=>yGo ih x0 x1 x2 r (by simpa[zPC]using h))
theorem u_j(x0:SPr)(x1:Int)(x2:List Int)(r:(List Int))(h:f_j x0 x1 x2=jf r):FnC J0 203 [qPr x0,I x1,T.ro (lV x2)] [lV r] []:=by obtain⟨n,hn⟩:=qL h;exact(yGp n) x0 x1 x2 r hn
instance t_j:FI J0 203 (∀(a:SPr)(b:Int)(c:List Int),FnK J0 203 [qPr a,I b,T.ro (lV c)] (fun r=>[lV r]) (fun _=>[]) (f_j a b c)):=⟨Jar,fun a b c=>FnK.mk (u_j a b c)⟩
section
attribute [local irreducible] RW CW DK OkL Ok yR yT wH vK XS.post rng vN vD ixO zS yH wK yG zE GTo zR FnC FnK wX uJ Kp Lk BsL BuL RpL Bk Lc
instance t_bK:FI J0 171 (∀(a:SPr)(b:List Int),FnK J0 171 [qPr a,T.ro (lV b)] (fun r=>[lV r]) (fun _=>[]) (zSF a b)):=⟨Tryz.call171,fun a b=>iM Tryz.func171⟩
instance t_by:FI J0 168 (∀(a:SPr)(b c:List Int),FnK J0 168 [qPr a,T.ro (lV b),T.ro (lV c)] (fun r=>[lV r]) (fun _=>[]) (zPT a b c)):=⟨Tryz.call168,fun a b c=>iM Tryz.func168⟩
instance t_aK:FI J0 127 (∀(a:SPr)(b:List Int)(c:Int),FnK J0 127 [qPr a,T.ro (lV b),I c] (fun r=>[lV r]) (fun _=>[]) (zI8 a b c)):=⟨Tryz.call127,fun a b c=>iM Tryz.func127⟩
instance:HS Tryz.f172.8 [(2,2,0,.tr 8 11)]:=⟨⟩
instance(c:SPr)(d:List (List Int)):LH (R:=Int×(List Int)) (zNT c d) [1,3] [] (fun b=>[(8,L 1 I b.1),(9,I b.2)]) (.xs (.xe 0 [3] fun a=>[(8,L 1 I a)]) .xr):=⟨⟩
instance t_a2:FI J0 172 (∀(a:SPr)(b:List (List Int))(c:List Int),FnK J0 172 [qPr a,T.ro (lM b),T.ro (lV c)] (fun r:Int×(List Int)=>[I r.1,lV r.2]) (fun _=>[]) (zZy a b c)):=⟨Tryz.call172,fun a b c=>iM Tryz.func172⟩
end
end Go.Wk
