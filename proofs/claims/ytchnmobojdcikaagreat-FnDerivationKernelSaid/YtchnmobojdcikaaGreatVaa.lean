/- x -/
import Derived.Test.YtchnmobojdcikaaGreatWT
open Go.Proofs.Tryz renaming prog→J0,call247→Uq,call299→Jac,call114→Jb6
open Option renaming some→dS,none→dT
open Bool renaming true→dU,false→dV
namespace Go.Wk
open Go Go.Proofs Go.Ab
set_option maxRecDepth 100000
set_option maxHeartbeats 4000000
section
attribute [local irreducible] RW CW DK OkL Ok zU zY yO yZ XS.post rng xC yL ixO zL zX yM zV zE GTo zK FnC FnK xJ xQ Kp Lk BsL BuL RpL Bk Lc JQ AK
instance t_bV:FI J0 15 (∀(a:List Int),FnK J0 15 [T.ro ((L 1 (IK .u8)) a)] (fun r=>[B r]) (fun _=>[]) (zNf a)):=⟨Tryz.call15,fun a=>iM Tryz.func15⟩
instance t_q:FI J0 121 (∀(a:List Int),FnK J0 121 [T.ro (lV a)] (fun r=>[lV r]) (fun _=>[]) (f_q a)):=⟨Tryz.call121,fun a=>iM Tryz.func121⟩
instance:HS Tryz.f168.8 [(2,2,0,.tr 5 7)]:=⟨⟩
instance t_a3:FI J0 168 (∀(a b:Int),FnK J0 168 [I a,I b] (fun r=>[lV r]) (fun _=>[]) (zIv a b)):=⟨Tryz.call168,fun a b=>iM Tryz.func168⟩
instance:HS Tryz.f289.8 [(0,23,0,.trq 19 4 [1,0]),(2,8,0,.tr 6 25),(0,38,0,.tr 33 6),(2,10,0,.tr 6 38),(0,42,0,.tr 41 6),(0,43,0,.trq 40 4 [2,0]),(1,2,0,.trf 45 0 4 [0,0]),(1,2,1,.trf 45 1 4 [1,0]),(1,2,2,.trf 45 2 4 [2,0])]:=⟨⟩
instance(b:List Int):LH (R:=SPr) (zRn b) [2,3,4,5] [] (fun a=>[(6,L 1 lV a.1),(7,I a.2)]) (.xe 2 [] fun c=>[(6,L 1 lV c)]):=⟨⟩
instance(a:List Int):LN (zKO a) 4:=⟨⟩
instance(c:List Int)(A0 A1 A2:T):LHk (R:=SPr) (zKO c) (T.ptr (T.agg [A0,A1,A2])) [2,3] [] (fun b=>[(4,T.ptr (T.agg [A0,L 1 lV b.1,L 1 lM b.2.1])),(5,I b.2.2)]) (.xe 0 [3] fun a=>[(4,T.ptr (T.agg [A0,L 1 lV a.1,L 1 lM a.2]))]):=⟨⟩
instance t_p:FI J0 289 (∀(a:List Int),FnK J0 289 [T.ro (lV a)] (fun r=>[xR r]) (fun _=>[]) (f_p a)):=⟨Tryz.call289,fun a=>iM Tryz.func289⟩
instance:HS Tryz.f248.8 [(2,2,0,.tr 3 5),(0,19,0,.tr 12 3),(2,4,0,.tr 3 19)]:=⟨⟩
instance(b:List (List Int)):LH (R:=(List (List Int))) (zQW b) [0] [] (fun a=>[(3,L 1 lV a.1),(4,I a.2)]) (.xe 0 [0] fun c=>[(3,L 1 lV c)]):=⟨⟩
instance t_V:FI J0 248 (∀(a:List (List Int)),FnK J0 248 [T.ro (lM a)] (fun r:(List (List Int))=>[lM r]) (fun _=>[]) (f_V a)):=⟨Tryz.call248,fun a=>iM Tryz.func248⟩
instance(b:ByteArray):LH (R:=Int) (zUB b) [0] [] (fun a=>[(3,I a.1),(4,I a.2)]) (.xs (.xe 0 [0] fun c=>[(3,I c)]) .xr):=⟨⟩
instance(c:ByteArray):LH (R:=Int) (zUC c) [0] [] (fun b=>[(3,I b.1),(4,I b.2)]) (.xs (.xe 0 [0] fun a=>[(3,I a)]) .xr):=⟨⟩
instance t_aZ:FI J0 339 (∀(a:ByteArray),FnK J0 339 [Str a] (fun r=>[I r]) (fun _=>[]) (zWH a)):=⟨Tryz.call339,fun a=>iM Tryz.func339⟩
instance:HS Tryz.f290.8 [(0,28,0,.trq 20 3 [2,0]),(1,2,0,.trf 30 0 3 [0,0]),(1,2,1,.trf 30 1 3 [1,0]),(1,2,2,.trf 30 2 3 [2,0])]:=⟨⟩
instance(a:SPr):LN (zGu a) 3:=⟨⟩
instance(b:SPr)(A0 A1 A2:T):LHk (R:=SPr) (zGu b) (T.ptr (T.agg [A0,A1,A2])) [1,2] [] (fun a=>[(3,T.ptr (T.agg [A0,A1,L 1 lM a.1])),(4,I a.2)]) (.xe 0 [1] fun c=>[(3,T.ptr (T.agg [A0,A1,L 1 lM c]))]):=⟨⟩
instance t_ad:FI J0 290 (∀(a:SPr),FnK J0 290 [qPr a] (fun r=>[xR r]) (fun _=>[]) (zNh a)):=⟨Tryz.call290,fun a=>iM Tryz.func290⟩
instance:HS Tryz.f344.8 [(2,4,0,.tr 3 8),(0,29,0,.tr 20 3),(2,6,0,.tr 3 29),(2,6,1,.tr 3 39),(0,39,0,.tr 30 3)]:=⟨⟩
instance(c:List Int):LH (R:=ByteArray) (zUF c) [0] [] (fun b=>[(3,L 1 (IK .u8) b.1),(4,I b.2)]) (.xe 0 [0] fun a=>[(3,L 1 (IK .u8) a)]):=⟨⟩
instance t_bp:FI J0 344 (∀(a:List Int),FnK J0 344 [T.ro (lV a)] (fun r=>[Str r]) (fun _=>[]) (zRq a)):=⟨Tryz.call344,fun a=>iM Tryz.func344⟩
instance t_ca:FI J0 343 (∀(a:Int),FnK J0 343 [I a] (fun r=>[Str r]) (fun _=>[]) (zRr a)):=⟨Tryz.call343,fun a=>iM Tryz.func343⟩
instance:HS Tryz.f299.8 [(2,3,0,.tr 8 15)]:=⟨⟩
instance(g_a:SPr→Int→(List Int)→(List Int)→Option (List Int))(c:SPr)(d:Int)(e:List Int)(f:(List Int)×Int):LH (R:=(List Int)) (zTq g_a c d e f) [1,2,3,7,9] [] (fun b=>[(8,L 1 I b.1),(10,I b.2)]) (.xe 2 [] fun a=>[(8,L 1 I a)]):=⟨⟩
instance(g_a:SPr→Int→(List Int)→(List Int)→Option (List Int))(c:SPr)(d:Int)(e:List Int):LH (R:=(List Int)) (zTr g_a c d e) [1,2,3,7] [] (fun b=>[(8,L 1 I b.1),(9,I b.2)]) (.xe 0 [1,2,3,7] fun a=>[(8,L 1 I a)]):=⟨⟩
theorem yCJ{g_a:SPr→Int→(List Int)→(List Int)→Option (List Int)}[FI J0 247 (∀(x0:SPr)(x1:Int)(x2:List Int)(x3:List Int),FnK J0 247 [qPr x0,I x1,T.ro (lV x2),T.ro (lV x3)] (fun r:(List Int)=>[lV r]) (fun _=>[]) (g_a x0 x1 x2 x3))]:∀(x0:SPr)(x1:Int)(x2:List Int),FnK J0 299 [qPr x0,I x1,T.ro (lV x2)] (fun r:(List Int)=>[lV r]) (fun _=>[]) (b_d g_a x0 x1 x2):=fun x0 x1 x2=>iM Tryz.func299
theorem yCK{g_a:SPr→Int→(List Int)→(List Int)→Option (List Int)}(H_a:∀(x0:SPr)(x1:Int)(x2:List Int)(x3:List Int) r,g_a x0 x1 x2 x3=dS r→FnC J0 247 [qPr x0,I x1,T.ro (lV x2),T.ro (lV x3)] [lV r] [])(x0:SPr)(x1:Int)(x2:List Int)(r:(List Int))(h:b_d g_a x0 x1 x2=dS r):FnC J0 299 [qPr x0,I x1,T.ro (lV x2)] [lV r] []:=by have:FI J0 247 (∀(x0:SPr)(x1:Int)(x2:List Int)(x3:List Int),FnK J0 247 [qPr x0,I x1,T.ro (lV x2),T.ro (lV x3)] (fun r:(List Int)=>[lV r]) (fun _=>[]) (g_a x0 x1 x2 x3)):=⟨Uq,fun x0 x1 x2 x3=>FnK.mk (H_a x0 x1 x2 x3)⟩;exact(yCJ x0 x1 x2).go h
instance:HS Tryz.f247.8 [(2,5,0,.tr 10 25),(2,5,1,.tr 11 27),(2,9,0,.tr 10 45),(2,12,0,.tr 13 51),(2,16,0,.tr 13 84),(2,17,0,.tr 15 86)]:=⟨⟩
instance(g_d:SPr→Int→(List Int)→Option (List Int))(b:SPr)(c:Int)(d:List Int):LH (R:=(List Int)) (zWt g_d b c d) [1,2,3,4,11] [] (fun a=>[(10,L 1 I a.1),(12,I a.2)]) (.xe 0 [] fun e=>[(10,L 1 I e)]):=⟨⟩
theorem yCL{g_d:SPr→Int→(List Int)→Option (List Int)}[FI J0 299 (∀(x0:SPr)(x1:Int)(x2:List Int),FnK J0 299 [qPr x0,I x1,T.ro (lV x2)] (fun r:(List Int)=>[lV r]) (fun _=>[]) (g_d x0 x1 x2))]{g_a:SPr→Int→(List Int)→(List Int)→Option (List Int)}[FI J0 247 (∀(x0:SPr)(x1:Int)(x2:List Int)(x3:List Int),FnK J0 247 [qPr x0,I x1,T.ro (lV x2),T.ro (lV x3)] (fun r:(List Int)=>[lV r]) (fun _=>[]) (g_a x0 x1 x2 x3))]:∀(x0:SPr)(x1:Int)(x2:List Int)(x3:List Int),FnK J0 247 [qPr x0,I x1,T.ro (lV x2),T.ro (lV x3)] (fun r:(List Int)=>[lV r]) (fun _=>[]) (b_a g_d g_a x0 x1 x2 x3):=fun x0 x1 x2 x3=>iM Tryz.func247
theorem yCM{g_d:SPr→Int→(List Int)→Option (List Int)}(H_d:∀(x0:SPr)(x1:Int)(x2:List Int) r,g_d x0 x1 x2=dS r→FnC J0 299 [qPr x0,I x1,T.ro (lV x2)] [lV r] []){g_a:SPr→Int→(List Int)→(List Int)→Option (List Int)}(H_a:∀(x0:SPr)(x1:Int)(x2:List Int)(x3:List Int) r,g_a x0 x1 x2 x3=dS r→FnC J0 247 [qPr x0,I x1,T.ro (lV x2),T.ro (lV x3)] [lV r] [])(x0:SPr)(x1:Int)(x2:List Int)(x3:List Int)(r:(List Int))(h:b_a g_d g_a x0 x1 x2 x3=dS r):FnC J0 247 [qPr x0,I x1,T.ro (lV x2),T.ro (lV x3)] [lV r] []:=by have:FI J0 299 (∀(x0:SPr)(x1:Int)(x2:List Int),FnK J0 299 [qPr x0,I x1,T.ro (lV x2)] (fun r:(List Int)=>[lV r]) (fun _=>[]) (g_d x0 x1 x2)):=⟨Jac,fun x0 x1 x2=>FnK.mk (H_d x0 x1 x2)⟩;have:FI J0 247 (∀(x0:SPr)(x1:Int)(x2:List Int)(x3:List Int),FnK J0 247 [qPr x0,I x1,T.ro (lV x2),T.ro (lV x3)] (fun r:(List Int)=>[lV r]) (fun _=>[]) (g_a x0 x1 x2 x3)):=⟨Uq,fun x0 x1 x2 x3=>FnK.mk (H_a x0 x1 x2 x3)⟩;exact(yCL x0 x1 x2 x3).go h
end
theorem yBS:∀n,(∀(x0:SPr)(x1:Int)(x2:List Int) r,zOm n x0 x1 x2=dS r→FnC J0 299 [qPr x0,I x1,T.ro (lV x2)] [lV r] [])∧(∀(x0:SPr)(x1:Int)(x2:List Int)(x3:List Int) r,zOn n x0 x1 x2 x3=dS r→FnC J0 247 [qPr x0,I x1,T.ro (lV x2),T.ro (lV x3)] [lV r] []):=by
  intro n
  induction n with
  |zero=>exact⟨(fun _ _ _ r h=>by simp[zOm]at h),(fun _ _ _ _ r h=>by simp[zOn]at h)⟩
  |succ n ih=>exact⟨(fun x0 x1 x2 r h=>yCK ih.2 x0 x1 x2 r (by simpa[zOm]using h)),(fun x0 x1 x2 x3 r h=>yCM ih.1 ih.2 x0 x1 x2 x3 r (by simpa[zOn]using h))⟩
theorem u_d(x0:SPr)(x1:Int)(x2:List Int)(r:(List Int))(h:f_d x0 x1 x2=dS r):FnC J0 299 [qPr x0,I x1,T.ro (lV x2)] [lV r] []:=by obtain⟨n,hn⟩:=kH h;exact(yBS n).1 x0 x1 x2 r hn
theorem u_a(x0:SPr)(x1:Int)(x2:List Int)(x3:List Int)(r:(List Int))(h:f_a x0 x1 x2 x3=dS r):FnC J0 247 [qPr x0,I x1,T.ro (lV x2),T.ro (lV x3)] [lV r] []:=by obtain⟨n,hn⟩:=kH h;exact(yBS n).2 x0 x1 x2 x3 r hn
instance t_d:FI J0 299 (∀(a:SPr)(b:Int)(c:List Int),FnK J0 299 [qPr a,I b,T.ro (lV c)] (fun r=>[lV r]) (fun _=>[]) (f_d a b c)):=⟨Jac,fun a b c=>FnK.mk (u_d a b c)⟩
instance t_a:FI J0 247 (∀(a:SPr)(b:Int)(c d:List Int),FnK J0 247 [qPr a,I b,T.ro (lV c),T.ro (lV d)] (fun r=>[lV r]) (fun _=>[]) (f_a a b c d)):=⟨Uq,fun a b c d=>FnK.mk (u_a a b c d)⟩
section
attribute [local irreducible] RW CW DK OkL Ok zU zY yO yZ XS.post rng xC yL ixO zL zX yM zV zE GTo zK FnC FnK xJ xQ Kp Lk BsL BuL RpL Bk Lc JQ AK
instance:HS Tryz.f312.8 [(2,2,0,.tr 9 14),(2,6,0,.tr 9 25),(2,7,0,.tr 10 30)]:=⟨⟩
instance(b:SPr)(c:Int):LH (R:=(List Int)) (zJD b c) [1,4] [] (fun a=>[(3,I a.1),(9,L 1 I a.2.1),(10,T.ro (lV a.2.2))]) (.xe 0 [1,4] fun d=>[(9,L 1 I d)]):=⟨⟩
instance t_an:FI J0 312 (∀(a:SPr)(b:Int)(c:List Int)(d:Int),FnK J0 312 [qPr a,I b,T.ro (lV c),I d] (fun r=>[lV r]) (fun _=>[]) (zMz a b c d)):=⟨Tryz.call312,fun a b c d=>iM Tryz.func312⟩
instance t_ch:FI J0 162 (∀(a b:Int),FnK J0 162 [I a,I b] (fun r=>[I r]) (fun _=>[]) (zUb a b)):=⟨Tryz.call162,fun a b=>iM Tryz.func162⟩
instance:HS Tryz.f109.8 [(2,2,0,.tr 9 12)]:=⟨⟩
instance(b c:Int)(d:List Int):LH (R:=(List Int)) (zUc b c d) [0,2,3] [] (fun a=>[(9,L 1 I a.1),(10,I a.2)]) (.xe 0 [0,2,3] fun e=>[(9,L 1 I e)]):=⟨⟩
instance t_F:FI J0 109 (∀(a:Int)(b:List Int)(c:Int)(d:List Int),FnK J0 109 [I a,T.ro (lV b),I c,T.ro (lV d)] (fun r=>[lV r]) (fun _=>[]) (f_F a b c d)):=⟨Tryz.call109,fun a b c d=>iM Tryz.func109⟩
instance(a b:Int):LH (R:=Int) (zMJ a b) [0,1] [] (fun c=>[(5,I c)]) (.xs (.xe 0 [0,1] fun _=>[]) .xr):=⟨⟩
instance t_a7:FI J0 252 (∀(a b:Int),FnK J0 252 [I a,I b] (fun r=>[I r]) (fun _=>[]) (zUd a b)):=⟨Tryz.call252,fun a b=>iM Tryz.func252⟩
instance t_cj:FI J0 251 (∀(a b:Int)(c:List Int),FnK J0 251 [I a,I b,T.ro (lV c)] (fun r=>[lV r]) (fun _=>[]) (zUe a b c)):=⟨Tryz.call251,fun a b c=>iM Tryz.func251⟩
instance:HS Tryz.f188.8 [(2,2,0,.tr 5 7),(0,26,0,.tr 17 5),(2,4,0,.tr 5 26)]:=⟨⟩
instance(b:List Int)(c:Int):LH (R:=(List (List Int))) (zMW b c) [0,1] [] (fun a=>[(5,L 1 lV a.1),(6,I a.2)]) (.xe 0 [0,1] fun d=>[(5,L 1 lV d)]):=⟨⟩
instance t_ar:FI J0 188 (∀(a:List Int)(b:Int),FnK J0 188 [T.ro (lV a),I b] (fun r:(List (List Int))=>[lM r]) (fun _=>[]) (zKK a b)):=⟨Tryz.call188,fun a b=>iM Tryz.func188⟩
instance t_bv:FI J0 114 (∀(a b c:Int),FnK J0 114 [I a,I b,I c] (fun r=>[B r]) (fun _=>[]) (zOq a b c)):=⟨Jb6,fun a b c=>iM Tryz.func114⟩
instance(a:SPr)(b:List Int):LH (R:=Bool) (zPK a b) [0,15,16] [] (fun c=>[(17,I c)]) (.xs (.xe 0 [0,15,16] fun _=>[]) .xr):=⟨⟩
instance t_ae:FI J0 131 (∀(a:SPr)(b:List Int),FnK J0 131 [T.ro ((Pt xR) a),T.ro (lV b)] (fun r=>[B r]) (fun _=>[]) (zIx a b)):=⟨Tryz.call131,fun a b=>iM Tryz.func131⟩
instance(g_c:SPr→(List Int)→Int→Option (List Int))(b:SPr)(c:(List Int)×Int)(d:Int):LH (R:=(List Int)) (zT8 g_c b c d) [0,6,8,9,10,15] [] (fun a=>[(1,L 1 I a.1),(16,I a.2)]) (.xe 2 [6,15] fun e=>[(1,L 1 I e)]):=⟨⟩
instance(g_c:SPr→(List Int)→Int→Option (List Int))(b:SPr)(c:List Int):LH (R:=(List Int)) (zT9 g_c b c) [0,8,9] [] (fun a=>[(1,L 1 I a.1),(10,I a.2)]) (.xe 0 [0,8,9] fun d=>[(1,L 1 I d)]):=⟨⟩
theorem yCN{g_c:SPr→(List Int)→Int→Option (List Int)}[FI J0 298 (∀(x0:SPr)(x1:List Int)(x2:Int),FnK J0 298 [T.ro ((Pt xR) x0),L 1 I x1,I x2] (fun _:(List Int)=>[]) (fun r=>[(1,lV r)]) (g_c x0 x1 x2))]:∀(x0:SPr)(x1:List Int)(x2:List Int),FnK J0 246 [T.ro ((Pt xR) x0),L 1 I x1,T.ro (lV x2)] (fun _:(List Int)=>[]) (fun r=>[(1,lV r)]) (b_b g_c x0 x1 x2):=fun x0 x1 x2=>iM Tryz.func246
theorem yCO{g_c:SPr→(List Int)→Int→Option (List Int)}(H_c:∀(x0:SPr)(x1:List Int)(x2:Int) r,g_c x0 x1 x2=dS r→FnC J0 298 [T.ro ((Pt xR) x0),L 1 I x1,I x2] [] [(1,lV r)])(x0:SPr)(x1:List Int)(x2:List Int)(r:(List Int))(h:b_b g_c x0 x1 x2=dS r):FnC J0 246 [T.ro ((Pt xR) x0),L 1 I x1,T.ro (lV x2)] [] [(1,lV r)]:=by have:FI J0 298 (∀(x0:SPr)(x1:List Int)(x2:Int),FnK J0 298 [T.ro ((Pt xR) x0),L 1 I x1,I x2] (fun _:(List Int)=>[]) (fun r=>[(1,lV r)]) (g_c x0 x1 x2)):=⟨Tryz.call298,fun x0 x1 x2=>FnK.mk (H_c x0 x1 x2)⟩;exact(yCN x0 x1 x2).go h
instance(a b:List Int):LH (R:=Bool) (zTD a b) [0,1,12] [] (fun c=>[(13,I c)]) (.xs (.xe 0 [0,1,12] fun _=>[]) .xr):=⟨⟩
instance t_ay:FI J0 225 (∀(a b:List Int),FnK J0 225 [T.ro (lV a),T.ro (lV b)] (fun r=>[B r]) (fun _=>[]) (zKG a b)):=⟨Tryz.call225,fun a b=>iM Tryz.func225⟩
instance(a:List Int)(b:Int):LH (R:=Bool) (zPL a b) [1,13,14] [] (fun c=>[(15,I c)]) (.xs (.xe 0 [1,13,14] fun _=>[]) .xr):=⟨⟩
instance t_aA:FI J0 132 (∀(a:List Int)(b c:Int),FnK J0 132 [T.ro (lV a),I b,I c] (fun r=>[B r]) (fun _=>[]) (zM7 a b c)):=⟨Tryz.call132,fun a b c=>iM Tryz.func132⟩
end
end Go.Wk
