/- x -/
import Derived.Test.YtchnmobojdcikaaGreatKVai
import Derived.Test.YtchnmobojdcikaaGreatKVaj
import Derived.Test.YtchnmobojdcikaaGreatKVak
import Derived.Test.YtchnmobojdcikaaGreatKVal
import Derived.Test.YtchnmobojdcikaaGreatKWT
open Go.Proofs.Tryz renaming prog→J0
open Option renaming some→dJ,none→dK
open Bool renaming true→dL,false→dM
namespace Go.Wk
open Go Go.Proofs Go.Ab
set_option maxRecDepth 100000
set_option maxHeartbeats 4000000
section
attribute [local irreducible] RW CW DK OkL Ok yO yY wQ wK XS.post rng wS xR ixO zQ zZ wP yG zH GTo zX FnC FnK vM uH Kp Lk BsL BuL RpL Bk Lc JQ AK
instance t_bh:FI J0 260 (∀(a:zC)(b:List (List Int))(c:List Int)(d:Int),FnK J0 260 [wL a,T.ro (lM b),T.ro (lV c),I d] (fun r=>[lV r]) (fun _=>[]) (zNj a b c d)):=⟨Tryz.call260,fun a b c d=>iM Tryz.func260⟩
instance:HS Tryz.f175.8 [(2,6,0,.tr 2 29)]:=⟨⟩
instance(b:zC)(c:List (List Int))(d:List Int)(e:(List Int)×Int):LH (R:=(List Int)) (zNk b c d e) [1,3,4,9] [] (fun a=>[(2,T.ro (lV a.1)),(10,I a.2)]) (.xe 2 [] fun f=>[(2,T.ro (lV f))]):=⟨⟩
instance(b:zC)(c:List (List Int))(d:List Int):LH (R:=(List Int)) (zNl b c d) [1,3,4] [] (fun a=>[(2,T.ro (lV a.1)),(9,I a.2)]) (.xe 0 [1,3,4] fun e=>[(2,T.ro (lV e))]):=⟨⟩
instance t_ac:FI J0 175 (∀(a:zC)(b:List (List Int))(c d:List Int),FnK J0 175 [wL a,T.ro (lM b),T.ro (lV c),T.ro (lV d)] (fun r=>[T.ro (lV r)]) (fun _=>[]) (zUQ a b c d)):=⟨Tryz.call175,fun a b c d=>iM Tryz.func175⟩
instance:HS Tryz.f214.8 [(2,3,0,.tr 8 22),(2,4,0,.tr 9 23),(2,5,0,.fz 8),(2,10,0,.tr 11 43),(0,62,0,.tr 44 9),(2,13,0,.fz 8),(2,20,0,.tr 15 83),(0,102,0,.fz 90),(0,113,0,.tr 103 9),(2,18,0,.tr 9 113)]:=⟨⟩
instance(b:SPr)(c:zC)(d:List (List Int))(e:(List (List Int))×Int):LH (R:=(List (List Int))) (zUY b c d e) [2,3,4,7,8,9,10] [] (fun a=>[(11,T.ro (lV a.1)),(12,I a.2)]) (.xe 2 [] fun f=>[(11,T.ro (lV f))]):=⟨⟩
instance(c:SPr)(d:zC)(e:List (List Int))(f:Nat):LH (R:=(List (List Int))) (zUZ c d e f) [2,3,4,7,8] [8] (fun b=>[(9,L 1 lV b.1),(10,I b.2)]) (.xe 0 [] fun a=>[(9,L 1 lV a)]):=⟨⟩
instance(d:SPr)(e:zC)(f:List (List Int))(g:Nat)(b:(List (List Int))×Int):LH (R:=(List (List Int))) (zVa d e f g b) [2,3,4,7,8,13] [] (fun a=>[(9,L 1 lV a.1),(14,I a.2)]) (.xe 6 [] fun c=>[(9,L 1 lV c)]):=⟨⟩
instance(c:SPr)(d:zC)(e:List (List Int))(f:Nat):LH (R:=(List (List Int))) (zVb c d e f) [2,3,4,7,8] [] (fun a=>[(9,L 1 lV a.1),(13,I a.2)]) (.xe 4 [2,3,4,7,8] fun b=>[(9,L 1 lV b)]):=⟨⟩
instance t_B:FI J0 214 (∀(a:SPr)(b:zC)(c:List (List Int)),FnK J0 214 [qPr a,wL b,T.ro (lM c)] (fun r:(List (List Int))=>[lM r]) (fun _=>[]) (f_B a b c)):=⟨Tryz.call214,fun a b c=>iM Tryz.func214⟩
end
theorem yDr:∀n,(∀(x0:SPr)(x1:List Int)(x2:Int) r,zUw n x0 x1 x2=dJ r→FnC J0 298 [T.ro ((Pt wH) x0),L 1 I x1,I x2] [] [(1,lV r)])∧(∀(x0:SPr)(x1:List Int)(x2:List Int) r,zRl n x0 x1 x2=dJ r→FnC J0 246 [T.ro ((Pt wH) x0),L 1 I x1,T.ro (lV x2)] [] [(1,lV r)]):=by
  intro n
  induction n with
  |zero=>exact⟨(fun _ _ _ r h=>by simp[zUw]at h),(fun _ _ _ r h=>by simp[zRl]at h)⟩
  |succ n ih=>exact⟨(fun x0 x1 x2 r h=>yEu ih.2 x0 x1 x2 r (by simpa[zUw]using h)),(fun x0 x1 x2 r h=>yEm ih.1 x0 x1 x2 r (by simpa[zRl]using h))⟩
theorem u_b(x0:SPr)(x1:List Int)(x2:Int)(r:(List Int))(h:f_b x0 x1 x2=dJ r):FnC J0 298 [T.ro ((Pt wH) x0),L 1 I x1,I x2] [] [(1,lV r)]:=by obtain⟨n,hn⟩:=jS h;exact(yDr n).1 x0 x1 x2 r hn
theorem u_d(x0:SPr)(x1:List Int)(x2:List Int)(r:(List Int))(h:f_d x0 x1 x2=dJ r):FnC J0 246 [T.ro ((Pt wH) x0),L 1 I x1,T.ro (lV x2)] [] [(1,lV r)]:=by obtain⟨n,hn⟩:=jS h;exact(yDr n).2 x0 x1 x2 r hn
instance t_b:FI J0 298 (∀(a:SPr)(b:List Int)(c:Int),FnK J0 298 [T.ro ((Pt wH) a),L 1 I b,I c] (fun _:(List Int)=>[]) (fun r=>[(1,lV r)]) (f_b a b c)):=⟨Tryz.call298,fun a b c=>FnK.mk (u_b a b c)⟩
instance t_d:FI J0 246 (∀(a:SPr)(b c:List Int),FnK J0 246 [T.ro ((Pt wH) a),L 1 I b,T.ro (lV c)] (fun _:(List Int)=>[]) (fun r=>[(1,lV r)]) (f_d a b c)):=⟨Tryz.call246,fun a b c=>FnK.mk (u_d a b c)⟩
section
attribute [local irreducible] RW CW DK OkL Ok yO yY wQ wK XS.post rng wS xR ixO zQ zZ wP yG zH GTo zX FnC FnK vM uH Kp Lk BsL BuL RpL Bk Lc JQ AK
instance:HS Tryz.f304.8 [(2,2,0,.tr 7 10)]:=⟨⟩
instance(b:SPr)(c:List Int)(d:Int):LH (R:=(List Int)) (zMY b c d) [0,1,11] [] (fun a=>[(7,L 1 I a.1),(12,I a.2)]) (.xe 0 [0,1,11] fun e=>[(7,L 1 I e)]):=⟨⟩
instance t_aK:FI J0 304 (∀(a:SPr)(b:List Int)(c:Int),FnK J0 304 [T.ro ((Pt wH) a),T.ro (lV b),I c] (fun r=>[lV r]) (fun _=>[]) (zXm a b c)):=⟨Tryz.call304,fun a b c=>iM Tryz.func304⟩
instance:HS Tryz.f305.8 [(2,2,0,.tr 7 12)]:=⟨⟩
instance(b:SPr)(c:List Int)(d:Int):LH (R:=(List Int)) (zUx b c d) [0,1,2,9,19,20,21,32] [] (fun a=>[(7,L 1 I a.1),(33,I a.2)]) (.xe 2 [9,32] fun e=>[(7,L 1 I e)]):=⟨⟩
instance(c:SPr)(d:Int)(e:List Int)(f:List (List Int)):LH (R:=(List Int)) (zUy c d e f) [0,1,2,19,20] [] (fun b=>[(7,L 1 I b.1),(21,I b.2)]) (.xe 0 [0,1,2,19,20] fun a=>[(7,L 1 I a)]):=⟨⟩
instance t_S:FI J0 305 (∀(a:SPr)(b:Int)(c:List Int),FnK J0 305 [T.ro ((Pt wH) a),I b,T.ro (lV c)] (fun r=>[lV r]) (fun _=>[]) (f_S a b c)):=⟨Tryz.call305,fun a b c=>iM Tryz.func305⟩
instance:HS Tryz.f327.8 [(2,2,0,.tr 5 9),(2,3,0,.tr 6 12)]:=⟨⟩
instance(c:SPr)(d:(List Int)×(List Int)×Int):LH (R:=(List Int)) (zRm c d) [0,7,14,15] [] (fun a=>[(5,L 1 I a.1),(6,L 1 I a.2)]) (.xe 2 [7] fun b=>[(5,L 1 I b.1),(6,L 1 I b.2)]):=⟨⟩
instance(b:SPr)(c:(List Int)):LH (R:=(List Int)) (zU0 b c) [0,14] [] (fun a=>[(5,L 1 I a.1),(6,L 1 I a.2.1),(15,I a.2.2)]) (.xe 0 [0,14] fun d=>[(6,L 1 I d)]):=⟨⟩
instance t_Y:FI J0 327 (∀(a:SPr)(b:List Int),FnK J0 327 [T.ro ((Pt wH) a),T.ro (lV b)] (fun r=>[lV r]) (fun _=>[]) (f_Y a b)):=⟨Tryz.call327,fun a b=>iM Tryz.func327⟩
instance:HS Tryz.f144.8 [(2,2,0,.tr 7 9)]:=⟨⟩
instance t_bH:FI J0 144 (∀(a:SPr)(b c:List Int),FnK J0 144 [T.ro ((Pt wH) a),T.ro (lV b),T.ro (lV c)] (fun r=>[lV r]) (fun _=>[]) (zU1 a b c)):=⟨Tryz.call144,fun a b c=>iM Tryz.func144⟩
instance t_bI:FI J0 306 (∀(a:SPr)(b c:List Int),FnK J0 306 [T.ro ((Pt wH) a),T.ro (lV b),T.ro (lV c)] (fun r=>[lV r]) (fun _=>[]) (zU2 a b c)):=⟨Tryz.call306,fun a b c=>iM Tryz.func306⟩
instance:HS Tryz.f274.8 [(2,23,0,.tr 12 152),(2,26,0,.tr 12 165)]:=⟨⟩
instance(a:SPr)(b:Int):LH (R:=yX) (zU3 a b) [0,1,4,5,6] [] (fun c=>[(7,I c)]) (.xs (.xe 0 [] fun _=>[]) .xr):=⟨⟩
instance(a:SPr)(b c:Int):LH (R:=yX) (zU4 a b c) [0,1,4,5,6,8] [] (fun d=>[(9,I d)]) (.xs (.xe 4 [] fun _=>[]) .xr):=⟨⟩
instance(a:SPr)(b:Int):LH (R:=yX) (zU5 a b) [0,1,4,5,6] [] (fun c=>[(8,I c)]) (.xs (.xe 2 [] fun _=>[]) .xr):=⟨⟩
instance(d:SPr)(e b:Int):LH (R:=yX) (zU6 d e b) [0,1,4,5,6,10,11,159] [] (fun a=>[(12,L 1 I a.1),(160,I a.2)]) (.xe 8 [159] fun c=>[(12,L 1 I c)]):=⟨⟩
instance(c:SPr)(d:Int)(a:List Int):LH (R:=yX) (zU7 c d a) [0,1,4,5,6,10] [] (fun b=>[(11,I b)]) (.xs (.xe 6 [0,1,5,6,10] fun _=>[]) .xr):=⟨⟩
instance t_w:FI J0 274 (∀(a:SPr)(b:Int),FnK J0 274 [T.ro ((Pt wH) a),I b] (fun r=>[zHb r]) (fun _=>[]) (f_w a b)):=⟨Tryz.call274,fun a b=>iM Tryz.func274⟩
end
end Go.Wk
