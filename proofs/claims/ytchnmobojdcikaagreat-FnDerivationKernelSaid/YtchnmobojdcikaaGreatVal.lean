/- x -/
import Derived.Test.YtchnmobojdcikaaGreatVag
import Derived.Test.YtchnmobojdcikaaGreatVah
import Derived.Test.YtchnmobojdcikaaGreatVai
import Derived.Test.YtchnmobojdcikaaGreatWT
open Go.Proofs.Tryz renaming prog→J0
open Option renaming some→dS,none→dT
open Bool renaming true→dU,false→dV
namespace Go.Wk
open Go Go.Proofs Go.Ab
set_option maxRecDepth 100000
set_option maxHeartbeats 4000000
section
attribute [local irreducible] RW CW DK OkL Ok zU zY yO yZ XS.post rng xC yL ixO zL zX yM zV zE GTo zK FnC FnK xJ xQ Kp Lk BsL BuL RpL Bk Lc JQ AK
instance t_bP:FI J0 260 (∀(a:zB)(b:List (List Int))(c:List Int)(d:Int),FnK J0 260 [xD a,T.ro (lM b),T.ro (lV c),I d] (fun r=>[lV r]) (fun _=>[]) (zMM a b c d)):=⟨Tryz.call260,fun a b c d=>iM Tryz.func260⟩
instance:HS Tryz.f175.8 [(2,6,0,.tr 2 29)]:=⟨⟩
instance(b:zB)(c:List (List Int))(d:List Int)(e:(List Int)×Int):LH (R:=(List Int)) (zUh b c d e) [1,3,4,9] [] (fun a=>[(2,T.ro (lV a.1)),(10,I a.2)]) (.xe 2 [] fun f=>[(2,T.ro (lV f))]):=⟨⟩
instance(b:zB)(c:List (List Int))(d:List Int):LH (R:=(List Int)) (zUi b c d) [1,3,4] [] (fun a=>[(2,T.ro (lV a.1)),(9,I a.2)]) (.xe 0 [1,3,4] fun e=>[(2,T.ro (lV e))]):=⟨⟩
instance t_L:FI J0 175 (∀(a:zB)(b:List (List Int))(c d:List Int),FnK J0 175 [xD a,T.ro (lM b),T.ro (lV c),T.ro (lV d)] (fun r=>[T.ro (lV r)]) (fun _=>[]) (f_L a b c d)):=⟨Tryz.call175,fun a b c d=>iM Tryz.func175⟩
instance t_cf:FI J0 273 (∀(a:SPr)(b:Int)(c:List Int),FnK J0 273 [T.ro ((Pt xR) a),I b,T.ro (lV c)] (fun r=>[B r]) (fun _=>[]) (zT5 a b c)):=⟨Tryz.call273,fun a b c=>iM Tryz.func273⟩
instance(b:SPr):LH (R:=Bool) (zOr b) [1,3,30,31] [] (fun a=>[(4,I a.1),(32,I a.2)]) (.xs (.xe 0 [30,31] fun _=>[]) .xr):=⟨⟩
instance(b:SPr)(c:Int)(a:List (List Int)):LH (R:=Bool) (zT6 b c a) [1,3,7,49,50,78,79] [] (fun d=>[(80,I d)]) (.xs (.xe 4 [7,78,79] fun _=>[]) .xr):=⟨⟩
instance(a:SPr):LH (R:=Bool) (zOs a) [1,3,49] [] (fun b=>[(50,I b)]) (.xs (.xe 2 [1,3,49] fun _=>[]) .xr):=⟨⟩
instance t_v:FI J0 201 (∀(a:SPr),FnK J0 201 [qPr a] (fun r=>[B r]) (fun _=>[]) (f_v a)):=⟨Tryz.call201,fun a=>iM Tryz.func201⟩
end
theorem yBT:∀n,(∀(x0:SPr)(x1:List Int)(x2:Int) r,zTA n x0 x1 x2=dS r→FnC J0 298 [T.ro ((Pt xR) x0),L 1 I x1,I x2] [] [(1,lV r)])∧(∀(x0:SPr)(x1:List Int)(x2:List Int) r,zQP n x0 x1 x2=dS r→FnC J0 246 [T.ro ((Pt xR) x0),L 1 I x1,T.ro (lV x2)] [] [(1,lV r)]):=by
  intro n
  induction n with
  |zero=>exact⟨(fun _ _ _ r h=>by simp[zTA]at h),(fun _ _ _ r h=>by simp[zQP]at h)⟩
  |succ n ih=>exact⟨(fun x0 x1 x2 r h=>yCT ih.2 x0 x1 x2 r (by simpa[zTA]using h)),(fun x0 x1 x2 r h=>yCO ih.1 x0 x1 x2 r (by simpa[zQP]using h))⟩
theorem u_c(x0:SPr)(x1:List Int)(x2:Int)(r:(List Int))(h:f_c x0 x1 x2=dS r):FnC J0 298 [T.ro ((Pt xR) x0),L 1 I x1,I x2] [] [(1,lV r)]:=by obtain⟨n,hn⟩:=kH h;exact(yBT n).1 x0 x1 x2 r hn
theorem u_b(x0:SPr)(x1:List Int)(x2:List Int)(r:(List Int))(h:f_b x0 x1 x2=dS r):FnC J0 246 [T.ro ((Pt xR) x0),L 1 I x1,T.ro (lV x2)] [] [(1,lV r)]:=by obtain⟨n,hn⟩:=kH h;exact(yBT n).2 x0 x1 x2 r hn
instance t_c:FI J0 298 (∀(a:SPr)(b:List Int)(c:Int),FnK J0 298 [T.ro ((Pt xR) a),L 1 I b,I c] (fun _:(List Int)=>[]) (fun r=>[(1,lV r)]) (f_c a b c)):=⟨Tryz.call298,fun a b c=>FnK.mk (u_c a b c)⟩
instance t_b:FI J0 246 (∀(a:SPr)(b c:List Int),FnK J0 246 [T.ro ((Pt xR) a),L 1 I b,T.ro (lV c)] (fun _:(List Int)=>[]) (fun r=>[(1,lV r)]) (f_b a b c)):=⟨Tryz.call246,fun a b c=>FnK.mk (u_b a b c)⟩
section
attribute [local irreducible] RW CW DK OkL Ok zU zY yO yZ XS.post rng xC yL ixO zL zX yM zV zE GTo zK FnC FnK xJ xQ Kp Lk BsL BuL RpL Bk Lc JQ AK
instance:HS Tryz.f304.8 [(2,2,0,.tr 7 10)]:=⟨⟩
instance(b:SPr)(c:List Int)(d:Int):LH (R:=(List Int)) (zM3 b c d) [0,1,11] [] (fun a=>[(7,L 1 I a.1),(12,I a.2)]) (.xe 0 [0,1,11] fun e=>[(7,L 1 I e)]):=⟨⟩
instance t_am:FI J0 304 (∀(a:SPr)(b:List Int)(c:Int),FnK J0 304 [T.ro ((Pt xR) a),T.ro (lV b),I c] (fun r=>[lV r]) (fun _=>[]) (zKF a b c)):=⟨Tryz.call304,fun a b c=>iM Tryz.func304⟩
instance:HS Tryz.f305.8 [(2,2,0,.tr 7 12)]:=⟨⟩
instance(b:SPr)(c:List Int)(d:Int):LH (R:=(List Int)) (zTB b c d) [0,1,2,9,19,20,21,32] [] (fun a=>[(7,L 1 I a.1),(33,I a.2)]) (.xe 2 [9,32] fun e=>[(7,L 1 I e)]):=⟨⟩
instance(c:SPr)(d:Int)(e:List Int)(f:List (List Int)):LH (R:=(List Int)) (zTC c d e f) [0,1,2,19,20] [] (fun b=>[(7,L 1 I b.1),(21,I b.2)]) (.xe 0 [0,1,2,19,20] fun a=>[(7,L 1 I a)]):=⟨⟩
instance t_P:FI J0 305 (∀(a:SPr)(b:Int)(c:List Int),FnK J0 305 [T.ro ((Pt xR) a),I b,T.ro (lV c)] (fun r=>[lV r]) (fun _=>[]) (f_P a b c)):=⟨Tryz.call305,fun a b c=>iM Tryz.func305⟩
instance:HS Tryz.f327.8 [(2,2,0,.tr 5 9),(2,3,0,.tr 6 12)]:=⟨⟩
instance(c:SPr)(d:(List Int)×(List Int)×Int):LH (R:=(List Int)) (zQQ c d) [0,7,14,15] [] (fun a=>[(5,L 1 I a.1),(6,L 1 I a.2)]) (.xe 2 [7] fun b=>[(5,L 1 I b.1),(6,L 1 I b.2)]):=⟨⟩
instance(b:SPr)(c:(List Int)):LH (R:=(List Int)) (zTE b c) [0,14] [] (fun a=>[(5,L 1 I a.1),(6,L 1 I a.2.1),(15,I a.2.2)]) (.xe 0 [0,14] fun d=>[(6,L 1 I d)]):=⟨⟩
instance t_T:FI J0 327 (∀(a:SPr)(b:List Int),FnK J0 327 [T.ro ((Pt xR) a),T.ro (lV b)] (fun r=>[lV r]) (fun _=>[]) (f_T a b)):=⟨Tryz.call327,fun a b=>iM Tryz.func327⟩
instance:HS Tryz.f144.8 [(2,2,0,.tr 7 9)]:=⟨⟩
instance t_bh:FI J0 144 (∀(a:SPr)(b c:List Int),FnK J0 144 [T.ro ((Pt xR) a),T.ro (lV b),T.ro (lV c)] (fun r=>[lV r]) (fun _=>[]) (zIA a b c)):=⟨Tryz.call144,fun a b c=>iM Tryz.func144⟩
instance t_b6:FI J0 306 (∀(a:SPr)(b c:List Int),FnK J0 306 [T.ro ((Pt xR) a),T.ro (lV b),T.ro (lV c)] (fun r=>[lV r]) (fun _=>[]) (zQR a b c)):=⟨Tryz.call306,fun a b c=>iM Tryz.func306⟩
instance:HS Tryz.f274.8 [(2,23,0,.tr 12 152),(2,26,0,.tr 12 165)]:=⟨⟩
instance(a:SPr)(b:Int):LH (R:=yU) (zTF a b) [0,1,4,5,6] [] (fun c=>[(7,I c)]) (.xs (.xe 0 [] fun _=>[]) .xr):=⟨⟩
instance(a:SPr)(b c:Int):LH (R:=yU) (zTG a b c) [0,1,4,5,6,8] [] (fun d=>[(9,I d)]) (.xs (.xe 4 [] fun _=>[]) .xr):=⟨⟩
instance(a:SPr)(b:Int):LH (R:=yU) (zTH a b) [0,1,4,5,6] [] (fun c=>[(8,I c)]) (.xs (.xe 2 [] fun _=>[]) .xr):=⟨⟩
instance(d:SPr)(e b:Int):LH (R:=yU) (zTI d e b) [0,1,4,5,6,10,11,159] [] (fun a=>[(12,L 1 I a.1),(160,I a.2)]) (.xe 8 [159] fun c=>[(12,L 1 I c)]):=⟨⟩
instance(c:SPr)(d:Int)(a:List Int):LH (R:=yU) (zTJ c d a) [0,1,4,5,6,10] [] (fun b=>[(11,I b)]) (.xs (.xe 6 [0,1,5,6,10] fun _=>[]) .xr):=⟨⟩
instance t_m:FI J0 274 (∀(a:SPr)(b:Int),FnK J0 274 [T.ro ((Pt xR) a),I b] (fun r=>[zGU r]) (fun _=>[]) (f_m a b)):=⟨Tryz.call274,fun a b=>iM Tryz.func274⟩
end
end Go.Wk
