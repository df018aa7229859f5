/- x -/
import Derived.Test.YtcjmcjcfehbboaaGreatQVaa
import Derived.Test.YtcjmcjcfehbboaaGreatQWT
open Go.Proofs.Tryz renaming prog→J0
open Option renaming some→jq,none→jr
open Bool renaming true→js,false→jt
namespace Go.Wk
open Go Go.Proofs Go.Ab
set_option maxRecDepth 100000
set_option maxHeartbeats 4000000
section
attribute [local irreducible] RW CW DK OkL Ok yL yM xQ wE XS.post rng wF xN ixO zQ yC xR yH zC GTo zE FnC FnK wJ wS Kp Lk BsL BuL RpL Bk Lc
instance t_b3:FI J0 5 (∀(a:List Int),FnK J0 5 [T.ro ((L 1 (IK .u8)) a)] (fun r=>[B r]) (fun _=>[]) (zVy a)):=⟨Tryz.call5,fun a=>iM Tryz.func5⟩
instance:HS Tryz.f118.8 [(2,2,0,.tr 3 5),(0,19,0,.tr 12 3),(2,4,0,.tr 3 19)]:=⟨⟩
instance(b:List (List Int)):LH (R:=(List (List Int))) (zPL b) [0] [] (fun a=>[(3,L 1 lV a.1),(4,I a.2)]) (.xe 0 [0] fun c=>[(3,L 1 lV c)]):=⟨⟩
instance t_X:FI J0 118 (∀(a:List (List Int)),FnK J0 118 [T.ro (lM a)] (fun r:(List (List Int))=>[lM r]) (fun _=>[]) (f_X a)):=⟨Tryz.call118,fun a=>iM Tryz.func118⟩
instance:HS Tryz.f191.8 [(2,4,0,.tr 6 13),(0,39,0,.tr 36 6),(2,6,0,.tr 6 39),(2,6,1,.tr 6 48),(0,48,0,.tr 44 6)]:=⟨⟩
instance(c:Int)(d:ByteArray):LH (R:=(List Int)×Bool) (zSW c d) [0,1] [] (fun b=>[(6,L 1 I b.1),(7,I b.2)]) (.xs (.xe 0 [0,1] fun a=>[(6,L 1 I a)]) .xr):=⟨⟩
instance t_bl:FI J0 191 (∀(a:Int)(b:ByteArray),FnK J0 191 [I a,Str b] (fun r:(List Int)×Bool=>[lV r.1,B r.2]) (fun _=>[]) (zV9 a b)):=⟨Tryz.call191,fun a b=>iM Tryz.func191⟩
end
theorem yBV:∀n,(∀(x0:Int) r,zJQ n x0=jq r→FnC J0 194 [I x0] [Str r] []):=by
  intro n
  induction n with
  |zero=>exact(fun _ r h=>by simp[zJQ]at h)
  |succ n ih=>exact(fun x0 r h=>yBO ih x0 r (by simpa[zJQ]using h))
theorem u_h(x0:Int)(r:ByteArray)(h:f_h x0=jq r):FnC J0 194 [I x0] [Str r] []:=by obtain⟨n,hn⟩:=zAY h;exact(yBV n) x0 r hn
instance t_h:FI J0 194 (∀(a:Int),FnK J0 194 [I a] (fun r=>[Str r]) (fun _=>[]) (f_h a)):=⟨Tryz.call194,fun a=>FnK.mk (u_h a)⟩
section
attribute [local irreducible] RW CW DK OkL Ok yL yM xQ wE XS.post rng wF xN ixO zQ yC xR yH zC GTo zE FnC FnK wJ wS Kp Lk BsL BuL RpL Bk Lc
instance(a b:List Int)(c:Int):LH (R:=Bool) (zLw a b c) [0,1,2] [] (fun d=>[(7,I d)]) (.xs (.xe 0 [0,1,2] fun _=>[]) .xr):=⟨⟩
instance t_aq:FI J0 158 (∀(a b:List Int)(c:Int),FnK J0 158 [T.ro (lV a),T.ro (lV b),I c] (fun r=>[B r]) (fun _=>[]) (zMR a b c)):=⟨Tryz.call158,fun a b c=>iM Tryz.func158⟩
instance:HS Tryz.f126.8 [(2,5,0,.tr 10 25),(2,5,1,.tr 11 27),(2,9,0,.tr 10 45),(2,12,0,.tr 13 51),(2,16,0,.tr 13 84),(2,17,0,.tr 15 86)]:=⟨⟩
instance(g_g:SPr→Int→(List Int)→Option (List Int))(b:SPr)(c:Int)(d:List Int):LH (R:=(List Int)) (zUV g_g b c d) [1,2,3,4,11] [] (fun a=>[(10,L 1 I a.1),(12,I a.2)]) (.xe 0 [] fun e=>[(10,L 1 I e)]):=⟨⟩
theorem yBW{g_g:SPr→Int→(List Int)→Option (List Int)}[FI J0 156 (∀(x0:SPr)(x1:Int)(x2:List Int),FnK J0 156 [qPr x0,I x1,T.ro (lV x2)] (fun r:(List Int)=>[lV r]) (fun _=>[]) (g_g x0 x1 x2))]{g_b:SPr→Int→(List Int)→(List Int)→Option (List Int)}[FI J0 126 (∀(x0:SPr)(x1:Int)(x2:List Int)(x3:List Int),FnK J0 126 [qPr x0,I x1,T.ro (lV x2),T.ro (lV x3)] (fun r:(List Int)=>[lV r]) (fun _=>[]) (g_b x0 x1 x2 x3))]:∀(x0:SPr)(x1:Int)(x2:List Int)(x3:List Int),FnK J0 126 [qPr x0,I x1,T.ro (lV x2),T.ro (lV x3)] (fun r:(List Int)=>[lV r]) (fun _=>[]) (b_b g_g g_b x0 x1 x2 x3):=fun x0 x1 x2 x3=>iM Tryz.func126
theorem yBX{g_g:SPr→Int→(List Int)→Option (List Int)}(H_g:∀(x0:SPr)(x1:Int)(x2:List Int) r,g_g x0 x1 x2=jq r→FnC J0 156 [qPr x0,I x1,T.ro (lV x2)] [lV r] []){g_b:SPr→Int→(List Int)→(List Int)→Option (List Int)}(H_b:∀(x0:SPr)(x1:Int)(x2:List Int)(x3:List Int) r,g_b x0 x1 x2 x3=jq r→FnC J0 126 [qPr x0,I x1,T.ro (lV x2),T.ro (lV x3)] [lV r] [])(x0:SPr)(x1:Int)(x2:List Int)(x3:List Int)(r:(List Int))(h:b_b g_g g_b x0 x1 x2 x3=jq r):FnC J0 126 [qPr x0,I x1,T.ro (lV x2),T.ro (lV x3)] [lV r] []:=by have:FI J0 156 (∀(x0:SPr)(x1:Int)(x2:List Int),FnK J0 156 [qPr x0,I x1,T.ro (lV x2)] (fun r:(List Int)=>[lV r]) (fun _=>[]) (g_g x0 x1 x2)):=⟨Tryz.call156,fun x0 x1 x2=>FnK.mk (H_g x0 x1 x2)⟩;have:FI J0 126 (∀(x0:SPr)(x1:Int)(x2:List Int)(x3:List Int),FnK J0 126 [qPr x0,I x1,T.ro (lV x2),T.ro (lV x3)] (fun r:(List Int)=>[lV r]) (fun _=>[]) (g_b x0 x1 x2 x3)):=⟨Tryz.call126,fun x0 x1 x2 x3=>FnK.mk (H_b x0 x1 x2 x3)⟩;exact(yBW x0 x1 x2 x3).go h
end
end Go.Wk
