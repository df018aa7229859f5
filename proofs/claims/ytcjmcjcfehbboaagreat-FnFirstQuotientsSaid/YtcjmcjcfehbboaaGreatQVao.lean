/- x -/
import Derived.Test.YtcjmcjcfehbboaaGreatQVaa
import Derived.Test.YtcjmcjcfehbboaaGreatQVad
import Derived.Test.YtcjmcjcfehbboaaGreatQVah
import Derived.Test.YtcjmcjcfehbboaaGreatQVaj
import Derived.Test.YtcjmcjcfehbboaaGreatQVal
import Derived.Test.YtcjmcjcfehbboaaGreatQWT
open Go.Proofs.Tryz renaming prog→J0,call167→Qh
open Option renaming some→jq,none→jr
open Bool renaming true→js,false→jt
namespace Go.Wk
open Go Go.Proofs Go.Ab
set_option maxRecDepth 100000
set_option maxHeartbeats 4000000
section
attribute [local irreducible] RW CW DK OkL Ok yL yM xQ wE XS.post rng wF xN ixO zQ yC xR yH zC GTo zE FnC FnK wJ wS Kp Lk BsL BuL RpL Bk Lc
instance:HS Tryz.f160.8 [(2,4,0,.trq 4 14 [0]),(1,2,0,.trf 42 0 6 [0,0]),(1,2,1,.trf 42 1 6 [1,0]),(1,2,2,.trf 42 2 6 [2,0])]:=⟨⟩
instance(a:(List Int)×Bool):LN (zO9 a) 6:=⟨⟩
instance(b:(List Int)×Bool)(A0 A1 A2:T):LHk (R:=SPr×Int) (zO9 b) (T.ptr (T.agg [A0,A1,A2])) [2,4] [] (fun a=>[(6,T.ptr (T.agg [A0,L 1 lV a.1,A2])),(7,I a.2)]) (.xe 0 [4] fun c=>[(6,T.ptr (T.agg [A0,L 1 lV c,A2]))]):=⟨⟩
instance t_bb:FI J0 160 (∀(a:Int),FnK J0 160 [I a] (fun r=>[yI r.1,I r.2]) (fun _=>[]) (zV1 a)):=⟨Tryz.call160,fun a=>iM Tryz.func160⟩
instance:HS Tryz.f162.8 [(1,4,0,.trf 34 0 5 [0,0]),(1,4,1,.trf 34 1 5 [1,0]),(1,4,2,.trf 34 2 5 [2,0])]:=⟨⟩
instance t_b2:FI J0 162 (∀(a:zM)(b:Int),FnK J0 162 [T.ptr (zW a),I b] (fun r=>[yI r.1]) (fun r=>[(0,(Pt (fun x=>T.agg [(Ro (L 1 (IK .u8))) x.code,I x.at_,I x.seed])) r.2)]) (zV3 a b)):=⟨Tryz.call162,fun a b=>iM Tryz.func162⟩
instance t_bB:FI J0 167 (∀(a b:Int),FnK J0 167 [I a,I b] (fun r=>[lV r]) (fun _=>[]) (zVk a b)):=⟨Qh,fun a b=>iM Tryz.func167⟩
instance:HS Tryz.f180.8 [(0,26,0,.trq 21 5 [2,0]),(1,4,0,.trf 29 2 5 [2,0])]:=⟨⟩
instance(a b:zN):LH (R:=zN) (zWO a b) [3,4,14,15] [] (fun c=>[(5,T.ptr (T.agg [I a.Prime,I b.xU,L 1 lV c.1])),(16,I c.2)]) (.xe 0 [3,14,15] fun d=>[(5,T.ptr (T.agg [I a.Prime,I b.xU,L 1 lV d]))]):=⟨⟩
instance t_bV:FI J0 180 (∀(a b:zN),FnK J0 180 [zAR a,zAR b] (fun r=>[zS r]) (fun _=>[]) (yAF a b)):=⟨Tryz.call180,fun a b=>iM Tryz.func180⟩
instance t_r:FI J0 72 (∀(a:SPr)(b c:List Int),FnK J0 72 [qPr a,T.ro (lV b),T.ro (lV c)] (fun r=>[lV r]) (fun _=>[]) (f_r a b c)):=⟨Tryz.call72,fun a b c=>iM Tryz.func72⟩
instance:HS Tryz.f154.8 [(2,5,0,.tr 8 20),(2,7,0,.tr 9 28),(2,10,0,.tr 10 36)]:=⟨⟩
theorem yCb{g_i:SPr→Int→(List Int)→Option (List Int)}[FI J0 154 (∀(x0:SPr)(x1:Int)(x2:List Int),FnK J0 154 [qPr x0,I x1,T.ro (lV x2)] (fun r:(List Int)=>[lV r]) (fun _=>[]) (g_i x0 x1 x2))]:∀(x0:SPr)(x1:Int)(x2:List Int),FnK J0 154 [qPr x0,I x1,T.ro (lV x2)] (fun r:(List Int)=>[lV r]) (fun _=>[]) (b_i g_i x0 x1 x2):=fun x0 x1 x2=>iM Tryz.func154
theorem yCc{g_i:SPr→Int→(List Int)→Option (List Int)}(H_i:∀(x0:SPr)(x1:Int)(x2:List Int) r,g_i x0 x1 x2=jq r→FnC J0 154 [qPr x0,I x1,T.ro (lV x2)] [lV r] [])(x0:SPr)(x1:Int)(x2:List Int)(r:(List Int))(h:b_i g_i x0 x1 x2=jq r):FnC J0 154 [qPr x0,I x1,T.ro (lV x2)] [lV r] []:=by have:FI J0 154 (∀(x0:SPr)(x1:Int)(x2:List Int),FnK J0 154 [qPr x0,I x1,T.ro (lV x2)] (fun r:(List Int)=>[lV r]) (fun _=>[]) (g_i x0 x1 x2)):=⟨Tryz.call154,fun x0 x1 x2=>FnK.mk (H_i x0 x1 x2)⟩;exact(yCb x0 x1 x2).go h
instance:HS Tryz.f155.8 [(2,2,0,.tr 9 14),(2,6,0,.tr 9 25),(2,7,0,.tr 10 30)]:=⟨⟩
instance(b:SPr)(c:Int):LH (R:=(List Int)) (zO1 b c) [1,4] [] (fun a=>[(3,I a.1),(9,L 1 I a.2.1),(10,T.ro (lV a.2.2))]) (.xe 0 [1,4] fun d=>[(9,L 1 I d)]):=⟨⟩
instance t_aR:FI J0 155 (∀(a:SPr)(b:Int)(c:List Int)(d:Int),FnK J0 155 [qPr a,I b,T.ro (lV c),I d] (fun r=>[lV r]) (fun _=>[]) (zSv a b c d)):=⟨Tryz.call155,fun a b c d=>iM Tryz.func155⟩
end
end Go.Wk
