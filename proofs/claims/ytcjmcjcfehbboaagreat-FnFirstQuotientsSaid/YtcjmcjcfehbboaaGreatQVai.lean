/- x -/
import Derived.Test.YtcjmcjcfehbboaaGreatQVaa
import Derived.Test.YtcjmcjcfehbboaaGreatQWT
open Go.Proofs.Tryz renaming prog→J0
open Option renaming some→jq,none→jr
open Bool renaming true→js,false→jt
namespace Go.Wk
open Go Go.Proofs Go.Ab
set_option maxRecDepth 100000
set_option maxHeartbeats 4000000
section
attribute [local irreducible] RW CW DK OkL Ok yL yM xQ wE XS.post rng wF xN ixO zQ yC xR yH zC GTo zE FnC FnK wJ wS Kp Lk BsL BuL RpL Bk Lc
instance:HS Tryz.f146.8 [(2,1,0,.tr 6 14),(3,2,0,.tr 58 6)]:=⟨⟩
instance(b:Int)(c:(List Int)):LH (R:=(List Int)) (zSy b c) [0,2,6,16] [] (fun a=>[(1,L 1 I a.1),(17,I a.2)]) (.xe 0 [16] fun d=>[(1,L 1 I d)]):=⟨⟩
instance(g_a:SPr→(List Int)→(List Int)→Option (List Int))(d:SPr)(e:Int)(f:(List Int)×Int)(a:Int):LH (R:=(List Int)) (zYw g_a d e f a) [0,2,8,58,59,60,65] [] (fun c=>[(1,L 1 I c.1),(66,I c.2)]) (.xe 4 [8,65] fun b=>[(1,L 1 I b)]):=⟨⟩
instance(g_a:SPr→(List Int)→(List Int)→Option (List Int))(c:SPr)(d:Int)(e:(List Int)):LH (R:=(List Int)) (zYx g_a c d e) [0,2,58,59] [] (fun b=>[(1,L 1 I b.1),(60,I b.2)]) (.xe 2 [0,2,58,59] fun a=>[(1,L 1 I a)]):=⟨⟩
instance(g_a:SPr→(List Int)→(List Int)→Option (List Int))(e:SPr)(f:Int)(b:(List Int)×Int)(c:Int):LH (R:=(List Int)) (zYy g_a e f b c) [0,2,8,58,59,60,65] [] (fun a=>[(1,L 1 I a.1),(66,I a.2)]) (.xe 4 [8,65] fun d=>[(1,L 1 I d)]):=⟨⟩
instance(g_a:SPr→(List Int)→(List Int)→Option (List Int))(c:SPr)(d:Int)(e:(List Int)):LH (R:=(List Int)) (zYz g_a c d e) [0,2,58,59] [] (fun a=>[(1,L 1 I a.1),(60,I a.2)]) (.xe 2 [0,2,58,59] fun b=>[(1,L 1 I b)]):=⟨⟩
theorem yBY{g_a:SPr→(List Int)→(List Int)→Option (List Int)}[FI J0 99 (∀(x0:SPr)(x1:List Int)(x2:List Int),FnK J0 99 [T.ro ((Pt yI) x0),L 1 I x1,T.ro (lV x2)] (fun _:(List Int)=>[]) (fun r=>[(1,lV r)]) (g_a x0 x1 x2))]:∀(x0:SPr)(x1:List Int)(x2:Int),FnK J0 146 [T.ro ((Pt yI) x0),L 1 I x1,I x2] (fun _:(List Int)=>[]) (fun r=>[(1,lV r)]) (b_c g_a x0 x1 x2):=fun x0 x1 x2=>iM Tryz.func146
theorem yBZ{g_a:SPr→(List Int)→(List Int)→Option (List Int)}(H_a:∀(x0:SPr)(x1:List Int)(x2:List Int) r,g_a x0 x1 x2=jq r→FnC J0 99 [T.ro ((Pt yI) x0),L 1 I x1,T.ro (lV x2)] [] [(1,lV r)])(x0:SPr)(x1:List Int)(x2:Int)(r:(List Int))(h:b_c g_a x0 x1 x2=jq r):FnC J0 146 [T.ro ((Pt yI) x0),L 1 I x1,I x2] [] [(1,lV r)]:=by have:FI J0 99 (∀(x0:SPr)(x1:List Int)(x2:List Int),FnK J0 99 [T.ro ((Pt yI) x0),L 1 I x1,T.ro (lV x2)] (fun _:(List Int)=>[]) (fun r=>[(1,lV r)]) (g_a x0 x1 x2)):=⟨Tryz.call99,fun x0 x1 x2=>FnK.mk (H_a x0 x1 x2)⟩;exact(yBY x0 x1 x2).go h
instance:HS Tryz.f115.8 [(2,2,0,.tr 7 9)]:=⟨⟩
instance t_bJ:FI J0 115 (∀(a:SPr)(b c:Int),FnK J0 115 [qPr a,I b,I c] (fun r=>[lV r]) (fun _=>[]) (zQf a b c)):=⟨Tryz.call115,fun a b c=>iM Tryz.func115⟩
instance:HS Tryz.f114.8 [(2,2,0,.tr 9 12)]:=⟨⟩
instance(b c:Int)(d:List Int):LH (R:=(List Int)) (zSD b c d) [0,2,3] [] (fun a=>[(9,L 1 I a.1),(10,I a.2)]) (.xe 0 [0,2,3] fun e=>[(9,L 1 I e)]):=⟨⟩
instance t_V:FI J0 114 (∀(a:Int)(b:List Int)(c:Int)(d:List Int),FnK J0 114 [I a,T.ro (lV b),I c,T.ro (lV d)] (fun r=>[lV r]) (fun _=>[]) (f_V a b c d)):=⟨Tryz.call114,fun a b c d=>iM Tryz.func114⟩
instance(a b:Int):LH (R:=Int) (zL5 a b) [0,1] [] (fun c=>[(5,I c)]) (.xs (.xe 0 [0,1] fun _=>[]) .xr):=⟨⟩
instance t_aD:FI J0 113 (∀(a b:Int),FnK J0 113 [I a,I b] (fun r=>[I r]) (fun _=>[]) (zSF a b)):=⟨Tryz.call113,fun a b=>iM Tryz.func113⟩
end
end Go.Wk
