/- x -/
import Derived.Test.YtchnmobojdcikaaGreatQVaa
import Derived.Test.YtchnmobojdcikaaGreatQVab
import Derived.Test.YtchnmobojdcikaaGreatQVag
import Derived.Test.YtchnmobojdcikaaGreatQWT
open Go.Proofs.Tryz renaming prog→J0
open Option renaming some→dq,none→dt
open Bool renaming true→du,false→dv
namespace Go.Wk
open Go Go.Proofs Go.Ab
set_option maxRecDepth 100000
set_option maxHeartbeats 4000000
section
attribute [local irreducible] RW CW DK OkL Ok zS zV yQ xI XS.post rng xL yO ixO zP zU yT zZ zG GTo zM FnC FnK xK xN Kp Lk BsL BuL RpL Bk Lc JQ AK
instance:HS Tryz.f140.8 [(2,2,0,.tr 5 10)]:=⟨⟩
instance(b:zC)(c:List Int)(d:(List (List Int))×Int):LH (R:=(List (List Int))) (zQV b c d) [1,2,6] [] (fun a=>[(5,L 1 lV a.1),(7,I a.2)]) (.xe 2 [] fun e=>[(5,L 1 lV e)]):=⟨⟩
instance(b:zC)(c:List Int):LH (R:=(List (List Int))) (zQW b c) [1,2] [] (fun a=>[(5,L 1 lV a.1),(6,I a.2)]) (.xe 0 [1,2] fun d=>[(5,L 1 lV d)]):=⟨⟩
instance t_J:FI J0 140 (∀(a:zC)(b:List Int),FnK J0 140 [xQ a,T.ro (lV b)] (fun r:(List (List Int))=>[lM r]) (fun _=>[]) (f_J a b)):=⟨Tryz.call140,fun a b=>iM Tryz.func140⟩
instance:HS Tryz.f109.8 [(2,2,0,.tr 9 12)]:=⟨⟩
instance(b c:Int)(d:List Int):LH (R:=(List Int)) (zLb b c d) [0,2,3] [] (fun a=>[(9,L 1 I a.1),(10,I a.2)]) (.xe 0 [0,2,3] fun e=>[(9,L 1 I e)]):=⟨⟩
instance t_ad:FI J0 109 (∀(a:Int)(b:List Int)(c:Int)(d:List Int),FnK J0 109 [I a,T.ro (lV b),I c,T.ro (lV d)] (fun r=>[lV r]) (fun _=>[]) (zJi a b c d)):=⟨Tryz.call109,fun a b c d=>iM Tryz.func109⟩
instance:HS Tryz.f298.8 [(2,1,0,.tr 6 14),(3,2,0,.tr 58 6)]:=⟨⟩
instance(b:Int)(c:(List Int)):LH (R:=(List Int)) (zRg b c) [0,2,6,16] [] (fun a=>[(1,L 1 I a.1),(17,I a.2)]) (.xe 0 [16] fun d=>[(1,L 1 I d)]):=⟨⟩
instance(g_c:SPr→(List Int)→(List Int)→Option (List Int))(d:SPr)(e:Int)(f:(List Int)×Int)(a:Int):LH (R:=(List Int)) (zWS g_c d e f a) [0,2,8,58,59,60,65] [] (fun c=>[(1,L 1 I c.1),(66,I c.2)]) (.xe 4 [8,65] fun b=>[(1,L 1 I b)]):=⟨⟩
instance(g_c:SPr→(List Int)→(List Int)→Option (List Int))(c:SPr)(d:Int)(e:(List Int)):LH (R:=(List Int)) (zWT g_c c d e) [0,2,58,59] [] (fun b=>[(1,L 1 I b.1),(60,I b.2)]) (.xe 2 [0,2,58,59] fun a=>[(1,L 1 I a)]):=⟨⟩
instance(g_c:SPr→(List Int)→(List Int)→Option (List Int))(e:SPr)(f:Int)(b:(List Int)×Int)(c:Int):LH (R:=(List Int)) (zWU g_c e f b c) [0,2,8,58,59,60,65] [] (fun a=>[(1,L 1 I a.1),(66,I a.2)]) (.xe 4 [8,65] fun d=>[(1,L 1 I d)]):=⟨⟩
instance(g_c:SPr→(List Int)→(List Int)→Option (List Int))(c:SPr)(d:Int)(e:(List Int)):LH (R:=(List Int)) (zWV g_c c d e) [0,2,58,59] [] (fun a=>[(1,L 1 I a.1),(60,I a.2)]) (.xe 2 [0,2,58,59] fun b=>[(1,L 1 I b)]):=⟨⟩
theorem zZU{g_c:SPr→(List Int)→(List Int)→Option (List Int)}[FI J0 246 (∀(x0:SPr)(x1:List Int)(x2:List Int),FnK J0 246 [T.ro ((Pt vW) x0),L 1 I x1,T.ro (lV x2)] (fun _:(List Int)=>[]) (fun r=>[(1,lV r)]) (g_c x0 x1 x2))]:∀(x0:SPr)(x1:List Int)(x2:Int),FnK J0 298 [T.ro ((Pt vW) x0),L 1 I x1,I x2] (fun _:(List Int)=>[]) (fun r=>[(1,lV r)]) (b_b g_c x0 x1 x2):=fun x0 x1 x2=>iM Tryz.func298
theorem zZV{g_c:SPr→(List Int)→(List Int)→Option (List Int)}(H_c:∀(x0:SPr)(x1:List Int)(x2:List Int) r,g_c x0 x1 x2=dq r→FnC J0 246 [T.ro ((Pt vW) x0),L 1 I x1,T.ro (lV x2)] [] [(1,lV r)])(x0:SPr)(x1:List Int)(x2:Int)(r:(List Int))(h:b_b g_c x0 x1 x2=dq r):FnC J0 298 [T.ro ((Pt vW) x0),L 1 I x1,I x2] [] [(1,lV r)]:=by have:FI J0 246 (∀(x0:SPr)(x1:List Int)(x2:List Int),FnK J0 246 [T.ro ((Pt vW) x0),L 1 I x1,T.ro (lV x2)] (fun _:(List Int)=>[]) (fun r=>[(1,lV r)]) (g_c x0 x1 x2)):=⟨Tryz.call246,fun x0 x1 x2=>FnK.mk (H_c x0 x1 x2)⟩;exact(zZU x0 x1 x2).go h
instance:HS Tryz.f253.8 [(0,16,0,.tr 12 3),(2,6,0,.tr 3 16)]:=⟨⟩
instance(b:List (List Int)):LH (R:=(List (List Int))) (zKW b) [6,7] [] (fun a=>[(3,L 1 lV a.1),(8,I a.2)]) (.xe 0 [6,7] fun c=>[(3,L 1 lV c)]):=⟨⟩
instance t_aF:FI J0 253 (∀(a:List (List Int)),FnK J0 253 [T.ro (lM a)] (fun r:(List (List Int))=>[lM r]) (fun _=>[]) (zR8 a)):=⟨Tryz.call253,fun a=>iM Tryz.func253⟩
end
end Go.Wk
