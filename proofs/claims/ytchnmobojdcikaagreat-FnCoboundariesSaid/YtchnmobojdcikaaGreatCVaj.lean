/- x -/
import Derived.Test.YtchnmobojdcikaaGreatCVaa
import Derived.Test.YtchnmobojdcikaaGreatCVab
import Derived.Test.YtchnmobojdcikaaGreatCVac
import Derived.Test.YtchnmobojdcikaaGreatCVaf
import Derived.Test.YtchnmobojdcikaaGreatCWT
open Go.Proofs.Tryz renaming prog→J0
open Option renaming some→iz,none→iA
open Bool renaming true→iB,false→iC
namespace Go.Wk
open Go Go.Proofs Go.Ab
set_option maxRecDepth 100000
set_option maxHeartbeats 4000000
section
attribute [local irreducible] RW CW DK OkL Ok zV yA yW xK XS.post rng xN yP ixO zO yG yO yB zG GTo zP FnC FnK xQ wB Kp Lk BsL BuL RpL Bk Lc JQ AK
instance:HS Tryz.f256.8 [(0,25,0,.trq 21 7 [2,0]),(1,6,0,.trf 27 2 7 [2,0])]:=⟨⟩
instance(a:SPr)(b:Int):LN (zJI a b) 7:=⟨⟩
instance(c:SPr)(a:Int)(A0 A1 A2:T):LHk (R:=zC) (zJI c a) (T.ptr (T.agg [A0,A1,A2])) [2,3,6] [] (fun b=>[(7,T.ptr (T.agg [A0,I a,L 1 lM b.1])),(8,I b.2)]) (.xe 0 [2,3] fun d=>[(7,T.ptr (T.agg [A0,I a,L 1 lM d]))]):=⟨⟩
instance t_av:FI J0 256 (∀(a:SPr)(b c:Int),FnK J0 256 [qPr a,I b,I c] (fun r=>[xV r]) (fun _=>[]) (zU6 a b c)):=⟨Tryz.call256,fun a b c=>iM Tryz.func256⟩
instance:HS Tryz.f109.8 [(2,2,0,.tr 9 12)]:=⟨⟩
instance(b c:Int)(d:List Int):LH (R:=(List Int)) (zUk b c d) [0,2,3] [] (fun a=>[(9,L 1 I a.1),(10,I a.2)]) (.xe 0 [0,2,3] fun e=>[(9,L 1 I e)]):=⟨⟩
instance t_D:FI J0 109 (∀(a:Int)(b:List Int)(c:Int)(d:List Int),FnK J0 109 [I a,T.ro (lV b),I c,T.ro (lV d)] (fun r=>[lV r]) (fun _=>[]) (f_D a b c d)):=⟨Tryz.call109,fun a b c d=>iM Tryz.func109⟩
instance t_bG:FI J0 273 (∀(a:SPr)(b:Int)(c:List Int),FnK J0 273 [T.ro ((Pt vE) a),I b,T.ro (lV c)] (fun r=>[B r]) (fun _=>[]) (zTC a b c)):=⟨Tryz.call273,fun a b c=>iM Tryz.func273⟩
instance:HS Tryz.f298.8 [(2,1,0,.tr 6 14),(3,2,0,.tr 58 6)]:=⟨⟩
instance(b:Int)(c:(List Int)):LH (R:=(List Int)) (zTE b c) [0,2,6,16] [] (fun a=>[(1,L 1 I a.1),(17,I a.2)]) (.xe 0 [16] fun d=>[(1,L 1 I d)]):=⟨⟩
instance(g_d:SPr→(List Int)→(List Int)→Option (List Int))(d:SPr)(e:Int)(f:(List Int)×Int)(a:Int):LH (R:=(List Int)) (zZS g_d d e f a) [0,2,8,58,59,60,65] [] (fun c=>[(1,L 1 I c.1),(66,I c.2)]) (.xe 4 [8,65] fun b=>[(1,L 1 I b)]):=⟨⟩
instance(g_d:SPr→(List Int)→(List Int)→Option (List Int))(c:SPr)(d:Int)(e:(List Int)):LH (R:=(List Int)) (zZT g_d c d e) [0,2,58,59] [] (fun b=>[(1,L 1 I b.1),(60,I b.2)]) (.xe 2 [0,2,58,59] fun a=>[(1,L 1 I a)]):=⟨⟩
instance(g_d:SPr→(List Int)→(List Int)→Option (List Int))(e:SPr)(f:Int)(b:(List Int)×Int)(c:Int):LH (R:=(List Int)) (zZU g_d e f b c) [0,2,8,58,59,60,65] [] (fun a=>[(1,L 1 I a.1),(66,I a.2)]) (.xe 4 [8,65] fun d=>[(1,L 1 I d)]):=⟨⟩
instance(g_d:SPr→(List Int)→(List Int)→Option (List Int))(c:SPr)(d:Int)(e:(List Int)):LH (R:=(List Int)) (zZV g_d c d e) [0,2,58,59] [] (fun a=>[(1,L 1 I a.1),(60,I a.2)]) (.xe 2 [0,2,58,59] fun b=>[(1,L 1 I b)]):=⟨⟩
theorem yDd{g_d:SPr→(List Int)→(List Int)→Option (List Int)}[FI J0 246 (∀(x0:SPr)(x1:List Int)(x2:List Int),FnK J0 246 [T.ro ((Pt vE) x0),L 1 I x1,T.ro (lV x2)] (fun _:(List Int)=>[]) (fun r=>[(1,lV r)]) (g_d x0 x1 x2))]:∀(x0:SPr)(x1:List Int)(x2:Int),FnK J0 298 [T.ro ((Pt vE) x0),L 1 I x1,I x2] (fun _:(List Int)=>[]) (fun r=>[(1,lV r)]) (b_b g_d x0 x1 x2):=fun x0 x1 x2=>iM Tryz.func298
theorem yDe{g_d:SPr→(List Int)→(List Int)→Option (List Int)}(H_d:∀(x0:SPr)(x1:List Int)(x2:List Int) r,g_d x0 x1 x2=iz r→FnC J0 246 [T.ro ((Pt vE) x0),L 1 I x1,T.ro (lV x2)] [] [(1,lV r)])(x0:SPr)(x1:List Int)(x2:Int)(r:(List Int))(h:b_b g_d x0 x1 x2=iz r):FnC J0 298 [T.ro ((Pt vE) x0),L 1 I x1,I x2] [] [(1,lV r)]:=by have:FI J0 246 (∀(x0:SPr)(x1:List Int)(x2:List Int),FnK J0 246 [T.ro ((Pt vE) x0),L 1 I x1,T.ro (lV x2)] (fun _:(List Int)=>[]) (fun r=>[(1,lV r)]) (g_d x0 x1 x2)):=⟨Tryz.call246,fun x0 x1 x2=>FnK.mk (H_d x0 x1 x2)⟩;exact(yDd x0 x1 x2).go h
instance t_bK:FI J0 235 (∀(a:List (List Int))(b:List (List Int)),FnK J0 235 [T.ro (lM a),T.ro (lM b)] (fun r=>[B r]) (fun _=>[]) (zWw a b)):=⟨Tryz.call235,fun a b=>iM Tryz.func235⟩
instance:HS Tryz.f253.8 [(0,16,0,.tr 12 3),(2,6,0,.tr 3 16)]:=⟨⟩
instance(b:List (List Int)):LH (R:=(List (List Int))) (zMw b) [6,7] [] (fun a=>[(3,L 1 lV a.1),(8,I a.2)]) (.xe 0 [6,7] fun c=>[(3,L 1 lV c)]):=⟨⟩
instance t_aP:FI J0 253 (∀(a:List (List Int)),FnK J0 253 [T.ro (lM a)] (fun r:(List (List Int))=>[lM r]) (fun _=>[]) (zWy a)):=⟨Tryz.call253,fun a=>iM Tryz.func253⟩
end
end Go.Wk
