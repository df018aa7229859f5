/- x -/
import Derived.Test.YtimahceaenahkaaSVab
import Derived.Test.YtimahceaenahkaaSWT
open Go.Proofs.Try renaming prog→J0
open Option renaming some→df,none→dg
open Bool renaming true→dh,false→di
namespace Go.Wk
open Go Go.Proofs Go.Ab
set_option maxRecDepth 100000
set_option maxHeartbeats 4000000
section
attribute [local irreducible] RW CW DK OkL Ok zW yB yY xP XS.post rng wA wF ixO zS yQ xC yF zC GTo zF FnC FnK xU wM Kp BsL BuL RpL Bk Lc JQ AK
instance(a b:List Int)(c:Int):LH (R:=Bool) (zMR a b c) [0,1,2] [] (fun d=>[(7,I d)]) (.xs (.xe 0 [0,1,2] fun _=>[]) .xr):=⟨⟩
instance t_O:FI J0 51 (∀(a b:List Int)(c:Int),FnK J0 51 [T.ro (lV a),T.ro (lV b),I c] (fun r=>[B r]) (fun _=>[]) (f_O a b c)):=⟨Try.call51,fun a b c=>iM Try.func51⟩
instance(a:SPr)(b:List Int):LH (R:=Bool) (zMW a b) [0,15,16] [] (fun c=>[(17,I c)]) (.xs (.xe 0 [0,15,16] fun _=>[]) .xr):=⟨⟩
instance t_X:FI J0 74 (∀(a:SPr)(b:List Int),FnK J0 74 [T.ro ((Pt wH) a),T.ro (lV b)] (fun r=>[B r]) (fun _=>[]) (f_X a b)):=⟨Try.call74,fun a b=>iM Try.func74⟩
instance:HS Try.f89.8 [(2,1,0,.tr 6 14),(3,2,0,.tr 58 6)]:=⟨⟩
instance(b:Int)(c:(List Int)):LH (R:=(List Int)) (zLm b c) [0,2,6,16] [] (fun a=>[(1,L 1 I a.1),(17,I a.2)]) (.xe 0 [16] fun d=>[(1,L 1 I d)]):=⟨⟩
instance(g_c:SPr→(List Int)→(List Int)→Option (List Int))(d:SPr)(e:Int)(f:(List Int)×Int)(a:Int):LH (R:=(List Int)) (zOU g_c d e f a) [0,2,8,58,59,60,65] [] (fun c=>[(1,L 1 I c.1),(66,I c.2)]) (.xe 4 [8,65] fun b=>[(1,L 1 I b)]):=⟨⟩
instance(g_c:SPr→(List Int)→(List Int)→Option (List Int))(c:SPr)(d:Int)(e:(List Int)):LH (R:=(List Int)) (zOV g_c c d e) [0,2,58,59] [] (fun b=>[(1,L 1 I b.1),(60,I b.2)]) (.xe 2 [0,2,58,59] fun a=>[(1,L 1 I a)]):=⟨⟩
instance(g_c:SPr→(List Int)→(List Int)→Option (List Int))(e:SPr)(f:Int)(b:(List Int)×Int)(c:Int):LH (R:=(List Int)) (zOW g_c e f b c) [0,2,8,58,59,60,65] [] (fun a=>[(1,L 1 I a.1),(66,I a.2)]) (.xe 4 [8,65] fun d=>[(1,L 1 I d)]):=⟨⟩
instance(g_c:SPr→(List Int)→(List Int)→Option (List Int))(c:SPr)(d:Int)(e:(List Int)):LH (R:=(List Int)) (zOX g_c c d e) [0,2,58,59] [] (fun a=>[(1,L 1 I a.1),(60,I a.2)]) (.xe 2 [0,2,58,59] fun b=>[(1,L 1 I b)]):=⟨⟩
theorem zR4{g_c:SPr→(List Int)→(List Int)→Option (List Int)}[FI J0 81 (∀(x0:SPr)(x1:List Int)(x2:List Int),FnK J0 81 [T.ro ((Pt wH) x0),L 1 I x1,T.ro (lV x2)] (fun _:(List Int)=>[]) (fun r=>[(1,lV r)]) (g_c x0 x1 x2))]:∀(x0:SPr)(x1:List Int)(x2:Int),FnK J0 89 [T.ro ((Pt wH) x0),L 1 I x1,I x2] (fun _:(List Int)=>[]) (fun r=>[(1,lV r)]) (b_b g_c x0 x1 x2):=fun x0 x1 x2=>iM Try.func89
theorem zR5{g_c:SPr→(List Int)→(List Int)→Option (List Int)}(H_c:∀(x0:SPr)(x1:List Int)(x2:List Int) r,g_c x0 x1 x2=df r→FnC J0 81 [T.ro ((Pt wH) x0),L 1 I x1,T.ro (lV x2)] [] [(1,lV r)])(x0:SPr)(x1:List Int)(x2:Int)(r:(List Int))(h:b_b g_c x0 x1 x2=df r):FnC J0 89 [T.ro ((Pt wH) x0),L 1 I x1,I x2] [] [(1,lV r)]:=by have:FI J0 81 (∀(x0:SPr)(x1:List Int)(x2:List Int),FnK J0 81 [T.ro ((Pt wH) x0),L 1 I x1,T.ro (lV x2)] (fun _:(List Int)=>[]) (fun r=>[(1,lV r)]) (g_c x0 x1 x2)):=⟨Try.call81,fun x0 x1 x2=>FnK.mk (H_c x0 x1 x2)⟩;exact(zR4 x0 x1 x2).go h
instance:HS Try.f48.8 [(0,23,0,.tr 14 5),(2,4,0,.tr 5 23)]:=⟨⟩
instance(b:List Int)(c:Int):LH (R:=(List (List Int))) (zLA b c) [0,1] [] (fun a=>[(5,L 1 lV a.1),(6,I a.2)]) (.xe 0 [0,1] fun d=>[(5,L 1 lV d)]):=⟨⟩
instance t_D:FI J0 48 (∀(a:List Int)(b:Int),FnK J0 48 [T.ro (lV a),I b] (fun r:(List (List Int))=>[lM r]) (fun _=>[]) (f_D a b)):=⟨Try.call48,fun a b=>iM Try.func48⟩
end
end Go.Wk
