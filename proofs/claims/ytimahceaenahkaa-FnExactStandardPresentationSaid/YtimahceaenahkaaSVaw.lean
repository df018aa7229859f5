/- x -/
import Derived.Test.YtimahceaenahkaaSVab
import Derived.Test.YtimahceaenahkaaSVac
import Derived.Test.YtimahceaenahkaaSVao
import Derived.Test.YtimahceaenahkaaSWT
open Go.Proofs.Try renaming prog→J0
open Option renaming some→df,none→dg
open Bool renaming true→dh,false→di
namespace Go.Wk
open Go Go.Proofs Go.Ab
set_option maxRecDepth 100000
set_option maxHeartbeats 4000000
section
attribute [local irreducible] RW CW DK OkL Ok zW yB yY xP XS.post rng wA wF ixO zS yQ xC yF zC GTo zF FnC FnK xU wM Kp BsL BuL RpL Bk Lc JQ AK
instance(b:SPr):LH (R:=Bool) (zH2 b) [1,3,30,31] [] (fun a=>[(4,I a.1),(32,I a.2)]) (.xs (.xe 0 [30,31] fun _=>[]) .xr):=⟨⟩
instance(b:SPr)(c:Int)(a:List (List Int)):LH (R:=Bool) (zLl b c a) [1,3,7,49,50,78,79] [] (fun d=>[(80,I d)]) (.xs (.xe 4 [7,78,79] fun _=>[]) .xr):=⟨⟩
instance(a:SPr):LH (R:=Bool) (zH3 a) [1,3,49] [] (fun b=>[(50,I b)]) (.xs (.xe 2 [1,3,49] fun _=>[]) .xr):=⟨⟩
instance t_j:FI J0 41 (∀(a:SPr),FnK J0 41 [qPr a] (fun r=>[B r]) (fun _=>[]) (f_j a)):=⟨Try.call41,fun a=>iM Try.func41⟩
instance:HS Try.f77.8 [(2,2,0,.tr 7 10)]:=⟨⟩
instance(b:SPr)(c:List Int)(d:Int):LH (R:=(List Int)) (zLq b c d) [0,1,11] [] (fun a=>[(7,L 1 I a.1),(12,I a.2)]) (.xe 0 [0,1,11] fun e=>[(7,L 1 I e)]):=⟨⟩
instance t_Q:FI J0 77 (∀(a:SPr)(b:List Int)(c:Int),FnK J0 77 [T.ro ((Pt wH) a),T.ro (lV b),I c] (fun r=>[lV r]) (fun _=>[]) (f_Q a b c)):=⟨Try.call77,fun a b c=>iM Try.func77⟩
instance:HS Try.f63.8 [(2,2,0,.tr 7 9)]:=⟨⟩
instance t_am:FI J0 63 (∀(a:SPr)(b c:List Int),FnK J0 63 [T.ro ((Pt wH) a),T.ro (lV b),T.ro (lV c)] (fun r=>[lV r]) (fun _=>[]) (zH4 a b c)):=⟨Try.call63,fun a b c=>iM Try.func63⟩
end
end Go.Wk
