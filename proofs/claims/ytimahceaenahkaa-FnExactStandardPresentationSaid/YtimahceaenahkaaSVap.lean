/- x -/
import Derived.Test.YtimahceaenahkaaSVaa
import Derived.Test.YtimahceaenahkaaSVag
import Derived.Test.YtimahceaenahkaaSVan
import Derived.Test.YtimahceaenahkaaSWT
open Go.Proofs.Try renaming prog→J0
open Option renaming some→df,none→dg
open Bool renaming true→dh,false→di
namespace Go.Wk
open Go Go.Proofs Go.Ab
set_option maxRecDepth 100000
set_option maxHeartbeats 4000000
section
attribute [local irreducible] RW CW DK OkL Ok zW yB yY xP XS.post rng wA wF ixO zS yQ xC yF zC GTo zF FnC FnK xU wM Kp BsL BuL RpL Bk Lc JQ AK
instance:HS Try.f39.8 [(2,3,0,.tr 10 25),(2,11,0,.tr 13 53),(1,69,0,.tr 68 13),(2,5,0,.tr 10 73),(1,8,0,.trf 74 0 9 [0,0]),(1,8,1,.trf 74 1 9 [1,0])]:=⟨⟩
instance(a:SPr)(b:zE)(c:Int)(d:(List (List Int))×(List Int)×Int):LN (zGI a b c d) 9:=⟨⟩
instance(c:SPr)(d:zE)(e:Int)(f:(List (List Int))×(List Int)×Int)(A0 A1:T):LHk (R:=zE) (zGI c d e f) (T.ptr (T.agg [A0,A1])) [2,3,4,5,8,10,11] [] (fun b=>[(9,T.ptr (T.agg [A0,L 1 lV b.1])),(12,I b.2)]) (.xe 2 [] fun a=>[(9,T.ptr (T.agg [A0,L 1 lV a]))]):=⟨⟩
instance(a:SPr)(b:zE)(c:List Int)(d:Int):LN (zJo a b c d) 9:=⟨⟩
instance(c:SPr)(d:zE)(e:List Int)(f:Int)(A0 A1:T):LHk (R:=zE) (zJo c d e f) (T.ptr (T.agg [A0,A1])) [2,3,4,5,8] [] (fun a=>[(9,T.ptr (T.agg [A0,L 1 lV a.1])),(10,L 1 I a.2.1),(11,I a.2.2)]) (.xe 0 [2,3,4,5] fun b=>[(9,T.ptr (T.agg [A0,L 1 lV b]))]):=⟨⟩
instance t_n:FI J0 39 (∀(a:SPr)(b:zE)(c:List Int)(d:Int),FnK J0 39 [qPr a,zEB b,T.ro (lV c),I d] (fun r=>[(fun x=>T.agg [(L 1 (Ro lV)) x.qP,lM x.wW]) r]) (fun _=>[]) (f_n a b c d)):=⟨Try.call39,fun a b c d=>iM Try.func39⟩
end
end Go.Wk
