/- x -/
import Derived.Test.YtchnmobojdcikaaGreatRVaa
import Derived.Test.YtchnmobojdcikaaGreatRVab
import Derived.Test.YtchnmobojdcikaaGreatRVaf
import Derived.Test.YtchnmobojdcikaaGreatRWT
open Go.Proofs.Tryz renaming prog->J0
open Option renaming some->iW,none->iY
open Bool renaming true->iZ,false->ja
namespace Go.Wk
open Go Go.Proofs Go.Ab
set_option maxRecDepth 100000
set_option maxHeartbeats 4000000
section
attribute [local irreducible] RW CW DK OkL Ok yB yI xF xQ XS.post rng xV xC ixO zL yE yT yD zH GTo zR FnC FnK wA wN Kp Lk BsL BuL RpL Bk Lc JQ AK
instance:HS Tryz.f314.8 [(2,2,0,.trq 9 22 [0]),(2,3,0,.trq 11 27 [0]),(2,4,0,.tr 13 33),(1,8,0,.trf 105 0 14 [0,0]),(1,8,1,.trf 105 1 14 [1,0]),(1,8,2,.trf 105 2 14 [2,0])]:=⟨⟩
instance(a:(List Int)×Bool)(b:List Int):LN (zYQ a b) 14:=⟨⟩
instance(c:(List Int)×Bool)(d:List Int)(A0 A1 A2:T):LHk (R:=SPr) (zYQ c d) (T.ptr (T.agg [A0,A1,A2])) [1,2,3,8,9,13,15] [] (fun b=>[(14,T.ptr (T.agg [A0,L 1 lV b.1,A2])),(16,I b.2)]) (.xe 0 [] fun a=>[(14,T.ptr (T.agg [A0,L 1 lV a,A2]))]):=⟨⟩
instance(a:List Int)(b:(List (List (List Int)))×Int×Int):LN (zWK a b) 14:=⟨⟩
instance(c:List Int)(d:(List (List (List Int)))×Int×Int)(A0 A1 A2:T):LHk (R:=SPr) (zWK c d) (T.ptr (T.agg [A0,A1,A2])) [1,8,9,13,15,17,18] [] (fun b=>[(14,T.ptr (T.agg [A0,A1,L 1 lM b.1])),(19,I b.2)]) (.xe 4 [] fun a=>[(14,T.ptr (T.agg [A0,A1,L 1 lM a]))]):=⟨⟩
instance(a:Int)(b:(List Int)×Bool)(c:List Int):LN (zWL a b c) 14:=⟨⟩
instance(c:Int)(d:(List Int)×Bool)(e:List Int)(A0 A1 A2:T):LHk (R:=SPr) (zWL c d e) (T.ptr (T.agg [A0,A1,A2])) [1,8,9,13,15] [] (fun a=>[(14,T.ptr (T.agg [A0,A1,L 1 lM a.1])),(17,I a.2.1),(18,I a.2.2)]) (.xe 2 [1,9,13,15] fun b=>[(14,T.ptr (T.agg [A0,A1,L 1 lM b]))]):=⟨⟩
instance(b:List Int)(a:(List (List (List Int)))×Int×Int):LN (zWM b a) 14:=⟨⟩
instance(d:List Int)(b:(List (List (List Int)))×Int×Int)(A0 A1 A2:T):LHk (R:=SPr) (zWM d b) (T.ptr (T.agg [A0,A1,A2])) [1,8,9,13,15,17,18] [] (fun a=>[(14,T.ptr (T.agg [A0,A1,L 1 lM a.1])),(19,I a.2)]) (.xe 4 [] fun c=>[(14,T.ptr (T.agg [A0,A1,L 1 lM c]))]):=⟨⟩
instance(a:Int)(b:(List Int)×Bool)(c:List Int):LN (zWN a b c) 14:=⟨⟩
instance(c:Int)(d:(List Int)×Bool)(e:List Int)(A0 A1 A2:T):LHk (R:=SPr) (zWN c d e) (T.ptr (T.agg [A0,A1,A2])) [1,8,9,13,15] [] (fun a=>[(14,T.ptr (T.agg [A0,A1,L 1 lM a.1])),(17,I a.2.1),(18,I a.2.2)]) (.xe 2 [1,9,13,15] fun b=>[(14,T.ptr (T.agg [A0,A1,L 1 lM b]))]):=⟨⟩
instance t_m:FI J0 314 (∀(a b:Int)(c d:Int),FnK J0 314 [I a,I b,I c,I d] (fun r=>[vQ r]) (fun _=>[]) (f_m a b c d)):=⟨Tryz.call314,fun a b c d=>iM Tryz.func314⟩
end
end Go.Wk
