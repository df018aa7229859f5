/- x -/
import Derived.Test.YtchnmobojdcikaaGreatKVaq
import Derived.Test.YtchnmobojdcikaaGreatKVar
import Derived.Test.YtchnmobojdcikaaGreatKVas
import Derived.Test.YtchnmobojdcikaaGreatKVat
import Derived.Test.YtchnmobojdcikaaGreatKWT
open Go.Proofs.Tryz renaming prog→J0
open Option renaming some→dJ,none→dK
open Bool renaming true→dL,false→dM
namespace Go.Wk
open Go Go.Proofs Go.Ab
set_option maxRecDepth 100000
set_option maxHeartbeats 4000000
section
attribute [local irreducible] RW CW DK OkL Ok yO yY wQ wK XS.post rng wS xR ixO zQ zZ wP yG zH GTo zX FnC FnK vM uH Kp Lk BsL BuL RpL Bk Lc JQ AK
instance:HS Tryz.f197.8 [(2,2,0,.tr 7 13)]:=⟨⟩
instance(a:(List (List Int))):LH (R:=Bool) (zNp a) [7] [] (fun b=>[(8,I b)]) (.xs (.xe 0 [7] fun _=>[]) .xr):=⟨⟩
instance t_aB:FI J0 197 (∀(a:SPr)(b:zC)(c:List (List Int)),FnK J0 197 [qPr a,wL b,T.ro (lM c)] (fun r=>[B r]) (fun _=>[]) (zR3 a b c)):=⟨Tryz.call197,fun a b c=>iM Tryz.func197⟩
instance t_bB:FI J0 102 (∀(a:SPr)(b:zC)(c:List (List Int))(d:List (List Int)),FnK J0 102 [qPr a,wL b,T.ro (lM c),T.ro (lM d)] (fun r=>[I r]) (fun _=>[]) (zR4 a b c d)):=⟨Tryz.call102,fun a b c d=>iM Tryz.func102⟩
instance t_b5:FI J0 80 (∀(a:SPr)(b:zC)(c:List (List Int)),FnK J0 80 [qPr a,wL b,T.ro (lM c)] (fun r=>[B r.1,I r.2]) (fun _=>[]) (zX1 a b c)):=⟨Tryz.call80,fun a b c=>iM Tryz.func80⟩
instance:HS Tryz.f198.8 [(1,6,0,.trf 17 0 8 [0,0]),(1,6,1,.trf 17 1 8 [1,0]),(1,6,2,.trf 17 2 8 [2,0])]:=⟨⟩
instance t_b6:FI J0 198 (∀(a:SPr)(b:zC)(c:List (List Int)),FnK J0 198 [qPr a,wL b,T.ro (lM c)] (fun r=>[wH r.1,I r.2]) (fun _=>[]) (zXy a b c)):=⟨Tryz.call198,fun a b c=>iM Tryz.func198⟩
instance:HS Tryz.f82.8 [(1,6,0,.trf 22 0 21 [0,0]),(1,6,1,.trf 22 1 21 [1,0]),(1,6,2,.trf 22 2 21 [2,0])]:=⟨⟩
instance t_bF:FI J0 82 (∀(a:SPr)(b:zC)(c:List (List Int)),FnK J0 82 [qPr a,wL b,T.ro (lM c)] (fun r=>[wH r.1,I r.2]) (fun _=>[]) (zR5 a b c)):=⟨Tryz.call82,fun a b c=>iM Tryz.func82⟩
end
end Go.Wk
