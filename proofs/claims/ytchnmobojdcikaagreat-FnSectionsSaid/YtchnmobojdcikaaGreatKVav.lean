/- x -/
import Derived.Test.YtchnmobojdcikaaGreatKVaq
import Derived.Test.YtchnmobojdcikaaGreatKVar
import Derived.Test.YtchnmobojdcikaaGreatKVas
import Derived.Test.YtchnmobojdcikaaGreatKVat
import Derived.Test.YtchnmobojdcikaaGreatKWT
open Go.Proofs.Tryz renaming prog→J0
open Option renaming some→dJ,none→dK
open Bool renaming true→dL,false→dM
namespace Go.Wk
open Go Go.Proofs Go.Ab
set_option maxRecDepth 100000
set_option maxHeartbeats 4000000
section
attribute [local irreducible] RW CW DK OkL Ok yO yY wQ wK XS.post rng wS xR ixO zQ zZ wP yG zH GTo zX FnC FnK vM uH Kp Lk BsL BuL RpL Bk Lc JQ AK
instance t_bO:FI J0 126 (∀(a:SPr)(b:zC)(c:List (List Int)),FnK J0 126 [T.ro ((Pt wH) a),T.ro ((Pt wB) b),T.ro (lM c)] (fun r=>[B r]) (fun _=>[]) (zUX a b c)):=⟨Tryz.call126,fun a b c=>iM Tryz.func126⟩
instance(a:SPr)(b:zC)(c:List (List (List Int))):LH (R:=Int) (zNt a b c) [0,1,2,15,16] [] (fun d=>[(17,I d)]) (.xs (.xe 0 [15,16] fun _=>[]) .xr):=⟨⟩
instance(a:SPr)(b:zC)(c:List (List (List Int))):LH (R:=Int) (zNu a b c) [0,1,27,28] [] (fun d=>[(29,I d)]) (.xs (.xe 2 [0,1,27,28] fun _=>[]) .xr):=⟨⟩
instance t_ae:FI J0 99 (∀(a:SPr)(b:zC)(c:List (List (List Int))),FnK J0 99 [T.ro ((Pt wH) a),T.ro ((Pt wB) b),T.ro (lC c)] (fun r=>[I r]) (fun _=>[]) (zVc a b c)):=⟨Tryz.call99,fun a b c=>iM Tryz.func99⟩
instance t_b4:FI J0 31 (∀(a:SPr)(b:zC)(c:List (List Int)),FnK J0 31 [qPr a,wL b,T.ro (lM c)] (fun r=>[B r.1,I r.2]) (fun _=>[]) (zX2 a b c)):=⟨Tryz.call31,fun a b c=>iM Tryz.func31⟩
instance:HS Tryz.f32.8 [(1,6,0,.trf 18 0 17 [0,0]),(1,6,1,.trf 18 1 17 [1,0]),(1,6,2,.trf 18 2 17 [2,0])]:=⟨⟩
instance t_bE:FI J0 32 (∀(a:SPr)(b:zC)(c:List (List Int)),FnK J0 32 [qPr a,wL b,T.ro (lM c)] (fun r=>[wH r.1,I r.2]) (fun _=>[]) (zR6 a b c)):=⟨Tryz.call32,fun a b c=>iM Tryz.func32⟩
end
end Go.Wk
