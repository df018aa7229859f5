/- x -/
import Derived.Test.YtchnmobojdcikaaGreatPVaa
import Derived.Test.YtchnmobojdcikaaGreatPVao
import Derived.Test.YtchnmobojdcikaaGreatPVba
import Derived.Test.YtchnmobojdcikaaGreatPVbc
import Derived.Test.YtchnmobojdcikaaGreatPWT
open Go.Proofs.Tryz renaming prog→J0
open Option renaming some→aB,none→aC
open Bool renaming true→aD,false→aE
namespace Go.Wk
open Go Go.Proofs Go.Ab
set_option maxRecDepth 100000
set_option maxHeartbeats 4000000
section
attribute [local irreducible] RW CW DK OkL Ok yA yB xE xH XS.post rng xK yV ixO zN yD xC zU zC GTo zO FnC FnK xV wG Kp Lk BsL BuL RpL Bk Lc JQ AK
instance:HS Tryz.f26.8 [(1,9,0,.trf 42 0 41 [0,0]),(1,9,1,.trf 42 1 41 [1,0]),(1,9,2,.trf 42 2 41 [2,0]),(2,11,0,.tr 12 54),(0,70,0,.tr 60 12),(2,15,0,.tr 12 70),(2,16,0,.tr 14 71),(0,94,0,.tr 78 14),(2,18,0,.tr 14 94),(0,98,0,.tr 97 14),(0,99,0,.trq 96 11 [2,0]),(0,129,0,.tr 113 12),(2,26,0,.tr 12 129),(1,4,0,.trf 130 0 9 [0,0]),(1,4,1,.trf 130 1 9 [1,0]),(1,4,2,.trf 130 2 9 [2,0]),(1,5,0,.trf 131 2 11 [2,0])]:=⟨⟩
instance(c:SPr)(d:Int)(e:(List (List (List Int)))×(List (List Int))×Int):LH (R:=SPr×zG×(List (List Int))×Int) (zNl c d e) [1,2,4,5,8,9,11,12,13] [] (fun b=>[(14,L 1 lV b.1),(15,I b.2)]) (.xe 2 [] fun a=>[(14,L 1 lV a)]):=⟨⟩
instance(a:SPr)(b:Int):LN (zKE a b) 11:=⟨⟩
instance(c:SPr)(d:Int)(A0 A1 A2:T):LHk (R:=SPr×zG×(List (List Int))×Int) (zKE c d) (T.ptr (T.agg [A0,A1,A2])) [1,2,4,5,8,9] [] (fun b=>[(11,T.ptr (T.agg [A0,A1,L 1 lM b.1])),(12,L 1 lV b.2.1),(13,I b.2.2)]) (.xe 0 [8] fun a=>[(11,T.ptr (T.agg [A0,A1,L 1 lM a.1])),(12,L 1 lV a.2)]):=⟨⟩
instance(d:SPr)(e:Int)(b:(List (List Int))×Int):LH (R:=SPr×zG×(List (List Int))×Int) (zNm d e b) [1,2,4,5,9,11,16] [] (fun a=>[(12,L 1 lV a.1),(17,I a.2)]) (.xe 6 [] fun c=>[(12,L 1 lV c)]):=⟨⟩
instance(c:SPr)(d:Int):LH (R:=SPr×zG×(List (List Int))×Int) (zNn c d) [1,2,4,5,9,11] [] (fun a=>[(12,L 1 lV a.1),(16,I a.2)]) (.xe 4 [1,2] fun b=>[(12,L 1 lV b)]):=⟨⟩
instance t_i:FI J0 26 (∀(a:SPr)(b:Int),FnK J0 26 [qPr a,I b] (fun r:SPr×zG×(List (List Int))×Int=>[xT r.1,xU r.2.1,lM r.2.2.1,I r.2.2.2]) (fun _=>[]) (f_i a b)):=⟨Tryz.call26,fun a b=>iM Tryz.func26⟩
end
end Go.Wk
