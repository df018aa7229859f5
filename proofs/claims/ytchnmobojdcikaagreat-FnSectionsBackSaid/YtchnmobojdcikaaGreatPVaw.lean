/- x -/
import Derived.Test.YtchnmobojdcikaaGreatPVaa
import Derived.Test.YtchnmobojdcikaaGreatPVad
import Derived.Test.YtchnmobojdcikaaGreatPVag
import Derived.Test.YtchnmobojdcikaaGreatPVam
import Derived.Test.YtchnmobojdcikaaGreatPVap
import Derived.Test.YtchnmobojdcikaaGreatPVas
import Derived.Test.YtchnmobojdcikaaGreatPWT
open Go.Proofs.Tryz renaming prog→J0
open Option renaming some→aB,none→aC
open Bool renaming true→aD,false→aE
namespace Go.Wk
open Go Go.Proofs Go.Ab
set_option maxRecDepth 100000
set_option maxHeartbeats 4000000
section
attribute [local irreducible] RW CW DK OkL Ok yA yB xE xH XS.post rng xK yV ixO zN yD xC zU zC GTo zO FnC FnK xV wG Kp Lk BsL BuL RpL Bk Lc JQ AK
instance(a:SPr):LH (R:=yH) (zJt a) [1,2] [] (fun b=>[(3,I b)]) (.xs (.xe 0 [1] fun _=>[]) .xr):=⟨⟩
instance t_ay:FI J0 291 (∀(a:SPr),FnK J0 291 [qPr a] (fun r=>[zEV r]) (fun _=>[]) (zUn a)):=⟨Tryz.call291,fun a=>iM Tryz.func291⟩
instance:HS Tryz.f234.8 [(0,37,0,.tr 21 3),(0,77,0,.tr 66 3),(2,15,0,.tr 3 77)]:=⟨⟩
instance(b:SPr):LH (R:=(List ((List Int)×(List Int)))) (zP2 b) [0,14,15] [] (fun a=>[(3,L 2 (A2 lV) a.1),(16,I a.2)]) (.xe 0 [14,15] fun c=>[(3,L 2 (A2 lV) c)]):=⟨⟩
instance(c:(List ((List Int)×(List Int)))×Int)(d:List (List Int)):LH (R:=(List ((List Int)×(List Int)))) (zP3 c d) [0,6,43,44,53,54] [] (fun b=>[(3,L 2 (A2 lV) b.1),(55,I b.2)]) (.xe 4 [6,53,54] fun a=>[(3,L 2 (A2 lV) a)]):=⟨⟩
instance(c:SPr):LH (R:=(List ((List Int)×(List Int)))) (zP4 c) [0,43] [] (fun b=>[(3,L 2 (A2 lV) b.1),(44,I b.2)]) (.xe 2 [0,43] fun a=>[(3,L 2 (A2 lV) a)]):=⟨⟩
instance t_x:FI J0 234 (∀(a:SPr),FnK J0 234 [T.ro ((Pt xT) a)] (fun r:(List ((List Int)×(List Int)))=>[(L 2 (A2 lV)) r]) (fun _=>[]) (f_x a)):=⟨Tryz.call234,fun a=>iM Tryz.func234⟩
instance:HS Tryz.f116.8 [(0,45,0,.tr 33 8),(2,7,0,.tr 8 45),(0,76,0,.tr 70 8),(2,18,0,.tr 8 76),(2,18,1,.tr 11 83),(0,83,0,.tr 77 11),(0,88,0,.tr 87 11),(0,89,0,.trq 86 7 [2,0]),(1,5,0,.trf 95 2 7 [2,0])]:=⟨⟩
instance(b:SPr)(c:Int):LH (R:=SPr×zG×(List (List Int))) (zQl b c) [0,1,4,5,7,29] [] (fun a=>[(8,L 1 lV a.1),(30,I a.2)]) (.xe 0 [29] fun d=>[(8,L 1 lV d)]):=⟨⟩
instance(c:Int)(d:(List (List (List Int)))×(List (List Int))×Int)(e:List (List Int)):LH (R:=SPr×zG×(List (List Int))) (zKB c d e) [0,1,4,5,7,10,47,48,57,58] [] (fun b=>[(8,L 1 lV b.1),(11,L 1 lV b.2.1),(59,I b.2.2)]) (.xe 4 [10,57,58] fun a=>[(8,L 1 lV a.1),(11,L 1 lV a.2)]):=⟨⟩
instance(a:SPr)(b:Int):LN (zKC a b) 7:=⟨⟩
instance(c:SPr)(d:Int)(A0 A1 A2:T):LHk (R:=SPr×zG×(List (List Int))) (zKC c d) (T.ptr (T.agg [A0,A1,A2])) [0,1,4,5,47] [] (fun b=>[(7,T.ptr (T.agg [A0,A1,L 1 lM b.1])),(8,L 1 lV b.2.1),(48,I b.2.2)]) (.xe 2 [47] fun a=>[(7,T.ptr (T.agg [A0,A1,L 1 lM a.1])),(8,L 1 lV a.2)]):=⟨⟩
instance t_t:FI J0 116 (∀(a:SPr)(b:Int),FnK J0 116 [T.ro ((Pt xT) a),I b] (fun r:SPr×zG×(List (List Int))=>[xT r.1,xU r.2.1,lM r.2.2]) (fun _=>[]) (f_t a b)):=⟨Tryz.call116,fun a b=>iM Tryz.func116⟩
instance t_a8:FI J0 28 (∀(a b:zG),FnK J0 28 [zDE a,zDE b] (fun r=>[B r]) (fun _=>[]) (zNo a b)):=⟨Tryz.call28,fun a b=>iM Tryz.func28⟩
end
end Go.Wk
