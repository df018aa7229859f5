/- x -/
import Derived.Test.YtcjmcjcfehbboaaGreatRVac
import Derived.Test.YtcjmcjcfehbboaaGreatRVae
import Derived.Test.YtcjmcjcfehbboaaGreatRVag
import Derived.Test.YtcjmcjcfehbboaaGreatRVai
import Derived.Test.YtcjmcjcfehbboaaGreatRVav
import Derived.Test.YtcjmcjcfehbboaaGreatRVaw
import Derived.Test.YtcjmcjcfehbboaaGreatRVaz
import Derived.Test.YtcjmcjcfehbboaaGreatRWT
open Go.Proofs.Tryz renaming prog->J1,call50->Jad
open Option renaming some->Wu,none->Wv
open Bool renaming true->Ww,false->Wx
namespace Go.Wk
open Go Go.Proofs Go.Ab
set_option maxRecDepth 100000
set_option maxHeartbeats 4000000
section
attribute [local irreducible] RW CW DK OkL Ok yX xC wK wY XS.post rng vP vL ixO zT yR wN yO zF GTo zI FnC FnK vB uC Kp Lk BsL BuL RpL Bk Lc
instance:HS Tryz.f50.8 [(0,48,0,.tr 37 13),(2,9,0,.tr 13 48),(1,8,0,.trf 50 0 12 [0,0]),(1,8,1,.trf 50 1 12 [1,0]),(1,8,2,.trf 50 2 12 [2,0])]:=⟨⟩
instance(c:List (List Int))(d:List (List Int))(e:Int):LH (R:=SPr×(List (List Int))) (zVJ c d e) [3,8,10,12,30,31] [] (fun b=>[(13,L 1 lV b.1),(32,I b.2)]) (.xe 0 [3,10,30,31] fun a=>[(13,L 1 lV a)]):=⟨⟩
instance t_X:FI J1 50 (∀(a:SPr)(b:Int)(c:List (List Int))(d:List (List Int)),FnK J1 50 [T.ro ((Pt yM) a),I b,T.ro (lM c),T.ro (lM d)] (fun r:SPr×(List (List Int))=>[yM r.1,lM r.2]) (fun _=>[]) (f_X a b c d)):=⟨Jad,fun a b c d=>iM Tryz.func50⟩
instance:HS Tryz.f70.8 [(0,36,0,.trq 20 5 [1,0]),(2,7,0,.tr 7 38),(0,62,0,.tr 47 7),(0,66,0,.tr 65 7),(0,67,0,.trq 64 5 [2,0]),(1,4,0,.trf 69 0 5 [0,0]),(1,4,1,.trf 69 1 5 [1,0]),(1,4,2,.trf 69 2 5 [2,0])]:=⟨⟩
instance(c:SPr)(d:List (List Int))(e:(List (List Int))×(List (List (List Int)))×Int):LH (R:=SPr) (zSc c d e) [1,2,4,5,6] [] (fun b=>[(7,L 1 lV b.1),(8,I b.2)]) (.xe 2 [] fun a=>[(7,L 1 lV a)]):=⟨⟩
instance(d:SPr)(e:List (List Int))(b:(List Int)):LH (R:=SPr) (zSd d e b) [1,2,4] [] (fun c=>[(5,T.ptr (T.agg [L 1 I b,L 1 lV c.1,L 1 lM c.2.1])),(6,I c.2.2)]) (.xe 0 [1,2] fun a=>[(5,T.ptr (T.agg [L 1 I b,L 1 lV a.1,L 1 lM a.2]))]):=⟨⟩
instance t_M:FI J1 70 (∀(a:SPr)(b:List (List Int)),FnK J1 70 [qPr a,T.ro (lM b)] (fun r=>[yM r]) (fun _=>[]) (f_M a b)):=⟨Tryz.call70,fun a b=>iM Tryz.func70⟩
end
end Go.Wk
