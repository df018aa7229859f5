/- x -/
import Derived.Test.YtcjmcjcfehbboaaGreatRVaf
import Derived.Test.YtcjmcjcfehbboaaGreatRVak
import Derived.Test.YtcjmcjcfehbboaaGreatRVam
import Derived.Test.YtcjmcjcfehbboaaGreatRWT
open Go.Proofs.Tryz renaming prog->J1
open Option renaming some->Wu,none->Wv
open Bool renaming true->Ww,false->Wx
namespace Go.Wk
open Go Go.Proofs Go.Ab
set_option maxRecDepth 100000
set_option maxHeartbeats 4000000
section
attribute [local irreducible] RW CW DK OkL Ok yX xC wK wY XS.post rng vP vL ixO zT yR wN yO zF GTo zI FnC FnK vB uC Kp Lk BsL BuL RpL Bk Lc
instance:HS Tryz.f62.8 [(2,2,0,.tr 7 16),(2,6,0,.tr 9 24),(2,6,1,.tr 10 33),(0,53,0,.tr 34 7),(2,7,0,.tr 7 53),(2,11,0,.tr 12 63),(2,11,1,.tr 13 72),(0,92,0,.tr 73 7),(2,12,0,.tr 7 92),(0,112,0,.tr 93 7),(2,13,0,.tr 7 112),(2,17,0,.tr 15 122),(0,142,0,.tr 123 7)]:=⟨⟩
instance(d:SPr)(e f:Int)(g b:(List Int)):LH (R:=(List (List Int))) (zVS d e f g b) [1,2,3,8,9,10,11,12] [] (fun a=>[(7,L 1 lV a.1),(14,I a.2)]) (.xe 4 [12] fun c=>[(7,L 1 lV c)]):=⟨⟩
instance(c:SPr)(d e:Int)(f g:(List Int)):LH (R:=(List (List Int))) (zVT c d e f g) [1,2,3,8,9,10] [] (fun a=>[(7,L 1 lV a.1),(11,I a.2)]) (.xe 2 [9,10] fun b=>[(7,L 1 lV b)]):=⟨⟩
instance(c:SPr)(d e:Int):LH (R:=(List (List Int))) (zVU c d e) [1,2,3] [] (fun a=>[(7,L 1 lV a.1),(8,I a.2)]) (.xe 0 [1,2,3] fun b=>[(7,L 1 lV b)]):=⟨⟩
instance t_r:FI J1 62 (∀(a:SPr)(b c:Int),FnK J1 62 [qPr a,I b,I c] (fun r:(List (List Int))=>[lM r]) (fun _=>[]) (f_r a b c)):=⟨Tryz.call62,fun a b c=>iM Tryz.func62⟩
end
end Go.Wk
