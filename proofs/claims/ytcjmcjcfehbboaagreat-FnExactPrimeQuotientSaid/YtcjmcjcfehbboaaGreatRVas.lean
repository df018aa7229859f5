/- x -/
import Derived.Test.YtcjmcjcfehbboaaGreatRVab
import Derived.Test.YtcjmcjcfehbboaaGreatRVag
import Derived.Test.YtcjmcjcfehbboaaGreatRVam
import Derived.Test.YtcjmcjcfehbboaaGreatRWT
open Go.Proofs.Tryz renaming prog->J1
open Option renaming some->Wu,none->Wv
open Bool renaming true->Ww,false->Wx
namespace Go.Wk
open Go Go.Proofs Go.Ab
set_option maxRecDepth 100000
set_option maxHeartbeats 4000000
section
attribute [local irreducible] RW CW DK OkL Ok yX xC wK wY XS.post rng vP vL ixO zT yR wN yO zF GTo zI FnC FnK vB uC Kp Lk BsL BuL RpL Bk Lc
instance:HS Tryz.f61.8 [(2,2,0,.tr 5 12),(2,6,0,.tr 7 25),(0,7,0,.fz 40),(2,10,0,.tr 9 41),(0,62,0,.tr 59 9),(2,15,0,.tr 9 62),(0,80,0,.fz 79),(0,81,0,.tr 63 9),(0,87,0,.tr 84 9),(2,19,0,.tr 9 87),(2,4,0,.tr 5 9)]:=⟨⟩
instance(c:Int)(d:(List (List Int))×Int)(e:Int)(f:(List Int)):LH (R:=(List (List Int))) (zIP c d e f) [0,1,5,6,7,8] [] (fun b=>[(9,L 1 (Ro lV) b.1),(10,B b.2.1),(11,I b.2.2)]) (.xe 2 [5,8] fun a=>[(9,L 1 (Ro lV) a.1),(10,B a.2)]):=⟨⟩
instance(c:Int)(d:List (List Int)):LH (R:=(List (List Int))) (zR5 c d) [0,1] [] (fun b=>[(5,L 1 (Ro lV) b.1),(6,I b.2)]) (.xe 0 [0,1] fun a=>[(5,L 1 (Ro lV) a)]):=⟨⟩
instance t_p:FI J1 61 (∀(a:Int)(b:List (List Int)),FnK J1 61 [I a,T.ro (lM b)] (fun r:(List (List Int))=>[(L 1 (Ro lV)) r]) (fun _=>[]) (f_p a b)):=⟨Tryz.call61,fun a b=>iM Tryz.func61⟩
end
end Go.Wk
