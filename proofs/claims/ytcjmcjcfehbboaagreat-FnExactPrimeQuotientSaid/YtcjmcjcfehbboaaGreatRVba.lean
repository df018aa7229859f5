/- x -/
import Derived.Test.YtcjmcjcfehbboaaGreatRVag
import Derived.Test.YtcjmcjcfehbboaaGreatRVav
import Derived.Test.YtcjmcjcfehbboaaGreatRVaw
import Derived.Test.YtcjmcjcfehbboaaGreatRWT
open Go.Proofs.Tryz renaming prog->J1,f68->Jar
open Option renaming some->Wu,none->Wv
open Bool renaming true->Ww,false->Wx
namespace Go.Wk
open Go Go.Proofs Go.Ab
set_option maxRecDepth 100000
set_option maxHeartbeats 4000000
section
attribute [local irreducible] RW CW DK OkL Ok yX xC wK wY XS.post rng vP vL ixO zT yR wN yO zF GTo zI FnC FnK vB uC Kp Lk BsL BuL RpL Bk Lc
instance:HS Jar.8 [(2,3,0,.tr 6 17),(3,0,0,.tr 7 19),(0,33,0,.tr 29 7),(2,7,0,.tr 7 33),(2,8,0,.trq 10 38 [1]),(2,10,0,.tr 11 56),(1,60,0,.tr 59 11),(0,63,0,.tr 62 10),(0,64,0,.tr 61 7),(2,12,0,.tr 7 64),(0,75,0,.tr 65 7),(2,13,0,.tr 7 75),(0,101,0,.tr 92 7),(0,104,0,.fz 6),(0,104,1,.res 103 6 [])]:=⟨⟩
instance:HX Jar.8 [(0,33,0,.trh 8 7),(2,11,0,.rd2 59 11)]:=⟨⟩
instance:DrH Jar.8 33:=⟨⟩
instance(d:SPr)(e:(List (List Int))×(List (List Int)))(f:Int×(List Int))(a:(List Int)):LH (R:=(List (List Int))) (zRP d e f a) [2,5,6,9,11] [] (fun c=>[(7,L 1 lV c.1),(12,I c.2)]) (.xe 2 [9,11] fun b=>[(7,L 1 lV b)]):=⟨⟩
instance(c:SPr):LH (R:=(List (List Int))) (zRQ c) [2,5] [] (fun b=>[(6,L 1 lV b.1),(7,L 1 lV b.2)]) (.xe 0 [5] fun a=>[(6,L 1 lV a)]):=⟨⟩
instance t_E:FI J1 68 (∀(a:SPr)(b:List (List Int)),FnK J1 68 [qPr a,T.ro (lM b)] (fun r:(List (List Int))=>[(L 1 (Ro lV)) r]) (fun _=>[]) (f_E a b)):=⟨Tryz.call68,fun a b=>iM Tryz.func68⟩
end
end Go.Wk
