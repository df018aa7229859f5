/- x -/
import Derived.Test.YtcjmcjcfehbboaaGreatRVab
import Derived.Test.YtcjmcjcfehbboaaGreatRVae
import Derived.Test.YtcjmcjcfehbboaaGreatRVal
import Derived.Test.YtcjmcjcfehbboaaGreatRVaq
import Derived.Test.YtcjmcjcfehbboaaGreatRVar
import Derived.Test.YtcjmcjcfehbboaaGreatRVas
import Derived.Test.YtcjmcjcfehbboaaGreatRVau
import Derived.Test.YtcjmcjcfehbboaaGreatRVav
import Derived.Test.YtcjmcjcfehbboaaGreatRVaw
import Derived.Test.YtcjmcjcfehbboaaGreatRVba
import Derived.Test.YtcjmcjcfehbboaaGreatRVbb
import Derived.Test.YtcjmcjcfehbboaaGreatRWT
open Go.Proofs.Tryz renaming prog->J1
open Option renaming some->Wu,none->Wv
open Bool renaming true->Ww,false->Wx
namespace Go.Wk
open Go Go.Proofs Go.Ab
set_option maxRecDepth 100000
set_option maxHeartbeats 4000000
section
attribute [local irreducible] RW CW DK OkL Ok yX xC wK wY XS.post rng vP vL ixO zT yR wN yO zF GTo zI FnC FnK vB uC Kp Lk BsL BuL RpL Bk Lc
instance:HS Tryz.f32.8 [(0,42,0,.fz 41),(2,5,0,.tr 13 42),(2,6,0,.tr 14 45),(2,7,0,.tr 15 46),(2,11,0,.tr 17 58),(0,77,0,.tr 69 15),(2,9,0,.tr 15 77),(2,15,0,.tr 13 83),(2,19,0,.tr 19 98),(2,19,1,.fz 19),(0,104,0,.tr 99 13),(2,17,0,.tr 13 104),(0,107,0,.fz 13),(0,107,1,.res 106 13 []),(2,21,0,.tr 13 107),(2,22,0,.tr 14 114),(0,140,0,.fi 9 11),(0,140,1,.resf 138 0 11 [0,0]),(0,140,2,.resf 138 1 11 [1,0]),(0,140,3,.resf 138 2 11 [2,0]),(0,140,4,.fz 15),(0,140,5,.res 139 15 []),(2,28,0,.tr 21 140),(2,29,0,.tr 22 141),(0,157,0,.tr 148 22)]:=⟨⟩
instance(c:Int)(d:SPr)(e:List (List Int))(f:Int)(g:(List (List Int)))(h:(List Int)):LH (R:=SPr×(List (List Int))) (zSe c d e f g h) [1,3,4,8,10,11,12,13,14] [] (fun b=>[(15,L 1 lV b.1),(16,I b.2)]) (.xe 0 [3,12,14] fun a=>[(15,L 1 lV a)]):=⟨⟩
instance(e:yF)(f:SPr)(a:(List (List Int)))(b:SPr):LH (R:=SPr×(List (List Int))) (zOJ e f a b) [1,4,8,10,11,15] [] (fun d=>[(13,L 1 (Ro lV) d.1),(18,I d.2)]) (.xe 2 [4] fun c=>[(13,L 1 (Ro lV) c)]):=⟨⟩
instance(e:Int)(f:SPr)(a:(List (List Int)))(b:(List Int)):LH (R:=SPr×(List (List Int))) (zVV e f a b) [1,8,10,11,13,14] [] (fun d=>[(15,L 1 lV d.1),(20,I d.2)]) (.xe 4 [14] fun c=>[(15,L 1 lV c)]):=⟨⟩
instance(a:(List (List Int)))(b:SPr)(c:(List (List Int))):LH (R:=SPr×(List (List Int))) (zVW a b c) [8,11,15,21] [] (fun e=>[(22,L 1 lV e.1),(23,I e.2)]) (.xe 6 [15] fun d=>[(22,L 1 lV d)]):=⟨⟩
instance t_o:FI J1 32 (∀(a:yF)(b:Int)(c:SPr)(d:List (List Int)),FnK J1 32 [qG a,I b,qPr c,T.ro (lM d)] (fun r:SPr×(List (List Int))=>[yM r.1,lM r.2]) (fun _=>[]) (f_o a b c d)):=⟨Tryz.call32,fun a b c d=>iM Tryz.func32⟩
end
end Go.Wk
