/- x -/
import Derived.Test.YtcjmcjcfehbboaaGreatRVab
import Derived.Test.YtcjmcjcfehbboaaGreatRVag
import Derived.Test.YtcjmcjcfehbboaaGreatRVai
import Derived.Test.YtcjmcjcfehbboaaGreatRVak
import Derived.Test.YtcjmcjcfehbboaaGreatRVap
import Derived.Test.YtcjmcjcfehbboaaGreatRWT
open Go.Proofs.Tryz renaming prog->J1,call51->Jac
open Option renaming some->Wu,none->Wv
open Bool renaming true->Ww,false->Wx
namespace Go.Wk
open Go Go.Proofs Go.Ab
set_option maxRecDepth 100000
set_option maxHeartbeats 4000000
section
attribute [local irreducible] RW CW DK OkL Ok yX xC wK wY XS.post rng vP vL ixO zT yR wN yO zF GTo zI FnC FnK vB uC Kp Lk BsL BuL RpL Bk Lc
instance:HS Tryz.f51.8 [(2,2,0,.tr 7 18),(0,30,0,.tr 27 8),(2,8,0,.tr 8 30),(2,15,0,.tr 13 44),(2,16,0,.tr 14 45),(0,58,0,.tr 52 14),(2,20,0,.tr 14 58),(0,62,0,.tr 61 14),(0,63,0,.tr 60 11),(2,22,0,.tr 11 63)]:=⟨⟩
instance(b:Int)(c:(List Int)):LH (R:=(List (List Int))) (zVG b c) [0,1,2,7,19] [] (fun a=>[(8,L 1 I a.1),(20,I a.2)]) (.xe 0 [7,19] fun d=>[(8,L 1 I d)]):=⟨⟩
instance(c d:(List Int)):LH (R:=(List (List Int))) (zVH c d) [2,8,10,11,13,36,37,46,47] [] (fun b=>[(14,L 1 I b.1),(48,I b.2)]) (.xe 4 [13,46,47] fun a=>[(14,L 1 I a)]):=⟨⟩
instance(c:Int)(d:List (List Int))(e:Int)(f:(List Int)):LH (R:=(List (List Int))) (zVI c d e f) [2,8,10,36] [] (fun b=>[(11,L 1 lV b.1),(37,I b.2)]) (.xe 2 [2,8,10,36] fun a=>[(11,L 1 lV a)]):=⟨⟩
instance t_q:FI J1 51 (∀(a:Int)(b:List (List Int))(c:Int),FnK J1 51 [I a,T.ro (lM b),I c] (fun r:(List (List Int))=>[lM r]) (fun _=>[]) (f_q a b c)):=⟨Jac,fun a b c=>iM Tryz.func51⟩
instance t_bl:FI J1 150 (∀(a:SPr)(b c:List Int),FnK J1 150 [T.ro ((Pt yM) a),T.ro (lV b),T.ro (lV c)] (fun r=>[lV r]) (fun _=>[]) (zXS a b c)):=⟨Tryz.call150,fun a b c=>iM Tryz.func150⟩
instance:HS Tryz.f103.8 [(0,36,0,.nil 35 8),(2,7,0,.tr 5 36),(0,38,0,.tr 37 5),(0,40,0,.tr 39 3),(2,4,0,.tr 3 40)]:=⟨⟩
instance(b:xU):LH (R:=(List (List Int))) (zQp b) [0] [] (fun a=>[(3,L 1 lV a.1),(4,I a.2)]) (.xe 0 [0] fun c=>[(3,L 1 lV c)]):=⟨⟩
instance t_aN:FI J1 103 (∀(a:xU),FnK J1 103 [T.ro ((Pt zI6) a)] (fun r:(List (List Int))=>[lM r]) (fun _=>[]) (zXT a)):=⟨Tryz.call103,fun a=>iM Tryz.func103⟩
instance t_aZ:FI J1 117 (∀(a:SPr)(b:List Int),FnK J1 117 [qPr a,T.ro (lV b)] (fun r=>[lV r]) (fun _=>[]) (zOy a b)):=⟨Tryz.call117,fun a b=>iM Tryz.func117⟩
end
end Go.Wk
