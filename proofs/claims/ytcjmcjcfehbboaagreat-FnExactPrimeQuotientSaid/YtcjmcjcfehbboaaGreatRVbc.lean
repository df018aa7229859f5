/- x -/
import Derived.Test.YtcjmcjcfehbboaaGreatRVai
import Derived.Test.YtcjmcjcfehbboaaGreatRVak
import Derived.Test.YtcjmcjcfehbboaaGreatRVap
import Derived.Test.YtcjmcjcfehbboaaGreatRWT
open Go.Proofs.Tryz renaming prog->J1,call55->Jbx
open Option renaming some->Wu,none->Wv
open Bool renaming true->Ww,false->Wx
namespace Go.Wk
open Go Go.Proofs Go.Ab
set_option maxRecDepth 100000
set_option maxHeartbeats 4000000
section
attribute [local irreducible] RW CW DK OkL Ok yX xC wK wY XS.post rng vP vL ixO zT yR wN yO zF GTo zI FnC FnK vB uC Kp Lk BsL BuL RpL Bk Lc
instance:HS Tryz.f55.8 [(2,3,0,.tr 6 19),(0,41,0,.trq 38 5 [0,0]),(2,9,0,.trq 10 50 [0]),(0,56,0,.tr 55 10),(0,57,0,.trq 54 5 [1,0]),(2,15,0,.trq 15 75 [0]),(0,80,0,.tr 79 15),(0,81,0,.tr 78 12),(2,16,0,.tr 12 81),(0,86,0,.tr 85 12),(0,87,0,.trq 84 5 [2,0]),(1,4,0,.trf 90 0 5 [0,0]),(1,4,1,.trf 90 1 5 [1,0]),(1,4,2,.trf 90 2 5 [2,0])]:=⟨⟩
instance(d:SPr)(e:List (List Int))(f:List Int)(a:List (List Int)):LH (R:=SPr) (zVK d e f a) [0,1,4,5,6,8,20,21,22,62,63] [] (fun c=>[(12,L 1 lV c.1),(64,I c.2)]) (.xe 2 [8,62,63] fun b=>[(12,L 1 lV b)]):=⟨⟩
instance(c:SPr)(d:List (List Int))(e:(List Int)):LH (R:=SPr) (zRV c d e) [0,1,4,6,20,21] [] (fun b=>[(5,T.ptr (T.agg [L 1 I b.1,L 1 lV b.2.1,L 1 lM b.2.2.1])),(22,I b.2.2.2)]) (.xe 0 [0,1,6,20,21] fun a=>[(5,T.ptr (T.agg [L 1 I a.1,L 1 lV a.2.1,L 1 lM a.2.2]))]):=⟨⟩
instance t_F:FI J1 55 (∀(a:SPr)(b:List (List Int)),FnK J1 55 [T.ro ((Pt yM) a),T.ro (lM b)] (fun r=>[yM r]) (fun _=>[]) (f_F a b)):=⟨Jbx,fun a b=>iM Tryz.func55⟩
end
end Go.Wk
