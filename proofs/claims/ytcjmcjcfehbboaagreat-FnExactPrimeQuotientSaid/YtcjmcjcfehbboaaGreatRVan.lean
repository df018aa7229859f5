/- x -/
import Derived.Test.YtcjmcjcfehbboaaGreatRVag
import Derived.Test.YtcjmcjcfehbboaaGreatRWT
open Go.Proofs.Tryz renaming prog->J1,f49->Jas,call49->Jc0
open Option renaming some->Wu,none->Wv
open Bool renaming true->Ww,false->Wx
namespace Go.Wk
open Go Go.Proofs Go.Ab
set_option maxRecDepth 100000
set_option maxHeartbeats 4000000
section
attribute [local irreducible] RW CW DK OkL Ok yX xC wK wY XS.post rng vP vL ixO zT yR wN yO zF GTo zI FnC FnK vB uC Kp Lk BsL BuL RpL Bk Lc
instance:HS Jas.8 [(2,2,0,.tr 1 13),(0,138,0,.tr 135 1)]:=⟨⟩
instance:yCl Jas.results:=⟨⟩
instance:SwH Jas.8 10 1 [0,5,6,7]:=⟨⟩
instance(a:(List (List Int))×Int×Int):LH (R:=(List (List Int))) (zIN a) [0,1,5,6] [] (fun b=>[(7,I b)]) (.xe 2 [] fun c=>[(7,I c)]):=⟨⟩
instance(f:Int)(b:(List (List Int))×Int×Int)(c:Int×Bool)(d:List Int):LH (R:=(List (List Int))) (zMT f b c d) [0,5,6,8,84] [] (fun a=>[(1,L 1 lV a.1),(85,I a.2)]) (.xe 4 [8,84] fun e=>[(1,L 1 lV e)]):=⟨⟩
instance(e:Int)(b:(List (List Int))×Int×Int)(c:(List (List Int))):LH (R:=(List (List Int))) (zOz e b c) [0,5,6,107] [] (fun a=>[(1,L 1 lV a.1),(108,I a.2)]) (.xe 6 [107] fun d=>[(1,L 1 lV d)]):=⟨⟩
instance(c:Int):LH (R:=(List (List Int))) (zO0 c) [0] [] (fun a=>[(1,L 1 lV a.1),(5,I a.2.1),(6,I a.2.2)]) (.xe 0 [0] fun b=>[(1,L 1 lV b.1),(5,I b.2)]):=⟨⟩
instance t_g:FI J1 49 (∀(a:Int)(b:List (List Int)),FnK J1 49 [I a,T.ro (lM b)] (fun r:(List (List Int))=>[lM r]) (fun _=>[]) (f_g a b)):=⟨Jc0,fun a b=>iM Tryz.func49⟩
end
end Go.Wk
