/- x -/
import Derived.Test.YtcjmcjcfehbboaaGreatQVaf
import Derived.Test.YtcjmcjcfehbboaaGreatQVaj
import Derived.Test.YtcjmcjcfehbboaaGreatQWT
open Go.Proofs.Tryz renaming prog→J0,f49→Ja7,call49→Jbl
open Option renaming some→jq,none→jr
open Bool renaming true→js,false→jt
namespace Go.Wk
open Go Go.Proofs Go.Ab
set_option maxRecDepth 100000
set_option maxHeartbeats 4000000
section
attribute [local irreducible] RW CW DK OkL Ok yL yM xQ wE XS.post rng wF xN ixO zQ yC xR yH zC GTo zE FnC FnK wJ wS Kp Lk BsL BuL RpL Bk Lc
instance:HS Ja7.8 [(2,2,0,.tr 1 13),(0,138,0,.tr 135 1)]:=⟨⟩
instance:yAg Ja7.results:=⟨⟩
instance:SwH Ja7.8 10 1 [0,5,6,7]:=⟨⟩
instance(a:(List (List Int))×Int×Int):LH (R:=(List (List Int))) (zHF a) [0,1,5,6] [] (fun b=>[(7,I b)]) (.xe 2 [] fun c=>[(7,I c)]):=⟨⟩
instance(f:Int)(b:(List (List Int))×Int×Int)(c:Int×Bool)(d:List Int):LH (R:=(List (List Int))) (zL2 f b c d) [0,5,6,8,84] [] (fun a=>[(1,L 1 lV a.1),(85,I a.2)]) (.xe 4 [8,84] fun e=>[(1,L 1 lV e)]):=⟨⟩
instance(e:Int)(b:(List (List Int))×Int×Int)(c:(List (List Int))):LH (R:=(List (List Int))) (zMY e b c) [0,5,6,107] [] (fun a=>[(1,L 1 lV a.1),(108,I a.2)]) (.xe 6 [107] fun d=>[(1,L 1 lV d)]):=⟨⟩
instance(c:Int):LH (R:=(List (List Int))) (zMZ c) [0] [] (fun a=>[(1,L 1 lV a.1),(5,I a.2.1),(6,I a.2.2)]) (.xe 0 [0] fun b=>[(1,L 1 lV b.1),(5,I b.2)]):=⟨⟩
instance t_d:FI J0 49 (∀(a:Int)(b:List (List Int)),FnK J0 49 [I a,T.ro (lM b)] (fun r:(List (List Int))=>[lM r]) (fun _=>[]) (f_d a b)):=⟨Jbl,fun a b=>iM Tryz.func49⟩
end
end Go.Wk
