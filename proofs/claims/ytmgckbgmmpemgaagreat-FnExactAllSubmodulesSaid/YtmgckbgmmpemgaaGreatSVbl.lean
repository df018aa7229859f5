/- x -/
import Derived.Test.YtmgckbgmmpemgaaGreatSVaa
import Derived.Test.YtmgckbgmmpemgaaGreatSVaq
import Derived.Test.YtmgckbgmmpemgaaGreatSVap
import Derived.Test.YtmgckbgmmpemgaaGreatSVbk
import Derived.Test.YtmgckbgmmpemgaaGreatSWT
open Go.Proofs.Tryz renaming prog→J0
open Option renaming some→VU,none→VV
open Bool renaming true→VW,false→VX
namespace Go.Wk
open Go Go.Proofs Go.Ab
set_option maxRecDepth 100000
set_option maxHeartbeats 4000000
section
attribute [local irreducible] RW CW DK OkL Ok yM yJ wN vO XS.post rng yQ vN ixO yG xC wV yW zI GTo zN FnC FnK vT uL Kp Lk BsL BuL RpL Bk Lc
instance:HS Tryz.f27.8 [(0,52,0,.tr 47 10),(2,11,0,.tr 10 52),(2,23,0,.tr 18 71),(0,78,0,.tr 77 18),(0,79,0,.trq 76 15 [2,0]),(0,106,0,.trf 105 2 15 [2,0]),(0,107,0,.tr 104 7),(2,33,0,.tr 7 107)]:=⟨⟩
instance(c:Int)(d:List Int)(b:(List (Int×Int))×Int):LH (R:=(List zD)) (zSR c d b) [0,1,7,9,11,23,24,25,29,30,31] [] (fun a=>[(10,L 2 (A2 I) a.1),(13,I a.2)]) (.xe 4 [11] fun e=>[(10,L 2 (A2 I) e)]):=⟨⟩
instance(c:Int)(d:List Int):LH (R:=(List zD)) (zSS c d) [0,1,7,9,23,24,25,29,30] [] (fun a=>[(10,L 2 (A2 I) a.1),(31,I a.2)]) (.xe 2 [29,30] fun b=>[(10,L 2 (A2 I) b)]):=⟨⟩
instance(a:Int)(b:List Int):LN (zST a b) 15:=⟨⟩
instance(b:Int)(d:List Int)(A0 A1 A2:T):LHk (R:=(List zD)) (zST b d) (T.ptr (T.agg [A0,A1,A2])) [0,1,7,9,10,14,23,24,25,57,58,64,65] [] (fun a=>[(15,T.ptr (T.agg [A0,I b,L 1 lV a.1])),(66,I a.2)]) (.xe 8 [64,65] fun c=>[(15,T.ptr (T.agg [A0,I b,L 1 lV c]))]):=⟨⟩
instance(b:Int)(a:(List (Int×Int))):LN (zSU b a) 15:=⟨⟩
instance(b:Int)(c:(List (Int×Int)))(A0 A1 A2:T):LHk (R:=(List zD)) (zSU b c) (T.ptr (T.agg [A0,A1,A2])) [0,1,7,9,10,23,24,25,57,58,82,83] [] (fun a=>[(14,I a.1),(15,T.ptr (T.agg [I b,A1,L 1 lV a.2.1])),(84,I a.2.2)]) (.xe 10 [82,83] fun d=>[(15,T.ptr (T.agg [I b,A1,L 1 lV d]))]):=⟨⟩
instance(e f:Int)(g:List Int)(b:(List (Int×Int)))(c:Int):LH (R:=(List zD)) (zSV e f g b c) [0,1,9,10,23,24,25,57] [] (fun a=>[(7,L 3 zA a.1),(58,I a.2)]) (.xe 6 [9,10,57] fun d=>[(7,L 3 zA d)]):=⟨⟩
instance(c d:Int)(e:(List (List Int))):LH (R:=(List zD)) (zSW c d e) [0,1,23,24] [] (fun a=>[(7,L 3 zA a.1),(25,I a.2)]) (.xe 0 [0,1,23,24] fun b=>[(7,L 3 zA b)]):=⟨⟩
instance t_k:FI J0 27 (∀(a b c:Int),FnK J0 27 [I a,I b,I c] (fun r=>[(L 3 zA) r]) (fun _=>[]) (f_k a b c)):=⟨Tryz.call27,fun a b c=>iM Tryz.func27⟩
end
end Go.Wk
