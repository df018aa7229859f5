/- x -/
import Derived.Test.YtchnmobojdcikaaGreatCVab
import Derived.Test.YtchnmobojdcikaaGreatCVac
import Derived.Test.YtchnmobojdcikaaGreatCVam
import Derived.Test.YtchnmobojdcikaaGreatCVap
import Derived.Test.YtchnmobojdcikaaGreatCWT
open Go.Proofs.Tryz renaming prog→J0
open Option renaming some→iz,none→iA
open Bool renaming true→iB,false→iC
namespace Go.Wk
open Go Go.Proofs Go.Ab
set_option maxRecDepth 100000
set_option maxHeartbeats 4000000
section
attribute [local irreducible] RW CW DK OkL Ok zV yA yW xK XS.post rng xN yP ixO zO yG yO yB zG GTo zP FnC FnK xQ wB Kp Lk BsL BuL RpL Bk Lc JQ AK
instance:HS Tryz.f223.8 [(1,4,0,.trf 30 0 5 [0,0]),(1,4,1,.trf 30 1 5 [1,0]),(1,4,2,.trf 30 2 5 [2,0]),(1,4,3,.trf 48 0 5 [0,0]),(1,4,4,.trf 48 1 5 [1,0]),(1,4,5,.trf 48 2 5 [2,0]),(1,4,6,.trf 78 0 5 [0,0]),(1,4,7,.trf 78 1 5 [1,0]),(1,4,8,.trf 78 2 5 [2,0])]:=⟨⟩
instance t_bP:FI J0 223 (∀(a:zF)(b:SPr),FnK J0 223 [T.ptr (vU a),qPr b] (fun r=>[vE r.1]) (fun r=>[(0,(Pt (fun x=>T.agg [(Ro (L 1 (IK .u8))) x.code,I x.at_,I x.seed])) r.2)]) (zUY a b)):=⟨Tryz.call223,fun a b=>iM Tryz.func223⟩
instance:HS Tryz.f304.8 [(2,2,0,.tr 7 10)]:=⟨⟩
instance(b:SPr)(c:List Int)(d:Int):LH (R:=(List Int)) (zMp b c d) [0,1,11] [] (fun a=>[(7,L 1 I a.1),(12,I a.2)]) (.xe 0 [0,1,11] fun e=>[(7,L 1 I e)]):=⟨⟩
instance t_aL:FI J0 304 (∀(a:SPr)(b:List Int)(c:Int),FnK J0 304 [T.ro ((Pt vE) a),T.ro (lV b),I c] (fun r=>[lV r]) (fun _=>[]) (zWr a b c)):=⟨Tryz.call304,fun a b c=>iM Tryz.func304⟩
end
end Go.Wk
