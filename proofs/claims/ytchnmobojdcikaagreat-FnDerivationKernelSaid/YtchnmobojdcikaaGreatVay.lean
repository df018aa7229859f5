/- x -/
import Derived.Test.YtchnmobojdcikaaGreatVav
import Derived.Test.YtchnmobojdcikaaGreatWT
open Go.Proofs.Tryz renaming prog→J0
open Option renaming some→dS,none→dT
open Bool renaming true→dU,false→dV
namespace Go.Wk
open Go Go.Proofs Go.Ab
set_option maxRecDepth 100000
set_option maxHeartbeats 4000000
section
attribute [local irreducible] RW CW DK OkL Ok zU zY yO yZ XS.post rng xC yL ixO zL zX yM zV zE GTo zK FnC FnK xJ xQ Kp Lk BsL BuL RpL Bk Lc JQ AK
instance:HS Tryz.f214.8 [(2,3,0,.tr 8 22),(2,4,0,.tr 9 23),(2,5,0,.fz 8),(2,10,0,.tr 11 43),(0,62,0,.tr 44 9),(2,13,0,.fz 8),(2,20,0,.tr 15 83),(0,102,0,.fz 90),(0,113,0,.tr 103 9),(2,18,0,.tr 9 113)]:=⟨⟩
instance:HS Tryz.f285.8 [(2,3,0,.tr 6 15),(2,7,0,.tr 8 22),(0,36,0,.tr 26 6)]:=⟨⟩
instance:HS Tryz.f218.8 [(0,10,0,.fz 9)]:=⟨⟩
instance:HS Tryz.f72.8 [(0,22,0,.fz 21)]:=⟨⟩
instance t_cd:FI J0 72 (∀(a:SPr)(b:zB)(c:List (List Int)),FnK J0 72 [qPr a,xD b,T.ro (lM c)] (fun r:(List (List Int))×Int=>[lM r.1,I r.2]) (fun _=>[]) (zRc a b c)):=⟨Tryz.call72,fun a b c=>iM Tryz.func72⟩
instance t_cJ:FI J0 74 (∀(a:SPr)(b:zB)(c:List Int),FnK J0 74 [qPr a,xD b,T.ro (lV c)] (fun r:(List (List Int))×Int=>[lM r.1,I r.2]) (fun _=>[]) (zXo a b c)):=⟨Tryz.call74,fun a b c=>iM Tryz.func74⟩
instance:HS Tryz.f194.8 [(2,2,0,.tr 10 17),(2,3,0,.tr 11 22),(2,4,0,.tr 12 23),(0,43,0,.tr 37 12),(2,6,0,.tr 12 43),(2,10,0,.tr 11 47),(2,13,0,.tr 14 59)]:=⟨⟩
instance(c:Int)(d:(List (List Int))):LH (R:=(List Int)×Bool) (zJK c d) [0,1,2,10,11] [] (fun b=>[(12,L 1 (Ro lV) b.1),(13,I b.2)]) (.xe 0 [10] fun a=>[(12,L 1 (Ro lV) a)]):=⟨⟩
instance t_av:FI J0 194 (∀(a:Int)(b:List (List Int))(c:Int)(d:List Int),FnK J0 194 [I a,T.ro (lM b),I c,T.ro (lV d)] (fun r:(List Int)×Bool=>[lV r.1,B r.2]) (fun _=>[]) (zO2 a b c d)):=⟨Tryz.call194,fun a b c d=>iM Tryz.func194⟩
end
end Go.Wk
