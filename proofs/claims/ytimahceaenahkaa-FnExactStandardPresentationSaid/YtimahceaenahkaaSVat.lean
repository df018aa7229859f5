/- x -/
import Derived.Test.YtimahceaenahkaaSVad
import Derived.Test.YtimahceaenahkaaSVah
import Derived.Test.YtimahceaenahkaaSVaj
import Derived.Test.YtimahceaenahkaaSVan
import Derived.Test.YtimahceaenahkaaSVar
import Derived.Test.YtimahceaenahkaaSWT
open Go.Proofs.Try renaming prog→J0
open Option renaming some→df,none→dg
open Bool renaming true→dh,false→di
namespace Go.Wk
open Go Go.Proofs Go.Ab
set_option maxRecDepth 100000
set_option maxHeartbeats 4000000
section
attribute [local irreducible] RW CW DK OkL Ok zW yB yY xP XS.post rng wA wF ixO zS yQ xC yF zC GTo zF FnC FnK xU wM Kp BsL BuL RpL Bk Lc JQ AK
instance t_aA:FI J0 4 (∀(a:SPr)(b:Int),FnK J0 4 [qPr a,I b] (fun r=>[I r]) (fun _=>[]) (zMP a b)):=⟨Try.call4,fun a b=>iM Try.func4⟩
instance:HS Try.f6.8 [(1,2,0,.trf 16 0 3 [0,0]),(1,2,1,.trf 16 1 3 [1,0]),(1,2,2,.trf 16 2 3 [2,0])]:=⟨⟩
instance t_ak:FI J0 6 (∀(a:SPr),FnK J0 6 [qPr a] (fun r=>[wH r]) (fun _=>[]) (zHy a)):=⟨Try.call6,fun a=>iM Try.func6⟩
instance t_ay:FI J0 56 (∀(a:SPr)(b:List Int)(c:Int),FnK J0 56 [qPr a,T.ro (lV b),I c] (fun r=>[lV r]) (fun _=>[]) (zLC a b c)):=⟨Try.call56,fun a b c=>iM Try.func56⟩
instance t_al:FI J0 8 (∀(a b:SPr),FnK J0 8 [qPr a,qPr b] (fun r=>[B r]) (fun _=>[]) (zH5 a b)):=⟨Try.call8,fun a b=>iM Try.func8⟩
instance:HS Try.f9.8 [(2,4,0,.trf 0 0 2 [0,0]),(2,4,1,.trf 0 1 2 [1,0]),(2,4,2,.trf 0 2 2 [2,0])]:=⟨⟩
instance t_av:FI J0 9 (∀(a:SPr)(b:Int),FnK J0 9 [wH a,I b] (fun r=>[I r.1]) (fun r=>[(0,wH r.2)]) (zL6 a b)):=⟨Try.call9,fun a b=>iM Try.func9⟩
instance t_aw:FI J0 10 (∀(a:SPr)(b:Int),FnK J0 10 [qPr a,I b] (fun r=>[I r]) (fun _=>[]) (zLB a b)):=⟨Try.call10,fun a b=>iM Try.func10⟩
end
end Go.Wk
