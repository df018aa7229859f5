/- x -/
import Derived.Test.YtcjmcjcfehbboaaGreatRVaa
import Derived.Test.YtcjmcjcfehbboaaGreatRVak
import Derived.Test.YtcjmcjcfehbboaaGreatRVat
import Derived.Test.YtcjmcjcfehbboaaGreatRWT
open Go.Proofs.Tryz renaming prog->J1
open Option renaming some->Wu,none->Wv
open Bool renaming true->Ww,false->Wx
namespace Go.Wk
open Go Go.Proofs Go.Ab
set_option maxRecDepth 100000
set_option maxHeartbeats 4000000
section
attribute [local irreducible] RW CW DK OkL Ok yX xC wK wY XS.post rng vP vL ixO zT yR wN yO zF GTo zI FnC FnK vB uC Kp Lk BsL BuL RpL Bk Lc
instance:HS Tryz.f67.8 [(2,2,0,.tr 7 10)]:=⟨⟩
instance(c:SPr)(d:List Int)(e:List (List Int)):LH (R:=(List Int)) (zNo c d e) [1,2,3] [] (fun b=>[(7,L 1 I b.1),(8,I b.2)]) (.xe 0 [1,2,3] fun a=>[(7,L 1 I a)]):=⟨⟩
instance t_aC:FI J1 67 (∀(a:SPr)(b:List Int)(c:List (List Int)),FnK J1 67 [qPr a,T.ro (lV b),T.ro (lM c)] (fun r=>[lV r]) (fun _=>[]) (zYd a b c)):=⟨Tryz.call67,fun a b c=>iM Tryz.func67⟩
instance t_ad:FI J1 120 (∀(a:SPr)(b:List Int)(c:Int),FnK J1 120 [qPr a,T.ro (lV b),I c] (fun r=>[lV r]) (fun _=>[]) (zFV a b c)):=⟨Tryz.call120,fun a b c=>iM Tryz.func120⟩
instance t_bm:FI J1 121 (∀(a:SPr)(b c:List Int),FnK J1 121 [qPr a,T.ro (lV b),T.ro (lV c)] (fun r=>[lV r]) (fun _=>[]) (zXP a b c)):=⟨Tryz.call121,fun a b c=>iM Tryz.func121⟩
instance t_bd:FI J1 125 (∀(a:SPr)(b c:List Int),FnK J1 125 [qPr a,T.ro (lV b),T.ro (lV c)] (fun r=>[lV r]) (fun _=>[]) (zVE a b c)):=⟨Tryz.call125,fun a b c=>iM Tryz.func125⟩
end
end Go.Wk
