/- x -/
import Derived.Test.YtcjmcjcfehbboaaGreatRWT
open Go.Proofs.Tryz renaming prog->J1
open Option renaming some->Wu,none->Wv
open Bool renaming true->Ww,false->Wx
namespace Go.Wk
open Go Go.Proofs Go.Ab
set_option maxRecDepth 100000
set_option maxHeartbeats 4000000
section
attribute [local irreducible] RW CW DK OkL Ok yX xC wK wY XS.post rng vP vL ixO zT yR wN yO zF GTo zI FnC FnK vB uC Kp Lk BsL BuL RpL Bk Lc
instance t_aK:FI J1 46 (∀(a:SPr),FnK J1 46 [T.ro ((Pt yM) a)] (fun r=>[I r]) (fun _=>[]) (zO1 a)):=⟨Tryz.call46,fun a=>iM Tryz.func46⟩
instance(b:List Int)(c:Int)(a:List Int):LH (R:=Bool) (zO6 b c a) [1,2,49,50] [] (fun d=>[(51,I d)]) (.xs (.xe 0 [1,2,49,50] fun _=>[]) .xr):=⟨⟩
instance(a:List Int)(b:Int)(c:List Int):LH (R:=Bool) (zO7 a b c) [1,2,49,50] [] (fun d=>[(51,I d)]) (.xs (.xe 0 [1,2,49,50] fun _=>[]) .xr):=⟨⟩
instance t_D:FI J1 179 (∀(a:SPr)(b:List Int)(c:Int),FnK J1 179 [T.ro ((Pt yM) a),T.ro (lV b),I c] (fun r=>[B r]) (fun _=>[]) (f_D a b c)):=⟨Tryz.call179,fun a b c=>iM Tryz.func179⟩
instance:HS Tryz.f171.8 [(2,6,0,.tr 6 19),(0,31,0,.tr 30 6),(0,32,0,.tr 29 3),(2,9,0,.tr 3 32)]:=⟨⟩
instance(b:List (List Int)):LH (R:=(List (List Int))) (zMR b) [0,7,8] [] (fun a=>[(3,L 1 lV a.1),(9,I a.2)]) (.xe 0 [0,7,8] fun c=>[(3,L 1 lV c)]):=⟨⟩
instance t_ay:FI J1 171 (∀(a:List (List Int)),FnK J1 171 [T.ro (lM a)] (fun r:(List (List Int))=>[lM r]) (fun _=>[]) (zXG a)):=⟨Tryz.call171,fun a=>iM Tryz.func171⟩
instance(a:List Int):LH (R:=Bool) (zJK a) [5,6] [] (fun b=>[(7,I b)]) (.xs (.xe 0 [5,6] fun _=>[]) .xr):=⟨⟩
instance t_af:FI J1 106 (∀(a:List Int),FnK J1 106 [T.ro (lV a)] (fun r=>[B r]) (fun _=>[]) (zVg a)):=⟨Tryz.call106,fun a=>iM Tryz.func106⟩
end
end Go.Wk
