/- x -/
import Derived.Test.YtimahceaenahkaaSWT
open Go.Proofs.Try renaming prog→J0
open Option renaming some→df,none→dg
open Bool renaming true→dh,false→di
namespace Go.Wk
open Go Go.Proofs Go.Ab
set_option maxRecDepth 100000
set_option maxHeartbeats 4000000
section
attribute [local irreducible] RW CW DK OkL Ok zW yB yY xP XS.post rng wA wF ixO zS yQ xC yF zC GTo zF FnC FnK xU wM Kp BsL BuL RpL Bk Lc JQ AK
instance t_ar:FI J0 11 (∀(a:List Int)(b:Int),FnK J0 11 [T.ro (lV a),I b] (fun r=>[I r]) (fun _=>[]) (zKX a b)):=⟨Try.call11,fun a b=>iM Try.func11⟩
instance:HS Try.f17.8 [(2,2,0,.tr 3 7)]:=⟨⟩
instance(b:List Int):LH (R:=(List Int)) (zON b) [0] [] (fun a=>[(3,L 1 I a.1),(4,I a.2)]) (.xe 0 [0] fun c=>[(3,L 1 I c)]):=⟨⟩
instance t_L:FI J0 17 (∀(a:List Int),FnK J0 17 [T.ro (lV a)] (fun r=>[lV r]) (fun _=>[]) (f_L a)):=⟨Try.call17,fun a=>iM Try.func17⟩
instance(b:SPr)(c:List Int):LH (R:=Int) (zLF b c) [0,8,9] [] (fun a=>[(5,I a.1),(10,I a.2)]) (.xe 0 [0,8,9] fun d=>[(5,I d)]):=⟨⟩
instance t_S:FI J0 62 (∀(a:SPr)(b:List Int),FnK J0 62 [T.ro ((Pt wH) a),T.ro (lV b)] (fun r=>[I r]) (fun _=>[]) (f_S a b)):=⟨Try.call62,fun a b=>iM Try.func62⟩
instance(b:zL)(c:List Int)(d:Int×Int)(e:Int):LH (R:=Int) (zJr b c d e) [0,1,8,10,11,12,17] [] (fun a=>[(7,I a.1),(18,I a.2)]) (.xe 2 [8,17] fun f=>[(7,I f)]):=⟨⟩
instance(b:zL)(c d:List Int):LH (R:=Int) (zNc b c d) [0,1,10,11] [] (fun a=>[(7,I a.1),(12,I a.2)]) (.xe 0 [0,1,10,11] fun e=>[(7,I e)]):=⟨⟩
instance t_y:FI J0 82 (∀(a:zL)(b c:List Int),FnK J0 82 [T.ro ((Pt zO) a),T.ro (lV b),T.ro (lV c)] (fun r=>[I r]) (fun _=>[]) (f_y a b c)):=⟨Try.call82,fun a b c=>iM Try.func82⟩
instance t_aG:FI J0 84 (∀(a:Int),FnK J0 84 [I a] (fun r=>[B r]) (fun _=>[]) (zNa a)):=⟨Try.call84,fun a=>iM Try.func84⟩
instance(a b:List Int):LH (R:=Bool) (zOZ a b) [0,1] [] (fun c=>[(5,I c)]) (.xs (.xe 0 [0,1] fun _=>[]) .xr):=⟨⟩
instance t_U:FI J0 23 (∀(a b:List Int),FnK J0 23 [T.ro (lV a),T.ro (lV b)] (fun r=>[B r]) (fun _=>[]) (f_U a b)):=⟨Try.call23,fun a b=>iM Try.func23⟩
instance:LH (R:=Int×(List Int)) zMY [] [] (fun a=>[(0,L 1 I a.1),(1,I a.2.1),(5,I a.2.2)]) (.xe 0 [] fun b=>[(0,L 1 I b.1),(1,I b.2)]):=⟨⟩
instance t_H:FI J0 26 (∀(a:List Int)(b:Int),FnK J0 26 [L 1 I a,I b] (fun r:Int×(List Int)=>[I r.1]) (fun r=>[(0,lV r.2)]) (f_H a b)):=⟨Try.call26,fun a b=>iM Try.func26⟩
instance(b:List Int):LH (R:=Int) (zL7 b) [0] [] (fun a=>[(1,I a.1),(5,I a.2)]) (.xs (.xe 0 [0] fun c=>[(1,I c)]) .xr):=⟨⟩
instance t_C:FI J0 29 (∀(a:List Int)(b:Int),FnK J0 29 [T.ro (lV a),I b] (fun r=>[I r]) (fun _=>[]) (f_C a b)):=⟨Try.call29,fun a b=>iM Try.func29⟩
end
end Go.Wk
