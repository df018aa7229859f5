/- x -/
import Derived.Test.YtcjmcjcfehbboaaGreatQVaa
import Derived.Test.YtcjmcjcfehbboaaGreatQVab
import Derived.Test.YtcjmcjcfehbboaaGreatQVac
import Derived.Test.YtcjmcjcfehbboaaGreatQVae
import Derived.Test.YtcjmcjcfehbboaaGreatQVaf
import Derived.Test.YtcjmcjcfehbboaaGreatQVai
import Derived.Test.YtcjmcjcfehbboaaGreatQWT
open Go.Proofs.Tryz renaming prog→J0,call84→Jbf
open Option renaming some→jq,none→jr
open Bool renaming true→js,false→jt
namespace Go.Wk
open Go Go.Proofs Go.Ab
set_option maxRecDepth 100000
set_option maxHeartbeats 4000000
section
attribute [local irreducible] RW CW DK OkL Ok yL yM xQ wE XS.post rng wF xN ixO zQ yC xR yH zC GTo zE FnC FnK wJ wS Kp Lk BsL BuL RpL Bk Lc
instance:HS Tryz.f129.8 [(2,2,0,.tr 3 11),(2,7,0,.tr 6 20),(0,34,0,.tr 30 6),(2,9,0,.tr 6 34),(0,44,0,.tr 36 6),(0,46,0,.tr 35 3),(2,5,0,.tr 3 46),(2,19,0,.tr 10 66),(0,82,0,.tr 68 10),(0,84,0,.tr 67 3),(2,17,0,.tr 3 84)]:=⟨⟩
instance(b:SPr)(c:(List (List Int))×Int):LH (R:=(List (List Int))) (zY9 b c) [1,3,4,5] [] (fun a=>[(6,L 1 I a.1),(7,I a.2)]) (.xe 2 [] fun d=>[(6,L 1 I d)]):=⟨⟩
instance(c:SPr):LH (R:=(List (List Int))) (zYA c) [1,4] [] (fun b=>[(3,L 1 lV b.1),(5,I b.2)]) (.xe 0 [] fun a=>[(3,L 1 lV a)]):=⟨⟩
instance(d:SPr)(b:(List (List Int))×Int):LH (R:=(List (List Int))) (zYB d b) [1,4,8] [] (fun a=>[(3,L 1 lV a.1),(9,I a.2)]) (.xe 6 [] fun c=>[(3,L 1 lV c)]):=⟨⟩
instance(c:SPr):LH (R:=(List (List Int))) (zYC c) [1,4] [] (fun a=>[(3,L 1 lV a.1),(8,I a.2)]) (.xe 4 [1,4] fun b=>[(3,L 1 lV b)]):=⟨⟩
instance t_K:FI J0 129 (∀(a:SPr),FnK J0 129 [qPr a] (fun r:(List (List Int))=>[lM r]) (fun _=>[]) (f_K a)):=⟨Tryz.call129,fun a=>iM Tryz.func129⟩
instance:HS Tryz.f84.8 [(2,2,0,.tr 5 10),(0,13,0,.tr 11 5),(2,3,0,.tr 5 13),(0,16,0,.tr 14 5)]:=⟨⟩
instance t_bA:FI J0 84 (∀(a b:List Int),FnK J0 84 [T.ro (lV a),T.ro (lV b)] (fun r=>[lV r]) (fun _=>[]) (zTg a b)):=⟨Jbf,fun a b=>iM Tryz.func84⟩
instance(a:Int)(b:List Int):LH (R:=Bool) (zLE a b) [0,1,7,8] [] (fun c=>[(9,I c)]) (.xs (.xe 0 [0,7,8] fun _=>[]) .xr):=⟨⟩
instance t_aJ:FI J0 86 (∀(a:Int)(b:List Int),FnK J0 86 [I a,T.ro (lV b)] (fun r=>[B r]) (fun _=>[]) (zTj a b)):=⟨Tryz.call86,fun a b=>iM Tryz.func86⟩
end
theorem yAB:∀n,(∀(x0:SPr)(x1:List Int)(x2:Int) r,zS1 n x0 x1 x2=jq r→FnC J0 146 [T.ro ((Pt yI) x0),L 1 I x1,I x2] [] [(1,lV r)])∧(∀(x0:SPr)(x1:List Int)(x2:List Int) r,zPF n x0 x1 x2=jq r→FnC J0 99 [T.ro ((Pt yI) x0),L 1 I x1,T.ro (lV x2)] [] [(1,lV r)]):=by
  intro n
  induction n with
  |zero=>exact⟨(fun _ _ _ r h=>by simp[zS1]at h),(fun _ _ _ r h=>by simp[zPF]at h)⟩
  |succ n ih=>exact⟨(fun x0 x1 x2 r h=>yBZ ih.2 x0 x1 x2 r (by simpa[zS1]using h)),(fun x0 x1 x2 r h=>yBT ih.1 x0 x1 x2 r (by simpa[zPF]using h))⟩
theorem u_c(x0:SPr)(x1:List Int)(x2:Int)(r:(List Int))(h:f_c x0 x1 x2=jq r):FnC J0 146 [T.ro ((Pt yI) x0),L 1 I x1,I x2] [] [(1,lV r)]:=by obtain⟨n,hn⟩:=zAY h;exact(yAB n).1 x0 x1 x2 r hn
theorem u_a(x0:SPr)(x1:List Int)(x2:List Int)(r:(List Int))(h:f_a x0 x1 x2=jq r):FnC J0 99 [T.ro ((Pt yI) x0),L 1 I x1,T.ro (lV x2)] [] [(1,lV r)]:=by obtain⟨n,hn⟩:=zAY h;exact(yAB n).2 x0 x1 x2 r hn
instance t_c:FI J0 146 (∀(a:SPr)(b:List Int)(c:Int),FnK J0 146 [T.ro ((Pt yI) a),L 1 I b,I c] (fun _:(List Int)=>[]) (fun r=>[(1,lV r)]) (f_c a b c)):=⟨Tryz.call146,fun a b c=>FnK.mk (u_c a b c)⟩
instance t_a:FI J0 99 (∀(a:SPr)(b c:List Int),FnK J0 99 [T.ro ((Pt yI) a),L 1 I b,T.ro (lV c)] (fun _:(List Int)=>[]) (fun r=>[(1,lV r)]) (f_a a b c)):=⟨Tryz.call99,fun a b c=>FnK.mk (u_a a b c)⟩
section
attribute [local irreducible] RW CW DK OkL Ok yL yM xQ wE XS.post rng wF xN ixO zQ yC xR yH zC GTo zE FnC FnK wJ wS Kp Lk BsL BuL RpL Bk Lc
instance t_bU:FI J0 116 (∀(a:Int)(b c:List Int)(d:Int),FnK J0 116 [I a,T.ro (lV b),T.ro (lV c),I d] (fun r=>[lV r]) (fun _=>[]) (zT0 a b c d)):=⟨Tryz.call116,fun a b c d=>iM Tryz.func116⟩
instance:HS Tryz.f110.8 [(2,2,0,.tr 7 11)]:=⟨⟩
instance(c:Int)(d:List (List Int)):LH (R:=(List Int)) (zL4 c d) [0,1] [] (fun b=>[(7,L 1 I b.1),(8,I b.2)]) (.xe 0 [0,1] fun a=>[(7,L 1 I a)]):=⟨⟩
instance t_aE:FI J0 110 (∀(a:Int)(b:List (List Int))(c:List Int),FnK J0 110 [I a,T.ro (lM b),T.ro (lV c)] (fun r=>[lV r]) (fun _=>[]) (zSE a b c)):=⟨Tryz.call110,fun a b c=>iM Tryz.func110⟩
instance t_bW:FI J0 112 (∀(a b:Int)(c:List Int),FnK J0 112 [I a,I b,T.ro (lV c)] (fun r=>[lV r]) (fun _=>[]) (zVf a b c)):=⟨Tryz.call112,fun a b c=>iM Tryz.func112⟩
end
end Go.Wk
