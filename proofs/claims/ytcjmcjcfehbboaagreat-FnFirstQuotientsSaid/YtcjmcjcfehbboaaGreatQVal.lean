/- x -/
import Derived.Test.YtcjmcjcfehbboaaGreatQVaa
import Derived.Test.YtcjmcjcfehbboaaGreatQVab
import Derived.Test.YtcjmcjcfehbboaaGreatQVag
import Derived.Test.YtcjmcjcfehbboaaGreatQVah
import Derived.Test.YtcjmcjcfehbboaaGreatQWT
open Go.Proofs.Tryz renaming prog→J0
open Option renaming some→jq,none→jr
open Bool renaming true→js,false→jt
namespace Go.Wk
open Go Go.Proofs Go.Ab
set_option maxRecDepth 100000
set_option maxHeartbeats 4000000
section
attribute [local irreducible] RW CW DK OkL Ok yL yM xQ wE XS.post rng wF xN ixO zQ yC xR yH zC GTo zE FnC FnK wJ wS Kp Lk BsL BuL RpL Bk Lc
instance:HS Tryz.f193.8 [(0,28,0,.trq 20 3 [2,0]),(1,2,0,.trf 30 0 3 [0,0]),(1,2,1,.trf 30 1 3 [1,0]),(1,2,2,.trf 30 2 3 [2,0])]:=⟨⟩
instance(a:SPr):LN (zLD a) 3:=⟨⟩
instance(b:SPr)(A0 A1 A2:T):LHk (R:=SPr) (zLD b) (T.ptr (T.agg [A0,A1,A2])) [1,2] [] (fun a=>[(3,T.ptr (T.agg [A0,A1,L 1 lM a.1])),(4,I a.2)]) (.xe 0 [1] fun c=>[(3,T.ptr (T.agg [A0,A1,L 1 lM c]))]):=⟨⟩
instance t_aW:FI J0 193 (∀(a:SPr),FnK J0 193 [qPr a] (fun r=>[yI r]) (fun _=>[]) (zVB a)):=⟨Tryz.call193,fun a=>iM Tryz.func193⟩
instance(c:SPr):LH (R:=ByteArray) (zVE c) [1,3] [] (fun b=>[(4,Str b.1),(5,I b.2)]) (.xe 0 [] fun a=>[(4,Str a)]):=⟨⟩
instance(c:SPr):LH (R:=ByteArray) (zVF c) [1,3] [] (fun b=>[(4,Str b.1),(6,I b.2)]) (.xe 2 [] fun a=>[(4,Str a)]):=⟨⟩
instance(c:SPr)(d:ByteArray×Int):LH (R:=ByteArray) (zVG c d) [1,3,7] [] (fun a=>[(4,Str a.1),(8,I a.2)]) (.xe 6 [] fun b=>[(4,Str b)]):=⟨⟩
instance(c:SPr):LH (R:=ByteArray) (zVH c) [1,3] [] (fun b=>[(4,Str b.1),(7,I b.2)]) (.xe 4 [1,3] fun a=>[(4,Str a)]):=⟨⟩
instance t_x:FI J0 188 (∀(a:SPr),FnK J0 188 [qPr a] (fun r=>[Str r]) (fun _=>[]) (f_x a)):=⟨Tryz.call188,fun a=>iM Tryz.func188⟩
end
theorem yCa:∀n,(∀(x0:SPr)(x1:Int)(x2:List Int) r,zPB n x0 x1 x2=jq r→FnC J0 156 [qPr x0,I x1,T.ro (lV x2)] [lV r] [])∧(∀(x0:SPr)(x1:Int)(x2:List Int)(x3:List Int) r,zMT n x0 x1 x2 x3=jq r→FnC J0 126 [qPr x0,I x1,T.ro (lV x2),T.ro (lV x3)] [lV r] []):=by
  intro n
  induction n with
  |zero=>exact⟨(fun _ _ _ r h=>by simp[zPB]at h),(fun _ _ _ _ r h=>by simp[zMT]at h)⟩
  |succ n ih=>exact⟨(fun x0 x1 x2 r h=>yBQ ih.2 x0 x1 x2 r (by simpa[zPB]using h)),(fun x0 x1 x2 x3 r h=>yBX ih.1 ih.2 x0 x1 x2 x3 r (by simpa[zMT]using h))⟩
theorem u_b(x0:SPr)(x1:Int)(x2:List Int)(x3:List Int)(r:(List Int))(h:f_b x0 x1 x2 x3=jq r):FnC J0 126 [qPr x0,I x1,T.ro (lV x2),T.ro (lV x3)] [lV r] []:=by obtain⟨n,hn⟩:=zAY h;exact(yCa n).2 x0 x1 x2 x3 r hn
instance t_b:FI J0 126 (∀(a:SPr)(b:Int)(c d:List Int),FnK J0 126 [qPr a,I b,T.ro (lV c),T.ro (lV d)] (fun r=>[lV r]) (fun _=>[]) (f_b a b c d)):=⟨Tryz.call126,fun a b c d=>FnK.mk (u_b a b c d)⟩
end Go.Wk
