/- x -/
import Derived.Test.YtcjmcjcfehbboaaGreatQVaa
import Derived.Test.YtcjmcjcfehbboaaGreatQVab
import Derived.Test.YtcjmcjcfehbboaaGreatQVac
import Derived.Test.YtcjmcjcfehbboaaGreatQVad
import Derived.Test.YtcjmcjcfehbboaaGreatQVaf
import Derived.Test.YtcjmcjcfehbboaaGreatQVah
import Derived.Test.YtcjmcjcfehbboaaGreatQVaj
import Derived.Test.YtcjmcjcfehbboaaGreatQVam
import Derived.Test.YtcjmcjcfehbboaaGreatQVao
import Derived.Test.YtcjmcjcfehbboaaGreatQWT
open Go.Proofs.Tryz renaming prog→J0
open Option renaming some→jq,none→jr
open Bool renaming true→js,false→jt
namespace Go.Wk
open Go Go.Proofs Go.Ab
set_option maxRecDepth 100000
set_option maxHeartbeats 4000000
section
attribute [local irreducible] RW CW DK OkL Ok yL yM xQ wE XS.post rng wF xN ixO zQ yC xR yH zC GTo zE FnC FnK wJ wS Kp Lk BsL BuL RpL Bk Lc
instance:HS Tryz.f163.8 [(2,2,0,.trq 7 21 [0]),(2,3,0,.tr 9 25),(0,35,0,.tr 32 9),(2,5,0,.tr 9 35),(0,14,0,.fz 56),(0,14,1,.fz 100),(1,6,0,.trf 101 0 11 [0,0]),(1,6,1,.trf 101 1 11 [1,0]),(1,6,2,.trf 101 2 11 [2,0])]:=⟨⟩
instance(b:Int)(c:List (List Int)):LH (R:=SPr) (zY7 b c) [0,1,6,7] [] (fun a=>[(9,L 1 I a.1),(10,I a.2)]) (.xe 0 [] fun d=>[(9,L 1 I d)]):=⟨⟩
instance(a:(List Int)×Bool)(b:(List Int)):LN (zV4 a b) 11:=⟨⟩
instance(c:(List Int)×Bool)(d:(List Int))(A0 A1 A2:T):LHk (R:=SPr) (zV4 c d) (T.ptr (T.agg [A0,A1,A2])) [0,1,6,7,9,12] [] (fun b=>[(11,T.ptr (T.agg [A0,L 1 lV b.1,A2])),(13,I b.2)]) (.xe 2 [9] fun a=>[(11,T.ptr (T.agg [A0,L 1 lV a,A2]))]):=⟨⟩
instance(b:List (List Int))(c:(List Int)×Bool)(a:(List (List (List Int)))×(List (List Int))×Int):LN (zV5 b c a) 11:=⟨⟩
instance(d:List (List Int))(e:(List Int)×Bool)(b:(List (List (List Int)))×(List (List Int))×Int)(A0 A1 A2:T):LHk (R:=SPr) (zV5 d e b) (T.ptr (T.agg [A0,A1,A2])) [0,1,6,7,12,14,15] [] (fun a=>[(11,T.ptr (T.agg [A0,A1,L 1 lM a.1])),(16,I a.2)]) (.xe 6 [] fun c=>[(11,T.ptr (T.agg [A0,A1,L 1 lM c]))]):=⟨⟩
instance(d:Int)(e:List (List Int))(f:(List Int)×Bool)(b:(List (List (List Int)))×(List (List Int))×Int):LH (R:=SPr) (zV6 d e f b) [0,1,6,7,11,12,15,17] [] (fun a=>[(14,T.ro (lM a.1)),(18,I a.2)]) (.xe 8 [17] fun c=>[(14,T.ro (lM c))]):=⟨⟩
instance(a:Int)(b:List (List Int))(c:(List Int)×Bool):LN (zSS a b c) 11:=⟨⟩
instance(c:Int)(d:List (List Int))(e:(List Int)×Bool)(A0 A1 A2:T):LHk (R:=SPr) (zSS c d e) (T.ptr (T.agg [A0,A1,A2])) [0,1,6,7,12] [] (fun a=>[(11,T.ptr (T.agg [A0,A1,L 1 lM a.1])),(14,T.ro (lM a.2.1)),(15,I a.2.2)]) (.xe 4 [0,1,7,12] fun b=>[(11,T.ptr (T.agg [A0,A1,L 1 lM b]))]):=⟨⟩
instance t_o:FI J0 163 (∀(a:Int)(b:List (List Int))(c:Int),FnK J0 163 [I a,T.ro (lM b),I c] (fun r=>[yI r]) (fun _=>[]) (f_o a b c)):=⟨Tryz.call163,fun a b c=>iM Tryz.func163⟩
instance:HS Tryz.f170.8 [(1,4,0,.trf 30 2 5 [2,0])]:=⟨⟩
instance(c:yS)(d:List Int):LH (R:=zN) (zWP c d) [0,4,17,18] [] (fun a=>[(5,T.ptr (T.agg [I a.1,I a.2.1,L 1 lV a.2.2.1])),(19,I a.2.2.2)]) (.xe 0 [0,17,18] fun b=>[(5,T.ptr (T.agg [I b.1,I b.2.1,L 1 lV b.2.2]))]):=⟨⟩
instance t_bC:FI J0 170 (∀(a:yS)(b:List Int),FnK J0 170 [T.ro ((Pt yF) a),T.ro (lV b)] (fun r=>[zS r]) (fun _=>[]) (zVb a b)):=⟨Tryz.call170,fun a b=>iM Tryz.func170⟩
instance:HS Tryz.f104.8 [(2,2,0,.tr 7 10)]:=⟨⟩
instance(b:SPr)(c:List Int)(d:Int):LH (R:=(List Int)) (zS2 b c d) [0,1,11] [] (fun a=>[(7,L 1 I a.1),(12,I a.2)]) (.xe 0 [0,1,11] fun e=>[(7,L 1 I e)]):=⟨⟩
instance t_U:FI J0 104 (∀(a:SPr)(b:List Int)(c:Int),FnK J0 104 [T.ro ((Pt yI) a),T.ro (lV b),I c] (fun r=>[lV r]) (fun _=>[]) (f_U a b c)):=⟨Tryz.call104,fun a b c=>iM Tryz.func104⟩
instance:HS Tryz.f57.8 [(2,2,0,.tr 7 9)]:=⟨⟩
instance t_aw:FI J0 57 (∀(a:SPr)(b c:List Int),FnK J0 57 [T.ro ((Pt yI) a),T.ro (lV b),T.ro (lV c)] (fun r=>[lV r]) (fun _=>[]) (zHx a b c)):=⟨Tryz.call57,fun a b c=>iM Tryz.func57⟩
end
theorem yCd:∀n,(∀(x0:SPr)(x1:Int)(x2:List Int) r,zMW n x0 x1 x2=jq r→FnC J0 154 [qPr x0,I x1,T.ro (lV x2)] [lV r] []):=by
  intro n
  induction n with
  |zero=>exact(fun _ _ _ r h=>by simp[zMW]at h)
  |succ n ih=>exact(fun x0 x1 x2 r h=>yCc ih x0 x1 x2 r (by simpa[zMW]using h))
theorem u_i(x0:SPr)(x1:Int)(x2:List Int)(r:(List Int))(h:f_i x0 x1 x2=jq r):FnC J0 154 [qPr x0,I x1,T.ro (lV x2)] [lV r] []:=by obtain⟨n,hn⟩:=zAY h;exact(yCd n) x0 x1 x2 r hn
instance t_i:FI J0 154 (∀(a:SPr)(b:Int)(c:List Int),FnK J0 154 [qPr a,I b,T.ro (lV c)] (fun r=>[lV r]) (fun _=>[]) (f_i a b c)):=⟨Tryz.call154,fun a b c=>FnK.mk (u_i a b c)⟩
end Go.Wk
