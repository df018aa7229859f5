/- x -/
import Derived.Test.YtcjmcjcfehbboaaGreatQVaa
import Derived.Test.YtcjmcjcfehbboaaGreatQVab
import Derived.Test.YtcjmcjcfehbboaaGreatQVad
import Derived.Test.YtcjmcjcfehbboaaGreatQVak
import Derived.Test.YtcjmcjcfehbboaaGreatQVao
import Derived.Test.YtcjmcjcfehbboaaGreatQVau
import Derived.Test.YtcjmcjcfehbboaaGreatQVav
import Derived.Test.YtcjmcjcfehbboaaGreatQVaw
import Derived.Test.YtcjmcjcfehbboaaGreatQWT
open Go.Proofs.Tryz renaming prog→J0,call136→Hn,call51→Qt,f34→Jb9
open Option renaming some→jq,none→jr
open Bool renaming true→js,false→jt
namespace Go.Wk
open Go Go.Proofs Go.Ab
set_option maxRecDepth 100000
set_option maxHeartbeats 4000000
section
attribute [local irreducible] RW CW DK OkL Ok yL yM xQ wE XS.post rng wF xN ixO zQ yC xR yH zC GTo zE FnC FnK wJ wS Kp Lk BsL BuL RpL Bk Lc
instance:HS Tryz.f136.8 [(2,2,0,.tr 1 25)]:=⟨⟩
instance(c:Int):LH (R:=xM) (zWT c) [2] [] (fun a=>[(0,T.ptr (T.agg [T.ro ((Pt yI) a.1),T.ro ((Pt yF) a.2.1),L 3 zS a.2.2.1])),(1,T.ro (lV a.2.2.2.1)),(6,I a.2.2.2.2)]) (.xe 0 [2] fun b=>[(0,T.ptr (T.agg [T.ro ((Pt yI) b.1),T.ro ((Pt yF) b.2.1),L 3 zS b.2.2]))]):=⟨⟩
instance t_ac:FI J0 136 (∀(a:xM)(b:List Int)(c:Int),FnK J0 136 [T.ptr (T.agg [T.ro ((Pt yI) a.p),T.ro ((Pt yF) a.m),L 3 zS a.sums]),T.ro (lV b),I c] (fun _:xM=>[]) (fun r=>[(0,(Pt (fun x=>T.agg [(Ro (Pt yI)) x.p,(Ro (Pt yF)) x.m,(L 3 zS) x.sums])) r)]) (zNf a b c)):=⟨Hn,fun a b c=>iM Tryz.func136⟩
instance:HS Tryz.f51.8 [(2,2,0,.tr 7 18),(0,30,0,.tr 27 8),(2,8,0,.tr 8 30),(2,15,0,.tr 13 44),(2,16,0,.tr 14 45),(0,58,0,.tr 52 14),(2,20,0,.tr 14 58),(0,62,0,.tr 61 14),(0,63,0,.tr 60 11),(2,22,0,.tr 11 63)]:=⟨⟩
instance(b:Int)(c:(List Int)):LH (R:=(List (List Int))) (zTk b c) [0,1,2,7,19] [] (fun a=>[(8,L 1 I a.1),(20,I a.2)]) (.xe 0 [7,19] fun d=>[(8,L 1 I d)]):=⟨⟩
instance(c d:(List Int)):LH (R:=(List (List Int))) (zTl c d) [2,8,10,11,13,36,37,46,47] [] (fun b=>[(14,L 1 I b.1),(48,I b.2)]) (.xe 4 [13,46,47] fun a=>[(14,L 1 I a)]):=⟨⟩
instance(c:Int)(d:List (List Int))(e:Int)(f:(List Int)):LH (R:=(List (List Int))) (zTm c d e f) [2,8,10,36] [] (fun b=>[(11,L 1 lV b.1),(37,I b.2)]) (.xe 2 [2,8,10,36] fun a=>[(11,L 1 lV a)]):=⟨⟩
instance t_u:FI J0 51 (∀(a:Int)(b:List (List Int))(c:Int),FnK J0 51 [I a,T.ro (lM b),I c] (fun r:(List (List Int))=>[lM r]) (fun _=>[]) (f_u a b c)):=⟨Qt,fun a b c=>iM Tryz.func51⟩
instance:HS Jb9.8 [(2,2,0,.tr 5 13),(2,3,0,.tr 6 16),(2,10,0,.tr 9 38),(0,60,0,.tr 59 9),(0,61,0,.tr 58 6),(2,15,0,.tr 6 61)]:=⟨⟩
instance:HX Jb9.8 [(0,70,0,.trh 67 5)]:=⟨⟩
instance(a:(List (List Int))×(List (List Int))×Int)(c:(List Int)):LH (R:=(List (List Int))) (zT8 a c) [1,2,5,6,7,8,9] [] (fun b=>[(10,I b)]) (.xe 4 [] fun d=>[(10,I d)]):=⟨⟩
instance(d:SPr)(e:List (List Int))(c:(List (List Int))×(List (List Int))×Int):LH (R:=(List (List Int))) (zT9 d e c) [1,2,7] [] (fun a=>[(5,L 1 lV a.1),(6,L 1 lV a.2.1),(8,I a.2.2)]) (.xe 2 [] fun b=>[(5,L 1 lV b.1),(6,L 1 lV b.2)]):=⟨⟩
instance(c:SPr)(d:List (List Int)):LH (R:=(List (List Int))) (zQi c d) [1,2] [] (fun a=>[(5,L 1 lV a.1),(6,L 1 lV a.2.1),(7,I a.2.2)]) (.xe 0 [1,2] fun b=>[(5,L 1 lV b)]):=⟨⟩
instance t_B:FI J0 34 (∀(a:SPr)(b:List (List Int)),FnK J0 34 [qPr a,T.ro (lM b)] (fun r:(List (List Int))=>[lM r]) (fun _=>[]) (f_B a b)):=⟨Tryz.call34,fun a b=>iM Tryz.func34⟩
instance t_cd:FI J0 77 (∀(a b:Int)(c:List (List Int)),FnK J0 77 [I a,I b,T.ro (lM c)] (fun r=>[zS r]) (fun _=>[]) (zY1 a b c)):=⟨Tryz.call77,fun a b c=>iM Tryz.func77⟩
end
end Go.Wk
