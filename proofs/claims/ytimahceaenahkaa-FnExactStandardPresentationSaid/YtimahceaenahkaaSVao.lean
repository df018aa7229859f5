/- x -/
import Derived.Test.YtimahceaenahkaaSVab
import Derived.Test.YtimahceaenahkaaSVac
import Derived.Test.YtimahceaenahkaaSVae
import Derived.Test.YtimahceaenahkaaSWT
open Go.Proofs.Try renaming prog→J0
open Option renaming some→df,none→dg
open Bool renaming true→dh,false→di
namespace Go.Wk
open Go Go.Proofs Go.Ab
set_option maxRecDepth 100000
set_option maxHeartbeats 4000000
section
attribute [local irreducible] RW CW DK OkL Ok zW yB yY xP XS.post rng wA wF ixO zS yQ xC yF zC GTo zF FnC FnK xU wM Kp BsL BuL RpL Bk Lc JQ AK
instance(a:SPr):LH (R:=Bool) (zLa a) [1,3] [] (fun b=>[(4,I b)]) (.xs (.xe 0 [] fun _=>[]) .xr):=⟨⟩
instance(a:SPr)(b:Int):LH (R:=Bool) (zLb a b) [1,3,5] [] (fun c=>[(6,I c)]) (.xs (.xe 4 [] fun _=>[]) .xr):=⟨⟩
instance(a:SPr):LH (R:=Bool) (zHz a) [1,3] [] (fun b=>[(5,I b)]) (.xs (.xe 2 [1,3] fun _=>[]) .xr):=⟨⟩
instance t_k:FI J0 32 (∀(a:SPr),FnK J0 32 [qPr a] (fun r=>[B r]) (fun _=>[]) (f_k a)):=⟨Try.call32,fun a=>iM Try.func32⟩
instance t_as:FI J0 59 (∀(a:SPr)(b:Int)(c:List Int),FnK J0 59 [T.ro ((Pt wH) a),I b,T.ro (lV c)] (fun r=>[B r]) (fun _=>[]) (zLk a b c)):=⟨Try.call59,fun a b c=>iM Try.func59⟩
end
theorem zQJ:∀n,(∀(x0:SPr)(x1:List Int)(x2:Int) r,zLp n x0 x1 x2=df r→FnC J0 89 [T.ro ((Pt wH) x0),L 1 I x1,I x2] [] [(1,lV r)])∧(∀(x0:SPr)(x1:List Int)(x2:List Int) r,zJh n x0 x1 x2=df r→FnC J0 81 [T.ro ((Pt wH) x0),L 1 I x1,T.ro (lV x2)] [] [(1,lV r)]):=by
  intro n
  induction n with
  |zero=>exact⟨(fun _ _ _ r h=>by simp[zLp]at h),(fun _ _ _ r h=>by simp[zJh]at h)⟩
  |succ n ih=>exact⟨(fun x0 x1 x2 r h=>zR5 ih.2 x0 x1 x2 r (by simpa[zLp]using h)),(fun x0 x1 x2 r h=>zR2 ih.1 x0 x1 x2 r (by simpa[zJh]using h))⟩
theorem u_b(x0:SPr)(x1:List Int)(x2:Int)(r:(List Int))(h:f_b x0 x1 x2=df r):FnC J0 89 [T.ro ((Pt wH) x0),L 1 I x1,I x2] [] [(1,lV r)]:=by obtain⟨n,hn⟩:=tS h;exact(zQJ n).1 x0 x1 x2 r hn
theorem u_c(x0:SPr)(x1:List Int)(x2:List Int)(r:(List Int))(h:f_c x0 x1 x2=df r):FnC J0 81 [T.ro ((Pt wH) x0),L 1 I x1,T.ro (lV x2)] [] [(1,lV r)]:=by obtain⟨n,hn⟩:=tS h;exact(zQJ n).2 x0 x1 x2 r hn
instance t_b:FI J0 89 (∀(a:SPr)(b:List Int)(c:Int),FnK J0 89 [T.ro ((Pt wH) a),L 1 I b,I c] (fun _:(List Int)=>[]) (fun r=>[(1,lV r)]) (f_b a b c)):=⟨Try.call89,fun a b c=>FnK.mk (u_b a b c)⟩
instance t_c:FI J0 81 (∀(a:SPr)(b c:List Int),FnK J0 81 [T.ro ((Pt wH) a),L 1 I b,T.ro (lV c)] (fun _:(List Int)=>[]) (fun r=>[(1,lV r)]) (f_c a b c)):=⟨Try.call81,fun a b c=>FnK.mk (u_c a b c)⟩
end Go.Wk
