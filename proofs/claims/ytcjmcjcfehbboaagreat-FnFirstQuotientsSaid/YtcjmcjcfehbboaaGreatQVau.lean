/- x -/
import Derived.Test.YtcjmcjcfehbboaaGreatQVaa
import Derived.Test.YtcjmcjcfehbboaaGreatQVab
import Derived.Test.YtcjmcjcfehbboaaGreatQVaf
import Derived.Test.YtcjmcjcfehbboaaGreatQVai
import Derived.Test.YtcjmcjcfehbboaaGreatQVaj
import Derived.Test.YtcjmcjcfehbboaaGreatQVak
import Derived.Test.YtcjmcjcfehbboaaGreatQVal
import Derived.Test.YtcjmcjcfehbboaaGreatQVam
import Derived.Test.YtcjmcjcfehbboaaGreatQVan
import Derived.Test.YtcjmcjcfehbboaaGreatQVao
import Derived.Test.YtcjmcjcfehbboaaGreatQVap
import Derived.Test.YtcjmcjcfehbboaaGreatQVas
import Derived.Test.YtcjmcjcfehbboaaGreatQWT
open Go.Proofs.Tryz renaming prog→J0,call165→U6,call166→Jbb
open Option renaming some→jq,none→jr
open Bool renaming true→js,false→jt
namespace Go.Wk
open Go Go.Proofs Go.Ab
set_option maxRecDepth 100000
set_option maxHeartbeats 4000000
section
attribute [local irreducible] RW CW DK OkL Ok yL yM xQ wE XS.post rng wF xN ixO zQ yC xR yH zC GTo zE FnC FnK wJ wS Kp Lk BsL BuL RpL Bk Lc
instance:HS Tryz.f177.8 [(2,2,0,.tr 4 10),(2,3,0,.trq 5 15 [0]),(0,7,0,.fz 22)]:=⟨⟩
instance(c:(List ByteArray)):LH (R:=SPr×Int) (zOB c) [0,2,4] [] (fun a=>[(7,T.ptr (T.agg [T.ro (lV a.1),T.ro (lM a.2.1),T.ro (lC a.2.2.1)])),(8,I a.2.2.2)]) (.xs (.xe 0 [4] fun b=>[(7,T.ptr (T.agg [T.ro (lV b.1),T.ro (lM b.2.1),T.ro (lC b.2.2)]))]) .xr):=⟨⟩
instance t_bf:FI J0 177 (∀(a:ByteArray),FnK J0 177 [Str a] (fun r=>[(fun x=>T.agg [(Ro lV) x.zA,(Ro lM) x.yB,(Ro lC) x.zD]) r.1,I r.2]) (fun _=>[]) (zVI a)):=⟨Tryz.call177,fun a=>iM Tryz.func177⟩
instance(a:Int)(b:List (List Int)):LH (R:=Int) (zH0 a b) [0,10,11] [] (fun c=>[(12,I c)]) (.xs (.xe 0 [0,10,11] fun _=>[]) .xr):=⟨⟩
instance t_am:FI J0 45 (∀(a:Int)(b:List (List Int)),FnK J0 45 [I a,T.ro (lM b)] (fun r=>[I r]) (fun _=>[]) (zQd a b)):=⟨Tryz.call45,fun a b=>iM Tryz.func45⟩
end
theorem yCe(x0:List Int)(x1:Int)(x2:List zI)(x3:SPr)(r:(List zI))(h:zPP x0 x1 x2 x3=jq r):FnC J0 165 [L 1 I x0,I x1,T.ptr (L 3 zF x2),T.ro ((Pt (Pt yI)) x3)] [] [(0,T.any),(2,(Pt (L 3 zF)) r)]:=by refine fB Tryz.func165 (fun St W w0 v=>?_) (ht:=⟨Top.of_clean _ (zG (Enc.clean (f:=I))),by first|(simp only[Top];done)|(simp[Top];done)|simp[Top,vV],Top.of_clean _ (yA (zG (Enc.clean (f:=zF)))),by first|(simp only[Top];done)|(simp[Top];done)|simp[Top,vV],trivial⟩);obtain⟨r1,eC,h⟩:=bd h;obtain⟨r2,gI,h⟩:=bd h;obtain⟨v3,cB,h⟩:=bd h;refine CW.dk ?_;refine zIi [(2,_)] ?_;refine uQ [(0,_)] ?_;refine zBJ [(3,_)] ?_;refine uQ [(0,_)] ?_;refine dC [(8,_),(9,_),(0,_)] Jbb (FnK.go (t_bK.h _ _ _) eC) ?_;refine zBJ [(3,_)] ?_;refine uQ [(0,_)] ?_;refine uQ [(1,_)] ?_;refine dC [(11,_),(12,_),(0,_),(13,_)] Jbb (FnK.go (t_bK.h _ _ _) gI) ?_;refine dG [(7,T.same 0 []),(0,L 1 I x0),(10,L 1 I r1),(14,L 1 I r2)] [([(7,jq (L 1 I x0)),(0,jq (T.same 7 []))],[(7,1),(0,1)]),([(0,jq T.any)],[]),([(15,jq (T.agg [L 1 I x0,L 1 I r1,L 1 I r2])),(7,jq (T.same 15 [0])),(10,jq (T.same 15 [1])),(14,jq (T.same 15 [2]))],[(15,0),(7,1),(10,1),(14,1)])] ⟨rfl,rfl,rfl,rfl,trivial⟩ (fun E h=>yT.gh (zE.tr 7 0 _ h.1 h.2.1 (zB (zG (Enc.clean (f:=I)))) rfl)<|yT.gh (zE.any 0 rfl rfl)<|yT.opE (zCa bld_160 [(0,.tmp 7),(1,.tmp 10),(2,.tmp 14)] [(0,.slot 7 (L 1 I x0)),(1,.slot 10 (L 1 I r1)),(2,.slot 14 (L 1 I r2))] [.slot 7 (L 1 I x0),.slot 10 (L 1 I r1),.slot 14 (L 1 I r2)] (pkS (qM rfl) (zB (zG (Enc.clean (f:=I)))) rfl (pkS (qM (qM h.2.2.1)) (zB (zG (Enc.clean (f:=I)))) rfl (pkS (qM (qM h.2.2.2.1)) (zB (zG (Enc.clean (f:=I)))) rfl pkN))) (bqC (.slot _ _) (bqC (.slot _ _) (bqC (.slot _ _) bqN))) rfl) rfl) ?_;refine dG [(15,_)] [([(16,jq (L 3 zF [(zI.mk x0 r1 r2)])),(15,jq (T.agg [T.same 16 [0,0],T.same 16 [1,0],T.same 16 [2,0]]))],[(16,0),(15,1)])] ⟨rfl,trivial⟩ (fun E h=>yT.opE (qX elt_157 [.tmp 15] [.slot 15 (T.agg [L 1 I x0,L 1 I r1,L 1 I r2])] [(zI.mk x0 r1 r2)] zF ⟨.slot _ _,trivial⟩ (pkS h.1 (zB (zR ⟨(zG (Enc.clean (f:=I))),(zG (Enc.clean (f:=I))),(zG (Enc.clean (f:=I))),trivial⟩)) rfl pkN) rfl rfl) rfl) ?_;refine dG [(6,T.same 2 [0]),(2,T.ptr (L 3 zF x2)),(16,L 3 zF [(zI.mk x0 r1 r2)])] [([(6,jq (L 3 zF x2)),(2,jq (T.ptr T.any))],[(6,1),(2,2)]),([(17,jq (L 3 zF v3)),(6,jq T.any),(16,jq T.any)],[(17,0),(6,1),(16,1)])] ⟨rfl,rfl,rfl,trivial⟩ (fun E h=>yT.gh (zE.trq 6 2 [0] h.1 h.2.1 rfl (zB (zG (Enc.clean (f:=zF)))) rfl)<|yT.opE (qV (f:=zF) elt_157 cB rfl (qM h.2.2.1) rfl) rfl) ?_;refine dG [(2,_),(17,_)] [([(2,jq (T.ptr (L 3 zF v3))),(17,jq (T.same 2 [0]))],[(2,1),(17,1)])] ⟨rfl,rfl,trivial⟩ (fun E h=>yT.opE (uB zOF rfl (wU h.1 rfl) h.1 rfl rfl h.2.1 (zB (zG (Enc.clean (f:=zF)))) rfl) rfl) ?_;refine dNA tZ ?_;obtain rfl:=sI h;exact rT
instance t_aB:FI J0 165 (∀(a:List Int)(b:Int)(c:List zI)(d:SPr),FnK J0 165 [L 1 I a,I b,T.ptr (L 3 zF c),T.ro ((Pt (Pt yI)) d)] (fun _:(List zI)=>[]) (fun r=>[(0,T.any),(2,(Pt (L 3 zF)) r)]) (zPP a b c d)):=⟨U6,fun a b c d=>FnK.mk (yCe a b c d)⟩
section
attribute [local irreducible] RW CW DK OkL Ok yL yM xQ wE XS.post rng wF xN ixO zQ yC xR yH zC GTo zE FnC FnK wJ wS Kp Lk BsL BuL RpL Bk Lc
instance:HS Tryz.f96.8 [(2,2,0,.tr 5 9)]:=⟨⟩
instance(b:zN)(c:(List Int)):LH (R:=(List Int)) (zIF b c) [2,12,13] [] (fun a=>[(5,L 1 I a.1),(14,I a.2)]) (.xe 0 [2,12,13] fun d=>[(5,L 1 I d)]):=⟨⟩
instance t_aF:FI J0 96 (∀(a:zN)(b:List Int),FnK J0 96 [zAR a,T.ro (lV b)] (fun r=>[lV r]) (fun _=>[]) (zVh a b)):=⟨Tryz.call96,fun a b=>iM Tryz.func96⟩
instance:HS Tryz.f98.8 [(2,2,0,.tr 5 9),(2,3,0,.tr 6 12)]:=⟨⟩
instance(c:SPr)(d:(List Int)×(List Int)×Int):LH (R:=(List Int)) (zPG c d) [0,7,14,15] [] (fun a=>[(5,L 1 I a.1),(6,L 1 I a.2)]) (.xe 2 [7] fun b=>[(5,L 1 I b.1),(6,L 1 I b.2)]):=⟨⟩
instance(b:SPr)(c:(List Int)):LH (R:=(List Int)) (zS3 b c) [0,14] [] (fun a=>[(5,L 1 I a.1),(6,L 1 I a.2.1),(15,I a.2.2)]) (.xe 0 [0,14] fun d=>[(6,L 1 I d)]):=⟨⟩
instance t_G:FI J0 98 (∀(a:SPr)(b:List Int),FnK J0 98 [T.ro ((Pt yI) a),T.ro (lV b)] (fun r=>[lV r]) (fun _=>[]) (f_G a b)):=⟨Tryz.call98,fun a b=>iM Tryz.func98⟩
instance:HS Tryz.f151.8 [(2,2,0,.tr 7 11)]:=⟨⟩
instance(a:SPr)(b:List (List Int))(c:(List Int)×Int)(d:Int):LH (R:=(List Int)) (zPV a b c d) [0,1,8,9,13,14,15] [] (fun e=>[(7,L 1 I e)]) (.xe 2 [8,9] fun f=>[(7,L 1 I f)]):=⟨⟩
instance(b:SPr)(c:List (List Int))(d:(List Int)):LH (R:=(List Int)) (zNh b c d) [0,1,13,14] [] (fun a=>[(7,L 1 I a.1),(15,I a.2)]) (.xe 0 [0,1,13,14] fun e=>[(7,L 1 I e)]):=⟨⟩
instance t_O:FI J0 151 (∀(a:SPr)(b:List (List Int))(c:List Int),FnK J0 151 [T.ro ((Pt yI) a),T.ro (lM b),T.ro (lV c)] (fun r=>[lV r]) (fun _=>[]) (f_O a b c)):=⟨Tryz.call151,fun a b c=>iM Tryz.func151⟩
instance:HS Tryz.f65.8 [(2,2,0,.tr 11 19),(2,3,0,.tr 12 23),(0,39,0,.tr 30 12),(2,5,0,.tr 12 39)]:=⟨⟩
instance(b:List Int)(c:(List Int)):LH (R:=(List Int)) (zLI b c) [4,11] [] (fun a=>[(12,L 1 I a.1),(13,I a.2)]) (.xe 0 [4,11] fun d=>[(12,L 1 I d)]):=⟨⟩
instance t_au:FI J0 65 (∀(a:Int)(b:List Int)(c:Int)(d:List (List Int))(e:List Int),FnK J0 65 [I a,T.ro (lV b),I c,T.ro (lM d),T.ro (lV e)] (fun r=>[lV r]) (fun _=>[]) (zNp a b c d e)):=⟨Tryz.call65,fun a b c d e=>iM Tryz.func65⟩
instance t_bw:FI J0 117 (∀(a:SPr)(b:List Int),FnK J0 117 [qPr a,T.ro (lV b)] (fun r=>[lV r]) (fun _=>[]) (zMX a b)):=⟨Tryz.call117,fun a b=>iM Tryz.func117⟩
instance t_b5:FI J0 75 (∀(a:Int),FnK J0 75 [I a] (fun r=>[I r]) (fun _=>[]) (zWe a)):=⟨Tryz.call75,fun a=>iM Tryz.func75⟩
end
end Go.Wk
