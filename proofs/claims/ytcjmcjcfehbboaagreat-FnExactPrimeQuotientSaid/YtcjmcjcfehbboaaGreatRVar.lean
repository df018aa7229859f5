/- x -/
import Derived.Test.YtcjmcjcfehbboaaGreatRVaa
import Derived.Test.YtcjmcjcfehbboaaGreatRVac
import Derived.Test.YtcjmcjcfehbboaaGreatRVad
import Derived.Test.YtcjmcjcfehbboaaGreatRVak
import Derived.Test.YtcjmcjcfehbboaaGreatRVam
import Derived.Test.YtcjmcjcfehbboaaGreatRVan
import Derived.Test.YtcjmcjcfehbboaaGreatRWT
open Go.Proofs.Tryz renaming prog->J1,call165->Uv,f34->Jbn,call166->Jbp,call138->Jbq
open Option renaming some->Wu,none->Wv
open Bool renaming true->Ww,false->Wx
namespace Go.Wk
open Go Go.Proofs Go.Ab
set_option maxRecDepth 100000
set_option maxHeartbeats 4000000
section
attribute [local irreducible] RW CW DK OkL Ok yX xC wK wY XS.post rng vP vL ixO zT yR wN yO zF GTo zI FnC FnK vB uC Kp Lk BsL BuL RpL Bk Lc
instance t_bo:FI J1 23 (∀(a:yF),FnK J1 23 [qG a] (fun r=>[B r]) (fun _=>[]) (zXV a)):=⟨Tryz.call23,fun a=>iM Tryz.func23⟩
end
theorem u_Y(x0:List Int)(x1:Int)(x2:List zH)(x3:SPr)(r:(List zH))(h:f_Y x0 x1 x2 x3=Wu r):FnC J1 165 [L 1 I x0,I x1,T.ptr (L 3 zC x2),T.ro ((Pt (Pt yM)) x3)] [] [(0,T.any),(2,(Pt (L 3 zC)) r)]:=by refine fB Tryz.func165 (fun St W w0 v=>?_) (ht:=⟨Top.of_clean _ (zJ (Enc.clean (f:=I))),by first|(simp only[Top];done)|(simp[Top];done)|simp[Top,vV],Top.of_clean _ (wJ (zJ (Enc.clean (f:=zC)))),by first|(simp only[Top];done)|(simp[Top];done)|simp[Top,vV],trivial⟩);obtain⟨r1,eO,h⟩:=bd h;obtain⟨r2,pf,h⟩:=bd h;obtain⟨v3,pu,h⟩:=bd h;refine CW.dk ?_;refine zPo [(2,_)] ?_;refine sP [(0,_)] ?_;refine zB7 [(3,_)] ?_;refine sP [(0,_)] ?_;refine dC [(8,_),(9,_),(0,_)] Jbp (FnK.go (t_aU.h _ _ _) eO) ?_;refine zB7 [(3,_)] ?_;refine sP [(0,_)] ?_;refine sP [(1,_)] ?_;refine dC [(11,_),(12,_),(0,_),(13,_)] Jbp (FnK.go (t_aU.h _ _ _) pf) ?_;refine dG [(7,T.same 0 []),(0,L 1 I x0),(10,L 1 I r1),(14,L 1 I r2)] [([(7,Wu (L 1 I x0)),(0,Wu (T.same 7 []))],[(7,1),(0,1)]),([(0,Wu T.any)],[]),([(15,Wu (T.agg [L 1 I x0,L 1 I r1,L 1 I r2])),(7,Wu (T.same 15 [0])),(10,Wu (T.same 15 [1])),(14,Wu (T.same 15 [2]))],[(15,0),(7,1),(10,1),(14,1)])] ⟨rfl,rfl,rfl,rfl,trivial⟩ (fun E h=>xN.gh (zI.tr 7 0 _ h.1 h.2.1 (zE (zJ (Enc.clean (f:=I)))) rfl)<|xN.gh (zI.any 0 rfl rfl)<|xN.opE (zKq bld_160 [(0,.tmp 7),(1,.tmp 10),(2,.tmp 14)] [(0,.slot 7 (L 1 I x0)),(1,.slot 10 (L 1 I r1)),(2,.slot 14 (L 1 I r2))] [.slot 7 (L 1 I x0),.slot 10 (L 1 I r1),.slot 14 (L 1 I r2)] (pkS (zDA rfl) (zE (zJ (Enc.clean (f:=I)))) rfl (pkS (zDA (zDA h.2.2.1)) (zE (zJ (Enc.clean (f:=I)))) rfl (pkS (zDA (zDA h.2.2.2.1)) (zE (zJ (Enc.clean (f:=I)))) rfl pkN))) (bqC (.slot _ _) (bqC (.slot _ _) (bqC (.slot _ _) bqN))) rfl) rfl) ?_;refine dG [(15,_)] [([(16,Wu (L 3 zC [(zH.mk x0 r1 r2)])),(15,Wu (T.agg [T.same 16 [0,0],T.same 16 [1,0],T.same 16 [2,0]]))],[(16,0),(15,1)])] ⟨rfl,trivial⟩ (fun E h=>xN.opE (zD0 elt_157 [.tmp 15] [.slot 15 (T.agg [L 1 I x0,L 1 I r1,L 1 I r2])] [(zH.mk x0 r1 r2)] zC ⟨.slot _ _,trivial⟩ (pkS h.1 (zE (xY ⟨(zJ (Enc.clean (f:=I))),(zJ (Enc.clean (f:=I))),(zJ (Enc.clean (f:=I))),trivial⟩)) rfl pkN) rfl rfl) rfl) ?_;refine dG [(6,T.same 2 [0]),(2,T.ptr (L 3 zC x2)),(16,L 3 zC [(zH.mk x0 r1 r2)])] [([(6,Wu (L 3 zC x2)),(2,Wu (T.ptr T.any))],[(6,1),(2,2)]),([(17,Wu (L 3 zC v3)),(6,Wu T.any),(16,Wu T.any)],[(17,0),(6,1),(16,1)])] ⟨rfl,rfl,rfl,trivial⟩ (fun E h=>xN.gh (zI.trq 6 2 [0] h.1 h.2.1 rfl (zE (zJ (Enc.clean (f:=zC)))) rfl)<|xN.opE (zBN (f:=zC) elt_157 pu rfl (zDA h.2.2.1) rfl) rfl) ?_;refine dG [(2,_),(17,_)] [([(2,Wu (T.ptr (L 3 zC v3))),(17,Wu (T.same 2 [0]))],[(2,1),(17,1)])] ⟨rfl,rfl,trivial⟩ (fun E h=>xN.opE (zA9 zQr rfl (uB h.1 rfl) h.1 rfl rfl h.2.1 (zE (zJ (Enc.clean (f:=zC)))) rfl) rfl) ?_;refine dNA zAO ?_;obtain rfl:=sI h;exact rT
instance t_Y:FI J1 165 (∀(a:List Int)(b:Int)(c:List zH)(d:SPr),FnK J1 165 [L 1 I a,I b,T.ptr (L 3 zC c),T.ro ((Pt (Pt yM)) d)] (fun _:(List zH)=>[]) (fun r=>[(0,T.any),(2,(Pt (L 3 zC)) r)]) (f_Y a b c d)):=⟨Uv,fun a b c d=>FnK.mk (u_Y a b c d)⟩
section
attribute [local irreducible] RW CW DK OkL Ok yX xC wK wY XS.post rng vP vL ixO zT yR wN yO zF GTo zI FnC FnK vB uC Kp Lk BsL BuL RpL Bk Lc
instance:HS Tryz.f180.8 [(0,26,0,.trq 21 5 [2,0]),(1,4,0,.trf 29 2 5 [2,0])]:=⟨⟩
instance(a b:zM):LH (R:=zM) (zMO a b) [3,4,14,15] [] (fun c=>[(5,T.ptr (T.agg [I a.Prime,I b.wP,L 1 lV c.1])),(16,I c.2)]) (.xe 0 [3,14,15] fun d=>[(5,T.ptr (T.agg [I a.Prime,I b.wP,L 1 lV d]))]):=⟨⟩
instance t_av:FI J1 180 (∀(a b:zM),FnK J1 180 [zDx a,zDx b] (fun r=>[zU r]) (fun _=>[]) (zXD a b)):=⟨Tryz.call180,fun a b=>iM Tryz.func180⟩
instance:HS Tryz.f138.8 [(0,14,0,.fz 13),(0,28,0,.tr 23 7),(2,7,0,.tr 7 28)]:=⟨⟩
instance(c:Int)(d:(List (List Int))):LH (R:=(List (List Int))) (zR9 c d) [0,2,13,14] [] (fun b=>[(7,L 1 (Ro lV) b.1),(15,I b.2)]) (.xe 0 [2,13,14] fun a=>[(7,L 1 (Ro lV) a)]):=⟨⟩
instance t_N:FI J1 138 (∀(a:Int)(b:List (List Int))(c:Int),FnK J1 138 [I a,T.ro (lM b),I c] (fun r:(List (List Int))=>[lM r]) (fun _=>[]) (f_N a b c)):=⟨Jbq,fun a b c=>iM Tryz.func138⟩
instance:HS Tryz.f65.8 [(2,2,0,.tr 11 19),(2,3,0,.tr 12 23),(0,39,0,.tr 30 12),(2,5,0,.tr 12 39)]:=⟨⟩
instance(b:List Int)(c:(List Int)):LH (R:=(List Int)) (zJP b c) [4,11] [] (fun a=>[(12,L 1 I a.1),(13,I a.2)]) (.xe 0 [4,11] fun d=>[(12,L 1 I d)]):=⟨⟩
instance t_aa:FI J1 65 (∀(a:Int)(b:List Int)(c:Int)(d:List (List Int))(e:List Int),FnK J1 65 [I a,T.ro (lV b),I c,T.ro (lM d),T.ro (lV e)] (fun r=>[lV r]) (fun _=>[]) (zOG a b c d e)):=⟨Tryz.call65,fun a b c d e=>iM Tryz.func65⟩
instance:HS Jbn.8 [(2,2,0,.tr 5 13),(2,3,0,.tr 6 16),(2,10,0,.tr 9 38),(0,60,0,.tr 59 9),(0,61,0,.tr 58 6),(2,15,0,.tr 6 61)]:=⟨⟩
instance:HX Jbn.8 [(0,70,0,.trh 67 5)]:=⟨⟩
instance(a:(List (List Int))×(List (List Int))×Int)(c:(List Int)):LH (R:=(List (List Int))) (zVX a c) [1,2,5,6,7,8,9] [] (fun b=>[(10,I b)]) (.xe 4 [] fun d=>[(10,I d)]):=⟨⟩
instance(d:SPr)(e:List (List Int))(c:(List (List Int))×(List (List Int))×Int):LH (R:=(List (List Int))) (zVY d e c) [1,2,7] [] (fun a=>[(5,L 1 lV a.1),(6,L 1 lV a.2.1),(8,I a.2.2)]) (.xe 2 [] fun b=>[(5,L 1 lV b.1),(6,L 1 lV b.2)]):=⟨⟩
instance(c:SPr)(d:List (List Int)):LH (R:=(List (List Int))) (zSf c d) [1,2] [] (fun a=>[(5,L 1 lV a.1),(6,L 1 lV a.2.1),(7,I a.2.2)]) (.xe 0 [1,2] fun b=>[(5,L 1 lV b)]):=⟨⟩
instance t_v:FI J1 34 (∀(a:SPr)(b:List (List Int)),FnK J1 34 [qPr a,T.ro (lM b)] (fun r:(List (List Int))=>[lM r]) (fun _=>[]) (f_v a b)):=⟨Tryz.call34,fun a b=>iM Tryz.func34⟩
end
end Go.Wk
