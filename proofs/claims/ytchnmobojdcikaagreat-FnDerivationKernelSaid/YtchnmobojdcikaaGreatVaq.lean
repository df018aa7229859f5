/- x -/
import Derived.Test.YtchnmobojdcikaaGreatVam
import Derived.Test.YtchnmobojdcikaaGreatVan
import Derived.Test.YtchnmobojdcikaaGreatVao
import Derived.Test.YtchnmobojdcikaaGreatWT
open Go.Proofs.Tryz renaming prog→J0,call174→Jag
open List renaming replicate→J1
open Option renaming some→dS,none→dT
open Bool renaming true→dU,false→dV
namespace Go.Wk
open Go Go.Proofs Go.Ab
set_option maxRecDepth 100000
set_option maxHeartbeats 4000000
section
attribute [local irreducible] RW CW DK OkL Ok zU zY yO yZ XS.post rng xC yL ixO zL zX yM zV zE GTo zK FnC FnK xJ xQ Kp Lk BsL BuL RpL Bk Lc JQ AK
instance:HS Tryz.f217.8 [(0,36,0,.tr 22 6)]:=⟨⟩
instance(b:SPr)(c:zB)(d:Int):LH (R:=(List (List Int))) (zMX b c d) [0,1,5,18] [] (fun a=>[(6,L 1 lV a.1),(19,I a.2)]) (.xe 0 [0,1,5,18] fun e=>[(6,L 1 lV e)]):=⟨⟩
instance t_bk:FI J0 217 (∀(a:SPr)(b:zB),FnK J0 217 [T.ro ((Pt xR) a),T.ro ((Pt yX) b)] (fun r:(List (List Int))=>[lM r]) (fun _=>[]) (zW1 a b)):=⟨Tryz.call217,fun a b=>iM Tryz.func217⟩
instance t_bL:FI J0 38 (∀(a:SPr)(b:Int),FnK J0 38 [qPr a,I b] (fun r:(List Int)×Int=>[lV r.1,I r.2]) (fun _=>[]) (zKS a b)):=⟨Tryz.call38,fun a b=>iM Tryz.func38⟩
instance t_cr:FI J0 41 (∀(a:SPr)(b c:List Int),FnK J0 41 [qPr a,T.ro (lV b),T.ro (lV c)] (fun r:(List Int)×Int=>[lV r.1,I r.2]) (fun _=>[]) (zUY a b c)):=⟨Tryz.call41,fun a b c=>iM Tryz.func41⟩
instance t_cH:FI J0 43 (∀(a:SPr)(b:zB)(c:List Int),FnK J0 43 [qPr a,xD b,T.ro (lV c)] (fun r=>[sB r.1,I r.2]) (fun _=>[]) (zXi a b c)):=⟨Tryz.call43,fun a b c=>iM Tryz.func43⟩
instance:HS Tryz.f155.8 [(0,26,0,.tr 14 5),(2,6,0,.tr 5 26)]:=⟨⟩
instance(b:SPr)(c:zB):LH (R:=(List (List Int))) (zMT b c) [0,1,10] [] (fun a=>[(5,L 1 lV a.1),(11,I a.2)]) (.xe 0 [0,1,10] fun d=>[(5,L 1 lV d)]):=⟨⟩
instance t_aE:FI J0 155 (∀(a:SPr)(b:zB),FnK J0 155 [T.ro ((Pt xR) a),T.ro ((Pt yX) b)] (fun r:(List (List Int))=>[lM r]) (fun _=>[]) (zO1 a b)):=⟨Tryz.call155,fun a b=>iM Tryz.func155⟩
instance:HS Tryz.f156.8 [(2,2,0,.tr 5 15)]:=⟨⟩
instance(b:zB)(c:(List (List Int))):LH (R:=(List (List Int))) (zMU b c) [0,16,17] [] (fun a=>[(5,L 1 lV a.1),(18,I a.2)]) (.xe 0 [0,16,17] fun d=>[(5,L 1 lV d)]):=⟨⟩
instance t_bj:FI J0 156 (∀(a:zB)(b:Int),FnK J0 156 [T.ro ((Pt yX) a),I b] (fun r:(List (List Int))=>[lM r]) (fun _=>[]) (zW0 a b)):=⟨Tryz.call156,fun a b=>iM Tryz.func156⟩
instance t_aO:FI J0 174 (∀(a:SPr)(b:zB)(c:List (List Int)),FnK J0 174 [qPr a,xD b,T.ro (lM c)] (fun r=>[I r]) (fun _=>[]) (zG4 a b c)):=⟨Jag,fun a b c=>iM Tryz.func174⟩
end
theorem yCW(x0:SPr)(x1:zB)(x2:List (List Int))(x3:List Int)(r:(List Int)×Int)(h:zG5 x0 x1 x2 x3=dS r):FnC J0 61 [qPr x0,xD x1,T.ro (lM x2),T.ro (lV x3)] [T.ro (lV r.1),I r.2] []:=by refine fB Tryz.func61 (fun St W w0 v=>?_);refine sR (zJe ?_);refine zJe ?_;refine oP (zA9 1 rfl) ?_;refine uD ?_;refine rN (CW.seq (sR (zJd ?_)));refine zJd ?_;obtain⟨r1,gC,h⟩:=bd h;refine cA Tryz.call136 (FnK.go (t_aB.h _ _) gC) ?_;refine zXG ?_;refine xZ ?_;refine RW.cases 15 _ rfl (fun hc=>?_) (fun hc=>?_);have h:=cT hc h;refine sk2 ?_;refine sk2 ?_;refine sk2 ?_;refine sk2 ?_;refine zF7 ?_;refine rN (CW.condT rfl ?_);refine sR (oP (zA9 1 rfl) ?_);refine uD ?_;refine rN (CW.ghost (zK.frz 8 (k:=1) (f:=I) (g:=I) [] rfl inferInstance) ?_);refine CW.ret (rA ?_);obtain rfl:=sI h;exact rT;have h:=cF hc h;refine yA8 ?_;refine zV2 ?_;obtain⟨r2,gz,h⟩:=bd h;refine RW.cons (yQ.guard 4 dV 15 (tU (xs:=[.tmp 16,.tmp 17]) Tryz.call138 (FnK.go (t_bi.h _ _) gz) ⟨(agC _ rfl rfl rfl),⟨(agC _ rfl rfl rfl),trivial⟩⟩ (zCj (f:=B) inferInstance zBz) rfl)) ?_;refine zXH ?_;refine zF7 ?_;refine rN (cn h (fun hc h=>?_) (fun hc h=>?_));refine sR (oP (zA9 1 rfl) ?_);refine uD ?_;refine rN (CW.ghost (zK.frz 8 (k:=1) (f:=I) (g:=I) [] rfl inferInstance) ?_);refine CW.ret (rA ?_);obtain rfl:=sI h;exact rT;refine CW.skip (nA (CW.seq (sR (zJd ?_))));refine zJd ?_;refine xZ ?_;obtain⟨r3,hH,h⟩:=bd h;refine cA Jag (FnK.go (t_aO.h _ _ _) hH) ?_;refine uD ?_;refine rN (sR (xZ ?_));refine zSq ?_;refine rN (cn h (fun hc h=>?_) (fun hc h=>?_));refine sR (xZ ?_);refine oP (zA9 1 rfl) ?_;refine uD ?_;refine rN (CW.ghost (zK.frz 8 (k:=1) (f:=I) (g:=I) [] rfl inferInstance) ?_);refine CW.ret (rA ?_);obtain rfl:=sI h;exact rT;refine CW.skip (nA (CW.seq ?_));obtain⟨m4,hm4,h⟩:=bd h;obtain⟨r5,bw,h⟩:=bd h;refine CW.dk ?_;refine yAC [(5,_)] ?_;refine tV [(2,_)] ?_;refine zQl [(5,_)] ?_;refine zKq [(30,_),(5,_)] ?_;refine dG [(31,_)] [([(32,dS (L 1 I (J1 m4 (0:Int))))],[(32,0)])] ⟨rfl,trivial⟩ (fun E h=>yQ.opE (zKk (f:=I) (z:=0) elt_24 (rfl) hm4 h.1 h.1 rfl) rfl) ?_;refine tV [(3,_)] ?_;refine dG [(32,L 1 I (J1 m4 (0:Int))),(28,xD x1),(29,T.ro (lM x2)),(33,T.ro (lV x3))] [([(32,dS (T.ro (lV (J1 m4 (0:Int)))))],[(32,1)]),([(34,dS (T.ro (lV r5)))],[(34,0)])] ⟨rfl,rfl,rfl,rfl,trivial⟩ (fun E h=>yQ.gh (zK.frzG 32 _ (t':=T.ro (lV (J1 m4 (0:Int)))) h.1 (fzO inferInstance))<|yQ.opE (zGG (xs:=[.tmp 28,.tmp 29,.tmp 32,.tmp 33]) Tryz.call175 (FnK.go (t_L.h _ _ _ _) bw) (afC (zSt h.2.1) rfl (afC (zSt h.2.2.1) rfl (afC rfl rfl (afC (zSt h.2.2.2.1) rfl afN)))) rfl ⟨trivial,trivial⟩ rfl rfl) rfl) ?_;refine zV4 [(34,_)] ?_;refine zV4 [] ?_;refine dNA zA5 ?_;refine nA (CW.ret ?_);obtain rfl:=sI h;exact rT
instance t_ax:FI J0 61 (∀(a:SPr)(b:zB)(c:List (List Int))(d:List Int),FnK J0 61 [qPr a,xD b,T.ro (lM c),T.ro (lV d)] (fun r:(List Int)×Int=>[T.ro (lV r.1),I r.2]) (fun _=>[]) (zG5 a b c d)):=⟨Tryz.call61,fun a b c d=>FnK.mk (yCW a b c d)⟩
end Go.Wk
