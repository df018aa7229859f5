/- x -/
import Derived.Test.YtcjmcjcfehbboaaGreatQVaa
import Derived.Test.YtcjmcjcfehbboaaGreatQVac
import Derived.Test.YtcjmcjcfehbboaaGreatQVae
import Derived.Test.YtcjmcjcfehbboaaGreatQVaf
import Derived.Test.YtcjmcjcfehbboaaGreatQWT
open Go.Proofs.Tryz renaming prog→J0,underlying3→Hd,underlying186→Hu
open List renaming replicate→J1
open Nat renaming le_refl→J7,zero_le→Jw
open Option renaming some→jq,none→jr
open Bool renaming true→js,false→jt
namespace Go.Wk
open Go Go.Proofs Go.Ab
set_option maxRecDepth 100000
set_option maxHeartbeats 4000000
section
attribute [local irreducible] RW CW DK OkL Ok yL yM xQ wE XS.post rng wF xN ixO zQ yC xR yH zC GTo zE FnC FnK wJ wS Kp Lk BsL BuL RpL Bk Lc
instance:HS Tryz.f109.8 [(0,23,0,.trq 19 4 [1,0]),(2,8,0,.tr 6 25),(0,38,0,.tr 33 6),(2,10,0,.tr 6 38),(0,42,0,.tr 41 6),(0,43,0,.trq 40 4 [2,0]),(1,2,0,.trf 45 0 4 [0,0]),(1,2,1,.trf 45 1 4 [1,0]),(1,2,2,.trf 45 2 4 [2,0])]:=⟨⟩
instance(b:List Int):LH (R:=SPr) (zPW b) [2,3,4,5] [] (fun a=>[(6,L 1 lV a.1),(7,I a.2)]) (.xe 2 [] fun c=>[(6,L 1 lV c)]):=⟨⟩
instance(a:List Int):LN (zJP a) 4:=⟨⟩
instance(c:List Int)(A0 A1 A2:T):LHk (R:=SPr) (zJP c) (T.ptr (T.agg [A0,A1,A2])) [2,3] [] (fun b=>[(4,T.ptr (T.agg [A0,L 1 lV b.1,L 1 lM b.2.1])),(5,I b.2.2)]) (.xe 0 [3] fun a=>[(4,T.ptr (T.agg [A0,L 1 lV a.1,L 1 lM a.2]))]):=⟨⟩
instance t_p:FI J0 109 (∀(a:List Int),FnK J0 109 [T.ro (lV a)] (fun r=>[yI r]) (fun _=>[]) (f_p a)):=⟨Tryz.call109,fun a=>iM Tryz.func109⟩
instance:HS Tryz.f173.8 [(2,2,0,.tr 4 6),(0,22,0,.tr 19 4),(2,7,0,.tr 4 22)]:=⟨⟩
instance(c:Int×(List Int)×Int):LH (R:=(List Int)×Bool) (zY6 c) [5] [] (fun a=>[(0,I a.1),(4,L 1 I a.2)]) (.xe 2 [] fun b=>[(0,I b.1),(4,L 1 I b.2)]):=⟨⟩
instance:LH (R:=(List Int)×Bool) zV0 [] [] (fun a=>[(0,I a.1),(4,L 1 I a.2.1),(5,I a.2.2)]) (.xe 0 [] fun b=>[(0,I b.1),(4,L 1 I b.2)]):=⟨⟩
instance t_Z:FI J0 173 (∀(a:Int),FnK J0 173 [I a] (fun r:(List Int)×Bool=>[lV r.1,B r.2]) (fun _=>[]) (f_Z a)):=⟨Tryz.call173,fun a=>iM Tryz.func173⟩
instance:HS Tryz.f186.8 [(2,2,0,.tr 4 8),(2,5,0,.tr 5 13),(0,35,0,.tr 32 4),(2,7,0,.tr 4 35)]:=⟨⟩
instance(b:(List ByteArray)):LH (R:=(List Int)×Bool) (zOA b) [5] [] (fun a=>[(4,L 1 I a.1),(6,I a.2)]) (.xs (.xe 0 [5] fun c=>[(4,L 1 I c)]) .xr):=⟨⟩
instance t_be:FI J0 186 (∀(a:ByteArray),FnK J0 186 [Str a] (fun r:(List Int)×Bool=>[lV r.1,B r.2]) (fun _=>[]) (zV8 a)):=⟨Tryz.call186,fun a=>iM Tryz.func186⟩
end
theorem u_W(x0:List Int)(x1:Int)(r:(List Int))(h:f_W x0 x1=jq r):FnC J0 142 [T.ro (lV x0),I x1] [lV r] []:=by
 refine fB Tryz.func142 (fun St W w0 v=>?_);refine sR (oP (zAH 1 rfl) ?_);refine rN (CW.seq (sR (zL ?_)));refine sL ?_;refine rN (cn h (fun hc h=>?_) (fun hc h=>?_))
 ·refine CW.region ?_
  cases h
 ·refine CW.skip (nA (sR (zL ?_)))
  refine qF ?_;refine oP (zFU Hd Hu rfl rfl) ?_;refine zL ?_;refine oP (zFU Hd Hu rfl rfl) ?_;obtain⟨r1,eC,h⟩:=bd h;refine cA Tryz.call172 (FnK.go (t_bE.h _ _) eC) ?_;refine zF5 ?_;refine zAJ ?_;refine zAJ ?_;refine yX ?_;refine yX ?_;refine rN (CW.seq (sR (zL ?_)));refine oP (zMc rfl rfl rfl) ?_;refine zL ?_;refine RW.cases 23 _ rfl (fun hc=>?_) (fun hc=>?_)
  ·have h:=cT hc h
   refine sk2 ?_;refine sk2 ?_;refine zRd ?_;refine rN (CW.condT rfl ?_);refine CW.region ?_;cases h
  ·have h:=cF hc h
   refine yBi ?_;refine RW.cons (yT.guard 2 jt 23 (zMc rfl rfl rfl)) ?_;refine zRd ?_;refine rN (cn h (fun hc h=>?_) (fun hc h=>?_))
   ·refine CW.region ?_
    cases h
   ·refine CW.skip (nA (sR (zL ?_)))
    refine oP (zFU Hu Hd rfl rfl) ?_;obtain⟨m2,iO,h⟩:=bd h;refine oP (zBY (f:=I) (z:=0) elt_38 (rfl) iO rfl rfl rfl) ?_;refine yX ?_;refine RW.ghost (zE.tr 7 30 _ rfl rfl (zB (zG (Enc.clean (f:=I)))) rfl) ?_;refine rN (CW.seq (CW.to [(0,T.ro (lV x0)),(7,L 1 I (J1 m2 (0:Int)))] ⟨rfl,rfl,trivial⟩ ?_));refine CW.region (zL ?_);refine zL ?_;refine oP (zJn elt_38 rfl (fun _=>(zCC.same rfl rfl)) (fun _=>(zF3.ro (wU rfl rfl))) (Jw _) (J7 _) rfl) ?_;refine yX ?_;refine rN (CW.seq (CW.block ?_));obtain⟨r6,pJ,h⟩:=bd h;refine CW.lp (s:=(uW (J1 m2 (0:Int)) 0 (x0.take (((J1 m2 (0:Int)).length)-0)),((min x0.length (((J1 m2 (0:Int)).length)-0):Nat):Int))) zPH (fun s1:(List Int)×Int=>xK [(7,L 1 I s1.1),(8,I s1.2)]) (fun(r6:(List Int)) e E=>e=.exit 0∧zE ⟨St,W,w0,Tryz.f142.ntmps⟩ E (xK [(7,L 1 I r6)])) (.has ⟨rfl,rfl,trivial⟩) (fun s1 x h=>?_) pJ (fun e E hq=>?_)
    ·refine CW.seq (sR (zL ?_))
     refine zL ?_;refine zAI ?_;refine sL ?_;refine rN (cn h (fun hc h=>?_) (fun hc h=>?_))
     ·refine CW.skip (nA (CW.block ?_))
      obtain⟨v3,cB,h⟩:=bd h;obtain⟨v4,pB,h⟩:=bd h;obtain⟨v5,dP,h⟩:=bd h;refine CW.dk ?_;refine uQ [(8,_)] ?_;refine uQ [(7,_)] ?_;refine uQ [(8,_)] ?_;refine dG [(39,_),(7,_),(40,_)] [([(41,jq (T.sub 7 [] 1 ((s1.2:Int).toNat) ((s1.1.length:Int).toNat)))],[(41,0)])] ⟨rfl,rfl,rfl,trivial⟩ (fun E h=>yT.opE (zQS row_38 cB (kG h.1 h.2.1 rfl rfl) (zTQ (zFc cB) h.2.2.1) zXf rfl) rfl) ?_;refine uQ [(7,_)] ?_;refine uQ [(8,_)] ?_;refine dG [(42,_),(7,_),(43,_)] [([(44,jq (T.sub 7 [] 1 ((0:Int).toNat) ((s1.2:Int).toNat)))],[(44,0)])] ⟨rfl,rfl,rfl,trivial⟩ (fun E h=>yT.opE (zQS row_38 pB (kG h.1 h.2.1 rfl rfl) zYW (zTQ (zId pB) h.2.2.1) rfl) rfl) ?_;refine dG [(41,_),(7,_),(44,_)] [([(7,jq (L 1 I (uW s1.1 ((s1.2:Int).toNat) (v4.take (((s1.1.length:Int).toNat)-((s1.2:Int).toNat))))))],[(7,1)]),([(45,jq (I ((min v4.length (((s1.1.length:Int).toNat)-((s1.2:Int).toNat)):Nat):Int)))],[(45,0)])] ⟨rfl,rfl,rfl,trivial⟩ (fun E h=>yT.opE (zJn elt_38 h.2.1 (fun _=>(zCC.sub h.1)) (fun _=>(zF3.sub h.2.2.1 h.2.1 rfl pB)) (zOR cB) (zOS cB) rfl) rfl) ?_;refine zIh [(38,_),(45,_)] ?_;refine zFe [(46,_)] ?_;refine dNA tZ ?_;exact nB (eN h)
     ·refine CW.exit (xA ?_)
      exact eX h
    ·obtain⟨rfl,hg⟩:=hq
     refine xB ?_;refine nA (CW.ghost hg ?_);refine sR (zL ?_);refine yX ?_;refine RW.ghost (zE.tr 4 7 _ rfl rfl (zB (zG (Enc.clean (f:=I)))) rfl) ?_;refine rN (CW.ret ?_);obtain rfl:=sI h;exact rT
instance t_W:FI J0 142 (∀(a:List Int)(b:Int),FnK J0 142 [T.ro (lV a),I b] (fun r=>[lV r]) (fun _=>[]) (f_W a b)):=⟨Tryz.call142,fun a b=>FnK.mk (u_W a b)⟩
section
attribute [local irreducible] RW CW DK OkL Ok yL yM xQ wE XS.post rng wF xN ixO zQ yC xR yH zC GTo zE FnC FnK wJ wS Kp Lk BsL BuL RpL Bk Lc
instance:HS Tryz.f189.8 [(2,2,0,.tr 5 10)]:=⟨⟩
instance(b:List Int)(c:zN):LH (R:=(List Int)) (zWN b c) [3,11,12] [] (fun a=>[(5,L 1 I a.1),(13,I a.2)]) (.xe 0 [3,11,12] fun d=>[(5,L 1 I d)]):=⟨⟩
instance t_bT:FI J0 189 (∀(a:List Int)(b:zN),FnK J0 189 [T.ro (lV a),zAR b] (fun r=>[lV r]) (fun _=>[]) (yAE a b)):=⟨Tryz.call189,fun a b=>iM Tryz.func189⟩
instance:HS Tryz.f91.8 [(0,16,0,.tr 12 3),(2,6,0,.tr 3 16)]:=⟨⟩
instance(b:List (List Int)):LH (R:=(List (List Int))) (zL0 b) [6,7] [] (fun a=>[(3,L 1 lV a.1),(8,I a.2)]) (.xe 0 [6,7] fun c=>[(3,L 1 lV c)]):=⟨⟩
instance t_aO:FI J0 91 (∀(a:List (List Int)),FnK J0 91 [T.ro (lM a)] (fun r:(List (List Int))=>[lM r]) (fun _=>[]) (zVd a)):=⟨Tryz.call91,fun a=>iM Tryz.func91⟩
instance:HS Tryz.f124.8 [(2,2,0,.tr 5 7),(0,25,0,.tr 14 5)]:=⟨⟩
instance(b:SPr)(c:List (List Int)):LH (R:=(List Int)) (zLL b c) [1,2] [] (fun a=>[(5,L 1 I a.1),(6,I a.2)]) (.xe 0 [1,2] fun d=>[(5,L 1 I d)]):=⟨⟩
instance t_aX:FI J0 124 (∀(a:SPr)(b:List (List Int)),FnK J0 124 [qPr a,T.ro (lM b)] (fun r=>[lV r]) (fun _=>[]) (zWa a b)):=⟨Tryz.call124,fun a b=>iM Tryz.func124⟩
end
end Go.Wk
