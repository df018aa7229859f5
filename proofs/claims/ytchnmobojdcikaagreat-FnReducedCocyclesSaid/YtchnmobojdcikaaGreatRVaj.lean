/- x -/
import Derived.Test.YtchnmobojdcikaaGreatRVaa
import Derived.Test.YtchnmobojdcikaaGreatRVab
import Derived.Test.YtchnmobojdcikaaGreatRVac
import Derived.Test.YtchnmobojdcikaaGreatRVae
import Derived.Test.YtchnmobojdcikaaGreatRVaf
import Derived.Test.YtchnmobojdcikaaGreatRWT
open Go.Proofs.Tryz renaming prog->J0,underlying3->G9,underlying141->Ga
open List renaming replicate→J1
open Nat renaming le_refl->Je,zero_le->Kg
open Option renaming some->iW,none->iY
open Bool renaming true->iZ,false->ja
namespace Go.Wk
open Go Go.Proofs Go.Ab
set_option maxRecDepth 100000
set_option maxHeartbeats 4000000
section
attribute [local irreducible] RW CW DK OkL Ok yB yI xF xQ XS.post rng xV xC ixO zL yE yT yD zH GTo zR FnC FnK wA wN Kp Lk BsL BuL RpL Bk Lc JQ AK
instance:HS Tryz.f313.8 [(2,4,0,.trq 4 14 [0]),(1,2,0,.trf 42 0 6 [0,0]),(1,2,1,.trf 42 1 6 [1,0]),(1,2,2,.trf 42 2 6 [2,0])]:=⟨⟩
instance(a:(List Int)×Bool):LN (zRt a) 6:=⟨⟩
instance(b:(List Int)×Bool)(A0 A1 A2:T):LHk (R:=SPr×Int) (zRt b) (T.ptr (T.agg [A0,A1,A2])) [2,4] [] (fun a=>[(6,T.ptr (T.agg [A0,L 1 lV a.1,A2])),(7,I a.2)]) (.xe 0 [4] fun c=>[(6,T.ptr (T.agg [A0,L 1 lV c,A2]))]):=⟨⟩
instance t_bg:FI J0 313 (∀(a:Int),FnK J0 313 [I a] (fun r=>[vQ r.1,I r.2]) (fun _=>[]) (zYP a)):=⟨Tryz.call313,fun a=>iM Tryz.func313⟩
instance:HS Tryz.f315.8 [(1,4,0,.trf 34 0 5 [0,0]),(1,4,1,.trf 34 1 5 [1,0]),(1,4,2,.trf 34 2 5 [2,0])]:=⟨⟩
instance t_cb:FI J0 315 (∀(a:zE)(b:Int),FnK J0 315 [T.ptr (wY a),I b] (fun r=>[vQ r.1]) (fun r=>[(0,(Pt (fun x=>T.agg [(Ro (L 1 (IK .u8))) x.code,I x.at_,I x.seed])) r.2)]) (zYR a b)):=⟨Tryz.call315,fun a b=>iM Tryz.func315⟩
instance:HS Tryz.f290.8 [(0,28,0,.trq 20 3 [2,0]),(1,2,0,.trf 30 0 3 [0,0]),(1,2,1,.trf 30 1 3 [1,0]),(1,2,2,.trf 30 2 3 [2,0])]:=⟨⟩
instance(a:SPr):LN (zHt a) 3:=⟨⟩
instance(b:SPr)(A0 A1 A2:T):LHk (R:=SPr) (zHt b) (T.ptr (T.agg [A0,A1,A2])) [1,2] [] (fun a=>[(3,T.ptr (T.agg [A0,A1,L 1 lM a.1])),(4,I a.2)]) (.xe 0 [1] fun c=>[(3,T.ptr (T.agg [A0,A1,L 1 lM c]))]):=⟨⟩
instance t_af:FI J0 290 (∀(a:SPr),FnK J0 290 [qPr a] (fun r=>[vQ r]) (fun _=>[]) (zOf a)):=⟨Tryz.call290,fun a=>iM Tryz.func290⟩
instance(a:zB)(b:List (List Int)):LH (R:=Bool) (zNP a b) [1,2] [] (fun c=>[(5,I c)]) (.xs (.xe 0 [1,2] fun _=>[]) .xr):=⟨⟩
instance t_bd:FI J0 270 (∀(a:zB)(b:List (List Int)),FnK J0 270 [wS a,T.ro (lM b)] (fun r=>[B r]) (fun _=>[]) (yCj a b)):=⟨Tryz.call270,fun a b=>iM Tryz.func270⟩
end
theorem u_n(x0:List Int)(x1:Int)(r:(List Int))(h:f_n x0 x1=iW r):FnC J0 292 [T.ro (lV x0),I x1] [lV r] []:=by
 refine fB Tryz.func292 (fun St W w0 v=>?_);refine sR (oP (zJW 1 rfl) ?_);refine rN (CW.seq (sR (uI ?_)));refine zHh ?_;refine rN (cn h (fun hc h=>?_) (fun hc h=>?_))
 ·refine CW.region ?_
  cases h
 ·refine CW.skip (nA (sR (uI ?_)))
  refine zLd ?_;refine oP (zH8 G9 Ga rfl rfl) ?_;refine uI ?_;refine oP (zH8 G9 Ga rfl rfl) ?_;obtain⟨r1,gK,h⟩:=bd h;refine cA Tryz.call320 (FnK.go (t_bH.h _ _) gK) ?_;refine yCZ ?_;refine zZS ?_;refine zZS ?_;refine kV ?_;refine kV ?_;refine rN (CW.seq (sR (uI ?_)));refine oP (zOx rfl rfl rfl) ?_;refine uI ?_;refine RW.cases 23 _ rfl (fun hc=>?_) (fun hc=>?_)
  ·have h:=cT hc h
   refine sk2 ?_;refine sk2 ?_;refine zLe ?_;refine rN (CW.condT rfl ?_);refine CW.region ?_;cases h
  ·have h:=cF hc h
   refine yAP ?_;refine RW.cons (yX.guard 2 ja 23 (zOx rfl rfl rfl)) ?_;refine zLe ?_;refine rN (cn h (fun hc h=>?_) (fun hc h=>?_))
   ·refine CW.region ?_
    cases h
   ·refine CW.skip (nA (sR (uI ?_)))
    refine oP (zH8 Ga G9 rfl rfl) ?_;obtain⟨m2,hm2,h⟩:=bd h;refine oP (zQa (f:=I) (z:=0) elt_24 (rfl) hm2 rfl rfl rfl) ?_;refine kV ?_;refine RW.ghost (zR.tr 7 30 _ rfl rfl (sH (tY (Enc.clean (f:=I)))) rfl) ?_;refine rN (CW.seq (CW.to [(0,T.ro (lV x0)),(7,L 1 I (J1 m2 (0:Int)))] ⟨rfl,rfl,trivial⟩ ?_));refine CW.region (uI ?_);refine uI ?_;refine oP (zLb elt_24 rfl (fun _=>(zD3.same rfl rfl)) (fun _=>(zHf.ro (zBN rfl rfl))) (Kg _) (Je _) rfl) ?_;refine kV ?_;refine rN (CW.seq (CW.block ?_));obtain⟨r6,ab,h⟩:=bd h;refine CW.lp (s:=(wP (J1 m2 (0:Int)) 0 (x0.take (((J1 m2 (0:Int)).length)-0)),((min x0.length (((J1 m2 (0:Int)).length)-0):Nat):Int))) zDf (fun s1:(List Int)×Int=>vL [(7,L 1 I s1.1),(8,I s1.2)]) (fun(r6:(List Int)) e E=>e=.exit 0/\zR ⟨St,W,w0,Tryz.f292.ntmps⟩ E (vL [(7,L 1 I r6)])) (.has ⟨rfl,rfl,trivial⟩) (fun s1 x h=>?_) ab (fun e E hq=>?_)
    ·refine CW.seq (sR (uI ?_))
     refine uI ?_;refine yCX ?_;refine zHh ?_;refine rN (cn h (fun hc h=>?_) (fun hc h=>?_))
     ·refine CW.skip (nA (CW.block ?_))
      obtain⟨v3,me,h⟩:=bd h;obtain⟨v4,bx,h⟩:=bd h;obtain⟨v5,dI,h⟩:=bd h;refine CW.dk ?_;refine qR [(8,_)] ?_;refine qR [(7,_)] ?_;refine qR [(8,_)] ?_;refine dG [(39,_),(7,_),(40,_)] [([(41,iW (T.sub 7 [] 1 ((s1.2:Int).toNat) ((s1.1.length:Int).toNat)))],[(41,0)])] ⟨rfl,rfl,rfl,trivial⟩ (fun E h=>yX.opE (zMx row_24 me (zCu h.1 h.2.1 rfl rfl) (zTz (zGu me) h.2.2.1) yAB rfl) rfl) ?_;refine qR [(7,_)] ?_;refine qR [(8,_)] ?_;refine dG [(42,_),(7,_),(43,_)] [([(44,iW (T.sub 7 [] 1 ((0:Int).toNat) ((s1.2:Int).toNat)))],[(44,0)])] ⟨rfl,rfl,rfl,trivial⟩ (fun E h=>yX.opE (zMx row_24 bx (zCu h.1 h.2.1 rfl rfl) zZI (zTz (zGv bx) h.2.2.1) rfl) rfl) ?_;refine dG [(41,_),(7,_),(44,_)] [([(7,iW (L 1 I (wP s1.1 ((s1.2:Int).toNat) (v4.take (((s1.1.length:Int).toNat)-((s1.2:Int).toNat))))))],[(7,1)]),([(45,iW (I ((min v4.length (((s1.1.length:Int).toNat)-((s1.2:Int).toNat)):Nat):Int)))],[(45,0)])] ⟨rfl,rfl,rfl,trivial⟩ (fun E h=>yX.opE (zLb elt_24 h.2.1 (fun _=>(zD3.sub h.1)) (fun _=>(zHf.sub h.2.2.1 h.2.1 rfl bx)) (zRA me) (zRB me) rfl) rfl) ?_;refine yDb [(38,_),(45,_)] ?_;refine yDa [(46,_)] ?_;refine dNA zBK ?_;exact nB (eN h)
     ·refine CW.exit (xA ?_)
      exact eX h
    ·obtain⟨rfl,hg⟩:=hq
     refine xB ?_;refine nA (CW.ghost hg ?_);refine sR (uI ?_);refine kV ?_;refine RW.ghost (zR.tr 4 7 _ rfl rfl (sH (tY (Enc.clean (f:=I)))) rfl) ?_;refine rN (CW.ret ?_);obtain rfl:=sI h;exact rT
instance t_n:FI J0 292 (∀(a:List Int)(b:Int),FnK J0 292 [T.ro (lV a),I b] (fun r=>[lV r]) (fun _=>[]) (f_n a b)):=⟨Tryz.call292,fun a b=>FnK.mk (u_n a b)⟩
section
attribute [local irreducible] RW CW DK OkL Ok yB yI xF xQ XS.post rng xV xC ixO zL yE yT yD zH GTo zR FnC FnK wA wN Kp Lk BsL BuL RpL Bk Lc JQ AK
instance(a:List (List Int))(b:List (List Int)):LH (R:=Bool) (zVT a b) [1,2,15,16] [] (fun c=>[(17,I c)]) (.xs (.xe 0 [1,2,15,16] fun _=>[]) .xr):=⟨⟩
instance t_bz:FI J0 293 (∀(a:List (List Int))(b:List (List Int)),FnK J0 293 [T.ro (lM a),T.ro (lM b),T.lit (.func (.func 225) #[] #[])] (fun r=>[B r]) (fun _=>[]) (yCh a b)):=⟨Tryz.call293,fun a b=>iM Tryz.func293⟩
instance:HS Tryz.f294.8 [(0,22,0,.trq 18 4 [1,0]),(0,36,0,.tr 31 6),(2,10,0,.tr 6 36),(0,40,0,.tr 39 6),(0,41,0,.trq 38 4 [2,0]),(1,2,0,.trf 44 0 4 [0,0]),(1,2,1,.trf 44 1 4 [1,0]),(1,2,2,.trf 44 2 4 [2,0])]:=⟨⟩
instance(b:List Int):LH (R:=SPr) (zSv b) [2,3,4,13,14] [] (fun a=>[(6,L 1 lV a.1),(7,I a.2)]) (.xe 2 [] fun c=>[(6,L 1 lV c)]):=⟨⟩
instance(a:List Int):LN (zSw a) 4:=⟨⟩
instance(c:List Int)(A0 A1 A2:T):LHk (R:=SPr) (zSw c) (T.ptr (T.agg [A0,A1,A2])) [2,3,13] [] (fun b=>[(4,T.ptr (T.agg [A0,L 1 lV b.1,L 1 lM b.2.1])),(14,I b.2.2)]) (.xe 0 [3,13] fun a=>[(4,T.ptr (T.agg [A0,L 1 lV a.1,L 1 lM a.2]))]):=⟨⟩
instance t_X:FI J0 294 (∀(a:List Int),FnK J0 294 [T.ro (lV a)] (fun r=>[vQ r]) (fun _=>[]) (f_X a)):=⟨Tryz.call294,fun a=>iM Tryz.func294⟩
end
end Go.Wk
