/- The program and the reference return the same extensions by tails, for all arguments (FnExactExtensionOf). This file is a part of the proof. -/
import Derived.Test.YtdcfglaicpidkaaGreatAbB
namespace Go.Ab
open Go
section
variable {P:Program} {Γ:Ctx} {pn:Pins} {E E':Env} {Q:Exit → Env → Prop} {ops:Array Oper} {o:Oper} {os:List Oper} {id d:Nat} {wr:Wr} {chg:Chg} {hs:List Nat} {E0:Env} {acc:List Stp} {x y:Operand} {ty:TypeId} {ps:String} {af:Array Edge} {gd:Option (Nat × Bool)}
class SliI (P:Program) (t:TypeId) (e:outParam TypeId):Prop where
 h:P.underlying t = some (.slice e)
class VarI (P:Program) (t:TypeId) (b:outParam Bool) (n:outParam Nat):Prop where
 h:∀ u:T,u.single = b → u.size = n → VarT P t u
theorem hE {rd:List (Nat × T)} {s:Nat} {t:T} (h:E.Has rd) (hr:envL rd s = some t):E s = some t:=h.le s t hr
theorem hO {rd:List (Nat × T)} {t:T} (h:E.Has rd) (hr:opT (envL rd) x = some t):opT E x = some t:=by
 cases x <;> simp only [opT] at hr ⊢
 ·exact h.le _ _ hr
 all_goals exact hr
mutual
def cleanB:T → Bool
 | .ro _ | .lit _ | .any => true
 | .agg xs | .tup xs => cleanBs xs
 | .ptr t => cleanB t
 | .sl _ [] => true
 | _ => false
def cleanBs:List T → Bool
 | [] => true
 | x :: xs => cleanB x && cleanBs xs
end
mutual
theorem cleanB_ok:{t:T} → cleanB t = true → Clean t
 | .ro _,_ | .lit _,_ | .any,_ => by simp [Clean,AllR]
 | .agg xs,h | .tup xs,h => by simp only [cleanB] at h;simpa only [Clean,AllR] using cleanBs_ok h
 | .ptr t,h => by simp only [cleanB] at h;exact cleanP (cleanB_ok h)
 | .sl _ [],_ => by simp [Clean,AllR,AllRs]
 | .sl _ (_ :: _),h => by simp [cleanB] at h
 | .same _ _,h | .addr _ _,h | .sub _ _ _ _ _,h => by simp [cleanB] at h
theorem cleanBs_ok:{xs:List T} → cleanBs xs = true → Cleans xs
 | [],_ => trivial
 | x :: xs,h => by simp only [cleanBs,Bool.and_eq_true] at h;exact ⟨cleanB_ok h.1,cleanBs_ok h.2⟩
end
theorem y_ix {α:Type} {t e:TypeId} {ti:TypeInfo} {r k:Nat} {q:List Nat} {f:α → T} {xs:List α} {v:α} {i:Int} [ht:RowT P t e ti k] (hx:locT E x = some (r,q,L k f xs)) (hy:opT E y = some (I i)) (hv:ixO xs i = some v) (sd:Nat.blt d Γ.N = true) :
  Ok P Γ ⟨some d,.indexAddr t x y,ty,ps,af,gd⟩ E (E.app [(d,some (.addr r (i.toNat :: q)))] [(d,0)]):=x_ix ht hv hx hy sd
theorem y_ixr {α:Type} {t e:TypeId} {ti:TypeInfo} {r k:Nat} {q:List Nat} {f:α → T} {xs:List α} {v:α} {i:Int} [ht:RowT P t e ti k] (hx:locT E x = some (r,q,.ro (L k f xs))) (hy:opT E y = some (I i)) (hv:ixO xs i = some v) (sd:Nat.blt d Γ.N = true) :
  Ok P Γ ⟨some d,.indexAddr t x y,ty,ps,af,gd⟩ E (E.app [(d,some (.ro (.ptr (f v))))] [(d,0)]):=x_ixr ht hv hx hy sd
theorem y_ldr {t:TypeId} {u:T} {b:Bool} {n:Nat} [i:VarI P t b n] (hx:opT E x = some (.ro (.ptr u))) (h1:u.single = b) (h2:u.size = n) (sd:Nat.blt d Γ.N = true):Ok P Γ ⟨some d,.load t x,ty,ps,af,gd⟩ E (E.app [(d,some (roT u))] [(d,0)]):=x_ldr (i.h u h1 h2) hx sd
theorem y_ld {t:TypeId} {u tr:T} {r:Nat} {q:List Nat} {b:Bool} {n:Nat} [i:VarI P t b n] (hx:opT E x = some (.addr r q)) (hr:E r = some tr) (hg:tr.get q.reverse = some u) (h1:u.single = b) (h2:u.size = n) (sd:(Nat.blt d Γ.N && tr.locd q.reverse && (r != d) && T.okB [(d,0)] (cpT r u q)) = true) :
  Ok P Γ ⟨some d,.load t x,ty,ps,af,gd⟩ E (E.app [(d,some (cpT r u q))] [(d,0)]):=x_ld (i.h u h1 h2) hx hr hg sd
theorem y_ldp {t:TypeId} {u tr t0:T} {r:Nat} {q:List Nat} {b:Bool} {n:Nat} [i:VarI P t b n] (hx:locT E x = some (r,q,.ptr t0)) (hr:E r = some tr) (hg:tr.get (0 :: q).reverse = some u) (h1:u.single = b) (h2:u.size = n) (sd:(Nat.blt d Γ.N && tr.locd (0 :: q).reverse && (r != d) && T.okB [(d,0)] (cpT r u (0 :: q))) = true) :
  Ok P Γ ⟨some d,.load t x,ty,ps,af,gd⟩ E (E.app [(d,some (cpT r u (0 :: q)))] [(d,0)]):=x_ldp (i.h u h1 h2) hx hr hg sd
theorem y_len {α:Type} {t e:TypeId} {r k:Nat} {q:List Nat} {f:α → T} {xs:List α} [i:SliI P t e] (hx:locT E x = some (r,q,L k f xs)) (sd:Nat.blt d Γ.N = true) :
  Ok P Γ ⟨some d,.call { callee:=.builtin .len,args:=#[x],argTypes:=#[t] },ty,ps,af,gd⟩ E (E.app [(d,some (I (xs.length:Int)))] [(d,0)]):=x_len i.h hx sd
theorem y_lenr {α:Type} {t e:TypeId} {r k:Nat} {q:List Nat} {f:α → T} {xs:List α} [i:SliI P t e] (hx:locT E x = some (r,q,.ro (L k f xs))) (sd:Nat.blt d Γ.N = true) :
  Ok P Γ ⟨some d,.call { callee:=.builtin .len,args:=#[x],argTypes:=#[t] },ty,ps,af,gd⟩ E (E.app [(d,some (I (xs.length:Int)))] [(d,0)]):=x_lenr i.h hx sd
theorem a_mv (k:RW P Γ pn ops os (E.app wr chg) Q) (h:Ok P Γ o E (E.app wr chg):=by exact x_mv rfl rfl) (hg:o.guard = none:=by rfl) (hp:pn.ok o.dst = true:=by rfl):RW P Γ pn ops (o :: os) E Q:=oP h k hg hp
theorem g_mv {g s:Nat} {b:Bool} (k:RW P Γ pn ops os (E.app wr chg) Q) (hg:o.guard = some (g,b):=by rfl) (hgo:(ops[g]?).bind (·.dst) = some s:=by rfl) (hb:E s = some (.lit (.bool b)):=by rfl) (h:Ok P Γ o E (E.app wr chg):=by exact x_mv rfl rfl) (hp:pn.ok o.dst = true:=by rfl):RW P Γ pn ops (o :: os) E Q:=RW.cons (IxOk.guard g b s h hg hgo hb) k hp
theorem a_as (k:RW P Γ pn ops os (E.app wr chg) Q) (h:Ok P Γ o E (E.app wr chg):=by exact x_as rfl rfl) (hg:o.guard = none:=by rfl) (hp:pn.ok o.dst = true:=by rfl):RW P Γ pn ops (o :: os) E Q:=oP h k hg hp
theorem a_ldr (k:RW P Γ pn ops os (E.app wr chg) Q) (h:Ok P Γ o E (E.app wr chg):=by exact y_ldr rfl rfl rfl rfl) (hg:o.guard = none:=by rfl) (hp:pn.ok o.dst = true:=by rfl):RW P Γ pn ops (o :: os) E Q:=oP h k hg hp
theorem g_ldr {g s:Nat} {b:Bool} (k:RW P Γ pn ops os (E.app wr chg) Q) (hg:o.guard = some (g,b):=by rfl) (hgo:(ops[g]?).bind (·.dst) = some s:=by rfl) (hb:E s = some (.lit (.bool b)):=by rfl) (h:Ok P Γ o E (E.app wr chg):=by exact y_ldr rfl rfl rfl rfl) (hp:pn.ok o.dst = true:=by rfl):RW P Γ pn ops (o :: os) E Q:=RW.cons (IxOk.guard g b s h hg hgo hb) k hp
theorem a_ixr (k:RW P Γ pn ops os (E.app wr chg) Q) (h:Ok P Γ o E (E.app wr chg):=by exact y_ixr (by first | exact locB rfl rfl | exact locA rfl rfl (by first | rfl | exact getc (by assumption) rfl | exact getc (by assumption) (getc (by assumption) rfl) | exact geta rfl (getc (by assumption) rfl) | exact getp (getc (by assumption) rfl) | exact getp (geta rfl (getc (by assumption) rfl)) | exact getp (geta rfl (getc (by assumption) (getc (by assumption) rfl)))) rfl) rfl (by assumption) rfl) (hg:o.guard = none:=by rfl) (hp:pn.ok o.dst = true:=by rfl):RW P Γ pn ops (o :: os) E Q:=oP h k hg hp
theorem a_lenr (k:RW P Γ pn ops os (E.app wr chg) Q) (h:Ok P Γ o E (E.app wr chg):=by exact y_lenr (by first | exact locB rfl rfl | exact locA rfl rfl (by first | rfl | exact getc (by assumption) rfl | exact getc (by assumption) (getc (by assumption) rfl) | exact geta rfl (getc (by assumption) rfl) | exact getp (getc (by assumption) rfl) | exact getp (geta rfl (getc (by assumption) rfl)) | exact getp (geta rfl (getc (by assumption) (getc (by assumption) rfl)))) rfl) rfl) (hg:o.guard = none:=by rfl) (hp:pn.ok o.dst = true:=by rfl):RW P Γ pn ops (o :: os) E Q:=oP h k hg hp
theorem g_lenr {g s:Nat} {b:Bool} (k:RW P Γ pn ops os (E.app wr chg) Q) (hg:o.guard = some (g,b):=by rfl) (hgo:(ops[g]?).bind (·.dst) = some s:=by rfl) (hb:E s = some (.lit (.bool b)):=by rfl) (h:Ok P Γ o E (E.app wr chg):=by exact y_lenr (by first | exact locB rfl rfl | exact locA rfl rfl (by first | rfl | exact getc (by assumption) rfl | exact getc (by assumption) (getc (by assumption) rfl) | exact geta rfl (getc (by assumption) rfl) | exact getp (getc (by assumption) rfl) | exact getp (geta rfl (getc (by assumption) rfl)) | exact getp (geta rfl (getc (by assumption) (getc (by assumption) rfl)))) rfl) rfl) (hp:pn.ok o.dst = true:=by rfl):RW P Γ pn ops (o :: os) E Q:=RW.cons (IxOk.guard g b s h hg hgo hb) k hp
theorem a_add (k:RW P Γ pn ops os (E.app wr chg) Q) (h:Ok P Γ o E (E.app wr chg):=by exact x_add (by assumption) rfl rfl rfl) (hg:o.guard = none:=by rfl) (hp:pn.ok o.dst = true:=by rfl):RW P Γ pn ops (o :: os) E Q:=oP h k hg hp
theorem g_add {g s:Nat} {b:Bool} (k:RW P Γ pn ops os (E.app wr chg) Q) (hg:o.guard = some (g,b):=by rfl) (hgo:(ops[g]?).bind (·.dst) = some s:=by rfl) (hb:E s = some (.lit (.bool b)):=by rfl) (h:Ok P Γ o E (E.app wr chg):=by exact x_add (by assumption) rfl rfl rfl) (hp:pn.ok o.dst = true:=by rfl):RW P Γ pn ops (o :: os) E Q:=RW.cons (IxOk.guard g b s h hg hgo hb) k hp
theorem a_lss (k:RW P Γ pn ops os (E.app wr chg) Q) (h:Ok P Γ o E (E.app wr chg):=by exact x_lss rfl rfl rfl) (hg:o.guard = none:=by rfl) (hp:pn.ok o.dst = true:=by rfl):RW P Γ pn ops (o :: os) E Q:=oP h k hg hp
theorem g_lss {g s:Nat} {b:Bool} (k:RW P Γ pn ops os (E.app wr chg) Q) (hg:o.guard = some (g,b):=by rfl) (hgo:(ops[g]?).bind (·.dst) = some s:=by rfl) (hb:E s = some (.lit (.bool b)):=by rfl) (h:Ok P Γ o E (E.app wr chg):=by exact x_lss rfl rfl rfl) (hp:pn.ok o.dst = true:=by rfl):RW P Γ pn ops (o :: os) E Q:=RW.cons (IxOk.guard g b s h hg hgo hb) k hp
theorem a_pick (k:RW P Γ pn ops os (E.app wr chg) Q) (h:Ok P Γ o E (E.app wr chg):=by exact x_pick rfl rfl rfl) (hg:o.guard = none:=by rfl) (hp:pn.ok o.dst = true:=by rfl):RW P Γ pn ops (o :: os) E Q:=oP h k hg hp
theorem a_fa (k:RW P Γ pn ops os (E.app wr chg) Q) (h:Ok P Γ o E (E.app wr chg):=by exact x_fa inferInstance (by first | exact locB rfl rfl | exact locA rfl rfl (by first | rfl | exact getc (by assumption) rfl | exact getc (by assumption) (getc (by assumption) rfl) | exact geta rfl (getc (by assumption) rfl) | exact getp (getc (by assumption) rfl) | exact getp (geta rfl (getc (by assumption) rfl)) | exact getp (geta rfl (getc (by assumption) (getc (by assumption) rfl)))) rfl) rfl rfl rfl) (hg:o.guard = none:=by rfl) (hp:pn.ok o.dst = true:=by rfl):RW P Γ pn ops (o :: os) E Q:=oP h k hg hp
theorem g_fa {g s:Nat} {b:Bool} (k:RW P Γ pn ops os (E.app wr chg) Q) (hg:o.guard = some (g,b):=by rfl) (hgo:(ops[g]?).bind (·.dst) = some s:=by rfl) (hb:E s = some (.lit (.bool b)):=by rfl) (h:Ok P Γ o E (E.app wr chg):=by exact x_fa inferInstance (by first | exact locB rfl rfl | exact locA rfl rfl (by first | rfl | exact getc (by assumption) rfl | exact getc (by assumption) (getc (by assumption) rfl) | exact geta rfl (getc (by assumption) rfl) | exact getp (getc (by assumption) rfl) | exact getp (geta rfl (getc (by assumption) rfl)) | exact getp (geta rfl (getc (by assumption) (getc (by assumption) rfl)))) rfl) rfl rfl rfl) (hp:pn.ok o.dst = true:=by rfl):RW P Γ pn ops (o :: os) E Q:=RW.cons (IxOk.guard g b s h hg hgo hb) k hp
theorem a_ld (k:RW P Γ pn ops os (E.app wr chg) Q) (h:Ok P Γ o E (E.app wr chg):=by first | exact y_ld rfl rfl rfl rfl rfl rfl | exact y_ld rfl rfl (by first | rfl | exact getc (by assumption) rfl | exact getc (by assumption) (getc (by assumption) rfl) | exact geta rfl (getc (by assumption) rfl) | exact getp (getc (by assumption) rfl) | exact getp (geta rfl (getc (by assumption) rfl)) | exact getp (geta rfl (getc (by assumption) (getc (by assumption) rfl)))) (by rfl) (by rfl) (by rfl)) (hg:o.guard = none:=by rfl) (hp:pn.ok o.dst = true:=by rfl):RW P Γ pn ops (o :: os) E Q:=oP h k hg hp
theorem g_ld {g s:Nat} {b:Bool} (k:RW P Γ pn ops os (E.app wr chg) Q) (hg:o.guard = some (g,b):=by rfl) (hgo:(ops[g]?).bind (·.dst) = some s:=by rfl) (hb:E s = some (.lit (.bool b)):=by rfl) (h:Ok P Γ o E (E.app wr chg):=by first | exact y_ld rfl rfl rfl rfl rfl rfl | exact y_ld rfl rfl (by first | rfl | exact getc (by assumption) rfl | exact getc (by assumption) (getc (by assumption) rfl) | exact geta rfl (getc (by assumption) rfl) | exact getp (getc (by assumption) rfl) | exact getp (geta rfl (getc (by assumption) rfl)) | exact getp (geta rfl (getc (by assumption) (getc (by assumption) rfl)))) (by rfl) (by rfl) (by rfl)) (hp:pn.ok o.dst = true:=by rfl):RW P Γ pn ops (o :: os) E Q:=RW.cons (IxOk.guard g b s h hg hgo hb) k hp
theorem a_ldp (k:RW P Γ pn ops os (E.app wr chg) Q) (h:Ok P Γ o E (E.app wr chg):=by first | exact y_ldp (by first | exact locB rfl rfl | exact locA rfl rfl (by first | rfl | exact getc (by assumption) rfl | exact getc (by assumption) (getc (by assumption) rfl) | exact geta rfl (getc (by assumption) rfl) | exact getp (getc (by assumption) rfl) | exact getp (geta rfl (getc (by assumption) rfl)) | exact getp (geta rfl (getc (by assumption) (getc (by assumption) rfl)))) rfl) rfl rfl rfl rfl rfl | exact y_ldp (by first | exact locB rfl rfl | exact locA rfl rfl (by first | rfl | exact getc (by assumption) rfl | exact getc (by assumption) (getc (by assumption) rfl) | exact geta rfl (getc (by assumption) rfl) | exact getp (getc (by assumption) rfl) | exact getp (geta rfl (getc (by assumption) rfl)) | exact getp (geta rfl (getc (by assumption) (getc (by assumption) rfl)))) rfl) rfl (by first | rfl | exact getc (by assumption) rfl | exact getc (by assumption) (getc (by assumption) rfl) | exact geta rfl (getc (by assumption) rfl) | exact getp (getc (by assumption) rfl) | exact getp (geta rfl (getc (by assumption) rfl)) | exact getp (geta rfl (getc (by assumption) (getc (by assumption) rfl)))) (by rfl) (by rfl) (by rfl)) (hg:o.guard = none:=by rfl) (hp:pn.ok o.dst = true:=by rfl):RW P Γ pn ops (o :: os) E Q:=oP h k hg hp
theorem g_ldp {g s:Nat} {b:Bool} (k:RW P Γ pn ops os (E.app wr chg) Q) (hg:o.guard = some (g,b):=by rfl) (hgo:(ops[g]?).bind (·.dst) = some s:=by rfl) (hb:E s = some (.lit (.bool b)):=by rfl) (h:Ok P Γ o E (E.app wr chg):=by first | exact y_ldp (by first | exact locB rfl rfl | exact locA rfl rfl (by first | rfl | exact getc (by assumption) rfl | exact getc (by assumption) (getc (by assumption) rfl) | exact geta rfl (getc (by assumption) rfl) | exact getp (getc (by assumption) rfl) | exact getp (geta rfl (getc (by assumption) rfl)) | exact getp (geta rfl (getc (by assumption) (getc (by assumption) rfl)))) rfl) rfl rfl rfl rfl rfl | exact y_ldp (by first | exact locB rfl rfl | exact locA rfl rfl (by first | rfl | exact getc (by assumption) rfl | exact getc (by assumption) (getc (by assumption) rfl) | exact geta rfl (getc (by assumption) rfl) | exact getp (getc (by assumption) rfl) | exact getp (geta rfl (getc (by assumption) rfl)) | exact getp (geta rfl (getc (by assumption) (getc (by assumption) rfl)))) rfl) rfl (by first | rfl | exact getc (by assumption) rfl | exact getc (by assumption) (getc (by assumption) rfl) | exact geta rfl (getc (by assumption) rfl) | exact getp (getc (by assumption) rfl) | exact getp (geta rfl (getc (by assumption) rfl)) | exact getp (geta rfl (getc (by assumption) (getc (by assumption) rfl)))) (by rfl) (by rfl) (by rfl)) (hp:pn.ok o.dst = true:=by rfl):RW P Γ pn ops (o :: os) E Q:=RW.cons (IxOk.guard g b s h hg hgo hb) k hp
theorem a_sub (k:RW P Γ pn ops os (E.app wr chg) Q) (h:Ok P Γ o E (E.app wr chg):=by exact x_sub (by assumption) rfl rfl rfl) (hg:o.guard = none:=by rfl) (hp:pn.ok o.dst = true:=by rfl):RW P Γ pn ops (o :: os) E Q:=oP h k hg hp
theorem g_sub {g s:Nat} {b:Bool} (k:RW P Γ pn ops os (E.app wr chg) Q) (hg:o.guard = some (g,b):=by rfl) (hgo:(ops[g]?).bind (·.dst) = some s:=by rfl) (hb:E s = some (.lit (.bool b)):=by rfl) (h:Ok P Γ o E (E.app wr chg):=by exact x_sub (by assumption) rfl rfl rfl) (hp:pn.ok o.dst = true:=by rfl):RW P Γ pn ops (o :: os) E Q:=RW.cons (IxOk.guard g b s h hg hgo hb) k hp
theorem a_not (k:RW P Γ pn ops os (E.app wr chg) Q) (h:Ok P Γ o E (E.app wr chg):=by exact x_not rfl rfl) (hg:o.guard = none:=by rfl) (hp:pn.ok o.dst = true:=by rfl):RW P Γ pn ops (o :: os) E Q:=oP h k hg hp
theorem g_not {g s:Nat} {b:Bool} (k:RW P Γ pn ops os (E.app wr chg) Q) (hg:o.guard = some (g,b):=by rfl) (hgo:(ops[g]?).bind (·.dst) = some s:=by rfl) (hb:E s = some (.lit (.bool b)):=by rfl) (h:Ok P Γ o E (E.app wr chg):=by exact x_not rfl rfl) (hp:pn.ok o.dst = true:=by rfl):RW P Γ pn ops (o :: os) E Q:=RW.cons (IxOk.guard g b s h hg hgo hb) k hp
theorem a_neq (k:RW P Γ pn ops os (E.app wr chg) Q) (h:Ok P Γ o E (E.app wr chg):=by exact x_neq rfl rfl rfl) (hg:o.guard = none:=by rfl) (hp:pn.ok o.dst = true:=by rfl):RW P Γ pn ops (o :: os) E Q:=oP h k hg hp
theorem g_neq {g s:Nat} {b:Bool} (k:RW P Γ pn ops os (E.app wr chg) Q) (hg:o.guard = some (g,b):=by rfl) (hgo:(ops[g]?).bind (·.dst) = some s:=by rfl) (hb:E s = some (.lit (.bool b)):=by rfl) (h:Ok P Γ o E (E.app wr chg):=by exact x_neq rfl rfl rfl) (hp:pn.ok o.dst = true:=by rfl):RW P Γ pn ops (o :: os) E Q:=RW.cons (IxOk.guard g b s h hg hgo hb) k hp
theorem a_eql (k:RW P Γ pn ops os (E.app wr chg) Q) (h:Ok P Γ o E (E.app wr chg):=by exact x_eql rfl rfl rfl) (hg:o.guard = none:=by rfl) (hp:pn.ok o.dst = true:=by rfl):RW P Γ pn ops (o :: os) E Q:=oP h k hg hp
theorem g_eql {g s:Nat} {b:Bool} (k:RW P Γ pn ops os (E.app wr chg) Q) (hg:o.guard = some (g,b):=by rfl) (hgo:(ops[g]?).bind (·.dst) = some s:=by rfl) (hb:E s = some (.lit (.bool b)):=by rfl) (h:Ok P Γ o E (E.app wr chg):=by exact x_eql rfl rfl rfl) (hp:pn.ok o.dst = true:=by rfl):RW P Γ pn ops (o :: os) E Q:=RW.cons (IxOk.guard g b s h hg hgo hb) k hp
theorem a_gtr (k:RW P Γ pn ops os (E.app wr chg) Q) (h:Ok P Γ o E (E.app wr chg):=by exact x_gtr rfl rfl rfl) (hg:o.guard = none:=by rfl) (hp:pn.ok o.dst = true:=by rfl):RW P Γ pn ops (o :: os) E Q:=oP h k hg hp
theorem g_gtr {g s:Nat} {b:Bool} (k:RW P Γ pn ops os (E.app wr chg) Q) (hg:o.guard = some (g,b):=by rfl) (hgo:(ops[g]?).bind (·.dst) = some s:=by rfl) (hb:E s = some (.lit (.bool b)):=by rfl) (h:Ok P Γ o E (E.app wr chg):=by exact x_gtr rfl rfl rfl) (hp:pn.ok o.dst = true:=by rfl):RW P Γ pn ops (o :: os) E Q:=RW.cons (IxOk.guard g b s h hg hgo hb) k hp
theorem a_geq (k:RW P Γ pn ops os (E.app wr chg) Q) (h:Ok P Γ o E (E.app wr chg):=by exact x_geq rfl rfl rfl) (hg:o.guard = none:=by rfl) (hp:pn.ok o.dst = true:=by rfl):RW P Γ pn ops (o :: os) E Q:=oP h k hg hp
theorem a_leq (k:RW P Γ pn ops os (E.app wr chg) Q) (h:Ok P Γ o E (E.app wr chg):=by exact x_leq rfl rfl rfl) (hg:o.guard = none:=by rfl) (hp:pn.ok o.dst = true:=by rfl):RW P Γ pn ops (o :: os) E Q:=oP h k hg hp
theorem g_leq {g s:Nat} {b:Bool} (k:RW P Γ pn ops os (E.app wr chg) Q) (hg:o.guard = some (g,b):=by rfl) (hgo:(ops[g]?).bind (·.dst) = some s:=by rfl) (hb:E s = some (.lit (.bool b)):=by rfl) (h:Ok P Γ o E (E.app wr chg):=by exact x_leq rfl rfl rfl) (hp:pn.ok o.dst = true:=by rfl):RW P Γ pn ops (o :: os) E Q:=RW.cons (IxOk.guard g b s h hg hgo hb) k hp
theorem a_far (k:RW P Γ pn ops os (E.app wr chg) Q) (h:Ok P Γ o E (E.app wr chg):=by exact x_far inferInstance rfl rfl rfl rfl) (hg:o.guard = none:=by rfl) (hp:pn.ok o.dst = true:=by rfl):RW P Γ pn ops (o :: os) E Q:=oP h k hg hp
theorem a_nilc (k:RW P Γ pn ops os (E.app wr chg) Q) (h:Ok P Γ o E (E.app wr chg):=by first | exact x_nilc rfl (isPtr_ro rfl) rfl | exact x_nilc rfl (isPtr_addr rfl) rfl | exact x_nilc rfl (isPtr_own (by first | exact locB rfl rfl | exact locA rfl rfl (by first | rfl | exact getc (by assumption) rfl | exact getc (by assumption) (getc (by assumption) rfl) | exact geta rfl (getc (by assumption) rfl) | exact getp (getc (by assumption) rfl) | exact getp (geta rfl (getc (by assumption) rfl)) | exact getp (geta rfl (getc (by assumption) (getc (by assumption) rfl)))) rfl)) rfl) (hg:o.guard = none:=by rfl) (hp:pn.ok o.dst = true:=by rfl):RW P Γ pn ops (o :: os) E Q:=oP h k hg hp
theorem a_ix (k:RW P Γ pn ops os (E.app wr chg) Q) (h:Ok P Γ o E (E.app wr chg):=by exact y_ix (by first | exact locB rfl rfl | exact locA rfl rfl (by first | rfl | exact getc (by assumption) rfl | exact getc (by assumption) (getc (by assumption) rfl) | exact geta rfl (getc (by assumption) rfl) | exact getp (getc (by assumption) rfl) | exact getp (geta rfl (getc (by assumption) rfl)) | exact getp (geta rfl (getc (by assumption) (getc (by assumption) rfl)))) rfl) rfl (by assumption) rfl) (hg:o.guard = none:=by rfl) (hp:pn.ok o.dst = true:=by rfl):RW P Γ pn ops (o :: os) E Q:=oP h k hg hp
theorem a_len (k:RW P Γ pn ops os (E.app wr chg) Q) (h:Ok P Γ o E (E.app wr chg):=by exact y_len (by first | exact locB rfl rfl | exact locA rfl rfl (by first | rfl | exact getc (by assumption) rfl | exact getc (by assumption) (getc (by assumption) rfl) | exact geta rfl (getc (by assumption) rfl) | exact getp (getc (by assumption) rfl) | exact getp (geta rfl (getc (by assumption) rfl)) | exact getp (geta rfl (getc (by assumption) (getc (by assumption) rfl)))) rfl) rfl) (hg:o.guard = none:=by rfl) (hp:pn.ok o.dst = true:=by rfl):RW P Γ pn ops (o :: os) E Q:=oP h k hg hp
theorem a_mul (k:RW P Γ pn ops os (E.app wr chg) Q) (h:Ok P Γ o E (E.app wr chg):=by exact x_mul (by assumption) rfl rfl rfl) (hg:o.guard = none:=by rfl) (hp:pn.ok o.dst = true:=by rfl):RW P Γ pn ops (o :: os) E Q:=oP h k hg hp
theorem a_rem (k:RW P Γ pn ops os (E.app wr chg) Q) (h:Ok P Γ o E (E.app wr chg):=by exact x_rem (by assumption) rfl rfl rfl) (hg:o.guard = none:=by rfl) (hp:pn.ok o.dst = true:=by rfl):RW P Γ pn ops (o :: os) E Q:=oP h k hg hp
theorem a_quo (k:RW P Γ pn ops os (E.app wr chg) Q) (h:Ok P Γ o E (E.app wr chg):=by exact x_quo (by assumption) rfl rfl rfl) (hg:o.guard = none:=by rfl) (hp:pn.ok o.dst = true:=by rfl):RW P Γ pn ops (o :: os) E Q:=oP h k hg hp
theorem a_alloc (k:RW P Γ pn ops os (E.app wr chg) Q) (h:Ok P Γ o E (E.app wr chg):=by exact x_alloc inferInstance rfl) (hg:o.guard = none:=by rfl) (hp:pn.ok o.dst = true:=by rfl):RW P Γ pn ops (o :: os) E Q:=oP h k hg hp
theorem a_ext (k:RW P Γ pn ops os (E.app wr chg) Q) (h:Ok P Γ o E (E.app wr chg):=by exact x_ext rfl rfl rfl) (hg:o.guard = none:=by rfl) (hp:pn.ok o.dst = true:=by rfl):RW P Γ pn ops (o :: os) E Q:=oP h k hg hp
theorem a_box (k:RW P Γ pn ops os (E.app wr chg) Q) (h:Ok P Γ o E (E.app wr chg):=by exact x_box rfl (cleanB_ok rfl) rfl) (hg:o.guard = none:=by rfl) (hp:pn.ok o.dst = true:=by rfl):RW P Γ pn ops (o :: os) E Q:=oP h k hg hp
theorem a_mvT (k:RW P Γ pn ops os (E.app wr chg) Q) (h:Ok P Γ o E (E.app wr chg):=by exact x_mvT rfl rfl) (hg:o.guard = none:=by rfl) (hp:pn.ok o.dst = true:=by rfl):RW P Γ pn ops (o :: os) E Q:=oP h k hg hp
theorem d_mv (rd:List (Nat × T)) (k:DK P Γ pn ops id hs E0 Q os (E.app wr chg) (⟨rd,[(wr,chg)]⟩ :: acc)) (hrd:E.Has rd:=by repeat (first | exact trivial | refine ⟨rfl,?_⟩)) (h:∀ E':Env,E'.Has rd → Ok P Γ o E' (E'.app wr chg):=by intro E' h;exact x_mv (hO h rfl) rfl) (hg:o.guard = none:=by rfl):DK P Γ pn ops id hs E0 Q (o :: os) E acc:=dG rd [(wr,chg)] hrd (fun E' h' => IxOk.op (h E' h') hg) k
theorem e_mv {g s:Nat} {b:Bool} (rd:List (Nat × T)) (k:DK P Γ pn ops id hs E0 Q os (E.app wr chg) (⟨rd,[(wr,chg)]⟩ :: acc)) (hrd:E.Has rd:=by repeat (first | exact trivial | refine ⟨rfl,?_⟩)) (hg:o.guard = some (g,b):=by rfl) (hgo:(ops[g]?).bind (·.dst) = some s:=by rfl) (hb:envL rd s = some (.lit (.bool b)):=by rfl) (h:∀ E':Env,E'.Has rd → Ok P Γ o E' (E'.app wr chg):=by intro E' h;exact x_mv (hO h rfl) rfl):DK P Γ pn ops id hs E0 Q (o :: os) E acc:=dG rd [(wr,chg)] hrd (fun E' h' => IxOk.guard g b s (h E' h') hg hgo (hE h' hb)) k
theorem d_as (rd:List (Nat × T)) (k:DK P Γ pn ops id hs E0 Q os (E.app wr chg) (⟨rd,[(wr,chg)]⟩ :: acc)) (hrd:E.Has rd:=by repeat (first | exact trivial | refine ⟨rfl,?_⟩)) (h:∀ E':Env,E'.Has rd → Ok P Γ o E' (E'.app wr chg):=by intro E' h;exact x_as (hO h rfl) rfl) (hg:o.guard = none:=by rfl):DK P Γ pn ops id hs E0 Q (o :: os) E acc:=dG rd [(wr,chg)] hrd (fun E' h' => IxOk.op (h E' h') hg) k
theorem d_ldr (rd:List (Nat × T)) (k:DK P Γ pn ops id hs E0 Q os (E.app wr chg) (⟨rd,[(wr,chg)]⟩ :: acc)) (hrd:E.Has rd:=by repeat (first | exact trivial | refine ⟨rfl,?_⟩)) (h:∀ E':Env,E'.Has rd → Ok P Γ o E' (E'.app wr chg):=by intro E' h;exact y_ldr (hO h rfl) rfl rfl rfl) (hg:o.guard = none:=by rfl):DK P Γ pn ops id hs E0 Q (o :: os) E acc:=dG rd [(wr,chg)] hrd (fun E' h' => IxOk.op (h E' h') hg) k
theorem e_ldr {g s:Nat} {b:Bool} (rd:List (Nat × T)) (k:DK P Γ pn ops id hs E0 Q os (E.app wr chg) (⟨rd,[(wr,chg)]⟩ :: acc)) (hrd:E.Has rd:=by repeat (first | exact trivial | refine ⟨rfl,?_⟩)) (hg:o.guard = some (g,b):=by rfl) (hgo:(ops[g]?).bind (·.dst) = some s:=by rfl) (hb:envL rd s = some (.lit (.bool b)):=by rfl) (h:∀ E':Env,E'.Has rd → Ok P Γ o E' (E'.app wr chg):=by intro E' h;exact y_ldr (hO h rfl) rfl rfl rfl):DK P Γ pn ops id hs E0 Q (o :: os) E acc:=dG rd [(wr,chg)] hrd (fun E' h' => IxOk.guard g b s (h E' h') hg hgo (hE h' hb)) k
theorem d_ixr (rd:List (Nat × T)) (k:DK P Γ pn ops id hs E0 Q os (E.app wr chg) (⟨rd,[(wr,chg)]⟩ :: acc)) (hrd:E.Has rd:=by repeat (first | exact trivial | refine ⟨rfl,?_⟩)) (h:∀ E':Env,E'.Has rd → Ok P Γ o E' (E'.app wr chg):=by intro E' h;exact y_ixr (by first | exact locB (hE h rfl) rfl | exact locA (hE h rfl) (hE h rfl) (by first | rfl | exact getc (by assumption) rfl | exact getc (by assumption) (getc (by assumption) rfl) | exact geta rfl (getc (by assumption) rfl) | exact getp (getc (by assumption) rfl) | exact getp (geta rfl (getc (by assumption) rfl)) | exact getp (geta rfl (getc (by assumption) (getc (by assumption) rfl)))) rfl) (hO h rfl) (by assumption) rfl) (hg:o.guard = none:=by rfl):DK P Γ pn ops id hs E0 Q (o :: os) E acc:=dG rd [(wr,chg)] hrd (fun E' h' => IxOk.op (h E' h') hg) k
theorem e_ixr {g s:Nat} {b:Bool} (rd:List (Nat × T)) (k:DK P Γ pn ops id hs E0 Q os (E.app wr chg) (⟨rd,[(wr,chg)]⟩ :: acc)) (hrd:E.Has rd:=by repeat (first | exact trivial | refine ⟨rfl,?_⟩)) (hg:o.guard = some (g,b):=by rfl) (hgo:(ops[g]?).bind (·.dst) = some s:=by rfl) (hb:envL rd s = some (.lit (.bool b)):=by rfl) (h:∀ E':Env,E'.Has rd → Ok P Γ o E' (E'.app wr chg):=by intro E' h;exact y_ixr (by first | exact locB (hE h rfl) rfl | exact locA (hE h rfl) (hE h rfl) (by first | rfl | exact getc (by assumption) rfl | exact getc (by assumption) (getc (by assumption) rfl) | exact geta rfl (getc (by assumption) rfl) | exact getp (getc (by assumption) rfl) | exact getp (geta rfl (getc (by assumption) rfl)) | exact getp (geta rfl (getc (by assumption) (getc (by assumption) rfl)))) rfl) (hO h rfl) (by assumption) rfl):DK P Γ pn ops id hs E0 Q (o :: os) E acc:=dG rd [(wr,chg)] hrd (fun E' h' => IxOk.guard g b s (h E' h') hg hgo (hE h' hb)) k
theorem d_lenr (rd:List (Nat × T)) (k:DK P Γ pn ops id hs E0 Q os (E.app wr chg) (⟨rd,[(wr,chg)]⟩ :: acc)) (hrd:E.Has rd:=by repeat (first | exact trivial | refine ⟨rfl,?_⟩)) (h:∀ E':Env,E'.Has rd → Ok P Γ o E' (E'.app wr chg):=by intro E' h;exact y_lenr (by first | exact locB (hE h rfl) rfl | exact locA (hE h rfl) (hE h rfl) (by first | rfl | exact getc (by assumption) rfl | exact getc (by assumption) (getc (by assumption) rfl) | exact geta rfl (getc (by assumption) rfl) | exact getp (getc (by assumption) rfl) | exact getp (geta rfl (getc (by assumption) rfl)) | exact getp (geta rfl (getc (by assumption) (getc (by assumption) rfl)))) rfl) rfl) (hg:o.guard = none:=by rfl):DK P Γ pn ops id hs E0 Q (o :: os) E acc:=dG rd [(wr,chg)] hrd (fun E' h' => IxOk.op (h E' h') hg) k
theorem e_lenr {g s:Nat} {b:Bool} (rd:List (Nat × T)) (k:DK P Γ pn ops id hs E0 Q os (E.app wr chg) (⟨rd,[(wr,chg)]⟩ :: acc)) (hrd:E.Has rd:=by repeat (first | exact trivial | refine ⟨rfl,?_⟩)) (hg:o.guard = some (g,b):=by rfl) (hgo:(ops[g]?).bind (·.dst) = some s:=by rfl) (hb:envL rd s = some (.lit (.bool b)):=by rfl) (h:∀ E':Env,E'.Has rd → Ok P Γ o E' (E'.app wr chg):=by intro E' h;exact y_lenr (by first | exact locB (hE h rfl) rfl | exact locA (hE h rfl) (hE h rfl) (by first | rfl | exact getc (by assumption) rfl | exact getc (by assumption) (getc (by assumption) rfl) | exact geta rfl (getc (by assumption) rfl) | exact getp (getc (by assumption) rfl) | exact getp (geta rfl (getc (by assumption) rfl)) | exact getp (geta rfl (getc (by assumption) (getc (by assumption) rfl)))) rfl) rfl):DK P Γ pn ops id hs E0 Q (o :: os) E acc:=dG rd [(wr,chg)] hrd (fun E' h' => IxOk.guard g b s (h E' h') hg hgo (hE h' hb)) k
theorem d_add (rd:List (Nat × T)) (k:DK P Γ pn ops id hs E0 Q os (E.app wr chg) (⟨rd,[(wr,chg)]⟩ :: acc)) (hrd:E.Has rd:=by repeat (first | exact trivial | refine ⟨rfl,?_⟩)) (h:∀ E':Env,E'.Has rd → Ok P Γ o E' (E'.app wr chg):=by intro E' h;exact x_add (by assumption) (hO h rfl) (hO h rfl) rfl) (hg:o.guard = none:=by rfl):DK P Γ pn ops id hs E0 Q (o :: os) E acc:=dG rd [(wr,chg)] hrd (fun E' h' => IxOk.op (h E' h') hg) k
theorem d_pick (rd:List (Nat × T)) (k:DK P Γ pn ops id hs E0 Q os (E.app wr chg) (⟨rd,[(wr,chg)]⟩ :: acc)) (hrd:E.Has rd:=by repeat (first | exact trivial | refine ⟨rfl,?_⟩)) (h:∀ E':Env,E'.Has rd → Ok P Γ o E' (E'.app wr chg):=by intro E' h;exact x_pick (hO h rfl) (hO h rfl) rfl) (hg:o.guard = none:=by rfl):DK P Γ pn ops id hs E0 Q (o :: os) E acc:=dG rd [(wr,chg)] hrd (fun E' h' => IxOk.op (h E' h') hg) k
theorem d_fa (rd:List (Nat × T)) (k:DK P Γ pn ops id hs E0 Q os (E.app wr chg) (⟨rd,[(wr,chg)]⟩ :: acc)) (hrd:E.Has rd:=by repeat (first | exact trivial | refine ⟨rfl,?_⟩)) (h:∀ E':Env,E'.Has rd → Ok P Γ o E' (E'.app wr chg):=by intro E' h;exact x_fa inferInstance (by first | exact locB (hE h rfl) rfl | exact locA (hE h rfl) (hE h rfl) (by first | rfl | exact getc (by assumption) rfl | exact getc (by assumption) (getc (by assumption) rfl) | exact geta rfl (getc (by assumption) rfl) | exact getp (getc (by assumption) rfl) | exact getp (geta rfl (getc (by assumption) rfl)) | exact getp (geta rfl (getc (by assumption) (getc (by assumption) rfl)))) rfl) rfl rfl rfl) (hg:o.guard = none:=by rfl):DK P Γ pn ops id hs E0 Q (o :: os) E acc:=dG rd [(wr,chg)] hrd (fun E' h' => IxOk.op (h E' h') hg) k
theorem e_fa {g s:Nat} {b:Bool} (rd:List (Nat × T)) (k:DK P Γ pn ops id hs E0 Q os (E.app wr chg) (⟨rd,[(wr,chg)]⟩ :: acc)) (hrd:E.Has rd:=by repeat (first | exact trivial | refine ⟨rfl,?_⟩)) (hg:o.guard = some (g,b):=by rfl) (hgo:(ops[g]?).bind (·.dst) = some s:=by rfl) (hb:envL rd s = some (.lit (.bool b)):=by rfl) (h:∀ E':Env,E'.Has rd → Ok P Γ o E' (E'.app wr chg):=by intro E' h;exact x_fa inferInstance (by first | exact locB (hE h rfl) rfl | exact locA (hE h rfl) (hE h rfl) (by first | rfl | exact getc (by assumption) rfl | exact getc (by assumption) (getc (by assumption) rfl) | exact geta rfl (getc (by assumption) rfl) | exact getp (getc (by assumption) rfl) | exact getp (geta rfl (getc (by assumption) rfl)) | exact getp (geta rfl (getc (by assumption) (getc (by assumption) rfl)))) rfl) rfl rfl rfl):DK P Γ pn ops id hs E0 Q (o :: os) E acc:=dG rd [(wr,chg)] hrd (fun E' h' => IxOk.guard g b s (h E' h') hg hgo (hE h' hb)) k
theorem d_ld (rd:List (Nat × T)) (k:DK P Γ pn ops id hs E0 Q os (E.app wr chg) (⟨rd,[(wr,chg)]⟩ :: acc)) (hrd:E.Has rd:=by repeat (first | exact trivial | refine ⟨rfl,?_⟩)) (h:∀ E':Env,E'.Has rd → Ok P Γ o E' (E'.app wr chg):=by intro E' h;first | exact y_ld (hO h rfl) (hE h rfl) rfl rfl rfl rfl | exact y_ld (hO h rfl) (hE h rfl) (by first | rfl | exact getc (by assumption) rfl | exact getc (by assumption) (getc (by assumption) rfl) | exact geta rfl (getc (by assumption) rfl) | exact getp (getc (by assumption) rfl) | exact getp (geta rfl (getc (by assumption) rfl)) | exact getp (geta rfl (getc (by assumption) (getc (by assumption) rfl)))) (by rfl) (by rfl) (by rfl)) (hg:o.guard = none:=by rfl):DK P Γ pn ops id hs E0 Q (o :: os) E acc:=dG rd [(wr,chg)] hrd (fun E' h' => IxOk.op (h E' h') hg) k
theorem e_ld {g s:Nat} {b:Bool} (rd:List (Nat × T)) (k:DK P Γ pn ops id hs E0 Q os (E.app wr chg) (⟨rd,[(wr,chg)]⟩ :: acc)) (hrd:E.Has rd:=by repeat (first | exact trivial | refine ⟨rfl,?_⟩)) (hg:o.guard = some (g,b):=by rfl) (hgo:(ops[g]?).bind (·.dst) = some s:=by rfl) (hb:envL rd s = some (.lit (.bool b)):=by rfl) (h:∀ E':Env,E'.Has rd → Ok P Γ o E' (E'.app wr chg):=by intro E' h;first | exact y_ld (hO h rfl) (hE h rfl) rfl rfl rfl rfl | exact y_ld (hO h rfl) (hE h rfl) (by first | rfl | exact getc (by assumption) rfl | exact getc (by assumption) (getc (by assumption) rfl) | exact geta rfl (getc (by assumption) rfl) | exact getp (getc (by assumption) rfl) | exact getp (geta rfl (getc (by assumption) rfl)) | exact getp (geta rfl (getc (by assumption) (getc (by assumption) rfl)))) (by rfl) (by rfl) (by rfl)):DK P Γ pn ops id hs E0 Q (o :: os) E acc:=dG rd [(wr,chg)] hrd (fun E' h' => IxOk.guard g b s (h E' h') hg hgo (hE h' hb)) k
theorem d_ldp (rd:List (Nat × T)) (k:DK P Γ pn ops id hs E0 Q os (E.app wr chg) (⟨rd,[(wr,chg)]⟩ :: acc)) (hrd:E.Has rd:=by repeat (first | exact trivial | refine ⟨rfl,?_⟩)) (h:∀ E':Env,E'.Has rd → Ok P Γ o E' (E'.app wr chg):=by intro E' h;first | exact y_ldp (by first | exact locB (hE h rfl) rfl | exact locA (hE h rfl) (hE h rfl) (by first | rfl | exact getc (by assumption) rfl | exact getc (by assumption) (getc (by assumption) rfl) | exact geta rfl (getc (by assumption) rfl) | exact getp (getc (by assumption) rfl) | exact getp (geta rfl (getc (by assumption) rfl)) | exact getp (geta rfl (getc (by assumption) (getc (by assumption) rfl)))) rfl) (hE h rfl) rfl rfl rfl rfl | exact y_ldp (by first | exact locB (hE h rfl) rfl | exact locA (hE h rfl) (hE h rfl) (by first | rfl | exact getc (by assumption) rfl | exact getc (by assumption) (getc (by assumption) rfl) | exact geta rfl (getc (by assumption) rfl) | exact getp (getc (by assumption) rfl) | exact getp (geta rfl (getc (by assumption) rfl)) | exact getp (geta rfl (getc (by assumption) (getc (by assumption) rfl)))) rfl) (hE h rfl) (by first | rfl | exact getc (by assumption) rfl | exact getc (by assumption) (getc (by assumption) rfl) | exact geta rfl (getc (by assumption) rfl) | exact getp (getc (by assumption) rfl) | exact getp (geta rfl (getc (by assumption) rfl)) | exact getp (geta rfl (getc (by assumption) (getc (by assumption) rfl)))) (by rfl) (by rfl) (by rfl)) (hg:o.guard = none:=by rfl):DK P Γ pn ops id hs E0 Q (o :: os) E acc:=dG rd [(wr,chg)] hrd (fun E' h' => IxOk.op (h E' h') hg) k
theorem d_sub (rd:List (Nat × T)) (k:DK P Γ pn ops id hs E0 Q os (E.app wr chg) (⟨rd,[(wr,chg)]⟩ :: acc)) (hrd:E.Has rd:=by repeat (first | exact trivial | refine ⟨rfl,?_⟩)) (h:∀ E':Env,E'.Has rd → Ok P Γ o E' (E'.app wr chg):=by intro E' h;exact x_sub (by assumption) (hO h rfl) (hO h rfl) rfl) (hg:o.guard = none:=by rfl):DK P Γ pn ops id hs E0 Q (o :: os) E acc:=dG rd [(wr,chg)] hrd (fun E' h' => IxOk.op (h E' h') hg) k
theorem e_sub {g s:Nat} {b:Bool} (rd:List (Nat × T)) (k:DK P Γ pn ops id hs E0 Q os (E.app wr chg) (⟨rd,[(wr,chg)]⟩ :: acc)) (hrd:E.Has rd:=by repeat (first | exact trivial | refine ⟨rfl,?_⟩)) (hg:o.guard = some (g,b):=by rfl) (hgo:(ops[g]?).bind (·.dst) = some s:=by rfl) (hb:envL rd s = some (.lit (.bool b)):=by rfl) (h:∀ E':Env,E'.Has rd → Ok P Γ o E' (E'.app wr chg):=by intro E' h;exact x_sub (by assumption) (hO h rfl) (hO h rfl) rfl):DK P Γ pn ops id hs E0 Q (o :: os) E acc:=dG rd [(wr,chg)] hrd (fun E' h' => IxOk.guard g b s (h E' h') hg hgo (hE h' hb)) k
theorem d_not (rd:List (Nat × T)) (k:DK P Γ pn ops id hs E0 Q os (E.app wr chg) (⟨rd,[(wr,chg)]⟩ :: acc)) (hrd:E.Has rd:=by repeat (first | exact trivial | refine ⟨rfl,?_⟩)) (h:∀ E':Env,E'.Has rd → Ok P Γ o E' (E'.app wr chg):=by intro E' h;exact x_not (hO h rfl) rfl) (hg:o.guard = none:=by rfl):DK P Γ pn ops id hs E0 Q (o :: os) E acc:=dG rd [(wr,chg)] hrd (fun E' h' => IxOk.op (h E' h') hg) k
theorem d_neq (rd:List (Nat × T)) (k:DK P Γ pn ops id hs E0 Q os (E.app wr chg) (⟨rd,[(wr,chg)]⟩ :: acc)) (hrd:E.Has rd:=by repeat (first | exact trivial | refine ⟨rfl,?_⟩)) (h:∀ E':Env,E'.Has rd → Ok P Γ o E' (E'.app wr chg):=by intro E' h;exact x_neq (hO h rfl) (hO h rfl) rfl) (hg:o.guard = none:=by rfl):DK P Γ pn ops id hs E0 Q (o :: os) E acc:=dG rd [(wr,chg)] hrd (fun E' h' => IxOk.op (h E' h') hg) k
theorem e_neq {g s:Nat} {b:Bool} (rd:List (Nat × T)) (k:DK P Γ pn ops id hs E0 Q os (E.app wr chg) (⟨rd,[(wr,chg)]⟩ :: acc)) (hrd:E.Has rd:=by repeat (first | exact trivial | refine ⟨rfl,?_⟩)) (hg:o.guard = some (g,b):=by rfl) (hgo:(ops[g]?).bind (·.dst) = some s:=by rfl) (hb:envL rd s = some (.lit (.bool b)):=by rfl) (h:∀ E':Env,E'.Has rd → Ok P Γ o E' (E'.app wr chg):=by intro E' h;exact x_neq (hO h rfl) (hO h rfl) rfl):DK P Γ pn ops id hs E0 Q (o :: os) E acc:=dG rd [(wr,chg)] hrd (fun E' h' => IxOk.guard g b s (h E' h') hg hgo (hE h' hb)) k
theorem d_eql (rd:List (Nat × T)) (k:DK P Γ pn ops id hs E0 Q os (E.app wr chg) (⟨rd,[(wr,chg)]⟩ :: acc)) (hrd:E.Has rd:=by repeat (first | exact trivial | refine ⟨rfl,?_⟩)) (h:∀ E':Env,E'.Has rd → Ok P Γ o E' (E'.app wr chg):=by intro E' h;exact x_eql (hO h rfl) (hO h rfl) rfl) (hg:o.guard = none:=by rfl):DK P Γ pn ops id hs E0 Q (o :: os) E acc:=dG rd [(wr,chg)] hrd (fun E' h' => IxOk.op (h E' h') hg) k
theorem d_far (rd:List (Nat × T)) (k:DK P Γ pn ops id hs E0 Q os (E.app wr chg) (⟨rd,[(wr,chg)]⟩ :: acc)) (hrd:E.Has rd:=by repeat (first | exact trivial | refine ⟨rfl,?_⟩)) (h:∀ E':Env,E'.Has rd → Ok P Γ o E' (E'.app wr chg):=by intro E' h;exact x_far inferInstance (hO h rfl) rfl rfl rfl) (hg:o.guard = none:=by rfl):DK P Γ pn ops id hs E0 Q (o :: os) E acc:=dG rd [(wr,chg)] hrd (fun E' h' => IxOk.op (h E' h') hg) k
theorem e_far {g s:Nat} {b:Bool} (rd:List (Nat × T)) (k:DK P Γ pn ops id hs E0 Q os (E.app wr chg) (⟨rd,[(wr,chg)]⟩ :: acc)) (hrd:E.Has rd:=by repeat (first | exact trivial | refine ⟨rfl,?_⟩)) (hg:o.guard = some (g,b):=by rfl) (hgo:(ops[g]?).bind (·.dst) = some s:=by rfl) (hb:envL rd s = some (.lit (.bool b)):=by rfl) (h:∀ E':Env,E'.Has rd → Ok P Γ o E' (E'.app wr chg):=by intro E' h;exact x_far inferInstance (hO h rfl) rfl rfl rfl):DK P Γ pn ops id hs E0 Q (o :: os) E acc:=dG rd [(wr,chg)] hrd (fun E' h' => IxOk.guard g b s (h E' h') hg hgo (hE h' hb)) k
theorem d_nilc (rd:List (Nat × T)) (k:DK P Γ pn ops id hs E0 Q os (E.app wr chg) (⟨rd,[(wr,chg)]⟩ :: acc)) (hrd:E.Has rd:=by repeat (first | exact trivial | refine ⟨rfl,?_⟩)) (h:∀ E':Env,E'.Has rd → Ok P Γ o E' (E'.app wr chg):=by intro E' h;first | exact x_nilc (hO h rfl) (isPtr_ro (hO h rfl)) rfl | exact x_nilc (hO h rfl) (isPtr_addr (hO h rfl)) rfl | exact x_nilc (hO h rfl) (isPtr_own (by first | exact locB (hE h rfl) rfl | exact locA (hE h rfl) (hE h rfl) (by first | rfl | exact getc (by assumption) rfl | exact getc (by assumption) (getc (by assumption) rfl) | exact geta rfl (getc (by assumption) rfl) | exact getp (getc (by assumption) rfl) | exact getp (geta rfl (getc (by assumption) rfl)) | exact getp (geta rfl (getc (by assumption) (getc (by assumption) rfl)))) rfl)) rfl) (hg:o.guard = none:=by rfl):DK P Γ pn ops id hs E0 Q (o :: os) E acc:=dG rd [(wr,chg)] hrd (fun E' h' => IxOk.op (h E' h') hg) k
theorem e_nilc {g s:Nat} {b:Bool} (rd:List (Nat × T)) (k:DK P Γ pn ops id hs E0 Q os (E.app wr chg) (⟨rd,[(wr,chg)]⟩ :: acc)) (hrd:E.Has rd:=by repeat (first | exact trivial | refine ⟨rfl,?_⟩)) (hg:o.guard = some (g,b):=by rfl) (hgo:(ops[g]?).bind (·.dst) = some s:=by rfl) (hb:envL rd s = some (.lit (.bool b)):=by rfl) (h:∀ E':Env,E'.Has rd → Ok P Γ o E' (E'.app wr chg):=by intro E' h;first | exact x_nilc (hO h rfl) (isPtr_ro (hO h rfl)) rfl | exact x_nilc (hO h rfl) (isPtr_addr (hO h rfl)) rfl | exact x_nilc (hO h rfl) (isPtr_own (by first | exact locB (hE h rfl) rfl | exact locA (hE h rfl) (hE h rfl) (by first | rfl | exact getc (by assumption) rfl | exact getc (by assumption) (getc (by assumption) rfl) | exact geta rfl (getc (by assumption) rfl) | exact getp (getc (by assumption) rfl) | exact getp (geta rfl (getc (by assumption) rfl)) | exact getp (geta rfl (getc (by assumption) (getc (by assumption) rfl)))) rfl)) rfl):DK P Γ pn ops id hs E0 Q (o :: os) E acc:=dG rd [(wr,chg)] hrd (fun E' h' => IxOk.guard g b s (h E' h') hg hgo (hE h' hb)) k
theorem d_ix (rd:List (Nat × T)) (k:DK P Γ pn ops id hs E0 Q os (E.app wr chg) (⟨rd,[(wr,chg)]⟩ :: acc)) (hrd:E.Has rd:=by repeat (first | exact trivial | refine ⟨rfl,?_⟩)) (h:∀ E':Env,E'.Has rd → Ok P Γ o E' (E'.app wr chg):=by intro E' h;exact y_ix (by first | exact locB (hE h rfl) rfl | exact locA (hE h rfl) (hE h rfl) (by first | rfl | exact getc (by assumption) rfl | exact getc (by assumption) (getc (by assumption) rfl) | exact geta rfl (getc (by assumption) rfl) | exact getp (getc (by assumption) rfl) | exact getp (geta rfl (getc (by assumption) rfl)) | exact getp (geta rfl (getc (by assumption) (getc (by assumption) rfl)))) rfl) (hO h rfl) (by assumption) rfl) (hg:o.guard = none:=by rfl):DK P Γ pn ops id hs E0 Q (o :: os) E acc:=dG rd [(wr,chg)] hrd (fun E' h' => IxOk.op (h E' h') hg) k
theorem d_mul (rd:List (Nat × T)) (k:DK P Γ pn ops id hs E0 Q os (E.app wr chg) (⟨rd,[(wr,chg)]⟩ :: acc)) (hrd:E.Has rd:=by repeat (first | exact trivial | refine ⟨rfl,?_⟩)) (h:∀ E':Env,E'.Has rd → Ok P Γ o E' (E'.app wr chg):=by intro E' h;exact x_mul (by assumption) (hO h rfl) (hO h rfl) rfl) (hg:o.guard = none:=by rfl):DK P Γ pn ops id hs E0 Q (o :: os) E acc:=dG rd [(wr,chg)] hrd (fun E' h' => IxOk.op (h E' h') hg) k
theorem d_rem (rd:List (Nat × T)) (k:DK P Γ pn ops id hs E0 Q os (E.app wr chg) (⟨rd,[(wr,chg)]⟩ :: acc)) (hrd:E.Has rd:=by repeat (first | exact trivial | refine ⟨rfl,?_⟩)) (h:∀ E':Env,E'.Has rd → Ok P Γ o E' (E'.app wr chg):=by intro E' h;exact x_rem (by assumption) (hO h rfl) (hO h rfl) rfl) (hg:o.guard = none:=by rfl):DK P Γ pn ops id hs E0 Q (o :: os) E acc:=dG rd [(wr,chg)] hrd (fun E' h' => IxOk.op (h E' h') hg) k
theorem d_quo (rd:List (Nat × T)) (k:DK P Γ pn ops id hs E0 Q os (E.app wr chg) (⟨rd,[(wr,chg)]⟩ :: acc)) (hrd:E.Has rd:=by repeat (first | exact trivial | refine ⟨rfl,?_⟩)) (h:∀ E':Env,E'.Has rd → Ok P Γ o E' (E'.app wr chg):=by intro E' h;exact x_quo (by assumption) (hO h rfl) (hO h rfl) rfl) (hg:o.guard = none:=by rfl):DK P Γ pn ops id hs E0 Q (o :: os) E acc:=dG rd [(wr,chg)] hrd (fun E' h' => IxOk.op (h E' h') hg) k
theorem d_alloc (rd:List (Nat × T)) (k:DK P Γ pn ops id hs E0 Q os (E.app wr chg) (⟨rd,[(wr,chg)]⟩ :: acc)) (hrd:E.Has rd:=by repeat (first | exact trivial | refine ⟨rfl,?_⟩)) (h:∀ E':Env,E'.Has rd → Ok P Γ o E' (E'.app wr chg):=by intro E' h;exact x_alloc inferInstance rfl) (hg:o.guard = none:=by rfl):DK P Γ pn ops id hs E0 Q (o :: os) E acc:=dG rd [(wr,chg)] hrd (fun E' h' => IxOk.op (h E' h') hg) k
theorem d_ext (rd:List (Nat × T)) (k:DK P Γ pn ops id hs E0 Q os (E.app wr chg) (⟨rd,[(wr,chg)]⟩ :: acc)) (hrd:E.Has rd:=by repeat (first | exact trivial | refine ⟨rfl,?_⟩)) (h:∀ E':Env,E'.Has rd → Ok P Γ o E' (E'.app wr chg):=by intro E' h;exact x_ext (hE h rfl) rfl rfl) (hg:o.guard = none:=by rfl):DK P Γ pn ops id hs E0 Q (o :: os) E acc:=dG rd [(wr,chg)] hrd (fun E' h' => IxOk.op (h E' h') hg) k
theorem d_mvT (rd:List (Nat × T)) (k:DK P Γ pn ops id hs E0 Q os (E.app wr chg) (⟨rd,[(wr,chg)]⟩ :: acc)) (hrd:E.Has rd:=by repeat (first | exact trivial | refine ⟨rfl,?_⟩)) (h:∀ E':Env,E'.Has rd → Ok P Γ o E' (E'.app wr chg):=by intro E' h;exact x_mvT (hE h rfl) rfl) (hg:o.guard = none:=by rfl):DK P Γ pn ops id hs E0 Q (o :: os) E acc:=dG rd [(wr,chg)] hrd (fun E' h' => IxOk.op (h E' h') hg) k
theorem cA {f:FuncId} {xs:List Operand} {ats:Array TypeId} {us res:List T} (hcall:CallsF P f) (hc:FnC P f us res []) (k:RW P Γ pn ops os (E.app (cWr d res []) (cChg d [])) Q) (hargs:ArgsOk E [] 0 xs us:=by repeat (first | exact trivial | refine ⟨agC _ rfl (by first | rfl | exact cloO inferInstance | exact cloS rfl (by first | rfl | exact getc (by assumption) rfl | exact getc (by assumption) (getc (by assumption) rfl) | exact geta rfl (getc (by assumption) rfl) | exact getp (getc (by assumption) rfl) | exact getp (geta rfl (getc (by assumption) rfl)) | exact getp (geta rfl (getc (by assumption) (getc (by assumption) rfl)))) inferInstance | exact cloSR rfl (by first | rfl | exact getc (by assumption) rfl | exact getc (by assumption) (getc (by assumption) rfl) | exact geta rfl (getc (by assumption) rfl) | exact getp (getc (by assumption) rfl) | exact getp (geta rfl (getc (by assumption) rfl)) | exact getp (geta rfl (getc (by assumption) (getc (by assumption) rfl))))) rfl,?_⟩)) (hres:ResOk res:=by repeat (first | exact resN | refine resC inferInstance ?_)) (sd:Nat.blt d Γ.N = true:=by rfl) (hg:gd = none:=by rfl) (hp:pn.ok (some d) = true:=by rfl) :
  RW P Γ pn ops (⟨some d,.call { callee:=.value (.func f),args:=xs.toArray,argTypes:=ats },ty,ps,af,gd⟩ :: os) E Q:=oP (x_call hcall hc hargs hres sd) k hg hp
theorem dC {f:FuncId} {xs:List Operand} {ats:Array TypeId} {us res:List T} (rd:List (Nat × T)) (hcall:CallsF P f) (hc:FnC P f us res []) (k:DK P Γ pn ops id hs E0 Q os (E.app (cWr d res []) (cChg d [])) (⟨rd,[(cWr d res [],cChg d [])]⟩ :: acc)) (hrd:E.Has rd:=by repeat (first | exact trivial | refine ⟨rfl,?_⟩)) (hargs:∀ E':Env,E'.Has rd → ArgsOk E' [] 0 xs us:=by intro E' h;repeat (first | exact trivial | refine ⟨agC _ (hO h rfl) (by first | rfl | exact cloO inferInstance | exact cloS (hE h rfl) (by first | rfl | exact getc (by assumption) rfl | exact getc (by assumption) (getc (by assumption) rfl) | exact geta rfl (getc (by assumption) rfl) | exact getp (getc (by assumption) rfl) | exact getp (geta rfl (getc (by assumption) rfl)) | exact getp (geta rfl (getc (by assumption) (getc (by assumption) rfl)))) inferInstance | exact cloSR (hE h rfl) (by first | rfl | exact getc (by assumption) rfl | exact getc (by assumption) (getc (by assumption) rfl) | exact geta rfl (getc (by assumption) rfl) | exact getp (getc (by assumption) rfl) | exact getp (geta rfl (getc (by assumption) rfl)) | exact getp (geta rfl (getc (by assumption) (getc (by assumption) rfl))))) rfl,?_⟩)) (hres:ResOk res:=by repeat (first | exact resN | refine resC inferInstance ?_)) (sd:Nat.blt d Γ.N = true:=by rfl) (hg:gd = none:=by rfl) :
  DK P Γ pn ops id hs E0 Q (⟨some d,.call { callee:=.value (.func f),args:=xs.toArray,argTypes:=ats },ty,ps,af,gd⟩ :: os) E acc :=
 dG rd [(cWr d res [],cChg d [])] hrd (fun E' h' => IxOk.op (x_call hcall hc (hargs E' h') hres sd) hg) k
theorem sk2 {g s:Nat} {b b':Bool} (k:RW P Γ pn ops os (E.app [(d,some (.tup []))] [(d,0)]) Q) (hd:o.dst = some d:=by rfl) (hg:o.guard = some (g,b):=by rfl) (hgo:(ops[g]?).bind (·.dst) = some s:=by rfl) (hb:E s = some (.lit (.bool b')):=by rfl) (hbb:(b == b') = false:=by rfl) (sd:Nat.blt d Γ.N = true:=by rfl) (hp:pn.ok o.dst = true:=by rfl) :
  RW P Γ pn ops (o :: os) E Q:=RW.cons (IxOk.skip2 g b b' s hd sd hbb hg hgo hb) k hp
theorem dsk2 {g s:Nat} {b b':Bool} (k:DK P Γ pn ops id hs E0 Q os (E.app [(d,some (.tup []))] [(d,0)]) (⟨[(s,.lit (.bool b'))],[([(d,some (.tup []))],[(d,0)])]⟩ :: acc)) (hd:o.dst = some d:=by rfl) (hg:o.guard = some (g,b):=by rfl) (hgo:(ops[g]?).bind (·.dst) = some s:=by rfl) (hb:E s = some (.lit (.bool b')):=by rfl) (hbb:(b == b') = false:=by rfl) (sd:Nat.blt d Γ.N = true:=by rfl) :
  DK P Γ pn ops id hs E0 Q (o :: os) E acc:=dG [(s,.lit (.bool b'))] [([(d,some (.tup []))],[(d,0)])] ⟨hb,trivial⟩ (fun _E' h => IxOk.skip2 g b b' s hd sd hbb hg hgo h.1) k
theorem dsk3 {g s:Nat} {b:Bool} (k:DK P Γ pn ops id hs E0 Q os (E.app [(d,some (.tup []))] [(d,0)]) (⟨[(s,.tup [])],[([(d,some (.tup []))],[(d,0)])]⟩ :: acc)) (hd:o.dst = some d:=by rfl) (hg:o.guard = some (g,b):=by rfl) (hgo:(ops[g]?).bind (·.dst) = some s:=by rfl) (hb:E s = some (.tup []):=by rfl) (sd:Nat.blt d Γ.N = true:=by rfl) :
  DK P Γ pn ops id hs E0 Q (o :: os) E acc:=dG [(s,.tup [])] [([(d,some (.tup []))],[(d,0)])] ⟨hb,trivial⟩ (fun _E' h => IxOk.skip3 g b s hd sd hg hgo h.1) k
theorem dNA (hm:P.follows .mixedOrders = true) (hQ:Q .normal E) (hf:fwdFrom 0 ops.toList = true:=by rfl) (ha:ancFrom (ancs ops.toList) (ancs ops.toList) ops.toList = true:=by rfl) (hp:pairsFrom acc.reverse 0 (ancs ops.toList) acc.reverse = true:=by rfl)
  (hpn:ops.toList.all (fun o => pn.ok o.dst) = true:=by rfl) (hh0:holdB hs E0 = true:=by rfl) (hw:acc.reverse.all (wrS hs) = true:=by rfl):DK P Γ pn ops id hs E0 Q [] E acc:=dN _ hm hQ hf ha hp hpn hh0 hw
theorem cn {c1 c2:Code} {α:Type} {b:Bool} {u v z:α} (h:cond b u v = z) (ht:b = true → u = z → CW P Γ pn c1 E Q) (hf:b = false → v = z → CW P Γ pn c2 E Q) (hb:opT E x = some (.lit (.bool b)):=by rfl):CW P Γ pn (.cond x c1 c2) E Q :=
 CW.cond b hb (fun hc => ht hc (cT hc h)) fun hc => hf hc (cF hc h)
theorem fB {f:FuncId} {fn:Func} {c:Code} {us res:List T} {rws:List (Nat × T)} (hf:P.funcs[f]? = some fn) (h:∀ (St:Stb) (W:Nat → Prop) (w0:World) (v:Nat → Value),CW P ⟨St,W,w0,fn.ntmps⟩ (pinsOf v (rws.map (·.1))) c (envL (argE 0 us)) (RetG ⟨St,W,w0,fn.ntmps⟩ P fn.results us res rws)) (hb:fn.body = some c:=by rfl) (hn:us.length ≤ fn.ntmps:=by exact Nat.le_of_ble_eq_true rfl)
  (ht:Tops us:=by repeat (first | exact trivial | refine ⟨by first | exact Top.of_clean _ (Enc.clean _) | simp [Top,Tops],?_⟩)) (hr:rws.all (fun x => decide (x.1 < us.length)) = true:=by rfl):FnC P f us res rws :=
 FnC.of_bodyG hf hb hn ht hr (by rintro ⟨St,W,w0,N⟩ v hN;subst hN;exact h St W w0 v)
def tmpsOf:List ResultVar → Option (List Nat)
 | [] => some []
 | .tmp s :: l => (tmpsOf l).map (s :: ·)
 | .cell _ _ :: _ => none
theorem tmpsOf_ok:∀ (rs:List ResultVar) (ss:List Nat) (res:List T),tmpsOf rs = some ss → ss.map E = res.map some → res.all T.okTup = true → ∃ nd:Nds,RsOk P E rs nd ∧ nd.map (·.2.2) = res ∧ nd.map (·.1) = ss
 | [],ss,res,h,hE,_ => by
  simp [tmpsOf] at h;subst h
  cases res with
  | nil => exact ⟨[],trivial,rfl,rfl⟩
  | cons _ _ => simp at hE
 | .tmp s :: rs,ss,res,h,hE,ht => by
  simp only [tmpsOf,Option.map_eq_some_iff] at h
  obtain ⟨ss',h,rfl⟩:=h
  cases res with
  | nil => simp at hE
  | cons t res =>
   simp only [List.map_cons,List.cons.injEq] at hE
   simp only [List.all_cons,Bool.and_eq_true] at ht
   obtain ⟨nd,h1,h2,h3⟩:=tmpsOf_ok rs ss' res h hE.2 ht.2
   exact ⟨(s,[],t) :: nd,⟨⟨rfl,rfl,hE.1,ht.1⟩,h1⟩,by simp [h2],by simp [h3]⟩
 | .cell _ _ :: _,_,_,h,_,_ => by simp [tmpsOf] at h
theorem rT {rs:Array ResultVar} {us res:List T} {rws:List (Nat × T)} {e:Exit} {ss:List Nat} (hs:tmpsOf rs.toList = some ss:=by rfl) (hE:ss.map E = res.map some:=by rfl) (ht:res.all T.okTup = true:=by rfl) (hl:ss.all (fun s => Nat.ble us.length s) = true:=by rfl) (hn:nodupB ss = true:=by rfl)
  (hw:LOk E us rws:=by repeat (first | exact trivial | refine ⟨⟨rfl,_,rfl⟩,?_⟩)) (he:e = .ret ∨ e = .normal:=by first | exact .inl rfl | exact .inr rfl):RetG Γ P rs us res rws e E:=by
 obtain ⟨nd,h1,h2,h3⟩:=tmpsOf_ok (P:=P) rs.toList ss res hs hE ht
 refine ⟨E,Ghost.refl,he,nd,h1,h2,fun x hx => ?_,by rw [h3];exact nodupB_ok hn,hw⟩
 have:x.1 ∈ ss:=by rw [← h3];exact List.mem_map.2 ⟨x,hx,rfl⟩
 exact Nat.le_of_ble_eq_true (List.all_eq_true.1 hl _ this)
theorem eN {σ ρ:Type} {en:σ → Env} {Q1:ρ → Exit → Env → Prop} {y:σ} {x:σ ⊕ ρ} (h:some (Sum.inl y) = some x) (q:Ghost Γ E (en y):=by exact .has (by repeat (first | exact trivial | refine ⟨rfl,?_⟩))):Round Γ en Q1 x .normal E:=by
 obtain rfl:=sI h;exact ⟨rfl,q⟩
theorem rTg {rs:Array ResultVar} {us res:List T} {rws:List (Nat × T)} {e:Exit} (hg:Ghost Γ E E') (h:RetG Γ P rs us res rws e E'):RetG Γ P rs us res rws e E:=by
 obtain ⟨E2,h1,h2⟩:=h;exact ⟨E2,hg.trans h1,h2⟩
theorem eX {σ ρ:Type} {en:σ → Env} {Q1:ρ → Exit → Env → Prop} {y:ρ} {x:σ ⊕ ρ} {e:Exit} (h:some (Sum.inr y) = some x) (q:Q1 y e E:=by first | exact ⟨rfl,.has (by repeat (first | exact trivial | refine ⟨rfl,?_⟩))⟩ | exact ⟨rfl,rT⟩) (hne:e ≠ .normal:=by first | exact neX | exact neR):Round Γ en Q1 x e E:=by
 obtain rfl:=sI h;exact ⟨hne,q⟩
end
end Go.Ab

namespace Go.Ab
open Go
section
variable {Γ:Ctx} {E:Env}
theorem fzO {α:Type} {k:Nat} {f g:α → T} {xs:List α} (h:StripTo f g):frzT (L k f xs) = .ro (L k g xs):=by
 simp only [frzT,strip,strips_of h.h xs]
theorem fzA {xs ys:List T} (h:frzTs xs = ys):frzT (.agg xs) = .agg ys:=by simp only [frzT,h]
theorem fzN:frzTs [] = []:=rfl
theorem fzC {x y:T} {xs ys:List T} (h:frzT x = y) (h2:frzTs xs = ys):frzTs (x :: xs) = y :: ys:=by simp only [frzTs,h,h2]
end
end Go.Ab
namespace Go.Ab
open Go
end Go.Ab

namespace Go.Ab
open Go
end Go.Ab

namespace Go.Ab
open Go Go.ChangeShapes
section
variable {P:Program}
theorem ra_L {α:Type} {f:α → T} {V:α → Prop} {t e:TypeId} {k:Nat} (hu:P.underlying t = some (.slice e)) (hk:P.cellsOf e = k) (hk0:0 < k) (h:RdT P e k f V):RdA P t (fun xs => T.ro (L k f xs)) (fun xs => xs.length ≤ maxLen ∧ ∀ x ∈ xs,V x) :=
 ra_cell (fun _ => ⟨rfl,fun _ _ => rfl⟩) (rc_L hu hk hk0 h) fun {w base v} hok => by
  cases v <;> first | rfl | (simp [Value.okWide,Cell.okWide,Cell.ok,hu] at hok)
end
end Go.Ab

namespace Go.Ab
open Go
end Go.Ab

namespace Go.Ab
open Go
section
variable {St Sc:Stb} {G:Gh} {w:World} {s:Nat} (hone:∀ s p,(G.hd s p).oneCell' = true) (hSt:∀ b x,St b = some x → Sc b = some x) (hSc:∀ b y,y ≠ [] → G.ow b = some (s,y) → Sc b = w.heap[b]?)
 include hone hSt hSc
mutual
theorem frzI:(t:T) → ∀ (p:List Nat) (b o:Nat) (cs:Array Value) (e:TypeId) (fr:Nat × Nat),p ≠ [] → w.heap[b]? = some (.cells cs e fr) → Loc G w s t p b o → R St G w s t p → RoC Sc (strip t) cs o
 | .agg xs,p,b,o,cs,e,fr,hp,hb,hl,hr => by simp only [Loc,R,strip,RoC] at hl hr ⊢;exact frzIF xs p 0 b o cs e fr hb hl.2 hr
 | .tup _,_,_,_,_,_,_,_,_,hl,_ => by have _:=hSc;simp only [Loc] at hl
 | .any,p,b,o,cs,e,fr,hp,hb,hl,hr | .same _ _,p,b,o,cs,e,fr,hp,hb,hl,hr | .addr _ _,p,b,o,cs,e,fr,hp,hb,hl,hr | .sub _ _ _ _ _,p,b,o,cs,e,fr,hp,hb,hl,hr => by
  have h1:=(Loc_single rfl hl).2.2
  simp only [cellAt,World.cell?,hb] at h1
  simp only [strip,RoC]
  exact ⟨_,by simpa using h1,hone s p⟩
 | .lit v,p,b,o,cs,e,fr,hp,hb,hl,hr => by
  have h1:=(Loc_single rfl hl).2.2
  simp only [cellAt,World.cell?,hb] at h1
  simp only [strip,RoC,R] at hr ⊢
  exact ⟨by rw [← hr];simpa using h1,by rw [← hr];exact hone s p⟩
 | .ro u,p,b,o,cs,e,fr,hp,hb,hl,hr => by
  have h1:=(Loc_single rfl hl).2.2
  simp only [cellAt,World.cell?,hb] at h1
  simp only [strip,R] at hr ⊢
  split
  ·rename_i hu
   exact RoC_of_cell hu (RoC_mono hSt u _ _ hr) (by simpa using h1)
  ·simp only [RoC];exact ⟨_,by simpa using h1,hone s p⟩
 | .sl k xs,p,b,o,cs,e,fr,hp,hb,hl,hr => by
  have h1:=(Loc_single rfl hl).2.2
  simp only [cellAt,World.cell?,hb] at h1
  exact RoC_of_cell rfl (frzI1 (.sl k xs) p hp rfl hr) (by simpa using h1)
 | .ptr t,p,b,o,cs,e,fr,hp,hb,hl,hr => by
  have h1:=(Loc_single rfl hl).2.2
  simp only [cellAt,World.cell?,hb] at h1
  exact RoC_of_cell rfl (frzI1 (.ptr t) p hp rfl hr) (by simpa using h1)
theorem frzIF:(xs:List T) → ∀ (p:List Nat) (j b o:Nat) (cs:Array Value) (e:TypeId) (fr:Nat × Nat),w.heap[b]? = some (.cells cs e fr) → LocF G w s xs p j b o → RF St G w s xs p j → RoF Sc (strips xs) cs o
 | [],_,_,_,_,_,_,_,_,_,_ => by have _:=hone;have _:=hSt;have _:=hSc;simp only [strips,RoF]
 | x :: xs,p,j,b,o,cs,e,fr,hb,hl,hr => by
  simp only [LocF,RF,strips,RoF] at hl hr ⊢
  exact ⟨frzI x _ b o cs e fr (by simp) hb hl.1 hr.1,by rw [strip_size];exact frzIF xs p (j + 1) b _ cs e fr hb hl.2 hr.2⟩
theorem frzIL:(xs:List T) → ∀ (p:List Nat) (i b o k:Nat) (cs:Array Value) (e:TypeId) (fr:Nat × Nat),w.heap[b]? = some (.cells cs e fr) → RL St G w s xs p i b o k → RoL Sc (strips xs) cs o k
 | [],_,_,_,_,_,_,_,_,_,_ => by have _:=hone;have _:=hSt;have _:=hSc;simp only [strips,RoL]
 | x :: xs,p,i,b,o,k,cs,e,fr,hb,hr => by
  simp only [RL,strips,RoL] at hr ⊢
  exact ⟨frzI x _ b o cs e fr (by simp) hb hr.1.1 hr.2.1,frzIL xs p (i + 1) b _ k cs e fr hb hr.2.2⟩
theorem frzI1:(t:T) → ∀ (p:List Nat),p ≠ [] → t.single = true → R St G w s t p → RoC Sc (strip t) #[G.hd s p] 0
 | .agg _,_,_,h,_ | .tup _,_,_,h,_ => by simp [T.single] at h
 | .any,p,_,_,_ | .same _ _,p,_,_,_ | .addr _ _,p,_,_,_ | .sub _ _ _ _ _,p,_,_,_ => by simp only [strip,RoC];exact ⟨_,by simp,hone s p⟩
 | .lit v,p,_,_,hr => by simp only [strip,RoC,R] at hr ⊢;exact ⟨by simp [hr],by rw [← hr];exact hone s p⟩
 | .ro u,p,_,_,hr => by
  simp only [strip,R] at hr ⊢
  split
  ·exact RoC_mono hSt u _ _ hr
  ·simp only [RoC];exact ⟨_,by simp,hone s p⟩
 | .sl k xs,p,hp,_,hr => by
  simp only [strip,R,RoC] at hr ⊢
  rw [strips_length]
  rcases hr with ⟨rfl,a,h1⟩ | ⟨b,cap,cs,e,h1,h2,h3,h4,h5,h6,h7,h8⟩
  ·exact ⟨a,0,by simp [h1],by simp,by simp [maxLen],fun h => by simp [strips] at h⟩
  ·exact ⟨some ⟨b,0,none⟩,cap,by simp [h1],h3,h4,fun _ => ⟨b,0,cs,e,(0,0),rfl,by rw [hSc b _ hp h6];exact h2,frzIL xs p 0 b 0 k cs e (0,0) h2 h8⟩⟩
 | .ptr t,p,hp,_,hr => by
  simp only [strip,R,RoC] at hr ⊢
  obtain ⟨b,cs,e,h1,h2,h3,h6,h4,h5⟩:=hr
  exact ⟨b,0,cs,e,(0,0),by simp [h1],by rw [hSc b _ hp h6];exact h2,frzI t _ b 0 cs e (0,0) (by simp) h2 h4 h5⟩
end
variable {G':Gh} (hhd:∀ s z,G'.hd s z = G.hd s z) (had:∀ s z,G'.ad s z = G.ad s z)
 include hhd had
mutual
theorem R_frzI:(t:T) → ∀ (p:List Nat),p ≠ [] → R St G w s t p → R Sc G' w s (frzT t) p
 | .agg xs,p,_,hr | .tup xs,p,_,hr => by simp only [frzT,R] at hr ⊢;exact RF_frzI xs p 0 hr
 | .sl k xs,p,hp,hr => by
  have:=frzI1 hone hSt hSc (.sl k xs) p hp rfl hr
  simp only [frzT,R,hhd];exact this
 | .ptr t,p,hp,hr => by
  have:=frzI1 hone hSt hSc (.ptr t) p hp rfl hr
  simp only [frzT,R,hhd];exact this
 | .ro u,p,_,hr => by simp only [frzT,R,hhd] at hr ⊢;exact RoC_mono hSt u _ _ hr
 | .any,_,_,_ => by simp only [frzT,R]
 | .lit _,_,_,hr | .same _ _,_,_,hr | .sub _ _ _ _ _,_,_,hr => by simp only [frzT,R,hhd] at hr ⊢;exact hr
 | .addr _ _,_,_,hr => by simp only [frzT,R,hhd,had] at hr ⊢;exact hr
theorem RF_frzI:(xs:List T) → ∀ (p:List Nat) (j:Nat),RF St G w s xs p j → RF Sc G' w s (frzTs xs) p j
 | [],_,_,_ => by have _:=hone;have _:=hSt;have _:=hSc;have _:=hhd;have _:=had;simp only [frzTs,RF]
 | x :: xs,p,j,hr => by simp only [frzTs,RF] at hr ⊢;exact ⟨R_frzI x _ (by simp) hr.1,RF_frzI xs p (j + 1) hr.2⟩
end
end
mutual
theorem frzT_size:(t:T) → (frzT t).size = t.size
 | .agg xs => by simp only [frzT,T.size];exact frzTs_size xs
 | .tup xs => by simp only [frzT,T.size]
 | .sl _ _ | .ptr _ | .any | .lit _ | .ro _ | .same _ _ | .addr _ _ | .sub _ _ _ _ _ => by simp only [frzT,T.size]
theorem frzTs_size:(xs:List T) → T.sizes (frzTs xs) = T.sizes xs
 | [] => rfl
 | x :: xs => by simp only [frzTs,T.sizes,frzT_size x,frzTs_size xs]
end
section
variable {G G':Gh} {w:World} {s:Nat} (hhd:∀ s z,G'.hd s z = G.hd s z) (had:∀ s z,G'.ad s z = G.ad s z)
 include hhd had
mutual
theorem Loc_frz:(t:T) → ∀ (p:List Nat) (b o:Nat),(∀ o,G'.lb b o = G.lb b o) → Loc G w s t p b o → Loc G' w s (frzT t) p b o
 | .agg xs,p,b,o,hb,h => by simp only [frzT,Loc,had] at h ⊢;exact ⟨h.1,LocF_frz xs p 0 b o hb h.2⟩
 | .tup _,_,_,_,_,h => by simp only [Loc] at h
 | .sl _ _,p,b,o,hb,h | .ptr _,p,b,o,hb,h | .any,p,b,o,hb,h | .lit _,p,b,o,hb,h | .ro _,p,b,o,hb,h | .same _ _,p,b,o,hb,h | .addr _ _,p,b,o,hb,h | .sub _ _ _ _ _,p,b,o,hb,h => by simp only [frzT,Loc,had,hhd,hb] at h ⊢;exact h
theorem LocF_frz:(xs:List T) → ∀ (p:List Nat) (j b o:Nat),(∀ o,G'.lb b o = G.lb b o) → LocF G w s xs p j b o → LocF G' w s (frzTs xs) p j b o
 | [],_,_,_,_,_,_ => by have _:=hhd;have _:=had;simp only [frzTs,LocF]
 | x :: xs,p,j,b,o,hb,h => by simp only [frzTs,LocF,frzT_size] at h ⊢;exact ⟨Loc_frz x _ b o hb h.1,LocF_frz xs p (j + 1) b _ hb h.2⟩
end
end
section
variable {φ:Nat → List Nat → Prop}
mutual
theorem frzT_allR:(t:T) → AllR φ t → AllR φ (frzT t)
 | .agg xs,h | .tup xs,h => by simp only [frzT,AllR] at h ⊢;exact frzTs_allR xs h
 | .same _ _,h | .addr _ _,h | .sub _ _ _ _ _,h => by simp only [frzT,AllR] at h ⊢;exact h
 | .sl _ _,_ | .ptr _,_ | .any,_ | .lit _,_ | .ro _,_ => by simp only [frzT,AllR]
theorem frzTs_allR:(xs:List T) → AllRs φ xs → AllRs φ (frzTs xs)
 | [],_ => by simp only [frzTs,AllRs]
 | x :: xs,h => by simp only [frzTs,AllRs] at h ⊢;exact ⟨frzT_allR x h.1,frzTs_allR xs h.2⟩
end
end
theorem Ghost.freezeIn {Γ:Ctx} {E:Env} (n:Nat) (s:Nat) (t:T) (hs:E s = some (.ptr t)):Ghost Γ E (E.app [(s,some (.ptr (frzT t)))] [(s,n)]):=by
 classical
 rintro a w ⟨S,hS,hdf,G,hrep⟩
 have hm:=hrep.mem
 let own:Nat → Prop:=fun b => ∃ y,y ≠ [] ∧ G.ow b = some (s,y)
 let Sc:Stb:=fun b => if own b then w.heap[b]? else S b
 let G':Gh:={ hd:=G.hd,ad:=G.ad,lb:=fun b o => if own b then none else G.lb b o,ow:=fun b => if own b then none else G.ow b }
 have hup:∀ b x,S b = some x → Sc b = some x:=fun b x hx => by
  have:¬ own b:=by
   rintro ⟨y,_,hy⟩
   have:=(hm.ow b _ hy).2.2
   rw [show S b = none from this] at hx;cases hx
  simp only [Sc,this,if_false];exact hx
 have hgr:Grow S Sc Γ.W Γ.w0.heap.size:=⟨hup,fun b hb hb' => by
  by_cases h:own b
  ·obtain ⟨y,_,hy⟩:=h
   exact (hm.ow b _ hy).2.1
  ·simp only [Sc,h,if_false] at hb'
   exact absurd hb hb'⟩
 have hmem:Mem ((Γ.at S).at Sc) G' w:=by
  refine ⟨hm.one,fun b o l hl => ?_,fun b l hl => ?_,fun b x hx => ?_,hm.fr,hm.sz,hm.bk⟩
  ·by_cases h:own b
   ·simp only [G',h,if_true] at hl;cases hl
   ·simp only [G',h,if_false] at hl
    have:=hm.lb b o l hl
    exact ⟨this.1,this.2.1,by simp only [Sc,h,if_false];exact this.2.2⟩
  ·by_cases h:own b
   ·simp only [G',h,if_true] at hl;cases hl
   ·simp only [G',h,if_false] at hl
    have:=hm.ow b l hl
    exact ⟨this.1,this.2.1,by simp only [Sc,h,if_false];exact this.2.2⟩
  ·by_cases h:own b
   ·simp only [Sc,h,if_true] at hx;exact hx
   ·simp only [Sc,h,if_false] at hx;exact hm.st b x hx
 have hkeep:Keep [(s,n)] G w G' w:=by
  have hno:∀ b s0 y,G.ow b = some (s0,y) → (∀ m,(s0,m) ∉ ([(s,n)]:Chg)) → ¬ own b:=by
   rintro b s0 y h1 h2 ⟨y',_,h3⟩
   rw [h1] at h3
   simp at h3
   exact h2 n (by simp [h3.1])
  refine ⟨fun _ _ _ => rfl,fun _ _ _ => rfl,fun b o f s0 p ⟨y,hy⟩ h1 h2 => ?_,fun b s0 p h1 h2 => ?_,fun b cs e h => ⟨cs,h,rfl⟩⟩
  ·have:=hno b s0 y hy h2
   refine ⟨?_,rfl⟩
   simp only [G',this,if_false]
   exact h1
  ·have:=hno b s0 p h1 h2
   simp only [G',this,if_false]
   exact h1
 obtain ⟨e1,e2,e3⟩:=hrep.ent s _ hs
 refine ⟨Sc,hS.trans hgr,hdf,G',hrep.up hup rfl hkeep hmem (fun s0 h0 => ⟨fun n hn => ?_,rfl⟩) (fun s0 t0 h0 => ?_)⟩
 ·rw [find_one] at h0
  simp at hn
  simp [hn.1] at h0
 ·rw [find_one] at h0
  split at h0
  ·rename_i he;subst he
   simp at h0;subst h0
   refine ⟨?_,?_,?_⟩
   ·rw [e1]
    simp only [mkV];rfl
   ·simp only [R] at e2 ⊢
    obtain ⟨b,cs,e,h1,h2,h3,h6,h4,h5⟩:=e2
    have hnb:¬ own b:=by
     rintro ⟨y,hy,h⟩
     rw [h6] at h
     simp at h
     exact hy h
    refine ⟨b,cs,e,h1,h2,by rw [frzT_size];exact h3,by simp only [G',hnb,if_false];exact h6,Loc_frz (G:=G) (G':=G') (fun _ _ => rfl) (fun _ _ => rfl) t [0] b 0 (fun o => by simp only [G',hnb,if_false]) h4,?_⟩
    exact R_frzI (G':=G') hm.one hup (fun b y hy hb => by simp only [Sc];rw [if_pos ⟨y,hy,hb⟩]) (fun _ _ => rfl) (fun _ _ => rfl) t [0] (by simp) h5
   ·simp only [Top] at e3 ⊢
    exact frzT_allR t e3
  ·cases h0
theorem Ghost.frzI (n s:Nat) {Γ:Ctx} {E:Env} (t:T) {t':T} (hs:E s = some (.ptr t)) (h:frzT t = t'):Ghost Γ E (E.app [(s,some (.ptr t'))] [(s,n)]):=h ▸ Ghost.freezeIn n s t hs
theorem Ghost.resf {Γ:Ctx} {E:Env} (d:Nat) (g:List Nat) (r:Nat) (q:List Nat) (td tr:T) {u td':T} (hd:E d = some td) (hgd:td.get g.reverse = some (.same r q)) (hr:E r = some tr) (hg:tr.get q.reverse = some (.ro u)) (hset:td.set g.reverse (.ro u) = td')
  (sd:(okTups1 td && td.okB []) = true):Ghost Γ E (E.app [(d,some td')] [(d,g.length + 1)]):=by
 simp only [Bool.and_eq_true] at sd
 subst hset
 rintro a w ⟨S,hS,hdf,G,hrep⟩
 refine ⟨S,hS,hdf,G,?_⟩
 have hk0:Keep [] G w G w:=⟨fun _ _ _ => rfl,fun _ _ _ => rfl,fun _ _ _ _ _ _ h _ => ⟨h,rfl⟩,fun _ _ _ h _ => h,fun b cs e h => ⟨cs,h,rfl⟩⟩
 have hk:Keep [(d,g.length + 1)] G w G w:=⟨fun _ _ _ => rfl,fun _ _ _ => rfl,fun _ _ _ _ _ _ h _ => ⟨h,rfl⟩,fun _ _ _ h _ => h,fun b cs e h => ⟨cs,h,rfl⟩⟩
 obtain ⟨d1,d2,d3⟩:=hrep.ent d _ hd
 obtain ⟨_,r2,_⟩:=hrep.ent r _ hr
 have hrp:rp g.reverse [] = g:=by simp [rp]
 have h4:=(R_get q.reverse tr _ [] r2 hg).1
 have h5:=(R_get g.reverse td _ [] d2 hgd).1
 simp only [rp,List.reverse_reverse,List.append_nil,R] at h4 h5
 refine rep_step hrep rfl hk hrep.mem (fun s hs => ⟨fun n hn => ?_,rfl⟩) fun s t hs => ?_
 ·simp only [Wr.find] at hs
  split at hs
  ·cases hs
  ·rename_i h1
   simp at hn
   exact h1 hn.1.symm
 ·simp only [Wr.find] at hs
  split at hs
  ·rename_i e;subst e
   simp at hs;subst hs
   refine ⟨?_,?_,top_set _ _ _ d3 (by simp [Clean,AllR])⟩
   ·rw [d1,mkV_set (G':=G) (G:=G) g.reverse td (.ro u) _ [] hgd rfl rfl (fun _ _ => rfl) sd.1]
   ·refine R_set g.reverse td (.ro u) _ [] ⟨fun _ _ => rfl,fun _ _ => rfl,fun _ _ _ _ h _ => ⟨h,rfl⟩,fun _ _ h _ => h,fun b cs e h => ⟨cs,h,rfl⟩⟩ d2 hgd rfl (hk0.keepR (okB_all td d3 sd.2)) ?_ ?_
    ·rw [hrp]
     intro b o h
     simpa only [Loc] using h
    ·rw [hrp]
     simp only [R]
     rw [h5];exact h4
  ·cases hs
end Go.Ab

namespace Go.Ab
open Go
end Go.Ab
