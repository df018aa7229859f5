/- x -/
import Derived.Test.YtbemegmelmannaaGreatDoorAbB
import Derived.Test.YtbemegmelmannaaGreatDoorWF
import Derived.Lib.SplitLaws
namespace Go.Pc
abbrev Vec:=List Int
structure Lvl where
 o:Int
 w:Vec
 cs:List Vec
abbrev Pcp:=List Lvl
def zeros (n:Nat):Vec:=List.replicate n 0
def iter {α:Type}:Nat → (α → α) → α → α
 | 0,_,x => x
 | n + 1,f,x => iter n f (f x)
theorem iter_succ {α:Type} (f:α → α):∀ (n:Nat) (x:α),iter (n + 1) f x = f (iter n f x)
 | 0,_ => rfl
 | n + 1,x => by rw [iter,iter_succ f n (f x)];rfl
theorem iter_add {α:Type} (f:α → α) (a:Nat):∀ (b:Nat) (x:α),iter (a + b) f x = iter a f (iter b f x)
 | 0,_ => rfl
 | b + 1,x => by
  show iter (a + b) f (f x) = _
  rw [iter_add f a b (f x)];rfl
def img {α:Type} (m:α → α → α):List α → Vec → α → α
 | c :: cs,x :: xs,acc => img m cs xs (iter x.toNat (fun v => m v c) acc)
 | _,_,acc => acc
def V:Pcp → Vec → Prop
 | [],v => v = []
 | l :: P,v => match v with
  | [] => False
  | a :: x => (0 ≤ a ∧ a < l.o) ∧ V P x
def mul:Pcp → Vec → Vec → Vec
 | l :: P,a :: x,b :: y =>
  let r:=mul P (iter b.toNat (fun v => img (mul P) l.cs v (zeros P.length)) x) y
  if a + b ≥ l.o then (a + b - l.o) :: mul P l.w r else (a + b) :: r
 | _,_,_ => []
def Ok:Pcp → Prop
 | [] => True
 | l :: P => 1 < l.o ∧ V P l.w ∧ l.cs.length = P.length ∧ (∀ c ∈ l.cs,V P c) ∧ Ok P
structure Mon {α:Type} (S:α → Prop) (m:α → α → α) (e:α):Prop where
 cl:∀ {a b},S a → S b → S (m a b)
 ein:S e
 assoc:∀ {a b c},S a → S b → S c → m (m a b) c = m a (m b c)
 onel:∀ {a},S a → m e a = a
 oner:∀ {a},S a → m a e = a
structure Grp {α:Type} (S:α → Prop) (m:α → α → α) (e:α):Prop extends Mon S m e where
 inv:∀ {a},S a → ∃ b,S b ∧ m a b = e
theorem Grp.invl {α:Type} {S:α → Prop} {m:α → α → α} {e:α} (h:Grp S m e) {a:α} (ha:S a):∃ b,S b ∧ m a b = e ∧ m b a = e:=by
 obtain ⟨b,hb,h1⟩:=h.inv ha
 obtain ⟨c,hc,h2⟩:=h.inv hb
 refine ⟨b,hb,h1,?_⟩
 have:a = c:=by
  rw [← h.oner ha,← h2,← h.assoc ha hb hc,h1,h.onel hc]
 grind
theorem Grp.cancel_l {α:Type} {S:α → Prop} {m:α → α → α} {e:α} (h:Grp S m e) {a b c:α} (ha:S a) (hb:S b) (hc:S c) (hh:m a b = m a c):b = c:=by
 obtain ⟨d,hd,_,h2⟩:=h.invl ha
 rw [← h.onel hb,← h.onel hc,← h2,h.assoc hd ha hb,h.assoc hd ha hc,hh]
section
variable {α:Type} {S:α → Prop} {m:α → α → α} {e:α}
def pw (m:α → α → α) (e:α) (x:α) (k:Nat):α:=iter k (fun v => m v x) e
theorem pw_in (h:Mon S m e) {x:α} (hx:S x):∀ k,S (pw m e x k)
 | 0 => h.ein
 | k + 1 => by rw [pw,iter_succ];exact h.cl (pw_in h hx k) hx
theorem iter_in {f:α → α} (hf:∀ a,S a → S (f a)):∀ (k:Nat) {x:α},S x → S (iter k f x)
 | 0,_,hx => hx
 | k + 1,_,hx => iter_in hf k (hf _ hx)
theorem iter_mul (h:Mon S m e) {x a:α} (hx:S x) (ha:S a):∀ k,iter k (fun v => m v x) a = m a (pw m e x k)
 | 0 => (h.oner ha).symm
 | k + 1 => by
  rw [iter_succ,iter_mul h hx ha k]
  show _ = m a (iter (k + 1) (fun v => m v x) e)
  rw [iter_succ]
  exact h.assoc ha (pw_in h hx k) hx
theorem pw_add (h:Mon S m e) {x:α} (hx:S x) (a b:Nat):pw m e x (a + b) = m (pw m e x a) (pw m e x b):=by
 rw [Nat.add_comm,pw,iter_add,← iter_mul h hx (pw_in h hx a) b];rfl
theorem pw_one (h:Mon S m e) {x:α} (hx:S x):pw m e x 1 = x:=h.onel hx
theorem pw_succ' (h:Mon S m e) {x:α} (hx:S x) (k:Nat):pw m e x (k + 1) = m x (pw m e x k):=by
 rw [Nat.add_comm,pw_add h hx 1 k,pw_one h hx]
theorem img_in' (h:∀ {a b},S a → S b → S (m a b)):∀ (cs:List α) (x:Vec) {a:α},(∀ c ∈ cs,S c) → S a → S (img m cs x a)
 | c :: cs,x :: xs,_,hc,ha => by
  simp only [img]
  exact img_in' h cs xs (by grind) (iter_in (by simp_all) _ ha)
 | [],_,_,_,ha => by grind[img]
 | _ :: _,[],_,_,ha => by grind[img]
theorem img_in (h:Mon S m e) (cs:List α) (x:Vec) {a:α} (hc:∀ c ∈ cs,S c) (ha:S a):S (img m cs x a):=img_in' h.cl cs x hc ha
theorem img_acc (h:Mon S m e):∀ (cs:List α) (x:Vec) {a:α},(∀ c ∈ cs,S c) → S a → img m cs x a = m a (img m cs x e)
 | c :: cs,x :: xs,a,hc,ha => by
  have h1:S c:=hc c (by simp)
  have h2:∀ c ∈ cs,S c:=by grind
  simp only [img]
  rw [iter_mul h h1 ha,img_acc h cs xs h2 (h.cl ha (pw_in h h1 _)),iter_mul h h1 h.ein,img_acc h cs xs h2 (h.cl h.ein (pw_in h h1 _)),h.onel (pw_in h h1 _),
   h.assoc ha (pw_in h h1 _) (img_in h cs xs h2 h.ein)]
 | [],_,a,_,ha => by simp [img,h.oner ha]
 | _ :: _,[],a,_,ha => by simp [img,h.oner ha]
theorem img_cons (h:Mon S m e) {c:α} {cs:List α} {x:Int} {xs:Vec} (hc:S c) (hcs:∀ c ∈ cs,S c):img m (c :: cs) (x :: xs) e = m (pw m e c x.toNat) (img m cs xs e):=by
 simp only [img]
 rw [img_acc h cs xs hcs (iter_in (fun a ha => h.cl ha hc) _ h.ein)]
 rfl
theorem img_zeros (m:α → α → α):∀ (cs:List α) (n:Nat) (a:α),img m cs (zeros n) a = a
 | [],_,_ => by simp [img]
 | _ :: _,0,_ => by rfl
 | c :: cs,n + 1,a => by
  simp only [zeros,List.replicate_succ,img,Int.toNat_zero,iter]
  exact img_zeros m cs n a
theorem img_push (h:Mon S m e) {g:α} (hg:S g):∀ (cs ds:List α) (x:Vec),(∀ c ∈ cs,S c) → (∀ c ∈ ds,S c) → cs.length = ds.length → (∀ (k:Nat) c d,cs[k]? = some c → ds[k]? = some d → m c g = m g d) → m (img m cs x e) g = m g (img m ds x e)
 | [],[],x,_,_,_,_ => by simp [img,h.onel hg,h.oner hg]
 | c :: cs,d :: ds,[],_,_,_,_ => by simp [img,h.onel hg,h.oner hg]
 | c :: cs,d :: ds,x :: xs,hc,hd,hl,hp => by
  have hc0:S c:=hc c (by simp)
  have hd0:S d:=hd d (by simp)
  have hcs:∀ c ∈ cs,S c:=by grind
  have hds:∀ c ∈ ds,S c:=by grind
  have key:∀ k,m (pw m e c k) g = m g (pw m e d k):=by
   intro k
   induction k with
   | zero => simp [pw,iter,h.onel hg,h.oner hg]
   | succ k ih =>
    have h0:m c g = m g d:=hp 0 c d rfl rfl
    rw [pw,iter_succ,pw,iter_succ]
    show m (m (pw m e c k) c) g = m g (m (pw m e d k) d)
    rw [h.assoc (pw_in h hc0 k) hc0 hg,h0,← h.assoc (pw_in h hc0 k) hg hd0,ih,h.assoc hg (pw_in h hd0 k) hd0]
  rw [img_cons h hc0 hcs,img_cons h hd0 hds,h.assoc (pw_in h hc0 _) (img_in h _ _ hcs h.ein) hg,img_push h hg cs ds xs hcs hds (by grind) (fun k c d h1 h2 => hp (k + 1) c d (by grind) (by grind)),
   ← h.assoc (pw_in h hc0 _) hg (img_in h _ _ hds h.ein),key,h.assoc hg (pw_in h hd0 _) (img_in h _ _ hds h.ein)]
theorem img_map {β:Type} {T:β → Prop} {n:β → β → β} {f:β} (h:Mon S m e) (h':Mon T n f) (φ:α → β) (hin:∀ a,S a → T (φ a)) (h1:φ e = f) (hm:∀ a b,S a → S b → φ (m a b) = n (φ a) (φ b)):∀ (cs:List α) (x:Vec),(∀ c ∈ cs,S c) → φ (img m cs x e) = img n (cs.map φ) x f
 | [],_,_ => by simp [img,h1]
 | c :: cs,[],_ => by simp [img,h1]
 | c :: cs,x :: xs,hc => by
  have hc0:S c:=hc c (by simp)
  have hcs:∀ c ∈ cs,S c:=by grind
  have key:∀ k,φ (pw m e c k) = pw n f (φ c) k:=by
   intro k
   induction k with
   | zero => grind[pw,iter]
   | succ k ih =>
    grind[pw,iter_succ,pw_in]
  rw [img_cons h hc0 hcs,List.map_cons,img_cons h' (hin c hc0) (by simp_all),hm _ _ (pw_in h hc0 _) (img_in h _ _ hcs h.ein),key,img_map h h' φ hin h1 hm cs xs hcs]
end
theorem V_zeros:∀ {P:Pcp},Ok P → V P (zeros P.length)
 | [],_ => rfl
 | l :: P,h => by
  simp only [Ok] at h
  simp only [List.length_cons,zeros,List.replicate_succ,V]
  exact ⟨by omega,V_zeros h.2.2.2.2⟩
theorem mul_in:∀ {P:Pcp},Ok P → ∀ {x y:Vec},V P x → V P y → V P (mul P x y)
 | [],_,_,_,hx,hy => by rfl
 | l :: P,h,[],_,hx,_ => by grind[V]
 | l :: P,h,_ :: _,[],_,hy => by grind[V]
 | l :: P,h,a :: x,b :: y,hx,hy => by
  simp only [Ok] at h
  simp only [V] at hx hy
  have h1:∀ v,V P v → V P (img (mul P) l.cs v (zeros P.length)):=fun v hv => img_in' (mul_in h.2.2.2.2) l.cs v h.2.2.2.1 (V_zeros h.2.2.2.2)
  have h2:=mul_in h.2.2.2.2 (iter_in h1 b.toNat hx.2) hy.2
  simp only [mul]
  split
  ·exact ⟨by omega,mul_in h.2.2.2.2 h.2.1 h2⟩
  ·exact ⟨by omega,h2⟩
def Rel {α:Type} (m:α → α → α) (e:α):Pcp → List α → Prop
 | [],s => s = []
 | l :: P,s => match s with
  | [] => False
  | g :: s => pw m e g l.o.toNat = img m s l.w e ∧ (∀ (k:Nat) c d,s[k]? = some c → l.cs[k]? = some d → m c g = m g (img m s d e)) ∧ Rel m e P s
section
variable {α:Type} {S:α → Prop} {m:α → α → α} {e:α}
theorem dyck (h:Mon S m e):∀ (P:Pcp) (s:List α),Ok P → (∀ g ∈ s,S g) → Rel m e P s → ∀ x y,V P x → V P y → img m s (mul P x y) e = m (img m s x e) (img m s y e)
 | [],s,_,_,hr,x,y,hx,hy => by
  simp only [Rel] at hr
  subst hr
  simp [img,h.onel h.ein]
 | l :: P,[],_,_,hr,_,_,_,_ => by grind[Rel]
 | l :: P,g :: s,_,_,_,[],_,hx,_ => by grind[V]
 | l :: P,g :: s,_,_,_,_ :: _,[],_,hy => by grind[V]
 | l :: P,g :: s,hk,hs,hr,a :: x,b :: y,hx,hy => by
  simp only [Ok] at hk
  simp only [Rel] at hr
  simp only [V] at hx hy
  obtain ⟨ho,hw,hcl,hcs,hkP⟩:=hk
  obtain ⟨hr1,hr2,hr3⟩:=hr
  have hg:S g:=hs g (by simp)
  have hss:∀ c ∈ s,S c:=by grind
  have hlen:s.length = P.length:=by
   clear hr1 hr2 hx hy hw hcl hcs hs hss
   induction P generalizing s with
   | nil => grind[Rel]
   | cons l P ih =>
    cases s with
    | nil => grind[Rel]
    | cons c s => grind[Rel,Ok]
  have ih:=dyck h P s hkP hss hr3
  have hφ:∀ v,S (img m s v e):=fun v => img_in h s v hss h.ein
  have hmP:∀ {a b},V P a → V P b → V P (mul P a b):=mul_in hkP
  have hσin:∀ v,V P v → V P (img (mul P) l.cs v (zeros P.length)):=fun v hv => img_in' hmP l.cs v hcs (V_zeros hkP)
  have hσ:∀ v,V P v → m (img m s v e) g = m g (img m s (img (mul P) l.cs v (zeros P.length)) e):=by
   intro v hv
   have key:∀ (cs:List Vec) (v:Vec) (acc:Vec),(∀ c ∈ cs,V P c) → V P acc → img m s (img (mul P) cs v acc) e = img m (cs.map fun c => img m s c e) v (img m s acc e):=by
    intro cs
    induction cs with
    | nil => grind[img]
    | cons c cs ihc =>
     intro v acc hc hacc
     cases v with
     | nil => simp [img]
     | cons z v =>
      have hc0:V P c:=hc c (by simp)
      have it:∀ k acc,V P acc → img m s (iter k (fun v => mul P v c) acc) e = iter k (fun v => m v (img m s c e)) (img m s acc e):=by
       intro k
       induction k with
       | zero => intro acc _;rfl
       | succ k ihk =>
        simp_all[iter]
      simp only [img,List.map_cons]
      rw [ihc v _ (by simp_all) (iter_in (by grind) _ hacc),it _ _ hacc]
   rw [key l.cs v (zeros P.length) hcs (V_zeros hkP),img_zeros]
   refine img_push h hg s _ v hss (by simp_all) (by grind) ?_
   intro k c d hc hd
   simp only [List.getElem?_map,Option.map_eq_some_iff] at hd
   obtain ⟨d',hd',rfl⟩:=hd
   grind
  have hσk:∀ k v,V P v → m (img m s v e) (pw m e g k) = m (pw m e g k) (img m s (iter k (fun v => img (mul P) l.cs v (zeros P.length)) v) e):=by
   intro k
   induction k with
   | zero => intro v _;simp [pw,iter,h.onel (hφ v),h.oner (hφ v)]
   | succ k ihk =>
    intro v hv
    rw [pw_succ' h hg,← h.assoc (hφ v) hg (pw_in h hg k),hσ v hv,h.assoc hg (hφ _) (pw_in h hg k),ihk _ (hσin v hv),← h.assoc hg (pw_in h hg k) (hφ _)]
    rfl
  have hpa:=pw_in h hg a.toNat
  have hpb:=pw_in h hg b.toNat
  have hit:V P (iter b.toNat (fun v => img (mul P) l.cs v (zeros P.length)) x):=iter_in hσin _ hx.2
  have hmain:m (img m (g :: s) (a :: x) e) (img m (g :: s) (b :: y) e) = m (pw m e g (a.toNat + b.toNat)) (img m s (mul P (iter b.toNat (fun v => img (mul P) l.cs v (zeros P.length)) x) y) e):=by
   rw [img_cons h hg hss,img_cons h hg hss,h.assoc hpa (hφ x) (h.cl hpb (hφ y)),← h.assoc (hφ x) hpb (hφ y),hσk _ _ hx.2,h.assoc hpb (hφ _) (hφ y),← ih _ _ hit hy.2,← h.assoc hpa hpb (hφ _),pw_add h hg]
  rw [hmain]
  simp only [mul]
  split
  ·rename_i hge
   rw [img_cons h hg hss,ih _ _ hw (hmP hit hy.2),← hr1,← h.assoc (pw_in h hg _) (pw_in h hg _) (hφ _),← pw_add h hg]
   congr 2
   omega
  ·rw [img_cons h hg hss]
   congr 2
   omega
end
def unit (n j:Nat):Vec:=(zeros n).set j 1
def sig (P:Pcp) (l:Lvl) (v:Vec):Vec:=img (mul P) l.cs v (zeros P.length)
def Cons:Pcp → Prop
 | [] => True
 | l :: P => Cons P ∧ Rel (mul P) (zeros P.length) P l.cs ∧ sig P l l.w = l.w ∧ ∀ j,j < P.length → mul P l.w (iter l.o.toNat (sig P l) (unit P.length j)) = mul P (unit P.length j) l.w
theorem unit_zero (n:Nat):unit (n + 1) 0 = 1 :: zeros n:=rfl
theorem unit_succ (n j:Nat):unit (n + 1) (j + 1) = 0 :: unit n j:=rfl
def units (n:Nat):List Vec:=(List.range n).map (unit n)
theorem units_succ (n:Nat):units (n + 1) = (1 :: zeros n) :: (units n).map (0 :: ·):=by
 simp only [units,List.range_succ_eq_map,List.map_cons,List.map_map,unit_zero]
 congr 1
theorem V_unit:∀ {P:Pcp},Ok P → ∀ {j:Nat},j < P.length → V P (unit P.length j)
 | [],_,_,hj => by simp at hj
 | l :: P,h,0,_ => by
  grind[Ok,unit_zero,V,V_zeros]
 | l :: P,h,j + 1,hj => by
  simp only [Ok] at h
  rw [List.length_cons,unit_succ];simp only [V];exact ⟨by omega,V_unit h.2.2.2.2 (by grind)⟩
theorem sig_in {l:Lvl} {P:Pcp} (h:Ok (l :: P)) {v:Vec} (_hv:V P v):V P (sig P l v):=by
 simp only [Ok] at h
 exact img_in' (mul_in h.2.2.2.2) l.cs v h.2.2.2.1 (V_zeros h.2.2.2.2)
theorem mul_cons (l:Lvl) (P:Pcp) (a b:Int) (x y:Vec):mul (l :: P) (a :: x) (b :: y) = if a + b ≥ l.o then (a + b - l.o) :: mul P l.w (mul P (iter b.toNat (sig P l) x) y) else (a + b) :: mul P (iter b.toNat (sig P l) x) y:=rfl
theorem units_get {n k:Nat} {c:Vec} (h:(units n)[k]? = some c):k < n ∧ c = unit n k:=by
 simp only [units,List.getElem?_map,Option.map_eq_some_iff] at h
 grind
theorem normal:∀ (P:Pcp),Ok P → (∀ Q,Q <:+ P → Mon (V Q) (mul Q) (zeros Q.length)) → ∀ x,V P x → img (mul P) (units P.length) x (zeros P.length) = x
 | [],_,_,x,hx => by grind[V,img,zeros]
 | l :: P,_,_,[],hx => by grind[V]
 | l :: P,h,hM,a :: x,hx => by
  have hMl:=hM (l :: P) (List.suffix_refl _)
  have hMP:=hM P (by simp)
  have h':=h
  simp only [Ok] at h
  simp only [V] at hx
  rw [List.length_cons,units_succ]
  have hz:V P (zeros P.length):=V_zeros h.2.2.2.2
  have hu0:V (l :: P) (1 :: zeros P.length):=by grind[V]
  have hus:∀ c ∈ (units P.length).map (0 :: ·),V (l :: P) c:=by
   intro c hc
   simp only [units,List.map_map,List.mem_map,List.mem_range] at hc
   obtain ⟨j,hj,rfl⟩:=hc
   simp only [Function.comp,V]
   grind[V_unit]
  have hzl:V (l :: P) (zeros (P.length + 1)):=by grind[V_zeros]
  rw [show zeros (P.length + 1) = zeros (l :: P).length from rfl]
  rw [img_cons hMl hu0 hus]
  have sz:∀ k:Nat,iter k (sig P l) (zeros P.length) = zeros P.length:=by
   intro k
   induction k with
   | zero => rfl
   | succ k ih => grind[iter,sig,img_zeros]
  have h1:∀ k:Nat,(k:Int) < l.o → pw (mul (l :: P)) (zeros (l :: P).length) (1 :: zeros P.length) k = (k:Int) :: zeros P.length:=by
   intro k
   induction k with
   | zero => intro _;rfl
   | succ k ih =>
    intro hk
    rw [pw,iter_succ]
    show mul (l :: P) (pw (mul (l :: P)) (zeros (l :: P).length) (1 :: zeros P.length) k) (1 :: zeros P.length) = _
    rw [ih (by omega),mul_cons,if_neg (by omega)]
    rw [sz,hMP.onel hz]
    rfl
  have h2:∀ (cs:List Vec) (y acc:Vec),(∀ c ∈ cs,V P c) → V P acc → img (mul (l :: P)) (cs.map (0 :: ·)) y (0 :: acc) = 0 :: img (mul P) cs y acc:=by
   intro cs
   induction cs with
   | nil => grind[img]
   | cons c cs ih =>
    intro y acc hc hacc
    cases y with
    | nil => simp [img]
    | cons z y =>
     have hc0:V P c:=hc c (by simp)
     have it:∀ (k:Nat) (acc:Vec),V P acc → iter k (fun v => mul (l :: P) v (0 :: c)) (0 :: acc) = 0 :: iter k (fun v => mul P v c) acc:=by
      intro k
      induction k with
      | zero => intro _ _;rfl
      | succ k ihk =>
       intro acc hacc
       simp only [iter]
       rw [mul_cons,if_neg (by omega)]
       exact ihk _ (mul_in h.2.2.2.2 hacc hc0)
     simp only [List.map_cons,img]
     rw [it _ _ hacc,ih _ _ (by grind) (iter_in (by grind[mul_in]) _ hacc)]
  have hun:∀ c ∈ units P.length,V P c:=by
   intro c hc
   simp only [units,List.mem_map,List.mem_range] at hc
   obtain ⟨j,hj,rfl⟩:=hc
   grind[V_unit]
  rw [h1 a.toNat (by omega),show zeros (l :: P).length = 0 :: zeros P.length from rfl,h2 _ _ _ hun hz,normal P h.2.2.2.2 (by grind) x hx.2,mul_cons,if_neg (by omega)]
  simp only [Int.toNat_zero,iter]
  rw [hMP.onel hx.2]
  grind
theorem group:∀ (P:Pcp),Ok P → Cons P → Grp (V P) (mul P) (zeros P.length)
 | [],_,_ => by
  refine ⟨⟨fun _ _ => rfl,rfl,fun _ _ _ => rfl,?_,?_⟩,fun ha => ⟨[],rfl,rfl⟩⟩ <;>
  ·intro a ha
   simp only [V] at ha;subst ha;rfl
 | l :: P,h,hc => by
  have h':=h
  simp only [Ok] at h
  simp only [Cons] at hc
  obtain ⟨ho,hw,hcl,hcs,hP⟩:=h
  obtain ⟨hcP,hrel,hfix,hinn⟩:=hc
  have N:=group P hP hcP
  have hM:∀ Q,Q <:+ P → Mon (V Q) (mul Q) (zeros Q.length):=by
   intro Q hQ
   obtain ⟨t,ht⟩:=hQ
   have:Ok Q ∧ Cons Q:=by
    clear N hw hcl hcs hrel hfix hinn h'
    induction t generalizing P with
    | nil => grind
    | cons a t ih =>
     simp at ht;subst ht
     simp only [Ok] at hP
     simp only [Cons] at hcP
     grind
   have hlt:SizeOf.sizeOf Q ≤ SizeOf.sizeOf P:=by
    rw [← ht]
    clear N hw hcl hcs hrel hfix hinn h' hP hcP ht this
    induction t with
    | nil => simp
    | cons a t ih => grind
   exact (group Q this.1 this.2).toMon
  have hz:V P (zeros P.length):=V_zeros hP
  have σin:∀ v,V P v → V P (sig P l v):=by grind[sig_in]
  have σhom:∀ x y,V P x → V P y → sig P l (mul P x y) = mul P (sig P l x) (sig P l y):=fun x y hx hy => dyck N.toMon P l.cs hP hcs hrel x y hx hy
  have σz:sig P l (zeros P.length) = zeros P.length:=img_zeros _ _ _ _
  have itin:∀ (k:Nat) v,V P v → V P (iter k (sig P l) v):=fun k v hv => iter_in σin k hv
  have ithom:∀ (k:Nat) x y,V P x → V P y → iter k (sig P l) (mul P x y) = mul P (iter k (sig P l) x) (iter k (sig P l) y):=by
   intro k
   induction k with
   | zero => intro _ _ _ _;rfl
   | succ k ih => simp_all[iter]
  have itz:∀ k:Nat,iter k (sig P l) (zeros P.length) = zeros P.length:=by
   intro k
   induction k with
   | zero => rfl
   | succ k ih => grind[iter]
  have itw:∀ k:Nat,iter k (sig P l) l.w = l.w:=by
   intro k
   induction k with
   | zero => rfl
   | succ k ih => grind[iter]
  have hun:∀ c ∈ units P.length,V P c:=by
   intro c hc
   simp only [units,List.mem_map,List.mem_range] at hc
   obtain ⟨j,hj,rfl⟩:=hc
   grind[V_unit]
  have inner:∀ x,V P x → mul P x l.w = mul P l.w (iter l.o.toNat (sig P l) x):=by
   intro x hx
   have hnf:=normal P hP hM x hx
   have hmap:=img_map N.toMon N.toMon (iter l.o.toNat (sig P l)) (by grind) (itz _) (by grind) (units P.length) x hun
   rw [← hnf,hmap]
   refine img_push N.toMon hw _ _ x hun (by simp_all) (by simp) ?_
   intro k c d hc hd
   rw [List.getElem?_map,Option.map_eq_some_iff] at hd
   obtain ⟨c',hc',rfl⟩:=hd
   rw [hc] at hc'
   simp at hc';subst hc'
   obtain ⟨hk,rfl⟩:=units_get hc
   grind
  have e:∀ (x y z:Vec) (b c:Int),V P x → V P y → V P z → 0 ≤ b → 0 ≤ c →
    mul P (iter c.toNat (sig P l) (mul P (iter b.toNat (sig P l) x) y)) z = mul P (iter (b + c).toNat (sig P l) x) (mul P (iter c.toNat (sig P l) y) z) ∧
    mul P (iter c.toNat (sig P l) (mul P l.w (mul P (iter b.toNat (sig P l) x) y))) z = mul P l.w (mul P (iter (b + c).toNat (sig P l) x) (mul P (iter c.toNat (sig P l) y) z)) ∧
    (l.o ≤ b + c → mul P (iter (b + c - l.o).toNat (sig P l) x) (mul P l.w (mul P (iter c.toNat (sig P l) y) z)) = mul P l.w (mul P (iter (b + c).toNat (sig P l) x) (mul P (iter c.toNat (sig P l) y) z))):=by
   intro x y z b c hx hy hz hb hcc
   have hbx:=itin b.toNat x hx
   have hcy:=itin c.toNat y hy
   have hbc:iter c.toNat (sig P l) (iter b.toNat (sig P l) x) = iter (b + c).toNat (sig P l) x:=by
    rw [← iter_add];congr 1;omega
   have hbcx:=itin (b + c).toNat x hx
   have e1:mul P (iter c.toNat (sig P l) (mul P (iter b.toNat (sig P l) x) y)) z = mul P (iter (b + c).toNat (sig P l) x) (mul P (iter c.toNat (sig P l) y) z):=by
    rw [ithom _ _ _ hbx hy,hbc,N.assoc hbcx hcy hz]
   refine ⟨e1,?_,?_⟩
   ·rw [ithom _ _ _ hw (N.cl hbx hy),itw,N.assoc hw (itin _ _ (N.cl hbx hy)) hz,e1]
   ·intro hge
    have hcyz:=N.cl hcy hz
    rw [← N.assoc (itin _ x hx) hw hcyz,inner _ (itin _ x hx),← iter_add,N.assoc hw (itin _ x hx) hcyz]
    congr 3
    omega
  refine ⟨⟨by grind[mul_in],V_zeros h',?_,?_,?_⟩,?_⟩
  ·intro A B C hA hB hC
   match A,B,C,hA,hB,hC with
   | a :: x,b :: y,c :: z,hA,hB,hC =>
    simp only [V] at hA hB hC
    obtain ⟨e1,e2,e3⟩:=e x y z b c hA.2 hB.2 hC.2 hB.1.1 hC.1.1
    by_cases c1:a + b ≥ l.o <;> by_cases c2:b + c ≥ l.o
    ·rw [mul_cons,if_pos c1,mul_cons l P b c,if_pos c2,mul_cons,mul_cons,e2,e3 c2]
     grind
    ·rw [mul_cons,if_pos c1,mul_cons l P b c,if_neg c2,mul_cons,mul_cons,e2,if_neg (by omega),if_pos (by omega)]
     grind
    ·rw [mul_cons,if_neg c1,mul_cons l P b c,if_pos c2,mul_cons,mul_cons,e1,e3 c2,if_pos (by omega),if_neg (by omega)]
     grind
    ·rw [mul_cons,if_neg c1,mul_cons l P b c,if_neg c2,mul_cons,mul_cons,e1]
     grind
  ·intro A hA
   match A,hA with
   | a :: x,hA =>
    simp only [V] at hA
    show mul (l :: P) (0 :: zeros P.length) (a :: x) = _
    rw [mul_cons,if_neg (by omega),itz,N.onel hA.2,Int.zero_add]
  ·intro A hA
   match A,hA with
   | a :: x,hA =>
    simp only [V] at hA
    show mul (l :: P) (a :: x) (0 :: zeros P.length) = _
    rw [mul_cons,if_neg (by omega)]
    simp only [Int.toNat_zero,iter]
    rw [N.oner hA.2,Int.add_zero]
  ·intro A hA
   match A,hA with
   | a :: x,hA =>
    simp only [V] at hA
    by_cases ha:a = 0
    ·obtain ⟨y,hy,h1⟩:=N.inv hA.2
     refine ⟨0 :: y,by simp only [V];grind,?_⟩
     rw [mul_cons,if_neg (by omega)]
     simp only [Int.toNat_zero,iter]
     rw [h1,ha];rfl
    ·have hx1:=itin (l.o - a).toNat x hA.2
     obtain ⟨y,hy,h1⟩:=N.inv (N.cl hw hx1)
     refine ⟨(l.o - a) :: y,by simp only [V];grind,?_⟩
     rw [mul_cons,if_pos (by omega),← N.assoc hw hx1 hy,h1,show a + (l.o - a) - l.o = 0 by omega]
     rfl
termination_by P => P
end Go.Pc

namespace Go.Pl
open Go Go.Ab
end Go.Pl

namespace Go.Wk
open Go Go.Ab Go.Pl
end Go.Wk
namespace Go.Pl
open Go Go.Ab Go.Wk
end Go.Pl

namespace Go.Pl
open Go Go.Ab
theorem bs {α β:Type} (x:α) (f:α → Option β):(some x).bind f = f x:=by simp only [Option.bind_some]
theorem cnd_t {α:Type} (x y:α):cond true x y = x:=by simp only [cond_true]
theorem cnd_f {α:Type} (x y:α):cond false x y = y:=by simp only [cond_false]
theorem rng_of {n:Int} (h1:-9223372036854775808 ≤ n) (h2:n ≤ 9223372036854775807):rng n = some n:=by
 unfold rng
 rw [if_pos]
 simp only [inR,Bool.and_eq_true,decide_eq_true_eq]
 omega
theorem ixO_nat {α:Type} (xs:List α) (i:Nat):ixO xs (i:Int) = xs[i]?:=by
 unfold ixO;rw [if_pos (by omega)];simp
theorem ixO_get {α:Type} {xs:List α} {i:Nat} (h:i < xs.length):ixO xs (i:Int) = some xs[i]:=by
 rw [ixO_nat];exact List.getElem?_eq_getElem h
theorem lenOk_nat {n:Nat} (h:n ≤ 68719476736):lenOk (n:Int) = some n:=by
 unfold lenOk;rw [if_pos (by omega)];simp
theorem appO_of {α:Type} {xs ys:List α} (h:xs.length + ys.length ≤ 68719476736):appO xs ys = some (xs ++ ys):=by
 unfold appO;rw [if_pos h]
theorem loopO_seq {σ ρ:Type} {body:σ → Option (σ ⊕ ρ)} {r:ρ} (S:Nat → σ) (n:Nat) (h:∀ i,i < n → body (S i) = some (.inl (S (i + 1)))) (he:body (S n) = some (.inr r)):loopO body (S 0) = some r:=by
 have key:∀ k i,i + k = n → loopO body (S i) = some r:=by
  intro k
  induction k with
  | zero => intro i hi;rw [loopO_eq,show i = n from by omega,he]
  | succ k ih => intro i hi;rw [loopO_eq,h i (by omega)];exact ih (i + 1) (by omega)
 exact key n 0 (by omega)
theorem loopO_tot {σ ρ:Type} {body:σ → Option (σ ⊕ ρ)} {Q:ρ → Prop} (I:Nat → σ → Prop) (n:Nat) (h:∀ i s,i < n → I i s → (∃ s',body s = some (.inl s') ∧ I (i + 1) s') ∨ ∃ r,body s = some (.inr r) ∧ Q r)
  (he:∀ s,I n s → ∃ r,body s = some (.inr r) ∧ Q r) {s:σ} (h0:I 0 s):∃ r,loopO body s = some r ∧ Q r:=by
 have key:∀ k i s,i + k = n → I i s → ∃ r,loopO body s = some r ∧ Q r:=by
  intro k
  induction k with
  | zero =>
   intro i s hi hs
   obtain rfl:i = n:=by omega
   obtain ⟨r,h1,h2⟩:=he s hs
   exact ⟨r,by rw [loopO_eq,h1],h2⟩
  | succ k ih =>
   intro i s hi hs
   rcases h i s (by omega) hs with ⟨s',h1,h2⟩ | ⟨r,h1,h2⟩
   ·rw [loopO_eq,h1];exact ih (i + 1) s' (by omega) h2
   ·exact ⟨r,by rw [loopO_eq,h1],h2⟩
 exact key n 0 s (by omega) h0
def exitO {ρ:Type}:Option ρ → Unit ⊕ ρ
 | none => .inl ()
 | some r => .inr r
theorem cs (i:Nat):(i:Int) + 1 = ((i + 1:Nat):Int):=by omega
theorem loopO_chk {ρ:Type} {body:Int → Option (Int ⊕ (Unit ⊕ ρ))} (n:Nat) (t:Nat → Option ρ) (i0:Nat) (hn:i0 ≤ n)
  (h:∀ i,i0 ≤ i → i < n → (∀ j,i0 ≤ j → j < i → t j = none) → body (i:Int) = some (match t i with | none => .inl ((i + 1:Nat):Int) | some r => .inr (.inr r)))
  (he:(∀ j,i0 ≤ j → j < n → t j = none) → body (n:Int) = some (.inr (.inl ()))) :
  loopO body (i0:Int) = some (exitO ((List.range' i0 (n - i0)).findSome? t)):=by
 have key:∀ k i,i0 ≤ i → i + k = n → (∀ j,i0 ≤ j → j < i → t j = none) → loopO body (i:Int) = some (exitO ((List.range' i k).findSome? t)):=by
  intro k
  induction k with
  | zero =>
   intro i hi hk hp
   obtain rfl:i = n:=by omega
   rw [loopO_eq,he hp];rfl
  | succ k ih =>
   intro i hi hk hp
   rw [loopO_eq,h i hi (by omega) hp,List.range'_succ,List.findSome?_cons]
   cases ht:t i with
   | some r => rfl
   | none =>
    simp only
    exact ih (i + 1) (by omega) (by omega) fun j h1 h2 => by
     rcases Nat.lt_or_ge j i with h3 | h3
     ·exact hp j h1 h3
     ·rw [show j = i from by omega];exact ht
 exact key (n - i0) i0 (Nat.le_refl _) (by omega) fun j h1 h2 => by omega
theorem find_all {n:Nat} {b:Nat → Bool}:exitO ((List.range' 0 n).findSome? (fun i => if b i then none else some false)) = if (List.range n).all b then .inl () else .inr false:=by
 have key:∀ l:List Nat,exitO (l.findSome? (fun i => if b i then none else some false)) = if l.all b then .inl () else .inr false:=by
  intro l
  induction l with
  | nil => rfl
  | cons x l ih =>
   rw [List.findSome?_cons,List.all_cons]
   cases hb:b x
   ·rfl
   ·simpa using ih
 rw [key,List.range_eq_range']
theorem loopO_all {body:Int → Option (Int ⊕ (Unit ⊕ Bool))} (n:Nat) (b:Nat → Bool)
  (h:∀ i,i < n → (∀ j,j < i → b j = true) → body (i:Int) = some (if b i then .inl ((i + 1:Nat):Int) else .inr (.inr false)))
  (he:(∀ j,j < n → b j = true) → body (n:Int) = some (.inr (.inl ()))) :
  loopO body 0 = some (if (List.range n).all b then .inl () else .inr false):=by
 have:=loopO_chk (body:=body) n (fun i => if b i then none else some false) 0 (Nat.zero_le _) (fun i _ hi hp => by
  rw [h i hi fun j hj => by
   have:=hp j (Nat.zero_le _) hj
   split at this
   ·assumption
   ·cases this]
  cases b i <;> rfl) (fun hp => he fun j hj => by
   have:=hp j (Nat.zero_le _) hj
   split at this
   ·assumption
   ·cases this)
 rw [Nat.sub_zero] at this
 exact this.trans (congrArg some (find_all (n:=n) (b:=b)))
theorem fill_set {α:Type} {xs:List α} {z:α} {i:Nat} (h:i < xs.length):(xs.take i ++ List.replicate (xs.length - i) z).set i xs[i] = xs.take (i + 1) ++ List.replicate (xs.length - (i + 1)) z:=by
 have h1:(xs.take i).length = i:=by rw [List.length_take];omega
 rw [List.set_append_right _ _ (by omega),h1,Nat.sub_self,show xs.length - i = (xs.length - (i + 1)) + 1 from by omega,List.replicate_succ,List.set_cons_zero,List.take_succ_eq_append_getElem h]
 simp only [List.append_assoc,List.singleton_append]
theorem to_loop {α:Type} {f:α → Option α} {body:List α × Int → Option ((List α × Int) ⊕ List α)} {x0:List α} {z:α}
  (hb:∀ s,body s = cond (decide (s.2 < (x0.length:Int))) ((ixO x0 s.2).bind fun v2 => (f v2).bind fun r3 => (ixO s.1 s.2).bind fun _ => (rng (s.2 + 1)).bind fun v5 => some (.inl (s.1.set s.2.toNat r3,v5))) (some (.inr s.1)))
  (hl:x0.length ≤ 68719476736) (hf:∀ x ∈ x0,f x = some x):loopO body (List.replicate x0.length z,0) = some x0:=by
 have:=loopO_seq (body:=body) (r:=x0) (fun i => (x0.take i ++ List.replicate (x0.length - i) z,(i:Int))) x0.length (fun i hi => by
  rw [hb]
  simp only [decide_eq_true (show ((i:Int)) < (x0.length:Int) from by omega),cnd_t]
  rw [ixO_get hi,ixO_nat]
  simp only [bs,hf _ (List.getElem_mem hi)]
  rw [List.getElem?_eq_getElem (by simp;omega),bs,rng_of (by omega) (by omega),bs]
  simp only [Int.toNat_natCast,fill_set hi,cs]) (by
  rw [hb]
  simp only [decide_eq_false (show ¬ ((x0.length:Int)) < (x0.length:Int) from by omega),cnd_f,List.take_length,Nat.sub_self,List.replicate_zero,List.append_nil])
 simpa using this
theorem eq_loop {α:Type} [BEq α] {t:α → α → Option Bool} {body:Int → Option (Int ⊕ (Unit ⊕ Bool))} {x y:List α}
  (hb:∀ i,body i = cond (decide (i < (x.length:Int))) ((ixO x i).bind fun v1 => (ixO y i).bind fun v2 => (t v1 v2).bind fun r3 => cond (!r3) (some (.inr (.inr false))) ((rng (i + 1)).bind fun v4 => some (.inl v4))) (some (.inr (.inl ()))))
  (hl:x.length ≤ 68719476736) (hxy:x.length = y.length) (ht:∀ u ∈ x,∀ v ∈ y,t u v = some (u == v)):loopO body 0 = some (if x == y then .inl () else .inr false):=by
 have h:=loopO_all (body:=body) x.length (fun i => match x[i]?,y[i]? with | some u,some v => u == v | _,_ => true) (fun i hi _ => by
  have hi':i < y.length:=by omega
  rw [hb]
  simp only [decide_eq_true (show ((i:Int)) < (x.length:Int) from by omega),cnd_t]
  rw [ixO_get hi,ixO_get hi']
  simp only [bs,ht _ (List.getElem_mem hi) _ (List.getElem_mem hi'),List.getElem?_eq_getElem hi,List.getElem?_eq_getElem hi']
  cases x[i] == y[i]
  ·rfl
  ·simp only [Bool.not_true,cnd_f,if_true]
   rw [rng_of (by omega) (by omega),cs];rfl) (fun _ => by
  rw [hb]
  simp only [decide_eq_false (show ¬ ((x.length:Int)) < (x.length:Int) from by omega),cnd_f])
 rw [h]
 congr 2
 have key:∀ (x y:List α),x.length = y.length → ((List.range x.length).all (fun i => match x[i]?,y[i]? with | some u,some v => u == v | _,_ => true)) = (x == y):=by
  intro x
  induction x with
  | nil => intro y hy;cases y with | nil => rfl | cons _ _ => simp at hy
  | cons u x ih =>
   intro y hy
   cases y with
   | nil => simp at hy
   | cons v y =>
    rw [List.length_cons,List.range_succ_eq_map,List.all_cons,List.all_map]
    simp only [List.getElem?_cons_zero,Function.comp_def,List.getElem?_cons_succ]
    rw [ih y (by simpa using hy)]
    rfl
 rw [key x y hxy]
theorem eq_fn {α:Type} [BEq α] {t:α → α → Option Bool} {f:Option Bool} {body:Int → Option (Int ⊕ (Unit ⊕ Bool))} {x y:List α}
  (hf:f = cond ((x.length:Int) != (y.length:Int)) (some false) ((loopO body 0).bind fun r => match r with | .inl _ => some true | .inr r => some r))
  (hb:∀ i,body i = cond (decide (i < (x.length:Int))) ((ixO x i).bind fun v1 => (ixO y i).bind fun v2 => (t v1 v2).bind fun r3 => cond (!r3) (some (.inr (.inr false))) ((rng (i + 1)).bind fun v4 => some (.inl v4))) (some (.inr (.inl ()))))
  (hl:x.length ≤ 68719476736) (ht:∀ u ∈ x,∀ v ∈ y,t u v = some (u == v)):f = some (x == y):=by
 rw [hf]
 by_cases hxy:x.length = y.length
 ·rw [eq_loop hb hl hxy ht]
  have:((x.length:Int) != (y.length:Int)) = false:=by simp [hxy]
  rw [this]
  cases x == y <;> rfl
 ·have:((x.length:Int) != (y.length:Int)) = true:=by simp;omega
  rw [this]
  have h2:(x == y) = false:=by
   have key:∀ (x y:List α),x.length ≠ y.length → (x == y) = false:=by
    intro x
    induction x with
    | nil => intro y hy;cases y with | nil => simp at hy | cons _ _ => rfl
    | cons u x ih =>
     intro y hy
     cases y with
     | nil => rfl
     | cons v y =>
      show (u == v && x == y) = false
      rw [ih y (by simpa using hy),Bool.and_false]
   exact key x y hxy
  rw [h2];rfl
end Go.Pl

namespace Go.Pl
open Go Go.Ab
def sm {α:Type} (c:α → Nat):List α → Nat
 | [] => 0
 | x :: xs => c x + sm c xs
theorem sm_append {α:Type} (c:α → Nat):∀ xs ys:List α,sm c (xs ++ ys) = sm c xs + sm c ys
 | [],ys => by simp [sm]
 | x :: xs,ys => by simp only [List.cons_append,sm,sm_append c xs ys];omega
theorem sm_take {α:Type} (c:α → Nat) {xs:List α} {i:Nat} (h:i < xs.length):sm c (xs.take (i + 1)) = sm c (xs.take i) + c xs[i]:=by
 grind[List.take_succ_eq_append_getElem,sm_append,sm]
theorem sm_take_le {α:Type} (c:α → Nat) (xs:List α) (i:Nat):sm c (xs.take i) ≤ sm c xs:=by
 grind[sm_append,List.take_append_drop]
theorem sm_mem {α:Type} (c:α → Nat) {xs:List α} {x:α} (h:x ∈ xs):c x ≤ sm c xs:=by
 obtain ⟨i,hi,rfl⟩:=List.mem_iff_getElem.1 h
 have:=sm_take c hi
 grind[sm_take_le]
def szR (c:Nat) (b:Int):Int:=if (c:Int) ≤ b then b - c else -1
theorem sz_fn {α:Type} {c:α → Nat} {t:α → Int → Option Int} {f:Option Int} {body:Int × Int → Option ((Int × Int) ⊕ (Int ⊕ Int))} {xs:List α} {b:Int}
  (hf:f = (rng (b - (xs.length:Int))).bind fun v1 => cond (decide (v1 < 0)) (some (-1)) ((loopO body (v1,0)).bind fun r => match r with | .inl r => some r | .inr r => some r))
  (hb:∀ s,body s = cond (decide (s.2 < (xs.length:Int))) ((ixO xs s.2).bind fun v2 => (t v2 s.1).bind fun r3 => cond (decide (r3 < 0)) (some (.inr (.inr (-1)))) ((rng (s.2 + 1)).bind fun v4 => some (.inl (r3,v4)))) (some (.inr (.inl s.1))))
  (hl:xs.length ≤ 9223372036854775807) (b0:0 ≤ b) (b1:b ≤ 1048576) (ht:∀ x ∈ xs,∀ b',0 ≤ b' → b' ≤ 1048576 → t x b' = some (szR (c x) b')):f = some (szR (xs.length + sm c xs) b):=by
 rw [hf,rng_of (by omega) (by omega),bs]
 by_cases h0:b - (xs.length:Int) < 0
 ·rw [decide_eq_true h0,cnd_t,szR,if_neg (by omega)]
 ·rw [decide_eq_false h0,cnd_f]
  obtain ⟨r,h1,h2⟩:=loopO_tot (body:=body) (Q:=fun r => (match r with | .inl r => some r | .inr r => some r) = some (szR (xs.length + sm c xs) b)) (fun i s => s.2 = (i:Int) ∧ 0 ≤ s.1 ∧ s.1 = b - xs.length - sm c (xs.take i)) xs.length (fun i s hi ⟨e1,e2,e3⟩ => by
   rw [hb,e1,decide_eq_true (by omega),cnd_t,ixO_get hi,bs,ht _ (List.getElem_mem hi) _ e2 (by omega),bs]
   have h3:=sm_take c hi
   have h4:=sm_take_le c xs (i + 1)
   unfold szR
   by_cases h5:(c xs[i]:Int) ≤ s.1
   ·rw [if_pos h5,decide_eq_false (by omega),cnd_f,rng_of (by omega) (by omega),bs,cs]
    grind
   grind) (fun s ⟨e1,e2,e3⟩ => by
   rw [hb,e1,decide_eq_false (by omega),cnd_f]
   rw [List.take_length] at e3
   refine ⟨_,rfl,?_⟩
   simp only
   rw [szR,if_pos (by omega),e3]
   grind) (s:=(b - (xs.length:Int),0)) ⟨rfl,by omega,by simp [sm]⟩
  grind
end Go.Pl

namespace Go.Pl
open Go Go.Ab Go.Wk
abbrev VI (n:Int):Prop:=(Lit.int .i64 n).wf = true
abbrev VL {α:Type} (V:α → Prop) (xs:List α):Prop:=xs.length ≤ maxLen ∧ ∀ x ∈ xs,V x
theorem sz_case {c:Nat} {b:Int} (_:0 ≤ b) (b1:b ≤ 1048576):(decide (szR c b < 0) = true) ∨ (decide (szR c b < 0) = false ∧ 0 ≤ szR c b ∧ szR c b ≤ 1048576 ∧ c ≤ 1048576):=by
 unfold szR
 grind
end Go.Pl

namespace Go.Pl
open Go Go.Ab Go.Wk
def IsB (o:Option Bool) (P:Prop):Prop:=(o = some true ∧ P) ∨ (o = some false ∧ ¬ P)
theorem IsB.iff {o:Option Bool} {P Q:Prop} (h:IsB o P) (hpq:P ↔ Q):IsB o Q:=by
 grind
theorem IsB.eq {o o':Option Bool} {P:Prop} (h:IsB o P) (h':IsB o' P):o = o':=by
 rcases h with ⟨h1,h2⟩ | ⟨h1,h2⟩ <;> rcases h' with ⟨h3,h4⟩ | ⟨h3,h4⟩
 all_goals grind
theorem IsB.of_bool {b:Bool} {P:Prop} (h:b = true ↔ P):IsB (some b) P:=by
 cases b
 ·exact .inr (by grind)
 ·exact .inl ⟨rfl,h.1 rfl⟩
theorem chk {ρ:Type} {body:Int → Option (Int ⊕ (Unit ⊕ ρ))} (n i0:Nat) (hn:i0 ≤ n) (P:Nat → Prop) (bad:Nat → ρ)
  (h:∀ i,i0 ≤ i → i < n → (∀ j,i0 ≤ j → j < i → P j) → (body (i:Int) = some (.inl ((i + 1:Nat):Int)) ∧ P i) ∨ (body (i:Int) = some (.inr (.inr (bad i))) ∧ ¬ P i))
  (he:body (n:Int) = some (.inr (.inl ()))) :
  (loopO body (i0:Int) = some (.inl ()) ∧ ∀ j,i0 ≤ j → j < n → P j) ∨ ∃ i,i0 ≤ i ∧ i < n ∧ loopO body (i0:Int) = some (.inr (bad i)) ∧ ¬ P i:=by
 have key:∀ k i,i0 ≤ i → i + k = n → (∀ j,i0 ≤ j → j < i → P j) → (loopO body (i:Int) = some (.inl ()) ∧ ∀ j,i0 ≤ j → j < n → P j) ∨ ∃ q,i0 ≤ q ∧ q < n ∧ loopO body (i:Int) = some (.inr (bad q)) ∧ ¬ P q:=by
  intro k
  induction k with
  | zero =>
   intro i hi hk hp
   obtain rfl:i = n:=by omega
   grind[loopO_eq]
  | succ k ih =>
   intro i hi hk hp
   rcases h i hi (by omega) hp with ⟨h1,h2⟩ | ⟨h1,h2⟩
   ·have:=ih (i + 1) (by omega) (by omega) (by grind)
    rw [loopO_eq,h1]
    exact this
   grind[loopO_eq]
 exact key (n - i0) i0 (Nat.le_refl _) (by omega) fun j a b => by omega
theorem all_fn {f:Option Bool} {body:Int → Option (Int ⊕ (Unit ⊕ Bool))} (n:Nat) (P:Nat → Prop)
  (hf:f = (loopO body 0).bind fun r => match r with | .inl _ => some true | .inr r => some r)
  (h:∀ i,i < n → (∀ j,j < i → P j) → (body (i:Int) = some (.inl ((i + 1:Nat):Int)) ∧ P i) ∨ (body (i:Int) = some (.inr (.inr false)) ∧ ¬ P i))
  (he:body (n:Int) = some (.inr (.inl ()))):IsB f (∀ i,i < n → P i):=by
 rcases chk n 0 (Nat.zero_le _) P (fun _ => false) (fun i _ hi hp => h i hi fun j hj => hp j (Nat.zero_le _) hj) he with ⟨h1,h2⟩ | ⟨i,_,hi,h1,h2⟩
 ·refine .inl ⟨?_,fun i hi => h2 i (Nat.zero_le _) hi⟩
  rw [hf];rw [show ((0:Nat):Int) = 0 from rfl] at h1;rw [h1,bs]
 ·refine .inr ⟨?_,fun hp => h2 (hp i hi)⟩
  rw [hf];rw [show ((0:Nat):Int) = 0 from rfl] at h1;rw [h1,bs]
theorem one_chk {o:Option Bool} {P:Prop} {ρ:Type} {bad:ρ} {i:Nat} {g:Option (Int ⊕ (Unit ⊕ ρ))} (h:IsB o P) (hi:i < 9223372036854775807)
  (hg:g = o.bind fun r => cond (!r) (some (.inr (.inr bad))) ((rng ((i:Int) + 1)).bind fun v => some (.inl v))):(g = some (.inl ((i + 1:Nat):Int)) ∧ P) ∨ (g = some (.inr (.inr bad)) ∧ ¬ P):=by
 subst hg
 rcases h with ⟨h1,h2⟩ | ⟨h1,h2⟩
 ·refine .inl ⟨?_,h2⟩
  rw [h1,bs,Bool.not_true,cnd_f,rng_of (by omega) (by omega),bs,cs]
 grind
theorem lt_t {i n:Nat} (h:i < n):decide ((i:Int) < (n:Int)) = true:=by grind
theorem lt_f {n:Nat}:decide ((n:Int) < (n:Int)) = false:=by simp
theorem inside_impl (x a b:Int):IsB (f_ar x a b) (a ≤ x ∧ x ≤ b):=by
 unfold f_ar
 by_cases h:x ≥ a
 ·rw [decide_eq_true h,cnd_t];grind[IsB.of_bool]
 ·rw [decide_eq_false h,cnd_f];exact .inr ⟨rfl,by omega⟩
theorem inside_spec (x a b:Int):IsB (f_aR x a b) (a ≤ x ∧ x ≤ b):=inside_impl x a b
def Prime (p:Int):Prop:=p = 2 ∨ p = 3 ∨ p = 5 ∨ p = 7
theorem prime_impl (x:Int):IsB (f_aY x) (Prime x):=by
 unfold f_aY Prime
 by_cases h2:x = 2
 ·subst h2;exact .inl ⟨rfl,.inl rfl⟩
 ·rw [show (x == 2) = false from by grind,cnd_f]
  by_cases h3:x = 3
  ·subst h3;exact .inl (by simp)
  ·rw [show (x == 3) = false from by grind,cnd_f]
   by_cases h5:x = 5
   ·subst h5;exact .inl (by simp)
   ·rw [show (x == 5) = false from by grind,cnd_f]
    grind[IsB.of_bool]
theorem prime_spec (x:Int):IsB (f_aZ x) (Prime x):=prime_impl x
abbrev at0 (v:List Int) (i:Nat):Int:=v.getD i 0
theorem ixO_at {v:List Int} {i:Nat} (h:i < v.length):ixO v (i:Int) = some (at0 v i):=by
 rw [ixO_get h,at0,List.getD_eq_getElem?_getD,List.getElem?_eq_getElem h];rfl
def Exps (os v:List Int):Prop:=v.length = os.length ∧ ∀ i,i < v.length → 0 ≤ at0 v i ∧ at0 v i ≤ at0 os i - 1
def Exp (os v:List Int) (k:Nat):Prop:=Exps os v ∧ ∀ i,i ≤ k → at0 v i = 0
def Os (os:List Int):Prop:=os.length ≤ 14 ∧ ∀ i,i < os.length → Prime (at0 os i)
theorem Prime.pos {p:Int} (h:Prime p):2 ≤ p ∧ p ≤ 7:=by unfold Prime at h;omega
theorem isExponents_impl {x:SPr} {v:List Int} (ho:Os x.Orders):IsB (f_aB x v) (Exps x.Orders v):=by
 unfold f_aB
 by_cases h:v.length = x.Orders.length
 ·rw [show ((v.length:Int) != (x.Orders.length:Int)) = false from by simp [h],cnd_f]
  have h6:=ho.1
  refine (all_fn v.length (fun i => 0 ≤ at0 v i ∧ at0 v i ≤ at0 x.Orders i - 1) rfl (fun i hi _ => ?_) ?_).iff ⟨fun g => ⟨h,g⟩,fun g => g.2⟩
  ·have hp:=(ho.2 i (by omega)).pos
   refine one_chk (inside_impl _ _ _) (by omega) ?_
   unfold l1_aB
   rw [lt_t hi,cnd_t,ixO_at hi,bs,ixO_at (by omega),bs,rng_of (by omega) (by omega),bs]
  ·unfold l1_aB
   simp
 ·rw [show ((v.length:Int) != (x.Orders.length:Int)) = true from by simp;omega,cnd_t]
  exact .inr ⟨rfl,fun g => h g.1⟩
theorem isZero_impl {v:List Int} (hl:v.length ≤ 14):IsB (f_ae v) (∀ i,i < v.length → at0 v i = 0):=by
 refine all_fn v.length (fun i => at0 v i = 0) rfl (fun i hi _ => ?_) ?_
 ·refine one_chk (o:=some (at0 v i == 0)) (IsB.of_bool (by simp)) (by omega) ?_
  unfold l1_ae
  rw [lt_t hi,cnd_t,ixO_at hi,bs,bs];rfl
 ·unfold l1_ae
  simp
theorem tailVector_impl {x:SPr} {k:Nat} {v:List Int} (ho:Os x.Orders) (hk:k < x.Orders.length):IsB (f_aS x k v) (Exp x.Orders v k):=by
 have h6:=ho.1
 unfold f_aS
 rcases isExponents_impl (v:=v) ho with ⟨h1,h2⟩ | ⟨h1,h2⟩
 ·have hl:=h2.1
  rw [h1,bs,cnd_t,rng_of (by omega) (by omega),bs]
  have hs:sliceO v 0 ((k:Int) + 1) = some (v.take (k + 1)):=by
   unfold sliceO
   grind
  rw [hs,bs]
  have hb:=isZero_impl (v:=v.take (k + 1)) (by grind)
  have hiff:(∀ i,i < (v.take (k + 1)).length → at0 (v.take (k + 1)) i = 0) ↔ Exp x.Orders v k:=by
   have e:∀ i,i ≤ k → at0 (v.take (k + 1)) i = at0 v i:=by grind
   rw [List.length_take,Nat.min_eq_left (by omega)]
   exact ⟨fun g => ⟨h2,by grind⟩,fun g i hi => by rw [e i (by omega)];exact g.2 i (by omega)⟩
  grind
 ·rw [h1,bs,cnd_f]
  exact .inr ⟨rfl,fun g => h2 g.1⟩
theorem exponents_spec {os v:List Int} {k:Nat} (ho:Os os) (hk:k < os.length):IsB (f_as os v k) (Exp os v k):=by
 have h6:=ho.1
 unfold f_as
 by_cases h:v.length = os.length
 ·rw [show ((v.length:Int) != (os.length:Int)) = false from by simp [h],cnd_f]
  refine (all_fn v.length (fun i => (0 ≤ at0 v i ∧ at0 v i ≤ at0 os i - 1) ∧ (i ≤ k → at0 v i = 0)) rfl (fun i hi _ => ?_) ?_).iff ⟨fun g => ⟨⟨h,by grind⟩,by grind⟩,fun g i hi => ⟨g.1.2 i hi,fun hk => g.2 i hk⟩⟩
  ·have hp:=(ho.2 i (by omega)).pos
   unfold l1_as
   rw [lt_t hi,cnd_t,ixO_at hi,bs,ixO_at (by omega),bs,rng_of (by omega) (by omega),bs]
   rcases inside_spec (at0 v i) 0 (at0 os i - 1) with ⟨h1,h2⟩ | ⟨h1,h2⟩
   ·rw [h1,bs,Bool.not_true,cnd_f]
    by_cases h3:(i:Int) ≤ (k:Int)
    ·rw [decide_eq_true h3,cnd_t,bs]
     by_cases h4:at0 v i = 0
     ·rw [show (at0 v i != 0) = false from by grind,cnd_f,rng_of (by omega) (by omega),bs,cs]
      grind
     grind
    ·rw [decide_eq_false h3,cnd_f,rng_of (by omega) (by omega),bs,cs]
     grind
   grind
  ·unfold l1_as
   simp
 ·rw [show ((v.length:Int) != (os.length:Int)) = true from by simp;omega,cnd_t]
  exact .inr ⟨rfl,fun g => h g.1.1⟩
end Go.Pl

namespace Go.Pl
open Go Go.Ab Go.Wk
theorem chkS {σ ρ:Type} {body:σ → Option (σ ⊕ (Unit ⊕ ρ))} (S:Nat → σ) (n i0:Nat) (hn:i0 ≤ n) (P:Nat → Prop) (bad:Nat → ρ)
  (h:∀ i,i0 ≤ i → i < n → (∀ j,i0 ≤ j → j < i → P j) → (body (S i) = some (.inl (S (i + 1))) ∧ P i) ∨ (body (S i) = some (.inr (.inr (bad i))) ∧ ¬ P i))
  (he:body (S n) = some (.inr (.inl ()))) :
  (loopO body (S i0) = some (.inl ()) ∧ ∀ j,i0 ≤ j → j < n → P j) ∨ ∃ i,i0 ≤ i ∧ i < n ∧ loopO body (S i0) = some (.inr (bad i)) ∧ ¬ P i:=by
 have key:∀ k i,i0 ≤ i → i + k = n → (∀ j,i0 ≤ j → j < i → P j) → (loopO body (S i) = some (.inl ()) ∧ ∀ j,i0 ≤ j → j < n → P j) ∨ ∃ q,i0 ≤ q ∧ q < n ∧ loopO body (S i) = some (.inr (bad q)) ∧ ¬ P q:=by
  intro k
  induction k with
  | zero =>
   intro i hi hk hp
   obtain rfl:i = n:=by omega
   grind[loopO_eq]
  | succ k ih =>
   intro i hi hk hp
   rcases h i hi (by omega) hp with ⟨h1,h2⟩ | ⟨h1,h2⟩
   ·have:=ih (i + 1) (by omega) (by omega) (by grind)
    rw [loopO_eq,h1]
    exact this
   grind[loopO_eq]
 exact key (n - i0) i0 (Nat.le_refl _) (by omega) fun j a b => by omega
theorem bne_f {a b:Int} (h:a = b):(a != b) = false:=by simp [h]
theorem bne_t {a b:Int} (h:a ≠ b):(a != b) = true:=by simp [h]
def pr (os:List Int):Nat → Int
 | 0 => 1
 | i + 1 => pr os i * at0 os i
def cp (os:List Int):Nat → Int
 | 0 => 1
 | i + 1 => if cp os i ≤ 729 then cp os i * at0 os i else cp os i
theorem pr_pos {os:List Int}:∀ {i:Nat},(∀ j,j < i → Prime (at0 os j)) → 1 ≤ pr os i
 | 0,_ => by simp [pr]
 | i + 1,h => by
  have h1:=pr_pos (os:=os) (i:=i) (by grind)
  have h2:=(h i (by omega)).pos
  simp only [pr]
  have:(1:Int) * 1 ≤ pr os i * at0 os i:=Int.mul_le_mul h1 (by omega) (by omega) (by omega)
  omega
theorem pr_step {os:List Int} {i:Nat} (h:∀ j,j ≤ i → Prime (at0 os j)):pr os i ≤ pr os (i + 1):=by
 have h1:=pr_pos (os:=os) (i:=i) (by grind)
 have h2:=(h i (Nat.le_refl _)).pos
 simp only [pr]
 have:pr os i * 1 ≤ pr os i * at0 os i:=Int.mul_le_mul_of_nonneg_left (by omega) (by omega)
 omega
theorem pr_mono {os:List Int} {n:Nat} (h:∀ j,j < n → Prime (at0 os j)):∀ k,k ≤ n → pr os (n - k) ≤ pr os n
 | 0,_ => Int.le_refl _
 | k + 1,hk => by
  have h1:=pr_mono h k (by omega)
  have h2:=pr_step (os:=os) (i:=n - (k + 1)) (by grind)
  grind
theorem cp_pr {os:List Int}:∀ {i:Nat},(∀ j,j < i → Prime (at0 os j)) → (cp os i = pr os i ∧ pr os i ≤ 729 ∨ 729 < cp os i ∧ cp os i ≤ 5103 ∧ 729 < pr os i)
 | 0,_ => by simp [cp,pr]
 | i + 1,h => by
  have h0:∀ j,j < i → Prime (at0 os j):=by grind
  have h2:=(h i (by omega)).pos
  have h3:=pr_step (os:=os) (i:=i) (by grind)
  have hpp:=pr_pos h0
  simp only [cp]
  rcases cp_pr h0 with ⟨h1,h4⟩ | ⟨h1,h4,h5⟩
  ·rw [h1,if_pos h4]
   have h6:pr os i * at0 os i ≤ 729 * 7:=Int.mul_le_mul h4 h2.2 (by omega) (by omega)
   simp only [pr] at h3 ⊢
   grind
  omega
def Tails (x:SPr) (i:Nat):Prop:=Exp x.Orders (x.Powers.getD i []) i ∧ (x.Conjugates.getD i []).length + i + 1 = x.Orders.length ∧ ∀ j,j < (x.Conjugates.getD i []).length → Exp x.Orders ((x.Conjugates.getD i []).getD j []) i
structure PresW (x:SPr):Prop where
 os:True ∧ ∀ i,i < x.Orders.length → Prime (at0 x.Orders i)
 pl:x.Powers.length = x.Orders.length
 cl:x.Conjugates.length = x.Orders.length
 tl:∀ i,i < x.Orders.length → Tails x i
structure Pres (x:SPr):Prop where
 os:Os x.Orders
 pl:x.Powers.length = x.Orders.length
 cl:x.Conjugates.length = x.Orders.length
 tl:∀ i,i < x.Orders.length → Tails x i
theorem Pres.w {x:SPr} (h:Pres x):PresW x:=⟨⟨trivial,h.os.2⟩,h.pl,h.cl,h.tl⟩
structure PresS (x:SPr):Prop extends Pres x where
 n6:x.Orders.length ≤ 6
 pr:pr x.Orders x.Orders.length ≤ 729
theorem ixO_d {α:Type} {v:List α} {i:Nat} (d:α) (h:i < v.length):ixO v (i:Int) = some (v.getD i d):=by
 grind[ixO_get]
theorem tails_impl {x:SPr} (ho:Os x.Orders) (hp:x.Powers.length = x.Orders.length) (hc:x.Conjugates.length = x.Orders.length) {i:Nat} (hi:i < x.Orders.length) :
  (l3_s x i = some (.inl ((i + 1:Nat):Int)) ∧ Tails x i) ∨ (l3_s x i = some (.inr (.inr false)) ∧ ¬ Tails x i):=by
 have h6:=ho.1
 unfold l3_s
 rw [lt_t hi,cnd_t,ixO_d [] (by omega),bs]
 rcases tailVector_impl (v:=x.Powers.getD i []) ho hi with ⟨h1,h2⟩ | ⟨h1,h2⟩
 ·rw [h1,bs,Bool.not_true,cnd_f,ixO_d [] (by omega),bs,rng_of (by omega) (by omega),bs,rng_of (by omega) (by omega),bs]
  by_cases hl:(x.Conjugates.getD i []).length + i + 1 = x.Orders.length
  ·rw [bne_f (by omega),cnd_f,bs]
   rcases chk (body:=l2_s x i (x.Conjugates.getD i [])) (x.Conjugates.getD i []).length 0 (Nat.zero_le _) (fun j => Exp x.Orders ((x.Conjugates.getD i []).getD j []) i) (fun _ => false) (fun j _ hj _ => by
     refine one_chk (tailVector_impl ho hi) (by omega) ?_
     unfold l2_s
     rw [lt_t hj,cnd_t,ixO_d [] hj,bs]) (by
     unfold l2_s
     simp) with ⟨g1,g2⟩ | ⟨j,_,hj,g1,g2⟩
   ·rw [show ((0:Nat):Int) = 0 from rfl] at g1
    rw [g1,bs]
    simp only
    rw [rng_of (by omega) (by omega),bs,cs]
    exact .inl ⟨rfl,h2,hl,by grind⟩
   ·rw [show ((0:Nat):Int) = 0 from rfl] at g1
    rw [g1,bs]
    exact .inr ⟨rfl,fun g => g2 (g.2.2 j hj)⟩
  ·rw [bne_t (by omega),cnd_t]
   exact .inr ⟨rfl,fun g => hl g.2.1⟩
 ·rw [h1,bs,Bool.not_false,cnd_t]
  exact .inr ⟨rfl,fun g => h2 g.1⟩
theorem tails_spec {x:SPr} (ho:Os x.Orders) (hp:x.Powers.length = x.Orders.length) (hc:x.Conjugates.length = x.Orders.length) {i:Nat} (hi:i < x.Orders.length) :
  (l3_u x i = some (.inl ((i + 1:Nat):Int)) ∧ Tails x i) ∨ (l3_u x i = some (.inr (.inr false)) ∧ ¬ Tails x i):=by
 have h6:=ho.1
 unfold l3_u
 rw [lt_t hi,cnd_t,ixO_d [] (by omega),bs]
 rcases exponents_spec (v:=x.Powers.getD i []) ho hi with ⟨h1,h2⟩ | ⟨h1,h2⟩
 ·rw [h1,bs,Bool.not_true,cnd_f,ixO_d [] (by omega),bs,rng_of (by omega) (by omega),bs,rng_of (by omega) (by omega),bs]
  by_cases hl:(x.Conjugates.getD i []).length + i + 1 = x.Orders.length
  ·rw [bne_f (by omega),cnd_f]
   rcases chk (body:=l2_u x i) (x.Conjugates.getD i []).length 0 (Nat.zero_le _) (fun j => Exp x.Orders ((x.Conjugates.getD i []).getD j []) i) (fun _ => false) (fun j _ hj _ => by
     refine one_chk (exponents_spec ho hi) (by omega) ?_
     unfold l2_u
     rw [ixO_d [] (by omega),bs,lt_t hj,cnd_t,bs,ixO_d [] hj,bs]) (by
     unfold l2_u
     rw [ixO_d [] (by omega),bs,lt_f,cnd_f]) with ⟨g1,g2⟩ | ⟨j,_,hj,g1,g2⟩
   ·rw [show ((0:Nat):Int) = 0 from rfl] at g1
    rw [g1,bs]
    simp only
    rw [rng_of (by omega) (by omega),bs,cs]
    exact .inl ⟨rfl,h2,hl,by grind⟩
   ·rw [show ((0:Nat):Int) = 0 from rfl] at g1
    rw [g1,bs]
    exact .inr ⟨rfl,fun g => g2 (g.2.2 j hj)⟩
  ·rw [bne_t (by omega),cnd_t]
   exact .inr ⟨rfl,fun g => hl g.2.1⟩
 ·rw [h1,bs,Bool.not_false,cnd_t]
  exact .inr ⟨rfl,fun g => h2 g.1⟩
theorem orders_impl {x:SPr} (h6:x.Orders.length ≤ 6) :
  (loopO (l1_s x) (1,0) = some (.inl ()) ∧ Os x.Orders ∧ pr x.Orders x.Orders.length ≤ 729) ∨ (loopO (l1_s x) (1,0) = some (.inr false) ∧ ¬ (Os x.Orders ∧ pr x.Orders x.Orders.length ≤ 729)):=by
 rcases chkS (body:=l1_s x) (fun i => (pr x.Orders i,(i:Int))) x.Orders.length 0 (Nat.zero_le _) (fun i => Prime (at0 x.Orders i) ∧ pr x.Orders (i + 1) ≤ 729) (fun _ => false) (fun i _ hi hpre => by
   have hp:∀ j,j < i → Prime (at0 x.Orders j):=by grind
   have hpp:=pr_pos hp
   have hle:pr x.Orders i ≤ 729:=by
    cases i with
    | zero => simp [pr]
    | succ i => grind
   unfold l1_s
   rw [lt_t hi,cnd_t,ixO_at hi,bs]
   rcases prime_impl (at0 x.Orders i) with ⟨h1,h2⟩ | ⟨h1,h2⟩
   ·have h3:=h2.pos
    have h4:pr x.Orders i * at0 x.Orders i ≤ 729 * 7:=Int.mul_le_mul hle h3.2 (by omega) (by omega)
    have h5:1 * 1 ≤ pr x.Orders i * at0 x.Orders i:=Int.mul_le_mul hpp (by omega) (by omega) (by omega)
    simp only
    rw [h1,bs,Bool.not_true,cnd_f,rng_of (by omega) (by omega),bs]
    by_cases h7:pr x.Orders i * at0 x.Orders i > 729
    ·rw [decide_eq_true h7,cnd_t]
     exact .inr ⟨rfl,by grind[pr]⟩
    ·rw [decide_eq_false h7,cnd_f,bs,rng_of (by omega) (by omega),bs,cs]
     exact .inl ⟨rfl,h2,by grind[pr]⟩
   grind) (by
   unfold l1_s
   simp) with ⟨g1,g2⟩ | ⟨i,_,hi,g1,g2⟩
 ·refine .inl ⟨g1,⟨by omega,by grind⟩,?_⟩
  cases hn:x.Orders.length with
  | zero => simp [pr]
  | succ n => grind
 ·refine .inr ⟨g1,fun ⟨h1,h2⟩ => g2 ⟨h1.2 i hi,?_⟩⟩
  have:=pr_mono (os:=x.Orders) (n:=x.Orders.length) h1.2 (x.Orders.length - (i + 1)) (by omega)
  grind
theorem product_spec {os:List Int} (ho:Os os):f_al os = some (cp os os.length):=by
 have h6:=ho.1
 unfold f_al
 rw [show (1,0) = (fun i => (cp os i,(i:Int))) 0 from rfl,loopO_seq (body:=l1_al os) (r:=cp os os.length) (fun i => (cp os i,(i:Int))) os.length (fun i hi => by
  have hp:=(ho.2 i hi).pos
  have hc:=cp_pr (os:=os) (i:=i) fun j hj => ho.2 j (by omega)
  have hpp:=pr_pos (os:=os) (i:=i) fun j hj => ho.2 j (by omega)
  unfold l1_al
  rw [lt_t hi,cnd_t]
  simp only [cp]
  by_cases h:cp os i ≤ 729
  ·have h4:cp os i * at0 os i ≤ 729 * 7:=Int.mul_le_mul h hp.2 (by omega) (by omega)
   have h5:1 * 1 ≤ cp os i * at0 os i:=Int.mul_le_mul (by omega) (by omega) (by omega) (by omega)
   rw [decide_eq_true h,cnd_t,ixO_at hi,bs,rng_of (by omega) (by omega),bs,rng_of (by omega) (by omega),bs,cs,if_pos h]
  ·rw [decide_eq_false h,cnd_f,rng_of (by omega) (by omega),bs,cs,if_neg h]) (by
  unfold l1_al
  simp),bs]
theorem IsPresentation_impl {x:SPr} (hl:x.Orders.length ≤ 1048576):IsB (f_s x) (PresS x):=by
 unfold f_s
 by_cases h6:x.Orders.length ≤ 6
 ·rw [decide_eq_false (by omega),cnd_f]
  by_cases hp:x.Powers.length = x.Orders.length
  ·rw [bne_f (by omega),cnd_f]
   by_cases hc:x.Conjugates.length = x.Orders.length
   ·rw [bne_f (by omega),cnd_f]
    rcases orders_impl h6 with ⟨h1,h2,h3⟩ | ⟨h1,h2⟩
    ·rw [h1,bs]
     exact (all_fn (f:=(loopO (l3_s x) 0).bind fun r => match r with | .inl _ => some true | .inr r => some r) x.Orders.length (Tails x) rfl (by grind[tails_impl]) (by
      unfold l3_s
      simp)).iff ⟨fun g => ⟨⟨h2,hp,hc,g⟩,h6,h3⟩,fun g => g.tl⟩
    ·rw [h1,bs]
     exact .inr ⟨rfl,fun g => h2 ⟨g.os,g.pr⟩⟩
   ·rw [bne_t (by omega),cnd_t]
    exact .inr ⟨rfl,fun g => hc g.cl⟩
  ·rw [bne_t (by omega),cnd_t]
   exact .inr ⟨rfl,fun g => hp g.pl⟩
 ·rw [decide_eq_true (by omega),cnd_t]
  exact .inr ⟨rfl,fun g => h6 g.n6⟩
theorem IsPresentation_spec {x:SPr} (hl:x.Orders.length ≤ 1048576):IsB (f_u x) (PresS x):=by
 unfold f_u
 by_cases h6:x.Orders.length ≤ 6
 ·rw [decide_eq_false (by omega),cnd_f]
  by_cases hp:x.Powers.length = x.Orders.length
  ·rw [bne_f (by omega),cnd_f]
   by_cases hc:x.Conjugates.length = x.Orders.length
   ·rw [bne_f (by omega),cnd_f]
    rcases chk (body:=l1_u x) x.Orders.length 0 (Nat.zero_le _) (fun i => Prime (at0 x.Orders i)) (fun _ => false) (fun i _ hi _ => by
      refine one_chk (prime_spec _) (by omega) ?_
      unfold l1_u
      rw [lt_t hi,cnd_t,ixO_at hi,bs]) (by
      unfold l1_u
      simp) with ⟨g1,g2⟩ | ⟨i,_,hi,g1,g2⟩
    ·rw [show ((0:Nat):Int) = 0 from rfl] at g1
     have ho:Os x.Orders:=⟨by omega,by grind⟩
     have hcp:=cp_pr (os:=x.Orders) (i:=x.Orders.length) ho.2
     rw [g1,bs]
     simp only
     rw [product_spec ho,bs]
     by_cases h7:cp x.Orders x.Orders.length > 729
     ·rw [decide_eq_true h7,cnd_t]
      exact .inr ⟨rfl,fun g => by have:=g.pr;omega⟩
     ·rw [decide_eq_false h7,cnd_f]
      exact (all_fn (f:=(loopO (l3_u x) 0).bind fun r => match r with | .inl _ => some true | .inr r => some r) x.Orders.length (Tails x) rfl (by grind[tails_spec]) (by
       unfold l3_u
       simp)).iff ⟨fun g => ⟨⟨ho,hp,hc,g⟩,h6,by omega⟩,fun g => g.tl⟩
    ·rw [show ((0:Nat):Int) = 0 from rfl] at g1
     rw [g1,bs]
     exact .inr ⟨rfl,fun g => g2 (g.os.2 i hi)⟩
   ·rw [bne_t (by omega),cnd_t]
    exact .inr ⟨rfl,fun g => hc g.cl⟩
  ·rw [bne_t (by omega),cnd_t]
   exact .inr ⟨rfl,fun g => hp g.pl⟩
 ·rw [decide_eq_true (by omega),cnd_t]
  exact .inr ⟨rfl,fun g => h6 g.n6⟩
end Go.Pl

namespace Go.Pl
open Go Go.Ab Go.Wk Go.Pc
def lvl (x:SPr) (i:Nat):Lvl:=⟨at0 x.Orders i,(x.Powers.getD i []).drop (i + 1),(x.Conjugates.getD i []).map (·.drop (i + 1))⟩
def suf (x:SPr) (k:Nat):Pcp:=(List.range' k (x.Orders.length - k)).map (lvl x)
theorem suf_length (x:SPr) (k:Nat):(suf x k).length = x.Orders.length - k:=by simp [suf]
theorem suf_cons {x:SPr} {k:Nat} (h:k < x.Orders.length):suf x k = lvl x k :: suf x (k + 1):=by
 unfold suf
 rw [show x.Orders.length - k = (x.Orders.length - (k + 1)) + 1 from by omega,List.range'_succ,List.map_cons]
theorem suf_nil {x:SPr} {k:Nat} (h:x.Orders.length ≤ k):suf x k = []:=by
 unfold suf;simp_all
theorem exp_split {os v:List Int} {k:Nat} (h:Exp os v k) (hk:k < os.length):v = zeros (k + 1) ++ v.drop (k + 1):=by
 have h1:=h.1.1
 apply List.ext_getElem?
 intro i
 rw [List.getElem?_append]
 simp only [zeros,List.length_replicate,List.getElem?_replicate,List.getElem?_drop]
 split
 ·rename_i hi
  have h2:=h.2 i (by omega)
  grind
 grind
theorem V_of {x:SPr}:∀ (d k:Nat) (v:List Int),k + d = x.Orders.length → v.length = d → (∀ i,i < d → 0 ≤ at0 v i ∧ at0 v i ≤ at0 x.Orders (k + i) - 1) → V (suf x k) v
 | 0,k,v,hk,hv,_ => by
  rw [suf_nil (by omega)]
  simpa [V] using hv
 | d + 1,k,v,hk,hv,h => by
  rw [suf_cons (by omega)]
  match v,hv with
  | a :: v,hv =>
   have h0:=h 0 (by omega)
   simp only [at0,List.getD_cons_zero,Nat.add_zero] at h0
   refine ⟨⟨h0.1,by simp only [lvl,at0];omega⟩,V_of d (k + 1) v (by omega) (by grind) fun i hi => ?_⟩
   grind
theorem exp_V {x:SPr} {v:List Int} {k:Nat} (h:Exp x.Orders v k) (hk:k < x.Orders.length):V (suf x (k + 1)) (v.drop (k + 1)):=by
 have h1:=h.1.1
 refine V_of (x.Orders.length - (k + 1)) (k + 1) _ (by omega) (by grind) fun i hi => ?_
 have:=h.1.2 (k + 1 + i) (by omega)
 grind
theorem PresW.ok {x:SPr} (h:PresW x):∀ (d k:Nat),k + d = x.Orders.length → Pc.Ok (suf x k)
 | 0,k,hk => by rw [suf_nil (by omega)];simp only [Pc.Ok]
 | d + 1,k,hk => by
  rw [suf_cons (by omega)]
  obtain ⟨t1,t2,t3⟩:=h.tl k (by omega)
  refine ⟨by simp only [lvl];have:=(h.os.2 k (by omega)).pos;omega,exp_V t1 (by omega),?_,fun c hc => ?_,PresW.ok h d (k + 1) (by omega)⟩
  ·grind[suf_length,lvl]
  ·simp only [lvl,List.mem_map] at hc
   obtain ⟨u,hu,rfl⟩:=hc
   obtain ⟨j,hj,rfl⟩:=List.mem_iff_getElem.1 hu
   grind[exp_V]
theorem PresW.okAt {x:SPr} (h:PresW x) {k:Nat} (hk:k ≤ x.Orders.length):Pc.Ok (suf x k):=h.ok (x.Orders.length - k) k (by omega)
theorem Pres.okAt {x:SPr} (h:Pres x) {k:Nat} (hk:k ≤ x.Orders.length):Pc.Ok (suf x k):=h.w.okAt hk
theorem zeros_length (n:Nat):(zeros n).length = n:=by simp [zeros]
theorem zeros_succ' (k:Nat):zeros (k + 1) = zeros k ++ [0]:=by simp [zeros,List.replicate_succ']
theorem z_set {k:Nat} {a b:Int} {v:Vec}:(zeros k ++ a :: v).set k b = zeros k ++ b :: v:=by
 rw [List.set_append_right _ _ (by grind[zeros_length]),zeros_length,Nat.sub_self,List.set_cons_zero]
theorem z_get {k:Nat} {a:Int} {v:Vec}:ixO (zeros k ++ a :: v) (k:Int) = some a:=by
 rw [ixO_nat,List.getElem?_append_right (by grind[zeros_length]),zeros_length,Nat.sub_self];rfl
theorem z_zero {k:Nat} {v:Vec}:zeros k ++ 0 :: v = zeros (k + 1) ++ v:=by rw [zeros_succ',List.append_assoc];rfl
theorem own_spec {v:List Int} (h:v.length ≤ 1000000):f_am v = some v:=by
 grind[f_am,appO_of]
end Go.Pl

namespace Go.Pl
open Go Go.Ab Go.Wk Go.Pc
theorem img_take {m:Vec → Vec → Vec}:∀ (cs:List Vec) (x:Vec) (i:Nat) (acc:Vec),i < cs.length → i < x.length →
  img m (cs.take (i + 1)) (x.take (i + 1)) acc = iter (at0 x i).toNat (fun v => m v (cs.getD i [])) (img m (cs.take i) (x.take i) acc)
 | [],_,_,_,h,_ => by simp at h
 | _ :: _,[],_,_,_,h => by simp at h
 | c :: cs,a :: x,0,acc,_,_ => by rfl
 | c :: cs,a :: x,i + 1,acc,h,h' => by
  simp only [List.take_succ_cons,img,at0,List.getD_cons_succ]
  exact img_take cs x i _ (by grind) (by grind)
theorem iter_loop' {α β:Type} {body:α × Int → Option ((α × Int) ⊕ α)} {S:β → Prop} (e:β → α) (g:β → β) (n:Int) (hn:0 ≤ n) (hS:∀ a,S a → S (g a))
  (h:∀ a (i:Nat),S a → (i:Int) < n → body (e a,(i:Int)) = some (.inl (e (g a),((i + 1:Nat):Int)))) (he:∀ a,S a → body (e a,n) = some (.inr (e a))) {a:β} (ha:S a) :
  loopO body (e a,0) = some (e (iter n.toNat g a)):=by
 have hit:∀ k,S (iter k g a):=fun k => iter_in (S:=S) hS k ha
 exact loopO_seq (body:=body) (r:=e (iter n.toNat g a)) (fun i => (e (iter i g a),(i:Int))) n.toNat (by grind[iter_succ]) (by
  grind)
theorem z_ix {k i:Nat} {v:Vec} (h:i < v.length):ixO (zeros k ++ v) ((k + i:Nat):Int) = some (at0 v i):=by
 rw [ixO_nat,List.getElem?_append_right (by grind[zeros_length]),zeros_length,show k + i - k = i from by omega,List.getElem?_eq_getElem h,at0,List.getD_eq_getElem?_getD,List.getElem?_eq_getElem h];rfl
theorem V_at {x:SPr} (ho:Os x.Orders):∀ (d k:Nat) (v:List Int),k + d = x.Orders.length → V (suf x k) v → v.length = d ∧ ∀ i,i < d → 0 ≤ at0 v i ∧ at0 v i < at0 x.Orders (k + i) ∧ at0 v i ≤ 6
 | 0,k,v,hk,hv => by
  rw [suf_nil (by omega)] at hv
  simp only [V] at hv
  grind
 | d + 1,k,v,hk,hv => by
  rw [suf_cons (by omega)] at hv
  match v,hv with
  | a :: v,hv =>
   obtain ⟨h1,h2⟩:=V_at ho d (k + 1) v (by omega) hv.2
   refine ⟨by simp [h1],fun i hi => ?_⟩
   cases i with
   | zero =>
    have h3:=hv.1
    simp only [lvl] at h3
    have:=(ho.2 k (by omega)).pos
    grind
   | succ i =>
    grind
theorem conj_at {x:SPr} (h:Pres x) {k i:Nat} (hk:k < x.Orders.length) (hi:i < x.Orders.length - (k + 1)) :
  ∃ c,ixO x.Conjugates (k:Int) = some (x.Conjugates.getD k []) ∧ ixO (x.Conjugates.getD k []) (i:Int) = some (zeros (k + 1) ++ c) ∧ V (suf x (k + 1)) c ∧ (lvl x k).cs.getD i [] = c:=by
 obtain ⟨t1,t2,t3⟩:=h.tl k hk
 have hc:=h.cl
 grind[ixO_d,exp_V,exp_split,lvl]
def FAt (x:SPr) (k:Nat) (g:SPr → Int → List Int → List Int → Option (List Int)):Prop :=
 ∀ a b,V (suf x k) a → V (suf x k) b → g x k (zeros k ++ a) (zeros k ++ b) = some (zeros k ++ mul (suf x k) a b)
def FIm (x:SPr) (k:Nat) (g:SPr → Int → List Int → Option (List Int)):Prop :=
 ∀ v,V (suf x (k + 1)) v → g x k (zeros (k + 1) ++ v) = some (zeros (k + 1) ++ sig (suf x (k + 1)) (lvl x k) v)
theorem image_step {x:SPr} (h:Pres x) {k:Nat} (hk:k < x.Orders.length) {g:SPr → Int → List Int → List Int → Option (List Int)} (hg:FAt x (k + 1) g):FIm x k (b_f g):=by
 intro v hv
 have h6:=h.os.1
 have ok:=h.okAt (k:=k + 1) (by omega)
 obtain ⟨hvl,hvr⟩:=V_at h.os (x.Orders.length - (k + 1)) (k + 1) v (by omega) hv
 have hlen:=suf_length x (k + 1)
 have hcl:(lvl x k).cs.length = x.Orders.length - (k + 1):=by
  have:=h.okAt (k:=k) (by omega)
  rw [suf_cons hk] at this
  rw [this.2.2.1,hlen]
 have hcs:∀ c ∈ (lvl x k).cs,V (suf x (k + 1)) c:=by
  have:=h.okAt (k:=k) (by omega)
  rw [suf_cons hk] at this
  exact this.2.2.2.1
 have hA:∀ i,V (suf x (k + 1)) (img (mul (suf x (k + 1))) ((lvl x k).cs.take i) (v.take i) (zeros (suf x (k + 1)).length)):=fun i =>
  img_in' (mul_in ok) _ _ (by grind) (V_zeros ok)
 unfold b_f
 rw [lenOk_nat (by omega),bs,rng_of (by omega) (by omega),bs,cs]
 have hz:List.replicate x.Orders.length (0:Int) = zeros (k + 1) ++ zeros (suf x (k + 1)).length:=by
  rw [hlen];simp only [zeros,List.replicate_append_replicate];congr 1;omega
 rw [hz]
 have:=loopO_seq (body:=l2_f g x k (zeros (k + 1) ++ v)) (r:=zeros (k + 1) ++ sig (suf x (k + 1)) (lvl x k) v)
  (fun i => (zeros (k + 1) ++ img (mul (suf x (k + 1))) ((lvl x k).cs.take i) (v.take i) (zeros (suf x (k + 1)).length),((k + 1 + i:Nat):Int))) (x.Orders.length - (k + 1)) (fun i hi => by
  have hr:=hvr i hi
  obtain ⟨c,c1,c2,c3,c4⟩:=conj_at h hk hi
  unfold l2_f
  rw [decide_eq_true (by omega),cnd_t]
  rw [iter_loop' (S:=V (suf x (k + 1))) (body:=l1_f g x k (zeros (k + 1) ++ v) (zeros (k + 1) ++ img (mul (suf x (k + 1))) ((lvl x k).cs.take i) (v.take i) (zeros (suf x (k + 1)).length),((k + 1 + i:Nat):Int))) (fun u => zeros (k + 1) ++ u) (fun u => mul (suf x (k + 1)) u c) (at0 v i) hr.1 (by grind[mul_in]) (fun u q hu hq => by
   unfold l1_f
   simp only
   rw [z_ix (by omega),bs,decide_eq_true hq,cnd_t,rng_of (by omega) (by omega),bs,c1,bs,rng_of (by omega) (by omega),bs,rng_of (by omega) (by omega),bs,
    show (((k + 1 + i:Nat):Int) - (k:Int) - 1) = (i:Int) from by omega,c2,bs,cs,hg u c hu c3,bs,rng_of (by omega) (by omega),bs,cs]) (fun u hu => by
   unfold l1_f
   simp only
   rw [z_ix (by omega),bs,decide_eq_false (by omega),cnd_f]) (hA i),bs,rng_of (by omega) (by omega),bs,cs]
  rw [img_take _ _ _ _ (by omega) (by omega),c4]
  rfl) (by
  unfold l2_f
  rw [decide_eq_false (by omega),cnd_f,List.take_of_length_le (by omega),List.take_of_length_le (by omega)]
  rfl)
 grind[img]
theorem at_step {x:SPr} (h:Pres x) {k:Nat} (hk:k < x.Orders.length) {g:SPr → Int → List Int → List Int → Option (List Int)} {gi:SPr → Int → List Int → Option (List Int)} (hg:FAt x (k + 1) g) (hi:FIm x k gi):FAt x k (b_a gi g):=by
 intro a b ha hb
 have h6:=h.os.1
 have hp:=(h.os.2 k hk).pos
 have ok:=h.okAt (k:=k + 1) (by omega)
 have ok0:=h.okAt (k:=k) (by omega)
 obtain ⟨hal,har⟩:=V_at h.os (x.Orders.length - k) k a (by omega) ha
 obtain ⟨hbl,hbr⟩:=V_at h.os (x.Orders.length - k) k b (by omega) hb
 rw [suf_cons hk] at ha hb ok0
 obtain ⟨a0,a,rfl⟩:∃ a0 a',a = a0 :: a':=by cases a with | nil => grind | cons p q => simp
 obtain ⟨b0,b,rfl⟩:∃ a0 a',b = a0 :: a':=by cases b with | nil => grind | cons p q => simp
 obtain ⟨⟨a1,a2⟩,ha⟩:=ha
 obtain ⟨⟨b1,b2⟩,hb⟩:=hb
 have hor:(lvl x k).o = at0 x.Orders k:=rfl
 rw [hor] at a2 b2
 unfold b_a
 rw [decide_eq_false (by omega),cnd_f,own_spec (by grind[zeros_length]),bs,own_spec (by simp [zeros_length] at hbl ⊢;omega),bs,z_get,bs,z_get,bs,Int.toNat_natCast,z_set,z_set,z_zero,z_zero]
 have hsig:∀ u,V (suf x (k + 1)) u → V (suf x (k + 1)) (sig (suf x (k + 1)) (lvl x k) u):=by grind[sig_in]
 have hit:V (suf x (k + 1)) (iter b0.toNat (sig (suf x (k + 1)) (lvl x k)) a):=iter_in hsig _ ha
 rw [iter_loop' (S:=V (suf x (k + 1))) (fun u => zeros (k + 1) ++ u) (sig (suf x (k + 1)) (lvl x k)) b0 b1 hsig (fun u q hu hq => by
   unfold l1_a
   simp only
   rw [z_get,bs,decide_eq_true hq,cnd_t,hi u hu,bs,rng_of (by omega) (by omega),bs,cs]) (fun u hu => by
   unfold l1_a
   simp only
   rw [z_get,bs,decide_eq_false (by omega),cnd_f]) ha,bs,rng_of (by omega) (by omega),bs,cs,hg _ _ hit hb,bs,bs,bs,rng_of (by omega) (by omega),bs,ixO_at hk,bs]
 have hm:=mul_in ok hit hb
 have hml:=(V_at h.os (x.Orders.length - (k + 1)) (k + 1) _ (by omega) hm).1
 have own:∀ u,V (suf x (k + 1)) u → f_am (zeros (k + 1) ++ u) = some (zeros (k + 1) ++ u):=fun u hu => own_spec (by
  have:=(V_at h.os (x.Orders.length - (k + 1)) (k + 1) _ (by omega) hu).1
  grind[zeros_length])
 rw [suf_cons hk,mul_cons,hor]
 by_cases hge:a0 + b0 ≥ at0 x.Orders k
 ·have t1:=(h.tl k hk).1
  have hw:=exp_V t1 hk
  have hwl:=h.pl
  rw [decide_eq_true hge,cnd_t,if_pos hge,bs,rng_of (by omega) (by omega),bs,bs,ixO_d [] (by omega),bs,exp_split t1 hk,hg _ _ hw hm,bs,own _ (mul_in ok hw hm),bs]
  rw [← z_zero,z_get,bs,z_set]
  rfl
 ·rw [decide_eq_false hge,cnd_f,if_neg hge,own _ hm,bs,← z_zero,z_get,bs,z_set]
theorem spec_fuel {x:SPr} (h:Pres x):∀ (d k:Nat),k + d = x.Orders.length → (∀ m,2 * d + 1 ≤ m → FAt x k (fN_a m)) ∧ (1 ≤ d → ∀ m,2 * d ≤ m → FIm x k (fN_f m))
 | 0,k,hk => by
  refine ⟨fun m hm a b ha hb => ?_,fun h => by omega⟩
  have h6:=h.os.1
  obtain ⟨m,rfl⟩:∃ m',m = m' + 1:=⟨m - 1,by omega⟩
  show b_a _ _ x k _ _ = _
  unfold b_a
  rw [decide_eq_true (by omega),cnd_t,lenOk_nat (by omega),bs,suf_nil (by omega)]
  grind[mul,zeros]
 | d + 1,k,hk => by
  obtain ⟨h1,h2⟩:=spec_fuel h d (k + 1) (by omega)
  have hI:∀ m,2 * (d + 1) ≤ m → FIm x k (fN_f m):=fun m hm => by
   obtain ⟨m,rfl⟩:∃ m',m = m' + 1:=⟨m - 1,by omega⟩
   exact image_step h (by omega) (h1 m (by omega))
  refine ⟨fun m hm => ?_,fun _ => hI⟩
  obtain ⟨m,rfl⟩:∃ m',m = m' + 1:=⟨m - 1,by omega⟩
  exact at_step h (by omega) (h1 m (by omega)) (hI m (by omega))
theorem spec_At {x:SPr} (h:Pres x) {k:Nat} (hk:k ≤ x.Orders.length):FAt x k f_a:=fun a b ha hb =>
 fuelO_of (2 * (x.Orders.length - k) + 1) fun m hm => (spec_fuel h (x.Orders.length - k) k (by omega)).1 m hm a b ha hb
theorem spec_Image {x:SPr} (h:Pres x) {k:Nat} (hk:k < x.Orders.length):FIm x k f_f:=fun v hv =>
 fuelO_of (2 * (x.Orders.length - k)) fun m hm => (spec_fuel h (x.Orders.length - k) k (by omega)).2 (by omega) m hm v hv
end Go.Pl

namespace Go.Pl
open Go Go.Ab Go.Wk Go.Pc
theorem cons_suffix:∀ {P Q:Pcp},Q <:+ P → Cons P → Cons Q
 | [],Q,h,_ => by
  grind
 | l :: P,Q,h,hc => by
  rcases List.suffix_cons_iff.1 h with rfl | h
  ·exact hc
  ·exact cons_suffix h hc.1
theorem ok_suffix:∀ {P Q:Pcp},Q <:+ P → Pc.Ok P → Pc.Ok Q
 | [],Q,h,_ => by
  grind
 | l :: P,Q,h,hc => by
  rcases List.suffix_cons_iff.1 h with rfl | h
  ·exact hc
  ·exact ok_suffix h hc.2.2.2.2
theorem suf_suffix (x:SPr) (k:Nat):suf x (k + 1) <:+ suf x k:=by
 grind[suf_cons,suf_nil]
theorem cons_add {x:SPr} {k:Nat} (h:Cons (suf x k)):∀ i,Cons (suf x (k + i))
 | 0 => h
 | i + 1 => cons_suffix (suf_suffix x (k + i)) (cons_add h i)
theorem grpAt {x:SPr} (h:Pres x) {k:Nat} (hk:k ≤ x.Orders.length) (hc:Cons (suf x k)):Grp (V (suf x k)) (mul (suf x k)) (zeros (suf x k).length):=group _ (h.okAt hk) hc
theorem V_split {x:SPr}:∀ (i k:Nat) (v:Vec),k + i ≤ x.Orders.length → V (suf x k) v → ∃ q v',v = q ++ v' ∧ q.length = i ∧ V (suf x (k + i)) v' ∧
  ∀ a b,V (suf x (k + i)) a → V (suf x (k + i)) b → mul (suf x k) (q ++ a) (zeros i ++ b) = q ++ mul (suf x (k + i)) a b
 | 0,k,v,_,hv => ⟨[],v,rfl,rfl,hv,fun a b _ _ => rfl⟩
 | i + 1,k,v,hk,hv => by
  rw [suf_cons (by omega)] at hv
  match v,hv with
  | e :: v,hv =>
   obtain ⟨q,v',h1,h2,h3,h4⟩:=V_split i (k + 1) v (by omega) hv.2
   rw [show k + 1 + i = k + (i + 1) from by omega] at h3 h4
   refine ⟨e :: q,v',by grind,by simp [h2],h3,fun a b ha hb => ?_⟩
   have he:=hv.1
   rw [suf_cons (by omega)]
   show mul (lvl x k :: suf x (k + 1)) (e :: (q ++ a)) (0 :: (zeros i ++ b)) = _
   rw [mul_cons,Int.add_zero,if_neg (by omega)]
   grind[iter]
def FTV (x:SPr) (k:Nat) (g:SPr → List Int → List Int → Option (List Int)):Prop :=
 ∀ p v u,p.length = k → V (suf x k) v → V (suf x k) u → g x (p ++ v) (zeros k ++ u) = some (p ++ mul (suf x k) v u)
def FTG (x:SPr) (k:Nat) (g:SPr → List Int → Int → Option (List Int)):Prop :=
 ∀ p v,p.length = k → V (suf x k) v → g x (p ++ v) (k:Int) = some (p ++ mul (suf x k) v (1 :: zeros (x.Orders.length - (k + 1))))
theorem coll_loop {x:SPr} (h:Pres x) {k:Nat} (hk:k < x.Orders.length) {g:SPr → List Int → List Int → Option (List Int)} (hg:FTV x (k + 1) g) {t:Vec} (ht:V (suf x (k + 1)) t)
  {body1:List Int × Int → Int → List Int × Int → Option ((List Int × Int) ⊕ List Int)} {body2:List Int × Int → Option ((List Int × Int) ⊕ List Int)}
  (hb2:∀ s,body2 s = cond (decide (s.2 < (t.length:Int))) ((ixO t s.2).bind fun v17 => (loopO (body1 s v17) (s.1,0)).bind fun r => (rng (s.2 + 1)).bind fun v => some (.inl (r,v))) (some (.inr s.1)))
  (hb1:∀ s v q,body1 s v q = cond (decide (q.2 < v)) ((ixO x.Conjugates (k:Int)).bind fun cl => (ixO cl s.2).bind fun c => (g x q.1 c).bind fun r => (rng (q.2 + 1)).bind fun w => some (.inl (r,w))) (some (.inr q.1)))
  {p:Vec} (hp:p.length = k + 1) {u:Vec} (hu:V (suf x (k + 1)) u):loopO body2 (p ++ u,0) = some (p ++ img (mul (suf x (k + 1))) (lvl x k).cs t u):=by
 have h6:=h.os.1
 have ok:=h.okAt (k:=k + 1) (by omega)
 have ok0:=h.okAt (k:=k) (by omega)
 rw [suf_cons hk] at ok0
 obtain ⟨htl,htr⟩:=V_at h.os (x.Orders.length - (k + 1)) (k + 1) t (by omega) ht
 have hcl:(lvl x k).cs.length = x.Orders.length - (k + 1):=by rw [ok0.2.2.1,suf_length]
 have hA:∀ i,V (suf x (k + 1)) (img (mul (suf x (k + 1))) ((lvl x k).cs.take i) (t.take i) u):=fun i =>
  img_in' (mul_in ok) _ _ (fun c hc => ok0.2.2.2.1 c (by grind)) hu
 have:=loopO_seq (body:=body2) (r:=p ++ img (mul (suf x (k + 1))) (lvl x k).cs t u) (fun i => (p ++ img (mul (suf x (k + 1))) ((lvl x k).cs.take i) (t.take i) u,(i:Int))) t.length (fun i hi => by
  have hr:=htr i (by omega)
  obtain ⟨c,c1,c2,c3,c4⟩:=conj_at h hk (i:=i) (by omega)
  rw [hb2]
  simp only
  rw [lt_t hi,cnd_t,ixO_at hi,bs]
  rw [iter_loop' (S:=V (suf x (k + 1))) (fun u => p ++ u) (fun u => mul (suf x (k + 1)) u c) (at0 t i) hr.1 (by grind[mul_in]) (fun u q hu hq => by
   rw [hb1]
   simp only
   rw [decide_eq_true hq,cnd_t,c1,bs,c2,bs,hg p u c hp hu c3,bs,rng_of (by omega) (by omega),bs,cs]) (by grind) (hA i),bs,rng_of (by omega) (by omega),bs,cs]
  rw [img_take _ _ _ _ (by omega) (by omega),c4]) (by
  grind)
 grind[img]
theorem p_get {p v:Vec} {a:Int} {k:Nat} (hp:p.length = k):ixO (p ++ a :: v) (k:Int) = some a:=by
 rw [ixO_nat,List.getElem?_append_right (by omega),hp,Nat.sub_self];rfl
theorem p_set {p v:Vec} {a b:Int} {k:Nat} (hp:p.length = k):(p ++ a :: v).set k b = p ++ b :: v:=by
 simp_all
theorem gen_step {x:SPr} (h:Pres x) {k:Nat} (hk:k < x.Orders.length) (hc:Cons (suf x (k + 1))) {g:SPr → List Int → List Int → Option (List Int)} (hg:FTV x (k + 1) g):FTG x k (b_b g):=by
 intro p v hp hv
 have h6:=h.os.1
 have G:=grpAt h (k:=k + 1) (by omega) hc
 have ok:=h.okAt (k:=k + 1) (by omega)
 have ok0:=h.okAt (k:=k) (by omega)
 obtain ⟨hvl,hvr⟩:=V_at h.os (x.Orders.length - k) k v (by omega) hv
 rw [suf_cons hk] at hv ok0
 obtain ⟨e,t,rfl⟩:∃ a0 a',v = a0 :: a':=by cases v with | nil => grind | cons p q => simp
 obtain ⟨⟨e1,e2⟩,ht⟩:=hv
 have hor:(lvl x k).o = at0 x.Orders k:=rfl
 rw [hor] at e2
 have hpr:=(h.os.2 k hk).pos
 have htl:=(V_at h.os (x.Orders.length - (k + 1)) (k + 1) t (by omega) ht).1
 have hsl:=suf_length x (k + 1)
 unfold b_b
 have hs:sliceO (p ++ e :: t) ((k + 1:Nat):Int) ((p ++ e :: t).length:Int) = some t:=by
  unfold sliceO
  rw [if_pos (by grind)]
  have e3:(p ++ e :: t).drop (k + 1) = t:=by
   rw [List.drop_append,List.drop_of_length_le (by omega),hp,show k + 1 - k = 1 from by omega];rfl
  grind[Int.toNat_natCast]
 have hclone:f_V t = some t:=by
  grind[f_V,appO_of]
 rw [rng_of (by omega) (by omega),bs,cs,hs,bs,hclone,bs]
 have hz:=loopO_seq (body:=l1_b k t) (r:=(p ++ [e]) ++ zeros t.length) (fun i => ((p ++ [e]) ++ (zeros i ++ t.drop i),(i:Int))) t.length (fun i hi => by
  have hl:((p ++ [e]) ++ zeros i).length = k + 1 + i:=by grind[zeros_length]
  unfold l1_b
  simp only
  rw [lt_t hi,cnd_t,rng_of (by omega) (by omega),bs,rng_of (by omega) (by omega),bs,show (k:Int) + 1 + (i:Int) = ((k + 1 + i:Nat):Int) from by omega,ixO_nat,← List.append_assoc,List.getElem?_append_right (by omega),hl,Nat.sub_self,
   List.drop_eq_getElem_cons hi,List.getElem?_cons_zero,bs,rng_of (by omega) (by omega),bs,cs,Int.toNat_natCast,List.set_append_right _ _ (by omega),hl,Nat.sub_self,List.set_cons_zero,zeros_succ']
  simp) (by
  unfold l1_b
  simp)
 simp only [zeros,List.replicate_zero,List.drop_zero,List.nil_append,List.append_assoc,List.singleton_append] at hz
 rw [show ((0:Nat):Int) = 0 from rfl] at hz
 rw [hz,bs,Int.toNat_natCast,p_get hp,bs,rng_of (by omega) (by omega),bs,bs,p_set hp,p_get hp,bs,ixO_at hk,bs]
 have hz2:List.replicate t.length (0:Int) = zeros (suf x (k + 1)).length:=by rw [hsl,htl];rfl
 rw [suf_cons hk,mul_cons,hor]
 have hone:mul (suf x (k + 1)) (iter (1:Int).toNat (sig (suf x (k + 1)) (lvl x k)) t) (zeros (x.Orders.length - (k + 1))) = sig (suf x (k + 1)) (lvl x k) t:=by
  rw [← hsl]
  show mul _ (sig (suf x (k + 1)) (lvl x k) t) _ = _
  exact G.oner (sig_in ok0 ht)
 rw [hone,hz2]
 by_cases heq:e + 1 = at0 x.Orders k
 ·have t1:=(h.tl k hk).1
  have hw:=exp_V t1 hk
  have hwl:=h.pl
  have hp1:(p ++ [(0:Int)]).length = k + 1:=by simp [hp]
  rw [show (e + 1 == at0 x.Orders k) = true from by grind,cnd_t,if_pos (by omega),bs,ixO_d [] (by omega),bs,p_set hp]
  have hz3:p ++ 0 :: zeros (suf x (k + 1)).length = (p ++ [0]) ++ zeros (suf x (k + 1)).length:=by simp
  rw [hz3,exp_split t1 hk,hg _ _ _ hp1 G.ein hw,bs,G.onel hw]
  rw [coll_loop (body1:=l2_b g x k) (body2:=l3_b g x k t) h hk hg ht (fun _ => rfl) (fun _ _ _ => rfl) hp1 hw,bs]
  rw [img_acc G.toMon _ _ ok0.2.2.2.1 hw,show e + 1 - at0 x.Orders k = 0 from by omega]
  simp only [List.append_assoc,List.singleton_append]
  rfl
 ·have hp1:(p ++ [e + 1]).length = k + 1:=by simp [hp]
  rw [show (e + 1 == at0 x.Orders k) = false from by grind,cnd_f,if_neg (by omega)]
  have hz3:p ++ (e + 1) :: zeros (suf x (k + 1)).length = (p ++ [e + 1]) ++ zeros (suf x (k + 1)).length:=by simp
  rw [hz3,coll_loop (body1:=l4_b g x k) (body2:=l5_b g x k t) h hk hg ht (fun _ => rfl) (fun _ _ _ => rfl) hp1 G.ein,bs]
  simp only [List.append_assoc,List.singleton_append]
  rfl
theorem unit_eq {n i:Nat} (h:i < n):unit n i = zeros i ++ 1 :: zeros (n - (i + 1)):=by
 have:zeros n = zeros i ++ 0 :: zeros (n - (i + 1)):=by
  simp only [zeros]
  rw [← List.replicate_succ,List.replicate_append_replicate]
  grind
 grind[unit,z_set]
theorem units_length (n:Nat):(units n).length = n:=by simp [units]
theorem units_getD {n i:Nat} (h:i < n):(units n).getD i [] = unit n i:=by
 simp [units,List.getD_eq_getElem?_getD,h]
theorem vec_step {x:SPr} (h:Pres x) {k:Nat} (hk:k ≤ x.Orders.length) (hc:Cons (suf x k)) {g:SPr → List Int → Int → Option (List Int)} (hg:∀ j,k ≤ j → j < x.Orders.length → FTG x j g):FTV x k (b_c g):=by
 intro p v u hp hv hu
 have h6:=h.os.1
 have G:=grpAt h hk hc
 have ok:=h.okAt hk
 obtain ⟨hul,hur⟩:=V_at h.os (x.Orders.length - k) k u (by omega) hu
 have hsl:=suf_length x k
 have hV1:∀ j,j ≤ x.Orders.length → j < x.Orders.length → V (suf x j) (1 :: zeros (x.Orders.length - (j + 1))):=fun j hj hj' => by
  rw [suf_cons hj']
  have:=(h.os.2 j hj').pos
  refine ⟨⟨by omega,by show 1 < at0 x.Orders j;omega⟩,?_⟩
  rw [← suf_length]
  exact V_zeros (h.okAt (by omega))
 have hUn:∀ i,i < x.Orders.length - k → V (suf x k) (unit (x.Orders.length - k) i):=by grind[V_unit]
 have hUs:∀ c ∈ units (x.Orders.length - k),V (suf x k) c:=fun c hc => by
  simp only [units,List.mem_map,List.mem_range] at hc
  grind
 have hA:∀ i,V (suf x k) (img (mul (suf x k)) ((units (x.Orders.length - k)).take i) (u.take i) v):=fun i =>
  img_in' (mul_in ok) _ _ (by grind) hv
 have hgen:∀ i w,i < x.Orders.length - k → V (suf x k) w → g x (p ++ w) ((k + i:Nat):Int) = some (p ++ mul (suf x k) w (unit (x.Orders.length - k) i)):=fun i w hi hw => by
  obtain ⟨q,w',h1,h2,h3,h4⟩:=V_split i k w (by omega) hw
  have h5:=hg (k + i) (by omega) (by omega) (p ++ q) w' (by grind) h3
  rw [List.append_assoc,← h1] at h5
  rw [h5,unit_eq hi,h1,show x.Orders.length - k - (i + 1) = x.Orders.length - (k + i + 1) from by omega,h4 w' _ h3 (hV1 (k + i) (by omega) (by omega)),List.append_assoc]
 unfold b_c
 have hul2:(zeros k ++ u).length = x.Orders.length:=by grind[zeros_length]
 have:=loopO_seq (body:=l2_c g x (zeros k ++ u)) (r:=p ++ mul (suf x k) v u) (fun j => (p ++ img (mul (suf x k)) ((units (x.Orders.length - k)).take (j - k)) (u.take (j - k)) v,(j:Int))) x.Orders.length (fun j hj => by
  unfold l2_c
  simp only
  rw [hul2,lt_t hj,cnd_t]
  rcases Nat.lt_or_ge j k with hjk | hjk
  ·have e0:ixO (zeros k ++ u) (j:Int) = some 0:=by
    rw [ixO_nat,List.getElem?_append_left (by grind)]
    grind[zeros]
   rw [e0,bs,show j - k = 0 from by omega,show j + 1 - k = 0 from by omega]
   rw [loopO_eq]
   unfold l1_c
   simp only
   rw [show decide ((0:Int) < 0) = false from rfl,cnd_f]
   simp only
   rw [bs,rng_of (by omega) (by omega),bs,cs]
  ·obtain ⟨i,rfl⟩:∃ i,j = k + i:=⟨j - k,by omega⟩
   have hi:i < x.Orders.length - k:=by omega
   have hr:=hur i hi
   rw [z_ix (by omega),bs,show k + i - k = i from by omega,show k + i + 1 - k = i + 1 from by omega]
   rw [iter_loop' (S:=V (suf x k)) (fun w => p ++ w) (fun w => mul (suf x k) w (unit (x.Orders.length - k) i)) (at0 u i) hr.1 (by grind[mul_in]) (fun w q hw hq => by
    unfold l1_c
    simp only
    rw [decide_eq_true hq,cnd_t,hgen i w hi hw,bs,rng_of (by omega) (by omega),bs,cs]) (fun w hw => by
    unfold l1_c
    simp) (hA i),bs,rng_of (by omega) (by omega),bs,cs]
   rw [img_take _ _ _ _ (by grind[units_length]) (by omega),units_getD hi]) (by
  unfold l2_c
  simp only
  rw [hul2,lt_f,cnd_f,List.take_of_length_le (by grind[units_length]),List.take_of_length_le (by omega),img_acc G.toMon _ _ hUs hv]
  have hn:=normal (suf x k) ok (fun Q hQ => (group Q (ok_suffix hQ ok) (cons_suffix hQ hc)).toMon) u hu
  grind)
 simp only [Nat.zero_sub,List.take_zero,img] at this
 grind
theorem impl_fuel {x:SPr} (h:Pres x):∀ (d k:Nat),k + d = x.Orders.length → Cons (suf x k) → (∀ m,2 * d + 1 ≤ m → FTV x k (fN_c m))
 | d,k,hk,hc => fun m hm => by
  obtain ⟨m,rfl⟩:∃ m',m = m' + 1:=⟨m - 1,by omega⟩
  refine vec_step h (by omega) hc fun j hj hjn => ?_
  obtain ⟨m,rfl⟩:∃ m',m = m' + 1:=⟨m - 1,by omega⟩
  have hcj:Cons (suf x (j + 1)):=by
   have:=cons_add hc (j + 1 - k)
   grind
  exact gen_step h hjn hcj (impl_fuel h (x.Orders.length - (j + 1)) (j + 1) (by omega) hcj m (by omega))
 termination_by d => d
 decreasing_by omega
theorem impl_TV {x:SPr} (h:Pres x) {k:Nat} (hk:k ≤ x.Orders.length) (hc:Cons (suf x k)):FTV x k f_c:=fun p v u hp hv hu =>
 fuelO_of (2 * (x.Orders.length - k) + 1) fun m hm => impl_fuel h (x.Orders.length - k) k (by omega) hc m hm p v u hp hv hu
theorem impl_TG {x:SPr} (h:Pres x) {k:Nat} (hk:k < x.Orders.length) (hc:Cons (suf x (k + 1))):FTG x k f_b:=fun p v hp hv =>
 fuelO_of (2 * (x.Orders.length - k)) fun m hm => by
  obtain ⟨m,rfl⟩:∃ m',m = m' + 1:=⟨m - 1,by omega⟩
  exact gen_step h hk hc (impl_fuel h (x.Orders.length - (k + 1)) (k + 1) (by omega) hc m (by omega)) p v hp hv
end Go.Pl

namespace Go.Pl
open Go Go.Ab Go.Wk Go.Pc
abbrev fv (k:Nat) (v:Vec):Vec:=zeros k ++ v
section
variable {x:SPr} (h:Pres x) {k:Nat} (hk:k ≤ x.Orders.length) (hc:Cons (suf x k))
 include h hk
theorem V_len {v:Vec} (hv:V (suf x k) v):v.length = x.Orders.length - k:=(V_at h.os (x.Orders.length - k) k v (by omega) hv).1
theorem fv_len {v:Vec} (hv:V (suf x k) v):(fv k v).length = x.Orders.length:=by
 grind[zeros_length,V_len]
theorem rep_z:List.replicate x.Orders.length (0:Int) = fv k (zeros (suf x k).length):=by
 have _:=h
 rw [suf_length];simp only [fv,zeros,List.replicate_append_replicate];grind
 include hc
theorem unit_V {i:Nat} (hi:i < x.Orders.length - k):V (suf x k) (unit (x.Orders.length - k) i):=by
 have _:=hc
 have:=suf_length x k
 rw [← this] at hi ⊢
 exact V_unit (h.okAt hk) hi
theorem impl_gen {p:Vec} (hp:p.length = k) {i:Nat} (hi:i < x.Orders.length - k) {w:Vec} (hw:V (suf x k) w):f_b x (p ++ w) ((k + i:Nat):Int) = some (p ++ mul (suf x k) w (unit (x.Orders.length - k) i)):=by
 obtain ⟨q,w',h1,h2,h3,h4⟩:=V_split i k w (by omega) hw
 have hcj:Cons (suf x (k + i + 1)):=cons_add hc (i + 1)
 have h5:=impl_TG h (k:=k + i) (by omega) hcj (p ++ q) w' (by grind) h3
 have h7:V (suf x (k + i)) (1 :: zeros (x.Orders.length - (k + i + 1))):=by
  have hj':k + i < x.Orders.length:=by omega
  rw [suf_cons hj']
  have:=(h.os.2 (k + i) hj').pos
  refine ⟨⟨by omega,by show 1 < at0 x.Orders (k + i);omega⟩,?_⟩
  rw [← suf_length]
  exact V_zeros (h.okAt (by omega))
 grind[unit_eq]
theorem impl_mul {a b:Vec} (ha:V (suf x k) a) (hb:V (suf x k) b):f_c x (fv k a) (fv k b) = some (fv k (mul (suf x k) a b)) :=
 impl_TV h hk hc (zeros k) a b (zeros_length k) ha hb
theorem clone_fv {a:Vec} (ha:V (suf x k) a):f_V (fv k a) = some (fv k a):=by
 have _:=hc
 have:=fv_len h hk ha
 have h6:=h.os.1
 grind[f_V,appO_of]
theorem impl_multiply {a b:Vec} (ha:V (suf x k) a) (hb:V (suf x k) b):f_aT x (fv k a) (fv k b) = some (fv k (mul (suf x k) a b)):=by
 grind[f_aT,clone_fv,impl_mul]
theorem impl_power {c:Vec} (hcv:V (suf x k) c) {e:Int} (e0:0 ≤ e) (e1:e ≤ 1000):f_at x (fv k c) e = some (fv k (pw (mul (suf x k)) (zeros (suf x k).length) c e.toNat)):=by
 have h6:=h.os.1
 have ok:=h.okAt hk
 unfold f_at
 rw [fv_len h hk hcv,lenOk_nat (by omega),bs,rep_z h hk]
 rw [iter_loop' (S:=V (suf x k)) (body:=l1_at x (fv k c) e) (fun u => fv k u) (fun u => mul (suf x k) u c) e e0 (by grind[mul_in]) (fun u i hu hi => by
  unfold l1_at
  simp only
  rw [decide_eq_true hi,cnd_t,impl_mul h hk hc hu hcv,bs,rng_of (by omega) (by omega),bs,cs]) (fun u hu => by
  unfold l1_at
  simp) (V_zeros ok),bs]
 rfl
theorem impl_invert {v:Vec} (hv:V (suf x k) v):∃ w,V (suf x k) w ∧ mul (suf x k) v w = zeros (suf x k).length ∧ f_M x (fv k v) = some (fv k w):=by
 have h6:=h.os.1
 have ok:=h.okAt hk
 have G:=grpAt h hk hc
 have hvl:=fv_len h hk hv
 have hsl:=suf_length x k
 unfold f_M
 rw [clone_fv h hk hc hv,bs,hvl,lenOk_nat (by omega),bs,rep_z h hk]
 let I:Nat → (List Int × List Int × Int) → Prop:=fun j s => ∃ A w,s = (fv k A,fv k w,(j:Int)) ∧ V (suf x k) A ∧ V (suf x k) w ∧ mul (suf x k) v w = A ∧ ∃ A',A = zeros (j - k) ++ A'
 have key:=loopO_tot (body:=l2_M x (fv k v)) (Q:=fun r => ∃ w,V (suf x k) w ∧ mul (suf x k) v w = zeros (suf x k).length ∧ r = fv k w) I x.Orders.length (fun j s hj hI => by
  obtain ⟨A,w,rfl,hA,hw,hm,A',hA'⟩:=hI
  left
  unfold l2_M
  simp only
  rw [hvl,lt_t hj,cnd_t]
  rcases Nat.lt_or_ge j k with hjk | hjk
  ·have e0:ixO (fv k A) (j:Int) = some 0:=by
    grind[ixO_nat,zeros]
   rw [loopO_eq]
   unfold l1_M
   simp only
   rw [e0,bs,show ((0:Int) != 0) = false from rfl,cnd_f]
   simp only
   rw [bs,rng_of (by omega) (by omega),bs,cs]
   grind
  ·obtain ⟨i,rfl⟩:∃ i,j = k + i:=⟨j - k,by omega⟩
   have hi:i < x.Orders.length - k:=by omega
   rw [show k + i - k = i from by omega] at hA'
   have hAl:=V_len h hk hA
   obtain ⟨a0,A',rfl⟩:∃ p q,A' = p :: q:=by
    cases A' with
    | nil => grind[zeros_length]
    | cons p q => simp
   have hpr:=(h.os.2 (k + i) hj).pos
   have inner:=loopO_tot (body:=l1_M x (fv k A,fv k w,((k + i:Nat):Int))) (s:=(fv k A,fv k w))
    (Q:=fun r => ∃ B u,r = (fv k B,fv k u) ∧ V (suf x k) B ∧ V (suf x k) u ∧ mul (suf x k) v u = B ∧ ∃ B',B = zeros (i + 1) ++ B')
    (fun q s => ∃ B u b B',s = (fv k B,fv k u) ∧ V (suf x k) B ∧ V (suf x k) u ∧ mul (suf x k) v u = B ∧ B = zeros i ++ b :: B' ∧ (b = 0 ∨ b = a0 + q)) 10 (fun q s hq hs => by
     obtain ⟨B,u,b,B',rfl,hB,hu,hmu,hB',hb⟩:=hs
     have hz:ixO (fv k B) ((k + i:Nat):Int) = some b:=by
      rw [fv,z_ix (by grind[V_len]),hB',at0,List.getD_eq_getElem?_getD,List.getElem?_append_right (by rw [zeros_length];omega),zeros_length,Nat.sub_self];rfl
     unfold l1_M
     simp only
     rw [hz,bs]
     by_cases hb0:b = 0
     ·subst hb0
      right
      rw [show ((0:Int) != 0) = false from rfl,cnd_f]
      exact ⟨_,rfl,B,u,rfl,hB,hu,hmu,B',by rw [hB',z_zero]⟩
     ·left
      have hbq:b = a0 + q:=by omega
      rw [show (b != 0) = true from by grind,cnd_t,impl_gen h hk hc (zeros_length k) hi hB,bs,impl_gen h hk hc (zeros_length k) hi hu,bs]
      have hU:=unit_V h hk hc hi
      obtain ⟨q',v',h1,h2,h3,h4⟩:=V_split i k B (by omega) hB
      have hqv:q' = zeros i ∧ v' = b :: B':=by
       grind[List.append_inj,zeros_length]
      obtain ⟨rfl,rfl⟩:=hqv
      have h7:V (suf x (k + i)) (1 :: zeros (x.Orders.length - (k + i + 1))):=by
       rw [suf_cons hj]
       refine ⟨⟨by omega,by show 1 < at0 x.Orders (k + i);omega⟩,?_⟩
       rw [← suf_length]
       exact V_zeros (h.okAt (by omega))
      have h8:=h4 (b :: B') _ h3 h7
      rw [show x.Orders.length - (k + i + 1) = x.Orders.length - k - (i + 1) from by omega,← unit_eq hi,← h1,suf_cons hj,mul_cons] at h8
      refine ⟨_,rfl,mul (suf x k) B (unit (x.Orders.length - k) i),mul (suf x k) u (unit (x.Orders.length - k) i),?_⟩
      have hor:(lvl x (k + i)).o = at0 x.Orders (k + i):=rfl
      rw [hor] at h8
      by_cases hge:b + 1 ≥ at0 x.Orders (k + i)
      ·rw [if_pos hge] at h8
       refine ⟨_,_,rfl,mul_in ok hB hU,mul_in ok hu hU,?_,h8,?_⟩
       ·rw [← G.assoc hv hu hU,hmu]
       ·left
        rw [suf_cons hj] at h3
        have:=h3.1.2
        omega
      ·rw [if_neg hge] at h8
       refine ⟨_,_,rfl,mul_in ok hB hU,mul_in ok hu hU,?_,h8,?_⟩
       ·rw [← G.assoc hv hu hU,hmu]
       omega) (fun s hs => by
     obtain ⟨B,u,b,B',rfl,hB,hu,hmu,hB',hb⟩:=hs
     have hz:ixO (fv k B) ((k + i:Nat):Int) = some b:=by
      rw [fv,z_ix (by grind[V_len]),hB',at0,List.getD_eq_getElem?_getD,List.getElem?_append_right (by rw [zeros_length];omega),zeros_length,Nat.sub_self];rfl
     have hbr:=(V_at h.os (x.Orders.length - k) k B (by omega) hB).2 i hi
     have ha:=(V_at h.os (x.Orders.length - k) k A (by omega) hA).2 i hi
     have e1:at0 B i = b:=by rw [hB',at0,List.getD_eq_getElem?_getD,List.getElem?_append_right (by grind[zeros_length]),zeros_length,Nat.sub_self];rfl
     have e2:at0 A i = a0:=by rw [hA',at0,List.getD_eq_getElem?_getD,List.getElem?_append_right (by grind[zeros_length]),zeros_length,Nat.sub_self];rfl
     have hb0:b = 0:=by omega
     subst hb0
     unfold l1_M
     simp only
     rw [hz,bs,show ((0:Int) != 0) = false from rfl,cnd_f]
     exact ⟨_,rfl,B,u,rfl,hB,hu,hmu,B',by rw [hB',z_zero]⟩) (by grind)
   obtain ⟨r,r1,B,u,rfl,hB,hu,hmu,B',hB'⟩:=inner
   rw [r1,bs,rng_of (by omega) (by omega),bs,cs]
   grind) (fun s hI => by
  obtain ⟨A,w,rfl,hA,hw,hm,A',hA'⟩:=hI
  unfold l2_M
  simp only
  rw [hvl,lt_f,cnd_f]
  refine ⟨_,rfl,w,hw,?_,rfl⟩
  have hAl:=V_len h hk hA
  rw [hA',List.length_append,zeros_length] at hAl
  grind) (s:=(fv k v,fv k (zeros (suf x k).length),0))
  ⟨v,_,rfl,hv,V_zeros ok,G.oner hv,v,by rw [Nat.zero_sub];rfl⟩
 grind
theorem impl_conjugate {a b:Vec} (ha:V (suf x k) a) (hb:V (suf x k) b):∃ c,V (suf x k) c ∧ mul (suf x k) b c = mul (suf x k) a b ∧ f_aU x (fv k a) (fv k b) = some (fv k c):=by
 have ok:=h.okAt hk
 have G:=grpAt h hk hc
 obtain ⟨w,hw,hm,h1⟩:=impl_invert h hk hc hb
 have hab:=mul_in ok ha hb
 refine ⟨mul (suf x k) w (mul (suf x k) a b),mul_in ok hw hab,?_,?_⟩
 ·rw [← G.assoc hb hw hab,hm,G.onel hab]
 grind[f_aU,impl_multiply]
end
theorem equal_impl {a b:List Int} (h:a.length ≤ 1000000):f_af a b = some (a == b) :=
 eq_fn (t:=fun u v => some (u == v)) (body:=l1_af a b) rfl (fun _ => rfl) (by omega) fun _ _ _ _ => rfl
theorem same_spec {a b:List Int} (h:a.length ≤ 1000000):f_an a b = some (a == b):=equal_impl h
end Go.Pl

namespace Go.Pl
open Go Go.Ab Go.Wk Go.Pc
theorem chkB {ρ:Type} {body:Int → Option (Int ⊕ (Unit ⊕ ρ))} (n i0:Nat) (hn:i0 ≤ n) (P:Nat → Prop) (B:ρ → Prop)
  (h:∀ i,i0 ≤ i → i < n → (∀ j,i0 ≤ j → j < i → P j) → (body (i:Int) = some (.inl ((i + 1:Nat):Int)) ∧ P i) ∨ (∃ r,body (i:Int) = some (.inr (.inr r)) ∧ B r ∧ ¬ P i))
  (he:body (n:Int) = some (.inr (.inl ()))) :
  (loopO body (i0:Int) = some (.inl ()) ∧ ∀ j,i0 ≤ j → j < n → P j) ∨ ∃ r i,i0 ≤ i ∧ i < n ∧ loopO body (i0:Int) = some (.inr r) ∧ B r ∧ ¬ P i:=by
 have key:∀ k i,i0 ≤ i → i + k = n → (∀ j,i0 ≤ j → j < i → P j) → (loopO body (i:Int) = some (.inl ()) ∧ ∀ j,i0 ≤ j → j < n → P j) ∨ ∃ r q,i0 ≤ q ∧ q < n ∧ loopO body (i:Int) = some (.inr r) ∧ B r ∧ ¬ P q:=by
  intro k
  induction k with
  | zero =>
   intro i hi hk hp
   obtain rfl:i = n:=by omega
   grind[loopO_eq]
  | succ k ih =>
   intro i hi hk hp
   rcases h i hi (by omega) hp with ⟨h1,h2⟩ | ⟨r,h1,h2,h3⟩
   ·have:=ih (i + 1) (by omega) (by omega) (by grind)
    rw [loopO_eq,h1]
    exact this
   ·exact .inr ⟨r,i,hi,by omega,by rw [loopO_eq,h1],h2,h3⟩
 exact key (n - i0) i0 (Nat.le_refl _) (by omega) fun j a b => by omega
theorem loopO_meas {σ ρ:Type} {body:σ → Option (σ ⊕ ρ)} {Q:ρ → Prop} (I:σ → Prop) (m:σ → Nat)
  (h:∀ s,I s → (∃ s',body s = some (.inl s') ∧ I s' ∧ m s' < m s) ∨ ∃ r,body s = some (.inr r) ∧ Q r):∀ (k:Nat) (s:σ),m s ≤ k → I s → ∃ r,loopO body s = some r ∧ Q r
 | k,s,hk,hs => by
  rcases h s hs with ⟨s',h1,h2,h3⟩ | ⟨r,h1,h2⟩
  ·cases k with
   | zero => omega
   | succ k =>
    obtain ⟨r,h4,h5⟩:=loopO_meas I m h k s' (by omega) h2
    grind[loopO_eq]
  grind[loopO_eq]
theorem fv_inj {k:Nat} {a b:Vec}:(fv k a == fv k b) = true ↔ a = b:=by
 simp
theorem exp_drop {x:SPr} {v:List Int} {i k:Nat} (h:Exp x.Orders v i) (hk:k ≤ i + 1) (hn:k ≤ x.Orders.length):v = fv k (v.drop k) ∧ V (suf x k) (v.drop k):=by
 have h1:=h.1.1
 constructor
 ·apply List.ext_getElem?
  intro j
  rw [fv,List.getElem?_append]
  simp only [zeros,List.length_replicate,List.getElem?_replicate,List.getElem?_drop]
  split
  ·rename_i hj
   have h2:=h.2 j (by omega)
   grind
  grind
 ·refine V_of (x.Orders.length - k) k _ (by omega) (by grind) fun j hj => ?_
  have:=h.1.2 (k + j) (by omega)
  grind
structure LC (x:SPr) (k:Nat):Prop where
 c1:∀ j,k + 1 ≤ j → j < x.Orders.length → pw (mul (suf x (k + 1))) (zeros (suf x (k + 1)).length) ((lvl x k).cs.getD (j - (k + 1)) []) (at0 x.Orders j).toNat = sig (suf x (k + 1)) (lvl x k) ((x.Powers.getD j []).drop (k + 1))
 c2:∀ i,k + 1 ≤ i → i < x.Orders.length → ∀ j,i + 1 ≤ j → j < x.Orders.length →
  mul (suf x (k + 1)) ((lvl x k).cs.getD (j - (k + 1)) []) ((lvl x k).cs.getD (i - (k + 1)) []) = mul (suf x (k + 1)) ((lvl x k).cs.getD (i - (k + 1)) []) (sig (suf x (k + 1)) (lvl x k) (((x.Conjugates.getD i []).getD (j - (i + 1)) []).drop (k + 1)))
 c3:sig (suf x (k + 1)) (lvl x k) (lvl x k).w = (lvl x k).w
 c4:∀ j,k + 1 ≤ j → j < x.Orders.length → mul (suf x (k + 1)) (lvl x k).w (iter (lvl x k).o.toNat (sig (suf x (k + 1)) (lvl x k)) (unit (x.Orders.length - (k + 1)) (j - (k + 1)))) = mul (suf x (k + 1)) (unit (x.Orders.length - (k + 1)) (j - (k + 1))) (lvl x k).w
section
variable {x:SPr} (h:Pres x) {k:Nat} (hk:k < x.Orders.length) (hc:Cons (suf x (k + 1)))
 include h hk
theorem conj_at' {j:Nat} (h1:k + 1 ≤ j) (h2:j < x.Orders.length):ixO x.Conjugates (k:Int) = some (x.Conjugates.getD k []) ∧ ixO (x.Conjugates.getD k []) ((j:Int) - (k:Int) - 1) = some (fv (k + 1) ((lvl x k).cs.getD (j - (k + 1)) [])) ∧ V (suf x (k + 1)) ((lvl x k).cs.getD (j - (k + 1)) []):=by
 obtain ⟨c,c1,c2,c3,c4⟩:=conj_at h hk (i:=j - (k + 1)) (by omega)
 grind
theorem pow_at {j:Nat} (h1:k + 1 ≤ j) (h2:j < x.Orders.length):ixO x.Powers (j:Int) = some (fv (k + 1) ((x.Powers.getD j []).drop (k + 1))) ∧ V (suf x (k + 1)) ((x.Powers.getD j []).drop (k + 1)):=by
 have t1:=(h.tl j h2).1
 have hl:=h.pl
 grind[exp_drop,ixO_d]
theorem cc_at {i j:Nat} (h1:k + 1 ≤ i) (h2:i + 1 ≤ j) (h3:j < x.Orders.length):ixO x.Conjugates (i:Int) = some (x.Conjugates.getD i []) ∧ ixO (x.Conjugates.getD i []) ((j:Int) - (i:Int) - 1) = some (fv (k + 1) (((x.Conjugates.getD i []).getD (j - (i + 1)) []).drop (k + 1))) ∧ V (suf x (k + 1)) (((x.Conjugates.getD i []).getD (j - (i + 1)) []).drop (k + 1)):=by
 obtain ⟨_,t2,t3⟩:=h.tl i (by omega)
 grind[exp_drop,ixO_d]
theorem w_at:ixO x.Powers (k:Int) = some (fv (k + 1) (lvl x k).w) ∧ V (suf x (k + 1)) (lvl x k).w:=by
 have t1:=(h.tl k hk).1
 have hl:=h.pl
 obtain ⟨e1,e2⟩:=exp_drop (k:=k + 1) t1 (by omega) (by omega)
 exact ⟨by rw [ixO_d [] (by omega)];exact congrArg some e1,e2⟩
theorem sig_V {v:Vec} (hv:V (suf x (k + 1)) v):V (suf x (k + 1)) (sig (suf x (k + 1)) (lvl x k) v):=by
 have ok0:=h.okAt (k:=k) (by omega)
 grind[suf_cons,sig_in]
theorem unit_impl {j:Nat} (h1:k + 1 ≤ j) (h2:j < x.Orders.length):f_au (x.Orders.length:Int) (j:Int) = some (fv (k + 1) (unit (x.Orders.length - (k + 1)) (j - (k + 1)))):=by
 have h6:=h.os.1
 unfold f_au
 rw [lenOk_nat (by omega),bs,ixO_nat,List.getElem?_replicate,if_pos h2,bs,Int.toNat_natCast]
 congr 1
 rw [fv,unit_eq (by omega),← List.append_assoc]
 have e1:zeros (k + 1) ++ zeros (j - (k + 1)) = zeros j:=by grind[zeros,List.replicate_append_replicate]
 have e2:List.replicate x.Orders.length (0:Int) = zeros j ++ 0 :: zeros (x.Orders.length - (j + 1)):=by
  simp only [zeros]
  rw [← List.replicate_succ,List.replicate_append_replicate];grind
 grind[z_set]
theorem unit_spec {j:Nat} (h1:k + 1 ≤ j) (h2:j < x.Orders.length):f_aM (x.Orders.length:Int) (j:Int) = some (fv (k + 1) (unit (x.Orders.length - (k + 1)) (j - (k + 1)))):=unit_impl h hk h1 h2
 include hc
theorem impl_imageBy {v:Vec} (hv:V (suf x (k + 1)) v):f_F x k (fv (k + 1) v) = some (fv (k + 1) (sig (suf x (k + 1)) (lvl x k) v)):=by
 have h6:=h.os.1
 have ok:=h.okAt (k:=k + 1) (by omega)
 have ok0:=h.okAt (k:=k) (by omega)
 rw [suf_cons hk] at ok0
 obtain ⟨hvl,hvr⟩:=V_at h.os (x.Orders.length - (k + 1)) (k + 1) v (by omega) hv
 have hcl:(lvl x k).cs.length = x.Orders.length - (k + 1):=by rw [ok0.2.2.1,suf_length]
 have t2:=(h.tl k hk).2.1
 have hcl2:=h.cl
 have hA:∀ i,V (suf x (k + 1)) (img (mul (suf x (k + 1))) ((lvl x k).cs.take i) (v.take i) (zeros (suf x (k + 1)).length)):=fun i =>
  img_in' (mul_in ok) _ _ (fun c hc => ok0.2.2.2.1 c (by grind)) (V_zeros ok)
 unfold f_F
 rw [fv_len h (by omega) hv,lenOk_nat (by omega),bs,ixO_d [] (by omega),bs,rep_z h (k:=k + 1) (by omega)]
 have:=loopO_seq (body:=l2_F x k (fv (k + 1) v) (x.Conjugates.getD k [])) (r:=fv (k + 1) (sig (suf x (k + 1)) (lvl x k) v))
  (fun i => (fv (k + 1) (img (mul (suf x (k + 1))) ((lvl x k).cs.take i) (v.take i) (zeros (suf x (k + 1)).length)),(i:Int))) (x.Conjugates.getD k []).length (fun i hi => by
  have hr:=hvr i (by omega)
  obtain ⟨c,c1,c2,c3,c4⟩:=conj_at h hk (i:=i) (by omega)
  unfold l2_F
  simp only
  rw [lt_t hi,cnd_t,c2,bs,rng_of (by omega) (by omega),bs,rng_of (by omega) (by omega),bs,show (k:Int) + 1 + (i:Int) = ((k + 1 + i:Nat):Int) from by omega,fv,z_ix (by omega),bs]
  rw [iter_loop' (S:=V (suf x (k + 1))) (body:=l1_F x (zeros (k + 1) ++ c) (at0 v i)) (fun u => fv (k + 1) u) (fun u => mul (suf x (k + 1)) u c) (at0 v i) hr.1 (by grind[mul_in]) (fun u q hu hq => by
   unfold l1_F
   simp only
   rw [decide_eq_true hq,cnd_t,impl_mul h (by omega) hc hu c3,bs,rng_of (by omega) (by omega),bs,cs]) (fun u hu => by
   unfold l1_F
   simp) (hA i),bs,rng_of (by omega) (by omega),bs,cs]
  rw [img_take _ _ _ _ (by omega) (by omega),c4]) (by
  unfold l2_F
  simp only
  rw [lt_f,cnd_f,List.take_of_length_le (by omega),List.take_of_length_le (by omega)]
  rfl)
 simp only [List.take_zero,img] at this
 grind
theorem eqB_impl {a b:Vec} (ha:V (suf x (k + 1)) a):IsB (f_af (fv (k + 1) a) (fv (k + 1) b)) (a = b):=by
 have _:=hc
 have h6:=h.os.1
 grind[equal_impl,fv_len,IsB.of_bool,fv_inj]
theorem spec_repeat {c:Vec} (hcv:V (suf x (k + 1)) c) {e:Int} (e0:0 ≤ e) (e1:e ≤ 1000):f_aC x ((k + 1:Nat):Int) (fv (k + 1) c) e = some (fv (k + 1) (pw (mul (suf x (k + 1))) (zeros (suf x (k + 1)).length) c e.toNat)):=by
 have h6:=h.os.1
 have ok:=h.okAt (k:=k + 1) (by omega)
 have G:=grpAt h (k:=k + 1) (by omega) hc
 have hA:=spec_At h (k:=k + 1) (by omega)
 have pwV:∀ a,V (suf x (k + 1)) (pw (mul (suf x (k + 1))) (zeros (suf x (k + 1)).length) c a):=fun a => pw_in G.toMon hcv a
 unfold f_aC
 rw [lenOk_nat (by omega),bs,rep_z h (k:=k + 1) (by omega)]
 obtain ⟨r,r1,r2⟩:=loopO_meas (body:=l1_aC x ((k + 1:Nat):Int)) (Q:=fun r => r = fv (k + 1) (pw (mul (suf x (k + 1))) (zeros (suf x (k + 1)).length) c e.toNat))
  (fun s => ∃ (m a q:Nat),s = ((m:Int),fv (k + 1) (pw (mul (suf x (k + 1))) (zeros (suf x (k + 1)).length) c a),fv (k + 1) (pw (mul (suf x (k + 1))) (zeros (suf x (k + 1)).length) c q)) ∧ a + q * m = e.toNat ∧ m ≤ 1000) (fun s => s.1.toNat) (fun s ⟨m,a,q,hs,he,hm⟩ => by
   subst hs
   unfold l1_aC
   simp only
   by_cases hm0:m = 0
   ·grind
   ·left
    have hr:remO (m:Int) 2 = some ((m % 2:Nat):Int):=by
     rfl
    have hq:quoO (m:Int) 2 = some ((m / 2:Nat):Int):=by
     unfold quoO
     rw [if_neg (by decide),Int.tdiv_eq_ediv_of_nonneg (by omega)]
     grind[rng_of]
    have hdm:=Nat.div_add_mod m 2
    have hqq:mul (suf x (k + 1)) (pw (mul (suf x (k + 1))) (zeros (suf x (k + 1)).length) c q) (pw (mul (suf x (k + 1))) (zeros (suf x (k + 1)).length) c q) = pw (mul (suf x (k + 1))) (zeros (suf x (k + 1)).length) c (q + q):=(pw_add G.toMon hcv q q).symm
    rw [decide_eq_true (by omega),cnd_t,hr,bs]
    rcases Nat.mod_two_eq_zero_or_one m with h2 | h2
    ·rw [h2,show ((((0:Nat):Int)) == 1) = false from rfl,cnd_f,hA _ _ (pwV q) (pwV q),bs,hq,bs,hqq]
     refine ⟨_,rfl,⟨m / 2,a,q + q,rfl,?_,by omega⟩,by omega⟩
     grind
    ·rw [h2,show ((((1:Nat):Int)) == 1) = true from rfl,cnd_t,hA _ _ (pwV a) (pwV q),bs,hA _ _ (pwV q) (pwV q),bs,hq,bs,hqq,← pw_add G.toMon hcv a q]
     refine ⟨_,rfl,⟨m / 2,a + q,q + q,rfl,?_,by omega⟩,by omega⟩
     grind) 1000000 (e,fv (k + 1) (zeros (suf x (k + 1)).length),fv (k + 1) c) (by omega) ⟨e.toNat,0,1,by rw [pw_one G.toMon hcv,show ((e.toNat:Nat):Int) = e from by omega];rfl,by omega,by omega⟩
 grind
end
end Go.Pl

namespace Go.Pl
open Go Go.Ab Go.Wk Go.Pc
def FltB (o:Option SFault) (P:Prop):Prop:=(o = some (SFault.mk 0 0 0 0) ∧ P) ∨ ∃ r,o = some r ∧ r.Kind ≠ 0 ∧ ¬ P
theorem kb {a b c d:Int} (h:a ≠ 0):(SFault.mk a b c d).Kind ≠ 0:=h
abbrev KB (r:SFault):Prop:=r.Kind ≠ 0
theorem one_chkB {o:Option Bool} {P:Prop} {bad:SFault} {i:Nat} {g:Option (Int ⊕ (Unit ⊕ SFault))} (h:IsB o P) (hi:i < 9223372036854775807) (hbad:bad.Kind ≠ 0)
  (hg:g = o.bind fun r => cond (!r) (some (.inr (.inr bad))) ((rng ((i:Int) + 1)).bind fun v => some (.inl v))):(g = some (.inl ((i + 1:Nat):Int)) ∧ P) ∨ (∃ r,g = some (.inr (.inr r)) ∧ KB r ∧ ¬ P):=by
 rcases one_chk h hi hg with h | ⟨h1,h2⟩
 all_goals grind
section
variable {x:SPr} (h:Pres x) {k:Nat} (hk:k < x.Orders.length) (hc:Cons (suf x (k + 1)))
 include h hk hc
theorem impl_level:FltB (f_n x k) (LC x k):=by
 have h6:=h.os.1
 have ok:=h.okAt (k:=k + 1) (by omega)
 have G:=grpAt h (k:=k + 1) (by omega) hc
 obtain ⟨w1,w2⟩:=w_at h hk
 have hsV:∀ v,V (suf x (k + 1)) v → V (suf x (k + 1)) (sig (suf x (k + 1)) (lvl x k) v):=by grind[sig_V]
 unfold f_n
 rw [rng_of (by omega) (by omega),bs,cs]
 rcases chkB (body:=l1_n x k) x.Orders.length (k + 1) (by omega) (fun j => pw (mul (suf x (k + 1))) (zeros (suf x (k + 1)).length) ((lvl x k).cs.getD (j - (k + 1)) []) (at0 x.Orders j).toNat = sig (suf x (k + 1)) (lvl x k) ((x.Powers.getD j []).drop (k + 1))) KB (fun j h1 h2 _ => by
   obtain ⟨c1,c2,c3⟩:=conj_at' h hk h1 h2
   obtain ⟨p1,p2⟩:=pow_at h hk h1 h2
   have hpr:=(h.os.2 j h2).pos
   refine one_chkB (eqB_impl h hk hc (pw_in G.toMon c3 (at0 x.Orders j).toNat)) (by omega) (bad:=SFault.mk 1 k j 0) (kb (by decide)) ?_
   unfold l1_n
   rw [lt_t h2,cnd_t,c1,bs,rng_of (by omega) (by omega),bs,rng_of (by omega) (by omega),bs,c2,bs,ixO_at h2,bs,impl_power h (by omega) hc c3 (by omega) (by omega),bs,p1,bs,impl_imageBy h hk hc p2,bs]) (by
   unfold l1_n
   simp) with ⟨g1,g2⟩ | ⟨r,j,j1,j2,g1,g2,g3⟩
 rotate_left
 ·rw [g1,bs]
  exact .inr ⟨r,rfl,g2,fun q => g3 (q.c1 j j1 j2)⟩
 rw [g1,bs]
 simp only
 rw [bs]
 rcases chkB (body:=l3_n x k) x.Orders.length (k + 1) (by omega) (fun i => ∀ j,i + 1 ≤ j → j < x.Orders.length →
   mul (suf x (k + 1)) ((lvl x k).cs.getD (j - (k + 1)) []) ((lvl x k).cs.getD (i - (k + 1)) []) = mul (suf x (k + 1)) ((lvl x k).cs.getD (i - (k + 1)) []) (sig (suf x (k + 1)) (lvl x k) (((x.Conjugates.getD i []).getD (j - (i + 1)) []).drop (k + 1)))) KB (fun i h1 h2 _ => by
   obtain ⟨c1,c2,c3⟩:=conj_at' h hk h1 h2
   unfold l3_n
   rw [lt_t h2,cnd_t,rng_of (by omega) (by omega),bs,cs]
   rcases chkB (body:=l2_n x k i) x.Orders.length (i + 1) (by omega) (fun j => mul (suf x (k + 1)) ((lvl x k).cs.getD (j - (k + 1)) []) ((lvl x k).cs.getD (i - (k + 1)) []) = mul (suf x (k + 1)) ((lvl x k).cs.getD (i - (k + 1)) []) (sig (suf x (k + 1)) (lvl x k) (((x.Conjugates.getD i []).getD (j - (i + 1)) []).drop (k + 1)))) KB (fun j h3 h4 _ => by
     obtain ⟨d1,d2,d3⟩:=conj_at' h hk (j:=j) (by omega) h4
     obtain ⟨e1,e2,e3⟩:=cc_at h hk h1 h3 h4
     obtain ⟨q,q1,q2,q3⟩:=impl_conjugate h (by omega) hc d3 c3
     refine one_chkB ((eqB_impl h hk hc (b:=sig (suf x (k + 1)) (lvl x k) (((x.Conjugates.getD i []).getD (j - (i + 1)) []).drop (k + 1))) q1).iff (Q:=mul (suf x (k + 1)) ((lvl x k).cs.getD (j - (k + 1)) []) ((lvl x k).cs.getD (i - (k + 1)) []) = mul (suf x (k + 1)) ((lvl x k).cs.getD (i - (k + 1)) []) (sig (suf x (k + 1)) (lvl x k) (((x.Conjugates.getD i []).getD (j - (i + 1)) []).drop (k + 1)))) ?_) (by omega) (bad:=SFault.mk 2 k i j) (kb (by decide)) ?_
     ·exact ⟨by grind,fun e => G.cancel_l c3 q1 (hsV _ e3) (by rw [q2,e])⟩
     ·unfold l2_n
      rw [lt_t h4,cnd_t,d1,bs,rng_of (by omega) (by omega),bs,rng_of (by omega) (by omega),bs,d2,bs,bs,rng_of (by omega) (by omega),bs,rng_of (by omega) (by omega),bs,c2,bs,q3,bs,e1,bs,rng_of (by omega) (by omega),bs,rng_of (by omega) (by omega),bs,e2,bs,impl_imageBy h hk hc e3,bs]) (by
     unfold l2_n
     simp) with ⟨g1,g2⟩ | ⟨r,j,j1,j2,g1,g2,g3⟩
   ·grind
   grind) (by
   unfold l3_n
   simp) with ⟨k1,k2⟩ | ⟨r,j,j1,j2,k1,k2,k3⟩
 rotate_left
 ·rw [k1,bs]
  exact .inr ⟨r,rfl,k2,fun q => k3 (q.c2 j j1 j2)⟩
 rw [k1,bs]
 simp only
 rw [w1,bs,impl_imageBy h hk hc w2,bs]
 rcases eqB_impl h hk hc (b:=(lvl x k).w) (hsV _ w2) with ⟨m1,m2⟩ | ⟨m1,m2⟩
 rotate_left
 ·rw [m1,bs,Bool.not_false,cnd_t]
  exact .inr ⟨_,rfl,kb (by decide),fun q => m2 q.c3⟩
 rw [m1,bs,Bool.not_true,cnd_f,bs]
 rcases chkB (body:=l5_n x k (fv (k + 1) (lvl x k).w)) x.Orders.length (k + 1) (by omega) (fun j => mul (suf x (k + 1)) (lvl x k).w (iter (lvl x k).o.toNat (sig (suf x (k + 1)) (lvl x k)) (unit (x.Orders.length - (k + 1)) (j - (k + 1)))) = mul (suf x (k + 1)) (unit (x.Orders.length - (k + 1)) (j - (k + 1))) (lvl x k).w) KB (fun j h1 h2 _ => by
   have hU:=unit_V h (k:=k + 1) (by omega) hc (i:=j - (k + 1)) (by omega)
   have hpr:=(h.os.2 k hk).pos
   obtain ⟨q,q1,q2,q3⟩:=impl_conjugate h (k:=k + 1) (by omega) hc hU w2
   have hit:V (suf x (k + 1)) (iter (lvl x k).o.toNat (sig (suf x (k + 1)) (lvl x k)) (unit (x.Orders.length - (k + 1)) (j - (k + 1)))):=iter_in hsV _ hU
   refine one_chkB ((eqB_impl h hk hc (b:=q) hit).iff ⟨by grind,fun e => G.cancel_l w2 hit q1 (by rw [e,q2])⟩) (by omega) (bad:=SFault.mk 4 k j 0) (kb (by decide)) ?_
   unfold l5_n
   rw [lt_t h2,cnd_t,unit_impl h hk h1 h2,bs,ixO_at hk,bs]
   rw [iter_loop' (S:=V (suf x (k + 1))) (body:=l4_n x k (at0 x.Orders k)) (fun u => fv (k + 1) u) (sig (suf x (k + 1)) (lvl x k)) (at0 x.Orders k) (by omega) hsV (fun u i hu hi => by
    unfold l4_n
    simp only
    rw [decide_eq_true hi,cnd_t,impl_imageBy h hk hc hu,bs,rng_of (by omega) (by omega),bs,cs]) (fun u hu => by
    unfold l4_n
    simp) hU,bs,bs,q3,bs]
   rfl) (by
   unfold l5_n
   simp) with ⟨n1,n2⟩ | ⟨r,j,j1,j2,n1,n2,n3⟩
 ·rw [n1,bs]
  exact .inl ⟨rfl,⟨g2,k2,m2,n2⟩⟩
 ·rw [n1,bs]
  exact .inr ⟨r,rfl,n2,fun q => n3 (q.c4 j j1 j2)⟩
theorem spec_level:FltB (f_o x k) (LC x k):=by
 have h6:=h.os.1
 have ok:=h.okAt (k:=k + 1) (by omega)
 have G:=grpAt h (k:=k + 1) (by omega) hc
 obtain ⟨w1,w2⟩:=w_at h hk
 have hA:=spec_At h (k:=k + 1) (by omega)
 have hI:=spec_Image h hk
 have hsV:∀ v,V (suf x (k + 1)) v → V (suf x (k + 1)) (sig (suf x (k + 1)) (lvl x k) v):=by grind[sig_V]
 have eqB:∀ {a b:Vec},V (suf x (k + 1)) a → IsB (f_an (fv (k + 1) a) (fv (k + 1) b)) (a = b):=fun ha => eqB_impl h hk hc ha
 unfold f_o
 rw [rng_of (by omega) (by omega),bs,cs]
 rcases chkB (body:=l1_o x k) x.Orders.length (k + 1) (by omega) (fun j => pw (mul (suf x (k + 1))) (zeros (suf x (k + 1)).length) ((lvl x k).cs.getD (j - (k + 1)) []) (at0 x.Orders j).toNat = sig (suf x (k + 1)) (lvl x k) ((x.Powers.getD j []).drop (k + 1))) KB (fun j h1 h2 _ => by
   obtain ⟨c1,c2,c3⟩:=conj_at' h hk h1 h2
   obtain ⟨p1,p2⟩:=pow_at h hk h1 h2
   have hpr:=(h.os.2 j h2).pos
   refine one_chkB (eqB (pw_in G.toMon c3 (at0 x.Orders j).toNat)) (by omega) (bad:=SFault.mk 1 k j 0) (kb (by decide)) ?_
   unfold l1_o
   rw [lt_t h2,cnd_t,rng_of (by omega) (by omega),bs,cs,c1,bs,rng_of (by omega) (by omega),bs,rng_of (by omega) (by omega),bs,c2,bs,ixO_at h2,bs,spec_repeat h hk hc c3 (by omega) (by omega),bs,p1,bs,hI _ p2,bs]) (by
   unfold l1_o
   simp) with ⟨g1,g2⟩ | ⟨r,j,j1,j2,g1,g2,g3⟩
 rotate_left
 ·rw [g1,bs]
  exact .inr ⟨r,rfl,g2,fun q => g3 (q.c1 j j1 j2)⟩
 rw [g1,bs]
 simp only
 rw [bs]
 rcases chkB (body:=l3_o x k) x.Orders.length (k + 1) (by omega) (fun i => ∀ j,i + 1 ≤ j → j < x.Orders.length →
   mul (suf x (k + 1)) ((lvl x k).cs.getD (j - (k + 1)) []) ((lvl x k).cs.getD (i - (k + 1)) []) = mul (suf x (k + 1)) ((lvl x k).cs.getD (i - (k + 1)) []) (sig (suf x (k + 1)) (lvl x k) (((x.Conjugates.getD i []).getD (j - (i + 1)) []).drop (k + 1)))) KB (fun i h1 h2 _ => by
   obtain ⟨c1,c2,c3⟩:=conj_at' h hk h1 h2
   unfold l3_o
   rw [lt_t h2,cnd_t,rng_of (by omega) (by omega),bs,cs]
   rcases chkB (body:=l2_o x k i) x.Orders.length (i + 1) (by omega) (fun j => mul (suf x (k + 1)) ((lvl x k).cs.getD (j - (k + 1)) []) ((lvl x k).cs.getD (i - (k + 1)) []) = mul (suf x (k + 1)) ((lvl x k).cs.getD (i - (k + 1)) []) (sig (suf x (k + 1)) (lvl x k) (((x.Conjugates.getD i []).getD (j - (i + 1)) []).drop (k + 1)))) KB (fun j h3 h4 _ => by
     obtain ⟨d1,d2,d3⟩:=conj_at' h hk (j:=j) (by omega) h4
     obtain ⟨e1,e2,e3⟩:=cc_at h hk h1 h3 h4
     refine one_chkB (eqB (mul_in ok d3 c3)) (by omega) (bad:=SFault.mk 2 k i j) (kb (by decide)) ?_
     unfold l2_o
     rw [lt_t h4,cnd_t,d1,bs,rng_of (by omega) (by omega),bs,rng_of (by omega) (by omega),bs,c2,bs,bs,rng_of (by omega) (by omega),bs,rng_of (by omega) (by omega),bs,d2,bs,e1,bs,rng_of (by omega) (by omega),bs,rng_of (by omega) (by omega),bs,e2,bs,hI _ e3,bs,rng_of (by omega) (by omega),bs,cs,hA _ _ d3 c3,bs,bs,hA _ _ c3 (hsV _ e3),bs]) (by
     unfold l2_o
     simp) with ⟨g1,g2⟩ | ⟨r,j,j1,j2,g1,g2,g3⟩
   ·grind
   grind) (by
   unfold l3_o
   simp) with ⟨k1,k2⟩ | ⟨r,j,j1,j2,k1,k2,k3⟩
 rotate_left
 ·rw [k1,bs]
  exact .inr ⟨r,rfl,k2,fun q => k3 (q.c2 j j1 j2)⟩
 rw [k1,bs]
 simp only
 rw [w1,bs,hI _ w2,bs]
 rcases eqB (b:=(lvl x k).w) (hsV _ w2) with ⟨m1,m2⟩ | ⟨m1,m2⟩
 rotate_left
 ·rw [m1,bs,Bool.not_false,cnd_t]
  exact .inr ⟨_,rfl,kb (by decide),fun q => m2 q.c3⟩
 rw [m1,bs,Bool.not_true,cnd_f,bs]
 rcases chkB (body:=l5_o x k (fv (k + 1) (lvl x k).w)) x.Orders.length (k + 1) (by omega) (fun j => mul (suf x (k + 1)) (lvl x k).w (iter (lvl x k).o.toNat (sig (suf x (k + 1)) (lvl x k)) (unit (x.Orders.length - (k + 1)) (j - (k + 1)))) = mul (suf x (k + 1)) (unit (x.Orders.length - (k + 1)) (j - (k + 1))) (lvl x k).w) KB (fun j h1 h2 _ => by
   have hU:=unit_V h (k:=k + 1) (by omega) hc (i:=j - (k + 1)) (by omega)
   have hpr:=(h.os.2 k hk).pos
   have hit:V (suf x (k + 1)) (iter (lvl x k).o.toNat (sig (suf x (k + 1)) (lvl x k)) (unit (x.Orders.length - (k + 1)) (j - (k + 1)))):=iter_in hsV _ hU
   refine one_chkB (eqB (mul_in ok w2 hit)) (by omega) (bad:=SFault.mk 4 k j 0) (kb (by decide)) ?_
   unfold l5_o
   rw [lt_t h2,cnd_t,unit_spec h hk h1 h2,bs]
   rw [iter_loop' (S:=V (suf x (k + 1))) (body:=l4_o x k) (fun u => fv (k + 1) u) (sig (suf x (k + 1)) (lvl x k)) (at0 x.Orders k) (by omega) hsV (fun u i hu hi => by
    unfold l4_o
    simp only
    rw [ixO_at hk,bs,decide_eq_true hi,cnd_t,hI _ hu,bs,rng_of (by omega) (by omega),bs,cs]) (fun u hu => by
    unfold l4_o
    simp only
    rw [ixO_at hk,bs,decide_eq_false (by omega),cnd_f]) hU,bs,rng_of (by omega) (by omega),bs,cs]
   have ho:(lvl x k).o = at0 x.Orders k:=rfl
   rw [← ho,hA _ _ w2 hit,bs,bs,hA _ _ hU w2,bs]) (by
   unfold l5_o
   simp) with ⟨n1,n2⟩ | ⟨r,j,j1,j2,n1,n2,n3⟩
 ·rw [n1,bs]
  exact .inl ⟨rfl,⟨g2,k2,m2,n2⟩⟩
 ·rw [n1,bs]
  exact .inr ⟨r,rfl,n2,fun q => n3 (q.c4 j j1 j2)⟩
end
end Go.Pl

namespace Go.Pl
open Go Go.Ab Go.Wk Go.Pc
theorem img_zdrop {m:Vec → Vec → Vec}:∀ (i:Nat) (cs:List Vec) (w acc:Vec),i ≤ cs.length → img m cs (zeros i ++ w) acc = img m (cs.drop i) w acc
 | 0,cs,w,acc,_ => rfl
 | i + 1,[],w,acc,h => by simp at h
 | i + 1,c :: cs,w,acc,h => by
  show img m (c :: cs) (0 :: (zeros i ++ w)) acc = _
  simp only [img,Int.toNat_zero,iter,List.drop_succ_cons]
  exact img_zdrop i cs w acc (by grind)
theorem drop_split {x:SPr} {v:List Int} {j k:Nat} (h:Exp x.Orders v j) (hj:j < x.Orders.length) (hk:k ≤ j + 1):v.drop k = zeros (j + 1 - k) ++ v.drop (j + 1):=by
 have:=exp_split h hj
 grind[zeros]
section
variable {x:SPr} (h:PresW x) {k:Nat} (hk:k < x.Orders.length)
 include h hk
theorem cs_length:(lvl x k).cs.length = x.Orders.length - (k + 1):=by
 have ok0:=h.okAt (k:=k) (by omega)
 rw [suf_cons hk] at ok0
 rw [ok0.2.2.1,suf_length]
theorem sig_pow {j:Nat} (h1:k + 1 ≤ j) (h2:j < x.Orders.length):sig (suf x (k + 1)) (lvl x k) ((x.Powers.getD j []).drop (k + 1)) = img (mul (suf x (k + 1))) ((lvl x k).cs.drop (j - k)) (lvl x j).w (zeros (suf x (k + 1)).length):=by
 have t1:=(h.tl j h2).1
 have hcl:=cs_length h hk
 rw [drop_split t1 h2 (by omega),sig,img_zdrop _ _ _ _ (by omega),show j + 1 - (k + 1) = j - k from by omega]
 rfl
theorem rel_iff:∀ (d i:Nat),k + 1 + i + d = x.Orders.length → (Rel (mul (suf x (k + 1))) (zeros (suf x (k + 1)).length) (suf x (k + 1 + i)) ((lvl x k).cs.drop i) ↔
  (∀ j,k + 1 + i ≤ j → j < x.Orders.length → pw (mul (suf x (k + 1))) (zeros (suf x (k + 1)).length) ((lvl x k).cs.getD (j - (k + 1)) []) (at0 x.Orders j).toNat = sig (suf x (k + 1)) (lvl x k) ((x.Powers.getD j []).drop (k + 1))) ∧
  (∀ a,k + 1 + i ≤ a → a < x.Orders.length → ∀ j,a + 1 ≤ j → j < x.Orders.length →
   mul (suf x (k + 1)) ((lvl x k).cs.getD (j - (k + 1)) []) ((lvl x k).cs.getD (a - (k + 1)) []) = mul (suf x (k + 1)) ((lvl x k).cs.getD (a - (k + 1)) []) (sig (suf x (k + 1)) (lvl x k) (((x.Conjugates.getD a []).getD (j - (a + 1)) []).drop (k + 1)))))
 | 0,i,hi => by
  have hcl:=cs_length h hk
  rw [suf_nil (x:=x) (k:=k + 1 + i) (by omega),List.drop_of_length_le (by omega)]
  simp only [Rel,true_iff]
  grind
 | d + 1,i,hi => by
  have hcl:=cs_length h hk
  have ih:=rel_iff d (i + 1) (by omega)
  rw [show k + 1 + (i + 1) = k + 1 + i + 1 from by omega] at ih
  have hj:k + 1 + i < x.Orders.length:=by omega
  have hg:(lvl x k).cs.drop i = (lvl x k).cs.getD i [] :: (lvl x k).cs.drop (i + 1):=by
   rw [List.drop_eq_getElem_cons (by omega),List.getD_eq_getElem?_getD,List.getElem?_eq_getElem (by omega)];rfl
  rw [suf_cons hj,hg]
  simp only [Rel]
  rw [ih]
  have e1:=sig_pow h hk (j:=k + 1 + i) (by omega) hj
  rw [show k + 1 + i - k = i + 1 from by omega] at e1
  have ho:(lvl x (k + 1 + i)).o = at0 x.Orders (k + 1 + i):=rfl
  rw [ho,← e1]
  have e2:∀ j,k + 1 + i + 1 ≤ j → j < x.Orders.length → ∀ dd,(lvl x (k + 1 + i)).cs[j - (k + 1 + i + 1)]? = some dd → img (mul (suf x (k + 1))) ((lvl x k).cs.drop (i + 1)) dd (zeros (suf x (k + 1)).length) = sig (suf x (k + 1)) (lvl x k) (((x.Conjugates.getD (k + 1 + i) []).getD (j - (k + 1 + i + 1)) []).drop (k + 1)):=fun j h1 h2 dd hdd => by
   obtain ⟨_,t2,t3⟩:=h.tl (k + 1 + i) hj
   have t:=t3 (j - (k + 1 + i + 1)) (by omega)
   rw [drop_split t hj (by omega),sig,img_zdrop _ _ _ _ (by omega),show k + 1 + i + 1 - (k + 1) = i + 1 from by omega]
   congr 1
   simp only [lvl,List.getElem?_map,Option.map_eq_some_iff] at hdd
   grind
  have e3:∀ j,k + 1 + i + 1 ≤ j → j < x.Orders.length → ((lvl x k).cs.drop (i + 1))[j - (k + 1 + i + 1)]? = some ((lvl x k).cs.getD (j - (k + 1)) []) ∧ ∃ dd,(lvl x (k + 1 + i)).cs[j - (k + 1 + i + 1)]? = some dd:=fun j h1 h2 => by
   have hcl2:=cs_length h hj
   refine ⟨?_,?_⟩
   ·rw [List.getElem?_drop,show i + 1 + (j - (k + 1 + i + 1)) = j - (k + 1) from by omega,List.getD_eq_getElem?_getD,List.getElem?_eq_getElem (by omega)];rfl
   ·exact ⟨_,List.getElem?_eq_getElem (by omega)⟩
  constructor
  ·rintro ⟨a1,a2,a3,a4⟩
   refine ⟨fun j h1 h2 => ?_,fun a h1 h2 j h3 h4 => ?_⟩
   ·rcases Nat.lt_or_ge (k + 1 + i) j with hlt | hge
    ·grind
    ·obtain rfl:j = k + 1 + i:=by omega
     rw [show k + 1 + i - (k + 1) = i from by omega]
     exact a1
   ·rcases Nat.lt_or_ge (k + 1 + i) a with hlt | hge
    ·exact a4 a (by omega) h2 j h3 h4
    ·obtain rfl:a = k + 1 + i:=by omega
     obtain ⟨f1,dd,f2⟩:=e3 j (by omega) h4
     have:=a2 _ _ _ f1 f2
     rw [e2 j (by omega) h4 dd f2] at this
     rw [show k + 1 + i - (k + 1) = i from by omega]
     exact this
  ·rintro ⟨a1,a2⟩
   refine ⟨?_,fun kk c dd h1 h2 => ?_,by grind,by grind⟩
   ·have:=a1 (k + 1 + i) (by omega) hj
    rw [show k + 1 + i - (k + 1) = i from by omega] at this
    exact this
   ·have hlt:kk < x.Orders.length - (k + 1 + i + 1):=by
     have:=(List.getElem?_eq_some_iff.1 h1).1
     rw [List.length_drop] at this;omega
    have g:=a2 (k + 1 + i) (by omega) hj (k + 1 + i + 1 + kk) (by omega) (by omega)
    obtain ⟨f1,_⟩:=e3 (k + 1 + i + 1 + kk) (by omega) (by omega)
    rw [show k + 1 + i + 1 + kk - (k + 1 + i + 1) = kk from by omega] at f1 g
    rw [h1] at f1
    have f1:=Option.some.inj f1
    have g2:=e2 (k + 1 + i + 1 + kk) (by omega) (by omega) dd (by rw [show k + 1 + i + 1 + kk - (k + 1 + i + 1) = kk from by omega];exact h2)
    rw [show k + 1 + i + 1 + kk - (k + 1 + i + 1) = kk from by omega] at g2
    rw [g2,f1]
    rw [show k + 1 + i - (k + 1) = i from by omega] at g
    exact g
theorem cons_iff:Cons (suf x k) ↔ Cons (suf x (k + 1)) ∧ LC x k:=by
 have hr:=rel_iff h hk (x.Orders.length - (k + 1)) 0 (by omega)
 have hl:=suf_length x (k + 1)
 rw [List.drop_zero,Nat.add_zero] at hr
 rw [suf_cons hk]
 simp only [Cons]
 rw [hr]
 constructor
 ·rintro ⟨a,⟨b1,b2⟩,c,d⟩
  refine ⟨a,⟨b1,b2,c,fun j h1 h2 => ?_⟩⟩
  grind
 ·rintro ⟨a,b⟩
  refine ⟨a,⟨b.c1,b.c2⟩,b.c3,fun j hj => ?_⟩
  have:=b.c4 (k + 1 + j) (by omega) (by omega)
  rw [show k + 1 + j - (k + 1) = j from by omega] at this
  rwa [hl]
end
theorem cons_from {x:SPr} (h:Cons (suf x 0)) (k:Nat):Cons (suf x k):=by
 have:=cons_add h k
 grind
def Consistent (x:SPr):Prop:=Pres x ∧ Cons (suf x 0) ∧ PresS x
theorem IsConsistent_impl {x:SPr} (hl:x.Orders.length ≤ 1048576):IsB (f_a0 x) (Consistent x):=by
 unfold f_a0
 rcases IsPresentation_impl hl with ⟨h1,h2⟩ | ⟨h1,h2⟩
 ·have h6:=h2.os.1
  rw [h1,bs,cnd_t]
  unfold f_aD
  obtain ⟨r,r1,r2⟩:=loopO_tot (body:=l1_aD x) (Q:=fun r => ∃ s:Nat,r = (s:Int) ∧ Cons (suf x s) ∧ (s = 0 ∨ ¬ Cons (suf x (s - 1)))) (fun i s => i ≤ x.Orders.length ∧ s = ((x.Orders.length - i:Nat):Int) ∧ Cons (suf x (x.Orders.length - i))) x.Orders.length (fun i s hi ⟨_,hs,hcs⟩ => by
    subst hs
    have hk:x.Orders.length - i - 1 < x.Orders.length:=by omega
    have e9:x.Orders.length - (i + 1) = x.Orders.length - i - 1:=by omega
    rw [e9]
    have e8:i + 1 ≤ x.Orders.length:=by omega
    rw [show x.Orders.length - i = x.Orders.length - i - 1 + 1 from by omega] at hcs ⊢
    have hlev:=impl_level h2.toPres hk hcs
    have hiff:=cons_iff h2.toPres.w hk
    generalize x.Orders.length - i - 1 = k at *
    unfold l1_aD
    rw [decide_eq_true (by omega),cnd_t,rng_of (by omega) (by omega),bs,show (((k + 1:Nat):Int) - 1) = (k:Int) from by omega]
    rcases hlev with ⟨g1,g2⟩ | ⟨r,g1,g2,g3⟩
    ·simp_all
    grind) (fun s ⟨_,hs,hcs⟩ => by
    rw [Nat.sub_self] at hs hcs
    subst hs
    unfold l1_aD
    grind) (s:=(x.Orders.length:Int)) ⟨by omega,by rfl,by rw [Nat.sub_zero,suf_nil (by omega)];simp only [Cons]⟩
  obtain ⟨s,rfl,hcs,hs⟩:=r2
  rw [r1,bs,bs]
  cases s with
  | zero => exact .inl ⟨rfl,h2.toPres,hcs,h2⟩
  | succ s =>
   refine .inr ⟨?_,fun q => ?_⟩
   ·congr 1
   ·rcases hs with hs | hs
    ·omega
    ·exact hs (cons_from q.2.1 _)
 ·rw [h1,bs,cnd_f]
  exact .inr ⟨rfl,fun q => h2 q.2.2⟩
theorem Group_spec {x:SPr} (hl:x.Orders.length ≤ 1048576):IsB (f_be x) (Consistent x):=by
 unfold f_be
 rcases IsPresentation_spec hl with ⟨h1,h2⟩ | ⟨h1,h2⟩
 ·have h6:=h2.os.1
  rw [h1,bs,cnd_t]
  unfold f_aN f_aE
  rw [rng_of (by omega) (by omega),bs]
  obtain ⟨r,r1,r2⟩:=loopO_tot (body:=l1_aE x) (Q:=fun r => (r = .inl () ∧ Cons (suf x 0)) ∨ ∃ f,r = .inr f ∧ f.Kind ≠ 0 ∧ ¬ Cons (suf x 0)) (fun i s => i ≤ x.Orders.length ∧ s = ((x.Orders.length - i:Nat):Int) - 1 ∧ Cons (suf x (x.Orders.length - i))) x.Orders.length (fun i s hi ⟨_,hs,hcs⟩ => by
    subst hs
    have hk:x.Orders.length - i - 1 < x.Orders.length:=by omega
    have e9:x.Orders.length - (i + 1) = x.Orders.length - i - 1:=by omega
    rw [e9]
    have e8:i + 1 ≤ x.Orders.length:=by omega
    rw [show x.Orders.length - i = x.Orders.length - i - 1 + 1 from by omega] at hcs ⊢
    have hlev:=spec_level h2.toPres hk hcs
    have hiff:=cons_iff h2.toPres.w hk
    generalize x.Orders.length - i - 1 = k at *
    unfold l1_aE
    rw [show (((k + 1:Nat):Int) - 1) = (k:Int) from by omega,decide_eq_true (by omega),cnd_t]
    rcases hlev with ⟨g1,g2⟩ | ⟨r,g1,g2,g3⟩
    ·left
     rw [g1,bs]
     simp only
     rw [show ((0:Int) != 0) = false from rfl,cnd_f,rng_of (by omega) (by omega),bs]
     grind
    ·right
     rw [g1,bs,show (r.Kind != 0) = true from by grind,cnd_t]
     exact ⟨_,rfl,.inr ⟨r,rfl,g2,by grind[cons_from]⟩⟩) (fun s ⟨_,hs,hcs⟩ => by
    rw [Nat.sub_self] at hs hcs
    subst hs
    unfold l1_aE
    grind) (s:=(x.Orders.length:Int) - 1) ⟨by omega,by rfl,by rw [Nat.sub_zero,suf_nil (by omega)];simp only [Cons]⟩
  rw [r1,bs]
  rcases r2 with ⟨rfl,q⟩ | ⟨f,rfl,g1,g2⟩
  ·exact .inl ⟨rfl,h2.toPres,q,h2⟩
  ·simp only
   rw [bs,show (f.Kind == 0) = false from by grind]
   exact .inr ⟨rfl,fun q => g2 q.2.1⟩
 ·rw [h1,bs,cnd_f]
  exact .inr ⟨rfl,fun q => h2 q.2.2⟩
end Go.Pl

namespace Go.Pl
open Go Go.Ab Go.Wk
abbrev Mx:=List (List Int)
def mkv (D:Nat) (f:Nat → Int):List Int:=(List.range D).map f
theorem mkv_length (D:Nat) (f:Nat → Int):(mkv D f).length = D:=by simp [mkv]
theorem mkv_get {D:Nat} {f:Nat → Int} {i:Nat} (h:i < D):(mkv D f)[i]? = some (f i):=by simp [mkv,h]
theorem mkv_at {D:Nat} {f:Nat → Int} {i:Nat} (h:i < D):at0 (mkv D f) i = f i:=by
 rw [at0,List.getD_eq_getElem?_getD,mkv_get h];rfl
theorem mkv_set {D:Nat} {f:Nat → Int} {j:Nat} {a:Int}:(mkv D f).set j a = mkv D (fun i => if i = j then a else f i):=by
 apply List.ext_getElem?
 intro i
 rw [List.getElem?_set,mkv_length]
 by_cases hi:i < D
 ·by_cases hij:j = i
  ·subst hij;rw [if_pos rfl,if_pos hi,mkv_get hi,if_pos rfl]
  ·rw [if_neg hij,mkv_get hi,mkv_get hi,if_neg fun h => hij h.symm]
 ·have h1:∀ g:Nat → Int,(mkv D g)[i]? = none:=by grind[mkv_length]
  grind
theorem mkv_zero (D:Nat):List.replicate D (0:Int) = mkv D (fun _ => 0):=by
 apply List.ext_getElem?
 grind[mkv_get,mkv_length]
theorem mx_ext {D:Nat} {A B:Mx} (hA:A.length = D) (hB:B.length = D) (h:∀ i,i < D → A.getD i [] = B.getD i []):A = B:=by
 apply List.ext_getElem?
 grind
end Go.Pl

namespace Go.Pl
open Go Go.Ab Go.Wk Go.Pc
def nw:Nat → List Int → List Nat
 | _,[] => []
 | o,a :: v => List.replicate a.toNat o ++ nw (o + 1) v
theorem nw_append:∀ (o:Nat) (u v:List Int),nw o (u ++ v) = nw o u ++ nw (o + u.length) v
 | o,[],v => by simp [nw]
 | o,a :: u,v => by
  simp only [List.cons_append,nw,nw_append (o + 1) u v,List.append_assoc,List.length_cons]
  grind
theorem nw_take {v:List Int} {i:Nat} (h:i < v.length):nw 0 (v.take (i + 1)) = nw 0 (v.take i) ++ List.replicate (at0 v i).toNat i:=by
 rw [List.take_succ_eq_append_getElem h,nw_append,List.length_take,Nat.min_eq_left (by omega),Nat.zero_add]
 simp only [nw,List.append_nil]
 grind
theorem nw_lt {n:Nat}:∀ (o:Nat) (v:List Int),o + v.length ≤ n → ∀ w ∈ nw o v,w < n
 | o,[],_,w,h => by grind[nw]
 | o,a :: v,hv,w,h => by
  simp only [nw,List.mem_append,List.length_cons] at h hv
  rcases h with h | h
  ·grind
  ·exact nw_lt (o + 1) v (by omega) w h
theorem nw_len:∀ (o:Nat) (v:List Int),(∀ i,i < v.length → at0 v i ≤ 6) → (nw o v).length ≤ 6 * v.length
 | o,[],_ => by simp [nw]
 | o,a :: v,h => by
  have h0:=h 0 (by simp)
  have:=nw_len (o + 1) v fun i hi => by
   have:=h (i + 1) (by grind)
   grind
  simp only [at0,List.getD_cons_zero] at h0
  grind[nw]
section
variable {n D:Nat} (hn:n ≤ 14)
 include hn
abbrev enW (ws:List Nat):List Int:=ws.map fun (w:Nat) => (w:Int) + 1
end
theorem normalWord_impl {v:List Int} (hl:v.length ≤ 14) (hv:∀ i,i < v.length → 0 ≤ at0 v i ∧ at0 v i ≤ 6):f_B v = some (enW (nw 0 v)):=by
 unfold f_B
 have hlen:∀ i,(nw 0 (v.take i)).length ≤ 84:=fun i => by
  have:=nw_len 0 (v.take i) (by grind)
  grind
 have:=loopO_seq (body:=l2_B v) (r:=enW (nw 0 v)) (fun i => (enW (nw 0 (v.take i)),(i:Int))) v.length (fun i hi => by
  have hvi:=hv i hi
  have hli:=hlen i
  unfold l2_B
  simp only
  rw [lt_t hi,cnd_t,ixO_at hi,bs]
  have inner:=loopO_seq (body:=l1_B (enW (nw 0 (v.take i)),(i:Int)) (at0 v i)) (r:=enW (nw 0 (v.take (i + 1)))) (fun k => (enW (nw 0 (v.take i) ++ List.replicate k i),(k:Int))) (at0 v i).toNat (fun k hk => by
   unfold l1_B
   simp only
   rw [decide_eq_true (by omega),cnd_t,rng_of (by omega) (by omega),bs,appO_of (by grind),bs,rng_of (by omega) (by omega),bs,cs]
   congr 3
   rw [List.replicate_succ',← List.append_assoc]
   simp) (by
   unfold l1_B
   simp only
   rw [decide_eq_false (by omega),cnd_f,nw_take hi])
  rw [show ((0:Nat):Int) = 0 from rfl,List.replicate_zero,List.append_nil] at inner
  grind[rng_of]) (by
  unfold l2_B
  simp)
 rw [show ((0:Nat):Int) = 0 from rfl,List.take_zero] at this
 simp only [nw,enW,List.map_nil] at this
 grind
end Go.Pl

namespace Go.Pl
open Go Go.Ab Go.Wk Go.Pc
end Go.Pl

namespace Go.Pl
open Go Go.Ab Go.Wk Go.Pc
end Go.Pl

namespace Go.Pl
open Go Go.Ab Go.Wk Go.Pc
end Go.Pl

namespace Go.Pl
open Go Go.Ab Go.Wk Go.Pc
end Go.Pl

namespace Go.Pl
open Go Go.Ab Go.Wk Go.Pc
theorem zero_gen {v:List Int} (hl:v.length ≤ 1000000):IsB (f_ae v) (∀ i,i < v.length → at0 v i = 0):=by
 refine all_fn v.length (fun i => at0 v i = 0) rfl (fun i hi _ => ?_) ?_
 ·unfold l1_ae
  rw [lt_t hi,cnd_t,ixO_at hi,bs]
  by_cases h:at0 v i = 0
  ·rw [show (at0 v i != 0) = false from by grind,cnd_f,rng_of (by omega) (by omega),bs,cs];grind
  grind
 ·unfold l1_ae
  simp
theorem zero_spec {v:List Int} (hl:v.length ≤ 1000000):IsB (f_aO v) (∀ i,i < v.length → at0 v i = 0):=zero_gen hl
end Go.Pl

namespace Go.Pl
open Go Go.Ab Go.Wk Go.Pc
end Go.Pl

namespace Go.Pl
open Go Go.Ab Go.Wk Go.Pc
end Go.Pl

namespace Go.Pl
open Go Go.Ab Go.Wk Go.Pc
end Go.Pl

namespace Go.Pl
open Go Go.Ab Go.Wk Go.Pc
def mkR (m:Nat) (F:Nat → List Int):Mx:=(List.range m).map F
theorem mkR_len {m:Nat} {F:Nat → List Int}:(mkR m F).length = m:=by simp [mkR]
theorem mkR_get {m:Nat} {F:Nat → List Int} {i:Nat} (h:i < m):(mkR m F).getD i [] = F i:=by simp [mkR,List.getD_eq_getElem?_getD,h]
theorem mkR_eq {R:Mx} {m:Nat} (h:R.length = m):R = mkR m (fun i => R.getD i []):=mx_ext (D:=m) h mkR_len (by grind[mkR_get])
end Go.Pl

namespace Go.Pl
open Go Go.Ab Go.Wk Go.Pc
end Go.Pl

namespace Go.Pl
open Go Go.Ab Go.Wk Go.Pc
theorem clone_impl {v:List Int} (h:v.length ≤ 1000000):f_V v = some v:=by
 grind[f_V,appO_of]
end Go.Pl

namespace Go.Pl
open Go Go.Ab Go.Wk Go.Pc
end Go.Pl

namespace Go.Pl
open Go Go.Ab Go.Wk Go.Pc
end Go.Pl

namespace Go.Pl
open Go Go.Ab Go.Wk Go.Pc
end Go.Pl

namespace Go.Pl
open Go Go.Ab Go.Wk Go.Pc
end Go.Pl

namespace Go.Pl
open Go Go.Ab Go.Wk Go.Pc
theorem map_loop {β:Type} {body:List β × Int → Option ((List β × Int) ⊕ List β)} (n:Nat) (F:Nat → β) (h:∀ i acc,i < n → acc.length = i → body (acc,(i:Int)) = some (.inl (acc ++ [F i],((i + 1:Nat):Int)))) (he:∀ acc,body (acc,(n:Int)) = some (.inr acc)) :
  loopO body ([],0) = some ((List.range n).map F):=by
 have:=loopO_seq (body:=body) (r:=(List.range n).map F) (fun i => ((List.range i).map F,(i:Int))) n (by grind[List.range_succ]) (he _)
 exact this
def unitv (D k:Nat):List Int:=mkv D fun j => if j = k then 1 else 0
theorem unitVector_impl {D k:Nat} (hk:k < D) (hD:D ≤ 1000000):f_au (D:Int) (k:Int) = some (unitv D k):=by
 grind[f_au,lenOk_nat,ixO_at,mkv_zero,mkv_set,unitv]
end Go.Pl

namespace Go.Pl
open Go Go.Ab Go.Wk Go.Pc
abbrev gl {β:Type} (m:Nat) (F:Nat → β):List β:=(List.range m).map F
theorem gl_len {β:Type} {m:Nat} {F:Nat → β}:(gl m F).length = m:=by simp [gl]
theorem gl_congr {β:Type} {m:Nat} {F G:Nat → β} (h:∀ i,i < m → F i = G i):gl m F = gl m G:=by grind[List.map_congr_left]
theorem gl_set {β:Type} {m:Nat} {F:Nat → β} {i:Nat} {a:β}:(gl m F).set i a = gl m (fun k => if k = i then a else F k):=by
 apply List.ext_getElem?
 grind
theorem gl_snoc {β:Type} {m:Nat} {F:Nat → β}:gl m F ++ [F m] = gl (m + 1) F:=by simp [gl,List.range_succ]
def unC (N i:Nat):Mx:=gl (N - 1 - i) fun j => unitv N (i + 1 + j)
end Go.Pl

namespace Go.Pl
open Go Go.Ab Go.Wk Go.Pc
theorem triv_impl {O:List Int} {N:Nat} (hO:O.length = N) (hN:N ≤ 100):f_C O = some ⟨O,gl N (fun _ => List.replicate N 0),gl N (unC N)⟩:=by
 have hin:∀ i,i < N → loopO (l1_C O) ([],((i + 1:Nat):Int)) = some (unC N i):=fun i hi => by
  have:=loopO_seq (body:=l1_C O) (r:=unC N i) (fun j => (gl j fun j => unitv N (i + 1 + j),((i + 1 + j:Nat):Int))) (N - 1 - i) (fun j hj => by
   unfold l1_C
   simp only
   rw [hO,lt_t (by omega),cnd_t,unitVector_impl (by omega) (by omega),bs,appO_of (by grind),bs,rng_of (by omega) (by omega),bs,cs,gl_snoc (F:=fun j => unitv N (i + 1 + j))];rfl) (by
   unfold l1_C
   simp only
   rw [hO,show i + 1 + (N - 1 - i) = N from by omega,lt_f,cnd_f,unC])
  exact this
 have:=loopO_seq (body:=l2_C O) (r:=(gl N (fun _ => List.replicate N 0),gl N (unC N))) (fun i => (gl i (fun _ => List.replicate N (0:Int)),gl i (unC N),((i:Nat):Int))) N (fun i hi => by
  unfold l2_C
  simp only
  rw [hO,lt_t hi,cnd_t,lenOk_nat (by omega),bs,appO_of (by grind),bs,rng_of (by omega) (by omega),bs,cs,hin i hi,bs,appO_of (by rw [gl_len];simp;omega),bs,bs,gl_snoc (F:=unC N),gl_snoc (F:=fun _ => List.replicate N (0:Int))]) (by
  unfold l2_C
  grind)
 unfold f_C
 rw [clone_impl (by omega),bs]
 grind
end Go.Pl

namespace Go.Pl
open Go Go.Ab Go.Wk Go.Pc
end Go.Pl

namespace Go.Pl
open Go Go.Ab Go.Wk Go.Pc
end Go.Pl

namespace Go.Pl
open Go Go.Ab Go.Wk Go.Pc
theorem own2_spec {xs:Mx} (h:xs.length ≤ 100000) (hl:∀ i,i < xs.length → (xs.getD i []).length ≤ 1000000):f_ao xs = some xs:=by
 unfold f_ao
 rw [map_loop (body:=l1_ao xs) xs.length (fun i => xs.getD i []) (fun i acc hi ha => by
  unfold l1_ao
  simp only
  rw [lt_t hi,cnd_t,ixO_d [] hi,bs,own_spec (hl i hi),bs,appO_of (by simp;omega),bs,rng_of (by omega) (by omega),bs,cs]) (fun acc => by
  unfold l1_ao
  simp),bs]
 congr 1
 exact (mkR_eq rfl).symm
end Go.Pl

namespace Go.Pl
open Go Go.Ab Go.Wk Go.Pc
end Go.Pl

namespace Go.Pl
open Go Go.Ab Go.Wk Go.Pc
theorem unitT {D k:Nat} (hk:k < D) (hD:D ≤ 1000000):f_aM (D:Int) (k:Int) = some (unitv D k):=unitVector_impl hk hD
def trv (os:List Int):SPr:=⟨os,gl os.length fun _ => List.replicate os.length 0,gl os.length fun i => gl (os.length - 1 - i) fun j => unitv os.length (i + 1 + j)⟩
theorem trivial_ok {os:List Int} (h:os.length ≤ 1000000):f_I os = some (trv os):=by
 unfold f_I
 rw [own_spec h,bs]
 have hin:∀ i:Nat,i < os.length → loopO (l1_I os) ([],((i + 1:Nat):Int)) = some (gl (os.length - 1 - i) fun j => unitv os.length (i + 1 + j)):=fun i hi => by
  refine loopO_seq (fun j => (gl j fun j => unitv os.length (i + 1 + j),((i + 1 + j:Nat):Int))) (os.length - 1 - i) (fun j hj => ?_) ?_
  ·unfold l1_I
   simp only
   rw [lt_t (by omega),cnd_t,unitT (by omega) h,bs,appO_of (by rw [gl_len];simp;omega),bs,rng_of (by omega) (by omega),bs,cs,gl_snoc]
   rfl
  ·unfold l1_I
   simp only
   rw [show decide (((i + 1 + (os.length - 1 - i):Nat):Int) < os.length) = false from by simp;omega,cnd_f]
 have:=loopO_seq (body:=l2_I os) (r:=((trv os).Powers,(trv os).Conjugates)) (fun i => (gl i fun _ => List.replicate os.length 0,(gl i fun i => gl (os.length - 1 - i) fun j => unitv os.length (i + 1 + j)),(i:Int))) os.length (fun i hi => by
  unfold l2_I
  simp only
  rw [lt_t hi,cnd_t,lenOk_nat (by omega),bs,appO_of (by rw [gl_len];simp;omega),bs,rng_of (by omega) (by omega),bs,cs,hin i hi,bs,appO_of (by rw [gl_len];simp;omega),bs,bs,gl_snoc,gl_snoc (F:=fun i => gl (os.length - 1 - i) fun j => unitv os.length (i + 1 + j))]) (by
  unfold l2_I
  simp only
  rw [lt_f,cnd_f];rfl)
 rw [show loopO (l2_I os) ([],[],0) = some ((trv os).Powers,(trv os).Conjugates) from this,bs]
 rfl
end Go.Pl

namespace Go.Pl
open Go Go.Ab Go.Wk
abbrev Bs:=List UInt8
def ba (l:Bs):ByteArray:=⟨l.toArray⟩
theorem ba_l (l:Bs):(ba l).data.toList = l:=by simp [ba]
theorem ba_size (l:Bs):(ba l).size = l.length:=by simp [ba,ByteArray.size]
theorem ba_of (s:ByteArray):ba s.data.toList = s:=by cases s;simp [ba]
theorem ba_ex (s:ByteArray):∃ l,s = ba l ∧ l.length = s.size:=⟨s.data.toList,(ba_of s).symm,rfl⟩
theorem seqB_ba (a b:Bs):seqB (ba a) (ba b) = (a == b):=by unfold seqB;rw [ba_l,ba_l]
theorem scatO_ba {a b:Bs} (h:a.length + b.length ≤ 9223372036854775807):scatO (ba a) (ba b) = some (ba (a ++ b)):=by
 unfold scatO
 rw [ba_size,ba_size,ba_l,ba_l,if_pos (by rw [show IntKind.i64.max = 9223372036854775807 from by decide];omega)];rfl
theorem sixO_ba (a:Bs) (i:Nat):sixO (ba a) i = (a[i]?).map fun b => (b.toNat:Int):=by
 unfold sixO;rw [if_pos (by omega),ba_l];simp
theorem sixO_get {a:Bs} {i:Nat} (h:i < a.length):sixO (ba a) i = some ((a[i].toNat:Nat):Int):=by
 rw [sixO_ba,List.getElem?_eq_getElem h];rfl
theorem sslO_ba {a:Bs} {l h:Nat} (h1:l ≤ h) (h2:h ≤ a.length):sslO (ba a) l h = some (ba ((a.take h).drop l)):=by
 unfold sslO;rw [ba_size,if_pos (by omega),ba_l];simp [ba]
theorem b2s_ba (xs:List Int):b2s xs = ba (xs.map fun n => UInt8.ofNat n.toNat):=rfl
abbrev jn (sep:Bs) (xs:List Bs):Bs:=sep.intercalate xs
theorem jn_one (sep x:Bs):jn sep [x] = x:=by simp [jn,List.intercalate]
theorem jn_cons (sep x:Bs) (r:List Bs):jn sep (x :: r) = x ++ Lib.joinTail sep r:=Lib.join_cons x r sep
theorem jn_cons2 (sep x y:Bs) (r:List Bs):jn sep (x :: y :: r) = x ++ (sep ++ jn sep (y :: r)):=by
 rw [jn_cons,jn_cons];simp [Lib.joinTail]
theorem jn_len (sep x:Bs) (r:List Bs) (m k:Nat) (hx:∀ y ∈ x :: r,y.length ≤ m) (hr:r.length ≤ k):(jn sep (x :: r)).length ≤ m + k * (sep.length + m):=by
 rw [jn_cons,List.length_append]
 have:∀ (r:List Bs) (k:Nat),(∀ y ∈ r,y.length ≤ m) → r.length ≤ k → (Lib.joinTail sep r).length ≤ k * (sep.length + m):=by
  intro r
  induction r with
  | nil => intro k _ _;simp [Lib.joinTail]
  | cons y r ih =>
   intro k h1 h2
   obtain ⟨k,rfl⟩:∃ q,k = q + 1:=⟨k - 1,by simp at h2;omega⟩
   have h3:=ih k (fun z hz => h1 z (by simp [hz])) (by simpa using h2)
   have h4:=h1 y (by simp)
   simp only [Lib.joinTail,List.map_cons,List.flatten_cons,List.length_append] at h3 ⊢
   rw [Nat.succ_mul]
   omega
 have h1:=this r k (fun y hy => hx y (by simp [hy])) hr
 have h2:=hx x (by simp)
 omega
theorem join_ba {xs:List Bs} {sep:Bs} (h:xs.length ≤ 1000000) (h2:(jn sep xs).length ≤ 100000000):f_N (xs.map ba) (ba sep) = some (ba (jn sep xs)):=by
 unfold f_N
 have e:(xs.map ba).map (fun s:ByteArray => s.data.toList) = xs:=by rw [List.map_map];simp [Function.comp_def,ba_l]
 rw [e,ba_l,List.length_map,if_pos]
 ·rfl
 ·exact ⟨by omega,by show (jn sep xs).length ≤ _;omega⟩
theorem ix_hit {c:UInt8} {r:Bs}:∀ (x rest:Bs),c ∉ x → Lib.index (x ++ (c :: r ++ rest)) (c :: r) = (x.length:Int)
 | [],rest,_ => by
  rw [List.nil_append,List.cons_append,Lib.index,if_pos]
  ·rfl
  ·simp [List.isPrefixOf]
 | b :: x,rest,h => by
  simp only [List.mem_cons,not_or] at h
  rw [List.cons_append,Lib.index,if_neg,ix_hit x rest h.2,if_neg]
  ·simp
  ·simp
  ·simp [List.isPrefixOf,h.1]
theorem ix_miss {c:UInt8} {r:Bs}:∀ (x:Bs),c ∉ x → Lib.index x (c :: r) = -1
 | [],_ => by simp [Lib.index]
 | b :: x,h => by
  simp only [List.mem_cons,not_or] at h
  rw [Lib.index,if_neg,ix_miss x h.2,if_pos]
  ·rfl
  ·simp [List.isPrefixOf,h.1]
theorem split_hit {c:UInt8} {r x rest:Bs} (h:c ∉ x):Lib.split (x ++ (c :: r ++ rest)) (c :: r) = x :: Lib.split rest (c :: r):=by
 have h1:=ix_hit (r:=r) x rest h
 unfold Lib.split
 rw [Lib.count_hit (by simp) h1]
 have e:(x ++ (c :: r ++ rest)).drop (x.length + (c :: r).length) = rest:=by
  rw [← List.append_assoc,← List.length_append,List.drop_left']
  rfl
 rw [e,Nat.add_comm 1,Lib.splitK,if_neg (by rw [h1];simp),h1]
 simp only [Int.toNat_natCast,Nat.add_zero,e]
 rw [List.take_left']
 rfl
theorem split_miss {c:UInt8} {r x:Bs} (h:c ∉ x):Lib.split x (c :: r) = [x]:=by
 unfold Lib.split
 rw [Lib.count_miss (ix_miss x h)];rfl
theorem split_jn {c:UInt8} {r:Bs}:∀ (xs:List Bs) (x:Bs),(∀ y ∈ x :: xs,c ∉ y) → Lib.split (jn (c :: r) (x :: xs)) (c :: r) = x :: xs
 | [],x,h => by rw [jn_one,split_miss (h x (by simp))]
 | y :: xs,x,h => by
  rw [jn_cons2,split_hit (h x (by simp)),split_jn xs y (fun z hz => h z (by simp at hz ⊢;exact .inr hz))]
theorem splitB_ba {s sep:Bs} (h:s.length ≤ 4000000000) (h1:sep ≠ []):f_L (ba s) (ba sep) = some ((Lib.split s sep).map ba):=by
 unfold f_L
 have hs:1 ≤ sep.length:=by cases sep with | nil => exact absurd rfl h1 | cons _ _ => simp
 rw [ba_size,ba_size,if_pos ⟨by omega,hs⟩]
 have h2:=Lib.splitB_data (ba sep) 0 (Lib.countB (ba s) (ba sep)) (ba s)
 rw [ba_l,ba_l] at h2
 have h3:Lib.countB (ba s) (ba sep) = Lib.count s sep:=by
  show Lib.count _ _ = _
  rw [ba_l,ba_l]
 rw [h3] at h2 ⊢
 congr 1
 unfold Lib.split
 rw [← h2,List.map_map]
 simp [Function.comp_def,ba_of]
theorem split_parts {sep:Bs}:∀ (k:Nat) (s:Bs),∀ x ∈ Lib.splitK sep 0 k s,x.length ≤ s.length
 | 0,s,x,h => by simp [Lib.splitK] at h;subst h;exact Nat.le_refl _
 | k + 1,s,x,h => by
  unfold Lib.splitK at h
  split at h
  ·simp at h;subst h;exact Nat.le_refl _
  ·rcases List.mem_cons.1 h with h | h
   ·subst h;simp;omega
   ·have:=split_parts k _ x h
    simp at this;omega
theorem split_ne {sep:Bs}:∀ (k:Nat) (s:Bs),Lib.splitK sep 0 k s ≠ []
 | 0,s => by simp [Lib.splitK]
 | k + 1,s => by unfold Lib.splitK;split <;> simp
theorem split_len {s sep:Bs} (h1:sep ≠ []):(Lib.split s sep).length ≤ s.length + 1:=by
 have h2:=Lib.splitB_length_le (ba sep) 0 (Lib.countB (ba s) (ba sep)) (ba s)
 have hs:1 ≤ sep.length:=by cases sep with | nil => exact absurd rfl h1 | cons _ _ => simp
 have h4:=Lib.countB_le (ba sep) (by rw [ba_size];exact hs) (ba s).size (ba s) (Nat.le_refl _)
 have h5:=congrArg List.length (Lib.splitB_data (ba sep) 0 (Lib.countB (ba s) (ba sep)) (ba s))
 have h3:Lib.countB (ba s) (ba sep) = Lib.count s sep:=by
  show Lib.count _ _ = _
  rw [ba_l,ba_l]
 rw [ba_l,ba_l,h3,List.length_map] at h5
 unfold Lib.split
 rw [← h5,← h3]
 rw [ba_size] at h4
 omega
theorem cut_ba {s sep:Bs} (h:s.length ≤ 4000000000):f_E (ba s) (ba sep) = some (ba (Lib.cut s sep).1,ba (Lib.cut s sep).2.1,(Lib.cut s sep).2.2):=by
 unfold f_E
 rw [ba_size,if_pos (by omega),ba_l,ba_l];rfl
theorem cut_len (s sep:Bs):(Lib.cut s sep).1.length ≤ s.length ∧ (Lib.cut s sep).2.1.length ≤ s.length:=by
 unfold Lib.cut
 split <;> simp <;> omega
theorem cut_hit {c:UInt8} {x rest:Bs} (h:c ∉ x):Lib.cut (x ++ c :: rest) [c] = (x,rest,true):=by
 have:=ix_hit (r:=[]) x rest h
 unfold Lib.cut
 simp only [List.cons_append,List.nil_append] at this
 rw [this,if_pos (by omega)]
 simp
end Go.Pl

namespace Go.Pl
open Go Go.Ab Go.Wk
def splA (c:UInt8):List Bs → Bs → Bs → List Bs × Bs
 | out,cur,[] => (out,cur)
 | out,cur,b :: l => if b = c then splA c (out ++ [cur]) [] l else splA c out (cur ++ [b]) l
def spl (c:UInt8) (t:Bs):List Bs:=(splA c [] [] t).1 ++ [(splA c [] [] t).2]
theorem splA_hit {c:UInt8}:∀ (x rest:Bs) (out:List Bs) (cur:Bs),c ∉ x → splA c out cur (x ++ c :: rest) = splA c (out ++ [cur ++ x]) [] rest
 | [],rest,out,cur,_ => by simp [splA]
 | b :: x,rest,out,cur,h => by
  simp only [List.mem_cons,not_or] at h
  rw [List.cons_append,splA,if_neg (fun e => h.1 e.symm),splA_hit x rest _ _ h.2]
  simp
theorem splA_miss {c:UInt8}:∀ (x:Bs) (out:List Bs) (cur:Bs),c ∉ x → splA c out cur x = (out,cur ++ x)
 | [],out,cur,_ => by simp [splA]
 | b :: x,out,cur,h => by
  simp only [List.mem_cons,not_or] at h
  rw [splA,if_neg (fun e => h.1 e.symm),splA_miss x _ _ h.2]
  simp
theorem splA_out {c:UInt8}:∀ (l:Bs) (out:List Bs) (cur:Bs),splA c out cur l = (out ++ (splA c [] cur l).1,(splA c [] cur l).2)
 | [],out,cur => by simp [splA]
 | b :: l,out,cur => by
  simp only [splA]
  split
  ·rw [splA_out l (out ++ [cur]) [],splA_out l ([] ++ [cur]) []];simp
  ·exact splA_out l out (cur ++ [b])
theorem spl_jn {c:UInt8}:∀ (xs:List Bs) (x:Bs),(∀ y ∈ x :: xs,c ∉ y) → spl c (jn [c] (x :: xs)) = x :: xs
 | [],x,h => by unfold spl;rw [jn_one,splA_miss x _ _ (h x (by simp))];simp
 | y :: xs,x,h => by
  have ih:=spl_jn xs y fun z hz => h z (by simp at hz ⊢;exact .inr hz)
  unfold spl at ih ⊢
  rw [jn_cons2,List.singleton_append,splA_hit x _ _ _ (h x (by simp)),splA_out]
  simpa using ih
theorem splA_parts {c:UInt8}:∀ (l:Bs) (out:List Bs) (cur:Bs) (m:Nat),(∀ x ∈ out,x.length ≤ m) → cur.length + l.length ≤ m → (∀ x ∈ (splA c out cur l).1,x.length ≤ m) ∧ (splA c out cur l).2.length ≤ m ∧ (splA c out cur l).1.length ≤ out.length + l.length
 | [],out,cur,m,h1,h2 => ⟨h1,by simpa [splA] using h2,by simp [splA]⟩
 | b :: l,out,cur,m,h1,h2 => by
  simp only [List.length_cons] at h2
  simp only [splA]
  split
  ·have:=splA_parts (c:=c) l (out ++ [cur]) [] m (fun x hx => by simp at hx;rcases hx with hx | rfl;exact h1 x hx;omega) (by simp;omega)
   simp only [List.length_append,List.length_cons,List.length_nil] at this ⊢
   exact ⟨this.1,this.2.1,by omega⟩
  ·have:=splA_parts (c:=c) l out (cur ++ [b]) m h1 (by simp;omega)
   simp only [List.length_cons]
   exact ⟨this.1,this.2.1,by omega⟩
theorem spl_parts {c:UInt8} (t:Bs):(∀ x ∈ spl c t,x.length ≤ t.length) ∧ (spl c t).length ≤ t.length + 1 ∧ spl c t ≠ []:=by
 obtain ⟨h1,h2,h3⟩:=splA_parts (c:=c) t [] [] t.length (by simp) (by simp)
 refine ⟨fun x hx => ?_,?_,by simp [spl]⟩
 ·simp only [spl,List.mem_append,List.mem_singleton] at hx
  rcases hx with hx | rfl
  ·exact h1 x hx
  ·exact h2
 ·simp only [spl,List.length_append,List.length_cons,List.length_nil] at h3 ⊢
  omega
theorem beq_u8 (a b:UInt8):(((a.toNat:Nat):Int) == ((b.toNat:Nat):Int)) = decide (a = b):=by
 rw [Bool.eq_iff_iff]
 simp only [beq_iff_eq,decide_eq_true_eq]
 exact ⟨fun h => UInt8.toNat_inj.1 (by omega),fun h => by rw [h]⟩
theorem split_spec {c:UInt8} {n:Int} (hn:n = ((c.toNat:Nat):Int)) {t:Bs} (ht:t.length ≤ 2000000):f_O (ba t) n = some ((spl c t).map ba):=by
 subst hn
 have key:∀ (l:Bs) (out:List Bs) (cur pre:Bs),t = pre ++ (cur ++ l) → out.length ≤ pre.length → loopO (l1_O (ba t) ((c.toNat:Nat):Int)) (out.map ba,(pre.length:Int),((pre ++ cur).length:Int)) =
   some ((splA c out cur l).1.map ba,((t.length - (splA c out cur l).2.length:Nat):Int)) ∧ (splA c out cur l).2 = t.drop (t.length - (splA c out cur l).2.length):=by
  intro l
  induction l with
  | nil =>
   intro out cur pre e _
   have el:t.length = pre.length + cur.length:=by rw [e];simp
   refine ⟨?_,?_⟩
   ·rw [loopO_eq]
    unfold l1_O
    simp only [ba_size]
    rw [show decide (((pre ++ cur).length:Int) < (t.length:Int)) = false by simp;omega,cnd_f]
    simp only [splA]
    rw [show t.length - cur.length = pre.length by omega]
   ·simp only [splA]
    rw [show t.length - cur.length = pre.length by omega,e]
    simp
  | cons b l ih =>
   intro out cur pre e ho
   have el:t.length = pre.length + cur.length + l.length + 1:=by rw [e];simp;omega
   have hb:t[(pre ++ cur).length]? = some b:=by rw [e,← List.append_assoc];simp
   have h1:sixO (ba t) ((pre ++ cur).length:Int) = some ((b.toNat:Nat):Int):=by rw [sixO_ba,hb];rfl
   have e2:(((pre ++ cur).length:Int) + 1) = ((pre ++ (cur ++ [b])).length:Int):=by simp;omega
   by_cases hc:b = c
   ·have hst:l1_O (ba t) ((c.toNat:Nat):Int) (out.map ba,(pre.length:Int),((pre ++ cur).length:Int)) = some (.inl ((out ++ [cur]).map ba,((pre ++ (cur ++ [b])).length:Int),((pre ++ (cur ++ [b])).length:Int))):=by
     unfold l1_O
     simp only [ba_size]
     rw [show decide (((pre ++ cur).length:Int) < (t.length:Int)) = true by simp;omega,cnd_t,h1,bs,beq_u8,decide_eq_true hc,cnd_t,sslO_ba (by simp) (by simp;omega),bs,
      appO_of (by simp;omega),bs,rng_of (by simp;omega) (by simp;omega),bs,bs,e2]
     have hx:(t.take (pre ++ cur).length).drop pre.length = cur:=by
      rw [e,← List.append_assoc,List.take_left' rfl];simp
     rw [hx,List.map_append];rfl
    have:=ih (out ++ [cur]) [] (pre ++ (cur ++ [b])) (by rw [e];simp) (by simp;omega)
    rw [loopO_eq,hst]
    simp only [splA,if_pos hc]
    simpa using this
   ·have hst:l1_O (ba t) ((c.toNat:Nat):Int) (out.map ba,(pre.length:Int),((pre ++ cur).length:Int)) = some (.inl (out.map ba,(pre.length:Int),((pre ++ (cur ++ [b])).length:Int))):=by
     unfold l1_O
     simp only [ba_size]
     rw [show decide (((pre ++ cur).length:Int) < (t.length:Int)) = true by simp;omega,cnd_t,h1,bs,beq_u8,decide_eq_false hc,cnd_f,rng_of (by simp;omega) (by simp;omega),bs,e2]
    have:=ih out (cur ++ [b]) pre (by rw [e];simp) ho
    rw [loopO_eq,hst]
    simp only [splA,if_neg hc]
    exact this
 obtain ⟨k1,k2⟩:=key t [] [] [] rfl (by simp)
 obtain ⟨p1,p2,p3⟩:=splA_parts (c:=c) t [] [] t.length (by simp) (by simp)
 unfold f_O
 replace k1:loopO (l1_O (ba t) ((c.toNat:Nat):Int)) ([],0,0) = _:=k1
 rw [k1,bs,ba_size]
 simp only
 rw [sslO_ba (by omega) (Nat.le_refl _),bs,appO_of (by simp at p3 ⊢;omega),bs]
 rw [List.take_length,← k2]
 unfold spl
 simp
end Go.Pl

namespace Go.Pl
open Go Go.Ab Go.Wk Go.Pc
theorem app_loop {α σ:Type} (A:List α → σ) {body:σ × Int → Option ((σ × Int) ⊕ σ)} (i0 n K:Nat) (part:Nat → List α) (acc0:List α) (hK:∀ i,i < n → (part i).length ≤ K)
  (h:∀ i acc,i < n → acc.length ≤ acc0.length + n * K → body (A acc,((i0 + i:Nat):Int)) = some (.inl (A (acc ++ part i),((i0 + (i + 1):Nat):Int))))
  (he:∀ acc,body (A acc,((i0 + n:Nat):Int)) = some (.inr (A acc))):loopO body (A acc0,(i0:Int)) = some (A (acc0 ++ (List.range n).flatMap part)):=by
 have hlen:∀ i,i ≤ n → ((List.range i).flatMap part).length ≤ i * K:=by
  intro i
  induction i with
  | zero => intro _;simp
  | succ i ih =>
   intro hi
   rw [List.range_succ,List.flatMap_append,List.length_append,Nat.succ_mul]
   have:=ih (by omega)
   have:=hK i (by omega)
   simp only [List.flatMap_cons,List.flatMap_nil,List.append_nil]
   omega
 have:=loopO_seq (body:=body) (r:=A (acc0 ++ (List.range n).flatMap part)) (fun i => (A (acc0 ++ (List.range i).flatMap part),((i0 + i:Nat):Int))) n (fun i hi => by
  have h1:=hlen i (by omega)
  have h2:i * K ≤ n * K:=Nat.mul_le_mul_right K (by omega)
  rw [h i _ hi (by rw [List.length_append];omega),List.range_succ,List.flatMap_append]
  simp) (he _)
 simpa using this
def lt (x:Nat):UInt8:=UInt8.ofNat (97 + x)
def dg (o:Int):Bs:=[UInt8.ofNat (48 + o.toNat)]
def wt (w:List Nat):Bs:=if w = [] then [49] else w.map lt
theorem wt_len (w:List Nat):(wt w).length ≤ w.length + 1:=by unfold wt;split <;> simp
theorem lt_nat {x:Nat} (h:x < 26):(lt x).toNat = 97 + x:=by unfold lt;rw [UInt8.toNat_ofNat'];omega
theorem wrap8 {n:Int} (h1:0 ≤ n) (h2:n < 256):IntKind.wrap .u8 n = n:=by
 simp only [IntKind.wrap,IntKind.signed,IntKind.bits,Bool.false_and,Bool.false_eq_true,if_false]
 omega
theorem wrap64i {n:Int} (h1:-9223372036854775808 ≤ n) (h2:n < 9223372036854775808):IntKind.wrap .i64 n = n:=by
 simp only [IntKind.wrap,IntKind.signed,IntKind.bits,Bool.true_and]
 split <;> rename_i hq <;> (try simp at hq) <;> omega
theorem word_text {w:List Nat} (hw:∀ a ∈ w,a < 26) (hl:w.length ≤ 1000):f_P (enW w) = some (ba (wt w)) ∧ f_W (enW w) = some (ba (wt w)):=by
 have hx:∀ i (h:i < w.length),ixO (enW w) (i:Int) = some ((w[i]:Int) + 1):=fun i h => by
  rw [ixO_get (by simpa using h)];simp
 have hb:∀ i (h:i < w.length),w[i] < 26:=fun i h => hw _ (List.getElem_mem h)
 by_cases h0:w = []
 ·subst h0
  exact ⟨rfl,rfl⟩
 ·have hpos:0 < w.length:=List.length_pos_iff.2 h0
  have hlen:(enW w).length = w.length:=by simp
  have hr:(List.range w.length).flatMap (fun i => [((97 + w.getD i 0:Nat):Int)]) = w.map fun a => ((97 + a:Nat):Int):=by
   rw [← List.map_eq_flatMap]
   apply List.ext_getElem
   ·simp
   ·intro i h1 h2
    simp at h1
    simp [List.getD_eq_getElem?_getD,h1]
  have hres:b2s (w.map fun a => ((97 + a:Nat):Int)) = ba (wt w):=by
   rw [b2s_ba,wt,if_neg h0,List.map_map]
   rfl
  refine ⟨?_,?_⟩
  ·unfold f_P
   rw [hlen,show ((w.length:Int) == 0) = false by simp;omega,cnd_f]
   have:=app_loop (α:=Int) (fun a => a) (body:=l1_P (enW w)) 0 w.length 1 (fun i => [((97 + w.getD i 0:Nat):Int)]) [] (fun _ _ => by simp) (fun i acc hi ha => by
    unfold l1_P
    have hbi:=hb i hi
    have e:w.getD i 0 = w[i]:=by rw [List.getD_eq_getElem?_getD,List.getElem?_eq_getElem hi];rfl
    simp only [Nat.zero_add,hlen]
    rw [lt_t hi,cnd_t,hx i hi,bs,show decide ((w[i]:Int) + 1 > 0) = true by simp,cnd_t,rng_of (by omega) (by omega),bs,rng_of (by omega) (by omega),bs,wrap8 (by omega) (by omega),appO_of (by simp at ha ⊢;omega),bs,
     rng_of (by omega) (by omega),bs,cs,e]
    rw [show (97 + ((w[i] + 1:Nat):Int) - 1) = ((97 + w[i]:Nat):Int) by omega,cs]) (fun acc => by
    unfold l1_P
    simp only [Nat.zero_add,hlen]
    rw [lt_f,cnd_f])
   rw [show loopO (l1_P (enW w)) ([],0) = _ from this,bs,List.nil_append,hr,hres]
  ·unfold f_W
   rw [hlen,show ((w.length:Int) == 0) = false by simp;omega,cnd_f]
   have:=app_loop (α:=Int) (fun a => a) (body:=l1_W (enW w)) 0 w.length 1 (fun i => [((97 + w.getD i 0:Nat):Int)]) [] (fun _ _ => by simp) (fun i acc hi ha => by
    unfold l1_W
    have hbi:=hb i hi
    have e:w.getD i 0 = w[i]:=by rw [List.getD_eq_getElem?_getD,List.getElem?_eq_getElem hi];rfl
    simp only [Nat.zero_add,hlen]
    rw [lt_t hi,cnd_t,hx i hi,bs,show decide ((w[i]:Int) + 1 > 0) = true by simp,cnd_t,bs,rng_of (by omega) (by omega),bs,rng_of (by omega) (by omega),bs,wrap8 (by omega) (by omega),appO_of (by simp at ha ⊢;omega),bs,
     rng_of (by omega) (by omega),bs,cs,e]
    rw [show (97 + ((w[i] + 1:Nat):Int) - 1) = ((97 + w[i]:Nat):Int) by omega,cs]) (fun acc => by
    unfold l1_W
    simp only [Nat.zero_add,hlen]
    rw [lt_f,cnd_f])
   rw [show loopO (l1_W (enW w)) ([],0) = _ from this,bs,List.nil_append,hr,hres]
theorem letter_spec {x:Nat} (h:x < 26):f_aP (x:Int) = some (ba [lt x]):=by
 unfold f_aP
 rw [rng_of (by omega) (by omega),bs]
 have:=(word_text (w:=[x]) (by simp;omega) (by simp)).2
 rw [show enW [x] = [((x:Int) + 1)] from rfl] at this
 rw [this,bs]
 rfl
theorem r2s_small:∀ x:Fin 26,(r2s ((97 + x.val:Nat):Int)).data.toList = [lt x.val]:=by decide +kernel
theorem letter_impl {x:Nat} (h:x < 26):f_ai (x:Int) = some (ba [lt x]):=by
 unfold f_ai
 rw [rng_of (by omega) (by omega),bs]
 have e:IntKind.wrap .i32 (97 + (x:Int)) = ((97 + x:Nat):Int):=by
  simp only [IntKind.wrap,IntKind.signed,IntKind.bits,Bool.true_and]
  split <;> rename_i hq <;> (try simp at hq) <;> omega
 rw [e,← ba_of (r2s _),r2s_small ⟨x,h⟩]
theorem dec_spec {o:Int} (h:0 ≤ o) (h9:o < 10):f_l o = some (ba (dg o)):=by
 unfold f_l
 refine fuelO_of 1 fun m hm => ?_
 obtain ⟨q,rfl⟩:∃ q,m = q + 1:=⟨m - 1,by omega⟩
 simp only [fN_l]
 unfold b_l
 rw [decide_eq_true h9,cnd_t,rng_of (by omega) (by omega),bs,wrap8 (by omega) (by omega),b2s_ba]
 show some (ba [UInt8.ofNat (48 + o).toNat]) = some (ba [UInt8.ofNat (48 + o.toNat)])
 rw [show (48 + o).toNat = 48 + o.toNat by omega]
theorem dec_impl {o:Int} (h:0 ≤ o) (h9:o < 10):f_aA o 10 = some (ba (dg o)):=by
 unfold f_aA
 rw [if_pos ⟨h,by omega,rfl⟩,Lib.decDigits_one (by omega)]
 rfl
end Go.Pl

namespace Go.Pl
open Go Go.Ab Go.Wk Go.Pc
abbrev It:=Nat × Option Nat
section
variable (p:SPr)
def itv:It → List Int
 | (x,none) => p.Powers.getD x []
 | (j,some i) => (p.Conjugates.getD i []).getD (j - 1 - i) []
def itk:It → Bs
 | (x,none) => [lt x,94] ++ dg (at0 p.Orders x)
 | (j,some i) => [lt j,94,lt i]
def itx (t:It):Bs:=itk p t ++ 61 :: wt (nw 0 (itv p t))
def itP (i:Nat):List It:=if p.Powers.getD i [] = List.replicate p.Orders.length 0 then [] else [(i,none)]
def itC (i k:Nat):List It:=if (p.Conjugates.getD i []).getD k [] = unitv p.Orders.length (i + 1 + k) then [] else [(i + 1 + k,some i)]
def itD (i:Nat):List It:=(List.range (p.Orders.length - 1 - i)).flatMap (itC p i)
def items:List It:=(List.range p.Orders.length).flatMap (itP p) ++ (List.range p.Orders.length).flatMap (itD p)
def ordT (os:List Int):Bs:=if os = [] then [49] else jn [32] (os.map dg)
def txt:Bs:=jn [59,32] (ordT p.Orders :: (items p).map (itx p))
end
variable {p:SPr}
theorem word_spec {v:List Int} (hl:v.length ≤ 14) (hv:∀ i,i < v.length → 0 ≤ at0 v i ∧ at0 v i ≤ 6):f_G v = some (enW (nw 0 v)):=by
 unfold f_G
 have hlen:∀ i,(nw 0 (v.take i)).length ≤ 84:=fun i => by
  have:=nw_len 0 (v.take i) (by grind)
  grind
 have:=loopO_seq (body:=l2_G v) (r:=enW (nw 0 v)) (fun i => (enW (nw 0 (v.take i)),(i:Int))) v.length (fun i hi => by
  have hvi:=hv i hi
  have hli:=hlen i
  unfold l2_G
  simp only
  rw [lt_t hi,cnd_t]
  have inner:=loopO_seq (body:=l1_G v (enW (nw 0 (v.take i)),(i:Int))) (r:=enW (nw 0 (v.take (i + 1)))) (fun k => (enW (nw 0 (v.take i) ++ List.replicate k i),(k:Int))) (at0 v i).toNat (fun k hk => by
   unfold l1_G
   simp only
   rw [ixO_at hi,bs,decide_eq_true (by omega),cnd_t,rng_of (by omega) (by omega),bs,appO_of (by grind),bs,rng_of (by omega) (by omega),bs,cs]
   congr 3
   rw [List.replicate_succ',← List.append_assoc]
   simp) (by
   unfold l1_G
   simp only
   rw [ixO_at hi,bs,decide_eq_false (by omega),cnd_f,nw_take hi])
  rw [show ((0:Nat):Int) = 0 from rfl,List.replicate_zero,List.append_nil] at inner
  rw [inner,bs,rng_of (by omega) (by omega),bs,cs]) (by
  unfold l2_G
  simp)
 rw [show ((0:Nat):Int) = 0 from rfl,List.take_zero] at this
 simp only [nw,enW,List.map_nil] at this
 rw [this,bs]
theorem exps_sm {x:SPr} (h:PresS x) {v:List Int} (hv:Exps x.Orders v):v.length ≤ 6 ∧ (∀ i,i < v.length → 0 ≤ at0 v i ∧ at0 v i ≤ 6) ∧ (∀ a ∈ nw 0 v,a < 26) ∧ (nw 0 v).length ≤ 36:=by
 have h1:v.length ≤ 6:=by have:=h.n6;have:=hv.1;omega
 have h2:∀ i,i < v.length → 0 ≤ at0 v i ∧ at0 v i ≤ 6:=fun i hi => by
  have h3:=hv.2 i hi
  have h4:=(h.os.2 i (by have:=hv.1;omega)).pos
  omega
 refine ⟨h1,h2,fun a ha => ?_,?_⟩
 ·have:=nw_lt (n:=v.length) 0 v (by omega) a ha
  omega
 ·have:=nw_len 0 v fun i hi => (h2 i hi).2
  omega
theorem exps_word {x:SPr} (h:PresS x) {v:List Int} (hv:Exps x.Orders v):(f_B v).bind f_P = some (ba (wt (nw 0 v))) ∧ (f_G v).bind f_W = some (ba (wt (nw 0 v))):=by
 obtain ⟨h1,h2,h3,h4⟩:=exps_sm h hv
 rw [normalWord_impl (by omega) h2,word_spec (by omega) h2,bs,bs]
 exact word_text h3 (by omega)
theorem zero_eq {v:List Int} {n:Nat} (hl:v.length = n):(∀ i,i < v.length → at0 v i = 0) ↔ v = List.replicate n 0:=by
 constructor
 ·intro h
  apply List.ext_getElem
  ·simp [hl]
  ·intro i h1 h2
   have:=h i h1
   rw [at0,List.getD_eq_getElem?_getD,List.getElem?_eq_getElem h1] at this
   simpa using this
 ·intro h i hi
  subst h
  simp [at0,List.getD_eq_getElem?_getD,List.getElem?_replicate]
  split <;> rfl
theorem isZ {o:Option Bool} {v:List Int} {n:Nat} (hl:v.length = n) (h:IsB o (∀ i,i < v.length → at0 v i = 0)):o = some (decide (v = List.replicate n 0)):=by
 rcases h with ⟨h1,h2⟩ | ⟨h1,h2⟩
 ·rw [h1,decide_eq_true ((zero_eq hl).1 h2)]
 ·rw [h1,decide_eq_false fun e => h2 ((zero_eq hl).2 e)]
section
variable (h:PresS p)
 include h
theorem pw_ok {i:Nat} (hi:i < p.Orders.length):Exp p.Orders (p.Powers.getD i []) i:=(h.tl i hi).1
theorem cj_ok {i k:Nat} (hi:i < p.Orders.length) (hk:k < p.Orders.length - 1 - i):Exp p.Orders ((p.Conjugates.getD i []).getD k []) i:=(h.tl i hi).2.2 k (by have:=(h.tl i hi).2.1;omega)
theorem cj_len {i:Nat} (hi:i < p.Orders.length):(p.Conjugates.getD i []).length = p.Orders.length - 1 - i:=by have:=(h.tl i hi).2.1;omega
theorem or_ok {i:Nat} (hi:i < p.Orders.length):2 ≤ at0 p.Orders i ∧ at0 p.Orders i ≤ 7:=(h.os.2 i hi).pos
end
theorem ord_jn:∀ (os:List Int),(List.range os.length).flatMap (fun i => (if i = 0 then [] else [(32:UInt8)]) ++ dg (at0 os i)) = jn [32] (os.map dg)
 | [] => by simp [jn,List.intercalate]
 | o :: os => by
  rw [List.map_cons,jn_cons,List.length_cons,List.range_succ_eq_map,List.flatMap_cons,List.flatMap_map]
  congr 1
  simp only [Lib.joinTail]
  have:∀ (xs:List Int),(List.range xs.length).flatMap (fun i => (32:UInt8) :: dg (at0 xs i)) = ((xs.map dg).map ([32] ++ ·)).flatten:=by
   intro xs
   induction xs with
   | nil => rfl
   | cons x xs ih =>
    rw [List.length_cons,List.range_succ_eq_map,List.flatMap_cons,List.flatMap_map,List.map_cons,List.map_cons,List.flatten_cons,← ih]
    rfl
  rw [← this os]
  rfl
theorem dg_len (o:Int):(dg o).length = 1:=rfl
theorem itx_len (h:PresS p) {t:It} (ht:Exps p.Orders (itv p t)):(itx p t).length ≤ 41:=by
 have h1:=wt_len (nw 0 (itv p t))
 have h2:=(exps_sm h ht).2.2.2
 unfold itx itk
 obtain ⟨x,i⟩:=t
 cases i <;> simp [dg] <;> omega
theorem itP_ok (h:PresS p) {i:Nat} (hi:i < p.Orders.length):((itP p i).map (itx p)).length ≤ 1 ∧ ∀ t ∈ itP p i,Exps p.Orders (itv p t):=by
 unfold itP
 split
 ·simp
 ·refine ⟨by simp,fun t ht => ?_⟩
  simp only [List.mem_singleton] at ht
  subst ht
  exact (pw_ok h hi).1
theorem itC_ok (h:PresS p) {i k:Nat} (hi:i < p.Orders.length) (hk:k < p.Orders.length - 1 - i):((itC p i k).map (itx p)).length ≤ 1 ∧ ∀ t ∈ itC p i k,Exps p.Orders (itv p t):=by
 unfold itC
 split
 ·simp
 ·refine ⟨by simp,fun t ht => ?_⟩
  simp only [List.mem_singleton] at ht
  subst ht
  simp only [itv]
  rw [show i + 1 + k - 1 - i = k by omega]
  exact (cj_ok h hi hk).1
theorem flm_len {α:Type} {n K:Nat} {f:Nat → List α}:(∀ i,i < n → (f i).length ≤ K) → ((List.range n).flatMap f).length ≤ n * K:=by
 induction n with
 | zero => intro _;simp
 | succ n ih =>
  intro h
  rw [List.range_succ,List.flatMap_append,List.length_append,Nat.succ_mul]
  have:=ih fun i hi => h i (by omega)
  have:=h n (by omega)
  simp only [List.flatMap_cons,List.flatMap_nil,List.append_nil]
  omega
theorem itD_ok (h:PresS p) {i:Nat} (hi:i < p.Orders.length):((itD p i).map (itx p)).length ≤ 6 ∧ ∀ t ∈ itD p i,Exps p.Orders (itv p t):=by
 have hn:=h.n6
 refine ⟨?_,fun t ht => ?_⟩
 ·rw [List.length_map]
  have:(itD p i).length ≤ (p.Orders.length - 1 - i) * 1:=flm_len fun k hk => by have:=(itC_ok h hi hk).1;rw [List.length_map] at this;exact this
  omega
 ·simp only [itD,List.mem_flatMap,List.mem_range] at ht
  obtain ⟨k,hk,ht⟩:=ht
  exact (itC_ok h hi hk).2 t ht
theorem items_ok (h:PresS p):(items p).length ≤ 42 ∧ ∀ t ∈ items p,Exps p.Orders (itv p t):=by
 have hn:=h.n6
 refine ⟨?_,fun t ht => ?_⟩
 ·have h1:((List.range p.Orders.length).flatMap (itP p)).length ≤ p.Orders.length * 1:=flm_len fun i hi => by have:=(itP_ok h hi).1;rw [List.length_map] at this;exact this
  have h2:((List.range p.Orders.length).flatMap (itD p)).length ≤ p.Orders.length * 6:=flm_len fun i hi => by have:=(itD_ok h hi).1;rw [List.length_map] at this;exact this
  rw [items,List.length_append]
  omega
 ·simp only [items,List.mem_append,List.mem_flatMap,List.mem_range] at ht
  rcases ht with ⟨i,hi,ht⟩ | ⟨i,hi,ht⟩
  ·exact (itP_ok h hi).2 t ht
  ·exact (itD_ok h hi).2 t ht
theorem scat_l {a l:Bs} (h:a.length + l.length ≤ 9223372036854775807):scatO (ba a) (ByteArray.mk l.toArray) = some (ba (a ++ l)):=scatO_ba h
theorem word_impl2 (h:PresS p) {v:List Int} (hv:Exps p.Orders v):∃ W,f_B v = some W ∧ f_P W = some (ba (wt (nw 0 v))) ∧ (wt (nw 0 v)).length ≤ 37:=by
 obtain ⟨h1,h2,h3,h4⟩:=exps_sm h hv
 have h5:=wt_len (nw 0 v)
 exact ⟨_,normalWord_impl (by omega) h2,(word_text h3 (by omega)).1,by omega⟩
theorem word_spec2 (h:PresS p) {v:List Int} (hv:Exps p.Orders v):∃ W,f_G v = some W ∧ f_W W = some (ba (wt (nw 0 v))) ∧ (wt (nw 0 v)).length ≤ 37:=by
 obtain ⟨h1,h2,h3,h4⟩:=exps_sm h hv
 have h5:=wt_len (nw 0 v)
 exact ⟨_,word_spec (by omega) h2,(word_text h3 (by omega)).2,by omega⟩
theorem txt_len (h:PresS p):(txt p).length ≤ 5000:=by
 have hn:=h.n6
 have h1:=items_ok h
 have h2:(ordT p.Orders).length ≤ 41:=by
  unfold ordT
  split
  ·simp
  ·cases ho:p.Orders with
   | nil => simp [jn,List.intercalate]
   | cons o os =>
    rw [List.map_cons]
    have:=jn_len [32] (dg o) (os.map dg) 1 5 (fun y hy => by simp at hy;rcases hy with rfl | ⟨a,_,rfl⟩ <;> exact Nat.le_of_eq (dg_len _)) (by simp;rw [ho] at hn;simp at hn;omega)
    simp at this ⊢;omega
 have:=jn_len [59,32] (ordT p.Orders) ((items p).map (itx p)) 41 42 (fun y hy => by
  simp at hy
  rcases hy with rfl | ⟨a,b,hm,rfl⟩
  ·exact h2
  ·exact itx_len h (h1.2 _ hm)) (by simp;exact h1.1)
 unfold txt
 simp at this ⊢;omega
theorem presText_impl (h:PresS p):f_g p = some (ba (txt p)):=by
 have hn:=h.n6
 unfold f_g
 have hord:=app_loop (α:=Bs) (List.map ba) (body:=l1_g p) 0 p.Orders.length 1 (fun i => [dg (at0 p.Orders i)]) [] (fun _ _ => by simp) (fun i acc hi ha => by
  have ho:=or_ok h hi
  unfold l1_g
  simp only [Nat.zero_add]
  rw [lt_t hi,cnd_t,ixO_at hi,bs,dec_impl (by omega) (by omega),bs,appO_of (by simp at ha ⊢;omega),bs,rng_of (by omega) (by omega),bs,cs]
  simp) (fun acc => by
  unfold l1_g
  simp only [Nat.zero_add]
  rw [lt_f,cnd_f])
 have hr:(List.range p.Orders.length).flatMap (fun i => [dg (at0 p.Orders i)]) = p.Orders.map dg:=by
  rw [← List.map_eq_flatMap]
  apply List.ext_getElem
  ·simp
  ·intro i h1 h2
   simp at h1
   simp [at0,List.getD_eq_getElem?_getD,h1]
 rw [List.nil_append,hr] at hord
 replace hord:loopO (l1_g p) ([],0) = some ((p.Orders.map dg).map ba):=hord
 rw [hord,bs,List.length_map,List.length_map]
 have hpl:=h.pl
 have hcl:=h.cl
 by_cases h0:p.Orders.length = 0
 ·have hO:p.Orders = []:=List.length_eq_zero_iff.1 h0
  have e1:f_N [ByteArray.mk #[49]] (ByteArray.mk #[32]) = some (ba [49]):=join_ba (xs:=[[49]]) (sep:=[32]) (by simp) (by simp)
  have e2:f_N [ba [49]] (ByteArray.mk #[59,32]) = some (ba [49]):=join_ba (xs:=[[49]]) (sep:=[59,32]) (by simp) (by simp)
  have e3:loopO (l2_g p) ([ba [49]],0) = some [ba [49]]:=by
   rw [loopO_eq]
   unfold l2_g
   simp [hpl,h0]
  have e4:loopO (l4_g p) ([ba [49]],0) = some [ba [49]]:=by
   rw [loopO_eq]
   unfold l4_g
   simp [h0]
  rw [show ((p.Orders.length:Int) == 0) = true by simp [h0],cnd_t,e1,bs,e3,bs,e4,bs,e2,bs]
  simp [txt,items,ordT,hO,jn,List.intercalate]
 ·have hO:p.Orders ≠ []:=fun e => h0 (by rw [e];rfl)
  have e1:f_N ((p.Orders.map dg).map ba) (ByteArray.mk #[32]) = some (ba (jn [32] (p.Orders.map dg))):=join_ba (by simp;omega) (by
   have:=txt_len h
   unfold txt ordT at this
   rw [if_neg hO,jn_cons] at this
   simp at this ⊢;omega)
  have e2:=app_loop (α:=Bs) (List.map ba) (body:=l5_g p ((p.Orders.map dg).map ba)) 0 p.Orders.length 1 (fun i => (itP p i).map (itx p)) [jn [32] (p.Orders.map dg)] (fun i hi => (itP_ok h hi).1) (fun i acc hi ha => by
   have ho:=or_ok h hi
   have hv:=pw_ok h hi
   unfold l5_g
   simp only [Nat.zero_add,hpl]
   rw [lt_t hi,cnd_t,ixO_d [] (by omega),bs,isZ hv.1.1 (isZero_impl (by have:=hv.1.1;omega)),bs]
   unfold itP
   by_cases hz:p.Powers.getD i [] = List.replicate p.Orders.length 0
   ·rw [decide_eq_true hz,Bool.not_true,cnd_f,rng_of (by omega) (by omega),bs,cs,if_pos hz]
    simp
   ·obtain ⟨W,w1,w2,w3⟩:=word_impl2 h hv.1
    have e5:ixO ((p.Orders.map dg).map ba) (i:Int) = some (ba (dg (at0 p.Orders i))):=by
     rw [ixO_get (by simpa using hi)]
     simp [at0,List.getD_eq_getElem?_getD,hi]
    rw [decide_eq_false hz,Bool.not_false,cnd_t,letter_impl (by omega),bs,scat_l (by simp),bs,e5,bs,scatO_ba (by simp [dg]),bs,scat_l (by simp [dg]),bs,w1,bs,w2,bs,scatO_ba (by simp only [List.length_append,List.length_cons,List.length_nil,dg];omega),bs,
     appO_of (by simp at ha ⊢;omega),bs,rng_of (by omega) (by omega),bs,cs,if_neg hz]
    simp [itx,itk,itv]) (fun acc => by
   unfold l5_g
   simp only [Nat.zero_add,hpl]
   rw [lt_f,cnd_f])
  have e3:=app_loop (α:=Bs) (List.map ba) (body:=l7_g p) 0 p.Orders.length 6 (fun i => (itD p i).map (itx p)) ([jn [32] (p.Orders.map dg)] ++ (List.range p.Orders.length).flatMap fun i => (itP p i).map (itx p)) (fun i hi => (itD_ok h hi).1) (fun i acc hi ha => by
   have hcl':=cj_len h hi
   have hacc:acc.length ≤ 1000:=by
    have h5:((List.range p.Orders.length).flatMap fun i => (itP p i).map (itx p)).length ≤ p.Orders.length * 1:=flm_len fun i hi => (itP_ok h hi).1
    rw [List.length_append] at ha
    simp only [List.length_singleton] at ha
    omega
   have inner:=app_loop (α:=Bs) (List.map ba) (body:=l6_g (acc.map ba,(i:Int)) (p.Conjugates.getD i [])) 0 (p.Orders.length - 1 - i) 1 (fun k => (itC p i k).map (itx p)) acc (fun k hk => (itC_ok h hi hk).1) (fun k acc' hk ha' => by
    have hv:=cj_ok h hi hk
    unfold l6_g
    simp only [Nat.zero_add,hcl']
    rw [lt_t hk,cnd_t,ixO_d [] (by omega),bs,rng_of (by omega) (by omega),bs,cs,rng_of (by omega) (by omega),bs,hv.1.1]
    rw [show ((i + 1:Nat):Int) + (k:Int) = ((i + 1 + k:Nat):Int) by omega,unitVector_impl (by omega) (by omega),bs,equal_impl (by rw [hv.1.1];omega),bs]
    unfold itC
    by_cases hz:(p.Conjugates.getD i []).getD k [] = unitv p.Orders.length (i + 1 + k)
    ·rw [show ((p.Conjugates.getD i []).getD k [] == unitv p.Orders.length (i + 1 + k)) = true from beq_iff_eq.2 hz,Bool.not_true,cnd_f,rng_of (by omega) (by omega),bs,cs,if_pos hz]
     simp
    ·obtain ⟨W,w1,w2,w3⟩:=word_impl2 h hv.1
     rw [show ((p.Conjugates.getD i []).getD k [] == unitv p.Orders.length (i + 1 + k)) = false from beq_eq_false_iff_ne.2 hz,Bool.not_false,cnd_t,letter_impl (by omega),bs,scat_l (by simp),bs,letter_impl (by omega),bs,scatO_ba (by simp),bs,scat_l (by simp),bs,w1,bs,w2,bs,scatO_ba (by simp only [List.length_append,List.length_cons,List.length_nil];omega),bs,
      appO_of (by simp;omega),bs,rng_of (by omega) (by omega),bs,cs,if_neg hz]
     simp [itx,itk,itv]) (fun acc' => by
    unfold l6_g
    simp only [Nat.zero_add,hcl']
    rw [lt_f,cnd_f])
   replace inner:loopO (l6_g (acc.map ba,(i:Int)) (p.Conjugates.getD i [])) (acc.map ba,0) = _:=inner
   unfold l7_g
   simp only [Nat.zero_add]
   rw [lt_t hi,cnd_t,ixO_d [] (by omega),bs,inner,bs,rng_of (by omega) (by omega),bs,cs]
   simp [itD,List.map_flatMap]) (fun acc => by
   unfold l7_g
   simp only [Nat.zero_add]
   rw [lt_f,cnd_f])
  replace e2:loopO (l5_g p ((p.Orders.map dg).map ba)) ([ba (jn [32] (p.Orders.map dg))],0) = _:=e2
  replace e3:loopO (l7_g p) (List.map ba ([jn [32] (p.Orders.map dg)] ++ (List.range p.Orders.length).flatMap fun i => (itP p i).map (itx p)),0) = _:=e3
  have e4:[jn [32] (p.Orders.map dg)] ++ ((List.range p.Orders.length).flatMap fun i => (itP p i).map (itx p)) ++ ((List.range p.Orders.length).flatMap fun i => (itD p i).map (itx p)) = ordT p.Orders :: (items p).map (itx p):=by
   simp [items,ordT,hO,List.map_flatMap]
  have e5:f_N ((ordT p.Orders :: (items p).map (itx p)).map ba) (ByteArray.mk #[59,32]) = some (ba (txt p)):=join_ba (by have:=(items_ok h).1;simp;omega) (by have:=txt_len h;unfold txt at this;omega)
  rw [show ((p.Orders.length:Int) == 0) = false by simp;omega,cnd_f,e1,bs,e2,bs,e3,bs,e4,e5,bs]
end Go.Pl

namespace Go.Pl
open Go Go.Ab Go.Wk Go.Pc
variable {p:SPr}
def sx (p:SPr) (t:It):Bs:=[59,32] ++ itx p t
theorem sx_len (h:PresS p) {l:List It} (hl:l.length ≤ 1) (ht:∀ t ∈ l,Exps p.Orders (itv p t)):(l.flatMap (sx p)).length ≤ 43:=by
 cases l with
 | nil => simp
 | cons t l =>
  have:l = []:=by simp at hl;exact hl
  subst this
  have:=itx_len h (ht t (by simp))
  simp [sx];omega
theorem presText_spec (h:PresS p):f_p p = some (ba (txt p)):=by
 have hn:=h.n6
 have hpl:=h.pl
 have hcl:=h.cl
 unfold f_p
 by_cases h0:p.Orders.length = 0
 ·have hO:p.Orders = []:=List.length_eq_zero_iff.1 h0
  rw [show ((p.Orders.length:Int) == 0) = true by simp [h0],cnd_t]
  simp [txt,items,ordT,hO,jn,List.intercalate,ba]
 ·have hO:p.Orders ≠ []:=fun e => h0 (by rw [e];rfl)
  have e1:=app_loop (α:=UInt8) ba (body:=l1_p p) 0 p.Orders.length 2 (fun i => (if i = 0 then [] else [(32:UInt8)]) ++ dg (at0 p.Orders i)) [] (fun i _ => by simp only [List.length_append,dg_len];split <;> simp) (fun i acc hi ha => by
   have ho:=or_ok h hi
   unfold l1_p
   simp only [Nat.zero_add]
   simp only [List.length_nil] at ha
   rw [lt_t hi,cnd_t]
   by_cases hz:i = 0
   ·subst hz
    rw [show decide (((0:Nat):Int) > 0) = false from rfl,cnd_f,ixO_at hi,bs,dec_spec (by omega) (by omega),bs,scatO_ba (by rw [dg_len];omega),bs,rng_of (by omega) (by omega),bs,cs,if_pos rfl]
    simp
   ·rw [show decide ((i:Int) > 0) = true by simp;omega,cnd_t,scat_l (by simp only [List.length_cons,List.length_nil];omega),bs,ixO_at hi,bs,dec_spec (by omega) (by omega),bs,scatO_ba (by rw [dg_len,List.length_append];simp only [List.length_cons,List.length_nil];omega),bs,
     rng_of (by omega) (by omega),bs,cs,if_neg hz]
    simp) (fun acc => by
   unfold l1_p
   simp only [Nat.zero_add]
   rw [lt_f,cnd_f])
  rw [ord_jn,List.nil_append] at e1
  replace e1:loopO (l1_p p) (ByteArray.mk #[],0) = some (ba (jn [32] (p.Orders.map dg))):=e1
  have hol:(jn [32] (p.Orders.map dg)).length ≤ 5000:=by
   have:=txt_len h
   unfold txt ordT at this
   rw [if_neg hO,jn_cons] at this
   simp at this ⊢;omega
  have e2:=app_loop (α:=UInt8) ba (body:=l2_p p) 0 p.Orders.length 43 (fun i => (itP p i).flatMap (sx p)) (jn [32] (p.Orders.map dg)) (fun i hi => sx_len h (by have:=(itP_ok h hi).1;rwa [List.length_map] at this) (itP_ok h hi).2) (fun i acc hi ha => by
   have ho:=or_ok h hi
   have hv:=pw_ok h hi
   have hacc:acc.length ≤ 6000:=by omega
   unfold l2_p
   simp only [Nat.zero_add]
   rw [lt_t hi,cnd_t,ixO_d [] (by omega),bs,isZ hv.1.1 (zero_spec (by have:=hv.1.1;omega)),bs]
   unfold itP
   by_cases hz:p.Powers.getD i [] = List.replicate p.Orders.length 0
   ·rw [decide_eq_true hz,Bool.not_true,cnd_f,rng_of (by omega) (by omega),bs,cs,if_pos hz]
    simp
   ·obtain ⟨W,w1,w2,w3⟩:=word_spec2 h hv.1
    rw [decide_eq_false hz,Bool.not_false,cnd_t,scat_l (by simp only [List.length_cons,List.length_nil];omega),bs,letter_spec (by omega),bs,scatO_ba (by simp only [List.length_append,List.length_cons,List.length_nil];omega),bs,scat_l (by simp only [List.length_append,List.length_cons,List.length_nil];omega),bs,
     ixO_at hi,bs,dec_spec (by omega) (by omega),bs,scatO_ba (by simp only [List.length_append,List.length_cons,List.length_nil,dg];omega),bs,scat_l (by simp only [List.length_append,List.length_cons,List.length_nil,dg];omega),bs,bs,w1,bs,w2,bs,scatO_ba (by simp only [List.length_append,List.length_cons,List.length_nil,dg];omega),bs,
     rng_of (by omega) (by omega),bs,cs,if_neg hz]
    simp [sx,itx,itk,itv]) (fun acc => by
   unfold l2_p
   simp only [Nat.zero_add]
   rw [lt_f,cnd_f])
  have hfl:∀ (n:Nat),n ≤ 6 → n ≤ p.Orders.length → ((List.range n).flatMap fun i => (itP p i).flatMap (sx p)).length ≤ 300:=fun n hn' hn2 => by
   have:((List.range n).flatMap fun i => (itP p i).flatMap (sx p)).length ≤ n * 43:=flm_len fun i hi => sx_len h (by have:=(itP_ok h (by omega:i < p.Orders.length)).1;rwa [List.length_map] at this) (itP_ok h (by omega)).2
   omega
  have hD:∀ i,i < p.Orders.length → ((itD p i).flatMap (sx p)).length ≤ 300:=fun i hi => by
   have:((itD p i).flatMap (sx p)).length ≤ (p.Orders.length - 1 - i) * 43:=by
    unfold itD
    rw [List.flatMap_assoc]
    exact flm_len fun k hk => sx_len h (by have:=(itC_ok h hi hk).1;rwa [List.length_map] at this) (itC_ok h hi hk).2
   omega
  have e3:=app_loop (α:=UInt8) ba (body:=l4_p p) 0 p.Orders.length 300 (fun i => (itD p i).flatMap (sx p)) (jn [32] (p.Orders.map dg) ++ (List.range p.Orders.length).flatMap fun i => (itP p i).flatMap (sx p)) (fun i hi => hD i hi) (fun i acc hi ha => by
   have hcl':=cj_len h hi
   have hacc:acc.length ≤ 10000:=by
    have:=hfl p.Orders.length (by omega) (Nat.le_refl _)
    rw [List.length_append] at ha
    omega
   have inner:=app_loop (α:=UInt8) ba (body:=l3_p p (ba acc,(i:Int))) (i + 1) (p.Orders.length - 1 - i) 43 (fun k => (itC p i k).flatMap (sx p)) acc (fun k hk => sx_len h (by have:=(itC_ok h hi hk).1;rwa [List.length_map] at this) (itC_ok h hi hk).2) (fun k acc' hk ha' => by
    have hv:=cj_ok h hi hk
    have hacc':acc'.length ≤ 20000:=by omega
    unfold l3_p
    simp only
    have ei:((i + 1 + k:Nat):Int) - (i:Int) - 1 = (k:Int):=by omega
    rw [lt_t (by omega),cnd_t,ixO_d [] (by omega),bs,rng_of (by omega) (by omega),bs,rng_of (by omega) (by omega),bs,ei,ixO_d [] (by omega),bs,unitT (by omega) (by omega),bs,same_spec (by rw [hv.1.1];omega),bs]
    unfold itC
    by_cases hz:(p.Conjugates.getD i []).getD k [] = unitv p.Orders.length (i + 1 + k)
    ·rw [show ((p.Conjugates.getD i []).getD k [] == unitv p.Orders.length (i + 1 + k)) = true from beq_iff_eq.2 hz,Bool.not_true,cnd_f,rng_of (by omega) (by omega),bs,if_pos hz]
     simp;omega
    ·obtain ⟨W,w1,w2,w3⟩:=word_spec2 h hv.1
     rw [show ((p.Conjugates.getD i []).getD k [] == unitv p.Orders.length (i + 1 + k)) = false from beq_eq_false_iff_ne.2 hz,Bool.not_false,cnd_t,scat_l (by simp only [List.length_cons,List.length_nil];omega),bs,letter_spec (by omega),bs,scatO_ba (by simp only [List.length_append,List.length_cons,List.length_nil];omega),bs,scat_l (by simp only [List.length_append,List.length_cons,List.length_nil];omega),bs,
      letter_spec (by omega),bs,scatO_ba (by simp only [List.length_append,List.length_cons,List.length_nil];omega),bs,scat_l (by simp only [List.length_append,List.length_cons,List.length_nil];omega),bs,bs,bs,rng_of (by omega) (by omega),bs,ei,ixO_d [] (by omega),bs,w1,bs,w2,bs,
      scatO_ba (by simp only [List.length_append,List.length_cons,List.length_nil];omega),bs,rng_of (by omega) (by omega),bs,if_neg hz]
     simp [sx,itx,itk,itv];omega) (fun acc' => by
    unfold l3_p
    simp only
    rw [show i + 1 + (p.Orders.length - 1 - i) = p.Orders.length by omega,lt_f,cnd_f])
   unfold l4_p
   simp only [Nat.zero_add]
   rw [lt_t hi,cnd_t,rng_of (by omega) (by omega),bs,cs,inner,bs,bs]
   simp [itD,List.flatMap_assoc]) (fun acc => by
   unfold l4_p
   simp only [Nat.zero_add]
   rw [lt_f,cnd_f])
  replace e2:loopO (l2_p p) (ba (jn [32] (p.Orders.map dg)),0) = _:=e2
  replace e3:loopO (l4_p p) (ba (jn [32] (p.Orders.map dg) ++ (List.range p.Orders.length).flatMap fun i => (itP p i).flatMap (sx p)),0) = _:=e3
  have e4:jn [32] (p.Orders.map dg) ++ ((List.range p.Orders.length).flatMap fun i => (itP p i).flatMap (sx p)) ++ ((List.range p.Orders.length).flatMap fun i => (itD p i).flatMap (sx p)) = txt p:=by
   unfold txt ordT items
   rw [if_neg hO,jn_cons,List.map_append,Lib.joinTail,List.map_append,List.flatten_append,List.append_assoc]
   congr 1
   simp only [← List.flatMap_assoc]
   congr 1 <;> simp only [List.flatMap_def,List.map_map] <;> rfl
  rw [show ((p.Orders.length:Int) == 0) = false by simp;omega,cnd_f,e1,bs,e2,bs,e3,bs,e4]
end Go.Pl

namespace Go.Pl
open Go Go.Ab Go.Wk Go.Pc
def Lts (n:Nat) (w:List Int):Prop:=∀ a ∈ w,a ≠ 0 ∧ -(n:Int) ≤ a ∧ a ≤ n
theorem ixO_i {xs:List Int} {i:Nat} (h:i < xs.length):ixO xs (i:Int) = some xs[i]:=ixO_get h
theorem u8_lt (b:UInt8):b.toNat < 256:=b.toNat_lt
theorem s2b_ba {t:Bs} (ht:t.length ≤ 2000000):s2bO (ba t) = some (t.map fun b => ((b.toNat:Nat):Int)):=by
 unfold s2bO
 rw [ba_size,ba_l,if_pos (by unfold maxLen;omega)]
theorem seq_one (t:Bs):seqB (ba t) (ByteArray.mk #[49]) = (t == [49]):=seqB_ba t [49]
theorem seq_nil (t:Bs):seqB (ba t) (ByteArray.mk #[]) = (t == []):=seqB_ba t []
theorem readWord_tot {n:Nat} (hn:n ≤ 6) {t:Bs} (ht:t.length ≤ 2000000):∃ r,f_H (n:Int) (ba t) = some r ∧ Lts n r.1 ∧ r.1.length ≤ t.length:=by
 unfold f_H
 rw [seq_one]
 cases h1:(t == [49]) with
 | true => rw [cnd_t];exact ⟨_,rfl,by simp [Lts],by simp⟩
 | false =>
  rw [cnd_f,s2b_ba ht,bs]
  obtain ⟨r,h2,h3⟩:=loopO_tot (body:=l1_H (n:Int) (t.map fun b => ((b.toNat:Nat):Int))) (Q:=fun r => match r with | .inl w => Lts n w ∧ w.length ≤ t.length | .inr x => x = (([]:List Int),false))
   (fun i s => s.2 = (i:Int) ∧ Lts n s.1 ∧ s.1.length ≤ i) t.length (fun i s hi ⟨e1,e2,e3⟩ => by
    obtain ⟨acc,j⟩:=s
    simp only at e1 e2 e3
    subst e1
    have hb:=u8_lt t[i]
    unfold l1_H
    simp only [List.length_map]
    rw [lt_t hi,cnd_t,ixO_i (by simpa using hi),bs,List.getElem_map]
    generalize hv:((t[i].toNat:Nat):Int) = v
    have hv1:0 ≤ v ∧ v < 256:=by omega
    rw [wrap64i (by omega) (by omega),rng_of (by omega) (by omega),bs,rng_of (by omega) (by omega),bs]
    have step:∀ a:Int,-1000 ≤ a → a ≤ 1000 → (∃ s',(cond (decide (v < 65)) (some (.inr (.inr (([]:List Int),false)))) (cond (a == 0) (some (.inr (.inr ([],false)))) ((rng (0 - (n:Int))).bind fun v7 => (f_ar a v7 n).bind fun r8 => cond (!r8) (some (.inr (.inr ([],false)))) ((appO acc [a]).bind fun v9 => (rng ((i:Int) + 1)).bind fun v10 => some (.inl (v9,v10))))):Option ((List Int × Int) ⊕ (List Int ⊕ (List Int × Bool)))) = some (.inl s') ∧ s'.2 = ((i + 1:Nat):Int) ∧ Lts n s'.1 ∧ s'.1.length ≤ i + 1) ∨
      ∃ r,(cond (decide (v < 65)) (some (.inr (.inr (([]:List Int),false)))) (cond (a == 0) (some (.inr (.inr ([],false)))) ((rng (0 - (n:Int))).bind fun v7 => (f_ar a v7 n).bind fun r8 => cond (!r8) (some (.inr (.inr ([],false)))) ((appO acc [a]).bind fun v9 => (rng ((i:Int) + 1)).bind fun v10 => some (.inl (v9,v10))))):Option ((List Int × Int) ⊕ (List Int ⊕ (List Int × Bool)))) = some (.inr r) ∧ (match r with | .inl w => Lts n w ∧ w.length ≤ t.length | .inr x => x = (([]:List Int),false)):=by
     intro a ha1 ha2
     by_cases c1:v < 65
     ·rw [decide_eq_true c1,cnd_t];exact .inr ⟨_,rfl,rfl⟩
     ·rw [decide_eq_false c1,cnd_f]
      by_cases c2:a = 0
      ·subst c2;exact .inr ⟨_,rfl,rfl⟩
      ·rw [show (a == 0) = false from beq_eq_false_iff_ne.2 c2,cnd_f,rng_of (by omega) (by omega),bs]
       rcases inside_impl a (0 - n) n with ⟨k1,k2⟩ | ⟨k1,k2⟩
       ·rw [k1,bs,Bool.not_true,cnd_f,appO_of (by simp;omega),bs,rng_of (by omega) (by omega),bs,cs]
        refine .inl ⟨_,rfl,rfl,fun x hx => ?_,by simp;omega⟩
        simp only [List.mem_append,List.mem_singleton] at hx
        rcases hx with hx | rfl
        ·exact e2 x hx
        ·exact ⟨c2,by omega,by omega⟩
       ·rw [k1,bs,Bool.not_false,cnd_t];exact .inr ⟨_,rfl,rfl⟩
    by_cases c:v < 97
    ·rw [decide_eq_true c,cnd_t,rng_of (by omega) (by omega),bs,rng_of (by omega) (by omega),bs]
     exact step _ (by omega) (by omega)
    ·rw [decide_eq_false c,cnd_f]
     exact step _ (by omega) (by omega)) (fun s ⟨e1,e2,e3⟩ => by
    obtain ⟨acc,j⟩:=s
    simp only at e1 e2 e3
    subst e1
    unfold l1_H
    simp only [List.length_map]
    rw [lt_f,cnd_f]
    exact ⟨_,rfl,e2,e3⟩) (s:=([],0)) ⟨rfl,by simp [Lts],by simp⟩
  rw [h2,bs]
  cases r with
  | inl w => exact ⟨_,rfl,h3.1,h3.2⟩
  | inr x =>
   simp only at h3
   subst h3
   exact ⟨_,rfl,by simp [Lts],by simp⟩
theorem readWord_ok {n:Nat} (hn:n ≤ 6) {w:List Nat} (hw:∀ a ∈ w,a < n) (hl:w.length ≤ 100):f_H (n:Int) (ba (wt w)) = some (enW w,true):=by
 unfold f_H
 rw [seq_one]
 by_cases h0:w = []
 ·subst h0;rfl
 ·have hwt:wt w = w.map lt:=if_neg h0
  have hx:∀ i (h:i < w.length),w[i] < n:=fun i h => hw _ (List.getElem_mem h)
  have hne:(w.map lt == [49]) = false:=by
   rw [beq_eq_false_iff_ne]
   cases w with
   | nil => exact absurd rfl h0
   | cons a w =>
    intro e
    have h1:=hw a (by simp)
    have h2:=lt_nat (x:=a) (by omega)
    simp only [List.map_cons,List.cons.injEq] at e
    rw [e.1] at h2
    have:(49:UInt8).toNat = 49:=rfl
    omega
  rw [hwt,hne,cnd_f,s2b_ba (by simp;omega),bs]
  have:=loopO_seq (body:=l1_H (n:Int) ((w.map lt).map fun b => ((b.toNat:Nat):Int))) (r:=Sum.inl (enW w)) (fun i => (enW (w.take i),(i:Int))) w.length (fun i hi => by
   have h1:=hx i hi
   have h2:=lt_nat (x:=w[i]) (by omega)
   unfold l1_H
   simp only [List.length_map]
   rw [lt_t hi,cnd_t,ixO_i (by simpa using hi),bs,List.getElem_map,List.getElem_map,h2,wrap64i (by omega) (by omega),rng_of (by omega) (by omega),bs,rng_of (by omega) (by omega),bs,decide_eq_false (by omega),cnd_f,decide_eq_false (by omega),cnd_f]
   rw [show (((97 + w[i]:Nat):Int) - 97 + 1) = ((w[i]:Int) + 1) by omega]
   rw [show ((w[i]:Int) + 1 == 0) = false from beq_eq_false_iff_ne.2 (by omega),cnd_f,rng_of (by omega) (by omega),bs]
   rcases inside_impl ((w[i]:Int) + 1) (0 - n) n with ⟨k1,k2⟩ | ⟨k1,k2⟩
   ·rw [k1,bs,Bool.not_true,cnd_f,appO_of (by simp;omega),bs,rng_of (by omega) (by omega),bs,cs]
    rw [List.take_succ_eq_append_getElem hi]
    simp only [enW,List.map_append,List.map_cons,List.map_nil]
    rfl
   ·exact absurd ⟨by omega,by omega⟩ k2) (by
   unfold l1_H
   simp only [List.length_map]
   rw [lt_f,cnd_f,List.take_length])
  rw [show loopO (l1_H (n:Int) ((w.map lt).map fun b => ((b.toNat:Nat):Int))) ([],0) = some (Sum.inl (enW w)) from this,bs,seq_nil]
  simp [h0]
end Go.Pl

namespace Go.Pl
open Go Go.Ab Go.Wk Go.Pc
def cnt (n:Nat) (w:List Nat):List Int:=mkv n fun j => ((w.count j:Nat):Int)
theorem cnt_len (n:Nat) (w:List Nat):(cnt n w).length = n:=mkv_length _ _
theorem cnt_nil (n:Nat):cnt n [] = List.replicate n 0:=by
 apply List.ext_getElem
 ·simp [cnt_len]
 ·intro i h1 h2
  simp [cnt,mkv]
theorem cnt_snoc {n a:Nat} {w:List Nat} (ha:a < n):(cnt n w).set a (at0 (cnt n w) a + 1) = cnt n (w ++ [a]):=by
 apply List.ext_getElem
 ·simp [cnt_len]
 ·intro i h1 h2
  simp [cnt_len] at h1 h2
  rw [List.getElem_set]
  by_cases e:a = i
  ·subst e
   rw [if_pos rfl]
   simp [cnt,mkv,at0,List.getD_eq_getElem?_getD,ha,List.count_append]
  ·rw [if_neg e]
   simp [cnt,mkv,List.count_append,List.count_cons,e]
theorem count_nw:∀ (v:List Int) (o j:Nat),(nw o v).count j = if o ≤ j then (at0 v (j - o)).toNat else 0
 | [],o,j => by simp [nw]
 | a :: v,o,j => by
  rw [nw,List.count_append,count_nw v (o + 1) j,List.count_replicate]
  by_cases h1:o = j
  ·subst h1
   rw [if_pos (by simp),if_neg (by omega),if_pos (Nat.le_refl _),Nat.sub_self]
   simp [at0]
  ·rw [if_neg (by simpa using h1)]
   by_cases h2:o ≤ j
   ·rw [if_pos (by omega),if_pos h2,show j - o = (j - (o + 1)) + 1 by omega]
    simp [at0]
   ·rw [if_neg (by omega),if_neg h2]
theorem cnt_nw {v:List Int} (hv:∀ i,i < v.length → 0 ≤ at0 v i):cnt v.length (nw 0 v) = v:=by
 apply List.ext_getElem
 ·simp [cnt_len]
 ·intro i h1 h2
  have h3:=hv i h2
  have h4:at0 v i = v[i]:=by rw [at0,List.getD_eq_getElem?_getD,List.getElem?_eq_getElem h2];rfl
  simp only [cnt,mkv,List.getElem_map,List.getElem_range,count_nw,Nat.zero_le,if_true,Nat.sub_zero]
  omega
theorem expOf_tot {n:Nat} (hn:n ≤ 6) {t:Bs} (ht:t.length ≤ 2000000):∃ r,f_J (n:Int) (ba t) = some r ∧ (r.2 = true → r.1.length = n):=by
 obtain ⟨r,h1,h2,h3⟩:=readWord_tot hn ht
 unfold f_J
 rw [h1,bs,lenOk_nat (by omega),bs]
 obtain ⟨q,h4,h5⟩:=loopO_tot (body:=l1_J r) (Q:=fun q => match q with | .inl v => v.length = n | .inr x => x = (([]:List Int),false))
  (fun i s => s.2 = (i:Int) ∧ s.1.length = n ∧ ∀ x ∈ s.1,0 ≤ x ∧ x ≤ i) r.1.length (fun i s hi ⟨e1,e2,e3⟩ => by
   obtain ⟨acc,j⟩:=s
   simp only at e1 e2 e3
   subst e1
   have ha:=h2 _ (List.getElem_mem hi)
   unfold l1_J
   simp only
   rw [lt_t hi,cnd_t,ixO_i hi,bs]
   by_cases c:r.1[i] < 0
   ·rw [decide_eq_true c,cnd_t];exact .inr ⟨_,rfl,rfl⟩
   ·rw [decide_eq_false c,cnd_f,rng_of (by omega) (by omega),bs]
    obtain ⟨k,hk⟩:∃ k:Nat,r.1[i] - 1 = (k:Int):=⟨(r.1[i] - 1).toNat,by omega⟩
    have hkn:k < acc.length:=by omega
    have hb:=e3 acc[k] (List.getElem_mem hkn)
    rw [hk,ixO_i hkn,bs,rng_of (by omega) (by omega),bs,bs,rng_of (by omega) (by omega),bs,cs]
    refine .inl ⟨_,rfl,rfl,by simp [e2],fun x hx => ?_⟩
    rcases List.mem_or_eq_of_mem_set hx with hx | rfl
    ·have:=e3 x hx;omega
    ·omega) (fun s ⟨e1,e2,e3⟩ => by
   obtain ⟨acc,j⟩:=s
   simp only at e1 e2 e3
   subst e1
   unfold l1_J
   simp only
   rw [lt_f,cnd_f]
   exact ⟨_,rfl,e2⟩) (s:=(List.replicate n (0:Int),0)) ⟨rfl,by simp,fun x hx => by simp at hx;omega⟩
 rw [h4,bs]
 cases q with
 | inl v => exact ⟨_,rfl,fun _ => h5⟩
 | inr x =>
  simp only at h5
  subst h5
  exact ⟨_,rfl,fun e => by cases e⟩
theorem expOf_ok {v:List Int} (hv:∀ i,i < v.length → 0 ≤ at0 v i ∧ at0 v i ≤ 6) (hn:v.length ≤ 6):f_J (v.length:Int) (ba (wt (nw 0 v))) = some (v,true):=by
 have hw:∀ a ∈ nw 0 v,a < v.length:=fun a ha => nw_lt (n:=v.length) 0 v (by omega) a ha
 have hl:(nw 0 v).length ≤ 36:=by have:=nw_len 0 v fun i hi => (hv i hi).2;omega
 unfold f_J
 rw [readWord_ok hn hw (by omega),bs,lenOk_nat (by omega),bs]
 have:=loopO_seq (body:=l1_J (enW (nw 0 v),true)) (r:=Sum.inl v) (fun i => (cnt v.length ((nw 0 v).take i),(i:Int))) (nw 0 v).length (fun i hi => by
  have ha:=hw _ (List.getElem_mem hi)
  have hle:(enW (nw 0 v)).length = (nw 0 v).length:=by simp
  have hc:at0 (cnt v.length ((nw 0 v).take i)) (nw 0 v)[i] ≤ 36 ∧ 0 ≤ at0 (cnt v.length ((nw 0 v).take i)) (nw 0 v)[i]:=by
   rw [cnt,mkv_at ha]
   have:=List.count_le_length (a:=(nw 0 v)[i]) (l:=(nw 0 v).take i)
   simp only [List.length_take] at this
   omega
  unfold l1_J
  simp only [hle]
  rw [lt_t hi,cnd_t,ixO_i (by simpa using hi),bs,List.getElem_map,decide_eq_false (by omega),cnd_f,rng_of (by omega) (by omega),bs]
  rw [show ((nw 0 v)[i]:Int) + 1 - 1 = ((nw 0 v)[i]:Int) by omega,ixO_at (by rw [cnt_len];exact ha),bs,rng_of (by omega) (by omega),bs,bs,rng_of (by omega) (by omega),bs,cs,Int.toNat_natCast,cnt_snoc ha,List.take_succ_eq_append_getElem hi]) (by
  unfold l1_J
  simp only [List.length_map]
  rw [lt_f,cnd_f,List.take_length,cnt_nw fun i hi => (hv i hi).1])
 rw [show ((0:Nat):Int) = 0 from rfl,List.take_zero,cnt_nil] at this
 rw [this,bs]
theorem genOf_tot {n:Nat} (t:Bs):∃ r,f_X (n:Int) (ba t) = some r ∧ (r.2 = true → ∃ j:Nat,r.1 = j ∧ j < n):=by
 unfold f_X
 rw [ba_size]
 by_cases h1:t.length = 1
 ·rw [bne_f (by omega),cnd_f]
  obtain ⟨b,rfl⟩:∃ b,t = [b]:=List.length_eq_one_iff.1 h1
  have hb:=u8_lt b
  have e:sixO (ba [b]) 0 = some ((b.toNat:Nat):Int):=sixO_get (i:=0) (by simp)
  rw [e,bs]
  by_cases c:((b.toNat:Nat):Int) < 97
  ·rw [decide_eq_true c,cnd_t];exact ⟨_,rfl,fun e => by cases e⟩
  ·rw [decide_eq_false c,cnd_f,bs]
   rw [wrap8 (by omega) (by omega),wrap64i (by omega) (by omega)]
   by_cases c2:((b.toNat:Nat):Int) - 97 ≥ n
   ·rw [decide_eq_true c2,cnd_t];exact ⟨_,rfl,fun e => by cases e⟩
   ·rw [decide_eq_false c2,cnd_f,bs,wrap8 (by omega) (by omega),wrap64i (by omega) (by omega)]
    exact ⟨_,rfl,fun _ => ⟨b.toNat - 97,by omega,by omega⟩⟩
 ·rw [bne_t (by omega),cnd_t];exact ⟨_,rfl,fun e => by cases e⟩
theorem genOf_lt {n x:Nat} (hn:n ≤ 6) (hx:x < n):f_X (n:Int) (ba [lt x]) = some ((x:Int),true):=by
 have h2:=lt_nat (x:=x) (by omega)
 have e:sixO (ba [lt x]) 0 = some (((lt x).toNat:Nat):Int):=sixO_get (i:=0) (by simp)
 unfold f_X
 rw [ba_size,bne_f (by simp),cnd_f,e,bs,h2,decide_eq_false (by omega),cnd_f,bs,wrap8 (by omega) (by omega),wrap64i (by omega) (by omega),decide_eq_false (by omega),cnd_f,bs,wrap8 (by omega) (by omega),wrap64i (by omega) (by omega)]
 congr 2
 omega
theorem genOf_dg {n:Nat} {o:Int} (h:2 ≤ o ∧ o ≤ 7):f_X (n:Int) (ba (dg o)) = some (0,false):=by
 have e:sixO (ba (dg o)) 0 = some (((UInt8.ofNat (48 + o.toNat)).toNat:Nat):Int):=sixO_get (i:=0) (by simp [dg])
 have e2:(UInt8.ofNat (48 + o.toNat)).toNat = 48 + o.toNat:=by rw [UInt8.toNat_ofNat'];omega
 unfold f_X
 rw [ba_size,bne_f (by simp [dg]),cnd_f,e,bs,e2,decide_eq_true (by omega),cnd_t]
def Shp (n:Nat) (s:List (List Int) × List (List (List Int))):Prop:=s.1.length = n ∧ s.2.length = n ∧ ∀ i,i < n → (s.2.getD i []).length = n - 1 - i
def upd (t:It) (v:List Int) (s:List (List Int) × List (List (List Int))):List (List Int) × List (List (List Int)):=match t with
 | (x,none) => (s.1.set x v,s.2)
 | (j,some i) => (s.1,s.2.set i ((s.2.getD i []).set (j - i - 1) v))
def OkT (n:Nat):It → Prop
 | (x,none) => x < n
 | (j,some i) => i < j ∧ j < n
theorem Shp.upd {n:Nat} {s:List (List Int) × List (List (List Int))} (h:Shp n s) (t:It) (v:List Int):Shp n (upd t v s):=by
 obtain ⟨h1,h2,h3⟩:=h
 obtain ⟨x,i⟩:=t
 cases i with
 | none => exact ⟨by simp [Pl.upd,h1],h2,h3⟩
 | some i =>
  refine ⟨h1,by simp [Pl.upd,h2],fun k hk => ?_⟩
  have:=h3 k hk
  simp only [Pl.upd]
  rw [List.getD_eq_getElem?_getD,List.getElem?_set]
  by_cases e:i = k
  ·subst e
   rw [if_pos rfl,if_pos (by omega)]
   simpa using this
  ·rw [if_neg e,← List.getD_eq_getElem?_getD];exact this
variable {p:SPr}
def mxd (p:SPr) (S:List It):List (List Int) × List (List (List Int)) :=
 (gl p.Orders.length fun i => if (i,none) ∈ S then p.Powers.getD i [] else List.replicate p.Orders.length 0,
  gl p.Orders.length fun i => gl (p.Orders.length - 1 - i) fun k => if (i + 1 + k,some i) ∈ S then (p.Conjugates.getD i []).getD k [] else unitv p.Orders.length (i + 1 + k))
theorem gl_gD {β:Type} {m:Nat} {F:Nat → β} {i:Nat} {d:β} (h:i < m):(gl m F).getD i d = F i:=by simp [gl,h]
theorem mxd_shp (S:List It):Shp p.Orders.length (mxd p S):=⟨gl_len,gl_len,fun i hi => by simp only [mxd];rw [gl_gD hi,gl_len]⟩
theorem mxd_step {S:List It} {t:It} (ht:OkT p.Orders.length t):upd t (itv p t) (mxd p S) = mxd p (S ++ [t]):=by
 obtain ⟨x,i⟩:=t
 cases i with
 | none =>
  simp only [upd,mxd,itv,gl_set,List.mem_append,List.mem_singleton]
  congr 1
  ·refine gl_congr fun k hk => ?_
   by_cases e:k = x
   ·subst e;simp
   ·simp [e]
  ·refine gl_congr fun k hk => gl_congr fun l hl => ?_
   simp
 | some i =>
  obtain ⟨h1,h2⟩:=ht
  simp only [upd,mxd,itv,List.mem_append,List.mem_singleton]
  congr 1
  ·refine gl_congr fun k hk => ?_
   simp
  ·rw [gl_gD (by omega),gl_set,gl_set]
   refine gl_congr fun k hk => ?_
   by_cases e:k = i
   ·subst e
    rw [if_pos rfl]
    refine gl_congr fun l hl => ?_
    by_cases e2:l = x - k - 1
    ·subst e2
     rw [if_pos rfl,if_pos (.inr (by rw [show k + 1 + (x - k - 1) = x by omega])),show x - 1 - k = x - k - 1 by omega]
    ·rw [if_neg e2]
     have:¬ ((k + 1 + l,some k) = (x,some k)):=fun e3 => by simp at e3;omega
     simp [this]
   ·rw [if_neg e]
    refine gl_congr fun l hl => ?_
    simp [e]
theorem okT_items:∀ t ∈ items p,OkT p.Orders.length t:=by
 intro t ht
 simp only [items,List.mem_append,List.mem_flatMap,List.mem_range,itD] at ht
 rcases ht with ⟨i,hi,ht⟩ | ⟨i,hi,k,hk,ht⟩
 ·unfold itP at ht
  split at ht
  ·simp at ht
  ·simp only [List.mem_singleton] at ht
   subst ht;exact hi
 ·unfold itC at ht
  split at ht
  ·simp at ht
  ·simp only [List.mem_singleton] at ht
   subst ht
   exact ⟨by omega,by omega⟩
theorem mxd_all (h:PresS p):mxd p (items p) = (p.Powers,p.Conjugates):=by
 have hpl:=h.pl
 have hcl:=h.cl
 have h1:∀ i,i < p.Orders.length → (i,none) ∉ items p → p.Powers.getD i [] = List.replicate p.Orders.length 0:=fun i hi hn => by
  refine Classical.byContradiction fun e => hn ?_
  simp only [items,List.mem_append,List.mem_flatMap,List.mem_range]
  exact .inl ⟨i,hi,by unfold itP;rw [if_neg e];simp⟩
 have h2:∀ i k,i < p.Orders.length → k < p.Orders.length - 1 - i → (i + 1 + k,some i) ∉ items p → (p.Conjugates.getD i []).getD k [] = unitv p.Orders.length (i + 1 + k):=fun i k hi hk hn => by
  refine Classical.byContradiction fun e => hn ?_
  simp only [items,List.mem_append,List.mem_flatMap,List.mem_range,itD]
  exact .inr ⟨i,hi,k,hk,by unfold itC;rw [if_neg e];simp⟩
 unfold mxd
 congr 1
 ·apply List.ext_getElem
  ·rw [gl_len,hpl]
  ·intro i g1 g2
   have hi:i < p.Orders.length:=by rw [gl_len] at g1;exact g1
   have e:p.Powers.getD i [] = p.Powers[i]:=by rw [List.getD_eq_getElem?_getD,List.getElem?_eq_getElem g2];rfl
   simp only [gl,List.getElem_map,List.getElem_range]
   split
   ·exact e
   ·rename_i hn;rw [← h1 i hi hn];exact e
 ·apply List.ext_getElem
  ·rw [gl_len,hcl]
  ·intro i g1 g2
   have hi:i < p.Orders.length:=by rw [gl_len] at g1;exact g1
   have e:p.Conjugates.getD i [] = p.Conjugates[i]:=by rw [List.getD_eq_getElem?_getD,List.getElem?_eq_getElem g2];rfl
   have hcl2:=cj_len h hi
   rw [← e]
   simp only [gl,List.getElem_map,List.getElem_range]
   apply List.ext_getElem
   ·simp only [List.length_map,List.length_range];exact hcl2.symm
   ·intro k g3 g4
    have hk:k < p.Orders.length - 1 - i:=by simpa using g3
    have e2:(p.Conjugates.getD i []).getD k [] = (p.Conjugates.getD i [])[k]:=by rw [List.getD_eq_getElem?_getD (l:=p.Conjugates.getD i []),List.getElem?_eq_getElem g4];rfl
    simp only [List.getElem_map,List.getElem_range]
    split
    ·exact e2
    ·rename_i hn;rw [← h2 i k hi hk hn];exact e2
end Go.Pl

namespace Go.Pl
open Go Go.Ab Go.Wk Go.Pc
variable {p:SPr}
theorem lt_ne {x:Nat} (h:x < 26) {c:UInt8} (hc:c.toNat < 97):c ≠ lt x:=fun e => by
 have:=lt_nat h
 rw [← e] at this;omega
theorem dg_ne {o:Int} (h:2 ≤ o ∧ o ≤ 7) {c:UInt8} (hc:c.toNat < 50 ∨ 55 < c.toNat):c ∉ dg o:=by
 have e2:(UInt8.ofNat (48 + o.toNat)).toNat = 48 + o.toNat:=by rw [UInt8.toNat_ofNat'];omega
 simp only [dg,List.mem_singleton]
 intro e
 rw [e] at hc
 omega
theorem itk_no (h:PresS p) {t:It} (ht:OkT p.Orders.length t) {c:UInt8} (hc:c.toNat < 97) (h1:c.toNat < 50 ∨ 55 < c.toNat) (h2:c ≠ 94):c ∉ itk p t:=by
 have hn:=h.n6
 obtain ⟨x,i⟩:=t
 cases i with
 | none =>
  have:=lt_ne (x:=x) (by have:x < p.Orders.length:=ht;omega) hc
  have h3:=dg_ne (or_ok h (show x < p.Orders.length from ht)) h1
  simp only [itk,List.mem_append,List.mem_cons,List.not_mem_nil,or_false,not_or]
  exact ⟨⟨this,h2⟩,h3⟩
 | some i =>
  obtain ⟨k1,k2⟩:=ht
  simp only [itk,List.mem_cons,List.not_mem_nil,or_false,not_or]
  exact ⟨lt_ne (by omega) hc,h2,lt_ne (by omega) hc⟩
theorem wt_no {w:List Nat} (hw:∀ a ∈ w,a < 26) {c:UInt8} (hc:c.toNat < 97) (h2:c ≠ 49):c ∉ wt w:=by
 unfold wt
 split
 ·simpa using h2
 ·intro hm
  obtain ⟨a,ha,e⟩:=List.mem_map.1 hm
  exact lt_ne (hw a ha) hc e.symm
theorem itx_no (h:PresS p) {t:It} (ht:OkT p.Orders.length t) (hv:Exps p.Orders (itv p t)) {c:UInt8} (hc:c.toNat < 49 ∨ 55 < c.toNat ∧ c.toNat < 97) (h2:c ≠ 94) (h3:c ≠ 61):c ∉ itx p t:=by
 unfold itx
 simp only [List.mem_append,List.mem_cons,not_or]
 refine ⟨itk_no h ht (by omega) (by omega) h2,h3,wt_no (exps_sm h hv).2.2.1 (by omega) fun e => ?_⟩
 rw [e] at hc
 have:(49:UInt8).toNat = 49:=rfl
 omega
theorem rel_tot {n:Nat} (hn:n ≤ 6) {O:List Int} (hO:O.length = n) {v:List ByteArray} {i:Nat} (hi:i < v.length) (hv:∀ x ∈ v,x.size ≤ 2000000) (hl:v.length ≤ 3000000) {s:List (List Int) × List (List (List Int))} (hs:Shp n s) :
  (∃ s',l2_m O v (s.1,s.2,(i:Int)) = some (.inl (s'.1,s'.2,((i + 1:Nat):Int))) ∧ Shp n s') ∨ l2_m O v (s.1,s.2,(i:Int)) = some (.inr (.inr (⟨[],[],[]⟩,false))):=by
 obtain ⟨q,hq,hql⟩:=ba_ex v[i]
 have hqs:=hv _ (List.getElem_mem hi)
 obtain ⟨c1,c2⟩:=cut_len q [61]
 obtain ⟨c3,c4⟩:=cut_len (Lib.cut q [61]).1 [94]
 obtain ⟨r15,e1,e2⟩:=expOf_tot hn (t:=(Lib.cut q [61]).2.1) (by omega)
 obtain ⟨r16,e3,e4⟩:=genOf_tot (n:=n) (Lib.cut (Lib.cut q [61]).1 [94]).1
 obtain ⟨r17,e5,e6⟩:=genOf_tot (n:=n) (Lib.cut (Lib.cut q [61]).1 [94]).2.1
 have k1:f_E (ba q) (ByteArray.mk #[61]) = _:=cut_ba (s:=q) (sep:=[61]) (by omega)
 have k2:f_E (ba (Lib.cut q [61]).1) (ByteArray.mk #[94]) = _:=cut_ba (s:=(Lib.cut q [61]).1) (sep:=[94]) (by omega)
 unfold l2_m
 simp only [hO]
 rw [lt_t hi,cnd_t,ixO_get hi,bs,hq,k1,bs]
 simp only
 rw [k2,bs,e1,bs]
 simp only
 rw [e3,bs]
 cases b1:r15.2 with
 | false => rw [Bool.not_false,cnd_t];exact .inr rfl
 | true =>
  rw [Bool.not_true,cnd_f]
  cases b2:r16.2 with
  | false => rw [Bool.not_false,cnd_t];exact .inr rfl
  | true =>
   obtain ⟨j,hj,hjn⟩:=e4 b2
   rw [Bool.not_true,cnd_f,e5,bs,hj]
   cases b3:r17.2 with
   | false =>
    rw [Bool.not_false,cnd_t,ixO_get (by have:=hs.1;omega),bs,rng_of (by omega) (by omega),bs,cs,Int.toNat_natCast]
    exact .inl ⟨upd (j,none) r15.1 s,rfl,hs.upd _ _⟩
   | true =>
    obtain ⟨k,hk,hkn⟩:=e6 b3
    rw [Bool.not_true,cnd_f,hk]
    by_cases hlt:k < j
    ·rw [decide_eq_true (by omega),cnd_t,ixO_d [] (by have:=hs.2.1;omega),bs,rng_of (by omega) (by omega),bs,rng_of (by omega) (by omega),bs,show (j:Int) - k - 1 = ((j - k - 1:Nat):Int) by omega,ixO_d [] (by have:=hs.2.2 k hkn;omega),bs,
      rng_of (by omega) (by omega),bs,cs,Int.toNat_natCast,Int.toNat_natCast]
     exact .inl ⟨upd (j,some k) r15.1 s,rfl,hs.upd _ _⟩
    ·rw [decide_eq_false (by omega),cnd_f,rng_of (by omega) (by omega),bs,cs]
     exact .inl ⟨s,rfl,hs⟩
theorem rel_ok (h:PresS p) {v:List ByteArray} {i:Nat} (hi:i < v.length) (hl:v.length ≤ 3000000) {t:It} (hv:v[i] = ba (itx p t)) (ht:OkT p.Orders.length t) (hx:Exps p.Orders (itv p t)) {s:List (List Int) × List (List (List Int))} (hs:Shp p.Orders.length s) :
  l2_m p.Orders v (s.1,s.2,(i:Int)) = some (.inl ((upd t (itv p t) s).1,(upd t (itv p t) s).2,((i + 1:Nat):Int))):=by
 have hn:=h.n6
 have hlen:=itx_len h hx
 obtain ⟨h1,h2,h3,h4⟩:=exps_sm h hx
 have k0:Lib.cut (itx p t) [61] = (itk p t,wt (nw 0 (itv p t)),true):=cut_hit (itk_no h ht (by decide) (by decide) (by decide))
 have k1:f_E (ba (itx p t)) (ByteArray.mk #[61]) = _:=cut_ba (s:=itx p t) (sep:=[61]) (by omega)
 rw [k0] at k1
 have k3:=expOf_ok h2 h1
 rw [hx.1] at k3
 have k2:f_E (ba (itk p t)) (ByteArray.mk #[94]) = _:=cut_ba (s:=itk p t) (sep:=[94]) (by have h5:(itk p t).length ≤ (itx p t).length:=(by simp [itx]);omega)
 unfold l2_m
 simp only
 rw [lt_t hi,cnd_t,ixO_get hi,bs,hv,k1,bs]
 simp only
 rw [k2,bs,k3,bs]
 simp only
 obtain ⟨x,y⟩:=t
 cases y with
 | none =>
  have hxn:x < p.Orders.length:=ht
  have k4:Lib.cut (itk p (x,none)) [94] = ([lt x],dg (at0 p.Orders x),true):=cut_hit (x:=[lt x]) (by simp;exact lt_ne (by omega) (by decide))
  rw [k4]
  simp only
  rw [genOf_lt hn hxn,bs,Bool.not_true,cnd_f]
  simp only
  rw [cnd_f,genOf_dg (or_ok h hxn),bs]
  simp only
  rw [Bool.not_false,cnd_t,ixO_get (by have:=hs.1;omega),bs,rng_of (by omega) (by omega),bs,cs,Int.toNat_natCast]
  rfl
 | some y =>
  obtain ⟨g1,g2⟩:=ht
  have k4:Lib.cut (itk p (x,some y)) [94] = ([lt x],[lt y],true):=cut_hit (x:=[lt x]) (by simp;exact lt_ne (by omega) (by decide))
  rw [k4]
  simp only
  rw [genOf_lt hn g2,bs,Bool.not_true,cnd_f]
  simp only
  rw [cnd_f,genOf_lt hn (by omega),bs]
  simp only
  rw [Bool.not_true,cnd_f,decide_eq_true (by omega),cnd_t,ixO_d [] (by have:=hs.2.1;omega),bs,rng_of (by omega) (by omega),bs,rng_of (by omega) (by omega),bs,show (x:Int) - y - 1 = ((x - y - 1:Nat):Int) by omega,ixO_d [] (by have:=hs.2.2 y (by omega);omega),bs,
   rng_of (by omega) (by omega),bs,cs,Int.toNat_natCast,Int.toNat_natCast]
  rfl
theorem l3_eq:l3_m = l2_m []:=rfl
theorem rels_tot {n:Nat} (hn:n ≤ 6) {O:List Int} (hO:O.length = n) {v:List ByteArray} (hv:∀ x ∈ v,x.size ≤ 2000000) (hl:v.length ≤ 3000000) {s:List (List Int) × List (List (List Int))} (hs:Shp n s) :
  ∃ r,loopO (l2_m O v) (s.1,s.2,0) = some r ∧ match r with | .inl _ => True | .inr x => x = (⟨[],[],[]⟩,false):=by
 refine loopO_tot (I:=fun i s => ∃ s',s = (s'.1,s'.2,(i:Int)) ∧ Shp n s') (n:=v.length) (fun i s hi hs => ?_) (fun s hs => ?_) ⟨s,rfl,hs⟩
 ·obtain ⟨s',rfl,h1⟩:=hs
  rcases rel_tot hn hO hi hv hl h1 with ⟨s2,e1,e2⟩ | e1
  ·exact .inl ⟨_,e1,s2,rfl,e2⟩
  ·exact .inr ⟨_,e1,rfl⟩
 ·obtain ⟨s',rfl,h1⟩:=hs
  unfold l2_m
  simp only
  rw [lt_f,cnd_f]
  exact ⟨_,rfl,trivial⟩
theorem rels_ok (h:PresS p) {v:List ByteArray} (hv:v = ((items p).map (itx p)).map ba) :
  loopO (l2_m p.Orders v) ((mxd p []).1,(mxd p []).2,0) = some (.inl (p.Powers,p.Conjugates)):=by
 obtain ⟨h1,h2⟩:=items_ok h
 have hvl:v.length = (items p).length:=by rw [hv];simp
 have:=loopO_seq (body:=l2_m p.Orders v) (r:=Sum.inl (p.Powers,p.Conjugates)) (fun i => ((mxd p ((items p).take i)).1,(mxd p ((items p).take i)).2,(i:Int))) (items p).length (fun i hi => by
  have hm:=List.getElem_mem hi
  rw [rel_ok h (by omega) (by omega) (t:=(items p)[i]) (by simp [hv]) (okT_items _ hm) (h2 _ hm) (mxd_shp _),mxd_step (okT_items _ hm),← List.take_succ_eq_append_getElem hi]) (by
  unfold l2_m
  simp only [hvl]
  rw [lt_f,cnd_f,List.take_length,mxd_all h])
 rw [List.take_zero] at this
 exact this
theorem ords_tot {v:List ByteArray} (hv:∀ x ∈ v,x.size ≤ 2000000) (hl:v.length ≤ 3000000) :
  ∃ r,loopO (l1_m v) ([],0) = some r ∧ match r with | .inl O => O.length ≤ 3000000 | .inr x => x = (⟨[],[],[]⟩,false):=by
 refine loopO_tot (I:=fun i s => s.2 = (i:Int) ∧ s.1.length ≤ i) (n:=v.length) (fun i s hi hs => ?_) (fun s hs => ?_) ⟨rfl,Nat.le_refl _⟩
 ·obtain ⟨acc,j⟩:=s
  obtain ⟨e1,e2⟩:=hs
  simp only at e1 e2
  subst e1
  unfold l1_m
  simp only
  have hx:=hv _ (List.getElem_mem hi)
  obtain ⟨r,hr⟩:∃ r,f_ad v[i] 10 64 = some r:=by
   unfold f_ad
   rw [if_pos ⟨rfl,rfl,by omega⟩]
   exact ⟨_,rfl⟩
  rw [lt_t hi,cnd_t,ixO_get hi,bs,hr,bs]
  cases r.2 with
  | true => rw [cnd_t];exact .inr ⟨_,rfl,rfl⟩
  | false =>
   rw [cnd_f,appO_of (by simp;omega),bs,rng_of (by omega) (by omega),bs,cs]
   exact .inl ⟨_,rfl,rfl,by simp;omega⟩
 ·obtain ⟨acc,j⟩:=s
  obtain ⟨e1,e2⟩:=hs
  simp only at e1 e2
  subst e1
  unfold l1_m
  simp only
  rw [lt_f,cnd_f]
  exact ⟨_,rfl,by simp only;omega⟩
theorem parse_dg {o:Int} (h:Prime o):f_ad (ba (dg o)) 10 64 = some (o,false):=by
 unfold f_ad
 rw [if_pos ⟨rfl,rfl,by rw [ba_size,dg_len];omega⟩,ba_l]
 rcases h with rfl | rfl | rfl | rfl <;> rfl
theorem ords_ok (h:PresS p):loopO (l1_m ((p.Orders.map dg).map ba)) ([],0) = some (.inl p.Orders):=by
 have hn:=h.n6
 have:=loopO_seq (body:=l1_m ((p.Orders.map dg).map ba)) (r:=Sum.inl p.Orders) (fun i => (p.Orders.take i,(i:Int))) p.Orders.length (fun i hi => by
  have hp:=h.os.2 i hi
  unfold l1_m
  simp only [List.length_map]
  have e:at0 p.Orders i = p.Orders[i]:=by rw [at0,List.getD_eq_getElem?_getD,List.getElem?_eq_getElem hi];rfl
  rw [e] at hp
  rw [lt_t hi,cnd_t,ixO_get (by simpa using hi),bs,List.getElem_map,List.getElem_map,parse_dg hp,bs,cnd_f,appO_of (by simp;omega),bs,rng_of (by omega) (by omega),bs,cs,← List.take_succ_eq_append_getElem hi]) (by
  unfold l1_m
  simp only [List.length_map]
  rw [lt_f,cnd_f,List.take_length])
 rw [List.take_zero] at this
 exact this
end Go.Pl

namespace Go.Pl
open Go Go.Ab Go.Wk Go.Pc
variable {p:SPr}
theorem jn_no {c:UInt8} {sep:Bs} (hs:c ∉ sep):∀ (xs:List Bs),(∀ x ∈ xs,c ∉ x) → c ∉ jn sep xs
 | [],_ => by simp [jn,List.intercalate]
 | [x],h => by rw [jn_one];exact h x (by simp)
 | x :: y :: xs,h => by
  rw [jn_cons2,List.mem_append,List.mem_append]
  have:=jn_no hs (y :: xs) fun z hz => h z (by simp at hz ⊢;exact .inr hz)
  simp only [not_or]
  exact ⟨h x (by simp),hs,this⟩
theorem ordT_no (h:PresS p) {c:UInt8} (hc:(c.toNat < 49 ∨ 55 < c.toNat) ∧ c ≠ 32):c ∉ ordT p.Orders:=by
 unfold ordT
 split
 ·simp only [List.mem_singleton]
  intro e
  rw [e] at hc
  exact absurd hc.1 (by decide)
 ·refine jn_no (by simpa using hc.2) _ fun x hx => ?_
  obtain ⟨o,ho,rfl⟩:=List.mem_map.1 hx
  obtain ⟨i,hi,rfl⟩:=List.mem_iff_getElem.1 ho
  have:=(h.os.2 i hi).pos
  rw [at0,List.getD_eq_getElem?_getD,List.getElem?_eq_getElem hi] at this
  exact dg_ne this (by omega)
theorem txt_parts (h:PresS p):Lib.split (txt p) [59,32] = ordT p.Orders :: (items p).map (itx p):=by
 refine split_jn _ _ fun y hy => ?_
 simp only [List.mem_cons] at hy
 rcases hy with rfl | hy
 ·exact ordT_no h (by decide)
 ·obtain ⟨t,ht,rfl⟩:=List.mem_map.1 hy
  exact itx_no h (okT_items t ht) ((items_ok h).2 t ht) (by decide) (by decide) (by decide)
theorem ordT_one (h:PresS p):(ordT p.Orders == [49]) = decide (p.Orders = []):=by
 unfold ordT
 by_cases e:p.Orders = []
 ·rw [if_pos e,decide_eq_true e];rfl
 ·rw [if_neg e,decide_eq_false e,beq_eq_false_iff_ne]
  intro e2
  obtain ⟨o,os,ho⟩:∃ o os,p.Orders = o :: os:=by
   cases hh:p.Orders with
   | nil => exact absurd hh e
   | cons o os => exact ⟨o,os,rfl⟩
  have hp:=(h.os.2 0 (by rw [ho];simp)).pos
  rw [ho] at e2 hp
  rw [List.map_cons,jn_cons] at e2
  simp only [dg,List.cons_append,List.cons.injEq,at0,List.getD_cons_zero] at e2 hp
  have e3:(UInt8.ofNat (48 + o.toNat)).toNat = 48 + o.toNat:=by rw [UInt8.toNat_ofNat'];omega
  rw [e2.1] at e3
  have:(49:UInt8).toNat = 49:=rfl
  omega
theorem mxd_nil:mxd p [] = (gl p.Orders.length (fun _ => List.replicate p.Orders.length 0),gl p.Orders.length (unC p.Orders.length)):=by
 unfold mxd unC
 simp
theorem slice_tail {α:Type} (x:α) (xs:List α) (h:xs.length ≤ 4000000):sliceO (x :: xs) 1 ((x :: xs).length:Int) = some xs:=by
 unfold sliceO
 rw [if_pos (by simp only [List.length_cons];omega)]
 simp
theorem read_end {x:SPr} (hx:x.Orders.length ≤ 1048576) (t:Bs):(∃ b,((f_s x).bind fun r27 => cond (!r27) (some ((⟨[],[],[]⟩:SPr),false)) ((f_g x).bind fun r28 => cond (!seqB r28 (ba t)) (some (⟨[],[],[]⟩,false)) (some (x,true)))) = some b ∧ (b.2 = true → PresS b.1 ∧ t = txt b.1)):=by
 rcases IsPresentation_impl hx with ⟨h1,h2⟩ | ⟨h1,h2⟩
 ·rw [h1,bs,Bool.not_true,cnd_f,presText_impl h2,bs,seqB_ba]
  by_cases e:txt x = t
  ·rw [show (txt x == t) = true from beq_iff_eq.2 e,Bool.not_true,cnd_f]
   exact ⟨_,rfl,fun _ => ⟨h2,e.symm⟩⟩
  ·rw [show (txt x == t) = false from beq_eq_false_iff_ne.2 e,Bool.not_false,cnd_t]
   exact ⟨_,rfl,fun e => by cases e⟩
 ·rw [h1,bs,Bool.not_false,cnd_t]
  exact ⟨_,rfl,fun e => by cases e⟩
theorem read_tot {t:Bs} (ht:t.length ≤ 2000000):∃ b,f_m (ba t) = some b ∧ (b.2 = true → PresS b.1 ∧ t = txt b.1):=by
 have k1:f_L (ba t) (ByteArray.mk #[59,32]) = _:=splitB_ba (s:=t) (sep:=[59,32]) (by omega) (by simp)
 have hpl:∀ x ∈ Lib.split t [59,32],x.length ≤ t.length:=split_parts _ _
 have hpn:=split_len (s:=t) (sep:=[59,32]) (by simp)
 obtain ⟨x0,xs,hxs⟩:∃ x0 xs,Lib.split t [59,32] = x0 :: xs:=by
  cases hh:Lib.split t [59,32] with
  | nil => exact absurd hh (split_ne _ _)
  | cons a l => exact ⟨a,l,rfl⟩
 rw [hxs] at hpl hpn k1
 have hx0:=hpl x0 (by simp)
 simp only [List.length_cons] at hpn
 have hr:∀ y ∈ xs.map ba,y.size ≤ 2000000:=fun y hy => by
  obtain ⟨z,hz,rfl⟩:=List.mem_map.1 hy
  rw [ba_size]
  have:=hpl z (by simp [hz])
  omega
 have hsl:sliceO ((x0 :: xs).map ba) 1 (((x0 :: xs).map ba).length:Int) = some (xs.map ba):=by
  exact slice_tail _ _ (by simp only [List.length_map];omega)
 unfold f_m
 rw [k1,bs,show ixO ((x0 :: xs).map ba) 0 = some (ba x0) from rfl,bs,seq_one]
 cases hone:(x0 == [49]) with
 | false =>
  have k2:f_L (ba x0) (ByteArray.mk #[32]) = _:=splitB_ba (s:=x0) (sep:=[32]) (by omega) (by simp)
  have h2:∀ x ∈ Lib.split x0 [32],x.length ≤ x0.length:=split_parts _ _
  have h3:=split_len (s:=x0) (sep:=[32]) (by simp)
  rw [Bool.not_false,cnd_t,bs,k2,bs]
  obtain ⟨r,e1,e2⟩:=ords_tot (v:=(Lib.split x0 [32]).map ba) (fun y hy => by
   obtain ⟨z,hz,rfl⟩:=List.mem_map.1 hy
   rw [ba_size]
   have:=h2 z hz
   omega) (by rw [List.length_map];omega)
  rw [e1,bs]
  cases r with
  | inr x =>
   simp only at e2
   subst e2
   exact ⟨_,rfl,fun e => by cases e⟩
  | inl O =>
   simp only at e2 ⊢
   by_cases h6:O.length ≤ 6
   ·rw [decide_eq_false (by omega),cnd_f,triv_impl rfl (by omega),bs,hsl,bs]
    simp only
    obtain ⟨r,e3,e4⟩:=rels_tot h6 rfl (v:=xs.map ba) hr (by rw [List.length_map];omega) (s:=(gl O.length (fun _ => List.replicate O.length 0),gl O.length (unC O.length))) ⟨gl_len,gl_len,fun i hi => by simp only;rw [gl_gD hi,unC,gl_len]⟩
    simp only at e3
    rw [e3,bs]
    cases r with
    | inr x =>
     simp only at e4
     subst e4
     exact ⟨_,rfl,fun e => by cases e⟩
    | inl s => exact read_end (x:=⟨O,s.1,s.2⟩) (by simp only;omega) t
   ·rw [decide_eq_true (by omega),cnd_t]
    exact ⟨_,rfl,fun e => by cases e⟩
 | true =>
  rw [Bool.not_true,cnd_f,decide_eq_false (by simp),cnd_f,triv_impl (N:=0) rfl (by omega),bs,hsl,bs,l3_eq]
  simp only
  obtain ⟨r,e3,e4⟩:=rels_tot (n:=0) (by omega) (O:=[]) rfl (v:=xs.map ba) hr (by rw [List.length_map];omega) (s:=(gl 0 (fun _ => List.replicate 0 0),gl 0 (unC 0))) ⟨gl_len,gl_len,fun i hi => by omega⟩
  simp only at e3
  rw [e3,bs]
  cases r with
  | inr x =>
   simp only at e4
   subst e4
   exact ⟨_,rfl,fun e => by cases e⟩
  | inl s => exact read_end (x:=⟨[],s.1,s.2⟩) (by simp) t
theorem read_ok (h:PresS p):f_m (ba (txt p)) = some (p,true):=by
 have hn:=h.n6
 have ht:=txt_len h
 have k1:f_L (ba (txt p)) (ByteArray.mk #[59,32]) = _:=splitB_ba (s:=txt p) (sep:=[59,32]) (by omega) (by simp)
 rw [txt_parts h] at k1
 have hsl:sliceO ((ordT p.Orders :: (items p).map (itx p)).map ba) 1 (((ordT p.Orders :: (items p).map (itx p)).map ba).length:Int) = some (((items p).map (itx p)).map ba):=by
  exact slice_tail _ _ (by have:=(items_ok h).1;simp only [List.length_map];omega)
 have hrel:=rels_ok h (v:=((items p).map (itx p)).map ba) rfl
 rw [mxd_nil] at hrel
 simp only at hrel
 have hend:((f_s p).bind fun r27 => cond (!r27) (some ((⟨[],[],[]⟩:SPr),false)) ((f_g p).bind fun r28 => cond (!seqB r28 (ba (txt p))) (some (⟨[],[],[]⟩,false)) (some (p,true)))) = some (p,true):=by
  rcases IsPresentation_impl (x:=p) (by omega) with ⟨h1,h2⟩ | ⟨h1,h2⟩
  ·rw [h1,bs,Bool.not_true,cnd_f,presText_impl h,bs,seqB_ba,beq_self_eq_true,Bool.not_true,cnd_f]
  ·exact absurd h h2
 unfold f_m
 rw [k1,bs,show ixO ((ordT p.Orders :: (items p).map (itx p)).map ba) 0 = some (ba (ordT p.Orders)) from rfl,bs,seq_one,ordT_one h]
 by_cases e:p.Orders = []
 ·rw [decide_eq_true e,Bool.not_true,cnd_f,decide_eq_false (by simp),cnd_f,triv_impl (N:=0) rfl (by omega),bs,hsl,bs,l3_eq]
  rw [e] at hrel
  simp only
  rw [show ([]:List Int).length = 0 from rfl] at hrel
  rw [hrel,bs]
  simp only
  rw [show (SPr.mk [] p.Powers p.Conjugates) = p from by cases p;simp_all]
  exact hend
 ·have k2:f_L (ba (ordT p.Orders)) (ByteArray.mk #[32]) = _:=splitB_ba (s:=ordT p.Orders) (sep:=[32]) (by
   have:(ordT p.Orders).length ≤ (txt p).length:=by unfold txt;rw [jn_cons];simp
   omega) (by simp)
  have k3:Lib.split (ordT p.Orders) [32] = p.Orders.map dg:=by
   unfold ordT
   rw [if_neg e]
   obtain ⟨o,os,ho⟩:∃ o os,p.Orders = o :: os:=by
    cases hh:p.Orders with
    | nil => exact absurd hh e
    | cons o os => exact ⟨o,os,rfl⟩
   have hd:∀ y ∈ p.Orders.map dg,(32:UInt8) ∉ y:=fun y hy => by
    obtain ⟨q,hq,rfl⟩:=List.mem_map.1 hy
    obtain ⟨i,hi,rfl⟩:=List.mem_iff_getElem.1 hq
    have:=(h.os.2 i hi).pos
    rw [at0,List.getD_eq_getElem?_getD,List.getElem?_eq_getElem hi] at this
    exact dg_ne this (by decide)
   rw [ho,List.map_cons] at hd ⊢
   exact split_jn _ _ hd
  rw [k3] at k2
  rw [decide_eq_false e,Bool.not_false,cnd_t,bs,k2,bs,ords_ok h,bs]
  simp only
  rw [decide_eq_false (by omega),cnd_f,triv_impl rfl (by omega),bs,hsl,bs]
  simp only
  rw [hrel,bs]
  exact hend
end Go.Pl

namespace Go.Pl
open Go Go.Ab Go.Wk Go.Pc
theorem value_loop {t:Bs} (ht:t.length ≤ 6) {body:Int × Int → Option ((Int × Int) ⊕ (Int ⊕ Int))} (hb:body = l1_z (ba t) ∨ body = l2_z (ba t)):∃ r,loopO body (0,0) = some r ∧ True:=by
 have e:l1_z (ba t) = l2_z (ba t):=rfl
 have hb:body = l1_z (ba t):=by rcases hb with rfl | rfl <;> rfl
 subst hb
 refine loopO_tot (I:=fun i s => s.2 = (i:Int) ∧ 0 ≤ s.1 ∧ s.1 ≤ 10 ^ 7 ∧ s.1 < 10 ^ i) (n:=t.length) (fun i s hi hs => ?_) (fun s hs => ?_) ⟨rfl,by simp,by simp,by simp⟩
 ·obtain ⟨a,j⟩:=s
  obtain ⟨e1,e2,e3,e4⟩:=hs
  simp only at e1 e2 e3 e4
  subst e1
  have hbb:=u8_lt t[i]
  unfold l1_z
  simp only [ba_size]
  rw [lt_t hi,cnd_t,sixO_get hi,bs]
  by_cases c1:((t[i].toNat:Nat):Int) < 48
  ·rw [decide_eq_true c1,cnd_t];exact .inr ⟨_,rfl,trivial⟩
  ·rw [decide_eq_false c1,cnd_f,bs]
   by_cases c2:((t[i].toNat:Nat):Int) > 57
   ·rw [decide_eq_true c2,cnd_t];exact .inr ⟨_,rfl,trivial⟩
   ·have hp:(10:Int) ^ (i + 1) = 10 * 10 ^ i:=by rw [Int.pow_succ];omega
    have hi6:(10:Int) ^ (i + 1) ≤ 10 ^ 7:=by
     have:i + 1 ≤ 7:=by omega
     have h2:(10:Nat) ^ (i + 1) ≤ 10 ^ 7:=Nat.pow_le_pow_right (by omega) this
     exact_mod_cast h2
    rw [decide_eq_false c2,cnd_f,rng_of (by omega) (by omega),bs,bs,wrap8 (by omega) (by omega),wrap64i (by omega) (by omega),rng_of (by omega) (by omega),bs,rng_of (by omega) (by omega),bs,cs]
    refine .inl ⟨_,rfl,rfl,?_,?_,?_⟩ <;> simp only <;> omega
 ·obtain ⟨a,j⟩:=s
  obtain ⟨e1,e2,e3,e4⟩:=hs
  simp only at e1
  subst e1
  unfold l1_z
  simp only [ba_size]
  rw [lt_f,cnd_f]
  exact ⟨_,rfl,trivial⟩
theorem value_tot (t:Bs):∃ r,f_z (ba t) = some r:=by
 unfold f_z
 rw [ba_size]
 by_cases c0:t.length = 0
 ·rw [show ((t.length:Int) == 0) = true from beq_iff_eq.2 (by omega),cnd_t];exact ⟨_,rfl⟩
 ·rw [show ((t.length:Int) == 0) = false from beq_eq_false_iff_ne.2 (by omega),cnd_f]
  by_cases c1:t.length ≤ 6
  ·rw [decide_eq_false (by omega),cnd_f]
   by_cases c2:t.length > 1
   ·rw [decide_eq_true (by omega),cnd_t,show sixO (ba t) 0 = some ((t[0].toNat:Nat):Int) from sixO_get (i:=0) (by omega),bs]
    cases hz:((t[0].toNat:Nat):Int) == 48 with
    | true => rw [cnd_t];exact ⟨_,rfl⟩
    | false =>
     obtain ⟨r,h1,_⟩:=value_loop c1 (.inl rfl)
     rw [cnd_f,h1,bs]
     cases r <;> exact ⟨_,rfl⟩
   ·obtain ⟨r,h1,_⟩:=value_loop c1 (.inr rfl)
    rw [decide_eq_false (by omega),cnd_f,h1,bs]
    cases r <;> exact ⟨_,rfl⟩
  ·rw [decide_eq_true (by omega),cnd_t];exact ⟨_,rfl⟩
theorem value_dg {o:Int} (h:2 ≤ o ∧ o ≤ 7):f_z (ba (dg o)) = some o:=by
 have e:sixO (ba (dg o)) ((0:Nat):Int) = some (((UInt8.ofNat (48 + o.toNat)).toNat:Nat):Int):=sixO_get (i:=0) (by simp [dg])
 have e2:(UInt8.ofNat (48 + o.toNat)).toNat = 48 + o.toNat:=by rw [UInt8.toNat_ofNat'];omega
 have:=loopO_seq (body:=l2_z (ba (dg o))) (r:=Sum.inl o) (fun i => (if i = 0 then 0 else o,(i:Int))) 1 (fun i hi => by
  obtain rfl:i = 0:=by omega
  unfold l2_z
  simp only [ba_size,dg_len,if_true]
  rw [lt_t hi,cnd_t,e,bs,e2,decide_eq_false (by omega),cnd_f,bs,decide_eq_false (by omega),cnd_f,rng_of (by omega) (by omega),bs,bs,wrap8 (by omega) (by omega),wrap64i (by omega) (by omega),rng_of (by omega) (by omega),bs,rng_of (by omega) (by omega),bs,cs]
  rw [if_neg (by omega)]
  congr 3
  omega) (by
  unfold l2_z
  simp only [ba_size,dg_len]
  rw [lt_f,cnd_f]
  rfl)
 unfold f_z
 rw [ba_size,dg_len,show (((1:Nat):Int) == 0) = false from rfl,cnd_f,decide_eq_false (by omega),cnd_f,decide_eq_false (by omega),cnd_f]
 rw [show loopO (l2_z (ba (dg o))) (0,0) = some (.inl o) from this,bs]
theorem orders_tot {t:Bs} (ht:t.length ≤ 2000000):∃ r,f_Q (ba t) = some r ∧ (r.2 = true → r.1.length ≤ 6 ∧ ∀ i,i < r.1.length → Prime (at0 r.1 i)):=by
 unfold f_Q
 rw [seq_one]
 cases h1:(t == [49]) with
 | true => rw [cnd_t];exact ⟨_,rfl,fun _ => ⟨by simp,by simp⟩⟩
 | false =>
  rw [cnd_f,split_spec (c:=32) (n:=32) rfl ht,bs]
  obtain ⟨p1,p2,p3⟩:=spl_parts (c:=32) t
  obtain ⟨r,h2,h3⟩:=loopO_tot (body:=l1_Q ((spl 32 t).map ba)) (Q:=fun r => match r with | .inl O => O.length ≤ 6 ∧ ∀ i,i < O.length → Prime (at0 O i) | .inr x => x = (([]:List Int),false))
   (fun i s => s.2 = (i:Int) ∧ s.1.length = i ∧ i ≤ 6 ∧ ∀ x ∈ s.1,Prime x) (spl 32 t).length (fun i s hi ⟨e1,e2,e3,e4⟩ => by
    obtain ⟨acc,j⟩:=s
    simp only at e1 e2 e3 e4
    subst e1
    unfold l1_Q
    simp only [List.length_map]
    obtain ⟨a,ha⟩:=value_tot (spl 32 t)[i]
    rw [lt_t hi,cnd_t,ixO_get (by simpa using hi),bs,List.getElem_map,ha,bs]
    rcases prime_spec a with ⟨k1,k2⟩ | ⟨k1,k2⟩
    ·rw [k1,bs,Bool.not_true,cnd_f]
     by_cases c:i ≥ 6
     ·rw [decide_eq_true (by omega),cnd_t];exact .inr ⟨_,rfl,rfl⟩
     ·rw [decide_eq_false (by omega),cnd_f,appO_of (by simp;omega),bs,rng_of (by omega) (by omega),bs,cs]
      refine .inl ⟨_,rfl,rfl,by simp;omega,by omega,fun x hx => ?_⟩
      simp only [List.mem_append,List.mem_singleton] at hx
      rcases hx with hx | rfl
      ·exact e4 x hx
      ·exact k2
    ·rw [k1,bs,Bool.not_false,cnd_t];exact .inr ⟨_,rfl,rfl⟩) (fun s ⟨e1,e2,e3,e4⟩ => by
    obtain ⟨acc,j⟩:=s
    simp only at e1 e2 e3 e4
    subst e1
    unfold l1_Q
    simp only [List.length_map]
    rw [lt_f,cnd_f]
    refine ⟨_,rfl,(show acc.length ≤ 6 by omega),fun i hi => ?_⟩
    rw [at0,List.getD_eq_getElem?_getD,List.getElem?_eq_getElem hi]
    exact e4 _ (List.getElem_mem hi)) (s:=([],0)) ⟨rfl,rfl,by omega,by simp⟩
  rw [h2,bs]
  cases r with
  | inl O =>
   simp only at h3 ⊢
   rw [product_spec ⟨by omega,h3.2⟩,bs]
   exact ⟨_,rfl,fun _ => h3⟩
  | inr x =>
   simp only at h3
   subst h3
   exact ⟨_,rfl,fun e => by cases e⟩
theorem orders_ok {p:SPr} (h:PresS p):f_Q (ba (ordT p.Orders)) = some (p.Orders,true):=by
 have hn:=h.n6
 unfold f_Q
 rw [seq_one,ordT_one h]
 by_cases e:p.Orders = []
 ·rw [decide_eq_true e,cnd_t,e]
 ·have hl:(ordT p.Orders).length ≤ 5000:=by
   have h1:=txt_len h
   have:(ordT p.Orders).length ≤ (txt p).length:=by unfold txt;rw [jn_cons];simp
   omega
  have k3:spl 32 (ordT p.Orders) = p.Orders.map dg:=by
   unfold ordT
   rw [if_neg e]
   obtain ⟨o,os,ho⟩:∃ o os,p.Orders = o :: os:=by
    cases hh:p.Orders with
    | nil => exact absurd hh e
    | cons o os => exact ⟨o,os,rfl⟩
   have hd:∀ y ∈ p.Orders.map dg,(32:UInt8) ∉ y:=fun y hy => by
    obtain ⟨q,hq,rfl⟩:=List.mem_map.1 hy
    obtain ⟨i,hi,rfl⟩:=List.mem_iff_getElem.1 hq
    have:=(h.os.2 i hi).pos
    rw [at0,List.getD_eq_getElem?_getD,List.getElem?_eq_getElem hi] at this
    exact dg_ne this (by decide)
   rw [ho,List.map_cons] at hd ⊢
   exact spl_jn _ _ hd
  rw [decide_eq_false e,cnd_f,split_spec (c:=32) (n:=32) rfl (by omega),bs,k3]
  have:=loopO_seq (body:=l1_Q ((p.Orders.map dg).map ba)) (r:=Sum.inl p.Orders) (fun i => (p.Orders.take i,(i:Int))) p.Orders.length (fun i hi => by
   have hp:=h.os.2 i hi
   have e2:at0 p.Orders i = p.Orders[i]:=by rw [at0,List.getD_eq_getElem?_getD,List.getElem?_eq_getElem hi];rfl
   rw [e2] at hp
   unfold l1_Q
   simp only [List.length_map]
   rw [lt_t hi,cnd_t,ixO_get (by simpa using hi),bs,List.getElem_map,List.getElem_map,value_dg hp.pos,bs]
   rcases prime_spec p.Orders[i] with ⟨k1,k2⟩ | ⟨k1,k2⟩
   ·rw [k1,bs,Bool.not_true,cnd_f,decide_eq_false (by omega),cnd_f,appO_of (by simp;omega),bs,rng_of (by omega) (by omega),bs,cs,← List.take_succ_eq_append_getElem hi]
   ·exact absurd hp k2) (by
   unfold l1_Q
   simp only [List.length_map]
   rw [lt_f,cnd_f,List.take_length])
  rw [show loopO (l1_Q ((p.Orders.map dg).map ba)) ([],0) = some (.inl p.Orders) from this,bs]
  simp only
  have hcp:=cp_pr (os:=p.Orders) (i:=p.Orders.length) h.os.2
  have hpr:=h.pr
  rw [product_spec h.os,bs,decide_eq_true (by omega)]
theorem parseW_tot {n:Nat} {t:Bs} (ht:t.length ≤ 2000000):∃ r,f_R (n:Int) (ba t) = some r ∧ Lts n r.1 ∧ r.1.length ≤ t.length:=by
 unfold f_R
 rw [seq_one]
 cases h1:(t == [49]) with
 | true => rw [cnd_t];exact ⟨_,rfl,by simp [Lts],by simp⟩
 | false =>
  rw [cnd_f]
  obtain ⟨r,h2,h3⟩:=loopO_tot (body:=l1_R (n:Int) (ba t)) (Q:=fun r => match r with | .inl w => Lts n w ∧ w.length ≤ t.length | .inr x => x = (([]:List Int),false))
   (fun i s => s.2 = (i:Int) ∧ Lts n s.1 ∧ s.1.length ≤ i) t.length (fun i s hi ⟨e1,e2,e3⟩ => by
    obtain ⟨acc,j⟩:=s
    simp only at e1 e2 e3
    subst e1
    have hb:=u8_lt t[i]
    unfold l1_R
    simp only [ba_size]
    rw [lt_t hi,cnd_t,sixO_get hi,bs,wrap64i (by omega) (by omega),rng_of (by omega) (by omega),bs,rng_of (by omega) (by omega),bs,bs,wrap64i (by omega) (by omega),rng_of (by omega) (by omega),bs,rng_of (by omega) (by omega),bs]
    have add:∀ a:Int,a ≠ 0 → -(n:Int) ≤ a → a ≤ n → Lts n (acc ++ [a]):=fun a h1 h2 h3 x hx => by
     simp only [List.mem_append,List.mem_singleton] at hx
     rcases hx with hx | rfl
     ·exact e2 x hx
     ·exact ⟨h1,h2,h3⟩
    rcases inside_spec (((t[i].toNat:Nat):Int) - 97 + 1) 1 n with ⟨k1,k2⟩ | ⟨k1,k2⟩
    ·rw [k1,bs,cnd_t,appO_of (by simp;omega),bs,rng_of (by omega) (by omega),bs,cs]
     exact .inl ⟨_,rfl,rfl,add _ (by omega) (by omega) (by omega),by simp;omega⟩
    ·rw [k1,bs,cnd_f]
     rcases inside_spec (((t[i].toNat:Nat):Int) - 65 + 1) 1 n with ⟨k3,k4⟩ | ⟨k3,k4⟩
     ·rw [k3,bs,cnd_t,rng_of (by omega) (by omega),bs,appO_of (by simp;omega),bs,rng_of (by omega) (by omega),bs,cs]
      exact .inl ⟨_,rfl,rfl,add _ (by omega) (by omega) (by omega),by simp;omega⟩
     ·rw [k3,bs,cnd_f];exact .inr ⟨_,rfl,rfl⟩) (fun s ⟨e1,e2,e3⟩ => by
    obtain ⟨acc,j⟩:=s
    simp only at e1 e2 e3
    subst e1
    unfold l1_R
    simp only [ba_size]
    rw [lt_f,cnd_f]
    exact ⟨_,rfl,e2,e3⟩) (s:=([],0)) ⟨rfl,by simp [Lts],by simp⟩
  rw [h2,bs]
  cases r with
  | inl w => exact ⟨_,rfl,h3.1,h3.2⟩
  | inr x =>
   simp only at h3
   subst h3
   exact ⟨_,rfl,by simp [Lts],by simp⟩
theorem parseW_ok {n:Nat} (hn:n ≤ 6) {w:List Nat} (hw:∀ a ∈ w,a < n) (hl:w.length ≤ 100):f_R (n:Int) (ba (wt w)) = some (enW w,true):=by
 unfold f_R
 rw [seq_one]
 by_cases h0:w = []
 ·subst h0;rfl
 ·have hwt:wt w = w.map lt:=if_neg h0
  have hx:∀ i (h:i < w.length),w[i] < n:=fun i h => hw _ (List.getElem_mem h)
  have hne:(w.map lt == [49]) = false:=by
   rw [beq_eq_false_iff_ne]
   cases w with
   | nil => exact absurd rfl h0
   | cons a w =>
    intro e
    have h1:=hw a (by simp)
    have h2:=lt_nat (x:=a) (by omega)
    simp only [List.map_cons,List.cons.injEq] at e
    rw [e.1] at h2
    have:(49:UInt8).toNat = 49:=rfl
    omega
  rw [hwt,hne,cnd_f]
  have:=loopO_seq (body:=l1_R (n:Int) (ba (w.map lt))) (r:=Sum.inl (enW w)) (fun i => (enW (w.take i),(i:Int))) w.length (fun i hi => by
   have h1:=hx i hi
   have h2:=lt_nat (x:=w[i]) (by omega)
   unfold l1_R
   simp only [ba_size,List.length_map]
   rw [lt_t hi,cnd_t,sixO_get (by simpa using hi),bs,List.getElem_map,h2,wrap64i (by omega) (by omega),rng_of (by omega) (by omega),bs,rng_of (by omega) (by omega),bs,bs,wrap64i (by omega) (by omega),rng_of (by omega) (by omega),bs,rng_of (by omega) (by omega),bs]
   rw [show (((97 + w[i]:Nat):Int) - 97 + 1) = ((w[i]:Int) + 1) by omega]
   rcases inside_spec ((w[i]:Int) + 1) 1 n with ⟨k1,k2⟩ | ⟨k1,k2⟩
   ·rw [k1,bs,cnd_t,appO_of (by simp;omega),bs,rng_of (by omega) (by omega),bs,cs]
    rw [List.take_succ_eq_append_getElem hi]
    simp only [enW,List.map_append,List.map_cons,List.map_nil]
    rfl
   ·exact absurd ⟨by omega,by omega⟩ k2) (by
   unfold l1_R
   simp only [ba_size,List.length_map]
   rw [lt_f,cnd_f,List.take_length])
  rw [show loopO (l1_R (n:Int) (ba (w.map lt))) ([],0) = some (Sum.inl (enW w)) from this,bs]
  simp only [List.length_map]
  rw [decide_eq_true (by have:=List.length_pos_iff.2 h0;omega)]
theorem vec_tot {n:Nat} (hn:n ≤ 6) {w:List Int} (hw:Lts n w) (hl:w.length ≤ 2000000):∃ r,f_Y (n:Int) w = some r ∧ (r.2 = true → r.1.length = n):=by
 unfold f_Y
 rw [lenOk_nat (by omega),bs]
 obtain ⟨q,h4,h5⟩:=loopO_tot (body:=l1_Y w) (Q:=fun q => match q with | .inl v => v.length = n | .inr x => x = (([]:List Int),false))
  (fun i s => s.2 = (i:Int) ∧ s.1.length = n ∧ ∀ x ∈ s.1,0 ≤ x ∧ x ≤ i) w.length (fun i s hi ⟨e1,e2,e3⟩ => by
   obtain ⟨acc,j⟩:=s
   simp only at e1 e2 e3
   subst e1
   have ha:=hw _ (List.getElem_mem hi)
   unfold l1_Y
   simp only
   rw [lt_t hi,cnd_t,ixO_i hi,bs]
   by_cases c:w[i] < 0
   ·rw [decide_eq_true c,cnd_t];exact .inr ⟨_,rfl,rfl⟩
   ·rw [decide_eq_false c,cnd_f,bs,rng_of (by omega) (by omega),bs,bs,rng_of (by omega) (by omega),bs]
    obtain ⟨k,hk⟩:∃ k:Nat,w[i] - 1 = (k:Int):=⟨(w[i] - 1).toNat,by omega⟩
    have hkn:k < acc.length:=by omega
    have hb:=e3 acc[k] (List.getElem_mem hkn)
    rw [hk,ixO_i hkn,bs,rng_of (by omega) (by omega),bs,bs,rng_of (by omega) (by omega),bs,cs]
    refine .inl ⟨_,rfl,rfl,by simp [e2],fun x hx => ?_⟩
    rcases List.mem_or_eq_of_mem_set hx with hx | rfl
    ·have:=e3 x hx;omega
    ·omega) (fun s ⟨e1,e2,e3⟩ => by
   obtain ⟨acc,j⟩:=s
   simp only at e1 e2 e3
   subst e1
   unfold l1_Y
   simp only
   rw [lt_f,cnd_f]
   exact ⟨_,rfl,e2⟩) (s:=(List.replicate n (0:Int),0)) ⟨rfl,by simp,fun x hx => by simp at hx;omega⟩
 rw [h4,bs]
 cases q with
 | inl v => exact ⟨_,rfl,fun _ => h5⟩
 | inr x =>
  simp only at h5
  subst h5
  exact ⟨_,rfl,fun e => by cases e⟩
theorem vec_ok {v:List Int} (hv:∀ i,i < v.length → 0 ≤ at0 v i ∧ at0 v i ≤ 6) (hn:v.length ≤ 6):f_Y (v.length:Int) (enW (nw 0 v)) = some (v,true):=by
 have hw:∀ a ∈ nw 0 v,a < v.length:=fun a ha => nw_lt (n:=v.length) 0 v (by omega) a ha
 have hl:(nw 0 v).length ≤ 36:=by have:=nw_len 0 v fun i hi => (hv i hi).2;omega
 unfold f_Y
 rw [lenOk_nat (by omega),bs]
 have:=loopO_seq (body:=l1_Y (enW (nw 0 v))) (r:=Sum.inl v) (fun i => (cnt v.length ((nw 0 v).take i),(i:Int))) (nw 0 v).length (fun i hi => by
  have ha:=hw _ (List.getElem_mem hi)
  have hle:(enW (nw 0 v)).length = (nw 0 v).length:=by simp
  have hc:at0 (cnt v.length ((nw 0 v).take i)) (nw 0 v)[i] ≤ 36 ∧ 0 ≤ at0 (cnt v.length ((nw 0 v).take i)) (nw 0 v)[i]:=by
   rw [cnt,mkv_at ha]
   have:=List.count_le_length (a:=(nw 0 v)[i]) (l:=(nw 0 v).take i)
   simp only [List.length_take] at this
   omega
  unfold l1_Y
  simp only [hle]
  rw [lt_t hi,cnd_t,ixO_i (by simpa using hi),bs,List.getElem_map,decide_eq_false (by omega),cnd_f,bs,rng_of (by omega) (by omega),bs,bs,rng_of (by omega) (by omega),bs]
  rw [show ((nw 0 v)[i]:Int) + 1 - 1 = ((nw 0 v)[i]:Int) by omega,ixO_at (by rw [cnt_len];exact ha),bs,rng_of (by omega) (by omega),bs,bs,rng_of (by omega) (by omega),bs,cs,Int.toNat_natCast,cnt_snoc ha,List.take_succ_eq_append_getElem hi]) (by
  unfold l1_Y
  simp only [List.length_map]
  rw [lt_f,cnd_f,List.take_length,cnt_nw fun i hi => (hv i hi).1])
 rw [show ((0:Nat):Int) = 0 from rfl,List.take_zero,cnt_nil] at this
 rw [this,bs]
end Go.Pl

namespace Go.Pl
open Go Go.Ab Go.Wk Go.Pc
variable {p:SPr}
def Shr (n:Nat) (s:List (List Int) × List (List (List Int))):Prop:=Shp n s ∧ (∀ v ∈ s.1,v.length = n) ∧ ∀ r ∈ s.2,∀ v ∈ r,v.length = n
theorem own_gen {n:Nat} (hn:n ≤ 6) {O:List Int} (hO:O.length = n) {s:List (List Int) × List (List (List Int))} (hs:Shr n s):f_ap ⟨O,s.1,s.2⟩ = some ⟨O,s.1,s.2⟩:=by
 obtain ⟨⟨h1,h2,h3⟩,h4,h5⟩:=hs
 unfold f_ap
 simp only
 rw [own_spec (by omega),bs,own2_spec (by omega) (fun i hi => by
  rw [List.getD_eq_getElem?_getD,List.getElem?_eq_getElem hi]
  have:=h4 _ (List.getElem_mem hi)
  simp only [Option.getD_some];omega),bs]
 rw [map_loop (body:=l1_ap ⟨O,s.1,s.2⟩) s.2.length (fun i => s.2.getD i []) (fun i acc hi ha => by
  unfold l1_ap
  simp only
  have hc:=h3 i (by omega)
  have e:s.2.getD i [] = s.2[i]:=by rw [List.getD_eq_getElem?_getD,List.getElem?_eq_getElem hi];rfl
  rw [lt_t hi,cnd_t,ixO_d [] hi,bs,own2_spec (by omega) (fun j hj => by
   rw [List.getD_eq_getElem?_getD,List.getElem?_eq_getElem hj]
   have:=h5 _ (List.getElem_mem hi) (s.2.getD i [])[j] (by rw [← e];exact List.getElem_mem hj)
   simp only [Option.getD_some];omega),bs,appO_of (by simp;omega),bs,rng_of (by omega) (by omega),bs,cs]) (fun acc => by
  unfold l1_ap
  simp),bs]
 congr 2
 exact List.ext_getElem (by simp) fun i h1 h2 => by simp at h1 ⊢;grind
theorem Shr.upd {n:Nat} {s:List (List Int) × List (List (List Int))} (h:Shr n s) (t:It) {v:List Int} (hv:v.length = n):Shr n (upd t v s):=by
 obtain ⟨h1,h4,h5⟩:=h
 refine ⟨h1.upd t v,?_,?_⟩
 ·obtain ⟨x,i⟩:=t
  cases i with
  | none =>
   intro u hu
   rcases List.mem_or_eq_of_mem_set hu with hu | rfl
   ·exact h4 u hu
   ·exact hv
  | some i => exact h4
 ·obtain ⟨x,i⟩:=t
  cases i with
  | none => exact h5
  | some i =>
   intro r hr u hu
   rcases List.mem_or_eq_of_mem_set hr with hr | rfl
   ·exact h5 r hr u hu
   ·rcases List.mem_or_eq_of_mem_set hu with hu | rfl
    ·by_cases hi:i < s.2.length
     ·rw [List.getD_eq_getElem?_getD,List.getElem?_eq_getElem hi] at hu
      exact h5 _ (List.getElem_mem hi) u hu
     ·rw [List.getD_eq_getElem?_getD,List.getElem?_eq_none (by omega)] at hu
      simp at hu
    ·exact hv
theorem mxd_shr (h:PresS p) (S:List It):Shr p.Orders.length (mxd p S):=by
 refine ⟨mxd_shp S,fun v hv => ?_,fun r hr v hv => ?_⟩
 ·simp only [mxd,gl,List.mem_map,List.mem_range] at hv
  obtain ⟨i,hi,rfl⟩:=hv
  split
  ·exact (pw_ok h hi).1.1
  ·simp
 ·simp only [mxd,gl,List.mem_map,List.mem_range] at hr
  obtain ⟨i,hi,rfl⟩:=hr
  simp only [List.mem_map,List.mem_range] at hv
  obtain ⟨k,hk,rfl⟩:=hv
  split
  ·exact (cj_ok h hi hk).1.1
  ·exact mkv_length _ _
theorem i64_u8 (b:UInt8):IntKind.wrap .i64 ((b.toNat:Nat):Int) = ((b.toNat:Nat):Int):=wrap64i (by omega) (by have:=u8_lt b;omega)
theorem relation_tot {n:Nat} (hn:n ≤ 6) {O:List Int} (hO:O.length = n) (hp:∀ i,i < n → Prime (at0 O i)) {q:Bs} (hq:q.length ≤ 2000000) {s:List (List Int) × List (List (List Int))} (hs:Shr n s) :
  ∃ r,f_aQ ⟨O,s.1,s.2⟩ (ba q) = some r ∧ (r.2 = true → ∃ s',r.1 = ⟨O,s'.1,s'.2⟩ ∧ Shr n s'):=by
 obtain ⟨p1,p2,p3⟩:=spl_parts (c:=61) q
 unfold f_aQ
 rw [split_spec (c:=61) (n:=61) rfl hq,bs,List.length_map]
 by_cases c0:(spl 61 q).length = 2
 ·rw [bne_f (by omega),cnd_f]
  obtain ⟨a,b,hab⟩:∃ a b,spl 61 q = [a,b]:=by
   match spl 61 q,c0 with
   | [a,b],_ => exact ⟨a,b,rfl⟩
  rw [hab] at p1
  have ha:=p1 a (by simp)
  have hb:=p1 b (by simp)
  rw [hab,show ixO ([a,b].map ba) 0 = some (ba a) from rfl,bs,ba_size]
  by_cases c1:a.length = 4
  ·obtain ⟨a0,a1,a2,a3,rfl⟩:∃ a0 a1 a2 a3,a = [a0,a1,a2,a3]:=by
    match a,c1 with
    | [a0,a1,a2,a3],_ => exact ⟨a0,a1,a2,a3,rfl⟩
   have s0:sixO (ba [a0,a1,a2,a3]) 0 = some ((a0.toNat:Nat):Int):=sixO_get (i:=0) (by simp)
   have s1:sixO (ba [a0,a1,a2,a3]) 1 = some ((a1.toNat:Nat):Int):=sixO_get (i:=1) (by simp)
   have s2:sixO (ba [a0,a1,a2,a3]) 2 = some ((a2.toNat:Nat):Int):=sixO_get (i:=2) (by simp)
   have s3:sixO (ba [a0,a1,a2,a3]) 3 = some ((a3.toNat:Nat):Int):=sixO_get (i:=3) (by simp)
   rw [bne_f (by simp),cnd_f,bs,s0,bs]
   by_cases c2:((a0.toNat:Nat):Int) = 32
   ·rw [bne_f c2,cnd_f,bs,s2,bs]
    by_cases c3:((a2.toNat:Nat):Int) = 94
    ·rw [bne_f c3,cnd_f,show ixO ([[a0,a1,a2,a3],b].map ba) 1 = some (ba b) from rfl,bs]
     simp only [hO]
     obtain ⟨w,w1,w2,w3⟩:=parseW_tot (n:=n) (t:=b) (by omega)
     rw [w1,bs]
     cases hw:w.2 with
     | false => rw [Bool.not_false,cnd_t];exact ⟨_,rfl,fun e => by cases e⟩
     | true =>
      obtain ⟨v,v1,v2⟩:=vec_tot hn w2 (by omega)
      have hb1:=u8_lt a1
      have hb3:=u8_lt a3
      rw [Bool.not_true,cnd_f,v1,bs,bs,s1,bs,i64_u8,rng_of (by omega) (by omega),bs,bs,s3,bs,i64_u8,rng_of (by omega) (by omega),bs]
      cases hv:v.2 with
      | false => rw [Bool.not_false,cnd_t];exact ⟨_,rfl,fun e => by cases e⟩
      | true =>
       have hvl:=v2 hv
       rw [Bool.not_true,cnd_f]
       by_cases c4:((a1.toNat:Nat):Int) - 97 < 0
       ·rw [decide_eq_true c4,cnd_t];exact ⟨_,rfl,fun e => by cases e⟩
       ·rw [decide_eq_false c4,cnd_f]
        by_cases c5:((a1.toNat:Nat):Int) - 97 ≥ n
        ·rw [decide_eq_true c5,cnd_t];exact ⟨_,rfl,fun e => by cases e⟩
        ·obtain ⟨x,hx⟩:∃ x:Nat,((a1.toNat:Nat):Int) - 97 = (x:Int):=⟨a1.toNat - 97,by omega⟩
         have hxn:x < n:=by omega
         have hpx:=(hp x hxn).pos
         have hsl:sslO (ba [a0,a1,a2,a3]) 3 ((ba [a0,a1,a2,a3]).size:Int) = some (ba [a3]):=by rw [ba_size];exact sslO_ba (l:=3) (h:=4) (by omega) (by simp)
         rw [decide_eq_false c5,cnd_f,own_gen hn hO hs,bs,bs,hsl,bs,hx,ixO_at (by omega),bs,dec_spec (by omega) (by omega),bs]
         simp only
         cases hz:seqB (ba [a3]) (ba (dg (at0 O x))) with
         | true =>
          rw [cnd_t,ixO_get (by have:=hs.1.1;omega),bs,Int.toNat_natCast]
          exact ⟨_,rfl,fun _ => ⟨upd (x,none) v.1 s,rfl,hs.upd _ hvl⟩⟩
         | false =>
          rw [cnd_f]
          by_cases c6:((a3.toNat:Nat):Int) - 97 < 0
          ·rw [decide_eq_true c6,cnd_t];exact ⟨_,rfl,fun e => by cases e⟩
          ·rw [decide_eq_false c6,cnd_f]
           by_cases c7:((a3.toNat:Nat):Int) - 97 ≥ x
           ·rw [decide_eq_true c7,cnd_t];exact ⟨_,rfl,fun e => by cases e⟩
           ·obtain ⟨y,hy⟩:∃ y:Nat,((a3.toNat:Nat):Int) - 97 = (y:Int):=⟨a3.toNat - 97,by omega⟩
            have hyx:y < x:=by omega
            rw [decide_eq_false c7,cnd_f,hy,ixO_d [] (by have:=hs.1.2.1;omega),bs,rng_of (by omega) (by omega),bs,rng_of (by omega) (by omega),bs,show (x:Int) - y - 1 = ((x - y - 1:Nat):Int) by omega,
             ixO_d [] (by have:=hs.1.2.2 y (by omega);omega),bs,Int.toNat_natCast,Int.toNat_natCast]
            exact ⟨_,rfl,fun _ => ⟨upd (x,some y) v.1 s,rfl,hs.upd _ hvl⟩⟩
    ·rw [bne_t c3,cnd_t];exact ⟨_,rfl,fun e => by cases e⟩
   ·rw [bne_t c2,cnd_t];exact ⟨_,rfl,fun e => by cases e⟩
  ·rw [bne_t (by omega),cnd_t];exact ⟨_,rfl,fun e => by cases e⟩
 ·rw [bne_t (by omega),cnd_t];exact ⟨_,rfl,fun e => by cases e⟩
theorem relation_ok (h:PresS p) {t:It} (ht:OkT p.Orders.length t) (hx:Exps p.Orders (itv p t)) {s:List (List Int) × List (List (List Int))} (hs:Shr p.Orders.length s) :
  f_aQ ⟨p.Orders,s.1,s.2⟩ (ba (32 :: itx p t)) = some (⟨p.Orders,(upd t (itv p t) s).1,(upd t (itv p t) s).2⟩,true):=by
 have hn:=h.n6
 have hlen:=itx_len h hx
 obtain ⟨h1,h2,h3,h4⟩:=exps_sm h hx
 have hwn:(61:UInt8) ∉ wt (nw 0 (itv p t)):=wt_no h3 (by decide) (by decide)
 have hsp:spl 61 (32 :: itx p t) = [32 :: itk p t,wt (nw 0 (itv p t))]:=by
  have e:32 :: itx p t = jn [61] [32 :: itk p t,wt (nw 0 (itv p t))]:=by
   rw [jn_cons2,jn_one];simp [itx]
  rw [e]
  refine spl_jn _ _ fun y hy => ?_
  simp only [List.mem_cons,List.not_mem_nil,or_false] at hy
  rcases hy with rfl | rfl
  ·simp only [List.mem_cons,not_or]
   exact ⟨by decide,itk_no h ht (by decide) (by decide) (by decide)⟩
  ·exact hwn
 have k2:=vec_ok h2 h1
 rw [hx.1] at k2
 have k1:=parseW_ok (n:=p.Orders.length) hn (w:=nw 0 (itv p t)) (fun a ha => nw_lt (n:=p.Orders.length) 0 (itv p t) (by have:=hx.1;omega) a ha) (by omega)
 obtain ⟨x,y⟩:=t
 obtain ⟨a3,ha3⟩:∃ a3,itk p (x,y) = [lt x,94,a3]:=by
  cases y with
  | none => exact ⟨_,rfl⟩
  | some y => exact ⟨_,rfl⟩
 have hxn:x < p.Orders.length:=by
  cases y with
  | none => exact ht
  | some y => exact ht.2
 have s0:sixO (ba [32,lt x,94,a3]) 0 = some (32:Int):=sixO_get (i:=0) (by simp)
 have s1:sixO (ba [32,lt x,94,a3]) 1 = some (((lt x).toNat:Nat):Int):=sixO_get (i:=1) (by simp)
 have s2:sixO (ba [32,lt x,94,a3]) 2 = some (94:Int):=sixO_get (i:=2) (by simp)
 have s3:sixO (ba [32,lt x,94,a3]) 3 = some ((a3.toNat:Nat):Int):=sixO_get (i:=3) (by simp)
 have hb3:=u8_lt a3
 have hlx:=lt_nat (x:=x) (by omega)
 have hsl:sslO (ba [32,lt x,94,a3]) 3 ((ba [32,lt x,94,a3]).size:Int) = some (ba [a3]):=by rw [ba_size];exact sslO_ba (l:=3) (h:=4) (by omega) (by simp)
 have hpx:=or_ok h hxn
 unfold f_aQ
 rw [split_spec (c:=61) (n:=61) rfl (by simp only [List.length_cons];omega),bs,hsp,ha3]
 rw [List.length_map,bne_f (by simp),cnd_f,show ixO ([[32,lt x,94,a3],wt (nw 0 (itv p (x,y)))].map ba) 0 = some (ba [32,lt x,94,a3]) from rfl,bs,ba_size,bne_f (by simp),cnd_f,bs,s0,bs,bne_f rfl,cnd_f,bs,s2,bs,bne_f rfl,cnd_f,
  show ixO ([[32,lt x,94,a3],wt (nw 0 (itv p (x,y)))].map ba) 1 = some (ba (wt (nw 0 (itv p (x,y))))) from rfl,bs]
 simp only
 rw [k1,bs]
 simp only
 rw [Bool.not_true,cnd_f,k2,bs,bs,s1,bs,i64_u8,rng_of (by omega) (by omega),bs,bs,s3,bs,i64_u8,rng_of (by omega) (by omega),bs]
 simp only
 rw [Bool.not_true,cnd_f,show (((lt x).toNat:Nat):Int) - 97 = (x:Int) by omega,decide_eq_false (by omega),cnd_f,decide_eq_false (by omega),cnd_f,own_gen hn rfl hs,bs,bs,hsl,bs]
 simp only
 rw [ixO_at hxn,bs,dec_spec (by omega) (by omega),bs,seqB_ba]
 cases y with
 | none =>
  have e3:[a3] = dg (at0 p.Orders x):=by
   simp only [itk,List.cons_append,List.nil_append,List.cons.injEq,true_and] at ha3
   exact ha3.symm
  rw [e3,beq_self_eq_true,cnd_t,ixO_get (by have:=hs.1.1;omega),bs,Int.toNat_natCast]
  rfl
 | some y =>
  obtain ⟨g1,g2⟩:=ht
  have e3:a3 = lt y:=by
   simp only [itk,List.cons.injEq,and_true,true_and] at ha3
   exact ha3.symm
  subst e3
  have hly:=lt_nat (x:=y) (by omega)
  have hne:([lt y] == dg (at0 p.Orders x)) = false:=by
   rw [beq_eq_false_iff_ne]
   intro e
   have:=dg_ne hpx (c:=lt y) (by omega)
   rw [← e] at this
   simp at this
  rw [hne,cnd_f,show (((lt y).toNat:Nat):Int) - 97 = (y:Int) by omega,decide_eq_false (by omega),cnd_f,decide_eq_false (by omega),cnd_f,ixO_d [] (by have:=hs.1.2.1;omega),bs,rng_of (by omega) (by omega),bs,rng_of (by omega) (by omega),bs,show (x:Int) - y - 1 = ((x - y - 1:Nat):Int) by omega,
   ixO_d [] (by have:=hs.1.2.2 y (by omega);omega),bs,Int.toNat_natCast,Int.toNat_natCast]
  rfl
end Go.Pl

namespace Go.Pl
open Go Go.Ab Go.Wk Go.Pc
variable {p:SPr}
theorem jn_shift (a b:UInt8):∀ (xs:List Bs) (x:Bs),jn [a,b] (x :: xs) = jn [a] (x :: xs.map (b :: ·))
 | [],x => by rw [List.map_nil,jn_one,jn_one]
 | y :: xs,x => by
  rw [List.map_cons,jn_cons2,jn_cons2,jn_shift a b xs y,jn_cons,jn_cons]
  simp
theorem txt_spl (h:PresS p):spl 59 (txt p) = ordT p.Orders :: (items p).map fun t => 32 :: itx p t:=by
 unfold txt
 rw [jn_shift,List.map_map]
 refine spl_jn _ _ fun y hy => ?_
 simp only [List.mem_cons] at hy
 rcases hy with rfl | hy
 ·exact ordT_no h (by decide)
 ·obtain ⟨t,ht,rfl⟩:=List.mem_map.1 hy
  have:=itx_no h (okT_items t ht) ((items_ok h).2 t ht) (c:=59) (by decide) (by decide) (by decide)
  simp only [Function.comp,List.mem_cons,not_or]
  exact ⟨by decide,this⟩
theorem trv_shr (O:List Int):Shr O.length ((trv O).Powers,(trv O).Conjugates):=by
 refine ⟨⟨gl_len,gl_len,fun i hi => by simp only [trv];rw [gl_gD hi,gl_len]⟩,fun v hv => ?_,fun r hr v hv => ?_⟩
 ·simp only [trv,gl,List.mem_map,List.mem_range] at hv
  obtain ⟨i,hi,rfl⟩:=hv
  simp
 ·simp only [trv,gl,List.mem_map,List.mem_range] at hr
  obtain ⟨i,hi,rfl⟩:=hr
  simp only [List.mem_map,List.mem_range] at hv
  obtain ⟨k,hk,rfl⟩:=hv
  exact mkv_length _ _
theorem parse_end {x:SPr} (hx:x.Orders.length ≤ 1048576) (t:Bs):∃ b,((f_u x).bind fun r9 => cond (!r9) (some ((⟨[],[],[]⟩:SPr),(6:Int))) ((f_p x).bind fun r10 => cond (!seqB r10 (ba t)) (some (⟨[],[],[]⟩,6)) (some (x,0)))) = some b ∧ (b.2 = 0 → PresS b.1 ∧ t = txt b.1):=by
 rcases IsPresentation_spec hx with ⟨h1,h2⟩ | ⟨h1,h2⟩
 ·rw [h1,bs,Bool.not_true,cnd_f,presText_spec h2,bs,seqB_ba]
  by_cases e:txt x = t
  ·rw [show (txt x == t) = true from beq_iff_eq.2 e,Bool.not_true,cnd_f]
   exact ⟨_,rfl,fun _ => ⟨h2,e.symm⟩⟩
  ·rw [show (txt x == t) = false from beq_eq_false_iff_ne.2 e,Bool.not_false,cnd_t]
   exact ⟨_,rfl,fun e => by simp at e⟩
 ·rw [h1,bs,Bool.not_false,cnd_t]
  exact ⟨_,rfl,fun e => by simp at e⟩
theorem parse_tot {t:Bs} (ht:t.length ≤ 2000000):∃ b,f_S (ba t) = some b ∧ (b.2 = 0 → PresS b.1 ∧ t = txt b.1):=by
 obtain ⟨p1,p2,p3⟩:=spl_parts (c:=59) t
 obtain ⟨x0,xs,hxs⟩:∃ x0 xs,spl 59 t = x0 :: xs:=by
  cases hh:spl 59 t with
  | nil => exact absurd hh p3
  | cons a l => exact ⟨a,l,rfl⟩
 have hx0:=p1 x0 (by rw [hxs];simp)
 unfold f_S
 rw [split_spec (c:=59) (n:=59) rfl ht,bs,show ixO ((spl 59 t).map ba) 0 = some (ba x0) by rw [hxs];rfl,bs]
 obtain ⟨r,h1,h2⟩:=orders_tot (t:=x0) (by omega)
 rw [h1,bs]
 cases hr:r.2 with
 | false => rw [Bool.not_false,cnd_t];exact ⟨_,rfl,fun e => by simp at e⟩
 | true =>
  obtain ⟨h3,h4⟩:=h2 hr
  rw [Bool.not_true,cnd_f,trivial_ok (by omega),bs]
  obtain ⟨q,h5,h6⟩:=loopO_tot (body:=l1_S ((spl 59 t).map ba)) (Q:=fun q => match q with | .inl s => s.1 = r.1 | .inr x => x = ((⟨[],[],[]⟩:SPr),(6:Int)))
   (fun i s => ∃ s':List (List Int) × List (List (List Int)),s = (r.1,s'.1,s'.2,((1 + i:Nat):Int)) ∧ Shr r.1.length s') ((spl 59 t).length - 1) (fun i s hi hs => by
    obtain ⟨s',rfl,hs'⟩:=hs
    have hlt:1 + i < (spl 59 t).length:=by omega
    unfold l1_S
    simp only [List.length_map]
    have hq:=p1 _ (List.getElem_mem hlt)
    obtain ⟨u,u1,u2⟩:=relation_tot h3 rfl h4 (q:=(spl 59 t)[1 + i]) (by omega) hs'
    rw [lt_t hlt,cnd_t,ixO_get (by simpa using hlt),bs,List.getElem_map,u1,bs]
    cases hu:u.2 with
    | false => rw [Bool.not_false,cnd_t];exact .inr ⟨_,rfl,rfl⟩
    | true =>
     obtain ⟨s2,e1,e2⟩:=u2 hu
     rw [Bool.not_true,cnd_f,rng_of (by omega) (by omega),bs,e1]
     exact .inl ⟨_,rfl,s2,by simp only [Prod.mk.injEq,true_and];omega,e2⟩) (fun s hs => by
    obtain ⟨s',rfl,hs'⟩:=hs
    unfold l1_S
    simp only [List.length_map]
    have hpos:0 < (spl 59 t).length:=by rw [hxs];simp
    rw [show 1 + ((spl 59 t).length - 1) = (spl 59 t).length by omega,lt_f,cnd_f]
    exact ⟨_,rfl,rfl⟩) (s:=((trv r.1).Orders,(trv r.1).Powers,(trv r.1).Conjugates,1)) ⟨((trv r.1).Powers,(trv r.1).Conjugates),rfl,trv_shr _⟩
  rw [h5,bs]
  cases q with
  | inl s =>
   simp only at h6 ⊢
   exact parse_end (x:=⟨s.1,s.2.1,s.2.2⟩) (by simp only [h6];omega) t
  | inr x =>
   simp only at h6
   subst h6
   exact ⟨_,rfl,fun e => by simp at e⟩
theorem parse_ok (h:PresS p):f_S (ba (txt p)) = some (p,0):=by
 have hn:=h.n6
 have ht:=txt_len h
 obtain ⟨i1,i2⟩:=items_ok h
 have hend:((f_u p).bind fun r9 => cond (!r9) (some ((⟨[],[],[]⟩:SPr),(6:Int))) ((f_p p).bind fun r10 => cond (!seqB r10 (ba (txt p))) (some (⟨[],[],[]⟩,6)) (some (p,0)))) = some (p,0):=by
  rcases IsPresentation_spec (x:=p) (by omega) with ⟨h1,h2⟩ | ⟨h1,h2⟩
  ·rw [h1,bs,Bool.not_true,cnd_f,presText_spec h,bs,seqB_ba,beq_self_eq_true,Bool.not_true,cnd_f]
  ·exact absurd h h2
 unfold f_S
 rw [split_spec (c:=59) (n:=59) rfl (by omega),bs,txt_spl h]
 rw [show ixO ((ordT p.Orders :: (items p).map fun t => 32 :: itx p t).map ba) 0 = some (ba (ordT p.Orders)) from rfl,bs,orders_ok h,bs]
 simp only
 rw [Bool.not_true,cnd_f,trivial_ok (by omega),bs]
 have:=loopO_seq (body:=l1_S ((ordT p.Orders :: (items p).map fun t => 32 :: itx p t).map ba)) (r:=Sum.inl (p.Orders,p.Powers,p.Conjugates)) (fun i => (p.Orders,(mxd p ((items p).take i)).1,(mxd p ((items p).take i)).2,((1 + i:Nat):Int))) (items p).length (fun i hi => by
  have hm:=List.getElem_mem hi
  unfold l1_S
  simp only [List.length_map,List.length_cons]
  rw [lt_t (by omega),cnd_t,ixO_get (by simp;omega),bs]
  have e:((ordT p.Orders :: (items p).map fun t => 32 :: itx p t).map ba)[1 + i]'(by simp;omega) = ba (32 :: itx p (items p)[i]):=by
   rw [List.getElem_map]
   congr 1
   rw [List.getElem_cons,dif_neg (by omega)]
   simp [show 1 + i - 1 = i by omega]
  rw [e,relation_ok h (okT_items _ hm) (i2 _ hm) (mxd_shr h _),bs,mxd_step (okT_items _ hm)]
  simp only
  rw [Bool.not_true,cnd_f,rng_of (by omega) (by omega),bs,← List.take_succ_eq_append_getElem hi]
  congr 2) (by
  unfold l1_S
  simp only [List.length_map,List.length_cons]
  rw [show 1 + (items p).length = (items p).length + 1 by omega,lt_f,cnd_f,List.take_length,mxd_all h])
 rw [List.take_zero] at this
 rw [show loopO (l1_S ((ordT p.Orders :: (items p).map fun t => 32 :: itx p t).map ba)) ((trv p.Orders).Orders,(trv p.Orders).Powers,(trv p.Orders).Conjugates,1) = some (.inl (p.Orders,p.Powers,p.Conjugates)) from by
  rw [mxd_nil] at this;exact this,bs]
 exact hend
def IsG (t:Bs):Prop:=∃ p,Consistent p ∧ t = txt p
theorem groupText_impl {t:Bs} (ht:t.length ≤ 2000000):IsB (f_aV (ba t)) (IsG t):=by
 obtain ⟨b,h1,h2⟩:=read_tot ht
 unfold f_aV
 rw [h1,bs]
 cases hb:b.2 with
 | true =>
  obtain ⟨h3,h4⟩:=h2 hb
  have hn:=h3.n6
  rw [cnd_t]
  rcases IsConsistent_impl (x:=b.1) (by omega) with ⟨k1,k2⟩ | ⟨k1,k2⟩
  ·rw [k1,bs];exact .inl ⟨rfl,b.1,k2,h4⟩
  ·rw [k1,bs]
   refine .inr ⟨rfl,fun ⟨q,q1,q2⟩ => k2 ?_⟩
   have:=read_ok q1.2.2
   rw [← q2,h1] at this
   cases this
   exact q1
 | false =>
  rw [cnd_f]
  refine .inr ⟨rfl,fun ⟨q,q1,q2⟩ => ?_⟩
  have:=read_ok q1.2.2
  rw [← q2,h1] at this
  cases this
  cases hb
theorem cons_spec (h:PresS p):IsB (f_aN p) (Consistent p):=by
 have hn:=h.n6
 have h1:=Group_spec (x:=p) (by omega)
 unfold f_be at h1
 rcases IsPresentation_spec (x:=p) (by omega) with ⟨k1,k2⟩ | ⟨k1,k2⟩
 ·rw [k1,bs,cnd_t] at h1
  cases hc:f_aN p with
  | none => rw [hc] at h1;rcases h1 with ⟨e,_⟩ | ⟨e,_⟩ <;> cases e
  | some c => rw [hc,bs] at h1;exact h1
 ·exact absurd h k2
theorem groupText_spec {t:Bs} (ht:t.length ≤ 2000000):IsB (f_aW (ba t)) (IsG t):=by
 obtain ⟨b,h1,h2⟩:=parse_tot ht
 unfold f_aW
 rw [h1,bs]
 by_cases hb:b.2 = 0
 ·obtain ⟨h3,h4⟩:=h2 hb
  rw [show (b.2 == 0) = true from beq_iff_eq.2 hb,cnd_t]
  rcases cons_spec h3 with ⟨k1,k2⟩ | ⟨k1,k2⟩
  ·rw [k1,bs];exact .inl ⟨rfl,b.1,k2,h4⟩
  ·rw [k1,bs]
   refine .inr ⟨rfl,fun ⟨q,q1,q2⟩ => k2 ?_⟩
   have:=parse_ok q1.2.2
   rw [← q2,h1] at this
   cases this
   exact q1
 ·rw [show (b.2 == 0) = false from beq_eq_false_iff_ne.2 hb,cnd_f]
  refine .inr ⟨rfl,fun ⟨q,q1,q2⟩ => ?_⟩
  have:=parse_ok q1.2.2
  rw [← q2,h1] at this
  cases this
  exact hb rfl
end Go.Pl
