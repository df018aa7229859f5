/- The program and the reference return the same equivalences of extensions, for all arguments (FnExactEquivalenceOf). This file is a part of the proof. -/
import Derived.Test.YtkifphhpbcgieabGreatAbB
import Derived.Test.YtkifphhpbcgieabGreatWF
namespace Go.Pc
abbrev Vec:=List Int
structure Lvl where
 o:Int
 w:Vec
 cs:List Vec
abbrev Pcp:=List Lvl
def zeros (n:Nat):Vec:=List.replicate n 0
def iter {α:Type}:Nat → (α → α) → α → α
 | 0,_,x => x
 | n + 1,f,x => iter n f (f x)
theorem vE {α:Type} (f:α → α):∀ (n:Nat) (x:α),iter (n + 1) f x = f (iter n f x)
 | 0,_ => rfl
 | n + 1,x => by rw [iter,vE f n (f x)];rfl
theorem zDy {α:Type} (f:α → α) (a:Nat):∀ (b:Nat) (x:α),iter (a + b) f x = iter a f (iter b f x)
 | 0,_ => rfl
 | b + 1,x => by
  show iter (a + b) f (f x) = _
  rw [zDy f a b (f x)];rfl
def img {α:Type} (m:α → α → α):List α → Vec → α → α
 | c :: cs,x :: xs,acc => img m cs xs (iter x.toNat (fun v => m v c) acc)
 | _,_,acc => acc
def V:Pcp → Vec → Prop
 | [],v => v = []
 | l :: P,v => match v with
  | [] => False
  | a :: x => (0 ≤ a ∧ a < l.o) ∧ V P x
def mul:Pcp → Vec → Vec → Vec
 | l :: P,a :: x,b :: y =>
  let r:=mul P (iter b.toNat (fun v => img (mul P) l.cs v (zeros P.length)) x) y
  if a + b ≥ l.o then (a + b - l.o) :: mul P l.w r else (a + b) :: r
 | _,_,_ => []
def Ok:Pcp → Prop
 | [] => True
 | l :: P => 1 < l.o ∧ V P l.w ∧ l.cs.length = P.length ∧ (∀ c ∈ l.cs,V P c) ∧ Ok P
structure Mon {α:Type} (S:α → Prop) (m:α → α → α) (e:α):Prop where
 cl:∀ {a b},S a → S b → S (m a b)
 ein:S e
 assoc:∀ {a b c},S a → S b → S c → m (m a b) c = m a (m b c)
 onel:∀ {a},S a → m e a = a
 oner:∀ {a},S a → m a e = a
structure Grp {α:Type} (S:α → Prop) (m:α → α → α) (e:α):Prop extends Mon S m e where
 inv:∀ {a},S a → ∃ b,S b ∧ m a b = e
theorem Grp.invl {α:Type} {S:α → Prop} {m:α → α → α} {e:α} (h:Grp S m e) {a:α} (ha:S a):∃ b,S b ∧ m a b = e ∧ m b a = e:=by
 obtain ⟨b,hb,h1⟩:=h.inv ha
 obtain ⟨c,hc,h2⟩:=h.inv hb
 refine ⟨b,hb,h1,?_⟩
 have:a = c:=by
  rw [← h.oner ha,← h2,← h.assoc ha hb hc,h1,h.onel hc]
 rw [this];exact h2
theorem Grp.cancel_l {α:Type} {S:α → Prop} {m:α → α → α} {e:α} (h:Grp S m e) {a b c:α} (ha:S a) (hb:S b) (hc:S c) (hh:m a b = m a c):b = c:=by
 obtain ⟨d,hd,_,h2⟩:=h.invl ha
 rw [← h.onel hb,← h.onel hc,← h2,h.assoc hd ha hb,h.assoc hd ha hc,hh]
section
variable {α:Type} {S:α → Prop} {m:α → α → α} {e:α}
def pw (m:α → α → α) (e:α) (x:α) (k:Nat):α:=iter k (fun v => m v x) e
theorem uS (h:Mon S m e) {x:α} (hx:S x):∀ k,S (pw m e x k)
 | 0 => h.ein
 | k + 1 => by rw [pw,vE];exact h.cl (uS h hx k) hx
theorem wZ {f:α → α} (hf:∀ a,S a → S (f a)):∀ (k:Nat) {x:α},S x → S (iter k f x)
 | 0,_,hx => hx
 | k + 1,_,hx => wZ hf k (hf _ hx)
theorem zDz (h:Mon S m e) {x a:α} (hx:S x) (ha:S a):∀ k,iter k (fun v => m v x) a = m a (pw m e x k)
 | 0 => (h.oner ha).symm
 | k + 1 => by
  rw [vE,zDz h hx ha k]
  show _ = m a (iter (k + 1) (fun v => m v x) e)
  rw [vE]
  exact h.assoc ha (uS h hx k) hx
theorem zFU (h:Mon S m e) {x:α} (hx:S x) (a b:Nat):pw m e x (a + b) = m (pw m e x a) (pw m e x b):=by
 rw [Nat.add_comm,pw,zDy,← zDz h hx (uS h hx a) b];rfl
theorem zPG (h:Mon S m e) {x:α} (hx:S x):pw m e x 1 = x:=h.onel hx
theorem zPH (h:Mon S m e) {x:α} (hx:S x) (k:Nat):pw m e x (k + 1) = m x (pw m e x k):=by
 rw [Nat.add_comm,zFU h hx 1 k,zPG h hx]
theorem sS (h:∀ {a b},S a → S b → S (m a b)):∀ (cs:List α) (x:Vec) {a:α},(∀ c ∈ cs,S c) → S a → S (img m cs x a)
 | c :: cs,x :: xs,_,hc,ha => by
  simp only [img]
  exact sS h cs xs (fun c h => hc c (by simp [h])) (wZ (fun a ha => h ha (hc c (by simp))) _ ha)
 | [],_,_,_,ha => by simpa [img] using ha
 | _ :: _,[],_,_,ha => by simpa [img] using ha
theorem zEk (h:Mon S m e) (cs:List α) (x:Vec) {a:α} (hc:∀ c ∈ cs,S c) (ha:S a):S (img m cs x a):=sS h.cl cs x hc ha
theorem zD0 (h:Mon S m e):∀ (cs:List α) (x:Vec) {a:α},(∀ c ∈ cs,S c) → S a → img m cs x a = m a (img m cs x e)
 | c :: cs,x :: xs,a,hc,ha => by
  have h1:S c:=hc c (by simp)
  have h2:∀ c ∈ cs,S c:=fun c h => hc c (by simp [h])
  simp only [img]
  rw [zDz h h1 ha,zD0 h cs xs h2 (h.cl ha (uS h h1 _)),zDz h h1 h.ein,zD0 h cs xs h2 (h.cl h.ein (uS h h1 _)),h.onel (uS h h1 _),
   h.assoc ha (uS h h1 _) (zEk h cs xs h2 h.ein)]
 | [],_,a,_,ha => by simp [img,h.oner ha]
 | _ :: _,[],a,_,ha => by simp [img,h.oner ha]
theorem tX (h:Mon S m e) {c:α} {cs:List α} {x:Int} {xs:Vec} (hc:S c) (hcs:∀ c ∈ cs,S c):img m (c :: cs) (x :: xs) e = m (pw m e c x.toNat) (img m cs xs e):=by
 simp only [img]
 rw [zD0 h cs xs hcs (wZ (fun a ha => h.cl ha hc) _ h.ein)]
 rfl
theorem zAA (m:α → α → α):∀ (cs:List α) (n:Nat) (a:α),img m cs (zeros n) a = a
 | [],_,_ => by simp [img]
 | _ :: _,0,_ => by simp [zeros,img]
 | c :: cs,n + 1,a => by
  simp only [zeros,List.replicate_succ,img,Int.toNat_zero,iter]
  exact zAA m cs n a
theorem zFV (h:Mon S m e) {g:α} (hg:S g):∀ (cs ds:List α) (x:Vec),(∀ c ∈ cs,S c) → (∀ c ∈ ds,S c) → cs.length = ds.length → (∀ (k:Nat) c d,cs[k]? = some c → ds[k]? = some d → m c g = m g d) → m (img m cs x e) g = m g (img m ds x e)
 | [],[],x,_,_,_,_ => by simp [img,h.onel hg,h.oner hg]
 | c :: cs,d :: ds,[],_,_,_,_ => by simp [img,h.onel hg,h.oner hg]
 | c :: cs,d :: ds,x :: xs,hc,hd,hl,hp => by
  have hc0:S c:=hc c (by simp)
  have hd0:S d:=hd d (by simp)
  have hcs:∀ c ∈ cs,S c:=fun c h => hc c (by simp [h])
  have hds:∀ c ∈ ds,S c:=fun c h => hd c (by simp [h])
  have key:∀ k,m (pw m e c k) g = m g (pw m e d k):=by
   intro k
   induction k with
   | zero => simp [pw,iter,h.onel hg,h.oner hg]
   | succ k ih =>
    have h0:m c g = m g d:=hp 0 c d rfl rfl
    rw [pw,vE,pw,vE]
    show m (m (pw m e c k) c) g = m g (m (pw m e d k) d)
    rw [h.assoc (uS h hc0 k) hc0 hg,h0,← h.assoc (uS h hc0 k) hg hd0,ih,h.assoc hg (uS h hd0 k) hd0]
  rw [tX h hc0 hcs,tX h hd0 hds,h.assoc (uS h hc0 _) (zEk h _ _ hcs h.ein) hg,zFV h hg cs ds xs hcs hds (by simpa using hl) (fun k c d h1 h2 => hp (k + 1) c d (by simpa using h1) (by simpa using h2)),
   ← h.assoc (uS h hc0 _) hg (zEk h _ _ hds h.ein),key,h.assoc hg (uS h hd0 _) (zEk h _ _ hds h.ein)]
theorem zMQ {β:Type} {T:β → Prop} {n:β → β → β} {f:β} (h:Mon S m e) (h':Mon T n f) (φ:α → β) (hin:∀ a,S a → T (φ a)) (h1:φ e = f) (hm:∀ a b,S a → S b → φ (m a b) = n (φ a) (φ b)):∀ (cs:List α) (x:Vec),(∀ c ∈ cs,S c) → φ (img m cs x e) = img n (cs.map φ) x f
 | [],_,_ => by simp [img,h1]
 | c :: cs,[],_ => by simp [img,h1]
 | c :: cs,x :: xs,hc => by
  have hc0:S c:=hc c (by simp)
  have hcs:∀ c ∈ cs,S c:=fun c h => hc c (by simp [h])
  have key:∀ k,φ (pw m e c k) = pw n f (φ c) k:=by
   intro k
   induction k with
   | zero => simp [pw,iter,h1]
   | succ k ih =>
    rw [pw,vE,pw,vE]
    show φ (m (pw m e c k) c) = n (pw n f (φ c) k) (φ c)
    rw [hm _ _ (uS h hc0 k) hc0,ih]
  rw [tX h hc0 hcs,List.map_cons,tX h' (hin c hc0) (by simp only [List.mem_map];rintro _ ⟨c,hc',rfl⟩;exact hin c (hcs c hc')),hm _ _ (uS h hc0 _) (zEk h _ _ hcs h.ein),key,zMQ h h' φ hin h1 hm cs xs hcs]
end
theorem wH:∀ {P:Pcp},Ok P → V P (zeros P.length)
 | [],_ => rfl
 | l :: P,h => by
  simp only [Ok] at h
  simp only [List.length_cons,zeros,List.replicate_succ,V]
  exact ⟨by omega,wH h.2.2.2.2⟩
theorem xJ:∀ {P:Pcp},Ok P → ∀ {x y:Vec},V P x → V P y → V P (mul P x y)
 | [],_,_,_,hx,hy => by simp [mul,V]
 | l :: P,h,[],_,hx,_ => by simp [V] at hx
 | l :: P,h,_ :: _,[],_,hy => by simp [V] at hy
 | l :: P,h,a :: x,b :: y,hx,hy => by
  simp only [Ok] at h
  simp only [V] at hx hy
  have h1:∀ v,V P v → V P (img (mul P) l.cs v (zeros P.length)):=fun v hv => sS (xJ h.2.2.2.2) l.cs v h.2.2.2.1 (wH h.2.2.2.2)
  have h2:=xJ h.2.2.2.2 (wZ h1 b.toNat hx.2) hy.2
  simp only [mul]
  split
  ·exact ⟨by omega,xJ h.2.2.2.2 h.2.1 h2⟩
  ·exact ⟨by omega,h2⟩
def Rel {α:Type} (m:α → α → α) (e:α):Pcp → List α → Prop
 | [],s => s = []
 | l :: P,s => match s with
  | [] => False
  | g :: s => pw m e g l.o.toNat = img m s l.w e ∧ (∀ (k:Nat) c d,s[k]? = some c → l.cs[k]? = some d → m c g = m g (img m s d e)) ∧ Rel m e P s
section
variable {α:Type} {S:α → Prop} {m:α → α → α} {e:α}
theorem zWR (h:Mon S m e):∀ (P:Pcp) (s:List α),Ok P → (∀ g ∈ s,S g) → Rel m e P s → ∀ x y,V P x → V P y → img m s (mul P x y) e = m (img m s x e) (img m s y e)
 | [],s,_,_,hr,x,y,hx,hy => by
  simp only [Rel] at hr
  subst hr
  simp [img,h.onel h.ein]
 | l :: P,[],_,_,hr,_,_,_,_ => by simp [Rel] at hr
 | l :: P,g :: s,_,_,_,[],_,hx,_ => by simp [V] at hx
 | l :: P,g :: s,_,_,_,_ :: _,[],_,hy => by simp [V] at hy
 | l :: P,g :: s,hk,hs,hr,a :: x,b :: y,hx,hy => by
  simp only [Ok] at hk
  simp only [Rel] at hr
  simp only [V] at hx hy
  obtain ⟨ho,hw,hcl,hcs,hkP⟩:=hk
  obtain ⟨hr1,hr2,hr3⟩:=hr
  have hg:S g:=hs g (by simp)
  have hss:∀ c ∈ s,S c:=fun c hc => hs c (by simp [hc])
  have hlen:s.length = P.length:=by
   clear hr1 hr2 hx hy hw hcl hcs hs hss
   induction P generalizing s with
   | nil => simp only [Rel] at hr3;simp [hr3]
   | cons l P ih =>
    cases s with
    | nil => simp [Rel] at hr3
    | cons c s => simp only [Rel] at hr3;simp only [Ok] at hkP;simp [ih s hkP.2.2.2.2 hr3.2.2]
  have ih:=zWR h P s hkP hss hr3
  have hφ:∀ v,S (img m s v e):=fun v => zEk h s v hss h.ein
  have hmP:∀ {a b},V P a → V P b → V P (mul P a b):=xJ hkP
  have hσin:∀ v,V P v → V P (img (mul P) l.cs v (zeros P.length)):=fun v hv => sS hmP l.cs v hcs (wH hkP)
  have hσ:∀ v,V P v → m (img m s v e) g = m g (img m s (img (mul P) l.cs v (zeros P.length)) e):=by
   intro v hv
   have key:∀ (cs:List Vec) (v:Vec) (acc:Vec),(∀ c ∈ cs,V P c) → V P acc → img m s (img (mul P) cs v acc) e = img m (cs.map fun c => img m s c e) v (img m s acc e):=by
    intro cs
    induction cs with
    | nil => intro v acc _ _;simp [img]
    | cons c cs ihc =>
     intro v acc hc hacc
     cases v with
     | nil => simp [img]
     | cons z v =>
      have hc0:V P c:=hc c (by simp)
      have it:∀ k acc,V P acc → img m s (iter k (fun v => mul P v c) acc) e = iter k (fun v => m v (img m s c e)) (img m s acc e):=by
       intro k
       induction k with
       | zero => intro acc _;rfl
       | succ k ihk =>
        intro acc hacc
        simp only [iter]
        rw [ihk _ (hmP hacc hc0),ih _ _ hacc hc0]
      simp only [img,List.map_cons]
      rw [ihc v _ (fun c h => hc c (by simp [h])) (wZ (fun a ha => hmP ha hc0) _ hacc),it _ _ hacc]
   rw [key l.cs v (zeros P.length) hcs (wH hkP),zAA]
   refine zFV h hg s _ v hss (by simp only [List.mem_map];rintro _ ⟨c,_,rfl⟩;exact hφ c) (by simp [hlen,hcl]) ?_
   intro k c d hc hd
   simp only [List.getElem?_map,Option.map_eq_some_iff] at hd
   obtain ⟨d',hd',rfl⟩:=hd
   exact hr2 k c d' hc hd'
  have hσk:∀ k v,V P v → m (img m s v e) (pw m e g k) = m (pw m e g k) (img m s (iter k (fun v => img (mul P) l.cs v (zeros P.length)) v) e):=by
   intro k
   induction k with
   | zero => intro v _;simp [pw,iter,h.onel (hφ v),h.oner (hφ v)]
   | succ k ihk =>
    intro v hv
    rw [zPH h hg,← h.assoc (hφ v) hg (uS h hg k),hσ v hv,h.assoc hg (hφ _) (uS h hg k),ihk _ (hσin v hv),← h.assoc hg (uS h hg k) (hφ _)]
    rfl
  have hpa:=uS h hg a.toNat
  have hpb:=uS h hg b.toNat
  have hit:V P (iter b.toNat (fun v => img (mul P) l.cs v (zeros P.length)) x):=wZ hσin _ hx.2
  have hmain:m (img m (g :: s) (a :: x) e) (img m (g :: s) (b :: y) e) = m (pw m e g (a.toNat + b.toNat)) (img m s (mul P (iter b.toNat (fun v => img (mul P) l.cs v (zeros P.length)) x) y) e):=by
   rw [tX h hg hss,tX h hg hss,h.assoc hpa (hφ x) (h.cl hpb (hφ y)),← h.assoc (hφ x) hpb (hφ y),hσk _ _ hx.2,h.assoc hpb (hφ _) (hφ y),← ih _ _ hit hy.2,← h.assoc hpa hpb (hφ _),zFU h hg]
  rw [hmain]
  simp only [mul]
  split
  ·rename_i hge
   rw [tX h hg hss,ih _ _ hw (hmP hit hy.2),← hr1,← h.assoc (uS h hg _) (uS h hg _) (hφ _),← zFU h hg]
   congr 2
   omega
  ·rw [tX h hg hss]
   congr 2
   omega
end
def wJ (n j:Nat):Vec:=(zeros n).set j 1
def sig (P:Pcp) (l:Lvl) (v:Vec):Vec:=img (mul P) l.cs v (zeros P.length)
def vC:Pcp → Prop
 | [] => True
 | l :: P => vC P ∧ Rel (mul P) (zeros P.length) P l.cs ∧ sig P l l.w = l.w ∧ ∀ j,j < P.length → mul P l.w (iter l.o.toNat (sig P l) (wJ P.length j)) = mul P (wJ P.length j) l.w
theorem zH1 (n:Nat):wJ (n + 1) 0 = 1 :: zeros n:=rfl
theorem zNF (n j:Nat):wJ (n + 1) (j + 1) = 0 :: wJ n j:=rfl
def xM (n:Nat):List Vec:=(List.range n).map (wJ n)
theorem zLd (n:Nat):xM (n + 1) = (1 :: zeros n) :: (xM n).map (0 :: ·):=by
 simp only [xM,List.range_succ_eq_map,List.map_cons,List.map_map,zH1]
 congr 1
theorem zCV:∀ {P:Pcp},Ok P → ∀ {j:Nat},j < P.length → V P (wJ P.length j)
 | [],_,_,hj => by simp at hj
 | l :: P,h,0,_ => by
  simp only [Ok] at h
  rw [List.length_cons,zH1];simp only [V];exact ⟨by omega,wH h.2.2.2.2⟩
 | l :: P,h,j + 1,hj => by
  simp only [Ok] at h
  rw [List.length_cons,zNF];simp only [V];exact ⟨by omega,zCV h.2.2.2.2 (by simpa using hj)⟩
theorem zEl {l:Lvl} {P:Pcp} (h:Ok (l :: P)) {v:Vec} (_hv:V P v):V P (sig P l v):=by
 simp only [Ok] at h
 exact sS (xJ h.2.2.2.2) l.cs v h.2.2.2.1 (wH h.2.2.2.2)
theorem yR (l:Lvl) (P:Pcp) (a b:Int) (x y:Vec):mul (l :: P) (a :: x) (b :: y) = if a + b ≥ l.o then (a + b - l.o) :: mul P l.w (mul P (iter b.toNat (sig P l) x) y) else (a + b) :: mul P (iter b.toNat (sig P l) x) y:=rfl
theorem zNG {n k:Nat} {c:Vec} (h:(xM n)[k]? = some c):k < n ∧ c = wJ n k:=by
 simp only [xM,List.getElem?_map,Option.map_eq_some_iff] at h
 obtain ⟨j,hj,rfl⟩:=h
 obtain ⟨hk,rfl⟩:=List.getElem?_eq_some_iff.1 hj
 simp at hk
 exact ⟨hk,by simp⟩
theorem normal:∀ (P:Pcp),Ok P → (∀ Q,Q <:+ P → Mon (V Q) (mul Q) (zeros Q.length)) → ∀ x,V P x → img (mul P) (xM P.length) x (zeros P.length) = x
 | [],_,_,x,hx => by simp only [V] at hx;subst hx;simp [xM,img,zeros]
 | l :: P,_,_,[],hx => by simp [V] at hx
 | l :: P,h,hM,a :: x,hx => by
  have hMl:=hM (l :: P) (List.suffix_refl _)
  have hMP:=hM P (List.suffix_cons _ _)
  have h':=h
  simp only [Ok] at h
  simp only [V] at hx
  rw [List.length_cons,zLd]
  have hz:V P (zeros P.length):=wH h.2.2.2.2
  have hu0:V (l :: P) (1 :: zeros P.length):=by simp only [V];exact ⟨by omega,hz⟩
  have hus:∀ c ∈ (xM P.length).map (0 :: ·),V (l :: P) c:=by
   intro c hc
   simp only [xM,List.map_map,List.mem_map,List.mem_range] at hc
   obtain ⟨j,hj,rfl⟩:=hc
   simp only [Function.comp,V]
   exact ⟨by omega,zCV h.2.2.2.2 hj⟩
  have hzl:V (l :: P) (zeros (P.length + 1)):=wH (P:=l :: P) h'
  rw [show zeros (P.length + 1) = zeros (l :: P).length from rfl]
  rw [tX hMl hu0 hus]
  have sz:∀ k:Nat,iter k (sig P l) (zeros P.length) = zeros P.length:=by
   intro k
   induction k with
   | zero => rfl
   | succ k ih => simp only [iter];rw [show sig P l (zeros P.length) = zeros P.length from zAA _ _ _ _];exact ih
  have h1:∀ k:Nat,(k:Int) < l.o → pw (mul (l :: P)) (zeros (l :: P).length) (1 :: zeros P.length) k = (k:Int) :: zeros P.length:=by
   intro k
   induction k with
   | zero => intro _;rfl
   | succ k ih =>
    intro hk
    rw [pw,vE]
    show mul (l :: P) (pw (mul (l :: P)) (zeros (l :: P).length) (1 :: zeros P.length) k) (1 :: zeros P.length) = _
    rw [ih (by omega),yR,if_neg (by omega)]
    rw [sz,hMP.onel hz]
    rfl
  have h2:∀ (cs:List Vec) (y acc:Vec),(∀ c ∈ cs,V P c) → V P acc → img (mul (l :: P)) (cs.map (0 :: ·)) y (0 :: acc) = 0 :: img (mul P) cs y acc:=by
   intro cs
   induction cs with
   | nil => intro y acc _ _;simp [img]
   | cons c cs ih =>
    intro y acc hc hacc
    cases y with
    | nil => simp [img]
    | cons z y =>
     have hc0:V P c:=hc c (by simp)
     have it:∀ (k:Nat) (acc:Vec),V P acc → iter k (fun v => mul (l :: P) v (0 :: c)) (0 :: acc) = 0 :: iter k (fun v => mul P v c) acc:=by
      intro k
      induction k with
      | zero => intro _ _;rfl
      | succ k ihk =>
       intro acc hacc
       simp only [iter]
       rw [yR,if_neg (by omega)]
       exact ihk _ (xJ h.2.2.2.2 hacc hc0)
     simp only [List.map_cons,img]
     rw [it _ _ hacc,ih _ _ (fun c h => hc c (by simp [h])) (wZ (fun a ha => xJ h.2.2.2.2 ha hc0) _ hacc)]
  have hun:∀ c ∈ xM P.length,V P c:=by
   intro c hc
   simp only [xM,List.mem_map,List.mem_range] at hc
   obtain ⟨j,hj,rfl⟩:=hc
   exact zCV h.2.2.2.2 hj
  rw [h1 a.toNat (by omega),show zeros (l :: P).length = 0 :: zeros P.length from rfl,h2 _ _ _ hun hz,normal P h.2.2.2.2 (fun Q hQ => hM Q (hQ.trans (List.suffix_cons _ _))) x hx.2,yR,if_neg (by omega)]
  simp only [Int.toNat_zero,iter]
  rw [hMP.onel hx.2]
  congr 1
  omega
theorem zMR:∀ (P:Pcp),Ok P → vC P → Grp (V P) (mul P) (zeros P.length)
 | [],_,_ => by
  refine ⟨⟨fun _ _ => rfl,rfl,fun _ _ _ => rfl,?_,?_⟩,fun ha => ⟨[],rfl,rfl⟩⟩ <;>
  ·intro a ha
   simp only [V] at ha;subst ha;rfl
 | l :: P,h,hc => by
  have h':=h
  simp only [Ok] at h
  simp only [vC] at hc
  obtain ⟨ho,hw,hcl,hcs,hP⟩:=h
  obtain ⟨hcP,hrel,hfix,hinn⟩:=hc
  have N:=zMR P hP hcP
  have hM:∀ Q,Q <:+ P → Mon (V Q) (mul Q) (zeros Q.length):=by
   intro Q hQ
   obtain ⟨t,ht⟩:=hQ
   have:Ok Q ∧ vC Q:=by
    clear N hw hcl hcs hrel hfix hinn h'
    induction t generalizing P with
    | nil => simp at ht;subst ht;exact ⟨hP,hcP⟩
    | cons a t ih =>
     simp at ht;subst ht
     simp only [Ok] at hP
     simp only [vC] at hcP
     exact ih (t ++ Q) hP.2.2.2.2 hcP.1 rfl
   have hlt:SizeOf.sizeOf Q ≤ SizeOf.sizeOf P:=by
    rw [← ht]
    clear N hw hcl hcs hrel hfix hinn h' hP hcP ht this
    induction t with
    | nil => simp
    | cons a t ih => simp only [List.cons_append,List.cons.sizeOf_spec];omega
   exact (zMR Q this.1 this.2).toMon
  have hz:V P (zeros P.length):=wH hP
  have σin:∀ v,V P v → V P (sig P l v):=fun _ hv => zEl h' hv
  have σhom:∀ x y,V P x → V P y → sig P l (mul P x y) = mul P (sig P l x) (sig P l y):=fun x y hx hy => zWR N.toMon P l.cs hP hcs hrel x y hx hy
  have σz:sig P l (zeros P.length) = zeros P.length:=zAA _ _ _ _
  have itin:∀ (k:Nat) v,V P v → V P (iter k (sig P l) v):=fun k v hv => wZ σin k hv
  have ithom:∀ (k:Nat) x y,V P x → V P y → iter k (sig P l) (mul P x y) = mul P (iter k (sig P l) x) (iter k (sig P l) y):=by
   intro k
   induction k with
   | zero => intro _ _ _ _;rfl
   | succ k ih => intro x y hx hy;simp only [iter];rw [σhom x y hx hy,ih _ _ (σin x hx) (σin y hy)]
  have itz:∀ k:Nat,iter k (sig P l) (zeros P.length) = zeros P.length:=by
   intro k
   induction k with
   | zero => rfl
   | succ k ih => simp only [iter];rw [σz];exact ih
  have itw:∀ k:Nat,iter k (sig P l) l.w = l.w:=by
   intro k
   induction k with
   | zero => rfl
   | succ k ih => simp only [iter];rw [hfix];exact ih
  have hun:∀ c ∈ xM P.length,V P c:=by
   intro c hc
   simp only [xM,List.mem_map,List.mem_range] at hc
   obtain ⟨j,hj,rfl⟩:=hc
   exact zCV hP hj
  have inner:∀ x,V P x → mul P x l.w = mul P l.w (iter l.o.toNat (sig P l) x):=by
   intro x hx
   have hnf:=normal P hP hM x hx
   have hmap:=zMQ N.toMon N.toMon (iter l.o.toNat (sig P l)) (fun a ha => itin _ a ha) (itz _) (fun a b ha hb => ithom _ a b ha hb) (xM P.length) x hun
   rw [← hnf,hmap]
   refine zFV N.toMon hw _ _ x hun (by simp only [List.mem_map];rintro _ ⟨c,hc,rfl⟩;exact itin _ c (hun c hc)) (by simp) ?_
   intro k c d hc hd
   rw [List.getElem?_map,Option.map_eq_some_iff] at hd
   obtain ⟨c',hc',rfl⟩:=hd
   rw [hc] at hc'
   simp at hc';subst hc'
   obtain ⟨hk,rfl⟩:=zNG hc
   exact (hinn k hk).symm
  have e:∀ (x y z:Vec) (b c:Int),V P x → V P y → V P z → 0 ≤ b → 0 ≤ c →
    mul P (iter c.toNat (sig P l) (mul P (iter b.toNat (sig P l) x) y)) z = mul P (iter (b + c).toNat (sig P l) x) (mul P (iter c.toNat (sig P l) y) z) ∧
    mul P (iter c.toNat (sig P l) (mul P l.w (mul P (iter b.toNat (sig P l) x) y))) z = mul P l.w (mul P (iter (b + c).toNat (sig P l) x) (mul P (iter c.toNat (sig P l) y) z)) ∧
    (l.o ≤ b + c → mul P (iter (b + c - l.o).toNat (sig P l) x) (mul P l.w (mul P (iter c.toNat (sig P l) y) z)) = mul P l.w (mul P (iter (b + c).toNat (sig P l) x) (mul P (iter c.toNat (sig P l) y) z))):=by
   intro x y z b c hx hy hz hb hcc
   have hbx:=itin b.toNat x hx
   have hcy:=itin c.toNat y hy
   have hbc:iter c.toNat (sig P l) (iter b.toNat (sig P l) x) = iter (b + c).toNat (sig P l) x:=by
    rw [← zDy];congr 1;omega
   have hbcx:=itin (b + c).toNat x hx
   have e1:mul P (iter c.toNat (sig P l) (mul P (iter b.toNat (sig P l) x) y)) z = mul P (iter (b + c).toNat (sig P l) x) (mul P (iter c.toNat (sig P l) y) z):=by
    rw [ithom _ _ _ hbx hy,hbc,N.assoc hbcx hcy hz]
   refine ⟨e1,?_,?_⟩
   ·rw [ithom _ _ _ hw (N.cl hbx hy),itw,N.assoc hw (itin _ _ (N.cl hbx hy)) hz,e1]
   ·intro hge
    have hcyz:=N.cl hcy hz
    rw [← N.assoc (itin _ x hx) hw hcyz,inner _ (itin _ x hx),← zDy,N.assoc hw (itin _ x hx) hcyz]
    congr 3
    omega
  refine ⟨⟨fun ha hb => xJ h' ha hb,wH h',?_,?_,?_⟩,?_⟩
  ·intro A B C hA hB hC
   match A,B,C,hA,hB,hC with
   | a :: x,b :: y,c :: z,hA,hB,hC =>
    simp only [V] at hA hB hC
    obtain ⟨e1,e2,e3⟩:=e x y z b c hA.2 hB.2 hC.2 hB.1.1 hC.1.1
    by_cases c1:a + b ≥ l.o <;> by_cases c2:b + c ≥ l.o
    ·rw [yR,if_pos c1,yR l P b c,if_pos c2,yR,yR,e2,e3 c2]
     by_cases c3:a + b - l.o + c ≥ l.o
     ·rw [if_pos c3,if_pos (by omega)];congr 1;omega
     ·rw [if_neg c3,if_neg (by omega)];congr 1;omega
    ·rw [yR,if_pos c1,yR l P b c,if_neg c2,yR,yR,e2,if_neg (by omega),if_pos (by omega)]
     congr 1;omega
    ·rw [yR,if_neg c1,yR l P b c,if_pos c2,yR,yR,e1,e3 c2,if_pos (by omega),if_neg (by omega)]
     congr 1;omega
    ·rw [yR,if_neg c1,yR l P b c,if_neg c2,yR,yR,e1]
     by_cases c3:a + b + c ≥ l.o
     ·rw [if_pos c3,if_pos (by omega)];congr 1;omega
     ·rw [if_neg c3,if_neg (by omega)];congr 1;omega
  ·intro A hA
   match A,hA with
   | a :: x,hA =>
    simp only [V] at hA
    show mul (l :: P) (0 :: zeros P.length) (a :: x) = _
    rw [yR,if_neg (by omega),itz,N.onel hA.2,Int.zero_add]
  ·intro A hA
   match A,hA with
   | a :: x,hA =>
    simp only [V] at hA
    show mul (l :: P) (a :: x) (0 :: zeros P.length) = _
    rw [yR,if_neg (by omega)]
    simp only [Int.toNat_zero,iter]
    rw [N.oner hA.2,Int.add_zero]
  ·intro A hA
   match A,hA with
   | a :: x,hA =>
    simp only [V] at hA
    by_cases ha:a = 0
    ·obtain ⟨y,hy,h1⟩:=N.inv hA.2
     refine ⟨0 :: y,by simp only [V];exact ⟨by omega,hy⟩,?_⟩
     rw [yR,if_neg (by omega)]
     simp only [Int.toNat_zero,iter]
     rw [h1,ha];rfl
    ·have hx1:=itin (l.o - a).toNat x hA.2
     obtain ⟨y,hy,h1⟩:=N.inv (N.cl hw hx1)
     refine ⟨(l.o - a) :: y,by simp only [V];exact ⟨by omega,hy⟩,?_⟩
     rw [yR,if_pos (by omega),← N.assoc hw hx1 hy,h1,show a + (l.o - a) - l.o = 0 by omega]
     rfl
termination_by P => P
end Go.Pc

namespace Go.Pl
open Go Go.Ab
theorem bs {α β:Type} (x:α) (f:α → Option β):(some x).bind f = f x:=by simp only [Option.bind_some]
theorem zJ {α:Type} (x y:α):cond true x y = x:=by simp only [cond_true]
theorem zF {α:Type} (x y:α):cond false x y = y:=by simp only [cond_false]
theorem zD {n:Int} (h1:-9223372036854775808 ≤ n) (h2:n ≤ 9223372036854775807):rng n = some n:=by
 unfold rng
 rw [if_pos]
 simp only [inR,Bool.and_eq_true,decide_eq_true_eq]
 omega
theorem vA {α:Type} (xs:List α) (i:Nat):ixO xs (i:Int) = xs[i]?:=by
 unfold ixO;rw [if_pos (by omega)];simp
theorem jU {α:Type} {xs:List α} {i:Nat} (h:i < xs.length):ixO xs (i:Int) = some xs[i]:=by
 rw [vA];exact List.getElem?_eq_getElem h
theorem yT {n:Nat} (h:n ≤ 68719476736):yZ (n:Int) = some n:=by
 unfold yZ;rw [if_pos (by omega)];simp
theorem yM {α:Type} {xs ys:List α} (h:xs.length + ys.length ≤ 68719476736):xQ xs ys = some (xs ++ ys):=by
 unfold xQ;rw [if_pos h]
theorem zO {σ ρ:Type} {body:σ → Option (σ ⊕ ρ)} {r:ρ} (S:Nat → σ) (n:Nat) (h:∀ i,i < n → body (S i) = some (.inl (S (i + 1)))) (he:body (S n) = some (.inr r)):zH body (S 0) = some r:=by
 have key:∀ k i,i + k = n → zH body (S i) = some r:=by
  intro k
  induction k with
  | zero => intro i hi;rw [xG,show i = n from by omega,he]
  | succ k ih => intro i hi;rw [xG,h i (by omega)];exact ih (i + 1) (by omega)
 exact key n 0 (by omega)
theorem vQ {σ ρ:Type} {body:σ → Option (σ ⊕ ρ)} {Q:ρ → Prop} (I:Nat → σ → Prop) (n:Nat) (h:∀ i s,i < n → I i s → (∃ s',body s = some (.inl s') ∧ I (i + 1) s') ∨ ∃ r,body s = some (.inr r) ∧ Q r)
  (he:∀ s,I n s → ∃ r,body s = some (.inr r) ∧ Q r) {s:σ} (h0:I 0 s):∃ r,zH body s = some r ∧ Q r:=by
 have key:∀ k i s,i + k = n → I i s → ∃ r,zH body s = some r ∧ Q r:=by
  intro k
  induction k with
  | zero =>
   intro i s hi hs
   obtain rfl:i = n:=by omega
   obtain ⟨r,h1,h2⟩:=he s hs
   exact ⟨r,by rw [xG,h1],h2⟩
  | succ k ih =>
   intro i s hi hs
   rcases h i s (by omega) hs with ⟨s',h1,h2⟩ | ⟨r,h1,h2⟩
   ·rw [xG,h1];exact ih (i + 1) s' (by omega) h2
   ·exact ⟨r,by rw [xG,h1],h2⟩
 exact key n 0 s (by omega) h0
def zMS {ρ:Type}:Option ρ → Unit ⊕ ρ
 | none => .inl ()
 | some r => .inr r
theorem cs (i:Nat):(i:Int) + 1 = ((i + 1:Nat):Int):=by omega
theorem zNH {ρ:Type} {body:Int → Option (Int ⊕ (Unit ⊕ ρ))} (n:Nat) (t:Nat → Option ρ) (i0:Nat) (hn:i0 ≤ n)
  (h:∀ i,i0 ≤ i → i < n → (∀ j,i0 ≤ j → j < i → t j = none) → body (i:Int) = some (match t i with | none => .inl ((i + 1:Nat):Int) | some r => .inr (.inr r)))
  (he:(∀ j,i0 ≤ j → j < n → t j = none) → body (n:Int) = some (.inr (.inl ()))) :
  zH body (i0:Int) = some (zMS ((List.range' i0 (n - i0)).findSome? t)):=by
 have key:∀ k i,i0 ≤ i → i + k = n → (∀ j,i0 ≤ j → j < i → t j = none) → zH body (i:Int) = some (zMS ((List.range' i k).findSome? t)):=by
  intro k
  induction k with
  | zero =>
   intro i hi hk hp
   obtain rfl:i = n:=by omega
   rw [xG,he hp];rfl
  | succ k ih =>
   intro i hi hk hp
   rw [xG,h i hi (by omega) hp,List.range'_succ,List.findSome?_cons]
   cases ht:t i with
   | some r => rfl
   | none =>
    simp only
    exact ih (i + 1) (by omega) (by omega) fun j h1 h2 => by
     rcases Nat.lt_or_ge j i with h3 | h3
     ·exact hp j h1 h3
     ·rw [show j = i from by omega];exact ht
 exact key (n - i0) i0 (Nat.le_refl _) (by omega) fun j h1 h2 => by omega
theorem zPI {n:Nat} {b:Nat → Bool}:zMS ((List.range' 0 n).findSome? (fun i => if b i then none else some false)) = if (List.range n).all b then .inl () else .inr false:=by
 have key:∀ l:List Nat,zMS (l.findSome? (fun i => if b i then none else some false)) = if l.all b then .inl () else .inr false:=by
  intro l
  induction l with
  | nil => rfl
  | cons x l ih =>
   rw [List.findSome?_cons,List.all_cons]
   cases hb:b x
   ·rfl
   ·simpa using ih
 rw [key,List.range_eq_range']
theorem zNI {body:Int → Option (Int ⊕ (Unit ⊕ Bool))} (n:Nat) (b:Nat → Bool)
  (h:∀ i,i < n → (∀ j,j < i → b j = true) → body (i:Int) = some (if b i then .inl ((i + 1:Nat):Int) else .inr (.inr false)))
  (he:(∀ j,j < n → b j = true) → body (n:Int) = some (.inr (.inl ()))) :
  zH body 0 = some (if (List.range n).all b then .inl () else .inr false):=by
 have:=zNH (body:=body) n (fun i => if b i then none else some false) 0 (Nat.zero_le _) (fun i _ hi hp => by
  rw [h i hi fun j hj => by
   have:=hp j (Nat.zero_le _) hj
   split at this
   ·assumption
   ·cases this]
  cases b i <;> rfl) (fun hp => he fun j hj => by
   have:=hp j (Nat.zero_le _) hj
   split at this
   ·assumption
   ·cases this)
 rw [Nat.sub_zero] at this
 exact this.trans (congrArg some (zPI (n:=n) (b:=b)))
theorem zPJ {α:Type} {xs:List α} {z:α} {i:Nat} (h:i < xs.length):(xs.take i ++ List.replicate (xs.length - i) z).set i xs[i] = xs.take (i + 1) ++ List.replicate (xs.length - (i + 1)) z:=by
 have h1:(xs.take i).length = i:=by rw [List.length_take];omega
 rw [List.set_append_right _ _ (by omega),h1,Nat.sub_self,show xs.length - i = (xs.length - (i + 1)) + 1 from by omega,List.replicate_succ,List.set_cons_zero,List.take_succ_eq_append_getElem h]
 simp only [List.append_assoc,List.singleton_append]
theorem zIw {α:Type} {f:α → Option α} {body:List α × Int → Option ((List α × Int) ⊕ List α)} {x0:List α} {z:α}
  (hb:∀ s,body s = cond (decide (s.2 < (x0.length:Int))) ((ixO x0 s.2).bind fun v2 => (f v2).bind fun r3 => (ixO s.1 s.2).bind fun _ => (rng (s.2 + 1)).bind fun v5 => some (.inl (s.1.set s.2.toNat r3,v5))) (some (.inr s.1)))
  (hl:x0.length ≤ 68719476736) (hf:∀ x ∈ x0,f x = some x):zH body (List.replicate x0.length z,0) = some x0:=by
 have:=zO (body:=body) (r:=x0) (fun i => (x0.take i ++ List.replicate (x0.length - i) z,(i:Int))) x0.length (fun i hi => by
  rw [hb]
  simp only [decide_eq_true (show ((i:Int)) < (x0.length:Int) from by omega),zJ]
  rw [jU hi,vA]
  simp only [bs,hf _ (List.getElem_mem hi)]
  rw [List.getElem?_eq_getElem (by simp;omega),bs,zD (by omega) (by omega),bs]
  simp only [Int.toNat_natCast,zPJ hi,cs]) (by
  rw [hb]
  simp only [decide_eq_false (show ¬ ((x0.length:Int)) < (x0.length:Int) from by omega),zF,List.take_length,Nat.sub_self,List.replicate_zero,List.append_nil])
 simpa using this
theorem zSy {α:Type} [BEq α] {t:α → α → Option Bool} {body:Int → Option (Int ⊕ (Unit ⊕ Bool))} {x y:List α}
  (hb:∀ i,body i = cond (decide (i < (x.length:Int))) ((ixO x i).bind fun v1 => (ixO y i).bind fun v2 => (t v1 v2).bind fun r3 => cond (!r3) (some (.inr (.inr false))) ((rng (i + 1)).bind fun v4 => some (.inl v4))) (some (.inr (.inl ()))))
  (hl:x.length ≤ 68719476736) (hxy:x.length = y.length) (ht:∀ u ∈ x,∀ v ∈ y,t u v = some (u == v)):zH body 0 = some (if x == y then .inl () else .inr false):=by
 have h:=zNI (body:=body) x.length (fun i => match x[i]?,y[i]? with | some u,some v => u == v | _,_ => true) (fun i hi _ => by
  have hi':i < y.length:=by omega
  rw [hb]
  simp only [decide_eq_true (show ((i:Int)) < (x.length:Int) from by omega),zJ]
  rw [jU hi,jU hi']
  simp only [bs,ht _ (List.getElem_mem hi) _ (List.getElem_mem hi'),List.getElem?_eq_getElem hi,List.getElem?_eq_getElem hi']
  cases x[i] == y[i]
  ·rfl
  ·simp only [Bool.not_true,zF,if_true]
   rw [zD (by omega) (by omega),cs];rfl) (fun _ => by
  rw [hb]
  simp only [decide_eq_false (show ¬ ((x.length:Int)) < (x.length:Int) from by omega),zF])
 rw [h]
 congr 2
 have key:∀ (x y:List α),x.length = y.length → ((List.range x.length).all (fun i => match x[i]?,y[i]? with | some u,some v => u == v | _,_ => true)) = (x == y):=by
  intro x
  induction x with
  | nil => intro y hy;cases y with | nil => rfl | cons _ _ => simp at hy
  | cons u x ih =>
   intro y hy
   cases y with
   | nil => simp at hy
   | cons v y =>
    rw [List.length_cons,List.range_succ_eq_map,List.all_cons,List.all_map]
    simp only [List.getElem?_cons_zero,Function.comp_def,List.getElem?_cons_succ]
    rw [ih y (by simpa using hy)]
    rfl
 rw [key x y hxy]
theorem zH2 {α:Type} [BEq α] {t:α → α → Option Bool} {f:Option Bool} {body:Int → Option (Int ⊕ (Unit ⊕ Bool))} {x y:List α}
  (hf:f = cond ((x.length:Int) != (y.length:Int)) (some false) ((zH body 0).bind fun r => match r with | .inl _ => some true | .inr r => some r))
  (hb:∀ i,body i = cond (decide (i < (x.length:Int))) ((ixO x i).bind fun v1 => (ixO y i).bind fun v2 => (t v1 v2).bind fun r3 => cond (!r3) (some (.inr (.inr false))) ((rng (i + 1)).bind fun v4 => some (.inl v4))) (some (.inr (.inl ()))))
  (hl:x.length ≤ 68719476736) (ht:∀ u ∈ x,∀ v ∈ y,t u v = some (u == v)):f = some (x == y):=by
 rw [hf]
 by_cases hxy:x.length = y.length
 ·rw [zSy hb hl hxy ht]
  have:((x.length:Int) != (y.length:Int)) = false:=by simp [hxy]
  rw [this]
  cases x == y <;> rfl
 ·have:((x.length:Int) != (y.length:Int)) = true:=by simp;omega
  rw [this]
  have h2:(x == y) = false:=by
   have key:∀ (x y:List α),x.length ≠ y.length → (x == y) = false:=by
    intro x
    induction x with
    | nil => intro y hy;cases y with | nil => simp at hy | cons _ _ => rfl
    | cons u x ih =>
     intro y hy
     cases y with
     | nil => rfl
     | cons v y =>
      show (u == v && x == y) = false
      rw [ih y (by simpa using hy),Bool.and_false]
   exact key x y hxy
  rw [h2];rfl
end Go.Pl

namespace Go.Pl
open Go Go.Ab
def sm {α:Type} (c:α → Nat):List α → Nat
 | [] => 0
 | x :: xs => c x + sm c xs
theorem zCg {α:Type} (c:α → Nat):∀ xs ys:List α,sm c (xs ++ ys) = sm c xs + sm c ys
 | [],ys => by simp [sm]
 | x :: xs,ys => by simp only [List.cons_append,sm,zCg c xs ys];omega
theorem zFa {α:Type} (c:α → Nat) {xs:List α} {i:Nat} (h:i < xs.length):sm c (xs.take (i + 1)) = sm c (xs.take i) + c xs[i]:=by
 rw [List.take_succ_eq_append_getElem h,zCg];simp [sm]
theorem zAW {α:Type} (c:α → Nat) (xs:List α) (i:Nat):sm c (xs.take i) ≤ sm c xs:=by
 have:=zCg c (xs.take i) (xs.drop i)
 rw [List.take_append_drop] at this;omega
theorem zPK {α:Type} (c:α → Nat) {xs:List α} {x:α} (h:x ∈ xs):c x ≤ sm c xs:=by
 obtain ⟨i,hi,rfl⟩:=List.mem_iff_getElem.1 h
 have:=zFa c hi
 have:=zAW c xs (i + 1)
 omega
def szR (c:Nat) (b:Int):Int:=if (c:Int) ≤ b then b - c else -1
theorem zTX {α:Type} {c:α → Nat} {t:α → Int → Option Int} {f:Option Int} {body:Int × Int → Option ((Int × Int) ⊕ (Int ⊕ Int))} {xs:List α} {b:Int}
  (hf:f = (rng (b - (xs.length:Int))).bind fun v1 => cond (decide (v1 < 0)) (some (-1)) ((zH body (v1,0)).bind fun r => match r with | .inl r => some r | .inr r => some r))
  (hb:∀ s,body s = cond (decide (s.2 < (xs.length:Int))) ((ixO xs s.2).bind fun v2 => (t v2 s.1).bind fun r3 => cond (decide (r3 < 0)) (some (.inr (.inr (-1)))) ((rng (s.2 + 1)).bind fun v4 => some (.inl (r3,v4)))) (some (.inr (.inl s.1))))
  (hl:xs.length ≤ 9223372036854775807) (b0:0 ≤ b) (b1:b ≤ 1048576) (ht:∀ x ∈ xs,∀ b',0 ≤ b' → b' ≤ 1048576 → t x b' = some (szR (c x) b')):f = some (szR (xs.length + sm c xs) b):=by
 rw [hf,zD (by omega) (by omega),bs]
 by_cases h0:b - (xs.length:Int) < 0
 ·rw [decide_eq_true h0,zJ,szR,if_neg (by omega)]
 ·rw [decide_eq_false h0,zF]
  obtain ⟨r,h1,h2⟩:=vQ (body:=body) (Q:=fun r => (match r with | .inl r => some r | .inr r => some r) = some (szR (xs.length + sm c xs) b)) (fun i s => s.2 = (i:Int) ∧ 0 ≤ s.1 ∧ s.1 = b - xs.length - sm c (xs.take i)) xs.length (fun i s hi ⟨e1,e2,e3⟩ => by
   rw [hb,e1,decide_eq_true (by omega),zJ,jU hi,bs,ht _ (List.getElem_mem hi) _ e2 (by omega),bs]
   have h3:=zFa c hi
   have h4:=zAW c xs (i + 1)
   unfold szR
   by_cases h5:(c xs[i]:Int) ≤ s.1
   ·rw [if_pos h5,decide_eq_false (by omega),zF,zD (by omega) (by omega),bs,cs]
    exact .inl ⟨_,rfl,rfl,by simp only;omega,by simp only;omega⟩
   ·rw [if_neg h5]
    refine .inr ⟨.inr (-1),rfl,?_⟩
    simp only
    rw [if_neg (by omega)]) (fun s ⟨e1,e2,e3⟩ => by
   rw [hb,e1,decide_eq_false (by omega),zF]
   rw [List.take_length] at e3
   refine ⟨_,rfl,?_⟩
   simp only
   rw [szR,if_pos (by omega),e3]
   congr 1;omega) (s:=(b - (xs.length:Int),0)) ⟨rfl,by simp only;omega,by simp [sm]⟩
  rw [h1,bs,h2]
def mkL {α:Type} (m:Int → α → α) (c:α → Nat):Int → List α → List α
 | _,[] => []
 | k,x :: xs => m k x :: mkL m c (k + c x) xs
theorem zCW {α:Type} (m:Int → α → α) (c:α → Nat):∀ (xs ys:List α) (k:Int),mkL m c k (xs ++ ys) = mkL m c k xs ++ mkL m c (k + sm c xs) ys
 | [],ys,k => by simp [mkL,sm]
 | x :: xs,ys,k => by
  simp only [List.cons_append,mkL,sm,zCW m c xs ys]
  rw [show k + (c x:Int) + (sm c xs:Int) = k + ((c x + sm c xs:Nat):Int) from by omega]
theorem vU {α:Type} (m:Int → α → α) (c:α → Nat):∀ (xs:List α) (k:Int),(mkL m c k xs).length = xs.length
 | [],_ => rfl
 | x :: xs,k => by simp [mkL,vU m c xs]
theorem zMT {α:Type} (m:Int → α → α) (c:α → Nat) {xs:List α} {i:Nat} (h:i < xs.length) (k:Int):(mkL m c k xs)[i]'(by rw [vU];exact h) = m (k + sm c (xs.take i)) xs[i]:=by
 have h1:xs = xs.take i ++ xs[i] :: xs.drop (i + 1):=by simp
 have h2:=zCW m c (xs.take i) (xs[i] :: xs.drop (i + 1)) k
 rw [← h1] at h2
 rw [List.getElem_of_eq h2]
 rw [List.getElem_append_right (by rw [vU,List.length_take];omega)]
 simp [mkL,vU,Nat.min_eq_left (Nat.le_of_lt h)]
theorem zEm {α:Type} {m:Int → α → α} {c:α → Nat} {t:α → Int → Option (Int × α)} {body:List α × Int × Int → Option ((List α × Int × Int) ⊕ (List α × Int))} {xs:List α} {k:Int}
  (hb:∀ s,body s = cond (decide (s.2.2 < (s.1.length:Int))) ((ixO s.1 s.2.2).bind fun v1 => (t v1 s.2.1).bind fun r2 => (rng (s.2.2 + 1)).bind fun v3 => some (.inl (s.1.set s.2.2.toNat r2.2,r2.1,v3))) (some (.inr (s.1,s.2.1))))
  (hl:xs.length ≤ 1048576) (k0:0 ≤ k) (k1:k + sm c xs ≤ 9223372036854775807) (ht:∀ x ∈ xs,∀ k':Int,0 ≤ k' → k' + c x ≤ 9223372036854775807 → t x k' = some (k' + c x,m k' x)):zH body (xs,k,0) = some (mkL m c k xs,k + sm c xs):=by
 have:=zO (body:=body) (r:=(mkL m c k xs,k + sm c xs)) (fun i => (mkL m c k (xs.take i) ++ xs.drop i,k + sm c (xs.take i),(i:Int))) xs.length (fun i hi => by
  have h1:=zFa c hi
  have h2:=zAW c xs (i + 1)
  have hlen:(mkL m c k (xs.take i)).length = i:=by rw [vU,List.length_take];omega
  have hg:(mkL m c k (xs.take i) ++ xs.drop i)[i]? = some xs[i]:=by
   rw [List.getElem?_append_right (by omega),hlen,Nat.sub_self,List.getElem?_drop,Nat.add_zero,List.getElem?_eq_getElem hi]
  rw [hb]
  simp only
  rw [decide_eq_true (by rw [List.length_append,hlen,List.length_drop];omega),zJ,vA,hg,bs,ht _ (List.getElem_mem hi) _ (by omega) (by omega),bs,zD (by omega) (by omega),bs,cs]
  simp only [Int.toNat_natCast]
  rw [List.set_append_right _ _ (by omega),hlen,Nat.sub_self,List.drop_eq_getElem_cons hi,List.set_cons_zero,List.take_succ_eq_append_getElem hi,zCW,zCg,List.append_assoc]
  simp only [mkL,sm,List.singleton_append,Nat.add_zero]
  rw [show k + (sm c (xs.take i):Int) + (c xs[i]:Int) = k + ((sm c (xs.take i) + c xs[i]:Nat):Int) from by omega]) (by
  rw [hb]
  simp only
  rw [decide_eq_false (by rw [List.length_append,vU,List.length_take,List.length_drop];omega),zF]
  simp only [List.take_length,List.drop_length,List.append_nil])
 simpa [mkL,sm] using this
theorem zNJ {α:Type} {m:Int → α → α} {c:α → Nat} {t:α → Int → Option Int} {f:Option Int} {xs:List α} {k:Int} {body:Int × Int → Option ((Int × Int) ⊕ (Int ⊕ Int))}
  (hf:f = (zH body (k,0)).bind fun r => match r with | .inl r => some r | .inr r => some r)
  (hb:∀ s,body s = cond (decide (s.2 < ((mkL m c k xs).length:Int))) ((ixO (mkL m c k xs) s.2).bind fun v1 => (t v1 s.1).bind fun r2 => cond (decide (r2 < 0)) (some (.inr (.inr (-1)))) ((rng (s.2 + 1)).bind fun v3 => some (.inl (r2,v3)))) (some (.inr (.inl s.1))))
  (hl:xs.length ≤ 1048576) (k0:0 ≤ k) (k1:k + sm c xs ≤ 9223372036854775807) (ht:∀ x ∈ xs,∀ k':Int,0 ≤ k' → k' + c x ≤ 9223372036854775807 → t (m k' x) k' = some (k' + c x)):f = some (k + sm c xs):=by
 have:=zO (body:=body) (r:=.inl (k + sm c xs)) (fun i => (k + sm c (xs.take i),(i:Int))) xs.length (fun i hi => by
  have h1:=zFa c hi
  have h2:=zAW c xs (i + 1)
  rw [hb]
  simp only
  rw [vU,decide_eq_true (by omega),zJ,jU (by rw [vU];exact hi),bs,zMT m c hi,ht _ (List.getElem_mem hi) _ (by omega) (by omega),bs,decide_eq_false (by omega),zF,zD (by omega) (by omega),bs,cs,h1]
  rw [show k + (sm c (xs.take i):Int) + (c xs[i]:Int) = k + ((sm c (xs.take i) + c xs[i]:Nat):Int) from by omega]) (by
  rw [hb]
  simp only
  rw [vU,decide_eq_false (by omega),zF,List.take_length])
 rw [hf]
 simp only [List.take_zero,sm] at this
 rw [show k + ((0:Nat):Int) = k from by omega] at this
 rw [show ((0:Nat):Int) = 0 from rfl] at this
 rw [this];rfl
end Go.Pl

namespace Go.Pl
open Go Go.Ab Go.Wk
abbrev VI (n:Int):Prop:=(Lit.int .i64 n).wf = true
abbrev VL {α:Type} (V:α → Prop) (xs:List α):Prop:=xs.length ≤ maxLen ∧ ∀ x ∈ xs,V x
abbrev c1 (x:List Int):Nat:=x.length
abbrev c2 (x:List (List Int)):Nat:=x.length + sm c1 x
abbrev c3 (x:List (List (List Int))):Nat:=x.length + sm c2 x
theorem zJ3 {x:List Int} {b:Int} (hl:x.length ≤ 9223372036854775807) (b0:0 ≤ b) (b1:b ≤ 1048576):zQ8 x b = some (szR (c1 x) b):=by
 unfold zQ8 szR
 rw [zD (by omega) (by omega),bs]
 by_cases h:(c1 x:Int) ≤ b
 ·rw [decide_eq_false (by simp only [c1] at h;omega),zF,if_pos h]
 ·rw [decide_eq_true (by simp only [c1] at h;omega),zJ,if_neg h]
theorem zCh {x:List (List Int)} {b:Int} (h:VL (VL VI) x) (b0:0 ≤ b) (b1:b ≤ 1048576):zOj x b = some (szR (c2 x) b) :=
 zTX (c:=c1) rfl (fun _ => rfl) h.1 b0 b1 fun y hy _ h1 h2 => zJ3 (h.2 y hy).1 h1 h2
theorem zFW {x:List (List (List Int))} {b:Int} (h:VL (VL (VL VI)) x) (b0:0 ≤ b) (b1:b ≤ 1048576):zSL x b = some (szR (c3 x) b) :=
 zTX (c:=c2) rfl (fun _ => rfl) h.1 b0 b1 fun y hy _ h1 h2 => zCh (h.2 y hy) h1 h2
abbrev S1 (x:List Int):Prop:=c1 x ≤ 1048576
abbrev S2 (x:List (List Int)):Prop:=c2 x ≤ 1048576
abbrev S3 (x:List (List (List Int))):Prop:=c3 x ≤ 1048576
theorem S2.mem {x:List (List Int)} (h:S2 x) {y:List Int} (hy:y ∈ x):S1 y:=by
 have:=zPK c1 hy
 simp only [S2,S1,c2] at h ⊢;omega
theorem S3.mem {x:List (List (List Int))} (h:S3 x) {y:List (List Int)} (hy:y ∈ x):S2 y:=by
 have:=zPK c2 hy
 simp only [S3,S2,c3] at h ⊢;omega
theorem S1.len {x:List Int} (h:S1 x):x.length ≤ 1048576:=h
theorem S2.len {x:List (List Int)} (h:S2 x):x.length ≤ 1048576:=by simp only [S2,c2] at h;omega
theorem S3.len {x:List (List (List Int))} (h:S3 x):x.length ≤ 1048576:=by simp only [S3,c3] at h;omega
theorem zJ4 {x:List Int} (h:S1 x):zOl x = some x:=by
 unfold zOl
 rw [yT (Nat.le_trans h (by decide)),bs,zIw (body:=zQ9 x) (f:=some) (fun _ => rfl) (Nat.le_trans h (by decide)) (fun _ _ => rfl),bs]
theorem zCi {x:List (List Int)} (h:S2 x):f_p x = some x:=by
 unfold f_p
 rw [yT (Nat.le_trans h.len (by decide)),bs,zIw (body:=zVq x) (f:=zOl) (fun _ => rfl) (Nat.le_trans h.len (by decide)) (fun _ hx => zJ4 (h.mem hx)),bs]
theorem zFX {x:List (List (List Int))} (h:S3 x):zQB x = some x:=by
 unfold zQB
 rw [yT (Nat.le_trans h.len (by decide)),bs,zIw (body:=zQA x) (f:=f_p) (fun _ => rfl) (Nat.le_trans h.len (by decide)) (fun _ hx => zCi (h.mem hx)),bs]
theorem zJ5 {x y:List Int} (h:S1 x):zR5 x y = some (x == y) :=
 zH2 (t:=fun u v => some (u == v)) (body:=zR4 x y) rfl (fun _ => rfl) (Nat.le_trans h.len (by decide)) fun _ _ _ _ => rfl
theorem jY {x y:List (List Int)} (h:S2 x):f_B x y = some (x == y) :=
 zH2 (t:=zR5) (body:=zV0 x y) rfl (fun _ => rfl) (Nat.le_trans h.len (by decide)) fun _ hu _ _ => zJ5 (h.mem hu)
theorem zFY {x y:List (List (List Int))} (h:S3 x):zTd x y = some (x == y) :=
 zH2 (t:=f_B) (body:=zR6 x y) rfl (fun _ => rfl) (Nat.le_trans h.len (by decide)) fun _ hu _ _ => jY (h.mem hu)
def m1 (k:Int) (x:List Int):List Int:=mkL (fun k _ => k) (fun _ => 1) k x
def m2 (k:Int) (x:List (List Int)):List (List Int):=mkL m1 c1 k x
def m3 (k:Int) (x:List (List (List Int))):List (List (List Int)):=mkL m2 (sm c1) k x
theorem zLe {α:Type}:∀ xs:List α,sm (fun _ => 1) xs = xs.length
 | [] => rfl
 | x :: xs => by simp [sm,zLe xs];omega
theorem zFZ {x:List Int} {k:Int} (h:S1 x) (k0:0 ≤ k) (k1:k + c1 x ≤ 9223372036854775807):zOp x k = some (k + c1 x,m1 k x):=by
 have h1:=zLe x
 have:=zEm (m:=fun k _ => k) (c:=fun _ => 1) (t:=fun v k => (rng (k + 1)).bind fun v2 => some (v2,k)) (body:=zNx) (xs:=x) (k:=k) (fun s => by
  unfold zNx
  congr 1
  cases ixO s.1 s.2.2 with
  | none => rfl
  | some v =>
   simp only [bs]
   cases rng (s.2.1 + 1) <;> rfl) h.len k0 (by rw [h1];exact k1) fun v _ k' h1 h2 => by
  have h2':k' + ((1:Nat):Int) ≤ 9223372036854775807:=h2
  rw [zD (by omega) (by omega),bs];rfl
 unfold zOp
 rw [this,bs,h1];rfl
theorem jA {x:List (List Int)} {k:Int} (h:S2 x) (k0:0 ≤ k) (k1:k + sm c1 x ≤ 9223372036854775807):f_L x k = some (k + sm c1 x,m2 k x):=by
 unfold f_L
 rw [zEm (body:=zV1) (m:=m1) (c:=c1) (t:=zOp) (fun _ => rfl) h.len k0 k1 fun y hy _ h1 h2 => zFZ (h.mem hy) h1 h2,bs];rfl
theorem zD1 {x:List (List (List Int))} {k:Int} (h:S3 x) (k0:0 ≤ k) (k1:k + sm (sm c1) x ≤ 9223372036854775807):zR8 x k = some (k + sm (sm c1) x,m3 k x):=by
 unfold zR8
 rw [zEm (body:=zR7) (m:=m2) (c:=sm c1) (t:=f_L) (fun _ => rfl) h.len k0 k1 fun y hy _ h1 h2 => jA (h.mem hy) h1 h2,bs];rfl
theorem zLf {x:List Int} {k:Int} (h:S1 x) (k0:0 ≤ k) (k1:k + c1 x ≤ 9223372036854775807):zR9 (m1 k x) k = some (k + c1 x):=by
 have hl:=h.len
 have hml:(m1 k x).length = x.length:=vU _ _ _ _
 have:=zO (body:=zKz (m1 k x)) (r:=.inl (k + c1 x)) (fun i => (k + (i:Int),(i:Int))) x.length (fun i hi => by
  have hg:(m1 k x)[i]'(by rw [hml];exact hi) = k + sm (fun _ => 1) (x.take i):=zMT _ _ hi _
  unfold zKz
  rw [decide_eq_true (by simp only [hml];omega),zJ,jU (by rw [hml];exact hi),bs,hg,zLe,List.length_take,Nat.min_eq_left (by omega),show (k + (i:Int) != k + (i:Int)) = false from by simp,zF,zD (by simp only [c1] at k1;omega) (by simp only [c1] at k1;omega),bs,zD (by omega) (by omega),bs,cs]
  rw [show k + (i:Int) + 1 = k + ((i + 1:Nat):Int) from by omega]) (by
  unfold zKz
  rw [decide_eq_false (by simp only [hml];omega),zF])
 unfold zR9
 rw [show k + ((0:Nat):Int) = k from by omega,show ((0:Nat):Int) = 0 from rfl] at this
 rw [this];rfl
theorem zJ6 {x:List (List Int)} {k:Int} (h:S2 x) (k0:0 ≤ k) (k1:k + sm c1 x ≤ 9223372036854775807):zTi (m2 k x) k = some (k + sm c1 x) :=
 zNJ (body:=zRA (m2 k x)) (m:=m1) (c:=c1) (t:=zR9) rfl (fun _ => rfl) h.len k0 k1 fun _ hy _ h1 h2 => zLf (h.mem hy) h1 h2
def zMU (x:SPr):Prop:=VL VI x.zA ∧ VL (VL VI) x.zU ∧ VL (VL (VL VI)) x.zB
def zSz (x:zC):Prop:=VI x.Prime ∧ VI x.Dim ∧ VL (VL (VL VI)) x.zI
def zJ7 (x:SPr):Nat:=c1 x.zA + c2 x.zU + c3 x.zB
def zPL (x:zC):Nat:=c3 x.zI
def zBG (x:SPr):Prop:=S1 x.zA ∧ S2 x.zU ∧ S3 x.zB
def zGa (x:zC):Prop:=S3 x.zI
theorem zJ8 {a b:Nat} {n:Int}:(szR a n < 0 ∧ szR (a + b) n = -1) ∨ (0 ≤ szR a n ∧ szR a n ≤ n ∧ szR b (szR a n) = szR (a + b) n ∧ (a:Int) ≤ n) ∨ n < 0:=by
 unfold szR
 by_cases h:(a:Int) ≤ n
 ·rw [if_pos h]
  refine .inr (.inl ⟨by omega,by omega,?_,h⟩)
  by_cases h2:(b:Int) ≤ n - a
  ·rw [if_pos h2,if_pos (by omega)];omega
  ·rw [if_neg h2,if_neg (by omega)]
 ·rw [if_neg h]
  by_cases h3:n < 0
  ·exact .inr (.inr h3)
  ·exact .inl ⟨by omega,by rw [if_neg (by omega)]⟩
theorem zGb {x:SPr} {b:Int} (h:zMU x) (b0:0 ≤ b) (b1:b ≤ 1048576):zSM x b = some (szR (zJ7 x) b):=by
 obtain ⟨h1,h2,h3⟩:=h
 unfold zSM zJ7
 rw [zJ3 h1.1 b0 b1,bs]
 rcases zJ8 (a:=c1 x.zA) (b:=c2 x.zU + c3 x.zB) (n:=b) with ⟨g1,g2⟩ | ⟨g1,g2,g3,g4⟩ | g1
 ·rw [decide_eq_true g1,zJ,Nat.add_assoc,g2]
 ·rw [decide_eq_false (by omega),zF,zCh h2 g1 (by omega),bs,Nat.add_assoc,← g3]
  generalize szR (c1 x.zA) b = b' at g1 g2
  rcases zJ8 (a:=c2 x.zU) (b:=c3 x.zB) (n:=b') with ⟨k1,k2⟩ | ⟨k1,k2,k3,k4⟩ | k1
  ·rw [decide_eq_true k1,zJ,k2]
  ·rw [decide_eq_false (by omega),zF,zFW h3 k1 (by omega),bs,← k3]
   generalize szR (c2 x.zU) b' = b'' at k1 k2
   unfold szR
   by_cases h4:(c3 x.zB:Int) ≤ b''
   ·rw [if_pos h4,decide_eq_false (by omega),zF]
   ·rw [if_neg h4];rfl
  ·omega
 ·omega
theorem zPM {x:zC} {b:Int} (h:zSz x) (b0:0 ≤ b) (b1:b ≤ 1048576):zSN x b = some (szR (zPL x) b):=by
 obtain ⟨_,_,h3⟩:=h
 unfold zSN zPL
 rw [zFW h3 b0 b1,bs]
 unfold szR
 by_cases h4:(c3 x.zI:Int) ≤ b
 ·rw [if_pos h4,decide_eq_false (by omega),zF]
 ·rw [if_neg h4];rfl
theorem zFb {c:Nat} {b:Int} (b0:0 ≤ b) (b1:b ≤ 1048576):(decide (szR c b < 0) = true) ∨ (decide (szR c b < 0) = false ∧ 0 ≤ szR c b ∧ szR c b ≤ 1048576 ∧ c ≤ 1048576):=by
 unfold szR
 by_cases h:(c:Int) ≤ b
 ·rw [if_pos h];exact .inr ⟨decide_eq_false (by omega),by omega,by omega,by omega⟩
 ·rw [if_neg h];exact .inl rfl
theorem zBG.of {x:SPr} (h:zJ7 x ≤ 1048576):zBG x:=by
 unfold zJ7 at h
 exact ⟨by simp only [S1];omega,by simp only [S2];omega,by simp only [S3];omega⟩
theorem zGa.of {x:zC} (h:zPL x ≤ 1048576):zGa x:=h
theorem zGc {x:SPr} (h:zBG x):zLM x = some x:=by
 unfold zLM
 rw [zJ4 h.1,bs,zCi h.2.1,bs,zFX h.2.2,bs]
theorem zPN {x:zC} (h:zGa x):zLN x = some x:=by
 unfold zLN
 rw [zFX h,bs]
theorem zPO {x:zC} (h:zGa x):zTe x x = some true:=by
 unfold zTe
 rw [zFY h,bs]
 simp
theorem zGd {x:SPr} (h:zBG x):zTf x x = some true:=by
 unfold zTf
 rw [zJ5 h.1,bs,jY h.2.1,bs,zFY h.2.2,bs]
 simp
theorem zGe {x:List (List Int)}:sm c1 x ≤ c2 x:=by simp only [c2];omega
theorem zMV {α:Type} {f g:α → Nat} (h:∀ x,f x ≤ g x):∀ xs:List α,sm f xs ≤ sm g xs
 | [] => Nat.le_refl _
 | x :: xs => by have:=zMV h xs;have:=h x;simp only [sm];omega
theorem zLg {x:List (List (List Int))}:sm (sm c1) x ≤ c3 x:=by
 have:=zMV (f:=sm c1) (g:=c2) (fun _ => zGe) x
 simp only [c3];omega
theorem zLh {x:zC} {k:Int} (h:zGa x) (k0:0 ≤ k) (k1:k ≤ 1000000000):zTh x k = some (k + sm (sm c1) x.zI,zC.mk x.Prime x.Dim (m3 k x.zI)):=by
 have g3:=zLg (x:=x.zI)
 have h':=h
 simp only [zGa,S3] at h'
 unfold zTh
 rw [zD1 h k0 (by omega),bs]
end Go.Pl

namespace Go.Pl
open Go Go.Ab Go.Wk
def IsB (o:Option Bool) (P:Prop):Prop:=(o = some true ∧ P) ∨ (o = some false ∧ ¬ P)
theorem IsB.iff {o:Option Bool} {P Q:Prop} (h:IsB o P) (hpq:P ↔ Q):IsB o Q:=by
 rcases h with ⟨h1,h2⟩ | ⟨h1,h2⟩
 ·exact .inl ⟨h1,hpq.1 h2⟩
 ·exact .inr ⟨h1,fun h => h2 (hpq.2 h)⟩
theorem IsB.of_bool {b:Bool} {P:Prop} (h:b = true ↔ P):IsB (some b) P:=by
 cases b
 ·exact .inr ⟨rfl,fun hp => by have:=h.2 hp;cases this⟩
 ·exact .inl ⟨rfl,h.1 rfl⟩
theorem chk {ρ:Type} {body:Int → Option (Int ⊕ (Unit ⊕ ρ))} (n i0:Nat) (hn:i0 ≤ n) (P:Nat → Prop) (bad:Nat → ρ)
  (h:∀ i,i0 ≤ i → i < n → (∀ j,i0 ≤ j → j < i → P j) → (body (i:Int) = some (.inl ((i + 1:Nat):Int)) ∧ P i) ∨ (body (i:Int) = some (.inr (.inr (bad i))) ∧ ¬ P i))
  (he:body (n:Int) = some (.inr (.inl ()))) :
  (zH body (i0:Int) = some (.inl ()) ∧ ∀ j,i0 ≤ j → j < n → P j) ∨ ∃ i,i0 ≤ i ∧ i < n ∧ zH body (i0:Int) = some (.inr (bad i)) ∧ ¬ P i:=by
 have key:∀ k i,i0 ≤ i → i + k = n → (∀ j,i0 ≤ j → j < i → P j) → (zH body (i:Int) = some (.inl ()) ∧ ∀ j,i0 ≤ j → j < n → P j) ∨ ∃ q,i0 ≤ q ∧ q < n ∧ zH body (i:Int) = some (.inr (bad q)) ∧ ¬ P q:=by
  intro k
  induction k with
  | zero =>
   intro i hi hk hp
   obtain rfl:i = n:=by omega
   exact .inl ⟨by rw [xG,he],hp⟩
  | succ k ih =>
   intro i hi hk hp
   rcases h i hi (by omega) hp with ⟨h1,h2⟩ | ⟨h1,h2⟩
   ·have:=ih (i + 1) (by omega) (by omega) fun j a b => by
     rcases Nat.lt_or_ge j i with c | c
     ·exact hp j a c
     ·rw [show j = i from by omega];exact h2
    rw [xG,h1]
    exact this
   ·exact .inr ⟨i,hi,by omega,by rw [xG,h1],h2⟩
 exact key (n - i0) i0 (Nat.le_refl _) (by omega) fun j a b => by omega
theorem tU {f:Option Bool} {body:Int → Option (Int ⊕ (Unit ⊕ Bool))} (n:Nat) (P:Nat → Prop)
  (hf:f = (zH body 0).bind fun r => match r with | .inl _ => some true | .inr r => some r)
  (h:∀ i,i < n → (∀ j,j < i → P j) → (body (i:Int) = some (.inl ((i + 1:Nat):Int)) ∧ P i) ∨ (body (i:Int) = some (.inr (.inr false)) ∧ ¬ P i))
  (he:body (n:Int) = some (.inr (.inl ()))):IsB f (∀ i,i < n → P i):=by
 rcases chk n 0 (Nat.zero_le _) P (fun _ => false) (fun i _ hi hp => h i hi fun j hj => hp j (Nat.zero_le _) hj) he with ⟨h1,h2⟩ | ⟨i,_,hi,h1,h2⟩
 ·refine .inl ⟨?_,fun i hi => h2 i (Nat.zero_le _) hi⟩
  rw [hf];rw [show ((0:Nat):Int) = 0 from rfl] at h1;rw [h1,bs]
 ·refine .inr ⟨?_,fun hp => h2 (hp i hi)⟩
  rw [hf];rw [show ((0:Nat):Int) = 0 from rfl] at h1;rw [h1,bs]
theorem vS {o:Option Bool} {P:Prop} {ρ:Type} {bad:ρ} {i:Nat} {g:Option (Int ⊕ (Unit ⊕ ρ))} (h:IsB o P) (hi:i < 9223372036854775807)
  (hg:g = o.bind fun r => cond (!r) (some (.inr (.inr bad))) ((rng ((i:Int) + 1)).bind fun v => some (.inl v))):(g = some (.inl ((i + 1:Nat):Int)) ∧ P) ∨ (g = some (.inr (.inr bad)) ∧ ¬ P):=by
 subst hg
 rcases h with ⟨h1,h2⟩ | ⟨h1,h2⟩
 ·refine .inl ⟨?_,h2⟩
  rw [h1,bs,Bool.not_true,zF,zD (by omega) (by omega),bs,cs]
 ·refine .inr ⟨?_,h2⟩
  rw [h1,bs,Bool.not_false,zJ]
theorem yQ {i n:Nat} (h:i < n):decide ((i:Int) < (n:Int)) = true:=decide_eq_true (by omega)
theorem xD {n:Nat}:decide ((n:Int) < (n:Int)) = false:=decide_eq_false (by omega)
theorem jB (x a b:Int):IsB (zLR x a b) (a ≤ x ∧ x ≤ b):=by
 unfold zLR
 by_cases h:x ≥ a
 ·rw [decide_eq_true h,zJ];exact IsB.of_bool (by simp;omega)
 ·rw [decide_eq_false h,zF];exact .inr ⟨rfl,by omega⟩
theorem zBH (x a b:Int):IsB (zQC x a b) (a ≤ x ∧ x ≤ b):=jB x a b
def Prime (p:Int):Prop:=p = 2 ∨ p = 3 ∨ p = 5 ∨ p = 7
theorem zAX (x:Int):IsB (zOm x) (Prime x):=by
 unfold zOm Prime
 by_cases h2:x = 2
 ·subst h2;exact .inl ⟨rfl,.inl rfl⟩
 ·rw [show (x == 2) = false from by simpa using h2,zF]
  by_cases h3:x = 3
  ·subst h3;exact .inl ⟨rfl,.inr (.inl rfl)⟩
  ·rw [show (x == 3) = false from by simpa using h3,zF]
   by_cases h5:x = 5
   ·subst h5;exact .inl ⟨rfl,.inr (.inr (.inl rfl))⟩
   ·rw [show (x == 5) = false from by simpa using h5,zF]
    exact IsB.of_bool (by simp;omega)
theorem zGf (x:Int):IsB (zSO x) (Prime x):=zAX x
abbrev at0 (v:List Int) (i:Nat):Int:=v.getD i 0
theorem yF {v:List Int} {i:Nat} (h:i < v.length):ixO v (i:Int) = some (at0 v i):=by
 rw [jU h,at0,List.getD_eq_getElem?_getD,List.getElem?_eq_getElem h];rfl
def zWS (os v:List Int):Prop:=v.length = os.length ∧ ∀ i,i < v.length → 0 ≤ at0 v i ∧ at0 v i ≤ at0 os i - 1
def Exp (os v:List Int) (k:Nat):Prop:=zWS os v ∧ ∀ i,i ≤ k → at0 v i = 0
def Os (os:List Int):Prop:=os.length ≤ 9 ∧ ∀ i,i < os.length → Prime (at0 os i)
theorem Prime.pos {p:Int} (h:Prime p):2 ≤ p ∧ p ≤ 7:=by unfold Prime at h;omega
theorem zEn {x:SPr} {v:List Int} (ho:Os x.zA):IsB (zSW x v) (zWS x.zA v):=by
 unfold zSW
 by_cases h:v.length = x.zA.length
 ·rw [show ((v.length:Int) != (x.zA.length:Int)) = false from by simp [h],zF]
  have h6:=ho.1
  refine (tU v.length (fun i => 0 ≤ at0 v i ∧ at0 v i ≤ at0 x.zA i - 1) rfl (fun i hi _ => ?_) ?_).iff ⟨fun g => ⟨h,g⟩,fun g => g.2⟩
  ·have hp:=(ho.2 i (by omega)).pos
   refine vS (jB _ _ _) (by omega) ?_
   unfold zNv
   rw [yQ hi,zJ,yF hi,bs,yF (by omega),bs,zD (by omega) (by omega),bs]
  ·unfold zNv
   rw [xD,zF]
 ·rw [show ((v.length:Int) != (x.zA.length:Int)) = true from by simp;omega,zJ]
  exact .inr ⟨rfl,fun g => h g.1⟩
theorem zJ9 {v:List Int} (hl:v.length ≤ 9):IsB (f_E v) (∀ i,i < v.length → at0 v i = 0):=by
 refine tU v.length (fun i => at0 v i = 0) rfl (fun i hi _ => ?_) ?_
 ·refine vS (o:=some (at0 v i == 0)) (IsB.of_bool (by simp)) (by omega) ?_
  unfold zKs
  rw [yQ hi,zJ,yF hi,bs,bs];rfl
 ·unfold zKs
  rw [xD,zF]
theorem zBp {x:SPr} {k:Nat} {v:List Int} (ho:Os x.zA) (hk:k < x.zA.length):IsB (zQY x k v) (Exp x.zA v k):=by
 have h6:=ho.1
 unfold zQY
 rcases zEn (v:=v) ho with ⟨h1,h2⟩ | ⟨h1,h2⟩
 ·have hl:=h2.1
  rw [h1,bs,zJ,zD (by omega) (by omega),bs]
  have hs:zX v 0 ((k:Int) + 1) = some (v.take (k + 1)):=by
   unfold zX
   rw [if_pos (by omega)]
   simp only [Int.toNat_zero,List.drop_zero,Nat.sub_zero]
   congr 2
  rw [hs,bs]
  have hb:=zJ9 (v:=v.take (k + 1)) (by rw [List.length_take];omega)
  have hiff:(∀ i,i < (v.take (k + 1)).length → at0 (v.take (k + 1)) i = 0) ↔ Exp x.zA v k:=by
   have e:∀ i,i ≤ k → at0 (v.take (k + 1)) i = at0 v i:=fun i hi => by
    simp only [at0,List.getD_eq_getElem?_getD,List.getElem?_take]
    rw [if_pos (by omega)]
   rw [List.length_take,Nat.min_eq_left (by omega)]
   exact ⟨fun g => ⟨h2,fun i hi => by rw [← e i hi];exact g i (by omega)⟩,fun g i hi => by rw [e i (by omega)];exact g.2 i (by omega)⟩
  rcases hb.iff hiff with ⟨g1,g2⟩ | ⟨g1,g2⟩
  ·rw [g1,bs];exact .inl ⟨rfl,g2⟩
  ·rw [g1,bs];exact .inr ⟨rfl,g2⟩
 ·rw [h1,bs,zF]
  exact .inr ⟨rfl,fun g => h2 g.1⟩
theorem zBI {os v:List Int} {k:Nat} (ho:Os os) (hk:k < os.length):IsB (zQD os v k) (Exp os v k):=by
 have h6:=ho.1
 unfold zQD
 by_cases h:v.length = os.length
 ·rw [show ((v.length:Int) != (os.length:Int)) = false from by simp [h],zF]
  refine (tU v.length (fun i => (0 ≤ at0 v i ∧ at0 v i ≤ at0 os i - 1) ∧ (i ≤ k → at0 v i = 0)) rfl (fun i hi _ => ?_) ?_).iff ⟨fun g => ⟨⟨h,fun i hi => (g i hi).1⟩,fun i hi => (g i (by omega)).2 hi⟩,fun g i hi => ⟨g.1.2 i hi,fun hk => g.2 i hk⟩⟩
  ·have hp:=(ho.2 i (by omega)).pos
   unfold zNr
   rw [yQ hi,zJ,yF hi,bs,yF (by omega),bs,zD (by omega) (by omega),bs]
   rcases zBH (at0 v i) 0 (at0 os i - 1) with ⟨h1,h2⟩ | ⟨h1,h2⟩
   ·rw [h1,bs,Bool.not_true,zF]
    by_cases h3:(i:Int) ≤ (k:Int)
    ·rw [decide_eq_true h3,zJ,bs]
     by_cases h4:at0 v i = 0
     ·rw [show (at0 v i != 0) = false from by simp only [h4];rfl,zF,zD (by omega) (by omega),bs,cs]
      exact .inl ⟨rfl,h2,fun _ => h4⟩
     ·rw [show (at0 v i != 0) = true from by simpa using h4,zJ]
      exact .inr ⟨rfl,fun g => h4 (g.2 (by omega))⟩
    ·rw [decide_eq_false h3,zF,zD (by omega) (by omega),bs,cs]
     exact .inl ⟨rfl,h2,fun g => absurd (by omega) h3⟩
   ·rw [h1,bs,Bool.not_false,zJ]
    exact .inr ⟨rfl,fun g => h2 g.1⟩
  ·unfold zNr
   rw [xD,zF]
 ·rw [show ((v.length:Int) != (os.length:Int)) = true from by simp;omega,zJ]
  exact .inr ⟨rfl,fun g => h g.1.1⟩
end Go.Pl

namespace Go.Pl
open Go Go.Ab Go.Wk
theorem zXG {σ ρ:Type} {body:σ → Option (σ ⊕ (Unit ⊕ ρ))} (S:Nat → σ) (n i0:Nat) (hn:i0 ≤ n) (P:Nat → Prop) (bad:Nat → ρ)
  (h:∀ i,i0 ≤ i → i < n → (∀ j,i0 ≤ j → j < i → P j) → (body (S i) = some (.inl (S (i + 1))) ∧ P i) ∨ (body (S i) = some (.inr (.inr (bad i))) ∧ ¬ P i))
  (he:body (S n) = some (.inr (.inl ()))) :
  (zH body (S i0) = some (.inl ()) ∧ ∀ j,i0 ≤ j → j < n → P j) ∨ ∃ i,i0 ≤ i ∧ i < n ∧ zH body (S i0) = some (.inr (bad i)) ∧ ¬ P i:=by
 have key:∀ k i,i0 ≤ i → i + k = n → (∀ j,i0 ≤ j → j < i → P j) → (zH body (S i) = some (.inl ()) ∧ ∀ j,i0 ≤ j → j < n → P j) ∨ ∃ q,i0 ≤ q ∧ q < n ∧ zH body (S i) = some (.inr (bad q)) ∧ ¬ P q:=by
  intro k
  induction k with
  | zero =>
   intro i hi hk hp
   obtain rfl:i = n:=by omega
   exact .inl ⟨by rw [xG,he],hp⟩
  | succ k ih =>
   intro i hi hk hp
   rcases h i hi (by omega) hp with ⟨h1,h2⟩ | ⟨h1,h2⟩
   ·have:=ih (i + 1) (by omega) (by omega) fun j a b => by
     rcases Nat.lt_or_ge j i with c | c
     ·exact hp j a c
     ·rw [show j = i from by omega];exact h2
    rw [xG,h1]
    exact this
   ·exact .inr ⟨i,hi,by omega,by rw [xG,h1],h2⟩
 exact key (n - i0) i0 (Nat.le_refl _) (by omega) fun j a b => by omega
theorem jP {a b:Int} (h:a = b):(a != b) = false:=by simp [h]
theorem qA {a b:Int} (h:a ≠ b):(a != b) = true:=by simp [h]
def pr (os:List Int):Nat → Int
 | 0 => 1
 | i + 1 => pr os i * at0 os i
def cp (os:List Int):Nat → Int
 | 0 => 1
 | i + 1 => if cp os i ≤ 729 then cp os i * at0 os i else cp os i
theorem zGg {os:List Int}:∀ {i:Nat},(∀ j,j < i → Prime (at0 os j)) → 1 ≤ pr os i
 | 0,_ => by simp [pr]
 | i + 1,h => by
  have h1:=zGg (os:=os) (i:=i) fun j hj => h j (by omega)
  have h2:=(h i (by omega)).pos
  simp only [pr]
  have:(1:Int) * 1 ≤ pr os i * at0 os i:=Int.mul_le_mul h1 (by omega) (by omega) (by omega)
  omega
theorem zMW {os:List Int} {i:Nat} (h:∀ j,j ≤ i → Prime (at0 os j)):pr os i ≤ pr os (i + 1):=by
 have h1:=zGg (os:=os) (i:=i) fun j hj => h j (by omega)
 have h2:=(h i (Nat.le_refl _)).pos
 simp only [pr]
 have:pr os i * 1 ≤ pr os i * at0 os i:=Int.mul_le_mul_of_nonneg_left (by omega) (by omega)
 omega
theorem zMX {os:List Int} {n:Nat} (h:∀ j,j < n → Prime (at0 os j)):∀ k,k ≤ n → pr os (n - k) ≤ pr os n
 | 0,_ => Int.le_refl _
 | k + 1,hk => by
  have h1:=zMX h k (by omega)
  have h2:=zMW (os:=os) (i:=n - (k + 1)) fun j hj => h j (by omega)
  rw [show n - (k + 1) + 1 = n - k from by omega] at h2
  omega
theorem zPP {os:List Int}:∀ {i:Nat},(∀ j,j < i → Prime (at0 os j)) → (cp os i = pr os i ∧ pr os i ≤ 729 ∨ 729 < cp os i ∧ cp os i ≤ 5103 ∧ 729 < pr os i)
 | 0,_ => by simp [cp,pr]
 | i + 1,h => by
  have h0:∀ j,j < i → Prime (at0 os j):=fun j hj => h j (by omega)
  have h2:=(h i (by omega)).pos
  have h3:=zMW (os:=os) (i:=i) fun j hj => h j (by omega)
  have hpp:=zGg h0
  simp only [cp]
  rcases zPP h0 with ⟨h1,h4⟩ | ⟨h1,h4,h5⟩
  ·rw [h1,if_pos h4]
   have h6:pr os i * at0 os i ≤ 729 * 7:=Int.mul_le_mul h4 h2.2 (by omega) (by omega)
   simp only [pr] at h3 ⊢
   generalize pr os i * at0 os i = b at h3 h6 ⊢
   simp only [true_and];omega
  ·rw [if_neg (by omega)]
   omega
def zGh (x:SPr) (i:Nat):Prop:=Exp x.zA (x.zU.getD i []) i ∧ (x.zB.getD i []).length + i + 1 = x.zA.length ∧ ∀ j,j < (x.zB.getD i []).length → Exp x.zA ((x.zB.getD i []).getD j []) i
structure Pres (x:SPr):Prop where
 os:Os x.zA
 pl:x.zU.length = x.zA.length
 cl:x.zB.length = x.zA.length
 tl:∀ i,i < x.zA.length → zGh x i
structure zGi (x:SPr):Prop extends Pres x where
 n6:x.zA.length ≤ 6
 pr:pr x.zA x.zA.length ≤ 729
theorem yD {α:Type} {v:List α} {i:Nat} (d:α) (h:i < v.length):ixO v (i:Int) = some (v.getD i d):=by
 rw [jU h,List.getD_eq_getElem?_getD,List.getElem?_eq_getElem h];rfl
theorem zLi {x:SPr} (ho:Os x.zA) (hp:x.zU.length = x.zA.length) (hc:x.zB.length = x.zA.length) {i:Nat} (hi:i < x.zA.length) :
  (zLT x i = some (.inl ((i + 1:Nat):Int)) ∧ zGh x i) ∨ (zLT x i = some (.inr (.inr false)) ∧ ¬ zGh x i):=by
 have h6:=ho.1
 unfold zLT
 rw [yQ hi,zJ,yD [] (by omega),bs]
 rcases zBp (v:=x.zU.getD i []) ho hi with ⟨h1,h2⟩ | ⟨h1,h2⟩
 ·rw [h1,bs,Bool.not_true,zF,yD [] (by omega),bs,zD (by omega) (by omega),bs,zD (by omega) (by omega),bs]
  by_cases hl:(x.zB.getD i []).length + i + 1 = x.zA.length
  ·rw [jP (by omega),zF,bs]
   rcases chk (body:=zQZ x i (x.zB.getD i [])) (x.zB.getD i []).length 0 (Nat.zero_le _) (fun j => Exp x.zA ((x.zB.getD i []).getD j []) i) (fun _ => false) (fun j _ hj _ => by
     refine vS (zBp ho hi) (by omega) ?_
     unfold zQZ
     rw [yQ hj,zJ,yD [] hj,bs]) (by
     unfold zQZ
     rw [xD,zF]) with ⟨g1,g2⟩ | ⟨j,_,hj,g1,g2⟩
   ·rw [show ((0:Nat):Int) = 0 from rfl] at g1
    rw [g1,bs]
    simp only
    rw [zD (by omega) (by omega),bs,cs]
    exact .inl ⟨rfl,h2,hl,fun j hj => g2 j (Nat.zero_le _) hj⟩
   ·rw [show ((0:Nat):Int) = 0 from rfl] at g1
    rw [g1,bs]
    exact .inr ⟨rfl,fun g => g2 (g.2.2 j hj)⟩
  ·rw [qA (by omega),zJ]
   exact .inr ⟨rfl,fun g => hl g.2.1⟩
 ·rw [h1,bs,Bool.not_false,zJ]
  exact .inr ⟨rfl,fun g => h2 g.1⟩
theorem zLj {x:SPr} (ho:Os x.zA) (hp:x.zU.length = x.zA.length) (hc:x.zB.length = x.zA.length) {i:Nat} (hi:i < x.zA.length) :
  (zLO x i = some (.inl ((i + 1:Nat):Int)) ∧ zGh x i) ∨ (zLO x i = some (.inr (.inr false)) ∧ ¬ zGh x i):=by
 have h6:=ho.1
 unfold zLO
 rw [yQ hi,zJ,yD [] (by omega),bs]
 rcases zBI (v:=x.zU.getD i []) ho hi with ⟨h1,h2⟩ | ⟨h1,h2⟩
 ·rw [h1,bs,Bool.not_true,zF,yD [] (by omega),bs,zD (by omega) (by omega),bs,zD (by omega) (by omega),bs]
  by_cases hl:(x.zB.getD i []).length + i + 1 = x.zA.length
  ·rw [jP (by omega),zF]
   rcases chk (body:=zQF x i) (x.zB.getD i []).length 0 (Nat.zero_le _) (fun j => Exp x.zA ((x.zB.getD i []).getD j []) i) (fun _ => false) (fun j _ hj _ => by
     refine vS (zBI ho hi) (by omega) ?_
     unfold zQF
     rw [yD [] (by omega),bs,yQ hj,zJ,bs,yD [] hj,bs]) (by
     unfold zQF
     rw [yD [] (by omega),bs,xD,zF]) with ⟨g1,g2⟩ | ⟨j,_,hj,g1,g2⟩
   ·rw [show ((0:Nat):Int) = 0 from rfl] at g1
    rw [g1,bs]
    simp only
    rw [zD (by omega) (by omega),bs,cs]
    exact .inl ⟨rfl,h2,hl,fun j hj => g2 j (Nat.zero_le _) hj⟩
   ·rw [show ((0:Nat):Int) = 0 from rfl] at g1
    rw [g1,bs]
    exact .inr ⟨rfl,fun g => g2 (g.2.2 j hj)⟩
  ·rw [qA (by omega),zJ]
   exact .inr ⟨rfl,fun g => hl g.2.1⟩
 ·rw [h1,bs,Bool.not_false,zJ]
  exact .inr ⟨rfl,fun g => h2 g.1⟩
theorem zJA {x:SPr} (h6:x.zA.length ≤ 6) :
  (zH (zLS x) (1,0) = some (.inl ()) ∧ Os x.zA ∧ pr x.zA x.zA.length ≤ 729) ∨ (zH (zLS x) (1,0) = some (.inr false) ∧ ¬ (Os x.zA ∧ pr x.zA x.zA.length ≤ 729)):=by
 rcases zXG (body:=zLS x) (fun i => (pr x.zA i,(i:Int))) x.zA.length 0 (Nat.zero_le _) (fun i => Prime (at0 x.zA i) ∧ pr x.zA (i + 1) ≤ 729) (fun _ => false) (fun i _ hi hpre => by
   have hp:∀ j,j < i → Prime (at0 x.zA j):=fun j hj => (hpre j (Nat.zero_le _) hj).1
   have hpp:=zGg hp
   have hle:pr x.zA i ≤ 729:=by
    cases i with
    | zero => simp [pr]
    | succ i => exact (hpre i (Nat.zero_le _) (by omega)).2
   unfold zLS
   rw [yQ hi,zJ,yF hi,bs]
   rcases zAX (at0 x.zA i) with ⟨h1,h2⟩ | ⟨h1,h2⟩
   ·have h3:=h2.pos
    have h4:pr x.zA i * at0 x.zA i ≤ 729 * 7:=Int.mul_le_mul hle h3.2 (by omega) (by omega)
    have h5:1 * 1 ≤ pr x.zA i * at0 x.zA i:=Int.mul_le_mul hpp (by omega) (by omega) (by omega)
    simp only
    rw [h1,bs,Bool.not_true,zF,zD (by omega) (by omega),bs]
    by_cases h7:pr x.zA i * at0 x.zA i > 729
    ·rw [decide_eq_true h7,zJ]
     exact .inr ⟨rfl,fun g => by have:=g.2;simp only [pr] at this;omega⟩
    ·rw [decide_eq_false h7,zF,bs,zD (by omega) (by omega),bs,cs]
     exact .inl ⟨rfl,h2,by simp only [pr];omega⟩
   ·rw [h1,bs,Bool.not_false,zJ]
    exact .inr ⟨rfl,fun g => h2 g.1⟩) (by
   unfold zLS
   rw [xD,zF]) with ⟨g1,g2⟩ | ⟨i,_,hi,g1,g2⟩
 ·refine .inl ⟨g1,⟨by omega,fun i hi => (g2 i (Nat.zero_le _) hi).1⟩,?_⟩
  cases hn:x.zA.length with
  | zero => simp [pr]
  | succ n => exact (g2 n (Nat.zero_le _) (by omega)).2
 ·refine .inr ⟨g1,fun ⟨h1,h2⟩ => g2 ⟨h1.2 i hi,?_⟩⟩
  have:=zMX (os:=x.zA) (n:=x.zA.length) h1.2 (x.zA.length - (i + 1)) (by omega)
  rw [show x.zA.length - (x.zA.length - (i + 1)) = i + 1 from by omega] at this
  omega
theorem zIx {os:List Int} (ho:Os os):zSP os = some (cp os os.length):=by
 have h6:=ho.1
 unfold zSP
 rw [show (1,0) = (fun i => (cp os i,(i:Int))) 0 from rfl,zO (body:=zKp os) (r:=cp os os.length) (fun i => (cp os i,(i:Int))) os.length (fun i hi => by
  have hp:=(ho.2 i hi).pos
  have hc:=zPP (os:=os) (i:=i) fun j hj => ho.2 j (by omega)
  have hpp:=zGg (os:=os) (i:=i) fun j hj => ho.2 j (by omega)
  unfold zKp
  rw [yQ hi,zJ]
  simp only [cp]
  by_cases h:cp os i ≤ 729
  ·have h4:cp os i * at0 os i ≤ 729 * 7:=Int.mul_le_mul h hp.2 (by omega) (by omega)
   have h5:1 * 1 ≤ cp os i * at0 os i:=Int.mul_le_mul (by omega) (by omega) (by omega) (by omega)
   rw [decide_eq_true h,zJ,yF hi,bs,zD (by omega) (by omega),bs,zD (by omega) (by omega),bs,cs,if_pos h]
  ·rw [decide_eq_false h,zF,zD (by omega) (by omega),bs,cs,if_neg h]) (by
  unfold zKp
  rw [xD,zF]),bs]
theorem zCt {x:SPr} (hl:x.zA.length ≤ 1048576):IsB (f_q x) (zGi x):=by
 unfold f_q
 by_cases h6:x.zA.length ≤ 6
 ·rw [decide_eq_false (by omega),zF]
  by_cases hp:x.zU.length = x.zA.length
  ·rw [jP (by omega),zF]
   by_cases hc:x.zB.length = x.zA.length
   ·rw [jP (by omega),zF]
    rcases zJA h6 with ⟨h1,h2,h3⟩ | ⟨h1,h2⟩
    ·rw [h1,bs]
     exact (tU (f:=(zH (zLT x) 0).bind fun r => match r with | .inl _ => some true | .inr r => some r) x.zA.length (zGh x) rfl (fun i hi _ => zLi h2 hp hc hi) (by
      unfold zLT
      rw [xD,zF])).iff ⟨fun g => ⟨⟨h2,hp,hc,g⟩,h6,h3⟩,fun g => g.tl⟩
    ·rw [h1,bs]
     exact .inr ⟨rfl,fun g => h2 ⟨g.os,g.pr⟩⟩
   ·rw [qA (by omega),zJ]
    exact .inr ⟨rfl,fun g => hc g.cl⟩
  ·rw [qA (by omega),zJ]
   exact .inr ⟨rfl,fun g => hp g.pl⟩
 ·rw [decide_eq_true (by omega),zJ]
  exact .inr ⟨rfl,fun g => h6 g.n6⟩
theorem zCu {x:SPr} (hl:x.zA.length ≤ 1048576):IsB (f_u x) (zGi x):=by
 unfold f_u
 by_cases h6:x.zA.length ≤ 6
 ·rw [decide_eq_false (by omega),zF]
  by_cases hp:x.zU.length = x.zA.length
  ·rw [jP (by omega),zF]
   by_cases hc:x.zB.length = x.zA.length
   ·rw [jP (by omega),zF]
    rcases chk (body:=zQE x) x.zA.length 0 (Nat.zero_le _) (fun i => Prime (at0 x.zA i)) (fun _ => false) (fun i _ hi _ => by
      refine vS (zGf _) (by omega) ?_
      unfold zQE
      rw [yQ hi,zJ,yF hi,bs]) (by
      unfold zQE
      rw [xD,zF]) with ⟨g1,g2⟩ | ⟨i,_,hi,g1,g2⟩
    ·rw [show ((0:Nat):Int) = 0 from rfl] at g1
     have ho:Os x.zA:=⟨by omega,fun i hi => g2 i (Nat.zero_le _) hi⟩
     have hcp:=zPP (os:=x.zA) (i:=x.zA.length) ho.2
     rw [g1,bs]
     simp only
     rw [zIx ho,bs]
     by_cases h7:cp x.zA x.zA.length > 729
     ·rw [decide_eq_true h7,zJ]
      exact .inr ⟨rfl,fun g => by have:=g.pr;omega⟩
     ·rw [decide_eq_false h7,zF]
      exact (tU (f:=(zH (zLO x) 0).bind fun r => match r with | .inl _ => some true | .inr r => some r) x.zA.length (zGh x) rfl (fun i hi _ => zLj ho hp hc hi) (by
       unfold zLO
       rw [xD,zF])).iff ⟨fun g => ⟨⟨ho,hp,hc,g⟩,h6,by omega⟩,fun g => g.tl⟩
    ·rw [show ((0:Nat):Int) = 0 from rfl] at g1
     rw [g1,bs]
     exact .inr ⟨rfl,fun g => g2 (g.os.2 i hi)⟩
   ·rw [qA (by omega),zJ]
    exact .inr ⟨rfl,fun g => hc g.cl⟩
  ·rw [qA (by omega),zJ]
   exact .inr ⟨rfl,fun g => hp g.pl⟩
 ·rw [decide_eq_true (by omega),zJ]
  exact .inr ⟨rfl,fun g => h6 g.n6⟩
end Go.Pl

namespace Go.Pl
open Go Go.Ab Go.Wk Go.Pc
def lvl (x:SPr) (i:Nat):Lvl:=⟨at0 x.zA i,(x.zU.getD i []).drop (i + 1),(x.zB.getD i []).map (·.drop (i + 1))⟩
def suf (x:SPr) (k:Nat):Pcp:=(List.range' k (x.zA.length - k)).map (lvl x)
theorem xI (x:SPr) (k:Nat):(suf x k).length = x.zA.length - k:=by simp [suf]
theorem yK {x:SPr} {k:Nat} (h:k < x.zA.length):suf x k = lvl x k :: suf x (k + 1):=by
 unfold suf
 rw [show x.zA.length - k = (x.zA.length - (k + 1)) + 1 from by omega,List.range'_succ,List.map_cons]
theorem vY {x:SPr} {k:Nat} (h:x.zA.length ≤ k):suf x k = []:=by
 unfold suf;rw [show x.zA.length - k = 0 from by omega];rfl
theorem zAB {os v:List Int} {k:Nat} (h:Exp os v k) (hk:k < os.length):v = zeros (k + 1) ++ v.drop (k + 1):=by
 have h1:=h.1.1
 apply List.ext_getElem?
 intro i
 rw [List.getElem?_append]
 simp only [zeros,List.length_replicate,List.getElem?_replicate,List.getElem?_drop]
 split
 ·rename_i hi
  have h2:=h.2 i (by omega)
  rw [List.getElem?_eq_getElem (by omega)]
  rw [at0,List.getD_eq_getElem?_getD,List.getElem?_eq_getElem (by omega)] at h2
  simpa using h2
 ·rw [show k + 1 + (i - (k + 1)) = i from by omega]
theorem zUS {x:SPr}:∀ (d k:Nat) (v:List Int),k + d = x.zA.length → v.length = d → (∀ i,i < d → 0 ≤ at0 v i ∧ at0 v i ≤ at0 x.zA (k + i) - 1) → V (suf x k) v
 | 0,k,v,hk,hv,_ => by
  rw [vY (by omega)]
  simpa [V] using hv
 | d + 1,k,v,hk,hv,h => by
  rw [yK (by omega)]
  match v,hv with
  | a :: v,hv =>
   have h0:=h 0 (by omega)
   simp only [at0,List.getD_cons_zero,Nat.add_zero] at h0
   refine ⟨⟨h0.1,by simp only [lvl,at0];omega⟩,zUS d (k + 1) v (by omega) (by simpa using hv) fun i hi => ?_⟩
   have:=h (i + 1) (by omega)
   simp only [at0,List.getD_cons_succ] at this
   rw [show k + 1 + i = k + (i + 1) from by omega]
   exact this
theorem zH3 {x:SPr} {v:List Int} {k:Nat} (h:Exp x.zA v k) (hk:k < x.zA.length):V (suf x (k + 1)) (v.drop (k + 1)):=by
 have h1:=h.1.1
 refine zUS (x.zA.length - (k + 1)) (k + 1) _ (by omega) (by rw [List.length_drop];omega) fun i hi => ?_
 have:=h.1.2 (k + 1 + i) (by omega)
 have e:at0 (v.drop (k + 1)) i = at0 v (k + 1 + i):=by simp only [at0,List.getD_eq_getElem?_getD,List.getElem?_drop]
 rw [e];exact this
theorem Pres.ok {x:SPr} (h:Pres x):∀ (d k:Nat),k + d = x.zA.length → Pc.Ok (suf x k)
 | 0,k,hk => by rw [vY (by omega)];simp only [Pc.Ok]
 | d + 1,k,hk => by
  rw [yK (by omega)]
  obtain ⟨t1,t2,t3⟩:=h.tl k (by omega)
  refine ⟨by simp only [lvl];have:=(h.os.2 k (by omega)).pos;omega,zH3 t1 (by omega),?_,fun c hc => ?_,Pres.ok h d (k + 1) (by omega)⟩
  ·rw [xI];simp only [lvl,List.length_map];omega
  ·simp only [lvl,List.mem_map] at hc
   obtain ⟨u,hu,rfl⟩:=hc
   obtain ⟨j,hj,rfl⟩:=List.mem_iff_getElem.1 hu
   have:=t3 j hj
   rw [List.getD_eq_getElem?_getD,List.getElem?_eq_getElem hj] at this
   exact zH3 this (by omega)
theorem Pres.okAt {x:SPr} (h:Pres x) {k:Nat} (hk:k ≤ x.zA.length):Pc.Ok (suf x k):=h.ok (x.zA.length - k) k (by omega)
theorem zS (n:Nat):(zeros n).length = n:=by simp [zeros]
theorem zEG (k:Nat):zeros (k + 1) = zeros k ++ [0]:=by simp [zeros,List.replicate_succ']
theorem zC9 {k:Nat} {a b:Int} {v:Vec}:(zeros k ++ a :: v).set k b = zeros k ++ b :: v:=by
 rw [List.set_append_right _ _ (by rw [zS];omega),zS,Nat.sub_self,List.set_cons_zero]
theorem zBJ {k:Nat} {a:Int} {v:Vec}:ixO (zeros k ++ a :: v) (k:Int) = some a:=by
 rw [vA,List.getElem?_append_right (by rw [zS];omega),zS,Nat.sub_self];rfl
theorem zAY {k:Nat} {v:Vec}:zeros k ++ 0 :: v = zeros (k + 1) ++ v:=by rw [zEG,List.append_assoc];rfl
theorem tK {v:List Int} (h:v.length ≤ 1000000):f_t v = some v:=by
 unfold f_t
 rw [yM (by simp;omega),bs,List.nil_append]
end Go.Pl

namespace Go.Pl
open Go Go.Ab Go.Wk Go.Pc
theorem zAC {m:Vec → Vec → Vec}:∀ (cs:List Vec) (x:Vec) (i:Nat) (acc:Vec),i < cs.length → i < x.length →
  img m (cs.take (i + 1)) (x.take (i + 1)) acc = iter (at0 x i).toNat (fun v => m v (cs.getD i [])) (img m (cs.take i) (x.take i) acc)
 | [],_,_,_,h,_ => by simp at h
 | _ :: _,[],_,_,_,h => by simp at h
 | c :: cs,a :: x,0,acc,_,_ => by simp only [Nat.zero_add,List.take_succ_cons,List.take_zero,img,at0,List.getD_cons_zero]
 | c :: cs,a :: x,i + 1,acc,h,h' => by
  simp only [List.take_succ_cons,img,at0,List.getD_cons_succ]
  exact zAC cs x i _ (by simpa using h) (by simpa using h')
theorem vD {α β:Type} {body:α × Int → Option ((α × Int) ⊕ α)} {S:β → Prop} (e:β → α) (g:β → β) (n:Int) (hn:0 ≤ n) (hS:∀ a,S a → S (g a))
  (h:∀ a (i:Nat),S a → (i:Int) < n → body (e a,(i:Int)) = some (.inl (e (g a),((i + 1:Nat):Int)))) (he:∀ a,S a → body (e a,n) = some (.inr (e a))) {a:β} (ha:S a) :
  zH body (e a,0) = some (e (iter n.toNat g a)):=by
 have hit:∀ k,S (iter k g a):=fun k => wZ (S:=S) hS k ha
 exact zO (body:=body) (r:=e (iter n.toNat g a)) (fun i => (e (iter i g a),(i:Int))) n.toNat (fun i hi => by
  rw [h _ i (hit i) (by omega),vE]) (by
  rw [show ((n.toNat:Nat):Int) = n from by omega]
  exact he _ (hit _))
theorem zJB {k i:Nat} {v:Vec} (h:i < v.length):ixO (zeros k ++ v) ((k + i:Nat):Int) = some (at0 v i):=by
 rw [vA,List.getElem?_append_right (by rw [zS];omega),zS,show k + i - k = i from by omega,List.getElem?_eq_getElem h,at0,List.getD_eq_getElem?_getD,List.getElem?_eq_getElem h];rfl
theorem zCX {x:SPr} (ho:Os x.zA):∀ (d k:Nat) (v:List Int),k + d = x.zA.length → V (suf x k) v → v.length = d ∧ ∀ i,i < d → 0 ≤ at0 v i ∧ at0 v i < at0 x.zA (k + i) ∧ at0 v i ≤ 6
 | 0,k,v,hk,hv => by
  rw [vY (by omega)] at hv
  simp only [V] at hv
  subst hv
  exact ⟨rfl,fun i hi => by omega⟩
 | d + 1,k,v,hk,hv => by
  rw [yK (by omega)] at hv
  match v,hv with
  | a :: v,hv =>
   obtain ⟨h1,h2⟩:=zCX ho d (k + 1) v (by omega) hv.2
   refine ⟨by simp [h1],fun i hi => ?_⟩
   cases i with
   | zero =>
    have h3:=hv.1
    simp only [lvl] at h3
    have:=(ho.2 k (by omega)).pos
    simp only [at0,List.getD_cons_zero,Nat.add_zero] at h3 this ⊢
    omega
   | succ i =>
    have:=h2 i (by omega)
    simp only [at0,List.getD_cons_succ] at this ⊢
    rw [show k + (i + 1) = k + 1 + i from by omega]
    exact this
theorem zD2 {x:SPr} (h:Pres x) {k i:Nat} (hk:k < x.zA.length) (hi:i < x.zA.length - (k + 1)) :
  ∃ c,ixO x.zB (k:Int) = some (x.zB.getD k []) ∧ ixO (x.zB.getD k []) (i:Int) = some (zeros (k + 1) ++ c) ∧ V (suf x (k + 1)) c ∧ (lvl x k).cs.getD i [] = c:=by
 obtain ⟨t1,t2,t3⟩:=h.tl k hk
 have hc:=h.cl
 have ht:=t3 i (by omega)
 refine ⟨((x.zB.getD k []).getD i []).drop (k + 1),yD [] (by omega),?_,zH3 ht hk,?_⟩
 ·rw [yD [] (by omega),← zAB ht hk]
 ·simp only [lvl,List.getD_eq_getElem?_getD,List.getElem?_map]
  rw [List.getElem?_eq_getElem (l:=x.zB[k]?.getD []) (by rw [List.getD_eq_getElem?_getD] at t2;omega)]
  rfl
def FAt (x:SPr) (k:Nat) (g:SPr → Int → List Int → List Int → Option (List Int)):Prop :=
 ∀ a b,V (suf x k) a → V (suf x k) b → g x k (zeros k ++ a) (zeros k ++ b) = some (zeros k ++ mul (suf x k) a b)
def FIm (x:SPr) (k:Nat) (g:SPr → Int → List Int → Option (List Int)):Prop :=
 ∀ v,V (suf x (k + 1)) v → g x k (zeros (k + 1) ++ v) = some (zeros (k + 1) ++ sig (suf x (k + 1)) (lvl x k) v)
theorem zLk {x:SPr} (h:Pres x) {k:Nat} (hk:k < x.zA.length) {g:SPr → Int → List Int → List Int → Option (List Int)} (hg:FAt x (k + 1) g):FIm x k (b_e g):=by
 intro v hv
 have h6:=h.os.1
 have ok:=h.okAt (k:=k + 1) (by omega)
 obtain ⟨hvl,hvr⟩:=zCX h.os (x.zA.length - (k + 1)) (k + 1) v (by omega) hv
 have hlen:=xI x (k + 1)
 have hcl:(lvl x k).cs.length = x.zA.length - (k + 1):=by
  have:=h.okAt (k:=k) (by omega)
  rw [yK hk] at this
  rw [this.2.2.1,hlen]
 have hcs:∀ c ∈ (lvl x k).cs,V (suf x (k + 1)) c:=by
  have:=h.okAt (k:=k) (by omega)
  rw [yK hk] at this
  exact this.2.2.2.1
 have hA:∀ i,V (suf x (k + 1)) (img (mul (suf x (k + 1))) ((lvl x k).cs.take i) (v.take i) (zeros (suf x (k + 1)).length)):=fun i =>
  sS (xJ ok) _ _ (fun c hc => hcs c (List.mem_of_mem_take hc)) (wH ok)
 unfold b_e
 rw [yT (by omega),bs,zD (by omega) (by omega),bs,cs]
 have hz:List.replicate x.zA.length (0:Int) = zeros (k + 1) ++ zeros (suf x (k + 1)).length:=by
  rw [hlen];simp only [zeros,List.replicate_append_replicate];congr 1;omega
 rw [hz]
 have:=zO (body:=zQH g x k (zeros (k + 1) ++ v)) (r:=zeros (k + 1) ++ sig (suf x (k + 1)) (lvl x k) v)
  (fun i => (zeros (k + 1) ++ img (mul (suf x (k + 1))) ((lvl x k).cs.take i) (v.take i) (zeros (suf x (k + 1)).length),((k + 1 + i:Nat):Int))) (x.zA.length - (k + 1)) (fun i hi => by
  have hr:=hvr i hi
  obtain ⟨c,c1,c2,c3,c4⟩:=zD2 h hk hi
  unfold zQH
  rw [decide_eq_true (by simp only;omega),zJ]
  rw [vD (S:=V (suf x (k + 1))) (body:=zQG g x k (zeros (k + 1) ++ v) (zeros (k + 1) ++ img (mul (suf x (k + 1))) ((lvl x k).cs.take i) (v.take i) (zeros (suf x (k + 1)).length),((k + 1 + i:Nat):Int))) (fun u => zeros (k + 1) ++ u) (fun u => mul (suf x (k + 1)) u c) (at0 v i) hr.1 (fun u hu => xJ ok hu c3) (fun u q hu hq => by
   unfold zQG
   simp only
   rw [zJB (by omega),bs,decide_eq_true hq,zJ,zD (by omega) (by omega),bs,c1,bs,zD (by omega) (by omega),bs,zD (by omega) (by omega),bs,
    show (((k + 1 + i:Nat):Int) - (k:Int) - 1) = (i:Int) from by omega,c2,bs,cs,hg u c hu c3,bs,zD (by omega) (by omega),bs,cs]) (fun u hu => by
   unfold zQG
   simp only
   rw [zJB (by omega),bs,decide_eq_false (by omega),zF]) (hA i),bs,zD (by omega) (by omega),bs,cs]
  rw [zAC _ _ _ _ (by omega) (by omega),c4]
  rfl) (by
  unfold zQH
  rw [decide_eq_false (by simp only;omega),zF,List.take_of_length_le (by omega),List.take_of_length_le (by omega)]
  rfl)
 simp only [List.take_zero,img] at this
 rw [this,bs]
theorem zS0 {x:SPr} (h:Pres x) {k:Nat} (hk:k < x.zA.length) {g:SPr → Int → List Int → List Int → Option (List Int)} {gi:SPr → Int → List Int → Option (List Int)} (hg:FAt x (k + 1) g) (hi:FIm x k gi):FAt x k (b_a gi g):=by
 intro a b ha hb
 have h6:=h.os.1
 have hp:=(h.os.2 k hk).pos
 have ok:=h.okAt (k:=k + 1) (by omega)
 have ok0:=h.okAt (k:=k) (by omega)
 obtain ⟨hal,har⟩:=zCX h.os (x.zA.length - k) k a (by omega) ha
 obtain ⟨hbl,hbr⟩:=zCX h.os (x.zA.length - k) k b (by omega) hb
 rw [yK hk] at ha hb ok0
 obtain ⟨a0,a,rfl⟩:∃ a0 a',a = a0 :: a':=by cases a with | nil => simp at hal;omega | cons p q => exact ⟨p,q,rfl⟩
 obtain ⟨b0,b,rfl⟩:∃ a0 a',b = a0 :: a':=by cases b with | nil => simp at hbl;omega | cons p q => exact ⟨p,q,rfl⟩
 obtain ⟨⟨a1,a2⟩,ha⟩:=ha
 obtain ⟨⟨b1,b2⟩,hb⟩:=hb
 have hor:(lvl x k).o = at0 x.zA k:=rfl
 rw [hor] at a2 b2
 unfold b_a
 rw [decide_eq_false (by omega),zF,tK (by simp [zS] at hal ⊢;omega),bs,tK (by simp [zS] at hbl ⊢;omega),bs,zBJ,bs,zBJ,bs,Int.toNat_natCast,zC9,zC9,zAY,zAY]
 have hsig:∀ u,V (suf x (k + 1)) u → V (suf x (k + 1)) (sig (suf x (k + 1)) (lvl x k) u):=fun u hu => zEl ok0 hu
 have hit:V (suf x (k + 1)) (iter b0.toNat (sig (suf x (k + 1)) (lvl x k)) a):=wZ hsig _ ha
 rw [vD (S:=V (suf x (k + 1))) (fun u => zeros (k + 1) ++ u) (sig (suf x (k + 1)) (lvl x k)) b0 b1 hsig (fun u q hu hq => by
   unfold zSQ
   simp only
   rw [zBJ,bs,decide_eq_true hq,zJ,hi u hu,bs,zD (by omega) (by omega),bs,cs]) (fun u hu => by
   unfold zSQ
   simp only
   rw [zBJ,bs,decide_eq_false (by omega),zF]) ha,bs,zD (by omega) (by omega),bs,cs,hg _ _ hit hb,bs,bs,bs,zD (by omega) (by omega),bs,yF hk,bs]
 have hm:=xJ ok hit hb
 have hml:=(zCX h.os (x.zA.length - (k + 1)) (k + 1) _ (by omega) hm).1
 have own:∀ u,V (suf x (k + 1)) u → f_t (zeros (k + 1) ++ u) = some (zeros (k + 1) ++ u):=fun u hu => tK (by
  have:=(zCX h.os (x.zA.length - (k + 1)) (k + 1) _ (by omega) hu).1
  rw [List.length_append,zS];omega)
 rw [yK hk,yR,hor]
 by_cases hge:a0 + b0 ≥ at0 x.zA k
 ·have t1:=(h.tl k hk).1
  have hw:=zH3 t1 hk
  have hwl:=h.pl
  rw [decide_eq_true hge,zJ,if_pos hge,bs,zD (by omega) (by omega),bs,bs,yD [] (by omega),bs,zAB t1 hk,hg _ _ hw hm,bs,own _ (xJ ok hw hm),bs]
  rw [← zAY,zBJ,bs,zC9]
  rfl
 ·rw [decide_eq_false hge,zF,if_neg hge,own _ hm,bs,← zAY,zBJ,bs,zC9]
theorem zEo {x:SPr} (h:Pres x):∀ (d k:Nat),k + d = x.zA.length → (∀ m,2 * d + 1 ≤ m → FAt x k (zLQ m)) ∧ (1 ≤ d → ∀ m,2 * d ≤ m → FIm x k (zLP m))
 | 0,k,hk => by
  refine ⟨fun m hm a b ha hb => ?_,fun h => by omega⟩
  have h6:=h.os.1
  obtain ⟨m,rfl⟩:∃ m',m = m' + 1:=⟨m - 1,by omega⟩
  show b_a _ _ x k _ _ = _
  unfold b_a
  rw [decide_eq_true (by omega),zJ,yT (by omega),bs,vY (by omega)]
  simp only [mul,List.append_nil,zeros]
  rw [show k = x.zA.length from by omega]
 | d + 1,k,hk => by
  obtain ⟨h1,h2⟩:=zEo h d (k + 1) (by omega)
  have hI:∀ m,2 * (d + 1) ≤ m → FIm x k (zLP m):=fun m hm => by
   obtain ⟨m,rfl⟩:∃ m',m = m' + 1:=⟨m - 1,by omega⟩
   exact zLk h (by omega) (h1 m (by omega))
  refine ⟨fun m hm => ?_,fun _ => hI⟩
  obtain ⟨m,rfl⟩:∃ m',m = m' + 1:=⟨m - 1,by omega⟩
  exact zS0 h (by omega) (h1 m (by omega)) (hI m (by omega))
theorem zMY {x:SPr} (h:Pres x) {k:Nat} (hk:k ≤ x.zA.length):FAt x k f_a:=fun a b ha hb =>
 zA7 (2 * (x.zA.length - k) + 1) fun m hm => (zEo h (x.zA.length - k) k (by omega)).1 m hm a b ha hb
theorem zLl {x:SPr} (h:Pres x) {k:Nat} (hk:k < x.zA.length):FIm x k f_e:=fun v hv =>
 zA7 (2 * (x.zA.length - k)) fun m hm => (zEo h (x.zA.length - k) k (by omega)).2 (by omega) m hm v hv
end Go.Pl

namespace Go.Pl
open Go Go.Ab Go.Wk Go.Pc
theorem zBK:∀ {P Q:Pcp},Q <:+ P → vC P → vC Q
 | [],Q,h,_ => by
  have:=List.suffix_nil.1 h
  subst this;simp only [vC]
 | l :: P,Q,h,hc => by
  rcases List.suffix_cons_iff.1 h with rfl | h
  ·exact hc
  ·exact zBK h hc.1
theorem zH4:∀ {P Q:Pcp},Q <:+ P → Pc.Ok P → Pc.Ok Q
 | [],Q,h,_ => by
  have:=List.suffix_nil.1 h
  subst this;simp only [Pc.Ok]
 | l :: P,Q,h,hc => by
  rcases List.suffix_cons_iff.1 h with rfl | h
  ·exact hc
  ·exact zH4 h hc.2.2.2.2
theorem zLm (x:SPr) (k:Nat):suf x (k + 1) <:+ suf x k:=by
 by_cases h:k < x.zA.length
 ·rw [yK h];exact List.suffix_cons _ _
 ·rw [vY (by omega)];exact List.nil_suffix
theorem zD3 {x:SPr} {k:Nat} (h:vC (suf x k)):∀ i,vC (suf x (k + i))
 | 0 => h
 | i + 1 => zBK (zLm x (k + i)) (zD3 h i)
theorem zGj {x:SPr} (h:Pres x) {k:Nat} (hk:k ≤ x.zA.length) (hc:vC (suf x k)):Grp (V (suf x k)) (mul (suf x k)) (zeros (suf x k).length):=zMR _ (h.okAt hk) hc
theorem zFc {x:SPr}:∀ (i k:Nat) (v:Vec),k + i ≤ x.zA.length → V (suf x k) v → ∃ q v',v = q ++ v' ∧ q.length = i ∧ V (suf x (k + i)) v' ∧
  ∀ a b,V (suf x (k + i)) a → V (suf x (k + i)) b → mul (suf x k) (q ++ a) (zeros i ++ b) = q ++ mul (suf x (k + i)) a b
 | 0,k,v,_,hv => ⟨[],v,rfl,rfl,hv,fun a b _ _ => rfl⟩
 | i + 1,k,v,hk,hv => by
  rw [yK (by omega)] at hv
  match v,hv with
  | e :: v,hv =>
   obtain ⟨q,v',h1,h2,h3,h4⟩:=zFc i (k + 1) v (by omega) hv.2
   rw [show k + 1 + i = k + (i + 1) from by omega] at h3 h4
   refine ⟨e :: q,v',by rw [h1];rfl,by simp [h2],h3,fun a b ha hb => ?_⟩
   have he:=hv.1
   rw [yK (by omega)]
   show mul (lvl x k :: suf x (k + 1)) (e :: (q ++ a)) (0 :: (zeros i ++ b)) = _
   rw [yR,Int.add_zero,if_neg (by omega)]
   simp only [Int.toNat_zero,iter]
   rw [h4 a b ha hb];rfl
def FTV (x:SPr) (k:Nat) (g:SPr → List Int → List Int → Option (List Int)):Prop :=
 ∀ p v u,p.length = k → V (suf x k) v → V (suf x k) u → g x (p ++ v) (zeros k ++ u) = some (p ++ mul (suf x k) v u)
def FTG (x:SPr) (k:Nat) (g:SPr → List Int → Int → Option (List Int)):Prop :=
 ∀ p v,p.length = k → V (suf x k) v → g x (p ++ v) (k:Int) = some (p ++ mul (suf x k) v (1 :: zeros (x.zA.length - (k + 1))))
theorem zH5 {x:SPr} (h:Pres x) {k:Nat} (hk:k < x.zA.length) {g:SPr → List Int → List Int → Option (List Int)} (hg:FTV x (k + 1) g) {t:Vec} (ht:V (suf x (k + 1)) t)
  {body1:List Int × Int → Int → List Int × Int → Option ((List Int × Int) ⊕ List Int)} {body2:List Int × Int → Option ((List Int × Int) ⊕ List Int)}
  (hb2:∀ s,body2 s = cond (decide (s.2 < (t.length:Int))) ((ixO t s.2).bind fun v17 => (zH (body1 s v17) (s.1,0)).bind fun r => (rng (s.2 + 1)).bind fun v => some (.inl (r,v))) (some (.inr s.1)))
  (hb1:∀ s v q,body1 s v q = cond (decide (q.2 < v)) ((ixO x.zB (k:Int)).bind fun cl => (ixO cl s.2).bind fun c => (g x q.1 c).bind fun r => (rng (q.2 + 1)).bind fun w => some (.inl (r,w))) (some (.inr q.1)))
  {p:Vec} (hp:p.length = k + 1) {u:Vec} (hu:V (suf x (k + 1)) u):zH body2 (p ++ u,0) = some (p ++ img (mul (suf x (k + 1))) (lvl x k).cs t u):=by
 have h6:=h.os.1
 have ok:=h.okAt (k:=k + 1) (by omega)
 have ok0:=h.okAt (k:=k) (by omega)
 rw [yK hk] at ok0
 obtain ⟨htl,htr⟩:=zCX h.os (x.zA.length - (k + 1)) (k + 1) t (by omega) ht
 have hcl:(lvl x k).cs.length = x.zA.length - (k + 1):=by rw [ok0.2.2.1,xI]
 have hA:∀ i,V (suf x (k + 1)) (img (mul (suf x (k + 1))) ((lvl x k).cs.take i) (t.take i) u):=fun i =>
  sS (xJ ok) _ _ (fun c hc => ok0.2.2.2.1 c (List.mem_of_mem_take hc)) hu
 have:=zO (body:=body2) (r:=p ++ img (mul (suf x (k + 1))) (lvl x k).cs t u) (fun i => (p ++ img (mul (suf x (k + 1))) ((lvl x k).cs.take i) (t.take i) u,(i:Int))) t.length (fun i hi => by
  have hr:=htr i (by omega)
  obtain ⟨c,c1,c2,c3,c4⟩:=zD2 h hk (i:=i) (by omega)
  rw [hb2]
  simp only
  rw [yQ hi,zJ,yF hi,bs]
  rw [vD (S:=V (suf x (k + 1))) (fun u => p ++ u) (fun u => mul (suf x (k + 1)) u c) (at0 t i) hr.1 (fun u hu => xJ ok hu c3) (fun u q hu hq => by
   rw [hb1]
   simp only
   rw [decide_eq_true hq,zJ,c1,bs,c2,bs,hg p u c hp hu c3,bs,zD (by omega) (by omega),bs,cs]) (fun u hu => by
   rw [hb1]
   simp only
   rw [decide_eq_false (by omega),zF]) (hA i),bs,zD (by omega) (by omega),bs,cs]
  rw [zAC _ _ _ _ (by omega) (by omega),c4]) (by
  rw [hb2]
  simp only
  rw [xD,zF,List.take_of_length_le (by omega),List.take_of_length_le (by omega)])
 simp only [List.take_zero,img] at this
 exact this
theorem zTY {p v:Vec} {a:Int} {k:Nat} (hp:p.length = k):ixO (p ++ a :: v) (k:Int) = some a:=by
 rw [vA,List.getElem?_append_right (by omega),hp,Nat.sub_self];rfl
theorem p_set {p v:Vec} {a b:Int} {k:Nat} (hp:p.length = k):(p ++ a :: v).set k b = p ++ b :: v:=by
 rw [List.set_append_right _ _ (by omega),hp,Nat.sub_self,List.set_cons_zero]
theorem zJC {x:SPr} (h:Pres x) {k:Nat} (hk:k < x.zA.length) (hc:vC (suf x (k + 1))) {g:SPr → List Int → List Int → Option (List Int)} (hg:FTV x (k + 1) g):FTG x k (b_b g):=by
 intro p v hp hv
 have h6:=h.os.1
 have G:=zGj h (k:=k + 1) (by omega) hc
 have ok:=h.okAt (k:=k + 1) (by omega)
 have ok0:=h.okAt (k:=k) (by omega)
 obtain ⟨hvl,hvr⟩:=zCX h.os (x.zA.length - k) k v (by omega) hv
 rw [yK hk] at hv ok0
 obtain ⟨e,t,rfl⟩:∃ a0 a',v = a0 :: a':=by cases v with | nil => simp at hvl;omega | cons p q => exact ⟨p,q,rfl⟩
 obtain ⟨⟨e1,e2⟩,ht⟩:=hv
 have hor:(lvl x k).o = at0 x.zA k:=rfl
 rw [hor] at e2
 have hpr:=(h.os.2 k hk).pos
 have htl:=(zCX h.os (x.zA.length - (k + 1)) (k + 1) t (by omega) ht).1
 have hsl:=xI x (k + 1)
 unfold b_b
 have hs:zX (p ++ e :: t) ((k + 1:Nat):Int) ((p ++ e :: t).length:Int) = some t:=by
  unfold zX
  rw [if_pos (by simp only [List.length_append,List.length_cons];omega)]
  have e3:(p ++ e :: t).drop (k + 1) = t:=by
   rw [List.drop_append,List.drop_of_length_le (by omega),hp,show k + 1 - k = 1 from by omega];rfl
  simp only [Int.toNat_natCast,e3,List.length_append,List.length_cons]
  rw [List.take_of_length_le (by omega)]
 have hclone:f_x t = some t:=by
  unfold f_x
  rw [yM (by simp;omega),bs,List.nil_append]
 rw [zD (by omega) (by omega),bs,cs,hs,bs,hclone,bs]
 have hz:=zO (body:=zRa k t) (r:=(p ++ [e]) ++ zeros t.length) (fun i => ((p ++ [e]) ++ (zeros i ++ t.drop i),(i:Int))) t.length (fun i hi => by
  have hl:((p ++ [e]) ++ zeros i).length = k + 1 + i:=by simp [zS,hp];omega
  unfold zRa
  simp only
  rw [yQ hi,zJ,zD (by omega) (by omega),bs,zD (by omega) (by omega),bs,show (k:Int) + 1 + (i:Int) = ((k + 1 + i:Nat):Int) from by omega,vA,← List.append_assoc,List.getElem?_append_right (by omega),hl,Nat.sub_self,
   List.drop_eq_getElem_cons hi,List.getElem?_cons_zero,bs,zD (by omega) (by omega),bs,cs,Int.toNat_natCast,List.set_append_right _ _ (by omega),hl,Nat.sub_self,List.set_cons_zero,zEG]
  simp only [List.append_assoc,List.cons_append,List.nil_append]) (by
  unfold zRa
  simp only
  rw [xD,zF,List.drop_length,List.append_nil])
 simp only [zeros,List.replicate_zero,List.drop_zero,List.nil_append,List.append_assoc,List.singleton_append] at hz
 rw [show ((0:Nat):Int) = 0 from rfl] at hz
 rw [hz,bs,Int.toNat_natCast,zTY hp,bs,zD (by omega) (by omega),bs,bs,p_set hp,zTY hp,bs,yF hk,bs]
 have hz2:List.replicate t.length (0:Int) = zeros (suf x (k + 1)).length:=by rw [hsl,htl];rfl
 rw [yK hk,yR,hor]
 have hone:mul (suf x (k + 1)) (iter (1:Int).toNat (sig (suf x (k + 1)) (lvl x k)) t) (zeros (x.zA.length - (k + 1))) = sig (suf x (k + 1)) (lvl x k) t:=by
  rw [← hsl]
  show mul _ (sig (suf x (k + 1)) (lvl x k) t) _ = _
  exact G.oner (zEl ok0 ht)
 rw [hone,hz2]
 by_cases heq:e + 1 = at0 x.zA k
 ·have t1:=(h.tl k hk).1
  have hw:=zH3 t1 hk
  have hwl:=h.pl
  have hp1:(p ++ [(0:Int)]).length = k + 1:=by simp [hp]
  rw [show (e + 1 == at0 x.zA k) = true from by simpa using heq,zJ,if_pos (by omega),bs,yD [] (by omega),bs,p_set hp]
  have hz3:p ++ 0 :: zeros (suf x (k + 1)).length = (p ++ [0]) ++ zeros (suf x (k + 1)).length:=by simp
  rw [hz3,zAB t1 hk,hg _ _ _ hp1 G.ein hw,bs,G.onel hw]
  rw [zH5 (body1:=zVu g x k) (body2:=zVv g x k t) h hk hg ht (fun _ => rfl) (fun _ _ _ => rfl) hp1 hw,bs]
  rw [zD0 G.toMon _ _ ok0.2.2.2.1 hw,show e + 1 - at0 x.zA k = 0 from by omega]
  simp only [List.append_assoc,List.singleton_append]
  rfl
 ·have hp1:(p ++ [e + 1]).length = k + 1:=by simp [hp]
  rw [show (e + 1 == at0 x.zA k) = false from by simpa using heq,zF,if_neg (by omega)]
  have hz3:p ++ (e + 1) :: zeros (suf x (k + 1)).length = (p ++ [e + 1]) ++ zeros (suf x (k + 1)).length:=by simp
  rw [hz3,zH5 (body1:=zVw g x k) (body2:=zVx g x k t) h hk hg ht (fun _ => rfl) (fun _ _ _ => rfl) hp1 G.ein,bs]
  simp only [List.append_assoc,List.singleton_append]
  rfl
theorem jV {n i:Nat} (h:i < n):wJ n i = zeros i ++ 1 :: zeros (n - (i + 1)):=by
 have:zeros n = zeros i ++ 0 :: zeros (n - (i + 1)):=by
  simp only [zeros]
  rw [← List.replicate_succ,List.replicate_append_replicate]
  congr 1;omega
 rw [wJ,this,zC9]
theorem zD4 (n:Nat):(xM n).length = n:=by simp [xM]
theorem zGk {n i:Nat} (h:i < n):(xM n).getD i [] = wJ n i:=by
 simp [xM,List.getD_eq_getElem?_getD,h]
theorem zPQ {x:SPr} (h:Pres x) {k:Nat} (hk:k ≤ x.zA.length) (hc:vC (suf x k)) {g:SPr → List Int → Int → Option (List Int)} (hg:∀ j,k ≤ j → j < x.zA.length → FTG x j g):FTV x k (b_c g):=by
 intro p v u hp hv hu
 have h6:=h.os.1
 have G:=zGj h hk hc
 have ok:=h.okAt hk
 obtain ⟨hul,hur⟩:=zCX h.os (x.zA.length - k) k u (by omega) hu
 have hsl:=xI x k
 have hV1:∀ j,j ≤ x.zA.length → j < x.zA.length → V (suf x j) (1 :: zeros (x.zA.length - (j + 1))):=fun j hj hj' => by
  rw [yK hj']
  have:=(h.os.2 j hj').pos
  refine ⟨⟨by omega,by show 1 < at0 x.zA j;omega⟩,?_⟩
  rw [← xI]
  exact wH (h.okAt (by omega))
 have hUn:∀ i,i < x.zA.length - k → V (suf x k) (wJ (x.zA.length - k) i):=fun i hi => by
  rw [← hsl] at hi ⊢
  exact zCV ok hi
 have hUs:∀ c ∈ xM (x.zA.length - k),V (suf x k) c:=fun c hc => by
  simp only [xM,List.mem_map,List.mem_range] at hc
  obtain ⟨i,hi,rfl⟩:=hc
  exact hUn i hi
 have hA:∀ i,V (suf x k) (img (mul (suf x k)) ((xM (x.zA.length - k)).take i) (u.take i) v):=fun i =>
  sS (xJ ok) _ _ (fun c hc => hUs c (List.mem_of_mem_take hc)) hv
 have hgen:∀ i w,i < x.zA.length - k → V (suf x k) w → g x (p ++ w) ((k + i:Nat):Int) = some (p ++ mul (suf x k) w (wJ (x.zA.length - k) i)):=fun i w hi hw => by
  obtain ⟨q,w',h1,h2,h3,h4⟩:=zFc i k w (by omega) hw
  have h5:=hg (k + i) (by omega) (by omega) (p ++ q) w' (by simp [hp,h2]) h3
  rw [List.append_assoc,← h1] at h5
  rw [h5,jV hi,h1,show x.zA.length - k - (i + 1) = x.zA.length - (k + i + 1) from by omega,h4 w' _ h3 (hV1 (k + i) (by omega) (by omega)),List.append_assoc]
 unfold b_c
 have hul2:(zeros k ++ u).length = x.zA.length:=by simp [zS];omega
 have:=zO (body:=zRc g x (zeros k ++ u)) (r:=p ++ mul (suf x k) v u) (fun j => (p ++ img (mul (suf x k)) ((xM (x.zA.length - k)).take (j - k)) (u.take (j - k)) v,(j:Int))) x.zA.length (fun j hj => by
  unfold zRc
  simp only
  rw [hul2,yQ hj,zJ]
  rcases Nat.lt_or_ge j k with hjk | hjk
  ·have e0:ixO (zeros k ++ u) (j:Int) = some 0:=by
    rw [vA,List.getElem?_append_left (by rw [zS];exact hjk)]
    simp [zeros,hjk]
   rw [e0,bs,show j - k = 0 from by omega,show j + 1 - k = 0 from by omega]
   rw [xG]
   unfold zRb
   simp only
   rw [show decide ((0:Int) < 0) = false from rfl,zF]
   simp only
   rw [bs,zD (by omega) (by omega),bs,cs]
  ·obtain ⟨i,rfl⟩:∃ i,j = k + i:=⟨j - k,by omega⟩
   have hi:i < x.zA.length - k:=by omega
   have hr:=hur i hi
   rw [zJB (by omega),bs,show k + i - k = i from by omega,show k + i + 1 - k = i + 1 from by omega]
   rw [vD (S:=V (suf x k)) (fun w => p ++ w) (fun w => mul (suf x k) w (wJ (x.zA.length - k) i)) (at0 u i) hr.1 (fun w hw => xJ ok hw (hUn i hi)) (fun w q hw hq => by
    unfold zRb
    simp only
    rw [decide_eq_true hq,zJ,hgen i w hi hw,bs,zD (by omega) (by omega),bs,cs]) (fun w hw => by
    unfold zRb
    simp only
    rw [decide_eq_false (by omega),zF]) (hA i),bs,zD (by omega) (by omega),bs,cs]
   rw [zAC _ _ _ _ (by rw [zD4];exact hi) (by omega),zGk hi]) (by
  unfold zRc
  simp only
  rw [hul2,xD,zF,List.take_of_length_le (by rw [zD4];omega),List.take_of_length_le (by omega),zD0 G.toMon _ _ hUs hv]
  have hn:=normal (suf x k) ok (fun Q hQ => (zMR Q (zH4 hQ ok) (zBK hQ hc)).toMon) u hu
  rw [hsl] at hn ⊢
  rw [hn])
 simp only [Nat.zero_sub,List.take_zero,img] at this
 rw [show ((0:Nat):Int) = 0 from rfl] at this
 rw [this,bs]
theorem zEp {x:SPr} (h:Pres x):∀ (d k:Nat),k + d = x.zA.length → vC (suf x k) → (∀ m,2 * d + 1 ≤ m → FTV x k (zOn m))
 | d,k,hk,hc => fun m hm => by
  obtain ⟨m,rfl⟩:∃ m',m = m' + 1:=⟨m - 1,by omega⟩
  refine zPQ h (by omega) hc fun j hj hjn => ?_
  obtain ⟨m,rfl⟩:∃ m',m = m' + 1:=⟨m - 1,by omega⟩
  have hcj:vC (suf x (j + 1)):=by
   have:=zD3 hc (j + 1 - k)
   rwa [show k + (j + 1 - k) = j + 1 from by omega] at this
  exact zJC h hjn hcj (zEp h (x.zA.length - (j + 1)) (j + 1) (by omega) hcj m (by omega))
 termination_by d => d
 decreasing_by omega
theorem zS1 {x:SPr} (h:Pres x) {k:Nat} (hk:k ≤ x.zA.length) (hc:vC (suf x k)):FTV x k f_c:=fun p v u hp hv hu =>
 zA7 (2 * (x.zA.length - k) + 1) fun m hm => zEp h (x.zA.length - k) k (by omega) hc m hm p v u hp hv hu
theorem zS2 {x:SPr} (h:Pres x) {k:Nat} (hk:k < x.zA.length) (hc:vC (suf x (k + 1))):FTG x k f_b:=fun p v hp hv =>
 zA7 (2 * (x.zA.length - k)) fun m hm => by
  obtain ⟨m,rfl⟩:∃ m',m = m' + 1:=⟨m - 1,by omega⟩
  exact zJC h hk hc (zEp h (x.zA.length - (k + 1)) (k + 1) (by omega) hc m (by omega)) p v hp hv
end Go.Pl

namespace Go.Pl
open Go Go.Ab Go.Wk Go.Pc
abbrev fv (k:Nat) (v:Vec):Vec:=zeros k ++ v
section
variable {x:SPr} (h:Pres x) {k:Nat} (hk:k ≤ x.zA.length) (hc:vC (suf x k))
 include h hk
theorem sG {v:Vec} (hv:V (suf x k) v):v.length = x.zA.length - k:=(zCX h.os (x.zA.length - k) k v (by omega) hv).1
theorem zBL {v:Vec} (hv:V (suf x k) v):(fv k v).length = x.zA.length:=by
 rw [List.length_append,zS,sG h hk hv];omega
theorem zMZ:List.replicate x.zA.length (0:Int) = fv k (zeros (suf x k).length):=by
 have _:=h
 rw [xI];simp only [fv,zeros,List.replicate_append_replicate];congr 1;omega
 include hc
theorem zLn {i:Nat} (hi:i < x.zA.length - k):V (suf x k) (wJ (x.zA.length - k) i):=by
 have _:=hc
 have:=xI x k
 rw [← this] at hi ⊢
 exact zCV (h.okAt hk) hi
theorem zJD {p:Vec} (hp:p.length = k) {i:Nat} (hi:i < x.zA.length - k) {w:Vec} (hw:V (suf x k) w):f_b x (p ++ w) ((k + i:Nat):Int) = some (p ++ mul (suf x k) w (wJ (x.zA.length - k) i)):=by
 obtain ⟨q,w',h1,h2,h3,h4⟩:=zFc i k w (by omega) hw
 have hcj:vC (suf x (k + i + 1)):=zD3 hc (i + 1)
 have h5:=zS2 h (k:=k + i) (by omega) hcj (p ++ q) w' (by simp [hp,h2]) h3
 have h7:V (suf x (k + i)) (1 :: zeros (x.zA.length - (k + i + 1))):=by
  have hj':k + i < x.zA.length:=by omega
  rw [yK hj']
  have:=(h.os.2 (k + i) hj').pos
  refine ⟨⟨by omega,by show 1 < at0 x.zA (k + i);omega⟩,?_⟩
  rw [← xI]
  exact wH (h.okAt (by omega))
 rw [List.append_assoc,← h1] at h5
 rw [h5,jV hi,h1,show x.zA.length - k - (i + 1) = x.zA.length - (k + i + 1) from by omega,h4 w' _ h3 h7,List.append_assoc]
theorem zGl {a b:Vec} (ha:V (suf x k) a) (hb:V (suf x k) b):f_c x (fv k a) (fv k b) = some (fv k (mul (suf x k) a b)) :=
 zS1 h hk hc (zeros k) a b (zS k) ha hb
theorem zJE {a:Vec} (ha:V (suf x k) a):f_x (fv k a) = some (fv k a):=by
 have _:=hc
 have:=zBL h hk ha
 have h6:=h.os.1
 unfold f_x
 rw [yM (by simp only [List.length_nil];omega),bs,List.nil_append]
theorem zCA {a b:Vec} (ha:V (suf x k) a) (hb:V (suf x k) b):zRh x (fv k a) (fv k b) = some (fv k (mul (suf x k) a b)):=by
 unfold zRh
 rw [zJE h hk hc ha,bs,zGl h hk hc ha hb,bs]
theorem zLo {c:Vec} (hcv:V (suf x k) c) {e:Int} (e0:0 ≤ e) (e1:e ≤ 1000):zSX x (fv k c) e = some (fv k (pw (mul (suf x k)) (zeros (suf x k).length) c e.toNat)):=by
 have h6:=h.os.1
 have ok:=h.okAt hk
 unfold zSX
 rw [zBL h hk hcv,yT (by omega),bs,zMZ h hk]
 rw [vD (S:=V (suf x k)) (body:=zKt x (fv k c) e) (fun u => fv k u) (fun u => mul (suf x k) u c) e e0 (fun u hu => xJ ok hu hcv) (fun u i hu hi => by
  unfold zKt
  simp only
  rw [decide_eq_true hi,zJ,zGl h hk hc hu hcv,bs,zD (by omega) (by omega),bs,cs]) (fun u hu => by
  unfold zKt
  simp only
  rw [decide_eq_false (by omega),zF]) (wH ok),bs]
 rfl
theorem zJF {v:Vec} (hv:V (suf x k) v):∃ w,V (suf x k) w ∧ mul (suf x k) v w = zeros (suf x k).length ∧ f_G x (fv k v) = some (fv k w):=by
 have h6:=h.os.1
 have ok:=h.okAt hk
 have G:=zGj h hk hc
 have hvl:=zBL h hk hv
 have hsl:=xI x k
 unfold f_G
 rw [zJE h hk hc hv,bs,hvl,yT (by omega),bs,zMZ h hk]
 let I:Nat → (List Int × List Int × Int) → Prop:=fun j s => ∃ A w,s = (fv k A,fv k w,(j:Int)) ∧ V (suf x k) A ∧ V (suf x k) w ∧ mul (suf x k) v w = A ∧ ∃ A',A = zeros (j - k) ++ A'
 have key:=vQ (body:=zRg x (fv k v)) (Q:=fun r => ∃ w,V (suf x k) w ∧ mul (suf x k) v w = zeros (suf x k).length ∧ r = fv k w) I x.zA.length (fun j s hj hI => by
  obtain ⟨A,w,rfl,hA,hw,hm,A',hA'⟩:=hI
  left
  unfold zRg
  simp only
  rw [hvl,yQ hj,zJ]
  rcases Nat.lt_or_ge j k with hjk | hjk
  ·have e0:ixO (fv k A) (j:Int) = some 0:=by
    rw [vA,List.getElem?_append_left (by rw [zS];exact hjk)]
    simp [zeros,hjk]
   rw [xG]
   unfold zOo
   simp only
   rw [e0,bs,show ((0:Int) != 0) = false from rfl,zF]
   simp only
   rw [bs,zD (by omega) (by omega),bs,cs]
   exact ⟨_,rfl,A,w,rfl,hA,hw,hm,A,by rw [show j + 1 - k = 0 from by omega];rfl⟩
  ·obtain ⟨i,rfl⟩:∃ i,j = k + i:=⟨j - k,by omega⟩
   have hi:i < x.zA.length - k:=by omega
   rw [show k + i - k = i from by omega] at hA'
   have hAl:=sG h hk hA
   obtain ⟨a0,A',rfl⟩:∃ p q,A' = p :: q:=by
    cases A' with
    | nil => rw [hA',List.length_append,zS,List.length_nil] at hAl;omega
    | cons p q => exact ⟨p,q,rfl⟩
   have hpr:=(h.os.2 (k + i) hj).pos
   have inner:=vQ (body:=zOo x (fv k A,fv k w,((k + i:Nat):Int))) (s:=(fv k A,fv k w))
    (Q:=fun r => ∃ B u,r = (fv k B,fv k u) ∧ V (suf x k) B ∧ V (suf x k) u ∧ mul (suf x k) v u = B ∧ ∃ B',B = zeros (i + 1) ++ B')
    (fun q s => ∃ B u b B',s = (fv k B,fv k u) ∧ V (suf x k) B ∧ V (suf x k) u ∧ mul (suf x k) v u = B ∧ B = zeros i ++ b :: B' ∧ (b = 0 ∨ b = a0 + q)) 10 (fun q s hq hs => by
     obtain ⟨B,u,b,B',rfl,hB,hu,hmu,hB',hb⟩:=hs
     have hz:ixO (fv k B) ((k + i:Nat):Int) = some b:=by
      rw [fv,zJB (by rw [sG h hk hB];exact hi),hB',at0,List.getD_eq_getElem?_getD,List.getElem?_append_right (by rw [zS];omega),zS,Nat.sub_self];rfl
     unfold zOo
     simp only
     rw [hz,bs]
     by_cases hb0:b = 0
     ·subst hb0
      right
      rw [show ((0:Int) != 0) = false from rfl,zF]
      exact ⟨_,rfl,B,u,rfl,hB,hu,hmu,B',by rw [hB',zAY]⟩
     ·left
      have hbq:b = a0 + q:=by rcases hb with hb | hb;exact absurd hb hb0;exact hb
      rw [show (b != 0) = true from by simpa using hb0,zJ,zJD h hk hc (zS k) hi hB,bs,zJD h hk hc (zS k) hi hu,bs]
      have hU:=zLn h hk hc hi
      obtain ⟨q',v',h1,h2,h3,h4⟩:=zFc i k B (by omega) hB
      have hqv:q' = zeros i ∧ v' = b :: B':=by
       rw [hB'] at h1
       have:=List.append_inj h1 (by rw [zS,h2])
       exact ⟨this.1.symm,this.2.symm⟩
      obtain ⟨rfl,rfl⟩:=hqv
      have h7:V (suf x (k + i)) (1 :: zeros (x.zA.length - (k + i + 1))):=by
       rw [yK hj]
       refine ⟨⟨by omega,by show 1 < at0 x.zA (k + i);omega⟩,?_⟩
       rw [← xI]
       exact wH (h.okAt (by omega))
      have h8:=h4 (b :: B') _ h3 h7
      rw [show x.zA.length - (k + i + 1) = x.zA.length - k - (i + 1) from by omega,← jV hi,← h1,yK hj,yR] at h8
      refine ⟨_,rfl,mul (suf x k) B (wJ (x.zA.length - k) i),mul (suf x k) u (wJ (x.zA.length - k) i),?_⟩
      have hor:(lvl x (k + i)).o = at0 x.zA (k + i):=rfl
      rw [hor] at h8
      by_cases hge:b + 1 ≥ at0 x.zA (k + i)
      ·rw [if_pos hge] at h8
       refine ⟨_,_,rfl,xJ ok hB hU,xJ ok hu hU,?_,h8,?_⟩
       ·rw [← G.assoc hv hu hU,hmu]
       ·left
        rw [yK hj] at h3
        have:=h3.1.2
        rw [hor] at this
        omega
      ·rw [if_neg hge] at h8
       refine ⟨_,_,rfl,xJ ok hB hU,xJ ok hu hU,?_,h8,?_⟩
       ·rw [← G.assoc hv hu hU,hmu]
       ·right;omega) (fun s hs => by
     obtain ⟨B,u,b,B',rfl,hB,hu,hmu,hB',hb⟩:=hs
     have hz:ixO (fv k B) ((k + i:Nat):Int) = some b:=by
      rw [fv,zJB (by rw [sG h hk hB];exact hi),hB',at0,List.getD_eq_getElem?_getD,List.getElem?_append_right (by rw [zS];omega),zS,Nat.sub_self];rfl
     have hbr:=(zCX h.os (x.zA.length - k) k B (by omega) hB).2 i hi
     have ha:=(zCX h.os (x.zA.length - k) k A (by omega) hA).2 i hi
     have e1:at0 B i = b:=by rw [hB',at0,List.getD_eq_getElem?_getD,List.getElem?_append_right (by rw [zS];omega),zS,Nat.sub_self];rfl
     have e2:at0 A i = a0:=by rw [hA',at0,List.getD_eq_getElem?_getD,List.getElem?_append_right (by rw [zS];omega),zS,Nat.sub_self];rfl
     have hb0:b = 0:=by omega
     subst hb0
     unfold zOo
     simp only
     rw [hz,bs,show ((0:Int) != 0) = false from rfl,zF]
     exact ⟨_,rfl,B,u,rfl,hB,hu,hmu,B',by rw [hB',zAY]⟩) ⟨A,w,a0,A',rfl,hA,hw,hm,hA',.inr (by omega)⟩
   obtain ⟨r,r1,B,u,rfl,hB,hu,hmu,B',hB'⟩:=inner
   rw [r1,bs,zD (by omega) (by omega),bs,cs]
   exact ⟨_,rfl,B,u,rfl,hB,hu,hmu,B',by rw [hB',show k + i + 1 - k = i + 1 from by omega]⟩) (fun s hI => by
  obtain ⟨A,w,rfl,hA,hw,hm,A',hA'⟩:=hI
  unfold zRg
  simp only
  rw [hvl,xD,zF]
  refine ⟨_,rfl,w,hw,?_,rfl⟩
  have hAl:=sG h hk hA
  rw [hA',List.length_append,zS] at hAl
  rw [hm,hA',List.eq_nil_of_length_eq_zero (l:=A') (by omega),List.append_nil,hsl]) (s:=(fv k v,fv k (zeros (suf x k).length),0))
  ⟨v,_,rfl,hv,wH ok,G.oner hv,v,by rw [Nat.zero_sub];rfl⟩
 obtain ⟨r,r1,w,hw,hm,rfl⟩:=key
 rw [r1,bs]
 exact ⟨w,hw,hm,rfl⟩
theorem zBM {a b:Vec} (ha:V (suf x k) a) (hb:V (suf x k) b):∃ c,V (suf x k) c ∧ mul (suf x k) b c = mul (suf x k) a b ∧ zRi x (fv k a) (fv k b) = some (fv k c):=by
 have ok:=h.okAt hk
 have G:=zGj h hk hc
 obtain ⟨w,hw,hm,h1⟩:=zJF h hk hc hb
 have hab:=xJ ok ha hb
 refine ⟨mul (suf x k) w (mul (suf x k) a b),xJ ok hw hab,?_,?_⟩
 ·rw [← G.assoc hb hw hab,hm,G.onel hab]
 ·unfold zRi
  rw [h1,bs,zCA h hk hc ha hb,bs,zCA h hk hc hw hab,bs]
end
theorem zCY {a b:List Int} (h:a.length ≤ 1000000):f_R a b = some (a == b) :=
 zH2 (t:=fun u v => some (u == v)) (body:=zVy a b) rfl (fun _ => rfl) (by omega) fun _ _ _ _ => rfl
theorem zNK {a b:List Int} (h:a.length ≤ 1000000):f_Y a b = some (a == b):=zCY h
end Go.Pl

namespace Go.Pl
open Go Go.Ab Go.Wk Go.Pc
theorem zJG {ρ:Type} {body:Int → Option (Int ⊕ (Unit ⊕ ρ))} (n i0:Nat) (hn:i0 ≤ n) (P:Nat → Prop) (B:ρ → Prop)
  (h:∀ i,i0 ≤ i → i < n → (∀ j,i0 ≤ j → j < i → P j) → (body (i:Int) = some (.inl ((i + 1:Nat):Int)) ∧ P i) ∨ (∃ r,body (i:Int) = some (.inr (.inr r)) ∧ B r ∧ ¬ P i))
  (he:body (n:Int) = some (.inr (.inl ()))) :
  (zH body (i0:Int) = some (.inl ()) ∧ ∀ j,i0 ≤ j → j < n → P j) ∨ ∃ r i,i0 ≤ i ∧ i < n ∧ zH body (i0:Int) = some (.inr r) ∧ B r ∧ ¬ P i:=by
 have key:∀ k i,i0 ≤ i → i + k = n → (∀ j,i0 ≤ j → j < i → P j) → (zH body (i:Int) = some (.inl ()) ∧ ∀ j,i0 ≤ j → j < n → P j) ∨ ∃ r q,i0 ≤ q ∧ q < n ∧ zH body (i:Int) = some (.inr r) ∧ B r ∧ ¬ P q:=by
  intro k
  induction k with
  | zero =>
   intro i hi hk hp
   obtain rfl:i = n:=by omega
   exact .inl ⟨by rw [xG,he],hp⟩
  | succ k ih =>
   intro i hi hk hp
   rcases h i hi (by omega) hp with ⟨h1,h2⟩ | ⟨r,h1,h2,h3⟩
   ·have:=ih (i + 1) (by omega) (by omega) fun j a b => by
     rcases Nat.lt_or_ge j i with c | c
     ·exact hp j a c
     ·rw [show j = i from by omega];exact h2
    rw [xG,h1]
    exact this
   ·exact .inr ⟨r,i,hi,by omega,by rw [xG,h1],h2,h3⟩
 exact key (n - i0) i0 (Nat.le_refl _) (by omega) fun j a b => by omega
theorem zGm {σ ρ:Type} {body:σ → Option (σ ⊕ ρ)} {Q:ρ → Prop} (I:σ → Prop) (m:σ → Nat)
  (h:∀ s,I s → (∃ s',body s = some (.inl s') ∧ I s' ∧ m s' < m s) ∨ ∃ r,body s = some (.inr r) ∧ Q r):∀ (k:Nat) (s:σ),m s ≤ k → I s → ∃ r,zH body s = some r ∧ Q r
 | k,s,hk,hs => by
  rcases h s hs with ⟨s',h1,h2,h3⟩ | ⟨r,h1,h2⟩
  ·cases k with
   | zero => omega
   | succ k =>
    obtain ⟨r,h4,h5⟩:=zGm I m h k s' (by omega) h2
    exact ⟨r,by rw [xG,h1];exact h4,h5⟩
  ·exact ⟨r,by rw [xG,h1],h2⟩
theorem zUT {k:Nat} {a b:Vec}:(fv k a == fv k b) = true ↔ a = b:=by
 rw [beq_iff_eq];exact ⟨fun h => List.append_cancel_left h,fun h => by rw [h]⟩
theorem zBN {x:SPr} {v:List Int} {i k:Nat} (h:Exp x.zA v i) (hk:k ≤ i + 1) (hn:k ≤ x.zA.length):v = fv k (v.drop k) ∧ V (suf x k) (v.drop k):=by
 have h1:=h.1.1
 constructor
 ·apply List.ext_getElem?
  intro j
  rw [fv,List.getElem?_append]
  simp only [zeros,List.length_replicate,List.getElem?_replicate,List.getElem?_drop]
  split
  ·rename_i hj
   have h2:=h.2 j (by omega)
   rw [List.getElem?_eq_getElem (by omega)]
   rw [at0,List.getD_eq_getElem?_getD,List.getElem?_eq_getElem (by omega)] at h2
   simpa using h2
  ·rw [show k + (j - k) = j from by omega]
 ·refine zUS (x.zA.length - k) k _ (by omega) (by rw [List.length_drop];omega) fun j hj => ?_
  have:=h.1.2 (k + j) (by omega)
  have e:at0 (v.drop k) j = at0 v (k + j):=by simp only [at0,List.getD_eq_getElem?_getD,List.getElem?_drop]
  rw [e];exact this
structure LC (x:SPr) (k:Nat):Prop where
 c1:∀ j,k + 1 ≤ j → j < x.zA.length → pw (mul (suf x (k + 1))) (zeros (suf x (k + 1)).length) ((lvl x k).cs.getD (j - (k + 1)) []) (at0 x.zA j).toNat = sig (suf x (k + 1)) (lvl x k) ((x.zU.getD j []).drop (k + 1))
 c2:∀ i,k + 1 ≤ i → i < x.zA.length → ∀ j,i + 1 ≤ j → j < x.zA.length →
  mul (suf x (k + 1)) ((lvl x k).cs.getD (j - (k + 1)) []) ((lvl x k).cs.getD (i - (k + 1)) []) = mul (suf x (k + 1)) ((lvl x k).cs.getD (i - (k + 1)) []) (sig (suf x (k + 1)) (lvl x k) (((x.zB.getD i []).getD (j - (i + 1)) []).drop (k + 1)))
 c3:sig (suf x (k + 1)) (lvl x k) (lvl x k).w = (lvl x k).w
 c4:∀ j,k + 1 ≤ j → j < x.zA.length → mul (suf x (k + 1)) (lvl x k).w (iter (lvl x k).o.toNat (sig (suf x (k + 1)) (lvl x k)) (wJ (x.zA.length - (k + 1)) (j - (k + 1)))) = mul (suf x (k + 1)) (wJ (x.zA.length - (k + 1)) (j - (k + 1))) (lvl x k).w
section
variable {x:SPr} (h:Pres x) {k:Nat} (hk:k < x.zA.length) (hc:vC (suf x (k + 1)))
 include h hk
theorem jC {j:Nat} (h1:k + 1 ≤ j) (h2:j < x.zA.length):ixO x.zB (k:Int) = some (x.zB.getD k []) ∧ ixO (x.zB.getD k []) ((j:Int) - (k:Int) - 1) = some (fv (k + 1) ((lvl x k).cs.getD (j - (k + 1)) [])) ∧ V (suf x (k + 1)) ((lvl x k).cs.getD (j - (k + 1)) []):=by
 obtain ⟨c,c1,c2,c3,c4⟩:=zD2 h hk (i:=j - (k + 1)) (by omega)
 rw [c4]
 refine ⟨c1,?_,c3⟩
 rw [show (j:Int) - (k:Int) - 1 = ((j - (k + 1):Nat):Int) from by omega]
 exact c2
theorem zPR {j:Nat} (h1:k + 1 ≤ j) (h2:j < x.zA.length):ixO x.zU (j:Int) = some (fv (k + 1) ((x.zU.getD j []).drop (k + 1))) ∧ V (suf x (k + 1)) ((x.zU.getD j []).drop (k + 1)):=by
 have t1:=(h.tl j h2).1
 have hl:=h.pl
 obtain ⟨e1,e2⟩:=zBN (k:=k + 1) t1 (by omega) (by omega)
 exact ⟨by rw [yD [] (by omega),← e1],e2⟩
theorem zPS {i j:Nat} (h1:k + 1 ≤ i) (h2:i + 1 ≤ j) (h3:j < x.zA.length):ixO x.zB (i:Int) = some (x.zB.getD i []) ∧ ixO (x.zB.getD i []) ((j:Int) - (i:Int) - 1) = some (fv (k + 1) (((x.zB.getD i []).getD (j - (i + 1)) []).drop (k + 1))) ∧ V (suf x (k + 1)) (((x.zB.getD i []).getD (j - (i + 1)) []).drop (k + 1)):=by
 obtain ⟨_,t2,t3⟩:=h.tl i (by omega)
 have hl:=h.cl
 obtain ⟨e1,e2⟩:=zBN (k:=k + 1) (t3 (j - (i + 1)) (by omega)) (by omega) (by omega)
 refine ⟨yD [] (by omega),?_,e2⟩
 rw [show (j:Int) - (i:Int) - 1 = ((j - (i + 1):Nat):Int) from by omega,yD [] (by omega),← e1]
theorem zUU:ixO x.zU (k:Int) = some (fv (k + 1) (lvl x k).w) ∧ V (suf x (k + 1)) (lvl x k).w:=by
 have t1:=(h.tl k hk).1
 have hl:=h.pl
 obtain ⟨e1,e2⟩:=zBN (k:=k + 1) t1 (by omega) (by omega)
 exact ⟨by rw [yD [] (by omega)];exact congrArg some e1,e2⟩
theorem zPT {v:Vec} (hv:V (suf x (k + 1)) v):V (suf x (k + 1)) (sig (suf x (k + 1)) (lvl x k) v):=by
 have ok0:=h.okAt (k:=k) (by omega)
 rw [yK hk] at ok0
 exact zEl ok0 hv
theorem zH6 {j:Nat} (h1:k + 1 ≤ j) (h2:j < x.zA.length):zID (x.zA.length:Int) (j:Int) = some (fv (k + 1) (wJ (x.zA.length - (k + 1)) (j - (k + 1)))):=by
 have h6:=h.os.1
 unfold zID
 rw [yT (by omega),bs,vA,List.getElem?_replicate,if_pos h2,bs,Int.toNat_natCast]
 congr 1
 rw [fv,jV (by omega),← List.append_assoc]
 have e1:zeros (k + 1) ++ zeros (j - (k + 1)) = zeros j:=by simp only [zeros,List.replicate_append_replicate];congr 1;omega
 have e2:List.replicate x.zA.length (0:Int) = zeros j ++ 0 :: zeros (x.zA.length - (j + 1)):=by
  simp only [zeros]
  rw [← List.replicate_succ,List.replicate_append_replicate];congr 1;omega
 rw [e1,e2,zC9,show x.zA.length - (k + 1) - (j - (k + 1) + 1) = x.zA.length - (j + 1) from by omega]
theorem zNL {j:Nat} (h1:k + 1 ≤ j) (h2:j < x.zA.length):zVr (x.zA.length:Int) (j:Int) = some (fv (k + 1) (wJ (x.zA.length - (k + 1)) (j - (k + 1)))):=zH6 h hk h1 h2
 include hc
theorem jW {v:Vec} (hv:V (suf x (k + 1)) v):f_C x k (fv (k + 1) v) = some (fv (k + 1) (sig (suf x (k + 1)) (lvl x k) v)):=by
 have h6:=h.os.1
 have ok:=h.okAt (k:=k + 1) (by omega)
 have ok0:=h.okAt (k:=k) (by omega)
 rw [yK hk] at ok0
 obtain ⟨hvl,hvr⟩:=zCX h.os (x.zA.length - (k + 1)) (k + 1) v (by omega) hv
 have hcl:(lvl x k).cs.length = x.zA.length - (k + 1):=by rw [ok0.2.2.1,xI]
 have t2:=(h.tl k hk).2.1
 have hcl2:=h.cl
 have hA:∀ i,V (suf x (k + 1)) (img (mul (suf x (k + 1))) ((lvl x k).cs.take i) (v.take i) (zeros (suf x (k + 1)).length)):=fun i =>
  sS (xJ ok) _ _ (fun c hc => ok0.2.2.2.1 c (List.mem_of_mem_take hc)) (wH ok)
 unfold f_C
 rw [zBL h (by omega) hv,yT (by omega),bs,yD [] (by omega),bs,zMZ h (k:=k + 1) (by omega)]
 have:=zO (body:=zRf x k (fv (k + 1) v) (x.zB.getD k [])) (r:=fv (k + 1) (sig (suf x (k + 1)) (lvl x k) v))
  (fun i => (fv (k + 1) (img (mul (suf x (k + 1))) ((lvl x k).cs.take i) (v.take i) (zeros (suf x (k + 1)).length)),(i:Int))) (x.zB.getD k []).length (fun i hi => by
  have hr:=hvr i (by omega)
  obtain ⟨c,c1,c2,c3,c4⟩:=zD2 h hk (i:=i) (by omega)
  unfold zRf
  simp only
  rw [yQ hi,zJ,c2,bs,zD (by omega) (by omega),bs,zD (by omega) (by omega),bs,show (k:Int) + 1 + (i:Int) = ((k + 1 + i:Nat):Int) from by omega,fv,zJB (by omega),bs]
  rw [vD (S:=V (suf x (k + 1))) (body:=zRe x (zeros (k + 1) ++ c) (at0 v i)) (fun u => fv (k + 1) u) (fun u => mul (suf x (k + 1)) u c) (at0 v i) hr.1 (fun u hu => xJ ok hu c3) (fun u q hu hq => by
   unfold zRe
   simp only
   rw [decide_eq_true hq,zJ,zGl h (by omega) hc hu c3,bs,zD (by omega) (by omega),bs,cs]) (fun u hu => by
   unfold zRe
   simp only
   rw [decide_eq_false (by omega),zF]) (hA i),bs,zD (by omega) (by omega),bs,cs]
  rw [zAC _ _ _ _ (by omega) (by omega),c4]) (by
  unfold zRf
  simp only
  rw [xD,zF,List.take_of_length_le (by omega),List.take_of_length_le (by omega)]
  rfl)
 simp only [List.take_zero,img] at this
 rw [show ((0:Nat):Int) = 0 from rfl] at this
 rw [this,bs]
theorem zBO {a b:Vec} (ha:V (suf x (k + 1)) a):IsB (f_R (fv (k + 1) a) (fv (k + 1) b)) (a = b):=by
 have _:=hc
 have h6:=h.os.1
 rw [zCY (by rw [zBL h (by omega) ha];omega)]
 exact IsB.of_bool zUT
theorem zJH {c:Vec} (hcv:V (suf x (k + 1)) c) {e:Int} (e0:0 ≤ e) (e1:e ≤ 1000):zSR x ((k + 1:Nat):Int) (fv (k + 1) c) e = some (fv (k + 1) (pw (mul (suf x (k + 1))) (zeros (suf x (k + 1)).length) c e.toNat)):=by
 have h6:=h.os.1
 have ok:=h.okAt (k:=k + 1) (by omega)
 have G:=zGj h (k:=k + 1) (by omega) hc
 have hA:=zMY h (k:=k + 1) (by omega)
 have pwV:∀ a,V (suf x (k + 1)) (pw (mul (suf x (k + 1))) (zeros (suf x (k + 1)).length) c a):=fun a => uS G.toMon hcv a
 unfold zSR
 rw [yT (by omega),bs,zMZ h (k:=k + 1) (by omega)]
 obtain ⟨r,r1,r2⟩:=zGm (body:=zNs x ((k + 1:Nat):Int)) (Q:=fun r => r = fv (k + 1) (pw (mul (suf x (k + 1))) (zeros (suf x (k + 1)).length) c e.toNat))
  (fun s => ∃ (m a q:Nat),s = ((m:Int),fv (k + 1) (pw (mul (suf x (k + 1))) (zeros (suf x (k + 1)).length) c a),fv (k + 1) (pw (mul (suf x (k + 1))) (zeros (suf x (k + 1)).length) c q)) ∧ a + q * m = e.toNat ∧ m ≤ 1000) (fun s => s.1.toNat) (fun s ⟨m,a,q,hs,he,hm⟩ => by
   subst hs
   unfold zNs
   simp only
   by_cases hm0:m = 0
   ·right
    subst hm0
    rw [show decide (((0:Nat):Int) > 0) = false from rfl,zF]
    refine ⟨_,rfl,?_⟩
    rw [← he,Nat.mul_zero];rfl
   ·left
    have hr:uQ (m:Int) 2 = some ((m % 2:Nat):Int):=by
     unfold uQ
     rw [if_neg (by decide),Int.tmod_eq_emod_of_nonneg (by omega)];rfl
    have hq:tV (m:Int) 2 = some ((m / 2:Nat):Int):=by
     unfold tV
     rw [if_neg (by decide),Int.tdiv_eq_ediv_of_nonneg (by omega)]
     rw [zD (by omega) (by omega)];rfl
    have hdm:=Nat.div_add_mod m 2
    have hqq:mul (suf x (k + 1)) (pw (mul (suf x (k + 1))) (zeros (suf x (k + 1)).length) c q) (pw (mul (suf x (k + 1))) (zeros (suf x (k + 1)).length) c q) = pw (mul (suf x (k + 1))) (zeros (suf x (k + 1)).length) c (q + q):=(zFU G.toMon hcv q q).symm
    rw [decide_eq_true (by omega),zJ,hr,bs]
    rcases Nat.mod_two_eq_zero_or_one m with h2 | h2
    ·rw [h2,show ((((0:Nat):Int)) == 1) = false from rfl,zF,hA _ _ (pwV q) (pwV q),bs,hq,bs,hqq]
     refine ⟨_,rfl,⟨m / 2,a,q + q,rfl,?_,by omega⟩,by simp only;omega⟩
     rw [← he]
     have:m = m / 2 + m / 2:=by omega
     have e3:(q + q) * (m / 2) = q * m:=by
      rw [Nat.add_mul,← Nat.mul_add,← this]
     omega
    ·rw [h2,show ((((1:Nat):Int)) == 1) = true from rfl,zJ,hA _ _ (pwV a) (pwV q),bs,hA _ _ (pwV q) (pwV q),bs,hq,bs,hqq,← zFU G.toMon hcv a q]
     refine ⟨_,rfl,⟨m / 2,a + q,q + q,rfl,?_,by omega⟩,by simp only;omega⟩
     rw [← he]
     have:m = m / 2 + m / 2 + 1:=by omega
     have e3:(q + q) * (m / 2) + q = q * m:=by
      have e4:q * m = q * (m / 2 + m / 2 + 1):=by rw [← this]
      rw [e4,Nat.mul_add,Nat.mul_add,Nat.mul_one,Nat.add_mul]
     omega) 1000000 (e,fv (k + 1) (zeros (suf x (k + 1)).length),fv (k + 1) c) (by simp only;omega) ⟨e.toNat,0,1,by rw [zPG G.toMon hcv,show ((e.toNat:Nat):Int) = e from by omega];rfl,by omega,by omega⟩
 rw [r1,bs,r2]
end
end Go.Pl

namespace Go.Pl
open Go Go.Ab Go.Wk Go.Pc
def zWT (o:Option yS) (P:Prop):Prop:=(o = some (yS.mk 0 0 0 0) ∧ P) ∨ ∃ r,o = some r ∧ r.Kind ≠ 0 ∧ ¬ P
theorem kb {a b c d:Int} (h:a ≠ 0):(yS.mk a b c d).Kind ≠ 0:=h
abbrev KB (r:yS):Prop:=r.Kind ≠ 0
theorem zAD {o:Option Bool} {P:Prop} {bad:yS} {i:Nat} {g:Option (Int ⊕ (Unit ⊕ yS))} (h:IsB o P) (hi:i < 9223372036854775807) (hbad:bad.Kind ≠ 0)
  (hg:g = o.bind fun r => cond (!r) (some (.inr (.inr bad))) ((rng ((i:Int) + 1)).bind fun v => some (.inl v))):(g = some (.inl ((i + 1:Nat):Int)) ∧ P) ∨ (∃ r,g = some (.inr (.inr r)) ∧ KB r ∧ ¬ P):=by
 rcases vS h hi hg with h | ⟨h1,h2⟩
 ·exact .inl h
 ·exact .inr ⟨bad,h1,hbad,h2⟩
section
variable {x:SPr} (h:Pres x) {k:Nat} (hk:k < x.zA.length) (hc:vC (suf x (k + 1)))
 include h hk hc
theorem zGn:zWT (f_k x k) (LC x k):=by
 have h6:=h.os.1
 have ok:=h.okAt (k:=k + 1) (by omega)
 have G:=zGj h (k:=k + 1) (by omega) hc
 obtain ⟨w1,w2⟩:=zUU h hk
 have hsV:∀ v,V (suf x (k + 1)) v → V (suf x (k + 1)) (sig (suf x (k + 1)) (lvl x k) v):=fun v hv => zPT h hk hv
 unfold f_k
 rw [zD (by omega) (by omega),bs,cs]
 rcases zJG (body:=zRj x k) x.zA.length (k + 1) (by omega) (fun j => pw (mul (suf x (k + 1))) (zeros (suf x (k + 1)).length) ((lvl x k).cs.getD (j - (k + 1)) []) (at0 x.zA j).toNat = sig (suf x (k + 1)) (lvl x k) ((x.zU.getD j []).drop (k + 1))) KB (fun j h1 h2 _ => by
   obtain ⟨c1,c2,c3⟩:=jC h hk h1 h2
   obtain ⟨p1,p2⟩:=zPR h hk h1 h2
   have hpr:=(h.os.2 j h2).pos
   refine zAD (zBO h hk hc (uS G.toMon c3 (at0 x.zA j).toNat)) (by omega) (bad:=yS.mk 1 k j 0) (kb (by decide)) ?_
   unfold zRj
   rw [yQ h2,zJ,c1,bs,zD (by omega) (by omega),bs,zD (by omega) (by omega),bs,c2,bs,yF h2,bs,zLo h (by omega) hc c3 (by omega) (by omega),bs,p1,bs,jW h hk hc p2,bs]) (by
   unfold zRj
   rw [xD,zF]) with ⟨g1,g2⟩ | ⟨r,j,j1,j2,g1,g2,g3⟩
 rotate_left
 ·rw [g1,bs]
  exact .inr ⟨r,rfl,g2,fun q => g3 (q.c1 j j1 j2)⟩
 rw [g1,bs]
 simp only
 rw [bs]
 rcases zJG (body:=zRl x k) x.zA.length (k + 1) (by omega) (fun i => ∀ j,i + 1 ≤ j → j < x.zA.length →
   mul (suf x (k + 1)) ((lvl x k).cs.getD (j - (k + 1)) []) ((lvl x k).cs.getD (i - (k + 1)) []) = mul (suf x (k + 1)) ((lvl x k).cs.getD (i - (k + 1)) []) (sig (suf x (k + 1)) (lvl x k) (((x.zB.getD i []).getD (j - (i + 1)) []).drop (k + 1)))) KB (fun i h1 h2 _ => by
   obtain ⟨c1,c2,c3⟩:=jC h hk h1 h2
   unfold zRl
   rw [yQ h2,zJ,zD (by omega) (by omega),bs,cs]
   rcases zJG (body:=zRk x k i) x.zA.length (i + 1) (by omega) (fun j => mul (suf x (k + 1)) ((lvl x k).cs.getD (j - (k + 1)) []) ((lvl x k).cs.getD (i - (k + 1)) []) = mul (suf x (k + 1)) ((lvl x k).cs.getD (i - (k + 1)) []) (sig (suf x (k + 1)) (lvl x k) (((x.zB.getD i []).getD (j - (i + 1)) []).drop (k + 1)))) KB (fun j h3 h4 _ => by
     obtain ⟨d1,d2,d3⟩:=jC h hk (j:=j) (by omega) h4
     obtain ⟨e1,e2,e3⟩:=zPS h hk h1 h3 h4
     obtain ⟨q,q1,q2,q3⟩:=zBM h (by omega) hc d3 c3
     refine zAD ((zBO h hk hc (b:=sig (suf x (k + 1)) (lvl x k) (((x.zB.getD i []).getD (j - (i + 1)) []).drop (k + 1))) q1).iff (Q:=mul (suf x (k + 1)) ((lvl x k).cs.getD (j - (k + 1)) []) ((lvl x k).cs.getD (i - (k + 1)) []) = mul (suf x (k + 1)) ((lvl x k).cs.getD (i - (k + 1)) []) (sig (suf x (k + 1)) (lvl x k) (((x.zB.getD i []).getD (j - (i + 1)) []).drop (k + 1)))) ?_) (by omega) (bad:=yS.mk 2 k i j) (kb (by decide)) ?_
     ·exact ⟨fun e => by rw [← q2,e],fun e => G.cancel_l c3 q1 (hsV _ e3) (by rw [q2,e])⟩
     ·unfold zRk
      rw [yQ h4,zJ,d1,bs,zD (by omega) (by omega),bs,zD (by omega) (by omega),bs,d2,bs,bs,zD (by omega) (by omega),bs,zD (by omega) (by omega),bs,c2,bs,q3,bs,e1,bs,zD (by omega) (by omega),bs,zD (by omega) (by omega),bs,e2,bs,jW h hk hc e3,bs]) (by
     unfold zRk
     rw [xD,zF]) with ⟨g1,g2⟩ | ⟨r,j,j1,j2,g1,g2,g3⟩
   ·left
    rw [g1,bs]
    exact ⟨rfl,g2⟩
   ·right
    rw [g1,bs]
    exact ⟨r,rfl,g2,fun q => g3 (q j j1 j2)⟩) (by
   unfold zRl
   rw [xD,zF]) with ⟨k1,k2⟩ | ⟨r,j,j1,j2,k1,k2,k3⟩
 rotate_left
 ·rw [k1,bs]
  exact .inr ⟨r,rfl,k2,fun q => k3 (q.c2 j j1 j2)⟩
 rw [k1,bs]
 simp only
 rw [w1,bs,jW h hk hc w2,bs]
 rcases zBO h hk hc (b:=(lvl x k).w) (hsV _ w2) with ⟨m1,m2⟩ | ⟨m1,m2⟩
 rotate_left
 ·rw [m1,bs,Bool.not_false,zJ]
  exact .inr ⟨_,rfl,kb (by decide),fun q => m2 q.c3⟩
 rw [m1,bs,Bool.not_true,zF,bs]
 rcases zJG (body:=zRn x k (fv (k + 1) (lvl x k).w)) x.zA.length (k + 1) (by omega) (fun j => mul (suf x (k + 1)) (lvl x k).w (iter (lvl x k).o.toNat (sig (suf x (k + 1)) (lvl x k)) (wJ (x.zA.length - (k + 1)) (j - (k + 1)))) = mul (suf x (k + 1)) (wJ (x.zA.length - (k + 1)) (j - (k + 1))) (lvl x k).w) KB (fun j h1 h2 _ => by
   have hU:=zLn h (k:=k + 1) (by omega) hc (i:=j - (k + 1)) (by omega)
   have hpr:=(h.os.2 k hk).pos
   obtain ⟨q,q1,q2,q3⟩:=zBM h (k:=k + 1) (by omega) hc hU w2
   have hit:V (suf x (k + 1)) (iter (lvl x k).o.toNat (sig (suf x (k + 1)) (lvl x k)) (wJ (x.zA.length - (k + 1)) (j - (k + 1)))):=wZ hsV _ hU
   refine zAD ((zBO h hk hc (b:=q) hit).iff ⟨fun e => by rw [e,q2],fun e => G.cancel_l w2 hit q1 (by rw [e,q2])⟩) (by omega) (bad:=yS.mk 4 k j 0) (kb (by decide)) ?_
   unfold zRn
   rw [yQ h2,zJ,zH6 h hk h1 h2,bs,yF hk,bs]
   rw [vD (S:=V (suf x (k + 1))) (body:=zRm x k (at0 x.zA k)) (fun u => fv (k + 1) u) (sig (suf x (k + 1)) (lvl x k)) (at0 x.zA k) (by omega) hsV (fun u i hu hi => by
    unfold zRm
    simp only
    rw [decide_eq_true hi,zJ,jW h hk hc hu,bs,zD (by omega) (by omega),bs,cs]) (fun u hu => by
    unfold zRm
    simp only
    rw [decide_eq_false (by omega),zF]) hU,bs,bs,q3,bs]
   rfl) (by
   unfold zRn
   rw [xD,zF]) with ⟨n1,n2⟩ | ⟨r,j,j1,j2,n1,n2,n3⟩
 ·rw [n1,bs]
  exact .inl ⟨rfl,⟨g2,k2,m2,n2⟩⟩
 ·rw [n1,bs]
  exact .inr ⟨r,rfl,n2,fun q => n3 (q.c4 j j1 j2)⟩
theorem zLp:zWT (f_l x k) (LC x k):=by
 have h6:=h.os.1
 have ok:=h.okAt (k:=k + 1) (by omega)
 have G:=zGj h (k:=k + 1) (by omega) hc
 obtain ⟨w1,w2⟩:=zUU h hk
 have hA:=zMY h (k:=k + 1) (by omega)
 have hI:=zLl h hk
 have hsV:∀ v,V (suf x (k + 1)) v → V (suf x (k + 1)) (sig (suf x (k + 1)) (lvl x k) v):=fun v hv => zPT h hk hv
 have eqB:∀ {a b:Vec},V (suf x (k + 1)) a → IsB (f_Y (fv (k + 1) a) (fv (k + 1) b)) (a = b):=fun ha => zBO h hk hc ha
 unfold f_l
 rw [zD (by omega) (by omega),bs,cs]
 rcases zJG (body:=zQI x k) x.zA.length (k + 1) (by omega) (fun j => pw (mul (suf x (k + 1))) (zeros (suf x (k + 1)).length) ((lvl x k).cs.getD (j - (k + 1)) []) (at0 x.zA j).toNat = sig (suf x (k + 1)) (lvl x k) ((x.zU.getD j []).drop (k + 1))) KB (fun j h1 h2 _ => by
   obtain ⟨c1,c2,c3⟩:=jC h hk h1 h2
   obtain ⟨p1,p2⟩:=zPR h hk h1 h2
   have hpr:=(h.os.2 j h2).pos
   refine zAD (eqB (uS G.toMon c3 (at0 x.zA j).toNat)) (by omega) (bad:=yS.mk 1 k j 0) (kb (by decide)) ?_
   unfold zQI
   rw [yQ h2,zJ,zD (by omega) (by omega),bs,cs,c1,bs,zD (by omega) (by omega),bs,zD (by omega) (by omega),bs,c2,bs,yF h2,bs,zJH h hk hc c3 (by omega) (by omega),bs,p1,bs,hI _ p2,bs]) (by
   unfold zQI
   rw [xD,zF]) with ⟨g1,g2⟩ | ⟨r,j,j1,j2,g1,g2,g3⟩
 rotate_left
 ·rw [g1,bs]
  exact .inr ⟨r,rfl,g2,fun q => g3 (q.c1 j j1 j2)⟩
 rw [g1,bs]
 simp only
 rw [bs]
 rcases zJG (body:=zQK x k) x.zA.length (k + 1) (by omega) (fun i => ∀ j,i + 1 ≤ j → j < x.zA.length →
   mul (suf x (k + 1)) ((lvl x k).cs.getD (j - (k + 1)) []) ((lvl x k).cs.getD (i - (k + 1)) []) = mul (suf x (k + 1)) ((lvl x k).cs.getD (i - (k + 1)) []) (sig (suf x (k + 1)) (lvl x k) (((x.zB.getD i []).getD (j - (i + 1)) []).drop (k + 1)))) KB (fun i h1 h2 _ => by
   obtain ⟨c1,c2,c3⟩:=jC h hk h1 h2
   unfold zQK
   rw [yQ h2,zJ,zD (by omega) (by omega),bs,cs]
   rcases zJG (body:=zQJ x k i) x.zA.length (i + 1) (by omega) (fun j => mul (suf x (k + 1)) ((lvl x k).cs.getD (j - (k + 1)) []) ((lvl x k).cs.getD (i - (k + 1)) []) = mul (suf x (k + 1)) ((lvl x k).cs.getD (i - (k + 1)) []) (sig (suf x (k + 1)) (lvl x k) (((x.zB.getD i []).getD (j - (i + 1)) []).drop (k + 1)))) KB (fun j h3 h4 _ => by
     obtain ⟨d1,d2,d3⟩:=jC h hk (j:=j) (by omega) h4
     obtain ⟨e1,e2,e3⟩:=zPS h hk h1 h3 h4
     refine zAD (eqB (xJ ok d3 c3)) (by omega) (bad:=yS.mk 2 k i j) (kb (by decide)) ?_
     unfold zQJ
     rw [yQ h4,zJ,d1,bs,zD (by omega) (by omega),bs,zD (by omega) (by omega),bs,c2,bs,bs,zD (by omega) (by omega),bs,zD (by omega) (by omega),bs,d2,bs,e1,bs,zD (by omega) (by omega),bs,zD (by omega) (by omega),bs,e2,bs,hI _ e3,bs,zD (by omega) (by omega),bs,cs,hA _ _ d3 c3,bs,bs,hA _ _ c3 (hsV _ e3),bs]) (by
     unfold zQJ
     rw [xD,zF]) with ⟨g1,g2⟩ | ⟨r,j,j1,j2,g1,g2,g3⟩
   ·left
    rw [g1,bs]
    exact ⟨rfl,g2⟩
   ·right
    rw [g1,bs]
    exact ⟨r,rfl,g2,fun q => g3 (q j j1 j2)⟩) (by
   unfold zQK
   rw [xD,zF]) with ⟨k1,k2⟩ | ⟨r,j,j1,j2,k1,k2,k3⟩
 rotate_left
 ·rw [k1,bs]
  exact .inr ⟨r,rfl,k2,fun q => k3 (q.c2 j j1 j2)⟩
 rw [k1,bs]
 simp only
 rw [w1,bs,hI _ w2,bs]
 rcases eqB (b:=(lvl x k).w) (hsV _ w2) with ⟨m1,m2⟩ | ⟨m1,m2⟩
 rotate_left
 ·rw [m1,bs,Bool.not_false,zJ]
  exact .inr ⟨_,rfl,kb (by decide),fun q => m2 q.c3⟩
 rw [m1,bs,Bool.not_true,zF,bs]
 rcases zJG (body:=zQM x k (fv (k + 1) (lvl x k).w)) x.zA.length (k + 1) (by omega) (fun j => mul (suf x (k + 1)) (lvl x k).w (iter (lvl x k).o.toNat (sig (suf x (k + 1)) (lvl x k)) (wJ (x.zA.length - (k + 1)) (j - (k + 1)))) = mul (suf x (k + 1)) (wJ (x.zA.length - (k + 1)) (j - (k + 1))) (lvl x k).w) KB (fun j h1 h2 _ => by
   have hU:=zLn h (k:=k + 1) (by omega) hc (i:=j - (k + 1)) (by omega)
   have hpr:=(h.os.2 k hk).pos
   have hit:V (suf x (k + 1)) (iter (lvl x k).o.toNat (sig (suf x (k + 1)) (lvl x k)) (wJ (x.zA.length - (k + 1)) (j - (k + 1)))):=wZ hsV _ hU
   refine zAD (eqB (xJ ok w2 hit)) (by omega) (bad:=yS.mk 4 k j 0) (kb (by decide)) ?_
   unfold zQM
   rw [yQ h2,zJ,zNL h hk h1 h2,bs]
   rw [vD (S:=V (suf x (k + 1))) (body:=zQL x k) (fun u => fv (k + 1) u) (sig (suf x (k + 1)) (lvl x k)) (at0 x.zA k) (by omega) hsV (fun u i hu hi => by
    unfold zQL
    simp only
    rw [yF hk,bs,decide_eq_true hi,zJ,hI _ hu,bs,zD (by omega) (by omega),bs,cs]) (fun u hu => by
    unfold zQL
    simp only
    rw [yF hk,bs,decide_eq_false (by omega),zF]) hU,bs,zD (by omega) (by omega),bs,cs]
   have ho:(lvl x k).o = at0 x.zA k:=rfl
   rw [← ho,hA _ _ w2 hit,bs,bs,hA _ _ hU w2,bs]) (by
   unfold zQM
   rw [xD,zF]) with ⟨n1,n2⟩ | ⟨r,j,j1,j2,n1,n2,n3⟩
 ·rw [n1,bs]
  exact .inl ⟨rfl,⟨g2,k2,m2,n2⟩⟩
 ·rw [n1,bs]
  exact .inr ⟨r,rfl,n2,fun q => n3 (q.c4 j j1 j2)⟩
end
end Go.Pl

namespace Go.Pl
open Go Go.Ab Go.Wk Go.Pc
theorem zEq {m:Vec → Vec → Vec}:∀ (i:Nat) (cs:List Vec) (w acc:Vec),i ≤ cs.length → img m cs (zeros i ++ w) acc = img m (cs.drop i) w acc
 | 0,cs,w,acc,_ => rfl
 | i + 1,[],w,acc,h => by simp at h
 | i + 1,c :: cs,w,acc,h => by
  show img m (c :: cs) (0 :: (zeros i ++ w)) acc = _
  simp only [img,Int.toNat_zero,iter,List.drop_succ_cons]
  exact zEq i cs w acc (by simpa using h)
theorem zGo {x:SPr} {v:List Int} {j k:Nat} (h:Exp x.zA v j) (hj:j < x.zA.length) (hk:k ≤ j + 1):v.drop k = zeros (j + 1 - k) ++ v.drop (j + 1):=by
 have:=zAB h hj
 have h2:v.drop k = (zeros (j + 1) ++ v.drop (j + 1)).drop k:=by rw [← this]
 rw [h2,List.drop_append,zS,show k - (j + 1) = 0 from by omega,List.drop_zero]
 congr 1
 simp only [zeros,List.drop_replicate]
section
variable {x:SPr} (h:Pres x) {k:Nat} (hk:k < x.zA.length)
 include h hk
theorem jZ:(lvl x k).cs.length = x.zA.length - (k + 1):=by
 have ok0:=h.okAt (k:=k) (by omega)
 rw [yK hk] at ok0
 rw [ok0.2.2.1,xI]
theorem zS3 {j:Nat} (h1:k + 1 ≤ j) (h2:j < x.zA.length):sig (suf x (k + 1)) (lvl x k) ((x.zU.getD j []).drop (k + 1)) = img (mul (suf x (k + 1))) ((lvl x k).cs.drop (j - k)) (lvl x j).w (zeros (suf x (k + 1)).length):=by
 have t1:=(h.tl j h2).1
 have hcl:=jZ h hk
 rw [zGo t1 h2 (by omega),sig,zEq _ _ _ _ (by omega),show j + 1 - (k + 1) = j - k from by omega]
 rfl
theorem zNa:∀ (d i:Nat),k + 1 + i + d = x.zA.length → (Rel (mul (suf x (k + 1))) (zeros (suf x (k + 1)).length) (suf x (k + 1 + i)) ((lvl x k).cs.drop i) ↔
  (∀ j,k + 1 + i ≤ j → j < x.zA.length → pw (mul (suf x (k + 1))) (zeros (suf x (k + 1)).length) ((lvl x k).cs.getD (j - (k + 1)) []) (at0 x.zA j).toNat = sig (suf x (k + 1)) (lvl x k) ((x.zU.getD j []).drop (k + 1))) ∧
  (∀ a,k + 1 + i ≤ a → a < x.zA.length → ∀ j,a + 1 ≤ j → j < x.zA.length →
   mul (suf x (k + 1)) ((lvl x k).cs.getD (j - (k + 1)) []) ((lvl x k).cs.getD (a - (k + 1)) []) = mul (suf x (k + 1)) ((lvl x k).cs.getD (a - (k + 1)) []) (sig (suf x (k + 1)) (lvl x k) (((x.zB.getD a []).getD (j - (a + 1)) []).drop (k + 1)))))
 | 0,i,hi => by
  have hcl:=jZ h hk
  rw [vY (x:=x) (k:=k + 1 + i) (by omega),List.drop_of_length_le (show (lvl x k).cs.length ≤ i by omega)]
  simp only [Rel,true_iff]
  exact ⟨fun j h1 h2 => by omega,fun a h1 h2 => by omega⟩
 | d + 1,i,hi => by
  have hcl:=jZ h hk
  have ih:=zNa d (i + 1) (by omega)
  rw [show k + 1 + (i + 1) = k + 1 + i + 1 from by omega] at ih
  have hj:k + 1 + i < x.zA.length:=by omega
  have hg:(lvl x k).cs.drop i = (lvl x k).cs.getD i [] :: (lvl x k).cs.drop (i + 1):=by
   rw [List.drop_eq_getElem_cons (by omega),List.getD_eq_getElem?_getD,List.getElem?_eq_getElem (by omega)];rfl
  rw [yK hj,hg]
  simp only [Rel]
  rw [ih]
  have e1:=zS3 h hk (j:=k + 1 + i) (by omega) hj
  rw [show k + 1 + i - k = i + 1 from by omega] at e1
  have ho:(lvl x (k + 1 + i)).o = at0 x.zA (k + 1 + i):=rfl
  rw [ho,← e1]
  have e2:∀ j,k + 1 + i + 1 ≤ j → j < x.zA.length → ∀ dd,(lvl x (k + 1 + i)).cs[j - (k + 1 + i + 1)]? = some dd → img (mul (suf x (k + 1))) ((lvl x k).cs.drop (i + 1)) dd (zeros (suf x (k + 1)).length) = sig (suf x (k + 1)) (lvl x k) (((x.zB.getD (k + 1 + i) []).getD (j - (k + 1 + i + 1)) []).drop (k + 1)):=fun j h1 h2 dd hdd => by
   obtain ⟨_,t2,t3⟩:=h.tl (k + 1 + i) hj
   have t:=t3 (j - (k + 1 + i + 1)) (by omega)
   rw [zGo t hj (by omega),sig,zEq _ _ _ _ (by omega),show k + 1 + i + 1 - (k + 1) = i + 1 from by omega]
   congr 1
   simp only [lvl,List.getElem?_map,Option.map_eq_some_iff] at hdd
   obtain ⟨u,hu,rfl⟩:=hdd
   rw [List.getD_eq_getElem?_getD (i:=j - (k + 1 + i + 1)),hu];rfl
  have e3:∀ j,k + 1 + i + 1 ≤ j → j < x.zA.length → ((lvl x k).cs.drop (i + 1))[j - (k + 1 + i + 1)]? = some ((lvl x k).cs.getD (j - (k + 1)) []) ∧ ∃ dd,(lvl x (k + 1 + i)).cs[j - (k + 1 + i + 1)]? = some dd:=fun j h1 h2 => by
   have hcl2:=jZ h hj
   refine ⟨?_,?_⟩
   ·rw [List.getElem?_drop,show i + 1 + (j - (k + 1 + i + 1)) = j - (k + 1) from by omega,List.getD_eq_getElem?_getD,List.getElem?_eq_getElem (by omega)];rfl
   ·exact ⟨_,List.getElem?_eq_getElem (by omega)⟩
  constructor
  ·rintro ⟨a1,a2,a3,a4⟩
   refine ⟨fun j h1 h2 => ?_,fun a h1 h2 j h3 h4 => ?_⟩
   ·rcases Nat.lt_or_ge (k + 1 + i) j with hlt | hge
    ·exact a3 j (by omega) h2
    ·obtain rfl:j = k + 1 + i:=by omega
     rw [show k + 1 + i - (k + 1) = i from by omega]
     exact a1
   ·rcases Nat.lt_or_ge (k + 1 + i) a with hlt | hge
    ·exact a4 a (by omega) h2 j h3 h4
    ·obtain rfl:a = k + 1 + i:=by omega
     obtain ⟨f1,dd,f2⟩:=e3 j (by omega) h4
     have:=a2 _ _ _ f1 f2
     rw [e2 j (by omega) h4 dd f2] at this
     rw [show k + 1 + i - (k + 1) = i from by omega]
     exact this
  ·rintro ⟨a1,a2⟩
   refine ⟨?_,fun kk c dd h1 h2 => ?_,fun j h1 h2 => a1 j (by omega) h2,fun a h1 h2 => a2 a (by omega) h2⟩
   ·have:=a1 (k + 1 + i) (by omega) hj
    rw [show k + 1 + i - (k + 1) = i from by omega] at this
    exact this
   ·have hlt:kk < x.zA.length - (k + 1 + i + 1):=by
     have:=(List.getElem?_eq_some_iff.1 h1).1
     rw [List.length_drop] at this;omega
    have g:=a2 (k + 1 + i) (by omega) hj (k + 1 + i + 1 + kk) (by omega) (by omega)
    obtain ⟨f1,_⟩:=e3 (k + 1 + i + 1 + kk) (by omega) (by omega)
    rw [show k + 1 + i + 1 + kk - (k + 1 + i + 1) = kk from by omega] at f1 g
    rw [h1] at f1
    have f1:=Option.some.inj f1
    have g2:=e2 (k + 1 + i + 1 + kk) (by omega) (by omega) dd (by rw [show k + 1 + i + 1 + kk - (k + 1 + i + 1) = kk from by omega];exact h2)
    rw [show k + 1 + i + 1 + kk - (k + 1 + i + 1) = kk from by omega] at g2
    rw [g2,f1]
    rw [show k + 1 + i - (k + 1) = i from by omega] at g
    exact g
theorem zAE:vC (suf x k) ↔ vC (suf x (k + 1)) ∧ LC x k:=by
 have hr:=zNa h hk (x.zA.length - (k + 1)) 0 (by omega)
 have hl:=xI x (k + 1)
 rw [List.drop_zero,Nat.add_zero] at hr
 rw [yK hk]
 simp only [vC]
 rw [hr]
 constructor
 ·rintro ⟨a,⟨b1,b2⟩,c,d⟩
  refine ⟨a,⟨b1,b2,c,fun j h1 h2 => ?_⟩⟩
  have:=d (j - (k + 1)) (by omega)
  rwa [hl] at this
 ·rintro ⟨a,b⟩
  refine ⟨a,⟨b.c1,b.c2⟩,b.c3,fun j hj => ?_⟩
  have:=b.c4 (k + 1 + j) (by omega) (by omega)
  rw [show k + 1 + j - (k + 1) = j from by omega] at this
  rwa [hl]
end
theorem zCj {x:SPr} (h:vC (suf x 0)) (k:Nat):vC (suf x k):=by
 have:=zD3 h k
 rwa [Nat.zero_add] at this
def zAZ (x:SPr):Prop:=Pres x ∧ vC (suf x 0) ∧ zGi x
theorem zD5 {x:SPr} (hl:x.zA.length ≤ 1048576):IsB (zSY x) (zAZ x):=by
 unfold zSY
 rcases zCt hl with ⟨h1,h2⟩ | ⟨h1,h2⟩
 ·have h6:=h2.os.1
  rw [h1,bs,zJ]
  unfold f_N
  obtain ⟨r,r1,r2⟩:=vQ (body:=zKu x) (Q:=fun r => ∃ s:Nat,r = (s:Int) ∧ vC (suf x s) ∧ (s = 0 ∨ ¬ vC (suf x (s - 1)))) (fun i s => i ≤ x.zA.length ∧ s = ((x.zA.length - i:Nat):Int) ∧ vC (suf x (x.zA.length - i))) x.zA.length (fun i s hi ⟨_,hs,hcs⟩ => by
    subst hs
    have hk:x.zA.length - i - 1 < x.zA.length:=by omega
    have e9:x.zA.length - (i + 1) = x.zA.length - i - 1:=by omega
    rw [e9]
    have e8:i + 1 ≤ x.zA.length:=by omega
    rw [show x.zA.length - i = x.zA.length - i - 1 + 1 from by omega] at hcs ⊢
    have hlev:=zGn h2.toPres hk hcs
    have hiff:=zAE h2.toPres hk
    generalize x.zA.length - i - 1 = k at *
    unfold zKu
    rw [decide_eq_true (by omega),zJ,zD (by omega) (by omega),bs,show (((k + 1:Nat):Int) - 1) = (k:Int) from by omega]
    rcases hlev with ⟨g1,g2⟩ | ⟨r,g1,g2,g3⟩
    ·left
     rw [g1,bs]
     simp only [beq_self_eq_true,Bool.and_true]
     rw [zJ,bs]
     exact ⟨_,rfl,e8,rfl,hiff.2 ⟨hcs,g2⟩⟩
    ·right
     rw [g1,bs,show (r.Kind == 0) = false from by simpa using g2,Bool.false_and,zF]
     refine ⟨_,rfl,k + 1,rfl,hcs,.inr fun q => g3 (hiff.1 q).2⟩) (fun s ⟨_,hs,hcs⟩ => by
    rw [Nat.sub_self] at hs hcs
    subst hs
    unfold zKu
    rw [show decide (((0:Nat):Int) > 0) = false from rfl,zF]
    exact ⟨_,rfl,0,rfl,hcs,.inl rfl⟩) (s:=(x.zA.length:Int)) ⟨by omega,by rw [Nat.sub_zero],by rw [Nat.sub_zero,vY (by omega)];simp only [vC]⟩
  obtain ⟨s,rfl,hcs,hs⟩:=r2
  rw [r1,bs,bs]
  cases s with
  | zero => exact .inl ⟨rfl,h2.toPres,hcs,h2⟩
  | succ s =>
   refine .inr ⟨?_,fun q => ?_⟩
   ·congr 1
   ·rcases hs with hs | hs
    ·omega
    ·exact hs (zCj q.2.1 _)
 ·rw [h1,bs,zF]
  exact .inr ⟨rfl,fun q => h2 q.2.2⟩
theorem zLq {x:SPr} (hl:x.zA.length ≤ 1048576):IsB (zSS x) (zAZ x):=by
 unfold zSS
 rcases zCu hl with ⟨h1,h2⟩ | ⟨h1,h2⟩
 ·have h6:=h2.os.1
  rw [h1,bs,zJ]
  unfold zVt zVs
  rw [zD (by omega) (by omega),bs]
  obtain ⟨r,r1,r2⟩:=vQ (body:=zKq x) (Q:=fun r => (r = .inl () ∧ vC (suf x 0)) ∨ ∃ f,r = .inr f ∧ f.Kind ≠ 0 ∧ ¬ vC (suf x 0)) (fun i s => i ≤ x.zA.length ∧ s = ((x.zA.length - i:Nat):Int) - 1 ∧ vC (suf x (x.zA.length - i))) x.zA.length (fun i s hi ⟨_,hs,hcs⟩ => by
    subst hs
    have hk:x.zA.length - i - 1 < x.zA.length:=by omega
    have e9:x.zA.length - (i + 1) = x.zA.length - i - 1:=by omega
    rw [e9]
    have e8:i + 1 ≤ x.zA.length:=by omega
    rw [show x.zA.length - i = x.zA.length - i - 1 + 1 from by omega] at hcs ⊢
    have hlev:=zLp h2.toPres hk hcs
    have hiff:=zAE h2.toPres hk
    generalize x.zA.length - i - 1 = k at *
    unfold zKq
    rw [show (((k + 1:Nat):Int) - 1) = (k:Int) from by omega,decide_eq_true (by omega),zJ]
    rcases hlev with ⟨g1,g2⟩ | ⟨r,g1,g2,g3⟩
    ·left
     rw [g1,bs]
     simp only
     rw [show ((0:Int) != 0) = false from rfl,zF,zD (by omega) (by omega),bs]
     exact ⟨_,rfl,e8,rfl,hiff.2 ⟨hcs,g2⟩⟩
    ·right
     rw [g1,bs,show (r.Kind != 0) = true from by simpa using g2,zJ]
     exact ⟨_,rfl,.inr ⟨r,rfl,g2,fun q => g3 (hiff.1 (zCj q _)).2⟩⟩) (fun s ⟨_,hs,hcs⟩ => by
    rw [Nat.sub_self] at hs hcs
    subst hs
    unfold zKq
    rw [show decide (((0:Nat):Int) - 1 ≥ 0) = false from rfl,zF]
    exact ⟨_,rfl,.inl ⟨rfl,hcs⟩⟩) (s:=(x.zA.length:Int) - 1) ⟨by omega,by rw [Nat.sub_zero],by rw [Nat.sub_zero,vY (by omega)];simp only [vC]⟩
  rw [r1,bs]
  rcases r2 with ⟨rfl,q⟩ | ⟨f,rfl,g1,g2⟩
  ·exact .inl ⟨rfl,h2.toPres,q,h2⟩
  ·simp only
   rw [bs,show (f.Kind == 0) = false from by simpa using g1]
   exact .inr ⟨rfl,fun q => g2 q.2.1⟩
 ·rw [h1,bs,zF]
  exact .inr ⟨rfl,fun q => h2 q.2.2⟩
end Go.Pl

namespace Go.Pl
open Go Go.Ab Go.Wk
abbrev Mx:=List (List Int)
def S:Nat → (Nat → Int) → Int
 | 0,_ => 0
 | n + 1,f => S n f + f n
theorem wU {n:Nat} {f g:Nat → Int} (h:∀ i,i < n → f i = g i):S n f = S n g:=by
 induction n with
 | zero => rfl
 | succ n ih => simp only [S];rw [ih fun i hi => h i (by omega),h n (by omega)]
theorem zD6 {p:Int} {f g:Nat → Int}:∀ {n:Nat},(∀ i,i < n → f i % p = g i % p) → S n f % p = S n g % p
 | 0,_ => rfl
 | n + 1,h => by
  simp only [S]
  rw [Int.add_emod,zD6 (n:=n) fun i hi => h i (by omega),h n (by omega),← Int.add_emod]
theorem jM:∀ n:Nat,S n (fun _ => 0) = 0
 | 0 => rfl
 | n + 1 => by simp only [S,jM n];rfl
theorem zJI {f g:Nat → Int}:∀ n:Nat,S n (fun i => f i + g i) = S n f + S n g
 | 0 => rfl
 | n + 1 => by simp only [S,zJI n];omega
theorem zPU {f:Nat → Int} (a:Int):∀ n:Nat,S n (fun i => f i * a) = S n f * a
 | 0 => by simp [S]
 | n + 1 => by simp only [S,zPU a n,Int.add_mul]
theorem zEr {f:Nat → Int} (a:Int):∀ n:Nat,S n (fun i => a * f i) = a * S n f
 | 0 => by simp [S]
 | n + 1 => by simp only [S,zEr a n,Int.mul_add]
theorem zLr {f:Nat → Nat → Int} (m:Nat):∀ n:Nat,S n (fun i => S m (fun j => f i j)) = S m (fun j => S n (fun i => f i j))
 | 0 => by simp only [S];exact (jM m).symm
 | n + 1 => by simp only [S];rw [zLr m n,zJI]
theorem zAF {f:Nat → Int} {k:Nat}:∀ {n:Nat},k < n → (∀ i,i < n → i ≠ k → f i = 0) → S n f = f k
 | 0,h,_ => by omega
 | n + 1,h,hz => by
  simp only [S]
  by_cases hk:k = n
  ·subst hk
   rw [wU (g:=fun _ => 0) fun i hi => hz i (by omega) (by omega),jM];omega
  ·rw [zAF (n:=n) (by omega) fun i hi => hz i (by omega),hz n (by omega) (by omega)];omega
def mkv (D:Nat) (f:Nat → Int):List Int:=(List.range D).map f
theorem zZ (D:Nat) (f:Nat → Int):(mkv D f).length = D:=by simp [mkv]
theorem zCk {D:Nat} {f:Nat → Int} {i:Nat} (h:i < D):(mkv D f)[i]? = some (f i):=by simp [mkv,h]
theorem yE {D:Nat} {f:Nat → Int} {i:Nat} (h:i < D):at0 (mkv D f) i = f i:=by
 rw [at0,List.getD_eq_getElem?_getD,zCk h];rfl
theorem zY {D:Nat} {f g:Nat → Int} (h:∀ i,i < D → f i = g i):mkv D f = mkv D g:=by
 unfold mkv
 apply List.map_congr_left
 intro i hi
 exact h i (by simpa using hi)
theorem qO {D:Nat} {f:Nat → Int} {j:Nat} {a:Int}:(mkv D f).set j a = mkv D (fun i => if i = j then a else f i):=by
 apply List.ext_getElem?
 intro i
 rw [List.getElem?_set,zZ]
 by_cases hi:i < D
 ·by_cases hij:j = i
  ·subst hij;rw [if_pos rfl,if_pos hi,zCk hi,if_pos rfl]
  ·rw [if_neg hij,zCk hi,zCk hi,if_neg fun h => hij h.symm]
 ·have h1:∀ g:Nat → Int,(mkv D g)[i]? = none:=fun g => List.getElem?_eq_none (by rw [zZ];omega)
  rw [h1,h1]
  by_cases hij:j = i
  ·subst hij;rw [if_pos rfl,if_neg hi]
  ·rw [if_neg hij]
theorem vJ {v:List Int} {D:Nat} (h:v.length = D):v = mkv D (at0 v):=by
 apply List.ext_getElem?
 intro i
 by_cases hi:i < D
 ·rw [zCk hi,at0,List.getD_eq_getElem?_getD,List.getElem?_eq_getElem (by omega)];rfl
 ·rw [List.getElem?_eq_none (by omega),List.getElem?_eq_none (by rw [zZ];omega)]
theorem tL (D:Nat):List.replicate D (0:Int) = mkv D (fun _ => 0):=by
 apply List.ext_getElem?
 intro i
 by_cases hi:i < D
 ·rw [zCk hi];simp [hi]
 ·rw [List.getElem?_eq_none (by simp;omega),List.getElem?_eq_none (by rw [zZ];omega)]
abbrev ent (B:Mx) (l j:Nat):Int:=at0 (B.getD l []) j
def tM (p:Int) (D:Nat) (r:List Int) (B:Mx):List Int:=mkv D fun j => S D (fun l => at0 r l * ent B l j) % p
def PM (p:Int) (D:Nat) (A B:Mx):Mx:=A.map fun r => tM p D r B
def idM (D:Nat):Mx:=(List.range D).map fun i => mkv D fun j => if j = i then 1 else 0
def Row (p:Int) (D:Nat) (r:List Int):Prop:=r.length = D ∧ ∀ i,i < D → 0 ≤ at0 r i ∧ at0 r i ≤ p - 1
def Mat (p:Int) (D:Nat) (A:Mx):Prop:=A.length = D ∧ ∀ i,i < D → Row p D (A.getD i [])
theorem zBa {p:Int} {D i:Nat} {A B:Mx} (h:i < A.length):(PM p D A B).getD i [] = tM p D (A.getD i []) B:=by
 simp only [PM,List.getD_eq_getElem?_getD,List.getElem?_map,List.getElem?_eq_getElem h];rfl
theorem vF {p:Int} {D:Nat} {A B:Mx}:(PM p D A B).length = A.length:=by simp [PM]
theorem zBP {p:Int} {D:Nat} {A B:Mx} (hp:0 < p) (hA:A.length = D):Mat p D (PM p D A B):=by
 refine ⟨by rw [vF,hA],fun i hi => ?_⟩
 rw [zBa (by omega)]
 refine ⟨by rw [tM,zZ],fun j hj => ?_⟩
 rw [tM,yE hj]
 have h1:=Int.emod_nonneg (S D fun l => at0 (A.getD i []) l * ent B l j) (show p ≠ 0 by omega)
 have h2:=Int.emod_lt_of_pos (S D fun l => at0 (A.getD i []) l * ent B l j) hp
 omega
theorem zLs {p:Int} {D i j:Nat} {A B:Mx} (hA:A.length = D) (hi:i < D) (hj:j < D):ent (PM p D A B) i j = S D (fun l => ent A i l * ent B l j) % p:=by
 rw [ent,zBa (by omega),tM,yE hj]
theorem zGp {D:Nat} {A B:Mx} (hA:A.length = D) (hB:B.length = D) (h:∀ i,i < D → A.getD i [] = B.getD i []):A = B:=by
 apply List.ext_getElem?
 intro i
 by_cases hi:i < D
 ·have:=h i hi
  rw [List.getD_eq_getElem?_getD,List.getD_eq_getElem?_getD,List.getElem?_eq_getElem (by omega),List.getElem?_eq_getElem (by omega)] at this
  rw [List.getElem?_eq_getElem (by omega),List.getElem?_eq_getElem (by omega)]
  exact congrArg some this
 ·rw [List.getElem?_eq_none (by omega),List.getElem?_eq_none (by omega)]
theorem zJJ {p:Int} {D:Nat} {A B C:Mx} (hA:A.length = D) (hB:B.length = D):PM p D (PM p D A B) C = PM p D A (PM p D B C):=by
 refine zGp (by rw [vF,vF,hA]) (by rw [vF,hA]) fun i hi => ?_
 rw [zBa (A:=PM p D A B) (by rw [vF];omega),zBa (A:=A) (B:=PM p D B C) (by omega)]
 unfold tM
 refine zY fun j hj => ?_
 have e1:S D (fun l => at0 ((PM p D A B).getD i []) l * ent C l j) % p = S D (fun l => S D (fun q => ent A i q * ent B q l) * ent C l j) % p:=zD6 fun l hl => by
  have:=zLs (p:=p) (B:=B) hA hi hl
  simp only [ent] at this ⊢
  rw [this,Int.mul_emod,Int.emod_emod,← Int.mul_emod]
 have e2:S D (fun l => at0 (A.getD i []) l * ent (PM p D B C) l j) % p = S D (fun q => ent A i q * S D (fun l => ent B q l * ent C l j)) % p:=zD6 fun q hq => by
  rw [zLs hB hq hj,Int.mul_emod,Int.emod_emod,← Int.mul_emod]
 rw [e1,e2]
 congr 1
 have e3:(fun l => S D (fun q => ent A i q * ent B q l) * ent C l j) = fun l => S D (fun q => ent A i q * ent B q l * ent C l j):=funext fun l => (zPU _ _).symm
 have e4:(fun q => ent A i q * S D (fun l => ent B q l * ent C l j)) = fun q => S D (fun l => ent A i q * ent B q l * ent C l j):=funext fun q => by
  rw [← zEr]
  exact wU fun l _ => by rw [Int.mul_assoc]
 rw [e3,e4]
 exact zLr D D
theorem uK (D:Nat):(idM D).length = D:=by simp [idM]
theorem zCl {D i:Nat} (h:i < D):(idM D).getD i [] = mkv D fun j => if j = i then 1 else 0:=by simp [idM,List.getD_eq_getElem?_getD,h]
theorem zAe {p:Int} {D:Nat} (hp:2 ≤ p):Mat p D (idM D):=by
 refine ⟨uK D,fun i hi => ?_⟩
 rw [zCl hi]
 refine ⟨zZ _ _,fun j hj => ?_⟩
 rw [yE hj]
 split <;> omega
theorem kC {p a:Int} (h:0 ≤ a ∧ a ≤ p - 1):a % p = a:=Int.emod_eq_of_lt h.1 (by omega)
theorem zIy {p:Int} {D:Nat} {B:Mx} (hB:Mat p D B):PM p D (idM D) B = B:=by
 refine zGp (by rw [vF,uK]) hB.1 fun i hi => ?_
 rw [zBa (by rw [uK];exact hi),zCl hi,tM]
 obtain ⟨h1,h2⟩:=hB.2 i hi
 refine Eq.trans (zY fun j hj => ?_) (vJ h1).symm
 rw [zAF (k:=i) hi fun l hl hne => by rw [yE hl,if_neg hne,Int.zero_mul],yE hi,if_pos rfl,Int.one_mul]
 exact kC (h2 j hj)
theorem zJK {p:Int} {D:Nat} {A:Mx} (hA:Mat p D A):PM p D A (idM D) = A:=by
 refine zGp (by rw [vF,hA.1]) hA.1 fun i hi => ?_
 rw [zBa (by rw [hA.1];exact hi),tM]
 obtain ⟨h1,h2⟩:=hA.2 i hi
 refine Eq.trans (zY fun j hj => ?_) (vJ h1).symm
 rw [zAF (k:=j) hj fun l hl hne => by rw [ent,zCl hl,yE hj,if_neg (fun h => hne h.symm),Int.mul_zero],ent,zCl hj,yE hj,if_pos rfl,Int.mul_one]
 exact kC (h2 j hj)
theorem zPV {p:Int} {D i j:Nat} {B:Mx} (hB:Mat p D B) (hi:i < D) (hj:j < D):ixO B (i:Int) = some (B.getD i []) ∧ ixO (B.getD i []) (j:Int) = some (ent B i j) ∧ (B.getD i []).length = D ∧ 0 ≤ ent B i j ∧ ent B i j ≤ p - 1:=by
 obtain ⟨h1,h2⟩:=hB.2 i hi
 have:=hB.1
 exact ⟨yD [] (by omega),yF (by omega),h1,h2 j hj⟩
def acc (p:Int) (D i:Nat) (r:List Int) (B:Mx):List Int:=mkv D fun j => S i (fun l => at0 r l * ent B l j) % p
def zCv (p:Int) (D i k:Nat) (r:List Int) (B:Mx):List Int:=mkv D fun j => if j < k then S (i + 1) (fun l => at0 r l * ent B l j) % p else S i (fun l => at0 r l * ent B l j) % p
theorem zH7 {p:Int} {D i:Nat} {r:List Int} {B:Mx}:zCv p D i 0 r B = acc p D i r B:=zY fun j _ => by rw [if_neg (by omega)]
theorem zH8 {p:Int} {D i:Nat} {r:List Int} {B:Mx}:zCv p D i D r B = acc p D (i + 1) r B:=zY fun j hj => by rw [if_pos hj]
theorem zJL {p:Int} {D i k:Nat} {r:List Int} {B:Mx} (hk:k < D) {a:Int} (ha:a = (at0 (zCv p D i k r B) k + at0 r i * ent B i k) % p):(zCv p D i k r B).set k a = zCv p D i (k + 1) r B:=by
 subst ha
 simp only [zCv]
 rw [qO,yE hk,if_neg (by omega)]
 refine zY fun j hj => ?_
 by_cases hjk:j = k
 ·subst hjk
  rw [if_pos rfl,if_pos (by omega)]
  simp only [S]
  rw [Int.emod_add_emod]
 ·rw [if_neg hjk]
  by_cases hlt:j < k
  ·rw [if_pos hlt,if_pos (by omega)]
  ·rw [if_neg hlt,if_neg (by omega)]
theorem zJM {p:Int} {D i k j:Nat} {r:List Int} {B:Mx} (hp:0 < p) (hj:j < D):0 ≤ at0 (zCv p D i k r B) j ∧ at0 (zCv p D i k r B) j ≤ p - 1:=by
 rw [zCv,yE hj]
 split
 ·have h1:=Int.emod_nonneg (S (i + 1) fun l => at0 r l * ent B l j) (show p ≠ 0 by omega)
  have h2:=Int.emod_lt_of_pos (S (i + 1) fun l => at0 r l * ent B l j) hp
  omega
 ·have h1:=Int.emod_nonneg (S i fun l => at0 r l * ent B l j) (show p ≠ 0 by omega)
  have h2:=Int.emod_lt_of_pos (S i fun l => at0 r l * ent B l j) hp
  omega
theorem zGq {p:Int} {D i k:Nat} {r:List Int} {B:Mx}:(zCv p D i k r B).length = D:=zZ _ _
theorem zNb {p:Int} {D i k j:Nat} {r:List Int} {B:Mx} (hj:j < D):ixO (zCv p D i k r B) (j:Int) = some (at0 (zCv p D i k r B) j):=yF (by rw [zGq];exact hj)
theorem zJN {p:Int} {D:Nat} {r:List Int} {B:Mx}:List.replicate D (0:Int) = acc p D 0 r B:=by
 rw [tL];exact zY fun j _ => by simp [S]
theorem zH9 {a b p:Int} (hp:p ≤ 7) (ha:0 ≤ a ∧ a ≤ p - 1) (hb:0 ≤ b ∧ b ≤ p - 1):0 ≤ a * b ∧ a * b ≤ 36:=by
 have h1:0 ≤ a * b:=Int.mul_nonneg ha.1 hb.1
 have h2:a * b ≤ 6 * 6:=Int.mul_le_mul (by omega) (by omega) hb.1 (by omega)
 omega
section
variable {p:Int} {D:Nat} (hp:Prime p) (hD:D ≤ 8)
 include hp hD
theorem zCZ {r:List Int} {B:Mx} (hr:Row p D r) (hB:Mat p D B):f_F p r B (D:Int) = some (tM p D r B):=by
 have h7:=hp.pos
 have hBl:=hB.1
 have hrl:=hr.1
 unfold f_F
 rw [yT (by omega),bs,zJN (p:=p) (r:=r) (B:=B)]
 have:=zO (body:=zQP p r B) (r:=acc p D D r B) (fun i => (acc p D i r B,(i:Int))) D (fun i hi => by
  have hri:=hr.2 i hi
  unfold zQP
  simp only
  rw [hrl,hBl,yQ hi,zJ,zJ]
  have inner:=zO (body:=zQO p r B (acc p D i r B,(i:Int))) (r:=acc p D (i + 1) r B) (fun k => (zCv p D i k r B,(k:Int))) D (fun k hk => by
   obtain ⟨b1,b2,b3,b4⟩:=zPV hB hi hk
   have ha:=zJM (p:=p) (i:=i) (k:=k) (r:=r) (B:=B) (by omega) hk
   have hm:=zH9 (by omega) hri b4
   unfold zQO
   simp only
   rw [zGq,yQ hk,zJ,b1,bs,b3,yQ hk,zJ,zNb hk,bs,yF (by omega),bs,bs,b2,bs,zD (by omega) (by omega),bs,zD (by omega) (by omega),bs]
   have hrem:uQ (at0 (zCv p D i k r B) k + at0 r i * ent B i k) p = some ((at0 (zCv p D i k r B) k + at0 r i * ent B i k) % p):=by
    unfold uQ
    rw [if_neg (by omega),Int.tmod_eq_emod_of_nonneg (by omega)]
   rw [hrem,bs,bs,zD (by omega) (by omega),bs,cs,Int.toNat_natCast,zJL hk rfl]) (by
   unfold zQO
   simp only
   rw [zGq,xD,zF,zH8])
  rw [zH7,show ((0:Nat):Int) = 0 from rfl] at inner
  rw [inner,bs,zD (by omega) (by omega),bs,cs]) (by
  unfold zQP
  simp only
  rw [hrl,xD,zF])
 rw [show ((0:Nat):Int) = 0 from rfl] at this
 rw [this,bs];rfl
theorem zIz {a:Int} (h0:0 ≤ a) (_h1:a ≤ 1000):zGY a p = some (a % p):=by
 have _:=hD
 have h7:=hp.pos
 have e1:=Int.emod_nonneg a (show p ≠ 0 by omega)
 have e2:=Int.emod_lt_of_pos a (show 0 < p by omega)
 unfold zGY uQ
 rw [if_neg (by omega),bs,Int.tmod_eq_emod_of_nonneg h0,zD (by omega) (by omega),bs,if_neg (by omega),bs,Int.tmod_eq_emod_of_nonneg (by omega)]
 congr 1
 rw [Int.add_emod_right,Int.emod_emod]
theorem zEs {i:Nat} {r:List Int} {B:Mx} (hi:i < D) (hr:Row p D r) (hB:Mat p D B):f_v (acc p D i r B) (B.getD i []) (at0 r i) p = some (acc p D (i + 1) r B):=by
 have h7:=hp.pos
 have hri:=hr.2 i hi
 unfold f_v
 have hl:(acc p D i r B).length = D:=zZ _ _
 have inner:=zO (body:=zKw (acc p D i r B) (B.getD i []) (at0 r i) p) (r:=acc p D (i + 1) r B) (fun k => (zCv p D i k r B,(k:Int))) D (fun k hk => by
  obtain ⟨b1,b2,b3,b4⟩:=zPV hB hi hk
  have ha:=zJM (p:=p) (i:=i) (k:=k) (r:=r) (B:=B) (by omega) hk
  have hm:=zH9 (by omega) hri b4
  unfold zKw
  simp only
  rw [hl,yQ hk,zJ,zNb hk,bs,b2,bs,zD (by omega) (by omega),bs,zD (by omega) (by omega),bs,zIz hp hD (by omega) (by omega),bs,bs,zD (by omega) (by omega),bs,cs,Int.toNat_natCast,zJL hk rfl]) (by
  unfold zKw
  simp only
  rw [hl,xD,zF,zH8])
 rw [zH7,show ((0:Nat):Int) = 0 from rfl] at inner
 rw [inner,bs]
theorem zAG {r:List Int} {B:Mx} {q:Int} (hr:Row p D r) (hB:Mat p D B) (hq:q = (D:Int)):zRv r (zV.mk p q B) = some (tM p D r B):=by
 subst hq
 have hrl:=hr.1
 unfold zRv
 simp only
 rw [yT (by omega),bs,zJN (p:=p) (r:=r) (B:=B)]
 have:=zO (body:=zKx r (zV.mk p (D:Int) B)) (r:=acc p D D r B) (fun i => (acc p D i r B,(i:Int))) D (fun i hi => by
  have hBl:=hB.1
  unfold zKx
  simp only
  rw [hrl,yQ hi,zJ,yF (by omega),bs,yD [] (by omega),bs,zEs hp hD hi hr hB,bs,zD (by omega) (by omega),bs,cs]) (by
  unfold zKx
  simp only
  rw [hrl,xD,zF])
 rw [show ((0:Nat):Int) = 0 from rfl] at this
 rw [this,bs];rfl
theorem zHA {A B:Mx} {i:Nat} (hi:i < A.length):(PM p D A B).take i ++ [tM p D (A.getD i []) B] = (PM p D A B).take (i + 1):=by
 have _:=hp;have _:=hD
 rw [List.take_succ_eq_append_getElem (by rw [vF];exact hi)]
 congr 2
 have:=zBa (p:=p) (D:=D) (B:=B) hi
 rw [List.getD_eq_getElem?_getD,List.getElem?_eq_getElem (by rw [vF];exact hi)] at this
 exact this.symm
theorem qP {A B:Mx} (hA:Mat p D A) (hB:Mat p D B):f_S p A B (D:Int) = some (PM p D A B):=by
 have hAl:=hA.1
 unfold f_S
 have:=zO (body:=zQQ p A B (D:Int)) (r:=PM p D A B) (fun i => ((PM p D A B).take i,(i:Int))) D (fun i hi => by
  unfold zQQ
  simp only
  rw [hAl,yQ hi,zJ,yD [] (by omega),bs,zCZ hp hD (hA.2 i hi) hB,bs,yM (by rw [List.length_take,vF];simp;omega),bs,zD (by omega) (by omega),bs,cs,zHA hp hD (by omega)]) (by
  unfold zQQ
  simp only
  rw [hAl,xD,zF,List.take_of_length_le (by rw [vF];omega)])
 rw [show ((0:Nat):Int) = 0 from rfl,List.take_zero] at this
 rw [this,bs]
theorem zGP {A B:Mx} {q:Int} (hA:Mat p D A) (hB:Mat p D B):zTb (zV.mk p q A) (zV.mk p (D:Int) B) = some (zV.mk p (D:Int) (PM p D A B)):=by
 have hAl:=hA.1
 unfold zTb
 have:=zO (body:=zKy (zV.mk p q A) (zV.mk p (D:Int) B)) (r:=PM p D A B) (fun i => ((PM p D A B).take i,(i:Int))) D (fun i hi => by
  unfold zKy
  simp only
  rw [hAl,yQ hi,zJ,yD [] (by omega),bs,zAG hp hD (hA.2 i hi) hB rfl,bs,yM (by rw [List.length_take,vF];simp;omega),bs,zD (by omega) (by omega),bs,cs,zHA hp hD (by omega)]) (by
  unfold zKy
  simp only
  rw [hAl,xD,zF,List.take_of_length_le (by rw [vF];omega)])
 rw [show ((0:Nat):Int) = 0 from rfl,List.take_zero] at this
 rw [this,bs]
theorem zJO {i:Nat} (_hi:i < D):(List.replicate D (0:Int)).set i 1 = mkv D fun j => if j = i then 1 else 0:=by
 have _:=hp;have _:=hD
 rw [tL,qO]
theorem zNc {i:Nat} (hi:i < D):(idM D).take i ++ [mkv D fun j => if j = i then 1 else 0] = (idM D).take (i + 1):=by
 have _:=hp;have _:=hD
 rw [List.take_succ_eq_append_getElem (by rw [uK];exact hi)]
 congr 2
 have:=zCl hi
 rw [List.getD_eq_getElem?_getD,List.getElem?_eq_getElem (by rw [uK];exact hi)] at this
 exact this.symm
theorem zGr:f_H (D:Int) = some (idM D):=by
 unfold f_H
 have:=zO (body:=zKr (D:Int)) (r:=idM D) (fun i => ((idM D).take i,(i:Int))) D (fun i hi => by
  unfold zKr
  simp only
  rw [yQ hi,zJ,yT (by omega),bs,vA,List.getElem?_replicate,if_pos hi,bs,Int.toNat_natCast,zJO hp hD hi,yM (by rw [List.length_take,uK];simp;omega),bs,zD (by omega) (by omega),bs,cs,zNc hp hD hi]) (by
  unfold zKr
  simp only
  rw [xD,zF,List.take_of_length_le (by rw [uK];omega)])
 rw [show ((0:Nat):Int) = 0 from rfl,List.take_zero] at this
 rw [this,bs]
theorem zGQ:f_T p (D:Int) = some (zV.mk p (D:Int) (idM D)):=by
 unfold f_T
 have:=zO (body:=zRu (D:Int)) (r:=idM D) (fun i => ((idM D).take i,(i:Int))) D (fun i hi => by
  unfold zRu
  simp only
  rw [yQ hi,zJ,yT (by omega),bs,vA,List.getElem?_replicate,if_pos hi,bs,Int.toNat_natCast,zJO hp hD hi,yM (by rw [List.length_take,uK];simp;omega),bs,zD (by omega) (by omega),bs,cs,zNc hp hD hi]) (by
  unfold zRu
  simp only
  rw [xD,zF,List.take_of_length_le (by rw [uK];omega)])
 rw [show ((0:Nat):Int) = 0 from rfl,List.take_zero] at this
 rw [this,bs]
end
end Go.Pl

namespace Go.Pl
open Go Go.Ab Go.Wk Go.Pc
def nw:Nat → List Int → List Nat
 | _,[] => []
 | o,a :: v => List.replicate a.toNat o ++ nw (o + 1) v
theorem zEt:∀ (o:Nat) (u v:List Int),nw o (u ++ v) = nw o u ++ nw (o + u.length) v
 | o,[],v => by simp [nw]
 | o,a :: u,v => by
  simp only [List.cons_append,nw,zEt (o + 1) u v,List.append_assoc,List.length_cons]
  rw [show o + 1 + u.length = o + (u.length + 1) from by omega]
theorem zI0 {v:List Int} {i:Nat} (h:i < v.length):nw 0 (v.take (i + 1)) = nw 0 (v.take i) ++ List.replicate (at0 v i).toNat i:=by
 rw [List.take_succ_eq_append_getElem h,zEt,List.length_take,Nat.min_eq_left (by omega),Nat.zero_add]
 simp only [nw,List.append_nil]
 rw [at0,List.getD_eq_getElem?_getD,List.getElem?_eq_getElem h];rfl
theorem zPW {n:Nat}:∀ (o:Nat) (v:List Int),o + v.length ≤ n → ∀ w ∈ nw o v,w < n
 | o,[],_,w,h => by simp [nw] at h
 | o,a :: v,hv,w,h => by
  simp only [nw,List.mem_append,List.length_cons] at h hv
  rcases h with h | h
  ·have:=List.eq_of_mem_replicate h;omega
  ·exact zPW (o + 1) v (by omega) w h
theorem zGs:∀ (o:Nat) (v:List Int),(∀ i,i < v.length → at0 v i ≤ 6) → (nw o v).length ≤ 6 * v.length
 | o,[],_ => by simp [nw]
 | o,a :: v,h => by
  have h0:=h 0 (by simp)
  have:=zGs (o + 1) v fun i hi => by
   have:=h (i + 1) (by simpa using hi)
   simpa [at0] using this
  simp only [at0,List.getD_cons_zero] at h0
  simp only [nw,List.length_append,List.length_replicate,List.length_cons]
  omega
def wM (p:Int) (D:Nat) (A:List Mx) (ws:List Nat) (B:Mx):Mx:=ws.foldl (fun B w => PM p D B (A.getD w [])) B
theorem zEu {p:Int} {D:Nat} {A:List Mx} {u v:List Nat} {B:Mx}:wM p D A (u ++ v) B = wM p D A v (wM p D A u B):=by simp [wM,List.foldl_append]
theorem zGt {p:Int} {D:Nat} {A:List Mx} {w:Nat}:∀ (k:Nat) (B:Mx),wM p D A (List.replicate k w) B = iter k (fun B => PM p D B (A.getD w [])) B
 | 0,_ => rfl
 | k + 1,B => by
  rw [List.replicate_succ]
  show wM p D A (List.replicate k w) (PM p D B (A.getD w [])) = _
  rw [zGt k];rfl
theorem zEv {p:Int} {D:Nat} {A:List Mx} (hp:0 < p):∀ (ws:List Nat) {B:Mx},Mat p D B → Mat p D (wM p D A ws B)
 | [],_,hB => hB
 | _w :: ws,_,hB => zEv hp ws (zBP hp hB.1)
theorem zPX {p:Int} {D:Nat} {A:List Mx} (hp:0 < p) {C:Mx} (hC:C.length = D):∀ (ws:List Nat) {B:Mx},Mat p D B → wM p D A ws (PM p D C B) = PM p D C (wM p D A ws B)
 | [],_,_ => rfl
 | w :: ws,B,hB => by
  show wM p D A ws (PM p D (PM p D C B) (A.getD w [])) = PM p D C (wM p D A ws (PM p D B (A.getD w [])))
  rw [zJJ hC hB.1,zPX hp hC ws (zBP hp hB.1)]
structure MOk (n:Nat) (m:zC) (D:Nat):Prop where
 p:Prime m.Prime
 d:m.Dim = (D:Int)
 d1:1 ≤ D
 d3:D ≤ 3
 len:m.zI.length = n
 mat:∀ i,i < n → Mat m.Prime D (m.zI.getD i [])
section
variable {n D:Nat} {m:zC} (hm:MOk n m D) (hn:n ≤ 9)
 include hm hn
theorem zJP {v:List Int} (hl:v.length = n) (hv:∀ i,i < n → 0 ≤ at0 v i ∧ at0 v i ≤ 6):f_I m v = some (wM m.Prime D m.zI (nw 0 v) (idM D)):=by
 have h7:=hm.p.pos
 have h3:=hm.d3
 have hlen:=hm.len
 unfold f_I
 rw [hm.d,zGr hm.p (by omega),bs]
 have hI:∀ i,Mat m.Prime D (wM m.Prime D m.zI (nw 0 (v.take i)) (idM D)):=fun i => zEv (by omega) _ (zAe h7.1)
 have:=zO (body:=zQS m v) (r:=wM m.Prime D m.zI (nw 0 v) (idM D)) (fun i => (wM m.Prime D m.zI (nw 0 (v.take i)) (idM D),(i:Int))) n (fun i hi => by
  have hvi:=hv i hi
  unfold zQS
  simp only
  rw [hl,yQ hi,zJ]
  rw [vD (S:=Mat m.Prime D) (body:=zQR m v (wM m.Prime D m.zI (nw 0 (v.take i)) (idM D),(i:Int))) (fun B => B) (fun B => PM m.Prime D B (m.zI.getD i [])) (at0 v i) hvi.1 (fun B hB => zBP (by omega) hB.1) (fun B q hB hq => by
   unfold zQR
   simp only
   rw [yF (by omega),bs,decide_eq_true hq,zJ,yD [] (by omega),bs,hm.d,qP hm.p (by omega) hB (hm.mat i hi),bs,zD (by omega) (by omega),bs,cs]) (fun B hB => by
   unfold zQR
   simp only
   rw [yF (by omega),bs,decide_eq_false (by omega),zF]) (hI i),bs,zD (by omega) (by omega),bs,cs]
  rw [zI0 (by omega),zEu,zGt]) (by
  unfold zQS
  simp only
  rw [hl,xD,zF,List.take_of_length_le (by omega)])
 rw [show ((0:Nat):Int) = 0 from rfl,List.take_zero] at this
 simp only [nw,wM,List.foldl_nil] at this
 rw [this,bs];rfl
abbrev enW (ws:List Nat):List Int:=ws.map fun (w:Nat) => (w:Int) + 1
theorem zCB {i:Nat} (hi:i < n):zLU m (i:Int) = some (zV.mk m.Prime (D:Int) (m.zI.getD i [])):=by
 have _:=hn
 have hlen:=hm.len
 unfold zLU
 rw [yD [] (by omega),bs,hm.d]
theorem zCC {ws:List Nat} (hw:∀ w ∈ ws,w < n) (hl:ws.length ≤ 1000):f_U m (enW ws) = some (zV.mk m.Prime (D:Int) (wM m.Prime D m.zI ws (idM D))):=by
 have h7:=hm.p.pos
 have h3:=hm.d3
 unfold f_U
 rw [hm.d,zGQ hm.p (by omega),bs]
 have hI:∀ i,Mat m.Prime D (wM m.Prime D m.zI (ws.take i) (idM D)):=fun i => zEv (by omega) _ (zAe h7.1)
 have hel:(enW ws).length = ws.length:=by simp only [enW,List.length_map]
 have:=zO (body:=zRw m (enW ws)) (r:=(m.Prime,(D:Int),wM m.Prime D m.zI ws (idM D))) (fun i => (m.Prime,(D:Int),wM m.Prime D m.zI (ws.take i) (idM D),(i:Int))) ws.length (fun i hi => by
  have hwi:=hw ws[i] (List.getElem_mem hi)
  unfold zRw
  simp only
  rw [hel,yQ hi,zJ,vA,List.getElem?_map,List.getElem?_eq_getElem hi]
  simp only [Option.map_some]
  rw [bs,zD (by omega) (by omega),bs,show ((ws[i]:Nat):Int) + 1 - 1 = ((ws[i]:Nat):Int) from by omega,zCB hm hn hwi,bs,zGP hm.p (by omega) (hI i) (hm.mat _ hwi),bs,zD (by omega) (by omega),bs,cs,List.take_succ_eq_append_getElem hi,zEu]
  rfl) (by
  unfold zRw
  simp only
  rw [hel,xD,zF,List.take_of_length_le (by omega)])
 rw [show ((0:Nat):Int) = 0 from rfl,List.take_zero] at this
 simp only [wM,List.foldl_nil] at this
 simp only
 rw [this,bs];rfl
end
theorem zBq {v:List Int} (hl:v.length ≤ 9) (hv:∀ i,i < v.length → 0 ≤ at0 v i ∧ at0 v i ≤ 6):f_J v = some (enW (nw 0 v)):=by
 unfold f_J
 have hlen:∀ i,(nw 0 (v.take i)).length ≤ 54:=fun i => by
  have:=zGs 0 (v.take i) fun j hj => by
   rw [List.length_take] at hj
   have e:at0 (v.take i) j = at0 v j:=by simp only [at0,List.getD_eq_getElem?_getD,List.getElem?_take];rw [if_pos (by omega)]
   rw [e];exact (hv j (by omega)).2
  rw [List.length_take] at this
  omega
 have:=zO (body:=zRq v) (r:=enW (nw 0 v)) (fun i => (enW (nw 0 (v.take i)),(i:Int))) v.length (fun i hi => by
  have hvi:=hv i hi
  have hli:=hlen i
  unfold zRq
  simp only
  rw [yQ hi,zJ,yF hi,bs]
  have inner:=zO (body:=zRp (enW (nw 0 (v.take i)),(i:Int)) (at0 v i)) (r:=enW (nw 0 (v.take (i + 1)))) (fun k => (enW (nw 0 (v.take i) ++ List.replicate k i),(k:Int))) (at0 v i).toNat (fun k hk => by
   unfold zRp
   simp only
   rw [decide_eq_true (by omega),zJ,zD (by omega) (by omega),bs,yM (by simp only [List.length_map,List.length_append,List.length_replicate,List.length_cons,List.length_nil];omega),bs,zD (by omega) (by omega),bs,cs]
   congr 3
   rw [List.replicate_succ',← List.append_assoc]
   simp only [enW,List.map_append,List.map_cons,List.map_nil]
   rfl) (by
   unfold zRp
   simp only
   rw [decide_eq_false (by omega),zF,zI0 hi])
  rw [show ((0:Nat):Int) = 0 from rfl,List.replicate_zero,List.append_nil] at inner
  rw [inner,bs,zD (by omega) (by omega),bs,cs]) (by
  unfold zRq
  simp only
  rw [xD,zF,List.take_length])
 rw [show ((0:Nat):Int) = 0 from rfl,List.take_zero] at this
 simp only [nw,enW,List.map_nil] at this
 rw [this,bs]
theorem zPY {v o:Int} (h:zTa 1 (IntKind.wrap .u64 o) = some (0,o)):zTa (IntKind.wrap .u64 (([v]:List Int).length:Int)) (IntKind.wrap .u64 o) = some (0,o):=by
 rw [show IntKind.wrap .u64 (([v]:List Int).length:Int) = 1 from by simp;decide]
 exact h
theorem zBQ {v o:Int} (ho:Prime o):f_i [v] o = some (List.replicate o.toNat v):=by
 unfold f_i
 rcases ho with rfl | rfl | rfl | rfl
 ·have h:=zO (body:=jI) (r:=[v,v]) (fun i => match i with | 0 => ([v,0],1) | _ => ([v,v],2)) 1 (fun i hi => by
   match i,hi with
   | 0,_ => simp [jI,zX,xW,rng,inR]) (by simp [jI])
  rw [zPY (by decide +kernel),bs]
  have hl:yZ (IntKind.wrap .i64 2) = some 2:=by decide +kernel
  simp only [hl,bs]
  rw [show decide ((2:Int) < 0) = false from rfl,zF,show decide ((0:Int) > 0) = false from rfl,zF,show decide ((2:Int) > 9223372036854775807) = false from by decide,zF]
  have e2:xW (List.replicate 2 (0:Int)) 0 (([v]:List Int).take ((List.replicate 2 (0:Int)).length - 0)) = [v,0]:=by simp [xW,List.replicate]
  have e3:((min ([v]:List Int).length ((List.replicate 2 (0:Int)).length - 0):Nat):Int) = 1:=by simp
  rw [e2,e3]
  have h':zH jI ([v,0],1) = _:=h
  rw [h',bs]
  rfl
 ·have h:=zO (body:=jI) (r:=[v,v,v]) (fun i => match i with | 0 => ([v,0,0],1) | 1 => ([v,v,0],2) | _ => ([v,v,v],3)) 2 (fun i hi => by
   match i,hi with
   | 0,_ => simp [jI,zX,xW,rng,inR]
   | 1,_ => simp [jI,zX,xW,rng,inR]) (by simp [jI])
  rw [zPY (by decide +kernel),bs]
  have hl:yZ (IntKind.wrap .i64 3) = some 3:=by decide +kernel
  simp only [hl,bs]
  rw [show decide ((3:Int) < 0) = false from rfl,zF,show decide ((0:Int) > 0) = false from rfl,zF,show decide ((3:Int) > 9223372036854775807) = false from by decide,zF]
  have e2:xW (List.replicate 3 (0:Int)) 0 (([v]:List Int).take ((List.replicate 3 (0:Int)).length - 0)) = [v,0,0]:=by simp [xW,List.replicate]
  have e3:((min ([v]:List Int).length ((List.replicate 3 (0:Int)).length - 0):Nat):Int) = 1:=by simp
  rw [e2,e3]
  have h':zH jI ([v,0,0],1) = _:=h
  rw [h',bs]
  rfl
 ·have h:=zO (body:=jI) (r:=[v,v,v,v,v]) (fun i => match i with | 0 => ([v,0,0,0,0],1) | 1 => ([v,v,0,0,0],2) | 2 => ([v,v,v,v,0],4) | _ => ([v,v,v,v,v],5)) 3 (fun i hi => by
   match i,hi with
   | 0,_ => simp [jI,zX,xW,rng,inR]
   | 1,_ => simp [jI,zX,xW,rng,inR]
   | 2,_ => simp [jI,zX,xW,rng,inR]) (by simp [jI])
  rw [zPY (by decide +kernel),bs]
  have hl:yZ (IntKind.wrap .i64 5) = some 5:=by decide +kernel
  simp only [hl,bs]
  rw [show decide ((5:Int) < 0) = false from rfl,zF,show decide ((0:Int) > 0) = false from rfl,zF,show decide ((5:Int) > 9223372036854775807) = false from by decide,zF]
  have e2:xW (List.replicate 5 (0:Int)) 0 (([v]:List Int).take ((List.replicate 5 (0:Int)).length - 0)) = [v,0,0,0,0]:=by simp [xW,List.replicate]
  have e3:((min ([v]:List Int).length ((List.replicate 5 (0:Int)).length - 0):Nat):Int) = 1:=by simp
  rw [e2,e3]
  have h':zH jI ([v,0,0,0,0],1) = _:=h
  rw [h',bs]
  rfl
 ·have h:=zO (body:=jI) (r:=[v,v,v,v,v,v,v]) (fun i => match i with | 0 => ([v,0,0,0,0,0,0],1) | 1 => ([v,v,0,0,0,0,0],2) | 2 => ([v,v,v,v,0,0,0],4) | _ => ([v,v,v,v,v,v,v],7)) 3 (fun i hi => by
   match i,hi with
   | 0,_ => simp [jI,zX,xW,rng,inR]
   | 1,_ => simp [jI,zX,xW,rng,inR]
   | 2,_ => simp [jI,zX,xW,rng,inR]) (by simp [jI])
  rw [zPY (by decide +kernel),bs]
  have hl:yZ (IntKind.wrap .i64 7) = some 7:=by decide +kernel
  simp only [hl,bs]
  rw [show decide ((7:Int) < 0) = false from rfl,zF,show decide ((0:Int) > 0) = false from rfl,zF,show decide ((7:Int) > 9223372036854775807) = false from by decide,zF]
  have e2:xW (List.replicate 7 (0:Int)) 0 (([v]:List Int).take ((List.replicate 7 (0:Int)).length - 0)) = [v,0,0,0,0,0,0]:=by simp [xW,List.replicate]
  have e3:((min ([v]:List Int).length ((List.replicate 7 (0:Int)).length - 0):Nat):Int) = 1:=by simp
  rw [e2,e3]
  have h':zH jI ([v,0,0,0,0,0,0],1) = _:=h
  rw [h',bs]
  rfl
end Go.Pl

namespace Go.Pl
open Go Go.Ab Go.Wk Go.Pc
theorem IsB.b {o:Option Bool} {P:Prop} (h:IsB o P):IsB (o.bind fun r => some r) P:=by
 rcases h with ⟨h1,h2⟩ | ⟨h1,h2⟩
 ·exact .inl ⟨by rw [h1,bs],h2⟩
 ·exact .inr ⟨by rw [h1,bs],h2⟩
theorem zEH {p:Int} {D:Nat} {r:List Int} (hp:Prime p) (hD:D ≤ 8):IsB (zRo r p (D:Int)) (Row p D r):=by
 have h7:=hp.pos
 unfold zRo
 by_cases h:r.length = D
 ·rw [jP (by omega),zF]
  refine (tU r.length (fun i => 0 ≤ at0 r i ∧ at0 r i ≤ p - 1) rfl (fun i hi _ => ?_) ?_).iff ⟨fun g => ⟨h,by rw [← h];exact g⟩,fun g => by rw [h];exact g.2⟩
  ·refine vS (jB _ _ _) (by omega) ?_
   unfold zNw
   rw [yQ hi,zJ,yF hi,bs,zD (by omega) (by omega),bs]
  ·unfold zNw
   rw [xD,zF]
 ·rw [qA (by omega),zJ]
  exact .inr ⟨rfl,fun g => h g.1⟩
theorem zEI {p:Int} {D:Nat} {r:List Int} (hp:Prime p) (hD:D ≤ 8):IsB (zQN p (D:Int) r) (Row p D r):=by
 have h7:=hp.pos
 unfold zQN
 by_cases h:r.length = D
 ·rw [jP (by omega),zF]
  refine (tU r.length (fun i => 0 ≤ at0 r i ∧ at0 r i ≤ p - 1) rfl (fun i hi _ => ?_) ?_).iff ⟨fun g => ⟨h,by rw [← h];exact g⟩,fun g => by rw [h];exact g.2⟩
  ·refine vS (zBH _ _ _) (by omega) ?_
   unfold zNt
   rw [yQ hi,zJ,yF hi,bs,zD (by omega) (by omega),bs]
  ·unfold zNt
   rw [xD,zF]
 ·rw [qA (by omega),zJ]
  exact .inr ⟨rfl,fun g => h g.1⟩
theorem zNM {p:Int} {D:Nat} {B:Mx} (hp:Prime p) (hD:D ≤ 8):IsB (zST p (D:Int) B) (Mat p D B):=by
 unfold zST
 by_cases h:B.length = D
 ·rw [jP (by omega),zF]
  refine (tU B.length (fun i => Row p D (B.getD i [])) rfl (fun i hi _ => ?_) ?_).iff ⟨fun g => ⟨h,by rw [← h];exact fun i hi => by rw [h];exact g i hi⟩,fun g => by rw [h];exact g.2⟩
  ·refine vS (zEI hp hD) (by omega) ?_
   unfold zNu
   rw [yQ hi,zJ,yD [] hi,bs]
  ·unfold zNu
   rw [xD,zF]
 ·rw [qA (by omega),zJ]
  exact .inr ⟨rfl,fun g => h g.1⟩
theorem zGR {p:Int} {D:Nat} {B:Mx} (hp:Prime p) (hD:D ≤ 8) (hB:B.length = D):IsB (zSZ (zV.mk p (D:Int) B)) (Mat p D B):=by
 unfold zSZ
 simp only
 rcases zAX p with ⟨h1,_⟩ | ⟨_,h2⟩
 ·rw [h1,bs,Bool.not_true,zF]
  rcases jB (D:Int) 0 8 with ⟨h3,_⟩ | ⟨_,h4⟩
  ·rw [h3,bs,Bool.not_true,zF,decide_eq_false (by omega),zF]
   refine (tU (body:=zKv (zV.mk p (D:Int) B)) D (fun i => Row p D (B.getD i [])) rfl (fun i hi _ => ?_) ?_).iff ⟨fun g => ⟨hB,g⟩,fun g => g.2⟩
   ·refine vS (zEH hp hD) (by omega) ?_
    unfold zKv
    simp only
    rw [hB,yQ hi,zJ,yD [] (by omega),bs]
   ·unfold zKv
    simp only
    rw [hB,xD,zF]
  ·exact absurd (by omega) h4
 ·exact absurd hp h2
theorem zGu {A B:Mx} (hA:A.length ≤ 1000) (h:∀ r ∈ A,r.length ≤ 1000):zSU A B = some (A == B) :=
 zH2 (t:=f_Y) (body:=zQT A B) rfl (fun _ => rfl) (by omega) fun u hu v _ => zNK (by have:=h u hu;omega)
theorem zGS {A B:Mx} (hA:A.length ≤ 1000) (h:∀ r ∈ A,r.length ≤ 1000):zTc A B = some (A == B):=by
 unfold zTc
 rw [zH2 (f:=zVz A B) (t:=f_R) (body:=zRx A B) rfl (fun _ => rfl) (by omega) fun u hu v _ => zCY (by have:=h u hu;omega),bs]
theorem Mat.small {p:Int} {D:Nat} {A:Mx} (h:Mat p D A) (hD:D ≤ 8):A.length ≤ 1000 ∧ ∀ r ∈ A,r.length ≤ 1000:=by
 refine ⟨by have:=h.1;omega,fun r hr => ?_⟩
 obtain ⟨i,hi,rfl⟩:=List.mem_iff_getElem.1 hr
 have:=h.2 i (by rw [← h.1];exact hi)
 rw [List.getD_eq_getElem?_getD,List.getElem?_eq_getElem hi] at this
 have:=this.1
 simp only [Option.getD_some] at this
 omega
def zGT (x:SPr) (m:zC) (D:Nat):Prop :=
 ∀ i,i < x.zA.length → wM m.Prime D m.zI (List.replicate (at0 x.zA i).toNat i) (idM D) = wM m.Prime D m.zI (nw 0 (x.zU.getD i [])) (idM D) ∧
  ∀ j,i + 1 ≤ j → j < x.zA.length → PM m.Prime D (m.zI.getD j []) (m.zI.getD i []) = PM m.Prime D (m.zI.getD i []) (wM m.Prime D m.zI (nw 0 ((x.zB.getD i []).getD (j - (i + 1)) [])) (idM D))
theorem sH {x:SPr} {v:List Int} {i:Nat} (ho:Os x.zA) (h:Exp x.zA v i):v.length = x.zA.length ∧ ∀ j,j < x.zA.length → 0 ≤ at0 v j ∧ at0 v j ≤ 6:=by
 have h1:=h.1.1
 refine ⟨h1,fun j hj => ?_⟩
 have:=h.1.2 j (by omega)
 have:=(ho.2 j hj).pos
 omega
section
variable {x:SPr} {m:zC} {D:Nat} (h:Pres x) (hm:MOk x.zA.length m D)
 include h hm
theorem zNN {i:Nat} (hi:i < x.zA.length):(x.zU.getD i []).length = x.zA.length ∧ ∀ j,j < x.zA.length → 0 ≤ at0 (x.zU.getD i []) j ∧ at0 (x.zU.getD i []) j ≤ 6:=have _:=hm;sH h.os (h.tl i hi).1
theorem zLt {i j:Nat} (hi:i < x.zA.length) (hj:j < (x.zB.getD i []).length):((x.zB.getD i []).getD j []).length = x.zA.length ∧ ∀ q,q < x.zA.length → 0 ≤ at0 ((x.zB.getD i []).getD j []) q ∧ at0 ((x.zB.getD i []).getD j []) q ≤ 6:=have _:=hm;sH h.os ((h.tl i hi).2.2 j hj)
theorem zNO:IsB ((zH (zQX x m) 0).bind fun r => match r with | .inl _ => some true | .inr r => some r) (zGT x m D):=by
 have h6:=h.os.1
 have h7:=hm.p.pos
 have h3:=hm.d3
 have hlen:=hm.len
 refine tU x.zA.length (fun i => wM m.Prime D m.zI (List.replicate (at0 x.zA i).toNat i) (idM D) = wM m.Prime D m.zI (nw 0 (x.zU.getD i [])) (idM D) ∧
  ∀ j,i + 1 ≤ j → j < x.zA.length → PM m.Prime D (m.zI.getD j []) (m.zI.getD i []) = PM m.Prime D (m.zI.getD i []) (wM m.Prime D m.zI (nw 0 ((x.zB.getD i []).getD (j - (i + 1)) [])) (idM D))) rfl (fun i hi _ => ?_) ?_
 ·have hpr:=(h.os.2 i hi).pos
  have hpl:=h.pl
  have hcl:=h.cl
  obtain ⟨p1,p2⟩:=zNN h hm hi
  have t2:=(h.tl i hi).2.1
  have hI:=zAe (p:=m.Prime) (D:=D) h7.1
  unfold zQX
  rw [yQ hi,zJ,hm.d,zGr hm.p (by omega),bs]
  rw [vD (S:=Mat m.Prime D) (body:=zQV x m (i:Int)) (fun B => B) (fun B => PM m.Prime D B (m.zI.getD i [])) (at0 x.zA i) (by omega) (fun B hB => zBP (by omega) hB.1) (fun B q hB hq => by
   unfold zQV
   simp only
   rw [yF hi,bs,decide_eq_true hq,zJ,yD [] (by omega),bs,hm.d,qP hm.p (by omega) hB (hm.mat i hi),bs,zD (by omega) (by omega),bs,cs]) (fun B hB => by
   unfold zQV
   simp only
   rw [yF hi,bs,decide_eq_false (by omega),zF]) hI,bs,yD [] (by omega),bs,zJP hm (by omega) p1 p2,bs,← zGt]
  have hs:=(zEv (p:=m.Prime) (D:=D) (A:=m.zI) (by omega) (List.replicate (at0 x.zA i).toNat i) hI).small (by omega)
  rw [zGu hs.1 hs.2,bs]
  by_cases hq:wM m.Prime D m.zI (List.replicate (at0 x.zA i).toNat i) (idM D) = wM m.Prime D m.zI (nw 0 (x.zU.getD i [])) (idM D)
  ·rw [show (wM m.Prime D m.zI (List.replicate (at0 x.zA i).toNat i) (idM D) == wM m.Prime D m.zI (nw 0 (x.zU.getD i [])) (idM D)) = true from by rw [beq_iff_eq];exact hq,Bool.not_true,zF,zD (by omega) (by omega),bs,cs]
   rcases chk (body:=zQW x m (i:Int)) x.zA.length (i + 1) (by omega) (fun j => PM m.Prime D (m.zI.getD j []) (m.zI.getD i []) = PM m.Prime D (m.zI.getD i []) (wM m.Prime D m.zI (nw 0 ((x.zB.getD i []).getD (j - (i + 1)) [])) (idM D))) (fun _ => false) (fun j h1 h2 _ => by
     obtain ⟨c1,c2⟩:=zLt h hm (j:=j - (i + 1)) hi (by omega)
     have hjm:=hm.mat j h2
     have him:=hm.mat i hi
     have hw:=zEv (p:=m.Prime) (D:=D) (A:=m.zI) (by omega) (nw 0 ((x.zB.getD i []).getD (j - (i + 1)) [])) hI
     have hs:=(zBP (p:=m.Prime) (B:=m.zI.getD i []) (by omega) hjm.1).small (by omega)
     refine vS (o:=some (PM m.Prime D (m.zI.getD j []) (m.zI.getD i []) == PM m.Prime D (m.zI.getD i []) (wM m.Prime D m.zI (nw 0 ((x.zB.getD i []).getD (j - (i + 1)) [])) (idM D)))) (IsB.of_bool (by rw [beq_iff_eq])) (by omega) ?_
     unfold zQW
     rw [yQ h2,zJ,yD (i:=j) [] (by omega),bs,yD (i:=i) [] (by omega),bs,hm.d,qP hm.p (by omega) hjm him,bs,bs,yD (i:=i) [] (by omega),bs,zD (by omega) (by omega),bs,zD (by omega) (by omega),bs,show (j:Int) - (i:Int) - 1 = ((j - (i + 1):Nat):Int) from by omega,yD [] (by omega),bs,zJP hm (by omega) c1 c2,bs,qP hm.p (by omega) him hw,bs,zGu hs.1 hs.2]) (by
     unfold zQW
     rw [xD,zF]) with ⟨g1,g2⟩ | ⟨j,j1,j2,g1,g2⟩
   ·left
    rw [g1,bs,bs]
    exact ⟨rfl,hq,g2⟩
   ·right
    rw [g1,bs]
    exact ⟨rfl,fun g => g2 (g.2 j j1 j2)⟩
  ·rw [show (wM m.Prime D m.zI (List.replicate (at0 x.zA i).toNat i) (idM D) == wM m.Prime D m.zI (nw 0 (x.zU.getD i [])) (idM D)) = false from by rw [beq_eq_false_iff_ne];exact hq,Bool.not_false,zJ]
   exact .inr ⟨rfl,fun g => hq g.1⟩
 ·unfold zQX
  rw [xD,zF]
end
def zTZ (x:SPr) (m:zC):Prop:=zAZ x ∧ ∃ D,MOk x.zA.length m D ∧ zGT x m D
theorem zGU {x:SPr} {m:zC} (hl:x.zA.length ≤ 1048576):IsB (zSV x m) (zTZ x m):=by
 unfold zSV
 rcases zLq hl with ⟨h1,h2⟩ | ⟨h1,h2⟩
 ·have h6:=h2.1.os.1
  rw [h1,bs,zJ]
  unfold f_o
  rcases zGf m.Prime with ⟨p1,p2⟩ | ⟨p1,p2⟩
  ·rw [p1,bs,Bool.not_true,zF]
   rcases zBH m.Dim 1 3 with ⟨d1,d2⟩ | ⟨d1,d2⟩
   ·rw [d1,bs,Bool.not_true,zF]
    obtain ⟨D,hD⟩:∃ D:Nat,m.Dim = (D:Int):=⟨m.Dim.toNat,by omega⟩
    by_cases hlen:m.zI.length = x.zA.length
    ·rw [jP (by omega),zF]
     rcases chk (body:=zQU x m) x.zA.length 0 (Nat.zero_le _) (fun i => Mat m.Prime D (m.zI.getD i [])) (fun _ => false) (fun i _ hi _ => by
       refine vS (zNM p2 (D:=D) (by omega)) (by omega) ?_
       unfold zQU
       rw [yQ hi,zJ,yD [] (by omega),bs,hD]) (by
       unfold zQU
       rw [xD,zF]) with ⟨g1,g2⟩ | ⟨i,_,hi,g1,g2⟩
     ·rw [show ((0:Nat):Int) = 0 from rfl] at g1
      have hm:MOk x.zA.length m D:=⟨p2,hD,by omega,by omega,hlen,fun i hi => g2 i (Nat.zero_le _) hi⟩
      rw [g1,bs]
      refine (zNO h2.1 hm).b.iff ⟨fun k2 => ⟨h2,D,hm,k2⟩,fun ⟨_,D',hm',hr⟩ => ?_⟩
      have:D' = D:=by have:=hm'.d;omega
      rw [← this];exact hr
     ·rw [show ((0:Nat):Int) = 0 from rfl] at g1
      rw [g1,bs]
      refine .inr ⟨rfl,fun ⟨_,D',hm',_⟩ => g2 ?_⟩
      have:D' = D:=by have:=hm'.d;omega
      rw [← this];exact hm'.mat i hi
    ·rw [qA (by omega),zJ]
     exact .inr ⟨rfl,fun ⟨_,D',hm',_⟩ => hlen hm'.len⟩
   ·rw [d1,bs,Bool.not_false,zJ]
    exact .inr ⟨rfl,fun ⟨_,D',hm',_⟩ => d2 (by have:=hm'.d;have:=hm'.d1;have:=hm'.d3;omega)⟩
  ·rw [p1,bs,Bool.not_false,zJ]
   exact .inr ⟨rfl,fun ⟨_,D',hm',_⟩ => p2 hm'.p⟩
 ·rw [h1,bs,zF]
  exact .inr ⟨rfl,fun g => h2 g.1⟩
end Go.Pl

namespace Go.Pl
open Go Go.Ab Go.Wk Go.Pc
abbrev Rl:=List Nat × List Nat
def r1 (x:SPr) (i:Nat):Rl:=(List.replicate (at0 x.zA i).toNat i,nw 0 (x.zU.getD i []))
def r2 (x:SPr) (i j:Nat):Rl:=([i + j + 1,i],i :: nw 0 ((x.zB.getD i []).getD j []))
def R2 (x:SPr) (i:Nat):List Rl:=(List.range (x.zB.getD i []).length).map (r2 x i)
def wE (x:SPr):List Rl:=(List.range x.zA.length).map (r1 x) ++ (List.range x.zA.length).flatMap (R2 x)
abbrev enR (q:Rl):List Int × List Int:=(enW q.1,enW q.2)
section
variable {x:SPr} (h:Pres x)
 include h
theorem zUV {i:Nat} (hi:i < x.zA.length):(R2 x i).length ≤ 9:=by
 have:=(h.tl i hi).2.1
 have:=h.os.1
 simp only [R2,List.length_map,List.length_range];omega
theorem zGv:∀ i,i ≤ x.zA.length → ((List.range i).flatMap (R2 x)).length ≤ 9 * i
 | 0,_ => by simp
 | i + 1,hi => by
  have:=zGv i (by omega)
  have:=zUV h (i:=i) (by omega)
  rw [List.range_succ,List.flatMap_append,List.length_append]
  simp only [List.flatMap_cons,List.flatMap_nil,List.append_nil]
  omega
theorem zS4 {k i:Nat}:enW (List.replicate k i) = List.replicate k ((i:Int) + 1):=by have _:=h;simp [enW]
theorem kO:f_w x = some ((wE x).map enR):=by
 have h6:=h.os.1
 have hpl:=h.pl
 have hcl:=h.cl
 unfold f_w
 have l1:=zO (body:=zRr x) (r:=((List.range x.zA.length).map (r1 x)).map enR) (fun i => (((List.range i).map (r1 x)).map enR,(i:Int))) x.zA.length (fun i hi => by
  obtain ⟨p1,p2⟩:=sH h.os (h.tl i hi).1
  unfold zRr
  simp only
  rw [yQ hi,zJ,yF hi,bs,zD (by omega) (by omega),bs,zBQ (h.os.2 i hi),bs,yD [] (by omega),bs,zBq (by omega) (by rw [p1];exact p2),bs,yM (by simp only [List.length_map,List.length_range,List.length_cons,List.length_nil];omega),bs,bs,cs,List.range_succ]
  simp only [List.map_append,List.map_cons,List.map_nil,r1,enR,zS4 h,cs]) (by
  unfold zRr
  simp only
  rw [xD,zF])
 rw [show ((0:Nat):Int) = 0 from rfl] at l1
 simp only [List.range_zero,List.map_nil] at l1
 rw [l1,bs]
 have l3:=zO (body:=zRt x) (r:=(wE x).map enR) (fun i => (((List.range x.zA.length).map (r1 x) ++ (List.range i).flatMap (R2 x)).map enR,(i:Int))) x.zA.length (fun i hi => by
  have t2:=(h.tl i hi).2.1
  have hfm:=zGv h i (by omega)
  unfold zRt
  simp only
  rw [yQ hi,zJ,yD [] (by omega),bs]
  have l2:=zO (body:=zRs (((List.range x.zA.length).map (r1 x) ++ (List.range i).flatMap (R2 x)).map enR,(i:Int)) (x.zB.getD i [])) (r:=((List.range x.zA.length).map (r1 x) ++ (List.range (i + 1)).flatMap (R2 x)).map enR)
   (fun j => (((List.range x.zA.length).map (r1 x) ++ (List.range i).flatMap (R2 x) ++ (List.range j).map (r2 x i)).map enR,(j:Int))) (x.zB.getD i []).length (fun j hj => by
    obtain ⟨p1,p2⟩:=sH h.os ((h.tl i hi).2.2 j hj)
    have hnl:=zGs 0 ((x.zB.getD i []).getD j []) (by rw [p1];exact fun i hi => (p2 i hi).2)
    unfold zRs
    simp only
    rw [yQ hj,zJ,yD [] hj,bs,zD (by omega) (by omega),bs,zD (by omega) (by omega),bs,zD (by omega) (by omega),bs,zBq (by omega) (by rw [p1];exact p2),bs,yM (by simp only [List.length_map,List.length_cons,List.length_nil];omega),bs,yM (by simp only [List.length_map,List.length_append,List.length_range,List.length_cons,List.length_nil];omega),bs,zD (by omega) (by omega),bs,cs,List.range_succ]
    have e1:(i:Int) + (j:Int) + 2 = ((i + j + 1:Nat):Int) + 1:=by omega
    simp only [List.map_append,List.map_cons,List.map_nil,r2,enR,enW,List.append_assoc,List.singleton_append,e1]
    rfl) (by
    unfold zRs
    simp only
    rw [xD,zF,List.range_succ,List.flatMap_append]
    simp only [List.flatMap_cons,List.flatMap_nil,List.append_nil,List.append_assoc,R2])
  rw [show ((0:Nat):Int) = 0 from rfl] at l2
  simp only [List.range_zero,List.map_nil,List.append_nil] at l2
  rw [l2,bs,zD (by omega) (by omega),bs,cs]) (by
  unfold zRt
  simp only
  rw [xD,zF]
  rfl)
 rw [show ((0:Nat):Int) = 0 from rfl] at l3
 simp only [List.range_zero,List.flatMap_nil,List.append_nil] at l3
 rw [l3,bs]
theorem zHB {q:Rl} (hq:q ∈ wE x):((∀ w ∈ q.1,w < x.zA.length) ∧ q.1.length ≤ 1000) ∧ (∀ w ∈ q.2,w < x.zA.length) ∧ q.2.length ≤ 1000:=by
 have h6:=h.os.1
 simp only [wE,List.mem_append,List.mem_map,List.mem_range,List.mem_flatMap,R2] at hq
 rcases hq with ⟨i,hi,rfl⟩ | ⟨i,hi,j,hj,rfl⟩
 ·obtain ⟨p1,p2⟩:=sH h.os (h.tl i hi).1
  have hnl:=zGs 0 (x.zU.getD i []) (by rw [p1];exact fun i hi => (p2 i hi).2)
  have hpr:=(h.os.2 i hi).pos
  refine ⟨⟨fun w hw => ?_,?_⟩,fun w hw => zPW 0 _ (by omega) w hw,by simp only [r1];omega⟩
  ·have:=List.eq_of_mem_replicate hw;omega
  ·simp only [r1,List.length_replicate];omega
 ·obtain ⟨p1,p2⟩:=sH h.os ((h.tl i hi).2.2 j hj)
  have t2:=(h.tl i hi).2.1
  have hnl:=zGs 0 ((x.zB.getD i []).getD j []) (by rw [p1];exact fun i hi => (p2 i hi).2)
  refine ⟨⟨fun w hw => ?_,by simp [r2]⟩,fun w hw => ?_,by simp only [r2,List.length_cons];omega⟩
  ·simp only [r2,List.mem_cons,List.not_mem_nil,or_false] at hw;omega
  ·simp only [r2,List.mem_cons] at hw
   rcases hw with rfl | hw
   ·exact hi
   ·exact zPW 0 _ (by omega) w hw
variable {m:zC} {D:Nat} (hm:MOk x.zA.length m D)
 include hm
theorem zJQ:(∀ q ∈ wE x,wM m.Prime D m.zI q.1 (idM D) = wM m.Prime D m.zI q.2 (idM D)) ↔ zGT x m D:=by
 have h7:=hm.p.pos
 have hI:=zAe (p:=m.Prime) (D:=D) h7.1
 have key:∀ i j,i < x.zA.length → j < x.zA.length → ∀ ws,(wM m.Prime D m.zI [j,i] (idM D) = wM m.Prime D m.zI (i :: ws) (idM D) ↔ PM m.Prime D (m.zI.getD j []) (m.zI.getD i []) = PM m.Prime D (m.zI.getD i []) (wM m.Prime D m.zI ws (idM D))):=fun i j hi hj ws => by
  have hi':=hm.mat i hi
  have hj':=hm.mat j hj
  have e1:wM m.Prime D m.zI [j,i] (idM D) = PM m.Prime D (m.zI.getD j []) (m.zI.getD i []):=by
   show PM _ _ (PM _ _ (idM D) _) _ = _
   rw [zIy hj']
  have e2:wM m.Prime D m.zI (i :: ws) (idM D) = PM m.Prime D (m.zI.getD i []) (wM m.Prime D m.zI ws (idM D)):=by
   show wM _ _ _ ws (PM _ _ (idM D) _) = _
   rw [zIy hi',← zPX (by omega) hi'.1 ws hI,zJK hi']
  rw [e1,e2]
 constructor
 ·intro g i hi
  have t2:=(h.tl i hi).2.1
  refine ⟨g (r1 x i) (by simp only [wE,List.mem_append,List.mem_map,List.mem_range];exact .inl ⟨i,hi,rfl⟩),fun j h1 h2 => ?_⟩
  have:=g (r2 x i (j - (i + 1))) (by
   simp only [wE,List.mem_append,List.mem_flatMap,List.mem_range,R2,List.mem_map]
   exact .inr ⟨i,hi,j - (i + 1),by omega,rfl⟩)
  simp only [r2] at this
  rw [show i + (j - (i + 1)) + 1 = j from by omega] at this
  exact (key i j hi h2 _).1 this
 ·intro g q hq
  simp only [wE,List.mem_append,List.mem_map,List.mem_range,List.mem_flatMap,R2] at hq
  rcases hq with ⟨i,hi,rfl⟩ | ⟨i,hi,j,hj,rfl⟩
  ·exact (g i hi).1
  ·have t2:=(h.tl i hi).2.1
   have:=(g i hi).2 (i + j + 1) (by omega) (by omega)
   rw [show i + j + 1 - (i + 1) = j from by omega] at this
   exact (key i (i + j + 1) hi (by omega) _).2 this
theorem zNP:IsB ((zH (zRz m ((wE x).map enR)) 0).bind fun r => match r with | .inl _ => some true | .inr r => some r) (zGT x m D):=by
 have h6:=h.os.1
 have h7:=hm.p.pos
 have h3:=hm.d3
 have hI:=zAe (p:=m.Prime) (D:=D) h7.1
 have hfm:=zGv h x.zA.length (Nat.le_refl _)
 have hrl:(wE x).length ≤ 1000:=by simp only [wE,List.length_append,List.length_map,List.length_range];omega
 refine (tU (wE x).length (fun k => wM m.Prime D m.zI ((wE x).getD k ([],[])).1 (idM D) = wM m.Prime D m.zI ((wE x).getD k ([],[])).2 (idM D)) rfl (fun k hk _ => ?_) ?_).iff ⟨fun g => (zJQ h hm).1 fun q hq => ?_,fun g k hk => (zJQ h hm).2 g _ ?_⟩
 ·have hmem:(wE x).getD k ([],[]) ∈ wE x:=by
   rw [List.getD_eq_getElem?_getD,List.getElem?_eq_getElem hk];exact List.getElem_mem hk
  obtain ⟨⟨g1,g2⟩,g3,g4⟩:=zHB h hmem
  have hs:=(zEv (p:=m.Prime) (D:=D) (A:=m.zI) (by omega) ((wE x).getD k ([],[])).1 hI).small (by omega)
  refine vS (o:=some (wM m.Prime D m.zI ((wE x).getD k ([],[])).1 (idM D) == wM m.Prime D m.zI ((wE x).getD k ([],[])).2 (idM D))) (IsB.of_bool (by rw [beq_iff_eq])) (by omega) ?_
  unfold zRz
  rw [List.length_map,yQ hk,zJ,vA,List.getElem?_map,List.getElem?_eq_getElem hk]
  rw [List.getD_eq_getElem?_getD,List.getElem?_eq_getElem hk] at g1 g2 g3 g4 hs ⊢
  simp only [Option.map_some,Option.getD_some] at g1 g2 g3 g4 hs ⊢
  rw [bs,zCC hm h6 g1 g2,bs,zCC hm h6 g3 g4,bs]
  simp only
  rw [zGS hs.1 hs.2]
 ·unfold zRz
  rw [List.length_map,xD,zF]
 ·obtain ⟨k,hk,rfl⟩:=List.mem_iff_getElem.1 hq
  have:=g k hk
  rw [List.getD_eq_getElem?_getD,List.getElem?_eq_getElem hk] at this
  exact this
 ·rw [List.getD_eq_getElem?_getD,List.getElem?_eq_getElem hk];exact List.getElem_mem hk
end
theorem zGV {x:SPr} {m:zC} (hl:x.zA.length ≤ 1048576) (_hal:m.zI.length ≤ 1048576):IsB (f_D x m) (zTZ x m):=by
 unfold f_D
 rcases zD5 hl with ⟨h1,h2⟩ | ⟨h1,h2⟩
 ·have h6:=h2.1.os.1
  rw [h1,bs,Bool.not_true,zF]
  rcases zAX m.Prime with ⟨p1,p2⟩ | ⟨p1,p2⟩
  ·rw [p1,bs,Bool.not_true,zF]
   rcases jB m.Dim 1 3 with ⟨d1,d2⟩ | ⟨d1,d2⟩
   ·rw [d1,bs,Bool.not_true,zF]
    obtain ⟨D,hD⟩:∃ D:Nat,m.Dim = (D:Int):=⟨m.Dim.toNat,by omega⟩
    by_cases hlen:m.zI.length = x.zA.length
    ·rw [jP (by omega),zF]
     rcases chk (body:=zRy m) m.zI.length 0 (Nat.zero_le _) (fun i => Mat m.Prime D (m.zI.getD i [])) (fun _ => false) (fun i _ hi _ => by
       unfold zRy
       rw [yQ hi,zJ,yD [] hi,bs,hD]
       by_cases hr:(m.zI.getD i []).length = D
       ·rw [jP (by omega),zF]
        refine vS (zGR p2 (D:=D) (by omega) hr) (by omega) ?_
        unfold zLU
        rw [yD [] hi,bs,bs,hD]
       ·rw [qA (by omega),zJ]
        exact .inr ⟨rfl,fun g => hr g.1⟩) (by
       unfold zRy
       rw [xD,zF]) with ⟨g1,g2⟩ | ⟨i,_,hi,g1,g2⟩
     ·rw [show ((0:Nat):Int) = 0 from rfl] at g1
      have hm:MOk x.zA.length m D:=⟨p2,hD,by omega,by omega,hlen,fun i hi => g2 i (Nat.zero_le _) (by omega)⟩
      rw [g1,bs,kO h2.1]
      simp only
      rw [bs]
      refine (zNP h2.1 hm).iff ⟨fun k2 => ⟨h2,D,hm,k2⟩,fun ⟨_,D',hm',hr⟩ => ?_⟩
      have:D' = D:=by have:=hm'.d;omega
      rw [← this];exact hr
     ·rw [show ((0:Nat):Int) = 0 from rfl] at g1
      rw [g1,bs]
      refine .inr ⟨rfl,fun ⟨_,D',hm',_⟩ => g2 ?_⟩
      have:D' = D:=by have:=hm'.d;omega
      rw [← this];exact hm'.mat i (by omega)
    ·rw [qA (by omega),zJ]
     exact .inr ⟨rfl,fun ⟨_,D',hm',_⟩ => hlen hm'.len⟩
   ·rw [d1,bs,Bool.not_false,zJ]
    exact .inr ⟨rfl,fun ⟨_,D',hm',_⟩ => d2 (by have:=hm'.d;have:=hm'.d1;have:=hm'.d3;omega)⟩
  ·rw [p1,bs,Bool.not_false,zJ]
   exact .inr ⟨rfl,fun ⟨_,D',hm',_⟩ => p2 hm'.p⟩
 ·rw [h1,bs,Bool.not_false,zJ]
  exact .inr ⟨rfl,fun g => h2 g.1⟩
end Go.Pl

namespace Go.Pl
open Go Go.Ab Go.Wk Go.Pc
theorem zEw {xs:List (List Int)} {i:Nat} (h:i < xs.length):(xs.take (i + 1)).flatten = (xs.take i).flatten ++ xs.getD i []:=by
 rw [List.take_succ_eq_append_getElem h,List.flatten_append,List.getD_eq_getElem?_getD,List.getElem?_eq_getElem h];simp
theorem zI1 {xs:List (List Int)} (i:Nat):(xs.take i).flatten.length ≤ xs.flatten.length:=by
 have:xs.flatten = (xs.take i).flatten ++ (xs.drop i).flatten:=by rw [← List.flatten_append,List.take_append_drop]
 rw [this,List.length_append];omega
theorem zNQ {k:Nat} (hk:k ≤ 1000000):zR0 (k:Int) = some []:=by
 unfold zR0
 rw [decide_eq_false (by omega),zF,zD (by decide) (by decide),bs,zD (by omega) (by omega),bs]
 by_cases h:(k:Int) - (0 - 0) > 0
 ·rw [decide_eq_true h,zJ]
  have e:vR ([]:List Int) ((k:Int) - (0 - 0)) 0 = some (List.replicate k 0):=by
   unfold vR
   rw [if_pos (by simp;omega)]
   simp
  rw [e,bs]
  rfl
 ·rw [decide_eq_false h,zF]
theorem zAf {xs:List (List Int)} (hx:xs.length ≤ 1000) (hf:xs.flatten.length ≤ 1000000):f_r xs = some xs.flatten:=by
 unfold f_r
 have l1:=zO (body:=zR1 xs) (r:=((xs.flatten.length:Nat):Int)) (fun i => ((((xs.take i).flatten.length:Nat):Int),(i:Int))) xs.length (fun i hi => by
  have h1:=zEw hi
  have h2:=zI1 (xs:=xs) (i + 1)
  have h3:=congrArg List.length h1
  rw [List.length_append] at h3
  unfold zR1
  simp only
  rw [yQ hi,zJ,yD [] hi,bs,zD (by omega) (by omega),bs,decide_eq_false (by omega),zF,zD (by omega) (by omega),bs,cs,h3]
  congr 3) (by
  unfold zR1
  simp only
  rw [xD,zF,List.take_length])
 rw [show ((0:Nat):Int) = 0 from rfl] at l1
 simp only [List.take_zero,List.flatten_nil,List.length_nil] at l1
 rw [show ((0:Nat):Int) = 0 from rfl] at l1
 rw [l1,bs,zNQ hf,bs]
 have l2:=zO (body:=zR2 xs) (r:=xs.flatten) (fun i => ((xs.take i).flatten,(i:Int))) xs.length (fun i hi => by
  have h1:=zEw hi
  have h2:=zI1 (xs:=xs) (i + 1)
  have h3:=congrArg List.length h1
  rw [List.length_append] at h3
  unfold zR2
  simp only
  rw [yQ hi,zJ,yD [] hi,bs,yM (by omega),bs,zD (by omega) (by omega),bs,cs,h1]) (by
  unfold zR2
  simp only
  rw [xD,zF,List.take_length])
 rw [show ((0:Nat):Int) = 0 from rfl] at l2
 simp only [List.take_zero,List.flatten_nil] at l2
 rw [l2,bs]
theorem zJR {r:List Int} {a b:Nat} (hr:r.length ≤ 1000) (ha:a ≤ 1000) (hb:b ≤ 1000):zR3 r (a:Int) (b:Int) = some (List.replicate a 0 ++ (r ++ List.replicate b 0)):=by
 unfold zR3
 rw [yT (by omega),bs,yT (by omega),bs,zAf (by simp) (by simp;omega),bs]
 simp
end Go.Pl

namespace Go.Pl
open Go Go.Ab Go.Wk Go.Pc
section
variable {p:Int}
def wY (p:Int) (D:Nat) (r:List Int) (k:Int) (s:List Int):List Int:=mkv D fun j => (at0 r j + k * at0 s j) % p
theorem zD7 {D:Nat} {r s:List Int} {k:Int}:(wY p D r k s).length = D:=zZ _ _
def zGW (p:Int) (D i:Nat) (r:List Int) (k:Int) (s:List Int):List Int:=mkv D fun j => if j < i then (at0 r j + k * at0 s j) % p else at0 r j
theorem zHC {D:Nat} {r s:List Int} {k:Int} (hr:r.length = D):zGW p D 0 r k s = r:=by
 conv => rhs;rw [vJ hr]
 exact zY fun j _ => by rw [if_neg (by omega)]
theorem zHD {D:Nat} {r s:List Int} {k:Int}:zGW p D D r k s = wY p D r k s:=zY fun j hj => by rw [if_pos hj]
theorem zJS {D i:Nat} {r s:List Int} {k a:Int} (ha:a = (at0 r i + k * at0 s i) % p):(zGW p D i r k s).set i a = zGW p D (i + 1) r k s:=by
 simp only [zGW]
 rw [qO]
 refine zY fun j _ => ?_
 by_cases h:j = i
 ·subst h;rw [if_pos rfl,if_pos (by omega),ha]
 ·rw [if_neg h]
  by_cases h2:j < i
  ·rw [if_pos h2,if_pos (by omega)]
  ·rw [if_neg h2,if_neg (by omega)]
theorem zNd {D i:Nat} {r s:List Int} {k:Int} (hi:i < D):at0 (zGW p D i r k s) i = at0 r i:=by
 rw [zGW,yE hi,if_neg (by omega)]
theorem zD8 {D i:Nat} {r s:List Int} {k:Int}:(zGW p D i r k s).length = D:=zZ _ _
end
section
variable {p:Int} (hp:Prime p)
 include hp
theorem zEJ {a:Int} (_h0:-1000 ≤ a) (_h1:a ≤ 1000):zGY a p = some (a % p):=by
 have h7:=hp.pos
 have e1:=Int.tmod_lt_of_pos a (show 0 < p by omega)
 have e2:=Int.lt_tmod_of_pos a (show 0 < p by omega)
 have e3:(Int.tmod a p + p) % p = a % p:=by
  rw [Int.add_emod_right]
  have:=Int.tmod_add_mul_tdiv a p
  conv => rhs;rw [← this]
  rw [Int.add_mul_emod_self_left]
 unfold zGY uQ
 rw [if_neg (by omega),bs,zD (by omega) (by omega),bs,if_neg (by omega),bs,Int.tmod_eq_emod_of_nonneg (by omega),e3]
theorem zJT {a:Int} (_h0:-1000 ≤ a) (_h1:a ≤ 1000):zRC a p = some (a % p):=by
 have h7:=hp.pos
 have e1:=Int.tmod_lt_of_pos a (show 0 < p by omega)
 have e2:=Int.lt_tmod_of_pos a (show 0 < p by omega)
 have e3:(Int.tmod a p + p) % p = a % p:=by
  rw [Int.add_emod_right]
  have:=Int.tmod_add_mul_tdiv a p
  conv => rhs;rw [← this]
  rw [Int.add_mul_emod_self_left]
 unfold zRC uQ
 rw [if_neg (by omega),bs]
 by_cases h:Int.tmod a p < 0
 ·rw [decide_eq_true h,zJ,zD (by omega) (by omega),bs,← e3,Int.emod_eq_of_lt (by omega) (by omega)]
 ·rw [decide_eq_false h,zF,← e3,Int.add_emod_right,Int.emod_eq_of_lt (by omega) (by omega)]
theorem jD {D:Nat} {r s:List Int} {k:Int}:Row p D (wY p D r k s):=by
 have h7:=hp.pos
 refine ⟨zZ _ _,fun i hi => ?_⟩
 have e:at0 (wY p D r k s) i = (at0 r i + k * at0 s i) % p:=yE hi
 have e1:=Int.emod_nonneg (at0 r i + k * at0 s i) (show p ≠ 0 by omega)
 have e2:=Int.emod_lt_of_pos (at0 r i + k * at0 s i) (show 0 < p by omega)
 rw [e];omega
theorem zBb {k b:Int} (hk:-7 ≤ k ∧ k ≤ 7) (hb:0 ≤ b ∧ b ≤ p - 1):-49 ≤ k * b ∧ k * b ≤ 49:=by
 have h7:=hp.pos
 rcases Int.le_total 0 k with h | h
 ·have h1:=Int.mul_nonneg h hb.1
  have h2:=Int.mul_le_mul hk.2 (show b ≤ 7 by omega) hb.1 (by omega)
  omega
 ·have h1:=Int.mul_nonneg (show 0 ≤ -k by omega) hb.1
  have h2:=Int.mul_le_mul (show -k ≤ 7 by omega) (show b ≤ 7 by omega) hb.1 (by omega)
  rw [Int.neg_mul] at h1 h2
  omega
theorem qI {D:Nat} {r s:List Int} {k:Int} (hr:Row p D r) (hs:Row p D s) (hk:-7 ≤ k ∧ k ≤ 7) (hD:D ≤ 1000000):f_v r s k p = some (wY p D r k s):=by
 have h7:=hp.pos
 have:=zO (body:=zKw r s k p) (r:=wY p D r k s) (fun i => (zGW p D i r k s,(i:Int))) D (fun i hi => by
  have a1:=hr.2 i hi
  have a2:=hs.2 i hi
  have a3:=zBb hp hk a2
  unfold zKw
  simp only
  rw [hr.1,yQ hi,zJ,yF (by rw [zD8];exact hi),bs,yF (by rw [hs.1];exact hi),bs,zD (by omega) (by omega),bs,zNd hi,zD (by omega) (by omega),bs,zEJ hp (by omega) (by omega),bs,bs,zD (by omega) (by omega),bs,cs,Int.toNat_natCast,zJS rfl]) (by
  unfold zKw
  simp only
  rw [hr.1,xD,zF,zHD])
 rw [show ((0:Nat):Int) = 0 from rfl,zHC hr.1] at this
 unfold f_v
 rw [this,bs]
theorem vT {D:Nat} {r s:List Int} {k:Int} (hr:Row p D r) (hs:Row p D s) (hk:-7 ≤ k ∧ k ≤ 7) (hD:D ≤ 1000000):f_s p r k s = some (wY p D r k s):=by
 have h7:=hp.pos
 have:=zO (body:=zRD p k s) (r:=wY p D r k s) (fun i => (zGW p D i r k s,(i:Int))) D (fun i hi => by
  have a1:=hr.2 i hi
  have a2:=hs.2 i hi
  have a3:=zBb hp hk a2
  unfold zRD
  simp only
  rw [zD8,yQ hi,zJ,hs.1,yQ hi,zJ,yF (by rw [zD8];exact hi),bs,yF (by rw [hs.1];exact hi),bs,zD (by omega) (by omega),bs,zNd hi,zD (by omega) (by omega),bs,zJT hp (by omega) (by omega),bs,bs,zD (by omega) (by omega),bs,cs,Int.toNat_natCast,zJS rfl]) (by
  unfold zRD
  simp only
  rw [zD8,xD,zF,zHD])
 rw [show ((0:Nat):Int) = 0 from rfl,zHC hr.1] at this
 unfold f_s
 rw [tK (by rw [hr.1];omega),bs,this,bs]
end
theorem zBc {p:Int} {D:Nat} {r s:List Int}:wY p D r (p - 1) s = wY p D r (-1) s:=zY fun j _ => by
 rw [show at0 r j + (p - 1) * at0 s j = at0 r j + -1 * at0 s j + p * at0 s j from by rw [Int.sub_mul];omega,Int.add_mul_emod_self_left]
theorem zNR {p:Int} {D:Nat} {r s:List Int} (hr:Row p D r) (hs:Row p D s):(∀ j,j < D → at0 (wY p D r (-1) s) j = 0) ↔ r = s:=by
 constructor
 ·intro h
  rw [vJ hr.1,vJ hs.1]
  refine zY fun j hj => ?_
  have h1:=h j hj
  rw [wY,yE hj] at h1
  have a1:=hr.2 j hj
  have a2:=hs.2 j hj
  obtain ⟨c,hc⟩:=Int.dvd_of_emod_eq_zero h1
  have:c = 0:=by
   rcases Int.lt_trichotomy c 0 with h | h | h
   ·have:=Int.mul_le_mul_of_nonneg_left (show c ≤ -1 by omega) (show 0 ≤ p by omega);omega
   ·exact h
   ·have:=Int.mul_le_mul_of_nonneg_left (show 1 ≤ c by omega) (show 0 ≤ p by omega);omega
  rw [this] at hc;omega
 ·rintro rfl j hj
  rw [wY,yE hj,show at0 r j + -1 * at0 r j = 0 from by omega];simp
end Go.Pl

namespace Go.Pl
open Go Go.Ab Go.Wk Go.Pc
def VOk (n:Nat) (p:Int) (D:Nat) (vals:Mx):Prop:=vals.length = n ∧ ∀ i,i < n → Row p D (vals.getD i [])
def stp (m:zC) (D:Nat) (vals:Mx) (v:List Int) (w:Nat):List Int:=wY m.Prime D (tM m.Prime D v (m.zI.getD w [])) 1 (vals.getD w [])
def ev (m:zC) (D:Nat) (vals:Mx) (v:List Int) (ws:List Nat):List Int:=ws.foldl (stp m D vals) v
theorem zHE {m:zC} {D:Nat} {vals:Mx} {v:List Int} {a b:List Nat}:ev m D vals v (a ++ b) = ev m D vals (ev m D vals v a) b:=by simp [ev,List.foldl_append]
theorem zLu {m:zC} {D:Nat} {vals:Mx} {w:Nat}:∀ (k:Nat) (v:List Int),ev m D vals v (List.replicate k w) = iter k (fun v => stp m D vals v w) v
 | 0,_ => rfl
 | k + 1,v => by
  rw [List.replicate_succ]
  show ev m D vals (stp m D vals v w) (List.replicate k w) = _
  rw [zLu k];rfl
abbrev z0 (D:Nat):List Int:=List.replicate D 0
theorem zGw {p:Int} {D:Nat} (hp:0 < p):Row p D (z0 D):=by
 refine ⟨by simp,fun i hi => ?_⟩
 have:at0 (z0 D) i = 0:=by simp [z0,at0,List.getD_eq_getElem?_getD,hi]
 rw [this];omega
theorem jE {p:Int} {D:Nat} {r:List Int} {B:Mx} (hp:0 < p):Row p D (tM p D r B):=by
 refine ⟨zZ _ _,fun i hi => ?_⟩
 have e1:=Int.emod_nonneg (S D (fun l => at0 r l * ent B l i)) (show p ≠ 0 by omega)
 have e2:=Int.emod_lt_of_pos (S D (fun l => at0 r l * ent B l i)) hp
 rw [tM,yE hi];omega
section
variable {n D:Nat} {m:zC} (hm:MOk n m D) (hn:n ≤ 9) {vals:Mx} (hv:VOk n m.Prime D vals)
 include hm hn hv
theorem zBd {v:List Int} {w:Nat}:Row m.Prime D (stp m D vals v w):=by
 have _:=hn
 have _:=hv
 exact jD hm.p
theorem zDa {v:List Int} (h:Row m.Prime D v):∀ ws,Row m.Prime D (ev m D vals v ws):=by
 intro ws
 induction ws generalizing v with
 | nil => exact h
 | cons w ws ih => exact ih (zBd hm hn hv)
theorem zAH {v:List Int} {w:Nat} (h:Row m.Prime D v) (hw:w < n):zK6 m vals v (w:Int) = some (stp m D vals v w):=by
 have _:=hn
 have h7:=hm.p.pos
 have h3:=hm.d3
 unfold zK6
 rw [yD [] (by rw [hm.len];exact hw),bs,hm.d,zCZ hm.p (by omega) h (hm.mat w hw),bs,yD [] (by rw [hv.1];exact hw),bs,vT hm.p (jE (by omega)) (hv.2 w hw) (by omega) (by omega),bs]
 rfl
theorem zEK {v x:List Int} (h:Row m.Prime D v) (hl:x.length = n) (hx:∀ i,i < n → 0 ≤ at0 x i ∧ at0 x i ≤ 6):f_K m vals v x = some (ev m D vals v (nw 0 x)):=by
 have:=zO (body:=zRI m vals x) (r:=ev m D vals v (nw 0 x)) (fun i => (ev m D vals v (nw 0 (x.take i)),(i:Int))) n (fun i hi => by
  have hxi:=hx i hi
  unfold zRI
  simp only
  rw [hl,yQ hi,zJ]
  rw [vD (S:=Row m.Prime D) (body:=zRH m vals x (ev m D vals v (nw 0 (x.take i)),(i:Int))) (fun v => v) (fun v => stp m D vals v i) (at0 x i) hxi.1 (fun v _ => zBd hm hn hv) (fun u q hu hq => by
   unfold zRH
   simp only
   rw [yF (by omega),bs,decide_eq_true hq,zJ,zAH hm hn hv hu hi,bs,zD (by omega) (by omega),bs,cs]) (fun u hu => by
   unfold zRH
   simp only
   rw [yF (by omega),bs,decide_eq_false (by omega),zF]) (zDa hm hn hv h _),bs,zD (by omega) (by omega),bs,cs]
  rw [zI0 (by omega),zHE,zLu]) (by
  unfold zRI
  simp only
  rw [hl,xD,zF,List.take_of_length_le (by omega)])
 rw [show ((0:Nat):Int) = 0 from rfl,List.take_zero] at this
 simp only [nw,ev,List.foldl_nil] at this
 unfold f_K
 rw [this,bs];rfl
theorem zD9 {ws:List Nat} (hw:∀ w ∈ ws,w < n) (hl:ws.length ≤ 1000):zRK m vals (enW ws) = some (ev m D vals (z0 D) ws):=by
 have h7:=hm.p.pos
 have h3:=hm.d3
 unfold zRK
 rw [hm.d,yT (by omega),bs]
 have hz:=zGw (p:=m.Prime) (D:=D) (by omega)
 have hel:(enW ws).length = ws.length:=by simp only [enW,List.length_map]
 have:=zO (body:=zK7 m vals (enW ws)) (r:=ev m D vals (z0 D) ws) (fun i => (ev m D vals (z0 D) (ws.take i),(i:Int))) ws.length (fun i hi => by
  have hwi:=hw ws[i] (List.getElem_mem hi)
  have hr:=zDa hm hn hv hz (ws.take i)
  unfold zK7
  simp only
  rw [hel,yQ hi,zJ,vA,List.getElem?_map,List.getElem?_eq_getElem hi]
  simp only [Option.map_some]
  rw [bs,zD (by omega) (by omega),bs,show ((ws[i]:Nat):Int) + 1 - 1 = ((ws[i]:Nat):Int) from by omega,zCB hm hn hwi,bs,zAG hm.p (by omega) hr (hm.mat _ hwi) rfl,bs,bs,yD [] (by rw [hv.1];exact hwi),bs,qI hm.p (jE (by omega)) (hv.2 _ hwi) (by omega) (by omega),bs,zD (by omega) (by omega),bs,cs,List.take_succ_eq_append_getElem hi,zHE]
  rfl) (by
  unfold zK7
  simp only
  rw [hel,xD,zF,List.take_of_length_le (by omega)])
 rw [show ((0:Nat):Int) = 0 from rfl,List.take_zero] at this
 simp only [ev,List.foldl_nil] at this
 rw [this,bs];rfl
end
theorem zPZ {v:List Int} (hl:v.length ≤ 1000000):IsB (f_E v) (∀ i,i < v.length → at0 v i = 0):=by
 refine tU v.length (fun i => at0 v i = 0) rfl (fun i hi _ => ?_) ?_
 ·unfold zKs
  rw [yQ hi,zJ,yF hi,bs]
  by_cases h:at0 v i = 0
  ·rw [show (at0 v i != 0) = false from by simp only [h];rfl,zF,zD (by omega) (by omega),bs,cs];exact .inl ⟨rfl,h⟩
  ·rw [show (at0 v i != 0) = true from by simpa using h,zJ];exact .inr ⟨rfl,h⟩
 ·unfold zKs
  rw [xD,zF]
theorem zCm {v:List Int} (hl:v.length ≤ 1000000):IsB (zRJ v) (∀ i,i < v.length → at0 v i = 0):=zPZ hl
section
variable {x:SPr} (h:Pres x) {m:zC} {D:Nat} (hm:MOk x.zA.length m D) {vals:Mx} (hv:VOk x.zA.length m.Prime D vals)
 include h hm hv
abbrev dfc (m:zC) (D:Nat) (vals:Mx) (q:Rl):List Int:=wY m.Prime D (ev m D vals (z0 D) q.1) (-1) (ev m D vals (z0 D) q.2)
theorem zI2:(wE x).length ≤ 100:=by
 have _:=hv
 have _:=hm
 have h6:=h.os.1
 have hfm:=zGv h x.zA.length (Nat.le_refl _)
 simp only [wE,List.length_append,List.length_map,List.length_range];omega
theorem zI3:zTo x m vals = some ((wE x).map (dfc m D vals)):=by
 have h6:=h.os.1
 have h7:=hm.p.pos
 have h3:=hm.d3
 have hrl:=zI2 h hm hv
 have hz:=zGw (p:=m.Prime) (D:=D) (by omega)
 unfold zTo
 rw [kO h,bs]
 have:=zO (body:=zK8 m vals ((wE x).map enR)) (r:=(wE x).map (dfc m D vals)) (fun i => (((wE x).map (dfc m D vals)).take i,(i:Int))) (wE x).length (fun i hi => by
  have hmem:(wE x)[i] ∈ wE x:=List.getElem_mem hi
  obtain ⟨⟨g1,g2⟩,g3,g4⟩:=zHB h hmem
  unfold zK8
  simp only
  rw [List.length_map,yQ hi,zJ,vA,List.getElem?_map,List.getElem?_eq_getElem hi]
  simp only [Option.map_some]
  rw [bs,zD9 hm h6 hv g1 g2,bs,zD9 hm h6 hv g3 g4,bs,qI hm.p (zDa hm h6 hv hz _) (zDa hm h6 hv hz _) (by omega) (by omega),bs,yM (by simp;omega),bs,zD (by omega) (by omega),bs,cs,List.take_succ_eq_append_getElem (by simpa using hi)]
  simp only [List.getElem_map]) (by
  unfold zK8
  simp only
  rw [List.length_map,xD,zF,List.take_of_length_le (by simp)])
 rw [show ((0:Nat):Int) = 0 from rfl,List.take_zero] at this
 rw [this,bs]
end
end Go.Pl

namespace Go.Pl
open Go Go.Ab Go.Wk Go.Pc
theorem zNS {m:zC} {D:Nat} {vals:Mx} (hp:Prime m.Prime) (hd:m.Dim = (D:Int)) (hD:D ≤ 8) (hl:vals.length ≤ 1048576):IsB (zV4 m vals) (∀ i,i < vals.length → Row m.Prime D (vals.getD i [])):=by
 refine tU vals.length (fun i => Row m.Prime D (vals.getD i [])) rfl (fun i hi _ => ?_) ?_
 ·refine vS (zEH hp hD (r:=vals.getD i [])) (by omega) ?_
  unfold zNy
  rw [yQ hi,zJ,yD [] hi,bs,hd]
 ·unfold zNy
  rw [xD,zF]
theorem zJU {a b:Int} (h:a = b):(a == b) = true:=by simp [h]
theorem zJV {a b:Int} (h:a ≠ b):(a == b) = false:=by simp [h]
end Go.Pl

namespace Go.Pl
open Go Go.Ab Go.Wk Go.Pc
theorem IsB.both {o o':Option Bool} {P:Prop} (h:IsB o P) (h':IsB o' P):(o = some true ∧ o' = some true ∧ P) ∨ (o = some false ∧ o' = some false ∧ ¬ P):=by
 rcases h with ⟨h1,h2⟩ | ⟨h1,h2⟩ <;> rcases h' with ⟨h3,h4⟩ | ⟨h3,h4⟩
 ·exact .inl ⟨h1,h3,h2⟩
 ·exact absurd h2 h4
 ·exact absurd h4 h2
 ·exact .inr ⟨h1,h3,h2⟩
end Go.Pl

namespace Go.Pl
open Go Go.Ab Go.Wk Go.Pc
def Sp (p:Int) (n:Nat) (R:Mx) (v:List Int):Prop:=∃ c:Nat → Int,∀ j,j < n → (S R.length fun i => c i * ent R i j) % p = at0 v j % p
section
variable {p:Int} {n:Nat} {R R':Mx} {u v w:List Int}
theorem sT {i:Nat} (hi:i < R.length):Sp p n R (R.getD i []):=by
 refine ⟨fun l => if l = i then 1 else 0,fun j _ => ?_⟩
 rw [zAF (k:=i) hi (fun l _ hl => by simp [hl])]
 simp
theorem sU {k:Int} (hv:Sp p n R v) (hw:Sp p n R w) (h:∀ j,j < n → at0 u j % p = (at0 v j + k * at0 w j) % p):Sp p n R u:=by
 obtain ⟨c,hc⟩:=hv
 obtain ⟨d,hd⟩:=hw
 refine ⟨fun i => c i + k * d i,fun j hj => ?_⟩
 have e:(S R.length fun i => (c i + k * d i) * ent R i j) = (S R.length fun i => c i * ent R i j) + k * (S R.length fun i => d i * ent R i j):=by
  rw [← zEr,← zJI]
  exact wU fun i _ => by rw [Int.add_mul,Int.mul_assoc]
 rw [e,h j hj,Int.add_emod,hc j hj,Int.mul_emod,hd j hj,← Int.mul_emod,← Int.add_emod]
theorem zAg (h:∀ j,j < n → at0 u j % p = 0):Sp p n R u:=by
 refine ⟨fun _ => 0,fun j hj => ?_⟩
 rw [h j hj,wU (g:=fun _ => 0) (fun i _ => by simp),jM];simp
theorem jF (h:∀ i,i < R.length → Sp p n R' (R.getD i [])) (hv:Sp p n R v):Sp p n R' v:=by
 obtain ⟨c,hc⟩:=hv
 have key:∀ m,m ≤ R.length → ∃ d:Nat → Int,∀ j,j < n → (S R'.length fun i => d i * ent R' i j) % p = (S m fun i => c i * ent R i j) % p:=by
  intro m
  induction m with
  | zero => intro _;exact ⟨fun _ => 0,fun j _ => by rw [wU (g:=fun _ => 0) (fun i _ => by simp),jM];rfl⟩
  | succ m ih =>
   intro hm
   obtain ⟨d,hd⟩:=ih (by omega)
   obtain ⟨e,he⟩:=h m (by omega)
   refine ⟨fun i => d i + c m * e i,fun j hj => ?_⟩
   have e1:(S R'.length fun i => (d i + c m * e i) * ent R' i j) = (S R'.length fun i => d i * ent R' i j) + c m * (S R'.length fun i => e i * ent R' i j):=by
    rw [← zEr,← zJI]
    exact wU fun i _ => by rw [Int.add_mul,Int.mul_assoc]
   rw [e1,Int.add_emod,hd j hj,Int.mul_emod,he j hj,← Int.mul_emod,← Int.add_emod]
   rfl
 obtain ⟨d,hd⟩:=key R.length (Nat.le_refl _)
 exact ⟨d,fun j hj => by rw [hd j hj,hc j hj]⟩
end
def sK (p:Int) (n:Nat) (R R':Mx):Prop:=(∀ i,i < R.length → Sp p n R' (R.getD i [])) ∧ ∀ i,i < R'.length → Sp p n R (R'.getD i [])
theorem sK.refl {p:Int} {n:Nat} {R:Mx}:sK p n R R:=⟨fun _ h => sT h,fun _ h => sT h⟩
theorem sK.symm {p:Int} {n:Nat} {R R':Mx} (h:sK p n R R'):sK p n R' R:=⟨h.2,h.1⟩
theorem sK.trans {p:Int} {n:Nat} {R R' R2:Mx} (h:sK p n R R') (h':sK p n R' R2):sK p n R R2:=⟨fun i hi => jF h'.1 (h.1 i hi),fun i hi => jF h.2 (h'.2 i hi)⟩
theorem sK.iff {p:Int} {n:Nat} {R R':Mx} {v:List Int} (h:sK p n R R'):Sp p n R v ↔ Sp p n R' v:=⟨fun g => jF h.1 g,fun g => jF h.2 g⟩
structure Red (p:Int) (n:Nat) (R:Mx) (pv:Nat → Nat):Prop where
 row:∀ i,i < R.length → Row p n (R.getD i [])
 lt:∀ i,i < R.length → pv i < n
 one:∀ i,i < R.length → ent R i (pv i) = 1
 low:∀ i,i < R.length → ∀ j,j < pv i → ent R i j = 0
 off:∀ i k,i < R.length → k < R.length → k ≠ i → ent R k (pv i) = 0
 mono:∀ i j,i < j → j < R.length → pv i < pv j
section
variable {p:Int} (hp:1 < p) {n:Nat} {R R':Mx} {pv pv':Nat → Nat} {v:List Int}
theorem Red.coef (h:Red p n R pv) {c:Nat → Int} (hc:∀ j,j < n → (S R.length fun i => c i * ent R i j) % p = at0 v j % p) {k:Nat} (hk:k < R.length):c k % p = at0 v (pv k) % p:=by
 rw [← hc (pv k) (h.lt k hk),zAF (k:=k) hk (fun i hi hne => by rw [h.off k i hk hi hne];simp),h.one k hk];simp
theorem Red.expand (h:Red p n R pv) (hv:Sp p n R v):∀ j,j < n → at0 v j % p = (S R.length fun i => at0 v (pv i) * ent R i j) % p:=by
 obtain ⟨c,hc⟩:=hv
 intro j hj
 rw [← hc j hj]
 exact zD6 fun i hi => by rw [Int.mul_emod,h.coef hc hi,← Int.mul_emod]
theorem Red.lead (h:Red p n R pv) (hv:Sp p n R v) (hne:∃ j,j < n ∧ at0 v j % p ≠ 0):∃ i,i < R.length ∧ (∀ j,j < pv i → at0 v j % p = 0) ∧ at0 v (pv i) % p ≠ 0:=by
 have hx:=h.expand hv
 have h1:∃ i,i < R.length ∧ at0 v (pv i) % p ≠ 0:=by
  refine Classical.byContradiction fun hn => ?_
  obtain ⟨j,hj,hj2⟩:=hne
  refine hj2 ?_
  rw [hx j hj,zD6 (g:=fun _ => 0) (fun i hi => by
   have:at0 v (pv i) % p = 0:=Classical.byContradiction fun h0 => hn ⟨i,hi,h0⟩
   rw [Int.mul_emod,this];simp),jM];rfl
 obtain ⟨i,⟨hi,hi2⟩,hmin⟩:=zA1 h1
 refine ⟨i,hi,fun j hj => ?_,hi2⟩
 have hjn:j < n:=Nat.lt_trans hj (h.lt i hi)
 rw [hx j hjn,zD6 (g:=fun _ => 0) (fun k hk => by
  rcases Nat.lt_or_ge k i with hki | hki
  ·have:at0 v (pv k) % p = 0:=Classical.byContradiction fun h0 => hmin k hki ⟨hk,h0⟩
   rw [Int.mul_emod,this];simp
  ·have h2:pv i ≤ pv k:=by
    rcases Nat.lt_or_ge i k with h3 | h3
    ·exact Nat.le_of_lt (h.mono i k h3 hk)
    ·rw [show i = k from by omega];exact Nat.le_refl _
   rw [h.low k hk j (by omega)];simp),jM];rfl
 include hp
theorem Red.row_lead (h:Red p n R pv) {i:Nat} (hi:i < R.length):(∃ j,j < n ∧ at0 (R.getD i []) j % p ≠ 0) ∧ (∀ j,j < pv i → at0 (R.getD i []) j % p = 0) ∧ at0 (R.getD i []) (pv i) % p ≠ 0:=by
 have h1:at0 (R.getD i []) (pv i) % p ≠ 0:=by
  have:=h.one i hi
  simp only [ent] at this
  rw [this,Int.emod_eq_of_lt (by omega) hp];omega
 refine ⟨⟨pv i,h.lt i hi,h1⟩,fun j hj => ?_,h1⟩
 have:=h.low i hi j hj
 simp only [ent] at this
 rw [this];rfl
theorem Red.piv_in (h:Red p n R pv) (h':Red p n R' pv') (hs:∀ i,i < R.length → Sp p n R' (R.getD i [])) {i:Nat} (hi:i < R.length):∃ k,k < R'.length ∧ pv' k = pv i:=by
 obtain ⟨g1,g2,g3⟩:=h.row_lead hp hi
 obtain ⟨k,hk,g4,g5⟩:=h'.lead (hs i hi) g1
 refine ⟨k,hk,?_⟩
 rcases Nat.lt_trichotomy (pv' k) (pv i) with h1 | h1 | h1
 ·exact absurd (g2 _ h1) g5
 ·exact h1
 ·exact absurd (g4 _ h1) g3
theorem Red.piv_eq (h:Red p n R pv) (h':Red p n R' pv') (hs:sK p n R R'):∀ i,(i < R.length ↔ i < R'.length) ∧ (i < R.length → pv i = pv' i):=by
 intro i
 induction i using Nat.strongRecOn with
 | _ i ih =>
  have a:i < R.length → i < R'.length ∧ pv' i ≤ pv i:=fun hi => by
   obtain ⟨k,hk,e⟩:=h.piv_in hp h' hs.1 hi
   have hki:i ≤ k:=by
    refine Classical.byContradiction fun hn => ?_
    have h1:=(ih k (by omega)).2 (by omega)
    have h2:=h.mono k i (by omega) hi
    omega
   refine ⟨by omega,?_⟩
   rcases Nat.lt_or_ge i k with h3 | h3
   ·have:=h'.mono i k h3 hk;omega
   ·have hik:i = k:=by omega
    subst hik;omega
  have b:i < R'.length → i < R.length ∧ pv i ≤ pv' i:=fun hi => by
   obtain ⟨k,hk,e⟩:=h'.piv_in hp h hs.2 hi
   have hki:i ≤ k:=by
    refine Classical.byContradiction fun hn => ?_
    have h1:=(ih k (by omega)).2 hk
    have h2:=h'.mono k i (by omega) hi
    omega
   refine ⟨by omega,?_⟩
   rcases Nat.lt_or_ge i k with h3 | h3
   ·have:=h.mono i k h3 hk;omega
   ·have hik:i = k:=by omega
    subst hik;omega
  exact ⟨⟨fun hi => (a hi).1,fun hi => (b hi).1⟩,fun hi => by have:=(a hi).2;have:=(b (a hi).1).2;omega⟩
theorem Red.unique (h:Red p n R pv) (h':Red p n R' pv') (hs:sK p n R R'):R = R':=by
 have hpe:=h.piv_eq hp h' hs
 have hl:R.length = R'.length:=by
  rcases Nat.lt_trichotomy R.length R'.length with g | g | g
  ·have:=(hpe R.length).1.2 g;omega
  ·exact g
  ·have:=(hpe R'.length).1.1 g;omega
 refine zGp (D:=R.length) rfl hl.symm fun i hi => ?_
 have hi':i < R'.length:=by omega
 have r1:=h.row i hi
 have r2:=h'.row i hi'
 rw [vJ r1.1,vJ r2.1]
 refine zY fun j hj => ?_
 have hx:=h'.expand (hs.1 i hi) j hj
 rw [wU (g:=fun k => (if k = i then 1 else 0) * ent R' k j) (fun k hk => by
  congr 1
  have e:=(hpe k).2 (by omega)
  by_cases hki:k = i
  ·subst hki;rw [if_pos rfl,← e];exact h.one k hi
  ·rw [if_neg hki,← e];exact h.off k i (by omega) hi (Ne.symm hki)),zAF (k:=i) hi' (fun k _ hk => by simp [hk])] at hx
 simp only [if_true,Int.one_mul,ent] at hx
 have a1:=r1.2 j hj
 have a2:=r2.2 j hj
 rw [Int.emod_eq_of_lt a1.1 (by omega),Int.emod_eq_of_lt a2.1 (by omega)] at hx
 exact hx
end
end Go.Pl

namespace Go.Pl
open Go Go.Ab Go.Wk Go.Pc
def mkR (m:Nat) (F:Nat → List Int):Mx:=(List.range m).map F
theorem tE {m:Nat} {F:Nat → List Int}:(mkR m F).length = m:=by simp [mkR]
theorem qQ {m:Nat} {F:Nat → List Int} {i:Nat} (h:i < m):(mkR m F).getD i [] = F i:=by simp [mkR,List.getD_eq_getElem?_getD,h]
theorem zI4 {m:Nat} {F:Nat → List Int} {i:Nat} (h:i < m):ixO (mkR m F) (i:Int) = some (F i):=by rw [yD [] (by rw [tE];exact h),qQ h]
theorem tP {m:Nat} {F G:Nat → List Int} (h:∀ i,i < m → F i = G i):mkR m F = mkR m G:=by
 simp only [mkR]
 exact List.map_congr_left fun i hi => h i (List.mem_range.1 hi)
theorem zUW {R:Mx} {m:Nat} (h:R.length = m):R = mkR m (fun i => R.getD i []):=zGp (D:=m) h tE fun i hi => by rw [qQ hi]
theorem zFd {m:Nat} {F:Nat → List Int} {i:Nat} {a:List Int}:(mkR m F).set i a = mkR m (fun k => if k = i then a else F k):=by
 apply List.ext_getElem?
 intro k
 by_cases hk:k < m
 ·by_cases h:i = k
  ·subst h;simp [mkR,hk]
  ·rw [List.getElem?_set_ne h];simp [mkR,hk,Ne.symm h]
 ·rw [List.getElem?_eq_none (by simp [mkR];omega),List.getElem?_eq_none (by simp [mkR];omega)]
theorem zDA {m:Nat} {F:Nat → List Int} {i j:Nat} (h:i < m):ent (mkR m F) i j = at0 (F i) j:=by simp only [ent,qQ h]
theorem zQa {s:Nat → Int × Int × Int × Int} (n:Nat) {r:Int × Int} (h:∀ i,i < n → zOq (s i) = some (.inl (s (i + 1)))) (he:zOq (s n) = some (.inr r)) {p q:Int} (hq:zGY r.2 p = some q) (h1:r.1 = 1) (hs:s 0 = (p,(s 0).2.1,0,1)) :
  f_O (s 0).2.1 p = some (q,true):=by
 unfold f_O
 rw [← hs,zO s n h he,bs,hq,bs,h1];rfl
def zQb:List (Int × Int × Int × Int) → Nat → Int × Int × Int × Int:=fun l i => l.getD i (0,0,0,0)
theorem uC (l:List (Int × Int × Int × Int)) (n:Nat) {r:Int × Int} (h:∀ i,i < n → zOq (zQb l i) = some (.inl (zQb l (i + 1)))) (he:zOq (zQb l n) = some (.inr r)) {p q x:Int} (hq:zGY r.2 p = some q) (h1:r.1 = 1) (hs:zQb l 0 = (p,x,0,1)) :
  f_O x p = some (q,true):=by
 have:=zQa (s:=zQb l) n h he hq h1 (by rw [hs])
 rw [hs] at this;exact this
theorem lt1 {P:Nat → Prop} (h0:P 0):∀ i,i < 1 → P i:=fun i hi => by rw [show i = 0 from by omega];exact h0
theorem lt2 {P:Nat → Prop} (h0:P 0) (h1:P 1):∀ i,i < 2 → P i:=fun i hi => by match i,hi with | 0,_ => exact h0 | 1,_ => exact h1
theorem lt3 {P:Nat → Prop} (h0:P 0) (h1:P 1) (h2:P 2):∀ i,i < 3 → P i:=fun i hi => by match i,hi with | 0,_ => exact h0 | 1,_ => exact h1 | 2,_ => exact h2
theorem zDB {p x:Int} (hp:Prime p) (h0:1 ≤ x) (h1:x ≤ p - 1):∃ r,f_O x p = some (r,true) ∧ 0 ≤ r ∧ r ≤ p - 1 ∧ (x * r) % p = 1:=by
 have c:(p = 2 ∧ x = 1) ∨ (p = 3 ∧ (x = 1 ∨ x = 2)) ∨ (p = 5 ∧ (x = 1 ∨ x = 2 ∨ x = 3 ∨ x = 4)) ∨ (p = 7 ∧ (x = 1 ∨ x = 2 ∨ x = 3 ∨ x = 4 ∨ x = 5 ∨ x = 6)):=by unfold Prime at hp;omega
 rcases c with ⟨rfl,rfl⟩ | ⟨rfl,rfl | rfl⟩ | ⟨rfl,rfl | rfl | rfl | rfl⟩ | ⟨rfl,rfl | rfl | rfl | rfl | rfl | rfl⟩
 ·exact ⟨1,uC [(2,1,0,1),(1,0,1,-2)] 1 (lt1 (by decide +kernel)) (r:=(1,1)) (by decide +kernel) (by decide +kernel) rfl rfl,by decide,by decide,by decide⟩
 ·exact ⟨1,uC [(3,1,0,1),(1,0,1,-3)] 1 (lt1 (by decide +kernel)) (r:=(1,1)) (by decide +kernel) (by decide +kernel) rfl rfl,by decide,by decide,by decide⟩
 ·exact ⟨2,uC [(3,2,0,1),(2,1,1,-1),(1,0,-1,3)] 2 (lt2 (by decide +kernel) (by decide +kernel)) (r:=(1,-1)) (by decide +kernel) (by decide +kernel) rfl rfl,by decide,by decide,by decide⟩
 ·exact ⟨1,uC [(5,1,0,1),(1,0,1,-5)] 1 (lt1 (by decide +kernel)) (r:=(1,1)) (by decide +kernel) (by decide +kernel) rfl rfl,by decide,by decide,by decide⟩
 ·exact ⟨3,uC [(5,2,0,1),(2,1,1,-2),(1,0,-2,5)] 2 (lt2 (by decide +kernel) (by decide +kernel)) (r:=(1,-2)) (by decide +kernel) (by decide +kernel) rfl rfl,by decide,by decide,by decide⟩
 ·exact ⟨2,uC [(5,3,0,1),(3,2,1,-1),(2,1,-1,2),(1,0,2,-5)] 3 (lt3 (by decide +kernel) (by decide +kernel) (by decide +kernel)) (r:=(1,2)) (by decide +kernel) (by decide +kernel) rfl rfl,by decide,by decide,by decide⟩
 ·exact ⟨4,uC [(5,4,0,1),(4,1,1,-1),(1,0,-1,5)] 2 (lt2 (by decide +kernel) (by decide +kernel)) (r:=(1,-1)) (by decide +kernel) (by decide +kernel) rfl rfl,by decide,by decide,by decide⟩
 ·exact ⟨1,uC [(7,1,0,1),(1,0,1,-7)] 1 (lt1 (by decide +kernel)) (r:=(1,1)) (by decide +kernel) (by decide +kernel) rfl rfl,by decide,by decide,by decide⟩
 ·exact ⟨4,uC [(7,2,0,1),(2,1,1,-3),(1,0,-3,7)] 2 (lt2 (by decide +kernel) (by decide +kernel)) (r:=(1,-3)) (by decide +kernel) (by decide +kernel) rfl rfl,by decide,by decide,by decide⟩
 ·exact ⟨5,uC [(7,3,0,1),(3,1,1,-2),(1,0,-2,7)] 2 (lt2 (by decide +kernel) (by decide +kernel)) (r:=(1,-2)) (by decide +kernel) (by decide +kernel) rfl rfl,by decide,by decide,by decide⟩
 ·exact ⟨2,uC [(7,4,0,1),(4,3,1,-1),(3,1,-1,2),(1,0,2,-7)] 3 (lt3 (by decide +kernel) (by decide +kernel) (by decide +kernel)) (r:=(1,2)) (by decide +kernel) (by decide +kernel) rfl rfl,by decide,by decide,by decide⟩
 ·exact ⟨3,uC [(7,5,0,1),(5,2,1,-1),(2,1,-1,3),(1,0,3,-7)] 3 (lt3 (by decide +kernel) (by decide +kernel) (by decide +kernel)) (r:=(1,3)) (by decide +kernel) (by decide +kernel) rfl rfl,by decide,by decide,by decide⟩
 ·exact ⟨6,uC [(7,6,0,1),(6,1,1,-1),(1,0,-1,7)] 2 (lt2 (by decide +kernel) (by decide +kernel)) (r:=(1,-1)) (by decide +kernel) (by decide +kernel) rfl rfl,by decide,by decide,by decide⟩
end Go.Pl

namespace Go.Pl
open Go Go.Ab Go.Wk Go.Pc
structure zNT (p:Int) (n m:Nat) (rows:Mx) (c:Nat) (M:Mx) (d:Nat) (pv:Nat → Nat):Prop where
 len:M.length = m
 row:∀ i,i < m → Row p n (M.getD i [])
 dm:d ≤ m
 lt:∀ i,i < d → pv i < c
 one:∀ i,i < d → ent M i (pv i) = 1
 low:∀ i,i < d → ∀ j,j < pv i → ent M i j = 0
 off:∀ i k,i < d → k < m → k ≠ i → ent M k (pv i) = 0
 mono:∀ i j,i < j → j < d → pv i < pv j
 zero:∀ k,d ≤ k → k < m → ∀ j,j < c → ent M k j = 0
 sp:sK p n M rows
theorem zBe {p:Int} {n m:Nat} {F:Nat → List Int} {i:Nat} (h:i < m):Sp p n (mkR m F) (F i):=by
 have:=sT (p:=p) (n:=n) (R:=mkR m F) (i:=i) (by rw [tE];exact h)
 rw [qQ h] at this;exact this
theorem zQc (a e r p:Int):a % p = ((a + (0 - e) * r) % p + e * r) % p:=by
 rw [Int.add_emod,Int.emod_emod,← Int.add_emod,show a + (0 - e) * r + e * r = a from by rw [Int.sub_mul,Int.zero_mul];omega]
section
variable {p:Int} (hp:Prime p) {n m:Nat} {rows:Mx} {c:Nat} {M:Mx} {d:Nat} {pv:Nat → Nat} (h:zNT p n m rows c M d pv) (hc:c < n) (hd:d < m)
 include hp h hc hd
theorem zNT.pivot {t:Nat} (ht:d ≤ t) (htm:t < m) (hne:ent M t c ≠ 0) {q:Int} (hq:(ent M t c * q) % p = 1) :
  zNT p n m rows (c + 1) (mkR m fun i => if i = d then mkv n fun j => (ent M t j * q) % p else wY p n (if i = t then M.getD d [] else M.getD i []) (0 - at0 (if i = t then M.getD d [] else M.getD i []) c) (mkv n fun j => (ent M t j * q) % p)) (d + 1) (fun i => if i = d then c else pv i):=by
 have h7:=hp.pos
 have pr:∀ j,j < n → at0 (mkv n fun j => (ent M t j * q) % p) j = (ent M t j * q) % p:=fun j hj => yE hj
 have p0:∀ j,j < c → (ent M t j * q) % p = 0:=fun j hj => by rw [h.zero t ht htm j hj];simp
 have prow:Row p n (mkv n fun j => (ent M t j * q) % p):=⟨zZ _ _,fun j hj => by
  have e1:=Int.emod_nonneg (ent M t j * q) (show p ≠ 0 by omega)
  have e2:=Int.emod_lt_of_pos (ent M t j * q) (show 0 < p by omega)
  rw [pr j hj];omega⟩
 have hG:∀ i,i < m → i ≠ d → Row p n (if i = t then M.getD d [] else M.getD i []):=fun i hi _ => by
  split
  ·exact h.row d hd
  ·exact h.row i hi
 have eo:∀ i j,i < m → i ≠ d → j < n → ent (mkR m fun i => if i = d then mkv n fun j => (ent M t j * q) % p else wY p n (if i = t then M.getD d [] else M.getD i []) (0 - at0 (if i = t then M.getD d [] else M.getD i []) c) (mkv n fun j => (ent M t j * q) % p)) i j = (at0 (if i = t then M.getD d [] else M.getD i []) j + (0 - at0 (if i = t then M.getD d [] else M.getD i []) c) * ((ent M t j * q) % p)) % p:=fun i j hi hne' hj => by
  rw [zDA hi,if_neg hne',wY,yE hj,pr j hj]
 have el:∀ i j,i < m → i ≠ d → j < c → ent (mkR m fun i => if i = d then mkv n fun j => (ent M t j * q) % p else wY p n (if i = t then M.getD d [] else M.getD i []) (0 - at0 (if i = t then M.getD d [] else M.getD i []) c) (mkv n fun j => (ent M t j * q) % p)) i j = at0 (if i = t then M.getD d [] else M.getD i []) j:=fun i j hi hne' hj => by
  rw [eo i j hi hne' (by omega),p0 j hj,Int.mul_zero,Int.add_zero]
  have:=(hG i hi hne').2 j (by omega)
  exact Int.emod_eq_of_lt this.1 (by omega)
 have ed:∀ j,j < n → ent (mkR m fun i => if i = d then mkv n fun j => (ent M t j * q) % p else wY p n (if i = t then M.getD d [] else M.getD i []) (0 - at0 (if i = t then M.getD d [] else M.getD i []) c) (mkv n fun j => (ent M t j * q) % p)) d j = (ent M t j * q) % p:=fun j hj => by
  rw [zDA hd,if_pos rfl,pr j hj]
 have ec:∀ i,i < m → i ≠ d → ent (mkR m fun i => if i = d then mkv n fun j => (ent M t j * q) % p else wY p n (if i = t then M.getD d [] else M.getD i []) (0 - at0 (if i = t then M.getD d [] else M.getD i []) c) (mkv n fun j => (ent M t j * q) % p)) i c = 0:=fun i hi hne' => by
  rw [eo i c hi hne' hc,hq,Int.mul_one]
  rw [show at0 (if i = t then M.getD d [] else M.getD i []) c + (0 - at0 (if i = t then M.getD d [] else M.getD i []) c) = 0 from by omega];simp
 have hlow:∀ i,i < d → (if i = t then M.getD d [] else M.getD i []) = M.getD i []:=fun i hi => by rw [if_neg (by omega)]
 have hzr:∀ i,d ≤ i → i < m → ∀ j,j < c → at0 (if i = t then M.getD d [] else M.getD i []) j = 0:=fun i hi hi2 j hj => by
  split
  ·exact h.zero d (Nat.le_refl _) hd j hj
  ·exact h.zero i hi hi2 j hj
 refine ⟨tE,fun i hi => ?_,by omega,fun i hi => ?_,fun i hi => ?_,fun i hi j hj => ?_,fun i k hi hk hne' => ?_,fun i j hij hj => ?_,fun k hk hk2 j hj => ?_,?_⟩
 ·rw [qQ hi]
  split
  ·exact prow
  ·exact jD hp
 ·by_cases hid:i = d
  ·rw [if_pos hid];omega
  ·rw [if_neg hid];have:=h.lt i (by omega);omega
 ·by_cases hid:i = d
  ·subst hid;rw [if_pos rfl,ed c hc,hq]
  ·have h1:=h.lt i (by omega)
   rw [if_neg hid,el i _ (by omega) hid h1,hlow i (by omega)];exact h.one i (by omega)
 ·by_cases hid:i = d
  ·subst hid
   rw [if_pos rfl] at hj
   rw [ed j (by omega),p0 j hj]
  ·rw [if_neg hid] at hj
   have h1:=h.lt i (by omega)
   rw [el i j (by omega) hid (by omega),hlow i (by omega)];exact h.low i (by omega) j hj
 ·by_cases hid:i = d
  ·subst hid
   rw [if_pos rfl];exact ec k hk hne'
  ·have h1:=h.lt i (by omega)
   rw [if_neg hid]
   by_cases hkd:k = d
   ·subst hkd
    rw [ed _ (by omega),h.off i t (by omega) htm (by omega)];simp
   ·rw [el k _ hk hkd h1]
    split
    ·exact h.off i d (by omega) hd (Ne.symm hid)
    ·exact h.off i k (by omega) hk hne'
 ·by_cases hjd:j = d
  ·subst hjd
   rw [if_pos rfl,if_neg (by omega)];exact h.lt i (by omega)
  ·rw [if_neg hjd,if_neg (by omega)];exact h.mono i j hij (by omega)
 ·rcases Nat.lt_or_ge j c with hjc | hjc
  ·rw [el k j hk2 (by omega) hjc];exact hzr k (by omega) hk2 j hjc
  ·rw [show j = c from by omega];exact ec k hk2 (by omega)
 ·refine sK.trans ⟨fun i hi => ?_,fun i hi => ?_⟩ h.sp
  ·rw [tE] at hi
   rw [qQ hi]
   have hr:Sp p n M (mkv n fun j => (ent M t j * q) % p):=by
    refine sU (k:=q) (zAg (u:=[]) fun j _ => by simp [at0]) (sT (R:=M) (i:=t) (by rw [h.len];exact htm)) fun j hj => ?_
    rw [pr j hj,Int.emod_emod,Int.mul_comm];simp [at0]
   split
   ·exact hr
   ·refine sU (k:=0 - at0 (if i = t then M.getD d [] else M.getD i []) c) (v:=if i = t then M.getD d [] else M.getD i []) ?_ hr fun j hj => ?_
    ·split
     ·exact sT (by rw [h.len];exact hd)
     ·exact sT (by rw [h.len];exact hi)
    ·rw [wY,yE hj,Int.emod_emod]
  ·rw [h.len] at hi
   have hr:=zBe (p:=p) (n:=n) (m:=m) (F:=fun i => if i = d then mkv n fun j => (ent M t j * q) % p else wY p n (if i = t then M.getD d [] else M.getD i []) (0 - at0 (if i = t then M.getD d [] else M.getD i []) c) (mkv n fun j => (ent M t j * q) % p)) hd
   simp only [if_true] at hr
   have hg:∀ k,k < m → k ≠ d → Sp p n (mkR m fun i => if i = d then mkv n fun j => (ent M t j * q) % p else wY p n (if i = t then M.getD d [] else M.getD i []) (0 - at0 (if i = t then M.getD d [] else M.getD i []) c) (mkv n fun j => (ent M t j * q) % p)) (if k = t then M.getD d [] else M.getD k []):=fun k hk hkd => by
    have h1:=zBe (p:=p) (n:=n) (m:=m) (F:=fun i => if i = d then mkv n fun j => (ent M t j * q) % p else wY p n (if i = t then M.getD d [] else M.getD i []) (0 - at0 (if i = t then M.getD d [] else M.getD i []) c) (mkv n fun j => (ent M t j * q) % p)) hk
    simp only [if_neg hkd] at h1
    refine sU (k:=at0 (if k = t then M.getD d [] else M.getD k []) c) h1 hr fun j hj => ?_
    rw [wY,yE hj,pr j hj]
    exact zQc _ _ _ _
   by_cases hit:i = t
   ·
    subst hit
    refine sU (k:=ent M i c) (zAg (u:=[]) fun j _ => by simp [at0]) hr fun j hj => ?_
    rw [pr j hj]
    have e1:(ent M i c * ((ent M i j * q) % p)) % p = (ent M i j * ((ent M i c * q) % p)) % p:=by
     rw [Int.mul_emod,Int.emod_emod,← Int.mul_emod,Int.mul_emod (ent M i j),Int.emod_emod,← Int.mul_emod]
     congr 1
     rw [← Int.mul_assoc,← Int.mul_assoc,Int.mul_comm (ent M i c)]
    rw [show at0 ([]:List Int) j = 0 from by simp [at0],Int.zero_add,e1,hq,Int.mul_one]
   ·by_cases hid:i = d
    ·subst hid
     have:=hg t htm (by omega)
     rw [if_pos rfl] at this;exact this
    ·have:=hg i hi hid
     rw [if_neg hit] at this;exact this
end
end Go.Pl

namespace Go.Pl
open Go Go.Ab Go.Wk Go.Pc
theorem qJ {v:List Int} (h:v.length ≤ 1000000):f_x v = some v:=by
 unfold f_x
 rw [yM (by simp;omega),bs,List.nil_append]
theorem zGX {rows:Mx} (hm:rows.length ≤ 1000000) (hn:∀ i,i < rows.length → (rows.getD i []).length ≤ 1000000):zTj rows = some rows:=by
 unfold zTj
 have:=zO (body:=zK1 rows) (r:=rows) (fun i => (rows.take i,(i:Int))) rows.length (fun i hi => by
  unfold zK1
  simp only
  rw [yQ hi,zJ,yD [] hi,bs,qJ (hn i hi),bs,yM (by simp;omega),bs,zD (by omega) (by omega),bs,cs,List.take_succ_eq_append_getElem hi,List.getD_eq_getElem?_getD,List.getElem?_eq_getElem hi]
  rfl) (by
  unfold zK1
  simp only
  rw [xD,zF,List.take_length])
 rw [show ((0:Nat):Int) = 0 from rfl,List.take_zero] at this
 rw [this,bs]
theorem zNU {M:Mx} {d c m n:Nat} (hm:M.length = m) (hd:d ≤ m) (hmm:m ≤ 1000000) (hrow:∀ i,i < m → (M.getD i []).length = n) (hc:c < n) :
  ∃ t:Nat,d ≤ t ∧ t ≤ m ∧ zH (zGZ (M,(d:Int),(c:Int))) (d:Int) = some (t:Int) ∧ (∀ k,d ≤ k → k < t → ent M k c = 0) ∧ (t < m → ent M t c ≠ 0):=by
 have key:∀ k,k ≤ m - d → ∃ t:Nat,m - k ≤ t ∧ t ≤ m ∧ zH (zGZ (M,(d:Int),(c:Int))) ((m - k:Nat):Int) = some (t:Int) ∧ (∀ q,m - k ≤ q → q < t → ent M q c = 0) ∧ (t < m → ent M t c ≠ 0):=by
  intro k
  induction k with
  | zero =>
   intro _
   refine ⟨m,by omega,Nat.le_refl _,?_,fun q h1 h2 => by omega,fun h => by omega⟩
   rw [xG]
   unfold zGZ
   simp only
   rw [hm,show m - 0 = m from rfl,xD,zF]
  | succ k ih =>
   intro hk
   obtain ⟨t,h1,h2,h3,h4,h5⟩:=ih (by omega)
   have hlt:m - (k + 1) < m:=by omega
   by_cases hz:ent M (m - (k + 1)) c = 0
   ·refine ⟨t,by omega,h2,?_,fun q q1 q2 => ?_,h5⟩
    ·rw [xG]
     have e:zGZ (M,(d:Int),(c:Int)) ((m - (k + 1):Nat):Int) = some (.inl ((m - k:Nat):Int)):=by
      unfold zGZ
      simp only
      rw [hm,yQ hlt,zJ,yD [] (by omega),bs,yF (by rw [hrow _ hlt];exact hc),bs,zJU hz,zJ,zD (by omega) (by omega),bs,cs,show m - (k + 1) + 1 = m - k from by omega]
     rw [e];exact h3
    ·rcases Nat.lt_or_ge (m - (k + 1)) q with g | g
     ·exact h4 q (by omega) q2
     ·rw [show q = m - (k + 1) from by omega];exact hz
   ·refine ⟨m - (k + 1),Nat.le_refl _,by omega,?_,fun q q1 q2 => by omega,fun _ => hz⟩
    rw [xG]
    have e:zGZ (M,(d:Int),(c:Int)) ((m - (k + 1):Nat):Int) = some (.inr ((m - (k + 1):Nat):Int)):=by
     unfold zGZ
     simp only
     rw [hm,yQ hlt,zJ,yD [] (by omega),bs,yF (by rw [hrow _ hlt];exact hc),bs,zJV hz,zF]
    rw [e]
 obtain ⟨t,h1,h2,h3,h4,h5⟩:=key (m - d) (Nat.le_refl _)
 rw [show m - (m - d) = d from by omega] at h1 h3 h4
 exact ⟨t,h1,h2,h3,h4,h5⟩
section
variable {p:Int} (hp:Prime p) {n m:Nat} {M:Mx} {d c t:Nat}
 include hp
theorem zLv {F:Nat → List Int} {q:Int} {b:Bool} (hd:d < m) (hr:Row p n (F d)) (hn:n ≤ 1000000) (hq:0 ≤ q ∧ q ≤ p - 1) {v:List Int} (hv:v.length = n) {s:Mx × Int × Int} (hs:s.2.1 = (d:Int)) :
  zH (zK2 p s (q,b) v) (mkR m F,0) = some (mkR m fun i => if i = d then mkv n fun j => (at0 (F d) j * q) % p else F i):=by
 have h7:=hp.pos
 have:=zO (body:=zK2 p s (q,b) v) (r:=mkR m fun i => if i = d then mkv n fun j => (at0 (F d) j * q) % p else F i) (fun k => (mkR m fun i => if i = d then mkv n (fun j => if j < k then (at0 (F d) j * q) % p else at0 (F d) j) else F i,(k:Int))) n (fun k hk => by
  have a1:=hr.2 k hk
  have a2:=zBb hp (k:=q) ⟨by omega,by omega⟩ a1
  have a3:=Int.mul_nonneg a1.1 hq.1
  rw [Int.mul_comm] at a2
  unfold zK2
  simp only
  rw [hv,yQ hk,zJ,hs,zI4 hd]
  simp only [bs,if_true]
  rw [yF (by rw [zZ];exact hk),yE hk,if_neg (by omega)]
  simp only [bs]
  rw [zD (by omega) (by omega)]
  simp only [bs,uQ]
  rw [if_neg (by omega)]
  simp only [bs]
  rw [Int.tmod_eq_emod_of_nonneg a3,zD (by omega) (by omega)]
  simp only [bs,Int.toNat_natCast,cs]
  rw [zFd]
  congr 3
  refine tP fun i _ => ?_
  by_cases hi:i = d
  ·rw [if_pos hi,if_pos hi,qO]
   refine zY fun j _ => ?_
   by_cases hj:j = k
   ·subst hj;rw [if_pos rfl,if_pos (by omega)]
   ·rw [if_neg hj]
    by_cases hj2:j < k
    ·rw [if_pos hj2,if_pos (by omega)]
    ·rw [if_neg hj2,if_neg (by omega)]
  ·rw [if_neg hi,if_neg hi,if_neg hi]) (by
  unfold zK2
  simp only
  rw [hv,xD,zF]
  congr 2
  refine tP fun i _ => ?_
  split
  ·exact zY fun j hj => by rw [if_pos hj]
  ·rfl)
 rw [show ((0:Nat):Int) = 0 from rfl] at this
 rw [← this]
 congr 2
 refine tP fun i _ => ?_
 split
 ·rename_i e;subst e
  conv => lhs;rw [vJ hr.1]
  exact zY fun j _ => by rw [if_neg (by omega)]
 ·rfl
theorem zLw {F:Nat → List Int} (hd:d < m) (hc:c < n) (hr:∀ i,i < m → Row p n (F i)) (hn:n ≤ 1000000) (hm:m ≤ 1000000) {r21:Mx} (hl:r21.length = m) {s:Mx × Int × Int} (hs:s.2.1 = (d:Int)) (hs2:s.2.2 = (c:Int)) :
  zH (zLV p s r21) (mkR m F,0) = some (mkR m fun i => if i = d then F d else wY p n (F i) (0 - at0 (F i) c) (F d)):=by
 have h7:=hp.pos
 have:=zO (body:=zLV p s r21) (r:=mkR m fun i => if i = d then F d else wY p n (F i) (0 - at0 (F i) c) (F d)) (fun k => (mkR m fun i => if i < k ∧ i ≠ d then wY p n (F i) (0 - at0 (F i) c) (F d) else F i,(k:Int))) m (fun k hk => by
  have a1:=(hr k hk).2 c hc
  unfold zLV
  simp only
  rw [hl,yQ hk,zJ,hs,hs2]
  by_cases hkd:k = d
  ·subst hkd
   rw [jP rfl,zF,zD (by omega) (by omega),bs,cs]
   congr 3
   refine tP fun i _ => ?_
   by_cases hi:i = k
   ·subst hi;rw [if_neg (by omega),if_neg (by omega)]
   ·by_cases hi2:i < k
    ·rw [if_pos ⟨hi2,hi⟩,if_pos ⟨by omega,hi⟩]
    ·rw [if_neg (by omega),if_neg (by omega)]
  ·rw [qA (by omega),zJ,zI4 hk,zI4 hd]
   simp only [bs,ne_eq,not_true_eq_false,and_false,if_false,Nat.lt_irrefl,false_and]
   rw [yF (by rw [(hr k hk).1];exact hc)]
   simp only [bs]
   rw [zD (by omega) (by omega)]
   simp only [bs]
   rw [qI hp (hr k hk) (hr d hd) (by omega) hn,bs,zD (by omega) (by omega)]
   simp only [bs,Int.toNat_natCast,cs]
   rw [zFd]
   congr 3
   refine tP fun i _ => ?_
   by_cases hi:i = k
   ·subst hi;rw [if_pos rfl,if_pos ⟨by omega,hkd⟩]
   ·rw [if_neg hi]
    by_cases hi2:i < k ∧ ¬ i = d
    ·rw [if_pos hi2,if_pos ⟨by omega,hi2.2⟩]
    ·rw [if_neg hi2,if_neg (by omega)]) (by
  unfold zLV
  simp only
  rw [hl,xD,zF]
  congr 2
  refine tP fun i hi => ?_
  by_cases hid:i = d
  ·rw [if_pos hid,if_neg (by omega),hid]
  ·rw [if_neg hid,if_pos ⟨hi,hid⟩])
 rw [show ((0:Nat):Int) = 0 from rfl] at this
 rw [← this]
 congr 2
end
end Go.Pl
