/- The program and the reference count the same classes of complements, for all arguments (FnExactCountComplementClasses). This file is a part of the proof. -/
import Derived.Test.YtkifphhpbcgieabGreatAbB
import Derived.Test.YtkifphhpbcgieabGreatWF
namespace Go.Pc
abbrev Vec:=List Int
structure Lvl where
 o:Int
 w:Vec
 cs:List Vec
abbrev Pcp:=List Lvl
def zeros (n:Nat):Vec:=List.replicate n 0
def iter {α:Type}:Nat → (α → α) → α → α
 | 0,_,x => x
 | n + 1,f,x => iter n f (f x)
theorem vD {α:Type} (f:α → α):∀ (n:Nat) (x:α),iter (n + 1) f x = f (iter n f x)
 | 0,_ => rfl
 | n + 1,x => by rw [iter,vD f n (f x)];rfl
theorem zDt {α:Type} (f:α → α) (a:Nat):∀ (b:Nat) (x:α),iter (a + b) f x = iter a f (iter b f x)
 | 0,_ => rfl
 | b + 1,x => by
  show iter (a + b) f (f x) = _
  rw [zDt f a b (f x)];rfl
def img {α:Type} (m:α → α → α):List α → Vec → α → α
 | c :: cs,x :: xs,acc => img m cs xs (iter x.toNat (fun v => m v c) acc)
 | _,_,acc => acc
def V:Pcp → Vec → Prop
 | [],v => v = []
 | l :: P,v => match v with
  | [] => False
  | a :: x => (0 ≤ a ∧ a < l.o) ∧ V P x
def mul:Pcp → Vec → Vec → Vec
 | l :: P,a :: x,b :: y =>
  let r:=mul P (iter b.toNat (fun v => img (mul P) l.cs v (zeros P.length)) x) y
  if a + b ≥ l.o then (a + b - l.o) :: mul P l.w r else (a + b) :: r
 | _,_,_ => []
def Ok:Pcp → Prop
 | [] => True
 | l :: P => 1 < l.o ∧ V P l.w ∧ l.cs.length = P.length ∧ (∀ c ∈ l.cs,V P c) ∧ Ok P
structure Mon {α:Type} (S:α → Prop) (m:α → α → α) (e:α):Prop where
 cl:∀ {a b},S a → S b → S (m a b)
 ein:S e
 assoc:∀ {a b c},S a → S b → S c → m (m a b) c = m a (m b c)
 onel:∀ {a},S a → m e a = a
 oner:∀ {a},S a → m a e = a
structure Grp {α:Type} (S:α → Prop) (m:α → α → α) (e:α):Prop extends Mon S m e where
 inv:∀ {a},S a → ∃ b,S b ∧ m a b = e
theorem Grp.invl {α:Type} {S:α → Prop} {m:α → α → α} {e:α} (h:Grp S m e) {a:α} (ha:S a):∃ b,S b ∧ m a b = e ∧ m b a = e:=by
 obtain ⟨b,hb,h1⟩:=h.inv ha
 obtain ⟨c,hc,h2⟩:=h.inv hb
 refine ⟨b,hb,h1,?_⟩
 have:a = c:=by
  rw [← h.oner ha,← h2,← h.assoc ha hb hc,h1,h.onel hc]
 rw [this];exact h2
theorem Grp.cancel_l {α:Type} {S:α → Prop} {m:α → α → α} {e:α} (h:Grp S m e) {a b c:α} (ha:S a) (hb:S b) (hc:S c) (hh:m a b = m a c):b = c:=by
 obtain ⟨d,hd,_,h2⟩:=h.invl ha
 rw [← h.onel hb,← h.onel hc,← h2,h.assoc hd ha hb,h.assoc hd ha hc,hh]
section
variable {α:Type} {S:α → Prop} {m:α → α → α} {e:α}
def pw (m:α → α → α) (e:α) (x:α) (k:Nat):α:=iter k (fun v => m v x) e
theorem uL (h:Mon S m e) {x:α} (hx:S x):∀ k,S (pw m e x k)
 | 0 => h.ein
 | k + 1 => by rw [pw,vD];exact h.cl (uL h hx k) hx
theorem wV {f:α → α} (hf:∀ a,S a → S (f a)):∀ (k:Nat) {x:α},S x → S (iter k f x)
 | 0,_,hx => hx
 | k + 1,_,hx => wV hf k (hf _ hx)
theorem zDu (h:Mon S m e) {x a:α} (hx:S x) (ha:S a):∀ k,iter k (fun v => m v x) a = m a (pw m e x k)
 | 0 => (h.oner ha).symm
 | k + 1 => by
  rw [vD,zDu h hx ha k]
  show _ = m a (iter (k + 1) (fun v => m v x) e)
  rw [vD]
  exact h.assoc ha (uL h hx k) hx
theorem zFU (h:Mon S m e) {x:α} (hx:S x) (a b:Nat):pw m e x (a + b) = m (pw m e x a) (pw m e x b):=by
 rw [Nat.add_comm,pw,zDt,← zDu h hx (uL h hx a) b];rfl
theorem zPG (h:Mon S m e) {x:α} (hx:S x):pw m e x 1 = x:=h.onel hx
theorem zPH (h:Mon S m e) {x:α} (hx:S x) (k:Nat):pw m e x (k + 1) = m x (pw m e x k):=by
 rw [Nat.add_comm,zFU h hx 1 k,zPG h hx]
theorem sP (h:∀ {a b},S a → S b → S (m a b)):∀ (cs:List α) (x:Vec) {a:α},(∀ c ∈ cs,S c) → S a → S (img m cs x a)
 | c :: cs,x :: xs,_,hc,ha => by
  simp only [img]
  exact sP h cs xs (fun c h => hc c (by simp [h])) (wV (fun a ha => h ha (hc c (by simp))) _ ha)
 | [],_,_,_,ha => by simpa [img] using ha
 | _ :: _,[],_,_,ha => by simpa [img] using ha
theorem zEf (h:Mon S m e) (cs:List α) (x:Vec) {a:α} (hc:∀ c ∈ cs,S c) (ha:S a):S (img m cs x a):=sP h.cl cs x hc ha
theorem zDv (h:Mon S m e):∀ (cs:List α) (x:Vec) {a:α},(∀ c ∈ cs,S c) → S a → img m cs x a = m a (img m cs x e)
 | c :: cs,x :: xs,a,hc,ha => by
  have h1:S c:=hc c (by simp)
  have h2:∀ c ∈ cs,S c:=fun c h => hc c (by simp [h])
  simp only [img]
  rw [zDu h h1 ha,zDv h cs xs h2 (h.cl ha (uL h h1 _)),zDu h h1 h.ein,zDv h cs xs h2 (h.cl h.ein (uL h h1 _)),h.onel (uL h h1 _),
   h.assoc ha (uL h h1 _) (zEf h cs xs h2 h.ein)]
 | [],_,a,_,ha => by simp [img,h.oner ha]
 | _ :: _,[],a,_,ha => by simp [img,h.oner ha]
theorem tT (h:Mon S m e) {c:α} {cs:List α} {x:Int} {xs:Vec} (hc:S c) (hcs:∀ c ∈ cs,S c):img m (c :: cs) (x :: xs) e = m (pw m e c x.toNat) (img m cs xs e):=by
 simp only [img]
 rw [zDv h cs xs hcs (wV (fun a ha => h.cl ha hc) _ h.ein)]
 rfl
theorem zAF (m:α → α → α):∀ (cs:List α) (n:Nat) (a:α),img m cs (zeros n) a = a
 | [],_,_ => by simp [img]
 | _ :: _,0,_ => by simp [zeros,img]
 | c :: cs,n + 1,a => by
  simp only [zeros,List.replicate_succ,img,Int.toNat_zero,iter]
  exact zAF m cs n a
theorem zFV (h:Mon S m e) {g:α} (hg:S g):∀ (cs ds:List α) (x:Vec),(∀ c ∈ cs,S c) → (∀ c ∈ ds,S c) → cs.length = ds.length → (∀ (k:Nat) c d,cs[k]? = some c → ds[k]? = some d → m c g = m g d) → m (img m cs x e) g = m g (img m ds x e)
 | [],[],x,_,_,_,_ => by simp [img,h.onel hg,h.oner hg]
 | c :: cs,d :: ds,[],_,_,_,_ => by simp [img,h.onel hg,h.oner hg]
 | c :: cs,d :: ds,x :: xs,hc,hd,hl,hp => by
  have hc0:S c:=hc c (by simp)
  have hd0:S d:=hd d (by simp)
  have hcs:∀ c ∈ cs,S c:=fun c h => hc c (by simp [h])
  have hds:∀ c ∈ ds,S c:=fun c h => hd c (by simp [h])
  have key:∀ k,m (pw m e c k) g = m g (pw m e d k):=by
   intro k
   induction k with
   | zero => simp [pw,iter,h.onel hg,h.oner hg]
   | succ k ih =>
    have h0:m c g = m g d:=hp 0 c d rfl rfl
    rw [pw,vD,pw,vD]
    show m (m (pw m e c k) c) g = m g (m (pw m e d k) d)
    rw [h.assoc (uL h hc0 k) hc0 hg,h0,← h.assoc (uL h hc0 k) hg hd0,ih,h.assoc hg (uL h hd0 k) hd0]
  rw [tT h hc0 hcs,tT h hd0 hds,h.assoc (uL h hc0 _) (zEf h _ _ hcs h.ein) hg,zFV h hg cs ds xs hcs hds (by simpa using hl) (fun k c d h1 h2 => hp (k + 1) c d (by simpa using h1) (by simpa using h2)),
   ← h.assoc (uL h hc0 _) hg (zEf h _ _ hds h.ein),key,h.assoc hg (uL h hd0 _) (zEf h _ _ hds h.ein)]
theorem zMU {β:Type} {T:β → Prop} {n:β → β → β} {f:β} (h:Mon S m e) (h':Mon T n f) (φ:α → β) (hin:∀ a,S a → T (φ a)) (h1:φ e = f) (hm:∀ a b,S a → S b → φ (m a b) = n (φ a) (φ b)):∀ (cs:List α) (x:Vec),(∀ c ∈ cs,S c) → φ (img m cs x e) = img n (cs.map φ) x f
 | [],_,_ => by simp [img,h1]
 | c :: cs,[],_ => by simp [img,h1]
 | c :: cs,x :: xs,hc => by
  have hc0:S c:=hc c (by simp)
  have hcs:∀ c ∈ cs,S c:=fun c h => hc c (by simp [h])
  have key:∀ k,φ (pw m e c k) = pw n f (φ c) k:=by
   intro k
   induction k with
   | zero => simp [pw,iter,h1]
   | succ k ih =>
    rw [pw,vD,pw,vD]
    show φ (m (pw m e c k) c) = n (pw n f (φ c) k) (φ c)
    rw [hm _ _ (uL h hc0 k) hc0,ih]
  rw [tT h hc0 hcs,List.map_cons,tT h' (hin c hc0) (by simp only [List.mem_map];rintro _ ⟨c,hc',rfl⟩;exact hin c (hcs c hc')),hm _ _ (uL h hc0 _) (zEf h _ _ hcs h.ein),key,zMU h h' φ hin h1 hm cs xs hcs]
end
theorem wG:∀ {P:Pcp},Ok P → V P (zeros P.length)
 | [],_ => rfl
 | l :: P,h => by
  simp only [Ok] at h
  simp only [List.length_cons,zeros,List.replicate_succ,V]
  exact ⟨by omega,wG h.2.2.2.2⟩
theorem xI:∀ {P:Pcp},Ok P → ∀ {x y:Vec},V P x → V P y → V P (mul P x y)
 | [],_,_,_,hx,hy => by simp [mul,V]
 | l :: P,h,[],_,hx,_ => by simp [V] at hx
 | l :: P,h,_ :: _,[],_,hy => by simp [V] at hy
 | l :: P,h,a :: x,b :: y,hx,hy => by
  simp only [Ok] at h
  simp only [V] at hx hy
  have h1:∀ v,V P v → V P (img (mul P) l.cs v (zeros P.length)):=fun v hv => sP (xI h.2.2.2.2) l.cs v h.2.2.2.1 (wG h.2.2.2.2)
  have h2:=xI h.2.2.2.2 (wV h1 b.toNat hx.2) hy.2
  simp only [mul]
  split
  ·exact ⟨by omega,xI h.2.2.2.2 h.2.1 h2⟩
  ·exact ⟨by omega,h2⟩
def Rel {α:Type} (m:α → α → α) (e:α):Pcp → List α → Prop
 | [],s => s = []
 | l :: P,s => match s with
  | [] => False
  | g :: s => pw m e g l.o.toNat = img m s l.w e ∧ (∀ (k:Nat) c d,s[k]? = some c → l.cs[k]? = some d → m c g = m g (img m s d e)) ∧ Rel m e P s
section
variable {α:Type} {S:α → Prop} {m:α → α → α} {e:α}
theorem zXb (h:Mon S m e):∀ (P:Pcp) (s:List α),Ok P → (∀ g ∈ s,S g) → Rel m e P s → ∀ x y,V P x → V P y → img m s (mul P x y) e = m (img m s x e) (img m s y e)
 | [],s,_,_,hr,x,y,hx,hy => by
  simp only [Rel] at hr
  subst hr
  simp [img,h.onel h.ein]
 | l :: P,[],_,_,hr,_,_,_,_ => by simp [Rel] at hr
 | l :: P,g :: s,_,_,_,[],_,hx,_ => by simp [V] at hx
 | l :: P,g :: s,_,_,_,_ :: _,[],_,hy => by simp [V] at hy
 | l :: P,g :: s,hk,hs,hr,a :: x,b :: y,hx,hy => by
  simp only [Ok] at hk
  simp only [Rel] at hr
  simp only [V] at hx hy
  obtain ⟨ho,hw,hcl,hcs,hkP⟩:=hk
  obtain ⟨hr1,hr2,hr3⟩:=hr
  have hg:S g:=hs g (by simp)
  have hss:∀ c ∈ s,S c:=fun c hc => hs c (by simp [hc])
  have hlen:s.length = P.length:=by
   clear hr1 hr2 hx hy hw hcl hcs hs hss
   induction P generalizing s with
   | nil => simp only [Rel] at hr3;simp [hr3]
   | cons l P ih =>
    cases s with
    | nil => simp [Rel] at hr3
    | cons c s => simp only [Rel] at hr3;simp only [Ok] at hkP;simp [ih s hkP.2.2.2.2 hr3.2.2]
  have ih:=zXb h P s hkP hss hr3
  have hφ:∀ v,S (img m s v e):=fun v => zEf h s v hss h.ein
  have hmP:∀ {a b},V P a → V P b → V P (mul P a b):=xI hkP
  have hσin:∀ v,V P v → V P (img (mul P) l.cs v (zeros P.length)):=fun v hv => sP hmP l.cs v hcs (wG hkP)
  have hσ:∀ v,V P v → m (img m s v e) g = m g (img m s (img (mul P) l.cs v (zeros P.length)) e):=by
   intro v hv
   have key:∀ (cs:List Vec) (v:Vec) (acc:Vec),(∀ c ∈ cs,V P c) → V P acc → img m s (img (mul P) cs v acc) e = img m (cs.map fun c => img m s c e) v (img m s acc e):=by
    intro cs
    induction cs with
    | nil => intro v acc _ _;simp [img]
    | cons c cs ihc =>
     intro v acc hc hacc
     cases v with
     | nil => simp [img]
     | cons z v =>
      have hc0:V P c:=hc c (by simp)
      have it:∀ k acc,V P acc → img m s (iter k (fun v => mul P v c) acc) e = iter k (fun v => m v (img m s c e)) (img m s acc e):=by
       intro k
       induction k with
       | zero => intro acc _;rfl
       | succ k ihk =>
        intro acc hacc
        simp only [iter]
        rw [ihk _ (hmP hacc hc0),ih _ _ hacc hc0]
      simp only [img,List.map_cons]
      rw [ihc v _ (fun c h => hc c (by simp [h])) (wV (fun a ha => hmP ha hc0) _ hacc),it _ _ hacc]
   rw [key l.cs v (zeros P.length) hcs (wG hkP),zAF]
   refine zFV h hg s _ v hss (by simp only [List.mem_map];rintro _ ⟨c,_,rfl⟩;exact hφ c) (by simp [hlen,hcl]) ?_
   intro k c d hc hd
   simp only [List.getElem?_map,Option.map_eq_some_iff] at hd
   obtain ⟨d',hd',rfl⟩:=hd
   exact hr2 k c d' hc hd'
  have hσk:∀ k v,V P v → m (img m s v e) (pw m e g k) = m (pw m e g k) (img m s (iter k (fun v => img (mul P) l.cs v (zeros P.length)) v) e):=by
   intro k
   induction k with
   | zero => intro v _;simp [pw,iter,h.onel (hφ v),h.oner (hφ v)]
   | succ k ihk =>
    intro v hv
    rw [zPH h hg,← h.assoc (hφ v) hg (uL h hg k),hσ v hv,h.assoc hg (hφ _) (uL h hg k),ihk _ (hσin v hv),← h.assoc hg (uL h hg k) (hφ _)]
    rfl
  have hpa:=uL h hg a.toNat
  have hpb:=uL h hg b.toNat
  have hit:V P (iter b.toNat (fun v => img (mul P) l.cs v (zeros P.length)) x):=wV hσin _ hx.2
  have hmain:m (img m (g :: s) (a :: x) e) (img m (g :: s) (b :: y) e) = m (pw m e g (a.toNat + b.toNat)) (img m s (mul P (iter b.toNat (fun v => img (mul P) l.cs v (zeros P.length)) x) y) e):=by
   rw [tT h hg hss,tT h hg hss,h.assoc hpa (hφ x) (h.cl hpb (hφ y)),← h.assoc (hφ x) hpb (hφ y),hσk _ _ hx.2,h.assoc hpb (hφ _) (hφ y),← ih _ _ hit hy.2,← h.assoc hpa hpb (hφ _),zFU h hg]
  rw [hmain]
  simp only [mul]
  split
  ·rename_i hge
   rw [tT h hg hss,ih _ _ hw (hmP hit hy.2),← hr1,← h.assoc (uL h hg _) (uL h hg _) (hφ _),← zFU h hg]
   congr 2
   omega
  ·rw [tT h hg hss]
   congr 2
   omega
end
def wI (n j:Nat):Vec:=(zeros n).set j 1
def sig (P:Pcp) (l:Lvl) (v:Vec):Vec:=img (mul P) l.cs v (zeros P.length)
def wY:Pcp → Prop
 | [] => True
 | l :: P => wY P ∧ Rel (mul P) (zeros P.length) P l.cs ∧ sig P l l.w = l.w ∧ ∀ j,j < P.length → mul P l.w (iter l.o.toNat (sig P l) (wI P.length j)) = mul P (wI P.length j) l.w
theorem zHy (n:Nat):wI (n + 1) 0 = 1 :: zeros n:=rfl
theorem zNG (n j:Nat):wI (n + 1) (j + 1) = 0 :: wI n j:=rfl
def xN (n:Nat):List Vec:=(List.range n).map (wI n)
theorem zLm (n:Nat):xN (n + 1) = (1 :: zeros n) :: (xN n).map (0 :: ·):=by
 simp only [xN,List.range_succ_eq_map,List.map_cons,List.map_map,zHy]
 congr 1
theorem zCP:∀ {P:Pcp},Ok P → ∀ {j:Nat},j < P.length → V P (wI P.length j)
 | [],_,_,hj => by simp at hj
 | l :: P,h,0,_ => by
  simp only [Ok] at h
  rw [List.length_cons,zHy];simp only [V];exact ⟨by omega,wG h.2.2.2.2⟩
 | l :: P,h,j + 1,hj => by
  simp only [Ok] at h
  rw [List.length_cons,zNG];simp only [V];exact ⟨by omega,zCP h.2.2.2.2 (by simpa using hj)⟩
theorem zEg {l:Lvl} {P:Pcp} (h:Ok (l :: P)) {v:Vec} (_hv:V P v):V P (sig P l v):=by
 simp only [Ok] at h
 exact sP (xI h.2.2.2.2) l.cs v h.2.2.2.1 (wG h.2.2.2.2)
theorem yR (l:Lvl) (P:Pcp) (a b:Int) (x y:Vec):mul (l :: P) (a :: x) (b :: y) = if a + b ≥ l.o then (a + b - l.o) :: mul P l.w (mul P (iter b.toNat (sig P l) x) y) else (a + b) :: mul P (iter b.toNat (sig P l) x) y:=rfl
theorem zNH {n k:Nat} {c:Vec} (h:(xN n)[k]? = some c):k < n ∧ c = wI n k:=by
 simp only [xN,List.getElem?_map,Option.map_eq_some_iff] at h
 obtain ⟨j,hj,rfl⟩:=h
 obtain ⟨hk,rfl⟩:=List.getElem?_eq_some_iff.1 hj
 simp at hk
 exact ⟨hk,by simp⟩
theorem normal:∀ (P:Pcp),Ok P → (∀ Q,Q <:+ P → Mon (V Q) (mul Q) (zeros Q.length)) → ∀ x,V P x → img (mul P) (xN P.length) x (zeros P.length) = x
 | [],_,_,x,hx => by simp only [V] at hx;subst hx;simp [xN,img,zeros]
 | l :: P,_,_,[],hx => by simp [V] at hx
 | l :: P,h,hM,a :: x,hx => by
  have hMl:=hM (l :: P) (List.suffix_refl _)
  have hMP:=hM P (List.suffix_cons _ _)
  have h':=h
  simp only [Ok] at h
  simp only [V] at hx
  rw [List.length_cons,zLm]
  have hz:V P (zeros P.length):=wG h.2.2.2.2
  have hu0:V (l :: P) (1 :: zeros P.length):=by simp only [V];exact ⟨by omega,hz⟩
  have hus:∀ c ∈ (xN P.length).map (0 :: ·),V (l :: P) c:=by
   intro c hc
   simp only [xN,List.map_map,List.mem_map,List.mem_range] at hc
   obtain ⟨j,hj,rfl⟩:=hc
   simp only [Function.comp,V]
   exact ⟨by omega,zCP h.2.2.2.2 hj⟩
  have hzl:V (l :: P) (zeros (P.length + 1)):=wG (P:=l :: P) h'
  rw [show zeros (P.length + 1) = zeros (l :: P).length from rfl]
  rw [tT hMl hu0 hus]
  have sz:∀ k:Nat,iter k (sig P l) (zeros P.length) = zeros P.length:=by
   intro k
   induction k with
   | zero => rfl
   | succ k ih => simp only [iter];rw [show sig P l (zeros P.length) = zeros P.length from zAF _ _ _ _];exact ih
  have h1:∀ k:Nat,(k:Int) < l.o → pw (mul (l :: P)) (zeros (l :: P).length) (1 :: zeros P.length) k = (k:Int) :: zeros P.length:=by
   intro k
   induction k with
   | zero => intro _;rfl
   | succ k ih =>
    intro hk
    rw [pw,vD]
    show mul (l :: P) (pw (mul (l :: P)) (zeros (l :: P).length) (1 :: zeros P.length) k) (1 :: zeros P.length) = _
    rw [ih (by omega),yR,if_neg (by omega)]
    rw [sz,hMP.onel hz]
    rfl
  have h2:∀ (cs:List Vec) (y acc:Vec),(∀ c ∈ cs,V P c) → V P acc → img (mul (l :: P)) (cs.map (0 :: ·)) y (0 :: acc) = 0 :: img (mul P) cs y acc:=by
   intro cs
   induction cs with
   | nil => intro y acc _ _;simp [img]
   | cons c cs ih =>
    intro y acc hc hacc
    cases y with
    | nil => simp [img]
    | cons z y =>
     have hc0:V P c:=hc c (by simp)
     have it:∀ (k:Nat) (acc:Vec),V P acc → iter k (fun v => mul (l :: P) v (0 :: c)) (0 :: acc) = 0 :: iter k (fun v => mul P v c) acc:=by
      intro k
      induction k with
      | zero => intro _ _;rfl
      | succ k ihk =>
       intro acc hacc
       simp only [iter]
       rw [yR,if_neg (by omega)]
       exact ihk _ (xI h.2.2.2.2 hacc hc0)
     simp only [List.map_cons,img]
     rw [it _ _ hacc,ih _ _ (fun c h => hc c (by simp [h])) (wV (fun a ha => xI h.2.2.2.2 ha hc0) _ hacc)]
  have hun:∀ c ∈ xN P.length,V P c:=by
   intro c hc
   simp only [xN,List.mem_map,List.mem_range] at hc
   obtain ⟨j,hj,rfl⟩:=hc
   exact zCP h.2.2.2.2 hj
  rw [h1 a.toNat (by omega),show zeros (l :: P).length = 0 :: zeros P.length from rfl,h2 _ _ _ hun hz,normal P h.2.2.2.2 (fun Q hQ => hM Q (hQ.trans (List.suffix_cons _ _))) x hx.2,yR,if_neg (by omega)]
  simp only [Int.toNat_zero,iter]
  rw [hMP.onel hx.2]
  congr 1
  omega
theorem zMV:∀ (P:Pcp),Ok P → wY P → Grp (V P) (mul P) (zeros P.length)
 | [],_,_ => by
  refine ⟨⟨fun _ _ => rfl,rfl,fun _ _ _ => rfl,?_,?_⟩,fun ha => ⟨[],rfl,rfl⟩⟩ <;>
  ·intro a ha
   simp only [V] at ha;subst ha;rfl
 | l :: P,h,hc => by
  have h':=h
  simp only [Ok] at h
  simp only [wY] at hc
  obtain ⟨ho,hw,hcl,hcs,hP⟩:=h
  obtain ⟨hcP,hrel,hfix,hinn⟩:=hc
  have N:=zMV P hP hcP
  have hM:∀ Q,Q <:+ P → Mon (V Q) (mul Q) (zeros Q.length):=by
   intro Q hQ
   obtain ⟨t,ht⟩:=hQ
   have:Ok Q ∧ wY Q:=by
    clear N hw hcl hcs hrel hfix hinn h'
    induction t generalizing P with
    | nil => simp at ht;subst ht;exact ⟨hP,hcP⟩
    | cons a t ih =>
     simp at ht;subst ht
     simp only [Ok] at hP
     simp only [wY] at hcP
     exact ih (t ++ Q) hP.2.2.2.2 hcP.1 rfl
   have hlt:SizeOf.sizeOf Q ≤ SizeOf.sizeOf P:=by
    rw [← ht]
    clear N hw hcl hcs hrel hfix hinn h' hP hcP ht this
    induction t with
    | nil => simp
    | cons a t ih => simp only [List.cons_append,List.cons.sizeOf_spec];omega
   exact (zMV Q this.1 this.2).toMon
  have hz:V P (zeros P.length):=wG hP
  have σin:∀ v,V P v → V P (sig P l v):=fun _ hv => zEg h' hv
  have σhom:∀ x y,V P x → V P y → sig P l (mul P x y) = mul P (sig P l x) (sig P l y):=fun x y hx hy => zXb N.toMon P l.cs hP hcs hrel x y hx hy
  have σz:sig P l (zeros P.length) = zeros P.length:=zAF _ _ _ _
  have itin:∀ (k:Nat) v,V P v → V P (iter k (sig P l) v):=fun k v hv => wV σin k hv
  have ithom:∀ (k:Nat) x y,V P x → V P y → iter k (sig P l) (mul P x y) = mul P (iter k (sig P l) x) (iter k (sig P l) y):=by
   intro k
   induction k with
   | zero => intro _ _ _ _;rfl
   | succ k ih => intro x y hx hy;simp only [iter];rw [σhom x y hx hy,ih _ _ (σin x hx) (σin y hy)]
  have itz:∀ k:Nat,iter k (sig P l) (zeros P.length) = zeros P.length:=by
   intro k
   induction k with
   | zero => rfl
   | succ k ih => simp only [iter];rw [σz];exact ih
  have itw:∀ k:Nat,iter k (sig P l) l.w = l.w:=by
   intro k
   induction k with
   | zero => rfl
   | succ k ih => simp only [iter];rw [hfix];exact ih
  have hun:∀ c ∈ xN P.length,V P c:=by
   intro c hc
   simp only [xN,List.mem_map,List.mem_range] at hc
   obtain ⟨j,hj,rfl⟩:=hc
   exact zCP hP hj
  have inner:∀ x,V P x → mul P x l.w = mul P l.w (iter l.o.toNat (sig P l) x):=by
   intro x hx
   have hnf:=normal P hP hM x hx
   have hmap:=zMU N.toMon N.toMon (iter l.o.toNat (sig P l)) (fun a ha => itin _ a ha) (itz _) (fun a b ha hb => ithom _ a b ha hb) (xN P.length) x hun
   rw [← hnf,hmap]
   refine zFV N.toMon hw _ _ x hun (by simp only [List.mem_map];rintro _ ⟨c,hc,rfl⟩;exact itin _ c (hun c hc)) (by simp) ?_
   intro k c d hc hd
   rw [List.getElem?_map,Option.map_eq_some_iff] at hd
   obtain ⟨c',hc',rfl⟩:=hd
   rw [hc] at hc'
   simp at hc';subst hc'
   obtain ⟨hk,rfl⟩:=zNH hc
   exact (hinn k hk).symm
  have e:∀ (x y z:Vec) (b c:Int),V P x → V P y → V P z → 0 ≤ b → 0 ≤ c →
    mul P (iter c.toNat (sig P l) (mul P (iter b.toNat (sig P l) x) y)) z = mul P (iter (b + c).toNat (sig P l) x) (mul P (iter c.toNat (sig P l) y) z) ∧
    mul P (iter c.toNat (sig P l) (mul P l.w (mul P (iter b.toNat (sig P l) x) y))) z = mul P l.w (mul P (iter (b + c).toNat (sig P l) x) (mul P (iter c.toNat (sig P l) y) z)) ∧
    (l.o ≤ b + c → mul P (iter (b + c - l.o).toNat (sig P l) x) (mul P l.w (mul P (iter c.toNat (sig P l) y) z)) = mul P l.w (mul P (iter (b + c).toNat (sig P l) x) (mul P (iter c.toNat (sig P l) y) z))):=by
   intro x y z b c hx hy hz hb hcc
   have hbx:=itin b.toNat x hx
   have hcy:=itin c.toNat y hy
   have hbc:iter c.toNat (sig P l) (iter b.toNat (sig P l) x) = iter (b + c).toNat (sig P l) x:=by
    rw [← zDt];congr 1;omega
   have hbcx:=itin (b + c).toNat x hx
   have e1:mul P (iter c.toNat (sig P l) (mul P (iter b.toNat (sig P l) x) y)) z = mul P (iter (b + c).toNat (sig P l) x) (mul P (iter c.toNat (sig P l) y) z):=by
    rw [ithom _ _ _ hbx hy,hbc,N.assoc hbcx hcy hz]
   refine ⟨e1,?_,?_⟩
   ·rw [ithom _ _ _ hw (N.cl hbx hy),itw,N.assoc hw (itin _ _ (N.cl hbx hy)) hz,e1]
   ·intro hge
    have hcyz:=N.cl hcy hz
    rw [← N.assoc (itin _ x hx) hw hcyz,inner _ (itin _ x hx),← zDt,N.assoc hw (itin _ x hx) hcyz]
    congr 3
    omega
  refine ⟨⟨fun ha hb => xI h' ha hb,wG h',?_,?_,?_⟩,?_⟩
  ·intro A B C hA hB hC
   match A,B,C,hA,hB,hC with
   | a :: x,b :: y,c :: z,hA,hB,hC =>
    simp only [V] at hA hB hC
    obtain ⟨e1,e2,e3⟩:=e x y z b c hA.2 hB.2 hC.2 hB.1.1 hC.1.1
    by_cases c1:a + b ≥ l.o <;> by_cases c2:b + c ≥ l.o
    ·rw [yR,if_pos c1,yR l P b c,if_pos c2,yR,yR,e2,e3 c2]
     by_cases c3:a + b - l.o + c ≥ l.o
     ·rw [if_pos c3,if_pos (by omega)];congr 1;omega
     ·rw [if_neg c3,if_neg (by omega)];congr 1;omega
    ·rw [yR,if_pos c1,yR l P b c,if_neg c2,yR,yR,e2,if_neg (by omega),if_pos (by omega)]
     congr 1;omega
    ·rw [yR,if_neg c1,yR l P b c,if_pos c2,yR,yR,e1,e3 c2,if_pos (by omega),if_neg (by omega)]
     congr 1;omega
    ·rw [yR,if_neg c1,yR l P b c,if_neg c2,yR,yR,e1]
     by_cases c3:a + b + c ≥ l.o
     ·rw [if_pos c3,if_pos (by omega)];congr 1;omega
     ·rw [if_neg c3,if_neg (by omega)];congr 1;omega
  ·intro A hA
   match A,hA with
   | a :: x,hA =>
    simp only [V] at hA
    show mul (l :: P) (0 :: zeros P.length) (a :: x) = _
    rw [yR,if_neg (by omega),itz,N.onel hA.2,Int.zero_add]
  ·intro A hA
   match A,hA with
   | a :: x,hA =>
    simp only [V] at hA
    show mul (l :: P) (a :: x) (0 :: zeros P.length) = _
    rw [yR,if_neg (by omega)]
    simp only [Int.toNat_zero,iter]
    rw [N.oner hA.2,Int.add_zero]
  ·intro A hA
   match A,hA with
   | a :: x,hA =>
    simp only [V] at hA
    by_cases ha:a = 0
    ·obtain ⟨y,hy,h1⟩:=N.inv hA.2
     refine ⟨0 :: y,by simp only [V];exact ⟨by omega,hy⟩,?_⟩
     rw [yR,if_neg (by omega)]
     simp only [Int.toNat_zero,iter]
     rw [h1,ha];rfl
    ·have hx1:=itin (l.o - a).toNat x hA.2
     obtain ⟨y,hy,h1⟩:=N.inv (N.cl hw hx1)
     refine ⟨(l.o - a) :: y,by simp only [V];exact ⟨by omega,hy⟩,?_⟩
     rw [yR,if_pos (by omega),← N.assoc hw hx1 hy,h1,show a + (l.o - a) - l.o = 0 by omega]
     rfl
termination_by P => P
end Go.Pc

namespace Go.Pl
open Go Go.Ab
theorem bs {α β:Type} (x:α) (f:α → Option β):(some x).bind f = f x:=by simp only [Option.bind_some]
theorem zH {α:Type} (x y:α):cond true x y = x:=by simp only [cond_true]
theorem zF {α:Type} (x y:α):cond false x y = y:=by simp only [cond_false]
theorem zD {n:Int} (h1:-9223372036854775808 ≤ n) (h2:n ≤ 9223372036854775807):rng n = some n:=by
 unfold rng
 rw [if_pos]
 simp only [inR,Bool.and_eq_true,decide_eq_true_eq]
 omega
theorem wW {α:Type} (xs:List α) (i:Nat):ixO xs (i:Int) = xs[i]?:=by
 unfold ixO;rw [if_pos (by omega)];simp
theorem zBa {α:Type} {xs:List α} {i:Nat} (h:i < xs.length):ixO xs (i:Int) = some xs[i]:=by
 rw [wW];exact List.getElem?_eq_getElem h
theorem yN {n:Nat} (h:n ≤ 68719476736):yU (n:Int) = some n:=by
 unfold yU;rw [if_pos (by omega)];simp
theorem yD {α:Type} {xs ys:List α} (h:xs.length + ys.length ≤ 68719476736):xH xs ys = some (xs ++ ys):=by
 unfold xH;rw [if_pos h]
theorem zN {σ ρ:Type} {body:σ → Option (σ ⊕ ρ)} {r:ρ} (S:Nat → σ) (n:Nat) (h:∀ i,i < n → body (S i) = some (.inl (S (i + 1)))) (he:body (S n) = some (.inr r)):zG body (S 0) = some r:=by
 have key:∀ k i,i + k = n → zG body (S i) = some r:=by
  intro k
  induction k with
  | zero => intro i hi;rw [xC,show i = n from by omega,he]
  | succ k ih => intro i hi;rw [xC,h i (by omega)];exact ih (i + 1) (by omega)
 exact key n 0 (by omega)
theorem vO {σ ρ:Type} {body:σ → Option (σ ⊕ ρ)} {Q:ρ → Prop} (I:Nat → σ → Prop) (n:Nat) (h:∀ i s,i < n → I i s → (∃ s',body s = some (.inl s') ∧ I (i + 1) s') ∨ ∃ r,body s = some (.inr r) ∧ Q r)
  (he:∀ s,I n s → ∃ r,body s = some (.inr r) ∧ Q r) {s:σ} (h0:I 0 s):∃ r,zG body s = some r ∧ Q r:=by
 have key:∀ k i s,i + k = n → I i s → ∃ r,zG body s = some r ∧ Q r:=by
  intro k
  induction k with
  | zero =>
   intro i s hi hs
   obtain rfl:i = n:=by omega
   obtain ⟨r,h1,h2⟩:=he s hs
   exact ⟨r,by rw [xC,h1],h2⟩
  | succ k ih =>
   intro i s hi hs
   rcases h i s (by omega) hs with ⟨s',h1,h2⟩ | ⟨r,h1,h2⟩
   ·rw [xC,h1];exact ih (i + 1) s' (by omega) h2
   ·exact ⟨r,by rw [xC,h1],h2⟩
 exact key n 0 s (by omega) h0
def zMW {ρ:Type}:Option ρ → Unit ⊕ ρ
 | none => .inl ()
 | some r => .inr r
theorem cs (i:Nat):(i:Int) + 1 = ((i + 1:Nat):Int):=by omega
theorem zNI {ρ:Type} {body:Int → Option (Int ⊕ (Unit ⊕ ρ))} (n:Nat) (t:Nat → Option ρ) (i0:Nat) (hn:i0 ≤ n)
  (h:∀ i,i0 ≤ i → i < n → (∀ j,i0 ≤ j → j < i → t j = none) → body (i:Int) = some (match t i with | none => .inl ((i + 1:Nat):Int) | some r => .inr (.inr r)))
  (he:(∀ j,i0 ≤ j → j < n → t j = none) → body (n:Int) = some (.inr (.inl ()))) :
  zG body (i0:Int) = some (zMW ((List.range' i0 (n - i0)).findSome? t)):=by
 have key:∀ k i,i0 ≤ i → i + k = n → (∀ j,i0 ≤ j → j < i → t j = none) → zG body (i:Int) = some (zMW ((List.range' i k).findSome? t)):=by
  intro k
  induction k with
  | zero =>
   intro i hi hk hp
   obtain rfl:i = n:=by omega
   rw [xC,he hp];rfl
  | succ k ih =>
   intro i hi hk hp
   rw [xC,h i hi (by omega) hp,List.range'_succ,List.findSome?_cons]
   cases ht:t i with
   | some r => rfl
   | none =>
    simp only
    exact ih (i + 1) (by omega) (by omega) fun j h1 h2 => by
     rcases Nat.lt_or_ge j i with h3 | h3
     ·exact hp j h1 h3
     ·rw [show j = i from by omega];exact ht
 exact key (n - i0) i0 (Nat.le_refl _) (by omega) fun j h1 h2 => by omega
theorem zPI {n:Nat} {b:Nat → Bool}:zMW ((List.range' 0 n).findSome? (fun i => if b i then none else some false)) = if (List.range n).all b then .inl () else .inr false:=by
 have key:∀ l:List Nat,zMW (l.findSome? (fun i => if b i then none else some false)) = if l.all b then .inl () else .inr false:=by
  intro l
  induction l with
  | nil => rfl
  | cons x l ih =>
   rw [List.findSome?_cons,List.all_cons]
   cases hb:b x
   ·rfl
   ·simpa using ih
 rw [key,List.range_eq_range']
theorem zNJ {body:Int → Option (Int ⊕ (Unit ⊕ Bool))} (n:Nat) (b:Nat → Bool)
  (h:∀ i,i < n → (∀ j,j < i → b j = true) → body (i:Int) = some (if b i then .inl ((i + 1:Nat):Int) else .inr (.inr false)))
  (he:(∀ j,j < n → b j = true) → body (n:Int) = some (.inr (.inl ()))) :
  zG body 0 = some (if (List.range n).all b then .inl () else .inr false):=by
 have:=zNI (body:=body) n (fun i => if b i then none else some false) 0 (Nat.zero_le _) (fun i _ hi hp => by
  rw [h i hi fun j hj => by
   have:=hp j (Nat.zero_le _) hj
   split at this
   ·assumption
   ·cases this]
  cases b i <;> rfl) (fun hp => he fun j hj => by
   have:=hp j (Nat.zero_le _) hj
   split at this
   ·assumption
   ·cases this)
 rw [Nat.sub_zero] at this
 exact this.trans (congrArg some (zPI (n:=n) (b:=b)))
theorem zPJ {α:Type} {xs:List α} {z:α} {i:Nat} (h:i < xs.length):(xs.take i ++ List.replicate (xs.length - i) z).set i xs[i] = xs.take (i + 1) ++ List.replicate (xs.length - (i + 1)) z:=by
 have h1:(xs.take i).length = i:=by rw [List.length_take];omega
 rw [List.set_append_right _ _ (by omega),h1,Nat.sub_self,show xs.length - i = (xs.length - (i + 1)) + 1 from by omega,List.replicate_succ,List.set_cons_zero,List.take_succ_eq_append_getElem h]
 simp only [List.append_assoc,List.singleton_append]
theorem zIx {α:Type} {f:α → Option α} {body:List α × Int → Option ((List α × Int) ⊕ List α)} {x0:List α} {z:α}
  (hb:∀ s,body s = cond (decide (s.2 < (x0.length:Int))) ((ixO x0 s.2).bind fun v2 => (f v2).bind fun r3 => (ixO s.1 s.2).bind fun _ => (rng (s.2 + 1)).bind fun v5 => some (.inl (s.1.set s.2.toNat r3,v5))) (some (.inr s.1)))
  (hl:x0.length ≤ 68719476736) (hf:∀ x ∈ x0,f x = some x):zG body (List.replicate x0.length z,0) = some x0:=by
 have:=zN (body:=body) (r:=x0) (fun i => (x0.take i ++ List.replicate (x0.length - i) z,(i:Int))) x0.length (fun i hi => by
  rw [hb]
  simp only [decide_eq_true (show ((i:Int)) < (x0.length:Int) from by omega),zH]
  rw [zBa hi,wW]
  simp only [bs,hf _ (List.getElem_mem hi)]
  rw [List.getElem?_eq_getElem (by simp;omega),bs,zD (by omega) (by omega),bs]
  simp only [Int.toNat_natCast,zPJ hi,cs]) (by
  rw [hb]
  simp only [decide_eq_false (show ¬ ((x0.length:Int)) < (x0.length:Int) from by omega),zF,List.take_length,Nat.sub_self,List.replicate_zero,List.append_nil])
 simpa using this
theorem zS4 {α:Type} [BEq α] {t:α → α → Option Bool} {body:Int → Option (Int ⊕ (Unit ⊕ Bool))} {x y:List α}
  (hb:∀ i,body i = cond (decide (i < (x.length:Int))) ((ixO x i).bind fun v1 => (ixO y i).bind fun v2 => (t v1 v2).bind fun r3 => cond (!r3) (some (.inr (.inr false))) ((rng (i + 1)).bind fun v4 => some (.inl v4))) (some (.inr (.inl ()))))
  (hl:x.length ≤ 68719476736) (hxy:x.length = y.length) (ht:∀ u ∈ x,∀ v ∈ y,t u v = some (u == v)):zG body 0 = some (if x == y then .inl () else .inr false):=by
 have h:=zNJ (body:=body) x.length (fun i => match x[i]?,y[i]? with | some u,some v => u == v | _,_ => true) (fun i hi _ => by
  have hi':i < y.length:=by omega
  rw [hb]
  simp only [decide_eq_true (show ((i:Int)) < (x.length:Int) from by omega),zH]
  rw [zBa hi,zBa hi']
  simp only [bs,ht _ (List.getElem_mem hi) _ (List.getElem_mem hi'),List.getElem?_eq_getElem hi,List.getElem?_eq_getElem hi']
  cases x[i] == y[i]
  ·rfl
  ·simp only [Bool.not_true,zF,if_true]
   rw [zD (by omega) (by omega),cs];rfl) (fun _ => by
  rw [hb]
  simp only [decide_eq_false (show ¬ ((x.length:Int)) < (x.length:Int) from by omega),zF])
 rw [h]
 congr 2
 have key:∀ (x y:List α),x.length = y.length → ((List.range x.length).all (fun i => match x[i]?,y[i]? with | some u,some v => u == v | _,_ => true)) = (x == y):=by
  intro x
  induction x with
  | nil => intro y hy;cases y with | nil => rfl | cons _ _ => simp at hy
  | cons u x ih =>
   intro y hy
   cases y with
   | nil => simp at hy
   | cons v y =>
    rw [List.length_cons,List.range_succ_eq_map,List.all_cons,List.all_map]
    simp only [List.getElem?_cons_zero,Function.comp_def,List.getElem?_cons_succ]
    rw [ih y (by simpa using hy)]
    rfl
 rw [key x y hxy]
theorem zHz {α:Type} [BEq α] {t:α → α → Option Bool} {f:Option Bool} {body:Int → Option (Int ⊕ (Unit ⊕ Bool))} {x y:List α}
  (hf:f = cond ((x.length:Int) != (y.length:Int)) (some false) ((zG body 0).bind fun r => match r with | .inl _ => some true | .inr r => some r))
  (hb:∀ i,body i = cond (decide (i < (x.length:Int))) ((ixO x i).bind fun v1 => (ixO y i).bind fun v2 => (t v1 v2).bind fun r3 => cond (!r3) (some (.inr (.inr false))) ((rng (i + 1)).bind fun v4 => some (.inl v4))) (some (.inr (.inl ()))))
  (hl:x.length ≤ 68719476736) (ht:∀ u ∈ x,∀ v ∈ y,t u v = some (u == v)):f = some (x == y):=by
 rw [hf]
 by_cases hxy:x.length = y.length
 ·rw [zS4 hb hl hxy ht]
  have:((x.length:Int) != (y.length:Int)) = false:=by simp [hxy]
  rw [this]
  cases x == y <;> rfl
 ·have:((x.length:Int) != (y.length:Int)) = true:=by simp;omega
  rw [this]
  have h2:(x == y) = false:=by
   have key:∀ (x y:List α),x.length ≠ y.length → (x == y) = false:=by
    intro x
    induction x with
    | nil => intro y hy;cases y with | nil => simp at hy | cons _ _ => rfl
    | cons u x ih =>
     intro y hy
     cases y with
     | nil => rfl
     | cons v y =>
      show (u == v && x == y) = false
      rw [ih y (by simpa using hy),Bool.and_false]
   exact key x y hxy
  rw [h2];rfl
end Go.Pl

namespace Go.Pl
open Go Go.Ab
def sm {α:Type} (c:α → Nat):List α → Nat
 | [] => 0
 | x :: xs => c x + sm c xs
theorem zEh {α:Type} (c:α → Nat):∀ xs ys:List α,sm c (xs ++ ys) = sm c xs + sm c ys
 | [],ys => by simp [sm]
 | x :: xs,ys => by simp only [List.cons_append,sm,zEh c xs ys];omega
theorem zMX {α:Type} (c:α → Nat) {xs:List α} {i:Nat} (h:i < xs.length):sm c (xs.take (i + 1)) = sm c (xs.take i) + c xs[i]:=by
 rw [List.take_succ_eq_append_getElem h,zEh];simp [sm]
theorem zFW {α:Type} (c:α → Nat) (xs:List α) (i:Nat):sm c (xs.take i) ≤ sm c xs:=by
 have:=zEh c (xs.take i) (xs.drop i)
 rw [List.take_append_drop] at this;omega
theorem zPK {α:Type} (c:α → Nat) {xs:List α} {x:α} (h:x ∈ xs):c x ≤ sm c xs:=by
 obtain ⟨i,hi,rfl⟩:=List.mem_iff_getElem.1 h
 have:=zMX c hi
 have:=zFW c xs (i + 1)
 omega
def szR (c:Nat) (b:Int):Int:=if (c:Int) ≤ b then b - c else -1
theorem zUi {α:Type} {c:α → Nat} {t:α → Int → Option Int} {f:Option Int} {body:Int × Int → Option ((Int × Int) ⊕ (Int ⊕ Int))} {xs:List α} {b:Int}
  (hf:f = (rng (b - (xs.length:Int))).bind fun v1 => cond (decide (v1 < 0)) (some (-1)) ((zG body (v1,0)).bind fun r => match r with | .inl r => some r | .inr r => some r))
  (hb:∀ s,body s = cond (decide (s.2 < (xs.length:Int))) ((ixO xs s.2).bind fun v2 => (t v2 s.1).bind fun r3 => cond (decide (r3 < 0)) (some (.inr (.inr (-1)))) ((rng (s.2 + 1)).bind fun v4 => some (.inl (r3,v4)))) (some (.inr (.inl s.1))))
  (hl:xs.length ≤ 9223372036854775807) (b0:0 ≤ b) (b1:b ≤ 1048576) (ht:∀ x ∈ xs,∀ b',0 ≤ b' → b' ≤ 1048576 → t x b' = some (szR (c x) b')):f = some (szR (xs.length + sm c xs) b):=by
 rw [hf,zD (by omega) (by omega),bs]
 by_cases h0:b - (xs.length:Int) < 0
 ·rw [decide_eq_true h0,zH,szR,if_neg (by omega)]
 ·rw [decide_eq_false h0,zF]
  obtain ⟨r,h1,h2⟩:=vO (body:=body) (Q:=fun r => (match r with | .inl r => some r | .inr r => some r) = some (szR (xs.length + sm c xs) b)) (fun i s => s.2 = (i:Int) ∧ 0 ≤ s.1 ∧ s.1 = b - xs.length - sm c (xs.take i)) xs.length (fun i s hi ⟨e1,e2,e3⟩ => by
   rw [hb,e1,decide_eq_true (by omega),zH,zBa hi,bs,ht _ (List.getElem_mem hi) _ e2 (by omega),bs]
   have h3:=zMX c hi
   have h4:=zFW c xs (i + 1)
   unfold szR
   by_cases h5:(c xs[i]:Int) ≤ s.1
   ·rw [if_pos h5,decide_eq_false (by omega),zF,zD (by omega) (by omega),bs,cs]
    exact .inl ⟨_,rfl,rfl,by simp only;omega,by simp only;omega⟩
   ·rw [if_neg h5]
    refine .inr ⟨.inr (-1),rfl,?_⟩
    simp only
    rw [if_neg (by omega)]) (fun s ⟨e1,e2,e3⟩ => by
   rw [hb,e1,decide_eq_false (by omega),zF]
   rw [List.take_length] at e3
   refine ⟨_,rfl,?_⟩
   simp only
   rw [szR,if_pos (by omega),e3]
   congr 1;omega) (s:=(b - (xs.length:Int),0)) ⟨rfl,by simp only;omega,by simp [sm]⟩
  rw [h1,bs,h2]
end Go.Pl

namespace Go.Pl
open Go Go.Ab Go.Wk
abbrev VI (n:Int):Prop:=(Lit.int .i64 n).wf = true
abbrev VL {α:Type} (V:α → Prop) (xs:List α):Prop:=xs.length ≤ maxLen ∧ ∀ x ∈ xs,V x
abbrev c1 (x:List Int):Nat:=x.length
abbrev c2 (x:List (List Int)):Nat:=x.length + sm c1 x
abbrev c3 (x:List (List (List Int))):Nat:=x.length + sm c2 x
theorem zJ8 {x:List Int} {b:Int} (hl:x.length ≤ 9223372036854775807) (b0:0 ≤ b) (b1:b ≤ 1048576):zQE x b = some (szR (c1 x) b):=by
 unfold zQE szR
 rw [zD (by omega) (by omega),bs]
 by_cases h:(c1 x:Int) ≤ b
 ·rw [decide_eq_false (by simp only [c1] at h;omega),zF,if_pos h]
 ·rw [decide_eq_true (by simp only [c1] at h;omega),zH,if_neg h]
theorem zEi {x:List (List Int)} {b:Int} (h:VL (VL VI) x) (b0:0 ≤ b) (b1:b ≤ 1048576):zQF x b = some (szR (c2 x) b) :=
 zUi (c:=c1) rfl (fun _ => rfl) h.1 b0 b1 fun y hy _ h1 h2 => zJ8 (h.2 y hy).1 h1 h2
theorem zFX {x:List (List (List Int))} {b:Int} (h:VL (VL (VL VI)) x) (b0:0 ≤ b) (b1:b ≤ 1048576):zSU x b = some (szR (c3 x) b) :=
 zUi (c:=c2) rfl (fun _ => rfl) h.1 b0 b1 fun y hy _ h1 h2 => zEi (h.2 y hy) h1 h2
abbrev S1 (x:List Int):Prop:=c1 x ≤ 1048576
abbrev S2 (x:List (List Int)):Prop:=c2 x ≤ 1048576
abbrev S3 (x:List (List (List Int))):Prop:=c3 x ≤ 1048576
theorem S2.mem {x:List (List Int)} (h:S2 x) {y:List Int} (hy:y ∈ x):S1 y:=by
 have:=zPK c1 hy
 simp only [S2,S1,c2] at h ⊢;omega
theorem S3.mem {x:List (List (List Int))} (h:S3 x) {y:List (List Int)} (hy:y ∈ x):S2 y:=by
 have:=zPK c2 hy
 simp only [S3,S2,c3] at h ⊢;omega
theorem S1.len {x:List Int} (h:S1 x):x.length ≤ 1048576:=h
theorem S2.len {x:List (List Int)} (h:S2 x):x.length ≤ 1048576:=by simp only [S2,c2] at h;omega
theorem S3.len {x:List (List (List Int))} (h:S3 x):x.length ≤ 1048576:=by simp only [S3,c3] at h;omega
theorem zJ9 {x:List Int} (h:S1 x):zOh x = some x:=by
 unfold zOh
 rw [yN (Nat.le_trans h (by decide)),bs,zIx (body:=zQG x) (f:=some) (fun _ => rfl) (Nat.le_trans h (by decide)) (fun _ _ => rfl),bs]
theorem zEj {x:List (List Int)} (h:S2 x):f_R x = some x:=by
 unfold f_R
 rw [yN (Nat.le_trans h.len (by decide)),bs,zIx (body:=zVz x) (f:=zOh) (fun _ => rfl) (Nat.le_trans h.len (by decide)) (fun _ hx => zJ9 (h.mem hx)),bs]
theorem zFY {x:List (List (List Int))} (h:S3 x):zQI x = some x:=by
 unfold zQI
 rw [yN (Nat.le_trans h.len (by decide)),bs,zIx (body:=zQH x) (f:=f_R) (fun _ => rfl) (Nat.le_trans h.len (by decide)) (fun _ hx => zEj (h.mem hx)),bs]
theorem zJA {x y:List Int} (h:S1 x):zRB x y = some (x == y) :=
 zHz (t:=fun u v => some (u == v)) (body:=zRA x y) rfl (fun _ => rfl) (Nat.le_trans h.len (by decide)) fun _ _ _ _ => rfl
theorem zEk {x y:List (List Int)} (h:S2 x):zOp x y = some (x == y) :=
 zHz (t:=zRB) (body:=zRC x y) rfl (fun _ => rfl) (Nat.le_trans h.len (by decide)) fun _ hu _ _ => zJA (h.mem hu)
theorem zFZ {x y:List (List (List Int))} (h:S3 x):zTm x y = some (x == y) :=
 zHz (t:=zOp) (body:=zRD x y) rfl (fun _ => rfl) (Nat.le_trans h.len (by decide)) fun _ hu _ _ => zEk (h.mem hu)
def zMY (x:SPr):Prop:=VL VI x.zA ∧ VL (VL VI) x.zT ∧ VL (VL (VL VI)) x.zC
def zS5 (x:zB):Prop:=VI x.Prime ∧ VI x.Dim ∧ VL (VL (VL VI)) x.zI
def zJB (x:SPr):Nat:=c1 x.zA + c2 x.zT + c3 x.zC
def zS6 (x:zB):Nat:=c3 x.zI
def zDw (x:SPr):Prop:=S1 x.zA ∧ S2 x.zT ∧ S3 x.zC
def zIy (x:zB):Prop:=S3 x.zI
theorem zJC {a b:Nat} {n:Int}:(szR a n < 0 ∧ szR (a + b) n = -1) ∨ (0 ≤ szR a n ∧ szR a n ≤ n ∧ szR b (szR a n) = szR (a + b) n ∧ (a:Int) ≤ n) ∨ n < 0:=by
 unfold szR
 by_cases h:(a:Int) ≤ n
 ·rw [if_pos h]
  refine .inr (.inl ⟨by omega,by omega,?_,h⟩)
  by_cases h2:(b:Int) ≤ n - a
  ·rw [if_pos h2,if_pos (by omega)];omega
  ·rw [if_neg h2,if_neg (by omega)]
 ·rw [if_neg h]
  by_cases h3:n < 0
  ·exact .inr (.inr h3)
  ·exact .inl ⟨by omega,by rw [if_neg (by omega)]⟩
theorem zGa {x:SPr} {b:Int} (h:zMY x) (b0:0 ≤ b) (b1:b ≤ 1048576):zSV x b = some (szR (zJB x) b):=by
 obtain ⟨h1,h2,h3⟩:=h
 unfold zSV zJB
 rw [zJ8 h1.1 b0 b1,bs]
 rcases zJC (a:=c1 x.zA) (b:=c2 x.zT + c3 x.zC) (n:=b) with ⟨g1,g2⟩ | ⟨g1,g2,g3,g4⟩ | g1
 ·rw [decide_eq_true g1,zH,Nat.add_assoc,g2]
 ·rw [decide_eq_false (by omega),zF,zEi h2 g1 (by omega),bs,Nat.add_assoc,← g3]
  generalize szR (c1 x.zA) b = b' at g1 g2
  rcases zJC (a:=c2 x.zT) (b:=c3 x.zC) (n:=b') with ⟨k1,k2⟩ | ⟨k1,k2,k3,k4⟩ | k1
  ·rw [decide_eq_true k1,zH,k2]
  ·rw [decide_eq_false (by omega),zF,zFX h3 k1 (by omega),bs,← k3]
   generalize szR (c2 x.zT) b' = b'' at k1 k2
   unfold szR
   by_cases h4:(c3 x.zC:Int) ≤ b''
   ·rw [if_pos h4,decide_eq_false (by omega),zF]
   ·rw [if_neg h4];rfl
  ·omega
 ·omega
theorem zPL {x:zB} {b:Int} (h:zS5 x) (b0:0 ≤ b) (b1:b ≤ 1048576):zSW x b = some (szR (zS6 x) b):=by
 obtain ⟨_,_,h3⟩:=h
 unfold zSW zS6
 rw [zFX h3 b0 b1,bs]
 unfold szR
 by_cases h4:(c3 x.zI:Int) ≤ b
 ·rw [if_pos h4,decide_eq_false (by omega),zF]
 ·rw [if_neg h4];rfl
theorem zIz {c:Nat} {b:Int} (b0:0 ≤ b) (b1:b ≤ 1048576):(decide (szR c b < 0) = true) ∨ (decide (szR c b < 0) = false ∧ 0 ≤ szR c b ∧ szR c b ≤ 1048576 ∧ c ≤ 1048576):=by
 unfold szR
 by_cases h:(c:Int) ≤ b
 ·rw [if_pos h];exact .inr ⟨decide_eq_false (by omega),by omega,by omega,by omega⟩
 ·rw [if_neg h];exact .inl rfl
theorem zDw.of {x:SPr} (h:zJB x ≤ 1048576):zDw x:=by
 unfold zJB at h
 exact ⟨by simp only [S1];omega,by simp only [S2];omega,by simp only [S3];omega⟩
theorem zIy.of {x:zB} (h:zS6 x ≤ 1048576):zIy x:=h
theorem zGb {x:SPr} (h:zDw x):zOi x = some x:=by
 unfold zOi
 rw [zJ9 h.1,bs,zEj h.2.1,bs,zFY h.2.2,bs]
theorem zPM {x:zB} (h:zIy x):zOj x = some x:=by
 unfold zOj
 rw [zFY h,bs]
theorem zPN {x:zB} (h:zIy x):zTn x x = some true:=by
 unfold zTn
 rw [zFZ h,bs]
 simp
theorem zGc {x:SPr} (h:zDw x):zTo x x = some true:=by
 unfold zTo
 rw [zJA h.1,bs,zEk h.2.1,bs,zFZ h.2.2,bs]
 simp
end Go.Pl

namespace Go.Pl
open Go Go.Ab Go.Wk
def IsB (o:Option Bool) (P:Prop):Prop:=(o = some true ∧ P) ∨ (o = some false ∧ ¬ P)
theorem IsB.iff {o:Option Bool} {P Q:Prop} (h:IsB o P) (hpq:P ↔ Q):IsB o Q:=by
 rcases h with ⟨h1,h2⟩ | ⟨h1,h2⟩
 ·exact .inl ⟨h1,hpq.1 h2⟩
 ·exact .inr ⟨h1,fun h => h2 (hpq.2 h)⟩
theorem IsB.of_bool {b:Bool} {P:Prop} (h:b = true ↔ P):IsB (some b) P:=by
 cases b
 ·exact .inr ⟨rfl,fun hp => by have:=h.2 hp;cases this⟩
 ·exact .inl ⟨rfl,h.1 rfl⟩
theorem chk {ρ:Type} {body:Int → Option (Int ⊕ (Unit ⊕ ρ))} (n i0:Nat) (hn:i0 ≤ n) (P:Nat → Prop) (bad:Nat → ρ)
  (h:∀ i,i0 ≤ i → i < n → (∀ j,i0 ≤ j → j < i → P j) → (body (i:Int) = some (.inl ((i + 1:Nat):Int)) ∧ P i) ∨ (body (i:Int) = some (.inr (.inr (bad i))) ∧ ¬ P i))
  (he:body (n:Int) = some (.inr (.inl ()))) :
  (zG body (i0:Int) = some (.inl ()) ∧ ∀ j,i0 ≤ j → j < n → P j) ∨ ∃ i,i0 ≤ i ∧ i < n ∧ zG body (i0:Int) = some (.inr (bad i)) ∧ ¬ P i:=by
 have key:∀ k i,i0 ≤ i → i + k = n → (∀ j,i0 ≤ j → j < i → P j) → (zG body (i:Int) = some (.inl ()) ∧ ∀ j,i0 ≤ j → j < n → P j) ∨ ∃ q,i0 ≤ q ∧ q < n ∧ zG body (i:Int) = some (.inr (bad q)) ∧ ¬ P q:=by
  intro k
  induction k with
  | zero =>
   intro i hi hk hp
   obtain rfl:i = n:=by omega
   exact .inl ⟨by rw [xC,he],hp⟩
  | succ k ih =>
   intro i hi hk hp
   rcases h i hi (by omega) hp with ⟨h1,h2⟩ | ⟨h1,h2⟩
   ·have:=ih (i + 1) (by omega) (by omega) fun j a b => by
     rcases Nat.lt_or_ge j i with c | c
     ·exact hp j a c
     ·rw [show j = i from by omega];exact h2
    rw [xC,h1]
    exact this
   ·exact .inr ⟨i,hi,by omega,by rw [xC,h1],h2⟩
 exact key (n - i0) i0 (Nat.le_refl _) (by omega) fun j a b => by omega
theorem tR {f:Option Bool} {body:Int → Option (Int ⊕ (Unit ⊕ Bool))} (n:Nat) (P:Nat → Prop)
  (hf:f = (zG body 0).bind fun r => match r with | .inl _ => some true | .inr r => some r)
  (h:∀ i,i < n → (∀ j,j < i → P j) → (body (i:Int) = some (.inl ((i + 1:Nat):Int)) ∧ P i) ∨ (body (i:Int) = some (.inr (.inr false)) ∧ ¬ P i))
  (he:body (n:Int) = some (.inr (.inl ()))):IsB f (∀ i,i < n → P i):=by
 rcases chk n 0 (Nat.zero_le _) P (fun _ => false) (fun i _ hi hp => h i hi fun j hj => hp j (Nat.zero_le _) hj) he with ⟨h1,h2⟩ | ⟨i,_,hi,h1,h2⟩
 ·refine .inl ⟨?_,fun i hi => h2 i (Nat.zero_le _) hi⟩
  rw [hf];rw [show ((0:Nat):Int) = 0 from rfl] at h1;rw [h1,bs]
 ·refine .inr ⟨?_,fun hp => h2 (hp i hi)⟩
  rw [hf];rw [show ((0:Nat):Int) = 0 from rfl] at h1;rw [h1,bs]
theorem vQ {o:Option Bool} {P:Prop} {ρ:Type} {bad:ρ} {i:Nat} {g:Option (Int ⊕ (Unit ⊕ ρ))} (h:IsB o P) (hi:i < 9223372036854775807)
  (hg:g = o.bind fun r => cond (!r) (some (.inr (.inr bad))) ((rng ((i:Int) + 1)).bind fun v => some (.inl v))):(g = some (.inl ((i + 1:Nat):Int)) ∧ P) ∨ (g = some (.inr (.inr bad)) ∧ ¬ P):=by
 subst hg
 rcases h with ⟨h1,h2⟩ | ⟨h1,h2⟩
 ·refine .inl ⟨?_,h2⟩
  rw [h1,bs,Bool.not_true,zF,zD (by omega) (by omega),bs,cs]
 ·refine .inr ⟨?_,h2⟩
  rw [h1,bs,Bool.not_false,zH]
theorem yL {i n:Nat} (h:i < n):decide ((i:Int) < (n:Int)) = true:=decide_eq_true (by omega)
theorem yT {n:Nat}:decide ((n:Int) < (n:Int)) = false:=decide_eq_false (by omega)
theorem jC (x a b:Int):IsB (zLY x a b) (a ≤ x ∧ x ≤ b):=by
 unfold zLY
 by_cases h:x ≥ a
 ·rw [decide_eq_true h,zH];exact IsB.of_bool (by simp;omega)
 ·rw [decide_eq_false h,zF];exact .inr ⟨rfl,by omega⟩
theorem zBJ (x a b:Int):IsB (zQJ x a b) (a ≤ x ∧ x ≤ b):=jC x a b
def Prime (p:Int):Prop:=p = 2 ∨ p = 3 ∨ p = 5 ∨ p = 7
theorem zBb (x:Int):IsB (zOl x) (Prime x):=by
 unfold zOl Prime
 by_cases h2:x = 2
 ·subst h2;exact .inl ⟨rfl,.inl rfl⟩
 ·rw [show (x == 2) = false from by simpa using h2,zF]
  by_cases h3:x = 3
  ·subst h3;exact .inl ⟨rfl,.inr (.inl rfl)⟩
  ·rw [show (x == 3) = false from by simpa using h3,zF]
   by_cases h5:x = 5
   ·subst h5;exact .inl ⟨rfl,.inr (.inr (.inl rfl))⟩
   ·rw [show (x == 5) = false from by simpa using h5,zF]
    exact IsB.of_bool (by simp;omega)
theorem zGd (x:Int):IsB (zSX x) (Prime x):=zBb x
abbrev at0 (v:List Int) (i:Nat):Int:=v.getD i 0
theorem yE {v:List Int} {i:Nat} (h:i < v.length):ixO v (i:Int) = some (at0 v i):=by
 rw [zBa h,at0,List.getD_eq_getElem?_getD,List.getElem?_eq_getElem h];rfl
def zXc (os v:List Int):Prop:=v.length = os.length ∧ ∀ i,i < v.length → 0 ≤ at0 v i ∧ at0 v i ≤ at0 os i - 1
def Exp (os v:List Int) (k:Nat):Prop:=zXc os v ∧ ∀ i,i ≤ k → at0 v i = 0
def Os (os:List Int):Prop:=os.length ≤ 9 ∧ ∀ i,i < os.length → Prime (at0 os i)
theorem Prime.pos {p:Int} (h:Prime p):2 ≤ p ∧ p ≤ 7:=by unfold Prime at h;omega
theorem zEl {x:SPr} {v:List Int} (ho:Os x.zA):IsB (zTf x v) (zXc x.zA v):=by
 unfold zTf
 by_cases h:v.length = x.zA.length
 ·rw [show ((v.length:Int) != (x.zA.length:Int)) = false from by simp [h],zF]
  have h6:=ho.1
  refine (tR v.length (fun i => 0 ≤ at0 v i ∧ at0 v i ≤ at0 x.zA i - 1) rfl (fun i hi _ => ?_) ?_).iff ⟨fun g => ⟨h,g⟩,fun g => g.2⟩
  ·have hp:=(ho.2 i (by omega)).pos
   refine vQ (jC _ _ _) (by omega) ?_
   unfold zNy
   rw [yL hi,zH,yE hi,bs,yE (by omega),bs,zD (by omega) (by omega),bs]
  ·unfold zNy
   rw [yT,zF]
 ·rw [show ((v.length:Int) != (x.zA.length:Int)) = true from by simp;omega,zH]
  exact .inr ⟨rfl,fun g => h g.1⟩
theorem zJD {v:List Int} (hl:v.length ≤ 9):IsB (f_F v) (∀ i,i < v.length → at0 v i = 0):=by
 refine tR v.length (fun i => at0 v i = 0) rfl (fun i hi _ => ?_) ?_
 ·refine vQ (o:=some (at0 v i == 0)) (IsB.of_bool (by simp)) (by omega) ?_
  unfold zKw
  rw [yL hi,zH,yE hi,bs,bs];rfl
 ·unfold zKw
  rw [yT,zF]
theorem zBs {x:SPr} {k:Nat} {v:List Int} (ho:Os x.zA) (hk:k < x.zA.length):IsB (zRf x k v) (Exp x.zA v k):=by
 have h6:=ho.1
 unfold zRf
 rcases zEl (v:=v) ho with ⟨h1,h2⟩ | ⟨h1,h2⟩
 ·have hl:=h2.1
  rw [h1,bs,zH,zD (by omega) (by omega),bs]
  have hs:zU v 0 ((k:Int) + 1) = some (v.take (k + 1)):=by
   unfold zU
   rw [if_pos (by omega)]
   simp only [Int.toNat_zero,List.drop_zero,Nat.sub_zero]
   congr 2
  rw [hs,bs]
  have hb:=zJD (v:=v.take (k + 1)) (by rw [List.length_take];omega)
  have hiff:(∀ i,i < (v.take (k + 1)).length → at0 (v.take (k + 1)) i = 0) ↔ Exp x.zA v k:=by
   have e:∀ i,i ≤ k → at0 (v.take (k + 1)) i = at0 v i:=fun i hi => by
    simp only [at0,List.getD_eq_getElem?_getD,List.getElem?_take]
    rw [if_pos (by omega)]
   rw [List.length_take,Nat.min_eq_left (by omega)]
   exact ⟨fun g => ⟨h2,fun i hi => by rw [← e i hi];exact g i (by omega)⟩,fun g i hi => by rw [e i (by omega)];exact g.2 i (by omega)⟩
  rcases hb.iff hiff with ⟨g1,g2⟩ | ⟨g1,g2⟩
  ·rw [g1,bs];exact .inl ⟨rfl,g2⟩
  ·rw [g1,bs];exact .inr ⟨rfl,g2⟩
 ·rw [h1,bs,zF]
  exact .inr ⟨rfl,fun g => h2 g.1⟩
theorem zBK {os v:List Int} {k:Nat} (ho:Os os) (hk:k < os.length):IsB (zQK os v k) (Exp os v k):=by
 have h6:=ho.1
 unfold zQK
 by_cases h:v.length = os.length
 ·rw [show ((v.length:Int) != (os.length:Int)) = false from by simp [h],zF]
  refine (tR v.length (fun i => (0 ≤ at0 v i ∧ at0 v i ≤ at0 os i - 1) ∧ (i ≤ k → at0 v i = 0)) rfl (fun i hi _ => ?_) ?_).iff ⟨fun g => ⟨⟨h,fun i hi => (g i hi).1⟩,fun i hi => (g i (by omega)).2 hi⟩,fun g i hi => ⟨g.1.2 i hi,fun hk => g.2 i hk⟩⟩
  ·have hp:=(ho.2 i (by omega)).pos
   unfold zNu
   rw [yL hi,zH,yE hi,bs,yE (by omega),bs,zD (by omega) (by omega),bs]
   rcases zBJ (at0 v i) 0 (at0 os i - 1) with ⟨h1,h2⟩ | ⟨h1,h2⟩
   ·rw [h1,bs,Bool.not_true,zF]
    by_cases h3:(i:Int) ≤ (k:Int)
    ·rw [decide_eq_true h3,zH,bs]
     by_cases h4:at0 v i = 0
     ·rw [show (at0 v i != 0) = false from by simp only [h4];rfl,zF,zD (by omega) (by omega),bs,cs]
      exact .inl ⟨rfl,h2,fun _ => h4⟩
     ·rw [show (at0 v i != 0) = true from by simpa using h4,zH]
      exact .inr ⟨rfl,fun g => h4 (g.2 (by omega))⟩
    ·rw [decide_eq_false h3,zF,zD (by omega) (by omega),bs,cs]
     exact .inl ⟨rfl,h2,fun g => absurd (by omega) h3⟩
   ·rw [h1,bs,Bool.not_false,zH]
    exact .inr ⟨rfl,fun g => h2 g.1⟩
  ·unfold zNu
   rw [yT,zF]
 ·rw [show ((v.length:Int) != (os.length:Int)) = true from by simp;omega,zH]
  exact .inr ⟨rfl,fun g => h g.1.1⟩
end Go.Pl

namespace Go.Pl
open Go Go.Ab Go.Wk
theorem zXR {σ ρ:Type} {body:σ → Option (σ ⊕ (Unit ⊕ ρ))} (S:Nat → σ) (n i0:Nat) (hn:i0 ≤ n) (P:Nat → Prop) (bad:Nat → ρ)
  (h:∀ i,i0 ≤ i → i < n → (∀ j,i0 ≤ j → j < i → P j) → (body (S i) = some (.inl (S (i + 1))) ∧ P i) ∨ (body (S i) = some (.inr (.inr (bad i))) ∧ ¬ P i))
  (he:body (S n) = some (.inr (.inl ()))) :
  (zG body (S i0) = some (.inl ()) ∧ ∀ j,i0 ≤ j → j < n → P j) ∨ ∃ i,i0 ≤ i ∧ i < n ∧ zG body (S i0) = some (.inr (bad i)) ∧ ¬ P i:=by
 have key:∀ k i,i0 ≤ i → i + k = n → (∀ j,i0 ≤ j → j < i → P j) → (zG body (S i) = some (.inl ()) ∧ ∀ j,i0 ≤ j → j < n → P j) ∨ ∃ q,i0 ≤ q ∧ q < n ∧ zG body (S i) = some (.inr (bad q)) ∧ ¬ P q:=by
  intro k
  induction k with
  | zero =>
   intro i hi hk hp
   obtain rfl:i = n:=by omega
   exact .inl ⟨by rw [xC,he],hp⟩
  | succ k ih =>
   intro i hi hk hp
   rcases h i hi (by omega) hp with ⟨h1,h2⟩ | ⟨h1,h2⟩
   ·have:=ih (i + 1) (by omega) (by omega) fun j a b => by
     rcases Nat.lt_or_ge j i with c | c
     ·exact hp j a c
     ·rw [show j = i from by omega];exact h2
    rw [xC,h1]
    exact this
   ·exact .inr ⟨i,hi,by omega,by rw [xC,h1],h2⟩
 exact key (n - i0) i0 (Nat.le_refl _) (by omega) fun j a b => by omega
theorem jU {a b:Int} (h:a = b):(a != b) = false:=by simp [h]
theorem sX {a b:Int} (h:a ≠ b):(a != b) = true:=by simp [h]
def pr (os:List Int):Nat → Int
 | 0 => 1
 | i + 1 => pr os i * at0 os i
def cp (os:List Int):Nat → Int
 | 0 => 1
 | i + 1 => if cp os i ≤ 729 then cp os i * at0 os i else cp os i
theorem zGe {os:List Int}:∀ {i:Nat},(∀ j,j < i → Prime (at0 os j)) → 1 ≤ pr os i
 | 0,_ => by simp [pr]
 | i + 1,h => by
  have h1:=zGe (os:=os) (i:=i) fun j hj => h j (by omega)
  have h2:=(h i (by omega)).pos
  simp only [pr]
  have:(1:Int) * 1 ≤ pr os i * at0 os i:=Int.mul_le_mul h1 (by omega) (by omega) (by omega)
  omega
theorem zMZ {os:List Int} {i:Nat} (h:∀ j,j ≤ i → Prime (at0 os j)):pr os i ≤ pr os (i + 1):=by
 have h1:=zGe (os:=os) (i:=i) fun j hj => h j (by omega)
 have h2:=(h i (Nat.le_refl _)).pos
 simp only [pr]
 have:pr os i * 1 ≤ pr os i * at0 os i:=Int.mul_le_mul_of_nonneg_left (by omega) (by omega)
 omega
theorem zNa {os:List Int} {n:Nat} (h:∀ j,j < n → Prime (at0 os j)):∀ k,k ≤ n → pr os (n - k) ≤ pr os n
 | 0,_ => Int.le_refl _
 | k + 1,hk => by
  have h1:=zNa h k (by omega)
  have h2:=zMZ (os:=os) (i:=n - (k + 1)) fun j hj => h j (by omega)
  rw [show n - (k + 1) + 1 = n - k from by omega] at h2
  omega
theorem zPO {os:List Int}:∀ {i:Nat},(∀ j,j < i → Prime (at0 os j)) → (cp os i = pr os i ∧ pr os i ≤ 729 ∨ 729 < cp os i ∧ cp os i ≤ 5103 ∧ 729 < pr os i)
 | 0,_ => by simp [cp,pr]
 | i + 1,h => by
  have h0:∀ j,j < i → Prime (at0 os j):=fun j hj => h j (by omega)
  have h2:=(h i (by omega)).pos
  have h3:=zMZ (os:=os) (i:=i) fun j hj => h j (by omega)
  have hpp:=zGe h0
  simp only [cp]
  rcases zPO h0 with ⟨h1,h4⟩ | ⟨h1,h4,h5⟩
  ·rw [h1,if_pos h4]
   have h6:pr os i * at0 os i ≤ 729 * 7:=Int.mul_le_mul h4 h2.2 (by omega) (by omega)
   simp only [pr] at h3 ⊢
   generalize pr os i * at0 os i = b at h3 h6 ⊢
   simp only [true_and];omega
  ·rw [if_neg (by omega)]
   omega
def zGf (x:SPr) (i:Nat):Prop:=Exp x.zA (x.zT.getD i []) i ∧ (x.zC.getD i []).length + i + 1 = x.zA.length ∧ ∀ j,j < (x.zC.getD i []).length → Exp x.zA ((x.zC.getD i []).getD j []) i
structure Pres (x:SPr):Prop where
 os:Os x.zA
 pl:x.zT.length = x.zA.length
 cl:x.zC.length = x.zA.length
 tl:∀ i,i < x.zA.length → zGf x i
structure zEG (x:SPr):Prop extends Pres x where
 n6:x.zA.length ≤ 6
 pr:pr x.zA x.zA.length ≤ 729
theorem yC {α:Type} {v:List α} {i:Nat} (d:α) (h:i < v.length):ixO v (i:Int) = some (v.getD i d):=by
 rw [zBa h,List.getD_eq_getElem?_getD,List.getElem?_eq_getElem h];rfl
theorem zLn {x:SPr} (ho:Os x.zA) (hp:x.zT.length = x.zA.length) (hc:x.zC.length = x.zA.length) {i:Nat} (hi:i < x.zA.length) :
  (zMa x i = some (.inl ((i + 1:Nat):Int)) ∧ zGf x i) ∨ (zMa x i = some (.inr (.inr false)) ∧ ¬ zGf x i):=by
 have h6:=ho.1
 unfold zMa
 rw [yL hi,zH,yC [] (by omega),bs]
 rcases zBs (v:=x.zT.getD i []) ho hi with ⟨h1,h2⟩ | ⟨h1,h2⟩
 ·rw [h1,bs,Bool.not_true,zF,yC [] (by omega),bs,zD (by omega) (by omega),bs,zD (by omega) (by omega),bs]
  by_cases hl:(x.zC.getD i []).length + i + 1 = x.zA.length
  ·rw [jU (by omega),zF,bs]
   rcases chk (body:=zRg x i (x.zC.getD i [])) (x.zC.getD i []).length 0 (Nat.zero_le _) (fun j => Exp x.zA ((x.zC.getD i []).getD j []) i) (fun _ => false) (fun j _ hj _ => by
     refine vQ (zBs ho hi) (by omega) ?_
     unfold zRg
     rw [yL hj,zH,yC [] hj,bs]) (by
     unfold zRg
     rw [yT,zF]) with ⟨g1,g2⟩ | ⟨j,_,hj,g1,g2⟩
   ·rw [show ((0:Nat):Int) = 0 from rfl] at g1
    rw [g1,bs]
    simp only
    rw [zD (by omega) (by omega),bs,cs]
    exact .inl ⟨rfl,h2,hl,fun j hj => g2 j (Nat.zero_le _) hj⟩
   ·rw [show ((0:Nat):Int) = 0 from rfl] at g1
    rw [g1,bs]
    exact .inr ⟨rfl,fun g => g2 (g.2.2 j hj)⟩
  ·rw [sX (by omega),zH]
   exact .inr ⟨rfl,fun g => hl g.2.1⟩
 ·rw [h1,bs,Bool.not_false,zH]
  exact .inr ⟨rfl,fun g => h2 g.1⟩
theorem zLo {x:SPr} (ho:Os x.zA) (hp:x.zT.length = x.zA.length) (hc:x.zC.length = x.zA.length) {i:Nat} (hi:i < x.zA.length) :
  (zLV x i = some (.inl ((i + 1:Nat):Int)) ∧ zGf x i) ∨ (zLV x i = some (.inr (.inr false)) ∧ ¬ zGf x i):=by
 have h6:=ho.1
 unfold zLV
 rw [yL hi,zH,yC [] (by omega),bs]
 rcases zBK (v:=x.zT.getD i []) ho hi with ⟨h1,h2⟩ | ⟨h1,h2⟩
 ·rw [h1,bs,Bool.not_true,zF,yC [] (by omega),bs,zD (by omega) (by omega),bs,zD (by omega) (by omega),bs]
  by_cases hl:(x.zC.getD i []).length + i + 1 = x.zA.length
  ·rw [jU (by omega),zF]
   rcases chk (body:=zQM x i) (x.zC.getD i []).length 0 (Nat.zero_le _) (fun j => Exp x.zA ((x.zC.getD i []).getD j []) i) (fun _ => false) (fun j _ hj _ => by
     refine vQ (zBK ho hi) (by omega) ?_
     unfold zQM
     rw [yC [] (by omega),bs,yL hj,zH,bs,yC [] hj,bs]) (by
     unfold zQM
     rw [yC [] (by omega),bs,yT,zF]) with ⟨g1,g2⟩ | ⟨j,_,hj,g1,g2⟩
   ·rw [show ((0:Nat):Int) = 0 from rfl] at g1
    rw [g1,bs]
    simp only
    rw [zD (by omega) (by omega),bs,cs]
    exact .inl ⟨rfl,h2,hl,fun j hj => g2 j (Nat.zero_le _) hj⟩
   ·rw [show ((0:Nat):Int) = 0 from rfl] at g1
    rw [g1,bs]
    exact .inr ⟨rfl,fun g => g2 (g.2.2 j hj)⟩
  ·rw [sX (by omega),zH]
   exact .inr ⟨rfl,fun g => hl g.2.1⟩
 ·rw [h1,bs,Bool.not_false,zH]
  exact .inr ⟨rfl,fun g => h2 g.1⟩
theorem zJE {x:SPr} (h6:x.zA.length ≤ 6) :
  (zG (zLZ x) (1,0) = some (.inl ()) ∧ Os x.zA ∧ pr x.zA x.zA.length ≤ 729) ∨ (zG (zLZ x) (1,0) = some (.inr false) ∧ ¬ (Os x.zA ∧ pr x.zA x.zA.length ≤ 729)):=by
 rcases zXR (body:=zLZ x) (fun i => (pr x.zA i,(i:Int))) x.zA.length 0 (Nat.zero_le _) (fun i => Prime (at0 x.zA i) ∧ pr x.zA (i + 1) ≤ 729) (fun _ => false) (fun i _ hi hpre => by
   have hp:∀ j,j < i → Prime (at0 x.zA j):=fun j hj => (hpre j (Nat.zero_le _) hj).1
   have hpp:=zGe hp
   have hle:pr x.zA i ≤ 729:=by
    cases i with
    | zero => simp [pr]
    | succ i => exact (hpre i (Nat.zero_le _) (by omega)).2
   unfold zLZ
   rw [yL hi,zH,yE hi,bs]
   rcases zBb (at0 x.zA i) with ⟨h1,h2⟩ | ⟨h1,h2⟩
   ·have h3:=h2.pos
    have h4:pr x.zA i * at0 x.zA i ≤ 729 * 7:=Int.mul_le_mul hle h3.2 (by omega) (by omega)
    have h5:1 * 1 ≤ pr x.zA i * at0 x.zA i:=Int.mul_le_mul hpp (by omega) (by omega) (by omega)
    simp only
    rw [h1,bs,Bool.not_true,zF,zD (by omega) (by omega),bs]
    by_cases h7:pr x.zA i * at0 x.zA i > 729
    ·rw [decide_eq_true h7,zH]
     exact .inr ⟨rfl,fun g => by have:=g.2;simp only [pr] at this;omega⟩
    ·rw [decide_eq_false h7,zF,bs,zD (by omega) (by omega),bs,cs]
     exact .inl ⟨rfl,h2,by simp only [pr];omega⟩
   ·rw [h1,bs,Bool.not_false,zH]
    exact .inr ⟨rfl,fun g => h2 g.1⟩) (by
   unfold zLZ
   rw [yT,zF]) with ⟨g1,g2⟩ | ⟨i,_,hi,g1,g2⟩
 ·refine .inl ⟨g1,⟨by omega,fun i hi => (g2 i (Nat.zero_le _) hi).1⟩,?_⟩
  cases hn:x.zA.length with
  | zero => simp [pr]
  | succ n => exact (g2 n (Nat.zero_le _) (by omega)).2
 ·refine .inr ⟨g1,fun ⟨h1,h2⟩ => g2 ⟨h1.2 i hi,?_⟩⟩
  have:=zNa (os:=x.zA) (n:=x.zA.length) h1.2 (x.zA.length - (i + 1)) (by omega)
  rw [show x.zA.length - (x.zA.length - (i + 1)) = i + 1 from by omega] at this
  omega
theorem zI0 {os:List Int} (ho:Os os):zSY os = some (cp os os.length):=by
 have h6:=ho.1
 unfold zSY
 rw [show (1,0) = (fun i => (cp os i,(i:Int))) 0 from rfl,zN (body:=zKt os) (r:=cp os os.length) (fun i => (cp os i,(i:Int))) os.length (fun i hi => by
  have hp:=(ho.2 i hi).pos
  have hc:=zPO (os:=os) (i:=i) fun j hj => ho.2 j (by omega)
  have hpp:=zGe (os:=os) (i:=i) fun j hj => ho.2 j (by omega)
  unfold zKt
  rw [yL hi,zH]
  simp only [cp]
  by_cases h:cp os i ≤ 729
  ·have h4:cp os i * at0 os i ≤ 729 * 7:=Int.mul_le_mul h hp.2 (by omega) (by omega)
   have h5:1 * 1 ≤ cp os i * at0 os i:=Int.mul_le_mul (by omega) (by omega) (by omega) (by omega)
   rw [decide_eq_true h,zH,yE hi,bs,zD (by omega) (by omega),bs,zD (by omega) (by omega),bs,cs,if_pos h]
  ·rw [decide_eq_false h,zF,zD (by omega) (by omega),bs,cs,if_neg h]) (by
  unfold zKt
  rw [yT,zF]),bs]
theorem zCs {x:SPr} (hl:x.zA.length ≤ 1048576):IsB (f_q x) (zEG x):=by
 unfold f_q
 by_cases h6:x.zA.length ≤ 6
 ·rw [decide_eq_false (by omega),zF]
  by_cases hp:x.zT.length = x.zA.length
  ·rw [jU (by omega),zF]
   by_cases hc:x.zC.length = x.zA.length
   ·rw [jU (by omega),zF]
    rcases zJE h6 with ⟨h1,h2,h3⟩ | ⟨h1,h2⟩
    ·rw [h1,bs]
     exact (tR (f:=(zG (zMa x) 0).bind fun r => match r with | .inl _ => some true | .inr r => some r) x.zA.length (zGf x) rfl (fun i hi _ => zLn h2 hp hc hi) (by
      unfold zMa
      rw [yT,zF])).iff ⟨fun g => ⟨⟨h2,hp,hc,g⟩,h6,h3⟩,fun g => g.tl⟩
    ·rw [h1,bs]
     exact .inr ⟨rfl,fun g => h2 ⟨g.os,g.pr⟩⟩
   ·rw [sX (by omega),zH]
    exact .inr ⟨rfl,fun g => hc g.cl⟩
  ·rw [sX (by omega),zH]
   exact .inr ⟨rfl,fun g => hp g.pl⟩
 ·rw [decide_eq_true (by omega),zH]
  exact .inr ⟨rfl,fun g => h6 g.n6⟩
theorem zCt {x:SPr} (hl:x.zA.length ≤ 1048576):IsB (f_t x) (zEG x):=by
 unfold f_t
 by_cases h6:x.zA.length ≤ 6
 ·rw [decide_eq_false (by omega),zF]
  by_cases hp:x.zT.length = x.zA.length
  ·rw [jU (by omega),zF]
   by_cases hc:x.zC.length = x.zA.length
   ·rw [jU (by omega),zF]
    rcases chk (body:=zQL x) x.zA.length 0 (Nat.zero_le _) (fun i => Prime (at0 x.zA i)) (fun _ => false) (fun i _ hi _ => by
      refine vQ (zGd _) (by omega) ?_
      unfold zQL
      rw [yL hi,zH,yE hi,bs]) (by
      unfold zQL
      rw [yT,zF]) with ⟨g1,g2⟩ | ⟨i,_,hi,g1,g2⟩
    ·rw [show ((0:Nat):Int) = 0 from rfl] at g1
     have ho:Os x.zA:=⟨by omega,fun i hi => g2 i (Nat.zero_le _) hi⟩
     have hcp:=zPO (os:=x.zA) (i:=x.zA.length) ho.2
     rw [g1,bs]
     simp only
     rw [zI0 ho,bs]
     by_cases h7:cp x.zA x.zA.length > 729
     ·rw [decide_eq_true h7,zH]
      exact .inr ⟨rfl,fun g => by have:=g.pr;omega⟩
     ·rw [decide_eq_false h7,zF]
      exact (tR (f:=(zG (zLV x) 0).bind fun r => match r with | .inl _ => some true | .inr r => some r) x.zA.length (zGf x) rfl (fun i hi _ => zLo ho hp hc hi) (by
       unfold zLV
       rw [yT,zF])).iff ⟨fun g => ⟨⟨ho,hp,hc,g⟩,h6,by omega⟩,fun g => g.tl⟩
    ·rw [show ((0:Nat):Int) = 0 from rfl] at g1
     rw [g1,bs]
     exact .inr ⟨rfl,fun g => g2 (g.os.2 i hi)⟩
   ·rw [sX (by omega),zH]
    exact .inr ⟨rfl,fun g => hc g.cl⟩
  ·rw [sX (by omega),zH]
   exact .inr ⟨rfl,fun g => hp g.pl⟩
 ·rw [decide_eq_true (by omega),zH]
  exact .inr ⟨rfl,fun g => h6 g.n6⟩
end Go.Pl

namespace Go.Pl
open Go Go.Ab Go.Wk Go.Pc
def lvl (x:SPr) (i:Nat):Lvl:=⟨at0 x.zA i,(x.zT.getD i []).drop (i + 1),(x.zC.getD i []).map (·.drop (i + 1))⟩
def suf (x:SPr) (k:Nat):Pcp:=(List.range' k (x.zA.length - k)).map (lvl x)
theorem xE (x:SPr) (k:Nat):(suf x k).length = x.zA.length - k:=by simp [suf]
theorem yJ {x:SPr} {k:Nat} (h:k < x.zA.length):suf x k = lvl x k :: suf x (k + 1):=by
 unfold suf
 rw [show x.zA.length - k = (x.zA.length - (k + 1)) + 1 from by omega,List.range'_succ,List.map_cons]
theorem vT {x:SPr} {k:Nat} (h:x.zA.length ≤ k):suf x k = []:=by
 unfold suf;rw [show x.zA.length - k = 0 from by omega];rfl
theorem zAG {os v:List Int} {k:Nat} (h:Exp os v k) (hk:k < os.length):v = zeros (k + 1) ++ v.drop (k + 1):=by
 have h1:=h.1.1
 apply List.ext_getElem?
 intro i
 rw [List.getElem?_append]
 simp only [zeros,List.length_replicate,List.getElem?_replicate,List.getElem?_drop]
 split
 ·rename_i hi
  have h2:=h.2 i (by omega)
  rw [List.getElem?_eq_getElem (by omega)]
  rw [at0,List.getD_eq_getElem?_getD,List.getElem?_eq_getElem (by omega)] at h2
  simpa using h2
 ·rw [show k + 1 + (i - (k + 1)) = i from by omega]
theorem zVa {x:SPr}:∀ (d k:Nat) (v:List Int),k + d = x.zA.length → v.length = d → (∀ i,i < d → 0 ≤ at0 v i ∧ at0 v i ≤ at0 x.zA (k + i) - 1) → V (suf x k) v
 | 0,k,v,hk,hv,_ => by
  rw [vT (by omega)]
  simpa [V] using hv
 | d + 1,k,v,hk,hv,h => by
  rw [yJ (by omega)]
  match v,hv with
  | a :: v,hv =>
   have h0:=h 0 (by omega)
   simp only [at0,List.getD_cons_zero,Nat.add_zero] at h0
   refine ⟨⟨h0.1,by simp only [lvl,at0];omega⟩,zVa d (k + 1) v (by omega) (by simpa using hv) fun i hi => ?_⟩
   have:=h (i + 1) (by omega)
   simp only [at0,List.getD_cons_succ] at this
   rw [show k + 1 + i = k + (i + 1) from by omega]
   exact this
theorem zH0 {x:SPr} {v:List Int} {k:Nat} (h:Exp x.zA v k) (hk:k < x.zA.length):V (suf x (k + 1)) (v.drop (k + 1)):=by
 have h1:=h.1.1
 refine zVa (x.zA.length - (k + 1)) (k + 1) _ (by omega) (by rw [List.length_drop];omega) fun i hi => ?_
 have:=h.1.2 (k + 1 + i) (by omega)
 have e:at0 (v.drop (k + 1)) i = at0 v (k + 1 + i):=by simp only [at0,List.getD_eq_getElem?_getD,List.getElem?_drop]
 rw [e];exact this
theorem Pres.ok {x:SPr} (h:Pres x):∀ (d k:Nat),k + d = x.zA.length → Pc.Ok (suf x k)
 | 0,k,hk => by rw [vT (by omega)];simp only [Pc.Ok]
 | d + 1,k,hk => by
  rw [yJ (by omega)]
  obtain ⟨t1,t2,t3⟩:=h.tl k (by omega)
  refine ⟨by simp only [lvl];have:=(h.os.2 k (by omega)).pos;omega,zH0 t1 (by omega),?_,fun c hc => ?_,Pres.ok h d (k + 1) (by omega)⟩
  ·rw [xE];simp only [lvl,List.length_map];omega
  ·simp only [lvl,List.mem_map] at hc
   obtain ⟨u,hu,rfl⟩:=hc
   obtain ⟨j,hj,rfl⟩:=List.mem_iff_getElem.1 hu
   have:=t3 j hj
   rw [List.getD_eq_getElem?_getD,List.getElem?_eq_getElem hj] at this
   exact zH0 this (by omega)
theorem Pres.okAt {x:SPr} (h:Pres x) {k:Nat} (hk:k ≤ x.zA.length):Pc.Ok (suf x k):=h.ok (x.zA.length - k) k (by omega)
theorem zR (n:Nat):(zeros n).length = n:=by simp [zeros]
theorem zEH (k:Nat):zeros (k + 1) = zeros k ++ [0]:=by simp [zeros,List.replicate_succ']
theorem zC5 {k:Nat} {a b:Int} {v:Vec}:(zeros k ++ a :: v).set k b = zeros k ++ b :: v:=by
 rw [List.set_append_right _ _ (by rw [zR];omega),zR,Nat.sub_self,List.set_cons_zero]
theorem zBL {k:Nat} {a:Int} {v:Vec}:ixO (zeros k ++ a :: v) (k:Int) = some a:=by
 rw [wW,List.getElem?_append_right (by rw [zR];omega),zR,Nat.sub_self];rfl
theorem zBc {k:Nat} {v:Vec}:zeros k ++ 0 :: v = zeros (k + 1) ++ v:=by rw [zEH,List.append_assoc];rfl
theorem tG {v:List Int} (h:v.length ≤ 1000000):f_s v = some v:=by
 unfold f_s
 rw [yD (by simp;omega),bs,List.nil_append]
end Go.Pl

namespace Go.Pl
open Go Go.Ab Go.Wk Go.Pc
theorem zAH {m:Vec → Vec → Vec}:∀ (cs:List Vec) (x:Vec) (i:Nat) (acc:Vec),i < cs.length → i < x.length →
  img m (cs.take (i + 1)) (x.take (i + 1)) acc = iter (at0 x i).toNat (fun v => m v (cs.getD i [])) (img m (cs.take i) (x.take i) acc)
 | [],_,_,_,h,_ => by simp at h
 | _ :: _,[],_,_,_,h => by simp at h
 | c :: cs,a :: x,0,acc,_,_ => by simp only [Nat.zero_add,List.take_succ_cons,List.take_zero,img,at0,List.getD_cons_zero]
 | c :: cs,a :: x,i + 1,acc,h,h' => by
  simp only [List.take_succ_cons,img,at0,List.getD_cons_succ]
  exact zAH cs x i _ (by simpa using h) (by simpa using h')
theorem wO {α β:Type} {body:α × Int → Option ((α × Int) ⊕ α)} {S:β → Prop} (e:β → α) (g:β → β) (n:Int) (hn:0 ≤ n) (hS:∀ a,S a → S (g a))
  (h:∀ a (i:Nat),S a → (i:Int) < n → body (e a,(i:Int)) = some (.inl (e (g a),((i + 1:Nat):Int)))) (he:∀ a,S a → body (e a,n) = some (.inr (e a))) {a:β} (ha:S a) :
  zG body (e a,0) = some (e (iter n.toNat g a)):=by
 have hit:∀ k,S (iter k g a):=fun k => wV (S:=S) hS k ha
 exact zN (body:=body) (r:=e (iter n.toNat g a)) (fun i => (e (iter i g a),(i:Int))) n.toNat (fun i hi => by
  rw [h _ i (hit i) (by omega),vD]) (by
  rw [show ((n.toNat:Nat):Int) = n from by omega]
  exact he _ (hit _))
theorem zJF {k i:Nat} {v:Vec} (h:i < v.length):ixO (zeros k ++ v) ((k + i:Nat):Int) = some (at0 v i):=by
 rw [wW,List.getElem?_append_right (by rw [zR];omega),zR,show k + i - k = i from by omega,List.getElem?_eq_getElem h,at0,List.getD_eq_getElem?_getD,List.getElem?_eq_getElem h];rfl
theorem zCQ {x:SPr} (ho:Os x.zA):∀ (d k:Nat) (v:List Int),k + d = x.zA.length → V (suf x k) v → v.length = d ∧ ∀ i,i < d → 0 ≤ at0 v i ∧ at0 v i < at0 x.zA (k + i) ∧ at0 v i ≤ 6
 | 0,k,v,hk,hv => by
  rw [vT (by omega)] at hv
  simp only [V] at hv
  subst hv
  exact ⟨rfl,fun i hi => by omega⟩
 | d + 1,k,v,hk,hv => by
  rw [yJ (by omega)] at hv
  match v,hv with
  | a :: v,hv =>
   obtain ⟨h1,h2⟩:=zCQ ho d (k + 1) v (by omega) hv.2
   refine ⟨by simp [h1],fun i hi => ?_⟩
   cases i with
   | zero =>
    have h3:=hv.1
    simp only [lvl] at h3
    have:=(ho.2 k (by omega)).pos
    simp only [at0,List.getD_cons_zero,Nat.add_zero] at h3 this ⊢
    omega
   | succ i =>
    have:=h2 i (by omega)
    simp only [at0,List.getD_cons_succ] at this ⊢
    rw [show k + (i + 1) = k + 1 + i from by omega]
    exact this
theorem zDx {x:SPr} (h:Pres x) {k i:Nat} (hk:k < x.zA.length) (hi:i < x.zA.length - (k + 1)) :
  ∃ c,ixO x.zC (k:Int) = some (x.zC.getD k []) ∧ ixO (x.zC.getD k []) (i:Int) = some (zeros (k + 1) ++ c) ∧ V (suf x (k + 1)) c ∧ (lvl x k).cs.getD i [] = c:=by
 obtain ⟨t1,t2,t3⟩:=h.tl k hk
 have hc:=h.cl
 have ht:=t3 i (by omega)
 refine ⟨((x.zC.getD k []).getD i []).drop (k + 1),yC [] (by omega),?_,zH0 ht hk,?_⟩
 ·rw [yC [] (by omega),← zAG ht hk]
 ·simp only [lvl,List.getD_eq_getElem?_getD,List.getElem?_map]
  rw [List.getElem?_eq_getElem (l:=x.zC[k]?.getD []) (by rw [List.getD_eq_getElem?_getD] at t2;omega)]
  rfl
def FAt (x:SPr) (k:Nat) (g:SPr → Int → List Int → List Int → Option (List Int)):Prop :=
 ∀ a b,V (suf x k) a → V (suf x k) b → g x k (zeros k ++ a) (zeros k ++ b) = some (zeros k ++ mul (suf x k) a b)
def FIm (x:SPr) (k:Nat) (g:SPr → Int → List Int → Option (List Int)):Prop :=
 ∀ v,V (suf x (k + 1)) v → g x k (zeros (k + 1) ++ v) = some (zeros (k + 1) ++ sig (suf x (k + 1)) (lvl x k) v)
theorem zLp {x:SPr} (h:Pres x) {k:Nat} (hk:k < x.zA.length) {g:SPr → Int → List Int → List Int → Option (List Int)} (hg:FAt x (k + 1) g):FIm x k (b_e g):=by
 intro v hv
 have h6:=h.os.1
 have ok:=h.okAt (k:=k + 1) (by omega)
 obtain ⟨hvl,hvr⟩:=zCQ h.os (x.zA.length - (k + 1)) (k + 1) v (by omega) hv
 have hlen:=xE x (k + 1)
 have hcl:(lvl x k).cs.length = x.zA.length - (k + 1):=by
  have:=h.okAt (k:=k) (by omega)
  rw [yJ hk] at this
  rw [this.2.2.1,hlen]
 have hcs:∀ c ∈ (lvl x k).cs,V (suf x (k + 1)) c:=by
  have:=h.okAt (k:=k) (by omega)
  rw [yJ hk] at this
  exact this.2.2.2.1
 have hA:∀ i,V (suf x (k + 1)) (img (mul (suf x (k + 1))) ((lvl x k).cs.take i) (v.take i) (zeros (suf x (k + 1)).length)):=fun i =>
  sP (xI ok) _ _ (fun c hc => hcs c (List.mem_of_mem_take hc)) (wG ok)
 unfold b_e
 rw [yN (by omega),bs,zD (by omega) (by omega),bs,cs]
 have hz:List.replicate x.zA.length (0:Int) = zeros (k + 1) ++ zeros (suf x (k + 1)).length:=by
  rw [hlen];simp only [zeros,List.replicate_append_replicate];congr 1;omega
 rw [hz]
 have:=zN (body:=zQO g x k (zeros (k + 1) ++ v)) (r:=zeros (k + 1) ++ sig (suf x (k + 1)) (lvl x k) v)
  (fun i => (zeros (k + 1) ++ img (mul (suf x (k + 1))) ((lvl x k).cs.take i) (v.take i) (zeros (suf x (k + 1)).length),((k + 1 + i:Nat):Int))) (x.zA.length - (k + 1)) (fun i hi => by
  have hr:=hvr i hi
  obtain ⟨c,c1,c2,c3,c4⟩:=zDx h hk hi
  unfold zQO
  rw [decide_eq_true (by simp only;omega),zH]
  rw [wO (S:=V (suf x (k + 1))) (body:=zQN g x k (zeros (k + 1) ++ v) (zeros (k + 1) ++ img (mul (suf x (k + 1))) ((lvl x k).cs.take i) (v.take i) (zeros (suf x (k + 1)).length),((k + 1 + i:Nat):Int))) (fun u => zeros (k + 1) ++ u) (fun u => mul (suf x (k + 1)) u c) (at0 v i) hr.1 (fun u hu => xI ok hu c3) (fun u q hu hq => by
   unfold zQN
   simp only
   rw [zJF (by omega),bs,decide_eq_true hq,zH,zD (by omega) (by omega),bs,c1,bs,zD (by omega) (by omega),bs,zD (by omega) (by omega),bs,
    show (((k + 1 + i:Nat):Int) - (k:Int) - 1) = (i:Int) from by omega,c2,bs,cs,hg u c hu c3,bs,zD (by omega) (by omega),bs,cs]) (fun u hu => by
   unfold zQN
   simp only
   rw [zJF (by omega),bs,decide_eq_false (by omega),zF]) (hA i),bs,zD (by omega) (by omega),bs,cs]
  rw [zAH _ _ _ _ (by omega) (by omega),c4]
  rfl) (by
  unfold zQO
  rw [decide_eq_false (by simp only;omega),zF,List.take_of_length_le (by omega),List.take_of_length_le (by omega)]
  rfl)
 simp only [List.take_zero,img] at this
 rw [this,bs]
theorem zS7 {x:SPr} (h:Pres x) {k:Nat} (hk:k < x.zA.length) {g:SPr → Int → List Int → List Int → Option (List Int)} {gi:SPr → Int → List Int → Option (List Int)} (hg:FAt x (k + 1) g) (hi:FIm x k gi):FAt x k (b_a gi g):=by
 intro a b ha hb
 have h6:=h.os.1
 have hp:=(h.os.2 k hk).pos
 have ok:=h.okAt (k:=k + 1) (by omega)
 have ok0:=h.okAt (k:=k) (by omega)
 obtain ⟨hal,har⟩:=zCQ h.os (x.zA.length - k) k a (by omega) ha
 obtain ⟨hbl,hbr⟩:=zCQ h.os (x.zA.length - k) k b (by omega) hb
 rw [yJ hk] at ha hb ok0
 obtain ⟨a0,a,rfl⟩:∃ a0 a',a = a0 :: a':=by cases a with | nil => simp at hal;omega | cons p q => exact ⟨p,q,rfl⟩
 obtain ⟨b0,b,rfl⟩:∃ a0 a',b = a0 :: a':=by cases b with | nil => simp at hbl;omega | cons p q => exact ⟨p,q,rfl⟩
 obtain ⟨⟨a1,a2⟩,ha⟩:=ha
 obtain ⟨⟨b1,b2⟩,hb⟩:=hb
 have hor:(lvl x k).o = at0 x.zA k:=rfl
 rw [hor] at a2 b2
 unfold b_a
 rw [decide_eq_false (by omega),zF,tG (by simp [zR] at hal ⊢;omega),bs,tG (by simp [zR] at hbl ⊢;omega),bs,zBL,bs,zBL,bs,Int.toNat_natCast,zC5,zC5,zBc,zBc]
 have hsig:∀ u,V (suf x (k + 1)) u → V (suf x (k + 1)) (sig (suf x (k + 1)) (lvl x k) u):=fun u hu => zEg ok0 hu
 have hit:V (suf x (k + 1)) (iter b0.toNat (sig (suf x (k + 1)) (lvl x k)) a):=wV hsig _ ha
 rw [wO (S:=V (suf x (k + 1))) (fun u => zeros (k + 1) ++ u) (sig (suf x (k + 1)) (lvl x k)) b0 b1 hsig (fun u q hu hq => by
   unfold zSZ
   simp only
   rw [zBL,bs,decide_eq_true hq,zH,hi u hu,bs,zD (by omega) (by omega),bs,cs]) (fun u hu => by
   unfold zSZ
   simp only
   rw [zBL,bs,decide_eq_false (by omega),zF]) ha,bs,zD (by omega) (by omega),bs,cs,hg _ _ hit hb,bs,bs,bs,zD (by omega) (by omega),bs,yE hk,bs]
 have hm:=xI ok hit hb
 have hml:=(zCQ h.os (x.zA.length - (k + 1)) (k + 1) _ (by omega) hm).1
 have own:∀ u,V (suf x (k + 1)) u → f_s (zeros (k + 1) ++ u) = some (zeros (k + 1) ++ u):=fun u hu => tG (by
  have:=(zCQ h.os (x.zA.length - (k + 1)) (k + 1) _ (by omega) hu).1
  rw [List.length_append,zR];omega)
 rw [yJ hk,yR,hor]
 by_cases hge:a0 + b0 ≥ at0 x.zA k
 ·have t1:=(h.tl k hk).1
  have hw:=zH0 t1 hk
  have hwl:=h.pl
  rw [decide_eq_true hge,zH,if_pos hge,bs,zD (by omega) (by omega),bs,bs,yC [] (by omega),bs,zAG t1 hk,hg _ _ hw hm,bs,own _ (xI ok hw hm),bs]
  rw [← zBc,zBL,bs,zC5]
  rfl
 ·rw [decide_eq_false hge,zF,if_neg hge,own _ hm,bs,← zBc,zBL,bs,zC5]
theorem zEm {x:SPr} (h:Pres x):∀ (d k:Nat),k + d = x.zA.length → (∀ m,2 * d + 1 ≤ m → FAt x k (zLX m)) ∧ (1 ≤ d → ∀ m,2 * d ≤ m → FIm x k (zLW m))
 | 0,k,hk => by
  refine ⟨fun m hm a b ha hb => ?_,fun h => by omega⟩
  have h6:=h.os.1
  obtain ⟨m,rfl⟩:∃ m',m = m' + 1:=⟨m - 1,by omega⟩
  show b_a _ _ x k _ _ = _
  unfold b_a
  rw [decide_eq_true (by omega),zH,yN (by omega),bs,vT (by omega)]
  simp only [mul,List.append_nil,zeros]
  rw [show k = x.zA.length from by omega]
 | d + 1,k,hk => by
  obtain ⟨h1,h2⟩:=zEm h d (k + 1) (by omega)
  have hI:∀ m,2 * (d + 1) ≤ m → FIm x k (zLW m):=fun m hm => by
   obtain ⟨m,rfl⟩:∃ m',m = m' + 1:=⟨m - 1,by omega⟩
   exact zLp h (by omega) (h1 m (by omega))
  refine ⟨fun m hm => ?_,fun _ => hI⟩
  obtain ⟨m,rfl⟩:∃ m',m = m' + 1:=⟨m - 1,by omega⟩
  exact zS7 h (by omega) (h1 m (by omega)) (hI m (by omega))
theorem zNb {x:SPr} (h:Pres x) {k:Nat} (hk:k ≤ x.zA.length):FAt x k f_a:=fun a b ha hb =>
 zAC (2 * (x.zA.length - k) + 1) fun m hm => (zEm h (x.zA.length - k) k (by omega)).1 m hm a b ha hb
theorem zLq {x:SPr} (h:Pres x) {k:Nat} (hk:k < x.zA.length):FIm x k f_e:=fun v hv =>
 zAC (2 * (x.zA.length - k)) fun m hm => (zEm h (x.zA.length - k) k (by omega)).2 (by omega) m hm v hv
end Go.Pl

namespace Go.Pl
open Go Go.Ab Go.Wk Go.Pc
theorem zBM:∀ {P Q:Pcp},Q <:+ P → wY P → wY Q
 | [],Q,h,_ => by
  have:=List.suffix_nil.1 h
  subst this;simp only [wY]
 | l :: P,Q,h,hc => by
  rcases List.suffix_cons_iff.1 h with rfl | h
  ·exact hc
  ·exact zBM h hc.1
theorem zH1:∀ {P Q:Pcp},Q <:+ P → Pc.Ok P → Pc.Ok Q
 | [],Q,h,_ => by
  have:=List.suffix_nil.1 h
  subst this;simp only [Pc.Ok]
 | l :: P,Q,h,hc => by
  rcases List.suffix_cons_iff.1 h with rfl | h
  ·exact hc
  ·exact zH1 h hc.2.2.2.2
theorem zLr (x:SPr) (k:Nat):suf x (k + 1) <:+ suf x k:=by
 by_cases h:k < x.zA.length
 ·rw [yJ h];exact List.suffix_cons _ _
 ·rw [vT (by omega)];exact List.nil_suffix
theorem zDy {x:SPr} {k:Nat} (h:wY (suf x k)):∀ i,wY (suf x (k + i))
 | 0 => h
 | i + 1 => zBM (zLr x (k + i)) (zDy h i)
theorem zGg {x:SPr} (h:Pres x) {k:Nat} (hk:k ≤ x.zA.length) (hc:wY (suf x k)):Grp (V (suf x k)) (mul (suf x k)) (zeros (suf x k).length):=zMV _ (h.okAt hk) hc
theorem zFd {x:SPr}:∀ (i k:Nat) (v:Vec),k + i ≤ x.zA.length → V (suf x k) v → ∃ q v',v = q ++ v' ∧ q.length = i ∧ V (suf x (k + i)) v' ∧
  ∀ a b,V (suf x (k + i)) a → V (suf x (k + i)) b → mul (suf x k) (q ++ a) (zeros i ++ b) = q ++ mul (suf x (k + i)) a b
 | 0,k,v,_,hv => ⟨[],v,rfl,rfl,hv,fun a b _ _ => rfl⟩
 | i + 1,k,v,hk,hv => by
  rw [yJ (by omega)] at hv
  match v,hv with
  | e :: v,hv =>
   obtain ⟨q,v',h1,h2,h3,h4⟩:=zFd i (k + 1) v (by omega) hv.2
   rw [show k + 1 + i = k + (i + 1) from by omega] at h3 h4
   refine ⟨e :: q,v',by rw [h1];rfl,by simp [h2],h3,fun a b ha hb => ?_⟩
   have he:=hv.1
   rw [yJ (by omega)]
   show mul (lvl x k :: suf x (k + 1)) (e :: (q ++ a)) (0 :: (zeros i ++ b)) = _
   rw [yR,Int.add_zero,if_neg (by omega)]
   simp only [Int.toNat_zero,iter]
   rw [h4 a b ha hb];rfl
def FTV (x:SPr) (k:Nat) (g:SPr → List Int → List Int → Option (List Int)):Prop :=
 ∀ p v u,p.length = k → V (suf x k) v → V (suf x k) u → g x (p ++ v) (zeros k ++ u) = some (p ++ mul (suf x k) v u)
def FTG (x:SPr) (k:Nat) (g:SPr → List Int → Int → Option (List Int)):Prop :=
 ∀ p v,p.length = k → V (suf x k) v → g x (p ++ v) (k:Int) = some (p ++ mul (suf x k) v (1 :: zeros (x.zA.length - (k + 1))))
theorem zH2 {x:SPr} (h:Pres x) {k:Nat} (hk:k < x.zA.length) {g:SPr → List Int → List Int → Option (List Int)} (hg:FTV x (k + 1) g) {t:Vec} (ht:V (suf x (k + 1)) t)
  {body1:List Int × Int → Int → List Int × Int → Option ((List Int × Int) ⊕ List Int)} {body2:List Int × Int → Option ((List Int × Int) ⊕ List Int)}
  (hb2:∀ s,body2 s = cond (decide (s.2 < (t.length:Int))) ((ixO t s.2).bind fun v17 => (zG (body1 s v17) (s.1,0)).bind fun r => (rng (s.2 + 1)).bind fun v => some (.inl (r,v))) (some (.inr s.1)))
  (hb1:∀ s v q,body1 s v q = cond (decide (q.2 < v)) ((ixO x.zC (k:Int)).bind fun cl => (ixO cl s.2).bind fun c => (g x q.1 c).bind fun r => (rng (q.2 + 1)).bind fun w => some (.inl (r,w))) (some (.inr q.1)))
  {p:Vec} (hp:p.length = k + 1) {u:Vec} (hu:V (suf x (k + 1)) u):zG body2 (p ++ u,0) = some (p ++ img (mul (suf x (k + 1))) (lvl x k).cs t u):=by
 have h6:=h.os.1
 have ok:=h.okAt (k:=k + 1) (by omega)
 have ok0:=h.okAt (k:=k) (by omega)
 rw [yJ hk] at ok0
 obtain ⟨htl,htr⟩:=zCQ h.os (x.zA.length - (k + 1)) (k + 1) t (by omega) ht
 have hcl:(lvl x k).cs.length = x.zA.length - (k + 1):=by rw [ok0.2.2.1,xE]
 have hA:∀ i,V (suf x (k + 1)) (img (mul (suf x (k + 1))) ((lvl x k).cs.take i) (t.take i) u):=fun i =>
  sP (xI ok) _ _ (fun c hc => ok0.2.2.2.1 c (List.mem_of_mem_take hc)) hu
 have:=zN (body:=body2) (r:=p ++ img (mul (suf x (k + 1))) (lvl x k).cs t u) (fun i => (p ++ img (mul (suf x (k + 1))) ((lvl x k).cs.take i) (t.take i) u,(i:Int))) t.length (fun i hi => by
  have hr:=htr i (by omega)
  obtain ⟨c,c1,c2,c3,c4⟩:=zDx h hk (i:=i) (by omega)
  rw [hb2]
  simp only
  rw [yL hi,zH,yE hi,bs]
  rw [wO (S:=V (suf x (k + 1))) (fun u => p ++ u) (fun u => mul (suf x (k + 1)) u c) (at0 t i) hr.1 (fun u hu => xI ok hu c3) (fun u q hu hq => by
   rw [hb1]
   simp only
   rw [decide_eq_true hq,zH,c1,bs,c2,bs,hg p u c hp hu c3,bs,zD (by omega) (by omega),bs,cs]) (fun u hu => by
   rw [hb1]
   simp only
   rw [decide_eq_false (by omega),zF]) (hA i),bs,zD (by omega) (by omega),bs,cs]
  rw [zAH _ _ _ _ (by omega) (by omega),c4]) (by
  rw [hb2]
  simp only
  rw [yT,zF,List.take_of_length_le (by omega),List.take_of_length_le (by omega)])
 simp only [List.take_zero,img] at this
 exact this
theorem zUj {p v:Vec} {a:Int} {k:Nat} (hp:p.length = k):ixO (p ++ a :: v) (k:Int) = some a:=by
 rw [wW,List.getElem?_append_right (by omega),hp,Nat.sub_self];rfl
theorem p_set {p v:Vec} {a b:Int} {k:Nat} (hp:p.length = k):(p ++ a :: v).set k b = p ++ b :: v:=by
 rw [List.set_append_right _ _ (by omega),hp,Nat.sub_self,List.set_cons_zero]
theorem zJG {x:SPr} (h:Pres x) {k:Nat} (hk:k < x.zA.length) (hc:wY (suf x (k + 1))) {g:SPr → List Int → List Int → Option (List Int)} (hg:FTV x (k + 1) g):FTG x k (b_b g):=by
 intro p v hp hv
 have h6:=h.os.1
 have G:=zGg h (k:=k + 1) (by omega) hc
 have ok:=h.okAt (k:=k + 1) (by omega)
 have ok0:=h.okAt (k:=k) (by omega)
 obtain ⟨hvl,hvr⟩:=zCQ h.os (x.zA.length - k) k v (by omega) hv
 rw [yJ hk] at hv ok0
 obtain ⟨e,t,rfl⟩:∃ a0 a',v = a0 :: a':=by cases v with | nil => simp at hvl;omega | cons p q => exact ⟨p,q,rfl⟩
 obtain ⟨⟨e1,e2⟩,ht⟩:=hv
 have hor:(lvl x k).o = at0 x.zA k:=rfl
 rw [hor] at e2
 have hpr:=(h.os.2 k hk).pos
 have htl:=(zCQ h.os (x.zA.length - (k + 1)) (k + 1) t (by omega) ht).1
 have hsl:=xE x (k + 1)
 unfold b_b
 have hs:zU (p ++ e :: t) ((k + 1:Nat):Int) ((p ++ e :: t).length:Int) = some t:=by
  unfold zU
  rw [if_pos (by simp only [List.length_append,List.length_cons];omega)]
  have e3:(p ++ e :: t).drop (k + 1) = t:=by
   rw [List.drop_append,List.drop_of_length_le (by omega),hp,show k + 1 - k = 1 from by omega];rfl
  simp only [Int.toNat_natCast,e3,List.length_append,List.length_cons]
  rw [List.take_of_length_le (by omega)]
 have hclone:f_w t = some t:=by
  unfold f_w
  rw [yD (by simp;omega),bs,List.nil_append]
 rw [zD (by omega) (by omega),bs,cs,hs,bs,hclone,bs]
 have hz:=zN (body:=zRh k t) (r:=(p ++ [e]) ++ zeros t.length) (fun i => ((p ++ [e]) ++ (zeros i ++ t.drop i),(i:Int))) t.length (fun i hi => by
  have hl:((p ++ [e]) ++ zeros i).length = k + 1 + i:=by simp [zR,hp];omega
  unfold zRh
  simp only
  rw [yL hi,zH,zD (by omega) (by omega),bs,zD (by omega) (by omega),bs,show (k:Int) + 1 + (i:Int) = ((k + 1 + i:Nat):Int) from by omega,wW,← List.append_assoc,List.getElem?_append_right (by omega),hl,Nat.sub_self,
   List.drop_eq_getElem_cons hi,List.getElem?_cons_zero,bs,zD (by omega) (by omega),bs,cs,Int.toNat_natCast,List.set_append_right _ _ (by omega),hl,Nat.sub_self,List.set_cons_zero,zEH]
  simp only [List.append_assoc,List.cons_append,List.nil_append]) (by
  unfold zRh
  simp only
  rw [yT,zF,List.drop_length,List.append_nil])
 simp only [zeros,List.replicate_zero,List.drop_zero,List.nil_append,List.append_assoc,List.singleton_append] at hz
 rw [show ((0:Nat):Int) = 0 from rfl] at hz
 rw [hz,bs,Int.toNat_natCast,zUj hp,bs,zD (by omega) (by omega),bs,bs,p_set hp,zUj hp,bs,yE hk,bs]
 have hz2:List.replicate t.length (0:Int) = zeros (suf x (k + 1)).length:=by rw [hsl,htl];rfl
 rw [yJ hk,yR,hor]
 have hone:mul (suf x (k + 1)) (iter (1:Int).toNat (sig (suf x (k + 1)) (lvl x k)) t) (zeros (x.zA.length - (k + 1))) = sig (suf x (k + 1)) (lvl x k) t:=by
  rw [← hsl]
  show mul _ (sig (suf x (k + 1)) (lvl x k) t) _ = _
  exact G.oner (zEg ok0 ht)
 rw [hone,hz2]
 by_cases heq:e + 1 = at0 x.zA k
 ·have t1:=(h.tl k hk).1
  have hw:=zH0 t1 hk
  have hwl:=h.pl
  have hp1:(p ++ [(0:Int)]).length = k + 1:=by simp [hp]
  rw [show (e + 1 == at0 x.zA k) = true from by simpa using heq,zH,if_pos (by omega),bs,yC [] (by omega),bs,p_set hp]
  have hz3:p ++ 0 :: zeros (suf x (k + 1)).length = (p ++ [0]) ++ zeros (suf x (k + 1)).length:=by simp
  rw [hz3,zAG t1 hk,hg _ _ _ hp1 G.ein hw,bs,G.onel hw]
  rw [zH2 (body1:=zV3 g x k) (body2:=zV4 g x k t) h hk hg ht (fun _ => rfl) (fun _ _ _ => rfl) hp1 hw,bs]
  rw [zDv G.toMon _ _ ok0.2.2.2.1 hw,show e + 1 - at0 x.zA k = 0 from by omega]
  simp only [List.append_assoc,List.singleton_append]
  rfl
 ·have hp1:(p ++ [e + 1]).length = k + 1:=by simp [hp]
  rw [show (e + 1 == at0 x.zA k) = false from by simpa using heq,zF,if_neg (by omega)]
  have hz3:p ++ (e + 1) :: zeros (suf x (k + 1)).length = (p ++ [e + 1]) ++ zeros (suf x (k + 1)).length:=by simp
  rw [hz3,zH2 (body1:=zV5 g x k) (body2:=zV6 g x k t) h hk hg ht (fun _ => rfl) (fun _ _ _ => rfl) hp1 G.ein,bs]
  simp only [List.append_assoc,List.singleton_append]
  rfl
theorem jZ {n i:Nat} (h:i < n):wI n i = zeros i ++ 1 :: zeros (n - (i + 1)):=by
 have:zeros n = zeros i ++ 0 :: zeros (n - (i + 1)):=by
  simp only [zeros]
  rw [← List.replicate_succ,List.replicate_append_replicate]
  congr 1;omega
 rw [wI,this,zC5]
theorem zDz (n:Nat):(xN n).length = n:=by simp [xN]
theorem zGh {n i:Nat} (h:i < n):(xN n).getD i [] = wI n i:=by
 simp [xN,List.getD_eq_getElem?_getD,h]
theorem zPP {x:SPr} (h:Pres x) {k:Nat} (hk:k ≤ x.zA.length) (hc:wY (suf x k)) {g:SPr → List Int → Int → Option (List Int)} (hg:∀ j,k ≤ j → j < x.zA.length → FTG x j g):FTV x k (b_c g):=by
 intro p v u hp hv hu
 have h6:=h.os.1
 have G:=zGg h hk hc
 have ok:=h.okAt hk
 obtain ⟨hul,hur⟩:=zCQ h.os (x.zA.length - k) k u (by omega) hu
 have hsl:=xE x k
 have hV1:∀ j,j ≤ x.zA.length → j < x.zA.length → V (suf x j) (1 :: zeros (x.zA.length - (j + 1))):=fun j hj hj' => by
  rw [yJ hj']
  have:=(h.os.2 j hj').pos
  refine ⟨⟨by omega,by show 1 < at0 x.zA j;omega⟩,?_⟩
  rw [← xE]
  exact wG (h.okAt (by omega))
 have hUn:∀ i,i < x.zA.length - k → V (suf x k) (wI (x.zA.length - k) i):=fun i hi => by
  rw [← hsl] at hi ⊢
  exact zCP ok hi
 have hUs:∀ c ∈ xN (x.zA.length - k),V (suf x k) c:=fun c hc => by
  simp only [xN,List.mem_map,List.mem_range] at hc
  obtain ⟨i,hi,rfl⟩:=hc
  exact hUn i hi
 have hA:∀ i,V (suf x k) (img (mul (suf x k)) ((xN (x.zA.length - k)).take i) (u.take i) v):=fun i =>
  sP (xI ok) _ _ (fun c hc => hUs c (List.mem_of_mem_take hc)) hv
 have hgen:∀ i w,i < x.zA.length - k → V (suf x k) w → g x (p ++ w) ((k + i:Nat):Int) = some (p ++ mul (suf x k) w (wI (x.zA.length - k) i)):=fun i w hi hw => by
  obtain ⟨q,w',h1,h2,h3,h4⟩:=zFd i k w (by omega) hw
  have h5:=hg (k + i) (by omega) (by omega) (p ++ q) w' (by simp [hp,h2]) h3
  rw [List.append_assoc,← h1] at h5
  rw [h5,jZ hi,h1,show x.zA.length - k - (i + 1) = x.zA.length - (k + i + 1) from by omega,h4 w' _ h3 (hV1 (k + i) (by omega) (by omega)),List.append_assoc]
 unfold b_c
 have hul2:(zeros k ++ u).length = x.zA.length:=by simp [zR];omega
 have:=zN (body:=zRj g x (zeros k ++ u)) (r:=p ++ mul (suf x k) v u) (fun j => (p ++ img (mul (suf x k)) ((xN (x.zA.length - k)).take (j - k)) (u.take (j - k)) v,(j:Int))) x.zA.length (fun j hj => by
  unfold zRj
  simp only
  rw [hul2,yL hj,zH]
  rcases Nat.lt_or_ge j k with hjk | hjk
  ·have e0:ixO (zeros k ++ u) (j:Int) = some 0:=by
    rw [wW,List.getElem?_append_left (by rw [zR];exact hjk)]
    simp [zeros,hjk]
   rw [e0,bs,show j - k = 0 from by omega,show j + 1 - k = 0 from by omega]
   rw [xC]
   unfold zRi
   simp only
   rw [show decide ((0:Int) < 0) = false from rfl,zF]
   simp only
   rw [bs,zD (by omega) (by omega),bs,cs]
  ·obtain ⟨i,rfl⟩:∃ i,j = k + i:=⟨j - k,by omega⟩
   have hi:i < x.zA.length - k:=by omega
   have hr:=hur i hi
   rw [zJF (by omega),bs,show k + i - k = i from by omega,show k + i + 1 - k = i + 1 from by omega]
   rw [wO (S:=V (suf x k)) (fun w => p ++ w) (fun w => mul (suf x k) w (wI (x.zA.length - k) i)) (at0 u i) hr.1 (fun w hw => xI ok hw (hUn i hi)) (fun w q hw hq => by
    unfold zRi
    simp only
    rw [decide_eq_true hq,zH,hgen i w hi hw,bs,zD (by omega) (by omega),bs,cs]) (fun w hw => by
    unfold zRi
    simp only
    rw [decide_eq_false (by omega),zF]) (hA i),bs,zD (by omega) (by omega),bs,cs]
   rw [zAH _ _ _ _ (by rw [zDz];exact hi) (by omega),zGh hi]) (by
  unfold zRj
  simp only
  rw [hul2,yT,zF,List.take_of_length_le (by rw [zDz];omega),List.take_of_length_le (by omega),zDv G.toMon _ _ hUs hv]
  have hn:=normal (suf x k) ok (fun Q hQ => (zMV Q (zH1 hQ ok) (zBM hQ hc)).toMon) u hu
  rw [hsl] at hn ⊢
  rw [hn])
 simp only [Nat.zero_sub,List.take_zero,img] at this
 rw [show ((0:Nat):Int) = 0 from rfl] at this
 rw [this,bs]
theorem zEn {x:SPr} (h:Pres x):∀ (d k:Nat),k + d = x.zA.length → wY (suf x k) → (∀ m,2 * d + 1 ≤ m → FTV x k (zOm m))
 | d,k,hk,hc => fun m hm => by
  obtain ⟨m,rfl⟩:∃ m',m = m' + 1:=⟨m - 1,by omega⟩
  refine zPP h (by omega) hc fun j hj hjn => ?_
  obtain ⟨m,rfl⟩:∃ m',m = m' + 1:=⟨m - 1,by omega⟩
  have hcj:wY (suf x (j + 1)):=by
   have:=zDy hc (j + 1 - k)
   rwa [show k + (j + 1 - k) = j + 1 from by omega] at this
  exact zJG h hjn hcj (zEn h (x.zA.length - (j + 1)) (j + 1) (by omega) hcj m (by omega))
 termination_by d => d
 decreasing_by omega
theorem zS8 {x:SPr} (h:Pres x) {k:Nat} (hk:k ≤ x.zA.length) (hc:wY (suf x k)):FTV x k f_c:=fun p v u hp hv hu =>
 zAC (2 * (x.zA.length - k) + 1) fun m hm => zEn h (x.zA.length - k) k (by omega) hc m hm p v u hp hv hu
theorem zS9 {x:SPr} (h:Pres x) {k:Nat} (hk:k < x.zA.length) (hc:wY (suf x (k + 1))):FTG x k f_b:=fun p v hp hv =>
 zAC (2 * (x.zA.length - k)) fun m hm => by
  obtain ⟨m,rfl⟩:∃ m',m = m' + 1:=⟨m - 1,by omega⟩
  exact zJG h hk hc (zEn h (x.zA.length - (k + 1)) (k + 1) (by omega) hc m (by omega)) p v hp hv
end Go.Pl

namespace Go.Pl
open Go Go.Ab Go.Wk Go.Pc
abbrev fv (k:Nat) (v:Vec):Vec:=zeros k ++ v
section
variable {x:SPr} (h:Pres x) {k:Nat} (hk:k ≤ x.zA.length) (hc:wY (suf x k))
 include h hk
theorem sG {v:Vec} (hv:V (suf x k) v):v.length = x.zA.length - k:=(zCQ h.os (x.zA.length - k) k v (by omega) hv).1
theorem zBN {v:Vec} (hv:V (suf x k) v):(fv k v).length = x.zA.length:=by
 rw [List.length_append,zR,sG h hk hv];omega
theorem zNc:List.replicate x.zA.length (0:Int) = fv k (zeros (suf x k).length):=by
 have _:=h
 rw [xE];simp only [fv,zeros,List.replicate_append_replicate];congr 1;omega
 include hc
theorem zLs {i:Nat} (hi:i < x.zA.length - k):V (suf x k) (wI (x.zA.length - k) i):=by
 have _:=hc
 have:=xE x k
 rw [← this] at hi ⊢
 exact zCP (h.okAt hk) hi
theorem zJH {p:Vec} (hp:p.length = k) {i:Nat} (hi:i < x.zA.length - k) {w:Vec} (hw:V (suf x k) w):f_b x (p ++ w) ((k + i:Nat):Int) = some (p ++ mul (suf x k) w (wI (x.zA.length - k) i)):=by
 obtain ⟨q,w',h1,h2,h3,h4⟩:=zFd i k w (by omega) hw
 have hcj:wY (suf x (k + i + 1)):=zDy hc (i + 1)
 have h5:=zS9 h (k:=k + i) (by omega) hcj (p ++ q) w' (by simp [hp,h2]) h3
 have h7:V (suf x (k + i)) (1 :: zeros (x.zA.length - (k + i + 1))):=by
  have hj':k + i < x.zA.length:=by omega
  rw [yJ hj']
  have:=(h.os.2 (k + i) hj').pos
  refine ⟨⟨by omega,by show 1 < at0 x.zA (k + i);omega⟩,?_⟩
  rw [← xE]
  exact wG (h.okAt (by omega))
 rw [List.append_assoc,← h1] at h5
 rw [h5,jZ hi,h1,show x.zA.length - k - (i + 1) = x.zA.length - (k + i + 1) from by omega,h4 w' _ h3 h7,List.append_assoc]
theorem zGi {a b:Vec} (ha:V (suf x k) a) (hb:V (suf x k) b):f_c x (fv k a) (fv k b) = some (fv k (mul (suf x k) a b)) :=
 zS8 h hk hc (zeros k) a b (zR k) ha hb
theorem zJI {a:Vec} (ha:V (suf x k) a):f_w (fv k a) = some (fv k a):=by
 have _:=hc
 have:=zBN h hk ha
 have h6:=h.os.1
 unfold f_w
 rw [yD (by simp only [List.length_nil];omega),bs,List.nil_append]
theorem zC6 {a b:Vec} (ha:V (suf x k) a) (hb:V (suf x k) b):zRo x (fv k a) (fv k b) = some (fv k (mul (suf x k) a b)):=by
 unfold zRo
 rw [zJI h hk hc ha,bs,zGi h hk hc ha hb,bs]
theorem zLt {c:Vec} (hcv:V (suf x k) c) {e:Int} (e0:0 ≤ e) (e1:e ≤ 1000):zTg x (fv k c) e = some (fv k (pw (mul (suf x k)) (zeros (suf x k).length) c e.toNat)):=by
 have h6:=h.os.1
 have ok:=h.okAt hk
 unfold zTg
 rw [zBN h hk hcv,yN (by omega),bs,zNc h hk]
 rw [wO (S:=V (suf x k)) (body:=zKx x (fv k c) e) (fun u => fv k u) (fun u => mul (suf x k) u c) e e0 (fun u hu => xI ok hu hcv) (fun u i hu hi => by
  unfold zKx
  simp only
  rw [decide_eq_true hi,zH,zGi h hk hc hu hcv,bs,zD (by omega) (by omega),bs,cs]) (fun u hu => by
  unfold zKx
  simp only
  rw [decide_eq_false (by omega),zF]) (wG ok),bs]
 rfl
theorem zJJ {v:Vec} (hv:V (suf x k) v):∃ w,V (suf x k) w ∧ mul (suf x k) v w = zeros (suf x k).length ∧ f_H x (fv k v) = some (fv k w):=by
 have h6:=h.os.1
 have ok:=h.okAt hk
 have G:=zGg h hk hc
 have hvl:=zBN h hk hv
 have hsl:=xE x k
 unfold f_H
 rw [zJI h hk hc hv,bs,hvl,yN (by omega),bs,zNc h hk]
 let I:Nat → (List Int × List Int × Int) → Prop:=fun j s => ∃ A w,s = (fv k A,fv k w,(j:Int)) ∧ V (suf x k) A ∧ V (suf x k) w ∧ mul (suf x k) v w = A ∧ ∃ A',A = zeros (j - k) ++ A'
 have key:=vO (body:=zRn x (fv k v)) (Q:=fun r => ∃ w,V (suf x k) w ∧ mul (suf x k) v w = zeros (suf x k).length ∧ r = fv k w) I x.zA.length (fun j s hj hI => by
  obtain ⟨A,w,rfl,hA,hw,hm,A',hA'⟩:=hI
  left
  unfold zRn
  simp only
  rw [hvl,yL hj,zH]
  rcases Nat.lt_or_ge j k with hjk | hjk
  ·have e0:ixO (fv k A) (j:Int) = some 0:=by
    rw [wW,List.getElem?_append_left (by rw [zR];exact hjk)]
    simp [zeros,hjk]
   rw [xC]
   unfold zOn
   simp only
   rw [e0,bs,show ((0:Int) != 0) = false from rfl,zF]
   simp only
   rw [bs,zD (by omega) (by omega),bs,cs]
   exact ⟨_,rfl,A,w,rfl,hA,hw,hm,A,by rw [show j + 1 - k = 0 from by omega];rfl⟩
  ·obtain ⟨i,rfl⟩:∃ i,j = k + i:=⟨j - k,by omega⟩
   have hi:i < x.zA.length - k:=by omega
   rw [show k + i - k = i from by omega] at hA'
   have hAl:=sG h hk hA
   obtain ⟨a0,A',rfl⟩:∃ p q,A' = p :: q:=by
    cases A' with
    | nil => rw [hA',List.length_append,zR,List.length_nil] at hAl;omega
    | cons p q => exact ⟨p,q,rfl⟩
   have hpr:=(h.os.2 (k + i) hj).pos
   have inner:=vO (body:=zOn x (fv k A,fv k w,((k + i:Nat):Int))) (s:=(fv k A,fv k w))
    (Q:=fun r => ∃ B u,r = (fv k B,fv k u) ∧ V (suf x k) B ∧ V (suf x k) u ∧ mul (suf x k) v u = B ∧ ∃ B',B = zeros (i + 1) ++ B')
    (fun q s => ∃ B u b B',s = (fv k B,fv k u) ∧ V (suf x k) B ∧ V (suf x k) u ∧ mul (suf x k) v u = B ∧ B = zeros i ++ b :: B' ∧ (b = 0 ∨ b = a0 + q)) 10 (fun q s hq hs => by
     obtain ⟨B,u,b,B',rfl,hB,hu,hmu,hB',hb⟩:=hs
     have hz:ixO (fv k B) ((k + i:Nat):Int) = some b:=by
      rw [fv,zJF (by rw [sG h hk hB];exact hi),hB',at0,List.getD_eq_getElem?_getD,List.getElem?_append_right (by rw [zR];omega),zR,Nat.sub_self];rfl
     unfold zOn
     simp only
     rw [hz,bs]
     by_cases hb0:b = 0
     ·subst hb0
      right
      rw [show ((0:Int) != 0) = false from rfl,zF]
      exact ⟨_,rfl,B,u,rfl,hB,hu,hmu,B',by rw [hB',zBc]⟩
     ·left
      have hbq:b = a0 + q:=by rcases hb with hb | hb;exact absurd hb hb0;exact hb
      rw [show (b != 0) = true from by simpa using hb0,zH,zJH h hk hc (zR k) hi hB,bs,zJH h hk hc (zR k) hi hu,bs]
      have hU:=zLs h hk hc hi
      obtain ⟨q',v',h1,h2,h3,h4⟩:=zFd i k B (by omega) hB
      have hqv:q' = zeros i ∧ v' = b :: B':=by
       rw [hB'] at h1
       have:=List.append_inj h1 (by rw [zR,h2])
       exact ⟨this.1.symm,this.2.symm⟩
      obtain ⟨rfl,rfl⟩:=hqv
      have h7:V (suf x (k + i)) (1 :: zeros (x.zA.length - (k + i + 1))):=by
       rw [yJ hj]
       refine ⟨⟨by omega,by show 1 < at0 x.zA (k + i);omega⟩,?_⟩
       rw [← xE]
       exact wG (h.okAt (by omega))
      have h8:=h4 (b :: B') _ h3 h7
      rw [show x.zA.length - (k + i + 1) = x.zA.length - k - (i + 1) from by omega,← jZ hi,← h1,yJ hj,yR] at h8
      refine ⟨_,rfl,mul (suf x k) B (wI (x.zA.length - k) i),mul (suf x k) u (wI (x.zA.length - k) i),?_⟩
      have hor:(lvl x (k + i)).o = at0 x.zA (k + i):=rfl
      rw [hor] at h8
      by_cases hge:b + 1 ≥ at0 x.zA (k + i)
      ·rw [if_pos hge] at h8
       refine ⟨_,_,rfl,xI ok hB hU,xI ok hu hU,?_,h8,?_⟩
       ·rw [← G.assoc hv hu hU,hmu]
       ·left
        rw [yJ hj] at h3
        have:=h3.1.2
        rw [hor] at this
        omega
      ·rw [if_neg hge] at h8
       refine ⟨_,_,rfl,xI ok hB hU,xI ok hu hU,?_,h8,?_⟩
       ·rw [← G.assoc hv hu hU,hmu]
       ·right;omega) (fun s hs => by
     obtain ⟨B,u,b,B',rfl,hB,hu,hmu,hB',hb⟩:=hs
     have hz:ixO (fv k B) ((k + i:Nat):Int) = some b:=by
      rw [fv,zJF (by rw [sG h hk hB];exact hi),hB',at0,List.getD_eq_getElem?_getD,List.getElem?_append_right (by rw [zR];omega),zR,Nat.sub_self];rfl
     have hbr:=(zCQ h.os (x.zA.length - k) k B (by omega) hB).2 i hi
     have ha:=(zCQ h.os (x.zA.length - k) k A (by omega) hA).2 i hi
     have e1:at0 B i = b:=by rw [hB',at0,List.getD_eq_getElem?_getD,List.getElem?_append_right (by rw [zR];omega),zR,Nat.sub_self];rfl
     have e2:at0 A i = a0:=by rw [hA',at0,List.getD_eq_getElem?_getD,List.getElem?_append_right (by rw [zR];omega),zR,Nat.sub_self];rfl
     have hb0:b = 0:=by omega
     subst hb0
     unfold zOn
     simp only
     rw [hz,bs,show ((0:Int) != 0) = false from rfl,zF]
     exact ⟨_,rfl,B,u,rfl,hB,hu,hmu,B',by rw [hB',zBc]⟩) ⟨A,w,a0,A',rfl,hA,hw,hm,hA',.inr (by omega)⟩
   obtain ⟨r,r1,B,u,rfl,hB,hu,hmu,B',hB'⟩:=inner
   rw [r1,bs,zD (by omega) (by omega),bs,cs]
   exact ⟨_,rfl,B,u,rfl,hB,hu,hmu,B',by rw [hB',show k + i + 1 - k = i + 1 from by omega]⟩) (fun s hI => by
  obtain ⟨A,w,rfl,hA,hw,hm,A',hA'⟩:=hI
  unfold zRn
  simp only
  rw [hvl,yT,zF]
  refine ⟨_,rfl,w,hw,?_,rfl⟩
  have hAl:=sG h hk hA
  rw [hA',List.length_append,zR] at hAl
  rw [hm,hA',List.eq_nil_of_length_eq_zero (l:=A') (by omega),List.append_nil,hsl]) (s:=(fv k v,fv k (zeros (suf x k).length),0))
  ⟨v,_,rfl,hv,wG ok,G.oner hv,v,by rw [Nat.zero_sub];rfl⟩
 obtain ⟨r,r1,w,hw,hm,rfl⟩:=key
 rw [r1,bs]
 exact ⟨w,hw,hm,rfl⟩
theorem zBO {a b:Vec} (ha:V (suf x k) a) (hb:V (suf x k) b):∃ c,V (suf x k) c ∧ mul (suf x k) b c = mul (suf x k) a b ∧ zRp x (fv k a) (fv k b) = some (fv k c):=by
 have ok:=h.okAt hk
 have G:=zGg h hk hc
 obtain ⟨w,hw,hm,h1⟩:=zJJ h hk hc hb
 have hab:=xI ok ha hb
 refine ⟨mul (suf x k) w (mul (suf x k) a b),xI ok hw hab,?_,?_⟩
 ·rw [← G.assoc hb hw hab,hm,G.onel hab]
 ·unfold zRp
  rw [h1,bs,zC6 h hk hc ha hb,bs,zC6 h hk hc hw hab,bs]
end
theorem zCR {a b:List Int} (h:a.length ≤ 1000000):f_S a b = some (a == b) :=
 zHz (t:=fun u v => some (u == v)) (body:=zV7 a b) rfl (fun _ => rfl) (by omega) fun _ _ _ _ => rfl
theorem zNK {a b:List Int} (h:a.length ≤ 1000000):f_Z a b = some (a == b):=zCR h
end Go.Pl

namespace Go.Pl
open Go Go.Ab Go.Wk Go.Pc
theorem zJK {ρ:Type} {body:Int → Option (Int ⊕ (Unit ⊕ ρ))} (n i0:Nat) (hn:i0 ≤ n) (P:Nat → Prop) (B:ρ → Prop)
  (h:∀ i,i0 ≤ i → i < n → (∀ j,i0 ≤ j → j < i → P j) → (body (i:Int) = some (.inl ((i + 1:Nat):Int)) ∧ P i) ∨ (∃ r,body (i:Int) = some (.inr (.inr r)) ∧ B r ∧ ¬ P i))
  (he:body (n:Int) = some (.inr (.inl ()))) :
  (zG body (i0:Int) = some (.inl ()) ∧ ∀ j,i0 ≤ j → j < n → P j) ∨ ∃ r i,i0 ≤ i ∧ i < n ∧ zG body (i0:Int) = some (.inr r) ∧ B r ∧ ¬ P i:=by
 have key:∀ k i,i0 ≤ i → i + k = n → (∀ j,i0 ≤ j → j < i → P j) → (zG body (i:Int) = some (.inl ()) ∧ ∀ j,i0 ≤ j → j < n → P j) ∨ ∃ r q,i0 ≤ q ∧ q < n ∧ zG body (i:Int) = some (.inr r) ∧ B r ∧ ¬ P q:=by
  intro k
  induction k with
  | zero =>
   intro i hi hk hp
   obtain rfl:i = n:=by omega
   exact .inl ⟨by rw [xC,he],hp⟩
  | succ k ih =>
   intro i hi hk hp
   rcases h i hi (by omega) hp with ⟨h1,h2⟩ | ⟨r,h1,h2,h3⟩
   ·have:=ih (i + 1) (by omega) (by omega) fun j a b => by
     rcases Nat.lt_or_ge j i with c | c
     ·exact hp j a c
     ·rw [show j = i from by omega];exact h2
    rw [xC,h1]
    exact this
   ·exact .inr ⟨r,i,hi,by omega,by rw [xC,h1],h2,h3⟩
 exact key (n - i0) i0 (Nat.le_refl _) (by omega) fun j a b => by omega
theorem zGj {σ ρ:Type} {body:σ → Option (σ ⊕ ρ)} {Q:ρ → Prop} (I:σ → Prop) (m:σ → Nat)
  (h:∀ s,I s → (∃ s',body s = some (.inl s') ∧ I s' ∧ m s' < m s) ∨ ∃ r,body s = some (.inr r) ∧ Q r):∀ (k:Nat) (s:σ),m s ≤ k → I s → ∃ r,zG body s = some r ∧ Q r
 | k,s,hk,hs => by
  rcases h s hs with ⟨s',h1,h2,h3⟩ | ⟨r,h1,h2⟩
  ·cases k with
   | zero => omega
   | succ k =>
    obtain ⟨r,h4,h5⟩:=zGj I m h k s' (by omega) h2
    exact ⟨r,by rw [xC,h1];exact h4,h5⟩
  ·exact ⟨r,by rw [xC,h1],h2⟩
theorem zVb {k:Nat} {a b:Vec}:(fv k a == fv k b) = true ↔ a = b:=by
 rw [beq_iff_eq];exact ⟨fun h => List.append_cancel_left h,fun h => by rw [h]⟩
theorem zBP {x:SPr} {v:List Int} {i k:Nat} (h:Exp x.zA v i) (hk:k ≤ i + 1) (hn:k ≤ x.zA.length):v = fv k (v.drop k) ∧ V (suf x k) (v.drop k):=by
 have h1:=h.1.1
 constructor
 ·apply List.ext_getElem?
  intro j
  rw [fv,List.getElem?_append]
  simp only [zeros,List.length_replicate,List.getElem?_replicate,List.getElem?_drop]
  split
  ·rename_i hj
   have h2:=h.2 j (by omega)
   rw [List.getElem?_eq_getElem (by omega)]
   rw [at0,List.getD_eq_getElem?_getD,List.getElem?_eq_getElem (by omega)] at h2
   simpa using h2
  ·rw [show k + (j - k) = j from by omega]
 ·refine zVa (x.zA.length - k) k _ (by omega) (by rw [List.length_drop];omega) fun j hj => ?_
  have:=h.1.2 (k + j) (by omega)
  have e:at0 (v.drop k) j = at0 v (k + j):=by simp only [at0,List.getD_eq_getElem?_getD,List.getElem?_drop]
  rw [e];exact this
structure LC (x:SPr) (k:Nat):Prop where
 c1:∀ j,k + 1 ≤ j → j < x.zA.length → pw (mul (suf x (k + 1))) (zeros (suf x (k + 1)).length) ((lvl x k).cs.getD (j - (k + 1)) []) (at0 x.zA j).toNat = sig (suf x (k + 1)) (lvl x k) ((x.zT.getD j []).drop (k + 1))
 c2:∀ i,k + 1 ≤ i → i < x.zA.length → ∀ j,i + 1 ≤ j → j < x.zA.length →
  mul (suf x (k + 1)) ((lvl x k).cs.getD (j - (k + 1)) []) ((lvl x k).cs.getD (i - (k + 1)) []) = mul (suf x (k + 1)) ((lvl x k).cs.getD (i - (k + 1)) []) (sig (suf x (k + 1)) (lvl x k) (((x.zC.getD i []).getD (j - (i + 1)) []).drop (k + 1)))
 c3:sig (suf x (k + 1)) (lvl x k) (lvl x k).w = (lvl x k).w
 c4:∀ j,k + 1 ≤ j → j < x.zA.length → mul (suf x (k + 1)) (lvl x k).w (iter (lvl x k).o.toNat (sig (suf x (k + 1)) (lvl x k)) (wI (x.zA.length - (k + 1)) (j - (k + 1)))) = mul (suf x (k + 1)) (wI (x.zA.length - (k + 1)) (j - (k + 1))) (lvl x k).w
section
variable {x:SPr} (h:Pres x) {k:Nat} (hk:k < x.zA.length) (hc:wY (suf x (k + 1)))
 include h hk
theorem jD {j:Nat} (h1:k + 1 ≤ j) (h2:j < x.zA.length):ixO x.zC (k:Int) = some (x.zC.getD k []) ∧ ixO (x.zC.getD k []) ((j:Int) - (k:Int) - 1) = some (fv (k + 1) ((lvl x k).cs.getD (j - (k + 1)) [])) ∧ V (suf x (k + 1)) ((lvl x k).cs.getD (j - (k + 1)) []):=by
 obtain ⟨c,c1,c2,c3,c4⟩:=zDx h hk (i:=j - (k + 1)) (by omega)
 rw [c4]
 refine ⟨c1,?_,c3⟩
 rw [show (j:Int) - (k:Int) - 1 = ((j - (k + 1):Nat):Int) from by omega]
 exact c2
theorem zPQ {j:Nat} (h1:k + 1 ≤ j) (h2:j < x.zA.length):ixO x.zT (j:Int) = some (fv (k + 1) ((x.zT.getD j []).drop (k + 1))) ∧ V (suf x (k + 1)) ((x.zT.getD j []).drop (k + 1)):=by
 have t1:=(h.tl j h2).1
 have hl:=h.pl
 obtain ⟨e1,e2⟩:=zBP (k:=k + 1) t1 (by omega) (by omega)
 exact ⟨by rw [yC [] (by omega),← e1],e2⟩
theorem zPR {i j:Nat} (h1:k + 1 ≤ i) (h2:i + 1 ≤ j) (h3:j < x.zA.length):ixO x.zC (i:Int) = some (x.zC.getD i []) ∧ ixO (x.zC.getD i []) ((j:Int) - (i:Int) - 1) = some (fv (k + 1) (((x.zC.getD i []).getD (j - (i + 1)) []).drop (k + 1))) ∧ V (suf x (k + 1)) (((x.zC.getD i []).getD (j - (i + 1)) []).drop (k + 1)):=by
 obtain ⟨_,t2,t3⟩:=h.tl i (by omega)
 have hl:=h.cl
 obtain ⟨e1,e2⟩:=zBP (k:=k + 1) (t3 (j - (i + 1)) (by omega)) (by omega) (by omega)
 refine ⟨yC [] (by omega),?_,e2⟩
 rw [show (j:Int) - (i:Int) - 1 = ((j - (i + 1):Nat):Int) from by omega,yC [] (by omega),← e1]
theorem zVc:ixO x.zT (k:Int) = some (fv (k + 1) (lvl x k).w) ∧ V (suf x (k + 1)) (lvl x k).w:=by
 have t1:=(h.tl k hk).1
 have hl:=h.pl
 obtain ⟨e1,e2⟩:=zBP (k:=k + 1) t1 (by omega) (by omega)
 exact ⟨by rw [yC [] (by omega)];exact congrArg some e1,e2⟩
theorem zPS {v:Vec} (hv:V (suf x (k + 1)) v):V (suf x (k + 1)) (sig (suf x (k + 1)) (lvl x k) v):=by
 have ok0:=h.okAt (k:=k) (by omega)
 rw [yJ hk] at ok0
 exact zEg ok0 hv
theorem zH3 {j:Nat} (h1:k + 1 ≤ j) (h2:j < x.zA.length):zGW (x.zA.length:Int) (j:Int) = some (fv (k + 1) (wI (x.zA.length - (k + 1)) (j - (k + 1)))):=by
 have h6:=h.os.1
 unfold zGW
 rw [yN (by omega),bs,wW,List.getElem?_replicate,if_pos h2,bs,Int.toNat_natCast]
 congr 1
 rw [fv,jZ (by omega),← List.append_assoc]
 have e1:zeros (k + 1) ++ zeros (j - (k + 1)) = zeros j:=by simp only [zeros,List.replicate_append_replicate];congr 1;omega
 have e2:List.replicate x.zA.length (0:Int) = zeros j ++ 0 :: zeros (x.zA.length - (j + 1)):=by
  simp only [zeros]
  rw [← List.replicate_succ,List.replicate_append_replicate];congr 1;omega
 rw [e1,e2,zC5,show x.zA.length - (k + 1) - (j - (k + 1) + 1) = x.zA.length - (j + 1) from by omega]
theorem zNL {j:Nat} (h1:k + 1 ≤ j) (h2:j < x.zA.length):zV0 (x.zA.length:Int) (j:Int) = some (fv (k + 1) (wI (x.zA.length - (k + 1)) (j - (k + 1)))):=zH3 h hk h1 h2
 include hc
theorem kC {v:Vec} (hv:V (suf x (k + 1)) v):f_B x k (fv (k + 1) v) = some (fv (k + 1) (sig (suf x (k + 1)) (lvl x k) v)):=by
 have h6:=h.os.1
 have ok:=h.okAt (k:=k + 1) (by omega)
 have ok0:=h.okAt (k:=k) (by omega)
 rw [yJ hk] at ok0
 obtain ⟨hvl,hvr⟩:=zCQ h.os (x.zA.length - (k + 1)) (k + 1) v (by omega) hv
 have hcl:(lvl x k).cs.length = x.zA.length - (k + 1):=by rw [ok0.2.2.1,xE]
 have t2:=(h.tl k hk).2.1
 have hcl2:=h.cl
 have hA:∀ i,V (suf x (k + 1)) (img (mul (suf x (k + 1))) ((lvl x k).cs.take i) (v.take i) (zeros (suf x (k + 1)).length)):=fun i =>
  sP (xI ok) _ _ (fun c hc => ok0.2.2.2.1 c (List.mem_of_mem_take hc)) (wG ok)
 unfold f_B
 rw [zBN h (by omega) hv,yN (by omega),bs,yC [] (by omega),bs,zNc h (k:=k + 1) (by omega)]
 have:=zN (body:=zRm x k (fv (k + 1) v) (x.zC.getD k [])) (r:=fv (k + 1) (sig (suf x (k + 1)) (lvl x k) v))
  (fun i => (fv (k + 1) (img (mul (suf x (k + 1))) ((lvl x k).cs.take i) (v.take i) (zeros (suf x (k + 1)).length)),(i:Int))) (x.zC.getD k []).length (fun i hi => by
  have hr:=hvr i (by omega)
  obtain ⟨c,c1,c2,c3,c4⟩:=zDx h hk (i:=i) (by omega)
  unfold zRm
  simp only
  rw [yL hi,zH,c2,bs,zD (by omega) (by omega),bs,zD (by omega) (by omega),bs,show (k:Int) + 1 + (i:Int) = ((k + 1 + i:Nat):Int) from by omega,fv,zJF (by omega),bs]
  rw [wO (S:=V (suf x (k + 1))) (body:=zRl x (zeros (k + 1) ++ c) (at0 v i)) (fun u => fv (k + 1) u) (fun u => mul (suf x (k + 1)) u c) (at0 v i) hr.1 (fun u hu => xI ok hu c3) (fun u q hu hq => by
   unfold zRl
   simp only
   rw [decide_eq_true hq,zH,zGi h (by omega) hc hu c3,bs,zD (by omega) (by omega),bs,cs]) (fun u hu => by
   unfold zRl
   simp only
   rw [decide_eq_false (by omega),zF]) (hA i),bs,zD (by omega) (by omega),bs,cs]
  rw [zAH _ _ _ _ (by omega) (by omega),c4]) (by
  unfold zRm
  simp only
  rw [yT,zF,List.take_of_length_le (by omega),List.take_of_length_le (by omega)]
  rfl)
 simp only [List.take_zero,img] at this
 rw [show ((0:Nat):Int) = 0 from rfl] at this
 rw [this,bs]
theorem zBQ {a b:Vec} (ha:V (suf x (k + 1)) a):IsB (f_S (fv (k + 1) a) (fv (k + 1) b)) (a = b):=by
 have _:=hc
 have h6:=h.os.1
 rw [zCR (by rw [zBN h (by omega) ha];omega)]
 exact IsB.of_bool zVb
theorem zJL {c:Vec} (hcv:V (suf x (k + 1)) c) {e:Int} (e0:0 ≤ e) (e1:e ≤ 1000):zTa x ((k + 1:Nat):Int) (fv (k + 1) c) e = some (fv (k + 1) (pw (mul (suf x (k + 1))) (zeros (suf x (k + 1)).length) c e.toNat)):=by
 have h6:=h.os.1
 have ok:=h.okAt (k:=k + 1) (by omega)
 have G:=zGg h (k:=k + 1) (by omega) hc
 have hA:=zNb h (k:=k + 1) (by omega)
 have pwV:∀ a,V (suf x (k + 1)) (pw (mul (suf x (k + 1))) (zeros (suf x (k + 1)).length) c a):=fun a => uL G.toMon hcv a
 unfold zTa
 rw [yN (by omega),bs,zNc h (k:=k + 1) (by omega)]
 obtain ⟨r,r1,r2⟩:=zGj (body:=zNv x ((k + 1:Nat):Int)) (Q:=fun r => r = fv (k + 1) (pw (mul (suf x (k + 1))) (zeros (suf x (k + 1)).length) c e.toNat))
  (fun s => ∃ (m a q:Nat),s = ((m:Int),fv (k + 1) (pw (mul (suf x (k + 1))) (zeros (suf x (k + 1)).length) c a),fv (k + 1) (pw (mul (suf x (k + 1))) (zeros (suf x (k + 1)).length) c q)) ∧ a + q * m = e.toNat ∧ m ≤ 1000) (fun s => s.1.toNat) (fun s ⟨m,a,q,hs,he,hm⟩ => by
   subst hs
   unfold zNv
   simp only
   by_cases hm0:m = 0
   ·right
    subst hm0
    rw [show decide (((0:Nat):Int) > 0) = false from rfl,zF]
    refine ⟨_,rfl,?_⟩
    rw [← he,Nat.mul_zero];rfl
   ·left
    have hr:uI (m:Int) 2 = some ((m % 2:Nat):Int):=by
     unfold uI
     rw [if_neg (by decide),Int.tmod_eq_emod_of_nonneg (by omega)];rfl
    have hq:tL (m:Int) 2 = some ((m / 2:Nat):Int):=by
     unfold tL
     rw [if_neg (by decide),Int.tdiv_eq_ediv_of_nonneg (by omega)]
     rw [zD (by omega) (by omega)];rfl
    have hdm:=Nat.div_add_mod m 2
    have hqq:mul (suf x (k + 1)) (pw (mul (suf x (k + 1))) (zeros (suf x (k + 1)).length) c q) (pw (mul (suf x (k + 1))) (zeros (suf x (k + 1)).length) c q) = pw (mul (suf x (k + 1))) (zeros (suf x (k + 1)).length) c (q + q):=(zFU G.toMon hcv q q).symm
    rw [decide_eq_true (by omega),zH,hr,bs]
    rcases Nat.mod_two_eq_zero_or_one m with h2 | h2
    ·rw [h2,show ((((0:Nat):Int)) == 1) = false from rfl,zF,hA _ _ (pwV q) (pwV q),bs,hq,bs,hqq]
     refine ⟨_,rfl,⟨m / 2,a,q + q,rfl,?_,by omega⟩,by simp only;omega⟩
     rw [← he]
     have:m = m / 2 + m / 2:=by omega
     have e3:(q + q) * (m / 2) = q * m:=by
      rw [Nat.add_mul,← Nat.mul_add,← this]
     omega
    ·rw [h2,show ((((1:Nat):Int)) == 1) = true from rfl,zH,hA _ _ (pwV a) (pwV q),bs,hA _ _ (pwV q) (pwV q),bs,hq,bs,hqq,← zFU G.toMon hcv a q]
     refine ⟨_,rfl,⟨m / 2,a + q,q + q,rfl,?_,by omega⟩,by simp only;omega⟩
     rw [← he]
     have:m = m / 2 + m / 2 + 1:=by omega
     have e3:(q + q) * (m / 2) + q = q * m:=by
      have e4:q * m = q * (m / 2 + m / 2 + 1):=by rw [← this]
      rw [e4,Nat.mul_add,Nat.mul_add,Nat.mul_one,Nat.add_mul]
     omega) 1000000 (e,fv (k + 1) (zeros (suf x (k + 1)).length),fv (k + 1) c) (by simp only;omega) ⟨e.toNat,0,1,by rw [zPG G.toMon hcv,show ((e.toNat:Nat):Int) = e from by omega];rfl,by omega,by omega⟩
 rw [r1,bs,r2]
end
end Go.Pl

namespace Go.Pl
open Go Go.Ab Go.Wk Go.Pc
def zXd (o:Option yS) (P:Prop):Prop:=(o = some (yS.mk 0 0 0 0) ∧ P) ∨ ∃ r,o = some r ∧ r.Kind ≠ 0 ∧ ¬ P
theorem kb {a b c d:Int} (h:a ≠ 0):(yS.mk a b c d).Kind ≠ 0:=h
abbrev KB (r:yS):Prop:=r.Kind ≠ 0
theorem zAI {o:Option Bool} {P:Prop} {bad:yS} {i:Nat} {g:Option (Int ⊕ (Unit ⊕ yS))} (h:IsB o P) (hi:i < 9223372036854775807) (hbad:bad.Kind ≠ 0)
  (hg:g = o.bind fun r => cond (!r) (some (.inr (.inr bad))) ((rng ((i:Int) + 1)).bind fun v => some (.inl v))):(g = some (.inl ((i + 1:Nat):Int)) ∧ P) ∨ (∃ r,g = some (.inr (.inr r)) ∧ KB r ∧ ¬ P):=by
 rcases vQ h hi hg with h | ⟨h1,h2⟩
 ·exact .inl h
 ·exact .inr ⟨bad,h1,hbad,h2⟩
section
variable {x:SPr} (h:Pres x) {k:Nat} (hk:k < x.zA.length) (hc:wY (suf x (k + 1)))
 include h hk hc
theorem zGk:zXd (f_k x k) (LC x k):=by
 have h6:=h.os.1
 have ok:=h.okAt (k:=k + 1) (by omega)
 have G:=zGg h (k:=k + 1) (by omega) hc
 obtain ⟨w1,w2⟩:=zVc h hk
 have hsV:∀ v,V (suf x (k + 1)) v → V (suf x (k + 1)) (sig (suf x (k + 1)) (lvl x k) v):=fun v hv => zPS h hk hv
 unfold f_k
 rw [zD (by omega) (by omega),bs,cs]
 rcases zJK (body:=zRq x k) x.zA.length (k + 1) (by omega) (fun j => pw (mul (suf x (k + 1))) (zeros (suf x (k + 1)).length) ((lvl x k).cs.getD (j - (k + 1)) []) (at0 x.zA j).toNat = sig (suf x (k + 1)) (lvl x k) ((x.zT.getD j []).drop (k + 1))) KB (fun j h1 h2 _ => by
   obtain ⟨c1,c2,c3⟩:=jD h hk h1 h2
   obtain ⟨p1,p2⟩:=zPQ h hk h1 h2
   have hpr:=(h.os.2 j h2).pos
   refine zAI (zBQ h hk hc (uL G.toMon c3 (at0 x.zA j).toNat)) (by omega) (bad:=yS.mk 1 k j 0) (kb (by decide)) ?_
   unfold zRq
   rw [yL h2,zH,c1,bs,zD (by omega) (by omega),bs,zD (by omega) (by omega),bs,c2,bs,yE h2,bs,zLt h (by omega) hc c3 (by omega) (by omega),bs,p1,bs,kC h hk hc p2,bs]) (by
   unfold zRq
   rw [yT,zF]) with ⟨g1,g2⟩ | ⟨r,j,j1,j2,g1,g2,g3⟩
 rotate_left
 ·rw [g1,bs]
  exact .inr ⟨r,rfl,g2,fun q => g3 (q.c1 j j1 j2)⟩
 rw [g1,bs]
 simp only
 rw [bs]
 rcases zJK (body:=zRs x k) x.zA.length (k + 1) (by omega) (fun i => ∀ j,i + 1 ≤ j → j < x.zA.length →
   mul (suf x (k + 1)) ((lvl x k).cs.getD (j - (k + 1)) []) ((lvl x k).cs.getD (i - (k + 1)) []) = mul (suf x (k + 1)) ((lvl x k).cs.getD (i - (k + 1)) []) (sig (suf x (k + 1)) (lvl x k) (((x.zC.getD i []).getD (j - (i + 1)) []).drop (k + 1)))) KB (fun i h1 h2 _ => by
   obtain ⟨c1,c2,c3⟩:=jD h hk h1 h2
   unfold zRs
   rw [yL h2,zH,zD (by omega) (by omega),bs,cs]
   rcases zJK (body:=zRr x k i) x.zA.length (i + 1) (by omega) (fun j => mul (suf x (k + 1)) ((lvl x k).cs.getD (j - (k + 1)) []) ((lvl x k).cs.getD (i - (k + 1)) []) = mul (suf x (k + 1)) ((lvl x k).cs.getD (i - (k + 1)) []) (sig (suf x (k + 1)) (lvl x k) (((x.zC.getD i []).getD (j - (i + 1)) []).drop (k + 1)))) KB (fun j h3 h4 _ => by
     obtain ⟨d1,d2,d3⟩:=jD h hk (j:=j) (by omega) h4
     obtain ⟨e1,e2,e3⟩:=zPR h hk h1 h3 h4
     obtain ⟨q,q1,q2,q3⟩:=zBO h (by omega) hc d3 c3
     refine zAI ((zBQ h hk hc (b:=sig (suf x (k + 1)) (lvl x k) (((x.zC.getD i []).getD (j - (i + 1)) []).drop (k + 1))) q1).iff (Q:=mul (suf x (k + 1)) ((lvl x k).cs.getD (j - (k + 1)) []) ((lvl x k).cs.getD (i - (k + 1)) []) = mul (suf x (k + 1)) ((lvl x k).cs.getD (i - (k + 1)) []) (sig (suf x (k + 1)) (lvl x k) (((x.zC.getD i []).getD (j - (i + 1)) []).drop (k + 1)))) ?_) (by omega) (bad:=yS.mk 2 k i j) (kb (by decide)) ?_
     ·exact ⟨fun e => by rw [← q2,e],fun e => G.cancel_l c3 q1 (hsV _ e3) (by rw [q2,e])⟩
     ·unfold zRr
      rw [yL h4,zH,d1,bs,zD (by omega) (by omega),bs,zD (by omega) (by omega),bs,d2,bs,bs,zD (by omega) (by omega),bs,zD (by omega) (by omega),bs,c2,bs,q3,bs,e1,bs,zD (by omega) (by omega),bs,zD (by omega) (by omega),bs,e2,bs,kC h hk hc e3,bs]) (by
     unfold zRr
     rw [yT,zF]) with ⟨g1,g2⟩ | ⟨r,j,j1,j2,g1,g2,g3⟩
   ·left
    rw [g1,bs]
    exact ⟨rfl,g2⟩
   ·right
    rw [g1,bs]
    exact ⟨r,rfl,g2,fun q => g3 (q j j1 j2)⟩) (by
   unfold zRs
   rw [yT,zF]) with ⟨k1,k2⟩ | ⟨r,j,j1,j2,k1,k2,k3⟩
 rotate_left
 ·rw [k1,bs]
  exact .inr ⟨r,rfl,k2,fun q => k3 (q.c2 j j1 j2)⟩
 rw [k1,bs]
 simp only
 rw [w1,bs,kC h hk hc w2,bs]
 rcases zBQ h hk hc (b:=(lvl x k).w) (hsV _ w2) with ⟨m1,m2⟩ | ⟨m1,m2⟩
 rotate_left
 ·rw [m1,bs,Bool.not_false,zH]
  exact .inr ⟨_,rfl,kb (by decide),fun q => m2 q.c3⟩
 rw [m1,bs,Bool.not_true,zF,bs]
 rcases zJK (body:=zRu x k (fv (k + 1) (lvl x k).w)) x.zA.length (k + 1) (by omega) (fun j => mul (suf x (k + 1)) (lvl x k).w (iter (lvl x k).o.toNat (sig (suf x (k + 1)) (lvl x k)) (wI (x.zA.length - (k + 1)) (j - (k + 1)))) = mul (suf x (k + 1)) (wI (x.zA.length - (k + 1)) (j - (k + 1))) (lvl x k).w) KB (fun j h1 h2 _ => by
   have hU:=zLs h (k:=k + 1) (by omega) hc (i:=j - (k + 1)) (by omega)
   have hpr:=(h.os.2 k hk).pos
   obtain ⟨q,q1,q2,q3⟩:=zBO h (k:=k + 1) (by omega) hc hU w2
   have hit:V (suf x (k + 1)) (iter (lvl x k).o.toNat (sig (suf x (k + 1)) (lvl x k)) (wI (x.zA.length - (k + 1)) (j - (k + 1)))):=wV hsV _ hU
   refine zAI ((zBQ h hk hc (b:=q) hit).iff ⟨fun e => by rw [e,q2],fun e => G.cancel_l w2 hit q1 (by rw [e,q2])⟩) (by omega) (bad:=yS.mk 4 k j 0) (kb (by decide)) ?_
   unfold zRu
   rw [yL h2,zH,zH3 h hk h1 h2,bs,yE hk,bs]
   rw [wO (S:=V (suf x (k + 1))) (body:=zRt x k (at0 x.zA k)) (fun u => fv (k + 1) u) (sig (suf x (k + 1)) (lvl x k)) (at0 x.zA k) (by omega) hsV (fun u i hu hi => by
    unfold zRt
    simp only
    rw [decide_eq_true hi,zH,kC h hk hc hu,bs,zD (by omega) (by omega),bs,cs]) (fun u hu => by
    unfold zRt
    simp only
    rw [decide_eq_false (by omega),zF]) hU,bs,bs,q3,bs]
   rfl) (by
   unfold zRu
   rw [yT,zF]) with ⟨n1,n2⟩ | ⟨r,j,j1,j2,n1,n2,n3⟩
 ·rw [n1,bs]
  exact .inl ⟨rfl,⟨g2,k2,m2,n2⟩⟩
 ·rw [n1,bs]
  exact .inr ⟨r,rfl,n2,fun q => n3 (q.c4 j j1 j2)⟩
theorem zLu:zXd (f_l x k) (LC x k):=by
 have h6:=h.os.1
 have ok:=h.okAt (k:=k + 1) (by omega)
 have G:=zGg h (k:=k + 1) (by omega) hc
 obtain ⟨w1,w2⟩:=zVc h hk
 have hA:=zNb h (k:=k + 1) (by omega)
 have hI:=zLq h hk
 have hsV:∀ v,V (suf x (k + 1)) v → V (suf x (k + 1)) (sig (suf x (k + 1)) (lvl x k) v):=fun v hv => zPS h hk hv
 have eqB:∀ {a b:Vec},V (suf x (k + 1)) a → IsB (f_Z (fv (k + 1) a) (fv (k + 1) b)) (a = b):=fun ha => zBQ h hk hc ha
 unfold f_l
 rw [zD (by omega) (by omega),bs,cs]
 rcases zJK (body:=zQP x k) x.zA.length (k + 1) (by omega) (fun j => pw (mul (suf x (k + 1))) (zeros (suf x (k + 1)).length) ((lvl x k).cs.getD (j - (k + 1)) []) (at0 x.zA j).toNat = sig (suf x (k + 1)) (lvl x k) ((x.zT.getD j []).drop (k + 1))) KB (fun j h1 h2 _ => by
   obtain ⟨c1,c2,c3⟩:=jD h hk h1 h2
   obtain ⟨p1,p2⟩:=zPQ h hk h1 h2
   have hpr:=(h.os.2 j h2).pos
   refine zAI (eqB (uL G.toMon c3 (at0 x.zA j).toNat)) (by omega) (bad:=yS.mk 1 k j 0) (kb (by decide)) ?_
   unfold zQP
   rw [yL h2,zH,zD (by omega) (by omega),bs,cs,c1,bs,zD (by omega) (by omega),bs,zD (by omega) (by omega),bs,c2,bs,yE h2,bs,zJL h hk hc c3 (by omega) (by omega),bs,p1,bs,hI _ p2,bs]) (by
   unfold zQP
   rw [yT,zF]) with ⟨g1,g2⟩ | ⟨r,j,j1,j2,g1,g2,g3⟩
 rotate_left
 ·rw [g1,bs]
  exact .inr ⟨r,rfl,g2,fun q => g3 (q.c1 j j1 j2)⟩
 rw [g1,bs]
 simp only
 rw [bs]
 rcases zJK (body:=zQR x k) x.zA.length (k + 1) (by omega) (fun i => ∀ j,i + 1 ≤ j → j < x.zA.length →
   mul (suf x (k + 1)) ((lvl x k).cs.getD (j - (k + 1)) []) ((lvl x k).cs.getD (i - (k + 1)) []) = mul (suf x (k + 1)) ((lvl x k).cs.getD (i - (k + 1)) []) (sig (suf x (k + 1)) (lvl x k) (((x.zC.getD i []).getD (j - (i + 1)) []).drop (k + 1)))) KB (fun i h1 h2 _ => by
   obtain ⟨c1,c2,c3⟩:=jD h hk h1 h2
   unfold zQR
   rw [yL h2,zH,zD (by omega) (by omega),bs,cs]
   rcases zJK (body:=zQQ x k i) x.zA.length (i + 1) (by omega) (fun j => mul (suf x (k + 1)) ((lvl x k).cs.getD (j - (k + 1)) []) ((lvl x k).cs.getD (i - (k + 1)) []) = mul (suf x (k + 1)) ((lvl x k).cs.getD (i - (k + 1)) []) (sig (suf x (k + 1)) (lvl x k) (((x.zC.getD i []).getD (j - (i + 1)) []).drop (k + 1)))) KB (fun j h3 h4 _ => by
     obtain ⟨d1,d2,d3⟩:=jD h hk (j:=j) (by omega) h4
     obtain ⟨e1,e2,e3⟩:=zPR h hk h1 h3 h4
     refine zAI (eqB (xI ok d3 c3)) (by omega) (bad:=yS.mk 2 k i j) (kb (by decide)) ?_
     unfold zQQ
     rw [yL h4,zH,d1,bs,zD (by omega) (by omega),bs,zD (by omega) (by omega),bs,c2,bs,bs,zD (by omega) (by omega),bs,zD (by omega) (by omega),bs,d2,bs,e1,bs,zD (by omega) (by omega),bs,zD (by omega) (by omega),bs,e2,bs,hI _ e3,bs,zD (by omega) (by omega),bs,cs,hA _ _ d3 c3,bs,bs,hA _ _ c3 (hsV _ e3),bs]) (by
     unfold zQQ
     rw [yT,zF]) with ⟨g1,g2⟩ | ⟨r,j,j1,j2,g1,g2,g3⟩
   ·left
    rw [g1,bs]
    exact ⟨rfl,g2⟩
   ·right
    rw [g1,bs]
    exact ⟨r,rfl,g2,fun q => g3 (q j j1 j2)⟩) (by
   unfold zQR
   rw [yT,zF]) with ⟨k1,k2⟩ | ⟨r,j,j1,j2,k1,k2,k3⟩
 rotate_left
 ·rw [k1,bs]
  exact .inr ⟨r,rfl,k2,fun q => k3 (q.c2 j j1 j2)⟩
 rw [k1,bs]
 simp only
 rw [w1,bs,hI _ w2,bs]
 rcases eqB (b:=(lvl x k).w) (hsV _ w2) with ⟨m1,m2⟩ | ⟨m1,m2⟩
 rotate_left
 ·rw [m1,bs,Bool.not_false,zH]
  exact .inr ⟨_,rfl,kb (by decide),fun q => m2 q.c3⟩
 rw [m1,bs,Bool.not_true,zF,bs]
 rcases zJK (body:=zQT x k (fv (k + 1) (lvl x k).w)) x.zA.length (k + 1) (by omega) (fun j => mul (suf x (k + 1)) (lvl x k).w (iter (lvl x k).o.toNat (sig (suf x (k + 1)) (lvl x k)) (wI (x.zA.length - (k + 1)) (j - (k + 1)))) = mul (suf x (k + 1)) (wI (x.zA.length - (k + 1)) (j - (k + 1))) (lvl x k).w) KB (fun j h1 h2 _ => by
   have hU:=zLs h (k:=k + 1) (by omega) hc (i:=j - (k + 1)) (by omega)
   have hpr:=(h.os.2 k hk).pos
   have hit:V (suf x (k + 1)) (iter (lvl x k).o.toNat (sig (suf x (k + 1)) (lvl x k)) (wI (x.zA.length - (k + 1)) (j - (k + 1)))):=wV hsV _ hU
   refine zAI (eqB (xI ok w2 hit)) (by omega) (bad:=yS.mk 4 k j 0) (kb (by decide)) ?_
   unfold zQT
   rw [yL h2,zH,zNL h hk h1 h2,bs]
   rw [wO (S:=V (suf x (k + 1))) (body:=zQS x k) (fun u => fv (k + 1) u) (sig (suf x (k + 1)) (lvl x k)) (at0 x.zA k) (by omega) hsV (fun u i hu hi => by
    unfold zQS
    simp only
    rw [yE hk,bs,decide_eq_true hi,zH,hI _ hu,bs,zD (by omega) (by omega),bs,cs]) (fun u hu => by
    unfold zQS
    simp only
    rw [yE hk,bs,decide_eq_false (by omega),zF]) hU,bs,zD (by omega) (by omega),bs,cs]
   have ho:(lvl x k).o = at0 x.zA k:=rfl
   rw [← ho,hA _ _ w2 hit,bs,bs,hA _ _ hU w2,bs]) (by
   unfold zQT
   rw [yT,zF]) with ⟨n1,n2⟩ | ⟨r,j,j1,j2,n1,n2,n3⟩
 ·rw [n1,bs]
  exact .inl ⟨rfl,⟨g2,k2,m2,n2⟩⟩
 ·rw [n1,bs]
  exact .inr ⟨r,rfl,n2,fun q => n3 (q.c4 j j1 j2)⟩
end
end Go.Pl

namespace Go.Pl
open Go Go.Ab Go.Wk Go.Pc
theorem zEo {m:Vec → Vec → Vec}:∀ (i:Nat) (cs:List Vec) (w acc:Vec),i ≤ cs.length → img m cs (zeros i ++ w) acc = img m (cs.drop i) w acc
 | 0,cs,w,acc,_ => rfl
 | i + 1,[],w,acc,h => by simp at h
 | i + 1,c :: cs,w,acc,h => by
  show img m (c :: cs) (0 :: (zeros i ++ w)) acc = _
  simp only [img,Int.toNat_zero,iter,List.drop_succ_cons]
  exact zEo i cs w acc (by simpa using h)
theorem zGl {x:SPr} {v:List Int} {j k:Nat} (h:Exp x.zA v j) (hj:j < x.zA.length) (hk:k ≤ j + 1):v.drop k = zeros (j + 1 - k) ++ v.drop (j + 1):=by
 have:=zAG h hj
 have h2:v.drop k = (zeros (j + 1) ++ v.drop (j + 1)).drop k:=by rw [← this]
 rw [h2,List.drop_append,zR,show k - (j + 1) = 0 from by omega,List.drop_zero]
 congr 1
 simp only [zeros,List.drop_replicate]
section
variable {x:SPr} (h:Pres x) {k:Nat} (hk:k < x.zA.length)
 include h hk
theorem kF:(lvl x k).cs.length = x.zA.length - (k + 1):=by
 have ok0:=h.okAt (k:=k) (by omega)
 rw [yJ hk] at ok0
 rw [ok0.2.2.1,xE]
theorem zSA {j:Nat} (h1:k + 1 ≤ j) (h2:j < x.zA.length):sig (suf x (k + 1)) (lvl x k) ((x.zT.getD j []).drop (k + 1)) = img (mul (suf x (k + 1))) ((lvl x k).cs.drop (j - k)) (lvl x j).w (zeros (suf x (k + 1)).length):=by
 have t1:=(h.tl j h2).1
 have hcl:=kF h hk
 rw [zGl t1 h2 (by omega),sig,zEo _ _ _ _ (by omega),show j + 1 - (k + 1) = j - k from by omega]
 rfl
theorem zNd:∀ (d i:Nat),k + 1 + i + d = x.zA.length → (Rel (mul (suf x (k + 1))) (zeros (suf x (k + 1)).length) (suf x (k + 1 + i)) ((lvl x k).cs.drop i) ↔
  (∀ j,k + 1 + i ≤ j → j < x.zA.length → pw (mul (suf x (k + 1))) (zeros (suf x (k + 1)).length) ((lvl x k).cs.getD (j - (k + 1)) []) (at0 x.zA j).toNat = sig (suf x (k + 1)) (lvl x k) ((x.zT.getD j []).drop (k + 1))) ∧
  (∀ a,k + 1 + i ≤ a → a < x.zA.length → ∀ j,a + 1 ≤ j → j < x.zA.length →
   mul (suf x (k + 1)) ((lvl x k).cs.getD (j - (k + 1)) []) ((lvl x k).cs.getD (a - (k + 1)) []) = mul (suf x (k + 1)) ((lvl x k).cs.getD (a - (k + 1)) []) (sig (suf x (k + 1)) (lvl x k) (((x.zC.getD a []).getD (j - (a + 1)) []).drop (k + 1)))))
 | 0,i,hi => by
  have hcl:=kF h hk
  rw [vT (x:=x) (k:=k + 1 + i) (by omega),List.drop_of_length_le (show (lvl x k).cs.length ≤ i by omega)]
  simp only [Rel,true_iff]
  exact ⟨fun j h1 h2 => by omega,fun a h1 h2 => by omega⟩
 | d + 1,i,hi => by
  have hcl:=kF h hk
  have ih:=zNd d (i + 1) (by omega)
  rw [show k + 1 + (i + 1) = k + 1 + i + 1 from by omega] at ih
  have hj:k + 1 + i < x.zA.length:=by omega
  have hg:(lvl x k).cs.drop i = (lvl x k).cs.getD i [] :: (lvl x k).cs.drop (i + 1):=by
   rw [List.drop_eq_getElem_cons (by omega),List.getD_eq_getElem?_getD,List.getElem?_eq_getElem (by omega)];rfl
  rw [yJ hj,hg]
  simp only [Rel]
  rw [ih]
  have e1:=zSA h hk (j:=k + 1 + i) (by omega) hj
  rw [show k + 1 + i - k = i + 1 from by omega] at e1
  have ho:(lvl x (k + 1 + i)).o = at0 x.zA (k + 1 + i):=rfl
  rw [ho,← e1]
  have e2:∀ j,k + 1 + i + 1 ≤ j → j < x.zA.length → ∀ dd,(lvl x (k + 1 + i)).cs[j - (k + 1 + i + 1)]? = some dd → img (mul (suf x (k + 1))) ((lvl x k).cs.drop (i + 1)) dd (zeros (suf x (k + 1)).length) = sig (suf x (k + 1)) (lvl x k) (((x.zC.getD (k + 1 + i) []).getD (j - (k + 1 + i + 1)) []).drop (k + 1)):=fun j h1 h2 dd hdd => by
   obtain ⟨_,t2,t3⟩:=h.tl (k + 1 + i) hj
   have t:=t3 (j - (k + 1 + i + 1)) (by omega)
   rw [zGl t hj (by omega),sig,zEo _ _ _ _ (by omega),show k + 1 + i + 1 - (k + 1) = i + 1 from by omega]
   congr 1
   simp only [lvl,List.getElem?_map,Option.map_eq_some_iff] at hdd
   obtain ⟨u,hu,rfl⟩:=hdd
   rw [List.getD_eq_getElem?_getD (i:=j - (k + 1 + i + 1)),hu];rfl
  have e3:∀ j,k + 1 + i + 1 ≤ j → j < x.zA.length → ((lvl x k).cs.drop (i + 1))[j - (k + 1 + i + 1)]? = some ((lvl x k).cs.getD (j - (k + 1)) []) ∧ ∃ dd,(lvl x (k + 1 + i)).cs[j - (k + 1 + i + 1)]? = some dd:=fun j h1 h2 => by
   have hcl2:=kF h hj
   refine ⟨?_,?_⟩
   ·rw [List.getElem?_drop,show i + 1 + (j - (k + 1 + i + 1)) = j - (k + 1) from by omega,List.getD_eq_getElem?_getD,List.getElem?_eq_getElem (by omega)];rfl
   ·exact ⟨_,List.getElem?_eq_getElem (by omega)⟩
  constructor
  ·rintro ⟨a1,a2,a3,a4⟩
   refine ⟨fun j h1 h2 => ?_,fun a h1 h2 j h3 h4 => ?_⟩
   ·rcases Nat.lt_or_ge (k + 1 + i) j with hlt | hge
    ·exact a3 j (by omega) h2
    ·obtain rfl:j = k + 1 + i:=by omega
     rw [show k + 1 + i - (k + 1) = i from by omega]
     exact a1
   ·rcases Nat.lt_or_ge (k + 1 + i) a with hlt | hge
    ·exact a4 a (by omega) h2 j h3 h4
    ·obtain rfl:a = k + 1 + i:=by omega
     obtain ⟨f1,dd,f2⟩:=e3 j (by omega) h4
     have:=a2 _ _ _ f1 f2
     rw [e2 j (by omega) h4 dd f2] at this
     rw [show k + 1 + i - (k + 1) = i from by omega]
     exact this
  ·rintro ⟨a1,a2⟩
   refine ⟨?_,fun kk c dd h1 h2 => ?_,fun j h1 h2 => a1 j (by omega) h2,fun a h1 h2 => a2 a (by omega) h2⟩
   ·have:=a1 (k + 1 + i) (by omega) hj
    rw [show k + 1 + i - (k + 1) = i from by omega] at this
    exact this
   ·have hlt:kk < x.zA.length - (k + 1 + i + 1):=by
     have:=(List.getElem?_eq_some_iff.1 h1).1
     rw [List.length_drop] at this;omega
    have g:=a2 (k + 1 + i) (by omega) hj (k + 1 + i + 1 + kk) (by omega) (by omega)
    obtain ⟨f1,_⟩:=e3 (k + 1 + i + 1 + kk) (by omega) (by omega)
    rw [show k + 1 + i + 1 + kk - (k + 1 + i + 1) = kk from by omega] at f1 g
    rw [h1] at f1
    have f1:=Option.some.inj f1
    have g2:=e2 (k + 1 + i + 1 + kk) (by omega) (by omega) dd (by rw [show k + 1 + i + 1 + kk - (k + 1 + i + 1) = kk from by omega];exact h2)
    rw [show k + 1 + i + 1 + kk - (k + 1 + i + 1) = kk from by omega] at g2
    rw [g2,f1]
    rw [show k + 1 + i - (k + 1) = i from by omega] at g
    exact g
theorem zAJ:wY (suf x k) ↔ wY (suf x (k + 1)) ∧ LC x k:=by
 have hr:=zNd h hk (x.zA.length - (k + 1)) 0 (by omega)
 have hl:=xE x (k + 1)
 rw [List.drop_zero,Nat.add_zero] at hr
 rw [yJ hk]
 simp only [wY]
 rw [hr]
 constructor
 ·rintro ⟨a,⟨b1,b2⟩,c,d⟩
  refine ⟨a,⟨b1,b2,c,fun j h1 h2 => ?_⟩⟩
  have:=d (j - (k + 1)) (by omega)
  rwa [hl] at this
 ·rintro ⟨a,b⟩
  refine ⟨a,⟨b.c1,b.c2⟩,b.c3,fun j hj => ?_⟩
  have:=b.c4 (k + 1 + j) (by omega) (by omega)
  rw [show k + 1 + j - (k + 1) = j from by omega] at this
  rwa [hl]
end
theorem zCi {x:SPr} (h:wY (suf x 0)) (k:Nat):wY (suf x k):=by
 have:=zDy h k
 rwa [Nat.zero_add] at this
def zBd (x:SPr):Prop:=Pres x ∧ wY (suf x 0) ∧ zEG x
theorem zD0 {x:SPr} (hl:x.zA.length ≤ 1048576):IsB (zTh x) (zBd x):=by
 unfold zTh
 rcases zCs hl with ⟨h1,h2⟩ | ⟨h1,h2⟩
 ·have h6:=h2.os.1
  rw [h1,bs,zH]
  unfold f_M
  obtain ⟨r,r1,r2⟩:=vO (body:=zKy x) (Q:=fun r => ∃ s:Nat,r = (s:Int) ∧ wY (suf x s) ∧ (s = 0 ∨ ¬ wY (suf x (s - 1)))) (fun i s => i ≤ x.zA.length ∧ s = ((x.zA.length - i:Nat):Int) ∧ wY (suf x (x.zA.length - i))) x.zA.length (fun i s hi ⟨_,hs,hcs⟩ => by
    subst hs
    have hk:x.zA.length - i - 1 < x.zA.length:=by omega
    have e9:x.zA.length - (i + 1) = x.zA.length - i - 1:=by omega
    rw [e9]
    have e8:i + 1 ≤ x.zA.length:=by omega
    rw [show x.zA.length - i = x.zA.length - i - 1 + 1 from by omega] at hcs ⊢
    have hlev:=zGk h2.toPres hk hcs
    have hiff:=zAJ h2.toPres hk
    generalize x.zA.length - i - 1 = k at *
    unfold zKy
    rw [decide_eq_true (by omega),zH,zD (by omega) (by omega),bs,show (((k + 1:Nat):Int) - 1) = (k:Int) from by omega]
    rcases hlev with ⟨g1,g2⟩ | ⟨r,g1,g2,g3⟩
    ·left
     rw [g1,bs]
     simp only [beq_self_eq_true,Bool.and_true]
     rw [zH,bs]
     exact ⟨_,rfl,e8,rfl,hiff.2 ⟨hcs,g2⟩⟩
    ·right
     rw [g1,bs,show (r.Kind == 0) = false from by simpa using g2,Bool.false_and,zF]
     refine ⟨_,rfl,k + 1,rfl,hcs,.inr fun q => g3 (hiff.1 q).2⟩) (fun s ⟨_,hs,hcs⟩ => by
    rw [Nat.sub_self] at hs hcs
    subst hs
    unfold zKy
    rw [show decide (((0:Nat):Int) > 0) = false from rfl,zF]
    exact ⟨_,rfl,0,rfl,hcs,.inl rfl⟩) (s:=(x.zA.length:Int)) ⟨by omega,by rw [Nat.sub_zero],by rw [Nat.sub_zero,vT (by omega)];simp only [wY]⟩
  obtain ⟨s,rfl,hcs,hs⟩:=r2
  rw [r1,bs,bs]
  cases s with
  | zero => exact .inl ⟨rfl,h2.toPres,hcs,h2⟩
  | succ s =>
   refine .inr ⟨?_,fun q => ?_⟩
   ·congr 1
   ·rcases hs with hs | hs
    ·omega
    ·exact hs (zCi q.2.1 _)
 ·rw [h1,bs,zF]
  exact .inr ⟨rfl,fun q => h2 q.2.2⟩
theorem zLv {x:SPr} (hl:x.zA.length ≤ 1048576):IsB (zTb x) (zBd x):=by
 unfold zTb
 rcases zCt hl with ⟨h1,h2⟩ | ⟨h1,h2⟩
 ·have h6:=h2.os.1
  rw [h1,bs,zH]
  unfold zV2 zV1
  rw [zD (by omega) (by omega),bs]
  obtain ⟨r,r1,r2⟩:=vO (body:=zKu x) (Q:=fun r => (r = .inl () ∧ wY (suf x 0)) ∨ ∃ f,r = .inr f ∧ f.Kind ≠ 0 ∧ ¬ wY (suf x 0)) (fun i s => i ≤ x.zA.length ∧ s = ((x.zA.length - i:Nat):Int) - 1 ∧ wY (suf x (x.zA.length - i))) x.zA.length (fun i s hi ⟨_,hs,hcs⟩ => by
    subst hs
    have hk:x.zA.length - i - 1 < x.zA.length:=by omega
    have e9:x.zA.length - (i + 1) = x.zA.length - i - 1:=by omega
    rw [e9]
    have e8:i + 1 ≤ x.zA.length:=by omega
    rw [show x.zA.length - i = x.zA.length - i - 1 + 1 from by omega] at hcs ⊢
    have hlev:=zLu h2.toPres hk hcs
    have hiff:=zAJ h2.toPres hk
    generalize x.zA.length - i - 1 = k at *
    unfold zKu
    rw [show (((k + 1:Nat):Int) - 1) = (k:Int) from by omega,decide_eq_true (by omega),zH]
    rcases hlev with ⟨g1,g2⟩ | ⟨r,g1,g2,g3⟩
    ·left
     rw [g1,bs]
     simp only
     rw [show ((0:Int) != 0) = false from rfl,zF,zD (by omega) (by omega),bs]
     exact ⟨_,rfl,e8,rfl,hiff.2 ⟨hcs,g2⟩⟩
    ·right
     rw [g1,bs,show (r.Kind != 0) = true from by simpa using g2,zH]
     exact ⟨_,rfl,.inr ⟨r,rfl,g2,fun q => g3 (hiff.1 (zCi q _)).2⟩⟩) (fun s ⟨_,hs,hcs⟩ => by
    rw [Nat.sub_self] at hs hcs
    subst hs
    unfold zKu
    rw [show decide (((0:Nat):Int) - 1 ≥ 0) = false from rfl,zF]
    exact ⟨_,rfl,.inl ⟨rfl,hcs⟩⟩) (s:=(x.zA.length:Int) - 1) ⟨by omega,by rw [Nat.sub_zero],by rw [Nat.sub_zero,vT (by omega)];simp only [wY]⟩
  rw [r1,bs]
  rcases r2 with ⟨rfl,q⟩ | ⟨f,rfl,g1,g2⟩
  ·exact .inl ⟨rfl,h2.toPres,q,h2⟩
  ·simp only
   rw [bs,show (f.Kind == 0) = false from by simpa using g1]
   exact .inr ⟨rfl,fun q => g2 q.2.1⟩
 ·rw [h1,bs,zF]
  exact .inr ⟨rfl,fun q => h2 q.2.2⟩
end Go.Pl

namespace Go.Pl
open Go Go.Ab Go.Wk
abbrev Mx:=List (List Int)
def S:Nat → (Nat → Int) → Int
 | 0,_ => 0
 | n + 1,f => S n f + f n
theorem xX {n:Nat} {f g:Nat → Int} (h:∀ i,i < n → f i = g i):S n f = S n g:=by
 induction n with
 | zero => rfl
 | succ n ih => simp only [S];rw [ih fun i hi => h i (by omega),h n (by omega)]
theorem zBR {p:Int} {f g:Nat → Int}:∀ {n:Nat},(∀ i,i < n → f i % p = g i % p) → S n f % p = S n g % p
 | 0,_ => rfl
 | n + 1,h => by
  simp only [S]
  rw [Int.add_emod,zBR (n:=n) fun i hi => h i (by omega),h n (by omega),← Int.add_emod]
theorem qG:∀ n:Nat,S n (fun _ => 0) = 0
 | 0 => rfl
 | n + 1 => by simp only [S,qG n];rfl
theorem zJM {f g:Nat → Int}:∀ n:Nat,S n (fun i => f i + g i) = S n f + S n g
 | 0 => rfl
 | n + 1 => by simp only [S,zJM n];omega
theorem zNe {f:Nat → Int} (a:Int):∀ n:Nat,S n (fun i => f i * a) = S n f * a
 | 0 => by simp [S]
 | n + 1 => by simp only [S,zNe a n,Int.add_mul]
theorem zCS {f:Nat → Int} (a:Int):∀ n:Nat,S n (fun i => a * f i) = a * S n f
 | 0 => by simp [S]
 | n + 1 => by simp only [S,zCS a n,Int.mul_add]
theorem zI1 {f:Nat → Nat → Int} (m:Nat):∀ n:Nat,S n (fun i => S m (fun j => f i j)) = S m (fun j => S n (fun i => f i j))
 | 0 => by simp only [S];exact (qG m).symm
 | n + 1 => by simp only [S];rw [zI1 m n,zJM]
theorem zAK {f:Nat → Int} {k:Nat}:∀ {n:Nat},k < n → (∀ i,i < n → i ≠ k → f i = 0) → S n f = f k
 | 0,h,_ => by omega
 | n + 1,h,hz => by
  simp only [S]
  by_cases hk:k = n
  ·subst hk
   rw [xX (g:=fun _ => 0) fun i hi => hz i (by omega) (by omega),qG];omega
  ·rw [zAK (n:=n) (by omega) fun i hi => hz i (by omega),hz n (by omega) (by omega)];omega
def mkv (D:Nat) (f:Nat → Int):List Int:=(List.range D).map f
theorem zZ (D:Nat) (f:Nat → Int):(mkv D f).length = D:=by simp [mkv]
theorem zCj {D:Nat} {f:Nat → Int} {i:Nat} (h:i < D):(mkv D f)[i]? = some (f i):=by simp [mkv,h]
theorem yF {D:Nat} {f:Nat → Int} {i:Nat} (h:i < D):at0 (mkv D f) i = f i:=by
 rw [at0,List.getD_eq_getElem?_getD,zCj h];rfl
theorem zW {D:Nat} {f g:Nat → Int} (h:∀ i,i < D → f i = g i):mkv D f = mkv D g:=by
 unfold mkv
 apply List.map_congr_left
 intro i hi
 exact h i (by simpa using hi)
theorem qP {D:Nat} {f:Nat → Int} {j:Nat} {a:Int}:(mkv D f).set j a = mkv D (fun i => if i = j then a else f i):=by
 apply List.ext_getElem?
 intro i
 rw [List.getElem?_set,zZ]
 by_cases hi:i < D
 ·by_cases hij:j = i
  ·subst hij;rw [if_pos rfl,if_pos hi,zCj hi,if_pos rfl]
  ·rw [if_neg hij,zCj hi,zCj hi,if_neg fun h => hij h.symm]
 ·have h1:∀ g:Nat → Int,(mkv D g)[i]? = none:=fun g => List.getElem?_eq_none (by rw [zZ];omega)
  rw [h1,h1]
  by_cases hij:j = i
  ·subst hij;rw [if_pos rfl,if_neg hi]
  ·rw [if_neg hij]
theorem vG {v:List Int} {D:Nat} (h:v.length = D):v = mkv D (at0 v):=by
 apply List.ext_getElem?
 intro i
 by_cases hi:i < D
 ·rw [zCj hi,at0,List.getD_eq_getElem?_getD,List.getElem?_eq_getElem (by omega)];rfl
 ·rw [List.getElem?_eq_none (by omega),List.getElem?_eq_none (by rw [zZ];omega)]
theorem tH (D:Nat):List.replicate D (0:Int) = mkv D (fun _ => 0):=by
 apply List.ext_getElem?
 intro i
 by_cases hi:i < D
 ·rw [zCj hi];simp [hi]
 ·rw [List.getElem?_eq_none (by simp;omega),List.getElem?_eq_none (by rw [zZ];omega)]
abbrev ent (B:Mx) (l j:Nat):Int:=at0 (B.getD l []) j
def uM (p:Int) (D:Nat) (r:List Int) (B:Mx):List Int:=mkv D fun j => S D (fun l => at0 r l * ent B l j) % p
def PM (p:Int) (D:Nat) (A B:Mx):Mx:=A.map fun r => uM p D r B
def idM (D:Nat):Mx:=(List.range D).map fun i => mkv D fun j => if j = i then 1 else 0
def Row (p:Int) (D:Nat) (r:List Int):Prop:=r.length = D ∧ ∀ i,i < D → 0 ≤ at0 r i ∧ at0 r i ≤ p - 1
def Mat (p:Int) (D:Nat) (A:Mx):Prop:=A.length = D ∧ ∀ i,i < D → Row p D (A.getD i [])
theorem zBe {p:Int} {D i:Nat} {A B:Mx} (h:i < A.length):(PM p D A B).getD i [] = uM p D (A.getD i []) B:=by
 simp only [PM,List.getD_eq_getElem?_getD,List.getElem?_map,List.getElem?_eq_getElem h];rfl
theorem vE {p:Int} {D:Nat} {A B:Mx}:(PM p D A B).length = A.length:=by simp [PM]
theorem zBS {p:Int} {D:Nat} {A B:Mx} (hp:0 < p) (hA:A.length = D):Mat p D (PM p D A B):=by
 refine ⟨by rw [vE,hA],fun i hi => ?_⟩
 rw [zBe (by omega)]
 refine ⟨by rw [uM,zZ],fun j hj => ?_⟩
 rw [uM,yF hj]
 have h1:=Int.emod_nonneg (S D fun l => at0 (A.getD i []) l * ent B l j) (show p ≠ 0 by omega)
 have h2:=Int.emod_lt_of_pos (S D fun l => at0 (A.getD i []) l * ent B l j) hp
 omega
theorem zLw {p:Int} {D i j:Nat} {A B:Mx} (hA:A.length = D) (hi:i < D) (hj:j < D):ent (PM p D A B) i j = S D (fun l => ent A i l * ent B l j) % p:=by
 rw [ent,zBe (by omega),uM,yF hj]
theorem zGm {D:Nat} {A B:Mx} (hA:A.length = D) (hB:B.length = D) (h:∀ i,i < D → A.getD i [] = B.getD i []):A = B:=by
 apply List.ext_getElem?
 intro i
 by_cases hi:i < D
 ·have:=h i hi
  rw [List.getD_eq_getElem?_getD,List.getD_eq_getElem?_getD,List.getElem?_eq_getElem (by omega),List.getElem?_eq_getElem (by omega)] at this
  rw [List.getElem?_eq_getElem (by omega),List.getElem?_eq_getElem (by omega)]
  exact congrArg some this
 ·rw [List.getElem?_eq_none (by omega),List.getElem?_eq_none (by omega)]
theorem zJN {p:Int} {D:Nat} {A B C:Mx} (hA:A.length = D) (hB:B.length = D):PM p D (PM p D A B) C = PM p D A (PM p D B C):=by
 refine zGm (by rw [vE,vE,hA]) (by rw [vE,hA]) fun i hi => ?_
 rw [zBe (A:=PM p D A B) (by rw [vE];omega),zBe (A:=A) (B:=PM p D B C) (by omega)]
 unfold uM
 refine zW fun j hj => ?_
 have e1:S D (fun l => at0 ((PM p D A B).getD i []) l * ent C l j) % p = S D (fun l => S D (fun q => ent A i q * ent B q l) * ent C l j) % p:=zBR fun l hl => by
  have:=zLw (p:=p) (B:=B) hA hi hl
  simp only [ent] at this ⊢
  rw [this,Int.mul_emod,Int.emod_emod,← Int.mul_emod]
 have e2:S D (fun l => at0 (A.getD i []) l * ent (PM p D B C) l j) % p = S D (fun q => ent A i q * S D (fun l => ent B q l * ent C l j)) % p:=zBR fun q hq => by
  rw [zLw hB hq hj,Int.mul_emod,Int.emod_emod,← Int.mul_emod]
 rw [e1,e2]
 congr 1
 have e3:(fun l => S D (fun q => ent A i q * ent B q l) * ent C l j) = fun l => S D (fun q => ent A i q * ent B q l * ent C l j):=funext fun l => (zNe _ _).symm
 have e4:(fun q => ent A i q * S D (fun l => ent B q l * ent C l j)) = fun q => S D (fun l => ent A i q * ent B q l * ent C l j):=funext fun q => by
  rw [← zCS]
  exact xX fun l _ => by rw [Int.mul_assoc]
 rw [e3,e4]
 exact zI1 D D
theorem wZ (D:Nat):(idM D).length = D:=by simp [idM]
theorem zBf {D i:Nat} (h:i < D):(idM D).getD i [] = mkv D fun j => if j = i then 1 else 0:=by simp [idM,List.getD_eq_getElem?_getD,h]
theorem zAi {p:Int} {D:Nat} (hp:2 ≤ p):Mat p D (idM D):=by
 refine ⟨wZ D,fun i hi => ?_⟩
 rw [zBf hi]
 refine ⟨zZ _ _,fun j hj => ?_⟩
 rw [yF hj]
 split <;> omega
theorem kG {p a:Int} (h:0 ≤ a ∧ a ≤ p - 1):a % p = a:=Int.emod_eq_of_lt h.1 (by omega)
theorem zI2 {p:Int} {D:Nat} {B:Mx} (hB:Mat p D B):PM p D (idM D) B = B:=by
 refine zGm (by rw [vE,wZ]) hB.1 fun i hi => ?_
 rw [zBe (by rw [wZ];exact hi),zBf hi,uM]
 obtain ⟨h1,h2⟩:=hB.2 i hi
 refine Eq.trans (zW fun j hj => ?_) (vG h1).symm
 rw [zAK (k:=i) hi fun l hl hne => by rw [yF hl,if_neg hne,Int.zero_mul],yF hi,if_pos rfl,Int.one_mul]
 exact kG (h2 j hj)
theorem zJO {p:Int} {D:Nat} {A:Mx} (hA:Mat p D A):PM p D A (idM D) = A:=by
 refine zGm (by rw [vE,hA.1]) hA.1 fun i hi => ?_
 rw [zBe (by rw [hA.1];exact hi),uM]
 obtain ⟨h1,h2⟩:=hA.2 i hi
 refine Eq.trans (zW fun j hj => ?_) (vG h1).symm
 rw [zAK (k:=j) hj fun l hl hne => by rw [ent,zBf hl,yF hj,if_neg (fun h => hne h.symm),Int.mul_zero],ent,zBf hj,yF hj,if_pos rfl,Int.mul_one]
 exact kG (h2 j hj)
theorem zPT {p:Int} {D i j:Nat} {B:Mx} (hB:Mat p D B) (hi:i < D) (hj:j < D):ixO B (i:Int) = some (B.getD i []) ∧ ixO (B.getD i []) (j:Int) = some (ent B i j) ∧ (B.getD i []).length = D ∧ 0 ≤ ent B i j ∧ ent B i j ≤ p - 1:=by
 obtain ⟨h1,h2⟩:=hB.2 i hi
 have:=hB.1
 exact ⟨yC [] (by omega),yE (by omega),h1,h2 j hj⟩
def acc (p:Int) (D i:Nat) (r:List Int) (B:Mx):List Int:=mkv D fun j => S i (fun l => at0 r l * ent B l j) % p
def zCu (p:Int) (D i k:Nat) (r:List Int) (B:Mx):List Int:=mkv D fun j => if j < k then S (i + 1) (fun l => at0 r l * ent B l j) % p else S i (fun l => at0 r l * ent B l j) % p
theorem zH4 {p:Int} {D i:Nat} {r:List Int} {B:Mx}:zCu p D i 0 r B = acc p D i r B:=zW fun j _ => by rw [if_neg (by omega)]
theorem zH5 {p:Int} {D i:Nat} {r:List Int} {B:Mx}:zCu p D i D r B = acc p D (i + 1) r B:=zW fun j hj => by rw [if_pos hj]
theorem zJP {p:Int} {D i k:Nat} {r:List Int} {B:Mx} (hk:k < D) {a:Int} (ha:a = (at0 (zCu p D i k r B) k + at0 r i * ent B i k) % p):(zCu p D i k r B).set k a = zCu p D i (k + 1) r B:=by
 subst ha
 simp only [zCu]
 rw [qP,yF hk,if_neg (by omega)]
 refine zW fun j hj => ?_
 by_cases hjk:j = k
 ·subst hjk
  rw [if_pos rfl,if_pos (by omega)]
  simp only [S]
  rw [Int.emod_add_emod]
 ·rw [if_neg hjk]
  by_cases hlt:j < k
  ·rw [if_pos hlt,if_pos (by omega)]
  ·rw [if_neg hlt,if_neg (by omega)]
theorem zJQ {p:Int} {D i k j:Nat} {r:List Int} {B:Mx} (hp:0 < p) (hj:j < D):0 ≤ at0 (zCu p D i k r B) j ∧ at0 (zCu p D i k r B) j ≤ p - 1:=by
 rw [zCu,yF hj]
 split
 ·have h1:=Int.emod_nonneg (S (i + 1) fun l => at0 r l * ent B l j) (show p ≠ 0 by omega)
  have h2:=Int.emod_lt_of_pos (S (i + 1) fun l => at0 r l * ent B l j) hp
  omega
 ·have h1:=Int.emod_nonneg (S i fun l => at0 r l * ent B l j) (show p ≠ 0 by omega)
  have h2:=Int.emod_lt_of_pos (S i fun l => at0 r l * ent B l j) hp
  omega
theorem zGn {p:Int} {D i k:Nat} {r:List Int} {B:Mx}:(zCu p D i k r B).length = D:=zZ _ _
theorem zNf {p:Int} {D i k j:Nat} {r:List Int} {B:Mx} (hj:j < D):ixO (zCu p D i k r B) (j:Int) = some (at0 (zCu p D i k r B) j):=yE (by rw [zGn];exact hj)
theorem zJR {p:Int} {D:Nat} {r:List Int} {B:Mx}:List.replicate D (0:Int) = acc p D 0 r B:=by
 rw [tH];exact zW fun j _ => by simp [S]
theorem zH6 {a b p:Int} (hp:p ≤ 7) (ha:0 ≤ a ∧ a ≤ p - 1) (hb:0 ≤ b ∧ b ≤ p - 1):0 ≤ a * b ∧ a * b ≤ 36:=by
 have h1:0 ≤ a * b:=Int.mul_nonneg ha.1 hb.1
 have h2:a * b ≤ 6 * 6:=Int.mul_le_mul (by omega) (by omega) hb.1 (by omega)
 omega
section
variable {p:Int} {D:Nat} (hp:Prime p) (hD:D ≤ 8)
 include hp hD
theorem zBg {r:List Int} {B:Mx} (hr:Row p D r) (hB:Mat p D B):f_C p r B (D:Int) = some (uM p D r B):=by
 have h7:=hp.pos
 have hBl:=hB.1
 have hrl:=hr.1
 unfold f_C
 rw [yN (by omega),bs,zJR (p:=p) (r:=r) (B:=B)]
 have:=zN (body:=zQW p r B) (r:=acc p D D r B) (fun i => (acc p D i r B,(i:Int))) D (fun i hi => by
  have hri:=hr.2 i hi
  unfold zQW
  simp only
  rw [hrl,hBl,yL hi,zH,zH]
  have inner:=zN (body:=zQV p r B (acc p D i r B,(i:Int))) (r:=acc p D (i + 1) r B) (fun k => (zCu p D i k r B,(k:Int))) D (fun k hk => by
   obtain ⟨b1,b2,b3,b4⟩:=zPT hB hi hk
   have ha:=zJQ (p:=p) (i:=i) (k:=k) (r:=r) (B:=B) (by omega) hk
   have hm:=zH6 (by omega) hri b4
   unfold zQV
   simp only
   rw [zGn,yL hk,zH,b1,bs,b3,yL hk,zH,zNf hk,bs,yE (by omega),bs,bs,b2,bs,zD (by omega) (by omega),bs,zD (by omega) (by omega),bs]
   have hrem:uI (at0 (zCu p D i k r B) k + at0 r i * ent B i k) p = some ((at0 (zCu p D i k r B) k + at0 r i * ent B i k) % p):=by
    unfold uI
    rw [if_neg (by omega),Int.tmod_eq_emod_of_nonneg (by omega)]
   rw [hrem,bs,bs,zD (by omega) (by omega),bs,cs,Int.toNat_natCast,zJP hk rfl]) (by
   unfold zQV
   simp only
   rw [zGn,yT,zF,zH5])
  rw [zH4,show ((0:Nat):Int) = 0 from rfl] at inner
  rw [inner,bs,zD (by omega) (by omega),bs,cs]) (by
  unfold zQW
  simp only
  rw [hrl,yT,zF])
 rw [show ((0:Nat):Int) = 0 from rfl] at this
 rw [this,bs];rfl
theorem zI3 {a:Int} (h0:0 ≤ a) (_h1:a ≤ 1000):zGX a p = some (a % p):=by
 have _:=hD
 have h7:=hp.pos
 have e1:=Int.emod_nonneg a (show p ≠ 0 by omega)
 have e2:=Int.emod_lt_of_pos a (show 0 < p by omega)
 unfold zGX uI
 rw [if_neg (by omega),bs,Int.tmod_eq_emod_of_nonneg h0,zD (by omega) (by omega),bs,if_neg (by omega),bs,Int.tmod_eq_emod_of_nonneg (by omega)]
 congr 1
 rw [Int.add_emod_right,Int.emod_emod]
theorem zEp {i:Nat} {r:List Int} {B:Mx} (hi:i < D) (hr:Row p D r) (hB:Mat p D B):f_u (acc p D i r B) (B.getD i []) (at0 r i) p = some (acc p D (i + 1) r B):=by
 have h7:=hp.pos
 have hri:=hr.2 i hi
 unfold f_u
 have hl:(acc p D i r B).length = D:=zZ _ _
 have inner:=zN (body:=zK1 (acc p D i r B) (B.getD i []) (at0 r i) p) (r:=acc p D (i + 1) r B) (fun k => (zCu p D i k r B,(k:Int))) D (fun k hk => by
  obtain ⟨b1,b2,b3,b4⟩:=zPT hB hi hk
  have ha:=zJQ (p:=p) (i:=i) (k:=k) (r:=r) (B:=B) (by omega) hk
  have hm:=zH6 (by omega) hri b4
  unfold zK1
  simp only
  rw [hl,yL hk,zH,zNf hk,bs,b2,bs,zD (by omega) (by omega),bs,zD (by omega) (by omega),bs,zI3 hp hD (by omega) (by omega),bs,bs,zD (by omega) (by omega),bs,cs,Int.toNat_natCast,zJP hk rfl]) (by
  unfold zK1
  simp only
  rw [hl,yT,zF,zH5])
 rw [zH4,show ((0:Nat):Int) = 0 from rfl] at inner
 rw [inner,bs]
theorem qH {r:List Int} {B:Mx} {q:Int} (hr:Row p D r) (hB:Mat p D B) (hq:q = (D:Int)):zOo r (zS.mk p q B) = some (uM p D r B):=by
 subst hq
 have hrl:=hr.1
 unfold zOo
 simp only
 rw [yN (by omega),bs,zJR (p:=p) (r:=r) (B:=B)]
 have:=zN (body:=zK2 r (zS.mk p (D:Int) B)) (r:=acc p D D r B) (fun i => (acc p D i r B,(i:Int))) D (fun i hi => by
  have hBl:=hB.1
  unfold zK2
  simp only
  rw [hrl,yL hi,zH,yE (by omega),bs,yC [] (by omega),bs,zEp hp hD hi hr hB,bs,zD (by omega) (by omega),bs,cs]) (by
  unfold zK2
  simp only
  rw [hrl,yT,zF])
 rw [show ((0:Nat):Int) = 0 from rfl] at this
 rw [this,bs];rfl
theorem zH7 {A B:Mx} {i:Nat} (hi:i < A.length):(PM p D A B).take i ++ [uM p D (A.getD i []) B] = (PM p D A B).take (i + 1):=by
 have _:=hp;have _:=hD
 rw [List.take_succ_eq_append_getElem (by rw [vE];exact hi)]
 congr 2
 have:=zBe (p:=p) (D:=D) (B:=B) hi
 rw [List.getD_eq_getElem?_getD,List.getElem?_eq_getElem (by rw [vE];exact hi)] at this
 exact this.symm
theorem qQ {A B:Mx} (hA:Mat p D A) (hB:Mat p D B):f_T p A B (D:Int) = some (PM p D A B):=by
 have hAl:=hA.1
 unfold f_T
 have:=zN (body:=zQX p A B (D:Int)) (r:=PM p D A B) (fun i => ((PM p D A B).take i,(i:Int))) D (fun i hi => by
  unfold zQX
  simp only
  rw [hAl,yL hi,zH,yC [] (by omega),bs,zBg hp hD (hA.2 i hi) hB,bs,yD (by rw [List.length_take,vE];simp;omega),bs,zD (by omega) (by omega),bs,cs,zH7 hp hD (by omega)]) (by
  unfold zQX
  simp only
  rw [hAl,yT,zF,List.take_of_length_le (by rw [vE];omega)])
 rw [show ((0:Nat):Int) = 0 from rfl,List.take_zero] at this
 rw [this,bs]
theorem zGN {A B:Mx} {q:Int} (hA:Mat p D A) (hB:Mat p D B):zTk (zS.mk p q A) (zS.mk p (D:Int) B) = some (zS.mk p (D:Int) (PM p D A B)):=by
 have hAl:=hA.1
 unfold zTk
 have:=zN (body:=zK3 (zS.mk p q A) (zS.mk p (D:Int) B)) (r:=PM p D A B) (fun i => ((PM p D A B).take i,(i:Int))) D (fun i hi => by
  unfold zK3
  simp only
  rw [hAl,yL hi,zH,yC [] (by omega),bs,qH hp hD (hA.2 i hi) hB rfl,bs,yD (by rw [List.length_take,vE];simp;omega),bs,zD (by omega) (by omega),bs,cs,zH7 hp hD (by omega)]) (by
  unfold zK3
  simp only
  rw [hAl,yT,zF,List.take_of_length_le (by rw [vE];omega)])
 rw [show ((0:Nat):Int) = 0 from rfl,List.take_zero] at this
 rw [this,bs]
theorem zJS {i:Nat} (_hi:i < D):(List.replicate D (0:Int)).set i 1 = mkv D fun j => if j = i then 1 else 0:=by
 have _:=hp;have _:=hD
 rw [tH,qP]
theorem zNg {i:Nat} (hi:i < D):(idM D).take i ++ [mkv D fun j => if j = i then 1 else 0] = (idM D).take (i + 1):=by
 have _:=hp;have _:=hD
 rw [List.take_succ_eq_append_getElem (by rw [wZ];exact hi)]
 congr 2
 have:=zBf hi
 rw [List.getD_eq_getElem?_getD,List.getElem?_eq_getElem (by rw [wZ];exact hi)] at this
 exact this.symm
theorem zCT:f_G (D:Int) = some (idM D):=by
 unfold f_G
 have:=zN (body:=zKv (D:Int)) (r:=idM D) (fun i => ((idM D).take i,(i:Int))) D (fun i hi => by
  unfold zKv
  simp only
  rw [yL hi,zH,yN (by omega),bs,wW,List.getElem?_replicate,if_pos hi,bs,Int.toNat_natCast,zJS hp hD hi,yD (by rw [List.length_take,wZ];simp;omega),bs,zD (by omega) (by omega),bs,cs,zNg hp hD hi]) (by
  unfold zKv
  simp only
  rw [yT,zF,List.take_of_length_le (by rw [wZ];omega)])
 rw [show ((0:Nat):Int) = 0 from rfl,List.take_zero] at this
 rw [this,bs]
theorem zGO:f_U p (D:Int) = some (zS.mk p (D:Int) (idM D)):=by
 unfold f_U
 have:=zN (body:=zR1 (D:Int)) (r:=idM D) (fun i => ((idM D).take i,(i:Int))) D (fun i hi => by
  unfold zR1
  simp only
  rw [yL hi,zH,yN (by omega),bs,wW,List.getElem?_replicate,if_pos hi,bs,Int.toNat_natCast,zJS hp hD hi,yD (by rw [List.length_take,wZ];simp;omega),bs,zD (by omega) (by omega),bs,cs,zNg hp hD hi]) (by
  unfold zR1
  simp only
  rw [yT,zF,List.take_of_length_le (by rw [wZ];omega)])
 rw [show ((0:Nat):Int) = 0 from rfl,List.take_zero] at this
 rw [this,bs]
end
end Go.Pl

namespace Go.Pl
open Go Go.Ab Go.Wk Go.Pc
def nw:Nat → List Int → List Nat
 | _,[] => []
 | o,a :: v => List.replicate a.toNat o ++ nw (o + 1) v
theorem zEq:∀ (o:Nat) (u v:List Int),nw o (u ++ v) = nw o u ++ nw (o + u.length) v
 | o,[],v => by simp [nw]
 | o,a :: u,v => by
  simp only [List.cons_append,nw,zEq (o + 1) u v,List.append_assoc,List.length_cons]
  rw [show o + 1 + u.length = o + (u.length + 1) from by omega]
theorem zI4 {v:List Int} {i:Nat} (h:i < v.length):nw 0 (v.take (i + 1)) = nw 0 (v.take i) ++ List.replicate (at0 v i).toNat i:=by
 rw [List.take_succ_eq_append_getElem h,zEq,List.length_take,Nat.min_eq_left (by omega),Nat.zero_add]
 simp only [nw,List.append_nil]
 rw [at0,List.getD_eq_getElem?_getD,List.getElem?_eq_getElem h];rfl
theorem zPU {n:Nat}:∀ (o:Nat) (v:List Int),o + v.length ≤ n → ∀ w ∈ nw o v,w < n
 | o,[],_,w,h => by simp [nw] at h
 | o,a :: v,hv,w,h => by
  simp only [nw,List.mem_append,List.length_cons] at h hv
  rcases h with h | h
  ·have:=List.eq_of_mem_replicate h;omega
  ·exact zPU (o + 1) v (by omega) w h
theorem zGo:∀ (o:Nat) (v:List Int),(∀ i,i < v.length → at0 v i ≤ 6) → (nw o v).length ≤ 6 * v.length
 | o,[],_ => by simp [nw]
 | o,a :: v,h => by
  have h0:=h 0 (by simp)
  have:=zGo (o + 1) v fun i hi => by
   have:=h (i + 1) (by simpa using hi)
   simpa [at0] using this
  simp only [at0,List.getD_cons_zero] at h0
  simp only [nw,List.length_append,List.length_replicate,List.length_cons]
  omega
def wM (p:Int) (D:Nat) (A:List Mx) (ws:List Nat) (B:Mx):Mx:=ws.foldl (fun B w => PM p D B (A.getD w [])) B
theorem zEr {p:Int} {D:Nat} {A:List Mx} {u v:List Nat} {B:Mx}:wM p D A (u ++ v) B = wM p D A v (wM p D A u B):=by simp [wM,List.foldl_append]
theorem zGp {p:Int} {D:Nat} {A:List Mx} {w:Nat}:∀ (k:Nat) (B:Mx),wM p D A (List.replicate k w) B = iter k (fun B => PM p D B (A.getD w [])) B
 | 0,_ => rfl
 | k + 1,B => by
  rw [List.replicate_succ]
  show wM p D A (List.replicate k w) (PM p D B (A.getD w [])) = _
  rw [zGp k];rfl
theorem zEs {p:Int} {D:Nat} {A:List Mx} (hp:0 < p):∀ (ws:List Nat) {B:Mx},Mat p D B → Mat p D (wM p D A ws B)
 | [],_,hB => hB
 | _w :: ws,_,hB => zEs hp ws (zBS hp hB.1)
theorem zPV {p:Int} {D:Nat} {A:List Mx} (hp:0 < p) {C:Mx} (hC:C.length = D):∀ (ws:List Nat) {B:Mx},Mat p D B → wM p D A ws (PM p D C B) = PM p D C (wM p D A ws B)
 | [],_,_ => rfl
 | w :: ws,B,hB => by
  show wM p D A ws (PM p D (PM p D C B) (A.getD w [])) = PM p D C (wM p D A ws (PM p D B (A.getD w [])))
  rw [zJN hC hB.1,zPV hp hC ws (zBS hp hB.1)]
structure MOk (n:Nat) (m:zB) (D:Nat):Prop where
 p:Prime m.Prime
 d:m.Dim = (D:Int)
 d1:1 ≤ D
 d3:D ≤ 3
 len:m.zI.length = n
 mat:∀ i,i < n → Mat m.Prime D (m.zI.getD i [])
section
variable {n D:Nat} {m:zB} (hm:MOk n m D) (hn:n ≤ 9)
 include hm hn
theorem zJT {v:List Int} (hl:v.length = n) (hv:∀ i,i < n → 0 ≤ at0 v i ∧ at0 v i ≤ 6):f_I m v = some (wM m.Prime D m.zI (nw 0 v) (idM D)):=by
 have h7:=hm.p.pos
 have h3:=hm.d3
 have hlen:=hm.len
 unfold f_I
 rw [hm.d,zCT hm.p (by omega),bs]
 have hI:∀ i,Mat m.Prime D (wM m.Prime D m.zI (nw 0 (v.take i)) (idM D)):=fun i => zEs (by omega) _ (zAi h7.1)
 have:=zN (body:=zQZ m v) (r:=wM m.Prime D m.zI (nw 0 v) (idM D)) (fun i => (wM m.Prime D m.zI (nw 0 (v.take i)) (idM D),(i:Int))) n (fun i hi => by
  have hvi:=hv i hi
  unfold zQZ
  simp only
  rw [hl,yL hi,zH]
  rw [wO (S:=Mat m.Prime D) (body:=zQY m v (wM m.Prime D m.zI (nw 0 (v.take i)) (idM D),(i:Int))) (fun B => B) (fun B => PM m.Prime D B (m.zI.getD i [])) (at0 v i) hvi.1 (fun B hB => zBS (by omega) hB.1) (fun B q hB hq => by
   unfold zQY
   simp only
   rw [yE (by omega),bs,decide_eq_true hq,zH,yC [] (by omega),bs,hm.d,qQ hm.p (by omega) hB (hm.mat i hi),bs,zD (by omega) (by omega),bs,cs]) (fun B hB => by
   unfold zQY
   simp only
   rw [yE (by omega),bs,decide_eq_false (by omega),zF]) (hI i),bs,zD (by omega) (by omega),bs,cs]
  rw [zI4 (by omega),zEr,zGp]) (by
  unfold zQZ
  simp only
  rw [hl,yT,zF,List.take_of_length_le (by omega)])
 rw [show ((0:Nat):Int) = 0 from rfl,List.take_zero] at this
 simp only [nw,wM,List.foldl_nil] at this
 rw [this,bs];rfl
abbrev enW (ws:List Nat):List Int:=ws.map fun (w:Nat) => (w:Int) + 1
theorem zAv {i:Nat} (hi:i < n):zKz m (i:Int) = some (zS.mk m.Prime (D:Int) (m.zI.getD i [])):=by
 have _:=hn
 have hlen:=hm.len
 unfold zKz
 rw [yC [] (by omega),bs,hm.d]
theorem zC7 {ws:List Nat} (hw:∀ w ∈ ws,w < n) (hl:ws.length ≤ 1000):f_V m (enW ws) = some (zS.mk m.Prime (D:Int) (wM m.Prime D m.zI ws (idM D))):=by
 have h7:=hm.p.pos
 have h3:=hm.d3
 unfold f_V
 rw [hm.d,zGO hm.p (by omega),bs]
 have hI:∀ i,Mat m.Prime D (wM m.Prime D m.zI (ws.take i) (idM D)):=fun i => zEs (by omega) _ (zAi h7.1)
 have hel:(enW ws).length = ws.length:=by simp only [enW,List.length_map]
 have:=zN (body:=zR2 m (enW ws)) (r:=(m.Prime,(D:Int),wM m.Prime D m.zI ws (idM D))) (fun i => (m.Prime,(D:Int),wM m.Prime D m.zI (ws.take i) (idM D),(i:Int))) ws.length (fun i hi => by
  have hwi:=hw ws[i] (List.getElem_mem hi)
  unfold zR2
  simp only
  rw [hel,yL hi,zH,wW,List.getElem?_map,List.getElem?_eq_getElem hi]
  simp only [Option.map_some]
  rw [bs,zD (by omega) (by omega),bs,show ((ws[i]:Nat):Int) + 1 - 1 = ((ws[i]:Nat):Int) from by omega,zAv hm hn hwi,bs,zGN hm.p (by omega) (hI i) (hm.mat _ hwi),bs,zD (by omega) (by omega),bs,cs,List.take_succ_eq_append_getElem hi,zEr]
  rfl) (by
  unfold zR2
  simp only
  rw [hel,yT,zF,List.take_of_length_le (by omega)])
 rw [show ((0:Nat):Int) = 0 from rfl,List.take_zero] at this
 simp only [wM,List.foldl_nil] at this
 simp only
 rw [this,bs];rfl
end
theorem zBt {v:List Int} (hl:v.length ≤ 9) (hv:∀ i,i < v.length → 0 ≤ at0 v i ∧ at0 v i ≤ 6):f_J v = some (enW (nw 0 v)):=by
 unfold f_J
 have hlen:∀ i,(nw 0 (v.take i)).length ≤ 54:=fun i => by
  have:=zGo 0 (v.take i) fun j hj => by
   rw [List.length_take] at hj
   have e:at0 (v.take i) j = at0 v j:=by simp only [at0,List.getD_eq_getElem?_getD,List.getElem?_take];rw [if_pos (by omega)]
   rw [e];exact (hv j (by omega)).2
  rw [List.length_take] at this
  omega
 have:=zN (body:=zRx v) (r:=enW (nw 0 v)) (fun i => (enW (nw 0 (v.take i)),(i:Int))) v.length (fun i hi => by
  have hvi:=hv i hi
  have hli:=hlen i
  unfold zRx
  simp only
  rw [yL hi,zH,yE hi,bs]
  have inner:=zN (body:=zRw (enW (nw 0 (v.take i)),(i:Int)) (at0 v i)) (r:=enW (nw 0 (v.take (i + 1)))) (fun k => (enW (nw 0 (v.take i) ++ List.replicate k i),(k:Int))) (at0 v i).toNat (fun k hk => by
   unfold zRw
   simp only
   rw [decide_eq_true (by omega),zH,zD (by omega) (by omega),bs,yD (by simp only [List.length_map,List.length_append,List.length_replicate,List.length_cons,List.length_nil];omega),bs,zD (by omega) (by omega),bs,cs]
   congr 3
   rw [List.replicate_succ',← List.append_assoc]
   simp only [enW,List.map_append,List.map_cons,List.map_nil]
   rfl) (by
   unfold zRw
   simp only
   rw [decide_eq_false (by omega),zF,zI4 hi])
  rw [show ((0:Nat):Int) = 0 from rfl,List.replicate_zero,List.append_nil] at inner
  rw [inner,bs,zD (by omega) (by omega),bs,cs]) (by
  unfold zRx
  simp only
  rw [yT,zF,List.take_length])
 rw [show ((0:Nat):Int) = 0 from rfl,List.take_zero] at this
 simp only [nw,enW,List.map_nil] at this
 rw [this,bs]
theorem zPW {v o:Int} (h:zTj 1 (IntKind.wrap .u64 o) = some (0,o)):zTj (IntKind.wrap .u64 (([v]:List Int).length:Int)) (IntKind.wrap .u64 o) = some (0,o):=by
 rw [show IntKind.wrap .u64 (([v]:List Int).length:Int) = 1 from by simp;decide]
 exact h
theorem zBT {v o:Int} (ho:Prime o):f_i [v] o = some (List.replicate o.toNat v):=by
 unfold f_i
 rcases ho with rfl | rfl | rfl | rfl
 ·have h:=zN (body:=jJ) (r:=[v,v]) (fun i => match i with | 0 => ([v,0],1) | _ => ([v,v],2)) 1 (fun i hi => by
   match i,hi with
   | 0,_ => simp [jJ,zU,xU,rng,inR]) (by simp [jJ])
  rw [zPW (by decide +kernel),bs]
  have hl:yU (IntKind.wrap .i64 2) = some 2:=by decide +kernel
  simp only [hl,bs]
  rw [show decide ((2:Int) < 0) = false from rfl,zF,show decide ((0:Int) > 0) = false from rfl,zF,show decide ((2:Int) > 9223372036854775807) = false from by decide,zF]
  have e2:xU (List.replicate 2 (0:Int)) 0 (([v]:List Int).take ((List.replicate 2 (0:Int)).length - 0)) = [v,0]:=by simp [xU,List.replicate]
  have e3:((min ([v]:List Int).length ((List.replicate 2 (0:Int)).length - 0):Nat):Int) = 1:=by simp
  rw [e2,e3]
  have h':zG jJ ([v,0],1) = _:=h
  rw [h',bs]
  rfl
 ·have h:=zN (body:=jJ) (r:=[v,v,v]) (fun i => match i with | 0 => ([v,0,0],1) | 1 => ([v,v,0],2) | _ => ([v,v,v],3)) 2 (fun i hi => by
   match i,hi with
   | 0,_ => simp [jJ,zU,xU,rng,inR]
   | 1,_ => simp [jJ,zU,xU,rng,inR]) (by simp [jJ])
  rw [zPW (by decide +kernel),bs]
  have hl:yU (IntKind.wrap .i64 3) = some 3:=by decide +kernel
  simp only [hl,bs]
  rw [show decide ((3:Int) < 0) = false from rfl,zF,show decide ((0:Int) > 0) = false from rfl,zF,show decide ((3:Int) > 9223372036854775807) = false from by decide,zF]
  have e2:xU (List.replicate 3 (0:Int)) 0 (([v]:List Int).take ((List.replicate 3 (0:Int)).length - 0)) = [v,0,0]:=by simp [xU,List.replicate]
  have e3:((min ([v]:List Int).length ((List.replicate 3 (0:Int)).length - 0):Nat):Int) = 1:=by simp
  rw [e2,e3]
  have h':zG jJ ([v,0,0],1) = _:=h
  rw [h',bs]
  rfl
 ·have h:=zN (body:=jJ) (r:=[v,v,v,v,v]) (fun i => match i with | 0 => ([v,0,0,0,0],1) | 1 => ([v,v,0,0,0],2) | 2 => ([v,v,v,v,0],4) | _ => ([v,v,v,v,v],5)) 3 (fun i hi => by
   match i,hi with
   | 0,_ => simp [jJ,zU,xU,rng,inR]
   | 1,_ => simp [jJ,zU,xU,rng,inR]
   | 2,_ => simp [jJ,zU,xU,rng,inR]) (by simp [jJ])
  rw [zPW (by decide +kernel),bs]
  have hl:yU (IntKind.wrap .i64 5) = some 5:=by decide +kernel
  simp only [hl,bs]
  rw [show decide ((5:Int) < 0) = false from rfl,zF,show decide ((0:Int) > 0) = false from rfl,zF,show decide ((5:Int) > 9223372036854775807) = false from by decide,zF]
  have e2:xU (List.replicate 5 (0:Int)) 0 (([v]:List Int).take ((List.replicate 5 (0:Int)).length - 0)) = [v,0,0,0,0]:=by simp [xU,List.replicate]
  have e3:((min ([v]:List Int).length ((List.replicate 5 (0:Int)).length - 0):Nat):Int) = 1:=by simp
  rw [e2,e3]
  have h':zG jJ ([v,0,0,0,0],1) = _:=h
  rw [h',bs]
  rfl
 ·have h:=zN (body:=jJ) (r:=[v,v,v,v,v,v,v]) (fun i => match i with | 0 => ([v,0,0,0,0,0,0],1) | 1 => ([v,v,0,0,0,0,0],2) | 2 => ([v,v,v,v,0,0,0],4) | _ => ([v,v,v,v,v,v,v],7)) 3 (fun i hi => by
   match i,hi with
   | 0,_ => simp [jJ,zU,xU,rng,inR]
   | 1,_ => simp [jJ,zU,xU,rng,inR]
   | 2,_ => simp [jJ,zU,xU,rng,inR]) (by simp [jJ])
  rw [zPW (by decide +kernel),bs]
  have hl:yU (IntKind.wrap .i64 7) = some 7:=by decide +kernel
  simp only [hl,bs]
  rw [show decide ((7:Int) < 0) = false from rfl,zF,show decide ((0:Int) > 0) = false from rfl,zF,show decide ((7:Int) > 9223372036854775807) = false from by decide,zF]
  have e2:xU (List.replicate 7 (0:Int)) 0 (([v]:List Int).take ((List.replicate 7 (0:Int)).length - 0)) = [v,0,0,0,0,0,0]:=by simp [xU,List.replicate]
  have e3:((min ([v]:List Int).length ((List.replicate 7 (0:Int)).length - 0):Nat):Int) = 1:=by simp
  rw [e2,e3]
  have h':zG jJ ([v,0,0,0,0,0,0],1) = _:=h
  rw [h',bs]
  rfl
end Go.Pl

namespace Go.Pl
open Go Go.Ab Go.Wk Go.Pc
theorem IsB.b {o:Option Bool} {P:Prop} (h:IsB o P):IsB (o.bind fun r => some r) P:=by
 rcases h with ⟨h1,h2⟩ | ⟨h1,h2⟩
 ·exact .inl ⟨by rw [h1,bs],h2⟩
 ·exact .inr ⟨by rw [h1,bs],h2⟩
theorem zEI {p:Int} {D:Nat} {r:List Int} (hp:Prime p) (hD:D ≤ 8):IsB (zRv r p (D:Int)) (Row p D r):=by
 have h7:=hp.pos
 unfold zRv
 by_cases h:r.length = D
 ·rw [jU (by omega),zF]
  refine (tR r.length (fun i => 0 ≤ at0 r i ∧ at0 r i ≤ p - 1) rfl (fun i hi _ => ?_) ?_).iff ⟨fun g => ⟨h,by rw [← h];exact g⟩,fun g => by rw [h];exact g.2⟩
  ·refine vQ (jC _ _ _) (by omega) ?_
   unfold zNz
   rw [yL hi,zH,yE hi,bs,zD (by omega) (by omega),bs]
  ·unfold zNz
   rw [yT,zF]
 ·rw [sX (by omega),zH]
  exact .inr ⟨rfl,fun g => h g.1⟩
theorem zEJ {p:Int} {D:Nat} {r:List Int} (hp:Prime p) (hD:D ≤ 8):IsB (zQU p (D:Int) r) (Row p D r):=by
 have h7:=hp.pos
 unfold zQU
 by_cases h:r.length = D
 ·rw [jU (by omega),zF]
  refine (tR r.length (fun i => 0 ≤ at0 r i ∧ at0 r i ≤ p - 1) rfl (fun i hi _ => ?_) ?_).iff ⟨fun g => ⟨h,by rw [← h];exact g⟩,fun g => by rw [h];exact g.2⟩
  ·refine vQ (zBJ _ _ _) (by omega) ?_
   unfold zNw
   rw [yL hi,zH,yE hi,bs,zD (by omega) (by omega),bs]
  ·unfold zNw
   rw [yT,zF]
 ·rw [sX (by omega),zH]
  exact .inr ⟨rfl,fun g => h g.1⟩
theorem zNM {p:Int} {D:Nat} {B:Mx} (hp:Prime p) (hD:D ≤ 8):IsB (zTc p (D:Int) B) (Mat p D B):=by
 unfold zTc
 by_cases h:B.length = D
 ·rw [jU (by omega),zF]
  refine (tR B.length (fun i => Row p D (B.getD i [])) rfl (fun i hi _ => ?_) ?_).iff ⟨fun g => ⟨h,by rw [← h];exact fun i hi => by rw [h];exact g i hi⟩,fun g => by rw [h];exact g.2⟩
  ·refine vQ (zEJ hp hD) (by omega) ?_
   unfold zNx
   rw [yL hi,zH,yC [] hi,bs]
  ·unfold zNx
   rw [yT,zF]
 ·rw [sX (by omega),zH]
  exact .inr ⟨rfl,fun g => h g.1⟩
theorem zGP {p:Int} {D:Nat} {B:Mx} (hp:Prime p) (hD:D ≤ 8) (hB:B.length = D):IsB (zTi (zS.mk p (D:Int) B)) (Mat p D B):=by
 unfold zTi
 simp only
 rcases zBb p with ⟨h1,_⟩ | ⟨_,h2⟩
 ·rw [h1,bs,Bool.not_true,zF]
  rcases jC (D:Int) 0 8 with ⟨h3,_⟩ | ⟨_,h4⟩
  ·rw [h3,bs,Bool.not_true,zF,decide_eq_false (by omega),zF]
   refine (tR (body:=zK0 (zS.mk p (D:Int) B)) D (fun i => Row p D (B.getD i [])) rfl (fun i hi _ => ?_) ?_).iff ⟨fun g => ⟨hB,g⟩,fun g => g.2⟩
   ·refine vQ (zEI hp hD) (by omega) ?_
    unfold zK0
    simp only
    rw [hB,yL hi,zH,yC [] (by omega),bs]
   ·unfold zK0
    simp only
    rw [hB,yT,zF]
  ·exact absurd (by omega) h4
 ·exact absurd hp h2
theorem zGq {A B:Mx} (hA:A.length ≤ 1000) (h:∀ r ∈ A,r.length ≤ 1000):zTd A B = some (A == B) :=
 zHz (t:=f_Z) (body:=zRa A B) rfl (fun _ => rfl) (by omega) fun u hu v _ => zNK (by have:=h u hu;omega)
theorem zGQ {A B:Mx} (hA:A.length ≤ 1000) (h:∀ r ∈ A,r.length ≤ 1000):zTl A B = some (A == B):=by
 unfold zTl
 rw [zHz (f:=zV8 A B) (t:=f_S) (body:=zR3 A B) rfl (fun _ => rfl) (by omega) fun u hu v _ => zCR (by have:=h u hu;omega),bs]
theorem Mat.small {p:Int} {D:Nat} {A:Mx} (h:Mat p D A) (hD:D ≤ 8):A.length ≤ 1000 ∧ ∀ r ∈ A,r.length ≤ 1000:=by
 refine ⟨by have:=h.1;omega,fun r hr => ?_⟩
 obtain ⟨i,hi,rfl⟩:=List.mem_iff_getElem.1 hr
 have:=h.2 i (by rw [← h.1];exact hi)
 rw [List.getD_eq_getElem?_getD,List.getElem?_eq_getElem hi] at this
 have:=this.1
 simp only [Option.getD_some] at this
 omega
def zGR (x:SPr) (m:zB) (D:Nat):Prop :=
 ∀ i,i < x.zA.length → wM m.Prime D m.zI (List.replicate (at0 x.zA i).toNat i) (idM D) = wM m.Prime D m.zI (nw 0 (x.zT.getD i [])) (idM D) ∧
  ∀ j,i + 1 ≤ j → j < x.zA.length → PM m.Prime D (m.zI.getD j []) (m.zI.getD i []) = PM m.Prime D (m.zI.getD i []) (wM m.Prime D m.zI (nw 0 ((x.zC.getD i []).getD (j - (i + 1)) [])) (idM D))
theorem uP {x:SPr} {v:List Int} {i:Nat} (ho:Os x.zA) (h:Exp x.zA v i):v.length = x.zA.length ∧ ∀ j,j < x.zA.length → 0 ≤ at0 v j ∧ at0 v j ≤ 6:=by
 have h1:=h.1.1
 refine ⟨h1,fun j hj => ?_⟩
 have:=h.1.2 j (by omega)
 have:=(ho.2 j hj).pos
 omega
section
variable {x:SPr} {m:zB} {D:Nat} (h:Pres x) (hm:MOk x.zA.length m D)
 include h hm
theorem zNN {i:Nat} (hi:i < x.zA.length):(x.zT.getD i []).length = x.zA.length ∧ ∀ j,j < x.zA.length → 0 ≤ at0 (x.zT.getD i []) j ∧ at0 (x.zT.getD i []) j ≤ 6:=have _:=hm;uP h.os (h.tl i hi).1
theorem zLx {i j:Nat} (hi:i < x.zA.length) (hj:j < (x.zC.getD i []).length):((x.zC.getD i []).getD j []).length = x.zA.length ∧ ∀ q,q < x.zA.length → 0 ≤ at0 ((x.zC.getD i []).getD j []) q ∧ at0 ((x.zC.getD i []).getD j []) q ≤ 6:=have _:=hm;uP h.os ((h.tl i hi).2.2 j hj)
theorem zNO:IsB ((zG (zRe x m) 0).bind fun r => match r with | .inl _ => some true | .inr r => some r) (zGR x m D):=by
 have h6:=h.os.1
 have h7:=hm.p.pos
 have h3:=hm.d3
 have hlen:=hm.len
 refine tR x.zA.length (fun i => wM m.Prime D m.zI (List.replicate (at0 x.zA i).toNat i) (idM D) = wM m.Prime D m.zI (nw 0 (x.zT.getD i [])) (idM D) ∧
  ∀ j,i + 1 ≤ j → j < x.zA.length → PM m.Prime D (m.zI.getD j []) (m.zI.getD i []) = PM m.Prime D (m.zI.getD i []) (wM m.Prime D m.zI (nw 0 ((x.zC.getD i []).getD (j - (i + 1)) [])) (idM D))) rfl (fun i hi _ => ?_) ?_
 ·have hpr:=(h.os.2 i hi).pos
  have hpl:=h.pl
  have hcl:=h.cl
  obtain ⟨p1,p2⟩:=zNN h hm hi
  have t2:=(h.tl i hi).2.1
  have hI:=zAi (p:=m.Prime) (D:=D) h7.1
  unfold zRe
  rw [yL hi,zH,hm.d,zCT hm.p (by omega),bs]
  rw [wO (S:=Mat m.Prime D) (body:=zRc x m (i:Int)) (fun B => B) (fun B => PM m.Prime D B (m.zI.getD i [])) (at0 x.zA i) (by omega) (fun B hB => zBS (by omega) hB.1) (fun B q hB hq => by
   unfold zRc
   simp only
   rw [yE hi,bs,decide_eq_true hq,zH,yC [] (by omega),bs,hm.d,qQ hm.p (by omega) hB (hm.mat i hi),bs,zD (by omega) (by omega),bs,cs]) (fun B hB => by
   unfold zRc
   simp only
   rw [yE hi,bs,decide_eq_false (by omega),zF]) hI,bs,yC [] (by omega),bs,zJT hm (by omega) p1 p2,bs,← zGp]
  have hs:=(zEs (p:=m.Prime) (D:=D) (A:=m.zI) (by omega) (List.replicate (at0 x.zA i).toNat i) hI).small (by omega)
  rw [zGq hs.1 hs.2,bs]
  by_cases hq:wM m.Prime D m.zI (List.replicate (at0 x.zA i).toNat i) (idM D) = wM m.Prime D m.zI (nw 0 (x.zT.getD i [])) (idM D)
  ·rw [show (wM m.Prime D m.zI (List.replicate (at0 x.zA i).toNat i) (idM D) == wM m.Prime D m.zI (nw 0 (x.zT.getD i [])) (idM D)) = true from by rw [beq_iff_eq];exact hq,Bool.not_true,zF,zD (by omega) (by omega),bs,cs]
   rcases chk (body:=zRd x m (i:Int)) x.zA.length (i + 1) (by omega) (fun j => PM m.Prime D (m.zI.getD j []) (m.zI.getD i []) = PM m.Prime D (m.zI.getD i []) (wM m.Prime D m.zI (nw 0 ((x.zC.getD i []).getD (j - (i + 1)) [])) (idM D))) (fun _ => false) (fun j h1 h2 _ => by
     obtain ⟨c1,c2⟩:=zLx h hm (j:=j - (i + 1)) hi (by omega)
     have hjm:=hm.mat j h2
     have him:=hm.mat i hi
     have hw:=zEs (p:=m.Prime) (D:=D) (A:=m.zI) (by omega) (nw 0 ((x.zC.getD i []).getD (j - (i + 1)) [])) hI
     have hs:=(zBS (p:=m.Prime) (B:=m.zI.getD i []) (by omega) hjm.1).small (by omega)
     refine vQ (o:=some (PM m.Prime D (m.zI.getD j []) (m.zI.getD i []) == PM m.Prime D (m.zI.getD i []) (wM m.Prime D m.zI (nw 0 ((x.zC.getD i []).getD (j - (i + 1)) [])) (idM D)))) (IsB.of_bool (by rw [beq_iff_eq])) (by omega) ?_
     unfold zRd
     rw [yL h2,zH,yC (i:=j) [] (by omega),bs,yC (i:=i) [] (by omega),bs,hm.d,qQ hm.p (by omega) hjm him,bs,bs,yC (i:=i) [] (by omega),bs,zD (by omega) (by omega),bs,zD (by omega) (by omega),bs,show (j:Int) - (i:Int) - 1 = ((j - (i + 1):Nat):Int) from by omega,yC [] (by omega),bs,zJT hm (by omega) c1 c2,bs,qQ hm.p (by omega) him hw,bs,zGq hs.1 hs.2]) (by
     unfold zRd
     rw [yT,zF]) with ⟨g1,g2⟩ | ⟨j,j1,j2,g1,g2⟩
   ·left
    rw [g1,bs,bs]
    exact ⟨rfl,hq,g2⟩
   ·right
    rw [g1,bs]
    exact ⟨rfl,fun g => g2 (g.2 j j1 j2)⟩
  ·rw [show (wM m.Prime D m.zI (List.replicate (at0 x.zA i).toNat i) (idM D) == wM m.Prime D m.zI (nw 0 (x.zT.getD i [])) (idM D)) = false from by rw [beq_eq_false_iff_ne];exact hq,Bool.not_false,zH]
   exact .inr ⟨rfl,fun g => hq g.1⟩
 ·unfold zRe
  rw [yT,zF]
end
def zUk (x:SPr) (m:zB):Prop:=zBd x ∧ ∃ D,MOk x.zA.length m D ∧ zGR x m D
theorem zGS {x:SPr} {m:zB} (hl:x.zA.length ≤ 1048576):IsB (zTe x m) (zUk x m):=by
 unfold zTe
 rcases zLv hl with ⟨h1,h2⟩ | ⟨h1,h2⟩
 ·have h6:=h2.1.os.1
  rw [h1,bs,zH]
  unfold f_p
  rcases zGd m.Prime with ⟨p1,p2⟩ | ⟨p1,p2⟩
  ·rw [p1,bs,Bool.not_true,zF]
   rcases zBJ m.Dim 1 3 with ⟨d1,d2⟩ | ⟨d1,d2⟩
   ·rw [d1,bs,Bool.not_true,zF]
    obtain ⟨D,hD⟩:∃ D:Nat,m.Dim = (D:Int):=⟨m.Dim.toNat,by omega⟩
    by_cases hlen:m.zI.length = x.zA.length
    ·rw [jU (by omega),zF]
     rcases chk (body:=zRb x m) x.zA.length 0 (Nat.zero_le _) (fun i => Mat m.Prime D (m.zI.getD i [])) (fun _ => false) (fun i _ hi _ => by
       refine vQ (zNM p2 (D:=D) (by omega)) (by omega) ?_
       unfold zRb
       rw [yL hi,zH,yC [] (by omega),bs,hD]) (by
       unfold zRb
       rw [yT,zF]) with ⟨g1,g2⟩ | ⟨i,_,hi,g1,g2⟩
     ·rw [show ((0:Nat):Int) = 0 from rfl] at g1
      have hm:MOk x.zA.length m D:=⟨p2,hD,by omega,by omega,hlen,fun i hi => g2 i (Nat.zero_le _) hi⟩
      rw [g1,bs]
      refine (zNO h2.1 hm).b.iff ⟨fun k2 => ⟨h2,D,hm,k2⟩,fun ⟨_,D',hm',hr⟩ => ?_⟩
      have:D' = D:=by have:=hm'.d;omega
      rw [← this];exact hr
     ·rw [show ((0:Nat):Int) = 0 from rfl] at g1
      rw [g1,bs]
      refine .inr ⟨rfl,fun ⟨_,D',hm',_⟩ => g2 ?_⟩
      have:D' = D:=by have:=hm'.d;omega
      rw [← this];exact hm'.mat i hi
    ·rw [sX (by omega),zH]
     exact .inr ⟨rfl,fun ⟨_,D',hm',_⟩ => hlen hm'.len⟩
   ·rw [d1,bs,Bool.not_false,zH]
    exact .inr ⟨rfl,fun ⟨_,D',hm',_⟩ => d2 (by have:=hm'.d;have:=hm'.d1;have:=hm'.d3;omega)⟩
  ·rw [p1,bs,Bool.not_false,zH]
   exact .inr ⟨rfl,fun ⟨_,D',hm',_⟩ => p2 hm'.p⟩
 ·rw [h1,bs,zF]
  exact .inr ⟨rfl,fun g => h2 g.1⟩
end Go.Pl

namespace Go.Pl
open Go Go.Ab Go.Wk Go.Pc
abbrev Rl:=List Nat × List Nat
def r1 (x:SPr) (i:Nat):Rl:=(List.replicate (at0 x.zA i).toNat i,nw 0 (x.zT.getD i []))
def r2 (x:SPr) (i j:Nat):Rl:=([i + j + 1,i],i :: nw 0 ((x.zC.getD i []).getD j []))
def R2 (x:SPr) (i:Nat):List Rl:=(List.range (x.zC.getD i []).length).map (r2 x i)
def xJ (x:SPr):List Rl:=(List.range x.zA.length).map (r1 x) ++ (List.range x.zA.length).flatMap (R2 x)
abbrev enR (q:Rl):List Int × List Int:=(enW q.1,enW q.2)
section
variable {x:SPr} (h:Pres x)
 include h
theorem zPX {i:Nat} (hi:i < x.zA.length):(R2 x i).length ≤ 9:=by
 have:=(h.tl i hi).2.1
 have:=h.os.1
 simp only [R2,List.length_map,List.length_range];omega
theorem zGr:∀ i,i ≤ x.zA.length → ((List.range i).flatMap (R2 x)).length ≤ 9 * i
 | 0,_ => by simp
 | i + 1,hi => by
  have:=zGr i (by omega)
  have:=zPX h (i:=i) (by omega)
  rw [List.range_succ,List.flatMap_append,List.length_append]
  simp only [List.flatMap_cons,List.flatMap_nil,List.append_nil]
  omega
theorem zSB {k i:Nat}:enW (List.replicate k i) = List.replicate k ((i:Int) + 1):=by have _:=h;simp [enW]
theorem kS:f_v x = some ((xJ x).map enR):=by
 have h6:=h.os.1
 have hpl:=h.pl
 have hcl:=h.cl
 unfold f_v
 have l1:=zN (body:=zRy x) (r:=((List.range x.zA.length).map (r1 x)).map enR) (fun i => (((List.range i).map (r1 x)).map enR,(i:Int))) x.zA.length (fun i hi => by
  obtain ⟨p1,p2⟩:=uP h.os (h.tl i hi).1
  unfold zRy
  simp only
  rw [yL hi,zH,yE hi,bs,zD (by omega) (by omega),bs,zBT (h.os.2 i hi),bs,yC [] (by omega),bs,zBt (by omega) (by rw [p1];exact p2),bs,yD (by simp only [List.length_map,List.length_range,List.length_cons,List.length_nil];omega),bs,bs,cs,List.range_succ]
  simp only [List.map_append,List.map_cons,List.map_nil,r1,enR,zSB h,cs]) (by
  unfold zRy
  simp only
  rw [yT,zF])
 rw [show ((0:Nat):Int) = 0 from rfl] at l1
 simp only [List.range_zero,List.map_nil] at l1
 rw [l1,bs]
 have l3:=zN (body:=zR0 x) (r:=(xJ x).map enR) (fun i => (((List.range x.zA.length).map (r1 x) ++ (List.range i).flatMap (R2 x)).map enR,(i:Int))) x.zA.length (fun i hi => by
  have t2:=(h.tl i hi).2.1
  have hfm:=zGr h i (by omega)
  unfold zR0
  simp only
  rw [yL hi,zH,yC [] (by omega),bs]
  have l2:=zN (body:=zRz (((List.range x.zA.length).map (r1 x) ++ (List.range i).flatMap (R2 x)).map enR,(i:Int)) (x.zC.getD i [])) (r:=((List.range x.zA.length).map (r1 x) ++ (List.range (i + 1)).flatMap (R2 x)).map enR)
   (fun j => (((List.range x.zA.length).map (r1 x) ++ (List.range i).flatMap (R2 x) ++ (List.range j).map (r2 x i)).map enR,(j:Int))) (x.zC.getD i []).length (fun j hj => by
    obtain ⟨p1,p2⟩:=uP h.os ((h.tl i hi).2.2 j hj)
    have hnl:=zGo 0 ((x.zC.getD i []).getD j []) (by rw [p1];exact fun i hi => (p2 i hi).2)
    unfold zRz
    simp only
    rw [yL hj,zH,yC [] hj,bs,zD (by omega) (by omega),bs,zD (by omega) (by omega),bs,zD (by omega) (by omega),bs,zBt (by omega) (by rw [p1];exact p2),bs,yD (by simp only [List.length_map,List.length_cons,List.length_nil];omega),bs,yD (by simp only [List.length_map,List.length_append,List.length_range,List.length_cons,List.length_nil];omega),bs,zD (by omega) (by omega),bs,cs,List.range_succ]
    have e1:(i:Int) + (j:Int) + 2 = ((i + j + 1:Nat):Int) + 1:=by omega
    simp only [List.map_append,List.map_cons,List.map_nil,r2,enR,enW,List.append_assoc,List.singleton_append,e1]
    rfl) (by
    unfold zRz
    simp only
    rw [yT,zF,List.range_succ,List.flatMap_append]
    simp only [List.flatMap_cons,List.flatMap_nil,List.append_nil,List.append_assoc,R2])
  rw [show ((0:Nat):Int) = 0 from rfl] at l2
  simp only [List.range_zero,List.map_nil,List.append_nil] at l2
  rw [l2,bs,zD (by omega) (by omega),bs,cs]) (by
  unfold zR0
  simp only
  rw [yT,zF]
  rfl)
 rw [show ((0:Nat):Int) = 0 from rfl] at l3
 simp only [List.range_zero,List.flatMap_nil,List.append_nil] at l3
 rw [l3,bs]
theorem zH8 {q:Rl} (hq:q ∈ xJ x):((∀ w ∈ q.1,w < x.zA.length) ∧ q.1.length ≤ 1000) ∧ (∀ w ∈ q.2,w < x.zA.length) ∧ q.2.length ≤ 1000:=by
 have h6:=h.os.1
 simp only [xJ,List.mem_append,List.mem_map,List.mem_range,List.mem_flatMap,R2] at hq
 rcases hq with ⟨i,hi,rfl⟩ | ⟨i,hi,j,hj,rfl⟩
 ·obtain ⟨p1,p2⟩:=uP h.os (h.tl i hi).1
  have hnl:=zGo 0 (x.zT.getD i []) (by rw [p1];exact fun i hi => (p2 i hi).2)
  have hpr:=(h.os.2 i hi).pos
  refine ⟨⟨fun w hw => ?_,?_⟩,fun w hw => zPU 0 _ (by omega) w hw,by simp only [r1];omega⟩
  ·have:=List.eq_of_mem_replicate hw;omega
  ·simp only [r1,List.length_replicate];omega
 ·obtain ⟨p1,p2⟩:=uP h.os ((h.tl i hi).2.2 j hj)
  have t2:=(h.tl i hi).2.1
  have hnl:=zGo 0 ((x.zC.getD i []).getD j []) (by rw [p1];exact fun i hi => (p2 i hi).2)
  refine ⟨⟨fun w hw => ?_,by simp [r2]⟩,fun w hw => ?_,by simp only [r2,List.length_cons];omega⟩
  ·simp only [r2,List.mem_cons,List.not_mem_nil,or_false] at hw;omega
  ·simp only [r2,List.mem_cons] at hw
   rcases hw with rfl | hw
   ·exact hi
   ·exact zPU 0 _ (by omega) w hw
variable {m:zB} {D:Nat} (hm:MOk x.zA.length m D)
 include hm
theorem zJU:(∀ q ∈ xJ x,wM m.Prime D m.zI q.1 (idM D) = wM m.Prime D m.zI q.2 (idM D)) ↔ zGR x m D:=by
 have h7:=hm.p.pos
 have hI:=zAi (p:=m.Prime) (D:=D) h7.1
 have key:∀ i j,i < x.zA.length → j < x.zA.length → ∀ ws,(wM m.Prime D m.zI [j,i] (idM D) = wM m.Prime D m.zI (i :: ws) (idM D) ↔ PM m.Prime D (m.zI.getD j []) (m.zI.getD i []) = PM m.Prime D (m.zI.getD i []) (wM m.Prime D m.zI ws (idM D))):=fun i j hi hj ws => by
  have hi':=hm.mat i hi
  have hj':=hm.mat j hj
  have e1:wM m.Prime D m.zI [j,i] (idM D) = PM m.Prime D (m.zI.getD j []) (m.zI.getD i []):=by
   show PM _ _ (PM _ _ (idM D) _) _ = _
   rw [zI2 hj']
  have e2:wM m.Prime D m.zI (i :: ws) (idM D) = PM m.Prime D (m.zI.getD i []) (wM m.Prime D m.zI ws (idM D)):=by
   show wM _ _ _ ws (PM _ _ (idM D) _) = _
   rw [zI2 hi',← zPV (by omega) hi'.1 ws hI,zJO hi']
  rw [e1,e2]
 constructor
 ·intro g i hi
  have t2:=(h.tl i hi).2.1
  refine ⟨g (r1 x i) (by simp only [xJ,List.mem_append,List.mem_map,List.mem_range];exact .inl ⟨i,hi,rfl⟩),fun j h1 h2 => ?_⟩
  have:=g (r2 x i (j - (i + 1))) (by
   simp only [xJ,List.mem_append,List.mem_flatMap,List.mem_range,R2,List.mem_map]
   exact .inr ⟨i,hi,j - (i + 1),by omega,rfl⟩)
  simp only [r2] at this
  rw [show i + (j - (i + 1)) + 1 = j from by omega] at this
  exact (key i j hi h2 _).1 this
 ·intro g q hq
  simp only [xJ,List.mem_append,List.mem_map,List.mem_range,List.mem_flatMap,R2] at hq
  rcases hq with ⟨i,hi,rfl⟩ | ⟨i,hi,j,hj,rfl⟩
  ·exact (g i hi).1
  ·have t2:=(h.tl i hi).2.1
   have:=(g i hi).2 (i + j + 1) (by omega) (by omega)
   rw [show i + j + 1 - (i + 1) = j from by omega] at this
   exact (key i (i + j + 1) hi (by omega) _).2 this
theorem zNP:IsB ((zG (zR5 m ((xJ x).map enR)) 0).bind fun r => match r with | .inl _ => some true | .inr r => some r) (zGR x m D):=by
 have h6:=h.os.1
 have h7:=hm.p.pos
 have h3:=hm.d3
 have hI:=zAi (p:=m.Prime) (D:=D) h7.1
 have hfm:=zGr h x.zA.length (Nat.le_refl _)
 have hrl:(xJ x).length ≤ 1000:=by simp only [xJ,List.length_append,List.length_map,List.length_range];omega
 refine (tR (xJ x).length (fun k => wM m.Prime D m.zI ((xJ x).getD k ([],[])).1 (idM D) = wM m.Prime D m.zI ((xJ x).getD k ([],[])).2 (idM D)) rfl (fun k hk _ => ?_) ?_).iff ⟨fun g => (zJU h hm).1 fun q hq => ?_,fun g k hk => (zJU h hm).2 g _ ?_⟩
 ·have hmem:(xJ x).getD k ([],[]) ∈ xJ x:=by
   rw [List.getD_eq_getElem?_getD,List.getElem?_eq_getElem hk];exact List.getElem_mem hk
  obtain ⟨⟨g1,g2⟩,g3,g4⟩:=zH8 h hmem
  have hs:=(zEs (p:=m.Prime) (D:=D) (A:=m.zI) (by omega) ((xJ x).getD k ([],[])).1 hI).small (by omega)
  refine vQ (o:=some (wM m.Prime D m.zI ((xJ x).getD k ([],[])).1 (idM D) == wM m.Prime D m.zI ((xJ x).getD k ([],[])).2 (idM D))) (IsB.of_bool (by rw [beq_iff_eq])) (by omega) ?_
  unfold zR5
  rw [List.length_map,yL hk,zH,wW,List.getElem?_map,List.getElem?_eq_getElem hk]
  rw [List.getD_eq_getElem?_getD,List.getElem?_eq_getElem hk] at g1 g2 g3 g4 hs ⊢
  simp only [Option.map_some,Option.getD_some] at g1 g2 g3 g4 hs ⊢
  rw [bs,zC7 hm h6 g1 g2,bs,zC7 hm h6 g3 g4,bs]
  simp only
  rw [zGQ hs.1 hs.2]
 ·unfold zR5
  rw [List.length_map,yT,zF]
 ·obtain ⟨k,hk,rfl⟩:=List.mem_iff_getElem.1 hq
  have:=g k hk
  rw [List.getD_eq_getElem?_getD,List.getElem?_eq_getElem hk] at this
  exact this
 ·rw [List.getD_eq_getElem?_getD,List.getElem?_eq_getElem hk];exact List.getElem_mem hk
end
theorem zGT {x:SPr} {m:zB} (hl:x.zA.length ≤ 1048576) (_hal:m.zI.length ≤ 1048576):IsB (f_D x m) (zUk x m):=by
 unfold f_D
 rcases zD0 hl with ⟨h1,h2⟩ | ⟨h1,h2⟩
 ·have h6:=h2.1.os.1
  rw [h1,bs,Bool.not_true,zF]
  rcases zBb m.Prime with ⟨p1,p2⟩ | ⟨p1,p2⟩
  ·rw [p1,bs,Bool.not_true,zF]
   rcases jC m.Dim 1 3 with ⟨d1,d2⟩ | ⟨d1,d2⟩
   ·rw [d1,bs,Bool.not_true,zF]
    obtain ⟨D,hD⟩:∃ D:Nat,m.Dim = (D:Int):=⟨m.Dim.toNat,by omega⟩
    by_cases hlen:m.zI.length = x.zA.length
    ·rw [jU (by omega),zF]
     rcases chk (body:=zR4 m) m.zI.length 0 (Nat.zero_le _) (fun i => Mat m.Prime D (m.zI.getD i [])) (fun _ => false) (fun i _ hi _ => by
       unfold zR4
       rw [yL hi,zH,yC [] hi,bs,hD]
       by_cases hr:(m.zI.getD i []).length = D
       ·rw [jU (by omega),zF]
        refine vQ (zGP p2 (D:=D) (by omega) hr) (by omega) ?_
        unfold zKz
        rw [yC [] hi,bs,bs,hD]
       ·rw [sX (by omega),zH]
        exact .inr ⟨rfl,fun g => hr g.1⟩) (by
       unfold zR4
       rw [yT,zF]) with ⟨g1,g2⟩ | ⟨i,_,hi,g1,g2⟩
     ·rw [show ((0:Nat):Int) = 0 from rfl] at g1
      have hm:MOk x.zA.length m D:=⟨p2,hD,by omega,by omega,hlen,fun i hi => g2 i (Nat.zero_le _) (by omega)⟩
      rw [g1,bs,kS h2.1]
      simp only
      rw [bs]
      refine (zNP h2.1 hm).iff ⟨fun k2 => ⟨h2,D,hm,k2⟩,fun ⟨_,D',hm',hr⟩ => ?_⟩
      have:D' = D:=by have:=hm'.d;omega
      rw [← this];exact hr
     ·rw [show ((0:Nat):Int) = 0 from rfl] at g1
      rw [g1,bs]
      refine .inr ⟨rfl,fun ⟨_,D',hm',_⟩ => g2 ?_⟩
      have:D' = D:=by have:=hm'.d;omega
      rw [← this];exact hm'.mat i (by omega)
    ·rw [sX (by omega),zH]
     exact .inr ⟨rfl,fun ⟨_,D',hm',_⟩ => hlen hm'.len⟩
   ·rw [d1,bs,Bool.not_false,zH]
    exact .inr ⟨rfl,fun ⟨_,D',hm',_⟩ => d2 (by have:=hm'.d;have:=hm'.d1;have:=hm'.d3;omega)⟩
  ·rw [p1,bs,Bool.not_false,zH]
   exact .inr ⟨rfl,fun ⟨_,D',hm',_⟩ => p2 hm'.p⟩
 ·rw [h1,bs,Bool.not_false,zH]
  exact .inr ⟨rfl,fun g => h2 g.1⟩
end Go.Pl

namespace Go.Pl
open Go Go.Ab Go.Wk Go.Pc
theorem zEt {xs:List (List Int)} {i:Nat} (h:i < xs.length):(xs.take (i + 1)).flatten = (xs.take i).flatten ++ xs.getD i []:=by
 rw [List.take_succ_eq_append_getElem h,List.flatten_append,List.getD_eq_getElem?_getD,List.getElem?_eq_getElem h];simp
theorem zI5 {xs:List (List Int)} (i:Nat):(xs.take i).flatten.length ≤ xs.flatten.length:=by
 have:xs.flatten = (xs.take i).flatten ++ (xs.drop i).flatten:=by rw [← List.flatten_append,List.take_append_drop]
 rw [this,List.length_append];omega
theorem zNQ {k:Nat} (hk:k ≤ 1000000):zR6 (k:Int) = some []:=by
 unfold zR6
 rw [decide_eq_false (by omega),zF,zD (by decide) (by decide),bs,zD (by omega) (by omega),bs]
 by_cases h:(k:Int) - (0 - 0) > 0
 ·rw [decide_eq_true h,zH]
  have e:vP ([]:List Int) ((k:Int) - (0 - 0)) 0 = some (List.replicate k 0):=by
   unfold vP
   rw [if_pos (by simp;omega)]
   simp
  rw [e,bs]
  rfl
 ·rw [decide_eq_false h,zF]
theorem jE {xs:List (List Int)} (hx:xs.length ≤ 1000) (hf:xs.flatten.length ≤ 1000000):f_r xs = some xs.flatten:=by
 unfold f_r
 have l1:=zN (body:=zR7 xs) (r:=((xs.flatten.length:Nat):Int)) (fun i => ((((xs.take i).flatten.length:Nat):Int),(i:Int))) xs.length (fun i hi => by
  have h1:=zEt hi
  have h2:=zI5 (xs:=xs) (i + 1)
  have h3:=congrArg List.length h1
  rw [List.length_append] at h3
  unfold zR7
  simp only
  rw [yL hi,zH,yC [] hi,bs,zD (by omega) (by omega),bs,decide_eq_false (by omega),zF,zD (by omega) (by omega),bs,cs,h3]
  congr 3) (by
  unfold zR7
  simp only
  rw [yT,zF,List.take_length])
 rw [show ((0:Nat):Int) = 0 from rfl] at l1
 simp only [List.take_zero,List.flatten_nil,List.length_nil] at l1
 rw [show ((0:Nat):Int) = 0 from rfl] at l1
 rw [l1,bs,zNQ hf,bs]
 have l2:=zN (body:=zR8 xs) (r:=xs.flatten) (fun i => ((xs.take i).flatten,(i:Int))) xs.length (fun i hi => by
  have h1:=zEt hi
  have h2:=zI5 (xs:=xs) (i + 1)
  have h3:=congrArg List.length h1
  rw [List.length_append] at h3
  unfold zR8
  simp only
  rw [yL hi,zH,yC [] hi,bs,yD (by omega),bs,zD (by omega) (by omega),bs,cs,h1]) (by
  unfold zR8
  simp only
  rw [yT,zF,List.take_length])
 rw [show ((0:Nat):Int) = 0 from rfl] at l2
 simp only [List.take_zero,List.flatten_nil] at l2
 rw [l2,bs]
theorem zJV {r:List Int} {a b:Nat} (hr:r.length ≤ 1000) (ha:a ≤ 1000) (hb:b ≤ 1000):zR9 r (a:Int) (b:Int) = some (List.replicate a 0 ++ (r ++ List.replicate b 0)):=by
 unfold zR9
 rw [yN (by omega),bs,yN (by omega),bs,jE (by simp) (by simp;omega),bs]
 simp
end Go.Pl

namespace Go.Pl
open Go Go.Ab Go.Wk Go.Pc
section
variable {p:Int}
def vA (p:Int) (D:Nat) (r:List Int) (k:Int) (s:List Int):List Int:=mkv D fun j => (at0 r j + k * at0 s j) % p
theorem zAL {D:Nat} {r s:List Int} {k:Int}:(vA p D r k s).length = D:=zZ _ _
def zGU (p:Int) (D i:Nat) (r:List Int) (k:Int) (s:List Int):List Int:=mkv D fun j => if j < i then (at0 r j + k * at0 s j) % p else at0 r j
theorem zH9 {D:Nat} {r s:List Int} {k:Int} (hr:r.length = D):zGU p D 0 r k s = r:=by
 conv => rhs;rw [vG hr]
 exact zW fun j _ => by rw [if_neg (by omega)]
theorem zHA {D:Nat} {r s:List Int} {k:Int}:zGU p D D r k s = vA p D r k s:=zW fun j hj => by rw [if_pos hj]
theorem zJW {D i:Nat} {r s:List Int} {k a:Int} (ha:a = (at0 r i + k * at0 s i) % p):(zGU p D i r k s).set i a = zGU p D (i + 1) r k s:=by
 simp only [zGU]
 rw [qP]
 refine zW fun j _ => ?_
 by_cases h:j = i
 ·subst h;rw [if_pos rfl,if_pos (by omega),ha]
 ·rw [if_neg h]
  by_cases h2:j < i
  ·rw [if_pos h2,if_pos (by omega)]
  ·rw [if_neg h2,if_neg (by omega)]
theorem zNh {D i:Nat} {r s:List Int} {k:Int} (hi:i < D):at0 (zGU p D i r k s) i = at0 r i:=by
 rw [zGU,yF hi,if_neg (by omega)]
theorem zD1 {D i:Nat} {r s:List Int} {k:Int}:(zGU p D i r k s).length = D:=zZ _ _
end
section
variable {p:Int} (hp:Prime p)
 include hp
theorem zEK {a:Int} (_h0:-1000 ≤ a) (_h1:a ≤ 1000):zGX a p = some (a % p):=by
 have h7:=hp.pos
 have e1:=Int.tmod_lt_of_pos a (show 0 < p by omega)
 have e2:=Int.lt_tmod_of_pos a (show 0 < p by omega)
 have e3:(Int.tmod a p + p) % p = a % p:=by
  rw [Int.add_emod_right]
  have:=Int.tmod_add_mul_tdiv a p
  conv => rhs;rw [← this]
  rw [Int.add_mul_emod_self_left]
 unfold zGX uI
 rw [if_neg (by omega),bs,zD (by omega) (by omega),bs,if_neg (by omega),bs,Int.tmod_eq_emod_of_nonneg (by omega),e3]
theorem zJX {a:Int} (_h0:-1000 ≤ a) (_h1:a ≤ 1000):zRF a p = some (a % p):=by
 have h7:=hp.pos
 have e1:=Int.tmod_lt_of_pos a (show 0 < p by omega)
 have e2:=Int.lt_tmod_of_pos a (show 0 < p by omega)
 have e3:(Int.tmod a p + p) % p = a % p:=by
  rw [Int.add_emod_right]
  have:=Int.tmod_add_mul_tdiv a p
  conv => rhs;rw [← this]
  rw [Int.add_mul_emod_self_left]
 unfold zRF uI
 rw [if_neg (by omega),bs]
 by_cases h:Int.tmod a p < 0
 ·rw [decide_eq_true h,zH,zD (by omega) (by omega),bs,← e3,Int.emod_eq_of_lt (by omega) (by omega)]
 ·rw [decide_eq_false h,zF,← e3,Int.add_emod_right,Int.emod_eq_of_lt (by omega) (by omega)]
theorem jF {D:Nat} {r s:List Int} {k:Int}:Row p D (vA p D r k s):=by
 have h7:=hp.pos
 refine ⟨zZ _ _,fun i hi => ?_⟩
 have e:at0 (vA p D r k s) i = (at0 r i + k * at0 s i) % p:=yF hi
 have e1:=Int.emod_nonneg (at0 r i + k * at0 s i) (show p ≠ 0 by omega)
 have e2:=Int.emod_lt_of_pos (at0 r i + k * at0 s i) (show 0 < p by omega)
 rw [e];omega
theorem zBh {k b:Int} (hk:-7 ≤ k ∧ k ≤ 7) (hb:0 ≤ b ∧ b ≤ p - 1):-49 ≤ k * b ∧ k * b ≤ 49:=by
 have h7:=hp.pos
 rcases Int.le_total 0 k with h | h
 ·have h1:=Int.mul_nonneg h hb.1
  have h2:=Int.mul_le_mul hk.2 (show b ≤ 7 by omega) hb.1 (by omega)
  omega
 ·have h1:=Int.mul_nonneg (show 0 ≤ -k by omega) hb.1
  have h2:=Int.mul_le_mul (show -k ≤ 7 by omega) (show b ≤ 7 by omega) hb.1 (by omega)
  rw [Int.neg_mul] at h1 h2
  omega
theorem qI {D:Nat} {r s:List Int} {k:Int} (hr:Row p D r) (hs:Row p D s) (hk:-7 ≤ k ∧ k ≤ 7) (hD:D ≤ 1000000):f_u r s k p = some (vA p D r k s):=by
 have h7:=hp.pos
 have:=zN (body:=zK1 r s k p) (r:=vA p D r k s) (fun i => (zGU p D i r k s,(i:Int))) D (fun i hi => by
  have a1:=hr.2 i hi
  have a2:=hs.2 i hi
  have a3:=zBh hp hk a2
  unfold zK1
  simp only
  rw [hr.1,yL hi,zH,yE (by rw [zD1];exact hi),bs,yE (by rw [hs.1];exact hi),bs,zD (by omega) (by omega),bs,zNh hi,zD (by omega) (by omega),bs,zEK hp (by omega) (by omega),bs,bs,zD (by omega) (by omega),bs,cs,Int.toNat_natCast,zJW rfl]) (by
  unfold zK1
  simp only
  rw [hr.1,yT,zF,zHA])
 rw [show ((0:Nat):Int) = 0 from rfl,zH9 hr.1] at this
 unfold f_u
 rw [this,bs]
theorem wT {D:Nat} {r s:List Int} {k:Int} (hr:Row p D r) (hs:Row p D s) (hk:-7 ≤ k ∧ k ≤ 7) (hD:D ≤ 1000000):f_n p r k s = some (vA p D r k s):=by
 have h7:=hp.pos
 have:=zN (body:=zRG p k s) (r:=vA p D r k s) (fun i => (zGU p D i r k s,(i:Int))) D (fun i hi => by
  have a1:=hr.2 i hi
  have a2:=hs.2 i hi
  have a3:=zBh hp hk a2
  unfold zRG
  simp only
  rw [zD1,yL hi,zH,hs.1,yL hi,zH,yE (by rw [zD1];exact hi),bs,yE (by rw [hs.1];exact hi),bs,zD (by omega) (by omega),bs,zNh hi,zD (by omega) (by omega),bs,zJX hp (by omega) (by omega),bs,bs,zD (by omega) (by omega),bs,cs,Int.toNat_natCast,zJW rfl]) (by
  unfold zRG
  simp only
  rw [zD1,yT,zF,zHA])
 rw [show ((0:Nat):Int) = 0 from rfl,zH9 hr.1] at this
 unfold f_n
 rw [tG (by rw [hr.1];omega),bs,this,bs]
end
theorem qJ {p:Int} {D:Nat} {r s:List Int}:vA p D r (p - 1) s = vA p D r (-1) s:=zW fun j _ => by
 rw [show at0 r j + (p - 1) * at0 s j = at0 r j + -1 * at0 s j + p * at0 s j from by rw [Int.sub_mul];omega,Int.add_mul_emod_self_left]
theorem zNR {p:Int} {D:Nat} {r s:List Int} (hr:Row p D r) (hs:Row p D s):(∀ j,j < D → at0 (vA p D r (-1) s) j = 0) ↔ r = s:=by
 constructor
 ·intro h
  rw [vG hr.1,vG hs.1]
  refine zW fun j hj => ?_
  have h1:=h j hj
  rw [vA,yF hj] at h1
  have a1:=hr.2 j hj
  have a2:=hs.2 j hj
  obtain ⟨c,hc⟩:=Int.dvd_of_emod_eq_zero h1
  have:c = 0:=by
   rcases Int.lt_trichotomy c 0 with h | h | h
   ·have:=Int.mul_le_mul_of_nonneg_left (show c ≤ -1 by omega) (show 0 ≤ p by omega);omega
   ·exact h
   ·have:=Int.mul_le_mul_of_nonneg_left (show 1 ≤ c by omega) (show 0 ≤ p by omega);omega
  rw [this] at hc;omega
 ·rintro rfl j hj
  rw [vA,yF hj,show at0 r j + -1 * at0 r j = 0 from by omega];simp
end Go.Pl

namespace Go.Pl
open Go Go.Ab Go.Wk Go.Pc
def VOk (n:Nat) (p:Int) (D:Nat) (vals:Mx):Prop:=vals.length = n ∧ ∀ i,i < n → Row p D (vals.getD i [])
def stp (m:zB) (D:Nat) (vals:Mx) (v:List Int) (w:Nat):List Int:=vA m.Prime D (uM m.Prime D v (m.zI.getD w [])) 1 (vals.getD w [])
def ev (m:zB) (D:Nat) (vals:Mx) (v:List Int) (ws:List Nat):List Int:=ws.foldl (stp m D vals) v
theorem zHB {m:zB} {D:Nat} {vals:Mx} {v:List Int} {a b:List Nat}:ev m D vals v (a ++ b) = ev m D vals (ev m D vals v a) b:=by simp [ev,List.foldl_append]
theorem zI6 {m:zB} {D:Nat} {vals:Mx} {w:Nat}:∀ (k:Nat) (v:List Int),ev m D vals v (List.replicate k w) = iter k (fun v => stp m D vals v w) v
 | 0,_ => rfl
 | k + 1,v => by
  rw [List.replicate_succ]
  show ev m D vals (stp m D vals v w) (List.replicate k w) = _
  rw [zI6 k];rfl
abbrev z0 (D:Nat):List Int:=List.replicate D 0
theorem zEu {p:Int} {D:Nat} (hp:0 < p):Row p D (z0 D):=by
 refine ⟨by simp,fun i hi => ?_⟩
 have:at0 (z0 D) i = 0:=by simp [z0,at0,List.getD_eq_getElem?_getD,hi]
 rw [this];omega
theorem tU {p:Int} {D:Nat} {r:List Int} {B:Mx} (hp:0 < p):Row p D (uM p D r B):=by
 refine ⟨zZ _ _,fun i hi => ?_⟩
 have e1:=Int.emod_nonneg (S D (fun l => at0 r l * ent B l i)) (show p ≠ 0 by omega)
 have e2:=Int.emod_lt_of_pos (S D (fun l => at0 r l * ent B l i)) hp
 rw [uM,yF hi];omega
section
variable {n D:Nat} {m:zB} (hm:MOk n m D) (hn:n ≤ 9) {vals:Mx} (hv:VOk n m.Prime D vals)
 include hm hn hv
theorem sC {v:List Int} {w:Nat}:Row m.Prime D (stp m D vals v w):=by
 have _:=hn
 have _:=hv
 exact jF hm.p
theorem zAw {v:List Int} (h:Row m.Prime D v):∀ ws,Row m.Prime D (ev m D vals v ws):=by
 intro ws
 induction ws generalizing v with
 | nil => exact h
 | cons w ws ih => exact ih (sC hm hn hv)
theorem tM {v:List Int} {w:Nat} (h:Row m.Prime D v) (hw:w < n):zEU m vals v (w:Int) = some (stp m D vals v w):=by
 have _:=hn
 have h7:=hm.p.pos
 have h3:=hm.d3
 unfold zEU
 rw [yC [] (by rw [hm.len];exact hw),bs,hm.d,zBg hm.p (by omega) h (hm.mat w hw),bs,yC [] (by rw [hv.1];exact hw),bs,wT hm.p (tU (by omega)) (hv.2 w hw) (by omega) (by omega),bs]
 rfl
theorem zAj {v x:List Int} (h:Row m.Prime D v) (hl:x.length = n) (hx:∀ i,i < n → 0 ≤ at0 x i ∧ at0 x i ≤ 6):f_E m vals v x = some (ev m D vals v (nw 0 x)):=by
 have:=zN (body:=zRJ m vals x) (r:=ev m D vals v (nw 0 x)) (fun i => (ev m D vals v (nw 0 (x.take i)),(i:Int))) n (fun i hi => by
  have hxi:=hx i hi
  unfold zRJ
  simp only
  rw [hl,yL hi,zH]
  rw [wO (S:=Row m.Prime D) (body:=zRI m vals x (ev m D vals v (nw 0 (x.take i)),(i:Int))) (fun v => v) (fun v => stp m D vals v i) (at0 x i) hxi.1 (fun v _ => sC hm hn hv) (fun u q hu hq => by
   unfold zRI
   simp only
   rw [yE (by omega),bs,decide_eq_true hq,zH,tM hm hn hv hu hi,bs,zD (by omega) (by omega),bs,cs]) (fun u hu => by
   unfold zRI
   simp only
   rw [yE (by omega),bs,decide_eq_false (by omega),zF]) (zAw hm hn hv h _),bs,zD (by omega) (by omega),bs,cs]
  rw [zI4 (by omega),zHB,zI6]) (by
  unfold zRJ
  simp only
  rw [hl,yT,zF,List.take_of_length_le (by omega)])
 rw [show ((0:Nat):Int) = 0 from rfl,List.take_zero] at this
 simp only [nw,ev,List.foldl_nil] at this
 unfold f_E
 rw [this,bs];rfl
theorem zD2 {ws:List Nat} (hw:∀ w ∈ ws,w < n) (hl:ws.length ≤ 1000):zRO m vals (enW ws) = some (ev m D vals (z0 D) ws):=by
 have h7:=hm.p.pos
 have h3:=hm.d3
 unfold zRO
 rw [hm.d,yN (by omega),bs]
 have hz:=zEu (p:=m.Prime) (D:=D) (by omega)
 have hel:(enW ws).length = ws.length:=by simp only [enW,List.length_map]
 have:=zN (body:=zKB m vals (enW ws)) (r:=ev m D vals (z0 D) ws) (fun i => (ev m D vals (z0 D) (ws.take i),(i:Int))) ws.length (fun i hi => by
  have hwi:=hw ws[i] (List.getElem_mem hi)
  have hr:=zAw hm hn hv hz (ws.take i)
  unfold zKB
  simp only
  rw [hel,yL hi,zH,wW,List.getElem?_map,List.getElem?_eq_getElem hi]
  simp only [Option.map_some]
  rw [bs,zD (by omega) (by omega),bs,show ((ws[i]:Nat):Int) + 1 - 1 = ((ws[i]:Nat):Int) from by omega,zAv hm hn hwi,bs,qH hm.p (by omega) hr (hm.mat _ hwi) rfl,bs,bs,yC [] (by rw [hv.1];exact hwi),bs,qI hm.p (tU (by omega)) (hv.2 _ hwi) (by omega) (by omega),bs,zD (by omega) (by omega),bs,cs,List.take_succ_eq_append_getElem hi,zHB]
  rfl) (by
  unfold zKB
  simp only
  rw [hel,yT,zF,List.take_of_length_le (by omega)])
 rw [show ((0:Nat):Int) = 0 from rfl,List.take_zero] at this
 simp only [ev,List.foldl_nil] at this
 rw [this,bs];rfl
end
theorem zPY {v:List Int} (hl:v.length ≤ 1000000):IsB (f_F v) (∀ i,i < v.length → at0 v i = 0):=by
 refine tR v.length (fun i => at0 v i = 0) rfl (fun i hi _ => ?_) ?_
 ·unfold zKw
  rw [yL hi,zH,yE hi,bs]
  by_cases h:at0 v i = 0
  ·rw [show (at0 v i != 0) = false from by simp only [h];rfl,zF,zD (by omega) (by omega),bs,cs];exact .inl ⟨rfl,h⟩
  ·rw [show (at0 v i != 0) = true from by simpa using h,zH];exact .inr ⟨rfl,h⟩
 ·unfold zKw
  rw [yT,zF]
theorem zCk {v:List Int} (hl:v.length ≤ 1000000):IsB (zRN v) (∀ i,i < v.length → at0 v i = 0):=zPY hl
section
variable {x:SPr} (h:Pres x) {m:zB} {D:Nat} (hm:MOk x.zA.length m D) {vals:Mx} (hv:VOk x.zA.length m.Prime D vals)
 include h hm hv
abbrev dfc (m:zB) (D:Nat) (vals:Mx) (q:Rl):List Int:=vA m.Prime D (ev m D vals (z0 D) q.1) (-1) (ev m D vals (z0 D) q.2)
theorem zFe:(xJ x).length ≤ 100:=by
 have _:=hv
 have _:=hm
 have h6:=h.os.1
 have hfm:=zGr h x.zA.length (Nat.le_refl _)
 simp only [xJ,List.length_append,List.length_map,List.length_range];omega
theorem zI7:zTs x m vals = some ((xJ x).map (dfc m D vals)):=by
 have h6:=h.os.1
 have h7:=hm.p.pos
 have h3:=hm.d3
 have hrl:=zFe h hm hv
 have hz:=zEu (p:=m.Prime) (D:=D) (by omega)
 unfold zTs
 rw [kS h,bs]
 have:=zN (body:=zKC m vals ((xJ x).map enR)) (r:=(xJ x).map (dfc m D vals)) (fun i => (((xJ x).map (dfc m D vals)).take i,(i:Int))) (xJ x).length (fun i hi => by
  have hmem:(xJ x)[i] ∈ xJ x:=List.getElem_mem hi
  obtain ⟨⟨g1,g2⟩,g3,g4⟩:=zH8 h hmem
  unfold zKC
  simp only
  rw [List.length_map,yL hi,zH,wW,List.getElem?_map,List.getElem?_eq_getElem hi]
  simp only [Option.map_some]
  rw [bs,zD2 hm h6 hv g1 g2,bs,zD2 hm h6 hv g3 g4,bs,qI hm.p (zAw hm h6 hv hz _) (zAw hm h6 hv hz _) (by omega) (by omega),bs,yD (by simp;omega),bs,zD (by omega) (by omega),bs,cs,List.take_succ_eq_append_getElem (by simpa using hi)]
  simp only [List.getElem_map]) (by
  unfold zKC
  simp only
  rw [List.length_map,yT,zF,List.take_of_length_le (by simp)])
 rw [show ((0:Nat):Int) = 0 from rfl,List.take_zero] at this
 rw [this,bs]
end
end Go.Pl

namespace Go.Pl
open Go Go.Ab Go.Wk Go.Pc
def BL (x:SPr) (i:Nat):List Rl:=(List.range i).flatMap fun i => r1 x i :: R2 x i
theorem zI8 {x:SPr} {i:Nat}:BL x (i + 1) = BL x i ++ (r1 x i :: R2 x i):=by
 simp only [BL,List.range_succ,List.flatMap_append,List.flatMap_cons,List.flatMap_nil,List.append_nil]
theorem zVd {x:SPr} {q:Rl}:q ∈ BL x x.zA.length ↔ q ∈ xJ x:=by
 simp only [BL,xJ,List.mem_flatMap,List.mem_range,List.mem_cons,List.mem_append,List.mem_map]
 constructor
 ·rintro ⟨i,hi,rfl | h⟩
  ·exact .inl ⟨i,hi,rfl⟩
  ·exact .inr ⟨i,hi,h⟩
 ·rintro (⟨i,hi,rfl⟩ | ⟨i,hi,h⟩)
  ·exact ⟨i,hi,.inl rfl⟩
  ·exact ⟨i,hi,.inr h⟩
section
variable {x:SPr} (h:Pres x) {m:zB} {D:Nat} (hm:MOk x.zA.length m D) {vals:Mx} (hv:VOk x.zA.length m.Prime D vals)
 include h hm hv
abbrev fl (m:zB) (D:Nat) (vals:Mx) (xs:List Rl):List Int:=(xs.map (dfc m D vals)).flatten
theorem zPZ (xs:List Rl):(fl m D vals xs).length ≤ xs.length * 3:=by
 have _:=h
 have _:=hv
 have h3:=hm.d3
 induction xs with
 | nil => simp [fl]
 | cons q xs ih =>
  simp only [fl,List.map_cons,List.flatten_cons,List.length_append,List.length_cons] at ih ⊢
  have:(dfc m D vals q).length = D:=zAL
  omega
theorem zNi {xs:List Rl} {q:Rl}:fl m D vals xs ++ dfc m D vals q = fl m D vals (xs ++ [q]):=by
 have _:=h
 have _:=hm
 have _:=hv
 simp only [fl,List.map_append,List.map_cons,List.map_nil,List.flatten_append,List.flatten_cons,List.flatten_nil,List.append_nil]
theorem zQa:∀ i,i ≤ x.zA.length → (BL x i).length ≤ 10 * i
 | 0,_ => by
  have _:=h;have _:=hm;have _:=hv
  simp [BL]
 | i + 1,hi => by
  have:=zQa i (by omega)
  have:=zPX h (i:=i) (by omega)
  rw [zI8,List.length_append,List.length_cons];omega
theorem zNS:f_x x m vals = some (fl m D vals (BL x x.zA.length)):=by
 have h6:=h.os.1
 have h7:=hm.p.pos
 have h3:=hm.d3
 have hpl:=h.pl
 have hcl:=h.cl
 have hz:=zEu (p:=m.Prime) (D:=D) (by omega)
 unfold f_x
 rw [hm.d,yN (by omega),bs]
 have l3:=zN (body:=zRM x m vals D) (r:=fl m D vals (BL x x.zA.length)) (fun i => (fl m D vals (BL x i),(i:Int))) x.zA.length (fun i hi => by
  obtain ⟨p1,p2⟩:=uP h.os (h.tl i hi).1
  have t2:=(h.tl i hi).2.1
  have ho:=(h.os.2 i hi).pos
  have hbl:=zQa h hm hv i (by omega)
  have hfl:=zPZ h hm hv (BL x i)
  unfold zRM
  simp only
  rw [yL hi,zH]
  rw [wO (S:=Row m.Prime D) (body:=zRK x m vals (fl m D vals (BL x i),(i:Int))) (fun v => v) (fun v => stp m D vals v i) (at0 x.zA i) (by omega) (fun v _ => sC hm h6 hv) (fun u q hu hq => by
   unfold zRK
   simp only
   rw [yE hi,bs,decide_eq_true hq,zH,tM hm h6 hv hu hi,bs,zD (by omega) (by omega),bs,cs]) (fun u hu => by
   unfold zRK
   simp only
   rw [yE hi,bs,decide_eq_false (by omega),zF]) hz,bs,zD (by omega) (by omega),bs,yC [] (by omega),bs,zAj hm h6 hv hz p1 p2,bs,← zI6]
  have e1:f_n m.Prime (ev m D vals (z0 D) (List.replicate (at0 x.zA i).toNat i)) (m.Prime - 1) (ev m D vals (z0 D) (nw 0 (x.zT.getD i []))) = some (dfc m D vals (r1 x i)):=by
   rw [wT hm.p (zAw hm h6 hv hz _) (zAw hm h6 hv hz _) (by omega) (by omega),qJ];rfl
  have hd1:(dfc m D vals (r1 x i)).length = D:=zAL
  rw [e1,bs,yD (by omega),bs,zNi h hm hv,zD (by omega) (by omega),bs]
  have l2:=zN (body:=zRL x m vals D (fl m D vals (BL x i),(i:Int))) (r:=fl m D vals (BL x (i + 1))) (fun j => (fl m D vals (BL x i ++ (r1 x i :: (List.range j).map (r2 x i))),((i + 1 + j:Nat):Int))) (x.zC.getD i []).length (fun j hj => by
   obtain ⟨c1,c2⟩:=uP h.os ((h.tl i hi).2.2 j hj)
   have hfl2:=zPZ h hm hv (BL x i ++ (r1 x i :: (List.range j).map (r2 x i)))
   simp only [List.length_append,List.length_cons,List.length_map,List.length_range] at hfl2
   have hjn:i + 1 + j < x.zA.length:=by omega
   have s1:=tM hm h6 hv hz hjn
   have s2:=tM hm h6 hv (sC hm h6 hv (v:=z0 D) (w:=i + 1 + j)) hi
   have s3:=tM hm h6 hv hz hi
   have s4:=zAj hm h6 hv (sC hm h6 hv (v:=z0 D) (w:=i)) c1 c2
   unfold zRL
   simp only
   rw [yL hjn,zH,s1,bs,s2,bs,s3,bs,yC [] (by omega),bs,zD (by omega) (by omega),bs,zD (by omega) (by omega),bs,show (((i + 1 + j:Nat):Int) - (i:Int) - 1) = (j:Int) from by omega,yC [] hj,bs,s4,bs,zD (by omega) (by omega),bs]
   have e2:f_n m.Prime (stp m D vals (stp m D vals (z0 D) (i + 1 + j)) i) (m.Prime - 1) (ev m D vals (stp m D vals (z0 D) i) (nw 0 ((x.zC.getD i []).getD j []))) = some (dfc m D vals (r2 x i j)):=by
    rw [wT hm.p (sC hm h6 hv) (zAw hm h6 hv (sC hm h6 hv) _) (by omega) (by omega),qJ]
    simp only [dfc,r2,ev,List.foldl_cons,List.foldl_nil]
    rw [show i + j + 1 = i + 1 + j from by omega]
   have hd2:(dfc m D vals (r2 x i j)).length = D:=zAL
   rw [e2,bs,yD (by omega),bs,zNi h hm hv,zD (by omega) (by omega),bs,cs,List.range_succ]
   simp only [List.map_append,List.map_cons,List.map_nil,List.append_assoc,List.cons_append]
   rfl) (by
   unfold zRL
   simp only
   rw [show i + 1 + (x.zC.getD i []).length = x.zA.length from by omega,yT,zF,zI8]
   rfl)
  simp only [List.range_zero,List.map_nil] at l2
  rw [show ((i:Int) + 1) = ((i + 1 + 0:Nat):Int) from by omega,l2,bs,show ((i + 1 + 0:Nat):Int) = ((i + 1:Nat):Int) from rfl,bs]) (by
  unfold zRM
  simp only
  rw [yT,zF])
 rw [show ((0:Nat):Int) = 0 from rfl,show BL x 0 = [] from rfl] at l3
 simp only [fl,List.map_nil,List.flatten_nil] at l3
 rw [l3,bs]
end
theorem zNT {m:zB} {D:Nat} {vals:Mx} (hp:Prime m.Prime) (hd:m.Dim = (D:Int)) (hD:D ≤ 8) (hl:vals.length ≤ 1048576):IsB (zVB m vals) (∀ i,i < vals.length → Row m.Prime D (vals.getD i [])):=by
 refine tR vals.length (fun i => Row m.Prime D (vals.getD i [])) rfl (fun i hi _ => ?_) ?_
 ·refine vQ (zEI hp hD (r:=vals.getD i [])) (by omega) ?_
  unfold zN0
  rw [yL hi,zH,yC [] hi,bs,hd]
 ·unfold zN0
  rw [yT,zF]
theorem zJY {a b:Int} (h:a = b):(a == b) = true:=by simp [h]
theorem zJZ {a b:Int} (h:a ≠ b):(a == b) = false:=by simp [h]
end Go.Pl

namespace Go.Pl
open Go Go.Ab Go.Wk Go.Pc
theorem IsB.both {o o':Option Bool} {P:Prop} (h:IsB o P) (h':IsB o' P):(o = some true ∧ o' = some true ∧ P) ∨ (o = some false ∧ o' = some false ∧ ¬ P):=by
 rcases h with ⟨h1,h2⟩ | ⟨h1,h2⟩ <;> rcases h' with ⟨h3,h4⟩ | ⟨h3,h4⟩
 ·exact .inl ⟨h1,h3,h2⟩
 ·exact absurd h2 h4
 ·exact absurd h4 h2
 ·exact .inr ⟨h1,h3,h2⟩
end Go.Pl

namespace Go.Pl
open Go Go.Ab Go.Wk Go.Pc
def Sp (p:Int) (n:Nat) (R:Mx) (v:List Int):Prop:=∃ c:Nat → Int,∀ j,j < n → (S R.length fun i => c i * ent R i j) % p = at0 v j % p
section
variable {p:Int} {n:Nat} {R R':Mx} {u v w:List Int}
theorem tI {i:Nat} (hi:i < R.length):Sp p n R (R.getD i []):=by
 refine ⟨fun l => if l = i then 1 else 0,fun j _ => ?_⟩
 rw [zAK (k:=i) hi (fun l _ hl => by simp [hl])]
 simp
theorem sQ {k:Int} (hv:Sp p n R v) (hw:Sp p n R w) (h:∀ j,j < n → at0 u j % p = (at0 v j + k * at0 w j) % p):Sp p n R u:=by
 obtain ⟨c,hc⟩:=hv
 obtain ⟨d,hd⟩:=hw
 refine ⟨fun i => c i + k * d i,fun j hj => ?_⟩
 have e:(S R.length fun i => (c i + k * d i) * ent R i j) = (S R.length fun i => c i * ent R i j) + k * (S R.length fun i => d i * ent R i j):=by
  rw [← zCS,← zJM]
  exact xX fun i _ => by rw [Int.add_mul,Int.mul_assoc]
 rw [e,h j hj,Int.add_emod,hc j hj,Int.mul_emod,hd j hj,← Int.mul_emod,← Int.add_emod]
theorem zAk (h:∀ j,j < n → at0 u j % p = 0):Sp p n R u:=by
 refine ⟨fun _ => 0,fun j hj => ?_⟩
 rw [h j hj,xX (g:=fun _ => 0) (fun i _ => by simp),qG];simp
theorem jG (h:∀ i,i < R.length → Sp p n R' (R.getD i [])) (hv:Sp p n R v):Sp p n R' v:=by
 obtain ⟨c,hc⟩:=hv
 have key:∀ m,m ≤ R.length → ∃ d:Nat → Int,∀ j,j < n → (S R'.length fun i => d i * ent R' i j) % p = (S m fun i => c i * ent R i j) % p:=by
  intro m
  induction m with
  | zero => intro _;exact ⟨fun _ => 0,fun j _ => by rw [xX (g:=fun _ => 0) (fun i _ => by simp),qG];rfl⟩
  | succ m ih =>
   intro hm
   obtain ⟨d,hd⟩:=ih (by omega)
   obtain ⟨e,he⟩:=h m (by omega)
   refine ⟨fun i => d i + c m * e i,fun j hj => ?_⟩
   have e1:(S R'.length fun i => (d i + c m * e i) * ent R' i j) = (S R'.length fun i => d i * ent R' i j) + c m * (S R'.length fun i => e i * ent R' i j):=by
    rw [← zCS,← zJM]
    exact xX fun i _ => by rw [Int.add_mul,Int.mul_assoc]
   rw [e1,Int.add_emod,hd j hj,Int.mul_emod,he j hj,← Int.mul_emod,← Int.add_emod]
   rfl
 obtain ⟨d,hd⟩:=key R.length (Nat.le_refl _)
 exact ⟨d,fun j hj => by rw [hd j hj,hc j hj]⟩
end
def sE (p:Int) (n:Nat) (R R':Mx):Prop:=(∀ i,i < R.length → Sp p n R' (R.getD i [])) ∧ ∀ i,i < R'.length → Sp p n R (R'.getD i [])
theorem sE.refl {p:Int} {n:Nat} {R:Mx}:sE p n R R:=⟨fun _ h => tI h,fun _ h => tI h⟩
theorem sE.symm {p:Int} {n:Nat} {R R':Mx} (h:sE p n R R'):sE p n R' R:=⟨h.2,h.1⟩
theorem sE.trans {p:Int} {n:Nat} {R R' R2:Mx} (h:sE p n R R') (h':sE p n R' R2):sE p n R R2:=⟨fun i hi => jG h'.1 (h.1 i hi),fun i hi => jG h.2 (h'.2 i hi)⟩
theorem sE.iff {p:Int} {n:Nat} {R R':Mx} {v:List Int} (h:sE p n R R'):Sp p n R v ↔ Sp p n R' v:=⟨fun g => jG h.1 g,fun g => jG h.2 g⟩
structure Red (p:Int) (n:Nat) (R:Mx) (pv:Nat → Nat):Prop where
 row:∀ i,i < R.length → Row p n (R.getD i [])
 lt:∀ i,i < R.length → pv i < n
 one:∀ i,i < R.length → ent R i (pv i) = 1
 low:∀ i,i < R.length → ∀ j,j < pv i → ent R i j = 0
 off:∀ i k,i < R.length → k < R.length → k ≠ i → ent R k (pv i) = 0
 mono:∀ i j,i < j → j < R.length → pv i < pv j
section
variable {p:Int} (hp:1 < p) {n:Nat} {R R':Mx} {pv pv':Nat → Nat} {v:List Int}
theorem Red.coef (h:Red p n R pv) {c:Nat → Int} (hc:∀ j,j < n → (S R.length fun i => c i * ent R i j) % p = at0 v j % p) {k:Nat} (hk:k < R.length):c k % p = at0 v (pv k) % p:=by
 rw [← hc (pv k) (h.lt k hk),zAK (k:=k) hk (fun i hi hne => by rw [h.off k i hk hi hne];simp),h.one k hk];simp
theorem Red.expand (h:Red p n R pv) (hv:Sp p n R v):∀ j,j < n → at0 v j % p = (S R.length fun i => at0 v (pv i) * ent R i j) % p:=by
 obtain ⟨c,hc⟩:=hv
 intro j hj
 rw [← hc j hj]
 exact zBR fun i hi => by rw [Int.mul_emod,h.coef hc hi,← Int.mul_emod]
theorem Red.lead (h:Red p n R pv) (hv:Sp p n R v) (hne:∃ j,j < n ∧ at0 v j % p ≠ 0):∃ i,i < R.length ∧ (∀ j,j < pv i → at0 v j % p = 0) ∧ at0 v (pv i) % p ≠ 0:=by
 have hx:=h.expand hv
 have h1:∃ i,i < R.length ∧ at0 v (pv i) % p ≠ 0:=by
  refine Classical.byContradiction fun hn => ?_
  obtain ⟨j,hj,hj2⟩:=hne
  refine hj2 ?_
  rw [hx j hj,zBR (g:=fun _ => 0) (fun i hi => by
   have:at0 v (pv i) % p = 0:=Classical.byContradiction fun h0 => hn ⟨i,hi,h0⟩
   rw [Int.mul_emod,this];simp),qG];rfl
 obtain ⟨i,⟨hi,hi2⟩,hmin⟩:=zA6 h1
 refine ⟨i,hi,fun j hj => ?_,hi2⟩
 have hjn:j < n:=Nat.lt_trans hj (h.lt i hi)
 rw [hx j hjn,zBR (g:=fun _ => 0) (fun k hk => by
  rcases Nat.lt_or_ge k i with hki | hki
  ·have:at0 v (pv k) % p = 0:=Classical.byContradiction fun h0 => hmin k hki ⟨hk,h0⟩
   rw [Int.mul_emod,this];simp
  ·have h2:pv i ≤ pv k:=by
    rcases Nat.lt_or_ge i k with h3 | h3
    ·exact Nat.le_of_lt (h.mono i k h3 hk)
    ·rw [show i = k from by omega];exact Nat.le_refl _
   rw [h.low k hk j (by omega)];simp),qG];rfl
 include hp
theorem Red.row_lead (h:Red p n R pv) {i:Nat} (hi:i < R.length):(∃ j,j < n ∧ at0 (R.getD i []) j % p ≠ 0) ∧ (∀ j,j < pv i → at0 (R.getD i []) j % p = 0) ∧ at0 (R.getD i []) (pv i) % p ≠ 0:=by
 have h1:at0 (R.getD i []) (pv i) % p ≠ 0:=by
  have:=h.one i hi
  simp only [ent] at this
  rw [this,Int.emod_eq_of_lt (by omega) hp];omega
 refine ⟨⟨pv i,h.lt i hi,h1⟩,fun j hj => ?_,h1⟩
 have:=h.low i hi j hj
 simp only [ent] at this
 rw [this];rfl
theorem Red.piv_in (h:Red p n R pv) (h':Red p n R' pv') (hs:∀ i,i < R.length → Sp p n R' (R.getD i [])) {i:Nat} (hi:i < R.length):∃ k,k < R'.length ∧ pv' k = pv i:=by
 obtain ⟨g1,g2,g3⟩:=h.row_lead hp hi
 obtain ⟨k,hk,g4,g5⟩:=h'.lead (hs i hi) g1
 refine ⟨k,hk,?_⟩
 rcases Nat.lt_trichotomy (pv' k) (pv i) with h1 | h1 | h1
 ·exact absurd (g2 _ h1) g5
 ·exact h1
 ·exact absurd (g4 _ h1) g3
theorem Red.piv_eq (h:Red p n R pv) (h':Red p n R' pv') (hs:sE p n R R'):∀ i,(i < R.length ↔ i < R'.length) ∧ (i < R.length → pv i = pv' i):=by
 intro i
 induction i using Nat.strongRecOn with
 | _ i ih =>
  have a:i < R.length → i < R'.length ∧ pv' i ≤ pv i:=fun hi => by
   obtain ⟨k,hk,e⟩:=h.piv_in hp h' hs.1 hi
   have hki:i ≤ k:=by
    refine Classical.byContradiction fun hn => ?_
    have h1:=(ih k (by omega)).2 (by omega)
    have h2:=h.mono k i (by omega) hi
    omega
   refine ⟨by omega,?_⟩
   rcases Nat.lt_or_ge i k with h3 | h3
   ·have:=h'.mono i k h3 hk;omega
   ·have hik:i = k:=by omega
    subst hik;omega
  have b:i < R'.length → i < R.length ∧ pv i ≤ pv' i:=fun hi => by
   obtain ⟨k,hk,e⟩:=h'.piv_in hp h hs.2 hi
   have hki:i ≤ k:=by
    refine Classical.byContradiction fun hn => ?_
    have h1:=(ih k (by omega)).2 hk
    have h2:=h'.mono k i (by omega) hi
    omega
   refine ⟨by omega,?_⟩
   rcases Nat.lt_or_ge i k with h3 | h3
   ·have:=h.mono i k h3 hk;omega
   ·have hik:i = k:=by omega
    subst hik;omega
  exact ⟨⟨fun hi => (a hi).1,fun hi => (b hi).1⟩,fun hi => by have:=(a hi).2;have:=(b (a hi).1).2;omega⟩
theorem Red.unique (h:Red p n R pv) (h':Red p n R' pv') (hs:sE p n R R'):R = R':=by
 have hpe:=h.piv_eq hp h' hs
 have hl:R.length = R'.length:=by
  rcases Nat.lt_trichotomy R.length R'.length with g | g | g
  ·have:=(hpe R.length).1.2 g;omega
  ·exact g
  ·have:=(hpe R'.length).1.1 g;omega
 refine zGm (D:=R.length) rfl hl.symm fun i hi => ?_
 have hi':i < R'.length:=by omega
 have r1:=h.row i hi
 have r2:=h'.row i hi'
 rw [vG r1.1,vG r2.1]
 refine zW fun j hj => ?_
 have hx:=h'.expand (hs.1 i hi) j hj
 rw [xX (g:=fun k => (if k = i then 1 else 0) * ent R' k j) (fun k hk => by
  congr 1
  have e:=(hpe k).2 (by omega)
  by_cases hki:k = i
  ·subst hki;rw [if_pos rfl,← e];exact h.one k hi
  ·rw [if_neg hki,← e];exact h.off k i (by omega) hi (Ne.symm hki)),zAK (k:=i) hi' (fun k _ hk => by simp [hk])] at hx
 simp only [if_true,Int.one_mul,ent] at hx
 have a1:=r1.2 j hj
 have a2:=r2.2 j hj
 rw [Int.emod_eq_of_lt a1.1 (by omega),Int.emod_eq_of_lt a2.1 (by omega)] at hx
 exact hx
end
end Go.Pl

namespace Go.Pl
open Go Go.Ab Go.Wk Go.Pc
def mkR (m:Nat) (F:Nat → List Int):Mx:=(List.range m).map F
theorem uY {m:Nat} {F:Nat → List Int}:(mkR m F).length = m:=by simp [mkR]
theorem qR {m:Nat} {F:Nat → List Int} {i:Nat} (h:i < m):(mkR m F).getD i [] = F i:=by simp [mkR,List.getD_eq_getElem?_getD,h]
theorem zI9 {m:Nat} {F:Nat → List Int} {i:Nat} (h:i < m):ixO (mkR m F) (i:Int) = some (F i):=by rw [yC [] (by rw [uY];exact h),qR h]
theorem tN {m:Nat} {F G:Nat → List Int} (h:∀ i,i < m → F i = G i):mkR m F = mkR m G:=by
 simp only [mkR]
 exact List.map_congr_left fun i hi => h i (List.mem_range.1 hi)
theorem zVe {R:Mx} {m:Nat} (h:R.length = m):R = mkR m (fun i => R.getD i []):=zGm (D:=m) h uY fun i hi => by rw [qR hi]
theorem zFf {m:Nat} {F:Nat → List Int} {i:Nat} {a:List Int}:(mkR m F).set i a = mkR m (fun k => if k = i then a else F k):=by
 apply List.ext_getElem?
 intro k
 by_cases hk:k < m
 ·by_cases h:i = k
  ·subst h;simp [mkR,hk]
  ·rw [List.getElem?_set_ne h];simp [mkR,hk,Ne.symm h]
 ·rw [List.getElem?_eq_none (by simp [mkR];omega),List.getElem?_eq_none (by simp [mkR];omega)]
theorem zD3 {m:Nat} {F:Nat → List Int} {i j:Nat} (h:i < m):ent (mkR m F) i j = at0 (F i) j:=by simp only [ent,qR h]
theorem zQb {s:Nat → Int × Int × Int × Int} (n:Nat) {r:Int × Int} (h:∀ i,i < n → zOq (s i) = some (.inl (s (i + 1)))) (he:zOq (s n) = some (.inr r)) {p q:Int} (hq:zGX r.2 p = some q) (h1:r.1 = 1) (hs:s 0 = (p,(s 0).2.1,0,1)) :
  f_N (s 0).2.1 p = some (q,true):=by
 unfold f_N
 rw [← hs,zN s n h he,bs,hq,bs,h1];rfl
def zQc:List (Int × Int × Int × Int) → Nat → Int × Int × Int × Int:=fun l i => l.getD i (0,0,0,0)
theorem vV (l:List (Int × Int × Int × Int)) (n:Nat) {r:Int × Int} (h:∀ i,i < n → zOq (zQc l i) = some (.inl (zQc l (i + 1)))) (he:zOq (zQc l n) = some (.inr r)) {p q x:Int} (hq:zGX r.2 p = some q) (h1:r.1 = 1) (hs:zQc l 0 = (p,x,0,1)) :
  f_N x p = some (q,true):=by
 have:=zQb (s:=zQc l) n h he hq h1 (by rw [hs])
 rw [hs] at this;exact this
theorem lt1 {P:Nat → Prop} (h0:P 0):∀ i,i < 1 → P i:=fun i hi => by rw [show i = 0 from by omega];exact h0
theorem lt2 {P:Nat → Prop} (h0:P 0) (h1:P 1):∀ i,i < 2 → P i:=fun i hi => by match i,hi with | 0,_ => exact h0 | 1,_ => exact h1
theorem lt3 {P:Nat → Prop} (h0:P 0) (h1:P 1) (h2:P 2):∀ i,i < 3 → P i:=fun i hi => by match i,hi with | 0,_ => exact h0 | 1,_ => exact h1 | 2,_ => exact h2
theorem zD4 {p x:Int} (hp:Prime p) (h0:1 ≤ x) (h1:x ≤ p - 1):∃ r,f_N x p = some (r,true) ∧ 0 ≤ r ∧ r ≤ p - 1 ∧ (x * r) % p = 1:=by
 have c:(p = 2 ∧ x = 1) ∨ (p = 3 ∧ (x = 1 ∨ x = 2)) ∨ (p = 5 ∧ (x = 1 ∨ x = 2 ∨ x = 3 ∨ x = 4)) ∨ (p = 7 ∧ (x = 1 ∨ x = 2 ∨ x = 3 ∨ x = 4 ∨ x = 5 ∨ x = 6)):=by unfold Prime at hp;omega
 rcases c with ⟨rfl,rfl⟩ | ⟨rfl,rfl | rfl⟩ | ⟨rfl,rfl | rfl | rfl | rfl⟩ | ⟨rfl,rfl | rfl | rfl | rfl | rfl | rfl⟩
 ·exact ⟨1,vV [(2,1,0,1),(1,0,1,-2)] 1 (lt1 (by decide +kernel)) (r:=(1,1)) (by decide +kernel) (by decide +kernel) rfl rfl,by decide,by decide,by decide⟩
 ·exact ⟨1,vV [(3,1,0,1),(1,0,1,-3)] 1 (lt1 (by decide +kernel)) (r:=(1,1)) (by decide +kernel) (by decide +kernel) rfl rfl,by decide,by decide,by decide⟩
 ·exact ⟨2,vV [(3,2,0,1),(2,1,1,-1),(1,0,-1,3)] 2 (lt2 (by decide +kernel) (by decide +kernel)) (r:=(1,-1)) (by decide +kernel) (by decide +kernel) rfl rfl,by decide,by decide,by decide⟩
 ·exact ⟨1,vV [(5,1,0,1),(1,0,1,-5)] 1 (lt1 (by decide +kernel)) (r:=(1,1)) (by decide +kernel) (by decide +kernel) rfl rfl,by decide,by decide,by decide⟩
 ·exact ⟨3,vV [(5,2,0,1),(2,1,1,-2),(1,0,-2,5)] 2 (lt2 (by decide +kernel) (by decide +kernel)) (r:=(1,-2)) (by decide +kernel) (by decide +kernel) rfl rfl,by decide,by decide,by decide⟩
 ·exact ⟨2,vV [(5,3,0,1),(3,2,1,-1),(2,1,-1,2),(1,0,2,-5)] 3 (lt3 (by decide +kernel) (by decide +kernel) (by decide +kernel)) (r:=(1,2)) (by decide +kernel) (by decide +kernel) rfl rfl,by decide,by decide,by decide⟩
 ·exact ⟨4,vV [(5,4,0,1),(4,1,1,-1),(1,0,-1,5)] 2 (lt2 (by decide +kernel) (by decide +kernel)) (r:=(1,-1)) (by decide +kernel) (by decide +kernel) rfl rfl,by decide,by decide,by decide⟩
 ·exact ⟨1,vV [(7,1,0,1),(1,0,1,-7)] 1 (lt1 (by decide +kernel)) (r:=(1,1)) (by decide +kernel) (by decide +kernel) rfl rfl,by decide,by decide,by decide⟩
 ·exact ⟨4,vV [(7,2,0,1),(2,1,1,-3),(1,0,-3,7)] 2 (lt2 (by decide +kernel) (by decide +kernel)) (r:=(1,-3)) (by decide +kernel) (by decide +kernel) rfl rfl,by decide,by decide,by decide⟩
 ·exact ⟨5,vV [(7,3,0,1),(3,1,1,-2),(1,0,-2,7)] 2 (lt2 (by decide +kernel) (by decide +kernel)) (r:=(1,-2)) (by decide +kernel) (by decide +kernel) rfl rfl,by decide,by decide,by decide⟩
 ·exact ⟨2,vV [(7,4,0,1),(4,3,1,-1),(3,1,-1,2),(1,0,2,-7)] 3 (lt3 (by decide +kernel) (by decide +kernel) (by decide +kernel)) (r:=(1,2)) (by decide +kernel) (by decide +kernel) rfl rfl,by decide,by decide,by decide⟩
 ·exact ⟨3,vV [(7,5,0,1),(5,2,1,-1),(2,1,-1,3),(1,0,3,-7)] 3 (lt3 (by decide +kernel) (by decide +kernel) (by decide +kernel)) (r:=(1,3)) (by decide +kernel) (by decide +kernel) rfl rfl,by decide,by decide,by decide⟩
 ·exact ⟨6,vV [(7,6,0,1),(6,1,1,-1),(1,0,-1,7)] 2 (lt2 (by decide +kernel) (by decide +kernel)) (r:=(1,-1)) (by decide +kernel) (by decide +kernel) rfl rfl,by decide,by decide,by decide⟩
end Go.Pl

namespace Go.Pl
open Go Go.Ab Go.Wk Go.Pc
structure zNU (p:Int) (n m:Nat) (rows:Mx) (c:Nat) (M:Mx) (d:Nat) (pv:Nat → Nat):Prop where
 len:M.length = m
 row:∀ i,i < m → Row p n (M.getD i [])
 dm:d ≤ m
 lt:∀ i,i < d → pv i < c
 one:∀ i,i < d → ent M i (pv i) = 1
 low:∀ i,i < d → ∀ j,j < pv i → ent M i j = 0
 off:∀ i k,i < d → k < m → k ≠ i → ent M k (pv i) = 0
 mono:∀ i j,i < j → j < d → pv i < pv j
 zero:∀ k,d ≤ k → k < m → ∀ j,j < c → ent M k j = 0
 sp:sE p n M rows
theorem zBi {p:Int} {n m:Nat} {F:Nat → List Int} {i:Nat} (h:i < m):Sp p n (mkR m F) (F i):=by
 have:=tI (p:=p) (n:=n) (R:=mkR m F) (i:=i) (by rw [uY];exact h)
 rw [qR h] at this;exact this
theorem zQd (a e r p:Int):a % p = ((a + (0 - e) * r) % p + e * r) % p:=by
 rw [Int.add_emod,Int.emod_emod,← Int.add_emod,show a + (0 - e) * r + e * r = a from by rw [Int.sub_mul,Int.zero_mul];omega]
section
variable {p:Int} (hp:Prime p) {n m:Nat} {rows:Mx} {c:Nat} {M:Mx} {d:Nat} {pv:Nat → Nat} (h:zNU p n m rows c M d pv) (hc:c < n) (hd:d < m)
 include hp h hc hd
theorem zNU.pivot {t:Nat} (ht:d ≤ t) (htm:t < m) (hne:ent M t c ≠ 0) {q:Int} (hq:(ent M t c * q) % p = 1) :
  zNU p n m rows (c + 1) (mkR m fun i => if i = d then mkv n fun j => (ent M t j * q) % p else vA p n (if i = t then M.getD d [] else M.getD i []) (0 - at0 (if i = t then M.getD d [] else M.getD i []) c) (mkv n fun j => (ent M t j * q) % p)) (d + 1) (fun i => if i = d then c else pv i):=by
 have h7:=hp.pos
 have pr:∀ j,j < n → at0 (mkv n fun j => (ent M t j * q) % p) j = (ent M t j * q) % p:=fun j hj => yF hj
 have p0:∀ j,j < c → (ent M t j * q) % p = 0:=fun j hj => by rw [h.zero t ht htm j hj];simp
 have prow:Row p n (mkv n fun j => (ent M t j * q) % p):=⟨zZ _ _,fun j hj => by
  have e1:=Int.emod_nonneg (ent M t j * q) (show p ≠ 0 by omega)
  have e2:=Int.emod_lt_of_pos (ent M t j * q) (show 0 < p by omega)
  rw [pr j hj];omega⟩
 have hG:∀ i,i < m → i ≠ d → Row p n (if i = t then M.getD d [] else M.getD i []):=fun i hi _ => by
  split
  ·exact h.row d hd
  ·exact h.row i hi
 have eo:∀ i j,i < m → i ≠ d → j < n → ent (mkR m fun i => if i = d then mkv n fun j => (ent M t j * q) % p else vA p n (if i = t then M.getD d [] else M.getD i []) (0 - at0 (if i = t then M.getD d [] else M.getD i []) c) (mkv n fun j => (ent M t j * q) % p)) i j = (at0 (if i = t then M.getD d [] else M.getD i []) j + (0 - at0 (if i = t then M.getD d [] else M.getD i []) c) * ((ent M t j * q) % p)) % p:=fun i j hi hne' hj => by
  rw [zD3 hi,if_neg hne',vA,yF hj,pr j hj]
 have el:∀ i j,i < m → i ≠ d → j < c → ent (mkR m fun i => if i = d then mkv n fun j => (ent M t j * q) % p else vA p n (if i = t then M.getD d [] else M.getD i []) (0 - at0 (if i = t then M.getD d [] else M.getD i []) c) (mkv n fun j => (ent M t j * q) % p)) i j = at0 (if i = t then M.getD d [] else M.getD i []) j:=fun i j hi hne' hj => by
  rw [eo i j hi hne' (by omega),p0 j hj,Int.mul_zero,Int.add_zero]
  have:=(hG i hi hne').2 j (by omega)
  exact Int.emod_eq_of_lt this.1 (by omega)
 have ed:∀ j,j < n → ent (mkR m fun i => if i = d then mkv n fun j => (ent M t j * q) % p else vA p n (if i = t then M.getD d [] else M.getD i []) (0 - at0 (if i = t then M.getD d [] else M.getD i []) c) (mkv n fun j => (ent M t j * q) % p)) d j = (ent M t j * q) % p:=fun j hj => by
  rw [zD3 hd,if_pos rfl,pr j hj]
 have ec:∀ i,i < m → i ≠ d → ent (mkR m fun i => if i = d then mkv n fun j => (ent M t j * q) % p else vA p n (if i = t then M.getD d [] else M.getD i []) (0 - at0 (if i = t then M.getD d [] else M.getD i []) c) (mkv n fun j => (ent M t j * q) % p)) i c = 0:=fun i hi hne' => by
  rw [eo i c hi hne' hc,hq,Int.mul_one]
  rw [show at0 (if i = t then M.getD d [] else M.getD i []) c + (0 - at0 (if i = t then M.getD d [] else M.getD i []) c) = 0 from by omega];simp
 have hlow:∀ i,i < d → (if i = t then M.getD d [] else M.getD i []) = M.getD i []:=fun i hi => by rw [if_neg (by omega)]
 have hzr:∀ i,d ≤ i → i < m → ∀ j,j < c → at0 (if i = t then M.getD d [] else M.getD i []) j = 0:=fun i hi hi2 j hj => by
  split
  ·exact h.zero d (Nat.le_refl _) hd j hj
  ·exact h.zero i hi hi2 j hj
 refine ⟨uY,fun i hi => ?_,by omega,fun i hi => ?_,fun i hi => ?_,fun i hi j hj => ?_,fun i k hi hk hne' => ?_,fun i j hij hj => ?_,fun k hk hk2 j hj => ?_,?_⟩
 ·rw [qR hi]
  split
  ·exact prow
  ·exact jF hp
 ·by_cases hid:i = d
  ·rw [if_pos hid];omega
  ·rw [if_neg hid];have:=h.lt i (by omega);omega
 ·by_cases hid:i = d
  ·subst hid;rw [if_pos rfl,ed c hc,hq]
  ·have h1:=h.lt i (by omega)
   rw [if_neg hid,el i _ (by omega) hid h1,hlow i (by omega)];exact h.one i (by omega)
 ·by_cases hid:i = d
  ·subst hid
   rw [if_pos rfl] at hj
   rw [ed j (by omega),p0 j hj]
  ·rw [if_neg hid] at hj
   have h1:=h.lt i (by omega)
   rw [el i j (by omega) hid (by omega),hlow i (by omega)];exact h.low i (by omega) j hj
 ·by_cases hid:i = d
  ·subst hid
   rw [if_pos rfl];exact ec k hk hne'
  ·have h1:=h.lt i (by omega)
   rw [if_neg hid]
   by_cases hkd:k = d
   ·subst hkd
    rw [ed _ (by omega),h.off i t (by omega) htm (by omega)];simp
   ·rw [el k _ hk hkd h1]
    split
    ·exact h.off i d (by omega) hd (Ne.symm hid)
    ·exact h.off i k (by omega) hk hne'
 ·by_cases hjd:j = d
  ·subst hjd
   rw [if_pos rfl,if_neg (by omega)];exact h.lt i (by omega)
  ·rw [if_neg hjd,if_neg (by omega)];exact h.mono i j hij (by omega)
 ·rcases Nat.lt_or_ge j c with hjc | hjc
  ·rw [el k j hk2 (by omega) hjc];exact hzr k (by omega) hk2 j hjc
  ·rw [show j = c from by omega];exact ec k hk2 (by omega)
 ·refine sE.trans ⟨fun i hi => ?_,fun i hi => ?_⟩ h.sp
  ·rw [uY] at hi
   rw [qR hi]
   have hr:Sp p n M (mkv n fun j => (ent M t j * q) % p):=by
    refine sQ (k:=q) (zAk (u:=[]) fun j _ => by simp [at0]) (tI (R:=M) (i:=t) (by rw [h.len];exact htm)) fun j hj => ?_
    rw [pr j hj,Int.emod_emod,Int.mul_comm];simp [at0]
   split
   ·exact hr
   ·refine sQ (k:=0 - at0 (if i = t then M.getD d [] else M.getD i []) c) (v:=if i = t then M.getD d [] else M.getD i []) ?_ hr fun j hj => ?_
    ·split
     ·exact tI (by rw [h.len];exact hd)
     ·exact tI (by rw [h.len];exact hi)
    ·rw [vA,yF hj,Int.emod_emod]
  ·rw [h.len] at hi
   have hr:=zBi (p:=p) (n:=n) (m:=m) (F:=fun i => if i = d then mkv n fun j => (ent M t j * q) % p else vA p n (if i = t then M.getD d [] else M.getD i []) (0 - at0 (if i = t then M.getD d [] else M.getD i []) c) (mkv n fun j => (ent M t j * q) % p)) hd
   simp only [if_true] at hr
   have hg:∀ k,k < m → k ≠ d → Sp p n (mkR m fun i => if i = d then mkv n fun j => (ent M t j * q) % p else vA p n (if i = t then M.getD d [] else M.getD i []) (0 - at0 (if i = t then M.getD d [] else M.getD i []) c) (mkv n fun j => (ent M t j * q) % p)) (if k = t then M.getD d [] else M.getD k []):=fun k hk hkd => by
    have h1:=zBi (p:=p) (n:=n) (m:=m) (F:=fun i => if i = d then mkv n fun j => (ent M t j * q) % p else vA p n (if i = t then M.getD d [] else M.getD i []) (0 - at0 (if i = t then M.getD d [] else M.getD i []) c) (mkv n fun j => (ent M t j * q) % p)) hk
    simp only [if_neg hkd] at h1
    refine sQ (k:=at0 (if k = t then M.getD d [] else M.getD k []) c) h1 hr fun j hj => ?_
    rw [vA,yF hj,pr j hj]
    exact zQd _ _ _ _
   by_cases hit:i = t
   ·
    subst hit
    refine sQ (k:=ent M i c) (zAk (u:=[]) fun j _ => by simp [at0]) hr fun j hj => ?_
    rw [pr j hj]
    have e1:(ent M i c * ((ent M i j * q) % p)) % p = (ent M i j * ((ent M i c * q) % p)) % p:=by
     rw [Int.mul_emod,Int.emod_emod,← Int.mul_emod,Int.mul_emod (ent M i j),Int.emod_emod,← Int.mul_emod]
     congr 1
     rw [← Int.mul_assoc,← Int.mul_assoc,Int.mul_comm (ent M i c)]
    rw [show at0 ([]:List Int) j = 0 from by simp [at0],Int.zero_add,e1,hq,Int.mul_one]
   ·by_cases hid:i = d
    ·subst hid
     have:=hg t htm (by omega)
     rw [if_pos rfl] at this;exact this
    ·have:=hg i hi hid
     rw [if_neg hit] at this;exact this
end
end Go.Pl

namespace Go.Pl
open Go Go.Ab Go.Wk Go.Pc
theorem qK {v:List Int} (h:v.length ≤ 1000000):f_w v = some v:=by
 unfold f_w
 rw [yD (by simp;omega),bs,List.nil_append]
theorem zGV {rows:Mx} (hm:rows.length ≤ 1000000) (hn:∀ i,i < rows.length → (rows.getD i []).length ≤ 1000000):zTp rows = some rows:=by
 unfold zTp
 have:=zN (body:=zK5 rows) (r:=rows) (fun i => (rows.take i,(i:Int))) rows.length (fun i hi => by
  unfold zK5
  simp only
  rw [yL hi,zH,yC [] hi,bs,qK (hn i hi),bs,yD (by simp;omega),bs,zD (by omega) (by omega),bs,cs,List.take_succ_eq_append_getElem hi,List.getD_eq_getElem?_getD,List.getElem?_eq_getElem hi]
  rfl) (by
  unfold zK5
  simp only
  rw [yT,zF,List.take_length])
 rw [show ((0:Nat):Int) = 0 from rfl,List.take_zero] at this
 rw [this,bs]
theorem zNV {M:Mx} {d c m n:Nat} (hm:M.length = m) (hd:d ≤ m) (hmm:m ≤ 1000000) (hrow:∀ i,i < m → (M.getD i []).length = n) (hc:c < n) :
  ∃ t:Nat,d ≤ t ∧ t ≤ m ∧ zG (zGY (M,(d:Int),(c:Int))) (d:Int) = some (t:Int) ∧ (∀ k,d ≤ k → k < t → ent M k c = 0) ∧ (t < m → ent M t c ≠ 0):=by
 have key:∀ k,k ≤ m - d → ∃ t:Nat,m - k ≤ t ∧ t ≤ m ∧ zG (zGY (M,(d:Int),(c:Int))) ((m - k:Nat):Int) = some (t:Int) ∧ (∀ q,m - k ≤ q → q < t → ent M q c = 0) ∧ (t < m → ent M t c ≠ 0):=by
  intro k
  induction k with
  | zero =>
   intro _
   refine ⟨m,by omega,Nat.le_refl _,?_,fun q h1 h2 => by omega,fun h => by omega⟩
   rw [xC]
   unfold zGY
   simp only
   rw [hm,show m - 0 = m from rfl,yT,zF]
  | succ k ih =>
   intro hk
   obtain ⟨t,h1,h2,h3,h4,h5⟩:=ih (by omega)
   have hlt:m - (k + 1) < m:=by omega
   by_cases hz:ent M (m - (k + 1)) c = 0
   ·refine ⟨t,by omega,h2,?_,fun q q1 q2 => ?_,h5⟩
    ·rw [xC]
     have e:zGY (M,(d:Int),(c:Int)) ((m - (k + 1):Nat):Int) = some (.inl ((m - k:Nat):Int)):=by
      unfold zGY
      simp only
      rw [hm,yL hlt,zH,yC [] (by omega),bs,yE (by rw [hrow _ hlt];exact hc),bs,zJY hz,zH,zD (by omega) (by omega),bs,cs,show m - (k + 1) + 1 = m - k from by omega]
     rw [e];exact h3
    ·rcases Nat.lt_or_ge (m - (k + 1)) q with g | g
     ·exact h4 q (by omega) q2
     ·rw [show q = m - (k + 1) from by omega];exact hz
   ·refine ⟨m - (k + 1),Nat.le_refl _,by omega,?_,fun q q1 q2 => by omega,fun _ => hz⟩
    rw [xC]
    have e:zGY (M,(d:Int),(c:Int)) ((m - (k + 1):Nat):Int) = some (.inr ((m - (k + 1):Nat):Int)):=by
     unfold zGY
     simp only
     rw [hm,yL hlt,zH,yC [] (by omega),bs,yE (by rw [hrow _ hlt];exact hc),bs,zJZ hz,zF]
    rw [e]
 obtain ⟨t,h1,h2,h3,h4,h5⟩:=key (m - d) (Nat.le_refl _)
 rw [show m - (m - d) = d from by omega] at h1 h3 h4
 exact ⟨t,h1,h2,h3,h4,h5⟩
section
variable {p:Int} (hp:Prime p) {n m:Nat} {M:Mx} {d c t:Nat}
 include hp
theorem zLy {F:Nat → List Int} {q:Int} {b:Bool} (hd:d < m) (hr:Row p n (F d)) (hn:n ≤ 1000000) (hq:0 ≤ q ∧ q ≤ p - 1) {v:List Int} (hv:v.length = n) {s:Mx × Int × Int} (hs:s.2.1 = (d:Int)) :
  zG (zK6 p s (q,b) v) (mkR m F,0) = some (mkR m fun i => if i = d then mkv n fun j => (at0 (F d) j * q) % p else F i):=by
 have h7:=hp.pos
 have:=zN (body:=zK6 p s (q,b) v) (r:=mkR m fun i => if i = d then mkv n fun j => (at0 (F d) j * q) % p else F i) (fun k => (mkR m fun i => if i = d then mkv n (fun j => if j < k then (at0 (F d) j * q) % p else at0 (F d) j) else F i,(k:Int))) n (fun k hk => by
  have a1:=hr.2 k hk
  have a2:=zBh hp (k:=q) ⟨by omega,by omega⟩ a1
  have a3:=Int.mul_nonneg a1.1 hq.1
  rw [Int.mul_comm] at a2
  unfold zK6
  simp only
  rw [hv,yL hk,zH,hs,zI9 hd]
  simp only [bs,if_true]
  rw [yE (by rw [zZ];exact hk),yF hk,if_neg (by omega)]
  simp only [bs]
  rw [zD (by omega) (by omega)]
  simp only [bs,uI]
  rw [if_neg (by omega)]
  simp only [bs]
  rw [Int.tmod_eq_emod_of_nonneg a3,zD (by omega) (by omega)]
  simp only [bs,Int.toNat_natCast,cs]
  rw [zFf]
  congr 3
  refine tN fun i _ => ?_
  by_cases hi:i = d
  ·rw [if_pos hi,if_pos hi,qP]
   refine zW fun j _ => ?_
   by_cases hj:j = k
   ·subst hj;rw [if_pos rfl,if_pos (by omega)]
   ·rw [if_neg hj]
    by_cases hj2:j < k
    ·rw [if_pos hj2,if_pos (by omega)]
    ·rw [if_neg hj2,if_neg (by omega)]
  ·rw [if_neg hi,if_neg hi,if_neg hi]) (by
  unfold zK6
  simp only
  rw [hv,yT,zF]
  congr 2
  refine tN fun i _ => ?_
  split
  ·exact zW fun j hj => by rw [if_pos hj]
  ·rfl)
 rw [show ((0:Nat):Int) = 0 from rfl] at this
 rw [← this]
 congr 2
 refine tN fun i _ => ?_
 split
 ·rename_i e;subst e
  conv => lhs;rw [vG hr.1]
  exact zW fun j _ => by rw [if_neg (by omega)]
 ·rfl
theorem zLz {F:Nat → List Int} (hd:d < m) (hc:c < n) (hr:∀ i,i < m → Row p n (F i)) (hn:n ≤ 1000000) (hm:m ≤ 1000000) {r21:Mx} (hl:r21.length = m) {s:Mx × Int × Int} (hs:s.2.1 = (d:Int)) (hs2:s.2.2 = (c:Int)) :
  zG (zMb p s r21) (mkR m F,0) = some (mkR m fun i => if i = d then F d else vA p n (F i) (0 - at0 (F i) c) (F d)):=by
 have h7:=hp.pos
 have:=zN (body:=zMb p s r21) (r:=mkR m fun i => if i = d then F d else vA p n (F i) (0 - at0 (F i) c) (F d)) (fun k => (mkR m fun i => if i < k ∧ i ≠ d then vA p n (F i) (0 - at0 (F i) c) (F d) else F i,(k:Int))) m (fun k hk => by
  have a1:=(hr k hk).2 c hc
  unfold zMb
  simp only
  rw [hl,yL hk,zH,hs,hs2]
  by_cases hkd:k = d
  ·subst hkd
   rw [jU rfl,zF,zD (by omega) (by omega),bs,cs]
   congr 3
   refine tN fun i _ => ?_
   by_cases hi:i = k
   ·subst hi;rw [if_neg (by omega),if_neg (by omega)]
   ·by_cases hi2:i < k
    ·rw [if_pos ⟨hi2,hi⟩,if_pos ⟨by omega,hi⟩]
    ·rw [if_neg (by omega),if_neg (by omega)]
  ·rw [sX (by omega),zH,zI9 hk,zI9 hd]
   simp only [bs,ne_eq,not_true_eq_false,and_false,if_false,Nat.lt_irrefl,false_and]
   rw [yE (by rw [(hr k hk).1];exact hc)]
   simp only [bs]
   rw [zD (by omega) (by omega)]
   simp only [bs]
   rw [qI hp (hr k hk) (hr d hd) (by omega) hn,bs,zD (by omega) (by omega)]
   simp only [bs,Int.toNat_natCast,cs]
   rw [zFf]
   congr 3
   refine tN fun i _ => ?_
   by_cases hi:i = k
   ·subst hi;rw [if_pos rfl,if_pos ⟨by omega,hkd⟩]
   ·rw [if_neg hi]
    by_cases hi2:i < k ∧ ¬ i = d
    ·rw [if_pos hi2,if_pos ⟨by omega,hi2.2⟩]
    ·rw [if_neg hi2,if_neg (by omega)]) (by
  unfold zMb
  simp only
  rw [hl,yT,zF]
  congr 2
  refine tN fun i hi => ?_
  by_cases hid:i = d
  ·rw [if_pos hid,if_neg (by omega),hid]
  ·rw [if_neg hid,if_pos ⟨hi,hid⟩])
 rw [show ((0:Nat):Int) = 0 from rfl] at this
 rw [← this]
 congr 2
end
end Go.Pl

namespace Go.Pl
open Go Go.Ab Go.Wk Go.Pc
theorem Red.empty {p:Int} {n:Nat}:Red p n [] (fun _ => 0):=⟨fun _ h => by simp at h,fun _ h => by simp at h,fun _ h => by simp at h,fun _ h => by simp at h,fun _ _ h => by simp at h,fun _ _ _ h => by simp at h⟩
theorem zNU.take {p:Int} {n m:Nat} {rows:Mx} {c:Nat} {M:Mx} {d:Nat} {pv:Nat → Nat} (h:zNU p n m rows c M d pv) (hcn:c ≤ n) (hz:∀ k,d ≤ k → k < m → ∀ j,j < n → ent M k j = 0):Red p n (M.take d) pv ∧ sE p n (M.take d) rows:=by
 have hl:(M.take d).length = d:=by rw [List.length_take,h.len];exact Nat.min_eq_left h.dm
 have hg:∀ i,i < d → (M.take d).getD i [] = M.getD i []:=fun i hi => by simp only [List.getD_eq_getElem?_getD,List.getElem?_take,if_pos hi]
 have dm:=h.dm
 refine ⟨⟨fun i hi => ?_,fun i hi => ?_,fun i hi => ?_,fun i hi j hj => ?_,fun i k hi hk hne => ?_,fun i j hij hj => ?_⟩,sE.trans ⟨fun i hi => ?_,fun i hi => ?_⟩ h.sp⟩
 ·rw [hl] at hi;rw [hg i hi];exact h.row i (by omega)
 ·rw [hl] at hi;have:=h.lt i hi;omega
 ·rw [hl] at hi;simp only [ent,hg i hi];exact h.one i hi
 ·rw [hl] at hi;simp only [ent,hg i hi];exact h.low i hi j hj
 ·rw [hl] at hi hk;simp only [ent,hg k hk];exact h.off i k hi (by omega) hne
 ·rw [hl] at hj;exact h.mono i j hij hj
 ·rw [hl] at hi;rw [hg i hi];exact tI (by rw [h.len];omega)
 ·rw [h.len] at hi
  rcases Nat.lt_or_ge i d with g | g
  ·have:=tI (p:=p) (n:=n) (R:=M.take d) (i:=i) (by rw [hl];exact g)
   rw [hg i g] at this;exact this
  ·exact zAk fun j hj => by
    have:=hz i g hi j hj
    simp only [ent] at this
    rw [this];rfl
section
variable {p:Int} (hp:Prime p) {n:Nat} {rows:Mx} (hn:n ≤ 100000) (hm:rows.length ≤ 600000) (hr:∀ i,i < rows.length → Row p n (rows.getD i []))
 include hp hn hm hr
theorem zKa:∃ R pv,f_g p rows = some R ∧ Red p n R pv ∧ sE p n R rows:=by
 have h7:=hp.pos
 unfold f_g
 rw [zGV (by omega) (fun i hi => by have:=(hr i hi).1;omega),bs]
 have main:=vO (body:=zMc p) (s:=(rows,0,0)) (Q:=fun r => ∃ (M:Mx) (d:Nat) (pv:Nat → Nat),r = (M,(d:Int)) ∧ d ≤ M.length ∧ Red p n (M.take d) pv ∧ sE p n (M.take d) rows)
  (fun i s => ∃ (M:Mx) (d:Nat) (pv:Nat → Nat),s = (M,(d:Int),(i:Int)) ∧ zNU p n rows.length rows i M d pv ∧ i ≤ n) n (fun c s hc hI => ?_) (fun s hI => ?_) ⟨rows,0,fun _ => 0,rfl,⟨rfl,hr,Nat.zero_le _,fun _ h => by omega,fun _ h => by omega,fun _ h => by omega,fun _ _ h => by omega,fun _ _ _ h => by omega,fun _ _ _ _ h => by omega,sE.refl⟩,Nat.zero_le _⟩
 ·obtain ⟨r,h1,M,d,pv,rfl,hd,hR,hS⟩:=main
  rw [h1,bs]
  simp only
  have e:zU M 0 (d:Int) = some (M.take d):=by
   unfold zU
   rw [if_pos ⟨by omega,by omega,by omega⟩];simp
  rw [e,bs]
  exact ⟨_,_,rfl,hR,hS⟩
 ·
  obtain ⟨M,d,pv,rfl,h,hcn⟩:=hI
  have hl:=h.len
  have hdm:=h.dm
  by_cases h0:rows.length = 0
  ·refine .inr ⟨(M,(d:Int)),?_,M,d,pv,rfl,by omega,h.take hcn fun k hk hk2 => by omega⟩
   unfold zMc
   simp only
   rw [decide_eq_false (by omega),zF]
  have e0:zMc p (M,(d:Int),(c:Int)) = cond (decide ((d:Int) < (M.length:Int))) ((zG (zGY (M,(d:Int),(c:Int))) (d:Int)).bind fun r6 =>
    cond (r6 == (M.length:Int)) ((rng ((c:Int) + 1)).bind fun v7 => some (.inl (M,(d:Int),v7))) (
     (ixO M r6).bind fun v8 => (ixO M (d:Int)).bind fun v9 => (ixO (sW M (d:Int) r6 v8 v9) (d:Int)).bind fun v10 => (ixO v10 (c:Int)).bind fun v11 => (f_N v11 p).bind fun r12 =>
     (ixO (sW M (d:Int) r6 v8 v9) (d:Int)).bind fun v13 => (zG (zK6 p (M,(d:Int),(c:Int)) r12 v13) (sW M (d:Int) r6 v8 v9,0)).bind fun r21 =>
     (zG (zMb p (M,(d:Int),(c:Int)) r21) (r21,0)).bind fun r30 => (rng ((d:Int) + 1)).bind fun v31 => (rng ((c:Int) + 1)).bind fun v32 => some (.inl (r30,v31,v32)))) (some (.inr (M,(d:Int)))):=by
   unfold zMc
   simp only
   have hx:ixO M (0:Int) = some (M.getD 0 []):=by
    have:=yC (v:=M) (i:=0) [] (by omega)
    exact this
   rw [decide_eq_true (by omega),zH,hx]
   simp only [bs]
   rw [(h.row 0 (by omega)).1,yL hc,zH]
  rcases Nat.lt_or_ge d rows.length with hd | hd
  ·obtain ⟨t,t1,t2,t3,t4,t5⟩:=zNV (M:=M) (d:=d) (c:=c) (m:=rows.length) (n:=n) hl hdm (by omega) (fun i hi => (h.row i hi).1) hc
   rw [e0,hl,yL hd,zH,t3]
   simp only [bs]
   by_cases htm:t = rows.length
   ·
    left
    refine ⟨(M,(d:Int),((c + 1:Nat):Int)),?_,M,d,pv,rfl,⟨hl,h.row,hdm,fun i hi => by have:=h.lt i hi;omega,h.one,h.low,h.off,h.mono,fun k k1 k2 j hj => ?_,h.sp⟩,by omega⟩
    ·rw [zJY (by omega),zH,zD (by omega) (by omega),bs,cs]
    ·rcases Nat.lt_or_ge j c with g | g
     ·exact h.zero k k1 k2 j g
     ·rw [show j = c from by omega];exact t4 k k1 (by omega)
   ·have htl:t < rows.length:=by omega
    have hne:=t5 htl
    have hrt:=h.row t htl
    have hrc:=hrt.2 c hc
    obtain ⟨q,q1,q2,q3,q4⟩:=zD4 (p:=p) (x:=ent M t c) hp (by simp only [ent] at hne ⊢;omega) (by simp only [ent];omega)
    left
    have hM:M = mkR rows.length (fun i => M.getD i []):=zVe hl
    obtain ⟨F,hF⟩:∃ F:Nat → List Int,∀ i,F i = if i = t then M.getD d [] else if i = d then M.getD t [] else M.getD i []:=⟨_,fun _ => rfl⟩
    have hsw:sW M (d:Int) (t:Int) (M.getD t []) (M.getD d []) = mkR rows.length F:=by
     unfold sW
     rw [Int.toNat_natCast,Int.toNat_natCast]
     conv => lhs;rw [hM]
     rw [zFf,zFf]
     exact tN fun i hi => by rw [hF,qR hd,qR htl]
    have hrow2:∀ i,i < rows.length → Row p n (F i):=fun i hi => by
     rw [hF]
     split
     ·exact h.row d hd
     ·split
      ·exact hrt
      ·exact h.row i hi
    have hFd:F d = M.getD t []:=by
     rw [hF]
     by_cases e:d = t
     ·rw [if_pos e,e]
     ·rw [if_neg e,if_pos rfl]
    obtain ⟨G,hG⟩:∃ G:Nat → List Int,∀ i,G i = if i = d then mkv n fun j => (at0 (F d) j * q) % p else F i:=⟨_,fun _ => rfl⟩
    have hGd:G d = mkv n fun j => (ent M t j * q) % p:=by rw [hG,if_pos rfl,hFd]
    have hGo:∀ i,i ≠ d → G i = if i = t then M.getD d [] else M.getD i []:=fun i hid => by rw [hG,if_neg hid,hF];simp only [hid,if_false]
    have hsc:zG (zK6 p (M,(d:Int),(c:Int)) (q,true) (M.getD t [])) (mkR rows.length F,0) = some (mkR rows.length G):=by
     rw [zLy hp (F:=F) hd (hrow2 d hd) (by omega) ⟨q2,q3⟩ hrt.1 rfl]
     congr 1
     exact tN fun i _ => (hG i).symm
    have hF3:∀ i,i < rows.length → Row p n (G i):=fun i hi => by
     rw [hG]
     split
     ·refine ⟨zZ _ _,fun j hj => ?_⟩
      have e1:=Int.emod_nonneg (at0 (F d) j * q) (show p ≠ 0 by omega)
      have e2:=Int.emod_lt_of_pos (at0 (F d) j * q) (show 0 < p by omega)
      rw [yF hj];omega
     ·exact hrow2 i hi
    have hcl:=zLz hp (c:=c) (F:=G) hd hc hF3 (by omega) (by omega) (r21:=mkR rows.length G) uY (s:=(M,(d:Int),(c:Int))) rfl rfl
    rw [zJZ (by omega),zF,yC [] (by omega),yC [] (by omega)]
    simp only [bs]
    rw [hsw,zI9 hd,hFd]
    simp only [bs]
    rw [yE (by rw [hrt.1];exact hc)]
    simp only [bs]
    rw [show at0 (M.getD t []) c = ent M t c from rfl,q1]
    simp only [bs]
    rw [hsc]
    simp only [bs]
    rw [hcl]
    simp only [bs]
    rw [zD (by omega) (by omega),zD (by omega) (by omega)]
    simp only [bs,cs]
    have hfin:=h.pivot hp hc hd t1 htl hne q4
    refine ⟨_,rfl,_,d + 1,fun i => if i = d then c else pv i,rfl,?_,by omega⟩
    have e3:(mkR rows.length fun i => if i = d then G d else vA p n (G i) (0 - at0 (G i) c) (G d)) = (mkR rows.length fun i => if i = d then mkv n fun j => (ent M t j * q) % p else vA p n (if i = t then M.getD d [] else M.getD i []) (0 - at0 (if i = t then M.getD d [] else M.getD i []) c) (mkv n fun j => (ent M t j * q) % p)):=by
     refine tN fun i hi => ?_
     rw [hGd]
     by_cases hid:i = d
     ·rw [if_pos hid,if_pos hid]
     ·rw [if_neg hid,if_neg hid,hGo i hid]
    rw [e3];exact hfin
  ·
   refine .inr ⟨(M,(d:Int)),?_,M,d,pv,rfl,by omega,h.take hcn fun k hk hk2 => by omega⟩
   rw [e0,decide_eq_false (by omega),zF]
 ·
  obtain ⟨M,d,pv,rfl,h,hcn⟩:=hI
  have hl:=h.len
  have hdm:=h.dm
  refine ⟨(M,(d:Int)),?_,M,d,pv,rfl,by omega,h.take hcn fun k hk hk2 j hj => h.zero k hk hk2 j hj⟩
  unfold zMc
  simp only
  by_cases h0:rows.length = 0
  ·rw [decide_eq_false (by omega),zF]
  ·have hx:ixO M (0:Int) = some (M.getD 0 []):=by
    have:=yC (v:=M) (i:=0) [] (by omega)
    exact this
   rw [decide_eq_true (by omega),zH,hx]
   simp only [bs]
   rw [(h.row 0 (by omega)).1,yT,zF]
end
end Go.Pl
