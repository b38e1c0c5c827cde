import PyProof.Rows.All
import Wide.All
import OpenK.AllK
import Wide.FinOn
import Open.Tops
import KE.KBytesWalk
import KE.KIntText
import KE.KSortTup
import KE.KLam
import KE.KNestM
import KE.KDictSum
import Lean
import PySem.Challenge.RW_nn0086_01
set_option Elab.async false
set_option linter.all false
set_option tactic.hygienic false
set_option genInjectivity false
set_option genSizeOf false
set_option genCtorIdx false
section
set_option backward.match.sparseCases false
namespace Mine
theorem af {p:Prop} (h:¬¬p):p:=Classical.byContradiction h
theorem aS {p:Prop} (h:false = true):p:=nomatch h
theorem fq {p:Prop} (h:true = false):p:=nomatch h
theorem ar {α:Type _} {p:Prop} {a:α} (h:none = some a):p:=nomatch h
theorem c9 {α:Type _} {p:Prop} {a:α} (h:some a = none):p:=nomatch h
theorem gd {α:Type} {P:α→Prop}:∀ x∈([]:List α),P x:=fun _ h=>(List.not_mem_nil h).elim
inductive SE where
 | lit (i:Int)
 | var (n:Nat)
 | add (a b:SE)
 | mul (k:Int) (a:SE)
 | div (a:SE) (k:Nat)
 | mod (a:SE) (k:Nat)
 | bit (k:Bool) (a:SE)
 | tab (l:List Int) (a:SE)
 | abs (a:SE)
noncomputable def cQ (k:Bool) (i:Int):Bool:=match k with
 | true=>decide (i≤0)
 | false=>decide (i = 0)
noncomputable def bt (a b:Int):Bool:=match b - a with
 | .ofNat _=>true
 | .negSucc _=>false
noncomputable def bg (a b:Int):Bool:=match a,b with
 | .ofNat m,.ofNat n=>Nat.beq m n
 | .negSucc m,.negSucc n=>Nat.beq m n
 | _,_=>false
theorem lN (a b:Int):bt a b = decide (a≤b):=by
 unfold bt
 cases h:b - a with
 | ofNat n=>exact (decide_eq_true (by have:b - a = (n:Int):=h; lia)).symm
 | negSucc n=>exact (decide_eq_false (by have:=Int.negSucc_lt_zero n; lia)).symm
theorem gR:∀ a b:Int,bg a b = (a == b)
 | .ofNat m,.ofNat n | .negSucc m,.negSucc n=>by
  rw [Bool.eq_iff_iff,beq_iff_eq]
  exact (show Nat.beq m n = true↔_ by rw [Nat.beq_eq]; exact ⟨fun e=>e▸rfl,fun e=>by injection e⟩)
 | .ofNat _,.negSucc _ | .negSucc _,.ofNat _=>rfl
theorem dA {a b:Int} (h:bt a b = true):a≤b:=by rw [lN] at h; exact of_decide_eq_true h
theorem dP {a b:Int} (h:bg a b = true):a = b:=by rw [gR] at h; exact beq_iff_eq.mp h
noncomputable def dB:Bool→Bool→Bool
 | true,b=>b
 | false,true=>false
 | false,false=>true
theorem lO:∀ {a b:Bool},dB a b = true→a = b
 | true,true,_ | false,false,_=>rfl
noncomputable def aH:Bool→Bool→Bool
 | true,b=>b
 | false,_=>false
theorem aC:∀ {a b:Bool},aH a b = true→a = true∧b = true
 | true,true,_=>⟨rfl,rfl⟩
theorem eO {α:Type}:∀ {a:Bool} {x y z:α},cond a x y = z→(a = true∧x = z)∨(a = false∧y = z)
 | true,_,_,_,h=>.inl ⟨rfl,h⟩
 | false,_,_,_,h=>.inr ⟨rfl,h⟩
noncomputable def gS:List Int→List Int→Bool
 | [],[]=>true
 | a::l,b::m=>aH (bg a b) (gS l m)
 | _,_=>false
theorem pT:∀ {l m:List Int},gS l m = true→l = m
 | [],[],_=>rfl
 | a::l,b::m,h=>dP (aC h).1▸pT (aC h).2▸rfl
namespace SE
noncomputable def val (ρ:Nat→Int):SE→Int
 | lit i=>i
 | var n=>ρ n
 | add a b=>a.val ρ + b.val ρ
 | mul k a=>k * a.val ρ
 | div a k=>a.val ρ / k
 | mod a k=>a.val ρ % k
 | bit k a=>if cQ k (a.val ρ) = true then 1 else 0
 | tab l a=>l.getD (a.val ρ).toNat 0
 | abs a=>((a.val ρ).natAbs:Int)
noncomputable def beq:SE→SE→Bool
 | lit i,lit j=>bg i j
 | var m,var n=>Nat.beq m n
 | add a b,add c d=>aH (beq a c) (beq b d)
 | mul k a,mul j b=>aH (bg k j) (beq a b)
 | div a k,div b j=>aH (Nat.beq k j) (beq a b)
 | mod a k,mod b j=>aH (Nat.beq k j) (beq a b)
 | bit k a,bit j b=>aH (dB k j) (beq a b)
 | tab l a,tab m b=>aH (gS l m) (beq a b)
 | abs a,abs b=>beq a b
 | _,_=>false
theorem uw {a:SE}:∀ {b:SE},beq a b = true→a = b:=by
 induction a with
 | lit=>intro b h; cases b with
  | lit=>exact congrArg _ (dP h)
  | _=>exact aS h
 | var=>intro b h; cases b with
  | var=>exact congrArg _ (Nat.eq_of_beq_eq_true h)
  | _=>exact aS h
 | add _ _ i j=>intro b h; cases b with
  | add=>exact i (aC h).1▸j (aC h).2▸rfl
  | _=>exact aS h
 | mul _ _ i=>intro b h; cases b with
  | mul=>exact dP (aC h).1▸i (aC h).2▸rfl
  | _=>exact aS h
 | div _ _ i=>intro b h; cases b with
  | div=>exact Nat.eq_of_beq_eq_true (aC h).1▸i (aC h).2▸rfl
  | _=>exact aS h
 | mod _ _ i=>intro b h; cases b with
  | mod=>exact Nat.eq_of_beq_eq_true (aC h).1▸i (aC h).2▸rfl
  | _=>exact aS h
 | bit _ _ i=>intro b h; cases b with
  | bit=>exact lO (aC h).1▸i (aC h).2▸rfl
  | _=>exact aS h
 | tab _ _ i=>intro b h; cases b with
  | tab=>exact pT (aC h).1▸i (aC h).2▸rfl
  | _=>exact aS h
 | abs _ i=>intro b h; cases b with
  | abs=>exact congrArg _ (i h)
  | _=>exact aS h
end SE
noncomputable abbrev LF:=List (SE×Int)
noncomputable def sm (ρ:Nat→Int):LF→Int
 | []=>0
 | (e,k)::l=>k * e.val ρ + sm ρ l
noncomputable def ins (e:SE) (k:Int):LF→LF
 | []=>[(e,k)]
 | (f,j)::l=>(match e.beq f with
  | true=>(match bg (j + k) 0 with
   | true=>l
   | false=>(f,j + k)::l)
  | false=>(f,j)::ins e k l)
section
variable {ρ:Nat→Int}
theorem dC (e:SE) (k:Int):∀ l:LF,sm ρ (ins e k l) = k * e.val ρ + sm ρ l
 | []=>rfl
 | (f,j)::l=>by
  show sm ρ (match e.beq f with | true=>_ | false=>_) = k * e.val ρ + (j * f.val ρ + sm ρ l)
  cases h:e.beq f with
  | true=>
   obtain rfl:=SE.uw h
   have z:(j + k) * e.val ρ = j * e.val ρ + k * e.val ρ:=Int.add_mul ..
   show sm ρ (match bg (j + k) 0 with | true=>_ | false=>_) = _
   cases q:bg (j + k) 0 with
   | true=>rw [dP q,Int.zero_mul] at z; show sm ρ l = _; lia
   | false=>show (j + k) * e.val ρ + sm ρ l = _; lia
  | false=>show j * f.val ρ + sm ρ (ins e k l) = _; rw [dC e k l]; lia
noncomputable def bh:SE→Int→Int×LF→Int×LF
 | .lit i,k,a=>(a.1 + k * i,a.2)
 | .add x y,k,a=>bh y k (bh x k a)
 | .mul j x,k,a=>bh x (k * j) a
 | e,k,a=>(a.1,ins e k a.2)
theorem ft:∀ (e:SE) (k:Int) (a:Int×LF),(bh e k a).1 + sm ρ (bh e k a).2 = a.1 + sm ρ a.2 + k * e.val ρ
 | .lit i,k,a=>by show a.1 + k * i + sm ρ a.2 = a.1 + sm ρ a.2 + k * i; lia
 | .add x y,k,a=>by
  have h1:=ft y k (bh x k a)
  have h2:=ft x k a
  show (bh y k (bh x k a)).1 + sm ρ (bh y k (bh x k a)).2 = a.1 + sm ρ a.2 + k * (x.val ρ + y.val ρ)
  rw [h1,h2,Int.mul_add]; lia
 | .mul j x,k,a=>by
  have h1:=ft x (k * j) a
  show (bh x (k * j) a).1 + sm ρ (bh x (k * j) a).2 = a.1 + sm ρ a.2 + k * (j * x.val ρ)
  rw [h1,Int.mul_assoc]
 | .var n,k,a=>by show a.1 + sm ρ (ins (.var n) k a.2) = _; rw [dC]; lia
 | .div x j,k,a=>by show a.1 + sm ρ (ins (.div x j) k a.2) = _; rw [dC]; lia
 | .mod x j,k,a=>by show a.1 + sm ρ (ins (.mod x j) k a.2) = _; rw [dC]; lia
 | .bit x j,k,a=>by show a.1 + sm ρ (ins (.bit x j) k a.2) = _; rw [dC]; lia
 | .tab x j,k,a=>by show a.1 + sm ρ (ins (.tab x j) k a.2) = _; rw [dC]; lia
 | .abs x,k,a=>by show a.1 + sm ρ (ins (.abs x) k a.2) = _; rw [dC]; lia
noncomputable def CD (k:Int):LF→LF
 | []=>[]
 | (e,j)::l=>(e,k * j)::CD k l
noncomputable def gone (k:Int):LF→LF→Bool
 | [],[]=>true
 | _,[]=>false
 | l,(e,j)::m=>gone k (ins e (k * j) l) m
theorem jK {k:Int}:∀ {m l:LF},gone k l m = true→sm ρ l + k * sm ρ m = 0
 | [],[],_=>by show (0:Int) + k * 0 = 0; lia
 | (e,j)::m,l,h=>by
  have h:gone k (ins e (k * j) l) m = true:=by cases l<;>exact h
  have:=jK h
  rw [dC] at this
  show sm ρ l + k * (j * e.val ρ + sm ρ m) = 0
  rw [Int.mul_add,← Int.mul_assoc]; lia
inductive gT where
 | ge (l:LF) (n:Int)
 | le (l:LF) (n:Int)
 | ne (l:LF) (n:Int)
noncomputable def gT.Ok (ρ:Nat→Int):gT→Prop
 | ge l n=>n≤sm ρ l
 | le l n=>sm ρ l≤n
 | ne l n=>sm ρ l≠n
noncomputable abbrev Facts:=List gT
noncomputable def Sat (ρ:Nat→Int) (G:Facts):Prop:=∀ f∈G,f.Ok ρ
noncomputable def LB (ρ:Nat→Int) (l:LF) (n:Option Int):Prop:=∀ m,n = some m→m≤sm ρ l
noncomputable def jL:Option Int→Option Int→Option Int
 | none,b=>b
 | a,none=>a
 | some a,some b=>(match bt a b with
  | true=>some b
  | false=>some a)
theorem lP {x:Int}:∀ {a b:Option Int},(∀ m,a = some m→m≤x)→(∀ m,b = some m→m≤x)→∀ m,jL a b = some m→m≤x
 | none,_,_,h2,m,e=>h2 m e
 | some _,none,h1,_,m,e=>h1 m e
 | some a,some b,h1,h2,m,e=>by
  change (match bt a b with | true=>some b | false=>some a) = some m at e
  cases q:bt a b<;>rw [q] at e
  ·exact h1 m e
  ·exact h2 m e
noncomputable def ux:Option Int→Option Int→Option Int
 | some a,some b=>some (a + b)
 | _,_=>none
theorem CE {x y:Int}:∀ {a b:Option Int},(∀ m,a = some m→m≤x)→(∀ m,b = some m→m≤y)→∀ m,ux a b = some m→m≤x + y
 | some a,some b,h1,h2,m,e=>by have:=h1 a rfl; have:=h2 b rfl; cases e; lia
noncomputable def gf:Facts→LF→Option Int
 | [],_=>none
 | .ge m n::G,l=>(match gone (-1) l m with
  | true=>jL (some n) (gf G l)
  | false=>gf G l)
 | .le m n::G,l=>(match gone 1 l m with
  | true=>jL (some (-n)) (gf G l)
  | false=>gf G l)
 | .ne _ _::G,l=>gf G l
theorem pU {l:LF}:∀ {G:Facts},Sat ρ G→LB ρ l (gf G l)
 | [],_=>fun _ e=>(by exact ar e)
 | f::G,h=>by
  have ih:=pU (l:=l) (G:=G) fun f m=>h f (.tail _ m)
  have hf:=h f (.head _)
  cases f with
  | ge m n=>
   change LB ρ l (match gone (-1) l m with | true=>_ | false=>_)
   cases q:gone (-1) l m with
   | true=>exact lP (fun x e=>by have:=jK (ρ:=ρ) q; have:n≤sm ρ m:=hf; cases e; lia) ih
   | false=>exact ih
  | le m n=>
   change LB ρ l (match gone 1 l m with | true=>_ | false=>_)
   cases q:gone 1 l m with
   | true=>exact lP (fun x e=>by have:=jK (ρ:=ρ) q; have:sm ρ m≤n:=hf; cases e; lia) ih
   | false=>exact ih
  | ne=>exact ih
noncomputable def sg (s:Bool):Int:=match s with
 | true=>1
 | false=>-1
noncomputable def pV (b:SE→Bool→Option Int):LF→Option Int
 | []=>some 0
 | (e,k)::l=>ux (match bt 0 k with
  | true=>(b e true).map (k * ·)
  | false=>(b e false).map (-k * ·)) (pV b l)
theorem uy {b:SE→Bool→Option Int} (hb:∀ e s m,b e s = some m→m≤sg s * e.val ρ):∀ {l:LF},LB ρ l (pV b l)
 | []=>fun m e=>by cases e; exact Int.le_refl _
 | (e,k)::l=>by
  refine CE (fun m q=>?_) (uy hb)
  cases z:bt 0 k<;>rw [z] at q<;>obtain ⟨n,h1,rfl⟩:=Option.map_eq_some_iff.mp q<;>rw [lN] at z
  ·have:=Int.mul_le_mul_of_nonneg_left (hb _ _ _ h1) (show 0≤-k by have:=of_decide_eq_false z; lia)
   rwa [show -k * (sg false * e.val ρ) = k * e.val ρ by show -k * (-1 * _) = _; rw [Int.neg_one_mul,Int.neg_mul_neg]] at this
  ·have:=Int.mul_le_mul_of_nonneg_left (hb _ _ _ h1) (of_decide_eq_true z)
   rwa [show k * (sg true * e.val ρ) = k * e.val ρ by show k * (1 * _) = _; rw [Int.one_mul]] at this
noncomputable def pW (b:LF→Option Int) (e:SE) (s:Bool):Option Int:=match bh e (sg s) (0,[]) with
 | (c,l)=>(b l).map (c + ·)
theorem uz {b:LF→Option Int} (hb:∀ l,LB ρ l (b l)) {e:SE} {s:Bool} {m:Int} (h:pW b e s = some m):m≤sg s * e.val ρ:=by
 obtain ⟨n,h1,rfl⟩:=Option.map_eq_some_iff.mp (show ((b (bh e (sg s) (0,[])).2).map ((bh e (sg s) (0,[])).1 + ·)) = some m from h)
 have:=hb _ _ h1
 have e1:=ft (ρ:=ρ) e (sg s) (0,[])
 change _ = 0 + 0 + _ at e1
 lia
noncomputable def bK (n:Int):Option Int→Bool
 | some m=>bt n m
 | none=>false
theorem cF {n x:Int}:∀ {o:Option Int},(∀ m,o = some m→m≤x)→bK n o = true→n≤x
 | some m,h,e=>Int.le_trans (dA e) (h m rfl)
noncomputable def iM (k:Bool) (lo hi:Option Int):Option Bool:=cond (bK 1 lo) (some false) (cond k (cond (bK 0 hi) (some true) none) (cond (bK 1 hi) (some false) (cond (aH (bK 0 lo) (bK 0 hi)) (some true) none)))
theorem uA {k:Bool} {x:Int} (q:x≠0) (z:k = true→1≤x):cQ k x = false:=by
 cases k
 ·exact decide_eq_false q
 ·exact decide_eq_false (by have:=z rfl; lia)
theorem uB {k r:Bool} {lo hi:Option Int} {x:Int} (h1:∀ m,lo = some m→m≤x) (h2:∀ m,hi = some m→m≤-x) (h:iM k lo hi = some r):cQ k x = r:=by
 rcases eO h with ⟨q,e⟩ | ⟨-,h⟩
 ·have:=cF h1 q; exact (uA (by lia) fun _=>this).trans (Option.some.inj e)
 ·cases k
  ·rcases eO (show cond (bK 1 hi) _ _ = _ from h) with ⟨q,e⟩ | ⟨-,h⟩
   ·have:=cF h2 q; exact (uA (k:=false) (x:=x) (by lia) fun z=>aS z).trans (Option.some.inj e)
   ·rcases eO h with ⟨q,e⟩ | ⟨-,h⟩
    ·obtain ⟨q1,q2⟩:=aC q
     have:=cF h1 q1; have:=cF h2 q2
     exact (decide_eq_true (by lia)).trans (Option.some.inj e)
    ·exact ar h
  ·rcases eO (show cond (bK 0 hi) _ _ = _ from h) with ⟨q,e⟩ | ⟨-,h⟩
   ·have:=cF h2 q; exact (decide_eq_true (by lia)).trans (Option.some.inj e)
   ·exact ar h
noncomputable def pX (s:Bool):List Int→Option Int
 | []=>none
 | [x]=>some (sg s * x)
 | x::l=>(pX s l).map fun m=>cond (bt (sg s * x) m) (sg s * x) m
theorem uC {s:Bool}:∀ {l:List Int} {m:Int},pX s l = some m→∀ x∈l,m≤sg s * x
 | [y],m,e,x,h=>by cases e; rw [List.mem_singleton.mp h]; exact Int.le_refl _
 | y::z::l,m,e,x,h=>by
  obtain ⟨n,e1,rfl⟩:=Option.map_eq_some_iff.mp e
  have ih:=uC e1
  cases q:bt (sg s * y) n
  ·show n≤_
   rcases List.mem_cons.mp h with rfl | h
   ·rw [lN] at q; have:=of_decide_eq_false q; lia
   ·exact ih x h
  ·show sg s * y≤_
   rcases List.mem_cons.mp h with rfl | h
   ·exact Int.le_refl _
   ·exact Int.le_trans (dA q) (ih x h)
noncomputable def uD (S:SE→Bool→Option Int) (e:SE) (s:Bool):Option Int:=match e with
 | .div a k=>cond (Nat.ble 1 k) (cond s ((S a true).map (· / (k:Int))) ((S a false).map fun m=>-(-m / (k:Int)))) none
 | .mod a k=>cond (Nat.ble 1 k) (cond (aH (bK 0 (S a true)) (bK (1 - k) (S a false))) (S a s) (some (cond s 0 (1 - k)))) none
 | .bit k a=>(match iM k (S a true) (S a false) with
  | some r=>some (cond r (sg s) 0)
  | none=>some (cond s 0 (-1)))
 | .tab l a=>(match S a true,S a false with
  | some lo,some hi=>cond (aH (bt 0 lo) (bt (1 - l.length) hi)) (pX s ((l.drop lo.toNat).take (1 - hi - lo).toNat)) none
  | _,_=>none)
 | .abs a=>cond s (some 0) none
 | _=>none
theorem CF {S:SE→Bool→Option Int} (hS:∀ e s m,S e s = some m→m≤sg s * e.val ρ) {e:SE} {s:Bool} {m:Int} (h:uD S e s = some m):m≤sg s * e.val ρ:=by
 have up:∀ {a:SE} m,S a true = some m→m≤a.val ρ:=fun {a} m h=>by have q:m≤1 * a.val ρ:=hS _ _ _ h; lia
 have dn:∀ {a:SE} m,S a false = some m→m≤-a.val ρ:=fun {a} m h=>by have q:m≤-1 * a.val ρ:=hS _ _ _ h; lia
 have fin:∀ {x:Int},(s = true→m≤x)→(s = false→m≤-x)→m≤sg s * x:=fun {x} p q=>by
  cases s
  ·have:=q rfl; show m≤-1 * x; lia
  ·have:=p rfl; show m≤1 * x; lia
 have pl:∀ {x k:Int},some (cond s 0 k) = some m→0≤x→k≤-x→m≤sg s * x:=fun {x k} e p q=>by
  cases s<;>cases e
  ·exact fin nofun fun _=>q
  ·exact fin (fun _=>p) nofun
 cases e with
 | div a k=>
  rcases eO h with ⟨z,h⟩ | ⟨-,h⟩
  ·have z:(0:Int) < k:=by have:=Nat.le_of_ble_eq_true z; lia
   cases s<;>obtain ⟨n,h1,rfl⟩:=Option.map_eq_some_iff.mp h
   ·have:a.val ρ / (k:Int)≤-n / (k:Int):=Int.ediv_le_ediv z (by have:=dn _ h1; lia)
    exact fin nofun fun _=>by show _≤-(a.val ρ / (k:Int)); lia
   ·exact fin (fun _=>Int.ediv_le_ediv z (up _ h1)) nofun
  ·exact ar h
 | mod a k=>
  rcases eO h with ⟨z,h⟩ | ⟨-,h⟩
  ·have z:(0:Int) < k:=by have:=Nat.le_of_ble_eq_true z; lia
   have b1:=Int.emod_nonneg (a.val ρ) (show (k:Int)≠0 by lia)
   have b2:=Int.emod_lt_of_pos (a.val ρ) z
   show m≤sg s * (a.val ρ % k)
   rcases eO h with ⟨q,h⟩ | ⟨-,h⟩
   ·obtain ⟨q1,q2⟩:=aC q
    have:=cF up q1; have:=cF dn q2
    rw [Int.emod_eq_of_lt (by lia) (by lia)]
    exact hS _ _ _ h
   ·exact pl h b1 (by lia)
  ·exact ar h
 | bit k a=>
  show m≤sg s * (if cQ k (a.val ρ) = true then 1 else 0)
  change (match iM k (S a true) (S a false) with | some r=>some (cond r (sg s) 0) | none=>_) = some m at h
  cases q:iM k (S a true) (S a false) with
  | none=>rw [q] at h; split<;>exact pl h (by decide) (by decide)
  | some r=>
   rw [q] at h
   rw [uB up dn q]
   cases r<;>cases h
   ·show (0:Int)≤sg s * 0; lia
   ·show sg s≤sg s * 1; lia
 | tab l a=>
  change (match S a true,S a false with | some lo,some hi=>_ | _,_=>none) = some m at h
  cases q1:S a true with
  | none=>rw [q1] at h; exact ar h
  | some lo=>
   cases q2:S a false with
   | none=>rw [q1,q2] at h; exact ar h
   | some hi=>
    rw [q1,q2] at h
    rcases eO h with ⟨q,h⟩ | ⟨-,h⟩
    ·have:=dA (aC q).1; have:=dA (aC q).2; have:=up _ q1; have:=dn _ q2
     have z:(a.val ρ).toNat < l.length:=by lia
     refine uC h _ (List.mem_iff_getElem?.mpr ⟨(a.val ρ).toNat - lo.toNat,?_⟩)
     rw [List.getElem?_take_of_lt (by lia),List.getElem?_drop,show lo.toNat + ((a.val ρ).toNat - lo.toNat) = (a.val ρ).toNat by lia,List.getElem?_eq_getElem z]
     show _ = some (l.getD (a.val ρ).toNat 0)
     rw [List.getD_eq_getElem?_getD,List.getElem?_eq_getElem z]; rfl
    ·exact ar h
 | abs a=>
  cases s
  ·exact ar h
  ·cases h
   show (0:Int)≤1 * ((a.val ρ).natAbs:Int)
   lia
 | lit | var | add | mul=>exact ar h
noncomputable def lb (G:Facts):Nat→LF→Option Int
 | 0,_=>none
 | n + 1,l=>jL (gf G l) (pV (fun e s=>jL (gf G [(e,sg s)]) (uD (pW (lb G n)) e s)) l)
theorem uE {G:Facts} (h:Sat ρ G):∀ n l,LB ρ l (lb G n l)
 | 0,_=>fun _ e=>(by exact ar e)
 | n + 1,l=>lP (pU h) (uy fun e s m q=>lP (fun m q=>by
   have:m≤sg s * e.val ρ + 0:=pU h _ q; lia) (fun m=>CF fun e s m=>uz (uE h n)) m q)
noncomputable abbrev bu (G:Facts):SE→Bool→Option Int:=pW (lb G 8)
theorem uF {G:Facts} (h:Sat ρ G) {e:SE} {s:Bool} {m:Int} (q:bu G e s = some m):m≤sg s * e.val ρ:=uz (uE h 8) q
theorem gg {G:Facts} (h:Sat ρ G) {e:SE} {m:Int} (q:bu G e true = some m):m≤e.val ρ:=by have:m≤1 * _:=uF h q; lia
theorem gh {G:Facts} (h:Sat ρ G) {e:SE} {m:Int} (q:bu G e false = some m):m≤-e.val ρ:=by have:m≤-1 * _:=uF h q; lia
noncomputable def cG:SE→Int→Int×LF→Int×LF
 | .lit i,k,a=>(a.1 + k * i,a.2)
 | .add x y,k,a=>cG y k (cG x k a)
 | .mul j x,k,a=>cG x (k * j) a
 | .mod x j,k,a=>(match cG x k a with
  | (c,l)=>(c,ins (.div x j) (k * -(j:Int)) l))
 | e,k,a=>(a.1,ins e k a.2)
theorem jM:∀ (e:SE) (k:Int) (a:Int×LF),(cG e k a).1 + sm ρ (cG e k a).2 = a.1 + sm ρ a.2 + k * e.val ρ
 | .lit i,k,a=>by show a.1 + k * i + sm ρ a.2 = a.1 + sm ρ a.2 + k * i; lia
 | .add x y,k,a=>by
  have h1:=jM y k (cG x k a)
  have h2:=jM x k a
  show (cG y k (cG x k a)).1 + sm ρ (cG y k (cG x k a)).2 = a.1 + sm ρ a.2 + k * (x.val ρ + y.val ρ)
  rw [h1,h2,Int.mul_add]; lia
 | .mul j x,k,a=>by
  have h1:=jM x (k * j) a
  show (cG x (k * j) a).1 + sm ρ (cG x (k * j) a).2 = a.1 + sm ρ a.2 + k * (j * x.val ρ)
  rw [h1,Int.mul_assoc]
 | .mod x j,k,a=>by
  have h1:=jM x k a
  show (cG x k a).1 + sm ρ (ins (.div x j) (k * -(j:Int)) (cG x k a).2) = a.1 + sm ρ a.2 + k * (x.val ρ % (j:Int))
  rw [dC,Int.emod_def,Int.mul_sub,Int.mul_assoc]
  show _ + (k * (-(j:Int) * (x.val ρ / (j:Int))) + _) = _
  rw [Int.neg_mul,Int.mul_neg]; lia
 | .var n,k,a=>by show a.1 + sm ρ (ins (.var n) k a.2) = _; rw [dC]; lia
 | .div x j,k,a=>by show a.1 + sm ρ (ins (.div x j) k a.2) = _; rw [dC]; lia
 | .bit x j,k,a=>by show a.1 + sm ρ (ins (.bit x j) k a.2) = _; rw [dC]; lia
 | .tab x j,k,a=>by show a.1 + sm ρ (ins (.tab x j) k a.2) = _; rw [dC]; lia
 | .abs x,k,a=>by show a.1 + sm ρ (ins (.abs x) k a.2) = _; rw [dC]; lia
noncomputable def pY (e:SE):Option Bool:=match cG e 1 (0,[]) with
 | (c,[])=>some (bg c 0)
 | _=>none
theorem CG {e:SE} {r:Bool} (h:pY e = some r):cQ false (e.val ρ) = r:=by
 have e1:=jM (ρ:=ρ) e 1 (0,[])
 unfold pY at h
 generalize cG e 1 (0,[]) = p at h e1
 obtain ⟨c,l⟩:=p
 cases l with
 | cons=>exact ar h
 | nil=>
  cases h
  change c + 0 = 0 + 0 + 1 * e.val ρ at e1
  rw [gR]
  exact decide_eq_decide.mpr (by lia)
noncomputable def fu (k:Int) (e:SE):SE:=match bg k 1 with
 | true=>e
 | false=>.mul k e
theorem pZ (k:Int) (e:SE):(fu k e).val ρ = k * e.val ρ:=by
 unfold fu
 cases h:bg k 1 with
 | true=>rw [dP h,Int.one_mul]
 | false=>rfl
noncomputable def toS (c:Int):LF→SE
 | []=>.lit c
 | [(e,k)]=>(match bg c 0 with
  | true=>fu k e
  | false=>.add (fu k e) (.lit c))
 | (e,k)::l=>.add (fu k e) (toS c l)
theorem eP (c:Int):∀ l:LF,(toS c l).val ρ = c + sm ρ l
 | []=>(Int.add_zero c).symm
 | [(e,k)]=>by
  show (match bg c 0 with | true=>fu k e | false=>.add (fu k e) (.lit c):SE).val ρ = c + (k * e.val ρ + 0)
  cases h:bg c 0 with
  | true=>rw [dP h,pZ]; lia
  | false=>show (fu k e).val ρ + c = _; rw [pZ]; lia
 | (e,k)::f::l=>by
  show (fu k e).val ρ + (toS c (f::l)).val ρ = c + (k * e.val ρ + sm ρ (f::l))
  rw [pZ,eP c (f::l)]; lia
noncomputable def dD (k:Nat):LF→LF×LF
 | []=>([],[])
 | (e,j)::l=>(match dD k l with
  | (q,r)=>(match bg (j % k) 0 with
   | true=>((e,j / k)::q,r)
   | false=>(q,(e,j)::r)))
theorem uG (k:Nat):∀ l:LF,sm ρ l = k * sm ρ (dD k l).1 + sm ρ (dD k l).2
 | []=>by show (0:Int) = k * 0 + 0; lia
 | (e,j)::l=>by
  have ih:=uG k l
  show j * e.val ρ + sm ρ l = k * sm ρ (match dD k l with | (q,r)=>(match bg (j % k) 0 with | true=>((e,j / k)::q,r) | false=>(q,(e,j)::r))).1 + sm ρ (match dD k l with | (q,r)=>(match bg (j % k) 0 with | true=>((e,j / k)::q,r) | false=>(q,(e,j)::r))).2
  generalize dD k l = p at ih
  obtain ⟨q,r⟩:=p
  dsimp only at ih ⊢
  cases h:bg (j % k) 0 with
  | true=>
   have h:=dP h
   show _ = k * (j / k * e.val ρ + sm ρ q) + sm ρ r
   have:j = k * (j / k):=by have:=Int.emod_add_mul_ediv j k; lia
   rw [Int.mul_add,← Int.mul_assoc,← this]; lia
  | false=>show _ = k * sm ρ q + (j * e.val ρ + sm ρ r); lia
noncomputable def lQ (k:Nat) (lo hi:Option Int):Option Int:=match lo,hi with
 | some a,some b=>(match bt (-b) (k * (a / k) + (k - 1)) with
  | true=>some (a / k)
  | false=>none)
 | _,_=>none
theorem CH {k:Nat} (hk:1≤k) {lo hi:Option Int} {x q:Int} (h1:∀ m,lo = some m→m≤x) (h2:∀ m,hi = some m→m≤-x) (h:lQ k lo hi = some q):k * q≤x∧x < k * q + k:=by
 cases lo with
 | none=>exact ar h
 | some a=>
  cases hi with
  | none=>exact ar h
  | some b=>
   change (match bt (-b) (k * (a / k) + (k - 1)) with | true=>some (a / k) | false=>none) = some q at h
   cases z:bt (-b) (k * (a / k) + (k - 1))<;>rw [z] at h<;>cases h
   have:=dA z
   have:=h1 a rfl
   have:=h2 b rfl
   have:=Int.mul_ediv_self_le (x:=a) (k:=(k:Int)) (by lia)
   lia
noncomputable def jN (G:Facts) (k:Nat) (e:SE):SE:=match bh e 1 (0,[]) with
 | (c,l)=>(match toS (c % k) (dD k l).2 with
  | R=>(match lQ k (bu G R true) (bu G R false) with
   | some q=>toS (c % k - k * q) (dD k l).2
   | none=>.mod R k))
noncomputable def jO (G:Facts) (k:Nat) (e:SE):SE:=match bh e 1 (0,[]) with
 | (c,l)=>(match toS (c % k) (dD k l).2 with
  | R=>(match lQ k (bu G R true) (bu G R false) with
   | some q=>toS (c / k + q) (dD k l).1
   | none=>toS (c / k) ((dD k l).1 ++ [(.div R k,1)])))
theorem uH:∀ (l m:LF),sm ρ (l ++ m) = sm ρ l + sm ρ m
 | [],m=>(Int.zero_add _).symm
 | (e,k)::l,m=>by show k * e.val ρ + sm ρ (l ++ m) = k * e.val ρ + sm ρ l + sm ρ m; rw [uH l m]; lia
theorem lR {G:Facts} (h:Sat ρ G) {k:Nat} (hk:1≤k) (e:SE):(jN G k e).val ρ = e.val ρ % k∧(jO G k e).val ρ = e.val ρ / k:=by
 have e1:=ft (ρ:=ρ) e 1 (0,[])
 unfold jN jO
 generalize bh e 1 (0,[]) = p at e1
 obtain ⟨c,l⟩:=p
 dsimp only
 change c + sm ρ l = 0 + 0 + 1 * e.val ρ at e1
 have e2:=uG (ρ:=ρ) k l
 generalize hR:toS (c % k) (dD k l).2 = R
 have vR:R.val ρ = c % k + sm ρ (dD k l).2:=by rw [← hR,eP]
 have ec:=Int.emod_add_mul_ediv c k
 have key:e.val ρ = R.val ρ + k * (c / k + sm ρ (dD k l).1):=by rw [vR,Int.mul_add]; lia
 have k0:(k:Int)≠0:=by lia
 rw [key,Int.add_mul_emod_self_left,Int.add_mul_ediv_left _ _ k0]
 cases hq:lQ k (bu G R true) (bu G R false) with
 | none=>exact ⟨rfl,by dsimp only; rw [eP,uH]; show c / k + (_ + (1 * (R.val ρ / k) + 0)) = _; lia⟩
 | some q=>
  obtain ⟨i1,i2⟩:=CH hk (fun _=>gg h (e:=R)) (fun _=>gh h (e:=R)) hq
  have e3:R.val ρ = (R.val ρ - k * q) + k * q:=by lia
  have m1:R.val ρ % k = R.val ρ - k * q:=by rw [e3,Int.add_mul_emod_self_left]; exact (Int.emod_eq_of_lt (by lia) (by lia)).trans (by lia)
  have d1:R.val ρ / k = q:=by rw [e3,Int.add_mul_ediv_left _ _ k0,Int.ediv_eq_zero_of_lt (by lia) (by lia)]; lia
  exact ⟨by dsimp only; rw [eP,m1,vR]; lia,by dsimp only; rw [eP,d1]; lia⟩
noncomputable def cS (G:Facts):SE→SE
 | .add a b=>.add (cS G a) (cS G b)
 | .mul c a=>.mul c (cS G a)
 | .mod a k=>cond (Nat.ble 1 k) (jN G k (cS G a)) (.mod a k)
 | .div a k=>cond (Nat.ble 1 k) (jO G k (cS G a)) (.div a k)
 | e=>e
theorem p7 {G:Facts} (h:Sat ρ G) (e:SE):(cS G e).val ρ = e.val ρ:=by
 induction e with
 | add a b ha hb=>show (cS G a).val ρ + (cS G b).val ρ = _; rw [ha,hb]; rfl
 | mul c a ha=>show c * (cS G a).val ρ = _; rw [ha]; rfl
 | mod a k ha=>
  show (cond (Nat.ble 1 k) (jN G k (cS G a)) (.mod a k)).val ρ = a.val ρ % k
  cases q:Nat.ble 1 k with
  | true=>exact ((lR h (Nat.le_of_ble_eq_true q) _).1.trans (by rw [ha]))
  | false=>rfl
 | div a k ha=>
  show (cond (Nat.ble 1 k) (jO G k (cS G a)) (.div a k)).val ρ = a.val ρ / k
  cases q:Nat.ble 1 k with
  | true=>exact ((lR h (Nat.le_of_ble_eq_true q) _).2.trans (by rw [ha]))
  | false=>rfl
 | _=>rfl
noncomputable def jP (c:Int) (l:LF):Facts→Bool
 | []=>false
 | .ne m n::G=>(match aH (gone (-1) l m) (bg (c + n) 0) with
  | true=>true
  | false=>(match aH (gone 1 l m) (bg c n) with
   | true=>true
   | false=>jP c l G))
 | _::G=>jP c l G
theorem p8 {c:Int} {l:LF}:∀ {G:Facts},Sat ρ G→jP c l G = true→c + sm ρ l≠0
 | f::G,h,e=>by
  have hf:=h f (.head _)
  cases f with
  | ge | le=>exact p8 (fun f m=>h f (.tail _ m)) e
  | ne m n=>
   have hf:sm ρ m≠n:=hf
   change (match aH (gone (-1) l m) (bg (c + n) 0) with | true=>true | false=>_) = true at e
   cases q:aH (gone (-1) l m) (bg (c + n) 0)<;>rw [q] at e<;>dsimp only at e
   ·cases q':aH (gone 1 l m) (bg c n)<;>rw [q'] at e
    ·exact p8 (fun f m=>h f (.tail _ m)) e
    ·obtain ⟨a,b⟩:=aC q'; have:=jK (ρ:=ρ) a; have:=dP b; lia
   ·obtain ⟨a,b⟩:=aC q; have:=jK (ρ:=ρ) a; have:=dP b; lia
noncomputable def p9 (c:Int):LF→Bool
 | [(.tab l _,k)]=>aH (bg k 1) (!(bg c 0 || l.any fun x=>bg (c + x) 0))
 | _=>false
theorem CI {c:Int} {l:LF} (h:p9 c l = true):c + sm ρ l≠0:=by
 cases l with
 | nil=>exact aS h
 | cons p t=>?_
 obtain ⟨z,k⟩:=p
 cases z with
 | tab l a=>?_
 | _=>exact aS h
 cases t with
 | cons=>exact aS h
 | nil=>?_
 obtain ⟨h1,h2⟩:=aC h
 obtain rfl:=dP h1
 rw [Bool.not_eq_true',Bool.or_eq_false_iff,gR,beq_eq_false_iff_ne] at h2
 show c + (1 * l.getD (a.val ρ).toNat 0 + 0)≠0
 rw [List.getD_eq_getElem?_getD]
 cases e:l[(a.val ρ).toNat]? with
 | none=>have:=h2.1; show c + (1 * 0 + 0)≠0; lia
 | some x=>
  have:=List.any_eq_false.mp h2.2 x (List.mem_of_getElem? e)
  rw [gR,beq_iff_eq] at this
  show c + (1 * x + 0)≠0; lia
noncomputable def dec (G:Facts) (k:Bool) (e:SE):Option Bool:=match iM k (bu G e true) (bu G e false) with
 | some r=>some r
 | none=>(match k with
  | true=>none
  | false=>(match bh e 1 (0,[]) with
   | (c,l)=>(match (jP c l G || p9 c l) with
    | true=>some false
    | false=>pY e)))
theorem uI {G:Facts} (h:Sat ρ G) {k:Bool} {e:SE} {r:Bool} (q:dec G k e = some r):cQ k (e.val ρ) = r:=by
 unfold dec at q
 cases z:iM k (bu G e true) (bu G e false) with
 | some r'=>rw [z] at q; cases q; exact uB (fun _=>gg h) (fun _=>gh h) z
 | none=>
  rw [z] at q
  cases k with
  | true=>exact ar q
  | false=>
   dsimp only at q
   cases w:(jP (bh e 1 (0,[])).1 (bh e 1 (0,[])).2 G || p9 (bh e 1 (0,[])).1 (bh e 1 (0,[])).2)<;>rw [w] at q
   ·exact CG q
   cases q
   refine decide_eq_false fun z=>((Bool.or_eq_true_iff.mp w).elim (p8 h) CI) ?_
   have:=ft (ρ:=ρ) e 1 (0,[])
   rw [this,z]; rfl
noncomputable def qa (k:Bool) (e:SE) (r:Bool):Facts:=match bh e 1 (0,[]) with
 | (c,l)=>(match k,r with
  | true,true=>[.le l (-c)]
  | true,false=>[.ge l (1 - c)]
  | false,true=>[.le l (-c),.ge l (-c)]
  | false,false=>[.ne l (-c)])
theorem CJ {G:Facts} (h:Sat ρ G) {k:Bool} {e:SE} {r:Bool} (q:cQ k (e.val ρ) = r):Sat ρ (qa k e r ++ G):=by
 have e1:=ft (ρ:=ρ) e 1 (0,[])
 change _ = 0 + 0 + 1 * _ at e1
 refine fun f m=>(List.mem_append.mp m).elim (fun m=>?_) (h f)
 unfold qa at m
 cases k<;>cases r<;>dsimp only at m
 ·obtain rfl:=List.mem_singleton.mp m
  have:=of_decide_eq_false q
  show sm ρ (bh e 1 (0,[])).2≠_; lia
 ·have:=of_decide_eq_true q
  rcases List.mem_cons.mp m with rfl | m
  ·show sm ρ (bh e 1 (0,[])).2≤_; lia
  ·obtain rfl:=List.mem_singleton.mp m; show _≤sm ρ (bh e 1 (0,[])).2; lia
 ·obtain rfl:=List.mem_singleton.mp m
  have:=of_decide_eq_false q
  show _≤sm ρ (bh e 1 (0,[])).2; lia
 ·obtain rfl:=List.mem_singleton.mp m
  have:=of_decide_eq_true q
  show sm ρ (bh e 1 (0,[])).2≤_; lia
end
structure SB where
 k:Bool
 e:SE
 p:Bool
noncomputable def SB.val (ρ:Nat→Int) (B:SB):Bool:=match B.p with
 | true=>cQ B.k (B.e.val ρ)
 | false=>!cQ B.k (B.e.val ρ)
noncomputable def lS (G:Facts) (k:Bool) (e:SE):Option Bool:=match dec G k e with
 | some r=>some r
 | none=>dec G k (cS G e)
theorem CK {ρ:Nat→Int} {G:Facts} (h:Sat ρ G) {k:Bool} {e:SE} {r:Bool} (q:lS G k e = some r):cQ k (e.val ρ) = r:=by
 unfold lS at q
 cases z:dec G k e with
 | some r'=>rw [z] at q; cases q; exact uI h z
 | none=>rw [z] at q; exact p7 h e▸uI h q
noncomputable def eQ (G:Facts) (B:SB):Option Bool:=match lS G B.k B.e with
 | some r=>some (match B.p with
  | true=>r
  | false=>!r)
 | none=>none
theorem jQ {ρ:Nat→Int} {G:Facts} (h:Sat ρ G) {B:SB} {r:Bool} (q:eQ G B = some r):B.val ρ = r:=by
 unfold eQ at q
 cases z:lS G B.k B.e with
 | none=>rw [z] at q; exact ar q
 | some t=>
  rw [z] at q
  have:=CK h z
  unfold SB.val
  rw [this]
  exact Option.some.inj q
end Mine
end
section
set_option backward.match.sparseCases false
open PySem PySem.W PyProof.Rows PySem.Calls
namespace Mine
noncomputable def aP:List (Addr×Obj)→Addr→Option Obj
 | [],_=>none
 | p::l,a=>match Nat.beq p.1 a with
  | true=>some p.2
  | false=>aP l a
structure PS where
 kn:List (Addr×Obj)
 n:Nat
 gens:Array GenState
 drawn:Drawn
 toks:Nat
 up:List Addr
noncomputable def PS.sh (P:PS) (h:Heap) (os:OsState):Shared:=⟨h,P.gens,P.drawn,P.toks,os⟩
structure Rep (P:PS) (h:Heap):Prop where
 kn:∀ a o,aP P.kn a = some o→h.get? a = some o
 n:h.objs.size = P.n
noncomputable def eR (st:Shared→Thread→Step) (os:OsState):PS→Thread→Option (PS×Thread)
 | ⟨kn,n,gens,drawn,toks,up⟩,⟨cur,code,pos,stack⟩=>match cur with
  | .load a _ k=>(match aP kn a with
   | some o=>some (⟨kn,n,gens,drawn,toks,up⟩,⟨k o,code,pos,stack⟩)
   | none=>none)
  | .update a _ f k=>(match aP kn a with
   | some o=>(match (f o).isFreed with
    | false=>some (⟨(a,f o)::kn,n,gens,drawn,toks,a::up⟩,⟨k (),code,pos,stack⟩)
    | true=>none)
   | none=>none)
  | .alloc o k=>(match o.isFreed with
   | false=>some (⟨(n,o)::kn,n + 1,gens,drawn,toks,up⟩,⟨k n,code,pos,stack⟩)
   | true=>none)
  | .loadIfAlive _ _=>none
  | c=>match st ⟨{},gens,drawn,toks,os⟩ ⟨c,code,pos,stack⟩ with
   | .go s' t'=>some (⟨kn,n,s'.gens,s'.drawn,s'.toks,up⟩,t')
   | .halt _ _=>none
noncomputable def CL (up:List Addr) (h h':Heap):Prop:=∀ b o,b∉up→h.get? b = some o→h'.get? b = some o
section
variable {den:Code→Sem Fin} {p:Program} {w:World} {os:OsState}
theorem iN {a b:Addr} {o:Obj} {l:List (Addr×Obj)}:aP ((a,o)::l) b = if a = b then some o else aP l b:=by
 show (match Nat.beq a b with | true=>some o | false=>aP l b) = _
 rw [BT.beq_eq]
 by_cases h:a = b<;>simp [h]
structure eU (P P':PS) (h h':Heap):Prop where
 rep:Rep P' h'
 life:h'.life = h.life
 up:∃ m,P'.up = m ++ P.up
 kept:CL P'.up h h'
theorem eU.refl {P:PS} {h:Heap} (R:Rep P h):eU P P h h:=⟨R,rfl,⟨[],rfl⟩,fun _ _ _ e=>e⟩
theorem eU.trans {P P' P'':PS} {h h' h'':Heap} (a:eU P P' h h') (b:eU P' P'' h' h''):eU P P'' h h'':=by
 obtain ⟨m,e⟩:=a.up
 obtain ⟨n,e'⟩:=b.up
 exact ⟨b.rep,b.life.trans a.life,⟨n ++ m,by rw [e',e,List.append_assoc]⟩,fun x o k q=>b.kept x o k (a.kept x o (fun m=>k (by rw [e']; exact List.mem_append_right _ m)) q)⟩
structure uJ (P P':PS) (h:Heap) (s':Shared):Prop where
 gens:s'.gens = P'.gens
 drawn:s'.drawn = P'.drawn
 toks:s'.toks = P'.toks
 k:eU P P' h s'.heap
noncomputable def qb {α:Type}:Sem α→Bool
 | .load .. | .update .. | .alloc .. | .loadIfAlive ..=>false
 | _=>true
theorem Rep.cons {P:PS} {h h':Heap} {a n:Nat} {o:Obj} {g:Array GenState} {d:Drawn} {tk:Nat} {up:List Addr} (R:Rep P h) (ge:h'.get? a = some o) (hn:h'.objs.size = n) (hs:∀ b o,a≠b→h.get? b = some o→h'.get? b = some o):Rep ⟨(a,o)::P.kn,n,g,d,tk,up⟩ h':=⟨fun b o' e=>by
 rw [iN] at e
 by_cases q:a = b
 ·subst q; rw [if_pos rfl] at e; cases e; exact ge
 ·rw [if_neg q] at e; exact hs b o' q (R.kn b o' e),hn⟩
theorem CM {P P':PS} {t t':Thread} {h:Heap} (R:Rep P h) (hc:qb t.cur = true) (e:(match step den p w ⟨{},P.gens,P.drawn,P.toks,os⟩ t with
   | .go s' t'=>some ((⟨P.kn,P.n,s'.gens,s'.drawn,s'.toks,P.up⟩:PS),t')
   | .halt _ _=>none) = some (P',t')):∃ s',step den p w (P.sh h os) t = .go s' t'∧uJ P P' h s':=by
 obtain ⟨cur,code,pos,stack⟩:=t
 cases q:step den p w ⟨{},P.gens,P.drawn,P.toks,os⟩ ⟨cur,code,pos,stack⟩ with
 | halt o s=>rw [q] at e; cases e
 | go s₀ t₀=>
  rw [q] at e
  cases e
  have no:∀ {x:Sem Fin},qb x = false→cur≠x:=fun hx z=>by
   have hc:qb cur = true:=hc
   rw [z,hx] at hc; cases hc
  exact ⟨_,step_heap (fun _ _ _=>no rfl) (fun _ _ _ _=>no rfl) (fun _ _=>no rfl) (fun _ _=>no rfl) q,rfl,rfl,rfl,⟨R.kn,R.n⟩,rfl,⟨[],rfl⟩,fun _ _ _ e=>e⟩
set_option tactic.hygienic true in
theorem CN {P P':PS} {t t':Thread} {h:Heap} (R:Rep P h) (e:eR (step den p w) os P t = some (P',t')):∃ s',step den p w (P.sh h os) t = .go s' t'∧uJ P P' h s':=by
 obtain ⟨kn,n,gens,drawn,toks,up⟩:=P
 obtain ⟨cur,code,pos,stack⟩:=t
 cases cur with
 | load a q k=>
  unfold eR at e
  dsimp only at e
  split at e
  ·rename_i o ho
   cases e
   have g:=R.kn a o ho
   exact ⟨PS.sh ⟨kn,n,gens,drawn,toks,up⟩ h os,by simp only [PS.sh,step,g],rfl,rfl,rfl,.refl R⟩
  ·cases e
 | update a q f k=>
  unfold eR at e
  dsimp only at e
  split at e
  ·rename_i o ho
   split at e
   ·rename_i hf
    cases e
    have g:=R.kn a o ho
    have hs:Heap.SameBut a h (h.update a f):=Heap.SameBut.update ..
    have ge:(h.update a f).get? a = some (f o):=by first | exact Heap.get?_update_self f g hf | exact Heap.get?_update_self _ g hf
    exact ⟨⟨h.update a f,gens,drawn,toks,os⟩,by simp only [PS.sh,step,g,Option.isSome_some,if_true],rfl,rfl,rfl,R.cons ge (hs.1.trans R.n) fun b o' z e=>(hs.2 b (Ne.symm z)).trans e,by cases h; rfl,⟨[a],rfl⟩,fun b o' hb e=>(hs.2 b (fun q=>hb (by rw [q]; exact .head _))).trans e⟩
   ·cases e
  ·cases e
 | alloc o k=>
  unfold eR at e
  dsimp only at e
  split at e
  ·rename_i hf
   cases e
   have hn:h.objs.size = n:=R.n
   exact ⟨⟨h.push o,gens,drawn,toks,os⟩,by simp only [PS.sh,step,hn],rfl,rfl,rfl,R.cons (hn▸Heap.get?_push_size _ hf) (by rw [Heap.size_push,hn]) fun b o' _ e=>Heap.get?_push_of_some _ e,by cases h; rfl,⟨[],rfl⟩,fun b o' _ e=>Heap.get?_push_of_some _ e⟩
  ·cases e
 | loadIfAlive a k=>unfold eR at e; cases e
 | _=>exact CM R rfl e
end
noncomputable def lT (st:Shared→Thread→Step) (ok:Thread→Bool) (os:OsState) (b:Nat):Nat→PS→Thread→Option (Flow×PS×Code×Pos)
 | 0,_,_=>none
 | n + 1,P,t=>match endAt b t with
  | some f=>some (f,P,t.code,t.pos)
  | none=>match ok t with
   | false=>none
   | true=>match eR st os P t with
    | some (P',t')=>lT st ok os b n P' t'
    | none=>none
theorem uK {tb:String→Option Builtin} {p:Program} {w:World} {n₀:Nat} {ann:Option Value} {os:OsState} {P P':PS} {t t':Thread} {h:Heap} (R:Rep P h) (hk:stepOk n₀ ann t = true) (e:eR (step (denote tb) p w) os P t = some (P',t')):∃ h',step (denote tb) p w (P.sh h os) t = .go (P'.sh h' os) t'∧eU P P' h h':=by
 obtain ⟨s',a,S⟩:=CN R e
 have os2:s'.os = os:=step_os_same a (by revert hk; unfold stepOk; cases t.cur<;>first | exact fun _=>rfl | exact fun h=>(Bool.and_eq_true_iff.mp h).2)
 obtain ⟨hh,g,d,tk,o⟩:=s'
 obtain ⟨rfl,rfl,rfl,K⟩:=S
 cases os2
 exact ⟨hh,a,K⟩
theorem uL {tb:String→Option Builtin} {p:Program} {w:World} {n₀:Nat} {ann:Option Value} {os:OsState} {b:Nat}:∀ {n:Nat} {P P':PS} {t:Thread} {f:Flow} {c:Code} {q:Pos} {h:Heap},Rep P h→
  lT (step (denote tb) p w) (stepOk n₀ ann) os b n P t = some (f,P',c,q)→∃ h',segRun tb p w n₀ ann b n (P.sh h os) t = some (f,P'.sh h' os,c,q)∧eU P P' h h'
 | 0,_,_,_,_,_,_,_,_,e=>by cases e
 | n + 1,P,P',t,f,c,q,h,R,e=>by
  unfold lT at e
  unfold segRun
  cases he:endAt b t with
  | some x=>rw [he] at e; cases e; exact ⟨h,rfl,.refl R⟩
  | none=>
   rw [he] at e
   cases hk:stepOk n₀ ann t with
   | false=>rw [hk] at e; cases e
   | true=>
    rw [hk] at e
    cases hs:eR (step (denote tb) p w) os P t with
    | none=>rw [hs] at e; cases e
    | some r=>
     rw [hs] at e
     obtain ⟨h₂,a,K⟩:=uK R hk hs
     obtain ⟨h',z,K'⟩:=uL K.rep e
     dsimp only
     rw [a]
     exact ⟨h',z,K.trans K'⟩
end Mine
end
section
set_option backward.match.sparseCases false
open PySem PySem.W PyProof.Rows PySem.Calls
set_option maxRecDepth 100000
set_option maxHeartbeats 0
namespace Mine
noncomputable abbrev pw:Program:=PySem.Challenge.pw_nn0086_01
noncomputable def BD:List Stmt:=pw.main.body
noncomputable def ae (k:Nat):Stmt:=BD.getD k default
noncomputable def az (k j:Nat):Stmt:=match ae k with
 | .ClassDef _ _ _ b _ _ _ _ _ _ _=>b.getD j default
 | _=>default
noncomputable def lU (k m:Nat):List Stmt:=(BD.drop k).take m
noncomputable def en (P:Params) (x:Str) (t:Tok) (v:Value):DictEntry:=⟨PyData.keyHash P x,.str x t,v⟩
noncomputable def bC (nm:Value) (l:List DictEntry) (P:Params):List DictEntry:=en P ⟨#[95,95,110,97,109,101,95,95]⟩ 165 nm::l
noncomputable def bD (l:List DictEntry) (ep:Nat):Obj:=⟨.type "dict",none,.dict l.toArray ep,#[]⟩
noncomputable def bw (l:List Value):Obj:=⟨.none,none,.fields l.toArray,#[]⟩
noncomputable def fo (st:Stmt) (q:Str) (dV cd pm:Value):Obj:=match st with
 | .FunctionDef name params body _ _ _ scope _ _ _=>⟨.type "function",none,.func { name:=name,qualname:=q,params:=params,body:=.stmts body,scope:=scope,globals:=mainGlobals,closure:=[],defaults:=dV,kwdefaults:=.none,pyModule:=pm,code:=cd,builtins:=builtinsNs },#[]⟩
 | _=>default
noncomputable def uM:Obj:=⟨.type "code",none,.fields #[.str ⟨#[60,109,111,100,117,108,101,62]⟩ 182,.str ⟨#[60,109,111,100,117,108,101,62]⟩ 183,.str ⟨#[47,99,108,97,105,109,47,99,117,116,46,112,121]⟩ 184,.int 1 0,.int 0 0,.int 0 0,.int 0 0,.int 0 0,.ref 11,.bool false,.int 181 0,.ref 12,.none,.none,.none,.none,.int 185 0,.int 1 0,.str ⟨#[47,99,108,97,105,109,47,99,117,116,46,112,121]⟩ 186],#[]⟩
noncomputable def jS:Env:={ scope:=pw.main.scope,locals:=mainNs,globals:=mainNs,cells:=[],code:=.ref 13,frame:=some 14 }
noncomputable def cT:Code:=.body BD jS
noncomputable def q0:Pos:=⟨0,0,0,0⟩
noncomputable def lV (w:World):Shared→Thread→Step:=Fast.tw8437177126325714943 (Fast.tw11892475500146522536 Fast.tw14364793385576792824) pw w
noncomputable def lW:Thread→Bool:=Fast.tw6613529449190102663 11 (some (.ref 6))
noncomputable def uN (d:Data):Option (Array Value):=match d with
 | .fields vs=>some vs
 | _=>none
noncomputable def uO (v:Value):Option Str:=match v with
 | .str x _=>some x
 | _=>none
noncomputable def qc (o:Option Obj):Option Str:=(o.bind fun o=>uN o.data).bind fun vs=>(vs[1]?:Option Value).bind uO
noncomputable def a0 (p:Addr×Obj):Option (Addr×Str):=match p.2.data with
 | .func fd=>(match fd.code with
  | .ref c=>some (c,fd.qualname)
  | _=>none)
 | _=>none
noncomputable def sel (l:List (Addr×Obj)):List Addr→List (Addr×Obj)
 | []=>[]
 | a::r=>match aP l a with
  | some o=>(a,o)::sel l r
  | none=>sel l r
noncomputable def look (n:Nat) (ua:List Addr) (X:List (Addr×Obj)) (r:Flow×PS×Code×Pos):Flow×Nat×Array GenState×Drawn×Nat×Code×Pos×Bool×List (Option Obj)×List (Option Str):=match r with
 | (f,P,c,q)=>(f,P.n,P.gens,P.drawn,P.toks,c,q,P.up.all (fun a=>Nat.ble n a || ua.contains a) && ua.all (fun a=>(aP X a).isSome),
   X.map (fun p=>aP P.kn p.1),(X.filterMap a0).map fun c=>qc (aP P.kn c.1))
noncomputable abbrev bz (w:World) (os:OsState) (_g:Nat) (F X:List (Addr×Obj)) (olds ua:List Addr) (st m N n n' t t':Nat) (q q':Pos):Prop:=
 (lT (lV w) lW os 1 N ⟨sel F olds,n,#[],boot_drawn,t,[]⟩ (piecesOf (lU st m) jS cT q [topFrame q0])).map (look n ua X) =
  some (.next,n',#[],boot_drawn,t',cT,q',true,X.map (fun p=>some p.2),(X.filterMap a0).map fun c=>some c.2)
noncomputable def gU (P:Params):List (Addr×Obj):=[(0,boot_o_0 P),(1,boot_o_1 P),(2,boot_o_2 P),(3,boot_o_3 P),(4,boot_o_4 P),(5,boot_o_5 P),(6,boot_o_6 P),(12,bw []),(13,uM)]
noncomputable def CO (P:Params):List DictEntry:=[en P ⟨#[95,95,100,111,99,95,95]⟩ 166 .none,en P ⟨#[95,95,112,97,99,107,97,103,101,95,95]⟩ 167 .none,en P ⟨#[95,95,108,111,97,100,101,114,95,95]⟩ 168 (.builtin "__main__.__loader__#opaque"),en P ⟨#[95,95,115,112,101,99,95,95]⟩ 169 .none,en P ⟨#[95,95,97,110,110,111,116,97,116,105,111,110,115,95,95]⟩ 170 (.ref 6),en P ⟨#[95,95,98,117,105,108,116,105,110,115,95,95]⟩ 171 (.ref 4),en P ⟨#[95,95,102,105,108,101,95,95]⟩ 173 (.str ⟨#[47,99,108,97,105,109,47,99,117,116,46,112,121]⟩ 172),en P ⟨#[95,95,99,97,99,104,101,100,95,95]⟩ 174 .none]
noncomputable def CP:List Value:=[]
noncomputable def uP (P:Params):List DictEntry:=(CO P).append [en P ⟨#[95,119,97,108,108]⟩ 193 (.ref 21),en P ⟨#[77,105,110,116,69,114,114,111,114]⟩ 233 (.ref 46)]
noncomputable def uQ:List Value:=CP.append [(.int (1) 0),(.int (0) 0),(.ref 20),(.int (5) 0),(.int (0) 0),(.ref 27)]
noncomputable def uR (P:Params):List (Addr×Obj):=[(2,⟨.none,none,.dict [en P ⟨#[116,121,112,101,46,95,95,115,117,98,99,108,97,115,115,101,115,95,95,46,69,120,99,101,112,116,105,111,110,46,48]⟩ 230 (.int (46) 0),en P ⟨#[116,121,112,101,46,95,95,115,117,98,99,108,97,115,115,101,115,95,95,46,69,120,99,101,112,116,105,111,110,46,110]⟩ 231 (.int (1) 0)].toArray 2,#[]⟩),
 (3,bD (bC (.str ⟨#[111,99,116,101,116,109,105,110,116,46,98,97,115,105,99,115]⟩ 194) (uP P) P) 11),
 (12,bw uQ),
 (21,(fo (ae 0) ⟨#[95,119,97,108,108]⟩ .none (.ref 20) (.str ⟨#[95,95,109,97,105,110,95,95]⟩ 164))),
 (29,⟨(.type "tuple"),none,.seq [.none].toArray 0,#[]⟩),
 (36,(fo (az 2 0) ⟨#[77,105,110,116,69,114,114,111,114,46,95,95,105,110,105,116,95,95]⟩ (.ref 29) (.ref 35) (.str ⟨#[111,99,116,101,116,109,105,110,116,46,98,97,115,105,99,115]⟩ 194))),
 (43,(fo (az 2 1) ⟨#[77,105,110,116,69,114,114,111,114,46,116,111,108,100]⟩ .none (.ref 42) (.str ⟨#[111,99,116,101,116,109,105,110,116,46,98,97,115,105,99,115]⟩ 194))),
 (45,⟨(.type "dict"),none,.dict [en P ⟨#[95,95,109,111,100,117,108,101,95,95]⟩ 203 (.str ⟨#[111,99,116,101,116,109,105,110,116,46,98,97,115,105,99,115]⟩ 194),en P ⟨#[95,95,102,105,114,115,116,108,105,110,101,110,111,95,95]⟩ 207 (.int (5) 206),en P ⟨#[95,95,105,110,105,116,95,95]⟩ 216 (.ref 36),en P ⟨#[116,111,108,100]⟩ 223 (.ref 43),en P ⟨#[95,95,115,116,97,116,105,99,95,97,116,116,114,105,98,117,116,101,115,95,95]⟩ 226 (.ref 44),en P ⟨#[95,95,119,101,97,107,114,101,102,95,95]⟩ 228 (.ref 47),en P ⟨#[95,95,100,111,99,95,95]⟩ 229 .none].toArray 3,#[]⟩),
 (46,⟨(.type "type"),none,.cls ⟨⟨#[77,105,110,116,69,114,114,111,114]⟩,[(.type "Exception")],[(.ref 46),(.type "Exception"),(.type "BaseException"),(.type "object")],45,⟨#[77,105,110,116,69,114,114,111,114]⟩,true,[],[],false,none,false⟩,[(some (.ref 22)),none,(some (.str ⟨#[77,105,110,116,69,114,114,111,114]⟩ 196)),(some (.str ⟨#[77,105,110,116,69,114,114,111,114]⟩ 204)),(some (.builtin "Exception.__new__")),(some (.bool true))].toArray⟩)]
noncomputable def lY (P:Params):List (Addr×Obj):=uR P ++ gU P
theorem CQ (w:World) (os:OsState):bz w os 0 (gU w.params) (uR w.params) [2,0,4,3,12,13] [2,3,12] 0 3 301 15 50 187 234 ⟨0,0,0,0⟩ ⟨5,0,15,29⟩:=by kernel_rfl
noncomputable def uS (P:Params):List DictEntry:=(uP P).append [en P ⟨#[79,112,101,114,97,110,100,69,114,114,111,114]⟩ 249 (.ref 59)]
noncomputable def uT:List Value:=uQ.append [(.int (16) 0),(.int (0) 0),(.ref 55)]
noncomputable def uU (P:Params):List (Addr×Obj):=[(46,⟨(.type "type"),none,.cls ⟨⟨#[77,105,110,116,69,114,114,111,114]⟩,[(.type "Exception")],[(.ref 46),(.type "Exception"),(.type "BaseException"),(.type "object")],45,⟨#[77,105,110,116,69,114,114,111,114]⟩,true,[],[(.ref 59)],false,none,false⟩,[(some (.ref 22)),none,(some (.str ⟨#[77,105,110,116,69,114,114,111,114]⟩ 196)),(some (.str ⟨#[77,105,110,116,69,114,114,111,114]⟩ 204)),(some (.builtin "Exception.__new__")),(some (.bool true))].toArray⟩),
 (3,bD (bC (.str ⟨#[111,99,116,101,116,109,105,110,116,46,98,97,115,105,99,115]⟩ 194) (uS P) P) 12),
 (12,bw uT),
 (58,⟨(.type "dict"),none,.dict [en P ⟨#[95,95,109,111,100,117,108,101,95,95]⟩ 241 (.str ⟨#[111,99,116,101,116,109,105,110,116,46,98,97,115,105,99,115]⟩ 194),en P ⟨#[95,95,102,105,114,115,116,108,105,110,101,110,111,95,95]⟩ 245 (.int (16) 244),en P ⟨#[95,95,115,116,97,116,105,99,95,97,116,116,114,105,98,117,116,101,115,95,95]⟩ 246 (.ref 57),en P ⟨#[95,95,100,111,99,95,95]⟩ 247 .none].toArray 2,#[]⟩),
 (59,⟨(.type "type"),none,.cls ⟨⟨#[79,112,101,114,97,110,100,69,114,114,111,114]⟩,[(.ref 46)],[(.ref 59),(.ref 46),(.type "Exception"),(.type "BaseException"),(.type "object")],58,⟨#[79,112,101,114,97,110,100,69,114,114,111,114]⟩,true,[],[],false,none,false⟩,[(some (.ref 50)),none,(some (.str ⟨#[79,112,101,114,97,110,100,69,114,114,111,114]⟩ 234)),(some (.str ⟨#[79,112,101,114,97,110,100,69,114,114,111,114]⟩ 242)),(some (.builtin "Exception.__new__")),(some (.bool true))].toArray⟩)]
noncomputable def lZ (P:Params):List (Addr×Obj):=uU P ++ lY P
theorem CR (w:World) (os:OsState):bz w os 1 (lY w.params) (uU w.params) [45,2,4,12,13,46,3,0] [3,46,12] 3 1 214 50 62 234 250 ⟨5,0,15,29⟩ ⟨16,0,17,8⟩:=by kernel_rfl
noncomputable def uV (P:Params):List DictEntry:=(uS P).append [en P ⟨#[69,110,99,111,100,101,69,114,114,111,114]⟩ 265 (.ref 71),en P ⟨#[109,97,115,107]⟩ 272 (.ref 80),en P ⟨#[119,114,97,112]⟩ 280 (.ref 87),en P ⟨#[115,105,103,110,101,100]⟩ 289 (.ref 94),en P ⟨#[102,105,116,115,95,115,105,103,110,101,100]⟩ 298 (.ref 101),en P ⟨#[102,105,116,115,95,117,110,115,105,103,110,101,100]⟩ 306 (.ref 108),en P ⟨#[102,105,116,115,95,101,105,116,104,101,114]⟩ 314 (.ref 115)]
noncomputable def uW:List Value:=uT.append [(.int (18) 0),(.int (0) 0),(.ref 67),(.int (20) 0),(.int (0) 0),(.ref 79),(.int (22) 0),(.int (0) 0),(.ref 86),(.int (24) 0),(.int (0) 0),(.ref 93),(.int (29) 0),(.int (0) 0),(.ref 100),(.int (32) 0),(.int (0) 0),(.ref 107),(.int (34) 0),(.int (0) 0),(.ref 114)]
noncomputable def uX (P:Params):List (Addr×Obj):=[(46,⟨(.type "type"),none,.cls ⟨⟨#[77,105,110,116,69,114,114,111,114]⟩,[(.type "Exception")],[(.ref 46),(.type "Exception"),(.type "BaseException"),(.type "object")],45,⟨#[77,105,110,116,69,114,114,111,114]⟩,true,[],[(.ref 59),(.ref 71)],false,none,false⟩,[(some (.ref 22)),none,(some (.str ⟨#[77,105,110,116,69,114,114,111,114]⟩ 196)),(some (.str ⟨#[77,105,110,116,69,114,114,111,114]⟩ 204)),(some (.builtin "Exception.__new__")),(some (.bool true))].toArray⟩),
 (3,bD (bC (.str ⟨#[111,99,116,101,116,109,105,110,116,46,98,97,115,105,99,115]⟩ 194) (uV P) P) 19),
 (12,bw uW),
 (70,⟨(.type "dict"),none,.dict [en P ⟨#[95,95,109,111,100,117,108,101,95,95]⟩ 257 (.str ⟨#[111,99,116,101,116,109,105,110,116,46,98,97,115,105,99,115]⟩ 194),en P ⟨#[95,95,102,105,114,115,116,108,105,110,101,110,111,95,95]⟩ 261 (.int (18) 260),en P ⟨#[95,95,115,116,97,116,105,99,95,97,116,116,114,105,98,117,116,101,115,95,95]⟩ 262 (.ref 69),en P ⟨#[95,95,100,111,99,95,95]⟩ 263 .none].toArray 2,#[]⟩),
 (71,⟨(.type "type"),none,.cls ⟨⟨#[69,110,99,111,100,101,69,114,114,111,114]⟩,[(.ref 46)],[(.ref 71),(.ref 46),(.type "Exception"),(.type "BaseException"),(.type "object")],70,⟨#[69,110,99,111,100,101,69,114,114,111,114]⟩,true,[],[],false,none,false⟩,[(some (.ref 62)),none,(some (.str ⟨#[69,110,99,111,100,101,69,114,114,111,114]⟩ 250)),(some (.str ⟨#[69,110,99,111,100,101,69,114,114,111,114]⟩ 258)),(some (.builtin "Exception.__new__")),(some (.bool true))].toArray⟩),
 (80,(fo (ae 5) ⟨#[109,97,115,107]⟩ .none (.ref 79) (.str ⟨#[111,99,116,101,116,109,105,110,116,46,98,97,115,105,99,115]⟩ 194))),
 (87,(fo (ae 6) ⟨#[119,114,97,112]⟩ .none (.ref 86) (.str ⟨#[111,99,116,101,116,109,105,110,116,46,98,97,115,105,99,115]⟩ 194))),
 (94,(fo (ae 7) ⟨#[115,105,103,110,101,100]⟩ .none (.ref 93) (.str ⟨#[111,99,116,101,116,109,105,110,116,46,98,97,115,105,99,115]⟩ 194))),
 (101,(fo (ae 8) ⟨#[102,105,116,115,95,115,105,103,110,101,100]⟩ .none (.ref 100) (.str ⟨#[111,99,116,101,116,109,105,110,116,46,98,97,115,105,99,115]⟩ 194))),
 (108,(fo (ae 9) ⟨#[102,105,116,115,95,117,110,115,105,103,110,101,100]⟩ .none (.ref 107) (.str ⟨#[111,99,116,101,116,109,105,110,116,46,98,97,115,105,99,115]⟩ 194))),
 (115,(fo (ae 10) ⟨#[102,105,116,115,95,101,105,116,104,101,114]⟩ .none (.ref 114) (.str ⟨#[111,99,116,101,116,109,105,110,116,46,98,97,115,105,99,115]⟩ 194)))]
noncomputable def l5 (P:Params):List (Addr×Obj):=uX P ++ lZ P
theorem CS (w:World) (os:OsState):bz w os 2 (lZ w.params) (uX w.params) [45,2,4,12,13,46,3,0] [3,46,12] 4 7 395 62 116 250 315 ⟨16,0,17,8⟩ ⟨34,0,35,50⟩:=by kernel_rfl
noncomputable def uY (P:Params):List DictEntry:=(uV P).append [en P ⟨#[108,105,116,116,108,101]⟩ 325 (.ref 122),en P ⟨#[67,79,78,68,73,84,73,79,78,83]⟩ 329 (.str ⟨#[111,32,110,111,32,98,32,97,101,32,101,32,110,101,32,98,101,32,97,32,115,32,110,115,32,112,32,110,112,32,108,32,103,101,32,108,101,32,103]⟩ 328),en P ⟨#[76,79,67,75,69,68]⟩ 331 (.str ⟨#[97,100,100,32,97,100,99,32,97,110,100,32,111,114,32,115,98,98,32,115,117,98,32,120,111,114,32,105,110,99,32,100,101,99,32,110,101,103,32,110,111,116,32,120,99,104,103,32,120,97,100,100,32,99,109,112,120,99,104,103,32,98,116,115,32,98,116,114,32,98,116,99]⟩ 330),en P ⟨#[77,79,86,69,68]⟩ 333 (.str ⟨#[109,111,118,115,98,32,109,111,118,115,119,32,109,111,118,115,100,32,109,111,118,115,113,32,115,116,111,115,98,32,115,116,111,115,119,32,115,116,111,115,100,32,115,116,111,115,113,32,108,111,100,115,98,32,108,111,100,115,119,32,108,111,100,115,100,32,108,111,100,115,113]⟩ 332),en P ⟨#[67,79,77,80,65,82,69,68]⟩ 335 (.str ⟨#[99,109,112,115,98,32,99,109,112,115,119,32,99,109,112,115,100,32,99,109,112,115,113,32,115,99,97,115,98,32,115,99,97,115,119,32,115,99,97,115,100,32,115,99,97,115,113]⟩ 334),en P ⟨#[99,111,110,100,105,116,105,111,110,95,110,97,109,101,115]⟩ 341 (.ref 129),en P ⟨#[105,115,95,102,105,120,101,100]⟩ 348 (.ref 136),en P ⟨#[105,115,95,105,109,109,101,100,105,97,116,101]⟩ 355 (.ref 143),en P ⟨#[105,115,95,114,101,108,97,116,105,118,101]⟩ 362 (.ref 150),en P ⟨#[116,97,107,101,115,95,109,101,109,111,114,121]⟩ 369 (.ref 157),en P ⟨#[107,105,110,100,95,115,105,122,101]⟩ 376 (.ref 164),en P ⟨#[107,105,110,100,95,119,105,100,116,104]⟩ 383 (.ref 171),en P ⟨#[115,108,111,116,95,111,102]⟩ 390 (.ref 178),en P ⟨#[116,97,107,101,115,95,114,101,103,105,115,116,101,114]⟩ 398 (.ref 185),en P ⟨#[116,97,107,101,115,95,119,111,114,116,104]⟩ 408 (.ref 192)]
noncomputable def uZ:List Value:=uW.append [(.int (36) 0),(.int (0) 0),(.ref 121),(.int (48) 0),(.int (0) 0),(.ref 128),(.int (50) 0),(.int (0) 0),(.ref 135),(.int (52) 0),(.int (0) 0),(.ref 142),(.int (54) 0),(.int (0) 0),(.ref 149),(.int (56) 0),(.int (0) 0),(.ref 156),(.int (58) 0),(.int (0) 0),(.ref 163),(.int (66) 0),(.int (0) 0),(.ref 170),(.int (72) 0),(.int (0) 0),(.ref 177),(.int (82) 0),(.int (0) 0),(.ref 184),(.int (92) 0),(.int (0) 0),(.ref 191)]
noncomputable def u5 (P:Params):List (Addr×Obj):=[(3,bD (bC (.str ⟨#[111,99,116,101,116,109,105,110,116,46,102,111,114,109,115]⟩ 326) (uY P) P) 34),
 (12,bw uZ),
 (122,(fo (ae 11) ⟨#[108,105,116,116,108,101]⟩ .none (.ref 121) (.str ⟨#[111,99,116,101,116,109,105,110,116,46,98,97,115,105,99,115]⟩ 194))),
 (129,(fo (ae 17) ⟨#[99,111,110,100,105,116,105,111,110,95,110,97,109,101,115]⟩ .none (.ref 128) (.str ⟨#[111,99,116,101,116,109,105,110,116,46,102,111,114,109,115]⟩ 326))),
 (136,(fo (ae 18) ⟨#[105,115,95,102,105,120,101,100]⟩ .none (.ref 135) (.str ⟨#[111,99,116,101,116,109,105,110,116,46,102,111,114,109,115]⟩ 326))),
 (143,(fo (ae 19) ⟨#[105,115,95,105,109,109,101,100,105,97,116,101]⟩ .none (.ref 142) (.str ⟨#[111,99,116,101,116,109,105,110,116,46,102,111,114,109,115]⟩ 326))),
 (150,(fo (ae 20) ⟨#[105,115,95,114,101,108,97,116,105,118,101]⟩ .none (.ref 149) (.str ⟨#[111,99,116,101,116,109,105,110,116,46,102,111,114,109,115]⟩ 326))),
 (157,(fo (ae 21) ⟨#[116,97,107,101,115,95,109,101,109,111,114,121]⟩ .none (.ref 156) (.str ⟨#[111,99,116,101,116,109,105,110,116,46,102,111,114,109,115]⟩ 326))),
 (164,(fo (ae 22) ⟨#[107,105,110,100,95,115,105,122,101]⟩ .none (.ref 163) (.str ⟨#[111,99,116,101,116,109,105,110,116,46,102,111,114,109,115]⟩ 326))),
 (171,(fo (ae 23) ⟨#[107,105,110,100,95,119,105,100,116,104]⟩ .none (.ref 170) (.str ⟨#[111,99,116,101,116,109,105,110,116,46,102,111,114,109,115]⟩ 326))),
 (178,(fo (ae 24) ⟨#[115,108,111,116,95,111,102]⟩ .none (.ref 177) (.str ⟨#[111,99,116,101,116,109,105,110,116,46,102,111,114,109,115]⟩ 326))),
 (185,(fo (ae 25) ⟨#[116,97,107,101,115,95,114,101,103,105,115,116,101,114]⟩ .none (.ref 184) (.str ⟨#[111,99,116,101,116,109,105,110,116,46,102,111,114,109,115]⟩ 326))),
 (192,(fo (ae 26) ⟨#[116,97,107,101,115,95,119,111,114,116,104]⟩ .none (.ref 191) (.str ⟨#[111,99,116,101,116,109,105,110,116,46,102,111,114,109,115]⟩ 326)))]
noncomputable def l6 (P:Params):List (Addr×Obj):=u5 P ++ l5 P
theorem CT (w:World) (os:OsState):bz w os 3 (l5 w.params) (u5 w.params) [4,3,12,13] [3,12] 11 16 372 116 193 315 409 ⟨34,0,35,50⟩ ⟨92,0,102,66⟩:=by kernel_rfl
noncomputable def u6 (P:Params):List DictEntry:=(uY P).append [en P ⟨#[116,97,107,101,115,95,100,105,115,116,97,110,99,101]⟩ 416 (.ref 199),en P ⟨#[116,97,107,101,115]⟩ 425 (.ref 206)]
noncomputable def u7:List Value:=uZ.append [(.int (103) 0),(.int (0) 0),(.ref 198),(.int (107) 0),(.int (0) 0),(.ref 205)]
noncomputable def u9 (P:Params):List (Addr×Obj):=[(3,bD (bC (.str ⟨#[111,99,116,101,116,109,105,110,116,46,102,111,114,109,115]⟩ 326) (u6 P) P) 36),
 (12,bw u7),
 (199,(fo (ae 27) ⟨#[116,97,107,101,115,95,100,105,115,116,97,110,99,101]⟩ .none (.ref 198) (.str ⟨#[111,99,116,101,116,109,105,110,116,46,102,111,114,109,115]⟩ 326))),
 (206,(fo (ae 28) ⟨#[116,97,107,101,115]⟩ .none (.ref 205) (.str ⟨#[111,99,116,101,116,109,105,110,116,46,102,111,114,109,115]⟩ 326)))]
noncomputable def l7 (P:Params):List (Addr×Obj):=u9 P ++ l6 P
theorem CU (w:World) (os:OsState):bz w os 4 (l6 w.params) (u9 w.params) [4,3,12,13] [3,12] 27 2 62 193 207 409 426 ⟨92,0,102,66⟩ ⟨107,0,118,49⟩:=by kernel_rfl
noncomputable def vb (P:Params):List DictEntry:=(u6 P).append [en P ⟨#[70,111,114,109]⟩ 508 (.ref 264)]
noncomputable def vc:List Value:=u7.append [(.int (119) 0),(.int (0) 0),(.ref 212)]
noncomputable def vd (P:Params):List (Addr×Obj):=[(3,bD (bC (.str ⟨#[111,99,116,101,116,109,105,110,116,46,102,111,114,109,115]⟩ 326) (vb P) P) 37),
 (12,bw vc),
 (214,⟨(.type "tuple"),none,.seq [(.int (0) 438),(.int (-1) 440),(.int (0) 441),(.int (0) 442),(.bool false)].toArray 0,#[]⟩),
 (219,(fo (az 29 0) ⟨#[70,111,114,109,46,95,95,105,110,105,116,95,95]⟩ (.ref 214) (.ref 218) (.str ⟨#[111,99,116,101,116,109,105,110,116,46,102,111,114,109,115]⟩ 326))),
 (226,(fo (az 29 1) ⟨#[70,111,114,109,46,116,111,108,100]⟩ .none (.ref 225) (.str ⟨#[111,99,116,101,116,109,105,110,116,46,102,111,114,109,115]⟩ 326))),
 (233,(fo (az 29 2) ⟨#[70,111,114,109,46,115,108,111,116,115]⟩ .none (.ref 232) (.str ⟨#[111,99,116,101,116,109,105,110,116,46,102,111,114,109,115]⟩ 326))),
 (240,(fo (az 29 3) ⟨#[70,111,114,109,46,104,97,115,95,109,111,100,114,109]⟩ .none (.ref 239) (.str ⟨#[111,99,116,101,116,109,105,110,116,46,102,111,114,109,115]⟩ 326))),
 (247,(fo (az 29 4) ⟨#[70,111,114,109,46,104,97,115,95,112,108,117,115]⟩ .none (.ref 246) (.str ⟨#[111,99,116,101,116,109,105,110,116,46,102,111,114,109,115]⟩ 326))),
 (254,(fo (az 29 5) ⟨#[70,111,114,109,46,109,101,109,111,114,121,95,115,105,122,101]⟩ .none (.ref 253) (.str ⟨#[111,99,116,101,116,109,105,110,116,46,102,111,114,109,115]⟩ 326))),
 (261,(fo (az 29 6) ⟨#[70,111,114,109,46,110,101,101,100,115,95,109,101,109,111,114,121]⟩ .none (.ref 260) (.str ⟨#[111,99,116,101,116,109,105,110,116,46,102,111,114,109,115]⟩ 326))),
 (263,⟨(.type "dict"),none,.dict [en P ⟨#[95,95,109,111,100,117,108,101,95,95]⟩ 433 (.str ⟨#[111,99,116,101,116,109,105,110,116,46,102,111,114,109,115]⟩ 326),en P ⟨#[95,95,102,105,114,115,116,108,105,110,101,110,111,95,95]⟩ 437 (.int (119) 436),en P ⟨#[95,95,105,110,105,116,95,95]⟩ 448 (.ref 219),en P ⟨#[116,111,108,100]⟩ 455 (.ref 226),en P ⟨#[115,108,111,116,115]⟩ 462 (.ref 233),en P ⟨#[104,97,115,95,109,111,100,114,109]⟩ 469 (.ref 240),en P ⟨#[104,97,115,95,112,108,117,115]⟩ 476 (.ref 247),en P ⟨#[109,101,109,111,114,121,95,115,105,122,101]⟩ 483 (.ref 254),en P ⟨#[110,101,101,100,115,95,109,101,109,111,114,121]⟩ 490 (.ref 261),en P ⟨#[95,95,115,116,97,116,105,99,95,97,116,116,114,105,98,117,116,101,115,95,95]⟩ 501 (.ref 262),en P ⟨#[95,95,100,105,99,116,95,95]⟩ 503 (.ref 265),en P ⟨#[95,95,119,101,97,107,114,101,102,95,95]⟩ 505 (.ref 266),en P ⟨#[95,95,100,111,99,95,95]⟩ 506 .none].toArray 4,#[]⟩),
 (264,⟨(.type "type"),none,.cls ⟨⟨#[70,111,114,109]⟩,[(.type "object")],[(.ref 264),(.type "object")],263,⟨#[70,111,114,109]⟩,true,[],[],false,none,false⟩,[none,none,(some (.str ⟨#[70,111,114,109]⟩ 426)),(some (.str ⟨#[70,111,114,109]⟩ 434)),(some (.builtin "object.__new__")),(some (.bool true))].toArray⟩)]
noncomputable def l8 (P:Params):List (Addr×Obj):=vd P ++ l7 P
theorem CV (w:World) (os:OsState):bz w os 5 (l7 w.params) (vd w.params) [2,4,3,12,13,0] [3,12] 29 1 424 207 269 426 509 ⟨107,0,118,49⟩ ⟨119,0,149,16⟩:=by kernel_rfl
noncomputable def ve (P:Params):List DictEntry:=(vb P).append [en P ⟨#[109,97,116,99,104,101,115]⟩ 518 (.ref 275),en P ⟨#[99,97,110,95,108,111,99,107]⟩ 525 (.ref 282),en P ⟨#[114,101,112,101,97,116,115]⟩ 532 (.ref 289),en P ⟨#[77,69,77,79,82,89,95,83,73,90,69,83]⟩ 536 (.str ⟨#[48,32,56,32,49,54,32,51,50,32,54,52,32,49,50,56]⟩ 535),en P ⟨#[83,67,65,76,69,83]⟩ 538 (.str ⟨#[49,32,50,32,52,32,56]⟩ 537)]
noncomputable def vf:List Value:=vc.append [(.int (150) 0),(.int (0) 0),(.ref 274),(.int (157) 0),(.int (0) 0),(.ref 281),(.int (159) 0),(.int (0) 0),(.ref 288)]
noncomputable def vg (P:Params):List (Addr×Obj):=[(3,bD (bC (.str ⟨#[111,99,116,101,116,109,105,110,116,46,111,112,101,114,97,110,100,115]⟩ 533) (ve P) P) 42),
 (12,bw vf),
 (275,(fo (ae 30) ⟨#[109,97,116,99,104,101,115]⟩ .none (.ref 274) (.str ⟨#[111,99,116,101,116,109,105,110,116,46,102,111,114,109,115]⟩ 326))),
 (282,(fo (ae 31) ⟨#[99,97,110,95,108,111,99,107]⟩ .none (.ref 281) (.str ⟨#[111,99,116,101,116,109,105,110,116,46,102,111,114,109,115]⟩ 326))),
 (289,(fo (ae 32) ⟨#[114,101,112,101,97,116,115]⟩ .none (.ref 288) (.str ⟨#[111,99,116,101,116,109,105,110,116,46,102,111,114,109,115]⟩ 326)))]
noncomputable def l9 (P:Params):List (Addr×Obj):=vg P ++ l8 P
theorem CW (w:World) (os:OsState):bz w os 6 (l8 w.params) (vg w.params) [4,3,12,13] [3,12] 30 6 118 269 290 509 539 ⟨119,0,149,16⟩ ⟨165,0,165,6⟩:=by kernel_rfl
noncomputable def vh (P:Params):List DictEntry:=(ve P).append [en P ⟨#[79,112,101,114,97,110,100]⟩ 588 (.ref 327)]
noncomputable def vi:List Value:=vf.append [(.int (166) 0),(.int (0) 0),(.ref 295)]
noncomputable def vj (P:Params):List (Addr×Obj):=[(3,bD (bC (.str ⟨#[111,99,116,101,116,109,105,110,116,46,111,112,101,114,97,110,100,115]⟩ 533) (vh P) P) 43),
 (12,bw vi),
 (303,(fo (az 36 0) ⟨#[79,112,101,114,97,110,100,46,95,95,105,110,105,116,95,95]⟩ .none (.ref 302) (.str ⟨#[111,99,116,101,116,109,105,110,116,46,111,112,101,114,97,110,100,115]⟩ 533))),
 (310,(fo (az 36 1) ⟨#[79,112,101,114,97,110,100,46,116,111,108,100]⟩ .none (.ref 309) (.str ⟨#[111,99,116,101,116,109,105,110,116,46,111,112,101,114,97,110,100,115]⟩ 533))),
 (317,(fo (az 36 2) ⟨#[79,112,101,114,97,110,100,46,115,121,109,98,111,108]⟩ .none (.ref 316) (.str ⟨#[111,99,116,101,116,109,105,110,116,46,111,112,101,114,97,110,100,115]⟩ 533))),
 (324,(fo (az 36 3) ⟨#[79,112,101,114,97,110,100,46,114,101,103,105,115,116,101,114,115]⟩ .none (.ref 323) (.str ⟨#[111,99,116,101,116,109,105,110,116,46,111,112,101,114,97,110,100,115]⟩ 533))),
 (326,⟨(.type "dict"),none,.dict [en P ⟨#[95,95,109,111,100,117,108,101,95,95]⟩ 546 (.str ⟨#[111,99,116,101,116,109,105,110,116,46,111,112,101,114,97,110,100,115]⟩ 533),en P ⟨#[95,95,102,105,114,115,116,108,105,110,101,110,111,95,95]⟩ 550 (.int (166) 549),en P ⟨#[95,95,105,110,105,116,95,95]⟩ 558 (.ref 303),en P ⟨#[116,111,108,100]⟩ 565 (.ref 310),en P ⟨#[115,121,109,98,111,108]⟩ 572 (.ref 317),en P ⟨#[114,101,103,105,115,116,101,114,115]⟩ 579 (.ref 324),en P ⟨#[95,95,115,116,97,116,105,99,95,97,116,116,114,105,98,117,116,101,115,95,95]⟩ 581 (.ref 325),en P ⟨#[95,95,100,105,99,116,95,95]⟩ 583 (.ref 328),en P ⟨#[95,95,119,101,97,107,114,101,102,95,95]⟩ 585 (.ref 329),en P ⟨#[95,95,100,111,99,95,95]⟩ 586 .none].toArray 4,#[]⟩),
 (327,⟨(.type "type"),none,.cls ⟨⟨#[79,112,101,114,97,110,100]⟩,[(.type "object")],[(.ref 327),(.type "object")],326,⟨#[79,112,101,114,97,110,100]⟩,true,[],[],false,none,false⟩,[none,none,(some (.str ⟨#[79,112,101,114,97,110,100]⟩ 539)),(some (.str ⟨#[79,112,101,114,97,110,100]⟩ 547)),(some (.builtin "object.__new__")),(some (.bool true))].toArray⟩)]
noncomputable def ma (P:Params):List (Addr×Obj):=vj P ++ l9 P
theorem CX (w:World) (os:OsState):bz w os 7 (l9 w.params) (vj w.params) [2,4,3,12,13,0] [3,12] 36 1 316 290 332 539 589 ⟨165,0,165,6⟩ ⟨166,0,178,17⟩:=by kernel_rfl
noncomputable def vk (P:Params):List DictEntry:=(vh P).append [en P ⟨#[82,101,103]⟩ 627 (.ref 362)]
noncomputable def vl:List Value:=vi.append [(.int (179) 0),(.int (0) 0),(.ref 337)]
noncomputable def vm (P:Params):List (Addr×Obj):=[(327,⟨(.type "type"),none,.cls ⟨⟨#[79,112,101,114,97,110,100]⟩,[(.type "object")],[(.ref 327),(.type "object")],326,⟨#[79,112,101,114,97,110,100]⟩,true,[],[(.ref 362)],false,none,false⟩,[none,none,(some (.str ⟨#[79,112,101,114,97,110,100]⟩ 539)),(some (.str ⟨#[79,112,101,114,97,110,100]⟩ 547)),(some (.builtin "object.__new__")),(some (.bool true))].toArray⟩),
 (3,bD (bC (.str ⟨#[111,99,116,101,116,109,105,110,116,46,111,112,101,114,97,110,100,115]⟩ 533) (vk P) P) 44),
 (12,bw vl),
 (345,(fo (az 37 0) ⟨#[82,101,103,46,95,95,105,110,105,116,95,95]⟩ .none (.ref 344) (.str ⟨#[111,99,116,101,116,109,105,110,116,46,111,112,101,114,97,110,100,115]⟩ 533))),
 (352,(fo (az 37 1) ⟨#[82,101,103,46,116,111,108,100]⟩ .none (.ref 351) (.str ⟨#[111,99,116,101,116,109,105,110,116,46,111,112,101,114,97,110,100,115]⟩ 533))),
 (359,(fo (az 37 2) ⟨#[82,101,103,46,114,101,103,105,115,116,101,114,115]⟩ .none (.ref 358) (.str ⟨#[111,99,116,101,116,109,105,110,116,46,111,112,101,114,97,110,100,115]⟩ 533))),
 (361,⟨(.type "dict"),none,.dict [en P ⟨#[95,95,109,111,100,117,108,101,95,95]⟩ 596 (.str ⟨#[111,99,116,101,116,109,105,110,116,46,111,112,101,114,97,110,100,115]⟩ 533),en P ⟨#[95,95,102,105,114,115,116,108,105,110,101,110,111,95,95]⟩ 600 (.int (179) 599),en P ⟨#[95,95,105,110,105,116,95,95]⟩ 608 (.ref 345),en P ⟨#[116,111,108,100]⟩ 615 (.ref 352),en P ⟨#[114,101,103,105,115,116,101,114,115]⟩ 622 (.ref 359),en P ⟨#[95,95,115,116,97,116,105,99,95,97,116,116,114,105,98,117,116,101,115,95,95]⟩ 624 (.ref 360),en P ⟨#[95,95,100,111,99,95,95]⟩ 625 .none].toArray 2,#[]⟩),
 (362,⟨(.type "type"),none,.cls ⟨⟨#[82,101,103]⟩,[(.ref 327)],[(.ref 362),(.ref 327),(.type "object")],361,⟨#[82,101,103]⟩,true,[],[],false,none,false⟩,[(some (.ref 332)),none,(some (.str ⟨#[82,101,103]⟩ 589)),(some (.str ⟨#[82,101,103]⟩ 597)),(some (.builtin "object.__new__")),(some (.bool true))].toArray⟩)]
noncomputable def mc (P:Params):List (Addr×Obj):=vm P ++ ma P
theorem CY (w:World) (os:OsState):bz w os 8 (ma w.params) (vm w.params) [326,2,4,12,13,327,3,0] [3,327,12] 37 1 308 332 365 589 628 ⟨166,0,178,17⟩ ⟨179,0,189,30⟩:=by kernel_rfl
noncomputable def vn (P:Params):List DictEntry:=(vk P).append [en P ⟨#[73,109,109]⟩ 669 (.ref 396)]
noncomputable def vo:List Value:=vl.append [(.int (190) 0),(.int (0) 0),(.ref 370)]
noncomputable def vp (P:Params):List (Addr×Obj):=[(327,⟨(.type "type"),none,.cls ⟨⟨#[79,112,101,114,97,110,100]⟩,[(.type "object")],[(.ref 327),(.type "object")],326,⟨#[79,112,101,114,97,110,100]⟩,true,[],[(.ref 362),(.ref 396)],false,none,false⟩,[none,none,(some (.str ⟨#[79,112,101,114,97,110,100]⟩ 539)),(some (.str ⟨#[79,112,101,114,97,110,100]⟩ 547)),(some (.builtin "object.__new__")),(some (.bool true))].toArray⟩),
 (3,bD (bC (.str ⟨#[111,99,116,101,116,109,105,110,116,46,111,112,101,114,97,110,100,115]⟩ 533) (vn P) P) 45),
 (12,bw vo),
 (372,⟨(.type "tuple"),none,.seq [(.str ⟨#[]⟩ 640)].toArray 0,#[]⟩),
 (379,(fo (az 38 0) ⟨#[73,109,109,46,95,95,105,110,105,116,95,95]⟩ (.ref 372) (.ref 378) (.str ⟨#[111,99,116,101,116,109,105,110,116,46,111,112,101,114,97,110,100,115]⟩ 533))),
 (386,(fo (az 38 1) ⟨#[73,109,109,46,116,111,108,100]⟩ .none (.ref 385) (.str ⟨#[111,99,116,101,116,109,105,110,116,46,111,112,101,114,97,110,100,115]⟩ 533))),
 (393,(fo (az 38 2) ⟨#[73,109,109,46,115,121,109,98,111,108]⟩ .none (.ref 392) (.str ⟨#[111,99,116,101,116,109,105,110,116,46,111,112,101,114,97,110,100,115]⟩ 533))),
 (395,⟨(.type "dict"),none,.dict [en P ⟨#[95,95,109,111,100,117,108,101,95,95]⟩ 635 (.str ⟨#[111,99,116,101,116,109,105,110,116,46,111,112,101,114,97,110,100,115]⟩ 533),en P ⟨#[95,95,102,105,114,115,116,108,105,110,101,110,111,95,95]⟩ 639 (.int (190) 638),en P ⟨#[95,95,105,110,105,116,95,95]⟩ 649 (.ref 379),en P ⟨#[116,111,108,100]⟩ 656 (.ref 386),en P ⟨#[115,121,109,98,111,108]⟩ 663 (.ref 393),en P ⟨#[95,95,115,116,97,116,105,99,95,97,116,116,114,105,98,117,116,101,115,95,95]⟩ 666 (.ref 394),en P ⟨#[95,95,100,111,99,95,95]⟩ 667 .none].toArray 2,#[]⟩),
 (396,⟨(.type "type"),none,.cls ⟨⟨#[73,109,109]⟩,[(.ref 327)],[(.ref 396),(.ref 327),(.type "object")],395,⟨#[73,109,109]⟩,true,[],[],false,none,false⟩,[(some (.ref 365)),none,(some (.str ⟨#[73,109,109]⟩ 628)),(some (.str ⟨#[73,109,109]⟩ 636)),(some (.builtin "object.__new__")),(some (.bool true))].toArray⟩)]
noncomputable def me (P:Params):List (Addr×Obj):=vp P ++ mc P
theorem CZ (w:World) (os:OsState):bz w os 9 (mc w.params) (vp w.params) [326,2,4,12,13,327,3,0] [3,327,12] 38 1 312 365 399 628 670 ⟨179,0,189,30⟩ ⟨190,0,201,24⟩:=by kernel_rfl
noncomputable def vq (P:Params):List DictEntry:=(vn P).append [en P ⟨#[82,101,108]⟩ 719 (.ref 437)]
noncomputable def vt:List Value:=vo.append [(.int (202) 0),(.int (0) 0),(.ref 404)]
noncomputable def vu (P:Params):List (Addr×Obj):=[(327,⟨(.type "type"),none,.cls ⟨⟨#[79,112,101,114,97,110,100]⟩,[(.type "object")],[(.ref 327),(.type "object")],326,⟨#[79,112,101,114,97,110,100]⟩,true,[],[(.ref 362),(.ref 396),(.ref 437)],false,none,false⟩,[none,none,(some (.str ⟨#[79,112,101,114,97,110,100]⟩ 539)),(some (.str ⟨#[79,112,101,114,97,110,100]⟩ 547)),(some (.builtin "object.__new__")),(some (.bool true))].toArray⟩),
 (3,bD (bC (.str ⟨#[111,99,116,101,116,109,105,110,116,46,111,112,101,114,97,110,100,115]⟩ 533) (vq P) P) 46),
 (12,bw vt),
 (406,⟨(.type "tuple"),none,.seq [(.str ⟨#[]⟩ 682)].toArray 0,#[]⟩),
 (413,(fo (az 39 0) ⟨#[82,101,108,46,95,95,105,110,105,116,95,95]⟩ (.ref 406) (.ref 412) (.str ⟨#[111,99,116,101,116,109,105,110,116,46,111,112,101,114,97,110,100,115]⟩ 533))),
 (420,(fo (az 39 1) ⟨#[82,101,108,46,116,111,108,100]⟩ .none (.ref 419) (.str ⟨#[111,99,116,101,116,109,105,110,116,46,111,112,101,114,97,110,100,115]⟩ 533))),
 (427,(fo (az 39 2) ⟨#[82,101,108,46,115,121,109,98,111,108]⟩ .none (.ref 426) (.str ⟨#[111,99,116,101,116,109,105,110,116,46,111,112,101,114,97,110,100,115]⟩ 533))),
 (434,(fo (az 39 3) ⟨#[82,101,108,46,116,97,114,103,101,116]⟩ .none (.ref 433) (.str ⟨#[111,99,116,101,116,109,105,110,116,46,111,112,101,114,97,110,100,115]⟩ 533))),
 (436,⟨(.type "dict"),none,.dict [en P ⟨#[95,95,109,111,100,117,108,101,95,95]⟩ 677 (.str ⟨#[111,99,116,101,116,109,105,110,116,46,111,112,101,114,97,110,100,115]⟩ 533),en P ⟨#[95,95,102,105,114,115,116,108,105,110,101,110,111,95,95]⟩ 681 (.int (202) 680),en P ⟨#[95,95,105,110,105,116,95,95]⟩ 691 (.ref 413),en P ⟨#[116,111,108,100]⟩ 698 (.ref 420),en P ⟨#[115,121,109,98,111,108]⟩ 705 (.ref 427),en P ⟨#[116,97,114,103,101,116]⟩ 713 (.ref 434),en P ⟨#[95,95,115,116,97,116,105,99,95,97,116,116,114,105,98,117,116,101,115,95,95]⟩ 716 (.ref 435),en P ⟨#[95,95,100,111,99,95,95]⟩ 717 .none].toArray 2,#[]⟩),
 (437,⟨(.type "type"),none,.cls ⟨⟨#[82,101,108]⟩,[(.ref 327)],[(.ref 437),(.ref 327),(.type "object")],436,⟨#[82,101,108]⟩,true,[],[],false,none,false⟩,[(some (.ref 399)),none,(some (.str ⟨#[82,101,108]⟩ 670)),(some (.str ⟨#[82,101,108]⟩ 678)),(some (.builtin "object.__new__")),(some (.bool true))].toArray⟩)]
noncomputable def mf (P:Params):List (Addr×Obj):=vu P ++ me P
theorem C0 (w:World) (os:OsState):bz w os 10 (me w.params) (vu w.params) [326,2,4,12,13,327,3,0] [3,327,12] 39 1 344 399 440 670 720 ⟨190,0,201,24⟩ ⟨202,0,216,44⟩:=by kernel_rfl
noncomputable def vx (P:Params):List DictEntry:=(vq P).append [en P ⟨#[77,101,109]⟩ 795 (.ref 490)]
noncomputable def vy:List Value:=vt.append [(.int (217) 0),(.int (0) 0),(.ref 445)]
noncomputable def vz (P:Params):List (Addr×Obj):=[(327,⟨(.type "type"),none,.cls ⟨⟨#[79,112,101,114,97,110,100]⟩,[(.type "object")],[(.ref 327),(.type "object")],326,⟨#[79,112,101,114,97,110,100]⟩,true,[],[(.ref 362),(.ref 396),(.ref 437),(.ref 490)],false,none,false⟩,[none,none,(some (.str ⟨#[79,112,101,114,97,110,100]⟩ 539)),(some (.str ⟨#[79,112,101,114,97,110,100]⟩ 547)),(some (.builtin "object.__new__")),(some (.bool true))].toArray⟩),
 (3,bD (bC (.str ⟨#[111,99,116,101,116,109,105,110,116,46,111,112,101,114,97,110,100,115]⟩ 533) (vx P) P) 47),
 (12,bw vy),
 (447,⟨(.type "tuple"),none,.seq [(.int (0) 732),(.str ⟨#[]⟩ 733),(.str ⟨#[]⟩ 734)].toArray 0,#[]⟩),
 (454,(fo (az 40 0) ⟨#[77,101,109,46,95,95,105,110,105,116,95,95]⟩ (.ref 447) (.ref 453) (.str ⟨#[111,99,116,101,116,109,105,110,116,46,111,112,101,114,97,110,100,115]⟩ 533))),
 (461,(fo (az 40 1) ⟨#[77,101,109,46,116,111,108,100]⟩ .none (.ref 460) (.str ⟨#[111,99,116,101,116,109,105,110,116,46,111,112,101,114,97,110,100,115]⟩ 533))),
 (468,(fo (az 40 2) ⟨#[77,101,109,46,115,121,109,98,111,108]⟩ .none (.ref 467) (.str ⟨#[111,99,116,101,116,109,105,110,116,46,111,112,101,114,97,110,100,115]⟩ 533))),
 (473,(fo (az 40 3) ⟨#[77,101,109,46,114,101,103,105,115,116,101,114,115]⟩ .none (.ref 472) (.str ⟨#[111,99,116,101,116,109,105,110,116,46,111,112,101,114,97,110,100,115]⟩ 533))),
 (480,(fo (az 40 4) ⟨#[77,101,109,46,105,115,95,114,105,112]⟩ .none (.ref 479) (.str ⟨#[111,99,116,101,116,109,105,110,116,46,111,112,101,114,97,110,100,115]⟩ 533))),
 (487,(fo (az 40 5) ⟨#[77,101,109,46,105,115,95,97,98,115,111,108,117,116,101]⟩ .none (.ref 486) (.str ⟨#[111,99,116,101,116,109,105,110,116,46,111,112,101,114,97,110,100,115]⟩ 533))),
 (489,⟨(.type "dict"),none,.dict [en P ⟨#[95,95,109,111,100,117,108,101,95,95]⟩ 727 (.str ⟨#[111,99,116,101,116,109,105,110,116,46,111,112,101,114,97,110,100,115]⟩ 533),en P ⟨#[95,95,102,105,114,115,116,108,105,110,101,110,111,95,95]⟩ 731 (.int (217) 730),en P ⟨#[95,95,105,110,105,116,95,95]⟩ 748 (.ref 454),en P ⟨#[116,111,108,100]⟩ 757 (.ref 461),en P ⟨#[115,121,109,98,111,108]⟩ 764 (.ref 468),en P ⟨#[114,101,103,105,115,116,101,114,115]⟩ 770 (.ref 473),en P ⟨#[105,115,95,114,105,112]⟩ 777 (.ref 480),en P ⟨#[105,115,95,97,98,115,111,108,117,116,101]⟩ 784 (.ref 487),en P ⟨#[95,95,115,116,97,116,105,99,95,97,116,116,114,105,98,117,116,101,115,95,95]⟩ 792 (.ref 488),en P ⟨#[95,95,100,111,99,95,95]⟩ 793 .none].toArray 2,#[]⟩),
 (490,⟨(.type "type"),none,.cls ⟨⟨#[77,101,109]⟩,[(.ref 327)],[(.ref 490),(.ref 327),(.type "object")],489,⟨#[77,101,109]⟩,true,[],[],false,none,false⟩,[(some (.ref 440)),none,(some (.str ⟨#[77,101,109]⟩ 720)),(some (.str ⟨#[77,101,109]⟩ 728)),(some (.builtin "object.__new__")),(some (.bool true))].toArray⟩)]
noncomputable def mg (P:Params):List (Addr×Obj):=vz P ++ mf P
theorem C1 (w:World) (os:OsState):bz w os 11 (mf w.params) (vz w.params) [326,2,4,12,13,327,3,0] [3,327,12] 40 1 416 440 493 720 796 ⟨202,0,216,44⟩ ⟨217,0,244,16⟩:=by kernel_rfl
noncomputable def vA (P:Params):List DictEntry:=(vx P).append [en P ⟨#[73,110,115,116,114,117,99,116,105,111,110]⟩ 867 (.ref 541)]
noncomputable def vB:List Value:=vy.append [(.int (245) 0),(.int (0) 0),(.ref 498)]
noncomputable def vC (P:Params):List (Addr×Obj):=[(3,bD (bC (.str ⟨#[111,99,116,101,116,109,105,110,116,46,111,112,101,114,97,110,100,115]⟩ 533) (vA P) P) 48),
 (12,bw vB),
 (500,⟨(.type "tuple"),none,.seq [(.str ⟨#[]⟩ 808)].toArray 0,#[]⟩),
 (507,(fo (az 41 0) ⟨#[73,110,115,116,114,117,99,116,105,111,110,46,95,95,105,110,105,116,95,95]⟩ (.ref 500) (.ref 506) (.str ⟨#[111,99,116,101,116,109,105,110,116,46,111,112,101,114,97,110,100,115]⟩ 533))),
 (512,(fo (az 41 1) ⟨#[73,110,115,116,114,117,99,116,105,111,110,46,116,111,108,100]⟩ .none (.ref 511) (.str ⟨#[111,99,116,101,116,109,105,110,116,46,111,112,101,114,97,110,100,115]⟩ 533))),
 (519,(fo (az 41 2) ⟨#[73,110,115,116,114,117,99,116,105,111,110,46,109,101,109,111,114,121,95,97,116]⟩ .none (.ref 518) (.str ⟨#[111,99,116,101,116,109,105,110,116,46,111,112,101,114,97,110,100,115]⟩ 533))),
 (526,(fo (az 41 3) ⟨#[73,110,115,116,114,117,99,116,105,111,110,46,109,101,109,111,114,121]⟩ .none (.ref 525) (.str ⟨#[111,99,116,101,116,109,105,110,116,46,111,112,101,114,97,110,100,115]⟩ 533))),
 (531,(fo (az 41 4) ⟨#[73,110,115,116,114,117,99,116,105,111,110,46,115,121,109,98,111,108,115]⟩ .none (.ref 530) (.str ⟨#[111,99,116,101,116,109,105,110,116,46,111,112,101,114,97,110,100,115]⟩ 533))),
 (538,(fo (az 41 5) ⟨#[73,110,115,116,114,117,99,116,105,111,110,46,114,101,112,108,97,99,101,100]⟩ .none (.ref 537) (.str ⟨#[111,99,116,101,116,109,105,110,116,46,111,112,101,114,97,110,100,115]⟩ 533))),
 (540,⟨(.type "dict"),none,.dict [en P ⟨#[95,95,109,111,100,117,108,101,95,95]⟩ 803 (.str ⟨#[111,99,116,101,116,109,105,110,116,46,111,112,101,114,97,110,100,115]⟩ 533),en P ⟨#[95,95,102,105,114,115,116,108,105,110,101,110,111,95,95]⟩ 807 (.int (245) 806),en P ⟨#[95,95,105,110,105,116,95,95]⟩ 818 (.ref 507),en P ⟨#[116,111,108,100]⟩ 824 (.ref 512),en P ⟨#[109,101,109,111,114,121,95,97,116]⟩ 833 (.ref 519),en P ⟨#[109,101,109,111,114,121]⟩ 841 (.ref 526),en P ⟨#[115,121,109,98,111,108,115]⟩ 847 (.ref 531),en P ⟨#[114,101,112,108,97,99,101,100]⟩ 856 (.ref 538),en P ⟨#[95,95,115,116,97,116,105,99,95,97,116,116,114,105,98,117,116,101,115,95,95]⟩ 860 (.ref 539),en P ⟨#[95,95,100,105,99,116,95,95]⟩ 862 (.ref 542),en P ⟨#[95,95,119,101,97,107,114,101,102,95,95]⟩ 864 (.ref 543),en P ⟨#[95,95,100,111,99,95,95]⟩ 865 .none].toArray 4,#[]⟩),
 (541,⟨(.type "type"),none,.cls ⟨⟨#[73,110,115,116,114,117,99,116,105,111,110]⟩,[(.type "object")],[(.ref 541),(.type "object")],540,⟨#[73,110,115,116,114,117,99,116,105,111,110]⟩,true,[],[],false,none,false⟩,[none,none,(some (.str ⟨#[73,110,115,116,114,117,99,116,105,111,110]⟩ 796)),(some (.str ⟨#[73,110,115,116,114,117,99,116,105,111,110]⟩ 804)),(some (.builtin "object.__new__")),(some (.bool true))].toArray⟩)]
noncomputable def mh (P:Params):List (Addr×Obj):=vC P ++ mg P
theorem C2 (w:World) (os:OsState):bz w os 12 (mg w.params) (vC w.params) [2,4,3,12,13,0] [3,12] 41 1 383 493 546 796 868 ⟨217,0,244,16⟩ ⟨245,0,269,16⟩:=by kernel_rfl
noncomputable def vD (P:Params):List DictEntry:=(vA P).append [en P ⟨#[105,115,95,97,100,100,114,101,115,115,95,114,101,103,105,115,116,101,114]⟩ 874 (.ref 552),en P ⟨#[99,104,101,99,107,95,98,97,115,101]⟩ 881 (.ref 559),en P ⟨#[99,104,101,99,107,95,105,110,100,101,120]⟩ 888 (.ref 566),en P ⟨#[99,104,101,99,107,95,109,101,109]⟩ 895 (.ref 573),en P ⟨#[78,79,95,73,78,68,69,88]⟩ 899 (.int (4) 898),en P ⟨#[78,79,95,66,65,83,69]⟩ 901 (.int (5) 900),en P ⟨#[87,73,84,72,95,83,73,66]⟩ 903 (.int (4) 902),en P ⟨#[70,82,79,77,95,82,73,80]⟩ 905 (.int (5) 904),en P ⟨#[112,97,99,107,95,116,104,114,101,101]⟩ 914 (.ref 580),en P ⟨#[117,110,112,97,99,107,95,116,104,114,101,101]⟩ 921 (.ref 587),en P ⟨#[112,97,99,107,95,109,111,100,114,109]⟩ 930 (.ref 594),en P ⟨#[112,97,99,107,95,115,105,98]⟩ 939 (.ref 601),en P ⟨#[117,110,112,97,99,107,95,115,105,98]⟩ 946 (.ref 608),en P ⟨#[115,104,105,102,116,95,111,102]⟩ 954 (.ref 615)]
noncomputable def vE:List Value:=vB.append [(.int (270) 0),(.int (0) 0),(.ref 551),(.int (272) 0),(.int (0) 0),(.ref 558),(.int (280) 0),(.int (0) 0),(.ref 565),(.int (288) 0),(.int (0) 0),(.ref 572),(.int (303) 0),(.int (0) 0),(.ref 579),(.int (307) 0),(.int (0) 0),(.ref 586),(.int (309) 0),(.int (0) 0),(.ref 593),(.int (311) 0),(.int (0) 0),(.ref 600),(.int (313) 0),(.int (0) 0),(.ref 607),(.int (315) 0),(.int (0) 0),(.ref 614)]
noncomputable def vF (P:Params):List (Addr×Obj):=[(3,bD (bC (.str ⟨#[111,99,116,101,116,109,105,110,116,46,109,111,100,114,109]⟩ 896) (vD P) P) 62),
 (12,bw vE),
 (552,(fo (ae 42) ⟨#[105,115,95,97,100,100,114,101,115,115,95,114,101,103,105,115,116,101,114]⟩ .none (.ref 551) (.str ⟨#[111,99,116,101,116,109,105,110,116,46,111,112,101,114,97,110,100,115]⟩ 533))),
 (559,(fo (ae 43) ⟨#[99,104,101,99,107,95,98,97,115,101]⟩ .none (.ref 558) (.str ⟨#[111,99,116,101,116,109,105,110,116,46,111,112,101,114,97,110,100,115]⟩ 533))),
 (566,(fo (ae 44) ⟨#[99,104,101,99,107,95,105,110,100,101,120]⟩ .none (.ref 565) (.str ⟨#[111,99,116,101,116,109,105,110,116,46,111,112,101,114,97,110,100,115]⟩ 533))),
 (573,(fo (ae 45) ⟨#[99,104,101,99,107,95,109,101,109]⟩ .none (.ref 572) (.str ⟨#[111,99,116,101,116,109,105,110,116,46,111,112,101,114,97,110,100,115]⟩ 533))),
 (580,(fo (ae 51) ⟨#[112,97,99,107,95,116,104,114,101,101]⟩ .none (.ref 579) (.str ⟨#[111,99,116,101,116,109,105,110,116,46,109,111,100,114,109]⟩ 896))),
 (587,(fo (ae 52) ⟨#[117,110,112,97,99,107,95,116,104,114,101,101]⟩ .none (.ref 586) (.str ⟨#[111,99,116,101,116,109,105,110,116,46,109,111,100,114,109]⟩ 896))),
 (594,(fo (ae 53) ⟨#[112,97,99,107,95,109,111,100,114,109]⟩ .none (.ref 593) (.str ⟨#[111,99,116,101,116,109,105,110,116,46,109,111,100,114,109]⟩ 896))),
 (601,(fo (ae 54) ⟨#[112,97,99,107,95,115,105,98]⟩ .none (.ref 600) (.str ⟨#[111,99,116,101,116,109,105,110,116,46,109,111,100,114,109]⟩ 896))),
 (608,(fo (ae 55) ⟨#[117,110,112,97,99,107,95,115,105,98]⟩ .none (.ref 607) (.str ⟨#[111,99,116,101,116,109,105,110,116,46,109,111,100,114,109]⟩ 896))),
 (615,(fo (ae 56) ⟨#[115,104,105,102,116,95,111,102]⟩ .none (.ref 614) (.str ⟨#[111,99,116,101,116,109,105,110,116,46,109,111,100,114,109]⟩ 896)))]
noncomputable def mi (P:Params):List (Addr×Obj):=vF P ++ mh P
theorem C3 (w:World) (os:OsState):bz w os 13 (mh w.params) (vF w.params) [4,3,12,13] [3,12] 42 15 343 546 616 868 955 ⟨245,0,269,16⟩ ⟨315,0,319,49⟩:=by kernel_rfl
noncomputable def vG (P:Params):List DictEntry:=(vD P).append [en P ⟨#[83,104,97,112,101]⟩ 1021 (.ref 660),en P ⟨#[114,101,103,105,115,116,101,114,95,115,104,97,112,101]⟩ 1028 (.ref 671)]
noncomputable def vH:List Value:=vE.append [(.int (320) 0),(.int (0) 0),(.ref 621),(.int (341) 0),(.int (0) 0),(.ref 670)]
noncomputable def vI (P:Params):List (Addr×Obj):=[(3,bD (bC (.str ⟨#[111,99,116,101,116,109,105,110,116,46,109,111,100,114,109]⟩ 896) (vG P) P) 64),
 (12,bw vH),
 (629,(fo (az 57 0) ⟨#[83,104,97,112,101,46,95,95,105,110,105,116,95,95]⟩ .none (.ref 628) (.str ⟨#[111,99,116,101,116,109,105,110,116,46,109,111,100,114,109]⟩ 896))),
 (636,(fo (az 57 1) ⟨#[83,104,97,112,101,46,116,111,108,100]⟩ .none (.ref 635) (.str ⟨#[111,99,116,101,116,109,105,110,116,46,109,111,100,114,109]⟩ 896))),
 (643,(fo (az 57 2) ⟨#[83,104,97,112,101,46,105,115,95,114,101,103,105,115,116,101,114]⟩ .none (.ref 642) (.str ⟨#[111,99,116,101,116,109,105,110,116,46,109,111,100,114,109]⟩ 896))),
 (650,(fo (az 57 3) ⟨#[83,104,97,112,101,46,104,97,115,95,115,105,98]⟩ .none (.ref 649) (.str ⟨#[111,99,116,101,116,109,105,110,116,46,109,111,100,114,109]⟩ 896))),
 (657,(fo (az 57 4) ⟨#[83,104,97,112,101,46,108,101,110,103,116,104]⟩ .none (.ref 656) (.str ⟨#[111,99,116,101,116,109,105,110,116,46,109,111,100,114,109]⟩ 896))),
 (659,⟨(.type "dict"),none,.dict [en P ⟨#[95,95,109,111,100,117,108,101,95,95]⟩ 962 (.str ⟨#[111,99,116,101,116,109,105,110,116,46,109,111,100,114,109]⟩ 896),en P ⟨#[95,95,102,105,114,115,116,108,105,110,101,110,111,95,95]⟩ 966 (.int (320) 965),en P ⟨#[95,95,105,110,105,116,95,95]⟩ 979 (.ref 629),en P ⟨#[116,111,108,100]⟩ 986 (.ref 636),en P ⟨#[105,115,95,114,101,103,105,115,116,101,114]⟩ 993 (.ref 643),en P ⟨#[104,97,115,95,115,105,98]⟩ 1000 (.ref 650),en P ⟨#[108,101,110,103,116,104]⟩ 1007 (.ref 657),en P ⟨#[95,95,115,116,97,116,105,99,95,97,116,116,114,105,98,117,116,101,115,95,95]⟩ 1014 (.ref 658),en P ⟨#[95,95,100,105,99,116,95,95]⟩ 1016 (.ref 661),en P ⟨#[95,95,119,101,97,107,114,101,102,95,95]⟩ 1018 (.ref 662),en P ⟨#[95,95,100,111,99,95,95]⟩ 1019 .none].toArray 4,#[]⟩),
 (660,⟨(.type "type"),none,.cls ⟨⟨#[83,104,97,112,101]⟩,[(.type "object")],[(.ref 660),(.type "object")],659,⟨#[83,104,97,112,101]⟩,true,[],[],false,none,false⟩,[none,none,(some (.str ⟨#[83,104,97,112,101]⟩ 955)),(some (.str ⟨#[83,104,97,112,101]⟩ 963)),(some (.builtin "object.__new__")),(some (.bool true))].toArray⟩),
 (671,(fo (ae 58) ⟨#[114,101,103,105,115,116,101,114,95,115,104,97,112,101]⟩ .none (.ref 670) (.str ⟨#[111,99,116,101,116,109,105,110,116,46,109,111,100,114,109]⟩ 896)))]
noncomputable def mj (P:Params):List (Addr×Obj):=vI P ++ mi P
theorem C4 (w:World) (os:OsState):bz w os 14 (mi w.params) (vI w.params) [2,4,3,12,13,0] [3,12] 57 2 386 616 672 955 1029 ⟨315,0,319,49⟩ ⟨341,0,342,75⟩:=by kernel_rfl
noncomputable def vJ (P:Params):List DictEntry:=(vG P).append [en P ⟨#[109,111,100,95,111,102]⟩ 1035 (.ref 678),en P ⟨#[119,105,100,116,104,115,95,102,111,114]⟩ 1043 (.ref 685),en P ⟨#[115,105,98,95,102,111,114]⟩ 1051 (.ref 692),en P ⟨#[110,101,101,100,115,95,115,105,98]⟩ 1058 (.ref 699),en P ⟨#[101,120,116,101,110,100,101,100,95,98,105,116]⟩ 1065 (.ref 706),en P ⟨#[98,97,115,101,100,95,115,104,97,112,101,115]⟩ 1076 (.ref 713),en P ⟨#[104,97,115,95,110,101,101,100,108,101,115,115,95,115,105,98]⟩ 1086 (.ref 720),en P ⟨#[109,101,109,111,114,121,95,115,104,97,112,101,115]⟩ 1094 (.ref 727),en P ⟨#[108,97,121]⟩ 1105 (.ref 734),en P ⟨#[70,83]⟩ 1109 (.int (100) 1108),en P ⟨#[71,83]⟩ 1111 (.int (101) 1110),en P ⟨#[68,65,84,65]⟩ 1113 (.int (102) 1112),en P ⟨#[82,69,80,78,69]⟩ 1115 (.int (242) 1114),en P ⟨#[82,69,80]⟩ 1117 (.int (243) 1116),en P ⟨#[76,79,67,75]⟩ 1119 (.int (240) 1118),en P ⟨#[82,69,88]⟩ 1121 (.int (64) 1120),en P ⟨#[114,101,120,95,111,99,116,101,116]⟩ 1132 (.ref 741)]
noncomputable def vK:List Value:=vH.append [(.int (343) 0),(.int (0) 0),(.ref 677),(.int (347) 0),(.int (0) 0),(.ref 684),(.int (357) 0),(.int (0) 0),(.ref 691),(.int (362) 0),(.int (0) 0),(.ref 698),(.int (366) 0),(.int (0) 0),(.ref 705),(.int (368) 0),(.int (0) 0),(.ref 712),(.int (376) 0),(.int (0) 0),(.ref 719),(.int (383) 0),(.int (0) 0),(.ref 726),(.int (391) 0),(.int (0) 0),(.ref 733),(.int (412) 0),(.int (0) 0),(.ref 740)]
noncomputable def vL (P:Params):List (Addr×Obj):=[(3,bD (bC (.str ⟨#[111,99,116,101,116,109,105,110,116,46,112,114,101,102,105,120,101,115]⟩ 1106) (vJ P) P) 81),
 (12,bw vK),
 (678,(fo (ae 59) ⟨#[109,111,100,95,111,102]⟩ .none (.ref 677) (.str ⟨#[111,99,116,101,116,109,105,110,116,46,109,111,100,114,109]⟩ 896))),
 (685,(fo (ae 60) ⟨#[119,105,100,116,104,115,95,102,111,114]⟩ .none (.ref 684) (.str ⟨#[111,99,116,101,116,109,105,110,116,46,109,111,100,114,109]⟩ 896))),
 (692,(fo (ae 61) ⟨#[115,105,98,95,102,111,114]⟩ .none (.ref 691) (.str ⟨#[111,99,116,101,116,109,105,110,116,46,109,111,100,114,109]⟩ 896))),
 (699,(fo (ae 62) ⟨#[110,101,101,100,115,95,115,105,98]⟩ .none (.ref 698) (.str ⟨#[111,99,116,101,116,109,105,110,116,46,109,111,100,114,109]⟩ 896))),
 (706,(fo (ae 63) ⟨#[101,120,116,101,110,100,101,100,95,98,105,116]⟩ .none (.ref 705) (.str ⟨#[111,99,116,101,116,109,105,110,116,46,109,111,100,114,109]⟩ 896))),
 (713,(fo (ae 64) ⟨#[98,97,115,101,100,95,115,104,97,112,101,115]⟩ .none (.ref 712) (.str ⟨#[111,99,116,101,116,109,105,110,116,46,109,111,100,114,109]⟩ 896))),
 (720,(fo (ae 65) ⟨#[104,97,115,95,110,101,101,100,108,101,115,115,95,115,105,98]⟩ .none (.ref 719) (.str ⟨#[111,99,116,101,116,109,105,110,116,46,109,111,100,114,109]⟩ 896))),
 (722,⟨.none,none,.fields [].toArray,#[]⟩),
 (726,⟨(.type "code"),none,.fields [(.str ⟨#[109,101,109,111,114,121,95,115,104,97,112,101,115]⟩ 1087),(.str ⟨#[109,101,109,111,114,121,95,115,104,97,112,101,115]⟩ 1088),(.str ⟨#[47,99,108,97,105,109,47,99,117,116,46,112,121]⟩ 1089),(.int (383) 0),(.int (1) 0),(.int (0) 0),(.int (0) 0),(.int (3) 0),(.ref 721),(.bool true),(.int (181) 0),(.ref 722),.none,(.ref 723),(.ref 724),(.ref 725),(.int (1092) 0),(.int (383) 0),(.str ⟨#[47,99,108,97,105,109,47,99,117,116,46,112,121]⟩ 1093)].toArray,#[]⟩),
 (727,(fo (ae 66) ⟨#[109,101,109,111,114,121,95,115,104,97,112,101,115]⟩ .none (.ref 726) (.str ⟨#[111,99,116,101,116,109,105,110,116,46,109,111,100,114,109]⟩ 896))),
 (734,(fo (ae 67) ⟨#[108,97,121]⟩ .none (.ref 733) (.str ⟨#[111,99,116,101,116,109,105,110,116,46,109,111,100,114,109]⟩ 896))),
 (741,(fo (ae 76) ⟨#[114,101,120,95,111,99,116,101,116]⟩ .none (.ref 740) (.str ⟨#[111,99,116,101,116,109,105,110,116,46,112,114,101,102,105,120,101,115]⟩ 1106)))]
noncomputable def ml (P:Params):List (Addr×Obj):=vL P ++ mj P
theorem C5 (w:World) (os:OsState):bz w os 15 (mj w.params) (vL w.params) [4,3,12,13] [3,12] 59 18 381 672 742 1029 1133 ⟨341,0,342,75⟩ ⟨412,0,416,42⟩:=by kernel_rfl
noncomputable def vM (P:Params):List DictEntry:=(vJ P).append [en P ⟨#[114,101,120,95,98,105,116,115]⟩ 1139 (.ref 748),en P ⟨#[105,115,95,114,101,120]⟩ 1146 (.ref 755),en P ⟨#[115,101,103,109,101,110,116,95,111,99,116,101,116]⟩ 1153 (.ref 762)]
noncomputable def vN:List Value:=vK.append [(.int (417) 0),(.int (0) 0),(.ref 747),(.int (421) 0),(.int (0) 0),(.ref 754),(.int (423) 0),(.int (0) 0),(.ref 761)]
noncomputable def vO (P:Params):List (Addr×Obj):=[(3,bD (bC (.str ⟨#[111,99,116,101,116,109,105,110,116,46,112,114,101,102,105,120,101,115]⟩ 1106) (vM P) P) 84),
 (12,bw vN),
 (748,(fo (ae 77) ⟨#[114,101,120,95,98,105,116,115]⟩ .none (.ref 747) (.str ⟨#[111,99,116,101,116,109,105,110,116,46,112,114,101,102,105,120,101,115]⟩ 1106))),
 (755,(fo (ae 78) ⟨#[105,115,95,114,101,120]⟩ .none (.ref 754) (.str ⟨#[111,99,116,101,116,109,105,110,116,46,112,114,101,102,105,120,101,115]⟩ 1106))),
 (762,(fo (ae 79) ⟨#[115,101,103,109,101,110,116,95,111,99,116,101,116]⟩ .none (.ref 761) (.str ⟨#[111,99,116,101,116,109,105,110,116,46,112,114,101,102,105,120,101,115]⟩ 1106)))]
noncomputable def mn (P:Params):List (Addr×Obj):=vO P ++ ml P
theorem C6 (w:World) (os:OsState):bz w os 16 (ml w.params) (vO w.params) [4,3,12,13] [3,12] 77 3 88 742 763 1133 1154 ⟨412,0,416,42⟩ ⟨423,0,428,35⟩:=by kernel_rfl
noncomputable def vP (P:Params):List DictEntry:=(vM P).append [en P ⟨#[80,114,101,102,105,120,101,115]⟩ 1230 (.ref 815)]
noncomputable def vQ:List Value:=vN.append [(.int (429) 0),(.int (0) 0),(.ref 768)]
noncomputable def vS (P:Params):List (Addr×Obj):=[(3,bD (bC (.str ⟨#[111,99,116,101,116,109,105,110,116,46,112,114,101,102,105,120,101,115]⟩ 1106) (vP P) P) 85),
 (12,bw vQ),
 (770,⟨(.type "tuple"),none,.seq [(.str ⟨#[]⟩ 1166),(.bool false),(.int (0) 1167),(.bool false),(.int (-1) 1169)].toArray 0,#[]⟩),
 (777,(fo (az 80 0) ⟨#[80,114,101,102,105,120,101,115,46,95,95,105,110,105,116,95,95]⟩ (.ref 770) (.ref 776) (.str ⟨#[111,99,116,101,116,109,105,110,116,46,112,114,101,102,105,120,101,115]⟩ 1106))),
 (784,(fo (az 80 1) ⟨#[80,114,101,102,105,120,101,115,46,116,111,108,100]⟩ .none (.ref 783) (.str ⟨#[111,99,116,101,116,109,105,110,116,46,112,114,101,102,105,120,101,115]⟩ 1106))),
 (791,(fo (az 80 2) ⟨#[80,114,101,102,105,120,101,115,46,104,97,115,95,114,101,120]⟩ .none (.ref 790) (.str ⟨#[111,99,116,101,116,109,105,110,116,46,112,114,101,102,105,120,101,115]⟩ 1106))),
 (798,(fo (az 80 3) ⟨#[80,114,101,102,105,120,101,115,46,98,105,116,115]⟩ .none (.ref 797) (.str ⟨#[111,99,116,101,116,109,105,110,116,46,112,114,101,102,105,120,101,115]⟩ 1106))),
 (805,(fo (az 80 4) ⟨#[80,114,101,102,105,120,101,115,46,99,111,117,110,116]⟩ .none (.ref 804) (.str ⟨#[111,99,116,101,116,109,105,110,116,46,112,114,101,102,105,120,101,115]⟩ 1106))),
 (812,(fo (az 80 5) ⟨#[80,114,101,102,105,120,101,115,46,111,99,116,101,116,115]⟩ .none (.ref 811) (.str ⟨#[111,99,116,101,116,109,105,110,116,46,112,114,101,102,105,120,101,115]⟩ 1106))),
 (814,⟨(.type "dict"),none,.dict [en P ⟨#[95,95,109,111,100,117,108,101,95,95]⟩ 1161 (.str ⟨#[111,99,116,101,116,109,105,110,116,46,112,114,101,102,105,120,101,115]⟩ 1106),en P ⟨#[95,95,102,105,114,115,116,108,105,110,101,110,111,95,95]⟩ 1165 (.int (429) 1164),en P ⟨#[95,95,105,110,105,116,95,95]⟩ 1181 (.ref 777),en P ⟨#[116,111,108,100]⟩ 1188 (.ref 784),en P ⟨#[104,97,115,95,114,101,120]⟩ 1195 (.ref 791),en P ⟨#[98,105,116,115]⟩ 1202 (.ref 798),en P ⟨#[99,111,117,110,116]⟩ 1209 (.ref 805),en P ⟨#[111,99,116,101,116,115]⟩ 1217 (.ref 812),en P ⟨#[95,95,115,116,97,116,105,99,95,97,116,116,114,105,98,117,116,101,115,95,95]⟩ 1223 (.ref 813),en P ⟨#[95,95,100,105,99,116,95,95]⟩ 1225 (.ref 816),en P ⟨#[95,95,119,101,97,107,114,101,102,95,95]⟩ 1227 (.ref 817),en P ⟨#[95,95,100,111,99,95,95]⟩ 1228 .none].toArray 4,#[]⟩),
 (815,⟨(.type "type"),none,.cls ⟨⟨#[80,114,101,102,105,120,101,115]⟩,[(.type "object")],[(.ref 815),(.type "object")],814,⟨#[80,114,101,102,105,120,101,115]⟩,true,[],[],false,none,false⟩,[none,none,(some (.str ⟨#[80,114,101,102,105,120,101,115]⟩ 1154)),(some (.str ⟨#[80,114,101,102,105,120,101,115]⟩ 1162)),(some (.builtin "object.__new__")),(some (.bool true))].toArray⟩)]
noncomputable def mq (P:Params):List (Addr×Obj):=vS P ++ mn P
theorem C7 (w:World) (os:OsState):bz w os 17 (mn w.params) (vS w.params) [2,4,3,12,13,0] [3,12] 80 1 396 763 820 1154 1231 ⟨423,0,428,35⟩ ⟨429,0,468,27⟩:=by kernel_rfl
noncomputable def vT (P:Params):List DictEntry:=(vP P).append [en P ⟨#[70,105,120,117,112]⟩ 1284 (.ref 850)]
noncomputable def vU:List Value:=vQ.append [(.int (470) 0),(.int (0) 0),(.ref 825)]
noncomputable def vV (P:Params):List (Addr×Obj):=[(3,bD (bC (.str ⟨#[111,99,116,101,116,109,105,110,116,46,101,110,99,111,100,101,114]⟩ 1231) (vT P) P) 86),
 (12,bw vU),
 (833,(fo (az 82 0) ⟨#[70,105,120,117,112,46,95,95,105,110,105,116,95,95]⟩ .none (.ref 832) (.str ⟨#[111,99,116,101,116,109,105,110,116,46,101,110,99,111,100,101,114]⟩ 1231))),
 (840,(fo (az 82 1) ⟨#[70,105,120,117,112,46,116,111,108,100]⟩ .none (.ref 839) (.str ⟨#[111,99,116,101,116,109,105,110,116,46,101,110,99,111,100,101,114]⟩ 1231))),
 (847,(fo (az 82 2) ⟨#[70,105,120,117,112,46,109,111,118,101,100]⟩ .none (.ref 846) (.str ⟨#[111,99,116,101,116,109,105,110,116,46,101,110,99,111,100,101,114]⟩ 1231))),
 (849,⟨(.type "dict"),none,.dict [en P ⟨#[95,95,109,111,100,117,108,101,95,95]⟩ 1240 (.str ⟨#[111,99,116,101,116,109,105,110,116,46,101,110,99,111,100,101,114]⟩ 1231),en P ⟨#[95,95,102,105,114,115,116,108,105,110,101,110,111,95,95]⟩ 1244 (.int (470) 1243),en P ⟨#[95,95,105,110,105,116,95,95]⟩ 1256 (.ref 833),en P ⟨#[116,111,108,100]⟩ 1263 (.ref 840),en P ⟨#[109,111,118,101,100]⟩ 1271 (.ref 847),en P ⟨#[95,95,115,116,97,116,105,99,95,97,116,116,114,105,98,117,116,101,115,95,95]⟩ 1277 (.ref 848),en P ⟨#[95,95,100,105,99,116,95,95]⟩ 1279 (.ref 851),en P ⟨#[95,95,119,101,97,107,114,101,102,95,95]⟩ 1281 (.ref 852),en P ⟨#[95,95,100,111,99,95,95]⟩ 1282 .none].toArray 4,#[]⟩),
 (850,⟨(.type "type"),none,.cls ⟨⟨#[70,105,120,117,112]⟩,[(.type "object")],[(.ref 850),(.type "object")],849,⟨#[70,105,120,117,112]⟩,true,[],[],false,none,false⟩,[none,none,(some (.str ⟨#[70,105,120,117,112]⟩ 1233)),(some (.str ⟨#[70,105,120,117,112]⟩ 1241)),(some (.builtin "object.__new__")),(some (.bool true))].toArray⟩)]
noncomputable def mr (P:Params):List (Addr×Obj):=vV P ++ mq P
theorem C8 (w:World) (os:OsState):bz w os 18 (mq w.params) (vV w.params) [2,4,12,13,0,3] [12,3] 81 2 303 820 855 1231 1285 ⟨429,0,468,27⟩ ⟨470,0,483,16⟩:=by kernel_rfl
noncomputable def vW (P:Params):List DictEntry:=(vT P).append [en P ⟨#[69,110,99,111,100,105,110,103]⟩ 1332 (.ref 883),en P ⟨#[111,112,101,114,97,110,100,95,105,110]⟩ 1343 (.ref 894),en P ⟨#[115,104,97,112,101,115,95,111,102]⟩ 1350 (.ref 901),en P ⟨#[115,104,97,112,101,115,95,102,111,114]⟩ 1358 (.ref 908)]
noncomputable def vX:List Value:=vU.append [(.int (484) 0),(.int (0) 0),(.ref 860),(.int (497) 0),(.int (0) 0),(.ref 893),(.int (502) 0),(.int (0) 0),(.ref 900),(.int (508) 0),(.int (0) 0),(.ref 907)]
noncomputable def vY (P:Params):List (Addr×Obj):=[(3,bD (bC (.str ⟨#[111,99,116,101,116,109,105,110,116,46,101,110,99,111,100,101,114]⟩ 1231) (vW P) P) 90),
 (12,bw vX),
 (868,(fo (az 83 0) ⟨#[69,110,99,111,100,105,110,103,46,95,95,105,110,105,116,95,95]⟩ .none (.ref 867) (.str ⟨#[111,99,116,101,116,109,105,110,116,46,101,110,99,111,100,101,114]⟩ 1231))),
 (875,(fo (az 83 1) ⟨#[69,110,99,111,100,105,110,103,46,108,101,110,103,116,104]⟩ .none (.ref 874) (.str ⟨#[111,99,116,101,116,109,105,110,116,46,101,110,99,111,100,101,114]⟩ 1231))),
 (880,(fo (az 83 2) ⟨#[69,110,99,111,100,105,110,103,46,116,111,108,100]⟩ .none (.ref 879) (.str ⟨#[111,99,116,101,116,109,105,110,116,46,101,110,99,111,100,101,114]⟩ 1231))),
 (882,⟨(.type "dict"),none,.dict [en P ⟨#[95,95,109,111,100,117,108,101,95,95]⟩ 1292 (.str ⟨#[111,99,116,101,116,109,105,110,116,46,101,110,99,111,100,101,114]⟩ 1231),en P ⟨#[95,95,102,105,114,115,116,108,105,110,101,110,111,95,95]⟩ 1296 (.int (484) 1295),en P ⟨#[95,95,105,110,105,116,95,95]⟩ 1307 (.ref 868),en P ⟨#[108,101,110,103,116,104]⟩ 1314 (.ref 875),en P ⟨#[116,111,108,100]⟩ 1320 (.ref 880),en P ⟨#[95,95,115,116,97,116,105,99,95,97,116,116,114,105,98,117,116,101,115,95,95]⟩ 1325 (.ref 881),en P ⟨#[95,95,100,105,99,116,95,95]⟩ 1327 (.ref 884),en P ⟨#[95,95,119,101,97,107,114,101,102,95,95]⟩ 1329 (.ref 885),en P ⟨#[95,95,100,111,99,95,95]⟩ 1330 .none].toArray 4,#[]⟩),
 (883,⟨(.type "type"),none,.cls ⟨⟨#[69,110,99,111,100,105,110,103]⟩,[(.type "object")],[(.ref 883),(.type "object")],882,⟨#[69,110,99,111,100,105,110,103]⟩,true,[],[],false,none,false⟩,[none,none,(some (.str ⟨#[69,110,99,111,100,105,110,103]⟩ 1285)),(some (.str ⟨#[69,110,99,111,100,105,110,103]⟩ 1293)),(some (.builtin "object.__new__")),(some (.bool true))].toArray⟩),
 (894,(fo (ae 84) ⟨#[111,112,101,114,97,110,100,95,105,110]⟩ .none (.ref 893) (.str ⟨#[111,99,116,101,116,109,105,110,116,46,101,110,99,111,100,101,114]⟩ 1231))),
 (901,(fo (ae 85) ⟨#[115,104,97,112,101,115,95,111,102]⟩ .none (.ref 900) (.str ⟨#[111,99,116,101,116,109,105,110,116,46,101,110,99,111,100,101,114]⟩ 1231))),
 (908,(fo (ae 86) ⟨#[115,104,97,112,101,115,95,102,111,114]⟩ .none (.ref 907) (.str ⟨#[111,99,116,101,116,109,105,110,116,46,101,110,99,111,100,101,114]⟩ 1231)))]
noncomputable def mu (P:Params):List (Addr×Obj):=vY P ++ mr P
theorem C9 (w:World) (os:OsState):bz w os 19 (mr w.params) (vY w.params) [2,4,3,12,13,0] [3,12] 83 4 380 855 909 1285 1359 ⟨470,0,483,16⟩ ⟨508,0,509,65⟩:=by kernel_rfl
noncomputable def vZ (P:Params):List DictEntry:=(vW P).append [en P ⟨#[105,115,95,101,120,116,101,110,100,101,100]⟩ 1365 (.ref 915),en P ⟨#[114,101,120,95,102,111,114]⟩ 1383 (.ref 922),en P ⟨#[114,101,112,101,97,116,95,102,111,114]⟩ 1391 (.ref 929),en P ⟨#[108,111,99,107,115]⟩ 1400 (.ref 936),en P ⟨#[119,97,121,95,111,102]⟩ 1407 (.ref 943),en P ⟨#[109,111,100,114,109,95,112,97,114,116]⟩ 1421 (.ref 950),en P ⟨#[110,101,101,100,95,115,104,97,112,101]⟩ 1427 (.ref 955),en P ⟨#[110,101,101,100,95,110,111,95,110,111,112]⟩ 1435 (.ref 962),en P ⟨#[101,110,99,111,100,101]⟩ 1459 (.ref 970),en P ⟨#[115,105,122,101,115,95,111,102,95,109,101,109,111,114,121]⟩ 1472 (.ref 977),en P ⟨#[102,111,114,109,115,95,102,111,114]⟩ 1478 (.ref 982),en P ⟨#[116,114,105,101,100]⟩ 1488 (.ref 989)]
noncomputable def v7:List Value:=vX.append [(.int (510) 0),(.int (0) 0),(.ref 914),(.int (512) 0),(.int (0) 0),(.ref 921),(.int (526) 0),(.int (0) 0),(.ref 928),(.int (532) 0),(.int (0) 0),(.ref 935),(.int (539) 0),(.int (0) 0),(.ref 942),(.int (543) 0),(.int (0) 0),(.ref 949),(.int (552) 0),(.int (0) 0),(.ref 954),(.int (555) 0),(.int (0) 0),(.ref 961),(.int (558) 0),(.int (0) 0),(.ref 969),(.int (586) 0),(.int (0) 0),(.ref 976),(.int (595) 0),(.int (0) 0),(.ref 981),(.int (605) 0),(.int (0) 0),(.ref 988)]
noncomputable def v8 (P:Params):List (Addr×Obj):=[(3,bD (bC (.str ⟨#[111,99,116,101,116,109,105,110,116,46,101,110,99,111,100,101,114]⟩ 1231) (vZ P) P) 102),
 (12,bw v7),
 (915,(fo (ae 87) ⟨#[105,115,95,101,120,116,101,110,100,101,100]⟩ .none (.ref 914) (.str ⟨#[111,99,116,101,116,109,105,110,116,46,101,110,99,111,100,101,114]⟩ 1231))),
 (922,(fo (ae 88) ⟨#[114,101,120,95,102,111,114]⟩ .none (.ref 921) (.str ⟨#[111,99,116,101,116,109,105,110,116,46,101,110,99,111,100,101,114]⟩ 1231))),
 (929,(fo (ae 89) ⟨#[114,101,112,101,97,116,95,102,111,114]⟩ .none (.ref 928) (.str ⟨#[111,99,116,101,116,109,105,110,116,46,101,110,99,111,100,101,114]⟩ 1231))),
 (936,(fo (ae 90) ⟨#[108,111,99,107,115]⟩ .none (.ref 935) (.str ⟨#[111,99,116,101,116,109,105,110,116,46,101,110,99,111,100,101,114]⟩ 1231))),
 (943,(fo (ae 91) ⟨#[119,97,121,95,111,102]⟩ .none (.ref 942) (.str ⟨#[111,99,116,101,116,109,105,110,116,46,101,110,99,111,100,101,114]⟩ 1231))),
 (950,(fo (ae 92) ⟨#[109,111,100,114,109,95,112,97,114,116]⟩ .none (.ref 949) (.str ⟨#[111,99,116,101,116,109,105,110,116,46,101,110,99,111,100,101,114]⟩ 1231))),
 (955,(fo (ae 93) ⟨#[110,101,101,100,95,115,104,97,112,101]⟩ .none (.ref 954) (.str ⟨#[111,99,116,101,116,109,105,110,116,46,101,110,99,111,100,101,114]⟩ 1231))),
 (962,(fo (ae 94) ⟨#[110,101,101,100,95,110,111,95,110,111,112]⟩ .none (.ref 961) (.str ⟨#[111,99,116,101,116,109,105,110,116,46,101,110,99,111,100,101,114]⟩ 1231))),
 (963,⟨(.type "tuple"),none,.seq [.none].toArray 0,#[]⟩),
 (970,(fo (ae 95) ⟨#[101,110,99,111,100,101]⟩ (.ref 963) (.ref 969) (.str ⟨#[111,99,116,101,116,109,105,110,116,46,101,110,99,111,100,101,114]⟩ 1231))),
 (977,(fo (ae 96) ⟨#[115,105,122,101,115,95,111,102,95,109,101,109,111,114,121]⟩ .none (.ref 976) (.str ⟨#[111,99,116,101,116,109,105,110,116,46,101,110,99,111,100,101,114]⟩ 1231))),
 (982,(fo (ae 97) ⟨#[102,111,114,109,115,95,102,111,114]⟩ .none (.ref 981) (.str ⟨#[111,99,116,101,116,109,105,110,116,46,101,110,99,111,100,101,114]⟩ 1231))),
 (989,(fo (ae 98) ⟨#[116,114,105,101,100]⟩ .none (.ref 988) (.str ⟨#[111,99,116,101,116,109,105,110,116,46,101,110,99,111,100,101,114]⟩ 1231)))]
noncomputable def mw (P:Params):List (Addr×Obj):=v8 P ++ mu P
theorem Dc (w:World) (os:OsState):bz w os 20 (mu w.params) (v8 w.params) [4,3,12,13] [3,12] 87 12 392 909 990 1359 1489 ⟨508,0,509,65⟩ ⟨605,0,609,25⟩:=by kernel_rfl
noncomputable def v9 (P:Params):List DictEntry:=(vZ P).append [en P ⟨#[110,101,101,100,95,111,110,101]⟩ 1496 (.ref 996),en P ⟨#[101,110,99,111,100,105,110,103,115]⟩ 1502 (.ref 1001),en P ⟨#[102,105,108,108,101,100]⟩ 1516 (.ref 1009),en P ⟨#[102,105,101,108,100,95,119,111,114,116,104]⟩ 1528 (.ref 1016),en P ⟨#[106,117,109,112,95,102,111,114,109,115]⟩ 1539 (.ref 1023),en P ⟨#[99,97,108,108,95,102,111,114,109,115]⟩ 1545 (.ref 1030),en P ⟨#[108,111,111,112,95,102,111,114,109,115]⟩ 1551 (.ref 1037),en P ⟨#[99,111,100,101,115,95,111,102]⟩ 1559 (.ref 1042)]
noncomputable def wa:List Value:=v7.append [(.int (610) 0),(.int (0) 0),(.ref 995),(.int (613) 0),(.int (0) 0),(.ref 1000),(.int (624) 0),(.int (0) 0),(.ref 1008),(.int (630) 0),(.int (0) 0),(.ref 1015),(.int (639) 0),(.int (0) 0),(.ref 1022),(.int (646) 0),(.int (0) 0),(.ref 1029),(.int (648) 0),(.int (0) 0),(.ref 1036),(.int (651) 0),(.int (0) 0),(.ref 1041)]
noncomputable def wb (P:Params):List (Addr×Obj):=[(3,bD (bC (.str ⟨#[111,99,116,101,116,109,105,110,116,46,105,115,101,116]⟩ 1552) (v9 P) P) 110),
 (12,bw wa),
 (996,(fo (ae 99) ⟨#[110,101,101,100,95,111,110,101]⟩ .none (.ref 995) (.str ⟨#[111,99,116,101,116,109,105,110,116,46,101,110,99,111,100,101,114]⟩ 1231))),
 (998,⟨.none,none,.fields [].toArray,#[]⟩),
 (1000,⟨(.type "code"),none,.fields [(.str ⟨#[101,110,99,111,100,105,110,103,115]⟩ 1497),(.str ⟨#[101,110,99,111,100,105,110,103,115]⟩ 1498),(.str ⟨#[47,99,108,97,105,109,47,99,117,116,46,112,121]⟩ 1499),(.int (613) 0),(.int (2) 0),(.int (0) 0),(.int (0) 0),(.int (3) 0),(.ref 997),(.bool true),(.int (181) 0),(.ref 998),.none,.none,.none,(.ref 999),(.int (1500) 0),(.int (613) 0),(.str ⟨#[47,99,108,97,105,109,47,99,117,116,46,112,121]⟩ 1501)].toArray,#[]⟩),
 (1001,(fo (ae 100) ⟨#[101,110,99,111,100,105,110,103,115]⟩ .none (.ref 1000) (.str ⟨#[111,99,116,101,116,109,105,110,116,46,101,110,99,111,100,101,114]⟩ 1231))),
 (1002,⟨(.type "tuple"),none,.seq [(.int (0) 1503)].toArray 0,#[]⟩),
 (1009,(fo (ae 101) ⟨#[102,105,108,108,101,100]⟩ (.ref 1002) (.ref 1008) (.str ⟨#[111,99,116,101,116,109,105,110,116,46,101,110,99,111,100,101,114]⟩ 1231))),
 (1016,(fo (ae 102) ⟨#[102,105,101,108,100,95,119,111,114,116,104]⟩ .none (.ref 1015) (.str ⟨#[111,99,116,101,116,109,105,110,116,46,101,110,99,111,100,101,114]⟩ 1231))),
 (1023,(fo (ae 104) ⟨#[106,117,109,112,95,102,111,114,109,115]⟩ .none (.ref 1022) (.str ⟨#[111,99,116,101,116,109,105,110,116,46,102,108,111,119]⟩ 1529))),
 (1030,(fo (ae 105) ⟨#[99,97,108,108,95,102,111,114,109,115]⟩ .none (.ref 1029) (.str ⟨#[111,99,116,101,116,109,105,110,116,46,102,108,111,119]⟩ 1529))),
 (1037,(fo (ae 106) ⟨#[108,111,111,112,95,102,111,114,109,115]⟩ .none (.ref 1036) (.str ⟨#[111,99,116,101,116,109,105,110,116,46,102,108,111,119]⟩ 1529))),
 (1042,(fo (ae 108) ⟨#[99,111,100,101,115,95,111,102]⟩ .none (.ref 1041) (.str ⟨#[111,99,116,101,116,109,105,110,116,46,105,115,101,116]⟩ 1552)))]
noncomputable def my (P:Params):List (Addr×Obj):=wb P ++ mw P
theorem Dd (w:World) (os:OsState):bz w os 21 (mw w.params) (wb w.params) [4,3,12,13] [3,12] 99 10 259 990 1043 1489 1560 ⟨605,0,609,25⟩ ⟨651,0,654,82⟩:=by kernel_rfl
noncomputable def wd (P:Params):List DictEntry:=(v9 P).append [en P ⟨#[73,110,115,116,114,117,99,116,105,111,110,83,101,116]⟩ 1655 (.ref 1113)]
noncomputable def we:List Value:=wa.append [(.int (655) 0),(.int (0) 0),(.ref 1048)]
noncomputable def wg (P:Params):List (Addr×Obj):=[(3,bD (bC (.str ⟨#[111,99,116,101,116,109,105,110,116,46,105,115,101,116]⟩ 1552) (wd P) P) 111),
 (12,bw we),
 (1056,(fo (az 109 0) ⟨#[73,110,115,116,114,117,99,116,105,111,110,83,101,116,46,95,95,105,110,105,116,95,95]⟩ .none (.ref 1055) (.str ⟨#[111,99,116,101,116,109,105,110,116,46,105,115,101,116]⟩ 1552))),
 (1061,(fo (az 109 1) ⟨#[73,110,115,116,114,117,99,116,105,111,110,83,101,116,46,116,111,108,100]⟩ .none (.ref 1060) (.str ⟨#[111,99,116,101,116,109,105,110,116,46,105,115,101,116]⟩ 1552))),
 (1068,(fo (az 109 2) ⟨#[73,110,115,116,114,117,99,116,105,111,110,83,101,116,46,102,105,110,100]⟩ .none (.ref 1067) (.str ⟨#[111,99,116,101,116,109,105,110,116,46,105,115,101,116]⟩ 1552))),
 (1075,(fo (az 109 3) ⟨#[73,110,115,116,114,117,99,116,105,111,110,83,101,116,46,104,97,115]⟩ .none (.ref 1074) (.str ⟨#[111,99,116,101,116,109,105,110,116,46,105,115,101,116]⟩ 1552))),
 (1082,(fo (az 109 4) ⟨#[73,110,115,116,114,117,99,116,105,111,110,83,101,116,46,97,116]⟩ .none (.ref 1081) (.str ⟨#[111,99,116,101,116,109,105,110,116,46,105,115,101,116]⟩ 1552))),
 (1089,(fo (az 109 5) ⟨#[73,110,115,116,114,117,99,116,105,111,110,83,101,116,46,110,97,109,101,115]⟩ .none (.ref 1088) (.str ⟨#[111,99,116,101,116,109,105,110,116,46,105,115,101,116]⟩ 1552))),
 (1096,(fo (az 109 6) ⟨#[73,110,115,116,114,117,99,116,105,111,110,83,101,116,46,99,111,100,101,115]⟩ .none (.ref 1095) (.str ⟨#[111,99,116,101,116,109,105,110,116,46,105,115,101,116]⟩ 1552))),
 (1103,(fo (az 109 7) ⟨#[73,110,115,116,114,117,99,116,105,111,110,83,101,116,46,99,111,117,110,116,115]⟩ .none (.ref 1102) (.str ⟨#[111,99,116,101,116,109,105,110,116,46,105,115,101,116]⟩ 1552))),
 (1110,(fo (az 109 8) ⟨#[73,110,115,116,114,117,99,116,105,111,110,83,101,116,46,109,101,109,111,114,121,95,115,105,122,101,115]⟩ .none (.ref 1109) (.str ⟨#[111,99,116,101,116,109,105,110,116,46,105,115,101,116]⟩ 1552))),
 (1112,⟨(.type "dict"),none,.dict [en P ⟨#[95,95,109,111,100,117,108,101,95,95]⟩ 1567 (.str ⟨#[111,99,116,101,116,109,105,110,116,46,105,115,101,116]⟩ 1552),en P ⟨#[95,95,102,105,114,115,116,108,105,110,101,110,111,95,95]⟩ 1571 (.int (655) 1570),en P ⟨#[95,95,105,110,105,116,95,95]⟩ 1582 (.ref 1056),en P ⟨#[116,111,108,100]⟩ 1588 (.ref 1061),en P ⟨#[102,105,110,100]⟩ 1596 (.ref 1068),en P ⟨#[104,97,115]⟩ 1604 (.ref 1075),en P ⟨#[97,116]⟩ 1614 (.ref 1082),en P ⟨#[110,97,109,101,115]⟩ 1621 (.ref 1089),en P ⟨#[99,111,100,101,115]⟩ 1628 (.ref 1096),en P ⟨#[99,111,117,110,116,115]⟩ 1636 (.ref 1103),en P ⟨#[109,101,109,111,114,121,95,115,105,122,101,115]⟩ 1644 (.ref 1110),en P ⟨#[95,95,115,116,97,116,105,99,95,97,116,116,114,105,98,117,116,101,115,95,95]⟩ 1648 (.ref 1111),en P ⟨#[95,95,100,105,99,116,95,95]⟩ 1650 (.ref 1114),en P ⟨#[95,95,119,101,97,107,114,101,102,95,95]⟩ 1652 (.ref 1115),en P ⟨#[95,95,100,111,99,95,95]⟩ 1653 .none].toArray 4,#[]⟩),
 (1113,⟨(.type "type"),none,.cls ⟨⟨#[73,110,115,116,114,117,99,116,105,111,110,83,101,116]⟩,[(.type "object")],[(.ref 1113),(.type "object")],1112,⟨#[73,110,115,116,114,117,99,116,105,111,110,83,101,116]⟩,true,[],[],false,none,false⟩,[none,none,(some (.str ⟨#[73,110,115,116,114,117,99,116,105,111,110,83,101,116]⟩ 1560)),(some (.str ⟨#[73,110,115,116,114,117,99,116,105,111,110,83,101,116]⟩ 1568)),(some (.builtin "object.__new__")),(some (.bool true))].toArray⟩)]
noncomputable def mz (P:Params):List (Addr×Obj):=wg P ++ my P
theorem De (w:World) (os:OsState):bz w os 22 (my w.params) (wg w.params) [2,4,3,12,13,0] [3,12] 109 1 480 1043 1118 1560 1656 ⟨651,0,654,82⟩ ⟨655,0,694,17⟩:=by kernel_rfl
noncomputable def wh (P:Params):List DictEntry:=(wd P).append [en P ⟨#[115,105,122,101,100,95,102,111,114,109,115]⟩ 1675 (.ref 1125),en P ⟨#[98,111,116,104,95,119,97,121,115]⟩ 1684 (.ref 1132),en P ⟨#[109,111,118,95,102,111,114,109,115]⟩ 1691 (.ref 1139),en P ⟨#[78,65,77,69,83,95,56]⟩ 1695 (.str ⟨#[97,108,32,99,108,32,100,108,32,98,108,32,115,112,108,32,98,112,108,32,115,105,108,32,100,105,108]⟩ 1694),en P ⟨#[78,65,77,69,83,95,49,54]⟩ 1697 (.str ⟨#[97,120,32,99,120,32,100,120,32,98,120,32,115,112,32,98,112,32,115,105,32,100,105]⟩ 1696),en P ⟨#[78,65,77,69,83,95,51,50]⟩ 1699 (.str ⟨#[101,97,120,32,101,99,120,32,101,100,120,32,101,98,120,32,101,115,112,32,101,98,112,32,101,115,105,32,101,100,105]⟩ 1698),en P ⟨#[78,65,77,69,83,95,54,52]⟩ 1701 (.str ⟨#[114,97,120,32,114,99,120,32,114,100,120,32,114,98,120,32,114,115,112,32,114,98,112,32,114,115,105,32,114,100,105]⟩ 1700)]
noncomputable def wi:List Value:=we.append [(.int (696) 0),(.int (0) 0),(.ref 1124),(.int (704) 0),(.int (0) 0),(.ref 1131),(.int (710) 0),(.int (0) 0),(.ref 1138)]
noncomputable def wj (P:Params):List (Addr×Obj):=[(3,bD (bC (.str ⟨#[111,99,116,101,116,109,105,110,116,46,114,101,103,105,115,116,101,114,115]⟩ 1692) (wh P) P) 118),
 (12,bw wi),
 (1118,⟨(.type "tuple"),none,.seq [(.int (-1) 1659),(.int (0) 1660)].toArray 0,#[]⟩),
 (1125,(fo (ae 111) ⟨#[115,105,122,101,100,95,102,111,114,109,115]⟩ (.ref 1118) (.ref 1124) (.str ⟨#[111,99,116,101,116,109,105,110,116,46,109,111,118,101,115]⟩ 1656))),
 (1132,(fo (ae 112) ⟨#[98,111,116,104,95,119,97,121,115]⟩ .none (.ref 1131) (.str ⟨#[111,99,116,101,116,109,105,110,116,46,109,111,118,101,115]⟩ 1656))),
 (1139,(fo (ae 113) ⟨#[109,111,118,95,102,111,114,109,115]⟩ .none (.ref 1138) (.str ⟨#[111,99,116,101,116,109,105,110,116,46,109,111,118,101,115]⟩ 1656)))]
noncomputable def mA (P:Params):List (Addr×Obj):=wj P ++ mz P
theorem Df (w:World) (os:OsState):bz w os 23 (mz w.params) (wj w.params) [4,12,13,3] [12,3] 110 9 160 1118 1140 1656 1702 ⟨655,0,694,17⟩ ⟨725,0,725,8⟩:=by kernel_rfl
noncomputable def wk (P:Params):List DictEntry:=(wh P).append [en P ⟨#[82,101,103,105,115,116,101,114]⟩ 1771 (.ref 1191)]
noncomputable def wm:List Value:=wi.append [(.int (726) 0),(.int (0) 0),(.ref 1145)]
noncomputable def wo (P:Params):List (Addr×Obj):=[(3,bD (bC (.str ⟨#[111,99,116,101,116,109,105,110,116,46,114,101,103,105,115,116,101,114,115]⟩ 1692) (wk P) P) 119),
 (12,bw wm),
 (1153,(fo (az 119 0) ⟨#[82,101,103,105,115,116,101,114,46,95,95,105,110,105,116,95,95]⟩ .none (.ref 1152) (.str ⟨#[111,99,116,101,116,109,105,110,116,46,114,101,103,105,115,116,101,114,115]⟩ 1692))),
 (1160,(fo (az 119 1) ⟨#[82,101,103,105,115,116,101,114,46,99,111,100,101]⟩ .none (.ref 1159) (.str ⟨#[111,99,116,101,116,109,105,110,116,46,114,101,103,105,115,116,101,114,115]⟩ 1692))),
 (1167,(fo (az 119 2) ⟨#[82,101,103,105,115,116,101,114,46,105,115,95,101,120,116,101,110,100,101,100]⟩ .none (.ref 1166) (.str ⟨#[111,99,116,101,116,109,105,110,116,46,114,101,103,105,115,116,101,114,115]⟩ 1692))),
 (1174,(fo (az 119 3) ⟨#[82,101,103,105,115,116,101,114,46,105,115,95,104,105,103,104]⟩ .none (.ref 1173) (.str ⟨#[111,99,116,101,116,109,105,110,116,46,114,101,103,105,115,116,101,114,115]⟩ 1692))),
 (1181,(fo (az 119 4) ⟨#[82,101,103,105,115,116,101,114,46,110,101,101,100,115,95,114,101,120]⟩ .none (.ref 1180) (.str ⟨#[111,99,116,101,116,109,105,110,116,46,114,101,103,105,115,116,101,114,115]⟩ 1692))),
 (1188,(fo (az 119 5) ⟨#[82,101,103,105,115,116,101,114,46,116,111,108,100]⟩ .none (.ref 1187) (.str ⟨#[111,99,116,101,116,109,105,110,116,46,114,101,103,105,115,116,101,114,115]⟩ 1692))),
 (1190,⟨(.type "dict"),none,.dict [en P ⟨#[95,95,109,111,100,117,108,101,95,95]⟩ 1709 (.str ⟨#[111,99,116,101,116,109,105,110,116,46,114,101,103,105,115,116,101,114,115]⟩ 1692),en P ⟨#[95,95,102,105,114,115,116,108,105,110,101,110,111,95,95]⟩ 1713 (.int (726) 1712),en P ⟨#[95,95,105,110,105,116,95,95]⟩ 1724 (.ref 1153),en P ⟨#[99,111,100,101]⟩ 1731 (.ref 1160),en P ⟨#[105,115,95,101,120,116,101,110,100,101,100]⟩ 1738 (.ref 1167),en P ⟨#[105,115,95,104,105,103,104]⟩ 1745 (.ref 1174),en P ⟨#[110,101,101,100,115,95,114,101,120]⟩ 1752 (.ref 1181),en P ⟨#[116,111,108,100]⟩ 1759 (.ref 1188),en P ⟨#[95,95,115,116,97,116,105,99,95,97,116,116,114,105,98,117,116,101,115,95,95]⟩ 1764 (.ref 1189),en P ⟨#[95,95,100,105,99,116,95,95]⟩ 1766 (.ref 1192),en P ⟨#[95,95,119,101,97,107,114,101,102,95,95]⟩ 1768 (.ref 1193),en P ⟨#[95,95,100,111,99,95,95]⟩ 1769 .none].toArray 4,#[]⟩),
 (1191,⟨(.type "type"),none,.cls ⟨⟨#[82,101,103,105,115,116,101,114]⟩,[(.type "object")],[(.ref 1191),(.type "object")],1190,⟨#[82,101,103,105,115,116,101,114]⟩,true,[],[],false,none,false⟩,[none,none,(some (.str ⟨#[82,101,103,105,115,116,101,114]⟩ 1702)),(some (.str ⟨#[82,101,103,105,115,116,101,114]⟩ 1710)),(some (.builtin "object.__new__")),(some (.bool true))].toArray⟩)]
noncomputable def mB (P:Params):List (Addr×Obj):=wo P ++ mA P
theorem Dg (w:World) (os:OsState):bz w os 24 (mA w.params) (wo w.params) [2,4,3,12,13,0] [3,12] 119 1 384 1140 1196 1702 1772 ⟨725,0,725,8⟩ ⟨726,0,749,24⟩:=by kernel_rfl
noncomputable def wq (P:Params):List DictEntry:=(wk P).append [en P ⟨#[101,97,114,108,121,95,110,97,109,101,115]⟩ 1778 (.ref 1202),en P ⟨#[108,97,116,101,95,101,110,100,105,110,103]⟩ 1785 (.ref 1209),en P ⟨#[103,112,114]⟩ 1794 (.ref 1216),en P ⟨#[114,105,112]⟩ 1800 (.ref 1223),en P ⟨#[95,108,97,119,95,109,101,109,111,114,121]⟩ 1816 (.ref 1230),en P ⟨#[95,108,97,119,95,106,117,109,112]⟩ 1826 (.ref 1237),en P ⟨#[95,108,97,119,95,108,105,110,101]⟩ 1844 (.ref 1244),en P ⟨#[95,108,97,119,95,119,105,115,104]⟩ 1855 (.ref 1251),en P ⟨#[95,108,97,119,95,98,101,97,114,115]⟩ 1865 (.ref 1258),en P ⟨#[95,108,97,119,95,114,101,97,100]⟩ 1871 (.ref 1263),en P ⟨#[95,108,97,119,95,102,105,101,108,100,115,95,114,105,103,104,116]⟩ 1877 (.ref 1268),en P ⟨#[95,108,97,119,95,112,117,116]⟩ 1885 (.ref 1275)]
noncomputable def wt:List Value:=wm.append [(.int (750) 0),(.int (0) 0),(.ref 1201),(.int (760) 0),(.int (0) 0),(.ref 1208),(.int (768) 0),(.int (0) 0),(.ref 1215),(.int (775) 0),(.int (0) 0),(.ref 1222),(.int (778) 0),(.int (0) 0),(.ref 1229),(.int (793) 0),(.int (0) 0),(.ref 1236),(.int (800) 0),(.int (0) 0),(.ref 1243),(.int (818) 0),(.int (0) 0),(.ref 1250),(.int (822) 0),(.int (0) 0),(.ref 1257),(.int (825) 0),(.int (0) 0),(.ref 1262),(.int (828) 0),(.int (0) 0),(.ref 1267),(.int (843) 0),(.int (0) 0),(.ref 1274)]
noncomputable def wu (P:Params):List (Addr×Obj):=[(3,bD (bC (.str ⟨#[108,97,119,95,110,110,48,48,56,54,95,48,49]⟩ 1801) (wq P) P) 131),
 (12,bw wt),
 (1202,(fo (ae 120) ⟨#[101,97,114,108,121,95,110,97,109,101,115]⟩ .none (.ref 1201) (.str ⟨#[111,99,116,101,116,109,105,110,116,46,114,101,103,105,115,116,101,114,115]⟩ 1692))),
 (1209,(fo (ae 121) ⟨#[108,97,116,101,95,101,110,100,105,110,103]⟩ .none (.ref 1208) (.str ⟨#[111,99,116,101,116,109,105,110,116,46,114,101,103,105,115,116,101,114,115]⟩ 1692))),
 (1216,(fo (ae 122) ⟨#[103,112,114]⟩ .none (.ref 1215) (.str ⟨#[111,99,116,101,116,109,105,110,116,46,114,101,103,105,115,116,101,114,115]⟩ 1692))),
 (1223,(fo (ae 123) ⟨#[114,105,112]⟩ .none (.ref 1222) (.str ⟨#[111,99,116,101,116,109,105,110,116,46,114,101,103,105,115,116,101,114,115]⟩ 1692))),
 (1230,(fo (ae 125) ⟨#[95,108,97,119,95,109,101,109,111,114,121]⟩ .none (.ref 1229) (.str ⟨#[108,97,119,95,110,110,48,48,56,54,95,48,49]⟩ 1801))),
 (1237,(fo (ae 126) ⟨#[95,108,97,119,95,106,117,109,112]⟩ .none (.ref 1236) (.str ⟨#[108,97,119,95,110,110,48,48,56,54,95,48,49]⟩ 1801))),
 (1244,(fo (ae 127) ⟨#[95,108,97,119,95,108,105,110,101]⟩ .none (.ref 1243) (.str ⟨#[108,97,119,95,110,110,48,48,56,54,95,48,49]⟩ 1801))),
 (1251,(fo (ae 128) ⟨#[95,108,97,119,95,119,105,115,104]⟩ .none (.ref 1250) (.str ⟨#[108,97,119,95,110,110,48,48,56,54,95,48,49]⟩ 1801))),
 (1258,(fo (ae 129) ⟨#[95,108,97,119,95,98,101,97,114,115]⟩ .none (.ref 1257) (.str ⟨#[108,97,119,95,110,110,48,48,56,54,95,48,49]⟩ 1801))),
 (1263,(fo (ae 130) ⟨#[95,108,97,119,95,114,101,97,100]⟩ .none (.ref 1262) (.str ⟨#[108,97,119,95,110,110,48,48,56,54,95,48,49]⟩ 1801))),
 (1268,(fo (ae 131) ⟨#[95,108,97,119,95,102,105,101,108,100,115,95,114,105,103,104,116]⟩ .none (.ref 1267) (.str ⟨#[108,97,119,95,110,110,48,48,56,54,95,48,49]⟩ 1801))),
 (1275,(fo (ae 132) ⟨#[95,108,97,119,95,112,117,116]⟩ .none (.ref 1274) (.str ⟨#[108,97,119,95,110,110,48,48,56,54,95,48,49]⟩ 1801)))]
noncomputable def mC (P:Params):List (Addr×Obj):=wu P ++ mB P
theorem Dh (w:World) (os:OsState):bz w os 25 (mB w.params) (wu w.params) [4,3,12,13] [3,12] 120 13 382 1196 1276 1772 1886 ⟨726,0,749,24⟩ ⟨843,0,846,62⟩:=by kernel_rfl
noncomputable def Di (P:Params):List DictEntry:=(wq P).append [en P ⟨#[95,108,97,119,95,112,108,97,105,110,95,108,105,110,101]⟩ 1899 (.ref 1282),en P ⟨#[95,108,97,119,95,102,105,108,108,101,100,95,114,105,103,104,116]⟩ 1922 (.ref 1289),en P ⟨#[108,97,119]⟩ 1928 (.ref 1294)]
noncomputable def Dj:List Value:=wt.append [(.int (847) 0),(.int (0) 0),(.ref 1281),(.int (855) 0),(.int (0) 0),(.ref 1288),(.int (878) 0),(.int (0) 0),(.ref 1293)]
noncomputable def wx (P:Params):List (Addr×Obj):=[(3,bD (bC (.str ⟨#[108,97,119,95,110,110,48,48,56,54,95,48,49]⟩ 1801) (Di P) P) 134),
 (12,bw Dj),
 (1282,(fo (ae 133) ⟨#[95,108,97,119,95,112,108,97,105,110,95,108,105,110,101]⟩ .none (.ref 1281) (.str ⟨#[108,97,119,95,110,110,48,48,56,54,95,48,49]⟩ 1801))),
 (1289,(fo (ae 134) ⟨#[95,108,97,119,95,102,105,108,108,101,100,95,114,105,103,104,116]⟩ .none (.ref 1288) (.str ⟨#[108,97,119,95,110,110,48,48,56,54,95,48,49]⟩ 1801))),
 (1294,(fo (ae 135) ⟨#[108,97,119]⟩ .none (.ref 1293) (.str ⟨#[108,97,119,95,110,110,48,48,56,54,95,48,49]⟩ 1801)))]
noncomputable def br (P:Params):List (Addr×Obj):=wx P ++ mC P
theorem Dk (w:World) (os:OsState):bz w os 26 (mC w.params) (wx w.params) [4,3,12,13] [3,12] 133 3 108 1276 1295 1886 1929 ⟨843,0,846,62⟩ ⟨878,0,894,15⟩:=by kernel_rfl
end Mine
end
section
set_option backward.match.sparseCases false
open PySem PySem.W PyProof.Rows PySem.Calls
set_option maxRecDepth 100000
namespace Mine
theorem wy (w:World):lV w = step (denote treeTable) pw w:=by
 unfold lV
 rw [← Fast.te8437177126325714943,← Fast.te11892475500146522536,← Fast.te14364793385576792824]
theorem wz:lW = stepOk 11 (some (.ref 6)):=by
 unfold lW
 rw [← Fast.te6613529449190102663]
set_option tactic.hygienic true in
theorem qd {F:List (Addr×Obj)}:∀ {l:List Addr} {a:Addr} {o:Obj},aP (sel F l) a = some o→aP F a = some o
 | [],_,_,e=>by cases e
 | b::r,a,o,e=>by
  unfold sel at e
  split at e
  ·rename_i o' ho
   rw [iN] at e
   by_cases q:b = a
   ·subst q; rw [if_pos rfl] at e; rw [ho]; exact e
   ·rw [if_neg q] at e; exact qd e
  ·exact qd e
theorem wA:∀ {X F:List (Addr×Obj)} {a:Addr},aP (X ++ F) a = match aP X a with | some o=>some o | none=>aP F a
 | [],F,a=>rfl
 | p::X,F,a=>by
  obtain ⟨b,o⟩:=p
  show aP ((b,o)::(X ++ F)) a = _
  rw [iN,iN]
  by_cases q:b = a
  ·simp [q]
  ·simp only [q,if_false]; exact wA
theorem mD {X:List (Addr×Obj)} {a:Addr} {o:Obj} (e:aP X a = some o):(a,o)∈X:=by
 induction X with
 | nil=>cases e
 | cons p X ih=>
  obtain ⟨b,o'⟩:=p
  rw [iN] at e
  by_cases q:b = a
  ·subst q; rw [if_pos rfl] at e; cases e; exact .head _
  ·rw [if_neg q] at e; exact .tail _ (ih e)
noncomputable def Fact (F:List (Addr×Obj)) (h:Heap):Prop:=∀ a o,aP F a = some o→h.get? a = some o
noncomputable def Named (X:List (Addr×Obj)) (h:Heap):Prop:=∀ c∈X.filterMap a0,qc (h.get? c.1) = some c.2
noncomputable abbrev cH (h:Heap) (t:Nat) (os:OsState):Shared:=⟨h,#[],boot_drawn,t,os⟩
theorem Dl {w:World} {os:OsState} {h:Heap} {g:Nat} {F X:List (Addr×Obj)} {olds ua:List Addr} {st m N n n' t t':Nat} {q q':Pos} (e:bz w os g F X olds ua st m N n n' t t' q q') (hF:Fact F h) (hn:h.objs.size = n):
  ∃ h',segRun treeTable pw w 11 (some (.ref 6)) 1 N (cH h t os) (piecesOf (lU st m) jS cT q [topFrame q0]) = some (.next,cH h' t' os,cT,q')∧h'.objs.size = n'∧h'.life = h.life∧
   Fact (X ++ F) h'∧Named X h'∧(∀ b o,b∉ua→h.get? b = some o→h'.get? b = some o):=by
 refine af fun nG=>?_
 obtain ⟨⟨f,P,c,qq⟩,hr,hl⟩:=Option.map_eq_some_iff.mp e
 unfold look at hl
 dsimp only at hl
 simp only [Prod.mk.injEq] at hl
 obtain ⟨rfl,h1,h2,h3,h4,rfl,rfl,h5,h6,h7⟩:=hl
 rw [wy,wz] at hr
 have R:Rep ⟨sel F olds,n,#[],boot_drawn,t,[]⟩ h:=⟨fun a o e=>hF a o (qd e),hn⟩
 obtain ⟨h',z1,z2,z3,-,z5⟩:=uL R hr
 have hP:P.sh h' os = cH h' t' os:=by unfold PS.sh; rw [h2,h3,h4]
 rw [hP] at z1
 obtain ⟨u1,u2⟩:=Bool.and_eq_true_iff.mp h5
 refine nG ?_
 have keep:∀ b o,b∉ua→h.get? b = some o→h'.get? b = some o:=fun b o hb he=>z5 b o (fun hm=>by
  have:=List.all_eq_true.mp u1 b hm
  rcases Bool.or_eq_true_iff.mp this with y | y
  ·exact absurd (Heap.lt_size he) (Nat.not_lt.mpr (hn▸Nat.le_of_ble_eq_true y))
  ·exact hb (List.contains_iff_mem.mp y)) he
 have inX:∀ a o,(a,o)∈X→h'.get? a = some o:=fun a o hm=>by
  have h6':X.map (fun p=>aP P.kn p.1) = X.map (fun p=>some p.2):=h6
  have:=List.map_inj_left.mp h6' (a,o) hm
  exact z2.kn a o this
 refine ⟨h',z1,z2.n.trans h1,z3,fun a o e=>?_,fun c hc=>?_,keep⟩
 ·rw [wA] at e
  cases q:aP X a with
  | some o'=>rw [q] at e; cases e; exact inX a o (mD q)
  | none=>
   rw [q] at e
   refine keep a o (fun hm=>?_) (hF a o e)
   have:=List.all_eq_true.mp u2 a hm
   rw [q] at this; cases this
 ·have h7':(X.filterMap a0).map (fun c=>qc (aP P.kn c.1)) = (X.filterMap a0).map fun c=>some c.2:=h7
  have:=List.map_inj_left.mp h7' c hc
  cases q:aP P.kn c.1 with
  | none=>rw [q] at this; cases this
  | some o=>rw [q] at this; rw [z2.kn _ _ q]; exact this
noncomputable def mE (st:Shared→Thread→Step) (ok:Thread→Bool) (os:OsState):Nat→PS→Thread→Option (PS×Thread)
 | 0,P,t=>some (P,t)
 | n + 1,P,t=>match through t with
  | true=>none
  | false=>match ok t with
   | false=>none
   | true=>match eR st os P t with
    | some (P',t')=>mE st ok os n P' t'
    | none=>none
theorem wB {tb:String→Option Builtin} {p:Program} {w:World} {n₀:Nat} {ann:Option Value} {os:OsState}:∀ {n:Nat} {P P':PS} {t t':Thread} {h:Heap},Rep P h→
  mE (step (denote tb) p w) (stepOk n₀ ann) os n P t = some (P',t')→∃ h',topGo tb p w n₀ ann n (P.sh h os) t = some (P'.sh h' os,t')∧eU P P' h h'
 | 0,_,_,_,_,h,R,e=>by cases e; exact ⟨h,rfl,.refl R⟩
 | n + 1,P,P',t,t',h,R,e=>by
  unfold mE at e
  unfold topGo
  cases he:through t with
  | true=>rw [he] at e; cases e
  | false=>
   rw [he] at e
   cases hk:stepOk n₀ ann t with
   | false=>rw [hk] at e; cases e
   | true=>
    rw [hk] at e
    cases hs:eR (step (denote tb) p w) os P t with
    | none=>rw [hs] at e; cases e
    | some r=>
     rw [hs] at e
     obtain ⟨h₂,a,K⟩:=uK R hk hs
     obtain ⟨h',z,K'⟩:=wB K.rep e
     dsimp only
     rw [a]
     exact ⟨h',z,K.trans K'⟩
noncomputable def FB (P:Params):List (Addr×Obj):=[(0,boot_o_0 P),(1,boot_o_1 P),(2,boot_o_2 P),(3,boot_o_3 P),(4,boot_o_4 P),(5,boot_o_5 P),(6,boot_o_6 P),(7,boot_o_7 P),(8,boot_o_8 P),(9,boot_o_9 P),(10,boot_o_10 P)]
noncomputable def Dm (X:List (Addr×Obj)) (r:PS×Thread):Nat×Array GenState×Drawn×Nat×Bool×List (Option Obj)×Thread:=match r with
 | (P,t)=>(P.n,P.gens,P.drawn,P.toks,P.up.isEmpty,X.map (fun p=>aP P.kn p.1),t)
noncomputable def XG:List (Addr×Obj):=[(12,bw []),(13,uM)]
theorem Dn (w:World) (os:OsState):(mE (lV w) lW os 12 ⟨FB w.params,11,#[],boot_drawn,181,[]⟩ (topStub pw)).map (Dm XG) =
  some (15,#[],boot_drawn,187,true,XG.map (fun p=>some p.2),⟨Fast.tw11892475500146522536 Fast.tw14364793385576792824 cT,cT,q0,[topFrame q0]⟩):=by kernel_rfl
theorem Dp (P:Params):(FB P).map (fun p=>(boot_heap P).get? p.1) = (FB P).map fun p=>some p.2:=by kernel_rfl
theorem wC (P:Params):(boot_heap P).objs.size = 11:=by kernel_rfl
theorem Pd (P:Params):gU P = gU P:=rfl
noncomputable abbrev jT (w:World) (N:Nat) (s:Shared) (t:Thread):Option Shared:=topRun treeTable pw w 11 (some (.ref 6)) N s t
noncomputable abbrev S0 (w:World) (os:OsState):Shared:=⟨boot_heap w.params,#[],boot_drawn,boot_toks,os⟩
noncomputable def Reach (w:World) (os:OsState) (k t n:Nat) (q:Pos) (F:List (Addr×Obj)):Prop:=
 ∃ h,h.objs.size = n∧h.life = (boot_heap w.params).life∧Fact F h∧Named F h∧
  ∀ N r,jT w N (cH h t os) (restOf (BD.drop k) jS cT q [topFrame q0]) = some r→∃ M,jT w M (S0 w os) (topStub pw) = some r
theorem Dq (w:World) (h:Heap) (t:Nat) (os:OsState):segRun treeTable pw w 11 (some (.ref 6)) 1 1 (cH h t os) (blockOf BD jS cT q0 [topFrame q0]) = some (.next,cH h t os,cT,q0):=by kernel_rfl
theorem Dr (w:World) (os:OsState):Reach w os 0 187 15 q0 (gU w.params):=by
 refine af fun nG=>?_
 have e:=Dn w os
 obtain ⟨⟨P,t⟩,hr,hl⟩:=Option.map_eq_some_iff.mp e
 have h1:P.n = 15:=congrArg (·.1) hl
 have h2:P.gens = #[]:=congrArg (·.2.1) hl
 have h3:P.drawn = boot_drawn:=congrArg (·.2.2.1) hl
 have h4:P.toks = 187:=congrArg (·.2.2.2.1) hl
 have h5:P.up.isEmpty = true:=congrArg (·.2.2.2.2.1) hl
 have h6:XG.map (fun p=>aP P.kn p.1) = XG.map (fun p=>some p.2):=congrArg (·.2.2.2.2.2.1) hl
 obtain rfl:t = _:=congrArg (·.2.2.2.2.2.2) hl
 rw [wy,wz] at hr
 have bf:=List.map_inj_left.mp (Dp w.params)
 have R:Rep ⟨FB w.params,11,#[],boot_drawn,181,[]⟩ (boot_heap w.params):=⟨fun a o q=>bf _ (mD q),wC _⟩
 obtain ⟨h',z1,z2,z3,-,z5⟩:=wB R hr
 refine nG ?_
 have hP:P.sh h' os = cH h' 187 os:=by unfold PS.sh; rw [h2,h3,h4]
 rw [hP,← Fast.te11892475500146522536,← Fast.te14364793385576792824] at z1
 have hu:P.up = []:=List.isEmpty_iff.mp h5
 refine ⟨h',z2.n.trans h1,z3,fun a o q=>?_,fun c hc=>?_,fun N r hN=>⟨12 + (1 + N),?_⟩⟩
 ·have bk:∀ a o,(boot_heap w.params).get? a = some o→h'.get? a = some o:=fun a o q=>z5 a o (by rw [hu]; exact fun m=>nomatch m) q
  have inX:∀ p∈XG,h'.get? p.1 = some p.2:=fun p hp=>z2.kn _ _ (List.map_inj_left.mp h6 p hp)
  have hm:(a,o)∈(FB w.params).take 7 ++ XG:=mD q
  rcases List.mem_append.mp hm with m | m
  ·exact bk _ _ (bf _ (List.mem_of_mem_take m))
  ·exact inX _ m
 ·have:(gU w.params).filterMap a0 = []:=by kernel_rfl
  rw [this] at hc; cases hc
 ·exact go_top z1 (piece_block (Dq w h' 187 os) hN)
theorem bF {w:World} {os:OsState} {g:Nat} {F X:List (Addr×Obj)} {olds ua:List Addr} {st m N n n' t t':Nat} {q q':Pos} (R:Reach w os st t n q F) (e:bz w os g F X olds ua st m N n n' t t' q q')
  (hc:((F.filterMap a0).all fun c=>!ua.contains c.1) = true):Reach w os (st + m) t' n' q' (X ++ F):=by
 refine af fun nG=>?_
 obtain ⟨h,hn,hl,hF,hN,hr⟩:=R
 obtain ⟨h',z1,z2,z3,z4,z5,z6⟩:=Dl e hF hn
 refine nG ?_
 refine ⟨h',z2,z3.trans hl,z4,fun c hm=>?_,fun M r hM=>?_⟩
 ·rw [List.filterMap_append] at hm
  rcases List.mem_append.mp hm with hm | hm
  ·exact z5 c hm
  ·have a:=hN c hm
   have b:=List.all_eq_true.mp hc c hm
   have nm:c.1∉ua:=by simpa using b
   cases y:h.get? c.1 with
   | none=>rw [y] at a; cases a
   | some o=>rw [z6 _ _ nm y,← y]; exact a
 ·refine hr (N + M) r ?_
  have sp:BD.drop st = lU st m ++ BD.drop (st + m):=by
   unfold lU
   rw [← List.drop_drop,List.take_append_drop]
  rw [sp]
  exact piece_app z1 hM
theorem Ds (w:World):(((gU w.params).filterMap a0).all fun c=>!([2,3,12]:List Addr).contains c.1) = true:=by kernel_rfl
theorem Dt (w:World) (os:OsState):Reach w os 3 234 50 ⟨5,0,15,29⟩ (lY w.params):=bF (Dr w os) (CQ w os) (Ds w)
theorem Du (w:World):(((lY w.params).filterMap a0).all fun c=>!([3,46,12]:List Addr).contains c.1) = true:=by kernel_rfl
theorem Dv (w:World) (os:OsState):Reach w os 4 250 62 ⟨16,0,17,8⟩ (lZ w.params):=bF (Dt w os) (CR w os) (Du w)
theorem Dw (w:World):(((lZ w.params).filterMap a0).all fun c=>!([3,46,12]:List Addr).contains c.1) = true:=by kernel_rfl
theorem Dx (w:World) (os:OsState):Reach w os 11 315 116 ⟨34,0,35,50⟩ (l5 w.params):=bF (Dv w os) (CS w os) (Dw w)
theorem Dy (w:World):(((l5 w.params).filterMap a0).all fun c=>!([3,12]:List Addr).contains c.1) = true:=by kernel_rfl
theorem Dz (w:World) (os:OsState):Reach w os 27 409 193 ⟨92,0,102,66⟩ (l6 w.params):=bF (Dx w os) (CT w os) (Dy w)
theorem DA (w:World):(((l6 w.params).filterMap a0).all fun c=>!([3,12]:List Addr).contains c.1) = true:=by kernel_rfl
theorem DB (w:World) (os:OsState):Reach w os 29 426 207 ⟨107,0,118,49⟩ (l7 w.params):=bF (Dz w os) (CU w os) (DA w)
theorem DC (w:World):(((l7 w.params).filterMap a0).all fun c=>!([3,12]:List Addr).contains c.1) = true:=by kernel_rfl
theorem DD (w:World) (os:OsState):Reach w os 30 509 269 ⟨119,0,149,16⟩ (l8 w.params):=bF (DB w os) (CV w os) (DC w)
theorem DE (w:World):(((l8 w.params).filterMap a0).all fun c=>!([3,12]:List Addr).contains c.1) = true:=by kernel_rfl
theorem DF (w:World) (os:OsState):Reach w os 36 539 290 ⟨165,0,165,6⟩ (l9 w.params):=bF (DD w os) (CW w os) (DE w)
theorem DG (w:World):(((l9 w.params).filterMap a0).all fun c=>!([3,12]:List Addr).contains c.1) = true:=by kernel_rfl
theorem DH (w:World) (os:OsState):Reach w os 37 589 332 ⟨166,0,178,17⟩ (ma w.params):=bF (DF w os) (CX w os) (DG w)
theorem DI (w:World):(((ma w.params).filterMap a0).all fun c=>!([3,327,12]:List Addr).contains c.1) = true:=by kernel_rfl
theorem DJ (w:World) (os:OsState):Reach w os 38 628 365 ⟨179,0,189,30⟩ (mc w.params):=bF (DH w os) (CY w os) (DI w)
theorem DK (w:World):(((mc w.params).filterMap a0).all fun c=>!([3,327,12]:List Addr).contains c.1) = true:=by kernel_rfl
theorem DL (w:World) (os:OsState):Reach w os 39 670 399 ⟨190,0,201,24⟩ (me w.params):=bF (DJ w os) (CZ w os) (DK w)
theorem DM (w:World):(((me w.params).filterMap a0).all fun c=>!([3,327,12]:List Addr).contains c.1) = true:=by kernel_rfl
theorem DN (w:World) (os:OsState):Reach w os 40 720 440 ⟨202,0,216,44⟩ (mf w.params):=bF (DL w os) (C0 w os) (DM w)
theorem DO (w:World):(((mf w.params).filterMap a0).all fun c=>!([3,327,12]:List Addr).contains c.1) = true:=by kernel_rfl
theorem DP (w:World) (os:OsState):Reach w os 41 796 493 ⟨217,0,244,16⟩ (mg w.params):=bF (DN w os) (C1 w os) (DO w)
theorem DQ (w:World):(((mg w.params).filterMap a0).all fun c=>!([3,12]:List Addr).contains c.1) = true:=by kernel_rfl
theorem DR (w:World) (os:OsState):Reach w os 42 868 546 ⟨245,0,269,16⟩ (mh w.params):=bF (DP w os) (C2 w os) (DQ w)
theorem DS (w:World):(((mh w.params).filterMap a0).all fun c=>!([3,12]:List Addr).contains c.1) = true:=by kernel_rfl
theorem DU (w:World) (os:OsState):Reach w os 57 955 616 ⟨315,0,319,49⟩ (mi w.params):=bF (DR w os) (C3 w os) (DS w)
theorem DV (w:World):(((mi w.params).filterMap a0).all fun c=>!([3,12]:List Addr).contains c.1) = true:=by kernel_rfl
theorem DW (w:World) (os:OsState):Reach w os 59 1029 672 ⟨341,0,342,75⟩ (mj w.params):=bF (DU w os) (C4 w os) (DV w)
theorem DX (w:World):(((mj w.params).filterMap a0).all fun c=>!([3,12]:List Addr).contains c.1) = true:=by kernel_rfl
theorem DY (w:World) (os:OsState):Reach w os 77 1133 742 ⟨412,0,416,42⟩ (ml w.params):=bF (DW w os) (C5 w os) (DX w)
theorem DZ (w:World):(((ml w.params).filterMap a0).all fun c=>!([3,12]:List Addr).contains c.1) = true:=by kernel_rfl
theorem D0 (w:World) (os:OsState):Reach w os 80 1154 763 ⟨423,0,428,35⟩ (mn w.params):=bF (DY w os) (C6 w os) (DZ w)
theorem D1 (w:World):(((mn w.params).filterMap a0).all fun c=>!([3,12]:List Addr).contains c.1) = true:=by kernel_rfl
theorem D2 (w:World) (os:OsState):Reach w os 81 1231 820 ⟨429,0,468,27⟩ (mq w.params):=bF (D0 w os) (C7 w os) (D1 w)
theorem D3 (w:World):(((mq w.params).filterMap a0).all fun c=>!([12,3]:List Addr).contains c.1) = true:=by kernel_rfl
theorem D4 (w:World) (os:OsState):Reach w os 83 1285 855 ⟨470,0,483,16⟩ (mr w.params):=bF (D2 w os) (C8 w os) (D3 w)
theorem D5 (w:World):(((mr w.params).filterMap a0).all fun c=>!([3,12]:List Addr).contains c.1) = true:=by kernel_rfl
theorem D6 (w:World) (os:OsState):Reach w os 87 1359 909 ⟨508,0,509,65⟩ (mu w.params):=bF (D4 w os) (C9 w os) (D5 w)
theorem D7 (w:World):(((mu w.params).filterMap a0).all fun c=>!([3,12]:List Addr).contains c.1) = true:=by kernel_rfl
theorem D8 (w:World) (os:OsState):Reach w os 99 1489 990 ⟨605,0,609,25⟩ (mw w.params):=bF (D6 w os) (Dc w os) (D7 w)
theorem D9 (w:World):(((mw w.params).filterMap a0).all fun c=>!([3,12]:List Addr).contains c.1) = true:=by kernel_rfl
theorem Ea (w:World) (os:OsState):Reach w os 109 1560 1043 ⟨651,0,654,82⟩ (my w.params):=bF (D8 w os) (Dd w os) (D9 w)
theorem Eb (w:World):(((my w.params).filterMap a0).all fun c=>!([3,12]:List Addr).contains c.1) = true:=by kernel_rfl
theorem Ec (w:World) (os:OsState):Reach w os 110 1656 1118 ⟨655,0,694,17⟩ (mz w.params):=bF (Ea w os) (De w os) (Eb w)
theorem Ed (w:World):(((mz w.params).filterMap a0).all fun c=>!([12,3]:List Addr).contains c.1) = true:=by kernel_rfl
theorem Ee (w:World) (os:OsState):Reach w os 119 1702 1140 ⟨725,0,725,8⟩ (mA w.params):=bF (Ec w os) (Df w os) (Ed w)
theorem Ef (w:World):(((mA w.params).filterMap a0).all fun c=>!([3,12]:List Addr).contains c.1) = true:=by kernel_rfl
theorem Eg (w:World) (os:OsState):Reach w os 120 1772 1196 ⟨726,0,749,24⟩ (mB w.params):=bF (Ee w os) (Dg w os) (Ef w)
theorem Eh (w:World):(((mB w.params).filterMap a0).all fun c=>!([3,12]:List Addr).contains c.1) = true:=by kernel_rfl
theorem Ei (w:World) (os:OsState):Reach w os 133 1886 1276 ⟨843,0,846,62⟩ (mC w.params):=bF (Eg w os) (Dh w os) (Eh w)
theorem Ej (w:World):(((mC w.params).filterMap a0).all fun c=>!([3,12]:List Addr).contains c.1) = true:=by kernel_rfl
theorem Ek (w:World) (os:OsState):Reach w os 136 1929 1295 ⟨878,0,894,15⟩ (br w.params):=bF (Ei w os) (Dk w os) (Ej w)
theorem El:BD.drop 136 = []:=by kernel_rfl
theorem Em (w:World) (os:OsState) (h:Heap):jT w 5 (cH h 1929 os) ⟨doneF .next,cT,⟨878,0,894,15⟩,[topFrame q0]⟩ = some (cH h 1929 os):=by kernel_rfl
structure Behind (w:World) (os:OsState) (h:Heap):Prop where
 size:h.objs.size = 1295
 life:h.life = (boot_heap w.params).life
 fact:Fact (br w.params) h
 named:Named (br w.params) h
 run:∃ M,jT w M (S0 w os) (topStub pw) = some (cH h 1929 os)
theorem behind (w:World) (os:OsState):∃ h,Behind w os h:=by
 refine af fun nG=>?_
 obtain ⟨h,a,b,c,d,e⟩:=Ek w os
 refine nG ?_
 refine ⟨h,a,b,c,d,e 5 _ ?_⟩
 rw [El]
 exact piece_nil (Em w os h)
noncomputable def KH (P:Params):Heap:=⟨((List.range 5).map fun a=>(aP (br P) a).getD default).toArray,(boot_heap P).life⟩
theorem En (P:Params):[0,2,3,4].map (KH P).get? = [0,2,3,4].map (aP (br P)):=by kernel_rfl
theorem Eo (P:Params):([0,2,3,4].map fun a=>(aP (br P) a).isSome) = [true,true,true,true]:=by kernel_rfl
theorem Ep:opening pw = plainProg pw.main.scope.names:=by kernel_rfl
theorem Er (s:Shared):fenceModules? pw s = some s:=by kernel_rfl
theorem Es (P:Params):(KH P).accountedOkI [] = true:=by kernel_rfl
theorem Et (P:Params):staticsOk [] (boot_heap P) (KH P) = true:=by kernel_rfl
theorem mF (P:Params):(KH P).isNs mainGlobals = true:=by kernel_rfl
theorem wD (P:Params):(KH P).isNs builtinsNs = true:=by kernel_rfl
theorem wF (P:Params):(KH P).bltView = bltViewBooted:=by kernel_rfl
theorem Eu (P:Params):namesBound pw (KH P) = true:=by kernel_rfl
theorem Ew (P:Params):laidKept (boot_heap P) (KH P) = true:=by kernel_rfl
theorem wG:importedModules pw.main.body = []:=by kernel_rfl
theorem wH (P:Params):(KH P).nsMap mainGlobals "__builtins__" = some (.ref 4):=by kernel_rfl
theorem Ex (P:Params):((KH P).get? 4).map (fun o=>(o.cls,o.dict)) = some (.type "module",some builtinsNs):=by kernel_rfl
theorem Ey (P:Params):(boot_heap P).nsMap mainGlobals "__annotations__" = some (.ref 6):=by kernel_rfl
theorem Ez (P:Params):(boot_heap P).isNs mainGlobals = true:=by kernel_rfl
section
variable {h h':Heap} {a:Addr}
theorem eC (e:h.get? a = h'.get? a):h.isNs a = h'.isNs a:=by unfold Heap.isNs; rw [e]
theorem qe (e:h.get? a = h'.get? a):h.nsKeys a = h'.nsKeys a:=by unfold Heap.nsKeys; rw [e]
theorem wI (e:h.get? a = h'.get? a):h.nsPairs a = h'.nsPairs a:=by unfold Heap.nsPairs; rw [e]
theorem gi (e:h.get? a = h'.get? a):h.nsMap a = h'.nsMap a:=by funext x; unfold Heap.nsMap; rw [e]
end
theorem Behind.same {w:World} {os:OsState} {h:Heap} (B:Behind w os h) {a:Addr} (ha:a∈[0,2,3,4]):h.get? a = (KH w.params).get? a:=by
 have e1:=List.map_inj_left.mp (En w.params) a ha
 have e2:=List.map_inj_left.mp (show [0,2,3,4].map (fun a=>(aP (br w.params) a).isSome) = [0,2,3,4].map (fun _=>true) from Eo w.params) a ha
 obtain ⟨o,ho⟩:=Option.isSome_iff_exists.mp e2
 rw [e1,ho]; exact B.fact a o ho
theorem Behind.EA {w:World} {os:OsState} {h:Heap} (B:Behind w os h) (z:(S0 w os).asleep):TopRan pw w (S0 w os) (cH h 1929 os)∧(cH h 1929 os).asleep:=by
 refine af fun nG=>?_
 obtain ⟨M,hM⟩:=B.run
 unfold jT at hM
 rw [← table_eq_tree] at hM
 obtain ⟨r,l,os',fr⟩:=topRun_spec _ _ _ _ z hM
 refine nG ?_
 have e0:=B.same (a:=0) (by simp)
 have e2:=B.same (a:=2) (by simp)
 have e3:=B.same (a:=3) (by simp)
 have e4:=B.same (a:=4) (by simp)
 have hg:h.isNs mainGlobals = true:=(eC e3).trans (mF _)
 have hb:h.isNs builtinsNs = true:=(eC e0).trans (wD _)
 refine ⟨⟨r,l,Shared.rest_eq os',fun b o hb hn=>fr b o ?_ (fun q=>hn (.inl q)) (fun q=>hn (.inr (.inl q))) (fun q=>hn (.inr (.inr ?_))) hb,?_,?_,Pin.keysAreStrs_of hg,?_,?_,?_,?_,?_⟩,Shared.asleep_of_life l z⟩
 ·have:=Heap.lt_size hb
  rwa [show (S0 w os).heap.objs.size = 11 from wC _] at this
 ·exact ((Pin.globalOf_eq (Ez _) _).trans (Ey _)).trans q
 ·rw [wG]
  refine Heap.accountedI_of_ok ?_
  refine Eq.trans ?_ (Es w.params)
  show h.accountedOkI [] = _
  unfold Heap.accountedOkI
  rw [eC (a:=cStatics) e2,qe (a:=cStatics) e2]
  rw [gi (a:=cStatics) e2]
 ·rw [wG]
  refine statics_of_ok ?_
  refine Eq.trans ?_ (Et w.params)
  show staticsOk [] (boot_heap w.params) h = _
  unfold staticsOk
  rw [eC (a:=cStatics) e2,qe (a:=cStatics) e2]
  rw [gi (a:=cStatics) e2]
 ·intro x hx
  refine (Pin.builtinOf_eq hb x).trans (Heap.of_bltView hb ?_ x hx)
  refine Eq.trans ?_ (wF w.params)
  unfold Heap.bltView
  rw [wI (a:=builtinsNs) e0]
 ·refine af fun nG=>?_
  have k4:=Ex w.params
  rw [← e4] at k4
  obtain ⟨o,ho,hv⟩:=Option.map_eq_some_iff.mp k4
  obtain ⟨hc,hd⟩:=Prod.mk.inj hv
  refine nG ?_
  exact ⟨4,o,(Pin.globalOf_eq hg _).trans ((congrFun (gi e3) _).trans (wH _)),ho,hc,hd⟩
 ·intro g hg; cases hg<;>contradiction
 ·refine names_of_bound ?_
  refine Eq.trans ?_ (Eu w.params)
  show namesBound pw h = _
  unfold namesBound
  rw [eC (a:=mainGlobals) e3,qe (a:=mainGlobals) e3]
 ·refine laid_of_kept ?_
  refine Eq.trans ?_ (Ew w.params)
  show laidKept (boot_heap w.params) h = _
  unfold laidKept
  rw [eC (a:=mainGlobals) e3]
  rw [gi (a:=mainGlobals) e3]
theorem wJ (w:World):(∃ s,AfterRun (opening pw) w s)∧∀ s,AfterRun (opening pw) w s→∃ os h,fenceModules? pw s = some (S0 w os)∧Behind w os h∧TopRan pw w (S0 w os) (cH h 1929 os)∧(cH h 1929 os).asleep:=by
 refine af fun nG=>?_
 have hm:=boot_open (p:=pw) (N:=600) Ep (by rfl) Er w
 rw [← table_eq_tree] at hm
 obtain ⟨s₀,h2,h3⟩:=Option.map_eq_some_iff.mp hm
 obtain ⟨s,h4,h5⟩:=Option.bind_eq_some_iff.mp h2
 refine nG ?_
 have A:=AfterImport.of_importEnds h4
 have z:s₀.asleep:=Shared.asleep_of_life (fence_lifeW h5) A.life
 refine ⟨⟨s,A⟩,fun s' hs'=>?_⟩
 refine af fun nG=>?_
 obtain rfl:s' = s:=AfterImport.unique hs' A
 obtain ⟨hh,g,d,tk,os⟩:=s₀
 simp only [Prod.mk.injEq] at h3
 obtain ⟨rfl,rfl,rfl,rfl⟩:=h3
 obtain ⟨h,B⟩:=behind w os
 obtain ⟨T,a⟩:=B.EA z
 refine nG ?_
 exact ⟨os,h,h5,B,T,a⟩
end Mine
end
section
set_option backward.match.sparseCases false
open PySem PySem.W PyProof.Rows PySem.Calls
namespace Mine
section
set_option genCtorIdx true in
inductive AV where
 | none
 | bool (b:Bool)
 | sb (B:SB)
 | int (e:SE)
 | str (x:Str)
 | bytes (l:List SE)
 | tup (l:List AV)
 | lst (l:List AV)
 | inst (c:Addr) (fs:List (Str×AV))
 | dicI (l:List (Int×AV))
 | dicS (l:List (Str×AV))
 | rng (a:Int) (n:Nat)
 | con (v:Value)
 | blt (n:Nat)
 | any
 | anyS
 | loc (n:Nat)
 | hole (n:Nat)
noncomputable abbrev pg:Program:=pw
noncomputable abbrev AS:=Addr→Prop
noncomputable abbrev GH:=Addr→Obj→Prop
noncomputable def Sub (g g':GH):Prop:=∀ a o,g a o→g' a o
structure ab where
 w:World
 os:OsState
 h0:Heap
 B:Behind w os h0
 ρ:Nat→Int
 η:Nat→GH→Value→Prop
 ηm:∀ n g g' v,Sub g g'→η n g v→η n g' v
 ηp:∀ n g v,η n g v→handedIn v = true
structure Vw where
 g:GH
 ad:List Addr
structure Vw.Le (V V':Vw):Prop where
 g:Sub V.g V'.g
 ad:∀ (n:Nat) (a:Addr),V.ad[n]? = some a→V'.ad[n]? = some a
noncomputable def dE:Nat→Value
 | 0=>.builtin "len"
 | 1=>.type "range"
 | 2=>.type "int"
 | 3=>.builtin "abs"
 | 4=>.type "str"
 | 5=>.builtin "sum"
 | 6=>.builtin "sorted"
 | 7=>.type "list"
 | 8=>.type "tuple"
 | 9=>.type "bytes"
 | 10=>.builtin "isinstance"
 | 11=>.type "zip"
 | 12=>.type "enumerate"
 | _=>.none
noncomputable def soft (o:Obj):Bool:=match o.cls with
 | .type n=>n == "frame"
 | .none=>(match o.data with
  | .fields _=>true
  | _=>false)
 | _=>false
noncomputable def bB (o:Obj):Bool:=match o.data with
 | .fields _=>(match o.cls with
  | .none=>true
  | .type n=>n == "code"
  | _=>false)
 | _=>false
noncomputable def jU (vs:List Value) (n:Nat):Obj:={ cls:=.type "tuple",data:=.seq vs.toArray n }
noncomputable def bo (vs:List Value) (n:Nat):Obj:={ cls:=.type "list",data:=.seq vs.toArray n }
noncomputable def EB (a b c:Int) (t u v:Tok):Obj:={ cls:=.type "range",dict:=none,data:=.fields #[.int a t,.int b u,.int c v],slots:=#[] }
noncomputable def jV (a:Int) (n:Nat):Bool:=Nat.ble n 1000000 && decide (-1000000000≤a) && decide (a≤1000000000)
inductive qf (ad:List Addr) (n:Nat):Value→Prop
 | mk {a} (h:ad[n]? = some a):qf ad n (.ref a)
noncomputable def bO (l:List Int):Array UInt8:=(l.map fun x=>UInt8.ofNat x.toNat).toArray
inductive bL (i:Int):Value→Prop
 | mk (t:Tok):bL i (.int i t)
inductive mG (x:Str):Value→Prop
 | mk (t:Tok):mG x (.str x t)
inductive jW (l:List Int):Value→Prop
 | mk (t:Tok) (h:∀ x∈l,0≤x∧x < 256):jW l (.bytes (bO l) t)
inductive qg (g:GH) (f:List Value→Nat→Obj) (P:List Value→Prop):Value→Prop
 | mk {a vs n} (h:g a (f vs n)) (r:P vs):qg g f P (.ref a)
inductive wK (g:GH) (C:Addr) (P:List DictEntry→Prop):Value→Prop
 | mk {x dx es n} (h:g x (instObj C dx)) (hd:g dx (dictOf es n)) (r:P es):wK g C P (.ref x)
inductive qh {κ:Type} [DecidableEq κ] {w:World} (g:GH) (k:PySem.KeyKind pg w κ) (P:List (κ×Value)→Prop):Value→Prop
 | mk {a o kvs} (h:g a o) (ns:(a == sysModules) = false) (d:o.IsDictOf k kvs) (r:P kvs):qh g k P (.ref a)
inductive qi (g:GH) (a:Int) (n:Nat):Value→Prop
 | mk {r t u v} (h:g r (EB a (a + n) 1 t u v)) (ok:jV a n = true):qi g a n (.ref r)
inductive gV {α:Type} (P:α→Prop) (Q:List α→Prop):List α→Prop
 | mk {v vs} (h:P v) (r:Q vs):gV P Q (v::vs)
inductive wL (x:Str) (P:Value→Prop):DictEntry→Prop
 | mk {e t} (k:e.key = .str x t) (h:P e.val):wL x P e
inductive IsPair {κ:Type} (x:κ) (P:Value→Prop):κ×Value→Prop
 | mk {v} (h:P v):IsPair x P (x,v)
noncomputable def bT:List Int→List Value→Prop
 | [],vs=>vs = []
 | i::l,vs=>gV (bL i) (bT l) vs
noncomputable def vals (ρ:Nat→Int):List SE→List Int
 | []=>[]
 | e::l=>e.val ρ::vals ρ l
mutual
noncomputable def Rel (W:ab) (V:Vw) (v:Value):AV→Prop
 | .none=>v = .none
 | .bool b=>v = .bool b
 | .sb B=>v = .bool (B.val W.ρ)
 | .int e=>bL (e.val W.ρ) v
 | .str x=>mG x v
 | .bytes l=>jW (vals W.ρ l) v
 | .tup as=>qg V.g jU (fun vs=>ai W V vs as) v
 | .lst as=>qg V.g bo (fun vs=>ai W V vs as) v
 | .con u=>v = u
 | .blt n=>v = dE n
 | .inst C fs=>wK V.g C (fun es=>bG W V es fs) v
 | .dicI l=>qh V.g (intKind pg W.w) (fun k=>bP W V k l) v
 | .dicS l=>qh V.g (strKind pg W.w) (fun k=>bJ W V k l) v
 | .rng a n=>qi V.g a n v
 | .any=>True
 | .anyS=>∃ x,mG x v
 | .loc n=>qf V.ad n v
 | .hole n=>W.η n V.g v
noncomputable def ai (W:ab) (V:Vw) (vs:List Value):List AV→Prop
 | []=>vs = []
 | a::as=>gV (fun v=>Rel W V v a) (fun ws=>ai W V ws as) vs
noncomputable def bG (W:ab) (V:Vw) (es:List DictEntry):List (Str×AV)→Prop
 | []=>es = []
 | (x,a)::fs=>gV (wL x fun v=>Rel W V v a) (fun ds=>bG W V ds fs) es
noncomputable def bP (W:ab) (V:Vw) (es:List (Int×Value)):List (Int×AV)→Prop
 | []=>es = []
 | (x,a)::fs=>gV (IsPair x fun v=>Rel W V v a) (fun ds=>bP W V ds fs) es
noncomputable def bJ (W:ab) (V:Vw) (es:List (Str×Value)):List (Str×AV)→Prop
 | []=>es = []
 | (x,a)::fs=>gV (IsPair x fun v=>Rel W V v a) (fun ds=>bJ W V ds fs) es
end
section
variable {W:ab} {V V':Vw}
theorem Vw.Le.refl:V.Le V:=⟨fun _ _ h=>h,fun _ _ h=>h⟩
theorem Vw.Le.trans {V'':Vw} (a:V.Le V') (b:V'.Le V''):V.Le V'':=⟨fun _ _ h=>b.g _ _ (a.g _ _ h),fun _ _ h=>b.ad _ _ (a.ad _ _ h)⟩
mutual
theorem Rel.mono (s:V.Le V'):∀ {a:AV} {v:Value},Rel W V v a→Rel W V' v a
 | .none,_,r | .bool _,_,r | .sb _,_,r | .int _,_,r | .str _,_,r | .bytes _,_,r | .con _,_,r | .blt _,_,r | .any,_,r | .anyS,_,r=>r
 | .tup _,_,r=>by obtain ⟨h,r⟩:=r; exact .mk (s.g _ _ h) (ai.mono s r)
 | .lst _,_,r=>by obtain ⟨h,r⟩:=r; exact .mk (s.g _ _ h) (ai.mono s r)
 | .inst _ _,_,r=>by obtain ⟨h,hd,r⟩:=r; exact .mk (s.g _ _ h) (s.g _ _ hd) (bG.mono s r)
 | .dicI _,_,r=>by obtain ⟨h,ns,d,r⟩:=r; exact .mk (s.g _ _ h) ns d (bP.mono s r)
 | .dicS _,_,r=>by obtain ⟨h,ns,d,r⟩:=r; exact .mk (s.g _ _ h) ns d (bJ.mono s r)
 | .rng _ _,_,r=>by obtain ⟨h,k⟩:=r; exact .mk (s.g _ _ h) k
 | .loc _,_,r=>by obtain ⟨h⟩:=r; exact .mk (s.ad _ _ h)
 | .hole _,_,r=>W.ηm _ _ _ _ s.g r
theorem ai.mono (s:V.Le V'):∀ {as:List AV} {vs:List Value},ai W V vs as→ai W V' vs as
 | [],_,r=>r
 | _::_,_,r=>by obtain ⟨h,r⟩:=r; exact .mk (h.mono s) (ai.mono s r)
theorem bG.mono (s:V.Le V'):∀ {fs:List (Str×AV)} {es:List DictEntry},bG W V es fs→bG W V' es fs
 | [],_,r=>r
 | _::_,_,r=>by obtain ⟨⟨k,h⟩,r⟩:=r; exact .mk (.mk k (h.mono s)) (bG.mono s r)
theorem bP.mono (s:V.Le V'):∀ {fs:List (Int×AV)} {es:List (Int×Value)},bP W V es fs→bP W V' es fs
 | [],_,r=>r
 | _::_,_,r=>by obtain ⟨⟨h⟩,r⟩:=r; exact .mk (.mk (h.mono s)) (bP.mono s r)
theorem bJ.mono (s:V.Le V'):∀ {fs:List (Str×AV)} {es:List (Str×Value)},bJ W V es fs→bJ W V' es fs
 | [],_,r=>r
 | _::_,_,r=>by obtain ⟨⟨h⟩,r⟩:=r; exact .mk (.mk (h.mono s)) (bJ.mono s r)
end
theorem ai.length:∀ {as:List AV} {vs:List Value},ai W V vs as→vs.length = as.length
 | [],_,r=>r▸rfl
 | _::_,_,r=>by obtain ⟨_,r⟩:=r; exact congrArg (· + 1) (ai.length r)
theorem ai.get:∀ {as:List AV} {vs:List Value} {i:Nat} {a:AV},ai W V vs as→as[i]? = some a→∃ v,vs[i]? = some v∧Rel W V v a
 | _::_,_,i,_,r,e=>by
  obtain ⟨h,r⟩:=r
  cases i with
  | zero=>exact ⟨_,rfl,Option.some.inj e▸h⟩
  | succ i=>exact ai.get (i:=i) r e
theorem ai.append:∀ {as bs:List AV} {vs ws:List Value},ai W V vs as→ai W V ws bs→ai W V (vs ++ ws) (as ++ bs)
 | [],_,_,_,r,q=>r▸q
 | _::_,_,_,_,r,q=>by obtain ⟨h,r⟩:=r; exact .mk h (ai.append r q)
theorem ai.cons {v:Value} {a:AV} {vs:List Value} {as:List AV} (h:Rel W V v a) (r:ai W V vs as):ai W V (v::vs) (a::as):=.mk h r
end
end
noncomputable def fy:List (Addr×Str):=[(722,⟨#[109,101,109,111,114,121,95,115,104,97,112,101,115,46,60,108,111,99,97,108,115,62,46,60,108,97,109,98,100,97,62]⟩),(998,⟨#[101,110,99,111,100,105,110,103,115,46,60,108,111,99,97,108,115,62,46,60,108,97,109,98,100,97,62]⟩)]
inductive fB (b:Addr):Obj→Obj→Prop
 | refl (o:Obj):fB b o o
 | grow {o:Obj} {vs more:Array Value} (m:b∈fy.map (·.1)) (c:o.cls = .none) (d:o.data = .fields vs):fB b o { o with data:=.fields (vs ++ more) }
theorem fB.trans {b:Addr} {o p q:Obj} (x:fB b o p) (y:fB b p q):fB b o q:=by
 cases x with
 | refl=>exact y
 | grow m c d=>cases y with
  | refl=>exact .grow m c d
  | grow _ _ d'=>cases d'; rw [Array.append_assoc]; exact .grow m c d
theorem fB.eq {b:Addr} {o p:Obj} (x:fB b o p) (h:soft o = false∨bB o = false):p = o:=by
 cases x with
 | refl=>rfl
 | grow _ c d=>unfold soft bB at h; rw [c,d] at h; rcases h with h | h<;>exact fq h
structure TabAt (h:Heap) (q:Str) (cv:Value):Prop where
 ex:∃ c co vs t,cv = .ref c∧h.get? c = some co∧co.cls = .type "code"∧co.data = .fields vs∧vs[1]? = some (.str q t)
noncomputable def mH (h:Heap) (P:Addr) (q:Str):Prop:=∃ ps:Array Value,h.get? P = some { cls:=.none,data:=.fields ps }∧PySem.TriplesOk ps.toList∧∀ pos cv,codeAmong pos ps.toList = some cv→TabAt h q cv
structure aw (X:AS) (h h':Heap):Prop where
 same:∀ b o,¬X b→h.get? b = some o→∃ o',h'.get? b = some o'∧fB b o o'
 tab:∀ P q,(P,q)∈fy→mH h P q→mH h' P q
noncomputable abbrev ag:=aw fun _=>False
section
variable {X Y U U':AS} {h h1 h':Heap} {a b u:Addr} {o:Obj}
theorem eV (e:h.get? a = some o) (n:h.get? b = none):a≠b:=fun q=>by rw [q,n] at e; exact ar e
theorem aw.ex (k:aw X h h') (n:¬X b) (e:h.get? b = some o):∃ o',h'.get? b = some o':=let ⟨o',e',_⟩:=k.same b o n e; ⟨o',e'⟩
theorem aw.b9 (k:aw X h h') (n:¬X b) (e:h.get? b = some o) (hs:soft o = false∨bB o = false):h'.get? b = some o:=by
 obtain ⟨o',e',s⟩:=k.same b o n e
 rw [e',s.eq hs]
theorem aw.get (k:ag h h') (e:h.get? b = some o) (hs:soft o = false):h'.get? b = some o:=k.b9 id e (.inl hs)
theorem aw.gj (k:ag h h') (e:h.get? b = some o) (hs:bB o = false):h'.get? b = some o:=k.b9 id e (.inr hs)
theorem aw.gone (k:ag h h') (e:h'.get? a = none):h.get? a = none:=by
 cases q:h.get? a with
 | none=>rfl
 | some o=>obtain ⟨o',e'⟩:=k.ex id q; rw [e] at e'; exact ar e'
theorem aw.comp (k:aw Y h h1) (l:aw X h1 h') (f:∀ u,X u→Y u∨h.get? u = none):aw Y h h':=⟨fun b o n e=>by
 refine af fun nG=>?_
 obtain ⟨o1,e1,s1⟩:=k.same b o n e
 obtain ⟨o2,e2,s2⟩:=l.same b o1 (fun x=>(f b x).elim n (eV e · rfl)) e1
 refine nG ?_
 exact ⟨o2,e2,s1.trans s2⟩,fun P q m t=>l.tab P q m (k.tab P q m t)⟩
theorem aw.trans (k:aw X h h1) (l:aw X h1 h'):aw X h h':=k.comp l fun _=>.inl
theorem aw.eW (lo:∀ u o,X u→h.get? u = some o→bB o = false) (s:∀ b o,¬X b→h.get? b = some o→h'.get? b = some o):aw X h h':=by
 have nt:∀ {b o},h.get? b = some o→bB o = true→¬X b:=fun e t q=>by rw [lo _ _ q e] at t; exact aS t
 refine ⟨fun b o n e=>⟨o,s b o n e,.refl o⟩,fun P q m ⟨ps,e,t1,t2⟩=>⟨ps,s _ _ (nt e rfl) e,t1,fun pos cv hc=>?_⟩⟩
 refine af fun nG=>?_
 obtain ⟨c,co,vs,t,h1,h2,h3,h4,h5⟩:=t2 pos cv hc
 refine nG ?_
 exact ⟨c,co,vs,t,h1,s _ _ (nt h2 (by unfold bB; rw [h4,h3]; rfl)) h2,h3,h4,h5⟩
theorem aw.refl (X:AS) (h:Heap):aw X h h:=⟨fun b o _ e=>⟨o,e,.refl o⟩,fun _ _ _ t=>t⟩
theorem ag.refl (h:Heap):ag h h:=aw.refl _ h
theorem ag.of (s:∀ b o,h.get? b = some o→h'.get? b = some o):ag h h':=.eW (fun _ _ q=>q.elim) fun b o _=>s b o
theorem ag.push (h:Heap) (o:Obj):ag h (h.push o):=.of fun _ _=>Heap.get?_push_of_some _
theorem aw.x (k:ag h h'):aw X h h':=(aw.refl X h).comp k fun _ q=>q.elim
theorem aw.more (k:aw X h h') (s:∀ u,X u→Y u):aw Y h h':=(aw.refl Y h).comp k fun u q=>.inl (s u q)
theorem aw.dF (k:ag h h1) (l:aw X h1 h') (f:∀ u,X u→h.get? u = none):ag h h':=k.comp l fun u q=>.inr (f u q)
noncomputable def bA (h:Heap) (u:Addr):Prop:=∃ o,h.get? u = some o∧bB o = false
theorem bA.keep (l:bA h u) (k:ag h h'):bA h' u:=let ⟨o,e,t⟩:=l; ⟨o,k.gj e t,t⟩
theorem bA.tab (l:bA h u) (e:h.get? u = some o):bB o = false:=by obtain ⟨o',e',t⟩:=l; rw [e] at e'; cases e'; exact t
set_option tactic.hygienic true in
theorem d3 (h:∀ vs,o.data≠.fields vs):bB o = false:=by
 unfold bB; split
 ·rename_i vs e; exact absurd e (h vs)
 ·rfl
theorem bA.ns {m:Str→Option Value} (n:h.Ns a m):bA h a:=let ⟨o,es,ep,e,d,_⟩:=n; ⟨o,e,d3 fun vs q=>by rw [d] at q; cases q⟩
theorem bA.cell {v:Option Value} (i:h.IsCell a v):bA h a:=let ⟨o,e,d⟩:=i; ⟨o,e,d3 fun vs q=>by rw [d] at q; cases q⟩
theorem aw.ns {m:Str→Option Value} (k:aw X h h') (x:¬X a) (n:h.Ns a m):h'.Ns a m:=by
 refine af fun nG=>?_
 obtain ⟨o,e,t⟩:=bA.ns n
 obtain ⟨_,es,ep,e',r⟩:=n
 refine nG ?_
 rw [e] at e'; cases e'
 exact ⟨o,es,ep,k.b9 x e (.inr t),r⟩
theorem aw.cell {v:Option Value} (k:aw X h h') (x:¬X a) (i:h.IsCell a v):h'.IsCell a v:=by
 obtain ⟨o,e,t⟩:=bA.cell i
 obtain ⟨_,e',d⟩:=i
 rw [e] at e'; cases e'
 exact ⟨o,k.b9 x e (.inr t),d⟩
theorem Ns.qj {m:Str→Option Value} {v:Option Value} (n:h.Ns a m) (i:h.IsCell b v):b≠a:=by
 rintro rfl
 obtain ⟨o,es,ep,ho,hd,_⟩:=n
 obtain ⟨o',ho',hd'⟩:=i
 rw [ho] at ho'; cases ho'; rw [hd] at hd'; cases hd'
theorem aw.one (l:bA h u) (s:Heap.SameBut u h h'):aw (· = u) h h':=.eW (fun v o q e=>l.tab (q▸e)) fun b o n e=>(s.2 b n).trans e
noncomputable def aF (U:AS) (h:Heap):GH:=fun a o=>h.get? a = some o∧soft o = false∧¬U a
theorem aw.sub (k:aw X h h') (f:∀ b o,h.get? b = some o→¬U b→¬X b∧¬U' b):Sub (aF U h) (aF U' h'):=fun b o ⟨e,s,n⟩=>let ⟨x,y⟩:=f b o e n; ⟨k.b9 x e (.inl s),s,y⟩
theorem aw.aF (k:ag h h') (U:AS):Sub (aF U h) (aF U h'):=k.sub fun _ _ _ n=>⟨id,n⟩
theorem d7 (s:∀ u,U' u→U u):Sub (aF U h) (aF U' h):=(ag.refl h).sub fun _ _ _ n=>⟨id,fun q=>n (s _ q)⟩
theorem da (h:Heap):h.get? h.objs.size = none:=by
 cases e:h.get? h.objs.size with
 | none=>rfl
 | some o=>exact absurd (Heap.lt_size e) (Nat.lt_irrefl _)
theorem gW (o:Obj) (f:o.isFreed = false) (s:soft o = false) (low:∀ u,U u→∃ o,h.get? u = some o):aF U (h.push o) h.objs.size o:=⟨Heap.get?_push_size _ f,s,fun q=>by obtain ⟨_,e⟩:=low _ q; rw [da] at e; exact ar e⟩
noncomputable def aQ (U:AS) (h:Heap):Heap:=hideAll h (@List.filter Addr (fun a=>@decide (U a) (Classical.propDecidable _)) (List.range h.objs.size))
theorem a9:(aQ U h).get? b = some o↔h.get? b = some o∧¬U b:=by
 have m:∀ {b},b∈@List.filter Addr (fun a=>@decide (U a) (Classical.propDecidable _)) (List.range h.objs.size)↔b < h.objs.size∧U b:=by
  intro b; rw [List.mem_filter,List.mem_range,@decide_eq_true_eq _ (Classical.propDecidable _)]
 constructor
 ·intro e
  refine ⟨of_hideAll _ e,fun q=>?_⟩
  have:=hideAll_none (h:=h) _ (m.mpr ⟨Heap.lt_size (of_hideAll _ e),q⟩)
  unfold aQ at e; rw [this] at e; exact ar e
 ·exact fun ⟨e,n⟩=>hideAll_get _ e fun q=>n (m.mp q).2
theorem iO (q:U b):(aQ U h).get? b = none:=by
 cases e:(aQ U h).get? b with
 | none=>rfl
 | some o=>exact absurd q (a9.mp e).2
theorem ag.dQ:ag (aQ U h) h:=.of fun _ _ e=>(a9.mp e).1
theorem aw.hide (k:ag h1 h) (f:∀ u,U u→h1.get? u = none∧bA h u):ag h1 (aQ U h):=k.dF (.eW (X:=U) (fun u o q e=>(f u q).2.tab e) fun b o n e=>a9.mpr ⟨e,n⟩) fun u q=>(f u q).1
end
noncomputable def strN {α:Type} (m:Nat) (k:Nat→α):α:=Nat.rec (motive:=fun _=>α) (k 0) (fun n _=>k n.succ) m
theorem mI {α:Type} (m:Nat) (k:Nat→α):strN m k = k m:=by cases m<;>rfl
noncomputable def iP {α:Type} (b:Bool) (x y:α):α:=Bool.rec (motive:=fun _=>α) y x b
noncomputable def mJ (a m:Nat):Nat:=iP (Nat.ble a 255) (Nat.succ (Nat.add (Nat.mul 2 a) (Nat.mul 512 m))) (Nat.mul (Nat.pow 2 (Nat.succ a)) (Nat.succ (Nat.mul 2 m)))
noncomputable def dR (l:List Nat):Nat:=List.rec (motive:=fun _=>Nat) 0 (fun a _ m=>strN a fun a=>strN m fun m=>mJ a m) l
theorem EC (a:Nat) (l:List Nat):dR (a::l) = mJ a (dR l):=by
 show (strN a fun a=>strN (dR l) fun m=>mJ a m) = _
 rw [mI,mI]
theorem qk (a:Nat) (l:List Nat):(a≤255∧dR (a::l) = 2 * a + 512 * dR l + 1)∨(255 < a∧dR (a::l) = 2 ^ a * (2 * dR l + 1) * 2):=by
 rw [EC]
 unfold mJ
 cases q:Nat.ble a 255 with
 | true=>exact .inl ⟨Nat.le_of_ble_eq_true q,rfl⟩
 | false=>
  have h:255 < a:=Nat.lt_of_not_le fun h=>by rw [Nat.ble_eq_true_of_le h] at q; exact fq q
  refine .inr ⟨h,?_⟩
  show 2 ^ (a + 1) * (2 * dR l + 1) = _
  rw [Nat.pow_succ,Nat.mul_assoc,Nat.mul_comm 2,Nat.mul_assoc]
theorem wN:∀ {a b x y:Nat},2 ^ a * (2 * x + 1) = 2 ^ b * (2 * y + 1)→a = b∧x = y
 | 0,0,x,y,h=>⟨rfl,by lia⟩
 | 0,b + 1,x,y,h=>by rw [Nat.pow_succ,Nat.mul_comm (2 ^ b),Nat.mul_assoc] at h; lia
 | a + 1,0,x,y,h=>by rw [Nat.pow_succ,Nat.mul_comm (2 ^ a),Nat.mul_assoc] at h; lia
 | a + 1,b + 1,x,y,h=>by
  rw [Nat.pow_succ,Nat.pow_succ,Nat.mul_comm (2 ^ a),Nat.mul_comm (2 ^ b),Nat.mul_assoc,Nat.mul_assoc] at h
  obtain ⟨h1,h2⟩:=wN (Nat.eq_of_mul_eq_mul_left (by decide) h)
  exact ⟨congrArg _ h1,h2⟩
theorem wO (a:Nat) (l:List Nat):dR (a::l)≠0:=by
 rcases qk a l with ⟨_,e⟩ | ⟨_,e⟩<;>rw [e]
 ·lia
 ·exact Nat.mul_ne_zero (Nat.mul_ne_zero (Nat.ne_of_gt (Nat.pow_pos (by decide))) (by lia)) (by decide)
theorem qm:∀ {l m:List Nat},dR l = dR m→l = m
 | [],[],_=>rfl
 | [],b::m,h=>absurd h.symm (wO b m)
 | a::l,[],h=>absurd h (wO a l)
 | a::l,b::m,h=>by
  rcases qk a l with ⟨p,e⟩ | ⟨p,e⟩<;>rcases qk b m with ⟨q,f⟩ | ⟨q,f⟩<;>rw [e,f] at h
  ·rw [show a = b by lia,qm (l:=l) (m:=m) (by lia)]
  ·lia
  ·lia
  ·obtain ⟨rfl,h2⟩:=wN (Nat.eq_of_mul_eq_mul_right (by decide) h)
   rw [qm h2]
noncomputable def sEq (x y:Str):Bool:=strN (dR x.cps.toList) fun a=>strN (dR y.cps.toList) fun b=>Nat.beq a b
noncomputable def lk {α:Type} (x:Str) (l:List (Str×α)):Option α:=List.rec (motive:=fun _=>Option α) none (fun p _ ih=>iP (sEq x p.1) (some p.2) ih) l
noncomputable def del {α:Type} (x:Str) (l:List (Str×α)):List (Str×α):=List.rec (motive:=fun _=>List (Str×α)) [] (fun p _ ih=>iP (sEq x p.1) ih (p::ih)) l
theorem sEq_iff {x y:Str}:sEq x y = true↔x = y:=by
 unfold sEq
 rw [mI,mI,Nat.beq_eq]
 refine ⟨fun h=>?_,fun h=>by rw [h]⟩
 obtain ⟨⟨a⟩⟩:=x
 obtain ⟨⟨b⟩⟩:=y
 rw [show a = b from qm h]
theorem eE (x y:Str):sEq x y = (x == y):=by rw [Bool.eq_iff_iff,sEq_iff,beq_iff_eq]
theorem ED (x:Str):sEq x x = true:=sEq_iff.mpr rfl
theorem wQ {x y:Str} (h:x≠y):sEq x y = false:=by rw [eE]; exact beq_eq_false_iff_ne.mpr h
theorem dc {α:Type} (x y:Str) (a:α) (l:List (Str×α)):lk x ((y,a)::l) = if x = y then some a else lk x l:=by
 show iP (sEq x y) (some a) (lk x l) = _
 by_cases q:x = y
 ·rw [if_pos q,sEq_iff.mpr q]; rfl
 ·rw [if_neg q,wQ q]; rfl
theorem cU {α:Type} (x:Str):∀ l:List (Str×α),lk x l = l.lookup x
 | []=>rfl
 | (y,a)::l=>by
  show iP (sEq x y) (some a) (lk x l) = _
  rw [List.lookup_cons,eE,cU x l]; cases x == y<;>rfl
theorem mK {α:Type} (x y:Str):∀ l:List (Str×α),lk x (del y l) = if x = y then none else lk x l
 | []=>by split<;>rfl
 | (z,a)::l=>by
  rw [dc]
  show lk x (iP (sEq y z) (del y l) ((z,a)::del y l)) = _
  by_cases q:y = z
  ·rw [sEq_iff.mpr q]
   show lk x (del y l) = _
   rw [mK x y l,q]; by_cases r:x = z<;>simp [r]
  ·rw [wQ q]
   show lk x ((z,a)::del y l) = _
   rw [dc,mK x y l]
   by_cases r:x = z
   ·rw [if_pos r,if_pos r,if_neg (r▸Ne.symm q)]
   ·rw [if_neg r,if_neg r]
theorem fC {α:Type} {x:Str} {a:α}:∀ {l:List (Str×α)},lk x l = some a→(x,a)∈l
 | (y,b)::l,e=>by
  rw [dc] at e
  split at e
  ·rename_i q; rw [q,Option.some.inj e]; exact .head _
  ·exact .tail _ (fC e)
end Mine
end
section
set_option backward.match.sparseCases false
open PySem PySem.W PyProof.Rows PySem.Calls
set_option maxRecDepth 100000
namespace Mine
noncomputable def iQ (p:Addr×Obj):Bool:=match Nat.beq p.1 722 with
 | true=>false
 | false=>(match Nat.beq p.1 998 with
  | true=>false
  | false=>true)
noncomputable def iR:List (Addr×Obj)→List (Addr×Obj)
 | []=>[]
 | p::l=>(match iQ p with
  | true=>p::iR l
  | false=>iR l)
noncomputable def aR (P:Params):Frag:=iR (br P)
theorem qn:∀ {l:List (Addr×Obj)} {a:Addr},l.lookup a = aP l a
 | [],_=>rfl
 | (b,o)::l,a=>by
  rw [iN,List.lookup_cons,qn]
  by_cases q:a = b
  ·subst q; rw [beq_self_eq_true,if_pos rfl]
  ·rw [beq_eq_false_iff_ne.mpr q,if_neg (Ne.symm q)]
theorem EE (p:Addr×Obj):(iQ p = true∧p.1≠722∧p.1≠998)∨(iQ p = false∧(p.1 = 722∨p.1 = 998)):=by
 unfold iQ
 cases h:Nat.beq p.1 722 with
 | true=>exact .inr ⟨rfl,.inl (Nat.eq_of_beq_eq_true h)⟩
 | false=>cases h':Nat.beq p.1 998 with
  | true=>exact .inr ⟨rfl,.inr (Nat.eq_of_beq_eq_true h')⟩
  | false=>exact .inl ⟨rfl,Nat.ne_of_beq_eq_false h,Nat.ne_of_beq_eq_false h'⟩
theorem mL:∀ {l:List (Addr×Obj)} {a:Addr} {o:Obj},(iR l).lookup a = some o→a≠722∧a≠998∧l.lookup a = some o
 | [],_,_,e=>by exact ar e
 | (b,x)::l,a,o,e=>by
  unfold iR at e
  rw [List.lookup_cons]
  rcases EE (b,x) with ⟨q,n⟩ | ⟨q,n⟩<;>rw [q] at e<;>dsimp only at e n
  ·rw [List.lookup_cons] at e
   by_cases z:a = b
   ·subst z; rw [beq_self_eq_true] at e ⊢; exact ⟨n.1,n.2,e⟩
   ·rw [beq_eq_false_iff_ne.mpr z] at e ⊢; exact mL e
  ·refine af fun nG=>?_
   obtain ⟨h1,h2,h3⟩:=mL e
   refine nG ?_
   rw [beq_eq_false_iff_ne.mpr fun z=>n.elim (fun w=>h1 (z.trans w)) fun w=>h2 (z.trans w)]
   exact ⟨h1,h2,h3⟩
theorem EF (P:Params):aP (br P) 722 = some ⟨.none,none,.fields #[],#[]⟩:=by kernel_rfl
theorem EG (P:Params):aP (br P) 998 = some ⟨.none,none,.fields #[],#[]⟩:=by kernel_rfl
theorem wR (P:Params):(aP (br P) 1294).isSome = true:=by kernel_rfl
theorem EH (P:Params):(KH P).isNs cStatics = true:=by kernel_rfl
theorem EI (P:Params):(KH P).nsMap cStatics "sys.recursionlimit" = none:=by kernel_rfl
noncomputable abbrev GG (W:ab) (h:Heap):Prop:=ag W.h0 h
section
variable {W:ab} {h:Heap} (G:GG W h)
include G
theorem GG.at {a:Addr} {o:Obj} (e:aP (br W.w.params) a = some o) (n:a≠722∧a≠998):h.get? a = some o:=by
 obtain ⟨o',e',s⟩:=G.same a o id (W.B.fact a o e)
 cases s with
 | refl=>exact e'
 | grow m=>
  rcases List.mem_cons.mp m with q | q
  ·exact absurd q n.1
  ·exact absurd (List.mem_singleton.mp q) n.2
theorem GG.K:(aR W.w.params).In h:=fun a o e=>by
 obtain ⟨h1,h2,h3⟩:=mL e
 exact GG.at G (qn.symm.trans h3) ⟨h1,h2⟩
theorem GG.wU {a:Addr} (m:a∈[0,2,3,4]) (e:(KH W.w.params).isNs a = true):h.Ns a ((KH W.w.params).nsMap a):=by
 have q:=W.B.same m
 exact G.ns id (gi q▸.of_isNs ((eC q).trans e))
theorem GG.g:h.Ns mainGlobals ((KH W.w.params).nsMap mainGlobals):=GG.wU G (a:=3) (by simp) (mF _)
theorem GG.b:∃ mb,h.Ns builtinsNs mb∧∀ x:Str,x≠"__name__"→mb x = bootBuiltins x:=by
 have e0:=W.B.same (a:=0) (by simp)
 have hb:W.h0.isNs builtinsNs = true:=(eC e0).trans (wD _)
 refine ⟨_,G.ns id (.of_isNs hb),fun x hx=>Heap.of_bltView hb (Eq.trans ?_ (wF W.w.params)) x hx⟩
 unfold Heap.bltView; rw [wI (a:=builtinsNs) e0]
theorem GG.nolimit:h.NoLimit:=⟨_,GG.wU G (a:=2) (by simp) (EH _),EI _⟩
theorem GG.size:1295≤h.objs.size:=by
 obtain ⟨o,e⟩:∃ o,W.h0.get? 1294 = some o:=by
  obtain ⟨o,h1⟩:=Option.isSome_iff_exists.mp (wR W.w.params); exact ⟨o,W.B.fact _ _ h1⟩
 obtain ⟨_,e'⟩:=G.ex id e
 exact Heap.lt_size e'
theorem GG.tabs {P:Addr} {q:Str} (m:(P,q)∈fy):mH h P q:=by
 refine G.tab P q m ?_
 have none:∀ P,W.h0.get? P = some ⟨.none,none,.fields #[],#[]⟩→mH W.h0 P q:=fun P e=>⟨#[],e,trivial,fun pos cv hc=>(by exact ar hc)⟩
 rcases List.mem_cons.mp m with z | z
 ·cases z; exact none _ (W.B.fact _ _ (EF _))
 ·cases List.mem_singleton.mp z; exact none _ (W.B.fact _ _ (EG _))
end
end Mine
end
section
set_option backward.match.sparseCases false
open PySem PySem.W PyProof.Rows PySem.Calls
namespace Mine
inductive Loc (W:ab) (env:Env) (V:Vw) (h:Heap) (x:Str) (a:AV):Prop
 | loc {m v} (k:env.kindOf x = some .local) (n:h.Ns env.locals m) (e:m x = some v) (r:Rel W V v a)
 | cel {c v} (k:env.kindOf x = some .cell∨env.kindOf x = some .free) (d:(x == ("__classdict__":Str)) = false) (e:env.cells.lookup x = some c) (i:h.IsCell c (some v)) (r:Rel W V v a)
noncomputable abbrev aq:=List (Str×AV)
noncomputable def jX (x:Str) (sc:Scope):Bool:=sc.names.any fun p=>sEq x p.1
noncomputable def de (sc:Scope):Option (Addr×Addr×Str×Str):=match jX ⟨#[99,104,101,99,107,95,109,101,109]⟩ sc with
 | true=>some (726,722,⟨#[109,101,109,111,114,121,95,115,104,97,112,101,115,46,60,108,111,99,97,108,115,62,46]⟩,⟨#[109,101,109,111,114,121,95,115,104,97,112,101,115,46,60,108,111,99,97,108,115,62,46,60,108,97,109,98,100,97,62]⟩)
 | false=>(match jX ⟨#[110,101,101,100,95,111,110,101]⟩ sc with
  | true=>some (1000,998,⟨#[101,110,99,111,100,105,110,103,115,46,60,108,111,99,97,108,115,62,46]⟩,⟨#[101,110,99,111,100,105,110,103,115,46,60,108,111,99,97,108,115,62,46,60,108,97,109,98,100,97,62]⟩)
  | false=>none)
structure eY (env:Env):Prop where
 kind:env.scope.kind = .function
 globals:env.globals = mainGlobals
 builtins:env.builtins = builtinsNs
 names:∀ x,env.scope.names.lookup x≠none→(x == ("__debug__":Str)) = false∧(x == ("__classdict__":Str)) = false
 lam:∀ c P q q',de env.scope = some (c,P,q,q')→env.code = .ref c∧env.qual = q
structure dh (d:Nat) (A:Around):Prop where
 handled:A.handled = none
 depth:A.depth + d≤900
 units:A.units + 3 * d≤9000
theorem dh.up {d d':Nat} {A:Around} (a:dh d' A) (h:d≤d'):dh d A:=⟨a.handled,by have:=a.depth; lia,by have:=a.units; lia⟩
set_option genCtorIdx true in
inductive PV where
 | lst (l:List AV)
 | fld (fs:List (Str×AV))
 | obj (C:Addr) (m:Nat)
 | dicS (l:List (Str×AV))
 | dicI (l:List (Int×AV))
 | dicT (l:List (List Int×AV))
 | froz (a:AV)
 | gone
noncomputable abbrev Own:=List PV
noncomputable def ow (l:Own):(n:Nat)→Option { pv:PV // l[n]? = some pv }:=List.rec (motive:=fun l=>(n:Nat)→Option { pv:PV // l[n]? = some pv }) (fun _=>none) (fun a l ih n=>Nat.rec (motive:=fun n=>Option { pv:PV // (a::l)[n]? = some pv }) (some ⟨a,rfl⟩) (fun k _=>ih k) n) l
noncomputable def EJ (own:Own) (n:Nat):Option { l:List (Str×AV) // own[n]? = some (.fld l) }:=match ow own n with
 | some ⟨.fld l,hp⟩=>some ⟨l,hp⟩
 | _=>none
noncomputable def qo (own:Own) (n:Nat):Option { r:Addr×Nat×List (Str×AV) // own[n]? = some (.obj r.1 r.2.1)∧own[r.2.1]? = some (.fld r.2.2) }:=match ow own n with
 | some ⟨.obj C m,hp⟩=>(match EJ own m with
  | some ⟨fs,hq⟩=>some ⟨(C,m,fs),hp,hq⟩
  | none=>none)
 | _=>none
noncomputable def live:PV→Bool
 | .froz _ | .gone=>false
 | _=>true
inductive qp {α:Type} (f:List α→Nat→Obj) (P:List α→Prop):Obj→Prop
 | mk {vs n} (r:P vs):qp f P (f vs n)
inductive wV (ad:List Addr) (C:Addr) (m:Nat):Obj→Prop
 | mk {d} (h:ad[m]? = some d):wV ad C m (instObj C d)
structure wW {κ:Type} [DecidableEq κ] {w:World} (k:PySem.KeyKind pg w κ) (P:List (κ×Value)→Prop) (a:Addr) (o:Obj):Prop where
 ns:(a == sysModules) = false
 ex:∃ kvs,o.IsDictOf k kvs∧P kvs
noncomputable abbrev tK (W:ab):HeapKind pg W.w (List Int):=tupleKind (intKind pg W.w)
inductive jY (V:Vw) (ks:List Int) (a:Addr):Prop
 | mk {vs n} (h:V.g a (jU vs n)) (r:bT ks vs)
inductive cy (W:ab) (V:Vw):List (List Int×Addr×Value)→List (List Int×AV)→Prop
 | nil:cy W V [] []
 | cons {ks a v b xs l} (k:jY V ks a) (h:Rel W V v b) (r:cy W V xs l):cy W V ((ks,a,v)::xs) ((ks,b)::l)
structure EK (W:ab) (V:Vw) (l:List (List Int×AV)) (o:Obj):Prop where
 x:o.ExactDict
 ex:∃ xs es ep,o.data = .dict es ep∧es.toList = xs.map (entryOfKey (tK W))∧(xs.map (·.1)).Nodup∧cy W V xs l
noncomputable def d8 (W:ab) (V:Vw) (a:Addr) (o:Obj):PV→Prop
 | .lst l=>qp bo (fun vs=>ai W V vs l) o
 | .fld fs=>qp dictOf (fun es=>bG W V es fs) o
 | .obj C m=>wV V.ad C m o
 | .dicS l=>wW (strKind pg W.w) (fun k=>bJ W V k l) a o
 | .dicI l=>wW (intKind pg W.w) (fun k=>bP W V k l) a o
 | .dicT l=>EK W V l o
 | .froz _=>False
 | .gone=>False
section
variable {W:ab} {V V':Vw} {a:Addr} {o:Obj} {p:PV}
theorem cy.mono (s:V.Le V') {xs:List (List Int×Addr×Value)} {l:List (List Int×AV)} (r:cy W V xs l):cy W V' xs l:=by
 induction r with
 | nil=>exact .nil
 | cons k h _ ih=>obtain ⟨k,i⟩:=k; exact .cons ⟨s.g _ _ k,i⟩ (h.mono s) ih
theorem d8.mono (s:V.Le V') (r:d8 W V a o p):d8 W V' a o p:=by
 cases p with
 | lst=>obtain ⟨r⟩:=r; exact .mk (r.mono s)
 | fld=>obtain ⟨r⟩:=r; exact .mk (r.mono s)
 | obj=>obtain ⟨r⟩:=r; exact .mk (s.ad _ _ r)
 | dicS=>obtain ⟨z,kvs,d,r⟩:=r; exact ⟨z,kvs,d,r.mono s⟩
 | dicI=>obtain ⟨z,kvs,d,r⟩:=r; exact ⟨z,kvs,d,r.mono s⟩
 | dicT=>obtain ⟨x,xs,es,ep,d,e,n,r⟩:=r; exact ⟨x,xs,es,ep,d,e,n,r.mono s⟩
 | froz | gone=>exact r
theorem qr {κ:Type} [DecidableEq κ] {w:World} {k:PySem.KeyKind pg w κ} {kvs:List (κ×Value)} (d:o.IsDictOf k kvs):soft o = false∧bB o = false:=by
 refine af fun nG=>?_
 obtain ⟨es,e,⟨hc,_⟩,h,_⟩:=d
 refine nG ?_
 exact ⟨by unfold soft; rw [hc]; rfl,d3 fun vs q=>by rw [h] at q; cases q⟩
theorem d8.soft (r:d8 W V a o p):soft o = false∧bB o = false:=by
 cases p with
 | lst=>obtain ⟨r⟩:=r; exact ⟨rfl,rfl⟩
 | fld=>obtain ⟨r⟩:=r; exact ⟨rfl,rfl⟩
 | obj=>obtain ⟨r⟩:=r; exact ⟨rfl,rfl⟩
 | dicS=>obtain ⟨z,kvs,d,r⟩:=r; exact qr d
 | dicI=>obtain ⟨z,kvs,d,r⟩:=r; exact qr d
 | dicT=>
  obtain ⟨⟨hc,_⟩,xs,es,ep,d,_⟩:=r
  exact ⟨by unfold Mine.soft; rw [hc]; rfl,d3 fun vs q=>by rw [d] at q; cases q⟩
 | froz | gone=>cases r
end
structure At (own:Own) (ad:List Addr) (n:Nat) (pv:PV) (a:Addr):Prop where
 own:own[n]? = some pv
 live:live pv = true
 ad:ad[n]? = some a
noncomputable def ao (own:Own) (ad:List Addr):AS:=fun u=>∃ n pv,At own ad n pv u
structure Pt where
 own:Own
 ad:List Addr
 h:Heap
noncomputable def vw (U:AS) (p:Pt):Vw:=⟨aF (fun u=>U u∨ao p.own p.ad u) p.h,p.ad⟩
structure aO (W:ab) (U:AS) (p:Pt):Prop where
 len:p.ad.length = p.own.length
 obj:∀ n pv a,At p.own p.ad n pv a→¬U a∧∃ o,p.h.get? a = some o∧d8 W (vw U p) a o pv
 fz:∀ (n:Nat) (t:AV),p.own[n]? = some (PV.froz t)→∃ a,p.ad[n]? = some a∧Rel W (vw U p) (.ref a) t
 inj:∀ n m pv qv a,At p.own p.ad n pv a→At p.own p.ad m qv a→n = m
 top:∀ u,ao p.own p.ad u→W.h0.get? u = none
noncomputable def Pre (ad ad':List Addr):Prop:=∀ (n:Nat) (a:Addr),ad[n]? = some a→ad'[n]? = some a
structure After (W:ab) (U:AS) (p q:Pt):Prop where
 ad:Pre p.ad q.ad
 keep:ag (aQ (ao p.own p.ad) p.h) q.h
 new:∀ u,ao q.own q.ad u→ao p.own p.ad u∨p.h.get? u = none
 owns:aO W U q
section
variable {W:ab} {U:AS} {p q r:Pt} {u:Addr} {o:Obj}
theorem aO.low (O:aO W U p) (h:ao p.own p.ad u):bA p.h u:=let ⟨_,_,a⟩:=h; let ⟨_,o,e,r⟩:=O.obj _ _ _ a; ⟨o,e,r.soft.2⟩
theorem aO.nU (O:aO W U p) (h:ao p.own p.ad u):¬U u:=let ⟨_,_,a⟩:=h; (O.obj _ _ _ a).1
theorem fD {P:AS} {h:Heap} (e:P u∨h.get? u = none):(aQ P h).get? u = none:=by
 cases z:(aQ P h).get? u with
 | none=>rfl
 | some o=>obtain ⟨z,n⟩:=a9.mp z; rcases e with e | e; exact absurd e n; rw [e] at z; exact ar z
theorem ag.fE {P:AS} {h h1:Heap} (k:ag h1 h) (f:∀ u,P u→h1.get? u = none∧bA h u):ag h1 (aQ P h):=aw.hide k f
theorem After.hk (k:After W U p q):ag (aQ (ao p.own p.ad) p.h) (aQ (ao q.own q.ad) q.h):=k.keep.fE fun u z=>⟨fD (k.new u z),k.owns.low z⟩
theorem After.out (k:After W U p q) (n:¬ao p.own p.ad u) (e:p.h.get? u = some o):¬ao q.own q.ad u:=fun z=>(k.new u z).elim n fun z=>by rw [e] at z; exact c9 z
theorem After.back (k:After W U p q) (z:q.h.get? u = none):ao p.own p.ad u∨p.h.get? u = none:=by
 by_cases y:ao p.own p.ad u
 ·exact .inl y
 ·cases e:p.h.get? u with
  | none=>exact .inr rfl
  | some o=>obtain ⟨_,e'⟩:=k.keep.ex id (a9.mpr ⟨e,y⟩); rw [z] at e'; exact ar e'
theorem After.trans (k:After W U p q) (l:After W U q r):After W U p r:=⟨fun n a e=>l.ad n a (k.ad n a e),k.hk.trans l.keep,fun u z=>(l.new u z).elim (k.new u) (k.back),l.owns⟩
theorem After.view (k:After W U p q):(vw U p).Le (vw U q):=⟨fun b o ⟨e,s,n⟩=>⟨k.keep.get (a9.mpr ⟨e,fun z=>n (.inr z)⟩) s,s,fun z=>z.elim (fun z=>n (.inl z)) (k.out (fun z=>n (.inr z)) e)⟩,k.ad⟩
theorem aO.keep (O:aO W U p) {h':Heap} (k:ag p.h h'):aO W U ⟨p.own,p.ad,h'⟩:=
 have l:(vw U p).Le (vw U ⟨p.own,p.ad,h'⟩):=⟨k.aF _,fun _ _ e=>e⟩
 ⟨O.len,fun n pv a z=>let ⟨n,o,e,r⟩:=O.obj n pv a z; ⟨n,o,k.gj e r.soft.2,r.mono l⟩,fun n t e=>let ⟨a,e,r⟩:=O.fz n t e; ⟨a,e,r.mono l⟩,O.inj,O.top⟩
theorem aO.grow (O:aO W U p) {h':Heap} (k:ag p.h h'):After W U p ⟨p.own,p.ad,h'⟩:=⟨fun _ _ e=>e,ag.dQ.trans k,fun _=>.inl,O.keep k⟩
theorem aO.refl (O:aO W U p):After W U p p:=O.grow (.refl _)
theorem fF {ad:List Addr} {a:Addr}:Pre ad (ad ++ [a]):=fun n b e=>by
 have:=(List.getElem?_eq_some_iff.mp e).1
 rw [List.getElem?_append_left this]; exact e
theorem jZ {α:Type} {l:List α} {x y:α} {n:Nat} (e:(l ++ [x])[n]? = some y):(n = l.length∧y = x)∨l[n]? = some y:=by
 rw [List.getElem?_append] at e
 split at e
 ·exact .inr e
 ·cases z:n - l.length with
  | zero=>rw [z] at e; exact .inl ⟨by lia,(Option.some.inj e).symm⟩
  | succ=>rw [z] at e; exact ar e
theorem iS {α:Type} {l:List α} {x:α}:(l ++ [x])[l.length]? = some x:=by rw [List.getElem?_append_right (Nat.le_refl _),Nat.sub_self]; rfl
theorem At.push {own:Own} {ad:List Addr} {pv x:PV} {a b:Addr} {n:Nat} (e:ad.length = own.length) (z:At (own ++ [x]) (ad ++ [b]) n pv a):(n = own.length∧pv = x∧a = b)∨At own ad n pv a:=by
 obtain ⟨h1,h2,h3⟩:=z
 rcases jZ h1 with ⟨rfl,rfl⟩ | h1
 ·rcases jZ h3 with ⟨_,rfl⟩ | h3
  ·exact .inl ⟨rfl,rfl,rfl⟩
  ·have:=(List.getElem?_eq_some_iff.mp h3).1; lia
 ·rcases jZ h3 with ⟨z,_⟩ | h3
  ·have:=(List.getElem?_eq_some_iff.mp h1).1; lia
  ·exact .inr ⟨h1,h2,h3⟩
theorem At.old {own:Own} {ad:List Addr} {pv x:PV} {a b:Addr} {n:Nat} (z:At own ad n pv a):At (own ++ [x]) (ad ++ [b]) n pv a:=⟨by
 have:=(List.getElem?_eq_some_iff.mp z.own).1
 rw [List.getElem?_append_left this]; exact z.own,z.live,fF _ _ z.ad⟩
theorem aO.alloc (O:aO W U p) (G:GG W p.h) (low:∀ u,U u→∃ o,p.h.get? u = some o) {h':Heap} {x:Addr} {ob:Obj} {pv:PV} (k:ag p.h h') (hz:p.h.get? x = none) (ho:h'.get? x = some ob) (hl:live pv = true)
  (hr:∀ V,(vw U p).Le V→V.ad = p.ad ++ [x]→d8 W V x ob pv):After W U p ⟨p.own ++ [pv],p.ad ++ [x],h'⟩:=by
 have pr:∀ u,ao (p.own ++ [pv]) (p.ad ++ [x]) u→u = x∨ao p.own p.ad u:=fun u ⟨n,qv,z⟩=>(z.push O.len).elim (fun z=>.inl z.2.2) fun z=>.inr ⟨n,qv,z⟩
 have l:(vw U p).Le (vw U ⟨p.own ++ [pv],p.ad ++ [x],h'⟩):=⟨k.sub fun b o e n=>⟨id,fun z=>z.elim (fun z=>n (.inl z)) fun z=>(pr b z).elim (eV e hz) fun z=>n (.inr z)⟩,fF⟩
 have ap:∀ n qv,¬At p.own p.ad n qv x:=fun n qv z=>by obtain ⟨_,o,e,_⟩:=O.obj _ _ _ z; rw [hz] at e; exact ar e
 refine ⟨fF,ag.dQ.trans k,fun u z=>(pr u z).symm.imp id fun z=>(by rw [z]; exact hz),⟨by simp [O.len],fun n qv a z=>?_,fun n t e=>?_,fun n m qv rv a z y=>?_,fun u z=>(pr u z).elim (fun z=>z▸G.gone hz) (O.top u)⟩⟩
 ·rcases z.push O.len with ⟨_,rfl,rfl⟩ | z
  ·exact ⟨fun z=>(by obtain ⟨_,e⟩:=low _ z; rw [hz] at e; exact ar e),ob,ho,hr _ l rfl⟩
  ·obtain ⟨n,o,e,r⟩:=O.obj _ _ _ z; exact ⟨n,o,k.gj e r.soft.2,r.mono l⟩
 ·rcases jZ e with ⟨_,e⟩ | e
  ·rw [← e] at hl; exact aS hl
  ·obtain ⟨a,e,r⟩:=O.fz n t e; exact ⟨a,fF _ _ e,r.mono l⟩
 ·rcases z.push O.len with ⟨z,_,x⟩ | z<;>rcases y.push O.len with ⟨y,_,w⟩ | y
  ·rw [z,y]
  ·exact absurd (x▸y) (ap _ _)
  ·exact absurd (w▸z) (ap _ _)
  ·exact O.inj _ _ _ _ _ z y
theorem qs {α:Type} {l:List α} {x y:α} {n m:Nat} (e:(l.set n x)[m]? = some y):(m = n∧y = x)∨(m≠n∧l[m]? = some y):=by
 rw [List.getElem?_set] at e
 split at e
 ·rename_i z
  split at e
  ·exact .inl ⟨z.symm,(Option.some.inj e).symm⟩
  ·exact ar e
 ·rename_i z; exact .inr ⟨fun w=>z w.symm,e⟩
theorem aO.put (O:aO W U p) {n:Nat} {pv pv':PV} {a:Addr} (z:At p.own p.ad n pv a) {h':Heap} (s:Heap.SameBut a p.h h') (hl:live pv' = false→h' = p.h)
  (hr:∀ V,(vw U p).Le V→V.ad = p.ad→(live pv' = false→V.g = aF (fun u=>U u∨ao (p.own.set n pv') p.ad u) p.h∧¬(U a∨ao (p.own.set n pv') p.ad a))→(live pv' = true→∃ ob',h'.get? a = some ob'∧d8 W V a ob' pv')∧∀ t,pv' = .froz t→Rel W V (.ref a) t):After W U p ⟨p.own.set n pv',p.ad,h'⟩:=by
 have at':∀ {m qv b},At (p.own.set n pv') p.ad m qv b→(m = n∧qv = pv'∧b = a)∨(m≠n∧At p.own p.ad m qv b):=fun {m qv b} y=>by
  rcases qs y.own with ⟨x,e⟩ | ⟨x,e⟩
  ·exact .inl ⟨x,e,by have:=y.ad; rw [x,z.ad] at this; exact (Option.some.inj this).symm⟩
  ·exact .inr ⟨x,e,y.live,y.ad⟩
 have pr:∀ u,ao (p.own.set n pv') p.ad u→ao p.own p.ad u:=fun u ⟨m,qv,y⟩=>(at' y).elim (fun y=>y.2.2▸⟨n,pv,z⟩) fun y=>⟨m,qv,y.2⟩
 obtain ⟨nu,o,e,rl⟩:=O.obj _ _ _ z
 have kx:aw (· = a) p.h h':=.one ⟨o,e,rl.soft.2⟩ s
 have l:(vw U p).Le (vw U ⟨p.own.set n pv',p.ad,h'⟩):=⟨kx.sub fun b o e q=>⟨fun w=>q (.inr (w▸⟨n,pv,z⟩)),fun w=>w.elim (fun w=>q (.inl w)) fun w=>q (.inr (pr b w))⟩,fun _ _ e=>e⟩
 have na:live pv' = false→¬ao (p.own.set n pv') p.ad a:=fun hl ⟨m,qv,y⟩=>(at' y).elim (fun w=>by have:=y.live; rw [w.2.1,hl] at this; exact aS this) fun w=>w.1 (O.inj _ _ _ _ _ w.2 z)
 have H:=hr _ l rfl fun q=>⟨by rw [hl q]; rfl,fun w=>w.elim nu (na q)⟩
 refine ⟨fun _ _ e=>e,aw.comp ag.dQ kx fun u q=>.inr (fD (.inl (q▸⟨n,pv,z⟩))),fun u w=>.inl (pr u w),⟨by simp [O.len],fun m qv b y=>?_,fun m t e'=>?_,fun m k qv rv b y x=>?_,fun u w=>O.top u (pr u w)⟩⟩
 ·rcases at' y with ⟨_,rfl,rfl⟩ | ⟨ne,y⟩
  ·exact ⟨nu,H.1 (by cases q:live qv; have:=(by assumption:At _ _ _ qv _).live; rw [q] at this; cases this; rfl)⟩
  ·obtain ⟨nb,ob,eb,rb⟩:=O.obj _ _ _ y
   exact ⟨nb,ob,kx.b9 (fun w=>ne (O.inj _ _ _ _ _ y (w▸z))) eb (.inr rb.soft.2),rb.mono l⟩
 ·rcases qs e' with ⟨rfl,w⟩ | ⟨_,e'⟩
  ·exact ⟨a,z.ad,H.2 t w.symm⟩
  ·obtain ⟨b,eb,rb⟩:=O.fz m t e'; exact ⟨b,eb,rb.mono l⟩
 ·rcases at' y with ⟨y1,_,y⟩ | ⟨y1,y⟩<;>rcases at' x with ⟨x1,_,x⟩ | ⟨x1,x⟩
  ·rw [y1,x1]
  ·exact absurd (O.inj _ _ _ _ _ x (y▸z)) x1
  ·exact absurd (O.inj _ _ _ _ _ y (x▸z)) y1
  ·exact O.inj _ _ _ _ _ y x
end
noncomputable abbrev mv (s:Shared) (h:Heap) (tk:Nat):Shared:={ s with heap:=h,toks:=tk }
noncomputable abbrev ay (W:ab) (A:Around) {α:Type} (t:Sem α) (Q:α→Shared→Prop) (E:Value→Shared→Prop) (s:Shared):Prop:=wpAny (model pg W.w) A t Q E s
structure Base (W:ab) (U:AS) (h:Heap):Prop where
 G:GG W h
 low:∀ u,U u→∃ o,h.get? u = some o
noncomputable abbrev gY (U:AS) (ad:List Addr) (s:Shared) {α:Type} (P:Vw→α→Prop) (Q:α→Shared→Prop):Prop:=∀ v h' tk,ag s.heap h'→P ⟨aF U h',ad⟩ v→Q v (mv s h' tk)
noncomputable abbrev Got (W:ab) (U:AS) (ad:List Addr) (s:Shared) (a:AV) (Q:Value→Shared→Prop):Prop:=gY U ad s (fun V v=>Rel W V v a) Q
noncomputable def Fin (W:ab) (U:AS) (p:Pt) (s:Shared) (own':Own) {α:Type} (P:Vw→α→Prop) (Q:α→Shared→Prop):Prop:=∀ v h' tk ad',After W U p ⟨own',ad',h'⟩→P (vw U ⟨own',ad',h'⟩) v→Q v (mv s h' tk)
structure Fs where
 sc:Scope
 fn:Bool
noncomputable def d9 (sc:Scope):Bool:=jX ⟨#[115,99,114,105,112,116]⟩ sc
structure Cells (env:Env) (B:AS):Prop where
 own:∀ x c,env.kindOf x = some .cell→env.cells.lookup x = some c→B c
 inj:∀ x y c,env.cells.lookup x = some c→env.cells.lookup y = some c→x = y
 has:∀ x,env.kindOf x = some .cell→∃ c,env.cells.lookup x = some c
structure aj (W:ab) (d:Nat) (sc:Fs) where
 A:Around
 env:Env
 h₀:Heap
 X:AS
 B:AS
 ad:List Addr
 a:dh d A
 K:eY env
 es:env.scope = sc.sc
 G:GG W h₀
 out:∀ u,X u→∃ o,h₀.get? u = some o
 base:B env.locals
 cls:∀ x c,env.cells.lookup x = some c→B c∨∃ o,h₀.get? c = some o
 cel:sc.fn = true→Cells env B
 top:sc.fn = true→d9 sc.sc = true→A.frames = some [env]∧env.frame = some env.locals
noncomputable def aj.U {W:ab} {d:Nat} {sc:Fs} (c:aj W d sc):AS:=fun u=>c.X u∨c.B u
section
variable {W:ab} {d:Nat} {sc:Fs} {c:aj W d sc} {σ:aq} {p q:Pt} {U U':AS} {h':Heap} {α:Type} {P:Vw→α→Prop} {Q:α→Shared→Prop} {s:Shared} {own own':Own} {ad:List Addr}
theorem Base.keep {h:Heap} (B:Base W U h) (k:ag h h'):Base W U h':=⟨B.G.trans k,fun u hu=>let ⟨o,e⟩:=B.low u hu; k.ex id e⟩
theorem gY.then {tk:Nat} (G:gY U ad s P Q) (k:ag s.heap h'):gY U ad (mv s h' tk) P Q:=fun v h2 t2 k2 r=>G v h2 t2 (k.trans k2) r
theorem gY.here (G:gY U ad s P Q) {v:α} (tk:Nat) (r:P ⟨aF U s.heap,ad⟩ v):Q v (mv s s.heap tk):=G v s.heap tk (.refl _) r
theorem Fin.then {tk:Nat} (F:Fin W U p s own' P Q) (k:After W U p q):Fin W U q (mv s q.h tk) own' P Q:=fun v h2 t2 a2 k2 r=>F v h2 t2 a2 (k.trans k2) r
theorem Fin.got (F:Fin W U p s p.own P Q) (O:aO W U p) (e:p.h = s.heap):gY (fun u=>U u∨ao p.own p.ad u) p.ad s P Q:=fun v h' tk k r=>F v h' tk p.ad (O.grow (e▸k)) r
theorem Fin.here (F:Fin W U p s p.own P Q) (O:aO W U p) {v:α} {tk:Nat} (r:P (vw U p) v):Q v (mv s p.h tk):=F v p.h tk p.ad O.refl r
theorem Loc.mv {env:Env} {V V':Vw} {h:Heap} {x:Str} {a:AV} (l:Loc W env V h x a) (n:∀ m,h.Ns env.locals m→h'.Ns env.locals m) (i:∀ c v,env.cells.lookup x = some c→h.IsCell c v→h'.IsCell c v) (s:V.Le V'):Loc W env V' h' x a:=by
 cases l with
 | loc k n' e r=>exact .loc k (n _ n') e (r.mono s)
 | cel k d e j r=>exact .cel k d e (i _ _ e j) (r.mono s)
structure SV (c:aj W d sc) (σ:aq) (p:Pt):Prop where
 pre:Pre c.ad p.ad
 keep:ag c.h₀ p.h
 owns:aO W c.U p
 new:∀ u,ao p.own p.ad u→c.h₀.get? u = none
 low:∀ u,c.B u→c.h₀.get? u = none∧bA p.h u
 ns:∃ m,p.h.Ns c.env.locals m
 cls:∀ x a,c.env.cells.lookup x = some a→∃ v,p.h.IsCell a v
 loc:∀ x a,lk x σ = some a→Loc W c.env (vw c.U p) p.h x a
noncomputable def iT (c:aj W d sc) (σ:aq) (own:Own) (t:Sem α) (P:Vw→α→Prop) (own':Own):Prop:=∀ (s:Shared) ad (Q:α→Shared→Prop) (E:Value→Shared→Prop),SV c σ ⟨own,ad,s.heap⟩→Fin W c.U ⟨own,ad,s.heap⟩ s own' P Q→ay W c.A t Q E s
noncomputable abbrev ak (c:aj W d sc) (σ:aq) (own:Own) (t:Sem Value) (a:AV) (own':Own):Prop:=iT c σ own t (fun V v=>Rel W V v a) own'
noncomputable abbrev bU (c:aj W d sc) (σ:aq) (own:Own) (t:Sem (List Value)) (as:List AV) (own':Own):Prop:=iT c σ own t (fun V v=>ai W V v as) own'
noncomputable abbrev bp (c:aj W d sc) (σ:aq) (own:Own) (t:Sem Bool) (b:Bool) (own':Own):Prop:=iT c σ own t (fun _ v=>v = b) own'
theorem SV.gk (S:SV c σ p) {u:Addr} (h:c.U u):∃ o,p.h.get? u = some o:=h.elim (fun h=>let ⟨_,e⟩:=c.out u h; S.keep.ex id e) fun h=>let ⟨o,e,_⟩:=(S.low u h).2; ⟨o,e⟩
theorem SV.Gp (S:SV c σ p):GG W p.h:=c.G.trans S.keep
theorem SV.B (S:SV c σ p):Base W (fun u=>c.U u∨ao p.own p.ad u) p.h:=⟨S.Gp,fun u h=>h.elim S.gk fun h=>let ⟨o,e,_⟩:=S.owns.low h; ⟨o,e⟩⟩
theorem SV.nB (S:SV c σ p) {u:Addr} (h:c.B u):¬ao p.own p.ad u:=fun z=>S.owns.nU z (.inr h)
theorem SV.nC (S:SV c σ p) {x:Str} {a:Addr} (h:c.env.cells.lookup x = some a):¬ao p.own p.ad a:=fun z=>(c.cls x a h).elim (fun h=>S.nB h z) fun ⟨_,e⟩=>by rw [S.new _ z] at e; exact ar e
theorem j3 {P:AS} {h:Heap} {u:Addr} {m:Str→Option Value} (n:¬P u) (e:h.Ns u m):(aQ P h).Ns u m:=let ⟨o,es,ep,e,r⟩:=e; ⟨o,es,ep,a9.mpr ⟨e,n⟩,r⟩
theorem mM {P:AS} {h:Heap} {u:Addr} {v:Option Value} (n:¬P u) (e:h.IsCell u v):(aQ P h).IsCell u v:=let ⟨o,e,r⟩:=e; ⟨o,a9.mpr ⟨e,n⟩,r⟩
theorem SV.after (S:SV c σ p) (k:After W c.U p q):SV c σ q:=
 have ns:∀ {m},p.h.Ns c.env.locals m→q.h.Ns c.env.locals m:=fun n=>k.keep.ns id (j3 (S.nB c.base) n)
 have cl:∀ {x a v},c.env.cells.lookup x = some a→p.h.IsCell a v→q.h.IsCell a v:=fun e i=>k.keep.cell id (mM (S.nC e) i)
 ⟨fun n a e=>k.ad n a (S.pre n a e),(S.keep.fE fun u z=>⟨S.new u z,S.owns.low z⟩).trans k.keep,k.owns,fun u z=>(k.new u z).elim (S.new u) fun z=>S.keep.gone z,
  fun u z=>⟨(S.low u z).1,let ⟨o,e,t⟩:=(S.low u z).2; bA.keep ⟨o,a9.mpr ⟨e,S.nB z⟩,t⟩ k.keep⟩,let ⟨m,n⟩:=S.ns; ⟨m,ns n⟩,fun x a e=>let ⟨v,i⟩:=S.cls x a e; ⟨v,cl e i⟩,fun x a e=>(S.loc x a e).mv (fun _=>ns) (fun _ _ e=>cl e) k.view⟩
theorem SV.sub (S:SV c σ p) {σ':aq} (q:∀ x a,lk x σ' = some a→lk x σ = some a):SV c σ' p:={ S with loc:=fun x a e=>S.loc x a (q x a e) }
theorem aO.less (O:aO W U' p) (s:∀ u,U u→U' u):aO W U p∧(vw U' p).Le (vw U p):=
 have l:(vw U' p).Le (vw U p):=⟨d7 fun u z=>z.imp (s u) id,fun _ _ e=>e⟩
 ⟨⟨O.len,fun n pv a z=>let ⟨n,o,e,r⟩:=O.obj n pv a z; ⟨fun z=>n (s _ z),o,e,r.mono l⟩,fun n t e=>let ⟨a,e,r⟩:=O.fz n t e; ⟨a,e,r.mono l⟩,O.inj,O.top⟩,l⟩
theorem SV.leave (S:SV c σ q) (hh:c.h₀ = aQ (ao p.own p.ad) p.h) (ha:Pre p.ad c.ad):After W c.X p q:=
 ⟨fun n a e=>S.pre n a (ha n a e),hh▸S.keep,fun u z=>(by
  have e:=S.new u z
  by_cases y:ao p.own p.ad u
  ·exact .inl y
  ·cases w:p.h.get? u with
   | none=>exact .inr rfl
   | some o=>rw [hh,a9.mpr ⟨w,y⟩] at e; exact c9 e),(S.owns.less fun _=>.inl).1⟩
theorem SV.EL (S:SV c σ q):(vw c.U q).Le (vw c.X q):=(S.owns.less fun _=>.inl).2
theorem aO.mN {u:Addr} (O:aO W U p) (hu:U u) (kx:aw (· = u) p.h h'):aO W U ⟨p.own,p.ad,h'⟩∧(vw U p).Le (vw U ⟨p.own,p.ad,h'⟩):=
 have l:(vw U p).Le (vw U ⟨p.own,p.ad,h'⟩):=⟨kx.sub fun b o e n=>⟨fun q=>n (.inl (q▸hu)),n⟩,fun _ _ e=>e⟩
 ⟨⟨O.len,fun n pv a z=>let ⟨n,o,e,r⟩:=O.obj n pv a z; ⟨n,o,kx.b9 (fun q=>n (q▸hu)) e (.inr r.soft.2),r.mono l⟩,fun n t e=>let ⟨a,e,r⟩:=O.fz n t e; ⟨a,e,r.mono l⟩,O.inj,O.top⟩,l⟩
theorem SV.change {u:Addr} (S:SV c σ p) (hu:c.B u) (lo:bA h' u) (s:Heap.SameBut u p.h h') (cl:∀ x,c.env.cells.lookup x = some u→∃ v,h'.IsCell u v) (ns:∃ m,h'.Ns c.env.locals m) {σ':aq} (loc:∀ x a,lk x σ' = some a→(vw c.U p).Le (vw c.U ⟨p.own,p.ad,h'⟩)→Loc W c.env (vw c.U ⟨p.own,p.ad,h'⟩) h' x a):SV c σ' ⟨p.own,p.ad,h'⟩:=
 have kx:aw (· = u) p.h h':=.one (S.low u hu).2 s
 have O:=S.owns.mN (.inr hu) kx
 ⟨S.pre,S.keep.dF kx fun v q=>q▸(S.low u hu).1,O.1,S.new,fun v q=>⟨(S.low v q).1,by
  by_cases z:v = u
  ·exact z▸lo
  ·obtain ⟨ob,e,t⟩:=(S.low v q).2; exact ⟨ob,(s.2 v z).trans e,t⟩⟩,ns,fun x a e=>by
  by_cases z:a = u
  ·subst z; exact cl x e
  ·obtain ⟨v,i⟩:=S.cls x a e; exact ⟨v,kx.cell z i⟩,fun x a e=>loc x a e O.2⟩
theorem SV.store (S:SV c σ p) {x:Str} {v:Value} {a:AV} {m:Str→Option Value} (hk:c.env.kindOf x = some .local) (r:Rel W (vw c.U p) v a) (hn:p.h.Ns c.env.locals m) (hn':h'.Ns c.env.locals (fun y=>if y = x then some v else m y)) (s:Heap.SameBut c.env.locals p.h h'):SV c ((x,a)::del x σ) ⟨p.own,p.ad,h'⟩:=by
 refine S.change c.base (.ns hn') s (fun y e=>?_) ⟨_,hn'⟩ fun y b e ss=>?_
 ·obtain ⟨_,i⟩:=S.cls y _ e; exact absurd rfl (Ns.qj hn i)
 ·rw [dc] at e
  split at e
  ·rename_i q; obtain rfl:=Option.some.inj e; exact .loc (q▸hk) hn' (if_pos q) (r.mono ss)
  ·rename_i q
   rw [mK,if_neg q] at e
   cases S.loc y b e with
   | loc k n e r=>exact .loc k hn' (by rw [if_neg q,hn.eq_nsMap,← n.eq_nsMap]; exact e) (r.mono ss)
   | cel k d e i r=>exact .cel k d e (aw.cell (aw.one (bA.ns hn) s) (Ns.qj hn i) i) (r.mono ss)
theorem SV.EM (S:SV c σ p) (an:sc.fn = true) {x:Str} {u:Addr} {v:Value} {a:AV} (hk:c.env.kindOf x = some .cell) (hz:(x == ("__classdict__":Str)) = false) (hc:c.env.cells.lookup x = some u) (r:Rel W (vw c.U p) v a) (hi:h'.IsCell u (some v)) (s:Heap.SameBut u p.h h'):SV c ((x,a)::del x σ) ⟨p.own,p.ad,h'⟩:=by
 have hB:=(c.cel an).own x u hk hc
 have kx:aw (· = u) p.h h':=.one (S.low u hB).2 s
 obtain ⟨_,i₀⟩:=S.cls x u hc
 obtain ⟨m,hn⟩:=S.ns
 have nL:c.env.locals≠u:=(Ns.qj hn i₀).symm
 refine S.change hB (.cell hi) s (fun _ _=>⟨_,hi⟩) ⟨m,kx.ns nL hn⟩ fun y b e ss=>?_
 rw [dc] at e
 split at e
 ·rename_i q; obtain rfl:=Option.some.inj e; subst q; exact .cel (.inl hk) hz hc hi (r.mono ss)
 ·rename_i q
  rw [mK,if_neg q] at e
  exact (S.loc y b e).mv (fun _=>kx.ns nL) (fun c' _ e=>kx.cell fun z=>q ((c.cel an).inj y x u (z▸e) hc)) ss
end
inductive Out {α:Type} (P:α→Prop) where
 | ok (a:α) (h:P a)
 | ask (B:SB)
 | no (n:Nat)
section
variable {α β:Type} {P:α→Prop} {Q:β→Prop}
noncomputable def bd (x:Out P) (f:(a:α)→P a→Out Q):Out Q:=Out.rec (motive:=fun _=>Out Q) (fun a h=>f a h) (fun B=>.ask B) (fun n=>.no n) x
noncomputable def au (b:Bool) (n:Nat) (k:b = true→Out P):Out P:=Bool.rec (motive:=fun c=>(c = true→Out P)→Out P) (fun _=>.no n) (fun k=>k rfl) b k
noncomputable def aG (b:Bool) (k:b = true→β) (z:b = false→β):β:=Bool.rec (motive:=fun c=>(c = true→β)→(c = false→β)→β) (fun _ z=>z rfl) (fun k _=>k rfl) b k z
noncomputable def bH (x:Option α) (n:Nat) (k:(y:α)→x = some y→Out Q):Out Q:=Option.rec (motive:=fun o=>((y:α)→o = some y→Out Q)→Out Q) (fun _=>.no n) (fun y k=>k y rfl) x k
noncomputable def di (x:Option α) (k:(y:α)→x = some y→β) (z:x = none→β):β:=Option.rec (motive:=fun o=>((y:α)→o = some y→β)→(o = none→β)→β) (fun _ z=>z rfl) (fun y k _=>k y rfl) x k z
noncomputable def truth {ρ:Nat→Int} {G:Facts} (hG:Sat ρ G) (B:SB):Out (B.val ρ = ·):=di (eQ G B) (fun r e=>.ok r (jQ hG e)) fun _=>.ask B
end
section
variable (W:ab)
noncomputable def ee (f:Value):Prop:=∀ h,GG W h→∃ k,(k = Keeper.frame∨k = Keeper.machine∨k = Keeper.boundFrame)∧Looks (model pg W.w) h (keeperOf f) k
noncomputable def qt (op:Operator) (a b r:AV):Prop:=∀ A U ad s v u (Q:Value→Shared→Prop) (E:Value→Shared→Prop),Base W U s.heap→Rel W ⟨aF U s.heap,ad⟩ v a→Rel W ⟨aF U s.heap,ad⟩ u b→Got W U ad s r Q→ay W A (binaryOp op v u) Q E s
noncomputable def wY (op:UnaryOp) (a r:AV):Prop:=∀ A U ad s v (Q:Value→Shared→Prop) (E:Value→Shared→Prop),Rel W ⟨aF U s.heap,ad⟩ v a→Got W U ad s r Q→ay W A (unaryOp op v) Q E s
noncomputable def qu (op:CmpOp) (a b r:AV):Prop:=∀ A U ad s v u (Q:Value→Shared→Prop) (E:Value→Shared→Prop),A.units≤9000→Base W U s.heap→Rel W ⟨aF U s.heap,ad⟩ v a→Rel W ⟨aF U s.heap,ad⟩ u b→Got W U ad s r Q→ay W A (compareOp op v u) Q E s
noncomputable def j4 (a b r:AV):Prop:=∀ A U ad s v u k val (Q:Value→Shared→Prop) (E:Value→Shared→Prop),(∀ o i,subscripted k false o i = operate [o,i] (getItem o i))→Base W U s.heap→Rel W ⟨aF U s.heap,ad⟩ v a→Rel W ⟨aF U s.heap,ad⟩ u b→Got W U ad s r Q→ay W A (subscriptTail val k v u) Q E s
noncomputable def wZ (a:AV) (lo hi:Option Int) (r:AV):Prop:=∀ A U ad s v b l u (Q:Value→Shared→Prop) (E:Value→Shared→Prop),Base W U s.heap→Rel W ⟨aF U s.heap,ad⟩ v a→IsPart l lo→IsPart u hi→s.heap.IsSliceOf b l u .none→Got W U ad s r Q→ItemOn (model pg W.w) A E v (.ref b) Q s
noncomputable def qw (a:AV) (x:Str) (r:AV):Prop:=∀ A U ad s v (Q:Value→Shared→Prop) (E:Value→Shared→Prop),Base W U s.heap→Rel W ⟨aF U s.heap,ad⟩ v a→Got W U ad s r Q→ay W A (getAttr v x true) Q E s
noncomputable def eZ (own:Own) (op:CmpOp) (a b r:AV):Prop:=∀ A U ad s v u (Q:Value→Shared→Prop) (E:Value→Shared→Prop),A.units≤9000→Base W U s.heap→aO W U ⟨own,ad,s.heap⟩→Rel W (vw U ⟨own,ad,s.heap⟩) v a→Rel W (vw U ⟨own,ad,s.heap⟩) u b→Fin W U ⟨own,ad,s.heap⟩ s own (fun V v=>Rel W V v r) Q→ay W A (compareOp op v u) Q E s
noncomputable def j5 (own:Own) (a b r:AV):Prop:=∀ A U ad s v u k val (Q:Value→Shared→Prop) (E:Value→Shared→Prop),A.units≤9000→(∀ o i,subscripted k false o i = operate [o,i] (getItem o i))→Base W U s.heap→aO W U ⟨own,ad,s.heap⟩→Rel W (vw U ⟨own,ad,s.heap⟩) v a→Rel W (vw U ⟨own,ad,s.heap⟩) u b→Fin W U ⟨own,ad,s.heap⟩ s own (fun V v=>Rel W V v r) Q→ay W A (subscriptTail val k v u) Q E s
noncomputable def qx (own:Own) (a:AV) (x:Str) (r:AV):Prop:=∀ A U ad s v (Q:Value→Shared→Prop) (E:Value→Shared→Prop),Base W U s.heap→aO W U ⟨own,ad,s.heap⟩→Rel W (vw U ⟨own,ad,s.heap⟩) v a→Fin W U ⟨own,ad,s.heap⟩ s own (fun V v=>Rel W V v r) Q→ay W A (getAttr v x true) Q E s
structure Tells (d:Nat) (f:Value) (own:Own) (as:List AV) (r:AV) (own':Own):Prop where
 keep:ee W f
 run:∀ A,dh d A→∀ U ad s vs (Q:Value→Shared→Prop) (E:Value→Shared→Prop),Base W U s.heap→aO W U ⟨own,ad,s.heap⟩→ai W (vw U ⟨own,ad,s.heap⟩) vs as→Fin W U ⟨own,ad,s.heap⟩ s own' (fun V v=>Rel W V v r) Q→ay W A (call f vs) Q E s
noncomputable abbrev gZ (d:Nat) (own:Own) (f:AV) (as:List AV) (r:AV) (own':Own):Prop:=∀ V v,Rel W V v f→Tells W d v own as r own'
noncomputable def cz (d:Nat) (own:Own) (a:AV) (x:Str) (own1:Own) (as:List AV) (r:AV) (own':Own):Prop:=∀ A,dh d A→∀ U ad s v pl (Q:Value×List Value→Shared→Prop) (E:Value→Shared→Prop),Base W U s.heap→aO W U ⟨own,ad,s.heap⟩→Rel W (vw U ⟨own,ad,s.heap⟩) v a→
 (∀ f first tk,ee W f→(∀ s' ad' vs (Q':Value→Shared→Prop) E',After W U ⟨own,ad,s.heap⟩ ⟨own1,ad',s'.heap⟩→Base W U s'.heap→ai W (vw U ⟨own1,ad',s'.heap⟩) vs as→Fin W U ⟨own1,ad',s'.heap⟩ s' own' (fun V v=>Rel W V v r) Q'→ay W A (PySem.call f (first ++ vs)) Q' E' s')→Q (f,first) (mv s s.heap tk))→ay W A (getMethod v x pl) Q E s
noncomputable def w3 (x:Str) (a:AV):Prop:=∃ v,(((KH W.w.params).nsMap mainGlobals x = some v)∨((KH W.w.params).nsMap mainGlobals x = none∧x≠"__name__"∧bootBuiltins x = some v))∧∀ V,Rel W V v a
noncomputable def g0 (a:AV) (b:Bool):Prop:=∀ A V v s (Q:Bool→Shared→Prop) (E:Value→Shared→Prop),Rel W V v a→Q b s→ay W A (truthy v) Q E s
variable {W}
theorem Base.more {U:AS} {p:Pt} (B:Base W U p.h) (O:aO W U p):Base W (fun u=>U u∨ao p.own p.ad u) p.h:=⟨B.G,fun u h=>h.elim (B.low u) fun h=>let ⟨o,e,_⟩:=O.low h; ⟨o,e⟩⟩
theorem qu.o {own:Own} {op:CmpOp} {a b r:AV} (h:qu W op a b r):eZ W own op a b r:=fun A U ad s v u Q E hu B O rv ru F=>h _ _ _ _ _ _ _ _ hu (B.more O) rv ru (F.got O rfl)
theorem j4.o {own:Own} {a b r:AV} (h:j4 W a b r):j5 W own a b r:=fun A U ad s v u k val Q E _ hs B O rv ru F=>h _ _ _ _ _ _ _ _ _ _ hs (B.more O) rv ru (F.got O rfl)
theorem qw.o {own:Own} {a:AV} {x:Str} {r:AV} (h:qw W a x r):qx W own a x r:=fun A U ad s v Q E B O rv F=>h _ _ _ _ _ _ _ (B.more O) rv (F.got O rfl)
theorem Tells.up {d d':Nat} {f:Value} {own own':Own} {as:List AV} {r:AV} (t:Tells W d f own as r own') (h:d≤d'):Tells W d' f own as r own':=⟨t.1,fun A a=>t.2 A (a.up h)⟩
theorem le_size {n:Nat} (h:Nat.ble n 1000 = true):n≤sizeLine:=Nat.le_trans (Nat.le_of_ble_eq_true h) (by rw [sizeLine_eq]; lia)
variable {d:Nat} {sc:Fs} {c:aj W d sc} {σ:aq} {pos:Pos} {own own1 own2 own3:Own}
theorem aj.u (c:aj W d sc):c.A.units≤9000:=Nat.le_trans (Nat.le_add_right _ _) c.a.units
theorem SV.BU {p:Pt} (S:SV c σ p):Base W c.U p.h:=⟨S.Gp,fun _=>S.gk⟩
theorem ak.name {x:Str} {a:AV} {k:NameKind} (hk:lk x sc.sc.names = some k) (h:(k = .globalImplicit∧w3 W x a)∨(k≠.globalImplicit∧lk x σ = some a)):ak c σ own (eval (.Name x pos) c.env) a own:=fun s ad Q E S F=>by
 have q:c.env.scope.names.lookup x = some k:=by rw [c.es,← cU]; exact hk
 have dbg:=(c.K.names x (by rw [q]; exact fun z=>(by exact c9 z))).1
 rcases h with ⟨rfl,v,hv,r⟩ | ⟨_,e⟩
 ·refine Name_function_global c.K.kind q ?_ dbg
  have fin:=F.here S.owns (v:=v) (tk:=s.toks) (r _)
  have hg:s.heap.Ns c.env.globals ((KH W.w.params).nsMap mainGlobals):=by rw [c.K.globals]; exact S.Gp.g
  rcases hv with hv | ⟨hn,hm,hv⟩
  ·exact loadGlobal_global hg hv fin
  ·refine af fun nG=>?_
   obtain ⟨mb,hb,hx⟩:=GG.b S.Gp
   refine nG ?_
   exact loadGlobal_builtin hg hn (by rw [c.K.builtins]; exact hb) ((hx x hm).trans hv) fin
 ·refine wpAny_Name ?_ dbg
  cases S.loc x a e with
  | loc kk hn hv r=>exact wpAny_loadName_local c.K.kind kk hn hv (F.here S.owns (tk:=s.toks) r)
  | cel kk cd hc hi r=>
   rcases kk with kk | kk
   ·exact wpAny_loadName_cell c.K.kind kk hc hi (F.here S.owns (tk:=s.toks) r)
   ·exact wpAny_loadName_free c.K.kind kk hc hi (F.here S.owns (tk:=s.toks) r) cd
theorem ak.bin {op:Operator} {l r:Expr} {a b q:AV} (hl:ak c σ own (eval l c.env) a own1) (hr:ak c σ own1 (eval r c.env) b own2) (e:qt W op a b q):ak c σ own (eval (.BinOp l op r pos) c.env) q own2:=fun s ad Q E S F=>
 wpAny_BinOp (hl s ad _ _ S fun v h1 t1 a1 k1 r1=>hr _ a1 _ _ (S.after k1) fun v2 h2 t2 a2 k2 r2=>e _ _ a2 _ _ _ _ _ (S.after (k1.trans k2)).B (r1.mono k2.view) r2 ((F.then (k1.trans k2)).got k2.owns rfl))
theorem ak.qy {op:UnaryOp} {x:Expr} {a q:AV} (hl:ak c σ own (eval x c.env) a own1) (e:wY W op a q):ak c σ own (eval (.UnaryOp op x pos) c.env) q own1:=fun s ad Q E S F=>
 wpAny_UnaryOp (hl s ad _ _ S fun v h1 t1 a1 k1 r1=>e _ _ a1 _ _ _ _ r1 ((F.then k1).got k1.owns rfl))
theorem ak.qz {op:CmpOp} {l r:Expr} {a b q:AV} (hn:behindInMarks op r = false) (hl:ak c σ own (eval l c.env) a own1) (hr:ak c σ own1 (eval r c.env) b own2) (e:eZ W own2 op a b q):ak c σ own (eval (.Compare l [op] [r] pos) c.env) q own2:=fun s ad Q E S F=>
 wpAny_Compare1 (hl s ad _ _ S fun v h1 t1 a1 k1 r1=>hr _ a1 _ _ (S.after k1) fun v2 h2 t2 a2 k2 r2=>e _ _ a2 _ _ _ _ _ c.u (S.after (k1.trans k2)).BU k2.owns (r1.mono k2.view) r2 (F.then (k1.trans k2))) hn
theorem bp.qz {op:CmpOp} {l r:Expr} {a b q:AV} {t:Bool} {whole:Sem Value} (hn:behindInMarks op r = false) (hl:ak c σ own (eval l c.env) a own1) (hr:ak c σ own1 (eval r c.env) b own2) (e:eZ W own2 op a b q) (ht:g0 W q t):bp c σ own (isTrue (.Compare l [op] [r] pos) c.env whole) t own2:=fun s ad Q E S F=>
 wpAny_isTrue_Compare1 (hl s ad _ _ S fun v h1 t1 a1 k1 r1=>hr _ a1 _ _ (S.after k1) fun v2 h2 t2 a2 k2 r2=>e _ _ a2 _ _ _ _ _ c.u (S.after (k1.trans k2)).BU k2.owns (r1.mono k2.view) r2 fun v3 h3 t3 a3 k3 r3=>ht _ _ _ _ _ _ r3 (F _ h3 t3 a3 ((k1.trans k2).trans k3) rfl)) hn
structure Chain (c:aj W d sc) (σ:aq) (own:Own) (r':Expr) (op':CmpOp) (b:AV) (P:AV→Prop) (own':Own):Prop where
 ex:∃ b' q,ak c σ own (eval r' c.env) b' own'∧eZ W own' op' b b' q∧P q
theorem ak.j6 {op op':CmpOp} {l r r':Expr} {a b q₁ q:AV} {t:Bool} (hn:behindInMarks op' r' = false) (hl:ak c σ own (eval l c.env) a own1) (hr:ak c σ own1 (eval r c.env) b own2) (e:eZ W own2 op a b q₁) (ht:g0 W q₁ t)
  (hrest:(t = true∧Chain c σ own2 r' op' b (· = q) own3)∨(t = false∧q = q₁∧own3 = own2)):ak c σ own (eval (.Compare l [op,op'] [r,r'] pos) c.env) q own3:=fun s ad Q E S F=>by
 refine Compare_chain (hl s ad _ _ S fun v h1 t1 a1 k1 r1=>?_) hn
 show wpAny _ _ (holding [v] (eval r c.env) >>= _) _ _ _
 refine wpAny_bind (wpAny_holding (hr _ a1 _ _ (S.after k1) fun v2 h2 t2 a2 k2 r2=>wpAny_bind (wpAny_standAt (wpAny_bind (wpAny_holding ?_)))))
 have k12:=k1.trans k2
 refine e _ _ a2 _ _ _ _ _ c.u (S.after k12).BU k2.owns (r1.mono k2.view) r2 fun v3 h3 t3 a3 k3 r3=>?_
 have k123:=k12.trans k3
 refine wpAny_bind (wpAny_release (wpAny_bind (wpAny_holding (ht _ _ _ _ _ _ r3 ?_))))
 rcases hrest with ⟨rfl,⟨b',_,hr',e',rfl⟩⟩ | ⟨rfl,rfl,rfl⟩
 ·rw [if_pos rfl]
  show wpAny _ _ (holding [v2] (eval r' c.env) >>= _) _ _ _
  exact wpAny_bind (wpAny_holding (hr' _ a3 _ _ (S.after k123) fun v4 h4 t4 a4 k4 r4=>wpAny_bind (wpAny_standAt (wpAny_operate' (e' _ _ a4 _ _ _ _ _ c.u (S.after (k123.trans k4)).BU k4.owns ((r2.mono k3.view).mono k4.view) r4 (F.then (k123.trans k4)))))))
 ·rw [if_neg Bool.false_ne_true]
  exact wpAny_pure (F v3 h3 t3 a3 k123 r3)
theorem bp.j6 {op op':CmpOp} {l r r':Expr} {a b q₁:AV} {t res:Bool} {whole:Sem Value} (hn:behindInMarks op' r' = false) (hl:ak c σ own (eval l c.env) a own1) (hr:ak c σ own1 (eval r c.env) b own2) (e:eZ W own2 op a b q₁) (ht:g0 W q₁ t)
  (hrest:(t = true∧Chain c σ own2 r' op' b (g0 W · res) own3)∨(t = false∧res = false∧own3 = own2)):bp c σ own (isTrue (.Compare l [op,op'] [r,r'] pos) c.env whole) res own3:=fun s ad Q E S F=>by
 refine isTrue_chain (hl s ad _ _ S fun v h1 t1 a1 k1 r1=>?_) hn
 show wpAny _ _ (holding [v] (eval r c.env) >>= _) _ _ _
 refine wpAny_bind (wpAny_holding (hr _ a1 _ _ (S.after k1) fun v2 h2 t2 a2 k2 r2=>wpAny_bind (wpAny_standAt (wpAny_bind (wpAny_holding ?_)))))
 have k12:=k1.trans k2
 refine e _ _ a2 _ _ _ _ _ c.u (S.after k12).BU k2.owns (r1.mono k2.view) r2 fun v3 h3 t3 a3 k3 r3=>?_
 have k123:=k12.trans k3
 refine wpAny_bind (wpAny_release (wpAny_bind (wpAny_holding (ht _ _ _ _ _ _ r3 ?_))))
 rcases hrest with ⟨rfl,⟨b',_,hr',e',ht'⟩⟩ | ⟨rfl,rfl,rfl⟩
 ·rw [if_pos rfl]
  show wpAny _ _ (holding [v2] (eval r' c.env) >>= _) _ _ _
  exact wpAny_bind (wpAny_holding (hr' _ a3 _ _ (S.after k123) fun v4 h4 t4 a4 k4 r4=>wpAny_bind (wpAny_standAt (wpAny_bind (wpAny_operate' (e' _ _ a4 _ _ _ _ _ c.u (S.after (k123.trans k4)).BU k4.owns ((r2.mono k3.view).mono k4.view) r4 fun v5 h5 t5 a5 k5 r5=>wpAny_holding (ht' _ _ _ _ _ _ r5 (F _ h5 t5 a5 ((k123.trans k4).trans k5) rfl))))))))
 ·rw [if_neg Bool.false_ne_true]
  exact wpAny_pure (F _ h3 t3 a3 k123 rfl)
theorem ak.qA {t a b:Expr} {x:Bool} {r:AV} (ht:bp c σ own (isTrue t c.env (eval t c.env)) x own1) (hr:ak c σ own1 (if x = true then eval a c.env else eval b c.env) r own2):ak c σ own (eval (.IfExp t a b pos) c.env) r own2:=fun s ad Q E S F=>
 wpAny_IfExp (ht s ad _ _ S fun v h1 t1 a1 k1 e=>by subst e; have z:=hr (mv s h1 t1) a1 Q E (S.after k1) (F.then k1); cases v<;>exact z)
theorem bp.qA {t a b:Expr} {x r:Bool} {whole:Sem Value} (ht:bp c σ own (isTrue t c.env (eval t c.env)) x own1) (hr:bp c σ own1 (if x = true then isTrue a c.env (eval a c.env) else isTrue b c.env (eval b c.env)) r own2):bp c σ own (isTrue (.IfExp t a b pos) c.env whole) r own2:=fun s ad Q E S F=>
 isTrue_IfExp (ht s ad _ _ S fun v h1 t1 a1 k1 e=>by subst e; have z:=hr (mv s h1 t1) a1 Q E (S.after k1) (F.then k1); cases v<;>exact z)
theorem bp.not {x:Expr} {b:Bool} {whole:Sem Value} (ht:bp c σ own (isTrue x c.env (eval x c.env)) b own1):bp c σ own (isTrue (.UnaryOp .Not x pos) c.env whole) (!b) own1:=fun s ad Q E S F=>
 isTrue_not (ht s ad _ _ S fun v h1 t1 a1 k1 e=>F _ h1 t1 a1 k1 (e▸rfl))
theorem bp.value {e:Expr} {a:AV} {b:Bool} (hs:∀ whole,isTrue e c.env whole = (do let v ← whole; standAt e.pos; holding [v] (truthy v))) (he:ak c σ own (eval e c.env) a own1) (hb:g0 W a b):bp c σ own (isTrue e c.env (eval e c.env)) b own1:=fun s ad Q E S F=>
 isTrue_plain (he s ad _ _ S fun v h1 t1 a1 k1 r1=>hb _ _ _ _ _ _ r1 (F _ h1 t1 a1 k1 rfl)) (hs _)
theorem bp.nil {op:BoolOp} {whole:Sem Value}:bp c σ own (isTrue (.BoolOp op [] pos) c.env whole) (op == .And) own:=fun s ad Q E S F=>by
 cases op
 ·exact isTrue_and_nil (F.here S.owns (tk:=s.toks) rfl)
 ·exact isTrue_or_nil (F.here S.owns (tk:=s.toks) rfl)
noncomputable def ends:BoolOp→Bool→Bool
 | .And,b=>!b
 | .Or,b=>b
theorem bp.bools {op:BoolOp} {x:Expr} {rest:List Expr} {whole:Sem Value} {b r:Bool} (hx:bp c σ own (isTrue x c.env (eval x c.env)) b own1) (hr:if ends op b = true then r = b∧own2 = own1 else bp c σ own1 (isTrue (.BoolOp op rest pos) c.env whole) r own2):bp c σ own (isTrue (.BoolOp op (x::rest) pos) c.env whole) r own2:=fun s ad Q E S F=>by
 cases op
 ·refine isTrue_and (hx s ad _ _ S fun v h1 t1 a1 k1 e=>?_)
  subst e
  cases v
  ·obtain ⟨rfl,rfl⟩:r = false∧own2 = own1:=hr; exact F _ h1 t1 a1 k1 rfl
  ·exact (show bp c σ _ _ _ _ from hr) (mv s h1 t1) a1 Q E (S.after k1) (F.then k1)
 ·refine isTrue_or (hx s ad _ _ S fun v h1 t1 a1 k1 e=>?_)
  subst e
  cases v
  ·exact (show bp c σ _ _ _ _ from hr) (mv s h1 t1) a1 Q E (S.after k1) (F.then k1)
  ·obtain ⟨rfl,rfl⟩:r = true∧own2 = own1:=hr; exact F _ h1 t1 a1 k1 rfl
theorem ak.bools {op:BoolOp} {x y:Expr} {rest:List Expr} {a r:AV} {b:Bool} (hx:ak c σ own (eval x c.env) a own1) (hb:g0 W a b) (hr:if ends op b = true then r = a∧own2 = own1 else ak c σ own1 (eval (.BoolOp op (y::rest) pos) c.env) r own2):ak c σ own (eval (.BoolOp op (x::y::rest) pos) c.env) r own2:=fun s ad Q E S F=>by
 cases op
 ·refine BoolOp_and (hx s ad _ _ S fun v h1 t1 a1 k1 r1=>hb _ _ _ _ _ _ r1 ?_)
  cases b
  ·obtain ⟨rfl,rfl⟩:r = a∧own2 = own1:=hr; exact F v h1 t1 a1 k1 r1
  ·exact (show ak c σ _ _ _ _ from hr) (mv s h1 t1) a1 Q E (S.after k1) (F.then k1)
 ·refine BoolOp_or (hx s ad _ _ S fun v h1 t1 a1 k1 r1=>hb _ _ _ _ _ _ r1 ?_)
  cases b
  ·exact (show ak c σ _ _ _ _ from hr) (mv s h1 t1) a1 Q E (S.after k1) (F.then k1)
  ·obtain ⟨rfl,rfl⟩:r = a∧own2 = own1:=hr; exact F v h1 t1 a1 k1 r1
end
section
noncomputable abbrev dj (x:Expr):Prop:=∀ env rest,starEach (x::rest) env = (false,eval x env)::starEach rest env
noncomputable abbrev mO (x:Expr):Prop:=∀ y env t,attributeBase x y env t = t
structure EN (x:Expr):Prop where
 star:Nat.beq x.ctorIdx 22 = false→dj x
 sub:Nat.beq x.ctorIdx 26 = false→∀ o i,subscripted x false o i = operate [o,i] (getItem o i)
 fold:Nat.beq x.ctorIdx 7 = false→∀ env v,foldedSetIterable x env v = pure v
 base:Nat.beq x.ctorIdx 16 = false→mO x
 marks:Nat.beq x.ctorIdx 7 = false→∀ op,behindInMarks op x = false
 swap:(Nat.ble 8 x.ctorIdx && Nat.ble x.ctorIdx 10) = false→∀ t l env,swapsWith x t l env = pure false
theorem cV (x:Expr):EN x:=by cases x<;>constructor<;>intro h<;>first | exact fun _ _=>rfl | exact fun _ _ _=>rfl | exact fun _=>rfl | cases h
variable {W:ab} {d:Nat} {sc:Fs} {c:aj W d sc} {σ:aq} {pos:Pos} {own own1 own2 own3:Own}
theorem bU.nil:bU c σ own (spliced (backTo pos (starEach [] c.env))) [] own:=fun s ad Q E S F=>wpAny_pure (F.here S.owns (tk:=s.toks) rfl)
theorem bU.cons {x:Expr} {rest:List Expr} {a:AV} {as:List AV} (hx:dj x) (h1:ak c σ own (eval x c.env) a own1) (h2:bU c σ own1 (spliced (backTo pos (starEach rest c.env))) as own2):bU c σ own (spliced (backTo pos (starEach (x::rest) c.env))) (a::as) own2:=fun s ad Q E S F=>by
 rw [hx]
 show wpAny _ _ (eval x c.env >>= _) _ _ _
 exact wpAny_bind (h1 s ad _ _ S fun v g1 t1 a1 k1 r1=>wpAny_bind (wpAny_pure (wpAny_bind (wpAny_holding (h2 _ a1 _ _ (S.after k1) fun vs g2 t2 a2 k2 r2=>wpAny_pure (F _ g2 t2 a2 (k1.trans k2) (.cons (r1.mono k2.view) r2)))))))
theorem aO.EO {U:AS} {p:Pt} (O:aO W U p) (low:∀ u,U u→∃ o,p.h.get? u = some o) {o:Obj} (f:o.isFreed = false) (s:soft o = false):(vw U ⟨p.own,p.ad,p.h.push o⟩).g p.h.objs.size o:=
 gW (U:=fun u=>U u∨ao p.own p.ad u) (h:=p.h) o f s fun u z=>z.elim (low u) fun z=>let ⟨o,e,_⟩:=O.low z; ⟨o,e⟩
theorem ak.tuple {es:List Expr} {k:Nat} {as:List AV} (hl:bU c σ own (spliced (backTo pos (starEach es c.env))) as own1) (hz:as.length≤sizeLine):ak c σ own (eval (.Tuple es k pos) c.env) (.tup as) own1:=fun s ad Q E S F=>
 wpAny_Tuple (hl s ad _ _ S fun vs h1 t1 a1 k1 r1=>⟨r1.length▸hz,have g:=k1.owns.grow (ag.push h1 (jU vs 0)); F _ _ t1 a1 (k1.trans g) (.mk (k1.owns.EO (fun _=>(S.after k1).gk) rfl rfl) (r1.mono g.view))⟩)
theorem aO.qB {U:AS} {p:Pt} (O:aO W U p) {pv:PV} {h':Heap} {x:Addr}:Rel W (vw U ⟨p.own ++ [pv],p.ad ++ [x],h'⟩) (.ref x) (.loc p.own.length):=.mk (by rw [← O.len]; exact iS)
theorem ak.list {es:List Expr} {as:List AV} (hl:bU c σ own (spliced (backTo pos (starEach es c.env))) as own1) (hz:as.length≤sizeLine):ak c σ own (eval (.List es pos) c.env) (.loc own1.length) (own1 ++ [.lst as]):=fun s ad Q E S F=>
 wpAny_List (hl s ad _ _ S fun vs h1 t1 a1 k1 r1=>⟨r1.length▸hz,F _ _ t1 _ (k1.trans (k1.owns.alloc (ob:=bo vs 0) (pv:=.lst as) (S.after k1).Gp (fun _=>(S.after k1).gk) (.push _ _) (da _) (Heap.get?_push_size _ rfl) rfl fun V l _=>.mk (r1.mono l))) k1.owns.qB⟩)
theorem ak.attr {v:Expr} {x:Str} {a q:AV} (hb:mO v) (hl:ak c σ own (eval v c.env) a own1) (e:qx W own1 a x q):ak c σ own (eval (.Attribute v x pos) c.env) q own1:=fun s ad Q E S F=>by
 rw [arm_eval_Attribute,hb]
 exact wpAny_bind (hl s ad _ _ S fun o h1 t1 a1 k1 r1=>wpAny_bind (wpAny_standAt (wpAny_bind (wpAny_holding (e _ _ a1 _ o _ _ (S.after k1).BU k1.owns r1 fun v3 h3 t3 a3 k3 r3=>wpAny_bind (wpAny_letTemporaryGo (wpAny_pure (F v3 h3 t3 a3 (k1.trans k3) r3))))))))
theorem ak.sub {e k:Expr} {a b q:AV} (hk:∀ o i,subscripted k false o i = operate [o,i] (getItem o i)) (hl:ak c σ own (eval e c.env) a own1) (hr:ak c σ own1 (eval k c.env) b own2) (h:j5 W own2 a b q):ak c σ own (eval (.Subscript e k pos) c.env) q own2:=fun s ad Q E S F=>
 Subscript_ (hl s ad _ _ S fun v h1 t1 a1 k1 r1=>hr _ a1 _ _ (S.after k1) fun v2 h2 t2 a2 k2 r2=>h _ _ a2 (mv s h2 t2) v v2 k e _ _ c.u hk (S.after (k1.trans k2)).BU k2.owns (r1.mono k2.view) r2 (F.then (k1.trans k2)))
noncomputable abbrev g6 (c:aj W d sc) (σ:aq) (own:Own) (e:Option Expr) (i:Option Int) (own':Own):Prop:=iT c σ own (PySem.evalPart e c.env) (fun _ v=>IsPart v i) own'
theorem g6.none:g6 c σ own none none own:=fun s ad Q E S F=>evalPart_none_step (F.here S.owns (tk:=s.toks) .none)
theorem g6.some {e:Expr} {a:AV} {i:Int} (ha:∀ V v,Rel W V v a→bL i v) (h:ak c σ own (eval e c.env) a own1):g6 c σ own (some e) (some i) own1:=fun s ad Q E S F=>evalPart_some_step (h s ad _ _ S fun v h1 t1 a1 k1 r1=>F v h1 t1 a1 k1 (by obtain ⟨t⟩:=ha _ _ r1; exact .int _ _))
theorem ak.slice {e:Expr} {lo hi:Option Expr} {p':Pos} {a q:AV} {l u:Option Int} (he:ak c σ own (eval e c.env) a own1) (hl:g6 c σ own1 lo l own2) (hu:g6 c σ own2 hi u own3) (h:wZ W a l u q):ak c σ own (eval (.Subscript e (.Slice lo hi none p') pos) c.env) q own3:=fun s ad Q E S F=>by
 rw [eval_Subscript]
 refine wpAny_bind (he s ad _ _ S fun v1 g1 t1 a1 k1 r1=>wpAny_bind (wpAny_holding (wpAny_Slice (hl _ a1 _ _ (S.after k1) fun v2 g2 t2 a2 k2 i2=>hu _ a2 _ _ (S.after (k1.trans k2)) fun v3 g3 t3 a3 k3 i3=>evalPart_none_step ?_))))
 refine af fun nG=>?_
 have k4:=k3.owns.grow (ag.push g3 { cls:=.type "slice",data:=.fields #[v2,v3,.none] })
 have k:=((k1.trans k2).trans k3).trans k4
 obtain ⟨T,id,hl,hT,hg⟩:=h _ _ a3 (mv s (g3.push { cls:=.type "slice",data:=.fields #[v2,v3,.none] }) t3) v1 _ v2 v3 _ E (S.after k).B (r1.mono ((k2.trans k3).trans k4).view) i2 i3 (Heap.IsSliceOf.new ..) ((F.then k).got k4.owns rfl)
 refine nG ?_
 refine wpAny_bind (wpAny_standAt ?_)
 first
  | (refine wpAny_bind ?_; rw [getitemInPython_of_ne hT.not_modules]; refine wpAny_bind (wpAny_specialOf hT hl ?_))
  | refine wpAny_bind (wpAny_specialOf hT hl ?_)
 have fin:ay W c.A (operate [.ref g3.objs.size,v1] (getItem v1 (.ref g3.objs.size))) (fun r s₃=>ay W c.A (letTemporaryGo e v1 r >>= fun _=>pure r) Q E s₃) E _:=
  wpAny_operating (wpAny_mono hg (fun r s₃ h₃=>wpAny_bind (wpAny_letTemporaryGo (wpAny_pure h₃))) fun _ _ x=>x)
 first
  | exact wpAny_pure (wpAny_bind fin)
  | exact wpAny_bind (wpAny_pure (wpAny_bind fin))
  | exact wpAny_bind fin
theorem qC {as:List Expr} (h:∀ x∈as,dj x) (env:Env):(starEach as env).any (·.1) = false∧∀ pos,(backTo pos (starEach as env)).all (!·.1) = true:=by
 induction as with
 | nil=>exact ⟨rfl,fun _=>rfl⟩
 | cons x r ih=>
  obtain ⟨i1,i2⟩:=ih fun y m=>h y (.tail _ m)
  rw [h x (.head _)]
  refine ⟨i1,fun pos=>?_⟩
  have:=i2 pos
  unfold backTo at this ⊢
  rw [List.all_map] at this ⊢
  rw [List.all_cons,this]; rfl
theorem g7 {f:Value} {first:List Value} {as:List Expr} {env:Env} {A:Around} {s:Shared} {Q:Value→Shared→Prop} {E:Value→Shared→Prop} (ha:∀ x∈as,dj x) (hk:ee W f)
  (h:ay W A (spliced (backTo pos (starEach as env))) (fun vs s₁=>GG W s₁.heap∧ay W A (call f (first ++ vs)) Q E s₁) E s):ay W A (callWith pos f first (backTo pos (starEach as env)) []) Q E s:=by
 have hb:(backTo pos (starEach as env)).any (·.1) = false:=by
  unfold backTo; rw [List.any_map]; exact (qC ha env).1
 refine callWith_of (P:=GG W) (by rw [hb]; rfl) hk ?_
 cases as with
 | nil=>
  unfold evalArgs
  show wpAny _ A (spliced [] >>= _) _ E s
  refine wpAny_bind (wpAny_mono h (fun vs s₁ q=>wpAny_bind (wpAny_pure (wpAny_holding ?_))) fun _ _ z=>z)
  exact wpAny_bind (wpAny_pure (wpAny_bind (wpAny_pure (wpAny_pure q))))
 | cons x r=>
  rw [ha x (.head _)] at h ⊢
  exact evalArgs_plain (wpAny_mono h (fun _ _ q=>q) fun _ _ z=>z)
theorem ak.call {x:Str} {p:Pos} {as:List Expr} {f r:AV} {vs:List AV} (ha:∀ x∈as,dj x) (hf:ak c σ own (eval (.Name x p) c.env) f own) (hl:bU c σ own (spliced (backTo pos (starEach as c.env))) vs own1) (e:gZ W d own1 f vs r own2):ak c σ own (eval (.Call (.Name x p) as [] pos) c.env) r own2:=fun s ad Q E S F=>by
 show wpAny _ _ ((eval (.Name x p) c.env) >>= fun fv=>callWith pos fv [] (backTo pos (starEach as c.env)) []) _ _ _
 exact wpAny_bind (hf s ad _ _ S fun fv h1 t1 a1 k1 r1=>g7 (first:=[]) ha (e _ _ r1).keep (hl _ a1 _ _ (S.after k1) fun ws h2 t2 a2 k2 r2=>have S2:=S.after (k1.trans k2); ⟨S2.Gp,(e _ _ r1).run _ c.a _ a2 _ ws Q E S2.BU k2.owns r2 (F.then (k1.trans k2))⟩))
theorem ak.ER {v:Expr} {x:Str} {ap:Pos} {as:List Expr} {a r:AV} {vs:List AV} (hb:mO v) (hpos:(ap.endLine == pos.line) = true) (hn:Nat.blt as.length 30 = true) (ha:∀ x∈as,dj x) (hf:ak c σ own (eval v c.env) a own1) (hl:bU c σ own1 (spliced (backTo pos (starEach as c.env))) vs own2) (e:cz W d own1 a x own2 vs r own3):
  ak c σ own (eval (.Call (.Attribute v x ap) as [] pos) c.env) r own3:=fun s ad Q E S F=>by
 rw [arm_eval_Call,hb]
 have hform:methodCallForm (as.length + 0) (backTo pos (starEach as c.env)) [] = true:=by
  unfold methodCallForm
  rw [(qC ha c.env).2 pos]
  have:=Nat.blt_eq.mp hn
  simp; omega
 refine wpAny_bind (hf s ad _ _ S fun ov h1 t1 a1 k1 r1=>wpAny_bind (wpAny_standAt ?_))
 show wpAny _ _ (methodCall v x ap pos c.env ov (as.length + 0) (backTo pos (starEach as c.env)) []) _ _ _
 unfold methodCall
 rw [hform]
 refine wpAny_bind (wpAny_holding ?_)
 show wpAny _ _ (getMethod ov x _) _ _ _
 have S1:=S.after k1
 refine e _ c.a c.U a1 _ ov _ _ _ S1.BU k1.owns r1 fun f first tk hk hc=>?_
 have hp:methodCallPos true v c.env ap pos = pure pos:=by unfold methodCallPos; rw [hpos]; rfl
 show wpAny _ _ (methodCallPos true v c.env ap pos >>= _) _ _ _
 rw [hp]
 exact wpAny_bind (wpAny_pure (g7 ha hk (hl _ a1 _ _ S1 fun ws h2 t2 a2 k2 r2=>have S2:=S1.after k2; ⟨S2.Gp,hc _ a2 ws Q E k2 S2.BU r2 (F.then (k1.trans k2))⟩)))
theorem fG (f:String):ee W (.builtin f):=fun _ _=>⟨.machine,.inr (.inl rfl),Looks.of_pure rfl⟩
set_option tactic.hygienic true in
theorem ES {n:Nat} {l l':List AV} {a:AV} (h:own[n]? = some (.lst l)) (h1:own1[n]? = some (.lst l')) (hz:Nat.ble l'.length 1000 = true):cz W d own (.loc n) ⟨#[97,112,112,101,110,100]⟩ own1 [a] .none (own1.set n (.lst (l' ++ [a]))):=fun A aA U ad s v pl Q E B O rv k=>by
 refine af fun nG=>?_
 obtain ⟨e⟩:=rv
 obtain ⟨_,o,ho,pr⟩:=O.obj n _ _ ⟨h,rfl,e⟩
 obtain ⟨-⟩:=pr
 refine nG ?_
 rw [show (⟨#[97,112,112,101,110,100]⟩:Str) = ("append":Str) by decide +kernel]
 refine getMethod_list_append ho rfl rfl (k _ _ s.toks (fG _) fun s' ad' vs Q' E' kk B' rl F=>?_)
 refine af fun nG=>?_
 obtain ⟨rv,rl⟩:=rl
 obtain rfl:=rl
 have at1:At own1 ad' n (.lst l') _:=⟨h1,rfl,kk.ad _ _ e⟩
 obtain ⟨_,o',ho',pr'⟩:=kk.owns.obj _ _ _ at1
 obtain ⟨rl⟩:=pr'
 refine nG ?_
 rename_i vs n'
 exact append_at (its:=vs.toArray) (n:=n') ho' (fun h2 s2 o2=>F .none h2 _ ad' (kk.owns.put at1 s2 (fun e=>by cases e) fun V le _ _=>⟨fun _=>⟨_,by rw [o2]; exact congrArg some (by simp [bo]),.mk (n:=n' + 1) ((rl.append (.cons rv (show ai W _ [] [] from rfl))).mono le)⟩,(fun _ e=>by cases e)⟩) rfl) (by rw [List.size_toArray,rl.length]; exact le_size hz)
theorem ET (x:List UInt8):bO (x.map fun b=>(b.toNat:Int)) = x.toArray:=by
 unfold bO; rw [List.map_map]; congr 1
 conv=>rhs; rw [← List.map_id x]
 exact List.map_congr_left fun b _=>by simp
noncomputable def qD:List UInt8→List SE
 | []=>[]
 | b::l=>.lit b.toNat::qD l
theorem w4 (ρ:Nat→Int):∀ l:List UInt8,vals ρ (qD l) = l.map fun b=>(b.toNat:Int)
 | []=>rfl
 | b::l=>congrArg _ (w4 ρ l)
noncomputable def w5 (k:Const):Option { a:AV //∀ (W:ab) {d sc} (c:aj W d sc) σ own u pos,ak c σ own (eval (.Constant k u pos) c.env) a own }:=match k with
 | .none=>some ⟨.none,fun W d sc c σ own u pos s ad Q E S F=>Constant_none (F.here S.owns (tk:=s.toks) rfl)⟩
 | .bool b=>some ⟨.bool b,fun W d sc c σ own u pos s ad Q E S F=>Constant_bool (F.here S.owns (tk:=s.toks) rfl)⟩
 | .int i=>some ⟨.int (.lit i),fun W d sc c σ own u pos s ad Q E S F=>wpAny_Constant_int (F.here S.owns (tk:=s.toks + 1) (.mk _))⟩
 | .str x=>some ⟨.str x,fun W d sc c σ own u pos s ad Q E S F=>wpAny_Constant_str (F.here S.owns (tk:=s.toks + 1) (.mk _))⟩
 | .bytes x=>some ⟨.bytes (qD x),fun W d sc c σ own u pos s ad Q E S F=>Constant_bytes (F.here S.owns (tk:=s.toks + 1) (by
   show jW _ _
   rw [w4,← ET]
   refine .mk _ fun y hy=>?_
   obtain ⟨b,_,rfl⟩:=List.mem_map.mp hy
   have:=b.toNat_lt
   exact ⟨by omega,by omega⟩))⟩
 | _=>none
end
section
noncomputable def ba:SE→SE→SE
 | .lit i,.lit j=>.lit (i + j)
 | a,b=>.add a b
noncomputable def smul (k:Int):SE→SE
 | .lit i=>.lit (k * i)
 | a=>.mul k a
noncomputable def sdiv (k:Nat):SE→SE
 | .lit i=>.lit (i / k)
 | a=>.div a k
noncomputable def smod (k:Nat):SE→SE
 | .lit i=>.lit (i % k)
 | a=>.mod a k
section
variable (ρ:Nat→Int)
theorem cX (a b:SE):(ba a b).val ρ = a.val ρ + b.val ρ:=by cases a<;>first | rfl | (cases b<;>rfl)
theorem cI (k:Int) (a:SE):(smul k a).val ρ = k * a.val ρ:=by cases a<;>rfl
theorem w6 (k:Nat) (a:SE):(sdiv k a).val ρ = a.val ρ / k:=by cases a<;>rfl
theorem w7 (k:Nat) (a:SE):(smod k a).val ρ = a.val ρ % k:=by cases a<;>rfl
theorem ag.le {h h':Heap} {U:AS} {ad:List Addr} (k:ag h h'):(⟨Mine.aF U h,ad⟩:Vw).Le ⟨Mine.aF U h',ad⟩:=⟨aw.aF k U,fun _ _ e=>e⟩
theorem qE:∀ l m:List SE,vals ρ (l ++ m) = vals ρ l ++ vals ρ m
 | [],_=>rfl
 | _::l,m=>congrArg _ (qE l m)
theorem gm:∀ l:List SE,(vals ρ l).length = l.length
 | []=>rfl
 | _::l=>congrArg (· + 1) (gm l)
end
noncomputable def p2 (n:Int):Int:=Int.ofNat (2 ^ n.toNat)
noncomputable def qF (b:Int):Bool:=bg (p2 (Int.ofNat (Nat.log2 b.toNat))) b
theorem qG (n:Int):p2 n = 2 ^ n.toNat:=show ((2 ^ n.toNat:Nat):Int) = _ by push_cast; rfl
theorem EU {b:Int} (h:qF b = true):b = 2 ^ (Int.ofNat b.toNat.log2).toNat:=by unfold qF at h; rw [gR,beq_iff_eq,qG] at h; exact h.symm
theorem w8 {i:Int} (h:i.natAbs < 2 ^ 62):Builtin.Int.intBits i≤64:=by
 unfold Builtin.Int.intBits
 split
 ·lia
 ·have:i.natAbs.log2 < 62:=by
   by_cases z:i.natAbs = 0
   ·rw [z]; decide
   ·exact (Nat.log2_lt z).mpr h
  lia
theorem EW (x:Int) (k:Nat):Builtin.bitAnd x (((2 ^ k:Nat):Int) - 1) = x % ((2 ^ k:Nat):Int):=by
 have h0:(1:Nat)≤2 ^ k:=Nat.one_le_two_pow
 have hn:(((2 ^ k:Nat):Int) - 1).toNat = 2 ^ k - 1:=by lia
 have hp:(0:Int)≤((2 ^ k:Nat):Int) - 1:=by lia
 by_cases hx:0≤x
 ·rw [bitAnd_pp hx hp,hn,Nat.and_two_pow_sub_one_eq_mod]
  obtain ⟨n,rfl⟩:=Int.eq_ofNat_of_zero_le hx
  simp
 ·rw [bitAnd_np hx hp,hn,Nat.and_comm,Nat.and_two_pow_sub_one_eq_mod]
  unfold Builtin.bitNot
  generalize 2 ^ k = K at *
  obtain ⟨n,rfl⟩:∃ n:Nat,x = -((n:Int) + 1):=⟨(-x - 1).toNat,by lia⟩
  have e:(-(-((n:Int) + 1)) - 1).toNat = n:=by lia
  rw [e]
  have hm:n % K < K:=Nat.mod_lt _ (by lia)
  have hd:(n:Int) = (K:Int) * ((n / K:Nat):Int) + ((n % K:Nat):Int):=by exact_mod_cast (Nat.div_add_mod n K).symm
  symm
  have:-((n:Int) + 1) = ((K:Int) - 1 - ((n % K:Nat):Int)) + (K:Int) * (-((n / K:Nat):Int) - 1):=by rw [Int.mul_sub,Int.mul_neg,Int.mul_one]; lia
  rw [this,Int.add_mul_emod_self_left,Int.emod_eq_of_lt (by lia) (by lia)]
  try lia
noncomputable def w9 (x y:Str):Str:=match x,y with
 | ⟨⟨a⟩⟩,⟨⟨b⟩⟩=>⟨⟨a ++ b⟩⟩
theorem EX (x y:Str):w9 x y = x ++ y:=by
 obtain ⟨⟨a⟩⟩:=x; obtain ⟨⟨b⟩⟩:=y
 show (⟨⟨a ++ b⟩⟩:Str) = ⟨(⟨a⟩:Array Nat) ++ ⟨b⟩⟩
 simp
noncomputable def mP (x:Str):Nat:=match x with
 | ⟨⟨a⟩⟩=>a.length
theorem xa (x:Str):mP x = x.length:=rfl
theorem EY (l m:List Int):bO l ++ bO m = bO (l ++ m):=by unfold bO; simp
theorem gn (l:List Int):(bO l).size = l.length:=by unfold bO; simp
theorem bT.length:∀ {l:List Int} {vs:List Value},bT l vs→vs.length = l.length
 | [],_,r=>r▸rfl
 | _::_,_,r=>by obtain ⟨_,r⟩:=r; exact congrArg (· + 1) (bT.length r)
variable {W:ab}
theorem EZ {l b:Addr} {vs ws:List Value} {n n2:Nat} {A:Around} {s:Shared} {Q:Value→Shared→Prop} {E:Value→Shared→Prop} (ho:s.heap.get? l = some (bo vs n)) (ho2:s.heap.get? b = some (bo ws n2)) (hsz:vs.length + ws.length≤sizeLine)
  (h:Q (.ref s.heap.objs.size) { s with heap:=s.heap.push (bo (vs ++ ws) 0) }):ay W A (binaryOp .Add (.ref l) (.ref b)) Q E s:=by
 refine concat_meets ⟨_,ho,rfl⟩ ⟨_,ho2,rfl⟩ noFill_list_add seq_list_add PySem.F.slot_list_add PySem.F.entry_list_add (PySem.F.args_list_add_2 _ _) (list_addW l b vs.toArray ws.toArray n n2 none none #[] #[] (by simpa using hsz)) ⟨ho,ho2,?_⟩
 rw [show vs.toArray ++ ws.toArray = (vs ++ ws).toArray by simp]
 exact h
variable {G:Facts} (hG:Sat W.ρ G)
noncomputable def j7 (W:ab) (op:Operator) (i j r:Int):Prop:=∀ A (x:Shared) tu tv (Q:Value→Shared→Prop) E,(∀ tok tk,Q (.int r tok) { x with toks:=tk })→ay W A (binaryOp op (.int i tu) (.int j tv)) Q E x
theorem j7.ok {op:Operator} {x y r:SE} (h:j7 W op (x.val W.ρ) (y.val W.ρ) (r.val W.ρ)):qt W op (.int x) (.int y) (.int r):=fun A U ad s v u Q E _ rv ru G=>by
 obtain ⟨_⟩:=rv
 obtain ⟨_⟩:=ru
 exact h _ _ _ _ _ _ fun tok tk=>G.here tk (.mk _)
noncomputable def qH {P:SE→Prop} (x r:SE) (k:(x.val W.ρ).natAbs < 2 ^ 62→P r):Out P:=au (aH (bK (-4611686018427387903) (bu G x true)) (bK (-4611686018427387903) (bu G x false))) 10 fun h=>.ok r (k (by
 obtain ⟨h1,h2⟩:=aC h
 have:=cF (fun _=>gg hG) h1
 have:=cF (fun _=>gh hG) h2
 lia))
noncomputable def xb (k:Int):Out fun n:Nat=>k = n∧1≤n:=match k with
 | .ofNat n=>au (Nat.ble 1 n) 11 fun h=>.ok n ⟨rfl,Nat.le_of_ble_eq_true h⟩
 | .negSucc _=>.no 12
theorem E0 {x:SE} {n:Nat} (h:1≤n) (hn:n.log2 < 600):j7 W .FloorDiv (x.val W.ρ) (n:Int) ((sdiv n x).val W.ρ):=fun _ _ _ _ _ _ hQ=>floordiv_int (by lia) (by rw [Int.fdiv_eq_ediv_of_nonneg _ (by lia),← w6]; exact hQ _ _) (.inl (PyProof.noPylong_of_log2 (by simpa using (by lia:n.log2 < 9000))))
noncomputable def E1 (op:Operator) (x:SE) (y:SE):Out fun r:SE=>j7 W op (x.val W.ρ) (y.val W.ρ) (r.val W.ρ):=match op with
 | .Add=>.ok (ba x y) fun _ _ _ _ _ _ hQ=>add_int (by rw [← cX]; exact hQ _ _)
 | .Sub=>.ok (ba x (smul (-1) y)) fun _ _ _ _ _ _ hQ=>sub_int (by rw [show x.val W.ρ - y.val W.ρ = (ba x (smul (-1) y)).val W.ρ by rw [cX,cI]; lia]; exact hQ _ _)
 | .Mult=>(match x,y with
  | .lit k,y=>qH hG (.lit k) (smul k y) fun h _ _ _ _ _ _ hQ=>mul_int (by rw [show (SE.lit k).val W.ρ * y.val W.ρ = (smul k y).val W.ρ by rw [cI]; rfl]; exact hQ _ _) (IntMulOk.of_left (w8 h))
  | x,.lit k=>qH hG (.lit k) (smul k x) fun h _ _ _ _ _ _ hQ=>mul_int (by rw [show x.val W.ρ * (SE.lit k).val W.ρ = (smul k x).val W.ρ by rw [cI,Int.mul_comm]; rfl]; exact hQ _ _) (IntMulOk.of_right (w8 h))
  | _,_=>.no 13)
 | .FloorDiv=>(match y with
  | .lit k=>bd (xb k) fun n h=>au (Nat.blt n.log2 600) 14 fun hn=>.ok (sdiv n x) (h.1▸E0 h.2 (Nat.blt_eq.mp hn))
  | _=>.no 15)
 | .Mod=>(match y with
  | .lit k=>bd (xb k) fun n h=>.ok (smod n x) fun _ _ _ _ _ _ hQ=>by
    rw [show (SE.lit k).val W.ρ = (n:Int) from h.1]
    exact mod_int' (by lia) (by rw [Int.fmod_eq_emod_of_nonneg _ (by lia),← w7]; exact hQ _ _)
  | _=>.no 16)
 | .LShift=>(match y with
  | .lit b=>au (aH (bt 0 b) (bt b 1000000)) 17 fun h=>qH hG x (smul (p2 b) x) fun hs _ _ _ _ _ _ hQ=>by
    obtain ⟨h1,h2⟩:=aC h
    exact lshift_int_small (dA h1) (dA h2) (by lia) (by rw [show x.val W.ρ * 2 ^ ((SE.lit b).val W.ρ).toNat = (smul (p2 b) x).val W.ρ by rw [cI,qG,Int.mul_comm]; rfl]; exact hQ _ _)
  | _=>.no 18)
 | .RShift=>(match y with
  | .lit b=>au (aH (bt 0 b) (bt b 1000000)) 19 fun h=>.ok (sdiv (2 ^ b.toNat) x) fun _ _ _ _ _ _ hQ=>by
    obtain ⟨h1,h2⟩:=aC h
    exact rshift_int (dA h1) (by rw [show (x.val W.ρ).fdiv (2 ^ ((SE.lit b).val W.ρ).toNat) = (sdiv (2 ^ b.toNat) x).val W.ρ by rw [w6,show ((SE.lit b).val W.ρ) = b from rfl,← qG,Int.fdiv_eq_ediv_of_nonneg _ (by unfold p2; exact Int.natCast_nonneg _)]; rfl]; exact hQ _ _)
  | _=>.no 20)
 | .BitAnd=>(match y with
  | .lit b=>au (aH (bt 0 b) (qF (b + 1))) 21 fun h=>.ok (smod (b + 1).toNat x) fun _ _ _ _ _ _ hQ=>by
    obtain ⟨h1,h2⟩:=aC h
    have h1:=dA h1
    have e:=EU h2
    refine and_int ?_
    have e3:Builtin.bitAnd (x.val W.ρ) ((SE.lit b).val W.ρ) = (smod (b + 1).toNat x).val W.ρ:=by
     have:=EW (x.val W.ρ) (Int.ofNat (b + 1).toNat.log2).toNat
     rw [w7,show (((b + 1).toNat:Nat):Int) = b + 1 by lia]
     rwa [show ((2 ^ (Int.ofNat (b + 1).toNat.log2).toNat:Nat):Int) = b + 1 by push_cast; exact e.symm,Int.add_sub_cancel] at this
    rw [e3]; exact hQ _ _
  | _=>.no 22)
 | _=>.no 23
noncomputable def E2 (r:SE):{ s:SE // s.val W.ρ = r.val W.ρ }:=match r with
 | .mod a k=>aG (Nat.ble 1 k) (fun h=>⟨jN G k a,(lR hG (Nat.le_of_ble_eq_true h) a).1⟩) fun _=>⟨.mod a k,rfl⟩
 | .div a k=>aG (Nat.ble 1 k) (fun h=>⟨jO G k a,(lR hG (Nat.le_of_ble_eq_true h) a).2⟩) fun _=>⟨.div a k,rfl⟩
 | r=>⟨toS (bh r 1 (0,[])).1 (bh r 1 (0,[])).2,by
   have:=ft (ρ:=W.ρ) r 1 (0,[])
   rw [eP,this]
   show 0 + 0 + 1 * _ = _
   lia⟩
set_option tactic.hygienic true in
noncomputable def E3 (op:Operator) (a b:AV):Out (qt W op a b):=match a,b with
 | .int x,.int y=>bd (E1 hG op x y) fun r h=>(match E2 hG r with
  | ⟨s,e⟩=>.ok (.int s) (j7.ok (e▸h)))
 | .str x,.str y=>(match op with
  | .Add=>au (Nat.ble (mP x + mP y) 10000) 24 fun h=>.ok (.str (w9 x y)) fun A U ad s v u Q E _ rv ru G=>by
   have h:=Nat.le_of_ble_eq_true h
   rw [xa,xa] at h
   obtain ⟨_⟩:=rv
   obtain ⟨_⟩:=ru
   exact add_str (fun t' tk=>G.here tk (by rw [← EX]; exact .mk _)) (by rw [sizeLine_eq]; lia)
  | _=>.no 25)
 | .lst x,.lst y=>(match op with
  | .Add=>au (Nat.ble (x.length + y.length) 10000) 26 fun h=>.ok (.lst (x ++ y)) fun A U ad s v u Q E B rv ru G=>by
   obtain ⟨o1,l1⟩:=rv
   obtain ⟨o2,l2⟩:=ru
   rename_i x1 vs n x2 ws m
   have h:=Nat.le_of_ble_eq_true h
   have k:=ag.push s.heap (bo (vs ++ ws) 0)
   exact EZ o1.1 o2.1 (by rw [l1.length,l2.length,sizeLine_eq]; lia) (G _ _ _ k (.mk (gW _ rfl rfl B.low) ((l1.append l2).mono (ag.le k))))
  | _=>.no 27)
 | .bytes x,.bytes y=>(match op with
  | .Add=>au (Nat.ble (x.length + y.length) 10000) 28 fun h=>.ok (.bytes (x ++ y)) fun A U ad s v u Q E _ rv ru G=>by
   have h:=Nat.le_of_ble_eq_true h
   obtain ⟨_,hx⟩:=rv
   obtain ⟨_,hy⟩:=ru
   refine KBy.add_bytes (by rw [gn,gn,gm,gm]; lia) fun t' k=>G.here k ?_
   rw [EY,← qE]
   exact .mk _ fun z hz=>(List.mem_append.mp (qE W.ρ x y▸hz)).elim (hx z) (hy z)
  | _=>.no 29)
 | _,_=>.no 30
noncomputable def E4 (op:UnaryOp) (a:AV):Out (wY W op a):=match op,a with
 | .USub,.int e=>.ok (.int (smul (-1) e)) fun A U ad s v Q E rv G=>by obtain ⟨_⟩:=rv; exact neg_int (by rw [show -(e.val W.ρ) = (smul (-1) e).val W.ρ by rw [cI]; lia]; exact G.here _ (.mk _))
 | .Not,.bool b=>.ok (.bool (!b)) fun A U ad s v Q E rv G=>by obtain rfl:=rv; exact wpAny_bind (wpAny_truthy_bool (wpAny_pure (G.here s.toks rfl)))
 | .Not,.sb B=>.ok (.sb ⟨B.k,B.e,!B.p⟩) fun A U ad s v Q E rv G=>by
   obtain rfl:=rv
   refine wpAny_bind (wpAny_truthy_bool (wpAny_pure (G.here s.toks ?_)))
   obtain ⟨k,e,p⟩:=B
   show Value.bool _ = Value.bool _
   cases p
   ·exact congrArg _ (Bool.not_not _)
   ·rfl
 | _,_=>.no 31
noncomputable def tr (a:AV):Out (g0 W a):=match a with
 | .bool b=>.ok b fun A V v s Q E r h=>by obtain rfl:=r; exact wpAny_truthy_bool h
 | .sb B=>bd (truth hG B) fun t e=>.ok t fun A V v s Q E r h=>by obtain rfl:=r; exact wpAny_truthy_bool (e▸h)
 | .int i=>bd (truth hG ⟨false,i,false⟩) fun t e=>.ok t fun A V v s Q E r h=>by
   obtain ⟨_⟩:=r
   refine truthy_int ?_
   rwa [show (i.val W.ρ != 0) = t from e]
 | .none=>.ok false fun A V v s Q E r h=>by obtain rfl:=r; exact truthy_none h
 | _=>.no 32
end
mutual
noncomputable def g8:AV→Bool
 | .none | .bool _ | .sb _ | .int _ | .str _=>true
 | .tup l | .lst l=>j8 l
 | _=>false
noncomputable def j8:List AV→Bool
 | []=>true
 | a::l=>aH (g8 a) (j8 l)
end
mutual
noncomputable def dat (ρ:Nat→Int):AV→PyData
 | .bool b=>.bool b
 | .sb B=>.bool (B.val ρ)
 | .int e=>.int (e.val ρ)
 | .str x=>.str x
 | .tup l=>.tuple (dG ρ l)
 | .lst l=>.list (dG ρ l)
 | _=>.none
noncomputable def dG (ρ:Nat→Int):List AV→List PyData
 | []=>[]
 | a::l=>dat ρ a::dG ρ l
end
section
variable {W:ab} {V:Vw} {hp:Heap} (s:∀ a o,V.g a o→hp.get? a = some o)
include s
mutual
theorem reads:∀ (a:AV),g8 a = true→∀ v:Value,Rel W V v a→∃ as,Reads hp v (dat W.ρ a) as
 | .none=>fun _ _ r=>r▸⟨_,.none⟩
 | .bool _ | .sb _=>fun _ _ r=>r▸⟨_,.bool _⟩
 | .int _=>fun _ _ r=>by obtain ⟨_⟩:=r; exact ⟨_,.int _ _⟩
 | .str _=>fun _ _ r=>by obtain ⟨_⟩:=r; exact ⟨_,.str _ _⟩
 | .tup l=>fun d _ r=>by obtain ⟨h,r⟩:=r; obtain ⟨_,x⟩:=qI l d _ r; exact ⟨_,.tuple (s _ _ h) rfl rfl (by simpa using x)⟩
 | .lst l=>fun d _ r=>by obtain ⟨h,r⟩:=r; obtain ⟨_,x⟩:=qI l d _ r; exact ⟨_,.list (s _ _ h) rfl rfl (by simpa using x)⟩
 | .bytes _ | .inst _ _ | .dicI _ | .dicS _ | .rng _ _ | .con _ | .blt _ | .any | .anyS | .loc _ | .hole _=>(fun e=>by exact aS e)
theorem qI:∀ (l:List AV),j8 l = true→∀ vs:List Value,ai W V vs l→∃ as,ReadsAll hp vs (dG W.ρ l) as
 | []=>fun _ _ r=>r▸⟨_,.nil⟩
 | a::l=>fun d _ r=>by
  refine af fun nG=>?_
  obtain ⟨h,r⟩:=r
  obtain ⟨d1,d2⟩:=aC d
  obtain ⟨_,x⟩:=reads a d1 _ h
  obtain ⟨_,y⟩:=qI l d2 _ r
  refine nG ?_
  exact ⟨_,.cons x y⟩
end
end
noncomputable def xc (x:Str):Bool:=match x with
 | ⟨⟨a⟩⟩=>a.all fun c=>Nat.blt c 55296
theorem E5 {x:Str} (h:xc x = true):PyData.strOk x = true:=by
 obtain ⟨⟨a⟩⟩:=x
 have h:a.all (fun c=>Nat.blt c 55296) = true:=h
 unfold PyData.strOk
 rw [List.all_eq_true] at h
 simp only [List.all_toArray,Array.all_eq_true] at *
 rw [List.all_eq_true]
 exact fun x hx=>decide_eq_true (by have:=Nat.blt_eq.mp (h x hx); lia)
mutual
noncomputable def mQ:PyData→Bool
 | .str x=>xc x
 | .list xs | .tuple xs=>mS xs
 | .dict _=>false
 | _=>true
noncomputable def mS:List PyData→Bool
 | []=>true
 | x::xs=>(match mQ x with
  | true=>mS xs
  | false=>false)
end
mutual
theorem xd:∀ {d:PyData},mQ d = true→d.canLay0 = true
 | .none,_ | .bool _,_ | .int _,_=>rfl
 | .str x,h=>E5 h
 | .list xs,h | .tuple xs,h=>xe (xs:=xs) h
 | .dict _,h=>(by exact aS h)
theorem xe:∀ {xs:List PyData},mS xs = true→PyData.canLayAll0 xs = true
 | [],_=>rfl
 | x::xs,h=>by
  unfold mS at h
  cases q:mQ x with
  | true=>
   rw [q] at h
   show (PyData.canLay0 x && PyData.canLayAll0 xs) = true
   rw [xd q,xe h]; rfl
  | false=>rw [q] at h; exact aS h
end
noncomputable def g9 (d:PyData):Bool:=mQ d && Nat.ble d.depth 64
theorem iU {d:PyData} (h:g9 d = true):SeqAt.shaped d = true:=by
 obtain ⟨h1,h2⟩:=Bool.and_eq_true_iff.mp h
 unfold SeqAt.shaped
 rw [xd h1]
 exact decide_eq_true (Nat.le_of_ble_eq_true h2)
noncomputable def E6:Bool→CmpOp
 | false=>.Eq
 | true=>.NotEq
noncomputable def mT:Bool→CmpOp
 | false=>.In
 | true=>.NotIn
theorem j9 {W:ab} {U:AS} {h:Heap} {ad:List Addr} {a:AV} {v:Value}:g8 a = true→Rel W ⟨aF U h,ad⟩ v a→∃ as,Reads h v (dat W.ρ a) as:=fun d r=>reads (V:=⟨aF U h,ad⟩) (fun _ _ (e:aF U h _ _)=>e.1) a d _ r
variable {W:ab} {G:Facts} (hG:Sat W.ρ G)
noncomputable def mU (x y:SE):Out fun r:Bool=>(x.val W.ρ == y.val W.ρ) = r:=bd (truth hG ⟨false,ba x (smul (-1) y),true⟩) fun r h=>.ok r (by
 rw [← h,Bool.eq_iff_iff,beq_iff_eq]
 show _↔decide ((ba x (smul (-1) y)).val W.ρ = 0) = true
 rw [cX,cI,decide_eq_true_eq]; lia)
theorem E7 {a b q:Bool} (h:a = true) (k:b = q):(a && b) = q:=by rw [h,k]; rfl
theorem E8 {a b:Bool} (h:a = true):(a || b) = true:=by rw [h]; rfl
theorem E9 {a b q:Bool} (h:a = false) (k:b = q):(a || b) = q:=by rw [h,k]; rfl
theorem Fb {a b:Bool} (h:a = false):(a && b) = false:=by rw [h]; rfl
mutual
noncomputable def qJ:(a b:AV)→Out fun r:Bool=>PyData.eqv (dat W.ρ a) (dat W.ρ b) = r
 | .int x,.int y=>bd (mU hG x y) fun r h=>.ok r h
 | .str x,.str y=>.ok (sEq x y) (eE x y).symm
 | .none,.none=>.ok true rfl
 | .tup l,.tup m=>qK l m
 | .lst l,.lst m=>qK l m
 | _,_=>.no 40
noncomputable def qK:(a b:List AV)→Out fun r:Bool=>PyData.eqvAll (dG W.ρ a) (dG W.ρ b) = r
 | [],[]=>.ok true rfl
 | [],_::_=>.ok false rfl
 | _::_,[]=>.ok false rfl
 | a::l,b::m=>bd (qJ a b) fun r h=>aG r (fun z=>bd (qK l m) fun q k=>.ok q (E7 (h.trans z) k)) fun z=>.ok false (Fb (h.trans z))
end
noncomputable def xf (a:AV):(l:List AV)→Out fun r:Bool=>((dG W.ρ l).any fun y=>PyData.eqv y (dat W.ρ a)) = r
 | []=>.ok false rfl
 | b::l=>bd (qJ hG b a) fun r h=>aG r (fun z=>.ok true (E8 (h.trans z))) fun z=>bd (xf a l) fun q k=>.ok q (E9 (h.trans z) k)
noncomputable def xg:(a b:List SE)→Out fun r:Bool=>decide (vals W.ρ a = vals W.ρ b) = r
 | [],[]=>.ok true rfl
 | [],_::_=>.ok false rfl
 | _::_,[]=>.ok false rfl
 | a::l,b::m=>bd (mU hG a b) fun r h=>aG r (fun z=>bd (xg l m) fun q k=>.ok q (by
   rw [← k,Bool.eq_iff_iff,decide_eq_true_eq,decide_eq_true_eq]
   show a.val W.ρ::vals W.ρ l = b.val W.ρ::vals W.ρ m↔_
   rw [beq_iff_eq.mp (h.trans z)]; simp)) fun z=>.ok false (decide_eq_false fun e=>beq_eq_false_iff_ne.mp (h.trans z) (List.cons.inj e).1)
variable (W)
noncomputable def Fe (a b:AV) (r:Bool):Prop:=∀ n A U ad s v u (Q:Value→Shared→Prop) (E:Value→Shared→Prop),A.units≤9000→Rel W ⟨aF U s.heap,ad⟩ v a→Rel W ⟨aF U s.heap,ad⟩ u b→Q (.bool (n ^^ r)) s→ay W A (compareOp (E6 n) v u) Q E s
noncomputable def qL (a b:AV) (r:Bool):Prop:=∀ n A U ad s v u (Q:Value→Shared→Prop) (E:Value→Shared→Prop),A.units≤9000→Rel W ⟨aF U s.heap,ad⟩ v a→Rel W ⟨aF U s.heap,ad⟩ u b→(∀ tk,Q (.bool (n ^^ r)) { s with toks:=tk })→ay W A (compareOp (mT n) v u) Q E s
variable {W}
theorem xh {A:Around} (h:A.units≤9000) {k:Nat} (hk:k≤500):A.units + k < cLine:=by unfold cLine; lia
theorem Ff {l m:List Int} (hl:∀ x∈l,0≤x∧x < 256) (hm:∀ x∈m,0≤x∧x < 256):((bO l).toList == (bO m).toList) = decide (l = m):=by
 rw [Bool.eq_iff_iff,beq_iff_eq,decide_eq_true_eq]
 refine ⟨fun h=>?_,fun e=>e▸rfl⟩
 unfold bO at h
 have back:∀ l:List Int,(∀ x∈l,0≤x∧x < 256)→(l.map fun x=>UInt8.ofNat x.toNat).map (fun b=>(b.toNat:Int)) = l:=fun l hl=>by
  rw [List.map_map]
  conv=>rhs; rw [← List.map_id l]
  refine List.map_congr_left fun x hx=>?_
  obtain ⟨h0,h1⟩:=hl x hx
  show ((UInt8.ofNat x.toNat).toNat:Int) = x
  rw [UInt8.toNat_ofNat']; lia
 rw [← back l hl,← back m hm]
 exact congrArg _ h
noncomputable def xi (a b:AV):Out (Fe W a b):=match a,b with
 | .str x,.str y=>.ok (sEq x y) fun n A U ad s v u Q E hu rv ru hQ=>by
   obtain ⟨_⟩:=rv
   obtain ⟨_⟩:=ru
   rw [eE] at hQ
   cases n
   ·exact eq_str (by simpa using hQ)
   ·exact ne_str (by simpa [bne] using hQ)
 | .bytes x,.bytes y=>bd (xg hG x y) fun r h=>.ok r fun n A U ad s v u Q E hu rv ru hQ=>by
   obtain ⟨_,hx⟩:=rv
   obtain ⟨_,hy⟩:=ru
   rw [← h,← Ff hx hy] at hQ
   cases n
   ·exact eq_bytes (by simpa using hQ)
   ·exact ne_bytes (by simpa [bne] using hQ)
 | a,b=>au (aH (aH (g8 a) (g8 b)) (aH (g9 (dat W.ρ a)) (g9 (dat W.ρ b)))) 41 fun hh=>bd (qJ hG a b) fun r h=>.ok r fun n A U ad s v u Q E hu rv ru hQ=>by
   obtain ⟨h12,h34⟩:=aC hh
   obtain ⟨h1,h2⟩:=aC h12
   obtain ⟨h3,h4⟩:=aC h34
   obtain ⟨as,ra⟩:=j9 h1 rv
   obtain ⟨bs,rb⟩:=j9 h2 ru
   rw [← h] at hQ
   cases n
   ·exact eq_dataH ra rb (iU h3) (iU h4) (xh hu (by decide)) (by rwa [Bool.false_xor] at hQ)
   ·exact ne_dataH ra rb (iU h3) (iU h4) (xh hu (by decide)) (by rwa [Bool.true_xor] at hQ)
noncomputable def qM:List (Str×Str×Bool):=[(⟨#[114,109,56]⟩,⟨#[105,109,109]⟩,false),(⟨#[114,56]⟩,⟨#[105,109,109]⟩,false),(⟨#[114,109,49,54]⟩,⟨#[105,109,109]⟩,false),(⟨#[114,109,51,50]⟩,⟨#[105,109,109]⟩,false),(⟨#[114,109,54,52]⟩,⟨#[105,109,109]⟩,false),(⟨#[114,49,54]⟩,⟨#[105,109,109]⟩,false),(⟨#[114,51,50]⟩,⟨#[105,109,109]⟩,false),(⟨#[114,54,52]⟩,⟨#[105,109,109]⟩,false),(⟨#[111,56]⟩,⟨#[105,109,109]⟩,false),(⟨#[111,49,54]⟩,⟨#[105,109,109]⟩,false),(⟨#[111,51,50]⟩,⟨#[105,109,109]⟩,false),(⟨#[111,54,52]⟩,⟨#[105,109,109]⟩,false),(⟨#[105,109,109,56]⟩,⟨#[105,109,109]⟩,true),(⟨#[105,109,109,49,54]⟩,⟨#[105,109,109]⟩,true),(⟨#[105,109,109,51,50]⟩,⟨#[105,109,109]⟩,true),(⟨#[105,109,109,54,52]⟩,⟨#[105,109,109]⟩,true),(⟨#[115,105,109,109,56]⟩,⟨#[105,109,109]⟩,true),(⟨#[115,105,109,109,51,50]⟩,⟨#[105,109,109]⟩,true),(⟨#[114,101,108,56]⟩,⟨#[105,109,109]⟩,false),(⟨#[114,101,108,51,50]⟩,⟨#[105,109,109]⟩,false),(⟨#[117,105,109,109,56]⟩,⟨#[105,109,109]⟩,true),(⟨#[117,105,109,109,49,54]⟩,⟨#[105,109,109]⟩,true),(⟨#[109]⟩,⟨#[105,109,109]⟩,false),(⟨#[111,110,101]⟩,⟨#[105,109,109]⟩,false),(⟨#[120]⟩,⟨#[105,109,109]⟩,false)]
theorem Fg:qM.map (fun e=>!(Builtin.Str.occurrences e.1 e.2.1 0 e.1.length 1).isEmpty) = qM.map (·.2.2):=by decide +kernel
noncomputable def mV (x y:Str):List (Str×Str×Bool)→Option Bool
 | []=>none
 | (a,b,r)::l=>(match sEq x a && sEq y b with
  | true=>some r
  | false=>mV x y l)
theorem xj {x y:Str} {r:Bool}:∀ {l:List (Str×Str×Bool)},mV x y l = some r→(x,y,r)∈l
 | (a,b,r')::l,h=>by
  unfold mV at h
  cases q:(sEq x a && sEq y b)<;>rw [q] at h
  ·exact .tail _ (xj h)
  ·obtain ⟨q1,q2⟩:=Bool.and_eq_true_iff.mp q
   rw [sEq_iff.mp q1,sEq_iff.mp q2,Option.some.inj h]; exact .head _
inductive mW:AV→List AV→Prop
 | tup (l):mW (.tup l) l
 | lst (l):mW (.lst l) l
theorem Fh {a b:AV} {l:List AV} (hl:mW b l) (h1:g8 a = true) (h2:j8 l = true) (h3:g9 (dat W.ρ a) = true) (h4:g9 (.list (dG W.ρ l)) = true) {r:Bool} (h:((dG W.ρ l).any fun y=>PyData.eqv y (dat W.ρ a)) = r):qL W a b r:=fun n A U ad s v u Q E hu rv ru hQ=>by
 have hQ:=hQ s.toks
 rw [← h] at hQ
 obtain ⟨as,ra⟩:=j9 h1 rv
 have s2:=iU h4
 have c2:=SeqAt.canLay_of_shaped s2
 have d2:=SeqAt.depth_of_shaped s2
 have s3:=SeqAt.canLay_of_shaped (iU h3)
 have room:A.units + 1 + min (PyData.depthAll (dG W.ρ l)) (dat W.ρ a).depth < cLine:=by
  have:=Nat.min_le_left (PyData.depthAll (dG W.ρ l)) (dat W.ρ a).depth
  have:PyData.depth (.list (dG W.ρ l)) = PyData.depthAll (dG W.ρ l) + 1:=rfl
  unfold cLine; lia
 rcases hl with _ | _
 ·obtain ⟨bs,rb⟩:=j9 (a:=.tup l) h2 ru
  cases n<;>simp only [Bool.false_xor,Bool.true_xor] at hQ
  ·exact SeqAt.in_tuple_reads rb ra c2 s3 room hQ
  ·exact SeqAt.notIn_tuple_reads rb ra c2 s3 room hQ
 ·obtain ⟨bs,rb⟩:=j9 (a:=.lst l) h2 ru
  cases n<;>simp only [Bool.false_xor,Bool.true_xor] at hQ
  ·exact SeqAt.in_list_reads rb ra c2 s3 room hQ
  ·exact SeqAt.notIn_list_reads rb ra c2 s3 room hQ
noncomputable def xk (a b:AV) (l:List AV) (hl:mW b l):Out (qL W a b):=au (aH (aH (g8 a) (j8 l)) (aH (g9 (dat W.ρ a)) (g9 (.list (dG W.ρ l))))) 42 fun hh=>bd (xf hG a l) fun r h=>.ok r (Fh hl (aC (aC hh).1).1 (aC (aC hh).1).2 (aC (aC hh).2).1 (aC (aC hh).2).2 h)
noncomputable def xl (k:SE):(l:List (Int×AV))→Out fun r:Bool=>∀ kvs V,bP W V kvs l→(valueAt kvs (k.val W.ρ)).isSome = r
 | []=>.ok false fun kvs V h=>by rw [show kvs = [] from h]; rfl
 | (j,x)::l=>bd (mU hG (.lit j) k) fun r h=>bd (xl k l) fun q g=>.ok (r || q) fun kvs V z=>by
   obtain ⟨⟨_⟩,z⟩:=z
   rw [← g _ _ z,← h]
   unfold valueAt
   rw [List.find?_cons]
   show Option.isSome (Option.map _ (match decide (j = k.val W.ρ) with | true=>_ | false=>_)) = ((j == k.val W.ρ) || _)
   rw [show (j == k.val W.ρ) = decide (j = k.val W.ρ) from rfl]
   cases decide (j = k.val W.ρ)<;>rfl
set_option tactic.hygienic true in
noncomputable def inD (a b:AV):Out (qL W a b):=match b,a with
 | .dicI l,.int k=>bd (xl hG k l) fun r h=>.ok r fun n A U ad s v u Q E hu rv ru hQ=>by
   obtain ⟨_⟩:=rv
   obtain ⟨hg,ns,dd,rl⟩:=ru
   rename_i t ad o kvs
   have hm:s.heap.MapOf (intKind pg W.w) ad (valueAt kvs):=Heap.DictOf.mapOf (Heap.dictOf_iff.mpr ⟨o,hg.1,dd⟩)
   have hQ:=hQ (s.toks + 1)
   rw [← h _ _ rl] at hQ
   cases n
   ·exact wpAny_in_of (intKind_is _ _ _ _) ns hm (by rwa [Bool.false_xor] at hQ)
   ·exact wpAny_notIn_of (intKind_is _ _ _ _) ns hm (by rwa [Bool.true_xor] at hQ)
 | .str x,.str y=>bH (mV x y qM) 43 fun r hr=>.ok r fun n A U ad s v u Q E hu rv ru hQ=>by
   obtain ⟨_⟩:=rv
   obtain ⟨_⟩:=ru
   have hQ:=hQ s.toks
   have:=List.map_inj_left.mp Fg _ (xj hr)
   dsimp only at this hQ
   rw [← this] at hQ
   cases n
   ·exact PySem.P.in_str (by simpa using hQ)
   ·exact PySem.P.notIn_str (by simpa using hQ)
 | .tup l,a=>xk hG a _ l (.tup l)
 | .lst l,a=>xk hG a _ l (.lst l)
 | _,_=>.no 44
noncomputable def xm (a:AV):Option { b:Bool //∀ V v,Rel W V v a→(v == .none) = b }:=match a with
 | .none=>some ⟨true,fun _ _ r=>by obtain rfl:=r; rfl⟩
 | .bool _ | .sb _=>some ⟨false,fun _ _ r=>r▸rfl⟩
 | .int _=>some ⟨false,fun _ _ ⟨_⟩=>rfl⟩
 | .str _=>some ⟨false,fun _ _ ⟨_⟩=>rfl⟩
 | .bytes _=>some ⟨false,fun _ _ ⟨_,_⟩=>rfl⟩
 | .tup _=>some ⟨false,fun _ _ ⟨_,_⟩=>rfl⟩
 | .lst _=>some ⟨false,fun _ _ ⟨_,_⟩=>rfl⟩
 | .inst _ _=>some ⟨false,fun _ _ ⟨_,_,_⟩=>rfl⟩
 | .loc _=>some ⟨false,fun _ _ ⟨_⟩=>rfl⟩
 | _=>none
noncomputable def qN (B:SB):AV:=match eQ G B with
 | some r=>.bool r
 | none=>.sb B
include hG in
theorem Fi {B:SB} {V:Vw}:Rel W V (.bool (B.val W.ρ)) (qN (G:=G) B):=by
 unfold qN
 cases q:eQ G B with
 | none=>exact (rfl:Value.bool _ = _)
 | some r=>exact congrArg _ (jQ hG q)
noncomputable def Fj (op:CmpOp) (x y:SE):Out fun B:SB=>∀ A (s:Shared) tu tv (Q:Value→Shared→Prop) E,Q (.bool (B.val W.ρ)) s→ay W A (compareOp op (.int (x.val W.ρ) tu) (.int (y.val W.ρ) tv)) Q E s:=
 have e:∀ a b k:Int,(a + -1 * b + k≤0↔a + k≤b):=fun a b k=>by lia
 match op with
 | .Eq=>.ok ⟨false,ba x (smul (-1) y),true⟩ fun A s tu tv Q E h=>eq_int (by
   rwa [show (x.val W.ρ == y.val W.ρ) = SB.val W.ρ ⟨false,ba x (smul (-1) y),true⟩ by
    show _ = decide ((ba x (smul (-1) y)).val W.ρ = 0)
    rw [Bool.eq_iff_iff,beq_iff_eq,decide_eq_true_eq,cX,cI]; lia])
 | .NotEq=>.ok ⟨false,ba x (smul (-1) y),false⟩ fun A s tu tv Q E h=>ne_int (by
   rwa [show (x.val W.ρ != y.val W.ρ) = SB.val W.ρ ⟨false,ba x (smul (-1) y),false⟩ by
    show _ = !decide ((ba x (smul (-1) y)).val W.ρ = 0)
    rw [Bool.eq_iff_iff,bne_iff_ne,Bool.not_eq_true',decide_eq_false_iff_not,cX,cI]; lia])
 | .Lt=>.ok ⟨true,ba (ba x (smul (-1) y)) (.lit 1),true⟩ fun A s tu tv Q E h=>lt_int (by
   rwa [show decide (x.val W.ρ < y.val W.ρ) = SB.val W.ρ ⟨true,ba (ba x (smul (-1) y)) (.lit 1),true⟩ from decide_eq_decide.mpr (by rw [cX,cX,cI]; exact (e _ _ 1).symm)])
 | .LtE=>.ok ⟨true,ba x (smul (-1) y),true⟩ fun A s tu tv Q E h=>le_int (by
   rwa [show decide (x.val W.ρ≤y.val W.ρ) = SB.val W.ρ ⟨true,ba x (smul (-1) y),true⟩ from decide_eq_decide.mpr (by rw [cX,cI]; lia)])
 | .Gt=>.ok ⟨true,ba (ba y (smul (-1) x)) (.lit 1),true⟩ fun A s tu tv Q E h=>gt_int (by
   rwa [show decide (y.val W.ρ < x.val W.ρ) = SB.val W.ρ ⟨true,ba (ba y (smul (-1) x)) (.lit 1),true⟩ from decide_eq_decide.mpr (by rw [cX,cX,cI]; exact (e _ _ 1).symm)])
 | .GtE=>.ok ⟨true,ba y (smul (-1) x),true⟩ fun A s tu tv Q E h=>ge_int (by
   rwa [show decide (y.val W.ρ≤x.val W.ρ) = SB.val W.ρ ⟨true,ba y (smul (-1) x),true⟩ from decide_eq_decide.mpr (by rw [cX,cI]; lia)])
 | _=>.no 45
noncomputable def Fm (op:CmpOp) (a b:AV):Out (qu W op a b):=match a,b with
 | .int x,.int y=>bd (Fj (W:=W) op x y) fun B h=>.ok (qN (G:=G) B) fun A U ad s v u Q E hu _ rv ru F=>by
   obtain ⟨_⟩:=rv
   obtain ⟨_⟩:=ru
   exact h _ _ _ _ _ _ (F.here s.toks (Fi hG))
 | a,b=>(match op with
  | .Is=>(match b with
   | .none=>(match xm (W:=W) a with
    | some r=>.ok (.bool r.1) fun A U ad s v u Q E hu _ rv ru F=>by obtain rfl:=ru; exact is_none_gen (by rw [r.2 _ _ rv]; exact F.here s.toks rfl)
    | none=>.no 46)
   | _=>.no 47)
  | .IsNot=>(match b with
   | .none=>(match xm (W:=W) a with
    | some r=>.ok (.bool (!r.1)) fun A U ad s v u Q E hu _ rv ru F=>by obtain rfl:=ru; exact isnot_none_gen (by rw [r.2 _ _ rv]; exact F.here s.toks rfl)
    | none=>.no 48)
   | _=>.no 49)
  | .Eq=>bd (xi hG a b) fun r h=>.ok (.bool r) fun A U ad s v u Q E hu _ rv ru F=>h false A U ad s v u Q E hu rv ru (by rw [Bool.false_xor]; exact F.here s.toks rfl)
  | .NotEq=>bd (xi hG a b) fun r h=>.ok (.bool (!r)) fun A U ad s v u Q E hu _ rv ru F=>h true A U ad s v u Q E hu rv ru (by rw [Bool.true_xor]; exact F.here s.toks rfl)
  | .In=>bd (inD hG a b) fun r h=>.ok (.bool r) fun A U ad s v u Q E hu _ rv ru F=>h false A U ad s v u Q E hu rv ru fun tk=>by rw [Bool.false_xor]; exact F.here tk rfl
  | .NotIn=>bd (inD hG a b) fun r h=>.ok (.bool (!r)) fun A U ad s v u Q E hu _ rv ru F=>h true A U ad s v u Q E hu rv ru fun tk=>by rw [Bool.true_xor]; exact F.here tk rfl
  | _=>.no 50)
section
noncomputable def ke (i:Int) (n:Nat):Option Nat:=match bt 0 i with
 | true=>(match Nat.blt i.toNat n with
  | true=>some i.toNat
  | false=>none)
 | false=>(match bt 0 (i + Int.ofNat n) with
  | true=>some (i + Int.ofNat n).toNat
  | false=>none)
theorem xn {i:Int} {n j:Nat} (h:ke i n = some j):seqIndex? i n = some j∧(0≤i→j = i.toNat)∧(i < 0→j = (i + n).toNat∧-(n:Int)≤i):=by
 unfold ke at h
 unfold seqIndex?
 dsimp only
 cases q:bt 0 i<;>rw [q] at h<;>dsimp only at h<;>rw [lN] at q
 ·have q:=of_decide_eq_false q
  cases z:bt 0 (i + Int.ofNat n)<;>rw [z] at h<;>cases h
  have z:0≤i + (n:Int):=dA z
  exact ⟨by rw [if_pos (show i < 0 by lia),if_pos (by simp; lia)]; rfl,fun w=>absurd w q,fun _=>⟨rfl,by lia⟩⟩
 ·have q:=of_decide_eq_true q
  cases z:Nat.blt i.toNat n<;>rw [z] at h<;>cases h
  have z:=Nat.blt_eq.mp z
  exact ⟨by rw [if_neg (show ¬ i < 0 by lia),if_pos (by simp; lia)],fun _=>rfl,fun w=>by lia⟩
section
variable {W:ab} {V:Vw}
theorem bJ.look {k:Str} {r:AV}:∀ {l:List (Str×AV)} {kvs:List (Str×Value)},bJ W V kvs l→lk k l = some r→∃ y,valueAt kvs k = some y∧Rel W V y r
 | (j,a)::l,_,q,e=>by
  obtain ⟨⟨h⟩,q⟩:=q
  rw [dc] at e
  unfold valueAt
  rw [List.find?_cons]
  by_cases z:j = k
  ·rw [if_pos z.symm] at e
   rw [decide_eq_true z]
   exact ⟨_,rfl,Option.some.inj e▸h⟩
  ·rw [if_neg (Ne.symm z)] at e
   rw [decide_eq_false z]
   exact bJ.look q e
theorem list_item {A:Around} {s:Shared} {x:Addr} {vs:List Value} {n:Nat} {i:Int} {t:Tok} {j:Nat} {y:Value} {Q:Value→Shared→Prop} {E:Value→Shared→Prop} {val k:Expr} (hk:∀ o i,subscripted k false o i = operate [o,i] (getItem o i)) (ho:s.heap.get? x = some (bo vs n)) (hz:vs.length≤100000) (hj:(0≤i→j = i.toNat)∧(i < 0→j = (i + vs.length).toNat∧-(vs.length:Int)≤i))
  (hy:vs[j]? = some y) (h:Q y s):ay W A (subscriptTail val k (.ref x) (.int i t)) Q E s:=by
 have hl:s.heap.IsList x vs.toArray:=⟨_,ho,rfl,n,rfl⟩
 have hlt:j < vs.length:=(List.getElem?_eq_some_iff.mp hy).1
 refine tail_any hl.typeIs slot_list_getitem.lookup ?_ (hk _ _)
 by_cases q:0≤i
 ·obtain rfl:=hj.1 q
  exact wpAny_getItem_list hl q (by lia) (by simpa using hy) h
 ·obtain ⟨h1,h2⟩:=hj.2 (by lia)
  subst h1
  exact wpAny_getItem_list_neg hl (by lia) (by simpa using h2) (by lia) (by simpa using hy) h
end
theorem xo {l:List Int} (hx:∀ x∈l,0≤x∧x < 256) {n:Nat} (h:n < l.length):(((l.map fun x=>UInt8.ofNat x.toNat).getD n 0).toNat:Int) = l.getD n 0:=by
 have eg:l.getD n 0 = l[n]:=by simp [h]
 obtain ⟨h0,h1⟩:=hx _ (eg▸List.getElem_mem h)
 rw [show (l.map fun x=>UInt8.ofNat x.toNat).getD n 0 = UInt8.ofNat (l.getD n 0).toNat by simp [h],UInt8.toNat_ofNat']
 generalize l.getD n 0 = z at *
 rw [Nat.mod_eq_of_lt (show z.toNat < 2 ^ 8 by lia)]; lia
theorem qO {ρ:Nat→Int}:∀ {l:List SE} {n:Nat} {e:SE},l[n]? = some e→(vals ρ l).getD n 0 = e.val ρ∧n < l.length
 | _::_,0,_,h=>⟨congrArg (SE.val ρ) (Option.some.inj h),Nat.succ_pos _⟩
 | _::l,n + 1,e,h=>let ⟨a,b⟩:=qO (l:=l) (n:=n) h; ⟨a,Nat.succ_lt_succ b⟩
variable {W:ab} {G:Facts} (hG:Sat W.ρ G)
noncomputable def e6 (e:SE):Out fun i:Int=>e.val W.ρ = i:=di (bu G e true) (fun a ha=>di (bu G e false) (fun b hb=>aG (bg a (-b)) (fun h=>.ok a (by
  have:=gg hG ha; have:=gh hG hb; have:=dP h; lia)) fun _=>.ask ⟨true,ba e (.lit (-a)),true⟩) fun _=>.no 60) fun _=>.no 61
noncomputable def litsOf:(l:List AV)→Option { r:List Int //∀ W V vs,ai W V vs l→bT r vs }
 | []=>some ⟨[],fun _ _ _ r=>r⟩
 | .int (.lit i)::l=>(match litsOf l with
  | some r=>some ⟨i::r.1,fun _ _ _ ⟨h,q⟩=>.mk h (r.2 _ _ _ q)⟩
  | none=>none)
 | _=>none
theorem bT.get:∀ {l:List Int} {vs:List Value} {n:Nat},bT l vs→n < l.length→∃ t,vs[n]? = some (.int (l.getD n 0) t)
 | _::_,_,n,r,h=>by
  obtain ⟨⟨t⟩,r⟩:=r
  cases n with
  | zero=>exact ⟨t,rfl⟩
  | succ n=>exact bT.get (n:=n) r (Nat.lt_of_succ_lt_succ h)
set_option tactic.hygienic true in
theorem xp {l:List AV} {i:Int} {k:AV} {j:Nat} {x:AV} (hk:∀ V v,Rel W V v k→bL i v) (hz:Nat.ble l.length 100000 = true) (hj:ke i l.length = some j) (hx:l[j]? = some x):j4 W (.lst l) k x∧j4 W (.tup l) k x:=by
 refine ⟨fun A U ad s v u k val Q E hs B rv ru G=>?_,fun A U ad s v u k val Q E hs B rv ru G=>?_⟩<;>obtain ⟨ho,rl⟩:=rv<;>obtain ⟨t⟩:=hk _ _ ru<;>obtain ⟨y,hy,ry⟩:=rl.get hx<;>have hl:=rl.length
 ·exact list_item hs ho.1 (hl▸Nat.le_of_ble_eq_true hz) (hl▸(xn hj).2) hy (G.here s.toks ry)
 ·rename_i a vs n
  have ht:IsTup s.heap a vs.toArray:=⟨_,ho.1,rfl,n,rfl⟩
  obtain ⟨j0,j1,j2⟩:=xn hj
  have hlt:j < vs.length:=(List.getElem?_eq_some_iff.mp hy).1
  have hz:=Nat.le_of_ble_eq_true hz
  refine tail_any ht.typeIs slot_tuple_getitem.lookup (getItem_tuple (j:=j) (x:=y) ht ?_ ?_ (by rw [List.size_toArray,hl]; exact j0) (by simpa using hy) (G.here s.toks ry)) (hs _ _)
  ·by_cases q:i < 0
   ·have:=j2 q; lia
   ·lia
  ·by_cases q:i < 0
   ·lia
   ·have:=j1 (by lia); lia
noncomputable def xq (k:SE):(l:List (Int×AV))→Out fun r:AV=>∀ kvs V,bP W V kvs l→∃ y,valueAt kvs (k.val W.ρ) = some y∧Rel W V y r
 | []=>.no 62
 | (j,x)::l=>bd (mU hG (.lit j) k) fun r h=>aG r (fun z=>.ok x fun kvs V q=>by
   obtain ⟨⟨q⟩,_⟩:=q
   have z:j = k.val W.ρ:=beq_iff_eq.mp (h.trans z)
   unfold valueAt
   rw [List.find?_cons,show decide (j = k.val W.ρ) = true from decide_eq_true z]
   exact ⟨_,rfl,q⟩) fun z=>bd (xq k l) fun r g=>.ok r fun kvs V q=>by
   obtain ⟨⟨_⟩,q⟩:=q
   have z:j≠k.val W.ρ:=beq_eq_false_iff_ne.mp (h.trans z)
   unfold valueAt
   rw [List.find?_cons,show decide (j = k.val W.ρ) = false from decide_eq_false z]
   exact g _ _ q
noncomputable def hSub (a k:AV):Out (j4 W a k):=match a,k with
 | .lst l,.int e=>(match litsOf l,Nat.ble 3 l.length with
  | some r,true=>au (aH (aH (bK 0 (bu G e true)) (bK (1 - r.1.length) (bu G e false))) (Nat.ble r.1.length 100000)) 63 fun hh=>.ok (.int (.tab r.1 e)) fun A U ad s v u k val Q E hs B rv ru F=>by
    obtain ⟨h12,h3⟩:=aC hh
    obtain ⟨h1,h2⟩:=aC h12
    have h1:=cF (fun _=>gg hG) h1
    have h2:=cF (fun _=>gh hG) h2
    have h3:=Nat.le_of_ble_eq_true h3
    obtain ⟨ho,rl⟩:=rv
    obtain ⟨_⟩:=ru
    have ri:=r.2 _ _ _ rl
    have hl:=ri.length
    obtain ⟨t,hy⟩:=ri.get (n:=(e.val W.ρ).toNat) (by lia)
    exact list_item hs ho.1 (by lia) ⟨fun _=>rfl,fun q=>by lia⟩ hy (F.here s.toks (.mk _))
  | _,_=>bd (e6 hG e) fun i h=>au (Nat.ble l.length 100000) 64 fun hz=>bH (ke i l.length) 65 fun j hj=>bH l[j]? 66 fun x hx=>.ok x (xp (fun V v r=>h▸r) hz hj hx).1)
 | .tup l,.int e=>bd (e6 hG e) fun i h=>au (Nat.ble l.length 100000) 67 fun hz=>bH (ke i l.length) 68 fun j hj=>bH l[j]? 69 fun x hx=>.ok x (xp (fun V v r=>h▸r) hz hj hx).2
 | .bytes l,.int e=>bd (e6 hG e) fun i h=>au (aH (bt 0 i) (Nat.ble l.length 100000)) 70 fun hi=>bH l[i.toNat]? 71 fun x hx=>.ok (.int x) fun A U ad s v u k val Q E hk B rv ru F=>by
   obtain ⟨_,hb⟩:=rv
   obtain ⟨_⟩:=ru
   rw [h]
   obtain ⟨e1,e2⟩:=qO (ρ:=W.ρ) hx
   have h0:=dA (aC hi).1
   have hz:=Nat.le_of_ble_eq_true (aC hi).2
   have e3:=gm W.ρ l
   refine tail_any (PySem.W.typeIs_bytes _ _ _) FB.slot_bytes_getitem.lookup ?_ (hk _ _)
   unfold bO
   exact PySem.W.getItem_bytes (by rw [List.length_map]; lia) h0 (by rw [List.length_map]; lia) (by rw [xo hb (by lia),e1]; exact F.here _ (.mk _))
 | .dicI l,.int k=>bd (xq hG k l) fun x hx=>.ok x fun A U ad s v u k val Q E hk B rv ru F=>by
   obtain ⟨ho,ns,dd,rl⟩:=rv
   obtain ⟨_⟩:=ru
   obtain ⟨y,hy,ry⟩:=hx _ _ rl
   have hm:=Heap.DictOf.mapOf (Heap.dictOf_iff.mpr ⟨_,ho.1,dd⟩)
   exact tail_any hm.typeIs slot_dict_getitem.lookup (wpAny_getItem_of (intKind_is _ _ _ _) hm hy (F.here _ ry)) (hk _ _)
 | .dicS l,.str k=>bH (lk k l) 72 fun x hx=>.ok x fun A U ad s v u k val Q E hk B rv ru F=>by
   obtain ⟨ho,ns,dd,rl⟩:=rv
   obtain ⟨_⟩:=ru
   obtain ⟨y,hy,ry⟩:=rl.look hx
   have hm:=Heap.DictOf.mapOf (Heap.dictOf_iff.mpr ⟨_,ho.1,dd⟩)
   exact tail_any hm.typeIs slot_dict_getitem.lookup (wpAny_getItem_of (strKind_is _ _ _ _) hm hy (F.here _ ry)) (hk _ _)
 | _,_=>.no 73
noncomputable def cut {α:Type} (l:List α) (lo hi:Option Int):List α:=(l.drop (lo.elim 0 (clipAt l.length))).take (hi.elim l.length (clipAt l.length) - lo.elim 0 (clipAt l.length))
theorem xr (ρ:Nat→Int) (l:List SE) (lo hi:Option Int):cut (vals ρ l) lo hi = vals ρ (cut l lo hi):=by
 have e:∀ l:List SE,vals ρ l = l.map (·.val ρ):=fun l=>by
  induction l with
  | nil=>rfl
  | cons a l ih=>exact congrArg _ ih
 rw [e,e]; unfold cut; rw [List.length_map,List.map_take,List.map_drop]
theorem ai.drop {V:Vw}:∀ {n:Nat} {l:List AV} {vs:List Value},ai W V vs l→ai W V (vs.drop n) (l.drop n)
 | 0,_,_,h=>h
 | _ + 1,[],_,r=>by rw [show _ = [] from r]; exact rfl
 | n + 1,_::_,_,.mk _ r=>ai.drop (n:=n) r
theorem ai.take {V:Vw}:∀ {n:Nat} {l:List AV} {vs:List Value},ai W V vs l→ai W V (vs.take n) (l.take n)
 | 0,_,_,_=>rfl
 | _ + 1,[],_,r=>by rw [show _ = [] from r]; exact rfl
 | n + 1,_::_,_,.mk h r=>.mk h (ai.take (n:=n) r)
set_option tactic.hygienic true in
noncomputable def Fo (a:AV) (lo hi:Option Int):Out (wZ W a lo hi):=match a with
 | .str x=>au (Nat.ble (mP x) 100000) 74 fun hb=>.ok (.str (Txt.slice x lo hi)) fun A U ad s v b l u Q E B rv pl pu hs G=>by
   obtain ⟨t⟩:=rv
   have hb:x.length≤100000:=Nat.le_of_ble_eq_true hb
   have go:∀ l' u':Option (Int×Tok),partValue l' = l→partValue u' = u→l'.map (·.1) = lo→u'.map (·.1) = hi→ItemOn (model pg W.w) A E (.str x t) (.ref b) Q s:=by
    rintro l' u' rfl rfl rfl rfl
    obtain ⟨o,ho,hc,hd⟩:=hs
    exact ⟨"str",_,F.slot_str_getitem.lookup,typeIs_str _ _ _,wpAny_getItem_str_slice (l:=l') (u:=u') (st:=none) ⟨o,ho,hc,hd⟩ rfl (post_val_or_str ⟨Nat.le_trans (Txt.slice_le x _ _) (by rw [sizeLine_eq]; lia),fun t' k=>G.here k (.mk _)⟩)⟩
   cases pl<;>cases pu
   ·exact go none none rfl rfl rfl rfl
   ·exact go none (some (_,_)) rfl rfl rfl rfl
   ·exact go (some (_,_)) none rfl rfl rfl rfl
   ·exact go (some (_,_)) (some (_,_)) rfl rfl rfl rfl
 | .bytes l0=>au (Nat.ble l0.length 100000) 75 fun hz=>.ok (.bytes (cut l0 lo hi)) fun A U ad s v b l u Q E B rv pl pu hs G=>by
   obtain ⟨t,hx⟩:=rv
   have hz:=Nat.le_of_ble_eq_true hz
   have e3:=gm W.ρ l0
   refine ⟨"bytes",_,FB.slot_bytes_getitem.lookup,PySem.W.typeIs_bytes _ _ _,getItem_meets (PySem.W.typeIs_bytes _ _ _) (by decide) FB.slot_bytes_getitem FB.entry_bytes_getitem (FB.args_bytes_getitem_2 _ _) (KBc.meets_slice2 (bO (vals W.ρ l0)) t b pl pu) ⟨hs,?_,fun t' k=>?_⟩⟩
   ·have:=KBc.size_picked_le (bO (vals W.ρ l0)) lo hi
    rw [gn] at this
    rw [sizeLine_eq]; lia
   ·rw [show KBy.picked (bO (vals W.ρ l0)) lo hi = bO (vals W.ρ (cut l0 lo hi)) by rw [← xr,KBc.picked_eq,gn]; unfold bO cut; rw [List.map_take,List.map_drop]]
    exact G.here k (.mk _ fun x hm=>hx x (by rw [← xr] at hm; exact List.mem_of_mem_drop (List.mem_of_mem_take hm)))
 | .lst l0=>au (Nat.ble l0.length 100000) 76 fun hz=>.ok (.lst (cut l0 lo hi)) fun A U ad s v b l u Q E B rv pl pu hs G=>by
   obtain ⟨ho,rl⟩:=rv
   rename_i x vs n
   have hz:=Nat.le_of_ble_eq_true hz
   have hl:=rl.length
   have il:s.heap.IsList x vs.toArray:=⟨_,ho.1,rfl,n,rfl⟩
   refine ⟨"list",_,slot_list_getitem.lookup,il.typeIs,wpAny_getItem_list_slice il hs pl pu .none (by simp) ?_ (by rw [List.size_toArray,sizeLine_eq]; lia)⟩
   rw [show slicePick vs.toArray lo hi none = (cut vs lo hi).toArray by rw [slicePick_plain]; unfold cut; simp]
   have k:=ag.push s.heap (bo (cut vs lo hi) 0)
   exact G _ _ _ k (.mk (gW _ rfl rfl B.low) ((show ai W _ (cut vs lo hi) (cut l0 lo hi) by unfold cut; rw [hl]; exact rl.drop.take).mono (ag.le k)))
 | _=>.no 77
end
section
variable {prog:Program} {w:World} {A:Around} {E:Value→Shared→Prop} {s:Shared}
theorem Fp:typeLookup (.type "bytes") "__len__" = pure (some (.builtin "bytes.__len__")):=by rw [typeLookup_type,builtinLookup_eq_fast]; kernel_rfl
noncomputable abbrev qP (b:Array UInt8) (i:Nat) (v:Value):Prop:=∃ c u,b[i]? = some c∧v = .int (c.toNat:Int) u
theorem Fq {R:Result→Shared→Prop} (hh:A.handled = none) (b:Array UInt8) (t:Tok) (S:Addr) (res:Value) (c₀:Nat) (hS:s.heap.get? S = some { cls:=.type "list",data:=.seq #[] c₀ }) (hn:b.size≤sizeLine)
  (hR:∀ h' tk acc' c',(∀ b o,b≠S→s.heap.get? b = some o→h'.get? b = some o)→h'.get? S = some { cls:=.type "list",dict:=none,data:=.seq acc' c',slots:=#[] }→ItemsOf (qP b) acc' b.size→R (.ok (.ret res)) { s with heap:=h',toks:=tk }):
  wpAny (model prog w) A.in1 (Builtin.List.listExtendWith (.ref S) (.bytes b t) res)
   (fun fin s'=>match fin with | .done f=>R (.ok f) s' | .again c'=>c'.quiet = true∧codeAny (model prog w) A c' R s') (fun e s'=>R (.error e) s') s:=by
 have hSI:S≠s.heap.objs.size:=Nat.ne_of_lt (Heap.lt_size hS)
 have hSf:S∉[s.heap.objs.size]:=fun hm=>hSI (List.mem_singleton.mp hm)
 unfold Builtin.List.listExtendWith
 refine wpAny_bind (wpAny_typeOf (T:="bytes") (v:=.bytes b t) rfl ?_)
 have h1:Builtin.List.listSameRef (.ref S) (.bytes b t) = false:=rfl
 have h2:(Value.type "bytes" == Value.type "list") = false:=by decide
 have h3:(Value.type "bytes" == Value.type "tuple") = false:=by decide
 simp only [h1,h2,h3,Bool.or_false,Bool.false_eq_true,if_false]
 refine wpAny_bind (KBw.pyIter_bytes ?_)
 refine wpAny_bind (wpAny_holding ?_)
 unfold Builtin.List.listLengthHint
 refine wpAny_bind (wpAny_specialOf (T:="bytes") (v:=.bytes b t) rfl Fp ?_)
 wp_delta
 refine wpAny_bind (wpAny_isInstance (T:="bytes") (v:=.bytes b t) (b:=true) rfl (by rw [isSubtype_type]; kernel_rfl) ?_)
 show wpAny _ _ (typeOf (Value.bytes b t) >>= _) _ _ _
 refine wpAny_bind (wpAny_typeOf (T:="bytes") (v:=.bytes b t) rfl ?_)
 refine wpAny_pure ?_
 rw [if_neg (by decide)]
 have W:=KBw.walks (prog:=prog) (w:=w) (A:=A.in1) hh s.heap.objs.size b t
 refine wpAny_pure ⟨plainId_quiet F.plain_extend_loop _,codeAny_extend_loopS W.toS hn _ hSf _ b.size 0 _ _ _ rfl (Nat.zero_le _) ⟨_,Heap.get?_push_size _ rfl,rfl,rfl⟩ (Heap.get?_push_of_some _ hS) (ItemsOf.nil _) fun s' acc' c' hm hS' hacc=>?_⟩
 rw [Moved.eq_with hm]
 refine hR s'.heap s'.toks acc' c' (fun b ob hb e=>hm.heap b ob (fun hmem=>?_) (Heap.get?_push_of_some _ e)) hS' hacc
 rcases List.mem_cons.mp hmem with e' | hmem
 ·exact hb e'
 ·exact absurd (Heap.lt_size e) (by rw [List.mem_singleton.mp hmem]; exact Nat.lt_irrefl _)
theorem Ft {R:Result→Shared→Prop} (hh:A.handled = none) (b:Array UInt8) (t:Tok) (S:Addr) (hS:s.heap.get? S = some { cls:=.type "list",data:=.seq #[] }) (hn:b.size≤sizeLine)
  (hR:∀ h' tk acc' c',(∀ b o,b≠S→s.heap.get? b = some o→h'.get? b = some o)→h'.get? S = some { cls:=.type "list",dict:=none,data:=.seq acc' c',slots:=#[] }→ItemsOf (qP b) acc' b.size→R (.ok (.ret .none)) { s with heap:=h',toks:=tk }):
  wpAny (model prog w) A.in1 (Builtin.«list.__init__» ⟨[.ref S,.bytes b t],[]⟩)
   (fun fin s'=>match fin with | .done f=>R (.ok f) s' | .again c'=>c'.quiet = true∧codeAny (model prog w) A c' R s') (fun e s'=>R (.error e) s') s:=by
 show wpAny _ _ (do let old ← Builtin.List.listItems (.ref S); Builtin.List.listUpdate (.ref S) (fun _=>#[]); letGo old.toList.reverse; Builtin.List.listExtendWith (.ref S) (.bytes b t) .none) _ _ s
 refine wpAny_bind ?_
 unfold Builtin.List.listItems
 refine wpAny_bind (wpAny_seqItems hS rfl (wpAny_pure ?_))
 show wpAny _ _ (updateSeq S (fun _=>#[]) >>= fun _=>letGo (#[]:Array Value).toList.reverse >>= fun _=>Builtin.List.listExtendWith (.ref S) (.bytes b t) .none) _ _ s
 refine wpAny_bind (wpAny_updateSeq hS rfl ?_)
 have hS₂:=Heap.get?_update_self (Obj.mapSeq (fun _=>(#[]:Array Value))) hS rfl
 have oth:∀ b o,b≠S→s.heap.get? b = some o→(s.heap.update S (Obj.mapSeq (fun _=>(#[]:Array Value)))).get? b = some o:=
  fun b o hb e=>(Heap.get?_update_other _ _ (Ne.symm hb)).trans e
 refine wpAny_bind (wpAny_letGo ?_)
 refine Fq hh b t S .none _ hS₂ hn fun h' tk acc' c' hk hS' hacc=>?_
 exact hR h' tk acc' c' (fun b o hb e=>hk b o hb (oth b o hb e)) hS' hacc
theorem Fu {Q:Value→Shared→Prop} (hh:A.handled = none) (b:Array UInt8) (t:Tok) (hn:b.size≤sizeLine)
  (hQ:∀ h' tk acc' c',(∀ b o,s.heap.get? b = some o→h'.get? b = some o)→h'.get? s.heap.objs.size = some { cls:=.type "list",dict:=none,data:=.seq acc' c',slots:=#[] }→ItemsOf (qP b) acc' b.size→Q (.ref s.heap.objs.size) { s with heap:=h',toks:=tk }):
  wpAny (model prog w) A (call (.type "list") [.bytes b t]) Q E s:=by
 refine callType_codes (Q₁:=fun obj s₁=>obj = .ref s.heap.objs.size∧s₁ = { s with heap:=s.heap.push { cls:=.type "list",data:=.seq #[] } }) F.called_list (F.typeCall_list_1 _) F.entry_list_init
  (code_list_new _ ⟨rfl,rfl⟩) fun obj s₁ h₁=>?_
 obtain ⟨rfl,rfl⟩:=h₁
 have hS:(s.heap.push { cls:=.type "list",data:=.seq #[] }).get? s.heap.objs.size = some { cls:=.type "list",data:=.seq #[] }:=Heap.get?_push_size _ rfl
 refine ⟨⟨_,hS,rfl⟩,F.args_list_init_2 _ _,Ft (A:=A.in1) hh b t _ hS hn fun h' tk acc' c' hk hS' hacc=>?_⟩
 exact ⟨rfl,hQ h' tk acc' c' (fun b o e=>hk b o (Nat.ne_of_lt (Heap.lt_size e)) (Heap.get?_push_of_some _ e)) hS' hacc⟩
end
noncomputable section
theorem qQ {a:Int} {n:Nat} (h:jV a n = true):n≤1000000∧Builtin.Range.small a (a + n) 1 = true∧Builtin.Range.rangeSize a (a + n) 1 = n:=by
 refine af fun nG=>?_
 unfold jV at h
 simp only [Bool.and_eq_true,decide_eq_true_eq] at h
 obtain ⟨⟨h0,h1⟩,h2⟩:=h
 refine nG ?_
 have h0:=Nat.le_of_ble_eq_true h0
 have hsz:Builtin.Range.rangeSize a (a + n) 1 = n:=by
  unfold Builtin.Range.rangeSize
  rw [if_pos (by decide)]
  split<;>lia
 refine ⟨h0,?_,hsz⟩
 unfold Builtin.Range.small
 rw [hsz]
 unfold Builtin.Range.rangeFitsLong
 simp only [Bool.and_eq_true,decide_eq_true_eq,Bool.or_eq_true]
 refine ⟨⟨⟨⟨⟨?_,?_⟩,?_,?_⟩,?_,?_⟩,?_,?_⟩,?_⟩<;>first | lia | (right; rw [if_pos (by decide)]; simp; lia)
noncomputable def iW (a:Int):Nat→List AV
 | 0=>[]
 | n + 1=>.int (.lit a)::iW (a + 1) n
theorem Fv (l:List Int):byteArr l = bO l:=by unfold byteArr bO; congr 1
variable {W:ab} {G:Facts} (hG:Sat W.ρ G)
noncomputable def qR:(l:List AV)→Option { r:List SE //∀ W V vs,ai W V vs l→bT (vals W.ρ r) vs }
 | []=>some ⟨[],fun _ _ _ r=>r⟩
 | .int e::l=>(match qR l with
  | some r=>some ⟨e::r.1,fun _ _ _ ⟨h,q⟩=>.mk h (r.2 _ _ _ q)⟩
  | none=>none)
 | _=>none
theorem bT.are:∀ {l:List Int} {vs:List Value},bT l vs→IntsAre vs l
 | [],_,r=>r▸.nil
 | _::_,_,r=>by obtain ⟨⟨_⟩,r⟩:=r; exact .cons _ _ (bT.are r)
noncomputable def qS:List SE→List AV
 | []=>[]
 | e::l=>.int e::qS l
theorem Fw {V:Vw} {n:Nat}:∀ {a:Int} {vs:List Value},vs.length = n→(∀ i,i < n→∃ t,vs[i]? = some (.int (a + i) t))→ai W V vs (iW a n):=by
 induction n with
 | zero=>exact fun hl _=>List.eq_nil_of_length_eq_zero hl
 | succ n ih=>
  intro a vs hl h
  obtain ⟨t,ht⟩:=h 0 (Nat.succ_pos _)
  cases vs with
  | nil=>exact ar ht
  | cons v vs=>
   obtain rfl:v = .int (a + (0:Nat)) t:=Option.some.inj ht
   refine .cons (show bL a _ by rw [Int.natCast_zero,Int.add_zero]; exact .mk t) (ih (Nat.succ.inj hl) fun i hi=>?_)
   obtain ⟨t,ht⟩:=h (i + 1) (Nat.succ_lt_succ hi)
   exact ⟨t,by rw [show a + 1 + (i:Int) = a + ((i + 1:Nat):Int) by push_cast; lia]; exact ht⟩
noncomputable def xt:(l:List SE)→Out fun _:Unit=>∀ x∈vals W.ρ l,0≤x∧x < 256
 | []=>.ok () fun _ m=>(List.not_mem_nil m).elim
 | e::l=>au (aH (bK 0 (bu G e true)) (bK (-255) (bu G e false))) 80 fun h=>bd (xt l) fun _ k=>.ok () fun x m=>by
  obtain ⟨h1,h2⟩:=aC h
  have h1:=cF (fun _=>gg hG) h1
  have h2:=cF (fun _=>gh hG) h2
  rcases List.mem_cons.mp m with rfl | m
  ·exact ⟨h1,by lia⟩
  ·exact k x m
variable (W)
noncomputable def bW (n:Nat) (as:List AV) (r:AV):Prop:=∀ A U ad s vs (Q:Value→Shared→Prop) (E:Value→Shared→Prop),A.handled = none→Base W U s.heap→ai W ⟨aF U s.heap,ad⟩ vs as→Got W U ad s r Q→ay W A (call (dE n) vs) Q E s
theorem one {n:Nat} {a r:AV} (h:∀ A U ad s v (Q:Value→Shared→Prop) (E:Value→Shared→Prop),A.handled = none→Base W U s.heap→Rel W ⟨aF U s.heap,ad⟩ v a→Got W U ad s r Q→ay W A (call (dE n) [v]) Q E s):bW W n [a] r:=fun A U ad s vs Q E hh B rl G=>by
 obtain ⟨rv,rl⟩:=rl
 obtain rfl:=rl
 exact h A U ad s _ Q E hh B rv G
variable {W}
set_option tactic.hygienic true in
noncomputable def Fx (a:AV):Out (bW W 0 [a]):=match a with
 | .lst l=>au (Nat.ble l.length 100000) 81 fun hb=>.ok (.int (.lit (Int.ofNat l.length))) (one W fun A U ad s v Q E hh B rv G=>by
   obtain ⟨ho,rl⟩:=rv
   rename_i vs n
   have hl:=rl.length
   have hb:=Nat.le_of_ble_eq_true hb
   exact call_len_list (items:=vs.toArray) ⟨_,ho.1,rfl,n,rfl⟩ (by simp; lia) (G.here _ (by rw [List.size_toArray,hl]; exact .mk _)))
 | .tup l=>au (Nat.ble l.length 100000) 82 fun hb=>.ok (.int (.lit (Int.ofNat l.length))) (one W fun A U ad s v Q E hh B rv G=>by
   obtain ⟨ho,rl⟩:=rv
   rename_i vs n
   have hl:=rl.length
   have hb:=Nat.le_of_ble_eq_true hb
   exact len_tuple (items:=vs.toArray) ⟨_,ho.1,rfl,n,rfl⟩ (by simp; lia) (G.here _ (by rw [List.size_toArray,hl]; exact .mk _)))
 | .bytes l=>au (Nat.ble l.length 100000) 83 fun hb=>.ok (.int (.lit (Int.ofNat l.length))) (one W fun A U ad s v Q E hh B rv G=>by
   obtain ⟨_,hx⟩:=rv
   have hb:=Nat.le_of_ble_eq_true hb
   exact PySem.W.len_bytes (by rw [gn,gm]; lia) (G.here _ (by rw [gn,gm]; exact .mk _)))
 | _=>.no 84
noncomputable def Fy:(as:List AV)→Out (bW W 1 as)
 | [.int n]=>bd (e6 hG n) fun n hn=>au (aH (bt 0 n) (jV 0 n.toNat)) 85 fun hb=>.ok (.rng 0 n.toNat) (one W fun A U ad s v Q E hh B rv G=>by
   obtain ⟨h1,h2⟩:=aC hb
   have h1:=dA h1
   obtain ⟨t⟩:=rv
   rw [hn]
   refine call_range_1 (G _ _ _ (ag.push _ _) (.mk (t:=s.toks) (u:=t) (v:=s.toks + 1) ?_ h2))
   rw [Int.zero_add,Int.toNat_of_nonneg h1]
   exact gW _ rfl rfl B.low)
 | [.int a,.int b]=>bd (e6 hG a) fun a ha=>bd (e6 hG b) fun b hb'=>au (aH (bt a b) (jV a (b - a).toNat)) 86 fun hb=>.ok (.rng a (b - a).toNat) fun A U ad s vs Q E hh B rl G=>by
   obtain ⟨h1,h2⟩:=aC hb
   have h1:=dA h1
   obtain ⟨⟨t⟩,⟨u⟩,rl⟩:=rl
   obtain rfl:=rl
   rw [ha,hb']
   refine call_range_2 (G _ _ _ (ag.push _ _) (.mk (t:=t) (u:=u) (v:=s.toks) ?_ h2))
   rw [show a + (((b - a).toNat:Nat):Int) = b by lia]
   exact gW _ rfl rfl B.low
 | _=>.no 87
noncomputable def Fz (a:AV):Out (bW W 2 [a]):=match a with
 | .int e=>.ok (.int e) (one W fun A U ad s v Q E hh B rv G=>by obtain ⟨t⟩:=rv; exact call_int_int (G.here s.toks (.mk _)))
 | .bool true=>.ok (.int (.lit 1)) (one W fun A U ad s v Q E hh B rv G=>by obtain rfl:=rv; exact call_int_bool (G.here _ (.mk _)))
 | .bool false=>.ok (.int (.lit 0)) (one W fun A U ad s v Q E hh B rv G=>by obtain rfl:=rv; exact call_int_bool (G.here _ (.mk _)))
 | .sb ⟨k,e,true⟩=>.ok (.int (.bit k e)) (one W fun A U ad s v Q E hh B rv G=>by obtain rfl:=rv; exact call_int_bool (G.here _ (.mk _)))
 | _=>.no 88
theorem xu {e r:SE} (h:r.val W.ρ = if e.val W.ρ < 0 then -(e.val W.ρ) else e.val W.ρ):bW W 3 [.int e] (.int r):=one W fun A U ad s v Q E hh B rv G=>by
 obtain ⟨t⟩:=rv
 exact call_abs_int fun u tk=>G.here _ (by rw [← h]; exact .mk _)
noncomputable def FA (a:AV):Out (bW W 3 [a]):=match a with
 | .int e=>di (eQ G ⟨true,smul (-1) e,true⟩) (fun r h=>.ok (.int (cond r e (smul (-1) e))) (xu (by
   have h:decide ((smul (-1) e).val W.ρ≤0) = r:=jQ hG h
   rw [cI] at h
   cases r
   ·have:=of_decide_eq_false h
    rw [if_pos (by lia)]; show (smul (-1) e).val W.ρ = _; rw [cI]; lia
   ·have:=of_decide_eq_true h
    rw [if_neg (by lia)]; rfl))) fun _=>.ok (.int (.abs e)) (xu (by
   show ((e.val W.ρ).natAbs:Int) = _
   split<;>lia))
 | _=>.no 89
set_option tactic.hygienic true in
noncomputable def FC (a:AV):Out (bW W 8 [a]):=match a with
 | .lst l=>au (Nat.ble l.length 10000) 90 fun hb=>.ok (.tup l) (one W fun A U ad s v Q E hh B rv G=>by
   obtain ⟨ho,rl⟩:=rv
   rename_i a vs n
   have hb:=Nat.le_of_ble_eq_true hb
   refine call_tuple_list (items:=vs.toArray) ⟨_,ho.1,rfl,n,rfl⟩ (fun h' k=>?_) (by rw [List.size_toArray,rl.length,sizeLine_eq]; lia)
   have k1:ag s.heap h':=.of k
   have k2:=k1.trans (ag.push h' (jU vs 0))
   exact G _ _ _ k2 (.mk (gW _ rfl rfl (B.keep k1).low) (rl.mono (ag.le k2))))
 | .tup l=>.ok (.tup l) (one W fun A U ad s v Q E hh B rv G=>by
   obtain ⟨ho,rl⟩:=rv
   rename_i vs n
   exact call_tuple_same (items:=vs.toArray) ⟨_,ho.1,rfl,n,rfl⟩ (G.here s.toks (.mk ho rl)))
 | _=>.no 91
noncomputable def FD (a:AV):Out (bW W 9 [a]):=match a with
 | .lst l=>di (qR l) (fun r _=>au (Nat.ble l.length 10000) 92 fun hb=>bd (xt hG r.1) fun _ hx=>.ok (.bytes r.1) (one W fun A U ad s v Q E hh B rv G=>by
   obtain ⟨ho,rl⟩:=rv
   rename_i vs n
   have hb:=Nat.le_of_ble_eq_true hb
   refine call_bytes_ints (vs:=vs) ⟨_,ho.1,rfl,n,rfl⟩ (r.2 _ _ _ rl).are hx (by rw [rl.length,sizeLine_eq]; lia) hh fun h' t k kk=>?_
   rw [Fv]
   exact G _ _ _ (.of kk) (.mk _ hx))) fun _=>.no 93
 | _=>.no 94
noncomputable def kg:List SE→SE
 | []=>.lit 0
 | e::l=>ba e (kg l)
theorem xx (ρ:Nat→Int):∀ l:List SE,(kg l).val ρ = (vals ρ l).sum
 | []=>rfl
 | e::l=>by show (ba e (kg l)).val ρ = _; rw [cX,xx ρ l]; rfl
noncomputable def FG (a:AV):Out (bW W 5 [a]):=match a with
 | .lst l=>di (qR l) (fun r _=>.ok (.int (kg r.1)) (one W fun A U ad s v Q E hh B rv G=>by
   obtain ⟨ho,rl⟩:=rv
   rename_i vs n
   have hi:=(r.2 _ _ _ rl).are
   obtain ⟨xs,hx⟩:=hi.allInts.items
   have hn:=hi.numsOf
   refine sum_intListG hh (xs:=xs) ⟨_,ho.1,rfl,n,by show Data.seq vs.toArray n = _; rw [hx]⟩ fun h' tk t' hk=>?_
   refine G _ h' tk (.of hk) ?_
   have:preSum (numAt xs) xs.size = (kg r.1).val W.ρ:=by
    rw [xx,preSum_eq,List.take_of_length_le (by simp)]
    have h2:=nums_intItems (xs:=xs)
    rw [← hx] at h2
    rw [← h2]
    exact congrArg List.sum hn
   rw [this]; exact .mk _)) fun _=>.no 95
 | _=>.no 96
noncomputable def FH (n:Nat) (as:List AV):Out (bW W n as):=match n,as with
 | 0,[a]=>Fx a
 | 1,as=>Fy hG as
 | 2,[a]=>Fz a
 | 3,[a]=>FA hG a
 | 5,[a]=>FG a
 | 8,[a]=>FC a
 | 9,[a]=>FD hG a
 | _,_=>.no 97
theorem mX {d:Nat} {own:Own} {a:AV} {l:List AV} (h:∀ A,A.handled = none→∀ U ad s v (Q:Value→Shared→Prop) (E:Value→Shared→Prop),Rel W ⟨aF U s.heap,ad⟩ v a→(∀ h' tk vs n,ag s.heap h'→h'.get? s.heap.objs.size = some (bo vs n)→(∀ V:Vw,(⟨aF U s.heap,ad⟩:Vw).Le V→ai W V vs l)→Q (.ref s.heap.objs.size) (mv s h' tk))→ay W A (call (.type "list") [v]) Q E s) (hk:ee W (.type "list")):Tells W d (.type "list") own [a] (.loc own.length) (own ++ [.lst l]):=⟨hk,fun A aA U ad s vs Q E B O rl F=>by
 obtain ⟨rv,rl⟩:=rl
 obtain rfl:=rl
 exact h A aA.handled _ ad s _ Q E rv fun h' tk vs n k ho hv=>F _ h' tk _ (O.alloc B.G B.low k (da _) ho rfl fun V le _=>.mk (hv V le)) O.qB⟩
noncomputable def FI (d:Nat) (own:Own) (a:AV):Option { l:List AV // ee W (.type "list")→Tells W d (.type "list") own [a] (.loc own.length) (own ++ [.lst l]) }:=match a with
 | .lst l=>(match h:Nat.ble l.length 10000 with
  | true=>some ⟨l,mX fun A hh U ad s v Q E rv k=>by
   obtain ⟨ho,rl⟩:=rv
   have hb:=Nat.le_of_ble_eq_true h
   exact call_list_seq _ (.inl rfl) ho.1 rfl rfl (fun h' c' kk hd=>k h' _ _ c' (.of kk) hd fun V le=>rl.mono le) (by rw [List.size_toArray,rl.length,sizeLine_eq]; lia)⟩
  | false=>none)
 | .tup l=>(match h:Nat.ble l.length 10000 with
  | true=>some ⟨l,mX fun A hh U ad s v Q E rv k=>by
   obtain ⟨ho,rl⟩:=rv
   have hb:=Nat.le_of_ble_eq_true h
   exact call_list_seq _ (.inr rfl) ho.1 rfl rfl (fun h' c' kk hd=>k h' _ _ c' (.of kk) hd fun V le=>rl.mono le) (by rw [List.size_toArray,rl.length,sizeLine_eq]; lia)⟩
  | false=>none)
 | .rng b n=>some ⟨iW b n,mX fun A hh U ad s v Q E rv k=>by
   obtain ⟨ho,hn⟩:=rv
   obtain ⟨small,size⟩:=(qQ hn).2
   refine call_list_range hh ho.1 small size (by have:=(qQ hn).1; lia) fun h' tk acc' c' kk hd hi=>k h' tk acc'.toList c' (.of kk) (by rw [hd]; simp [bo]) fun V le=>?_
   obtain ⟨h1,h2⟩:=hi
   refine Fw (by simpa using h1) fun i hi=>?_
   obtain ⟨v,hv⟩:∃ v,acc'[i]? = some v:=⟨_,Array.getElem?_eq_getElem (by rw [h1]; exact hi)⟩
   obtain ⟨t,rfl⟩:=h2 i v hv
   rw [Int.mul_one] at hv
   exact ⟨t,by simpa using hv⟩⟩
 | .bytes l=>(match h:Nat.ble l.length 10000 with
  | true=>some ⟨qS l,mX fun A hh U ad s v Q E rv k=>by
   obtain ⟨t,hx⟩:=rv
   have hb:=Nat.le_of_ble_eq_true h
   have e3:=gm W.ρ l
   refine Fu hh (bO (vals W.ρ l)) t (by rw [gn,sizeLine_eq]; lia) fun h' tk acc n kk ho hi=>k h' tk acc.toList n (.of kk) (by rw [ho]; simp [bo]) fun V le=>?_
   obtain ⟨h1,h2⟩:=hi
   rw [gn] at h1
   have go:∀ (m:List SE) (vs:List Value),vs.length = m.length→(∀ (i:Nat) (e:SE),m[i]? = some e→∃ t,vs[i]? = some (Value.int (e.val W.ρ) t))→ai W V vs (qS m):=by
    intro m
    induction m with
    | nil=>intro vs e _; exact List.length_eq_zero_iff.mp e
    | cons e m ih=>
     intro vs hl hv
     cases vs with
     | nil=>cases hl
     | cons v vs=>
      obtain ⟨t,ht⟩:=hv 0 e rfl
      obtain rfl:=Option.some.inj ht
      exact .cons (show bL _ _ from .mk t) (ih vs (Nat.succ.inj hl) fun i e he=>hv (i + 1) e he)
   refine go l acc.toList (by simpa using h1.trans e3) fun i e he=>?_
   obtain ⟨g1,g2⟩:=qO (ρ:=W.ρ) he
   obtain ⟨v,hv⟩:∃ v,acc[i]? = some v:=⟨_,Array.getElem?_eq_getElem (by lia)⟩
   obtain ⟨b,u,ho,rfl⟩:=h2 i v hv
   refine ⟨u,?_⟩
   have q:=xo hx (n:=i) (by lia)
   rw [g1,List.getD_eq_getElem?_getD,show ((vals W.ρ l).map fun x=>UInt8.ofNat x.toNat)[i]? = some b by unfold bO at ho; simpa using ho] at q
   rw [← q]; simpa using hv⟩
  | false=>none)
 | _=>none
end
end Mine
end
section
set_option backward.match.sparseCases false
open PySem PySem.W PyProof.Rows PySem.Calls
open Builtin Builtin.Str
set_option maxRecDepth 100000
namespace Mine
noncomputable def mY:Str:=⟨#[115,112,108,105,116]⟩
noncomputable def qT:Str:=⟨#[108,115,116,114,105,112]⟩
noncomputable def qU:Str:=⟨#[105,110,100,101,120]⟩
theorem xy:mY = ("split":Str):=by decide +kernel
theorem FJ:qT = ("lstrip":Str):=by decide +kernel
theorem FK:qU = ("index":Str):=by decide +kernel
section
variable {prog:Program} {w:World} {A:Around} {E:Value→Shared→Prop} {s:Shared} {x:Str} {t:Tok} {Q:Value→Shared→Prop}
theorem FL (hw:(spaceWords x (x.length + 1) == [(0,x.length)]) = false) (h:∀ (l:List (Str×Tok)) k,l.map (·.1) = PySem.wordsOf x→Q (.ref s.heap.objs.size) { s with heap:=s.heap.push (bo (strValues l) 0),toks:=k })
  (hsz:x.length≤sizeLine) (hsz2:(spaceWords x (x.length + 1)).length≤sizeLine):wpAny (model prog w) A (call (.builtin "str.split") [.str x t]) Q E s:=by
 refine call_meets F.slot_str_split (typeIs_str _ _ _) F.entry_str_split (F.args_str_split_1 _) (meets_str_split_space x t hsz hsz2) ?_
 rw [hw]
 simp only [Bool.false_eq_true,if_false]
 rw [strsFrom_eq]
 exact h (numbered s.toks (PySem.wordsOf x)) _ (numbered_texts _ _)
theorem FN {y:Str} {u:Tok} (h1:(decide (x.length < y.length) || decide (strKind x < strKind y)) = false) (hf:(occurrences x y 0 x.length (x.length + 1)).isEmpty = false) (hy:(y.length == 0) = false)
  (hq:∀ (l:List (Str×Tok)) k,l.map (·.1) = partsBetween x (occurrences x y 0 x.length (x.length + 1)) y.length→Q (.ref s.heap.objs.size) { s with heap:=s.heap.push (bo (strValues l) 0),toks:=k })
  (hsz:x.length≤sizeLine) (hsz2:(partsBetween x (occurrences x y 0 x.length (x.length + 1)) y.length).length≤sizeLine):wpAny (model prog w) A (call (.builtin "str.split") [.str x t,.str y u]) Q E s:=by
 refine call_meets F.slot_str_split (typeIs_str _ _ _) F.entry_str_split (F.args_str_split_2 _ _) (meets_str_split_sep x y t u h1 hy hf hsz hsz2) ?_
 show wants Q E _ { s with toks:=_,heap:=s.heap.push { cls:=.type "list",data:=.seq (strsFrom s.toks (partsBetween x (occurrences x y 0 x.length (x.length + 1)) y.length)).toArray } }
 rw [strsFrom_eq]
 exact hq (numbered s.toks _) _ (numbered_texts _ _)
end
noncomputable section
inductive SM where
 | split0 (x:Str) (l:List Str)
 | split1 (x y:Str) (l:List Str)
 | lstrip (x y z:Str)
 | index (x y:Str) (i:Nat)
noncomputable def xA:List SM:=[.split0 ⟨#[114,97,120,32,114,99,120,32,114,100,120,32,114,98,120,32,114,115,112,32,114,98,112,32,114,115,105,32,114,100,105]⟩ [⟨#[114,97,120]⟩,⟨#[114,99,120]⟩,⟨#[114,100,120]⟩,⟨#[114,98,120]⟩,⟨#[114,115,112]⟩,⟨#[114,98,112]⟩,⟨#[114,115,105]⟩,⟨#[114,100,105]⟩],
 .split0 ⟨#[101,97,120,32,101,99,120,32,101,100,120,32,101,98,120,32,101,115,112,32,101,98,112,32,101,115,105,32,101,100,105]⟩ [⟨#[101,97,120]⟩,⟨#[101,99,120]⟩,⟨#[101,100,120]⟩,⟨#[101,98,120]⟩,⟨#[101,115,112]⟩,⟨#[101,98,112]⟩,⟨#[101,115,105]⟩,⟨#[101,100,105]⟩],
 .split1 ⟨#[49,32,50,32,52,32,56]⟩ ⟨#[32]⟩ [⟨#[49]⟩,⟨#[50]⟩,⟨#[52]⟩,⟨#[56]⟩],
 .split1 ⟨#[48,32,56,32,49,54,32,51,50,32,54,52,32,49,50,56]⟩ ⟨#[32]⟩ [⟨#[48]⟩,⟨#[56]⟩,⟨#[49,54]⟩,⟨#[51,50]⟩,⟨#[54,52]⟩,⟨#[49,50,56]⟩],
 .split1 ⟨#[111,32,110,111,32,98,32,97,101,32,101,32,110,101,32,98,101,32,97,32,115,32,110,115,32,112,32,110,112,32,108,32,103,101,32,108,101,32,103]⟩ ⟨#[32]⟩ [⟨#[111]⟩,⟨#[110,111]⟩,⟨#[98]⟩,⟨#[97,101]⟩,⟨#[101]⟩,⟨#[110,101]⟩,⟨#[98,101]⟩,⟨#[97]⟩,⟨#[115]⟩,⟨#[110,115]⟩,⟨#[112]⟩,⟨#[110,112]⟩,⟨#[108]⟩,⟨#[103,101]⟩,⟨#[108,101]⟩,⟨#[103]⟩],
 .lstrip ⟨#[114,109,56]⟩ ⟨#[114,109,111,120]⟩ ⟨#[56]⟩,
 .lstrip ⟨#[114,56]⟩ ⟨#[114,109,111,120]⟩ ⟨#[56]⟩,
 .lstrip ⟨#[114,109,49,54]⟩ ⟨#[114,109,111,120]⟩ ⟨#[49,54]⟩,
 .lstrip ⟨#[114,49,54]⟩ ⟨#[114,109,111,120]⟩ ⟨#[49,54]⟩,
 .lstrip ⟨#[114,109,51,50]⟩ ⟨#[114,109,111,120]⟩ ⟨#[51,50]⟩,
 .lstrip ⟨#[114,51,50]⟩ ⟨#[114,109,111,120]⟩ ⟨#[51,50]⟩,
 .lstrip ⟨#[114,109,54,52]⟩ ⟨#[114,109,111,120]⟩ ⟨#[54,52]⟩,
 .lstrip ⟨#[114,54,52]⟩ ⟨#[114,109,111,120]⟩ ⟨#[54,52]⟩,
 .lstrip ⟨#[111,56]⟩ ⟨#[114,109,111,120]⟩ ⟨#[56]⟩,
 .lstrip ⟨#[111,49,54]⟩ ⟨#[114,109,111,120]⟩ ⟨#[49,54]⟩,
 .lstrip ⟨#[111,51,50]⟩ ⟨#[114,109,111,120]⟩ ⟨#[51,50]⟩,
 .lstrip ⟨#[111,54,52]⟩ ⟨#[114,109,111,120]⟩ ⟨#[54,52]⟩,
 .index ⟨#[105,109,109,56]⟩ ⟨#[105,109,109]⟩ 0,
 .index ⟨#[105,109,109,49,54]⟩ ⟨#[105,109,109]⟩ 0,
 .index ⟨#[105,109,109,51,50]⟩ ⟨#[105,109,109]⟩ 0,
 .index ⟨#[115,105,109,109,51,50]⟩ ⟨#[105,109,109]⟩ 1,
 .index ⟨#[105,109,109,54,52]⟩ ⟨#[105,109,109]⟩ 0,
 .index ⟨#[117,105,109,109,49,54]⟩ ⟨#[105,109,109]⟩ 1]
noncomputable def xB:List (Str×Int):=[(⟨#[56]⟩,8),(⟨#[49,54]⟩,16),(⟨#[51,50]⟩,32),(⟨#[54,52]⟩,64)]
noncomputable def xC:List (Int×Str):=[(1,⟨#[49]⟩),(2,⟨#[50]⟩),(4,⟨#[52]⟩),(8,⟨#[56]⟩),(0,⟨#[48]⟩),(16,⟨#[49,54]⟩),(32,⟨#[51,50]⟩),(64,⟨#[54,52]⟩),(128,⟨#[49,50,56]⟩),(9,⟨#[57]⟩),(10,⟨#[49,48]⟩),(11,⟨#[49,49]⟩),(12,⟨#[49,50]⟩),(13,⟨#[49,51]⟩),(14,⟨#[49,52]⟩),(15,⟨#[49,53]⟩)]
section
variable {W:ab}
theorem FO (n:String):ee W (.type n):=fun _ _=>⟨.machine,.inr (.inl rfl),Looks.of_pure rfl⟩
noncomputable def iX:List Str→List AV
 | []=>[]
 | x::l=>.str x::iX l
theorem xE {V:Vw}:∀ {l:List (Str×Tok)} {r:List Str},l.map (·.1) = r→ai W V (strValues l) (iX r)
 | [],_,e=>e▸rfl
 | (x,t)::l,_,e=>e▸.cons (show mG x _ from .mk t) (xE rfl)
noncomputable def SM.x:SM→Str
 | .split0 x _ | .split1 x _ _ | .lstrip x _ _ | .index x _ _=>x
noncomputable def SM.m:SM→Str
 | .split0 _ _ | .split1 _ _ _=>mY
 | .lstrip _ _ _=>qT
 | .index _ _ _=>qU
noncomputable def SM.y:SM→List Str
 | .split0 _ _=>[]
 | .split1 _ y _ | .lstrip _ y _ | .index _ y _=>[y]
noncomputable def SM.r:SM→AV
 | .split0 _ l | .split1 _ _ l=>.lst (iX l)
 | .lstrip _ _ z=>.str z
 | .index _ _ i=>.int (.lit i)
noncomputable def SM.ok:SM→Bool
 | .split0 x l=>decide ((spaceWords x (x.length + 1) == [(0,x.length)]) = false∧PySem.wordsOf x = l∧x.length≤16777216∧(spaceWords x (x.length + 1)).length≤16777216)
 | .split1 x y l=>decide ((decide (x.length < y.length) || decide (strKind x < strKind y)) = false∧(occurrences x y 0 x.length (x.length + 1)).isEmpty = false∧(y.length == 0) = false∧partsBetween x (occurrences x y 0 x.length (x.length + 1)) y.length = l∧x.length≤16777216∧l.length≤16777216)
 | .lstrip x y z=>decide (Txt.lstripChars x y = z∧x.length≤16777216)
 | .index x y i=>decide (occurrences x y 0 x.length 1 = [i])
theorem FP:xA.all SM.ok = true:=by decide +kernel
theorem xF {U:AS} {ad:List Addr} {s:Shared} {l:List (Str×Tok)} {r:List Str} {k:Tok} {Q:Value→Shared→Prop} (B:Base W U s.heap) (G:Got W U ad s (.lst (iX r)) Q) (e:l.map (·.1) = r):Q (.ref s.heap.objs.size) { s with heap:=s.heap.push (bo (strValues l) 0),toks:=k }:=
 G _ _ k (.push _ _) (.mk (gW _ rfl rfl B.low) (xE e))
variable {d:Nat} {own own1:Own}
theorem FQ:∀ e:SM,e.ok = true→cz W d own (.str e.x) e.m own1 (iX e.y) e.r own1
 | .split0 x l=>fun h A a U ad s v pl Q E B O rv k=>by
  obtain ⟨h1,h2,h3,h4⟩:=of_decide_eq_true h
  obtain ⟨_⟩:=rv
  show ay W A (getMethod _ mY pl) Q E s
  rw [xy]
  refine GM.split (k _ _ s.toks (fG _) fun s' ad' vs Q' E' kk B' rl F=>?_)
  obtain rfl:=rl
  exact FL h1 (fun l' k' hl'=>xF (B'.more kk.owns) (F.got kk.owns rfl) (hl'.trans h2)) (by rw [sizeLine_eq]; exact h3) (by rw [sizeLine_eq]; exact h4)
 | .split1 x y l=>fun h A a U ad s v pl Q E B O rv k=>by
  obtain ⟨h1,h2,h3,h4,h5,h6⟩:=of_decide_eq_true h
  obtain ⟨_⟩:=rv
  show ay W A (getMethod _ mY pl) Q E s
  rw [xy]
  refine GM.split (k _ _ s.toks (fG _) fun s' ad' vs Q' E' kk B' rl F=>?_)
  obtain ⟨⟨_⟩,rl⟩:=rl
  obtain rfl:=rl
  exact FN h1 h2 h3 (fun l' k' hl'=>xF (B'.more kk.owns) (F.got kk.owns rfl) (hl'.trans h4)) (by rw [sizeLine_eq]; exact h5) (by rw [sizeLine_eq]; exact Nat.le_trans (Nat.le_of_eq (congrArg List.length h4)) h6)
 | .lstrip x y z=>fun h A a U ad s v pl Q E B O rv k=>by
  obtain ⟨h1,h2⟩:=of_decide_eq_true h
  obtain ⟨_⟩:=rv
  show ay W A (getMethod _ qT pl) Q E s
  rw [FJ]
  refine GM.lstrip (k _ _ s.toks (fG _) fun s' ad' vs Q' E' kk B' rl F=>?_)
  obtain ⟨⟨_⟩,rl⟩:=rl
  obtain rfl:=rl
  exact SC.lstripChars (fun t' k'=>(F.got kk.owns rfl).here k' (h1▸.mk _)) (by rw [sizeLine_eq]; exact h2)
 | .index x y i=>fun h A a U ad s v pl Q E B O rv k=>by
  have h:=of_decide_eq_true h
  obtain ⟨_⟩:=rv
  show ay W A (getMethod _ qU pl) Q E s
  rw [FK]
  refine GM.index (k _ _ s.toks (fG _) fun s' ad' vs Q' E' kk B' rl F=>?_)
  obtain ⟨⟨_⟩,rl⟩:=rl
  obtain rfl:=rl
  exact SC.index h ((F.got kk.owns rfl).here _ (.mk _))
noncomputable def xG:(l:List AV)→(m:List Str)→Option (PLift (l = iX m))
 | [],[]=>some ⟨rfl⟩
 | .str x::l,y::m=>aG (sEq x y) (fun h=>match xG l m with
  | some ⟨q⟩=>some ⟨by rw [q,sEq_iff.mp h]; rfl⟩
  | none=>none) fun _=>none
 | _,_=>none
noncomputable def qV (d:Nat) (own own1:Own) (x m:Str) (as:List AV):(l:List SM)→l.all SM.ok = true→Out fun r:AV=>cz W d own (.str x) m own1 as r own1
 | [],_=>.no 100
 | e::l,h=>aG (aH (sEq e.x x) (sEq e.m m)) (fun q=>match xG as e.y with
  | some ⟨z⟩=>.ok e.r (by
   obtain ⟨q1,q2⟩:=aC q
   rw [← sEq_iff.mp q1,← sEq_iff.mp q2,z]
   exact FQ e (Bool.and_eq_true_iff.mp h).1)
  | none=>qV d own own1 x m as l (Bool.and_eq_true_iff.mp h).2) fun _=>qV d own own1 x m as l (Bool.and_eq_true_iff.mp h).2
theorem FU:(xB.all fun e=>decide (PySem.intText? e.1 = some e.2∧e.1.length≤640)) = true:=by decide +kernel
theorem FV:(xC.all fun e=>decide ((toString e.1:Str) = e.2∧e.1.natAbs.log2 < 1920)) = true:=by decide +kernel
noncomputable def xH (i:Int):(l:List (Int×Str))→Option { x:Str // (i,x)∈l }
 | []=>none
 | (j,x)::l=>aG (bg i j) (fun h=>some ⟨x,dP h▸.head _⟩) fun _=>(match xH i l with
  | some ⟨y,h⟩=>some ⟨y,.tail _ h⟩
  | none=>none)
variable {G:Facts} (hG:Sat W.ρ G)
noncomputable def FW (n:Nat) (as:List AV):Out (bW W n as):=match n,as with
 | 2,[.str x]=>bH (lk x xB) 101 fun i h=>.ok (.int (.lit i)) (one W fun A U ad s v Q E hh B rv G=>by
   obtain ⟨_⟩:=rv
   obtain ⟨h1,h2⟩:=of_decide_eq_true (List.all_eq_true.mp FU _ (fC h))
   exact KIN.call_text h1 h2 (G.here _ (.mk _)))
 | 4,[.int e]=>bd (e6 hG e) fun i hi=>(match xH i xC with
  | some ⟨x,h⟩=>.ok (.str x) (one W fun A U ad s v Q E hh B rv G=>by
   obtain ⟨_⟩:=rv
   rw [hi]
   obtain ⟨h1,h2⟩:=of_decide_eq_true (List.all_eq_true.mp FV _ h)
   exact PySem.P.str_of_int h2 (G.here _ (h1▸.mk _)))
  | none=>.no 102)
 | n,as=>FH hG n as
end
end
end Mine
end
section
set_option backward.match.sparseCases false
open PySem PySem.W PyProof.Rows PySem.Calls
set_option maxRecDepth 100000
namespace Mine
section
noncomputable def mZ:List (Str×Value):=[
(⟨#[95,119,97,108,108]⟩,(.ref 21)),
 (⟨#[77,105,110,116,69,114,114,111,114]⟩,(.ref 46)),
 (⟨#[79,112,101,114,97,110,100,69,114,114,111,114]⟩,(.ref 59)),
 (⟨#[69,110,99,111,100,101,69,114,114,111,114]⟩,(.ref 71)),
 (⟨#[109,97,115,107]⟩,(.ref 80)),
 (⟨#[119,114,97,112]⟩,(.ref 87)),
 (⟨#[115,105,103,110,101,100]⟩,(.ref 94)),
 (⟨#[102,105,116,115,95,115,105,103,110,101,100]⟩,(.ref 101)),
 (⟨#[102,105,116,115,95,117,110,115,105,103,110,101,100]⟩,(.ref 108)),
 (⟨#[102,105,116,115,95,101,105,116,104,101,114]⟩,(.ref 115)),
 (⟨#[108,105,116,116,108,101]⟩,(.ref 122)),
 (⟨#[67,79,78,68,73,84,73,79,78,83]⟩,(.str ⟨#[111,32,110,111,32,98,32,97,101,32,101,32,110,101,32,98,101,32,97,32,115,32,110,115,32,112,32,110,112,32,108,32,103,101,32,108,101,32,103]⟩ 328)),
 (⟨#[76,79,67,75,69,68]⟩,(.str ⟨#[97,100,100,32,97,100,99,32,97,110,100,32,111,114,32,115,98,98,32,115,117,98,32,120,111,114,32,105,110,99,32,100,101,99,32,110,101,103,32,110,111,116,32,120,99,104,103,32,120,97,100,100,32,99,109,112,120,99,104,103,32,98,116,115,32,98,116,114,32,98,116,99]⟩ 330)),
 (⟨#[77,79,86,69,68]⟩,(.str ⟨#[109,111,118,115,98,32,109,111,118,115,119,32,109,111,118,115,100,32,109,111,118,115,113,32,115,116,111,115,98,32,115,116,111,115,119,32,115,116,111,115,100,32,115,116,111,115,113,32,108,111,100,115,98,32,108,111,100,115,119,32,108,111,100,115,100,32,108,111,100,115,113]⟩ 332)),
 (⟨#[67,79,77,80,65,82,69,68]⟩,(.str ⟨#[99,109,112,115,98,32,99,109,112,115,119,32,99,109,112,115,100,32,99,109,112,115,113,32,115,99,97,115,98,32,115,99,97,115,119,32,115,99,97,115,100,32,115,99,97,115,113]⟩ 334)),
 (⟨#[99,111,110,100,105,116,105,111,110,95,110,97,109,101,115]⟩,(.ref 129)),
 (⟨#[105,115,95,102,105,120,101,100]⟩,(.ref 136)),
 (⟨#[105,115,95,105,109,109,101,100,105,97,116,101]⟩,(.ref 143)),
 (⟨#[105,115,95,114,101,108,97,116,105,118,101]⟩,(.ref 150)),
 (⟨#[116,97,107,101,115,95,109,101,109,111,114,121]⟩,(.ref 157)),
 (⟨#[107,105,110,100,95,115,105,122,101]⟩,(.ref 164)),
 (⟨#[107,105,110,100,95,119,105,100,116,104]⟩,(.ref 171)),
 (⟨#[115,108,111,116,95,111,102]⟩,(.ref 178)),
 (⟨#[116,97,107,101,115,95,114,101,103,105,115,116,101,114]⟩,(.ref 185)),
 (⟨#[116,97,107,101,115,95,119,111,114,116,104]⟩,(.ref 192)),
 (⟨#[116,97,107,101,115,95,100,105,115,116,97,110,99,101]⟩,(.ref 199)),
 (⟨#[116,97,107,101,115]⟩,(.ref 206)),
 (⟨#[70,111,114,109]⟩,(.ref 264)),
 (⟨#[109,97,116,99,104,101,115]⟩,(.ref 275)),
 (⟨#[99,97,110,95,108,111,99,107]⟩,(.ref 282)),
 (⟨#[114,101,112,101,97,116,115]⟩,(.ref 289)),
 (⟨#[77,69,77,79,82,89,95,83,73,90,69,83]⟩,(.str ⟨#[48,32,56,32,49,54,32,51,50,32,54,52,32,49,50,56]⟩ 535)),
 (⟨#[83,67,65,76,69,83]⟩,(.str ⟨#[49,32,50,32,52,32,56]⟩ 537)),
 (⟨#[79,112,101,114,97,110,100]⟩,(.ref 327)),
 (⟨#[82,101,103]⟩,(.ref 362)),
 (⟨#[73,109,109]⟩,(.ref 396)),
 (⟨#[82,101,108]⟩,(.ref 437)),
 (⟨#[77,101,109]⟩,(.ref 490)),
 (⟨#[73,110,115,116,114,117,99,116,105,111,110]⟩,(.ref 541)),
 (⟨#[105,115,95,97,100,100,114,101,115,115,95,114,101,103,105,115,116,101,114]⟩,(.ref 552)),
 (⟨#[99,104,101,99,107,95,98,97,115,101]⟩,(.ref 559)),
 (⟨#[99,104,101,99,107,95,105,110,100,101,120]⟩,(.ref 566)),
 (⟨#[99,104,101,99,107,95,109,101,109]⟩,(.ref 573)),
 (⟨#[78,79,95,73,78,68,69,88]⟩,(.int (4) 898)),
 (⟨#[78,79,95,66,65,83,69]⟩,(.int (5) 900)),
 (⟨#[87,73,84,72,95,83,73,66]⟩,(.int (4) 902)),
 (⟨#[70,82,79,77,95,82,73,80]⟩,(.int (5) 904)),
 (⟨#[112,97,99,107,95,116,104,114,101,101]⟩,(.ref 580)),
 (⟨#[117,110,112,97,99,107,95,116,104,114,101,101]⟩,(.ref 587)),
 (⟨#[112,97,99,107,95,109,111,100,114,109]⟩,(.ref 594)),
 (⟨#[112,97,99,107,95,115,105,98]⟩,(.ref 601)),
 (⟨#[117,110,112,97,99,107,95,115,105,98]⟩,(.ref 608)),
 (⟨#[115,104,105,102,116,95,111,102]⟩,(.ref 615)),
 (⟨#[83,104,97,112,101]⟩,(.ref 660)),
 (⟨#[114,101,103,105,115,116,101,114,95,115,104,97,112,101]⟩,(.ref 671)),
 (⟨#[109,111,100,95,111,102]⟩,(.ref 678)),
 (⟨#[119,105,100,116,104,115,95,102,111,114]⟩,(.ref 685)),
 (⟨#[115,105,98,95,102,111,114]⟩,(.ref 692)),
 (⟨#[110,101,101,100,115,95,115,105,98]⟩,(.ref 699)),
 (⟨#[101,120,116,101,110,100,101,100,95,98,105,116]⟩,(.ref 706)),
 (⟨#[98,97,115,101,100,95,115,104,97,112,101,115]⟩,(.ref 713)),
 (⟨#[104,97,115,95,110,101,101,100,108,101,115,115,95,115,105,98]⟩,(.ref 720)),
 (⟨#[109,101,109,111,114,121,95,115,104,97,112,101,115]⟩,(.ref 727)),
 (⟨#[108,97,121]⟩,(.ref 734)),
 (⟨#[70,83]⟩,(.int (100) 1108)),
 (⟨#[71,83]⟩,(.int (101) 1110)),
 (⟨#[68,65,84,65]⟩,(.int (102) 1112)),
 (⟨#[82,69,80,78,69]⟩,(.int (242) 1114)),
 (⟨#[82,69,80]⟩,(.int (243) 1116)),
 (⟨#[76,79,67,75]⟩,(.int (240) 1118)),
 (⟨#[82,69,88]⟩,(.int (64) 1120)),
 (⟨#[114,101,120,95,111,99,116,101,116]⟩,(.ref 741)),
 (⟨#[114,101,120,95,98,105,116,115]⟩,(.ref 748)),
 (⟨#[105,115,95,114,101,120]⟩,(.ref 755)),
 (⟨#[115,101,103,109,101,110,116,95,111,99,116,101,116]⟩,(.ref 762)),
 (⟨#[80,114,101,102,105,120,101,115]⟩,(.ref 815)),
 (⟨#[70,105,120,117,112]⟩,(.ref 850)),
 (⟨#[69,110,99,111,100,105,110,103]⟩,(.ref 883)),
 (⟨#[111,112,101,114,97,110,100,95,105,110]⟩,(.ref 894)),
 (⟨#[115,104,97,112,101,115,95,111,102]⟩,(.ref 901)),
 (⟨#[115,104,97,112,101,115,95,102,111,114]⟩,(.ref 908)),
 (⟨#[105,115,95,101,120,116,101,110,100,101,100]⟩,(.ref 915)),
 (⟨#[114,101,120,95,102,111,114]⟩,(.ref 922)),
 (⟨#[114,101,112,101,97,116,95,102,111,114]⟩,(.ref 929)),
 (⟨#[108,111,99,107,115]⟩,(.ref 936)),
 (⟨#[119,97,121,95,111,102]⟩,(.ref 943)),
 (⟨#[109,111,100,114,109,95,112,97,114,116]⟩,(.ref 950)),
 (⟨#[110,101,101,100,95,115,104,97,112,101]⟩,(.ref 955)),
 (⟨#[110,101,101,100,95,110,111,95,110,111,112]⟩,(.ref 962)),
 (⟨#[101,110,99,111,100,101]⟩,(.ref 970)),
 (⟨#[115,105,122,101,115,95,111,102,95,109,101,109,111,114,121]⟩,(.ref 977)),
 (⟨#[102,111,114,109,115,95,102,111,114]⟩,(.ref 982)),
 (⟨#[116,114,105,101,100]⟩,(.ref 989)),
 (⟨#[110,101,101,100,95,111,110,101]⟩,(.ref 996)),
 (⟨#[101,110,99,111,100,105,110,103,115]⟩,(.ref 1001)),
 (⟨#[102,105,108,108,101,100]⟩,(.ref 1009)),
 (⟨#[102,105,101,108,100,95,119,111,114,116,104]⟩,(.ref 1016)),
 (⟨#[106,117,109,112,95,102,111,114,109,115]⟩,(.ref 1023)),
 (⟨#[99,97,108,108,95,102,111,114,109,115]⟩,(.ref 1030)),
 (⟨#[108,111,111,112,95,102,111,114,109,115]⟩,(.ref 1037)),
 (⟨#[99,111,100,101,115,95,111,102]⟩,(.ref 1042)),
 (⟨#[73,110,115,116,114,117,99,116,105,111,110,83,101,116]⟩,(.ref 1113)),
 (⟨#[115,105,122,101,100,95,102,111,114,109,115]⟩,(.ref 1125)),
 (⟨#[98,111,116,104,95,119,97,121,115]⟩,(.ref 1132)),
 (⟨#[109,111,118,95,102,111,114,109,115]⟩,(.ref 1139)),
 (⟨#[78,65,77,69,83,95,56]⟩,(.str ⟨#[97,108,32,99,108,32,100,108,32,98,108,32,115,112,108,32,98,112,108,32,115,105,108,32,100,105,108]⟩ 1694)),
 (⟨#[78,65,77,69,83,95,49,54]⟩,(.str ⟨#[97,120,32,99,120,32,100,120,32,98,120,32,115,112,32,98,112,32,115,105,32,100,105]⟩ 1696)),
 (⟨#[78,65,77,69,83,95,51,50]⟩,(.str ⟨#[101,97,120,32,101,99,120,32,101,100,120,32,101,98,120,32,101,115,112,32,101,98,112,32,101,115,105,32,101,100,105]⟩ 1698)),
 (⟨#[78,65,77,69,83,95,54,52]⟩,(.str ⟨#[114,97,120,32,114,99,120,32,114,100,120,32,114,98,120,32,114,115,112,32,114,98,112,32,114,115,105,32,114,100,105]⟩ 1700)),
 (⟨#[82,101,103,105,115,116,101,114]⟩,(.ref 1191)),
 (⟨#[101,97,114,108,121,95,110,97,109,101,115]⟩,(.ref 1202)),
 (⟨#[108,97,116,101,95,101,110,100,105,110,103]⟩,(.ref 1209)),
 (⟨#[103,112,114]⟩,(.ref 1216)),
 (⟨#[114,105,112]⟩,(.ref 1223)),
 (⟨#[95,108,97,119,95,109,101,109,111,114,121]⟩,(.ref 1230)),
 (⟨#[95,108,97,119,95,106,117,109,112]⟩,(.ref 1237)),
 (⟨#[95,108,97,119,95,108,105,110,101]⟩,(.ref 1244)),
 (⟨#[95,108,97,119,95,119,105,115,104]⟩,(.ref 1251)),
 (⟨#[95,108,97,119,95,98,101,97,114,115]⟩,(.ref 1258)),
 (⟨#[95,108,97,119,95,114,101,97,100]⟩,(.ref 1263)),
 (⟨#[95,108,97,119,95,102,105,101,108,100,115,95,114,105,103,104,116]⟩,(.ref 1268)),
 (⟨#[95,108,97,119,95,112,117,116]⟩,(.ref 1275)),
 (⟨#[95,108,97,119,95,112,108,97,105,110,95,108,105,110,101]⟩,(.ref 1282)),
 (⟨#[95,108,97,119,95,102,105,108,108,101,100,95,114,105,103,104,116]⟩,(.ref 1289)),
 (⟨#[108,97,119]⟩,(.ref 1294))]
noncomputable def iY:List (Str×Nat):=[(⟨#[108,101,110]⟩,0),(⟨#[114,97,110,103,101]⟩,1),(⟨#[105,110,116]⟩,2),(⟨#[97,98,115]⟩,3),(⟨#[115,116,114]⟩,4),(⟨#[115,117,109]⟩,5),(⟨#[115,111,114,116,101,100]⟩,6),(⟨#[108,105,115,116]⟩,7),(⟨#[116,117,112,108,101]⟩,8),(⟨#[98,121,116,101,115]⟩,9),(⟨#[105,115,105,110,115,116,97,110,99,101]⟩,10),(⟨#[122,105,112]⟩,11),(⟨#[101,110,117,109,101,114,97,116,101]⟩,12)]
noncomputable def hJ:List (Addr×List (Str×Addr)):=[(264,[(⟨#[115,108,111,116,115]⟩,233),(⟨#[104,97,115,95,112,108,117,115]⟩,247)]),
 (1191,[(⟨#[99,111,100,101]⟩,1160),(⟨#[105,115,95,101,120,116,101,110,100,101,100]⟩,1167),(⟨#[110,101,101,100,115,95,114,101,120]⟩,1181),(⟨#[116,111,108,100]⟩,1188)]),
 (490,[(⟨#[105,115,95,114,105,112]⟩,480)]),
 (660,[(⟨#[116,111,108,100]⟩,636),(⟨#[108,101,110,103,116,104]⟩,657)]),
 (815,[(⟨#[111,99,116,101,116,115]⟩,812)]),
 (1113,[(⟨#[102,105,110,100]⟩,1068)])]
noncomputable def ef:List (Addr×List Str):=[(1191,[⟨#[110,97,109,101]⟩,⟨#[107,105,110,100]⟩,⟨#[110,117,109,98,101,114]⟩,⟨#[115,105,122,101]⟩]),
 (362,[⟨#[107,105,110,100]⟩,⟨#[114,101,103,105,115,116,101,114]⟩]),
 (396,[⟨#[107,105,110,100]⟩,⟨#[119,111,114,116,104]⟩,⟨#[110,97,109,101]⟩]),
 (437,[⟨#[107,105,110,100]⟩,⟨#[119,111,114,116,104]⟩,⟨#[110,97,109,101]⟩]),
 (490,[⟨#[107,105,110,100]⟩,⟨#[98,97,115,101]⟩,⟨#[105,110,100,101,120]⟩,⟨#[115,99,97,108,101]⟩,⟨#[119,111,114,116,104]⟩,⟨#[115,105,122,101]⟩,⟨#[115,101,103,109,101,110,116]⟩,⟨#[110,97,109,101]⟩]),
 (541,[⟨#[110,97,109,101]⟩,⟨#[111,112,101,114,97,110,100,115]⟩,⟨#[112,114,101,102,105,120]⟩]),
 (660,[⟨#[109,111,100]⟩,⟨#[114,109]⟩,⟨#[115,105,98]⟩,⟨#[100,105,115,112,95,119,105,100,116,104]⟩,⟨#[120]⟩,⟨#[98]⟩]),
 (815,[⟨#[115,101,103,109,101,110,116]⟩,⟨#[105,115,95,100,97,116,97]⟩,⟨#[114,101,112,101,97,116]⟩,⟨#[105,115,95,108,111,99,107]⟩,⟨#[114,101,120]⟩]),
 (850,[⟨#[97,116]⟩,⟨#[119,105,100,116,104]⟩,⟨#[110,97,109,101]⟩,⟨#[119,111,114,116,104]⟩,⟨#[119,97,121]⟩]),
 (883,[⟨#[111,99,116,101,116,115]⟩,⟨#[102,105,120,117,112,115]⟩,⟨#[102,111,114,109]⟩,⟨#[115,104,97,112,101]⟩]),
 (264,[⟨#[110,97,109,101]⟩,⟨#[107,105,110,100,115]⟩,⟨#[111,112,99,111,100,101]⟩,⟨#[101,115,99,97,112,101]⟩,⟨#[100,105,103,105,116]⟩,⟨#[115,105,122,101]⟩,⟨#[109,117,115,116]⟩,⟨#[105,115,95,119,105,100,101]⟩,⟨#[110,117,109,98,101,114]⟩,⟨#[112,108,97,99,101,115]⟩]),
 (1113,[⟨#[102,111,114,109,115]⟩,⟨#[98,121,95,110,97,109,101]⟩,⟨#[98,121,95,99,111,100,101]⟩])]
noncomputable def hO:List Addr:=[1191,362,396,437,490,541,660,815,850,883,264,1113]
noncomputable def hU {α:Type} (a:Nat):(l:List (Nat×α))→Option { x:α // (a,x)∈l }
 | []=>none
 | (b,x)::l=>aG (Nat.beq b a) (fun h=>some ⟨x,by rw [Nat.eq_of_beq_eq_true h]; exact .head _⟩) fun _=>(match hU a l with
  | some ⟨y,h⟩=>some ⟨y,.tail _ h⟩
  | none=>none)
noncomputable def xI:Str:=⟨#[95,95,110,97,109,101,95,95]⟩
theorem FX:xI = ("__name__":Str):=by decide +kernel
theorem FY (P:Params):mZ.map (fun p=>(KH P).nsMap mainGlobals p.1) = mZ.map fun p=>some p.2:=by kernel_rfl
theorem FZ (P:Params):iY.map (fun p=>(KH P).nsMap mainGlobals p.1) = iY.map fun _=>none:=by kernel_rfl
theorem F1:iY.map (fun p=>(bootBuiltins p.1,sEq p.1 xI)) = iY.map fun p=>(some (dE p.2),false):=by kernel_rfl
theorem F2 (P:Params):hO.map (fun C=>(findIn (aR P) (.ref C) (Str.ofString "__getattribute__"),findIn (aR P) (.ref C) (Str.ofString "__getattr__"),(clsIn (aR P) C).map (·.hasDict))) = hO.map fun _=>(some (some (.builtin "object.__getattribute__")),some none,some true):=by kernel_rfl
theorem m4:(ef.all fun p=>hO.any (Nat.beq p.1)) = true∧(hJ.all fun p=>hO.any (Nat.beq p.1)) = true:=by decide +kernel
theorem F3 (P:Params):ef.map (fun p=>p.2.map fun x=>findIn (aR P) (.ref p.1) x) = ef.map fun p=>p.2.map fun _=>some none:=by kernel_rfl
theorem xJ (P:Params):hJ.map (fun p=>p.2.map fun x=>(findIn (aR P) (.ref p.1) x.1,typeIn (aR P) (.ref x.2))) = hJ.map fun p=>p.2.map fun x=>(some (some (.ref x.2)),some (.type "function")):=by kernel_rfl
theorem cY {α β:Type} {f k:α→β} {l:List α} (h:l.map f = l.map k) {x:α} (m:x∈l):f x = k x:=List.map_inj_left.mp h x m
noncomputable def m5:(v:Value)→{ a:AV //∀ W V,Rel W V v a }
 | .none=>⟨.none,fun _ _=>rfl⟩
 | .bool b=>⟨.bool b,fun _ _=>rfl⟩
 | .int i t=>⟨.int (.lit i),fun _ _=>.mk t⟩
 | .str x t=>⟨.str x,fun _ _=>.mk t⟩
 | v=>⟨.con v,fun _ _=>rfl⟩
section
variable {W:ab} {V:Vw} {n:Nat}
theorem isStr_of {e:DictEntry} {x y:Str} {t:Tok} (k:e.key = .str y t):e.key.isStr x = (y == x):=by rw [k]; rfl
theorem bG.look {x:Str}:∀ {fs:List (Str×AV)} {es:List DictEntry},bG W V es fs→(∀ a,lk x fs = some a→∃ d,es.find? (·.key.isStr x) = some d∧Rel W V d.val a)∧(lk x fs = none→es.find? (·.key.isStr x) = none)∧es.any (·.refKey) = false
 | [],es,r=>by obtain rfl:=r; exact ⟨fun a e=>((by exact ar e)),fun _=>rfl,rfl⟩
 | p::fs,_,r=>by
  refine af fun nG=>?_
  obtain ⟨⟨k,h⟩,r⟩:=r
  obtain ⟨i1,i2,i3⟩:=bG.look (x:=x) r
  refine nG ?_
  rw [List.find?_cons,isStr_of k,dc,List.any_cons,i3]
  refine ⟨?_,?_,by unfold DictEntry.refKey; rw [k]; rfl⟩
  ·intro a e
   split at e
   ·rename_i q; rw [q,beq_self_eq_true]; exact ⟨_,rfl,Option.some.inj e▸h⟩
   ·rename_i q; rw [beq_eq_false_iff_ne.mpr (Ne.symm q)]; exact i1 a e
  ·intro e
   split at e
   ·exact c9 e
   ·rename_i q; rw [beq_eq_false_iff_ne.mpr (Ne.symm q)]; exact i2 e
theorem bG.at {x:Str} {a:AV} {fs:List (Str×AV)} {es:List DictEntry} (r:bG W V es fs) (e:lk x fs = some a):∃ v,lookIn x (dictOf es n) = some (some v)∧Rel W V v a:=by
 refine af fun nG=>?_
 obtain ⟨d,h1,h2⟩:=r.look.1 a e
 refine nG ?_
 refine ⟨d.val,?_,h2⟩
 show (match es.toArray.toList.find? (·.key.isStr x) with | some e=>some (some e.val) | none=>_) = _
 rw [List.toList_toArray,h1]
theorem bG.miss {x:Str} {fs:List (Str×AV)} {es:List DictEntry} (r:bG W V es fs) (e:lk x fs = none):lookIn x (dictOf es n) = some none:=by
 show (match es.toArray.toList.find? (·.key.isStr x) with | some e=>some (some e.val) | none=>if es.toArray.toList.any (·.refKey) then none else some none) = _
 rw [List.toList_toArray,(r.look (x:=x)).2.1 e,(r.look (x:=x)).2.2]; rfl
structure F4 (P:Params) (C:Addr):Prop where
 ga:findIn (aR P) (.ref C) (Str.ofString "__getattribute__") = some (some (.builtin "object.__getattribute__"))
 g:findIn (aR P) (.ref C) (Str.ofString "__getattr__") = some none
 d:(clsIn (aR P) C).map (·.hasDict) = some true
theorem m6 {P:Params} {C:Addr} (hc:hO.any (Nat.beq C) = true):F4 P C:=by
 obtain ⟨c,hm,he⟩:=List.any_eq_true.mp hc
 obtain rfl:=Nat.eq_of_beq_eq_true he
 have:=cY (F2 P) hm
 exact ⟨congrArg (·.1) this,congrArg (·.2.1) this,congrArg (·.2.2) this⟩
noncomputable def m7 (a:AV):Option { b:Unit //∀ (W:ab) V v,Rel W V v a→handedIn v = true }:=match a with
 | .con (.ref _)=>some ⟨(),fun _ _ _ r=>r▸rfl⟩
 | .none | .bool _ | .sb _=>some ⟨(),fun _ _ _ r=>r▸rfl⟩
 | .hole _=>some ⟨(),fun W _ _ r=>W.ηp _ _ _ r⟩
 | .int _=>some ⟨(),fun _ _ _ ⟨_⟩=>rfl⟩
 | .str _=>some ⟨(),fun _ _ _ ⟨_⟩=>rfl⟩
 | .anyS=>some ⟨(),fun _ _ _ ⟨_,h⟩=>by obtain ⟨_⟩:=h; rfl⟩
 | .bytes _=>some ⟨(),fun _ _ _ ⟨_,_⟩=>rfl⟩
 | .tup _=>some ⟨(),fun _ _ _ ⟨_,_⟩=>rfl⟩
 | .lst _=>some ⟨(),fun _ _ _ ⟨_,_⟩=>rfl⟩
 | .inst _ _=>some ⟨(),fun _ _ _ ⟨_,_,_⟩=>rfl⟩
 | .dicI _=>some ⟨(),fun _ _ _ ⟨_,_,_,_⟩=>rfl⟩
 | .dicS _=>some ⟨(),fun _ _ _ ⟨_,_,_,_⟩=>rfl⟩
 | .loc _=>some ⟨(),fun _ _ _ ⟨_⟩=>rfl⟩
 | _=>none
end
variable (W:ab)
theorem F5 {x:Str} {v:Value} (h:lk x mZ = some v):(KH W.w.params).nsMap mainGlobals x = some v:=by
 have:=cY (FY W.w.params) (fC h)
 exact this
theorem F6 {x:Str} {n:Nat} (h:lk x iY = some n):(KH W.w.params).nsMap mainGlobals x = none∧x≠"__name__"∧bootBuiltins x = some (dE n):=by
 have h1:=cY (FZ W.w.params) (fC h)
 have h2:=cY F1 (fC h)
 refine ⟨h1,fun e=>?_,congrArg (·.1) h2⟩
 have h3:=congrArg (·.2) h2
 dsimp only at h3
 rw [e,← FX,ED] at h3
 exact fq h3
noncomputable def xK (x:Str):Option { a:AV // w3 W x a }:=di (lk x iY) (fun n h=>some ⟨.blt n,dE n,.inr (F6 W h),fun _=>rfl⟩) fun _=>di (lk x mZ) (fun v h=>some ⟨(m5 v).1,v,.inl (F5 W h),fun V=>(m5 v).2 W V⟩) fun _=>none
theorem xM {x:Str} {l:List Str} (h:l.any (sEq x) = true):x∈l:=by
 obtain ⟨y,hy,e⟩:=List.any_eq_true.mp h
 exact sEq_iff.mp e▸hy
variable {W}
theorem xN {A:Around} {s:Shared} {x:Str} {X C dx:Addr} {es:List DictEntry} {n:Nat} {v':Value} {Q:Value→Shared→Prop} {E:Value→Shared→Prop} {ns:List Str} (B:GG W s.heap) (hm:(C,ns)∈ef) (hx:ns.any (sEq x) = true) (h1:s.heap.get? X = some (instObj C dx)) (h2:s.heap.get? dx = some (dictOf es n)) (hv:lookIn x (dictOf es n) = some (some v')) (hp:handedIn v' = true) (h:∀ tk,Q v' (mv s s.heap tk)):ay W A (getAttr (.ref X) x true) Q E s:=by
 refine af fun nG=>?_
 have c:=m6 (P:=W.w.params) (List.all_eq_true.mp m4.1 _ hm)
 have e1:=cY (cY (F3 W.w.params) hm) (xM hx)
 dsimp only at e1
 obtain ⟨cd,hcd,hcd2⟩:=Option.map_eq_some_iff.mp c.d
 refine nG ?_
 refine get_value B.K (⟨h1,rfl,rfl,h2⟩:InstAt s.heap X (instObj C dx) C (some (dictOf es n))) c.ga ?_ hp (h _)
 unfold findObj PySem.W.ownOf
 rw [hcd,Option.bind_some,e1,Option.bind_some]
 show (if cd.hasDict = true then lookIn x (dictOf es n) else some none).bind _ = _
 rw [hcd2,if_pos rfl,hv]; rfl
set_option tactic.hygienic true in
noncomputable def F7 (own:Own) (a:AV) (x:Str):Out (qx W own a x):=match a with
 | .inst C fs=>(match hU C ef with
  | some ⟨ns,hm⟩=>au (ns.any (sEq x)) 110 fun hx=>bH (lk x fs) 111 fun r hr=>(match m7 r with
   | some ⟨_,hp⟩=>.ok r (qw.o fun A U ad s v Q E B rv G=>by
    refine af fun nG=>?_
    obtain ⟨hxo,hdo,rf⟩:=rv
    rename_i es n
    obtain ⟨v',hv1,hv2⟩:=rf.at (n:=n) hr
    refine nG ?_
    exact xN B.G hm hx hxo.1 hdo.1 hv1 (hp _ _ _ hv2) fun tk=>G.here tk hv2)
   | none=>.no 112)
  | none=>.no 113)
 | .loc i=>(match qo own i with
  | some ⟨(C,m,fs),h,h'⟩=>(match hU C ef with
   | some ⟨ns,hm⟩=>au (ns.any (sEq x)) 114 fun hx=>bH (lk x fs) 115 fun r hr=>(match m7 r with
    | some ⟨_,hp⟩=>.ok r fun A U ad s v Q E B O rv F=>by
     refine af fun nG=>?_
     obtain ⟨e⟩:=rv
     obtain ⟨_,o,ho,pr⟩:=O.obj _ _ _ ⟨h,rfl,e⟩
     obtain ⟨ed⟩:=pr
     obtain ⟨_,o',ho',pr'⟩:=O.obj _ _ _ ⟨h',rfl,ed⟩
     obtain ⟨rf⟩:=pr'
     rename_i es n
     obtain ⟨v',hv1,hv2⟩:=rf.at (n:=n) hr
     refine nG ?_
     exact xN B.G hm hx ho ho' hv1 (hp _ _ _ hv2) fun tk=>F.here O (tk:=tk) hv2
    | none=>.no 116)
   | none=>.no 117)
  | none=>.no 118)
 | _=>.no 120
theorem qW:∀ n,ee W (dE n)
 | 0 | 3 | 5 | 6 | 10=>fG _
 | 1 | 2 | 4 | 7 | 8 | 9 | 11 | 12=>FO _
 | _ + 13=>fun _ _=>⟨.machine,.inr (.inl rfl),Looks.of_pure rfl⟩
variable {d:Nat} {own own1 own2:Own}
theorem F8 {K f:Addr} {ms:List (Str×Addr)} {x:Str} {fs:List (Str×AV)} {as:List AV} {r:AV} (hm:(K,ms)∈hJ) (hf:lk x ms = some f) (h:lk x fs = none) (T:Tells W d (.ref f) own1 (.inst K fs::as) r own2):cz W d own (.inst K fs) x own1 as r own2:=fun A a U ad s v pl Q E B O rv k=>by
 obtain ⟨hxo,hdo,rf⟩:=rv
 have c:=m6 (P:=W.w.params) (List.all_eq_true.mp m4.2 _ hm)
 have h1:=cY (cY (xJ W.w.params) hm) (fC hf)
 exact method_fn B.G.K (⟨hxo.1,rfl,rfl,hdo.1⟩:InstAt s.heap _ (instObj K _) K (some (dictOf _ _))) c.ga c.g (congrArg (·.1) h1) (congrArg (·.2) h1) (by unfold shadowIn; dsimp only; rw [rf.miss h]; rfl) (k _ _ s.toks T.1 fun s' ad' vs Q' E' kk B' rl F=>
  T.2 A a U ad' s' _ Q' E' B' kk.owns (.cons (Rel.mono (a:=.inst K fs) kk.view (.mk hxo hdo rf)) rl) F)
theorem F9 {C:Addr} {fs:List (Str×AV)}:bW W 10 [.inst C fs,.con (.ref C)] (.bool true):=fun A U ad s vs Q E hh B rl G=>by
 obtain ⟨r1,r2,rl⟩:=rl
 obtain rfl:=rl
 obtain rfl:=r2
 obtain ⟨hx,hd,rf⟩:=r1
 refine call_isinstance (S:=fun _ R s'=>s' = s∧∀ tk,R (.ok (.ret (.bool true))) { s with toks:=tk }) (fun prog w A R s' hs=>?_) ⟨rfl,fun tk=>G _ s.heap tk (ag.refl _) rfl⟩
 obtain ⟨rfl,hq⟩:=hs
 refine isinstance_outer ?_ (fun q=>by cases q)
 have L0:=(⟨hx.1,rfl,rfl,hd.1⟩:InstAt s'.heap _ (instObj C _) C (some (dictOf _ _))).type (M:=model prog w)
 obtain ⟨h0,g,dd,tt,os⟩:=s'
 unfold Builtin.«isinstance.nested»
 refine wpAny_bind (L0.at ?_)
 rw [if_pos (by exact beq_self_eq_true _)]
 first
  | ((repeat lk); exact hq tt)
  | exact wpAny_bind (wpAny_rule (hq tt))
  | exact wpAny_bind (wpAny_rule (wpAny_pure (hq tt)))
noncomputable def qX:Str:=⟨#[103,101,116]⟩
theorem Ga:qX = ("get":Str):=by decide +kernel
set_option tactic.hygienic true in
theorem Gb {l:List (Str×AV)} {x:Str} {a b:AV} (e:lk x l = some a):cz W d own (.dicS l) qX own1 [.str x,b] a own1:=fun A aA U ad s v pl Q E Bs O rv k=>by
 rw [Ga]
 obtain ⟨ho,ns,dd,rl⟩:=rv
 rename_i x' o kvs
 have hm:s.heap.MapOf (strKind pg W.w) x' (valueAt kvs):=Heap.DictOf.mapOf (Heap.dictOf_iff.mpr ⟨o,ho.1,dd⟩)
 refine getMethod_builtin hm.typeIs PySem.F.plainAttrs_dict PySem.F.slot_dict_get PySem.F.type_dict_get hm.noDict (k _ _ s.toks (fG _) fun s' ad' vs Q' E' kk Bs' rl' F=>?_)
 have ho':=kk.view.g _ _ ho
 have hm':s'.heap.MapOf (strKind pg W.w) x' (valueAt kvs):=Heap.DictOf.mapOf (Heap.dictOf_iff.mpr ⟨o,ho'.1,dd⟩)
 obtain ⟨⟨t⟩,r2,rl'⟩:=rl'
 obtain rfl:=rl'
 obtain ⟨y,hy,ry⟩:=rl.look e
 refine call_meetsIn PySem.F.slot_dict_get hm'.typeIs PySem.F.entry_dict_get (PySem.F.args_dict_get_3 _ _ _) (meets_dict_get_default (strKind pg W.w) x' (strKind_is _ _ _ _) ns _) ⟨_,hm',?_⟩
 rw [hy]
 exact F.here kk.owns (tk:=s'.toks + 1) (ry.mono kk.view)
end
end Mine
end
section
set_option backward.match.sparseCases false
open PySem PySem.W PyProof.Rows PySem.Calls
namespace Mine
noncomputable def dH (FR:List Addr) (h h':Heap):Prop:=∀ L∈FR,∀ o,h.get? L = some o→(∀ vs,o.data≠.fields vs)→∃ o',h'.get? L = some o'∧o'.data = o.data
theorem dH.trans {FR:List Addr} {h h1 h':Heap} (a:dH FR h h1) (b:dH FR h1 h'):dH FR h h':=fun L m o e n=>by
 refine af fun nG=>?_
 obtain ⟨o1,e1,d1⟩:=a L m o e n
 obtain ⟨o2,e2,d2⟩:=b L m o1 e1 (fun vs q=>n vs (d1▸q))
 refine nG ?_
 exact ⟨o2,e2,d2.trans d1⟩
theorem aw.fd {h h':Heap} (k:ag h h') (FR:List Addr):dH FR h h':=fun L m o e n=>⟨o,k.gj e (d3 n),rfl⟩
structure KF (FR:List Addr) (h h':Heap):Prop where
 kx:aw (·∈FR) h h'
 fd:dH FR h h'
theorem aw.kf {h h':Heap} (k:ag h h') (FR:List Addr):KF FR h h':=⟨k.x,k.fd FR⟩
theorem KF.trans {FR:List Addr} {h h1 h':Heap} (a:KF FR h h1) (b:KF FR h1 h'):KF FR h h':=⟨a.kx.trans b.kx,a.fd.trans b.fd⟩
theorem KF.drop {FR:List Addr} {Y:AS} {h h1 h':Heap} (a:KF FR h h1) (kx:aw Y h1 h') (fd:dH FR h1 h') (f:∀ u,Y u→u∈FR∨h.get? u = none):KF FR h h':=⟨a.kx.comp kx f,a.fd.trans fd⟩
noncomputable def cK (outer:List Env) (FR:List Addr) (h:Heap):Prop:=outer.filterMap (·.frame) = FR∧∀ e∈outer,e.scope.kind≠.module∧∃ L o,e.frame = some L∧h.get? L = some o∧∀ vs,o.data≠.fields vs
theorem cK.mem {outer:List Env} {FR:List Addr} {h:Heap} (f:cK outer FR h):∀ L∈FR,∃ o,h.get? L = some o∧∀ vs,o.data≠.fields vs:=fun L m=>by
 refine af fun nG=>?_
 rw [← f.1] at m
 obtain ⟨e,he,hf⟩:=List.mem_filterMap.mp m
 obtain ⟨_,L',o,h1,h2,h3⟩:=f.2 e he
 refine nG ?_
 rw [h1] at hf; cases hf
 exact ⟨o,h2,h3⟩
theorem cK.kf {outer:List Env} {FR FR':List Addr} {h h':Heap} (f:cK outer FR h) (k:KF FR' h h'):cK outer FR h':=⟨f.1,fun e he=>by
 refine af fun nG=>?_
 obtain ⟨hk,L,o,h1,h2,h3⟩:=f.2 e he
 refine nG ?_
 by_cases q:L∈FR'
 ·refine af fun nG=>?_
  obtain ⟨o',e',d⟩:=k.fd L q o h2 h3
  refine nG ?_
  exact ⟨hk,L,o',h1,e',fun vs z=>h3 vs (d▸z)⟩
 ·exact ⟨hk,L,o,h1,k.kx.b9 q h2 (.inr (d3 h3)),h3⟩⟩
noncomputable def cb (h₀:Heap) (c e:Addr) (P:Option Value→Prop) (h:Heap):Prop:=h₀.get? e = none∧∃ oe vs,h.get? e = some oe∧oe.cls = .ref c∧oe.data = .fields vs∧((vs[1]? = some .none∧P none)∨∃ T oT ts mk,vs[1]? = some (.ref T)∧h₀.get? T = none∧T≠e∧h.get? T = some oT∧oT.cls = .type "traceback"∧oT.data = .fields ts∧ts[3]? = some mk∧P (some mk))
theorem cb.mono {h₀ h₁:Heap} (k:ag h₀ h₁) {c e:Addr} {P:Option Value→Prop} {h:Heap} (x:cb h₁ c e P h):cb h₀ c e P h:=by
 refine af fun nG=>?_
 obtain ⟨n,oe,vs,h1,h2,h3,q⟩:=x
 refine nG ?_
 refine ⟨k.gone n,oe,vs,h1,h2,h3,q.imp id ?_⟩
 rintro ⟨T,oT,ts,mk,a1,a2,a3⟩
 exact ⟨T,oT,ts,mk,a1,k.gone a2,a3⟩
noncomputable def m8 (L:Addr) (m:Option Value):Prop:=m = none∨m = some .none∨m = some (rawInt L)
noncomputable def qY (L:Addr) (m:Option Value):Prop:=m = some (rawInt L)
noncomputable def m9 (m:Option Value):Prop:=m = some .none
theorem Gd {o:Obj} {c:Addr} (h:o.cls = .ref c):bB o = false:=by
 unfold bB; split
 ·rw [h]
 ·rfl
theorem xO {o:Obj} (h:o.cls = .type "traceback"):bB o = false:=by
 unfold bB; split
 ·rw [h]; rfl
 ·rfl
section
variable {W:ab} {A:Around} {env:Env} {outer:List Env} {FR:List Addr} {L c e:Addr} {h₀:Heap}
theorem xP {s:Shared} {oe:Obj} {vs:Array Value} {head:Value} {hn:Bool} {Q:Unit→Shared→Prop} {E:Value→Shared→Prop} (hfr:A.frames = some (env::outer)) (fl:cK (env::outer) (L::FR) s.heap) (hf:env.frame = some L)
  (k:KF FR h₀ s.heap) (hL:h₀.get? L = none) (e0:h₀.get? e = none) (he:s.heap.get? e = some oe) (hc:oe.cls = .ref c) (hd:oe.data = .fields vs) (hz:1 < vs.size)
  (hQ:∀ h',KF FR h₀ h'→cK (env::outer) (L::FR) h'→cb h₀ c e (qY L) h'→dH (L::FR) s.heap h'→Q () { s with heap:=h' }):
  ay W A (do let a ← frameOf env; let pl ← entryPlaceOf L hn; let b ← EntryCells.newEntry head a .none (rawInt L) .none pl; setField (.ref e) 1 b) Q E s:=by
 have hN:∀ env'∈env::outer,∀ b,env'.frame = some b→b∈L::FR:=fun env' m b q=>by rw [← fl.1]; exact List.mem_filterMap.mpr ⟨env',m,q⟩
 have ff:s.heap.FunFrames (hideAll s.heap (L::FR)) (env::outer):=by
  have:∀ l:List Env,(∀ x∈l,x∈env::outer)→s.heap.FunFrames (hideAll s.heap (L::FR)) l:=by
   intro l
   induction l with
   | nil=>intro _; trivial
   | cons x l ih=>
    intro hs
    obtain ⟨hk,L',o,h1,h2,h3⟩:=fl.2 x (hs x (.head _))
    exact ⟨hk,⟨L',o,h1,hideAll_none _ (hN x (hs x (.head _)) L' h1),h2,h3⟩,ih fun y hy=>hs y (.tail _ hy)⟩
  exact this _ fun _ m=>m
 have eNot:e∉L::FR:=fun m=>by
  obtain ⟨o,h1,h2⟩:=fl.mem e m
  rw [he] at h1; cases h1; exact h2 vs hd
 refine wpAny_bind (wpAny_frameOf_fun hfr ff hf fun h₁ hs=>?_)
 refine af fun nG=>?_
 rw [fl.1] at hs
 obtain ⟨hs1,hs2,hs3⟩:=hs
 refine nG ?_
 refine wpAny_bind (wpAny_entryPlaceOf fun pl hpl=>?_)
 unfold EntryCells.newEntry newFields
 refine wpAny_bind (wpAny_newObj_type ?_ (hpl.sizeOk5 _ _ _ _ _))
 generalize hob:({ cls:=.type "traceback",dict:=none,data:=.fields ([head,.ref L,.none,rawInt L,.none] ++ (if pl.isEmpty then List.replicate 6 Value.none else pl)).toArray }:Obj) = ob
 have he1:h₁.get? e = some oe:=(hs2 e eNot).trans he
 have he2:=Heap.get?_push_of_some (h:=h₁) ob he1
 refine wpAny_setField he2 hd hz ?_
 have hT:h₁.objs.size≠e:=Nat.ne_of_gt (Heap.lt_size he1)
 have hd3:=Obj.data_mapFields hd (·.setIfInBounds 1 (Value.ref h₁.objs.size))
 have he3:=Heap.get?_update_self (Obj.mapFields (·.setIfInBounds 1 (Value.ref h₁.objs.size))) he2 (Obj.isFreed_of_fields hd3)
 have hob1:ob.isFreed = false:=by rw [← hob]; rfl
 have hT3:((h₁.push ob).update e (Obj.mapFields (·.setIfInBounds 1 (Value.ref h₁.objs.size)))).get? h₁.objs.size = some ob:=(Heap.get?_update_other _ _ (Ne.symm hT)).trans (Heap.get?_push_size _ hob1)
 have oth:∀ b o,b≠e→h₁.get? b = some o→((h₁.push ob).update e (Obj.mapFields (·.setIfInBounds 1 (Value.ref h₁.objs.size)))).get? b = some o:=fun b o n q=>(Heap.get?_update_other _ _ (Ne.symm n)).trans (Heap.get?_push_of_some _ q)
 have kx:aw (·∈e::L::FR) s.heap ((h₁.push ob).update e (Obj.mapFields (·.setIfInBounds 1 (Value.ref h₁.objs.size)))):=by
  refine .eW (fun u o m q=>?_) fun b o n q=>?_
  ·rcases List.mem_cons.mp m with z | z
   ·rw [z,he] at q; cases q; exact Gd hc
   ·obtain ⟨o',q',n'⟩:=fl.mem u z
    rw [q] at q'; cases q'; exact d3 n'
  ·exact oth b o (fun z=>n (z▸.head _)) ((hs2 b fun z=>n (.tail _ z)).trans q)
 have nd:dH (L::FR) s.heap ((h₁.push ob).update e (Obj.mapFields (·.setIfInBounds 1 (Value.ref h₁.objs.size)))):=fun b m o q n=>by
  obtain ⟨sl,q1⟩:=hs3 b o q
  exact ⟨_,oth b _ (fun z=>by rw [z,he] at q; cases q; exact n vs hd) q1,rfl⟩
 refine hQ _ (k.drop kx (fun b m=>nd b (.tail _ m)) fun u m=>?_) ⟨fl.1,fun x m=>?_⟩ ?_ nd
 ·rcases List.mem_cons.mp m with z | z
  ·rw [z]; exact .inr e0
  ·rcases List.mem_cons.mp z with z | z
   ·rw [z]; exact .inr hL
   ·exact .inl z
 ·refine af fun nG=>?_
  obtain ⟨hk,L',o,h1,h2,h3⟩:=fl.2 x m
  obtain ⟨o',q',d'⟩:=nd L' (hN x m L' h1) o h2 h3
  refine nG ?_
  exact ⟨hk,L',o',h1,q',fun vs z=>h3 vs (d'▸z)⟩
 ·have kT:h₀.get? h₁.objs.size = none:=by
   cases q:h₀.get? h₁.objs.size with
   | none=>rfl
   | some o=>
    have:∃ o',s.heap.get? h₁.objs.size = some o':=by
     by_cases z:h₁.objs.size∈FR
     ·obtain ⟨o',a,_⟩:=fl.mem _ (.tail _ z); exact ⟨o',a⟩
     ·obtain ⟨o',a,_⟩:=k.kx.same _ o z q; exact ⟨o',a⟩
    obtain ⟨o',a⟩:=this
    have:=Heap.lt_size a
    rw [hs1] at this
    exact absurd this (Nat.lt_irrefl _)
  refine ⟨e0,_,_,he3,?_,hd3,.inr ⟨h₁.objs.size,ob,_,rawInt L,?_,kT,hT,hT3,by rw [← hob],by rw [← hob],?_,rfl⟩⟩
  ·exact (Obj.cls_mapFields _ _).trans hc
  ·simp [hz]
  ·simp
theorem xQ {s:Shared} {h':Heap} {u:Addr} {o:Obj} (k:KF FR h₀ s.heap) (u0:h₀.get? u = none) (ho:s.heap.get? u = some o) (ht:bB o = false) (hd:∃ vs,o.data = .fields vs) (oth:∀ b,b≠u→h'.get? b = s.heap.get? b):KF FR h₀ h':=
 k.drop (Y:=(· = u)) (.eW (fun v o' m q=>by rw [m,ho] at q; cases q; exact ht) fun b o' n q=>(oth b n).trans q)
  (fun b m o' q n=>⟨o',(oth b fun z=>by rw [z,ho] at q; cases q; obtain ⟨vs,d⟩:=hd; exact n vs d).trans q,rfl⟩) fun v m=>.inr (m▸u0)
theorem dH.refl (F:List Addr) (h:Heap):dH F h h:=fun L m o e n=>⟨o,e,rfl⟩
theorem xR {s:Shared} {h':Heap} {u:Addr} {o:Obj} (F:List Addr) (ho:s.heap.get? u = some o) (hd:∃ vs,o.data = .fields vs) (oth:∀ b,b≠u→h'.get? b = s.heap.get? b):dH F s.heap h':=
 fun b m o' q n=>⟨o',(oth b fun z=>by rw [z,ho] at q; cases q; obtain ⟨vs,d⟩:=hd; exact n vs d).trans q,rfl⟩
theorem xS {s:Shared} {h':Heap} {u:Addr} {o:Obj} {l:List Env} {F:List Addr} (fl:cK l F s.heap) (ho:s.heap.get? u = some o) (hd:∃ vs,o.data = .fields vs) (oth:∀ b,b≠u→h'.get? b = s.heap.get? b):cK l F h':=
 ⟨fl.1,fun x m=>by
  refine af fun nG=>?_
  obtain ⟨hk,L',o',h1,h2,h3⟩:=fl.2 x m
  refine nG ?_
  exact ⟨hk,L',o',h1,(oth L' fun z=>by rw [z,ho] at h2; cases h2; obtain ⟨vs,d⟩:=hd; exact h3 vs d).trans h2,h3⟩⟩
theorem nh {s:Shared} {fo:Option Addr} {l:List Env} {F:List Addr} {P:Option Value→Prop} {Q:Unit→Shared→Prop} {E:Value→Shared→Prop} (hP:¬ P none) (fl:cK l F s.heap) (k:KF FR h₀ s.heap) (x:cb h₀ c e P s.heap)
  (hQ:∀ h',KF FR h₀ h'→cK l F h'→cb h₀ c e (fun m=>m = some (fo.elim .none fun f=>rawInt f)) h'→dH F s.heap h'→Q () { s with heap:=h' }):ay W A (setFlight (.ref e) fo) Q E s:=by
 refine af fun nG=>?_
 obtain ⟨e0,oe,vs,he,hc,hd,q⟩:=x
 refine nG ?_
 rcases q with ⟨_,q⟩ | ⟨T,oT,ts,mk,h1,T0,hT,hoT,hcT,hdT,h3,_⟩
 ·exact absurd q hP
 ·unfold setFlight
  refine wpAny_bind (wpAny_field he hd h1 ?_)
  rw [if_pos (show (Value.ref T != Value.none) = true from by simp)]
  have hz:3 < ts.size:=(Array.getElem?_eq_some_iff.mp h3).1
  refine wpAny_setField hoT hdT hz ?_
  have hd':=Obj.data_mapFields hdT (·.setIfInBounds 3 (fo.elim .none fun f=>rawInt f))
  have oth:∀ b,b≠T→(s.heap.update T (Obj.mapFields (·.setIfInBounds 3 (fo.elim .none fun f=>rawInt f)))).get? b = s.heap.get? b:=fun b n=>Heap.get?_update_other _ _ (Ne.symm n)
  refine hQ _ (xQ k T0 hoT (xO hcT) ⟨ts,hdT⟩ oth) (xS fl hoT ⟨ts,hdT⟩ oth) ⟨e0,oe,vs,(oth e (Ne.symm hT)).trans he,hc,hd,.inr ⟨T,_,_,_,h1,T0,hT,Heap.get?_update_self _ hoT (Obj.isFreed_of_fields hd'),(Obj.cls_mapFields _ _).trans hcT,hd',?_,rfl⟩⟩ (xR F hoT ⟨ts,hdT⟩ oth)
  simp [hz]
theorem qZ {s:Shared} {Q:Unit→Shared→Prop} {E:Value→Shared→Prop} (hfr:A.frames = some (env::outer)) (fl:cK (env::outer) (L::FR) s.heap) (hf:env.frame = some L)
  (k:KF FR h₀ s.heap) (hL:h₀.get? L = none) (x:cb h₀ c e (m8 L) s.heap)
  (hQ:∀ h',KF FR h₀ h'→cK (env::outer) (L::FR) h'→cb h₀ c e (qY L) h'→dH (L::FR) s.heap h'→Q () { s with heap:=h' }):ay W A (noteFrame (.ref e) env) Q E s:=by
 refine af fun nG=>?_
 obtain ⟨e0,oe,vs,he,hc,hd,q⟩:=x
 refine nG ?_
 unfold noteFrame
 simp only [hf]
 rcases q with ⟨h1,_⟩ | ⟨T,oT,ts,mk,h1,T0,hT,hoT,hcT,hdT,h3,hmk⟩
 ·refine wpAny_bind (wpAny_field he hd h1 ?_)
  rw [if_neg (by decide)]
  exact xP hfr fl hf k hL e0 he hc hd (Array.getElem?_eq_some_iff.mp h1).1 hQ
 ·refine wpAny_bind (wpAny_field he hd h1 ?_)
  rw [if_pos (show (Value.ref T != Value.none) = true from by simp)]
  refine wpAny_bind (wpAny_field hoT hdT h3 ?_)
  by_cases z:mk = rawInt L
  ·rw [if_pos (by rw [z]; first | exact beq_self_eq_true _ | simp)]
   exact wpAny_pure (hQ s.heap k fl ⟨e0,oe,vs,he,hc,hd,.inr ⟨T,oT,ts,mk,h1,T0,hT,hoT,hcT,hdT,h3,by rw [z]; rfl⟩⟩ (.refl _ _))
  ·have hmk:mk = .none:=by
    rcases hmk with q | q | q
    ·exact c9 q
    ·exact Option.some.inj q
    ·exact absurd (Option.some.inj q) z
   subst hmk
   rw [if_neg (show ¬ ((Value.none == rawInt L) = true) from by simp [rawInt])]
   have hz:3 < ts.size:=(Array.getElem?_eq_some_iff.mp h3).1
   refine wpAny_bind (wpAny_setField hoT hdT hz ?_)
   have oth:∀ b,b≠T→(s.heap.update T (Obj.mapFields (·.setIfInBounds 3 Value.none))).get? b = s.heap.get? b:=fun b n=>Heap.get?_update_other _ _ (Ne.symm n)
   exact xP (s:={ s with heap:=s.heap.update T (Obj.mapFields (·.setIfInBounds 3 Value.none)) }) hfr (xS fl hoT ⟨ts,hdT⟩ oth) hf (xQ k T0 hoT (xO hcT) ⟨ts,hdT⟩ oth) hL e0 ((oth e (Ne.symm hT)).trans he) hc hd (Array.getElem?_eq_some_iff.mp h1).1 fun h' a b c d=>hQ h' a b c ((xR (L::FR) hoT ⟨ts,hdT⟩ oth).trans d)
theorem Ge {s:Shared} {Q:Unit→Shared→Prop} {E:Value→Shared→Prop} (hfr:A.frames = some (env::outer)) (fl:cK (env::outer) (L::FR) s.heap) (hf:env.frame = some L)
  (k:KF FR h₀ s.heap) (hL:h₀.get? L = none) (x:cb h₀ c e (m8 L) s.heap)
  (hQ:∀ h',KF FR h₀ h'→cb h₀ c e m9 h'→Q () { s with heap:=h' }):ay W A («leaving» env (.ref e)) Q E s:=by
 unfold «leaving»
 refine wpAny_bind (qZ hfr fl hf k hL x fun h1 k1 f1 x1 d1=>?_)
 exact nh (s:={ s with heap:=h1 }) (fo:=none) (fun z=>by exact ar z) f1 k1 x1 fun h2 k2 _ x2 _=>hQ h2 k2 x2
end
set_option genCtorIdx true in
inductive Fl where
 | next (σ:aq) (own:Own)
 | ret (a:AV) (own:Own)
 | exc (c:Addr)
structure eh (A:Around) (env:Env) (FR:List Addr) (h:Heap):Prop where
 fr:env.frame = some env.locals
 kd:env.scope.kind≠.module
 ex:∃ outer,A.frames = some (env::outer)∧cK outer FR h
theorem eh.keep {A:Around} {env:Env} {FR:List Addr} {h h':Heap} (f:eh A env FR h) (k:ag h h'):eh A env FR h':=⟨f.fr,f.kd,let ⟨o,a,d⟩:=f.ex; ⟨o,a,d.kf (k.kf FR)⟩⟩
noncomputable def dk (h:Heap) (L:Addr):Prop:=∃ o,h.get? L = some o∧∀ vs,o.data≠.fields vs
theorem eh.ni {A:Around} {env:Env} {FR:List Addr} {h₀ h:Heap} (f:eh A env FR h₀) (k:KF FR h₀ h) (o:dk h env.locals):∃ outer,A.frames = some (env::outer)∧cK (env::outer) (env.locals::FR) h:=by
 obtain ⟨outer,a,d⟩:=f.ex
 have d':=d.kf k
 refine ⟨outer,a,?_,fun e he=>?_⟩
 ·rw [List.filterMap_cons,f.fr,d'.1]
 ·rcases List.mem_cons.mp he with q | q
  ·subst q; obtain ⟨ob,h1,h2⟩:=o; exact ⟨f.kd,_,ob,f.fr,h1,h2⟩
  ·exact d'.2 e q
section
variable {W:ab} {d:Nat} {sc:Fs} {c:aj W d sc} {σ σ':aq} {own own1 own2:Own} {pos:Pos}
noncomputable def Told (c:aj W d sc) (s:Shared) (Q:Flow→Shared→Prop) (E:Value→Shared→Prop):Fl→Prop
 | .next σ own=>∀ h' tk ad,SV c σ ⟨own,ad,h'⟩→Q .next (mv s h' tk)
 | .ret a own=>∀ v h' tk ad,SV c [] ⟨own,ad,h'⟩→Rel W (vw c.U ⟨own,ad,h'⟩) v a→Q (.ret v) (mv s h' tk)
 | .exc x=>∃ FR,eh c.A c.env FR c.h₀∧∀ e h' tk,KF FR c.h₀ h'→c.h₀.get? c.env.locals = none→dk h' c.env.locals→cb c.h₀ x e (m8 c.env.locals) h'→E (.ref e) (mv s h' tk)
theorem Told.mv {s:Shared} {Q:Flow→Shared→Prop} {E:Value→Shared→Prop} {f:Fl} {h:Heap} {tk:Nat} (T:Told c s Q E f):Told c (mv s h tk) Q E f:=by cases f<;>exact T
noncomputable def aB (c:aj W d sc) (σ:aq) (own:Own) (t:Sem Flow) (f:Fl):Prop:=∀ (s:Shared) ad (Q:Flow→Shared→Prop) (E:Value→Shared→Prop),SV c σ ⟨own,ad,s.heap⟩→Told c s Q E f→ay W c.A t Q E s
theorem SV.bare {p:Pt} (S:SV c σ p):SV c [] p:=S.sub fun _ _ e=>(by exact ar e)
theorem aB.nil:aB c σ own (execs [] c.env) (.next σ own):=fun s ad _ _ S T=>wpAny_execs_nil (T s.heap s.toks ad S)
theorem aB.seq {st:Stmt} {l:List Stmt} {f:Fl} (h:aB c σ own (exec st c.env) (.next σ' own1)) (k:aB c σ' own1 (execs l c.env) f):aB c σ own (execs (st::l) c.env) f:=fun s ad Q E S T=>
 wpAny_execs_cons (h s ad _ E S fun h' tk ad1 S1=>k _ ad1 Q E S1 T.mv)
theorem aB.Gf {a:AV} {st:Stmt} {l:List Stmt} (h:aB c σ own (exec st c.env) (.ret a own1)):aB c σ own (execs (st::l) c.env) (.ret a own1):=fun s ad Q E S T=>wpAny_execs_cons (h s ad _ E S T)
theorem aB.Gg {a:Addr} {st:Stmt} {l:List Stmt} (h:aB c σ own (exec st c.env) (.exc a)):aB c σ own (execs (st::l) c.env) (.exc a):=fun s ad Q E S T=>wpAny_execs_cons (h s ad _ E S T)
theorem aB.ite {t:Expr} {b e:List Stmt} {x:Bool} {f:Fl} (ht:bp c σ own (isTrue t c.env (eval t c.env)) x own1) (h:aB c σ own1 (execs (if x = true then b else e) c.env) f):aB c σ own (exec (.If t b e pos) c.env) f:=fun s ad Q E S T=>
 wpAny_If (ht s ad _ _ S fun v h' tk a1 k q=>by
  subst q
  have z:=h (Mine.mv s h' tk) a1 Q E (S.after k) T.mv
  cases v<;>exact z)
theorem Gh (c:aj W d sc):interactive c.env = false:=by unfold interactive; rw [c.K.kind]; rfl
noncomputable abbrev kh (e:Expr):Prop:=∀ t l env,swapsWith e t l env = pure false
theorem aB.expr {e:Expr} {a:AV} (hs:kh e) (h:ak c σ own (eval e c.env) a own1):aB c σ own (exec (.Expr e pos) c.env) (.next σ own1):=fun s ad Q E S T=>
 wpAny_Expr_any (h s ad _ _ S fun v h1 t1 a1 k1 r1=>T h1 t1 a1 (S.after k1)) (Gh c) (hs _ _ _)
theorem aB.ret {e:Expr} {a:AV} (h:ak c σ own (eval e c.env) a own1):aB c σ own (exec (.Return (some e) pos) c.env) (.ret a own1):=fun s ad Q E S T=>
 wpAny_Return_some (h s ad _ _ S fun v h1 t1 a1 k1 r1=>T v h1 t1 a1 (S.after k1).bare r1)
theorem aB.Gi:aB c σ own (exec (.Return none pos) c.env) (.ret .none own):=fun s ad _ _ S T=>wpAny_Return_none (T .none s.heap s.toks ad S.bare rfl)
theorem aB.pass:aB c σ own (exec (.Pass pos) c.env) (.next σ own):=fun s ad _ _ S T=>wpAny_Pass (T s.heap s.toks ad S)
end
noncomputable def cZ (sc:Scope) (x:Str) (k:NameKind):Bool:=match lk x sc.names with
 | some j=>j == k
 | none=>false
theorem q5 {env:Env} {sc:Scope} {x:Str} {k:NameKind} (es:env.scope = sc) (h:cZ sc x k = true):env.kindOf x = some k:=by
 unfold cZ at h
 show env.scope.names.lookup x = _
 rw [es,← cU]
 cases e:lk x sc.names with
 | none=>rw [e] at h; exact aS h
 | some j=>rw [e] at h; rw [beq_iff_eq.mp h]
theorem xT {env:Env} (K:eY env):(env.scope.kind == .class || (env.scope.kind == .module && env.locals != env.globals)) = false:=by rw [K.kind]; rfl
noncomputable def iZ (sc:Fs) (x:Str) (a:AV) (σ σ':aq):Prop:=∀ {W:ab} {d} {c:aj W d sc} {own ad s v} {Q:Unit→Shared→Prop} {E:Value→Shared→Prop},SV c σ ⟨own,ad,s.heap⟩→Rel W (vw c.U ⟨own,ad,s.heap⟩) v a→
 (∀ h' tk,SV c σ' ⟨own,ad,h'⟩→(vw c.U ⟨own,ad,s.heap⟩).Le (vw c.U ⟨own,ad,h'⟩)→Q () (mv s h' tk))→ay W c.A (storeName c.env x v) Q E s
noncomputable def ki (sc:Fs) (x:Str) (a:AV) (σ:aq):Option { σ':aq // iZ sc x a σ σ' }:=aG (cZ sc.sc x .local) (fun h=>some ⟨(x,a)::del x σ,fun {W d c own ad s v Q E} S rv G=>by
   refine af fun nG=>?_
   have hk:=q5 c.es h
   obtain ⟨m,hns⟩:=S.ns
   refine nG ?_
   exact wpAny_storeName_local hk hns (fun h2 n2 s2=>G h2 _ (S.store hk rv hns n2 s2) (S.owns.mN (.inr c.base) (.one (S.low _ c.base).2 s2)).2) (xT c.K)⟩)
 fun _=>aG (aH sc.fn (cZ sc.sc x .cell)) (fun h=>some ⟨(x,a)::del x σ,fun {W d c own ad s v Q E} S rv G=>by
   refine af fun nG=>?_
   obtain ⟨hn,h⟩:=aC h
   have hk:=q5 c.es h
   obtain ⟨u,hc⟩:=(c.cel hn).has x hk
   obtain ⟨v₀,i₀⟩:=S.cls x u hc
   refine nG ?_
   have hz:=(c.K.names x (by rw [show c.env.scope.names.lookup x = some .cell from hk]; exact fun z=>(by exact c9 z))).2
   have hB:=(c.cel hn).own x u hk hc
   exact wpAny_storeName_cell c.K.kind hk hc i₀ fun h2 i2 s2=>G h2 _ (S.EM hn hk hz hc rv i2 s2) (S.owns.mN (.inr hB) (.one (S.low _ hB).2 s2)).2⟩) fun _=>none
noncomputable def Pe (e:Expr):Option { x:Str×Pos // e = .Name x.1 x.2 }:=match e with
 | .Name x p=>some ⟨(x,p),rfl⟩
 | _=>none
section
variable {W:ab} {d:Nat} {sc:Fs} {c:aj W d sc} {σ σ':aq} {own own1 own2:Own} {pos:Pos}
theorem aB.assign {x:Str} {p:Pos} {e:Expr} {a:AV} (hs:kh e) (h:ak c σ own (eval e c.env) a own1) (hb:iZ sc x a σ σ'):aB c σ own (exec (.Assign [.Name x p] e pos) c.env) (.next σ' own1):=fun s ad Q E S T=>
 wpAny_Assign_Name (h s ad _ _ S fun v h1 t1 a1 k1 r1=>hb (s:=Mine.mv s h1 t1) (S.after k1) r1 fun h2 tk S2 _=>T h2 tk a1 S2) (hs _ _ _)
end
structure kj (sc:Fs) (ts:List Expr) (as:List AV) (σ σ':aq):Prop where
 len:ts.length = as.length
 plain:∀ env,(assignEach ts env).findIdx? (·.1) = none∧(assignEach ts env).length = ts.length
 run:∀ {W:ab} {d} {c:aj W d sc} {own ad s vs} {Q:Unit→Shared→Prop} {E:Value→Shared→Prop},SV c σ ⟨own,ad,s.heap⟩→ai W (vw c.U ⟨own,ad,s.heap⟩) vs as→
  (∀ h' tk,SV c σ' ⟨own,ad,h'⟩→(vw c.U ⟨own,ad,s.heap⟩).Le (vw c.U ⟨own,ad,h'⟩)→Q () (mv s h' tk))→ay W c.A (assignInOrder ((assignEach ts c.env).map (·.2)) vs) Q E s
theorem kj.cons {sc:Fs} {x:Str} {p:Pos} {ts:List Expr} {a:AV} {as:List AV} {σ σ1 σ':aq} (h:iZ sc x a σ σ1) (k:kj sc ts as σ1 σ'):kj sc (.Name x p::ts) (a::as) σ σ' where
 len:=congrArg (· + 1) k.len
 plain:=fun env=>⟨by
  show List.findIdx? (·.1) ((false,PySem.assign (.Name x p) env)::assignEach ts env) = none
  rw [List.findIdx?_cons,(k.plain env).1]; rfl,congrArg (· + 1) (k.plain env).2⟩
 run:=fun S rl G=>by
  obtain ⟨rv,rl⟩:=rl
  exact wpAny_assignInOrder_more (assign_Name (h S rv fun h1 t1 S1 s1=>k.run (s:=Mine.mv _ h1 t1) S1 (rl.mono s1) fun h2 t2 S2 s2=>G h2 t2 S2 (s1.trans s2)))
noncomputable def xU (sc:Fs):(ts:List Expr)→(as:List AV)→(σ:aq)→Option { σ':aq // kj sc ts as σ σ' }
 | [],[],σ=>some ⟨σ,rfl,fun _=>⟨rfl,rfl⟩,fun {_ _ _ _ _ s _ _ _} S rl G=>rl▸wpAny_pure (G s.heap s.toks S .refl)⟩
 | .Name x p::ts,a::as,σ=>(match ki sc x a σ with
  | some r=>(match xU sc ts as r.1 with
   | some q=>some ⟨q.1,.cons r.2 q.2⟩
   | none=>none)
  | none=>none)
 | _,_,_=>none
end Mine
end
section
open PySem PySem.W PyProof.Rows PySem.Calls
namespace Mine
section
structure Fn where
 names:List Str
 dv:List Value
 body:List Stmt
 scope:Scope
noncomputable def nk:List Value→List AV
 | []=>[]
 | v::l=>(m5 v).1::nk l
theorem xV {W:ab} {V:Vw}:∀ l:List Value,ai W V l (nk l)
 | []=>rfl
 | v::l=>.cons ((m5 v).2 W V) (xV l)
noncomputable def Fn.more (F:Fn) (k:Nat):List Value:=F.dv.drop (F.dv.length - (F.names.length - k))
noncomputable def Fn.fill (F:Fn) (as:List AV):aq:=F.names.zip (as ++ nk (F.more as.length))
theorem i0 {α β:Type} [BEq α] [LawfulBEq α] {x:α} {a:β}:∀ {l:List (α×β)},l.lookup x = some a→(x,a)∈l
 | (y,b)::l,e=>by
  rw [List.lookup_cons] at e
  split at e
  ·rename_i q; rw [beq_iff_eq.mp q,Option.some.inj e]; exact .head _
  ·exact .tail _ (i0 e)
noncomputable def nq:Str:=⟨#[95,95,100,101,98,117,103,95,95]⟩
noncomputable def q6:Str:=⟨#[95,95,99,108,97,115,115,100,105,99,116,95,95]⟩
theorem xW:nq = ("__debug__":Str):=by decide +kernel
theorem xX:q6 = ("__classdict__":Str):=by decide +kernel
noncomputable def q7 (sc:Scope):Bool:=sc.names.all fun p=>!sEq p.1 nq && !sEq p.1 q6
theorem xY {sc:Scope} (h:q7 sc = true) {x:Str} (q:sc.names.lookup x≠none):(x == ("__debug__":Str)) = false∧(x == ("__classdict__":Str)) = false:=by
 obtain ⟨k,hk⟩:=Option.ne_none_iff_exists'.mp q
 have:=List.all_eq_true.mp h _ (i0 hk)
 rw [eE,eE,xW,xX,Bool.and_eq_true,Bool.not_eq_true',Bool.not_eq_true'] at this
 exact this
noncomputable def q8:List Str→Bool
 | []=>true
 | x::l=>aH (!l.any (sEq x)) (q8 l)
theorem xZ:∀ {l:List Str},q8 l = true→l.Nodup
 | [],_=>.nil
 | x::l,e=>by
  obtain ⟨e1,e2⟩:=aC e
  refine List.nodup_cons.mpr ⟨fun m=>?_,xZ e2⟩
  rw [List.any_eq_true.mpr ⟨x,m,sEq_iff.mpr rfl⟩] at e1; exact aS e1
noncomputable def q9 (sc:Scope) (x:Str):Bool:=match lk x sc.names with
 | some .local | some .cell=>true
 | _=>false
theorem Gj {sc:Scope} {x:Str} (h:q9 sc x = true):sc.names.lookup x = some .local∨sc.names.lookup x = some .cell:=by
 unfold q9 at h
 rw [← cU]
 cases e:lk x sc.names with
 | none=>rw [e] at h; exact aS h
 | some k=>rw [e] at h; cases k<;>first | exact .inl rfl | exact .inr rfl | cases h
noncomputable def Fn.nv (F:Fn):Bool:=aH (aH (q8 F.names) (F.names.all (q9 F.scope))) (aH (aH (F.scope.kind == .function) (q7 F.scope)) (aH (!F.scope.isCoroutine) (!F.scope.isGenerator)))
structure gp (W:ab) (f:Addr) (fd:FuncData) (F:Fn) (ks:List Nat):Prop where
 obj:∀ h,GG W h→∃ o,h.get? f = some o∧o.data = .func fd
 code:∀ h,GG W h→h.CodeRec fd.code fd.qualname
 body:fd.body = .stmts F.body
 scope:fd.scope = F.scope
 nv:F.nv = true
 lam:∀ c P q q',de F.scope = some (c,P,q,q')→fd.code = .ref c∧fd.qualname ++ ".<locals>." = q
 globals:fd.globals = mainGlobals
 closure:fd.closure = []
 builtins:fd.builtins = builtinsNs
 binds:∀ s,GG W s.heap→∀ vs:List Value,ks.any (Nat.beq vs.length) = true→(vs ++ F.more vs.length).length = F.names.length∧BindsTo s fd ⟨vs,[]⟩ (F.names.zip (vs ++ F.more vs.length))
theorem x7 {W:ab} {V:Vw} {x:Str} {a:AV}:∀ {names:List Str} {vs:List Value} {as:List AV},ai W V vs as→lk x (names.zip as) = some a→(∃ v,(names.zip vs).lookup x = some v∧Rel W V v a)∧x∈names
 | _::_,_,[],_,e=>(by exact ar e)
 | y::ys,_,b::as,r,e=>by
  obtain ⟨h,r⟩:=r
  rw [List.zip_cons_cons,dc] at e
  rw [List.zip_cons_cons,List.lookup_cons]
  split at e
  ·rename_i q; rw [q,beq_self_eq_true]; exact ⟨⟨_,rfl,Option.some.inj e▸h⟩,.head _⟩
  ·rename_i q; rw [beq_eq_false_iff_ne.mpr q]; exact let ⟨a,b⟩:=x7 r e; ⟨a,.tail _ b⟩
theorem x8 {k:Str→Option NameKind} {x:Str}:∀ {l:List (Str×Value)} {m:Str→Option Value},(∀ p∈l,p.1≠x)→bindL k l m x = m x
 | [],_,_=>rfl
 | (n,v)::r,m,h=>by
  unfold bindL
  rw [x8 fun p hp=>h p (.tail _ hp)]
  split
  ·exact if_neg fun q=>h (n,v) (.head _) q.symm
  ·rfl
theorem x9 {k:Str→Option NameKind} {x:Str}:∀ {l:List (Str×Value)} {m:Str→Option Value},(∀ p∈l,p.1≠x)→PySem.bindC k l m x = m x
 | [],_,_=>rfl
 | (n,v)::r,m,h=>by
  unfold PySem.bindC
  rw [x9 fun p hp=>h p (.tail _ hp)]
  split
  ·rfl
  ·exact if_neg fun q=>h (n,v) (.head _) q.symm
theorem ya {k:Str→Option NameKind} {x:Str} {v:Value}:∀ {names:List Str} {vs:List Value} {m:Str→Option Value},names.Nodup→(names.zip vs).lookup x = some v→k x = some .local→bindL k (names.zip vs) m x = some v
 | [],_,_,_,e,_=>by exact ar e
 | _::_,[],_,_,e,_=>by exact ar e
 | y::ys,w::ws,m,nd,e,hk=>by
  obtain ⟨ny,nd⟩:=List.nodup_cons.mp nd
  rw [List.zip_cons_cons] at e ⊢
  rw [List.lookup_cons] at e
  unfold bindL
  by_cases q:x = y
  ·subst q
   rw [beq_self_eq_true] at e
   cases e
   rw [x8 fun p hp q=>ny (by rw [← q]; exact (List.of_mem_zip (a:=p.1) (b:=p.2) hp).1),if_pos hk]; exact if_pos rfl
  ·rw [beq_eq_false_iff_ne.mpr q] at e
   exact ya nd e hk
theorem yb {k:Str→Option NameKind} {x:Str} {v:Value}:∀ {names:List Str} {vs:List Value} {m:Str→Option Value},names.Nodup→(names.zip vs).lookup x = some v→k x = some .cell→PySem.bindC k (names.zip vs) m x = some v
 | [],_,_,_,e,_=>by exact ar e
 | _::_,[],_,_,e,_=>by exact ar e
 | y::ys,w::ws,m,nd,e,hk=>by
  obtain ⟨ny,nd⟩:=List.nodup_cons.mp nd
  rw [List.zip_cons_cons] at e ⊢
  rw [List.lookup_cons] at e
  unfold PySem.bindC
  by_cases q:x = y
  ·subst q
   rw [beq_self_eq_true] at e
   cases e
   rw [x9 fun p hp q=>ny (by rw [← q]; exact (List.of_mem_zip (a:=p.1) (b:=p.2) hp).1),if_neg (by rw [hk]; exact fun z=>(by cases z))]; exact if_pos rfl
  ·rw [beq_eq_false_iff_ne.mpr q] at e
   exact yb nd e hk
theorem hV {x:Str}:∀ {l:List (Str×NameKind)} {n:Nat} {acc:List (Str×Addr)},(l.lookup x = some .cell∨(acc.lookup x).isSome = true)→((cellsFrom n l acc).lookup x).isSome = true
 | [],_,_,.inl h=>by exact ar h
 | [],_,_,.inr h=>h
 | (y,k)::l,n,acc,h=>by
  unfold cellsFrom
  by_cases q:x = y
  ·subst q
   split
   ·refine hV (.inr ?_)
    rw [List.lookup_cons,beq_self_eq_true]; rfl
   ·rename_i hk
    refine hV ?_
    rcases h with h | h
    ·rw [List.lookup_cons,beq_self_eq_true] at h
     cases h; exact absurd rfl hk
    ·exact .inr h
  ·split
   ·refine hV ?_
    rcases h with h | h
    ·rw [List.lookup_cons,beq_eq_false_iff_ne.mpr q] at h; exact .inl h
    ·right; rw [List.lookup_cons,beq_eq_false_iff_ne.mpr q]; exact h
   ·refine hV ?_
    rcases h with h | h
    ·rw [List.lookup_cons,beq_eq_false_iff_ne.mpr q] at h; exact .inl h
    ·exact .inr h
theorem Gk {prog:Program} {w:World} {A:Around} {s:Shared} {R:Result→Shared→Prop} {a:Addr} {o:Obj} {fd:FuncData} {body:List Stmt} {vals:List Value} {binds:List (Str×Value)}
  (hroom:A.depth < recursionLimit) (ho:s.heap.get? a = some o) (hdata:o.data = .func fd) (hlim:s.heap.NoLimit) (hcd:s.heap.CodeRec fd.code fd.qualname)
  (hbody:fd.body = .stmts body) (hbind:BindsTo s fd ⟨vals,[]⟩ binds) (hclo:fd.closure = [])
  (hkind:∀ x∈binds,fd.scope.names.lookup x.1 = some .local∨(fd.scope.names.lookup x.1 = some .cell∧((cellsFrom (s.heap.objs.size + 1) fd.scope.names []).lookup x.1).isSome = true))
  (h:∀ s₁,InCallC s (callEnvC fd s.heap.objs.size a).locals (bindL (callEnvC fd s.heap.objs.size a).kindOf binds fun _=>none) (callEnvC fd s.heap.objs.size a).cells
    (PySem.bindC (callEnvC fd s.heap.objs.size a).kindOf binds fun _=>none) s₁→
   wpAny (model prog w) (A.deeper (callEnvC fd s.heap.objs.size a)) (execs body (callEnvC fd s.heap.objs.size a)) (fun f s'=>R (.ok (.ret (match f with | .ret v=>v | _=>.none))) s')
    (fun e s'=>wpAny (model prog w) (A.deeper (callEnvC fd s.heap.objs.size a)) («leaving» (callEnvC fd s.heap.objs.size a) e) (fun _ s''=>R (.error e) s'') (fun e' s''=>R (.error e') s'') s') s₁)
  (hco:fd.scope.isCoroutine = false) (hgen:fd.scope.isGenerator = false) (hk:fd.scope.kind = .function):
  codeAny (model prog w) A (.call (.ref a) ⟨vals,[]⟩) R s:=by
 refine codeAny_call_function hroom ho hdata hco hgen hbody hcd (hbind _ _ _ _ ?_)
 rw [hclo]
 refine wpAny_newFunctionEnv_cells hk hkind fun env he s' x=>?_
 subst he
 exact ⟨hlim.keeps x.toInCall.keep,codeAny_func (h s' x)⟩
variable {W:ab} {d:Nat} {own own1:Own} {ad:List Addr}
theorem aO.map {U U':AS} {p:Pt} {h':Heap} (O:aO W U p) (l:(vw U p).Le (vw U' ⟨p.own,p.ad,h'⟩)) (nu:∀ u,ao p.own p.ad u→¬U' u) (k:∀ u o,ao p.own p.ad u→p.h.get? u = some o→bB o = false→h'.get? u = some o):aO W U' ⟨p.own,p.ad,h'⟩:=
 ⟨O.len,fun n pv a z=>let ⟨_,o,e,r⟩:=O.obj n pv a z; ⟨nu _ ⟨n,pv,z⟩,o,k _ _ ⟨n,pv,z⟩ e r.soft.2,r.mono l⟩,fun n t e=>let ⟨a,e,r⟩:=O.fz n t e; ⟨a,e,r.mono l⟩,O.inj,O.top⟩
structure yc (c:aj W d sc) (A:Around) (U:AS) (own:Own) (ad:List Addr) (s:Shared):Prop where
 A:c.A = A.deeper c.env
 X:c.X = U
 h:c.h₀ = aQ (ao own ad) s.heap
 ad:c.ad = ad
 fr:c.env.frame = some c.env.locals
 new:s.heap.get? c.env.locals = none
theorem kl {f:Addr} {fd:FuncData} {F:Fn} {ks:List Nat} (X:gp W f fd F ks) {A:Around} (a:dh (d + 1) A) {U:AS} {s:Shared} {vs:List Value} {as:List AV} {R':Result→Shared→Prop} (ht:d9 F.scope = true→A.frames = some []) (hk:ks.any (Nat.beq as.length) = true) (Bs:Base W U s.heap) (O:aO W U ⟨own,ad,s.heap⟩) (hr:ai W (vw U ⟨own,ad,s.heap⟩) vs as)
  (body:∀ (c:aj W d ⟨F.scope,true⟩) hp1 tk1,yc c A U own ad s→SV c (F.fill as) ⟨own,ad,hp1⟩→ay W c.A (execs F.body c.env) (fun fl s'=>R' (.ok (.ret (match fl with | .ret v=>v | _=>.none))) s')
   (fun e s'=>ay W c.A («leaving» c.env e) (fun _ s''=>R' (.error e) s'') (fun e' s''=>R' (.error e') s'') s') (mv s hp1 tk1)):codeAny (model pg W.w) A (.call (.ref f) ⟨vs,[]⟩) R' s:=by
 refine af fun nG=>?_
 have hvl:=hr.length
 rw [← hvl] at hk
 obtain ⟨hl,hb⟩:=X.binds s Bs.G vs hk
 have rall:ai W (vw U ⟨own,ad,s.heap⟩) (vs ++ F.more vs.length) (as ++ nk (F.more as.length)):=by rw [← hvl]; exact hr.append (xV _)
 obtain ⟨ob,ho,hdata⟩:=X.obj _ Bs.G
 obtain ⟨k1,k2⟩:=aC X.nv
 obtain ⟨knd,kk⟩:=aC k1
 obtain ⟨k3,k4⟩:=aC k2
 obtain ⟨kf,ksc⟩:=aC k3
 obtain ⟨kco,kgen⟩:=aC k4
 refine nG ?_
 have nd:=xZ knd
 have kf:=beq_iff_eq.mp kf
 have hkind:∀ x∈F.names,F.scope.names.lookup x = some .local∨F.scope.names.lookup x = some .cell:=fun x hx=>Gj (List.all_eq_true.mp kk x hx)
 have hscope:=X.scope
 refine Gk (binds:=F.names.zip (vs ++ F.more vs.length)) (by have:=a.depth; show A.depth < recursionLimit; unfold recursionLimit; lia) ho hdata Bs.G.nolimit (X.code _ Bs.G) X.body hb X.closure
  (fun x hx=>?_) (fun s₁ ic=>?_) (by rw [hscope]; exact (Bool.not_eq_true' _).mp kco) (by rw [hscope]; exact (Bool.not_eq_true' _).mp kgen) (by rw [hscope]; exact kf)
 ·have hm:x.1∈F.names:=(List.of_mem_zip (a:=x.1) (b:=x.2) hx).1
  rw [hscope]
  exact (hkind _ hm).imp id fun q=>⟨q,hV (.inl q)⟩
 ·generalize henv:callEnvC fd s.heap.objs.size f = env at ic ⊢
  refine af fun nG=>?_
  have esc:env.scope = F.scope:=by rw [← henv]; exact hscope
  have eloc:env.locals = s.heap.objs.size:=by rw [← henv]; rfl
  have ecel:env.cells = cellsFrom (s.heap.objs.size + 1) F.scope.names []:=by rw [← henv,← hscope]; rfl
  have eok:eY env:=⟨by rw [esc]; exact kf,by rw [← henv]; exact X.globals,by rw [← henv]; exact X.builtins,fun x q=>xY ksc (by rw [← esc]; exact q),fun c P q q' z=>by rw [esc] at z; obtain ⟨z1,z2⟩:=X.lam c P q q' z; rw [← henv]; exact ⟨z1,z2⟩⟩
  obtain ⟨⟨⟨hp1,tk1,rfl⟩,hns,hk,hfr⟩,hcell,hap,hab⟩:=ic
  refine nG ?_
  have kp:ag s.heap hp1:=.of hk
  have dJ:∀ x,env.kindOf x = F.scope.names.lookup x:=fun x=>by show env.scope.names.lookup x = _; rw [esc]
  have nB:∀ u,(u = env.locals∨∃ x,env.cells.lookup x = some u)→s.heap.get? u = none:=fun u hu=>by
   have:s.heap.objs.size≤u:=hu.elim (fun q=>by rw [q,eloc]; exact Nat.le_refl _) fun ⟨x,q⟩=>by have:=hab x u (i0 q); rw [eloc] at this; exact Nat.le_of_lt this
   cases e:s.heap.get? u with
   | none=>rfl
   | some o=>exact absurd (Heap.lt_size e) (Nat.not_lt.mpr this)
  have hH:ag (aQ (ao own ad) s.heap) s.heap:=ag.dQ
  let c:aj W d ⟨F.scope,true⟩:={ A:=A.deeper env,env:=env,h₀:=aQ (ao own ad) s.heap,X:=U,B:=(fun u=>u = env.locals∨∃ x,env.cells.lookup x = some u),ad:=ad,a:=⟨a.handled,(by have:=a.depth; show A.depth + 1 + d≤900; lia),(by have:=a.units; show A.units + 3 + 3 * d≤9000; lia)⟩,K:=eok,es:=esc,G:=(aw.hide Bs.G fun u z=>⟨O.top u z,O.low z⟩),out:=(fun u hu=>let ⟨o,e⟩:=Bs.low u hu; ⟨o,a9.mpr ⟨e,fun z=>O.nU z hu⟩⟩),base:=.inl rfl,cls:=(fun x c e=>.inl (.inr ⟨x,e⟩)),cel:=fun _=>⟨fun x c _ e=>.inr ⟨x,e⟩,fun x y c e1 e2=>name_of_addr hap (i0 e1) (i0 e2),fun x q=>Option.isSome_iff_exists.mp (by rw [ecel]; exact hV (.inl ((dJ x).symm.trans q)))⟩,top:=fun _ q=>⟨Around.frames_deeper (ht q),by rw [← henv]; rfl⟩ }
  have l:(vw U ⟨own,ad,s.heap⟩).Le (vw c.U ⟨own,ad,hp1⟩):=⟨kp.sub fun b o e n=>⟨id,fun q=>q.elim (fun q=>q.elim (fun q=>n (.inl q)) fun q=>eV e (nB b q) rfl) fun q=>n (.inr q)⟩,fun _ _ e=>e⟩
  refine body c hp1 tk1 ⟨rfl,rfl,rfl,rfl,(show env.frame = some env.locals by rw [← henv]; rfl),nB _ (.inl rfl)⟩ ⟨fun _ _ e=>e,hH.trans kp,O.map l (fun u z q=>q.elim (O.nU z) fun q=>by obtain ⟨o,e,_⟩:=O.low z; exact eV e (nB u q) rfl) (fun _ _ _ e=>kp.gj e),fun u z=>fD (.inl z),fun u q=>⟨fD (.inr (nB u q)),?_⟩,⟨_,hns⟩,fun x u e=>⟨_,hcell x u e⟩,fun x b e=>?_⟩
  ·rcases q with q | ⟨x,q⟩
   ·rw [q]; exact .ns hns
   ·exact .cell (hcell x u q)
  ·refine af fun nG=>?_
   obtain ⟨⟨v,hv,r⟩,hx⟩:=x7 rall e
   refine nG ?_
   rcases hkind x hx with q | q
   ·exact .loc ((dJ x).trans q) hns (ya nd hv ((dJ x).trans q)) (r.mono l)
   ·refine af fun nG=>?_
    have hz:=(eok.names x (by rw [esc,q]; exact fun z=>(by exact c9 z))).2
    obtain ⟨c1,hc1⟩:=Option.isSome_iff_exists.mp (hV (n:=s.heap.objs.size + 1) (acc:=[]) (.inl q:F.scope.names.lookup x = some .cell∨_))
    refine nG ?_
    rw [← ecel] at hc1
    have:=hcell x c1 hc1
    rw [yb nd hv ((dJ x).trans q)] at this
    exact .cel (.inl ((dJ x).trans q)) hz hc1 this (r.mono l)
theorem gp.keep {f:Addr} {fd:FuncData} {F:Fn} {ks:List Nat} (X:gp W f fd F ks):ee W (.ref f):=fun h G=>let ⟨o,ho,hd⟩:=X.obj h G; ⟨.frame,.inl rfl,(Looks.ld ho).andThen (by rw [hd]; exact .now)⟩
noncomputable def kq (W:ab) (d:Nat) (f:Addr) (own:Own) (as:List AV) (r:AV) (own':Own):Prop:=∀ A,dh d A→∀ U ad s vs (R:Result→Shared→Prop),Base W U s.heap→aO W U ⟨own,ad,s.heap⟩→ai W (vw U ⟨own,ad,s.heap⟩) vs as→Fin W U ⟨own,ad,s.heap⟩ s own' (fun V v=>Rel W V v r) (fun v s'=>R (.ok (.ret v)) s')→codeAny (model pg W.w) A (.call (.ref f) ⟨vs,[]⟩) R s
theorem yd {f:Addr} {fd:FuncData} {F:Fn} {ks:List Nat} (X:gp W f fd F ks) {as:List AV} {r:AV} (ht:d9 F.scope = false) (hk:ks.any (Nat.beq as.length) = true) (h:∀ c:aj W d ⟨F.scope,true⟩,aB c (F.fill as) own (execs F.body c.env) (.ret r own1)∨∃ σ,aB c (F.fill as) own (execs F.body c.env) (.next σ own1)∧r = .none):kq W (d + 1) f own as r own1:=fun A a U ad s vs R B O rl G=>kl X a (fun q=>by rw [ht] at q; exact aS q) hk B O rl fun c hp1 tk1 en S=>by
 rcases h c with h1 | ⟨σ,h1,rfl⟩
 ·exact h1 _ ad _ _ S fun v h' tk ad' S' r'=>by
   have k:=S'.leave (p:=⟨own,ad,s.heap⟩) en.h (fun _ _ e=>en.ad▸e)
   rw [en.X] at k
   exact G v h' tk ad' k (r'.mono (en.X▸S'.EL))
 ·exact h1 _ ad _ _ S fun h' tk ad' S'=>by
   have k:=S'.leave (p:=⟨own,ad,s.heap⟩) en.h (fun _ _ e=>en.ad▸e)
   rw [en.X] at k
   exact G .none h' tk ad' k rfl
theorem kq.tells {f:Addr} {fd:FuncData} {F:Fn} {ks:List Nat} (X:gp W f fd F ks) {as:List AV} {r:AV} (h:kq W d f own as r own1):Tells W d (.ref f) own as r own1:=⟨X.keep,fun A a U ad s vs Q E B O rl G=>wpAny_call (h A a U ad s vs _ B O rl G)⟩
end
end Mine
end
section
set_option backward.match.sparseCases false
open PySem PySem.W PyProof.Rows PySem.Calls
set_option maxRecDepth 100000
namespace Mine
structure FE where
 a:Addr
 st:Stmt
 dT:Option Addr
 dv:List Value
 ks:List Nat
noncomputable def Gl:Stmt→Str
 | .FunctionDef n _ _ _ _ _ _ _ _ _=>n
 | _=>default
noncomputable def ye:Stmt→Arguments
 | .FunctionDef _ p _ _ _ _ _ _ _ _=>p
 | _=>⟨[],[],none,[],[],none,[]⟩
noncomputable def rd:Stmt→List Stmt
 | .FunctionDef _ _ b _ _ _ _ _ _ _=>b
 | _=>[]
noncomputable def ku:Stmt→Scope
 | .FunctionDef _ _ _ _ _ _ s _ _ _=>s
 | _=>default
noncomputable def FE.F (e:FE):Fn:=⟨(ye e.st).args.map (·.arg),e.dv,rd e.st,ku e.st⟩
noncomputable def fH (o:Option Obj):Str×Addr×Value:=match o with
 | some ⟨_,_,.func fd,_⟩=>(fd.qualname,(match fd.code with | .ref c=>c | _=>0),fd.pyModule)
 | _=>(⟨#[]⟩,0,.none)
noncomputable def Gm:Option Addr→Value
 | some T=>.ref T
 | none=>.none
noncomputable def nx (P:Params) (e:FE):FuncData:={ name:=Gl e.st,qualname:=(fH (aP (br P) e.a)).1,params:=ye e.st,body:=.stmts (rd e.st),scope:=ku e.st,globals:=mainGlobals,closure:=[],defaults:=Gm e.dT,kwdefaults:=.none,pyModule:=(fH (aP (br P) e.a)).2.2,code:=.ref (fH (aP (br P) e.a)).2.1,builtins:=builtinsNs }
noncomputable def yf (P:Params) (e:FE):Bool:=match de (ku e.st) with
 | none=>true
 | some (c',_,q',_)=>aH (Nat.beq (fH (aP (br P) e.a)).2.1 c') (sEq ((fH (aP (br P) e.a)).1 ++ ".<locals>.") q')
noncomputable def rg {α:Type} (t:Sem α) (T:Addr) (o:Obj):Option (Sem α):=match t with
 | .load a _ k=>cond (Nat.beq a T) (some (k o)) none
 | _=>none
theorem Gn {α:Type} {t t':Sem α} {T:Addr} {o:Obj} (e:rg t T o = some t'):∃ i k,t = .load T i k∧t' = k o:=by
 cases t with
 | load a i k=>
  rcases eO e with ⟨q,e⟩ | ⟨-,e⟩
  ·exact ⟨i,k,Nat.eq_of_beq_eq_true q▸rfl,(Option.some.inj e).symm⟩
  ·exact ar e
 | _=>exact ar e
theorem Gq {α:Type} {M:Model} {A:Around} {t t':Sem α} {T:Addr} {o:Obj} {Q:α→Shared→Prop} {E:Value→Shared→Prop} {s:Shared} (e:rg t T o = some t') (ho:s.heap.get? T = some o) (h:wpAny M A t' Q E s):wpAny M A t Q E s:=by
 obtain ⟨i,k,rfl,rfl⟩:=Gn e
 exact fun Γ p hΓ=>⟨o,ho,h Γ p hΓ⟩
noncomputable def yg {α:Type} (t:Sem α):Option (Addr×Obj)→Option (Sem α)
 | none=>some t
 | some (T,o)=>rg t T o
theorem Gr {α:Type} {M:Model} {A:Around} {t t':Sem α} {Q:α→Shared→Prop} {E:Value→Shared→Prop} {s:Shared}:∀ {d:Option (Addr×Obj)},yg t d = some t'→(∀ T o,d = some (T,o)→s.heap.get? T = some o)→wpAny M A t' Q E s→wpAny M A t Q E s
 | none,e,_,h=>Option.some.inj e▸h
 | some (T,o),e,ho,h=>Gq e (ho T o rfl) h
noncomputable def nz (e:FE):Option (Addr×Obj):=match e.dT with
 | some T=>some (T,⟨.type "tuple",none,.seq e.dv.toArray 0,#[]⟩)
 | none=>none
noncomputable def ky:Nat→(List Value→Prop)→Prop
 | 0,P=>P []
 | k + 1,P=>∀ v,ky k fun l=>P (v::l)
theorem ky.all {k:Nat}:∀ {P:List Value→Prop},ky k P→∀ vs,vs.length = k→P vs:=by
 induction k with
 | zero=>exact fun h vs e=>List.eq_nil_of_length_eq_zero e▸h
 | succ k ih=>
  intro P h vs e
  cases vs with
  | nil=>cases e
  | cons v vs=>exact ih (h v) vs (Nat.succ.inj e)
structure BP (P:Params) (e:FE) (vs:List Value):Prop where
 len:(vs ++ e.F.more vs.length).length = e.F.names.length
 run:yg (bindArgs (nx P e) ⟨vs,[]⟩) (nz e) = some (pure (e.F.names.zip (vs ++ e.F.more vs.length)))
noncomputable def i4 (P:Params) (e:FE):List Nat→Prop
 | []=>True
 | k::ks=>ky k (BP P e)∧i4 P e ks
noncomputable def AllB (P:Params):List FE→Prop
 | []=>True
 | e::l=>i4 P e e.ks∧AllB P l
noncomputable def FT:List FE:=[
 ⟨36,az 2 0,some 29,[.none],[2]⟩,
 ⟨80,ae 5,none,[],[1]⟩,
 ⟨87,ae 6,none,[],[2]⟩,
 ⟨101,ae 8,none,[],[2]⟩,
 ⟨122,ae 11,none,[],[2]⟩,
 ⟨129,ae 17,none,[],[0]⟩,
 ⟨136,ae 18,none,[],[1]⟩,
 ⟨143,ae 19,none,[],[1]⟩,
 ⟨150,ae 20,none,[],[1]⟩,
 ⟨157,ae 21,none,[],[1]⟩,
 ⟨164,ae 22,none,[],[1]⟩,
 ⟨171,ae 23,none,[],[1]⟩,
 ⟨178,ae 24,none,[],[1]⟩,
 ⟨185,ae 25,none,[],[2]⟩,
 ⟨199,ae 27,none,[],[2]⟩,
 ⟨206,ae 28,none,[],[3]⟩,
 ⟨219,az 29 0,some 214,[(.int (0) 438),(.int (-1) 440),(.int (0) 441),(.int (0) 442),(.bool false)],[4,5,7,9]⟩,
 ⟨233,az 29 2,none,[],[1]⟩,
 ⟨247,az 29 4,none,[],[1]⟩,
 ⟨275,ae 30,none,[],[2]⟩,
 ⟨303,az 36 0,none,[],[2]⟩,
 ⟨345,az 37 0,none,[],[2]⟩,
 ⟨379,az 38 0,some 372,[(.str ⟨#[]⟩ 640)],[2,3]⟩,
 ⟨413,az 39 0,some 406,[(.str ⟨#[]⟩ 682)],[2,3]⟩,
 ⟨454,az 40 0,some 447,[(.int (0) 732),(.str ⟨#[]⟩ 733),(.str ⟨#[]⟩ 734)],[7,8]⟩,
 ⟨480,az 40 4,none,[],[1]⟩,
 ⟨507,az 41 0,some 500,[(.str ⟨#[]⟩ 808)],[3]⟩,
 ⟨552,ae 42,none,[],[1]⟩,
 ⟨559,ae 43,none,[],[1]⟩,
 ⟨566,ae 44,none,[],[1]⟩,
 ⟨573,ae 45,none,[],[1]⟩,
 ⟨580,ae 51,none,[],[3]⟩,
 ⟨587,ae 52,none,[],[1]⟩,
 ⟨594,ae 53,none,[],[3]⟩,
 ⟨601,ae 54,none,[],[3]⟩,
 ⟨608,ae 55,none,[],[1]⟩,
 ⟨615,ae 56,none,[],[1]⟩,
 ⟨629,az 57 0,none,[],[7]⟩,
 ⟨636,az 57 1,none,[],[1]⟩,
 ⟨657,az 57 4,none,[],[1]⟩,
 ⟨671,ae 58,none,[],[1]⟩,
 ⟨678,ae 59,none,[],[1]⟩,
 ⟨685,ae 60,none,[],[1]⟩,
 ⟨692,ae 61,none,[],[1]⟩,
 ⟨699,ae 62,none,[],[1]⟩,
 ⟨706,ae 63,none,[],[1]⟩,
 ⟨713,ae 64,none,[],[1]⟩,
 ⟨720,ae 65,none,[],[1]⟩,
 ⟨727,ae 66,none,[],[1]⟩,
 ⟨734,ae 67,none,[],[3]⟩,
 ⟨741,ae 76,none,[],[4]⟩,
 ⟨755,ae 78,none,[],[1]⟩,
 ⟨762,ae 79,none,[],[1]⟩,
 ⟨777,az 80 0,some 770,[(.str ⟨#[]⟩ 1166),(.bool false),(.int (0) 1167),(.bool false),(.int (-1) 1169)],[6]⟩,
 ⟨812,az 80 5,none,[],[1]⟩,
 ⟨833,az 82 0,none,[],[6]⟩,
 ⟨868,az 83 0,none,[],[5]⟩,
 ⟨894,ae 84,none,[],[3]⟩,
 ⟨901,ae 85,none,[],[1]⟩,
 ⟨908,ae 86,none,[],[2]⟩,
 ⟨915,ae 87,none,[],[1]⟩,
 ⟨922,ae 88,none,[],[5]⟩,
 ⟨929,ae 89,none,[],[2]⟩,
 ⟨936,ae 90,none,[],[2]⟩,
 ⟨943,ae 91,none,[],[1]⟩,
 ⟨950,ae 92,none,[],[5]⟩,
 ⟨955,ae 93,none,[],[2]⟩,
 ⟨962,ae 94,none,[],[2]⟩,
 ⟨970,ae 95,some 963,[.none],[3]⟩,
 ⟨977,ae 96,none,[],[2]⟩,
 ⟨982,ae 97,none,[],[2]⟩,
 ⟨989,ae 98,none,[],[3]⟩,
 ⟨996,ae 99,none,[],[2]⟩,
 ⟨1001,ae 100,none,[],[2]⟩,
 ⟨1009,ae 101,some 1002,[(.int (0) 1503)],[3]⟩,
 ⟨1016,ae 102,none,[],[3]⟩,
 ⟨1023,ae 104,none,[],[0]⟩,
 ⟨1030,ae 105,none,[],[0]⟩,
 ⟨1037,ae 106,none,[],[0]⟩,
 ⟨1042,ae 108,none,[],[1]⟩,
 ⟨1056,az 109 0,none,[],[2]⟩,
 ⟨1068,az 109 2,none,[],[2]⟩,
 ⟨1125,ae 111,some 1118,[(.int (-1) 1659),(.int (0) 1660)],[3]⟩,
 ⟨1132,ae 112,none,[],[2]⟩,
 ⟨1139,ae 113,none,[],[0]⟩,
 ⟨1153,az 119 0,none,[],[5]⟩,
 ⟨1160,az 119 1,none,[],[1]⟩,
 ⟨1167,az 119 2,none,[],[1]⟩,
 ⟨1181,az 119 4,none,[],[1]⟩,
 ⟨1202,ae 120,none,[],[1]⟩,
 ⟨1209,ae 121,none,[],[1]⟩,
 ⟨1216,ae 122,none,[],[2]⟩,
 ⟨1223,ae 123,none,[],[0]⟩,
 ⟨1230,ae 125,none,[],[3]⟩,
 ⟨1237,ae 126,none,[],[3]⟩,
 ⟨1244,ae 127,none,[],[1]⟩,
 ⟨1251,ae 128,none,[],[3]⟩,
 ⟨1258,ae 129,none,[],[3]⟩,
 ⟨1263,ae 130,none,[],[4]⟩,
 ⟨1268,ae 131,none,[],[2]⟩,
 ⟨1275,ae 132,none,[],[2]⟩,
 ⟨1282,ae 133,none,[],[2]⟩,
 ⟨1289,ae 134,none,[],[5]⟩,
 ⟨1294,ae 135,none,[],[1]⟩]
theorem Gs (P:Params):FT.map (fun e=>aP (br P) e.a) = FT.map fun e=>some ⟨.type "function",none,.func (nx P e),#[]⟩:=by kernel_rfl
theorem Gu (P:Params):FT.map (fun e=>(nz e).map fun d=>aP (br P) d.1) = FT.map fun e=>(nz e).map fun d=>some d.2:=by kernel_rfl
theorem Gv (P:Params):(FT.all fun e=>aH e.F.nv (yf P e)) = true:=by kernel_rfl
theorem Gw (P:Params):AllB P FT:=
 ⟨⟨fun _ _=>⟨rfl,by kernel_rfl⟩,trivial⟩,
 ⟨⟨fun _=>⟨rfl,by kernel_rfl⟩,trivial⟩,
 ⟨⟨fun _ _=>⟨rfl,by kernel_rfl⟩,trivial⟩,
 ⟨⟨fun _ _=>⟨rfl,by kernel_rfl⟩,trivial⟩,
 ⟨⟨fun _ _=>⟨rfl,by kernel_rfl⟩,trivial⟩,
 ⟨⟨⟨rfl,by kernel_rfl⟩,trivial⟩,
 ⟨⟨fun _=>⟨rfl,by kernel_rfl⟩,trivial⟩,
 ⟨⟨fun _=>⟨rfl,by kernel_rfl⟩,trivial⟩,
 ⟨⟨fun _=>⟨rfl,by kernel_rfl⟩,trivial⟩,
 ⟨⟨fun _=>⟨rfl,by kernel_rfl⟩,trivial⟩,
 ⟨⟨fun _=>⟨rfl,by kernel_rfl⟩,trivial⟩,
 ⟨⟨fun _=>⟨rfl,by kernel_rfl⟩,trivial⟩,
 ⟨⟨fun _=>⟨rfl,by kernel_rfl⟩,trivial⟩,
 ⟨⟨fun _ _=>⟨rfl,by kernel_rfl⟩,trivial⟩,
 ⟨⟨fun _ _=>⟨rfl,by kernel_rfl⟩,trivial⟩,
 ⟨⟨fun _ _ _=>⟨rfl,by kernel_rfl⟩,trivial⟩,
 ⟨⟨fun _ _ _ _=>⟨rfl,by kernel_rfl⟩,⟨fun _ _ _ _ _=>⟨rfl,by kernel_rfl⟩,⟨fun _ _ _ _ _ _ _=>⟨rfl,by kernel_rfl⟩,⟨fun _ _ _ _ _ _ _ _ _=>⟨rfl,by kernel_rfl⟩,trivial⟩⟩⟩⟩,
 ⟨⟨fun _=>⟨rfl,by kernel_rfl⟩,trivial⟩,
 ⟨⟨fun _=>⟨rfl,by kernel_rfl⟩,trivial⟩,
 ⟨⟨fun _ _=>⟨rfl,by kernel_rfl⟩,trivial⟩,
 ⟨⟨fun _ _=>⟨rfl,by kernel_rfl⟩,trivial⟩,
 ⟨⟨fun _ _=>⟨rfl,by kernel_rfl⟩,trivial⟩,
 ⟨⟨fun _ _=>⟨rfl,by kernel_rfl⟩,⟨fun _ _ _=>⟨rfl,by kernel_rfl⟩,trivial⟩⟩,
 ⟨⟨fun _ _=>⟨rfl,by kernel_rfl⟩,⟨fun _ _ _=>⟨rfl,by kernel_rfl⟩,trivial⟩⟩,
 ⟨⟨fun _ _ _ _ _ _ _=>⟨rfl,by kernel_rfl⟩,⟨fun _ _ _ _ _ _ _ _=>⟨rfl,by kernel_rfl⟩,trivial⟩⟩,
 ⟨⟨fun _=>⟨rfl,by kernel_rfl⟩,trivial⟩,
 ⟨⟨fun _ _ _=>⟨rfl,by kernel_rfl⟩,trivial⟩,
 ⟨⟨fun _=>⟨rfl,by kernel_rfl⟩,trivial⟩,
 ⟨⟨fun _=>⟨rfl,by kernel_rfl⟩,trivial⟩,
 ⟨⟨fun _=>⟨rfl,by kernel_rfl⟩,trivial⟩,
 ⟨⟨fun _=>⟨rfl,by kernel_rfl⟩,trivial⟩,
 ⟨⟨fun _ _ _=>⟨rfl,by kernel_rfl⟩,trivial⟩,
 ⟨⟨fun _=>⟨rfl,by kernel_rfl⟩,trivial⟩,
 ⟨⟨fun _ _ _=>⟨rfl,by kernel_rfl⟩,trivial⟩,
 ⟨⟨fun _ _ _=>⟨rfl,by kernel_rfl⟩,trivial⟩,
 ⟨⟨fun _=>⟨rfl,by kernel_rfl⟩,trivial⟩,
 ⟨⟨fun _=>⟨rfl,by kernel_rfl⟩,trivial⟩,
 ⟨⟨fun _ _ _ _ _ _ _=>⟨rfl,by kernel_rfl⟩,trivial⟩,
 ⟨⟨fun _=>⟨rfl,by kernel_rfl⟩,trivial⟩,
 ⟨⟨fun _=>⟨rfl,by kernel_rfl⟩,trivial⟩,
 ⟨⟨fun _=>⟨rfl,by kernel_rfl⟩,trivial⟩,
 ⟨⟨fun _=>⟨rfl,by kernel_rfl⟩,trivial⟩,
 ⟨⟨fun _=>⟨rfl,by kernel_rfl⟩,trivial⟩,
 ⟨⟨fun _=>⟨rfl,by kernel_rfl⟩,trivial⟩,
 ⟨⟨fun _=>⟨rfl,by kernel_rfl⟩,trivial⟩,
 ⟨⟨fun _=>⟨rfl,by kernel_rfl⟩,trivial⟩,
 ⟨⟨fun _=>⟨rfl,by kernel_rfl⟩,trivial⟩,
 ⟨⟨fun _=>⟨rfl,by kernel_rfl⟩,trivial⟩,
 ⟨⟨fun _=>⟨rfl,by kernel_rfl⟩,trivial⟩,
 ⟨⟨fun _ _ _=>⟨rfl,by kernel_rfl⟩,trivial⟩,
 ⟨⟨fun _ _ _ _=>⟨rfl,by kernel_rfl⟩,trivial⟩,
 ⟨⟨fun _=>⟨rfl,by kernel_rfl⟩,trivial⟩,
 ⟨⟨fun _=>⟨rfl,by kernel_rfl⟩,trivial⟩,
 ⟨⟨fun _ _ _ _ _ _=>⟨rfl,by kernel_rfl⟩,trivial⟩,
 ⟨⟨fun _=>⟨rfl,by kernel_rfl⟩,trivial⟩,
 ⟨⟨fun _ _ _ _ _ _=>⟨rfl,by kernel_rfl⟩,trivial⟩,
 ⟨⟨fun _ _ _ _ _=>⟨rfl,by kernel_rfl⟩,trivial⟩,
 ⟨⟨fun _ _ _=>⟨rfl,by kernel_rfl⟩,trivial⟩,
 ⟨⟨fun _=>⟨rfl,by kernel_rfl⟩,trivial⟩,
 ⟨⟨fun _ _=>⟨rfl,by kernel_rfl⟩,trivial⟩,
 ⟨⟨fun _=>⟨rfl,by kernel_rfl⟩,trivial⟩,
 ⟨⟨fun _ _ _ _ _=>⟨rfl,by kernel_rfl⟩,trivial⟩,
 ⟨⟨fun _ _=>⟨rfl,by kernel_rfl⟩,trivial⟩,
 ⟨⟨fun _ _=>⟨rfl,by kernel_rfl⟩,trivial⟩,
 ⟨⟨fun _=>⟨rfl,by kernel_rfl⟩,trivial⟩,
 ⟨⟨fun _ _ _ _ _=>⟨rfl,by kernel_rfl⟩,trivial⟩,
 ⟨⟨fun _ _=>⟨rfl,by kernel_rfl⟩,trivial⟩,
 ⟨⟨fun _ _=>⟨rfl,by kernel_rfl⟩,trivial⟩,
 ⟨⟨fun _ _ _=>⟨rfl,by kernel_rfl⟩,trivial⟩,
 ⟨⟨fun _ _=>⟨rfl,by kernel_rfl⟩,trivial⟩,
 ⟨⟨fun _ _=>⟨rfl,by kernel_rfl⟩,trivial⟩,
 ⟨⟨fun _ _ _=>⟨rfl,by kernel_rfl⟩,trivial⟩,
 ⟨⟨fun _ _=>⟨rfl,by kernel_rfl⟩,trivial⟩,
 ⟨⟨fun _ _=>⟨rfl,by kernel_rfl⟩,trivial⟩,
 ⟨⟨fun _ _ _=>⟨rfl,by kernel_rfl⟩,trivial⟩,
 ⟨⟨fun _ _ _=>⟨rfl,by kernel_rfl⟩,trivial⟩,
 ⟨⟨⟨rfl,by kernel_rfl⟩,trivial⟩,
 ⟨⟨⟨rfl,by kernel_rfl⟩,trivial⟩,
 ⟨⟨⟨rfl,by kernel_rfl⟩,trivial⟩,
 ⟨⟨fun _=>⟨rfl,by kernel_rfl⟩,trivial⟩,
 ⟨⟨fun _ _=>⟨rfl,by kernel_rfl⟩,trivial⟩,
 ⟨⟨fun _ _=>⟨rfl,by kernel_rfl⟩,trivial⟩,
 ⟨⟨fun _ _ _=>⟨rfl,by kernel_rfl⟩,trivial⟩,
 ⟨⟨fun _ _=>⟨rfl,by kernel_rfl⟩,trivial⟩,
 ⟨⟨⟨rfl,by kernel_rfl⟩,trivial⟩,
 ⟨⟨fun _ _ _ _ _=>⟨rfl,by kernel_rfl⟩,trivial⟩,
 ⟨⟨fun _=>⟨rfl,by kernel_rfl⟩,trivial⟩,
 ⟨⟨fun _=>⟨rfl,by kernel_rfl⟩,trivial⟩,
 ⟨⟨fun _=>⟨rfl,by kernel_rfl⟩,trivial⟩,
 ⟨⟨fun _=>⟨rfl,by kernel_rfl⟩,trivial⟩,
 ⟨⟨fun _=>⟨rfl,by kernel_rfl⟩,trivial⟩,
 ⟨⟨fun _ _=>⟨rfl,by kernel_rfl⟩,trivial⟩,
 ⟨⟨⟨rfl,by kernel_rfl⟩,trivial⟩,
 ⟨⟨fun _ _ _=>⟨rfl,by kernel_rfl⟩,trivial⟩,
 ⟨⟨fun _ _ _=>⟨rfl,by kernel_rfl⟩,trivial⟩,
 ⟨⟨fun _=>⟨rfl,by kernel_rfl⟩,trivial⟩,
 ⟨⟨fun _ _ _=>⟨rfl,by kernel_rfl⟩,trivial⟩,
 ⟨⟨fun _ _ _=>⟨rfl,by kernel_rfl⟩,trivial⟩,
 ⟨⟨fun _ _ _ _=>⟨rfl,by kernel_rfl⟩,trivial⟩,
 ⟨⟨fun _ _=>⟨rfl,by kernel_rfl⟩,trivial⟩,
 ⟨⟨fun _ _=>⟨rfl,by kernel_rfl⟩,trivial⟩,
 ⟨⟨fun _ _=>⟨rfl,by kernel_rfl⟩,trivial⟩,
 ⟨⟨fun _ _ _ _ _=>⟨rfl,by kernel_rfl⟩,trivial⟩,
 ⟨⟨fun _=>⟨rfl,by kernel_rfl⟩,trivial⟩,
 trivial⟩⟩⟩⟩⟩⟩⟩⟩⟩⟩⟩⟩⟩⟩⟩⟩⟩⟩⟩⟩⟩⟩⟩⟩⟩⟩⟩⟩⟩⟩⟩⟩⟩⟩⟩⟩⟩⟩⟩⟩⟩⟩⟩⟩⟩⟩⟩⟩⟩⟩⟩⟩⟩⟩⟩⟩⟩⟩⟩⟩⟩⟩⟩⟩⟩⟩⟩⟩⟩⟩⟩⟩⟩⟩⟩⟩⟩⟩⟩⟩⟩⟩⟩⟩⟩⟩⟩⟩⟩⟩⟩⟩⟩⟩⟩⟩⟩⟩⟩⟩⟩⟩⟩⟩
theorem i4.at {P:Params} {e:FE} {k:Nat}:∀ {ks:List Nat},i4 P e ks→ks.any (Nat.beq k) = true→ky k (BP P e)
 | j::ks,h,q=>by
  rw [List.any_cons,Bool.or_eq_true] at q
  rcases q with q | q
  ·exact Nat.eq_of_beq_eq_true q▸h.1
  ·exact i4.at h.2 q
theorem AllB.at {P:Params} {e:FE}:∀ {l:List FE},AllB P l→e∈l→i4 P e e.ks
 | x::l,h,m=>by
  rcases List.mem_cons.mp m with rfl | m
  ·exact h.1
  ·exact AllB.at h.2 m
theorem Gx (P:Params):(((br P).filterMap a0).all fun c=>iQ (c.1,default)) = true:=by kernel_rfl
theorem Gy {d:Data} {vs:Array Value} (h:uN d = some vs):d = .fields vs:=by
 cases d with
 | fields vs=>cases h; rfl
 | _=>exact ar h
theorem Gz {v:Value} {x:Str} (h:uO v = some x):∃ t,v = .str x t:=by
 cases v with
 | str _ t=>cases h; exact ⟨t,rfl⟩
 | _=>exact ar h
set_option tactic.hygienic true in
theorem hX {W:ab} {e:FE} (m:e∈FT):gp W e.a (nx W.w.params e) e.F e.ks:=by
 refine af fun nG=>?_
 have ho:aP (br W.w.params) e.a = some _:=cY (Gs W.w.params) m
 obtain ⟨c1,c2⟩:=aC (List.all_eq_true.mp (Gv W.w.params) e m)
 refine nG ?_
 have hs:∀ {h},GG W h→h.get? e.a = some ⟨.type "function",none,.func (nx W.w.params e),#[]⟩:=fun G=>G.get (W.B.fact _ _ ho) rfl
 refine ⟨fun h G=>⟨_,hs G,rfl⟩,fun h G=>?_,rfl,rfl,c1,fun c P q q' z=>?_,rfl,rfl,rfl,fun s G vs hk=>?_⟩
 ·refine af fun nG=>?_
  have hm:((fH (aP (br W.w.params) e.a)).2.1,(fH (aP (br W.w.params) e.a)).1)∈(br W.w.params).filterMap a0:=List.mem_filterMap.mpr ⟨_,mD ho,rfl⟩
  have hn:=W.B.named _ hm
  obtain ⟨vs,hn,hv⟩:=Option.bind_eq_some_iff.mp hn
  obtain ⟨o,he,ho⟩:=Option.bind_eq_some_iff.mp hn
  obtain ⟨v,hv,hx⟩:=Option.bind_eq_some_iff.mp hv
  obtain ⟨t,rfl⟩:=Gz hx
  obtain ⟨cl,hd,dt,sl⟩:=o
  obtain rfl:=Gy ho
  obtain ⟨o',e',s'⟩:=G.same _ _ id he
  refine nG ?_
  cases s' with
  | refl=>exact ⟨_,_,vs,t,rfl,e',rfl,hv⟩
  | grow m=>
   have:=List.all_eq_true.mp (Gx W.w.params) _ hm
   unfold iQ at this
   rcases List.mem_cons.mp m with m | m
   ·rw [show (fH (aP (br W.w.params) e.a)).2.1 = 722 from m] at this; exact aS this
   ·rw [show (fH (aP (br W.w.params) e.a)).2.1 = 998 from List.mem_singleton.mp m] at this; exact aS this
 ·refine af fun nG=>?_
  unfold yf at c2
  rw [show de (ku e.st) = some (c,P,q,q') from z] at c2
  obtain ⟨l1,l2⟩:=aC c2
  refine nG ?_
  exact ⟨congrArg Value.ref (Nat.eq_of_beq_eq_true l1),sEq_iff.mp l2⟩
 ·refine af fun nG=>?_
  obtain ⟨k1,k2⟩:=(((Gw W.w.params).at m).at hk).all vs rfl
  refine nG ?_
  refine ⟨k1,fun M A E Q hQ=>Gr k2 (fun T o q=>?_) (wpAny_pure hQ)⟩
  have hd:=cY (Gu W.w.params) m
  rw [q] at hd
  have hd:=Option.some.inj hd
  exact G.get (W.B.fact _ _ hd) (by unfold nz at q; split at q<;>cases q; rfl)
noncomputable def kz (a:Addr):(l:List FE)→Option { e:FE // e∈l∧e.a = a }
 | []=>none
 | e::l=>aG (Nat.beq e.a a) (fun h=>some ⟨e,.head _,Nat.eq_of_beq_eq_true h⟩) fun _=>(match kz a l with
  | some ⟨x,m,h⟩=>some ⟨x,.tail _ m,h⟩
  | none=>none)
end Mine
end
section
set_option backward.match.sparseCases false
open PySem PySem.W PyProof.Rows PySem.Calls
namespace Mine
section
noncomputable abbrev i5:=(Flow→Shared→Prop)→(Value→Shared→Prop)→Shared→Prop
noncomputable def Step (W:ab) (A:Around) (env:Env) (t:Expr) (code:Value→Code) (T:i5):Prop:=∀ (it:Value) (R:Result→Shared→Prop) (s:Shared),ay W A (pyNext it) (fun r s₁=>match r with
   | none=>R (.ok .next) s₁
   | some v=>ay W A (letOwnedTupleGo t it v) (fun _ s₂=>ay W A (assign t env v) (fun _ s₃=>T (fun f s₄=>match f with
      | .next | .cont=>codeAny (model pg W.w) A (code it) R s₄
      | .brk=>R (.ok .next) s₄
      | .ret v=>R (.ok (.ret v)) s₄) (notedBy (model pg W.w) A env fun e s'=>R (.error e) s') s₃) (notedBy (model pg W.w) A env fun e s'=>R (.error e) s') s₂) (notedBy (model pg W.w) A env fun e s'=>R (.error e) s') s₁) (notedBy (model pg W.w) A env fun e s'=>R (.error e) s') s→codeAny (model pg W.w) A (code it) R s
section
variable {W:ab} {A:Around} {env:Env} {t:Expr} {body:List Stmt}
theorem rh:Step W A env t (fun it=>.forLoop t it body [] env) fun Q E s=>ay W A (execs body env) Q E s:=fun it R s h=>by
 refine codeAny_loop' rfl (fun _ s'=>s' = s) (fun n s' e=>?_) 0 rfl
 subst e
 show wpAny _ A ((forTurn t it body [] env).onRaise (fun x=>do noteFrame x env; theTreesLotGoes x)) _ _ s'
 refine wpAny_noted ?_
 simp only [forTurn]
 refine wpAny_bind (wpAny_standAt (wpAny_bind (wpAny_onRaise (wpAny_mono h (fun r s₁ h₁=>?_) fun _ _ h'=>wpAny_standAt h'))))
 cases r with
 | none=>exact wpAny_pure (.inr ⟨rfl,codeAny_block (wpAny_execs_nil h₁)⟩)
 | some v=>
  refine wpAny_bind (wpAny_mono h₁ (fun _ s₁' h₁'=>?_) fun _ _ h'=>h')
  refine wpAny_bind (wpAny_mono h₁' (fun _ s₂ h₂=>wpAny_bind (wpAny_mono h₂ (fun f s₃ h₃=>?_) fun _ _ h'=>h')) fun _ _ h'=>h')
  cases f with
  | next=>exact wpAny_pure (.inr ⟨rfl,h₃⟩)
  | cont=>exact wpAny_pure (.inr ⟨rfl,h₃⟩)
  | brk=>exact wpAny_pure h₃
  | ret v=>exact wpAny_pure h₃
end
inductive yh (W:ab) (t:Expr) (V:Vw) (h:Heap) (v:Value) (a:AV):Prop
 | rel (r:Rel W V v a)
 | tup {bs T vals} (k:Nat.beq t.ctorIdx 25 = true) (e:a = .tup bs) (e':v = .ref T) (i:h.IsTuple T vals) (r:ai W V vals.toList bs)
structure Walk (W:ab) (A:Around) (t:Expr) (I:Addr) (fp:AS) (n:Nat) (P Md:Nat→Value→Heap→Prop) (St:Nat→Heap→Prop) (Els:Vw→Nat→List AV→Prop) (fl wr:List Addr):Prop where
 k:KTurns pg W.w A t I fl wr n P Md St
 fl:∀ b,b∈fl→fp b
 low:∀ i h,St i h→∀ u,fp u→∃ o,h.get? u = some o∧soft o = false∧bB o = false
 mono:∀ V V' i as,V.Le V'→Els V i as→Els V' i as
 nil:∀ V i,Els V i []→i = n
 step:∀ V i a as,Els V i (a::as)→i < n∧Els V (i + 1) as∧∀ v h,P i v h→(∀ b o,V.g b o→h.get? b = some o)→yh W t V h v a
variable {W:ab} {d:Nat} {sc:Fs} {c:aj W d sc} {σ σ':aq} {own own1:Own} {pos:Pos}
noncomputable def aj.at (c:aj W d sc) (h:Heap) (X:AS) (a:List Addr) (G:GG W h) (out:∀ u,X u→∃ o,h.get? u = some o) (cls:∀ x a,c.env.cells.lookup x = some a→c.B a∨∃ o,h.get? a = some o):aj W d sc:={ c with h₀:=h,X:=X,ad:=a,G:=G,out:=out,cls:=cls }
theorem SV.move {h₁ h₂ h':Heap} {X X₂ w:AS} {ad₁ ad₂ G o l G₂ o₂ l₂} {p:Pt} (S:SV (c.at h₁ X ad₁ G o l) σ p) (pre:Pre ad₂ p.ad) (k:aw w p.h h') (nw:∀ u,c.B u∨ao p.own p.ad u→¬w u) (wc:∀ x a,c.env.cells.lookup x = some a→¬w a) (keep:ag h₂ h') (fr:∀ u,c.B u∨ao p.own p.ad u→h₂.get? u = none)
  (vis:∀ b o,p.h.get? b = some o→¬X b→¬c.B b→¬ao p.own p.ad b→¬w b∧¬X₂ b) (nX:∀ u,ao p.own p.ad u→¬X₂ u):SV (c.at h₂ X₂ ad₂ G₂ o₂ l₂) σ ⟨p.own,p.ad,h'⟩:=by
 have le:(vw (c.at h₁ X ad₁ G o l).U p).Le (vw (c.at h₂ X₂ ad₂ G₂ o₂ l₂).U ⟨p.own,p.ad,h'⟩):=⟨k.sub fun b o e n=>let ⟨a,z⟩:=vis b o e (fun q=>n (.inl (.inl q))) (fun q=>n (.inl (.inr q))) fun q=>n (.inr q); ⟨a,fun q=>q.elim (fun q=>q.elim z fun q=>n (.inl (.inr q))) fun q=>n (.inr q)⟩,fun _ _ e=>e⟩
 have nL:=nw _ (.inl c.base)
 obtain ⟨m,hm⟩:=S.ns
 exact ⟨pre,keep,S.owns.map le (fun u z q=>q.elim (nX u z) fun q=>S.owns.nU z (.inr q)) fun u o z e t=>k.b9 (nw u (.inr z)) e (.inr t),fun u z=>fr u (.inr z),fun u z=>⟨fr u (.inl z),let ⟨o,e,t⟩:=(S.low u z).2; ⟨o,k.b9 (nw u (.inl z)) e (.inr t),t⟩⟩,⟨m,k.ns nL hm⟩,fun x a e=>let ⟨v,i⟩:=S.cls x a e; ⟨v,k.cell (wc x a e) i⟩,fun x a e=>(S.loc x a e).mv (fun _=>k.ns nL) (fun u _ e=>k.cell (wc _ u e)) le⟩
structure Inner (c:aj W d sc) (h₁:Heap) (X':AS) (a₁ wr:List Addr):Prop where
 ad:Pre c.ad a₁
 G:GG W h₁
 keep:ag c.h₀ h₁
 sub:∀ u,c.X u→X' u
 out:∀ u,X' u→∃ o,h₁.get? u = some o
 it:∀ u,u∈wr→X' u∧c.h₀.get? u = none
 cls:∀ x a,c.env.cells.lookup x = some a→a∉wr∧(c.B a∨∃ o,h₁.get? a = some o)
noncomputable def Inner.cx {h₁:Heap} {X':AS} {a₁ wr:List Addr} (N:Inner c h₁ X' a₁ wr):aj W d sc:=c.at h₁ X' a₁ N.G N.out fun x a e=>(N.cls x a e).2
theorem Inner.up {h₁ h':Heap} {X' w:AS} {a₁ wr:List Addr} (N:Inner c h₁ X' a₁ wr) {p:Pt} (S:SV N.cx σ p) (k:aw w p.h h') (nw:∀ u,c.B u∨ao p.own p.ad u→¬w u) (wc:∀ x a,c.env.cells.lookup x = some a→¬w a) (wn:∀ u,w u→c.h₀.get? u = none∧X' u):SV c σ ⟨p.own,p.ad,h'⟩:=
 SV.move (c:=c) (h₂:=c.h₀) (X₂:=c.X) (ad₂:=c.ad) (G₂:=c.G) (o₂:=c.out) (l₂:=c.cls) S (fun n a e=>S.pre n a (N.ad n a e)) k nw wc ((N.keep.trans S.keep).dF k fun u z=>(wn u z).1) (fun u z=>N.keep.gone (z.elim (fun z=>(S.low u z).1) (S.new u))) (fun b o e n _ _=>⟨fun z=>n (wn b z).2,fun z=>n (N.sub b z)⟩) fun u z q=>S.owns.nU z (.inl (N.sub u q))
theorem Inner.yi {h₁:Heap} {X':AS} {a₁ wr:List Addr} (N:Inner c h₁ X' a₁ wr) {p:Pt} (S:SV N.cx σ p):SV c σ p:=N.up S (w:=fun _=>False) (.refl _ _) (fun _ _=>id) (fun _ _ _=>id) fun _ z=>z.elim
theorem Told.leave {h₁:Heap} {X':AS} {a₁:List Addr} {s:Shared} {Q:Flow→Shared→Prop} {E:Value→Shared→Prop} {f:Fl} (N:Inner c h₁ X' a₁ wr) (T:Told c s Q E f):Told N.cx s Q E f:=by
 cases f with
 | next σ own=>exact fun h' tk ad S=>T h' tk ad (N.yi S)
 | ret a own=>exact fun v h' tk ad S r=>T v h' tk ad (N.yi S) (r.mono (S.owns.less fun u z=>z.imp (N.sub u) id).2)
 | exc x=>
  obtain ⟨FR,fp,g⟩:=T
  exact ⟨FR,fp.keep N.keep,fun e h' tk k n o x=>g e h' tk ((N.keep.kf FR).trans k) (N.keep.gone n) o (x.mono N.keep)⟩
structure cL (c:aj W d sc) (t:Expr) (code:Value→Code) (σ:aq) (own:Own) (as:List AV) (f:Fl):Prop where
 run:∀ {I fp n P Md St Els fl wr} (_:Walk W c.A t I fp n P Md St Els fl wr) {h₁ X' a₁ ad i} {s:Shared} {R:Result→Shared→Prop} (N:Inner c h₁ X' a₁ wr),
 SV N.cx σ ⟨own,ad,s.heap⟩→St i s.heap→Els (vw N.cx.U ⟨own,ad,s.heap⟩) i as→(∀ b,fp b→¬c.B b∧¬ao own ad b)→Told c s (fun f s'=>R (.ok f) s') (notedBy (model pg W.w) c.A c.env fun e s'=>R (.error e) s') f→codeAny (model pg W.w) c.A (code (.ref I)) R s
theorem cL.nil {t:Expr} {code:Value→Code} {T:i5} (hc:Step W c.A c.env t code T):cL c t code σ own [] (.next σ own):=⟨fun {I fp n P Md St Els fl wr} Wk {h₁ X' a₁ ad i s R} N S st els hfp T=>by
 refine af fun nG=>?_
 obtain rfl:=Wk.nil _ _ els
 refine nG ?_
 refine hc _ _ _ (Wk.k.done _ _ _ st fun h2 tk2 k2=>T h2 tk2 ad ?_)
 exact N.up S (w:=(·∈wr)) (.eW (fun u o q e=>let ⟨_,e',_,t⟩:=Wk.low _ _ st u (Wk.fl u (Wk.k.sub u q)); (by cases e.symm.trans e'; exact t)) k2) (fun u q z=>let f:=hfp u (Wk.fl u (Wk.k.sub u z)); q.elim f.1 f.2) (fun x a e=>(N.cls x a e).1) fun u z=>(N.it u z).symm⟩
noncomputable def fJ (t:Expr) (sc:Fs) (a:AV) (σ σ':aq):Prop:=∀ {W:ab} {d} {c:aj W d sc} {own ad s v} {Q:Unit→Shared→Prop} {E:Value→Shared→Prop},SV c σ ⟨own,ad,s.heap⟩→yh W t (vw c.U ⟨own,ad,s.heap⟩) s.heap v a→
 (∀ h' tk,SV c σ' ⟨own,ad,h'⟩→(vw c.U ⟨own,ad,s.heap⟩).Le (vw c.U ⟨own,ad,h'⟩)→Q () (mv s h' tk))→ay W c.A (assign t c.env v) Q E s
noncomputable def hY (c:aj W d sc) (σ:aq) (own:Own) (T:i5) (f:Fl):Prop:=∀ h X a G o l (_:Pre c.ad a) (s:Shared) ad (Q:Flow→Shared→Prop) (E:Value→Shared→Prop),SV (c.at h X a G o l) σ ⟨own,ad,s.heap⟩→Told (c.at h X a G o l) s Q E f→T Q E s
theorem cL.cons {t:Expr} {code:Value→Code} {T:i5} (hc:Step W c.A c.env t code T) {a:AV} {as:List AV} {g f:Fl} (hb:fJ t sc a σ σ') (hg:hY c σ' own T g) (hr:match g with | .next σ2 own2=>cL c t code σ2 own2 as f | g=>f = g):cL c t code σ own (a::as) f:=⟨fun {I fp n P Md St Els fl wr} Wk {h₁ X' a₁ ad i s R} N S st els hfp T=>by
 have fw:∀ u,u∈wr→fp u:=fun u q=>Wk.fl u (Wk.k.sub u q)
 have lt:=(Wk.step _ _ _ _ els).1
 refine hc _ _ _ (Wk.k.item i _ _ _ lt st fun v h1 tk1 md k1=>Wk.k.go i v _ _ _ md fun h2 pv st2 k2'=>?_)
 refine af fun nG=>?_
 have kx:aw (·∈wr) s.heap h2:=.eW (fun u o q e=>let ⟨_,e',_,t⟩:=Wk.low _ _ st u (fw u q); (by cases e.symm.trans e'; exact t)) fun b o n e=>k2' b o n (k1 b o n e)
 have nI:∀ u,c.B u∨ao own ad u→¬u∈wr:=fun u q z=>let f:=hfp u (fw u z); q.elim f.1 f.2
 have lo:∀ u,c.B u∨ao own ad u→bA h2 u:=fun u q=>let ⟨o,e,t⟩:=q.elim (fun q=>(S.low u q).2) (S.owns.low ·); ⟨o,kx.b9 (nI u q) e (.inr t),t⟩
 have fr1:∀ u,c.B u∨ao own ad u→h₁.get? u = none:=fun u q=>q.elim (fun q=>(S.low u q).1) (S.new u)
 have kk:ag c.h₀ (aQ (fun u=>c.B u∨ao own ad u) h2):=((N.keep.trans S.keep).dF kx fun u q=>(N.it u q).2).fE fun u q=>⟨N.keep.gone (fr1 u q),lo u q⟩
 have N2:Inner c (aQ (fun u=>c.B u∨ao own ad u) h2) X' ad wr:=⟨fun n a e=>S.pre n a (N.ad n a e),c.G.trans kk,kk,N.sub,fun u q=>by
  by_cases z:u∈wr
  ·obtain ⟨o,e,_⟩:=Wk.low _ _ st2 u (fw u z); exact ⟨o,a9.mpr ⟨e,fun q=>nI u q z⟩⟩
  ·obtain ⟨o,e⟩:=N.out u q
   obtain ⟨o1,e1⟩:=S.keep.ex id e
   obtain ⟨o2,e2⟩:=kx.ex z e1
   exact ⟨o2,a9.mpr ⟨e2,fun w=>by rw [fr1 u w] at e; exact ar e⟩⟩,N.it,fun x a e=>⟨(N.cls x a e).1,(c.cls x a e).imp id fun ⟨o,e'⟩=>kk.ex id e'⟩⟩
 have S2:SV N2.cx σ ⟨own,ad,h2⟩:=SV.move (c:=c) S (fun _ _ e=>e) kx nI (fun x a e=>(N.cls x a e).1) .dQ (fun u q=>iO q) (fun b o e n _ _=>⟨fun q=>n (N.it b q).1,n⟩) fun u z q=>S.owns.nU z (.inl q)
 have ss:(vw N.cx.U ⟨own,ad,s.heap⟩).Le (vw N2.cx.U ⟨own,ad,h2⟩):=⟨kx.sub fun b o e n=>⟨fun q=>n (.inl (.inl (N.it b q).1)),n⟩,fun _ _ e=>e⟩
 obtain ⟨-,els',el⟩:=Wk.step _ _ _ _ (Wk.mono _ _ _ _ ss els)
 refine nG ?_
 refine hb (c:=N2.cx) (s:=mv s h2 tk1) S2 (el v h2 pv fun b o e=>e.1) fun h3 t3 S3 s3=>?_
 refine hg _ _ _ _ _ _ N2.ad _ ad _ _ S3 ?_
 cases g with
 | ret a1 o1=>obtain rfl:f = .ret a1 o1:=hr; exact (T.leave N2).mv
 | exc c1=>obtain rfl:f = .exc c1:=hr; exact (T.leave N2).mv
 | next σ4 own4=>
  intro h4 tk4 ad4 S4
  have vis:∀ b o,¬(c.B b∨ao own ad b)→soft o = false→h2.get? b = some o→h4.get? b = some o:=fun b o n sf e=>S4.keep.get (a9.mpr ⟨e,n⟩) sf
  have old:∀ b o,¬(c.B b∨ao own ad b)→h2.get? b = some o→¬(c.B b∨ao own4 ad4 b):=fun b o n e q=>by
   have w:(aQ (fun u=>c.B u∨ao own ad u) h2).get? b = none:=q.elim (fun q=>(S4.low b q).1) (S4.new b)
   rw [a9.mpr ⟨e,n⟩] at w; exact c9 w
  have nf:∀ b,fp b→¬(c.B b∨ao own ad b):=fun b hb q=>q.elim (hfp b hb).1 (hfp b hb).2
  refine hr.run (P:=P) (Md:=Md) Wk N2 S4 (Wk.k.frame _ _ _ st2 fun b hb o e=>let ⟨o',e',sf,_⟩:=Wk.low _ _ st2 b (Wk.fl b hb); vis b o (nf b (Wk.fl b hb)) (by rw [e] at e'; cases e'; exact sf) e) (Wk.mono (vw N2.cx.U ⟨own,ad,h2⟩) _ _ _ ⟨fun b o e=>?_,fun n a e=>S4.pre n a e⟩ els') (fun b hb=>?_) T.mv
  ·have n:¬(c.B b∨ao own ad b):=fun q=>e.2.2 (q.imp .inr id)
   exact ⟨vis b o n e.2.1 e.1,e.2.1,fun q=>q.elim (fun q=>e.2.2 (.inl q)) fun q=>old b o n e.1 (.inr q)⟩
  ·refine af fun nG=>?_
   obtain ⟨o,e,-⟩:=Wk.low _ _ st2 b hb
   refine nG ?_
   exact ⟨fun q=>old b o (nf b hb) e (.inl q),fun q=>old b o (nf b hb) e (.inr q)⟩⟩
end
end Mine
end
section
open PySem PySem.W PyProof.Rows PySem.Calls
namespace Mine
section
theorem yj {h h':Heap} (k:Heap.ExtBut h.objs.size h h'):ag h h':=.of fun b o e=>k b o (fun q=>eV e (da h) q) e
theorem fJ.name {sc:Fs} {x:Str} {p:Pos} {a:AV} {σ σ':aq} (h:iZ sc x a σ σ'):fJ (.Name x p) sc a σ σ':=fun S el G=>by
 cases el with
 | rel rv=>exact assign_Name (h S rv fun h1 t1 S1 s1=>G h1 t1 S1 s1)
 | tup k=>exact aS k
theorem fJ.tuple {sc:Fs} {ts:List Expr} {k:Nat} {p:Pos} {as:List AV} {σ σ':aq} (r:kj sc ts as σ σ'):fJ (.Tuple ts k p) sc (.tup as) σ σ':=fun {W d c own ad s v Q E} S el G=>by
 obtain ⟨T,vals,rfl,hT,rl⟩:∃ T vals,v = .ref T∧s.heap.IsTuple T vals∧ai W (vw c.U ⟨own,ad,s.heap⟩) vals.toList as:=by
  cases el with
  | rel rv=>obtain ⟨hg,rl⟩:=rv; exact ⟨_,_,rfl,⟨_,hg.1,rfl,_,rfl⟩,by simpa using rl⟩
  | tup k e e' i rl=>cases e; exact ⟨_,_,e',i,rl⟩
 obtain ⟨l3,l4⟩:=r.plain c.env
 have hl:=rl.length
 refine wpAny_assign_Tuple c.a.handled hT (by rw [l4,r.len,← hl]; simp) l3 fun h1 k1=>?_
 have k1:=S.owns.grow (yj k1)
 exact r.run (s:={ s with heap:=h1 }) (S.after k1) (rl.mono k1.view) fun h2 t2 S2 s2=>G h2 t2 S2 (k1.view.trans s2)
noncomputable def nA (sc:Fs) (t:Expr) (a:AV) (σ:aq):Option { σ':aq // fJ t sc a σ σ' }:=match t with
 | .Name x p=>(match ki sc x a σ with
  | some r=>some ⟨r.1,fJ.name r.2⟩
  | none=>none)
 | .Tuple ts k p=>(match a with
  | .tup as=>(match xU sc ts as σ with
   | some r=>some ⟨r.1,fJ.tuple r.2⟩
   | none=>none)
  | _=>none)
 | _=>none
section
variable {W:ab} {d:Nat} {sc:Fs}
noncomputable def kA {K:aj W d sc→Prop} {t:Expr} {code:aj W d sc→Value→Code} {T:aj W d sc→i5} (hc:∀ c,Step W c.A c.env t (code c) (T c)) (g:(σ:aq)→(own:Own)→Out fun f:Fl=>∀ c:aj W d sc,K c→hY c σ own (T c) f):(as:List AV)→(σ:aq)→(own:Own)→Out fun f:Fl=>∀ c:aj W d sc,K c→cL c t (code c) σ own as f
 | [],σ,own=>.ok (.next σ own) fun c _=>.nil (hc c)
 | a::as,σ,own=>(match nA sc t a σ with
  | some r=>bd (g r.1 own) fun f k=>(match f,k with
   | .next σ own1,k=>bd (kA hc g as σ own1) fun f h=>.ok f fun c q=>.cons (hc c) r.2 (k c q) (h c q)
   | .ret a o,k=>.ok (.ret a o) fun c q=>.cons (hc c) r.2 (k c q) rfl
   | .exc a,k=>.ok (.exc a) fun c q=>.cons (hc c) r.2 (k c q) rfl)
  | none=>.no 130)
end
theorem yk {W:ab} {A:Around} {t:Expr} {I:Addr} {v:Value} {o:Obj} {n:String} {s:Shared} {Q:Unit→Shared→Prop} {E:Value→Shared→Prop} (ho:s.heap.get? I = some o) (hc:o.cls = .type n)
  (hn:["enumerate","zip","dict_itemiterator","dict_reverseitemiterator","odict_iterator","itertools.zip_longest","itertools.pairwise"].contains n = false) (h:Q () s):ay W A (letOwnedTupleGo t (.ref I) v) Q E s:=by
 have body:ay W A (match v with
   | .ref a=>(do
    let o ← load I
    match o.cls,o.data with
    | .type n,.fields vs=>
     if ["enumerate","zip","dict_itemiterator","dict_reverseitemiterator","odict_iterator","itertools.zip_longest","itertools.pairwise"].contains n && vs[0]? == some (rawInt a) then do
      rule "for.unpacks-the-owned-tuple"
      updateField I 0 .none
     else pure ()
    | _,_=>pure ())
   | _=>pure ()) Q E s:=by
  cases v with
  | ref a=>
   refine wpAny_bind (wpAny_load ho ?_)
   rw [hc]
   cases o.data with
   | fields vs=>
    dsimp only
    rw [hn,Bool.false_and,if_neg Bool.false_ne_true]
    exact wpAny_pure h
   | _=>exact wpAny_pure h
  | _=>exact wpAny_pure h
 cases t<;>first
  | exact wpAny_pure h
  | (unfold letOwnedTupleGo; cases v<;>first | exact wpAny_pure h | exact body)
noncomputable def elems (a:AV):Option (List AV):=match a with
 | .lst l | .tup l=>some l
 | .rng a n=>some (iW a n)
 | _=>none
structure fK (W:ab) (A:Around) (t:Expr) (U:AS) (ad:List Addr) (s:Shared) (as:List AV) (Q:Value→Shared→Prop):Prop where
 run:∀ {h' I fp n P Md St Els fl wr tk},(∀ b o,s.heap.get? b = some o→h'.get? b = some o)→Walk W A t I fp n P Md St Els fl wr→(∀ u,u∈wr→s.heap.get? u = none)→(∀ b,fp b→s.heap.get? b = none∨¬U b)→St 0 h'→(∀ V:Vw,(⟨aF U s.heap,ad⟩:Vw).Le V→Els V 0 as)→
 (∀ i (s':Shared) (Q':Value→Shared→Prop) (E':Value→Shared→Prop),St i s'.heap→Q' (.ref I) s'→ay W A (pyIter (.ref I)) Q' E' s')→Q (.ref I) { s with heap:=h',toks:=tk }
variable {W:ab} {A:Around} {t:Expr} {U:AS} {ad:List Addr} {s:Shared} {Q:Value→Shared→Prop} {E:Value→Shared→Prop}
theorem GA (hh:A.handled = none) {v:Value} {a:Int} {n:Nat} (rv:qi (aF U s.heap) a n v) (fin:fK W A t U ad s (iW a n) Q):ay W A (pyIter v) Q E s:=by
 obtain ⟨ho,hn⟩:=rv
 obtain ⟨-,small,size⟩:=qQ hn
 refine wpAny_pyIter_range ho.1 small ?_
 have Wk:=Walks.range (prog:=pg) (w:=W.w) hh s.heap.objs.size a 1 n
 refine fin.run (fl:=[s.heap.objs.size]) (fp:=(· = s.heap.objs.size)) (Els:=fun _ i as=>i≤n∧as = iW (a + i) (n - i)) (fun _ _ e=>Heap.get?_push_of_some _ e) ⟨KTurns.ofWalks Wk fun i v s' Q' E' st hq=>yk st rfl (by decide +kernel) hq,fun b hb=>List.mem_singleton.mp hb,fun i h st u hu=>⟨_,hu▸st,rfl,rfl⟩,fun _ _ _ _ _ e=>e,fun V i e=>?_,fun V i b as e=>?_⟩ (fun u hu=>by rw [List.mem_singleton.mp hu]; exact da _) (fun b hb=>.inl (by rw [hb]; exact da _)) ?_ (fun V ss=>⟨Nat.zero_le _,by rw [Int.natCast_zero,Int.add_zero]; rfl⟩) Wk.self
 ·obtain ⟨e1,e⟩:=e
  cases q:n - i with
  | zero=>lia
  | succ k=>rw [q] at e; cases e
 ·obtain ⟨e1,e⟩:=e
  cases q:n - i with
  | zero=>rw [q] at e; cases e
  | succ k=>
   rw [q] at e
   obtain ⟨rfl,rfl⟩:=List.cons.inj e
   exact ⟨by lia,⟨by lia,by rw [show n - (i + 1) = k by lia]; congr 1; push_cast; lia⟩,fun v h hv _=>.rel (by obtain ⟨t',rfl⟩:=hv; rw [Int.mul_one]; exact (.mk _:bL _ _))⟩
 ·show (s.heap.push _).get? s.heap.objs.size = _
  rw [Heap.get?_push_size _ rfl,size]; simp [rawInt]
theorem yl {as:List AV} {vs:List Value} {x:Addr} {ox:Obj} {ob:Obj} {nm:String} {tk:Nat} {St:Nat→Heap→Prop} (ho:aF U s.heap x ox) (rl:ai W ⟨aF U s.heap,ad⟩ vs as) (fin:fK W A t U ad s as Q)
  (Wk:Walks pg W.w A s.heap.objs.size [s.heap.objs.size,x] [s.heap.objs.size] vs.length (fun i v=>vs[i]? = some v) St) (self:∀ i (s':Shared) (Q':Value→Shared→Prop) (E':Value→Shared→Prop),St i s'.heap→Q' (.ref s.heap.objs.size) s'→ay W A (pyIter (.ref s.heap.objs.size)) Q' E' s')
  (hn:["enumerate","zip","dict_itemiterator","dict_reverseitemiterator","odict_iterator","itertools.zip_longest","itertools.pairwise"].contains nm = false) (st:∀ i h,St i h→(∃ o,h.get? s.heap.objs.size = some o∧o.cls = .type nm∧soft o = false∧bB o = false)∧∃ o,h.get? x = some o∧soft o = false∧bB o = false) (s0:St 0 (s.heap.push ob)):Q (.ref s.heap.objs.size) { s with heap:=s.heap.push ob,toks:=tk }:=by
 refine fin.run (fl:=[s.heap.objs.size,x]) (fp:=fun b=>b = s.heap.objs.size∨b = x) (Els:=fun V i as=>ai W V (vs.drop i) as∧i≤vs.length) (fun _ _ e=>Heap.get?_push_of_some _ e) ⟨KTurns.ofWalks Wk fun i v s' Q' E' h hq=>let ⟨o,e,c,_⟩:=(st i _ h).1; yk e c hn hq,fun b hb=>(List.mem_cons.mp hb).imp id fun q=>List.mem_singleton.mp q,fun i h e u hu=>?_,fun _ _ _ _ s e=>⟨e.1.mono s,e.2⟩,fun V i e=>?_,fun V i a as e=>?_⟩ (fun u hu=>by rw [List.mem_singleton.mp hu]; exact da _) (fun b hb=>hb.imp (fun q=>by rw [q]; exact da _) fun (q:b = x)=>q▸ho.2.2) s0 (fun V ss=>⟨rl.mono ss,Nat.zero_le _⟩) self
 ·rcases hu with rfl | rfl
  ·obtain ⟨o,a,b,c,d⟩:=(st i h e).1; exact ⟨o,a,c,d⟩
  ·exact (st i h e).2
 ·have:=e.1.length
  rw [List.length_drop] at this
  have:=e.2
  simp only [List.length_nil] at *; lia
 ·refine af fun nG=>?_
  obtain ⟨e,le⟩:=e
  have hi:i < vs.length:=by have:=e.length; rw [List.length_drop,List.length_cons] at this; lia
  rw [List.drop_eq_getElem_cons hi] at e
  obtain ⟨ra,rr⟩:=e
  refine nG ?_
  exact ⟨hi,⟨rr,hi⟩,fun v' h hv k=>.rel (by rw [List.getElem?_eq_getElem hi] at hv; rw [← Option.some.inj hv]; exact ra)⟩
theorem ym {h:Heap} {I x:Addr} {o1 o2:Obj} {nm c2:String} {vs:Array Value} {n:Nat} (h1:h.get? I = some o1) (hc:o1.cls = .type nm) (n1:(nm == "frame") = false) (n2:(nm == "code") = false) (h2:h.get? x = some o2) (hc2:o2.cls = .type c2) (n3:(c2 == "frame") = false) (d2:o2.data = .seq vs n):(∃ o,h.get? I = some o∧o.cls = .type nm∧soft o = false∧bB o = false)∧∃ o,h.get? x = some o∧soft o = false∧bB o = false:=
 ⟨⟨o1,h1,hc,by unfold soft; rw [hc]; exact n1,by unfold bB; split<;>first | rfl | (rw [hc]; exact n2)⟩,o2,h2,by unfold soft; rw [hc2]; exact n3,by unfold bB; rw [d2]⟩
set_option tactic.hygienic true in
theorem rj (hh:A.handled = none) {v:Value} {a:AV} {as:List AV} (he:elems a = some as) (rv:Rel W ⟨aF U s.heap,ad⟩ v a) (fin:fK W A t U ad s as Q):ay W A (pyIter v) Q E s:=by
 unfold elems at he
 split at he
 ·refine af fun nG=>?_
  obtain rfl:=Option.some.inj he
  obtain ⟨ho,rl⟩:=rv
  refine nG ?_
  rename_i x vs n
  have ne:x≠s.heap.objs.size:=eV ho.1 (da _)
  have Wk:=Walks.list (prog:=pg) (w:=W.w) hh s.heap.objs.size x ne vs.toArray
  exact wpAny_pyIter_list (items:=vs.toArray) ⟨_,ho.1,rfl,n,rfl⟩ (yl (St:=fun i h=>h.IsListIter s.heap.objs.size x i∧h.IsList x vs.toArray) ho rl fin (by simpa using Wk) Wk.self (nm:="list_iterator") (by decide +kernel) (fun i h st=>by
   refine af fun nG=>?_
   obtain ⟨⟨o1,h1,hc,d1⟩,⟨o2,h2,hc2,_,d2⟩⟩:=st
   refine nG ?_
   exact ym h1 hc rfl rfl h2 hc2 rfl d2) ⟨⟨_,Heap.get?_push_size _ rfl,rfl,rfl⟩,⟨_,Heap.get?_push_of_some _ ho.1,rfl,n,rfl⟩⟩)
 ·refine af fun nG=>?_
  obtain rfl:=Option.some.inj he
  obtain ⟨ho,rl⟩:=rv
  refine nG ?_
  rename_i x vs n
  have ne:x≠s.heap.objs.size:=eV ho.1 (da _)
  have Wk:=Walks.tuple (prog:=pg) (w:=W.w) hh s.heap.objs.size x ne vs.toArray
  exact wpAny_pyIter_tuple (items:=vs.toArray) ⟨_,ho.1,rfl,n,rfl⟩ (yl (St:=fun i h=>h.IsTupleIter s.heap.objs.size x i∧h.IsTuple x vs.toArray) ho rl fin (by simpa using Wk) Wk.self (nm:="tuple_iterator") (by decide +kernel) (fun i h st=>by
   refine af fun nG=>?_
   obtain ⟨⟨o1,h1,hc,d1⟩,⟨o2,h2,hc2,_,d2⟩⟩:=st
   refine nG ?_
   exact ym h1 hc rfl rfl h2 hc2 rfl d2) ⟨⟨_,Heap.get?_push_size _ rfl,rfl,rfl⟩,⟨_,Heap.get?_push_of_some _ ho.1,rfl,n,rfl⟩⟩)
 ·refine af fun nG=>?_
  obtain rfl:=Option.some.inj he
  refine nG ?_
  exact GA hh rv fin
 ·exact ar he
section
variable {d:Nat} {sc:Fs} {c:aj W d sc} {σ:aq} {own own1:Own} {pos:Pos}
theorem Told.GB {s:Shared} {Q Q':Flow→Shared→Prop} {E:Value→Shared→Prop} {x:Addr} (T:Told c s Q E (.exc x)):Told c s Q' (notedBy (model pg W.w) c.A c.env fun e s'=>cameBackBy (model pg W.w) c.A c.env E e s') (.exc x):=by
 refine af fun nG=>?_
 obtain ⟨FR,fp,g⟩:=T
 refine nG ?_
 refine ⟨FR,fp,fun e h' tk k n o x=>?_⟩
 refine af fun nG=>?_
 obtain ⟨outer,a,fl⟩:=fp.ni k o
 refine nG ?_
 refine qZ (s:=Mine.mv s h' tk) a fl fp.fr k n x fun h2 k2 f2 x2 _=>?_
 show wpAny _ _ (field (.ref e) 1 >>= _) _ _ _
 refine af fun nG=>?_
 obtain ⟨e0,oe,vs,he,hc,hd,q⟩:=x2
 refine nG ?_
 have x2:cb c.h₀ _ e (qY c.env.locals) h2:=⟨e0,oe,vs,he,hc,hd,q⟩
 rcases q with ⟨_,q⟩ | ⟨T',oT,ts,mk,h1,_⟩
 ·exact ar q
 ·refine wpAny_bind (wpAny_field he hd h1 ?_)
  rw [if_neg (show ¬ ((Value.ref T' == Value.none) = true) from by simp),fp.fr]
  refine nh (s:=Mine.mv s h2 tk) (fo:=some c.env.locals) (fun z=>by exact ar z) f2 k2 x2 fun h3 k3 f3 x3 _=>g e h3 tk k3 n (f3.mem _ (.head _)) ?_
  refine af fun nG=>?_
  obtain ⟨a1,oe,vs,a2,a3,a4,q⟩:=x3
  refine nG ?_
  refine ⟨a1,oe,vs,a2,a3,a4,q.imp (fun z=>⟨z.1,.inl rfl⟩) ?_⟩
  rintro ⟨T,oT,ts,mk,b1,b2,b3,b4,b5,b6,b7,b8⟩
  exact ⟨T,oT,ts,mk,b1,b2,b3,b4,b5,b6,b7,.inr (.inr b8)⟩
theorem cL.enter {t:Expr} {code:Value→Code} {as:List AV} {f:Fl} (L:cL c t code σ own as f) {ad:List Addr} {s:Shared} {h:Heap} {tk':Nat} {Q:Flow→Shared→Prop} {E:Value→Shared→Prop} (S:SV c σ ⟨own,ad,h⟩) (T:Told c s Q E f):
  fK W c.A t (fun u=>c.U u∨ao own ad u) ad (mv s h tk') as fun it s₁=>codeAny (model pg W.w) c.A (code it) (fun r s'=>match r with | .ok f=>Q f s' | .error e=>cameBackBy (model pg W.w) c.A c.env E e s') s₁:=⟨fun {h' I fp n P Md St Els fl wr tk} k0 Wk hw hfp st els _=>by
 have k:ag h h':=.of k0
 have lo:∀ u,c.B u∨ao own ad u→bA h u:=fun u q=>q.elim (fun q=>(S.low u q).2) (S.owns.low ·)
 have nI:∀ u,c.B u∨ao own ad u→h.get? u≠none:=fun u q z=>by obtain ⟨o,e,_⟩:=lo u q; rw [z] at e; exact ar e
 have nw:∀ u o,h.get? u = some o→u∉wr:=fun u o e q=>by rw [show h.get? u = none from hw u q] at e; exact ar e
 have f0:∀ u,c.B u∨ao own ad u→c.h₀.get? u = none:=fun u q=>q.elim (fun q=>(S.low u q).1) (S.new u)
 have kk:ag c.h₀ (aQ (fun u=>c.B u∨ao own ad u) h'):=ag.fE (S.keep.trans k) fun u q=>⟨f0 u q,(lo u q).keep k⟩
 have N:Inner c (aQ (fun u=>c.B u∨ao own ad u) h') (fun u=>u∈wr∨c.X u) ad wr:=⟨S.pre,c.G.trans kk,kk,fun _=>.inr,fun u q=>by
  rcases q with q | q
  ·obtain ⟨o,e,_⟩:=Wk.low _ _ st u (Wk.fl u (Wk.k.sub u q)); exact ⟨o,a9.mpr ⟨e,fun z=>nI _ z (hw u q)⟩⟩
  ·obtain ⟨o,e⟩:=c.out u q; exact kk.ex id e,fun u q=>⟨.inl q,S.keep.gone (hw u q)⟩,fun x a e=>⟨fun q=>by obtain ⟨_,o,e,_⟩:=S.cls x a e; exact nw _ _ e q,(c.cls x a e).imp id fun ⟨o,e'⟩=>kk.ex id e'⟩⟩
 refine L.run Wk N (SV.move (c:=c) (h₁:=c.h₀) (X:=c.X) (ad₁:=c.ad) (G:=c.G) (o:=c.out) (l:=c.cls) S (fun _ _ e=>e) k (fun _ _=>id) (fun _ _ _=>id) .dQ (fun u q=>iO q) (fun b o e n _ _=>⟨id,fun q=>q.elim (nw _ _ e) n⟩) fun u z q=>q.elim (fun q=>nI u (.inr z) (hw u q)) fun q=>S.owns.nU z (.inl q)) st (els _ ⟨k.sub fun b o e n=>⟨id,fun q=>?_⟩,fun _ _ e=>e⟩) (fun b hb=>?_) ?_
 ·rcases q with ((q | q) | q) | q
  ·exact nw _ _ e q
  ·exact n (.inl (.inl q))
  ·exact n (.inl (.inr q))
  ·exact n (.inr q)
 ·exact (hfp b hb).elim (fun z=>⟨fun q=>nI b (.inl q) z,fun q=>nI b (.inr q) z⟩) fun z=>⟨fun q=>z (.inl (.inr q)),fun q=>z (.inr q)⟩
 ·cases f with
  | next σ own=>exact T
  | ret a own=>exact T
  | exc x=>exact (Told.GB T (Q':=Q)).mv⟩
noncomputable abbrev i6 (e:Expr):Prop:=∀ env v,foldedSetIterable e env v = pure v
theorem aB.GC {t it:Expr} {body:List Stmt} {a:AV} {as:List AV} {f:Fl} (hs:i6 it) (hi:ak c σ own (eval it c.env) a own1) (he:elems a = some as) (L:cL c t (fun it=>.forLoop t it body [] c.env) σ own1 as f):aB c σ own (exec (.For t it body [] pos) c.env) f:=fun s ad Q E S T=>
 wpAny_For (hi s ad _ _ S fun v h1 t1 a1 k1 r1=>rj (s:=mv s h1 t1) c.a.handled he r1 (L.enter (S.after k1) T)) (hs _)
end
end
end Mine
end
section
set_option backward.match.sparseCases false
open PySem PySem.W PyProof.Rows PySem.Calls
namespace Mine
section
noncomputable def ro (ifs:List Expr) (env:Env):Sem Bool:=forIn ifs true fun e r=>if r = true then do let ok ← isTrue e env (eval e env); pure (ForInStep.yield ok) else pure (ForInStep.yield r)
structure nD (e:Expr) (k:Nat) (D:Value) (env:Env) (t:Expr) (ifs:List Expr) (rest:Sem Unit) (pos:Pos):Prop where
 den:∀ w it,(model pg w).den (.compLoop e k it D env) = (compTurn e k it D env).onRaise (fun x=>do noteFrame x env; theTreesLotGoes x)
 under:∀ (A:Around) it,A.under (.compLoop e k it D env) = A
 eq:∀ it,compTurn e k it D env = (do
 standAt pos
 match ← pyNext it with
 | none=>pure (.done .next)
 | some v=>
  letOwnedTupleGo t it v
  assign t env v
  let ok ← ro ifs env
  if ok then rest
  again (.compLoop e k it D env))
section
variable {W:ab} {d:Nat} {sc:Fs} {c:aj W d sc} {σ σ':aq} {own own1 own2 own3:Own} {pos:Pos}
noncomputable def rp (c:aj W d sc) (ifs:List Expr) (rest:Sem Unit):i5:=fun Q E s=>ay W c.A (ro ifs c.env) (fun ok s₁=>if ok = true then ay W c.A rest (fun _ s₂=>Q .next s₂) E s₁ else Q .next s₁) E s
theorem rq {e:Expr} {k:Nat} {D:Value} {t:Expr} {ifs:List Expr} {rest:Sem Unit} (h:nD e k D c.env t ifs rest pos):Step W c.A c.env t (fun it=>.compLoop e k it D c.env) (rp c ifs rest):=fun it R s hw=>by
 refine codeAny_loop' rfl (fun _ s'=>s' = s) (fun n s' e'=>?_) 0 rfl
 subst e'
 dsimp only
 rw [h.den,h.under]
 refine wpAny_noted ?_
 rw [h.eq]
 refine wpAny_bind (wpAny_standAt (wpAny_bind (wpAny_mono hw (fun r s₁ h₁=>?_) fun _ _ h'=>h')))
 cases r with
 | none=>exact wpAny_pure h₁
 | some v=>
  refine wpAny_bind (wpAny_mono h₁ (fun _ s₂ h₂=>wpAny_bind (wpAny_mono h₂ (fun _ s₃ h₃=>wpAny_bind (wpAny_mono h₃ (fun ok s₄ h₄=>?_) fun _ _ h'=>h')) fun _ _ h'=>h')) fun _ _ h'=>h')
  cases ok with
  | false=>exact wpAny_pure (.inr ⟨rfl,h₄⟩)
  | true=>exact wpAny_bind (wpAny_mono h₄ (fun _ s₅ h₅=>wpAny_pure (.inr ⟨rfl,h₅⟩)) fun _ _ h'=>h')
noncomputable def gq (c:aj W d sc) (σ:aq) (own:Own) (rest:Sem Unit) (σ':aq) (own':Own):Prop:=∀ h X a G o l (_:Pre c.ad a) (s:Shared) ad (Q:Unit→Shared→Prop) (E:Value→Shared→Prop),SV (c.at h X a G o l) σ ⟨own,ad,s.heap⟩→(∀ h' tk ad',SV (c.at h X a G o l) σ' ⟨own',ad',h'⟩→Q () (mv s h' tk))→ay W c.A rest Q E s
noncomputable abbrev i7 (c:aj W d sc) (σ:aq) (own:Own) (ifs:List Expr) (b:Bool) (own':Own):Prop:=iT c σ own (ro ifs c.env) (fun _ v=>v = b) own'
theorem i7.nil:i7 c σ own [] true own:=fun s ad Q E S F=>wpAny_tests_nil (F.here S.owns (tk:=s.toks) rfl)
theorem i7.one {e:Expr} {b:Bool} (h:bp c σ own (isTrue e c.env (eval e c.env)) b own1):i7 c σ own [e] b own1:=fun s ad Q E S F=>wpAny_tests_one (h s ad Q E S F)
theorem hY.comp {ifs:List Expr} {rest:Sem Unit} {b:Bool} (ht:∀ c:aj W d sc,i7 c σ own ifs b own1) (hr:if b = true then gq c σ own1 rest σ' own2 else σ' = σ∧own2 = own1):hY c σ own (rp c ifs rest) (.next σ' own2):=fun h X a G o l pre s ad Q E S T=>
 ht (c.at h X a G o l) s ad _ _ S fun v h1 t1 a1 k1 e=>by
  subst e
  cases v with
  | true=>exact (show gq c σ own1 rest σ' own2 from hr) h X a G o l pre _ a1 _ E (S.after k1) T
  | false=>obtain ⟨rfl,rfl⟩:σ' = σ∧own2 = own1:=hr; exact T h1 t1 a1 (S.after k1)
theorem hY.body {body:List Stmt} {f:Fl} (h:∀ c:aj W d sc,aB c σ own (execs body c.env) f):hY c σ own (fun Q E s=>ay W c.A (execs body c.env) Q E s) f:=fun g X a G o l _ s ad Q E S T=>h (c.at g X a G o l) s ad Q E S T
noncomputable abbrev ei (env:Env):Value:=.ref (env.locals - 1)
noncomputable def AccAt (n:Nat) (c:aj W d sc):Prop:=c.ad[n]? = some (c.env.locals - 1)
noncomputable abbrev i8 (elt:Expr) (env:Env):Sem Unit:=do let _ ← call (.builtin "list.append") [ei env,← eval elt env]
set_option tactic.hygienic true in
theorem gq.emit {elt:Expr} {a:AV} {l:List AV} {n:Nat} (hc:AccAt n c) (he:∀ c:aj W d sc,ak c σ own (eval elt c.env) a own1) (hl:own1[n]? = some (.lst l)) (hz:Nat.ble l.length 1000 = true):gq c σ own (i8 elt c.env) σ (own1.set n (.lst (l ++ [a]))):=fun h X b G o z pre s ad Q E S F=>
 wpAny_bind (he (c.at h X b G o z) s ad _ _ S fun x h3 t3 a3 k3 r3=>by
  refine af fun nG=>?_
  have S3:=S.after k3
  have at1:At own1 a3 n (.lst l) (c.env.locals - 1):=⟨hl,rfl,S3.pre _ _ (pre _ _ hc)⟩
  obtain ⟨_,o',ho',pr'⟩:=k3.owns.obj _ _ _ at1
  obtain ⟨rl⟩:=pr'
  refine nG ?_
  rename_i vs n'
  exact wpAny_bind (append_at (its:=vs.toArray) (n:=n') ho' (fun h2 s2 o2=>wpAny_pure (F h2 t3 a3 (S3.after (k3.owns.put at1 s2 (fun e=>by cases e) fun V le _ _=>⟨fun _=>⟨_,by rw [o2]; exact congrArg some (by simp [bo]),.mk (n:=n' + 1) ((rl.append (.cons r3 (show ai W _ [] [] from rfl))).mono le)⟩,(fun _ e=>by cases e)⟩)))) (by rw [List.size_toArray,rl.length]; exact le_size hz)))
theorem GD {elt t it:Expr} {ifs:List Expr} {scope:Scope} {env:Env}:nD (.ListComp elt [⟨t,it,ifs,0⟩] scope pos) 0 (ei env) env t ifs (i8 elt env) it.pos:=⟨fun _ _=>rfl,fun _ _=>rfl,fun _=>rfl⟩
noncomputable abbrev nF (e it2:Expr) (env:Env):Sem Unit:=do
 let x ← eval it2 env
 standAt it2.pos
 let x ← foldedSetIterable it2 env x
 let _ ← runOwn (.compStart e 1 (← holding [x] (pyIter x)) (ei env) env) env
theorem GF {elt t it t2 it2:Expr} {ifs ifs2:List Expr} {scope:Scope} {env:Env}:nD (.ListComp elt [⟨t,it,ifs,0⟩,⟨t2,it2,ifs2,0⟩] scope pos) 0 (ei env) env t ifs (nF (.ListComp elt [⟨t,it,ifs,0⟩,⟨t2,it2,ifs2,0⟩] scope pos) it2 env) it.pos:=⟨fun _ _=>rfl,fun _ _=>rfl,fun _=>by simp only [nF,bind_assoc]; rfl⟩
theorem GI {elt t it t2 it2:Expr} {ifs ifs2:List Expr} {scope:Scope} {env:Env}:nD (.ListComp elt [⟨t,it,ifs,0⟩,⟨t2,it2,ifs2,0⟩] scope pos) 1 (ei env) env t2 ifs2 (i8 elt env) it2.pos:=⟨fun _ _=>rfl,fun _ _=>rfl,fun _=>rfl⟩
theorem yn {A:Around} {env:Env} {e:Expr} {k:Nat} {D it:Value} {R:Result→Shared→Prop} {s:Shared} {g:Comprehension} (hd:∀ w it,(model pg w).den (.compStart e k it D env) = (compStart e k it D env).onRaise (fun x=>do noteFrame x env; standAt theWindowsPlace)) (hu:∀ it,A.under (.compStart e k it D env) = A) (hg:(clausesOf e)[k]? = some g) (ha:g.is_async = 0) (h0:codeAny (model pg W.w) A (.compLoop e k it D env) R s)
  (h:ay W A (pyIter it) (fun it' s'=>codeAny (model pg W.w) A (.compLoop e k it' D env) R s') (notedBy (model pg W.w) A env fun x s'=>R (.error x) s') s):codeAny (model pg W.w) A (.compStart e k it D env) R s:=by
 refine codeAny_of_tree ?_
 rw [hd,hu]
 refine wpAny_notedAt ?_
 unfold compStart
 rw [hg]
 obtain ⟨t,i,f,a⟩:=g
 obtain rfl:a = 0:=ha
 show wpAny _ _ (PySem.ask >>= _) _ _ s
 refine wpAny_bind (wpAny_askSetting (wpAny_ite ?_))
 split
 ·first
   | exact wpAny_bind (wpAny_pure (wpAny_pure (And.intro rfl h0)))
   | exact wpAny_pure (And.intro rfl h0)
 ·refine wpAny_bind (wpAny_rule ?_)
  show wpAny _ _ (standAt i.pos >>= _) _ _ s
  exact wpAny_bind (wpAny_standAt (wpAny_bind (wpAny_mono h (fun it' s' h'=>wpAny_pure (And.intro rfl h')) fun _ _ x=>x)))
theorem fK.twice {A:Around} {t:Expr} {U:AS} {ad:List Addr} {s:Shared} {as:List AV} {Q Q':Value→Shared→Prop} (h:fK W A t U ad s as Q) (k:∀ it s',Q it s'→(∀ E:Value→Shared→Prop,ay W A (pyIter it) Q E s')→Q' it s'):fK W A t U ad s as Q':=⟨fun k0 Wk hw hfp st els self=>k _ _ (h.run k0 Wk hw hfp st els self) fun E=>self 0 _ Q E st (h.run k0 Wk hw hfp st els self)⟩
theorem gq.inner {elt t it t2 it2:Expr} {ifs ifs2:List Expr} {scope:Scope} {x:AV} {as:List AV} {K:aj W d sc→Prop} (hK:∀ h X a G o l,Pre c.ad a→K (c.at h X a G o l)) (hs:i6 it2) (hx:∀ c:aj W d sc,ak c σ own (eval it2 c.env) x own1) (he:elems x = some as)
  (L:∀ c:aj W d sc,K c→cL c t2 (fun i=>.compLoop (.ListComp elt [⟨t,it,ifs,0⟩,⟨t2,it2,ifs2,0⟩] scope pos) 1 i (ei c.env) c.env) σ own1 as (.next σ' own2)):gq c σ own (nF (.ListComp elt [⟨t,it,ifs,0⟩,⟨t2,it2,ifs2,0⟩] scope pos) it2 c.env) σ' own2:=fun h X b G o z pre s ad Q E S F=>
 wpAny_bind (hx (c.at h X b G o z) s ad _ _ S fun xv h5 t5 a5 k5 r5=>by
  refine wpAny_bind (wpAny_standAt (wpAny_bind (wpAny_of_eq (hs _ _) (wpAny_bind (wpAny_holding ?_)))))
  refine rj (s:=mv s h5 t5) c.a.handled he r5 (fK.twice ((L (c.at h X b G o z) (hK h X b G o z pre)).enter (Q:=fun _ s'=>Q () s') (E:=E) (S.after k5) (F:Told (c.at h X b G o z) s (fun _ s'=>Q () s') E (.next σ' own2))) fun i s' q self=>?_)
  refine wpAny_bind (wpAny_runOwn (codeAny_mono (yn (fun _ _=>rfl) (fun _=>rfl) rfl rfl q (self _)) fun r s' hr=>?_))
  cases r with
  | ok f=>exact wpAny_pure hr
  | error x=>exact hr)
end
noncomputable def fN (sc:Scope) (p:Str×NameKind):Str×NameKind:=if (p.2 == .free && true && lk p.1 sc.names == some .cell) = true then (p.1,.cell) else p
noncomputable def bX (scope sc:Scope):Scope:={ scope with names:=scope.names.map (fN sc) }
theorem GJ (scope:Scope) (env:Env) (K:eY env):bX scope env.scope = relabel scope env:=by
 unfold bX relabel
 congr 1
 refine List.map_congr_left fun p _=>?_
 obtain ⟨n,k⟩:=p
 unfold fN
 rw [cU,K.kind]; rfl
theorem rt (sc:Scope) (p:Str×NameKind):(fN sc p).1 = p.1:=by unfold fN; split<;>rfl
theorem rz {α:Type} {x:Str} {f:Str×α→Str×α} (hf:∀ p,(f p).1 = p.1):∀ {l:List (Str×α)},lk x (l.map f) = (lk x l).map fun a=>(f (x,a)).2
 | []=>rfl
 | (y,a)::l=>by
  rw [List.map_cons,show f (y,a) = (y,(f (y,a)).2) from Prod.ext (hf _) rfl,dc,dc,rz hf]
  by_cases q:x = y
  ·rw [if_pos q,if_pos q,q]; rfl
  ·rw [if_neg q,if_neg q]
theorem GK (scope sc:Scope):de (bX scope sc) = de scope:=by
 have:∀ x,jX x (bX scope sc) = jX x scope:=fun x=>by
  show (scope.names.map (fN sc)).any (fun p=>sEq x p.1) = scope.names.any fun p=>sEq x p.1
  rw [List.any_map]
  congr 1
  funext p
  show sEq x (fN sc p).1 = _
  rw [rt]
 unfold de
 rw [this,this]
noncomputable abbrev yo:Str:=q6
theorem yp:nq = ("__debug__":Str)∧yo = ("__classdict__":Str):=⟨xW,xX⟩
noncomputable def yq (sc:Scope) (p:Str×NameKind):Bool:=lk p.1 sc.names == some p.2 && !sEq p.1 nq && !sEq p.1 yo && !(p.2 == .cell)
noncomputable def kB (sc:Scope):Bool:=sc.kind == .function && (de sc).isNone && sc.names.all (yq sc)
structure yr (sc:Scope) (x:Str) (k:NameKind):Prop where
 look:lk x sc.names = some k
 dbg:(x == ("__debug__":Str)) = false
 cls:(x == ("__classdict__":Str)) = false
 nc:k≠.cell
structure kC (sc:Scope):Prop where
 kind:sc.kind = .function
 lam:de sc = none
 name:∀ x k,(x,k)∈sc.names→yr sc x k
theorem kD {sc:Scope} (h:kB sc = true):kC sc:=by
 obtain ⟨h,h3⟩:=Bool.and_eq_true_iff.mp h
 obtain ⟨h1,h2⟩:=Bool.and_eq_true_iff.mp h
 refine ⟨beq_iff_eq.mp h1,Option.isNone_iff_eq_none.mp h2,fun x k m=>?_⟩
 have q:=List.all_eq_true.mp h3 _ m
 unfold yq at q
 simp only [Bool.and_eq_true,Bool.not_eq_true',beq_iff_eq,eE,beq_eq_false_iff_ne] at q
 obtain ⟨⟨⟨q1,q2⟩,q3⟩,q4⟩:=q
 exact ⟨q1,beq_eq_false_iff_ne.mpr (yp.1▸q2),beq_eq_false_iff_ne.mpr (yp.2▸q3),q4⟩
structure kF (sc:Scope) (σ:aq) (l:List (Str×NameKind)) (r:aq):Prop where
 look:∀ x a,lk x r = some a→lk x σ = some a∧(x,.free)∈l
 has:∀ x,(x,NameKind.free)∈l→∃ a,lk x σ = some a∧(lk x sc.names = some .cell∨lk x sc.names = some .free)
noncomputable def rA (sc:Scope) (σ:aq):(l:List (Str×NameKind))→Option { r:aq // kF sc σ l r }
 | []=>some ⟨[],⟨fun _ _ e=>(ar e),fun _ m=>((List.not_mem_nil m).elim)⟩⟩
 | (y,k)::l=>(match rA sc σ l with
  | some ⟨r,P⟩=>aG (k == .free) (fun hk=>aG (lk y sc.names == some .cell || lk y sc.names == some .free) (fun hs=>di (lk y σ) (fun a ha=>some ⟨(y,a)::r,⟨fun x b e=>by
     rw [dc] at e
     split at e
     ·rename_i q; exact ⟨q▸e▸ha,by rw [q,beq_iff_eq.mp hk]; exact .head _⟩
     ·exact ⟨(P.look x b e).1,.tail _ (P.look x b e).2⟩,fun x m=>by
     rcases List.mem_cons.mp m with q | q
     ·obtain ⟨rfl,-⟩:=Prod.mk.inj q
      exact ⟨a,ha,(Bool.or_eq_true_iff.mp hs).imp beq_iff_eq.mp beq_iff_eq.mp⟩
     ·exact P.has x q⟩⟩) fun _=>none) fun _=>none) fun hk=>some ⟨r,⟨fun x b e=>⟨(P.look x b e).1,.tail _ (P.look x b e).2⟩,fun x m=>by
     rcases List.mem_cons.mp m with q | q
     ·obtain ⟨-,rfl⟩:=Prod.mk.inj q; exact fq hk
     ·exact P.has x q⟩⟩
  | none=>none)
structure GL (env:Env) (l:List (Str×NameKind)) (acc cl:List (Str×Addr)):Prop where
 run:(forIn (m:=Sem) l acc fun p r=>if (p.2 == NameKind.free) = true then do let a ← cellOf env p.1; pure (ForInStep.yield ((p.1,a)::r)) else pure (ForInStep.yield r)) = pure cl
 from_:∀ p,p∈cl→p∈acc∨(env.cells.lookup p.1 = some p.2∧(p.1,NameKind.free)∈l)
 old:∀ p,p∈acc→p∈cl
 has:∀ x,(x,NameKind.free)∈l→∃ c,(x,c)∈cl
theorem rB {env:Env}:∀ {l:List (Str×NameKind)} {acc:List (Str×Addr)},(∀ x,(x,NameKind.free)∈l→∃ c,env.cells.lookup x = some c)→∃ cl,GL env l acc cl
 | [],acc,_=>⟨acc,rfl,fun _=>.inl,fun _ m=>m,fun _ m=>(List.not_mem_nil m).elim⟩
 | (y,k)::l,acc,h=>by
  by_cases q:k = .free
  ·subst q
   obtain ⟨c,hc⟩:=h y (.head _)
   obtain ⟨cl,C⟩:=rB (l:=l) (acc:=(y,c)::acc) fun x m=>h x (.tail _ m)
   refine ⟨cl,?_,fun p m=>?_,fun p m=>C.old p (.tail _ m),fun x m=>?_⟩
   ·rw [List.forIn_cons,if_pos (show (NameKind.free == NameKind.free) = true by decide)]
    have:cellOf env y = pure c:=by unfold cellOf; rw [hc]
    dsimp only
    rw [this]
    exact C.run
   ·rcases C.from_ p m with q | q
    ·rcases List.mem_cons.mp q with rfl | q
     ·exact .inr ⟨hc,.head _⟩
     ·exact .inl q
    ·exact .inr ⟨q.1,.tail _ q.2⟩
   ·rcases List.mem_cons.mp m with q | q
    ·obtain ⟨rfl,-⟩:=Prod.mk.inj q; exact ⟨c,C.old _ (.head _)⟩
    ·exact C.has x q
  ·obtain ⟨cl,C⟩:=rB (l:=l) (acc:=acc) fun x m=>h x (.tail _ m)
   refine ⟨cl,?_,fun p m=>(C.from_ p m).imp id fun q=>⟨q.1,.tail _ q.2⟩,C.old,fun x m=>?_⟩
   ·rw [List.forIn_cons,if_neg (by simpa using q)]
    exact C.run
   ·rcases List.mem_cons.mp m with z | z
    ·exact absurd (Prod.mk.inj z).2.symm q
    ·exact C.has x z
structure yt (env:Env) (scope:Scope) (cl:List (Str×Addr)):Prop where
 run:closureFor scope env = pure cl
 sub:∀ x c,cl.lookup x = some c→env.cells.lookup x = some c∧(x,NameKind.free)∈scope.names
 has:∀ x,(x,NameKind.free)∈scope.names→∃ c,cl.lookup x = some c
theorem rC {scope:Scope} {env:Env} (h:∀ x,(x,NameKind.free)∈scope.names→∃ c,env.cells.lookup x = some c):∃ cl,yt env scope cl:=by
 obtain ⟨cl,C⟩:=rB (acc:=[]) h
 refine ⟨cl,?_,fun x c e=>?_,fun x m=>?_⟩
 ·have e:=C.run
  unfold closureFor
  simp only [pure_bind,bind_pure] at e ⊢
  exact e
 ·rw [← cU] at e
  exact (C.from_ _ (fC e)).resolve_left fun m=>(List.not_mem_nil m).elim
 ·obtain ⟨c,hc⟩:=C.has x m
  cases q:cl.lookup x with
  | some c'=>exact ⟨c',rfl⟩
  | none=>
   have:=List.lookup_eq_none_iff.mp q _ hc
   simp at this
variable {W:ab} {d:Nat} {sc:Fs} {c:aj W d sc} {σ σ0 σ1:aq} {own own1 own2:Own} {pos:Pos}
theorem Loc.cell {env:Env} {V:Vw} {h:Heap} {x:Str} {a:AV} {sc':Scope} (es:env.scope = sc') (l:Loc W env V h x a) (hk:lk x sc'.names = some .cell∨lk x sc'.names = some .free):∃ u v,env.cells.lookup x = some u∧h.IsCell u (some v)∧Rel W V v a:=by
 rw [cU] at hk
 cases l with
 | loc k n e r=>
  have k:env.scope.names.lookup x = some .local:=k
  rw [es] at k
  rw [k] at hk; rcases hk with hk | hk<;>cases hk
 | cel k d e i r=>exact ⟨_,_,e,i,r⟩
structure kG (c:aj W d sc) (scope:Scope) (own:Own) (ad:List Addr) (h:Heap) (D:Addr) (c':aj W d ⟨bX scope sc.sc,false⟩):Prop where
 A:c'.A = c.A
 h:c'.h₀ = aQ (ao own ad) h
 X:c'.X = c.U
 ad:c'.ad = ad ++ [D]
 loc:c'.env.locals = D + 1
 B:c'.B = (· = D + 1)
theorem GN {scope:Scope} {cl:List (Str×Addr)} {ad wr:List Addr} {h h2 h4:Heap} {D:Addr} {lob:Obj} {pv:PV} {m:Str→Option Value} (S0:kC scope) (F:kF sc.sc σ scope.names σ0) (P:yt c.env scope cl) (S:SV c σ ⟨own,ad,h⟩) (k0:∀ b o,h.get? b = some o→h2.get? b = some o) (hw:∀ u,u∈wr→h.get? u = none∧∃ o,h2.get? u = some o) (k4:ag h2 h4) (hD:h2.get? D = none) (hC:h2.get? (D + 1) = none) (hDo:h4.get? D = some lob) (hl:live pv = true) (hp:∀ V,d8 W V D lob pv) (hn:h4.Ns (D + 1) m):
  ∃ (c':aj W d ⟨bX scope sc.sc,false⟩) (N:Inner c' (aQ (ao own ad) h2) (fun u=>u∈wr∨c.U u) (ad ++ [D]) wr),kG c scope own ad h D c'∧c'.env = compEnvC scope cl (D + 1) c.env∧SV N.cx σ0 ⟨own ++ [pv],ad ++ [D],h4⟩∧(⟨aF (fun u=>c.U u∨ao own ad u) h,ad⟩:Vw).Le (vw N.cx.U ⟨own ++ [pv],ad ++ [D],h4⟩)∧∀ u,u = D + 1∨ao (own ++ [pv]) (ad ++ [D]) u→h2.get? u = none∨ao own ad u:=by
 have k2:ag h h2:=.of k0
 have kk:=k2.trans k4
 have len:ad.length = own.length:=S.owns.len
 have pr:∀ u,ao (own ++ [pv]) (ad ++ [D]) u→u = D∨ao own ad u:=fun u ⟨n,qv,z⟩=>(z.push len).elim (fun z=>.inl z.2.2) fun z=>.inr ⟨n,qv,z⟩
 have nw:∀ u o,h.get? u = some o→u∉wr:=fun u o e q=>by rw [(hw u q).1] at e; exact ar e
 have nI:∀ u,ao own ad u→¬u∈wr:=fun u q=>let ⟨o,e,_⟩:=S.owns.low q; nw u o e
 have cel:∀ x a,lk x σ0 = some a→∃ u v,cl.lookup x = some u∧c.env.cells.lookup x = some u∧h.IsCell u (some v)∧Rel W (vw c.U ⟨own,ad,h⟩) v a:=fun x a e=>by
  obtain ⟨e,mx⟩:=F.look x a e
  obtain ⟨_,e',hk⟩:=F.has x mx
  obtain ⟨u,v,hu,i,r⟩:=(S.loc x a e).cell c.es hk
  obtain ⟨u',hu'⟩:=P.has x mx
  have:=(P.sub x u' hu').1
  rw [hu] at this; obtain rfl:=Option.some.inj this
  exact ⟨u,v,hu',hu,i,r⟩
 have celB:∀ x u,cl.lookup x = some u→∃ o,(aQ (ao own ad) h).get? u = some o:=fun x u e=>by
  have e:=(P.sub x u e).1
  obtain ⟨_,o,i,_⟩:=S.cls x u e
  exact ⟨o,a9.mpr ⟨i,S.nC e⟩⟩
 have names:∀ x k,lk x (bX scope sc.sc).names = some k→∃ k',yr scope x k':=fun x k e=>by
  rw [show lk x (bX scope sc.sc).names = _ from rz (rt sc.sc)] at e
  cases q:lk x scope.names with
  | none=>rw [q] at e; exact ar e
  | some k'=>exact ⟨k',S0.name x k' (fC q)⟩
 have es':(compEnvC scope cl (D + 1) c.env).scope = bX scope sc.sc:=by rw [← c.es]; exact (GJ scope c.env c.K).symm
 have K':eY (compEnvC scope cl (D + 1) c.env):=⟨by rw [es']; exact S0.kind,c.K.globals,c.K.builtins,fun x q=>by
  rw [es'] at q
  obtain ⟨k,e⟩:=Option.ne_none_iff_exists'.mp q
  rw [← cU] at e
  obtain ⟨_,f⟩:=names x k e
  exact ⟨f.dbg,f.cls⟩,fun a b q q' z=>by rw [es',GK,S0.lam] at z; exact ar z⟩
 let c':aj W d ⟨bX scope sc.sc,false⟩:={ A:=c.A,env:=compEnvC scope cl (D + 1) c.env,h₀:=aQ (ao own ad) h,X:=c.U,B:=(· = D + 1),ad:=ad ++ [D],a:=c.a,K:=K',es:=es',G:=(aw.hide S.Gp fun u z=>⟨S.owns.top u z,S.owns.low z⟩),out:=(fun u hu=>let ⟨o,e⟩:=S.gk hu; ⟨o,a9.mpr ⟨e,fun z=>S.owns.nU z hu⟩⟩),base:=rfl,cls:=(fun x u e=>.inr (celB x u e)),cel:=nofun,top:=nofun }
 have hk:ag (aQ (ao own ad) h) (aQ (ao own ad) h2):=ag.fE (ag.dQ.trans k2) fun u z=>⟨fD (.inl z),(S.owns.low z).keep k2⟩
 have N:Inner c' (aQ (ao own ad) h2) (fun u=>u∈wr∨c.U u) (ad ++ [D]) wr:=⟨fun _ _ e=>e,c'.G.trans hk,hk,fun _=>.inr,fun u q=>by
  rcases q with q | q
  ·obtain ⟨o,e⟩:=(hw u q).2; exact ⟨o,a9.mpr ⟨e,fun z=>nI _ z q⟩⟩
  ·obtain ⟨o,e⟩:=c'.out u q; exact hk.ex id e,fun u q=>⟨.inl q,fD (.inr (hw u q).1)⟩,fun x u e=>⟨fun q=>(by obtain ⟨o,e⟩:=celB x u e; rw [fD (.inr (hw u q).1)] at e; exact ar e),.inr (let ⟨o,e⟩:=celB x u e; hk.ex id e)⟩⟩
 have hz:∀ u,u = D + 1∨ao (own ++ [pv]) (ad ++ [D]) u→h2.get? u = none∨ao own ad u:=fun u q=>q.elim (fun q=>.inl (by rw [q]; exact hC)) fun q=>(pr u q).imp (fun q=>by rw [q]; exact hD) id
 have l:(vw c.U ⟨own,ad,h⟩).Le (vw N.cx.U ⟨own ++ [pv],ad ++ [D],h4⟩):=⟨kk.sub fun b o e n=>⟨id,fun q=>by
  obtain ⟨o2,e2⟩:=k2.ex id e
  rcases q with ((q | q) | q) | q
  ·exact nw _ _ e q
  ·exact n (.inl q)
  ·exact (hz b (.inl q)).elim (fun w=>by rw [e2] at w; exact c9 w) fun w=>n (.inr w)
  ·exact (hz b (.inr q)).elim (fun w=>by rw [e2] at w; exact c9 w) fun w=>n (.inr w)⟩,fF⟩
 have fr:∀ u,u = D + 1∨ao (own ++ [pv]) (ad ++ [D]) u→(aQ (ao own ad) h2).get? u = none:=fun u q=>fD ((hz u q).symm)
 have xD:∀ u,(u = D∨u = D + 1)→¬c.U u:=fun u q z=>by
  obtain ⟨_,e⟩:=S.gk z
  obtain ⟨_,e⟩:=k2.ex id e
  rcases q with q | q
  ·rw [q,hD] at e; exact ar e
  ·rw [q,hC] at e; exact ar e
 have dI:D∉wr:=fun q=>by obtain ⟨o,e⟩:=(hw D q).2; rw [hD] at e; exact ar e
 have apD:¬ao own ad D:=fun q=>by obtain ⟨o,e,_⟩:=S.owns.low q; obtain ⟨_,e⟩:=k2.ex id e; rw [hD] at e; exact ar e
 refine ⟨c',N,⟨rfl,rfl,rfl,rfl,rfl,rfl⟩,rfl,⟨fun _ _ e=>e,ag.dQ.trans k4,⟨by simp [len],fun n qv a z=>?_,fun n t e=>?_,fun n k qv rv a z y=>?_,fun u z=>(pr u z).elim (fun q=>q▸(S.Gp.trans k2).gone hD) (S.owns.top u)⟩,fun u z=>fr u (.inr z),fun u q=>⟨fr u (.inl q),q▸.ns hn⟩,⟨m,hn⟩,fun x u e=>?_,fun x a e=>?_⟩,l,hz⟩
 ·rcases z.push len with ⟨_,rfl,rfl⟩ | z
  ·exact ⟨fun q=>q.elim (fun q=>q.elim dI (xD _ (.inl rfl))) fun q=>Nat.ne_of_lt (Nat.lt_succ_self _) q,lob,hDo,hp _⟩
  ·refine af fun nG=>?_
   obtain ⟨nU,o,e,r⟩:=S.owns.obj _ _ _ z
   refine nG ?_
   exact ⟨fun q=>q.elim (fun q=>q.elim (nI _ ⟨n,qv,z⟩) nU) fun q=>(by obtain ⟨_,e⟩:=k2.ex id e; rw [q,hC] at e; exact ar e),o,kk.gj e r.soft.2,r.mono l⟩
 ·rcases jZ e with ⟨_,e⟩ | e
  ·rw [← e] at hl; exact aS hl
  ·obtain ⟨a,e,r⟩:=S.owns.fz n t e; exact ⟨a,fF _ _ e,r.mono l⟩
 ·rcases z.push len with ⟨z,_,x⟩ | z<;>rcases y.push len with ⟨y,_,w⟩ | y
  ·rw [z,y]
  ·exact absurd ⟨_,_,x▸y⟩ apD
  ·exact absurd ⟨_,_,w▸z⟩ apD
  ·exact S.owns.inj _ _ _ _ _ z y
 ·refine af fun nG=>?_
  have e:=(P.sub x u e).1
  obtain ⟨v,i⟩:=S.cls x u e
  refine nG ?_
  exact ⟨v,kk.cell id i⟩
 ·refine af fun nG=>?_
  obtain ⟨u,v,hu,_,i,r⟩:=cel x a e
  obtain ⟨_,mx⟩:=F.look x a e
  refine nG ?_
  have f:=S0.name x _ mx
  refine .cel ?_ f.cls hu (kk.cell id i) (r.mono l)
  show (compEnvC scope cl (D + 1) c.env).scope.names.lookup x = _∨(compEnvC scope cl (D + 1) c.env).scope.names.lookup x = _
  rw [es',← cU,show lk x (bX scope sc.sc).names = _ from rz (rt sc.sc),f.look]
  show some (fN sc.sc (x,.free)).2 = _∨some (fN sc.sc (x,.free)).2 = _
  unfold fN
  split
  ·exact .inl rfl
  ·exact .inr rfl
theorem GO {scope:Scope} {ad ad':List Addr} {h h' h5:Heap} {D:Addr} {c':aj W d ⟨bX scope sc.sc,false⟩} (C:kG c scope own ad h D c') (S':SV c' σ1 ⟨own2,ad',h'⟩) (s:Heap.SameBut (D + 1) h' h5) (hn:bA h' (D + 1)) (hz:h.get? (D + 1) = none):After W c.U ⟨own,ad,h⟩ ⟨own2,ad',h5⟩:=by
 have kx:=aw.one hn s
 have O:=((S'.owns.mN (.inr (by rw [C.B])) kx).1.less (U:=c.U) fun u q=>.inl (by rw [C.X]; exact q)).1
 have k:=S'.leave (p:=⟨own,ad,h⟩) C.h (by rw [C.ad]; exact fF)
 exact ⟨k.ad,k.keep.dF kx fun u q=>fD (.inr (q▸hz)),k.new,O⟩
structure CompEnd (c:aj W d sc) (scope:Scope) (σ σ1:aq) (own own1 own2:Own) (ad:List Addr) (s:Shared) (D:Addr) (h':Heap) (ad':List Addr):Prop where
 ex:∃ ad1 h1 c',SV c σ ⟨own1,ad1,h1⟩∧After W c.U ⟨own,ad,s.heap⟩ ⟨own1,ad1,h1⟩∧kG c scope own1 ad1 h1 D c'∧SV c' σ1 ⟨own2,ad',h'⟩∧h1.get? (D + 1) = none∧ad'[own1.length]? = some D
theorem yu {elt t it:Expr} {ifs:List Expr} {gs:List Comprehension} {scope:Scope} {x:AV} {as:List AV} (S0:kC scope) (F:kF sc.sc σ scope.names σ0) (hni:i6 it) (hx:ak c σ own (eval it c.env) x own1) (he:elems x = some as)
  (L:∀ c':aj W d ⟨bX scope sc.sc,false⟩,AccAt own1.length c'→cL c' t (fun i=>.compLoop (.ListComp elt (⟨t,it,ifs,0⟩::gs) scope pos) 0 i (ei c'.env) c'.env) σ0 (own1 ++ [.lst []]) as (.next σ1 own2)) {s:Shared} {ad:List Addr} {Q:Value→Shared→Prop} {E:Value→Shared→Prop} (S:SV c σ ⟨own,ad,s.heap⟩) {use:Option (Value→Sem Unit)}
  (G:∀ D h' tk ad',CompEnd c scope σ σ1 own own1 own2 ad s D h' ad'→compPost (model pg W.w) c.A E use Q (.ref D) (D + 1) (.ok .next) (mv s h' tk)):ay W c.A (comprehension (.ListComp elt (⟨t,it,ifs,0⟩::gs) scope pos) scope c.env (firstIterPos (⟨t,it,ifs,0⟩::gs) pos) (newList []) false (firstIter (⟨t,it,ifs,0⟩::gs) c.env) use) Q E s:=by
 refine af fun nG=>?_
 have cells:∀ {p:Pt},SV c σ p→∀ x,(x,NameKind.free)∈scope.names→∃ u,c.env.cells.lookup x = some u:=fun S x m=>by
  obtain ⟨a,ha,hk⟩:=F.has x m
  obtain ⟨u,_,e,_⟩:=(S.loc x a ha).cell c.es hk
  exact ⟨u,e⟩
 obtain ⟨cl,P⟩:=rC (scope:=scope) (env:=c.env) (cells S)
 refine nG ?_
 refine wpAny_comprehension_free (g:=⟨t,it,ifs,0⟩) (gs:=gs) rfl (hni _) P.run S0.kind (fun p m e=>by have:=(S0.name p.1 p.2 m).look; rw [cU,e] at this; exact this) ?_
 refine hx s ad _ _ S fun xv h1 t1 a1 k1 r1=>?_
 have S1:=S.after k1
 refine rj (s:=mv s h1 t1) (t:=t) c.a.handled he r1 ⟨fun {h2 I fp n P' Md St Els fl wr tk} k0 Wk hw hfp st els self=>?_⟩
 refine wpAny_newObj_type (wpAny_newFunctionEnv (fun y hy=>(S0.name y.1 y.2 hy).nc) (fun y hy=>(List.not_mem_nil hy).elim) (fun h4 hns4 hsb4=>?_) S0.kind)
 generalize hDz:(Shared.heap { (mv s h1 t1) with heap:=h2,toks:=tk }).objs.size = D at *
 generalize hCz:((Shared.heap { (mv s h1 t1) with heap:=h2,toks:=tk }).push { cls:=Value.type "list",data:=Data.seq #[] }).objs.size = C at *
 replace hDz:h2.objs.size = D:=hDz
 have hC:C = D + 1:=by rw [← hCz,Heap.size_push]; exact congrArg (· + 1) hDz
 subst hC
 show codeAny _ _ (.compStart _ 0 (.ref I) (.ref D) (compEnvC scope cl (D + 1) c.env)) _ (mv s h4 _)
 refine af fun nG=>?_
 have n2:∀ u,D≤u→h2.get? u = none:=fun u hu=>by
  cases q:h2.get? u with
  | none=>rfl
  | some o=>exact absurd (Heap.lt_size q) (by rw [hDz]; exact Nat.not_lt.mpr hu)
 have o24:∀ b o,h2.get? b = some o→h4.get? b = some o:=fun b o q=>(hsb4.2 b fun z=>by rw [n2 b (z▸Nat.le_succ D)] at q; exact ar q).trans (Heap.get?_push_of_some _ (Heap.get?_push_of_some _ q))
 have hDo:h4.get? D = some (bo [] 0):=(hsb4.2 D (Nat.ne_of_lt (Nat.lt_succ_self D))).trans (Heap.get?_push_of_some _ (hDz▸Heap.get?_push_size _ rfl))
 obtain ⟨c',N,C,ec,SV1,le,hz⟩:=GN (h2:=h2) (pv:=.lst []) S0 F P S1 k0 (fun u q=>⟨hw u q,let ⟨o,e,_⟩:=Wk.low _ _ st u (Wk.fl u (Wk.k.sub u q)); ⟨o,e⟩⟩) (.of o24) (n2 D (Nat.le_refl D)) (n2 _ (Nat.le_succ D)) hDo rfl (fun V=>.mk (show ai W V [] [] from rfl)) hns4
 refine nG ?_
 have st4:St 0 h4:=Wk.k.frame _ _ _ st fun b hb o q=>o24 b o q
 have hC1:h1.get? (D + 1) = none:=(ag.of k0).gone (n2 _ (Nat.le_succ D))
 have run:=(L c' (by show c'.ad[_]? = some (c'.env.locals - 1); rw [C.ad,C.loc,← S1.owns.len]; exact iS)).run (by rw [C.A]; exact Wk) N (s:=mv s h4 (tk + 0)) (i:=0) (R:=compPost (model pg W.w) c.A E use Q (.ref D) (D + 1)) SV1 st4 (els _ le) (fun b hb=>by
   obtain ⟨o,w,_⟩:=Wk.low _ _ st b hb
   have nb:¬(b = D + 1∨ao (own1 ++ [.lst []]) (a1 ++ [D]) b):=fun q=>(hz b q).elim (fun z=>by rw [z] at w; exact ar w) fun z=>(hfp b hb).elim (fun q=>by obtain ⟨o,e,_⟩:=S1.owns.low z; rw [show h1.get? b = none from q] at e; exact ar e) fun q=>q (.inr z)
   exact ⟨fun q=>nb (.inl (by rw [C.B] at q; exact q)),fun q=>nb (.inr q)⟩) (fun h' tk ad' S'=>G D h' tk ad' ⟨a1,h1,c',S1,k1,C,S',hC1,S'.pre _ _ (by rw [C.ad,← S1.owns.len]; exact iS)⟩)
 rw [C.A,ec] at run
 exact yn (fun _ _=>rfl) (fun _=>rfl) rfl rfl run (self 0 _ _ _ st4 run)
theorem yv {elt t it:Expr} {ifs:List Expr} {gs:List Comprehension} {scope:Scope} {x:AV} {as:List AV} (S0:kC scope) (F:kF sc.sc σ scope.names σ0) (hni:i6 it) (hx:ak c σ own (eval it c.env) x own1) (he:elems x = some as)
  (L:∀ c':aj W d ⟨bX scope sc.sc,false⟩,AccAt own1.length c'→cL c' t (fun i=>.compLoop (.ListComp elt (⟨t,it,ifs,0⟩::gs) scope pos) 0 i (ei c'.env) c'.env) σ0 (own1 ++ [.lst []]) as (.next σ1 own2)):ak c σ own (eval (.ListComp elt (⟨t,it,ifs,0⟩::gs) scope pos) c.env) (.loc own1.length) own2:=fun s ad Q E S G=>
 yu S0 F hni hx he L S (use:=none) fun D h' tk ad' Z=>by
  refine af fun nG=>?_
  obtain ⟨ad1,h1,c',S1,k1,C,S',hC1,hD⟩:=Z
  obtain ⟨m,hm⟩:=S'.ns
  refine nG ?_
  rw [C.loc] at hm
  exact ⟨m,hm,fun h5 s5=>G _ h5 tk ad' (k1.trans (GO C S' s5 (.ns hm) hC1)) (.mk hD)⟩
theorem kG.inner {scope:Scope} {ad ad':List Addr} {h h':Heap} {D:Addr} {c':aj W d ⟨bX scope sc.sc,false⟩} (C:kG c scope own ad h D c') (S:SV c σ ⟨own,ad,h⟩) (S':SV c' σ1 ⟨own2,ad',h'⟩) (hz:h.get? (D + 1) = none):∃ (h₁:Heap) (X':AS) (N:Inner c h₁ X' ad' [D + 1]),SV N.cx σ ⟨own2,ad',h'⟩∧∃ m,h₁.Ns (D + 1) m:=by
 refine af fun nG=>?_
 obtain ⟨A',env',h0',X1,B1,ad0',a',K',es',G',out',yw,cls',cel'⟩:=c'
 obtain ⟨rfl,rfl,rfl,rfl,el,rfl⟩:=C
 have K:ag (aQ (ao own ad) h) h':=S'.keep
 have fr:∀ u,ao own2 ad' u→(aQ (ao own ad) h).get? u = none:=S'.new
 have k0:ag c.h₀ (aQ (ao own ad) h):=S.keep.fE fun u z=>⟨S.new u z,S.owns.low z⟩
 have lo:∀ u,c.B u∨ao own2 ad' u→c.h₀.get? u = none∧bA h' u:=fun u q=>q.elim (fun q=>⟨(S.low u q).1,let ⟨o,e,t⟩:=(S.low u q).2; bA.keep ⟨o,a9.mpr ⟨e,S.nB q⟩,t⟩ K⟩) fun q=>⟨k0.gone (fr u q),S'.owns.low q⟩
 have kk:ag c.h₀ (aQ (fun u=>c.B u∨ao own2 ad' u) h'):=ag.fE (k0.trans K) lo
 obtain ⟨m,hm⟩:=S'.ns
 refine nG ?_
 replace hm:h'.Ns (D + 1) m:=el▸hm
 have nC:¬(c.B (D + 1)∨ao own2 ad' (D + 1)):=fun q=>q.elim (fun q=>by obtain ⟨o,e,_⟩:=(S.low _ q).2; rw [hz] at e; exact ar e) (S'.nB (show (D + 1:Addr) = D + 1 from rfl))
 have hm':=j3 (P:=fun u=>c.B u∨ao own2 ad' u) nC hm
 have pre:Pre ad ad':=fun n a e=>S'.pre n a (fF _ _ e)
 have N:Inner c (aQ (fun u=>c.B u∨ao own2 ad' u) h') (fun u=>u = D + 1∨c.X u) ad' [D + 1]:=⟨fun n a e=>pre n a (S.pre n a e),c.G.trans kk,kk,fun _=>.inr,fun u q=>by
  rcases q with rfl | q
  ·obtain ⟨o,_,_,e,_⟩:=hm'; exact ⟨o,e⟩
  ·obtain ⟨o,e⟩:=c.out u q; exact kk.ex id e,fun u q=>by rw [List.mem_singleton.mp q]; exact ⟨.inl rfl,S.keep.gone hz⟩,fun x a e=>⟨fun q=>(by obtain ⟨_,o,e,_⟩:=S.cls x a e; rw [List.mem_singleton.mp q,hz] at e; exact ar e),(c.cls x a e).imp id fun ⟨o,e'⟩=>kk.ex id e'⟩⟩
 have le:(vw c.U ⟨own,ad,h⟩).Le (vw N.cx.U ⟨own2,ad',h'⟩):=⟨fun b o ⟨e,s,n⟩=>have v:=a9.mpr ⟨e,fun q=>n (.inr q)⟩; ⟨K.get v s,s,fun q=>by
  rcases q with ((q | q) | q) | q
  ·rw [q,hz] at e; exact ar e
  ·exact n (.inl (.inl q))
  ·exact n (.inl (.inr q))
  ·rw [fr b q] at v; exact ar v⟩,pre⟩
 exact ⟨_,_,N,⟨fun _ _ e=>e,ag.dQ,(S'.owns.less (U:=N.cx.U) fun u q=>q.elim (fun q=>q.elim .inr fun q=>.inl (.inl q)) fun q=>.inl (.inr q)).1,fun u q=>iO (.inr q),fun u q=>⟨iO (.inl q),(lo u (.inl q)).2⟩,let ⟨m,n⟩:=S.ns; ⟨m,K.ns id (j3 (S.nB c.base) n)⟩,fun x u e=>let ⟨v,i⟩:=S.cls x u e; ⟨v,K.cell id (mM (S.nC e) i)⟩,fun x a e=>(S.loc x a e).mv (fun _ n=>K.ns id (j3 (S.nB c.base) n)) (fun u _ e i=>K.cell id (mM (S.nC e) i)) le⟩,m,hm'⟩
theorem aB.comp {σ':aq} {y:Str} {py cpos:Pos} {elt t it:Expr} {ifs:List Expr} {gs:List Comprehension} {scope:Scope} {x:AV} {as:List AV} (hsw:swapsWith (.ListComp elt (⟨t,it,ifs,0⟩::gs) scope cpos) (some (.Name y py)) pos.line c.env = pure true) (S0:kC scope) (F:kF sc.sc σ scope.names σ0) (hni:i6 it) (hx:ak c σ own (eval it c.env) x own1) (he:elems x = some as)
  (L:∀ c':aj W d ⟨bX scope sc.sc,false⟩,AccAt own1.length c'→cL c' t (fun i=>.compLoop (.ListComp elt (⟨t,it,ifs,0⟩::gs) scope cpos) 0 i (ei c'.env) c'.env) σ0 (own1 ++ [.lst []]) as (.next σ1 own2)) (hb:iZ sc y (.loc own1.length) σ σ'):aB c σ own (exec (.Assign [.Name y py] (.ListComp elt (⟨t,it,ifs,0⟩::gs) scope cpos) pos) c.env) (.next σ' own2):=fun s ad Q E S T=>by
 rw [exec_Assign_Name_used _ _ _ _ hsw]
 refine wpAny_bind (wpAny_standAt (wpAny_bind ?_))
 show wpAny _ _ (comprehension (.ListComp elt (⟨t,it,ifs,0⟩::gs) scope cpos) scope c.env (firstIterPos (⟨t,it,ifs,0⟩::gs) cpos) (newList []) false (firstIter (⟨t,it,ifs,0⟩::gs) c.env) (some (PySem.assign (.Name y py) c.env)) >>= _) _ _ _
 refine wpAny_bind (wpAny_mono (yu S0 F hni hx he L S (use:=some (PySem.assign (.Name y py) c.env)) (Q:=fun _ s'=>Q .next s') (E:=E) fun D h' tk ad' Z=>?_) (fun _ s' hq=>wpAny_pure (wpAny_pure hq)) fun _ _ e=>e)
 refine af fun nG=>?_
 obtain ⟨ad1,h1,c',S1,k1,C,S',hC1,hD⟩:=Z
 obtain ⟨h₁,X',N,SN,m,hm⟩:=C.inner S1 S' hC1
 refine nG ?_
 show wpAny _ _ (PySem.assign (.Name y py) c.env (.ref D)) _ _ _
 exact assign_Name (hb (c:=N.cx) (s:=mv s h' tk) SN (.mk hD) fun h2 t2 S2 _=>by
  have hm2:=S2.keep.ns id hm
  refine ⟨m,hm2,fun h5 s5=>T h5 t2 ad' (N.up S2 (aw.one (.ns hm2) s5) (fun u q z=>?_) (fun x a e q=>(N.cls x a e).1 (List.mem_singleton.mpr q)) fun u z=>(N.it u (List.mem_singleton.mpr z)).symm)⟩
  refine af fun nG=>?_
  obtain ⟨o,_,_,w,_⟩:=hm
  refine nG ?_
  have f:h₁.get? u = none:=q.elim (fun q=>(S2.low u q).1) (S2.new u)
  rw [z,w] at f; exact c9 f)
end
noncomputable def aU (own:Own) (a:AV) (own':Own) (b:AV):Prop:=∀ {W:ab} {U:AS} {ad:List Addr} {h:Heap},aO W U ⟨own,ad,h⟩→After W U ⟨own,ad,h⟩ ⟨own',ad,h⟩∧∀ v,Rel W (vw U ⟨own,ad,h⟩) v a→Rel W (vw U ⟨own',ad,h⟩) v b
theorem aU.refl {own:Own} {a:AV}:aU own a own a:=fun O=>⟨O.refl,fun _ r=>r⟩
theorem aO.GP {W:ab} {U:AS} {p:Pt} (O:aO W U p) {n:Nat} {pv pv':PV} {a:Addr} (z:At p.own p.ad n pv a) (hl:live pv' = false):¬ao (p.own.set n pv') p.ad a:=fun ⟨m,qv,y⟩=>by
 rcases qs y.own with ⟨_,e⟩ | ⟨x,e⟩
 ·have:=y.live; rw [e,hl] at this; exact aS this
 ·exact x (O.inj _ _ _ _ _ ⟨e,y.live,y.ad⟩ z)
theorem aO.rD {W:ab} {U:AS} {p:Pt} (O:aO W U p) {n:Nat} {pv pv':PV} {a:Addr} (z:At p.own p.ad n pv a) (hl:live pv' = false) (hr:∀ t,pv' = .froz t→∀ V,(vw U p).Le V→V.ad = p.ad→V.g = aF (fun u=>U u∨ao (p.own.set n pv') p.ad u) p.h→(∀ o,p.h.get? a = some o→soft o = false→V.g a o)→Rel W V (.ref a) t):After W U p ⟨p.own.set n pv',p.ad,p.h⟩:=by
 refine af fun nG=>?_
 obtain ⟨nu,o,e,r⟩:=O.obj _ _ _ z
 refine nG ?_
 refine O.put z ⟨rfl,fun _ _=>rfl⟩ (fun _=>rfl) fun V le ea hg=>⟨fun q=>(by rw [hl] at q; exact aS q),fun t ht=>?_⟩
 refine af fun nG=>?_
 obtain ⟨eg,ng⟩:=hg hl
 refine nG ?_
 exact hr t ht V le ea eg fun o e s=>by rw [eg]; exact ⟨e,s,ng⟩
theorem aU.one {own:Own} {n:Nat} {pv:PV} {t:AV} (h:own[n]? = some pv) (hl:live pv = true) (hr:∀ {W:ab} {V:Vw} {a:Addr} {o:Obj},d8 W V a o pv→V.g a o→Rel W V (.ref a) t):aU own (.loc n) (own.set n (.froz t)) t:=fun {W U ad hp} O=>by
 refine af fun nG=>?_
 obtain ⟨a,ea⟩:∃ a,ad[n]? = some a:=⟨_,List.getElem?_eq_getElem (by rw [O.len]; exact (List.getElem?_eq_some_iff.mp h).1)⟩
 have z:At own ad n pv a:=⟨h,hl,ea⟩
 obtain ⟨nu,o,eo,pr⟩:=O.obj _ _ _ z
 refine nG ?_
 have k:=O.rD z (pv':=.froz t) rfl fun t' ht V le _ _ hg=>by cases ht; exact hr (pr.mono le) (hg _ eo pr.soft.1)
 refine ⟨k,fun v r=>?_⟩
 refine af fun nG=>?_
 obtain ⟨e⟩:=r
 obtain ⟨a',e',r⟩:=k.owns.fz n t (by rw [List.getElem?_set_self (List.getElem?_eq_some_iff.mp h).1])
 refine nG ?_
 cases e.symm.trans e'
 exact r
theorem aU.told {own:Own} {n:Nat} {t:AV} (h:own[n]? = some (.froz t)):aU own (.loc n) own t:=fun O=>⟨O.refl,fun v r=>by
 obtain ⟨e⟩:=r
 obtain ⟨a,e',r⟩:=O.fz n t h
 cases e.symm.trans e'
 exact r⟩
set_option tactic.hygienic true in
theorem aU.obj {own:Own} {n m:Nat} {C:Addr} {fs:List (Str×AV)} (h:own[n]? = some (.obj C m)) (h':own[m]? = some (.fld fs)):aU own (.loc n) ((own.set m .gone).set n (.froz (.inst C fs))) (.inst C fs):=fun {W U ad hp} O=>by
 refine af fun nG=>?_
 have nm:m≠n:=fun q=>by rw [q,h] at h'; cases h'
 obtain ⟨a,ea⟩:∃ a,ad[n]? = some a:=⟨_,List.getElem?_eq_getElem (by rw [O.len]; exact (List.getElem?_eq_some_iff.mp h).1)⟩
 have z:At own ad n (.obj C m) a:=⟨h,rfl,ea⟩
 obtain ⟨nu,o,eo,pr⟩:=O.obj _ _ _ z
 obtain ⟨ed⟩:=pr
 rename_i dx
 have z':At own ad m (.fld fs) dx:=⟨h',rfl,ed⟩
 obtain ⟨nu',o',eo',pr'⟩:=O.obj _ _ _ z'
 refine nG ?_
 have k1:=O.rD z' (pv':=.gone) rfl fun t ht=>nomatch ht
 have z1:At (own.set m .gone) ad n (.obj C m) a:=⟨by rw [List.getElem?_set_ne nm]; exact h,rfl,ea⟩
 have np:=O.GP z' (pv':=.gone) rfl
 have k2:=k1.owns.rD z1 (pv':=.froz (.inst C fs)) rfl fun t ht V le _ _ hg=>by
  cases ht
  obtain ⟨rl⟩:=pr'
  exact .mk (hg _ eo rfl) (le.g _ _ ⟨eo',rfl,fun q=>q.elim nu' np⟩) ((rl.mono k1.view).mono le)
 refine ⟨k1.trans k2,fun v r=>?_⟩
 refine af fun nG=>?_
 obtain ⟨e⟩:=r
 obtain ⟨a',e',r⟩:=k2.owns.fz n (.inst C fs) (by rw [List.getElem?_set_self (by rw [List.length_set]; exact (List.getElem?_eq_some_iff.mp h).1)])
 refine nG ?_
 cases e.symm.trans e'
 exact r
noncomputable def GQ (own:Own) (n:Nat) (pv:PV) (h:own[n]? = some pv):{ r:AV×Own // aU own (.loc n) r.2 r.1 }:=match pv,h with
 | .froz t,h=>⟨(t,own),aU.told h⟩
 | .lst l,h=>⟨(.lst l,own.set n (.froz (.lst l))),aU.one h rfl fun r g=>by obtain ⟨rl⟩:=r; exact .mk g rl⟩
 | .dicS l,h=>⟨(.dicS l,own.set n (.froz (.dicS l))),aU.one h rfl fun r g=>by obtain ⟨ns,kvs,d,rl⟩:=r; exact .mk g ns d rl⟩
 | .dicI l,h=>⟨(.dicI l,own.set n (.froz (.dicI l))),aU.one h rfl fun r g=>by obtain ⟨ns,kvs,d,rl⟩:=r; exact .mk g ns d rl⟩
 | .obj C m,h=>(match ow own m with
  | some ⟨.fld fs,h'⟩=>⟨(.inst C fs,(own.set m .gone).set n (.froz (.inst C fs))),aU.obj h h'⟩
  | _=>⟨(.loc n,own),aU.refl⟩)
 | _,_=>⟨(.loc n,own),aU.refl⟩
noncomputable def settle (own:Own) (a:AV):{ r:AV×Own // aU own a r.2 r.1 }:=match a with
 | .loc n=>(match ow own n with
  | some ⟨pv,h⟩=>GQ own n pv h
  | none=>⟨(.loc n,own),aU.refl⟩)
 | a=>⟨(a,own),aU.refl⟩
noncomputable def GR (own:Own) (a:AV):{ b:AV // aU own a own b }:=match a with
 | .loc n=>(match ow own n with
  | some ⟨.froz t,h⟩=>⟨t,aU.told h⟩
  | _=>⟨.loc n,aU.refl⟩)
 | a=>⟨a,aU.refl⟩
noncomputable def fL {α:Type} (l:List α):{ m:List α // m = l }:=List.rec (motive:=fun l=>{ m:List α // m = l }) ⟨[],rfl⟩ (fun a l ih=>Subtype.rec (motive:=fun _=>{ m:List α // m = a::l }) (fun m h=>⟨a::m,congrArg (a::·) h⟩) ih) l
theorem ak.hZ {W:ab} {d:Nat} {sc:Fs} {c:aj W d sc} {σ:aq} {own own1 own2:Own} {t:Sem Value} {a b:AV} (h:ak c σ own t a own1) (f:aU own1 a own2 b):ak c σ own t b own2:=fun s ad Q E S F=>
 h s ad Q E S fun v h' tk ad' k r=>let ⟨k2,r2⟩:=f k.owns; F v h' tk ad' (k.trans k2) (r2 v r)
end Mine
end
section
open PySem PySem.W PyProof.Rows PySem.Calls
namespace Mine
noncomputable abbrev nH (sc:Scope) (x:Str):Bool:=cZ sc x .local
noncomputable def kH (sc:Scope) (ts:List Expr):List Str:=ts.filterMap fun
 | .Name id pos=>if (nH sc id && pos.line == (ts.head?.map (·.pos.line)).getD 0) = true then some id else none
 | _=>none
noncomputable def nJ (sc:Scope) (ts vs:List Expr):Option (Option (List Str)):=
 if (!(ts.length == 2 || ts.length == 3) || vs.length != ts.length) = true then some none
 else if (vs.any fun | .Starred ..=>true | _=>false) = true then some none
 else if ((kH sc ts).length != ts.length || (kH sc ts).eraseDups.length != (kH sc ts).length) = true then some none
 else if vs.all (foldedForSure 8) = true then some none
 else if vs.all (constantsAlone 8) = true then none
 else some (some (kH sc ts))
noncomputable def rowOf (e:Expr):List Expr:=match e with
 | .Tuple es _ _=>es
 | _=>[]
section
variable {W:ab} {d:Nat} {sc:Fs} {c:aj W d sc} {σ σ':aq} {own own1:Own} {pos:Pos}
theorem yx (c:aj W d sc) (x:Str):nH sc.sc x = (c.env.kindOf x == some .local):=by
 unfold nH cZ
 rw [cU,← c.es]
 show _ = (c.env.scope.names.lookup x == some .local)
 cases c.env.scope.names.lookup x<;>rfl
theorem yy {α:Type} {p:Prop} [Decidable p] {a b c:α} {R:Prop} (h:(if p then a else b) = c) (h1:p→a = c→R) (h2:¬p→b = c→R):R:=by
 by_cases q:p
 ·rw [if_pos q] at h; exact h1 q h
 ·rw [if_neg q] at h; exact h2 q h
theorem yz (c:aj W d sc) {ts vs:List Expr} {k k2:Nat} {tp p2:Pos} {r:Option (List Str)} (h:nJ sc.sc ts vs = some r):swappedStores [.Tuple ts k tp] (.Tuple vs k2 p2) c.env = pure r:=by
 have hb:(c.env.blockKind != ScopeKind.function) = false:=by
  unfold Env.blockKind; rw [c.K.kind]; rfl
 unfold nJ at h
 simp only [kH,yx c] at h
 unfold swappedStores
 dsimp only
 rw [hb,Bool.or_false]
 iterate 4
  refine yy h ?_ ?_
  ·intro q e; exact Eq.trans (if_pos q) (congrArg _ (Option.some.inj e))
  clear h
  intro q h
  refine Eq.trans (if_neg q) ?_
  clear q
 refine yy h (fun _ e=>ar e) fun q h=>?_
 exact Eq.trans (if_neg q) (congrArg _ (Option.some.inj h))
theorem ai.rev {V:Vw}:∀ {as:List AV} {vs:List Value},ai W V vs as→ai W V vs.reverse as.reverse
 | [],_,r=>by obtain rfl:=r; rfl
 | _::_,_,r=>by obtain ⟨h,r⟩:=r; rw [List.reverse_cons,List.reverse_cons]; exact r.rev.append (.cons h (show ai W V [] [] from rfl))
noncomputable def yA (sc:Fs) (xs:List Str) (as:List AV) (σ σ':aq):Prop:=∀ {W:ab} {d} {c:aj W d sc} {own ad s vs} {Q:Unit→Shared→Prop} {E:Value→Shared→Prop},SV c σ ⟨own,ad,s.heap⟩→ai W (vw c.U ⟨own,ad,s.heap⟩) vs as→(∀ h' tk,SV c σ' ⟨own,ad,h'⟩→Q () (mv s h' tk))→ay W c.A (assignInOrder (xs.map fun n=>bindName c.env n) vs) Q E s
noncomputable def yB (sc:Fs):(xs:List Str)→(as:List AV)→(σ:aq)→Option { σ':aq // yA sc xs as σ σ' }
 | [],[],σ=>some ⟨σ,fun {_ _ _ _ _ s _ _ _} S rl G=>rl▸wpAny_pure (G s.heap s.toks S)⟩
 | x::xs,a::as,σ=>(match ki sc x a σ with
  | some r=>(match yB sc xs as r.1 with
   | some q=>some ⟨q.1,fun S rl G=>by
    obtain ⟨rv,rl⟩:=rl
    exact wpAny_assignInOrder_more (wpAny_bindName (r.2 S rv fun h1 t1 S1 s1=>q.2 (s:=Mine.mv _ h1 t1) S1 (rl.mono s1) fun h2 t2 S2=>G h2 t2 S2))⟩
   | none=>none)
  | none=>none)
 | _,_,_=>none
theorem aB.tup {ts:List Expr} {k:Nat} {tp:Pos} {e:Expr} {as:List AV} (hs:swapsWithSole [.Tuple ts k tp] e pos.line c.env = pure false) (hw:swappedStores [.Tuple ts k tp] e c.env = pure none) (he:ak c σ own (eval e c.env) (.tup as) own1) (hb:fJ (.Tuple ts k tp) sc (.tup as) σ σ'):aB c σ own (exec (.Assign [.Tuple ts k tp] e pos) c.env) (.next σ' own1):=fun s ad Q E S T=>
 Assign_Tuple (he s ad _ _ S fun v h1 t1 a1 k1 r1=>hb (s:=mv s h1 t1) (S.after k1) (.rel r1) fun h2 t2 S2 _=>T h2 t2 a1 S2) hs hw
set_option tactic.hygienic true in
theorem aB.swap {ts vs:List Expr} {k k2:Nat} {tp p2:Pos} {as:List AV} {ns:List Str} (hw:nJ sc.sc ts vs = some (some ns)) (hn:Nat.beq ns.length as.length = true) (he:ak c σ own (eval (.Tuple vs k2 p2) c.env) (.tup as) own1) (hb:yA sc ns.reverse as.reverse σ σ'):aB c σ own (exec (.Assign [.Tuple ts k tp] (.Tuple vs k2 p2) pos) c.env) (.next σ' own1):=fun s ad Q E S T=>
 Assign_Tuple_swapped (he s ad _ _ S fun v h1 t1 a1 k1 r1=>by
  obtain ⟨hg,rl⟩:=r1
  rename_i T' vals n
  have hl:=rl.length
  rw [Nat.eq_of_beq_eq_true hn,← hl,show vals.length = vals.toArray.size by simp]
  refine unpackItems_tuple (items:=vals.toArray) c.a.handled ⟨_,hg.1,rfl,n,rfl⟩ fun g2 k2=>?_
  have k2:=k1.owns.grow (yj k2)
  exact hb (s:=mv s g2 t1) ((S.after k1).after k2) (rl.mono k2.view).rev fun h3 t3 S3=>T h3 t3 a1 S3) rfl (yz c hw)
end
end Mine
end
section
set_option backward.match.sparseCases false
open PySem PySem.W PyProof.Rows PySem.Calls
set_option maxRecDepth 100000
namespace Mine
open AutoSeq1 (wpAny_loadPart')
noncomputable abbrev Pl (o:Obj):Prop:=soft o = false∧bB o = false
theorem gr {o:Obj} {n:String} (h:o.cls = .type n) (h1:(n == "frame") = false) (h2:(n == "code") = false):Pl o:=by
 unfold Pl soft bB; rw [h]; dsimp only; rw [h1,h2]; exact ⟨rfl,by split<;>rfl⟩
section
variable {prog:Program} {w:World} {A:Around} {E:Value→Shared→Prop} {s:Shared}
theorem GS {it l:Addr} {i:Nat} {items:Array Value} {x:Value} {Q:Value→Shared→Prop} (hit:s.heap.IsTupleIter it l i) (hl:s.heap.IsTuple l items) (hx:items[i]? = some x)
  (hQ:∀ h',h'.IsTupleIter it l (i + 1)→Heap.SameBut it s.heap h'→Q x { s with heap:=h' }):wpAny (model prog w) A (Builtin.SmallTypes.nextOf (.ref it)) Q E s:=by
 refine af fun nG=>?_
 obtain ⟨o,ho,hc,hd⟩:=id hit
 obtain ⟨ol,hol,_,nl,hdl⟩:=hl
 refine nG ?_
 unfold Builtin.SmallTypes.nextOf
 refine wpAny_bind (wpAny_callSpecial?_slot (name:=Str.ofString "__next__") hit.typeIs F.slot_tuple_iterator_next
  (wpAny_call_entry F.slot_tuple_iterator_next hit.typeIs F.entry_tuple_iterator_next ?_ (F.args_tuple_iterator_next_1 _)))
 show wpAny _ _ (field (.ref it) 0 >>= _) _ _ s
 refine wpAny_bind (wpAny_field ho hd (x:=.ref l) rfl ?_)
 show wpAny _ _ (if (Value.ref l == Value.none) = true then _ else _) _ _ s
 rw [if_neg (show ¬ ((Value.ref l == Value.none) = true) from Bool.false_ne_true)]
 show wpAny _ _ (field (.ref it) 1 >>= _) _ _ s
 refine wpAny_bind (wpAny_field ho hd (x:=.int i 0) rfl ?_)
 show wpAny _ _ (seqItems? (.ref l) >>= _) _ _ s
 refine wpAny_bind (wpAny_seqItems hol hdl ?_)
 simp only [Int.toNat_natCast,hx]
 refine wpAny_bind (wpAny_setField ho hd (by simp) (wpAny_pure ⟨x,rfl,wpAny_pure (hQ _ ?_ (Heap.SameBut.update ..))⟩))
 exact ⟨_,Heap.get?_update_self _ ho (Obj.isFreed_of_fields (Obj.data_mapFields hd _)),(Obj.cls_mapFields ..).trans hc,by
  rw [Obj.data_mapFields hd]; simp [rawInt]⟩
theorem GU {it l:Addr} {i:Nat} {items:Array Value} {Q:Value→Shared→Prop} (hh:A.handled = none) (hit:s.heap.IsTupleIter it l i) (hl:s.heap.IsTuple l items) (hx:items[i]? = none)
  (hE:∀ h' e,Heap.ExtBut it s.heap h'→(∃ o,h'.get? e = some o∧o.cls = .type "StopIteration")→E (.ref e) { s with heap:=h' }):wpAny (model prog w) A (Builtin.SmallTypes.nextOf (.ref it)) Q E s:=by
 refine af fun nG=>?_
 obtain ⟨o,ho,hc,hd⟩:=id hit
 obtain ⟨ol,hol,_,nl,hdl⟩:=hl
 refine nG ?_
 unfold Builtin.SmallTypes.nextOf
 refine wpAny_bind (wpAny_callSpecial?_slot (name:=Str.ofString "__next__") hit.typeIs F.slot_tuple_iterator_next
  (wpAny_call_entry F.slot_tuple_iterator_next hit.typeIs F.entry_tuple_iterator_next ?_ (F.args_tuple_iterator_next_1 _)))
 show wpAny _ _ (field (.ref it) 0 >>= _) _ _ s
 refine wpAny_bind (wpAny_field ho hd (x:=.ref l) rfl ?_)
 show wpAny _ _ (if (Value.ref l == Value.none) = true then _ else _) _ _ s
 rw [if_neg (show ¬ ((Value.ref l == Value.none) = true) from Bool.false_ne_true)]
 show wpAny _ _ (field (.ref it) 1 >>= _) _ _ s
 refine wpAny_bind (wpAny_field ho hd (x:=.int i 0) rfl ?_)
 show wpAny _ _ (seqItems? (.ref l) >>= _) _ _ s
 refine wpAny_bind (wpAny_seqItems hol hdl ?_)
 simp only [Int.toNat_natCast,hx]
 refine wpAny_bind (wpAny_rule (wpAny_bind (wpAny_setField ho hd (by simp) ?_)))
 show wpAny _ _ (newExc (.type "StopIteration") [] >>= _) _ _ _
 refine wpAny_bind ?_
 simp only [newExc,newTuple]
 refine wpAny_bind (wpAny_newObj_type ?_ (by size_fits))
 refine wpAny_bind (m:=firstArgMember _ _) (wpAny_of_eq (a:=Value.none) (by first | rfl | (simp only [firstArgMember]; rfl)) ?_)
 refine wpAny_newObj_type ?_ (by size_fits)
 simp only [raiseNew]
 refine wpAny_bind (wpAny_handled ?_)
 first | rw [show A.in1.handled = none from hh] | rw [hh]
 refine wpAny_bind (wpAny_pure (wpAny_throw ?_))
 exact hE _ _ (((Heap.SameBut.update ..).extBut.push _).push _) ⟨_,Heap.get?_push_size _ rfl,rfl⟩
end
structure Kd (prog:Program) (w:World) where
 I:Heap→Addr→Addr→Nat→Prop
 S:Heap→Addr→Array Value→Prop
 atI:∀ {h h':Heap} {a l:Addr} {i:Nat},I h a l i→(∀ o,h.get? a = some o→h'.get? a = some o)→I h' a l i
 lowI:∀ {h:Heap} {a l:Addr} {i:Nat},I h a l i→∃ o,h.get? a = some o∧Pl o
 atS:∀ {h h':Heap} {l:Addr} {xs:Array Value},S h l xs→(∀ o,h.get? l = some o→h'.get? l = some o)→S h' l xs
 lowS:∀ {h:Heap} {l:Addr} {xs:Array Value},S h l xs→∃ o,h.get? l = some o∧Pl o
 item:∀ {A:Around} {E:Value→Shared→Prop} {s:Shared} {it l:Addr} {i:Nat} {items:Array Value} {x:Value} {Q:Value→Shared→Prop},I s.heap it l i→S s.heap l items→items[i]? = some x→
  (∀ h',I h' it l (i + 1)→Heap.SameBut it s.heap h'→Q x { s with heap:=h' })→wpAny (model prog w) A (Builtin.SmallTypes.nextOf (.ref it)) Q E s
 stop:∀ {A:Around} {E:Value→Shared→Prop} {s:Shared} {it l:Addr} {i:Nat} {items:Array Value} {Q:Value→Shared→Prop},A.handled = none→I s.heap it l i→S s.heap l items→items[i]? = none→
  (∀ h' e,Heap.ExtBut it s.heap h'→(∃ o,h'.get? e = some o∧o.cls = .type "StopIteration")→E (.ref e) { s with heap:=h' })→wpAny (model prog w) A (Builtin.SmallTypes.nextOf (.ref it)) Q E s
noncomputable def kdList (prog:Program) (w:World):Kd prog w where
 I:=fun h a l i=>h.IsListIter a l i
 S:=fun h l xs=>h.IsList l xs
 atI:=fun x e=>x.at e
 lowI:=fun x=>let ⟨o,e,hc,_⟩:=x; ⟨o,e,gr hc (by decide) (by decide)⟩
 atS:=fun x e=>x.at e
 lowS:=fun x=>let ⟨o,e,hc,_⟩:=x; ⟨o,e,gr hc (by decide) (by decide)⟩
 item:=fun h1 h2 h3 h4=>wpAny_nextOf_list_item h1 h2 h3 h4
 stop:=fun hh h1 h2 h3 h4=>wpAny_nextOf_list_end hh h1 h2 h3 h4
noncomputable def rE (prog:Program) (w:World):Kd prog w where
 I:=fun h a l i=>h.IsTupleIter a l i
 S:=fun h l xs=>h.IsTuple l xs
 atI:=fun x e=>x.at e
 lowI:=fun x=>let ⟨o,e,hc,_⟩:=x; ⟨o,e,gr hc (by decide) (by decide)⟩
 atS:=fun x e=>x.at e
 lowS:=fun x=>let ⟨o,e,hc,_⟩:=x; ⟨o,e,gr hc (by decide) (by decide)⟩
 item:=fun h1 h2 h3 h4=>GS h1 h2 h3 h4
 stop:=fun hh h1 h2 h3 h4=>GU hh h1 h2 h3 h4
section
variable {prog:Program} {w:World} (K:Kd prog w) {A:Around} {E:Value→Shared→Prop} {s:Shared}
theorem Kd.dp {h h':Heap} {a b l:Addr} {i:Nat} (x:K.I h a l i) (hs:Heap.ExtBut b h h') (n:a≠b):K.I h' a l i:=K.atI x fun o e=>hs a o n e
theorem Kd.eF {h h':Heap} {l b:Addr} {xs:Array Value} (x:K.S h l xs) (hs:Heap.ExtBut b h h') (n:l≠b):K.S h' l xs:=K.atS x fun o e=>hs l o n e
theorem GV {e it l:Addr} {i:Nat} {items:Array Value} {x old:Value} {Q:Option Value→Shared→Prop} (he:IsEnum s.heap e it i old) (hit:K.I s.heap it l i) (hl:K.S s.heap l items) (hx:items[i]? = some x) (hne:e≠it)
  (hQ:∀ h',IsEnumOut h' e it ((i:Int) + 1) x s.heap.objs.size→K.I h' it l (i + 1)→h'.get? s.heap.objs.size = some { cls:=.type "tuple",data:=.seq #[.int i s.toks,x] }→h'.objs.size = s.heap.objs.size + 1→
   (∀ b o,b≠e→b≠it→s.heap.get? b = some o→h'.get? b = some o)→Q (some (.ref s.heap.objs.size)) { s with heap:=h',toks:=s.toks + 1 }):wpAny (model prog w) A (pyNext (.ref e)) Q E s:=by
 have hT:s.TypeIs (.ref e) "enumerate":=⟨_,he,rfl⟩
 unfold pyNext
 refine wpAny_bind (wpAny_attempt (wpAny_callSpecial?_slot (name:=Str.ofString "__next__") hT F.slot_enumerate_next (wpAny_call_entry F.slot_enumerate_next hT F.entry_enumerate_next ?_ (F.args_enumerate_next_1 _))))
 obtain ⟨hp,g,d,tk,os⟩:=s
 show wpAny _ _ (field (.ref e) 2 >>= _) _ _ _
 refine wpAny_bind (wpAny_field he rfl (x:=.ref it) rfl ?_)
 refine wpAny_bind (K.item hit hl hx fun h₁ hit₁ hs₁=>?_)
 replace hs₁:Heap.SameBut it hp h₁:=hs₁
 have he₁:IsEnum h₁ e it i old:=(hs₁.2 e hne).trans he
 show wpAny _ _ (field (.ref e) 3 >>= _) _ _ ⟨h₁,g,d,tk,os⟩
 refine wpAny_bind (wpAny_field he₁ rfl (x:=rawInt i) rfl ?_)
 show wpAny _ _ (field (.ref e) 4 >>= _) _ _ ⟨h₁,g,d,tk,os⟩
 refine wpAny_bind (wpAny_field he₁ rfl (x:=.none) rfl ?_)
 show wpAny _ _ (mkInt i >>= _) _ _ ⟨h₁,g,d,tk,os⟩
 refine wpAny_bind (wpAny_mkInt ?_)
 show wpAny _ _ (setField (.ref e) 3 (rawInt ((i:Int) + 1)) >>= _) _ _ ⟨h₁,g,d,tk + 1,os⟩
 refine wpAny_bind (wpAny_setField_rec he₁ (by simp) fun h₂ he₂ hs₂=>?_)
 replace hs₂:Heap.SameBut e h₁ h₂:=hs₂
 replace he₂:IsEnum h₂ e it ((i:Int) + 1) old:=he₂
 show wpAny _ _ (setField (.ref e) 4 .none >>= _) _ _ ⟨h₂,g,d,tk + 1,os⟩
 refine wpAny_bind (wpAny_setField_rec he₂ (by simp) fun h₃ he₃ hs₃=>?_)
 replace hs₃:Heap.SameBut e h₂ h₃:=hs₃
 replace he₃:IsEnum h₃ e it ((i:Int) + 1) old:=he₃
 show wpAny _ _ (newTuple [.int i tk,x] >>= _) _ _ ⟨h₃,g,d,tk + 1,os⟩
 refine wpAny_bind (wpAny_newTuple ?_)
 have he₄:IsEnum (h₃.push { cls:=.type "tuple",data:=.seq #[.int i tk,x] }) e it ((i:Int) + 1) old:=Heap.get?_push_of_some _ he₃
 generalize hh₄:h₃.push { cls:=.type "tuple",data:=.seq #[.int i tk,x] } = h₄ at he₄
 have hsz:h₃.objs.size = hp.objs.size:=by rw [hs₃.1,hs₂.1,hs₁.1]
 have hel:e < hp.objs.size:=Heap.lt_size he
 have ht₄:h₄.get? hp.objs.size = some { cls:=.type "tuple",data:=.seq #[.int i tk,x] }:=by rw [← hh₄,← hsz]; exact Heap.get?_push_size _ rfl
 have hz₄:h₄.objs.size = hp.objs.size + 1:=by rw [← hh₄,Heap.size_push,hsz]
 have hk₄:∀ b o,b≠e→b≠it→hp.get? b = some o→h₄.get? b = some o:=fun b o hbe hbi hb=>by
  rw [← hh₄]; exact Heap.get?_push_of_some _ (hs₃.extBut b o hbe (hs₂.extBut b o hbe (hs₁.extBut b o hbi hb)))
 have hit₄:K.I h₄ it l (i + 1):=K.atI hit₁ fun o e'=>by
  rw [← hh₄]; exact Heap.get?_push_of_some _ (hs₃.extBut it o hne.symm (hs₂.extBut it o hne.symm e'))
 show wpAny _ _ (Builtin.SmallTypes.ownedTupleIsFree (.ref e) >>= _) _ _ ⟨h₄,g,d,tk + 1,os⟩
 rw [hsz]
 clear hh₄ he₃ hs₃ he₂ hs₂ he₁ hs₁ hit₁ hsz h₃ h₂ h₁
 refine wpAny_bind ?_
 unfold Builtin.SmallTypes.ownedTupleIsFree
 refine wpAny_bind (wpAny_field he₄ rfl (x:=.none) rfl (wpAny_pure ?_))
 simp only [if_true]
 refine wpAny_bind (wpAny_rule ?_)
 refine wpAny_bind (wpAny_field he₄ rfl (x:=old) rfl ?_)
 refine wpAny_bind (wpAny_setField_rec he₄ (by simp) fun h₅ he₅ hs₅=>?_)
 replace hs₅:Heap.SameBut e h₄ h₅:=hs₅
 replace he₅:IsEnum h₅ e it ((i:Int) + 1) x:=he₅
 show wpAny _ _ (Builtin.SmallTypes.ownedTupleHandOut (.ref e) (.ref hp.objs.size) >>= _) _ _ ⟨h₅,g,d,tk + 1,os⟩
 refine wpAny_bind ?_
 unfold Builtin.SmallTypes.ownedTupleHandOut
 refine wpAny_bind (wpAny_setField_rec he₅ (by simp) fun h₆ he₆ hs₆=>?_)
 replace hs₆:Heap.SameBut e h₅ h₆:=hs₆
 replace he₆:IsEnumOut h₆ e it ((i:Int) + 1) x hp.objs.size:=he₆
 refine wpAny_setField_rec he₆ (by simp) fun h₇ he₇ hs₇=>?_
 replace hs₇:Heap.SameBut e h₆ h₇:=hs₇
 replace he₇:IsEnumOut h₇ e it ((i:Int) + 1) x hp.objs.size:=he₇
 have up:∀ b o,b≠e→h₄.get? b = some o→h₇.get? b = some o:=fun b o n e'=>hs₇.extBut b o n (hs₆.extBut b o n (hs₅.extBut b o n e'))
 refine wpAny_bind (wpAny_letGo (wpAny_pure ⟨_,rfl,wpAny_pure (hQ h₇ he₇ ?_ ?_ ?_ ?_)⟩))
 ·exact K.atI hit₄ fun o e'=>up it o hne.symm e'
 ·exact up _ _ (Nat.ne_of_gt hel) ht₄
 ·rw [hs₇.1,hs₆.1,hs₅.1,hz₄]
 ·exact fun b o hbe hbi hb=>up b o hbe (hk₄ b o hbe hbi hb)
theorem GW {e it l:Addr} {i:Nat} {items:Array Value} {old:Value} {Q:Option Value→Shared→Prop} (hh:A.handled = none) (he:IsEnum s.heap e it i old) (hit:K.I s.heap it l i) (hl:K.S s.heap l items) (hx:items[i]? = none)
  (hQ:∀ h',Heap.ExtBut it s.heap h'→Q none { s with heap:=h' }):wpAny (model prog w) A (pyNext (.ref e)) Q E s:=by
 have hT:s.TypeIs (.ref e) "enumerate":=⟨_,he,rfl⟩
 unfold pyNext
 refine wpAny_bind (wpAny_attempt (wpAny_callSpecial?_slot (name:=Str.ofString "__next__") hT F.slot_enumerate_next (wpAny_call_entry F.slot_enumerate_next hT F.entry_enumerate_next ?_ (F.args_enumerate_next_1 _))))
 show wpAny _ _ (field (.ref e) 2 >>= _) _ _ _
 refine wpAny_bind (wpAny_field he rfl (x:=.ref it) rfl ?_)
 refine wpAny_bind (K.stop hh hit hl hx fun h' x he' hx'=>?_)
 refine af fun nG=>?_
 obtain ⟨o,ho,hc⟩:=hx'
 refine nG ?_
 refine wpAny_bind (wpAny_isInstance (T:="StopIteration") (b:=true) ⟨o,ho,hc⟩ isSubtype_stop ?_)
 exact wpAny_pure (hQ _ he')
theorem GX (hh:A.handled = none) (e it l:Addr) (hei:e≠it) (hle:l≠e) (hli:l≠it) (items:Array Value):
  WalksT prog w A e [e,it,l] [e,it] items.size (fun i vals=>∃ t x,items[i]? = some x∧vals = #[.int i t,x])
   (fun i h=>(∃ old,IsEnum h e it i old)∧K.I h it l i∧K.S h l items)
   (fun i T h=>(∃ x,IsEnumOut h e it ((i:Int) + 1) x T)∧K.I h it l (i + 1)∧K.S h l items∧T≠e∧T≠it) where
 sub:=fun b hb=>by simp at hb ⊢; rcases hb with rfl | rfl<;>simp
 frame:=fun i h h' hst hk=>let ⟨⟨old,he⟩,hit,hl⟩:=hst
  ⟨⟨old,hk e (by simp) _ he⟩,K.atI hit fun o x=>hk it (by simp) o x,K.atS hl fun o x=>hk l (by simp) o x⟩
 item:=fun i s Q E hi hst hQ=>by
  refine af fun nG=>?_
  obtain ⟨⟨old,he⟩,hit,hl⟩:=hst
  refine nG ?_
  refine GV K he hit hl (Array.getElem?_eq_getElem hi) hei fun h' ho hit' hT hsz hk=>?_
  have helt:e < s.heap.objs.size:=Heap.lt_size he
  have hilt:it < s.heap.objs.size:=by obtain ⟨_,x,_⟩:=K.lowI hit; exact Heap.lt_size x
  exact hQ s.heap.objs.size #[.int i s.toks,items[i]] h' (s.toks + 1) ⟨_,_,Array.getElem?_eq_getElem hi,rfl⟩ (Nat.le_refl _) ⟨_,hT,rfl,_,rfl⟩
   ⟨⟨_,ho⟩,hit',K.atS hl fun o x=>hk l o hle hli x,Nat.ne_of_gt helt,Nat.ne_of_gt hilt⟩ fun b o hb x=>hk b o (fun e'=>hb (by simp [e'])) (fun e'=>hb (by simp [e'])) x
 go:=fun elts k pos i T s Q E hm hQ=>by
  refine af fun nG=>?_
  obtain ⟨⟨x,ho⟩,hit,hl,hTe,hTi⟩:=hm
  refine nG ?_
  exact wpAny_letOwnedTupleGo_enum ho fun h' he' hs'=>hQ h' ⟨⟨x,by simpa using he'⟩,K.atI hit fun o y=>(hs'.2 it hei.symm).trans y,K.atS hl fun o y=>(hs'.2 l hle).trans y⟩ fun b o hb y=>(hs'.2 b fun e'=>hb (by simp [e'])).trans y
 apart:=fun i T h hm hT=>by
  refine af fun nG=>?_
  obtain ⟨_,_,_,hTe,hTi⟩:=hm
  refine nG ?_
  simp at hT
  exact hT.elim hTe hTi
 done:=fun s Q E hst hQ=>by
  refine af fun nG=>?_
  obtain ⟨⟨old,he⟩,hit,hl⟩:=hst
  refine nG ?_
  exact GW K hh he hit hl (Array.getElem?_eq_none (Nat.le_refl _)) fun h' hx=>hQ h' s.toks fun b o hb y=>hx b o (fun e'=>hb (by simp [e'])) y
 self:=fun i s Q E hst hQ=>by
  refine af fun nG=>?_
  obtain ⟨⟨old,he⟩,_,_⟩:=hst
  refine nG ?_
  exact wpAny_pyIter_enum he hQ
end
set_option tactic.hygienic true in
theorem GY (l:Addr) (items:Array Value) (n:Nat) (dct:Option Addr) (sl:Array (Option Value)):
  Meets (Builtin.«enumerate.__new__» ⟨[.type "enumerate",.ref l],[]⟩) (fun _ R s=>s.heap.get? l = some { cls:=.type "tuple",dict:=dct,data:=.seq items n,slots:=sl }∧
   R (.ok (.ret (.ref (s.heap.push { cls:=.type "tuple_iterator",data:=.fields #[.ref l,.int 0 0] }).objs.size)))
    { s with heap:=(s.heap.push { cls:=.type "tuple_iterator",data:=.fields #[.ref l,.int 0 0] }).push { cls:=.type "enumerate",data:=.fields #[.none,.bool false,.ref s.heap.objs.size,rawInt 0,.none,.none] } }):=
 .of_wp fun prog w A R s h=>by
  obtain ⟨hp,g,d,tk,os⟩:=s; obtain ⟨hl,h⟩:=h
  have hsub:=sub_enumerate
  have hL:Heap.IsTuple (Shared.heap ⟨hp,g,d,tk,os⟩) l items:=⟨_,hl,rfl,n,rfl⟩
  wp_walk using wpAny_loadPart' hl
  refine wpAny_stack_any fun st=>wpAny_pure ?_
  split
  ·rename_i c _ _ _ _ _
   cases (c == Value.type "enumerate")
   ·wp_walk using wpAny_loadPart' hl,wpAny_pyIter_tuple hL
    exact ⟨_,rfl,h⟩
   ·wp_walk using wpAny_loadPart' hl,wpAny_pyIter_tuple hL
    exact ⟨_,rfl,h⟩
  ·wp_walk using wpAny_loadPart' hl,wpAny_pyIter_tuple hL
   exact ⟨_,rfl,h⟩
noncomputable abbrev yC {prog:Program} {w:World} (K:Kd prog w) (l:Addr) (Q:Value→Shared→Prop) (s:Shared):Prop:=
 ∀ h',IsEnum h' (s.heap.objs.size + 1) s.heap.objs.size 0 .none→K.I h' s.heap.objs.size l 0→h'.objs.size = s.heap.objs.size + 2→(∀ b o,s.heap.get? b = some o→h'.get? b = some o)→Q (.ref (s.heap.objs.size + 1)) { s with heap:=h' }
theorem GZ {prog:Program} {w:World} {A:Around} {E:Value→Shared→Prop} {s:Shared} {l:Addr} {items:Array Value} {Q:Value→Shared→Prop} (hL:s.heap.IsTuple l items) (h:yC (rE prog w) l Q s):
  wpAny (model prog w) A (call (.type "enumerate") [.ref l]) Q E s:=by
 refine af fun nG=>?_
 obtain ⟨⟨c,dct,dt,sl⟩,hl,hc,n,hd⟩:=hL
 refine nG ?_
 replace hc:c = .type "tuple":=hc
 replace hd:dt = .seq items n:=hd
 subst hc hd
 refine callType_new F.called_enumerate (by decide) (F.typeCall_enumerate_1 _) (F.newCall_enumerate_1 _) (fun obj=>F.args_object_init_2 obj _) F.entry_enumerate_new
  (GY l items n dct sl) ⟨hl,?_⟩
 have hz:(s.heap.push { cls:=.type "tuple_iterator",data:=.fields #[.ref l,.int 0 0] }).objs.size = s.heap.objs.size + 1:=Heap.size_push ..
 show _∧_
 rw [hz]
 have he:IsEnum ((s.heap.push { cls:=.type "tuple_iterator",data:=.fields #[.ref l,.int 0 0] }).push
   { cls:=.type "enumerate",data:=.fields #[.none,.bool false,.ref s.heap.objs.size,rawInt 0,.none,.none] }) (s.heap.objs.size + 1) s.heap.objs.size 0 .none:=by
  have:=Heap.get?_push_size (s.heap.push { cls:=.type "tuple_iterator",data:=.fields #[.ref l,.int 0 0] })
   (o:={ cls:=.type "enumerate",data:=.fields #[.none,.bool false,.ref s.heap.objs.size,rawInt 0,.none,.none] }) rfl
  rw [hz] at this; exact this
 exact ⟨⟨_,he,rfl⟩,h _ he ⟨_,Heap.get?_push_of_some _ (Heap.get?_push_size _ rfl),rfl,rfl⟩ (by rw [Heap.size_push,hz]) fun b o x=>Heap.get?_push_of_some _ (Heap.get?_push_of_some _ x)⟩
section
variable {prog:Program} {w:World} (K:Kd prog w) {A:Around} {E:Value→Shared→Prop} {s:Shared}
theorem G0 {z TI TO i1 i2 l1 l2:Addr} {k1 k2:Nat} {xs ys:Array Value} {x y a b:Value} {Q:Option Value→Shared→Prop} (D:ZipApart z TI TO i1 i2 l1 l2)
  (hz:IsZip s.heap z TI TO .none) (hTI:PySem.IsPair s.heap TI (.ref i1) (.ref i2)) (hTO:PySem.IsPair s.heap TO a b)
  (h1:K.I s.heap i1 l1 k1) (h2:K.I s.heap i2 l2 k2) (hl1:K.S s.heap l1 xs) (hl2:K.S s.heap l2 ys) (hx:xs[k1]? = some x) (hy:ys[k2]? = some y)
  (hQ:∀ h',IsZip h' z TI TO (rawInt s.heap.objs.size)→PySem.IsPair h' TO x y→K.I h' i1 l1 (k1 + 1)→K.I h' i2 l2 (k2 + 1)→PySem.IsPair h' s.heap.objs.size x y→h'.objs.size = s.heap.objs.size + 1→
   (∀ c o,c≠z→c≠TO→c≠i1→c≠i2→s.heap.get? c = some o→h'.get? c = some o)→Q (some (.ref s.heap.objs.size)) { s with heap:=h' }):
  wpAny (model prog w) A (pyNext (.ref z)) Q E s:=by
 have hT:s.TypeIs (.ref z) "zip":=⟨_,hz,rfl⟩
 unfold pyNext
 refine wpAny_bind (wpAny_attempt (wpAny_callSpecial?_slot (name:=Str.ofString "__next__") hT F.slot_zip_next (wpAny_call_entry F.slot_zip_next hT F.entry_zip_next ?_ (F.args_zip_next_1 _))))
 show wpAny _ _ (field (.ref z) 2 >>= _) _ _ _
 refine wpAny_bind (wpAny_field hz rfl (x:=.bool false) rfl ?_)
 show wpAny _ _ (field (.ref z) 3 >>= _) _ _ _
 refine wpAny_bind (wpAny_field hz rfl (x:=.ref TI) rfl ?_)
 refine wpAny_bind (wpAny_seqItems hTI rfl ?_)
 show wpAny _ _ (Builtin.SmallTypes.ownedTupleIsFree (.ref z) >>= _) _ _ _
 refine wpAny_bind ?_
 unfold Builtin.SmallTypes.ownedTupleIsFree
 refine wpAny_bind (wpAny_field hz rfl (x:=.none) rfl (wpAny_pure ?_))
 simp only [if_true]
 refine wpAny_bind (wpAny_rule ?_)
 refine wpAny_bind (wpAny_field hz rfl (x:=.ref TO) rfl ?_)
 refine wpAny_bind (wpAny_setField_rec hz (by simp) fun h₁ hz₁ hs₁=>?_)
 replace hz₁:IsZip h₁ z TI TO .ellipsis:=hz₁
 refine wpAny_bind ?_
 simp only [List.zipIdx_cons,List.zipIdx_nil,List.forIn_cons,List.forIn_nil]
 refine wpAny_bind (wpAny_bind (wpAny_onRaise ?_))
 show wpAny _ _ (Builtin.SmallTypes.nextOf (.ref i1) >>= _) _ _ _
 refine wpAny_bind (K.item (K.dp h1 hs₁.extBut D.i1z) (K.eF hl1 hs₁.extBut D.l1z) hx fun h₂ h1₂ hs₂=>wpAny_pure ?_)
 have hTO₂:PySem.IsPair h₂ TO a b:=hs₂.extBut _ _ D.TOi1 (hs₁.extBut _ _ D.TOz hTO)
 refine wpAny_bind (wpAny_seqItems hTO₂ rfl ?_)
 refine wpAny_bind (wpAny_updateSeq_pair hTO₂ fun h₃ hTO₃ hs₃=>?_)
 replace hTO₃:PySem.IsPair h₃ TO x b:=hTO₃
 refine wpAny_bind (wpAny_letGo (wpAny_pure ?_))
 refine wpAny_bind (wpAny_bind (wpAny_onRaise ?_))
 show wpAny _ _ (Builtin.SmallTypes.nextOf (.ref i2) >>= _) _ _ _
 have b2:K.I h₃ i2 l2 k2:=K.dp (K.dp (K.dp h2 hs₁.extBut D.i2z) hs₂.extBut D.i12.symm) hs₃.extBut D.TOi2.symm
 have c2:K.S h₃ l2 ys:=K.eF (K.eF (K.eF hl2 hs₁.extBut D.l2z) hs₂.extBut D.l2i1) hs₃.extBut D.l2TO
 refine wpAny_bind (K.item b2 c2 hy fun h₄ h2₄ hs₄=>wpAny_pure ?_)
 have hTO₄:PySem.IsPair h₄ TO x b:=hs₄.extBut _ _ D.TOi2 hTO₃
 refine wpAny_bind (wpAny_seqItems hTO₄ rfl ?_)
 refine wpAny_bind (wpAny_updateSeq_pair hTO₄ fun h₅ hTO₅ hs₅=>?_)
 replace hTO₅:PySem.IsPair h₅ TO x y:=hTO₅
 refine wpAny_bind (wpAny_letGo (wpAny_pure (wpAny_pure ?_)))
 refine wpAny_bind (wpAny_seqItems hTO₅ rfl ?_)
 refine wpAny_bind (wpAny_newTuple ?_)
 have hsz:h₅.objs.size = s.heap.objs.size:=by rw [hs₅.1,hs₄.1,hs₃.1,hs₂.1,hs₁.1]
 have hz₅:IsZip h₅ z TI TO .ellipsis:=hs₅.extBut _ _ D.TOz.symm (hs₄.extBut _ _ D.i2z.symm (hs₃.extBut _ _ D.TOz.symm (hs₂.extBut _ _ D.i1z.symm hz₁)))
 have hk₅:∀ c o,c≠z→c≠TO→c≠i1→c≠i2→s.heap.get? c = some o→h₅.get? c = some o:=fun c o c1 c2 c3 c4 e=>
  hs₅.extBut _ _ c2 (hs₄.extBut _ _ c4 (hs₃.extBut _ _ c2 (hs₂.extBut _ _ c3 (hs₁.extBut _ _ c1 e))))
 have h1₅:K.I h₅ i1 l1 (k1 + 1):=K.dp (K.dp (K.dp h1₂ hs₃.extBut D.TOi1.symm) hs₄.extBut D.i12) hs₅.extBut D.TOi1.symm
 have h2₅:K.I h₅ i2 l2 (k2 + 1):=K.dp h2₄ hs₅.extBut D.TOi2.symm
 have hzlt:z < h₅.objs.size:=Heap.lt_size hz₅
 show wpAny _ _ (Builtin.SmallTypes.ownedTupleHandOut (.ref z) (.ref h₅.objs.size) >>= _) _ _ _
 refine wpAny_bind ?_
 unfold Builtin.SmallTypes.ownedTupleHandOut
 have hz₆:IsZip (h₅.push { cls:=.type "tuple",data:=.seq #[x,y] }) z TI TO .ellipsis:=Heap.get?_push_of_some _ hz₅
 refine wpAny_bind (wpAny_setField_rec hz₆ (by simp) fun h₇ hz₇ hs₇=>?_)
 replace hz₇:IsZip h₇ z TI TO (rawInt h₅.objs.size):=hz₇
 refine wpAny_setField_rec hz₇ (by simp) fun h₈ hz₈ hs₈=>?_
 replace hz₈:IsZip h₈ z TI TO (rawInt h₅.objs.size):=hz₈
 have up:∀ c o,c≠z→h₅.get? c = some o→h₈.get? c = some o:=fun c o c1 e=>hs₈.extBut _ _ c1 (hs₇.extBut _ _ c1 (Heap.get?_push_of_some _ e))
 have hT₈:PySem.IsPair h₈ h₅.objs.size x y:=hs₈.extBut _ _ (Nat.ne_of_gt hzlt) (hs₇.extBut _ _ (Nat.ne_of_gt hzlt) (Heap.get?_push_size _ rfl))
 have hz8:h₈.objs.size = h₅.objs.size + 1:=by rw [hs₈.1,hs₇.1,Heap.size_push]
 rw [hsz] at hz₈ hT₈ hz8
 refine wpAny_pure ⟨_,rfl,wpAny_pure ?_⟩
 show Q (some (.ref h₅.objs.size)) _
 rw [hsz]
 exact hQ h₈ hz₈ (up _ _ D.TOz hTO₅) (K.atI h1₅ fun o e=>up _ o D.i1z e) (K.atI h2₅ fun o e=>up _ o D.i2z e) hT₈ hz8 fun c o c1 c2 c3 c4 e=>up c o c1 (hk₅ c o c1 c2 c3 c4 e)
theorem G2 {z TI TO i1 i2 l1 l2:Addr} {k1 k2:Nat} {xs ys:Array Value} {a b:Value} {Q:Option Value→Shared→Prop} (hh:A.handled = none) (D:ZipApart z TI TO i1 i2 l1 l2)
  (hz:IsZip s.heap z TI TO .none) (hTI:PySem.IsPair s.heap TI (.ref i1) (.ref i2)) (hTO:PySem.IsPair s.heap TO a b)
  (h1:K.I s.heap i1 l1 k1) (h2:K.I s.heap i2 l2 k2) (hl1:K.S s.heap l1 xs) (hl2:K.S s.heap l2 ys) (hend:xs[k1]? = none∨ys[k2]? = none)
  (hQ:∀ h',(∀ c o,c≠z→c≠TO→c≠i1→c≠i2→s.heap.get? c = some o→h'.get? c = some o)→Q none { s with heap:=h' }):wpAny (model prog w) A (pyNext (.ref z)) Q E s:=by
 have hT:s.TypeIs (.ref z) "zip":=⟨_,hz,rfl⟩
 have hE:∀ h' e,(∀ c o,c≠z→c≠TO→c≠i1→c≠i2→s.heap.get? c = some o→h'.get? c = some o)→(∃ o,h'.get? e = some o∧o.cls = .type "StopIteration")→
   wpAny (model prog w) A (do if (← isInstance (.ref e) (.type "StopIteration")) then pure none else throw (.ref e)) Q E { s with heap:=h' }:=fun h' e hk he=>by
  obtain ⟨o,ho,hc⟩:=he
  refine wpAny_bind (wpAny_isInstance (T:="StopIteration") (b:=true) ⟨o,ho,hc⟩ isSubtype_stop ?_)
  exact wpAny_pure (hQ _ hk)
 unfold pyNext
 refine wpAny_bind (wpAny_attempt (wpAny_callSpecial?_slot (name:=Str.ofString "__next__") hT F.slot_zip_next (wpAny_call_entry F.slot_zip_next hT F.entry_zip_next ?_ (F.args_zip_next_1 _))))
 show wpAny _ _ (field (.ref z) 2 >>= _) _ _ _
 refine wpAny_bind (wpAny_field hz rfl (x:=.bool false) rfl ?_)
 show wpAny _ _ (field (.ref z) 3 >>= _) _ _ _
 refine wpAny_bind (wpAny_field hz rfl (x:=.ref TI) rfl ?_)
 refine wpAny_bind (wpAny_seqItems hTI rfl ?_)
 show wpAny _ _ (Builtin.SmallTypes.ownedTupleIsFree (.ref z) >>= _) _ _ _
 refine wpAny_bind ?_
 unfold Builtin.SmallTypes.ownedTupleIsFree
 refine wpAny_bind (wpAny_field hz rfl (x:=.none) rfl (wpAny_pure ?_))
 simp only [if_true]
 refine wpAny_bind (wpAny_rule ?_)
 refine wpAny_bind (wpAny_field hz rfl (x:=.ref TO) rfl ?_)
 refine wpAny_bind (wpAny_setField_rec hz (by simp) fun h₁ hz₁ hs₁=>?_)
 replace hz₁:IsZip h₁ z TI TO .ellipsis:=hz₁
 refine wpAny_bind ?_
 simp only [List.zipIdx_cons,List.zipIdx_nil,List.forIn_cons,List.forIn_nil]
 refine wpAny_bind (wpAny_bind (wpAny_onRaise ?_))
 show wpAny _ _ (Builtin.SmallTypes.nextOf (.ref i1) >>= _) _ _ _
 cases hx:xs[k1]? with
 | none=>
  refine wpAny_bind (K.stop hh (K.dp h1 hs₁.extBut D.i1z) (K.eF hl1 hs₁.extBut D.l1z) hx fun h₂ e hs₂ he=>?_)
  obtain ⟨oe,hoe,hce⟩:=he
  have hz₂:IsZip h₂ z TI TO .ellipsis:=hs₂ _ _ D.i1z.symm hz₁
  have hez:e≠z:=fun x=>by subst x; rw [hz₂] at hoe; cases hoe; simp at hce
  refine wpAny_setField_rec hz₂ (by simp) fun h₃ _ hs₃=>hE h₃ e (fun c o c1 _ c3 _ x=>hs₃.extBut _ _ c1 (hs₂ _ _ c3 (hs₁.extBut _ _ c1 x))) ⟨oe,hs₃.extBut _ _ hez hoe,hce⟩
 | some x=>
  have hy:ys[k2]? = none:=by rcases hend with h | h; rw [hx] at h; cases h; exact h
  refine wpAny_bind (K.item (K.dp h1 hs₁.extBut D.i1z) (K.eF hl1 hs₁.extBut D.l1z) hx fun h₂ h1₂ hs₂=>wpAny_pure ?_)
  have hTO₂:PySem.IsPair h₂ TO a b:=hs₂.extBut _ _ D.TOi1 (hs₁.extBut _ _ D.TOz hTO)
  refine wpAny_bind (wpAny_seqItems hTO₂ rfl ?_)
  refine wpAny_bind (wpAny_updateSeq_pair hTO₂ fun h₃ hTO₃ hs₃=>?_)
  refine wpAny_bind (wpAny_letGo (wpAny_pure ?_))
  refine wpAny_bind (wpAny_bind (wpAny_onRaise ?_))
  show wpAny _ _ (Builtin.SmallTypes.nextOf (.ref i2) >>= _) _ _ _
  have b2:K.I h₃ i2 l2 k2:=K.dp (K.dp (K.dp h2 hs₁.extBut D.i2z) hs₂.extBut D.i12.symm) hs₃.extBut D.TOi2.symm
  have c2:K.S h₃ l2 ys:=K.eF (K.eF (K.eF hl2 hs₁.extBut D.l2z) hs₂.extBut D.l2i1) hs₃.extBut D.l2TO
  refine wpAny_bind (K.stop hh b2 c2 hy fun h₄ e hs₄ he=>?_)
  obtain ⟨oe,hoe,hce⟩:=he
  have hz₄:IsZip h₄ z TI TO .ellipsis:=hs₄ _ _ D.i2z.symm (hs₃.extBut _ _ D.TOz.symm (hs₂.extBut _ _ D.i1z.symm hz₁))
  have hez:e≠z:=fun x=>by subst x; rw [hz₄] at hoe; cases hoe; simp at hce
  refine wpAny_setField_rec hz₄ (by simp) fun h₅ _ hs₅=>hE h₅ e (fun c o c1 c2 c3 c4 x=>hs₅.extBut _ _ c1 (hs₄ _ _ c4 (hs₃.extBut _ _ c2 (hs₂.extBut _ _ c3 (hs₁.extBut _ _ c1 x))))) ⟨oe,hs₅.extBut _ _ hez hoe,hce⟩
theorem G3 (hh:A.handled = none) (z TI TO i1 i2 l1 l2:Addr) (D:ZipApart z TI TO i1 i2 l1 l2) (xs ys:Array Value):
  WalksT prog w A z [z,TI,TO,i1,i2,l1,l2] [z,TO,i1,i2] (min xs.size ys.size) (fun i vals=>∃ x y,xs[i]? = some x∧ys[i]? = some y∧vals = #[x,y])
   (fun i h=>IsZip h z TI TO .none∧PySem.IsPair h TI (.ref i1) (.ref i2)∧(∃ a b,PySem.IsPair h TO a b)∧K.I h i1 l1 i∧K.I h i2 l2 i∧K.S h l1 xs∧K.S h l2 ys)
   (fun i T h=>IsZip h z TI TO (rawInt T)∧PySem.IsPair h TI (.ref i1) (.ref i2)∧(∃ a b,PySem.IsPair h TO a b)∧K.I h i1 l1 (i + 1)∧K.I h i2 l2 (i + 1)∧K.S h l1 xs∧K.S h l2 ys∧T≠z∧T≠TO∧T≠i1∧T≠i2) where
 sub:=fun c hc=>by simp at hc ⊢; rcases hc with rfl | rfl | rfl | rfl<;>simp
 frame:=fun i h h' hst hk=>by
  refine af fun nG=>?_
  obtain ⟨hz,hTI,⟨a,b,hTO⟩,h1,h2,hl1,hl2⟩:=hst
  refine nG ?_
  exact ⟨hk z (by simp) _ hz,hk TI (by simp) _ hTI,⟨a,b,hk TO (by simp) _ hTO⟩,K.atI h1 fun o e=>hk i1 (by simp) o e,K.atI h2 fun o e=>hk i2 (by simp) o e,K.atS hl1 fun o e=>hk l1 (by simp) o e,K.atS hl2 fun o e=>hk l2 (by simp) o e⟩
 item:=fun i s Q E hi hst hQ=>by
  refine af fun nG=>?_
  obtain ⟨hz,hTI,⟨a,b,hTO⟩,h1,h2,hl1,hl2⟩:=hst
  refine nG ?_
  have hix:i < xs.size:=Nat.lt_of_lt_of_le hi (Nat.min_le_left ..)
  have hiy:i < ys.size:=Nat.lt_of_lt_of_le hi (Nat.min_le_right ..)
  refine G0 K D hz hTI hTO h1 h2 hl1 hl2 (Array.getElem?_eq_getElem hix) (Array.getElem?_eq_getElem hiy) fun h' a1 a2 a3 a4 a5 a6 hk=>?_
  have lt:∀ {c o},s.heap.get? c = some o→s.heap.objs.size≠c:=fun e=>Nat.ne_of_gt (Heap.lt_size e)
  exact hQ s.heap.objs.size #[xs[i],ys[i]] h' s.toks ⟨_,_,Array.getElem?_eq_getElem hix,Array.getElem?_eq_getElem hiy,rfl⟩ (Nat.le_refl _) ⟨_,a5,rfl,_,rfl⟩
   ⟨a1,hk _ _ D.TIz D.TITO D.TIi1 D.TIi2 hTI,⟨_,_,a2⟩,a3,a4,K.atS hl1 fun o e=>hk _ o D.l1z D.l1TO D.l1i1 D.l1i2 e,K.atS hl2 fun o e=>hk _ o D.l2z D.l2TO D.l2i1 D.l2i2 e,
    lt hz,lt hTO,(by obtain ⟨_,e,_⟩:=K.lowI h1; exact lt e),(by obtain ⟨_,e,_⟩:=K.lowI h2; exact lt e)⟩
   fun c o hc e=>hk c o (fun x=>hc (by simp [x])) (fun x=>hc (by simp [x])) (fun x=>hc (by simp [x])) (fun x=>hc (by simp [x])) e
 go:=fun elts k pos i T s Q E hm hQ=>by
  refine af fun nG=>?_
  obtain ⟨hz,hTI,⟨a,b,hTO⟩,h1,h2,hl1,hl2,_⟩:=hm
  refine nG ?_
  refine wpAny_letOwnedTupleGo_zip hz fun h' hz' hs'=>hQ h' ⟨hz',hs'.extBut _ _ D.TIz hTI,⟨a,b,hs'.extBut _ _ D.TOz hTO⟩,K.dp h1 hs'.extBut D.i1z,K.dp h2 hs'.extBut D.i2z,
   K.eF hl1 hs'.extBut D.l1z,K.eF hl2 hs'.extBut D.l2z⟩ fun c o hc e=>hs'.extBut _ _ (fun x=>hc (by simp [x])) e
 apart:=fun i T h hm hT=>by
  refine af fun nG=>?_
  obtain ⟨_,_,_,_,_,_,_,t1,t2,t3,t4⟩:=hm
  refine nG ?_
  simp at hT
  rcases hT with q | q | q | q
  ·exact t1 q
  ·exact t2 q
  ·exact t3 q
  ·exact t4 q
 done:=fun s Q E hst hQ=>by
  refine af fun nG=>?_
  obtain ⟨hz,hTI,⟨a,b,hTO⟩,h1,h2,hl1,hl2⟩:=hst
  refine nG ?_
  have hend:xs[min xs.size ys.size]? = none∨ys[min xs.size ys.size]? = none:=by
   rcases Nat.le_total xs.size ys.size with h | h
   ·exact .inl (by rw [Nat.min_eq_left h]; exact Array.getElem?_eq_none (Nat.le_refl _))
   ·exact .inr (by rw [Nat.min_eq_right h]; exact Array.getElem?_eq_none (Nat.le_refl _))
  exact G2 K hh D hz hTI hTO h1 h2 hl1 hl2 hend fun h' hk=>hQ h' s.toks fun c o hc e=>
   hk c o (fun x=>hc (by simp [x])) (fun x=>hc (by simp [x])) (fun x=>hc (by simp [x])) (fun x=>hc (by simp [x])) e
 self:=fun i s Q E hst hQ=>wpAny_pyIter_zip hst.1 hQ
end
noncomputable abbrev nK (h:Heap) (l1:Addr):Heap:=h.push { cls:=.type "tuple_iterator",data:=.fields #[.ref l1,.int 0 0] }
noncomputable abbrev nM (h:Heap) (l1 l2:Addr):Heap:=(nK h l1).push { cls:=.type "tuple_iterator",data:=.fields #[.ref l2,.int 0 0] }
noncomputable abbrev nN (h:Heap) (l1 l2:Addr):Heap:=(nM h l1 l2).push { cls:=.type "tuple",data:=.seq #[.ref h.objs.size,.ref (nK h l1).objs.size] }
noncomputable abbrev nO (h:Heap) (l1 l2:Addr):Heap:=(nN h l1 l2).push { cls:=.type "tuple",data:=.seq #[.none,.none] }
noncomputable abbrev ia (h:Heap) (l1 l2:Addr):Heap:=(nO h l1 l2).push { cls:=.type "zip",data:=.fields #[.none,.bool false,.bool false,.ref (nM h l1 l2).objs.size,.ref (nN h l1 l2).objs.size] }
theorem G4 {h:Heap} {a:Addr} {xs:Array Value} (x:h.IsTuple a xs) (o:Obj):(h.push o).IsTuple a xs:=let ⟨ob,e,r⟩:=x; ⟨ob,Heap.get?_push_of_some _ e,r⟩
theorem G5 (l1 l2:Addr) (xs ys:Array Value):
  Meets (Builtin.«zip.__new__» ⟨[.type "zip",.ref l1,.ref l2],[]⟩) (fun _ R s=>s.heap.IsTuple l1 xs∧s.heap.IsTuple l2 ys∧
   R (.ok (.ret (.ref (nO s.heap l1 l2).objs.size))) { s with heap:=ia s.heap l1 l2 }):=
 .of_wp fun prog w A R s h=>by
  obtain ⟨hp,g,d,tk,os⟩:=s; obtain ⟨hl1,hl2,h⟩:=h
  have hsub:=sub_zip
  have hL1:Heap.IsTuple (Shared.heap ⟨hp,g,d,tk,os⟩) l1 xs:=hl1
  have hL2:Heap.IsTuple (Shared.heap ⟨hp.push { cls:=.type "tuple_iterator",data:=.fields #[.ref l1,.int 0 0] },g,d,tk,os⟩) l2 ys:=G4 hl2 _
  wp_walk using wpAny_pyIter_tuple hL1,wpAny_pyIter_tuple hL2
  exact ⟨_,rfl,h⟩
noncomputable abbrev yD {prog:Program} {w:World} (K:Kd prog w) (l1 l2:Addr) (Q:Value→Shared→Prop) (s:Shared):Prop:=
 ∀ h',IsZip h' (s.heap.objs.size + 4) (s.heap.objs.size + 2) (s.heap.objs.size + 3) .none→PySem.IsPair h' (s.heap.objs.size + 2) (.ref s.heap.objs.size) (.ref (s.heap.objs.size + 1))→
   PySem.IsPair h' (s.heap.objs.size + 3) .none .none→K.I h' s.heap.objs.size l1 0→K.I h' (s.heap.objs.size + 1) l2 0→h'.objs.size = s.heap.objs.size + 5→
   (∀ c o,s.heap.get? c = some o→h'.get? c = some o)→Q (.ref (s.heap.objs.size + 4)) { s with heap:=h' }
theorem G7 {prog:Program} {w:World} {A:Around} {E:Value→Shared→Prop} {s:Shared} {l1 l2:Addr} {xs ys:Array Value} {Q:Value→Shared→Prop} (hl1:s.heap.IsTuple l1 xs) (hl2:s.heap.IsTuple l2 ys) (h:yD (rE prog w) l1 l2 Q s):
  wpAny (model prog w) A (call (.type "zip") [.ref l1,.ref l2]) Q E s:=by
 refine callType_new F.called_zip (by decide) (F.typeCall_zip_2 _ _) (F.newCall_zip_2 _ _) (fun obj=>F.args_object_init_3 obj _ _) F.entry_zip_new
  (G5 l1 l2 xs ys) ⟨hl1,hl2,?_⟩
 have z1:(nK s.heap l1).objs.size = s.heap.objs.size + 1:=Heap.size_push ..
 have z2:(nM s.heap l1 l2).objs.size = s.heap.objs.size + 2:=by rw [Heap.size_push,z1]
 have z3:(nN s.heap l1 l2).objs.size = s.heap.objs.size + 3:=by rw [Heap.size_push,z2]
 have z4:(nO s.heap l1 l2).objs.size = s.heap.objs.size + 4:=by rw [Heap.size_push,z3]
 have z5:(ia s.heap l1 l2).objs.size = s.heap.objs.size + 5:=by rw [Heap.size_push,z4]
 have g5:(ia s.heap l1 l2).get? (nO s.heap l1 l2).objs.size = some _:=Heap.get?_push_size _ rfl
 have g4:(ia s.heap l1 l2).get? (nN s.heap l1 l2).objs.size = some _:=Heap.get?_push_of_some _ (Heap.get?_push_size _ rfl)
 have g3:(ia s.heap l1 l2).get? (nM s.heap l1 l2).objs.size = some _:=Heap.get?_push_of_some _ (Heap.get?_push_of_some _ (Heap.get?_push_size _ rfl))
 have g2:(ia s.heap l1 l2).get? (nK s.heap l1).objs.size = some _:=Heap.get?_push_of_some _ (Heap.get?_push_of_some _ (Heap.get?_push_of_some _ (Heap.get?_push_size _ rfl)))
 have g1:(ia s.heap l1 l2).get? s.heap.objs.size = some _:=Heap.get?_push_of_some _ (Heap.get?_push_of_some _ (Heap.get?_push_of_some _ (Heap.get?_push_of_some _ (Heap.get?_push_size _ rfl))))
 show _∧_
 rw [z2,z3,z4] at g5
 rw [z1,z2] at g3
 rw [z3] at g4
 rw [z1] at g2
 rw [z4]
 exact ⟨⟨_,g5,rfl⟩,h _ g5 g3 g4 ⟨_,g1,rfl,rfl⟩ ⟨_,g2,rfl,rfl⟩ z5 fun c o x=>
  Heap.get?_push_of_some _ (Heap.get?_push_of_some _ (Heap.get?_push_of_some _ (Heap.get?_push_of_some _ (Heap.get?_push_of_some _ x))))⟩
end Mine
end
section
set_option backward.match.sparseCases false
open PySem PySem.W PyProof.Rows PySem.Calls
set_option maxRecDepth 100000
namespace Mine
section
noncomputable def gx (a:AV):Option (Bool×List AV):=match a with
 | .lst l=>some (false,l)
 | .tup l=>some (true,l)
 | _=>none
noncomputable def i9 (i:Nat):List AV→List AV
 | []=>[]
 | a::l=>.tup [.int (.lit i),a]::i9 (i + 1) l
noncomputable def nP:List AV→List AV→List AV
 | a::l,b::m=>.tup [a,b]::nP l m
 | _,_=>[]
noncomputable def kdOf (k:Bool) (prog:Program) (w:World):Kd prog w:=match k with
 | true=>rE prog w
 | false=>kdList prog w
variable {W:ab} {A:Around} {t:Expr} {U:AS} {ad:List Addr} {s:Shared} {Q:Value→Shared→Prop} {E:Value→Shared→Prop}
structure G8 (W:ab) (k:Bool) (U:AS) (h:Heap) (ad:List Addr) (ax:Addr) (vs:List Value) (l:List AV):Prop where
 nU:¬U ax
 S:(kdOf k pg W.w).S h ax vs.toArray
 lt:ax < h.objs.size
 r:ai W ⟨aF U h,ad⟩ vs l
theorem rF {h:Heap} {v:Value} {a:AV} {k:Bool} {l:List AV} (r:Rel W ⟨aF U h,ad⟩ v a) (e:gx a = some (k,l)):∃ ax vs,v = .ref ax∧G8 W k U h ad ax vs l:=by
 unfold gx at e
 split at e
 ·cases e; obtain ⟨hg,rl⟩:=r; exact ⟨_,_,rfl,hg.2.2,⟨_,hg.1,rfl,_,rfl⟩,Heap.lt_size hg.1,rl⟩
 ·cases e; obtain ⟨hg,rl⟩:=r; exact ⟨_,_,rfl,hg.2.2,⟨_,hg.1,rfl,_,rfl⟩,Heap.lt_size hg.1,rl⟩
 ·exact ar e
theorem G9 {l:Addr} {items:Array Value}:∀ {k:Bool},(kdOf k pg W.w).S s.heap l items→yC (kdOf k pg W.w) l Q s→ay W A (call (.type "enumerate") [.ref l]) Q E s
 | true,hL,h=>GZ hL h
 | false,hL,h=>call_enumerate_list hL h
theorem Ha {l1 l2:Addr} {xs ys:Array Value}:∀ {k:Bool},(kdOf k pg W.w).S s.heap l1 xs→(kdOf k pg W.w).S s.heap l2 ys→yD (kdOf k pg W.w) l1 l2 Q s→ay W A (call (.type "zip") [.ref l1,.ref l2]) Q E s
 | true,h1,h2,h=>G7 h1 h2 h
 | false,h1,h2,h=>call_zip_2 h1 h2 h
noncomputable def nQ (W:ab) (t:Expr) (n:Nat) (as els:List AV):Prop:=∀ A U ad s vs (Q:Value→Shared→Prop) (E:Value→Shared→Prop),A.handled = none→Base W U s.heap→ai W ⟨aF U s.heap,ad⟩ vs as→fK W A t U ad s els Q→ay W A (call (dE n) vs) (fun v s'=>ay W A (pyIter v) Q E s') E s
theorem rG {vs:List Value} {i:Nat} {V:Vw} {a:AV} {as:List AV} (r:ai W V (vs.drop i) (a::as)):i < vs.length∧ai W V (vs.drop (i + 1)) as∧∃ v,vs.toArray[i]? = some v∧Rel W V v a:=by
 refine af fun nG=>?_
 have hi:i < vs.length:=by have:=r.length; rw [List.length_drop,List.length_cons] at this; lia
 rw [List.drop_eq_getElem_cons hi] at r
 obtain ⟨h,r⟩:=r
 refine nG ?_
 exact ⟨hi,r,_,(List.getElem?_toArray ..).trans (List.getElem?_eq_getElem hi),h⟩
theorem drop_nil {vs:List Value} {i:Nat} {V:Vw} (r:ai W V (vs.drop i) []) (le:i≤vs.length):i = vs.length:=by
 have:=r.length; rw [List.length_drop,List.length_nil] at this; lia
theorem e7 {h:Heap} {u:Addr} (q:h.objs.size≤u):h.get? u = none:=by
 cases e:h.get? u with
 | none=>rfl
 | some o=>exact absurd (Heap.lt_size e) (Nat.not_lt.mpr q)
theorem yE {ts:List Expr} {tk:Nat} {tp:Pos} {a:AV} {k:Bool} {l:List AV} (e:gx a = some (k,l)):nQ W (.Tuple ts tk tp) 12 [a] (i9 0 l):=fun A U ad s vs Q E hh B rl fin=>by
 obtain ⟨ra,rl⟩:=rl
 obtain rfl:=rl
 obtain ⟨ax,vs,rfl,nU,hS,hlt,rl⟩:=rF ra e
 refine G9 hS fun g3 he hit hsz k3=>wpAny_pyIter_enum he ?_
 have hW:=GX (kdOf k pg W.w) hh (s.heap.objs.size + 1) s.heap.objs.size ax (Nat.succ_ne_self _) (Nat.ne_of_lt (Nat.lt_succ_of_lt hlt)) (Nat.ne_of_lt hlt) vs.toArray
 refine fin.run (fl:=[s.heap.objs.size + 1,s.heap.objs.size,ax]) (fp:=fun b=>b = s.heap.objs.size + 1∨b = s.heap.objs.size∨b = ax) (Els:=fun V i as=>∃ bs,ai W V (vs.drop i) bs∧i≤vs.length∧as = i9 i bs) k3 ⟨KTurns.ofWalksU hW.toU,fun b hb=>by simpa using hb,fun i h st u hu=>?_,fun _ _ _ _ ss ⟨bs,r,e⟩=>⟨bs,r.mono ss,e⟩,fun V i e=>?_,fun V i a as e=>?_⟩ (fun u hu=>e7 (by simp at hu; rcases hu with rfl | rfl<;>lia)) (fun b hb=>?_) ⟨⟨_,he⟩,hit,(kdOf k pg W.w).atS hS fun o e=>k3 _ _ e⟩ (fun V ss=>⟨l,rl.mono ss,Nat.zero_le _,rfl⟩) hW.self
 ·obtain ⟨⟨old,a1⟩,a2,a3⟩:=st
  rcases hu with rfl | rfl | rfl
  ·exact ⟨_,a1,gr rfl rfl rfl⟩
  ·exact (kdOf k pg W.w).lowI a2
  ·exact (kdOf k pg W.w).lowS a3
 ·obtain ⟨bs,r,le,e⟩:=e
  cases bs with
  | nil=>simpa using drop_nil r le
  | cons=>cases e
 ·obtain ⟨bs,r,le,e⟩:=e
  cases bs with
  | nil=>cases e
  | cons b bs=>
   obtain ⟨rfl,rfl⟩:=List.cons.inj e
   obtain ⟨hi,r',v,hv,rv⟩:=rG r
   refine ⟨by simpa using hi,⟨bs,r',hi,rfl⟩,fun w h P G=>?_⟩
   obtain ⟨T,vals,rfl,⟨t',x,hx,rfl⟩,ht⟩:=P
   exact .tup rfl rfl rfl ht (.cons (.mk t') (.cons (Option.some.inj (hv.symm.trans hx)▸rv) (show ai W V [] [] from rfl)))
 ·rcases hb with rfl | rfl | rfl
  ·exact .inl (e7 (by lia))
  ·exact .inl (e7 (by lia))
  ·exact .inr nU
theorem Hb {ts:List Expr} {tk:Nat} {tp:Pos} {a b:AV} {k:Bool} {l m:List AV} (e:gx a = some (k,l)) (e':gx b = some (k,m)):nQ W (.Tuple ts tk tp) 11 [a,b] (nP l m):=fun A U ad s vs Q E hh B rl fin=>by
 refine af fun nG=>?_
 obtain ⟨ra,rb,rl⟩:=rl
 obtain rfl:=rl
 obtain ⟨ax,vs,rfl,nU,hS,hlt,rl⟩:=rF ra e
 obtain ⟨bx,ws,rfl,nU',hS',hlt',rl'⟩:=rF rb e'
 refine nG ?_
 refine Ha hS hS' fun g3 hz hTI hTO hi1 hi2 hsz k3=>wpAny_pyIter_zip hz ?_
 have hW:=G3 (kdOf k pg W.w) hh _ _ _ _ _ _ _ (ktu_apart s.heap.objs.size ax bx hlt hlt') vs.toArray ws.toArray
 refine fin.run (fp:=fun b=>b∈_) (Els:=fun V i as=>∃ bs cs,ai W V (vs.drop i) bs∧ai W V (ws.drop i) cs∧i≤min vs.length ws.length∧as = nP bs cs) k3 ⟨KTurns.ofWalksU hW.toU,fun b hb=>hb,fun i h st u hu=>?_,fun _ _ _ _ ss ⟨bs,cs,r,r',e⟩=>⟨bs,cs,r.mono ss,r'.mono ss,e⟩,fun V i e=>?_,fun V i a as e=>?_⟩ (fun u hu=>e7 (by simp at hu; rcases hu with rfl | rfl | rfl | rfl<;>lia)) (fun b hb=>?_) ⟨hz,hTI,⟨_,_,hTO⟩,hi1,hi2,(kdOf k pg W.w).atS hS fun o e=>k3 _ _ e,(kdOf k pg W.w).atS hS' fun o e=>k3 _ _ e⟩ (fun V ss=>⟨l,m,rl.mono ss,rl'.mono ss,Nat.zero_le _,rfl⟩) hW.self
 ·refine af fun nG=>?_
  obtain ⟨a1,a2,⟨_,_,a3⟩,a4,a5,a6,a7⟩:=st
  refine nG ?_
  simp at hu
  rcases hu with rfl | rfl | rfl | rfl | rfl | rfl | rfl
  ·exact ⟨_,a1,gr rfl rfl rfl⟩
  ·exact ⟨_,a2,gr rfl rfl rfl⟩
  ·exact ⟨_,a3,gr rfl rfl rfl⟩
  ·exact (kdOf k pg W.w).lowI a4
  ·exact (kdOf k pg W.w).lowI a5
  ·exact (kdOf k pg W.w).lowS a6
  ·exact (kdOf k pg W.w).lowS a7
 ·refine af fun nG=>?_
  obtain ⟨bs,cs,r,r',le,e⟩:=e
  refine nG ?_
  rw [List.size_toArray,List.size_toArray]
  cases bs with
  | nil=>have:=drop_nil r (by lia); lia
  | cons b bs=>cases cs with
   | nil=>have:=drop_nil r' (by lia); lia
   | cons=>cases e
 ·refine af fun nG=>?_
  obtain ⟨bs,cs,r,r',le,e⟩:=e
  refine nG ?_
  cases bs with
  | nil=>cases e
  | cons b bs=>cases cs with
   | nil=>cases e
   | cons c cs=>
   refine af fun nG=>?_
   obtain ⟨rfl,rfl⟩:=List.cons.inj e
   obtain ⟨hi,r1,v,hv,rv⟩:=rG r
   obtain ⟨hj,r2,u,hu,ru⟩:=rG r'
   refine nG ?_
   refine ⟨by rw [List.size_toArray,List.size_toArray]; lia,⟨bs,cs,r1,r2,by lia,rfl⟩,fun w h P G=>?_⟩
   refine af fun nG=>?_
   obtain ⟨T,vals,rfl,⟨x,y,hx,hy,rfl⟩,ht⟩:=P
   refine nG ?_
   exact .tup rfl rfl rfl ht (.cons (Option.some.inj (hv.symm.trans hx)▸rv) (.cons (Option.some.inj (hu.symm.trans hy)▸ru) (show ai W V [] [] from rfl)))
 ·simp at hb
  rcases hb with rfl | rfl | rfl | rfl | rfl | rfl | rfl<;>first | exact .inr nU | exact .inr nU' | exact .inl (e7 (by lia))
section
variable {d:Nat} {sc:Fs} {c:aj W d sc} {σ:aq} {own own1:Own} {pos:Pos}
theorem aB.yF {body:List Stmt} {f:Str} {fp cp:Pos} {xs:List Expr} {n:Nat} {as els:List AV} {fl:Fl} (ha:∀ x∈xs,dj x) (hf:ak c σ own (eval (.Name f fp) c.env) (.blt n) own) (hl:bU c σ own (spliced (backTo cp (starEach xs c.env))) as own1) (M:nQ W t n as els) (L:cL c t (fun it=>.forLoop t it body [] c.env) σ own1 els fl):aB c σ own (exec (.For t (.Call (.Name f fp) xs [] cp) body [] pos) c.env) fl:=fun s ad Q E S T=>by
 refine wpAny_For ?_ fun _=>rfl
 show wpAny _ _ ((eval (.Name f fp) c.env) >>= fun fv=>callWith cp fv [] (backTo cp (starEach xs c.env)) []) _ _ _
 refine wpAny_bind (hf s ad _ _ S fun fv h1 t1 a1 k1 r1=>g7 (first:=[]) ha (by obtain rfl:fv = dE n:=r1; exact qW n) (hl _ a1 _ _ (S.after k1) fun ws h2 t2 a2 k2 r2=>have S2:=S.after (k1.trans k2); ⟨S2.Gp,?_⟩))
 obtain rfl:fv = dE n:=r1
 exact M _ _ a2 _ _ _ E c.a.handled S2.B r2 (L.enter S2 T)
end
end
section
noncomputable def Pf:Str:=⟨#[107,105,110,100]⟩
noncomputable def fO:Str:=⟨#[95,95,105,110,105,116,95,95]⟩
theorem Hc:fO = ("__init__":Str):=by decide +kernel
noncomputable def gy:List (Addr×Addr):=[(1191,1153),(660,629),(815,777),(850,833),(883,868),(541,507),(264,219),(362,345),(396,379),(437,413),(490,454),(1113,1056)]
theorem He (P:Params):gy.map (fun q=>(makesIn (aR P) q.1,findIn (aR P) (.ref q.1) "__init__",typeIn (aR P) (.ref q.2),keepIn (aR P) (.ref q.1))) = gy.map fun q=>(true,some (some (.ref q.2)),some (.type "function"),true):=by kernel_rfl
theorem Hf (P:Params):ef.map (fun p=>p.2.map fun x=>takerIn (aR P) p.1 x) = ef.map fun p=>p.2.map fun _=>some none:=by kernel_rfl
theorem Hg (P:Params):hO.map (fun C=>(findIn (aR P) (.ref C) (Str.ofString "__setattr__"),plainOver (aR P) C)) = hO.map fun _=>(some (some (.builtin "object.__setattr__")),true):=by kernel_rfl
theorem Hh (P:Params):(specialIn (aR P) (.ref 327) "__getattribute__",readsIn (aR P) 327 (.type "type"),(match findCls (aR P) (.ref 327) (.type "type") fO with | some (.val v)=>some v | _=>none)) = (some (some (.builtin "type.__getattribute__")),true,some (.ref 303)):=by kernel_rfl
noncomputable def kI (x:Str) (a:AV):List (Str×AV)→List (Str×AV)
 | []=>[(x,a)]
 | (y,b)::l=>(match sEq y x with
  | true=>(y,a)::l
  | false=>(y,b)::kI x a l)
variable {W:ab}
theorem yG {V:Vw} {x:Str} {hh:Int} {t:Tok} {v:Value} {a:AV} (rv:Rel W V v a):∀ {fs:List (Str×AV)} {es:List DictEntry},bG W V es fs→bG W V (putL x hh (.str x t) v es) (kI x a fs)
 | [],es,r=>by obtain rfl:=r; exact .mk (.mk rfl rv) rfl
 | (y,b)::fs,_,r=>by
  obtain ⟨⟨k,hb⟩,r⟩:=r
  unfold putL kI
  rw [isStr_of k,eE]
  cases q:y == x with
  | true=>exact .mk (.mk k rv) r
  | false=>exact .mk (.mk k hb) (yG rv r)
theorem nR {x:Str} {hh:Int} {k v:Value}:∀ {es:List DictEntry},(putL x hh k v es).length≤es.length + 1
 | []=>Nat.le_refl _
 | e::es=>by
  unfold putL
  split
  ·exact Nat.le_succ _
  ·exact Nat.succ_le_succ nR
theorem yH {V:Vw}:∀ {fs:List (Str×AV)} {es:List DictEntry},bG W V es fs→es.length = fs.length
 | [],_,r=>by obtain rfl:=r; rfl
 | _::_,_,r=>by obtain ⟨_,r⟩:=r; exact congrArg (· + 1) (yH r)
set_option tactic.hygienic true in
theorem Hi {A:Around} {s:Shared} {E:Value→Shared→Prop} {X C dx:Addr} {es:List DictEntry} {n:Nat} {x:Str} {v:Value} {ns:List Str} {Q:Unit→Shared→Prop} (B:GG W s.heap) (hm:(C,ns)∈ef) (hn:ns.any (sEq x) = true) (h1:s.heap.get? X = some (instObj C dx)) (h2:s.heap.get? dx = some (dictOf es n)) (hl:(getL x es).isSome = true) (hz:es.length < 1000)
  (hQ:∀ h' tk hh t n',Heap.SameBut dx s.heap h'→h'.get? dx = some (dictOf (putL x hh (.str x t) v es) n')→Q () (mv s h' tk)):ay W A (setAttr (.ref X) x v) Q E s:=by
 have hc:=List.all_eq_true.mp m4.1 _ hm
 obtain ⟨c,hcm,hce⟩:=List.any_eq_true.mp hc
 obtain rfl:=Nat.eq_of_beq_eq_true hce
 replace hm:(C,ns)∈ef:=hm
 have cf:=m6 (C:=C) (P:=W.w.params) hc
 have e1:=cY (cY (Hf W.w.params) hm) (xM hn)
 have e2:=cY (Hg W.w.params) hcm
 have I:InstAt s.heap X (instObj C dx) C (some (dictOf es n)):=⟨h1,rfl,rfl,h2⟩
 refine set_plain B.K I (congrArg (·.1) e2) (osa_open (s:={ s with toks:=s.toks + 1 }) B.K I (congrArg (·.2) e2) e1 fun b=>?_)
 obtain ⟨cd,hc,hd'⟩:=Option.map_eq_some_iff.mp cf.d
 refine wpAny_bind (wpAny_pure (wpAny_bind (wpAny_bind (wpAny_loadPart h1 (wpAny_bind ((looks_clsIn B.K hc).here (s:={ s with toks:=s.toks + 1 }) ?_))))))
 rw [hd']
 refine wpAny_pure (a:=some dx) (wpAny_bind (wpAny_pure (wpAny_bind ?_)))
 unfold nsSet
 refine wpAny_bind (wpAny_bind (wpAny_askSetting (wpAny_pure (wpAny_bind (wpAny_mkText (wpAny_bind (wpAny_loadPart h2 ?_)))))))
 dsimp only
 have cc:(!es.toArray.any (·.key.isStr x) && es.toArray.any (·.refKey)) = false:=by
  rw [← Array.any_toList,← Array.any_toList,List.toList_toArray]
  unfold getL at hl
  split at hl
  ·rename_i en he
   rw [List.any_eq_true.mpr ⟨en,List.mem_of_find?_eq_some he,List.find?_some he⟩]; rfl
  ·split at hl
   ·exact aS hl
   ·rename_i z; rw [Bool.not_eq_true] at z; rw [z,Bool.and_false]
 rw [aRefKeyMayBeTheName_at,cc]
 have pd:∀ t,Obj.putName x (PyData.keyHash W.w.params x) (.str x t) v (dictOf es n) = dictOf (putL x (PyData.keyHash W.w.params x) (.str x t) v es) (putN x es n):=fun t=>putName_dict _ _ _ _ _ _
 have up:=Heap.get?_update_self (h:=s.heap) (a:=dx) (Obj.putName x (PyData.keyHash W.w.params x) (.str x (s.toks + 1)) v) h2 (by rw [pd]; rfl)
 rw [pd] at up
 exact wpAny_updatePart h2 (wpAny_bind (wpAny_lookBehind up (pastItsLine_dict (by have:=nR (x:=x) (hh:=PyData.keyHash W.w.params x) (k:=.str x (s.toks + 1)) (v:=v) (es:=es); rw [List.size_toArray,sizeLine_eq]; lia)) (wpAny_pure (hQ _ _ _ _ _ (Heap.SameBut.update ..) up))))
variable {d:Nat} {sc:Fs} {c:aj W d sc} {σ:aq} {own own1 own2:Own} {pos:Pos}
set_option tactic.hygienic true in
theorem aB.setAttr {v e:Expr} {x:Str} {ap:Pos} {a:AV} {n m:Nat} {C:Addr} {fs:List (Str×AV)} {ns:List Str} (hs:kh e) (he:ak c σ own (eval e c.env) a own1) (hv:ak c σ own1 (eval v c.env) (.loc n) own2) (h:own2[n]? = some (.obj C m)) (h':own2[m]? = some (.fld fs)) (hm:(C,ns)∈ef) (hn:ns.any (sEq x) = true) (hz:Nat.blt fs.length 100 = true):aB c σ own (exec (.Assign [.Attribute v x ap] e pos) c.env) (.next σ (own2.set m (.fld (kI x a fs)))):=fun s ad Q E S T=>
 plainObj_wpAny_Assign_Attribute (he s ad _ _ S fun u h1 t1 a1 k1 r1=>hv _ a1 _ _ (S.after k1) fun ov h2 t2 a2 k2 r2=>by
  obtain ⟨e2⟩:=r2
  have k:=k1.trans k2
  obtain ⟨_,o,ho,pr⟩:=k2.owns.obj _ _ _ ⟨h,rfl,e2⟩
  obtain ⟨ed⟩:=pr
  obtain ⟨_,o',ho',pr'⟩:=k2.owns.obj _ _ _ ⟨h',rfl,ed⟩
  obtain ⟨rf⟩:=pr'
  rename_i es nn
  refine Hi (s:=mv s h2 t2) (S.after k).Gp hm hn ho ho' (by
   unfold getL
   cases q:es.find? (·.key.isStr x) with
   | some e=>rfl
   | none=>dsimp only; rw [(rf.look (x:=x)).2.2]; rfl) (by rw [yH rf]; have:=Nat.blt_eq.mp hz; lia) fun h3 t3 hh t n' s3 e3=>T h3 t3 a2 ((S.after k).after (k2.owns.put ⟨h',rfl,ed⟩ s3 (fun e=>by cases e) fun V le _ _=>⟨fun _=>⟨_,e3,.mk (yG ((r1.mono k2.view).mono le) (rf.mono le))⟩,(fun _ e=>by cases e)⟩))) (hs _ _ _)
theorem Hj {C fI:Addr} {as:List AV} (hC:(C,fI)∈gy) (I:kq W d fI (own ++ [.fld []] ++ [.obj C own.length]) (.loc (own.length + 1)::as) .none own1):Tells W (d + 3) (.ref C) own as (.loc (own.length + 1)) own1:=by
 have f:=cY (He W.w.params) hC
 obtain ⟨f1,f⟩:=Prod.mk.inj f
 obtain ⟨f2,f⟩:=Prod.mk.inj f
 obtain ⟨f3,f4⟩:=Prod.mk.inj f
 refine ⟨fun g G=>?_,fun A a U ad s vs Q E Bs O rl G=>?_⟩
 ·obtain ⟨k,hk1,hk2⟩:=looks_keep (M:=model pg W.w) f4 G.K
  exact ⟨k,hk1.elim .inl fun q=>.inr (.inl q),hk2⟩
 ·obtain ⟨H,g,dr,t,os'⟩:=s
  refine wpAny_call (make_core (makes_of Bs.G.K f1) (looks_findIn Bs.G.K f2) (fun self=>bind_fn Bs.G.K self f3) (.inl rfl) ?_)
  have hs0:=da H
  have e1:((H.push emptyDict).push (instObj C H.objs.size)).get? (H.objs.size + 1) = some (instObj C H.objs.size):=by
   have:=Heap.get?_push_size (H.push emptyDict) (o:=instObj C H.objs.size) rfl
   rwa [Heap.size_push] at this
  have k1:=O.alloc (pv:=.fld []) (x:=H.objs.size) (ob:=dictOf [] 0) (h':=H.push emptyDict) Bs.G Bs.low (ag.push _ _) hs0 (Heap.get?_push_size _ rfl) rfl fun V _ _=>.mk (show bG W V [] [] from rfl)
  have B1:Base W U (H.push emptyDict):=Bs.keep (ag.push _ _)
  have n1:(H.push emptyDict).get? (H.objs.size + 1) = none:=e7 (by rw [Heap.size_push]; exact Nat.le_refl _)
  have k2:=k1.owns.alloc (pv:=.obj C own.length) (x:=H.objs.size + 1) (ob:=instObj C H.objs.size) (h':=(H.push emptyDict).push (instObj C H.objs.size)) B1.G B1.low (ag.push _ _) n1 e1 rfl fun V le ea=>.mk (by rw [ea]; exact fF _ _ (by rw [show own.length = ad.length from O.len.symm]; exact iS))
  have k:=k1.trans k2
  have hx:(ad ++ [H.objs.size] ++ [H.objs.size + 1])[own.length + 1]? = some (H.objs.size + 1):=by
   have:=iS (l:=ad ++ [H.objs.size]) (x:=H.objs.size + 1)
   rwa [List.length_append,show ad.length = own.length from O.len] at this
  exact codeAny_mono (I (A.under (.builtin "type.__call__" ⟨.ref C::vs,[]⟩)) ⟨a.handled,(by have:=a.depth; have w:Code.weight (.builtin "type.__call__" ⟨.ref C::vs,[]⟩) = 1:=rfl; show A.depth + _ + d≤900; lia),(by have:=a.units; have w:Code.cUnits (.builtin "type.__call__" ⟨.ref C::vs,[]⟩) = 1:=rfl; show A.units + _ + 3 * d≤9000; lia)⟩ U (ad ++ [H.objs.size] ++ [H.objs.size + 1]) ⟨(H.push emptyDict).push (instObj C H.objs.size),g,dr,t,os'⟩ (.ref (H.objs.size + 1)::vs)
   (fun r s'=>∃ v,r = .ok (.ret v)∧v = .none∧Q (.ref (H.objs.size + 1)) s') (B1.keep (ag.push _ _)) k2.owns (.cons (.mk hx) (rl.mono k.view)) fun v h' tk ad' k3 r3=>⟨v,rfl,r3,G _ h' tk ad' (k.trans k3) (.mk (k3.ad _ _ hx))⟩) fun r s' z=>by obtain ⟨v,rfl,z⟩:=z; exact z
theorem Hk {as:List AV} {r:AV} (T:Tells W d (.ref 303) own1 as r own2):cz W d own (.con (.ref 327)) fO own1 as r own2:=fun A a U ad s v pl Q E B O rv k=>by
 obtain rfl:v = .ref 327:=rv
 have f:=Hh W.w.params
 obtain ⟨f1,f⟩:=Prod.mk.inj f
 obtain ⟨f2,f3⟩:=Prod.mk.inj f
 split at f3
 ·rename_i vv hvv
  cases f3
  exact method_cls B.G.K f1 (cls_value B.G.K f2 hvv rfl (k _ [] (s.toks + 1) T.1 fun s' ad' vs Q' E' kk B' rl F=>T.2 A a U ad' s' vs Q' E' B' kk.owns rl F))
 ·exact ar f3
end
section
variable {prog:Program} {w:World} {A:Around} {E:Value→Shared→Prop} {s:Shared}
theorem Hl {l:Addr} {items:Array Value} {n:Nat} {k:Int} {t:Tok} {v:Value} {Q:Unit→Shared→Prop} (ho:s.heap.get? l = some { cls:=.type "list",data:=.seq items n })
  (h0:0≤k) (hfit:k < 2 ^ 63) (hn:k < items.size)
  (hQ:∀ h' n',h'.get? l = some { cls:=.type "list",data:=.seq (items.setIfInBounds k.toNat v) n' }→Heap.SameBut l s.heap h'→Q () { s with heap:=h' }):
  wpAny (model prog w) A (setItem (.ref l) (.int k t) v) Q E s:=by
 have hl:s.heap.IsList l items:=⟨_,ho,rfl,n,rfl⟩
 unfold setItem
 try with_reducible refine wpAny_holding ?_
 first | refine wpAny_bind (wpAny_pure ?_) | skip
 refine wpAny_bind (wpAny_sequenceKey hl.typeIs (by decide) ?_)
 refine wpAny_bind (wpAny_callSpecial?_slot (name:=Str.ofString "__setitem__") hl.typeIs slot_list_setitem
  (wpAny_call_entry slot_list_setitem hl.typeIs entry_list_setitem ?_ (args_list_setitem _ _ _)))
 show wpAny _ _ (Builtin.List.listSubscript? (.int k t) >>= _) _ _ s
 refine wpAny_bind (wpAny_listSubscript_int (fitsIndex_of h0 hfit) ?_)
 clear hfit
 obtain ⟨j,rfl⟩:=Int.eq_ofNat_of_zero_le h0
 have hj:j < items.size:=by lia
 have hx':items[j]? = some items[j]:=Array.getElem?_eq_getElem hj
 show wpAny _ _ ((seqItemAt l j >>= fun r=>pure (r.map (j,·))) >>= _) _ _ s
 refine wpAny_bind (wpAny_bind (wpAny_seqItemAt ho rfl (wpAny_pure ?_)))
 rw [hx']
 show wpAny _ _ (setSeqItemAt l j v >>= _) _ _ s
 have hfin:∃ n',(s.heap.update l (Obj.mapSeq (·.setIfInBounds j v))).get? l = some { cls:=.type "list",data:=.seq (items.setIfInBounds j v) n' }:=
  ⟨_,Heap.get?_update_self _ ho rfl⟩
 obtain ⟨n',hfin⟩:=hfin
 refine wpAny_bind (wpAny_setSeqItemAt ho rfl ?_)
 first
  | exact wpAny_bind (wpAny_pure (wpAny_pure ⟨.none,rfl,wpAny_pure (hQ _ n' hfin (Heap.SameBut.update ..))⟩))
  | exact wpAny_pure ⟨.none,rfl,wpAny_pure (hQ _ n' hfin (Heap.SameBut.update ..))⟩
end
section
variable {W:ab} {d:Nat} {sc:Fs} {c:aj W d sc} {σ:aq} {own own1 own2 own3 own4:Own} {pos:Pos}
noncomputable def kJ (W:ab) (own:Own) (n:Nat) (b a:AV) (own':Own):Prop:=∀ A U ad s r u v (Q:Unit→Shared→Prop) (E:Value→Shared→Prop),A.units≤9000→Base W U s.heap→aO W U ⟨own,ad,s.heap⟩→ad[n]? = some r→Rel W (vw U ⟨own,ad,s.heap⟩) u b→Rel W (vw U ⟨own,ad,s.heap⟩) v a→(∀ h' tk,After W U ⟨own,ad,s.heap⟩ ⟨own',ad,h'⟩→Q () (mv s h' tk))→ay W A (setItem (.ref r) u v) Q E s
theorem aB.Hm {x k e:Expr} {p2:Pos} {a b:AV} {n:Nat} (hs:kh e) (he:ak c σ own (eval e c.env) a own1) (hx:ak c σ own1 (eval x c.env) (.loc n) own2) (hk:ak c σ own2 (eval k c.env) b own3) (hp:kJ W own3 n b a own4):aB c σ own (exec (.Assign [.Subscript x k p2] e pos) c.env) (.next σ own4):=fun s ad Q E S T=>
 wpAny_Assign_Subscript (he s ad _ _ S fun v h1 t1 a1 k1 r1=>hx _ a1 _ _ (S.after k1) fun r h2 t2 a2 k2 r2=>by
  obtain ⟨e2⟩:=r2
  have k12:=k1.trans k2
  exact hk _ a2 _ _ (S.after k12) fun u h3 t3 a3 k3 r3=>have k:=k12.trans k3; hp _ _ a3 (mv s h3 t3) _ u v _ _ c.u (S.after k).BU k.owns (k3.ad _ _ e2) r3 ((r1.mono k2.view).mono k3.view) fun h4 t4 k4=>T h4 t4 a3 ((S.after k).after k4)) (hs _ _ _)
theorem ai.set {V:Vw} {v:Value} {a:AV} (rv:Rel W V v a):∀ {l:List AV} {vs:List Value} {i:Nat},ai W V vs l→ai W V (vs.set i v) (l.set i a)
 | [],_,_,r=>by obtain rfl:=r; rfl
 | _::_,_,0,.mk _ r=>.mk rv r
 | _::_,_,i + 1,.mk h r=>.mk h (ai.set (i:=i) rv r)
set_option tactic.hygienic true in
theorem Hn {l:List AV} {a:AV} {n:Nat} {e:SE} {i:Int} (h:own[n]? = some (.lst l)) (he:e.val W.ρ = i) (h0:0≤i) (h1:i.toNat < l.length) (h2:Nat.ble l.length 10000 = true):kJ W own n (.int e) a (own.set n (.lst (l.set i.toNat a))):=fun A U ad s r u v Q E _ B O hr ru rv F=>by
 refine af fun nG=>?_
 obtain ⟨t⟩:=ru
 refine nG ?_
 rw [he]
 refine af fun nG=>?_
 have z:At own ad n (.lst l) r:=⟨h,rfl,hr⟩
 obtain ⟨_,o,ho,pr⟩:=O.obj _ _ _ z
 obtain ⟨rl⟩:=pr
 refine nG ?_
 rename_i vs m
 have h2:=Nat.le_of_ble_eq_true h2
 have hl:=rl.length
 exact Hl (items:=vs.toArray) (n:=m) ho (by lia) (by lia) (by rw [List.size_toArray]; lia) fun h' n' e' s'=>F h' s.toks (O.put z s' (fun e=>by cases e) fun V le _ _=>⟨fun _=>⟨_,by rw [e']; exact congrArg some (by simp [bo]),.mk (n:=n') ((ai.set rv rl).mono le)⟩,(fun _ e=>by cases e)⟩)
noncomputable def dput (x:Str) (a:AV):List (Str×AV)→List (Str×AV)
 | []=>[(x,a)]
 | (y,b)::l=>(match sEq x y with
  | true=>(y,a)::l
  | false=>(y,b)::dput x a l)
theorem Ho {κ:Type} [DecidableEq κ] {x:κ} {w v:Value} {kvs:List (κ×Value)} (n:∀ p∈kvs,p.1≠x):stored ((x,w)::kvs) x v = (x,v)::kvs:=by
 unfold stored
 rw [if_pos (by simp),List.map_cons,if_pos rfl]
 congr 1
 exact (List.map_congr_left fun kv hm=>if_neg (n kv hm)).trans (List.map_id _)
theorem Hp {κ:Type} [DecidableEq κ] {x y:κ} {w v:Value} {kvs:List (κ×Value)} (n:y≠x):stored ((y,w)::kvs) x v = (y,w)::stored kvs x v:=by
 unfold stored
 rw [List.any_cons,show decide ((y,w).1 = x) = false from decide_eq_false n,Bool.false_or]
 split
 ·rw [List.map_cons,if_neg n]
 ·rfl
theorem yI {V:Vw} {x:Str} {a:AV} {v:Value} (rv:Rel W V v a):∀ {l:List (Str×AV)} {kvs:List (Str×Value)},bJ W V kvs l→(kvs.map (·.1)).Nodup→bJ W V (stored kvs x v) (dput x a l)
 | [],_,r,_=>by obtain rfl:=r; exact .mk (.mk rv) rfl
 | (y,b)::l,_,r,nd=>by
  obtain ⟨⟨rb⟩,r⟩:=r
  obtain ⟨n1,nd⟩:=List.nodup_cons.mp nd
  unfold dput
  rw [eE]
  by_cases q:x = y
  ·subst q
   rw [beq_self_eq_true,Ho fun p m e=>n1 (List.mem_map.mpr ⟨p,m,e⟩)]
   exact .mk (.mk rv) r
  ·rw [beq_eq_false_iff_ne.mpr q,Hp (Ne.symm q)]
   exact .mk (.mk rb) (yI rv r nd)
theorem bJ.length {V:Vw}:∀ {l:List (Str×AV)} {kvs:List (Str×Value)},bJ W V kvs l→kvs.length = l.length
 | [],_,r=>by obtain rfl:=r; rfl
 | _::_,_,.mk _ r=>congrArg (· + 1) r.length
theorem Hq {l:List (Str×AV)} {a:AV} {n:Nat} {y:Str} (h:own[n]? = some (.dicS l)) (h2:Nat.ble l.length 10000 = true):kJ W own n (.str y) a (own.set n (.dicS (dput y a l))):=fun A U ad s r u v Q E _ B O hr ru rv F=>by
 refine af fun nG=>?_
 obtain ⟨t⟩:=ru
 have z:At own ad n (.dicS l) r:=⟨h,rfl,hr⟩
 obtain ⟨_,o,ho,pr⟩:=O.obj _ _ _ z
 obtain ⟨ns,kvs,hd,rl⟩:=pr
 refine nG ?_
 have nd:(kvs.map (·.1)).Nodup:=by obtain ⟨_,_,_,_,_,_,nd⟩:=hd; exact nd
 have h2:=Nat.le_of_ble_eq_true h2
 refine wpAny_setItem_pairs (hsz:=by rw [rl.length,sizeLine_eq]; lia) (strKind_is pg W.w y t) (Heap.dictOf_iff.mpr ⟨_,ho,hd⟩) fun h3 hm3 sb=>?_
 refine af fun nG=>?_
 obtain ⟨o3,ho3,hd3⟩:=Heap.dictOf_iff.mp hm3
 refine nG ?_
 exact F h3 _ (O.put z sb (fun e=>by cases e) fun V le _ _=>⟨fun _=>⟨o3,ho3,ns,_,hd3,yI (rv.mono le) (rl.mono le) nd⟩,(fun _ e=>by cases e)⟩)
set_option tactic.hygienic true in
theorem Hr {n:Nat} {l l' m:List AV} (h:own[n]? = some (.lst l)) (h1:own1[n]? = some (.lst l')) (hz:Nat.ble (l'.length + m.length) 10000 = true):cz W d own (.loc n) ⟨#[101,120,116,101,110,100]⟩ own1 [.lst m] .none (own1.set n (.lst (l' ++ m))):=fun A aA U ad s v pl Q E B O rv k=>by
 refine af fun nG=>?_
 obtain ⟨e⟩:=rv
 obtain ⟨_,o,ho,pr⟩:=O.obj n _ _ ⟨h,rfl,e⟩
 obtain ⟨-⟩:=pr
 refine nG ?_
 rename_i vs0 n0
 rw [show (⟨#[101,120,116,101,110,100]⟩:Str) = ("extend":Str) by decide +kernel]
 refine getMethod_list_of PySem.F.slot_list_extend PySem.F.type_list_extend (items:=vs0.toArray) ⟨_,ho,rfl,n0,rfl⟩ ⟨_,ho,rfl⟩ (k _ [.ref _] s.toks (fG _) fun s' ad' vs Q' E' kk B' rl F=>?_)
 refine af fun nG=>?_
 obtain ⟨rv,rl⟩:=rl
 obtain rfl:=rl
 have at1:At own1 ad' n (.lst l') _:=⟨h1,rfl,kk.ad _ _ e⟩
 obtain ⟨_,o',ho',pr'⟩:=kk.owns.obj _ _ _ at1
 obtain ⟨rl⟩:=pr'
 rename_i vs' n'
 obtain ⟨hb,rl2⟩:=rv
 refine nG ?_
 rename_i ws n2
 have z1:vs'.toArray.size = l'.length:=by rw [List.size_toArray,rl.length]
 have z2:ws.toArray.size = m.length:=by rw [List.size_toArray,rl2.length]
 have hz:=Nat.le_of_ble_eq_true hz
 have hs:sizeLine = 16777216:=sizeLine_eq
 refine call_meets PySem.F.slot_list_extend ⟨_,ho',rfl⟩ PySem.F.entry_list_extend (PySem.F.args_list_extend_2 _ _) (AutoSeq1.list_extend_list_list_0 _ vs'.toArray n' _ ws.toArray n2 ?_ (by lia) (by lia)) ⟨ho',hb.1,?_⟩
 ·rw [z1,z2]
  have:Builtin.List.listTooLong (l'.length + m.length) = false:=by simp [Builtin.List.listTooLong,hs]; lia
  rw [this]; simp
 ·refine F .none _ _ ad' (kk.owns.put at1 (Heap.SameBut.update ..) (fun e=>by exact fq e) fun V le _ _=>⟨fun _=>⟨_,by
   rw [Heap.get?_update_self _ ho' rfl]
   exact congrArg some (by simp [Obj.mapSeq,bo]; rfl),.mk (n:=_) ((rl.append rl2).mono le)⟩,(fun _ e=>by cases e)⟩) rfl
noncomputable def gz (W:ab) (V:Vw):List (Int×AV)→List (Value×Value)→Prop
 | [],vs=>vs = []
 | (i,a)::l,vs=>gV (fun p:Value×Value=>bL i p.1∧Rel W V p.2 a) (gz W V l) vs
noncomputable abbrev ib (c:aj W d sc) (σ:aq) (own:Own) (pos:Pos) (ks:List (Option Expr)) (es:List Expr) (l:List (Int×AV)) (own':Own):Prop:=iT c σ own (evalPairs (pairTrees ks es c.env pos)) (fun V vs=>gz W V l vs) own'
theorem gz.mono {V V':Vw} (s:V.Le V'):∀ {l:List (Int×AV)} {vs},gz W V l vs→gz W V' l vs
 | [],_,r=>r
 | _::_,_,.mk ⟨h,q⟩ r=>.mk ⟨h,q.mono s⟩ (gz.mono s r)
theorem ib.nil:ib c σ own pos [] [] [] own:=fun s ad Q E S F=>pairTrees_nil_walk (F.here S.owns (tk:=s.toks) rfl)
theorem ib.cons {k e:Expr} {ks:List (Option Expr)} {es:List Expr} {i:Int} {a:AV} {l:List (Int×AV)} (hk:ak c σ own (eval k c.env) (.int (.lit i)) own1) (he:ak c σ own1 (eval e c.env) a own2) (h:ib c σ own2 pos ks es l own3):ib c σ own pos (some k::ks) (e::es) ((i,a)::l) own3:=fun s ad Q E S F=>
 pairTrees_cons_walk (hk s ad _ _ S fun u h1 t1 a1 k1 r1=>he _ a1 _ _ (S.after k1) fun v h2 t2 a2 k2 r2=>h _ a2 _ _ (S.after (k1.trans k2)) fun vs h3 t3 a3 k3 r3=>F _ h3 t3 a3 ((k1.trans k2).trans k3) (.mk ⟨r1,r2.mono k3.view⟩ r3))
structure Hs (W:ab) (V:Vw) (l:List (Int×AV)) (vs:List (Value×Value)):Prop where
 k:allIntKeys vs = true
 n:(intKeyPairs vs).map (·.1) = l.map (·.1)
 r:bP W V (intKeyPairs vs) l
theorem gz.ints {V:Vw}:∀ {l:List (Int×AV)} {vs},gz W V l vs→Hs W V l vs
 | [],_,r=>by obtain rfl:=r; exact ⟨rfl,rfl,rfl⟩
 | (i,a)::l,_,.mk (v:=(u,v)) ⟨h,q⟩ r=>by
  obtain ⟨k,n,r⟩:=r.ints
  obtain ⟨t⟩:=(h:bL i u)
  exact ⟨by simpa [allIntKeys] using k,by simpa [intKeyPairs] using n,.mk (.mk q) r⟩
theorem GG.big {h:Heap} (G:GG W h):(h.objs.size == sysModules) = false:=by
 obtain ⟨o,ho⟩:=Option.isSome_iff_exists.mp (wR W.w.params)
 obtain ⟨_,ho⟩:=G.ex id (W.B.fact _ _ ho)
 have:=Heap.lt_size ho
 exact beq_eq_false_iff_ne.mpr fun q=>by rw [q] at this; exact absurd this (by decide)
noncomputable def newD:Obj:={ cls:=.type "dict",data:=.dict #[] }
theorem yJ {κ:Type} [DecidableEq κ] {w:World} (k:PySem.KeyKind pg w κ):newD.IsDictOf k []:=⟨#[],0,⟨rfl,rfl,rfl⟩,rfl,fun e he=>by simp at he,.nil,.nil⟩
theorem ak.Ht:ak c σ own (eval (.Dict [] [] pos) c.env) (.loc own.length) (own ++ [.dicS []]):=fun s ad Q E S F=>
 wpAny_Dict_empty (F _ _ s.toks _ (S.owns.alloc (ob:=newD) (pv:=.dicS []) S.Gp (fun _=>S.gk) (.push _ _) (da _) (Heap.get?_push_size _ rfl) rfl fun V _ _=>⟨S.Gp.big,[],yJ _,rfl⟩) S.owns.qB)
theorem ak.dict {ks:List (Option Expr)} {es:List Expr} {l:List (Int×AV)} (h1:ks.all (·.isSome) = true) (h2:Nat.beq ks.length es.length = true) (h3:(Nat.blt 0 ks.length && Nat.ble ks.length 15) = true) (hn:(l.map (·.1)).Nodup) (h:ib c σ (own ++ [.dicI []]) pos ks es l own1) (hp:own1[own.length]? = some (.dicI [])):ak c σ own (eval (.Dict ks es pos) c.env) (.loc own.length) (own1.set own.length (.dicI l)):=fun s ad Q E S F=>by
 refine af fun nG=>?_
 obtain ⟨h3,h4⟩:=Bool.and_eq_true_iff.mp h3
 refine nG ?_
 refine wpAny_Dict_walk (knd:=intKind pg W.w) h1 (Nat.eq_of_beq_eq_true h2) (fun q=>by rw [q] at h3; exact aS h3) (Nat.le_of_ble_eq_true h4) ?_
 have k0:=S.owns.alloc (ob:=newD) (pv:=.dicI []) (h':=s.heap.push newD) S.Gp (fun _=>S.gk) (.push _ _) (da _) (Heap.get?_push_size _ rfl) rfl fun V _ _=>⟨S.Gp.big,[],yJ _,rfl⟩
 refine h (mv s (s.heap.push newD) s.toks) _ _ _ (S.after k0) fun vs h' tk ad' k r=>?_
 refine af fun nG=>?_
 obtain ⟨a1,a2,a3⟩:=r.ints
 have hD:ad'[own.length]? = some s.heap.objs.size:=k.ad _ _ (by show (ad ++ [_])[own.length]? = _; rw [← S.owns.len]; exact iS)
 have z:At own1 ad' own.length (.dicI []) s.heap.objs.size:=⟨hp,rfl,hD⟩
 obtain ⟨_,o,ho,ns,kvs,hd,rl⟩:=k.owns.obj _ _ _ z
 obtain rfl:kvs = []:=rl
 refine nG ?_
 refine display_done_int a1 (by rw [a2]; exact hn) (Heap.dictOf_iff.mpr ⟨o,ho,hd⟩) fun h2 hdo hs2=>?_
 refine af fun nG=>?_
 obtain ⟨ob,hob,hdict⟩:=Heap.dictOf_iff.mp hdo
 refine nG ?_
 exact F _ h2 _ ad' ((k0.trans k).trans (k.owns.put z hs2 (fun e=>by cases e) fun V le _ _=>⟨fun _=>⟨ob,hob,ns,_,hdict,a3.mono le⟩,(fun _ e=>by cases e)⟩)) (.mk hD)
end
end Mine
end
section
set_option backward.match.sparseCases false
open PySem PySem.W PyProof.Rows PySem.Calls
namespace Mine
section
mutual
noncomputable def nl:AV→Bool
 | .loc _=>false
 | .tup l=>bc l
 | .lst l=>bc l
 | .inst _ fs=>ie fs
 | .dicS l=>ie l
 | .dicI l=>nS l
 | _=>true
noncomputable def bc:List AV→Bool
 | []=>true
 | a::l=>(match nl a with
  | true=>bc l
  | false=>false)
noncomputable def ie:List (Str×AV)→Bool
 | []=>true
 | (_,a)::l=>(match nl a with
  | true=>ie l
  | false=>false)
noncomputable def nS:List (Int×AV)→Bool
 | []=>true
 | (_,a)::l=>(match nl a with
  | true=>nS l
  | false=>false)
end
theorem both {a b:Bool} (h:(match a with | true=>b | false=>false) = true):a = true∧b = true:=by
 cases a
 ·cases h
 ·exact ⟨rfl,h⟩
section
variable {W:ab} {g g':GH} {ad ad':List Addr}
mutual
theorem dS (s:Sub g g'):∀ {a:AV} {v:Value},nl a = true→Rel W ⟨g,ad⟩ v a→Rel W ⟨g',ad'⟩ v a
 | .none,_,_,r | .bool _,_,_,r | .sb _,_,_,r | .int _,_,_,r | .str _,_,_,r | .bytes _,_,_,r | .con _,_,_,r | .blt _,_,_,r | .any,_,_,r | .anyS,_,_,r=>r
 | .tup _,_,h,r=>by obtain ⟨h1,r⟩:=r; exact .mk (s _ _ h1) (e8 s h r)
 | .lst _,_,h,r=>by obtain ⟨h1,r⟩:=r; exact .mk (s _ _ h1) (e8 s h r)
 | .inst _ _,_,h,r=>by obtain ⟨h1,hd,r⟩:=r; exact .mk (s _ _ h1) (s _ _ hd) (yK s h r)
 | .dicI _,_,h,r=>by obtain ⟨h1,ns,d,r⟩:=r; exact .mk (s _ _ h1) ns d (yL s h r)
 | .dicS _,_,h,r=>by obtain ⟨h1,ns,d,r⟩:=r; exact .mk (s _ _ h1) ns d (yM s h r)
 | .rng _ _,_,_,r=>by obtain ⟨h,k⟩:=r; exact .mk (s _ _ h) k
 | .hole _,_,_,r=>W.ηm _ _ _ _ s r
theorem e8 (s:Sub g g'):∀ {as:List AV} {vs:List Value},bc as = true→ai W ⟨g,ad⟩ vs as→ai W ⟨g',ad'⟩ vs as
 | [],_,_,r=>r
 | _::_,_,h,r=>by obtain ⟨q,r⟩:=r; exact .mk (dS s (both h).1 q) (e8 s (both h).2 r)
theorem yK (s:Sub g g'):∀ {fs:List (Str×AV)} {es:List DictEntry},ie fs = true→bG W ⟨g,ad⟩ es fs→bG W ⟨g',ad'⟩ es fs
 | [],_,_,r=>r
 | _::_,_,h,r=>by obtain ⟨⟨k,q⟩,r⟩:=r; exact .mk (.mk k (dS s (both h).1 q)) (yK s (both h).2 r)
theorem yL (s:Sub g g'):∀ {fs:List (Int×AV)} {es:List (Int×Value)},nS fs = true→bP W ⟨g,ad⟩ es fs→bP W ⟨g',ad'⟩ es fs
 | [],_,_,r=>r
 | _::_,_,h,r=>by obtain ⟨⟨q⟩,r⟩:=r; exact .mk (.mk (dS s (both h).1 q)) (yL s (both h).2 r)
theorem yM (s:Sub g g'):∀ {fs:List (Str×AV)} {es:List (Str×Value)},ie fs = true→bJ W ⟨g,ad⟩ es fs→bJ W ⟨g',ad'⟩ es fs
 | [],_,_,r=>r
 | _::_,_,h,r=>by obtain ⟨⟨q⟩,r⟩:=r; exact .mk (.mk (dS s (both h).1 q)) (yM s (both h).2 r)
end
end
variable {W:ab} {d:Nat}
theorem cN {ad:List Addr} {u:Addr}:¬ao [] ad u:=fun ⟨_,_,z⟩=>(by exact ar z.own)
theorem aO.none {U:AS} {h:Heap}:aO W U ⟨[],[],h⟩:=⟨rfl,fun n pv a z=>(ar z.own),fun n t e=>((by exact ar e)),fun n m pv qv a z=>(ar z.own),fun u z=>(cN z).elim⟩
theorem Tells.lift {f:Value} {as:List AV} {r:AV} {own own':Own} (T:Tells W d f [] as r own') (ha:bc as = true) (hr:nl r = true):Tells W d f own as r own:=⟨T.1,fun A a U ad s vs Q E B O rl F=>
 T.2 A a (fun u=>U u∨ao own ad u) [] s vs Q E (B.more O) .none (e8 (d7 fun u q=>q.elim id fun q=>(cN q).elim) ha rl) fun v h' tk ad' k rv=>
  have kk:ag s.heap h':=aw.trans (ag.of fun b o e=>a9.mpr ⟨e,cN⟩) k.keep
  F v h' tk ad (O.grow kk) (dS (d7 fun u q=>.inl q) hr rv)⟩
end
end Mine
end
section
open PySem PySem.W PyProof.Rows PySem.Calls
set_option maxRecDepth 100000
namespace Mine
section
variable {W:ab} {A:Around} {U:AS} {ad:List Addr} {s:Shared} {E:Value→Shared→Prop} {ks vs out:List Value} {a kS:Addr} {hb:Heap}
noncomputable def SortRun (W:ab) (A:Around) (ks vs out:List Value) (s:Shared):Prop:=(vs.length < 2∧out = vs)∨(2≤vs.length∧vs.length < 64∧∃ (κ:SortKind) (p:Array Nat),out = p.toList.map (fun i=>vs.getD i Value.none)∧(∀ (Q:SortKind→Shared→Prop) E,Q κ s→ay W A (keyKind' ks.toArray) Q E s)∧∀ Q:Array Nat→Shared→Prop,Q p s→(kas_sort vs.length).kasWp (kas_ask pg W.w A κ ks) Q s)
theorem yN {P:Unit×SortSt→Shared→Prop} {κ:SortKind} {p:Array Nat} (hl:ks.length = vs.length) (h2:2≤vs.length) (h64:vs.length < 64) (hr:∀ Q:Array Nat→Shared→Prop,Q p s→(kas_sort vs.length).kasWp (kas_ask pg W.w A κ ks) Q s)
  (h:∀ st,(arrOf st).map (·.2) = List.toArray (p.toList.map fun i=>vs.getD i Value.none)→failedOf st = none→P ((),st) s):ay W A ((sortRuns').run (SortSt.mk' κ (ks.toArray.zip vs.toArray) #[] 7 none)) P E s:=by
 refine wpAny_mono (kat_run (Q:=fun st' s'=>s' = s∧arrOf st' = p.map (kas_item (ks.toArray.zip vs.toArray))∧failedOf st' = none) (G:=fun p' s'=>p' = p∧s' = s) hl h2 h64 ?_ (hr _ ⟨rfl,rfl⟩)) ?_ fun _ _ e=>e
 ·rintro p' st' s' a1 a2 a3 ⟨rfl,rfl⟩; exact ⟨rfl,a2,a3⟩
 ·rintro ⟨⟨⟩,st'⟩ s' ⟨rfl,har,hf⟩
  exact h _ (kat_snds hl har) hf
theorem yO (hl:ks.length = vs.length):(arrOf (SortSt.mk' general' (ks.toArray.zip vs.toArray) #[] 7 none)).map (·.2) = vs.toArray:=by
 show (ks.toArray.zip vs.toArray).map (·.2) = vs.toArray
 apply Array.toList_inj.mp
 simp [List.map_snd_zip,hl]
theorem gA {h:Heap} {n:Nat} (ho:h.get? a = some (bo vs n)):bA h a:=⟨_,ho,rfl⟩
noncomputable abbrev nT (h:Heap) (a:Addr) (vs:List Value):Heap:=((h.update a (Obj.mapSeq fun _=>(#[]:Array Value))).push (seqObj "tuple" vs.toArray 0)).push (seqObj "list" #[] 0)
theorem dU {n:Nat} (h:n < 64):n≤sizeLine:=by rw [sizeLine_eq]; lia
theorem Hu {n:Nat} {P:PySem.Fin→Shared→Prop} (ho:s.heap.get? a = some (bo vs n)) (hz:vs.length < 64) (hz':out.length < 64) (hr:∀ h' tk,aw (· = a) s.heap h'→SortRun W A vs vs out (mv s h' tk))
  (h:∀ h' tk n',aw (· = a) s.heap h'→h'.get? a = some (bo out n')→P (.done (.ret .none)) (mv s h' tk)):ay W A (Builtin.«list.sort» ⟨[.ref a],[]⟩) P E s:=by
 have s1:=Heap.SameBut.update s.heap a (Obj.mapSeq fun _=>(#[]:Array Value))
 obtain ⟨e1,ho1⟩:∃ e1,(s.heap.update a (Obj.mapSeq fun _=>(#[]:Array Value))).get? a = some (seqObj "list" #[] e1):=⟨_,get?_update_seq ho fun _=>#[]⟩
 have k1:aw (· = a) s.heap (nT s.heap a vs):=(aw.one (gA ho) s1).trans ((aw.trans (ag.push _ _) (ag.push _ _)).x)
 have ho6:(nT s.heap a vs).get? a = some (seqObj "list" #[] e1):=Heap.get?_push_of_some _ (Heap.get?_push_of_some _ ho1)
 rw [list_sort_plain]
 refine wpAny_bind (listItems_at ho rfl ?_)
 refine wpAny_bind (listUpdate_at ho rfl ?_ (by rw [List.size_toArray]; exact dU hz) (Nat.zero_le _))
 refine wpAny_bind (seqEpoch_at ho1 rfl ?_)
 refine wpAny_bind (wpAny_newTuple ?_ (by show vs.length≤_; exact dU hz))
 refine wpAny_bind (wpAny_newList ?_ (Nat.zero_le _))
 refine wpAny_holding ?_
 show wpAny _ A _ P E { s with heap:=nT s.heap a vs }
 have fin:∀ st:SortSt,(arrOf st).map (·.2) = out.toArray→failedOf st = none→ay W A (do
   let sorted:=(arrOf st).map (·.2)
   let touched:=(← seqEpoch a) != e1
   Builtin.List.listUpdate (.ref a) fun _=>sorted
   if let some e:=failedOf st then rule "list.sort.comparison-raised"; throw e
   if touched then rule "list.sort.modified"; raiseError "ValueError" "list modified during sort"
   ret .none) P E { s with heap:=nT s.heap a vs }:=by
  intro st hout hf
  refine wpAny_bind (seqEpoch_at ho6 rfl ?_)
  rw [hout]
  refine wpAny_bind (listUpdate_at ho6 rfl ?_ (Nat.zero_le _) (by rw [List.size_toArray]; exact Nat.le_succ_of_le (dU hz')))
  rw [hf]
  simp only [bne_self_eq_false,Bool.false_eq_true,if_false]
  exact wpAny_pure (h _ _ _ (k1.trans (aw.one (gA (vs:=[]) ho6) (Heap.SameBut.update ..))) (get?_update_seq ho6 fun _=>out.toArray))
 dsimp only
 rcases hr _ s.toks k1 with ⟨h2,e⟩ | ⟨h2,h64,κ,p,e,hk,hr'⟩
 ·have hn:vs.toArray.size < 2:=by rw [List.size_toArray]; exact h2
  rw [if_pos hn,if_pos hn]
  refine wpAny_bind (wpAny_pure ?_)
  rw [StateT.run_pure]
  refine wpAny_bind (wpAny_pure ?_)
  exact fin _ (by rw [e]; exact yO rfl) rfl
 ·have hn:¬ vs.toArray.size < 2:=by rw [List.size_toArray]; lia
  rw [if_neg hn,if_neg hn]
  refine wpAny_bind (hk _ _ ?_)
  refine wpAny_bind (yN rfl h2 h64 hr' fun st hout hf=>?_)
  exact fin _ (by rw [hout,e]) hf
noncomputable abbrev fP (h:Heap) (vs:List Value):Heap:=((h.push (seqObj "list" #[] 0)).update h.objs.size (Obj.mapSeq (· ++ vs.toArray))).push (seqObj "list" vs.toArray 0)
structure Hv (h:Heap) (vs:List Value):Prop where
 sz:((h.push (seqObj "list" #[] 0)).update h.objs.size (Obj.mapSeq (· ++ vs.toArray))).objs.size = h.objs.size + 1
 at_:(fP h vs).get? (h.objs.size + 1) = some (seqObj "list" vs.toArray 0)
 keep:∀ b o,h.get? b = some o→(fP h vs).get? b = some o
 new:h.get? (h.objs.size + 1) = none
theorem yP {h:Heap} {vs:List Value}:Hv h vs:=by
 have hsz:((h.push (seqObj "list" #[] 0)).update h.objs.size (Obj.mapSeq (· ++ vs.toArray))).objs.size = h.objs.size + 1:=by rw [Heap.size_update,size_push']
 refine ⟨hsz,by rw [← hsz]; exact Heap.get?_push_size _ rfl,fun b o q=>?_,e7 (Nat.le_succ _)⟩
 have hlt:b < h.objs.size:=Heap.lt_size q
 rw [Heap.get?_push_ne _ _ _ (by rw [hsz]; exact Nat.ne_of_lt (Nat.lt_succ_of_lt hlt)),Heap.get?_update_ne _ _ _ _ (Nat.ne_of_lt hlt),Heap.get?_push_ne _ _ _ (Nat.ne_of_lt hlt)]
 exact q
theorem Hw {l:Addr} {Q:Value→Shared→Prop} (hl:s.heap.IsList l vs.toArray) (hz:vs.length < 64) (hz':out.length < 64) (hr:∀ (A':Around) h' tk,ag s.heap h'→SortRun W A' vs vs out (mv s h' tk))
  (h:∀ D h' tk n',ag s.heap h'→s.heap.get? D = none→h'.get? D = some (bo out n')→Q (.ref D) (mv s h' tk)):ay W A (call (.builtin "sorted") [.ref l]) Q E s:=by
 refine Calls.call_function_entry kind_sorted plain_sorted entry_sorted (args_sorted1 _) ?_
 unfold Builtin.«sorted»
 refine wpAny_bind (m:=checkCount "sorted" 1 1 _) (wpAny_pure ?_)
 refine wpAny_bind (collect_list hl ?_ (dU hz))
 refine wpAny_bind (wpAny_newList ?_ (dU hz))
 have C:=yP (h:=s.heap) (vs:=vs)
 show wpAny _ _ _ _ _ { s with heap:=fP s.heap vs }
 rw [C.sz]
 refine wpAny_bind (wpAny_holding (wpAny_call_entry slot_list_sort ⟨_,C.at_,rfl⟩ entry_list_sort ?body (args_list_sort _)))
 case body=>
  have th:∀ {h'},aw (· = s.heap.objs.size + 1) (fP s.heap vs) h'→ag s.heap h':=fun kx=>(ag.of C.keep).dF kx fun u hu=>hu▸C.new
  refine Hu (W:=W) (s:={ s with heap:=fP s.heap vs }) C.at_ hz hz' (fun h' tk kx=>hr A.in1.in1 h' tk (th kx)) fun h' tk n' kx e=>?_
  exact ⟨_,rfl,wpAny_pure ⟨_,rfl,h _ h' tk n' (th kx) C.new e⟩⟩
noncomputable def rH (W:ab) (A:Around) (hb:Heap) (f:Value) (a r:AV):Prop:=∀ U ad s v (Q:Value→Shared→Prop) E,ag hb s.heap→Base W U s.heap→Rel W ⟨aF U s.heap,ad⟩ v a→Got W U ad s r Q→ay W A (call f [v]) Q E s
inductive fQ (W:ab) (A:Around) (hb:Heap) (f:Value):List AV→List AV→Prop where
 | nil:fQ W A hb f [] []
 | cons {a r:AV} {as rs:List AV} (h:rH W A hb f a r) (t:fQ W A hb f as rs):fQ W A hb f (a::as) (r::rs)
theorem aw.dW {X:AS} {h h':Heap} (k:aw X h h') (s:∀ u,X u→U u):(⟨Mine.aF U h,ad⟩:Vw).Le ⟨Mine.aF U h',ad⟩:=⟨k.sub fun b o _ n=>⟨fun q=>n (s b q),n⟩,fun _ _ e=>e⟩
set_option tactic.hygienic true in
theorem Hx {f:Value} (G:GG W hb) (hk0:hb.get? kS = none) (hkU:U kS) {as ks:List AV} (kt:fQ W A hb f as ks):∀ {vs ksv:List Value} {ks0:List AV} {n:Nat} {s:Shared} {Q:Unit→Shared→Prop},ag hb s.heap→(∀ u,U u→∃ o,s.heap.get? u = some o)→s.heap.get? kS = some (bo ksv n)→ai W ⟨aF U s.heap,ad⟩ vs as→ai W ⟨aF U s.heap,ad⟩ ksv ks0→
  ksv.length + vs.length < 64→(∀ h' tk ksv' n',ag hb h'→aw (· = kS) s.heap h'→h'.get? kS = some (bo ksv' n')→ai W ⟨aF U h',ad⟩ ksv' (ks0 ++ ks)→Q () (mv s h' tk))→ay W A (forIn vs PUnit.unit fun x _=>do
   match ← (call f [x]).attempt with
   | .ok k=>do
    Builtin.List.listUpdate (.ref kS) (·.push k)
    pure (ForInStep.yield PUnit.unit)
   | .error e=>do
    rule "list.sort.key-raised"
    let made ← Builtin.List.listItems (.ref kS)
    Builtin.List.listUpdate (.ref kS) fun _=>#[]
    letGo made.toList.reverse [e]
    Builtin.List.listUpdate (.ref a) fun _=>out.toArray
    let _ ← (throw e:Sem PUnit)
    pure (ForInStep.yield PUnit.unit)) Q E s:=by
 induction kt with
 | nil=>
  intro vs ksv ks0 n s Q K low ho rl rk hz hQ
  obtain rfl:=rl
  rw [List.forIn_nil]
  exact wpAny_pure (hQ s.heap s.toks ksv n K (.refl _ _) ho (by rw [List.append_nil]; exact rk))
 | @cons x kr as krs h t ih=>
  intro vs ksv ks0 n s Q K low ho rl rk hz hQ
  obtain ⟨rv,rl⟩:=rl
  rename_i v vs
  rw [List.forIn_cons]
  rw [List.length_cons] at hz
  refine wpAny_bind (wpAny_bind (wpAny_attempt ?_))
  refine h U ad s v _ _ K ⟨aw.trans G K,low⟩ rv fun k h1 t1 k1 r1=>?_
  have ho1:=k1.get ho rfl
  have ea:(List.toArray ksv).push k = List.toArray (ksv ++ [k]):=by simp
  obtain ⟨c2,hc2⟩:∃ c2,(h1.update kS (Obj.mapSeq (·.push k))).get? kS = some (bo (ksv ++ [k]) c2):=⟨_,by show _ = some (seqObj "list" (List.toArray (ksv ++ [k])) _); rw [← ea]; exact get?_update_seq ho1 (·.push k)⟩
  have kx:aw (· = kS) h1 (h1.update kS (Obj.mapSeq (·.push k))):=aw.one (gA ho1) (Heap.SameBut.update ..)
  have K2:ag hb (h1.update kS (Obj.mapSeq (·.push k))):=(aw.trans K k1).dF kx fun u hu=>hu▸hk0
  have le:=(k1.x.trans kx:aw (· = kS) s.heap _)
  have dW:=le.dW (U:=U) (ad:=ad) fun u q=>q▸hkU
  dsimp only
  refine wpAny_bind (listUpdate_at ho1 rfl ?_ (by rw [List.size_toArray]; exact dU (by lia)) (by rw [Array.size_push,List.size_toArray]; exact Nat.le_succ_of_le (dU (n:=ksv.length + 1) (by lia))))
  refine wpAny_pure ?_
  dsimp only
  refine ih (ks0:=ks0 ++ [kr]) (s:=mv s (h1.update kS (Obj.mapSeq (·.push k))) t1) K2 (fun u hu=>?_) hc2 (rl.mono dW) ((rk.mono dW).append (.cons (r1.mono (kx.dW fun u q=>q▸hkU)) (show ai W _ [] [] from rfl))) (by rw [List.length_append,List.length_singleton]; lia) fun h' tk ksv' n' K3 kx3 e3 r3=>hQ h' tk ksv' n' K3 (le.trans kx3) e3 (by rw [List.append_assoc] at r3; exact r3)
  by_cases q:u = kS
  ·rw [q]; exact ⟨_,hc2⟩
  ·obtain ⟨o,e⟩:=low u hu; exact le.ex q e
theorem fQ.length {f:Value} {as rs:List AV} (t:fQ W A hb f as rs):rs.length = as.length:=by induction t with | nil=>rfl | cons _ _ ih=>exact congrArg (· + 1) ih
theorem Hy {f:Value} {as ks:List AV} {n:Nat} {P:PySem.Fin→Shared→Prop} (G:GG W hb) (K:ag hb s.heap) (ha0:hb.get? a = none) (low:∀ u,U u→∃ o,s.heap.get? u = some o) (ho:s.heap.get? a = some (bo vs n)) (rl:ai W ⟨aF (fun u=>u = a∨U u) s.heap,ad⟩ vs as) (kt:fQ W A hb f as ks)
  (hz:vs.length < 64) (hz':out.length < 64) (hr:∀ U' h' tk ksv,ag hb h'→ai W ⟨aF U' h',ad⟩ ksv ks→SortRun W A ksv vs out (mv s h' tk))
  (h:∀ h' tk n',ag hb h'→h'.get? a = some (bo out n')→P (.done (.ret .none)) (mv s h' tk)):ay W A (ksk_tree a f false) P E s:=by
 have s1:=Heap.SameBut.update s.heap a (Obj.mapSeq fun _=>(#[]:Array Value))
 obtain ⟨e1,ho1⟩:∃ e1,(s.heap.update a (Obj.mapSeq fun _=>(#[]:Array Value))).get? a = some (seqObj "list" #[] e1):=⟨_,get?_update_seq ho fun _=>#[]⟩
 unfold ksk_tree
 refine wpAny_bind (listItems_at ho rfl ?_)
 refine wpAny_bind (listUpdate_at ho rfl ?_ (by rw [List.size_toArray]; exact dU hz) (Nat.zero_le _))
 refine wpAny_bind (seqEpoch_at ho1 rfl ?_)
 refine wpAny_bind (wpAny_newTuple ?_ (by show vs.length≤_; exact dU hz))
 refine wpAny_bind (wpAny_newList ?_ (Nat.zero_le _))
 refine wpAny_holding ?_
 generalize hH1:s.heap.update a (Obj.mapSeq fun _=>(#[]:Array Value)) = H1 at *
 dsimp only
 generalize hH2:H1.push { cls:=.type "tuple",data:=.seq vs.toArray.toList.toArray } = H2
 generalize hH3:H2.push { cls:=.type "list",data:=.seq ([]:List Value).toArray } = H3
 have kx1:aw (· = a) s.heap H1:=aw.one (gA ho) s1
 have K13:ag H1 H3:=by rw [← hH3,← hH2]; exact aw.trans (ag.push _ _) (ag.push _ _)
 have KH1:ag hb H1:=K.dF kx1 fun u hu=>hu▸ha0
 have KH3:ag hb H3:=KH1.trans K13
 have hkS:H3.get? H2.objs.size = some (bo [] 0):=by rw [← hH3]; exact Heap.get?_push_size _ rfl
 have sz2:H2.objs.size = H1.objs.size + 1:=by rw [← hH2]; exact Heap.size_push ..
 have hk1:H1.get? H2.objs.size = none:=e7 (by rw [sz2]; exact Nat.le_succ _)
 have hk0:hb.get? H2.objs.size = none:=KH1.gone hk1
 have hks:s.heap.get? H2.objs.size = none:=e7 (by rw [sz2,s1.1]; exact Nat.le_succ _)
 have ho3:H3.get? a = some (seqObj "list" #[] e1):=K13.get ho1 rfl
 have nak:a≠H2.objs.size:=fun q=>by rw [q,hk1] at ho1; exact ar ho1
 have x13:aw (· = a) s.heap H3:=kx1.trans K13.x
 have dW:(⟨aF (fun u=>u = a∨U u) s.heap,ad⟩:Vw).Le ⟨aF (fun u=>u = H2.objs.size∨u = a∨U u) H3,ad⟩:=⟨x13.sub fun b o e n=>⟨fun q=>n (.inl q),fun q=>q.elim (eV e hks) n⟩,fun _ _ e=>e⟩
 have low3:∀ u,(u = H2.objs.size∨u = a∨U u)→∃ o,H3.get? u = some o:=fun u hu=>by
  rcases hu with rfl | rfl | q
  ·exact ⟨_,hkS⟩
  ·exact ⟨_,ho3⟩
  ·by_cases z:u = a
   ·exact ⟨_,z▸ho3⟩
   ·obtain ⟨o,e⟩:=low u q; exact x13.ex z e
 unfold ksk_rest
 refine wpAny_bind (wpAny_rule ?_)
 rw [List.forIn_toArray]
 refine wpAny_bind (Hx (W:=W) (A:=A) (ad:=ad) (U:=fun u=>u = H2.objs.size∨u = a∨U u) (hb:=hb) (kS:=H2.objs.size) (a:=a) (out:=vs) (E:=E) (s:=mv s H3 s.toks) (vs:=vs) (ksv:=[]) (ks0:=[]) (n:=0) G hk0 (.inl rfl) kt KH3 low3 hkS (rl.mono dW) rfl (by simpa using hz) fun h4 t4 ksv n4 K4 kx4 e4 r4=>?_)
 rw [List.nil_append] at r4
 have ho4:h4.get? a = some (seqObj "list" #[] e1):=kx4.b9 nak ho3 (.inl rfl)
 have lks:ksv.length = vs.length:=by rw [r4.length,rl.length,kt.length]
 refine wpAny_bind (listItems_at e4 rfl ?_)
 unfold ksk_end
 dsimp only
 rw [if_neg Bool.false_ne_true]
 have fin:∀ st:SortSt,(arrOf st).map (·.2) = out.toArray→failedOf st = none→ay W A (ksk_tail a false e1 (.ref H2.objs.size) st) P E (mv s h4 t4):=by
  intro st hout hff
  have s2:=Heap.SameBut.update h4 H2.objs.size (Obj.mapSeq fun _=>(#[]:Array Value))
  have ho5:(h4.update H2.objs.size (Obj.mapSeq fun _=>(#[]:Array Value))).get? a = some (seqObj "list" #[] e1):=(s2.2 a nak).trans ho4
  have K5:ag hb (h4.update H2.objs.size (Obj.mapSeq fun _=>(#[]:Array Value))):=K4.dF (aw.one (gA e4) s2) fun u hu=>hu▸hk0
  unfold ksk_tail
  dsimp only
  rw [hout]
  refine wpAny_bind (listUpdate_at e4 rfl ?_ (by rw [List.size_toArray]; exact dU (by lia)) (Nat.zero_le _))
  refine wpAny_bind (wpAny_letGo ?_)
  refine wpAny_bind (seqEpoch_at ho5 rfl ?_)
  refine wpAny_bind (listUpdate_at ho5 rfl ?_ (Nat.zero_le _) (by rw [if_neg Bool.false_ne_true,List.size_toArray]; exact Nat.le_succ_of_le (dU hz')))
  rw [hff]
  simp only [bne_self_eq_false,Bool.false_eq_true,if_false]
  exact wpAny_pure (h _ _ _ (K5.dF (aw.one (gA (vs:=[]) ho5) (Heap.SameBut.update ..)) fun u hu=>hu▸ha0) (get?_update_seq ho5 fun _=>out.toArray))
 rcases hr _ h4 t4 ksv K4 r4 with ⟨h2,e⟩ | ⟨h2,h64,κ,p,e,hk,hr'⟩
 ·have hn:vs.toArray.size < 2:=by rw [List.size_toArray]; exact h2
  rw [if_pos hn,if_pos hn]
  refine wpAny_bind (wpAny_pure ?_)
  rw [StateT.run_pure]
  refine wpAny_bind (wpAny_pure ?_)
  exact fin _ (by rw [e]; exact yO lks) rfl
 ·have hn:¬ vs.toArray.size < 2:=by rw [List.size_toArray]; lia
  rw [if_neg hn,if_neg hn]
  refine wpAny_bind (hk _ _ ?_)
  refine wpAny_bind (yN lks h2 h64 hr' fun st hout hff=>?_)
  exact fin _ (by rw [hout,e]) hff
theorem HA {l q:Addr} {as ks:List AV} {Q:Value→Shared→Prop} (B:Base W U s.heap) (hl:s.heap.IsList l vs.toArray) (rl:ai W ⟨aF U s.heap,ad⟩ vs as) (kt:fQ W A.in1.in1 s.heap (.ref q) as ks) (hz:vs.length < 64) (hz':out.length < 64)
  (hr:∀ (A':Around) U' h' tk ksv,ag s.heap h'→ai W ⟨aF U' h',ad⟩ ksv ks→SortRun W A' ksv vs out (mv s h' tk))
  (h:∀ D h' tk n',ag s.heap h'→s.heap.get? D = none→h'.get? D = some (bo out n')→Q (.ref D) (mv s h' tk)):ay W A (call (.builtin "sorted") [.ref l] [(Str.ofString "key",.ref q)]) Q E s:=by
 refine call_function_entry_kw kind_sorted plain_sorted entry_sorted (ksk_s1 _ _) ?_
 unfold Builtin.«sorted»
 refine wpAny_bind (m:=checkCount "sorted" 1 1 _) (wpAny_pure ?_)
 refine wpAny_bind (collect_list hl ?_ (dU hz))
 refine wpAny_bind (wpAny_newList ?_ (dU hz))
 have C:=yP (h:=s.heap) (vs:=vs)
 show wpAny _ _ _ _ _ { s with heap:=fP s.heap vs }
 rw [C.sz]
 refine wpAny_bind (wpAny_holding (wpAny_call_entry_kw slot_list_sort ⟨_,C.at_,rfl⟩ entry_list_sort ?body (ksk_l1 _ _)))
 case body=>
  show wpAny _ A.in1.in1 (Builtin.«list.sort» ⟨[.ref (s.heap.objs.size + 1)],[(Str.ofString "key",.ref q)]⟩) _ _ _
  rw [ksk_t1]
  have kc:ag s.heap (fP s.heap vs):=.of C.keep
  have dW:(⟨aF U s.heap,ad⟩:Vw).Le ⟨aF (fun u=>u = s.heap.objs.size + 1∨U u) (fP s.heap vs),ad⟩:=⟨kc.sub fun b o e n=>⟨id,fun q=>q.elim (eV e C.new) n⟩,fun _ _ e=>e⟩
  exact Hy (W:=W) (U:=U) (hb:=s.heap) (s:=mv s (fP s.heap vs) s.toks) B.G kc C.new (fun u hu=>let ⟨o,e⟩:=B.low u hu; ⟨o,C.keep u o e⟩) C.at_ (rl.mono dW) kt hz hz' (fun U' h' tk ksv k r=>hr _ U' h' tk ksv k r) fun h' tk n' k e=>⟨_,rfl,wpAny_pure ⟨_,rfl,h _ h' tk n' k C.new e⟩⟩
end
end Mine
end
section
set_option backward.match.sparseCases false
open PySem PySem.W PyProof.Rows PySem.Calls
set_option maxRecDepth 100000
namespace Mine
section
variable {W:ab} {G:Facts} (hG:Sat W.ρ G)
noncomputable def HC (W:ab) (a b:AV) (d:Bool):Prop:=∀ A V s v u (Q:Bool→Shared→Prop) (E:Value→Shared→Prop),Rel W V v a→Rel W V u b→Q d s→ay W A (eqBool v u) Q E s
noncomputable def HD (W:ab) (c:Bool) (a b:AV) (d:Bool):Prop:=∀ A V s v u (Q:Bool→Shared→Prop) (E:Value→Shared→Prop),Rel W V v a→Rel W V u b→Q d s→ay W A (oneLt' c v u) Q E s
noncomputable def nW (a:AV):Out fun b:Bool=>∀ V v,Rel W V v a→v = .bool b:=match a with
 | .bool b=>.ok b fun V v r=>r
 | .sb B=>bd (truth hG B) fun t e=>.ok t fun V v r=>by rw [show v = _ from r,show B.val W.ρ = t from e]
 | _=>.no 140
noncomputable def HE (a b:AV):Out (HC W a b):=match a,b with
 | .int x,.int y=>bd (truth hG ⟨false,ba x (smul (-1) y),true⟩) fun t e=>.ok t fun A V s v u Q E rv ru h=>by
   obtain ⟨_⟩:=rv
   obtain ⟨_⟩:=ru
   have e:decide ((ba x (smul (-1) y)).val W.ρ = 0) = t:=e
   rw [cX,cI] at e
   refine wpAny_eqBool_int ?_
   rwa [show (x.val W.ρ == y.val W.ρ) = t from by rw [← e]; exact decide_eq_decide.mpr (by lia)]
 | .str x,.str y=>.ok (sEq x y) fun A V s v u Q E rv ru h=>by
   obtain ⟨_⟩:=rv
   obtain ⟨_⟩:=ru
   rw [eE] at h
   exact eqBool_str h
 | a,b=>bd (nW hG a) fun x hx=>bd (nW hG b) fun y hy=>.ok (x == y) fun A V s v u Q E rv ru h=>by
   rw [hx _ _ rv,hy _ _ ru]
   exact SeqAt.EqAt.bool_bool x y _ _ _ _ h
theorem blt_eq (x y:Bool):decide (b2i x < b2i y) = (!x && y):=by cases x<;>cases y<;>rfl
noncomputable def HF (c:Bool) (a b:AV):Out (HD W c a b):=match a,b with
 | .int x,.int y=>bd (truth hG ⟨true,ba (ba x (smul (-1) y)) (.lit 1),true⟩) fun t e=>.ok t fun A V s v u Q E rv ru h=>by
   obtain ⟨_⟩:=rv
   obtain ⟨_⟩:=ru
   have e:decide ((ba (ba x (smul (-1) y)) (.lit 1)).val W.ρ≤0) = t:=e
   rw [cX,cX,cI] at e
   have e:t = decide (x.val W.ρ < y.val W.ρ):=by rw [← e]; exact decide_eq_decide.mpr (by show _ + 1≤0↔_; lia)
   rw [e] at h
   cases c
   ·exact kat_one _ _ (wpAny_lt_int h)
   ·exact oneLt_int h
 | .str x,.str y=>au c 141 fun hc=>.ok (decide (x.cps.toList < y.cps.toList)) fun A V s v u Q E rv ru h=>by
   obtain ⟨_⟩:=rv
   obtain ⟨_⟩:=ru
   subst hc
   exact oneLt_str h
 | a,b=>aG c (fun _=>.no 142) fun hc=>bd (nW hG a) fun x hx=>bd (nW hG b) fun y hy=>.ok (!x && y) fun A V s v u Q E rv ru h=>by
   rw [hx _ _ rv,hy _ _ ru,hc]
   exact kat_one _ _ (lt_bool (by rw [blt_eq]; exact h))
noncomputable def HG (W:ab) (i:Nat) (as bs:List AV) (d:Bool):Prop:=∀ A V s vs ws fin (Q:Bool→Shared→Prop),ai W V vs as→ai W V ws bs→fin = decide (vs.length < ws.length)→Q d s→KatLex pg W.w A true fin Q (vs.zip ws) i s
noncomputable def yQ:(i:Nat)→(as bs:List AV)→Out (HG W i as bs)
 | i,[],[]=>.ok false fun A V s vs ws fin Q ra rb hf h=>by
   obtain rfl:=ra
   obtain rfl:=rb
   show Q fin s
   rw [hf]; exact h
 | i,a::as,b::bs=>bd (HE hG a b) fun q hq=>aG q (fun e=>bd (yQ (i + 1) as bs) fun d hd=>.ok d fun A V s vs ws fin Q ra rb hf h=>by
   obtain ⟨ra,rl⟩:=ra
   obtain ⟨rb,rl'⟩:=rb
   rw [List.zip_cons_cons]
   refine kat_cons (hq _ _ _ _ _ _ _ ra rb ?_)
   rw [e]
   exact kat_yes (hd _ _ _ _ _ _ _ rl rl' (by rw [hf]; simp) h)) fun e=>bd (HF hG (Nat.beq i 0) a b) fun d hd=>.ok d fun A V s vs ws fin Q ra rb hf h=>by
   obtain ⟨ra,rl⟩:=ra
   obtain ⟨rb,rl'⟩:=rb
   rw [List.zip_cons_cons]
   refine kat_cons (hq _ _ _ _ _ _ _ ra rb ?_)
   rw [e]
   refine kat_no ?_
   have e0:(i == 0) = Nat.beq i 0:=by cases i<;>rfl
   rw [Bool.true_and,e0]
   exact hd _ _ _ _ _ _ _ ra rb h
 | _,_,_=>.no 143
noncomputable def HH (W:ab) (a b:AV) (d:Bool):Prop:=∀ A U ad s v u (Q:Bool→Shared→Prop) (E:Value→Shared→Prop),Rel W ⟨aF U s.heap,ad⟩ v a→Rel W ⟨aF U s.heap,ad⟩ u b→Q d s→ay W A (keyLt' (tuples' true) v u) Q E s
noncomputable def HI (a b:AV):Out (HH W a b):=match a,b with
 | .tup x,.tup y=>bd (yQ hG 0 x y) fun d hd=>.ok d fun A U ad s v u Q E rv ru h=>by
   obtain ⟨hv,rl⟩:=rv
   obtain ⟨hu,rl'⟩:=ru
   exact kat_lt hv.1 rfl hu.1 rfl (by simpa using hd _ _ _ _ _ _ _ rl rl' (by simp) h)
 | _,_=>.no 144
noncomputable def HJ (W:ab) {α:Type} (ks:List AV) (T:KasT α) (r:α):Prop:=∀ A U ad s ws (Q:α→Shared→Prop),ai W ⟨aF U s.heap,ad⟩ ws ks→Q r s→T.kasWp (kas_ask pg W.w A (tuples' true) ws) Q s
noncomputable def yR {α:Type} (ks:List AV):(T:KasT α)→Out (HJ W ks T)
 | .ret a=>.ok a fun A U ad s ws Q rk h=>h
 | .ask i j k=>bH ks[i]? 145 fun a ha=>bH ks[j]? 146 fun b hb=>bd (HI hG a b) fun d hd=>bd (yR ks (k d)) fun r hr=>.ok r fun A U ad s ws Q rk h=>by
   refine af fun nG=>?_
   obtain ⟨v,hv,ra⟩:=rk.get ha
   obtain ⟨u,hu,rb⟩:=rk.get hb
   refine nG ?_
   show kas_ask pg W.w A (tuples' true) ws i j (fun b s'=>(k b).kasWp (kas_ask pg W.w A (tuples' true) ws) Q s') s
   unfold kas_ask
   have gv:ws.getD i Value.none = v:=by rw [List.getD_eq_getElem?_getD,hv]; rfl
   have gu:ws.getD j Value.none = u:=by rw [List.getD_eq_getElem?_getD,hu]; rfl
   rw [gv,gu]
   exact hd _ _ _ _ _ _ _ _ ra rb (hr _ _ _ _ _ _ rk h)
inductive nY (W:ab) (V:Vw) (t:String) (v:Value):Prop
 | mk {ax vs n f} (e:v = .ref ax) (ho:V.g ax (jU vs n)) (hf:vs[0]? = some f) (hl:∀ h,Looks (model pg W.w) h (typeOf f) (.type t))
noncomputable def yS (a:AV):Option { t:String // (Value.type t != Value.type "tuple") = true∧∀ V v,Rel W V v a→nY W V t v }:=match a with
 | .tup (.int _::_)=>some ⟨"int",rfl,fun V v r=>by obtain ⟨ho,rf,_⟩:=r; obtain ⟨_⟩:=rf; exact .mk rfl ho rfl fun h=>Looks.of_pure rfl⟩
 | .tup (.str _::_)=>some ⟨"str",rfl,fun V v r=>by obtain ⟨ho,rf,_⟩:=r; obtain ⟨_⟩:=rf; exact .mk rfl ho rfl fun h=>Looks.of_pure rfl⟩
 | _=>none
noncomputable def yT (t:String):(l:List AV)→Option (PLift (∀ V vs,ai W V vs l→∀ v∈vs,nY W V t v))
 | []=>some ⟨fun V vs r v m=>by obtain rfl:=r; cases m⟩
 | a::l=>(match yS (W:=W) a,yT t l with
  | some ⟨u,h⟩,some ⟨q⟩=>aG (u == t) (fun e=>some ⟨fun V vs r v m=>by
    obtain ⟨ra,rl⟩:=r
    rcases List.mem_cons.mp m with rfl | m
    ·exact beq_iff_eq.mp e▸h.2 _ _ ra
    ·exact q _ _ rl v m⟩) fun _=>none
  | _,_=>none)
set_option tactic.hygienic true in
theorem HL {A:Around} {U:AS} {ad:List Addr} {t:String} (ht:(Value.type t != Value.type "tuple") = true) {ws:List Value} {s:Shared} {E:Value→Shared→Prop} (rk:∀ v∈ws,nY W ⟨aF U s.heap,ad⟩ t v) (hne:0 < ws.length) {Q:SortKind→Shared→Prop} (h:Q (tuples' true) s):ay W A (keyKind' ws.toArray) Q E s:=by
 refine af fun nG=>?_
 have key:∀ {ws:List Value},(∀ v∈ws,nY W ⟨aF U s.heap,ad⟩ t v)→∃ fs,fs.length = ws.length∧KatTups s.heap ws fs∧∀ v∈fs,Looks (model pg W.w) s.heap (typeOf v) (.type t):=by
  intro ws
  induction ws with
  | nil=>exact fun _=>⟨[],rfl,KatTups.nil,fun _ m=>(List.not_mem_nil m).elim⟩
  | cons v ws ih=>
   intro hk
   obtain ⟨fs,h1,h2,h3⟩:=ih fun v m=>hk v (.tail _ m)
   obtain ⟨e,ho,hf,hl⟩:=hk v (.head _)
   rename_i ax vs n f
   subst e
   refine ⟨f::fs,congrArg (· + 1) h1,KatTups.cons ho.1 rfl rfl (by simpa using hf) h2,fun v m=>?_⟩
   rcases List.mem_cons.mp m with rfl | m
   ·exact hl _
   ·exact h3 v m
 obtain ⟨fs,h1,h2,h3⟩:=key rk
 refine nG ?_
 exact kat_kind h2 (by rw [h1]; exact hne) h3 (by simp) (by rw [ht]; exact h)
noncomputable def yU (as:List AV):(p:List Nat)→Option { l:List AV //∀ {W:ab} {V vs},ai W V vs as→ai W V (p.map fun i=>vs.getD i Value.none) l }
 | []=>some ⟨[],fun _=>rfl⟩
 | i::p=>di as[i]? (fun a ha=>match yU as p with
  | some ⟨r,hr⟩=>some ⟨a::r,fun {W V vs} rl=>by
   refine af fun nG=>?_
   obtain ⟨v,hv,rv⟩:=rl.get ha
   refine nG ?_
   refine .mk ?_ (hr rl)
   show Rel W V (vs.getD i Value.none) a
   rw [List.getD_eq_getElem?_getD,hv]; exact rv⟩
  | none=>none) fun _=>none
noncomputable def HM (W:ab) (l:List AV):Option { t:String // (Value.type t != Value.type "tuple") = true }:=match l with
 | k::_=>(match yS (W:=W) k with
  | some ⟨t,h⟩=>some ⟨t,h.1⟩
  | none=>none)
 | []=>none
structure rI (W:ab) (ks as l:List AV):Prop where
 n:as.length < 64
 run:∀ {vs},(∃ V,ai W V vs as)→∃ out,out.length < 64∧(∀ V,ai W V vs as→ai W V out l)∧∀ A U ad s ksv,ai W ⟨aF U s.heap,ad⟩ ksv ks→SortRun W A ksv vs out s
noncomputable def yV (ks as:List AV):Out (rI W ks as):=aG (Nat.blt as.length 2) (fun h2=>.ok as ⟨by have:=Nat.blt_eq.mp h2; lia,fun {vs} ⟨V,rl⟩=>⟨vs,by have:=Nat.blt_eq.mp h2; rw [rl.length]; lia,fun V r=>r,fun A U ad s ksv rk=>.inl ⟨by rw [rl.length]; exact Nat.blt_eq.mp h2,rfl⟩⟩⟩) fun h2=>au (Nat.blt as.length 64) 147 fun h64=>au (Nat.beq ks.length as.length) 147 fun hl=>(match HM W ks with
 | none=>.no 148
 | some ⟨t,ht⟩=>(match yT (W:=W) t ks with
  | none=>.no 149
  | some ⟨hk⟩=>bd (yR hG ks (kas_sort as.length)) fun p hp=>(match yU as p.toList with
   | none=>.no 150
   | some ⟨l,hpk⟩=>au (Nat.blt l.length 64) 151 fun hz=>.ok l ⟨Nat.blt_eq.mp h64,fun {vs} ⟨V,rl⟩=>⟨p.toList.map fun i=>vs.getD i Value.none,by rw [(hpk rl).length]; exact Nat.blt_eq.mp hz,fun V r=>hpk r,fun A U ad s ksv rk=>.inr ⟨by
     have:¬as.length < 2:=fun z=>by rw [Nat.blt_eq.mpr z] at h2; exact fq h2
     rw [rl.length]; lia,by rw [rl.length]; exact Nat.blt_eq.mp h64,tuples' true,p,rfl,fun Q E hq=>HL ht (hk _ _ rk) (by
     have:¬as.length < 2:=fun z=>by rw [Nat.blt_eq.mpr z] at h2; exact fq h2
     rw [rk.length,Nat.eq_of_beq_eq_true hl]; lia) hq,fun Q hq=>by rw [rl.length]; exact hp _ _ _ _ _ _ rk hq⟩⟩⟩)))
end
section
theorem HN {a b:Int} {t u:Tok} {c:Value} {l:List Value} (h:TriplesOk l):TriplesOk (l ++ [.int a t,.int b u,c]):=by
 fun_induction TriplesOk l with
 | case1=>trivial
 | case2 _ _ _ _ _ _ ih=>exact ih h
 | case3=>exact h.elim
theorem HO {pos:Pos} {a b:Int} {t u:Tok} {c cv:Value} {l:List Value} (h:TriplesOk l) (e:codeAmong pos (l ++ [.int a t,.int b u,c]) = some cv):codeAmong pos l = some cv∨cv = c:=by
 fun_induction TriplesOk l with
 | case1=>
  simp only [List.nil_append,codeAmong] at e
  split at e
  ·exact .inr (Option.some.inj e).symm
  ·exact ar e
 | case2 _ _ _ _ _ _ ih=>
  simp only [List.cons_append,codeAmong] at e ⊢
  split at e
  ·rename_i q; rw [if_pos q]; exact .inl e
  ·rename_i q; rw [if_neg q]; exact ih h e
 | case3=>exact h.elim
theorem yW (P:Params):codeHdIn (aR P) 726 722 = true∧codeHdIn (aR P) 1000 998 = true:=⟨by kernel_rfl,by kernel_rfl⟩
theorem HP (P:Params):((aP (br P) 4).map fun o=>(o.cls,o.dict,match o.data with | .plain=>true | _=>false)) = some (.type "module",some builtinsNs,true):=by kernel_rfl
structure HQ (W:ab) (h:Heap) (env:Env) (c P:Addr) (ql:Str):Prop where
 hd:CodeHd h c P
 tb:(P,ql)∈fy
 code:env.code = .ref c
 qual:env.qual ++ "<lambda>" = ql
 ne:P≠mainGlobals
 blt:h.BuiltinsAt ((KH W.w.params).nsMap mainGlobals) P
variable {W:ab}
theorem HR {h:Heap} (G:GG W h) {env:Env} (K:eY env) {c P:Addr} {q ql:Str} (hl:de env.scope = some (c,P,q,ql)):HQ W h env c P ql:=by
 obtain ⟨k1,k2⟩:=K.lam _ _ _ _ hl
 obtain ⟨o4,e4,c4,d4,p4⟩:∃ o,h.get? 4 = some o∧o.cls = .type "module"∧o.dict = some builtinsNs∧o.data = .plain:=by
  obtain ⟨o,ho,hv⟩:=Option.map_eq_some_iff.mp (HP W.w.params)
  obtain ⟨h1,hv⟩:=Prod.mk.inj hv
  obtain ⟨h2,h3⟩:=Prod.mk.inj hv
  refine ⟨o,G.at ho ⟨by decide,by decide⟩,h1,h2,?_⟩
  split at h3
  ·assumption
  ·exact aS h3
 have b:∀ P,4≠P→h.BuiltinsAt ((KH W.w.params).nsMap mainGlobals) P:=fun P n=>⟨4,o4,wH _,by decide,by decide,n,e4,c4,d4,p4⟩
 unfold de at hl
 split at hl
 ·cases hl; exact ⟨codeHd_of_K G.K (yW _).1,.head _,k1,by rw [k2]; decide +kernel,by decide,b _ (by decide)⟩
 ·split at hl
  ·cases hl; exact ⟨codeHd_of_K G.K (yW _).2,.tail _ (.head _),k1,by rw [k2]; decide +kernel,by decide,b _ (by decide)⟩
  ·exact ar hl
noncomputable def kK {α:Type}:List α→Bool
 | []=>true
 | _=>false
theorem nZ {α:Type}:∀ {l:List α},kK l = true→l = []
 | [],_=>rfl
noncomputable def rJ {α:Type}:Option α→Bool
 | none=>true
 | _=>false
theorem yX {α:Type}:∀ {l:Option α},rJ l = true→l = none
 | none,_=>rfl
noncomputable def rK:Str:=⟨#[115,104,97,112,101]⟩
noncomputable def rL:Str:=⟨#[114,111,119]⟩
noncomputable def ig (p:Arguments) (sc:Scope):Option Str:=match p.args with
 | [a]=>cond (aH (aH (kK p.posonlyargs) (rJ p.vararg)) (aH (aH (kK p.kwonlyargs) (kK p.kw_defaults)) (aH (aH (rJ p.kwarg) (kK p.defaults)) (aH (cZ sc a.arg .local) (sEq a.arg rK || sEq a.arg rL))))) (some a.arg) none
 | _=>none
noncomputable def ja (sc:Scope):Bool:=aH (aH (sc.kind == .function) (q7 sc)) (aH (de sc).isNone (aH (aH (!sc.isCoroutine) (!sc.isGenerator)) (sc.names.all fun p=>!(p.2 == .cell) && !(p.2 == .free))))
structure n5 (h:Heap) (f:Addr) (params:Arguments) (body:Expr) (sc:Scope):Prop where
 ex:∃ ql c' pm ctv,h.get? f = some (kla_obj "<lambda>" ql params body sc [] pm c' ctv)∧h.CodeRec (.ref c') ql∧∃ co,h.get? c' = some co∧soft co = false
theorem HS {P:Addr} {q q':Str} (m:(P,q)∈fy) (m':(P,q')∈fy):q' = q:=by
 simp only [fy,List.mem_cons,List.not_mem_nil,or_false,Prod.mk.injEq] at m m'
 rcases m with ⟨a,b⟩ | ⟨a,b⟩<;>rcases m' with ⟨a',b'⟩ | ⟨a',b'⟩
 ·rw [b,b']
 ·rw [a] at a'; cases a'
 ·rw [a] at a'; cases a'
 ·rw [b,b']
theorem n6 {sc:Scope} {x:Str} {k:NameKind} (h:cZ sc x k = true):sc.names.lookup x = some k:=by
 unfold cZ at h
 rw [← cU]
 split at h
 ·rename_i q; rw [q,beq_iff_eq.mp h]
 ·exact aS h
theorem HT {fd:FuncData} {x:Str} {an:Option Expr} {p:Pos} {v:Value} (hx:x = rK∨x = rL) (hp:fd.params = ⟨[],[⟨x,an,p⟩],none,[],[],none,[]⟩) (hd:fd.defaults = .none) (hk:fd.kwdefaults = .none):bindArgs fd ⟨[v],[]⟩ = pure [(x,v)]:=by
 obtain ⟨nm,ql,pr,bd,sc,gl,cl,df,kw,pm,tp⟩:=fd
 dsimp only at hp hd hk
 subst hp hd hk
 rcases hx with rfl | rfl<;>kernel_rfl
theorem yY {p:Arguments} {sc:Scope} {x:Str} (h:ig p sc = some x):(∃ an q,p = ⟨[],[⟨x,an,q⟩],none,[],[],none,[]⟩)∧cZ sc x .local = true∧(x = rK∨x = rL):=by
 obtain ⟨po,as,va,ko,kd,kw,df⟩:=p
 cases as with
 | nil=>exact ar h
 | cons a l=>
  cases l with
  | cons=>exact ar h
  | nil=>
   obtain ⟨nm,an,pp⟩:=a
   rcases eO (show cond _ (some nm) none = some x from h) with ⟨q,h2⟩ | ⟨-,h2⟩
   ·refine af fun nG=>?_
    obtain ⟨q1,q2⟩:=aC q
    obtain ⟨q2,q3⟩:=aC q2
    obtain ⟨q3,q4⟩:=aC q3
    obtain ⟨a1,a2⟩:=aC q1
    obtain ⟨a3,a4⟩:=aC q2
    obtain ⟨a5,a6⟩:=aC q3
    obtain ⟨a7,a8⟩:=aC q4
    obtain rfl:=Option.some.inj h2
    refine nG ?_
    exact ⟨⟨an,pp,by rw [show po = [] from nZ a1,show va = none from yX a2,show ko = [] from nZ a3,show kd = [] from nZ a4,show kw = none from yX a5,show df = [] from nZ a6]⟩,a7,(Bool.or_eq_true_iff.mp a8).imp sEq_iff.mp sEq_iff.mp⟩
   ·exact ar h2
theorem HU {A:Around} {s:Shared} {E:Value→Shared→Prop} {env:Env} (K:eY env) {c P:Addr} {q ql:Str} (hl:de env.scope = some (c,P,q,ql)) {params:Arguments} {body:Expr} {sc:Scope} {pos:Pos} {x:Str} {Q:Value→Shared→Prop} (hp:ig params sc = some x) (hs:ja sc = true) (G:GG W s.heap)
  (hQ:∀ f h' tk,ag s.heap h'→n5 h' f params body sc→Q (.ref f) (mv s h' tk)):ay W A (eval (.Lambda params body sc pos) env) Q E s:=by
 refine af fun nG=>?_
 obtain ⟨hd,hm,hc,hq,hPm,hb⟩:=HR G K hl
 obtain ⟨ps,hP,ht,hcodes⟩:=G.tabs hm
 refine nG ?_
 have hfree:=(aC (aC (aC hs).2).2).2
 have hdef:defaultsOf params env = ([],[]):=by
  obtain ⟨⟨_,_,rfl⟩,-⟩:=yY hp
  rfl
 have nofree:∀ y,(y,NameKind.free)∉sc.names:=fun y m=>by
  have:=List.all_eq_true.mp hfree _ m
  exact aS this
 have hcl:closureFor sc env = pure []:=by
  obtain ⟨cl,C⟩:=rC (scope:=sc) (env:=env) fun y m=>absurd m (nofree y)
  cases cl with
  | nil=>exact C.run
  | cons p r=>
   obtain ⟨y,c1⟩:=p
   exact absurd (C.sub y c1 (by rw [List.lookup_cons,beq_self_eq_true])).2 (nofree y)
 refine kla_eval hdef ?_
 rw [hq]
 cases hf:codeAmong pos ps.toList with
 | some cv=>
  refine af fun nG=>?_
  obtain ⟨c',co,vs,t,rfl,e1,e2,e3,e4⟩:=hcodes pos cv hf
  refine nG ?_
  refine kla_makeFunctionHit hcl K.globals G.g hc hd hP ht hf hb fun ctv h' tk hk hsz=>?_
  exact hQ _ _ _ (aw.trans (ag.of hk) (ag.push _ _)) ⟨ql,c',_,ctv,Heap.get?_push_size _ rfl,⟨c',co,vs,t,rfl,Heap.get?_push_of_some _ (hk _ _ e1),e3,e4⟩,co,Heap.get?_push_of_some _ (hk _ _ e1),by unfold soft; rw [e2]; rfl⟩
 | none=>
  rw [makeFunction_eq]
  simp only [List.zip_nil_right,List.filterMap_nil,List.isEmpty_nil,if_true,pure_bind]
  refine af fun nG=>?_
  obtain ⟨bm,ob,hbm,hne0,_,hneP,hbo,hcls,hdict,hdata⟩:=hb
  refine nG ?_
  unfold makeTail
  rw [hcl,K.globals]
  refine wpAny_bind (wpAny_pure ?_)
  simp only [List.isEmpty_nil,if_true]
  refine wpAny_bind (wpAny_pure ?_)
  refine wpAny_bind (wpAny_functionCodeX hc (hd.code hP ht) (hd.tab hP) hf fun c' h' tk hx hge hlt _ hrec htb ⟨P',_,_,htb'⟩=>?_)
  have hg':=G.g.extBut hx (Ne.symm hPm)
  refine wpAny_bind (wpAny_builtinsFor hg' hbm hne0 (hx _ _ hneP hbo) hcls hdict hdata ?_)
  refine wpAny_bind (wpAny_nsGet hg' ?_)
  refine af fun nG=>?_
  obtain ⟨co,vs,t,f1,f2,f3,f4⟩:∃ co vs t,h'.get? c' = some co∧co.cls = .type "code"∧co.data = .fields vs∧vs[1]? = some (.str ql t):=by
   obtain ⟨c2,o,vs,t,e0,e1,e2,e3⟩:=hrec
   cases e0
   obtain ⟨⟨o',vs',f1,f2,f3,_⟩,_⟩:=htb'
   rw [e1] at f1; cases f1
   exact ⟨o,vs,t,e1,f2,e2,e3⟩
  refine nG ?_
  have kk:ag s.heap h':=by
   refine ⟨fun b o _ e=>?_,fun P2 q2 m2 t2=>?_⟩
   ·by_cases z:b = P
    ·subst z
     rw [hP] at e; cases e
     exact ⟨_,htb.2,.grow (List.mem_map.mpr ⟨_,hm,rfl⟩) rfl rfl⟩
    ·exact ⟨o,hx b o z e,.refl o⟩
   ·obtain ⟨ps2,e2,ht2,hc2⟩:=t2
    have old:∀ pos cv,codeAmong pos ps2.toList = some cv→TabAt h' q2 cv:=fun pos cv e=>by
     obtain ⟨c1,co,vs,t,a1,a2,a3,a4,a5⟩:=hc2 pos cv e
     exact ⟨c1,co,vs,t,a1,hx _ _ (fun z=>by rw [z,hP] at a2; cases a2; cases a3) a2,a3,a4,a5⟩
    by_cases z:P2 = P
    ·subst z
     rw [hP] at e2; cases e2
     obtain rfl:=HS hm m2
     refine ⟨_,htb.2,?_,fun pos' cv e=>?_⟩
     ·rw [Array.toList_append]; exact HN ht
     ·rw [Array.toList_append] at e
      rcases HO ht e with e | e
      ·exact old pos' cv e
      ·exact ⟨c',co,vs,t,e,f1,f2,f3,f4⟩
    ·exact ⟨ps2,hx _ _ z e2,ht2,old⟩
  refine wpAny_bind (wpAny_pure (wpAny_newObj_type ?_ (by size_fits)))
  exact hQ _ _ _ (kk.trans (ag.push _ _)) ⟨ql,c',_,.none,Heap.get?_push_size _ rfl,⟨c',co,vs,t,rfl,Heap.get?_push_of_some _ f1,f3,f4⟩,co,Heap.get?_push_of_some _ f1,by unfold soft; rw [f2]; rfl⟩
variable {d:Nat}
theorem HV {A:Around} (a:dh (d + 1) A) {hb:Heap} {f:Addr} {params:Arguments} {body:Expr} {sc:Scope} {x:Str} (hp:ig params sc = some x) (hs:ja sc = true) (F:n5 hb f params body sc) {av r:AV} {own1:Own} (na:nl av = true) (nr:nl r = true)
  (run:∀ c:aj W d ⟨sc,false⟩,ak c [(x,av)] [] (eval body c.env) r own1):rH W A hb (.ref f) av r:=by
 intro U ad s v Q E K Bs rv G
 refine af fun nG=>?_
 obtain ⟨⟨an,pp,hpar⟩,hx,hxx⟩:=yY hp
 obtain ⟨hs1,hs2⟩:=aC hs
 obtain ⟨hfun,hsc⟩:=aC hs1
 obtain ⟨hlam,hs2⟩:=aC hs2
 obtain ⟨hs2,hfree⟩:=aC hs2
 obtain ⟨hco,hgen⟩:=aC hs2
 obtain ⟨ql,c',pm,ctv,hf,hcr,co,hco1,hco2⟩:=F.ex
 refine nG ?_
 have hcr':s.heap.CodeRec (.ref c') ql:=by
  obtain ⟨c2,o2,vs,t,e0,e1,e2,e3⟩:=hcr
  cases e0
  rw [hco1] at e1; cases e1
  exact ⟨c',_,vs,t,rfl,K.get hco1 hco2,e2,e3⟩
 have hfun:=beq_iff_eq.mp hfun
 have nocell:∀ y k,(y,k)∈sc.names→k≠.cell:=fun y k m q=>by
  have:=List.all_eq_true.mp hfree _ m
  rw [q] at this; exact aS this
 refine wpAny_call (kla_callFunE (by have:=a.depth; show A.depth < recursionLimit; unfold recursionLimit; lia) (K.get hf rfl) rfl ((Bool.not_eq_true' _).mp hco) ((Bool.not_eq_true' _).mp hgen) rfl hcr' ?_)
 rw [HT hxx hpar rfl rfl]
 refine wpAny_pure ?_
 have hloc:sc.names.lookup x = some .local:=n6 hx
 refine wpAny_newFunctionEnv (fun y hy q=>nocell y.1 y.2 hy q) (fun y hy=>by rw [List.mem_singleton.mp hy]; exact hloc) (fun h1 hns hsb=>⟨Bs.G.nolimit.fresh _ hsb,?_⟩) hfun
 generalize henv:newEnv sc s.heap.objs.size mainGlobals [] (ql ++ ".<locals>.") (some f) (.ref c') none builtinsNs = env at *
 have esc:env.scope = sc:=by rw [← henv]; rfl
 have eloc:env.locals = s.heap.objs.size:=by rw [← henv]; rfl
 have ecel:env.cells = []:=by rw [← henv]; rfl
 have Kv:eY env:=⟨by rw [esc]; exact hfun,by rw [← henv]; rfl,by rw [← henv]; rfl,fun y q=>xY hsc (by rw [← esc]; exact q),fun c P q q' z=>by rw [esc,Option.isNone_iff_eq_none.mp hlam] at z; exact ar z⟩
 have old:ag s.heap h1:=.of fun b o e=>hsb.extBut b o (Nat.ne_of_lt (Heap.lt_size e)) (Heap.get?_push_of_some _ e)
 have hnew:=da s.heap
 refine kla_codeExpr ?_
 let c:aj W d ⟨sc,false⟩:={ A:=A.deeper env,env:=env,h₀:=s.heap,X:=U,B:=(· = env.locals),ad:=[],a:=⟨a.handled,(by have:=a.depth; show A.depth + 1 + d≤900; lia),(by have:=a.units; show A.units + 3 + 3 * d≤9000; lia)⟩,K:=Kv,es:=esc,G:=Bs.G,out:=Bs.low,base:=rfl,cls:=(fun y z e=>by rw [ecel] at e; cases e),cel:=(fun z=>(nomatch z)),top:=fun z=>(nomatch z) }
 have nB:s.heap.get? env.locals = none:=by rw [eloc]; exact hnew
 have nsl:h1.Ns env.locals (fun y=>[(x,v)].reverse.lookup y):=by rw [eloc]; exact hns
 have S:SV c [(x,av)] ⟨[],[],h1⟩:=⟨fun _ _ e=>e,old,.none,fun u z=>(cN z).elim,fun u q=>⟨q▸nB,by rw [q]; exact .ns nsl⟩,⟨_,nsl⟩,(fun y z e=>by rw [ecel] at e; exact ar e),fun y b e=>by
  rw [dc] at e
  split at e
  ·rename_i q; subst q; cases e
   exact .loc (by show env.scope.names.lookup _ = _; rw [esc]; exact hloc) nsl (by show List.lookup _ [(_,v)] = _; rw [List.lookup_cons,beq_self_eq_true]) (dS (old.sub fun b o e n=>⟨id,fun q=>q.elim (fun q=>q.elim n (eV e nB)) cN⟩) na rv)
  ·exact ar e⟩
 exact run c (mv s h1 (s.toks + 1)) [] _ _ S fun w h2 tk ad' k rw=>G w h2 tk (old.trans ((ag.of fun b o e=>a9.mpr ⟨e,cN⟩).trans k.keep)) (dS (d7 fun u q=>.inl (.inl q)) nr rw)
end
section
variable {W:ab} {d:Nat} {sc:Fs} {σ:aq} {own own1:Own} {c:aj W d sc}
noncomputable def rM (W:ab) (d:Nat) (lsc:Scope) (y:Str) (body:Expr) (a r:AV):Prop:=∀ A hb f params,dh d A→ig params lsc = some y→ja lsc = true→n5 hb f params body lsc→rH W A.in1.in1 hb (.ref f) a r
noncomputable def yZ (W:ab) (d:Nat) (lsc:Scope) (y:Str) (body:Expr) (as rs:List AV):Prop:=∀ A hb f params,dh d A→ig params lsc = some y→ja lsc = true→n5 hb f params body lsc→fQ W A.in1.in1 hb (.ref f) as rs
noncomputable def y0 {lsc:Scope} {y:Str} {body:Expr} (k:(a:AV)→Out (rM W d lsc y body a)):(as:List AV)→Out (yZ W d lsc y body as)
 | []=>.ok [] fun A hb f params a hp hs F=>.nil
 | a::as=>bd (k a) fun r hr=>bd (y0 k as) fun rs hrs=>.ok (r::rs) fun A hb f params a hp hs F=>.cons (hr A hb f params a hp hs F) (hrs A hb f params a hp hs F)
noncomputable def rN:Str:=⟨#[107,101,121]⟩
theorem HW:rN = Str.ofString "key":=by decide +kernel
theorem rO:dE 6 = .builtin "sorted":=rfl
set_option tactic.hygienic true in
theorem ak.rP {f:Str} {fp kp pos lpos:Pos} {x body:Expr} {params:Arguments} {lsc:Scope} {y:Str} {as ks l:List AV} (hx:dj x) (hl:(de sc.sc).isSome = true) (hp:ig params lsc = some y) (hs:ja lsc = true)
  (h1:ak c σ own (eval (.Name f fp) c.env) (.blt 6) own) (h2:ak c σ own (eval x c.env) (.lst as) own1) (hk:yZ W d lsc y body as ks) (hr:rI W ks as l):ak c σ own (eval (.Call (.Name f fp) [x] [⟨some rN,.Lambda params body lsc lpos,kp⟩] pos) c.env) (.lst l) own1:=fun s ad Q E S F=>by
 obtain ⟨⟨cc,P,q,ql⟩,hl⟩:=Option.isSome_iff_exists.mp hl
 rw [← c.es] at hl
 rw [HW]
 show wpAny _ _ ((eval (.Name f fp) c.env) >>= fun fv=>callWith pos fv [] (backTo pos (starEach [x] c.env)) (backToKw pos (keywordEach [⟨some (Str.ofString "key"),.Lambda params body lsc lpos,kp⟩] c.env))) _ _ _
 refine wpAny_bind (h1 s ad _ _ S fun fv g1 t1 a1 k1 r1=>?_)
 obtain rfl:fv = dE 6:=r1
 rw [rO]
 refine callWith_kw ?_ (by rw [hx]; rfl) (by rw [hx]; rfl)
 have S1:=S.after k1
 refine (bU.cons hx h2 bU.nil:bU c σ own (spliced (backTo pos (starEach [x] c.env))) [.lst as] own1) (mv s g1 t1) a1 _ _ S1 fun vs g2 t2 a2 k2 r2=>?_
 obtain ⟨rv,rn⟩:=r2
 obtain rfl:=rn
 obtain ⟨ho,rl⟩:=rv
 rename_i la lvs ln
 have S2:=S1.after k2
 refine kws_cons (HU c.K hl hp hs (s:=mv s g2 t2) S2.Gp fun fl g3 t3 k3 lf=>kws_nil ?_)
 have k3:ag g2 g3:=k3
 have B3:Base W (fun u=>c.U u∨ao own1 a2 u) g3:=S2.B.keep k3
 have rl3:=rl.mono (aw.dW (U:=fun u=>c.U u∨ao own1 a2 u) (ad:=a2) k3 fun _ q=>q.elim)
 obtain ⟨out,hzo,keepR,run⟩:=hr.run ⟨_,rl3⟩
 refine HA (W:=W) (ad:=a2) (s:=mv s g3 t3) (vs:=lvs) (out:=out) (as:=as) (ks:=ks) B3 ⟨_,k3.get ho.1 rfl,rfl,ln,rfl⟩ rl3 (hk _ _ _ _ c.a hp hs lf) (by rw [rl.length]; exact hr.n) hzo (fun A' U' h' tk ksv k r=>run A' U' a2 _ ksv r) fun D h' tk n' k hD hD'=>?_
 have k:ag g3 h':=k
 exact F (.ref D) h' tk a2 ((k1.trans k2).trans (k2.owns.grow (k3.trans k))) (.mk (n:=n') ⟨hD',rfl,fun z=>by obtain ⟨o,e⟩:=B3.low D z; rw [show g3.get? D = none from hD] at e; exact ar e⟩ (keepR _ (rl3.mono (aw.dW k fun _ q=>q.elim))))
set_option tactic.hygienic true in
theorem HX {as l:List AV} (hr:rI W as as l):bW W 6 [.lst as] (.lst l):=one W fun A U ad s v Q E hh B rv G=>by
 obtain ⟨ho,rl⟩:=rv
 rename_i la lvs ln
 obtain ⟨out,hzo,keepR,run⟩:=hr.run ⟨_,rl⟩
 rw [rO]
 refine Hw (W:=W) (s:=s) (vs:=lvs) (out:=out) ⟨_,ho.1,rfl,ln,rfl⟩ (by rw [rl.length]; exact hr.n) hzo (fun A' h' tk k=>run A' U ad _ lvs (rl.mono (aw.dW k fun _ q=>q.elim))) fun D h' tk n' k hD hD'=>?_
 exact G (.ref D) h' tk k (.mk (n:=n') ⟨hD',rfl,fun z=>by obtain ⟨o,e⟩:=B.low D z; rw [hD] at e; exact ar e⟩ (keepR _ (rl.mono (aw.dW k fun _ q=>q.elim))))
end
section
variable {W:ab} {G:Facts} (hG:Sat W.ρ G) {U:AS} {own own1 own2:Own} {ad:List Addr} {h:Heap} {n:Nat} {d:Nat}
theorem y3 (P:Params):(aP (br P) sysModules).isSome = true:=by kernel_rfl
theorem aO.mod {p:Pt} (O:aO W U p) {u:Addr} (z:ao p.own p.ad u):(u == sysModules) = false:=beq_eq_false_iff_ne.mpr fun q=>by
 obtain ⟨o,ho⟩:=Option.isSome_iff_exists.mp (y3 W.w.params)
 have:=O.top u z
 rw [q,W.B.fact _ _ ho] at this; exact c9 this
noncomputable def n8:(as:List AV)→Out fun ks:List Int=>∀ V vs,ai W V vs as→bT ks vs
 | []=>.ok [] fun V vs r=>r
 | .int e::l=>bd (e6 hG e) fun i hi=>bd (n8 l) fun ks hk=>.ok (i::ks) fun V vs r=>by
   obtain ⟨h,r⟩:=r
   exact .mk (hi▸h) (hk _ _ r)
 | _::_=>.no 160
theorem y4:∀ {ks:List Int} {vs:List Value},bT ks vs→ItemsAre (intKind pg W.w) ks vs
 | [],_,r=>by obtain rfl:=r; exact .nil
 | _::_,_,.mk h r=>.cons (by obtain ⟨t⟩:=h; exact intKind_is _ _ _ _) (y4 r)
theorem jY.key {V:Vw} {ks:List Int} {a:Addr} (k:jY V ks a) (sub:∀ a o,V.g a o→h.get? a = some o):(tK W).is h ks a:=by
 obtain ⟨hv,r⟩:=k
 exact ⟨_,_,_,sub _ _ hv,rfl,rfl,y4 r⟩
theorem y5:∀ l:List Int,gS l l = true
 | []=>rfl
 | a::l=>by
  show aH (bg a a) (gS l l) = true
  rw [gR,beq_self_eq_true,y5 l]; rfl
noncomputable def fR (ks:List Int):List (List Int×AV)→Option AV
 | []=>none
 | (k,b)::l=>(match gS k ks with
  | true=>some b
  | false=>fR ks l)
structure HY (W:ab) (V:Vw) (p:Option (Addr×Value)) (q:Option AV):Prop where
 s:p.isSome = q.isSome
 v:∀ b,q = some b→∃ x,p = some x∧Rel W V x.2 b
theorem cy.look {V:Vw} {ks:List Int} {xs:List (List Int×Addr×Value)} {l:List (List Int×AV)} (r:cy W V xs l):HY W V (atKey xs ks) (fR ks l):=by
 induction r with
 | nil=>exact ⟨rfl,(fun _ e=>by exact ar e)⟩
 | @cons k a v b xs l _ hv _ ih=>
  unfold atKey fR
  rw [List.find?_cons]
  by_cases z:k = ks
  ·subst z
   rw [show decide (k = k) = true from decide_eq_true rfl,y5]
   exact ⟨rfl,fun _ e=>⟨_,rfl,Option.some.inj e▸hv⟩⟩
  ·rw [show decide (k = ks) = false from decide_eq_false z]
   cases e:gS k ks with
   | true=>exact absurd (pT e) z
   | false=>exact ih
theorem cy.keys {V:Vw} (sub:∀ a o,V.g a o→h.get? a = some o) {xs:List (List Int×Addr×Value)} {l:List (List Int×AV)} (r:cy W V xs l):∀ x∈xs,(tK W).is h x.1 x.2.1:=by
 induction r with
 | nil=>exact gd
 | cons k _ _ ih=>
  intro x m
  rcases List.mem_cons.mp m with rfl | m
  ·exact k.key sub
  ·exact ih x m
theorem cy.length {V:Vw} {xs:List (List Int×Addr×Value)} {l:List (List Int×AV)} (r:cy W V xs l):xs.length = l.length:=by induction r with | nil=>rfl | cons _ _ _ ih=>exact congrArg (· + 1) ih
theorem cy.snoc {V:Vw} {ks:List Int} {a:Addr} {v:Value} {b:AV} (k:jY V ks a) (hv:Rel W V v b) {xs:List (List Int×Addr×Value)} {l:List (List Int×AV)} (r:cy W V xs l):cy W V (xs ++ [(ks,a,v)]) (l ++ [(ks,b)]):=by induction r with | nil=>exact .cons k hv .nil | cons k' h' _ ih=>exact .cons k' h' ih
inductive DT (own:Own) (n:Nat):List (List Int×AV)→Prop
 | t {l} (h:own[n]? = some (.dicT l)):DT own n l
 | e (h:own[n]? = some (.dicS [])):DT own n []
structure HZ (W:ab) (U:AS) (p:Pt) (n:Nat) (a:Addr) (l:List (List Int×AV)):Prop where
 z:∃ pv,At p.own p.ad n pv a
 d:∃ xs,p.h.DictOfH (tK W) a xs∧cy W (vw U p) xs l
theorem DT.at {l:List (List Int×AV)} (D:DT own n l) (O:aO W U ⟨own,ad,h⟩) {a:Addr} (e:ad[n]? = some a):HZ W U ⟨own,ad,h⟩ n a l:=by
 cases D with
 | t hn=>
  refine af fun nG=>?_
  have z:At own ad n (.dicT l) a:=⟨hn,rfl,e⟩
  obtain ⟨_,o,ho,x,xs,es,ep,d,e,nd,r⟩:=O.obj _ _ _ z
  refine nG ?_
  exact ⟨⟨_,z⟩,xs,⟨o,es,ep,ho,x,d,e,cy.keys (V:=vw U ⟨own,ad,h⟩) (fun _ _ z=>z.1) r,nd⟩,r⟩
 | e hn=>
  refine af fun nG=>?_
  have z:At own ad n (.dicS []) a:=⟨hn,rfl,e⟩
  obtain ⟨_,o,ho,ns,kvs,⟨es,ep,x,d,_,ps,nd⟩,r⟩:=O.obj _ _ _ z
  obtain rfl:kvs = []:=r
  refine nG ?_
  refine ⟨⟨_,z⟩,[],⟨o,es,ep,ho,x,d,?_,nofun,.nil⟩,.nil⟩
  generalize es.toList = l at ps
  cases ps; rfl
theorem n9 {A:Around} (hu:A.units≤9000):(tK W).room A.in1:=tupleKind_room_in1 (by unfold cLine; lia)
theorem rQ {V:Vw} {as:List AV} {ks:List Int} (hk:∀ V vs,ai W V vs as→bT ks vs) {v:Value} (r:Rel W V v (.tup as)):∃ a,v = .ref a∧jY V ks a:=by
 obtain ⟨hv,rl⟩:=r
 exact ⟨_,rfl,hv,hk _ _ rl⟩
theorem H0 (nt:Bool) {as:List AV} {ks:List Int} {l:List (List Int×AV)} (D:DT own n l) (hk:∀ V vs,ai W V vs as→bT ks vs):eZ W own (mT nt) (.tup as) (.loc n) (.bool (nt ^^ (fR ks l).isSome)):=fun A U ad s v u Q E hu B O rv ru F=>by
 obtain ⟨a,rfl,ka⟩:=rQ hk rv
 obtain ⟨e⟩:=ru
 obtain ⟨⟨pv,z⟩,xs,hm,r⟩:=D.at O e
 have hd:=O.mod ⟨n,pv,z⟩
 have key:(tK W).is s.heap ks a:=ka.key fun _ _ z=>z.1
 have q:=(r.look (ks:=ks)).s
 cases nt
 ·exact wpAny_in_heap (n9 hu) key hd hm (by rw [q]; exact F.here O (congrArg _ (Bool.false_xor _).symm))
 ·exact wpAny_notIn_heap (n9 hu) key hd hm (by rw [q]; exact F.here O (congrArg _ (Bool.true_xor _).symm))
theorem H4 {as:List AV} {ks:List Int} {l:List (List Int×AV)} {b:AV} (D:DT own n l) (hk:∀ V vs,ai W V vs as→bT ks vs) (hb:fR ks l = some b):j5 W own (.loc n) (.tup as) b:=fun A U ad s v u k val Q E hu hs B O rv ru F=>by
 refine af fun nG=>?_
 obtain ⟨a,rfl,ka⟩:=rQ hk ru
 obtain ⟨e⟩:=rv
 obtain ⟨_,xs,hm,r⟩:=D.at O e
 obtain ⟨x,hx,rx⟩:=(r.look (ks:=ks)).v _ hb
 refine nG ?_
 exact tail_any hm.typeIs slot_dict_getitem.lookup (wpAny_getItem_heap (n9 hu) (ka.key fun _ _ z=>z.1) hm hx (F.here O rx)) (hs _ _)
theorem H5 {as:List AV} {ks:List Int} {l:List (List Int×AV)} {a:AV} (D:DT own n l) (hk:∀ V vs,ai W V vs as→bT ks vs) (hn:(fR ks l).isNone = true) (hz:Nat.ble l.length 10000 = true):kJ W own n (.tup as) a (own.set n (.dicT (l ++ [(ks,a)]))):=fun A U ad s r u v Q E hu B O hr ru rv F=>by
 refine af fun nG=>?_
 obtain ⟨x,rfl,ka⟩:=rQ hk ru
 obtain ⟨⟨pv,z⟩,xs,hm,rl⟩:=D.at O hr
 refine nG ?_
 have hz:=Nat.le_of_ble_eq_true hz
 have q:atKey xs ks = none:=Option.isNone_iff_eq_none.mp (by rw [← Option.not_isSome,(rl.look (ks:=ks)).s,Option.not_isSome]; exact hn)
 refine wpAny_setItem_heap (hsz:=by rw [rl.length,sizeLine_eq]; lia) (n9 hu) (ka.key fun _ _ z=>z.1) hm fun h' hm' sb=>?_
 refine af fun nG=>?_
 rw [storedH_new q] at hm'
 obtain ⟨o,es,ep,ho,hx,hd,he,_,nd⟩:=hm'
 refine nG ?_
 exact F h' _ (O.put z sb (fun e=>by cases e) fun V le _ _=>⟨fun _=>⟨o,ho,hx,_,es,ep,hd,he,nd,(rl.mono le).snoc (by obtain ⟨k1,k2⟩:=ka; exact ⟨le.g _ _ k1,k2⟩) (rv.mono le)⟩,(fun _ e=>by cases e)⟩)
theorem bJ.miss {V:Vw} {k:Str} {l:List (Str×AV)}:∀ {kvs:List (Str×Value)},bJ W V kvs l→lk k l = none→valueAt kvs k = none:=by
 induction l with
 | nil=>exact fun r _=>by obtain rfl:=r; rfl
 | cons p l ih=>
  obtain ⟨j,a⟩:=p
  intro _ r e
  obtain ⟨⟨_⟩,q⟩:=r
  rw [dc] at e
  unfold valueAt
  rw [List.find?_cons]
  by_cases z:j = k
  ·rw [if_pos z.symm] at e; exact c9 e
  ·rw [if_neg (Ne.symm z)] at e
   rw [decide_eq_false z]
   exact ih q e
theorem bJ.has {V:Vw} {k:Str} {l:List (Str×AV)} {kvs:List (Str×Value)} (r:bJ W V kvs l):(valueAt kvs k).isSome = (lk k l).isSome:=by
 cases e:lk k l with
 | none=>rw [r.miss e]; rfl
 | some b=>obtain ⟨y,hy,_⟩:=r.look e; rw [hy]; rfl
theorem H6 (nt:Bool) {y:Str} {l:List (Str×AV)} (hn:own[n]? = some (.dicS l)):eZ W own (mT nt) (.str y) (.loc n) (.bool (nt ^^ (lk y l).isSome)):=fun A U ad s v u Q E hu B O rv ru F=>by
 obtain ⟨_⟩:=rv
 obtain ⟨e⟩:=ru
 obtain ⟨_,o,ho,ns,kvs,dd,r⟩:=O.obj _ _ _ ⟨hn,rfl,e⟩
 have hm:=Heap.DictOf.mapOf (Heap.dictOf_iff.mpr ⟨o,ho,dd⟩)
 have q:=r.has (k:=y)
 cases nt
 ·exact wpAny_in_of (strKind_is _ _ _ _) ns hm (by rw [q]; exact F.here O (congrArg _ (Bool.false_xor _).symm))
 ·exact wpAny_notIn_of (strKind_is _ _ _ _) ns hm (by rw [q]; exact F.here O (congrArg _ (Bool.true_xor _).symm))
theorem H7 {y:Str} {l:List (Str×AV)} {b:AV} (hn:own[n]? = some (.dicS l)) (hb:lk y l = some b):j5 W own (.loc n) (.str y) b:=fun A U ad s v u k val Q E hu hs B O rv ru F=>by
 refine af fun nG=>?_
 obtain ⟨_⟩:=ru
 obtain ⟨e⟩:=rv
 obtain ⟨_,o,ho,ns,kvs,dd,r⟩:=O.obj _ _ _ ⟨hn,rfl,e⟩
 have hm:=Heap.DictOf.mapOf (Heap.dictOf_iff.mpr ⟨o,ho,dd⟩)
 obtain ⟨x,hx,rx⟩:=r.look hb
 refine nG ?_
 exact tail_any hm.typeIs slot_dict_getitem.lookup (wpAny_getItem_of (strKind_is _ _ _ _) hm hx (F.here O rx)) (hs _ _)
theorem H8 {K f:Addr} {m:Nat} {ms:List (Str×Addr)} {x:Str} {fs:List (Str×AV)} {as:List AV} {r:AV} (h1:own[n]? = some (.obj K m)) (h2:own[m]? = some (.fld fs)) (hm:(K,ms)∈hJ) (hf:lk x ms = some f) (hx:lk x fs = none) (T:Tells W d (.ref f) own1 (.loc n::as) r own2):cz W d own (.loc n) x own1 as r own2:=fun A a U ad s v pl Q E B O rv k=>by
 refine af fun nG=>?_
 obtain ⟨e⟩:=rv
 obtain ⟨_,o,ho,pr⟩:=O.obj _ _ _ ⟨h1,rfl,e⟩
 obtain ⟨ed⟩:=pr
 obtain ⟨_,o',ho',pr'⟩:=O.obj _ _ _ ⟨h2,rfl,ed⟩
 obtain ⟨rf⟩:=pr'
 refine nG ?_
 have c:=m6 (P:=W.w.params) (List.all_eq_true.mp m4.2 _ hm)
 have t1:=cY (cY (xJ W.w.params) hm) (fC hf)
 exact method_fn B.G.K (⟨ho,rfl,rfl,ho'⟩:InstAt s.heap _ (instObj K _) K (some (dictOf _ _))) c.ga c.g (congrArg (·.1) t1) (congrArg (·.2) t1) (by unfold shadowIn; dsimp only; rw [rf.miss hx]; rfl) (k _ _ s.toks T.1 fun s' ad' vs Q' E' kk B' rl F=>
  T.2 A a U ad' s' _ Q' E' B' kk.owns (.cons (a:=.loc n) (.mk (kk.ad _ _ e)) rl) F)
end
section
variable {W:ab} {d:Nat} {sc:Fs} {σ:aq} {own own1:Own} {c:aj W d sc}
theorem bP.keys {V:Vw}:∀ {l:List (Int×AV)} {kvs:List (Int×Value)},bP W V kvs l→kvs.map (·.1) = l.map (·.1)
 | [],_,r=>by obtain rfl:=r; rfl
 | (i,a)::l,_,r=>by
  obtain ⟨⟨_⟩,r⟩:=r
  exact congrArg (i::·) r.keys
theorem H9 {kvs:List (Int×Value)}:∀ {acc:List Value},acc.length = kvs.length→(∀ (i:Nat) (v:Value),acc[i]? = some v→∃ k x,kvs[i]? = some (k,x)∧(intKind pg W.w).is k v = true)→IntsAre acc (kvs.map (·.1)):=by
 induction kvs with
 | nil=>
  intro acc hl _
  obtain rfl:acc = []:=List.length_eq_zero_iff.mp hl
  exact .nil
 | cons p kvs ih=>
  intro acc hl hv
  cases acc with
  | nil=>cases hl
  | cons v acc=>
   obtain ⟨k,x,e1,e2⟩:=hv 0 v rfl
   cases e1
   obtain ⟨t,rfl⟩:=Value.isInt_shape e2
   exact .cons _ _ (ih (Nat.succ.inj hl) fun i v e=>hv (i + 1) v e)
noncomputable def rR (l:List Int):List AV:=l.map fun i=>.int (.lit i)
theorem y6 {V:Vw}:∀ {vs:List Value} {ks:List Int},IntsAre vs ks→ai W V vs (rR ks)
 | _,_,.nil=>rfl
 | _,_,.cons k t r=>.mk (.mk t) (y6 r)
set_option tactic.hygienic true in
theorem Ia {l:List (Int×AV)} (hl:Nat.blt l.length 64 = true):bW W 6 [.dicI l] (.lst (rR (sortI (l.map (·.1))))):=one W fun A U ad s v Q E hh B rv G=>by
 obtain ⟨ho,ns,dd,rv⟩:=rv
 rename_i a ob kvs
 have hl:=Nat.blt_eq.mp hl
 have hk:=rv.keys
 obtain ⟨ep,hat⟩:=(Heap.dictOf_iff.mpr ⟨ob,ho.1,dd⟩:s.heap.DictOf (intKind pg W.w) a kvs).dictAt
 have hlen:kvs.length = l.length:=by rw [← List.length_map (f:=(·.1)),hk,List.length_map]
 rw [rO]
 refine Calls.call_function_entry kind_sorted plain_sorted entry_sorted (args_sorted1 _) ?_
 unfold Builtin.«sorted»
 refine wpAny_bind (m:=checkCount "sorted" 1 1 _) (wpAny_pure ?_)
 refine wpAny_bind (kdu_collect (A:=A.in1) (kdl_dict (knd:=intKind pg W.w) (kvs:=kvs) (ep:=ep) ns) hh hat (by rw [sizeLine_eq]; lia) fun h1 t1 acc k1 hacc=>?_)
 have hla:acc.toList.length = kvs.length:=by rw [Array.length_toList]; exact hacc.1
 have rl:IntsAre acc.toList (l.map (·.1)):=hk▸H9 hla fun i v e=>hacc.2 i v (by rw [← Array.getElem?_toList]; exact e)
 refine wpAny_bind (wpAny_newList ?_ (by rw [hla,sizeLine_eq]; lia))
 have hoL:(h1.push (seqObj "list" acc.toList.toArray 0)).get? h1.objs.size = some (seqObj "list" acc.toList.toArray 0):=Heap.get?_push_size _ rfl
 have kp:ag s.heap (h1.push (seqObj "list" acc.toList.toArray 0)):=(ag.of k1).trans (ag.push _ _)
 have new:s.heap.get? h1.objs.size = none:=(ag.of k1).gone (da h1)
 refine wpAny_bind (wpAny_holding (wpAny_call_entry slot_list_sort ⟨_,hoL,rfl⟩ entry_list_sort (list_sort_tree (s:=mv s (h1.push (seqObj "list" acc.toList.toArray 0)) t1) hoL rl (by rw [hla]; lia) fun out ns' a1 a2 a3=>⟨_,rfl,?_⟩) (args_list_sort _)))
 refine wpAny_pure ⟨_,rfl,?_⟩
 obtain rfl:=eq_sortI a2 a3
 generalize h1.push (seqObj "list" acc.toList.toArray 0) = H at hoL kp
 obtain ⟨e1,ho1⟩:∃ e1,(H.update h1.objs.size (Obj.mapSeq fun _=>(#[]:Array Value))).get? h1.objs.size = some (seqObj "list" #[] e1):=⟨_,get?_update_seq hoL fun _=>#[]⟩
 have ho6:(((H.update h1.objs.size (Obj.mapSeq fun _=>(#[]:Array Value))).push (seqObj "tuple" acc.toList.toArray 0)).push (seqObj "list" #[] 0)).get? h1.objs.size = some (seqObj "list" #[] e1):=Heap.get?_push_of_some _ (Heap.get?_push_of_some _ ho1)
 have kx:aw (· = h1.objs.size) H (sortedHeap H h1.objs.size acc.toList out):=((aw.one (gA hoL) (Heap.SameBut.update ..)).trans (aw.x (aw.trans (ag.push _ _) (ag.push _ _)))).trans (aw.one (gA (vs:=[]) ho6) (Heap.SameBut.update ..))
 obtain ⟨e2,hfin⟩:∃ e2,(sortedHeap H h1.objs.size acc.toList out).get? h1.objs.size = some (seqObj "list" out e2):=⟨_,get?_update_seq ho6 fun _=>out⟩
 refine G (.ref h1.objs.size) _ t1 (kp.dF kx fun u hu=>hu▸new) (.mk (vs:=out.toList) (n:=e2) ⟨hfin,rfl,fun q=>?_⟩ (y6 a1))
 obtain ⟨o,e⟩:=B.low _ q
 rw [new] at e; exact ar e
noncomputable def oa (acc:List Int) (i:Int):List Int:=match acc.any fun q=>decide (q = i) with
 | true=>acc
 | false=>acc ++ [i]
noncomputable def og:List Int→List Int→List Int
 | [],acc=>acc
 | i::l,acc=>og l (oa acc i)
noncomputable def ij:List Value→List Int→List Int
 | [],acc=>acc
 | .int i _::l,acc=>ij l (oa acc i)
 | _::l,acc=>ij l acc
theorem y7:∀ (l m:List Value) (acc:List Int),ij (l ++ m) acc = ij m (ij l acc)
 | [],_,_=>rfl
 | v::l,m,acc=>by cases v<;>exact y7 l m _
noncomputable def Ib (v:Value):Prop:=∃ i t,v = .int i t
theorem rS:∀ {is:List Int} {vs:List Value} {acc:List Int},bT is vs→ij vs acc = og is acc∧∀ v∈vs,Ib v
 | [],_,_,r=>by obtain rfl:=r; exact ⟨rfl,gd⟩
 | i::is,_,_,r=>by
  obtain ⟨⟨t⟩,r⟩:=r
  exact ⟨(rS r).1,fun v hv=>(List.mem_cons.mp hv).elim (fun q=>q▸⟨_,_,rfl⟩) ((rS (acc:=[]) r).2 v)⟩
theorem Ic {kvs:List (Int×Value)} {k:Int} {y:Value} (h:∀ p∈kvs,p.2 = y):(stored kvs k y).map (·.1) = oa (kvs.map (·.1)) k∧∀ p∈stored kvs k y,p.2 = y:=by
 unfold stored oa
 rw [List.any_map]
 show List.map _ (if (kvs.any fun kv=>decide (kv.1 = k)) = true then kvs.map (fun kv=>if kv.1 = k then (kv.1,y) else kv) else kvs ++ [(k,y)]) = (match kvs.any fun kv=>decide (kv.1 = k) with | true=>_ | false=>_)∧∀ p∈(if (kvs.any fun kv=>decide (kv.1 = k)) = true then kvs.map (fun kv=>if kv.1 = k then (kv.1,y) else kv) else kvs ++ [(k,y)]),p.2 = y
 cases kvs.any fun kv=>decide (kv.1 = k) with
 | true=>
  have e:kvs.map (fun kv=>if kv.1 = k then (kv.1,y) else kv) = kvs:=(List.map_congr_left fun p m=>by
   split
   ·exact Prod.ext rfl (h p m).symm
   ·rfl).trans (List.map_id _)
  rw [if_pos rfl,e]
  exact ⟨rfl,h⟩
 | false=>
  rw [if_neg Bool.false_ne_true,List.map_append]
  refine ⟨rfl,fun p hp=>?_⟩
  rcases List.mem_append.mp hp with q | q
  ·exact h p q
  ·rw [List.mem_singleton.mp q]
theorem Ie {l:List Value} {kvs:List (Int×Value)} (h:StoredAll (fun v k=>∃ t,v = .int k t) (fun _ y=>y = .bool true) l kvs):kvs.map (·.1) = ij l []∧∀ p∈kvs,p.2 = .bool true:=by
 induction h with
 | nil=>exact ⟨rfl,gd⟩
 | @snoc l kvs v k y _ hk hy ih=>
  obtain ⟨t,rfl⟩:=hk
  subst hy
  obtain ⟨h1,h2⟩:=Ic ih.2
  rw [y7,h1,ih.1]
  exact ⟨rfl,h2⟩
noncomputable def rT (ks:List Int):List (Int×AV):=ks.map fun i=>(i,.bool true)
theorem y8 {V:Vw}:∀ {kvs:List (Int×Value)},(∀ p∈kvs,p.2 = .bool true)→bP W V kvs (rT (kvs.map (·.1)))
 | [],_=>rfl
 | (k,y)::kvs,h=>by
  obtain rfl:y = .bool true:=h _ (.head _)
  exact .mk (.mk rfl) (y8 fun p m=>h p (.tail _ m))
set_option tactic.hygienic true in
theorem ak.Ig {x:Str} {px tp cp pos:Pos} {u:Nat} {it:Expr} {scope:Scope} {as:List AV} {is:List Int} (hx:cZ scope x .local = true) (hs:kB scope = true) (hl:(scope.names.all fun p=>p.2 == .local) = true) (hf:i6 it) (h1:ak c σ own (eval it c.env) (.lst as) own1) (hk:∀ V vs,ai W V vs as→bT is vs) (hz:Nat.ble as.length 10000 = true):
  ak c σ own (eval (.DictComp (.Name x px) (.Constant (.bool true) u cp) [⟨.Name x tp,it,[],0⟩] scope pos) c.env) (.dicI (rT (og is []))) own1:=fun s ad Q E S F=>by
 refine af fun nG=>?_
 have F0:=kD hs
 have loc:∀ y∈scope.names,y.2 = .local:=fun y hy=>beq_iff_eq.mp (List.all_eq_true.mp hl y hy)
 have hxl:=n6 hx
 obtain ⟨cl,C⟩:=rC (scope:=scope) (env:=c.env) fun y m=>by have:=loc _ m; cases this
 refine nG ?_
 refine wpAny_DictComp_free (intKind pg W.w) (fun _=>true) (fun v k=>∃ t,v = .int k t) (fun _ y=>y = .bool true) C.run (fun y hy=>by rw [loc y hy]; exact fun z=>(by cases z)) F0.kind (fun y hy _=>by rw [← cU,(F0.name y.1 y.2 hy).look,loc y hy]) hxl (h1 s ad _ _ S fun xw g1 t1 a1 k1 r1=>?_) (hf _)
 refine af fun nG=>?_
 obtain ⟨hob,rl⟩:=r1
 rename_i ax vs n
 have ho:=hob.1
 obtain ⟨hkv,hint⟩:=rS (acc:=[]) (hk _ _ rl)
 refine nG ?_
 have hlen:as.length≤10000:=Nat.le_of_ble_eq_true hz
 have hlt:ax < g1.objs.size:=Heap.lt_size ho
 have up:∀ (h3:Heap),(∀ b o,b∉[g1.objs.size]→(g1.push { cls:=.type "list_iterator",data:=.fields #[.ref ax,.int 0 0] }).get? b = some o→h3.get? b = some o)→∀ b o,g1.get? b = some o→h3.get? b = some o:=
  fun h3 hk b o e=>hk b o (fun hm=>Nat.lt_irrefl _ ((List.mem_singleton.mp hm)▸Heap.lt_size e)) (Heap.get?_push_of_some _ e)
 refine wpAny_pyIter_list (items:=vs.toArray) ⟨_,ho,rfl,n,rfl⟩ ⟨g1.objs.size,[g1.objs.size,ax],[g1.objs.size],vs.toArray.size,_,_,rfl,Walks.list c.a.handled _ _ (Nat.ne_of_lt hlt) vs.toArray,(by rw [List.size_toArray,rl.length,sizeLine_eq]; lia),⟨⟨_,Heap.get?_push_size _ rfl,rfl,rfl⟩,⟨_,Heap.get?_push_of_some _ ho,rfl,n,rfl⟩⟩,?_,⟨?_,?_,?_⟩,?_⟩
 ·intro b hb
  show b < (g1.push _).objs.size
  rw [Heap.size_push]
  rcases List.mem_cons.mp hb with rfl | hb
  ·exact Nat.lt_succ_self _
  ·rw [List.mem_singleton.mp hb]; exact Nat.lt_succ_of_lt hlt
 ·intro C i v s₃ m₃ E' hP hn hm hk
  exact wpAny_tests_nil ⟨rfl,_,_,rfl,fun b o e=>e⟩
 ·intro C i v s₃ m₃ E' hP _ hn hm hk
  refine af fun nG=>?_
  obtain ⟨z,t,rfl⟩:=hint v (by simpa using Array.mem_of_getElem? hP)
  refine nG ?_
  refine wpAny_Name (wpAny_loadName_local (by simp [compEnvC,relabel,F0.kind]) (lookup_relabel_local hxl) hn hm ⟨⟨z,intKind_is _ _ _ _,t,rfl⟩,_,_,rfl,fun b o e=>e⟩) (F0.name _ _ (i0 hxl)).dbg
 ·intro C i v s₃ m₃ E' hP _ hn hm hk
  exact wpAny_Constant_bool ⟨rfl,_,_,rfl,fun b o e=>e⟩
 ·intro D h' tk kvs vs' hnew hlD hlen hP hF hk
  refine af fun nG=>?_
  obtain rfl:vs' = vs:=by simpa using list_of_places hlen hP
  rw [List.filter_eq_self.mpr fun _ _=>rfl] at hF
  obtain ⟨hkk,hvv⟩:=Ie hF
  have keep:ag g1 h':=.of (up h' hk)
  obtain ⟨ob,hob',hdo⟩:=Heap.dictOf_iff.mp hlD
  refine nG ?_
  have hD:g1.get? D = none:=(ag.push _ _).gone hnew
  have S1:=S.after k1
  refine F (.ref D) h' tk a1 (k1.trans (k1.owns.grow keep)) (.mk ⟨hob',(qr hdo).1,fun z=>?_⟩ (beq_eq_false_iff_ne.mpr fun q=>?_) hdo (by rw [← hkv,← hkk]; exact y8 hvv))
  ·refine af fun nG=>?_
   obtain ⟨o,e⟩:=S1.B.low D z
   refine nG ?_
   rw [show g1.get? D = none from hD] at e; exact ar e
  ·refine af fun nG=>?_
   obtain ⟨o,ho⟩:=Option.isSome_iff_exists.mp (y3 W.w.params)
   obtain ⟨o',e⟩:=S1.Gp.ex id (W.B.fact _ _ ho)
   refine nG ?_
   rw [← q,show g1.get? D = none from hD] at e; exact ar e
end
noncomputable def gB (W:ab) (T:Nat→Option AV) (V V':Vw):Prop:=∀ n b,T n = some b→∀ v,qf V.ad n v→Rel W V' v b
noncomputable def oh (T:Nat→Option AV) (a b:AV):Prop:=∀ {W:ab} {V V':Vw},Sub V.g V'.g→gB W T V V'→∀ v,Rel W V v a→Rel W V' v b
noncomputable def om {α β:Type} {P:α→Prop} {Q:β→Prop} (x:Option { a:α // P a }) (f:α→β) (h:∀ a,P a→Q (f a)):Option { b:β // Q b }:=Option.rec (motive:=fun _=>Option { b:β // Q b }) none (fun a=>some ⟨f a.1,h a.1 a.2⟩) x
noncomputable def gC {α β γ:Type} {P:α→Prop} {P':γ→Prop} {Q:β→Prop} (x:Option { a:α // P a }) (y:Option { a:γ // P' a }) (f:α→γ→β) (h:∀ a c,P a→P' c→Q (f a c)):Option { b:β // Q b }:=Option.rec (motive:=fun _=>Option { b:β // Q b }) none (fun a=>om y (f a.1) fun c=>h a.1 c a.2) x
section
variable (T:Nat→Option AV)
mutual
noncomputable def jb:(a:AV)→Option { b:AV // oh T a b }
 | .loc n=>di (T n) (fun b h=>some ⟨b,fun s t v r=>t n b h v r⟩) fun _=>none
 | .tup l=>om (oi l) .tup fun m h {W V V'} s t v ⟨h1,r⟩=>.mk (s _ _ h1) (h s t _ r)
 | .lst l=>om (oi l) .lst fun m h {W V V'} s t v ⟨h1,r⟩=>.mk (s _ _ h1) (h s t _ r)
 | .inst C l=>om (rU l) (.inst C) fun m h {W V V'} s t v ⟨h1,hd,r⟩=>.mk (s _ _ h1) (s _ _ hd) (h s t _ r)
 | .dicI l=>om (rV l) .dicI fun m h {W V V'} s t v ⟨h1,ns,d,r⟩=>.mk (s _ _ h1) ns d (h s t _ r)
 | .dicS l=>om (rW l) .dicS fun m h {W V V'} s t v ⟨h1,ns,d,r⟩=>.mk (s _ _ h1) ns d (h s t _ r)
 | .rng a n=>some ⟨.rng a n,fun s t v ⟨h,k⟩=>.mk (s _ _ h) k⟩
 | .hole n=>some ⟨.hole n,fun {W _ _} s t v r=>W.ηm _ _ _ _ s r⟩
 | .none=>some ⟨.none,fun s t v r=>r⟩
 | .bool b=>some ⟨.bool b,fun s t v r=>r⟩
 | .sb b=>some ⟨.sb b,fun s t v r=>r⟩
 | .int b=>some ⟨.int b,fun s t v r=>r⟩
 | .str b=>some ⟨.str b,fun s t v r=>r⟩
 | .bytes b=>some ⟨.bytes b,fun s t v r=>r⟩
 | .con b=>some ⟨.con b,fun s t v r=>r⟩
 | .blt b=>some ⟨.blt b,fun s t v r=>r⟩
 | .any=>some ⟨.any,fun s t v r=>r⟩
 | .anyS=>some ⟨.anyS,fun s t v r=>r⟩
noncomputable def oi:(a:List AV)→Option { b:List AV //∀ {W:ab} {V V':Vw},Sub V.g V'.g→gB W T V V'→∀ v,ai W V v a→ai W V' v b }
 | []=>some ⟨[],fun s t v r=>r⟩
 | a::l=>gC (jb a) (oi l) List.cons fun b m h k {W V V'} s t v ⟨r,q⟩=>.mk (h s t _ r) (k s t _ q)
noncomputable def rU:(a:List (Str×AV))→Option { b:List (Str×AV) //∀ {W:ab} {V V':Vw},Sub V.g V'.g→gB W T V V'→∀ v,bG W V v a→bG W V' v b }
 | []=>some ⟨[],fun s t v r=>r⟩
 | (x,a)::l=>gC (jb a) (rU l) (fun b m=>(x,b)::m) fun b m h k {W V V'} s t v ⟨⟨e,r⟩,q⟩=>.mk (.mk e (h s t _ r)) (k s t _ q)
noncomputable def rV:(a:List (Int×AV))→Option { b:List (Int×AV) //∀ {W:ab} {V V':Vw},Sub V.g V'.g→gB W T V V'→∀ v,bP W V v a→bP W V' v b }
 | []=>some ⟨[],fun s t v r=>r⟩
 | (x,a)::l=>gC (jb a) (rV l) (fun b m=>(x,b)::m) fun b m h k {W V V'} s t v ⟨⟨r⟩,q⟩=>.mk (.mk (h s t _ r)) (k s t _ q)
noncomputable def rW:(a:List (Str×AV))→Option { b:List (Str×AV) //∀ {W:ab} {V V':Vw},Sub V.g V'.g→gB W T V V'→∀ v,bJ W V v a→bJ W V' v b }
 | []=>some ⟨[],fun s t v r=>r⟩
 | (x,a)::l=>gC (jb a) (rW l) (fun b m=>(x,b)::m) fun b m h k {W V V'} s t v ⟨⟨r⟩,q⟩=>.mk (.mk (h s t _ r)) (k s t _ q)
end
noncomputable def oj (T:Nat→Option AV) (p q:PV):Prop:=live q = true∧∀ {W:ab} {V V':Vw},Sub V.g V'.g→gB W T V V'→∀ a o,d8 W V a o p→d8 W V' a o q
noncomputable def y9 (p:PV):Option { q:PV // oj T p q }:=match p with
 | .lst l=>om (oi T l) .lst fun m h=>⟨rfl,fun s t a o ⟨r⟩=>.mk (h s t _ r)⟩
 | .fld l=>om (rU T l) .fld fun m h=>⟨rfl,fun s t a o ⟨r⟩=>.mk (h s t _ r)⟩
 | .dicS l=>om (rW T l) .dicS fun m h=>⟨rfl,fun s t a o ⟨ns,kvs,d,r⟩=>⟨ns,kvs,d,h s t _ r⟩⟩
 | .dicI l=>om (rV T l) .dicI fun m h=>⟨rfl,fun s t a o ⟨ns,kvs,d,r⟩=>⟨ns,kvs,d,h s t _ r⟩⟩
 | .obj C n=>di (T n) (fun b h=>match b,h with
  | .loc m,h=>some ⟨.obj C m,rfl,fun s t a o ⟨e⟩=>let ⟨e'⟩:=t n _ h _ (.mk e); .mk e'⟩
  | _,_=>none) fun _=>none
 | _=>none
end
noncomputable def oo (n:Nat):(sel:List Nat)→Nat→Option Nat
 | [],_=>none
 | m::l,k=>(match Nat.beq n m with
  | true=>some k
  | false=>oo n l (k + 1))
theorem za {n:Nat}:∀ {sel:List Nat} {k j:Nat},oo n sel k = some j→k≤j∧sel[j - k]? = some n
 | m::l,k,j,e=>by
  unfold oo at e
  split at e
  ·rename_i q
   cases e
   rw [Nat.sub_self,Nat.eq_of_beq_eq_true q]
   exact ⟨Nat.le_refl _,rfl⟩
  ·obtain ⟨h1,h2⟩:=za e
   refine ⟨Nat.le_of_succ_le h1,?_⟩
   rw [show j - k = (j - (k + 1)) + 1 by lia,List.getElem?_cons_succ]
   exact h2
noncomputable def fS (base:Nat) (own1:Own) (sel:List Nat) (n:Nat):Option AV:=match oo n sel base with
 | some k=>some (.loc k)
 | none=>(match ow own1 n with
  | some ⟨.froz t,_⟩=>(match nl t with
   | true=>some t
   | false=>none)
  | _=>none)
structure rY (own1:Own) (T:Nat→Option AV) (sel:List Nat) (own2:Own):Prop where
 len:own2.length = sel.length
 at_:∀ (k:Nat) (q:PV),own2[k]? = some q→∃ n p,sel[k]? = some n∧own1[n]? = some p∧live p = true∧oj T p q
noncomputable def zb (own1:Own) (T:Nat→Option AV):(sel:List Nat)→Option { own2:Own // rY own1 T sel own2 }
 | []=>some ⟨[],rfl,(fun _ _ e=>by exact ar e)⟩
 | n::sel=>(match ow own1 n with
  | some ⟨p,hp⟩=>aG (live p) (fun hl=>gC (y9 T p) (zb own1 T sel) List.cons fun q m h k=>⟨congrArg (· + 1) k.len,fun j r e=>match j,e with
   | 0,e=>⟨n,p,rfl,hp,hl,Option.some.inj e▸h⟩
   | j + 1,e=>k.at_ j r e⟩) fun _=>none
  | none=>none)
theorem b9 {ad1:List Addr} {sel:List Nat} {k n:Nat} {a:Addr} (h:sel[k]? = some n) (e:ad1[n]? = some a):(sel.map fun n=>ad1.getD n 0)[k]? = some a:=by
 rw [List.getElem?_map,h,Option.map_some,List.getD_eq_getElem?_getD,e]; rfl
set_option tactic.hygienic true in
theorem aO.join {W:ab} {U:AS} {own own1 own2:Own} {ad ad1:List Addr} {h h':Heap} {sel:List Nat} (O:aO W U ⟨own,ad,h⟩) (low:∀ u,U u→∃ o,h.get? u = some o) (k:ag h h') (O1:aO W (fun u=>U u∨ao own ad u) ⟨own1,ad1,h'⟩) (new:∀ u,ao own1 ad1 u→h.get? u = Option.none) (nd:sel.Nodup)
  (P:rY own1 (fS own.length own1 sel) sel own2):After W U ⟨own,ad,h⟩ ⟨own ++ own2,ad ++ sel.map (fun n=>ad1.getD n 0),h'⟩∧∀ v a b,Rel W (vw (fun u=>U u∨ao own ad u) ⟨own1,ad1,h'⟩) v a→oh (fS own.length own1 sel) a b→Rel W (vw U ⟨own ++ own2,ad ++ sel.map (fun n=>ad1.getD n 0),h'⟩) v b:=by
 generalize ha:sel.map (fun n=>ad1.getD n 0) = ad2
 have len2:ad2.length = own2.length:=by rw [← ha,List.length_map,P.len]
 have at2:∀ {j q a},own2[j]? = some q→ad2[j]? = some a→∃ n p,sel[j]? = some n∧At own1 ad1 n p a∧oj (fS own.length own1 sel) p q:=fun {j q a} e1 e2=>by
  obtain ⟨n,p,h1,h2,h3,h4⟩:=P.at_ j q e1
  obtain ⟨b,hb⟩:∃ b,ad1[n]? = some b:=⟨_,List.getElem?_eq_getElem (by rw [O1.len]; exact (List.getElem?_eq_some_iff.mp h2).1)⟩
  rw [← ha,b9 h1 hb] at e2
  cases e2
  exact ⟨n,p,h1,⟨h2,h3,hb⟩,h4⟩
 have sp:∀ {m pv a},At (own ++ own2) (ad ++ ad2) m pv a→At own ad m pv a∨(own.length≤m∧own2[m - own.length]? = some pv∧ad2[m - own.length]? = some a):=fun {m pv a} z=>by
  obtain ⟨z1,z2,z3⟩:=z
  have:ad.length = own.length:=O.len
  rw [List.getElem?_append] at z1 z3
  by_cases q:m < own.length
  ·rw [if_pos q] at z1; rw [if_pos (by lia)] at z3; exact .inl ⟨z1,z2,z3⟩
  ·rw [if_neg q] at z1; rw [if_neg (by lia),this] at z3; exact .inr ⟨Nat.le_of_not_lt q,z1,z3⟩
 have pre:Pre ad (ad ++ ad2):=fun n a e=>by rw [List.getElem?_append_left (List.getElem?_eq_some_iff.mp e).1]; exact e
 have pr:∀ u,ao (own ++ own2) (ad ++ ad2) u→ao own ad u∨ao own1 ad1 u:=fun u ⟨m,pv,z⟩=>(sp z).imp (fun z=>⟨m,pv,z⟩) fun ⟨_,e1,e2⟩=>let ⟨n,p,_,z,_⟩:=at2 e1 e2; ⟨n,p,z⟩
 have l0:(vw U ⟨own,ad,h⟩).Le (vw U ⟨own ++ own2,ad ++ ad2,h'⟩):=⟨k.sub fun b o e n=>⟨id,fun z=>z.elim (fun z=>n (.inl z)) fun z=>(pr b z).elim (fun z=>n (.inr z)) (fun z=>by rw [new b z] at e; exact ar e)⟩,pre⟩
 have s1:Sub (vw (fun u=>U u∨ao own ad u) ⟨own1,ad1,h'⟩).g (vw U ⟨own ++ own2,ad ++ ad2,h'⟩).g:=d7 fun u z=>z.elim (fun z=>.inl (.inl z)) fun z=>(pr u z).imp (fun z=>.inr z) id
 have tok:gB W (fS own.length own1 sel) (vw (fun u=>U u∨ao own ad u) ⟨own1,ad1,h'⟩) (vw U ⟨own ++ own2,ad ++ ad2,h'⟩):=fun n b e v ⟨hv⟩=>by
  unfold fS at e
  split at e
  ·rename_i j hj
   cases e
   obtain ⟨h1,h2⟩:=za hj
   have:=O.len
   refine .mk ?_
   show (ad ++ ad2)[j]? = _
   rw [List.getElem?_append_right (by show ad.length≤j; rw [show ad.length = own.length from this]; exact h1),show ad.length = own.length from this,← ha]
   exact b9 h2 hv
  ·split at e
   ·rename_i t hn _
    split at e
    ·rename_i hnl
     cases e
     obtain ⟨a,ea,r⟩:=O1.fz n _ hn
     cases hv.symm.trans ea
     exact dS s1 hnl r
    ·exact ar e
   ·exact ar e
 refine ⟨⟨pre,ag.dQ.trans k,fun u z=>(pr u z).imp id (new u),⟨by show (ad ++ ad2).length = (own ++ own2).length; rw [List.length_append,List.length_append,len2]; exact congrArg (· + _) O.len,fun n pv a z=>?_,fun n t e=>?_,fun n m pv qv a z y=>?_,fun u z=>(pr u z).elim (O.top u) (O1.top u)⟩⟩,fun v a b r hb=>hb s1 tok v r⟩
 ·rcases sp z with z | ⟨_,e1,e2⟩
  ·refine af fun nG=>?_
   obtain ⟨nu,o,e,r⟩:=O.obj _ _ _ z
   refine nG ?_
   exact ⟨nu,o,k.gj e r.soft.2,r.mono l0⟩
  ·refine af fun nG=>?_
   obtain ⟨n,p,_,z,_,hr⟩:=at2 e1 e2
   obtain ⟨nu,o,e,r⟩:=O1.obj _ _ _ z
   refine nG ?_
   exact ⟨fun q=>nu (.inl q),o,e,hr s1 tok _ _ r⟩
 ·have e:(own ++ own2)[n]? = some (.froz t):=e
  rw [List.getElem?_append] at e
  split at e
  ·refine af fun nG=>?_
   obtain ⟨a,ea,r⟩:=O.fz n t e
   refine nG ?_
   exact ⟨a,pre _ _ ea,r.mono l0⟩
  ·refine af fun nG=>?_
   obtain ⟨_,_,_,_,_,h4⟩:=P.at_ _ _ e
   refine nG ?_
   have:=h4.1; exact aS this
 ·rcases sp z with z | ⟨g1,e1,e2⟩<;>rcases sp y with y | ⟨g2,f1,f2⟩
  ·exact O.inj _ _ _ _ _ z y
  ·refine af fun nG=>?_
   obtain ⟨n',p,_,w,_⟩:=at2 f1 f2
   refine nG ?_
   exact absurd (.inr ⟨_,_,z⟩) (O1.obj _ _ _ w).1
  ·refine af fun nG=>?_
   obtain ⟨n',p,_,w,_⟩:=at2 e1 e2
   refine nG ?_
   exact absurd (.inr ⟨_,_,y⟩) (O1.obj _ _ _ w).1
  ·refine af fun nG=>?_
   obtain ⟨n1,p1,i1,w1,_⟩:=at2 e1 e2
   obtain ⟨n2,p2,i2,w2,_⟩:=at2 f1 f2
   obtain rfl:=O1.inj _ _ _ _ _ w1 w2
   refine nG ?_
   have:=(List.getElem?_inj (List.getElem?_eq_some_iff.mp i1).1 nd).mp (i1.trans i2.symm)
   lia
variable {W:ab} {d:Nat}
theorem Tells.join {f:Value} {as:List AV} {r b:AV} {own own1 own2:Own} {sel:List Nat} (T:Tells W d f [] as r own1) (ha:bc as = true) (nd:sel.Nodup) (P:rY own1 (fS own.length own1 sel) sel own2) (hb:oh (fS own.length own1 sel) r b):Tells W d f own as b (own ++ own2):=⟨T.1,fun A a U ad s vs Q E B O rl F=>
 T.2 A a (fun u=>U u∨ao own ad u) [] s vs Q E (B.more O) .none (e8 (d7 fun u q=>q.elim id fun q=>(cN q).elim) ha rl) fun v h' tk ad1 k rv=>
  have kk:ag s.heap h':=aw.trans (ag.of fun b o e=>a9.mpr ⟨e,cN⟩) k.keep
  have J:=O.join B.low kk k.owns (fun u z=>(k.new u z).elim (fun z=>(cN z).elim) id) nd P
  F v h' tk _ J.1 (J.2 v r b rv hb)⟩
noncomputable def fT:Own→Nat→List Nat
 | [],_=>[]
 | p::l,k=>(match live p with
  | true=>k::fT l (k + 1)
  | false=>fT l (k + 1))
theorem rZ:∀ {l:Own} {k n:Nat},n∈fT l k→k≤n
 | p::l,k,n,m=>by
  unfold fT at m
  split at m
  ·rcases List.mem_cons.mp m with rfl | m
   ·exact Nat.le_refl _
   ·exact Nat.le_of_succ_le (rZ m)
  ·exact Nat.le_of_succ_le (rZ m)
theorem r6:∀ (l:Own) (k:Nat),(fT l k).Nodup
 | [],_=>.nil
 | p::l,k=>by
  unfold fT
  split
  ·exact List.nodup_cons.mpr ⟨fun m=>Nat.lt_irrefl _ (rZ m),r6 l _⟩
  ·exact r6 l _
noncomputable def cg (own own':Own):Prop:=∀ {W:ab} {U:AS} {ad:List Addr} {h:Heap},aO W U ⟨own,ad,h⟩→After W U ⟨own,ad,h⟩ ⟨own',ad,h⟩
theorem cg.refl {own:Own}:cg own own:=fun O=>O.refl
theorem cg.trans {own own1 own2:Own} (f:cg own own1) (g:cg own1 own2):cg own own2:=fun O=>(f O).trans (g (f O).owns)
noncomputable def jc (z:Option AV) (own:Own) (n:Nat):Option AV:=match ow own n with
 | some ⟨.froz t,_⟩=>(match nl t with
  | true=>some t
  | false=>z)
 | _=>z
noncomputable def jd (z:Option AV):Prop:=∀ b,z = some b→b = .any
set_option tactic.hygienic true in
theorem zc {W:ab} {U:AS} {own:Own} {ad:List Addr} {h:Heap} {z:Option AV} (hz:jd z) (O:aO W U ⟨own,ad,h⟩) {V:Vw} (le:(vw U ⟨own,ad,h⟩).Le V) (ea:V.ad = ad):gB W (jc z own) V V:=fun n b e v ⟨hv⟩=>by
 have no:z = some b→∀ a,Rel W V (.ref a) b:=fun e a=>by rw [hz b e]; exact True.intro
 unfold jc at e
 split at e
 ·rename_i t hn _
  split at e
  ·cases e
   obtain ⟨a,ea',r⟩:=O.fz n _ hn
   rw [ea] at hv
   cases hv.symm.trans ea'
   exact r.mono le
  ·exact no e _
 ·exact no e _
noncomputable def Ih (p:PV):Bool:=match p with
 | .lst l=>bc l
 | .fld l=>ie l
 | .dicS l=>ie l
 | .dicI l=>nS l
 | _=>false
theorem cg.tell {own:Own} {n:Nat} {pv pv':PV} {z:Option AV} (hz:jd z) (h:own[n]? = some pv) (hl:live pv = true) (hp:oj (jc z own) pv pv'):cg own (own.set n pv'):=fun {W U ad hp'} O=>by
 refine af fun nG=>?_
 obtain ⟨a,ea⟩:∃ a,ad[n]? = some a:=⟨_,List.getElem?_eq_getElem (by rw [O.len]; exact (List.getElem?_eq_some_iff.mp h).1)⟩
 have y:At own ad n pv a:=⟨h,hl,ea⟩
 obtain ⟨nu,o,eo,pr⟩:=O.obj _ _ _ y
 refine nG ?_
 refine O.put y ⟨rfl,fun _ _=>rfl⟩ (fun _=>rfl) fun V le ea _=>⟨fun _=>⟨o,eo,hp.2 (V:=V) (fun _ _ e=>e) (zc hz O le ea) a o (pr.mono le)⟩,fun t e=>by rw [e] at hp; exact aS hp.1⟩
noncomputable def zd (z:Option AV) (hz:jd z) (own:Own) (n:Nat):Option { own':Own // cg own own' }:=match ow own n with
 | some ⟨pv,h⟩=>aG (live pv) (fun hl=>(match y9 (jc z own) pv with
  | some ⟨pv',hp⟩=>aG (Ih pv') (fun _=>some ⟨own.set n pv',cg.tell hz h hl hp⟩) fun _=>none
  | none=>none)) fun _=>none
 | none=>none
noncomputable def ze (own:Own) (n:Nat):Nat:=match ow own n with
 | some ⟨.obj _ m,_⟩=>m
 | _=>n
noncomputable def Ii (z:Option AV) (hz:jd z) (own:Own) (n:Nat):{ own':Own // cg own own' }:=match zd z hz own (ze own n) with
 | some ⟨o,f⟩=>(match settle o (.loc n) with
  | ⟨r,g⟩=>(match fL r.2 with
   | ⟨q,e⟩=>⟨q,e▸f.trans fun O=>(g O).1⟩))
 | none=>⟨own,cg.refl⟩
theorem zf:jd none:=(fun _ e=>by exact ar e)
theorem Ij:jd (some .any):=fun b e=>(Option.some.inj e).symm
noncomputable def Ik (l:List Nat) (own:Own):{ own':Own // cg own own' }:=List.rec (motive:=fun _=>(own:Own)→{ own':Own // cg own own' }) (fun own=>⟨own,cg.refl⟩) (fun n _ ih own=>(match Ii none zf own n with
 | ⟨o,f⟩=>(match ih o with
  | ⟨q,g⟩=>⟨q,f.trans g⟩))) l own
noncomputable def heads:Own→Nat→List Nat
 | [],_=>[]
 | p::l,k=>(match p with
  | .fld _ | .froz _ | .gone | .dicT _=>heads l (k + 1)
  | _=>k::heads l (k + 1))
noncomputable def zg (n:Nat) (own:Own):{ own':Own // cg own own' }:=Nat.rec (motive:=fun _=>(own:Own)→{ own':Own // cg own own' }) (fun own=>⟨own,cg.refl⟩) (fun _ ih own=>(match Ik (heads own 0) own with
 | ⟨o,f⟩=>(match ih o with
  | ⟨q,g⟩=>⟨q,f.trans g⟩))) n own
theorem aU.deep {own own':Own} {a b:AV} (f:cg own own') (h:oh (jc none own') a b):aU own a own' b:=fun O=>⟨f O,fun v r=>h (f O).view.g (fun n b e v hv=>zc zf (f O).owns (V:=vw _ ⟨own',_,_⟩) ⟨fun _ _ e=>e,fun _ _ e=>e⟩ rfl n b e v hv) v r⟩
noncomputable def Il (own:Own) (a:AV):Option { r:AV×Own // aU own a r.2 r.1 }:=match zg 3 own with
 | ⟨o,f⟩=>(match jb (jc none o) a with
  | some ⟨b,h⟩=>some ⟨(b,o),aU.deep f h⟩
  | none=>none)
noncomputable def Im (own:Own) (n:Nat):{ r:AV×Own // aU own (.loc n) r.2 r.1 }:=match zg 3 own with
 | ⟨o,f⟩=>(match zd (some .any) Ij o (ze o n) with
  | some ⟨q,g⟩=>(match settle q (.loc n) with
   | ⟨r,k⟩=>⟨r,fun O=>⟨((f.trans g) O).trans (k ((f.trans g) O).owns).1,fun v rv=>(k ((f.trans g) O).owns).2 v (rv.mono (a:=.loc n) ((f.trans g) O).view)⟩⟩)
  | none=>⟨(.loc n,own),aU.refl⟩)
noncomputable def bQ:Str:=⟨#[69,110,99,111,100,101,69,114,114,111,114]⟩
noncomputable def eG:List Value:=[.ref 46,.type "Exception",.type "BaseException",.type "object"]
noncomputable abbrev gD:Obj:=excClassObj bQ bQ 71 70 [.ref 46] eG true [] [] false none none (some (.ref 62)) none (some (.str bQ 250)) (some (.str bQ 258)) (some (.bool true)) "Exception.__new__"
theorem oq (P:Params):(aR P).lookup 71 = some gD:=by kernel_rfl
noncomputable def dX:Str:=⟨#[119,104,97,116]⟩
noncomputable def gE:Str:=⟨#[97,116]⟩
theorem Io (P:Params):findIn (aR P) (.ref 71) "__init__" = some (some (.ref 36)):=by kernel_rfl
theorem Ip (P:Params):typeIn (aR P) (.ref 36) = some (.type "function"):=by kernel_rfl
theorem zh (P:Params):findIn (aR P) (.ref 71) "__setattr__" = some (some (.builtin "object.__setattr__")):=by kernel_rfl
theorem Iq (P:Params):takerIn (aR P) 71 dX = some none:=by kernel_rfl
theorem Ir (P:Params):takerIn (aR P) 71 gE = some none:=by kernel_rfl
theorem zi (P:Params):hasDictIn (aR P) 71 = true:=by kernel_rfl
theorem It (P:Params):(clsIn (aR P) 71).map (·.mro) = some (.ref 71::eG):=by kernel_rfl
theorem Iu (P:Params):findCls (aR P) (.type "Exception") (.type "type") "__init__" = some (.val (.builtin "Exception.__init__")):=by kernel_rfl
theorem r7:(Value.ref 71::eG).contains (.type "Exception") = true:=by decide
theorem Iv:(Value.ref 71::eG).contains (.type "AttributeError") = false:=by decide
theorem Iw:(Value.ref 71::eG).contains (.type "NameError") = false:=by decide
theorem Iy:(Value.ref 71::eG).contains (.type "BaseException") = true:=by decide
theorem Iz:(Value.ref 71::eG).contains (.ref 71) = true:=by decide
theorem IA:(Value.ref 71::eG).contains (.type "type") = false:=by decide
open PySem.F in
theorem IB (self:Value):refuseLoop self "__setattr__" (.ref 71::eG) = pure ():=by kernel_rfl
section
variable {M:Model} {A:Around} {E:Value→Shared→Prop} {h:Heap} {g:Array GenState} {d:Drawn} {t:Nat} {os:OsState}
theorem IC {rest:List Value} {Q:Unit→Shared→Prop} (hC:h.get? 71 = some gD) (hq:Q () ⟨h,g,d,t,os⟩):wpAny M A (checkBuiltinCall "Exception.__new__" ⟨.ref 71::rest,[]⟩) Q E ⟨h,g,d,t,os⟩:=by
 have Fn:=PySem.F.excBase_Exception
 have hs:=Fn.noStar
 simp only [checkBuiltinCall,Fn.newKind,Fn.newSplit,Fn.newRow]
 repeat (first | refine wpAny_loadPart_at hC ?_ | (refine wpAny_isSubtype_exc hC ?_; rw [r7]) | refine wpAny_staticBase_exc hC ?_ | refine wpAny_madeBy_exc hC ?_ | simp only [bne_self_eq_false,Bool.false_eq_true,if_false] | wp_step)
 exact hq
theorem ID {e:Addr} {oe:Obj} {rest:List Value} {Q:Unit→Shared→Prop} (hC:h.get? 71 = some gD) (he:h.get? e = some oe) (hc:oe.cls = .ref 71) (hq:Q () ⟨h,g,d,t,os⟩):wpAny M A (checkBuiltinCall "Exception.__init__" ⟨.ref e::rest,[]⟩) Q E ⟨h,g,d,t,os⟩:=by
 have Fn:=PySem.F.excBase_Exception
 have hs:=Fn.noStar
 simp only [checkBuiltinCall,Fn.initKind,Fn.initSplit,Fn.initRow]
 repeat (first | (with_reducible refine wpAny_loadPart_at he ?_; rw [hc]) | with_reducible refine wpAny_loadPart_at hC ?_ | (with_reducible refine wpAny_isSubtype_exc hC ?_; rw [r7]) | wp_step)
 refine wpAny_onRaise ?_
 rw [show ∀ (a b:String) (n:Nat),Bind.check ⟨.positional,"*","Exception",.self,[⟨"args",.varPos,false⟩]⟩ a b n (List.map (fun x=>x.fst) ({ pos:=Value.ref e::rest }:Args).kw) = pure () from fun a b n=>check_star_args _ _ _ _ _ _]
 exact wpAny_pure hq
end
section
variable {prog:Program} {w:World} {A:Around} {E:Value→Shared→Prop} {R:Result→Shared→Prop} {h:Heap} {g:Array GenState} {d:Drawn} {t:Nat} {os:OsState}
noncomputable abbrev dq (t0:Addr):Obj:={ cls:=.ref 71,data:=.fields #[.ref t0,.none,.none,.none,.bool false,.none] }
theorem IE {rest:List Value} (hC:h.get? 71 = some gD) (hz:rest.length≤sizeLine)
  (hq:R (.ok (.ret (.ref (h.objs.size + 1)))) ⟨(h.push { cls:=.type "tuple",data:=.seq rest.toArray }).push (dq h.objs.size),g,d,t,os⟩):codeAny (model prog w) A (.builtin "Exception.__new__" ⟨.ref 71::rest,[]⟩) R ⟨h,g,d,t,os⟩:=by
 have Fn:=PySem.F.excBase_Exception
 have hends:=Fn.ends
 refine codeAny_builtinAt Fn.entry ?_
 unfold Builtin.«BaseException.__new__»
 refine PySem.wpAt_bind ?_
 show PySem.wpAt _ _ _ (stack >>= _) _ _ _
 refine PySem.wpAt_bind (PySem.wpAt_stack fun p below=>PySem.wpAt_of_wpAny ?_)
 wp_walk
 refine PySem.wpAt_of_wpAny ?_
 rw [Fn.owner]
 repeat (first | with_reducible refine wpAny_madeHere_exc Fn.canon hC ?_ | with_reducible refine wpAny_loadPart_at hC ?_ | (with_reducible refine wpAny_isSubtype_exc hC ?_; first | rw [r7] | rw [Iv] | rw [Iw]) | wp_step)
 show R _ _
 rw [Heap.size_push]
 exact hq
end
section
variable {W:ab} {A:Around} {E:Value→Shared→Prop}
theorem IF {H:Heap} {g:Array GenState} {d:Drawn} {t:Nat} {os':OsState} {v:Value} {Q:Value→Shared→Prop} (X:(aR W.w.params).In H)
  (hI:wpAny (model pg W.w) (A.under (.builtin "type.__call__" ⟨[.ref 71,v],[]⟩)) (call (.ref 36) [.ref (H.objs.size + 1),v]) (fun r s'=>r = .none∧Q (.ref (H.objs.size + 1)) s') (fun _ _=>False) ⟨(H.push { cls:=.type "tuple",data:=.seq [v].toArray }).push (dq H.objs.size),g,d,t,os'⟩):
  wpAny (model pg W.w) A (call (.ref 71) [v]) Q E ⟨H,g,d,t,os'⟩:=by
 have hC:H.get? 71 = some gD:=X _ _ (oq _)
 have Fn:=PySem.F.excBase_Exception
 have f1:=tc_lookup
 have f2:=tc_bind (.ref 71)
 have hT:(⟨H,g,d,t,os'⟩:Shared).TypeIs (.ref 71) "type":=⟨_,hC,rfl⟩
 refine wpAny_call (codeAny_of_tree ?_)
 show wpAny _ _ (callAny (.ref 71) _) _ _ _
 repeat (any_goals (first | assumption | with_reducible refine wpAny_loadPart_at hC ?_ | wp_step))
 refine ⟨rfl,?_⟩
 refine codeAny_call_builtin_at (Code.quiet_builtin _ (by decide +kernel)) entry_typeCall (wpAny_check_type_call_sub hC ?_)
 repeat (first | with_reducible refine wpAny_loadPart_at hC ?_ | with_reducible refine wpAny_madeBy_exc hC ?_ | wp_step)
 refine codeAny_call_builtin_code (Code.quiet_builtin _ Fn.quiet) (IC hC ?_)
 refine IE hC (by show 1≤sizeLine; rw [sizeLine_eq]; lia) ?_
 show wpAny _ _ _ _ _ _
 have hC1:((H.push { cls:=.type "tuple",data:=.seq [v].toArray }).push (dq H.objs.size)).get? 71 = some gD:=Heap.get?_push_of_some _ (Heap.get?_push_of_some _ hC)
 have X1:(aR W.w.params).In ((H.push { cls:=.type "tuple",data:=.seq [v].toArray }).push (dq H.objs.size)):=fun a o e=>Heap.get?_push_of_some _ (Heap.get?_push_of_some _ (X a o e))
 have he:((H.push { cls:=.type "tuple",data:=.seq [v].toArray }).push (dq H.objs.size)).get? (H.objs.size + 1) = some (dq H.objs.size):=by heap_get
 unfold isInstance
 repeat (first | with_reducible refine wpAny_loadPart_at he ?_ | ((show wpAny _ _ (isSubtype (.ref 71) (.ref 71)) _ _ _); refine wpAny_isSubtype_exc hC1 ?_; rw [Iz]) | wp_step)
 show wpAny _ _ (typeLookup (.ref 71) _) _ _ _
 refine (looks_findIn X1 (Io _)).here ?_
 refine wpAny_holding (wpAny_bind ?_)
 unfold bindSpecial
 refine wpAny_bind ((looks_typeIn X1 (Ip _)).here ?_)
 rw [if_pos (by decide)]
 refine wpAny_pure (wpAny_bind (wpAny_mono hI (fun r s' hr=>?_) fun _ _ x=>x.elim))
 obtain ⟨rfl,hQ⟩:=hr
 wp_walk
 exact hQ
end
end Mine
end
section
open PySem PySem.W PyProof.Rows PySem.Calls
set_option maxRecDepth 100000
namespace Mine
section
noncomputable def et:Str:=⟨#[115,101,108,102]⟩
noncomputable def gF:Str:=⟨#[69,120,99,101,112,116,105,111,110]⟩
theorem IG (P:Params):(KH P).nsMap mainGlobals gF = none:=by kernel_rfl
theorem IH:bootBuiltins gF = some (.type "Exception"):=by kernel_rfl
open PySem.Builtin PySem.Builtin.ObjectAttr
section
variable {prog:Program} {w:World} {A:Around} {E:Value→Shared→Prop} {R:Result→Shared→Prop} {s:Shared} {x:Addr} {ox:Obj} {od:Option Obj} {name:Str} {tk:Tok} {v:Value}
theorem zj (X:(aR w.params).In s.heap) (I:InstAt s.heap x ox 71 od) (ht:takerIn (aR w.params) 71 name = some none)
  (h:∀ b,wpAny (model prog w) A.in1 (storeInOwnDict (.ref x) (.ref 71) (.str name tk) name v b) (fun fin s'=>match fin with | .done f=>R (.ok f) s' | .again c'=>c'.quiet = true∧codeAny (model prog w) A c' R s') (fun e s'=>R (.error e) s') s):
  codeAny (model prog w) A (.call (.builtin "object.__setattr__") ⟨[.ref x,.str name tk,v],[]⟩) R s:=by
 have SF:=PySem.F.store_object
 obtain ⟨cd,hc,ho⟩:=Option.map_eq_some_iff.mp (It w.params)
 have sub:Looks (model prog w) s.heap (isInstance (.ref x) (.type "object")) true:=I.type.andThen (looks_mroIn X (by unfold mroIn; rw [hc,Option.bind_some,ho]; rfl))
 refine codeAny_call_builtin SF.slot.plain SF.entry (@check_slot (model prog w) _ _ s "object.__setattr__" "object" "__setattr__" (.ref x) [.str name tk,v] [] _ SF.kind SF.split sub (SF.args (.ref x) (.str name tk) v) ?_)
 obtain ⟨attr,ha,hr⟩:=Option.bind_eq_some_iff.mp ht
 have hm:Looks (model prog w) s.heap (mroOf (.ref 71)) (.ref 71::eG):=ho▸(looks_clsIn X hc).andThen .now
 have L3:Looks (model prog w) s.heap (storeTaker? attr) none:=by
  cases attr with
  | none=>exact .now
  | some a=>
   obtain ⟨b,hb,hb'⟩:=Option.map_eq_some_iff.mp hr
   refine (looks_takesIn X hb).andThen ?_
   cases b
   ·exact .now
   ·exact c9 hb'
 rw [osa_eq,refuse_eq]
 refine wpAny_bind (wpAny_bind (I.type.here (wpAny_bind (hm.here ?_))))
 rw [IB]
 refine wpAny_pure (wpAny_bind (I.type.here (wpAny_bind ((looks_findIn X ha).here (wpAny_bind (L3.here ?_))))))
 exact h _
set_option tactic.hygienic true in
theorem zk {dx:Addr} {es:List DictEntry} {n:Nat} (D:s.heap.get? dx = some (dictOf es n)) (hl:(getL name es).isSome = true) (hz:(putL name (PyData.keyHash w.params name) (.str name s.toks) v es).length≤1000)
  (h:R (.ok (.ret .none)) { s with heap:=s.heap.update dx (Obj.putName name (PyData.keyHash w.params name) (.str name s.toks) v),toks:=s.toks + 1 }):
  wpAny (model prog w) A.in1 (storeInDict dx (.str name tk) name v) (fun fin s'=>match fin with | .done f=>R (.ok f) s' | .again c'=>c'.quiet = true∧codeAny (model prog w) A c' R s') (fun e s'=>R (.error e) s') s:=by
 refine wpAny_bind (wpAny_pure (wpAny_bind ?_))
 unfold nsSet
 refine wpAny_bind (wpAny_bind (wpAny_askSetting (wpAny_pure (wpAny_bind (wpAny_mkText (wpAny_bind (wpAny_loadPart D ?_)))))))
 dsimp only
 have c:(!es.toArray.any (·.key.isStr name) && es.toArray.any (·.refKey)) = false:=by
  rw [← Array.any_toList,← Array.any_toList]
  unfold getL at hl
  split at hl
  ·rename_i en he
   rw [List.any_eq_true.mpr ⟨en,List.mem_of_find?_eq_some he,List.find?_some he⟩]; rfl
  ·split at hl
   ·exact aS hl
   ·rename_i z; rw [Bool.not_eq_true] at z; rw [z,Bool.and_false]
 rw [aRefKeyMayBeTheName_at,c]
 refine wpAny_updatePart D ?_
 have D':(s.heap.update dx (Obj.putName name (PyData.keyHash w.params name) (.str name s.toks) v)).get? dx = some (dictOf (putL name (PyData.keyHash w.params name) (.str name s.toks) v es) (putN name es n)):=by
  rw [← putName_dict]; exact Heap.get?_update_self _ D (by rw [putName_dict]; rfl)
 refine wpAny_bind (wpAny_lookBehind D' (pastItsLine_dict (by rw [List.size_toArray,sizeLine_eq]; lia)) ?_)
 exact wpAny_pure h
theorem II {vs:Array Value} (X:(aR w.params).In s.heap) (he:s.heap.get? x = some ox) (hc:ox.cls = .ref 71) (hdt:ox.data = .fields vs) (hdi:ox.dict = none) (ht:takerIn (aR w.params) 71 name = some none) {Q:Unit→Shared→Prop}
  (h:∀ h' tk t n',(∀ b o,b≠x→s.heap.get? b = some o→h'.get? b = some o)→h'.get? x = some { ox with dict:=some s.heap.objs.size }→h'.get? s.heap.objs.size = some (dictOf (putL name (PyData.keyHash w.params name) (.str name t) v []) n')→Q () { s with heap:=h',toks:=tk }):wpAny (model prog w) A (setAttr (.ref x) name v) Q E s:=by
 have I:InstAt s.heap x ox 71 none:=⟨he,hc,by unfold notCls; rw [hdt],by rw [hdi]; trivial⟩
 refine set_plain X I (zh _) (zj (s:={ s with toks:=s.toks + 1 }) X I ht fun b=>?_)
 obtain ⟨cd,hcd,hdd⟩:=any_some (zi w.params)
 obtain ⟨oc,odi,oda,osl⟩:=ox
 dsimp only at hc hdt hdi
 subst hc hdt hdi
 refine wpAny_bind (wpAny_pure (wpAny_bind (wpAny_bind (wpAny_loadPart he (wpAny_bind (Looks.here (s:={ s with toks:=s.toks + 1 }) (looks_clsIn X hcd) ?_))))))
 rw [hdd]
 refine wpAny_bind (wpAny_alloc ?_)
 have hxs:x < s.heap.objs.size:=Heap.lt_size he
 have he1:=Heap.get?_push_of_some (h:=s.heap) { cls:=.type "dict",data:=.dict #[] } he
 refine wpAny_bind (wpAny_update he1 (wpAny_pure (a:=some s.heap.objs.size) ?_))
 have hne:x≠s.heap.objs.size:=Nat.ne_of_lt hxs
 have D:((s.heap.push { cls:=.type "dict",data:=.dict #[] }).update x fun o=>{ o with dict:=some s.heap.objs.size }).get? s.heap.objs.size = some (dictOf [] 0):=(Heap.get?_update_other _ _ hne).trans (Heap.get?_push_size _ rfl)
 refine zk (A:=A) (w:=w) (v:=v) (R:=fun r s'=>match r with | .ok (.ret _)=>Q () s' | .ok _=>False | .error e=>E e s') (s:={ s with heap:=(s.heap.push { cls:=.type "dict",data:=.dict #[] }).update x fun o=>{ o with dict:=some s.heap.objs.size },toks:=s.toks + 1 }) D rfl (by show 1≤1000; decide) ?_
 refine h _ _ (s.toks + 1) (putN name [] 0) (fun b o n1 e=>?_) ?_ ?_
 ·exact (Heap.get?_update_other _ _ (Nat.ne_of_gt (Heap.lt_size e))).trans ((Heap.get?_update_other _ _ (Ne.symm n1)).trans (Heap.get?_push_of_some _ e))
 ·refine (Heap.get?_update_other _ _ (Ne.symm hne)).trans ?_
  exact Heap.get?_update_self _ he1 rfl
 ·rw [← putName_dict]; exact Heap.get?_update_self _ D (by rw [putName_dict]; rfl)
theorem IJ {vs:Array Value} {dx:Addr} {es:List DictEntry} {n:Nat} (X:(aR w.params).In s.heap) (he:s.heap.get? x = some ox) (hc:ox.cls = .ref 71) (hdt:ox.data = .fields vs) (hdi:ox.dict = some dx) (D:s.heap.get? dx = some (dictOf es n)) (hl:(getL name es).isSome = true) (hz:es.length≤900) (ht:takerIn (aR w.params) 71 name = some none) {Q:Unit→Shared→Prop}
  (h:∀ h' tk,(∀ b,b≠dx→h'.get? b = s.heap.get? b)→(∃ o,h'.get? dx = some o)→Q () { s with heap:=h',toks:=tk }):wpAny (model prog w) A (setAttr (.ref x) name v) Q E s:=by
 have I:InstAt s.heap x ox 71 (some (dictOf es n)):=⟨he,hc,by unfold notCls; rw [hdt],by rw [hdi]; exact D⟩
 refine set_plain X I (zh _) (zj (s:={ s with toks:=s.toks + 1 }) X I ht fun b=>?_)
 obtain ⟨cd,hcd,hdd⟩:=any_some (zi w.params)
 obtain ⟨oc,odi,oda,osl⟩:=ox
 dsimp only at hc hdt hdi
 subst hc hdt hdi
 refine wpAny_bind (wpAny_pure (wpAny_bind (wpAny_bind (wpAny_loadPart he (wpAny_bind (Looks.here (s:={ s with toks:=s.toks + 1 }) (looks_clsIn X hcd) ?_))))))
 rw [hdd]
 refine wpAny_pure (a:=some dx) ?_
 refine zk (A:=A) (w:=w) (v:=v) (R:=fun r s'=>match r with | .ok (.ret _)=>Q () s' | .ok _=>False | .error e=>E e s') (s:={ s with toks:=s.toks + 1 }) D hl (Nat.le_trans nR (by lia)) ?_
 refine h _ _ (fun b n1=>Heap.get?_update_other _ _ (Ne.symm n1)) ⟨_,Heap.get?_update_self _ D (by rw [putName_dict]; rfl)⟩
end
end
end Mine
end
section
set_option backward.match.sparseCases false
open PySem PySem.W PyProof.Rows PySem.Calls
set_option maxRecDepth 100000
set_option maxHeartbeats 4000000
namespace Mine
section
theorem IK:typeOf (.type "Exception") = pure (.type "type"):=by kernel_rfl
theorem IL:Manifest.isStub "Exception" = false:=by kernel_rfl
theorem IM (P:Params):findCls (aR P) (.type "Exception") (.type "type") fO = some (.val (.builtin "Exception.__init__")):=by rw [Hc]; exact Iu P
theorem IP (P:Params):keepIn (aR P) (.ref 71) = true:=by kernel_rfl
noncomputable def ExcAt (h':Heap) (e:Addr):Prop:=∃ oe vs,h'.get? e = some oe∧oe.cls = .ref 71∧oe.data = .fields vs∧vs[1]? = some .none
noncomputable def ik:FE:=⟨36,az 2 0,some 29,[.none],[2]⟩
theorem IQ:∃ p1 p2 p3 p4 p5 p6 q1 q2 q3 q4 r1 r2 r3 r4,ik.F.body = [.Expr (.Call (.Attribute (.Name gF p1) fO p2) [.Name et p3,.Name dX p4] [] p5) p6,.Assign [.Attribute (.Name et q1) dX q2] (.Name dX q3) q4,.Assign [.Attribute (.Name et r1) gE r2] (.Name gE r3) r4]∧(p2.endLine == p5.line) = true:=⟨_,_,_,_,_,_,_,_,_,_,_,_,_,_,rfl,rfl⟩
variable {W:ab} {A:Around} {E:Value→Shared→Prop}
theorem IS:ee W (.ref 71):=fun g G=>by
 obtain ⟨k,hk1,hk2⟩:=looks_keep (M:=model pg W.w) (IP W.w.params) G.K
 exact ⟨k,hk1.elim .inl fun q=>.inr (.inl q),hk2⟩
theorem IT {prog:Program} {w:World} {R:Result→Shared→Prop} {s:Shared} {e t0:Addr} {v:Value} (X:(aR w.params).In s.heap) (he:s.heap.get? e = some (dq t0))
  (hQ:∀ h' t1,(∀ b o,b≠e→s.heap.get? b = some o→h'.get? b = some o)→h'.get? e = some (dq t1)→R (.ok (.ret .none)) { s with heap:=h' }):
  codeAny (model prog w) A (.call (.builtin "Exception.__init__") ⟨[.ref e,v],[]⟩) R s:=by
 have F:=PySem.F.excBase_Exception
 obtain ⟨hp,g,d,t,o'⟩:=s
 have hC:hp.get? 71 = some gD:=X _ _ (oq _)
 refine codeAny_call_builtin F.init.plain F.initEntry (ID hC he rfl ?_)
 have he1:(hp.push { cls:=.type "tuple",data:=.seq [v].toArray }).get? e = some (dq t0):=Heap.get?_push_of_some _ he
 wp_walk
 refine hQ _ hp.objs.size (fun b o n e=>?_) ?_
 ·exact (Heap.get?_update_other _ _ (Ne.symm n)).trans (Heap.get?_push_of_some _ e)
 ·exact Heap.get?_update_self _ he1 rfl
theorem IU {l:List (Addr×Obj)} {a:Addr} {o:Obj} (e:(iR l).lookup a = some o):aP l a = some o:=qn.symm.trans (mL e).2.2
theorem IV:opaqueClassAbove (.type "Exception") = pure none:=by unfold opaqueClassAbove; dsimp only; rw [IL]; rfl
theorem IW {prog:Program} {w:World} {s:Shared} {pl:Sem Bool} {Q:Value×List Value→Shared→Prop} (X:(aR w.params).In s.heap) (h:Q (.builtin "Exception.__init__",[]) { s with toks:=s.toks + 1 }):wpAny (model prog w) A (getMethod (.type "Exception") fO pl) Q E s:=by
 have L0:Looks (model prog w) s.heap (typeOf (.type "Exception")) (.type "type"):=Looks.of_pure IK
 unfold getMethod specialOf
 refine wpAny_bind (wpAny_bind (L0.here ((looks_findIn X (by kernel_rfl:findIn (aR w.params) (.type "type") "__getattribute__" = some (some (.builtin "type.__getattribute__")))).here ?_)))
 dsimp only
 rw [if_pos canon_tga]
 refine wpAny_bind (wpAny_mono (Q:=fun v=>Q (v,[])) (E:=E) ?_ (fun _ _ z=>wpAny_pure z) fun _ _ z=>z)
 exact cls_open X (Looks.of_pure IV) L0 (by kernel_rfl) (looks_hook X (r:=none) (by rfl)) (by show subIn _ _ _ = _; rfl) (IM _) (wpAny_pure (by show wpAny _ _ (handedOut _) _ _ _; rw [handedOut_of rfl]; exact wpAny_pure h))
theorem IX {env:Env} {m:Str→Option Value} {s:Shared} {e t0:Addr} {v:Value} {Q:Flow→Shared→Prop} (K:eY env) (hh:A.handled = none) (sc:env.scope = ik.F.scope) (G:GG W s.heap) (hns:s.heap.Ns env.locals m) (m1:m et = some (.ref e)) (m2:m dX = some v) (m3:m gE = some .none)
  (he:s.heap.get? e = some (dq t0)) (e0:W.h0.get? e = none) (hQ:∀ h' tk,(∀ b o,b≠e→s.heap.get? b = some o→h'.get? b = some o)→ExcAt h' e→Q .next { s with heap:=h',toks:=tk }):ay W A (execs ik.F.body env) Q E s:=by
 refine af fun nG=>?_
 obtain ⟨p1,p2,p3,p4,p5,p6,q1,q2,q3,q4,r1,r2,r3,r4,hb,hpos⟩:=IQ
 refine nG ?_
 rw [hb]
 have k1:env.kindOf et = some .local:=by show env.scope.names.lookup _ = _; rw [sc]; decide +kernel
 have k2:env.kindOf dX = some .local:=by show env.scope.names.lookup _ = _; rw [sc]; decide +kernel
 have k3:env.kindOf gE = some .local:=by show env.scope.names.lookup _ = _; rw [sc]; decide +kernel
 have k4:env.kindOf gF = some .globalImplicit:=by show env.scope.names.lookup _ = _; rw [sc]; decide +kernel
 have dbg:∀ {x k},env.kindOf x = some k→(x == ("__debug__":Str)) = false:=fun {x k} q=>(K.names x (by rw [show env.scope.names.lookup x = some k from q]; exact fun z=>(by cases z))).1
 have XK:∀ {h1:Heap},(∀ b o,b≠e→s.heap.get? b = some o→h1.get? b = some o)→(aR W.w.params).In h1:=fun k a o q=>k a o (fun z=>by rw [z] at q; rw [W.B.fact _ _ (IU q)] at e0; cases e0) (G.K a o q)
 have eL:env.locals≠e:=fun z=>by obtain ⟨o,_,_,q,q',_⟩:=hns; rw [z,he] at q; cases q; cases q'
 have NS:∀ {h1:Heap},(∀ b o,b≠e→s.heap.get? b = some o→h1.get? b = some o)→h1.Ns env.locals m:=fun k=>let ⟨o,es,ep,q,r⟩:=hns; ⟨o,es,ep,k _ _ eL q,r⟩
 have nm:∀ {s1:Shared} {x:Str} {u:Value} {pos:Pos} {Q:Value→Shared→Prop},env.kindOf x = some .local→s1.heap.Ns env.locals m→m x = some u→Q u s1→ay W A (eval (.Name x pos) env) Q E s1:=fun k n q z=>wpAny_Name (wpAny_loadName_local K.kind k n q z) (dbg k)
 refine wpAny_execs_cons ?_
 refine wpAny_Expr_any ?_ ((by unfold interactive; rw [K.kind]; rfl)) rfl
 have ha:∀ x∈[Expr.Name et p3,Expr.Name dX p4],dj x:=fun x m=>by
  rcases List.mem_cons.mp m with rfl | m
  ·exact fun _ _=>rfl
  ·rw [List.mem_singleton.mp m]; exact fun _ _=>rfl
 rw [arm_eval_Call]
 refine wpAny_bind (Name_function_global K.kind k4 ?_ (dbg k4))
 refine af fun nG=>?_
 obtain ⟨mb,hbt,hx⟩:=G.b
 refine nG ?_
 refine loadGlobal_builtin (by rw [K.globals]; exact G.g) (IG _) (by rw [K.builtins]; exact hbt) ((hx gF (by decide +kernel)).trans IH) (wpAny_bind (wpAny_standAt ?_))
 have hform:methodCallForm ([Expr.Name et p3,Expr.Name dX p4].length + 0) (backTo p5 (starEach [Expr.Name et p3,Expr.Name dX p4] env)) [] = true:=by
  unfold methodCallForm
  rw [(qC ha env).2 p5]; rfl
 show wpAny _ _ (methodCall (.Name gF p1) fO p2 p5 env (.type "Exception") ([Expr.Name et p3,Expr.Name dX p4].length + 0) (backTo p5 (starEach [Expr.Name et p3,Expr.Name dX p4] env)) []) _ _ _
 unfold methodCall
 rw [hform]
 refine wpAny_bind (wpAny_holding ?_)
 show wpAny _ _ (getMethod (.type "Exception") fO _) _ _ _
 refine IW G.K ?_
 have hp':methodCallPos true (.Name gF p1) env p2 p5 = pure p5:=by
  unfold methodCallPos
  rw [hpos]; rfl
 show wpAny _ _ (methodCallPos true (.Name gF p1) env p2 p5 >>= _) _ _ _
 rw [hp']
 refine wpAny_bind (wpAny_pure ?_)
 refine g7 (first:=[]) ha (fG _) ?_
 show wpAny _ _ (do
   let v ← eval (.Name et p3) env
   let here ← (pure [v]:Sem (List Value))
   return here ++ (← holding here (do
    let v ← eval (.Name dX p4) env
    let here ← (pure [v]:Sem (List Value))
    return here ++ (← holding here (spliced []))))) _ _ _
 refine wpAny_bind (nm k1 hns m1 (wpAny_bind (wpAny_pure (wpAny_bind (wpAny_holding (wpAny_bind (nm k2 hns m2 (wpAny_bind (wpAny_pure (wpAny_bind (wpAny_holding ?_)))))))))))
 refine wpAny_pure (wpAny_pure (wpAny_pure ⟨G,?_⟩))
 refine wpAny_call (IT G.K he fun h1 t1 kp1 he1=>?_)
 refine wpAny_execs_cons (plainObj_wpAny_Assign_Attribute ?_ ((cV _).swap rfl _ _ _))
 refine nm k2 (NS kp1) m2 (nm k1 (NS kp1) m1 ?_)
 refine II (s:={ s with heap:=h1,toks:=_ }) (XK kp1) he1 rfl rfl rfl (Iq _) fun h2 tk2 t2 n2 kp2 he2 hd2=>?_
 have kp2':∀ b o,b≠e→s.heap.get? b = some o→h2.get? b = some o:=fun b o n q=>kp2 b o n (kp1 b o n q)
 refine wpAny_execs_cons (plainObj_wpAny_Assign_Attribute ?_ ((cV _).swap rfl _ _ _))
 refine nm k3 (NS kp2') m3 (nm k1 (NS kp2') m1 ?_)
 refine IJ (s:={ s with heap:=h2,toks:=tk2 }) (XK kp2') he2 rfl rfl rfl hd2 (by kernel_rfl) (Nat.le_trans nR (by show 1≤900; decide)) (Ir _) fun h3 tk3 kp3 hd3=>?_
 have nd:∀ b o,s.heap.get? b = some o→b≠h1.objs.size:=fun b o q z=>by
  by_cases y:b = e
  ·have:=Heap.lt_size he1; rw [← y,z] at this; exact Nat.lt_irrefl _ this
  ·have:=Heap.lt_size (kp1 b o y q); rw [z] at this; exact Nat.lt_irrefl _ this
 refine wpAny_execs_nil (hQ h3 tk3 (fun b o n q=>(kp3 b (nd b o q)).trans (kp2' b o n q)) ⟨_,_,(kp3 e (nd e _ he)).trans he2,rfl,rfl,rfl⟩)
theorem IY:d9 ik.F.scope = false:=by kernel_rfl
theorem IZ {d:Nat} (a:dh (d + 1) A) {s:Shared} {e t0:Addr} {v:Value} {Q:Value→Shared→Prop} (G:GG W s.heap) (he:s.heap.get? e = some (dq t0)) (e0:W.h0.get? e = none)
  (hQ:∀ h' tk,aw (· = e) s.heap h'→ExcAt h' e→Q .none (mv s h' tk)):ay W A (call (.ref 36) [.ref e,v]) Q E s:=by
 refine wpAny_call (kl (own:=[]) (ad:=[]) (U:=fun _=>False) (as:=[.con (.ref e),.con v]) (hX (e:=ik) (.head _)) a (fun q=>by rw [IY] at q; cases q) rfl ⟨G,(fun _ e=>by cases e)⟩ .none (.mk rfl (.mk rfl rfl)) fun c hp tk en S=>?_)
 refine af fun nG=>?_
 have K0:ag s.heap hp:=(ag.of fun b o q=>by rw [en.h]; exact a9.mpr ⟨q,cN⟩).trans S.keep
 have kd:∀ {x:Str} {u:Value},ik.F.scope.names.lookup x = some .local→lk x (ik.F.fill [.con (.ref e),.con v]) = some (.con u)→∃ m,hp.Ns c.env.locals m∧m x = some u:=fun {x u} k l=>by
  have kx:c.env.kindOf x = some .local:=by show c.env.scope.names.lookup x = _; rw [c.es]; exact k
  cases S.loc x _ l with
  | loc _ n e r=>exact ⟨_,n,(show _ = u from r)▸e⟩
  | cel k'=>rcases k' with k' | k'<;>(rw [kx] at k'; cases k')
 obtain ⟨m,n1,m1⟩:=kd (x:=et) (u:=.ref e) (by decide +kernel) (by rfl)
 obtain ⟨m',n2,m2⟩:=kd (x:=dX) (u:=v) (by decide +kernel) (by rfl)
 refine nG ?_
 have m3:m gE = some .none:=by
  cases S.loc gE .none (by rfl) with
  | loc _ n e r=>rw [n1.eq_nsMap,← n.eq_nsMap,e]; exact congrArg _ r
  | cel k'=>rcases k' with k' | k'<;>(rw [show c.env.kindOf gE = some .local by show c.env.scope.names.lookup _ = _; rw [c.es]; decide +kernel] at k'; cases k')
 have q2:m' = m:=by rw [n2.eq_nsMap,n1.eq_nsMap]
 subst q2
 refine IX (s:=mv s hp tk) c.K c.a.handled c.es (G.trans K0) n1 m1 m2 m3 (K0.get he rfl) e0 fun h' tk' k x=>hQ h' tk' ?_ x
 exact aw.comp K0.x (.eW (X:=(· = e)) (fun u o hu q=>by rw [hu,K0.get he rfl] at q; cases q; rfl) k) fun u hu=>.inl hu
theorem I0 {d:Nat} (a:dh (d + 3) A) {s:Shared} {v:Value} {Q:Value→Shared→Prop} (G:GG W s.heap)
  (hQ:∀ e h' tk,ag s.heap h'→s.heap.get? e = none→ExcAt h' e→Q (.ref e) (mv s h' tk)):ay W A (call (.ref 71) [v]) Q E s:=by
 obtain ⟨H,g,dr,t,os'⟩:=s
 have n1:H.get? (H.objs.size + 1) = none:=e7 (Nat.le_succ _)
 have kp:ag H ((H.push { cls:=.type "tuple",data:=.seq [v].toArray }).push (dq H.objs.size)):=(ag.push _ _).trans (ag.push _ _)
 have he:((H.push { cls:=.type "tuple",data:=.seq [v].toArray }).push (dq H.objs.size)).get? (H.objs.size + 1) = some (dq H.objs.size):=by heap_get
 refine IF G.K (IZ (A:=A.under (.builtin "type.__call__" ⟨[.ref 71,v],[]⟩)) (d:=d) ⟨a.handled,?_,?_⟩ (s:=⟨(H.push { cls:=.type "tuple",data:=.seq [v].toArray }).push (dq H.objs.size),g,dr,t,os'⟩) (G.trans kp) he (G.gone n1) fun h' tk kx x=>⟨rfl,hQ _ h' tk (kp.dF kx fun u hu=>hu▸n1) n1 x⟩)
 ·have:=a.depth
  have w:Code.weight (.builtin "type.__call__" ⟨[.ref 71,v],[]⟩) = 1:=rfl
  show A.depth + _ + (d + 1)≤900
  lia
 ·have:=a.units
  have w:Code.cUnits (.builtin "type.__call__" ⟨[.ref 71,v],[]⟩) = 1:=rfl
  show A.units + _ + 3 * (d + 1)≤9000
  lia
end
noncomputable def eH (A:Around) (FR:List Addr) (h:Heap):Prop:=∃ outer,A.frames = some outer∧cK outer FR h
theorem eH.keep {A:Around} {FR:List Addr} {h h':Heap} (f:eH A FR h) (k:ag h h'):eH A FR h':=let ⟨o,a,b⟩:=f; ⟨o,a,b.kf (k.kf FR)⟩
theorem eh.at {A:Around} {env:Env} {FR:List Addr} {h₀ h:Heap} (f:eh A env FR h₀) (k:ag h₀ h) (o:dk h env.locals):eH A (env.locals::FR) h:=let ⟨outer,a,b⟩:=f.ni (k.kf FR) o; ⟨env::outer,a,b⟩
theorem I1 {h:Heap} {L:Addr} {m:Str→Option Value} (n:h.Ns L m):dk h L:=let ⟨o,_,_,e,d,_⟩:=n; ⟨o,e,fun vs q=>by rw [d] at q; cases q⟩
theorem KF.eu {FR:List Addr} {h h':Heap} {L:Addr} (k:KF FR h h') (m:L∈FR) (o:dk h L):dk h' L:=let ⟨ob,e1,e2⟩:=o; let ⟨o',e3,e4⟩:=k.fd _ m ob e1 e2; ⟨o',e3,fun vs q=>e2 vs (e4▸q)⟩
theorem cb.imp {h₀:Heap} {c e:Addr} {P P':Option Value→Prop} {h:Heap} (x:cb h₀ c e P h) (f:∀ m,P m→P' m):cb h₀ c e P' h:=by
 refine af fun nG=>?_
 obtain ⟨n,oe,vs,h1,h2,h3,q⟩:=x
 refine nG ?_
 refine ⟨n,oe,vs,h1,h2,h3,q.imp (fun z=>⟨z.1,f _ z.2⟩) ?_⟩
 rintro ⟨T,oT,ts,mk,a1,a2,a3,a4,a5,a6,a7,a8⟩
 exact ⟨T,oT,ts,mk,a1,a2,a3,a4,a5,a6,a7,f _ a8⟩
theorem I2 {W:ab} {A:Around} {E:Value→Shared→Prop} {s:Shared} {env:Env} {x:Sem Value} {Q:Flow→Shared→Prop} (hh:A.handled = none)
  (hx:ay W A x (fun v s₁=>∃ e,v = .ref e∧(aR W.w.params).In s₁.heap∧ExcAt s₁.heap e∧E (.ref e) s₁) E s):ay W A (raiseStmt env (some x) none) Q E s:=by
 unfold raiseStmt
 refine wpAny_bind (wpAny_mono hx (fun v s₁ h₁=>?_) fun _ _ x=>x)
 refine af fun nG=>?_
 obtain ⟨e,rfl,X,⟨oe,vs,he,hc,hd,hv⟩,hE⟩:=h₁
 obtain ⟨hp,g,d,tk,os⟩:=s₁
 have hC:hp.get? 71 = some gD:=X _ _ (oq _)
 obtain ⟨oc,odi,oda,osl⟩:=oe
 refine nG ?_
 dsimp only at hc hd
 subst hc hd
 repeat (first | with_reducible refine wpAny_loadPart_at he ?_ | with_reducible refine wpAny_loadPart_at hC ?_ | ((show wpAny _ _ (isSubtype (.ref 71) (.type "BaseException")) _ _ _); refine wpAny_isSubtype_exc hC ?_; rw [Iy]) | ((show wpAny _ _ (isSubtype (.ref 71) (.type "type")) _ _ _); refine wpAny_isSubtype_exc hC ?_; rw [IA]) | wp_step)
 rw [hv]
 refine wpAny_pure ?_
 rw [if_neg (by decide)]
 exact wpAny_pure (wpAny_raiseNew_none hh hE)
theorem zl (P:Params):(KH P).nsMap mainGlobals bQ = some (.ref 71):=by kernel_rfl
structure e9 (W:ab) (d:Nat) (f:Value) (as:List AV) (c:Addr):Prop where
 keep:ee W f
 run:∀ A,dh d A→∀ U s vs FR (Q:Value→Shared→Prop) (E:Value→Shared→Prop),Base W U s.heap→ai W ⟨aF U s.heap,[]⟩ vs as→eH A FR s.heap→(∀ e h' tk,KF FR s.heap h'→cb s.heap c e m9 h'→E (.ref e) (mv s h' tk))→ay W A (call f vs) Q E s
section
variable {W:ab} {d:Nat} {sc:Fs} {c:aj W d sc} {σ σ':aq} {own own1:Own} {pos:Pos}
theorem e9.up {d':Nat} {f:Value} {as:List AV} {x:Addr} (t:e9 W d f as x) (h:d≤d'):e9 W d' f as x:=⟨t.keep,fun A a=>t.run A (a.up h)⟩
theorem SV.nL {p:Pt} (S:SV c σ p):c.h₀.get? c.env.locals = none:=(S.low _ c.base).1
theorem SV.eu {p:Pt} (S:SV c σ p):dk p.h c.env.locals:=let ⟨_,n⟩:=S.ns; I1 n
noncomputable abbrev SV.hh (p:Pt):Heap:=aQ (ao p.own p.ad) p.h
theorem SV.ot {p:Pt} (S:SV c σ p):ag c.h₀ (SV.hh p):=S.keep.fE fun u z=>⟨S.new u z,S.owns.low z⟩
theorem SV.r9 {p:Pt} (S:SV c σ p):dk (SV.hh p) c.env.locals:=let ⟨o,e,n⟩:=S.eu; ⟨o,a9.mpr ⟨e,fun z=>S.owns.nU z (.inr c.base)⟩,n⟩
theorem SV.raised {p:Pt} (S:SV c σ p) {FR:List Addr} {h':Heap} (k:KF (c.env.locals::FR) (SV.hh p) h'):KF FR c.h₀ h':=(S.ot.kf FR).drop k.kx (fun L m=>k.fd L (.tail _ m)) fun u hu=>(List.mem_cons.mp hu).elim (fun q=>.inr (q▸S.nL)) .inl
theorem zm {f:Str} {fp cp:Pos} {es:List Expr} {fv:Value} {as:List AV} {x:Addr} {FR:List Addr} {s:Shared} {ad:List Addr} {Q:Value→Shared→Prop} {E:Value→Shared→Prop} (hf:ak c σ own (eval (.Name f fp) c.env) (.con fv) own) (ha:∀ x∈es,dj x) (hl:bU c σ own (spliced (backTo cp (starEach es c.env))) as own1) (na:bc as = true) (T:e9 W d fv as x)
  (S:SV c σ ⟨own,ad,s.heap⟩) (fr:eh c.A c.env FR c.h₀) (g:∀ e h' tk,KF (c.env.locals::FR) (SV.hh ⟨own,ad,s.heap⟩) h'→cb (SV.hh ⟨own,ad,s.heap⟩) x e m9 h'→E (.ref e) (mv s h' tk)):ay W c.A (eval (.Call (.Name f fp) es [] cp) c.env) Q E s:=by
 show wpAny _ _ ((eval (.Name f fp) c.env) >>= fun fv=>callWith cp fv [] (backTo cp (starEach es c.env)) []) _ _ _
 refine wpAny_bind (hf s ad _ _ S fun v g1 t1 a1 k1 r1=>?_)
 obtain rfl:v = fv:=r1
 refine g7 (first:=[]) ha T.keep (hl _ a1 _ _ (S.after k1) fun ws g2 t2 a2 k2 r2=>?_)
 have k:=k1.trans k2
 have S2:=S.after k
 rw [List.nil_append]
 exact ⟨S2.Gp,T.run c.A c.a (fun u=>c.U u∨ao own1 a2 u) (mv s g2 t2) ws (c.env.locals::FR) _ _ S2.B (e8 (fun _ _ z=>z) na r2) (fr.at S2.keep S2.eu) fun e h' tk kf x=>g e h' tk ((k.keep.kf _).trans kf) (x.mono k.keep)⟩
theorem aB.sa {y f:Str} {py fp cp:Pos} {es:List Expr} {fv:Value} {as:List AV} {x:Addr} (hf:ak c σ own (eval (.Name f fp) c.env) (.con fv) own) (ha:∀ x∈es,dj x) (hl:bU c σ own (spliced (backTo cp (starEach es c.env))) as own1) (na:bc as = true) (T:e9 W d fv as x):aB c σ own (exec (.Assign [.Name y py] (.Call (.Name f fp) es [] cp) pos) c.env) (.exc x):=fun s ad Q E S ⟨FR,fr,g⟩=>
 wpAny_Assign_Name (zm hf ha hl na T S fr fun e h' tk k q=>g e h' tk (S.raised k) S.nL (k.eu (.head _) S.r9) ((q.mono S.ot).imp fun m z=>.inr (.inl z))) rfl
theorem aB.I3 {np kp cp:Pos} {k:Const} {cl:Nat} {a:AV} (hd:3≤d) (hk:lk bQ sc.sc.names = some .globalImplicit) (he:ak c σ own (eval (.Constant k cl kp) c.env) a own):aB c σ own (exec (.Raise (some (.Call (.Name bQ np) [.Constant k cl kp] [] cp)) none pos) c.env) (.exc 71):=fun s ad Q E S ⟨FR,fr,g⟩=>by
 rw [arm_exec_Raise]
 refine wpAny_bind (wpAny_standAt (I2 c.a.handled ?_))
 refine wpAny_bind ?_
 show wpAny _ _ ((eval (.Name bQ np) c.env) >>= fun fv=>callWith cp fv [] (backTo cp (starEach [.Constant k cl kp] c.env)) []) _ _ _
 refine wpAny_bind ((ak.name hk (.inl ⟨rfl,.ref 71,.inl (zl _),fun V=>rfl⟩):ak c σ own (eval (.Name bQ np) c.env) (.con (.ref 71)) own) s ad _ _ S fun v g1 t1 a1 k1 r1=>?_)
 obtain rfl:v = .ref 71:=r1
 have hst:dj (.Constant k cl kp):=fun _ _=>rfl
 refine g7 (first:=[]) (fun x m=>by rw [List.mem_singleton.mp m]; exact hst) IS ((bU.cons hst he .nil:bU c σ own (spliced (backTo cp (starEach [.Constant k cl kp] c.env))) [a] own) (mv s g1 t1) a1 _ _ (S.after k1) fun ws g2 t2 a2 k2 r2=>?_)
 have S2:=S.after (k1.trans k2)
 obtain ⟨rv,rn⟩:=r2
 obtain rfl:=rn
 refine ⟨S2.Gp,I0 (d:=d - 3) (by rw [Nat.sub_add_cancel hd]; exact c.a) (s:=mv s g2 t2) S2.Gp fun e h' tk kk n x=>wpAny_bind (wpAny_standAt (wpAny_pure ⟨e,rfl,GG.K (S2.Gp.trans kk),x,?_⟩))⟩
 obtain ⟨oe,vs,b1,b2,b3,b4⟩:=x
 have k3:=S2.keep.trans kk
 exact g e h' tk (k3.kf FR) S2.nL (((kk.kf [c.env.locals]).eu (.head _) S2.eu)) ⟨S2.keep.gone n,oe,vs,b1,b2,b3,.inl ⟨b4,.inl rfl⟩⟩
end
section
variable {FR:List Addr} {h h':Heap} {X:AS}
theorem KF.data (k:KF FR h h') {b:Addr} {o:Obj} (e:h.get? b = some o) (n:∀ vs,o.data≠.fields vs):∃ o',h'.get? b = some o'∧o'.data = o.data:=by
 by_cases q:b∈FR
 ·exact k.fd b q o e n
 ·exact ⟨o,k.kx.b9 q e (.inr (d3 n)),rfl⟩
theorem KF.ns (k:KF FR h h') {a:Addr} {m:Str→Option Value} (n:h.Ns a m):h'.Ns a m:=by
 refine af fun nG=>?_
 obtain ⟨o,es,ep,ho,hd,r⟩:=n
 obtain ⟨o',e',d'⟩:=k.data ho (fun vs q=>by rw [hd] at q; cases q)
 refine nG ?_
 exact ⟨o',es,ep,e',d'.trans hd,r⟩
theorem KF.cell (k:KF FR h h') {c:Addr} {v:Option Value} (x:h.IsCell c v):h'.IsCell c v:=let ⟨o,a,b⟩:=x; let ⟨o',e,d⟩:=k.data a (fun vs q=>by rw [b] at q; cases q); ⟨o',e,d.trans b⟩
theorem KF.low (k:KF FR h h') (f:∀ L∈FR,dk h L) {u:Addr} (l:bA h u):bA h' u:=by
 obtain ⟨o,e,t⟩:=l
 by_cases q:u∈FR
 ·obtain ⟨o1,e1,n⟩:=f u q
  rw [e] at e1; cases e1
  obtain ⟨o',e',d⟩:=k.fd u q o e n
  exact ⟨o',e',d3 fun vs z=>n vs (d▸z)⟩
 ·exact ⟨o,k.kx.b9 q e (.inr t),t⟩
theorem KF.ex (k:KF FR h h') (f:∀ L∈FR,dk h L) {b:Addr} {o:Obj} (e:h.get? b = some o):∃ o',h'.get? b = some o':=by
 by_cases q:b∈FR
 ·obtain ⟨o1,e1,n⟩:=f b q
  rw [e] at e1; cases e1
  obtain ⟨o',e',_⟩:=k.fd b q o e n
  exact ⟨o',e'⟩
 ·exact k.kx.ex q e
theorem KF.I4 {L:Addr} (k:KF (L::FR) h h'):KF FR (aQ (· = L) h) h':=
 have nL:∀ {b o},(aQ (· = L) h).get? b = some o→h.get? b = some o∧b≠L:=fun e=>a9.mp e
 ⟨⟨fun b o nb e=>k.kx.same b o (fun q=>(List.mem_cons.mp q).elim (nL e).2 nb) (nL e).1,fun P q m t=>k.kx.tab P q m (ag.dQ.tab P q m t)⟩,fun u m o e n=>k.fd u (.tail _ m) o (nL e).1 n⟩
theorem KF.I5 {h1:Heap} (k:KF FR h h1) (l:ag (aQ X h1) h') (lo:∀ u,X u→h.get? u = none∧bA h1 u) (f:∀ L∈FR,∃ o,h.get? L = some o):KF FR h h':=by
 have nX:∀ {b o},h.get? b = some o→¬X b:=fun e z=>by rw [(lo _ z).1] at e; exact ar e
 refine ⟨⟨fun b o nb e=>?_,fun P q m t=>?_⟩,fun L m o e n=>?_⟩
 ·obtain ⟨o1,e1,s1⟩:=k.kx.same b o nb e
  obtain ⟨o2,e2,s2⟩:=l.same b o1 id (a9.mpr ⟨e1,nX e⟩)
  exact ⟨o2,e2,s1.trans s2⟩
 ·exact l.tab P q m ((aw.eW (X:=X) (fun u o q e=>(lo u q).2.tab e) (fun b o n e=>a9.mpr ⟨e,n⟩):aw X h1 (aQ X h1)).tab P q m (k.kx.tab P q m t))
 ·obtain ⟨o1,e1,d1⟩:=k.fd L m o e n
  exact ⟨o1,l.gj (a9.mpr ⟨e1,nX e⟩) (d3 fun vs z=>n vs (d1▸z)),d1⟩
end
theorem I6 {W:ab} {A:Around} {env:Env} {FR:List Addr} {h₀:Heap} {c e:Addr} {s:Shared} {E E':Value→Shared→Prop} (fp:eh A env FR h₀) (k:KF FR h₀ s.heap) (hL:h₀.get? env.locals = none) (o:dk s.heap env.locals) (x:cb h₀ c e (m8 env.locals) s.heap)
  (T:∀ h',KF FR h₀ h'→cb h₀ c e m9 h'→E (.ref e) (mv s h' s.toks)):ay W A («leaving» env (.ref e)) (fun _ s''=>E (.ref e) s'') E' s:=by
 refine af fun nG=>?_
 obtain ⟨outer,a,fl⟩:=fp.ni k o
 refine nG ?_
 exact Ge a fl fp.fr k hL x T
section
variable {W:ab} {d:Nat} {sc:Fs} {c:aj W d sc} {σ σ':aq} {own own1:Own} {pos:Pos}
theorem eH.enter {A:Around} {own:Own} {ad:List Addr} {s:Shared} {U:AS} (en:yc c A U own ad s) {FR:List Addr} (f:eH A FR (aQ (ao own ad) s.heap)):eh c.A c.env FR c.h₀:=by
 obtain ⟨o,a,b⟩:=f
 exact ⟨en.fr,(by rw [c.K.kind]; exact fun z=>(by cases z)),o,by rw [en.A]; exact Around.frames_deeper a,en.h▸b⟩
theorem je {h:Heap}:ag h (aQ (ao [] []) h):=ag.of fun b o e=>a9.mpr ⟨e,cN⟩
theorem I7 {f x:Addr} {fd:FuncData} {F:Fn} {ks:List Nat} (X:gp W f fd F ks) {as:List AV} (ht:d9 F.scope = false) (hk:ks.any (Nat.beq as.length) = true) (na:bc as = true) (h:∀ c:aj W d ⟨F.scope,true⟩,aB c (F.fill as) [] (execs F.body c.env) (.exc x)):e9 W (d + 1) (.ref f) as x:=⟨X.keep,fun A a U s vs FR Q E B rl fx g=>
 wpAny_call (kl (own:=[]) (ad:=[]) X a (fun q=>by rw [ht] at q; exact aS q) hk B .none (e8 (d7 fun u q=>q.elim id fun q=>(cN q).elim) na rl) fun c hp tk en S=>
  have k0:ag s.heap c.h₀:=en.h▸je
  have fp:=eH.enter en (fx.keep je)
  h c (mv s hp tk) [] _ _ S ⟨FR,fp,fun e h' tk' k n o q=>I6 (s:=mv s h' tk') fp k n o q fun h4 k4 x4=>g e h4 tk' ((k0.kf FR).trans k4) (x4.mono k0)⟩)⟩
structure TellsF (W:ab) (d:Nat) (f:Value) (as:List AV) (r:AV):Prop where
 keep:ee W f
 run:∀ A,dh d A→∀ U s vs FR (Q:Value→Shared→Prop) (E:Value→Shared→Prop),Base W U s.heap→ai W ⟨aF U s.heap,[]⟩ vs as→eH A FR s.heap→(∀ u∈FR,U u∧W.h0.get? u = none)→(∀ v h' tk,KF FR s.heap h'→Rel W ⟨aF U h',[]⟩ v r→Q v (mv s h' tk))→ay W A (call f vs) Q E s
theorem Tells.F {f:Value} {as:List AV} {r:AV} {own':Own} (T:Tells W d f [] as r own') (na:bc as = true) (nr:nl r = true):TellsF W d f as r:=⟨T.1,fun A a U s vs FR Q E B rl fx nf g=>
 T.2 A a U [] s vs Q E B .none (e8 (d7 fun u q=>q.elim id fun q=>(cN q).elim) na rl) fun v h' tk ad' k rv=>g v h' tk ((je.trans k.keep).kf FR) (dS (d7 fun u q=>.inl q) nr rv)⟩
noncomputable def SF (c:aj W d sc) (σ:aq) (own:Own) (t:Sem Flow) (r:AV):Prop:=∀ (s:Shared) ad (Q:Flow→Shared→Prop) (E:Value→Shared→Prop),SV c σ ⟨own,ad,s.heap⟩→(∃ FR,eh c.A c.env FR c.h₀∧(∀ u∈FR,c.X u∧W.h0.get? u = none)∧∀ v h' tk,KF FR c.h₀ h'→Rel W ⟨aF c.X h',[]⟩ v r→Q (.ret v) (mv s h' tk))→ay W c.A t Q E s
theorem SF.seq {st:Stmt} {l:List Stmt} {r:AV} (h:aB c σ own (exec st c.env) (.next σ' own1)) (k:SF c σ' own1 (execs l c.env) r):SF c σ own (execs (st::l) c.env) r:=fun s ad Q E S ⟨FR,a,b,g⟩=>
 wpAny_execs_cons (h s ad _ E S fun h' tk ad1 S1=>k _ ad1 Q E S1 ⟨FR,a,b,g⟩)
theorem I8 {f:Addr} {fd:FuncData} {F:Fn} {ks:List Nat} (X:gp W f fd F ks) {as:List AV} {r:AV} (ht:d9 F.scope = false) (hk:ks.any (Nat.beq as.length) = true) (na:bc as = true) (h:∀ c:aj W d ⟨F.scope,true⟩,SF c (F.fill as) [] (execs F.body c.env) r):TellsF W (d + 1) (.ref f) as r:=⟨X.keep,fun A a U s vs FR Q E B rl fx nf g=>
 wpAny_call (kl (own:=[]) (ad:=[]) X a (fun q=>by rw [ht] at q; exact aS q) hk B .none (e8 (d7 fun u q=>q.elim id fun q=>(cN q).elim) na rl) fun c hp tk en S=>
  have k0:ag s.heap c.h₀:=en.h▸je
  h c (mv s hp tk) [] _ _ S ⟨FR,eH.enter en (fx.keep je),fun u m=>⟨by rw [en.X]; exact (nf u m).1,(nf u m).2⟩,fun v h' tk' k rv=>g v h' tk' ((k0.kf FR).trans k) (by rw [en.X] at rv; exact rv)⟩)⟩
theorem I9:eG.contains (.type "BaseException") = true:=by decide
theorem Ja {A:Around} {s:Shared} {env:Env} {E:Value→Shared→Prop} {e:Addr} {oe:Obj} {b₀:Stmt} {suite:List Stmt} {pos np:Pos} {rest:List ExceptHandler} {Q:Flow→Shared→Prop} (K:eY env) (hk:env.kindOf bQ = some .globalImplicit) (G:GG W s.heap) (he:s.heap.get? e = some oe) (hc:oe.cls = .ref 71)
  (hQ:∀ E',ay W (A.mark (some (.ref e))) (setFlight (.ref e) none) (fun _ s₂=>ay W (A.mark (some (.ref e))) (execs (b₀::suite) env) Q E' s₂) E' s):ay W A (handleBy (.ref e) env (.ExceptHandler (some (.Name bQ np)) none (b₀::suite) pos::rest)) Q E s:=by
 have dbg:=(K.names bQ (by rw [show env.scope.names.lookup bQ = some .globalImplicit from hk]; exact fun z=>(by exact c9 z))).1
 refine wpAny_handleBy_cons (codeAny_handlers_test ?_) (by intro q; cases q)
 refine Name_function_global K.kind hk (loadGlobal_global (by rw [K.globals]; exact G.g) (zl _) ?_) dbg
 obtain ⟨hp,g,d,tk,os'⟩:=s
 exact wpAny_excMatches_sub_self (GG.K G _ _ (oq _)) he hc I9 (codeAny_handlers_suite (hQ _))
theorem kL {own:Own} {ad:List Addr} {u:Addr}:¬ao (own.map fun _=>PV.gone) ad u:=fun ⟨n,pv,z⟩=>by
 have e:=z.own
 rw [List.getElem?_map] at e
 obtain ⟨_,_,q⟩:=Option.map_eq_some_iff.mp e
 have:=z.live
 rw [← q] at this; exact aS this
theorem Jb {W:ab} {U:AS} {own:Own} {ad:List Addr} {h:Heap} (l:ad.length = own.length):aO W U ⟨own.map fun _=>.gone,ad,h⟩:=by
 refine ⟨by rw [List.length_map]; exact l,fun n pv a z=>(kL ⟨n,pv,z⟩).elim,fun n t e=>?_,fun n m pv qv a z=>(kL ⟨n,pv,z⟩).elim,fun u z=>(kL z).elim⟩
 refine af fun nG=>?_
 have e:(own.map fun _=>PV.gone)[n]? = some (PV.froz t):=e
 rw [List.getElem?_map] at e
 obtain ⟨_,_,q⟩:=Option.map_eq_some_iff.mp e
 refine nG ?_
 cases q
theorem SF.Jc {y f:Str} {py py2 fp cp pos1 pos2 np kp hpos:Pos} {cl:Nat} {es:List Expr} {fv:Value} {as:List AV} {hs:List ExceptHandler} {rest:List Stmt} {r:AV} {o:Own} (hf:ak c σ own (eval (.Name f fp) c.env) (.con fv) own) (ha:∀ x∈es,dj x) (hl:bU c σ own (spliced (backTo cp (starEach es c.env))) as own1) (na:bc as = true) (T:e9 W d fv as 71)
  (hk:lk bQ sc.sc.names = some .globalImplicit) (hy:cZ sc.sc y .local = true) (nr:nl r = true) (h:∀ c':aj W d sc,aB c' ((y,.none)::del y σ) (own.map fun _=>.gone) (execs rest c'.env) (.ret r o)):
  SF c σ own (execs (.Try [.Assign [.Name y py] (.Call (.Name f fp) es [] cp) pos1] (.ExceptHandler (some (.Name bQ np)) none [.Assign [.Name y py2] (.Constant .none cl kp) pos2] hpos::hs) [] [] pos::rest) c.env) r:=fun s ad Q E S ⟨FR,fr,nf,g⟩=>by
 refine wpAny_execs_cons (wpAny_Try_except (wpAny_execs_cons (wpAny_Assign_Name (zm hf ha hl na T S fr fun e h3 tk3 kf x=>?_) rfl)))
 refine af fun nG=>?_
 obtain ⟨outer,a,fl⟩:=fr.ni (S.raised kf) (kf.eu (.head _) S.r9)
 refine nG ?_
 have L0:dk (SV.hh ⟨own,ad,s.heap⟩) c.env.locals:=S.r9
 have kb:ag c.h₀ (aQ (· = c.env.locals) (SV.hh ⟨own,ad,s.heap⟩)):=S.ot.fE fun u q=>⟨q▸S.nL,q▸let ⟨o,e,n⟩:=L0; ⟨o,e,d3 n⟩⟩
 have nf0:∀ {h':Heap},KF FR c.h₀ h'→GG W h':=fun k=>aw.dF c.G k.kx fun u m=>(nf u m).2
 have frn:∀ L∈FR,dk c.h₀ L:=fun L m=>by
  obtain ⟨outer',_,fl'⟩:=fr.ex
  exact fl'.mem L m
 refine qZ (s:=mv s h3 tk3) a fl fr.fr kf.I4 (iO rfl) ((x.mono ag.dQ).imp fun m z=>.inr (.inl z)) fun h4 k4 f4 x4 d4=>?_
 refine nh (s:=mv s h4 tk3) (fo:=none) (fun z=>by exact ar z) f4 k4 x4 fun h5 k5 f5 x5 d5=>?_
 refine af fun nG=>?_
 have x5':=x5
 obtain ⟨_,oe,vs,he,hc,_,_⟩:=x5'
 refine nG ?_
 have hkk:c.env.kindOf bQ = some .globalImplicit:=by show c.env.scope.names.lookup _ = _; rw [c.es,← cU]; exact hk
 refine Ja (s:=mv s h5 tk3) c.K hkk (nf0 ((kb.kf FR).trans k5)) he hc fun E'=>?_
 refine nh (s:=mv s h5 tk3) (fo:=none) (fun z=>by exact ar z) f5 k5 x5 fun h6 k6 f6 x6 d6=>?_
 have kc:KF FR c.h₀ h6:=(kb.kf FR).trans k6
 have kall:KF (c.env.locals::FR) (SV.hh ⟨own,ad,s.heap⟩) h6:=⟨⟨fun b ob nb e=>k6.kx.same b ob (fun m=>nb (.tail _ m)) (a9.mpr ⟨e,fun q=>nb (q▸.head _)⟩),fun P q m t=>k6.kx.tab P q m ((aw.eW (X:=(· = c.env.locals)) (fun u ob q e=>by obtain ⟨o',e',n⟩:=L0; rw [q] at e; rw [e'] at e; cases e; exact d3 n) fun b ob n e=>a9.mpr ⟨e,n⟩).tab P q m t)⟩,(kf.fd.trans d4).trans (d5.trans d6)⟩
 have eu:∀ L∈c.env.locals::FR,dk (SV.hh ⟨own,ad,s.heap⟩) L:=fun L m=>(List.mem_cons.mp m).elim (fun q=>q▸L0) fun m=>((S.ot.kf [L]).eu (.head _) (frn L m))
 have lowB:∀ u,c.B u→c.h₀.get? u = none∧bA h6 u:=fun u q=>⟨(S.low u q).1,kall.low eu (let ⟨ob,e,n⟩:=(S.low u q).2; ⟨ob,a9.mpr ⟨e,fun z=>S.owns.nU z (.inr q)⟩,n⟩)⟩
 have up:∀ {u ob},c.h₀.get? u = some ob→∃ o',(aQ c.B h6).get? u = some o':=fun e=>let ⟨o',e'⟩:=kc.ex frn e; ⟨o',a9.mpr ⟨e',fun z=>by rw [(lowB _ z).1] at e; exact ar e⟩⟩
 have G6:GG W (aQ c.B h6):=aw.hide (nf0 kc) fun u q=>⟨c.G.gone (lowB u q).1,(lowB u q).2⟩
 have le:(vw c.U ⟨own,ad,s.heap⟩).Le (vw c.U ⟨own.map fun _=>.gone,ad,h6⟩):=⟨fun b ob ⟨e,sf,n⟩=>⟨kall.kx.b9 (fun m=>(List.mem_cons.mp m).elim (fun q=>n (.inl (.inr (q▸c.base)))) fun m=>n (.inl (.inl (nf b m).1))) (a9.mpr ⟨e,fun z=>n (.inr z)⟩) (.inl sf),sf,fun q=>q.elim (fun q=>n (.inl q)) kL⟩,fun _ _ e=>e⟩
 have hid_ns:∀ {m},s.heap.Ns c.env.locals m→h6.Ns c.env.locals m:=fun n=>kall.ns (j3 (S.nB c.base) n)
 have hid_cl:∀ {x u v},c.env.cells.lookup x = some u→s.heap.IsCell u v→h6.IsCell u v:=fun e i=>kall.cell (mM (S.nC e) i)
 let c6:=c.at (aQ c.B h6) c.X ad G6 (fun u q=>let ⟨_,e⟩:=c.out u q; up e) fun x u e=>(c.cls x u e).imp id fun ⟨_,e⟩=>up e
 refine af fun nG=>?_
 have S6:SV c6 σ ⟨own.map fun _=>.gone,ad,h6⟩:=⟨fun _ _ e=>e,ag.dQ,Jb S.owns.len,fun u z=>(kL z).elim,fun u q=>⟨iO q,(lowB u q).2⟩,let ⟨m,n⟩:=S.ns; ⟨m,hid_ns n⟩,fun x u e=>let ⟨v,i⟩:=S.cls x u e; ⟨v,hid_cl e i⟩,fun x b e=>(S.loc x b e).mv (fun _=>hid_ns) (fun _ _ e=>hid_cl e) le⟩
 obtain ⟨m,hns⟩:=S6.ns
 refine nG ?_
 have hyk:c6.env.kindOf y = some .local:=q5 c.es hy
 refine wpAny_execs_cons (wpAny_Assign_Name (wpAny_Constant_none ?_) rfl)
 refine wpAny_storeName_local hyk hns (fun h7 n7 s7=>?_) (xT c.K)
 refine wpAny_execs_nil (h c6 (mv s h7 _) ad Q E (S6.store hyk rfl hns n7 s7) fun v h8 tk8 ad8 S8 r8=>g v h8 tk8 (kc.I5 S8.keep lowB fun L m=>let ⟨ob,e,_⟩:=frn L m; ⟨ob,e⟩) (dS (d7 fun u q=>.inl (.inl q)) nr r8))
end
end Mine
end
section
set_option backward.match.sparseCases false
open PySem PySem.W PyProof.Rows PySem.Calls
set_option maxRecDepth 100000
namespace Mine
section
variable {W:ab} {d:Nat} {sc:Fs} {c:aj W d sc} {σ:aq} {own own1:Own} {pos:Pos}
theorem SV.Jd {p:Pt} (S:SV c σ p) {h':Heap} (k:KF [c.env.locals] p.h h'):SV c σ ⟨p.own,p.ad,h'⟩:=by
 have fr:∀ L∈[c.env.locals],dk p.h L:=fun L m=>by rw [List.mem_singleton.mp m]; exact S.eu
 have nl:∀ {b:Addr},¬(c.U b∨ao p.own p.ad b)→b∉[c.env.locals]:=fun n m=>n (.inl (.inr (List.mem_singleton.mp m▸c.base)))
 have np:∀ {u:Addr},ao p.own p.ad u→u∉[c.env.locals]:=fun z m=>S.owns.nU z (.inr (List.mem_singleton.mp m▸c.base))
 have le:(vw c.U p).Le (vw c.U ⟨p.own,p.ad,h'⟩):=⟨k.kx.sub fun b o e n=>⟨nl n,n⟩,fun _ _ e=>e⟩
 refine ⟨S.pre,S.keep.dF k.kx fun u m=>by rw [List.mem_singleton.mp m]; exact S.nL,S.owns.map le (fun u z=>S.owns.nU z) fun u o z e t=>k.kx.b9 (np z) e (.inr t),S.new,fun u q=>⟨(S.low u q).1,k.low fr (S.low u q).2⟩,let ⟨m,n⟩:=S.ns; ⟨m,k.ns n⟩,fun x a e=>let ⟨v,i⟩:=S.cls x a e; ⟨v,k.cell i⟩,fun x a e=>(S.loc x a e).mv (fun _=>k.ns) (fun _ _ _=>k.cell) le⟩
theorem aB.Je {f:Str} {fp cp up:Pos} {es:List Expr} {fv:Value} {as:List AV} {b:List Stmt} (hfn:sc.fn = true) (ht:d9 sc.sc = true) (hf:ak c σ own (eval (.Name f fp) c.env) (.con fv) own) (ha:∀ x∈es,dj x) (hl:bU c σ own (spliced (backTo cp (starEach es c.env))) as own1) (na:bc as = true) (T:TellsF W d fv as (.bool true)):aB c σ own (exec (.If (.UnaryOp .Not (.Call (.Name f fp) es [] cp) up) b [] pos) c.env) (.next σ own1):=fun s ad Q E S g=>by
 refine wpAny_If (isTrue_not (isTrue_plain ?_ rfl))
 show wpAny _ _ ((eval (.Name f fp) c.env) >>= fun fv=>callWith cp fv [] (backTo cp (starEach es c.env)) []) _ _ _
 refine wpAny_bind (hf s ad _ _ S fun v g1 t1 a1 k1 r1=>?_)
 obtain rfl:v = fv:=r1
 refine g7 (first:=[]) ha T.keep (hl _ a1 _ _ (S.after k1) fun ws g2 t2 a2 k2 r2=>?_)
 have S2:=S.after (k1.trans k2)
 have hfr:eH c.A [c.env.locals] g2:=by
  obtain ⟨o,e,n⟩:=S2.eu
  obtain ⟨hA,hl⟩:=c.top hfn ht
  exact ⟨[c.env],hA,by rw [List.filterMap_cons,hl]; rfl,fun e' m=>by rw [List.mem_singleton.mp m]; exact ⟨(by rw [c.K.kind]; exact fun z=>(by cases z)),_,o,hl,e,n⟩⟩
 rw [List.nil_append]
 refine ⟨S2.Gp,T.run c.A c.a (fun u=>c.U u∨ao own1 a2 u) (mv s g2 t2) ws [c.env.locals] _ _ S2.B (e8 (fun _ _ z=>z) na r2) hfr (fun u m=>by rw [List.mem_singleton.mp m]; exact ⟨.inl (.inr c.base),c.G.gone S2.nL⟩) fun v h' tk k rv=>?_⟩
 obtain rfl:v = .bool true:=rv
 exact wpAny_truthy_bool (wpAny_execs_nil (g h' tk a2 (S2.Jd k)))
end
end Mine
end
section
set_option backward.match.sparseCases false
open PySem PySem.W PyProof.Rows PySem.Calls
namespace Mine
section
structure Hd (W:ab) (d:Nat) where
 s:AV→Bool
 call:(own:Own)→(f:AV)→(as:List AV)→Out fun r:AV×Own=>gZ W d own f as r.1 r.2
 lam:(lsc:Scope)→(y:Str)→(body:Expr)→(a:AV)→Out (rM W d lsc y body a)
 rs:(f:Addr)→(as:List AV)→Out fun x:Addr=>e9 W d (.ref f) as x
 rf:(f:Addr)→(as:List AV)→Out fun r:AV=>TellsF W d (.ref f) as r
noncomputable abbrev EP (W:ab) (d:Nat) (sc:Fs) (σ:aq) (own:Own) (x:Expr) (r:AV×Own):Prop:=∀ c:aj W d sc,ak c σ own (eval x c.env) r.1 r.2
noncomputable abbrev TP (W:ab) (d:Nat) (sc:Fs) (σ:aq) (own:Own) (x:Expr) (r:Bool×Own):Prop:=∀ c:aj W d sc,bp c σ own (isTrue x c.env (eval x c.env)) r.1 r.2
noncomputable abbrev SP (W:ab) (d:Nat) (sc:Fs) (σ:aq) (own:Own) (x:Stmt) (f:Fl):Prop:=∀ c:aj W d sc,aB c σ own (exec x c.env) f
structure Ev (W:ab) (d:Nat) where
 e:(sc:Fs)→(σ:aq)→(own:Own)→(x:Expr)→Out (EP W d sc σ own x)
 t:(sc:Fs)→(σ:aq)→(own:Own)→(x:Expr)→Out (TP W d sc σ own x)
 s:(sc:Fs)→(σ:aq)→(own:Own)→(x:Stmt)→Out (SP W d sc σ own x)
variable {W:ab} {d:Nat} {G:Facts} (hG:Sat W.ρ G) (H:Hd W d) (v:Ev W d) (sc:Fs) (σ:aq) (own:Own)
noncomputable def lf {α:Type} {P Q:α→Prop} (h:∀ a,P a→Q a) (x:Out P):Out Q:=bd x fun a q=>.ok a (h a q)
noncomputable def jf (own:Own) (n:Nat):Option { l:List AV // own[n]? = some (.lst l) }:=match ow own n with
 | some ⟨.lst l,hp⟩=>some ⟨l,hp⟩
 | _=>none
noncomputable def isObj (own:Own) (n:Nat):Bool:=match ow own n with
 | some ⟨.obj _ _,_⟩=>true
 | _=>false
noncomputable def Jf (own:Own) (n:Nat):{ r:AV×Own // aU own (.loc n) r.2 r.1 }:=match isObj own n with
 | true=>⟨(.loc n,own),aU.refl⟩
 | false=>settle own (.loc n)
noncomputable def zo (own:Own) (a:AV):{ r:AV×Own // aU own a r.2 r.1 }:=match a with
 | .loc n=>Jf own n
 | a=>⟨(a,own),aU.refl⟩
noncomputable def Jg (own:Own) (a:AV):Bool:=match a with
 | .loc n=>(match ow own n with
  | some ⟨.dicS _,_⟩ | some ⟨.dicT _,_⟩=>true
  | _=>false)
 | _=>false
noncomputable def Jh (own:Own) (a:AV):{ r:AV×Own // aU own a r.2 r.1 }:=match Jg own a with
 | true=>⟨(a,own),aU.refl⟩
 | false=>zo own a
noncomputable def sd (own:Own) (n:Nat):Option { l:List (Str×AV) // own[n]? = some (.dicS l) }:=match ow own n with
 | some ⟨.dicS l,hp⟩=>some ⟨l,hp⟩
 | _=>none
noncomputable def se (own:Own) (n:Nat):Option { l:List (List Int×AV) // DT own n l }:=match ow own n with
 | some ⟨.dicT l,hp⟩=>some ⟨l,.t hp⟩
 | some ⟨.dicS [],hp⟩=>some ⟨[],.e hp⟩
 | _=>none
noncomputable def Ji (own:Own) (a:AV):{ b:AV // aU own a own b }:=match a with
 | .loc n=>GR own (.loc n)
 | a=>⟨a,aU.refl⟩
noncomputable def eS (x:Expr):Out (EP W d sc σ own x):=bd (v.e sc σ own x) fun a ha=>(match zo a.2 a.1 with
 | ⟨b,f⟩=>.ok b fun c=>(ha c).hZ f)
noncomputable def eD (x:Expr):Out (EP W d sc σ own x):=bd (v.e sc σ own x) fun a ha=>(match Jh a.2 a.1 with
 | ⟨b,f⟩=>.ok b fun c=>(ha c).hZ f)
noncomputable def eT (x:Expr):Out (EP W d sc σ own x):=bd (v.e sc σ own x) fun a ha=>(match Ji a.2 a.1 with
 | ⟨b,f⟩=>.ok (b,a.2) fun c=>(ha c).hZ f)
noncomputable def Jj (x:Str) (p:Pos) (hk:lk x sc.sc.names = some .globalImplicit):Out fun a:AV=>∀ c:aj W d sc,ak c σ own (eval (.Name x p) c.env) a own:=match xK W x with
 | some ⟨a,h⟩=>.ok a fun c=>ak.name hk (.inl ⟨rfl,h⟩)
 | none=>.no 1
noncomputable def si (x:Str) (p:Pos) {k:NameKind} (hk:lk x sc.sc.names = some k) (hg:k≠.globalImplicit):Out fun a:AV=>∀ c:aj W d sc,ak c σ own (eval (.Name x p) c.env) a own:=bH (lk x σ) 2 fun a ha=>.ok a fun c=>ak.name hk (.inr ⟨hg,ha⟩)
noncomputable def Jk (x:Str) (p:Pos) (k:NameKind):lk x sc.sc.names = some k→Out fun a:AV=>∀ c:aj W d sc,ak c σ own (eval (.Name x p) c.env) a own:=match k with
 | .globalImplicit=>Jj sc σ own x p
 | .local=>fun hk=>si sc σ own x p hk (fun z=>(by cases z))
 | .cell=>fun hk=>si sc σ own x p hk (fun z=>(by cases z))
 | .free=>fun hk=>si sc σ own x p hk (fun z=>(by cases z))
 | _=>fun _=>.no 3
noncomputable def eName (x:Str) (p:Pos):Out fun a:AV=>∀ c:aj W d sc,ak c σ own (eval (.Name x p) c.env) a own:=di (lk x sc.sc.names) (fun k hk=>Jk sc σ own x p k hk) fun _=>.no 3
noncomputable def fa (st:Bool) (pos:Pos):(l:List Expr)→(own:Own)→Out fun r:List AV×Own=>∀ c:aj W d sc,bU c σ own (spliced (backTo pos (starEach l c.env))) r.1 r.2
 | [],own=>.ok ([],own) fun c=>.nil
 | x::l,own=>aG (Nat.beq x.ctorIdx 22) (fun _=>.no 5) fun hs=>bd (cond st (eS v sc σ own x) (v.e sc σ own x)) fun a ha=>bd (fa st pos l a.2) fun r hr=>.ok (a.1::r.1,r.2) fun c=>.cons ((cV x).star hs) (ha c) (hr c)
noncomputable def noStar (l:List Expr):Bool:=l.all fun x=>!Nat.beq x.ctorIdx 22
theorem ip {l:List Expr} (h:noStar l = true):∀ x∈l,dj x:=fun x m=>(cV x).star ((Bool.not_eq_true' _).mp (List.all_eq_true.mp h x m))
noncomputable def zp (x:Expr):Out fun _:Unit=>mO x:=aG (Nat.beq x.ctorIdx 16) (fun _=>.no 6) fun h=>.ok () ((cV x).base h)
noncomputable def sj:Str:=⟨#[101,120,116,101,110,100]⟩
noncomputable def zq:Str:=⟨#[97,112,112,101,110,100]⟩
noncomputable def Jl (own1:Own) (n:Nat) (own2:Own) (vs:List AV):Out fun r:AV×Own=>cz W d own1 (.loc n) zq own2 vs r.1 r.2:=match vs with
 | [b]=>(match jf own1 n,jf own2 n with
  | some ⟨l,hp⟩,some ⟨l',hq⟩=>au (Nat.ble l'.length 1000) 9 fun hz=>(match fL (l' ++ [b]) with
   | ⟨m,e⟩=>.ok (.none,own2.set n (.lst m)) (e▸ES hp hq hz))
  | _,_=>.no 10)
 | _=>.no 11
noncomputable def Jm (own1:Own) (n:Nat) (own2:Own) (vs:List AV):Out fun r:AV×Own=>cz W d own1 (.loc n) sj own2 vs r.1 r.2:=match vs with
 | [.lst m]=>(match jf own1 n,jf own2 n with
  | some ⟨l,hp⟩,some ⟨l',hq⟩=>au (Nat.ble (l'.length + m.length) 10000) 9 fun hz=>(match fL (l' ++ m) with
   | ⟨q,e⟩=>.ok (.none,own2.set n (.lst q)) (e▸Hr hp hq hz))
  | _,_=>.no 10)
 | _=>.no 11
noncomputable def Jn (own1:Own) (n:Nat) (x:Str) (own2:Own) (vs:List AV):Out fun r:AV×Own=>cz W d own1 (.loc n) x own2 vs r.1 r.2:=match qo own1 n with
 | some ⟨(K,m,fs),h1,h2⟩=>(match hU K hJ with
  | some ⟨ms,hm⟩=>bH (lk x ms) 13 fun f hf=>aG (lk x fs).isNone (fun hn=>bd (H.call own2 (.con (.ref f)) (.loc n::vs)) fun r hr=>.ok r (H8 h1 h2 hm hf (Option.isNone_iff_eq_none.mp hn) (hr ⟨fun _ _=>False,[]⟩ _ rfl))) fun _=>.no 14
  | none=>.no 15)
 | none=>.no 12
noncomputable def Jo (own1:Own) (n:Nat) (x:Str) (own2:Own) (vs:List AV):Out fun r:AV×Own=>cz W d own1 (.loc n) x own2 vs r.1 r.2:=aG (sEq x zq) (fun hx=>lf (fun r h=>sEq_iff.mp hx▸h) (Jl own1 n own2 vs)) fun _=>aG (sEq x sj) (fun hx=>lf (fun r h=>sEq_iff.mp hx▸h) (Jm own1 n own2 vs)) fun _=>Jn H own1 n x own2 vs
noncomputable def Jp (own1:Own) (K:Addr) (fs:List (Str×AV)) (x:Str) (own2:Own) (vs:List AV):Out fun r:AV×Own=>cz W d own1 (.inst K fs) x own2 vs r.1 r.2:=match hU K hJ with
 | some ⟨ms,hm⟩=>bH (lk x ms) 13 fun f hf=>aG (lk x fs).isNone (fun hn=>bd (H.call own2 (.con (.ref f)) (.inst K fs::vs)) fun r hr=>.ok r (F8 hm hf (Option.isNone_iff_eq_none.mp hn) (hr ⟨fun _ _=>False,[]⟩ _ rfl))) fun _=>.no 14
 | none=>.no 15
noncomputable def Jq (own1:Own) (f:Value) (x:Str) (own2:Own) (vs:List AV):Out fun r:AV×Own=>cz W d own1 (.con f) x own2 vs r.1 r.2:=aG (sEq x fO) (fun hx=>match f with
 | .ref 327=>bd (H.call own2 (.con (.ref 303)) vs) fun r hr=>.ok r (sEq_iff.mp hx▸Hk (hr ⟨fun _ _=>False,[]⟩ _ rfl))
 | _=>.no 16) fun _=>.no 17
noncomputable def Jr (own1:Own) (l:List (Str×AV)) (x:Str) (own2:Own) (vs:List AV):Out fun r:AV×Own=>cz W d own1 (.dicS l) x own2 vs r.1 r.2:=aG (sEq x qX) (fun hx=>match vs with
 | [.str y,b]=>bH (lk y l) 18 fun r hr=>.ok (r,own2) (sEq_iff.mp hx▸Gb hr)
 | _=>.no 19) fun _=>.no 20
noncomputable def Js (own1:Own) (y x:Str) (own2:Own) (vs:List AV):Out fun r:AV×Own=>cz W d own1 (.str y) x own2 vs r.1 r.2:=bd (qV d own1 own2 y x vs xA FP) fun r hr=>.ok (r,own2) hr
noncomputable def Jt (own1:Own) (a:AV) (x:Str) (own2:Own) (vs:List AV):Out fun r:AV×Own=>cz W d own1 a x own2 vs r.1 r.2:=match a with
 | .loc n=>Jo H own1 n x own2 vs
 | .inst K fs=>Jp H own1 K fs x own2 vs
 | .str y=>Js own1 y x own2 vs
 | .con f=>Jq H own1 f x own2 vs
 | .dicS l=>Jr own1 l x own2 vs
 | _=>.no 21
noncomputable def Ju (x:Str) (p:Pos) (as:List Expr) (pos:Pos) (ha:noStar as = true):Out (EP W d sc σ own (.Call (.Name x p) as [] pos)):=bd (eName (W:=W) sc σ own x p) fun fv hf=>bd (fa v sc σ (H.s fv) pos as own) fun vs hl=>bd (H.call vs.2 fv vs.1) fun r hr=>.ok r fun c=>ak.call (ip ha) (hf c) (hl c) hr
noncomputable def Jv (x:Expr) (y:Str) (ap:Pos) (as:List Expr) (pos:Pos) (ha:noStar as = true):Out (EP W d sc σ own (.Call (.Attribute x y ap) as [] pos)):=bd (zp x) fun _ hb=>au (ap.endLine == pos.line) 23 fun hp=>au (Nat.blt as.length 30) 24 fun hn=>bd (eT v sc σ own x) fun a hx=>bd (fa v sc σ (sEq y sj) pos as a.2) fun vs hl=>bd (Jt H a.2 a.1 y vs.2 vs.1) fun r hr=>.ok r fun c=>ak.ER hb hp hn (ip ha) (hx c) (hl c) hr
noncomputable def Jw (f:Expr) (as:List Expr) (pos:Pos):Out (EP W d sc σ own (.Call f as [] pos)):=au (noStar as) 22 (match f with
 | .Name x p=>Ju H v sc σ own x p as pos
 | .Attribute x y ap=>Jv H v sc σ own x y ap as pos
 | _=>fun _=>.no 25)
noncomputable def zr (e:Option Expr):Out fun r:Option Int×Own=>∀ c:aj W d sc,g6 c σ own e r.1 r.2:=match e with
 | none=>.ok (none,own) fun c=>.none
 | some e=>bd (v.e sc σ own e) fun a ha=>(match a,ha with
  | (.int i,o),ha=>bd (e6 hG i) fun i hi=>.ok (some i,o) fun c=>.some (fun V v r=>(hi▸r:bL _ v)) (ha c)
  | _,_=>.no 26)
noncomputable def Jx (own:Own) (a b:AV):Out (j5 W own a b):=match a,b with
 | .loc n,.str y=>(match sd own n with
  | some ⟨l,h⟩=>bH (lk y l) 161 fun r hr=>.ok r (H7 h hr)
  | none=>.no 161)
 | .loc n,.tup as=>bd (n8 hG as) fun ks hk=>(match se own n with
  | some ⟨l,h⟩=>bH (fR ks l) 162 fun r hr=>.ok r (H4 h hk hr)
  | none=>.no 162)
 | a,b=>bd (hSub hG a b) fun r hr=>.ok r hr.o
noncomputable def Jy (x k:Expr) (pos:Pos):Out (EP W d sc σ own (.Subscript x k pos)):=bd (eD v sc σ own x) fun a ha=>(match k with
 | .Slice lo hi none p=>bd (zr hG v sc σ a.2 lo) fun l hl=>bd (zr hG v sc σ l.2 hi) fun u hu=>bd (Fo a.1 l.1 u.1) fun r hr=>.ok (r,u.2) fun c=>ak.slice (ha c) (hl c) (hu c) hr
 | k=>aG (Nat.beq k.ctorIdx 26) (fun _=>.no 27) fun hk=>bd (v.e sc σ a.2 k) fun b hb=>bd (Jx hG b.2 a.1 b.1) fun r hr=>.ok (r,b.2) fun c=>ak.sub ((cV k).sub hk) (ha c) (hb c) hr)
noncomputable def ou (x:Expr):Out fun _:Unit=>∀ op,behindInMarks op x = false:=aG (Nat.beq x.ctorIdx 7) (fun _=>.no 28) fun h=>.ok () ((cV x).marks h)
noncomputable def Jz (op:CmpOp):Option { nt:Bool // op = mT nt }:=match op with
 | .In=>some ⟨false,rfl⟩
 | .NotIn=>some ⟨true,rfl⟩
 | _=>none
noncomputable def JA (own:Own) (op:CmpOp) (a:AV) (n:Nat):Out (eZ W own op a (.loc n)):=match Jz op,a with
 | some ⟨nt,h⟩,.str y=>(match sd own n with
  | some ⟨l,hl⟩=>.ok (.bool (nt ^^ (lk y l).isSome)) (h▸H6 nt hl)
  | none=>.no 163)
 | some ⟨nt,h⟩,.tup as=>bd (n8 hG as) fun ks hk=>(match se own n with
  | some ⟨l,hl⟩=>.ok (.bool (nt ^^ (fR ks l).isSome)) (h▸H0 nt hl hk)
  | none=>.no 164)
 | _,_=>.no 165
noncomputable def jg (own:Own) (op:CmpOp) (a b:AV):Out (eZ W own op a b):=match b with
 | .loc n=>JA hG own op a n
 | b=>bd (Fm hG op a b) fun r hr=>.ok r hr.o
noncomputable def JB (l:Expr) (op:CmpOp) (r:Expr) (pos:Pos):Out (EP W d sc σ own (.Compare l [op] [r] pos)):=bd (ou r) fun _ hm=>bd (eS v sc σ own l) fun a ha=>bd (eD v sc σ a.2 r) fun b hb=>bd (jg hG b.2 op a.1 b.1) fun q hq=>.ok (q,b.2) fun c=>ak.qz (hm _) (ha c) (hb c) hq
noncomputable def JC (l:Expr) (op op':CmpOp) (r r':Expr) (pos:Pos):Out (EP W d sc σ own (.Compare l [op,op'] [r,r'] pos)):=bd (ou r') fun _ hm=>bd (eS v sc σ own l) fun a ha=>bd (eS v sc σ a.2 r) fun b hb=>bd (jg hG b.2 op a.1 b.1) fun q hq=>bd (tr hG q) fun t ht=>(match t,ht with
  | true,ht=>bd (eS v sc σ b.2 r') fun b' hb'=>bd (jg hG b'.2 op' b.1 b'.1) fun q' hq'=>.ok (q',b'.2) fun c=>ak.j6 (hm _) (ha c) (hb c) hq ht (.inl ⟨rfl,⟨_,_,hb' c,hq',rfl⟩⟩)
  | false,ht=>.ok (q,b.2) fun c=>ak.j6 (hm _) (ha c) (hb c) hq ht (.inr ⟨rfl,rfl,rfl⟩))
noncomputable def JD (l:Expr) (ops:List CmpOp) (rs:List Expr) (pos:Pos):Out (EP W d sc σ own (.Compare l ops rs pos)):=match ops,rs with
 | [op],[r]=>JB hG v sc σ own l op r pos
 | [op,op'],[r,r']=>JC hG v sc σ own l op op' r r' pos
 | _,_=>.no 29
noncomputable def JE (l:Expr) (op:CmpOp) (r:Expr) (pos:Pos):Out (TP W d sc σ own (.Compare l [op] [r] pos)):=bd (ou r) fun _ hm=>bd (eS v sc σ own l) fun a ha=>bd (eD v sc σ a.2 r) fun b hb=>bd (jg hG b.2 op a.1 b.1) fun q hq=>bd (tr hG q) fun t ht=>.ok (t,b.2) fun c=>bp.qz (hm _) (ha c) (hb c) hq ht
noncomputable def JF (l:Expr) (op op':CmpOp) (r r':Expr) (pos:Pos):Out (TP W d sc σ own (.Compare l [op,op'] [r,r'] pos)):=bd (ou r') fun _ hm=>bd (eS v sc σ own l) fun a ha=>bd (eS v sc σ a.2 r) fun b hb=>bd (jg hG b.2 op a.1 b.1) fun q hq=>bd (tr hG q) fun t ht=>(match t,ht with
  | true,ht=>bd (eS v sc σ b.2 r') fun b' hb'=>bd (jg hG b'.2 op' b.1 b'.1) fun q' hq'=>bd (tr hG q') fun t' ht'=>.ok (t',b'.2) fun c=>bp.j6 (hm _) (ha c) (hb c) hq ht (.inl ⟨rfl,⟨_,_,hb' c,hq',ht'⟩⟩)
  | false,ht=>.ok (false,b.2) fun c=>bp.j6 (hm _) (ha c) (hb c) hq ht (.inr ⟨rfl,rfl,rfl⟩))
noncomputable def JG (l:Expr) (ops:List CmpOp) (rs:List Expr) (pos:Pos):Out (TP W d sc σ own (.Compare l ops rs pos)):=match ops,rs with
 | [op],[r]=>JE hG v sc σ own l op r pos
 | [op,op'],[r,r']=>JF hG v sc σ own l op op' r r' pos
 | _,_=>.no 30
noncomputable def zt (op:BoolOp) (pos:Pos):(l:List Expr)→(own:Own)→Out (EP W d sc σ own (.BoolOp op l pos))
 | [],own=>.no 31
 | [x],own=>bd (v.e sc σ own x) fun a ha=>.ok a fun c s ad Q E S F=>BoolOp_one (ha c s ad Q E S F)
 | x::y::l,own=>bd (v.e sc σ own x) fun a ha=>bd (tr hG a.1) fun b hb=>aG (ends op b) (fun h=>.ok a fun c=>ak.bools (ha c) hb (by rw [if_pos h]; exact ⟨rfl,rfl⟩)) fun h=>bd (zt op pos (y::l) a.2) fun r hr=>.ok r fun c=>ak.bools (ha c) hb (by rw [if_neg (h▸Bool.false_ne_true)]; exact hr c)
noncomputable def zu (op:BoolOp) (pos:Pos):(l:List Expr)→(own:Own)→Out fun r:Bool×Own=>∀ (c:aj W d sc) whole,bp c σ own (isTrue (.BoolOp op l pos) c.env whole) r.1 r.2
 | [],own=>.ok (op == .And,own) fun c w=>.nil
 | x::l,own=>bd (v.t sc σ own x) fun b hb=>aG (ends op b.1) (fun h=>.ok b fun c w=>bp.bools (hb c) (by rw [if_pos h]; exact ⟨rfl,rfl⟩)) fun h=>bd (zu op pos l b.2) fun r hr=>.ok r fun c w=>bp.bools (hb c) (by rw [if_neg (h▸Bool.false_ne_true)]; exact hr c w)
noncomputable def JH (ifs:List Expr):Out fun r:Bool×Own=>∀ c:aj W d sc,i7 c σ own ifs r.1 r.2:=match ifs with
 | []=>.ok (true,own) fun c=>.nil
 | [e]=>bd (v.t sc σ own e) fun b hb=>.ok b fun c=>.one (hb c)
 | _=>.no 32
noncomputable def zv (n:Nat) (elt:Expr):Out fun r:Own=>∀ c:aj W d sc,AccAt n c→gq c σ own (i8 elt c.env) σ r:=bd (v.e sc σ own elt) fun a ha=>(match jf a.2 n with
 | some ⟨l,hp⟩=>au (Nat.ble l.length 1000) 34 fun hz=>.ok (a.2.set n (.lst (l ++ [a.1]))) fun c hc=>.emit hc ha hp hz
 | none=>.no 35)
noncomputable def sk {rest:aj W d sc→Sem Unit} (n:Nat) (ifs:List Expr) (g:(σ:aq)→(own:Own)→Out fun r:aq×Own=>∀ c:aj W d sc,AccAt n c→gq c σ own (rest c) r.1 r.2) (σ:aq) (own:Own):Out fun f:Fl=>∀ c:aj W d sc,AccAt n c→hY c σ own (rp c ifs (rest c)) f:=bd (JH v sc σ own ifs) fun b hb=>aG b.1 (fun h=>bd (g σ b.2) fun o ho=>.ok (.next o.1 o.2) fun c hc=>.comp hb (by rw [if_pos h]; exact ho c hc)) fun h=>.ok (.next σ b.2) fun c hc=>.comp hb (by rw [if_neg (h▸Bool.false_ne_true)]; exact ⟨rfl,rfl⟩)
structure JI (W:ab) (d:Nat) (sc:Fs) (σ:aq) (own:Own) (e:Expr) (r:Nat×Own):Prop where
 v:EP W d sc σ own e (.loc r.1,r.2)
 s:∀ (c:aj W d sc) y py pos σ',swapsWith e (some (.Name y py)) (Pos.line pos) c.env = pure true→iZ sc y (.loc r.1) σ σ'→aB c σ own (exec (.Assign [.Name y py] e pos) c.env) (.next σ' r.2)
noncomputable def zw (e:Expr):Out (JI W d sc σ own e):=match e with
 | .ListComp elt [⟨t,it,ifs,0⟩] scope pos=>aG (Nat.beq it.ctorIdx 7) (fun _=>.no 36) fun hf=>bd (eS v sc σ own it) fun x hx=>bH (elems x.1) 37 fun as has=>au (kB scope) 38 fun hs=>(match rA sc.sc σ scope.names with
  | none=>.no 39
  | some ⟨σ0,F⟩=>bd (kA (W:=W) (d:=d) (sc:=⟨bX scope sc.sc,false⟩) (K:=AccAt x.2.length) (t:=t) (code:=fun c i=>.compLoop (.ListComp elt [⟨t,it,ifs,0⟩] scope pos) 0 i (ei c.env) c.env) (fun c=>rq GD) (sk v _ (rest:=fun c=>i8 elt c.env) x.2.length ifs fun σ own=>bd (zv v _ σ own x.2.length elt) fun o ho=>.ok (σ,o) ho) as σ0 (x.2 ++ [.lst []])) fun f hL=>(match f,hL with
   | .next σ1 own2,hL=>.ok (x.2.length,own2) ⟨fun c=>yv (kD hs) F ((cV it).fold hf) (hx c) has hL,fun c y py pos' σ' hsw hb=>aB.comp hsw (kD hs) F ((cV it).fold hf) (hx c) has hL hb⟩
   | _,_=>.no 40))
 | .ListComp elt [⟨t,it,ifs,0⟩,⟨t2,it2,ifs2,0⟩] scope pos=>aG (Nat.beq it.ctorIdx 7) (fun _=>.no 36) fun hf=>aG (Nat.beq it2.ctorIdx 7) (fun _=>.no 36) fun hf2=>bd (eS v sc σ own it) fun x hx=>bH (elems x.1) 37 fun as has=>au (kB scope) 38 fun hs=>(match rA sc.sc σ scope.names with
  | none=>.no 39
  | some ⟨σ0,F⟩=>bd (kA (W:=W) (d:=d) (sc:=⟨bX scope sc.sc,false⟩) (K:=AccAt x.2.length) (t:=t) (code:=fun c i=>.compLoop (.ListComp elt [⟨t,it,ifs,0⟩,⟨t2,it2,ifs2,0⟩] scope pos) 0 i (ei c.env) c.env) (fun c=>rq GF) (sk v _ (rest:=fun c=>nF (.ListComp elt [⟨t,it,ifs,0⟩,⟨t2,it2,ifs2,0⟩] scope pos) it2 c.env) x.2.length ifs fun σ own=>
    bd (eS v ⟨bX scope sc.sc,false⟩ σ own it2) fun y hy=>bH (elems y.1) 37 fun bs hbs=>bd (kA (W:=W) (d:=d) (sc:=⟨bX scope sc.sc,false⟩) (K:=AccAt x.2.length) (t:=t2) (code:=fun c i=>.compLoop (.ListComp elt [⟨t,it,ifs,0⟩,⟨t2,it2,ifs2,0⟩] scope pos) 1 i (ei c.env) c.env) (fun c=>rq GI) (sk v _ (rest:=fun c=>i8 elt c.env) x.2.length ifs2 fun σ own=>bd (zv v _ σ own x.2.length elt) fun o ho=>.ok (σ,o) ho) bs σ y.2) fun f hL=>(match f,hL with
     | .next σ' own2,hL=>.ok (σ',own2) fun c hc=>.inner (K:=AccAt x.2.length) (fun h X a G o l pre=>pre _ _ hc) ((cV it2).fold hf2) hy hbs hL
     | _,_=>.no 40)) as σ0 (x.2 ++ [.lst []])) fun f hL=>(match f,hL with
   | .next σ1 own2,hL=>.ok (x.2.length,own2) ⟨fun c=>yv (kD hs) F ((cV it).fold hf) (hx c) has hL,fun c y py pos' σ' hsw hb=>aB.comp hsw (kD hs) F ((cV it).fold hf) (hx c) has hL hb⟩
   | _,_=>.no 40))
 | _=>.no 41
noncomputable def zx (pos:Pos):(ks:List (Option Expr))→(es:List Expr)→(own:Own)→Out fun r:List (Int×AV)×Own=>∀ c:aj W d sc,ib c σ own pos ks es r.1 r.2
 | [],[],own=>.ok ([],own) fun c=>.nil
 | some k::ks,e::es,own=>bd (v.e sc σ own k) fun a ha=>(match a,ha with
  | (.int (.lit i),o),ha=>bd (v.e sc σ o e) fun b hb=>bd (zx pos ks es b.2) fun r hr=>.ok ((i,b.1)::r.1,r.2) fun c=>.cons (ha c) (hb c) (hr c)
  | _,_=>.no 47)
 | _,_,_=>.no 47
noncomputable def zy:(l:List (Int×AV))→Option (PLift (l.map (·.1)).Nodup)
 | []=>some ⟨.nil⟩
 | (i,a)::l=>aG (l.any fun p=>bg i p.1) (fun _=>none) fun h=>(match zy l with
  | some ⟨q⟩=>some ⟨List.nodup_cons.mpr ⟨fun m=>(by
   obtain ⟨p,hp,e⟩:=List.mem_map.mp m
   rw [List.any_eq_true.mpr ⟨p,hp,by rw [gR]; exact decide_eq_true e.symm⟩] at h; exact fq h),q⟩⟩
  | none=>none)
noncomputable def JJ (ks:List (Option Expr)) (es:List Expr) (pos:Pos):Out (EP W d sc σ own (.Dict ks es pos)):=match ks,es with
 | [],[]=>.ok (.loc own.length,own ++ [.dicS []]) fun c=>.Ht
 | ks,es=>au (ks.all (·.isSome)) 48 fun h1=>au (Nat.beq ks.length es.length) 48 fun h2=>au (Nat.blt 0 ks.length && Nat.ble ks.length 15) 48 fun h3=>bd (zx v sc σ pos ks es (own ++ [.dicI []])) fun r hr=>(match zy r.1 with
  | none=>.no 48
  | some ⟨hn⟩=>(match ow r.2 own.length with
   | some ⟨.dicI [],hp⟩=>.ok (.loc own.length,r.2.set own.length (.dicI r.1)) fun c=>.dict h1 h2 h3 hn (hr c) hp
   | _=>.no 49))
noncomputable def JK (x:Str) (p:Pos):Out (EP W d sc σ own (.Name x p)):=bd (eName (W:=W) sc σ own x p) fun a ha=>.ok (a,own) ha
noncomputable def JL (k:Const) (u:Nat) (pos:Pos):Out (EP W d sc σ own (.Constant k u pos)):=match w5 k with
 | some ⟨a,h⟩=>.ok (a,own) fun c=>h W c σ own u pos
 | none=>.no 42
noncomputable def JM (l:Expr) (op:Operator) (r:Expr) (pos:Pos):Out (EP W d sc σ own (.BinOp l op r pos)):=bd (eS v sc σ own l) fun a ha=>bd (eS v sc σ a.2 r) fun b hb=>bd (E3 hG op a.1 b.1) fun q hq=>.ok (q,b.2) fun c=>.bin (ha c) (hb c) hq
noncomputable def JN (op:UnaryOp) (l:Expr) (pos:Pos):Out (EP W d sc σ own (.UnaryOp op l pos)):=bd (v.e sc σ own l) fun a ha=>bd (E4 op a.1) fun q hq=>.ok (q,a.2) fun c=>.qy (ha c) hq
noncomputable def JO (t a b:Expr) (pos:Pos):Out (EP W d sc σ own (.IfExp t a b pos)):=bd (v.t sc σ own t) fun x hx=>bd (v.e sc σ x.2 (if x.1 = true then a else b)) fun r hr=>.ok r fun c=>.qA (hx c) (by have:=hr c; revert this; cases x.1<;>exact id)
noncomputable def JP (x:Expr) (y:Str) (pos:Pos):Out (EP W d sc σ own (.Attribute x y pos)):=bd (zp x) fun _ hb=>bd (eT v sc σ own x) fun a ha=>bd (F7 a.2 a.1 y) fun r hr=>.ok (r,a.2) fun c=>.attr hb (ha c) hr
noncomputable def JQ (es:List Expr) (k:Nat) (pos:Pos):Out (EP W d sc σ own (.Tuple es k pos)):=bd (fa v sc σ false pos es own) fun r hr=>au (Nat.ble r.1.length 1000) 43 fun hz=>.ok (.tup r.1,r.2) fun c=>.tuple (hr c) (le_size hz)
noncomputable def JR (es:List Expr) (pos:Pos):Out (EP W d sc σ own (.List es pos)):=bd (fa v sc σ false pos es own) fun r hr=>au (Nat.ble r.1.length 1000) 44 fun hz=>.ok (.loc r.2.length,r.2 ++ [.lst r.1]) fun c=>.list (hr c) (le_size hz)
noncomputable def JS (f:Str) (fp:Pos) (x:Expr) (kn:Str) (params:Arguments) (body:Expr) (lsc:Scope) (lpos kp pos:Pos):Out (EP W d sc σ own (.Call (.Name f fp) [x] [⟨some kn,.Lambda params body lsc lpos,kp⟩] pos)):=aG (sEq kn rN) (fun hkn=>aG (Nat.beq x.ctorIdx 22) (fun _=>.no 166) fun hst=>au (de sc.sc).isSome 166 fun hl=>au (ja lsc) 166 fun hs=>bH (ig params lsc) 166 fun y hp=>bd (eName (W:=W) sc σ own f fp) fun fv hf=>bd (eS v sc σ own x) fun a ha=>(match fv,hf,a,ha with
 | .blt 6,hf,(.lst as,o),ha=>bd (y0 (H.lam lsc y body) as) fun ks hk=>bd (yV hG ks as) fun l hr=>.ok (.lst l,o) fun c=>sEq_iff.mp hkn▸ak.rP ((cV x).star hst) hl hp hs (hf c) (ha c) hk hr
 | _,_,_,_=>.no 167)) fun _=>.no 166
noncomputable def JT (k e:Expr) (gs:List Comprehension) (scope:Scope) (pos:Pos):Out (EP W d sc σ own (.DictComp k e gs scope pos)):=match k,e,gs with
 | .Name x px,.Constant (.bool true) u cp,[⟨.Name y tp,it,[],0⟩]=>aG (sEq x y) (fun hxy=>aG (Nat.beq it.ctorIdx 7) (fun _=>.no 168) fun hf=>au (cZ scope x .local) 168 fun hx=>au (kB scope) 168 fun hs=>au (scope.names.all fun p=>p.2 == .local) 168 fun hl=>bd (eS v sc σ own it) fun a ha=>(match a,ha with
  | (.lst as,o),ha=>au (Nat.ble as.length 10000) 168 fun hz=>(match litsOf as with
   | some ⟨is,hi⟩=>.ok (.dicI (rT (og is [])),o) fun c=>sEq_iff.mp hxy▸ak.Ig hx hs hl ((cV it).fold hf) (ha c) (hi W) hz
   | none=>.no 169)
  | _,_=>.no 169)) fun _=>.no 168
 | _,_,_=>.no 168
noncomputable def JU (x:Expr):Out (EP W d sc σ own x):=bd (zw v sc σ own x) fun r hr=>.ok (.loc r.1,r.2) hr.v
inductive VE:Expr→Type
 | name (x p):VE (.Name x p)
 | const (k u p):VE (.Constant k u p)
 | bin (l op r p):VE (.BinOp l op r p)
 | qy (op l p):VE (.UnaryOp op l p)
 | cmp (l ops rs p):VE (.Compare l ops rs p)
 | bools (op l p):VE (.BoolOp op l p)
 | ifx (t a b p):VE (.IfExp t a b p)
 | call (f as p):VE (.Call f as [] p)
 | attr (x y p):VE (.Attribute x y p)
 | sub (x k p):VE (.Subscript x k p)
 | tup (es k p):VE (.Tuple es k p)
 | lst (es p):VE (.List es p)
 | dict (ks es p):VE (.Dict ks es p)
 | comp (elt gs sc p):VE (.ListComp elt gs sc p)
 | dcomp (k e gs sc p):VE (.DictComp k e gs sc p)
 | rP (f fp x kn params body lsc lpos kp pos):VE (.Call (.Name f fp) [x] [⟨some kn,.Lambda params body lsc lpos,kp⟩] pos)
 | other (x):VE x
noncomputable def view (x:Expr):VE x:=match x with
 | .Name x p=>.name x p
 | .Constant k u p=>.const k u p
 | .BinOp l op r p=>.bin l op r p
 | .UnaryOp op l p=>.qy op l p
 | .Compare l ops rs p=>.cmp l ops rs p
 | .BoolOp op l p=>.bools op l p
 | .IfExp t a b p=>.ifx t a b p
 | .Call f as [] p=>.call f as p
 | .Attribute x y p=>.attr x y p
 | .Subscript x k p=>.sub x k p
 | .Tuple es k p=>.tup es k p
 | .List es p=>.lst es p
 | .Dict ks es p=>.dict ks es p
 | .ListComp elt gs sc p=>.comp elt gs sc p
 | .DictComp k e gs sc p=>.dcomp k e gs sc p
 | .Call (.Name f fp) [x] [⟨some kn,.Lambda params body lsc lpos,kp⟩] pos=>.rP f fp x kn params body lsc lpos kp pos
 | x=>.other x
noncomputable def byName {M:Expr→Type} (e:Expr) (k:(x:Str)→(p:Pos)→M (.Name x p)) (z:(x:Expr)→M x):M e:=VE.casesOn (motive:=fun x _=>M x) (view e) k (fun _ _ _=>z _) (fun _ _ _ _=>z _) (fun _ _ _=>z _) (fun _ _ _ _=>z _) (fun _ _ _=>z _) (fun _ _ _ _=>z _) (fun _ _ _=>z _) (fun _ _ _=>z _) (fun _ _ _=>z _) (fun _ _ _=>z _) (fun _ _=>z _) (fun _ _ _=>z _) (fun _ _ _ _=>z _) (fun _ _ _ _ _=>z _) (fun _ _ _ _ _ _ _ _ _ _=>z _) (fun _=>z _)
noncomputable def zA {M:Expr→Type} (e:Expr) (k:(k:Const)→(u:Nat)→(p:Pos)→M (.Constant k u p)) (z:(x:Expr)→M x):M e:=VE.casesOn (motive:=fun x _=>M x) (view e) (fun _ _=>z _) k (fun _ _ _ _=>z _) (fun _ _ _=>z _) (fun _ _ _ _=>z _) (fun _ _ _=>z _) (fun _ _ _ _=>z _) (fun _ _ _=>z _) (fun _ _ _=>z _) (fun _ _ _=>z _) (fun _ _ _=>z _) (fun _ _=>z _) (fun _ _ _=>z _) (fun _ _ _ _=>z _) (fun _ _ _ _ _=>z _) (fun _ _ _ _ _ _ _ _ _ _=>z _) (fun _=>z _)
noncomputable def JV {M:Expr→Type} (e:Expr) (k:(op:UnaryOp)→(l:Expr)→(p:Pos)→M (.UnaryOp op l p)) (z:(x:Expr)→M x):M e:=VE.casesOn (motive:=fun x _=>M x) (view e) (fun _ _=>z _) (fun _ _ _=>z _) (fun _ _ _ _=>z _) k (fun _ _ _ _=>z _) (fun _ _ _=>z _) (fun _ _ _ _=>z _) (fun _ _ _=>z _) (fun _ _ _=>z _) (fun _ _ _=>z _) (fun _ _ _=>z _) (fun _ _=>z _) (fun _ _ _=>z _) (fun _ _ _ _=>z _) (fun _ _ _ _ _=>z _) (fun _ _ _ _ _ _ _ _ _ _=>z _) (fun _=>z _)
noncomputable def oy {M:Expr→Type} (e:Expr) (k:(f:Expr)→(as:List Expr)→(p:Pos)→M (.Call f as [] p)) (z:(x:Expr)→M x):M e:=VE.casesOn (motive:=fun x _=>M x) (view e) (fun _ _=>z _) (fun _ _ _=>z _) (fun _ _ _ _=>z _) (fun _ _ _=>z _) (fun _ _ _ _=>z _) (fun _ _ _=>z _) (fun _ _ _ _=>z _) k (fun _ _ _=>z _) (fun _ _ _=>z _) (fun _ _ _=>z _) (fun _ _=>z _) (fun _ _ _=>z _) (fun _ _ _ _=>z _) (fun _ _ _ _ _=>z _) (fun _ _ _ _ _ _ _ _ _ _=>z _) (fun _=>z _)
noncomputable def JW (x:Expr):Out (EP W d sc σ own x):=VE.casesOn (motive:=fun x _=>Out (EP W d sc σ own x)) (view x)
 (JK sc σ own) (JL sc σ own) (JM hG v sc σ own) (JN v sc σ own) (JD hG v sc σ own) (fun op l pos=>zt hG v sc σ op pos l own) (JO v sc σ own) (Jw H v sc σ own) (JP v sc σ own) (Jy hG v sc σ own) (JQ v sc σ own) (JR v sc σ own) (JJ v sc σ own) (fun elt gs scope pos=>JU v sc σ own (.ListComp elt gs scope pos)) (JT v sc σ own) (JS hG H v sc σ own) (fun _=>.no 45)
noncomputable def JX (t a b:Expr) (pos:Pos):Out (TP W d sc σ own (.IfExp t a b pos)):=bd (v.t sc σ own t) fun x hx=>bd (v.t sc σ x.2 (if x.1 = true then a else b)) fun r hr=>.ok r fun c=>.qA (hx c) (by have:=hr c; revert this; cases x.1<;>exact id)
noncomputable def JY (op:UnaryOp) (x:Expr) (pos:Pos):Out (TP W d sc σ own (.UnaryOp op x pos)):=match op with
 | .Not=>bd (v.t sc σ own x) fun b hb=>.ok (!b.1,b.2) fun c=>.not (hb c)
 | _=>.no 46
noncomputable def JZ (op:BoolOp) (l:List Expr) (pos:Pos):Out (TP W d sc σ own (.BoolOp op l pos)):=bd (zu v sc σ op pos l own) fun r hr=>.ok r fun c=>hr c _
noncomputable def oz (e:Expr) (h:∀ (c:aj W d sc) whole,isTrue e c.env whole = (do let v ← whole; standAt e.pos; holding [v] (truthy v))):Out (TP W d sc σ own e):=bd (v.e sc σ own e) fun a ha=>bd (tr hG a.1) fun t ht=>.ok (t,a.2) fun c=>.value (h c) (ha c) ht
noncomputable def stepT (x:Expr):Out (TP W d sc σ own x):=VE.casesOn (motive:=fun x _=>Out (TP W d sc σ own x)) (view x)
 (fun x p=>oz hG v sc σ own (.Name x p) fun _ _=>rfl) (fun k u p=>oz hG v sc σ own (.Constant k u p) fun _ _=>rfl) (fun _ _ _ _=>.no 46) (JY v sc σ own) (JG hG v sc σ own) (JZ v sc σ own) (JX v sc σ own) (fun f as p=>oz hG v sc σ own (.Call f as [] p) fun _ _=>rfl) (fun x y p=>oz hG v sc σ own (.Attribute x y p) fun _ _=>rfl)
 (fun _ _ _=>.no 46) (fun _ _ _=>.no 46) (fun _ _=>.no 46) (fun _ _ _=>.no 46) (fun _ _ _ _=>.no 46) (fun _ _ _ _ _=>.no 46) (fun _ _ _ _ _ _ _ _ _ _=>.no 46) (fun _=>.no 46)
end
noncomputable abbrev Fc {α:Type} (a:α):={ b:α // b = a }
noncomputable def cj {α β:Type} (f:α→β) {a:α} (x:Fc a):Fc (f a):=Subtype.rec (motive:=fun _=>Fc (f a)) (fun b h=>⟨f b,congrArg f h⟩) x
noncomputable def cO {α β γ:Type} (f:α→β→γ) {a:α} {b:β} (x:Fc a) (y:Fc b):Fc (f a b):=Subtype.rec (motive:=fun _=>Fc (f a b)) (fun c h=>Subtype.rec (motive:=fun _=>Fc (f a b)) (fun d k=>⟨f c d,by rw [h,k]⟩) y) x
noncomputable def ew (n:Nat):Fc n:=Nat.rec (motive:=fun n=>Fc n) ⟨0,rfl⟩ (fun m _=>⟨m.succ,rfl⟩) n
noncomputable def kM (i:Int):Fc i:=Int.rec (motive:=fun i=>Fc i) (fun n=>cj Int.ofNat (ew n)) (fun n=>cj Int.negSucc (ew n)) i
noncomputable def oA {α:Type} (f:(a:α)→Fc a) (l:List α):Fc l:=List.rec (motive:=fun l=>Fc l) ⟨[],rfl⟩ (fun a _ ih=>cO List.cons (f a) ih) l
noncomputable def zB (x:Str):Fc x:=⟨x,rfl⟩
noncomputable def oB (b:Bool):Fc b:=Bool.rec (motive:=fun b=>Fc b) ⟨false,rfl⟩ ⟨true,rfl⟩ b
noncomputable def oC (e:SE):Fc e:=SE.rec (motive:=fun e=>Fc e) (fun i=>cj SE.lit (kM i)) (fun n=>cj SE.var (ew n)) (fun _ _ h k=>cO SE.add h k) (fun i _ h=>cO SE.mul (kM i) h) (fun _ n h=>cO SE.div h (ew n)) (fun _ n h=>cO SE.mod h (ew n)) (fun b _ h=>cO SE.bit (oB b) h) (fun l _ h=>cO SE.tab (oA kM l) h) (fun _ h=>cj SE.abs h) e
noncomputable def J0 (B:SB):Fc B:=SB.rec (motive:=fun B=>Fc B) (fun k e p=>cO (fun (f:Bool×Bool) e=>SB.mk f.1 e f.2) (cO Prod.mk (oB k) (oB p)) (oC e)) B
noncomputable def J1 (v:Value):Fc v:=match v with
 | .ref a=>cj Value.ref (ew a)
 | v=>⟨v,rfl⟩
noncomputable def fA (a:AV):Fc a:=AV.rec (motive_1:=fun a=>Fc a) (motive_2:=fun a=>Fc a) (motive_3:=fun a=>Fc a) (motive_4:=fun a=>Fc a) (motive_5:=fun a=>Fc a) (motive_6:=fun a=>Fc a)
 ⟨.none,rfl⟩ (fun b=>cj AV.bool (oB b)) (fun B=>cj AV.sb (J0 B)) (fun e=>cj AV.int (oC e)) (fun x=>cj AV.str (zB x)) (fun l=>cj AV.bytes (oA oC l)) (fun _ h=>cj AV.tup h) (fun _ h=>cj AV.lst h) (fun C _ h=>cO AV.inst (ew C) h) (fun _ h=>cj AV.dicI h) (fun _ h=>cj AV.dicS h) (fun i n=>cO AV.rng (kM i) (ew n)) (fun v=>cj AV.con (J1 v)) (fun n=>cj AV.blt (ew n)) ⟨.any,rfl⟩ ⟨.anyS,rfl⟩ (fun n=>cj AV.loc (ew n)) (fun n=>cj AV.hole (ew n))
 ⟨[],rfl⟩ (fun _ _ h k=>cO List.cons h k) ⟨[],rfl⟩ (fun _ _ h k=>cO List.cons h k) ⟨[],rfl⟩ (fun _ _ h k=>cO List.cons h k) (fun x _ h=>cO Prod.mk (zB x) h) (fun x _ h=>cO Prod.mk (kM x) h) a
noncomputable def kN (l:List AV):Fc l:=oA fA l
section
variable {W:ab} {d:Nat} {G:Facts} (hG:Sat W.ρ G) (H:Hd W d) (v:Ev W d) (sc:Fs) (σ:aq) (own:Own)
noncomputable abbrev J2 (W:ab) (d:Nat) (sc:Fs) (σ:aq) (own:Own) (l:List Stmt) (f:Fl):Prop:=∀ c:aj W d sc,aB c σ own (execs l c.env) f
noncomputable def gG:(l:List Stmt)→(σ:aq)→(own:Own)→Out (J2 W d sc σ own l)
 | [],σ,own=>.ok (.next σ own) fun c=>.nil
 | st::l,σ,own=>bd (v.s sc σ own st) fun f hf=>(match f,hf with
  | .next σ' o,hf=>(match fL o with
   | ⟨o',e⟩=>bd (gG l σ' o') fun f h=>.ok f fun c=>.seq (hf c) (e▸h c))
  | .ret a o,hf=>.ok (.ret a o) fun c=>.Gf (hf c)
  | .exc a,hf=>.ok (.exc a) fun c=>.Gg (hf c))
noncomputable def zC (sc:Scope) (x:Str) (px:Pos) (e:Expr):Bool:=match e with
 | .ListComp _ _ s p=>nH sc x && (px.line == p.line) && !(s.names.any fun q=>sEq q.1 x && (q.2 == .local || q.2 == .cell))
 | _=>false
set_option tactic.hygienic true in
theorem J3 (c:aj W d sc) {x:Str} {px pos:Pos} {e:Expr} (h:zC sc.sc x px e = true):swapsWith e (some (.Name x px)) pos.line c.env = pure true:=by
 cases e with
 | ListComp elt gens s p=>
  obtain ⟨h,h3⟩:=Bool.and_eq_true_iff.mp h
  obtain ⟨h1,h2⟩:=Bool.and_eq_true_iff.mp h
  have hk:=beq_iff_eq.mp ((yx c x).symm.trans h1)
  unfold swapsWith
  dsimp only
  have e1:(s.names.any fun x_1=>match x_1 with | (n,k)=>n == x && (k == .local || k == .cell)) = (s.names.any fun q=>sEq q.1 x && (q.2 == .local || q.2 == .cell)):=by
   congr 1; funext q; obtain ⟨n,k⟩:=q; rw [eE]
  rw [e1,h3,hk,show (px.line == (Expr.ListComp elt gens s p).pos.line) = true from h2]
  have hb:(c.env.blockKind == ScopeKind.function) = true:=by unfold Env.blockKind; rw [c.K.kind]; rfl
  rw [hb]; rfl
 | _=>exact (Bool.false_ne_true h).elim
noncomputable def oD (e:Expr):Out fun _:Unit=>kh e:=aG (Nat.ble 8 e.ctorIdx && Nat.ble e.ctorIdx 10) (fun _=>.no 50) fun h=>.ok () ((cV e).swap h)
noncomputable def so (x:Str) (p:Pos) (e:Expr) (pos:Pos):Out (SP W d sc σ own (.Assign [.Name x p] e pos)):=aG (zC sc.sc x p e) (fun h=>bd (zw v sc σ own e) fun r hr=>(match ki sc x (.loc r.1) σ with
  | some ⟨σ',hb⟩=>.ok (.next σ' r.2) fun c=>hr.s c x p pos σ' (J3 sc c h) hb
  | none=>.no 51)) fun _=>bd (oD e) fun _ hs=>bd (v.e sc σ own e) fun a ha=>(match ki sc x a.1 σ with
  | some ⟨σ',hb⟩=>.ok (.next σ' a.2) fun c=>.assign hs (ha c) hb
  | none=>.no 52)
noncomputable def J4 (ts:List Expr) (k:Nat) (tp:Pos) (e:Expr) (pos:Pos):Out (SP W d sc σ own (.Assign [.Tuple ts k tp] e pos)):=match e with
 | .Tuple vs k2 p2=>di (nJ sc.sc ts vs) (fun r hr=>match r,hr with
  | none,hr=>bd (v.e sc σ own (.Tuple vs k2 p2)) fun a ha=>(match a,ha with
   | (.tup as,o),ha=>(match nA sc (.Tuple ts k tp) (.tup as) σ with
    | some ⟨σ',hb⟩=>.ok (.next σ' o) fun c=>.tup rfl (yz c hr) (ha c) hb
    | none=>.no 53)
   | _,_=>.no 54)
  | some ns,hr=>bd (v.e sc σ own (.Tuple vs k2 p2)) fun a ha=>(match a,ha with
   | (.tup as,o),ha=>au (Nat.beq ns.length as.length) 55 fun hn=>(match yB sc ns.reverse as.reverse σ with
    | some ⟨σ',hb⟩=>.ok (.next σ' o) fun c=>.swap hr hn (ha c) hb
    | none=>.no 56)
   | _,_=>.no 57)) fun _=>.no 58
 | .Call f as ks p=>bd (v.e sc σ own (.Call f as ks p)) fun a ha=>(match a,ha with
   | (.tup as,o),ha=>(match nA sc (.Tuple ts k tp) (.tup as) σ with
    | some ⟨σ',hb⟩=>.ok (.next σ' o) fun c=>.tup rfl rfl (ha c) hb
    | none=>.no 59)
   | _,_=>.no 60)
 | _=>.no 61
noncomputable def J5 (x:Expr) (y:Str) (ap:Pos) (e:Expr) (pos:Pos):Out (SP W d sc σ own (.Assign [.Attribute x y ap] e pos)):=bd (oD e) fun _ hs=>bd (v.e sc σ own e) fun a ha=>bd (v.e sc σ a.2 x) fun b hb=>(match b,hb with
 | (.loc n,o),hb=>(match qo o n with
  | some ⟨(C,m,fs),h,h'⟩=>(match hU C ef with
   | some ⟨ns,hm⟩=>au (ns.any (sEq y)) 62 fun hn=>au (Nat.blt fs.length 100) 63 fun hz=>.ok (.next σ (o.set m (.fld (kI y a.1 fs)))) fun c=>.setAttr hs (ha c) (hb c) h h' hm hn hz
   | none=>.no 64)
  | none=>.no 65)
 | _,_=>.no 66)
noncomputable def J6 (own:Own) (n:Nat) (b a:AV):Out (kJ W own n b a):=match b with
 | .int e=>(match jf own n with
  | some ⟨l,h⟩=>bd (e6 hG e) fun i hi=>au (aH (bt 0 i) (aH (Nat.blt i.toNat l.length) (Nat.ble l.length 10000))) 90 fun q=>.ok (own.set n (.lst (l.set i.toNat a))) (Hn h hi (dA (aC q).1) (Nat.blt_eq.mp (aC (aC q).2).1) (aC (aC q).2).2)
  | none=>.no 91)
 | .str y=>(match sd own n with
  | some ⟨l,hp⟩=>au (Nat.ble l.length 10000) 92 fun hz=>.ok (own.set n (.dicS (dput y a l))) (Hq hp hz)
  | none=>.no 93)
 | .tup as=>bd (n8 hG as) fun ks hk=>(match se own n with
  | some ⟨l,h⟩=>au (fR ks l).isNone 92 fun hn=>au (Nat.ble l.length 10000) 92 fun hz=>.ok (own.set n (.dicT (l ++ [(ks,a)]))) (H5 h hk hn hz)
  | none=>.no 93)
 | _=>.no 94
noncomputable def J7 (x k:Expr) (p2:Pos) (e:Expr) (pos:Pos):Out (SP W d sc σ own (.Assign [.Subscript x k p2] e pos)):=bd (oD e) fun _ hs=>bd (v.e sc σ own e) fun a ha=>bd (v.e sc σ a.2 x) fun b hb=>(match b,hb with
 | (.loc n,o),hb=>bd (v.e sc σ o k) fun q hq=>bd (J6 hG q.2 n q.1 a.1) fun r hr=>.ok (.next σ r) fun c=>.Hm hs (ha c) (hb c) (hq c) hr
 | _,_=>.no 95)
noncomputable def J8 (t:Expr) (n:Nat) (vs:List AV):Out (nQ W t n vs):=match t,n,vs with
 | .Tuple ts k p,12,[a]=>bH (gx a) 67 fun r hr=>.ok (i9 0 r.2) (yE hr)
 | .Tuple ts k p,11,[a,b]=>bH (gx a) 68 fun r hr=>bH (gx b) 69 fun q hq=>aG (r.1 == q.1) (fun h=>.ok (nP r.2 q.2) (Hb hr (by rw [hq,beq_iff_eq.mp h]))) fun _=>.no 70
 | _,_,_=>.no 71
noncomputable def zD (body:List Stmt) (t:Expr) (as:List AV) (σ:aq) (own:Own):Out fun f:Fl=>∀ c:aj W d sc,cL c t (fun it=>.forLoop t it body [] c.env) σ own as f:=bd (kA (W:=W) (d:=d) (sc:=sc) (K:=fun _=>True) (t:=t) (code:=fun c it=>.forLoop t it body [] c.env) (T:=fun c Q E s=>ay W c.A (execs body c.env) Q E s) (fun c=>rh) (fun σ own=>bd (gG v sc body σ own) fun f h=>.ok f fun c _=>.body h) as σ own) fun f h=>.ok f fun c=>h c trivial
noncomputable def J9 (W:ab) (it:Expr):Bool:=match it with
 | .Call (.Name f _) _ [] _=>(match xK W f with
  | some ⟨.blt n,_⟩=>Nat.beq n 11 || Nat.beq n 12
  | _=>false)
 | _=>false
noncomputable def Ka (t it:Expr) (body:List Stmt) (pos:Pos):Out (SP W d sc σ own (.For t it body [] pos)):=match J9 W it,it with
 | true,.Call (.Name f fp) xs [] cp=>au (noStar xs) 72 fun ha=>bd (eName (W:=W) sc σ own f fp) fun fv hf=>(match fv,hf with
  | .blt n,hf=>bd (fa v sc σ true cp xs own) fun vs hl=>bd (J8 (W:=W) t n vs.1) fun els M=>bd (zD v sc body t els σ vs.2) fun f L=>.ok f fun c=>.yF (ip ha) (hf c) (hl c) M (L c)
  | _,_=>.no 73)
 | _,it=>aG (Nat.beq it.ctorIdx 7) (fun _=>.no 74) fun hf=>bd (eS v sc σ own it) fun a ha=>bH (elems a.1) 75 fun as has=>bd (zD v sc body t as σ a.2) fun f L=>.ok f fun c=>.GC ((cV it).fold hf) (ha c) has (L c)
theorem aB.Kb {W:ab} {d:Nat} {sc:Fs} {σ σ':aq} {own own1:Own} {c:aj W d sc} {b:List Stmt} {h₀:ExceptHandler} {hs:List ExceptHandler} {pos:Pos} (h:aB c σ own (execs b c.env) (.next σ' own1)):aB c σ own (exec (.Try b (h₀::hs) [] [] pos) c.env) (.next σ' own1):=fun s ad Q E S T=>
 wpAny_Try_except (h s ad _ _ S fun h' tk ad' S'=>wpAny_execs_nil (T h' tk ad' S'))
theorem aB.Kc {W:ab} {d:Nat} {sc:Fs} {σ:aq} {own own1:Own} {c:aj W d sc} {b:List Stmt} {h₀:ExceptHandler} {hs:List ExceptHandler} {pos:Pos} {a:AV} (h:aB c σ own (execs b c.env) (.ret a own1)):aB c σ own (exec (.Try b (h₀::hs) [] [] pos) c.env) (.ret a own1):=fun s ad Q E S T=>
 wpAny_Try_except (h s ad _ _ S T)
noncomputable def Ke (b:List Stmt) (h₀:ExceptHandler) (hs:List ExceptHandler) (pos:Pos):Out (SP W d sc σ own (.Try b (h₀::hs) [] [] pos)):=bd (gG v sc b σ own) fun f hf=>(match f,hf with
 | .next σ' o,hf=>.ok (.next σ' o) fun c=>(hf c).Kb
 | .ret a o,hf=>.ok (.ret a o) fun c=>(hf c).Kc
 | .exc _,_=>.no 100)
inductive VS:Stmt→Type
 | expr (e p):VS (.Expr e p)
 | asg (y p e pos):VS (.Assign [.Name y p] e pos)
 | asgT (ts k tp e pos):VS (.Assign [.Tuple ts k tp] e pos)
 | asgA (y z ap e pos):VS (.Assign [.Attribute y z ap] e pos)
 | asgS (y k p2 e pos):VS (.Assign [.Subscript y k p2] e pos)
 | ret (e pos):VS (.Return (some e) pos)
 | ret0 (pos):VS (.Return none pos)
 | ite (t b e pos):VS (.If t b e pos)
 | loop (t it body pos):VS (.For t it body [] pos)
 | pass (pos):VS (.Pass pos)
 | raise (e pos):VS (.Raise (some e) none pos)
 | try_ (b h hs pos):VS (.Try b (h::hs) [] [] pos)
 | other (x):VS x
noncomputable def sq (x:Stmt):VS x:=match x with
 | .Expr e p=>.expr e p
 | .Assign [.Name y p] e pos=>.asg y p e pos
 | .Assign [.Tuple ts k tp] e pos=>.asgT ts k tp e pos
 | .Assign [.Attribute y z ap] e pos=>.asgA y z ap e pos
 | .Assign [.Subscript y k p2] e pos=>.asgS y k p2 e pos
 | .Return (some e) pos=>.ret e pos
 | .Return none pos=>.ret0 pos
 | .If t b e pos=>.ite t b e pos
 | .For t it body [] pos=>.loop t it body pos
 | .Pass pos=>.pass pos
 | .Raise (some e) none pos=>.raise e pos
 | .Try b (h::hs) [] [] pos=>.try_ b h hs pos
 | x=>.other x
noncomputable def oE {α:Type} {P:α→Prop} (x y:Out P):Out P:=Out.rec (motive:=fun _=>Out P) (fun a h=>.ok a h) (fun B=>.ask B) (fun _=>y) x
noncomputable def Kf (y:Str) (p:Pos) (f:Str) (fp:Pos) (es:List Expr) (cp pos:Pos):Out (SP W d sc σ own (.Assign [.Name y p] (.Call (.Name f fp) es [] cp) pos)):=au (noStar es) 101 fun ha=>bd (eName (W:=W) sc σ own f fp) fun fv hf=>(match fv,hf with
 | .con (.ref a),hf=>bd (fa v sc σ true cp es own) fun vs hl=>au (bc vs.1) 101 fun na=>bd (H.rs a vs.1) fun x hx=>.ok (.exc x) fun c=>.sa (hf c) (ip ha) (hl c) na hx
 | _,_=>.no 101)
noncomputable def Kg (y:Str) (p:Pos) (e:Expr) (pos:Pos):Out (SP W d sc σ own (.Assign [.Name y p] e pos)):=oy (M:=fun e=>Out (SP W d sc σ own (.Assign [.Name y p] e pos))) e (fun f es cp=>byName (M:=fun f=>Out (SP W d sc σ own (.Assign [.Name y p] (.Call f es [] cp) pos))) f (fun f fp=>oE (so v sc σ own y p (.Call (.Name f fp) es [] cp) pos) (Kf H v sc σ own y p f fp es cp pos)) fun f=>so v sc σ own y p (.Call f es [] cp) pos) fun e=>so v sc σ own y p e pos
noncomputable def Kh (np:Pos) (k:Const) (cl:Nat) (kp cp pos:Pos):Out (SP W d sc σ own (.Raise (some (.Call (.Name bQ np) [.Constant k cl kp] [] cp)) none pos)):=au (Nat.ble 3 d) 102 fun hd=>aG (cZ sc.sc bQ .globalImplicit) (fun hk=>(match w5 k with
 | some ⟨a,h⟩=>.ok (.exc 71) fun c=>.I3 (Nat.le_of_ble_eq_true hd) (by rw [cU]; exact n6 hk) (h W c σ own cl kp)
 | none=>.no 102)) fun _=>.no 102
noncomputable def Ki (e:Expr) (pos:Pos):Out (SP W d sc σ own (.Raise (some e) none pos)):=oy (M:=fun e=>Out (SP W d sc σ own (.Raise (some e) none pos))) e (fun f es cp=>byName (M:=fun f=>Out (SP W d sc σ own (.Raise (some (.Call f es [] cp)) none pos))) f (fun f np=>(match es with
 | [a]=>aG (sEq f bQ) (fun q=>zA (M:=fun a=>Out (SP W d sc σ own (.Raise (some (.Call (.Name f np) [a] [] cp)) none pos))) a (fun k cl kp=>lf (fun r h=>sEq_iff.mp q▸h) (Kh (W:=W) (d:=d) sc σ own np k cl kp cp pos)) fun _=>.no 102) fun _=>.no 102
 | _=>.no 102)) fun _=>.no 102) fun _=>.no 102
noncomputable def Kj (e:Expr) (pos:Pos):Out (SP W d sc σ own (.Expr e pos)):=bd (oD e) fun _ hs=>bd (v.e sc σ own e) fun a ha=>.ok (.next σ a.2) fun c=>.expr hs (ha c)
noncomputable def Kk (e:Expr) (pos:Pos):Out (SP W d sc σ own (.Return (some e) pos)):=bd (v.e sc σ own e) fun a ha=>.ok (.ret a.1 a.2) fun c=>.ret (ha c)
noncomputable def sr (t:Expr) (b e:List Stmt) (pos:Pos):Out (SP W d sc σ own (.If t b e pos)):=bd (v.t sc σ own t) fun x hx=>bd (gG v sc (if x.1 = true then b else e) σ x.2) fun f hf=>.ok f fun c=>.ite (hx c) (hf c)
noncomputable def Kl (t:Expr) (b:List Stmt) (pos:Pos):Out (SP W d sc σ own (.If t b [] pos)):=JV (M:=fun t=>Out (SP W d sc σ own (.If t b [] pos))) t (fun op x up=>(match op with
 | .Not=>oy (M:=fun x=>Out (SP W d sc σ own (.If (.UnaryOp .Not x up) b [] pos))) x (fun f es cp=>byName (M:=fun f=>Out (SP W d sc σ own (.If (.UnaryOp .Not (.Call f es [] cp) up) b [] pos))) f (fun f fp=>au (noStar es) 110 fun ha=>au sc.fn 110 fun hfn=>au (d9 sc.sc) 110 fun ht=>bd (eName (W:=W) sc σ own f fp) fun fv hf=>(match fv,hf with
  | .con (.ref a),hf=>au (Nat.beq a 1289) 110 fun _=>bd (fa v sc σ true cp es own) fun vs hl=>au (bc vs.1) 110 fun na=>bd (H.rf a vs.1) fun r hr=>(match r,hr with
   | .bool true,hr=>.ok (.next σ vs.2) fun c=>.Je hfn ht (hf c) (ip ha) (hl c) na hr
   | _,_=>.no 110)
  | _,_=>.no 110)) fun _=>.no 110) fun _=>.no 110
 | _=>.no 110)) fun _=>.no 110
noncomputable def Km (t:Expr) (b e:List Stmt) (pos:Pos):Out (SP W d sc σ own (.If t b e pos)):=cond (aH sc.fn (d9 sc.sc)) (match e with
 | []=>oE (Kl H v sc σ own t b pos) (sr v sc σ own t b [] pos)
 | e=>sr v sc σ own t b e pos) (sr v sc σ own t b e pos)
noncomputable def Kn (x:Stmt):Out (SP W d sc σ own x):=VS.casesOn (motive:=fun x _=>Out (SP W d sc σ own x)) (sq x)
 (Kj v sc σ own) (Kg H v sc σ own) (J4 v sc σ own) (J5 v sc σ own) (J7 hG v sc σ own) (Kk v sc σ own) (fun _=>.ok (.ret .none own) fun c=>.Gi) (Km H v sc σ own) (Ka v sc σ own) (fun _=>.ok (.next σ own) fun c=>.pass) (Ki sc σ own) (Ke v sc σ own) (fun _=>.no 76)
noncomputable def EV (n:Nat):Ev W d:=Nat.rec ⟨fun _ _ _ _=>.no 77,fun _ _ _ _=>.no 78,fun _ _ _ _=>.no 79⟩ (fun _ v=>⟨JW hG H v,stepT hG v,Kn hG H v⟩) n
theorem bW.tells {n:Nat} {as:List AV} {r:AV} (h:bW W n as r):gZ W d own (.blt n) as r own:=fun V u q=>by
 obtain rfl:u = dE n:=q
 exact ⟨qW n,fun A a U ad s vs Q E B O rl F=>h A _ ad s vs Q E a.handled (B.more O) rl (F.got O rfl)⟩
noncomputable def zE {e:FE} (m:e∈FT) (as:List AV):Out fun r:AV×Own=>kq W (d + 1) e.a own as r.1 r.2:=au (!d9 e.F.scope) 80 fun ht=>au (e.ks.any (Nat.beq as.length)) 80 fun hk=>bd (gG v ⟨e.F.scope,true⟩ e.F.body (e.F.fill as) own) fun f hf=>(match f,hf with
 | .ret a o,hf=>.ok (a,o) (yd (hX m) ((Bool.not_eq_true' _).mp ht) hk fun c=>.inl (hf c))
 | .next σ o,hf=>.ok (.none,o) (yd (hX m) ((Bool.not_eq_true' _).mp ht) hk fun c=>.inr ⟨σ,hf c,rfl⟩)
 | _,_=>.no 81)
theorem Tells.hZ {f:Value} {as:List AV} {r b:AV} {own1 own2:Own} (t:Tells W d f own as r own1) (z:aU own1 r own2 b):Tells W d f own as b own2:=⟨t.1,fun A a U ad s vs Q E B O rl F=>t.2 A a U ad s vs Q E B O rl fun v h' tk ad' k r=>let ⟨k2,r2⟩:=z k.owns; F v h' tk ad' (k.trans k2) (r2 v r)⟩
noncomputable def zF (n:Nat) (as:List AV):Out fun r:AV×Own=>gZ W d own (.blt n) as r.1 r.2:=match n,as with
 | 7,[a]=>(match FI (W:=W) d own a with
  | some ⟨l,h⟩=>.ok (.loc own.length,own ++ [.lst l]) fun V u q=>by obtain rfl:u = dE 7:=q; exact h (qW 7)
  | none=>.no 82)
 | 6,[.lst as]=>bd (yV hG as as) fun l hr=>.ok (.lst l,own) (bW.tells own (HX hr))
 | 6,[.dicI l]=>au (Nat.blt l.length 64) 98 fun hl=>.ok (.lst (rR (sortI (l.map (·.1)))),own) (bW.tells own (Ia hl))
 | 10,[.inst C fs,.con (.ref D)]=>aG (Nat.beq C D) (fun e=>.ok (.bool true,own) (Nat.eq_of_beq_eq_true e▸bW.tells own F9)) fun _=>.no 98
 | n,as=>bd (FW hG n as) fun r hr=>.ok (r,own) (bW.tells own hr)
noncomputable def joinR {d:Nat} {f:Value} {as:List AV} {r:AV} {own1:Own} (T:Tells W d f [] as r own1) (ha:bc as = true):Out fun x:AV×Own=>Tells W d f own as x.1 x.2:=match zb own1 (fS own.length own1 (fT own1 0)) (fT own1 0),jb (fS own.length own1 (fT own1 0)) r with
 | some ⟨own2,P⟩,some ⟨b,hb⟩=>.ok (b,own ++ own2) (T.join ha (r6 _ _) P hb)
 | _,_=>.no 170
noncomputable def fnIn {e:FE} (m:e∈FT) (as:List AV):Out fun r:AV×Own=>Tells W (d + 1) (.ref e.a) own as r.1 r.2:=bd (zE v own m as) fun r hr=>.ok r (hr.tells (hX m))
noncomputable def maker (a:Addr):Bool:=[1132,1125,1139,1023,1030,1037].any (Nat.beq a)
noncomputable def kO (own:Own) (a:AV):{ r:AV×Own // aU own a r.2 r.1 }:=match nl a with
 | true=>⟨(a,own),aU.refl⟩
 | false=>(match Il own a with
  | some r=>r
  | none=>⟨(a,own),aU.refl⟩)
noncomputable def Ko {e:FE} (m:e∈FT) (as:List AV) (ha:bc as = true):Out fun r:AV×Own=>Tells W (d + 1) (.ref e.a) own as r.1 r.2:=bd (fnIn v [] m as) fun r hr=>cond (maker e.a) (joinR own hr ha) (match kO r.2 r.1 with
 | ⟨q,z⟩=>aG (nl q.1) (fun hq=>.ok (q.1,own) ((hr.hZ [] z).lift ha hq)) fun _=>joinR own hr ha)
noncomputable def Kp {e:FE} (m:e∈FT) (as:List AV):Out fun r:AV×Own=>Tells W (d + 1) (.ref e.a) own as r.1 r.2:=aG (bc as) (fun ha=>Ko v own m as ha) fun _=>fnIn v own m as
noncomputable def su {C:Addr} {e:FE} (m:e∈FT) (hC:(C,e.a)∈gy) (as:List AV):Out fun r:AV×Own=>Tells W (d + 4) (.ref C) own as r.1 r.2:=bd (zE v (own ++ [.fld []] ++ [.obj C own.length]) m (.loc (own.length + 1)::as)) fun r hr=>(match r,hr with
 | (.none,o),hr=>.ok (.loc (own.length + 1),o) (Hj hC hr)
 | _,_=>.no 83)
noncomputable def zG {C:Addr} {e:FE} (m:e∈FT) (hC:(C,e.a)∈gy) (as:List AV):Out fun r:AV×Own=>Tells W (d + 4) (.ref C) own as r.1 r.2:=bd (su v own m hC as) fun r hr=>(match settle r.2 r.1 with
 | ⟨q,z⟩=>.ok q (hr.hZ own z))
noncomputable def Kq {C:Addr} {e:FE} (m:e∈FT) (hC:(C,e.a)∈gy) (as:List AV) (ha:bc as = true):Out fun r:AV×Own=>Tells W (d + 4) (.ref C) own as r.1 r.2:=bd (zG v [] m hC as) fun r hr=>au (nl r.1) 97 fun hq=>.ok (r.1,own) (hr.lift ha hq)
noncomputable def Kr {C:Addr} {e:FE} (m:e∈FT) (hC:(C,e.a)∈gy) (as:List AV):Out fun r:AV×Own=>Tells W (d + 4) (.ref C) own as r.1 r.2:=cond (Nat.beq C 264 || Nat.beq C 1113) (aG (bc as) (fun ha=>bd (su v [] m hC as) fun r hr=>joinR own hr ha) fun _=>su v own m hC as) (aG (bc as) (Kq v own m hC as) fun _=>zG v own m hC as)
noncomputable def zH (a:Addr) (as:List AV):Out fun r:AV×Own=>Tells W (d + 5) (.ref a) own as r.1 r.2:=match kz a FT with
 | some ⟨e,m,h⟩=>bd (Kp v own m as) fun r hr=>.ok r (h▸hr.up (by lia))
 | none=>(match hU a gy with
  | some ⟨fI,hC⟩=>(match kz fI FT with
   | some ⟨e,m,h⟩=>bd (Kr v own m (h▸hC) as) fun r hr=>.ok r (hr.up (by lia))
   | none=>.no 84)
  | none=>.no 85)
noncomputable def sv (f:AV) (as:List AV):Out fun r:AV×Own=>gZ W (d + 5) own f as r.1 r.2:=match f with
 | .blt n=>zF hG own n as
 | .con (.ref a)=>bd (zH v own a as) fun r hr=>.ok r fun V u q=>by
   obtain rfl:u = .ref a:=q
   exact hr
 | _=>.no 86
noncomputable def Ks (lsc:Scope) (y:Str) (body:Expr) (a:AV):Out (rM W (d + 5) lsc y body a):=au (nl a) 99 fun na=>bd (v.e ⟨lsc,false⟩ [(y,a)] [] body) fun r hr=>au (nl r.1) 99 fun nr=>.ok r.1 fun A hb f params aa hp hs F=>HV (A:=A.in1.in1) ⟨aa.handled,by have:=aa.depth; show A.depth + (d + 1)≤900; lia,by have:=aa.units; show A.units + 1 + 1 + 3 * (d + 1)≤9000; lia⟩ hp hs F na nr hr
noncomputable def Kt (f:AV):Bool:=match f with
 | .blt _=>true
 | _=>false
noncomputable def fnX {e:FE} (m:e∈FT) (as:List AV):Out fun x:Addr=>e9 W (d + 1) (.ref e.a) as x:=au (!d9 e.F.scope) 103 fun ht=>au (e.ks.any (Nat.beq as.length)) 103 fun hk=>au (bc as) 103 fun na=>bd (gG v ⟨e.F.scope,true⟩ e.F.body (e.F.fill as) []) fun f hf=>(match f,hf with
 | .exc x,hf=>.ok x (I7 (hX m) ((Bool.not_eq_true' _).mp ht) hk na hf)
 | _,_=>.no 103)
noncomputable def Ku (a:Addr) (as:List AV):Out fun x:Addr=>e9 W (d + 5) (.ref a) as x:=au (Nat.beq a 1016 || Nat.beq a 1009) 104 fun _=>(match kN as with
 | ⟨bs,e⟩=>lf (fun x h=>e▸h) (match kz a FT with
  | some ⟨e,m,h⟩=>bd (fnX v m bs) fun x hx=>.ok x (h▸hx.up (by lia))
  | none=>.no 104))
theorem TellsF.up {d d':Nat} {f:Value} {as:List AV} {r:AV} (t:TellsF W d f as r) (h:d≤d'):TellsF W d' f as r:=⟨t.keep,fun A a=>t.run A (a.up h)⟩
noncomputable abbrev XT (W:ab):=(own:Own)→(a:Addr)→(as:List AV)→Option { r:AV×Nat // Tells W r.2 (.ref a) own as r.1 own }
noncomputable abbrev sx (W:ab):=(a:Addr)→(as:List AV)→Option { r:AV×Nat // TellsF W r.2 (.ref a) as r.1 }
structure kP (W:ab) where
 x:XT W
 s:Addr→Bool
 f:sx W
noncomputable def Kw (X:XT W) (f:AV) (as:List AV):Out fun r:AV×Own=>gZ W (d + 5) own f as r.1 r.2:=match f with
 | .con (.ref a)=>(match X own a as with
  | some ⟨r,h⟩=>aG (Nat.ble r.2 (d + 5)) (fun hd=>.ok (r.1,own) fun V u q=>by
    obtain rfl:u = .ref a:=q
    exact h.up (Nat.le_of_ble_eq_true hd)) fun _=>sv hG v own (.con (.ref a)) as
  | none=>sv hG v own (.con (.ref a)) as)
 | f=>sv hG v own f as
noncomputable def sa (X:XT W) (f:AV) (as:List AV):Out fun r:AV×Own=>gZ W (d + 5) own f as r.1 r.2:=match kN as with
 | ⟨bs,e⟩=>lf (fun r h=>e▸h) (Kw hG v own X f bs)
noncomputable def Kx (sX:Addr→Bool) (f:AV):Bool:=match f with
 | .blt _=>true
 | .con (.ref a)=>sX a
 | _=>false
noncomputable def Ky (Y:sx W) (d:Nat) (a:Addr) (as:List AV):Out fun r:AV=>TellsF W d (.ref a) as r:=match Y a as with
 | some ⟨r,h⟩=>aG (Nat.ble r.2 d) (fun q=>.ok r.1 (h.up (Nat.le_of_ble_eq_true q))) fun _=>.no 105
 | none=>.no 105
noncomputable def HK (T:kP W) (n:Nat) (k:Nat):Hd W (5 * k):=Nat.rec (motive:=fun k=>Hd W (5 * k)) ⟨Kt,fun own f as=>match f with
 | .blt m=>zF hG own m as
 | _=>.no 87,fun _ _ _ _=>.no 87,fun _ _=>.no 87,fun _ _=>.no 87⟩ (fun k h=>⟨Kx T.s,fun own f as=>sa hG (EV hG h n) own T.x f as,fun lsc y body a=>Ks (EV hG h n) lsc y body a,fun a as=>Ku (EV hG h n) a as,fun a as=>Ky T.f (5 * k + 5) a as⟩) k
noncomputable def Kz:XT W:=fun _ _ _=>none
noncomputable def KA:kP W:=⟨Kz,fun _=>false,fun _ _=>none⟩
noncomputable def KC {M:Stmt→Type} (st:Stmt) (k:(b:List Stmt)→(h:ExceptHandler)→(hs:List ExceptHandler)→(pos:Pos)→M (.Try b (h::hs) [] [] pos)) (z:(x:Stmt)→M x):M st:=VS.casesOn (motive:=fun x _=>M x) (sq st) (fun _ _=>z _) (fun _ _ _ _=>z _) (fun _ _ _ _ _=>z _) (fun _ _ _ _ _=>z _) (fun _ _ _ _ _=>z _) (fun _ _=>z _) (fun _=>z _) (fun _ _ _ _=>z _) (fun _ _ _ _=>z _) (fun _=>z _) (fun _ _=>z _) k (fun _=>z _)
noncomputable def zI {M:Stmt→Type} (st:Stmt) (k:(y:Str)→(p:Pos)→(e:Expr)→(pos:Pos)→M (.Assign [.Name y p] e pos)) (z:(x:Stmt)→M x):M st:=VS.casesOn (motive:=fun x _=>M x) (sq st) (fun _ _=>z _) k (fun _ _ _ _ _=>z _) (fun _ _ _ _ _=>z _) (fun _ _ _ _ _=>z _) (fun _ _=>z _) (fun _=>z _) (fun _ _ _ _=>z _) (fun _ _ _ _=>z _) (fun _=>z _) (fun _ _=>z _) (fun _ _ _ _=>z _) (fun _=>z _)
noncomputable abbrev fb (W:ab) (d:Nat) (sc:Fs) (σ:aq) (own:Own) (l:List Stmt) (r:AV):Prop:=∀ c:aj W d sc,SF c σ own (execs l c.env) r
noncomputable def KD (y:Str) (py py2 fp cp pos1 pos2 np kp hpos pos:Pos) (cl:Nat) (f:Str) (es:List Expr) (hs:List ExceptHandler) (rest:List Stmt):Out (fb W d sc σ own (.Try [.Assign [.Name y py] (.Call (.Name f fp) es [] cp) pos1] (.ExceptHandler (some (.Name bQ np)) none [.Assign [.Name y py2] (.Constant .none cl kp) pos2] hpos::hs) [] [] pos::rest)):=au (noStar es) 106 fun ha=>au (cZ sc.sc bQ .globalImplicit) 106 fun hk=>au (cZ sc.sc y .local) 106 fun hy=>bd (eName (W:=W) sc σ own f fp) fun fv hf=>(match fv,hf with
 | .con (.ref a),hf=>bd (fa v sc σ true cp es own) fun vs hl=>au (bc vs.1) 106 fun na=>bd (H.rs a vs.1) fun x hx=>au (Nat.beq x 71) 106 fun hx1=>bd (gG v sc rest ((y,.none)::del y σ) (own.map fun _=>.gone)) fun g hg=>(match g,hg with
  | .ret r o,hg=>au (nl r) 106 fun nr=>.ok r fun c=>.Jc (hf c) (ip ha) (hl c) na (Nat.eq_of_beq_eq_true hx1▸hx) (by rw [cU]; exact n6 hk) hy nr hg
  | _,_=>.no 106)
 | _,_=>.no 106)
noncomputable def KG (st:Stmt) (rest:List Stmt):Out (fb W d sc σ own (st::rest)):=KC (M:=fun st=>Out (fb W d sc σ own (st::rest))) st (fun b h hs pos=>(match b,h with
 | [s1],.ExceptHandler (some t) none [s2] hpos=>zI (M:=fun s1=>Out (fb W d sc σ own (.Try [s1] (.ExceptHandler (some t) none [s2] hpos::hs) [] [] pos::rest))) s1 (fun y py e pos1=>oy (M:=fun e=>Out (fb W d sc σ own (.Try [.Assign [.Name y py] e pos1] (.ExceptHandler (some t) none [s2] hpos::hs) [] [] pos::rest))) e (fun f es cp=>byName (M:=fun f=>Out (fb W d sc σ own (.Try [.Assign [.Name y py] (.Call f es [] cp) pos1] (.ExceptHandler (some t) none [s2] hpos::hs) [] [] pos::rest))) f (fun f fp=>byName (M:=fun t=>Out (fb W d sc σ own (.Try [.Assign [.Name y py] (.Call (.Name f fp) es [] cp) pos1] (.ExceptHandler (some t) none [s2] hpos::hs) [] [] pos::rest))) t (fun q np=>zI (M:=fun s2=>Out (fb W d sc σ own (.Try [.Assign [.Name y py] (.Call (.Name f fp) es [] cp) pos1] (.ExceptHandler (some (.Name q np)) none [s2] hpos::hs) [] [] pos::rest))) s2 (fun y2 py2 e2 pos2=>zA (M:=fun e2=>Out (fb W d sc σ own (.Try [.Assign [.Name y py] (.Call (.Name f fp) es [] cp) pos1] (.ExceptHandler (some (.Name q np)) none [.Assign [.Name y2 py2] e2 pos2] hpos::hs) [] [] pos::rest))) e2 (fun k cl kp=>(match k with
  | .none=>aG (sEq q bQ) (fun hq=>aG (sEq y2 y) (fun hy=>lf (fun r h=>by rw [sEq_iff.mp hq,sEq_iff.mp hy]; exact h) (KD H v sc σ own y py py2 fp cp pos1 pos2 np kp hpos pos cl f es hs rest)) fun _=>.no 107) fun _=>.no 107
  | _=>.no 107)) fun _=>.no 107) fun _=>.no 107) fun _=>.no 107) fun _=>.no 107) fun _=>.no 107) fun _=>.no 107
 | _,_=>.no 107)) fun _=>.no 107
noncomputable def zJ:(l:List Stmt)→(σ:aq)→(own:Own)→Out (fb W d sc σ own l)
 | [],_,_=>.no 108
 | st::l,σ,own=>oE (KG H v sc σ own st l) (bd (v.s sc σ own st) fun f hf=>(match f,hf with
  | .next σ' o,hf=>bd (zJ l σ' o) fun r hr=>.ok r fun c=>.seq (hf c) (hr c)
  | _,_=>.no 108))
noncomputable def KI {e:FE} (m:e∈FT) (as:List AV):Out fun r:AV=>TellsF W (d + 1) (.ref e.a) as r:=au (!d9 e.F.scope) 109 fun ht=>au (e.ks.any (Nat.beq as.length)) 109 fun hk=>au (bc as) 109 fun na=>bd (zJ H v ⟨e.F.scope,true⟩ e.F.body (e.F.fill as) []) fun r hr=>.ok r (I8 (hX m) ((Bool.not_eq_true' _).mp ht) hk na hr)
noncomputable def KJ (a:Addr) (as:List AV):Out fun r:AV=>TellsF W (d + 5) (.ref a) as r:=match kz a FT with
 | some ⟨e,m,h⟩=>bd (KI H v m as) fun x hx=>.ok x (h▸hx.up (by lia))
 | none=>.no 109
end
noncomputable abbrev Th:=Nat→SE
noncomputable def bq (θ:Th):SE→SE
 | .lit i=>.lit i
 | .var n=>θ n
 | .add a b=>.add (bq θ a) (bq θ b)
 | .mul k a=>.mul k (bq θ a)
 | .div a k=>.div (bq θ a) k
 | .mod a k=>.mod (bq θ a) k
 | .bit k a=>.bit k (bq θ a)
 | .tab l a=>.tab l (bq θ a)
 | .abs a=>.abs (bq θ a)
theorem iq (ρ:Nat→Int) (θ:Th) (e:SE):(bq θ e).val ρ = e.val fun n=>(θ n).val ρ:=by
 induction e with
 | lit | var=>rfl
 | add a b h k=>show (bq θ a).val ρ + (bq θ b).val ρ = _; rw [h,k]; rfl
 | mul k a h=>show k * (bq θ a).val ρ = _; rw [h]; rfl
 | div a k h=>show (bq θ a).val ρ / k = _; rw [h]; rfl
 | mod a k h=>show (bq θ a).val ρ % k = _; rw [h]; rfl
 | bit k a h=>show (if cQ k ((bq θ a).val ρ) = true then 1 else 0) = _; rw [h]; rfl
 | tab l a h=>show l.getD ((bq θ a).val ρ).toNat 0 = _; rw [h]; rfl
 | abs a h=>show (((bq θ a).val ρ).natAbs:Int) = _; rw [h]; rfl
noncomputable abbrev oF:={ a:AV //∀ (W:ab) V v,Rel W V v a→handedIn v = true }
noncomputable abbrev Hz:=Nat→oF
noncomputable def ir:Hz:=fun n=>⟨.hole n,fun W _ _ r=>W.ηp _ _ _ r⟩
noncomputable def ab.re (W:ab) (θ:Th) (ζ:Hz):ab:={ W with ρ:=fun n=>(θ n).val W.ρ,η:=fun n g v=>Rel W ⟨g,[]⟩ v (ζ n).1,ηm:=fun n g g' v s r=>Rel.mono (V:=⟨g,[]⟩) (V':=⟨g',[]⟩) ⟨s,fun _ _ h=>h⟩ r,ηp:=fun n g v r=>(ζ n).2 _ _ _ r }
section
noncomputable abbrev HB:=List (Nat×oF)
noncomputable def sy (n:Nat):HB→oF
 | []=>⟨.none,fun _ _ _ r=>r▸rfl⟩
 | (m,a)::l=>(match Nat.beq n m with
  | true=>a
  | false=>sy n l)
noncomputable def zK (l:HB):Hz:=fun n=>sy n l
noncomputable def bY (ζ:Hz) (l:HB):Prop:=∀ x∈l,ζ x.1 = x.2
theorem bY.l {ζ:Hz} {l m:HB} (h:bY ζ (l ++ m)):bY ζ l:=fun x q=>h x (List.mem_append.mpr (.inl q))
theorem bY.r {ζ:Hz} {l m:HB} (h:bY ζ (l ++ m)):bY ζ m:=fun x q=>h x (List.mem_append.mpr (.inr q))
noncomputable def once:(l:HB)→Option (PLift (bY (zK l) l))
 | []=>some ⟨nofun⟩
 | (n,a)::l=>(match once l with
  | some ⟨h⟩=>aG (l.any fun p=>Nat.beq p.1 n) (fun _=>none) fun hn=>some ⟨fun x m=>(by
   show (match Nat.beq x.1 n with | true=>a | false=>sy x.1 l) = x.2
   rcases List.mem_cons.mp m with e | m
   ·subst e; rw [Nat.beq_refl]
   ·cases q:Nat.beq x.1 n with
    | true=>rw [List.any_eq_true.mpr ⟨x,m,q⟩] at hn; exact fq hn
    | false=>exact h x m)⟩
  | none=>none)
noncomputable def oG (l:HB):Option (PLift (bY ir l)):=match l with
 | []=>some ⟨gd⟩
 | (n,⟨.hole m,_⟩)::l=>aG (Nat.beq n m) (fun e=>(match oG l with
  | some ⟨h⟩=>some ⟨fun x q=>(List.mem_cons.mp q).elim (fun z=>by rw [z]; exact Subtype.ext (congrArg AV.hole (Nat.eq_of_beq_eq_true e))) (h x)⟩
  | none=>none)) fun _=>none
 | _=>none
noncomputable def zL (n:Nat):(l:HB)→Option { a:oF // (n,a)∈l }
 | []=>none
 | (m,a)::l=>aG (Nat.beq n m) (fun e=>some ⟨a,Nat.eq_of_beq_eq_true e▸.head _⟩) fun _=>(match zL n l with
  | some ⟨b,h⟩=>some ⟨b,.tail _ h⟩
  | none=>none)
variable (W:ab) (θ:Th)
noncomputable def gH (e:SE):SE:=toS (bh e 1 (0,[])).1 (bh e 1 (0,[])).2
theorem sA (ρ:Nat→Int) (e:SE):(gH e).val ρ = e.val ρ:=by
 have:=ft (ρ:=ρ) e 1 (0,[])
 unfold gH
 rw [eP,this]
 show 0 + 0 + 1 * _ = _
 lia
noncomputable def gI (B:SB):SB:=⟨B.k,bq θ B.e,B.p⟩
theorem oH {ζ:Hz} (B:SB):(gI θ B).val W.ρ = B.val (W.re θ ζ).ρ:=by
 show (match B.p with | true=>cQ B.k ((bq θ B.e).val W.ρ) | false=>!cQ B.k ((bq θ B.e).val W.ρ)) = _
 rw [iq]; rfl
noncomputable def zM:(l:List SE)→{ m:List SE // vals W.ρ m = vals (fun n=>(θ n).val W.ρ) l }
 | []=>⟨[],rfl⟩
 | e::l=>(match zM l with
  | ⟨m,h⟩=>⟨gH (bq θ e)::m,by show (gH (bq θ e)).val W.ρ::vals W.ρ m = _; rw [sA,iq,h]; rfl⟩)
noncomputable def KL (ζ:Hz) (a b:AV):Prop:=∀ V v,Rel (W.re θ ζ) V v a→Rel W V v b
variable (hb:HB)
noncomputable def zN (a b:AV):Prop:=∀ ζ,bY ζ hb→KL W θ ζ a b
noncomputable def KN (a b:List AV):Prop:=∀ ζ,bY ζ hb→∀ V v,ai (W.re θ ζ) V v a→ai W V v b
noncomputable def KO (a b:List (Str×AV)):Prop:=∀ ζ,bY ζ hb→∀ V v,bG (W.re θ ζ) V v a→bG W V v b
noncomputable def KP (a b:List (Int×AV)):Prop:=∀ ζ,bY ζ hb→∀ V v,bP (W.re θ ζ) V v a→bP W V v b
noncomputable abbrev ey (a:AV):=Option (Subtype (zN W θ hb a))
noncomputable abbrev kQ (a:List AV):=Option (Subtype (KN W θ hb a))
noncomputable abbrev oI (a:List (Str×AV)):=Option (Subtype (KO W θ hb a))
noncomputable abbrev oJ (a:List (Int×AV)):=Option (Subtype (KP W θ hb a))
noncomputable def zO (l:List SE):ey W θ hb (.bytes l):=match zM W θ l with
 | ⟨m,h⟩=>some ⟨.bytes m,fun ζ z V v r=>(show jW (vals W.ρ m) v by rw [h]; exact r)⟩
noncomputable def zP (n:Nat):ey W θ hb (.hole n):=match zL n hb with
 | some ⟨a,m⟩=>some ⟨a.1,fun ζ z V v r=>(by have r:Rel W ⟨V.g,[]⟩ v (ζ n).1:=r; rw [z _ m] at r; exact Rel.mono (V:=⟨V.g,[]⟩) (V':=V) ⟨fun _ _ h=>h,fun _ _ h=>by exact ar h⟩ r)⟩
 | none=>none
noncomputable def zQ {a:AV} {l:List AV} (x:ey W θ hb a) (y:kQ W θ hb l):kQ W θ hb (a::l):=gC x y List.cons fun b m h k ζ z V v ⟨r,q⟩=>.mk (h ζ z V _ r) (k ζ z V _ q)
noncomputable def zR {a:Str×AV} {l:List (Str×AV)} (x:ey W θ hb a.2) (y:oI W θ hb l):oI W θ hb (a::l):=gC x y (fun b m=>(a.1,b)::m) fun b m h k ζ z V v ⟨⟨e,r⟩,q⟩=>.mk (.mk e (h ζ z V _ r)) (k ζ z V _ q)
noncomputable def zS {a:Int×AV} {l:List (Int×AV)} (x:ey W θ hb a.2) (y:oJ W θ hb l):oJ W θ hb (a::l):=gC x y (fun b m=>(a.1,b)::m) fun b m h k ζ z V v ⟨⟨r⟩,q⟩=>.mk (.mk (h ζ z V _ r)) (k ζ z V _ q)
noncomputable def oK (a:AV):ey W θ hb a:=AV.rec (motive_1:=fun a=>ey W θ hb a) (motive_2:=fun a=>kQ W θ hb a) (motive_3:=fun a=>oI W θ hb a) (motive_4:=fun a=>oJ W θ hb a) (motive_5:=fun x=>ey W θ hb x.2) (motive_6:=fun x=>ey W θ hb x.2)
 (some ⟨.none,fun ζ z V v r=>r⟩) (fun b=>some ⟨.bool b,fun ζ z V v r=>r⟩) (fun B=>some ⟨.sb (gI θ B),fun ζ z V v r=>(show v = .bool ((gI θ B).val W.ρ) by rw [oH]; exact r)⟩) (fun e=>some ⟨.int (gH (bq θ e)),fun ζ z V v r=>(show bL ((gH (bq θ e)).val W.ρ) v by rw [sA,iq]; exact r)⟩)
 (fun b=>some ⟨.str b,fun ζ z V v r=>r⟩) (zO W θ hb) (fun l h=>om h .tup fun m h ζ z V v ⟨h1,r⟩=>.mk h1 (h ζ z V _ r)) (fun l h=>om h .lst fun m h ζ z V v ⟨h1,r⟩=>.mk h1 (h ζ z V _ r)) (fun C l h=>om h (.inst C) fun m h ζ z V v ⟨h1,hd,r⟩=>.mk h1 hd (h ζ z V _ r)) (fun l h=>om h .dicI fun m h ζ z V v ⟨h1,ns,d,r⟩=>.mk h1 ns d (h ζ z V _ r))
 (fun _ _=>none) (fun a n=>some ⟨.rng a n,fun ζ z V v r=>r⟩) (fun b=>some ⟨.con b,fun ζ z V v r=>r⟩) (fun b=>some ⟨.blt b,fun ζ z V v r=>r⟩) (some ⟨.any,fun ζ z V v r=>r⟩) (some ⟨.anyS,fun ζ z V v r=>r⟩) (fun _=>none) (zP W θ hb)
 (some ⟨[],fun ζ z V v r=>r⟩) (fun _ _ h k=>zQ W θ hb h k) (some ⟨[],fun ζ z V v r=>r⟩) (fun _ _ h k=>zR W θ hb h k) (some ⟨[],fun ζ z V v r=>r⟩) (fun _ _ h k=>zS W θ hb h k) (fun _ _ h=>h) (fun _ _ h=>h) a
noncomputable def zT (a:List AV):kQ W θ hb a:=AV.rec_1 (motive_1:=fun a=>ey W θ hb a) (motive_2:=fun a=>kQ W θ hb a) (motive_3:=fun a=>oI W θ hb a) (motive_4:=fun a=>oJ W θ hb a) (motive_5:=fun x=>ey W θ hb x.2) (motive_6:=fun x=>ey W θ hb x.2)
 (some ⟨.none,fun ζ z V v r=>r⟩) (fun b=>some ⟨.bool b,fun ζ z V v r=>r⟩) (fun B=>some ⟨.sb (gI θ B),fun ζ z V v r=>(show v = .bool ((gI θ B).val W.ρ) by rw [oH]; exact r)⟩) (fun e=>some ⟨.int (gH (bq θ e)),fun ζ z V v r=>(show bL ((gH (bq θ e)).val W.ρ) v by rw [sA,iq]; exact r)⟩)
 (fun b=>some ⟨.str b,fun ζ z V v r=>r⟩) (zO W θ hb) (fun l h=>om h .tup fun m h ζ z V v ⟨h1,r⟩=>.mk h1 (h ζ z V _ r)) (fun l h=>om h .lst fun m h ζ z V v ⟨h1,r⟩=>.mk h1 (h ζ z V _ r)) (fun C l h=>om h (.inst C) fun m h ζ z V v ⟨h1,hd,r⟩=>.mk h1 hd (h ζ z V _ r)) (fun l h=>om h .dicI fun m h ζ z V v ⟨h1,ns,d,r⟩=>.mk h1 ns d (h ζ z V _ r))
 (fun _ _=>none) (fun a n=>some ⟨.rng a n,fun ζ z V v r=>r⟩) (fun b=>some ⟨.con b,fun ζ z V v r=>r⟩) (fun b=>some ⟨.blt b,fun ζ z V v r=>r⟩) (some ⟨.any,fun ζ z V v r=>r⟩) (some ⟨.anyS,fun ζ z V v r=>r⟩) (fun _=>none) (zP W θ hb)
 (some ⟨[],fun ζ z V v r=>r⟩) (fun _ _ h k=>zQ W θ hb h k) (some ⟨[],fun ζ z V v r=>r⟩) (fun _ _ h k=>zR W θ hb h k) (some ⟨[],fun ζ z V v r=>r⟩) (fun _ _ h k=>zS W θ hb h k) (fun _ _ h=>h) (fun _ _ h=>h) a
end
noncomputable abbrev eI:=List (Nat×SE)
noncomputable def sC (n:Nat):eI→Option SE
 | []=>none
 | (m,e)::l=>(match Nat.beq n m with
  | true=>some e
  | false=>sC n l)
noncomputable def sD (l:eI):Th:=fun n=>(match sC n l with
 | some e=>e
 | none=>.lit 0)
noncomputable def KQ (n:Nat) (e:SE) (b:eI):eI:=match sC n b with
 | some _=>b
 | none=>(n,e)::b
noncomputable def gJ:SE→SE→eI→eI
 | .var n=>fun e b=>KQ n e b
 | .add p q=>fun e b=>(match e with
  | .add x y=>gJ q y (gJ p x b)
  | _=>b)
 | .mul _ q=>fun e b=>(match e with
  | .mul _ f=>gJ q f b
  | _=>b)
 | .mod q _=>fun e b=>(match e with
  | .mod f _=>gJ q f b
  | _=>b)
 | .bit _ q=>fun e b=>(match e with
  | .bit _ f=>gJ q f b
  | _=>b)
 | .tab _ q=>fun e b=>(match e with
  | .tab _ f=>gJ q f b
  | _=>b)
 | _=>fun _ b=>b
noncomputable def zU:List SE→List SE→eI→eI
 | q::l,e::m,b=>zU l m (gJ q e b)
 | _,_,b=>b
noncomputable abbrev aK:=eI×HB
noncomputable def zV (a:AV) (b:aK):Option aK:=match a with
 | .none=>some b
 | _=>none
noncomputable def bZ {α:Type} (_:α) (_:AV) (b:aK):Option aK:=some b
noncomputable def zW (q:SE) (a:AV) (b:aK):Option aK:=match a with
 | .int e=>some (gJ q e b.1,b.2)
 | _=>none
noncomputable def zX (x:Str) (a:AV) (b:aK):Option aK:=match a with
 | .str y=>cond (sEq x y) (some b) none
 | _=>none
noncomputable def zY (l:List SE) (a:AV) (b:aK):Option aK:=match a with
 | .bytes m=>cond (Nat.beq l.length m.length) (some (zU l m b.1,b.2)) none
 | _=>none
noncomputable def zZ (k:List AV→aK→Option aK) (a:AV) (b:aK):Option aK:=match a with
 | .tup m=>k m b
 | _=>none
noncomputable def z7 (k:List AV→aK→Option aK) (a:AV) (b:aK):Option aK:=match a with
 | .lst m=>k m b
 | _=>none
noncomputable def z8 (C:Addr) (k:List (Str×AV)→aK→Option aK) (a:AV) (b:aK):Option aK:=match a with
 | .inst D m=>cond (Nat.beq C D) (k m b) none
 | _=>none
noncomputable def z9 (n:Nat) (a:AV) (b:aK):Option aK:=match m7 a with
 | some ⟨_,hp⟩=>some (b.1,(n,⟨a,hp⟩)::b.2)
 | none=>none
noncomputable def Aa (m:List AV) (b:aK):Option aK:=match m with
 | []=>some b
 | _=>none
noncomputable def Ab (f:AV→aK→Option aK) (k:List AV→aK→Option aK) (m:List AV) (b:aK):Option aK:=match m with
 | a::m=>(match f a b with
  | some b=>k m b
  | none=>none)
 | []=>none
noncomputable def Ac (f:AV→aK→Option aK) (k:List (Str×AV)→aK→Option aK) (m:List (Str×AV)) (b:aK):Option aK:=match m with
 | (_,a)::m=>(match f a b with
  | some b=>k m b
  | none=>none)
 | []=>none
noncomputable def KR (p:AV):AV→aK→Option aK:=AV.rec (motive_1:=fun _=>AV→aK→Option aK) (motive_2:=fun _=>List AV→aK→Option aK) (motive_3:=fun _=>List (Str×AV)→aK→Option aK) (motive_4:=fun _=>Unit) (motive_5:=fun _=>AV→aK→Option aK) (motive_6:=fun _=>Unit)
 zV bZ bZ zW zX zY (fun _=>zZ) (fun _=>z7) (fun C _=>z8 C) (fun _ _=>bZ ()) (fun _ _=>bZ ()) (fun _=>bZ) bZ bZ (bZ ()) (bZ ()) bZ z9 Aa (fun _ _=>Ab) (fun _ b=>some b) (fun _ _=>Ac) () (fun _ _ _ _=>()) (fun _ _ h=>h) (fun _ _ _=>()) p
noncomputable def KS (p:List AV):List AV→aK→Option aK:=AV.rec_1 (motive_1:=fun _=>AV→aK→Option aK) (motive_2:=fun _=>List AV→aK→Option aK) (motive_3:=fun _=>List (Str×AV)→aK→Option aK) (motive_4:=fun _=>Unit) (motive_5:=fun _=>AV→aK→Option aK) (motive_6:=fun _=>Unit)
 zV bZ bZ zW zX zY (fun _=>zZ) (fun _=>z7) (fun C _=>z8 C) (fun _ _=>bZ ()) (fun _ _=>bZ ()) (fun _=>bZ) bZ bZ (bZ ()) (bZ ()) bZ z9 Aa (fun _ _=>Ab) (fun _ b=>some b) (fun _ _=>Ac) () (fun _ _ _ _=>()) (fun _ _ h=>h) (fun _ _ _=>()) p
noncomputable def Ad (b:eI):Fc b:=oA (fun x=>cO (α:=Nat) (β:=SE) Prod.mk (ew x.1) (oC x.2)) b
section
variable {W:ab} (G:Facts) (θ:Th)
noncomputable def cm (W:ab) (G:Facts) (θ:Th) (p a:AV) (hs:HB):Prop:=Sat W.ρ G→∀ ζ,bY ζ hs→∀ V v,Rel W V v a→Rel (W.re θ ζ) V v p
noncomputable def kR (W:ab) (G:Facts) (θ:Th) (l m:List AV) (hs:HB):Prop:=Sat W.ρ G→∀ ζ,bY ζ hs→∀ V v,ai W V v m→ai (W.re θ ζ) V v l
noncomputable def oL (W:ab) (G:Facts) (θ:Th) (l m:List (Str×AV)) (hs:HB):Prop:=Sat W.ρ G→∀ ζ,bY ζ hs→∀ V v,bG W V v m→bG (W.re θ ζ) V v l
noncomputable def oM (W:ab) (G:Facts) (θ:Th) (l m:List (Str×AV)) (hs:HB):Prop:=Sat W.ρ G→∀ ζ,bY ζ hs→∀ V v,bJ W V v m→bJ (W.re θ ζ) V v l
noncomputable def oN (W:ab) (G:Facts) (θ:Th) (l m:List (Int×AV)) (hs:HB):Prop:=Sat W.ρ G→∀ ζ,bY ζ hs→∀ V v,bP W V v m→bP (W.re θ ζ) V v l
noncomputable def KU (W:ab) (G:Facts) (θ:Th) (q e:SE) (_:Unit):Prop:=Sat W.ρ G→q.val (fun n=>(θ n).val W.ρ) = e.val W.ρ
noncomputable def KV (W:ab) (G:Facts) (θ:Th) (l m:List SE) (_:Unit):Prop:=Sat W.ρ G→vals (fun n=>(θ n).val W.ρ) l = vals W.ρ m
noncomputable def yes {P:Prop} (b:Bool) (h:b = true→P):Out fun _:Unit=>P:=au b 180 fun e=>.ok () (h e)
noncomputable def oO {P:HB→Prop} (b:Bool) (h:b = true→P []):Out P:=au b 180 fun e=>.ok [] (h e)
noncomputable def oP (B:SB):Out fun t:Bool=>Sat W.ρ G→B.val W.ρ = t:=di (eQ G B) (fun r e=>.ok r fun hG=>jQ hG e) fun _=>.ask B
noncomputable def Ae (q e:SE):Out (KU W G θ q e):=aG (SE.beq (bq θ q) e) (fun h=>.ok () fun _=>by rw [← SE.uw h,iq]) fun _=>bd (oP (W:=W) G ⟨false,ba (cS G (bq θ q)) (smul (-1) (cS G e)),true⟩) fun t h=>au t 181 fun ht=>.ok () fun g=>(by
  subst ht
  have h:decide ((ba (cS G (bq θ q)) (smul (-1) (cS G e))).val W.ρ = 0) = true:=h g
  have h:=of_decide_eq_true h
  rw [cX,cI,p7 g,p7 g,iq] at h
  lia)
noncomputable def Af:(l m:List SE)→Out (KV W G θ l m)
 | [],[]=>.ok () fun _=>rfl
 | q::l,e::m=>bd (Ae (W:=W) G θ q e) fun _ h=>bd (Af l m) fun _ k=>.ok () fun g=>by show _::vals _ l = _::vals _ m; rw [h g,k g]
 | _,_=>.no 182
noncomputable def KW (B:SB) (b:Bool):Out fun _:Unit=>Sat W.ρ G→B.val (fun n=>(θ n).val W.ρ) = b:=bd (oP (W:=W) G (gI θ B)) fun t h=>yes (dB t b) fun e g=>by rw [← lO e,← h g,oH W θ (ζ:=ir)]; rfl
section
variable {p:AV} {l:List AV} {C:Addr} {fs:List (Str×AV)} {is:List (Int×AV)}
noncomputable def Ag (q:SE) (a:AV):Out (cm W G θ (.int q) a):=match a with
 | .int e=>bd (Ae (W:=W) G θ q e) fun _ h=>.ok [] fun g ζ z V v r=>(show bL (q.val (fun n=>(θ n).val W.ρ)) v by rw [h g]; exact r)
 | _=>.no 184
noncomputable def Ah (B:SB) (a:AV):Out (cm W G θ (.sb B) a):=match a with
 | .bool b=>bd (KW (W:=W) G θ B b) fun _ h=>.ok [] fun g ζ z V v r=>(show v = .bool (B.val (fun n=>(θ n).val W.ρ)) by rw [h g]; exact r)
 | _=>.no 184
noncomputable def Ai (l:List SE) (a:AV):Out (cm W G θ (.bytes l) a):=match a with
 | .bytes m=>bd (Af (W:=W) G θ l m) fun _ h=>.ok [] fun g ζ z V v r=>(show jW (vals (fun n=>(θ n).val W.ρ) l) v by rw [h g]; exact r)
 | _=>.no 184
noncomputable def Aj (n:Nat) (a:AV):Out (cm W G θ (.hole n) a):=au (nl a) 184 fun q=>(match m7 a with
 | some ⟨_,hp⟩=>.ok [(n,⟨a,hp⟩)] fun g ζ z V v r=>(show Rel W ⟨V.g,[]⟩ v (ζ n).1 by rw [z (n,⟨a,hp⟩) (.head _)]; exact dS (ad:=V.ad) (fun _ _ h=>h) q r)
 | none=>.no 184)
noncomputable def Ak (a:AV):Out (cm W G θ .anyS a):=match a with
 | .str x=>.ok [] fun g ζ z V v r=>⟨_,r⟩
 | .anyS=>.ok [] fun g ζ z V v r=>r
 | _=>.no 184
noncomputable def Al (a:AV):Out (cm W G θ .none a):=match a with
 | .none=>.ok [] fun g ζ z V v r=>r
 | _=>.no 184
noncomputable def Am (b:Bool) (a:AV):Out (cm W G θ (.bool b) a):=match a with
 | .bool c=>oO (dB b c) fun e g ζ z V v r=>by rw [lO e]; exact r
 | .sb B=>bd (oP (W:=W) G B) fun t h=>oO (dB b t) fun e g ζ z V v r=>(show v = .bool b by rw [lO e,← h g]; exact r)
 | _=>.no 184
noncomputable def An (x:Str) (a:AV):Out (cm W G θ (.str x) a):=match a with
 | .str y=>oO (sEq x y) fun e g ζ z V v r=>by rw [sEq_iff.mp e]; exact r
 | _=>.no 184
noncomputable def Ao (x:Value) (a:AV):Out (cm W G θ (.con x) a):=match x,a with
 | .ref x,.con (.ref y)=>oO (Nat.beq x y) fun e g ζ z V v r=>by rw [Nat.eq_of_beq_eq_true e]; exact r
 | _,_=>.no 184
noncomputable def Ap (f:(m:List AV)→Out (kR W G θ l m)) (a:AV):Out (cm W G θ (.tup l) a):=match a with
 | .tup m=>bd (f m) fun hs h=>.ok hs fun g ζ z V v ⟨h1,r⟩=>.mk h1 (h g ζ z V _ r)
 | _=>.no 184
noncomputable def Aq (f:(m:List AV)→Out (kR W G θ l m)) (a:AV):Out (cm W G θ (.lst l) a):=match a with
 | .lst m=>bd (f m) fun hs h=>.ok hs fun g ζ z V v ⟨h1,r⟩=>.mk h1 (h g ζ z V _ r)
 | _=>.no 184
noncomputable def Ar (C:Addr) (f:(m:List (Str×AV))→Out (oL W G θ fs m)) (a:AV):Out (cm W G θ (.inst C fs) a):=match a with
 | .inst D m=>au (Nat.beq C D) 183 fun e=>bd (f m) fun hs h=>.ok hs fun g ζ z V v r=>by
   rw [Nat.eq_of_beq_eq_true e]
   obtain ⟨h1,hd,r⟩:=r
   exact .mk h1 hd (h g ζ z V _ r)
 | _=>.no 184
noncomputable def As (f:(m:List (Int×AV))→Out (oN W G θ is m)) (a:AV):Out (cm W G θ (.dicI is) a):=match a with
 | .dicI m=>bd (f m) fun hs h=>.ok hs fun g ζ z V v ⟨h1,ns,d,r⟩=>.mk h1 ns d (h g ζ z V _ r)
 | _=>.no 184
noncomputable def Au (f:(a:AV)→Out (cm W G θ p a)) (g:(m:List AV)→Out (kR W G θ l m)) (m:List AV):Out (kR W G θ (p::l) m):=match m with
 | a::m=>bd (f a) fun hs h=>bd (g m) fun ks k=>.ok (hs ++ ks) fun g ζ z V v ⟨r,q⟩=>.mk (h g ζ z.l V _ r) (k g ζ z.r V _ q)
 | []=>.no 185
noncomputable def Av (x:Str) (f:(a:AV)→Out (cm W G θ p a)) (g:(m:List (Str×AV))→Out (oL W G θ fs m)) (m:List (Str×AV)):Out (oL W G θ ((x,p)::fs) m):=match m with
 | (y,a)::m=>au (sEq x y) 186 fun e=>bd (f a) fun hs h=>bd (g m) fun ks k=>.ok (hs ++ ks) fun g ζ z V v r=>by
   rw [sEq_iff.mp e]
   obtain ⟨⟨i,r⟩,q⟩:=r
   exact .mk (.mk i (h g ζ z.l V _ r)) (k g ζ z.r V _ q)
 | []=>.no 187
noncomputable def Aw (f:(m:List (Str×AV))→Out (oM W G θ fs m)) (a:AV):Out (cm W G θ (.dicS fs) a):=match a with
 | .dicS m=>bd (f m) fun hs h=>.ok hs fun g ζ z V v ⟨h1,ns,d,r⟩=>.mk h1 ns d (h g ζ z V _ r)
 | _=>.no 184
noncomputable def Ax (x:Str) (f:(a:AV)→Out (cm W G θ p a)) (g:(m:List (Str×AV))→Out (oM W G θ fs m)) (m:List (Str×AV)):Out (oM W G θ ((x,p)::fs) m):=match m with
 | (y,a)::m=>au (sEq x y) 186 fun e=>bd (f a) fun hs h=>bd (g m) fun ks k=>.ok (hs ++ ks) fun g ζ z V v r=>by
   rw [sEq_iff.mp e]
   obtain ⟨⟨r⟩,q⟩:=r
   exact .mk (.mk (h g ζ z.l V _ r)) (k g ζ z.r V _ q)
 | []=>.no 187
noncomputable def Ay (x:Int) (f:(a:AV)→Out (cm W G θ p a)) (g:(m:List (Int×AV))→Out (oN W G θ is m)) (m:List (Int×AV)):Out (oN W G θ ((x,p)::is) m):=match m with
 | (y,a)::m=>au (bg x y) 188 fun e=>bd (f a) fun hs h=>bd (g m) fun ks k=>.ok (hs ++ ks) fun g ζ z V v r=>by
   rw [dP e]
   obtain ⟨⟨r⟩,q⟩:=r
   exact .mk (.mk (h g ζ z.l V _ r)) (k g ζ z.r V _ q)
 | []=>.no 189
end
noncomputable def gK {α:Type} {P:HB→List α→Prop} (h:P [] []) (m:List α):Out fun hs:HB=>P hs m:=match m with
 | []=>.ok [] h
 | _=>.no 185
noncomputable abbrev iu (W:ab) (G:Facts) (θ:Th) (p:AV):=(a:AV)→Out (cm W G θ p a)
noncomputable abbrev sE (W:ab) (G:Facts) (θ:Th) (l:List AV):=(m:List AV)→Out (kR W G θ l m)
noncomputable abbrev Az (W:ab) (G:Facts) (θ:Th) (l:List (Str×AV)):=(m:List (Str×AV))→Out (oL W G θ l m)
noncomputable abbrev AA (W:ab) (G:Facts) (θ:Th) (l:List (Str×AV)):=(m:List (Str×AV))→Out (oM W G θ l m)
noncomputable abbrev AB (W:ab) (G:Facts) (θ:Th) (l:List (Int×AV)):=(m:List (Int×AV))→Out (oN W G θ l m)
noncomputable def oQ (p:AV):iu W G θ p:=AV.rec (motive_1:=fun p=>iu W G θ p) (motive_2:=fun l=>sE W G θ l) (motive_3:=fun l=>Az W G θ l×AA W G θ l) (motive_4:=fun l=>AB W G θ l) (motive_5:=fun x=>iu W G θ x.2) (motive_6:=fun x=>iu W G θ x.2)
 (Al G θ) (Am G θ) (Ah G θ) (Ag G θ) (An G θ) (Ai G θ) (fun _ h=>Ap G θ h) (fun _ h=>Aq G θ h) (fun C _ h=>Ar G θ C h.1) (fun _ h=>As G θ h) (fun _ h=>Aw G θ h.2) (fun _ _ _=>.no 184) (Ao G θ) (fun _ _=>.no 184) (fun a=>.ok [] fun g ζ z V v r=>trivial) (Ak G θ) (fun _ _=>.no 184) (Aj G θ)
 (gK fun g ζ z V v r=>r) (fun _ _ h k=>Au G θ h k) ⟨gK fun g ζ z V v r=>r,gK fun g ζ z V v r=>r⟩ (fun x l h k=>⟨Av G θ x.1 h k.1,Ax G θ x.1 h k.2⟩) (gK fun g ζ z V v r=>r) (fun x l h k=>Ay G θ x.1 h k) (fun _ _ h=>h) (fun _ _ h=>h) p
noncomputable def sF (p:List AV):sE W G θ p:=AV.rec_1 (motive_1:=fun p=>iu W G θ p) (motive_2:=fun l=>sE W G θ l) (motive_3:=fun l=>Az W G θ l×AA W G θ l) (motive_4:=fun l=>AB W G θ l) (motive_5:=fun x=>iu W G θ x.2) (motive_6:=fun x=>iu W G θ x.2)
 (Al G θ) (Am G θ) (Ah G θ) (Ag G θ) (An G θ) (Ai G θ) (fun _ h=>Ap G θ h) (fun _ h=>Aq G θ h) (fun C _ h=>Ar G θ C h.1) (fun _ h=>As G θ h) (fun _ h=>Aw G θ h.2) (fun _ _ _=>.no 184) (Ao G θ) (fun _ _=>.no 184) (fun a=>.ok [] fun g ζ z V v r=>trivial) (Ak G θ) (fun _ _=>.no 184) (Aj G θ)
 (gK fun g ζ z V v r=>r) (fun _ _ h k=>Au G θ h k) ⟨gK fun g ζ z V v r=>r,gK fun g ζ z V v r=>r⟩ (fun x l h k=>⟨Av G θ x.1 h k.1,Ax G θ x.1 h k.2⟩) (gK fun g ζ z V v r=>r) (fun x l h k=>Ay G θ x.1 h k) (fun _ _ h=>h) (fun _ _ h=>h) p
noncomputable def iv (l:LF):LF:=l.map fun p=>(bq θ p.1,p.2)
theorem AD (ρ:Nat→Int):∀ l:LF,sm ρ (iv θ l) = sm (fun n=>(θ n).val ρ) l
 | []=>rfl
 | (e,k)::l=>by show k * (bq θ e).val ρ + sm ρ (iv θ l) = _; rw [iq,AD ρ l]; rfl
theorem sG (ρ:Nat→Int) (l:LF):(toS 0 (iv θ l)).val ρ = sm (fun n=>(θ n).val ρ) l:=by rw [eP,AD,Int.zero_add]
noncomputable def KX (f:gT):Out fun _:Unit=>Sat W.ρ G→f.Ok fun n=>(θ n).val W.ρ:=match f with
 | .ge l n=>yes (bK n (bu G (toS 0 (iv θ l)) true)) fun h g=>by show n≤sm _ l; rw [← sG]; exact cF (fun _=>gg g) h
 | .le l n=>yes (bK (-n) (bu G (toS 0 (iv θ l)) false)) fun h g=>by have:=cF (fun _=>gh g) h; rw [sG] at this; show sm _ l≤n; lia
 | .ne l n=>bd (oP (W:=W) G ⟨false,.add (toS 0 (iv θ l)) (.lit (-n)),false⟩) fun t h=>yes t fun e g=>by
   have h:=h g
   rw [e] at h
   have h:(!decide ((toS 0 (iv θ l)).val W.ρ + -n = 0)) = true:=h
   rw [sG,Bool.not_eq_true',decide_eq_false_iff_not] at h
   show sm _ l≠n; lia
noncomputable def AE:(l:Facts)→Out fun _:Unit=>Sat W.ρ G→Sat (fun n=>(θ n).val W.ρ) l
 | []=>.ok () fun _=>gd
 | f::l=>bd (KX (W:=W) G θ f) fun _ h=>bd (AE l) fun _ k=>.ok () fun g x m=>(List.mem_cons.mp m).elim (fun e=>e▸h g) (k g x)
end
noncomputable def gL (B:SB) (r:Bool):Facts:=qa B.k B.e (dB r B.p)
theorem oR {ρ:Nat→Int} {G:Facts} (h:Sat ρ G) {B:SB} {r:Bool} (q:B.val ρ = r):Sat ρ (gL B r ++ G):=by
 refine CJ h ?_
 unfold SB.val at q
 subst q
 cases B.p<;>cases cQ B.k (B.e.val ρ)<;>rfl
structure Pr where
 f:Addr
 d:Nat
 as:List AV
 r:AV
 bs:List SB
noncomputable def oS (ρ:Nat→Int):List SB→Prop
 | []=>True
 | B::l=>B.val ρ = true∧oS ρ l
noncomputable def oU (G:Facts):List SB→Bool
 | []=>true
 | B::l=>(match eQ G B with
  | some true=>oU G l
  | _=>false)
theorem AF {ρ:Nat→Int} {G:Facts} (h:Sat ρ G):∀ {l:List SB},oU G l = true→oS ρ l
 | [],_=>trivial
 | B::l,e=>by
  change (match eQ G B with | some true=>oU G l | _=>false) = true at e
  cases q:eQ G B with
  | none=>rw [q] at e; exact aS e
  | some t=>rw [q] at e; cases t with
   | true=>exact ⟨jQ h q,AF h e⟩
   | false=>exact aS e
noncomputable def KY (W:ab) (q:Pr):Prop:=oS W.ρ q.bs→Tells W q.d (.ref q.f) [] q.as q.r []
noncomputable def dK (W:ab):List Pr→Prop
 | []=>True
 | q::l=>KY W q∧dK W l
structure aL where
 f:Addr
 d:Nat
 as:List AV
 G:Facts
 r:AV
 pre:List Pr
noncomputable def aV (c:aL):Prop:=∀ W:ab,Sat W.ρ c.G→dK W c.pre→Tells W c.d (.ref c.f) [] c.as c.r []
noncomputable def jh (c:aL):Prop:=∀ W:ab,Sat W.ρ c.G→dK W c.pre→TellsF W c.d (.ref c.f) c.as c.r
noncomputable abbrev bR:=List { c:aL // aV c }
noncomputable abbrev kU:=List { c:aL // jh c }
noncomputable abbrev fc (W:ab):=(G:Facts)→(a:Addr)→(as:List AV)→Option { r:AV×Nat // Sat W.ρ G→Tells W r.2 (.ref a) [] as r.1 [] }
theorem oV {W:ab} {U:AS} {ad:List Addr} {h:Heap} (O:aO W U ⟨[],ad,h⟩):ad = []:=List.length_eq_zero_iff.mp O.len
inductive iw (W:ab):ab→Prop
 | mk (ρ η ηm ηp):iw W { W with ρ:=ρ,η:=η,ηm:=ηm,ηp:=ηp }
theorem iw.re (W:ab) (θ:Th) (ζ:Hz):iw W (W.re θ ζ):=.mk ..
theorem iw.er (W:ab) (θ:Th) (ζ:Hz):iw (W.re θ ζ) W:=.mk W.ρ W.η W.ηm W.ηp
section
variable {W W':ab} {d:Nat}
theorem Tells.tr (hw:iw W W') {f:Value} {p as:List AV} {r b:AV} (T:Tells W' d f [] p r []) (hp:∀ V v,ai W V v as→ai W' V v p) (hr:∀ V v,Rel W' V v r→Rel W V v b):Tells W d f [] as b []:=by
 cases hw
 exact ⟨T.1,fun A a U ad s vs Q E B O rl F=>by
  obtain rfl:=oV O
  refine T.2 A a U [] s vs Q E ⟨B.G,B.low⟩ .none (hp _ _ rl) fun v h' tk ad' k rv=>?_
  obtain rfl:=oV k.owns
  exact F v h' tk [] ⟨k.ad,k.keep,k.new,.none⟩ (hr _ _ rv)⟩
theorem TellsF.tr (hw:iw W W') {f:Value} {p as:List AV} {r b:AV} (T:TellsF W' d f p r) (hp:∀ V v,ai W V v as→ai W' V v p) (hr:∀ V v,Rel W' V v r→Rel W V v b):TellsF W d f as b:=by
 cases hw
 exact ⟨T.keep,fun A a U s vs FR Q E B rl fx nf F=>T.run A a U s vs FR Q E ⟨B.G,B.low⟩ (hp _ _ rl) fx nf fun v h' tk k rv=>F v h' tk k (hr _ _ rv)⟩
end
section
variable {W:ab}
noncomputable def kV (θ:Th) (bs:List SB) (G:Facts):Facts:=match bs with
 | []=>G
 | B::l=>kV θ l (gL (gI θ B) true ++ G)
theorem AG {θ:Th} {ζ:Hz}:∀ {bs:List SB} {G:Facts},Sat W.ρ G→oS (W.re θ ζ).ρ bs→Sat W.ρ (kV θ bs G)
 | [],_,hG,_=>hG
 | B::l,G,hG,⟨h,k⟩=>AG (bs:=l) (G:=gL (gI θ B) true ++ G) (oR hG ((oH W θ B).trans h)) k
structure Fd (W:ab) (G:Facts) where
 f:Addr
 as:List AV
 r:AV
 d:Nat
 T:Sat W.ρ G→Tells W d (.ref f) [] as r []
noncomputable def AH (L:fc W) (G:Facts):List Pr→aK→List (Option (Fd W G))×aK
 | [],s=>([],s)
 | q::l,s=>(match zT W (sD s.1) s.2 q.as with
  | some ⟨as,_⟩=>(match L (kV (sD s.1) q.bs G) q.f (kN as).1 with
   | some ⟨(r,d),T⟩=>(match fA r with
    | ⟨r',e⟩=>(match KR q.r r' s with
     | some s=>(match AH L G l s with
      | (m,s')=>((match q.bs,T with
       | [],T=>some ⟨q.f,(kN as).1,r',d,e▸T⟩
       | _,_=>none)::m,s'))
     | none=>([],s)))
   | none=>([],s))
  | none=>([],s))
noncomputable def sH (L:fc W) (G:Facts) (θ:Th):(l:List Pr)→List (Option (Fd W G))→(hb:HB)→Out fun hb':HB=>∀ ζ,bY ζ hb'→bY ζ hb∧(Sat W.ρ G→dK (W.re θ ζ) l)
 | [],_,hb=>.ok hb fun ζ z=>⟨z,fun _=>trivial⟩
 | q::l,x::m,hb=>(match zT W θ hb q.as with
  | none=>.no 192
  | some ⟨as,ha⟩=>(match x with
   | some F=>au (aH (Nat.beq F.f q.f) (Nat.beq F.d q.d)) 194 fun hd=>bd (sF (W:=W) G .var F.as as) fun h1 hc1=>(match oG h1 with
    | none=>.no 197
    | some ⟨ho⟩=>bd (oQ (W:=W) G θ q.r F.r) fun hs hc=>bd (sH L G θ l m (hb ++ hs)) fun hb' k=>.ok hb' fun ζ z=>(match k ζ z with
     | ⟨z',k⟩=>⟨z'.l,fun g=>⟨fun _=>(Nat.eq_of_beq_eq_true (aC hd).1▸Nat.eq_of_beq_eq_true (aC hd).2▸(F.T g).tr (.er W θ ζ) (fun V v x=>hc1 g _ ho V v (ha ζ z'.l V v x)) (hc g ζ z'.r)),k g⟩⟩))
   | none=>(match kN as with
    | ⟨bs,e⟩=>(match L (kV θ q.bs G) q.f bs with
     | none=>.no 193
     | some ⟨(r,d),T⟩=>au (Nat.beq d q.d) 194 fun hd=>bd (oQ (W:=W) (kV θ q.bs G) θ q.r r) fun hs hc=>bd (sH L G θ l m (hb ++ hs)) fun hb' k=>.ok hb' fun ζ z=>(match k ζ z with
      | ⟨z',k⟩=>⟨z'.l,fun g=>⟨fun hb=>(have g':=AG (ζ:=ζ) g hb; Nat.eq_of_beq_eq_true hd▸(T g').tr (.er W θ ζ) (fun V v x=>e▸ha ζ z'.l V v x) (hc g' ζ z'.r)),k g⟩⟩)))))
 | _::_,[],_=>.no 196
structure Met (W:ab) (c:aL) (as:List AV) (r:AV):Prop where
 ok:∃ θ ζ,Sat (W.re θ ζ).ρ c.G∧dK (W.re θ ζ) c.pre∧(∀ V v,ai W V v as→ai (W.re θ ζ) V v c.as)∧∀ V v,Rel (W.re θ ζ) V v c.r→Rel W V v r
noncomputable def KZ (L:fc W) (G:Facts) (c:aL) (as:List AV):Option (List (Option (Fd W G))×eI):=match KS c.as as ([],[]) with
 | some s=>(match c.pre with
  | []=>some ([],(Ad s.1).1)
  | l=>(match AH L G l s with
   | (m,s)=>some (m,(Ad s.1).1)))
 | none=>none
noncomputable def AI (L:fc W) (G:Facts) (c:aL) (as:List AV):Out fun r:AV=>Sat W.ρ G→Met W c as r:=match KZ L G c as with
 | none=>.no 198
 | some (m,b)=>(match sD b with
  | θ=>bd (sF (W:=W) G θ c.as as) fun hs hp=>bd (AE (W:=W) G θ c.G) fun _ hf=>bd (sH L G θ c.pre m hs) fun hb hk=>(match once hb with
   | none=>.no 195
   | some ⟨ho⟩=>(match oK W θ hb c.r with
    | none=>.no 190
    | some ⟨b,hr⟩=>.ok b fun g=>⟨θ,zK hb,hf g,(hk _ ho).2 g,hp g _ (hk _ ho).1,hr _ ho⟩)))
theorem Met.tells {c:aL} {as:List AV} {r:AV} (m:Met W c as r) (hc:aV c):Tells W c.d (.ref c.f) [] as r []:=by
 obtain ⟨⟨_,_,h1,h2,h3,h4⟩⟩:=m
 exact (hc _ h1 h2).tr (.re ..) h3 h4
theorem Met.K1 {c:aL} {as:List AV} {r:AV} (m:Met W c as r) (hc:jh c):TellsF W c.d (.ref c.f) as r:=by
 obtain ⟨⟨_,_,h1,h2,h3,h4⟩⟩:=m
 exact (hc _ h1 h2).tr (.re ..) h3 h4
noncomputable def AJ (L:fc W) (T:bR):fc W:=List.rec (motive:=fun _=>fc W) L (fun c _ ih G a as=>aG (Nat.beq c.1.f a) (fun e=>(match AI ih G c.1 as with
 | .ok r h=>some ⟨(r,c.1.d),fun g=>Nat.eq_of_beq_eq_true e▸(h g).tells c.2⟩
 | _=>ih G a as)) fun _=>ih G a as) T
noncomputable def kW:(l:List Pr)→dK W l→fc W
 | [],_=>fun _ _ _=>none
 | q::l,h=>fun G a as=>aG (Nat.beq q.f a && oU G q.bs) (fun e=>(match sF (W:=W) G .var q.as as with
  | .ok hs hc=>(match oG hs with
   | some ⟨ho⟩=>some ⟨(q.r,q.d),fun g=>Nat.eq_of_beq_eq_true (Bool.and_eq_true_iff.mp e).1▸(h.1 (AF g (Bool.and_eq_true_iff.mp e).2)).tr (.re W .var ir) (hc g _ ho) fun V v r=>r⟩
   | none=>kW l h.2 G a as)
  | _=>kW l h.2 G a as)) fun _=>kW l h.2 G a as
end
section
variable {W:ab} {d:Nat} {G:Facts} (hG:Sat W.ρ G)
noncomputable def K6 (L:fc W):XT W:=fun own a as=>aG (bc as) (fun ha=>(match L G a as with
 | some ⟨r,h⟩=>aG (nl r.1) (fun hr=>some ⟨r,(h hG).lift ha hr⟩) fun _=>none
 | none=>none)) fun _=>none
noncomputable def K7 (L:fc W) (F:kU):sx W:=fun a as=>List.rec (motive:=fun _=>Option { r:AV×Nat // TellsF W r.2 (.ref a) as r.1 }) none (fun c _ ih=>aG (Nat.beq c.1.f a) (fun e=>(match AI L G c.1 as with
 | .ok r h=>some ⟨(r,c.1.d),Nat.eq_of_beq_eq_true e▸(h hG).K1 c.2⟩
 | _=>ih)) fun _=>ih) F
noncomputable def tabs (l:List Pr) (h:dK W l) (T:bR) (F:kU):kP W:=⟨K6 hG (AJ (kW l h) T),fun a=>T.any (fun c=>Nat.beq c.1.f a) || l.any (fun q=>Nat.beq q.f a),K7 hG (AJ (kW l h) T) F⟩
noncomputable def isOk {α:Type} {P:α→Prop} (o:Out P):Bool:=match o with
 | .ok _ _=>true
 | _=>false
theorem gM {P:Prop} {o:Out fun _:Unit=>P} (h:isOk o = true):P:=by
 cases o with
 | ok a q=>exact q
 | ask=>exact aS h
 | no=>exact aS h
noncomputable def sI (r b:AV):Out fun _:Unit=>∀ V v,Rel W V v b→Rel W V v r:=bd (oQ (W:=W) G .var r b) fun hs h=>(match oG hs with
 | some ⟨ho⟩=>.ok () (h hG _ ho)
 | none=>.no 195)
noncomputable def runC (T:kP W) (c:aL) (k:Nat):Out fun _:Unit=>Tells W (5 * k + 5) (.ref c.f) [] c.as c.r []:=au (bc c.as) 191 fun ha=>au (nl c.r) 191 fun hr=>bd (zH (EV hG (HK hG T 40 k) 40) [] c.f c.as) fun r h=>(match kO r.2 r.1 with
 | ⟨q,z⟩=>bd (sI hG c.r q.1) fun _ hc=>.ok () (Tells.lift (own:=[]) ⟨h.1,fun A a U ad s vs Q E B O rl F=>(h.hZ [] z).2 A a U ad s vs Q E B O rl fun v h' tk ad' k rv=>F v h' tk ad' k (hc _ _ rv)⟩ ha hr))
noncomputable def K8 (T:kP W) (c:aL) (k:Nat):Out fun _:Unit=>TellsF W (5 * k + 5) (.ref c.f) c.as c.r:=oE (au (bc c.as) 191 fun ha=>au (nl c.r) 191 fun hr=>bd (runC hG T c k) fun _ h=>.ok () (h.F ha hr)) (bd (KJ (HK hG T 40 k) (EV hG (HK hG T 40 k) 40) c.f c.as) fun r h=>bd (sI hG c.r r) fun _ hc=>.ok () ⟨h.keep,fun A a U s vs FR Q E B rl fx nf F=>h.run A a U s vs FR Q E B rl fx nf fun v h' tk k rv=>F v h' tk k (hc _ _ rv)⟩)
end
inductive Tr
 | leaf
 | no
 | ask (B:SB) (t e:Tr)
noncomputable def AK (G:Facts):gT→Bool
 | .ge l n=>bK (1 - n) (bu G (toS 0 l) false)
 | .le l n=>bK (n + 1) (bu G (toS 0 l) true)
 | .ne l n=>aH (bK n (bu G (toS 0 l) true)) (bK (-n) (bu G (toS 0 l) false))
theorem K9 {ρ:Nat→Int} {G:Facts} (h:Sat ρ G) {f:gT} (hf:f.Ok ρ) (e:AK G f = true):False:=by
 have up:=fun {l:LF} {n:Int} (q:bK n (bu G (toS 0 l) true) = true)=>(eP (ρ:=ρ) 0 l)▸cF (fun _=>gg h) q
 have dn:=fun {l:LF} {n:Int} (q:bK n (bu G (toS 0 l) false) = true)=>(eP (ρ:=ρ) 0 l)▸cF (fun _=>gh h) q
 cases f with
 | ge l n=>have:=dn e; have:n≤sm ρ l:=hf; lia
 | le l n=>have:=up e; have:sm ρ l≤n:=hf; lia
 | ne l n=>have:=up (aC e).1; have:=dn (aC e).2; have:sm ρ l≠n:=hf; lia
noncomputable def refuted (G G':Facts):Bool:=G'.any (AK G)
theorem La {ρ:Nat→Int} {G G':Facts} (h:Sat ρ G) (h':Sat ρ G') (e:refuted G G' = true):False:=let ⟨f,m,e⟩:=List.any_eq_true.mp e; K9 h (h' f m) e
noncomputable def gN (l:List Pr) (P:(W:ab)→dK W l→(G:Facts)→Sat W.ρ G→Bool):Tr→Facts→Prop
 | .leaf,G=>∀ (W:ab) (h:dK W l) (hG:Sat W.ρ G),P W h G hG = true
 | .no,G=>refuted G G = true
 | .ask B a b,G=>gN l P a (gL B true ++ G)∧gN l P b (gL B false ++ G)
theorem gN.ok {l:List Pr} {P:(W:ab)→dK W l→(G:Facts)→Sat W.ρ G→Bool}:∀ {T:Tr} {G:Facts},gN l P T G→∀ (W:ab) (h:dK W l),Sat W.ρ G→∃ G' hG,P W h G' hG = true
 | .leaf,_,h,W,q,hG=>⟨_,hG,h W q hG⟩
 | .no,_,h,W,_,hG=>(La hG hG h).elim
 | .ask B a b,_,⟨h1,h2⟩,W,p,hG=>by
  cases q:B.val W.ρ with
  | true=>exact h1.ok W p (oR hG q)
  | false=>exact h2.ok W p (oR hG q)
noncomputable abbrev fe (X:bR) (c:aL) (k:Nat) (T:Tr):Prop:=gN c.pre (fun W h G hG=>isOk (runC hG (tabs hG c.pre h X []) c k)) T c.G
theorem fe.ok {X:bR} {c:aL} {k:Nat} {T:Tr} (h:fe X c k T) (hd:Nat.beq (5 * k + 5) c.d = true):aV c:=fun W hG hp=>by
 obtain ⟨G',hG',e⟩:=gN.ok h W hp hG
 exact Nat.eq_of_beq_eq_true hd▸gM e
noncomputable abbrev kX (X:bR) (c:aL) (k:Nat) (T:Tr):Prop:=gN c.pre (fun W h G hG=>isOk (K8 hG (tabs hG c.pre h X []) c k)) T c.G
theorem kX.ok {X:bR} {c:aL} {k:Nat} {T:Tr} (h:kX X c k T) (hd:Nat.beq (5 * k + 5) c.d = true):jh c:=fun W hG hp=>by
 obtain ⟨G',hG',e⟩:=gN.ok h W hp hG
 exact Nat.eq_of_beq_eq_true hd▸gM e
end Mine
end
section
set_option backward.match.sparseCases false
open PySem PySem.W PyProof.Rows PySem.Calls
set_option maxRecDepth 100000
namespace Mine
noncomputable def bM:Str:=⟨#[107,105,110,100]⟩
noncomputable def oW:Str:=⟨#[114,101,103,105,115,116,101,114]⟩
noncomputable def eJ:Str:=⟨#[119,111,114,116,104]⟩
noncomputable def sJ:Str:=⟨#[98,97,115,101]⟩
noncomputable def sL:Str:=⟨#[105,110,100,101,120]⟩
noncomputable def sM:Str:=⟨#[115,99,97,108,101]⟩
noncomputable def oX:Str:=⟨#[115,101,103,109,101,110,116]⟩
noncomputable def oY:Str:=⟨#[111,112,101,114,97,110,100,115]⟩
noncomputable def oZ:Str:=⟨#[112,114,101,102,105,120]⟩
noncomputable def ji:Str:=⟨#[109,111,100]⟩
noncomputable def jj:Str:=⟨#[115,105,98]⟩
noncomputable def jk:Str:=⟨#[100,105,115,112,95,119,105,100,116,104]⟩
noncomputable def jl:Str:=⟨#[120]⟩
noncomputable def jm:Str:=⟨#[98]⟩
noncomputable def AL:Str:=⟨#[97,116]⟩
noncomputable def AM:Str:=⟨#[119,105,100,116,104]⟩
noncomputable def AN:Str:=⟨#[119,97,121]⟩
noncomputable def sN:Str:=⟨#[111,99,116,101,116,115]⟩
noncomputable def sO:Str:=⟨#[102,105,120,117,112,115]⟩
noncomputable def sP:Str:=⟨#[102,111,114,109]⟩
noncomputable def sQ:Str:=⟨#[115,104,97,112,101]⟩
noncomputable def gO:Str:=⟨#[103,112,114]⟩
noncomputable def kY:Str:=⟨#[114,105,112]⟩
noncomputable def AO:Str:=⟨#[109,101,109]⟩
noncomputable def aY:Str:=⟨#[97,108,112,104,97]⟩
noncomputable def bI:Str:=⟨#[98,101,116,97]⟩
noncomputable def du:Str:=⟨#[112,99]⟩
noncomputable def cn:Str:=⟨#[97,98,115]⟩
noncomputable def dY:Str:=⟨#[115,97,98,115]⟩
noncomputable def AP:Str:=⟨#[102,115]⟩
noncomputable def AQ:Str:=⟨#[103,115]⟩
noncomputable def dZ:Str:=⟨#[]⟩
noncomputable def Lb:Str:=⟨#[98,121,95,99,111,100,101]⟩
noncomputable def Lc:Str:=⟨#[98,121,95,110,97,109,101]⟩
noncomputable def kZ:Str:=⟨#[99,97,108,108]⟩
noncomputable def jn:Str:=⟨#[100,105,103,105,116]⟩
noncomputable def jo:Str:=⟨#[101,115,99,97,112,101]⟩
noncomputable def Ld:Str:=⟨#[102,111,114,109,115]⟩
noncomputable def cq:Str:=⟨#[105,109,109]⟩
noncomputable def AR:Str:=⟨#[105,109,109,49,54]⟩
noncomputable def jq:Str:=⟨#[105,109,109,51,50]⟩
noncomputable def AU:Str:=⟨#[105,109,109,54,52]⟩
noncomputable def AW:Str:=⟨#[105,109,109,56]⟩
noncomputable def jr:Str:=⟨#[105,115,95,119,105,100,101]⟩
noncomputable def Lf:Str:=⟨#[106,97]⟩
noncomputable def Lg:Str:=⟨#[106,97,101]⟩
noncomputable def Lh:Str:=⟨#[106,98]⟩
noncomputable def js:Str:=⟨#[106,98,101]⟩
noncomputable def Li:Str:=⟨#[106,101]⟩
noncomputable def Lj:Str:=⟨#[106,103]⟩
noncomputable def Lk:Str:=⟨#[106,103,101]⟩
noncomputable def jt:Str:=⟨#[106,108]⟩
noncomputable def Ll:Str:=⟨#[106,108,101]⟩
noncomputable def iy:Str:=⟨#[106,109,112]⟩
noncomputable def ju:Str:=⟨#[106,110,101]⟩
noncomputable def Lm:Str:=⟨#[106,110,111]⟩
noncomputable def Lo:Str:=⟨#[106,110,112]⟩
noncomputable def Lp:Str:=⟨#[106,110,115]⟩
noncomputable def jv:Str:=⟨#[106,111]⟩
noncomputable def Lq:Str:=⟨#[106,112]⟩
noncomputable def o5:Str:=⟨#[106,114,99,120,122]⟩
noncomputable def Lr:Str:=⟨#[106,115]⟩
noncomputable def jw:Str:=⟨#[107,105,110,100,115]⟩
noncomputable def Ls:Str:=⟨#[108,101,97,118,101]⟩
noncomputable def o6:Str:=⟨#[108,111,111,112]⟩
noncomputable def o7:Str:=⟨#[108,111,111,112,101]⟩
noncomputable def o8:Str:=⟨#[108,111,111,112,110,101]⟩
noncomputable def aZ:Str:=⟨#[109,111,118]⟩
noncomputable def jx:Str:=⟨#[109,117,115,116]⟩
noncomputable def bl:Str:=⟨#[110,97,109,101]⟩
noncomputable def cP:Str:=⟨#[110,117,109,98,101,114]⟩
noncomputable def Lu:Str:=⟨#[111,49,54]⟩
noncomputable def AX:Str:=⟨#[111,51,50]⟩
noncomputable def AY:Str:=⟨#[111,54,52]⟩
noncomputable def Lv:Str:=⟨#[111,56]⟩
noncomputable def jy:Str:=⟨#[111,112,99,111,100,101]⟩
noncomputable def jz:Str:=⟨#[112,108,97,99,101,115]⟩
noncomputable def jA:Str:=⟨#[112,108,117,115]⟩
noncomputable def AZ:Str:=⟨#[114,49,54]⟩
noncomputable def o9:Str:=⟨#[114,51,50]⟩
noncomputable def pa:Str:=⟨#[114,54,52]⟩
noncomputable def A0:Str:=⟨#[114,56]⟩
noncomputable def cA:Str:=⟨#[114,101,103]⟩
noncomputable def ct:Str:=⟨#[114,101,108]⟩
noncomputable def iz:Str:=⟨#[114,101,108,51,50]⟩
noncomputable def fg:Str:=⟨#[114,101,108,56]⟩
noncomputable def Lw:Str:=⟨#[114,101,116]⟩
noncomputable def bj:Str:=⟨#[114,109]⟩
noncomputable def sR:Str:=⟨#[114,109,49,54]⟩
noncomputable def iA:Str:=⟨#[114,109,51,50]⟩
noncomputable def fU:Str:=⟨#[114,109,54,52]⟩
noncomputable def sS:Str:=⟨#[114,109,56]⟩
noncomputable def pb:Str:=⟨#[115,105,109,109,51,50]⟩
noncomputable def b0:Str:=⟨#[115,105,122,101]⟩
noncomputable def aT (n:Str) (ks:List Str) (op esc dig sz must:Int) (w:Bool) (num:Int) (pl:List Str):AV:=.inst 264 [(bl,.str n),(jw,.tup (ks.map .str)),(jy,.int (.lit op)),(jo,.int (.lit esc)),(jn,.int (.lit dig)),(b0,.int (.lit sz)),(jx,.int (.lit must)),(jr,.bool w),(cP,.int (.lit num)),(jz,.tup (pl.map .str))]
noncomputable def cu:AV:=.inst 1113 [(Ld,.any),(Lc,.dicS [
 (aZ,.lst [aT aZ [sS,A0] 136 0 (-1) 8 0 false 0 [bj,cA],aT aZ [sR,AZ] 137 0 (-1) 16 0 false 1 [bj,cA],aT aZ [iA,o9] 137 0 (-1) 32 0 false 2 [bj,cA],aT aZ [fU,pa] 137 0 (-1) 64 0 false 3 [bj,cA],aT aZ [A0,sS] 138 0 (-1) 8 0 false 4 [cA,bj],aT aZ [AZ,sR] 139 0 (-1) 16 0 false 5 [cA,bj],aT aZ [o9,iA] 139 0 (-1) 32 0 false 6 [cA,bj],aT aZ [pa,fU] 139 0 (-1) 64 0 false 7 [cA,bj],aT aZ [Lv,AW] 176 0 (-1) 8 0 false 8 [jA,cq],aT aZ [Lu,AR] 184 0 (-1) 16 0 false 9 [jA,cq],aT aZ [AX,jq] 184 0 (-1) 32 0 false 10 [jA,cq],aT aZ [sS,AW] 198 0 0 8 0 false 11 [bj,cq],aT aZ [sR,AR] 199 0 0 16 0 false 12 [bj,cq],aT aZ [iA,jq] 199 0 0 32 0 false 13 [bj,cq],aT aZ [fU,pb] 199 0 0 64 0 false 14 [bj,cq],aT aZ [AY,AU] 184 0 (-1) 64 0 false 15 [jA,cq]]),
 (iy,.lst [aT iy [fg] 235 0 (-1) 0 0 false 16 [ct],aT iy [iz] 233 0 (-1) 0 0 false 17 [ct],aT iy [fU] 255 0 4 64 0 true 18 [bj]]),
 (jv,.lst [aT jv [fg] 112 0 (-1) 0 0 false 19 [ct],aT jv [iz] 128 1 (-1) 0 0 false 20 [ct]]),
 (Lm,.any),
 (Lh,.any),
 (Lg,.any),
 (Li,.any),
 (ju,.lst [aT ju [fg] 117 0 (-1) 0 0 false 29 [ct],aT ju [iz] 133 1 (-1) 0 0 false 30 [ct]]),
 (js,.lst [aT js [fg] 118 0 (-1) 0 0 false 31 [ct],aT js [iz] 134 1 (-1) 0 0 false 32 [ct]]),
 (Lf,.any),
 (Lr,.any),
 (Lp,.any),
 (Lq,.any),
 (Lo,.any),
 (jt,.lst [aT jt [fg] 124 0 (-1) 0 0 false 43 [ct],aT jt [iz] 140 1 (-1) 0 0 false 44 [ct]]),
 (Lk,.any),
 (Ll,.any),
 (Lj,.any),
 (kZ,.lst [aT kZ [iz] 232 0 (-1) 0 0 false 51 [ct],aT kZ [fU] 255 0 2 64 0 true 52 [bj]]),
 (Lw,.any),
 (Ls,.any),
 (o8,.lst [aT o8 [fg] 224 0 (-1) 0 0 false 56 [ct]]),
 (o7,.lst [aT o7 [fg] 225 0 (-1) 0 0 false 57 [ct]]),
 (o6,.lst [aT o6 [fg] 226 0 (-1) 0 0 false 58 [ct]]),
 (o5,.lst [aT o5 [fg] 227 0 (-1) 0 0 false 59 [ct]])]),(Lb,.any)]
noncomputable def aI (n:Nat) (lo hi:Int):Facts:=[.ge [(.var n,1)] lo,.le [(.var n,1)] hi]
noncomputable def iL (n:Int):AV:=.int (.lit n)
noncomputable def k7 (n:SE) (sz:Int):AV:=.inst 1191 [(bl,.anyS),(bM,.str gO),(cP,.int n),(b0,iL sz)]
noncomputable def Lx:AV:=.inst 1191 [(bl,.str kY),(bM,.str kY),(cP,iL 0),(b0,iL 64)]
noncomputable def k8 (r:AV):AV:=.inst 362 [(bM,.str cA),(oW,r)]
noncomputable def iB (w:SE) (n:Str):AV:=.inst 396 [(bM,.str cq),(eJ,.int w),(bl,.str n)]
noncomputable def A1 (w:SE) (n:Str):AV:=.inst 437 [(bM,.str ct),(eJ,.int w),(bl,.str n)]
noncomputable def Ly (base index:AV) (scale:SE) (w:SE) (sz:Int) (seg n:Str):AV:=.inst 490 [(bM,.str AO),(sJ,base),(sL,index),(sM,.int scale),(eJ,.int w),(b0,iL sz),(oX,.str seg),(bl,.str n)]
noncomputable def ez (n:Str) (ops:List AV):AV:=.inst 541 [(bl,.str n),(oY,.tup ops),(oZ,.str dZ)]
noncomputable def sT (mod rm k9:SE) (w:Int) (x b:SE):AV:=.inst 660 [(ji,.int mod),(bj,.int rm),(jj,.int k9),(jk,iL w),(jl,.int x),(jm,.int b)]
noncomputable def lg (at_ w:Int) (n:Str) (worth:SE) (way:Str):AV:=.inst 850 [(AL,iL at_),(AM,iL w),(bl,.str n),(eJ,.int worth),(AN,.str way)]
noncomputable def lh (oct:List SE) (fx:List AV) (c0 shape:AV):AV:=.inst 883 [(sN,.bytes oct),(sO,.lst fx),(sP,c0),(sQ,shape)]
noncomputable def b8 (n:Nat):SE:=.bit true (.add (.add (.lit 7) (.mul (-1) (.var n))) (.lit 1))
noncomputable def A2 (sz:Int):aL:=⟨1216,20,[.int (.var 0),iL sz],aI 0 0 15,k7 (.var 0) sz,[]⟩
noncomputable def A3:aL:=⟨915,15,[k8 (.inst 1191 [(bl,.anyS),(bM,.str gO),(cP,.int (.var 0)),(b0,.any)])],aI 0 0 15,.int (b8 0),[]⟩
noncomputable def sU (c a b d e:SE) (k l m:Int):SE:=.add c (.add (.mul k a) (.add (.mul l b) (.add (.mul m d) e)))
noncomputable def A4:aL:=⟨741,10,[.int (.var 0),.int (.var 1),.int (.var 2),.int (.var 3)],aI 0 0 1 ++ (aI 1 0 1 ++ (aI 2 0 1 ++ aI 3 0 1)),.int (sU (.lit 64) (.var 0) (.var 1) (.var 2) (.var 3) 8 4 2),[]⟩
noncomputable def A5:aL:=⟨615,10,[.int (.tab [1,4,2,8] (.var 0))],aI 0 0 3,.int (.tab [0,2,1,3] (.var 0)),[]⟩
noncomputable def Lz:aL:=⟨566,15,[.inst 490 [(bM,.any),(sJ,.any),(sL,.inst 1191 [(bl,.anyS),(bM,.str gO),(cP,.int (.var 1)),(b0,iL 64)]),(sM,.int (.tab [1,4,2,8] (.var 0))),(eJ,.any),(b0,.any),(oX,.any),(bl,.any)]],aI 0 0 3 ++ (aI 1 0 15 ++ [.ne [(.var 1,1)] 4]),.none,[]⟩
noncomputable def eK (n:Nat) (k:Int):SB:=⟨true,.add (.var n) (.lit (-k)),true⟩
noncomputable def pe:List SB→Tr
 | []=>.leaf
 | B::l=>.ask B (pe l) (pe l)
noncomputable def lj (n:Nat):List Int→Tr
 | []=>.leaf
 | k::l=>.ask (eK n k) .leaf (lj n l)
structure aN where
 cls:Nat
 seg:Nat
 knd:Nat
 mode:Nat
namespace aN
variable (p:aN)
noncomputable def LA:Str:=match p.seg with
 | 0=>dZ
 | 1=>AP
 | _=>AQ
noncomputable def sz:Int:=match p.mode with
 | 0=>64
 | _=>32
noncomputable def hasB:Bool:=match p.cls with
 | 1 | 2 | 5=>true
 | _=>false
noncomputable def fh:Bool:=match p.cls with
 | 3 | 5=>true
 | _=>false
noncomputable def base:AV:=match p.cls with
 | 0=>Lx
 | 1 | 2 | 5=>k7 (.var 2) 64
 | _=>.none
noncomputable def index:AV:=cond p.fh (k7 (.var 3) 64) .none
noncomputable def scale:SE:=cond p.fh (.tab [1,4,2,8] (.var 4)) (.lit 1)
noncomputable def mem (n:Str):AV:=Ly p.base p.index p.scale (.var 0) p.sz p.LA n
noncomputable def sV:AV:=k8 (k7 (.var 1) p.sz)
noncomputable def ops (n:Str→Str):List AV:=match p.knd with
 | 0=>[p.sV,p.mem (n aY)]
 | 1=>[p.mem (n aY),p.sV]
 | _=>[p.mem (n aY),iB (.var 5) (n bI)]
noncomputable def line:AV:=ez aZ (p.ops id)
noncomputable def x:SE:=cond p.fh (b8 3) (.lit 0)
noncomputable def b:SE:=cond p.hasB (b8 2) (.lit 0)
noncomputable def r:SE:=match p.knd with
 | 2=>.lit 0
 | _=>b8 1
noncomputable def c8 (n:Nat):SE:=.mod (.var n) 8
noncomputable def k9:SE:=match p.cls with
 | 3=>.add (.mul 64 (.tab [0,2,1,3] (.var 4))) (.add (.mul 8 (c8 3)) (.lit 5))
 | 5=>.add (.mul 64 (.tab [0,2,1,3] (.var 4))) (.add (.mul 8 (c8 3)) (c8 2))
 | 4=>.lit 37
 | _=>.add (c8 2) (.lit 32)
noncomputable def mod:Int:=match p.cls with
 | 1 | 2 | 5=>2
 | _=>0
noncomputable def shape (s:Bool):AV:=match s with
 | true=>sT (.lit p.mod) (.lit 4) p.k9 4 p.x p.b
 | false=>(match p.cls with
  | 0=>sT (.lit 0) (.lit 5) (.lit (-1)) 4 (.lit 0) (.lit 0)
  | _=>sT (.lit p.mod) (c8 2) (.lit (-1)) 4 (.lit 0) p.b)
noncomputable def c0:AV:=match p.knd,p.mode with
 | 0,0=>aT aZ [pa,fU] 139 0 (-1) 64 0 false 7 [cA,bj]
 | 0,_=>aT aZ [o9,iA] 139 0 (-1) 32 0 false 6 [cA,bj]
 | 1,0=>aT aZ [fU,pa] 137 0 (-1) 64 0 false 3 [bj,cA]
 | 1,_=>aT aZ [iA,o9] 137 0 (-1) 32 0 false 2 [bj,cA]
 | _,0=>aT aZ [fU,pb] 199 0 0 64 0 false 14 [bj,cq]
 | _,_=>aT aZ [iA,jq] 199 0 0 32 0 false 13 [bj,cq]
noncomputable def A6:List SE:=match p.seg with
 | 0=>[]
 | 1=>[.lit 100]
 | _=>[.lit 101]
noncomputable def LC:List SE:=match p.mode with
 | 0=>[sU (.lit 72) p.r p.x p.b (.lit 0) 4 2 1]
 | 1=>[]
 | _=>[sU (.lit 64) p.r p.x p.b (.lit 0) 4 2 1]
noncomputable def LD:SE:=match p.knd with
 | 0=>.lit 139
 | 1=>.lit 137
 | _=>.lit 199
noncomputable def LG:SE:=match p.knd with
 | 2=>.lit 0
 | _=>.mul 8 (c8 1)
noncomputable def LH (s:Bool):SE:=match s with
 | true=>.lit 4
 | false=>(match p.cls with
  | 0=>.lit 5
  | _=>c8 2)
noncomputable def head (s:Bool):List SE:=p.A6 ++ (p.LC ++ (p.LD::.add (.lit (64 * p.mod)) (.add p.LG (p.LH s))::cond s [p.k9] []))
noncomputable def z4:List SE:=[.lit 0,.lit 0,.lit 0,.lit 0]
noncomputable def A7 {α:Type} (l:List α):List α:=match p.knd with
 | 2=>l
 | _=>[]
noncomputable def way:Str:=match p.cls with
 | 0=>du
 | _=>dY
noncomputable def LI:Str:=match p.mode with
 | 0=>dY
 | _=>cn
noncomputable def enc (s:Bool):AV:=lh (p.head s ++ (z4 ++ p.A7 z4)) (lg (p.head s).length 4 aY (.var 0) p.way::p.A7 [lg ((p.head s).length + 4) 4 bI (.var 5) p.LI]) p.c0 (p.shape s)
noncomputable def pf:List Bool:=match p.cls with
 | 0=>[false]
 | 2=>[false,true]
 | _=>[true]
noncomputable def dM:List Nat:=(match p.knd with | 2=>[] | _=>[1]) ++ (cond p.hasB [2] [] ++ cond p.fh [3] [])
noncomputable def low:Facts:=p.dM.flatMap fun n=>aI n 0 7
noncomputable def any:Facts:=p.dM.flatMap fun n=>aI n 0 15
noncomputable def facts:Facts:=(match p.mode with
 | 1=>p.low
 | 2=>.ge ((p.dM.map fun n=>(b8 n,1))) 1::p.any
 | _=>p.any) ++ (aI 0 (-2147483648) 2147483647 ++ (cond p.fh (aI 4 0 3 ++ [.ne [(.var 3,1)] 4]) [] ++ (match p.cls with
 | 1=>[.ge [(c8 2,1)] 4,.le [(c8 2,1)] 4]
 | 2=>[.ne [(c8 2,1)] 4]
 | _=>[])))
noncomputable def Pg:aL:=⟨1001,60,[cu,p.line],p.facts,.lst (p.pf.map p.enc),[]⟩
noncomputable def pre:List SB:=match p.mode with
 | 2=>p.dM.map fun n=>eK n 7
 | _=>[]
end aN
noncomputable def mm (base index scale worth size seg name:AV):AV:=.inst 490 [(bM,.str AO),(sJ,base),(sL,index),(sM,scale),(eJ,worth),(b0,size),(oX,seg),(bl,name)]
noncomputable def hl (n:Nat):AV:=.hole n
noncomputable def vr (n:Nat):AV:=.int (.var n)
noncomputable def ph (n:Nat):Facts:=aI n (-2147483648) 2147483647
noncomputable def adr (n h:Nat):AV:=.inst 1191 [(bl,.hole h),(bM,.str gO),(cP,vr n),(b0,iL 64)]
noncomputable def sW (k:Str) (h:Nat):AV:=.inst 1191 [(bl,.hole h),(bM,.str k),(cP,.hole (h + 1)),(b0,.hole (h + 2))]
noncomputable def A8 (n:Nat):Str:=match n with
 | 0=>dZ
 | 1=>AP
 | _=>AQ
noncomputable def Ph (mode:Nat):Int:=match mode with
 | 0=>64
 | _=>32
noncomputable def LJ:aL:=⟨559,15,[mm .none .any .any .any .any .any .any],[],.none,[]⟩
noncomputable def LK:aL:=⟨559,15,[mm (.inst 1191 [(bl,.any),(bM,.str kY),(cP,.any),(b0,.any)]) .none .any .any .any .any .any],[],.none,[]⟩
noncomputable def LL:aL:=⟨559,15,[mm (.inst 1191 [(bl,.any),(bM,.str gO),(cP,.any),(b0,iL 64)]) .any .any .any .any .any .any],[],.none,[]⟩
noncomputable def LM:aL:=⟨566,15,[mm .any .none (iL 1) .any .any .any .any],[],.none,[]⟩
noncomputable def cM (seg:Nat) (sz:Int):aL:=let m:=mm (hl 10) (hl 11) (hl 12) (vr 0) (iL sz) (.str (A8 seg)) (hl 13)
 ⟨573,20,[m],ph 0,.any,[⟨559,15,[m],.none,[]⟩,⟨566,15,[m],.none,[]⟩]⟩
namespace aN
variable (p:aN)
noncomputable def yw:AV:=match p.cls with
 | 0=>sW kY 14
 | 1 | 2 | 5=>adr 2 14
 | _=>.none
noncomputable def LN:AV:=cond p.fh (adr 3 17) .none
noncomputable def jB (w:AV) (n:Str):AV:=mm p.yw p.LN (.int p.scale) w (hl 10) (hl 11) (.str n)
noncomputable def pj:Facts:=cond p.hasB (aI 2 0 15) [] ++ (cond p.fh (aI 3 0 15 ++ (aI 4 0 3 ++ [.ne [(.var 3,1)] 4])) [] ++ (match p.cls with
 | 1=>[.ge [(c8 2,1)] 4,.le [(c8 2,1)] 4]
 | 2=>[.ne [(c8 2,1)] 4]
 | _=>[]))
noncomputable def ll (m:AV):Pr:=⟨573,20,[m],.any,[]⟩
noncomputable def A9:aL:=⟨720,15,[.inst 660 [(ji,vr 20),(bj,.any),(jj,.int p.k9),(jk,.any),(jl,.int p.x),(jm,.any)]],p.pj ++ aI 20 (match p.cls with | 2=>1 | _=>0) 2,.bool (match p.cls with | 2=>true | _=>false),[]⟩
noncomputable def sY:aL:=⟨727,30,[p.jB (hl 12) aY],p.pj,.lst (p.pf.map p.shape),[ll (p.jB (hl 12) aY)]⟩
noncomputable def sZ (s:Bool):aL:=⟨955,40,[p.jB (hl 12) aY,p.shape s],p.pj,.none,[ll (p.jB (hl 12) aY)]⟩
noncomputable def s6 (s:Bool):aL:=⟨955,40,[p.jB (vr 6) dZ,p.shape s],p.pj ++ ph 6,.none,[ll (p.jB (vr 6) dZ)]⟩
end aN
noncomputable def LO:Str:=⟨#[105,115,95,100,97,116,97]⟩
noncomputable def LP:Str:=⟨#[114,101,112,101,97,116]⟩
noncomputable def LQ:Str:=⟨#[105,115,95,108,111,99,107]⟩
noncomputable def LR:Str:=⟨#[114,101,120]⟩
noncomputable def litS:Nat→SE→List SE
 | 0,_=>[]
 | 1,e=>[e]
 | n + 1,e=>.mod e 256::litS n (.div e 256)
noncomputable def lits (n:Nat) (w:Nat):List SE:=litS w (.mod (.var n) (256 ^ w))
noncomputable def vars (i:Nat):Nat→List SE
 | 0=>[]
 | n + 1=>.var i::vars (i + 1) n
noncomputable def Ba (w:Nat):aL:=⟨122,20,[vr 0,iL w],(match w with | 1=>aI 0 0 255 | _=>[]),.bytes (match w with | 1=>[.var 0] | _=>lits 0 w),[]⟩
noncomputable def Bb:aL:=⟨122,20,[iL 0,iL 4],[],.bytes aN.z4,[]⟩
noncomputable def Bc (seg rex:AV):AV:=.inst 815 [(oX,seg),(LO,.bool false),(LP,iL 0),(LQ,.bool false),(LR,rex)]
noncomputable def s8 (seg:Nat) (r:Bool):aL:=⟨812,20,[Bc (.str (A8 seg)) (cond r (vr 0) (iL (-1)))],cond r (aI 0 64 79) [],.bytes (aN.A6 ⟨0,seg,0,0⟩ ++ cond r [.var 0] []),[]⟩
noncomputable def Bd (s:Bool):AV:=.inst 660 [(ji,vr 6),(bj,vr 7),(jj,cond s (vr 8) (iL (-1))),(jk,iL 4),(jl,.any),(jm,.any)]
noncomputable def Be (s:Bool):Facts:=aI 6 0 3 ++ (aI 7 0 7 ++ cond s (aI 8 0 255) [])
noncomputable def Bf (r:SE):SE:=.add (.mul 64 (.var 6)) (.add (.mul 8 r) (.var 7))
noncomputable def Bg (s z:Bool):aL:=⟨734,25,[Bd s,vr 1,cond z (iL 0) (vr 0)],aI 1 0 7 ++ (Be s ++ cond z [] (ph 0)),.bytes (Bf (.var 1)::(cond s [.var 8] [] ++ cond z aN.z4 (lits 0 4))),[]⟩
noncomputable def s9 (dg:Bool) (s:Bool) (b:Nat):aL:=
 let r:SE:=cond dg (.lit 0) (.mod (.var 1) 8)
 let m:List SE:=Bf r::cond s [.var 8] []
 ⟨950,30,[.inst 264 [(bl,.any),(jw,.any),(jy,.any),(jo,.any),(jn,iL (cond dg 0 (-1))),(b0,.any),(jx,.any),(jr,.any),(cP,.any),(jz,.any)],cond dg .none (.inst 362 [(bM,.any),(oW,.inst 1191 [(bl,.any),(bM,.any),(cP,vr 1),(b0,.any)])]),
  mm (match b with | 0=>sW kY 14 | 1=>sW gO 14 | 2=>.none | _=>.any) .any .any (vr 0) .any .any (.str (match b with | 3=>dZ | _=>aY)),Bd s,vr 9],cond dg [] (aI 1 0 15) ++ (Be s ++ (match b with | 3=>ph 0 | _=>[])),
  .tup [.bytes (m ++ (match b with | 3=>lits 0 4 | _=>aN.z4)),.lst (match b with
   | 3=>[]
   | _=>[.inst 850 [(AL,.int (.add (.var 9) (.lit m.length))),(AM,iL 4),(bl,.str aY),(eJ,vr 0),(AN,.str (match b with | 0=>du | _=>dY))]])],[]⟩
noncomputable def pk (k:Nat):AV:=.inst 264 [(bl,.str aZ),(jw,.tup [hl 20,(match k with | 2=>.str jq | 3=>.str pb | _=>hl 21)]),(jy,vr 92),(jo,iL 0),(jn,hl 22),(b0,vr 93),(jx,iL 0),(jr,hl 23),(cP,hl 24),(jz,.tup (match k with | 0=>[.str cA,.str bj] | 1=>[.str bj,.str cA] | _=>[.str bj,.str cq]))]
noncomputable def lp (nm:Bool):AV:=mm (hl 10) (hl 11) (hl 12) (hl 13) (hl 14) (hl 15) (.str (cond nm aY dZ))
noncomputable def ta:AV:=.inst 362 [(bM,.str cA),(oW,hl 5)]
noncomputable def lq:AV:=.inst 660 [(ji,hl 31),(bj,hl 32),(jj,hl 33),(jk,hl 34),(jl,hl 35),(jm,hl 36)]
noncomputable def tc (k:Nat):Bool:=Nat.ble 2 k
noncomputable def cE (k n m:Nat) (nm:Bool):aL:=
 let l:AV:=ez aZ (match k with
  | 0=>[ta,lp nm]
  | 1=>[lp nm,ta]
  | _=>[lp nm,iB (.var 5) (cond nm bI dZ)])
 let r:AV:=cond (tc k) .none ta
 let fx:List AV:=cond nm [hl 95] []
 ⟨970,50,[pk k,l,lq],aI 92 0 255 ++ [.ge [(.var 93,1)] 17],
  .inst 883 [(sN,.bytes (vars 100 n ++ (.var 92::(vars 110 m ++ cond (tc k) (cond nm aN.z4 (lits 5 4)) [])))),(sO,.lst (fx ++ cond (tc k && nm) [lg (n + 1 + m) 4 bI (.var 5) (match k with | 2=>cn | _=>dY)] [])),(sP,pk k),(sQ,lq)],
  [⟨955,40,[lp nm,lq],.none,[]⟩,⟨922,25,[pk k,l,r,.none,lq],vr 91,[]⟩,⟨812,20,[Bc (hl 15) (vr 91)],.bytes (vars 100 n),[]⟩,⟨950,30,[pk k,r,lp nm,lq,iL (n + 1)],.tup [.bytes (vars 110 m),.lst fx],[]⟩]⟩
namespace aN
variable (p:aN)
noncomputable def eX (c:Int):SE:=.add (.lit c) (.add (.mul 4 p.r) (.add (.mul 2 (.var 9)) (.var 10)))
noncomputable def td:Int:=match p.mode with
 | 1=>0
 | _=>1
noncomputable def LS:SE:=match p.mode with
 | 0=>p.eX 72
 | 1=>.lit (-1)
 | _=>p.eX 64
noncomputable def LU:Facts:=(match p.knd with | 2=>[] | _=>aI 1 0 (7 + 8 * p.td)) ++ (aI 9 0 p.td ++ (aI 10 0 p.td ++ (match p.mode with
 | 2=>gL ⟨true,.add (.lit 1) (.mul (-1) (.add p.r (.add (.var 9) (.var 10)))),true⟩ true
 | _=>[])))
noncomputable def te:aL:=let m:AV:=mm .any .any .any .any .any .any .any
 let ra:AV:=k8 (.inst 1191 [(bl,.anyS),(bM,.str gO),(cP,vr 1),(b0,iL p.sz)])
 ⟨922,25,[.inst 264 [(bl,.any),(jw,.any),(jy,.any),(jo,.any),(jn,.any),(b0,iL p.sz),(jx,.any),(jr,.bool false),(cP,.any),(jz,.any)],.inst 541 [(bl,.any),(oY,.tup (match p.knd with
  | 0=>[ra,m]
  | 1=>[m,ra]
  | _=>[m,.inst 396 [(bM,.str cq),(eJ,.any),(bl,.any)]])),(oZ,.any)],(match p.knd with | 2=>.none | _=>ra),.none,.inst 660 [(ji,.any),(bj,.any),(jj,.any),(jk,.any),(jl,vr 9),(jm,vr 10)]],p.LU,.int p.LS,[]⟩
end aN
noncomputable def tf:AV:=mm (hl 10) (hl 11) (hl 12) (hl 13) (hl 14) (hl 15) (hl 16)
noncomputable def tg (f:Bool):aL:=⟨908,45,[.inst 264 [(bl,.any),(jw,.any),(jy,.any),(jo,.any),(jn,.any),(b0,.any),(jx,.any),(jr,.any),(cP,.any),(jz,.tup (cond f [.str bj,hl 1] [.str cA,.str bj]))],.inst 541 [(bl,.any),(oY,.tup (cond f [tf,hl 0] [hl 0,tf])),(oZ,.any)]],[],hl 20,[⟨727,30,[tf],hl 20,[]⟩]⟩
namespace aN
variable (p:aN)
noncomputable def lr:AV:=let m:AV:=mm .any .any .any .any (iL p.sz) .any .any
 let r:AV:=k8 (.inst 1191 [(bl,.anyS),(bM,.str gO),(cP,.any),(b0,iL p.sz)])
 ez aZ (match p.knd with
  | 0=>[r,m]
  | 1=>[m,r]
  | _=>[m,.inst 396 [(bM,.str cq),(eJ,.any),(bl,.str bI)]])
noncomputable def Bh:aL:=⟨982,40,[cu,p.lr],[],.lst [p.c0],[]⟩
end aN
noncomputable def pq:AV:=.inst 264 [(bl,hl 2),(jw,hl 3),(jy,hl 4),(jo,hl 5),(jn,hl 6),(b0,hl 7),(jx,hl 8),(jr,hl 9),(cP,vr 0),(jz,hl 10)]
noncomputable def pz (n i h:Nat):AV:=.inst 883 [(sN,.bytes (vars i n)),(sO,hl h),(sP,hl (h + 1)),(sQ,hl (h + 2))]
noncomputable def ti (n:Nat) (two:Bool):aL:=⟨1001,60,[hl 0,hl 1],[],.lst (pz n 30 13::cond two [pz (n + 1) 50 16] []),⟨982,40,[hl 0,hl 1],.lst [pq],[]⟩::⟨908,45,[pq,hl 1],.lst (hl 11::cond two [hl 12] []),[]⟩::⟨970,50,[pq,hl 1,hl 11],pz n 30 13,[]⟩::cond two [⟨970,50,[pq,hl 1,hl 12],pz (n + 1) 50 16,[]⟩] []⟩
structure bN where
 at_:Nat
 w:Nat
 name:Str
 way:Str
noncomputable def tj (f:Nat→Nat→List SE) (n:Nat) (l:List bN):List SE:=go l 0 0
where go:List bN→(i j:Nat)→List SE
 | [],_,j=>vars (30 + j) (n - j)
 | q::l,i,j=>vars (30 + j) (q.at_ - j) ++ (f i q.w ++ go l (i + 1) (q.at_ + q.w))
noncomputable def zs (_ w:Nat):List SE:=List.replicate w (.lit 0)
noncomputable def ws (i w:Nat):List SE:=lits (14 + i) w
noncomputable def Bi:List bN→Nat→List AV
 | [],_=>[]
 | q::l,i=>lg q.at_ q.w q.name (.var (20 + i)) q.way::Bi l (i + 1)
noncomputable def tm (l:List bN):Nat:=l.foldl (fun _ q=>q.at_ + q.w) 0
noncomputable def Bj (l:List bN) (c0 shape:AV):AV:=lh (tj zs (tm l) l) (Bi l 0) c0 shape
noncomputable abbrev pA:=List (Str×List (Int×Str))
noncomputable def wants:pA→Nat→List AV
 | [],_=>[]
 | (n,d)::l,i=>.tup [.str n,vr (20 + i),.dicI (d.map fun x=>(x.1,.str x.2))]::wants l (i + 1)
noncomputable def tq (l:List bN) (w:pA):aL:=⟨1268,20,[Bj l .any .any,.lst (wants w 0)],[],.bool true,[]⟩
noncomputable def Bk (q:bN):Int:=cond (sEq q.way cn) (2 ^ (8 * q.w) - 1) (2 ^ (8 * q.w - 1) - 1)
noncomputable def Bl (q:bN):Int:=-2 ^ (8 * q.w - 1)
noncomputable def Bm (n:Nat) (k:Int):SB:=⟨true,.add (.var n) (.lit (1 - k)),false⟩
noncomputable def Bn:List bN→Nat→List AV
 | [],_=>[]
 | q::l,i=>.tup [.str q.name,vr (14 + i),iL q.w,.str q.way]::Bn l (i + 1)
noncomputable def Bo:List bN→Nat→List Pr
 | [],_=>[]
 | q::l,i=>⟨1251,15,[iL (8 * q.w),vr (11 + i),vr 13],vr (14 + i),[]⟩::Bo l (i + 1)
noncomputable def Bp:List bN→Nat→List SB
 | [],_=>[]
 | q::l,i=>eK (14 + i) (Bk q)::Bm (14 + i) (Bl q)::Bp l (i + 1)
noncomputable def LV (l:List SE):Facts:=l.flatMap fun e=>match e with
 | .var n=>aI n 0 255
 | _=>[]
noncomputable def tw (l:List bN):aL:=⟨1289,55,[hl 0,Bj l (hl 1) (hl 2),vr 10,.lst [vr 11,vr 12],vr 13],LV (tj zs (tm l) l),.bool true,
 Bo l 0 ++ [⟨1282,25,[hl 0,.lst (Bn l 0)],hl 3,[]⟩,⟨970,50,[hl 1,hl 3,hl 2],lh (tj ws (tm l) l) [] .any .any,Bp l 0⟩]⟩
noncomputable def pB (n:Str) (i:Nat):AV:=.tup [.str n,vr i,.any,.any]
noncomputable def tx:AV:=.inst 362 [(bM,.str cA),(oW,hl 5)]
noncomputable def tD (w:AV) (n:Str):AV:=mm (hl 10) (hl 11) (hl 12) w (hl 14) (hl 15) (.str n)
noncomputable def Bq (w:AV) (n:Str):AV:=.inst 396 [(bM,.str cq),(eJ,w),(bl,.str n)]
noncomputable def LW (w:AV) (n:Str):AV:=.inst 437 [(bM,.str ct),(eJ,w),(bl,.str n)]
noncomputable def Br (l:List AV):AV:=.inst 541 [(bl,hl 9),(oY,.tup l),(oZ,.str dZ)]
noncomputable def Bt (k:Nat) (w w':AV) (a b:Str):List AV:=match k with
 | 0=>[tx,tD w a]
 | 1=>[tD w a,tx]
 | 2=>[tD w a,Bq w' b]
 | 3=>[tx,Bq w b]
 | _=>[LW w a]
noncomputable def tE (k:Nat):aL:=⟨1282,25,[Br (Bt k .any .any aY bI),.lst (match k with
 | 2=>[pB aY 14,pB bI 15]
 | 3=>[pB bI 14]
 | _=>[pB aY 14])],[],Br (Bt k (vr 14) (vr 15) dZ dZ),[]⟩
noncomputable def Bu:List bN→Nat→Tr
 | [],_=>.leaf
 | q::l,i=>(match Bu l (i + 1) with
  | s=>cond (sEq q.way cn) s (.ask (eK (14 + i) (-1)) s s))
noncomputable def Bv (z:Tr):List bN→Nat→Tr
 | [],_=>z
 | q::l,i=>.ask (eK (14 + i) (Bk q)) (.ask (Bm (14 + i) (Bl q)) (Bv z l (i + 1)) .leaf) .leaf
noncomputable def LX (l:List bN):Tr:=Bv (Bu l 0) l 0
noncomputable def Bw (w:Nat) (l:Bool):SE:=let H:Int:=2 ^ (8 * w - 1)
 cond l (.add (.mod (.var 13) (2 ^ (8 * w))) (.lit (-H))) (.tab [0,H - 1,-H,H,-H - 1,-1,1,H - 2,1 - H,2 * H - 1,2 * H,H + 1] (.var 12))
noncomputable def cW (w:Nat) (l:Bool):aL:=⟨1251,15,[iL (8 * w),vr 12,vr 13],cond l (aI 12 12 13) (aI 12 0 11),.int (Bw w l),[]⟩
structure Vals where
 ρ:Nat→Int
 η:Nat→GH→Value→Prop
 ηm:∀ n g g' v,Sub g g'→η n g v→η n g' v
 ηp:∀ n g v,η n g v→handedIn v = true
noncomputable def ab.on (W:ab) (X:Vals):ab:=⟨W.w,W.os,W.h0,W.B,X.ρ,X.η,X.ηm,X.ηp⟩
noncomputable def ab.vals (W:ab):Vals:=⟨W.ρ,W.η,W.ηm,W.ηp⟩
noncomputable def ab.to (W:ab) (ρ:Nat→Int) (W':ab) (ζ:Hz):ab:=W.on ⟨ρ,fun n g v=>∀ ad,Rel W' ⟨g,ad⟩ v (ζ n).1,fun n g g' v s r ad=>Rel.mono (V:=⟨g,ad⟩) (V':=⟨g',ad⟩) ⟨s,fun _ _ e=>e⟩ (r ad),fun n g v r=>(ζ n).2 _ _ _ (r [])⟩
section
variable {W:ab} {d:Nat} {sc:Fs}
noncomputable def aj.on (c:aj W d sc) (X:Vals):aj (W.on X) d sc:=⟨c.A,c.env,c.h₀,c.X,c.B,c.ad,c.a,c.K,c.es,c.G,c.out,c.base,c.cls,c.cel,c.top⟩
noncomputable def Sg (W W':ab) (σ σ':aq):Prop:=∀ x a,lk x σ' = some a→∃ b,lk x σ = some b∧∀ V v,Rel W V v b→Rel W' V v a
theorem Sg.nil {W':ab} {σ:aq}:Sg W W' σ []:=fun _ _ e=>ar e
theorem Sg.cons {W':ab} {σ σ':aq} {x:Str} {a b:AV} (e:lk x σ = some b) (r:∀ V v,Rel W V v b→Rel W' V v a) (h:Sg W W' σ σ'):Sg W W' σ ((x,a)::σ'):=fun y a' e'=>by
 rw [dc] at e'
 split at e'
 ·rename_i q; cases e'; exact ⟨b,q▸e,r⟩
 ·exact h y a' e'
variable {c:aj W d sc} {σ σ' τ τ':aq} {own:Own} {ad:List Addr} {h:Heap}
theorem SV.on {X:Vals} (S:SV c σ ⟨[],ad,h⟩) (i:Sg W (W.on X) σ σ'):SV (c.on X) σ' ⟨[],ad,h⟩:=
 have e:ad = []:=oV S.owns
 ⟨S.pre,S.keep,e▸.none,S.new,S.low,S.ns,S.cls,fun x a q=>by
  refine af fun nG=>?_
  obtain ⟨b,q',r⟩:=i x a q
  refine nG ?_
  cases S.loc x b q' with
  | loc k n e z=>exact .loc k n e (r _ _ z)
  | cel k d e i z=>exact .cel k d e i (r _ _ z)⟩
theorem aB.on {X:Vals} {t:Sem Flow} (k:aB (c.on X) σ' [] t (.next τ' [])) (i:Sg W (W.on X) σ σ') (o:Sg (W.on X) W τ' τ):aB c σ [] t (.next τ []):=fun s ad Q E S T=>
 k s ad Q E (S.on i) fun h' tk ad' S'=>T h' tk ad' (SV.on (W:=W.on X) (c:=c.on X) (X:=W.vals) S' o)
noncomputable def Bx (W:ab) (own:Own) (σ τ:aq):Prop:=∀ x b,lk x τ = some b→∃ a q own',lk x σ = some a∧aU own a own' q∧nl q = true∧∀ V v,Rel W V v q→Rel W V v b
theorem SV.forget (S:SV c σ ⟨own,ad,h⟩) (hc:c.ad = []) (f:Bx W own σ τ):SV c τ ⟨[],[],h⟩:=⟨by rw [hc]; exact fun _ _ e=>e,S.keep,.none,fun u z=>(cN z).elim,S.low,S.ns,S.cls,fun x b e=>by
 refine af fun nG=>?_
 obtain ⟨a,q,own',e',z,hq,r⟩:=f x b e
 refine nG ?_
 have zz:=(z S.owns).2
 have k:∀ {v},Rel W (vw c.U ⟨own,ad,h⟩) v a→Rel W (vw c.U ⟨[],[],h⟩) v b:=fun y=>r _ _ (dS (d7 fun u w=>w.imp id fun w=>(cN w).elim) hq (zz _ y))
 cases S.loc x a e' with
 | loc k' n e y=>exact .loc k' n e (k y)
 | cel k' d e i y=>exact .cel k' d e i (k y)⟩
noncomputable def LY (W:ab) (d:Nat) (sc:Fs) (σ:aq) (l:List Stmt) (τ:aq):Prop:=∀ c:aj W d sc,c.ad = []→∀ rest f,aB c τ [] (execs rest c.env) f→aB c σ [] (execs (l ++ rest) c.env) f
variable {G:Facts} (hG:Sat W.ρ G) (v:Ev W d)
noncomputable def LZ (own:Own) (a:AV):{ r:AV×Own // aU own a r.2 r.1 }:=match a with
 | .loc n=>cond (nl (kO own (.loc n)).1.1) (kO own (.loc n)) (Im own n)
 | a=>kO own a
noncomputable def By (own:Own) (σ:aq):(τ:aq)→Out fun _:Unit=>Bx W own σ τ
 | []=>.ok () fun _ _ e=>ar e
 | (x,b)::τ=>bH (lk x σ) 200 fun a ha=>(match LZ own a with
  | ⟨q,z⟩=>au (nl q.1) 201 fun hq=>bd (sI hG b q.1) fun _ hc=>bd (By own σ τ) fun _ k=>.ok () fun y b' e=>by
   rw [dc] at e
   split at e
   ·rename_i w; cases e; exact ⟨a,q.1,q.2,w▸ha,z,hq,hc⟩
   ·exact k y b' e)
noncomputable def Bz:(l:List Stmt)→(σ:aq)→(own:Own)→Out fun r:aq×Own=>∀ (c:aj W d sc) rest f,aB c r.1 r.2 (execs rest c.env) f→aB c σ own (execs (l ++ rest) c.env) f
 | [],σ,own=>.ok (σ,own) fun _ _ _ k=>k
 | st::l,σ,own=>bd (v.s sc σ own st) fun f hf=>(match f,hf with
  | .next σ' o,hf=>(match fL o with
   | ⟨o',e⟩=>bd (Bz l σ' o') fun r k=>.ok r fun c rest f q=>.seq (hf c) (e▸k c rest f q))
  | _,_=>.no 202)
noncomputable def iC (σ:aq) (l:List Stmt) (τ:aq):Out fun _:Unit=>LY W d sc σ l τ:=bd (Bz v l σ []) fun r h=>bd (By hG r.2 r.1 τ) fun _ k=>.ok () fun c hc rest f q s ad Q E S T=>h c rest f (fun s ad Q E S T=>q s [] Q E (S.forget hc k) T) s ad Q E S T
end
end Mine
end
section
set_option backward.match.sparseCases false
open PySem PySem.W PyProof.Rows PySem.Calls
set_option maxRecDepth 100000
set_option maxHeartbeats 4000000
namespace Mine
inductive ah {α:Type} (P:α→Prop):List α→Prop
 | nil:ah P []
 | cons {a:α} {l:List α} (h:P a) (t:ah P l):ah P (a::l)
theorem ah.at {α:Type} {P:α→Prop} {l:List α} (h:ah P l) {a:α} (m:a∈l):P a:=by
 induction h with
 | nil=>cases m
 | cons h _ ih=>rcases List.mem_cons.mp m with rfl | m; exact h; exact ih m
theorem ah.app {α:Type} {P:α→Prop} {l m:List α} (h:ah P l) (k:ah P m):ah P (l ++ m):=by
 induction h with
 | nil=>exact k
 | cons h _ ih=>exact .cons h ih
noncomputable def L1 (T:bR) (k:Nat) (c:aL) (W:ab) (h:dK W c.pre) (hG:Sat W.ρ c.G):Bool:=isOk (runC hG (tabs hG c.pre h T []) c k)
noncomputable def Ck (T:bR) (k:Nat) (c:aL):Prop:=∀ W h hG,L1 T k c W h hG = true
theorem Ck.ok {T:bR} {k:Nat} {c:aL} (h:Ck T k c) (hd:Nat.beq (5 * k + 5) c.d = true):aV c:=fun W hG hp=>Nat.eq_of_beq_eq_true hd▸gM (h W hp hG)
noncomputable def L2:Tr:=pe [eK 0 0,eK 1 0,eK 2 0,eK 3 0]
theorem L4:aV (A2 64):=fe.ok (X:=[]) (k:=3) (T:=lj 0 [0,1,2,3,4,5,6,7,8,9,10,11,12,13,14]) (by repeat' first | exact .nil | refine .cons ?_ ?_ | refine ⟨?_,?_⟩ | (intro W h hG; kernel_rfl) | kernel_rfl) rfl
theorem L5:aV (A2 32):=fe.ok (X:=[]) (k:=3) (T:=lj 0 [0,1,2,3,4,5,6,7,8,9,10,11,12,13,14]) (by repeat' first | exact .nil | refine .cons ?_ ?_ | refine ⟨?_,?_⟩ | (intro W h hG; kernel_rfl) | kernel_rfl) rfl
theorem L6:aV A3:=fe.ok (X:=[]) (k:=2) (T:=pe [eK 0 7]) (by repeat' first | exact .nil | refine .cons ?_ ?_ | refine ⟨?_,?_⟩ | (intro W h hG; kernel_rfl) | kernel_rfl) rfl
theorem L7:aV A4:=fe.ok (X:=[]) (k:=1) (T:=L2) (by repeat' first | exact .nil | refine .cons ?_ ?_ | refine ⟨?_,?_⟩ | (intro W h hG; kernel_rfl) | kernel_rfl) rfl
theorem L8:aV A5:=fe.ok (X:=[]) (k:=1) (T:=lj 0 [0,1,2]) (by repeat' first | exact .nil | refine .cons ?_ ?_ | refine ⟨?_,?_⟩ | (intro W h hG; kernel_rfl) | kernel_rfl) rfl
theorem L9:aV Lz:=fe.ok (X:=[]) (k:=2) (T:=lj 0 [0,1,2]) (by repeat' first | exact .nil | refine .cons ?_ ?_ | refine ⟨?_,?_⟩ | (intro W h hG; kernel_rfl) | kernel_rfl) rfl
theorem Ma:aV LJ:=Ck.ok (T:=[]) (k:=2) (by repeat' first | exact .nil | refine .cons ?_ ?_ | refine ⟨?_,?_⟩ | (intro W h hG; kernel_rfl) | kernel_rfl) rfl
theorem Mb:aV LK:=Ck.ok (T:=[]) (k:=2) (by repeat' first | exact .nil | refine .cons ?_ ?_ | refine ⟨?_,?_⟩ | (intro W h hG; kernel_rfl) | kernel_rfl) rfl
theorem Mc:aV LL:=Ck.ok (T:=[]) (k:=2) (by repeat' first | exact .nil | refine .cons ?_ ?_ | refine ⟨?_,?_⟩ | (intro W h hG; kernel_rfl) | kernel_rfl) rfl
theorem Me:aV LM:=Ck.ok (T:=[]) (k:=2) (by repeat' first | exact .nil | refine .cons ?_ ?_ | refine ⟨?_,?_⟩ | (intro W h hG; kernel_rfl) | kernel_rfl) rfl
noncomputable def TA:bR:=[⟨A3,L6⟩,⟨A4,L7⟩,⟨A5,L8⟩]
theorem aM:ah (fun p:Nat×Int=>Ck [] 3 (cM p.1 p.2)) [(0,64),(1,64),(2,64),(0,32),(1,32),(2,32)]:=by repeat' first | exact .nil | refine .cons ?_ ?_ | refine ⟨?_,?_⟩ | (intro W h hG; kernel_rfl) | kernel_rfl
noncomputable def pc (c:Nat):aN:=⟨c,0,0,0⟩
noncomputable def Pj (c:Nat):Bool:=c == 1 || c == 2 || c == 5
noncomputable def Mf (c:Nat):Tr:=match c with
 | 2=>.ask ⟨false,.add (.mod (.var 2) 8) (.lit (-5)),true⟩ .leaf .leaf
 | 5=>.ask (eK 3 7) .leaf (.ask ⟨false,.add (.mod (.var 3) 8) (.lit (-4)),false⟩ .leaf .leaf)
 | _=>.leaf
theorem Mg:ah (fun c=>fe [] (pc c).A9 2 (Mf c)) [1,2,5]:=by repeat' first | exact .nil | refine .cons ?_ ?_ | refine ⟨?_,?_⟩ | (intro W h hG; kernel_rfl) | kernel_rfl
theorem tF {c:Nat} (m:c∈[1,2,5]):aV (pc c).A9:=(Mg.at m).ok rfl
noncomputable def TB (c:Nat):bR:=match c with
 | 1=>⟨_,tF (c:=1) (by decide)⟩::TA
 | 2=>⟨_,tF (c:=2) (by decide)⟩::TA
 | 5=>⟨_,tF (c:=5) (by decide)⟩::TA
 | _=>TA
noncomputable def tG:List Nat:=[0,1,2,3,4,5]
theorem BA:ah (fun c=>Ck (TB c) 5 (pc c).sY) tG:=by repeat' first | exact .nil | refine .cons ?_ ?_ | refine ⟨?_,?_⟩ | (intro W h hG; kernel_rfl) | kernel_rfl
theorem jC {c:Nat} (m:c∈tG):aV (pc c).sY:=(BA.at m).ok rfl
noncomputable def TC (c:Nat):bR:=match c with
 | 0=>[⟨_,jC (c:=0) (by decide)⟩]
 | 1=>[⟨_,jC (c:=1) (by decide)⟩]
 | 2=>[⟨_,jC (c:=2) (by decide)⟩]
 | 3=>[⟨_,jC (c:=3) (by decide)⟩]
 | 4=>[⟨_,jC (c:=4) (by decide)⟩]
 | _=>[⟨_,jC (c:=5) (by decide)⟩]
noncomputable def jD:List (Nat×Bool):=[(0,false),(1,true),(2,false),(2,true),(3,true),(4,true),(5,true)]
theorem BB:ah (fun x:Nat×Bool=>Ck (TC x.1) 7 ((pc x.1).sZ x.2)) jD:=by repeat' first | exact .nil | refine .cons ?_ ?_ | refine ⟨?_,?_⟩ | (intro W h hG; kernel_rfl) | kernel_rfl
noncomputable def Mh (c:Nat):Tr:=
 let e (x:Tr):Tr:=.ask ⟨false,.add (.mod (.var 2) 8) (.lit (-5)),true⟩ x x
 let w (x y:Tr):Tr:=.ask ⟨false,.add (.var 6) (.lit 0),true⟩ x (.ask ⟨true,.add (.lit (-128)) (.mul (-1) (.var 6)),true⟩ (.ask ⟨true,.add (.add (.var 6) (.lit (-128))) (.lit 1),true⟩ y y) y)
 match c with
 | 1=>w .leaf .leaf
 | 2=>w (e .leaf) (e .leaf)
 | 5=>w (e .leaf) .leaf
 | _=>.leaf
theorem BC:ah (fun x:Nat×Bool=>fe (TB x.1) ((pc x.1).s6 x.2) 7 (Mh x.1)) jD:=by repeat' first | exact .nil | refine .cons ?_ ?_ | refine ⟨?_,?_⟩ | (intro W h hG; kernel_rfl) | kernel_rfl
theorem Pk {x:Nat×Bool} (m:x∈jD):aV ((pc x.1).sZ x.2):=(BB.at m).ok rfl
theorem Pm {x:Nat×Bool} (m:x∈jD):aV ((pc x.1).s6 x.2):=(BC.at m).ok rfl
theorem Mi:ah (fun w=>Ck [] 3 (Ba w)) [1,4,8]:=by repeat' first | exact .nil | refine .cons ?_ ?_ | refine ⟨?_,?_⟩ | (intro W h hG; kernel_rfl) | kernel_rfl
theorem tH {w:Nat} (m:w∈[1,4,8]):aV (Ba w):=(Mi.at m).ok rfl
theorem Mj:aV Bb:=Ck.ok (T:=[]) (k:=3) (by repeat' first | exact .nil | refine .cons ?_ ?_ | refine ⟨?_,?_⟩ | (intro W h hG; kernel_rfl) | kernel_rfl) rfl
noncomputable def TD:bR:=[⟨Bb,Mj⟩,⟨_,tH (w:=1) (by decide)⟩,⟨_,tH (w:=4) (by decide)⟩,⟨_,tH (w:=8) (by decide)⟩]
theorem BE:ah (fun x:Nat×Bool=>Ck [] 3 (s8 x.1 x.2)) [(0,false),(1,false),(2,false),(0,true),(1,true),(2,true)]:=by repeat' first | exact .nil | refine .cons ?_ ?_ | refine ⟨?_,?_⟩ | (intro W h hG; kernel_rfl) | kernel_rfl
noncomputable def bb:List (Bool×Bool):=[(false,false),(false,true),(true,false),(true,true)]
theorem Mk:ah (fun x:Bool×Bool=>Ck TD 4 (Bg x.1 x.2)) bb:=by repeat' first | exact .nil | refine .cons ?_ ?_ | refine ⟨?_,?_⟩ | (intro W h hG; kernel_rfl) | kernel_rfl
theorem Ml {x:Bool×Bool} (m:x∈bb):aV (Bg x.1 x.2):=(Mk.at m).ok rfl
noncomputable def TE (s z:Bool):bR:=[⟨_,Ml (x:=(s,z)) (by cases s<;>cases z<;>decide)⟩]
noncomputable def tI:List (Bool×Bool×Nat):=[(false,false,0),(false,false,1),(false,true,1),(false,true,2),(false,false,3),(false,true,3),(true,false,0),(true,false,1),(true,true,1),(true,true,2),(true,false,3),(true,true,3)]
theorem BF:ah (fun x:Bool×Bool×Nat=>Ck (TE x.2.1 (Nat.blt x.2.2 3)) 5 (s9 x.1 x.2.1 x.2.2)) tI:=by repeat' first | exact .nil | refine .cons ?_ ?_ | refine ⟨?_,?_⟩ | (intro W h hG; kernel_rfl) | kernel_rfl
theorem Pn {x:Bool×Bool×Nat} (m:x∈tI):aV (s9 x.1 x.2.1 x.2.2):=(BF.at m).ok rfl
theorem Po {x:Nat×Bool} (m:x∈[(0,false),(1,false),(2,false),(0,true),(1,true),(2,true)]):aV (s8 x.1 x.2):=(BE.at m).ok rfl
noncomputable def c5:List (Nat×Nat):=[(0,0),(0,1),(0,2),(1,0),(1,1),(1,2),(2,0),(2,1),(2,2)]
noncomputable def iD (x:Nat×Nat):aN:=⟨0,0,x.1,x.2⟩
theorem BG:ah (fun x=>Ck TA 4 (iD x).te) c5:=by repeat' first | exact .nil | refine .cons ?_ ?_ | refine ⟨?_,?_⟩ | (intro W h hG; kernel_rfl) | kernel_rfl
theorem Pp {x:Nat×Nat} (m:x∈c5):aV (iD x).te:=(BG.at m).ok rfl
noncomputable def tJ:List (Nat×Nat):=[(0,0),(0,1),(0,2),(1,0),(1,1),(1,2),(2,0),(2,1),(2,2),(3,1),(3,2)]
theorem aE:ah (fun x:Nat×Nat=>ah (fun y:Nat×Bool=>Ck TD 9 (cE x.1 x.2 y.1 y.2)) [(5,false),(5,true),(6,false),(6,true)]) tJ:=by repeat' first | exact .nil | refine .cons ?_ ?_ | refine ⟨?_,?_⟩ | (intro W h hG; kernel_rfl) | kernel_rfl
theorem Pq {x:Nat×Nat} (m:x∈tJ) {y:Nat×Bool} (n:y∈[(5,false),(5,true),(6,false),(6,true)]):aV (cE x.1 x.2 y.1 y.2):=((aE.at m).at n).ok rfl
theorem Mm:ah (fun f=>Ck [] 8 (tg f)) [false,true]:=by repeat' first | exact .nil | refine .cons ?_ ?_ | refine ⟨?_,?_⟩ | (intro W h hG; kernel_rfl) | kernel_rfl
theorem Mn {f:Bool}:aV (tg f):=(Mm.at (by cases f<;>decide)).ok rfl
theorem Mo:ah (fun x=>Ck [] 7 (iD x).Bh) [(0,0),(0,1),(1,0),(1,1),(2,0),(2,1)]:=by repeat' first | exact .nil | refine .cons ?_ ?_ | refine ⟨?_,?_⟩ | (intro W h hG; kernel_rfl) | kernel_rfl
theorem Mp {x:Nat×Nat} (m:x∈[(0,0),(0,1),(1,0),(1,1),(2,0),(2,1)]):aV (iD x).Bh:=(Mo.at m).ok rfl
noncomputable def tL:List (Nat×Bool):=[(6,false),(7,false),(8,false),(9,false),(10,false),(11,false),(12,false),(13,false),(6,true),(7,true),(8,true),(10,true),(11,true),(12,true)]
theorem BH:ah (fun x:Nat×Bool=>Ck [] 11 (ti x.1 x.2)) tL:=by repeat' first | exact .nil | refine .cons ?_ ?_ | refine ⟨?_,?_⟩ | (intro W h hG; kernel_rfl) | kernel_rfl
theorem Pu {x:Nat×Bool} (m:x∈tL):aV (ti x.1 x.2):=(BH.at m).ok rfl
theorem BI:ah (fun k=>Ck [] 4 (tE k)) [0,1,2,3,4]:=by repeat' first | exact .nil | refine .cons ?_ ?_ | refine ⟨?_,?_⟩ | (intro W h hG; kernel_rfl) | kernel_rfl
theorem BJ {k:Nat} (m:k∈[0,1,2,3,4]):aV (tE k):=(BI.at m).ok rfl
theorem aW:ah (fun w=>ah (fun l=>Ck [] 2 (cW w l)) [false,true]) [1,4,8]:=by repeat' first | exact .nil | refine .cons ?_ ?_ | refine ⟨?_,?_⟩ | (intro W h hG; kernel_rfl) | kernel_rfl
theorem Mq {w:Nat} (m:w∈[1,4,8]) {l:Bool}:aV (cW w l):=((aW.at m).at (by cases l<;>decide)).ok rfl
noncomputable def fM (n:Nat) (w:Str) (i:Nat):List bN:=⟨n,4,aY,w⟩::match i with
 | 0=>[]
 | 1=>[⟨n + 4,4,bI,dY⟩]
 | _=>[⟨n + 4,4,bI,cn⟩]
noncomputable def wM (w:Str) (i:Nat):pA:=(aY,[(4,w)])::match i with
 | 0=>[]
 | 1=>[(bI,[(4,dY)])]
 | _=>[(bI,[(4,cn)])]
noncomputable def jE:List (Bool×Nat×Nat):=[(true,2,0),(true,3,0),(true,4,0),(true,3,1),(true,4,1),(true,2,2),(true,3,2),(true,4,2),(false,2,0),(false,3,0),(false,4,0),(false,5,0),(false,3,1),(false,4,1),(false,5,1),(false,2,2),(false,3,2),(false,4,2),(false,5,2)]
noncomputable def iE (r:Bool):Str:=cond r du dY
theorem BK:ah (fun x:Bool×Nat×Nat=>Ck [] 3 (tq (fM x.2.1 (iE x.1) x.2.2) (wM (iE x.1) x.2.2))) jE:=by repeat' first | exact .nil | refine .cons ?_ ?_ | refine ⟨?_,?_⟩ | (intro W h hG; kernel_rfl) | kernel_rfl
noncomputable def BL (x:Bool×Nat×Nat):aL:=tq (fM x.2.1 (iE x.1) x.2.2) (wM (iE x.1) x.2.2)
theorem Pw {x:Bool×Nat×Nat} (m:x∈jE):aV (BL x):=(BK.at m).ok rfl
noncomputable def BM (x:Bool×Nat×Nat):aL:=tw (fM x.2.1 (iE x.1) x.2.2)
noncomputable abbrev tM (x:List bN):Prop:=kX TD (tw x) 10 (LX x)
noncomputable abbrev lu (x:Bool×Nat×Nat):Prop:=tM (fM x.2.1 (iE x.1) x.2.2)
theorem Mr:ah lu [(true,2,0),(true,3,0),(true,4,0),(true,3,1)]:=by repeat' first | exact .nil | refine .cons ?_ ?_ | refine ⟨?_,?_⟩ | (intro W h hG; kernel_rfl) | kernel_rfl
theorem Ms:ah lu [(true,4,1),(true,2,2),(true,3,2),(true,4,2)]:=by repeat' first | exact .nil | refine .cons ?_ ?_ | refine ⟨?_,?_⟩ | (intro W h hG; kernel_rfl) | kernel_rfl
theorem Mt:ah lu [(false,2,0),(false,3,0),(false,4,0),(false,5,0)]:=by repeat' first | exact .nil | refine .cons ?_ ?_ | refine ⟨?_,?_⟩ | (intro W h hG; kernel_rfl) | kernel_rfl
theorem Mu:ah lu [(false,3,1),(false,4,1),(false,5,1),(false,2,2)]:=by repeat' first | exact .nil | refine .cons ?_ ?_ | refine ⟨?_,?_⟩ | (intro W h hG; kernel_rfl) | kernel_rfl
theorem Mv:ah lu [(false,3,2),(false,4,2),(false,5,2)]:=by repeat' first | exact .nil | refine .cons ?_ ?_ | refine ⟨?_,?_⟩ | (intro W h hG; kernel_rfl) | kernel_rfl
theorem BN:ah (fun x:Bool×Nat×Nat=>tM (fM x.2.1 (iE x.1) x.2.2)) jE:=Mr.app <| Ms.app <| Mt.app <| Mu.app Mv
theorem Px {x:Bool×Nat×Nat} (m:x∈jE):jh (BM x):=(BN.at m).ok rfl
noncomputable def BO:List (List bN):=[[⟨1,1,aY,du⟩],[⟨1,4,aY,du⟩],[⟨2,4,aY,du⟩],[⟨2,8,bI,cn⟩],[⟨3,4,bI,dY⟩],[⟨1,4,bI,cn⟩],[⟨2,4,bI,cn⟩],[⟨3,4,bI,cn⟩]]
theorem Mw:ah tM BO:=by repeat' first | exact .nil | refine .cons ?_ ?_ | refine ⟨?_,?_⟩ | (intro W h hG; kernel_rfl) | kernel_rfl
noncomputable def fV (n:Nat) (e:SE):Facts:=[.ge [(.var n,1),(e,-1)] 0,.le [(.var n,1),(e,-1)] 0]
noncomputable def pC (n:Nat) (k:Int):Facts:=[.ge [(.var n,1)] k]
noncomputable def dJ (c:Nat):Int:=match c with
 | 0=>0
 | 1=>1
 | 3=>2
 | 4=>3
 | _=>4
noncomputable def cB (j:Nat):Nat:=match j with
 | 1=>2
 | 3=>1
 | _=>0
noncomputable def tN (c j:Nat):SE:=.add (.lit (dJ c)) (.mul 5 (.add (.var 51) (.mul 8 (.add (.var 52) (.mul 8 (.add (.var 4) (.mul 4 (.add (.lit j) (.mul 4 (.var 54))))))))))
noncomputable def Mx:SE:=.tab [0,4,5,12,13,3,8,15] (.var 51)
noncomputable def My:SE:=.tab [1,5,12,7,9,0,13,14] (.var 52)
noncomputable def BQ:Facts:=aI 51 0 7 ++ (aI 52 0 7 ++ (aI 4 0 3 ++ (pC 54 0 ++ (fV 2 Mx ++ fV 3 My))))
noncomputable def pm (c s m:Nat):aN:=⟨c,s,0,m⟩
noncomputable def ll (x:Nat×Nat×Nat):aL:=⟨1230,25,[.int (tN x.1 x.2.1),vr 0,iL (pm 0 0 x.2.2).sz],BQ,.tup [(pm x.1 (cB x.2.1) x.2.2).mem aY,.str (pm x.1 0 0).way],[]⟩
noncomputable def TG:bR:=[⟨_,L4⟩,⟨_,L5⟩]
noncomputable def BR:List (Nat×Nat×Nat):=[(0,0,0),(0,1,0),(0,2,0),(0,3,0),(1,0,0),(1,1,0),(1,2,0),(1,3,0),(3,0,0),(3,1,0),(3,2,0),(3,3,0),(4,0,0),(4,1,0),(4,2,0),(4,3,0),(5,0,0),(5,1,0),(5,2,0),(5,3,0),
 (0,0,1),(0,1,1),(0,2,1),(0,3,1),(1,0,1),(1,1,1),(1,2,1),(1,3,1),(3,0,1),(3,1,1),(3,2,1),(3,3,1),(4,0,1),(4,1,1),(4,2,1),(4,3,1),(5,0,1),(5,1,1),(5,2,1),(5,3,1)]
theorem Mz:ah (fun x=>Ck TG 4 (ll x)) BR:=by repeat' first | exact .nil | refine .cons ?_ ?_ | refine ⟨?_,?_⟩ | (intro W h hG; kernel_rfl) | kernel_rfl
noncomputable def dw (g s:Bool) (way turn:SE):SE:=
 let e:SE:=.add way (.mul 7 (.add (cond s (.add (.lit 4294967296) (.var 0)) (.var 0)) (.mul 4294967296 (.add turn (.mul 20 (.var 48))))))
 cond g (.mul (-1) e) e
noncomputable def tO (s:Bool):Facts:=cond s (aI 0 (-2147483648) (-1)) (aI 0 0 2147483647) ++ pC 48 0
noncomputable def BS (g s:Bool):aL:=⟨1244,30,[.int (dw g s (.var 49) (.var 47))],tO s ++ (aI 49 0 2 ++ (aI 47 0 19 ++ cond g (gL ⟨true,dw false s (.var 49) (.var 47),false⟩ true) [])),hl 62,[⟨1237,20,[vr 49,vr 47,vr 0],hl 62,[]⟩]⟩
noncomputable def MA:SE:=.tab [0,3,8,15,12,5,7,4,10,1] (.var 47)
noncomputable def pD (s:Bool):Facts:=tO s ++ (aI 47 0 9 ++ (fV 1 MA ++ fV 20 (.var 0)))
noncomputable def fj (m:Nat):SE:=.add (.lit m) (.mul 2 (.var 47))
noncomputable def iF (m:Nat):AV:=k8 (k7 (.var 1) (pm 0 0 m).sz)
noncomputable def MB (g s:Bool) (m:Nat):aL:=⟨1244,30,[.int (dw g s (.var 49) (fj m))],pD s ++ aI 49 3 4,.tup [ez aZ [iF m,iB (.var 0) bI],.lst (wants [(bI,match m with | 0=>[(4,dY),(8,cn)] | _=>[(4,cn)])] 0)],[]⟩
noncomputable def MC (g s:Bool) (m:Nat):aL:=⟨1244,30,[.int (dw g s (.lit 5) (fj m))],pD s,.tup [ez aZ (cond g [hl 60,iF m] [iF m,hl 60]),.lst [.tup [.str aY,vr 20,.dicI [(4,hl 61)]]]],[⟨1230,25,[vr 48,vr 0,iL (pm 0 0 m).sz],.tup [hl 60,hl 61],[]⟩]⟩
noncomputable def tP (n:Nat):Facts:=[.ge [(.var n,1),(.div (.var 0) 2,1)] 5,.le [(.var n,1),(.div (.var 0) 2,1)] 5]
noncomputable def MD (g s:Bool) (m:Nat):aL:=⟨1244,30,[.int (dw g s (.lit 6) (fj m))],pD s ++ (tP 5 ++ tP 21),.tup [ez aZ [hl 60,iB (.var 5) bI],.lst [.tup [.str aY,vr 20,.dicI [(4,hl 61)]],.tup [.str bI,vr 21,.dicI [(4,.str (match m with | 0=>dY | _=>cn))]]]],[⟨1230,25,[vr 48,vr 0,iL (pm 0 0 m).sz],.tup [hl 60,hl 61],[]⟩]⟩
theorem ME:ah (fun x:Bool×Bool=>Ck [] 5 (BS x.1 x.2)) bb:=by repeat' first | exact .nil | refine .cons ?_ ?_ | refine ⟨?_,?_⟩ | (intro W h hG; kernel_rfl) | kernel_rfl
theorem MF:ah (fun m=>ah (fun x:Bool×Bool=>Ck TG 5 (MB x.1 x.2 m)) bb) [0,1]:=by repeat' first | exact .nil | refine .cons ?_ ?_ | refine ⟨?_,?_⟩ | (intro W h hG; kernel_rfl) | kernel_rfl
theorem MG:ah (fun m=>ah (fun x:Bool×Bool=>Ck TG 5 (MC x.1 x.2 m)) bb) [0,1]:=by repeat' first | exact .nil | refine .cons ?_ ?_ | refine ⟨?_,?_⟩ | (intro W h hG; kernel_rfl) | kernel_rfl
theorem MH:ah (fun m=>ah (fun x:Bool×Bool=>Ck TG 5 (MD x.1 x.2 m)) bb) [0,1]:=by repeat' first | exact .nil | refine .cons ?_ ?_ | refine ⟨?_,?_⟩ | (intro W h hG; kernel_rfl) | kernel_rfl
structure jF where
 way:Int
 turn:SE
 F:Facts
 name:Str
 w:List (Int×Str)
noncomputable def t5 (i:Int):SE:=.add (.lit i) (.mul 5 (.var 47))
noncomputable def t4 (i:Int):SE:=.add (.lit i) (.mul 4 (.var 47))
noncomputable def lx:List (Int×Str):=[(1,du),(4,du)]
noncomputable def pE:List jF:=[⟨0,t5 0,aI 47 0 3,iy,lx⟩,⟨0,t5 1,aI 47 0 3,ju,lx⟩,⟨0,t5 2,aI 47 0 3,jt,lx⟩,⟨0,t5 3,aI 47 0 3,js,lx⟩,⟨0,t5 4,aI 47 0 3,jv,lx⟩,⟨1,.var 47,aI 47 0 19,kZ,[(4,du)]⟩,
 ⟨2,t4 0,aI 47 0 4,o6,[(1,du)]⟩,⟨2,t4 1,aI 47 0 4,o5,[(1,du)]⟩,⟨2,t4 2,aI 47 0 4,o8,[(1,du)]⟩,⟨2,t4 3,aI 47 0 4,o7,[(1,du)]⟩]
noncomputable def tQ (j:jF):AV:=ez j.name [A1 (.var 0) aY]
noncomputable def cJ (j:jF):aL:=⟨1237,20,[iL j.way,.int j.turn,vr 0],j.F ++ fV 20 (.var 0),.tup [tQ j,.lst (wants [(aY,j.w)] 0)],[]⟩
theorem aJ:ah (fun j=>Ck [] 3 (cJ j)) pE:=by repeat' first | exact .nil | refine .cons ?_ ?_ | refine ⟨?_,?_⟩ | (intro W h hG; kernel_rfl) | kernel_rfl
noncomputable def dN:List Stmt:=rd (ae 135)
noncomputable def c7:Fs:=⟨ku (ae 135),true⟩
noncomputable def ly:Expr:=match dN with
 | _::_::.For t _ _ _ _::_=>t
 | _=>.Constant .none 0 ⟨0,0,0,0⟩
noncomputable def BV:Expr:=match dN with
 | _::_::.For _ i _ _ _::_=>i
 | _=>.Constant .none 0 ⟨0,0,0,0⟩
noncomputable def eM:List Stmt:=match dN with
 | _::_::.For _ _ b _ _::_=>b
 | _=>[]
noncomputable def tA:List Stmt:=eM.take 4
noncomputable def tB:List Stmt:=(eM.drop 4).take 2
noncomputable def tC:List Stmt:=eM.drop 6
noncomputable def eN:Str:=⟨#[105,115,101,116]⟩
noncomputable def iG:Str:=⟨#[99,101,108,108,115]⟩
noncomputable def lz:Str:=⟨#[112,108,97,99,101]⟩
noncomputable def lA:Str:=⟨#[99,101,108,108]⟩
noncomputable def tR:Str:=⟨#[108,105,110,101]⟩
noncomputable def tS:Str:=⟨#[119,97,110,116,101,100]⟩
noncomputable def tT:Str:=⟨#[102,111,117,110,100]⟩
noncomputable def BW:Str:=⟨#[102,114,101,101]⟩
noncomputable def BX:Str:=⟨#[116,117,114,110,115]⟩
theorem ah.hd {α:Type} {P:α→Prop} {a:α} {l:List α} (h:ah P (a::l)):P a:=h.at (.head _)
theorem ah.tl {α:Type} {P:α→Prop} {a:α} {l:List α} (h:ah P (a::l)):ah P l:=by cases h; assumption
noncomputable def dy {α β:Type} {P:α→Prop} (f:α→Bool) (c:(a:α)→P a→β):(l:List α)→ah P l→List β
 | [],_=>[]
 | a::l,h=>cond (f a) [c a h.hd] (dy f c l h.tl)
structure dz where
 line:AV
 wnt:List AV
 encs:List AV
 forms:List AV
 fline:AV
 F:Facts
 T:bR
 Y:kU
noncomputable def pF (b:Int) (t w:Nat):Pr:=⟨1251,15,[iL b,vr t,.int (.div (.var 43) 196)],vr w,[]⟩
noncomputable def dz.pre (q:dz):List Pr:=[⟨1244,30,[vr 40],.tup [q.line,.lst q.wnt],[]⟩,⟨982,40,[hl 73,q.fline],.lst q.forms,[]⟩,pF 8 44 31,pF 32 44 32,pF 64 44 33,pF 32 45 34]
noncomputable def MI:Facts:=pC 43 0 ++ (aI 44 0 13 ++ aI 45 0 13)
noncomputable def dz.G (q:dz):Facts:=q.F ++ MI
noncomputable def jG:aq:=[(eN,hl 73),(iG,hl 74)]
noncomputable def tU:aq:=(lA,vr 40)::(lz,hl 75)::jG
noncomputable def dz.MJ (q:dz):aq:=(tT,.lst q.encs)::(tR,q.line)::(tS,.lst q.wnt)::tU
noncomputable def dz.BY (q:dz):aq:=(BW,vr 43)::(BX,.lst [vr 44,vr 45])::(tT,.lst q.encs)::(tR,q.line)::(tS,.lst q.wnt)::jG
section
variable (q:dz) (W:ab) (h:dK W q.pre) (hG:Sat W.ρ q.G)
noncomputable def BZ:Ev W 60:=EV hG (HK hG (tabs hG q.pre h q.T q.Y) 40 12) 40
noncomputable def MK:Bool:=isOk (iC (sc:=c7) hG (BZ q W h hG) tU tA q.MJ)
noncomputable def ML:Bool:=isOk (iC (sc:=c7) hG (BZ q W h hG) q.BY tC jG)
end
structure pG (q:dz):Prop where
 a:∀ W h hG,MK q W h hG = true
 b:∀ W h hG,ML q W h hG = true
namespace aN
variable (p:aN)
noncomputable def pH:Nat:=match p.knd,p.mode with
 | 2,0=>1
 | 2,_=>2
 | _,_=>0
noncomputable def kE:Nat:=match p.knd,p.mode with
 | 2,0=>3
 | k,_=>k
noncomputable def nE:Nat:=(match p.seg with | 0=>0 | _=>1) + (match p.mode with | 1=>0 | _=>1)
noncomputable def MM:Bool:=Nat.beq p.cls 0
noncomputable def bE:Nat:=match p.cls with
 | 0=>0
 | 3 | 4=>2
 | _=>1
noncomputable def two:Bool:=Nat.beq p.cls 2
noncomputable def len (s:Bool):Nat:=p.nE + cond s 3 2
noncomputable def tV (a b:Nat) (c d:Nat):Bool:=Nat.beq a c && Nat.beq b d
noncomputable def s0:Bool:=!(Nat.beq p.cls 0 || Nat.beq p.cls 2)
noncomputable def pI (nm:Bool) (s:Bool):bR:=dy (fun x:Nat×Nat=>tV x.1 x.2 p.kE p.nE) (fun x h=>dy (fun y:Nat×Bool=>Nat.beq y.1 (cond s 6 5) && dB y.2 nm) (fun y k=>(⟨cE x.1 x.2 y.1 y.2,k.ok rfl⟩:{ c // aV c })) _ h) tJ aE |>.flatten
noncomputable def pJ (nm s:Bool):bR:=dy (fun x:Bool×Bool×Nat=>dB x.1 (Nat.beq p.knd 2) && (dB x.2.1 s && Nat.beq x.2.2 (cond nm p.bE 3))) (fun x k=>(⟨s9 x.1 x.2.1 x.2.2,k.ok rfl⟩:{ c // aV c })) tI BF
noncomputable def tabS (s:Bool):bR:=dy (fun x:Nat×Bool=>Nat.beq x.1 p.cls && dB x.2 s) (fun x k=>(⟨(pc x.1).sZ x.2,k.ok rfl⟩:{ c // aV c })) jD BB ++ dy (fun x:Nat×Bool=>Nat.beq x.1 p.cls && dB x.2 s) (fun x k=>(⟨(pc x.1).s6 x.2,k.ok rfl⟩:{ c // aV c })) jD BC
noncomputable def fld (s:Bool):Bool×Nat×Nat→Bool:=fun x=>dB x.1 p.MM && tV x.2.1 x.2.2 (p.len s) p.pH
noncomputable def B0 (s:Bool):bR:=dy (p.fld s) (fun x k=>(⟨BL x,Ck.ok k rfl⟩:{ c // aV c })) jE BK
noncomputable def B2 (s:Bool):kU:=dy (p.fld s) (fun x k=>(⟨BM x,kX.ok k rfl⟩:{ c // jh c })) jE BN
noncomputable def T:bR:=p.B0 p.s0 ++ (cond p.two (p.B0 true) [] ++ (dy (fun x:Nat×Bool=>Nat.beq x.1 (p.len p.s0 + cond (Nat.beq p.knd 2) 8 4) && dB x.2 p.two) (fun x k=>(⟨ti x.1 x.2,Ck.ok k rfl⟩:{ c // aV c })) tL BH ++ (⟨tg (Nat.blt 0 p.knd),Mn⟩::
 (p.pI true p.s0 ++ (p.pI false p.s0 ++ (cond p.two (p.pI true true ++ p.pI false true) [] ++ (dy (fun k=>Nat.beq k p.knd) (fun k h=>(⟨tE k,Ck.ok h rfl⟩:{ c // aV c })) _ BI ++
 (dy (fun c=>Nat.beq c p.cls) (fun c h=>(⟨(pc c).sY,Ck.ok h rfl⟩:{ c // aV c })) tG BA ++ (p.tabS p.s0 ++ (cond p.two (p.tabS true) [] ++ (dy (fun x=>tV x.1 x.2 p.knd p.mode) (fun x h=>(⟨(iD x).te,Ck.ok h rfl⟩:{ c // aV c })) c5 BG ++
 (dy (fun x:Nat×Bool=>Nat.beq x.1 p.seg && dB x.2 (!Nat.beq p.mode 1)) (fun x h=>(⟨s8 x.1 x.2,Ck.ok h rfl⟩:{ c // aV c })) _ BE ++ (p.pJ true p.s0 ++ (p.pJ false p.s0 ++ (cond p.two (p.pJ true true ++ p.pJ false true) [] ++
 (dy (fun x:Nat×Int=>Nat.beq x.1 p.seg && bg x.2 p.sz) (fun x h=>(⟨cM x.1 x.2,Ck.ok h rfl⟩:{ c // aV c })) _ aM ++ [⟨_,Ma⟩,⟨_,Mb⟩,⟨_,Mc⟩,⟨_,Me⟩,⟨_,L9⟩]))))))))))))))))
noncomputable def pat:dz:=⟨p.line,wants (wM p.way p.pH) 0,p.pf.map p.enc,[p.c0],p.lr,p.facts ++ (fV 20 (.var 0) ++ (match p.knd with | 2=>fV 21 (.var 5) | _=>[])),p.T,p.B2 p.s0 ++ cond p.two (p.B2 true) []⟩
end aN
noncomputable def MN (n:Nat):List SE:=List.replicate n (.lit 0)
structure Op where
 c0:AV
 oct:List SE
 w:Nat
 way:Str
 shape:AV
structure Ln where
 line:AV
 F:Facts
 fs:List Op
 wnt:pA
 plain:AV
 name:Str
 fo:List AV
namespace Op
variable (o:Op)
noncomputable def fl (l:Ln):bN:=⟨o.oct.length,o.w,l.name,o.way⟩
noncomputable def enc (l:Ln):AV:=lh (o.oct ++ MN o.w) [lg o.oct.length o.w l.name (.var 0) o.way] o.c0 o.shape
end Op
namespace Ln
variable (l:Ln)
noncomputable def MO:aL:=⟨982,40,[cu,l.line],l.F,.lst l.fo,[]⟩
noncomputable def tW:aL:=⟨1001,60,[hl 0,l.line],l.F,.lst (l.fs.map fun o=>o.enc l),[⟨982,40,[hl 0,l.line],.lst l.fo,[]⟩]⟩
noncomputable def tY (o:Op):aL:=⟨970,50,[o.c0,l.plain,o.shape],l.F,lh (o.oct ++ lits 5 o.w) [] o.c0 o.shape,[]⟩
noncomputable def tZ (o:Op):aL:=tq [o.fl l] l.wnt
end Ln
noncomputable def fW (n:Str) (op num:Int):Op:=⟨aT n [fg] op 0 (-1) 0 0 false num [ct],[.lit op],1,du,.none⟩
noncomputable def jH (n:Str) (esc op num:Int) (h:List SE):Op:=⟨aT n [iz] op esc (-1) 0 0 false num [ct],h ++ [.lit op],4,du,.none⟩
noncomputable def t6 (j:jF) (fs:List Op):Ln:=⟨tQ j,[],fs,[(aY,j.w)],ez j.name [A1 (.var 5) dZ],aY,fs.map Op.c0⟩
noncomputable def lB:List Ln:=pE.zip [[fW iy 235 16,jH iy 0 233 17 []],[fW ju 117 29,jH ju 1 133 30 [.lit 15]],[fW jt 124 43,jH jt 1 140 44 [.lit 15]],[fW js 118 31,jH js 1 134 32 [.lit 15]],[fW jv 112 19,jH jv 1 128 20 [.lit 15]],[jH kZ 0 232 51 []],
 [fW o6 226 58],[fW o5 227 59],[fW o8 224 56],[fW o7 225 57]] |>.map fun x=>t6 x.1 x.2
noncomputable def lC:SE:=aN.c8 1
noncomputable def B4:AV:=.inst 660 [(ji,iL 3),(bj,.int lC),(jj,iL (-1)),(jk,iL 0),(jl,iL 0),(jm,.int (b8 1))]
noncomputable def B5 (m:Nat):List Op:=match m with
 | 0=>let r:SE:=.add (.lit 72) (b8 1)
  [⟨aT aZ [fU,pb] 199 0 0 64 0 false 14 [bj,cq],[r,.lit 199,.add (.lit 192) lC],4,dY,B4⟩,⟨aT aZ [AY,AU] 184 0 (-1) 64 0 false 15 [jA,cq],[r,.add (.lit 184) lC],8,cn,.none⟩]
 | m=>let r:List SE:=match m with
   | 1=>[]
   | _=>[.add (.lit 64) (b8 1)]
  [⟨aT aZ [AX,jq] 184 0 (-1) 32 0 false 10 [jA,cq],r ++ [.add (.lit 184) lC],4,cn,.none⟩,⟨aT aZ [iA,jq] 199 0 0 32 0 false 13 [bj,cq],r ++ [.lit 199,.add (.lit 192) lC],4,cn,B4⟩]
noncomputable def cw (m:Nat):Ln:=⟨ez aZ [iF m,iB (.var 0) bI],(match m with | 0=>aI 1 0 15 | 1=>aI 1 0 7 | _=>aI 1 8 15),B5 m,[(bI,match m with | 0=>[(4,dY),(8,cn)] | _=>[(4,cn)])],ez aZ [iF m,iB (.var 5) dZ],bI,(B5 m).map Op.c0⟩
theorem B6:ah (fun l=>Ck [] 7 l.MO) (lB ++ [cw 0,cw 1,cw 2]):=by repeat' first | exact .nil | refine .cons ?_ ?_ | refine ⟨?_,?_⟩ | (intro W h hG; kernel_rfl) | kernel_rfl
theorem MP:ah (fun l=>Ck (TA ++ TD) 11 l.tW) (lB ++ [cw 0,cw 1,cw 2]):=by repeat' first | exact .nil | refine .cons ?_ ?_ | refine ⟨?_,?_⟩ | (intro W h hG; kernel_rfl) | kernel_rfl
theorem MQ:ah (fun l=>ah (fun o=>Ck (TA ++ TD) 9 (l.tY o)) l.fs) (lB ++ [cw 0,cw 1,cw 2]):=by repeat' first | exact .nil | refine .cons ?_ ?_ | refine ⟨?_,?_⟩ | (intro W h hG; kernel_rfl) | kernel_rfl
theorem MR:ah (fun l=>ah (fun o=>Ck [] 3 (l.tZ o)) l.fs) (lB ++ [cw 0,cw 1,cw 2]):=by repeat' first | exact .nil | refine .cons ?_ ?_ | refine ⟨?_,?_⟩ | (intro W h hG; kernel_rfl) | kernel_rfl
noncomputable def bN.eq (a b:bN):Bool:=Nat.beq a.at_ b.at_ && (Nat.beq a.w b.w && (sEq a.name b.name && sEq a.way b.way))
noncomputable def MS (f:bN):kU:=dy (fun l:List bN=>match l with | [g]=>f.eq g | _=>false) (fun x k=>(⟨tw x,kX.ok k rfl⟩:{ c // jh c })) BO Mw
noncomputable def t7 {α:Type} {P:α→Prop} (c:(a:α)→P a→{ c // aV c }):(l:List α)→ah P l→bR
 | [],_=>[]
 | a::l,h=>c a h.hd::t7 c l h.tl
structure t8 (l:Ln):Prop where
 en:Ck (TA ++ TD) 11 l.tW
 pn:ah (fun o=>Ck (TA ++ TD) 9 (l.tY o)) l.fs
 fi:ah (fun o=>Ck [] 3 (l.tZ o)) l.fs
noncomputable def lD:List Ln:=lB ++ [cw 0,cw 1,cw 2]
theorem ah.MT {α:Type} {P Q R S:α→Prop} (f:∀ a,P a→Q a→R a→S a) {l:List α} (h:ah P l) (k:ah Q l) (m:ah R l):ah S l:=by
 induction h with
 | nil=>exact .nil
 | cons h _ ih=>exact .cons (f _ h k.hd m.hd) (ih k.tl m.tl)
theorem B7:ah t8 lD:=.MT (fun _ a b c=>⟨a,b,c⟩) MP MQ MR
noncomputable def Ln.pat (l:Ln) (h:t8 l):dz:=⟨l.line,wants l.wnt 0,l.fs.map fun o=>o.enc l,l.fo,l.line,l.F ++ fV 20 (.var 0),
 t7 (fun o k=>⟨l.tZ o,Ck.ok k rfl⟩) l.fs h.fi ++ (⟨l.tW,h.en.ok rfl⟩::(t7 (fun o k=>⟨l.tY o,Ck.ok k rfl⟩) l.fs h.pn ++ [⟨_,BJ (k:=3) (by decide)⟩,⟨_,BJ (k:=4) (by decide)⟩])),l.fs.flatMap fun o=>MS (o.fl l)⟩
noncomputable def MU (l:Ln):Prop:=∀ h:t8 l,pG (l.pat h)
theorem B8:ah MU lD:=by
 repeat' first | exact .nil | refine .cons ?_ ?_ | (intro h; refine ⟨fun W h' hG=>?_,fun W h' hG=>?_⟩<;>kernel_rfl)
noncomputable def cC:List (Nat×Nat):=[(0,0),(0,1),(0,2)]
noncomputable def cD:List (Nat×Nat):=[(1,0),(1,1),(1,2)]
noncomputable def jI:List (Nat×Nat):=[(2,0),(2,1)]
noncomputable def eA:List (Nat×Nat):=[(2,0),(2,1),(2,2)]
noncomputable def iH:List (Nat×Nat):=[(0,0),(0,1),(0,2),(1,0),(1,1),(1,2),(2,0),(2,1)]
noncomputable abbrev aD (c s:Nat) (x:Nat×Nat):Prop:=pG (aN.pat ⟨c,s,x.1,x.2⟩)
end Mine
end
section
set_option backward.match.sparseCases false
open PySem PySem.W PyProof.Rows PySem.Calls
set_option maxRecDepth 100000
namespace Mine
abbrev RW:OpenLaw:=PySem.Challenge.rw_nn0086_01
theorem B9 (P:Params):(KH P).nsMap mainGlobals (Str.ofString "law") = some (.ref 1294):=by kernel_rfl
noncomputable def MV:Stmt:=ae 135
noncomputable def t9:Option (Arguments×List Stmt×Scope):=match MV with
 | .FunctionDef _ args body _ _ _ scope _ _ _=>some (args,body,scope)
 | _=>none
theorem MW:pw.theDef (Str.ofString "law") = t9:=by kernel_rfl
theorem MX:(t9.map fun x=>(x.1.defaults.length,kwWritten? x.1.kwonlyargs x.1.kw_defaults)) = some (0,some []):=by kernel_rfl
theorem MY (P:Params):(aP (br P) 1294).bind (fun o=>match o.data with | .func fd=>some (o.cls,o.dict,fd.name,fd.qualname,fd.globals,fd.closure,fd.builtins,fd.defaults,fd.kwdefaults,fd.code,some (fd.params,fd.body,fd.scope)) | _=>none) =
  some (.type "function",none,Str.ofString "law",Str.ofString "law",mainNs,[],builtinsNs,.none,.none,.ref 1293,t9.map fun x=>(x.1,.stmts x.2.1,x.2.2)):=by kernel_rfl
noncomputable def Good (w:World) (os:OsState) (h:Heap):Prop:=
 ∀ (s₁:Shared) (a:Addr) (vs:Array Value) (xs:List Int) (as:List Addr) (cl:Str→Option Addr),(∀ b o,h.get? b = some o→s₁.heap.get? b = some o)→s₁.heap.get? a = some { cls:=.type "list",data:=.seq vs }→ReadsAllW [] cl s₁.heap vs.toList (xs.map .int) as→xs.length≤63→
  s₁.gens = #[]→wpAny (model pw w) callerA (PySem.call (.ref 1294) [.ref a]) (fun v s'=>v = .bool true∧OldK s₁.heap s'.heap∧s'.os = s₁.os∧AllBare s'.gens) (fun _ _=>False) s₁
set_option tactic.hygienic true in
theorem Behind.MZ {w:World} {os:OsState} {h:Heap} (B:Behind w os h):isTheDefsW pw h (Str.ofString "law"):=by
 have e3:=B.same (a:=3) (by simp)
 have hg:h.isNs mainGlobals = true:=(eC e3).trans (mF _)
 have ho:=MY w.params
 obtain ⟨o,ho,hv⟩:=Option.bind_eq_some_iff.mp ho
 cases hd:o.data<;>rw [hd] at hv<;>try (cases hv; done)
 rename_i fd
 simp only [Option.some.injEq,Prod.mk.injEq] at hv
 obtain ⟨-,-,h1,h2,h3,h4,h5,h6,h7,h8,h9⟩:=hv
 obtain ⟨⟨args,body,sc⟩,hp,hx⟩:=Option.map_eq_some_iff.mp MX
 rw [hp] at h9
 simp only [Option.map_some,Option.some.injEq,Prod.mk.injEq] at h9 hx
 obtain ⟨q1,q2,q3⟩:=h9
 obtain ⟨x1,x2⟩:=hx
 refine ⟨1294,o,fd,args,body,sc,(Pin.globalOf_eq hg _).trans ((congrFun (gi e3) _).trans (B9 _)),B.fact _ _ ho,hd,MW.trans hp,h1,h2,q1,q2,q3,h3,h4,h5,.inl ⟨List.eq_nil_of_length_eq_zero x1,h6⟩,[],x2,.inl ⟨rfl,h7⟩⟩
theorem M0:pw.bare:=⟨rfl,rfl,rfl,rfl,rfl,by decide +kernel⟩
theorem M1:(opensWell pw && (frees RW.row.toRowW && RW.row.within.isEmpty)) = true:=by decide +kernel
theorem Ca:∀ {l:List WData},WShape.hasItems [] l .int = true→∃ xs:List Int,l = xs.map .int
 | [],_=>⟨[],rfl⟩
 | d::r,h=>by
  simp only [WShape.hasItems,Bool.and_eq_true] at h
  obtain ⟨xs,rfl⟩:=Ca h.2
  obtain ⟨i,rfl⟩:=hasW_int h.1
  exact ⟨i::xs,rfl⟩
theorem pre_of {args:List WData} (h:RW.row.toRowW.claim.pre args = true):∃ xs:List Int,args = [.list (xs.map .int)]∧xs.length≤63:=by
 obtain ⟨h1,h2⟩:=pre_splitW h
 obtain ⟨d,r,rfl,hd,hr⟩:=hasAllW_cons h1
 have hr':r = []:=by cases r with
  | nil=>rfl
  | cons _ _=>simp [WShape.hasAll] at hr
 subst hr'
 obtain ⟨l,rfl,hl⟩:=hasW_list hd
 obtain ⟨xs,rfl⟩:=Ca hl
 refine ⟨xs,rfl,?_⟩
 change WTm.holds [] (.and (.not (.lt (.lit (.int (63:Nat))) (.len (.arg 0)))) (.lit (.bool true))) { args:=[.list (xs.map .int)] } = true at h2
 have h3:=(holds_andW h2).1
 simp only [WTm.holds,WTm.value,less?,List.getElem?_cons_zero,List.length_map,Option.map_some] at h3
 by_cases q:(63:Int) < (xs.length:Int)
 ·exfalso; revert h3; simp [Num.less?,q]
 ·omega
theorem M3 (xs:List Int):RW.row.toRowW.claim.post [.list (xs.map .int)] (.bool true) [.list (xs.map .int)] = true:=by
 show (WShape.has [] (.bool true) .bool && WTm.holds [] (.eq .res (.lit (.bool true))) _) = true
 simp [WTm.holds,WTm.value,same,WShape.has,WShape.arms]
theorem M4 (H:∀ w os h,Behind w os h→Good w os h) (hw:RW.row.toRowW.promised) (k1:RW.row.wellSaid = true):RW.row.Holds:=by
 refine ⟨k1,hw,?_⟩
 refine af fun nG=>?_
 obtain ⟨ok1,k5⟩:=Bool.and_eq_true_iff.mp M1
 obtain ⟨k5,k6⟩:=Bool.and_eq_true_iff.mp k5
 obtain ⟨hsame,hu,ha,hap,hm⟩:=frees_parts k5
 refine nG ?_
 refine ⟨⟨M0,ok1,by rfl⟩,hw.witness,fun w=>⟨(wJ w).1,fun s' hs'=>?_⟩⟩
 refine af fun nG=>?_
 obtain ⟨os,h,hf,B,T,z⟩:=(wJ w).2 s' hs'
 refine nG ?_
 have hg:h.isNs mainGlobals = true:=(eC (B.same (a:=3) (by simp))).trans (mF _)
 refine ⟨_,hf,rfl,cH h 1929 os,T,?_,(fun x hx=>nomatch hx),(fun x hx=>nomatch hx),?_⟩
 ·intro n hn
  refine af fun nG=>?_
  obtain rfl:n = Str.ofString "law":=by
   have:n∈[Str.ofString "law"]:=hn
   simpa using this
  refine nG ?_
  exact B.MZ
 refine ClaimW.callFrom_of_specG (c:=RW.row.toRowW.claim) (tree:=fun vs=>do match ← nsGet mainNs (Str.ofString "law") with
   | some f=>do ret (← PySem.call f vs)
   | none=>unsupported "claim.caller:no-such-global") z rfl fun args hpre hlay ord hord=>?_
 refine af fun nG=>?_
 obtain ⟨⟨vs,s₁⟩,hlaid⟩:=Option.isSome_iff_exists.mp (layAllW_isSome (R:=[]) (cl:=classAt h) (P:=w.params) (ord:=ord) (fun c hc=>by simp [WRecords.fields?] at hc) args RW.row.args (cH h 1929 os) (pre_splitW hpre).1)
 have keeps:=layAllW_keeps _ _ _ hlaid
 have hal:=layAllW_rest _ _ _ hlaid
 obtain ⟨as,hrd,hin,hold⟩:=reads_layAllW hord _ _ _ hlaid hlay s₁.heap (fun _ _ e=>e)
 have L:Laid [] w (cH h 1929 os) s₁ args vs as:=⟨⟨ord,hord,hlaid⟩,hrd,hin,hold,keeps,hal.1,hal.2.2.1⟩
 obtain ⟨xs,rfl,hlen⟩:=pre_of hpre
 obtain ⟨v,vs',as1,as2,rfl,rfl,r1,r2⟩:=readsAllW_cons_inv hrd
 obtain ⟨rfl,rfl⟩:=readsAllW_nil_inv r2
 obtain ⟨a,arr,as',rfl,hl,ri,rfl⟩:=readsW_list_inv r1
 refine nG ?_
 have hex:s₁.heap.get? a = some { cls:=.type "list",data:=.seq arr }:=by
  obtain ⟨a',q',l1,l2,l3⟩:=layAllW_cons hlaid
  obtain ⟨q,l4,rfl⟩:=layW_list l1
  obtain rfl:q' = ([],_):=(Option.some.inj l2).symm
  obtain ⟨e1,rfl⟩:=Prod.mk.inj l3
  obtain rfl:a = q.2.heap.objs.size:=by
   have:=(List.cons.inj e1).1
   exact Value.ref.inj this
  have hg:=Heap.get?_push_size q.2.heap (o:={ cls:=.type "list",data:=.seq q.1.toArray }) rfl
  obtain ⟨o,e,_,n,d⟩:=hl
  have e:(q.2.heap.push { cls:=.type "list",data:=.seq q.1.toArray }).get? q.2.heap.objs.size = some o:=e
  rw [hg] at e; cases e
  cases d
  exact hg
 have hi:=ident_freeW hu ha hap
 have hwi:RW.row.toRowW.claim.within = []:=List.isEmpty_iff.mp k6
 have G1:s₁.heap.Ns mainGlobals (s₁.heap.nsMap mainGlobals):=by
  have n1:h.Ns mainGlobals (h.nsMap mainGlobals):=.of_isNs hg
  obtain ⟨o,es,ep,ho,hd,hk,hmm⟩:=n1
  refine .of_isNs ?_
  rw [← hg]
  exact eC ((keeps _ _ ho).trans ho.symm)
 have hlawv:s₁.heap.nsMap mainGlobals (Str.ofString "law") = some (.ref 1294):=by
  obtain ⟨o,es,ep,ho,hd,hk,hmm⟩:=(.of_isNs hg:h.Ns mainGlobals (h.nsMap mainGlobals))
  have e1:s₁.heap.get? mainGlobals = h.get? mainGlobals:=(keeps _ _ ho).trans ho.symm
  exact (congrFun (gi e1) _).trans ((congrFun (gi (B.same (a:=3) (by simp))) _).trans (B9 _))
 have z:=H w os h B s₁ a arr xs as' (classAt h) keeps hex ri hlen hal.1
 refine ⟨_,s₁,hlaid,?_⟩
 refine wpAny_bind (wpAny_nsGet G1 ?_)
 rw [hlawv]
 refine wpAny_bind (wpAny_mono z (fun v s' g=>wpAny_pure ?_) fun e s' g=>g.elim)
 refine af fun nG=>?_
 obtain ⟨rfl,g1,g2,g3⟩:=g
 refine nG ?_
 have gw:GoodWG RW.row.toRowW.claim (classAt h) (ExcName.means h) [.list (xs.map .int)] s₁ (.ok (.ret (.bool true))) s':=
  ⟨.inl ⟨.bool true,.bool true,[],rfl,fun _=>rfl,.bool true,M3 xs,fun _=>⟨.nil,fun _ h=>nomatch h⟩⟩,g1,g2,g3⟩
 have zz:=gw.laid (c:=RW.row.toRowW.claim) hsame hwi hi L
 exact ⟨_,rfl,zz.1,zz.2.1,zz.2.2,fun q=>nomatch q⟩
end Mine
end
section
set_option backward.match.sparseCases false
open PySem PySem.W PyProof.Rows PySem.Calls
set_option maxRecDepth 100000
set_option maxHeartbeats 4000000
namespace Mine
noncomputable def gP (m:Nat):AV:=.lst ((vars 60 m).map .int)
noncomputable def fX (m:Nat):aq:=[(iG,gP m),(eN,cu)]
noncomputable def eB (m i:Nat):Nat:=match i with
 | 0=>59 + m
 | i=>59 + i
noncomputable def fY (p:Nat):SE:=.add (.abs (.var p)) (.mul 3 (.abs (.var 40)))
noncomputable def Cb:aq:=[(tT,hl 70),(tR,hl 71),(tS,hl 72),(eN,hl 73)]
noncomputable def Cc (m i:Nat):aq:=(iG,gP m)::(lz,iL i)::(lA,vr 40)::Cb
noncomputable def M5 (m i:Nat):aq:=(BW,.int (fY (eB m i)))::(BX,.lst [.int (.mod (fY (eB m i)) 14),.int (.mod (.add (.div (fY (eB m i)) 14) (.lit i)) 14)])::(iG,gP m)::Cb
theorem iI {ρ:Nat→Int}:Sat ρ []:=gd
noncomputable def iJ (W:ab):Ev W 60:=EV (W:=W) iI (HK iI KA 40 12) 40
noncomputable def Cd (W:ab) (x:Nat×Nat):Bool:=isOk (iC (W:=W) (sc:=c7) iI (iJ W) (Cc x.1 x.2) tB (M5 x.1 x.2))
noncomputable def ub:List (Nat×Nat):=[(1,0),(2,0),(2,1),(3,0),(3,1),(3,2),(4,0),(4,1),(4,2),(4,3),(5,0),(5,1),(5,2),(5,3),(5,4),(6,0),(6,1),(6,2),(6,3),(6,4),(6,5)]
noncomputable def fZ:Str:=⟨#[115,99,114,105,112,116]⟩
noncomputable def lE (n:Nat):AV:=.lst ((vars 100 n).map .int)
noncomputable def pK (n:Nat):List SE:=vars 100 (min n 5) ++ [.lit (n * 7919 + 6)]
noncomputable def uc (W:ab) (n:Nat):Bool:=isOk (iC (W:=W) (sc:=c7) iI (iJ W) [(eN,hl 73),(fZ,lE n)] ((dN.drop 1).take 1) [(iG,.lst ((pK n).map .int)),(eN,hl 73)])
section
variable {W W':ab} {g:GH} {ad ad':List Addr}
theorem Ce:∀ {es es':List SE} {vs:List Value},vals W.ρ es = vals W'.ρ es'→ai W ⟨g,ad⟩ vs (es.map .int)→ai W' ⟨g,ad'⟩ vs (es'.map .int)
 | [],[],_,_,r=>r
 | e::es,e'::es',_,h,r=>by
  obtain ⟨h1,h2⟩:=List.cons.inj h
  obtain ⟨a,r⟩:=r
  exact .mk (show bL (e'.val W'.ρ) _ from h1▸a) (Ce h2 r)
 | [],_::_,_,h,_ | _::_,[],_,h,_=>(by cases h)
theorem gQ {es es':List SE} {v:Value} (h:vals W.ρ es = vals W'.ρ es') (r:Rel W ⟨g,ad⟩ v (.lst (es.map .int))):Rel W' ⟨g,ad'⟩ v (.lst (es'.map .int)):=by
 obtain ⟨a,r⟩:=r
 exact .mk a (Ce h r)
theorem Cf {ρ ρ':Nat→Int}:∀ {m k:Nat},(∀ n,k≤n→ρ n = ρ' n)→vals ρ (vars k m) = vals ρ' (vars k m)
 | 0,_,_=>rfl
 | m + 1,k,h=>by show ρ k::vals ρ (vars (k + 1) m) = ρ' k::_; rw [h k (Nat.le_refl _),Cf fun n l=>h n (by lia)]
end
theorem lF:nl cu = true:=by kernel_rfl
theorem Rel.ad {W:ab} {g:GH} {ad ad':List Addr} {v:Value} {a:AV} (h:nl a = true) (r:Rel W ⟨g,ad⟩ v a):Rel W ⟨g,ad'⟩ v a:=dS (fun _ _ e=>e) h r
structure Fits (W:ab) (m i:Nat) (q:dz) (ρ:Nat→Int) (ζ:Hz):Prop where
 ck:pG q
 nl:bc [.lst q.encs,q.line,.lst q.wnt] = true
 pl:∀ (W:ab) V v,Rel W V v q.line→handedIn v = true
 hi:∀ n,60≤n→ρ n = W.ρ n
 x:ρ 40 = W.ρ (60 + i)
 fr:(fY (eB m i)).val ρ = ρ 43
 t1:(fY (eB m i)).val ρ % 14 = ρ 44
 t2:((fY (eB m i)).val ρ / 14 + i) % 14 = ρ 45
 z3:(ζ 73).1 = cu
 z4:(ζ 74).1 = gP m
 z5:(ζ 75).1 = iL i
 G:Sat ρ q.G
 pre:dK (W.re (fun n=>.lit (ρ n)) ζ) q.pre
theorem M6 {a b c:AV} (h:bc [a,b,c] = true):Mine.nl a = true∧Mine.nl b = true∧Mine.nl c = true:=⟨(both h).1,(both (both h).2).1,(both (both (both h).2).2).1⟩
theorem M7:eM = tA ++ (tB ++ (tC ++ [])):=by
 rw [List.append_nil]
 exact ((List.take_append_drop 4 eM).symm.trans (congrArg (tA ++ ·) (List.take_append_drop 2 (eM.drop 4)).symm)).trans (by rw [List.drop_drop]; rfl)
theorem turn {W:ab} {m i:Nat} (hm:(m,i)∈ub) (hB:∀ W,Cd W (m,i) = true) {q:dz} {ρ:Nat→Int} {ζ:Hz} (a:Fits W m i q ρ ζ) (c:aj W 60 c7) (hc:c.ad = []):aB c ((lA,vr (60 + i))::(lz,iL i)::fX m) [] (execs eM c.env) (.next (fX m) []):=by
 refine af fun nG=>?_
 obtain ⟨n1,n2,n3⟩:=M6 a.nl
 refine nG ?_
 have vv:vals W.ρ (vars 60 m) = vals ρ (vars 60 m):=Cf fun n l=>(a.hi n l).symm
 let WA:=W.re (fun n=>.lit (ρ n)) ζ
 have z4:∀ {V:Vw} {v},Rel WA V v (hl 74)→Rel W ⟨V.g,[]⟩ v (gP m):=fun r=>a.z4▸r
 have z4':∀ {V:Vw} {v},Rel W ⟨V.g,[]⟩ v (gP m)→Rel WA V v (hl 74):=fun r=>by show Rel W _ _ (ζ 74).1; rw [a.z4]; exact r
 let ζB:Hz:=fun n=>match n with
  | 70=>⟨.lst q.encs,fun _ _ _ ⟨_,_⟩=>rfl⟩
  | 71=>⟨q.line,a.pl⟩
  | 72=>⟨.lst q.wnt,fun _ _ _ ⟨_,_⟩=>rfl⟩
  | n=>ir n
 let WB:=WA.re .var ζB
 rw [M7]
 refine aB.on (X:=WA.vals) (σ':=tU) (τ':=jG) ?_ (.cons rfl (fun V v r=>(a.x▸r:bL (ρ 40) v)) (.cons rfl (fun V v r=>?_) (.cons rfl (fun V v r=>?_) (.cons rfl (fun V v r=>z4' (gQ rfl r)) .nil)))) (.cons rfl (fun V v r=>gQ rfl (z4 r)) (.cons rfl (fun V v r=>?_) .nil))
 ·refine gM (a.ck.a WA a.pre a.G) (c.on WA.vals) hc _ _ ?_
  refine aB.on (X:=WB.vals) (σ':=Cc m i) (τ':=jG) ?_ (.cons rfl (fun V v r=>gQ (W:=W) vv (z4 r)) (.cons rfl (fun V v r=>?_) (.cons rfl (fun V v r=>r) (.cons rfl (fun V v r=>(Rel.ad n1 r:Rel WA ⟨V.g,[]⟩ v (.lst q.encs))) (.cons rfl (fun V v r=>(Rel.ad n2 r:Rel WA ⟨V.g,[]⟩ v q.line)) (.cons rfl (fun V v r=>(Rel.ad n3 r:Rel WA ⟨V.g,[]⟩ v (.lst q.wnt))) (.cons rfl (fun V v r=>r) .nil))))))) (.cons rfl (fun V v r=>r) (.cons rfl (fun V v r=>r) .nil))
  ·refine gM (hB WB) ((c.on WA.vals).on WB.vals) hc _ _ ?_
   refine aB.on (X:=WA.vals) (σ':=q.BY) (τ':=jG) ?_ (.cons rfl (fun V v r=>(a.fr▸r:bL (ρ 43) v)) (.cons rfl (fun V v r=>?_) (.cons rfl (fun V v r=>Rel.ad (W:=WA) (g:=V.g) (ad:=[]) (a:=.lst q.encs) n1 r) (.cons rfl (fun V v r=>Rel.ad (W:=WA) (g:=V.g) (ad:=[]) (a:=q.line) n2 r) (.cons rfl (fun V v r=>Rel.ad (W:=WA) (g:=V.g) (ad:=[]) (a:=.lst q.wnt) n3 r) (.cons rfl (fun V v r=>r) (.cons rfl (fun V v r=>z4' (gQ vv.symm r)) .nil))))))) (.cons rfl (fun V v r=>r) (.cons rfl (fun V v r=>r) .nil))
   ·exact gM (a.ck.b WA a.pre a.G) (((c.on WA.vals).on WB.vals).on WA.vals) hc [] _ .nil
   ·exact gQ (W:=WB) (W':=WA) (es:=[.mod (fY (eB m i)) 14,.mod (.add (.div (fY (eB m i)) 14) (.lit i)) 14]) (es':=[.var 44,.var 45]) (by show [_,_] = [_,_]; rw [show (SE.var 44).val WA.ρ = _ from a.t1.symm,show (SE.var 45).val WA.ρ = _ from a.t2.symm]; rfl) r
  ·have r:Rel W ⟨V.g,[]⟩ v (ζ 75).1:=r
   rw [a.z5] at r; exact r
 ·show Rel W _ _ (ζ 75).1; rw [a.z5]; exact r
 ·show Rel W _ _ (ζ 73).1; rw [a.z3]; exact Rel.ad lF r
 ·have r:Rel W ⟨V.g,[]⟩ v (ζ 73).1:=r
  rw [a.z3] at r; exact Rel.ad lF r
section
theorem M8 {W:ab} {d:Nat} {sc:Fs} {c:aj W d sc} {σ:aq} {ad:List Addr} {h:Heap} (S:SV c σ ⟨[],ad,h⟩):c.ad = []:=by
 have e:ad = []:=oV S.owns
 have p:=S.pre
 cases q:c.ad with
 | nil=>rfl
 | cons x l=>have:=p 0 x (by rw [q]; rfl); rw [show (⟨[],ad,h⟩:Pt).ad = [] from e] at this; exact ar this
theorem aB.Cg {W:ab} {d:Nat} {sc:Fs} {c:aj W d sc} {σ σ':aq} {X:Vals} {t:Sem Flow} {b:Bool} (k:aB (c.on X) σ' [] t (.ret (.bool b) [])) (i:Sg W (W.on X) σ σ'):aB c σ [] t (.ret (.bool b) []):=fun s ad Q E S T=>
 k s ad Q E (S.on i) fun v h' tk ad' S' r=>T v h' tk ad' (SV.on (W:=W.on X) (c:=c.on X) (X:=W.vals) S' .nil) r
noncomputable def pL {α:Type} {P:α→Prop} (o:Out P):Option α:=match o with
 | .ok a _=>some a
 | _=>none
theorem ud {α:Type} {P:α→Prop} {o:Out P} {a:α} (h:pL o = some a):P a:=by
 cases o with
 | ok b q=>cases h; exact q
 | ask=>exact ar h
 | no=>exact ar h
variable {W:ab}
theorem M9 (a b x y:AV):(nA c7 ly (.tup [a,b]) [(iG,x),(eN,y)]).map (·.1) = some [(lA,b),(lz,a),(iG,x),(eN,y)]:=by kernel_rfl
noncomputable abbrev pM (W:ab) (m:Nat):Prop:=∀ i,i < m→∀ c:aj W 60 c7,c.ad = []→aB c ((lA,vr (60 + i))::(lz,iL i)::fX m) [] (execs eM c.env) (.next (fX m) [])
theorem Ci {m:Nat} (T:pM W m) (c:aj W 60 c7):∀ k i,i + k = m→cL c ly (fun it=>.forLoop ly it eM [] c.env) (fX m) [] (i9 i ((vars (60 + i) k).map .int)) (.next (fX m) [])
 | 0,_,_=>.nil rh
 | k + 1,i,h=>by
  refine af fun nG=>?_
  obtain ⟨r,-,e⟩:=Option.map_eq_some_iff.mp (M9 (iL i) (vr (60 + i)) (gP m) cu)
  refine nG ?_
  exact .cons rh (e▸r.2) (fun g X a G o l _ s ad Q E S T'=>T i (by omega) (c.at g X a G o l) (M8 S) s ad Q E S T') (Ci T c k (i + 1) (by omega))
noncomputable def ue:Stmt:=(dN.drop 2).headD default
noncomputable def Na (v:Ev W 60) (σ:aq) (t it:Expr) (b:List Stmt) (pos:Pos):Out fun l:List AV=>∀ (c:aj W 60 c7) f,cL c t (fun it=>.forLoop t it b [] c.env) σ [] (i9 0 l) f→aB c σ [] (exec (.For t it b [] pos) c.env) f:=match t,it with
 | .Tuple ts k tp,.Call (.Name f fp) xs [] cp=>au (noStar xs) 1 fun ha=>bd (eName (W:=W) c7 σ [] f fp) fun fv hf=>(match fv,hf with
  | .blt 12,hf=>bd (fa v c7 σ true cp xs []) fun vs hl=>(match vs,hl with
   | ([.lst l],[]),hl=>.ok l fun c fl L=>.yF (ip ha) (hf c) (hl c) (yE rfl) L
   | _,_=>.no 2)
  | _,_=>.no 3)
 | _,_=>.no 4
theorem Nb (W:ab) (m:Nat) (pos:Pos):pL (Na (iJ W) (fX m) ly BV eM pos) = some ((vars 60 m).map .int):=by kernel_rfl
theorem Nc (W:ab) (m:Nat):pL (gG (iJ W) c7 (dN.drop 3) (fX m) []) = some (.ret (.bool true) []):=by kernel_rfl
theorem Nd:∃ pos,ue = .For ly BV eM [] pos:=⟨(match ue with | .For _ _ _ _ p=>p | _=>⟨0,0,0,0⟩),by kernel_rfl⟩
theorem Nf:dN = dN.take 1 ++ ((dN.drop 1).take 1 ++ (ue::dN.drop 3)):=by kernel_rfl
theorem Ng {n m:Nat} (hn:n < 64) (hS:∀ W,(List.range 64).all (uc W) = true) (hI:∀ W:ab,isOk (iC (W:=W) (sc:=c7) iI (iJ W) [(fZ,hl 76)] (dN.take 1) [(eN,cu),(fZ,hl 76)]) = true) (h76:∀ (V:Vw) v,Rel W V v (hl 76)→Rel W V v (lE n)) (he:vals W.ρ (pK n) = vals W.ρ (vars 60 m)) (T:pM W m) (c:aj W 60 c7) (hc:c.ad = []):aB c [(fZ,hl 76)] [] (execs dN c.env) (.ret (.bool true) []):=by
 obtain ⟨pos,hf⟩:=Nd
 rw [Nf]
 refine gM (hI W) c hc _ _ ?_
 let ζ:Hz:=fun n=>match n with
  | 73=>⟨cu,fun _ _ _ ⟨_,_,_⟩=>rfl⟩
  | n=>ir n
 refine aB.Cg (X:=(W.re .var ζ).vals) (σ':=[(eN,hl 73),(fZ,lE n)]) ?_ (.cons rfl (fun V v r=>(Rel.ad lF r:Rel W ⟨V.g,[]⟩ v cu)) (.cons rfl (fun V v r=>gQ (W:=W) (W':=W.re .var ζ) rfl (h76 V v r)) .nil))
 refine gM (List.all_eq_true.mp (hS (W.re .var ζ)) n (List.mem_range.mpr hn)) (c.on (W.re .var ζ).vals) hc _ _ ?_
 refine aB.Cg (c:=c.on (W.re .var ζ).vals) (X:=W.vals) (σ':=fX m) ?_ (.cons rfl (fun V v r=>gQ (W:=W.re .var ζ) (W':=W) he r) (.cons rfl (fun V v r=>(Rel.ad (W:=W) (g:=V.g) (ad:=[]) lF r)) .nil))
 exact .seq (hf▸ud (Nb W m pos) c _ (Ci T c m 0 (Nat.zero_add _))) (ud (Nc W m) c)
end
noncomputable def Nh:FE:=⟨1294,ae 135,none,[],[1]⟩
theorem Ni:FT[FT.length - 1]? = some Nh:=by kernel_rfl
theorem uf {ρ:Nat→Int}:∀ {l:List Int} {k:Nat},(∀ j,j < l.length→ρ (k + j) = l.getD j 0)→vals ρ (vars k l.length) = l
 | [],_,_=>rfl
 | x::l,k,h=>by
  show ρ k::vals ρ (vars (k + 1) l.length) = _
  rw [show ρ k = x from h 0 (Nat.zero_lt_succ _),uf fun j q=>(by rw [Nat.add_right_comm]; exact h (j + 1) (Nat.succ_lt_succ q))]
theorem Cj {W:ab} {V:Vw} {hp:Heap} {cl:Str→Option Addr}:∀ {xs:List Int} {vs:List Value} {as:List Addr} {k:Nat},ReadsAllW [] cl hp vs (xs.map .int) as→(∀ j,j < xs.length→W.ρ (k + j) = xs.getD j 0)→ai W V vs ((vars k xs.length).map .int)
 | [],_,_,_,r,_=>(readsAllW_nil_inv r).1
 | x::xs,_,_,k,r,h=>by
  obtain ⟨v,vs',as1,as2,rfl,_,r1,r2⟩:=readsAllW_cons_inv r
  cases r1 with
  | int i t=>exact .mk (show bL (W.ρ k) _ by rw [show W.ρ k = x from h 0 (Nat.zero_lt_succ _)]; exact .mk t) (Cj r2 fun j q=>by rw [Nat.add_right_comm]; exact h (j + 1) (Nat.succ_lt_succ q))
noncomputable def lG (xs:List Int):List Int:=xs.take 5 ++ [(xs.length:Int) * 7919 + 6]
noncomputable def fk (xs:List Int) (k:Nat):Int:=cond (Nat.ble 100 k) (xs.getD (k - 100) 0) ((lG xs).getD (k - 60) 0)
theorem Nj (P:Params):∀ b∈fy.map (·.1),∃ c vs,aP (br P) c = some ⟨.type "code",none,.fields vs,#[]⟩∧vs[11]? = some (.ref b):=by
 intro b hb
 simp only [fy,List.map_cons,List.map_nil,List.mem_cons,List.not_mem_nil,or_false] at hb
 rcases hb with rfl | rfl
 ·exact ⟨726,_,rfl,rfl⟩
 ·exact ⟨1000,_,rfl,rfl⟩
theorem Nk (hS:∀ W,(List.range 64).all (uc W) = true) (hI:∀ W:ab,isOk (iC (W:=W) (sc:=c7) iI (iJ W) [(fZ,hl 76)] (dN.take 1) [(eN,cu),(fZ,hl 76)]) = true) (T:∀ (W:ab) m,m≤6→pM W m) {w:World} {os:OsState} {h:Heap} (B:Behind w os h):Good w os h:=by
 intro s₁ a vs xs as cl hk hl' hr hx hg
 have K0:ag h s₁.heap:=.of hk
 let W0:ab:=⟨w,os,h,B,fk xs,fun _ _ _=>False,fun _ _ _ _ _ r=>r,fun _ _ _ r=>r.elim⟩
 let ζ:Hz:=fun n=>match n with
  | 76=>⟨lE xs.length,fun _ _ _ ⟨_,_⟩=>rfl⟩
  | _=>⟨.none,fun _ _ _ r=>r▸rfl⟩
 let W:ab:=W0.re .var ζ
 have h100:∀ j,j < xs.length→fk xs (100 + j) = xs.getD j 0:=fun j _=>by
  unfold fk
  rw [Nat.ble_eq_true_of_le (Nat.le_add_right 100 j),Nat.add_sub_cancel_left]; rfl
 have hm:(lG xs).length = min xs.length 5 + 1:=by unfold lG; rw [List.length_append,List.length_take,Nat.min_comm]; rfl
 have h60:vals (fk xs) (vars 60 (min xs.length 5 + 1)) = lG xs:=hm▸uf fun j q=>by
  unfold fk
  rw [show Nat.ble 100 (60 + j) = false from Bool.eq_false_iff.mpr fun e=>by have:=Nat.le_of_ble_eq_true e; omega,Nat.add_sub_cancel_left]; rfl
 have he:vals W.ρ (pK xs.length) = vals W.ρ (vars 60 (min xs.length 5 + 1)):=by
  show vals (fk xs) _ = vals (fk xs) _
  rw [h60]
  have ha:∀ (l m:List SE),vals (fk xs) (l ++ m) = vals (fk xs) l ++ vals (fk xs) m:=fun l m=>by
   induction l with
   | nil=>rfl
   | cons e l ih=>exact congrArg (_::·) ih
  unfold pK lG
  rw [ha]
  refine congr (congrArg _ ?_) rfl
  have:(xs.take 5).length = min xs.length 5:=by rw [List.length_take,Nat.min_comm]
  rw [← this]
  refine uf fun j q=>?_
  rw [List.length_take] at q
  rw [h100 j (by omega),List.getD_eq_getElem?_getD,List.getD_eq_getElem?_getD,List.getElem?_take_of_lt (by omega)]
 have Bs:Base W (fun _=>False) s₁.heap:=⟨K0,fun u hu=>hu.elim⟩
 have rl:ai W (vw (fun _=>False) ⟨[],[],s₁.heap⟩) [.ref a] [hl 76]:=.mk (show Rel W0 ⟨_,[]⟩ (.ref a) (lE xs.length) from .mk (vs:=vs.toList) (n:=0) ⟨by rw [hl']; rfl,rfl,fun q=>q.elim id cN⟩ (Cj hr h100)) (show ai W _ [] [] from rfl)
 refine wpAny_call (kl (W:=W) (d:=60) (own:=[]) (ad:=[]) (hX (List.mem_of_getElem? Ni)) (a:=⟨rfl,by decide,by decide⟩) (fun _=>rfl) rfl Bs .none rl fun c hp1 tk1 en S=>?_)
 refine Ng (W:=W) (n:=xs.length) (by omega) hS hI (fun V v r=>gQ (W:=W0) (W':=W) rfl r) he (T W _ (by omega)) c en.ad (mv s₁ hp1 tk1) [] _ _ S fun v h' tk ad S' r=>?_
 have k:ag s₁.heap h':=(je.trans (en.h▸S'.keep))
 refine ⟨r,⟨fun b o e=>?_,fun b o e=>k.ex id e⟩,rfl,by rw [show (mv (mv s₁ hp1 tk1) h' tk).gens = #[] from hg]; exact fun y hy=>by simp at hy⟩
 refine af fun nG=>?_
 obtain ⟨o',e',s⟩:=k.same b o id e
 refine nG ?_
 cases s with
 | refl=>exact .inl e'
 | grow m hc d=>
  refine af fun nG=>?_
  obtain ⟨c,cv,hf,h11⟩:=Nj w.params b m
  refine nG ?_
  exact .inr (.inl ⟨⟨c,_,cv,hk _ _ (B.fact _ _ hf),rfl,rfl,h11⟩,hc,_,_,d,e'⟩)
theorem dm (a k:Int):a % k + k * (a / k) = a:=Int.emod_add_mul_ediv a k
theorem m0 {a k:Int} (h:k≠0):0≤a % k:=Int.emod_nonneg a h
theorem m1 {a k:Int} (h:0 < k):a % k < k:=Int.emod_lt_of_pos a h
theorem pN {a:Int} {n:Nat} (_:Nat.ble 0 n = true):a % ((n:Int) + 1)≤n:=Int.le_of_lt_add_one (Int.emod_lt_of_pos a (Int.lt_add_one_of_le (Int.natCast_nonneg n)))
theorem d0 {a:Int} {n:Nat} (h:0≤a):0≤a / (n:Int):=Int.ediv_nonneg h (Int.natCast_nonneg n)
theorem Cm (a:Int) (k:Nat):∃ n:Nat,n < k + 1∧a % ((k:Int) + 1) = n:=by
 obtain ⟨n,e⟩:=Int.eq_ofNat_of_zero_le (m0 (a:=a) (k:=(k:Int) + 1) (Int.ne_of_gt (Int.lt_add_one_of_le (Int.natCast_nonneg k))))
 exact ⟨n,Int.ofNat_lt.mp (e▸m1 (Int.lt_add_one_of_le (Int.natCast_nonneg k))),e⟩
section
variable {ρ:Nat→Int}
theorem Sat.app {F G:Facts} (h:Sat ρ F) (k:Sat ρ G):Sat ρ (F ++ G):=fun f m=>(List.mem_append.mp m).elim (h f) (k f)
theorem lH {a b:gT} (h:a.Ok ρ) (k:b.Ok ρ):Sat ρ [a,b]:=fun f m=>by
 rcases List.mem_cons.mp m with rfl | m
 ·exact h
 ·rcases List.mem_singleton.mp m with rfl; exact k
theorem bS {n:Nat} {lo hi:Int} (h:lo≤ρ n) (k:ρ n≤hi):Sat ρ (aI n lo hi):=lH (show lo≤1 * ρ n + 0 by lia) (show 1 * ρ n + 0≤hi by lia)
theorem f7 {n:Nat} {e:SE} (h:ρ n = e.val ρ):Sat ρ (fV n e):=lH (show 0≤1 * ρ n + (-1 * e.val ρ + 0) by lia) (show 1 * ρ n + (-1 * e.val ρ + 0)≤0 by lia)
theorem ug {n:Nat} {k:Int} (h:k≤ρ n):Sat ρ (pC n k):=fun f m=>by rcases List.mem_singleton.mp m with rfl; exact (show k≤1 * ρ n + 0 by lia)
theorem f9:Sat ρ []:=gd
end
structure Vs where
 w:Int
 n:Int
 b:Int
 i:Int
 s:Int
 e:Int
 f:Int
 t1:Int
 t2:Int
 u1:Int
 u2:Int
 u3:Int
 u4:Int
 x:Int
 k:Int
 r:Int
 y:Int
 p:Int
 q:Int
 z:Int
noncomputable def dO (v:Vs) (σ:Nat→Int) (n:Nat):Int:=cond (Nat.blt n 60) ([v.w,v.n,v.b,v.i,v.s,v.e,0,0,0,0,0,0,0,0,0,0,0,0,0,0,v.w,v.e,0,0,0,0,0,0,0,0,0,v.u1,v.u2,v.u3,v.u4,0,0,0,0,0,v.x,0,0,v.f,v.t1,v.t2,0,v.k,v.r,v.y,0,v.p,v.q,0,v.z].getD n 0) (σ n)
theorem Cn {v:Vs} {σ:Nat→Int} (n:Nat) (h:60≤n):dO v σ n = σ n:=by
 unfold dO
 rw [show Nat.blt n 60 = false from Bool.eq_false_iff.mpr fun e=>by have:=Nat.blt_eq.mp e; lia]; rfl
noncomputable def gb (w:Nat) (t f:Int):Int:=(Bw w (decide (12≤t))).val fun n=>match n with
 | 12=>t
 | _=>f
theorem pO {W:ab} {w:Nat} (m:w∈[1,4,8]) {a b:SE} {u:Nat} (h0:0≤a.val W.ρ) (h1:a.val W.ρ≤13) (hu:W.ρ u = gb w (a.val W.ρ) (b.val W.ρ)):Tells W 15 (.ref 1251) [] [iL (8 * w),.int a,.int b] (vr u) []:=by
 let ρ':Nat→Int:=fun n=>match n with
  | 12=>a.val W.ρ
  | _=>b.val W.ρ
 have G:Sat ρ' (cond (decide (12≤a.val W.ρ)) (aI 12 12 13) (aI 12 0 11)):=by
  by_cases h:12≤a.val W.ρ
  ·rw [decide_eq_true h]; exact bS (show 12≤a.val W.ρ from h) h1
  ·rw [decide_eq_false h]; exact bS (show 0≤a.val W.ρ from h0) (show a.val W.ρ≤11 by lia)
 exact (Mq m (l:=decide (12≤a.val W.ρ)) { W with ρ:=ρ' } G trivial).tr (.mk ..) (fun V v r=>r) fun V v r=>(show bL (W.ρ u) v by rw [hu]; exact r)
theorem Nl (W:ab) (θ:Th):pL (oQ (W:=W) [] θ cu cu) = some []:=by kernel_rfl
theorem Nm {W:ab} {θ:Th} {ζ:Hz} (V:Vw) (v:Value) (r:Rel W V v cu):Rel (W.re θ ζ) V v cu:=ud (Nl W θ) f9 ζ gd V v r
noncomputable def Co (m i:Nat):Hz:=fun n=>match n with
 | 73=>⟨cu,fun _ _ _ ⟨_,_,_⟩=>rfl⟩
 | 74=>⟨gP m,fun _ _ _ ⟨_,_⟩=>rfl⟩
 | 75=>⟨iL i,fun _ _ _ ⟨_⟩=>rfl⟩
 | _=>⟨.none,fun _ _ _ r=>r▸rfl⟩
noncomputable abbrev ab.tn (W:ab) (m i:Nat) (ρ:Nat→Int):ab:=W.re (fun n=>.lit (ρ n)) (Co m i)
theorem Tells.at {W:ab} {d:Nat} {f:Value} {as:List AV} {r b:AV} (T:Tells W d f [] as r []) {p:List AV} (hp:∀ V v,ai W V v p→ai W V v as) (hr:∀ V v,Rel W V v r→Rel W V v b):Tells W d f [] p b []:=T.tr (.mk W.ρ W.η W.ηm W.ηp) hp hr
noncomputable def iK (σ:Nat→Int) (m i:Nat) (w n b ix s e k r y p q z:Int):Vs:=
 let f:Int:=((σ (eB m i)).natAbs:Int) + 3 * ((σ (60 + i)).natAbs:Int)
 ⟨w,n,b,ix,s,e,f,f % 14,(f / 14 + i) % 14,gb 1 (f % 14) (f / 196),gb 4 (f % 14) (f / 196),gb 8 (f % 14) (f / 196),gb 4 ((f / 14 + i) % 14) (f / 196),σ (60 + i),k,r,y,p,q,z⟩
theorem fits_of {W:ab} {m i:Nat} (hm:i < m) {w n b ix s e k r y p q' z:Int} {q:dz} (ck:pG q) (nl:bc [.lst q.encs,q.line,.lst q.wnt] = true) (pl:∀ (W:ab) V v,Rel W V v q.line→handedIn v = true)
  (F:Sat (dO (iK W.ρ m i w n b ix s e k r y p q' z) W.ρ) q.F) (line:Tells (W.tn m i (dO (iK W.ρ m i w n b ix s e k r y p q' z) W.ρ)) 30 (.ref 1244) [] [vr 40] (.tup [q.line,.lst q.wnt]) []) (ff:Tells (W.tn m i (dO (iK W.ρ m i w n b ix s e k r y p q' z) W.ρ)) 40 (.ref 982) [] [cu,q.fline] (.lst q.forms) []):∃ q ρ ζ,Fits W m i q ρ ζ:=by
 have hp:60≤eB m i:=by
  cases i with
  | zero=>show 60≤59 + m; lia
  | succ j=>show 60≤59 + (j + 1); lia
 generalize hv:iK W.ρ m i w n b ix s e k r y p q' z = v at *
 have h14:∀ a:Int,0≤a % 14∧a % 14≤13:=fun a=>by lia
 have e1:(fY (eB m i)).val (dO v W.ρ) = v.f:=by
  show ((dO v W.ρ (eB m i)).natAbs:Int) + 3 * ((dO v W.ρ 40).natAbs:Int) = _
  rw [Cn _ hp,← hv]; rfl
 have f0:0≤v.f:=by rw [← hv]; show (0:Int)≤_ + _; lia
 have g1:v.t1 = v.f % 14:=by rw [← hv]; rfl
 have g2:v.t2 = (v.f / 14 + i) % 14:=by rw [← hv]; rfl
 have u1:v.u1 = gb 1 v.t1 (v.f / 196):=by rw [← hv]; rfl
 have u2:v.u2 = gb 4 v.t1 (v.f / 196):=by rw [← hv]; rfl
 have u3:v.u3 = gb 8 v.t1 (v.f / 196):=by rw [← hv]; rfl
 have u4:v.u4 = gb 4 v.t2 (v.f / 196):=by rw [← hv]; rfl
 have a1:=h14 v.f
 have a2:=h14 (v.f / 14 + i)
 rw [← g1] at a1
 rw [← g2] at a2
 refine ⟨q,dO v W.ρ,Co m i,ck,nl,pl,Cn,by rw [← hv]; rfl,e1,by rw [e1]; exact g1.symm,by rw [e1]; exact g2.symm,rfl,rfl,rfl,F.app (.app (ug f0) (.app (bS a1.1 a1.2) (bS a2.1 a2.2))),fun _=>line,fun _=>ff.at (fun V v ⟨a,r⟩=>.mk (Nm V _ (Rel.ad (ad:=[]) lF a)) r) fun V v r=>r,
  fun _=>pO (w:=1) (a:=.var 44) (b:=.div (.var 43) 196) (by decide) a1.1 a1.2 u1,fun _=>pO (w:=4) (a:=.var 44) (b:=.div (.var 43) 196) (by decide) a1.1 a1.2 u2,fun _=>pO (w:=8) (a:=.var 44) (b:=.div (.var 43) 196) (by decide) a1.1 a1.2 u3,fun _=>pO (w:=4) (a:=.var 45) (b:=.div (.var 43) 196) (by decide) a2.1 a2.2 u4,trivial⟩
noncomputable abbrev aX (x:Int):Int:=(x.natAbs:Int)
noncomputable abbrev lX (x:Int):Int:=aX x / 7 % 4294967296
noncomputable def sX (x:Int):Bool:=decide (2147483648≤lX x)
noncomputable def wX (x:Int):Int:=lX x - cond (sX x) 4294967296 0
noncomputable abbrev tX (x:Int):Int:=aX x / 7 / 4294967296 % 20
noncomputable abbrev rX (x:Int):Int:=aX x / 7 / 4294967296 / 20
noncomputable def gX (x:Int):Bool:=decide (x < 0)
theorem Nn {a:Int} (h:0≤a):a = a % 7 + 7 * (a / 7 % 4294967296 + 4294967296 * (a / 7 / 4294967296 % 20 + 20 * (a / 7 / 4294967296 / 20)))∧0≤a / 7 % 4294967296∧a / 7 % 4294967296 < 4294967296∧0≤a / 7 / 4294967296 % 20∧a / 7 / 4294967296 % 20≤19∧0≤a / 7 / 4294967296 / 20:=
 ⟨by rw [dm,dm,dm],m0 (by decide),m1 (by decide),m0 (by decide),pN (by decide),d0 (d0 (d0 h))⟩
theorem parts (x:Int):aX x = aX x % 7 + 7 * (lX x + 4294967296 * (tX x + 20 * rX x))∧0≤lX x∧lX x < 4294967296∧0≤tX x∧tX x≤19∧0≤rX x:=Nn (Int.natCast_nonneg _)
theorem pP {ρ:Nat→Int} {x:Int} {way turn:SE} (h0:ρ 0 = wX x) (hw:way.val ρ = aX x % 7) (ht:turn.val ρ = tX x) (hr:ρ 48 = rX x):(dw false (sX x) way turn).val ρ = aX x∧(dw (gX x) (sX x) way turn).val ρ = x:=by
 have e:(dw false (sX x) way turn).val ρ = aX x:=by
  show way.val ρ + 7 * ((cond (sX x) (SE.add (.lit 4294967296) (.var 0)) (.var 0)).val ρ + 4294967296 * (turn.val ρ + 20 * ρ 48)) = _
  have:(cond (sX x) (SE.add (.lit 4294967296) (.var 0)) (.var 0)).val ρ = lX x:=by
   cases q:sX x<;>(unfold wX at h0; rw [q] at h0)
   ·show ρ 0 = _; rw [h0]; show _ - (0:Int) = _; lia
   ·show 4294967296 + ρ 0 = _; rw [h0]; show _ + (_ - (4294967296:Int)) = _; lia
  rw [this,hw,ht,hr]
  exact (parts x).1.symm
 refine ⟨e,?_⟩
 cases q:gX x
 ·rw [e]; have:=of_decide_eq_false q; show (x.natAbs:Int) = x; lia
 ·show -1 * (dw false (sX x) way turn).val ρ = x
  rw [e]; have:=of_decide_eq_true q; show -1 * (x.natAbs:Int) = x; lia
theorem Cp {ρ:Nat→Int} {x:Int} (h0:ρ 0 = wX x) (hr:ρ 48 = rX x):Sat ρ (tO (sX x)):=by
 refine af fun nG=>?_
 obtain ⟨-,l0,l1,-,-,r0⟩:=parts x
 refine nG ?_
 refine .app ?_ (ug (hr▸r0))
 unfold wX at h0
 cases q:sX x<;>rw [q] at h0
 ·have:=of_decide_eq_false q
  exact bS (by rw [h0]; show 0≤_ - (0:Int); lia) (by rw [h0]; show _ - (0:Int)≤_; lia)
 ·have:=of_decide_eq_true q
  exact bS (by rw [h0]; show _≤_ - (4294967296:Int); lia) (by rw [h0]; show _ - (4294967296:Int)≤_; lia)
theorem pQ {a b:Bool}:(a,b)∈bb:=by cases a<;>cases b<;>decide
theorem Cq:(lD.all fun l=>bc [.lst (l.fs.map fun o=>o.enc l),l.line,.lst (wants l.wnt 0)]) = true:=by kernel_rfl
noncomputable abbrev jR (j:jF):AV:=.tup [tQ j,.lst (wants [(aY,j.w)] 0)]
theorem Np:(pE.all fun j=>nl (jR j)) = true:=by kernel_rfl
theorem fm {W:ab} {m i:Nat} (hm:i < m) {n:Nat} {j:jF} {fs:List Op} (hj:pE[n]? = some j) (hl:lD[n]? = some (t6 j fs)) {k:Int} (hw:aX (W.ρ (60 + i)) % 7 = j.way) (h2:j.way≤2) (ht:∀ ρ:Nat→Int,ρ 47 = k→j.turn.val ρ = tX (W.ρ (60 + i))) (hF:∀ ρ:Nat→Int,ρ 47 = k→Sat ρ j.F):∃ q ρ ζ,Fits W m i q ρ ζ:=by
 have hj':=List.mem_of_getElem? hj
 have hl':=List.mem_of_getElem? hl
 generalize hx:W.ρ (60 + i) = x at *
 refine fits_of (W:=W) hm (w:=wX x) (n:=0) (b:=0) (ix:=0) (s:=0) (e:=0) (k:=k) (r:=rX x) (y:=0) (p:=0) (q':=0) (z:=0) (q:=(t6 j fs).pat (B7.at hl')) (B8.at hl' _) (List.all_eq_true.mp Cq _ hl') (fun _ _ _ ⟨_,_,_⟩=>rfl) (.app f9 (f7 rfl)) ?_ (((B6.at hl').ok rfl) _ f9 trivial)
 generalize hρ:dO (iK W.ρ m i (wX x) 0 0 0 0 0 k (rX x) 0 0 0 0) W.ρ = ρ
 have r0:ρ 0 = wX x:=by rw [← hρ]; rfl
 have r20:ρ 20 = ρ 0:=by rw [← hρ]; rfl
 have r40:ρ 40 = x:=by rw [← hρ]; exact hx
 have r47:ρ 47 = k:=by rw [← hρ]; rfl
 have r48:ρ 48 = rX x:=by rw [← hρ]; rfl
 let WA:=W.tn m i ρ
 let θ:Th:=fun n=>match n with
  | 47=>j.turn
  | 49=>.lit j.way
  | n=>.var n
 let ζ:Hz:=fun n=>match n with
  | 62=>⟨jR j,fun _ _ _ ⟨_,_⟩=>rfl⟩
  | n=>ir n
 let W':=WA.re θ ζ
 refine af fun nG=>?_
 have nj:=List.all_eq_true.mp Np _ hj'
 have w0:W'.ρ 0 = wX x:=r0
 have w47:W'.ρ 47 = tX x:=ht ρ r47
 have w49:W'.ρ 49 = aX x % 7:=hw.symm
 have w48:W'.ρ 48 = rX x:=r48
 obtain ⟨-,-,-,t0,t1,-⟩:=parts x
 refine nG ?_
 have hc:=pP (ρ:=W'.ρ) (way:=.var 49) (turn:=.var 47) w0 w49 w47 w48
 have G:Sat W'.ρ (BS (gX x) (sX x)).G:=.app (Cp w0 w48) (.app (bS (by rw [w49]; lia) (by rw [w49,hw]; exact h2)) (.app (bS (by rw [w47]; lia) (by rw [w47]; lia)) (by
  cases q:gX x with
  | false=>exact f9
  | true=>
   have:=of_decide_eq_true q
   refine (List.append_nil _▸oR (G:=[]) f9 ?_:Sat _ (gL ⟨true,dw false (sX x) (.var 49) (.var 47),false⟩ true))
   show (!decide ((dw false (sX x) (.var 49) (.var 47)).val W'.ρ≤0)) = true
   rw [hc.1,Bool.not_eq_true',decide_eq_false_iff_not]
   show ¬((x.natAbs:Int)≤0); lia)))
 have TJ:Tells WA 20 (.ref 1237) [] [iL j.way,.int j.turn,vr 0] (jR j) []:=((aJ.at hj').ok rfl) WA (.app (hF ρ r47) (f7 r20)) trivial
 have TL:=((ME.at (pQ (a:=gX x) (b:=sX x))).ok rfl) W' G ⟨fun _=>TJ.tr (.er WA θ ζ) (fun V v r=>r) fun V v r=>(Rel.ad nj r:Rel WA ⟨V.g,[]⟩ v (jR j)),trivial⟩
 exact TL.tr (.re WA θ ζ) (fun V v ⟨a,r⟩=>.mk (show bL ((dw (gX x) (sX x) (.var 49) (.var 47)).val W'.ρ) _ from hc.2.trans r40.symm▸a) r) fun V v r=>Rel.ad (W:=WA) (g:=V.g) (ad:=[]) (a:=jR j) nj r
noncomputable def nV (x:Int):Int:=[0,3,8,15,12,5,7,4,10,1].getD (tX x / 2).toNat 0
theorem uh {P:Int→Prop} {l:List Int} (h:∀ a∈l,P a) (h0:P 0) (n:Nat):P (l.getD n 0):=by
 rw [List.getD_eq_getElem?_getD]
 cases e:l[n]? with
 | none=>exact h0
 | some a=>exact h a (List.mem_of_getElem? e)
theorem lI (x:Int):0≤nV x∧nV x≤15:=uh (P:=fun a=>0≤a∧a≤15) (l:=[0,3,8,15,12,5,7,4,10,1]) (by decide) (by decide) _
noncomputable def mR (md:Nat):Nat:=match md with
 | 0=>0
 | _=>1
theorem ui:∀ md,mR md∈[0,1]
 | 0=>.head _
 | _ + 1=>.tail _ (.head _)
theorem uj {ρ:Nat→Int} {x:Int} {u:Nat} (h47:ρ 47 = tX x / 2) (hu:tX x % 2 = u):(fj u).val ρ = tX x:=by
 show (u:Int) + 2 * ρ 47 = _
 rw [h47]; lia
theorem uk {ρ:Nat→Int} {x:Int} (h0:ρ 0 = wX x) (h48:ρ 48 = rX x) (h47:ρ 47 = tX x / 2) (h1:ρ 1 = nV x) (h20:ρ 20 = ρ 0):Sat ρ (pD (sX x)):=by
 refine af fun nG=>?_
 obtain ⟨-,-,-,t0,t1,-⟩:=parts x
 refine nG ?_
 exact .app (Cp h0 h48) (.app (bS (by rw [h47]; lia) (by rw [h47]; lia)) (.app (f7 (by rw [h1]; show _ = List.getD _ (ρ 47).toNat 0; rw [h47]; rfl)) (f7 h20)))
theorem Nq {W:ab} {m i:Nat} (hm:i < m) {md:Nat} (hd:md < 3) (h3:3≤aX (W.ρ (60 + i)) % 7) (h4:aX (W.ρ (60 + i)) % 7≤4) (hu:tX (W.ρ (60 + i)) % 2 = mR md) (hn:Sat (fun _=>nV (W.ρ (60 + i))) (cw md).F):∃ q ρ ζ,Fits W m i q ρ ζ:=by
 have hl:lD[10 + md]? = some (cw md):=by rcases md with _ | _ | _ | md<;>first | rfl | lia
 have hl':=List.mem_of_getElem? hl
 generalize hx:W.ρ (60 + i) = x at *
 have hF:∀ ρ:Nat→Int,ρ 1 = nV x→Sat ρ (cw md).F:=fun ρ h1=>by
  rcases md with _ | _ | _ | md<;>first | lia | (have a:=hn _ (.head _); have b:=hn _ (.tail _ (.head _)); exact lH (by show _≤1 * ρ 1 + 0; rw [h1]; exact a) (by show 1 * ρ 1 + 0≤_; rw [h1]; exact b))
 generalize hv:iK W.ρ m i (wX x) (nV x) 0 0 0 0 (tX x / 2) (rX x) (aX x % 7) 0 0 0 = v
 generalize hρ:dO v W.ρ = ρ
 have r0:ρ 0 = wX x:=by rw [← hρ,← hv]; rfl
 have r1:ρ 1 = nV x:=by rw [← hρ,← hv]; rfl
 have r20:ρ 20 = ρ 0:=by rw [← hρ,← hv]; rfl
 have r40:ρ 40 = x:=by rw [← hρ,← hv]; exact hx
 have r47:ρ 47 = tX x / 2:=by rw [← hρ,← hv]; rfl
 have r48:ρ 48 = rX x:=by rw [← hρ,← hv]; rfl
 have r49:ρ 49 = aX x % 7:=by rw [← hρ,← hv]; rfl
 let WA:=W.tn m i ρ
 have hc:=pP (ρ:=WA.ρ) (way:=.var 49) (turn:=fj (mR md)) r0 r49 (uj (ρ:=ρ) r47 hu) r48
 have TL:=((MF.at (a:=mR md) (ui md)).at (pQ (a:=gX x) (b:=sX x))).ok rfl WA (.app (uk r0 r48 r47 r1 r20) (bS (by rw [show WA.ρ 49 = _ from r49]; exact h3) (by rw [show WA.ρ 49 = _ from r49]; exact h4))) trivial
 refine fits_of (W:=W) hm (w:=wX x) (n:=nV x) (b:=0) (ix:=0) (s:=0) (e:=0) (k:=tX x / 2) (r:=rX x) (y:=aX x % 7) (p:=0) (q':=0) (z:=0) (q:=(cw md).pat (B7.at hl')) (B8.at hl' _) (List.all_eq_true.mp Cq _ hl') (fun _ _ _ ⟨_,_,_⟩=>rfl) ?_ ?_ (((B6.at hl').ok rfl) _ ?_ trivial)<;>rw [hv,hρ]
 ·exact .app (hF ρ r1) (f7 r20)
 ·exact TL.at (fun V v ⟨a,r⟩=>.mk (show bL ((dw (gX x) (sX x) (.var 49) (fj (mR md))).val WA.ρ) _ from hc.2.trans r40.symm▸a) r) (by rcases md with _ | _ | _ | md<;>first | exact fun V v r=>r | lia)
 ·exact hF ρ r1
theorem Nr:ah (aD 0 0) cC:=by repeat' first | exact .nil | refine .cons ?_ ?_ | refine ⟨?_,?_⟩ | (intro W h hG; kernel_rfl) | kernel_rfl
theorem Nt:ah (aD 0 0) cD:=by repeat' first | exact .nil | refine .cons ?_ ?_ | refine ⟨?_,?_⟩ | (intro W h hG; kernel_rfl) | kernel_rfl
theorem Nu:ah (aD 0 0) jI:=by repeat' first | exact .nil | refine .cons ?_ ?_ | refine ⟨?_,?_⟩ | (intro W h hG; kernel_rfl) | kernel_rfl
theorem Nv:ah (aD 0 0) iH:=Nr.app (Nt.app Nu)
theorem Nw:ah (aD 0 1) cC:=by repeat' first | exact .nil | refine .cons ?_ ?_ | refine ⟨?_,?_⟩ | (intro W h hG; kernel_rfl) | kernel_rfl
theorem Nx:ah (aD 0 1) cD:=by repeat' first | exact .nil | refine .cons ?_ ?_ | refine ⟨?_,?_⟩ | (intro W h hG; kernel_rfl) | kernel_rfl
theorem Ny:ah (aD 0 1) jI:=by repeat' first | exact .nil | refine .cons ?_ ?_ | refine ⟨?_,?_⟩ | (intro W h hG; kernel_rfl) | kernel_rfl
theorem Nz:ah (aD 0 1) iH:=Nw.app (Nx.app Ny)
theorem NA:ah (aD 0 2) cC:=by repeat' first | exact .nil | refine .cons ?_ ?_ | refine ⟨?_,?_⟩ | (intro W h hG; kernel_rfl) | kernel_rfl
theorem NB:ah (aD 0 2) cD:=by repeat' first | exact .nil | refine .cons ?_ ?_ | refine ⟨?_,?_⟩ | (intro W h hG; kernel_rfl) | kernel_rfl
theorem NC:ah (aD 0 2) jI:=by repeat' first | exact .nil | refine .cons ?_ ?_ | refine ⟨?_,?_⟩ | (intro W h hG; kernel_rfl) | kernel_rfl
theorem ND:ah (aD 0 2) iH:=NA.app (NB.app NC)
theorem NF:ah (aD 1 0) cC:=by repeat' first | exact .nil | refine .cons ?_ ?_ | refine ⟨?_,?_⟩ | (intro W h hG; kernel_rfl) | kernel_rfl
theorem NG:ah (aD 1 0) cD:=by repeat' first | exact .nil | refine .cons ?_ ?_ | refine ⟨?_,?_⟩ | (intro W h hG; kernel_rfl) | kernel_rfl
theorem NH:ah (aD 1 0) eA:=by repeat' first | exact .nil | refine .cons ?_ ?_ | refine ⟨?_,?_⟩ | (intro W h hG; kernel_rfl) | kernel_rfl
theorem NI:ah (aD 1 0) c5:=NF.app (NG.app NH)
theorem NJ:ah (aD 1 1) cC:=by repeat' first | exact .nil | refine .cons ?_ ?_ | refine ⟨?_,?_⟩ | (intro W h hG; kernel_rfl) | kernel_rfl
theorem NK:ah (aD 1 1) cD:=by repeat' first | exact .nil | refine .cons ?_ ?_ | refine ⟨?_,?_⟩ | (intro W h hG; kernel_rfl) | kernel_rfl
theorem NL:ah (aD 1 1) eA:=by repeat' first | exact .nil | refine .cons ?_ ?_ | refine ⟨?_,?_⟩ | (intro W h hG; kernel_rfl) | kernel_rfl
theorem NM:ah (aD 1 1) c5:=NJ.app (NK.app NL)
theorem NN:ah (aD 1 2) cC:=by repeat' first | exact .nil | refine .cons ?_ ?_ | refine ⟨?_,?_⟩ | (intro W h hG; kernel_rfl) | kernel_rfl
theorem NO:ah (aD 1 2) cD:=by repeat' first | exact .nil | refine .cons ?_ ?_ | refine ⟨?_,?_⟩ | (intro W h hG; kernel_rfl) | kernel_rfl
theorem NP:ah (aD 1 2) eA:=by repeat' first | exact .nil | refine .cons ?_ ?_ | refine ⟨?_,?_⟩ | (intro W h hG; kernel_rfl) | kernel_rfl
theorem NQ:ah (aD 1 2) c5:=NN.app (NO.app NP)
theorem NR:ah (aD 2 0) cC:=by repeat' first | exact .nil | refine .cons ?_ ?_ | refine ⟨?_,?_⟩ | (intro W h hG; kernel_rfl) | kernel_rfl
theorem NT:ah (aD 2 0) cD:=by repeat' first | exact .nil | refine .cons ?_ ?_ | refine ⟨?_,?_⟩ | (intro W h hG; kernel_rfl) | kernel_rfl
theorem NU:ah (aD 2 0) eA:=by repeat' first | exact .nil | refine .cons ?_ ?_ | refine ⟨?_,?_⟩ | (intro W h hG; kernel_rfl) | kernel_rfl
theorem NV:ah (aD 2 0) c5:=NR.app (NT.app NU)
theorem NW:ah (aD 2 1) cC:=by repeat' first | exact .nil | refine .cons ?_ ?_ | refine ⟨?_,?_⟩ | (intro W h hG; kernel_rfl) | kernel_rfl
theorem NX:ah (aD 2 1) cD:=by repeat' first | exact .nil | refine .cons ?_ ?_ | refine ⟨?_,?_⟩ | (intro W h hG; kernel_rfl) | kernel_rfl
theorem NY:ah (aD 2 1) eA:=by repeat' first | exact .nil | refine .cons ?_ ?_ | refine ⟨?_,?_⟩ | (intro W h hG; kernel_rfl) | kernel_rfl
theorem NZ:ah (aD 2 1) c5:=NW.app (NX.app NY)
theorem N0:ah (aD 2 2) cC:=by repeat' first | exact .nil | refine .cons ?_ ?_ | refine ⟨?_,?_⟩ | (intro W h hG; kernel_rfl) | kernel_rfl
theorem N1:ah (aD 2 2) cD:=by repeat' first | exact .nil | refine .cons ?_ ?_ | refine ⟨?_,?_⟩ | (intro W h hG; kernel_rfl) | kernel_rfl
theorem N3:ah (aD 2 2) eA:=by repeat' first | exact .nil | refine .cons ?_ ?_ | refine ⟨?_,?_⟩ | (intro W h hG; kernel_rfl) | kernel_rfl
theorem N4:ah (aD 2 2) c5:=N0.app (N1.app N3)
theorem N5:ah (aD 3 0) cC:=by repeat' first | exact .nil | refine .cons ?_ ?_ | refine ⟨?_,?_⟩ | (intro W h hG; kernel_rfl) | kernel_rfl
theorem N6:ah (aD 3 0) cD:=by repeat' first | exact .nil | refine .cons ?_ ?_ | refine ⟨?_,?_⟩ | (intro W h hG; kernel_rfl) | kernel_rfl
theorem N7:ah (aD 3 0) eA:=by repeat' first | exact .nil | refine .cons ?_ ?_ | refine ⟨?_,?_⟩ | (intro W h hG; kernel_rfl) | kernel_rfl
theorem N8:ah (aD 3 0) c5:=N5.app (N6.app N7)
theorem N9:ah (aD 3 1) cC:=by repeat' first | exact .nil | refine .cons ?_ ?_ | refine ⟨?_,?_⟩ | (intro W h hG; kernel_rfl) | kernel_rfl
theorem Oa:ah (aD 3 1) cD:=by repeat' first | exact .nil | refine .cons ?_ ?_ | refine ⟨?_,?_⟩ | (intro W h hG; kernel_rfl) | kernel_rfl
theorem Ob:ah (aD 3 1) eA:=by repeat' first | exact .nil | refine .cons ?_ ?_ | refine ⟨?_,?_⟩ | (intro W h hG; kernel_rfl) | kernel_rfl
theorem Oc:ah (aD 3 1) c5:=N9.app (Oa.app Ob)
theorem Od:ah (aD 3 2) cC:=by repeat' first | exact .nil | refine .cons ?_ ?_ | refine ⟨?_,?_⟩ | (intro W h hG; kernel_rfl) | kernel_rfl
theorem Oe:ah (aD 3 2) cD:=by repeat' first | exact .nil | refine .cons ?_ ?_ | refine ⟨?_,?_⟩ | (intro W h hG; kernel_rfl) | kernel_rfl
theorem Of:ah (aD 3 2) eA:=by repeat' first | exact .nil | refine .cons ?_ ?_ | refine ⟨?_,?_⟩ | (intro W h hG; kernel_rfl) | kernel_rfl
theorem Og:ah (aD 3 2) c5:=Od.app (Oe.app Of)
theorem Oh:ah (aD 4 0) cC:=by repeat' first | exact .nil | refine .cons ?_ ?_ | refine ⟨?_,?_⟩ | (intro W h hG; kernel_rfl) | kernel_rfl
theorem Oi:ah (aD 4 0) cD:=by repeat' first | exact .nil | refine .cons ?_ ?_ | refine ⟨?_,?_⟩ | (intro W h hG; kernel_rfl) | kernel_rfl
theorem Oj:ah (aD 4 0) jI:=by repeat' first | exact .nil | refine .cons ?_ ?_ | refine ⟨?_,?_⟩ | (intro W h hG; kernel_rfl) | kernel_rfl
theorem Ol:ah (aD 4 0) iH:=Oh.app (Oi.app Oj)
theorem Om:ah (aD 4 1) cC:=by repeat' first | exact .nil | refine .cons ?_ ?_ | refine ⟨?_,?_⟩ | (intro W h hG; kernel_rfl) | kernel_rfl
theorem Oo:ah (aD 4 1) cD:=by repeat' first | exact .nil | refine .cons ?_ ?_ | refine ⟨?_,?_⟩ | (intro W h hG; kernel_rfl) | kernel_rfl
theorem Oq:ah (aD 4 1) jI:=by repeat' first | exact .nil | refine .cons ?_ ?_ | refine ⟨?_,?_⟩ | (intro W h hG; kernel_rfl) | kernel_rfl
theorem Ot:ah (aD 4 1) iH:=Om.app (Oo.app Oq)
theorem Ou:ah (aD 4 2) cC:=by repeat' first | exact .nil | refine .cons ?_ ?_ | refine ⟨?_,?_⟩ | (intro W h hG; kernel_rfl) | kernel_rfl
theorem Ov:ah (aD 4 2) cD:=by repeat' first | exact .nil | refine .cons ?_ ?_ | refine ⟨?_,?_⟩ | (intro W h hG; kernel_rfl) | kernel_rfl
theorem Ow:ah (aD 4 2) jI:=by repeat' first | exact .nil | refine .cons ?_ ?_ | refine ⟨?_,?_⟩ | (intro W h hG; kernel_rfl) | kernel_rfl
theorem Ox:ah (aD 4 2) iH:=Ou.app (Ov.app Ow)
theorem Oy:ah (aD 5 0) cC:=by repeat' first | exact .nil | refine .cons ?_ ?_ | refine ⟨?_,?_⟩ | (intro W h hG; kernel_rfl) | kernel_rfl
theorem Oz:ah (aD 5 0) cD:=by repeat' first | exact .nil | refine .cons ?_ ?_ | refine ⟨?_,?_⟩ | (intro W h hG; kernel_rfl) | kernel_rfl
theorem OA:ah (aD 5 0) eA:=by repeat' first | exact .nil | refine .cons ?_ ?_ | refine ⟨?_,?_⟩ | (intro W h hG; kernel_rfl) | kernel_rfl
theorem OB:ah (aD 5 0) c5:=Oy.app (Oz.app OA)
theorem OC:ah (aD 5 1) cC:=by repeat' first | exact .nil | refine .cons ?_ ?_ | refine ⟨?_,?_⟩ | (intro W h hG; kernel_rfl) | kernel_rfl
theorem OD:ah (aD 5 1) cD:=by repeat' first | exact .nil | refine .cons ?_ ?_ | refine ⟨?_,?_⟩ | (intro W h hG; kernel_rfl) | kernel_rfl
theorem OE:ah (aD 5 1) eA:=by repeat' first | exact .nil | refine .cons ?_ ?_ | refine ⟨?_,?_⟩ | (intro W h hG; kernel_rfl) | kernel_rfl
theorem OF:ah (aD 5 1) c5:=OC.app (OD.app OE)
theorem OG:ah (aD 5 2) cC:=by repeat' first | exact .nil | refine .cons ?_ ?_ | refine ⟨?_,?_⟩ | (intro W h hG; kernel_rfl) | kernel_rfl
theorem OH:ah (aD 5 2) cD:=by repeat' first | exact .nil | refine .cons ?_ ?_ | refine ⟨?_,?_⟩ | (intro W h hG; kernel_rfl) | kernel_rfl
theorem OI:ah (aD 5 2) eA:=by repeat' first | exact .nil | refine .cons ?_ ?_ | refine ⟨?_,?_⟩ | (intro W h hG; kernel_rfl) | kernel_rfl
theorem OJ:ah (aD 5 2) c5:=OG.app (OH.app OI)
noncomputable def um (c:Nat):List (Nat×Nat):=match c with
 | 0 | 4=>iH
 | _=>c5
noncomputable def uo:List (Nat×Nat):=[(0,0),(0,1),(0,2),(1,0),(1,1),(1,2),(2,0),(2,1),(2,2),(3,0),(3,1),(3,2),(4,0),(4,1),(4,2),(5,0),(5,1),(5,2)]
theorem OK:ah (fun x:Nat×Nat=>ah (aD x.1 x.2) (um x.1)) uo:=.cons Nv <| .cons Nz <| .cons ND <| .cons NI <| .cons NM <| .cons NQ <| .cons NV <| .cons NZ <| .cons N4 <| .cons N8 <| .cons Oc <| .cons Og <| .cons Ol <| .cons Ot <| .cons Ox <| .cons OB <| .cons OF <| .cons OJ .nil
theorem Cr:∀ c,c < 6→∀ s,s < 3→(c,s)∈uo:=by decide
set_option synthInstance.maxSize 1000 in
set_option synthInstance.maxHeartbeats 400000 in
theorem OL:∀ c,c < 6→∀ k,k < 3→∀ m,m < 3→¬(k = 2∧m = 2∧(c = 0∨c = 4))→(k,m)∈um c:=by decide
noncomputable abbrev OM (c s:Nat) (x:Nat×Nat):Bool:=let p:aN:=⟨c,s,x.1,x.2⟩; bc [.lst (p.pf.map p.enc),p.line,.lst (wants (wM p.way p.pH) 0)]
theorem ON:(uo.all fun x=>(um x.1).all (OM x.1 x.2)) = true:=by kernel_rfl
noncomputable def cR (c:Nat):Nat:=match c with
 | 2=>1
 | c=>c
theorem OO {c s k md:Nat} (hc:c < 6) (hd:md < 3) (n:Str):(pm (cR c) s (mR md)).mem n = (⟨c,s,k,md⟩:aN).mem n∧(pm (cR c) 0 0).way = (⟨c,s,k,md⟩:aN).way:=by
 rcases c with _ | _ | _ | _ | _ | _ | c<;>first | lia | (rcases md with _ | md<;>exact ⟨rfl,rfl⟩)
set_option synthInstance.maxSize 1000 in
set_option synthInstance.maxHeartbeats 400000 in
theorem OP:∀ c,c < 6→∀ j,j < 4→∀ m,m < 3→(cR c,j,mR m)∈BR:=by decide
noncomputable def bV (x:Int):Int:=[0,4,5,12,13,3,8,15].getD (rX x / 5 % 8).toNat 0
noncomputable def iV (x:Int):Int:=[1,5,12,7,9,0,13,14].getD (rX x / 5 / 8 % 8).toNat 0
theorem OQ (x:Int):0≤bV x∧bV x≤15:=uh (P:=fun a=>0≤a∧a≤15) (l:=[0,4,5,12,13,3,8,15]) (by decide) (by decide) _
theorem uq (x:Int):0≤iV x∧iV x≤15∧iV x≠4:=uh (P:=fun a=>0≤a∧a≤15∧a≠4) (l:=[1,5,12,7,9,0,13,14]) (by decide) (by decide) _
noncomputable def gc (x:Int) (n:Nat):Int:=match n with
 | 1=>nV x
 | 2=>bV x
 | _=>iV x
theorem Cs (x:Int) (n:Nat):0≤gc x n∧gc x n≤15:=by
 unfold gc; split
 ·exact lI x
 ·exact OQ x
 ·exact ⟨(uq x).1,(uq x).2.1⟩
structure lJ (ρ:Nat→Int) (x:Int):Prop where
 r0:ρ 0 = wX x
 r1:ρ 1 = nV x
 r2:ρ 2 = bV x
 r3:ρ 3 = iV x
 r4:ρ 4 = rX x / 5 / 8 / 8 % 4
 r5:ρ 5 = 5 - wX x / 2
 r20:ρ 20 = ρ 0
 r21:ρ 21 = ρ 5
 r40:ρ 40 = x
 r47:ρ 47 = tX x / 2
 r48:ρ 48 = rX x
 r51:ρ 51 = rX x / 5 % 8
 r52:ρ 52 = rX x / 5 / 8 % 8
 r54:ρ 54 = rX x / 5 / 8 / 8 / 4 / 4
noncomputable abbrev ur (σ:Nat→Int) (m i:Nat) (x:Int):Vs:=iK σ m i (wX x) (nV x) (bV x) (iV x) (rX x / 5 / 8 / 8 % 4) (5 - wX x / 2) (tX x / 2) (rX x) 0 (rX x / 5 % 8) (rX x / 5 / 8 % 8) (rX x / 5 / 8 / 8 / 4 / 4)
theorem OR {σ:Nat→Int} {m i:Nat}:lJ (dO (ur σ m i (σ (60 + i))) σ) (σ (60 + i)):=⟨rfl,rfl,rfl,rfl,rfl,rfl,rfl,rfl,rfl,rfl,rfl,rfl,rfl,rfl⟩
theorem OS {r:Int} (h:0≤r) {k j:Int} (hk:r % 5 = k) (hj:r / 5 / 8 / 8 / 4 % 4 = j):k + 5 * (r / 5 % 8 + 8 * (r / 5 / 8 % 8 + 8 * (r / 5 / 8 / 8 % 4 + 4 * (j + 4 * (r / 5 / 8 / 8 / 4 / 4))))) = r∧0≤r / 5 % 8∧r / 5 % 8≤7∧0≤r / 5 / 8 % 8∧r / 5 / 8 % 8≤7∧0≤r / 5 / 8 / 8 % 4∧r / 5 / 8 / 8 % 4≤3∧0≤r / 5 / 8 / 8 / 4 / 4:=⟨by rw [← hk,← hj,dm,dm,dm,dm,dm],m0 (by decide),pN (n:=7) rfl,m0 (by decide),pN (n:=7) rfl,m0 (by decide),pN (n:=3) rfl,d0 (d0 (d0 (d0 (d0 h))))⟩
theorem Ct {W:ab} {x:Int} (R:lJ W.ρ x) {c j k md:Nat} (hc:c < 6) (hj:j < 4) (hd:md < 3) (ek:rX x % 5 = dJ (cR c)) (ej:rX x / 5 / 8 / 8 / 4 % 4 = j):Tells W 25 (.ref 1230) [] [vr 48,vr 0,iL (pm 0 0 (mR md)).sz] (.tup [(⟨c,cB j,k,md⟩:aN).mem aY,.str (⟨c,cB j,k,md⟩:aN).way]) []:=by
 refine af fun nG=>?_
 obtain ⟨-,-,-,-,-,r0⟩:=parts x
 obtain ⟨e,p0,p1,q0,q1,s0,s1,z0⟩:=OS r0 ek ej
 obtain ⟨e1,e2⟩:=OO (s:=cB j) (k:=k) hc hd aY
 refine nG ?_
 have G:Sat W.ρ BQ:=.app (bS (R.r51▸p0) (R.r51▸p1)) (.app (bS (R.r52▸q0) (R.r52▸q1)) (.app (bS (R.r4▸s0) (R.r4▸s1)) (.app (ug (R.r54▸z0)) (.app (f7 (by rw [R.r2]; show _ = List.getD _ (W.ρ 51).toNat 0; rw [R.r51]; rfl)) (f7 (by rw [R.r3]; show _ = List.getD _ (W.ρ 52).toNat 0; rw [R.r52]; rfl))))))
 have T:=((Mz.at (OP c hc j hj md hd)).ok rfl) W G trivial
 rw [← e1,← e2]
 refine T.at (fun V v ⟨a,r⟩=>.mk (show bL ((tN (cR c) j).val W.ρ) _ from ?_) r) fun V v r=>r
 have:(tN (cR c) j).val W.ρ = W.ρ 48:=by
  show dJ (cR c) + 5 * (W.ρ 51 + 8 * (W.ρ 52 + 8 * (W.ρ 4 + 4 * ((j:Int) + 4 * W.ρ 54)))) = _
  rw [R.r51,R.r52,R.r4,R.r54,R.r48]; exact e
 rw [this]; exact a
theorem Cu {W:ab} {θ:Th} {hb:HB} {a b:AV} (e:(oK W θ hb a).map (·.1) = some b):zN W θ hb a b:=by
 obtain ⟨⟨c,h⟩,-,q⟩:=Option.map_eq_some_iff.mp e
 cases q; exact h
namespace aN
variable (p:aN)
noncomputable def hb:HB:=[(60,⟨p.mem aY,fun _ _ _ ⟨_,_,_⟩=>rfl⟩),(61,⟨.str p.way,fun _ _ _ ⟨_⟩=>rfl⟩)]
noncomputable def hz:Hz:=fun n=>match n with
 | 60=>⟨p.mem aY,fun _ _ _ ⟨_,_,_⟩=>rfl⟩
 | 61=>⟨.str p.way,fun _ _ _ ⟨_⟩=>rfl⟩
 | n=>ir n
theorem Cv:bY p.hz p.hb:=fun x m=>by
 rcases List.mem_cons.mp m with rfl | m
 ·rfl
 ·rcases List.mem_singleton.mp m with rfl; rfl
theorem Cw {n:Str}:nl (p.mem n) = true:=by
 have hb:nl p.base = true:=by unfold aN.base; split<;>rfl
 have hi:nl p.index = true:=by unfold aN.index; cases p.fh<;>rfl
 show (match nl p.base with | true=>(match nl p.index with | true=>true | false=>false) | false=>false) = true
 rw [hb,hi]
theorem Py (h:nl p.sV = true):True:=⟨⟩
theorem Pz:nl p.line = true:=by
 have hm:=p.Cw (n:=aY)
 have ho:bc (p.ops id) = true:=by
  unfold aN.ops
  split
  ·show (match nl (p.mem aY) with | true=>true | false=>false) = true; rw [hm]
  ·show (match nl (p.mem aY) with | true=>true | false=>false) = true; rw [hm]
  ·show (match nl (p.mem aY) with | true=>true | false=>false) = true; rw [hm]
 show (match bc (p.ops id) with | true=>true | false=>false) = true
 rw [ho]
end aN
noncomputable abbrev lK (p:aN):AV:=.tup [p.line,.lst (wants (wM p.way p.pH) 0)]
noncomputable def OT (g:Bool) (m:Nat):AV:=.tup [ez aZ (cond g [hl 60,iF m] [iF m,hl 60]),.lst [.tup [.str aY,vr 20,.dicI [(4,hl 61)]]]]
noncomputable def OU (m:Nat):AV:=.tup [ez aZ [hl 60,iB (.var 5) bI],.lst [.tup [.str aY,vr 20,.dicI [(4,hl 61)]],.tup [.str bI,vr 21,.dicI [(4,.str (match m with | 0=>dY | _=>cn))]]]]
theorem OV (W:ab) (g:Bool) (c s:Nat) {md:Nat} (hd:md < 3):(oK W .var (aN.hb ⟨c,s,cond g 1 0,md⟩) (OT g (mR md))).map (·.1) = some (lK ⟨c,s,cond g 1 0,md⟩):=by
 rcases md with _ | _ | _ | md<;>first | lia | (cases g<;>kernel_rfl)
theorem OW (W:ab) (c s:Nat) {md:Nat} (hd:md < 3):(oK W .var (aN.hb ⟨c,s,2,md⟩) (OU (mR md))).map (·.1) = some (lK ⟨c,s,2,md⟩):=by
 rcases md with _ | _ | _ | md<;>first | lia | kernel_rfl
theorem OX {W:ab} {p:aN} {V:Vw} {v:Value} (r:Rel W V v (.tup [p.mem aY,.str p.way])):Rel (W.re .var p.hz) V v (.tup [hl 60,hl 61]):=by
 obtain ⟨h,r⟩:=r
 refine .mk h ?_
 obtain ⟨a,r⟩:=r
 refine .mk (P:=fun v=>Rel (W.re .var p.hz) V v (hl 60)) (Q:=fun vs=>ai (W.re .var p.hz) V vs [hl 61]) ?_ ?_
 ·show Rel W ⟨V.g,[]⟩ _ (p.mem aY)
  exact Rel.ad p.Cw a
 ·obtain ⟨b,r⟩:=r
  exact .mk (P:=fun v=>Rel (W.re .var p.hz) V v (hl 61)) (Q:=fun vs=>ai (W.re .var p.hz) V vs []) (show Rel W ⟨V.g,[]⟩ _ (.str p.way) from b) r
theorem Cx {W:ab} {p:aN} {z:Int} (T:Tells W 25 (.ref 1230) [] [vr 48,vr 0,iL z] (.tup [p.mem aY,.str p.way]) []):Tells (W.re .var p.hz) 25 (.ref 1230) [] [vr 48,vr 0,iL z] (.tup [hl 60,hl 61]) []:=T.tr (.er W .var p.hz) (fun V v r=>r) fun V v r=>OX r
theorem OY {W:ab} {x:Int} (R:lJ W.ρ x) {c j md:Nat} (hc:c < 6) (hj:j < 4) (hd:md < 3) (ek:rX x % 5 = dJ (cR c)) (ej:rX x / 5 / 8 / 8 / 4 % 4 = j) (hw:aX x % 7 = 5) (hu:tX x % 2 = mR md):Tells W 30 (.ref 1244) [] [vr 40] (lK ⟨c,cB j,cond (gX x) 1 0,md⟩) []:=by
 generalize hp:(⟨c,cB j,cond (gX x) 1 0,md⟩:aN) = p
 let W':=W.re .var p.hz
 have hc':=pP (ρ:=W.ρ) (way:=.lit 5) (turn:=fj (mR md)) R.r0 hw.symm (uj R.r47 hu) R.r48
 have T:=Cx (p:=p) (z:=(pm 0 0 (mR md)).sz) (hp▸Ct R (k:=cond (gX x) 1 0) hc hj hd ek ej)
 have TL:=((MG.at (a:=mR md) (ui md)).at (pQ (a:=gX x) (b:=sX x))).ok rfl W' (uk (ρ:=W.ρ) R.r0 R.r48 R.r47 R.r1 R.r20) ⟨fun _=>T,trivial⟩
 exact TL.tr (.re W .var p.hz) (fun V v ⟨a,r⟩=>.mk (show bL ((dw (gX x) (sX x) (.lit 5) (fj (mR md))).val W.ρ) _ from hc'.2.trans R.r40.symm▸a) r) (Cu (hp▸OV W (gX x) c (cB j) hd) _ p.Cv)
theorem OZ {W:ab} {x:Int} (R:lJ W.ρ x) {c j md:Nat} (hc:c < 6) (hj:j < 4) (hd:md < 3) (ek:rX x % 5 = dJ (cR c)) (ej:rX x / 5 / 8 / 8 / 4 % 4 = j) (hw:aX x % 7 = 6) (hu:tX x % 2 = mR md):Tells W 30 (.ref 1244) [] [vr 40] (lK ⟨c,cB j,2,md⟩) []:=by
 generalize hp:(⟨c,cB j,2,md⟩:aN) = p
 let W':=W.re .var p.hz
 have hc':=pP (ρ:=W.ρ) (way:=.lit 6) (turn:=fj (mR md)) R.r0 hw.symm (uj R.r47 hu) R.r48
 have T:=Cx (p:=p) (z:=(pm 0 0 (mR md)).sz) (hp▸Ct R (k:=2) hc hj hd ek ej)
 have mo:∀ n,W.ρ n = 5 - W.ρ 0 / 2→Sat W.ρ (tP n):=fun n h=>lH (show 5≤1 * W.ρ n + (1 * (W.ρ 0 / ((2:Nat):Int)) + 0) by rw [h]; lia) (show 1 * W.ρ n + (1 * (W.ρ 0 / ((2:Nat):Int)) + 0)≤5 by rw [h]; lia)
 have e5:W.ρ 5 = 5 - W.ρ 0 / 2:=by rw [R.r5,R.r0]
 have TL:=((MH.at (a:=mR md) (ui md)).at (pQ (a:=gX x) (b:=sX x))).ok rfl W' (.app (uk (ρ:=W.ρ) R.r0 R.r48 R.r47 R.r1 R.r20) (.app (mo 5 e5) (mo 21 (R.r21.trans e5)))) ⟨fun _=>T,trivial⟩
 exact TL.tr (.re W .var p.hz) (fun V v ⟨a,r⟩=>.mk (show bL ((dw (gX x) (sX x) (.lit 6) (fj (mR md))).val W.ρ) _ from hc'.2.trans R.r40.symm▸a) r) (Cu (hp▸OW W c (cB j) hd) _ p.Cv)
section
variable {ρ:Nat→Int} {p:aN}
theorem Cy {f:Nat→Facts} {l:List Nat} (h:∀ n∈l,Sat ρ (f n)):Sat ρ (l.flatMap f):=fun g m=>let ⟨n,hn,k⟩:=List.mem_flatMap.mp m; h n hn g k
theorem uu (n:Nat):0≤(b8 n).val ρ∧(8≤ρ n→(b8 n).val ρ = 1):=by
 show 0≤(if cQ true (7 + -1 * ρ n + 1) = true then (1:Int) else 0)∧(8≤ρ n→(if cQ true (7 + -1 * ρ n + 1) = true then (1:Int) else 0) = 1)
 refine ⟨by split<;>lia,fun h=>if_pos (decide_eq_true (show 7 + -1 * ρ n + 1≤0 by lia))⟩
theorem Cz:∀ {l:List Nat} {n:Nat},n∈l→8≤ρ n→1≤sm ρ (l.map fun n=>(b8 n,1))
 | a::l,n,m,h=>by
  have nn:∀ l:List Nat,0≤sm ρ (l.map fun n=>(b8 n,(1:Int))):=fun l=>by
   induction l with
   | nil=>exact Int.le_refl _
   | cons a l ih=>show 0≤1 * (b8 a).val ρ + _; have:=(uu (ρ:=ρ) a).1; lia
  show 1≤1 * (b8 a).val ρ + sm ρ (l.map fun n=>(b8 n,1))
  rcases List.mem_cons.mp m with rfl | m
  ·have:=nn l; have:=(uu (ρ:=ρ) n).2 h; lia
  ·have:=Cz m h; have:=(uu (ρ:=ρ) a).1; lia
theorem O0 (ha:∀ n,0≤ρ n∨n∉p.dM) (hb:∀ n∈p.dM,0≤ρ n∧ρ n≤15) (h1:p.mode = 1→∀ n∈p.dM,ρ n≤7) (h2:p.mode = 2→∃ n∈p.dM,8≤ρ n) (h0:-2147483648≤ρ 0∧ρ 0≤2147483647) (h4:0≤ρ 4∧ρ 4≤3) (h3:ρ 3≠4) (c1:p.cls = 1→ρ 2 % 8 = 4) (c2:p.cls = 2→ρ 2 % 8≠4):Sat ρ p.facts:=by
 obtain ⟨c,s,k,m⟩:=p
 have an:Sat ρ (aN.any ⟨c,s,k,m⟩):=Cy fun n h=>bS (hb n h).1 (hb n h).2
 refine .app ?_ (.app (bS h0.1 h0.2) (.app ?_ ?_))
 ·dsimp only at h1 h2
  split
  ·rename_i q; exact Cy fun n h=>bS (hb n h).1 (h1 q n h)
  ·rename_i q
   obtain ⟨n,hn,h8⟩:=h2 q
   exact .app (F:=[_]) (fun f m=>by rcases List.mem_singleton.mp m with rfl; exact Cz hn h8) an
  ·exact an
 ·cases aN.fh ⟨c,s,k,m⟩
  ·exact f9
  ·exact .app (bS h4.1 h4.2) fun f m=>by rcases List.mem_singleton.mp m with rfl; show ¬(1 * ρ 3 + 0 = 4); rw [Int.one_mul,Int.add_zero]; exact h3
 ·dsimp only at c1 c2
  split
  ·rename_i q; have:=c1 q; exact lH (show 4≤1 * (ρ 2 % ((8:Nat):Int)) + 0 by lia) (show 1 * (ρ 2 % ((8:Nat):Int)) + 0≤4 by lia)
  ·rename_i q; have:=c2 q; exact fun f m=>by rcases List.mem_singleton.mp m with rfl; exact (show 1 * (ρ 2 % ((8:Nat):Int)) + 0≠4 by lia)
  ·exact f9
end
theorem O2 (x:Int):-2147483648≤wX x∧wX x≤2147483647:=by
 refine af fun nG=>?_
 obtain ⟨-,l0,l1,-,-,-⟩:=parts x
 refine nG ?_
 unfold wX
 cases q:sX x
 ·have:=of_decide_eq_false q; show _≤_ - (0:Int)∧_ - (0:Int)≤_; lia
 ·have:=of_decide_eq_true q; show _≤_ - (4294967296:Int)∧_ - (4294967296:Int)≤_; lia
theorem CA:∀ j,cB j < 3:=fun j=>by unfold cB; split<;>decide
theorem O3 {c s k md:Nat} (hk:k < 3):(iD (k,mR md)).lr = aN.lr ⟨c,s,k,md⟩∧(iD (k,mR md)).c0 = aN.c0 ⟨c,s,k,md⟩:=by
 rcases k with _ | _ | _ | k<;>first | lia | (rcases md with _ | md<;>exact ⟨rfl,rfl⟩)
theorem O4:∀ k,k < 3→∀ m,m < 3→(k,mR m)∈[(0,0),(0,1),(1,0),(1,1),(2,0),(2,1)]:=by decide
theorem pR {c s k md n:Nat} (h:n∈aN.dM ⟨c,s,k,md⟩):n = 1∨n = 2∨n = 3:=by
 rcases List.mem_append.mp h with h | h
 ·split at h
  ·cases h
  ·exact .inl (List.mem_singleton.mp h)
 ·rcases List.mem_append.mp h with h | h
  ·cases q:aN.hasB ⟨c,s,k,md⟩<;>rw [q] at h
   ·cases h
   ·exact .inr (.inl (List.mem_singleton.mp h))
  ·cases q:aN.fh ⟨c,s,k,md⟩<;>rw [q] at h
   ·cases h
   ·exact .inr (.inr (List.mem_singleton.mp h))
theorem CB {W:ab} {m i:Nat} (hm:i < m) {c j k md:Nat} (hc:c < 6) (hk:k < 3) (hd:md < 3) (h1:md = 1→∀ n∈aN.dM ⟨c,0,k,0⟩,gc (W.ρ (60 + i)) n≤7) (h2:md = 2→∃ n∈aN.dM ⟨c,0,k,0⟩,8≤gc (W.ρ (60 + i)) n)
  (c1:c = 1→bV (W.ρ (60 + i)) % 8 = 4) (c2:c = 2→bV (W.ρ (60 + i)) % 8≠4) (T:∀ W':ab,lJ W'.ρ (W.ρ (60 + i))→Tells W' 30 (.ref 1244) [] [vr 40] (lK ⟨c,cB j,k,md⟩) []):∃ q ρ ζ,Fits W m i q ρ ζ:=by
 have hv:¬(k = 2∧md = 2∧(c = 0∨c = 4)):=fun ⟨a,b,d⟩=>by
  obtain ⟨n,hn,-⟩:=h2 b
  subst a
  rcases d with rfl | rfl<;>cases hn
 have R:=OR (σ:=W.ρ) (m:=m) (i:=i)
 have km:=OL c hc k hk md hd hv
 have nn:=List.all_eq_true.mp (List.all_eq_true.mp ON _ (Cr c hc _ (CA j))) _ km
 obtain ⟨f1,f2⟩:=O3 (c:=c) (s:=cB j) (md:=md) hk
 have FF:=Mp (O4 k hk md hd) (W.tn m i (dO (ur W.ρ m i (W.ρ (60 + i))) W.ρ)) f9 trivial
 have rv:∀ n,n = 1∨n = 2∨n = 3→dO (ur W.ρ m i (W.ρ (60 + i))) W.ρ n = gc (W.ρ (60 + i)) n:=fun n h=>by rcases h with rfl | rfl | rfl<;>rfl
 refine fits_of (W:=W) hm (q:=aN.pat ⟨c,cB j,k,md⟩) ((OK.at (Cr c hc _ (CA j))).at km) nn (fun _ _ _ ⟨_,_,_⟩=>rfl) ?_ (T (W.tn m i _) R) ?_
 ·refine .app (O0 (fun n=>?_) (fun n h=>?_) (fun q n h=>?_) (fun q=>?_) (R.r0▸O2 _) (by rw [R.r4]; lia) (by rw [R.r3]; exact (uq _).2.2) (fun q=>R.r2▸c1 q) fun q=>R.r2▸c2 q) (.app (f7 R.r20) ?_)
  ·by_cases h:n∈aN.dM ⟨c,cB j,k,md⟩
   ·exact .inl (rv n (pR h)▸(Cs _ n).1)
   ·exact .inr h
  ·rw [rv n (pR h)]; exact Cs _ n
  ·rw [rv n (pR h)]; exact h1 q n h
  ·obtain ⟨n,hn,h8⟩:=h2 q; exact ⟨n,hn,by rw [rv n (pR hn)]; exact h8⟩
  ·split
   ·exact f7 R.r21
   ·exact f9
 ·show Tells _ 40 (.ref 982) [] [cu,aN.lr ⟨c,cB j,k,md⟩] (.lst [aN.c0 ⟨c,cB j,k,md⟩]) []
  rw [← f1,← f2]; exact FF
noncomputable def jJ (a k:Int) (Q:Prop):Nat→Prop
 | 0=>a % k = (0:Nat)→Q
 | n + 1=>(a % k = (n + 1:Nat)→Q)∧jJ a k Q n
theorem jJ.at {a k:Int} {Q:Prop} {n:Nat} (e:a % k = n):∀ m:Nat,jJ a k Q m→n < m + 1→Q
 | 0,h,l=>h (by rw [e,Nat.lt_one_iff.mp l])
 | m + 1,h,l=>(Nat.lt_or_eq_of_le (Nat.le_of_lt_succ l)).elim (jJ.at e m h.2) fun q=>h.1 (by rw [e,q])
theorem lL (a:Int) (k:Nat) {Q:Prop} (h:jJ a ((k:Int) + 1) Q k):Q:=by
 obtain ⟨n,hn,e⟩:=Cm a k
 exact jJ.at e k h hn
theorem uv (x:Int) (l:List Nat):∃ md,md < 3∧tX x % 2 = mR md∧(md = 1→∀ n∈l,gc x n≤7)∧(md = 2→∃ n∈l,8≤gc x n):=by
 refine lL (tX x) 1 (.intro (fun e=>?_) fun e=>?_)
 ·by_cases h:∀ n∈l,gc x n≤7
  ·exact ⟨1,by decide,e,fun _=>h,nofun⟩
  ·refine ⟨2,by decide,e,(fun e=>by cases e),fun _=>?_⟩
   refine af fun nG=>?_
   obtain ⟨n,h⟩:=Classical.not_forall.mp h
   obtain ⟨hn,h⟩:=Classical.not_imp.mp h
   refine nG ?_
   exact ⟨n,hn,Int.not_le.mp h⟩
 ·exact ⟨0,by decide,e,(fun e=>by cases e),(fun e=>by cases e)⟩
theorem O5 (x:Int):∃ c,c < 6∧rX x % 5 = dJ (cR c)∧(c = 1→bV x % 8 = 4)∧(c = 2→bV x % 8≠4):=by
 have o:∀ c,2 < c→c < 6→rX x % 5 = dJ (cR c)→∃ c,c < 6∧rX x % 5 = dJ (cR c)∧(c = 1→bV x % 8 = 4)∧(c = 2→bV x % 8≠4):=fun c l m h=>⟨c,m,h,fun e=>absurd l (by rw [e]; decide),fun e=>absurd l (by rw [e]; decide)⟩
 refine lL (rX x) 4 (.intro (o 5 (by decide) (by decide)) (.intro (o 4 (by decide) (by decide)) (.intro (o 3 (by decide) (by decide)) (.intro (fun h=>?_) fun h=>⟨0,by decide,h,(fun e=>by cases e),(fun e=>by cases e)⟩))))
 by_cases b:bV x % 8 = 4
 ·exact ⟨1,by decide,h,fun _=>b,(fun e=>by cases e)⟩
 ·exact ⟨2,by decide,h,(fun e=>by cases e),fun _=>b⟩
section
variable {ρ:Nat→Int} {x:Int}
theorem lM {d:Int} (h:tX x % 5 = d) (e:ρ 47 = tX x / 5):(t5 d).val ρ = tX x:=by show d + 5 * ρ 47 = _; rw [e,← h]; exact dm _ _
theorem pS {d:Int} (h:tX x % 4 = d) (e:ρ 47 = tX x / 4):(t4 d).val ρ = tX x:=by show d + 4 * ρ 47 = _; rw [e,← h]; exact dm _ _
theorem CC (k n:Nat) (h:(n + 1) * k = 20) (hk:(0:Int) < k) (e:ρ 47 = tX x / k):Sat ρ (aI 47 0 n):=by
 refine af fun nG=>?_
 obtain ⟨-,-,-,t0,t1,-⟩:=parts x
 refine nG ?_
 have h2:tX x < ((n:Int) + 1) * k:=by
  rw [show ((n:Int) + 1) * k = ((n + 1) * k:Nat) from rfl,h]
  exact Int.lt_add_one_of_le t1
 exact bS (by rw [e]; exact d0 t0) (by rw [e]; exact Int.le_of_lt_add_one (Int.ediv_lt_of_lt_mul hk h2))
end
theorem fits (W:ab) {m i:Nat} (hm:i < m):∃ q ρ ζ,Fits W m i q ρ ζ:=by
 refine af fun nG=>?_
 obtain ⟨c,hc,ek,c1,c2⟩:=O5 (W.ρ (60 + i))
 obtain ⟨j,hj,ej⟩:=Cm (rX (W.ρ (60 + i)) / 5 / 8 / 8 / 4) 3
 refine nG ?_
 have im:∀ {k:Int},(aX (W.ρ (60 + i)) % 7 = k)→(k = 3∨k = 4)→∃ q ρ ζ,Fits W m i q ρ ζ:=fun {k} hw hk=>by
  refine af fun nG=>?_
  obtain ⟨md,hd,hu,h1,h2⟩:=uv (W.ρ (60 + i)) [1]
  refine nG ?_
  exact Nq hm hd (by rw [hw]; rcases hk with rfl | rfl<;>decide) (by rw [hw]; rcases hk with rfl | rfl<;>decide) hu (by
   match md,hd,h1,h2 with
   | 0,_,_,_=>exact bS (lI _).1 (lI _).2
   | 1,_,h1,_=>exact bS (lI _).1 (h1 rfl 1 (.head _))
   | 2,_,_,h2=>
    refine af fun nG=>?_
    obtain ⟨n,hn,h⟩:=h2 rfl
    refine nG ?_
    cases List.mem_singleton.mp hn
    exact bS h (lI _).2)
 refine lL (aX (W.ρ (60 + i))) 6 (.intro (fun hw=>?_) (.intro (fun hw=>?_) (.intro (fun hw=>im hw (.inr rfl)) (.intro (fun hw=>im hw (.inl rfl)) (.intro (fun hw=>?_) (.intro (fun hw=>?_) fun hw=>?_))))))
 ·refine af fun nG=>?_
  obtain ⟨md,hd,hu,h1,h2⟩:=uv (W.ρ (60 + i)) (aN.dM ⟨c,0,2,0⟩)
  refine nG ?_
  exact CB hm hc (by decide) hd h1 h2 c1 c2 fun W' R=>OZ R hc hj hd ek ej hw hu
 ·refine af fun nG=>?_
  obtain ⟨md,hd,hu,h1,h2⟩:=uv (W.ρ (60 + i)) (aN.dM ⟨c,0,cond (gX (W.ρ (60 + i))) 1 0,0⟩)
  refine nG ?_
  exact CB hm hc (by cases gX (W.ρ (60 + i))<;>decide) hd h1 h2 c1 c2 fun W' R=>OY R hc hj hd ek ej hw hu
 ·have f:∀ ρ:Nat→Int,ρ 47 = tX (W.ρ (60 + i)) / 4→Sat ρ (aI 47 0 4):=fun ρ=>CC 4 4 rfl (by decide)
  exact lL (tX (W.ρ (60 + i))) 3 (.intro (fun e=>fm hm (n:=9) rfl rfl hw (by decide) (fun _=>pS e) f) (.intro (fun e=>fm hm (n:=8) rfl rfl hw (by decide) (fun _=>pS e) f) (.intro (fun e=>fm hm (n:=7) rfl rfl hw (by decide) (fun _=>pS e) f) fun e=>fm hm (n:=6) rfl rfl hw (by decide) (fun _=>pS e) f)))
 ·refine af fun nG=>?_
  obtain ⟨-,-,-,t0,t1,-⟩:=parts (W.ρ (60 + i))
  refine nG ?_
  exact fm hm (n:=5) (k:=tX (W.ρ (60 + i))) rfl rfl hw (by decide) (fun ρ e=>e) fun ρ e=>bS (by rw [e]; exact t0) (by rw [e]; exact t1)
 ·have f:∀ ρ:Nat→Int,ρ 47 = tX (W.ρ (60 + i)) / 5→Sat ρ (aI 47 0 3):=fun ρ=>CC 5 3 rfl (by decide)
  exact lL (tX (W.ρ (60 + i))) 4 (.intro (fun e=>fm hm (n:=4) rfl rfl hw (by decide) (fun _=>lM e) f) (.intro (fun e=>fm hm (n:=3) rfl rfl hw (by decide) (fun _=>lM e) f) (.intro (fun e=>fm hm (n:=2) rfl rfl hw (by decide) (fun _=>lM e) f) (.intro (fun e=>fm hm (n:=1) rfl rfl hw (by decide) (fun _=>lM e) f) fun e=>fm hm (n:=0) rfl rfl hw (by decide) (fun _=>lM e) f))))
theorem O6 (W:ab):ub.all (Cd W) = true:=by kernel_rfl
theorem O7 (W:ab):(List.range 64).all (uc W) = true:=by kernel_rfl
theorem O8 (W:ab):isOk (iC (W:=W) (sc:=c7) iI (iJ W) [(fZ,hl 76)] (dN.take 1) [(eN,cu),(fZ,hl 76)]) = true:=by kernel_rfl
theorem O9:∀ m,m < 7→∀ i,i < m→(m,i)∈ub:=by decide
theorem Pa (W:ab) (m:Nat) (hm:m≤6):pM W m:=fun i hi c hc=>by
 obtain ⟨q,ρ,ζ,a⟩:=fits W hi
 have mm:=O9 m (by lia) i hi
 exact turn mm (fun W=>List.all_eq_true.mp (O6 W) _ mm) a c hc
theorem Pb {w:World} {os:OsState} {h:Heap} (B:Behind w os h):Good w os h:=Nk O7 O8 Pa B
end Mine
end
section
set_option backward.match.sparseCases false
open PySem PySem.W PyProof.Rows PySem.Calls
set_option maxRecDepth 100000
set_option maxHeartbeats 8000000
namespace Mine
theorem promised:RW.row.toRowW.promised:=by w_witness2
theorem Pc:PySem.W.Fast.tw9446332074065402090 PySem.Challenge.rw_nn0086_01 = true:=by
 repeat' first
  | with_reducible refine look_both ?_ ?_
  | delta PySem.W.Fast.tw9446332074065402090
  | delta PySem.W.Fast.tw17960256430627541270
  | delta PySem.W.Fast.tw2436336058641802641
  | delta PySem.W.Fast.tw12908688711261696721
  | as_aux_lemma=>kernel_rfl
theorem finish (H:∀ w os h,Behind w os h→Good w os h):PySem.Challenge.rw_nn0086_01.Holds:=
 PySem.W.holds_law ((congrFun PySem.W.Fast.te9446332074065402090 _).trans Pc) (M4 H promised)
end Mine
end
theorem PySem.Challenge.cw_nn0086_01_holds : PySem.Challenge.rw_nn0086_01.Holds :=
 Mine.finish fun w os h B => Mine.Pb B
