import PyProof.Rows.All
import Wide.All
import OpenK.AllK
import Wide.FinOn
import Open.Tops
import KE.KBytesWalk
import KE.KIntText
import KE.KSortTup
import KE.KLam
import KE.KNestM
import KE.KDictSum
import Lean
import PySem.Challenge.RW_nn0086_01
set_option Elab.async false
set_option linter.all false
set_option tactic.hygienic false
set_option genInjectivity false
set_option genSizeOf false
set_option genCtorIdx false
set_option bootstrap.genMatcherCode false
section
set_option backward.match.sparseCases false
namespace Mine
theorem af {p:Prop} (h:¬¬p):p:=Classical.byContradiction h
theorem aR {p:Prop} (h:false = true):p:=nomatch h
theorem fj {p:Prop} (h:true = false):p:=nomatch h
theorem aq {α:Type _} {p:Prop} {a:α} (h:none = some a):p:=nomatch h
theorem c5 {α:Type _} {p:Prop} {a:α} (h:some a = none):p:=nomatch h
theorem f9 {α:Type} {P:α→Prop}:∀ x∈([]:List α),P x:=fun _ h=>(List.not_mem_nil h).elim
inductive SE where
 | lit (i:Int)
 | var (n:Nat)
 | add (a b:SE)
 | mul (k:Int) (a:SE)
 | div (a:SE) (k:Nat)
 | mod (a:SE) (k:Nat)
 | bit (k:Bool) (a:SE)
 | tab (l:List Int) (a:SE)
 | abs (a:SE)
noncomputable def cO (k:Bool) (i:Int):Bool:=match k with
 | true=>decide (i≤0)
 | false=>decide (i = 0)
noncomputable def br (a b:Int):Bool:=match b - a with
 | .ofNat _=>true
 | .negSucc _=>false
noncomputable def bc (a b:Int):Bool:=match a,b with
 | .ofNat m,.ofNat n=>Nat.beq m n
 | .negSucc m,.negSucc n=>Nat.beq m n
 | _,_=>false
theorem lI (a b:Int):br a b = decide (a≤b):=by
 unfold br
 cases h:b - a with
 | ofNat n=>exact (decide_eq_true (by have:b - a = (n:Int):=h; lia)).symm
 | negSucc n=>exact (decide_eq_false (by have:=Int.negSucc_lt_zero n; lia)).symm
theorem gO:∀ a b:Int,bc a b = (a == b)
 | .ofNat m,.ofNat n | .negSucc m,.negSucc n=>by
  rw [Bool.eq_iff_iff,beq_iff_eq]
  exact (show Nat.beq m n = true↔_ by rw [Nat.beq_eq]; exact ⟨fun e=>e▸rfl,fun e=>by injection e⟩)
 | .ofNat _,.negSucc _ | .negSucc _,.ofNat _=>rfl
theorem dy {a b:Int} (h:br a b = true):a≤b:=by rw [lI] at h; exact of_decide_eq_true h
theorem dN {a b:Int} (h:bc a b = true):a = b:=by rw [gO] at h; exact beq_iff_eq.mp h
noncomputable def dz:Bool→Bool→Bool
 | true,b=>b
 | false,true=>false
 | false,false=>true
theorem lJ:∀ {a b:Bool},dz a b = true→a = b
 | true,true,_ | false,false,_=>rfl
noncomputable def aG:Bool→Bool→Bool
 | true,b=>b
 | false,_=>false
theorem aB:∀ {a b:Bool},aG a b = true→a = true∧b = true
 | true,true,_=>⟨rfl,rfl⟩
theorem eK {α:Type}:∀ {a:Bool} {x y z:α},cond a x y = z→(a = true∧x = z)∨(a = false∧y = z)
 | true,_,_,_,h=>.inl ⟨rfl,h⟩
 | false,_,_,_,h=>.inr ⟨rfl,h⟩
noncomputable def gP:List Int→List Int→Bool
 | [],[]=>true
 | a::l,b::m=>aG (bc a b) (gP l m)
 | _,_=>false
theorem pO:∀ {l m:List Int},gP l m = true→l = m
 | [],[],_=>rfl
 | a::l,b::m,h=>dN (aB h).1▸pO (aB h).2▸rfl
namespace SE
noncomputable def val (ρ:Nat→Int):SE→Int
 | lit i=>i
 | var n=>ρ n
 | add a b=>a.val ρ + b.val ρ
 | mul k a=>k * a.val ρ
 | div a k=>a.val ρ / k
 | mod a k=>a.val ρ % k
 | bit k a=>if cO k (a.val ρ) = true then 1 else 0
 | tab l a=>l.getD (a.val ρ).toNat 0
 | abs a=>((a.val ρ).natAbs:Int)
noncomputable def beq:SE→SE→Bool
 | lit i,lit j=>bc i j
 | var m,var n=>Nat.beq m n
 | add a b,add c d=>aG (beq a c) (beq b d)
 | mul k a,mul j b=>aG (bc k j) (beq a b)
 | div a k,div b j=>aG (Nat.beq k j) (beq a b)
 | mod a k,mod b j=>aG (Nat.beq k j) (beq a b)
 | bit k a,bit j b=>aG (dz k j) (beq a b)
 | tab l a,tab m b=>aG (gP l m) (beq a b)
 | abs a,abs b=>beq a b
 | _,_=>false
theorem um {a:SE}:∀ {b:SE},beq a b = true→a = b:=by
 induction a with
 | lit=>intro b h; cases b with
  | lit=>exact congrArg _ (dN h)
  | _=>exact aR h
 | var=>intro b h; cases b with
  | var=>exact congrArg _ (Nat.eq_of_beq_eq_true h)
  | _=>exact aR h
 | add _ _ i j=>intro b h; cases b with
  | add=>exact i (aB h).1▸j (aB h).2▸rfl
  | _=>exact aR h
 | mul _ _ i=>intro b h; cases b with
  | mul=>exact dN (aB h).1▸i (aB h).2▸rfl
  | _=>exact aR h
 | div _ _ i=>intro b h; cases b with
  | div=>exact Nat.eq_of_beq_eq_true (aB h).1▸i (aB h).2▸rfl
  | _=>exact aR h
 | mod _ _ i=>intro b h; cases b with
  | mod=>exact Nat.eq_of_beq_eq_true (aB h).1▸i (aB h).2▸rfl
  | _=>exact aR h
 | bit _ _ i=>intro b h; cases b with
  | bit=>exact lJ (aB h).1▸i (aB h).2▸rfl
  | _=>exact aR h
 | tab _ _ i=>intro b h; cases b with
  | tab=>exact pO (aB h).1▸i (aB h).2▸rfl
  | _=>exact aR h
 | abs _ i=>intro b h; cases b with
  | abs=>exact congrArg _ (i h)
  | _=>exact aR h
end SE
noncomputable abbrev LF:=List (SE×Int)
noncomputable def sm (ρ:Nat→Int):LF→Int
 | []=>0
 | (e,k)::l=>k * e.val ρ + sm ρ l
noncomputable def ins (e:SE) (k:Int):LF→LF
 | []=>[(e,k)]
 | (f,j)::l=>(match e.beq f with
  | true=>(match bc (j + k) 0 with
   | true=>l
   | false=>(f,j + k)::l)
  | false=>(f,j)::ins e k l)
section
variable {ρ:Nat→Int}
theorem dA (e:SE) (k:Int):∀ l:LF,sm ρ (ins e k l) = k * e.val ρ + sm ρ l
 | []=>rfl
 | (f,j)::l=>by
  show sm ρ (match e.beq f with | true=>_ | false=>_) = k * e.val ρ + (j * f.val ρ + sm ρ l)
  cases h:e.beq f with
  | true=>
   obtain rfl:=SE.um h
   have z:(j + k) * e.val ρ = j * e.val ρ + k * e.val ρ:=Int.add_mul ..
   show sm ρ (match bc (j + k) 0 with | true=>_ | false=>_) = _
   cases q:bc (j + k) 0 with
   | true=>rw [dN q,Int.zero_mul] at z; show sm ρ l = _; lia
   | false=>show (j + k) * e.val ρ + sm ρ l = _; lia
  | false=>show j * f.val ρ + sm ρ (ins e k l) = _; rw [dA e k l]; lia
noncomputable def bg:SE→Int→Int×LF→Int×LF
 | .lit i,k,a=>(a.1 + k * i,a.2)
 | .add x y,k,a=>bg y k (bg x k a)
 | .mul j x,k,a=>bg x (k * j) a
 | e,k,a=>(a.1,ins e k a.2)
theorem fk:∀ (e:SE) (k:Int) (a:Int×LF),(bg e k a).1 + sm ρ (bg e k a).2 = a.1 + sm ρ a.2 + k * e.val ρ
 | .lit i,k,a=>by show a.1 + k * i + sm ρ a.2 = a.1 + sm ρ a.2 + k * i; lia
 | .add x y,k,a=>by
  have h1:=fk y k (bg x k a)
  have h2:=fk x k a
  show (bg y k (bg x k a)).1 + sm ρ (bg y k (bg x k a)).2 = a.1 + sm ρ a.2 + k * (x.val ρ + y.val ρ)
  rw [h1,h2,Int.mul_add]; lia
 | .mul j x,k,a=>by
  have h1:=fk x (k * j) a
  show (bg x (k * j) a).1 + sm ρ (bg x (k * j) a).2 = a.1 + sm ρ a.2 + k * (j * x.val ρ)
  rw [h1,Int.mul_assoc]
 | .var n,k,a=>by show a.1 + sm ρ (ins (.var n) k a.2) = _; rw [dA]; lia
 | .div x j,k,a=>by show a.1 + sm ρ (ins (.div x j) k a.2) = _; rw [dA]; lia
 | .mod x j,k,a=>by show a.1 + sm ρ (ins (.mod x j) k a.2) = _; rw [dA]; lia
 | .bit x j,k,a=>by show a.1 + sm ρ (ins (.bit x j) k a.2) = _; rw [dA]; lia
 | .tab x j,k,a=>by show a.1 + sm ρ (ins (.tab x j) k a.2) = _; rw [dA]; lia
 | .abs x,k,a=>by show a.1 + sm ρ (ins (.abs x) k a.2) = _; rw [dA]; lia
noncomputable def Cy (k:Int):LF→LF
 | []=>[]
 | (e,j)::l=>(e,k * j)::Cy k l
noncomputable def gone (k:Int):LF→LF→Bool
 | [],[]=>true
 | _,[]=>false
 | l,(e,j)::m=>gone k (ins e (k * j) l) m
theorem jG {k:Int}:∀ {m l:LF},gone k l m = true→sm ρ l + k * sm ρ m = 0
 | [],[],_=>by show (0:Int) + k * 0 = 0; lia
 | (e,j)::m,l,h=>by
  have h:gone k (ins e (k * j) l) m = true:=by cases l<;>exact h
  have:=jG h
  rw [dA] at this
  show sm ρ l + k * (j * e.val ρ + sm ρ m) = 0
  rw [Int.mul_add,← Int.mul_assoc]; lia
inductive gQ where
 | ge (l:LF) (n:Int)
 | le (l:LF) (n:Int)
 | ne (l:LF) (n:Int)
noncomputable def gQ.Ok (ρ:Nat→Int):gQ→Prop
 | ge l n=>n≤sm ρ l
 | le l n=>sm ρ l≤n
 | ne l n=>sm ρ l≠n
noncomputable abbrev Facts:=List gQ
noncomputable def Sat (ρ:Nat→Int) (G:Facts):Prop:=∀ f∈G,f.Ok ρ
noncomputable def LB (ρ:Nat→Int) (l:LF) (n:Option Int):Prop:=∀ m,n = some m→m≤sm ρ l
noncomputable def jH:Option Int→Option Int→Option Int
 | none,b=>b
 | a,none=>a
 | some a,some b=>(match br a b with
  | true=>some b
  | false=>some a)
theorem lK {x:Int}:∀ {a b:Option Int},(∀ m,a = some m→m≤x)→(∀ m,b = some m→m≤x)→∀ m,jH a b = some m→m≤x
 | none,_,_,h2,m,e=>h2 m e
 | some _,none,h1,_,m,e=>h1 m e
 | some a,some b,h1,h2,m,e=>by
  change (match br a b with | true=>some b | false=>some a) = some m at e
  cases q:br a b<;>rw [q] at e
  ·exact h1 m e
  ·exact h2 m e
noncomputable def uo:Option Int→Option Int→Option Int
 | some a,some b=>some (a + b)
 | _,_=>none
theorem Cz {x y:Int}:∀ {a b:Option Int},(∀ m,a = some m→m≤x)→(∀ m,b = some m→m≤y)→∀ m,uo a b = some m→m≤x + y
 | some a,some b,h1,h2,m,e=>by have:=h1 a rfl; have:=h2 b rfl; cases e; lia
noncomputable def gb:Facts→LF→Option Int
 | [],_=>none
 | .ge m n::G,l=>(match gone (-1) l m with
  | true=>jH (some n) (gb G l)
  | false=>gb G l)
 | .le m n::G,l=>(match gone 1 l m with
  | true=>jH (some (-n)) (gb G l)
  | false=>gb G l)
 | .ne _ _::G,l=>gb G l
theorem pP {l:LF}:∀ {G:Facts},Sat ρ G→LB ρ l (gb G l)
 | [],_=>fun _ e=>(by exact aq e)
 | f::G,h=>by
  have ih:=pP (l:=l) (G:=G) fun f m=>h f (.tail _ m)
  have hf:=h f (.head _)
  cases f with
  | ge m n=>
   change LB ρ l (match gone (-1) l m with | true=>_ | false=>_)
   cases q:gone (-1) l m with
   | true=>exact lK (fun x e=>by have:=jG (ρ:=ρ) q; have:n≤sm ρ m:=hf; cases e; lia) ih
   | false=>exact ih
  | le m n=>
   change LB ρ l (match gone 1 l m with | true=>_ | false=>_)
   cases q:gone 1 l m with
   | true=>exact lK (fun x e=>by have:=jG (ρ:=ρ) q; have:sm ρ m≤n:=hf; cases e; lia) ih
   | false=>exact ih
  | ne=>exact ih
noncomputable def sg (s:Bool):Int:=match s with
 | true=>1
 | false=>-1
noncomputable def pQ (b:SE→Bool→Option Int):LF→Option Int
 | []=>some 0
 | (e,k)::l=>uo (match br 0 k with
  | true=>(b e true).map (k * ·)
  | false=>(b e false).map (-k * ·)) (pQ b l)
theorem uq {b:SE→Bool→Option Int} (hb:∀ e s m,b e s = some m→m≤sg s * e.val ρ):∀ {l:LF},LB ρ l (pQ b l)
 | []=>fun m e=>by cases e; exact Int.le_refl _
 | (e,k)::l=>by
  refine Cz (fun m q=>?_) (uq hb)
  cases z:br 0 k<;>rw [z] at q<;>obtain ⟨n,h1,rfl⟩:=Option.map_eq_some_iff.mp q<;>rw [lI] at z
  ·have:=Int.mul_le_mul_of_nonneg_left (hb _ _ _ h1) (show 0≤-k by have:=of_decide_eq_false z; lia)
   rwa [show -k * (sg false * e.val ρ) = k * e.val ρ by show -k * (-1 * _) = _; rw [Int.neg_one_mul,Int.neg_mul_neg]] at this
  ·have:=Int.mul_le_mul_of_nonneg_left (hb _ _ _ h1) (of_decide_eq_true z)
   rwa [show k * (sg true * e.val ρ) = k * e.val ρ by show k * (1 * _) = _; rw [Int.one_mul]] at this
noncomputable def pR (b:LF→Option Int) (e:SE) (s:Bool):Option Int:=match bg e (sg s) (0,[]) with
 | (c,l)=>(b l).map (c + ·)
theorem ur {b:LF→Option Int} (hb:∀ l,LB ρ l (b l)) {e:SE} {s:Bool} {m:Int} (h:pR b e s = some m):m≤sg s * e.val ρ:=by
 obtain ⟨n,h1,rfl⟩:=Option.map_eq_some_iff.mp (show ((b (bg e (sg s) (0,[])).2).map ((bg e (sg s) (0,[])).1 + ·)) = some m from h)
 have:=hb _ _ h1
 have e1:=fk (ρ:=ρ) e (sg s) (0,[])
 change _ = 0 + 0 + _ at e1
 lia
noncomputable def bJ (n:Int):Option Int→Bool
 | some m=>br n m
 | none=>false
theorem cC {n x:Int}:∀ {o:Option Int},(∀ m,o = some m→m≤x)→bJ n o = true→n≤x
 | some m,h,e=>Int.le_trans (dy e) (h m rfl)
noncomputable def iH (k:Bool) (lo hi:Option Int):Option Bool:=cond (bJ 1 lo) (some false) (cond k (cond (bJ 0 hi) (some true) none) (cond (bJ 1 hi) (some false) (cond (aG (bJ 0 lo) (bJ 0 hi)) (some true) none)))
theorem uu {k:Bool} {x:Int} (q:x≠0) (z:k = true→1≤x):cO k x = false:=by
 cases k
 ·exact decide_eq_false q
 ·exact decide_eq_false (by have:=z rfl; lia)
theorem uv {k r:Bool} {lo hi:Option Int} {x:Int} (h1:∀ m,lo = some m→m≤x) (h2:∀ m,hi = some m→m≤-x) (h:iH k lo hi = some r):cO k x = r:=by
 rcases eK h with ⟨q,e⟩ | ⟨-,h⟩
 ·have:=cC h1 q; exact (uu (by lia) fun _=>this).trans (Option.some.inj e)
 ·cases k
  ·rcases eK (show cond (bJ 1 hi) _ _ = _ from h) with ⟨q,e⟩ | ⟨-,h⟩
   ·have:=cC h2 q; exact (uu (k:=false) (x:=x) (by lia) fun z=>aR z).trans (Option.some.inj e)
   ·rcases eK h with ⟨q,e⟩ | ⟨-,h⟩
    ·obtain ⟨q1,q2⟩:=aB q
     have:=cC h1 q1; have:=cC h2 q2
     exact (decide_eq_true (by lia)).trans (Option.some.inj e)
    ·exact aq h
  ·rcases eK (show cond (bJ 0 hi) _ _ = _ from h) with ⟨q,e⟩ | ⟨-,h⟩
   ·have:=cC h2 q; exact (decide_eq_true (by lia)).trans (Option.some.inj e)
   ·exact aq h
noncomputable def pS (s:Bool):List Int→Option Int
 | []=>none
 | [x]=>some (sg s * x)
 | x::l=>(pS s l).map fun m=>cond (br (sg s * x) m) (sg s * x) m
theorem uw {s:Bool}:∀ {l:List Int} {m:Int},pS s l = some m→∀ x∈l,m≤sg s * x
 | [y],m,e,x,h=>by cases e; rw [List.mem_singleton.mp h]; exact Int.le_refl _
 | y::z::l,m,e,x,h=>by
  obtain ⟨n,e1,rfl⟩:=Option.map_eq_some_iff.mp e
  have ih:=uw e1
  cases q:br (sg s * y) n
  ·show n≤_
   rcases List.mem_cons.mp h with rfl | h
   ·rw [lI] at q; have:=of_decide_eq_false q; lia
   ·exact ih x h
  ·show sg s * y≤_
   rcases List.mem_cons.mp h with rfl | h
   ·exact Int.le_refl _
   ·exact Int.le_trans (dy q) (ih x h)
noncomputable def ux (S:SE→Bool→Option Int) (e:SE) (s:Bool):Option Int:=match e with
 | .div a k=>cond (Nat.ble 1 k) (cond s ((S a true).map (· / (k:Int))) ((S a false).map fun m=>-(-m / (k:Int)))) none
 | .mod a k=>cond (Nat.ble 1 k) (cond (aG (bJ 0 (S a true)) (bJ (1 - k) (S a false))) (S a s) (some (cond s 0 (1 - k)))) none
 | .bit k a=>(match iH k (S a true) (S a false) with
  | some r=>some (cond r (sg s) 0)
  | none=>some (cond s 0 (-1)))
 | .tab l a=>(match S a true,S a false with
  | some lo,some hi=>cond (aG (br 0 lo) (br (1 - l.length) hi)) (pS s ((l.drop lo.toNat).take (1 - hi - lo).toNat)) none
  | _,_=>none)
 | .abs a=>cond s (some 0) none
 | _=>none
theorem CA {S:SE→Bool→Option Int} (hS:∀ e s m,S e s = some m→m≤sg s * e.val ρ) {e:SE} {s:Bool} {m:Int} (h:ux S e s = some m):m≤sg s * e.val ρ:=by
 have up:∀ {a:SE} m,S a true = some m→m≤a.val ρ:=fun {a} m h=>by have q:m≤1 * a.val ρ:=hS _ _ _ h; lia
 have dn:∀ {a:SE} m,S a false = some m→m≤-a.val ρ:=fun {a} m h=>by have q:m≤-1 * a.val ρ:=hS _ _ _ h; lia
 have fin:∀ {x:Int},(s = true→m≤x)→(s = false→m≤-x)→m≤sg s * x:=fun {x} p q=>by
  cases s
  ·have:=q rfl; show m≤-1 * x; lia
  ·have:=p rfl; show m≤1 * x; lia
 have pl:∀ {x k:Int},some (cond s 0 k) = some m→0≤x→k≤-x→m≤sg s * x:=fun {x k} e p q=>by
  cases s<;>cases e
  ·exact fin nofun fun _=>q
  ·exact fin (fun _=>p) nofun
 cases e with
 | div a k=>
  rcases eK h with ⟨z,h⟩ | ⟨-,h⟩
  ·have z:(0:Int) < k:=by have:=Nat.le_of_ble_eq_true z; lia
   cases s<;>obtain ⟨n,h1,rfl⟩:=Option.map_eq_some_iff.mp h
   ·have:a.val ρ / (k:Int)≤-n / (k:Int):=Int.ediv_le_ediv z (by have:=dn _ h1; lia)
    exact fin nofun fun _=>by show _≤-(a.val ρ / (k:Int)); lia
   ·exact fin (fun _=>Int.ediv_le_ediv z (up _ h1)) nofun
  ·exact aq h
 | mod a k=>
  rcases eK h with ⟨z,h⟩ | ⟨-,h⟩
  ·have z:(0:Int) < k:=by have:=Nat.le_of_ble_eq_true z; lia
   have b1:=Int.emod_nonneg (a.val ρ) (show (k:Int)≠0 by lia)
   have b2:=Int.emod_lt_of_pos (a.val ρ) z
   show m≤sg s * (a.val ρ % k)
   rcases eK h with ⟨q,h⟩ | ⟨-,h⟩
   ·obtain ⟨q1,q2⟩:=aB q
    have:=cC up q1; have:=cC dn q2
    rw [Int.emod_eq_of_lt (by lia) (by lia)]
    exact hS _ _ _ h
   ·exact pl h b1 (by lia)
  ·exact aq h
 | bit k a=>
  show m≤sg s * (if cO k (a.val ρ) = true then 1 else 0)
  change (match iH k (S a true) (S a false) with | some r=>some (cond r (sg s) 0) | none=>_) = some m at h
  cases q:iH k (S a true) (S a false) with
  | none=>rw [q] at h; split<;>exact pl h (by decide) (by decide)
  | some r=>
   rw [q] at h
   rw [uv up dn q]
   cases r<;>cases h
   ·show (0:Int)≤sg s * 0; lia
   ·show sg s≤sg s * 1; lia
 | tab l a=>
  change (match S a true,S a false with | some lo,some hi=>_ | _,_=>none) = some m at h
  cases q1:S a true with
  | none=>rw [q1] at h; exact aq h
  | some lo=>
   cases q2:S a false with
   | none=>rw [q1,q2] at h; exact aq h
   | some hi=>
    rw [q1,q2] at h
    rcases eK h with ⟨q,h⟩ | ⟨-,h⟩
    ·have:=dy (aB q).1; have:=dy (aB q).2; have:=up _ q1; have:=dn _ q2
     have z:(a.val ρ).toNat < l.length:=by lia
     refine uw h _ (List.mem_iff_getElem?.mpr ⟨(a.val ρ).toNat - lo.toNat,?_⟩)
     rw [List.getElem?_take_of_lt (by lia),List.getElem?_drop,show lo.toNat + ((a.val ρ).toNat - lo.toNat) = (a.val ρ).toNat by lia,List.getElem?_eq_getElem z]
     show _ = some (l.getD (a.val ρ).toNat 0)
     rw [List.getD_eq_getElem?_getD,List.getElem?_eq_getElem z]; rfl
    ·exact aq h
 | abs a=>
  cases s
  ·exact aq h
  ·cases h
   show (0:Int)≤1 * ((a.val ρ).natAbs:Int)
   lia
 | lit | var | add | mul=>exact aq h
noncomputable def lb (G:Facts):Nat→LF→Option Int
 | 0,_=>none
 | n + 1,l=>jH (gb G l) (pQ (fun e s=>jH (gb G [(e,sg s)]) (ux (pR (lb G n)) e s)) l)
theorem uy {G:Facts} (h:Sat ρ G):∀ n l,LB ρ l (lb G n l)
 | 0,_=>fun _ e=>(by exact aq e)
 | n + 1,l=>lK (pP h) (uq fun e s m q=>lK (fun m q=>by
   have:m≤sg s * e.val ρ + 0:=pP h _ q; lia) (fun m=>CA fun e s m=>ur (uy h n)) m q)
noncomputable abbrev bt (G:Facts):SE→Bool→Option Int:=pR (lb G 8)
theorem uz {G:Facts} (h:Sat ρ G) {e:SE} {s:Bool} {m:Int} (q:bt G e s = some m):m≤sg s * e.val ρ:=ur (uy h 8) q
theorem gc {G:Facts} (h:Sat ρ G) {e:SE} {m:Int} (q:bt G e true = some m):m≤e.val ρ:=by have:m≤1 * _:=uz h q; lia
theorem gd {G:Facts} (h:Sat ρ G) {e:SE} {m:Int} (q:bt G e false = some m):m≤-e.val ρ:=by have:m≤-1 * _:=uz h q; lia
noncomputable def cD:SE→Int→Int×LF→Int×LF
 | .lit i,k,a=>(a.1 + k * i,a.2)
 | .add x y,k,a=>cD y k (cD x k a)
 | .mul j x,k,a=>cD x (k * j) a
 | .mod x j,k,a=>(match cD x k a with
  | (c,l)=>(c,ins (.div x j) (k * -(j:Int)) l))
 | e,k,a=>(a.1,ins e k a.2)
theorem jI:∀ (e:SE) (k:Int) (a:Int×LF),(cD e k a).1 + sm ρ (cD e k a).2 = a.1 + sm ρ a.2 + k * e.val ρ
 | .lit i,k,a=>by show a.1 + k * i + sm ρ a.2 = a.1 + sm ρ a.2 + k * i; lia
 | .add x y,k,a=>by
  have h1:=jI y k (cD x k a)
  have h2:=jI x k a
  show (cD y k (cD x k a)).1 + sm ρ (cD y k (cD x k a)).2 = a.1 + sm ρ a.2 + k * (x.val ρ + y.val ρ)
  rw [h1,h2,Int.mul_add]; lia
 | .mul j x,k,a=>by
  have h1:=jI x (k * j) a
  show (cD x (k * j) a).1 + sm ρ (cD x (k * j) a).2 = a.1 + sm ρ a.2 + k * (j * x.val ρ)
  rw [h1,Int.mul_assoc]
 | .mod x j,k,a=>by
  have h1:=jI x k a
  show (cD x k a).1 + sm ρ (ins (.div x j) (k * -(j:Int)) (cD x k a).2) = a.1 + sm ρ a.2 + k * (x.val ρ % (j:Int))
  rw [dA,Int.emod_def,Int.mul_sub,Int.mul_assoc]
  show _ + (k * (-(j:Int) * (x.val ρ / (j:Int))) + _) = _
  rw [Int.neg_mul,Int.mul_neg]; lia
 | .var n,k,a=>by show a.1 + sm ρ (ins (.var n) k a.2) = _; rw [dA]; lia
 | .div x j,k,a=>by show a.1 + sm ρ (ins (.div x j) k a.2) = _; rw [dA]; lia
 | .bit x j,k,a=>by show a.1 + sm ρ (ins (.bit x j) k a.2) = _; rw [dA]; lia
 | .tab x j,k,a=>by show a.1 + sm ρ (ins (.tab x j) k a.2) = _; rw [dA]; lia
 | .abs x,k,a=>by show a.1 + sm ρ (ins (.abs x) k a.2) = _; rw [dA]; lia
noncomputable def pT (e:SE):Option Bool:=match cD e 1 (0,[]) with
 | (c,[])=>some (bc c 0)
 | _=>none
theorem CB {e:SE} {r:Bool} (h:pT e = some r):cO false (e.val ρ) = r:=by
 have e1:=jI (ρ:=ρ) e 1 (0,[])
 unfold pT at h
 generalize cD e 1 (0,[]) = p at h e1
 obtain ⟨c,l⟩:=p
 cases l with
 | cons=>exact aq h
 | nil=>
  cases h
  change c + 0 = 0 + 0 + 1 * e.val ρ at e1
  rw [gO]
  exact decide_eq_decide.mpr (by lia)
noncomputable def fm (k:Int) (e:SE):SE:=match bc k 1 with
 | true=>e
 | false=>.mul k e
theorem pU (k:Int) (e:SE):(fm k e).val ρ = k * e.val ρ:=by
 unfold fm
 cases h:bc k 1 with
 | true=>rw [dN h,Int.one_mul]
 | false=>rfl
noncomputable def toS (c:Int):LF→SE
 | []=>.lit c
 | [(e,k)]=>(match bc c 0 with
  | true=>fm k e
  | false=>.add (fm k e) (.lit c))
 | (e,k)::l=>.add (fm k e) (toS c l)
theorem eM (c:Int):∀ l:LF,(toS c l).val ρ = c + sm ρ l
 | []=>(Int.add_zero c).symm
 | [(e,k)]=>by
  show (match bc c 0 with | true=>fm k e | false=>.add (fm k e) (.lit c):SE).val ρ = c + (k * e.val ρ + 0)
  cases h:bc c 0 with
  | true=>rw [dN h,pU]; lia
  | false=>show (fm k e).val ρ + c = _; rw [pU]; lia
 | (e,k)::f::l=>by
  show (fm k e).val ρ + (toS c (f::l)).val ρ = c + (k * e.val ρ + sm ρ (f::l))
  rw [pU,eM c (f::l)]; lia
noncomputable def dB (k:Nat):LF→LF×LF
 | []=>([],[])
 | (e,j)::l=>(match dB k l with
  | (q,r)=>(match bc (j % k) 0 with
   | true=>((e,j / k)::q,r)
   | false=>(q,(e,j)::r)))
theorem uA (k:Nat):∀ l:LF,sm ρ l = k * sm ρ (dB k l).1 + sm ρ (dB k l).2
 | []=>by show (0:Int) = k * 0 + 0; lia
 | (e,j)::l=>by
  have ih:=uA k l
  show j * e.val ρ + sm ρ l = k * sm ρ (match dB k l with | (q,r)=>(match bc (j % k) 0 with | true=>((e,j / k)::q,r) | false=>(q,(e,j)::r))).1 + sm ρ (match dB k l with | (q,r)=>(match bc (j % k) 0 with | true=>((e,j / k)::q,r) | false=>(q,(e,j)::r))).2
  generalize dB k l = p at ih
  obtain ⟨q,r⟩:=p
  dsimp only at ih ⊢
  cases h:bc (j % k) 0 with
  | true=>
   have h:=dN h
   show _ = k * (j / k * e.val ρ + sm ρ q) + sm ρ r
   have:j = k * (j / k):=by have:=Int.emod_add_mul_ediv j k; lia
   rw [Int.mul_add,← Int.mul_assoc,← this]; lia
  | false=>show _ = k * sm ρ q + (j * e.val ρ + sm ρ r); lia
noncomputable def lL (k:Nat) (lo hi:Option Int):Option Int:=match lo,hi with
 | some a,some b=>(match br (-b) (k * (a / k) + (k - 1)) with
  | true=>some (a / k)
  | false=>none)
 | _,_=>none
theorem CC {k:Nat} (hk:1≤k) {lo hi:Option Int} {x q:Int} (h1:∀ m,lo = some m→m≤x) (h2:∀ m,hi = some m→m≤-x) (h:lL k lo hi = some q):k * q≤x∧x < k * q + k:=by
 cases lo with
 | none=>exact aq h
 | some a=>
  cases hi with
  | none=>exact aq h
  | some b=>
   change (match br (-b) (k * (a / k) + (k - 1)) with | true=>some (a / k) | false=>none) = some q at h
   cases z:br (-b) (k * (a / k) + (k - 1))<;>rw [z] at h<;>cases h
   have:=dy z
   have:=h1 a rfl
   have:=h2 b rfl
   have:=Int.mul_ediv_self_le (x:=a) (k:=(k:Int)) (by lia)
   lia
noncomputable def jJ (G:Facts) (k:Nat) (e:SE):SE:=match bg e 1 (0,[]) with
 | (c,l)=>(match toS (c % k) (dB k l).2 with
  | R=>(match lL k (bt G R true) (bt G R false) with
   | some q=>toS (c % k - k * q) (dB k l).2
   | none=>.mod R k))
noncomputable def jK (G:Facts) (k:Nat) (e:SE):SE:=match bg e 1 (0,[]) with
 | (c,l)=>(match toS (c % k) (dB k l).2 with
  | R=>(match lL k (bt G R true) (bt G R false) with
   | some q=>toS (c / k + q) (dB k l).1
   | none=>toS (c / k) ((dB k l).1 ++ [(.div R k,1)])))
theorem uB:∀ (l m:LF),sm ρ (l ++ m) = sm ρ l + sm ρ m
 | [],m=>(Int.zero_add _).symm
 | (e,k)::l,m=>by show k * e.val ρ + sm ρ (l ++ m) = k * e.val ρ + sm ρ l + sm ρ m; rw [uB l m]; lia
theorem lM {G:Facts} (h:Sat ρ G) {k:Nat} (hk:1≤k) (e:SE):(jJ G k e).val ρ = e.val ρ % k∧(jK G k e).val ρ = e.val ρ / k:=by
 have e1:=fk (ρ:=ρ) e 1 (0,[])
 unfold jJ jK
 generalize bg e 1 (0,[]) = p at e1
 obtain ⟨c,l⟩:=p
 dsimp only
 change c + sm ρ l = 0 + 0 + 1 * e.val ρ at e1
 have e2:=uA (ρ:=ρ) k l
 generalize hR:toS (c % k) (dB k l).2 = R
 have vR:R.val ρ = c % k + sm ρ (dB k l).2:=by rw [← hR,eM]
 have ec:=Int.emod_add_mul_ediv c k
 have key:e.val ρ = R.val ρ + k * (c / k + sm ρ (dB k l).1):=by rw [vR,Int.mul_add]; lia
 have k0:(k:Int)≠0:=by lia
 rw [key,Int.add_mul_emod_self_left,Int.add_mul_ediv_left _ _ k0]
 cases hq:lL k (bt G R true) (bt G R false) with
 | none=>exact ⟨rfl,by dsimp only; rw [eM,uB]; show c / k + (_ + (1 * (R.val ρ / k) + 0)) = _; lia⟩
 | some q=>
  obtain ⟨i1,i2⟩:=CC hk (fun _=>gc h (e:=R)) (fun _=>gd h (e:=R)) hq
  have e3:R.val ρ = (R.val ρ - k * q) + k * q:=by lia
  have m1:R.val ρ % k = R.val ρ - k * q:=by rw [e3,Int.add_mul_emod_self_left]; exact (Int.emod_eq_of_lt (by lia) (by lia)).trans (by lia)
  have d1:R.val ρ / k = q:=by rw [e3,Int.add_mul_ediv_left _ _ k0,Int.ediv_eq_zero_of_lt (by lia) (by lia)]; lia
  exact ⟨by dsimp only; rw [eM,m1,vR]; lia,by dsimp only; rw [eM,d1]; lia⟩
noncomputable def cP (G:Facts):SE→SE
 | .add a b=>.add (cP G a) (cP G b)
 | .mul c a=>.mul c (cP G a)
 | .mod a k=>cond (Nat.ble 1 k) (jJ G k (cP G a)) (.mod a k)
 | .div a k=>cond (Nat.ble 1 k) (jK G k (cP G a)) (.div a k)
 | e=>e
theorem pV {G:Facts} (h:Sat ρ G) (e:SE):(cP G e).val ρ = e.val ρ:=by
 induction e with
 | add a b ha hb=>show (cP G a).val ρ + (cP G b).val ρ = _; rw [ha,hb]; rfl
 | mul c a ha=>show c * (cP G a).val ρ = _; rw [ha]; rfl
 | mod a k ha=>
  show (cond (Nat.ble 1 k) (jJ G k (cP G a)) (.mod a k)).val ρ = a.val ρ % k
  cases q:Nat.ble 1 k with
  | true=>exact ((lM h (Nat.le_of_ble_eq_true q) _).1.trans (by rw [ha]))
  | false=>rfl
 | div a k ha=>
  show (cond (Nat.ble 1 k) (jK G k (cP G a)) (.div a k)).val ρ = a.val ρ / k
  cases q:Nat.ble 1 k with
  | true=>exact ((lM h (Nat.le_of_ble_eq_true q) _).2.trans (by rw [ha]))
  | false=>rfl
 | _=>rfl
noncomputable def jL (c:Int) (l:LF):Facts→Bool
 | []=>false
 | .ne m n::G=>(match aG (gone (-1) l m) (bc (c + n) 0) with
  | true=>true
  | false=>(match aG (gone 1 l m) (bc c n) with
   | true=>true
   | false=>jL c l G))
 | _::G=>jL c l G
theorem pW {c:Int} {l:LF}:∀ {G:Facts},Sat ρ G→jL c l G = true→c + sm ρ l≠0
 | f::G,h,e=>by
  have hf:=h f (.head _)
  cases f with
  | ge | le=>exact pW (fun f m=>h f (.tail _ m)) e
  | ne m n=>
   have hf:sm ρ m≠n:=hf
   change (match aG (gone (-1) l m) (bc (c + n) 0) with | true=>true | false=>_) = true at e
   cases q:aG (gone (-1) l m) (bc (c + n) 0)<;>rw [q] at e<;>dsimp only at e
   ·cases q':aG (gone 1 l m) (bc c n)<;>rw [q'] at e
    ·exact pW (fun f m=>h f (.tail _ m)) e
    ·obtain ⟨a,b⟩:=aB q'; have:=jG (ρ:=ρ) a; have:=dN b; lia
   ·obtain ⟨a,b⟩:=aB q; have:=jG (ρ:=ρ) a; have:=dN b; lia
noncomputable def pX (c:Int):LF→Bool
 | [(.tab l _,k)]=>aG (bc k 1) (!(bc c 0 || l.any fun x=>bc (c + x) 0))
 | _=>false
theorem CD {c:Int} {l:LF} (h:pX c l = true):c + sm ρ l≠0:=by
 cases l with
 | nil=>exact aR h
 | cons p t=>?_
 obtain ⟨z,k⟩:=p
 cases z with
 | tab l a=>?_
 | _=>exact aR h
 cases t with
 | cons=>exact aR h
 | nil=>?_
 obtain ⟨h1,h2⟩:=aB h
 obtain rfl:=dN h1
 rw [Bool.not_eq_true',Bool.or_eq_false_iff,gO,beq_eq_false_iff_ne] at h2
 show c + (1 * l.getD (a.val ρ).toNat 0 + 0)≠0
 rw [List.getD_eq_getElem?_getD]
 cases e:l[(a.val ρ).toNat]? with
 | none=>have:=h2.1; show c + (1 * 0 + 0)≠0; lia
 | some x=>
  have:=List.any_eq_false.mp h2.2 x (List.mem_of_getElem? e)
  rw [gO,beq_iff_eq] at this
  show c + (1 * x + 0)≠0; lia
noncomputable def dec (G:Facts) (k:Bool) (e:SE):Option Bool:=match iH k (bt G e true) (bt G e false) with
 | some r=>some r
 | none=>(match k with
  | true=>none
  | false=>(match bg e 1 (0,[]) with
   | (c,l)=>(match (jL c l G || pX c l) with
    | true=>some false
    | false=>pT e)))
theorem uC {G:Facts} (h:Sat ρ G) {k:Bool} {e:SE} {r:Bool} (q:dec G k e = some r):cO k (e.val ρ) = r:=by
 unfold dec at q
 cases z:iH k (bt G e true) (bt G e false) with
 | some r'=>rw [z] at q; cases q; exact uv (fun _=>gc h) (fun _=>gd h) z
 | none=>
  rw [z] at q
  cases k with
  | true=>exact aq q
  | false=>
   dsimp only at q
   cases w:(jL (bg e 1 (0,[])).1 (bg e 1 (0,[])).2 G || pX (bg e 1 (0,[])).1 (bg e 1 (0,[])).2)<;>rw [w] at q
   ·exact CB q
   cases q
   refine decide_eq_false fun z=>((Bool.or_eq_true_iff.mp w).elim (pW h) CD) ?_
   have:=fk (ρ:=ρ) e 1 (0,[])
   rw [this,z]; rfl
noncomputable def pY (k:Bool) (e:SE) (r:Bool):Facts:=match bg e 1 (0,[]) with
 | (c,l)=>(match k,r with
  | true,true=>[.le l (-c)]
  | true,false=>[.ge l (1 - c)]
  | false,true=>[.le l (-c),.ge l (-c)]
  | false,false=>[.ne l (-c)])
theorem CE {G:Facts} (h:Sat ρ G) {k:Bool} {e:SE} {r:Bool} (q:cO k (e.val ρ) = r):Sat ρ (pY k e r ++ G):=by
 have e1:=fk (ρ:=ρ) e 1 (0,[])
 change _ = 0 + 0 + 1 * _ at e1
 refine fun f m=>(List.mem_append.mp m).elim (fun m=>?_) (h f)
 unfold pY at m
 cases k<;>cases r<;>dsimp only at m
 ·obtain rfl:=List.mem_singleton.mp m
  have:=of_decide_eq_false q
  show sm ρ (bg e 1 (0,[])).2≠_; lia
 ·have:=of_decide_eq_true q
  rcases List.mem_cons.mp m with rfl | m
  ·show sm ρ (bg e 1 (0,[])).2≤_; lia
  ·obtain rfl:=List.mem_singleton.mp m; show _≤sm ρ (bg e 1 (0,[])).2; lia
 ·obtain rfl:=List.mem_singleton.mp m
  have:=of_decide_eq_false q
  show _≤sm ρ (bg e 1 (0,[])).2; lia
 ·obtain rfl:=List.mem_singleton.mp m
  have:=of_decide_eq_true q
  show sm ρ (bg e 1 (0,[])).2≤_; lia
end
structure SB where
 k:Bool
 e:SE
 p:Bool
noncomputable def SB.val (ρ:Nat→Int) (B:SB):Bool:=match B.p with
 | true=>cO B.k (B.e.val ρ)
 | false=>!cO B.k (B.e.val ρ)
noncomputable def lN (G:Facts) (k:Bool) (e:SE):Option Bool:=match dec G k e with
 | some r=>some r
 | none=>dec G k (cP G e)
theorem CF {ρ:Nat→Int} {G:Facts} (h:Sat ρ G) {k:Bool} {e:SE} {r:Bool} (q:lN G k e = some r):cO k (e.val ρ) = r:=by
 unfold lN at q
 cases z:dec G k e with
 | some r'=>rw [z] at q; cases q; exact uC h z
 | none=>rw [z] at q; exact pV h e▸uC h q
noncomputable def eN (G:Facts) (B:SB):Option Bool:=match lN G B.k B.e with
 | some r=>some (match B.p with
  | true=>r
  | false=>!r)
 | none=>none
theorem jM {ρ:Nat→Int} {G:Facts} (h:Sat ρ G) {B:SB} {r:Bool} (q:eN G B = some r):B.val ρ = r:=by
 unfold eN at q
 cases z:lN G B.k B.e with
 | none=>rw [z] at q; exact aq q
 | some t=>
  rw [z] at q
  have:=CF h z
  unfold SB.val
  rw [this]
  exact Option.some.inj q
end Mine
end
section
set_option backward.match.sparseCases false
open PySem PySem.W PyProof.Rows PySem.Calls
namespace Mine
noncomputable def aO:List (Addr×Obj)→Addr→Option Obj
 | [],_=>none
 | p::l,a=>match Nat.beq p.1 a with
  | true=>some p.2
  | false=>aO l a
structure PS where
 kn:List (Addr×Obj)
 n:Nat
 gens:Array GenState
 drawn:Drawn
 toks:Nat
 up:List Addr
noncomputable def PS.sh (P:PS) (h:Heap) (os:OsState):Shared:=⟨h,P.gens,P.drawn,P.toks,os⟩
structure Rep (P:PS) (h:Heap):Prop where
 kn:∀ a o,aO P.kn a = some o→h.get? a = some o
 n:h.objs.size = P.n
noncomputable def eO (st:Shared→Thread→Step) (os:OsState):PS→Thread→Option (PS×Thread)
 | ⟨kn,n,gens,drawn,toks,up⟩,⟨cur,code,pos,stack⟩=>match cur with
  | .load a _ k=>(match aO kn a with
   | some o=>some (⟨kn,n,gens,drawn,toks,up⟩,⟨k o,code,pos,stack⟩)
   | none=>none)
  | .update a _ f k=>(match aO kn a with
   | some o=>(match (f o).isFreed with
    | false=>some (⟨(a,f o)::kn,n,gens,drawn,toks,a::up⟩,⟨k (),code,pos,stack⟩)
    | true=>none)
   | none=>none)
  | .alloc o k=>(match o.isFreed with
   | false=>some (⟨(n,o)::kn,n + 1,gens,drawn,toks,up⟩,⟨k n,code,pos,stack⟩)
   | true=>none)
  | .loadIfAlive _ _=>none
  | c=>match st ⟨{},gens,drawn,toks,os⟩ ⟨c,code,pos,stack⟩ with
   | .go s' t'=>some (⟨kn,n,s'.gens,s'.drawn,s'.toks,up⟩,t')
   | .halt _ _=>none
noncomputable def CG (up:List Addr) (h h':Heap):Prop:=∀ b o,b∉up→h.get? b = some o→h'.get? b = some o
section
variable {den:Code→Sem Fin} {p:Program} {w:World} {os:OsState}
theorem iI {a b:Addr} {o:Obj} {l:List (Addr×Obj)}:aO ((a,o)::l) b = if a = b then some o else aO l b:=by
 show (match Nat.beq a b with | true=>some o | false=>aO l b) = _
 rw [BT.beq_eq]
 by_cases h:a = b<;>simp [h]
structure eP (P P':PS) (h h':Heap):Prop where
 rep:Rep P' h'
 life:h'.life = h.life
 up:∃ m,P'.up = m ++ P.up
 kept:CG P'.up h h'
theorem eP.refl {P:PS} {h:Heap} (R:Rep P h):eP P P h h:=⟨R,rfl,⟨[],rfl⟩,fun _ _ _ e=>e⟩
theorem eP.trans {P P' P'':PS} {h h' h'':Heap} (a:eP P P' h h') (b:eP P' P'' h' h''):eP P P'' h h'':=by
 obtain ⟨m,e⟩:=a.up
 obtain ⟨n,e'⟩:=b.up
 exact ⟨b.rep,b.life.trans a.life,⟨n ++ m,by rw [e',e,List.append_assoc]⟩,fun x o k q=>b.kept x o k (a.kept x o (fun m=>k (by rw [e']; exact List.mem_append_right _ m)) q)⟩
structure uD (P P':PS) (h:Heap) (s':Shared):Prop where
 gens:s'.gens = P'.gens
 drawn:s'.drawn = P'.drawn
 toks:s'.toks = P'.toks
 k:eP P P' h s'.heap
noncomputable def pZ {α:Type}:Sem α→Bool
 | .load .. | .update .. | .alloc .. | .loadIfAlive ..=>false
 | _=>true
theorem Rep.cons {P:PS} {h h':Heap} {a n:Nat} {o:Obj} {g:Array GenState} {d:Drawn} {tk:Nat} {up:List Addr} (R:Rep P h) (ge:h'.get? a = some o) (hn:h'.objs.size = n) (hs:∀ b o,a≠b→h.get? b = some o→h'.get? b = some o):Rep ⟨(a,o)::P.kn,n,g,d,tk,up⟩ h':=⟨fun b o' e=>by
 rw [iI] at e
 by_cases q:a = b
 ·subst q; rw [if_pos rfl] at e; cases e; exact ge
 ·rw [if_neg q] at e; exact hs b o' q (R.kn b o' e),hn⟩
theorem CH {P P':PS} {t t':Thread} {h:Heap} (R:Rep P h) (hc:pZ t.cur = true) (e:(match step den p w ⟨{},P.gens,P.drawn,P.toks,os⟩ t with
   | .go s' t'=>some ((⟨P.kn,P.n,s'.gens,s'.drawn,s'.toks,P.up⟩:PS),t')
   | .halt _ _=>none) = some (P',t')):∃ s',step den p w (P.sh h os) t = .go s' t'∧uD P P' h s':=by
 obtain ⟨cur,code,pos,stack⟩:=t
 cases q:step den p w ⟨{},P.gens,P.drawn,P.toks,os⟩ ⟨cur,code,pos,stack⟩ with
 | halt o s=>rw [q] at e; cases e
 | go s₀ t₀=>
  rw [q] at e
  cases e
  have no:∀ {x:Sem Fin},pZ x = false→cur≠x:=fun hx z=>by
   have hc:pZ cur = true:=hc
   rw [z,hx] at hc; cases hc
  exact ⟨_,step_heap (fun _ _ _=>no rfl) (fun _ _ _ _=>no rfl) (fun _ _=>no rfl) (fun _ _=>no rfl) q,rfl,rfl,rfl,⟨R.kn,R.n⟩,rfl,⟨[],rfl⟩,fun _ _ _ e=>e⟩
set_option tactic.hygienic true in
theorem CI {P P':PS} {t t':Thread} {h:Heap} (R:Rep P h) (e:eO (step den p w) os P t = some (P',t')):∃ s',step den p w (P.sh h os) t = .go s' t'∧uD P P' h s':=by
 obtain ⟨kn,n,gens,drawn,toks,up⟩:=P
 obtain ⟨cur,code,pos,stack⟩:=t
 cases cur with
 | load a q k=>
  unfold eO at e
  dsimp only at e
  split at e
  ·rename_i o ho
   cases e
   have g:=R.kn a o ho
   exact ⟨PS.sh ⟨kn,n,gens,drawn,toks,up⟩ h os,by simp only [PS.sh,step,g],rfl,rfl,rfl,.refl R⟩
  ·cases e
 | update a q f k=>
  unfold eO at e
  dsimp only at e
  split at e
  ·rename_i o ho
   split at e
   ·rename_i hf
    cases e
    have g:=R.kn a o ho
    have hs:Heap.SameBut a h (h.update a f):=Heap.SameBut.update ..
    have ge:(h.update a f).get? a = some (f o):=by first | exact Heap.get?_update_self f g hf | exact Heap.get?_update_self _ g hf
    exact ⟨⟨h.update a f,gens,drawn,toks,os⟩,by simp only [PS.sh,step,g,Option.isSome_some,if_true],rfl,rfl,rfl,R.cons ge (hs.1.trans R.n) fun b o' z e=>(hs.2 b (Ne.symm z)).trans e,by cases h; rfl,⟨[a],rfl⟩,fun b o' hb e=>(hs.2 b (fun q=>hb (by rw [q]; exact .head _))).trans e⟩
   ·cases e
  ·cases e
 | alloc o k=>
  unfold eO at e
  dsimp only at e
  split at e
  ·rename_i hf
   cases e
   have hn:h.objs.size = n:=R.n
   exact ⟨⟨h.push o,gens,drawn,toks,os⟩,by simp only [PS.sh,step,hn],rfl,rfl,rfl,R.cons (hn▸Heap.get?_push_size _ hf) (by rw [Heap.size_push,hn]) fun b o' _ e=>Heap.get?_push_of_some _ e,by cases h; rfl,⟨[],rfl⟩,fun b o' _ e=>Heap.get?_push_of_some _ e⟩
  ·cases e
 | loadIfAlive a k=>unfold eO at e; cases e
 | _=>exact CH R rfl e
end
noncomputable def lO (st:Shared→Thread→Step) (ok:Thread→Bool) (os:OsState) (b:Nat):Nat→PS→Thread→Option (Flow×PS×Code×Pos)
 | 0,_,_=>none
 | n + 1,P,t=>match endAt b t with
  | some f=>some (f,P,t.code,t.pos)
  | none=>match ok t with
   | false=>none
   | true=>match eO st os P t with
    | some (P',t')=>lO st ok os b n P' t'
    | none=>none
theorem uE {tb:String→Option Builtin} {p:Program} {w:World} {n₀:Nat} {ann:Option Value} {os:OsState} {P P':PS} {t t':Thread} {h:Heap} (R:Rep P h) (hk:stepOk n₀ ann t = true) (e:eO (step (denote tb) p w) os P t = some (P',t')):∃ h',step (denote tb) p w (P.sh h os) t = .go (P'.sh h' os) t'∧eP P P' h h':=by
 obtain ⟨s',a,S⟩:=CI R e
 have os2:s'.os = os:=step_os_same a (by revert hk; unfold stepOk; cases t.cur<;>first | exact fun _=>rfl | exact fun h=>(Bool.and_eq_true_iff.mp h).2)
 obtain ⟨hh,g,d,tk,o⟩:=s'
 obtain ⟨rfl,rfl,rfl,K⟩:=S
 cases os2
 exact ⟨hh,a,K⟩
theorem uF {tb:String→Option Builtin} {p:Program} {w:World} {n₀:Nat} {ann:Option Value} {os:OsState} {b:Nat}:∀ {n:Nat} {P P':PS} {t:Thread} {f:Flow} {c:Code} {q:Pos} {h:Heap},Rep P h→
  lO (step (denote tb) p w) (stepOk n₀ ann) os b n P t = some (f,P',c,q)→∃ h',segRun tb p w n₀ ann b n (P.sh h os) t = some (f,P'.sh h' os,c,q)∧eP P P' h h'
 | 0,_,_,_,_,_,_,_,_,e=>by cases e
 | n + 1,P,P',t,f,c,q,h,R,e=>by
  unfold lO at e
  unfold segRun
  cases he:endAt b t with
  | some x=>rw [he] at e; cases e; exact ⟨h,rfl,.refl R⟩
  | none=>
   rw [he] at e
   cases hk:stepOk n₀ ann t with
   | false=>rw [hk] at e; cases e
   | true=>
    rw [hk] at e
    cases hs:eO (step (denote tb) p w) os P t with
    | none=>rw [hs] at e; cases e
    | some r=>
     rw [hs] at e
     obtain ⟨h₂,a,K⟩:=uE R hk hs
     obtain ⟨h',z,K'⟩:=uF K.rep e
     dsimp only
     rw [a]
     exact ⟨h',z,K.trans K'⟩
end Mine
end
section
set_option backward.match.sparseCases false
open PySem PySem.W PyProof.Rows PySem.Calls
set_option maxRecDepth 100000
set_option maxHeartbeats 0
namespace Mine
noncomputable abbrev pw:Program:=PySem.Challenge.pw_nn0086_01
noncomputable def BD:List Stmt:=pw.main.body
noncomputable def ae (k:Nat):Stmt:=BD.getD k default
noncomputable def ay (k j:Nat):Stmt:=match ae k with
 | .ClassDef _ _ _ b _ _ _ _ _ _ _=>b.getD j default
 | _=>default
noncomputable def lP (k m:Nat):List Stmt:=(BD.drop k).take m
noncomputable def en (P:Params) (x:Str) (t:Tok) (v:Value):DictEntry:=⟨PyData.keyHash P x,.str x t,v⟩
noncomputable def bB (nm:Value) (l:List DictEntry) (P:Params):List DictEntry:=en P ⟨#[95,95,110,97,109,101,95,95]⟩ 165 nm::l
noncomputable def bC (l:List DictEntry) (ep:Nat):Obj:=⟨.type "dict",none,.dict l.toArray ep,#[]⟩
noncomputable def bu (l:List Value):Obj:=⟨.none,none,.fields l.toArray,#[]⟩
noncomputable def fo (st:Stmt) (q:Str) (dV cd pm:Value):Obj:=match st with
 | .FunctionDef name params body _ _ _ scope _ _ _=>⟨.type "function",none,.func { name:=name,qualname:=q,params:=params,body:=.stmts body,scope:=scope,globals:=mainGlobals,closure:=[],defaults:=dV,kwdefaults:=.none,pyModule:=pm,code:=cd,builtins:=builtinsNs },#[]⟩
 | _=>default
noncomputable def uG:Obj:=⟨.type "code",none,.fields #[.str ⟨#[60,109,111,100,117,108,101,62]⟩ 182,.str ⟨#[60,109,111,100,117,108,101,62]⟩ 183,.str ⟨#[47,99,108,97,105,109,47,99,117,116,46,112,121]⟩ 184,.int 1 0,.int 0 0,.int 0 0,.int 0 0,.int 0 0,.ref 11,.bool false,.int 181 0,.ref 12,.none,.none,.none,.none,.int 185 0,.int 1 0,.str ⟨#[47,99,108,97,105,109,47,99,117,116,46,112,121]⟩ 186],#[]⟩
noncomputable def jN:Env:={ scope:=pw.main.scope,locals:=mainNs,globals:=mainNs,cells:=[],code:=.ref 13,frame:=some 14 }
noncomputable def cT:Code:=.body BD jN
noncomputable def q0:Pos:=⟨0,0,0,0⟩
noncomputable def lQ (w:World):Shared→Thread→Step:=Fast.tw8437177126325714943 (Fast.tw11892475500146522536 Fast.tw14364793385576792824) pw w
noncomputable def lR:Thread→Bool:=Fast.tw6613529449190102663 11 (some (.ref 6))
noncomputable def uH (d:Data):Option (Array Value):=match d with
 | .fields vs=>some vs
 | _=>none
noncomputable def uI (v:Value):Option Str:=match v with
 | .str x _=>some x
 | _=>none
noncomputable def p7 (o:Option Obj):Option Str:=(o.bind fun o=>uH o.data).bind fun vs=>(vs[1]?:Option Value).bind uI
noncomputable def aZ (p:Addr×Obj):Option (Addr×Str):=match p.2.data with
 | .func fd=>(match fd.code with
  | .ref c=>some (c,fd.qualname)
  | _=>none)
 | _=>none
noncomputable def sel (l:List (Addr×Obj)):List Addr→List (Addr×Obj)
 | []=>[]
 | a::r=>match aO l a with
  | some o=>(a,o)::sel l r
  | none=>sel l r
noncomputable def look (n:Nat) (ua:List Addr) (X:List (Addr×Obj)) (r:Flow×PS×Code×Pos):Flow×Nat×Array GenState×Drawn×Nat×Code×Pos×Bool×List (Option Obj)×List (Option Str):=match r with
 | (f,P,c,q)=>(f,P.n,P.gens,P.drawn,P.toks,c,q,P.up.all (fun a=>Nat.ble n a || ua.contains a) && ua.all (fun a=>(aO X a).isSome),
   X.map (fun p=>aO P.kn p.1),(X.filterMap aZ).map fun c=>p7 (aO P.kn c.1))
noncomputable abbrev bw (w:World) (os:OsState) (_g:Nat) (F X:List (Addr×Obj)) (olds ua:List Addr) (st m N n n' t t':Nat) (q q':Pos):Prop:=
 (lO (lQ w) lR os 1 N ⟨sel F olds,n,#[],boot_drawn,t,[]⟩ (piecesOf (lP st m) jN cT q [topFrame q0])).map (look n ua X) =
  some (.next,n',#[],boot_drawn,t',cT,q',true,X.map (fun p=>some p.2),(X.filterMap aZ).map fun c=>some c.2)
noncomputable def gR (P:Params):List (Addr×Obj):=[(0,boot_o_0 P),(1,boot_o_1 P),(2,boot_o_2 P),(3,boot_o_3 P),(4,boot_o_4 P),(5,boot_o_5 P),(6,boot_o_6 P),(12,bu []),(13,uG)]
noncomputable def CJ (P:Params):List DictEntry:=[en P ⟨#[95,95,100,111,99,95,95]⟩ 166 .none,en P ⟨#[95,95,112,97,99,107,97,103,101,95,95]⟩ 167 .none,en P ⟨#[95,95,108,111,97,100,101,114,95,95]⟩ 168 (.builtin "__main__.__loader__#opaque"),en P ⟨#[95,95,115,112,101,99,95,95]⟩ 169 .none,en P ⟨#[95,95,97,110,110,111,116,97,116,105,111,110,115,95,95]⟩ 170 (.ref 6),en P ⟨#[95,95,98,117,105,108,116,105,110,115,95,95]⟩ 171 (.ref 4),en P ⟨#[95,95,102,105,108,101,95,95]⟩ 173 (.str ⟨#[47,99,108,97,105,109,47,99,117,116,46,112,121]⟩ 172),en P ⟨#[95,95,99,97,99,104,101,100,95,95]⟩ 174 .none]
noncomputable def CK:List Value:=[]
noncomputable def uJ (P:Params):List DictEntry:=(CJ P).append [en P ⟨#[95,119,97,108,108]⟩ 193 (.ref 21),en P ⟨#[77,105,110,116,69,114,114,111,114]⟩ 233 (.ref 46)]
noncomputable def uK:List Value:=CK.append [(.int (1) 0),(.int (0) 0),(.ref 20),(.int (5) 0),(.int (0) 0),(.ref 27)]
noncomputable def uL (P:Params):List (Addr×Obj):=[(2,⟨.none,none,.dict [en P ⟨#[116,121,112,101,46,95,95,115,117,98,99,108,97,115,115,101,115,95,95,46,69,120,99,101,112,116,105,111,110,46,48]⟩ 230 (.int (46) 0),en P ⟨#[116,121,112,101,46,95,95,115,117,98,99,108,97,115,115,101,115,95,95,46,69,120,99,101,112,116,105,111,110,46,110]⟩ 231 (.int (1) 0)].toArray 2,#[]⟩),
 (3,bC (bB (.str ⟨#[111,99,116,101,116,109,105,110,116,46,98,97,115,105,99,115]⟩ 194) (uJ P) P) 11),
 (12,bu uK),
 (21,(fo (ae 0) ⟨#[95,119,97,108,108]⟩ .none (.ref 20) (.str ⟨#[95,95,109,97,105,110,95,95]⟩ 164))),
 (29,⟨(.type "tuple"),none,.seq [.none].toArray 0,#[]⟩),
 (36,(fo (ay 2 0) ⟨#[77,105,110,116,69,114,114,111,114,46,95,95,105,110,105,116,95,95]⟩ (.ref 29) (.ref 35) (.str ⟨#[111,99,116,101,116,109,105,110,116,46,98,97,115,105,99,115]⟩ 194))),
 (43,(fo (ay 2 1) ⟨#[77,105,110,116,69,114,114,111,114,46,116,111,108,100]⟩ .none (.ref 42) (.str ⟨#[111,99,116,101,116,109,105,110,116,46,98,97,115,105,99,115]⟩ 194))),
 (45,⟨(.type "dict"),none,.dict [en P ⟨#[95,95,109,111,100,117,108,101,95,95]⟩ 203 (.str ⟨#[111,99,116,101,116,109,105,110,116,46,98,97,115,105,99,115]⟩ 194),en P ⟨#[95,95,102,105,114,115,116,108,105,110,101,110,111,95,95]⟩ 207 (.int (5) 206),en P ⟨#[95,95,105,110,105,116,95,95]⟩ 216 (.ref 36),en P ⟨#[116,111,108,100]⟩ 223 (.ref 43),en P ⟨#[95,95,115,116,97,116,105,99,95,97,116,116,114,105,98,117,116,101,115,95,95]⟩ 226 (.ref 44),en P ⟨#[95,95,119,101,97,107,114,101,102,95,95]⟩ 228 (.ref 47),en P ⟨#[95,95,100,111,99,95,95]⟩ 229 .none].toArray 3,#[]⟩),
 (46,⟨(.type "type"),none,.cls ⟨⟨#[77,105,110,116,69,114,114,111,114]⟩,[(.type "Exception")],[(.ref 46),(.type "Exception"),(.type "BaseException"),(.type "object")],45,⟨#[77,105,110,116,69,114,114,111,114]⟩,true,[],[],false,none,false⟩,[(some (.ref 22)),none,(some (.str ⟨#[77,105,110,116,69,114,114,111,114]⟩ 196)),(some (.str ⟨#[77,105,110,116,69,114,114,111,114]⟩ 204)),(some (.builtin "Exception.__new__")),(some (.bool true))].toArray⟩)]
noncomputable def lS (P:Params):List (Addr×Obj):=uL P ++ gR P
theorem CL (w:World) (os:OsState):bw w os 0 (gR w.params) (uL w.params) [2,0,4,3,12,13] [2,3,12] 0 3 301 15 50 187 234 ⟨0,0,0,0⟩ ⟨5,0,15,29⟩:=by kernel_rfl
noncomputable def uM (P:Params):List DictEntry:=(uJ P).append [en P ⟨#[79,112,101,114,97,110,100,69,114,114,111,114]⟩ 249 (.ref 59)]
noncomputable def uN:List Value:=uK.append [(.int (16) 0),(.int (0) 0),(.ref 55)]
noncomputable def uO (P:Params):List (Addr×Obj):=[(46,⟨(.type "type"),none,.cls ⟨⟨#[77,105,110,116,69,114,114,111,114]⟩,[(.type "Exception")],[(.ref 46),(.type "Exception"),(.type "BaseException"),(.type "object")],45,⟨#[77,105,110,116,69,114,114,111,114]⟩,true,[],[(.ref 59)],false,none,false⟩,[(some (.ref 22)),none,(some (.str ⟨#[77,105,110,116,69,114,114,111,114]⟩ 196)),(some (.str ⟨#[77,105,110,116,69,114,114,111,114]⟩ 204)),(some (.builtin "Exception.__new__")),(some (.bool true))].toArray⟩),
 (3,bC (bB (.str ⟨#[111,99,116,101,116,109,105,110,116,46,98,97,115,105,99,115]⟩ 194) (uM P) P) 12),
 (12,bu uN),
 (58,⟨(.type "dict"),none,.dict [en P ⟨#[95,95,109,111,100,117,108,101,95,95]⟩ 241 (.str ⟨#[111,99,116,101,116,109,105,110,116,46,98,97,115,105,99,115]⟩ 194),en P ⟨#[95,95,102,105,114,115,116,108,105,110,101,110,111,95,95]⟩ 245 (.int (16) 244),en P ⟨#[95,95,115,116,97,116,105,99,95,97,116,116,114,105,98,117,116,101,115,95,95]⟩ 246 (.ref 57),en P ⟨#[95,95,100,111,99,95,95]⟩ 247 .none].toArray 2,#[]⟩),
 (59,⟨(.type "type"),none,.cls ⟨⟨#[79,112,101,114,97,110,100,69,114,114,111,114]⟩,[(.ref 46)],[(.ref 59),(.ref 46),(.type "Exception"),(.type "BaseException"),(.type "object")],58,⟨#[79,112,101,114,97,110,100,69,114,114,111,114]⟩,true,[],[],false,none,false⟩,[(some (.ref 50)),none,(some (.str ⟨#[79,112,101,114,97,110,100,69,114,114,111,114]⟩ 234)),(some (.str ⟨#[79,112,101,114,97,110,100,69,114,114,111,114]⟩ 242)),(some (.builtin "Exception.__new__")),(some (.bool true))].toArray⟩)]
noncomputable def lT (P:Params):List (Addr×Obj):=uO P ++ lS P
theorem CM (w:World) (os:OsState):bw w os 1 (lS w.params) (uO w.params) [45,2,4,12,13,46,3,0] [3,46,12] 3 1 214 50 62 234 250 ⟨5,0,15,29⟩ ⟨16,0,17,8⟩:=by kernel_rfl
noncomputable def uP (P:Params):List DictEntry:=(uM P).append [en P ⟨#[69,110,99,111,100,101,69,114,114,111,114]⟩ 265 (.ref 71),en P ⟨#[109,97,115,107]⟩ 272 (.ref 80),en P ⟨#[119,114,97,112]⟩ 280 (.ref 87),en P ⟨#[115,105,103,110,101,100]⟩ 289 (.ref 94),en P ⟨#[102,105,116,115,95,115,105,103,110,101,100]⟩ 298 (.ref 101),en P ⟨#[102,105,116,115,95,117,110,115,105,103,110,101,100]⟩ 306 (.ref 108),en P ⟨#[102,105,116,115,95,101,105,116,104,101,114]⟩ 314 (.ref 115)]
noncomputable def uQ:List Value:=uN.append [(.int (18) 0),(.int (0) 0),(.ref 67),(.int (20) 0),(.int (0) 0),(.ref 79),(.int (22) 0),(.int (0) 0),(.ref 86),(.int (24) 0),(.int (0) 0),(.ref 93),(.int (29) 0),(.int (0) 0),(.ref 100),(.int (32) 0),(.int (0) 0),(.ref 107),(.int (34) 0),(.int (0) 0),(.ref 114)]
noncomputable def uR (P:Params):List (Addr×Obj):=[(46,⟨(.type "type"),none,.cls ⟨⟨#[77,105,110,116,69,114,114,111,114]⟩,[(.type "Exception")],[(.ref 46),(.type "Exception"),(.type "BaseException"),(.type "object")],45,⟨#[77,105,110,116,69,114,114,111,114]⟩,true,[],[(.ref 59),(.ref 71)],false,none,false⟩,[(some (.ref 22)),none,(some (.str ⟨#[77,105,110,116,69,114,114,111,114]⟩ 196)),(some (.str ⟨#[77,105,110,116,69,114,114,111,114]⟩ 204)),(some (.builtin "Exception.__new__")),(some (.bool true))].toArray⟩),
 (3,bC (bB (.str ⟨#[111,99,116,101,116,109,105,110,116,46,98,97,115,105,99,115]⟩ 194) (uP P) P) 19),
 (12,bu uQ),
 (70,⟨(.type "dict"),none,.dict [en P ⟨#[95,95,109,111,100,117,108,101,95,95]⟩ 257 (.str ⟨#[111,99,116,101,116,109,105,110,116,46,98,97,115,105,99,115]⟩ 194),en P ⟨#[95,95,102,105,114,115,116,108,105,110,101,110,111,95,95]⟩ 261 (.int (18) 260),en P ⟨#[95,95,115,116,97,116,105,99,95,97,116,116,114,105,98,117,116,101,115,95,95]⟩ 262 (.ref 69),en P ⟨#[95,95,100,111,99,95,95]⟩ 263 .none].toArray 2,#[]⟩),
 (71,⟨(.type "type"),none,.cls ⟨⟨#[69,110,99,111,100,101,69,114,114,111,114]⟩,[(.ref 46)],[(.ref 71),(.ref 46),(.type "Exception"),(.type "BaseException"),(.type "object")],70,⟨#[69,110,99,111,100,101,69,114,114,111,114]⟩,true,[],[],false,none,false⟩,[(some (.ref 62)),none,(some (.str ⟨#[69,110,99,111,100,101,69,114,114,111,114]⟩ 250)),(some (.str ⟨#[69,110,99,111,100,101,69,114,114,111,114]⟩ 258)),(some (.builtin "Exception.__new__")),(some (.bool true))].toArray⟩),
 (80,(fo (ae 5) ⟨#[109,97,115,107]⟩ .none (.ref 79) (.str ⟨#[111,99,116,101,116,109,105,110,116,46,98,97,115,105,99,115]⟩ 194))),
 (87,(fo (ae 6) ⟨#[119,114,97,112]⟩ .none (.ref 86) (.str ⟨#[111,99,116,101,116,109,105,110,116,46,98,97,115,105,99,115]⟩ 194))),
 (94,(fo (ae 7) ⟨#[115,105,103,110,101,100]⟩ .none (.ref 93) (.str ⟨#[111,99,116,101,116,109,105,110,116,46,98,97,115,105,99,115]⟩ 194))),
 (101,(fo (ae 8) ⟨#[102,105,116,115,95,115,105,103,110,101,100]⟩ .none (.ref 100) (.str ⟨#[111,99,116,101,116,109,105,110,116,46,98,97,115,105,99,115]⟩ 194))),
 (108,(fo (ae 9) ⟨#[102,105,116,115,95,117,110,115,105,103,110,101,100]⟩ .none (.ref 107) (.str ⟨#[111,99,116,101,116,109,105,110,116,46,98,97,115,105,99,115]⟩ 194))),
 (115,(fo (ae 10) ⟨#[102,105,116,115,95,101,105,116,104,101,114]⟩ .none (.ref 114) (.str ⟨#[111,99,116,101,116,109,105,110,116,46,98,97,115,105,99,115]⟩ 194)))]
noncomputable def lU (P:Params):List (Addr×Obj):=uR P ++ lT P
theorem CN (w:World) (os:OsState):bw w os 2 (lT w.params) (uR w.params) [45,2,4,12,13,46,3,0] [3,46,12] 4 7 395 62 116 250 315 ⟨16,0,17,8⟩ ⟨34,0,35,50⟩:=by kernel_rfl
noncomputable def uS (P:Params):List DictEntry:=(uP P).append [en P ⟨#[108,105,116,116,108,101]⟩ 325 (.ref 122),en P ⟨#[67,79,78,68,73,84,73,79,78,83]⟩ 329 (.str ⟨#[111,32,110,111,32,98,32,97,101,32,101,32,110,101,32,98,101,32,97,32,115,32,110,115,32,112,32,110,112,32,108,32,103,101,32,108,101,32,103]⟩ 328),en P ⟨#[76,79,67,75,69,68]⟩ 331 (.str ⟨#[97,100,100,32,97,100,99,32,97,110,100,32,111,114,32,115,98,98,32,115,117,98,32,120,111,114,32,105,110,99,32,100,101,99,32,110,101,103,32,110,111,116,32,120,99,104,103,32,120,97,100,100,32,99,109,112,120,99,104,103,32,98,116,115,32,98,116,114,32,98,116,99]⟩ 330),en P ⟨#[77,79,86,69,68]⟩ 333 (.str ⟨#[109,111,118,115,98,32,109,111,118,115,119,32,109,111,118,115,100,32,109,111,118,115,113,32,115,116,111,115,98,32,115,116,111,115,119,32,115,116,111,115,100,32,115,116,111,115,113,32,108,111,100,115,98,32,108,111,100,115,119,32,108,111,100,115,100,32,108,111,100,115,113]⟩ 332),en P ⟨#[67,79,77,80,65,82,69,68]⟩ 335 (.str ⟨#[99,109,112,115,98,32,99,109,112,115,119,32,99,109,112,115,100,32,99,109,112,115,113,32,115,99,97,115,98,32,115,99,97,115,119,32,115,99,97,115,100,32,115,99,97,115,113]⟩ 334),en P ⟨#[99,111,110,100,105,116,105,111,110,95,110,97,109,101,115]⟩ 341 (.ref 129),en P ⟨#[105,115,95,102,105,120,101,100]⟩ 348 (.ref 136),en P ⟨#[105,115,95,105,109,109,101,100,105,97,116,101]⟩ 355 (.ref 143),en P ⟨#[105,115,95,114,101,108,97,116,105,118,101]⟩ 362 (.ref 150),en P ⟨#[116,97,107,101,115,95,109,101,109,111,114,121]⟩ 369 (.ref 157),en P ⟨#[107,105,110,100,95,115,105,122,101]⟩ 376 (.ref 164),en P ⟨#[107,105,110,100,95,119,105,100,116,104]⟩ 383 (.ref 171),en P ⟨#[115,108,111,116,95,111,102]⟩ 390 (.ref 178),en P ⟨#[116,97,107,101,115,95,114,101,103,105,115,116,101,114]⟩ 398 (.ref 185),en P ⟨#[116,97,107,101,115,95,119,111,114,116,104]⟩ 408 (.ref 192)]
noncomputable def uT:List Value:=uQ.append [(.int (36) 0),(.int (0) 0),(.ref 121),(.int (48) 0),(.int (0) 0),(.ref 128),(.int (50) 0),(.int (0) 0),(.ref 135),(.int (52) 0),(.int (0) 0),(.ref 142),(.int (54) 0),(.int (0) 0),(.ref 149),(.int (56) 0),(.int (0) 0),(.ref 156),(.int (58) 0),(.int (0) 0),(.ref 163),(.int (66) 0),(.int (0) 0),(.ref 170),(.int (72) 0),(.int (0) 0),(.ref 177),(.int (82) 0),(.int (0) 0),(.ref 184),(.int (92) 0),(.int (0) 0),(.ref 191)]
noncomputable def uU (P:Params):List (Addr×Obj):=[(3,bC (bB (.str ⟨#[111,99,116,101,116,109,105,110,116,46,102,111,114,109,115]⟩ 326) (uS P) P) 34),
 (12,bu uT),
 (122,(fo (ae 11) ⟨#[108,105,116,116,108,101]⟩ .none (.ref 121) (.str ⟨#[111,99,116,101,116,109,105,110,116,46,98,97,115,105,99,115]⟩ 194))),
 (129,(fo (ae 17) ⟨#[99,111,110,100,105,116,105,111,110,95,110,97,109,101,115]⟩ .none (.ref 128) (.str ⟨#[111,99,116,101,116,109,105,110,116,46,102,111,114,109,115]⟩ 326))),
 (136,(fo (ae 18) ⟨#[105,115,95,102,105,120,101,100]⟩ .none (.ref 135) (.str ⟨#[111,99,116,101,116,109,105,110,116,46,102,111,114,109,115]⟩ 326))),
 (143,(fo (ae 19) ⟨#[105,115,95,105,109,109,101,100,105,97,116,101]⟩ .none (.ref 142) (.str ⟨#[111,99,116,101,116,109,105,110,116,46,102,111,114,109,115]⟩ 326))),
 (150,(fo (ae 20) ⟨#[105,115,95,114,101,108,97,116,105,118,101]⟩ .none (.ref 149) (.str ⟨#[111,99,116,101,116,109,105,110,116,46,102,111,114,109,115]⟩ 326))),
 (157,(fo (ae 21) ⟨#[116,97,107,101,115,95,109,101,109,111,114,121]⟩ .none (.ref 156) (.str ⟨#[111,99,116,101,116,109,105,110,116,46,102,111,114,109,115]⟩ 326))),
 (164,(fo (ae 22) ⟨#[107,105,110,100,95,115,105,122,101]⟩ .none (.ref 163) (.str ⟨#[111,99,116,101,116,109,105,110,116,46,102,111,114,109,115]⟩ 326))),
 (171,(fo (ae 23) ⟨#[107,105,110,100,95,119,105,100,116,104]⟩ .none (.ref 170) (.str ⟨#[111,99,116,101,116,109,105,110,116,46,102,111,114,109,115]⟩ 326))),
 (178,(fo (ae 24) ⟨#[115,108,111,116,95,111,102]⟩ .none (.ref 177) (.str ⟨#[111,99,116,101,116,109,105,110,116,46,102,111,114,109,115]⟩ 326))),
 (185,(fo (ae 25) ⟨#[116,97,107,101,115,95,114,101,103,105,115,116,101,114]⟩ .none (.ref 184) (.str ⟨#[111,99,116,101,116,109,105,110,116,46,102,111,114,109,115]⟩ 326))),
 (192,(fo (ae 26) ⟨#[116,97,107,101,115,95,119,111,114,116,104]⟩ .none (.ref 191) (.str ⟨#[111,99,116,101,116,109,105,110,116,46,102,111,114,109,115]⟩ 326)))]
noncomputable def lV (P:Params):List (Addr×Obj):=uU P ++ lU P
theorem CO (w:World) (os:OsState):bw w os 3 (lU w.params) (uU w.params) [4,3,12,13] [3,12] 11 16 372 116 193 315 409 ⟨34,0,35,50⟩ ⟨92,0,102,66⟩:=by kernel_rfl
noncomputable def uV (P:Params):List DictEntry:=(uS P).append [en P ⟨#[116,97,107,101,115,95,100,105,115,116,97,110,99,101]⟩ 416 (.ref 199),en P ⟨#[116,97,107,101,115]⟩ 425 (.ref 206)]
noncomputable def uW:List Value:=uT.append [(.int (103) 0),(.int (0) 0),(.ref 198),(.int (107) 0),(.int (0) 0),(.ref 205)]
noncomputable def uX (P:Params):List (Addr×Obj):=[(3,bC (bB (.str ⟨#[111,99,116,101,116,109,105,110,116,46,102,111,114,109,115]⟩ 326) (uV P) P) 36),
 (12,bu uW),
 (199,(fo (ae 27) ⟨#[116,97,107,101,115,95,100,105,115,116,97,110,99,101]⟩ .none (.ref 198) (.str ⟨#[111,99,116,101,116,109,105,110,116,46,102,111,114,109,115]⟩ 326))),
 (206,(fo (ae 28) ⟨#[116,97,107,101,115]⟩ .none (.ref 205) (.str ⟨#[111,99,116,101,116,109,105,110,116,46,102,111,114,109,115]⟩ 326)))]
noncomputable def lW (P:Params):List (Addr×Obj):=uX P ++ lV P
theorem CP (w:World) (os:OsState):bw w os 4 (lV w.params) (uX w.params) [4,3,12,13] [3,12] 27 2 62 193 207 409 426 ⟨92,0,102,66⟩ ⟨107,0,118,49⟩:=by kernel_rfl
noncomputable def uY (P:Params):List DictEntry:=(uV P).append [en P ⟨#[70,111,114,109]⟩ 508 (.ref 264)]
noncomputable def uZ:List Value:=uW.append [(.int (119) 0),(.int (0) 0),(.ref 212)]
noncomputable def u5 (P:Params):List (Addr×Obj):=[(3,bC (bB (.str ⟨#[111,99,116,101,116,109,105,110,116,46,102,111,114,109,115]⟩ 326) (uY P) P) 37),
 (12,bu uZ),
 (214,⟨(.type "tuple"),none,.seq [(.int (0) 438),(.int (-1) 440),(.int (0) 441),(.int (0) 442),(.bool false)].toArray 0,#[]⟩),
 (219,(fo (ay 29 0) ⟨#[70,111,114,109,46,95,95,105,110,105,116,95,95]⟩ (.ref 214) (.ref 218) (.str ⟨#[111,99,116,101,116,109,105,110,116,46,102,111,114,109,115]⟩ 326))),
 (226,(fo (ay 29 1) ⟨#[70,111,114,109,46,116,111,108,100]⟩ .none (.ref 225) (.str ⟨#[111,99,116,101,116,109,105,110,116,46,102,111,114,109,115]⟩ 326))),
 (233,(fo (ay 29 2) ⟨#[70,111,114,109,46,115,108,111,116,115]⟩ .none (.ref 232) (.str ⟨#[111,99,116,101,116,109,105,110,116,46,102,111,114,109,115]⟩ 326))),
 (240,(fo (ay 29 3) ⟨#[70,111,114,109,46,104,97,115,95,109,111,100,114,109]⟩ .none (.ref 239) (.str ⟨#[111,99,116,101,116,109,105,110,116,46,102,111,114,109,115]⟩ 326))),
 (247,(fo (ay 29 4) ⟨#[70,111,114,109,46,104,97,115,95,112,108,117,115]⟩ .none (.ref 246) (.str ⟨#[111,99,116,101,116,109,105,110,116,46,102,111,114,109,115]⟩ 326))),
 (254,(fo (ay 29 5) ⟨#[70,111,114,109,46,109,101,109,111,114,121,95,115,105,122,101]⟩ .none (.ref 253) (.str ⟨#[111,99,116,101,116,109,105,110,116,46,102,111,114,109,115]⟩ 326))),
 (261,(fo (ay 29 6) ⟨#[70,111,114,109,46,110,101,101,100,115,95,109,101,109,111,114,121]⟩ .none (.ref 260) (.str ⟨#[111,99,116,101,116,109,105,110,116,46,102,111,114,109,115]⟩ 326))),
 (263,⟨(.type "dict"),none,.dict [en P ⟨#[95,95,109,111,100,117,108,101,95,95]⟩ 433 (.str ⟨#[111,99,116,101,116,109,105,110,116,46,102,111,114,109,115]⟩ 326),en P ⟨#[95,95,102,105,114,115,116,108,105,110,101,110,111,95,95]⟩ 437 (.int (119) 436),en P ⟨#[95,95,105,110,105,116,95,95]⟩ 448 (.ref 219),en P ⟨#[116,111,108,100]⟩ 455 (.ref 226),en P ⟨#[115,108,111,116,115]⟩ 462 (.ref 233),en P ⟨#[104,97,115,95,109,111,100,114,109]⟩ 469 (.ref 240),en P ⟨#[104,97,115,95,112,108,117,115]⟩ 476 (.ref 247),en P ⟨#[109,101,109,111,114,121,95,115,105,122,101]⟩ 483 (.ref 254),en P ⟨#[110,101,101,100,115,95,109,101,109,111,114,121]⟩ 490 (.ref 261),en P ⟨#[95,95,115,116,97,116,105,99,95,97,116,116,114,105,98,117,116,101,115,95,95]⟩ 501 (.ref 262),en P ⟨#[95,95,100,105,99,116,95,95]⟩ 503 (.ref 265),en P ⟨#[95,95,119,101,97,107,114,101,102,95,95]⟩ 505 (.ref 266),en P ⟨#[95,95,100,111,99,95,95]⟩ 506 .none].toArray 4,#[]⟩),
 (264,⟨(.type "type"),none,.cls ⟨⟨#[70,111,114,109]⟩,[(.type "object")],[(.ref 264),(.type "object")],263,⟨#[70,111,114,109]⟩,true,[],[],false,none,false⟩,[none,none,(some (.str ⟨#[70,111,114,109]⟩ 426)),(some (.str ⟨#[70,111,114,109]⟩ 434)),(some (.builtin "object.__new__")),(some (.bool true))].toArray⟩)]
noncomputable def lY (P:Params):List (Addr×Obj):=u5 P ++ lW P
theorem CQ (w:World) (os:OsState):bw w os 5 (lW w.params) (u5 w.params) [2,4,3,12,13,0] [3,12] 29 1 424 207 269 426 509 ⟨107,0,118,49⟩ ⟨119,0,149,16⟩:=by kernel_rfl
noncomputable def u6 (P:Params):List DictEntry:=(uY P).append [en P ⟨#[109,97,116,99,104,101,115]⟩ 518 (.ref 275),en P ⟨#[99,97,110,95,108,111,99,107]⟩ 525 (.ref 282),en P ⟨#[114,101,112,101,97,116,115]⟩ 532 (.ref 289),en P ⟨#[77,69,77,79,82,89,95,83,73,90,69,83]⟩ 536 (.str ⟨#[48,32,56,32,49,54,32,51,50,32,54,52,32,49,50,56]⟩ 535),en P ⟨#[83,67,65,76,69,83]⟩ 538 (.str ⟨#[49,32,50,32,52,32,56]⟩ 537)]
noncomputable def u7:List Value:=uZ.append [(.int (150) 0),(.int (0) 0),(.ref 274),(.int (157) 0),(.int (0) 0),(.ref 281),(.int (159) 0),(.int (0) 0),(.ref 288)]
noncomputable def u9 (P:Params):List (Addr×Obj):=[(3,bC (bB (.str ⟨#[111,99,116,101,116,109,105,110,116,46,111,112,101,114,97,110,100,115]⟩ 533) (u6 P) P) 42),
 (12,bu u7),
 (275,(fo (ae 30) ⟨#[109,97,116,99,104,101,115]⟩ .none (.ref 274) (.str ⟨#[111,99,116,101,116,109,105,110,116,46,102,111,114,109,115]⟩ 326))),
 (282,(fo (ae 31) ⟨#[99,97,110,95,108,111,99,107]⟩ .none (.ref 281) (.str ⟨#[111,99,116,101,116,109,105,110,116,46,102,111,114,109,115]⟩ 326))),
 (289,(fo (ae 32) ⟨#[114,101,112,101,97,116,115]⟩ .none (.ref 288) (.str ⟨#[111,99,116,101,116,109,105,110,116,46,102,111,114,109,115]⟩ 326)))]
noncomputable def lZ (P:Params):List (Addr×Obj):=u9 P ++ lY P
theorem CR (w:World) (os:OsState):bw w os 6 (lY w.params) (u9 w.params) [4,3,12,13] [3,12] 30 6 118 269 290 509 539 ⟨119,0,149,16⟩ ⟨165,0,165,6⟩:=by kernel_rfl
noncomputable def vb (P:Params):List DictEntry:=(u6 P).append [en P ⟨#[79,112,101,114,97,110,100]⟩ 588 (.ref 327)]
noncomputable def vc:List Value:=u7.append [(.int (166) 0),(.int (0) 0),(.ref 295)]
noncomputable def vd (P:Params):List (Addr×Obj):=[(3,bC (bB (.str ⟨#[111,99,116,101,116,109,105,110,116,46,111,112,101,114,97,110,100,115]⟩ 533) (vb P) P) 43),
 (12,bu vc),
 (303,(fo (ay 36 0) ⟨#[79,112,101,114,97,110,100,46,95,95,105,110,105,116,95,95]⟩ .none (.ref 302) (.str ⟨#[111,99,116,101,116,109,105,110,116,46,111,112,101,114,97,110,100,115]⟩ 533))),
 (310,(fo (ay 36 1) ⟨#[79,112,101,114,97,110,100,46,116,111,108,100]⟩ .none (.ref 309) (.str ⟨#[111,99,116,101,116,109,105,110,116,46,111,112,101,114,97,110,100,115]⟩ 533))),
 (317,(fo (ay 36 2) ⟨#[79,112,101,114,97,110,100,46,115,121,109,98,111,108]⟩ .none (.ref 316) (.str ⟨#[111,99,116,101,116,109,105,110,116,46,111,112,101,114,97,110,100,115]⟩ 533))),
 (324,(fo (ay 36 3) ⟨#[79,112,101,114,97,110,100,46,114,101,103,105,115,116,101,114,115]⟩ .none (.ref 323) (.str ⟨#[111,99,116,101,116,109,105,110,116,46,111,112,101,114,97,110,100,115]⟩ 533))),
 (326,⟨(.type "dict"),none,.dict [en P ⟨#[95,95,109,111,100,117,108,101,95,95]⟩ 546 (.str ⟨#[111,99,116,101,116,109,105,110,116,46,111,112,101,114,97,110,100,115]⟩ 533),en P ⟨#[95,95,102,105,114,115,116,108,105,110,101,110,111,95,95]⟩ 550 (.int (166) 549),en P ⟨#[95,95,105,110,105,116,95,95]⟩ 558 (.ref 303),en P ⟨#[116,111,108,100]⟩ 565 (.ref 310),en P ⟨#[115,121,109,98,111,108]⟩ 572 (.ref 317),en P ⟨#[114,101,103,105,115,116,101,114,115]⟩ 579 (.ref 324),en P ⟨#[95,95,115,116,97,116,105,99,95,97,116,116,114,105,98,117,116,101,115,95,95]⟩ 581 (.ref 325),en P ⟨#[95,95,100,105,99,116,95,95]⟩ 583 (.ref 328),en P ⟨#[95,95,119,101,97,107,114,101,102,95,95]⟩ 585 (.ref 329),en P ⟨#[95,95,100,111,99,95,95]⟩ 586 .none].toArray 4,#[]⟩),
 (327,⟨(.type "type"),none,.cls ⟨⟨#[79,112,101,114,97,110,100]⟩,[(.type "object")],[(.ref 327),(.type "object")],326,⟨#[79,112,101,114,97,110,100]⟩,true,[],[],false,none,false⟩,[none,none,(some (.str ⟨#[79,112,101,114,97,110,100]⟩ 539)),(some (.str ⟨#[79,112,101,114,97,110,100]⟩ 547)),(some (.builtin "object.__new__")),(some (.bool true))].toArray⟩)]
noncomputable def l5 (P:Params):List (Addr×Obj):=vd P ++ lZ P
theorem CS (w:World) (os:OsState):bw w os 7 (lZ w.params) (vd w.params) [2,4,3,12,13,0] [3,12] 36 1 316 290 332 539 589 ⟨165,0,165,6⟩ ⟨166,0,178,17⟩:=by kernel_rfl
noncomputable def ve (P:Params):List DictEntry:=(vb P).append [en P ⟨#[82,101,103]⟩ 627 (.ref 362)]
noncomputable def vf:List Value:=vc.append [(.int (179) 0),(.int (0) 0),(.ref 337)]
noncomputable def vg (P:Params):List (Addr×Obj):=[(327,⟨(.type "type"),none,.cls ⟨⟨#[79,112,101,114,97,110,100]⟩,[(.type "object")],[(.ref 327),(.type "object")],326,⟨#[79,112,101,114,97,110,100]⟩,true,[],[(.ref 362)],false,none,false⟩,[none,none,(some (.str ⟨#[79,112,101,114,97,110,100]⟩ 539)),(some (.str ⟨#[79,112,101,114,97,110,100]⟩ 547)),(some (.builtin "object.__new__")),(some (.bool true))].toArray⟩),
 (3,bC (bB (.str ⟨#[111,99,116,101,116,109,105,110,116,46,111,112,101,114,97,110,100,115]⟩ 533) (ve P) P) 44),
 (12,bu vf),
 (345,(fo (ay 37 0) ⟨#[82,101,103,46,95,95,105,110,105,116,95,95]⟩ .none (.ref 344) (.str ⟨#[111,99,116,101,116,109,105,110,116,46,111,112,101,114,97,110,100,115]⟩ 533))),
 (352,(fo (ay 37 1) ⟨#[82,101,103,46,116,111,108,100]⟩ .none (.ref 351) (.str ⟨#[111,99,116,101,116,109,105,110,116,46,111,112,101,114,97,110,100,115]⟩ 533))),
 (359,(fo (ay 37 2) ⟨#[82,101,103,46,114,101,103,105,115,116,101,114,115]⟩ .none (.ref 358) (.str ⟨#[111,99,116,101,116,109,105,110,116,46,111,112,101,114,97,110,100,115]⟩ 533))),
 (361,⟨(.type "dict"),none,.dict [en P ⟨#[95,95,109,111,100,117,108,101,95,95]⟩ 596 (.str ⟨#[111,99,116,101,116,109,105,110,116,46,111,112,101,114,97,110,100,115]⟩ 533),en P ⟨#[95,95,102,105,114,115,116,108,105,110,101,110,111,95,95]⟩ 600 (.int (179) 599),en P ⟨#[95,95,105,110,105,116,95,95]⟩ 608 (.ref 345),en P ⟨#[116,111,108,100]⟩ 615 (.ref 352),en P ⟨#[114,101,103,105,115,116,101,114,115]⟩ 622 (.ref 359),en P ⟨#[95,95,115,116,97,116,105,99,95,97,116,116,114,105,98,117,116,101,115,95,95]⟩ 624 (.ref 360),en P ⟨#[95,95,100,111,99,95,95]⟩ 625 .none].toArray 2,#[]⟩),
 (362,⟨(.type "type"),none,.cls ⟨⟨#[82,101,103]⟩,[(.ref 327)],[(.ref 362),(.ref 327),(.type "object")],361,⟨#[82,101,103]⟩,true,[],[],false,none,false⟩,[(some (.ref 332)),none,(some (.str ⟨#[82,101,103]⟩ 589)),(some (.str ⟨#[82,101,103]⟩ 597)),(some (.builtin "object.__new__")),(some (.bool true))].toArray⟩)]
noncomputable def l6 (P:Params):List (Addr×Obj):=vg P ++ l5 P
theorem CT (w:World) (os:OsState):bw w os 8 (l5 w.params) (vg w.params) [326,2,4,12,13,327,3,0] [3,327,12] 37 1 308 332 365 589 628 ⟨166,0,178,17⟩ ⟨179,0,189,30⟩:=by kernel_rfl
noncomputable def vh (P:Params):List DictEntry:=(ve P).append [en P ⟨#[73,109,109]⟩ 669 (.ref 396)]
noncomputable def vi:List Value:=vf.append [(.int (190) 0),(.int (0) 0),(.ref 370)]
noncomputable def vj (P:Params):List (Addr×Obj):=[(327,⟨(.type "type"),none,.cls ⟨⟨#[79,112,101,114,97,110,100]⟩,[(.type "object")],[(.ref 327),(.type "object")],326,⟨#[79,112,101,114,97,110,100]⟩,true,[],[(.ref 362),(.ref 396)],false,none,false⟩,[none,none,(some (.str ⟨#[79,112,101,114,97,110,100]⟩ 539)),(some (.str ⟨#[79,112,101,114,97,110,100]⟩ 547)),(some (.builtin "object.__new__")),(some (.bool true))].toArray⟩),
 (3,bC (bB (.str ⟨#[111,99,116,101,116,109,105,110,116,46,111,112,101,114,97,110,100,115]⟩ 533) (vh P) P) 45),
 (12,bu vi),
 (372,⟨(.type "tuple"),none,.seq [(.str ⟨#[]⟩ 640)].toArray 0,#[]⟩),
 (379,(fo (ay 38 0) ⟨#[73,109,109,46,95,95,105,110,105,116,95,95]⟩ (.ref 372) (.ref 378) (.str ⟨#[111,99,116,101,116,109,105,110,116,46,111,112,101,114,97,110,100,115]⟩ 533))),
 (386,(fo (ay 38 1) ⟨#[73,109,109,46,116,111,108,100]⟩ .none (.ref 385) (.str ⟨#[111,99,116,101,116,109,105,110,116,46,111,112,101,114,97,110,100,115]⟩ 533))),
 (393,(fo (ay 38 2) ⟨#[73,109,109,46,115,121,109,98,111,108]⟩ .none (.ref 392) (.str ⟨#[111,99,116,101,116,109,105,110,116,46,111,112,101,114,97,110,100,115]⟩ 533))),
 (395,⟨(.type "dict"),none,.dict [en P ⟨#[95,95,109,111,100,117,108,101,95,95]⟩ 635 (.str ⟨#[111,99,116,101,116,109,105,110,116,46,111,112,101,114,97,110,100,115]⟩ 533),en P ⟨#[95,95,102,105,114,115,116,108,105,110,101,110,111,95,95]⟩ 639 (.int (190) 638),en P ⟨#[95,95,105,110,105,116,95,95]⟩ 649 (.ref 379),en P ⟨#[116,111,108,100]⟩ 656 (.ref 386),en P ⟨#[115,121,109,98,111,108]⟩ 663 (.ref 393),en P ⟨#[95,95,115,116,97,116,105,99,95,97,116,116,114,105,98,117,116,101,115,95,95]⟩ 666 (.ref 394),en P ⟨#[95,95,100,111,99,95,95]⟩ 667 .none].toArray 2,#[]⟩),
 (396,⟨(.type "type"),none,.cls ⟨⟨#[73,109,109]⟩,[(.ref 327)],[(.ref 396),(.ref 327),(.type "object")],395,⟨#[73,109,109]⟩,true,[],[],false,none,false⟩,[(some (.ref 365)),none,(some (.str ⟨#[73,109,109]⟩ 628)),(some (.str ⟨#[73,109,109]⟩ 636)),(some (.builtin "object.__new__")),(some (.bool true))].toArray⟩)]
noncomputable def l7 (P:Params):List (Addr×Obj):=vj P ++ l6 P
theorem CU (w:World) (os:OsState):bw w os 9 (l6 w.params) (vj w.params) [326,2,4,12,13,327,3,0] [3,327,12] 38 1 312 365 399 628 670 ⟨179,0,189,30⟩ ⟨190,0,201,24⟩:=by kernel_rfl
noncomputable def vk (P:Params):List DictEntry:=(vh P).append [en P ⟨#[82,101,108]⟩ 719 (.ref 437)]
noncomputable def vl:List Value:=vi.append [(.int (202) 0),(.int (0) 0),(.ref 404)]
noncomputable def vm (P:Params):List (Addr×Obj):=[(327,⟨(.type "type"),none,.cls ⟨⟨#[79,112,101,114,97,110,100]⟩,[(.type "object")],[(.ref 327),(.type "object")],326,⟨#[79,112,101,114,97,110,100]⟩,true,[],[(.ref 362),(.ref 396),(.ref 437)],false,none,false⟩,[none,none,(some (.str ⟨#[79,112,101,114,97,110,100]⟩ 539)),(some (.str ⟨#[79,112,101,114,97,110,100]⟩ 547)),(some (.builtin "object.__new__")),(some (.bool true))].toArray⟩),
 (3,bC (bB (.str ⟨#[111,99,116,101,116,109,105,110,116,46,111,112,101,114,97,110,100,115]⟩ 533) (vk P) P) 46),
 (12,bu vl),
 (406,⟨(.type "tuple"),none,.seq [(.str ⟨#[]⟩ 682)].toArray 0,#[]⟩),
 (413,(fo (ay 39 0) ⟨#[82,101,108,46,95,95,105,110,105,116,95,95]⟩ (.ref 406) (.ref 412) (.str ⟨#[111,99,116,101,116,109,105,110,116,46,111,112,101,114,97,110,100,115]⟩ 533))),
 (420,(fo (ay 39 1) ⟨#[82,101,108,46,116,111,108,100]⟩ .none (.ref 419) (.str ⟨#[111,99,116,101,116,109,105,110,116,46,111,112,101,114,97,110,100,115]⟩ 533))),
 (427,(fo (ay 39 2) ⟨#[82,101,108,46,115,121,109,98,111,108]⟩ .none (.ref 426) (.str ⟨#[111,99,116,101,116,109,105,110,116,46,111,112,101,114,97,110,100,115]⟩ 533))),
 (434,(fo (ay 39 3) ⟨#[82,101,108,46,116,97,114,103,101,116]⟩ .none (.ref 433) (.str ⟨#[111,99,116,101,116,109,105,110,116,46,111,112,101,114,97,110,100,115]⟩ 533))),
 (436,⟨(.type "dict"),none,.dict [en P ⟨#[95,95,109,111,100,117,108,101,95,95]⟩ 677 (.str ⟨#[111,99,116,101,116,109,105,110,116,46,111,112,101,114,97,110,100,115]⟩ 533),en P ⟨#[95,95,102,105,114,115,116,108,105,110,101,110,111,95,95]⟩ 681 (.int (202) 680),en P ⟨#[95,95,105,110,105,116,95,95]⟩ 691 (.ref 413),en P ⟨#[116,111,108,100]⟩ 698 (.ref 420),en P ⟨#[115,121,109,98,111,108]⟩ 705 (.ref 427),en P ⟨#[116,97,114,103,101,116]⟩ 713 (.ref 434),en P ⟨#[95,95,115,116,97,116,105,99,95,97,116,116,114,105,98,117,116,101,115,95,95]⟩ 716 (.ref 435),en P ⟨#[95,95,100,111,99,95,95]⟩ 717 .none].toArray 2,#[]⟩),
 (437,⟨(.type "type"),none,.cls ⟨⟨#[82,101,108]⟩,[(.ref 327)],[(.ref 437),(.ref 327),(.type "object")],436,⟨#[82,101,108]⟩,true,[],[],false,none,false⟩,[(some (.ref 399)),none,(some (.str ⟨#[82,101,108]⟩ 670)),(some (.str ⟨#[82,101,108]⟩ 678)),(some (.builtin "object.__new__")),(some (.bool true))].toArray⟩)]
noncomputable def l8 (P:Params):List (Addr×Obj):=vm P ++ l7 P
theorem CV (w:World) (os:OsState):bw w os 10 (l7 w.params) (vm w.params) [326,2,4,12,13,327,3,0] [3,327,12] 39 1 344 399 440 670 720 ⟨190,0,201,24⟩ ⟨202,0,216,44⟩:=by kernel_rfl
noncomputable def vn (P:Params):List DictEntry:=(vk P).append [en P ⟨#[77,101,109]⟩ 795 (.ref 490)]
noncomputable def vo:List Value:=vl.append [(.int (217) 0),(.int (0) 0),(.ref 445)]
noncomputable def vp (P:Params):List (Addr×Obj):=[(327,⟨(.type "type"),none,.cls ⟨⟨#[79,112,101,114,97,110,100]⟩,[(.type "object")],[(.ref 327),(.type "object")],326,⟨#[79,112,101,114,97,110,100]⟩,true,[],[(.ref 362),(.ref 396),(.ref 437),(.ref 490)],false,none,false⟩,[none,none,(some (.str ⟨#[79,112,101,114,97,110,100]⟩ 539)),(some (.str ⟨#[79,112,101,114,97,110,100]⟩ 547)),(some (.builtin "object.__new__")),(some (.bool true))].toArray⟩),
 (3,bC (bB (.str ⟨#[111,99,116,101,116,109,105,110,116,46,111,112,101,114,97,110,100,115]⟩ 533) (vn P) P) 47),
 (12,bu vo),
 (447,⟨(.type "tuple"),none,.seq [(.int (0) 732),(.str ⟨#[]⟩ 733),(.str ⟨#[]⟩ 734)].toArray 0,#[]⟩),
 (454,(fo (ay 40 0) ⟨#[77,101,109,46,95,95,105,110,105,116,95,95]⟩ (.ref 447) (.ref 453) (.str ⟨#[111,99,116,101,116,109,105,110,116,46,111,112,101,114,97,110,100,115]⟩ 533))),
 (461,(fo (ay 40 1) ⟨#[77,101,109,46,116,111,108,100]⟩ .none (.ref 460) (.str ⟨#[111,99,116,101,116,109,105,110,116,46,111,112,101,114,97,110,100,115]⟩ 533))),
 (468,(fo (ay 40 2) ⟨#[77,101,109,46,115,121,109,98,111,108]⟩ .none (.ref 467) (.str ⟨#[111,99,116,101,116,109,105,110,116,46,111,112,101,114,97,110,100,115]⟩ 533))),
 (473,(fo (ay 40 3) ⟨#[77,101,109,46,114,101,103,105,115,116,101,114,115]⟩ .none (.ref 472) (.str ⟨#[111,99,116,101,116,109,105,110,116,46,111,112,101,114,97,110,100,115]⟩ 533))),
 (480,(fo (ay 40 4) ⟨#[77,101,109,46,105,115,95,114,105,112]⟩ .none (.ref 479) (.str ⟨#[111,99,116,101,116,109,105,110,116,46,111,112,101,114,97,110,100,115]⟩ 533))),
 (487,(fo (ay 40 5) ⟨#[77,101,109,46,105,115,95,97,98,115,111,108,117,116,101]⟩ .none (.ref 486) (.str ⟨#[111,99,116,101,116,109,105,110,116,46,111,112,101,114,97,110,100,115]⟩ 533))),
 (489,⟨(.type "dict"),none,.dict [en P ⟨#[95,95,109,111,100,117,108,101,95,95]⟩ 727 (.str ⟨#[111,99,116,101,116,109,105,110,116,46,111,112,101,114,97,110,100,115]⟩ 533),en P ⟨#[95,95,102,105,114,115,116,108,105,110,101,110,111,95,95]⟩ 731 (.int (217) 730),en P ⟨#[95,95,105,110,105,116,95,95]⟩ 748 (.ref 454),en P ⟨#[116,111,108,100]⟩ 757 (.ref 461),en P ⟨#[115,121,109,98,111,108]⟩ 764 (.ref 468),en P ⟨#[114,101,103,105,115,116,101,114,115]⟩ 770 (.ref 473),en P ⟨#[105,115,95,114,105,112]⟩ 777 (.ref 480),en P ⟨#[105,115,95,97,98,115,111,108,117,116,101]⟩ 784 (.ref 487),en P ⟨#[95,95,115,116,97,116,105,99,95,97,116,116,114,105,98,117,116,101,115,95,95]⟩ 792 (.ref 488),en P ⟨#[95,95,100,111,99,95,95]⟩ 793 .none].toArray 2,#[]⟩),
 (490,⟨(.type "type"),none,.cls ⟨⟨#[77,101,109]⟩,[(.ref 327)],[(.ref 490),(.ref 327),(.type "object")],489,⟨#[77,101,109]⟩,true,[],[],false,none,false⟩,[(some (.ref 440)),none,(some (.str ⟨#[77,101,109]⟩ 720)),(some (.str ⟨#[77,101,109]⟩ 728)),(some (.builtin "object.__new__")),(some (.bool true))].toArray⟩)]
noncomputable def l9 (P:Params):List (Addr×Obj):=vp P ++ l8 P
theorem CW (w:World) (os:OsState):bw w os 11 (l8 w.params) (vp w.params) [326,2,4,12,13,327,3,0] [3,327,12] 40 1 416 440 493 720 796 ⟨202,0,216,44⟩ ⟨217,0,244,16⟩:=by kernel_rfl
noncomputable def vq (P:Params):List DictEntry:=(vn P).append [en P ⟨#[73,110,115,116,114,117,99,116,105,111,110]⟩ 867 (.ref 541)]
noncomputable def vt:List Value:=vo.append [(.int (245) 0),(.int (0) 0),(.ref 498)]
noncomputable def vu (P:Params):List (Addr×Obj):=[(3,bC (bB (.str ⟨#[111,99,116,101,116,109,105,110,116,46,111,112,101,114,97,110,100,115]⟩ 533) (vq P) P) 48),
 (12,bu vt),
 (500,⟨(.type "tuple"),none,.seq [(.str ⟨#[]⟩ 808)].toArray 0,#[]⟩),
 (507,(fo (ay 41 0) ⟨#[73,110,115,116,114,117,99,116,105,111,110,46,95,95,105,110,105,116,95,95]⟩ (.ref 500) (.ref 506) (.str ⟨#[111,99,116,101,116,109,105,110,116,46,111,112,101,114,97,110,100,115]⟩ 533))),
 (512,(fo (ay 41 1) ⟨#[73,110,115,116,114,117,99,116,105,111,110,46,116,111,108,100]⟩ .none (.ref 511) (.str ⟨#[111,99,116,101,116,109,105,110,116,46,111,112,101,114,97,110,100,115]⟩ 533))),
 (519,(fo (ay 41 2) ⟨#[73,110,115,116,114,117,99,116,105,111,110,46,109,101,109,111,114,121,95,97,116]⟩ .none (.ref 518) (.str ⟨#[111,99,116,101,116,109,105,110,116,46,111,112,101,114,97,110,100,115]⟩ 533))),
 (526,(fo (ay 41 3) ⟨#[73,110,115,116,114,117,99,116,105,111,110,46,109,101,109,111,114,121]⟩ .none (.ref 525) (.str ⟨#[111,99,116,101,116,109,105,110,116,46,111,112,101,114,97,110,100,115]⟩ 533))),
 (531,(fo (ay 41 4) ⟨#[73,110,115,116,114,117,99,116,105,111,110,46,115,121,109,98,111,108,115]⟩ .none (.ref 530) (.str ⟨#[111,99,116,101,116,109,105,110,116,46,111,112,101,114,97,110,100,115]⟩ 533))),
 (538,(fo (ay 41 5) ⟨#[73,110,115,116,114,117,99,116,105,111,110,46,114,101,112,108,97,99,101,100]⟩ .none (.ref 537) (.str ⟨#[111,99,116,101,116,109,105,110,116,46,111,112,101,114,97,110,100,115]⟩ 533))),
 (540,⟨(.type "dict"),none,.dict [en P ⟨#[95,95,109,111,100,117,108,101,95,95]⟩ 803 (.str ⟨#[111,99,116,101,116,109,105,110,116,46,111,112,101,114,97,110,100,115]⟩ 533),en P ⟨#[95,95,102,105,114,115,116,108,105,110,101,110,111,95,95]⟩ 807 (.int (245) 806),en P ⟨#[95,95,105,110,105,116,95,95]⟩ 818 (.ref 507),en P ⟨#[116,111,108,100]⟩ 824 (.ref 512),en P ⟨#[109,101,109,111,114,121,95,97,116]⟩ 833 (.ref 519),en P ⟨#[109,101,109,111,114,121]⟩ 841 (.ref 526),en P ⟨#[115,121,109,98,111,108,115]⟩ 847 (.ref 531),en P ⟨#[114,101,112,108,97,99,101,100]⟩ 856 (.ref 538),en P ⟨#[95,95,115,116,97,116,105,99,95,97,116,116,114,105,98,117,116,101,115,95,95]⟩ 860 (.ref 539),en P ⟨#[95,95,100,105,99,116,95,95]⟩ 862 (.ref 542),en P ⟨#[95,95,119,101,97,107,114,101,102,95,95]⟩ 864 (.ref 543),en P ⟨#[95,95,100,111,99,95,95]⟩ 865 .none].toArray 4,#[]⟩),
 (541,⟨(.type "type"),none,.cls ⟨⟨#[73,110,115,116,114,117,99,116,105,111,110]⟩,[(.type "object")],[(.ref 541),(.type "object")],540,⟨#[73,110,115,116,114,117,99,116,105,111,110]⟩,true,[],[],false,none,false⟩,[none,none,(some (.str ⟨#[73,110,115,116,114,117,99,116,105,111,110]⟩ 796)),(some (.str ⟨#[73,110,115,116,114,117,99,116,105,111,110]⟩ 804)),(some (.builtin "object.__new__")),(some (.bool true))].toArray⟩)]
noncomputable def ma (P:Params):List (Addr×Obj):=vu P ++ l9 P
theorem CX (w:World) (os:OsState):bw w os 12 (l9 w.params) (vu w.params) [2,4,3,12,13,0] [3,12] 41 1 383 493 546 796 868 ⟨217,0,244,16⟩ ⟨245,0,269,16⟩:=by kernel_rfl
noncomputable def vx (P:Params):List DictEntry:=(vq P).append [en P ⟨#[105,115,95,97,100,100,114,101,115,115,95,114,101,103,105,115,116,101,114]⟩ 874 (.ref 552),en P ⟨#[99,104,101,99,107,95,98,97,115,101]⟩ 881 (.ref 559),en P ⟨#[99,104,101,99,107,95,105,110,100,101,120]⟩ 888 (.ref 566),en P ⟨#[99,104,101,99,107,95,109,101,109]⟩ 895 (.ref 573),en P ⟨#[78,79,95,73,78,68,69,88]⟩ 899 (.int (4) 898),en P ⟨#[78,79,95,66,65,83,69]⟩ 901 (.int (5) 900),en P ⟨#[87,73,84,72,95,83,73,66]⟩ 903 (.int (4) 902),en P ⟨#[70,82,79,77,95,82,73,80]⟩ 905 (.int (5) 904),en P ⟨#[112,97,99,107,95,116,104,114,101,101]⟩ 914 (.ref 580),en P ⟨#[117,110,112,97,99,107,95,116,104,114,101,101]⟩ 921 (.ref 587),en P ⟨#[112,97,99,107,95,109,111,100,114,109]⟩ 930 (.ref 594),en P ⟨#[112,97,99,107,95,115,105,98]⟩ 939 (.ref 601),en P ⟨#[117,110,112,97,99,107,95,115,105,98]⟩ 946 (.ref 608),en P ⟨#[115,104,105,102,116,95,111,102]⟩ 954 (.ref 615)]
noncomputable def vy:List Value:=vt.append [(.int (270) 0),(.int (0) 0),(.ref 551),(.int (272) 0),(.int (0) 0),(.ref 558),(.int (280) 0),(.int (0) 0),(.ref 565),(.int (288) 0),(.int (0) 0),(.ref 572),(.int (303) 0),(.int (0) 0),(.ref 579),(.int (307) 0),(.int (0) 0),(.ref 586),(.int (309) 0),(.int (0) 0),(.ref 593),(.int (311) 0),(.int (0) 0),(.ref 600),(.int (313) 0),(.int (0) 0),(.ref 607),(.int (315) 0),(.int (0) 0),(.ref 614)]
noncomputable def vz (P:Params):List (Addr×Obj):=[(3,bC (bB (.str ⟨#[111,99,116,101,116,109,105,110,116,46,109,111,100,114,109]⟩ 896) (vx P) P) 62),
 (12,bu vy),
 (552,(fo (ae 42) ⟨#[105,115,95,97,100,100,114,101,115,115,95,114,101,103,105,115,116,101,114]⟩ .none (.ref 551) (.str ⟨#[111,99,116,101,116,109,105,110,116,46,111,112,101,114,97,110,100,115]⟩ 533))),
 (559,(fo (ae 43) ⟨#[99,104,101,99,107,95,98,97,115,101]⟩ .none (.ref 558) (.str ⟨#[111,99,116,101,116,109,105,110,116,46,111,112,101,114,97,110,100,115]⟩ 533))),
 (566,(fo (ae 44) ⟨#[99,104,101,99,107,95,105,110,100,101,120]⟩ .none (.ref 565) (.str ⟨#[111,99,116,101,116,109,105,110,116,46,111,112,101,114,97,110,100,115]⟩ 533))),
 (573,(fo (ae 45) ⟨#[99,104,101,99,107,95,109,101,109]⟩ .none (.ref 572) (.str ⟨#[111,99,116,101,116,109,105,110,116,46,111,112,101,114,97,110,100,115]⟩ 533))),
 (580,(fo (ae 51) ⟨#[112,97,99,107,95,116,104,114,101,101]⟩ .none (.ref 579) (.str ⟨#[111,99,116,101,116,109,105,110,116,46,109,111,100,114,109]⟩ 896))),
 (587,(fo (ae 52) ⟨#[117,110,112,97,99,107,95,116,104,114,101,101]⟩ .none (.ref 586) (.str ⟨#[111,99,116,101,116,109,105,110,116,46,109,111,100,114,109]⟩ 896))),
 (594,(fo (ae 53) ⟨#[112,97,99,107,95,109,111,100,114,109]⟩ .none (.ref 593) (.str ⟨#[111,99,116,101,116,109,105,110,116,46,109,111,100,114,109]⟩ 896))),
 (601,(fo (ae 54) ⟨#[112,97,99,107,95,115,105,98]⟩ .none (.ref 600) (.str ⟨#[111,99,116,101,116,109,105,110,116,46,109,111,100,114,109]⟩ 896))),
 (608,(fo (ae 55) ⟨#[117,110,112,97,99,107,95,115,105,98]⟩ .none (.ref 607) (.str ⟨#[111,99,116,101,116,109,105,110,116,46,109,111,100,114,109]⟩ 896))),
 (615,(fo (ae 56) ⟨#[115,104,105,102,116,95,111,102]⟩ .none (.ref 614) (.str ⟨#[111,99,116,101,116,109,105,110,116,46,109,111,100,114,109]⟩ 896)))]
noncomputable def mc (P:Params):List (Addr×Obj):=vz P ++ ma P
theorem CY (w:World) (os:OsState):bw w os 13 (ma w.params) (vz w.params) [4,3,12,13] [3,12] 42 15 343 546 616 868 955 ⟨245,0,269,16⟩ ⟨315,0,319,49⟩:=by kernel_rfl
noncomputable def vA (P:Params):List DictEntry:=(vx P).append [en P ⟨#[83,104,97,112,101]⟩ 1021 (.ref 660),en P ⟨#[114,101,103,105,115,116,101,114,95,115,104,97,112,101]⟩ 1028 (.ref 671)]
noncomputable def vB:List Value:=vy.append [(.int (320) 0),(.int (0) 0),(.ref 621),(.int (341) 0),(.int (0) 0),(.ref 670)]
noncomputable def vC (P:Params):List (Addr×Obj):=[(3,bC (bB (.str ⟨#[111,99,116,101,116,109,105,110,116,46,109,111,100,114,109]⟩ 896) (vA P) P) 64),
 (12,bu vB),
 (629,(fo (ay 57 0) ⟨#[83,104,97,112,101,46,95,95,105,110,105,116,95,95]⟩ .none (.ref 628) (.str ⟨#[111,99,116,101,116,109,105,110,116,46,109,111,100,114,109]⟩ 896))),
 (636,(fo (ay 57 1) ⟨#[83,104,97,112,101,46,116,111,108,100]⟩ .none (.ref 635) (.str ⟨#[111,99,116,101,116,109,105,110,116,46,109,111,100,114,109]⟩ 896))),
 (643,(fo (ay 57 2) ⟨#[83,104,97,112,101,46,105,115,95,114,101,103,105,115,116,101,114]⟩ .none (.ref 642) (.str ⟨#[111,99,116,101,116,109,105,110,116,46,109,111,100,114,109]⟩ 896))),
 (650,(fo (ay 57 3) ⟨#[83,104,97,112,101,46,104,97,115,95,115,105,98]⟩ .none (.ref 649) (.str ⟨#[111,99,116,101,116,109,105,110,116,46,109,111,100,114,109]⟩ 896))),
 (657,(fo (ay 57 4) ⟨#[83,104,97,112,101,46,108,101,110,103,116,104]⟩ .none (.ref 656) (.str ⟨#[111,99,116,101,116,109,105,110,116,46,109,111,100,114,109]⟩ 896))),
 (659,⟨(.type "dict"),none,.dict [en P ⟨#[95,95,109,111,100,117,108,101,95,95]⟩ 962 (.str ⟨#[111,99,116,101,116,109,105,110,116,46,109,111,100,114,109]⟩ 896),en P ⟨#[95,95,102,105,114,115,116,108,105,110,101,110,111,95,95]⟩ 966 (.int (320) 965),en P ⟨#[95,95,105,110,105,116,95,95]⟩ 979 (.ref 629),en P ⟨#[116,111,108,100]⟩ 986 (.ref 636),en P ⟨#[105,115,95,114,101,103,105,115,116,101,114]⟩ 993 (.ref 643),en P ⟨#[104,97,115,95,115,105,98]⟩ 1000 (.ref 650),en P ⟨#[108,101,110,103,116,104]⟩ 1007 (.ref 657),en P ⟨#[95,95,115,116,97,116,105,99,95,97,116,116,114,105,98,117,116,101,115,95,95]⟩ 1014 (.ref 658),en P ⟨#[95,95,100,105,99,116,95,95]⟩ 1016 (.ref 661),en P ⟨#[95,95,119,101,97,107,114,101,102,95,95]⟩ 1018 (.ref 662),en P ⟨#[95,95,100,111,99,95,95]⟩ 1019 .none].toArray 4,#[]⟩),
 (660,⟨(.type "type"),none,.cls ⟨⟨#[83,104,97,112,101]⟩,[(.type "object")],[(.ref 660),(.type "object")],659,⟨#[83,104,97,112,101]⟩,true,[],[],false,none,false⟩,[none,none,(some (.str ⟨#[83,104,97,112,101]⟩ 955)),(some (.str ⟨#[83,104,97,112,101]⟩ 963)),(some (.builtin "object.__new__")),(some (.bool true))].toArray⟩),
 (671,(fo (ae 58) ⟨#[114,101,103,105,115,116,101,114,95,115,104,97,112,101]⟩ .none (.ref 670) (.str ⟨#[111,99,116,101,116,109,105,110,116,46,109,111,100,114,109]⟩ 896)))]
noncomputable def me (P:Params):List (Addr×Obj):=vC P ++ mc P
theorem CZ (w:World) (os:OsState):bw w os 14 (mc w.params) (vC w.params) [2,4,3,12,13,0] [3,12] 57 2 386 616 672 955 1029 ⟨315,0,319,49⟩ ⟨341,0,342,75⟩:=by kernel_rfl
noncomputable def vD (P:Params):List DictEntry:=(vA P).append [en P ⟨#[109,111,100,95,111,102]⟩ 1035 (.ref 678),en P ⟨#[119,105,100,116,104,115,95,102,111,114]⟩ 1043 (.ref 685),en P ⟨#[115,105,98,95,102,111,114]⟩ 1051 (.ref 692),en P ⟨#[110,101,101,100,115,95,115,105,98]⟩ 1058 (.ref 699),en P ⟨#[101,120,116,101,110,100,101,100,95,98,105,116]⟩ 1065 (.ref 706),en P ⟨#[98,97,115,101,100,95,115,104,97,112,101,115]⟩ 1076 (.ref 713),en P ⟨#[104,97,115,95,110,101,101,100,108,101,115,115,95,115,105,98]⟩ 1086 (.ref 720),en P ⟨#[109,101,109,111,114,121,95,115,104,97,112,101,115]⟩ 1094 (.ref 727),en P ⟨#[108,97,121]⟩ 1105 (.ref 734),en P ⟨#[70,83]⟩ 1109 (.int (100) 1108),en P ⟨#[71,83]⟩ 1111 (.int (101) 1110),en P ⟨#[68,65,84,65]⟩ 1113 (.int (102) 1112),en P ⟨#[82,69,80,78,69]⟩ 1115 (.int (242) 1114),en P ⟨#[82,69,80]⟩ 1117 (.int (243) 1116),en P ⟨#[76,79,67,75]⟩ 1119 (.int (240) 1118),en P ⟨#[82,69,88]⟩ 1121 (.int (64) 1120),en P ⟨#[114,101,120,95,111,99,116,101,116]⟩ 1132 (.ref 741)]
noncomputable def vE:List Value:=vB.append [(.int (343) 0),(.int (0) 0),(.ref 677),(.int (347) 0),(.int (0) 0),(.ref 684),(.int (357) 0),(.int (0) 0),(.ref 691),(.int (362) 0),(.int (0) 0),(.ref 698),(.int (366) 0),(.int (0) 0),(.ref 705),(.int (368) 0),(.int (0) 0),(.ref 712),(.int (376) 0),(.int (0) 0),(.ref 719),(.int (383) 0),(.int (0) 0),(.ref 726),(.int (391) 0),(.int (0) 0),(.ref 733),(.int (412) 0),(.int (0) 0),(.ref 740)]
noncomputable def vF (P:Params):List (Addr×Obj):=[(3,bC (bB (.str ⟨#[111,99,116,101,116,109,105,110,116,46,112,114,101,102,105,120,101,115]⟩ 1106) (vD P) P) 81),
 (12,bu vE),
 (678,(fo (ae 59) ⟨#[109,111,100,95,111,102]⟩ .none (.ref 677) (.str ⟨#[111,99,116,101,116,109,105,110,116,46,109,111,100,114,109]⟩ 896))),
 (685,(fo (ae 60) ⟨#[119,105,100,116,104,115,95,102,111,114]⟩ .none (.ref 684) (.str ⟨#[111,99,116,101,116,109,105,110,116,46,109,111,100,114,109]⟩ 896))),
 (692,(fo (ae 61) ⟨#[115,105,98,95,102,111,114]⟩ .none (.ref 691) (.str ⟨#[111,99,116,101,116,109,105,110,116,46,109,111,100,114,109]⟩ 896))),
 (699,(fo (ae 62) ⟨#[110,101,101,100,115,95,115,105,98]⟩ .none (.ref 698) (.str ⟨#[111,99,116,101,116,109,105,110,116,46,109,111,100,114,109]⟩ 896))),
 (706,(fo (ae 63) ⟨#[101,120,116,101,110,100,101,100,95,98,105,116]⟩ .none (.ref 705) (.str ⟨#[111,99,116,101,116,109,105,110,116,46,109,111,100,114,109]⟩ 896))),
 (713,(fo (ae 64) ⟨#[98,97,115,101,100,95,115,104,97,112,101,115]⟩ .none (.ref 712) (.str ⟨#[111,99,116,101,116,109,105,110,116,46,109,111,100,114,109]⟩ 896))),
 (720,(fo (ae 65) ⟨#[104,97,115,95,110,101,101,100,108,101,115,115,95,115,105,98]⟩ .none (.ref 719) (.str ⟨#[111,99,116,101,116,109,105,110,116,46,109,111,100,114,109]⟩ 896))),
 (722,⟨.none,none,.fields [].toArray,#[]⟩),
 (726,⟨(.type "code"),none,.fields [(.str ⟨#[109,101,109,111,114,121,95,115,104,97,112,101,115]⟩ 1087),(.str ⟨#[109,101,109,111,114,121,95,115,104,97,112,101,115]⟩ 1088),(.str ⟨#[47,99,108,97,105,109,47,99,117,116,46,112,121]⟩ 1089),(.int (383) 0),(.int (1) 0),(.int (0) 0),(.int (0) 0),(.int (3) 0),(.ref 721),(.bool true),(.int (181) 0),(.ref 722),.none,(.ref 723),(.ref 724),(.ref 725),(.int (1092) 0),(.int (383) 0),(.str ⟨#[47,99,108,97,105,109,47,99,117,116,46,112,121]⟩ 1093)].toArray,#[]⟩),
 (727,(fo (ae 66) ⟨#[109,101,109,111,114,121,95,115,104,97,112,101,115]⟩ .none (.ref 726) (.str ⟨#[111,99,116,101,116,109,105,110,116,46,109,111,100,114,109]⟩ 896))),
 (734,(fo (ae 67) ⟨#[108,97,121]⟩ .none (.ref 733) (.str ⟨#[111,99,116,101,116,109,105,110,116,46,109,111,100,114,109]⟩ 896))),
 (741,(fo (ae 76) ⟨#[114,101,120,95,111,99,116,101,116]⟩ .none (.ref 740) (.str ⟨#[111,99,116,101,116,109,105,110,116,46,112,114,101,102,105,120,101,115]⟩ 1106)))]
noncomputable def mf (P:Params):List (Addr×Obj):=vF P ++ me P
theorem C0 (w:World) (os:OsState):bw w os 15 (me w.params) (vF w.params) [4,3,12,13] [3,12] 59 18 381 672 742 1029 1133 ⟨341,0,342,75⟩ ⟨412,0,416,42⟩:=by kernel_rfl
noncomputable def vG (P:Params):List DictEntry:=(vD P).append [en P ⟨#[114,101,120,95,98,105,116,115]⟩ 1139 (.ref 748),en P ⟨#[105,115,95,114,101,120]⟩ 1146 (.ref 755),en P ⟨#[115,101,103,109,101,110,116,95,111,99,116,101,116]⟩ 1153 (.ref 762)]
noncomputable def vH:List Value:=vE.append [(.int (417) 0),(.int (0) 0),(.ref 747),(.int (421) 0),(.int (0) 0),(.ref 754),(.int (423) 0),(.int (0) 0),(.ref 761)]
noncomputable def vI (P:Params):List (Addr×Obj):=[(3,bC (bB (.str ⟨#[111,99,116,101,116,109,105,110,116,46,112,114,101,102,105,120,101,115]⟩ 1106) (vG P) P) 84),
 (12,bu vH),
 (748,(fo (ae 77) ⟨#[114,101,120,95,98,105,116,115]⟩ .none (.ref 747) (.str ⟨#[111,99,116,101,116,109,105,110,116,46,112,114,101,102,105,120,101,115]⟩ 1106))),
 (755,(fo (ae 78) ⟨#[105,115,95,114,101,120]⟩ .none (.ref 754) (.str ⟨#[111,99,116,101,116,109,105,110,116,46,112,114,101,102,105,120,101,115]⟩ 1106))),
 (762,(fo (ae 79) ⟨#[115,101,103,109,101,110,116,95,111,99,116,101,116]⟩ .none (.ref 761) (.str ⟨#[111,99,116,101,116,109,105,110,116,46,112,114,101,102,105,120,101,115]⟩ 1106)))]
noncomputable def mg (P:Params):List (Addr×Obj):=vI P ++ mf P
theorem C1 (w:World) (os:OsState):bw w os 16 (mf w.params) (vI w.params) [4,3,12,13] [3,12] 77 3 88 742 763 1133 1154 ⟨412,0,416,42⟩ ⟨423,0,428,35⟩:=by kernel_rfl
noncomputable def vJ (P:Params):List DictEntry:=(vG P).append [en P ⟨#[80,114,101,102,105,120,101,115]⟩ 1230 (.ref 815)]
noncomputable def vK:List Value:=vH.append [(.int (429) 0),(.int (0) 0),(.ref 768)]
noncomputable def vL (P:Params):List (Addr×Obj):=[(3,bC (bB (.str ⟨#[111,99,116,101,116,109,105,110,116,46,112,114,101,102,105,120,101,115]⟩ 1106) (vJ P) P) 85),
 (12,bu vK),
 (770,⟨(.type "tuple"),none,.seq [(.str ⟨#[]⟩ 1166),(.bool false),(.int (0) 1167),(.bool false),(.int (-1) 1169)].toArray 0,#[]⟩),
 (777,(fo (ay 80 0) ⟨#[80,114,101,102,105,120,101,115,46,95,95,105,110,105,116,95,95]⟩ (.ref 770) (.ref 776) (.str ⟨#[111,99,116,101,116,109,105,110,116,46,112,114,101,102,105,120,101,115]⟩ 1106))),
 (784,(fo (ay 80 1) ⟨#[80,114,101,102,105,120,101,115,46,116,111,108,100]⟩ .none (.ref 783) (.str ⟨#[111,99,116,101,116,109,105,110,116,46,112,114,101,102,105,120,101,115]⟩ 1106))),
 (791,(fo (ay 80 2) ⟨#[80,114,101,102,105,120,101,115,46,104,97,115,95,114,101,120]⟩ .none (.ref 790) (.str ⟨#[111,99,116,101,116,109,105,110,116,46,112,114,101,102,105,120,101,115]⟩ 1106))),
 (798,(fo (ay 80 3) ⟨#[80,114,101,102,105,120,101,115,46,98,105,116,115]⟩ .none (.ref 797) (.str ⟨#[111,99,116,101,116,109,105,110,116,46,112,114,101,102,105,120,101,115]⟩ 1106))),
 (805,(fo (ay 80 4) ⟨#[80,114,101,102,105,120,101,115,46,99,111,117,110,116]⟩ .none (.ref 804) (.str ⟨#[111,99,116,101,116,109,105,110,116,46,112,114,101,102,105,120,101,115]⟩ 1106))),
 (812,(fo (ay 80 5) ⟨#[80,114,101,102,105,120,101,115,46,111,99,116,101,116,115]⟩ .none (.ref 811) (.str ⟨#[111,99,116,101,116,109,105,110,116,46,112,114,101,102,105,120,101,115]⟩ 1106))),
 (814,⟨(.type "dict"),none,.dict [en P ⟨#[95,95,109,111,100,117,108,101,95,95]⟩ 1161 (.str ⟨#[111,99,116,101,116,109,105,110,116,46,112,114,101,102,105,120,101,115]⟩ 1106),en P ⟨#[95,95,102,105,114,115,116,108,105,110,101,110,111,95,95]⟩ 1165 (.int (429) 1164),en P ⟨#[95,95,105,110,105,116,95,95]⟩ 1181 (.ref 777),en P ⟨#[116,111,108,100]⟩ 1188 (.ref 784),en P ⟨#[104,97,115,95,114,101,120]⟩ 1195 (.ref 791),en P ⟨#[98,105,116,115]⟩ 1202 (.ref 798),en P ⟨#[99,111,117,110,116]⟩ 1209 (.ref 805),en P ⟨#[111,99,116,101,116,115]⟩ 1217 (.ref 812),en P ⟨#[95,95,115,116,97,116,105,99,95,97,116,116,114,105,98,117,116,101,115,95,95]⟩ 1223 (.ref 813),en P ⟨#[95,95,100,105,99,116,95,95]⟩ 1225 (.ref 816),en P ⟨#[95,95,119,101,97,107,114,101,102,95,95]⟩ 1227 (.ref 817),en P ⟨#[95,95,100,111,99,95,95]⟩ 1228 .none].toArray 4,#[]⟩),
 (815,⟨(.type "type"),none,.cls ⟨⟨#[80,114,101,102,105,120,101,115]⟩,[(.type "object")],[(.ref 815),(.type "object")],814,⟨#[80,114,101,102,105,120,101,115]⟩,true,[],[],false,none,false⟩,[none,none,(some (.str ⟨#[80,114,101,102,105,120,101,115]⟩ 1154)),(some (.str ⟨#[80,114,101,102,105,120,101,115]⟩ 1162)),(some (.builtin "object.__new__")),(some (.bool true))].toArray⟩)]
noncomputable def mh (P:Params):List (Addr×Obj):=vL P ++ mg P
theorem C2 (w:World) (os:OsState):bw w os 17 (mg w.params) (vL w.params) [2,4,3,12,13,0] [3,12] 80 1 396 763 820 1154 1231 ⟨423,0,428,35⟩ ⟨429,0,468,27⟩:=by kernel_rfl
noncomputable def vM (P:Params):List DictEntry:=(vJ P).append [en P ⟨#[70,105,120,117,112]⟩ 1284 (.ref 850)]
noncomputable def vN:List Value:=vK.append [(.int (470) 0),(.int (0) 0),(.ref 825)]
noncomputable def vO (P:Params):List (Addr×Obj):=[(3,bC (bB (.str ⟨#[111,99,116,101,116,109,105,110,116,46,101,110,99,111,100,101,114]⟩ 1231) (vM P) P) 86),
 (12,bu vN),
 (833,(fo (ay 82 0) ⟨#[70,105,120,117,112,46,95,95,105,110,105,116,95,95]⟩ .none (.ref 832) (.str ⟨#[111,99,116,101,116,109,105,110,116,46,101,110,99,111,100,101,114]⟩ 1231))),
 (840,(fo (ay 82 1) ⟨#[70,105,120,117,112,46,116,111,108,100]⟩ .none (.ref 839) (.str ⟨#[111,99,116,101,116,109,105,110,116,46,101,110,99,111,100,101,114]⟩ 1231))),
 (847,(fo (ay 82 2) ⟨#[70,105,120,117,112,46,109,111,118,101,100]⟩ .none (.ref 846) (.str ⟨#[111,99,116,101,116,109,105,110,116,46,101,110,99,111,100,101,114]⟩ 1231))),
 (849,⟨(.type "dict"),none,.dict [en P ⟨#[95,95,109,111,100,117,108,101,95,95]⟩ 1240 (.str ⟨#[111,99,116,101,116,109,105,110,116,46,101,110,99,111,100,101,114]⟩ 1231),en P ⟨#[95,95,102,105,114,115,116,108,105,110,101,110,111,95,95]⟩ 1244 (.int (470) 1243),en P ⟨#[95,95,105,110,105,116,95,95]⟩ 1256 (.ref 833),en P ⟨#[116,111,108,100]⟩ 1263 (.ref 840),en P ⟨#[109,111,118,101,100]⟩ 1271 (.ref 847),en P ⟨#[95,95,115,116,97,116,105,99,95,97,116,116,114,105,98,117,116,101,115,95,95]⟩ 1277 (.ref 848),en P ⟨#[95,95,100,105,99,116,95,95]⟩ 1279 (.ref 851),en P ⟨#[95,95,119,101,97,107,114,101,102,95,95]⟩ 1281 (.ref 852),en P ⟨#[95,95,100,111,99,95,95]⟩ 1282 .none].toArray 4,#[]⟩),
 (850,⟨(.type "type"),none,.cls ⟨⟨#[70,105,120,117,112]⟩,[(.type "object")],[(.ref 850),(.type "object")],849,⟨#[70,105,120,117,112]⟩,true,[],[],false,none,false⟩,[none,none,(some (.str ⟨#[70,105,120,117,112]⟩ 1233)),(some (.str ⟨#[70,105,120,117,112]⟩ 1241)),(some (.builtin "object.__new__")),(some (.bool true))].toArray⟩)]
noncomputable def mi (P:Params):List (Addr×Obj):=vO P ++ mh P
theorem C3 (w:World) (os:OsState):bw w os 18 (mh w.params) (vO w.params) [2,4,12,13,0,3] [12,3] 81 2 303 820 855 1231 1285 ⟨429,0,468,27⟩ ⟨470,0,483,16⟩:=by kernel_rfl
noncomputable def vP (P:Params):List DictEntry:=(vM P).append [en P ⟨#[69,110,99,111,100,105,110,103]⟩ 1332 (.ref 883),en P ⟨#[111,112,101,114,97,110,100,95,105,110]⟩ 1343 (.ref 894),en P ⟨#[115,104,97,112,101,115,95,111,102]⟩ 1350 (.ref 901),en P ⟨#[115,104,97,112,101,115,95,102,111,114]⟩ 1358 (.ref 908)]
noncomputable def vQ:List Value:=vN.append [(.int (484) 0),(.int (0) 0),(.ref 860),(.int (497) 0),(.int (0) 0),(.ref 893),(.int (502) 0),(.int (0) 0),(.ref 900),(.int (508) 0),(.int (0) 0),(.ref 907)]
noncomputable def vS (P:Params):List (Addr×Obj):=[(3,bC (bB (.str ⟨#[111,99,116,101,116,109,105,110,116,46,101,110,99,111,100,101,114]⟩ 1231) (vP P) P) 90),
 (12,bu vQ),
 (868,(fo (ay 83 0) ⟨#[69,110,99,111,100,105,110,103,46,95,95,105,110,105,116,95,95]⟩ .none (.ref 867) (.str ⟨#[111,99,116,101,116,109,105,110,116,46,101,110,99,111,100,101,114]⟩ 1231))),
 (875,(fo (ay 83 1) ⟨#[69,110,99,111,100,105,110,103,46,108,101,110,103,116,104]⟩ .none (.ref 874) (.str ⟨#[111,99,116,101,116,109,105,110,116,46,101,110,99,111,100,101,114]⟩ 1231))),
 (880,(fo (ay 83 2) ⟨#[69,110,99,111,100,105,110,103,46,116,111,108,100]⟩ .none (.ref 879) (.str ⟨#[111,99,116,101,116,109,105,110,116,46,101,110,99,111,100,101,114]⟩ 1231))),
 (882,⟨(.type "dict"),none,.dict [en P ⟨#[95,95,109,111,100,117,108,101,95,95]⟩ 1292 (.str ⟨#[111,99,116,101,116,109,105,110,116,46,101,110,99,111,100,101,114]⟩ 1231),en P ⟨#[95,95,102,105,114,115,116,108,105,110,101,110,111,95,95]⟩ 1296 (.int (484) 1295),en P ⟨#[95,95,105,110,105,116,95,95]⟩ 1307 (.ref 868),en P ⟨#[108,101,110,103,116,104]⟩ 1314 (.ref 875),en P ⟨#[116,111,108,100]⟩ 1320 (.ref 880),en P ⟨#[95,95,115,116,97,116,105,99,95,97,116,116,114,105,98,117,116,101,115,95,95]⟩ 1325 (.ref 881),en P ⟨#[95,95,100,105,99,116,95,95]⟩ 1327 (.ref 884),en P ⟨#[95,95,119,101,97,107,114,101,102,95,95]⟩ 1329 (.ref 885),en P ⟨#[95,95,100,111,99,95,95]⟩ 1330 .none].toArray 4,#[]⟩),
 (883,⟨(.type "type"),none,.cls ⟨⟨#[69,110,99,111,100,105,110,103]⟩,[(.type "object")],[(.ref 883),(.type "object")],882,⟨#[69,110,99,111,100,105,110,103]⟩,true,[],[],false,none,false⟩,[none,none,(some (.str ⟨#[69,110,99,111,100,105,110,103]⟩ 1285)),(some (.str ⟨#[69,110,99,111,100,105,110,103]⟩ 1293)),(some (.builtin "object.__new__")),(some (.bool true))].toArray⟩),
 (894,(fo (ae 84) ⟨#[111,112,101,114,97,110,100,95,105,110]⟩ .none (.ref 893) (.str ⟨#[111,99,116,101,116,109,105,110,116,46,101,110,99,111,100,101,114]⟩ 1231))),
 (901,(fo (ae 85) ⟨#[115,104,97,112,101,115,95,111,102]⟩ .none (.ref 900) (.str ⟨#[111,99,116,101,116,109,105,110,116,46,101,110,99,111,100,101,114]⟩ 1231))),
 (908,(fo (ae 86) ⟨#[115,104,97,112,101,115,95,102,111,114]⟩ .none (.ref 907) (.str ⟨#[111,99,116,101,116,109,105,110,116,46,101,110,99,111,100,101,114]⟩ 1231)))]
noncomputable def mj (P:Params):List (Addr×Obj):=vS P ++ mi P
theorem C4 (w:World) (os:OsState):bw w os 19 (mi w.params) (vS w.params) [2,4,3,12,13,0] [3,12] 83 4 380 855 909 1285 1359 ⟨470,0,483,16⟩ ⟨508,0,509,65⟩:=by kernel_rfl
noncomputable def vT (P:Params):List DictEntry:=(vP P).append [en P ⟨#[105,115,95,101,120,116,101,110,100,101,100]⟩ 1365 (.ref 915),en P ⟨#[114,101,120,95,102,111,114]⟩ 1383 (.ref 922),en P ⟨#[114,101,112,101,97,116,95,102,111,114]⟩ 1391 (.ref 929),en P ⟨#[108,111,99,107,115]⟩ 1400 (.ref 936),en P ⟨#[119,97,121,95,111,102]⟩ 1407 (.ref 943),en P ⟨#[109,111,100,114,109,95,112,97,114,116]⟩ 1421 (.ref 950),en P ⟨#[110,101,101,100,95,115,104,97,112,101]⟩ 1427 (.ref 955),en P ⟨#[110,101,101,100,95,110,111,95,110,111,112]⟩ 1435 (.ref 962),en P ⟨#[101,110,99,111,100,101]⟩ 1459 (.ref 970),en P ⟨#[115,105,122,101,115,95,111,102,95,109,101,109,111,114,121]⟩ 1472 (.ref 977),en P ⟨#[102,111,114,109,115,95,102,111,114]⟩ 1478 (.ref 982),en P ⟨#[116,114,105,101,100]⟩ 1488 (.ref 989)]
noncomputable def vU:List Value:=vQ.append [(.int (510) 0),(.int (0) 0),(.ref 914),(.int (512) 0),(.int (0) 0),(.ref 921),(.int (526) 0),(.int (0) 0),(.ref 928),(.int (532) 0),(.int (0) 0),(.ref 935),(.int (539) 0),(.int (0) 0),(.ref 942),(.int (543) 0),(.int (0) 0),(.ref 949),(.int (552) 0),(.int (0) 0),(.ref 954),(.int (555) 0),(.int (0) 0),(.ref 961),(.int (558) 0),(.int (0) 0),(.ref 969),(.int (586) 0),(.int (0) 0),(.ref 976),(.int (595) 0),(.int (0) 0),(.ref 981),(.int (605) 0),(.int (0) 0),(.ref 988)]
noncomputable def vV (P:Params):List (Addr×Obj):=[(3,bC (bB (.str ⟨#[111,99,116,101,116,109,105,110,116,46,101,110,99,111,100,101,114]⟩ 1231) (vT P) P) 102),
 (12,bu vU),
 (915,(fo (ae 87) ⟨#[105,115,95,101,120,116,101,110,100,101,100]⟩ .none (.ref 914) (.str ⟨#[111,99,116,101,116,109,105,110,116,46,101,110,99,111,100,101,114]⟩ 1231))),
 (922,(fo (ae 88) ⟨#[114,101,120,95,102,111,114]⟩ .none (.ref 921) (.str ⟨#[111,99,116,101,116,109,105,110,116,46,101,110,99,111,100,101,114]⟩ 1231))),
 (929,(fo (ae 89) ⟨#[114,101,112,101,97,116,95,102,111,114]⟩ .none (.ref 928) (.str ⟨#[111,99,116,101,116,109,105,110,116,46,101,110,99,111,100,101,114]⟩ 1231))),
 (936,(fo (ae 90) ⟨#[108,111,99,107,115]⟩ .none (.ref 935) (.str ⟨#[111,99,116,101,116,109,105,110,116,46,101,110,99,111,100,101,114]⟩ 1231))),
 (943,(fo (ae 91) ⟨#[119,97,121,95,111,102]⟩ .none (.ref 942) (.str ⟨#[111,99,116,101,116,109,105,110,116,46,101,110,99,111,100,101,114]⟩ 1231))),
 (950,(fo (ae 92) ⟨#[109,111,100,114,109,95,112,97,114,116]⟩ .none (.ref 949) (.str ⟨#[111,99,116,101,116,109,105,110,116,46,101,110,99,111,100,101,114]⟩ 1231))),
 (955,(fo (ae 93) ⟨#[110,101,101,100,95,115,104,97,112,101]⟩ .none (.ref 954) (.str ⟨#[111,99,116,101,116,109,105,110,116,46,101,110,99,111,100,101,114]⟩ 1231))),
 (962,(fo (ae 94) ⟨#[110,101,101,100,95,110,111,95,110,111,112]⟩ .none (.ref 961) (.str ⟨#[111,99,116,101,116,109,105,110,116,46,101,110,99,111,100,101,114]⟩ 1231))),
 (963,⟨(.type "tuple"),none,.seq [.none].toArray 0,#[]⟩),
 (970,(fo (ae 95) ⟨#[101,110,99,111,100,101]⟩ (.ref 963) (.ref 969) (.str ⟨#[111,99,116,101,116,109,105,110,116,46,101,110,99,111,100,101,114]⟩ 1231))),
 (977,(fo (ae 96) ⟨#[115,105,122,101,115,95,111,102,95,109,101,109,111,114,121]⟩ .none (.ref 976) (.str ⟨#[111,99,116,101,116,109,105,110,116,46,101,110,99,111,100,101,114]⟩ 1231))),
 (982,(fo (ae 97) ⟨#[102,111,114,109,115,95,102,111,114]⟩ .none (.ref 981) (.str ⟨#[111,99,116,101,116,109,105,110,116,46,101,110,99,111,100,101,114]⟩ 1231))),
 (989,(fo (ae 98) ⟨#[116,114,105,101,100]⟩ .none (.ref 988) (.str ⟨#[111,99,116,101,116,109,105,110,116,46,101,110,99,111,100,101,114]⟩ 1231)))]
noncomputable def ml (P:Params):List (Addr×Obj):=vV P ++ mj P
theorem C5 (w:World) (os:OsState):bw w os 20 (mj w.params) (vV w.params) [4,3,12,13] [3,12] 87 12 392 909 990 1359 1489 ⟨508,0,509,65⟩ ⟨605,0,609,25⟩:=by kernel_rfl
noncomputable def vW (P:Params):List DictEntry:=(vT P).append [en P ⟨#[110,101,101,100,95,111,110,101]⟩ 1496 (.ref 996),en P ⟨#[101,110,99,111,100,105,110,103,115]⟩ 1502 (.ref 1001),en P ⟨#[102,105,108,108,101,100]⟩ 1516 (.ref 1009),en P ⟨#[102,105,101,108,100,95,119,111,114,116,104]⟩ 1528 (.ref 1016),en P ⟨#[106,117,109,112,95,102,111,114,109,115]⟩ 1539 (.ref 1023),en P ⟨#[99,97,108,108,95,102,111,114,109,115]⟩ 1545 (.ref 1030),en P ⟨#[108,111,111,112,95,102,111,114,109,115]⟩ 1551 (.ref 1037),en P ⟨#[99,111,100,101,115,95,111,102]⟩ 1559 (.ref 1042)]
noncomputable def vX:List Value:=vU.append [(.int (610) 0),(.int (0) 0),(.ref 995),(.int (613) 0),(.int (0) 0),(.ref 1000),(.int (624) 0),(.int (0) 0),(.ref 1008),(.int (630) 0),(.int (0) 0),(.ref 1015),(.int (639) 0),(.int (0) 0),(.ref 1022),(.int (646) 0),(.int (0) 0),(.ref 1029),(.int (648) 0),(.int (0) 0),(.ref 1036),(.int (651) 0),(.int (0) 0),(.ref 1041)]
noncomputable def vY (P:Params):List (Addr×Obj):=[(3,bC (bB (.str ⟨#[111,99,116,101,116,109,105,110,116,46,105,115,101,116]⟩ 1552) (vW P) P) 110),
 (12,bu vX),
 (996,(fo (ae 99) ⟨#[110,101,101,100,95,111,110,101]⟩ .none (.ref 995) (.str ⟨#[111,99,116,101,116,109,105,110,116,46,101,110,99,111,100,101,114]⟩ 1231))),
 (998,⟨.none,none,.fields [].toArray,#[]⟩),
 (1000,⟨(.type "code"),none,.fields [(.str ⟨#[101,110,99,111,100,105,110,103,115]⟩ 1497),(.str ⟨#[101,110,99,111,100,105,110,103,115]⟩ 1498),(.str ⟨#[47,99,108,97,105,109,47,99,117,116,46,112,121]⟩ 1499),(.int (613) 0),(.int (2) 0),(.int (0) 0),(.int (0) 0),(.int (3) 0),(.ref 997),(.bool true),(.int (181) 0),(.ref 998),.none,.none,.none,(.ref 999),(.int (1500) 0),(.int (613) 0),(.str ⟨#[47,99,108,97,105,109,47,99,117,116,46,112,121]⟩ 1501)].toArray,#[]⟩),
 (1001,(fo (ae 100) ⟨#[101,110,99,111,100,105,110,103,115]⟩ .none (.ref 1000) (.str ⟨#[111,99,116,101,116,109,105,110,116,46,101,110,99,111,100,101,114]⟩ 1231))),
 (1002,⟨(.type "tuple"),none,.seq [(.int (0) 1503)].toArray 0,#[]⟩),
 (1009,(fo (ae 101) ⟨#[102,105,108,108,101,100]⟩ (.ref 1002) (.ref 1008) (.str ⟨#[111,99,116,101,116,109,105,110,116,46,101,110,99,111,100,101,114]⟩ 1231))),
 (1016,(fo (ae 102) ⟨#[102,105,101,108,100,95,119,111,114,116,104]⟩ .none (.ref 1015) (.str ⟨#[111,99,116,101,116,109,105,110,116,46,101,110,99,111,100,101,114]⟩ 1231))),
 (1023,(fo (ae 104) ⟨#[106,117,109,112,95,102,111,114,109,115]⟩ .none (.ref 1022) (.str ⟨#[111,99,116,101,116,109,105,110,116,46,102,108,111,119]⟩ 1529))),
 (1030,(fo (ae 105) ⟨#[99,97,108,108,95,102,111,114,109,115]⟩ .none (.ref 1029) (.str ⟨#[111,99,116,101,116,109,105,110,116,46,102,108,111,119]⟩ 1529))),
 (1037,(fo (ae 106) ⟨#[108,111,111,112,95,102,111,114,109,115]⟩ .none (.ref 1036) (.str ⟨#[111,99,116,101,116,109,105,110,116,46,102,108,111,119]⟩ 1529))),
 (1042,(fo (ae 108) ⟨#[99,111,100,101,115,95,111,102]⟩ .none (.ref 1041) (.str ⟨#[111,99,116,101,116,109,105,110,116,46,105,115,101,116]⟩ 1552)))]
noncomputable def mn (P:Params):List (Addr×Obj):=vY P ++ ml P
theorem C6 (w:World) (os:OsState):bw w os 21 (ml w.params) (vY w.params) [4,3,12,13] [3,12] 99 10 259 990 1043 1489 1560 ⟨605,0,609,25⟩ ⟨651,0,654,82⟩:=by kernel_rfl
noncomputable def vZ (P:Params):List DictEntry:=(vW P).append [en P ⟨#[73,110,115,116,114,117,99,116,105,111,110,83,101,116]⟩ 1655 (.ref 1113)]
noncomputable def v7:List Value:=vX.append [(.int (655) 0),(.int (0) 0),(.ref 1048)]
noncomputable def v8 (P:Params):List (Addr×Obj):=[(3,bC (bB (.str ⟨#[111,99,116,101,116,109,105,110,116,46,105,115,101,116]⟩ 1552) (vZ P) P) 111),
 (12,bu v7),
 (1056,(fo (ay 109 0) ⟨#[73,110,115,116,114,117,99,116,105,111,110,83,101,116,46,95,95,105,110,105,116,95,95]⟩ .none (.ref 1055) (.str ⟨#[111,99,116,101,116,109,105,110,116,46,105,115,101,116]⟩ 1552))),
 (1061,(fo (ay 109 1) ⟨#[73,110,115,116,114,117,99,116,105,111,110,83,101,116,46,116,111,108,100]⟩ .none (.ref 1060) (.str ⟨#[111,99,116,101,116,109,105,110,116,46,105,115,101,116]⟩ 1552))),
 (1068,(fo (ay 109 2) ⟨#[73,110,115,116,114,117,99,116,105,111,110,83,101,116,46,102,105,110,100]⟩ .none (.ref 1067) (.str ⟨#[111,99,116,101,116,109,105,110,116,46,105,115,101,116]⟩ 1552))),
 (1075,(fo (ay 109 3) ⟨#[73,110,115,116,114,117,99,116,105,111,110,83,101,116,46,104,97,115]⟩ .none (.ref 1074) (.str ⟨#[111,99,116,101,116,109,105,110,116,46,105,115,101,116]⟩ 1552))),
 (1082,(fo (ay 109 4) ⟨#[73,110,115,116,114,117,99,116,105,111,110,83,101,116,46,97,116]⟩ .none (.ref 1081) (.str ⟨#[111,99,116,101,116,109,105,110,116,46,105,115,101,116]⟩ 1552))),
 (1089,(fo (ay 109 5) ⟨#[73,110,115,116,114,117,99,116,105,111,110,83,101,116,46,110,97,109,101,115]⟩ .none (.ref 1088) (.str ⟨#[111,99,116,101,116,109,105,110,116,46,105,115,101,116]⟩ 1552))),
 (1096,(fo (ay 109 6) ⟨#[73,110,115,116,114,117,99,116,105,111,110,83,101,116,46,99,111,100,101,115]⟩ .none (.ref 1095) (.str ⟨#[111,99,116,101,116,109,105,110,116,46,105,115,101,116]⟩ 1552))),
 (1103,(fo (ay 109 7) ⟨#[73,110,115,116,114,117,99,116,105,111,110,83,101,116,46,99,111,117,110,116,115]⟩ .none (.ref 1102) (.str ⟨#[111,99,116,101,116,109,105,110,116,46,105,115,101,116]⟩ 1552))),
 (1110,(fo (ay 109 8) ⟨#[73,110,115,116,114,117,99,116,105,111,110,83,101,116,46,109,101,109,111,114,121,95,115,105,122,101,115]⟩ .none (.ref 1109) (.str ⟨#[111,99,116,101,116,109,105,110,116,46,105,115,101,116]⟩ 1552))),
 (1112,⟨(.type "dict"),none,.dict [en P ⟨#[95,95,109,111,100,117,108,101,95,95]⟩ 1567 (.str ⟨#[111,99,116,101,116,109,105,110,116,46,105,115,101,116]⟩ 1552),en P ⟨#[95,95,102,105,114,115,116,108,105,110,101,110,111,95,95]⟩ 1571 (.int (655) 1570),en P ⟨#[95,95,105,110,105,116,95,95]⟩ 1582 (.ref 1056),en P ⟨#[116,111,108,100]⟩ 1588 (.ref 1061),en P ⟨#[102,105,110,100]⟩ 1596 (.ref 1068),en P ⟨#[104,97,115]⟩ 1604 (.ref 1075),en P ⟨#[97,116]⟩ 1614 (.ref 1082),en P ⟨#[110,97,109,101,115]⟩ 1621 (.ref 1089),en P ⟨#[99,111,100,101,115]⟩ 1628 (.ref 1096),en P ⟨#[99,111,117,110,116,115]⟩ 1636 (.ref 1103),en P ⟨#[109,101,109,111,114,121,95,115,105,122,101,115]⟩ 1644 (.ref 1110),en P ⟨#[95,95,115,116,97,116,105,99,95,97,116,116,114,105,98,117,116,101,115,95,95]⟩ 1648 (.ref 1111),en P ⟨#[95,95,100,105,99,116,95,95]⟩ 1650 (.ref 1114),en P ⟨#[95,95,119,101,97,107,114,101,102,95,95]⟩ 1652 (.ref 1115),en P ⟨#[95,95,100,111,99,95,95]⟩ 1653 .none].toArray 4,#[]⟩),
 (1113,⟨(.type "type"),none,.cls ⟨⟨#[73,110,115,116,114,117,99,116,105,111,110,83,101,116]⟩,[(.type "object")],[(.ref 1113),(.type "object")],1112,⟨#[73,110,115,116,114,117,99,116,105,111,110,83,101,116]⟩,true,[],[],false,none,false⟩,[none,none,(some (.str ⟨#[73,110,115,116,114,117,99,116,105,111,110,83,101,116]⟩ 1560)),(some (.str ⟨#[73,110,115,116,114,117,99,116,105,111,110,83,101,116]⟩ 1568)),(some (.builtin "object.__new__")),(some (.bool true))].toArray⟩)]
noncomputable def mq (P:Params):List (Addr×Obj):=v8 P ++ mn P
theorem C7 (w:World) (os:OsState):bw w os 22 (mn w.params) (v8 w.params) [2,4,3,12,13,0] [3,12] 109 1 480 1043 1118 1560 1656 ⟨651,0,654,82⟩ ⟨655,0,694,17⟩:=by kernel_rfl
noncomputable def v9 (P:Params):List DictEntry:=(vZ P).append [en P ⟨#[115,105,122,101,100,95,102,111,114,109,115]⟩ 1675 (.ref 1125),en P ⟨#[98,111,116,104,95,119,97,121,115]⟩ 1684 (.ref 1132),en P ⟨#[109,111,118,95,102,111,114,109,115]⟩ 1691 (.ref 1139),en P ⟨#[78,65,77,69,83,95,56]⟩ 1695 (.str ⟨#[97,108,32,99,108,32,100,108,32,98,108,32,115,112,108,32,98,112,108,32,115,105,108,32,100,105,108]⟩ 1694),en P ⟨#[78,65,77,69,83,95,49,54]⟩ 1697 (.str ⟨#[97,120,32,99,120,32,100,120,32,98,120,32,115,112,32,98,112,32,115,105,32,100,105]⟩ 1696),en P ⟨#[78,65,77,69,83,95,51,50]⟩ 1699 (.str ⟨#[101,97,120,32,101,99,120,32,101,100,120,32,101,98,120,32,101,115,112,32,101,98,112,32,101,115,105,32,101,100,105]⟩ 1698),en P ⟨#[78,65,77,69,83,95,54,52]⟩ 1701 (.str ⟨#[114,97,120,32,114,99,120,32,114,100,120,32,114,98,120,32,114,115,112,32,114,98,112,32,114,115,105,32,114,100,105]⟩ 1700)]
noncomputable def wa:List Value:=v7.append [(.int (696) 0),(.int (0) 0),(.ref 1124),(.int (704) 0),(.int (0) 0),(.ref 1131),(.int (710) 0),(.int (0) 0),(.ref 1138)]
noncomputable def wb (P:Params):List (Addr×Obj):=[(3,bC (bB (.str ⟨#[111,99,116,101,116,109,105,110,116,46,114,101,103,105,115,116,101,114,115]⟩ 1692) (v9 P) P) 118),
 (12,bu wa),
 (1118,⟨(.type "tuple"),none,.seq [(.int (-1) 1659),(.int (0) 1660)].toArray 0,#[]⟩),
 (1125,(fo (ae 111) ⟨#[115,105,122,101,100,95,102,111,114,109,115]⟩ (.ref 1118) (.ref 1124) (.str ⟨#[111,99,116,101,116,109,105,110,116,46,109,111,118,101,115]⟩ 1656))),
 (1132,(fo (ae 112) ⟨#[98,111,116,104,95,119,97,121,115]⟩ .none (.ref 1131) (.str ⟨#[111,99,116,101,116,109,105,110,116,46,109,111,118,101,115]⟩ 1656))),
 (1139,(fo (ae 113) ⟨#[109,111,118,95,102,111,114,109,115]⟩ .none (.ref 1138) (.str ⟨#[111,99,116,101,116,109,105,110,116,46,109,111,118,101,115]⟩ 1656)))]
noncomputable def mr (P:Params):List (Addr×Obj):=wb P ++ mq P
theorem C8 (w:World) (os:OsState):bw w os 23 (mq w.params) (wb w.params) [4,12,13,3] [12,3] 110 9 160 1118 1140 1656 1702 ⟨655,0,694,17⟩ ⟨725,0,725,8⟩:=by kernel_rfl
noncomputable def wd (P:Params):List DictEntry:=(v9 P).append [en P ⟨#[82,101,103,105,115,116,101,114]⟩ 1771 (.ref 1191)]
noncomputable def we:List Value:=wa.append [(.int (726) 0),(.int (0) 0),(.ref 1145)]
noncomputable def wg (P:Params):List (Addr×Obj):=[(3,bC (bB (.str ⟨#[111,99,116,101,116,109,105,110,116,46,114,101,103,105,115,116,101,114,115]⟩ 1692) (wd P) P) 119),
 (12,bu we),
 (1153,(fo (ay 119 0) ⟨#[82,101,103,105,115,116,101,114,46,95,95,105,110,105,116,95,95]⟩ .none (.ref 1152) (.str ⟨#[111,99,116,101,116,109,105,110,116,46,114,101,103,105,115,116,101,114,115]⟩ 1692))),
 (1160,(fo (ay 119 1) ⟨#[82,101,103,105,115,116,101,114,46,99,111,100,101]⟩ .none (.ref 1159) (.str ⟨#[111,99,116,101,116,109,105,110,116,46,114,101,103,105,115,116,101,114,115]⟩ 1692))),
 (1167,(fo (ay 119 2) ⟨#[82,101,103,105,115,116,101,114,46,105,115,95,101,120,116,101,110,100,101,100]⟩ .none (.ref 1166) (.str ⟨#[111,99,116,101,116,109,105,110,116,46,114,101,103,105,115,116,101,114,115]⟩ 1692))),
 (1174,(fo (ay 119 3) ⟨#[82,101,103,105,115,116,101,114,46,105,115,95,104,105,103,104]⟩ .none (.ref 1173) (.str ⟨#[111,99,116,101,116,109,105,110,116,46,114,101,103,105,115,116,101,114,115]⟩ 1692))),
 (1181,(fo (ay 119 4) ⟨#[82,101,103,105,115,116,101,114,46,110,101,101,100,115,95,114,101,120]⟩ .none (.ref 1180) (.str ⟨#[111,99,116,101,116,109,105,110,116,46,114,101,103,105,115,116,101,114,115]⟩ 1692))),
 (1188,(fo (ay 119 5) ⟨#[82,101,103,105,115,116,101,114,46,116,111,108,100]⟩ .none (.ref 1187) (.str ⟨#[111,99,116,101,116,109,105,110,116,46,114,101,103,105,115,116,101,114,115]⟩ 1692))),
 (1190,⟨(.type "dict"),none,.dict [en P ⟨#[95,95,109,111,100,117,108,101,95,95]⟩ 1709 (.str ⟨#[111,99,116,101,116,109,105,110,116,46,114,101,103,105,115,116,101,114,115]⟩ 1692),en P ⟨#[95,95,102,105,114,115,116,108,105,110,101,110,111,95,95]⟩ 1713 (.int (726) 1712),en P ⟨#[95,95,105,110,105,116,95,95]⟩ 1724 (.ref 1153),en P ⟨#[99,111,100,101]⟩ 1731 (.ref 1160),en P ⟨#[105,115,95,101,120,116,101,110,100,101,100]⟩ 1738 (.ref 1167),en P ⟨#[105,115,95,104,105,103,104]⟩ 1745 (.ref 1174),en P ⟨#[110,101,101,100,115,95,114,101,120]⟩ 1752 (.ref 1181),en P ⟨#[116,111,108,100]⟩ 1759 (.ref 1188),en P ⟨#[95,95,115,116,97,116,105,99,95,97,116,116,114,105,98,117,116,101,115,95,95]⟩ 1764 (.ref 1189),en P ⟨#[95,95,100,105,99,116,95,95]⟩ 1766 (.ref 1192),en P ⟨#[95,95,119,101,97,107,114,101,102,95,95]⟩ 1768 (.ref 1193),en P ⟨#[95,95,100,111,99,95,95]⟩ 1769 .none].toArray 4,#[]⟩),
 (1191,⟨(.type "type"),none,.cls ⟨⟨#[82,101,103,105,115,116,101,114]⟩,[(.type "object")],[(.ref 1191),(.type "object")],1190,⟨#[82,101,103,105,115,116,101,114]⟩,true,[],[],false,none,false⟩,[none,none,(some (.str ⟨#[82,101,103,105,115,116,101,114]⟩ 1702)),(some (.str ⟨#[82,101,103,105,115,116,101,114]⟩ 1710)),(some (.builtin "object.__new__")),(some (.bool true))].toArray⟩)]
noncomputable def mu (P:Params):List (Addr×Obj):=wg P ++ mr P
theorem C9 (w:World) (os:OsState):bw w os 24 (mr w.params) (wg w.params) [2,4,3,12,13,0] [3,12] 119 1 384 1140 1196 1702 1772 ⟨725,0,725,8⟩ ⟨726,0,749,24⟩:=by kernel_rfl
noncomputable def wh (P:Params):List DictEntry:=(wd P).append [en P ⟨#[101,97,114,108,121,95,110,97,109,101,115]⟩ 1778 (.ref 1202),en P ⟨#[108,97,116,101,95,101,110,100,105,110,103]⟩ 1785 (.ref 1209),en P ⟨#[103,112,114]⟩ 1794 (.ref 1216),en P ⟨#[114,105,112]⟩ 1800 (.ref 1223),en P ⟨#[95,108,97,119,95,109,101,109,111,114,121]⟩ 1816 (.ref 1230),en P ⟨#[95,108,97,119,95,106,117,109,112]⟩ 1826 (.ref 1237),en P ⟨#[95,108,97,119,95,108,105,110,101]⟩ 1844 (.ref 1244),en P ⟨#[95,108,97,119,95,119,105,115,104]⟩ 1855 (.ref 1251),en P ⟨#[95,108,97,119,95,98,101,97,114,115]⟩ 1865 (.ref 1258),en P ⟨#[95,108,97,119,95,114,101,97,100]⟩ 1871 (.ref 1263),en P ⟨#[95,108,97,119,95,102,105,101,108,100,115,95,114,105,103,104,116]⟩ 1877 (.ref 1268),en P ⟨#[95,108,97,119,95,112,117,116]⟩ 1885 (.ref 1275)]
noncomputable def wi:List Value:=we.append [(.int (750) 0),(.int (0) 0),(.ref 1201),(.int (760) 0),(.int (0) 0),(.ref 1208),(.int (768) 0),(.int (0) 0),(.ref 1215),(.int (775) 0),(.int (0) 0),(.ref 1222),(.int (778) 0),(.int (0) 0),(.ref 1229),(.int (793) 0),(.int (0) 0),(.ref 1236),(.int (800) 0),(.int (0) 0),(.ref 1243),(.int (818) 0),(.int (0) 0),(.ref 1250),(.int (822) 0),(.int (0) 0),(.ref 1257),(.int (825) 0),(.int (0) 0),(.ref 1262),(.int (828) 0),(.int (0) 0),(.ref 1267),(.int (843) 0),(.int (0) 0),(.ref 1274)]
noncomputable def wj (P:Params):List (Addr×Obj):=[(3,bC (bB (.str ⟨#[108,97,119,95,110,110,48,48,56,54,95,48,49]⟩ 1801) (wh P) P) 131),
 (12,bu wi),
 (1202,(fo (ae 120) ⟨#[101,97,114,108,121,95,110,97,109,101,115]⟩ .none (.ref 1201) (.str ⟨#[111,99,116,101,116,109,105,110,116,46,114,101,103,105,115,116,101,114,115]⟩ 1692))),
 (1209,(fo (ae 121) ⟨#[108,97,116,101,95,101,110,100,105,110,103]⟩ .none (.ref 1208) (.str ⟨#[111,99,116,101,116,109,105,110,116,46,114,101,103,105,115,116,101,114,115]⟩ 1692))),
 (1216,(fo (ae 122) ⟨#[103,112,114]⟩ .none (.ref 1215) (.str ⟨#[111,99,116,101,116,109,105,110,116,46,114,101,103,105,115,116,101,114,115]⟩ 1692))),
 (1223,(fo (ae 123) ⟨#[114,105,112]⟩ .none (.ref 1222) (.str ⟨#[111,99,116,101,116,109,105,110,116,46,114,101,103,105,115,116,101,114,115]⟩ 1692))),
 (1230,(fo (ae 125) ⟨#[95,108,97,119,95,109,101,109,111,114,121]⟩ .none (.ref 1229) (.str ⟨#[108,97,119,95,110,110,48,48,56,54,95,48,49]⟩ 1801))),
 (1237,(fo (ae 126) ⟨#[95,108,97,119,95,106,117,109,112]⟩ .none (.ref 1236) (.str ⟨#[108,97,119,95,110,110,48,48,56,54,95,48,49]⟩ 1801))),
 (1244,(fo (ae 127) ⟨#[95,108,97,119,95,108,105,110,101]⟩ .none (.ref 1243) (.str ⟨#[108,97,119,95,110,110,48,48,56,54,95,48,49]⟩ 1801))),
 (1251,(fo (ae 128) ⟨#[95,108,97,119,95,119,105,115,104]⟩ .none (.ref 1250) (.str ⟨#[108,97,119,95,110,110,48,48,56,54,95,48,49]⟩ 1801))),
 (1258,(fo (ae 129) ⟨#[95,108,97,119,95,98,101,97,114,115]⟩ .none (.ref 1257) (.str ⟨#[108,97,119,95,110,110,48,48,56,54,95,48,49]⟩ 1801))),
 (1263,(fo (ae 130) ⟨#[95,108,97,119,95,114,101,97,100]⟩ .none (.ref 1262) (.str ⟨#[108,97,119,95,110,110,48,48,56,54,95,48,49]⟩ 1801))),
 (1268,(fo (ae 131) ⟨#[95,108,97,119,95,102,105,101,108,100,115,95,114,105,103,104,116]⟩ .none (.ref 1267) (.str ⟨#[108,97,119,95,110,110,48,48,56,54,95,48,49]⟩ 1801))),
 (1275,(fo (ae 132) ⟨#[95,108,97,119,95,112,117,116]⟩ .none (.ref 1274) (.str ⟨#[108,97,119,95,110,110,48,48,56,54,95,48,49]⟩ 1801)))]
noncomputable def mw (P:Params):List (Addr×Obj):=wj P ++ mu P
theorem Dc (w:World) (os:OsState):bw w os 25 (mu w.params) (wj w.params) [4,3,12,13] [3,12] 120 13 382 1196 1276 1772 1886 ⟨726,0,749,24⟩ ⟨843,0,846,62⟩:=by kernel_rfl
noncomputable def Dd (P:Params):List DictEntry:=(wh P).append [en P ⟨#[95,108,97,119,95,112,108,97,105,110,95,108,105,110,101]⟩ 1899 (.ref 1282),en P ⟨#[95,108,97,119,95,102,105,108,108,101,100,95,114,105,103,104,116]⟩ 1922 (.ref 1289),en P ⟨#[108,97,119]⟩ 1928 (.ref 1294)]
noncomputable def De:List Value:=wi.append [(.int (847) 0),(.int (0) 0),(.ref 1281),(.int (855) 0),(.int (0) 0),(.ref 1288),(.int (878) 0),(.int (0) 0),(.ref 1293)]
noncomputable def wk (P:Params):List (Addr×Obj):=[(3,bC (bB (.str ⟨#[108,97,119,95,110,110,48,48,56,54,95,48,49]⟩ 1801) (Dd P) P) 134),
 (12,bu De),
 (1282,(fo (ae 133) ⟨#[95,108,97,119,95,112,108,97,105,110,95,108,105,110,101]⟩ .none (.ref 1281) (.str ⟨#[108,97,119,95,110,110,48,48,56,54,95,48,49]⟩ 1801))),
 (1289,(fo (ae 134) ⟨#[95,108,97,119,95,102,105,108,108,101,100,95,114,105,103,104,116]⟩ .none (.ref 1288) (.str ⟨#[108,97,119,95,110,110,48,48,56,54,95,48,49]⟩ 1801))),
 (1294,(fo (ae 135) ⟨#[108,97,119]⟩ .none (.ref 1293) (.str ⟨#[108,97,119,95,110,110,48,48,56,54,95,48,49]⟩ 1801)))]
noncomputable def bq (P:Params):List (Addr×Obj):=wk P ++ mw P
theorem Df (w:World) (os:OsState):bw w os 26 (mw w.params) (wk w.params) [4,3,12,13] [3,12] 133 3 108 1276 1295 1886 1929 ⟨843,0,846,62⟩ ⟨878,0,894,15⟩:=by kernel_rfl
end Mine
end
section
set_option backward.match.sparseCases false
open PySem PySem.W PyProof.Rows PySem.Calls
set_option maxRecDepth 100000
namespace Mine
theorem wm (w:World):lQ w = step (denote treeTable) pw w:=by
 unfold lQ
 rw [← Fast.te8437177126325714943,← Fast.te11892475500146522536,← Fast.te14364793385576792824]
theorem wo:lR = stepOk 11 (some (.ref 6)):=by
 unfold lR
 rw [← Fast.te6613529449190102663]
set_option tactic.hygienic true in
theorem p8 {F:List (Addr×Obj)}:∀ {l:List Addr} {a:Addr} {o:Obj},aO (sel F l) a = some o→aO F a = some o
 | [],_,_,e=>by cases e
 | b::r,a,o,e=>by
  unfold sel at e
  split at e
  ·rename_i o' ho
   rw [iI] at e
   by_cases q:b = a
   ·subst q; rw [if_pos rfl] at e; rw [ho]; exact e
   ·rw [if_neg q] at e; exact p8 e
  ·exact p8 e
theorem wq:∀ {X F:List (Addr×Obj)} {a:Addr},aO (X ++ F) a = match aO X a with | some o=>some o | none=>aO F a
 | [],F,a=>rfl
 | p::X,F,a=>by
  obtain ⟨b,o⟩:=p
  show aO ((b,o)::(X ++ F)) a = _
  rw [iI,iI]
  by_cases q:b = a
  ·simp [q]
  ·simp only [q,if_false]; exact wq
theorem my {X:List (Addr×Obj)} {a:Addr} {o:Obj} (e:aO X a = some o):(a,o)∈X:=by
 induction X with
 | nil=>cases e
 | cons p X ih=>
  obtain ⟨b,o'⟩:=p
  rw [iI] at e
  by_cases q:b = a
  ·subst q; rw [if_pos rfl] at e; cases e; exact .head _
  ·rw [if_neg q] at e; exact .tail _ (ih e)
noncomputable def Fact (F:List (Addr×Obj)) (h:Heap):Prop:=∀ a o,aO F a = some o→h.get? a = some o
noncomputable def Named (X:List (Addr×Obj)) (h:Heap):Prop:=∀ c∈X.filterMap aZ,p7 (h.get? c.1) = some c.2
noncomputable abbrev cF (h:Heap) (t:Nat) (os:OsState):Shared:=⟨h,#[],boot_drawn,t,os⟩
theorem Dg {w:World} {os:OsState} {h:Heap} {g:Nat} {F X:List (Addr×Obj)} {olds ua:List Addr} {st m N n n' t t':Nat} {q q':Pos} (e:bw w os g F X olds ua st m N n n' t t' q q') (hF:Fact F h) (hn:h.objs.size = n):
  ∃ h',segRun treeTable pw w 11 (some (.ref 6)) 1 N (cF h t os) (piecesOf (lP st m) jN cT q [topFrame q0]) = some (.next,cF h' t' os,cT,q')∧h'.objs.size = n'∧h'.life = h.life∧
   Fact (X ++ F) h'∧Named X h'∧(∀ b o,b∉ua→h.get? b = some o→h'.get? b = some o):=by
 refine af fun nG=>?_
 obtain ⟨⟨f,P,c,qq⟩,hr,hl⟩:=Option.map_eq_some_iff.mp e
 unfold look at hl
 dsimp only at hl
 simp only [Prod.mk.injEq] at hl
 obtain ⟨rfl,h1,h2,h3,h4,rfl,rfl,h5,h6,h7⟩:=hl
 rw [wm,wo] at hr
 have R:Rep ⟨sel F olds,n,#[],boot_drawn,t,[]⟩ h:=⟨fun a o e=>hF a o (p8 e),hn⟩
 obtain ⟨h',z1,z2,z3,-,z5⟩:=uF R hr
 have hP:P.sh h' os = cF h' t' os:=by unfold PS.sh; rw [h2,h3,h4]
 rw [hP] at z1
 obtain ⟨u1,u2⟩:=Bool.and_eq_true_iff.mp h5
 refine nG ?_
 have keep:∀ b o,b∉ua→h.get? b = some o→h'.get? b = some o:=fun b o hb he=>z5 b o (fun hm=>by
  have:=List.all_eq_true.mp u1 b hm
  rcases Bool.or_eq_true_iff.mp this with y | y
  ·exact absurd (Heap.lt_size he) (Nat.not_lt.mpr (hn▸Nat.le_of_ble_eq_true y))
  ·exact hb (List.contains_iff_mem.mp y)) he
 have inX:∀ a o,(a,o)∈X→h'.get? a = some o:=fun a o hm=>by
  have h6':X.map (fun p=>aO P.kn p.1) = X.map (fun p=>some p.2):=h6
  have:=List.map_inj_left.mp h6' (a,o) hm
  exact z2.kn a o this
 refine ⟨h',z1,z2.n.trans h1,z3,fun a o e=>?_,fun c hc=>?_,keep⟩
 ·rw [wq] at e
  cases q:aO X a with
  | some o'=>rw [q] at e; cases e; exact inX a o (my q)
  | none=>
   rw [q] at e
   refine keep a o (fun hm=>?_) (hF a o e)
   have:=List.all_eq_true.mp u2 a hm
   rw [q] at this; cases this
 ·have h7':(X.filterMap aZ).map (fun c=>p7 (aO P.kn c.1)) = (X.filterMap aZ).map fun c=>some c.2:=h7
  have:=List.map_inj_left.mp h7' c hc
  cases q:aO P.kn c.1 with
  | none=>rw [q] at this; cases this
  | some o=>rw [q] at this; rw [z2.kn _ _ q]; exact this
noncomputable def mz (st:Shared→Thread→Step) (ok:Thread→Bool) (os:OsState):Nat→PS→Thread→Option (PS×Thread)
 | 0,P,t=>some (P,t)
 | n + 1,P,t=>match through t with
  | true=>none
  | false=>match ok t with
   | false=>none
   | true=>match eO st os P t with
    | some (P',t')=>mz st ok os n P' t'
    | none=>none
theorem wt {tb:String→Option Builtin} {p:Program} {w:World} {n₀:Nat} {ann:Option Value} {os:OsState}:∀ {n:Nat} {P P':PS} {t t':Thread} {h:Heap},Rep P h→
  mz (step (denote tb) p w) (stepOk n₀ ann) os n P t = some (P',t')→∃ h',topGo tb p w n₀ ann n (P.sh h os) t = some (P'.sh h' os,t')∧eP P P' h h'
 | 0,_,_,_,_,h,R,e=>by cases e; exact ⟨h,rfl,.refl R⟩
 | n + 1,P,P',t,t',h,R,e=>by
  unfold mz at e
  unfold topGo
  cases he:through t with
  | true=>rw [he] at e; cases e
  | false=>
   rw [he] at e
   cases hk:stepOk n₀ ann t with
   | false=>rw [hk] at e; cases e
   | true=>
    rw [hk] at e
    cases hs:eO (step (denote tb) p w) os P t with
    | none=>rw [hs] at e; cases e
    | some r=>
     rw [hs] at e
     obtain ⟨h₂,a,K⟩:=uE R hk hs
     obtain ⟨h',z,K'⟩:=wt K.rep e
     dsimp only
     rw [a]
     exact ⟨h',z,K.trans K'⟩
noncomputable def FB (P:Params):List (Addr×Obj):=[(0,boot_o_0 P),(1,boot_o_1 P),(2,boot_o_2 P),(3,boot_o_3 P),(4,boot_o_4 P),(5,boot_o_5 P),(6,boot_o_6 P),(7,boot_o_7 P),(8,boot_o_8 P),(9,boot_o_9 P),(10,boot_o_10 P)]
noncomputable def Dh (X:List (Addr×Obj)) (r:PS×Thread):Nat×Array GenState×Drawn×Nat×Bool×List (Option Obj)×Thread:=match r with
 | (P,t)=>(P.n,P.gens,P.drawn,P.toks,P.up.isEmpty,X.map (fun p=>aO P.kn p.1),t)
noncomputable def XG:List (Addr×Obj):=[(12,bu []),(13,uG)]
theorem Di (w:World) (os:OsState):(mz (lQ w) lR os 12 ⟨FB w.params,11,#[],boot_drawn,181,[]⟩ (topStub pw)).map (Dh XG) =
  some (15,#[],boot_drawn,187,true,XG.map (fun p=>some p.2),⟨Fast.tw11892475500146522536 Fast.tw14364793385576792824 cT,cT,q0,[topFrame q0]⟩):=by kernel_rfl
theorem Dj (P:Params):(FB P).map (fun p=>(boot_heap P).get? p.1) = (FB P).map fun p=>some p.2:=by kernel_rfl
theorem wu (P:Params):(boot_heap P).objs.size = 11:=by kernel_rfl
theorem N5 (P:Params):gR P = gR P:=rfl
noncomputable abbrev jO (w:World) (N:Nat) (s:Shared) (t:Thread):Option Shared:=topRun treeTable pw w 11 (some (.ref 6)) N s t
noncomputable abbrev S0 (w:World) (os:OsState):Shared:=⟨boot_heap w.params,#[],boot_drawn,boot_toks,os⟩
noncomputable def Reach (w:World) (os:OsState) (k t n:Nat) (q:Pos) (F:List (Addr×Obj)):Prop:=
 ∃ h,h.objs.size = n∧h.life = (boot_heap w.params).life∧Fact F h∧Named F h∧
  ∀ N r,jO w N (cF h t os) (restOf (BD.drop k) jN cT q [topFrame q0]) = some r→∃ M,jO w M (S0 w os) (topStub pw) = some r
theorem Dk (w:World) (h:Heap) (t:Nat) (os:OsState):segRun treeTable pw w 11 (some (.ref 6)) 1 1 (cF h t os) (blockOf BD jN cT q0 [topFrame q0]) = some (.next,cF h t os,cT,q0):=by kernel_rfl
theorem Dl (w:World) (os:OsState):Reach w os 0 187 15 q0 (gR w.params):=by
 refine af fun nG=>?_
 have e:=Di w os
 obtain ⟨⟨P,t⟩,hr,hl⟩:=Option.map_eq_some_iff.mp e
 have h1:P.n = 15:=congrArg (·.1) hl
 have h2:P.gens = #[]:=congrArg (·.2.1) hl
 have h3:P.drawn = boot_drawn:=congrArg (·.2.2.1) hl
 have h4:P.toks = 187:=congrArg (·.2.2.2.1) hl
 have h5:P.up.isEmpty = true:=congrArg (·.2.2.2.2.1) hl
 have h6:XG.map (fun p=>aO P.kn p.1) = XG.map (fun p=>some p.2):=congrArg (·.2.2.2.2.2.1) hl
 obtain rfl:t = _:=congrArg (·.2.2.2.2.2.2) hl
 rw [wm,wo] at hr
 have bf:=List.map_inj_left.mp (Dj w.params)
 have R:Rep ⟨FB w.params,11,#[],boot_drawn,181,[]⟩ (boot_heap w.params):=⟨fun a o q=>bf _ (my q),wu _⟩
 obtain ⟨h',z1,z2,z3,-,z5⟩:=wt R hr
 refine nG ?_
 have hP:P.sh h' os = cF h' 187 os:=by unfold PS.sh; rw [h2,h3,h4]
 rw [hP,← Fast.te11892475500146522536,← Fast.te14364793385576792824] at z1
 have hu:P.up = []:=List.isEmpty_iff.mp h5
 refine ⟨h',z2.n.trans h1,z3,fun a o q=>?_,fun c hc=>?_,fun N r hN=>⟨12 + (1 + N),?_⟩⟩
 ·have bk:∀ a o,(boot_heap w.params).get? a = some o→h'.get? a = some o:=fun a o q=>z5 a o (by rw [hu]; exact fun m=>nomatch m) q
  have inX:∀ p∈XG,h'.get? p.1 = some p.2:=fun p hp=>z2.kn _ _ (List.map_inj_left.mp h6 p hp)
  have hm:(a,o)∈(FB w.params).take 7 ++ XG:=my q
  rcases List.mem_append.mp hm with m | m
  ·exact bk _ _ (bf _ (List.mem_of_mem_take m))
  ·exact inX _ m
 ·have:(gR w.params).filterMap aZ = []:=by kernel_rfl
  rw [this] at hc; cases hc
 ·exact go_top z1 (piece_block (Dk w h' 187 os) hN)
theorem bD {w:World} {os:OsState} {g:Nat} {F X:List (Addr×Obj)} {olds ua:List Addr} {st m N n n' t t':Nat} {q q':Pos} (R:Reach w os st t n q F) (e:bw w os g F X olds ua st m N n n' t t' q q')
  (hc:((F.filterMap aZ).all fun c=>!ua.contains c.1) = true):Reach w os (st + m) t' n' q' (X ++ F):=by
 refine af fun nG=>?_
 obtain ⟨h,hn,hl,hF,hN,hr⟩:=R
 obtain ⟨h',z1,z2,z3,z4,z5,z6⟩:=Dg e hF hn
 refine nG ?_
 refine ⟨h',z2,z3.trans hl,z4,fun c hm=>?_,fun M r hM=>?_⟩
 ·rw [List.filterMap_append] at hm
  rcases List.mem_append.mp hm with hm | hm
  ·exact z5 c hm
  ·have a:=hN c hm
   have b:=List.all_eq_true.mp hc c hm
   have nm:c.1∉ua:=by simpa using b
   cases y:h.get? c.1 with
   | none=>rw [y] at a; cases a
   | some o=>rw [z6 _ _ nm y,← y]; exact a
 ·refine hr (N + M) r ?_
  have sp:BD.drop st = lP st m ++ BD.drop (st + m):=by
   unfold lP
   rw [← List.drop_drop,List.take_append_drop]
  rw [sp]
  exact piece_app z1 hM
theorem Dm (w:World):(((gR w.params).filterMap aZ).all fun c=>!([2,3,12]:List Addr).contains c.1) = true:=by kernel_rfl
theorem Dn (w:World) (os:OsState):Reach w os 3 234 50 ⟨5,0,15,29⟩ (lS w.params):=bD (Dl w os) (CL w os) (Dm w)
theorem Dp (w:World):(((lS w.params).filterMap aZ).all fun c=>!([3,46,12]:List Addr).contains c.1) = true:=by kernel_rfl
theorem Dq (w:World) (os:OsState):Reach w os 4 250 62 ⟨16,0,17,8⟩ (lT w.params):=bD (Dn w os) (CM w os) (Dp w)
theorem Dr (w:World):(((lT w.params).filterMap aZ).all fun c=>!([3,46,12]:List Addr).contains c.1) = true:=by kernel_rfl
theorem Ds (w:World) (os:OsState):Reach w os 11 315 116 ⟨34,0,35,50⟩ (lU w.params):=bD (Dq w os) (CN w os) (Dr w)
theorem Dt (w:World):(((lU w.params).filterMap aZ).all fun c=>!([3,12]:List Addr).contains c.1) = true:=by kernel_rfl
theorem Du (w:World) (os:OsState):Reach w os 27 409 193 ⟨92,0,102,66⟩ (lV w.params):=bD (Ds w os) (CO w os) (Dt w)
theorem Dv (w:World):(((lV w.params).filterMap aZ).all fun c=>!([3,12]:List Addr).contains c.1) = true:=by kernel_rfl
theorem Dw (w:World) (os:OsState):Reach w os 29 426 207 ⟨107,0,118,49⟩ (lW w.params):=bD (Du w os) (CP w os) (Dv w)
theorem Dx (w:World):(((lW w.params).filterMap aZ).all fun c=>!([3,12]:List Addr).contains c.1) = true:=by kernel_rfl
theorem Dy (w:World) (os:OsState):Reach w os 30 509 269 ⟨119,0,149,16⟩ (lY w.params):=bD (Dw w os) (CQ w os) (Dx w)
theorem Dz (w:World):(((lY w.params).filterMap aZ).all fun c=>!([3,12]:List Addr).contains c.1) = true:=by kernel_rfl
theorem DA (w:World) (os:OsState):Reach w os 36 539 290 ⟨165,0,165,6⟩ (lZ w.params):=bD (Dy w os) (CR w os) (Dz w)
theorem DB (w:World):(((lZ w.params).filterMap aZ).all fun c=>!([3,12]:List Addr).contains c.1) = true:=by kernel_rfl
theorem DC (w:World) (os:OsState):Reach w os 37 589 332 ⟨166,0,178,17⟩ (l5 w.params):=bD (DA w os) (CS w os) (DB w)
theorem DD (w:World):(((l5 w.params).filterMap aZ).all fun c=>!([3,327,12]:List Addr).contains c.1) = true:=by kernel_rfl
theorem DE (w:World) (os:OsState):Reach w os 38 628 365 ⟨179,0,189,30⟩ (l6 w.params):=bD (DC w os) (CT w os) (DD w)
theorem DF (w:World):(((l6 w.params).filterMap aZ).all fun c=>!([3,327,12]:List Addr).contains c.1) = true:=by kernel_rfl
theorem DG (w:World) (os:OsState):Reach w os 39 670 399 ⟨190,0,201,24⟩ (l7 w.params):=bD (DE w os) (CU w os) (DF w)
theorem DH (w:World):(((l7 w.params).filterMap aZ).all fun c=>!([3,327,12]:List Addr).contains c.1) = true:=by kernel_rfl
theorem DI (w:World) (os:OsState):Reach w os 40 720 440 ⟨202,0,216,44⟩ (l8 w.params):=bD (DG w os) (CV w os) (DH w)
theorem DJ (w:World):(((l8 w.params).filterMap aZ).all fun c=>!([3,327,12]:List Addr).contains c.1) = true:=by kernel_rfl
theorem DK (w:World) (os:OsState):Reach w os 41 796 493 ⟨217,0,244,16⟩ (l9 w.params):=bD (DI w os) (CW w os) (DJ w)
theorem DL (w:World):(((l9 w.params).filterMap aZ).all fun c=>!([3,12]:List Addr).contains c.1) = true:=by kernel_rfl
theorem DM (w:World) (os:OsState):Reach w os 42 868 546 ⟨245,0,269,16⟩ (ma w.params):=bD (DK w os) (CX w os) (DL w)
theorem DN (w:World):(((ma w.params).filterMap aZ).all fun c=>!([3,12]:List Addr).contains c.1) = true:=by kernel_rfl
theorem DO (w:World) (os:OsState):Reach w os 57 955 616 ⟨315,0,319,49⟩ (mc w.params):=bD (DM w os) (CY w os) (DN w)
theorem DP (w:World):(((mc w.params).filterMap aZ).all fun c=>!([3,12]:List Addr).contains c.1) = true:=by kernel_rfl
theorem DQ (w:World) (os:OsState):Reach w os 59 1029 672 ⟨341,0,342,75⟩ (me w.params):=bD (DO w os) (CZ w os) (DP w)
theorem DR (w:World):(((me w.params).filterMap aZ).all fun c=>!([3,12]:List Addr).contains c.1) = true:=by kernel_rfl
theorem DS (w:World) (os:OsState):Reach w os 77 1133 742 ⟨412,0,416,42⟩ (mf w.params):=bD (DQ w os) (C0 w os) (DR w)
theorem DU (w:World):(((mf w.params).filterMap aZ).all fun c=>!([3,12]:List Addr).contains c.1) = true:=by kernel_rfl
theorem DV (w:World) (os:OsState):Reach w os 80 1154 763 ⟨423,0,428,35⟩ (mg w.params):=bD (DS w os) (C1 w os) (DU w)
theorem DW (w:World):(((mg w.params).filterMap aZ).all fun c=>!([3,12]:List Addr).contains c.1) = true:=by kernel_rfl
theorem DX (w:World) (os:OsState):Reach w os 81 1231 820 ⟨429,0,468,27⟩ (mh w.params):=bD (DV w os) (C2 w os) (DW w)
theorem DY (w:World):(((mh w.params).filterMap aZ).all fun c=>!([12,3]:List Addr).contains c.1) = true:=by kernel_rfl
theorem DZ (w:World) (os:OsState):Reach w os 83 1285 855 ⟨470,0,483,16⟩ (mi w.params):=bD (DX w os) (C3 w os) (DY w)
theorem D0 (w:World):(((mi w.params).filterMap aZ).all fun c=>!([3,12]:List Addr).contains c.1) = true:=by kernel_rfl
theorem D1 (w:World) (os:OsState):Reach w os 87 1359 909 ⟨508,0,509,65⟩ (mj w.params):=bD (DZ w os) (C4 w os) (D0 w)
theorem D2 (w:World):(((mj w.params).filterMap aZ).all fun c=>!([3,12]:List Addr).contains c.1) = true:=by kernel_rfl
theorem D3 (w:World) (os:OsState):Reach w os 99 1489 990 ⟨605,0,609,25⟩ (ml w.params):=bD (D1 w os) (C5 w os) (D2 w)
theorem D4 (w:World):(((ml w.params).filterMap aZ).all fun c=>!([3,12]:List Addr).contains c.1) = true:=by kernel_rfl
theorem D5 (w:World) (os:OsState):Reach w os 109 1560 1043 ⟨651,0,654,82⟩ (mn w.params):=bD (D3 w os) (C6 w os) (D4 w)
theorem D6 (w:World):(((mn w.params).filterMap aZ).all fun c=>!([3,12]:List Addr).contains c.1) = true:=by kernel_rfl
theorem D7 (w:World) (os:OsState):Reach w os 110 1656 1118 ⟨655,0,694,17⟩ (mq w.params):=bD (D5 w os) (C7 w os) (D6 w)
theorem D8 (w:World):(((mq w.params).filterMap aZ).all fun c=>!([12,3]:List Addr).contains c.1) = true:=by kernel_rfl
theorem D9 (w:World) (os:OsState):Reach w os 119 1702 1140 ⟨725,0,725,8⟩ (mr w.params):=bD (D7 w os) (C8 w os) (D8 w)
theorem Ea (w:World):(((mr w.params).filterMap aZ).all fun c=>!([3,12]:List Addr).contains c.1) = true:=by kernel_rfl
theorem Eb (w:World) (os:OsState):Reach w os 120 1772 1196 ⟨726,0,749,24⟩ (mu w.params):=bD (D9 w os) (C9 w os) (Ea w)
theorem Ec (w:World):(((mu w.params).filterMap aZ).all fun c=>!([3,12]:List Addr).contains c.1) = true:=by kernel_rfl
theorem Ed (w:World) (os:OsState):Reach w os 133 1886 1276 ⟨843,0,846,62⟩ (mw w.params):=bD (Eb w os) (Dc w os) (Ec w)
theorem Ee (w:World):(((mw w.params).filterMap aZ).all fun c=>!([3,12]:List Addr).contains c.1) = true:=by kernel_rfl
theorem Ef (w:World) (os:OsState):Reach w os 136 1929 1295 ⟨878,0,894,15⟩ (bq w.params):=bD (Ed w os) (Df w os) (Ee w)
theorem Eg:BD.drop 136 = []:=by kernel_rfl
theorem Eh (w:World) (os:OsState) (h:Heap):jO w 5 (cF h 1929 os) ⟨doneF .next,cT,⟨878,0,894,15⟩,[topFrame q0]⟩ = some (cF h 1929 os):=by kernel_rfl
structure Behind (w:World) (os:OsState) (h:Heap):Prop where
 size:h.objs.size = 1295
 life:h.life = (boot_heap w.params).life
 fact:Fact (bq w.params) h
 named:Named (bq w.params) h
 run:∃ M,jO w M (S0 w os) (topStub pw) = some (cF h 1929 os)
theorem behind (w:World) (os:OsState):∃ h,Behind w os h:=by
 refine af fun nG=>?_
 obtain ⟨h,a,b,c,d,e⟩:=Ef w os
 refine nG ?_
 refine ⟨h,a,b,c,d,e 5 _ ?_⟩
 rw [Eg]
 exact piece_nil (Eh w os h)
noncomputable def KH (P:Params):Heap:=⟨((List.range 5).map fun a=>(aO (bq P) a).getD default).toArray,(boot_heap P).life⟩
theorem Ei (P:Params):[0,2,3,4].map (KH P).get? = [0,2,3,4].map (aO (bq P)):=by kernel_rfl
theorem Ej (P:Params):([0,2,3,4].map fun a=>(aO (bq P) a).isSome) = [true,true,true,true]:=by kernel_rfl
theorem Ek:opening pw = plainProg pw.main.scope.names:=by kernel_rfl
theorem El (s:Shared):fenceModules? pw s = some s:=by kernel_rfl
theorem Em (P:Params):(KH P).accountedOkI [] = true:=by kernel_rfl
theorem En (P:Params):staticsOk [] (boot_heap P) (KH P) = true:=by kernel_rfl
theorem mA (P:Params):(KH P).isNs mainGlobals = true:=by kernel_rfl
theorem wx (P:Params):(KH P).isNs builtinsNs = true:=by kernel_rfl
theorem wy (P:Params):(KH P).bltView = bltViewBooted:=by kernel_rfl
theorem Eo (P:Params):namesBound pw (KH P) = true:=by kernel_rfl
theorem Ep (P:Params):laidKept (boot_heap P) (KH P) = true:=by kernel_rfl
theorem wz:importedModules pw.main.body = []:=by kernel_rfl
theorem wA (P:Params):(KH P).nsMap mainGlobals "__builtins__" = some (.ref 4):=by kernel_rfl
theorem Er (P:Params):((KH P).get? 4).map (fun o=>(o.cls,o.dict)) = some (.type "module",some builtinsNs):=by kernel_rfl
theorem Es (P:Params):(boot_heap P).nsMap mainGlobals "__annotations__" = some (.ref 6):=by kernel_rfl
theorem Et (P:Params):(boot_heap P).isNs mainGlobals = true:=by kernel_rfl
section
variable {h h':Heap} {a:Addr}
theorem ez (e:h.get? a = h'.get? a):h.isNs a = h'.isNs a:=by unfold Heap.isNs; rw [e]
theorem p9 (e:h.get? a = h'.get? a):h.nsKeys a = h'.nsKeys a:=by unfold Heap.nsKeys; rw [e]
theorem wB (e:h.get? a = h'.get? a):h.nsPairs a = h'.nsPairs a:=by unfold Heap.nsPairs; rw [e]
theorem gf (e:h.get? a = h'.get? a):h.nsMap a = h'.nsMap a:=by funext x; unfold Heap.nsMap; rw [e]
end
theorem Behind.same {w:World} {os:OsState} {h:Heap} (B:Behind w os h) {a:Addr} (ha:a∈[0,2,3,4]):h.get? a = (KH w.params).get? a:=by
 have e1:=List.map_inj_left.mp (Ei w.params) a ha
 have e2:=List.map_inj_left.mp (show [0,2,3,4].map (fun a=>(aO (bq w.params) a).isSome) = [0,2,3,4].map (fun _=>true) from Ej w.params) a ha
 obtain ⟨o,ho⟩:=Option.isSome_iff_exists.mp e2
 rw [e1,ho]; exact B.fact a o ho
theorem Behind.Eu {w:World} {os:OsState} {h:Heap} (B:Behind w os h) (z:(S0 w os).asleep):TopRan pw w (S0 w os) (cF h 1929 os)∧(cF h 1929 os).asleep:=by
 refine af fun nG=>?_
 obtain ⟨M,hM⟩:=B.run
 unfold jO at hM
 rw [← table_eq_tree] at hM
 obtain ⟨r,l,os',fr⟩:=topRun_spec _ _ _ _ z hM
 refine nG ?_
 have e0:=B.same (a:=0) (by simp)
 have e2:=B.same (a:=2) (by simp)
 have e3:=B.same (a:=3) (by simp)
 have e4:=B.same (a:=4) (by simp)
 have hg:h.isNs mainGlobals = true:=(ez e3).trans (mA _)
 have hb:h.isNs builtinsNs = true:=(ez e0).trans (wx _)
 refine ⟨⟨r,l,Shared.rest_eq os',fun b o hb hn=>fr b o ?_ (fun q=>hn (.inl q)) (fun q=>hn (.inr (.inl q))) (fun q=>hn (.inr (.inr ?_))) hb,?_,?_,Pin.keysAreStrs_of hg,?_,?_,?_,?_,?_⟩,Shared.asleep_of_life l z⟩
 ·have:=Heap.lt_size hb
  rwa [show (S0 w os).heap.objs.size = 11 from wu _] at this
 ·exact ((Pin.globalOf_eq (Et _) _).trans (Es _)).trans q
 ·rw [wz]
  refine Heap.accountedI_of_ok ?_
  refine Eq.trans ?_ (Em w.params)
  show h.accountedOkI [] = _
  unfold Heap.accountedOkI
  rw [ez (a:=cStatics) e2,p9 (a:=cStatics) e2]
  rw [gf (a:=cStatics) e2]
 ·rw [wz]
  refine statics_of_ok ?_
  refine Eq.trans ?_ (En w.params)
  show staticsOk [] (boot_heap w.params) h = _
  unfold staticsOk
  rw [ez (a:=cStatics) e2,p9 (a:=cStatics) e2]
  rw [gf (a:=cStatics) e2]
 ·intro x hx
  refine (Pin.builtinOf_eq hb x).trans (Heap.of_bltView hb ?_ x hx)
  refine Eq.trans ?_ (wy w.params)
  unfold Heap.bltView
  rw [wB (a:=builtinsNs) e0]
 ·refine af fun nG=>?_
  have k4:=Er w.params
  rw [← e4] at k4
  obtain ⟨o,ho,hv⟩:=Option.map_eq_some_iff.mp k4
  obtain ⟨hc,hd⟩:=Prod.mk.inj hv
  refine nG ?_
  exact ⟨4,o,(Pin.globalOf_eq hg _).trans ((congrFun (gf e3) _).trans (wA _)),ho,hc,hd⟩
 ·intro g hg; cases hg<;>contradiction
 ·refine names_of_bound ?_
  refine Eq.trans ?_ (Eo w.params)
  show namesBound pw h = _
  unfold namesBound
  rw [ez (a:=mainGlobals) e3,p9 (a:=mainGlobals) e3]
 ·refine laid_of_kept ?_
  refine Eq.trans ?_ (Ep w.params)
  show laidKept (boot_heap w.params) h = _
  unfold laidKept
  rw [ez (a:=mainGlobals) e3]
  rw [gf (a:=mainGlobals) e3]
theorem wC (w:World):(∃ s,AfterRun (opening pw) w s)∧∀ s,AfterRun (opening pw) w s→∃ os h,fenceModules? pw s = some (S0 w os)∧Behind w os h∧TopRan pw w (S0 w os) (cF h 1929 os)∧(cF h 1929 os).asleep:=by
 refine af fun nG=>?_
 have hm:=boot_open (p:=pw) (N:=600) Ek (by rfl) El w
 rw [← table_eq_tree] at hm
 obtain ⟨s₀,h2,h3⟩:=Option.map_eq_some_iff.mp hm
 obtain ⟨s,h4,h5⟩:=Option.bind_eq_some_iff.mp h2
 refine nG ?_
 have A:=AfterImport.of_importEnds h4
 have z:s₀.asleep:=Shared.asleep_of_life (fence_lifeW h5) A.life
 refine ⟨⟨s,A⟩,fun s' hs'=>?_⟩
 refine af fun nG=>?_
 obtain rfl:s' = s:=AfterImport.unique hs' A
 obtain ⟨hh,g,d,tk,os⟩:=s₀
 simp only [Prod.mk.injEq] at h3
 obtain ⟨rfl,rfl,rfl,rfl⟩:=h3
 obtain ⟨h,B⟩:=behind w os
 obtain ⟨T,a⟩:=B.Eu z
 refine nG ?_
 exact ⟨os,h,h5,B,T,a⟩
end Mine
end
section
set_option backward.match.sparseCases false
open PySem PySem.W PyProof.Rows PySem.Calls
namespace Mine
section
set_option genCtorIdx true in
inductive AV where
 | none
 | bool (b:Bool)
 | sb (B:SB)
 | int (e:SE)
 | str (x:Str)
 | bytes (l:List SE)
 | tup (l:List AV)
 | lst (l:List AV)
 | inst (c:Addr) (fs:List (Str×AV))
 | dicI (l:List (Int×AV))
 | dicS (l:List (Str×AV))
 | rng (a:Int) (n:Nat)
 | con (v:Value)
 | blt (n:Nat)
 | any
 | anyS
 | loc (n:Nat)
 | hole (n:Nat)
noncomputable abbrev pg:Program:=pw
noncomputable abbrev AS:=Addr→Prop
noncomputable abbrev GH:=Addr→Obj→Prop
noncomputable def Sub (g g':GH):Prop:=∀ a o,g a o→g' a o
structure ab where
 w:World
 os:OsState
 h0:Heap
 B:Behind w os h0
 ρ:Nat→Int
 η:Nat→GH→Value→Prop
 ηm:∀ n g g' v,Sub g g'→η n g v→η n g' v
 ηp:∀ n g v,η n g v→handedIn v = true
structure Vw where
 g:GH
 ad:List Addr
structure Vw.Le (V V':Vw):Prop where
 g:Sub V.g V'.g
 ad:∀ (n:Nat) (a:Addr),V.ad[n]? = some a→V'.ad[n]? = some a
noncomputable def dC:Nat→Value
 | 0=>.builtin "len"
 | 1=>.type "range"
 | 2=>.type "int"
 | 3=>.builtin "abs"
 | 4=>.type "str"
 | 5=>.builtin "sum"
 | 6=>.builtin "sorted"
 | 7=>.type "list"
 | 8=>.type "tuple"
 | 9=>.type "bytes"
 | 10=>.builtin "isinstance"
 | 11=>.type "zip"
 | 12=>.type "enumerate"
 | _=>.none
noncomputable def soft (o:Obj):Bool:=match o.cls with
 | .type n=>n == "frame"
 | .none=>(match o.data with
  | .fields _=>true
  | _=>false)
 | _=>false
noncomputable def bA (o:Obj):Bool:=match o.data with
 | .fields _=>(match o.cls with
  | .none=>true
  | .type n=>n == "code"
  | _=>false)
 | _=>false
noncomputable def jP (vs:List Value) (n:Nat):Obj:={ cls:=.type "tuple",data:=.seq vs.toArray n }
noncomputable def bl (vs:List Value) (n:Nat):Obj:={ cls:=.type "list",data:=.seq vs.toArray n }
noncomputable def Ew (a b c:Int) (t u v:Tok):Obj:={ cls:=.type "range",dict:=none,data:=.fields #[.int a t,.int b u,.int c v],slots:=#[] }
noncomputable def jQ (a:Int) (n:Nat):Bool:=Nat.ble n 1000000 && decide (-1000000000≤a) && decide (a≤1000000000)
inductive qa (ad:List Addr) (n:Nat):Value→Prop
 | mk {a} (h:ad[n]? = some a):qa ad n (.ref a)
noncomputable def bN (l:List Int):Array UInt8:=(l.map fun x=>UInt8.ofNat x.toNat).toArray
inductive bK (i:Int):Value→Prop
 | mk (t:Tok):bK i (.int i t)
inductive mB (x:Str):Value→Prop
 | mk (t:Tok):mB x (.str x t)
inductive jS (l:List Int):Value→Prop
 | mk (t:Tok) (h:∀ x∈l,0≤x∧x < 256):jS l (.bytes (bN l) t)
inductive qb (g:GH) (f:List Value→Nat→Obj) (P:List Value→Prop):Value→Prop
 | mk {a vs n} (h:g a (f vs n)) (r:P vs):qb g f P (.ref a)
inductive wD (g:GH) (C:Addr) (P:List DictEntry→Prop):Value→Prop
 | mk {x dx es n} (h:g x (instObj C dx)) (hd:g dx (dictOf es n)) (r:P es):wD g C P (.ref x)
inductive qc {κ:Type} [DecidableEq κ] {w:World} (g:GH) (k:PySem.KeyKind pg w κ) (P:List (κ×Value)→Prop):Value→Prop
 | mk {a o kvs} (h:g a o) (ns:(a == sysModules) = false) (d:o.IsDictOf k kvs) (r:P kvs):qc g k P (.ref a)
inductive qd (g:GH) (a:Int) (n:Nat):Value→Prop
 | mk {r t u v} (h:g r (Ew a (a + n) 1 t u v)) (ok:jQ a n = true):qd g a n (.ref r)
inductive gS {α:Type} (P:α→Prop) (Q:List α→Prop):List α→Prop
 | mk {v vs} (h:P v) (r:Q vs):gS P Q (v::vs)
inductive wF (x:Str) (P:Value→Prop):DictEntry→Prop
 | mk {e t} (k:e.key = .str x t) (h:P e.val):wF x P e
inductive IsPair {κ:Type} (x:κ) (P:Value→Prop):κ×Value→Prop
 | mk {v} (h:P v):IsPair x P (x,v)
noncomputable def bS:List Int→List Value→Prop
 | [],vs=>vs = []
 | i::l,vs=>gS (bK i) (bS l) vs
noncomputable def vals (ρ:Nat→Int):List SE→List Int
 | []=>[]
 | e::l=>e.val ρ::vals ρ l
mutual
noncomputable def Rel (W:ab) (V:Vw) (v:Value):AV→Prop
 | .none=>v = .none
 | .bool b=>v = .bool b
 | .sb B=>v = .bool (B.val W.ρ)
 | .int e=>bK (e.val W.ρ) v
 | .str x=>mB x v
 | .bytes l=>jS (vals W.ρ l) v
 | .tup as=>qb V.g jP (fun vs=>ah W V vs as) v
 | .lst as=>qb V.g bl (fun vs=>ah W V vs as) v
 | .con u=>v = u
 | .blt n=>v = dC n
 | .inst C fs=>wD V.g C (fun es=>bF W V es fs) v
 | .dicI l=>qc V.g (intKind pg W.w) (fun k=>bO W V k l) v
 | .dicS l=>qc V.g (strKind pg W.w) (fun k=>bI W V k l) v
 | .rng a n=>qd V.g a n v
 | .any=>True
 | .anyS=>∃ x,mB x v
 | .loc n=>qa V.ad n v
 | .hole n=>W.η n V.g v
noncomputable def ah (W:ab) (V:Vw) (vs:List Value):List AV→Prop
 | []=>vs = []
 | a::as=>gS (fun v=>Rel W V v a) (fun ws=>ah W V ws as) vs
noncomputable def bF (W:ab) (V:Vw) (es:List DictEntry):List (Str×AV)→Prop
 | []=>es = []
 | (x,a)::fs=>gS (wF x fun v=>Rel W V v a) (fun ds=>bF W V ds fs) es
noncomputable def bO (W:ab) (V:Vw) (es:List (Int×Value)):List (Int×AV)→Prop
 | []=>es = []
 | (x,a)::fs=>gS (IsPair x fun v=>Rel W V v a) (fun ds=>bO W V ds fs) es
noncomputable def bI (W:ab) (V:Vw) (es:List (Str×Value)):List (Str×AV)→Prop
 | []=>es = []
 | (x,a)::fs=>gS (IsPair x fun v=>Rel W V v a) (fun ds=>bI W V ds fs) es
end
section
variable {W:ab} {V V':Vw}
theorem Vw.Le.refl:V.Le V:=⟨fun _ _ h=>h,fun _ _ h=>h⟩
theorem Vw.Le.trans {V'':Vw} (a:V.Le V') (b:V'.Le V''):V.Le V'':=⟨fun _ _ h=>b.g _ _ (a.g _ _ h),fun _ _ h=>b.ad _ _ (a.ad _ _ h)⟩
mutual
theorem Rel.mono (s:V.Le V'):∀ {a:AV} {v:Value},Rel W V v a→Rel W V' v a
 | .none,_,r | .bool _,_,r | .sb _,_,r | .int _,_,r | .str _,_,r | .bytes _,_,r | .con _,_,r | .blt _,_,r | .any,_,r | .anyS,_,r=>r
 | .tup _,_,r=>by obtain ⟨h,r⟩:=r; exact .mk (s.g _ _ h) (ah.mono s r)
 | .lst _,_,r=>by obtain ⟨h,r⟩:=r; exact .mk (s.g _ _ h) (ah.mono s r)
 | .inst _ _,_,r=>by obtain ⟨h,hd,r⟩:=r; exact .mk (s.g _ _ h) (s.g _ _ hd) (bF.mono s r)
 | .dicI _,_,r=>by obtain ⟨h,ns,d,r⟩:=r; exact .mk (s.g _ _ h) ns d (bO.mono s r)
 | .dicS _,_,r=>by obtain ⟨h,ns,d,r⟩:=r; exact .mk (s.g _ _ h) ns d (bI.mono s r)
 | .rng _ _,_,r=>by obtain ⟨h,k⟩:=r; exact .mk (s.g _ _ h) k
 | .loc _,_,r=>by obtain ⟨h⟩:=r; exact .mk (s.ad _ _ h)
 | .hole _,_,r=>W.ηm _ _ _ _ s.g r
theorem ah.mono (s:V.Le V'):∀ {as:List AV} {vs:List Value},ah W V vs as→ah W V' vs as
 | [],_,r=>r
 | _::_,_,r=>by obtain ⟨h,r⟩:=r; exact .mk (h.mono s) (ah.mono s r)
theorem bF.mono (s:V.Le V'):∀ {fs:List (Str×AV)} {es:List DictEntry},bF W V es fs→bF W V' es fs
 | [],_,r=>r
 | _::_,_,r=>by obtain ⟨⟨k,h⟩,r⟩:=r; exact .mk (.mk k (h.mono s)) (bF.mono s r)
theorem bO.mono (s:V.Le V'):∀ {fs:List (Int×AV)} {es:List (Int×Value)},bO W V es fs→bO W V' es fs
 | [],_,r=>r
 | _::_,_,r=>by obtain ⟨⟨h⟩,r⟩:=r; exact .mk (.mk (h.mono s)) (bO.mono s r)
theorem bI.mono (s:V.Le V'):∀ {fs:List (Str×AV)} {es:List (Str×Value)},bI W V es fs→bI W V' es fs
 | [],_,r=>r
 | _::_,_,r=>by obtain ⟨⟨h⟩,r⟩:=r; exact .mk (.mk (h.mono s)) (bI.mono s r)
end
theorem ah.length:∀ {as:List AV} {vs:List Value},ah W V vs as→vs.length = as.length
 | [],_,r=>r▸rfl
 | _::_,_,r=>by obtain ⟨_,r⟩:=r; exact congrArg (· + 1) (ah.length r)
theorem ah.get:∀ {as:List AV} {vs:List Value} {i:Nat} {a:AV},ah W V vs as→as[i]? = some a→∃ v,vs[i]? = some v∧Rel W V v a
 | _::_,_,i,_,r,e=>by
  obtain ⟨h,r⟩:=r
  cases i with
  | zero=>exact ⟨_,rfl,Option.some.inj e▸h⟩
  | succ i=>exact ah.get (i:=i) r e
theorem ah.append:∀ {as bs:List AV} {vs ws:List Value},ah W V vs as→ah W V ws bs→ah W V (vs ++ ws) (as ++ bs)
 | [],_,_,_,r,q=>r▸q
 | _::_,_,_,_,r,q=>by obtain ⟨h,r⟩:=r; exact .mk h (ah.append r q)
theorem ah.cons {v:Value} {a:AV} {vs:List Value} {as:List AV} (h:Rel W V v a) (r:ah W V vs as):ah W V (v::vs) (a::as):=.mk h r
end
end
noncomputable def fq:List (Addr×Str):=[(722,⟨#[109,101,109,111,114,121,95,115,104,97,112,101,115,46,60,108,111,99,97,108,115,62,46,60,108,97,109,98,100,97,62]⟩),(998,⟨#[101,110,99,111,100,105,110,103,115,46,60,108,111,99,97,108,115,62,46,60,108,97,109,98,100,97,62]⟩)]
inductive ft (b:Addr):Obj→Obj→Prop
 | refl (o:Obj):ft b o o
 | grow {o:Obj} {vs more:Array Value} (m:b∈fq.map (·.1)) (c:o.cls = .none) (d:o.data = .fields vs):ft b o { o with data:=.fields (vs ++ more) }
theorem ft.trans {b:Addr} {o p q:Obj} (x:ft b o p) (y:ft b p q):ft b o q:=by
 cases x with
 | refl=>exact y
 | grow m c d=>cases y with
  | refl=>exact .grow m c d
  | grow _ _ d'=>cases d'; rw [Array.append_assoc]; exact .grow m c d
theorem ft.eq {b:Addr} {o p:Obj} (x:ft b o p) (h:soft o = false∨bA o = false):p = o:=by
 cases x with
 | refl=>rfl
 | grow _ c d=>unfold soft bA at h; rw [c,d] at h; rcases h with h | h<;>exact fj h
structure TabAt (h:Heap) (q:Str) (cv:Value):Prop where
 ex:∃ c co vs t,cv = .ref c∧h.get? c = some co∧co.cls = .type "code"∧co.data = .fields vs∧vs[1]? = some (.str q t)
noncomputable def mC (h:Heap) (P:Addr) (q:Str):Prop:=∃ ps:Array Value,h.get? P = some { cls:=.none,data:=.fields ps }∧PySem.TriplesOk ps.toList∧∀ pos cv,codeAmong pos ps.toList = some cv→TabAt h q cv
structure au (X:AS) (h h':Heap):Prop where
 same:∀ b o,¬X b→h.get? b = some o→∃ o',h'.get? b = some o'∧ft b o o'
 tab:∀ P q,(P,q)∈fq→mC h P q→mC h' P q
noncomputable abbrev ag:=au fun _=>False
section
variable {X Y U U':AS} {h h1 h':Heap} {a b u:Addr} {o:Obj}
theorem eQ (e:h.get? a = some o) (n:h.get? b = none):a≠b:=fun q=>by rw [q,n] at e; exact aq e
theorem au.ex (k:au X h h') (n:¬X b) (e:h.get? b = some o):∃ o',h'.get? b = some o':=let ⟨o',e',_⟩:=k.same b o n e; ⟨o',e'⟩
theorem au.b0 (k:au X h h') (n:¬X b) (e:h.get? b = some o) (hs:soft o = false∨bA o = false):h'.get? b = some o:=by
 obtain ⟨o',e',s⟩:=k.same b o n e
 rw [e',s.eq hs]
theorem au.get (k:ag h h') (e:h.get? b = some o) (hs:soft o = false):h'.get? b = some o:=k.b0 id e (.inl hs)
theorem au.gg (k:ag h h') (e:h.get? b = some o) (hs:bA o = false):h'.get? b = some o:=k.b0 id e (.inr hs)
theorem au.gone (k:ag h h') (e:h'.get? a = none):h.get? a = none:=by
 cases q:h.get? a with
 | none=>rfl
 | some o=>obtain ⟨o',e'⟩:=k.ex id q; rw [e] at e'; exact aq e'
theorem au.comp (k:au Y h h1) (l:au X h1 h') (f:∀ u,X u→Y u∨h.get? u = none):au Y h h':=⟨fun b o n e=>by
 refine af fun nG=>?_
 obtain ⟨o1,e1,s1⟩:=k.same b o n e
 obtain ⟨o2,e2,s2⟩:=l.same b o1 (fun x=>(f b x).elim n (eQ e · rfl)) e1
 refine nG ?_
 exact ⟨o2,e2,s1.trans s2⟩,fun P q m t=>l.tab P q m (k.tab P q m t)⟩
theorem au.trans (k:au X h h1) (l:au X h1 h'):au X h h':=k.comp l fun _=>.inl
theorem au.eR (lo:∀ u o,X u→h.get? u = some o→bA o = false) (s:∀ b o,¬X b→h.get? b = some o→h'.get? b = some o):au X h h':=by
 have nt:∀ {b o},h.get? b = some o→bA o = true→¬X b:=fun e t q=>by rw [lo _ _ q e] at t; exact aR t
 refine ⟨fun b o n e=>⟨o,s b o n e,.refl o⟩,fun P q m ⟨ps,e,t1,t2⟩=>⟨ps,s _ _ (nt e rfl) e,t1,fun pos cv hc=>?_⟩⟩
 refine af fun nG=>?_
 obtain ⟨c,co,vs,t,h1,h2,h3,h4,h5⟩:=t2 pos cv hc
 refine nG ?_
 exact ⟨c,co,vs,t,h1,s _ _ (nt h2 (by unfold bA; rw [h4,h3]; rfl)) h2,h3,h4,h5⟩
theorem au.refl (X:AS) (h:Heap):au X h h:=⟨fun b o _ e=>⟨o,e,.refl o⟩,fun _ _ _ t=>t⟩
theorem ag.refl (h:Heap):ag h h:=au.refl _ h
theorem ag.of (s:∀ b o,h.get? b = some o→h'.get? b = some o):ag h h':=.eR (fun _ _ q=>q.elim) fun b o _=>s b o
theorem ag.push (h:Heap) (o:Obj):ag h (h.push o):=.of fun _ _=>Heap.get?_push_of_some _
theorem au.x (k:ag h h'):au X h h':=(au.refl X h).comp k fun _ q=>q.elim
theorem au.more (k:au X h h') (s:∀ u,X u→Y u):au Y h h':=(au.refl Y h).comp k fun u q=>.inl (s u q)
theorem au.dD (k:ag h h1) (l:au X h1 h') (f:∀ u,X u→h.get? u = none):ag h h':=k.comp l fun u q=>.inr (f u q)
noncomputable def bz (h:Heap) (u:Addr):Prop:=∃ o,h.get? u = some o∧bA o = false
theorem bz.keep (l:bz h u) (k:ag h h'):bz h' u:=let ⟨o,e,t⟩:=l; ⟨o,k.gg e t,t⟩
theorem bz.tab (l:bz h u) (e:h.get? u = some o):bA o = false:=by obtain ⟨o',e',t⟩:=l; rw [e] at e'; cases e'; exact t
set_option tactic.hygienic true in
theorem dY (h:∀ vs,o.data≠.fields vs):bA o = false:=by
 unfold bA; split
 ·rename_i vs e; exact absurd e (h vs)
 ·rfl
theorem bz.ns {m:Str→Option Value} (n:h.Ns a m):bz h a:=let ⟨o,es,ep,e,d,_⟩:=n; ⟨o,e,dY fun vs q=>by rw [d] at q; cases q⟩
theorem bz.cell {v:Option Value} (i:h.IsCell a v):bz h a:=let ⟨o,e,d⟩:=i; ⟨o,e,dY fun vs q=>by rw [d] at q; cases q⟩
theorem au.ns {m:Str→Option Value} (k:au X h h') (x:¬X a) (n:h.Ns a m):h'.Ns a m:=by
 refine af fun nG=>?_
 obtain ⟨o,e,t⟩:=bz.ns n
 obtain ⟨_,es,ep,e',r⟩:=n
 refine nG ?_
 rw [e] at e'; cases e'
 exact ⟨o,es,ep,k.b0 x e (.inr t),r⟩
theorem au.cell {v:Option Value} (k:au X h h') (x:¬X a) (i:h.IsCell a v):h'.IsCell a v:=by
 obtain ⟨o,e,t⟩:=bz.cell i
 obtain ⟨_,e',d⟩:=i
 rw [e] at e'; cases e'
 exact ⟨o,k.b0 x e (.inr t),d⟩
theorem Ns.qe {m:Str→Option Value} {v:Option Value} (n:h.Ns a m) (i:h.IsCell b v):b≠a:=by
 rintro rfl
 obtain ⟨o,es,ep,ho,hd,_⟩:=n
 obtain ⟨o',ho',hd'⟩:=i
 rw [ho] at ho'; cases ho'; rw [hd] at hd'; cases hd'
theorem au.one (l:bz h u) (s:Heap.SameBut u h h'):au (· = u) h h':=.eR (fun v o q e=>l.tab (q▸e)) fun b o n e=>(s.2 b n).trans e
noncomputable def aD (U:AS) (h:Heap):GH:=fun a o=>h.get? a = some o∧soft o = false∧¬U a
theorem au.sub (k:au X h h') (f:∀ b o,h.get? b = some o→¬U b→¬X b∧¬U' b):Sub (aD U h) (aD U' h'):=fun b o ⟨e,s,n⟩=>let ⟨x,y⟩:=f b o e n; ⟨k.b0 x e (.inl s),s,y⟩
theorem au.aD (k:ag h h') (U:AS):Sub (aD U h) (aD U h'):=k.sub fun _ _ _ n=>⟨id,n⟩
theorem dZ (s:∀ u,U' u→U u):Sub (aD U h) (aD U' h):=(ag.refl h).sub fun _ _ _ n=>⟨id,fun q=>n (s _ q)⟩
theorem c7 (h:Heap):h.get? h.objs.size = none:=by
 cases e:h.get? h.objs.size with
 | none=>rfl
 | some o=>exact absurd (Heap.lt_size e) (Nat.lt_irrefl _)
theorem gT (o:Obj) (f:o.isFreed = false) (s:soft o = false) (low:∀ u,U u→∃ o,h.get? u = some o):aD U (h.push o) h.objs.size o:=⟨Heap.get?_push_size _ f,s,fun q=>by obtain ⟨_,e⟩:=low _ q; rw [c7] at e; exact aq e⟩
noncomputable def aP (U:AS) (h:Heap):Heap:=hideAll h (@List.filter Addr (fun a=>@decide (U a) (Classical.propDecidable _)) (List.range h.objs.size))
theorem a0:(aP U h).get? b = some o↔h.get? b = some o∧¬U b:=by
 have m:∀ {b},b∈@List.filter Addr (fun a=>@decide (U a) (Classical.propDecidable _)) (List.range h.objs.size)↔b < h.objs.size∧U b:=by
  intro b; rw [List.mem_filter,List.mem_range,@decide_eq_true_eq _ (Classical.propDecidable _)]
 constructor
 ·intro e
  refine ⟨of_hideAll _ e,fun q=>?_⟩
  have:=hideAll_none (h:=h) _ (m.mpr ⟨Heap.lt_size (of_hideAll _ e),q⟩)
  unfold aP at e; rw [this] at e; exact aq e
 ·exact fun ⟨e,n⟩=>hideAll_get _ e fun q=>n (m.mp q).2
theorem iJ (q:U b):(aP U h).get? b = none:=by
 cases e:(aP U h).get? b with
 | none=>rfl
 | some o=>exact absurd q (a0.mp e).2
theorem ag.dO:ag (aP U h) h:=.of fun _ _ e=>(a0.mp e).1
theorem au.hide (k:ag h1 h) (f:∀ u,U u→h1.get? u = none∧bz h u):ag h1 (aP U h):=k.dD (.eR (X:=U) (fun u o q e=>(f u q).2.tab e) fun b o n e=>a0.mpr ⟨e,n⟩) fun u q=>(f u q).1
end
noncomputable def strN {α:Type} (m:Nat) (k:Nat→α):α:=Nat.rec (motive:=fun _=>α) (k 0) (fun n _=>k n.succ) m
theorem mD {α:Type} (m:Nat) (k:Nat→α):strN m k = k m:=by cases m<;>rfl
noncomputable def iK {α:Type} (b:Bool) (x y:α):α:=Bool.rec (motive:=fun _=>α) y x b
noncomputable def mE (a m:Nat):Nat:=iK (Nat.ble a 255) (Nat.succ (Nat.add (Nat.mul 2 a) (Nat.mul 512 m))) (Nat.mul (Nat.pow 2 (Nat.succ a)) (Nat.succ (Nat.mul 2 m)))
noncomputable def dP (l:List Nat):Nat:=List.rec (motive:=fun _=>Nat) 0 (fun a _ m=>strN a fun a=>strN m fun m=>mE a m) l
theorem Ex (a:Nat) (l:List Nat):dP (a::l) = mE a (dP l):=by
 show (strN a fun a=>strN (dP l) fun m=>mE a m) = _
 rw [mD,mD]
theorem qf (a:Nat) (l:List Nat):(a≤255∧dP (a::l) = 2 * a + 512 * dP l + 1)∨(255 < a∧dP (a::l) = 2 ^ a * (2 * dP l + 1) * 2):=by
 rw [Ex]
 unfold mE
 cases q:Nat.ble a 255 with
 | true=>exact .inl ⟨Nat.le_of_ble_eq_true q,rfl⟩
 | false=>
  have h:255 < a:=Nat.lt_of_not_le fun h=>by rw [Nat.ble_eq_true_of_le h] at q; exact fj q
  refine .inr ⟨h,?_⟩
  show 2 ^ (a + 1) * (2 * dP l + 1) = _
  rw [Nat.pow_succ,Nat.mul_assoc,Nat.mul_comm 2,Nat.mul_assoc]
theorem wG:∀ {a b x y:Nat},2 ^ a * (2 * x + 1) = 2 ^ b * (2 * y + 1)→a = b∧x = y
 | 0,0,x,y,h=>⟨rfl,by lia⟩
 | 0,b + 1,x,y,h=>by rw [Nat.pow_succ,Nat.mul_comm (2 ^ b),Nat.mul_assoc] at h; lia
 | a + 1,0,x,y,h=>by rw [Nat.pow_succ,Nat.mul_comm (2 ^ a),Nat.mul_assoc] at h; lia
 | a + 1,b + 1,x,y,h=>by
  rw [Nat.pow_succ,Nat.pow_succ,Nat.mul_comm (2 ^ a),Nat.mul_comm (2 ^ b),Nat.mul_assoc,Nat.mul_assoc] at h
  obtain ⟨h1,h2⟩:=wG (Nat.eq_of_mul_eq_mul_left (by decide) h)
  exact ⟨congrArg _ h1,h2⟩
theorem wH (a:Nat) (l:List Nat):dP (a::l)≠0:=by
 rcases qf a l with ⟨_,e⟩ | ⟨_,e⟩<;>rw [e]
 ·lia
 ·exact Nat.mul_ne_zero (Nat.mul_ne_zero (Nat.ne_of_gt (Nat.pow_pos (by decide))) (by lia)) (by decide)
theorem qg:∀ {l m:List Nat},dP l = dP m→l = m
 | [],[],_=>rfl
 | [],b::m,h=>absurd h.symm (wH b m)
 | a::l,[],h=>absurd h (wH a l)
 | a::l,b::m,h=>by
  rcases qf a l with ⟨p,e⟩ | ⟨p,e⟩<;>rcases qf b m with ⟨q,f⟩ | ⟨q,f⟩<;>rw [e,f] at h
  ·rw [show a = b by lia,qg (l:=l) (m:=m) (by lia)]
  ·lia
  ·lia
  ·obtain ⟨rfl,h2⟩:=wG (Nat.eq_of_mul_eq_mul_right (by decide) h)
   rw [qg h2]
noncomputable def sEq (x y:Str):Bool:=strN (dP x.cps.toList) fun a=>strN (dP y.cps.toList) fun b=>Nat.beq a b
noncomputable def lk {α:Type} (x:Str) (l:List (Str×α)):Option α:=List.rec (motive:=fun _=>Option α) none (fun p _ ih=>iK (sEq x p.1) (some p.2) ih) l
noncomputable def del {α:Type} (x:Str) (l:List (Str×α)):List (Str×α):=List.rec (motive:=fun _=>List (Str×α)) [] (fun p _ ih=>iK (sEq x p.1) ih (p::ih)) l
theorem sEq_iff {x y:Str}:sEq x y = true↔x = y:=by
 unfold sEq
 rw [mD,mD,Nat.beq_eq]
 refine ⟨fun h=>?_,fun h=>by rw [h]⟩
 obtain ⟨⟨a⟩⟩:=x
 obtain ⟨⟨b⟩⟩:=y
 rw [show a = b from qg h]
theorem eA (x y:Str):sEq x y = (x == y):=by rw [Bool.eq_iff_iff,sEq_iff,beq_iff_eq]
theorem Ey (x:Str):sEq x x = true:=sEq_iff.mpr rfl
theorem wI {x y:Str} (h:x≠y):sEq x y = false:=by rw [eA]; exact beq_eq_false_iff_ne.mpr h
theorem c9 {α:Type} (x y:Str) (a:α) (l:List (Str×α)):lk x ((y,a)::l) = if x = y then some a else lk x l:=by
 show iK (sEq x y) (some a) (lk x l) = _
 by_cases q:x = y
 ·rw [if_pos q,sEq_iff.mpr q]; rfl
 ·rw [if_neg q,wI q]; rfl
theorem cQ {α:Type} (x:Str):∀ l:List (Str×α),lk x l = l.lookup x
 | []=>rfl
 | (y,a)::l=>by
  show iK (sEq x y) (some a) (lk x l) = _
  rw [List.lookup_cons,eA,cQ x l]; cases x == y<;>rfl
theorem mF {α:Type} (x y:Str):∀ l:List (Str×α),lk x (del y l) = if x = y then none else lk x l
 | []=>by split<;>rfl
 | (z,a)::l=>by
  rw [c9]
  show lk x (iK (sEq y z) (del y l) ((z,a)::del y l)) = _
  by_cases q:y = z
  ·rw [sEq_iff.mpr q]
   show lk x (del y l) = _
   rw [mF x y l,q]; by_cases r:x = z<;>simp [r]
  ·rw [wI q]
   show lk x ((z,a)::del y l) = _
   rw [c9,mF x y l]
   by_cases r:x = z
   ·rw [if_pos r,if_pos r,if_neg (r▸Ne.symm q)]
   ·rw [if_neg r,if_neg r]
theorem fu {α:Type} {x:Str} {a:α}:∀ {l:List (Str×α)},lk x l = some a→(x,a)∈l
 | (y,b)::l,e=>by
  rw [c9] at e
  split at e
  ·rename_i q; rw [q,Option.some.inj e]; exact .head _
  ·exact .tail _ (fu e)
end Mine
end
section
set_option backward.match.sparseCases false
open PySem PySem.W PyProof.Rows PySem.Calls
set_option maxRecDepth 100000
namespace Mine
noncomputable def iM (p:Addr×Obj):Bool:=match Nat.beq p.1 722 with
 | true=>false
 | false=>(match Nat.beq p.1 998 with
  | true=>false
  | false=>true)
noncomputable def iN:List (Addr×Obj)→List (Addr×Obj)
 | []=>[]
 | p::l=>(match iM p with
  | true=>p::iN l
  | false=>iN l)
noncomputable def aQ (P:Params):Frag:=iN (bq P)
theorem qh:∀ {l:List (Addr×Obj)} {a:Addr},l.lookup a = aO l a
 | [],_=>rfl
 | (b,o)::l,a=>by
  rw [iI,List.lookup_cons,qh]
  by_cases q:a = b
  ·subst q; rw [beq_self_eq_true,if_pos rfl]
  ·rw [beq_eq_false_iff_ne.mpr q,if_neg (Ne.symm q)]
theorem Ez (p:Addr×Obj):(iM p = true∧p.1≠722∧p.1≠998)∨(iM p = false∧(p.1 = 722∨p.1 = 998)):=by
 unfold iM
 cases h:Nat.beq p.1 722 with
 | true=>exact .inr ⟨rfl,.inl (Nat.eq_of_beq_eq_true h)⟩
 | false=>cases h':Nat.beq p.1 998 with
  | true=>exact .inr ⟨rfl,.inr (Nat.eq_of_beq_eq_true h')⟩
  | false=>exact .inl ⟨rfl,Nat.ne_of_beq_eq_false h,Nat.ne_of_beq_eq_false h'⟩
theorem mG:∀ {l:List (Addr×Obj)} {a:Addr} {o:Obj},(iN l).lookup a = some o→a≠722∧a≠998∧l.lookup a = some o
 | [],_,_,e=>by exact aq e
 | (b,x)::l,a,o,e=>by
  unfold iN at e
  rw [List.lookup_cons]
  rcases Ez (b,x) with ⟨q,n⟩ | ⟨q,n⟩<;>rw [q] at e<;>dsimp only at e n
  ·rw [List.lookup_cons] at e
   by_cases z:a = b
   ·subst z; rw [beq_self_eq_true] at e ⊢; exact ⟨n.1,n.2,e⟩
   ·rw [beq_eq_false_iff_ne.mpr z] at e ⊢; exact mG e
  ·refine af fun nG=>?_
   obtain ⟨h1,h2,h3⟩:=mG e
   refine nG ?_
   rw [beq_eq_false_iff_ne.mpr fun z=>n.elim (fun w=>h1 (z.trans w)) fun w=>h2 (z.trans w)]
   exact ⟨h1,h2,h3⟩
theorem EA (P:Params):aO (bq P) 722 = some ⟨.none,none,.fields #[],#[]⟩:=by kernel_rfl
theorem EB (P:Params):aO (bq P) 998 = some ⟨.none,none,.fields #[],#[]⟩:=by kernel_rfl
theorem wJ (P:Params):(aO (bq P) 1294).isSome = true:=by kernel_rfl
theorem EC (P:Params):(KH P).isNs cStatics = true:=by kernel_rfl
theorem ED (P:Params):(KH P).nsMap cStatics "sys.recursionlimit" = none:=by kernel_rfl
noncomputable abbrev GG (W:ab) (h:Heap):Prop:=ag W.h0 h
section
variable {W:ab} {h:Heap} (G:GG W h)
include G
theorem GG.at {a:Addr} {o:Obj} (e:aO (bq W.w.params) a = some o) (n:a≠722∧a≠998):h.get? a = some o:=by
 obtain ⟨o',e',s⟩:=G.same a o id (W.B.fact a o e)
 cases s with
 | refl=>exact e'
 | grow m=>
  rcases List.mem_cons.mp m with q | q
  ·exact absurd q n.1
  ·exact absurd (List.mem_singleton.mp q) n.2
theorem GG.K:(aQ W.w.params).In h:=fun a o e=>by
 obtain ⟨h1,h2,h3⟩:=mG e
 exact GG.at G (qh.symm.trans h3) ⟨h1,h2⟩
theorem GG.wK {a:Addr} (m:a∈[0,2,3,4]) (e:(KH W.w.params).isNs a = true):h.Ns a ((KH W.w.params).nsMap a):=by
 have q:=W.B.same m
 exact G.ns id (gf q▸.of_isNs ((ez q).trans e))
theorem GG.g:h.Ns mainGlobals ((KH W.w.params).nsMap mainGlobals):=GG.wK G (a:=3) (by simp) (mA _)
theorem GG.b:∃ mb,h.Ns builtinsNs mb∧∀ x:Str,x≠"__name__"→mb x = bootBuiltins x:=by
 have e0:=W.B.same (a:=0) (by simp)
 have hb:W.h0.isNs builtinsNs = true:=(ez e0).trans (wx _)
 refine ⟨_,G.ns id (.of_isNs hb),fun x hx=>Heap.of_bltView hb (Eq.trans ?_ (wy W.w.params)) x hx⟩
 unfold Heap.bltView; rw [wB (a:=builtinsNs) e0]
theorem GG.nolimit:h.NoLimit:=⟨_,GG.wK G (a:=2) (by simp) (EC _),ED _⟩
theorem GG.size:1295≤h.objs.size:=by
 obtain ⟨o,e⟩:∃ o,W.h0.get? 1294 = some o:=by
  obtain ⟨o,h1⟩:=Option.isSome_iff_exists.mp (wJ W.w.params); exact ⟨o,W.B.fact _ _ h1⟩
 obtain ⟨_,e'⟩:=G.ex id e
 exact Heap.lt_size e'
theorem GG.tabs {P:Addr} {q:Str} (m:(P,q)∈fq):mC h P q:=by
 refine G.tab P q m ?_
 have none:∀ P,W.h0.get? P = some ⟨.none,none,.fields #[],#[]⟩→mC W.h0 P q:=fun P e=>⟨#[],e,trivial,fun pos cv hc=>(by exact aq hc)⟩
 rcases List.mem_cons.mp m with z | z
 ·cases z; exact none _ (W.B.fact _ _ (EA _))
 ·cases List.mem_singleton.mp z; exact none _ (W.B.fact _ _ (EB _))
end
end Mine
end
section
set_option backward.match.sparseCases false
open PySem PySem.W PyProof.Rows PySem.Calls
namespace Mine
inductive Loc (W:ab) (env:Env) (V:Vw) (h:Heap) (x:Str) (a:AV):Prop
 | loc {m v} (k:env.kindOf x = some .local) (n:h.Ns env.locals m) (e:m x = some v) (r:Rel W V v a)
 | cel {c v} (k:env.kindOf x = some .cell∨env.kindOf x = some .free) (d:(x == ("__classdict__":Str)) = false) (e:env.cells.lookup x = some c) (i:h.IsCell c (some v)) (r:Rel W V v a)
noncomputable abbrev ao:=List (Str×AV)
noncomputable def jT (x:Str) (sc:Scope):Bool:=sc.names.any fun p=>sEq x p.1
noncomputable def da (sc:Scope):Option (Addr×Addr×Str×Str):=match jT ⟨#[99,104,101,99,107,95,109,101,109]⟩ sc with
 | true=>some (726,722,⟨#[109,101,109,111,114,121,95,115,104,97,112,101,115,46,60,108,111,99,97,108,115,62,46]⟩,⟨#[109,101,109,111,114,121,95,115,104,97,112,101,115,46,60,108,111,99,97,108,115,62,46,60,108,97,109,98,100,97,62]⟩)
 | false=>(match jT ⟨#[110,101,101,100,95,111,110,101]⟩ sc with
  | true=>some (1000,998,⟨#[101,110,99,111,100,105,110,103,115,46,60,108,111,99,97,108,115,62,46]⟩,⟨#[101,110,99,111,100,105,110,103,115,46,60,108,111,99,97,108,115,62,46,60,108,97,109,98,100,97,62]⟩)
  | false=>none)
structure eU (env:Env):Prop where
 kind:env.scope.kind = .function
 globals:env.globals = mainGlobals
 builtins:env.builtins = builtinsNs
 names:∀ x,env.scope.names.lookup x≠none→(x == ("__debug__":Str)) = false∧(x == ("__classdict__":Str)) = false
 lam:∀ c P q q',da env.scope = some (c,P,q,q')→env.code = .ref c∧env.qual = q
structure dc (d:Nat) (A:Around):Prop where
 handled:A.handled = none
 depth:A.depth + d≤900
 units:A.units + 3 * d≤9000
theorem dc.up {d d':Nat} {A:Around} (a:dc d' A) (h:d≤d'):dc d A:=⟨a.handled,by have:=a.depth; lia,by have:=a.units; lia⟩
set_option genCtorIdx true in
inductive PV where
 | lst (l:List AV)
 | fld (fs:List (Str×AV))
 | obj (C:Addr) (m:Nat)
 | dicS (l:List (Str×AV))
 | dicI (l:List (Int×AV))
 | dicT (l:List (List Int×AV))
 | froz (a:AV)
 | gone
noncomputable abbrev Own:=List PV
noncomputable def ow (l:Own):(n:Nat)→Option { pv:PV // l[n]? = some pv }:=List.rec (motive:=fun l=>(n:Nat)→Option { pv:PV // l[n]? = some pv }) (fun _=>none) (fun a l ih n=>Nat.rec (motive:=fun n=>Option { pv:PV // (a::l)[n]? = some pv }) (some ⟨a,rfl⟩) (fun k _=>ih k) n) l
noncomputable def EE (own:Own) (n:Nat):Option { l:List (Str×AV) // own[n]? = some (.fld l) }:=match ow own n with
 | some ⟨.fld l,hp⟩=>some ⟨l,hp⟩
 | _=>none
noncomputable def qi (own:Own) (n:Nat):Option { r:Addr×Nat×List (Str×AV) // own[n]? = some (.obj r.1 r.2.1)∧own[r.2.1]? = some (.fld r.2.2) }:=match ow own n with
 | some ⟨.obj C m,hp⟩=>(match EE own m with
  | some ⟨fs,hq⟩=>some ⟨(C,m,fs),hp,hq⟩
  | none=>none)
 | _=>none
noncomputable def live:PV→Bool
 | .froz _ | .gone=>false
 | _=>true
inductive qj {α:Type} (f:List α→Nat→Obj) (P:List α→Prop):Obj→Prop
 | mk {vs n} (r:P vs):qj f P (f vs n)
inductive wL (ad:List Addr) (C:Addr) (m:Nat):Obj→Prop
 | mk {d} (h:ad[m]? = some d):wL ad C m (instObj C d)
structure wN {κ:Type} [DecidableEq κ] {w:World} (k:PySem.KeyKind pg w κ) (P:List (κ×Value)→Prop) (a:Addr) (o:Obj):Prop where
 ns:(a == sysModules) = false
 ex:∃ kvs,o.IsDictOf k kvs∧P kvs
noncomputable abbrev tK (W:ab):HeapKind pg W.w (List Int):=tupleKind (intKind pg W.w)
inductive jU (V:Vw) (ks:List Int) (a:Addr):Prop
 | mk {vs n} (h:V.g a (jP vs n)) (r:bS ks vs)
inductive cy (W:ab) (V:Vw):List (List Int×Addr×Value)→List (List Int×AV)→Prop
 | nil:cy W V [] []
 | cons {ks a v b xs l} (k:jU V ks a) (h:Rel W V v b) (r:cy W V xs l):cy W V ((ks,a,v)::xs) ((ks,b)::l)
structure EF (W:ab) (V:Vw) (l:List (List Int×AV)) (o:Obj):Prop where
 x:o.ExactDict
 ex:∃ xs es ep,o.data = .dict es ep∧es.toList = xs.map (entryOfKey (tK W))∧(xs.map (·.1)).Nodup∧cy W V xs l
noncomputable def d3 (W:ab) (V:Vw) (a:Addr) (o:Obj):PV→Prop
 | .lst l=>qj bl (fun vs=>ah W V vs l) o
 | .fld fs=>qj dictOf (fun es=>bF W V es fs) o
 | .obj C m=>wL V.ad C m o
 | .dicS l=>wN (strKind pg W.w) (fun k=>bI W V k l) a o
 | .dicI l=>wN (intKind pg W.w) (fun k=>bO W V k l) a o
 | .dicT l=>EF W V l o
 | .froz _=>False
 | .gone=>False
section
variable {W:ab} {V V':Vw} {a:Addr} {o:Obj} {p:PV}
theorem cy.mono (s:V.Le V') {xs:List (List Int×Addr×Value)} {l:List (List Int×AV)} (r:cy W V xs l):cy W V' xs l:=by
 induction r with
 | nil=>exact .nil
 | cons k h _ ih=>obtain ⟨k,i⟩:=k; exact .cons ⟨s.g _ _ k,i⟩ (h.mono s) ih
theorem d3.mono (s:V.Le V') (r:d3 W V a o p):d3 W V' a o p:=by
 cases p with
 | lst=>obtain ⟨r⟩:=r; exact .mk (r.mono s)
 | fld=>obtain ⟨r⟩:=r; exact .mk (r.mono s)
 | obj=>obtain ⟨r⟩:=r; exact .mk (s.ad _ _ r)
 | dicS=>obtain ⟨z,kvs,d,r⟩:=r; exact ⟨z,kvs,d,r.mono s⟩
 | dicI=>obtain ⟨z,kvs,d,r⟩:=r; exact ⟨z,kvs,d,r.mono s⟩
 | dicT=>obtain ⟨x,xs,es,ep,d,e,n,r⟩:=r; exact ⟨x,xs,es,ep,d,e,n,r.mono s⟩
 | froz | gone=>exact r
theorem qk {κ:Type} [DecidableEq κ] {w:World} {k:PySem.KeyKind pg w κ} {kvs:List (κ×Value)} (d:o.IsDictOf k kvs):soft o = false∧bA o = false:=by
 refine af fun nG=>?_
 obtain ⟨es,e,⟨hc,_⟩,h,_⟩:=d
 refine nG ?_
 exact ⟨by unfold soft; rw [hc]; rfl,dY fun vs q=>by rw [h] at q; cases q⟩
theorem d3.soft (r:d3 W V a o p):soft o = false∧bA o = false:=by
 cases p with
 | lst=>obtain ⟨r⟩:=r; exact ⟨rfl,rfl⟩
 | fld=>obtain ⟨r⟩:=r; exact ⟨rfl,rfl⟩
 | obj=>obtain ⟨r⟩:=r; exact ⟨rfl,rfl⟩
 | dicS=>obtain ⟨z,kvs,d,r⟩:=r; exact qk d
 | dicI=>obtain ⟨z,kvs,d,r⟩:=r; exact qk d
 | dicT=>
  obtain ⟨⟨hc,_⟩,xs,es,ep,d,_⟩:=r
  exact ⟨by unfold Mine.soft; rw [hc]; rfl,dY fun vs q=>by rw [d] at q; cases q⟩
 | froz | gone=>cases r
end
structure At (own:Own) (ad:List Addr) (n:Nat) (pv:PV) (a:Addr):Prop where
 own:own[n]? = some pv
 live:live pv = true
 ad:ad[n]? = some a
noncomputable def ak (own:Own) (ad:List Addr):AS:=fun u=>∃ n pv,At own ad n pv u
structure Pt where
 own:Own
 ad:List Addr
 h:Heap
noncomputable def vw (U:AS) (p:Pt):Vw:=⟨aD (fun u=>U u∨ak p.own p.ad u) p.h,p.ad⟩
structure aN (W:ab) (U:AS) (p:Pt):Prop where
 len:p.ad.length = p.own.length
 obj:∀ n pv a,At p.own p.ad n pv a→¬U a∧∃ o,p.h.get? a = some o∧d3 W (vw U p) a o pv
 fz:∀ (n:Nat) (t:AV),p.own[n]? = some (PV.froz t)→∃ a,p.ad[n]? = some a∧Rel W (vw U p) (.ref a) t
 inj:∀ n m pv qv a,At p.own p.ad n pv a→At p.own p.ad m qv a→n = m
 top:∀ u,ak p.own p.ad u→W.h0.get? u = none
noncomputable def Pre (ad ad':List Addr):Prop:=∀ (n:Nat) (a:Addr),ad[n]? = some a→ad'[n]? = some a
structure After (W:ab) (U:AS) (p q:Pt):Prop where
 ad:Pre p.ad q.ad
 keep:ag (aP (ak p.own p.ad) p.h) q.h
 new:∀ u,ak q.own q.ad u→ak p.own p.ad u∨p.h.get? u = none
 owns:aN W U q
section
variable {W:ab} {U:AS} {p q r:Pt} {u:Addr} {o:Obj}
theorem aN.low (O:aN W U p) (h:ak p.own p.ad u):bz p.h u:=let ⟨_,_,a⟩:=h; let ⟨_,o,e,r⟩:=O.obj _ _ _ a; ⟨o,e,r.soft.2⟩
theorem aN.nU (O:aN W U p) (h:ak p.own p.ad u):¬U u:=let ⟨_,_,a⟩:=h; (O.obj _ _ _ a).1
theorem fy {P:AS} {h:Heap} (e:P u∨h.get? u = none):(aP P h).get? u = none:=by
 cases z:(aP P h).get? u with
 | none=>rfl
 | some o=>obtain ⟨z,n⟩:=a0.mp z; rcases e with e | e; exact absurd e n; rw [e] at z; exact aq z
theorem ag.fB {P:AS} {h h1:Heap} (k:ag h1 h) (f:∀ u,P u→h1.get? u = none∧bz h u):ag h1 (aP P h):=au.hide k f
theorem After.hk (k:After W U p q):ag (aP (ak p.own p.ad) p.h) (aP (ak q.own q.ad) q.h):=k.keep.fB fun u z=>⟨fy (k.new u z),k.owns.low z⟩
theorem After.out (k:After W U p q) (n:¬ak p.own p.ad u) (e:p.h.get? u = some o):¬ak q.own q.ad u:=fun z=>(k.new u z).elim n fun z=>by rw [e] at z; exact c5 z
theorem After.back (k:After W U p q) (z:q.h.get? u = none):ak p.own p.ad u∨p.h.get? u = none:=by
 by_cases y:ak p.own p.ad u
 ·exact .inl y
 ·cases e:p.h.get? u with
  | none=>exact .inr rfl
  | some o=>obtain ⟨_,e'⟩:=k.keep.ex id (a0.mpr ⟨e,y⟩); rw [z] at e'; exact aq e'
theorem After.trans (k:After W U p q) (l:After W U q r):After W U p r:=⟨fun n a e=>l.ad n a (k.ad n a e),k.hk.trans l.keep,fun u z=>(l.new u z).elim (k.new u) (k.back),l.owns⟩
theorem After.view (k:After W U p q):(vw U p).Le (vw U q):=⟨fun b o ⟨e,s,n⟩=>⟨k.keep.get (a0.mpr ⟨e,fun z=>n (.inr z)⟩) s,s,fun z=>z.elim (fun z=>n (.inl z)) (k.out (fun z=>n (.inr z)) e)⟩,k.ad⟩
theorem aN.keep (O:aN W U p) {h':Heap} (k:ag p.h h'):aN W U ⟨p.own,p.ad,h'⟩:=
 have l:(vw U p).Le (vw U ⟨p.own,p.ad,h'⟩):=⟨k.aD _,fun _ _ e=>e⟩
 ⟨O.len,fun n pv a z=>let ⟨n,o,e,r⟩:=O.obj n pv a z; ⟨n,o,k.gg e r.soft.2,r.mono l⟩,fun n t e=>let ⟨a,e,r⟩:=O.fz n t e; ⟨a,e,r.mono l⟩,O.inj,O.top⟩
theorem aN.grow (O:aN W U p) {h':Heap} (k:ag p.h h'):After W U p ⟨p.own,p.ad,h'⟩:=⟨fun _ _ e=>e,ag.dO.trans k,fun _=>.inl,O.keep k⟩
theorem aN.refl (O:aN W U p):After W U p p:=O.grow (.refl _)
theorem fC {ad:List Addr} {a:Addr}:Pre ad (ad ++ [a]):=fun n b e=>by
 have:=(List.getElem?_eq_some_iff.mp e).1
 rw [List.getElem?_append_left this]; exact e
theorem jV {α:Type} {l:List α} {x y:α} {n:Nat} (e:(l ++ [x])[n]? = some y):(n = l.length∧y = x)∨l[n]? = some y:=by
 rw [List.getElem?_append] at e
 split at e
 ·exact .inr e
 ·cases z:n - l.length with
  | zero=>rw [z] at e; exact .inl ⟨by lia,(Option.some.inj e).symm⟩
  | succ=>rw [z] at e; exact aq e
theorem iO {α:Type} {l:List α} {x:α}:(l ++ [x])[l.length]? = some x:=by rw [List.getElem?_append_right (Nat.le_refl _),Nat.sub_self]; rfl
theorem At.push {own:Own} {ad:List Addr} {pv x:PV} {a b:Addr} {n:Nat} (e:ad.length = own.length) (z:At (own ++ [x]) (ad ++ [b]) n pv a):(n = own.length∧pv = x∧a = b)∨At own ad n pv a:=by
 obtain ⟨h1,h2,h3⟩:=z
 rcases jV h1 with ⟨rfl,rfl⟩ | h1
 ·rcases jV h3 with ⟨_,rfl⟩ | h3
  ·exact .inl ⟨rfl,rfl,rfl⟩
  ·have:=(List.getElem?_eq_some_iff.mp h3).1; lia
 ·rcases jV h3 with ⟨z,_⟩ | h3
  ·have:=(List.getElem?_eq_some_iff.mp h1).1; lia
  ·exact .inr ⟨h1,h2,h3⟩
theorem At.old {own:Own} {ad:List Addr} {pv x:PV} {a b:Addr} {n:Nat} (z:At own ad n pv a):At (own ++ [x]) (ad ++ [b]) n pv a:=⟨by
 have:=(List.getElem?_eq_some_iff.mp z.own).1
 rw [List.getElem?_append_left this]; exact z.own,z.live,fC _ _ z.ad⟩
theorem aN.alloc (O:aN W U p) (G:GG W p.h) (low:∀ u,U u→∃ o,p.h.get? u = some o) {h':Heap} {x:Addr} {ob:Obj} {pv:PV} (k:ag p.h h') (hz:p.h.get? x = none) (ho:h'.get? x = some ob) (hl:live pv = true)
  (hr:∀ V,(vw U p).Le V→V.ad = p.ad ++ [x]→d3 W V x ob pv):After W U p ⟨p.own ++ [pv],p.ad ++ [x],h'⟩:=by
 have pr:∀ u,ak (p.own ++ [pv]) (p.ad ++ [x]) u→u = x∨ak p.own p.ad u:=fun u ⟨n,qv,z⟩=>(z.push O.len).elim (fun z=>.inl z.2.2) fun z=>.inr ⟨n,qv,z⟩
 have l:(vw U p).Le (vw U ⟨p.own ++ [pv],p.ad ++ [x],h'⟩):=⟨k.sub fun b o e n=>⟨id,fun z=>z.elim (fun z=>n (.inl z)) fun z=>(pr b z).elim (eQ e hz) fun z=>n (.inr z)⟩,fC⟩
 have ap:∀ n qv,¬At p.own p.ad n qv x:=fun n qv z=>by obtain ⟨_,o,e,_⟩:=O.obj _ _ _ z; rw [hz] at e; exact aq e
 refine ⟨fC,ag.dO.trans k,fun u z=>(pr u z).symm.imp id fun z=>(by rw [z]; exact hz),⟨by simp [O.len],fun n qv a z=>?_,fun n t e=>?_,fun n m qv rv a z y=>?_,fun u z=>(pr u z).elim (fun z=>z▸G.gone hz) (O.top u)⟩⟩
 ·rcases z.push O.len with ⟨_,rfl,rfl⟩ | z
  ·exact ⟨fun z=>(by obtain ⟨_,e⟩:=low _ z; rw [hz] at e; exact aq e),ob,ho,hr _ l rfl⟩
  ·obtain ⟨n,o,e,r⟩:=O.obj _ _ _ z; exact ⟨n,o,k.gg e r.soft.2,r.mono l⟩
 ·rcases jV e with ⟨_,e⟩ | e
  ·rw [← e] at hl; exact aR hl
  ·obtain ⟨a,e,r⟩:=O.fz n t e; exact ⟨a,fC _ _ e,r.mono l⟩
 ·rcases z.push O.len with ⟨z,_,x⟩ | z<;>rcases y.push O.len with ⟨y,_,w⟩ | y
  ·rw [z,y]
  ·exact absurd (x▸y) (ap _ _)
  ·exact absurd (w▸z) (ap _ _)
  ·exact O.inj _ _ _ _ _ z y
theorem qm {α:Type} {l:List α} {x y:α} {n m:Nat} (e:(l.set n x)[m]? = some y):(m = n∧y = x)∨(m≠n∧l[m]? = some y):=by
 rw [List.getElem?_set] at e
 split at e
 ·rename_i z
  split at e
  ·exact .inl ⟨z.symm,(Option.some.inj e).symm⟩
  ·exact aq e
 ·rename_i z; exact .inr ⟨fun w=>z w.symm,e⟩
theorem aN.put (O:aN W U p) {n:Nat} {pv pv':PV} {a:Addr} (z:At p.own p.ad n pv a) {h':Heap} (s:Heap.SameBut a p.h h') (hl:live pv' = false→h' = p.h)
  (hr:∀ V,(vw U p).Le V→V.ad = p.ad→(live pv' = false→V.g = aD (fun u=>U u∨ak (p.own.set n pv') p.ad u) p.h∧¬(U a∨ak (p.own.set n pv') p.ad a))→(live pv' = true→∃ ob',h'.get? a = some ob'∧d3 W V a ob' pv')∧∀ t,pv' = .froz t→Rel W V (.ref a) t):After W U p ⟨p.own.set n pv',p.ad,h'⟩:=by
 have at':∀ {m qv b},At (p.own.set n pv') p.ad m qv b→(m = n∧qv = pv'∧b = a)∨(m≠n∧At p.own p.ad m qv b):=fun {m qv b} y=>by
  rcases qm y.own with ⟨x,e⟩ | ⟨x,e⟩
  ·exact .inl ⟨x,e,by have:=y.ad; rw [x,z.ad] at this; exact (Option.some.inj this).symm⟩
  ·exact .inr ⟨x,e,y.live,y.ad⟩
 have pr:∀ u,ak (p.own.set n pv') p.ad u→ak p.own p.ad u:=fun u ⟨m,qv,y⟩=>(at' y).elim (fun y=>y.2.2▸⟨n,pv,z⟩) fun y=>⟨m,qv,y.2⟩
 obtain ⟨nu,o,e,rl⟩:=O.obj _ _ _ z
 have kx:au (· = a) p.h h':=.one ⟨o,e,rl.soft.2⟩ s
 have l:(vw U p).Le (vw U ⟨p.own.set n pv',p.ad,h'⟩):=⟨kx.sub fun b o e q=>⟨fun w=>q (.inr (w▸⟨n,pv,z⟩)),fun w=>w.elim (fun w=>q (.inl w)) fun w=>q (.inr (pr b w))⟩,fun _ _ e=>e⟩
 have na:live pv' = false→¬ak (p.own.set n pv') p.ad a:=fun hl ⟨m,qv,y⟩=>(at' y).elim (fun w=>by have:=y.live; rw [w.2.1,hl] at this; exact aR this) fun w=>w.1 (O.inj _ _ _ _ _ w.2 z)
 have H:=hr _ l rfl fun q=>⟨by rw [hl q]; rfl,fun w=>w.elim nu (na q)⟩
 refine ⟨fun _ _ e=>e,au.comp ag.dO kx fun u q=>.inr (fy (.inl (q▸⟨n,pv,z⟩))),fun u w=>.inl (pr u w),⟨by simp [O.len],fun m qv b y=>?_,fun m t e'=>?_,fun m k qv rv b y x=>?_,fun u w=>O.top u (pr u w)⟩⟩
 ·rcases at' y with ⟨_,rfl,rfl⟩ | ⟨ne,y⟩
  ·exact ⟨nu,H.1 (by cases q:live qv; have:=(by assumption:At _ _ _ qv _).live; rw [q] at this; cases this; rfl)⟩
  ·obtain ⟨nb,ob,eb,rb⟩:=O.obj _ _ _ y
   exact ⟨nb,ob,kx.b0 (fun w=>ne (O.inj _ _ _ _ _ y (w▸z))) eb (.inr rb.soft.2),rb.mono l⟩
 ·rcases qm e' with ⟨rfl,w⟩ | ⟨_,e'⟩
  ·exact ⟨a,z.ad,H.2 t w.symm⟩
  ·obtain ⟨b,eb,rb⟩:=O.fz m t e'; exact ⟨b,eb,rb.mono l⟩
 ·rcases at' y with ⟨y1,_,y⟩ | ⟨y1,y⟩<;>rcases at' x with ⟨x1,_,x⟩ | ⟨x1,x⟩
  ·rw [y1,x1]
  ·exact absurd (O.inj _ _ _ _ _ x (y▸z)) x1
  ·exact absurd (O.inj _ _ _ _ _ y (x▸z)) y1
  ·exact O.inj _ _ _ _ _ y x
end
noncomputable abbrev mv (s:Shared) (h:Heap) (tk:Nat):Shared:={ s with heap:=h,toks:=tk }
noncomputable abbrev aw (W:ab) (A:Around) {α:Type} (t:Sem α) (Q:α→Shared→Prop) (E:Value→Shared→Prop) (s:Shared):Prop:=wpAny (model pg W.w) A t Q E s
structure Base (W:ab) (U:AS) (h:Heap):Prop where
 G:GG W h
 low:∀ u,U u→∃ o,h.get? u = some o
noncomputable abbrev gU (U:AS) (ad:List Addr) (s:Shared) {α:Type} (P:Vw→α→Prop) (Q:α→Shared→Prop):Prop:=∀ v h' tk,ag s.heap h'→P ⟨aD U h',ad⟩ v→Q v (mv s h' tk)
noncomputable abbrev Got (W:ab) (U:AS) (ad:List Addr) (s:Shared) (a:AV) (Q:Value→Shared→Prop):Prop:=gU U ad s (fun V v=>Rel W V v a) Q
noncomputable def Fin (W:ab) (U:AS) (p:Pt) (s:Shared) (own':Own) {α:Type} (P:Vw→α→Prop) (Q:α→Shared→Prop):Prop:=∀ v h' tk ad',After W U p ⟨own',ad',h'⟩→P (vw U ⟨own',ad',h'⟩) v→Q v (mv s h' tk)
structure Fs where
 sc:Scope
 fn:Bool
noncomputable def d7 (sc:Scope):Bool:=jT ⟨#[115,99,114,105,112,116]⟩ sc
structure Cells (env:Env) (B:AS):Prop where
 own:∀ x c,env.kindOf x = some .cell→env.cells.lookup x = some c→B c
 inj:∀ x y c,env.cells.lookup x = some c→env.cells.lookup y = some c→x = y
 has:∀ x,env.kindOf x = some .cell→∃ c,env.cells.lookup x = some c
structure ai (W:ab) (d:Nat) (sc:Fs) where
 A:Around
 env:Env
 h₀:Heap
 X:AS
 B:AS
 ad:List Addr
 a:dc d A
 K:eU env
 es:env.scope = sc.sc
 G:GG W h₀
 out:∀ u,X u→∃ o,h₀.get? u = some o
 base:B env.locals
 cls:∀ x c,env.cells.lookup x = some c→B c∨∃ o,h₀.get? c = some o
 cel:sc.fn = true→Cells env B
 top:sc.fn = true→d7 sc.sc = true→A.frames = some [env]∧env.frame = some env.locals
noncomputable def ai.U {W:ab} {d:Nat} {sc:Fs} (c:ai W d sc):AS:=fun u=>c.X u∨c.B u
section
variable {W:ab} {d:Nat} {sc:Fs} {c:ai W d sc} {σ:ao} {p q:Pt} {U U':AS} {h':Heap} {α:Type} {P:Vw→α→Prop} {Q:α→Shared→Prop} {s:Shared} {own own':Own} {ad:List Addr}
theorem Base.keep {h:Heap} (B:Base W U h) (k:ag h h'):Base W U h':=⟨B.G.trans k,fun u hu=>let ⟨o,e⟩:=B.low u hu; k.ex id e⟩
theorem gU.then {tk:Nat} (G:gU U ad s P Q) (k:ag s.heap h'):gU U ad (mv s h' tk) P Q:=fun v h2 t2 k2 r=>G v h2 t2 (k.trans k2) r
theorem gU.here (G:gU U ad s P Q) {v:α} (tk:Nat) (r:P ⟨aD U s.heap,ad⟩ v):Q v (mv s s.heap tk):=G v s.heap tk (.refl _) r
theorem Fin.then {tk:Nat} (F:Fin W U p s own' P Q) (k:After W U p q):Fin W U q (mv s q.h tk) own' P Q:=fun v h2 t2 a2 k2 r=>F v h2 t2 a2 (k.trans k2) r
theorem Fin.got (F:Fin W U p s p.own P Q) (O:aN W U p) (e:p.h = s.heap):gU (fun u=>U u∨ak p.own p.ad u) p.ad s P Q:=fun v h' tk k r=>F v h' tk p.ad (O.grow (e▸k)) r
theorem Fin.here (F:Fin W U p s p.own P Q) (O:aN W U p) {v:α} {tk:Nat} (r:P (vw U p) v):Q v (mv s p.h tk):=F v p.h tk p.ad O.refl r
theorem Loc.mv {env:Env} {V V':Vw} {h:Heap} {x:Str} {a:AV} (l:Loc W env V h x a) (n:∀ m,h.Ns env.locals m→h'.Ns env.locals m) (i:∀ c v,env.cells.lookup x = some c→h.IsCell c v→h'.IsCell c v) (s:V.Le V'):Loc W env V' h' x a:=by
 cases l with
 | loc k n' e r=>exact .loc k (n _ n') e (r.mono s)
 | cel k d e j r=>exact .cel k d e (i _ _ e j) (r.mono s)
structure SV (c:ai W d sc) (σ:ao) (p:Pt):Prop where
 pre:Pre c.ad p.ad
 keep:ag c.h₀ p.h
 owns:aN W c.U p
 new:∀ u,ak p.own p.ad u→c.h₀.get? u = none
 low:∀ u,c.B u→c.h₀.get? u = none∧bz p.h u
 ns:∃ m,p.h.Ns c.env.locals m
 cls:∀ x a,c.env.cells.lookup x = some a→∃ v,p.h.IsCell a v
 loc:∀ x a,lk x σ = some a→Loc W c.env (vw c.U p) p.h x a
noncomputable def iP (c:ai W d sc) (σ:ao) (own:Own) (t:Sem α) (P:Vw→α→Prop) (own':Own):Prop:=∀ (s:Shared) ad (Q:α→Shared→Prop) (E:Value→Shared→Prop),SV c σ ⟨own,ad,s.heap⟩→Fin W c.U ⟨own,ad,s.heap⟩ s own' P Q→aw W c.A t Q E s
noncomputable abbrev aj (c:ai W d sc) (σ:ao) (own:Own) (t:Sem Value) (a:AV) (own':Own):Prop:=iP c σ own t (fun V v=>Rel W V v a) own'
noncomputable abbrev bT (c:ai W d sc) (σ:ao) (own:Own) (t:Sem (List Value)) (as:List AV) (own':Own):Prop:=iP c σ own t (fun V v=>ah W V v as) own'
noncomputable abbrev bo (c:ai W d sc) (σ:ao) (own:Own) (t:Sem Bool) (b:Bool) (own':Own):Prop:=iP c σ own t (fun _ v=>v = b) own'
theorem SV.gh (S:SV c σ p) {u:Addr} (h:c.U u):∃ o,p.h.get? u = some o:=h.elim (fun h=>let ⟨_,e⟩:=c.out u h; S.keep.ex id e) fun h=>let ⟨o,e,_⟩:=(S.low u h).2; ⟨o,e⟩
theorem SV.Gp (S:SV c σ p):GG W p.h:=c.G.trans S.keep
theorem SV.B (S:SV c σ p):Base W (fun u=>c.U u∨ak p.own p.ad u) p.h:=⟨S.Gp,fun u h=>h.elim S.gh fun h=>let ⟨o,e,_⟩:=S.owns.low h; ⟨o,e⟩⟩
theorem SV.nB (S:SV c σ p) {u:Addr} (h:c.B u):¬ak p.own p.ad u:=fun z=>S.owns.nU z (.inr h)
theorem SV.nC (S:SV c σ p) {x:Str} {a:Addr} (h:c.env.cells.lookup x = some a):¬ak p.own p.ad a:=fun z=>(c.cls x a h).elim (fun h=>S.nB h z) fun ⟨_,e⟩=>by rw [S.new _ z] at e; exact aq e
theorem jW {P:AS} {h:Heap} {u:Addr} {m:Str→Option Value} (n:¬P u) (e:h.Ns u m):(aP P h).Ns u m:=let ⟨o,es,ep,e,r⟩:=e; ⟨o,es,ep,a0.mpr ⟨e,n⟩,r⟩
theorem mH {P:AS} {h:Heap} {u:Addr} {v:Option Value} (n:¬P u) (e:h.IsCell u v):(aP P h).IsCell u v:=let ⟨o,e,r⟩:=e; ⟨o,a0.mpr ⟨e,n⟩,r⟩
theorem SV.after (S:SV c σ p) (k:After W c.U p q):SV c σ q:=
 have ns:∀ {m},p.h.Ns c.env.locals m→q.h.Ns c.env.locals m:=fun n=>k.keep.ns id (jW (S.nB c.base) n)
 have cl:∀ {x a v},c.env.cells.lookup x = some a→p.h.IsCell a v→q.h.IsCell a v:=fun e i=>k.keep.cell id (mH (S.nC e) i)
 ⟨fun n a e=>k.ad n a (S.pre n a e),(S.keep.fB fun u z=>⟨S.new u z,S.owns.low z⟩).trans k.keep,k.owns,fun u z=>(k.new u z).elim (S.new u) fun z=>S.keep.gone z,
  fun u z=>⟨(S.low u z).1,let ⟨o,e,t⟩:=(S.low u z).2; bz.keep ⟨o,a0.mpr ⟨e,S.nB z⟩,t⟩ k.keep⟩,let ⟨m,n⟩:=S.ns; ⟨m,ns n⟩,fun x a e=>let ⟨v,i⟩:=S.cls x a e; ⟨v,cl e i⟩,fun x a e=>(S.loc x a e).mv (fun _=>ns) (fun _ _ e=>cl e) k.view⟩
theorem SV.sub (S:SV c σ p) {σ':ao} (q:∀ x a,lk x σ' = some a→lk x σ = some a):SV c σ' p:={ S with loc:=fun x a e=>S.loc x a (q x a e) }
theorem aN.less (O:aN W U' p) (s:∀ u,U u→U' u):aN W U p∧(vw U' p).Le (vw U p):=
 have l:(vw U' p).Le (vw U p):=⟨dZ fun u z=>z.imp (s u) id,fun _ _ e=>e⟩
 ⟨⟨O.len,fun n pv a z=>let ⟨n,o,e,r⟩:=O.obj n pv a z; ⟨fun z=>n (s _ z),o,e,r.mono l⟩,fun n t e=>let ⟨a,e,r⟩:=O.fz n t e; ⟨a,e,r.mono l⟩,O.inj,O.top⟩,l⟩
theorem SV.leave (S:SV c σ q) (hh:c.h₀ = aP (ak p.own p.ad) p.h) (ha:Pre p.ad c.ad):After W c.X p q:=
 ⟨fun n a e=>S.pre n a (ha n a e),hh▸S.keep,fun u z=>(by
  have e:=S.new u z
  by_cases y:ak p.own p.ad u
  ·exact .inl y
  ·cases w:p.h.get? u with
   | none=>exact .inr rfl
   | some o=>rw [hh,a0.mpr ⟨w,y⟩] at e; exact c5 e),(S.owns.less fun _=>.inl).1⟩
theorem SV.EG (S:SV c σ q):(vw c.U q).Le (vw c.X q):=(S.owns.less fun _=>.inl).2
theorem aN.mI {u:Addr} (O:aN W U p) (hu:U u) (kx:au (· = u) p.h h'):aN W U ⟨p.own,p.ad,h'⟩∧(vw U p).Le (vw U ⟨p.own,p.ad,h'⟩):=
 have l:(vw U p).Le (vw U ⟨p.own,p.ad,h'⟩):=⟨kx.sub fun b o e n=>⟨fun q=>n (.inl (q▸hu)),n⟩,fun _ _ e=>e⟩
 ⟨⟨O.len,fun n pv a z=>let ⟨n,o,e,r⟩:=O.obj n pv a z; ⟨n,o,kx.b0 (fun q=>n (q▸hu)) e (.inr r.soft.2),r.mono l⟩,fun n t e=>let ⟨a,e,r⟩:=O.fz n t e; ⟨a,e,r.mono l⟩,O.inj,O.top⟩,l⟩
theorem SV.change {u:Addr} (S:SV c σ p) (hu:c.B u) (lo:bz h' u) (s:Heap.SameBut u p.h h') (cl:∀ x,c.env.cells.lookup x = some u→∃ v,h'.IsCell u v) (ns:∃ m,h'.Ns c.env.locals m) {σ':ao} (loc:∀ x a,lk x σ' = some a→(vw c.U p).Le (vw c.U ⟨p.own,p.ad,h'⟩)→Loc W c.env (vw c.U ⟨p.own,p.ad,h'⟩) h' x a):SV c σ' ⟨p.own,p.ad,h'⟩:=
 have kx:au (· = u) p.h h':=.one (S.low u hu).2 s
 have O:=S.owns.mI (.inr hu) kx
 ⟨S.pre,S.keep.dD kx fun v q=>q▸(S.low u hu).1,O.1,S.new,fun v q=>⟨(S.low v q).1,by
  by_cases z:v = u
  ·exact z▸lo
  ·obtain ⟨ob,e,t⟩:=(S.low v q).2; exact ⟨ob,(s.2 v z).trans e,t⟩⟩,ns,fun x a e=>by
  by_cases z:a = u
  ·subst z; exact cl x e
  ·obtain ⟨v,i⟩:=S.cls x a e; exact ⟨v,kx.cell z i⟩,fun x a e=>loc x a e O.2⟩
theorem SV.store (S:SV c σ p) {x:Str} {v:Value} {a:AV} {m:Str→Option Value} (hk:c.env.kindOf x = some .local) (r:Rel W (vw c.U p) v a) (hn:p.h.Ns c.env.locals m) (hn':h'.Ns c.env.locals (fun y=>if y = x then some v else m y)) (s:Heap.SameBut c.env.locals p.h h'):SV c ((x,a)::del x σ) ⟨p.own,p.ad,h'⟩:=by
 refine S.change c.base (.ns hn') s (fun y e=>?_) ⟨_,hn'⟩ fun y b e ss=>?_
 ·obtain ⟨_,i⟩:=S.cls y _ e; exact absurd rfl (Ns.qe hn i)
 ·rw [c9] at e
  split at e
  ·rename_i q; obtain rfl:=Option.some.inj e; exact .loc (q▸hk) hn' (if_pos q) (r.mono ss)
  ·rename_i q
   rw [mF,if_neg q] at e
   cases S.loc y b e with
   | loc k n e r=>exact .loc k hn' (by rw [if_neg q,hn.eq_nsMap,← n.eq_nsMap]; exact e) (r.mono ss)
   | cel k d e i r=>exact .cel k d e (au.cell (au.one (bz.ns hn) s) (Ns.qe hn i) i) (r.mono ss)
theorem SV.EH (S:SV c σ p) (an:sc.fn = true) {x:Str} {u:Addr} {v:Value} {a:AV} (hk:c.env.kindOf x = some .cell) (hz:(x == ("__classdict__":Str)) = false) (hc:c.env.cells.lookup x = some u) (r:Rel W (vw c.U p) v a) (hi:h'.IsCell u (some v)) (s:Heap.SameBut u p.h h'):SV c ((x,a)::del x σ) ⟨p.own,p.ad,h'⟩:=by
 have hB:=(c.cel an).own x u hk hc
 have kx:au (· = u) p.h h':=.one (S.low u hB).2 s
 obtain ⟨_,i₀⟩:=S.cls x u hc
 obtain ⟨m,hn⟩:=S.ns
 have nL:c.env.locals≠u:=(Ns.qe hn i₀).symm
 refine S.change hB (.cell hi) s (fun _ _=>⟨_,hi⟩) ⟨m,kx.ns nL hn⟩ fun y b e ss=>?_
 rw [c9] at e
 split at e
 ·rename_i q; obtain rfl:=Option.some.inj e; subst q; exact .cel (.inl hk) hz hc hi (r.mono ss)
 ·rename_i q
  rw [mF,if_neg q] at e
  exact (S.loc y b e).mv (fun _=>kx.ns nL) (fun c' _ e=>kx.cell fun z=>q ((c.cel an).inj y x u (z▸e) hc)) ss
end
inductive Out {α:Type} (P:α→Prop) where
 | ok (a:α) (h:P a)
 | ask (B:SB)
 | no (n:Nat)
section
variable {α β:Type} {P:α→Prop} {Q:β→Prop}
noncomputable def bd (x:Out P) (f:(a:α)→P a→Out Q):Out Q:=Out.rec (motive:=fun _=>Out Q) (fun a h=>f a h) (fun B=>.ask B) (fun n=>.no n) x
noncomputable def ar (b:Bool) (n:Nat) (k:b = true→Out P):Out P:=Bool.rec (motive:=fun c=>(c = true→Out P)→Out P) (fun _=>.no n) (fun k=>k rfl) b k
noncomputable def aF (b:Bool) (k:b = true→β) (z:b = false→β):β:=Bool.rec (motive:=fun c=>(c = true→β)→(c = false→β)→β) (fun _ z=>z rfl) (fun k _=>k rfl) b k z
noncomputable def bG (x:Option α) (n:Nat) (k:(y:α)→x = some y→Out Q):Out Q:=Option.rec (motive:=fun o=>((y:α)→o = some y→Out Q)→Out Q) (fun _=>.no n) (fun y k=>k y rfl) x k
noncomputable def de (x:Option α) (k:(y:α)→x = some y→β) (z:x = none→β):β:=Option.rec (motive:=fun o=>((y:α)→o = some y→β)→(o = none→β)→β) (fun _ z=>z rfl) (fun y k _=>k y rfl) x k z
noncomputable def truth {ρ:Nat→Int} {G:Facts} (hG:Sat ρ G) (B:SB):Out (B.val ρ = ·):=de (eN G B) (fun r e=>.ok r (jM hG e)) fun _=>.ask B
end
section
variable (W:ab)
noncomputable def d8 (f:Value):Prop:=∀ h,GG W h→∃ k,(k = Keeper.frame∨k = Keeper.machine∨k = Keeper.boundFrame)∧Looks (model pg W.w) h (keeperOf f) k
noncomputable def qn (op:Operator) (a b r:AV):Prop:=∀ A U ad s v u (Q:Value→Shared→Prop) (E:Value→Shared→Prop),Base W U s.heap→Rel W ⟨aD U s.heap,ad⟩ v a→Rel W ⟨aD U s.heap,ad⟩ u b→Got W U ad s r Q→aw W A (binaryOp op v u) Q E s
noncomputable def wO (op:UnaryOp) (a r:AV):Prop:=∀ A U ad s v (Q:Value→Shared→Prop) (E:Value→Shared→Prop),Rel W ⟨aD U s.heap,ad⟩ v a→Got W U ad s r Q→aw W A (unaryOp op v) Q E s
noncomputable def qo (op:CmpOp) (a b r:AV):Prop:=∀ A U ad s v u (Q:Value→Shared→Prop) (E:Value→Shared→Prop),A.units≤9000→Base W U s.heap→Rel W ⟨aD U s.heap,ad⟩ v a→Rel W ⟨aD U s.heap,ad⟩ u b→Got W U ad s r Q→aw W A (compareOp op v u) Q E s
noncomputable def jX (a b r:AV):Prop:=∀ A U ad s v u k val (Q:Value→Shared→Prop) (E:Value→Shared→Prop),(∀ o i,subscripted k false o i = operate [o,i] (getItem o i))→Base W U s.heap→Rel W ⟨aD U s.heap,ad⟩ v a→Rel W ⟨aD U s.heap,ad⟩ u b→Got W U ad s r Q→aw W A (subscriptTail val k v u) Q E s
noncomputable def wQ (a:AV) (lo hi:Option Int) (r:AV):Prop:=∀ A U ad s v b l u (Q:Value→Shared→Prop) (E:Value→Shared→Prop),Base W U s.heap→Rel W ⟨aD U s.heap,ad⟩ v a→IsPart l lo→IsPart u hi→s.heap.IsSliceOf b l u .none→Got W U ad s r Q→ItemOn (model pg W.w) A E v (.ref b) Q s
noncomputable def qp (a:AV) (x:Str) (r:AV):Prop:=∀ A U ad s v (Q:Value→Shared→Prop) (E:Value→Shared→Prop),Base W U s.heap→Rel W ⟨aD U s.heap,ad⟩ v a→Got W U ad s r Q→aw W A (getAttr v x true) Q E s
noncomputable def eV (own:Own) (op:CmpOp) (a b r:AV):Prop:=∀ A U ad s v u (Q:Value→Shared→Prop) (E:Value→Shared→Prop),A.units≤9000→Base W U s.heap→aN W U ⟨own,ad,s.heap⟩→Rel W (vw U ⟨own,ad,s.heap⟩) v a→Rel W (vw U ⟨own,ad,s.heap⟩) u b→Fin W U ⟨own,ad,s.heap⟩ s own (fun V v=>Rel W V v r) Q→aw W A (compareOp op v u) Q E s
noncomputable def jY (own:Own) (a b r:AV):Prop:=∀ A U ad s v u k val (Q:Value→Shared→Prop) (E:Value→Shared→Prop),A.units≤9000→(∀ o i,subscripted k false o i = operate [o,i] (getItem o i))→Base W U s.heap→aN W U ⟨own,ad,s.heap⟩→Rel W (vw U ⟨own,ad,s.heap⟩) v a→Rel W (vw U ⟨own,ad,s.heap⟩) u b→Fin W U ⟨own,ad,s.heap⟩ s own (fun V v=>Rel W V v r) Q→aw W A (subscriptTail val k v u) Q E s
noncomputable def qr (own:Own) (a:AV) (x:Str) (r:AV):Prop:=∀ A U ad s v (Q:Value→Shared→Prop) (E:Value→Shared→Prop),Base W U s.heap→aN W U ⟨own,ad,s.heap⟩→Rel W (vw U ⟨own,ad,s.heap⟩) v a→Fin W U ⟨own,ad,s.heap⟩ s own (fun V v=>Rel W V v r) Q→aw W A (getAttr v x true) Q E s
structure Tells (d:Nat) (f:Value) (own:Own) (as:List AV) (r:AV) (own':Own):Prop where
 keep:d8 W f
 run:∀ A,dc d A→∀ U ad s vs (Q:Value→Shared→Prop) (E:Value→Shared→Prop),Base W U s.heap→aN W U ⟨own,ad,s.heap⟩→ah W (vw U ⟨own,ad,s.heap⟩) vs as→Fin W U ⟨own,ad,s.heap⟩ s own' (fun V v=>Rel W V v r) Q→aw W A (call f vs) Q E s
noncomputable abbrev gV (d:Nat) (own:Own) (f:AV) (as:List AV) (r:AV) (own':Own):Prop:=∀ V v,Rel W V v f→Tells W d v own as r own'
noncomputable def cz (d:Nat) (own:Own) (a:AV) (x:Str) (own1:Own) (as:List AV) (r:AV) (own':Own):Prop:=∀ A,dc d A→∀ U ad s v pl (Q:Value×List Value→Shared→Prop) (E:Value→Shared→Prop),Base W U s.heap→aN W U ⟨own,ad,s.heap⟩→Rel W (vw U ⟨own,ad,s.heap⟩) v a→
 (∀ f first tk,d8 W f→(∀ s' ad' vs (Q':Value→Shared→Prop) E',After W U ⟨own,ad,s.heap⟩ ⟨own1,ad',s'.heap⟩→Base W U s'.heap→ah W (vw U ⟨own1,ad',s'.heap⟩) vs as→Fin W U ⟨own1,ad',s'.heap⟩ s' own' (fun V v=>Rel W V v r) Q'→aw W A (PySem.call f (first ++ vs)) Q' E' s')→Q (f,first) (mv s s.heap tk))→aw W A (getMethod v x pl) Q E s
noncomputable def wR (x:Str) (a:AV):Prop:=∃ v,(((KH W.w.params).nsMap mainGlobals x = some v)∨((KH W.w.params).nsMap mainGlobals x = none∧x≠"__name__"∧bootBuiltins x = some v))∧∀ V,Rel W V v a
noncomputable def gW (a:AV) (b:Bool):Prop:=∀ A V v s (Q:Bool→Shared→Prop) (E:Value→Shared→Prop),Rel W V v a→Q b s→aw W A (truthy v) Q E s
variable {W}
theorem Base.more {U:AS} {p:Pt} (B:Base W U p.h) (O:aN W U p):Base W (fun u=>U u∨ak p.own p.ad u) p.h:=⟨B.G,fun u h=>h.elim (B.low u) fun h=>let ⟨o,e,_⟩:=O.low h; ⟨o,e⟩⟩
theorem qo.o {own:Own} {op:CmpOp} {a b r:AV} (h:qo W op a b r):eV W own op a b r:=fun A U ad s v u Q E hu B O rv ru F=>h _ _ _ _ _ _ _ _ hu (B.more O) rv ru (F.got O rfl)
theorem jX.o {own:Own} {a b r:AV} (h:jX W a b r):jY W own a b r:=fun A U ad s v u k val Q E _ hs B O rv ru F=>h _ _ _ _ _ _ _ _ _ _ hs (B.more O) rv ru (F.got O rfl)
theorem qp.o {own:Own} {a:AV} {x:Str} {r:AV} (h:qp W a x r):qr W own a x r:=fun A U ad s v Q E B O rv F=>h _ _ _ _ _ _ _ (B.more O) rv (F.got O rfl)
theorem Tells.up {d d':Nat} {f:Value} {own own':Own} {as:List AV} {r:AV} (t:Tells W d f own as r own') (h:d≤d'):Tells W d' f own as r own':=⟨t.1,fun A a=>t.2 A (a.up h)⟩
theorem le_size {n:Nat} (h:Nat.ble n 1000 = true):n≤sizeLine:=Nat.le_trans (Nat.le_of_ble_eq_true h) (by rw [sizeLine_eq]; lia)
variable {d:Nat} {sc:Fs} {c:ai W d sc} {σ:ao} {pos:Pos} {own own1 own2 own3:Own}
theorem ai.u (c:ai W d sc):c.A.units≤9000:=Nat.le_trans (Nat.le_add_right _ _) c.a.units
theorem SV.BU {p:Pt} (S:SV c σ p):Base W c.U p.h:=⟨S.Gp,fun _=>S.gh⟩
theorem aj.name {x:Str} {a:AV} {k:NameKind} (hk:lk x sc.sc.names = some k) (h:(k = .globalImplicit∧wR W x a)∨(k≠.globalImplicit∧lk x σ = some a)):aj c σ own (eval (.Name x pos) c.env) a own:=fun s ad Q E S F=>by
 have q:c.env.scope.names.lookup x = some k:=by rw [c.es,← cQ]; exact hk
 have dbg:=(c.K.names x (by rw [q]; exact fun z=>(by exact c5 z))).1
 rcases h with ⟨rfl,v,hv,r⟩ | ⟨_,e⟩
 ·refine Name_function_global c.K.kind q ?_ dbg
  have fin:=F.here S.owns (v:=v) (tk:=s.toks) (r _)
  have hg:s.heap.Ns c.env.globals ((KH W.w.params).nsMap mainGlobals):=by rw [c.K.globals]; exact S.Gp.g
  rcases hv with hv | ⟨hn,hm,hv⟩
  ·exact loadGlobal_global hg hv fin
  ·refine af fun nG=>?_
   obtain ⟨mb,hb,hx⟩:=GG.b S.Gp
   refine nG ?_
   exact loadGlobal_builtin hg hn (by rw [c.K.builtins]; exact hb) ((hx x hm).trans hv) fin
 ·refine wpAny_Name ?_ dbg
  cases S.loc x a e with
  | loc kk hn hv r=>exact wpAny_loadName_local c.K.kind kk hn hv (F.here S.owns (tk:=s.toks) r)
  | cel kk cd hc hi r=>
   rcases kk with kk | kk
   ·exact wpAny_loadName_cell c.K.kind kk hc hi (F.here S.owns (tk:=s.toks) r)
   ·exact wpAny_loadName_free c.K.kind kk hc hi (F.here S.owns (tk:=s.toks) r) cd
theorem aj.bin {op:Operator} {l r:Expr} {a b q:AV} (hl:aj c σ own (eval l c.env) a own1) (hr:aj c σ own1 (eval r c.env) b own2) (e:qn W op a b q):aj c σ own (eval (.BinOp l op r pos) c.env) q own2:=fun s ad Q E S F=>
 wpAny_BinOp (hl s ad _ _ S fun v h1 t1 a1 k1 r1=>hr _ a1 _ _ (S.after k1) fun v2 h2 t2 a2 k2 r2=>e _ _ a2 _ _ _ _ _ (S.after (k1.trans k2)).B (r1.mono k2.view) r2 ((F.then (k1.trans k2)).got k2.owns rfl))
theorem aj.qs {op:UnaryOp} {x:Expr} {a q:AV} (hl:aj c σ own (eval x c.env) a own1) (e:wO W op a q):aj c σ own (eval (.UnaryOp op x pos) c.env) q own1:=fun s ad Q E S F=>
 wpAny_UnaryOp (hl s ad _ _ S fun v h1 t1 a1 k1 r1=>e _ _ a1 _ _ _ _ r1 ((F.then k1).got k1.owns rfl))
theorem aj.qt {op:CmpOp} {l r:Expr} {a b q:AV} (hn:behindInMarks op r = false) (hl:aj c σ own (eval l c.env) a own1) (hr:aj c σ own1 (eval r c.env) b own2) (e:eV W own2 op a b q):aj c σ own (eval (.Compare l [op] [r] pos) c.env) q own2:=fun s ad Q E S F=>
 wpAny_Compare1 (hl s ad _ _ S fun v h1 t1 a1 k1 r1=>hr _ a1 _ _ (S.after k1) fun v2 h2 t2 a2 k2 r2=>e _ _ a2 _ _ _ _ _ c.u (S.after (k1.trans k2)).BU k2.owns (r1.mono k2.view) r2 (F.then (k1.trans k2))) hn
theorem bo.qt {op:CmpOp} {l r:Expr} {a b q:AV} {t:Bool} {whole:Sem Value} (hn:behindInMarks op r = false) (hl:aj c σ own (eval l c.env) a own1) (hr:aj c σ own1 (eval r c.env) b own2) (e:eV W own2 op a b q) (ht:gW W q t):bo c σ own (isTrue (.Compare l [op] [r] pos) c.env whole) t own2:=fun s ad Q E S F=>
 wpAny_isTrue_Compare1 (hl s ad _ _ S fun v h1 t1 a1 k1 r1=>hr _ a1 _ _ (S.after k1) fun v2 h2 t2 a2 k2 r2=>e _ _ a2 _ _ _ _ _ c.u (S.after (k1.trans k2)).BU k2.owns (r1.mono k2.view) r2 fun v3 h3 t3 a3 k3 r3=>ht _ _ _ _ _ _ r3 (F _ h3 t3 a3 ((k1.trans k2).trans k3) rfl)) hn
structure Chain (c:ai W d sc) (σ:ao) (own:Own) (r':Expr) (op':CmpOp) (b:AV) (P:AV→Prop) (own':Own):Prop where
 ex:∃ b' q,aj c σ own (eval r' c.env) b' own'∧eV W own' op' b b' q∧P q
theorem aj.jZ {op op':CmpOp} {l r r':Expr} {a b q₁ q:AV} {t:Bool} (hn:behindInMarks op' r' = false) (hl:aj c σ own (eval l c.env) a own1) (hr:aj c σ own1 (eval r c.env) b own2) (e:eV W own2 op a b q₁) (ht:gW W q₁ t)
  (hrest:(t = true∧Chain c σ own2 r' op' b (· = q) own3)∨(t = false∧q = q₁∧own3 = own2)):aj c σ own (eval (.Compare l [op,op'] [r,r'] pos) c.env) q own3:=fun s ad Q E S F=>by
 refine Compare_chain (hl s ad _ _ S fun v h1 t1 a1 k1 r1=>?_) hn
 show wpAny _ _ (holding [v] (eval r c.env) >>= _) _ _ _
 refine wpAny_bind (wpAny_holding (hr _ a1 _ _ (S.after k1) fun v2 h2 t2 a2 k2 r2=>wpAny_bind (wpAny_standAt (wpAny_bind (wpAny_holding ?_)))))
 have k12:=k1.trans k2
 refine e _ _ a2 _ _ _ _ _ c.u (S.after k12).BU k2.owns (r1.mono k2.view) r2 fun v3 h3 t3 a3 k3 r3=>?_
 have k123:=k12.trans k3
 refine wpAny_bind (wpAny_release (wpAny_bind (wpAny_holding (ht _ _ _ _ _ _ r3 ?_))))
 rcases hrest with ⟨rfl,⟨b',_,hr',e',rfl⟩⟩ | ⟨rfl,rfl,rfl⟩
 ·rw [if_pos rfl]
  show wpAny _ _ (holding [v2] (eval r' c.env) >>= _) _ _ _
  exact wpAny_bind (wpAny_holding (hr' _ a3 _ _ (S.after k123) fun v4 h4 t4 a4 k4 r4=>wpAny_bind (wpAny_standAt (wpAny_operate' (e' _ _ a4 _ _ _ _ _ c.u (S.after (k123.trans k4)).BU k4.owns ((r2.mono k3.view).mono k4.view) r4 (F.then (k123.trans k4)))))))
 ·rw [if_neg Bool.false_ne_true]
  exact wpAny_pure (F v3 h3 t3 a3 k123 r3)
theorem bo.jZ {op op':CmpOp} {l r r':Expr} {a b q₁:AV} {t res:Bool} {whole:Sem Value} (hn:behindInMarks op' r' = false) (hl:aj c σ own (eval l c.env) a own1) (hr:aj c σ own1 (eval r c.env) b own2) (e:eV W own2 op a b q₁) (ht:gW W q₁ t)
  (hrest:(t = true∧Chain c σ own2 r' op' b (gW W · res) own3)∨(t = false∧res = false∧own3 = own2)):bo c σ own (isTrue (.Compare l [op,op'] [r,r'] pos) c.env whole) res own3:=fun s ad Q E S F=>by
 refine isTrue_chain (hl s ad _ _ S fun v h1 t1 a1 k1 r1=>?_) hn
 show wpAny _ _ (holding [v] (eval r c.env) >>= _) _ _ _
 refine wpAny_bind (wpAny_holding (hr _ a1 _ _ (S.after k1) fun v2 h2 t2 a2 k2 r2=>wpAny_bind (wpAny_standAt (wpAny_bind (wpAny_holding ?_)))))
 have k12:=k1.trans k2
 refine e _ _ a2 _ _ _ _ _ c.u (S.after k12).BU k2.owns (r1.mono k2.view) r2 fun v3 h3 t3 a3 k3 r3=>?_
 have k123:=k12.trans k3
 refine wpAny_bind (wpAny_release (wpAny_bind (wpAny_holding (ht _ _ _ _ _ _ r3 ?_))))
 rcases hrest with ⟨rfl,⟨b',_,hr',e',ht'⟩⟩ | ⟨rfl,rfl,rfl⟩
 ·rw [if_pos rfl]
  show wpAny _ _ (holding [v2] (eval r' c.env) >>= _) _ _ _
  exact wpAny_bind (wpAny_holding (hr' _ a3 _ _ (S.after k123) fun v4 h4 t4 a4 k4 r4=>wpAny_bind (wpAny_standAt (wpAny_bind (wpAny_operate' (e' _ _ a4 _ _ _ _ _ c.u (S.after (k123.trans k4)).BU k4.owns ((r2.mono k3.view).mono k4.view) r4 fun v5 h5 t5 a5 k5 r5=>wpAny_holding (ht' _ _ _ _ _ _ r5 (F _ h5 t5 a5 ((k123.trans k4).trans k5) rfl))))))))
 ·rw [if_neg Bool.false_ne_true]
  exact wpAny_pure (F _ h3 t3 a3 k123 rfl)
theorem aj.qu {t a b:Expr} {x:Bool} {r:AV} (ht:bo c σ own (isTrue t c.env (eval t c.env)) x own1) (hr:aj c σ own1 (if x = true then eval a c.env else eval b c.env) r own2):aj c σ own (eval (.IfExp t a b pos) c.env) r own2:=fun s ad Q E S F=>
 wpAny_IfExp (ht s ad _ _ S fun v h1 t1 a1 k1 e=>by subst e; have z:=hr (mv s h1 t1) a1 Q E (S.after k1) (F.then k1); cases v<;>exact z)
theorem bo.qu {t a b:Expr} {x r:Bool} {whole:Sem Value} (ht:bo c σ own (isTrue t c.env (eval t c.env)) x own1) (hr:bo c σ own1 (if x = true then isTrue a c.env (eval a c.env) else isTrue b c.env (eval b c.env)) r own2):bo c σ own (isTrue (.IfExp t a b pos) c.env whole) r own2:=fun s ad Q E S F=>
 isTrue_IfExp (ht s ad _ _ S fun v h1 t1 a1 k1 e=>by subst e; have z:=hr (mv s h1 t1) a1 Q E (S.after k1) (F.then k1); cases v<;>exact z)
theorem bo.not {x:Expr} {b:Bool} {whole:Sem Value} (ht:bo c σ own (isTrue x c.env (eval x c.env)) b own1):bo c σ own (isTrue (.UnaryOp .Not x pos) c.env whole) (!b) own1:=fun s ad Q E S F=>
 isTrue_not (ht s ad _ _ S fun v h1 t1 a1 k1 e=>F _ h1 t1 a1 k1 (e▸rfl))
theorem bo.value {e:Expr} {a:AV} {b:Bool} (hs:∀ whole,isTrue e c.env whole = (do let v ← whole; standAt e.pos; holding [v] (truthy v))) (he:aj c σ own (eval e c.env) a own1) (hb:gW W a b):bo c σ own (isTrue e c.env (eval e c.env)) b own1:=fun s ad Q E S F=>
 isTrue_plain (he s ad _ _ S fun v h1 t1 a1 k1 r1=>hb _ _ _ _ _ _ r1 (F _ h1 t1 a1 k1 rfl)) (hs _)
theorem bo.nil {op:BoolOp} {whole:Sem Value}:bo c σ own (isTrue (.BoolOp op [] pos) c.env whole) (op == .And) own:=fun s ad Q E S F=>by
 cases op
 ·exact isTrue_and_nil (F.here S.owns (tk:=s.toks) rfl)
 ·exact isTrue_or_nil (F.here S.owns (tk:=s.toks) rfl)
noncomputable def ends:BoolOp→Bool→Bool
 | .And,b=>!b
 | .Or,b=>b
theorem bo.bools {op:BoolOp} {x:Expr} {rest:List Expr} {whole:Sem Value} {b r:Bool} (hx:bo c σ own (isTrue x c.env (eval x c.env)) b own1) (hr:if ends op b = true then r = b∧own2 = own1 else bo c σ own1 (isTrue (.BoolOp op rest pos) c.env whole) r own2):bo c σ own (isTrue (.BoolOp op (x::rest) pos) c.env whole) r own2:=fun s ad Q E S F=>by
 cases op
 ·refine isTrue_and (hx s ad _ _ S fun v h1 t1 a1 k1 e=>?_)
  subst e
  cases v
  ·obtain ⟨rfl,rfl⟩:r = false∧own2 = own1:=hr; exact F _ h1 t1 a1 k1 rfl
  ·exact (show bo c σ _ _ _ _ from hr) (mv s h1 t1) a1 Q E (S.after k1) (F.then k1)
 ·refine isTrue_or (hx s ad _ _ S fun v h1 t1 a1 k1 e=>?_)
  subst e
  cases v
  ·exact (show bo c σ _ _ _ _ from hr) (mv s h1 t1) a1 Q E (S.after k1) (F.then k1)
  ·obtain ⟨rfl,rfl⟩:r = true∧own2 = own1:=hr; exact F _ h1 t1 a1 k1 rfl
theorem aj.bools {op:BoolOp} {x y:Expr} {rest:List Expr} {a r:AV} {b:Bool} (hx:aj c σ own (eval x c.env) a own1) (hb:gW W a b) (hr:if ends op b = true then r = a∧own2 = own1 else aj c σ own1 (eval (.BoolOp op (y::rest) pos) c.env) r own2):aj c σ own (eval (.BoolOp op (x::y::rest) pos) c.env) r own2:=fun s ad Q E S F=>by
 cases op
 ·refine BoolOp_and (hx s ad _ _ S fun v h1 t1 a1 k1 r1=>hb _ _ _ _ _ _ r1 ?_)
  cases b
  ·obtain ⟨rfl,rfl⟩:r = a∧own2 = own1:=hr; exact F v h1 t1 a1 k1 r1
  ·exact (show aj c σ _ _ _ _ from hr) (mv s h1 t1) a1 Q E (S.after k1) (F.then k1)
 ·refine BoolOp_or (hx s ad _ _ S fun v h1 t1 a1 k1 r1=>hb _ _ _ _ _ _ r1 ?_)
  cases b
  ·exact (show aj c σ _ _ _ _ from hr) (mv s h1 t1) a1 Q E (S.after k1) (F.then k1)
  ·obtain ⟨rfl,rfl⟩:r = a∧own2 = own1:=hr; exact F v h1 t1 a1 k1 r1
end
section
noncomputable abbrev dh (x:Expr):Prop:=∀ env rest,starEach (x::rest) env = (false,eval x env)::starEach rest env
noncomputable abbrev mJ (x:Expr):Prop:=∀ y env t,attributeBase x y env t = t
structure EI (x:Expr):Prop where
 star:Nat.beq x.ctorIdx 22 = false→dh x
 sub:Nat.beq x.ctorIdx 26 = false→∀ o i,subscripted x false o i = operate [o,i] (getItem o i)
 fold:Nat.beq x.ctorIdx 7 = false→∀ env v,foldedSetIterable x env v = pure v
 base:Nat.beq x.ctorIdx 16 = false→mJ x
 marks:Nat.beq x.ctorIdx 7 = false→∀ op,behindInMarks op x = false
 swap:(Nat.ble 8 x.ctorIdx && Nat.ble x.ctorIdx 10) = false→∀ t l env,swapsWith x t l env = pure false
theorem cS (x:Expr):EI x:=by cases x<;>constructor<;>intro h<;>first | exact fun _ _=>rfl | exact fun _ _ _=>rfl | exact fun _=>rfl | cases h
variable {W:ab} {d:Nat} {sc:Fs} {c:ai W d sc} {σ:ao} {pos:Pos} {own own1 own2 own3:Own}
theorem bT.nil:bT c σ own (spliced (backTo pos (starEach [] c.env))) [] own:=fun s ad Q E S F=>wpAny_pure (F.here S.owns (tk:=s.toks) rfl)
theorem bT.cons {x:Expr} {rest:List Expr} {a:AV} {as:List AV} (hx:dh x) (h1:aj c σ own (eval x c.env) a own1) (h2:bT c σ own1 (spliced (backTo pos (starEach rest c.env))) as own2):bT c σ own (spliced (backTo pos (starEach (x::rest) c.env))) (a::as) own2:=fun s ad Q E S F=>by
 rw [hx]
 show wpAny _ _ (eval x c.env >>= _) _ _ _
 exact wpAny_bind (h1 s ad _ _ S fun v g1 t1 a1 k1 r1=>wpAny_bind (wpAny_pure (wpAny_bind (wpAny_holding (h2 _ a1 _ _ (S.after k1) fun vs g2 t2 a2 k2 r2=>wpAny_pure (F _ g2 t2 a2 (k1.trans k2) (.cons (r1.mono k2.view) r2)))))))
theorem aN.EJ {U:AS} {p:Pt} (O:aN W U p) (low:∀ u,U u→∃ o,p.h.get? u = some o) {o:Obj} (f:o.isFreed = false) (s:soft o = false):(vw U ⟨p.own,p.ad,p.h.push o⟩).g p.h.objs.size o:=
 gT (U:=fun u=>U u∨ak p.own p.ad u) (h:=p.h) o f s fun u z=>z.elim (low u) fun z=>let ⟨o,e,_⟩:=O.low z; ⟨o,e⟩
theorem aj.tuple {es:List Expr} {k:Nat} {as:List AV} (hl:bT c σ own (spliced (backTo pos (starEach es c.env))) as own1) (hz:as.length≤sizeLine):aj c σ own (eval (.Tuple es k pos) c.env) (.tup as) own1:=fun s ad Q E S F=>
 wpAny_Tuple (hl s ad _ _ S fun vs h1 t1 a1 k1 r1=>⟨r1.length▸hz,have g:=k1.owns.grow (ag.push h1 (jP vs 0)); F _ _ t1 a1 (k1.trans g) (.mk (k1.owns.EJ (fun _=>(S.after k1).gh) rfl rfl) (r1.mono g.view))⟩)
theorem aN.qw {U:AS} {p:Pt} (O:aN W U p) {pv:PV} {h':Heap} {x:Addr}:Rel W (vw U ⟨p.own ++ [pv],p.ad ++ [x],h'⟩) (.ref x) (.loc p.own.length):=.mk (by rw [← O.len]; exact iO)
theorem aj.list {es:List Expr} {as:List AV} (hl:bT c σ own (spliced (backTo pos (starEach es c.env))) as own1) (hz:as.length≤sizeLine):aj c σ own (eval (.List es pos) c.env) (.loc own1.length) (own1 ++ [.lst as]):=fun s ad Q E S F=>
 wpAny_List (hl s ad _ _ S fun vs h1 t1 a1 k1 r1=>⟨r1.length▸hz,F _ _ t1 _ (k1.trans (k1.owns.alloc (ob:=bl vs 0) (pv:=.lst as) (S.after k1).Gp (fun _=>(S.after k1).gh) (.push _ _) (c7 _) (Heap.get?_push_size _ rfl) rfl fun V l _=>.mk (r1.mono l))) k1.owns.qw⟩)
theorem aj.attr {v:Expr} {x:Str} {a q:AV} (hb:mJ v) (hl:aj c σ own (eval v c.env) a own1) (e:qr W own1 a x q):aj c σ own (eval (.Attribute v x pos) c.env) q own1:=fun s ad Q E S F=>by
 rw [arm_eval_Attribute,hb]
 exact wpAny_bind (hl s ad _ _ S fun o h1 t1 a1 k1 r1=>wpAny_bind (wpAny_standAt (wpAny_bind (wpAny_holding (e _ _ a1 _ o _ _ (S.after k1).BU k1.owns r1 fun v3 h3 t3 a3 k3 r3=>wpAny_bind (wpAny_letTemporaryGo (wpAny_pure (F v3 h3 t3 a3 (k1.trans k3) r3))))))))
theorem aj.sub {e k:Expr} {a b q:AV} (hk:∀ o i,subscripted k false o i = operate [o,i] (getItem o i)) (hl:aj c σ own (eval e c.env) a own1) (hr:aj c σ own1 (eval k c.env) b own2) (h:jY W own2 a b q):aj c σ own (eval (.Subscript e k pos) c.env) q own2:=fun s ad Q E S F=>
 Subscript_ (hl s ad _ _ S fun v h1 t1 a1 k1 r1=>hr _ a1 _ _ (S.after k1) fun v2 h2 t2 a2 k2 r2=>h _ _ a2 (mv s h2 t2) v v2 k e _ _ c.u hk (S.after (k1.trans k2)).BU k2.owns (r1.mono k2.view) r2 (F.then (k1.trans k2)))
noncomputable abbrev gY (c:ai W d sc) (σ:ao) (own:Own) (e:Option Expr) (i:Option Int) (own':Own):Prop:=iP c σ own (PySem.evalPart e c.env) (fun _ v=>IsPart v i) own'
theorem gY.none:gY c σ own none none own:=fun s ad Q E S F=>evalPart_none_step (F.here S.owns (tk:=s.toks) .none)
theorem gY.some {e:Expr} {a:AV} {i:Int} (ha:∀ V v,Rel W V v a→bK i v) (h:aj c σ own (eval e c.env) a own1):gY c σ own (some e) (some i) own1:=fun s ad Q E S F=>evalPart_some_step (h s ad _ _ S fun v h1 t1 a1 k1 r1=>F v h1 t1 a1 k1 (by obtain ⟨t⟩:=ha _ _ r1; exact .int _ _))
theorem aj.slice {e:Expr} {lo hi:Option Expr} {p':Pos} {a q:AV} {l u:Option Int} (he:aj c σ own (eval e c.env) a own1) (hl:gY c σ own1 lo l own2) (hu:gY c σ own2 hi u own3) (h:wQ W a l u q):aj c σ own (eval (.Subscript e (.Slice lo hi none p') pos) c.env) q own3:=fun s ad Q E S F=>by
 rw [eval_Subscript]
 refine wpAny_bind (he s ad _ _ S fun v1 g1 t1 a1 k1 r1=>wpAny_bind (wpAny_holding (wpAny_Slice (hl _ a1 _ _ (S.after k1) fun v2 g2 t2 a2 k2 i2=>hu _ a2 _ _ (S.after (k1.trans k2)) fun v3 g3 t3 a3 k3 i3=>evalPart_none_step ?_))))
 refine af fun nG=>?_
 have k4:=k3.owns.grow (ag.push g3 { cls:=.type "slice",data:=.fields #[v2,v3,.none] })
 have k:=((k1.trans k2).trans k3).trans k4
 obtain ⟨T,id,hl,hT,hg⟩:=h _ _ a3 (mv s (g3.push { cls:=.type "slice",data:=.fields #[v2,v3,.none] }) t3) v1 _ v2 v3 _ E (S.after k).B (r1.mono ((k2.trans k3).trans k4).view) i2 i3 (Heap.IsSliceOf.new ..) ((F.then k).got k4.owns rfl)
 refine nG ?_
 refine wpAny_bind (wpAny_standAt ?_)
 first
  | (refine wpAny_bind ?_; rw [getitemInPython_of_ne hT.not_modules]; refine wpAny_bind (wpAny_specialOf hT hl ?_))
  | refine wpAny_bind (wpAny_specialOf hT hl ?_)
 have fin:aw W c.A (operate [.ref g3.objs.size,v1] (getItem v1 (.ref g3.objs.size))) (fun r s₃=>aw W c.A (letTemporaryGo e v1 r >>= fun _=>pure r) Q E s₃) E _:=
  wpAny_operating (wpAny_mono hg (fun r s₃ h₃=>wpAny_bind (wpAny_letTemporaryGo (wpAny_pure h₃))) fun _ _ x=>x)
 first
  | exact wpAny_pure (wpAny_bind fin)
  | exact wpAny_bind (wpAny_pure (wpAny_bind fin))
  | exact wpAny_bind fin
theorem qx {as:List Expr} (h:∀ x∈as,dh x) (env:Env):(starEach as env).any (·.1) = false∧∀ pos,(backTo pos (starEach as env)).all (!·.1) = true:=by
 induction as with
 | nil=>exact ⟨rfl,fun _=>rfl⟩
 | cons x r ih=>
  obtain ⟨i1,i2⟩:=ih fun y m=>h y (.tail _ m)
  rw [h x (.head _)]
  refine ⟨i1,fun pos=>?_⟩
  have:=i2 pos
  unfold backTo at this ⊢
  rw [List.all_map] at this ⊢
  rw [List.all_cons,this]; rfl
theorem gZ {f:Value} {first:List Value} {as:List Expr} {env:Env} {A:Around} {s:Shared} {Q:Value→Shared→Prop} {E:Value→Shared→Prop} (ha:∀ x∈as,dh x) (hk:d8 W f)
  (h:aw W A (spliced (backTo pos (starEach as env))) (fun vs s₁=>GG W s₁.heap∧aw W A (call f (first ++ vs)) Q E s₁) E s):aw W A (callWith pos f first (backTo pos (starEach as env)) []) Q E s:=by
 have hb:(backTo pos (starEach as env)).any (·.1) = false:=by
  unfold backTo; rw [List.any_map]; exact (qx ha env).1
 refine callWith_of (P:=GG W) (by rw [hb]; rfl) hk ?_
 cases as with
 | nil=>
  unfold evalArgs
  show wpAny _ A (spliced [] >>= _) _ E s
  refine wpAny_bind (wpAny_mono h (fun vs s₁ q=>wpAny_bind (wpAny_pure (wpAny_holding ?_))) fun _ _ z=>z)
  exact wpAny_bind (wpAny_pure (wpAny_bind (wpAny_pure (wpAny_pure q))))
 | cons x r=>
  rw [ha x (.head _)] at h ⊢
  exact evalArgs_plain (wpAny_mono h (fun _ _ q=>q) fun _ _ z=>z)
theorem aj.call {x:Str} {p:Pos} {as:List Expr} {f r:AV} {vs:List AV} (ha:∀ x∈as,dh x) (hf:aj c σ own (eval (.Name x p) c.env) f own) (hl:bT c σ own (spliced (backTo pos (starEach as c.env))) vs own1) (e:gV W d own1 f vs r own2):aj c σ own (eval (.Call (.Name x p) as [] pos) c.env) r own2:=fun s ad Q E S F=>by
 show wpAny _ _ ((eval (.Name x p) c.env) >>= fun fv=>callWith pos fv [] (backTo pos (starEach as c.env)) []) _ _ _
 exact wpAny_bind (hf s ad _ _ S fun fv h1 t1 a1 k1 r1=>gZ (first:=[]) ha (e _ _ r1).keep (hl _ a1 _ _ (S.after k1) fun ws h2 t2 a2 k2 r2=>have S2:=S.after (k1.trans k2); ⟨S2.Gp,(e _ _ r1).run _ c.a _ a2 _ ws Q E S2.BU k2.owns r2 (F.then (k1.trans k2))⟩))
theorem aj.EK {v:Expr} {x:Str} {ap:Pos} {as:List Expr} {a r:AV} {vs:List AV} (hb:mJ v) (hpos:(ap.endLine == pos.line) = true) (hn:Nat.blt as.length 30 = true) (ha:∀ x∈as,dh x) (hf:aj c σ own (eval v c.env) a own1) (hl:bT c σ own1 (spliced (backTo pos (starEach as c.env))) vs own2) (e:cz W d own1 a x own2 vs r own3):
  aj c σ own (eval (.Call (.Attribute v x ap) as [] pos) c.env) r own3:=fun s ad Q E S F=>by
 rw [arm_eval_Call,hb]
 have hform:methodCallForm (as.length + 0) (backTo pos (starEach as c.env)) [] = true:=by
  unfold methodCallForm
  rw [(qx ha c.env).2 pos]
  have:=Nat.blt_eq.mp hn
  simp; omega
 refine wpAny_bind (hf s ad _ _ S fun ov h1 t1 a1 k1 r1=>wpAny_bind (wpAny_standAt ?_))
 show wpAny _ _ (methodCall v x ap pos c.env ov (as.length + 0) (backTo pos (starEach as c.env)) []) _ _ _
 unfold methodCall
 rw [hform]
 refine wpAny_bind (wpAny_holding ?_)
 show wpAny _ _ (getMethod ov x _) _ _ _
 have S1:=S.after k1
 refine e _ c.a c.U a1 _ ov _ _ _ S1.BU k1.owns r1 fun f first tk hk hc=>?_
 have hp:methodCallPos true v c.env ap pos = pure pos:=by unfold methodCallPos; rw [hpos]; rfl
 show wpAny _ _ (methodCallPos true v c.env ap pos >>= _) _ _ _
 rw [hp]
 exact wpAny_bind (wpAny_pure (gZ ha hk (hl _ a1 _ _ S1 fun ws h2 t2 a2 k2 r2=>have S2:=S1.after k2; ⟨S2.Gp,hc _ a2 ws Q E k2 S2.BU r2 (F.then (k1.trans k2))⟩)))
theorem fD (f:String):d8 W (.builtin f):=fun _ _=>⟨.machine,.inr (.inl rfl),Looks.of_pure rfl⟩
set_option tactic.hygienic true in
theorem EL {n:Nat} {l l':List AV} {a:AV} (h:own[n]? = some (.lst l)) (h1:own1[n]? = some (.lst l')) (hz:Nat.ble l'.length 1000 = true):cz W d own (.loc n) ⟨#[97,112,112,101,110,100]⟩ own1 [a] .none (own1.set n (.lst (l' ++ [a]))):=fun A aA U ad s v pl Q E B O rv k=>by
 refine af fun nG=>?_
 obtain ⟨e⟩:=rv
 obtain ⟨_,o,ho,pr⟩:=O.obj n _ _ ⟨h,rfl,e⟩
 obtain ⟨-⟩:=pr
 refine nG ?_
 rw [show (⟨#[97,112,112,101,110,100]⟩:Str) = ("append":Str) by decide +kernel]
 refine getMethod_list_append ho rfl rfl (k _ _ s.toks (fD _) fun s' ad' vs Q' E' kk B' rl F=>?_)
 refine af fun nG=>?_
 obtain ⟨rv,rl⟩:=rl
 obtain rfl:=rl
 have at1:At own1 ad' n (.lst l') _:=⟨h1,rfl,kk.ad _ _ e⟩
 obtain ⟨_,o',ho',pr'⟩:=kk.owns.obj _ _ _ at1
 obtain ⟨rl⟩:=pr'
 refine nG ?_
 rename_i vs n'
 exact append_at (its:=vs.toArray) (n:=n') ho' (fun h2 s2 o2=>F .none h2 _ ad' (kk.owns.put at1 s2 (fun e=>by cases e) fun V le _ _=>⟨fun _=>⟨_,by rw [o2]; exact congrArg some (by simp [bl]),.mk (n:=n' + 1) ((rl.append (.cons rv (show ah W _ [] [] from rfl))).mono le)⟩,(fun _ e=>by cases e)⟩) rfl) (by rw [List.size_toArray,rl.length]; exact le_size hz)
theorem EM (x:List UInt8):bN (x.map fun b=>(b.toNat:Int)) = x.toArray:=by
 unfold bN; rw [List.map_map]; congr 1
 conv=>rhs; rw [← List.map_id x]
 exact List.map_congr_left fun b _=>by simp
noncomputable def qy:List UInt8→List SE
 | []=>[]
 | b::l=>.lit b.toNat::qy l
theorem wU (ρ:Nat→Int):∀ l:List UInt8,vals ρ (qy l) = l.map fun b=>(b.toNat:Int)
 | []=>rfl
 | b::l=>congrArg _ (wU ρ l)
noncomputable def wV (k:Const):Option { a:AV //∀ (W:ab) {d sc} (c:ai W d sc) σ own u pos,aj c σ own (eval (.Constant k u pos) c.env) a own }:=match k with
 | .none=>some ⟨.none,fun W d sc c σ own u pos s ad Q E S F=>Constant_none (F.here S.owns (tk:=s.toks) rfl)⟩
 | .bool b=>some ⟨.bool b,fun W d sc c σ own u pos s ad Q E S F=>Constant_bool (F.here S.owns (tk:=s.toks) rfl)⟩
 | .int i=>some ⟨.int (.lit i),fun W d sc c σ own u pos s ad Q E S F=>wpAny_Constant_int (F.here S.owns (tk:=s.toks + 1) (.mk _))⟩
 | .str x=>some ⟨.str x,fun W d sc c σ own u pos s ad Q E S F=>wpAny_Constant_str (F.here S.owns (tk:=s.toks + 1) (.mk _))⟩
 | .bytes x=>some ⟨.bytes (qy x),fun W d sc c σ own u pos s ad Q E S F=>Constant_bytes (F.here S.owns (tk:=s.toks + 1) (by
   show jS _ _
   rw [wU,← EM]
   refine .mk _ fun y hy=>?_
   obtain ⟨b,_,rfl⟩:=List.mem_map.mp hy
   have:=b.toNat_lt
   exact ⟨by omega,by omega⟩))⟩
 | _=>none
end
section
noncomputable def a9:SE→SE→SE
 | .lit i,.lit j=>.lit (i + j)
 | a,b=>.add a b
noncomputable def smul (k:Int):SE→SE
 | .lit i=>.lit (k * i)
 | a=>.mul k a
noncomputable def sdiv (k:Nat):SE→SE
 | .lit i=>.lit (i / k)
 | a=>.div a k
noncomputable def smod (k:Nat):SE→SE
 | .lit i=>.lit (i % k)
 | a=>.mod a k
section
variable (ρ:Nat→Int)
theorem cU (a b:SE):(a9 a b).val ρ = a.val ρ + b.val ρ:=by cases a<;>first | rfl | (cases b<;>rfl)
theorem cG (k:Int) (a:SE):(smul k a).val ρ = k * a.val ρ:=by cases a<;>rfl
theorem wW (k:Nat) (a:SE):(sdiv k a).val ρ = a.val ρ / k:=by cases a<;>rfl
theorem wY (k:Nat) (a:SE):(smod k a).val ρ = a.val ρ % k:=by cases a<;>rfl
theorem ag.le {h h':Heap} {U:AS} {ad:List Addr} (k:ag h h'):(⟨Mine.aD U h,ad⟩:Vw).Le ⟨Mine.aD U h',ad⟩:=⟨au.aD k U,fun _ _ e=>e⟩
theorem qz:∀ l m:List SE,vals ρ (l ++ m) = vals ρ l ++ vals ρ m
 | [],_=>rfl
 | _::l,m=>congrArg _ (qz l m)
theorem gi:∀ l:List SE,(vals ρ l).length = l.length
 | []=>rfl
 | _::l=>congrArg (· + 1) (gi l)
end
noncomputable def p2 (n:Int):Int:=Int.ofNat (2 ^ n.toNat)
noncomputable def qA (b:Int):Bool:=bc (p2 (Int.ofNat (Nat.log2 b.toNat))) b
theorem qB (n:Int):p2 n = 2 ^ n.toNat:=show ((2 ^ n.toNat:Nat):Int) = _ by push_cast; rfl
theorem EN {b:Int} (h:qA b = true):b = 2 ^ (Int.ofNat b.toNat.log2).toNat:=by unfold qA at h; rw [gO,beq_iff_eq,qB] at h; exact h.symm
theorem wZ {i:Int} (h:i.natAbs < 2 ^ 62):Builtin.Int.intBits i≤64:=by
 unfold Builtin.Int.intBits
 split
 ·lia
 ·have:i.natAbs.log2 < 62:=by
   by_cases z:i.natAbs = 0
   ·rw [z]; decide
   ·exact (Nat.log2_lt z).mpr h
  lia
theorem EO (x:Int) (k:Nat):Builtin.bitAnd x (((2 ^ k:Nat):Int) - 1) = x % ((2 ^ k:Nat):Int):=by
 have h0:(1:Nat)≤2 ^ k:=Nat.one_le_two_pow
 have hn:(((2 ^ k:Nat):Int) - 1).toNat = 2 ^ k - 1:=by lia
 have hp:(0:Int)≤((2 ^ k:Nat):Int) - 1:=by lia
 by_cases hx:0≤x
 ·rw [bitAnd_pp hx hp,hn,Nat.and_two_pow_sub_one_eq_mod]
  obtain ⟨n,rfl⟩:=Int.eq_ofNat_of_zero_le hx
  simp
 ·rw [bitAnd_np hx hp,hn,Nat.and_comm,Nat.and_two_pow_sub_one_eq_mod]
  unfold Builtin.bitNot
  generalize 2 ^ k = K at *
  obtain ⟨n,rfl⟩:∃ n:Nat,x = -((n:Int) + 1):=⟨(-x - 1).toNat,by lia⟩
  have e:(-(-((n:Int) + 1)) - 1).toNat = n:=by lia
  rw [e]
  have hm:n % K < K:=Nat.mod_lt _ (by lia)
  have hd:(n:Int) = (K:Int) * ((n / K:Nat):Int) + ((n % K:Nat):Int):=by exact_mod_cast (Nat.div_add_mod n K).symm
  symm
  have:-((n:Int) + 1) = ((K:Int) - 1 - ((n % K:Nat):Int)) + (K:Int) * (-((n / K:Nat):Int) - 1):=by rw [Int.mul_sub,Int.mul_neg,Int.mul_one]; lia
  rw [this,Int.add_mul_emod_self_left,Int.emod_eq_of_lt (by lia) (by lia)]
  try lia
noncomputable def w3 (x y:Str):Str:=match x,y with
 | ⟨⟨a⟩⟩,⟨⟨b⟩⟩=>⟨⟨a ++ b⟩⟩
theorem ER (x y:Str):w3 x y = x ++ y:=by
 obtain ⟨⟨a⟩⟩:=x; obtain ⟨⟨b⟩⟩:=y
 show (⟨⟨a ++ b⟩⟩:Str) = ⟨(⟨a⟩:Array Nat) ++ ⟨b⟩⟩
 simp
noncomputable def mK (x:Str):Nat:=match x with
 | ⟨⟨a⟩⟩=>a.length
theorem w4 (x:Str):mK x = x.length:=rfl
theorem ES (l m:List Int):bN l ++ bN m = bN (l ++ m):=by unfold bN; simp
theorem gj (l:List Int):(bN l).size = l.length:=by unfold bN; simp
theorem bS.length:∀ {l:List Int} {vs:List Value},bS l vs→vs.length = l.length
 | [],_,r=>r▸rfl
 | _::_,_,r=>by obtain ⟨_,r⟩:=r; exact congrArg (· + 1) (bS.length r)
variable {W:ab}
theorem ET {l b:Addr} {vs ws:List Value} {n n2:Nat} {A:Around} {s:Shared} {Q:Value→Shared→Prop} {E:Value→Shared→Prop} (ho:s.heap.get? l = some (bl vs n)) (ho2:s.heap.get? b = some (bl ws n2)) (hsz:vs.length + ws.length≤sizeLine)
  (h:Q (.ref s.heap.objs.size) { s with heap:=s.heap.push (bl (vs ++ ws) 0) }):aw W A (binaryOp .Add (.ref l) (.ref b)) Q E s:=by
 refine concat_meets ⟨_,ho,rfl⟩ ⟨_,ho2,rfl⟩ noFill_list_add seq_list_add PySem.F.slot_list_add PySem.F.entry_list_add (PySem.F.args_list_add_2 _ _) (list_addW l b vs.toArray ws.toArray n n2 none none #[] #[] (by simpa using hsz)) ⟨ho,ho2,?_⟩
 rw [show vs.toArray ++ ws.toArray = (vs ++ ws).toArray by simp]
 exact h
variable {G:Facts} (hG:Sat W.ρ G)
noncomputable def j3 (W:ab) (op:Operator) (i j r:Int):Prop:=∀ A (x:Shared) tu tv (Q:Value→Shared→Prop) E,(∀ tok tk,Q (.int r tok) { x with toks:=tk })→aw W A (binaryOp op (.int i tu) (.int j tv)) Q E x
theorem j3.ok {op:Operator} {x y r:SE} (h:j3 W op (x.val W.ρ) (y.val W.ρ) (r.val W.ρ)):qn W op (.int x) (.int y) (.int r):=fun A U ad s v u Q E _ rv ru G=>by
 obtain ⟨_⟩:=rv
 obtain ⟨_⟩:=ru
 exact h _ _ _ _ _ _ fun tok tk=>G.here tk (.mk _)
noncomputable def qC {P:SE→Prop} (x r:SE) (k:(x.val W.ρ).natAbs < 2 ^ 62→P r):Out P:=ar (aG (bJ (-4611686018427387903) (bt G x true)) (bJ (-4611686018427387903) (bt G x false))) 10 fun h=>.ok r (k (by
 obtain ⟨h1,h2⟩:=aB h
 have:=cC (fun _=>gc hG) h1
 have:=cC (fun _=>gd hG) h2
 lia))
noncomputable def w5 (k:Int):Out fun n:Nat=>k = n∧1≤n:=match k with
 | .ofNat n=>ar (Nat.ble 1 n) 11 fun h=>.ok n ⟨rfl,Nat.le_of_ble_eq_true h⟩
 | .negSucc _=>.no 12
theorem EU {x:SE} {n:Nat} (h:1≤n) (hn:n.log2 < 600):j3 W .FloorDiv (x.val W.ρ) (n:Int) ((sdiv n x).val W.ρ):=fun _ _ _ _ _ _ hQ=>floordiv_int (by lia) (by rw [Int.fdiv_eq_ediv_of_nonneg _ (by lia),← wW]; exact hQ _ _) (.inl (PyProof.noPylong_of_log2 (by simpa using (by lia:n.log2 < 9000))))
noncomputable def EW (op:Operator) (x:SE) (y:SE):Out fun r:SE=>j3 W op (x.val W.ρ) (y.val W.ρ) (r.val W.ρ):=match op with
 | .Add=>.ok (a9 x y) fun _ _ _ _ _ _ hQ=>add_int (by rw [← cU]; exact hQ _ _)
 | .Sub=>.ok (a9 x (smul (-1) y)) fun _ _ _ _ _ _ hQ=>sub_int (by rw [show x.val W.ρ - y.val W.ρ = (a9 x (smul (-1) y)).val W.ρ by rw [cU,cG]; lia]; exact hQ _ _)
 | .Mult=>(match x,y with
  | .lit k,y=>qC hG (.lit k) (smul k y) fun h _ _ _ _ _ _ hQ=>mul_int (by rw [show (SE.lit k).val W.ρ * y.val W.ρ = (smul k y).val W.ρ by rw [cG]; rfl]; exact hQ _ _) (IntMulOk.of_left (wZ h))
  | x,.lit k=>qC hG (.lit k) (smul k x) fun h _ _ _ _ _ _ hQ=>mul_int (by rw [show x.val W.ρ * (SE.lit k).val W.ρ = (smul k x).val W.ρ by rw [cG,Int.mul_comm]; rfl]; exact hQ _ _) (IntMulOk.of_right (wZ h))
  | _,_=>.no 13)
 | .FloorDiv=>(match y with
  | .lit k=>bd (w5 k) fun n h=>ar (Nat.blt n.log2 600) 14 fun hn=>.ok (sdiv n x) (h.1▸EU h.2 (Nat.blt_eq.mp hn))
  | _=>.no 15)
 | .Mod=>(match y with
  | .lit k=>bd (w5 k) fun n h=>.ok (smod n x) fun _ _ _ _ _ _ hQ=>by
    rw [show (SE.lit k).val W.ρ = (n:Int) from h.1]
    exact mod_int' (by lia) (by rw [Int.fmod_eq_emod_of_nonneg _ (by lia),← wY]; exact hQ _ _)
  | _=>.no 16)
 | .LShift=>(match y with
  | .lit b=>ar (aG (br 0 b) (br b 1000000)) 17 fun h=>qC hG x (smul (p2 b) x) fun hs _ _ _ _ _ _ hQ=>by
    obtain ⟨h1,h2⟩:=aB h
    exact lshift_int_small (dy h1) (dy h2) (by lia) (by rw [show x.val W.ρ * 2 ^ ((SE.lit b).val W.ρ).toNat = (smul (p2 b) x).val W.ρ by rw [cG,qB,Int.mul_comm]; rfl]; exact hQ _ _)
  | _=>.no 18)
 | .RShift=>(match y with
  | .lit b=>ar (aG (br 0 b) (br b 1000000)) 19 fun h=>.ok (sdiv (2 ^ b.toNat) x) fun _ _ _ _ _ _ hQ=>by
    obtain ⟨h1,h2⟩:=aB h
    exact rshift_int (dy h1) (by rw [show (x.val W.ρ).fdiv (2 ^ ((SE.lit b).val W.ρ).toNat) = (sdiv (2 ^ b.toNat) x).val W.ρ by rw [wW,show ((SE.lit b).val W.ρ) = b from rfl,← qB,Int.fdiv_eq_ediv_of_nonneg _ (by unfold p2; exact Int.natCast_nonneg _)]; rfl]; exact hQ _ _)
  | _=>.no 20)
 | .BitAnd=>(match y with
  | .lit b=>ar (aG (br 0 b) (qA (b + 1))) 21 fun h=>.ok (smod (b + 1).toNat x) fun _ _ _ _ _ _ hQ=>by
    obtain ⟨h1,h2⟩:=aB h
    have h1:=dy h1
    have e:=EN h2
    refine and_int ?_
    have e3:Builtin.bitAnd (x.val W.ρ) ((SE.lit b).val W.ρ) = (smod (b + 1).toNat x).val W.ρ:=by
     have:=EO (x.val W.ρ) (Int.ofNat (b + 1).toNat.log2).toNat
     rw [wY,show (((b + 1).toNat:Nat):Int) = b + 1 by lia]
     rwa [show ((2 ^ (Int.ofNat (b + 1).toNat.log2).toNat:Nat):Int) = b + 1 by push_cast; exact e.symm,Int.add_sub_cancel] at this
    rw [e3]; exact hQ _ _
  | _=>.no 22)
 | _=>.no 23
noncomputable def EX (r:SE):{ s:SE // s.val W.ρ = r.val W.ρ }:=match r with
 | .mod a k=>aF (Nat.ble 1 k) (fun h=>⟨jJ G k a,(lM hG (Nat.le_of_ble_eq_true h) a).1⟩) fun _=>⟨.mod a k,rfl⟩
 | .div a k=>aF (Nat.ble 1 k) (fun h=>⟨jK G k a,(lM hG (Nat.le_of_ble_eq_true h) a).2⟩) fun _=>⟨.div a k,rfl⟩
 | r=>⟨toS (bg r 1 (0,[])).1 (bg r 1 (0,[])).2,by
   have:=fk (ρ:=W.ρ) r 1 (0,[])
   rw [eM,this]
   show 0 + 0 + 1 * _ = _
   lia⟩
set_option tactic.hygienic true in
noncomputable def EY (op:Operator) (a b:AV):Out (qn W op a b):=match a,b with
 | .int x,.int y=>bd (EW hG op x y) fun r h=>(match EX hG r with
  | ⟨s,e⟩=>.ok (.int s) (j3.ok (e▸h)))
 | .str x,.str y=>(match op with
  | .Add=>ar (Nat.ble (mK x + mK y) 10000) 24 fun h=>.ok (.str (w3 x y)) fun A U ad s v u Q E _ rv ru G=>by
   have h:=Nat.le_of_ble_eq_true h
   rw [w4,w4] at h
   obtain ⟨_⟩:=rv
   obtain ⟨_⟩:=ru
   exact add_str (fun t' tk=>G.here tk (by rw [← ER]; exact .mk _)) (by rw [sizeLine_eq]; lia)
  | _=>.no 25)
 | .lst x,.lst y=>(match op with
  | .Add=>ar (Nat.ble (x.length + y.length) 10000) 26 fun h=>.ok (.lst (x ++ y)) fun A U ad s v u Q E B rv ru G=>by
   obtain ⟨o1,l1⟩:=rv
   obtain ⟨o2,l2⟩:=ru
   rename_i x1 vs n x2 ws m
   have h:=Nat.le_of_ble_eq_true h
   have k:=ag.push s.heap (bl (vs ++ ws) 0)
   exact ET o1.1 o2.1 (by rw [l1.length,l2.length,sizeLine_eq]; lia) (G _ _ _ k (.mk (gT _ rfl rfl B.low) ((l1.append l2).mono (ag.le k))))
  | _=>.no 27)
 | .bytes x,.bytes y=>(match op with
  | .Add=>ar (Nat.ble (x.length + y.length) 10000) 28 fun h=>.ok (.bytes (x ++ y)) fun A U ad s v u Q E _ rv ru G=>by
   have h:=Nat.le_of_ble_eq_true h
   obtain ⟨_,hx⟩:=rv
   obtain ⟨_,hy⟩:=ru
   refine KBy.add_bytes (by rw [gj,gj,gi,gi]; lia) fun t' k=>G.here k ?_
   rw [ES,← qz]
   exact .mk _ fun z hz=>(List.mem_append.mp (qz W.ρ x y▸hz)).elim (hx z) (hy z)
  | _=>.no 29)
 | _,_=>.no 30
noncomputable def EZ (op:UnaryOp) (a:AV):Out (wO W op a):=match op,a with
 | .USub,.int e=>.ok (.int (smul (-1) e)) fun A U ad s v Q E rv G=>by obtain ⟨_⟩:=rv; exact neg_int (by rw [show -(e.val W.ρ) = (smul (-1) e).val W.ρ by rw [cG]; lia]; exact G.here _ (.mk _))
 | .Not,.bool b=>.ok (.bool (!b)) fun A U ad s v Q E rv G=>by obtain rfl:=rv; exact wpAny_bind (wpAny_truthy_bool (wpAny_pure (G.here s.toks rfl)))
 | .Not,.sb B=>.ok (.sb ⟨B.k,B.e,!B.p⟩) fun A U ad s v Q E rv G=>by
   obtain rfl:=rv
   refine wpAny_bind (wpAny_truthy_bool (wpAny_pure (G.here s.toks ?_)))
   obtain ⟨k,e,p⟩:=B
   show Value.bool _ = Value.bool _
   cases p
   ·exact congrArg _ (Bool.not_not _)
   ·rfl
 | _,_=>.no 31
noncomputable def tr (a:AV):Out (gW W a):=match a with
 | .bool b=>.ok b fun A V v s Q E r h=>by obtain rfl:=r; exact wpAny_truthy_bool h
 | .sb B=>bd (truth hG B) fun t e=>.ok t fun A V v s Q E r h=>by obtain rfl:=r; exact wpAny_truthy_bool (e▸h)
 | .int i=>bd (truth hG ⟨false,i,false⟩) fun t e=>.ok t fun A V v s Q E r h=>by
   obtain ⟨_⟩:=r
   refine truthy_int ?_
   rwa [show (i.val W.ρ != 0) = t from e]
 | .none=>.ok false fun A V v s Q E r h=>by obtain rfl:=r; exact truthy_none h
 | _=>.no 32
end
mutual
noncomputable def g0:AV→Bool
 | .none | .bool _ | .sb _ | .int _ | .str _=>true
 | .tup l | .lst l=>j4 l
 | _=>false
noncomputable def j4:List AV→Bool
 | []=>true
 | a::l=>aG (g0 a) (j4 l)
end
mutual
noncomputable def dat (ρ:Nat→Int):AV→PyData
 | .bool b=>.bool b
 | .sb B=>.bool (B.val ρ)
 | .int e=>.int (e.val ρ)
 | .str x=>.str x
 | .tup l=>.tuple (dE ρ l)
 | .lst l=>.list (dE ρ l)
 | _=>.none
noncomputable def dE (ρ:Nat→Int):List AV→List PyData
 | []=>[]
 | a::l=>dat ρ a::dE ρ l
end
section
variable {W:ab} {V:Vw} {hp:Heap} (s:∀ a o,V.g a o→hp.get? a = some o)
include s
mutual
theorem reads:∀ (a:AV),g0 a = true→∀ v:Value,Rel W V v a→∃ as,Reads hp v (dat W.ρ a) as
 | .none=>fun _ _ r=>r▸⟨_,.none⟩
 | .bool _ | .sb _=>fun _ _ r=>r▸⟨_,.bool _⟩
 | .int _=>fun _ _ r=>by obtain ⟨_⟩:=r; exact ⟨_,.int _ _⟩
 | .str _=>fun _ _ r=>by obtain ⟨_⟩:=r; exact ⟨_,.str _ _⟩
 | .tup l=>fun d _ r=>by obtain ⟨h,r⟩:=r; obtain ⟨_,x⟩:=qD l d _ r; exact ⟨_,.tuple (s _ _ h) rfl rfl (by simpa using x)⟩
 | .lst l=>fun d _ r=>by obtain ⟨h,r⟩:=r; obtain ⟨_,x⟩:=qD l d _ r; exact ⟨_,.list (s _ _ h) rfl rfl (by simpa using x)⟩
 | .bytes _ | .inst _ _ | .dicI _ | .dicS _ | .rng _ _ | .con _ | .blt _ | .any | .anyS | .loc _ | .hole _=>(fun e=>by exact aR e)
theorem qD:∀ (l:List AV),j4 l = true→∀ vs:List Value,ah W V vs l→∃ as,ReadsAll hp vs (dE W.ρ l) as
 | []=>fun _ _ r=>r▸⟨_,.nil⟩
 | a::l=>fun d _ r=>by
  refine af fun nG=>?_
  obtain ⟨h,r⟩:=r
  obtain ⟨d1,d2⟩:=aB d
  obtain ⟨_,x⟩:=reads a d1 _ h
  obtain ⟨_,y⟩:=qD l d2 _ r
  refine nG ?_
  exact ⟨_,.cons x y⟩
end
end
noncomputable def w6 (x:Str):Bool:=match x with
 | ⟨⟨a⟩⟩=>a.all fun c=>Nat.blt c 55296
theorem E0 {x:Str} (h:w6 x = true):PyData.strOk x = true:=by
 obtain ⟨⟨a⟩⟩:=x
 have h:a.all (fun c=>Nat.blt c 55296) = true:=h
 unfold PyData.strOk
 rw [List.all_eq_true] at h
 simp only [List.all_toArray,Array.all_eq_true] at *
 rw [List.all_eq_true]
 exact fun x hx=>decide_eq_true (by have:=Nat.blt_eq.mp (h x hx); lia)
mutual
noncomputable def mL:PyData→Bool
 | .str x=>w6 x
 | .list xs | .tuple xs=>mM xs
 | .dict _=>false
 | _=>true
noncomputable def mM:List PyData→Bool
 | []=>true
 | x::xs=>(match mL x with
  | true=>mM xs
  | false=>false)
end
mutual
theorem w7:∀ {d:PyData},mL d = true→d.canLay0 = true
 | .none,_ | .bool _,_ | .int _,_=>rfl
 | .str x,h=>E0 h
 | .list xs,h | .tuple xs,h=>w8 (xs:=xs) h
 | .dict _,h=>(by exact aR h)
theorem w8:∀ {xs:List PyData},mM xs = true→PyData.canLayAll0 xs = true
 | [],_=>rfl
 | x::xs,h=>by
  unfold mM at h
  cases q:mL x with
  | true=>
   rw [q] at h
   show (PyData.canLay0 x && PyData.canLayAll0 xs) = true
   rw [w7 q,w8 h]; rfl
  | false=>rw [q] at h; exact aR h
end
noncomputable def g6 (d:PyData):Bool:=mL d && Nat.ble d.depth 64
theorem iQ {d:PyData} (h:g6 d = true):SeqAt.shaped d = true:=by
 obtain ⟨h1,h2⟩:=Bool.and_eq_true_iff.mp h
 unfold SeqAt.shaped
 rw [w7 h1]
 exact decide_eq_true (Nat.le_of_ble_eq_true h2)
noncomputable def E1:Bool→CmpOp
 | false=>.Eq
 | true=>.NotEq
noncomputable def mN:Bool→CmpOp
 | false=>.In
 | true=>.NotIn
theorem j5 {W:ab} {U:AS} {h:Heap} {ad:List Addr} {a:AV} {v:Value}:g0 a = true→Rel W ⟨aD U h,ad⟩ v a→∃ as,Reads h v (dat W.ρ a) as:=fun d r=>reads (V:=⟨aD U h,ad⟩) (fun _ _ (e:aD U h _ _)=>e.1) a d _ r
variable {W:ab} {G:Facts} (hG:Sat W.ρ G)
noncomputable def mO (x y:SE):Out fun r:Bool=>(x.val W.ρ == y.val W.ρ) = r:=bd (truth hG ⟨false,a9 x (smul (-1) y),true⟩) fun r h=>.ok r (by
 rw [← h,Bool.eq_iff_iff,beq_iff_eq]
 show _↔decide ((a9 x (smul (-1) y)).val W.ρ = 0) = true
 rw [cU,cG,decide_eq_true_eq]; lia)
theorem E2 {a b q:Bool} (h:a = true) (k:b = q):(a && b) = q:=by rw [h,k]; rfl
theorem E3 {a b:Bool} (h:a = true):(a || b) = true:=by rw [h]; rfl
theorem E4 {a b q:Bool} (h:a = false) (k:b = q):(a || b) = q:=by rw [h,k]; rfl
theorem E5 {a b:Bool} (h:a = false):(a && b) = false:=by rw [h]; rfl
mutual
noncomputable def qE:(a b:AV)→Out fun r:Bool=>PyData.eqv (dat W.ρ a) (dat W.ρ b) = r
 | .int x,.int y=>bd (mO hG x y) fun r h=>.ok r h
 | .str x,.str y=>.ok (sEq x y) (eA x y).symm
 | .none,.none=>.ok true rfl
 | .tup l,.tup m=>qF l m
 | .lst l,.lst m=>qF l m
 | _,_=>.no 40
noncomputable def qF:(a b:List AV)→Out fun r:Bool=>PyData.eqvAll (dE W.ρ a) (dE W.ρ b) = r
 | [],[]=>.ok true rfl
 | [],_::_=>.ok false rfl
 | _::_,[]=>.ok false rfl
 | a::l,b::m=>bd (qE a b) fun r h=>aF r (fun z=>bd (qF l m) fun q k=>.ok q (E2 (h.trans z) k)) fun z=>.ok false (E5 (h.trans z))
end
noncomputable def w9 (a:AV):(l:List AV)→Out fun r:Bool=>((dE W.ρ l).any fun y=>PyData.eqv y (dat W.ρ a)) = r
 | []=>.ok false rfl
 | b::l=>bd (qE hG b a) fun r h=>aF r (fun z=>.ok true (E3 (h.trans z))) fun z=>bd (w9 a l) fun q k=>.ok q (E4 (h.trans z) k)
noncomputable def xa:(a b:List SE)→Out fun r:Bool=>decide (vals W.ρ a = vals W.ρ b) = r
 | [],[]=>.ok true rfl
 | [],_::_=>.ok false rfl
 | _::_,[]=>.ok false rfl
 | a::l,b::m=>bd (mO hG a b) fun r h=>aF r (fun z=>bd (xa l m) fun q k=>.ok q (by
   rw [← k,Bool.eq_iff_iff,decide_eq_true_eq,decide_eq_true_eq]
   show a.val W.ρ::vals W.ρ l = b.val W.ρ::vals W.ρ m↔_
   rw [beq_iff_eq.mp (h.trans z)]; simp)) fun z=>.ok false (decide_eq_false fun e=>beq_eq_false_iff_ne.mp (h.trans z) (List.cons.inj e).1)
variable (W)
noncomputable def E6 (a b:AV) (r:Bool):Prop:=∀ n A U ad s v u (Q:Value→Shared→Prop) (E:Value→Shared→Prop),A.units≤9000→Rel W ⟨aD U s.heap,ad⟩ v a→Rel W ⟨aD U s.heap,ad⟩ u b→Q (.bool (n ^^ r)) s→aw W A (compareOp (E1 n) v u) Q E s
noncomputable def qG (a b:AV) (r:Bool):Prop:=∀ n A U ad s v u (Q:Value→Shared→Prop) (E:Value→Shared→Prop),A.units≤9000→Rel W ⟨aD U s.heap,ad⟩ v a→Rel W ⟨aD U s.heap,ad⟩ u b→(∀ tk,Q (.bool (n ^^ r)) { s with toks:=tk })→aw W A (compareOp (mN n) v u) Q E s
variable {W}
theorem xb {A:Around} (h:A.units≤9000) {k:Nat} (hk:k≤500):A.units + k < cLine:=by unfold cLine; lia
theorem E7 {l m:List Int} (hl:∀ x∈l,0≤x∧x < 256) (hm:∀ x∈m,0≤x∧x < 256):((bN l).toList == (bN m).toList) = decide (l = m):=by
 rw [Bool.eq_iff_iff,beq_iff_eq,decide_eq_true_eq]
 refine ⟨fun h=>?_,fun e=>e▸rfl⟩
 unfold bN at h
 have back:∀ l:List Int,(∀ x∈l,0≤x∧x < 256)→(l.map fun x=>UInt8.ofNat x.toNat).map (fun b=>(b.toNat:Int)) = l:=fun l hl=>by
  rw [List.map_map]
  conv=>rhs; rw [← List.map_id l]
  refine List.map_congr_left fun x hx=>?_
  obtain ⟨h0,h1⟩:=hl x hx
  show ((UInt8.ofNat x.toNat).toNat:Int) = x
  rw [UInt8.toNat_ofNat']; lia
 rw [← back l hl,← back m hm]
 exact congrArg _ h
noncomputable def xc (a b:AV):Out (E6 W a b):=match a,b with
 | .str x,.str y=>.ok (sEq x y) fun n A U ad s v u Q E hu rv ru hQ=>by
   obtain ⟨_⟩:=rv
   obtain ⟨_⟩:=ru
   rw [eA] at hQ
   cases n
   ·exact eq_str (by simpa using hQ)
   ·exact ne_str (by simpa [bne] using hQ)
 | .bytes x,.bytes y=>bd (xa hG x y) fun r h=>.ok r fun n A U ad s v u Q E hu rv ru hQ=>by
   obtain ⟨_,hx⟩:=rv
   obtain ⟨_,hy⟩:=ru
   rw [← h,← E7 hx hy] at hQ
   cases n
   ·exact eq_bytes (by simpa using hQ)
   ·exact ne_bytes (by simpa [bne] using hQ)
 | a,b=>ar (aG (aG (g0 a) (g0 b)) (aG (g6 (dat W.ρ a)) (g6 (dat W.ρ b)))) 41 fun hh=>bd (qE hG a b) fun r h=>.ok r fun n A U ad s v u Q E hu rv ru hQ=>by
   obtain ⟨h12,h34⟩:=aB hh
   obtain ⟨h1,h2⟩:=aB h12
   obtain ⟨h3,h4⟩:=aB h34
   obtain ⟨as,ra⟩:=j5 h1 rv
   obtain ⟨bs,rb⟩:=j5 h2 ru
   rw [← h] at hQ
   cases n
   ·exact eq_dataH ra rb (iQ h3) (iQ h4) (xb hu (by decide)) (by rwa [Bool.false_xor] at hQ)
   ·exact ne_dataH ra rb (iQ h3) (iQ h4) (xb hu (by decide)) (by rwa [Bool.true_xor] at hQ)
noncomputable def qH:List (Str×Str×Bool):=[(⟨#[114,109,56]⟩,⟨#[105,109,109]⟩,false),(⟨#[114,56]⟩,⟨#[105,109,109]⟩,false),(⟨#[114,109,49,54]⟩,⟨#[105,109,109]⟩,false),(⟨#[114,109,51,50]⟩,⟨#[105,109,109]⟩,false),(⟨#[114,109,54,52]⟩,⟨#[105,109,109]⟩,false),(⟨#[114,49,54]⟩,⟨#[105,109,109]⟩,false),(⟨#[114,51,50]⟩,⟨#[105,109,109]⟩,false),(⟨#[114,54,52]⟩,⟨#[105,109,109]⟩,false),(⟨#[111,56]⟩,⟨#[105,109,109]⟩,false),(⟨#[111,49,54]⟩,⟨#[105,109,109]⟩,false),(⟨#[111,51,50]⟩,⟨#[105,109,109]⟩,false),(⟨#[111,54,52]⟩,⟨#[105,109,109]⟩,false),(⟨#[105,109,109,56]⟩,⟨#[105,109,109]⟩,true),(⟨#[105,109,109,49,54]⟩,⟨#[105,109,109]⟩,true),(⟨#[105,109,109,51,50]⟩,⟨#[105,109,109]⟩,true),(⟨#[105,109,109,54,52]⟩,⟨#[105,109,109]⟩,true),(⟨#[115,105,109,109,56]⟩,⟨#[105,109,109]⟩,true),(⟨#[115,105,109,109,51,50]⟩,⟨#[105,109,109]⟩,true),(⟨#[114,101,108,56]⟩,⟨#[105,109,109]⟩,false),(⟨#[114,101,108,51,50]⟩,⟨#[105,109,109]⟩,false),(⟨#[117,105,109,109,56]⟩,⟨#[105,109,109]⟩,true),(⟨#[117,105,109,109,49,54]⟩,⟨#[105,109,109]⟩,true),(⟨#[109]⟩,⟨#[105,109,109]⟩,false),(⟨#[111,110,101]⟩,⟨#[105,109,109]⟩,false),(⟨#[120]⟩,⟨#[105,109,109]⟩,false)]
theorem E8:qH.map (fun e=>!(Builtin.Str.occurrences e.1 e.2.1 0 e.1.length 1).isEmpty) = qH.map (·.2.2):=by decide +kernel
noncomputable def mP (x y:Str):List (Str×Str×Bool)→Option Bool
 | []=>none
 | (a,b,r)::l=>(match sEq x a && sEq y b with
  | true=>some r
  | false=>mP x y l)
theorem xd {x y:Str} {r:Bool}:∀ {l:List (Str×Str×Bool)},mP x y l = some r→(x,y,r)∈l
 | (a,b,r')::l,h=>by
  unfold mP at h
  cases q:(sEq x a && sEq y b)<;>rw [q] at h
  ·exact .tail _ (xd h)
  ·obtain ⟨q1,q2⟩:=Bool.and_eq_true_iff.mp q
   rw [sEq_iff.mp q1,sEq_iff.mp q2,Option.some.inj h]; exact .head _
inductive mQ:AV→List AV→Prop
 | tup (l):mQ (.tup l) l
 | lst (l):mQ (.lst l) l
theorem E9 {a b:AV} {l:List AV} (hl:mQ b l) (h1:g0 a = true) (h2:j4 l = true) (h3:g6 (dat W.ρ a) = true) (h4:g6 (.list (dE W.ρ l)) = true) {r:Bool} (h:((dE W.ρ l).any fun y=>PyData.eqv y (dat W.ρ a)) = r):qG W a b r:=fun n A U ad s v u Q E hu rv ru hQ=>by
 have hQ:=hQ s.toks
 rw [← h] at hQ
 obtain ⟨as,ra⟩:=j5 h1 rv
 have s2:=iQ h4
 have c2:=SeqAt.canLay_of_shaped s2
 have d2:=SeqAt.depth_of_shaped s2
 have s3:=SeqAt.canLay_of_shaped (iQ h3)
 have room:A.units + 1 + min (PyData.depthAll (dE W.ρ l)) (dat W.ρ a).depth < cLine:=by
  have:=Nat.min_le_left (PyData.depthAll (dE W.ρ l)) (dat W.ρ a).depth
  have:PyData.depth (.list (dE W.ρ l)) = PyData.depthAll (dE W.ρ l) + 1:=rfl
  unfold cLine; lia
 rcases hl with _ | _
 ·obtain ⟨bs,rb⟩:=j5 (a:=.tup l) h2 ru
  cases n<;>simp only [Bool.false_xor,Bool.true_xor] at hQ
  ·exact SeqAt.in_tuple_reads rb ra c2 s3 room hQ
  ·exact SeqAt.notIn_tuple_reads rb ra c2 s3 room hQ
 ·obtain ⟨bs,rb⟩:=j5 (a:=.lst l) h2 ru
  cases n<;>simp only [Bool.false_xor,Bool.true_xor] at hQ
  ·exact SeqAt.in_list_reads rb ra c2 s3 room hQ
  ·exact SeqAt.notIn_list_reads rb ra c2 s3 room hQ
noncomputable def xe (a b:AV) (l:List AV) (hl:mQ b l):Out (qG W a b):=ar (aG (aG (g0 a) (j4 l)) (aG (g6 (dat W.ρ a)) (g6 (.list (dE W.ρ l))))) 42 fun hh=>bd (w9 hG a l) fun r h=>.ok r (E9 hl (aB (aB hh).1).1 (aB (aB hh).1).2 (aB (aB hh).2).1 (aB (aB hh).2).2 h)
noncomputable def xf (k:SE):(l:List (Int×AV))→Out fun r:Bool=>∀ kvs V,bO W V kvs l→(valueAt kvs (k.val W.ρ)).isSome = r
 | []=>.ok false fun kvs V h=>by rw [show kvs = [] from h]; rfl
 | (j,x)::l=>bd (mO hG (.lit j) k) fun r h=>bd (xf k l) fun q g=>.ok (r || q) fun kvs V z=>by
   obtain ⟨⟨_⟩,z⟩:=z
   rw [← g _ _ z,← h]
   unfold valueAt
   rw [List.find?_cons]
   show Option.isSome (Option.map _ (match decide (j = k.val W.ρ) with | true=>_ | false=>_)) = ((j == k.val W.ρ) || _)
   rw [show (j == k.val W.ρ) = decide (j = k.val W.ρ) from rfl]
   cases decide (j = k.val W.ρ)<;>rfl
set_option tactic.hygienic true in
noncomputable def inD (a b:AV):Out (qG W a b):=match b,a with
 | .dicI l,.int k=>bd (xf hG k l) fun r h=>.ok r fun n A U ad s v u Q E hu rv ru hQ=>by
   obtain ⟨_⟩:=rv
   obtain ⟨hg,ns,dd,rl⟩:=ru
   rename_i t ad o kvs
   have hm:s.heap.MapOf (intKind pg W.w) ad (valueAt kvs):=Heap.DictOf.mapOf (Heap.dictOf_iff.mpr ⟨o,hg.1,dd⟩)
   have hQ:=hQ (s.toks + 1)
   rw [← h _ _ rl] at hQ
   cases n
   ·exact wpAny_in_of (intKind_is _ _ _ _) ns hm (by rwa [Bool.false_xor] at hQ)
   ·exact wpAny_notIn_of (intKind_is _ _ _ _) ns hm (by rwa [Bool.true_xor] at hQ)
 | .str x,.str y=>bG (mP x y qH) 43 fun r hr=>.ok r fun n A U ad s v u Q E hu rv ru hQ=>by
   obtain ⟨_⟩:=rv
   obtain ⟨_⟩:=ru
   have hQ:=hQ s.toks
   have:=List.map_inj_left.mp E8 _ (xd hr)
   dsimp only at this hQ
   rw [← this] at hQ
   cases n
   ·exact PySem.P.in_str (by simpa using hQ)
   ·exact PySem.P.notIn_str (by simpa using hQ)
 | .tup l,a=>xe hG a _ l (.tup l)
 | .lst l,a=>xe hG a _ l (.lst l)
 | _,_=>.no 44
noncomputable def xg (a:AV):Option { b:Bool //∀ V v,Rel W V v a→(v == .none) = b }:=match a with
 | .none=>some ⟨true,fun _ _ r=>by obtain rfl:=r; rfl⟩
 | .bool _ | .sb _=>some ⟨false,fun _ _ r=>r▸rfl⟩
 | .int _=>some ⟨false,fun _ _ ⟨_⟩=>rfl⟩
 | .str _=>some ⟨false,fun _ _ ⟨_⟩=>rfl⟩
 | .bytes _=>some ⟨false,fun _ _ ⟨_,_⟩=>rfl⟩
 | .tup _=>some ⟨false,fun _ _ ⟨_,_⟩=>rfl⟩
 | .lst _=>some ⟨false,fun _ _ ⟨_,_⟩=>rfl⟩
 | .inst _ _=>some ⟨false,fun _ _ ⟨_,_,_⟩=>rfl⟩
 | .loc _=>some ⟨false,fun _ _ ⟨_⟩=>rfl⟩
 | _=>none
noncomputable def qI (B:SB):AV:=match eN G B with
 | some r=>.bool r
 | none=>.sb B
include hG in
theorem Fb {B:SB} {V:Vw}:Rel W V (.bool (B.val W.ρ)) (qI (G:=G) B):=by
 unfold qI
 cases q:eN G B with
 | none=>exact (rfl:Value.bool _ = _)
 | some r=>exact congrArg _ (jM hG q)
noncomputable def Fe (op:CmpOp) (x y:SE):Out fun B:SB=>∀ A (s:Shared) tu tv (Q:Value→Shared→Prop) E,Q (.bool (B.val W.ρ)) s→aw W A (compareOp op (.int (x.val W.ρ) tu) (.int (y.val W.ρ) tv)) Q E s:=
 have e:∀ a b k:Int,(a + -1 * b + k≤0↔a + k≤b):=fun a b k=>by lia
 match op with
 | .Eq=>.ok ⟨false,a9 x (smul (-1) y),true⟩ fun A s tu tv Q E h=>eq_int (by
   rwa [show (x.val W.ρ == y.val W.ρ) = SB.val W.ρ ⟨false,a9 x (smul (-1) y),true⟩ by
    show _ = decide ((a9 x (smul (-1) y)).val W.ρ = 0)
    rw [Bool.eq_iff_iff,beq_iff_eq,decide_eq_true_eq,cU,cG]; lia])
 | .NotEq=>.ok ⟨false,a9 x (smul (-1) y),false⟩ fun A s tu tv Q E h=>ne_int (by
   rwa [show (x.val W.ρ != y.val W.ρ) = SB.val W.ρ ⟨false,a9 x (smul (-1) y),false⟩ by
    show _ = !decide ((a9 x (smul (-1) y)).val W.ρ = 0)
    rw [Bool.eq_iff_iff,bne_iff_ne,Bool.not_eq_true',decide_eq_false_iff_not,cU,cG]; lia])
 | .Lt=>.ok ⟨true,a9 (a9 x (smul (-1) y)) (.lit 1),true⟩ fun A s tu tv Q E h=>lt_int (by
   rwa [show decide (x.val W.ρ < y.val W.ρ) = SB.val W.ρ ⟨true,a9 (a9 x (smul (-1) y)) (.lit 1),true⟩ from decide_eq_decide.mpr (by rw [cU,cU,cG]; exact (e _ _ 1).symm)])
 | .LtE=>.ok ⟨true,a9 x (smul (-1) y),true⟩ fun A s tu tv Q E h=>le_int (by
   rwa [show decide (x.val W.ρ≤y.val W.ρ) = SB.val W.ρ ⟨true,a9 x (smul (-1) y),true⟩ from decide_eq_decide.mpr (by rw [cU,cG]; lia)])
 | .Gt=>.ok ⟨true,a9 (a9 y (smul (-1) x)) (.lit 1),true⟩ fun A s tu tv Q E h=>gt_int (by
   rwa [show decide (y.val W.ρ < x.val W.ρ) = SB.val W.ρ ⟨true,a9 (a9 y (smul (-1) x)) (.lit 1),true⟩ from decide_eq_decide.mpr (by rw [cU,cU,cG]; exact (e _ _ 1).symm)])
 | .GtE=>.ok ⟨true,a9 y (smul (-1) x),true⟩ fun A s tu tv Q E h=>ge_int (by
   rwa [show decide (y.val W.ρ≤x.val W.ρ) = SB.val W.ρ ⟨true,a9 y (smul (-1) x),true⟩ from decide_eq_decide.mpr (by rw [cU,cG]; lia)])
 | _=>.no 45
noncomputable def Ff (op:CmpOp) (a b:AV):Out (qo W op a b):=match a,b with
 | .int x,.int y=>bd (Fe (W:=W) op x y) fun B h=>.ok (qI (G:=G) B) fun A U ad s v u Q E hu _ rv ru F=>by
   obtain ⟨_⟩:=rv
   obtain ⟨_⟩:=ru
   exact h _ _ _ _ _ _ (F.here s.toks (Fb hG))
 | a,b=>(match op with
  | .Is=>(match b with
   | .none=>(match xg (W:=W) a with
    | some r=>.ok (.bool r.1) fun A U ad s v u Q E hu _ rv ru F=>by obtain rfl:=ru; exact is_none_gen (by rw [r.2 _ _ rv]; exact F.here s.toks rfl)
    | none=>.no 46)
   | _=>.no 47)
  | .IsNot=>(match b with
   | .none=>(match xg (W:=W) a with
    | some r=>.ok (.bool (!r.1)) fun A U ad s v u Q E hu _ rv ru F=>by obtain rfl:=ru; exact isnot_none_gen (by rw [r.2 _ _ rv]; exact F.here s.toks rfl)
    | none=>.no 48)
   | _=>.no 49)
  | .Eq=>bd (xc hG a b) fun r h=>.ok (.bool r) fun A U ad s v u Q E hu _ rv ru F=>h false A U ad s v u Q E hu rv ru (by rw [Bool.false_xor]; exact F.here s.toks rfl)
  | .NotEq=>bd (xc hG a b) fun r h=>.ok (.bool (!r)) fun A U ad s v u Q E hu _ rv ru F=>h true A U ad s v u Q E hu rv ru (by rw [Bool.true_xor]; exact F.here s.toks rfl)
  | .In=>bd (inD hG a b) fun r h=>.ok (.bool r) fun A U ad s v u Q E hu _ rv ru F=>h false A U ad s v u Q E hu rv ru fun tk=>by rw [Bool.false_xor]; exact F.here tk rfl
  | .NotIn=>bd (inD hG a b) fun r h=>.ok (.bool (!r)) fun A U ad s v u Q E hu _ rv ru F=>h true A U ad s v u Q E hu rv ru fun tk=>by rw [Bool.true_xor]; exact F.here tk rfl
  | _=>.no 50)
section
noncomputable def j6 (i:Int) (n:Nat):Option Nat:=match br 0 i with
 | true=>(match Nat.blt i.toNat n with
  | true=>some i.toNat
  | false=>none)
 | false=>(match br 0 (i + Int.ofNat n) with
  | true=>some (i + Int.ofNat n).toNat
  | false=>none)
theorem xh {i:Int} {n j:Nat} (h:j6 i n = some j):seqIndex? i n = some j∧(0≤i→j = i.toNat)∧(i < 0→j = (i + n).toNat∧-(n:Int)≤i):=by
 unfold j6 at h
 unfold seqIndex?
 dsimp only
 cases q:br 0 i<;>rw [q] at h<;>dsimp only at h<;>rw [lI] at q
 ·have q:=of_decide_eq_false q
  cases z:br 0 (i + Int.ofNat n)<;>rw [z] at h<;>cases h
  have z:0≤i + (n:Int):=dy z
  exact ⟨by rw [if_pos (show i < 0 by lia),if_pos (by simp; lia)]; rfl,fun w=>absurd w q,fun _=>⟨rfl,by lia⟩⟩
 ·have q:=of_decide_eq_true q
  cases z:Nat.blt i.toNat n<;>rw [z] at h<;>cases h
  have z:=Nat.blt_eq.mp z
  exact ⟨by rw [if_neg (show ¬ i < 0 by lia),if_pos (by simp; lia)],fun _=>rfl,fun w=>by lia⟩
section
variable {W:ab} {V:Vw}
theorem bI.look {k:Str} {r:AV}:∀ {l:List (Str×AV)} {kvs:List (Str×Value)},bI W V kvs l→lk k l = some r→∃ y,valueAt kvs k = some y∧Rel W V y r
 | (j,a)::l,_,q,e=>by
  obtain ⟨⟨h⟩,q⟩:=q
  rw [c9] at e
  unfold valueAt
  rw [List.find?_cons]
  by_cases z:j = k
  ·rw [if_pos z.symm] at e
   rw [decide_eq_true z]
   exact ⟨_,rfl,Option.some.inj e▸h⟩
  ·rw [if_neg (Ne.symm z)] at e
   rw [decide_eq_false z]
   exact bI.look q e
theorem list_item {A:Around} {s:Shared} {x:Addr} {vs:List Value} {n:Nat} {i:Int} {t:Tok} {j:Nat} {y:Value} {Q:Value→Shared→Prop} {E:Value→Shared→Prop} {val k:Expr} (hk:∀ o i,subscripted k false o i = operate [o,i] (getItem o i)) (ho:s.heap.get? x = some (bl vs n)) (hz:vs.length≤100000) (hj:(0≤i→j = i.toNat)∧(i < 0→j = (i + vs.length).toNat∧-(vs.length:Int)≤i))
  (hy:vs[j]? = some y) (h:Q y s):aw W A (subscriptTail val k (.ref x) (.int i t)) Q E s:=by
 have hl:s.heap.IsList x vs.toArray:=⟨_,ho,rfl,n,rfl⟩
 have hlt:j < vs.length:=(List.getElem?_eq_some_iff.mp hy).1
 refine tail_any hl.typeIs slot_list_getitem.lookup ?_ (hk _ _)
 by_cases q:0≤i
 ·obtain rfl:=hj.1 q
  exact wpAny_getItem_list hl q (by lia) (by simpa using hy) h
 ·obtain ⟨h1,h2⟩:=hj.2 (by lia)
  subst h1
  exact wpAny_getItem_list_neg hl (by lia) (by simpa using h2) (by lia) (by simpa using hy) h
end
theorem xi {l:List Int} (hx:∀ x∈l,0≤x∧x < 256) {n:Nat} (h:n < l.length):(((l.map fun x=>UInt8.ofNat x.toNat).getD n 0).toNat:Int) = l.getD n 0:=by
 have eg:l.getD n 0 = l[n]:=by simp [h]
 obtain ⟨h0,h1⟩:=hx _ (eg▸List.getElem_mem h)
 rw [show (l.map fun x=>UInt8.ofNat x.toNat).getD n 0 = UInt8.ofNat (l.getD n 0).toNat by simp [h],UInt8.toNat_ofNat']
 generalize l.getD n 0 = z at *
 rw [Nat.mod_eq_of_lt (show z.toNat < 2 ^ 8 by lia)]; lia
theorem qJ {ρ:Nat→Int}:∀ {l:List SE} {n:Nat} {e:SE},l[n]? = some e→(vals ρ l).getD n 0 = e.val ρ∧n < l.length
 | _::_,0,_,h=>⟨congrArg (SE.val ρ) (Option.some.inj h),Nat.succ_pos _⟩
 | _::l,n + 1,e,h=>let ⟨a,b⟩:=qJ (l:=l) (n:=n) h; ⟨a,Nat.succ_lt_succ b⟩
variable {W:ab} {G:Facts} (hG:Sat W.ρ G)
noncomputable def eW (e:SE):Out fun i:Int=>e.val W.ρ = i:=de (bt G e true) (fun a ha=>de (bt G e false) (fun b hb=>aF (bc a (-b)) (fun h=>.ok a (by
  have:=gc hG ha; have:=gd hG hb; have:=dN h; lia)) fun _=>.ask ⟨true,a9 e (.lit (-a)),true⟩) fun _=>.no 60) fun _=>.no 61
noncomputable def litsOf:(l:List AV)→Option { r:List Int //∀ W V vs,ah W V vs l→bS r vs }
 | []=>some ⟨[],fun _ _ _ r=>r⟩
 | .int (.lit i)::l=>(match litsOf l with
  | some r=>some ⟨i::r.1,fun _ _ _ ⟨h,q⟩=>.mk h (r.2 _ _ _ q)⟩
  | none=>none)
 | _=>none
theorem bS.get:∀ {l:List Int} {vs:List Value} {n:Nat},bS l vs→n < l.length→∃ t,vs[n]? = some (.int (l.getD n 0) t)
 | _::_,_,n,r,h=>by
  obtain ⟨⟨t⟩,r⟩:=r
  cases n with
  | zero=>exact ⟨t,rfl⟩
  | succ n=>exact bS.get (n:=n) r (Nat.lt_of_succ_lt_succ h)
set_option tactic.hygienic true in
theorem xj {l:List AV} {i:Int} {k:AV} {j:Nat} {x:AV} (hk:∀ V v,Rel W V v k→bK i v) (hz:Nat.ble l.length 100000 = true) (hj:j6 i l.length = some j) (hx:l[j]? = some x):jX W (.lst l) k x∧jX W (.tup l) k x:=by
 refine ⟨fun A U ad s v u k val Q E hs B rv ru G=>?_,fun A U ad s v u k val Q E hs B rv ru G=>?_⟩<;>obtain ⟨ho,rl⟩:=rv<;>obtain ⟨t⟩:=hk _ _ ru<;>obtain ⟨y,hy,ry⟩:=rl.get hx<;>have hl:=rl.length
 ·exact list_item hs ho.1 (hl▸Nat.le_of_ble_eq_true hz) (hl▸(xh hj).2) hy (G.here s.toks ry)
 ·rename_i a vs n
  have ht:IsTup s.heap a vs.toArray:=⟨_,ho.1,rfl,n,rfl⟩
  obtain ⟨j0,j1,j2⟩:=xh hj
  have hlt:j < vs.length:=(List.getElem?_eq_some_iff.mp hy).1
  have hz:=Nat.le_of_ble_eq_true hz
  refine tail_any ht.typeIs slot_tuple_getitem.lookup (getItem_tuple (j:=j) (x:=y) ht ?_ ?_ (by rw [List.size_toArray,hl]; exact j0) (by simpa using hy) (G.here s.toks ry)) (hs _ _)
  ·by_cases q:i < 0
   ·have:=j2 q; lia
   ·lia
  ·by_cases q:i < 0
   ·lia
   ·have:=j1 (by lia); lia
noncomputable def xk (k:SE):(l:List (Int×AV))→Out fun r:AV=>∀ kvs V,bO W V kvs l→∃ y,valueAt kvs (k.val W.ρ) = some y∧Rel W V y r
 | []=>.no 62
 | (j,x)::l=>bd (mO hG (.lit j) k) fun r h=>aF r (fun z=>.ok x fun kvs V q=>by
   obtain ⟨⟨q⟩,_⟩:=q
   have z:j = k.val W.ρ:=beq_iff_eq.mp (h.trans z)
   unfold valueAt
   rw [List.find?_cons,show decide (j = k.val W.ρ) = true from decide_eq_true z]
   exact ⟨_,rfl,q⟩) fun z=>bd (xk k l) fun r g=>.ok r fun kvs V q=>by
   obtain ⟨⟨_⟩,q⟩:=q
   have z:j≠k.val W.ρ:=beq_eq_false_iff_ne.mp (h.trans z)
   unfold valueAt
   rw [List.find?_cons,show decide (j = k.val W.ρ) = false from decide_eq_false z]
   exact g _ _ q
noncomputable def hSub (a k:AV):Out (jX W a k):=match a,k with
 | .lst l,.int e=>(match litsOf l,Nat.ble 3 l.length with
  | some r,true=>ar (aG (aG (bJ 0 (bt G e true)) (bJ (1 - r.1.length) (bt G e false))) (Nat.ble r.1.length 100000)) 63 fun hh=>.ok (.int (.tab r.1 e)) fun A U ad s v u k val Q E hs B rv ru F=>by
    obtain ⟨h12,h3⟩:=aB hh
    obtain ⟨h1,h2⟩:=aB h12
    have h1:=cC (fun _=>gc hG) h1
    have h2:=cC (fun _=>gd hG) h2
    have h3:=Nat.le_of_ble_eq_true h3
    obtain ⟨ho,rl⟩:=rv
    obtain ⟨_⟩:=ru
    have ri:=r.2 _ _ _ rl
    have hl:=ri.length
    obtain ⟨t,hy⟩:=ri.get (n:=(e.val W.ρ).toNat) (by lia)
    exact list_item hs ho.1 (by lia) ⟨fun _=>rfl,fun q=>by lia⟩ hy (F.here s.toks (.mk _))
  | _,_=>bd (eW hG e) fun i h=>ar (Nat.ble l.length 100000) 64 fun hz=>bG (j6 i l.length) 65 fun j hj=>bG l[j]? 66 fun x hx=>.ok x (xj (fun V v r=>h▸r) hz hj hx).1)
 | .tup l,.int e=>bd (eW hG e) fun i h=>ar (Nat.ble l.length 100000) 67 fun hz=>bG (j6 i l.length) 68 fun j hj=>bG l[j]? 69 fun x hx=>.ok x (xj (fun V v r=>h▸r) hz hj hx).2
 | .bytes l,.int e=>bd (eW hG e) fun i h=>ar (aG (br 0 i) (Nat.ble l.length 100000)) 70 fun hi=>bG l[i.toNat]? 71 fun x hx=>.ok (.int x) fun A U ad s v u k val Q E hk B rv ru F=>by
   obtain ⟨_,hb⟩:=rv
   obtain ⟨_⟩:=ru
   rw [h]
   obtain ⟨e1,e2⟩:=qJ (ρ:=W.ρ) hx
   have h0:=dy (aB hi).1
   have hz:=Nat.le_of_ble_eq_true (aB hi).2
   have e3:=gi W.ρ l
   refine tail_any (PySem.W.typeIs_bytes _ _ _) FB.slot_bytes_getitem.lookup ?_ (hk _ _)
   unfold bN
   exact PySem.W.getItem_bytes (by rw [List.length_map]; lia) h0 (by rw [List.length_map]; lia) (by rw [xi hb (by lia),e1]; exact F.here _ (.mk _))
 | .dicI l,.int k=>bd (xk hG k l) fun x hx=>.ok x fun A U ad s v u k val Q E hk B rv ru F=>by
   obtain ⟨ho,ns,dd,rl⟩:=rv
   obtain ⟨_⟩:=ru
   obtain ⟨y,hy,ry⟩:=hx _ _ rl
   have hm:=Heap.DictOf.mapOf (Heap.dictOf_iff.mpr ⟨_,ho.1,dd⟩)
   exact tail_any hm.typeIs slot_dict_getitem.lookup (wpAny_getItem_of (intKind_is _ _ _ _) hm hy (F.here _ ry)) (hk _ _)
 | .dicS l,.str k=>bG (lk k l) 72 fun x hx=>.ok x fun A U ad s v u k val Q E hk B rv ru F=>by
   obtain ⟨ho,ns,dd,rl⟩:=rv
   obtain ⟨_⟩:=ru
   obtain ⟨y,hy,ry⟩:=rl.look hx
   have hm:=Heap.DictOf.mapOf (Heap.dictOf_iff.mpr ⟨_,ho.1,dd⟩)
   exact tail_any hm.typeIs slot_dict_getitem.lookup (wpAny_getItem_of (strKind_is _ _ _ _) hm hy (F.here _ ry)) (hk _ _)
 | _,_=>.no 73
noncomputable def cut {α:Type} (l:List α) (lo hi:Option Int):List α:=(l.drop (lo.elim 0 (clipAt l.length))).take (hi.elim l.length (clipAt l.length) - lo.elim 0 (clipAt l.length))
theorem xl (ρ:Nat→Int) (l:List SE) (lo hi:Option Int):cut (vals ρ l) lo hi = vals ρ (cut l lo hi):=by
 have e:∀ l:List SE,vals ρ l = l.map (·.val ρ):=fun l=>by
  induction l with
  | nil=>rfl
  | cons a l ih=>exact congrArg _ ih
 rw [e,e]; unfold cut; rw [List.length_map,List.map_take,List.map_drop]
theorem ah.drop {V:Vw}:∀ {n:Nat} {l:List AV} {vs:List Value},ah W V vs l→ah W V (vs.drop n) (l.drop n)
 | 0,_,_,h=>h
 | _ + 1,[],_,r=>by rw [show _ = [] from r]; exact rfl
 | n + 1,_::_,_,.mk _ r=>ah.drop (n:=n) r
theorem ah.take {V:Vw}:∀ {n:Nat} {l:List AV} {vs:List Value},ah W V vs l→ah W V (vs.take n) (l.take n)
 | 0,_,_,_=>rfl
 | _ + 1,[],_,r=>by rw [show _ = [] from r]; exact rfl
 | n + 1,_::_,_,.mk h r=>.mk h (ah.take (n:=n) r)
set_option tactic.hygienic true in
noncomputable def Fg (a:AV) (lo hi:Option Int):Out (wQ W a lo hi):=match a with
 | .str x=>ar (Nat.ble (mK x) 100000) 74 fun hb=>.ok (.str (Txt.slice x lo hi)) fun A U ad s v b l u Q E B rv pl pu hs G=>by
   obtain ⟨t⟩:=rv
   have hb:x.length≤100000:=Nat.le_of_ble_eq_true hb
   have go:∀ l' u':Option (Int×Tok),partValue l' = l→partValue u' = u→l'.map (·.1) = lo→u'.map (·.1) = hi→ItemOn (model pg W.w) A E (.str x t) (.ref b) Q s:=by
    rintro l' u' rfl rfl rfl rfl
    obtain ⟨o,ho,hc,hd⟩:=hs
    exact ⟨"str",_,F.slot_str_getitem.lookup,typeIs_str _ _ _,wpAny_getItem_str_slice (l:=l') (u:=u') (st:=none) ⟨o,ho,hc,hd⟩ rfl (post_val_or_str ⟨Nat.le_trans (Txt.slice_le x _ _) (by rw [sizeLine_eq]; lia),fun t' k=>G.here k (.mk _)⟩)⟩
   cases pl<;>cases pu
   ·exact go none none rfl rfl rfl rfl
   ·exact go none (some (_,_)) rfl rfl rfl rfl
   ·exact go (some (_,_)) none rfl rfl rfl rfl
   ·exact go (some (_,_)) (some (_,_)) rfl rfl rfl rfl
 | .bytes l0=>ar (Nat.ble l0.length 100000) 75 fun hz=>.ok (.bytes (cut l0 lo hi)) fun A U ad s v b l u Q E B rv pl pu hs G=>by
   obtain ⟨t,hx⟩:=rv
   have hz:=Nat.le_of_ble_eq_true hz
   have e3:=gi W.ρ l0
   refine ⟨"bytes",_,FB.slot_bytes_getitem.lookup,PySem.W.typeIs_bytes _ _ _,getItem_meets (PySem.W.typeIs_bytes _ _ _) (by decide) FB.slot_bytes_getitem FB.entry_bytes_getitem (FB.args_bytes_getitem_2 _ _) (KBc.meets_slice2 (bN (vals W.ρ l0)) t b pl pu) ⟨hs,?_,fun t' k=>?_⟩⟩
   ·have:=KBc.size_picked_le (bN (vals W.ρ l0)) lo hi
    rw [gj] at this
    rw [sizeLine_eq]; lia
   ·rw [show KBy.picked (bN (vals W.ρ l0)) lo hi = bN (vals W.ρ (cut l0 lo hi)) by rw [← xl,KBc.picked_eq,gj]; unfold bN cut; rw [List.map_take,List.map_drop]]
    exact G.here k (.mk _ fun x hm=>hx x (by rw [← xl] at hm; exact List.mem_of_mem_drop (List.mem_of_mem_take hm)))
 | .lst l0=>ar (Nat.ble l0.length 100000) 76 fun hz=>.ok (.lst (cut l0 lo hi)) fun A U ad s v b l u Q E B rv pl pu hs G=>by
   obtain ⟨ho,rl⟩:=rv
   rename_i x vs n
   have hz:=Nat.le_of_ble_eq_true hz
   have hl:=rl.length
   have il:s.heap.IsList x vs.toArray:=⟨_,ho.1,rfl,n,rfl⟩
   refine ⟨"list",_,slot_list_getitem.lookup,il.typeIs,wpAny_getItem_list_slice il hs pl pu .none (by simp) ?_ (by rw [List.size_toArray,sizeLine_eq]; lia)⟩
   rw [show slicePick vs.toArray lo hi none = (cut vs lo hi).toArray by rw [slicePick_plain]; unfold cut; simp]
   have k:=ag.push s.heap (bl (cut vs lo hi) 0)
   exact G _ _ _ k (.mk (gT _ rfl rfl B.low) ((show ah W _ (cut vs lo hi) (cut l0 lo hi) by unfold cut; rw [hl]; exact rl.drop.take).mono (ag.le k)))
 | _=>.no 77
end
section
variable {prog:Program} {w:World} {A:Around} {E:Value→Shared→Prop} {s:Shared}
theorem Fh:typeLookup (.type "bytes") "__len__" = pure (some (.builtin "bytes.__len__")):=by rw [typeLookup_type,builtinLookup_eq_fast]; kernel_rfl
noncomputable abbrev qK (b:Array UInt8) (i:Nat) (v:Value):Prop:=∃ c u,b[i]? = some c∧v = .int (c.toNat:Int) u
theorem Fi {R:Result→Shared→Prop} (hh:A.handled = none) (b:Array UInt8) (t:Tok) (S:Addr) (res:Value) (c₀:Nat) (hS:s.heap.get? S = some { cls:=.type "list",data:=.seq #[] c₀ }) (hn:b.size≤sizeLine)
  (hR:∀ h' tk acc' c',(∀ b o,b≠S→s.heap.get? b = some o→h'.get? b = some o)→h'.get? S = some { cls:=.type "list",dict:=none,data:=.seq acc' c',slots:=#[] }→ItemsOf (qK b) acc' b.size→R (.ok (.ret res)) { s with heap:=h',toks:=tk }):
  wpAny (model prog w) A.in1 (Builtin.List.listExtendWith (.ref S) (.bytes b t) res)
   (fun fin s'=>match fin with | .done f=>R (.ok f) s' | .again c'=>c'.quiet = true∧codeAny (model prog w) A c' R s') (fun e s'=>R (.error e) s') s:=by
 have hSI:S≠s.heap.objs.size:=Nat.ne_of_lt (Heap.lt_size hS)
 have hSf:S∉[s.heap.objs.size]:=fun hm=>hSI (List.mem_singleton.mp hm)
 unfold Builtin.List.listExtendWith
 refine wpAny_bind (wpAny_typeOf (T:="bytes") (v:=.bytes b t) rfl ?_)
 have h1:Builtin.List.listSameRef (.ref S) (.bytes b t) = false:=rfl
 have h2:(Value.type "bytes" == Value.type "list") = false:=by decide
 have h3:(Value.type "bytes" == Value.type "tuple") = false:=by decide
 simp only [h1,h2,h3,Bool.or_false,Bool.false_eq_true,if_false]
 refine wpAny_bind (KBw.pyIter_bytes ?_)
 refine wpAny_bind (wpAny_holding ?_)
 unfold Builtin.List.listLengthHint
 refine wpAny_bind (wpAny_specialOf (T:="bytes") (v:=.bytes b t) rfl Fh ?_)
 wp_delta
 refine wpAny_bind (wpAny_isInstance (T:="bytes") (v:=.bytes b t) (b:=true) rfl (by rw [isSubtype_type]; kernel_rfl) ?_)
 show wpAny _ _ (typeOf (Value.bytes b t) >>= _) _ _ _
 refine wpAny_bind (wpAny_typeOf (T:="bytes") (v:=.bytes b t) rfl ?_)
 refine wpAny_pure ?_
 rw [if_neg (by decide)]
 have W:=KBw.walks (prog:=prog) (w:=w) (A:=A.in1) hh s.heap.objs.size b t
 refine wpAny_pure ⟨plainId_quiet F.plain_extend_loop _,codeAny_extend_loopS W.toS hn _ hSf _ b.size 0 _ _ _ rfl (Nat.zero_le _) ⟨_,Heap.get?_push_size _ rfl,rfl,rfl⟩ (Heap.get?_push_of_some _ hS) (ItemsOf.nil _) fun s' acc' c' hm hS' hacc=>?_⟩
 rw [Moved.eq_with hm]
 refine hR s'.heap s'.toks acc' c' (fun b ob hb e=>hm.heap b ob (fun hmem=>?_) (Heap.get?_push_of_some _ e)) hS' hacc
 rcases List.mem_cons.mp hmem with e' | hmem
 ·exact hb e'
 ·exact absurd (Heap.lt_size e) (by rw [List.mem_singleton.mp hmem]; exact Nat.lt_irrefl _)
theorem Fj {R:Result→Shared→Prop} (hh:A.handled = none) (b:Array UInt8) (t:Tok) (S:Addr) (hS:s.heap.get? S = some { cls:=.type "list",data:=.seq #[] }) (hn:b.size≤sizeLine)
  (hR:∀ h' tk acc' c',(∀ b o,b≠S→s.heap.get? b = some o→h'.get? b = some o)→h'.get? S = some { cls:=.type "list",dict:=none,data:=.seq acc' c',slots:=#[] }→ItemsOf (qK b) acc' b.size→R (.ok (.ret .none)) { s with heap:=h',toks:=tk }):
  wpAny (model prog w) A.in1 (Builtin.«list.__init__» ⟨[.ref S,.bytes b t],[]⟩)
   (fun fin s'=>match fin with | .done f=>R (.ok f) s' | .again c'=>c'.quiet = true∧codeAny (model prog w) A c' R s') (fun e s'=>R (.error e) s') s:=by
 show wpAny _ _ (do let old ← Builtin.List.listItems (.ref S); Builtin.List.listUpdate (.ref S) (fun _=>#[]); letGo old.toList.reverse; Builtin.List.listExtendWith (.ref S) (.bytes b t) .none) _ _ s
 refine wpAny_bind ?_
 unfold Builtin.List.listItems
 refine wpAny_bind (wpAny_seqItems hS rfl (wpAny_pure ?_))
 show wpAny _ _ (updateSeq S (fun _=>#[]) >>= fun _=>letGo (#[]:Array Value).toList.reverse >>= fun _=>Builtin.List.listExtendWith (.ref S) (.bytes b t) .none) _ _ s
 refine wpAny_bind (wpAny_updateSeq hS rfl ?_)
 have hS₂:=Heap.get?_update_self (Obj.mapSeq (fun _=>(#[]:Array Value))) hS rfl
 have oth:∀ b o,b≠S→s.heap.get? b = some o→(s.heap.update S (Obj.mapSeq (fun _=>(#[]:Array Value)))).get? b = some o:=
  fun b o hb e=>(Heap.get?_update_other _ _ (Ne.symm hb)).trans e
 refine wpAny_bind (wpAny_letGo ?_)
 refine Fi hh b t S .none _ hS₂ hn fun h' tk acc' c' hk hS' hacc=>?_
 exact hR h' tk acc' c' (fun b o hb e=>hk b o hb (oth b o hb e)) hS' hacc
theorem Fm {Q:Value→Shared→Prop} (hh:A.handled = none) (b:Array UInt8) (t:Tok) (hn:b.size≤sizeLine)
  (hQ:∀ h' tk acc' c',(∀ b o,s.heap.get? b = some o→h'.get? b = some o)→h'.get? s.heap.objs.size = some { cls:=.type "list",dict:=none,data:=.seq acc' c',slots:=#[] }→ItemsOf (qK b) acc' b.size→Q (.ref s.heap.objs.size) { s with heap:=h',toks:=tk }):
  wpAny (model prog w) A (call (.type "list") [.bytes b t]) Q E s:=by
 refine callType_codes (Q₁:=fun obj s₁=>obj = .ref s.heap.objs.size∧s₁ = { s with heap:=s.heap.push { cls:=.type "list",data:=.seq #[] } }) F.called_list (F.typeCall_list_1 _) F.entry_list_init
  (code_list_new _ ⟨rfl,rfl⟩) fun obj s₁ h₁=>?_
 obtain ⟨rfl,rfl⟩:=h₁
 have hS:(s.heap.push { cls:=.type "list",data:=.seq #[] }).get? s.heap.objs.size = some { cls:=.type "list",data:=.seq #[] }:=Heap.get?_push_size _ rfl
 refine ⟨⟨_,hS,rfl⟩,F.args_list_init_2 _ _,Fj (A:=A.in1) hh b t _ hS hn fun h' tk acc' c' hk hS' hacc=>?_⟩
 exact ⟨rfl,hQ h' tk acc' c' (fun b o e=>hk b o (Nat.ne_of_lt (Heap.lt_size e)) (Heap.get?_push_of_some _ e)) hS' hacc⟩
end
noncomputable section
theorem qL {a:Int} {n:Nat} (h:jQ a n = true):n≤1000000∧Builtin.Range.small a (a + n) 1 = true∧Builtin.Range.rangeSize a (a + n) 1 = n:=by
 refine af fun nG=>?_
 unfold jQ at h
 simp only [Bool.and_eq_true,decide_eq_true_eq] at h
 obtain ⟨⟨h0,h1⟩,h2⟩:=h
 refine nG ?_
 have h0:=Nat.le_of_ble_eq_true h0
 have hsz:Builtin.Range.rangeSize a (a + n) 1 = n:=by
  unfold Builtin.Range.rangeSize
  rw [if_pos (by decide)]
  split<;>lia
 refine ⟨h0,?_,hsz⟩
 unfold Builtin.Range.small
 rw [hsz]
 unfold Builtin.Range.rangeFitsLong
 simp only [Bool.and_eq_true,decide_eq_true_eq,Bool.or_eq_true]
 refine ⟨⟨⟨⟨⟨?_,?_⟩,?_,?_⟩,?_,?_⟩,?_,?_⟩,?_⟩<;>first | lia | (right; rw [if_pos (by decide)]; simp; lia)
noncomputable def iR (a:Int):Nat→List AV
 | 0=>[]
 | n + 1=>.int (.lit a)::iR (a + 1) n
theorem Fo (l:List Int):byteArr l = bN l:=by unfold byteArr bN; congr 1
variable {W:ab} {G:Facts} (hG:Sat W.ρ G)
noncomputable def qM:(l:List AV)→Option { r:List SE //∀ W V vs,ah W V vs l→bS (vals W.ρ r) vs }
 | []=>some ⟨[],fun _ _ _ r=>r⟩
 | .int e::l=>(match qM l with
  | some r=>some ⟨e::r.1,fun _ _ _ ⟨h,q⟩=>.mk h (r.2 _ _ _ q)⟩
  | none=>none)
 | _=>none
theorem bS.are:∀ {l:List Int} {vs:List Value},bS l vs→IntsAre vs l
 | [],_,r=>r▸.nil
 | _::_,_,r=>by obtain ⟨⟨_⟩,r⟩:=r; exact .cons _ _ (bS.are r)
noncomputable def qN:List SE→List AV
 | []=>[]
 | e::l=>.int e::qN l
theorem Fp {V:Vw} {n:Nat}:∀ {a:Int} {vs:List Value},vs.length = n→(∀ i,i < n→∃ t,vs[i]? = some (.int (a + i) t))→ah W V vs (iR a n):=by
 induction n with
 | zero=>exact fun hl _=>List.eq_nil_of_length_eq_zero hl
 | succ n ih=>
  intro a vs hl h
  obtain ⟨t,ht⟩:=h 0 (Nat.succ_pos _)
  cases vs with
  | nil=>exact aq ht
  | cons v vs=>
   obtain rfl:v = .int (a + (0:Nat)) t:=Option.some.inj ht
   refine .cons (show bK a _ by rw [Int.natCast_zero,Int.add_zero]; exact .mk t) (ih (Nat.succ.inj hl) fun i hi=>?_)
   obtain ⟨t,ht⟩:=h (i + 1) (Nat.succ_lt_succ hi)
   exact ⟨t,by rw [show a + 1 + (i:Int) = a + ((i + 1:Nat):Int) by push_cast; lia]; exact ht⟩
noncomputable def xm:(l:List SE)→Out fun _:Unit=>∀ x∈vals W.ρ l,0≤x∧x < 256
 | []=>.ok () fun _ m=>(List.not_mem_nil m).elim
 | e::l=>ar (aG (bJ 0 (bt G e true)) (bJ (-255) (bt G e false))) 80 fun h=>bd (xm l) fun _ k=>.ok () fun x m=>by
  obtain ⟨h1,h2⟩:=aB h
  have h1:=cC (fun _=>gc hG) h1
  have h2:=cC (fun _=>gd hG) h2
  rcases List.mem_cons.mp m with rfl | m
  ·exact ⟨h1,by lia⟩
  ·exact k x m
variable (W)
noncomputable def bU (n:Nat) (as:List AV) (r:AV):Prop:=∀ A U ad s vs (Q:Value→Shared→Prop) (E:Value→Shared→Prop),A.handled = none→Base W U s.heap→ah W ⟨aD U s.heap,ad⟩ vs as→Got W U ad s r Q→aw W A (call (dC n) vs) Q E s
theorem one {n:Nat} {a r:AV} (h:∀ A U ad s v (Q:Value→Shared→Prop) (E:Value→Shared→Prop),A.handled = none→Base W U s.heap→Rel W ⟨aD U s.heap,ad⟩ v a→Got W U ad s r Q→aw W A (call (dC n) [v]) Q E s):bU W n [a] r:=fun A U ad s vs Q E hh B rl G=>by
 obtain ⟨rv,rl⟩:=rl
 obtain rfl:=rl
 exact h A U ad s _ Q E hh B rv G
variable {W}
set_option tactic.hygienic true in
noncomputable def Fq (a:AV):Out (bU W 0 [a]):=match a with
 | .lst l=>ar (Nat.ble l.length 100000) 81 fun hb=>.ok (.int (.lit (Int.ofNat l.length))) (one W fun A U ad s v Q E hh B rv G=>by
   obtain ⟨ho,rl⟩:=rv
   rename_i vs n
   have hl:=rl.length
   have hb:=Nat.le_of_ble_eq_true hb
   exact call_len_list (items:=vs.toArray) ⟨_,ho.1,rfl,n,rfl⟩ (by simp; lia) (G.here _ (by rw [List.size_toArray,hl]; exact .mk _)))
 | .tup l=>ar (Nat.ble l.length 100000) 82 fun hb=>.ok (.int (.lit (Int.ofNat l.length))) (one W fun A U ad s v Q E hh B rv G=>by
   obtain ⟨ho,rl⟩:=rv
   rename_i vs n
   have hl:=rl.length
   have hb:=Nat.le_of_ble_eq_true hb
   exact len_tuple (items:=vs.toArray) ⟨_,ho.1,rfl,n,rfl⟩ (by simp; lia) (G.here _ (by rw [List.size_toArray,hl]; exact .mk _)))
 | .bytes l=>ar (Nat.ble l.length 100000) 83 fun hb=>.ok (.int (.lit (Int.ofNat l.length))) (one W fun A U ad s v Q E hh B rv G=>by
   obtain ⟨_,hx⟩:=rv
   have hb:=Nat.le_of_ble_eq_true hb
   exact PySem.W.len_bytes (by rw [gj,gi]; lia) (G.here _ (by rw [gj,gi]; exact .mk _)))
 | _=>.no 84
noncomputable def Ft:(as:List AV)→Out (bU W 1 as)
 | [.int n]=>bd (eW hG n) fun n hn=>ar (aG (br 0 n) (jQ 0 n.toNat)) 85 fun hb=>.ok (.rng 0 n.toNat) (one W fun A U ad s v Q E hh B rv G=>by
   obtain ⟨h1,h2⟩:=aB hb
   have h1:=dy h1
   obtain ⟨t⟩:=rv
   rw [hn]
   refine call_range_1 (G _ _ _ (ag.push _ _) (.mk (t:=s.toks) (u:=t) (v:=s.toks + 1) ?_ h2))
   rw [Int.zero_add,Int.toNat_of_nonneg h1]
   exact gT _ rfl rfl B.low)
 | [.int a,.int b]=>bd (eW hG a) fun a ha=>bd (eW hG b) fun b hb'=>ar (aG (br a b) (jQ a (b - a).toNat)) 86 fun hb=>.ok (.rng a (b - a).toNat) fun A U ad s vs Q E hh B rl G=>by
   obtain ⟨h1,h2⟩:=aB hb
   have h1:=dy h1
   obtain ⟨⟨t⟩,⟨u⟩,rl⟩:=rl
   obtain rfl:=rl
   rw [ha,hb']
   refine call_range_2 (G _ _ _ (ag.push _ _) (.mk (t:=t) (u:=u) (v:=s.toks) ?_ h2))
   rw [show a + (((b - a).toNat:Nat):Int) = b by lia]
   exact gT _ rfl rfl B.low
 | _=>.no 87
noncomputable def Fu (a:AV):Out (bU W 2 [a]):=match a with
 | .int e=>.ok (.int e) (one W fun A U ad s v Q E hh B rv G=>by obtain ⟨t⟩:=rv; exact call_int_int (G.here s.toks (.mk _)))
 | .bool true=>.ok (.int (.lit 1)) (one W fun A U ad s v Q E hh B rv G=>by obtain rfl:=rv; exact call_int_bool (G.here _ (.mk _)))
 | .bool false=>.ok (.int (.lit 0)) (one W fun A U ad s v Q E hh B rv G=>by obtain rfl:=rv; exact call_int_bool (G.here _ (.mk _)))
 | .sb ⟨k,e,true⟩=>.ok (.int (.bit k e)) (one W fun A U ad s v Q E hh B rv G=>by obtain rfl:=rv; exact call_int_bool (G.here _ (.mk _)))
 | _=>.no 88
theorem xn {e r:SE} (h:r.val W.ρ = if e.val W.ρ < 0 then -(e.val W.ρ) else e.val W.ρ):bU W 3 [.int e] (.int r):=one W fun A U ad s v Q E hh B rv G=>by
 obtain ⟨t⟩:=rv
 exact call_abs_int fun u tk=>G.here _ (by rw [← h]; exact .mk _)
noncomputable def Fv (a:AV):Out (bU W 3 [a]):=match a with
 | .int e=>de (eN G ⟨true,smul (-1) e,true⟩) (fun r h=>.ok (.int (cond r e (smul (-1) e))) (xn (by
   have h:decide ((smul (-1) e).val W.ρ≤0) = r:=jM hG h
   rw [cG] at h
   cases r
   ·have:=of_decide_eq_false h
    rw [if_pos (by lia)]; show (smul (-1) e).val W.ρ = _; rw [cG]; lia
   ·have:=of_decide_eq_true h
    rw [if_neg (by lia)]; rfl))) fun _=>.ok (.int (.abs e)) (xn (by
   show ((e.val W.ρ).natAbs:Int) = _
   split<;>lia))
 | _=>.no 89
set_option tactic.hygienic true in
noncomputable def Fw (a:AV):Out (bU W 8 [a]):=match a with
 | .lst l=>ar (Nat.ble l.length 10000) 90 fun hb=>.ok (.tup l) (one W fun A U ad s v Q E hh B rv G=>by
   obtain ⟨ho,rl⟩:=rv
   rename_i a vs n
   have hb:=Nat.le_of_ble_eq_true hb
   refine call_tuple_list (items:=vs.toArray) ⟨_,ho.1,rfl,n,rfl⟩ (fun h' k=>?_) (by rw [List.size_toArray,rl.length,sizeLine_eq]; lia)
   have k1:ag s.heap h':=.of k
   have k2:=k1.trans (ag.push h' (jP vs 0))
   exact G _ _ _ k2 (.mk (gT _ rfl rfl (B.keep k1).low) (rl.mono (ag.le k2))))
 | .tup l=>.ok (.tup l) (one W fun A U ad s v Q E hh B rv G=>by
   obtain ⟨ho,rl⟩:=rv
   rename_i vs n
   exact call_tuple_same (items:=vs.toArray) ⟨_,ho.1,rfl,n,rfl⟩ (G.here s.toks (.mk ho rl)))
 | _=>.no 91
noncomputable def Fx (a:AV):Out (bU W 9 [a]):=match a with
 | .lst l=>de (qM l) (fun r _=>ar (Nat.ble l.length 10000) 92 fun hb=>bd (xm hG r.1) fun _ hx=>.ok (.bytes r.1) (one W fun A U ad s v Q E hh B rv G=>by
   obtain ⟨ho,rl⟩:=rv
   rename_i vs n
   have hb:=Nat.le_of_ble_eq_true hb
   refine call_bytes_ints (vs:=vs) ⟨_,ho.1,rfl,n,rfl⟩ (r.2 _ _ _ rl).are hx (by rw [rl.length,sizeLine_eq]; lia) hh fun h' t k kk=>?_
   rw [Fo]
   exact G _ _ _ (.of kk) (.mk _ hx))) fun _=>.no 93
 | _=>.no 94
noncomputable def j7:List SE→SE
 | []=>.lit 0
 | e::l=>a9 e (j7 l)
theorem xo (ρ:Nat→Int):∀ l:List SE,(j7 l).val ρ = (vals ρ l).sum
 | []=>rfl
 | e::l=>by show (a9 e (j7 l)).val ρ = _; rw [cU,xo ρ l]; rfl
noncomputable def Fy (a:AV):Out (bU W 5 [a]):=match a with
 | .lst l=>de (qM l) (fun r _=>.ok (.int (j7 r.1)) (one W fun A U ad s v Q E hh B rv G=>by
   obtain ⟨ho,rl⟩:=rv
   rename_i vs n
   have hi:=(r.2 _ _ _ rl).are
   obtain ⟨xs,hx⟩:=hi.allInts.items
   have hn:=hi.numsOf
   refine sum_intListG hh (xs:=xs) ⟨_,ho.1,rfl,n,by show Data.seq vs.toArray n = _; rw [hx]⟩ fun h' tk t' hk=>?_
   refine G _ h' tk (.of hk) ?_
   have:preSum (numAt xs) xs.size = (j7 r.1).val W.ρ:=by
    rw [xo,preSum_eq,List.take_of_length_le (by simp)]
    have h2:=nums_intItems (xs:=xs)
    rw [← hx] at h2
    rw [← h2]
    exact congrArg List.sum hn
   rw [this]; exact .mk _)) fun _=>.no 95
 | _=>.no 96
noncomputable def Fz (n:Nat) (as:List AV):Out (bU W n as):=match n,as with
 | 0,[a]=>Fq a
 | 1,as=>Ft hG as
 | 2,[a]=>Fu a
 | 3,[a]=>Fv hG a
 | 5,[a]=>Fy a
 | 8,[a]=>Fw a
 | 9,[a]=>Fx hG a
 | _,_=>.no 97
theorem mS {d:Nat} {own:Own} {a:AV} {l:List AV} (h:∀ A,A.handled = none→∀ U ad s v (Q:Value→Shared→Prop) (E:Value→Shared→Prop),Rel W ⟨aD U s.heap,ad⟩ v a→(∀ h' tk vs n,ag s.heap h'→h'.get? s.heap.objs.size = some (bl vs n)→(∀ V:Vw,(⟨aD U s.heap,ad⟩:Vw).Le V→ah W V vs l)→Q (.ref s.heap.objs.size) (mv s h' tk))→aw W A (call (.type "list") [v]) Q E s) (hk:d8 W (.type "list")):Tells W d (.type "list") own [a] (.loc own.length) (own ++ [.lst l]):=⟨hk,fun A aA U ad s vs Q E B O rl F=>by
 obtain ⟨rv,rl⟩:=rl
 obtain rfl:=rl
 exact h A aA.handled _ ad s _ Q E rv fun h' tk vs n k ho hv=>F _ h' tk _ (O.alloc B.G B.low k (c7 _) ho rfl fun V le _=>.mk (hv V le)) O.qw⟩
noncomputable def FA (d:Nat) (own:Own) (a:AV):Option { l:List AV // d8 W (.type "list")→Tells W d (.type "list") own [a] (.loc own.length) (own ++ [.lst l]) }:=match a with
 | .lst l=>(match h:Nat.ble l.length 10000 with
  | true=>some ⟨l,mS fun A hh U ad s v Q E rv k=>by
   obtain ⟨ho,rl⟩:=rv
   have hb:=Nat.le_of_ble_eq_true h
   exact call_list_seq _ (.inl rfl) ho.1 rfl rfl (fun h' c' kk hd=>k h' _ _ c' (.of kk) hd fun V le=>rl.mono le) (by rw [List.size_toArray,rl.length,sizeLine_eq]; lia)⟩
  | false=>none)
 | .tup l=>(match h:Nat.ble l.length 10000 with
  | true=>some ⟨l,mS fun A hh U ad s v Q E rv k=>by
   obtain ⟨ho,rl⟩:=rv
   have hb:=Nat.le_of_ble_eq_true h
   exact call_list_seq _ (.inr rfl) ho.1 rfl rfl (fun h' c' kk hd=>k h' _ _ c' (.of kk) hd fun V le=>rl.mono le) (by rw [List.size_toArray,rl.length,sizeLine_eq]; lia)⟩
  | false=>none)
 | .rng b n=>some ⟨iR b n,mS fun A hh U ad s v Q E rv k=>by
   obtain ⟨ho,hn⟩:=rv
   obtain ⟨small,size⟩:=(qL hn).2
   refine call_list_range hh ho.1 small size (by have:=(qL hn).1; lia) fun h' tk acc' c' kk hd hi=>k h' tk acc'.toList c' (.of kk) (by rw [hd]; simp [bl]) fun V le=>?_
   obtain ⟨h1,h2⟩:=hi
   refine Fp (by simpa using h1) fun i hi=>?_
   obtain ⟨v,hv⟩:∃ v,acc'[i]? = some v:=⟨_,Array.getElem?_eq_getElem (by rw [h1]; exact hi)⟩
   obtain ⟨t,rfl⟩:=h2 i v hv
   rw [Int.mul_one] at hv
   exact ⟨t,by simpa using hv⟩⟩
 | .bytes l=>(match h:Nat.ble l.length 10000 with
  | true=>some ⟨qN l,mS fun A hh U ad s v Q E rv k=>by
   obtain ⟨t,hx⟩:=rv
   have hb:=Nat.le_of_ble_eq_true h
   have e3:=gi W.ρ l
   refine Fm hh (bN (vals W.ρ l)) t (by rw [gj,sizeLine_eq]; lia) fun h' tk acc n kk ho hi=>k h' tk acc.toList n (.of kk) (by rw [ho]; simp [bl]) fun V le=>?_
   obtain ⟨h1,h2⟩:=hi
   rw [gj] at h1
   have go:∀ (m:List SE) (vs:List Value),vs.length = m.length→(∀ (i:Nat) (e:SE),m[i]? = some e→∃ t,vs[i]? = some (Value.int (e.val W.ρ) t))→ah W V vs (qN m):=by
    intro m
    induction m with
    | nil=>intro vs e _; exact List.length_eq_zero_iff.mp e
    | cons e m ih=>
     intro vs hl hv
     cases vs with
     | nil=>cases hl
     | cons v vs=>
      obtain ⟨t,ht⟩:=hv 0 e rfl
      obtain rfl:=Option.some.inj ht
      exact .cons (show bK _ _ from .mk t) (ih vs (Nat.succ.inj hl) fun i e he=>hv (i + 1) e he)
   refine go l acc.toList (by simpa using h1.trans e3) fun i e he=>?_
   obtain ⟨g1,g2⟩:=qJ (ρ:=W.ρ) he
   obtain ⟨v,hv⟩:∃ v,acc[i]? = some v:=⟨_,Array.getElem?_eq_getElem (by lia)⟩
   obtain ⟨b,u,ho,rfl⟩:=h2 i v hv
   refine ⟨u,?_⟩
   have q:=xi hx (n:=i) (by lia)
   rw [g1,List.getD_eq_getElem?_getD,show ((vals W.ρ l).map fun x=>UInt8.ofNat x.toNat)[i]? = some b by unfold bN at ho; simpa using ho] at q
   rw [← q]; simpa using hv⟩
  | false=>none)
 | _=>none
end
end Mine
end
section
set_option backward.match.sparseCases false
open PySem PySem.W PyProof.Rows PySem.Calls
open Builtin Builtin.Str
set_option maxRecDepth 100000
namespace Mine
noncomputable def mT:Str:=⟨#[115,112,108,105,116]⟩
noncomputable def qO:Str:=⟨#[108,115,116,114,105,112]⟩
noncomputable def qP:Str:=⟨#[105,110,100,101,120]⟩
theorem xp:mT = ("split":Str):=by decide +kernel
theorem FC:qO = ("lstrip":Str):=by decide +kernel
theorem FD:qP = ("index":Str):=by decide +kernel
section
variable {prog:Program} {w:World} {A:Around} {E:Value→Shared→Prop} {s:Shared} {x:Str} {t:Tok} {Q:Value→Shared→Prop}
theorem FG (hw:(spaceWords x (x.length + 1) == [(0,x.length)]) = false) (h:∀ (l:List (Str×Tok)) k,l.map (·.1) = PySem.wordsOf x→Q (.ref s.heap.objs.size) { s with heap:=s.heap.push (bl (strValues l) 0),toks:=k })
  (hsz:x.length≤sizeLine) (hsz2:(spaceWords x (x.length + 1)).length≤sizeLine):wpAny (model prog w) A (call (.builtin "str.split") [.str x t]) Q E s:=by
 refine call_meets F.slot_str_split (typeIs_str _ _ _) F.entry_str_split (F.args_str_split_1 _) (meets_str_split_space x t hsz hsz2) ?_
 rw [hw]
 simp only [Bool.false_eq_true,if_false]
 rw [strsFrom_eq]
 exact h (numbered s.toks (PySem.wordsOf x)) _ (numbered_texts _ _)
theorem FH {y:Str} {u:Tok} (h1:(decide (x.length < y.length) || decide (strKind x < strKind y)) = false) (hf:(occurrences x y 0 x.length (x.length + 1)).isEmpty = false) (hy:(y.length == 0) = false)
  (hq:∀ (l:List (Str×Tok)) k,l.map (·.1) = partsBetween x (occurrences x y 0 x.length (x.length + 1)) y.length→Q (.ref s.heap.objs.size) { s with heap:=s.heap.push (bl (strValues l) 0),toks:=k })
  (hsz:x.length≤sizeLine) (hsz2:(partsBetween x (occurrences x y 0 x.length (x.length + 1)) y.length).length≤sizeLine):wpAny (model prog w) A (call (.builtin "str.split") [.str x t,.str y u]) Q E s:=by
 refine call_meets F.slot_str_split (typeIs_str _ _ _) F.entry_str_split (F.args_str_split_2 _ _) (meets_str_split_sep x y t u h1 hy hf hsz hsz2) ?_
 show wants Q E _ { s with toks:=_,heap:=s.heap.push { cls:=.type "list",data:=.seq (strsFrom s.toks (partsBetween x (occurrences x y 0 x.length (x.length + 1)) y.length)).toArray } }
 rw [strsFrom_eq]
 exact hq (numbered s.toks _) _ (numbered_texts _ _)
end
noncomputable section
inductive SM where
 | split0 (x:Str) (l:List Str)
 | split1 (x y:Str) (l:List Str)
 | lstrip (x y z:Str)
 | index (x y:Str) (i:Nat)
noncomputable def xq:List SM:=[.split0 ⟨#[114,97,120,32,114,99,120,32,114,100,120,32,114,98,120,32,114,115,112,32,114,98,112,32,114,115,105,32,114,100,105]⟩ [⟨#[114,97,120]⟩,⟨#[114,99,120]⟩,⟨#[114,100,120]⟩,⟨#[114,98,120]⟩,⟨#[114,115,112]⟩,⟨#[114,98,112]⟩,⟨#[114,115,105]⟩,⟨#[114,100,105]⟩],
 .split0 ⟨#[101,97,120,32,101,99,120,32,101,100,120,32,101,98,120,32,101,115,112,32,101,98,112,32,101,115,105,32,101,100,105]⟩ [⟨#[101,97,120]⟩,⟨#[101,99,120]⟩,⟨#[101,100,120]⟩,⟨#[101,98,120]⟩,⟨#[101,115,112]⟩,⟨#[101,98,112]⟩,⟨#[101,115,105]⟩,⟨#[101,100,105]⟩],
 .split1 ⟨#[49,32,50,32,52,32,56]⟩ ⟨#[32]⟩ [⟨#[49]⟩,⟨#[50]⟩,⟨#[52]⟩,⟨#[56]⟩],
 .split1 ⟨#[48,32,56,32,49,54,32,51,50,32,54,52,32,49,50,56]⟩ ⟨#[32]⟩ [⟨#[48]⟩,⟨#[56]⟩,⟨#[49,54]⟩,⟨#[51,50]⟩,⟨#[54,52]⟩,⟨#[49,50,56]⟩],
 .split1 ⟨#[111,32,110,111,32,98,32,97,101,32,101,32,110,101,32,98,101,32,97,32,115,32,110,115,32,112,32,110,112,32,108,32,103,101,32,108,101,32,103]⟩ ⟨#[32]⟩ [⟨#[111]⟩,⟨#[110,111]⟩,⟨#[98]⟩,⟨#[97,101]⟩,⟨#[101]⟩,⟨#[110,101]⟩,⟨#[98,101]⟩,⟨#[97]⟩,⟨#[115]⟩,⟨#[110,115]⟩,⟨#[112]⟩,⟨#[110,112]⟩,⟨#[108]⟩,⟨#[103,101]⟩,⟨#[108,101]⟩,⟨#[103]⟩],
 .lstrip ⟨#[114,109,56]⟩ ⟨#[114,109,111,120]⟩ ⟨#[56]⟩,
 .lstrip ⟨#[114,56]⟩ ⟨#[114,109,111,120]⟩ ⟨#[56]⟩,
 .lstrip ⟨#[114,109,49,54]⟩ ⟨#[114,109,111,120]⟩ ⟨#[49,54]⟩,
 .lstrip ⟨#[114,49,54]⟩ ⟨#[114,109,111,120]⟩ ⟨#[49,54]⟩,
 .lstrip ⟨#[114,109,51,50]⟩ ⟨#[114,109,111,120]⟩ ⟨#[51,50]⟩,
 .lstrip ⟨#[114,51,50]⟩ ⟨#[114,109,111,120]⟩ ⟨#[51,50]⟩,
 .lstrip ⟨#[114,109,54,52]⟩ ⟨#[114,109,111,120]⟩ ⟨#[54,52]⟩,
 .lstrip ⟨#[114,54,52]⟩ ⟨#[114,109,111,120]⟩ ⟨#[54,52]⟩,
 .lstrip ⟨#[111,56]⟩ ⟨#[114,109,111,120]⟩ ⟨#[56]⟩,
 .lstrip ⟨#[111,49,54]⟩ ⟨#[114,109,111,120]⟩ ⟨#[49,54]⟩,
 .lstrip ⟨#[111,51,50]⟩ ⟨#[114,109,111,120]⟩ ⟨#[51,50]⟩,
 .lstrip ⟨#[111,54,52]⟩ ⟨#[114,109,111,120]⟩ ⟨#[54,52]⟩,
 .index ⟨#[105,109,109,56]⟩ ⟨#[105,109,109]⟩ 0,
 .index ⟨#[105,109,109,49,54]⟩ ⟨#[105,109,109]⟩ 0,
 .index ⟨#[105,109,109,51,50]⟩ ⟨#[105,109,109]⟩ 0,
 .index ⟨#[115,105,109,109,51,50]⟩ ⟨#[105,109,109]⟩ 1,
 .index ⟨#[105,109,109,54,52]⟩ ⟨#[105,109,109]⟩ 0,
 .index ⟨#[117,105,109,109,49,54]⟩ ⟨#[105,109,109]⟩ 1]
noncomputable def xr:List (Str×Int):=[(⟨#[56]⟩,8),(⟨#[49,54]⟩,16),(⟨#[51,50]⟩,32),(⟨#[54,52]⟩,64)]
noncomputable def xt:List (Int×Str):=[(1,⟨#[49]⟩),(2,⟨#[50]⟩),(4,⟨#[52]⟩),(8,⟨#[56]⟩),(0,⟨#[48]⟩),(16,⟨#[49,54]⟩),(32,⟨#[51,50]⟩),(64,⟨#[54,52]⟩),(128,⟨#[49,50,56]⟩),(9,⟨#[57]⟩),(10,⟨#[49,48]⟩),(11,⟨#[49,49]⟩),(12,⟨#[49,50]⟩),(13,⟨#[49,51]⟩),(14,⟨#[49,52]⟩),(15,⟨#[49,53]⟩)]
section
variable {W:ab}
theorem FI (n:String):d8 W (.type n):=fun _ _=>⟨.machine,.inr (.inl rfl),Looks.of_pure rfl⟩
noncomputable def iS:List Str→List AV
 | []=>[]
 | x::l=>.str x::iS l
theorem xu {V:Vw}:∀ {l:List (Str×Tok)} {r:List Str},l.map (·.1) = r→ah W V (strValues l) (iS r)
 | [],_,e=>e▸rfl
 | (x,t)::l,_,e=>e▸.cons (show mB x _ from .mk t) (xu rfl)
noncomputable def SM.x:SM→Str
 | .split0 x _ | .split1 x _ _ | .lstrip x _ _ | .index x _ _=>x
noncomputable def SM.m:SM→Str
 | .split0 _ _ | .split1 _ _ _=>mT
 | .lstrip _ _ _=>qO
 | .index _ _ _=>qP
noncomputable def SM.y:SM→List Str
 | .split0 _ _=>[]
 | .split1 _ y _ | .lstrip _ y _ | .index _ y _=>[y]
noncomputable def SM.r:SM→AV
 | .split0 _ l | .split1 _ _ l=>.lst (iS l)
 | .lstrip _ _ z=>.str z
 | .index _ _ i=>.int (.lit i)
noncomputable def SM.ok:SM→Bool
 | .split0 x l=>decide ((spaceWords x (x.length + 1) == [(0,x.length)]) = false∧PySem.wordsOf x = l∧x.length≤16777216∧(spaceWords x (x.length + 1)).length≤16777216)
 | .split1 x y l=>decide ((decide (x.length < y.length) || decide (strKind x < strKind y)) = false∧(occurrences x y 0 x.length (x.length + 1)).isEmpty = false∧(y.length == 0) = false∧partsBetween x (occurrences x y 0 x.length (x.length + 1)) y.length = l∧x.length≤16777216∧l.length≤16777216)
 | .lstrip x y z=>decide (Txt.lstripChars x y = z∧x.length≤16777216)
 | .index x y i=>decide (occurrences x y 0 x.length 1 = [i])
theorem FJ:xq.all SM.ok = true:=by decide +kernel
theorem xx {U:AS} {ad:List Addr} {s:Shared} {l:List (Str×Tok)} {r:List Str} {k:Tok} {Q:Value→Shared→Prop} (B:Base W U s.heap) (G:Got W U ad s (.lst (iS r)) Q) (e:l.map (·.1) = r):Q (.ref s.heap.objs.size) { s with heap:=s.heap.push (bl (strValues l) 0),toks:=k }:=
 G _ _ k (.push _ _) (.mk (gT _ rfl rfl B.low) (xu e))
variable {d:Nat} {own own1:Own}
theorem FK:∀ e:SM,e.ok = true→cz W d own (.str e.x) e.m own1 (iS e.y) e.r own1
 | .split0 x l=>fun h A a U ad s v pl Q E B O rv k=>by
  obtain ⟨h1,h2,h3,h4⟩:=of_decide_eq_true h
  obtain ⟨_⟩:=rv
  show aw W A (getMethod _ mT pl) Q E s
  rw [xp]
  refine GM.split (k _ _ s.toks (fD _) fun s' ad' vs Q' E' kk B' rl F=>?_)
  obtain rfl:=rl
  exact FG h1 (fun l' k' hl'=>xx (B'.more kk.owns) (F.got kk.owns rfl) (hl'.trans h2)) (by rw [sizeLine_eq]; exact h3) (by rw [sizeLine_eq]; exact h4)
 | .split1 x y l=>fun h A a U ad s v pl Q E B O rv k=>by
  obtain ⟨h1,h2,h3,h4,h5,h6⟩:=of_decide_eq_true h
  obtain ⟨_⟩:=rv
  show aw W A (getMethod _ mT pl) Q E s
  rw [xp]
  refine GM.split (k _ _ s.toks (fD _) fun s' ad' vs Q' E' kk B' rl F=>?_)
  obtain ⟨⟨_⟩,rl⟩:=rl
  obtain rfl:=rl
  exact FH h1 h2 h3 (fun l' k' hl'=>xx (B'.more kk.owns) (F.got kk.owns rfl) (hl'.trans h4)) (by rw [sizeLine_eq]; exact h5) (by rw [sizeLine_eq]; exact Nat.le_trans (Nat.le_of_eq (congrArg List.length h4)) h6)
 | .lstrip x y z=>fun h A a U ad s v pl Q E B O rv k=>by
  obtain ⟨h1,h2⟩:=of_decide_eq_true h
  obtain ⟨_⟩:=rv
  show aw W A (getMethod _ qO pl) Q E s
  rw [FC]
  refine GM.lstrip (k _ _ s.toks (fD _) fun s' ad' vs Q' E' kk B' rl F=>?_)
  obtain ⟨⟨_⟩,rl⟩:=rl
  obtain rfl:=rl
  exact SC.lstripChars (fun t' k'=>(F.got kk.owns rfl).here k' (h1▸.mk _)) (by rw [sizeLine_eq]; exact h2)
 | .index x y i=>fun h A a U ad s v pl Q E B O rv k=>by
  have h:=of_decide_eq_true h
  obtain ⟨_⟩:=rv
  show aw W A (getMethod _ qP pl) Q E s
  rw [FD]
  refine GM.index (k _ _ s.toks (fD _) fun s' ad' vs Q' E' kk B' rl F=>?_)
  obtain ⟨⟨_⟩,rl⟩:=rl
  obtain rfl:=rl
  exact SC.index h ((F.got kk.owns rfl).here _ (.mk _))
noncomputable def xy:(l:List AV)→(m:List Str)→Option (PLift (l = iS m))
 | [],[]=>some ⟨rfl⟩
 | .str x::l,y::m=>aF (sEq x y) (fun h=>match xy l m with
  | some ⟨q⟩=>some ⟨by rw [q,sEq_iff.mp h]; rfl⟩
  | none=>none) fun _=>none
 | _,_=>none
noncomputable def qQ (d:Nat) (own own1:Own) (x m:Str) (as:List AV):(l:List SM)→l.all SM.ok = true→Out fun r:AV=>cz W d own (.str x) m own1 as r own1
 | [],_=>.no 100
 | e::l,h=>aF (aG (sEq e.x x) (sEq e.m m)) (fun q=>match xy as e.y with
  | some ⟨z⟩=>.ok e.r (by
   obtain ⟨q1,q2⟩:=aB q
   rw [← sEq_iff.mp q1,← sEq_iff.mp q2,z]
   exact FK e (Bool.and_eq_true_iff.mp h).1)
  | none=>qQ d own own1 x m as l (Bool.and_eq_true_iff.mp h).2) fun _=>qQ d own own1 x m as l (Bool.and_eq_true_iff.mp h).2
theorem FL:(xr.all fun e=>decide (PySem.intText? e.1 = some e.2∧e.1.length≤640)) = true:=by decide +kernel
theorem FN:(xt.all fun e=>decide ((toString e.1:Str) = e.2∧e.1.natAbs.log2 < 1920)) = true:=by decide +kernel
noncomputable def xA (i:Int):(l:List (Int×Str))→Option { x:Str // (i,x)∈l }
 | []=>none
 | (j,x)::l=>aF (bc i j) (fun h=>some ⟨x,dN h▸.head _⟩) fun _=>(match xA i l with
  | some ⟨y,h⟩=>some ⟨y,.tail _ h⟩
  | none=>none)
variable {G:Facts} (hG:Sat W.ρ G)
noncomputable def FO (n:Nat) (as:List AV):Out (bU W n as):=match n,as with
 | 2,[.str x]=>bG (lk x xr) 101 fun i h=>.ok (.int (.lit i)) (one W fun A U ad s v Q E hh B rv G=>by
   obtain ⟨_⟩:=rv
   obtain ⟨h1,h2⟩:=of_decide_eq_true (List.all_eq_true.mp FL _ (fu h))
   exact KIN.call_text h1 h2 (G.here _ (.mk _)))
 | 4,[.int e]=>bd (eW hG e) fun i hi=>(match xA i xt with
  | some ⟨x,h⟩=>.ok (.str x) (one W fun A U ad s v Q E hh B rv G=>by
   obtain ⟨_⟩:=rv
   rw [hi]
   obtain ⟨h1,h2⟩:=of_decide_eq_true (List.all_eq_true.mp FN _ h)
   exact PySem.P.str_of_int h2 (G.here _ (h1▸.mk _)))
  | none=>.no 102)
 | n,as=>Fz hG n as
end
end
end Mine
end
section
set_option backward.match.sparseCases false
open PySem PySem.W PyProof.Rows PySem.Calls
set_option maxRecDepth 100000
namespace Mine
section
noncomputable def mU:List (Str×Value):=[
(⟨#[95,119,97,108,108]⟩,(.ref 21)),
 (⟨#[77,105,110,116,69,114,114,111,114]⟩,(.ref 46)),
 (⟨#[79,112,101,114,97,110,100,69,114,114,111,114]⟩,(.ref 59)),
 (⟨#[69,110,99,111,100,101,69,114,114,111,114]⟩,(.ref 71)),
 (⟨#[109,97,115,107]⟩,(.ref 80)),
 (⟨#[119,114,97,112]⟩,(.ref 87)),
 (⟨#[115,105,103,110,101,100]⟩,(.ref 94)),
 (⟨#[102,105,116,115,95,115,105,103,110,101,100]⟩,(.ref 101)),
 (⟨#[102,105,116,115,95,117,110,115,105,103,110,101,100]⟩,(.ref 108)),
 (⟨#[102,105,116,115,95,101,105,116,104,101,114]⟩,(.ref 115)),
 (⟨#[108,105,116,116,108,101]⟩,(.ref 122)),
 (⟨#[67,79,78,68,73,84,73,79,78,83]⟩,(.str ⟨#[111,32,110,111,32,98,32,97,101,32,101,32,110,101,32,98,101,32,97,32,115,32,110,115,32,112,32,110,112,32,108,32,103,101,32,108,101,32,103]⟩ 328)),
 (⟨#[76,79,67,75,69,68]⟩,(.str ⟨#[97,100,100,32,97,100,99,32,97,110,100,32,111,114,32,115,98,98,32,115,117,98,32,120,111,114,32,105,110,99,32,100,101,99,32,110,101,103,32,110,111,116,32,120,99,104,103,32,120,97,100,100,32,99,109,112,120,99,104,103,32,98,116,115,32,98,116,114,32,98,116,99]⟩ 330)),
 (⟨#[77,79,86,69,68]⟩,(.str ⟨#[109,111,118,115,98,32,109,111,118,115,119,32,109,111,118,115,100,32,109,111,118,115,113,32,115,116,111,115,98,32,115,116,111,115,119,32,115,116,111,115,100,32,115,116,111,115,113,32,108,111,100,115,98,32,108,111,100,115,119,32,108,111,100,115,100,32,108,111,100,115,113]⟩ 332)),
 (⟨#[67,79,77,80,65,82,69,68]⟩,(.str ⟨#[99,109,112,115,98,32,99,109,112,115,119,32,99,109,112,115,100,32,99,109,112,115,113,32,115,99,97,115,98,32,115,99,97,115,119,32,115,99,97,115,100,32,115,99,97,115,113]⟩ 334)),
 (⟨#[99,111,110,100,105,116,105,111,110,95,110,97,109,101,115]⟩,(.ref 129)),
 (⟨#[105,115,95,102,105,120,101,100]⟩,(.ref 136)),
 (⟨#[105,115,95,105,109,109,101,100,105,97,116,101]⟩,(.ref 143)),
 (⟨#[105,115,95,114,101,108,97,116,105,118,101]⟩,(.ref 150)),
 (⟨#[116,97,107,101,115,95,109,101,109,111,114,121]⟩,(.ref 157)),
 (⟨#[107,105,110,100,95,115,105,122,101]⟩,(.ref 164)),
 (⟨#[107,105,110,100,95,119,105,100,116,104]⟩,(.ref 171)),
 (⟨#[115,108,111,116,95,111,102]⟩,(.ref 178)),
 (⟨#[116,97,107,101,115,95,114,101,103,105,115,116,101,114]⟩,(.ref 185)),
 (⟨#[116,97,107,101,115,95,119,111,114,116,104]⟩,(.ref 192)),
 (⟨#[116,97,107,101,115,95,100,105,115,116,97,110,99,101]⟩,(.ref 199)),
 (⟨#[116,97,107,101,115]⟩,(.ref 206)),
 (⟨#[70,111,114,109]⟩,(.ref 264)),
 (⟨#[109,97,116,99,104,101,115]⟩,(.ref 275)),
 (⟨#[99,97,110,95,108,111,99,107]⟩,(.ref 282)),
 (⟨#[114,101,112,101,97,116,115]⟩,(.ref 289)),
 (⟨#[77,69,77,79,82,89,95,83,73,90,69,83]⟩,(.str ⟨#[48,32,56,32,49,54,32,51,50,32,54,52,32,49,50,56]⟩ 535)),
 (⟨#[83,67,65,76,69,83]⟩,(.str ⟨#[49,32,50,32,52,32,56]⟩ 537)),
 (⟨#[79,112,101,114,97,110,100]⟩,(.ref 327)),
 (⟨#[82,101,103]⟩,(.ref 362)),
 (⟨#[73,109,109]⟩,(.ref 396)),
 (⟨#[82,101,108]⟩,(.ref 437)),
 (⟨#[77,101,109]⟩,(.ref 490)),
 (⟨#[73,110,115,116,114,117,99,116,105,111,110]⟩,(.ref 541)),
 (⟨#[105,115,95,97,100,100,114,101,115,115,95,114,101,103,105,115,116,101,114]⟩,(.ref 552)),
 (⟨#[99,104,101,99,107,95,98,97,115,101]⟩,(.ref 559)),
 (⟨#[99,104,101,99,107,95,105,110,100,101,120]⟩,(.ref 566)),
 (⟨#[99,104,101,99,107,95,109,101,109]⟩,(.ref 573)),
 (⟨#[78,79,95,73,78,68,69,88]⟩,(.int (4) 898)),
 (⟨#[78,79,95,66,65,83,69]⟩,(.int (5) 900)),
 (⟨#[87,73,84,72,95,83,73,66]⟩,(.int (4) 902)),
 (⟨#[70,82,79,77,95,82,73,80]⟩,(.int (5) 904)),
 (⟨#[112,97,99,107,95,116,104,114,101,101]⟩,(.ref 580)),
 (⟨#[117,110,112,97,99,107,95,116,104,114,101,101]⟩,(.ref 587)),
 (⟨#[112,97,99,107,95,109,111,100,114,109]⟩,(.ref 594)),
 (⟨#[112,97,99,107,95,115,105,98]⟩,(.ref 601)),
 (⟨#[117,110,112,97,99,107,95,115,105,98]⟩,(.ref 608)),
 (⟨#[115,104,105,102,116,95,111,102]⟩,(.ref 615)),
 (⟨#[83,104,97,112,101]⟩,(.ref 660)),
 (⟨#[114,101,103,105,115,116,101,114,95,115,104,97,112,101]⟩,(.ref 671)),
 (⟨#[109,111,100,95,111,102]⟩,(.ref 678)),
 (⟨#[119,105,100,116,104,115,95,102,111,114]⟩,(.ref 685)),
 (⟨#[115,105,98,95,102,111,114]⟩,(.ref 692)),
 (⟨#[110,101,101,100,115,95,115,105,98]⟩,(.ref 699)),
 (⟨#[101,120,116,101,110,100,101,100,95,98,105,116]⟩,(.ref 706)),
 (⟨#[98,97,115,101,100,95,115,104,97,112,101,115]⟩,(.ref 713)),
 (⟨#[104,97,115,95,110,101,101,100,108,101,115,115,95,115,105,98]⟩,(.ref 720)),
 (⟨#[109,101,109,111,114,121,95,115,104,97,112,101,115]⟩,(.ref 727)),
 (⟨#[108,97,121]⟩,(.ref 734)),
 (⟨#[70,83]⟩,(.int (100) 1108)),
 (⟨#[71,83]⟩,(.int (101) 1110)),
 (⟨#[68,65,84,65]⟩,(.int (102) 1112)),
 (⟨#[82,69,80,78,69]⟩,(.int (242) 1114)),
 (⟨#[82,69,80]⟩,(.int (243) 1116)),
 (⟨#[76,79,67,75]⟩,(.int (240) 1118)),
 (⟨#[82,69,88]⟩,(.int (64) 1120)),
 (⟨#[114,101,120,95,111,99,116,101,116]⟩,(.ref 741)),
 (⟨#[114,101,120,95,98,105,116,115]⟩,(.ref 748)),
 (⟨#[105,115,95,114,101,120]⟩,(.ref 755)),
 (⟨#[115,101,103,109,101,110,116,95,111,99,116,101,116]⟩,(.ref 762)),
 (⟨#[80,114,101,102,105,120,101,115]⟩,(.ref 815)),
 (⟨#[70,105,120,117,112]⟩,(.ref 850)),
 (⟨#[69,110,99,111,100,105,110,103]⟩,(.ref 883)),
 (⟨#[111,112,101,114,97,110,100,95,105,110]⟩,(.ref 894)),
 (⟨#[115,104,97,112,101,115,95,111,102]⟩,(.ref 901)),
 (⟨#[115,104,97,112,101,115,95,102,111,114]⟩,(.ref 908)),
 (⟨#[105,115,95,101,120,116,101,110,100,101,100]⟩,(.ref 915)),
 (⟨#[114,101,120,95,102,111,114]⟩,(.ref 922)),
 (⟨#[114,101,112,101,97,116,95,102,111,114]⟩,(.ref 929)),
 (⟨#[108,111,99,107,115]⟩,(.ref 936)),
 (⟨#[119,97,121,95,111,102]⟩,(.ref 943)),
 (⟨#[109,111,100,114,109,95,112,97,114,116]⟩,(.ref 950)),
 (⟨#[110,101,101,100,95,115,104,97,112,101]⟩,(.ref 955)),
 (⟨#[110,101,101,100,95,110,111,95,110,111,112]⟩,(.ref 962)),
 (⟨#[101,110,99,111,100,101]⟩,(.ref 970)),
 (⟨#[115,105,122,101,115,95,111,102,95,109,101,109,111,114,121]⟩,(.ref 977)),
 (⟨#[102,111,114,109,115,95,102,111,114]⟩,(.ref 982)),
 (⟨#[116,114,105,101,100]⟩,(.ref 989)),
 (⟨#[110,101,101,100,95,111,110,101]⟩,(.ref 996)),
 (⟨#[101,110,99,111,100,105,110,103,115]⟩,(.ref 1001)),
 (⟨#[102,105,108,108,101,100]⟩,(.ref 1009)),
 (⟨#[102,105,101,108,100,95,119,111,114,116,104]⟩,(.ref 1016)),
 (⟨#[106,117,109,112,95,102,111,114,109,115]⟩,(.ref 1023)),
 (⟨#[99,97,108,108,95,102,111,114,109,115]⟩,(.ref 1030)),
 (⟨#[108,111,111,112,95,102,111,114,109,115]⟩,(.ref 1037)),
 (⟨#[99,111,100,101,115,95,111,102]⟩,(.ref 1042)),
 (⟨#[73,110,115,116,114,117,99,116,105,111,110,83,101,116]⟩,(.ref 1113)),
 (⟨#[115,105,122,101,100,95,102,111,114,109,115]⟩,(.ref 1125)),
 (⟨#[98,111,116,104,95,119,97,121,115]⟩,(.ref 1132)),
 (⟨#[109,111,118,95,102,111,114,109,115]⟩,(.ref 1139)),
 (⟨#[78,65,77,69,83,95,56]⟩,(.str ⟨#[97,108,32,99,108,32,100,108,32,98,108,32,115,112,108,32,98,112,108,32,115,105,108,32,100,105,108]⟩ 1694)),
 (⟨#[78,65,77,69,83,95,49,54]⟩,(.str ⟨#[97,120,32,99,120,32,100,120,32,98,120,32,115,112,32,98,112,32,115,105,32,100,105]⟩ 1696)),
 (⟨#[78,65,77,69,83,95,51,50]⟩,(.str ⟨#[101,97,120,32,101,99,120,32,101,100,120,32,101,98,120,32,101,115,112,32,101,98,112,32,101,115,105,32,101,100,105]⟩ 1698)),
 (⟨#[78,65,77,69,83,95,54,52]⟩,(.str ⟨#[114,97,120,32,114,99,120,32,114,100,120,32,114,98,120,32,114,115,112,32,114,98,112,32,114,115,105,32,114,100,105]⟩ 1700)),
 (⟨#[82,101,103,105,115,116,101,114]⟩,(.ref 1191)),
 (⟨#[101,97,114,108,121,95,110,97,109,101,115]⟩,(.ref 1202)),
 (⟨#[108,97,116,101,95,101,110,100,105,110,103]⟩,(.ref 1209)),
 (⟨#[103,112,114]⟩,(.ref 1216)),
 (⟨#[114,105,112]⟩,(.ref 1223)),
 (⟨#[95,108,97,119,95,109,101,109,111,114,121]⟩,(.ref 1230)),
 (⟨#[95,108,97,119,95,106,117,109,112]⟩,(.ref 1237)),
 (⟨#[95,108,97,119,95,108,105,110,101]⟩,(.ref 1244)),
 (⟨#[95,108,97,119,95,119,105,115,104]⟩,(.ref 1251)),
 (⟨#[95,108,97,119,95,98,101,97,114,115]⟩,(.ref 1258)),
 (⟨#[95,108,97,119,95,114,101,97,100]⟩,(.ref 1263)),
 (⟨#[95,108,97,119,95,102,105,101,108,100,115,95,114,105,103,104,116]⟩,(.ref 1268)),
 (⟨#[95,108,97,119,95,112,117,116]⟩,(.ref 1275)),
 (⟨#[95,108,97,119,95,112,108,97,105,110,95,108,105,110,101]⟩,(.ref 1282)),
 (⟨#[95,108,97,119,95,102,105,108,108,101,100,95,114,105,103,104,116]⟩,(.ref 1289)),
 (⟨#[108,97,119]⟩,(.ref 1294))]
noncomputable def iT:List (Str×Nat):=[(⟨#[108,101,110]⟩,0),(⟨#[114,97,110,103,101]⟩,1),(⟨#[105,110,116]⟩,2),(⟨#[97,98,115]⟩,3),(⟨#[115,116,114]⟩,4),(⟨#[115,117,109]⟩,5),(⟨#[115,111,114,116,101,100]⟩,6),(⟨#[108,105,115,116]⟩,7),(⟨#[116,117,112,108,101]⟩,8),(⟨#[98,121,116,101,115]⟩,9),(⟨#[105,115,105,110,115,116,97,110,99,101]⟩,10),(⟨#[122,105,112]⟩,11),(⟨#[101,110,117,109,101,114,97,116,101]⟩,12)]
noncomputable def g7:List (Addr×List (Str×Addr)):=[(264,[(⟨#[115,108,111,116,115]⟩,233),(⟨#[104,97,115,95,112,108,117,115]⟩,247)]),
 (1191,[(⟨#[99,111,100,101]⟩,1160),(⟨#[105,115,95,101,120,116,101,110,100,101,100]⟩,1167),(⟨#[110,101,101,100,115,95,114,101,120]⟩,1181),(⟨#[116,111,108,100]⟩,1188)]),
 (490,[(⟨#[105,115,95,114,105,112]⟩,480)]),
 (660,[(⟨#[116,111,108,100]⟩,636),(⟨#[108,101,110,103,116,104]⟩,657)]),
 (815,[(⟨#[111,99,116,101,116,115]⟩,812)]),
 (1113,[(⟨#[102,105,110,100]⟩,1068)])]
noncomputable def d9:List (Addr×List Str):=[(1191,[⟨#[110,97,109,101]⟩,⟨#[107,105,110,100]⟩,⟨#[110,117,109,98,101,114]⟩,⟨#[115,105,122,101]⟩]),
 (362,[⟨#[107,105,110,100]⟩,⟨#[114,101,103,105,115,116,101,114]⟩]),
 (396,[⟨#[107,105,110,100]⟩,⟨#[119,111,114,116,104]⟩,⟨#[110,97,109,101]⟩]),
 (437,[⟨#[107,105,110,100]⟩,⟨#[119,111,114,116,104]⟩,⟨#[110,97,109,101]⟩]),
 (490,[⟨#[107,105,110,100]⟩,⟨#[98,97,115,101]⟩,⟨#[105,110,100,101,120]⟩,⟨#[115,99,97,108,101]⟩,⟨#[119,111,114,116,104]⟩,⟨#[115,105,122,101]⟩,⟨#[115,101,103,109,101,110,116]⟩,⟨#[110,97,109,101]⟩]),
 (541,[⟨#[110,97,109,101]⟩,⟨#[111,112,101,114,97,110,100,115]⟩,⟨#[112,114,101,102,105,120]⟩]),
 (660,[⟨#[109,111,100]⟩,⟨#[114,109]⟩,⟨#[115,105,98]⟩,⟨#[100,105,115,112,95,119,105,100,116,104]⟩,⟨#[120]⟩,⟨#[98]⟩]),
 (815,[⟨#[115,101,103,109,101,110,116]⟩,⟨#[105,115,95,100,97,116,97]⟩,⟨#[114,101,112,101,97,116]⟩,⟨#[105,115,95,108,111,99,107]⟩,⟨#[114,101,120]⟩]),
 (850,[⟨#[97,116]⟩,⟨#[119,105,100,116,104]⟩,⟨#[110,97,109,101]⟩,⟨#[119,111,114,116,104]⟩,⟨#[119,97,121]⟩]),
 (883,[⟨#[111,99,116,101,116,115]⟩,⟨#[102,105,120,117,112,115]⟩,⟨#[102,111,114,109]⟩,⟨#[115,104,97,112,101]⟩]),
 (264,[⟨#[110,97,109,101]⟩,⟨#[107,105,110,100,115]⟩,⟨#[111,112,99,111,100,101]⟩,⟨#[101,115,99,97,112,101]⟩,⟨#[100,105,103,105,116]⟩,⟨#[115,105,122,101]⟩,⟨#[109,117,115,116]⟩,⟨#[105,115,95,119,105,100,101]⟩,⟨#[110,117,109,98,101,114]⟩,⟨#[112,108,97,99,101,115]⟩]),
 (1113,[⟨#[102,111,114,109,115]⟩,⟨#[98,121,95,110,97,109,101]⟩,⟨#[98,121,95,99,111,100,101]⟩])]
noncomputable def g8:List Addr:=[1191,362,396,437,490,541,660,815,850,883,264,1113]
noncomputable def g9 {α:Type} (a:Nat):(l:List (Nat×α))→Option { x:α // (a,x)∈l }
 | []=>none
 | (b,x)::l=>aF (Nat.beq b a) (fun h=>some ⟨x,by rw [Nat.eq_of_beq_eq_true h]; exact .head _⟩) fun _=>(match g9 a l with
  | some ⟨y,h⟩=>some ⟨y,.tail _ h⟩
  | none=>none)
noncomputable def xB:Str:=⟨#[95,95,110,97,109,101,95,95]⟩
theorem FP:xB = ("__name__":Str):=by decide +kernel
theorem FQ (P:Params):mU.map (fun p=>(KH P).nsMap mainGlobals p.1) = mU.map fun p=>some p.2:=by kernel_rfl
theorem FU (P:Params):iT.map (fun p=>(KH P).nsMap mainGlobals p.1) = iT.map fun _=>none:=by kernel_rfl
theorem FV:iT.map (fun p=>(bootBuiltins p.1,sEq p.1 xB)) = iT.map fun p=>(some (dC p.2),false):=by kernel_rfl
theorem FW (P:Params):g8.map (fun C=>(findIn (aQ P) (.ref C) (Str.ofString "__getattribute__"),findIn (aQ P) (.ref C) (Str.ofString "__getattr__"),(clsIn (aQ P) C).map (·.hasDict))) = g8.map fun _=>(some (some (.builtin "object.__getattribute__")),some none,some true):=by kernel_rfl
theorem mV:(d9.all fun p=>g8.any (Nat.beq p.1)) = true∧(g7.all fun p=>g8.any (Nat.beq p.1)) = true:=by decide +kernel
theorem FX (P:Params):d9.map (fun p=>p.2.map fun x=>findIn (aQ P) (.ref p.1) x) = d9.map fun p=>p.2.map fun _=>some none:=by kernel_rfl
theorem xC (P:Params):g7.map (fun p=>p.2.map fun x=>(findIn (aQ P) (.ref p.1) x.1,typeIn (aQ P) (.ref x.2))) = g7.map fun p=>p.2.map fun x=>(some (some (.ref x.2)),some (.type "function")):=by kernel_rfl
theorem cV {α β:Type} {f k:α→β} {l:List α} (h:l.map f = l.map k) {x:α} (m:x∈l):f x = k x:=List.map_inj_left.mp h x m
noncomputable def mW:(v:Value)→{ a:AV //∀ W V,Rel W V v a }
 | .none=>⟨.none,fun _ _=>rfl⟩
 | .bool b=>⟨.bool b,fun _ _=>rfl⟩
 | .int i t=>⟨.int (.lit i),fun _ _=>.mk t⟩
 | .str x t=>⟨.str x,fun _ _=>.mk t⟩
 | v=>⟨.con v,fun _ _=>rfl⟩
section
variable {W:ab} {V:Vw} {n:Nat}
theorem isStr_of {e:DictEntry} {x y:Str} {t:Tok} (k:e.key = .str y t):e.key.isStr x = (y == x):=by rw [k]; rfl
theorem bF.look {x:Str}:∀ {fs:List (Str×AV)} {es:List DictEntry},bF W V es fs→(∀ a,lk x fs = some a→∃ d,es.find? (·.key.isStr x) = some d∧Rel W V d.val a)∧(lk x fs = none→es.find? (·.key.isStr x) = none)∧es.any (·.refKey) = false
 | [],es,r=>by obtain rfl:=r; exact ⟨fun a e=>((by exact aq e)),fun _=>rfl,rfl⟩
 | p::fs,_,r=>by
  refine af fun nG=>?_
  obtain ⟨⟨k,h⟩,r⟩:=r
  obtain ⟨i1,i2,i3⟩:=bF.look (x:=x) r
  refine nG ?_
  rw [List.find?_cons,isStr_of k,c9,List.any_cons,i3]
  refine ⟨?_,?_,by unfold DictEntry.refKey; rw [k]; rfl⟩
  ·intro a e
   split at e
   ·rename_i q; rw [q,beq_self_eq_true]; exact ⟨_,rfl,Option.some.inj e▸h⟩
   ·rename_i q; rw [beq_eq_false_iff_ne.mpr (Ne.symm q)]; exact i1 a e
  ·intro e
   split at e
   ·exact c5 e
   ·rename_i q; rw [beq_eq_false_iff_ne.mpr (Ne.symm q)]; exact i2 e
theorem bF.at {x:Str} {a:AV} {fs:List (Str×AV)} {es:List DictEntry} (r:bF W V es fs) (e:lk x fs = some a):∃ v,lookIn x (dictOf es n) = some (some v)∧Rel W V v a:=by
 refine af fun nG=>?_
 obtain ⟨d,h1,h2⟩:=r.look.1 a e
 refine nG ?_
 refine ⟨d.val,?_,h2⟩
 show (match es.toArray.toList.find? (·.key.isStr x) with | some e=>some (some e.val) | none=>_) = _
 rw [List.toList_toArray,h1]
theorem bF.miss {x:Str} {fs:List (Str×AV)} {es:List DictEntry} (r:bF W V es fs) (e:lk x fs = none):lookIn x (dictOf es n) = some none:=by
 show (match es.toArray.toList.find? (·.key.isStr x) with | some e=>some (some e.val) | none=>if es.toArray.toList.any (·.refKey) then none else some none) = _
 rw [List.toList_toArray,(r.look (x:=x)).2.1 e,(r.look (x:=x)).2.2]; rfl
structure FY (P:Params) (C:Addr):Prop where
 ga:findIn (aQ P) (.ref C) (Str.ofString "__getattribute__") = some (some (.builtin "object.__getattribute__"))
 g:findIn (aQ P) (.ref C) (Str.ofString "__getattr__") = some none
 d:(clsIn (aQ P) C).map (·.hasDict) = some true
theorem mX {P:Params} {C:Addr} (hc:g8.any (Nat.beq C) = true):FY P C:=by
 obtain ⟨c,hm,he⟩:=List.any_eq_true.mp hc
 obtain rfl:=Nat.eq_of_beq_eq_true he
 have:=cV (FW P) hm
 exact ⟨congrArg (·.1) this,congrArg (·.2.1) this,congrArg (·.2.2) this⟩
noncomputable def mY (a:AV):Option { b:Unit //∀ (W:ab) V v,Rel W V v a→handedIn v = true }:=match a with
 | .con (.ref _)=>some ⟨(),fun _ _ _ r=>r▸rfl⟩
 | .none | .bool _ | .sb _=>some ⟨(),fun _ _ _ r=>r▸rfl⟩
 | .hole _=>some ⟨(),fun W _ _ r=>W.ηp _ _ _ r⟩
 | .int _=>some ⟨(),fun _ _ _ ⟨_⟩=>rfl⟩
 | .str _=>some ⟨(),fun _ _ _ ⟨_⟩=>rfl⟩
 | .anyS=>some ⟨(),fun _ _ _ ⟨_,h⟩=>by obtain ⟨_⟩:=h; rfl⟩
 | .bytes _=>some ⟨(),fun _ _ _ ⟨_,_⟩=>rfl⟩
 | .tup _=>some ⟨(),fun _ _ _ ⟨_,_⟩=>rfl⟩
 | .lst _=>some ⟨(),fun _ _ _ ⟨_,_⟩=>rfl⟩
 | .inst _ _=>some ⟨(),fun _ _ _ ⟨_,_,_⟩=>rfl⟩
 | .dicI _=>some ⟨(),fun _ _ _ ⟨_,_,_,_⟩=>rfl⟩
 | .dicS _=>some ⟨(),fun _ _ _ ⟨_,_,_,_⟩=>rfl⟩
 | .loc _=>some ⟨(),fun _ _ _ ⟨_⟩=>rfl⟩
 | _=>none
end
variable (W:ab)
theorem FZ {x:Str} {v:Value} (h:lk x mU = some v):(KH W.w.params).nsMap mainGlobals x = some v:=by
 have:=cV (FQ W.w.params) (fu h)
 exact this
theorem F1 {x:Str} {n:Nat} (h:lk x iT = some n):(KH W.w.params).nsMap mainGlobals x = none∧x≠"__name__"∧bootBuiltins x = some (dC n):=by
 have h1:=cV (FU W.w.params) (fu h)
 have h2:=cV FV (fu h)
 refine ⟨h1,fun e=>?_,congrArg (·.1) h2⟩
 have h3:=congrArg (·.2) h2
 dsimp only at h3
 rw [e,← FP,Ey] at h3
 exact fj h3
noncomputable def xE (x:Str):Option { a:AV // wR W x a }:=de (lk x iT) (fun n h=>some ⟨.blt n,dC n,.inr (F1 W h),fun _=>rfl⟩) fun _=>de (lk x mU) (fun v h=>some ⟨(mW v).1,v,.inl (FZ W h),fun V=>(mW v).2 W V⟩) fun _=>none
theorem xF {x:Str} {l:List Str} (h:l.any (sEq x) = true):x∈l:=by
 obtain ⟨y,hy,e⟩:=List.any_eq_true.mp h
 exact sEq_iff.mp e▸hy
variable {W}
theorem xG {A:Around} {s:Shared} {x:Str} {X C dx:Addr} {es:List DictEntry} {n:Nat} {v':Value} {Q:Value→Shared→Prop} {E:Value→Shared→Prop} {ns:List Str} (B:GG W s.heap) (hm:(C,ns)∈d9) (hx:ns.any (sEq x) = true) (h1:s.heap.get? X = some (instObj C dx)) (h2:s.heap.get? dx = some (dictOf es n)) (hv:lookIn x (dictOf es n) = some (some v')) (hp:handedIn v' = true) (h:∀ tk,Q v' (mv s s.heap tk)):aw W A (getAttr (.ref X) x true) Q E s:=by
 refine af fun nG=>?_
 have c:=mX (P:=W.w.params) (List.all_eq_true.mp mV.1 _ hm)
 have e1:=cV (cV (FX W.w.params) hm) (xF hx)
 dsimp only at e1
 obtain ⟨cd,hcd,hcd2⟩:=Option.map_eq_some_iff.mp c.d
 refine nG ?_
 refine get_value B.K (⟨h1,rfl,rfl,h2⟩:InstAt s.heap X (instObj C dx) C (some (dictOf es n))) c.ga ?_ hp (h _)
 unfold findObj PySem.W.ownOf
 rw [hcd,Option.bind_some,e1,Option.bind_some]
 show (if cd.hasDict = true then lookIn x (dictOf es n) else some none).bind _ = _
 rw [hcd2,if_pos rfl,hv]; rfl
set_option tactic.hygienic true in
noncomputable def F2 (own:Own) (a:AV) (x:Str):Out (qr W own a x):=match a with
 | .inst C fs=>(match g9 C d9 with
  | some ⟨ns,hm⟩=>ar (ns.any (sEq x)) 110 fun hx=>bG (lk x fs) 111 fun r hr=>(match mY r with
   | some ⟨_,hp⟩=>.ok r (qp.o fun A U ad s v Q E B rv G=>by
    refine af fun nG=>?_
    obtain ⟨hxo,hdo,rf⟩:=rv
    rename_i es n
    obtain ⟨v',hv1,hv2⟩:=rf.at (n:=n) hr
    refine nG ?_
    exact xG B.G hm hx hxo.1 hdo.1 hv1 (hp _ _ _ hv2) fun tk=>G.here tk hv2)
   | none=>.no 112)
  | none=>.no 113)
 | .loc i=>(match qi own i with
  | some ⟨(C,m,fs),h,h'⟩=>(match g9 C d9 with
   | some ⟨ns,hm⟩=>ar (ns.any (sEq x)) 114 fun hx=>bG (lk x fs) 115 fun r hr=>(match mY r with
    | some ⟨_,hp⟩=>.ok r fun A U ad s v Q E B O rv F=>by
     refine af fun nG=>?_
     obtain ⟨e⟩:=rv
     obtain ⟨_,o,ho,pr⟩:=O.obj _ _ _ ⟨h,rfl,e⟩
     obtain ⟨ed⟩:=pr
     obtain ⟨_,o',ho',pr'⟩:=O.obj _ _ _ ⟨h',rfl,ed⟩
     obtain ⟨rf⟩:=pr'
     rename_i es n
     obtain ⟨v',hv1,hv2⟩:=rf.at (n:=n) hr
     refine nG ?_
     exact xG B.G hm hx ho ho' hv1 (hp _ _ _ hv2) fun tk=>F.here O (tk:=tk) hv2
    | none=>.no 116)
   | none=>.no 117)
  | none=>.no 118)
 | _=>.no 120
theorem qR:∀ n,d8 W (dC n)
 | 0 | 3 | 5 | 6 | 10=>fD _
 | 1 | 2 | 4 | 7 | 8 | 9 | 11 | 12=>FI _
 | _ + 13=>fun _ _=>⟨.machine,.inr (.inl rfl),Looks.of_pure rfl⟩
variable {d:Nat} {own own1 own2:Own}
theorem F3 {K f:Addr} {ms:List (Str×Addr)} {x:Str} {fs:List (Str×AV)} {as:List AV} {r:AV} (hm:(K,ms)∈g7) (hf:lk x ms = some f) (h:lk x fs = none) (T:Tells W d (.ref f) own1 (.inst K fs::as) r own2):cz W d own (.inst K fs) x own1 as r own2:=fun A a U ad s v pl Q E B O rv k=>by
 obtain ⟨hxo,hdo,rf⟩:=rv
 have c:=mX (P:=W.w.params) (List.all_eq_true.mp mV.2 _ hm)
 have h1:=cV (cV (xC W.w.params) hm) (fu hf)
 exact method_fn B.G.K (⟨hxo.1,rfl,rfl,hdo.1⟩:InstAt s.heap _ (instObj K _) K (some (dictOf _ _))) c.ga c.g (congrArg (·.1) h1) (congrArg (·.2) h1) (by unfold shadowIn; dsimp only; rw [rf.miss h]; rfl) (k _ _ s.toks T.1 fun s' ad' vs Q' E' kk B' rl F=>
  T.2 A a U ad' s' _ Q' E' B' kk.owns (.cons (Rel.mono (a:=.inst K fs) kk.view (.mk hxo hdo rf)) rl) F)
theorem F4 {C:Addr} {fs:List (Str×AV)}:bU W 10 [.inst C fs,.con (.ref C)] (.bool true):=fun A U ad s vs Q E hh B rl G=>by
 obtain ⟨r1,r2,rl⟩:=rl
 obtain rfl:=rl
 obtain rfl:=r2
 obtain ⟨hx,hd,rf⟩:=r1
 refine call_isinstance (S:=fun _ R s'=>s' = s∧∀ tk,R (.ok (.ret (.bool true))) { s with toks:=tk }) (fun prog w A R s' hs=>?_) ⟨rfl,fun tk=>G _ s.heap tk (ag.refl _) rfl⟩
 obtain ⟨rfl,hq⟩:=hs
 refine isinstance_outer ?_ (fun q=>by cases q)
 have L0:=(⟨hx.1,rfl,rfl,hd.1⟩:InstAt s'.heap _ (instObj C _) C (some (dictOf _ _))).type (M:=model prog w)
 obtain ⟨h0,g,dd,tt,os⟩:=s'
 unfold Builtin.«isinstance.nested»
 refine wpAny_bind (L0.at ?_)
 rw [if_pos (by exact beq_self_eq_true _)]
 first
  | ((repeat lk); exact hq tt)
  | exact wpAny_bind (wpAny_rule (hq tt))
  | exact wpAny_bind (wpAny_rule (wpAny_pure (hq tt)))
noncomputable def qS:Str:=⟨#[103,101,116]⟩
theorem F5:qS = ("get":Str):=by decide +kernel
set_option tactic.hygienic true in
theorem F6 {l:List (Str×AV)} {x:Str} {a b:AV} (e:lk x l = some a):cz W d own (.dicS l) qS own1 [.str x,b] a own1:=fun A aA U ad s v pl Q E Bs O rv k=>by
 rw [F5]
 obtain ⟨ho,ns,dd,rl⟩:=rv
 rename_i x' o kvs
 have hm:s.heap.MapOf (strKind pg W.w) x' (valueAt kvs):=Heap.DictOf.mapOf (Heap.dictOf_iff.mpr ⟨o,ho.1,dd⟩)
 refine getMethod_builtin hm.typeIs PySem.F.plainAttrs_dict PySem.F.slot_dict_get PySem.F.type_dict_get hm.noDict (k _ _ s.toks (fD _) fun s' ad' vs Q' E' kk Bs' rl' F=>?_)
 have ho':=kk.view.g _ _ ho
 have hm':s'.heap.MapOf (strKind pg W.w) x' (valueAt kvs):=Heap.DictOf.mapOf (Heap.dictOf_iff.mpr ⟨o,ho'.1,dd⟩)
 obtain ⟨⟨t⟩,r2,rl'⟩:=rl'
 obtain rfl:=rl'
 obtain ⟨y,hy,ry⟩:=rl.look e
 refine call_meetsIn PySem.F.slot_dict_get hm'.typeIs PySem.F.entry_dict_get (PySem.F.args_dict_get_3 _ _ _) (meets_dict_get_default (strKind pg W.w) x' (strKind_is _ _ _ _) ns _) ⟨_,hm',?_⟩
 rw [hy]
 exact F.here kk.owns (tk:=s'.toks + 1) (ry.mono kk.view)
end
end Mine
end
section
set_option backward.match.sparseCases false
open PySem PySem.W PyProof.Rows PySem.Calls
namespace Mine
noncomputable def dF (FR:List Addr) (h h':Heap):Prop:=∀ L∈FR,∀ o,h.get? L = some o→(∀ vs,o.data≠.fields vs)→∃ o',h'.get? L = some o'∧o'.data = o.data
theorem dF.trans {FR:List Addr} {h h1 h':Heap} (a:dF FR h h1) (b:dF FR h1 h'):dF FR h h':=fun L m o e n=>by
 refine af fun nG=>?_
 obtain ⟨o1,e1,d1⟩:=a L m o e n
 obtain ⟨o2,e2,d2⟩:=b L m o1 e1 (fun vs q=>n vs (d1▸q))
 refine nG ?_
 exact ⟨o2,e2,d2.trans d1⟩
theorem au.fd {h h':Heap} (k:ag h h') (FR:List Addr):dF FR h h':=fun L m o e n=>⟨o,k.gg e (dY n),rfl⟩
structure KF (FR:List Addr) (h h':Heap):Prop where
 kx:au (·∈FR) h h'
 fd:dF FR h h'
theorem au.kf {h h':Heap} (k:ag h h') (FR:List Addr):KF FR h h':=⟨k.x,k.fd FR⟩
theorem KF.trans {FR:List Addr} {h h1 h':Heap} (a:KF FR h h1) (b:KF FR h1 h'):KF FR h h':=⟨a.kx.trans b.kx,a.fd.trans b.fd⟩
theorem KF.drop {FR:List Addr} {Y:AS} {h h1 h':Heap} (a:KF FR h h1) (kx:au Y h1 h') (fd:dF FR h1 h') (f:∀ u,Y u→u∈FR∨h.get? u = none):KF FR h h':=⟨a.kx.comp kx f,a.fd.trans fd⟩
noncomputable def cH (outer:List Env) (FR:List Addr) (h:Heap):Prop:=outer.filterMap (·.frame) = FR∧∀ e∈outer,e.scope.kind≠.module∧∃ L o,e.frame = some L∧h.get? L = some o∧∀ vs,o.data≠.fields vs
theorem cH.mem {outer:List Env} {FR:List Addr} {h:Heap} (f:cH outer FR h):∀ L∈FR,∃ o,h.get? L = some o∧∀ vs,o.data≠.fields vs:=fun L m=>by
 refine af fun nG=>?_
 rw [← f.1] at m
 obtain ⟨e,he,hf⟩:=List.mem_filterMap.mp m
 obtain ⟨_,L',o,h1,h2,h3⟩:=f.2 e he
 refine nG ?_
 rw [h1] at hf; cases hf
 exact ⟨o,h2,h3⟩
theorem cH.kf {outer:List Env} {FR FR':List Addr} {h h':Heap} (f:cH outer FR h) (k:KF FR' h h'):cH outer FR h':=⟨f.1,fun e he=>by
 refine af fun nG=>?_
 obtain ⟨hk,L,o,h1,h2,h3⟩:=f.2 e he
 refine nG ?_
 by_cases q:L∈FR'
 ·refine af fun nG=>?_
  obtain ⟨o',e',d⟩:=k.fd L q o h2 h3
  refine nG ?_
  exact ⟨hk,L,o',h1,e',fun vs z=>h3 vs (d▸z)⟩
 ·exact ⟨hk,L,o,h1,k.kx.b0 q h2 (.inr (dY h3)),h3⟩⟩
noncomputable def b9 (h₀:Heap) (c e:Addr) (P:Option Value→Prop) (h:Heap):Prop:=h₀.get? e = none∧∃ oe vs,h.get? e = some oe∧oe.cls = .ref c∧oe.data = .fields vs∧((vs[1]? = some .none∧P none)∨∃ T oT ts mk,vs[1]? = some (.ref T)∧h₀.get? T = none∧T≠e∧h.get? T = some oT∧oT.cls = .type "traceback"∧oT.data = .fields ts∧ts[3]? = some mk∧P (some mk))
theorem b9.mono {h₀ h₁:Heap} (k:ag h₀ h₁) {c e:Addr} {P:Option Value→Prop} {h:Heap} (x:b9 h₁ c e P h):b9 h₀ c e P h:=by
 refine af fun nG=>?_
 obtain ⟨n,oe,vs,h1,h2,h3,q⟩:=x
 refine nG ?_
 refine ⟨k.gone n,oe,vs,h1,h2,h3,q.imp id ?_⟩
 rintro ⟨T,oT,ts,mk,a1,a2,a3⟩
 exact ⟨T,oT,ts,mk,a1,k.gone a2,a3⟩
noncomputable def mZ (L:Addr) (m:Option Value):Prop:=m = none∨m = some .none∨m = some (rawInt L)
noncomputable def qT (L:Addr) (m:Option Value):Prop:=m = some (rawInt L)
noncomputable def m4 (m:Option Value):Prop:=m = some .none
theorem F7 {o:Obj} {c:Addr} (h:o.cls = .ref c):bA o = false:=by
 unfold bA; split
 ·rw [h]
 ·rfl
theorem xH {o:Obj} (h:o.cls = .type "traceback"):bA o = false:=by
 unfold bA; split
 ·rw [h]; rfl
 ·rfl
section
variable {W:ab} {A:Around} {env:Env} {outer:List Env} {FR:List Addr} {L c e:Addr} {h₀:Heap}
theorem xI {s:Shared} {oe:Obj} {vs:Array Value} {head:Value} {hn:Bool} {Q:Unit→Shared→Prop} {E:Value→Shared→Prop} (hfr:A.frames = some (env::outer)) (fl:cH (env::outer) (L::FR) s.heap) (hf:env.frame = some L)
  (k:KF FR h₀ s.heap) (hL:h₀.get? L = none) (e0:h₀.get? e = none) (he:s.heap.get? e = some oe) (hc:oe.cls = .ref c) (hd:oe.data = .fields vs) (hz:1 < vs.size)
  (hQ:∀ h',KF FR h₀ h'→cH (env::outer) (L::FR) h'→b9 h₀ c e (qT L) h'→dF (L::FR) s.heap h'→Q () { s with heap:=h' }):
  aw W A (do let a ← frameOf env; let pl ← entryPlaceOf L hn; let b ← EntryCells.newEntry head a .none (rawInt L) .none pl; setField (.ref e) 1 b) Q E s:=by
 have hN:∀ env'∈env::outer,∀ b,env'.frame = some b→b∈L::FR:=fun env' m b q=>by rw [← fl.1]; exact List.mem_filterMap.mpr ⟨env',m,q⟩
 have ff:s.heap.FunFrames (hideAll s.heap (L::FR)) (env::outer):=by
  have:∀ l:List Env,(∀ x∈l,x∈env::outer)→s.heap.FunFrames (hideAll s.heap (L::FR)) l:=by
   intro l
   induction l with
   | nil=>intro _; trivial
   | cons x l ih=>
    intro hs
    obtain ⟨hk,L',o,h1,h2,h3⟩:=fl.2 x (hs x (.head _))
    exact ⟨hk,⟨L',o,h1,hideAll_none _ (hN x (hs x (.head _)) L' h1),h2,h3⟩,ih fun y hy=>hs y (.tail _ hy)⟩
  exact this _ fun _ m=>m
 have eNot:e∉L::FR:=fun m=>by
  obtain ⟨o,h1,h2⟩:=fl.mem e m
  rw [he] at h1; cases h1; exact h2 vs hd
 refine wpAny_bind (wpAny_frameOf_fun hfr ff hf fun h₁ hs=>?_)
 refine af fun nG=>?_
 rw [fl.1] at hs
 obtain ⟨hs1,hs2,hs3⟩:=hs
 refine nG ?_
 refine wpAny_bind (wpAny_entryPlaceOf fun pl hpl=>?_)
 unfold EntryCells.newEntry newFields
 refine wpAny_bind (wpAny_newObj_type ?_ (hpl.sizeOk5 _ _ _ _ _))
 generalize hob:({ cls:=.type "traceback",dict:=none,data:=.fields ([head,.ref L,.none,rawInt L,.none] ++ (if pl.isEmpty then List.replicate 6 Value.none else pl)).toArray }:Obj) = ob
 have he1:h₁.get? e = some oe:=(hs2 e eNot).trans he
 have he2:=Heap.get?_push_of_some (h:=h₁) ob he1
 refine wpAny_setField he2 hd hz ?_
 have hT:h₁.objs.size≠e:=Nat.ne_of_gt (Heap.lt_size he1)
 have hd3:=Obj.data_mapFields hd (·.setIfInBounds 1 (Value.ref h₁.objs.size))
 have he3:=Heap.get?_update_self (Obj.mapFields (·.setIfInBounds 1 (Value.ref h₁.objs.size))) he2 (Obj.isFreed_of_fields hd3)
 have hob1:ob.isFreed = false:=by rw [← hob]; rfl
 have hT3:((h₁.push ob).update e (Obj.mapFields (·.setIfInBounds 1 (Value.ref h₁.objs.size)))).get? h₁.objs.size = some ob:=(Heap.get?_update_other _ _ (Ne.symm hT)).trans (Heap.get?_push_size _ hob1)
 have oth:∀ b o,b≠e→h₁.get? b = some o→((h₁.push ob).update e (Obj.mapFields (·.setIfInBounds 1 (Value.ref h₁.objs.size)))).get? b = some o:=fun b o n q=>(Heap.get?_update_other _ _ (Ne.symm n)).trans (Heap.get?_push_of_some _ q)
 have kx:au (·∈e::L::FR) s.heap ((h₁.push ob).update e (Obj.mapFields (·.setIfInBounds 1 (Value.ref h₁.objs.size)))):=by
  refine .eR (fun u o m q=>?_) fun b o n q=>?_
  ·rcases List.mem_cons.mp m with z | z
   ·rw [z,he] at q; cases q; exact F7 hc
   ·obtain ⟨o',q',n'⟩:=fl.mem u z
    rw [q] at q'; cases q'; exact dY n'
  ·exact oth b o (fun z=>n (z▸.head _)) ((hs2 b fun z=>n (.tail _ z)).trans q)
 have nd:dF (L::FR) s.heap ((h₁.push ob).update e (Obj.mapFields (·.setIfInBounds 1 (Value.ref h₁.objs.size)))):=fun b m o q n=>by
  obtain ⟨sl,q1⟩:=hs3 b o q
  exact ⟨_,oth b _ (fun z=>by rw [z,he] at q; cases q; exact n vs hd) q1,rfl⟩
 refine hQ _ (k.drop kx (fun b m=>nd b (.tail _ m)) fun u m=>?_) ⟨fl.1,fun x m=>?_⟩ ?_ nd
 ·rcases List.mem_cons.mp m with z | z
  ·rw [z]; exact .inr e0
  ·rcases List.mem_cons.mp z with z | z
   ·rw [z]; exact .inr hL
   ·exact .inl z
 ·refine af fun nG=>?_
  obtain ⟨hk,L',o,h1,h2,h3⟩:=fl.2 x m
  obtain ⟨o',q',d'⟩:=nd L' (hN x m L' h1) o h2 h3
  refine nG ?_
  exact ⟨hk,L',o',h1,q',fun vs z=>h3 vs (d'▸z)⟩
 ·have kT:h₀.get? h₁.objs.size = none:=by
   cases q:h₀.get? h₁.objs.size with
   | none=>rfl
   | some o=>
    have:∃ o',s.heap.get? h₁.objs.size = some o':=by
     by_cases z:h₁.objs.size∈FR
     ·obtain ⟨o',a,_⟩:=fl.mem _ (.tail _ z); exact ⟨o',a⟩
     ·obtain ⟨o',a,_⟩:=k.kx.same _ o z q; exact ⟨o',a⟩
    obtain ⟨o',a⟩:=this
    have:=Heap.lt_size a
    rw [hs1] at this
    exact absurd this (Nat.lt_irrefl _)
  refine ⟨e0,_,_,he3,?_,hd3,.inr ⟨h₁.objs.size,ob,_,rawInt L,?_,kT,hT,hT3,by rw [← hob],by rw [← hob],?_,rfl⟩⟩
  ·exact (Obj.cls_mapFields _ _).trans hc
  ·simp [hz]
  ·simp
theorem xJ {s:Shared} {h':Heap} {u:Addr} {o:Obj} (k:KF FR h₀ s.heap) (u0:h₀.get? u = none) (ho:s.heap.get? u = some o) (ht:bA o = false) (hd:∃ vs,o.data = .fields vs) (oth:∀ b,b≠u→h'.get? b = s.heap.get? b):KF FR h₀ h':=
 k.drop (Y:=(· = u)) (.eR (fun v o' m q=>by rw [m,ho] at q; cases q; exact ht) fun b o' n q=>(oth b n).trans q)
  (fun b m o' q n=>⟨o',(oth b fun z=>by rw [z,ho] at q; cases q; obtain ⟨vs,d⟩:=hd; exact n vs d).trans q,rfl⟩) fun v m=>.inr (m▸u0)
theorem dF.refl (F:List Addr) (h:Heap):dF F h h:=fun L m o e n=>⟨o,e,rfl⟩
theorem xK {s:Shared} {h':Heap} {u:Addr} {o:Obj} (F:List Addr) (ho:s.heap.get? u = some o) (hd:∃ vs,o.data = .fields vs) (oth:∀ b,b≠u→h'.get? b = s.heap.get? b):dF F s.heap h':=
 fun b m o' q n=>⟨o',(oth b fun z=>by rw [z,ho] at q; cases q; obtain ⟨vs,d⟩:=hd; exact n vs d).trans q,rfl⟩
theorem xM {s:Shared} {h':Heap} {u:Addr} {o:Obj} {l:List Env} {F:List Addr} (fl:cH l F s.heap) (ho:s.heap.get? u = some o) (hd:∃ vs,o.data = .fields vs) (oth:∀ b,b≠u→h'.get? b = s.heap.get? b):cH l F h':=
 ⟨fl.1,fun x m=>by
  refine af fun nG=>?_
  obtain ⟨hk,L',o',h1,h2,h3⟩:=fl.2 x m
  refine nG ?_
  exact ⟨hk,L',o',h1,(oth L' fun z=>by rw [z,ho] at h2; cases h2; obtain ⟨vs,d⟩:=hd; exact h3 vs d).trans h2,h3⟩⟩
theorem m5 {s:Shared} {fo:Option Addr} {l:List Env} {F:List Addr} {P:Option Value→Prop} {Q:Unit→Shared→Prop} {E:Value→Shared→Prop} (hP:¬ P none) (fl:cH l F s.heap) (k:KF FR h₀ s.heap) (x:b9 h₀ c e P s.heap)
  (hQ:∀ h',KF FR h₀ h'→cH l F h'→b9 h₀ c e (fun m=>m = some (fo.elim .none fun f=>rawInt f)) h'→dF F s.heap h'→Q () { s with heap:=h' }):aw W A (setFlight (.ref e) fo) Q E s:=by
 refine af fun nG=>?_
 obtain ⟨e0,oe,vs,he,hc,hd,q⟩:=x
 refine nG ?_
 rcases q with ⟨_,q⟩ | ⟨T,oT,ts,mk,h1,T0,hT,hoT,hcT,hdT,h3,_⟩
 ·exact absurd q hP
 ·unfold setFlight
  refine wpAny_bind (wpAny_field he hd h1 ?_)
  rw [if_pos (show (Value.ref T != Value.none) = true from by simp)]
  have hz:3 < ts.size:=(Array.getElem?_eq_some_iff.mp h3).1
  refine wpAny_setField hoT hdT hz ?_
  have hd':=Obj.data_mapFields hdT (·.setIfInBounds 3 (fo.elim .none fun f=>rawInt f))
  have oth:∀ b,b≠T→(s.heap.update T (Obj.mapFields (·.setIfInBounds 3 (fo.elim .none fun f=>rawInt f)))).get? b = s.heap.get? b:=fun b n=>Heap.get?_update_other _ _ (Ne.symm n)
  refine hQ _ (xJ k T0 hoT (xH hcT) ⟨ts,hdT⟩ oth) (xM fl hoT ⟨ts,hdT⟩ oth) ⟨e0,oe,vs,(oth e (Ne.symm hT)).trans he,hc,hd,.inr ⟨T,_,_,_,h1,T0,hT,Heap.get?_update_self _ hoT (Obj.isFreed_of_fields hd'),(Obj.cls_mapFields _ _).trans hcT,hd',?_,rfl⟩⟩ (xK F hoT ⟨ts,hdT⟩ oth)
  simp [hz]
theorem qU {s:Shared} {Q:Unit→Shared→Prop} {E:Value→Shared→Prop} (hfr:A.frames = some (env::outer)) (fl:cH (env::outer) (L::FR) s.heap) (hf:env.frame = some L)
  (k:KF FR h₀ s.heap) (hL:h₀.get? L = none) (x:b9 h₀ c e (mZ L) s.heap)
  (hQ:∀ h',KF FR h₀ h'→cH (env::outer) (L::FR) h'→b9 h₀ c e (qT L) h'→dF (L::FR) s.heap h'→Q () { s with heap:=h' }):aw W A (noteFrame (.ref e) env) Q E s:=by
 refine af fun nG=>?_
 obtain ⟨e0,oe,vs,he,hc,hd,q⟩:=x
 refine nG ?_
 unfold noteFrame
 simp only [hf]
 rcases q with ⟨h1,_⟩ | ⟨T,oT,ts,mk,h1,T0,hT,hoT,hcT,hdT,h3,hmk⟩
 ·refine wpAny_bind (wpAny_field he hd h1 ?_)
  rw [if_neg (by decide)]
  exact xI hfr fl hf k hL e0 he hc hd (Array.getElem?_eq_some_iff.mp h1).1 hQ
 ·refine wpAny_bind (wpAny_field he hd h1 ?_)
  rw [if_pos (show (Value.ref T != Value.none) = true from by simp)]
  refine wpAny_bind (wpAny_field hoT hdT h3 ?_)
  by_cases z:mk = rawInt L
  ·rw [if_pos (by rw [z]; first | exact beq_self_eq_true _ | simp)]
   exact wpAny_pure (hQ s.heap k fl ⟨e0,oe,vs,he,hc,hd,.inr ⟨T,oT,ts,mk,h1,T0,hT,hoT,hcT,hdT,h3,by rw [z]; rfl⟩⟩ (.refl _ _))
  ·have hmk:mk = .none:=by
    rcases hmk with q | q | q
    ·exact c5 q
    ·exact Option.some.inj q
    ·exact absurd (Option.some.inj q) z
   subst hmk
   rw [if_neg (show ¬ ((Value.none == rawInt L) = true) from by simp [rawInt])]
   have hz:3 < ts.size:=(Array.getElem?_eq_some_iff.mp h3).1
   refine wpAny_bind (wpAny_setField hoT hdT hz ?_)
   have oth:∀ b,b≠T→(s.heap.update T (Obj.mapFields (·.setIfInBounds 3 Value.none))).get? b = s.heap.get? b:=fun b n=>Heap.get?_update_other _ _ (Ne.symm n)
   exact xI (s:={ s with heap:=s.heap.update T (Obj.mapFields (·.setIfInBounds 3 Value.none)) }) hfr (xM fl hoT ⟨ts,hdT⟩ oth) hf (xJ k T0 hoT (xH hcT) ⟨ts,hdT⟩ oth) hL e0 ((oth e (Ne.symm hT)).trans he) hc hd (Array.getElem?_eq_some_iff.mp h1).1 fun h' a b c d=>hQ h' a b c ((xK (L::FR) hoT ⟨ts,hdT⟩ oth).trans d)
theorem F8 {s:Shared} {Q:Unit→Shared→Prop} {E:Value→Shared→Prop} (hfr:A.frames = some (env::outer)) (fl:cH (env::outer) (L::FR) s.heap) (hf:env.frame = some L)
  (k:KF FR h₀ s.heap) (hL:h₀.get? L = none) (x:b9 h₀ c e (mZ L) s.heap)
  (hQ:∀ h',KF FR h₀ h'→b9 h₀ c e m4 h'→Q () { s with heap:=h' }):aw W A («leaving» env (.ref e)) Q E s:=by
 unfold «leaving»
 refine wpAny_bind (qU hfr fl hf k hL x fun h1 k1 f1 x1 d1=>?_)
 exact m5 (s:={ s with heap:=h1 }) (fo:=none) (fun z=>by exact aq z) f1 k1 x1 fun h2 k2 _ x2 _=>hQ h2 k2 x2
end
set_option genCtorIdx true in
inductive Fl where
 | next (σ:ao) (own:Own)
 | ret (a:AV) (own:Own)
 | exc (c:Addr)
structure ee (A:Around) (env:Env) (FR:List Addr) (h:Heap):Prop where
 fr:env.frame = some env.locals
 kd:env.scope.kind≠.module
 ex:∃ outer,A.frames = some (env::outer)∧cH outer FR h
theorem ee.keep {A:Around} {env:Env} {FR:List Addr} {h h':Heap} (f:ee A env FR h) (k:ag h h'):ee A env FR h':=⟨f.fr,f.kd,let ⟨o,a,d⟩:=f.ex; ⟨o,a,d.kf (k.kf FR)⟩⟩
noncomputable def di (h:Heap) (L:Addr):Prop:=∃ o,h.get? L = some o∧∀ vs,o.data≠.fields vs
theorem ee.m6 {A:Around} {env:Env} {FR:List Addr} {h₀ h:Heap} (f:ee A env FR h₀) (k:KF FR h₀ h) (o:di h env.locals):∃ outer,A.frames = some (env::outer)∧cH (env::outer) (env.locals::FR) h:=by
 obtain ⟨outer,a,d⟩:=f.ex
 have d':=d.kf k
 refine ⟨outer,a,?_,fun e he=>?_⟩
 ·rw [List.filterMap_cons,f.fr,d'.1]
 ·rcases List.mem_cons.mp he with q | q
  ·subst q; obtain ⟨ob,h1,h2⟩:=o; exact ⟨f.kd,_,ob,f.fr,h1,h2⟩
  ·exact d'.2 e q
section
variable {W:ab} {d:Nat} {sc:Fs} {c:ai W d sc} {σ σ':ao} {own own1 own2:Own} {pos:Pos}
noncomputable def Told (c:ai W d sc) (s:Shared) (Q:Flow→Shared→Prop) (E:Value→Shared→Prop):Fl→Prop
 | .next σ own=>∀ h' tk ad,SV c σ ⟨own,ad,h'⟩→Q .next (mv s h' tk)
 | .ret a own=>∀ v h' tk ad,SV c [] ⟨own,ad,h'⟩→Rel W (vw c.U ⟨own,ad,h'⟩) v a→Q (.ret v) (mv s h' tk)
 | .exc x=>∃ FR,ee c.A c.env FR c.h₀∧∀ e h' tk,KF FR c.h₀ h'→c.h₀.get? c.env.locals = none→di h' c.env.locals→b9 c.h₀ x e (mZ c.env.locals) h'→E (.ref e) (mv s h' tk)
theorem Told.mv {s:Shared} {Q:Flow→Shared→Prop} {E:Value→Shared→Prop} {f:Fl} {h:Heap} {tk:Nat} (T:Told c s Q E f):Told c (mv s h tk) Q E f:=by cases f<;>exact T
noncomputable def az (c:ai W d sc) (σ:ao) (own:Own) (t:Sem Flow) (f:Fl):Prop:=∀ (s:Shared) ad (Q:Flow→Shared→Prop) (E:Value→Shared→Prop),SV c σ ⟨own,ad,s.heap⟩→Told c s Q E f→aw W c.A t Q E s
theorem SV.bare {p:Pt} (S:SV c σ p):SV c [] p:=S.sub fun _ _ e=>(by exact aq e)
theorem az.nil:az c σ own (execs [] c.env) (.next σ own):=fun s ad _ _ S T=>wpAny_execs_nil (T s.heap s.toks ad S)
theorem az.seq {st:Stmt} {l:List Stmt} {f:Fl} (h:az c σ own (exec st c.env) (.next σ' own1)) (k:az c σ' own1 (execs l c.env) f):az c σ own (execs (st::l) c.env) f:=fun s ad Q E S T=>
 wpAny_execs_cons (h s ad _ E S fun h' tk ad1 S1=>k _ ad1 Q E S1 T.mv)
theorem az.F9 {a:AV} {st:Stmt} {l:List Stmt} (h:az c σ own (exec st c.env) (.ret a own1)):az c σ own (execs (st::l) c.env) (.ret a own1):=fun s ad Q E S T=>wpAny_execs_cons (h s ad _ E S T)
theorem az.Ga {a:Addr} {st:Stmt} {l:List Stmt} (h:az c σ own (exec st c.env) (.exc a)):az c σ own (execs (st::l) c.env) (.exc a):=fun s ad Q E S T=>wpAny_execs_cons (h s ad _ E S T)
theorem az.ite {t:Expr} {b e:List Stmt} {x:Bool} {f:Fl} (ht:bo c σ own (isTrue t c.env (eval t c.env)) x own1) (h:az c σ own1 (execs (if x = true then b else e) c.env) f):az c σ own (exec (.If t b e pos) c.env) f:=fun s ad Q E S T=>
 wpAny_If (ht s ad _ _ S fun v h' tk a1 k q=>by
  subst q
  have z:=h (Mine.mv s h' tk) a1 Q E (S.after k) T.mv
  cases v<;>exact z)
theorem Gb (c:ai W d sc):interactive c.env = false:=by unfold interactive; rw [c.K.kind]; rfl
noncomputable abbrev j8 (e:Expr):Prop:=∀ t l env,swapsWith e t l env = pure false
theorem az.expr {e:Expr} {a:AV} (hs:j8 e) (h:aj c σ own (eval e c.env) a own1):az c σ own (exec (.Expr e pos) c.env) (.next σ own1):=fun s ad Q E S T=>
 wpAny_Expr_any (h s ad _ _ S fun v h1 t1 a1 k1 r1=>T h1 t1 a1 (S.after k1)) (Gb c) (hs _ _ _)
theorem az.ret {e:Expr} {a:AV} (h:aj c σ own (eval e c.env) a own1):az c σ own (exec (.Return (some e) pos) c.env) (.ret a own1):=fun s ad Q E S T=>
 wpAny_Return_some (h s ad _ _ S fun v h1 t1 a1 k1 r1=>T v h1 t1 a1 (S.after k1).bare r1)
theorem az.Gd:az c σ own (exec (.Return none pos) c.env) (.ret .none own):=fun s ad _ _ S T=>wpAny_Return_none (T .none s.heap s.toks ad S.bare rfl)
theorem az.pass:az c σ own (exec (.Pass pos) c.env) (.next σ own):=fun s ad _ _ S T=>wpAny_Pass (T s.heap s.toks ad S)
end
noncomputable def cX (sc:Scope) (x:Str) (k:NameKind):Bool:=match lk x sc.names with
 | some j=>j == k
 | none=>false
theorem qV {env:Env} {sc:Scope} {x:Str} {k:NameKind} (es:env.scope = sc) (h:cX sc x k = true):env.kindOf x = some k:=by
 unfold cX at h
 show env.scope.names.lookup x = _
 rw [es,← cQ]
 cases e:lk x sc.names with
 | none=>rw [e] at h; exact aR h
 | some j=>rw [e] at h; rw [beq_iff_eq.mp h]
theorem xN {env:Env} (K:eU env):(env.scope.kind == .class || (env.scope.kind == .module && env.locals != env.globals)) = false:=by rw [K.kind]; rfl
noncomputable def iU (sc:Fs) (x:Str) (a:AV) (σ σ':ao):Prop:=∀ {W:ab} {d} {c:ai W d sc} {own ad s v} {Q:Unit→Shared→Prop} {E:Value→Shared→Prop},SV c σ ⟨own,ad,s.heap⟩→Rel W (vw c.U ⟨own,ad,s.heap⟩) v a→
 (∀ h' tk,SV c σ' ⟨own,ad,h'⟩→(vw c.U ⟨own,ad,s.heap⟩).Le (vw c.U ⟨own,ad,h'⟩)→Q () (mv s h' tk))→aw W c.A (storeName c.env x v) Q E s
noncomputable def j9 (sc:Fs) (x:Str) (a:AV) (σ:ao):Option { σ':ao // iU sc x a σ σ' }:=aF (cX sc.sc x .local) (fun h=>some ⟨(x,a)::del x σ,fun {W d c own ad s v Q E} S rv G=>by
   refine af fun nG=>?_
   have hk:=qV c.es h
   obtain ⟨m,hns⟩:=S.ns
   refine nG ?_
   exact wpAny_storeName_local hk hns (fun h2 n2 s2=>G h2 _ (S.store hk rv hns n2 s2) (S.owns.mI (.inr c.base) (.one (S.low _ c.base).2 s2)).2) (xN c.K)⟩)
 fun _=>aF (aG sc.fn (cX sc.sc x .cell)) (fun h=>some ⟨(x,a)::del x σ,fun {W d c own ad s v Q E} S rv G=>by
   refine af fun nG=>?_
   obtain ⟨hn,h⟩:=aB h
   have hk:=qV c.es h
   obtain ⟨u,hc⟩:=(c.cel hn).has x hk
   obtain ⟨v₀,i₀⟩:=S.cls x u hc
   refine nG ?_
   have hz:=(c.K.names x (by rw [show c.env.scope.names.lookup x = some .cell from hk]; exact fun z=>(by exact c5 z))).2
   have hB:=(c.cel hn).own x u hk hc
   exact wpAny_storeName_cell c.K.kind hk hc i₀ fun h2 i2 s2=>G h2 _ (S.EH hn hk hz hc rv i2 s2) (S.owns.mI (.inr hB) (.one (S.low _ hB).2 s2)).2⟩) fun _=>none
noncomputable def N6 (e:Expr):Option { x:Str×Pos // e = .Name x.1 x.2 }:=match e with
 | .Name x p=>some ⟨(x,p),rfl⟩
 | _=>none
section
variable {W:ab} {d:Nat} {sc:Fs} {c:ai W d sc} {σ σ':ao} {own own1 own2:Own} {pos:Pos}
theorem az.assign {x:Str} {p:Pos} {e:Expr} {a:AV} (hs:j8 e) (h:aj c σ own (eval e c.env) a own1) (hb:iU sc x a σ σ'):az c σ own (exec (.Assign [.Name x p] e pos) c.env) (.next σ' own1):=fun s ad Q E S T=>
 wpAny_Assign_Name (h s ad _ _ S fun v h1 t1 a1 k1 r1=>hb (s:=Mine.mv s h1 t1) (S.after k1) r1 fun h2 tk S2 _=>T h2 tk a1 S2) (hs _ _ _)
end
structure ke (sc:Fs) (ts:List Expr) (as:List AV) (σ σ':ao):Prop where
 len:ts.length = as.length
 plain:∀ env,(assignEach ts env).findIdx? (·.1) = none∧(assignEach ts env).length = ts.length
 run:∀ {W:ab} {d} {c:ai W d sc} {own ad s vs} {Q:Unit→Shared→Prop} {E:Value→Shared→Prop},SV c σ ⟨own,ad,s.heap⟩→ah W (vw c.U ⟨own,ad,s.heap⟩) vs as→
  (∀ h' tk,SV c σ' ⟨own,ad,h'⟩→(vw c.U ⟨own,ad,s.heap⟩).Le (vw c.U ⟨own,ad,h'⟩)→Q () (mv s h' tk))→aw W c.A (assignInOrder ((assignEach ts c.env).map (·.2)) vs) Q E s
theorem ke.cons {sc:Fs} {x:Str} {p:Pos} {ts:List Expr} {a:AV} {as:List AV} {σ σ1 σ':ao} (h:iU sc x a σ σ1) (k:ke sc ts as σ1 σ'):ke sc (.Name x p::ts) (a::as) σ σ' where
 len:=congrArg (· + 1) k.len
 plain:=fun env=>⟨by
  show List.findIdx? (·.1) ((false,PySem.assign (.Name x p) env)::assignEach ts env) = none
  rw [List.findIdx?_cons,(k.plain env).1]; rfl,congrArg (· + 1) (k.plain env).2⟩
 run:=fun S rl G=>by
  obtain ⟨rv,rl⟩:=rl
  exact wpAny_assignInOrder_more (assign_Name (h S rv fun h1 t1 S1 s1=>k.run (s:=Mine.mv _ h1 t1) S1 (rl.mono s1) fun h2 t2 S2 s2=>G h2 t2 S2 (s1.trans s2)))
noncomputable def xO (sc:Fs):(ts:List Expr)→(as:List AV)→(σ:ao)→Option { σ':ao // ke sc ts as σ σ' }
 | [],[],σ=>some ⟨σ,rfl,fun _=>⟨rfl,rfl⟩,fun {_ _ _ _ _ s _ _ _} S rl G=>rl▸wpAny_pure (G s.heap s.toks S .refl)⟩
 | .Name x p::ts,a::as,σ=>(match j9 sc x a σ with
  | some r=>(match xO sc ts as r.1 with
   | some q=>some ⟨q.1,.cons r.2 q.2⟩
   | none=>none)
  | none=>none)
 | _,_,_=>none
end Mine
end
section
open PySem PySem.W PyProof.Rows PySem.Calls
namespace Mine
section
structure Fn where
 names:List Str
 dv:List Value
 body:List Stmt
 scope:Scope
noncomputable def m7:List Value→List AV
 | []=>[]
 | v::l=>(mW v).1::m7 l
theorem xP {W:ab} {V:Vw}:∀ l:List Value,ah W V l (m7 l)
 | []=>rfl
 | v::l=>.cons ((mW v).2 W V) (xP l)
noncomputable def Fn.more (F:Fn) (k:Nat):List Value:=F.dv.drop (F.dv.length - (F.names.length - k))
noncomputable def Fn.fill (F:Fn) (as:List AV):ao:=F.names.zip (as ++ m7 (F.more as.length))
theorem iW {α β:Type} [BEq α] [LawfulBEq α] {x:α} {a:β}:∀ {l:List (α×β)},l.lookup x = some a→(x,a)∈l
 | (y,b)::l,e=>by
  rw [List.lookup_cons] at e
  split at e
  ·rename_i q; rw [beq_iff_eq.mp q,Option.some.inj e]; exact .head _
  ·exact .tail _ (iW e)
noncomputable def m8:Str:=⟨#[95,95,100,101,98,117,103,95,95]⟩
noncomputable def qW:Str:=⟨#[95,95,99,108,97,115,115,100,105,99,116,95,95]⟩
theorem xQ:m8 = ("__debug__":Str):=by decide +kernel
theorem xR:qW = ("__classdict__":Str):=by decide +kernel
noncomputable def qX (sc:Scope):Bool:=sc.names.all fun p=>!sEq p.1 m8 && !sEq p.1 qW
theorem xS {sc:Scope} (h:qX sc = true) {x:Str} (q:sc.names.lookup x≠none):(x == ("__debug__":Str)) = false∧(x == ("__classdict__":Str)) = false:=by
 obtain ⟨k,hk⟩:=Option.ne_none_iff_exists'.mp q
 have:=List.all_eq_true.mp h _ (iW hk)
 rw [eA,eA,xQ,xR,Bool.and_eq_true,Bool.not_eq_true',Bool.not_eq_true'] at this
 exact this
noncomputable def qY:List Str→Bool
 | []=>true
 | x::l=>aG (!l.any (sEq x)) (qY l)
theorem xT:∀ {l:List Str},qY l = true→l.Nodup
 | [],_=>.nil
 | x::l,e=>by
  obtain ⟨e1,e2⟩:=aB e
  refine List.nodup_cons.mpr ⟨fun m=>?_,xT e2⟩
  rw [List.any_eq_true.mpr ⟨x,m,sEq_iff.mpr rfl⟩] at e1; exact aR e1
noncomputable def qZ (sc:Scope) (x:Str):Bool:=match lk x sc.names with
 | some .local | some .cell=>true
 | _=>false
theorem Ge {sc:Scope} {x:Str} (h:qZ sc x = true):sc.names.lookup x = some .local∨sc.names.lookup x = some .cell:=by
 unfold qZ at h
 rw [← cQ]
 cases e:lk x sc.names with
 | none=>rw [e] at h; exact aR h
 | some k=>rw [e] at h; cases k<;>first | exact .inl rfl | exact .inr rfl | cases h
noncomputable def Fn.m9 (F:Fn):Bool:=aG (aG (qY F.names) (F.names.all (qZ F.scope))) (aG (aG (F.scope.kind == .function) (qX F.scope)) (aG (!F.scope.isCoroutine) (!F.scope.isGenerator)))
structure gk (W:ab) (f:Addr) (fd:FuncData) (F:Fn) (ks:List Nat):Prop where
 obj:∀ h,GG W h→∃ o,h.get? f = some o∧o.data = .func fd
 code:∀ h,GG W h→h.CodeRec fd.code fd.qualname
 body:fd.body = .stmts F.body
 scope:fd.scope = F.scope
 m9:F.m9 = true
 lam:∀ c P q q',da F.scope = some (c,P,q,q')→fd.code = .ref c∧fd.qualname ++ ".<locals>." = q
 globals:fd.globals = mainGlobals
 closure:fd.closure = []
 builtins:fd.builtins = builtinsNs
 binds:∀ s,GG W s.heap→∀ vs:List Value,ks.any (Nat.beq vs.length) = true→(vs ++ F.more vs.length).length = F.names.length∧BindsTo s fd ⟨vs,[]⟩ (F.names.zip (vs ++ F.more vs.length))
theorem xU {W:ab} {V:Vw} {x:Str} {a:AV}:∀ {names:List Str} {vs:List Value} {as:List AV},ah W V vs as→lk x (names.zip as) = some a→(∃ v,(names.zip vs).lookup x = some v∧Rel W V v a)∧x∈names
 | _::_,_,[],_,e=>(by exact aq e)
 | y::ys,_,b::as,r,e=>by
  obtain ⟨h,r⟩:=r
  rw [List.zip_cons_cons,c9] at e
  rw [List.zip_cons_cons,List.lookup_cons]
  split at e
  ·rename_i q; rw [q,beq_self_eq_true]; exact ⟨⟨_,rfl,Option.some.inj e▸h⟩,.head _⟩
  ·rename_i q; rw [beq_eq_false_iff_ne.mpr q]; exact let ⟨a,b⟩:=xU r e; ⟨a,.tail _ b⟩
theorem xV {k:Str→Option NameKind} {x:Str}:∀ {l:List (Str×Value)} {m:Str→Option Value},(∀ p∈l,p.1≠x)→bindL k l m x = m x
 | [],_,_=>rfl
 | (n,v)::r,m,h=>by
  unfold bindL
  rw [xV fun p hp=>h p (.tail _ hp)]
  split
  ·exact if_neg fun q=>h (n,v) (.head _) q.symm
  ·rfl
theorem xW {k:Str→Option NameKind} {x:Str}:∀ {l:List (Str×Value)} {m:Str→Option Value},(∀ p∈l,p.1≠x)→PySem.bindC k l m x = m x
 | [],_,_=>rfl
 | (n,v)::r,m,h=>by
  unfold PySem.bindC
  rw [xW fun p hp=>h p (.tail _ hp)]
  split
  ·rfl
  ·exact if_neg fun q=>h (n,v) (.head _) q.symm
theorem xX {k:Str→Option NameKind} {x:Str} {v:Value}:∀ {names:List Str} {vs:List Value} {m:Str→Option Value},names.Nodup→(names.zip vs).lookup x = some v→k x = some .local→bindL k (names.zip vs) m x = some v
 | [],_,_,_,e,_=>by exact aq e
 | _::_,[],_,_,e,_=>by exact aq e
 | y::ys,w::ws,m,nd,e,hk=>by
  obtain ⟨ny,nd⟩:=List.nodup_cons.mp nd
  rw [List.zip_cons_cons] at e ⊢
  rw [List.lookup_cons] at e
  unfold bindL
  by_cases q:x = y
  ·subst q
   rw [beq_self_eq_true] at e
   cases e
   rw [xV fun p hp q=>ny (by rw [← q]; exact (List.of_mem_zip (a:=p.1) (b:=p.2) hp).1),if_pos hk]; exact if_pos rfl
  ·rw [beq_eq_false_iff_ne.mpr q] at e
   exact xX nd e hk
theorem xY {k:Str→Option NameKind} {x:Str} {v:Value}:∀ {names:List Str} {vs:List Value} {m:Str→Option Value},names.Nodup→(names.zip vs).lookup x = some v→k x = some .cell→PySem.bindC k (names.zip vs) m x = some v
 | [],_,_,_,e,_=>by exact aq e
 | _::_,[],_,_,e,_=>by exact aq e
 | y::ys,w::ws,m,nd,e,hk=>by
  obtain ⟨ny,nd⟩:=List.nodup_cons.mp nd
  rw [List.zip_cons_cons] at e ⊢
  rw [List.lookup_cons] at e
  unfold PySem.bindC
  by_cases q:x = y
  ·subst q
   rw [beq_self_eq_true] at e
   cases e
   rw [xW fun p hp q=>ny (by rw [← q]; exact (List.of_mem_zip (a:=p.1) (b:=p.2) hp).1),if_neg (by rw [hk]; exact fun z=>(by cases z))]; exact if_pos rfl
  ·rw [beq_eq_false_iff_ne.mpr q] at e
   exact xY nd e hk
theorem hJ {x:Str}:∀ {l:List (Str×NameKind)} {n:Nat} {acc:List (Str×Addr)},(l.lookup x = some .cell∨(acc.lookup x).isSome = true)→((cellsFrom n l acc).lookup x).isSome = true
 | [],_,_,.inl h=>by exact aq h
 | [],_,_,.inr h=>h
 | (y,k)::l,n,acc,h=>by
  unfold cellsFrom
  by_cases q:x = y
  ·subst q
   split
   ·refine hJ (.inr ?_)
    rw [List.lookup_cons,beq_self_eq_true]; rfl
   ·rename_i hk
    refine hJ ?_
    rcases h with h | h
    ·rw [List.lookup_cons,beq_self_eq_true] at h
     cases h; exact absurd rfl hk
    ·exact .inr h
  ·split
   ·refine hJ ?_
    rcases h with h | h
    ·rw [List.lookup_cons,beq_eq_false_iff_ne.mpr q] at h; exact .inl h
    ·right; rw [List.lookup_cons,beq_eq_false_iff_ne.mpr q]; exact h
   ·refine hJ ?_
    rcases h with h | h
    ·rw [List.lookup_cons,beq_eq_false_iff_ne.mpr q] at h; exact .inl h
    ·exact .inr h
theorem Gf {prog:Program} {w:World} {A:Around} {s:Shared} {R:Result→Shared→Prop} {a:Addr} {o:Obj} {fd:FuncData} {body:List Stmt} {vals:List Value} {binds:List (Str×Value)}
  (hroom:A.depth < recursionLimit) (ho:s.heap.get? a = some o) (hdata:o.data = .func fd) (hlim:s.heap.NoLimit) (hcd:s.heap.CodeRec fd.code fd.qualname)
  (hbody:fd.body = .stmts body) (hbind:BindsTo s fd ⟨vals,[]⟩ binds) (hclo:fd.closure = [])
  (hkind:∀ x∈binds,fd.scope.names.lookup x.1 = some .local∨(fd.scope.names.lookup x.1 = some .cell∧((cellsFrom (s.heap.objs.size + 1) fd.scope.names []).lookup x.1).isSome = true))
  (h:∀ s₁,InCallC s (callEnvC fd s.heap.objs.size a).locals (bindL (callEnvC fd s.heap.objs.size a).kindOf binds fun _=>none) (callEnvC fd s.heap.objs.size a).cells
    (PySem.bindC (callEnvC fd s.heap.objs.size a).kindOf binds fun _=>none) s₁→
   wpAny (model prog w) (A.deeper (callEnvC fd s.heap.objs.size a)) (execs body (callEnvC fd s.heap.objs.size a)) (fun f s'=>R (.ok (.ret (match f with | .ret v=>v | _=>.none))) s')
    (fun e s'=>wpAny (model prog w) (A.deeper (callEnvC fd s.heap.objs.size a)) («leaving» (callEnvC fd s.heap.objs.size a) e) (fun _ s''=>R (.error e) s'') (fun e' s''=>R (.error e') s'') s') s₁)
  (hco:fd.scope.isCoroutine = false) (hgen:fd.scope.isGenerator = false) (hk:fd.scope.kind = .function):
  codeAny (model prog w) A (.call (.ref a) ⟨vals,[]⟩) R s:=by
 refine codeAny_call_function hroom ho hdata hco hgen hbody hcd (hbind _ _ _ _ ?_)
 rw [hclo]
 refine wpAny_newFunctionEnv_cells hk hkind fun env he s' x=>?_
 subst he
 exact ⟨hlim.keeps x.toInCall.keep,codeAny_func (h s' x)⟩
variable {W:ab} {d:Nat} {own own1:Own} {ad:List Addr}
theorem aN.map {U U':AS} {p:Pt} {h':Heap} (O:aN W U p) (l:(vw U p).Le (vw U' ⟨p.own,p.ad,h'⟩)) (nu:∀ u,ak p.own p.ad u→¬U' u) (k:∀ u o,ak p.own p.ad u→p.h.get? u = some o→bA o = false→h'.get? u = some o):aN W U' ⟨p.own,p.ad,h'⟩:=
 ⟨O.len,fun n pv a z=>let ⟨_,o,e,r⟩:=O.obj n pv a z; ⟨nu _ ⟨n,pv,z⟩,o,k _ _ ⟨n,pv,z⟩ e r.soft.2,r.mono l⟩,fun n t e=>let ⟨a,e,r⟩:=O.fz n t e; ⟨a,e,r.mono l⟩,O.inj,O.top⟩
structure xZ (c:ai W d sc) (A:Around) (U:AS) (own:Own) (ad:List Addr) (s:Shared):Prop where
 A:c.A = A.deeper c.env
 X:c.X = U
 h:c.h₀ = aP (ak own ad) s.heap
 ad:c.ad = ad
 fr:c.env.frame = some c.env.locals
 new:s.heap.get? c.env.locals = none
theorem kg {f:Addr} {fd:FuncData} {F:Fn} {ks:List Nat} (X:gk W f fd F ks) {A:Around} (a:dc (d + 1) A) {U:AS} {s:Shared} {vs:List Value} {as:List AV} {R':Result→Shared→Prop} (ht:d7 F.scope = true→A.frames = some []) (hk:ks.any (Nat.beq as.length) = true) (Bs:Base W U s.heap) (O:aN W U ⟨own,ad,s.heap⟩) (hr:ah W (vw U ⟨own,ad,s.heap⟩) vs as)
  (body:∀ (c:ai W d ⟨F.scope,true⟩) hp1 tk1,xZ c A U own ad s→SV c (F.fill as) ⟨own,ad,hp1⟩→aw W c.A (execs F.body c.env) (fun fl s'=>R' (.ok (.ret (match fl with | .ret v=>v | _=>.none))) s')
   (fun e s'=>aw W c.A («leaving» c.env e) (fun _ s''=>R' (.error e) s'') (fun e' s''=>R' (.error e') s'') s') (mv s hp1 tk1)):codeAny (model pg W.w) A (.call (.ref f) ⟨vs,[]⟩) R' s:=by
 refine af fun nG=>?_
 have hvl:=hr.length
 rw [← hvl] at hk
 obtain ⟨hl,hb⟩:=X.binds s Bs.G vs hk
 have rall:ah W (vw U ⟨own,ad,s.heap⟩) (vs ++ F.more vs.length) (as ++ m7 (F.more as.length)):=by rw [← hvl]; exact hr.append (xP _)
 obtain ⟨ob,ho,hdata⟩:=X.obj _ Bs.G
 obtain ⟨k1,k2⟩:=aB X.m9
 obtain ⟨knd,kk⟩:=aB k1
 obtain ⟨k3,k4⟩:=aB k2
 obtain ⟨kf,ksc⟩:=aB k3
 obtain ⟨kco,kgen⟩:=aB k4
 refine nG ?_
 have nd:=xT knd
 have kf:=beq_iff_eq.mp kf
 have hkind:∀ x∈F.names,F.scope.names.lookup x = some .local∨F.scope.names.lookup x = some .cell:=fun x hx=>Ge (List.all_eq_true.mp kk x hx)
 have hscope:=X.scope
 refine Gf (binds:=F.names.zip (vs ++ F.more vs.length)) (by have:=a.depth; show A.depth < recursionLimit; unfold recursionLimit; lia) ho hdata Bs.G.nolimit (X.code _ Bs.G) X.body hb X.closure
  (fun x hx=>?_) (fun s₁ ic=>?_) (by rw [hscope]; exact (Bool.not_eq_true' _).mp kco) (by rw [hscope]; exact (Bool.not_eq_true' _).mp kgen) (by rw [hscope]; exact kf)
 ·have hm:x.1∈F.names:=(List.of_mem_zip (a:=x.1) (b:=x.2) hx).1
  rw [hscope]
  exact (hkind _ hm).imp id fun q=>⟨q,hJ (.inl q)⟩
 ·generalize henv:callEnvC fd s.heap.objs.size f = env at ic ⊢
  refine af fun nG=>?_
  have esc:env.scope = F.scope:=by rw [← henv]; exact hscope
  have eloc:env.locals = s.heap.objs.size:=by rw [← henv]; rfl
  have ecel:env.cells = cellsFrom (s.heap.objs.size + 1) F.scope.names []:=by rw [← henv,← hscope]; rfl
  have eok:eU env:=⟨by rw [esc]; exact kf,by rw [← henv]; exact X.globals,by rw [← henv]; exact X.builtins,fun x q=>xS ksc (by rw [← esc]; exact q),fun c P q q' z=>by rw [esc] at z; obtain ⟨z1,z2⟩:=X.lam c P q q' z; rw [← henv]; exact ⟨z1,z2⟩⟩
  obtain ⟨⟨⟨hp1,tk1,rfl⟩,hns,hk,hfr⟩,hcell,hap,hab⟩:=ic
  refine nG ?_
  have kp:ag s.heap hp1:=.of hk
  have dG:∀ x,env.kindOf x = F.scope.names.lookup x:=fun x=>by show env.scope.names.lookup x = _; rw [esc]
  have nB:∀ u,(u = env.locals∨∃ x,env.cells.lookup x = some u)→s.heap.get? u = none:=fun u hu=>by
   have:s.heap.objs.size≤u:=hu.elim (fun q=>by rw [q,eloc]; exact Nat.le_refl _) fun ⟨x,q⟩=>by have:=hab x u (iW q); rw [eloc] at this; exact Nat.le_of_lt this
   cases e:s.heap.get? u with
   | none=>rfl
   | some o=>exact absurd (Heap.lt_size e) (Nat.not_lt.mpr this)
  have hH:ag (aP (ak own ad) s.heap) s.heap:=ag.dO
  let c:ai W d ⟨F.scope,true⟩:={ A:=A.deeper env,env:=env,h₀:=aP (ak own ad) s.heap,X:=U,B:=(fun u=>u = env.locals∨∃ x,env.cells.lookup x = some u),ad:=ad,a:=⟨a.handled,(by have:=a.depth; show A.depth + 1 + d≤900; lia),(by have:=a.units; show A.units + 3 + 3 * d≤9000; lia)⟩,K:=eok,es:=esc,G:=(au.hide Bs.G fun u z=>⟨O.top u z,O.low z⟩),out:=(fun u hu=>let ⟨o,e⟩:=Bs.low u hu; ⟨o,a0.mpr ⟨e,fun z=>O.nU z hu⟩⟩),base:=.inl rfl,cls:=(fun x c e=>.inl (.inr ⟨x,e⟩)),cel:=fun _=>⟨fun x c _ e=>.inr ⟨x,e⟩,fun x y c e1 e2=>name_of_addr hap (iW e1) (iW e2),fun x q=>Option.isSome_iff_exists.mp (by rw [ecel]; exact hJ (.inl ((dG x).symm.trans q)))⟩,top:=fun _ q=>⟨Around.frames_deeper (ht q),by rw [← henv]; rfl⟩ }
  have l:(vw U ⟨own,ad,s.heap⟩).Le (vw c.U ⟨own,ad,hp1⟩):=⟨kp.sub fun b o e n=>⟨id,fun q=>q.elim (fun q=>q.elim (fun q=>n (.inl q)) fun q=>eQ e (nB b q) rfl) fun q=>n (.inr q)⟩,fun _ _ e=>e⟩
  refine body c hp1 tk1 ⟨rfl,rfl,rfl,rfl,(show env.frame = some env.locals by rw [← henv]; rfl),nB _ (.inl rfl)⟩ ⟨fun _ _ e=>e,hH.trans kp,O.map l (fun u z q=>q.elim (O.nU z) fun q=>by obtain ⟨o,e,_⟩:=O.low z; exact eQ e (nB u q) rfl) (fun _ _ _ e=>kp.gg e),fun u z=>fy (.inl z),fun u q=>⟨fy (.inr (nB u q)),?_⟩,⟨_,hns⟩,fun x u e=>⟨_,hcell x u e⟩,fun x b e=>?_⟩
  ·rcases q with q | ⟨x,q⟩
   ·rw [q]; exact .ns hns
   ·exact .cell (hcell x u q)
  ·refine af fun nG=>?_
   obtain ⟨⟨v,hv,r⟩,hx⟩:=xU rall e
   refine nG ?_
   rcases hkind x hx with q | q
   ·exact .loc ((dG x).trans q) hns (xX nd hv ((dG x).trans q)) (r.mono l)
   ·refine af fun nG=>?_
    have hz:=(eok.names x (by rw [esc,q]; exact fun z=>(by exact c5 z))).2
    obtain ⟨c1,hc1⟩:=Option.isSome_iff_exists.mp (hJ (n:=s.heap.objs.size + 1) (acc:=[]) (.inl q:F.scope.names.lookup x = some .cell∨_))
    refine nG ?_
    rw [← ecel] at hc1
    have:=hcell x c1 hc1
    rw [xY nd hv ((dG x).trans q)] at this
    exact .cel (.inl ((dG x).trans q)) hz hc1 this (r.mono l)
theorem gk.keep {f:Addr} {fd:FuncData} {F:Fn} {ks:List Nat} (X:gk W f fd F ks):d8 W (.ref f):=fun h G=>let ⟨o,ho,hd⟩:=X.obj h G; ⟨.frame,.inl rfl,(Looks.ld ho).andThen (by rw [hd]; exact .now)⟩
noncomputable def kh (W:ab) (d:Nat) (f:Addr) (own:Own) (as:List AV) (r:AV) (own':Own):Prop:=∀ A,dc d A→∀ U ad s vs (R:Result→Shared→Prop),Base W U s.heap→aN W U ⟨own,ad,s.heap⟩→ah W (vw U ⟨own,ad,s.heap⟩) vs as→Fin W U ⟨own,ad,s.heap⟩ s own' (fun V v=>Rel W V v r) (fun v s'=>R (.ok (.ret v)) s')→codeAny (model pg W.w) A (.call (.ref f) ⟨vs,[]⟩) R s
theorem x7 {f:Addr} {fd:FuncData} {F:Fn} {ks:List Nat} (X:gk W f fd F ks) {as:List AV} {r:AV} (ht:d7 F.scope = false) (hk:ks.any (Nat.beq as.length) = true) (h:∀ c:ai W d ⟨F.scope,true⟩,az c (F.fill as) own (execs F.body c.env) (.ret r own1)∨∃ σ,az c (F.fill as) own (execs F.body c.env) (.next σ own1)∧r = .none):kh W (d + 1) f own as r own1:=fun A a U ad s vs R B O rl G=>kg X a (fun q=>by rw [ht] at q; exact aR q) hk B O rl fun c hp1 tk1 en S=>by
 rcases h c with h1 | ⟨σ,h1,rfl⟩
 ·exact h1 _ ad _ _ S fun v h' tk ad' S' r'=>by
   have k:=S'.leave (p:=⟨own,ad,s.heap⟩) en.h (fun _ _ e=>en.ad▸e)
   rw [en.X] at k
   exact G v h' tk ad' k (r'.mono (en.X▸S'.EG))
 ·exact h1 _ ad _ _ S fun h' tk ad' S'=>by
   have k:=S'.leave (p:=⟨own,ad,s.heap⟩) en.h (fun _ _ e=>en.ad▸e)
   rw [en.X] at k
   exact G .none h' tk ad' k rfl
theorem kh.tells {f:Addr} {fd:FuncData} {F:Fn} {ks:List Nat} (X:gk W f fd F ks) {as:List AV} {r:AV} (h:kh W d f own as r own1):Tells W d (.ref f) own as r own1:=⟨X.keep,fun A a U ad s vs Q E B O rl G=>wpAny_call (h A a U ad s vs _ B O rl G)⟩
end
end Mine
end
section
set_option backward.match.sparseCases false
open PySem PySem.W PyProof.Rows PySem.Calls
set_option maxRecDepth 100000
namespace Mine
structure FE where
 a:Addr
 st:Stmt
 dT:Option Addr
 dv:List Value
 ks:List Nat
noncomputable def Gg:Stmt→Str
 | .FunctionDef n _ _ _ _ _ _ _ _ _=>n
 | _=>default
noncomputable def x8:Stmt→Arguments
 | .FunctionDef _ p _ _ _ _ _ _ _ _=>p
 | _=>⟨[],[],none,[],[],none,[]⟩
noncomputable def q5:Stmt→List Stmt
 | .FunctionDef _ _ b _ _ _ _ _ _ _=>b
 | _=>[]
noncomputable def ki:Stmt→Scope
 | .FunctionDef _ _ _ _ _ _ s _ _ _=>s
 | _=>default
noncomputable def FE.F (e:FE):Fn:=⟨(x8 e.st).args.map (·.arg),e.dv,q5 e.st,ki e.st⟩
noncomputable def fE (o:Option Obj):Str×Addr×Value:=match o with
 | some ⟨_,_,.func fd,_⟩=>(fd.qualname,(match fd.code with | .ref c=>c | _=>0),fd.pyModule)
 | _=>(⟨#[]⟩,0,.none)
noncomputable def Gh:Option Addr→Value
 | some T=>.ref T
 | none=>.none
noncomputable def nh (P:Params) (e:FE):FuncData:={ name:=Gg e.st,qualname:=(fE (aO (bq P) e.a)).1,params:=x8 e.st,body:=.stmts (q5 e.st),scope:=ki e.st,globals:=mainGlobals,closure:=[],defaults:=Gh e.dT,kwdefaults:=.none,pyModule:=(fE (aO (bq P) e.a)).2.2,code:=.ref (fE (aO (bq P) e.a)).2.1,builtins:=builtinsNs }
noncomputable def x9 (P:Params) (e:FE):Bool:=match da (ki e.st) with
 | none=>true
 | some (c',_,q',_)=>aG (Nat.beq (fE (aO (bq P) e.a)).2.1 c') (sEq ((fE (aO (bq P) e.a)).1 ++ ".<locals>.") q')
noncomputable def q6 {α:Type} (t:Sem α) (T:Addr) (o:Obj):Option (Sem α):=match t with
 | .load a _ k=>cond (Nat.beq a T) (some (k o)) none
 | _=>none
theorem Gi {α:Type} {t t':Sem α} {T:Addr} {o:Obj} (e:q6 t T o = some t'):∃ i k,t = .load T i k∧t' = k o:=by
 cases t with
 | load a i k=>
  rcases eK e with ⟨q,e⟩ | ⟨-,e⟩
  ·exact ⟨i,k,Nat.eq_of_beq_eq_true q▸rfl,(Option.some.inj e).symm⟩
  ·exact aq e
 | _=>exact aq e
theorem Gj {α:Type} {M:Model} {A:Around} {t t':Sem α} {T:Addr} {o:Obj} {Q:α→Shared→Prop} {E:Value→Shared→Prop} {s:Shared} (e:q6 t T o = some t') (ho:s.heap.get? T = some o) (h:wpAny M A t' Q E s):wpAny M A t Q E s:=by
 obtain ⟨i,k,rfl,rfl⟩:=Gi e
 exact fun Γ p hΓ=>⟨o,ho,h Γ p hΓ⟩
noncomputable def ya {α:Type} (t:Sem α):Option (Addr×Obj)→Option (Sem α)
 | none=>some t
 | some (T,o)=>q6 t T o
theorem Gk {α:Type} {M:Model} {A:Around} {t t':Sem α} {Q:α→Shared→Prop} {E:Value→Shared→Prop} {s:Shared}:∀ {d:Option (Addr×Obj)},ya t d = some t'→(∀ T o,d = some (T,o)→s.heap.get? T = some o)→wpAny M A t' Q E s→wpAny M A t Q E s
 | none,e,_,h=>Option.some.inj e▸h
 | some (T,o),e,ho,h=>Gj e (ho T o rfl) h
noncomputable def ni (e:FE):Option (Addr×Obj):=match e.dT with
 | some T=>some (T,⟨.type "tuple",none,.seq e.dv.toArray 0,#[]⟩)
 | none=>none
noncomputable def kj:Nat→(List Value→Prop)→Prop
 | 0,P=>P []
 | k + 1,P=>∀ v,kj k fun l=>P (v::l)
theorem kj.all {k:Nat}:∀ {P:List Value→Prop},kj k P→∀ vs,vs.length = k→P vs:=by
 induction k with
 | zero=>exact fun h vs e=>List.eq_nil_of_length_eq_zero e▸h
 | succ k ih=>
  intro P h vs e
  cases vs with
  | nil=>cases e
  | cons v vs=>exact ih (h v) vs (Nat.succ.inj e)
structure BP (P:Params) (e:FE) (vs:List Value):Prop where
 len:(vs ++ e.F.more vs.length).length = e.F.names.length
 run:ya (bindArgs (nh P e) ⟨vs,[]⟩) (ni e) = some (pure (e.F.names.zip (vs ++ e.F.more vs.length)))
noncomputable def iX (P:Params) (e:FE):List Nat→Prop
 | []=>True
 | k::ks=>kj k (BP P e)∧iX P e ks
noncomputable def AllB (P:Params):List FE→Prop
 | []=>True
 | e::l=>iX P e e.ks∧AllB P l
noncomputable def FT:List FE:=[
 ⟨36,ay 2 0,some 29,[.none],[2]⟩,
 ⟨80,ae 5,none,[],[1]⟩,
 ⟨87,ae 6,none,[],[2]⟩,
 ⟨101,ae 8,none,[],[2]⟩,
 ⟨122,ae 11,none,[],[2]⟩,
 ⟨129,ae 17,none,[],[0]⟩,
 ⟨136,ae 18,none,[],[1]⟩,
 ⟨143,ae 19,none,[],[1]⟩,
 ⟨150,ae 20,none,[],[1]⟩,
 ⟨157,ae 21,none,[],[1]⟩,
 ⟨164,ae 22,none,[],[1]⟩,
 ⟨171,ae 23,none,[],[1]⟩,
 ⟨178,ae 24,none,[],[1]⟩,
 ⟨185,ae 25,none,[],[2]⟩,
 ⟨199,ae 27,none,[],[2]⟩,
 ⟨206,ae 28,none,[],[3]⟩,
 ⟨219,ay 29 0,some 214,[(.int (0) 438),(.int (-1) 440),(.int (0) 441),(.int (0) 442),(.bool false)],[4,5,7,9]⟩,
 ⟨233,ay 29 2,none,[],[1]⟩,
 ⟨247,ay 29 4,none,[],[1]⟩,
 ⟨275,ae 30,none,[],[2]⟩,
 ⟨303,ay 36 0,none,[],[2]⟩,
 ⟨345,ay 37 0,none,[],[2]⟩,
 ⟨379,ay 38 0,some 372,[(.str ⟨#[]⟩ 640)],[2,3]⟩,
 ⟨413,ay 39 0,some 406,[(.str ⟨#[]⟩ 682)],[2,3]⟩,
 ⟨454,ay 40 0,some 447,[(.int (0) 732),(.str ⟨#[]⟩ 733),(.str ⟨#[]⟩ 734)],[7,8]⟩,
 ⟨480,ay 40 4,none,[],[1]⟩,
 ⟨507,ay 41 0,some 500,[(.str ⟨#[]⟩ 808)],[3]⟩,
 ⟨552,ae 42,none,[],[1]⟩,
 ⟨559,ae 43,none,[],[1]⟩,
 ⟨566,ae 44,none,[],[1]⟩,
 ⟨573,ae 45,none,[],[1]⟩,
 ⟨580,ae 51,none,[],[3]⟩,
 ⟨587,ae 52,none,[],[1]⟩,
 ⟨594,ae 53,none,[],[3]⟩,
 ⟨601,ae 54,none,[],[3]⟩,
 ⟨608,ae 55,none,[],[1]⟩,
 ⟨615,ae 56,none,[],[1]⟩,
 ⟨629,ay 57 0,none,[],[7]⟩,
 ⟨636,ay 57 1,none,[],[1]⟩,
 ⟨657,ay 57 4,none,[],[1]⟩,
 ⟨671,ae 58,none,[],[1]⟩,
 ⟨678,ae 59,none,[],[1]⟩,
 ⟨685,ae 60,none,[],[1]⟩,
 ⟨692,ae 61,none,[],[1]⟩,
 ⟨699,ae 62,none,[],[1]⟩,
 ⟨706,ae 63,none,[],[1]⟩,
 ⟨713,ae 64,none,[],[1]⟩,
 ⟨720,ae 65,none,[],[1]⟩,
 ⟨727,ae 66,none,[],[1]⟩,
 ⟨734,ae 67,none,[],[3]⟩,
 ⟨741,ae 76,none,[],[4]⟩,
 ⟨755,ae 78,none,[],[1]⟩,
 ⟨762,ae 79,none,[],[1]⟩,
 ⟨777,ay 80 0,some 770,[(.str ⟨#[]⟩ 1166),(.bool false),(.int (0) 1167),(.bool false),(.int (-1) 1169)],[6]⟩,
 ⟨812,ay 80 5,none,[],[1]⟩,
 ⟨833,ay 82 0,none,[],[6]⟩,
 ⟨868,ay 83 0,none,[],[5]⟩,
 ⟨894,ae 84,none,[],[3]⟩,
 ⟨901,ae 85,none,[],[1]⟩,
 ⟨908,ae 86,none,[],[2]⟩,
 ⟨915,ae 87,none,[],[1]⟩,
 ⟨922,ae 88,none,[],[5]⟩,
 ⟨929,ae 89,none,[],[2]⟩,
 ⟨936,ae 90,none,[],[2]⟩,
 ⟨943,ae 91,none,[],[1]⟩,
 ⟨950,ae 92,none,[],[5]⟩,
 ⟨955,ae 93,none,[],[2]⟩,
 ⟨962,ae 94,none,[],[2]⟩,
 ⟨970,ae 95,some 963,[.none],[3]⟩,
 ⟨977,ae 96,none,[],[2]⟩,
 ⟨982,ae 97,none,[],[2]⟩,
 ⟨989,ae 98,none,[],[3]⟩,
 ⟨996,ae 99,none,[],[2]⟩,
 ⟨1001,ae 100,none,[],[2]⟩,
 ⟨1009,ae 101,some 1002,[(.int (0) 1503)],[3]⟩,
 ⟨1016,ae 102,none,[],[3]⟩,
 ⟨1023,ae 104,none,[],[0]⟩,
 ⟨1030,ae 105,none,[],[0]⟩,
 ⟨1037,ae 106,none,[],[0]⟩,
 ⟨1042,ae 108,none,[],[1]⟩,
 ⟨1056,ay 109 0,none,[],[2]⟩,
 ⟨1068,ay 109 2,none,[],[2]⟩,
 ⟨1125,ae 111,some 1118,[(.int (-1) 1659),(.int (0) 1660)],[3]⟩,
 ⟨1132,ae 112,none,[],[2]⟩,
 ⟨1139,ae 113,none,[],[0]⟩,
 ⟨1153,ay 119 0,none,[],[5]⟩,
 ⟨1160,ay 119 1,none,[],[1]⟩,
 ⟨1167,ay 119 2,none,[],[1]⟩,
 ⟨1181,ay 119 4,none,[],[1]⟩,
 ⟨1202,ae 120,none,[],[1]⟩,
 ⟨1209,ae 121,none,[],[1]⟩,
 ⟨1216,ae 122,none,[],[2]⟩,
 ⟨1223,ae 123,none,[],[0]⟩,
 ⟨1230,ae 125,none,[],[3]⟩,
 ⟨1237,ae 126,none,[],[3]⟩,
 ⟨1244,ae 127,none,[],[1]⟩,
 ⟨1251,ae 128,none,[],[3]⟩,
 ⟨1258,ae 129,none,[],[3]⟩,
 ⟨1263,ae 130,none,[],[4]⟩,
 ⟨1268,ae 131,none,[],[2]⟩,
 ⟨1275,ae 132,none,[],[2]⟩,
 ⟨1282,ae 133,none,[],[2]⟩,
 ⟨1289,ae 134,none,[],[5]⟩,
 ⟨1294,ae 135,none,[],[1]⟩]
theorem Gl (P:Params):FT.map (fun e=>aO (bq P) e.a) = FT.map fun e=>some ⟨.type "function",none,.func (nh P e),#[]⟩:=by kernel_rfl
theorem Gm (P:Params):FT.map (fun e=>(ni e).map fun d=>aO (bq P) d.1) = FT.map fun e=>(ni e).map fun d=>some d.2:=by kernel_rfl
theorem Gn (P:Params):(FT.all fun e=>aG e.F.m9 (x9 P e)) = true:=by kernel_rfl
theorem Gq (P:Params):AllB P FT:=
 ⟨⟨fun _ _=>⟨rfl,by kernel_rfl⟩,trivial⟩,
 ⟨⟨fun _=>⟨rfl,by kernel_rfl⟩,trivial⟩,
 ⟨⟨fun _ _=>⟨rfl,by kernel_rfl⟩,trivial⟩,
 ⟨⟨fun _ _=>⟨rfl,by kernel_rfl⟩,trivial⟩,
 ⟨⟨fun _ _=>⟨rfl,by kernel_rfl⟩,trivial⟩,
 ⟨⟨⟨rfl,by kernel_rfl⟩,trivial⟩,
 ⟨⟨fun _=>⟨rfl,by kernel_rfl⟩,trivial⟩,
 ⟨⟨fun _=>⟨rfl,by kernel_rfl⟩,trivial⟩,
 ⟨⟨fun _=>⟨rfl,by kernel_rfl⟩,trivial⟩,
 ⟨⟨fun _=>⟨rfl,by kernel_rfl⟩,trivial⟩,
 ⟨⟨fun _=>⟨rfl,by kernel_rfl⟩,trivial⟩,
 ⟨⟨fun _=>⟨rfl,by kernel_rfl⟩,trivial⟩,
 ⟨⟨fun _=>⟨rfl,by kernel_rfl⟩,trivial⟩,
 ⟨⟨fun _ _=>⟨rfl,by kernel_rfl⟩,trivial⟩,
 ⟨⟨fun _ _=>⟨rfl,by kernel_rfl⟩,trivial⟩,
 ⟨⟨fun _ _ _=>⟨rfl,by kernel_rfl⟩,trivial⟩,
 ⟨⟨fun _ _ _ _=>⟨rfl,by kernel_rfl⟩,⟨fun _ _ _ _ _=>⟨rfl,by kernel_rfl⟩,⟨fun _ _ _ _ _ _ _=>⟨rfl,by kernel_rfl⟩,⟨fun _ _ _ _ _ _ _ _ _=>⟨rfl,by kernel_rfl⟩,trivial⟩⟩⟩⟩,
 ⟨⟨fun _=>⟨rfl,by kernel_rfl⟩,trivial⟩,
 ⟨⟨fun _=>⟨rfl,by kernel_rfl⟩,trivial⟩,
 ⟨⟨fun _ _=>⟨rfl,by kernel_rfl⟩,trivial⟩,
 ⟨⟨fun _ _=>⟨rfl,by kernel_rfl⟩,trivial⟩,
 ⟨⟨fun _ _=>⟨rfl,by kernel_rfl⟩,trivial⟩,
 ⟨⟨fun _ _=>⟨rfl,by kernel_rfl⟩,⟨fun _ _ _=>⟨rfl,by kernel_rfl⟩,trivial⟩⟩,
 ⟨⟨fun _ _=>⟨rfl,by kernel_rfl⟩,⟨fun _ _ _=>⟨rfl,by kernel_rfl⟩,trivial⟩⟩,
 ⟨⟨fun _ _ _ _ _ _ _=>⟨rfl,by kernel_rfl⟩,⟨fun _ _ _ _ _ _ _ _=>⟨rfl,by kernel_rfl⟩,trivial⟩⟩,
 ⟨⟨fun _=>⟨rfl,by kernel_rfl⟩,trivial⟩,
 ⟨⟨fun _ _ _=>⟨rfl,by kernel_rfl⟩,trivial⟩,
 ⟨⟨fun _=>⟨rfl,by kernel_rfl⟩,trivial⟩,
 ⟨⟨fun _=>⟨rfl,by kernel_rfl⟩,trivial⟩,
 ⟨⟨fun _=>⟨rfl,by kernel_rfl⟩,trivial⟩,
 ⟨⟨fun _=>⟨rfl,by kernel_rfl⟩,trivial⟩,
 ⟨⟨fun _ _ _=>⟨rfl,by kernel_rfl⟩,trivial⟩,
 ⟨⟨fun _=>⟨rfl,by kernel_rfl⟩,trivial⟩,
 ⟨⟨fun _ _ _=>⟨rfl,by kernel_rfl⟩,trivial⟩,
 ⟨⟨fun _ _ _=>⟨rfl,by kernel_rfl⟩,trivial⟩,
 ⟨⟨fun _=>⟨rfl,by kernel_rfl⟩,trivial⟩,
 ⟨⟨fun _=>⟨rfl,by kernel_rfl⟩,trivial⟩,
 ⟨⟨fun _ _ _ _ _ _ _=>⟨rfl,by kernel_rfl⟩,trivial⟩,
 ⟨⟨fun _=>⟨rfl,by kernel_rfl⟩,trivial⟩,
 ⟨⟨fun _=>⟨rfl,by kernel_rfl⟩,trivial⟩,
 ⟨⟨fun _=>⟨rfl,by kernel_rfl⟩,trivial⟩,
 ⟨⟨fun _=>⟨rfl,by kernel_rfl⟩,trivial⟩,
 ⟨⟨fun _=>⟨rfl,by kernel_rfl⟩,trivial⟩,
 ⟨⟨fun _=>⟨rfl,by kernel_rfl⟩,trivial⟩,
 ⟨⟨fun _=>⟨rfl,by kernel_rfl⟩,trivial⟩,
 ⟨⟨fun _=>⟨rfl,by kernel_rfl⟩,trivial⟩,
 ⟨⟨fun _=>⟨rfl,by kernel_rfl⟩,trivial⟩,
 ⟨⟨fun _=>⟨rfl,by kernel_rfl⟩,trivial⟩,
 ⟨⟨fun _=>⟨rfl,by kernel_rfl⟩,trivial⟩,
 ⟨⟨fun _ _ _=>⟨rfl,by kernel_rfl⟩,trivial⟩,
 ⟨⟨fun _ _ _ _=>⟨rfl,by kernel_rfl⟩,trivial⟩,
 ⟨⟨fun _=>⟨rfl,by kernel_rfl⟩,trivial⟩,
 ⟨⟨fun _=>⟨rfl,by kernel_rfl⟩,trivial⟩,
 ⟨⟨fun _ _ _ _ _ _=>⟨rfl,by kernel_rfl⟩,trivial⟩,
 ⟨⟨fun _=>⟨rfl,by kernel_rfl⟩,trivial⟩,
 ⟨⟨fun _ _ _ _ _ _=>⟨rfl,by kernel_rfl⟩,trivial⟩,
 ⟨⟨fun _ _ _ _ _=>⟨rfl,by kernel_rfl⟩,trivial⟩,
 ⟨⟨fun _ _ _=>⟨rfl,by kernel_rfl⟩,trivial⟩,
 ⟨⟨fun _=>⟨rfl,by kernel_rfl⟩,trivial⟩,
 ⟨⟨fun _ _=>⟨rfl,by kernel_rfl⟩,trivial⟩,
 ⟨⟨fun _=>⟨rfl,by kernel_rfl⟩,trivial⟩,
 ⟨⟨fun _ _ _ _ _=>⟨rfl,by kernel_rfl⟩,trivial⟩,
 ⟨⟨fun _ _=>⟨rfl,by kernel_rfl⟩,trivial⟩,
 ⟨⟨fun _ _=>⟨rfl,by kernel_rfl⟩,trivial⟩,
 ⟨⟨fun _=>⟨rfl,by kernel_rfl⟩,trivial⟩,
 ⟨⟨fun _ _ _ _ _=>⟨rfl,by kernel_rfl⟩,trivial⟩,
 ⟨⟨fun _ _=>⟨rfl,by kernel_rfl⟩,trivial⟩,
 ⟨⟨fun _ _=>⟨rfl,by kernel_rfl⟩,trivial⟩,
 ⟨⟨fun _ _ _=>⟨rfl,by kernel_rfl⟩,trivial⟩,
 ⟨⟨fun _ _=>⟨rfl,by kernel_rfl⟩,trivial⟩,
 ⟨⟨fun _ _=>⟨rfl,by kernel_rfl⟩,trivial⟩,
 ⟨⟨fun _ _ _=>⟨rfl,by kernel_rfl⟩,trivial⟩,
 ⟨⟨fun _ _=>⟨rfl,by kernel_rfl⟩,trivial⟩,
 ⟨⟨fun _ _=>⟨rfl,by kernel_rfl⟩,trivial⟩,
 ⟨⟨fun _ _ _=>⟨rfl,by kernel_rfl⟩,trivial⟩,
 ⟨⟨fun _ _ _=>⟨rfl,by kernel_rfl⟩,trivial⟩,
 ⟨⟨⟨rfl,by kernel_rfl⟩,trivial⟩,
 ⟨⟨⟨rfl,by kernel_rfl⟩,trivial⟩,
 ⟨⟨⟨rfl,by kernel_rfl⟩,trivial⟩,
 ⟨⟨fun _=>⟨rfl,by kernel_rfl⟩,trivial⟩,
 ⟨⟨fun _ _=>⟨rfl,by kernel_rfl⟩,trivial⟩,
 ⟨⟨fun _ _=>⟨rfl,by kernel_rfl⟩,trivial⟩,
 ⟨⟨fun _ _ _=>⟨rfl,by kernel_rfl⟩,trivial⟩,
 ⟨⟨fun _ _=>⟨rfl,by kernel_rfl⟩,trivial⟩,
 ⟨⟨⟨rfl,by kernel_rfl⟩,trivial⟩,
 ⟨⟨fun _ _ _ _ _=>⟨rfl,by kernel_rfl⟩,trivial⟩,
 ⟨⟨fun _=>⟨rfl,by kernel_rfl⟩,trivial⟩,
 ⟨⟨fun _=>⟨rfl,by kernel_rfl⟩,trivial⟩,
 ⟨⟨fun _=>⟨rfl,by kernel_rfl⟩,trivial⟩,
 ⟨⟨fun _=>⟨rfl,by kernel_rfl⟩,trivial⟩,
 ⟨⟨fun _=>⟨rfl,by kernel_rfl⟩,trivial⟩,
 ⟨⟨fun _ _=>⟨rfl,by kernel_rfl⟩,trivial⟩,
 ⟨⟨⟨rfl,by kernel_rfl⟩,trivial⟩,
 ⟨⟨fun _ _ _=>⟨rfl,by kernel_rfl⟩,trivial⟩,
 ⟨⟨fun _ _ _=>⟨rfl,by kernel_rfl⟩,trivial⟩,
 ⟨⟨fun _=>⟨rfl,by kernel_rfl⟩,trivial⟩,
 ⟨⟨fun _ _ _=>⟨rfl,by kernel_rfl⟩,trivial⟩,
 ⟨⟨fun _ _ _=>⟨rfl,by kernel_rfl⟩,trivial⟩,
 ⟨⟨fun _ _ _ _=>⟨rfl,by kernel_rfl⟩,trivial⟩,
 ⟨⟨fun _ _=>⟨rfl,by kernel_rfl⟩,trivial⟩,
 ⟨⟨fun _ _=>⟨rfl,by kernel_rfl⟩,trivial⟩,
 ⟨⟨fun _ _=>⟨rfl,by kernel_rfl⟩,trivial⟩,
 ⟨⟨fun _ _ _ _ _=>⟨rfl,by kernel_rfl⟩,trivial⟩,
 ⟨⟨fun _=>⟨rfl,by kernel_rfl⟩,trivial⟩,
 trivial⟩⟩⟩⟩⟩⟩⟩⟩⟩⟩⟩⟩⟩⟩⟩⟩⟩⟩⟩⟩⟩⟩⟩⟩⟩⟩⟩⟩⟩⟩⟩⟩⟩⟩⟩⟩⟩⟩⟩⟩⟩⟩⟩⟩⟩⟩⟩⟩⟩⟩⟩⟩⟩⟩⟩⟩⟩⟩⟩⟩⟩⟩⟩⟩⟩⟩⟩⟩⟩⟩⟩⟩⟩⟩⟩⟩⟩⟩⟩⟩⟩⟩⟩⟩⟩⟩⟩⟩⟩⟩⟩⟩⟩⟩⟩⟩⟩⟩⟩⟩⟩⟩⟩⟩
theorem iX.at {P:Params} {e:FE} {k:Nat}:∀ {ks:List Nat},iX P e ks→ks.any (Nat.beq k) = true→kj k (BP P e)
 | j::ks,h,q=>by
  rw [List.any_cons,Bool.or_eq_true] at q
  rcases q with q | q
  ·exact Nat.eq_of_beq_eq_true q▸h.1
  ·exact iX.at h.2 q
theorem AllB.at {P:Params} {e:FE}:∀ {l:List FE},AllB P l→e∈l→iX P e e.ks
 | x::l,h,m=>by
  rcases List.mem_cons.mp m with rfl | m
  ·exact h.1
  ·exact AllB.at h.2 m
theorem Gr (P:Params):(((bq P).filterMap aZ).all fun c=>iM (c.1,default)) = true:=by kernel_rfl
theorem Gs {d:Data} {vs:Array Value} (h:uH d = some vs):d = .fields vs:=by
 cases d with
 | fields vs=>cases h; rfl
 | _=>exact aq h
theorem Gu {v:Value} {x:Str} (h:uI v = some x):∃ t,v = .str x t:=by
 cases v with
 | str _ t=>cases h; exact ⟨t,rfl⟩
 | _=>exact aq h
set_option tactic.hygienic true in
theorem hO {W:ab} {e:FE} (m:e∈FT):gk W e.a (nh W.w.params e) e.F e.ks:=by
 refine af fun nG=>?_
 have ho:aO (bq W.w.params) e.a = some _:=cV (Gl W.w.params) m
 obtain ⟨c1,c2⟩:=aB (List.all_eq_true.mp (Gn W.w.params) e m)
 refine nG ?_
 have hs:∀ {h},GG W h→h.get? e.a = some ⟨.type "function",none,.func (nh W.w.params e),#[]⟩:=fun G=>G.get (W.B.fact _ _ ho) rfl
 refine ⟨fun h G=>⟨_,hs G,rfl⟩,fun h G=>?_,rfl,rfl,c1,fun c P q q' z=>?_,rfl,rfl,rfl,fun s G vs hk=>?_⟩
 ·refine af fun nG=>?_
  have hm:((fE (aO (bq W.w.params) e.a)).2.1,(fE (aO (bq W.w.params) e.a)).1)∈(bq W.w.params).filterMap aZ:=List.mem_filterMap.mpr ⟨_,my ho,rfl⟩
  have hn:=W.B.named _ hm
  obtain ⟨vs,hn,hv⟩:=Option.bind_eq_some_iff.mp hn
  obtain ⟨o,he,ho⟩:=Option.bind_eq_some_iff.mp hn
  obtain ⟨v,hv,hx⟩:=Option.bind_eq_some_iff.mp hv
  obtain ⟨t,rfl⟩:=Gu hx
  obtain ⟨cl,hd,dt,sl⟩:=o
  obtain rfl:=Gs ho
  obtain ⟨o',e',s'⟩:=G.same _ _ id he
  refine nG ?_
  cases s' with
  | refl=>exact ⟨_,_,vs,t,rfl,e',rfl,hv⟩
  | grow m=>
   have:=List.all_eq_true.mp (Gr W.w.params) _ hm
   unfold iM at this
   rcases List.mem_cons.mp m with m | m
   ·rw [show (fE (aO (bq W.w.params) e.a)).2.1 = 722 from m] at this; exact aR this
   ·rw [show (fE (aO (bq W.w.params) e.a)).2.1 = 998 from List.mem_singleton.mp m] at this; exact aR this
 ·refine af fun nG=>?_
  unfold x9 at c2
  rw [show da (ki e.st) = some (c,P,q,q') from z] at c2
  obtain ⟨l1,l2⟩:=aB c2
  refine nG ?_
  exact ⟨congrArg Value.ref (Nat.eq_of_beq_eq_true l1),sEq_iff.mp l2⟩
 ·refine af fun nG=>?_
  obtain ⟨k1,k2⟩:=(((Gq W.w.params).at m).at hk).all vs rfl
  refine nG ?_
  refine ⟨k1,fun M A E Q hQ=>Gk k2 (fun T o q=>?_) (wpAny_pure hQ)⟩
  have hd:=cV (Gm W.w.params) m
  rw [q] at hd
  have hd:=Option.some.inj hd
  exact G.get (W.B.fact _ _ hd) (by unfold ni at q; split at q<;>cases q; rfl)
noncomputable def kl (a:Addr):(l:List FE)→Option { e:FE // e∈l∧e.a = a }
 | []=>none
 | e::l=>aF (Nat.beq e.a a) (fun h=>some ⟨e,.head _,Nat.eq_of_beq_eq_true h⟩) fun _=>(match kl a l with
  | some ⟨x,m,h⟩=>some ⟨x,.tail _ m,h⟩
  | none=>none)
end Mine
end
section
set_option backward.match.sparseCases false
open PySem PySem.W PyProof.Rows PySem.Calls
namespace Mine
section
noncomputable abbrev iY:=(Flow→Shared→Prop)→(Value→Shared→Prop)→Shared→Prop
noncomputable def Step (W:ab) (A:Around) (env:Env) (t:Expr) (code:Value→Code) (T:iY):Prop:=∀ (it:Value) (R:Result→Shared→Prop) (s:Shared),aw W A (pyNext it) (fun r s₁=>match r with
   | none=>R (.ok .next) s₁
   | some v=>aw W A (letOwnedTupleGo t it v) (fun _ s₂=>aw W A (assign t env v) (fun _ s₃=>T (fun f s₄=>match f with
      | .next | .cont=>codeAny (model pg W.w) A (code it) R s₄
      | .brk=>R (.ok .next) s₄
      | .ret v=>R (.ok (.ret v)) s₄) (notedBy (model pg W.w) A env fun e s'=>R (.error e) s') s₃) (notedBy (model pg W.w) A env fun e s'=>R (.error e) s') s₂) (notedBy (model pg W.w) A env fun e s'=>R (.error e) s') s₁) (notedBy (model pg W.w) A env fun e s'=>R (.error e) s') s→codeAny (model pg W.w) A (code it) R s
section
variable {W:ab} {A:Around} {env:Env} {t:Expr} {body:List Stmt}
theorem q7:Step W A env t (fun it=>.forLoop t it body [] env) fun Q E s=>aw W A (execs body env) Q E s:=fun it R s h=>by
 refine codeAny_loop' rfl (fun _ s'=>s' = s) (fun n s' e=>?_) 0 rfl
 subst e
 show wpAny _ A ((forTurn t it body [] env).onRaise (fun x=>do noteFrame x env; theTreesLotGoes x)) _ _ s'
 refine wpAny_noted ?_
 simp only [forTurn]
 refine wpAny_bind (wpAny_standAt (wpAny_bind (wpAny_onRaise (wpAny_mono h (fun r s₁ h₁=>?_) fun _ _ h'=>wpAny_standAt h'))))
 cases r with
 | none=>exact wpAny_pure (.inr ⟨rfl,codeAny_block (wpAny_execs_nil h₁)⟩)
 | some v=>
  refine wpAny_bind (wpAny_mono h₁ (fun _ s₁' h₁'=>?_) fun _ _ h'=>h')
  refine wpAny_bind (wpAny_mono h₁' (fun _ s₂ h₂=>wpAny_bind (wpAny_mono h₂ (fun f s₃ h₃=>?_) fun _ _ h'=>h')) fun _ _ h'=>h')
  cases f with
  | next=>exact wpAny_pure (.inr ⟨rfl,h₃⟩)
  | cont=>exact wpAny_pure (.inr ⟨rfl,h₃⟩)
  | brk=>exact wpAny_pure h₃
  | ret v=>exact wpAny_pure h₃
end
inductive yb (W:ab) (t:Expr) (V:Vw) (h:Heap) (v:Value) (a:AV):Prop
 | rel (r:Rel W V v a)
 | tup {bs T vals} (k:Nat.beq t.ctorIdx 25 = true) (e:a = .tup bs) (e':v = .ref T) (i:h.IsTuple T vals) (r:ah W V vals.toList bs)
structure Walk (W:ab) (A:Around) (t:Expr) (I:Addr) (fp:AS) (n:Nat) (P Md:Nat→Value→Heap→Prop) (St:Nat→Heap→Prop) (Els:Vw→Nat→List AV→Prop) (fl wr:List Addr):Prop where
 k:KTurns pg W.w A t I fl wr n P Md St
 fl:∀ b,b∈fl→fp b
 low:∀ i h,St i h→∀ u,fp u→∃ o,h.get? u = some o∧soft o = false∧bA o = false
 mono:∀ V V' i as,V.Le V'→Els V i as→Els V' i as
 nil:∀ V i,Els V i []→i = n
 step:∀ V i a as,Els V i (a::as)→i < n∧Els V (i + 1) as∧∀ v h,P i v h→(∀ b o,V.g b o→h.get? b = some o)→yb W t V h v a
variable {W:ab} {d:Nat} {sc:Fs} {c:ai W d sc} {σ σ':ao} {own own1:Own} {pos:Pos}
noncomputable def ai.at (c:ai W d sc) (h:Heap) (X:AS) (a:List Addr) (G:GG W h) (out:∀ u,X u→∃ o,h.get? u = some o) (cls:∀ x a,c.env.cells.lookup x = some a→c.B a∨∃ o,h.get? a = some o):ai W d sc:={ c with h₀:=h,X:=X,ad:=a,G:=G,out:=out,cls:=cls }
theorem SV.move {h₁ h₂ h':Heap} {X X₂ w:AS} {ad₁ ad₂ G o l G₂ o₂ l₂} {p:Pt} (S:SV (c.at h₁ X ad₁ G o l) σ p) (pre:Pre ad₂ p.ad) (k:au w p.h h') (nw:∀ u,c.B u∨ak p.own p.ad u→¬w u) (wc:∀ x a,c.env.cells.lookup x = some a→¬w a) (keep:ag h₂ h') (fr:∀ u,c.B u∨ak p.own p.ad u→h₂.get? u = none)
  (vis:∀ b o,p.h.get? b = some o→¬X b→¬c.B b→¬ak p.own p.ad b→¬w b∧¬X₂ b) (nX:∀ u,ak p.own p.ad u→¬X₂ u):SV (c.at h₂ X₂ ad₂ G₂ o₂ l₂) σ ⟨p.own,p.ad,h'⟩:=by
 have le:(vw (c.at h₁ X ad₁ G o l).U p).Le (vw (c.at h₂ X₂ ad₂ G₂ o₂ l₂).U ⟨p.own,p.ad,h'⟩):=⟨k.sub fun b o e n=>let ⟨a,z⟩:=vis b o e (fun q=>n (.inl (.inl q))) (fun q=>n (.inl (.inr q))) fun q=>n (.inr q); ⟨a,fun q=>q.elim (fun q=>q.elim z fun q=>n (.inl (.inr q))) fun q=>n (.inr q)⟩,fun _ _ e=>e⟩
 have nL:=nw _ (.inl c.base)
 obtain ⟨m,hm⟩:=S.ns
 exact ⟨pre,keep,S.owns.map le (fun u z q=>q.elim (nX u z) fun q=>S.owns.nU z (.inr q)) fun u o z e t=>k.b0 (nw u (.inr z)) e (.inr t),fun u z=>fr u (.inr z),fun u z=>⟨fr u (.inl z),let ⟨o,e,t⟩:=(S.low u z).2; ⟨o,k.b0 (nw u (.inl z)) e (.inr t),t⟩⟩,⟨m,k.ns nL hm⟩,fun x a e=>let ⟨v,i⟩:=S.cls x a e; ⟨v,k.cell (wc x a e) i⟩,fun x a e=>(S.loc x a e).mv (fun _=>k.ns nL) (fun u _ e=>k.cell (wc _ u e)) le⟩
structure Inner (c:ai W d sc) (h₁:Heap) (X':AS) (a₁ wr:List Addr):Prop where
 ad:Pre c.ad a₁
 G:GG W h₁
 keep:ag c.h₀ h₁
 sub:∀ u,c.X u→X' u
 out:∀ u,X' u→∃ o,h₁.get? u = some o
 it:∀ u,u∈wr→X' u∧c.h₀.get? u = none
 cls:∀ x a,c.env.cells.lookup x = some a→a∉wr∧(c.B a∨∃ o,h₁.get? a = some o)
noncomputable def Inner.cx {h₁:Heap} {X':AS} {a₁ wr:List Addr} (N:Inner c h₁ X' a₁ wr):ai W d sc:=c.at h₁ X' a₁ N.G N.out fun x a e=>(N.cls x a e).2
theorem Inner.up {h₁ h':Heap} {X' w:AS} {a₁ wr:List Addr} (N:Inner c h₁ X' a₁ wr) {p:Pt} (S:SV N.cx σ p) (k:au w p.h h') (nw:∀ u,c.B u∨ak p.own p.ad u→¬w u) (wc:∀ x a,c.env.cells.lookup x = some a→¬w a) (wn:∀ u,w u→c.h₀.get? u = none∧X' u):SV c σ ⟨p.own,p.ad,h'⟩:=
 SV.move (c:=c) (h₂:=c.h₀) (X₂:=c.X) (ad₂:=c.ad) (G₂:=c.G) (o₂:=c.out) (l₂:=c.cls) S (fun n a e=>S.pre n a (N.ad n a e)) k nw wc ((N.keep.trans S.keep).dD k fun u z=>(wn u z).1) (fun u z=>N.keep.gone (z.elim (fun z=>(S.low u z).1) (S.new u))) (fun b o e n _ _=>⟨fun z=>n (wn b z).2,fun z=>n (N.sub b z)⟩) fun u z q=>S.owns.nU z (.inl (N.sub u q))
theorem Inner.yc {h₁:Heap} {X':AS} {a₁ wr:List Addr} (N:Inner c h₁ X' a₁ wr) {p:Pt} (S:SV N.cx σ p):SV c σ p:=N.up S (w:=fun _=>False) (.refl _ _) (fun _ _=>id) (fun _ _ _=>id) fun _ z=>z.elim
theorem Told.leave {h₁:Heap} {X':AS} {a₁:List Addr} {s:Shared} {Q:Flow→Shared→Prop} {E:Value→Shared→Prop} {f:Fl} (N:Inner c h₁ X' a₁ wr) (T:Told c s Q E f):Told N.cx s Q E f:=by
 cases f with
 | next σ own=>exact fun h' tk ad S=>T h' tk ad (N.yc S)
 | ret a own=>exact fun v h' tk ad S r=>T v h' tk ad (N.yc S) (r.mono (S.owns.less fun u z=>z.imp (N.sub u) id).2)
 | exc x=>
  obtain ⟨FR,fp,g⟩:=T
  exact ⟨FR,fp.keep N.keep,fun e h' tk k n o x=>g e h' tk ((N.keep.kf FR).trans k) (N.keep.gone n) o (x.mono N.keep)⟩
structure cI (c:ai W d sc) (t:Expr) (code:Value→Code) (σ:ao) (own:Own) (as:List AV) (f:Fl):Prop where
 run:∀ {I fp n P Md St Els fl wr} (_:Walk W c.A t I fp n P Md St Els fl wr) {h₁ X' a₁ ad i} {s:Shared} {R:Result→Shared→Prop} (N:Inner c h₁ X' a₁ wr),
 SV N.cx σ ⟨own,ad,s.heap⟩→St i s.heap→Els (vw N.cx.U ⟨own,ad,s.heap⟩) i as→(∀ b,fp b→¬c.B b∧¬ak own ad b)→Told c s (fun f s'=>R (.ok f) s') (notedBy (model pg W.w) c.A c.env fun e s'=>R (.error e) s') f→codeAny (model pg W.w) c.A (code (.ref I)) R s
theorem cI.nil {t:Expr} {code:Value→Code} {T:iY} (hc:Step W c.A c.env t code T):cI c t code σ own [] (.next σ own):=⟨fun {I fp n P Md St Els fl wr} Wk {h₁ X' a₁ ad i s R} N S st els hfp T=>by
 refine af fun nG=>?_
 obtain rfl:=Wk.nil _ _ els
 refine nG ?_
 refine hc _ _ _ (Wk.k.done _ _ _ st fun h2 tk2 k2=>T h2 tk2 ad ?_)
 exact N.up S (w:=(·∈wr)) (.eR (fun u o q e=>let ⟨_,e',_,t⟩:=Wk.low _ _ st u (Wk.fl u (Wk.k.sub u q)); (by cases e.symm.trans e'; exact t)) k2) (fun u q z=>let f:=hfp u (Wk.fl u (Wk.k.sub u z)); q.elim f.1 f.2) (fun x a e=>(N.cls x a e).1) fun u z=>(N.it u z).symm⟩
noncomputable def fF (t:Expr) (sc:Fs) (a:AV) (σ σ':ao):Prop:=∀ {W:ab} {d} {c:ai W d sc} {own ad s v} {Q:Unit→Shared→Prop} {E:Value→Shared→Prop},SV c σ ⟨own,ad,s.heap⟩→yb W t (vw c.U ⟨own,ad,s.heap⟩) s.heap v a→
 (∀ h' tk,SV c σ' ⟨own,ad,h'⟩→(vw c.U ⟨own,ad,s.heap⟩).Le (vw c.U ⟨own,ad,h'⟩)→Q () (mv s h' tk))→aw W c.A (assign t c.env v) Q E s
noncomputable def hU (c:ai W d sc) (σ:ao) (own:Own) (T:iY) (f:Fl):Prop:=∀ h X a G o l (_:Pre c.ad a) (s:Shared) ad (Q:Flow→Shared→Prop) (E:Value→Shared→Prop),SV (c.at h X a G o l) σ ⟨own,ad,s.heap⟩→Told (c.at h X a G o l) s Q E f→T Q E s
theorem cI.cons {t:Expr} {code:Value→Code} {T:iY} (hc:Step W c.A c.env t code T) {a:AV} {as:List AV} {g f:Fl} (hb:fF t sc a σ σ') (hg:hU c σ' own T g) (hr:match g with | .next σ2 own2=>cI c t code σ2 own2 as f | g=>f = g):cI c t code σ own (a::as) f:=⟨fun {I fp n P Md St Els fl wr} Wk {h₁ X' a₁ ad i s R} N S st els hfp T=>by
 have fw:∀ u,u∈wr→fp u:=fun u q=>Wk.fl u (Wk.k.sub u q)
 have lt:=(Wk.step _ _ _ _ els).1
 refine hc _ _ _ (Wk.k.item i _ _ _ lt st fun v h1 tk1 md k1=>Wk.k.go i v _ _ _ md fun h2 pv st2 k2'=>?_)
 refine af fun nG=>?_
 have kx:au (·∈wr) s.heap h2:=.eR (fun u o q e=>let ⟨_,e',_,t⟩:=Wk.low _ _ st u (fw u q); (by cases e.symm.trans e'; exact t)) fun b o n e=>k2' b o n (k1 b o n e)
 have nI:∀ u,c.B u∨ak own ad u→¬u∈wr:=fun u q z=>let f:=hfp u (fw u z); q.elim f.1 f.2
 have lo:∀ u,c.B u∨ak own ad u→bz h2 u:=fun u q=>let ⟨o,e,t⟩:=q.elim (fun q=>(S.low u q).2) (S.owns.low ·); ⟨o,kx.b0 (nI u q) e (.inr t),t⟩
 have fr1:∀ u,c.B u∨ak own ad u→h₁.get? u = none:=fun u q=>q.elim (fun q=>(S.low u q).1) (S.new u)
 have kk:ag c.h₀ (aP (fun u=>c.B u∨ak own ad u) h2):=((N.keep.trans S.keep).dD kx fun u q=>(N.it u q).2).fB fun u q=>⟨N.keep.gone (fr1 u q),lo u q⟩
 have N2:Inner c (aP (fun u=>c.B u∨ak own ad u) h2) X' ad wr:=⟨fun n a e=>S.pre n a (N.ad n a e),c.G.trans kk,kk,N.sub,fun u q=>by
  by_cases z:u∈wr
  ·obtain ⟨o,e,_⟩:=Wk.low _ _ st2 u (fw u z); exact ⟨o,a0.mpr ⟨e,fun q=>nI u q z⟩⟩
  ·obtain ⟨o,e⟩:=N.out u q
   obtain ⟨o1,e1⟩:=S.keep.ex id e
   obtain ⟨o2,e2⟩:=kx.ex z e1
   exact ⟨o2,a0.mpr ⟨e2,fun w=>by rw [fr1 u w] at e; exact aq e⟩⟩,N.it,fun x a e=>⟨(N.cls x a e).1,(c.cls x a e).imp id fun ⟨o,e'⟩=>kk.ex id e'⟩⟩
 have S2:SV N2.cx σ ⟨own,ad,h2⟩:=SV.move (c:=c) S (fun _ _ e=>e) kx nI (fun x a e=>(N.cls x a e).1) .dO (fun u q=>iJ q) (fun b o e n _ _=>⟨fun q=>n (N.it b q).1,n⟩) fun u z q=>S.owns.nU z (.inl q)
 have ss:(vw N.cx.U ⟨own,ad,s.heap⟩).Le (vw N2.cx.U ⟨own,ad,h2⟩):=⟨kx.sub fun b o e n=>⟨fun q=>n (.inl (.inl (N.it b q).1)),n⟩,fun _ _ e=>e⟩
 obtain ⟨-,els',el⟩:=Wk.step _ _ _ _ (Wk.mono _ _ _ _ ss els)
 refine nG ?_
 refine hb (c:=N2.cx) (s:=mv s h2 tk1) S2 (el v h2 pv fun b o e=>e.1) fun h3 t3 S3 s3=>?_
 refine hg _ _ _ _ _ _ N2.ad _ ad _ _ S3 ?_
 cases g with
 | ret a1 o1=>obtain rfl:f = .ret a1 o1:=hr; exact (T.leave N2).mv
 | exc c1=>obtain rfl:f = .exc c1:=hr; exact (T.leave N2).mv
 | next σ4 own4=>
  intro h4 tk4 ad4 S4
  have vis:∀ b o,¬(c.B b∨ak own ad b)→soft o = false→h2.get? b = some o→h4.get? b = some o:=fun b o n sf e=>S4.keep.get (a0.mpr ⟨e,n⟩) sf
  have old:∀ b o,¬(c.B b∨ak own ad b)→h2.get? b = some o→¬(c.B b∨ak own4 ad4 b):=fun b o n e q=>by
   have w:(aP (fun u=>c.B u∨ak own ad u) h2).get? b = none:=q.elim (fun q=>(S4.low b q).1) (S4.new b)
   rw [a0.mpr ⟨e,n⟩] at w; exact c5 w
  have nf:∀ b,fp b→¬(c.B b∨ak own ad b):=fun b hb q=>q.elim (hfp b hb).1 (hfp b hb).2
  refine hr.run (P:=P) (Md:=Md) Wk N2 S4 (Wk.k.frame _ _ _ st2 fun b hb o e=>let ⟨o',e',sf,_⟩:=Wk.low _ _ st2 b (Wk.fl b hb); vis b o (nf b (Wk.fl b hb)) (by rw [e] at e'; cases e'; exact sf) e) (Wk.mono (vw N2.cx.U ⟨own,ad,h2⟩) _ _ _ ⟨fun b o e=>?_,fun n a e=>S4.pre n a e⟩ els') (fun b hb=>?_) T.mv
  ·have n:¬(c.B b∨ak own ad b):=fun q=>e.2.2 (q.imp .inr id)
   exact ⟨vis b o n e.2.1 e.1,e.2.1,fun q=>q.elim (fun q=>e.2.2 (.inl q)) fun q=>old b o n e.1 (.inr q)⟩
  ·refine af fun nG=>?_
   obtain ⟨o,e,-⟩:=Wk.low _ _ st2 b hb
   refine nG ?_
   exact ⟨fun q=>old b o (nf b hb) e (.inl q),fun q=>old b o (nf b hb) e (.inr q)⟩⟩
end
end Mine
end
section
open PySem PySem.W PyProof.Rows PySem.Calls
namespace Mine
section
theorem yd {h h':Heap} (k:Heap.ExtBut h.objs.size h h'):ag h h':=.of fun b o e=>k b o (fun q=>eQ e (c7 h) q) e
theorem fF.name {sc:Fs} {x:Str} {p:Pos} {a:AV} {σ σ':ao} (h:iU sc x a σ σ'):fF (.Name x p) sc a σ σ':=fun S el G=>by
 cases el with
 | rel rv=>exact assign_Name (h S rv fun h1 t1 S1 s1=>G h1 t1 S1 s1)
 | tup k=>exact aR k
theorem fF.tuple {sc:Fs} {ts:List Expr} {k:Nat} {p:Pos} {as:List AV} {σ σ':ao} (r:ke sc ts as σ σ'):fF (.Tuple ts k p) sc (.tup as) σ σ':=fun {W d c own ad s v Q E} S el G=>by
 obtain ⟨T,vals,rfl,hT,rl⟩:∃ T vals,v = .ref T∧s.heap.IsTuple T vals∧ah W (vw c.U ⟨own,ad,s.heap⟩) vals.toList as:=by
  cases el with
  | rel rv=>obtain ⟨hg,rl⟩:=rv; exact ⟨_,_,rfl,⟨_,hg.1,rfl,_,rfl⟩,by simpa using rl⟩
  | tup k e e' i rl=>cases e; exact ⟨_,_,e',i,rl⟩
 obtain ⟨l3,l4⟩:=r.plain c.env
 have hl:=rl.length
 refine wpAny_assign_Tuple c.a.handled hT (by rw [l4,r.len,← hl]; simp) l3 fun h1 k1=>?_
 have k1:=S.owns.grow (yd k1)
 exact r.run (s:={ s with heap:=h1 }) (S.after k1) (rl.mono k1.view) fun h2 t2 S2 s2=>G h2 t2 S2 (k1.view.trans s2)
noncomputable def nk (sc:Fs) (t:Expr) (a:AV) (σ:ao):Option { σ':ao // fF t sc a σ σ' }:=match t with
 | .Name x p=>(match j9 sc x a σ with
  | some r=>some ⟨r.1,fF.name r.2⟩
  | none=>none)
 | .Tuple ts k p=>(match a with
  | .tup as=>(match xO sc ts as σ with
   | some r=>some ⟨r.1,fF.tuple r.2⟩
   | none=>none)
  | _=>none)
 | _=>none
section
variable {W:ab} {d:Nat} {sc:Fs}
noncomputable def kq {K:ai W d sc→Prop} {t:Expr} {code:ai W d sc→Value→Code} {T:ai W d sc→iY} (hc:∀ c,Step W c.A c.env t (code c) (T c)) (g:(σ:ao)→(own:Own)→Out fun f:Fl=>∀ c:ai W d sc,K c→hU c σ own (T c) f):(as:List AV)→(σ:ao)→(own:Own)→Out fun f:Fl=>∀ c:ai W d sc,K c→cI c t (code c) σ own as f
 | [],σ,own=>.ok (.next σ own) fun c _=>.nil (hc c)
 | a::as,σ,own=>(match nk sc t a σ with
  | some r=>bd (g r.1 own) fun f k=>(match f,k with
   | .next σ own1,k=>bd (kq hc g as σ own1) fun f h=>.ok f fun c q=>.cons (hc c) r.2 (k c q) (h c q)
   | .ret a o,k=>.ok (.ret a o) fun c q=>.cons (hc c) r.2 (k c q) rfl
   | .exc a,k=>.ok (.exc a) fun c q=>.cons (hc c) r.2 (k c q) rfl)
  | none=>.no 130)
end
theorem ye {W:ab} {A:Around} {t:Expr} {I:Addr} {v:Value} {o:Obj} {n:String} {s:Shared} {Q:Unit→Shared→Prop} {E:Value→Shared→Prop} (ho:s.heap.get? I = some o) (hc:o.cls = .type n)
  (hn:["enumerate","zip","dict_itemiterator","dict_reverseitemiterator","odict_iterator","itertools.zip_longest","itertools.pairwise"].contains n = false) (h:Q () s):aw W A (letOwnedTupleGo t (.ref I) v) Q E s:=by
 have body:aw W A (match v with
   | .ref a=>(do
    let o ← load I
    match o.cls,o.data with
    | .type n,.fields vs=>
     if ["enumerate","zip","dict_itemiterator","dict_reverseitemiterator","odict_iterator","itertools.zip_longest","itertools.pairwise"].contains n && vs[0]? == some (rawInt a) then do
      rule "for.unpacks-the-owned-tuple"
      updateField I 0 .none
     else pure ()
    | _,_=>pure ())
   | _=>pure ()) Q E s:=by
  cases v with
  | ref a=>
   refine wpAny_bind (wpAny_load ho ?_)
   rw [hc]
   cases o.data with
   | fields vs=>
    dsimp only
    rw [hn,Bool.false_and,if_neg Bool.false_ne_true]
    exact wpAny_pure h
   | _=>exact wpAny_pure h
  | _=>exact wpAny_pure h
 cases t<;>first
  | exact wpAny_pure h
  | (unfold letOwnedTupleGo; cases v<;>first | exact wpAny_pure h | exact body)
noncomputable def elems (a:AV):Option (List AV):=match a with
 | .lst l | .tup l=>some l
 | .rng a n=>some (iR a n)
 | _=>none
structure fG (W:ab) (A:Around) (t:Expr) (U:AS) (ad:List Addr) (s:Shared) (as:List AV) (Q:Value→Shared→Prop):Prop where
 run:∀ {h' I fp n P Md St Els fl wr tk},(∀ b o,s.heap.get? b = some o→h'.get? b = some o)→Walk W A t I fp n P Md St Els fl wr→(∀ u,u∈wr→s.heap.get? u = none)→(∀ b,fp b→s.heap.get? b = none∨¬U b)→St 0 h'→(∀ V:Vw,(⟨aD U s.heap,ad⟩:Vw).Le V→Els V 0 as)→
 (∀ i (s':Shared) (Q':Value→Shared→Prop) (E':Value→Shared→Prop),St i s'.heap→Q' (.ref I) s'→aw W A (pyIter (.ref I)) Q' E' s')→Q (.ref I) { s with heap:=h',toks:=tk }
variable {W:ab} {A:Around} {t:Expr} {U:AS} {ad:List Addr} {s:Shared} {Q:Value→Shared→Prop} {E:Value→Shared→Prop}
theorem Gv (hh:A.handled = none) {v:Value} {a:Int} {n:Nat} (rv:qd (aD U s.heap) a n v) (fin:fG W A t U ad s (iR a n) Q):aw W A (pyIter v) Q E s:=by
 obtain ⟨ho,hn⟩:=rv
 obtain ⟨-,small,size⟩:=qL hn
 refine wpAny_pyIter_range ho.1 small ?_
 have Wk:=Walks.range (prog:=pg) (w:=W.w) hh s.heap.objs.size a 1 n
 refine fin.run (fl:=[s.heap.objs.size]) (fp:=(· = s.heap.objs.size)) (Els:=fun _ i as=>i≤n∧as = iR (a + i) (n - i)) (fun _ _ e=>Heap.get?_push_of_some _ e) ⟨KTurns.ofWalks Wk fun i v s' Q' E' st hq=>ye st rfl (by decide +kernel) hq,fun b hb=>List.mem_singleton.mp hb,fun i h st u hu=>⟨_,hu▸st,rfl,rfl⟩,fun _ _ _ _ _ e=>e,fun V i e=>?_,fun V i b as e=>?_⟩ (fun u hu=>by rw [List.mem_singleton.mp hu]; exact c7 _) (fun b hb=>.inl (by rw [hb]; exact c7 _)) ?_ (fun V ss=>⟨Nat.zero_le _,by rw [Int.natCast_zero,Int.add_zero]; rfl⟩) Wk.self
 ·obtain ⟨e1,e⟩:=e
  cases q:n - i with
  | zero=>lia
  | succ k=>rw [q] at e; cases e
 ·obtain ⟨e1,e⟩:=e
  cases q:n - i with
  | zero=>rw [q] at e; cases e
  | succ k=>
   rw [q] at e
   obtain ⟨rfl,rfl⟩:=List.cons.inj e
   exact ⟨by lia,⟨by lia,by rw [show n - (i + 1) = k by lia]; congr 1; push_cast; lia⟩,fun v h hv _=>.rel (by obtain ⟨t',rfl⟩:=hv; rw [Int.mul_one]; exact (.mk _:bK _ _))⟩
 ·show (s.heap.push _).get? s.heap.objs.size = _
  rw [Heap.get?_push_size _ rfl,size]; simp [rawInt]
theorem yf {as:List AV} {vs:List Value} {x:Addr} {ox:Obj} {ob:Obj} {nm:String} {tk:Nat} {St:Nat→Heap→Prop} (ho:aD U s.heap x ox) (rl:ah W ⟨aD U s.heap,ad⟩ vs as) (fin:fG W A t U ad s as Q)
  (Wk:Walks pg W.w A s.heap.objs.size [s.heap.objs.size,x] [s.heap.objs.size] vs.length (fun i v=>vs[i]? = some v) St) (self:∀ i (s':Shared) (Q':Value→Shared→Prop) (E':Value→Shared→Prop),St i s'.heap→Q' (.ref s.heap.objs.size) s'→aw W A (pyIter (.ref s.heap.objs.size)) Q' E' s')
  (hn:["enumerate","zip","dict_itemiterator","dict_reverseitemiterator","odict_iterator","itertools.zip_longest","itertools.pairwise"].contains nm = false) (st:∀ i h,St i h→(∃ o,h.get? s.heap.objs.size = some o∧o.cls = .type nm∧soft o = false∧bA o = false)∧∃ o,h.get? x = some o∧soft o = false∧bA o = false) (s0:St 0 (s.heap.push ob)):Q (.ref s.heap.objs.size) { s with heap:=s.heap.push ob,toks:=tk }:=by
 refine fin.run (fl:=[s.heap.objs.size,x]) (fp:=fun b=>b = s.heap.objs.size∨b = x) (Els:=fun V i as=>ah W V (vs.drop i) as∧i≤vs.length) (fun _ _ e=>Heap.get?_push_of_some _ e) ⟨KTurns.ofWalks Wk fun i v s' Q' E' h hq=>let ⟨o,e,c,_⟩:=(st i _ h).1; ye e c hn hq,fun b hb=>(List.mem_cons.mp hb).imp id fun q=>List.mem_singleton.mp q,fun i h e u hu=>?_,fun _ _ _ _ s e=>⟨e.1.mono s,e.2⟩,fun V i e=>?_,fun V i a as e=>?_⟩ (fun u hu=>by rw [List.mem_singleton.mp hu]; exact c7 _) (fun b hb=>hb.imp (fun q=>by rw [q]; exact c7 _) fun (q:b = x)=>q▸ho.2.2) s0 (fun V ss=>⟨rl.mono ss,Nat.zero_le _⟩) self
 ·rcases hu with rfl | rfl
  ·obtain ⟨o,a,b,c,d⟩:=(st i h e).1; exact ⟨o,a,c,d⟩
  ·exact (st i h e).2
 ·have:=e.1.length
  rw [List.length_drop] at this
  have:=e.2
  simp only [List.length_nil] at *; lia
 ·refine af fun nG=>?_
  obtain ⟨e,le⟩:=e
  have hi:i < vs.length:=by have:=e.length; rw [List.length_drop,List.length_cons] at this; lia
  rw [List.drop_eq_getElem_cons hi] at e
  obtain ⟨ra,rr⟩:=e
  refine nG ?_
  exact ⟨hi,⟨rr,hi⟩,fun v' h hv k=>.rel (by rw [List.getElem?_eq_getElem hi] at hv; rw [← Option.some.inj hv]; exact ra)⟩
theorem yg {h:Heap} {I x:Addr} {o1 o2:Obj} {nm c2:String} {vs:Array Value} {n:Nat} (h1:h.get? I = some o1) (hc:o1.cls = .type nm) (n1:(nm == "frame") = false) (n2:(nm == "code") = false) (h2:h.get? x = some o2) (hc2:o2.cls = .type c2) (n3:(c2 == "frame") = false) (d2:o2.data = .seq vs n):(∃ o,h.get? I = some o∧o.cls = .type nm∧soft o = false∧bA o = false)∧∃ o,h.get? x = some o∧soft o = false∧bA o = false:=
 ⟨⟨o1,h1,hc,by unfold soft; rw [hc]; exact n1,by unfold bA; split<;>first | rfl | (rw [hc]; exact n2)⟩,o2,h2,by unfold soft; rw [hc2]; exact n3,by unfold bA; rw [d2]⟩
set_option tactic.hygienic true in
theorem q8 (hh:A.handled = none) {v:Value} {a:AV} {as:List AV} (he:elems a = some as) (rv:Rel W ⟨aD U s.heap,ad⟩ v a) (fin:fG W A t U ad s as Q):aw W A (pyIter v) Q E s:=by
 unfold elems at he
 split at he
 ·refine af fun nG=>?_
  obtain rfl:=Option.some.inj he
  obtain ⟨ho,rl⟩:=rv
  refine nG ?_
  rename_i x vs n
  have ne:x≠s.heap.objs.size:=eQ ho.1 (c7 _)
  have Wk:=Walks.list (prog:=pg) (w:=W.w) hh s.heap.objs.size x ne vs.toArray
  exact wpAny_pyIter_list (items:=vs.toArray) ⟨_,ho.1,rfl,n,rfl⟩ (yf (St:=fun i h=>h.IsListIter s.heap.objs.size x i∧h.IsList x vs.toArray) ho rl fin (by simpa using Wk) Wk.self (nm:="list_iterator") (by decide +kernel) (fun i h st=>by
   refine af fun nG=>?_
   obtain ⟨⟨o1,h1,hc,d1⟩,⟨o2,h2,hc2,_,d2⟩⟩:=st
   refine nG ?_
   exact yg h1 hc rfl rfl h2 hc2 rfl d2) ⟨⟨_,Heap.get?_push_size _ rfl,rfl,rfl⟩,⟨_,Heap.get?_push_of_some _ ho.1,rfl,n,rfl⟩⟩)
 ·refine af fun nG=>?_
  obtain rfl:=Option.some.inj he
  obtain ⟨ho,rl⟩:=rv
  refine nG ?_
  rename_i x vs n
  have ne:x≠s.heap.objs.size:=eQ ho.1 (c7 _)
  have Wk:=Walks.tuple (prog:=pg) (w:=W.w) hh s.heap.objs.size x ne vs.toArray
  exact wpAny_pyIter_tuple (items:=vs.toArray) ⟨_,ho.1,rfl,n,rfl⟩ (yf (St:=fun i h=>h.IsTupleIter s.heap.objs.size x i∧h.IsTuple x vs.toArray) ho rl fin (by simpa using Wk) Wk.self (nm:="tuple_iterator") (by decide +kernel) (fun i h st=>by
   refine af fun nG=>?_
   obtain ⟨⟨o1,h1,hc,d1⟩,⟨o2,h2,hc2,_,d2⟩⟩:=st
   refine nG ?_
   exact yg h1 hc rfl rfl h2 hc2 rfl d2) ⟨⟨_,Heap.get?_push_size _ rfl,rfl,rfl⟩,⟨_,Heap.get?_push_of_some _ ho.1,rfl,n,rfl⟩⟩)
 ·refine af fun nG=>?_
  obtain rfl:=Option.some.inj he
  refine nG ?_
  exact Gv hh rv fin
 ·exact aq he
section
variable {d:Nat} {sc:Fs} {c:ai W d sc} {σ:ao} {own own1:Own} {pos:Pos}
theorem Told.Gw {s:Shared} {Q Q':Flow→Shared→Prop} {E:Value→Shared→Prop} {x:Addr} (T:Told c s Q E (.exc x)):Told c s Q' (notedBy (model pg W.w) c.A c.env fun e s'=>cameBackBy (model pg W.w) c.A c.env E e s') (.exc x):=by
 refine af fun nG=>?_
 obtain ⟨FR,fp,g⟩:=T
 refine nG ?_
 refine ⟨FR,fp,fun e h' tk k n o x=>?_⟩
 refine af fun nG=>?_
 obtain ⟨outer,a,fl⟩:=fp.m6 k o
 refine nG ?_
 refine qU (s:=Mine.mv s h' tk) a fl fp.fr k n x fun h2 k2 f2 x2 _=>?_
 show wpAny _ _ (field (.ref e) 1 >>= _) _ _ _
 refine af fun nG=>?_
 obtain ⟨e0,oe,vs,he,hc,hd,q⟩:=x2
 refine nG ?_
 have x2:b9 c.h₀ _ e (qT c.env.locals) h2:=⟨e0,oe,vs,he,hc,hd,q⟩
 rcases q with ⟨_,q⟩ | ⟨T',oT,ts,mk,h1,_⟩
 ·exact aq q
 ·refine wpAny_bind (wpAny_field he hd h1 ?_)
  rw [if_neg (show ¬ ((Value.ref T' == Value.none) = true) from by simp),fp.fr]
  refine m5 (s:=Mine.mv s h2 tk) (fo:=some c.env.locals) (fun z=>by exact aq z) f2 k2 x2 fun h3 k3 f3 x3 _=>g e h3 tk k3 n (f3.mem _ (.head _)) ?_
  refine af fun nG=>?_
  obtain ⟨a1,oe,vs,a2,a3,a4,q⟩:=x3
  refine nG ?_
  refine ⟨a1,oe,vs,a2,a3,a4,q.imp (fun z=>⟨z.1,.inl rfl⟩) ?_⟩
  rintro ⟨T,oT,ts,mk,b1,b2,b3,b4,b5,b6,b7,b8⟩
  exact ⟨T,oT,ts,mk,b1,b2,b3,b4,b5,b6,b7,.inr (.inr b8)⟩
theorem cI.enter {t:Expr} {code:Value→Code} {as:List AV} {f:Fl} (L:cI c t code σ own as f) {ad:List Addr} {s:Shared} {h:Heap} {tk':Nat} {Q:Flow→Shared→Prop} {E:Value→Shared→Prop} (S:SV c σ ⟨own,ad,h⟩) (T:Told c s Q E f):
  fG W c.A t (fun u=>c.U u∨ak own ad u) ad (mv s h tk') as fun it s₁=>codeAny (model pg W.w) c.A (code it) (fun r s'=>match r with | .ok f=>Q f s' | .error e=>cameBackBy (model pg W.w) c.A c.env E e s') s₁:=⟨fun {h' I fp n P Md St Els fl wr tk} k0 Wk hw hfp st els _=>by
 have k:ag h h':=.of k0
 have lo:∀ u,c.B u∨ak own ad u→bz h u:=fun u q=>q.elim (fun q=>(S.low u q).2) (S.owns.low ·)
 have nI:∀ u,c.B u∨ak own ad u→h.get? u≠none:=fun u q z=>by obtain ⟨o,e,_⟩:=lo u q; rw [z] at e; exact aq e
 have nw:∀ u o,h.get? u = some o→u∉wr:=fun u o e q=>by rw [show h.get? u = none from hw u q] at e; exact aq e
 have f0:∀ u,c.B u∨ak own ad u→c.h₀.get? u = none:=fun u q=>q.elim (fun q=>(S.low u q).1) (S.new u)
 have kk:ag c.h₀ (aP (fun u=>c.B u∨ak own ad u) h'):=ag.fB (S.keep.trans k) fun u q=>⟨f0 u q,(lo u q).keep k⟩
 have N:Inner c (aP (fun u=>c.B u∨ak own ad u) h') (fun u=>u∈wr∨c.X u) ad wr:=⟨S.pre,c.G.trans kk,kk,fun _=>.inr,fun u q=>by
  rcases q with q | q
  ·obtain ⟨o,e,_⟩:=Wk.low _ _ st u (Wk.fl u (Wk.k.sub u q)); exact ⟨o,a0.mpr ⟨e,fun z=>nI _ z (hw u q)⟩⟩
  ·obtain ⟨o,e⟩:=c.out u q; exact kk.ex id e,fun u q=>⟨.inl q,S.keep.gone (hw u q)⟩,fun x a e=>⟨fun q=>by obtain ⟨_,o,e,_⟩:=S.cls x a e; exact nw _ _ e q,(c.cls x a e).imp id fun ⟨o,e'⟩=>kk.ex id e'⟩⟩
 refine L.run Wk N (SV.move (c:=c) (h₁:=c.h₀) (X:=c.X) (ad₁:=c.ad) (G:=c.G) (o:=c.out) (l:=c.cls) S (fun _ _ e=>e) k (fun _ _=>id) (fun _ _ _=>id) .dO (fun u q=>iJ q) (fun b o e n _ _=>⟨id,fun q=>q.elim (nw _ _ e) n⟩) fun u z q=>q.elim (fun q=>nI u (.inr z) (hw u q)) fun q=>S.owns.nU z (.inl q)) st (els _ ⟨k.sub fun b o e n=>⟨id,fun q=>?_⟩,fun _ _ e=>e⟩) (fun b hb=>?_) ?_
 ·rcases q with ((q | q) | q) | q
  ·exact nw _ _ e q
  ·exact n (.inl (.inl q))
  ·exact n (.inl (.inr q))
  ·exact n (.inr q)
 ·exact (hfp b hb).elim (fun z=>⟨fun q=>nI b (.inl q) z,fun q=>nI b (.inr q) z⟩) fun z=>⟨fun q=>z (.inl (.inr q)),fun q=>z (.inr q)⟩
 ·cases f with
  | next σ own=>exact T
  | ret a own=>exact T
  | exc x=>exact (Told.Gw T (Q':=Q)).mv⟩
noncomputable abbrev iZ (e:Expr):Prop:=∀ env v,foldedSetIterable e env v = pure v
theorem az.Gx {t it:Expr} {body:List Stmt} {a:AV} {as:List AV} {f:Fl} (hs:iZ it) (hi:aj c σ own (eval it c.env) a own1) (he:elems a = some as) (L:cI c t (fun it=>.forLoop t it body [] c.env) σ own1 as f):az c σ own (exec (.For t it body [] pos) c.env) f:=fun s ad Q E S T=>
 wpAny_For (hi s ad _ _ S fun v h1 t1 a1 k1 r1=>q8 (s:=mv s h1 t1) c.a.handled he r1 (L.enter (S.after k1) T)) (hs _)
end
end
end Mine
end
section
set_option backward.match.sparseCases false
open PySem PySem.W PyProof.Rows PySem.Calls
namespace Mine
section
noncomputable def q9 (ifs:List Expr) (env:Env):Sem Bool:=forIn ifs true fun e r=>if r = true then do let ok ← isTrue e env (eval e env); pure (ForInStep.yield ok) else pure (ForInStep.yield r)
structure nq (e:Expr) (k:Nat) (D:Value) (env:Env) (t:Expr) (ifs:List Expr) (rest:Sem Unit) (pos:Pos):Prop where
 den:∀ w it,(model pg w).den (.compLoop e k it D env) = (compTurn e k it D env).onRaise (fun x=>do noteFrame x env; theTreesLotGoes x)
 under:∀ (A:Around) it,A.under (.compLoop e k it D env) = A
 eq:∀ it,compTurn e k it D env = (do
 standAt pos
 match ← pyNext it with
 | none=>pure (.done .next)
 | some v=>
  letOwnedTupleGo t it v
  assign t env v
  let ok ← q9 ifs env
  if ok then rest
  again (.compLoop e k it D env))
section
variable {W:ab} {d:Nat} {sc:Fs} {c:ai W d sc} {σ σ':ao} {own own1 own2 own3:Own} {pos:Pos}
noncomputable def rd (c:ai W d sc) (ifs:List Expr) (rest:Sem Unit):iY:=fun Q E s=>aw W c.A (q9 ifs c.env) (fun ok s₁=>if ok = true then aw W c.A rest (fun _ s₂=>Q .next s₂) E s₁ else Q .next s₁) E s
theorem rg {e:Expr} {k:Nat} {D:Value} {t:Expr} {ifs:List Expr} {rest:Sem Unit} (h:nq e k D c.env t ifs rest pos):Step W c.A c.env t (fun it=>.compLoop e k it D c.env) (rd c ifs rest):=fun it R s hw=>by
 refine codeAny_loop' rfl (fun _ s'=>s' = s) (fun n s' e'=>?_) 0 rfl
 subst e'
 dsimp only
 rw [h.den,h.under]
 refine wpAny_noted ?_
 rw [h.eq]
 refine wpAny_bind (wpAny_standAt (wpAny_bind (wpAny_mono hw (fun r s₁ h₁=>?_) fun _ _ h'=>h')))
 cases r with
 | none=>exact wpAny_pure h₁
 | some v=>
  refine wpAny_bind (wpAny_mono h₁ (fun _ s₂ h₂=>wpAny_bind (wpAny_mono h₂ (fun _ s₃ h₃=>wpAny_bind (wpAny_mono h₃ (fun ok s₄ h₄=>?_) fun _ _ h'=>h')) fun _ _ h'=>h')) fun _ _ h'=>h')
  cases ok with
  | false=>exact wpAny_pure (.inr ⟨rfl,h₄⟩)
  | true=>exact wpAny_bind (wpAny_mono h₄ (fun _ s₅ h₅=>wpAny_pure (.inr ⟨rfl,h₅⟩)) fun _ _ h'=>h')
noncomputable def gm (c:ai W d sc) (σ:ao) (own:Own) (rest:Sem Unit) (σ':ao) (own':Own):Prop:=∀ h X a G o l (_:Pre c.ad a) (s:Shared) ad (Q:Unit→Shared→Prop) (E:Value→Shared→Prop),SV (c.at h X a G o l) σ ⟨own,ad,s.heap⟩→(∀ h' tk ad',SV (c.at h X a G o l) σ' ⟨own',ad',h'⟩→Q () (mv s h' tk))→aw W c.A rest Q E s
noncomputable abbrev i0 (c:ai W d sc) (σ:ao) (own:Own) (ifs:List Expr) (b:Bool) (own':Own):Prop:=iP c σ own (q9 ifs c.env) (fun _ v=>v = b) own'
theorem i0.nil:i0 c σ own [] true own:=fun s ad Q E S F=>wpAny_tests_nil (F.here S.owns (tk:=s.toks) rfl)
theorem i0.one {e:Expr} {b:Bool} (h:bo c σ own (isTrue e c.env (eval e c.env)) b own1):i0 c σ own [e] b own1:=fun s ad Q E S F=>wpAny_tests_one (h s ad Q E S F)
theorem hU.comp {ifs:List Expr} {rest:Sem Unit} {b:Bool} (ht:∀ c:ai W d sc,i0 c σ own ifs b own1) (hr:if b = true then gm c σ own1 rest σ' own2 else σ' = σ∧own2 = own1):hU c σ own (rd c ifs rest) (.next σ' own2):=fun h X a G o l pre s ad Q E S T=>
 ht (c.at h X a G o l) s ad _ _ S fun v h1 t1 a1 k1 e=>by
  subst e
  cases v with
  | true=>exact (show gm c σ own1 rest σ' own2 from hr) h X a G o l pre _ a1 _ E (S.after k1) T
  | false=>obtain ⟨rfl,rfl⟩:σ' = σ∧own2 = own1:=hr; exact T h1 t1 a1 (S.after k1)
theorem hU.body {body:List Stmt} {f:Fl} (h:∀ c:ai W d sc,az c σ own (execs body c.env) f):hU c σ own (fun Q E s=>aw W c.A (execs body c.env) Q E s) f:=fun g X a G o l _ s ad Q E S T=>h (c.at g X a G o l) s ad Q E S T
noncomputable abbrev ef (env:Env):Value:=.ref (env.locals - 1)
noncomputable def AccAt (n:Nat) (c:ai W d sc):Prop:=c.ad[n]? = some (c.env.locals - 1)
noncomputable abbrev i4 (elt:Expr) (env:Env):Sem Unit:=do let _ ← call (.builtin "list.append") [ef env,← eval elt env]
set_option tactic.hygienic true in
theorem gm.emit {elt:Expr} {a:AV} {l:List AV} {n:Nat} (hc:AccAt n c) (he:∀ c:ai W d sc,aj c σ own (eval elt c.env) a own1) (hl:own1[n]? = some (.lst l)) (hz:Nat.ble l.length 1000 = true):gm c σ own (i4 elt c.env) σ (own1.set n (.lst (l ++ [a]))):=fun h X b G o z pre s ad Q E S F=>
 wpAny_bind (he (c.at h X b G o z) s ad _ _ S fun x h3 t3 a3 k3 r3=>by
  refine af fun nG=>?_
  have S3:=S.after k3
  have at1:At own1 a3 n (.lst l) (c.env.locals - 1):=⟨hl,rfl,S3.pre _ _ (pre _ _ hc)⟩
  obtain ⟨_,o',ho',pr'⟩:=k3.owns.obj _ _ _ at1
  obtain ⟨rl⟩:=pr'
  refine nG ?_
  rename_i vs n'
  exact wpAny_bind (append_at (its:=vs.toArray) (n:=n') ho' (fun h2 s2 o2=>wpAny_pure (F h2 t3 a3 (S3.after (k3.owns.put at1 s2 (fun e=>by cases e) fun V le _ _=>⟨fun _=>⟨_,by rw [o2]; exact congrArg some (by simp [bl]),.mk (n:=n' + 1) ((rl.append (.cons r3 (show ah W _ [] [] from rfl))).mono le)⟩,(fun _ e=>by cases e)⟩)))) (by rw [List.size_toArray,rl.length]; exact le_size hz)))
theorem Gy {elt t it:Expr} {ifs:List Expr} {scope:Scope} {env:Env}:nq (.ListComp elt [⟨t,it,ifs,0⟩] scope pos) 0 (ef env) env t ifs (i4 elt env) it.pos:=⟨fun _ _=>rfl,fun _ _=>rfl,fun _=>rfl⟩
noncomputable abbrev nv (e it2:Expr) (env:Env):Sem Unit:=do
 let x ← eval it2 env
 standAt it2.pos
 let x ← foldedSetIterable it2 env x
 let _ ← runOwn (.compStart e 1 (← holding [x] (pyIter x)) (ef env) env) env
theorem Gz {elt t it t2 it2:Expr} {ifs ifs2:List Expr} {scope:Scope} {env:Env}:nq (.ListComp elt [⟨t,it,ifs,0⟩,⟨t2,it2,ifs2,0⟩] scope pos) 0 (ef env) env t ifs (nv (.ListComp elt [⟨t,it,ifs,0⟩,⟨t2,it2,ifs2,0⟩] scope pos) it2 env) it.pos:=⟨fun _ _=>rfl,fun _ _=>rfl,fun _=>by simp only [nv,bind_assoc]; rfl⟩
theorem GA {elt t it t2 it2:Expr} {ifs ifs2:List Expr} {scope:Scope} {env:Env}:nq (.ListComp elt [⟨t,it,ifs,0⟩,⟨t2,it2,ifs2,0⟩] scope pos) 1 (ef env) env t2 ifs2 (i4 elt env) it2.pos:=⟨fun _ _=>rfl,fun _ _=>rfl,fun _=>rfl⟩
theorem yh {A:Around} {env:Env} {e:Expr} {k:Nat} {D it:Value} {R:Result→Shared→Prop} {s:Shared} {g:Comprehension} (hd:∀ w it,(model pg w).den (.compStart e k it D env) = (compStart e k it D env).onRaise (fun x=>do noteFrame x env; standAt theWindowsPlace)) (hu:∀ it,A.under (.compStart e k it D env) = A) (hg:(clausesOf e)[k]? = some g) (ha:g.is_async = 0) (h0:codeAny (model pg W.w) A (.compLoop e k it D env) R s)
  (h:aw W A (pyIter it) (fun it' s'=>codeAny (model pg W.w) A (.compLoop e k it' D env) R s') (notedBy (model pg W.w) A env fun x s'=>R (.error x) s') s):codeAny (model pg W.w) A (.compStart e k it D env) R s:=by
 refine codeAny_of_tree ?_
 rw [hd,hu]
 refine wpAny_notedAt ?_
 unfold compStart
 rw [hg]
 obtain ⟨t,i,f,a⟩:=g
 obtain rfl:a = 0:=ha
 show wpAny _ _ (PySem.ask >>= _) _ _ s
 refine wpAny_bind (wpAny_askSetting (wpAny_ite ?_))
 split
 ·first
   | exact wpAny_bind (wpAny_pure (wpAny_pure (And.intro rfl h0)))
   | exact wpAny_pure (And.intro rfl h0)
 ·refine wpAny_bind (wpAny_rule ?_)
  show wpAny _ _ (standAt i.pos >>= _) _ _ s
  exact wpAny_bind (wpAny_standAt (wpAny_bind (wpAny_mono h (fun it' s' h'=>wpAny_pure (And.intro rfl h')) fun _ _ x=>x)))
theorem fG.twice {A:Around} {t:Expr} {U:AS} {ad:List Addr} {s:Shared} {as:List AV} {Q Q':Value→Shared→Prop} (h:fG W A t U ad s as Q) (k:∀ it s',Q it s'→(∀ E:Value→Shared→Prop,aw W A (pyIter it) Q E s')→Q' it s'):fG W A t U ad s as Q':=⟨fun k0 Wk hw hfp st els self=>k _ _ (h.run k0 Wk hw hfp st els self) fun E=>self 0 _ Q E st (h.run k0 Wk hw hfp st els self)⟩
theorem gm.inner {elt t it t2 it2:Expr} {ifs ifs2:List Expr} {scope:Scope} {x:AV} {as:List AV} {K:ai W d sc→Prop} (hK:∀ h X a G o l,Pre c.ad a→K (c.at h X a G o l)) (hs:iZ it2) (hx:∀ c:ai W d sc,aj c σ own (eval it2 c.env) x own1) (he:elems x = some as)
  (L:∀ c:ai W d sc,K c→cI c t2 (fun i=>.compLoop (.ListComp elt [⟨t,it,ifs,0⟩,⟨t2,it2,ifs2,0⟩] scope pos) 1 i (ef c.env) c.env) σ own1 as (.next σ' own2)):gm c σ own (nv (.ListComp elt [⟨t,it,ifs,0⟩,⟨t2,it2,ifs2,0⟩] scope pos) it2 c.env) σ' own2:=fun h X b G o z pre s ad Q E S F=>
 wpAny_bind (hx (c.at h X b G o z) s ad _ _ S fun xv h5 t5 a5 k5 r5=>by
  refine wpAny_bind (wpAny_standAt (wpAny_bind (wpAny_of_eq (hs _ _) (wpAny_bind (wpAny_holding ?_)))))
  refine q8 (s:=mv s h5 t5) c.a.handled he r5 (fG.twice ((L (c.at h X b G o z) (hK h X b G o z pre)).enter (Q:=fun _ s'=>Q () s') (E:=E) (S.after k5) (F:Told (c.at h X b G o z) s (fun _ s'=>Q () s') E (.next σ' own2))) fun i s' q self=>?_)
  refine wpAny_bind (wpAny_runOwn (codeAny_mono (yh (fun _ _=>rfl) (fun _=>rfl) rfl rfl q (self _)) fun r s' hr=>?_))
  cases r with
  | ok f=>exact wpAny_pure hr
  | error x=>exact hr)
end
noncomputable def fH (sc:Scope) (p:Str×NameKind):Str×NameKind:=if (p.2 == .free && true && lk p.1 sc.names == some .cell) = true then (p.1,.cell) else p
noncomputable def bW (scope sc:Scope):Scope:={ scope with names:=scope.names.map (fH sc) }
theorem GB (scope:Scope) (env:Env) (K:eU env):bW scope env.scope = relabel scope env:=by
 unfold bW relabel
 congr 1
 refine List.map_congr_left fun p _=>?_
 obtain ⟨n,k⟩:=p
 unfold fH
 rw [cQ,K.kind]; rfl
theorem rh (sc:Scope) (p:Str×NameKind):(fH sc p).1 = p.1:=by unfold fH; split<;>rfl
theorem rj {α:Type} {x:Str} {f:Str×α→Str×α} (hf:∀ p,(f p).1 = p.1):∀ {l:List (Str×α)},lk x (l.map f) = (lk x l).map fun a=>(f (x,a)).2
 | []=>rfl
 | (y,a)::l=>by
  rw [List.map_cons,show f (y,a) = (y,(f (y,a)).2) from Prod.ext (hf _) rfl,c9,c9,rj hf]
  by_cases q:x = y
  ·rw [if_pos q,if_pos q,q]; rfl
  ·rw [if_neg q,if_neg q]
theorem GC (scope sc:Scope):da (bW scope sc) = da scope:=by
 have:∀ x,jT x (bW scope sc) = jT x scope:=fun x=>by
  show (scope.names.map (fH sc)).any (fun p=>sEq x p.1) = scope.names.any fun p=>sEq x p.1
  rw [List.any_map]
  congr 1
  funext p
  show sEq x (fH sc p).1 = _
  rw [rh]
 unfold da
 rw [this,this]
noncomputable abbrev yi:Str:=qW
theorem yj:m8 = ("__debug__":Str)∧yi = ("__classdict__":Str):=⟨xQ,xR⟩
noncomputable def yk (sc:Scope) (p:Str×NameKind):Bool:=lk p.1 sc.names == some p.2 && !sEq p.1 m8 && !sEq p.1 yi && !(p.2 == .cell)
noncomputable def ku (sc:Scope):Bool:=sc.kind == .function && (da sc).isNone && sc.names.all (yk sc)
structure yl (sc:Scope) (x:Str) (k:NameKind):Prop where
 look:lk x sc.names = some k
 dbg:(x == ("__debug__":Str)) = false
 cls:(x == ("__classdict__":Str)) = false
 nc:k≠.cell
structure ky (sc:Scope):Prop where
 kind:sc.kind = .function
 lam:da sc = none
 name:∀ x k,(x,k)∈sc.names→yl sc x k
theorem kz {sc:Scope} (h:ku sc = true):ky sc:=by
 obtain ⟨h,h3⟩:=Bool.and_eq_true_iff.mp h
 obtain ⟨h1,h2⟩:=Bool.and_eq_true_iff.mp h
 refine ⟨beq_iff_eq.mp h1,Option.isNone_iff_eq_none.mp h2,fun x k m=>?_⟩
 have q:=List.all_eq_true.mp h3 _ m
 unfold yk at q
 simp only [Bool.and_eq_true,Bool.not_eq_true',beq_iff_eq,eA,beq_eq_false_iff_ne] at q
 obtain ⟨⟨⟨q1,q2⟩,q3⟩,q4⟩:=q
 exact ⟨q1,beq_eq_false_iff_ne.mpr (yj.1▸q2),beq_eq_false_iff_ne.mpr (yj.2▸q3),q4⟩
structure kA (sc:Scope) (σ:ao) (l:List (Str×NameKind)) (r:ao):Prop where
 look:∀ x a,lk x r = some a→lk x σ = some a∧(x,.free)∈l
 has:∀ x,(x,NameKind.free)∈l→∃ a,lk x σ = some a∧(lk x sc.names = some .cell∨lk x sc.names = some .free)
noncomputable def ro (sc:Scope) (σ:ao):(l:List (Str×NameKind))→Option { r:ao // kA sc σ l r }
 | []=>some ⟨[],⟨fun _ _ e=>(aq e),fun _ m=>((List.not_mem_nil m).elim)⟩⟩
 | (y,k)::l=>(match ro sc σ l with
  | some ⟨r,P⟩=>aF (k == .free) (fun hk=>aF (lk y sc.names == some .cell || lk y sc.names == some .free) (fun hs=>de (lk y σ) (fun a ha=>some ⟨(y,a)::r,⟨fun x b e=>by
     rw [c9] at e
     split at e
     ·rename_i q; exact ⟨q▸e▸ha,by rw [q,beq_iff_eq.mp hk]; exact .head _⟩
     ·exact ⟨(P.look x b e).1,.tail _ (P.look x b e).2⟩,fun x m=>by
     rcases List.mem_cons.mp m with q | q
     ·obtain ⟨rfl,-⟩:=Prod.mk.inj q
      exact ⟨a,ha,(Bool.or_eq_true_iff.mp hs).imp beq_iff_eq.mp beq_iff_eq.mp⟩
     ·exact P.has x q⟩⟩) fun _=>none) fun _=>none) fun hk=>some ⟨r,⟨fun x b e=>⟨(P.look x b e).1,.tail _ (P.look x b e).2⟩,fun x m=>by
     rcases List.mem_cons.mp m with q | q
     ·obtain ⟨-,rfl⟩:=Prod.mk.inj q; exact fj hk
     ·exact P.has x q⟩⟩
  | none=>none)
structure GD (env:Env) (l:List (Str×NameKind)) (acc cl:List (Str×Addr)):Prop where
 run:(forIn (m:=Sem) l acc fun p r=>if (p.2 == NameKind.free) = true then do let a ← cellOf env p.1; pure (ForInStep.yield ((p.1,a)::r)) else pure (ForInStep.yield r)) = pure cl
 from_:∀ p,p∈cl→p∈acc∨(env.cells.lookup p.1 = some p.2∧(p.1,NameKind.free)∈l)
 old:∀ p,p∈acc→p∈cl
 has:∀ x,(x,NameKind.free)∈l→∃ c,(x,c)∈cl
theorem rp {env:Env}:∀ {l:List (Str×NameKind)} {acc:List (Str×Addr)},(∀ x,(x,NameKind.free)∈l→∃ c,env.cells.lookup x = some c)→∃ cl,GD env l acc cl
 | [],acc,_=>⟨acc,rfl,fun _=>.inl,fun _ m=>m,fun _ m=>(List.not_mem_nil m).elim⟩
 | (y,k)::l,acc,h=>by
  by_cases q:k = .free
  ·subst q
   obtain ⟨c,hc⟩:=h y (.head _)
   obtain ⟨cl,C⟩:=rp (l:=l) (acc:=(y,c)::acc) fun x m=>h x (.tail _ m)
   refine ⟨cl,?_,fun p m=>?_,fun p m=>C.old p (.tail _ m),fun x m=>?_⟩
   ·rw [List.forIn_cons,if_pos (show (NameKind.free == NameKind.free) = true by decide)]
    have:cellOf env y = pure c:=by unfold cellOf; rw [hc]
    dsimp only
    rw [this]
    exact C.run
   ·rcases C.from_ p m with q | q
    ·rcases List.mem_cons.mp q with rfl | q
     ·exact .inr ⟨hc,.head _⟩
     ·exact .inl q
    ·exact .inr ⟨q.1,.tail _ q.2⟩
   ·rcases List.mem_cons.mp m with q | q
    ·obtain ⟨rfl,-⟩:=Prod.mk.inj q; exact ⟨c,C.old _ (.head _)⟩
    ·exact C.has x q
  ·obtain ⟨cl,C⟩:=rp (l:=l) (acc:=acc) fun x m=>h x (.tail _ m)
   refine ⟨cl,?_,fun p m=>(C.from_ p m).imp id fun q=>⟨q.1,.tail _ q.2⟩,C.old,fun x m=>?_⟩
   ·rw [List.forIn_cons,if_neg (by simpa using q)]
    exact C.run
   ·rcases List.mem_cons.mp m with z | z
    ·exact absurd (Prod.mk.inj z).2.symm q
    ·exact C.has x z
structure ym (env:Env) (scope:Scope) (cl:List (Str×Addr)):Prop where
 run:closureFor scope env = pure cl
 sub:∀ x c,cl.lookup x = some c→env.cells.lookup x = some c∧(x,NameKind.free)∈scope.names
 has:∀ x,(x,NameKind.free)∈scope.names→∃ c,cl.lookup x = some c
theorem rq {scope:Scope} {env:Env} (h:∀ x,(x,NameKind.free)∈scope.names→∃ c,env.cells.lookup x = some c):∃ cl,ym env scope cl:=by
 obtain ⟨cl,C⟩:=rp (acc:=[]) h
 refine ⟨cl,?_,fun x c e=>?_,fun x m=>?_⟩
 ·have e:=C.run
  unfold closureFor
  simp only [pure_bind,bind_pure] at e ⊢
  exact e
 ·rw [← cQ] at e
  exact (C.from_ _ (fu e)).resolve_left fun m=>(List.not_mem_nil m).elim
 ·obtain ⟨c,hc⟩:=C.has x m
  cases q:cl.lookup x with
  | some c'=>exact ⟨c',rfl⟩
  | none=>
   have:=List.lookup_eq_none_iff.mp q _ hc
   simp at this
variable {W:ab} {d:Nat} {sc:Fs} {c:ai W d sc} {σ σ0 σ1:ao} {own own1 own2:Own} {pos:Pos}
theorem Loc.cell {env:Env} {V:Vw} {h:Heap} {x:Str} {a:AV} {sc':Scope} (es:env.scope = sc') (l:Loc W env V h x a) (hk:lk x sc'.names = some .cell∨lk x sc'.names = some .free):∃ u v,env.cells.lookup x = some u∧h.IsCell u (some v)∧Rel W V v a:=by
 rw [cQ] at hk
 cases l with
 | loc k n e r=>
  have k:env.scope.names.lookup x = some .local:=k
  rw [es] at k
  rw [k] at hk; rcases hk with hk | hk<;>cases hk
 | cel k d e i r=>exact ⟨_,_,e,i,r⟩
structure kB (c:ai W d sc) (scope:Scope) (own:Own) (ad:List Addr) (h:Heap) (D:Addr) (c':ai W d ⟨bW scope sc.sc,false⟩):Prop where
 A:c'.A = c.A
 h:c'.h₀ = aP (ak own ad) h
 X:c'.X = c.U
 ad:c'.ad = ad ++ [D]
 loc:c'.env.locals = D + 1
 B:c'.B = (· = D + 1)
theorem GF {scope:Scope} {cl:List (Str×Addr)} {ad wr:List Addr} {h h2 h4:Heap} {D:Addr} {lob:Obj} {pv:PV} {m:Str→Option Value} (S0:ky scope) (F:kA sc.sc σ scope.names σ0) (P:ym c.env scope cl) (S:SV c σ ⟨own,ad,h⟩) (k0:∀ b o,h.get? b = some o→h2.get? b = some o) (hw:∀ u,u∈wr→h.get? u = none∧∃ o,h2.get? u = some o) (k4:ag h2 h4) (hD:h2.get? D = none) (hC:h2.get? (D + 1) = none) (hDo:h4.get? D = some lob) (hl:live pv = true) (hp:∀ V,d3 W V D lob pv) (hn:h4.Ns (D + 1) m):
  ∃ (c':ai W d ⟨bW scope sc.sc,false⟩) (N:Inner c' (aP (ak own ad) h2) (fun u=>u∈wr∨c.U u) (ad ++ [D]) wr),kB c scope own ad h D c'∧c'.env = compEnvC scope cl (D + 1) c.env∧SV N.cx σ0 ⟨own ++ [pv],ad ++ [D],h4⟩∧(⟨aD (fun u=>c.U u∨ak own ad u) h,ad⟩:Vw).Le (vw N.cx.U ⟨own ++ [pv],ad ++ [D],h4⟩)∧∀ u,u = D + 1∨ak (own ++ [pv]) (ad ++ [D]) u→h2.get? u = none∨ak own ad u:=by
 have k2:ag h h2:=.of k0
 have kk:=k2.trans k4
 have len:ad.length = own.length:=S.owns.len
 have pr:∀ u,ak (own ++ [pv]) (ad ++ [D]) u→u = D∨ak own ad u:=fun u ⟨n,qv,z⟩=>(z.push len).elim (fun z=>.inl z.2.2) fun z=>.inr ⟨n,qv,z⟩
 have nw:∀ u o,h.get? u = some o→u∉wr:=fun u o e q=>by rw [(hw u q).1] at e; exact aq e
 have nI:∀ u,ak own ad u→¬u∈wr:=fun u q=>let ⟨o,e,_⟩:=S.owns.low q; nw u o e
 have cel:∀ x a,lk x σ0 = some a→∃ u v,cl.lookup x = some u∧c.env.cells.lookup x = some u∧h.IsCell u (some v)∧Rel W (vw c.U ⟨own,ad,h⟩) v a:=fun x a e=>by
  obtain ⟨e,mx⟩:=F.look x a e
  obtain ⟨_,e',hk⟩:=F.has x mx
  obtain ⟨u,v,hu,i,r⟩:=(S.loc x a e).cell c.es hk
  obtain ⟨u',hu'⟩:=P.has x mx
  have:=(P.sub x u' hu').1
  rw [hu] at this; obtain rfl:=Option.some.inj this
  exact ⟨u,v,hu',hu,i,r⟩
 have celB:∀ x u,cl.lookup x = some u→∃ o,(aP (ak own ad) h).get? u = some o:=fun x u e=>by
  have e:=(P.sub x u e).1
  obtain ⟨_,o,i,_⟩:=S.cls x u e
  exact ⟨o,a0.mpr ⟨i,S.nC e⟩⟩
 have names:∀ x k,lk x (bW scope sc.sc).names = some k→∃ k',yl scope x k':=fun x k e=>by
  rw [show lk x (bW scope sc.sc).names = _ from rj (rh sc.sc)] at e
  cases q:lk x scope.names with
  | none=>rw [q] at e; exact aq e
  | some k'=>exact ⟨k',S0.name x k' (fu q)⟩
 have es':(compEnvC scope cl (D + 1) c.env).scope = bW scope sc.sc:=by rw [← c.es]; exact (GB scope c.env c.K).symm
 have K':eU (compEnvC scope cl (D + 1) c.env):=⟨by rw [es']; exact S0.kind,c.K.globals,c.K.builtins,fun x q=>by
  rw [es'] at q
  obtain ⟨k,e⟩:=Option.ne_none_iff_exists'.mp q
  rw [← cQ] at e
  obtain ⟨_,f⟩:=names x k e
  exact ⟨f.dbg,f.cls⟩,fun a b q q' z=>by rw [es',GC,S0.lam] at z; exact aq z⟩
 let c':ai W d ⟨bW scope sc.sc,false⟩:={ A:=c.A,env:=compEnvC scope cl (D + 1) c.env,h₀:=aP (ak own ad) h,X:=c.U,B:=(· = D + 1),ad:=ad ++ [D],a:=c.a,K:=K',es:=es',G:=(au.hide S.Gp fun u z=>⟨S.owns.top u z,S.owns.low z⟩),out:=(fun u hu=>let ⟨o,e⟩:=S.gh hu; ⟨o,a0.mpr ⟨e,fun z=>S.owns.nU z hu⟩⟩),base:=rfl,cls:=(fun x u e=>.inr (celB x u e)),cel:=nofun,top:=nofun }
 have hk:ag (aP (ak own ad) h) (aP (ak own ad) h2):=ag.fB (ag.dO.trans k2) fun u z=>⟨fy (.inl z),(S.owns.low z).keep k2⟩
 have N:Inner c' (aP (ak own ad) h2) (fun u=>u∈wr∨c.U u) (ad ++ [D]) wr:=⟨fun _ _ e=>e,c'.G.trans hk,hk,fun _=>.inr,fun u q=>by
  rcases q with q | q
  ·obtain ⟨o,e⟩:=(hw u q).2; exact ⟨o,a0.mpr ⟨e,fun z=>nI _ z q⟩⟩
  ·obtain ⟨o,e⟩:=c'.out u q; exact hk.ex id e,fun u q=>⟨.inl q,fy (.inr (hw u q).1)⟩,fun x u e=>⟨fun q=>(by obtain ⟨o,e⟩:=celB x u e; rw [fy (.inr (hw u q).1)] at e; exact aq e),.inr (let ⟨o,e⟩:=celB x u e; hk.ex id e)⟩⟩
 have hz:∀ u,u = D + 1∨ak (own ++ [pv]) (ad ++ [D]) u→h2.get? u = none∨ak own ad u:=fun u q=>q.elim (fun q=>.inl (by rw [q]; exact hC)) fun q=>(pr u q).imp (fun q=>by rw [q]; exact hD) id
 have l:(vw c.U ⟨own,ad,h⟩).Le (vw N.cx.U ⟨own ++ [pv],ad ++ [D],h4⟩):=⟨kk.sub fun b o e n=>⟨id,fun q=>by
  obtain ⟨o2,e2⟩:=k2.ex id e
  rcases q with ((q | q) | q) | q
  ·exact nw _ _ e q
  ·exact n (.inl q)
  ·exact (hz b (.inl q)).elim (fun w=>by rw [e2] at w; exact c5 w) fun w=>n (.inr w)
  ·exact (hz b (.inr q)).elim (fun w=>by rw [e2] at w; exact c5 w) fun w=>n (.inr w)⟩,fC⟩
 have fr:∀ u,u = D + 1∨ak (own ++ [pv]) (ad ++ [D]) u→(aP (ak own ad) h2).get? u = none:=fun u q=>fy ((hz u q).symm)
 have xD:∀ u,(u = D∨u = D + 1)→¬c.U u:=fun u q z=>by
  obtain ⟨_,e⟩:=S.gh z
  obtain ⟨_,e⟩:=k2.ex id e
  rcases q with q | q
  ·rw [q,hD] at e; exact aq e
  ·rw [q,hC] at e; exact aq e
 have dI:D∉wr:=fun q=>by obtain ⟨o,e⟩:=(hw D q).2; rw [hD] at e; exact aq e
 have apD:¬ak own ad D:=fun q=>by obtain ⟨o,e,_⟩:=S.owns.low q; obtain ⟨_,e⟩:=k2.ex id e; rw [hD] at e; exact aq e
 refine ⟨c',N,⟨rfl,rfl,rfl,rfl,rfl,rfl⟩,rfl,⟨fun _ _ e=>e,ag.dO.trans k4,⟨by simp [len],fun n qv a z=>?_,fun n t e=>?_,fun n k qv rv a z y=>?_,fun u z=>(pr u z).elim (fun q=>q▸(S.Gp.trans k2).gone hD) (S.owns.top u)⟩,fun u z=>fr u (.inr z),fun u q=>⟨fr u (.inl q),q▸.ns hn⟩,⟨m,hn⟩,fun x u e=>?_,fun x a e=>?_⟩,l,hz⟩
 ·rcases z.push len with ⟨_,rfl,rfl⟩ | z
  ·exact ⟨fun q=>q.elim (fun q=>q.elim dI (xD _ (.inl rfl))) fun q=>Nat.ne_of_lt (Nat.lt_succ_self _) q,lob,hDo,hp _⟩
  ·refine af fun nG=>?_
   obtain ⟨nU,o,e,r⟩:=S.owns.obj _ _ _ z
   refine nG ?_
   exact ⟨fun q=>q.elim (fun q=>q.elim (nI _ ⟨n,qv,z⟩) nU) fun q=>(by obtain ⟨_,e⟩:=k2.ex id e; rw [q,hC] at e; exact aq e),o,kk.gg e r.soft.2,r.mono l⟩
 ·rcases jV e with ⟨_,e⟩ | e
  ·rw [← e] at hl; exact aR hl
  ·obtain ⟨a,e,r⟩:=S.owns.fz n t e; exact ⟨a,fC _ _ e,r.mono l⟩
 ·rcases z.push len with ⟨z,_,x⟩ | z<;>rcases y.push len with ⟨y,_,w⟩ | y
  ·rw [z,y]
  ·exact absurd ⟨_,_,x▸y⟩ apD
  ·exact absurd ⟨_,_,w▸z⟩ apD
  ·exact S.owns.inj _ _ _ _ _ z y
 ·refine af fun nG=>?_
  have e:=(P.sub x u e).1
  obtain ⟨v,i⟩:=S.cls x u e
  refine nG ?_
  exact ⟨v,kk.cell id i⟩
 ·refine af fun nG=>?_
  obtain ⟨u,v,hu,_,i,r⟩:=cel x a e
  obtain ⟨_,mx⟩:=F.look x a e
  refine nG ?_
  have f:=S0.name x _ mx
  refine .cel ?_ f.cls hu (kk.cell id i) (r.mono l)
  show (compEnvC scope cl (D + 1) c.env).scope.names.lookup x = _∨(compEnvC scope cl (D + 1) c.env).scope.names.lookup x = _
  rw [es',← cQ,show lk x (bW scope sc.sc).names = _ from rj (rh sc.sc),f.look]
  show some (fH sc.sc (x,.free)).2 = _∨some (fH sc.sc (x,.free)).2 = _
  unfold fH
  split
  ·exact .inl rfl
  ·exact .inr rfl
theorem GI {scope:Scope} {ad ad':List Addr} {h h' h5:Heap} {D:Addr} {c':ai W d ⟨bW scope sc.sc,false⟩} (C:kB c scope own ad h D c') (S':SV c' σ1 ⟨own2,ad',h'⟩) (s:Heap.SameBut (D + 1) h' h5) (hn:bz h' (D + 1)) (hz:h.get? (D + 1) = none):After W c.U ⟨own,ad,h⟩ ⟨own2,ad',h5⟩:=by
 have kx:=au.one hn s
 have O:=((S'.owns.mI (.inr (by rw [C.B])) kx).1.less (U:=c.U) fun u q=>.inl (by rw [C.X]; exact q)).1
 have k:=S'.leave (p:=⟨own,ad,h⟩) C.h (by rw [C.ad]; exact fC)
 exact ⟨k.ad,k.keep.dD kx fun u q=>fy (.inr (q▸hz)),k.new,O⟩
structure CompEnd (c:ai W d sc) (scope:Scope) (σ σ1:ao) (own own1 own2:Own) (ad:List Addr) (s:Shared) (D:Addr) (h':Heap) (ad':List Addr):Prop where
 ex:∃ ad1 h1 c',SV c σ ⟨own1,ad1,h1⟩∧After W c.U ⟨own,ad,s.heap⟩ ⟨own1,ad1,h1⟩∧kB c scope own1 ad1 h1 D c'∧SV c' σ1 ⟨own2,ad',h'⟩∧h1.get? (D + 1) = none∧ad'[own1.length]? = some D
theorem yn {elt t it:Expr} {ifs:List Expr} {gs:List Comprehension} {scope:Scope} {x:AV} {as:List AV} (S0:ky scope) (F:kA sc.sc σ scope.names σ0) (hni:iZ it) (hx:aj c σ own (eval it c.env) x own1) (he:elems x = some as)
  (L:∀ c':ai W d ⟨bW scope sc.sc,false⟩,AccAt own1.length c'→cI c' t (fun i=>.compLoop (.ListComp elt (⟨t,it,ifs,0⟩::gs) scope pos) 0 i (ef c'.env) c'.env) σ0 (own1 ++ [.lst []]) as (.next σ1 own2)) {s:Shared} {ad:List Addr} {Q:Value→Shared→Prop} {E:Value→Shared→Prop} (S:SV c σ ⟨own,ad,s.heap⟩) {use:Option (Value→Sem Unit)}
  (G:∀ D h' tk ad',CompEnd c scope σ σ1 own own1 own2 ad s D h' ad'→compPost (model pg W.w) c.A E use Q (.ref D) (D + 1) (.ok .next) (mv s h' tk)):aw W c.A (comprehension (.ListComp elt (⟨t,it,ifs,0⟩::gs) scope pos) scope c.env (firstIterPos (⟨t,it,ifs,0⟩::gs) pos) (newList []) false (firstIter (⟨t,it,ifs,0⟩::gs) c.env) use) Q E s:=by
 refine af fun nG=>?_
 have cells:∀ {p:Pt},SV c σ p→∀ x,(x,NameKind.free)∈scope.names→∃ u,c.env.cells.lookup x = some u:=fun S x m=>by
  obtain ⟨a,ha,hk⟩:=F.has x m
  obtain ⟨u,_,e,_⟩:=(S.loc x a ha).cell c.es hk
  exact ⟨u,e⟩
 obtain ⟨cl,P⟩:=rq (scope:=scope) (env:=c.env) (cells S)
 refine nG ?_
 refine wpAny_comprehension_free (g:=⟨t,it,ifs,0⟩) (gs:=gs) rfl (hni _) P.run S0.kind (fun p m e=>by have:=(S0.name p.1 p.2 m).look; rw [cQ,e] at this; exact this) ?_
 refine hx s ad _ _ S fun xv h1 t1 a1 k1 r1=>?_
 have S1:=S.after k1
 refine q8 (s:=mv s h1 t1) (t:=t) c.a.handled he r1 ⟨fun {h2 I fp n P' Md St Els fl wr tk} k0 Wk hw hfp st els self=>?_⟩
 refine wpAny_newObj_type (wpAny_newFunctionEnv (fun y hy=>(S0.name y.1 y.2 hy).nc) (fun y hy=>(List.not_mem_nil hy).elim) (fun h4 hns4 hsb4=>?_) S0.kind)
 generalize hDz:(Shared.heap { (mv s h1 t1) with heap:=h2,toks:=tk }).objs.size = D at *
 generalize hCz:((Shared.heap { (mv s h1 t1) with heap:=h2,toks:=tk }).push { cls:=Value.type "list",data:=Data.seq #[] }).objs.size = C at *
 replace hDz:h2.objs.size = D:=hDz
 have hC:C = D + 1:=by rw [← hCz,Heap.size_push]; exact congrArg (· + 1) hDz
 subst hC
 show codeAny _ _ (.compStart _ 0 (.ref I) (.ref D) (compEnvC scope cl (D + 1) c.env)) _ (mv s h4 _)
 refine af fun nG=>?_
 have n2:∀ u,D≤u→h2.get? u = none:=fun u hu=>by
  cases q:h2.get? u with
  | none=>rfl
  | some o=>exact absurd (Heap.lt_size q) (by rw [hDz]; exact Nat.not_lt.mpr hu)
 have o24:∀ b o,h2.get? b = some o→h4.get? b = some o:=fun b o q=>(hsb4.2 b fun z=>by rw [n2 b (z▸Nat.le_succ D)] at q; exact aq q).trans (Heap.get?_push_of_some _ (Heap.get?_push_of_some _ q))
 have hDo:h4.get? D = some (bl [] 0):=(hsb4.2 D (Nat.ne_of_lt (Nat.lt_succ_self D))).trans (Heap.get?_push_of_some _ (hDz▸Heap.get?_push_size _ rfl))
 obtain ⟨c',N,C,ec,SV1,le,hz⟩:=GF (h2:=h2) (pv:=.lst []) S0 F P S1 k0 (fun u q=>⟨hw u q,let ⟨o,e,_⟩:=Wk.low _ _ st u (Wk.fl u (Wk.k.sub u q)); ⟨o,e⟩⟩) (.of o24) (n2 D (Nat.le_refl D)) (n2 _ (Nat.le_succ D)) hDo rfl (fun V=>.mk (show ah W V [] [] from rfl)) hns4
 refine nG ?_
 have st4:St 0 h4:=Wk.k.frame _ _ _ st fun b hb o q=>o24 b o q
 have hC1:h1.get? (D + 1) = none:=(ag.of k0).gone (n2 _ (Nat.le_succ D))
 have run:=(L c' (by show c'.ad[_]? = some (c'.env.locals - 1); rw [C.ad,C.loc,← S1.owns.len]; exact iO)).run (by rw [C.A]; exact Wk) N (s:=mv s h4 (tk + 0)) (i:=0) (R:=compPost (model pg W.w) c.A E use Q (.ref D) (D + 1)) SV1 st4 (els _ le) (fun b hb=>by
   obtain ⟨o,w,_⟩:=Wk.low _ _ st b hb
   have nb:¬(b = D + 1∨ak (own1 ++ [.lst []]) (a1 ++ [D]) b):=fun q=>(hz b q).elim (fun z=>by rw [z] at w; exact aq w) fun z=>(hfp b hb).elim (fun q=>by obtain ⟨o,e,_⟩:=S1.owns.low z; rw [show h1.get? b = none from q] at e; exact aq e) fun q=>q (.inr z)
   exact ⟨fun q=>nb (.inl (by rw [C.B] at q; exact q)),fun q=>nb (.inr q)⟩) (fun h' tk ad' S'=>G D h' tk ad' ⟨a1,h1,c',S1,k1,C,S',hC1,S'.pre _ _ (by rw [C.ad,← S1.owns.len]; exact iO)⟩)
 rw [C.A,ec] at run
 exact yh (fun _ _=>rfl) (fun _=>rfl) rfl rfl run (self 0 _ _ _ st4 run)
theorem yo {elt t it:Expr} {ifs:List Expr} {gs:List Comprehension} {scope:Scope} {x:AV} {as:List AV} (S0:ky scope) (F:kA sc.sc σ scope.names σ0) (hni:iZ it) (hx:aj c σ own (eval it c.env) x own1) (he:elems x = some as)
  (L:∀ c':ai W d ⟨bW scope sc.sc,false⟩,AccAt own1.length c'→cI c' t (fun i=>.compLoop (.ListComp elt (⟨t,it,ifs,0⟩::gs) scope pos) 0 i (ef c'.env) c'.env) σ0 (own1 ++ [.lst []]) as (.next σ1 own2)):aj c σ own (eval (.ListComp elt (⟨t,it,ifs,0⟩::gs) scope pos) c.env) (.loc own1.length) own2:=fun s ad Q E S G=>
 yn S0 F hni hx he L S (use:=none) fun D h' tk ad' Z=>by
  refine af fun nG=>?_
  obtain ⟨ad1,h1,c',S1,k1,C,S',hC1,hD⟩:=Z
  obtain ⟨m,hm⟩:=S'.ns
  refine nG ?_
  rw [C.loc] at hm
  exact ⟨m,hm,fun h5 s5=>G _ h5 tk ad' (k1.trans (GI C S' s5 (.ns hm) hC1)) (.mk hD)⟩
theorem kB.inner {scope:Scope} {ad ad':List Addr} {h h':Heap} {D:Addr} {c':ai W d ⟨bW scope sc.sc,false⟩} (C:kB c scope own ad h D c') (S:SV c σ ⟨own,ad,h⟩) (S':SV c' σ1 ⟨own2,ad',h'⟩) (hz:h.get? (D + 1) = none):∃ (h₁:Heap) (X':AS) (N:Inner c h₁ X' ad' [D + 1]),SV N.cx σ ⟨own2,ad',h'⟩∧∃ m,h₁.Ns (D + 1) m:=by
 refine af fun nG=>?_
 obtain ⟨A',env',h0',X1,B1,ad0',a',K',es',G',out',yp,cls',cel'⟩:=c'
 obtain ⟨rfl,rfl,rfl,rfl,el,rfl⟩:=C
 have K:ag (aP (ak own ad) h) h':=S'.keep
 have fr:∀ u,ak own2 ad' u→(aP (ak own ad) h).get? u = none:=S'.new
 have k0:ag c.h₀ (aP (ak own ad) h):=S.keep.fB fun u z=>⟨S.new u z,S.owns.low z⟩
 have lo:∀ u,c.B u∨ak own2 ad' u→c.h₀.get? u = none∧bz h' u:=fun u q=>q.elim (fun q=>⟨(S.low u q).1,let ⟨o,e,t⟩:=(S.low u q).2; bz.keep ⟨o,a0.mpr ⟨e,S.nB q⟩,t⟩ K⟩) fun q=>⟨k0.gone (fr u q),S'.owns.low q⟩
 have kk:ag c.h₀ (aP (fun u=>c.B u∨ak own2 ad' u) h'):=ag.fB (k0.trans K) lo
 obtain ⟨m,hm⟩:=S'.ns
 refine nG ?_
 replace hm:h'.Ns (D + 1) m:=el▸hm
 have nC:¬(c.B (D + 1)∨ak own2 ad' (D + 1)):=fun q=>q.elim (fun q=>by obtain ⟨o,e,_⟩:=(S.low _ q).2; rw [hz] at e; exact aq e) (S'.nB (show (D + 1:Addr) = D + 1 from rfl))
 have hm':=jW (P:=fun u=>c.B u∨ak own2 ad' u) nC hm
 have pre:Pre ad ad':=fun n a e=>S'.pre n a (fC _ _ e)
 have N:Inner c (aP (fun u=>c.B u∨ak own2 ad' u) h') (fun u=>u = D + 1∨c.X u) ad' [D + 1]:=⟨fun n a e=>pre n a (S.pre n a e),c.G.trans kk,kk,fun _=>.inr,fun u q=>by
  rcases q with rfl | q
  ·obtain ⟨o,_,_,e,_⟩:=hm'; exact ⟨o,e⟩
  ·obtain ⟨o,e⟩:=c.out u q; exact kk.ex id e,fun u q=>by rw [List.mem_singleton.mp q]; exact ⟨.inl rfl,S.keep.gone hz⟩,fun x a e=>⟨fun q=>(by obtain ⟨_,o,e,_⟩:=S.cls x a e; rw [List.mem_singleton.mp q,hz] at e; exact aq e),(c.cls x a e).imp id fun ⟨o,e'⟩=>kk.ex id e'⟩⟩
 have le:(vw c.U ⟨own,ad,h⟩).Le (vw N.cx.U ⟨own2,ad',h'⟩):=⟨fun b o ⟨e,s,n⟩=>have v:=a0.mpr ⟨e,fun q=>n (.inr q)⟩; ⟨K.get v s,s,fun q=>by
  rcases q with ((q | q) | q) | q
  ·rw [q,hz] at e; exact aq e
  ·exact n (.inl (.inl q))
  ·exact n (.inl (.inr q))
  ·rw [fr b q] at v; exact aq v⟩,pre⟩
 exact ⟨_,_,N,⟨fun _ _ e=>e,ag.dO,(S'.owns.less (U:=N.cx.U) fun u q=>q.elim (fun q=>q.elim .inr fun q=>.inl (.inl q)) fun q=>.inl (.inr q)).1,fun u q=>iJ (.inr q),fun u q=>⟨iJ (.inl q),(lo u (.inl q)).2⟩,let ⟨m,n⟩:=S.ns; ⟨m,K.ns id (jW (S.nB c.base) n)⟩,fun x u e=>let ⟨v,i⟩:=S.cls x u e; ⟨v,K.cell id (mH (S.nC e) i)⟩,fun x a e=>(S.loc x a e).mv (fun _ n=>K.ns id (jW (S.nB c.base) n)) (fun u _ e i=>K.cell id (mH (S.nC e) i)) le⟩,m,hm'⟩
theorem az.comp {σ':ao} {y:Str} {py cpos:Pos} {elt t it:Expr} {ifs:List Expr} {gs:List Comprehension} {scope:Scope} {x:AV} {as:List AV} (hsw:swapsWith (.ListComp elt (⟨t,it,ifs,0⟩::gs) scope cpos) (some (.Name y py)) pos.line c.env = pure true) (S0:ky scope) (F:kA sc.sc σ scope.names σ0) (hni:iZ it) (hx:aj c σ own (eval it c.env) x own1) (he:elems x = some as)
  (L:∀ c':ai W d ⟨bW scope sc.sc,false⟩,AccAt own1.length c'→cI c' t (fun i=>.compLoop (.ListComp elt (⟨t,it,ifs,0⟩::gs) scope cpos) 0 i (ef c'.env) c'.env) σ0 (own1 ++ [.lst []]) as (.next σ1 own2)) (hb:iU sc y (.loc own1.length) σ σ'):az c σ own (exec (.Assign [.Name y py] (.ListComp elt (⟨t,it,ifs,0⟩::gs) scope cpos) pos) c.env) (.next σ' own2):=fun s ad Q E S T=>by
 rw [exec_Assign_Name_used _ _ _ _ hsw]
 refine wpAny_bind (wpAny_standAt (wpAny_bind ?_))
 show wpAny _ _ (comprehension (.ListComp elt (⟨t,it,ifs,0⟩::gs) scope cpos) scope c.env (firstIterPos (⟨t,it,ifs,0⟩::gs) cpos) (newList []) false (firstIter (⟨t,it,ifs,0⟩::gs) c.env) (some (PySem.assign (.Name y py) c.env)) >>= _) _ _ _
 refine wpAny_bind (wpAny_mono (yn S0 F hni hx he L S (use:=some (PySem.assign (.Name y py) c.env)) (Q:=fun _ s'=>Q .next s') (E:=E) fun D h' tk ad' Z=>?_) (fun _ s' hq=>wpAny_pure (wpAny_pure hq)) fun _ _ e=>e)
 refine af fun nG=>?_
 obtain ⟨ad1,h1,c',S1,k1,C,S',hC1,hD⟩:=Z
 obtain ⟨h₁,X',N,SN,m,hm⟩:=C.inner S1 S' hC1
 refine nG ?_
 show wpAny _ _ (PySem.assign (.Name y py) c.env (.ref D)) _ _ _
 exact assign_Name (hb (c:=N.cx) (s:=mv s h' tk) SN (.mk hD) fun h2 t2 S2 _=>by
  have hm2:=S2.keep.ns id hm
  refine ⟨m,hm2,fun h5 s5=>T h5 t2 ad' (N.up S2 (au.one (.ns hm2) s5) (fun u q z=>?_) (fun x a e q=>(N.cls x a e).1 (List.mem_singleton.mpr q)) fun u z=>(N.it u (List.mem_singleton.mpr z)).symm)⟩
  refine af fun nG=>?_
  obtain ⟨o,_,_,w,_⟩:=hm
  refine nG ?_
  have f:h₁.get? u = none:=q.elim (fun q=>(S2.low u q).1) (S2.new u)
  rw [z,w] at f; exact c5 f)
end
noncomputable def aT (own:Own) (a:AV) (own':Own) (b:AV):Prop:=∀ {W:ab} {U:AS} {ad:List Addr} {h:Heap},aN W U ⟨own,ad,h⟩→After W U ⟨own,ad,h⟩ ⟨own',ad,h⟩∧∀ v,Rel W (vw U ⟨own,ad,h⟩) v a→Rel W (vw U ⟨own',ad,h⟩) v b
theorem aT.refl {own:Own} {a:AV}:aT own a own a:=fun O=>⟨O.refl,fun _ r=>r⟩
theorem aN.GJ {W:ab} {U:AS} {p:Pt} (O:aN W U p) {n:Nat} {pv pv':PV} {a:Addr} (z:At p.own p.ad n pv a) (hl:live pv' = false):¬ak (p.own.set n pv') p.ad a:=fun ⟨m,qv,y⟩=>by
 rcases qm y.own with ⟨_,e⟩ | ⟨x,e⟩
 ·have:=y.live; rw [e,hl] at this; exact aR this
 ·exact x (O.inj _ _ _ _ _ ⟨e,y.live,y.ad⟩ z)
theorem aN.rt {W:ab} {U:AS} {p:Pt} (O:aN W U p) {n:Nat} {pv pv':PV} {a:Addr} (z:At p.own p.ad n pv a) (hl:live pv' = false) (hr:∀ t,pv' = .froz t→∀ V,(vw U p).Le V→V.ad = p.ad→V.g = aD (fun u=>U u∨ak (p.own.set n pv') p.ad u) p.h→(∀ o,p.h.get? a = some o→soft o = false→V.g a o)→Rel W V (.ref a) t):After W U p ⟨p.own.set n pv',p.ad,p.h⟩:=by
 refine af fun nG=>?_
 obtain ⟨nu,o,e,r⟩:=O.obj _ _ _ z
 refine nG ?_
 refine O.put z ⟨rfl,fun _ _=>rfl⟩ (fun _=>rfl) fun V le ea hg=>⟨fun q=>(by rw [hl] at q; exact aR q),fun t ht=>?_⟩
 refine af fun nG=>?_
 obtain ⟨eg,ng⟩:=hg hl
 refine nG ?_
 exact hr t ht V le ea eg fun o e s=>by rw [eg]; exact ⟨e,s,ng⟩
theorem aT.one {own:Own} {n:Nat} {pv:PV} {t:AV} (h:own[n]? = some pv) (hl:live pv = true) (hr:∀ {W:ab} {V:Vw} {a:Addr} {o:Obj},d3 W V a o pv→V.g a o→Rel W V (.ref a) t):aT own (.loc n) (own.set n (.froz t)) t:=fun {W U ad hp} O=>by
 refine af fun nG=>?_
 obtain ⟨a,ea⟩:∃ a,ad[n]? = some a:=⟨_,List.getElem?_eq_getElem (by rw [O.len]; exact (List.getElem?_eq_some_iff.mp h).1)⟩
 have z:At own ad n pv a:=⟨h,hl,ea⟩
 obtain ⟨nu,o,eo,pr⟩:=O.obj _ _ _ z
 refine nG ?_
 have k:=O.rt z (pv':=.froz t) rfl fun t' ht V le _ _ hg=>by cases ht; exact hr (pr.mono le) (hg _ eo pr.soft.1)
 refine ⟨k,fun v r=>?_⟩
 refine af fun nG=>?_
 obtain ⟨e⟩:=r
 obtain ⟨a',e',r⟩:=k.owns.fz n t (by rw [List.getElem?_set_self (List.getElem?_eq_some_iff.mp h).1])
 refine nG ?_
 cases e.symm.trans e'
 exact r
theorem aT.told {own:Own} {n:Nat} {t:AV} (h:own[n]? = some (.froz t)):aT own (.loc n) own t:=fun O=>⟨O.refl,fun v r=>by
 obtain ⟨e⟩:=r
 obtain ⟨a,e',r⟩:=O.fz n t h
 cases e.symm.trans e'
 exact r⟩
set_option tactic.hygienic true in
theorem aT.obj {own:Own} {n m:Nat} {C:Addr} {fs:List (Str×AV)} (h:own[n]? = some (.obj C m)) (h':own[m]? = some (.fld fs)):aT own (.loc n) ((own.set m .gone).set n (.froz (.inst C fs))) (.inst C fs):=fun {W U ad hp} O=>by
 refine af fun nG=>?_
 have nm:m≠n:=fun q=>by rw [q,h] at h'; cases h'
 obtain ⟨a,ea⟩:∃ a,ad[n]? = some a:=⟨_,List.getElem?_eq_getElem (by rw [O.len]; exact (List.getElem?_eq_some_iff.mp h).1)⟩
 have z:At own ad n (.obj C m) a:=⟨h,rfl,ea⟩
 obtain ⟨nu,o,eo,pr⟩:=O.obj _ _ _ z
 obtain ⟨ed⟩:=pr
 rename_i dx
 have z':At own ad m (.fld fs) dx:=⟨h',rfl,ed⟩
 obtain ⟨nu',o',eo',pr'⟩:=O.obj _ _ _ z'
 refine nG ?_
 have k1:=O.rt z' (pv':=.gone) rfl fun t ht=>nomatch ht
 have z1:At (own.set m .gone) ad n (.obj C m) a:=⟨by rw [List.getElem?_set_ne nm]; exact h,rfl,ea⟩
 have np:=O.GJ z' (pv':=.gone) rfl
 have k2:=k1.owns.rt z1 (pv':=.froz (.inst C fs)) rfl fun t ht V le _ _ hg=>by
  cases ht
  obtain ⟨rl⟩:=pr'
  exact .mk (hg _ eo rfl) (le.g _ _ ⟨eo',rfl,fun q=>q.elim nu' np⟩) ((rl.mono k1.view).mono le)
 refine ⟨k1.trans k2,fun v r=>?_⟩
 refine af fun nG=>?_
 obtain ⟨e⟩:=r
 obtain ⟨a',e',r⟩:=k2.owns.fz n (.inst C fs) (by rw [List.getElem?_set_self (by rw [List.length_set]; exact (List.getElem?_eq_some_iff.mp h).1)])
 refine nG ?_
 cases e.symm.trans e'
 exact r
noncomputable def GK (own:Own) (n:Nat) (pv:PV) (h:own[n]? = some pv):{ r:AV×Own // aT own (.loc n) r.2 r.1 }:=match pv,h with
 | .froz t,h=>⟨(t,own),aT.told h⟩
 | .lst l,h=>⟨(.lst l,own.set n (.froz (.lst l))),aT.one h rfl fun r g=>by obtain ⟨rl⟩:=r; exact .mk g rl⟩
 | .dicS l,h=>⟨(.dicS l,own.set n (.froz (.dicS l))),aT.one h rfl fun r g=>by obtain ⟨ns,kvs,d,rl⟩:=r; exact .mk g ns d rl⟩
 | .dicI l,h=>⟨(.dicI l,own.set n (.froz (.dicI l))),aT.one h rfl fun r g=>by obtain ⟨ns,kvs,d,rl⟩:=r; exact .mk g ns d rl⟩
 | .obj C m,h=>(match ow own m with
  | some ⟨.fld fs,h'⟩=>⟨(.inst C fs,(own.set m .gone).set n (.froz (.inst C fs))),aT.obj h h'⟩
  | _=>⟨(.loc n,own),aT.refl⟩)
 | _,_=>⟨(.loc n,own),aT.refl⟩
noncomputable def settle (own:Own) (a:AV):{ r:AV×Own // aT own a r.2 r.1 }:=match a with
 | .loc n=>(match ow own n with
  | some ⟨pv,h⟩=>GK own n pv h
  | none=>⟨(.loc n,own),aT.refl⟩)
 | a=>⟨(a,own),aT.refl⟩
noncomputable def GL (own:Own) (a:AV):{ b:AV // aT own a own b }:=match a with
 | .loc n=>(match ow own n with
  | some ⟨.froz t,h⟩=>⟨t,aT.told h⟩
  | _=>⟨.loc n,aT.refl⟩)
 | a=>⟨a,aT.refl⟩
noncomputable def fL {α:Type} (l:List α):{ m:List α // m = l }:=List.rec (motive:=fun l=>{ m:List α // m = l }) ⟨[],rfl⟩ (fun a l ih=>Subtype.rec (motive:=fun _=>{ m:List α // m = a::l }) (fun m h=>⟨a::m,congrArg (a::·) h⟩) ih) l
theorem aj.hV {W:ab} {d:Nat} {sc:Fs} {c:ai W d sc} {σ:ao} {own own1 own2:Own} {t:Sem Value} {a b:AV} (h:aj c σ own t a own1) (f:aT own1 a own2 b):aj c σ own t b own2:=fun s ad Q E S F=>
 h s ad Q E S fun v h' tk ad' k r=>let ⟨k2,r2⟩:=f k.owns; F v h' tk ad' (k.trans k2) (r2 v r)
end Mine
end
section
open PySem PySem.W PyProof.Rows PySem.Calls
namespace Mine
noncomputable abbrev nx (sc:Scope) (x:Str):Bool:=cX sc x .local
noncomputable def kC (sc:Scope) (ts:List Expr):List Str:=ts.filterMap fun
 | .Name id pos=>if (nx sc id && pos.line == (ts.head?.map (·.pos.line)).getD 0) = true then some id else none
 | _=>none
noncomputable def nz (sc:Scope) (ts vs:List Expr):Option (Option (List Str)):=
 if (!(ts.length == 2 || ts.length == 3) || vs.length != ts.length) = true then some none
 else if (vs.any fun | .Starred ..=>true | _=>false) = true then some none
 else if ((kC sc ts).length != ts.length || (kC sc ts).eraseDups.length != (kC sc ts).length) = true then some none
 else if vs.all (foldedForSure 8) = true then some none
 else if vs.all (constantsAlone 8) = true then none
 else some (some (kC sc ts))
noncomputable def rowOf (e:Expr):List Expr:=match e with
 | .Tuple es _ _=>es
 | _=>[]
section
variable {W:ab} {d:Nat} {sc:Fs} {c:ai W d sc} {σ σ':ao} {own own1:Own} {pos:Pos}
theorem yq (c:ai W d sc) (x:Str):nx sc.sc x = (c.env.kindOf x == some .local):=by
 unfold nx cX
 rw [cQ,← c.es]
 show _ = (c.env.scope.names.lookup x == some .local)
 cases c.env.scope.names.lookup x<;>rfl
theorem yr {α:Type} {p:Prop} [Decidable p] {a b c:α} {R:Prop} (h:(if p then a else b) = c) (h1:p→a = c→R) (h2:¬p→b = c→R):R:=by
 by_cases q:p
 ·rw [if_pos q] at h; exact h1 q h
 ·rw [if_neg q] at h; exact h2 q h
theorem yt (c:ai W d sc) {ts vs:List Expr} {k k2:Nat} {tp p2:Pos} {r:Option (List Str)} (h:nz sc.sc ts vs = some r):swappedStores [.Tuple ts k tp] (.Tuple vs k2 p2) c.env = pure r:=by
 have hb:(c.env.blockKind != ScopeKind.function) = false:=by
  unfold Env.blockKind; rw [c.K.kind]; rfl
 unfold nz at h
 simp only [kC,yq c] at h
 unfold swappedStores
 dsimp only
 rw [hb,Bool.or_false]
 iterate 4
  refine yr h ?_ ?_
  ·intro q e; exact Eq.trans (if_pos q) (congrArg _ (Option.some.inj e))
  clear h
  intro q h
  refine Eq.trans (if_neg q) ?_
  clear q
 refine yr h (fun _ e=>aq e) fun q h=>?_
 exact Eq.trans (if_neg q) (congrArg _ (Option.some.inj h))
theorem ah.rev {V:Vw}:∀ {as:List AV} {vs:List Value},ah W V vs as→ah W V vs.reverse as.reverse
 | [],_,r=>by obtain rfl:=r; rfl
 | _::_,_,r=>by obtain ⟨h,r⟩:=r; rw [List.reverse_cons,List.reverse_cons]; exact r.rev.append (.cons h (show ah W V [] [] from rfl))
noncomputable def yu (sc:Fs) (xs:List Str) (as:List AV) (σ σ':ao):Prop:=∀ {W:ab} {d} {c:ai W d sc} {own ad s vs} {Q:Unit→Shared→Prop} {E:Value→Shared→Prop},SV c σ ⟨own,ad,s.heap⟩→ah W (vw c.U ⟨own,ad,s.heap⟩) vs as→(∀ h' tk,SV c σ' ⟨own,ad,h'⟩→Q () (mv s h' tk))→aw W c.A (assignInOrder (xs.map fun n=>bindName c.env n) vs) Q E s
noncomputable def yv (sc:Fs):(xs:List Str)→(as:List AV)→(σ:ao)→Option { σ':ao // yu sc xs as σ σ' }
 | [],[],σ=>some ⟨σ,fun {_ _ _ _ _ s _ _ _} S rl G=>rl▸wpAny_pure (G s.heap s.toks S)⟩
 | x::xs,a::as,σ=>(match j9 sc x a σ with
  | some r=>(match yv sc xs as r.1 with
   | some q=>some ⟨q.1,fun S rl G=>by
    obtain ⟨rv,rl⟩:=rl
    exact wpAny_assignInOrder_more (wpAny_bindName (r.2 S rv fun h1 t1 S1 s1=>q.2 (s:=Mine.mv _ h1 t1) S1 (rl.mono s1) fun h2 t2 S2=>G h2 t2 S2))⟩
   | none=>none)
  | none=>none)
 | _,_,_=>none
theorem az.tup {ts:List Expr} {k:Nat} {tp:Pos} {e:Expr} {as:List AV} (hs:swapsWithSole [.Tuple ts k tp] e pos.line c.env = pure false) (hw:swappedStores [.Tuple ts k tp] e c.env = pure none) (he:aj c σ own (eval e c.env) (.tup as) own1) (hb:fF (.Tuple ts k tp) sc (.tup as) σ σ'):az c σ own (exec (.Assign [.Tuple ts k tp] e pos) c.env) (.next σ' own1):=fun s ad Q E S T=>
 Assign_Tuple (he s ad _ _ S fun v h1 t1 a1 k1 r1=>hb (s:=mv s h1 t1) (S.after k1) (.rel r1) fun h2 t2 S2 _=>T h2 t2 a1 S2) hs hw
set_option tactic.hygienic true in
theorem az.swap {ts vs:List Expr} {k k2:Nat} {tp p2:Pos} {as:List AV} {ns:List Str} (hw:nz sc.sc ts vs = some (some ns)) (hn:Nat.beq ns.length as.length = true) (he:aj c σ own (eval (.Tuple vs k2 p2) c.env) (.tup as) own1) (hb:yu sc ns.reverse as.reverse σ σ'):az c σ own (exec (.Assign [.Tuple ts k tp] (.Tuple vs k2 p2) pos) c.env) (.next σ' own1):=fun s ad Q E S T=>
 Assign_Tuple_swapped (he s ad _ _ S fun v h1 t1 a1 k1 r1=>by
  obtain ⟨hg,rl⟩:=r1
  rename_i T' vals n
  have hl:=rl.length
  rw [Nat.eq_of_beq_eq_true hn,← hl,show vals.length = vals.toArray.size by simp]
  refine unpackItems_tuple (items:=vals.toArray) c.a.handled ⟨_,hg.1,rfl,n,rfl⟩ fun g2 k2=>?_
  have k2:=k1.owns.grow (yd k2)
  exact hb (s:=mv s g2 t1) ((S.after k1).after k2) (rl.mono k2.view).rev fun h3 t3 S3=>T h3 t3 a1 S3) rfl (yt c hw)
end
end Mine
end
section
set_option backward.match.sparseCases false
open PySem PySem.W PyProof.Rows PySem.Calls
set_option maxRecDepth 100000
namespace Mine
open AutoSeq1 (wpAny_loadPart')
noncomputable abbrev Pl (o:Obj):Prop:=soft o = false∧bA o = false
theorem gn {o:Obj} {n:String} (h:o.cls = .type n) (h1:(n == "frame") = false) (h2:(n == "code") = false):Pl o:=by
 unfold Pl soft bA; rw [h]; dsimp only; rw [h1,h2]; exact ⟨rfl,by split<;>rfl⟩
section
variable {prog:Program} {w:World} {A:Around} {E:Value→Shared→Prop} {s:Shared}
theorem GN {it l:Addr} {i:Nat} {items:Array Value} {x:Value} {Q:Value→Shared→Prop} (hit:s.heap.IsTupleIter it l i) (hl:s.heap.IsTuple l items) (hx:items[i]? = some x)
  (hQ:∀ h',h'.IsTupleIter it l (i + 1)→Heap.SameBut it s.heap h'→Q x { s with heap:=h' }):wpAny (model prog w) A (Builtin.SmallTypes.nextOf (.ref it)) Q E s:=by
 refine af fun nG=>?_
 obtain ⟨o,ho,hc,hd⟩:=id hit
 obtain ⟨ol,hol,_,nl,hdl⟩:=hl
 refine nG ?_
 unfold Builtin.SmallTypes.nextOf
 refine wpAny_bind (wpAny_callSpecial?_slot (name:=Str.ofString "__next__") hit.typeIs F.slot_tuple_iterator_next
  (wpAny_call_entry F.slot_tuple_iterator_next hit.typeIs F.entry_tuple_iterator_next ?_ (F.args_tuple_iterator_next_1 _)))
 show wpAny _ _ (field (.ref it) 0 >>= _) _ _ s
 refine wpAny_bind (wpAny_field ho hd (x:=.ref l) rfl ?_)
 show wpAny _ _ (if (Value.ref l == Value.none) = true then _ else _) _ _ s
 rw [if_neg (show ¬ ((Value.ref l == Value.none) = true) from Bool.false_ne_true)]
 show wpAny _ _ (field (.ref it) 1 >>= _) _ _ s
 refine wpAny_bind (wpAny_field ho hd (x:=.int i 0) rfl ?_)
 show wpAny _ _ (seqItems? (.ref l) >>= _) _ _ s
 refine wpAny_bind (wpAny_seqItems hol hdl ?_)
 simp only [Int.toNat_natCast,hx]
 refine wpAny_bind (wpAny_setField ho hd (by simp) (wpAny_pure ⟨x,rfl,wpAny_pure (hQ _ ?_ (Heap.SameBut.update ..))⟩))
 exact ⟨_,Heap.get?_update_self _ ho (Obj.isFreed_of_fields (Obj.data_mapFields hd _)),(Obj.cls_mapFields ..).trans hc,by
  rw [Obj.data_mapFields hd]; simp [rawInt]⟩
theorem GO {it l:Addr} {i:Nat} {items:Array Value} {Q:Value→Shared→Prop} (hh:A.handled = none) (hit:s.heap.IsTupleIter it l i) (hl:s.heap.IsTuple l items) (hx:items[i]? = none)
  (hE:∀ h' e,Heap.ExtBut it s.heap h'→(∃ o,h'.get? e = some o∧o.cls = .type "StopIteration")→E (.ref e) { s with heap:=h' }):wpAny (model prog w) A (Builtin.SmallTypes.nextOf (.ref it)) Q E s:=by
 refine af fun nG=>?_
 obtain ⟨o,ho,hc,hd⟩:=id hit
 obtain ⟨ol,hol,_,nl,hdl⟩:=hl
 refine nG ?_
 unfold Builtin.SmallTypes.nextOf
 refine wpAny_bind (wpAny_callSpecial?_slot (name:=Str.ofString "__next__") hit.typeIs F.slot_tuple_iterator_next
  (wpAny_call_entry F.slot_tuple_iterator_next hit.typeIs F.entry_tuple_iterator_next ?_ (F.args_tuple_iterator_next_1 _)))
 show wpAny _ _ (field (.ref it) 0 >>= _) _ _ s
 refine wpAny_bind (wpAny_field ho hd (x:=.ref l) rfl ?_)
 show wpAny _ _ (if (Value.ref l == Value.none) = true then _ else _) _ _ s
 rw [if_neg (show ¬ ((Value.ref l == Value.none) = true) from Bool.false_ne_true)]
 show wpAny _ _ (field (.ref it) 1 >>= _) _ _ s
 refine wpAny_bind (wpAny_field ho hd (x:=.int i 0) rfl ?_)
 show wpAny _ _ (seqItems? (.ref l) >>= _) _ _ s
 refine wpAny_bind (wpAny_seqItems hol hdl ?_)
 simp only [Int.toNat_natCast,hx]
 refine wpAny_bind (wpAny_rule (wpAny_bind (wpAny_setField ho hd (by simp) ?_)))
 show wpAny _ _ (newExc (.type "StopIteration") [] >>= _) _ _ _
 refine wpAny_bind ?_
 simp only [newExc,newTuple]
 refine wpAny_bind (wpAny_newObj_type ?_ (by size_fits))
 refine wpAny_bind (m:=firstArgMember _ _) (wpAny_of_eq (a:=Value.none) (by first | rfl | (simp only [firstArgMember]; rfl)) ?_)
 refine wpAny_newObj_type ?_ (by size_fits)
 simp only [raiseNew]
 refine wpAny_bind (wpAny_handled ?_)
 first | rw [show A.in1.handled = none from hh] | rw [hh]
 refine wpAny_bind (wpAny_pure (wpAny_throw ?_))
 exact hE _ _ (((Heap.SameBut.update ..).extBut.push _).push _) ⟨_,Heap.get?_push_size _ rfl,rfl⟩
end
structure Kd (prog:Program) (w:World) where
 I:Heap→Addr→Addr→Nat→Prop
 S:Heap→Addr→Array Value→Prop
 atI:∀ {h h':Heap} {a l:Addr} {i:Nat},I h a l i→(∀ o,h.get? a = some o→h'.get? a = some o)→I h' a l i
 lowI:∀ {h:Heap} {a l:Addr} {i:Nat},I h a l i→∃ o,h.get? a = some o∧Pl o
 atS:∀ {h h':Heap} {l:Addr} {xs:Array Value},S h l xs→(∀ o,h.get? l = some o→h'.get? l = some o)→S h' l xs
 lowS:∀ {h:Heap} {l:Addr} {xs:Array Value},S h l xs→∃ o,h.get? l = some o∧Pl o
 item:∀ {A:Around} {E:Value→Shared→Prop} {s:Shared} {it l:Addr} {i:Nat} {items:Array Value} {x:Value} {Q:Value→Shared→Prop},I s.heap it l i→S s.heap l items→items[i]? = some x→
  (∀ h',I h' it l (i + 1)→Heap.SameBut it s.heap h'→Q x { s with heap:=h' })→wpAny (model prog w) A (Builtin.SmallTypes.nextOf (.ref it)) Q E s
 stop:∀ {A:Around} {E:Value→Shared→Prop} {s:Shared} {it l:Addr} {i:Nat} {items:Array Value} {Q:Value→Shared→Prop},A.handled = none→I s.heap it l i→S s.heap l items→items[i]? = none→
  (∀ h' e,Heap.ExtBut it s.heap h'→(∃ o,h'.get? e = some o∧o.cls = .type "StopIteration")→E (.ref e) { s with heap:=h' })→wpAny (model prog w) A (Builtin.SmallTypes.nextOf (.ref it)) Q E s
noncomputable def kdList (prog:Program) (w:World):Kd prog w where
 I:=fun h a l i=>h.IsListIter a l i
 S:=fun h l xs=>h.IsList l xs
 atI:=fun x e=>x.at e
 lowI:=fun x=>let ⟨o,e,hc,_⟩:=x; ⟨o,e,gn hc (by decide) (by decide)⟩
 atS:=fun x e=>x.at e
 lowS:=fun x=>let ⟨o,e,hc,_⟩:=x; ⟨o,e,gn hc (by decide) (by decide)⟩
 item:=fun h1 h2 h3 h4=>wpAny_nextOf_list_item h1 h2 h3 h4
 stop:=fun hh h1 h2 h3 h4=>wpAny_nextOf_list_end hh h1 h2 h3 h4
noncomputable def rz (prog:Program) (w:World):Kd prog w where
 I:=fun h a l i=>h.IsTupleIter a l i
 S:=fun h l xs=>h.IsTuple l xs
 atI:=fun x e=>x.at e
 lowI:=fun x=>let ⟨o,e,hc,_⟩:=x; ⟨o,e,gn hc (by decide) (by decide)⟩
 atS:=fun x e=>x.at e
 lowS:=fun x=>let ⟨o,e,hc,_⟩:=x; ⟨o,e,gn hc (by decide) (by decide)⟩
 item:=fun h1 h2 h3 h4=>GN h1 h2 h3 h4
 stop:=fun hh h1 h2 h3 h4=>GO hh h1 h2 h3 h4
section
variable {prog:Program} {w:World} (K:Kd prog w) {A:Around} {E:Value→Shared→Prop} {s:Shared}
theorem Kd.dj {h h':Heap} {a b l:Addr} {i:Nat} (x:K.I h a l i) (hs:Heap.ExtBut b h h') (n:a≠b):K.I h' a l i:=K.atI x fun o e=>hs a o n e
theorem Kd.eB {h h':Heap} {l b:Addr} {xs:Array Value} (x:K.S h l xs) (hs:Heap.ExtBut b h h') (n:l≠b):K.S h' l xs:=K.atS x fun o e=>hs l o n e
theorem GP {e it l:Addr} {i:Nat} {items:Array Value} {x old:Value} {Q:Option Value→Shared→Prop} (he:IsEnum s.heap e it i old) (hit:K.I s.heap it l i) (hl:K.S s.heap l items) (hx:items[i]? = some x) (hne:e≠it)
  (hQ:∀ h',IsEnumOut h' e it ((i:Int) + 1) x s.heap.objs.size→K.I h' it l (i + 1)→h'.get? s.heap.objs.size = some { cls:=.type "tuple",data:=.seq #[.int i s.toks,x] }→h'.objs.size = s.heap.objs.size + 1→
   (∀ b o,b≠e→b≠it→s.heap.get? b = some o→h'.get? b = some o)→Q (some (.ref s.heap.objs.size)) { s with heap:=h',toks:=s.toks + 1 }):wpAny (model prog w) A (pyNext (.ref e)) Q E s:=by
 have hT:s.TypeIs (.ref e) "enumerate":=⟨_,he,rfl⟩
 unfold pyNext
 refine wpAny_bind (wpAny_attempt (wpAny_callSpecial?_slot (name:=Str.ofString "__next__") hT F.slot_enumerate_next (wpAny_call_entry F.slot_enumerate_next hT F.entry_enumerate_next ?_ (F.args_enumerate_next_1 _))))
 obtain ⟨hp,g,d,tk,os⟩:=s
 show wpAny _ _ (field (.ref e) 2 >>= _) _ _ _
 refine wpAny_bind (wpAny_field he rfl (x:=.ref it) rfl ?_)
 refine wpAny_bind (K.item hit hl hx fun h₁ hit₁ hs₁=>?_)
 replace hs₁:Heap.SameBut it hp h₁:=hs₁
 have he₁:IsEnum h₁ e it i old:=(hs₁.2 e hne).trans he
 show wpAny _ _ (field (.ref e) 3 >>= _) _ _ ⟨h₁,g,d,tk,os⟩
 refine wpAny_bind (wpAny_field he₁ rfl (x:=rawInt i) rfl ?_)
 show wpAny _ _ (field (.ref e) 4 >>= _) _ _ ⟨h₁,g,d,tk,os⟩
 refine wpAny_bind (wpAny_field he₁ rfl (x:=.none) rfl ?_)
 show wpAny _ _ (mkInt i >>= _) _ _ ⟨h₁,g,d,tk,os⟩
 refine wpAny_bind (wpAny_mkInt ?_)
 show wpAny _ _ (setField (.ref e) 3 (rawInt ((i:Int) + 1)) >>= _) _ _ ⟨h₁,g,d,tk + 1,os⟩
 refine wpAny_bind (wpAny_setField_rec he₁ (by simp) fun h₂ he₂ hs₂=>?_)
 replace hs₂:Heap.SameBut e h₁ h₂:=hs₂
 replace he₂:IsEnum h₂ e it ((i:Int) + 1) old:=he₂
 show wpAny _ _ (setField (.ref e) 4 .none >>= _) _ _ ⟨h₂,g,d,tk + 1,os⟩
 refine wpAny_bind (wpAny_setField_rec he₂ (by simp) fun h₃ he₃ hs₃=>?_)
 replace hs₃:Heap.SameBut e h₂ h₃:=hs₃
 replace he₃:IsEnum h₃ e it ((i:Int) + 1) old:=he₃
 show wpAny _ _ (newTuple [.int i tk,x] >>= _) _ _ ⟨h₃,g,d,tk + 1,os⟩
 refine wpAny_bind (wpAny_newTuple ?_)
 have he₄:IsEnum (h₃.push { cls:=.type "tuple",data:=.seq #[.int i tk,x] }) e it ((i:Int) + 1) old:=Heap.get?_push_of_some _ he₃
 generalize hh₄:h₃.push { cls:=.type "tuple",data:=.seq #[.int i tk,x] } = h₄ at he₄
 have hsz:h₃.objs.size = hp.objs.size:=by rw [hs₃.1,hs₂.1,hs₁.1]
 have hel:e < hp.objs.size:=Heap.lt_size he
 have ht₄:h₄.get? hp.objs.size = some { cls:=.type "tuple",data:=.seq #[.int i tk,x] }:=by rw [← hh₄,← hsz]; exact Heap.get?_push_size _ rfl
 have hz₄:h₄.objs.size = hp.objs.size + 1:=by rw [← hh₄,Heap.size_push,hsz]
 have hk₄:∀ b o,b≠e→b≠it→hp.get? b = some o→h₄.get? b = some o:=fun b o hbe hbi hb=>by
  rw [← hh₄]; exact Heap.get?_push_of_some _ (hs₃.extBut b o hbe (hs₂.extBut b o hbe (hs₁.extBut b o hbi hb)))
 have hit₄:K.I h₄ it l (i + 1):=K.atI hit₁ fun o e'=>by
  rw [← hh₄]; exact Heap.get?_push_of_some _ (hs₃.extBut it o hne.symm (hs₂.extBut it o hne.symm e'))
 show wpAny _ _ (Builtin.SmallTypes.ownedTupleIsFree (.ref e) >>= _) _ _ ⟨h₄,g,d,tk + 1,os⟩
 rw [hsz]
 clear hh₄ he₃ hs₃ he₂ hs₂ he₁ hs₁ hit₁ hsz h₃ h₂ h₁
 refine wpAny_bind ?_
 unfold Builtin.SmallTypes.ownedTupleIsFree
 refine wpAny_bind (wpAny_field he₄ rfl (x:=.none) rfl (wpAny_pure ?_))
 simp only [if_true]
 refine wpAny_bind (wpAny_rule ?_)
 refine wpAny_bind (wpAny_field he₄ rfl (x:=old) rfl ?_)
 refine wpAny_bind (wpAny_setField_rec he₄ (by simp) fun h₅ he₅ hs₅=>?_)
 replace hs₅:Heap.SameBut e h₄ h₅:=hs₅
 replace he₅:IsEnum h₅ e it ((i:Int) + 1) x:=he₅
 show wpAny _ _ (Builtin.SmallTypes.ownedTupleHandOut (.ref e) (.ref hp.objs.size) >>= _) _ _ ⟨h₅,g,d,tk + 1,os⟩
 refine wpAny_bind ?_
 unfold Builtin.SmallTypes.ownedTupleHandOut
 refine wpAny_bind (wpAny_setField_rec he₅ (by simp) fun h₆ he₆ hs₆=>?_)
 replace hs₆:Heap.SameBut e h₅ h₆:=hs₆
 replace he₆:IsEnumOut h₆ e it ((i:Int) + 1) x hp.objs.size:=he₆
 refine wpAny_setField_rec he₆ (by simp) fun h₇ he₇ hs₇=>?_
 replace hs₇:Heap.SameBut e h₆ h₇:=hs₇
 replace he₇:IsEnumOut h₇ e it ((i:Int) + 1) x hp.objs.size:=he₇
 have up:∀ b o,b≠e→h₄.get? b = some o→h₇.get? b = some o:=fun b o n e'=>hs₇.extBut b o n (hs₆.extBut b o n (hs₅.extBut b o n e'))
 refine wpAny_bind (wpAny_letGo (wpAny_pure ⟨_,rfl,wpAny_pure (hQ h₇ he₇ ?_ ?_ ?_ ?_)⟩))
 ·exact K.atI hit₄ fun o e'=>up it o hne.symm e'
 ·exact up _ _ (Nat.ne_of_gt hel) ht₄
 ·rw [hs₇.1,hs₆.1,hs₅.1,hz₄]
 ·exact fun b o hbe hbi hb=>up b o hbe (hk₄ b o hbe hbi hb)
theorem GQ {e it l:Addr} {i:Nat} {items:Array Value} {old:Value} {Q:Option Value→Shared→Prop} (hh:A.handled = none) (he:IsEnum s.heap e it i old) (hit:K.I s.heap it l i) (hl:K.S s.heap l items) (hx:items[i]? = none)
  (hQ:∀ h',Heap.ExtBut it s.heap h'→Q none { s with heap:=h' }):wpAny (model prog w) A (pyNext (.ref e)) Q E s:=by
 have hT:s.TypeIs (.ref e) "enumerate":=⟨_,he,rfl⟩
 unfold pyNext
 refine wpAny_bind (wpAny_attempt (wpAny_callSpecial?_slot (name:=Str.ofString "__next__") hT F.slot_enumerate_next (wpAny_call_entry F.slot_enumerate_next hT F.entry_enumerate_next ?_ (F.args_enumerate_next_1 _))))
 show wpAny _ _ (field (.ref e) 2 >>= _) _ _ _
 refine wpAny_bind (wpAny_field he rfl (x:=.ref it) rfl ?_)
 refine wpAny_bind (K.stop hh hit hl hx fun h' x he' hx'=>?_)
 refine af fun nG=>?_
 obtain ⟨o,ho,hc⟩:=hx'
 refine nG ?_
 refine wpAny_bind (wpAny_isInstance (T:="StopIteration") (b:=true) ⟨o,ho,hc⟩ isSubtype_stop ?_)
 exact wpAny_pure (hQ _ he')
theorem GR (hh:A.handled = none) (e it l:Addr) (hei:e≠it) (hle:l≠e) (hli:l≠it) (items:Array Value):
  WalksT prog w A e [e,it,l] [e,it] items.size (fun i vals=>∃ t x,items[i]? = some x∧vals = #[.int i t,x])
   (fun i h=>(∃ old,IsEnum h e it i old)∧K.I h it l i∧K.S h l items)
   (fun i T h=>(∃ x,IsEnumOut h e it ((i:Int) + 1) x T)∧K.I h it l (i + 1)∧K.S h l items∧T≠e∧T≠it) where
 sub:=fun b hb=>by simp at hb ⊢; rcases hb with rfl | rfl<;>simp
 frame:=fun i h h' hst hk=>let ⟨⟨old,he⟩,hit,hl⟩:=hst
  ⟨⟨old,hk e (by simp) _ he⟩,K.atI hit fun o x=>hk it (by simp) o x,K.atS hl fun o x=>hk l (by simp) o x⟩
 item:=fun i s Q E hi hst hQ=>by
  refine af fun nG=>?_
  obtain ⟨⟨old,he⟩,hit,hl⟩:=hst
  refine nG ?_
  refine GP K he hit hl (Array.getElem?_eq_getElem hi) hei fun h' ho hit' hT hsz hk=>?_
  have helt:e < s.heap.objs.size:=Heap.lt_size he
  have hilt:it < s.heap.objs.size:=by obtain ⟨_,x,_⟩:=K.lowI hit; exact Heap.lt_size x
  exact hQ s.heap.objs.size #[.int i s.toks,items[i]] h' (s.toks + 1) ⟨_,_,Array.getElem?_eq_getElem hi,rfl⟩ (Nat.le_refl _) ⟨_,hT,rfl,_,rfl⟩
   ⟨⟨_,ho⟩,hit',K.atS hl fun o x=>hk l o hle hli x,Nat.ne_of_gt helt,Nat.ne_of_gt hilt⟩ fun b o hb x=>hk b o (fun e'=>hb (by simp [e'])) (fun e'=>hb (by simp [e'])) x
 go:=fun elts k pos i T s Q E hm hQ=>by
  refine af fun nG=>?_
  obtain ⟨⟨x,ho⟩,hit,hl,hTe,hTi⟩:=hm
  refine nG ?_
  exact wpAny_letOwnedTupleGo_enum ho fun h' he' hs'=>hQ h' ⟨⟨x,by simpa using he'⟩,K.atI hit fun o y=>(hs'.2 it hei.symm).trans y,K.atS hl fun o y=>(hs'.2 l hle).trans y⟩ fun b o hb y=>(hs'.2 b fun e'=>hb (by simp [e'])).trans y
 apart:=fun i T h hm hT=>by
  refine af fun nG=>?_
  obtain ⟨_,_,_,hTe,hTi⟩:=hm
  refine nG ?_
  simp at hT
  exact hT.elim hTe hTi
 done:=fun s Q E hst hQ=>by
  refine af fun nG=>?_
  obtain ⟨⟨old,he⟩,hit,hl⟩:=hst
  refine nG ?_
  exact GQ K hh he hit hl (Array.getElem?_eq_none (Nat.le_refl _)) fun h' hx=>hQ h' s.toks fun b o hb y=>hx b o (fun e'=>hb (by simp [e'])) y
 self:=fun i s Q E hst hQ=>by
  refine af fun nG=>?_
  obtain ⟨⟨old,he⟩,_,_⟩:=hst
  refine nG ?_
  exact wpAny_pyIter_enum he hQ
end
set_option tactic.hygienic true in
theorem GS (l:Addr) (items:Array Value) (n:Nat) (dct:Option Addr) (sl:Array (Option Value)):
  Meets (Builtin.«enumerate.__new__» ⟨[.type "enumerate",.ref l],[]⟩) (fun _ R s=>s.heap.get? l = some { cls:=.type "tuple",dict:=dct,data:=.seq items n,slots:=sl }∧
   R (.ok (.ret (.ref (s.heap.push { cls:=.type "tuple_iterator",data:=.fields #[.ref l,.int 0 0] }).objs.size)))
    { s with heap:=(s.heap.push { cls:=.type "tuple_iterator",data:=.fields #[.ref l,.int 0 0] }).push { cls:=.type "enumerate",data:=.fields #[.none,.bool false,.ref s.heap.objs.size,rawInt 0,.none,.none] } }):=
 .of_wp fun prog w A R s h=>by
  obtain ⟨hp,g,d,tk,os⟩:=s; obtain ⟨hl,h⟩:=h
  have hsub:=sub_enumerate
  have hL:Heap.IsTuple (Shared.heap ⟨hp,g,d,tk,os⟩) l items:=⟨_,hl,rfl,n,rfl⟩
  wp_walk using wpAny_loadPart' hl
  refine wpAny_stack_any fun st=>wpAny_pure ?_
  split
  ·rename_i c _ _ _ _ _
   cases (c == Value.type "enumerate")
   ·wp_walk using wpAny_loadPart' hl,wpAny_pyIter_tuple hL
    exact ⟨_,rfl,h⟩
   ·wp_walk using wpAny_loadPart' hl,wpAny_pyIter_tuple hL
    exact ⟨_,rfl,h⟩
  ·wp_walk using wpAny_loadPart' hl,wpAny_pyIter_tuple hL
   exact ⟨_,rfl,h⟩
noncomputable abbrev yw {prog:Program} {w:World} (K:Kd prog w) (l:Addr) (Q:Value→Shared→Prop) (s:Shared):Prop:=
 ∀ h',IsEnum h' (s.heap.objs.size + 1) s.heap.objs.size 0 .none→K.I h' s.heap.objs.size l 0→h'.objs.size = s.heap.objs.size + 2→(∀ b o,s.heap.get? b = some o→h'.get? b = some o)→Q (.ref (s.heap.objs.size + 1)) { s with heap:=h' }
theorem GU {prog:Program} {w:World} {A:Around} {E:Value→Shared→Prop} {s:Shared} {l:Addr} {items:Array Value} {Q:Value→Shared→Prop} (hL:s.heap.IsTuple l items) (h:yw (rz prog w) l Q s):
  wpAny (model prog w) A (call (.type "enumerate") [.ref l]) Q E s:=by
 refine af fun nG=>?_
 obtain ⟨⟨c,dct,dt,sl⟩,hl,hc,n,hd⟩:=hL
 refine nG ?_
 replace hc:c = .type "tuple":=hc
 replace hd:dt = .seq items n:=hd
 subst hc hd
 refine callType_new F.called_enumerate (by decide) (F.typeCall_enumerate_1 _) (F.newCall_enumerate_1 _) (fun obj=>F.args_object_init_2 obj _) F.entry_enumerate_new
  (GS l items n dct sl) ⟨hl,?_⟩
 have hz:(s.heap.push { cls:=.type "tuple_iterator",data:=.fields #[.ref l,.int 0 0] }).objs.size = s.heap.objs.size + 1:=Heap.size_push ..
 show _∧_
 rw [hz]
 have he:IsEnum ((s.heap.push { cls:=.type "tuple_iterator",data:=.fields #[.ref l,.int 0 0] }).push
   { cls:=.type "enumerate",data:=.fields #[.none,.bool false,.ref s.heap.objs.size,rawInt 0,.none,.none] }) (s.heap.objs.size + 1) s.heap.objs.size 0 .none:=by
  have:=Heap.get?_push_size (s.heap.push { cls:=.type "tuple_iterator",data:=.fields #[.ref l,.int 0 0] })
   (o:={ cls:=.type "enumerate",data:=.fields #[.none,.bool false,.ref s.heap.objs.size,rawInt 0,.none,.none] }) rfl
  rw [hz] at this; exact this
 exact ⟨⟨_,he,rfl⟩,h _ he ⟨_,Heap.get?_push_of_some _ (Heap.get?_push_size _ rfl),rfl,rfl⟩ (by rw [Heap.size_push,hz]) fun b o x=>Heap.get?_push_of_some _ (Heap.get?_push_of_some _ x)⟩
section
variable {prog:Program} {w:World} (K:Kd prog w) {A:Around} {E:Value→Shared→Prop} {s:Shared}
theorem GV {z TI TO i1 i2 l1 l2:Addr} {k1 k2:Nat} {xs ys:Array Value} {x y a b:Value} {Q:Option Value→Shared→Prop} (D:ZipApart z TI TO i1 i2 l1 l2)
  (hz:IsZip s.heap z TI TO .none) (hTI:PySem.IsPair s.heap TI (.ref i1) (.ref i2)) (hTO:PySem.IsPair s.heap TO a b)
  (h1:K.I s.heap i1 l1 k1) (h2:K.I s.heap i2 l2 k2) (hl1:K.S s.heap l1 xs) (hl2:K.S s.heap l2 ys) (hx:xs[k1]? = some x) (hy:ys[k2]? = some y)
  (hQ:∀ h',IsZip h' z TI TO (rawInt s.heap.objs.size)→PySem.IsPair h' TO x y→K.I h' i1 l1 (k1 + 1)→K.I h' i2 l2 (k2 + 1)→PySem.IsPair h' s.heap.objs.size x y→h'.objs.size = s.heap.objs.size + 1→
   (∀ c o,c≠z→c≠TO→c≠i1→c≠i2→s.heap.get? c = some o→h'.get? c = some o)→Q (some (.ref s.heap.objs.size)) { s with heap:=h' }):
  wpAny (model prog w) A (pyNext (.ref z)) Q E s:=by
 have hT:s.TypeIs (.ref z) "zip":=⟨_,hz,rfl⟩
 unfold pyNext
 refine wpAny_bind (wpAny_attempt (wpAny_callSpecial?_slot (name:=Str.ofString "__next__") hT F.slot_zip_next (wpAny_call_entry F.slot_zip_next hT F.entry_zip_next ?_ (F.args_zip_next_1 _))))
 show wpAny _ _ (field (.ref z) 2 >>= _) _ _ _
 refine wpAny_bind (wpAny_field hz rfl (x:=.bool false) rfl ?_)
 show wpAny _ _ (field (.ref z) 3 >>= _) _ _ _
 refine wpAny_bind (wpAny_field hz rfl (x:=.ref TI) rfl ?_)
 refine wpAny_bind (wpAny_seqItems hTI rfl ?_)
 show wpAny _ _ (Builtin.SmallTypes.ownedTupleIsFree (.ref z) >>= _) _ _ _
 refine wpAny_bind ?_
 unfold Builtin.SmallTypes.ownedTupleIsFree
 refine wpAny_bind (wpAny_field hz rfl (x:=.none) rfl (wpAny_pure ?_))
 simp only [if_true]
 refine wpAny_bind (wpAny_rule ?_)
 refine wpAny_bind (wpAny_field hz rfl (x:=.ref TO) rfl ?_)
 refine wpAny_bind (wpAny_setField_rec hz (by simp) fun h₁ hz₁ hs₁=>?_)
 replace hz₁:IsZip h₁ z TI TO .ellipsis:=hz₁
 refine wpAny_bind ?_
 simp only [List.zipIdx_cons,List.zipIdx_nil,List.forIn_cons,List.forIn_nil]
 refine wpAny_bind (wpAny_bind (wpAny_onRaise ?_))
 show wpAny _ _ (Builtin.SmallTypes.nextOf (.ref i1) >>= _) _ _ _
 refine wpAny_bind (K.item (K.dj h1 hs₁.extBut D.i1z) (K.eB hl1 hs₁.extBut D.l1z) hx fun h₂ h1₂ hs₂=>wpAny_pure ?_)
 have hTO₂:PySem.IsPair h₂ TO a b:=hs₂.extBut _ _ D.TOi1 (hs₁.extBut _ _ D.TOz hTO)
 refine wpAny_bind (wpAny_seqItems hTO₂ rfl ?_)
 refine wpAny_bind (wpAny_updateSeq_pair hTO₂ fun h₃ hTO₃ hs₃=>?_)
 replace hTO₃:PySem.IsPair h₃ TO x b:=hTO₃
 refine wpAny_bind (wpAny_letGo (wpAny_pure ?_))
 refine wpAny_bind (wpAny_bind (wpAny_onRaise ?_))
 show wpAny _ _ (Builtin.SmallTypes.nextOf (.ref i2) >>= _) _ _ _
 have b2:K.I h₃ i2 l2 k2:=K.dj (K.dj (K.dj h2 hs₁.extBut D.i2z) hs₂.extBut D.i12.symm) hs₃.extBut D.TOi2.symm
 have c2:K.S h₃ l2 ys:=K.eB (K.eB (K.eB hl2 hs₁.extBut D.l2z) hs₂.extBut D.l2i1) hs₃.extBut D.l2TO
 refine wpAny_bind (K.item b2 c2 hy fun h₄ h2₄ hs₄=>wpAny_pure ?_)
 have hTO₄:PySem.IsPair h₄ TO x b:=hs₄.extBut _ _ D.TOi2 hTO₃
 refine wpAny_bind (wpAny_seqItems hTO₄ rfl ?_)
 refine wpAny_bind (wpAny_updateSeq_pair hTO₄ fun h₅ hTO₅ hs₅=>?_)
 replace hTO₅:PySem.IsPair h₅ TO x y:=hTO₅
 refine wpAny_bind (wpAny_letGo (wpAny_pure (wpAny_pure ?_)))
 refine wpAny_bind (wpAny_seqItems hTO₅ rfl ?_)
 refine wpAny_bind (wpAny_newTuple ?_)
 have hsz:h₅.objs.size = s.heap.objs.size:=by rw [hs₅.1,hs₄.1,hs₃.1,hs₂.1,hs₁.1]
 have hz₅:IsZip h₅ z TI TO .ellipsis:=hs₅.extBut _ _ D.TOz.symm (hs₄.extBut _ _ D.i2z.symm (hs₃.extBut _ _ D.TOz.symm (hs₂.extBut _ _ D.i1z.symm hz₁)))
 have hk₅:∀ c o,c≠z→c≠TO→c≠i1→c≠i2→s.heap.get? c = some o→h₅.get? c = some o:=fun c o c1 c2 c3 c4 e=>
  hs₅.extBut _ _ c2 (hs₄.extBut _ _ c4 (hs₃.extBut _ _ c2 (hs₂.extBut _ _ c3 (hs₁.extBut _ _ c1 e))))
 have h1₅:K.I h₅ i1 l1 (k1 + 1):=K.dj (K.dj (K.dj h1₂ hs₃.extBut D.TOi1.symm) hs₄.extBut D.i12) hs₅.extBut D.TOi1.symm
 have h2₅:K.I h₅ i2 l2 (k2 + 1):=K.dj h2₄ hs₅.extBut D.TOi2.symm
 have hzlt:z < h₅.objs.size:=Heap.lt_size hz₅
 show wpAny _ _ (Builtin.SmallTypes.ownedTupleHandOut (.ref z) (.ref h₅.objs.size) >>= _) _ _ _
 refine wpAny_bind ?_
 unfold Builtin.SmallTypes.ownedTupleHandOut
 have hz₆:IsZip (h₅.push { cls:=.type "tuple",data:=.seq #[x,y] }) z TI TO .ellipsis:=Heap.get?_push_of_some _ hz₅
 refine wpAny_bind (wpAny_setField_rec hz₆ (by simp) fun h₇ hz₇ hs₇=>?_)
 replace hz₇:IsZip h₇ z TI TO (rawInt h₅.objs.size):=hz₇
 refine wpAny_setField_rec hz₇ (by simp) fun h₈ hz₈ hs₈=>?_
 replace hz₈:IsZip h₈ z TI TO (rawInt h₅.objs.size):=hz₈
 have up:∀ c o,c≠z→h₅.get? c = some o→h₈.get? c = some o:=fun c o c1 e=>hs₈.extBut _ _ c1 (hs₇.extBut _ _ c1 (Heap.get?_push_of_some _ e))
 have hT₈:PySem.IsPair h₈ h₅.objs.size x y:=hs₈.extBut _ _ (Nat.ne_of_gt hzlt) (hs₇.extBut _ _ (Nat.ne_of_gt hzlt) (Heap.get?_push_size _ rfl))
 have hz8:h₈.objs.size = h₅.objs.size + 1:=by rw [hs₈.1,hs₇.1,Heap.size_push]
 rw [hsz] at hz₈ hT₈ hz8
 refine wpAny_pure ⟨_,rfl,wpAny_pure ?_⟩
 show Q (some (.ref h₅.objs.size)) _
 rw [hsz]
 exact hQ h₈ hz₈ (up _ _ D.TOz hTO₅) (K.atI h1₅ fun o e=>up _ o D.i1z e) (K.atI h2₅ fun o e=>up _ o D.i2z e) hT₈ hz8 fun c o c1 c2 c3 c4 e=>up c o c1 (hk₅ c o c1 c2 c3 c4 e)
theorem GW {z TI TO i1 i2 l1 l2:Addr} {k1 k2:Nat} {xs ys:Array Value} {a b:Value} {Q:Option Value→Shared→Prop} (hh:A.handled = none) (D:ZipApart z TI TO i1 i2 l1 l2)
  (hz:IsZip s.heap z TI TO .none) (hTI:PySem.IsPair s.heap TI (.ref i1) (.ref i2)) (hTO:PySem.IsPair s.heap TO a b)
  (h1:K.I s.heap i1 l1 k1) (h2:K.I s.heap i2 l2 k2) (hl1:K.S s.heap l1 xs) (hl2:K.S s.heap l2 ys) (hend:xs[k1]? = none∨ys[k2]? = none)
  (hQ:∀ h',(∀ c o,c≠z→c≠TO→c≠i1→c≠i2→s.heap.get? c = some o→h'.get? c = some o)→Q none { s with heap:=h' }):wpAny (model prog w) A (pyNext (.ref z)) Q E s:=by
 have hT:s.TypeIs (.ref z) "zip":=⟨_,hz,rfl⟩
 have hE:∀ h' e,(∀ c o,c≠z→c≠TO→c≠i1→c≠i2→s.heap.get? c = some o→h'.get? c = some o)→(∃ o,h'.get? e = some o∧o.cls = .type "StopIteration")→
   wpAny (model prog w) A (do if (← isInstance (.ref e) (.type "StopIteration")) then pure none else throw (.ref e)) Q E { s with heap:=h' }:=fun h' e hk he=>by
  obtain ⟨o,ho,hc⟩:=he
  refine wpAny_bind (wpAny_isInstance (T:="StopIteration") (b:=true) ⟨o,ho,hc⟩ isSubtype_stop ?_)
  exact wpAny_pure (hQ _ hk)
 unfold pyNext
 refine wpAny_bind (wpAny_attempt (wpAny_callSpecial?_slot (name:=Str.ofString "__next__") hT F.slot_zip_next (wpAny_call_entry F.slot_zip_next hT F.entry_zip_next ?_ (F.args_zip_next_1 _))))
 show wpAny _ _ (field (.ref z) 2 >>= _) _ _ _
 refine wpAny_bind (wpAny_field hz rfl (x:=.bool false) rfl ?_)
 show wpAny _ _ (field (.ref z) 3 >>= _) _ _ _
 refine wpAny_bind (wpAny_field hz rfl (x:=.ref TI) rfl ?_)
 refine wpAny_bind (wpAny_seqItems hTI rfl ?_)
 show wpAny _ _ (Builtin.SmallTypes.ownedTupleIsFree (.ref z) >>= _) _ _ _
 refine wpAny_bind ?_
 unfold Builtin.SmallTypes.ownedTupleIsFree
 refine wpAny_bind (wpAny_field hz rfl (x:=.none) rfl (wpAny_pure ?_))
 simp only [if_true]
 refine wpAny_bind (wpAny_rule ?_)
 refine wpAny_bind (wpAny_field hz rfl (x:=.ref TO) rfl ?_)
 refine wpAny_bind (wpAny_setField_rec hz (by simp) fun h₁ hz₁ hs₁=>?_)
 replace hz₁:IsZip h₁ z TI TO .ellipsis:=hz₁
 refine wpAny_bind ?_
 simp only [List.zipIdx_cons,List.zipIdx_nil,List.forIn_cons,List.forIn_nil]
 refine wpAny_bind (wpAny_bind (wpAny_onRaise ?_))
 show wpAny _ _ (Builtin.SmallTypes.nextOf (.ref i1) >>= _) _ _ _
 cases hx:xs[k1]? with
 | none=>
  refine wpAny_bind (K.stop hh (K.dj h1 hs₁.extBut D.i1z) (K.eB hl1 hs₁.extBut D.l1z) hx fun h₂ e hs₂ he=>?_)
  obtain ⟨oe,hoe,hce⟩:=he
  have hz₂:IsZip h₂ z TI TO .ellipsis:=hs₂ _ _ D.i1z.symm hz₁
  have hez:e≠z:=fun x=>by subst x; rw [hz₂] at hoe; cases hoe; simp at hce
  refine wpAny_setField_rec hz₂ (by simp) fun h₃ _ hs₃=>hE h₃ e (fun c o c1 _ c3 _ x=>hs₃.extBut _ _ c1 (hs₂ _ _ c3 (hs₁.extBut _ _ c1 x))) ⟨oe,hs₃.extBut _ _ hez hoe,hce⟩
 | some x=>
  have hy:ys[k2]? = none:=by rcases hend with h | h; rw [hx] at h; cases h; exact h
  refine wpAny_bind (K.item (K.dj h1 hs₁.extBut D.i1z) (K.eB hl1 hs₁.extBut D.l1z) hx fun h₂ h1₂ hs₂=>wpAny_pure ?_)
  have hTO₂:PySem.IsPair h₂ TO a b:=hs₂.extBut _ _ D.TOi1 (hs₁.extBut _ _ D.TOz hTO)
  refine wpAny_bind (wpAny_seqItems hTO₂ rfl ?_)
  refine wpAny_bind (wpAny_updateSeq_pair hTO₂ fun h₃ hTO₃ hs₃=>?_)
  refine wpAny_bind (wpAny_letGo (wpAny_pure ?_))
  refine wpAny_bind (wpAny_bind (wpAny_onRaise ?_))
  show wpAny _ _ (Builtin.SmallTypes.nextOf (.ref i2) >>= _) _ _ _
  have b2:K.I h₃ i2 l2 k2:=K.dj (K.dj (K.dj h2 hs₁.extBut D.i2z) hs₂.extBut D.i12.symm) hs₃.extBut D.TOi2.symm
  have c2:K.S h₃ l2 ys:=K.eB (K.eB (K.eB hl2 hs₁.extBut D.l2z) hs₂.extBut D.l2i1) hs₃.extBut D.l2TO
  refine wpAny_bind (K.stop hh b2 c2 hy fun h₄ e hs₄ he=>?_)
  obtain ⟨oe,hoe,hce⟩:=he
  have hz₄:IsZip h₄ z TI TO .ellipsis:=hs₄ _ _ D.i2z.symm (hs₃.extBut _ _ D.TOz.symm (hs₂.extBut _ _ D.i1z.symm hz₁))
  have hez:e≠z:=fun x=>by subst x; rw [hz₄] at hoe; cases hoe; simp at hce
  refine wpAny_setField_rec hz₄ (by simp) fun h₅ _ hs₅=>hE h₅ e (fun c o c1 c2 c3 c4 x=>hs₅.extBut _ _ c1 (hs₄ _ _ c4 (hs₃.extBut _ _ c2 (hs₂.extBut _ _ c3 (hs₁.extBut _ _ c1 x))))) ⟨oe,hs₅.extBut _ _ hez hoe,hce⟩
theorem GX (hh:A.handled = none) (z TI TO i1 i2 l1 l2:Addr) (D:ZipApart z TI TO i1 i2 l1 l2) (xs ys:Array Value):
  WalksT prog w A z [z,TI,TO,i1,i2,l1,l2] [z,TO,i1,i2] (min xs.size ys.size) (fun i vals=>∃ x y,xs[i]? = some x∧ys[i]? = some y∧vals = #[x,y])
   (fun i h=>IsZip h z TI TO .none∧PySem.IsPair h TI (.ref i1) (.ref i2)∧(∃ a b,PySem.IsPair h TO a b)∧K.I h i1 l1 i∧K.I h i2 l2 i∧K.S h l1 xs∧K.S h l2 ys)
   (fun i T h=>IsZip h z TI TO (rawInt T)∧PySem.IsPair h TI (.ref i1) (.ref i2)∧(∃ a b,PySem.IsPair h TO a b)∧K.I h i1 l1 (i + 1)∧K.I h i2 l2 (i + 1)∧K.S h l1 xs∧K.S h l2 ys∧T≠z∧T≠TO∧T≠i1∧T≠i2) where
 sub:=fun c hc=>by simp at hc ⊢; rcases hc with rfl | rfl | rfl | rfl<;>simp
 frame:=fun i h h' hst hk=>by
  refine af fun nG=>?_
  obtain ⟨hz,hTI,⟨a,b,hTO⟩,h1,h2,hl1,hl2⟩:=hst
  refine nG ?_
  exact ⟨hk z (by simp) _ hz,hk TI (by simp) _ hTI,⟨a,b,hk TO (by simp) _ hTO⟩,K.atI h1 fun o e=>hk i1 (by simp) o e,K.atI h2 fun o e=>hk i2 (by simp) o e,K.atS hl1 fun o e=>hk l1 (by simp) o e,K.atS hl2 fun o e=>hk l2 (by simp) o e⟩
 item:=fun i s Q E hi hst hQ=>by
  refine af fun nG=>?_
  obtain ⟨hz,hTI,⟨a,b,hTO⟩,h1,h2,hl1,hl2⟩:=hst
  refine nG ?_
  have hix:i < xs.size:=Nat.lt_of_lt_of_le hi (Nat.min_le_left ..)
  have hiy:i < ys.size:=Nat.lt_of_lt_of_le hi (Nat.min_le_right ..)
  refine GV K D hz hTI hTO h1 h2 hl1 hl2 (Array.getElem?_eq_getElem hix) (Array.getElem?_eq_getElem hiy) fun h' a1 a2 a3 a4 a5 a6 hk=>?_
  have lt:∀ {c o},s.heap.get? c = some o→s.heap.objs.size≠c:=fun e=>Nat.ne_of_gt (Heap.lt_size e)
  exact hQ s.heap.objs.size #[xs[i],ys[i]] h' s.toks ⟨_,_,Array.getElem?_eq_getElem hix,Array.getElem?_eq_getElem hiy,rfl⟩ (Nat.le_refl _) ⟨_,a5,rfl,_,rfl⟩
   ⟨a1,hk _ _ D.TIz D.TITO D.TIi1 D.TIi2 hTI,⟨_,_,a2⟩,a3,a4,K.atS hl1 fun o e=>hk _ o D.l1z D.l1TO D.l1i1 D.l1i2 e,K.atS hl2 fun o e=>hk _ o D.l2z D.l2TO D.l2i1 D.l2i2 e,
    lt hz,lt hTO,(by obtain ⟨_,e,_⟩:=K.lowI h1; exact lt e),(by obtain ⟨_,e,_⟩:=K.lowI h2; exact lt e)⟩
   fun c o hc e=>hk c o (fun x=>hc (by simp [x])) (fun x=>hc (by simp [x])) (fun x=>hc (by simp [x])) (fun x=>hc (by simp [x])) e
 go:=fun elts k pos i T s Q E hm hQ=>by
  refine af fun nG=>?_
  obtain ⟨hz,hTI,⟨a,b,hTO⟩,h1,h2,hl1,hl2,_⟩:=hm
  refine nG ?_
  refine wpAny_letOwnedTupleGo_zip hz fun h' hz' hs'=>hQ h' ⟨hz',hs'.extBut _ _ D.TIz hTI,⟨a,b,hs'.extBut _ _ D.TOz hTO⟩,K.dj h1 hs'.extBut D.i1z,K.dj h2 hs'.extBut D.i2z,
   K.eB hl1 hs'.extBut D.l1z,K.eB hl2 hs'.extBut D.l2z⟩ fun c o hc e=>hs'.extBut _ _ (fun x=>hc (by simp [x])) e
 apart:=fun i T h hm hT=>by
  refine af fun nG=>?_
  obtain ⟨_,_,_,_,_,_,_,t1,t2,t3,t4⟩:=hm
  refine nG ?_
  simp at hT
  rcases hT with q | q | q | q
  ·exact t1 q
  ·exact t2 q
  ·exact t3 q
  ·exact t4 q
 done:=fun s Q E hst hQ=>by
  refine af fun nG=>?_
  obtain ⟨hz,hTI,⟨a,b,hTO⟩,h1,h2,hl1,hl2⟩:=hst
  refine nG ?_
  have hend:xs[min xs.size ys.size]? = none∨ys[min xs.size ys.size]? = none:=by
   rcases Nat.le_total xs.size ys.size with h | h
   ·exact .inl (by rw [Nat.min_eq_left h]; exact Array.getElem?_eq_none (Nat.le_refl _))
   ·exact .inr (by rw [Nat.min_eq_right h]; exact Array.getElem?_eq_none (Nat.le_refl _))
  exact GW K hh D hz hTI hTO h1 h2 hl1 hl2 hend fun h' hk=>hQ h' s.toks fun c o hc e=>
   hk c o (fun x=>hc (by simp [x])) (fun x=>hc (by simp [x])) (fun x=>hc (by simp [x])) (fun x=>hc (by simp [x])) e
 self:=fun i s Q E hst hQ=>wpAny_pyIter_zip hst.1 hQ
end
noncomputable abbrev nA (h:Heap) (l1:Addr):Heap:=h.push { cls:=.type "tuple_iterator",data:=.fields #[.ref l1,.int 0 0] }
noncomputable abbrev nD (h:Heap) (l1 l2:Addr):Heap:=(nA h l1).push { cls:=.type "tuple_iterator",data:=.fields #[.ref l2,.int 0 0] }
noncomputable abbrev nF (h:Heap) (l1 l2:Addr):Heap:=(nD h l1 l2).push { cls:=.type "tuple",data:=.seq #[.ref h.objs.size,.ref (nA h l1).objs.size] }
noncomputable abbrev nH (h:Heap) (l1 l2:Addr):Heap:=(nF h l1 l2).push { cls:=.type "tuple",data:=.seq #[.none,.none] }
noncomputable abbrev hX (h:Heap) (l1 l2:Addr):Heap:=(nH h l1 l2).push { cls:=.type "zip",data:=.fields #[.none,.bool false,.bool false,.ref (nD h l1 l2).objs.size,.ref (nF h l1 l2).objs.size] }
theorem GY {h:Heap} {a:Addr} {xs:Array Value} (x:h.IsTuple a xs) (o:Obj):(h.push o).IsTuple a xs:=let ⟨ob,e,r⟩:=x; ⟨ob,Heap.get?_push_of_some _ e,r⟩
theorem GZ (l1 l2:Addr) (xs ys:Array Value):
  Meets (Builtin.«zip.__new__» ⟨[.type "zip",.ref l1,.ref l2],[]⟩) (fun _ R s=>s.heap.IsTuple l1 xs∧s.heap.IsTuple l2 ys∧
   R (.ok (.ret (.ref (nH s.heap l1 l2).objs.size))) { s with heap:=hX s.heap l1 l2 }):=
 .of_wp fun prog w A R s h=>by
  obtain ⟨hp,g,d,tk,os⟩:=s; obtain ⟨hl1,hl2,h⟩:=h
  have hsub:=sub_zip
  have hL1:Heap.IsTuple (Shared.heap ⟨hp,g,d,tk,os⟩) l1 xs:=hl1
  have hL2:Heap.IsTuple (Shared.heap ⟨hp.push { cls:=.type "tuple_iterator",data:=.fields #[.ref l1,.int 0 0] },g,d,tk,os⟩) l2 ys:=GY hl2 _
  wp_walk using wpAny_pyIter_tuple hL1,wpAny_pyIter_tuple hL2
  exact ⟨_,rfl,h⟩
noncomputable abbrev yx {prog:Program} {w:World} (K:Kd prog w) (l1 l2:Addr) (Q:Value→Shared→Prop) (s:Shared):Prop:=
 ∀ h',IsZip h' (s.heap.objs.size + 4) (s.heap.objs.size + 2) (s.heap.objs.size + 3) .none→PySem.IsPair h' (s.heap.objs.size + 2) (.ref s.heap.objs.size) (.ref (s.heap.objs.size + 1))→
   PySem.IsPair h' (s.heap.objs.size + 3) .none .none→K.I h' s.heap.objs.size l1 0→K.I h' (s.heap.objs.size + 1) l2 0→h'.objs.size = s.heap.objs.size + 5→
   (∀ c o,s.heap.get? c = some o→h'.get? c = some o)→Q (.ref (s.heap.objs.size + 4)) { s with heap:=h' }
theorem G0 {prog:Program} {w:World} {A:Around} {E:Value→Shared→Prop} {s:Shared} {l1 l2:Addr} {xs ys:Array Value} {Q:Value→Shared→Prop} (hl1:s.heap.IsTuple l1 xs) (hl2:s.heap.IsTuple l2 ys) (h:yx (rz prog w) l1 l2 Q s):
  wpAny (model prog w) A (call (.type "zip") [.ref l1,.ref l2]) Q E s:=by
 refine callType_new F.called_zip (by decide) (F.typeCall_zip_2 _ _) (F.newCall_zip_2 _ _) (fun obj=>F.args_object_init_3 obj _ _) F.entry_zip_new
  (GZ l1 l2 xs ys) ⟨hl1,hl2,?_⟩
 have z1:(nA s.heap l1).objs.size = s.heap.objs.size + 1:=Heap.size_push ..
 have z2:(nD s.heap l1 l2).objs.size = s.heap.objs.size + 2:=by rw [Heap.size_push,z1]
 have z3:(nF s.heap l1 l2).objs.size = s.heap.objs.size + 3:=by rw [Heap.size_push,z2]
 have z4:(nH s.heap l1 l2).objs.size = s.heap.objs.size + 4:=by rw [Heap.size_push,z3]
 have z5:(hX s.heap l1 l2).objs.size = s.heap.objs.size + 5:=by rw [Heap.size_push,z4]
 have g5:(hX s.heap l1 l2).get? (nH s.heap l1 l2).objs.size = some _:=Heap.get?_push_size _ rfl
 have g4:(hX s.heap l1 l2).get? (nF s.heap l1 l2).objs.size = some _:=Heap.get?_push_of_some _ (Heap.get?_push_size _ rfl)
 have g3:(hX s.heap l1 l2).get? (nD s.heap l1 l2).objs.size = some _:=Heap.get?_push_of_some _ (Heap.get?_push_of_some _ (Heap.get?_push_size _ rfl))
 have g2:(hX s.heap l1 l2).get? (nA s.heap l1).objs.size = some _:=Heap.get?_push_of_some _ (Heap.get?_push_of_some _ (Heap.get?_push_of_some _ (Heap.get?_push_size _ rfl)))
 have g1:(hX s.heap l1 l2).get? s.heap.objs.size = some _:=Heap.get?_push_of_some _ (Heap.get?_push_of_some _ (Heap.get?_push_of_some _ (Heap.get?_push_of_some _ (Heap.get?_push_size _ rfl))))
 show _∧_
 rw [z2,z3,z4] at g5
 rw [z1,z2] at g3
 rw [z3] at g4
 rw [z1] at g2
 rw [z4]
 exact ⟨⟨_,g5,rfl⟩,h _ g5 g3 g4 ⟨_,g1,rfl,rfl⟩ ⟨_,g2,rfl,rfl⟩ z5 fun c o x=>
  Heap.get?_push_of_some _ (Heap.get?_push_of_some _ (Heap.get?_push_of_some _ (Heap.get?_push_of_some _ (Heap.get?_push_of_some _ x))))⟩
end Mine
end
section
set_option backward.match.sparseCases false
open PySem PySem.W PyProof.Rows PySem.Calls
set_option maxRecDepth 100000
namespace Mine
section
noncomputable def gp (a:AV):Option (Bool×List AV):=match a with
 | .lst l=>some (false,l)
 | .tup l=>some (true,l)
 | _=>none
noncomputable def i5 (i:Nat):List AV→List AV
 | []=>[]
 | a::l=>.tup [.int (.lit i),a]::i5 (i + 1) l
noncomputable def nJ:List AV→List AV→List AV
 | a::l,b::m=>.tup [a,b]::nJ l m
 | _,_=>[]
noncomputable def kdOf (k:Bool) (prog:Program) (w:World):Kd prog w:=match k with
 | true=>rz prog w
 | false=>kdList prog w
variable {W:ab} {A:Around} {t:Expr} {U:AS} {ad:List Addr} {s:Shared} {Q:Value→Shared→Prop} {E:Value→Shared→Prop}
structure G2 (W:ab) (k:Bool) (U:AS) (h:Heap) (ad:List Addr) (ax:Addr) (vs:List Value) (l:List AV):Prop where
 nU:¬U ax
 S:(kdOf k pg W.w).S h ax vs.toArray
 lt:ax < h.objs.size
 r:ah W ⟨aD U h,ad⟩ vs l
theorem rA {h:Heap} {v:Value} {a:AV} {k:Bool} {l:List AV} (r:Rel W ⟨aD U h,ad⟩ v a) (e:gp a = some (k,l)):∃ ax vs,v = .ref ax∧G2 W k U h ad ax vs l:=by
 unfold gp at e
 split at e
 ·cases e; obtain ⟨hg,rl⟩:=r; exact ⟨_,_,rfl,hg.2.2,⟨_,hg.1,rfl,_,rfl⟩,Heap.lt_size hg.1,rl⟩
 ·cases e; obtain ⟨hg,rl⟩:=r; exact ⟨_,_,rfl,hg.2.2,⟨_,hg.1,rfl,_,rfl⟩,Heap.lt_size hg.1,rl⟩
 ·exact aq e
theorem G3 {l:Addr} {items:Array Value}:∀ {k:Bool},(kdOf k pg W.w).S s.heap l items→yw (kdOf k pg W.w) l Q s→aw W A (call (.type "enumerate") [.ref l]) Q E s
 | true,hL,h=>GU hL h
 | false,hL,h=>call_enumerate_list hL h
theorem G4 {l1 l2:Addr} {xs ys:Array Value}:∀ {k:Bool},(kdOf k pg W.w).S s.heap l1 xs→(kdOf k pg W.w).S s.heap l2 ys→yx (kdOf k pg W.w) l1 l2 Q s→aw W A (call (.type "zip") [.ref l1,.ref l2]) Q E s
 | true,h1,h2,h=>G0 h1 h2 h
 | false,h1,h2,h=>call_zip_2 h1 h2 h
noncomputable def nK (W:ab) (t:Expr) (n:Nat) (as els:List AV):Prop:=∀ A U ad s vs (Q:Value→Shared→Prop) (E:Value→Shared→Prop),A.handled = none→Base W U s.heap→ah W ⟨aD U s.heap,ad⟩ vs as→fG W A t U ad s els Q→aw W A (call (dC n) vs) (fun v s'=>aw W A (pyIter v) Q E s') E s
theorem rB {vs:List Value} {i:Nat} {V:Vw} {a:AV} {as:List AV} (r:ah W V (vs.drop i) (a::as)):i < vs.length∧ah W V (vs.drop (i + 1)) as∧∃ v,vs.toArray[i]? = some v∧Rel W V v a:=by
 refine af fun nG=>?_
 have hi:i < vs.length:=by have:=r.length; rw [List.length_drop,List.length_cons] at this; lia
 rw [List.drop_eq_getElem_cons hi] at r
 obtain ⟨h,r⟩:=r
 refine nG ?_
 exact ⟨hi,r,_,(List.getElem?_toArray ..).trans (List.getElem?_eq_getElem hi),h⟩
theorem drop_nil {vs:List Value} {i:Nat} {V:Vw} (r:ah W V (vs.drop i) []) (le:i≤vs.length):i = vs.length:=by
 have:=r.length; rw [List.length_drop,List.length_nil] at this; lia
theorem eY {h:Heap} {u:Addr} (q:h.objs.size≤u):h.get? u = none:=by
 cases e:h.get? u with
 | none=>rfl
 | some o=>exact absurd (Heap.lt_size e) (Nat.not_lt.mpr q)
theorem yy {ts:List Expr} {tk:Nat} {tp:Pos} {a:AV} {k:Bool} {l:List AV} (e:gp a = some (k,l)):nK W (.Tuple ts tk tp) 12 [a] (i5 0 l):=fun A U ad s vs Q E hh B rl fin=>by
 obtain ⟨ra,rl⟩:=rl
 obtain rfl:=rl
 obtain ⟨ax,vs,rfl,nU,hS,hlt,rl⟩:=rA ra e
 refine G3 hS fun g3 he hit hsz k3=>wpAny_pyIter_enum he ?_
 have hW:=GR (kdOf k pg W.w) hh (s.heap.objs.size + 1) s.heap.objs.size ax (Nat.succ_ne_self _) (Nat.ne_of_lt (Nat.lt_succ_of_lt hlt)) (Nat.ne_of_lt hlt) vs.toArray
 refine fin.run (fl:=[s.heap.objs.size + 1,s.heap.objs.size,ax]) (fp:=fun b=>b = s.heap.objs.size + 1∨b = s.heap.objs.size∨b = ax) (Els:=fun V i as=>∃ bs,ah W V (vs.drop i) bs∧i≤vs.length∧as = i5 i bs) k3 ⟨KTurns.ofWalksU hW.toU,fun b hb=>by simpa using hb,fun i h st u hu=>?_,fun _ _ _ _ ss ⟨bs,r,e⟩=>⟨bs,r.mono ss,e⟩,fun V i e=>?_,fun V i a as e=>?_⟩ (fun u hu=>eY (by simp at hu; rcases hu with rfl | rfl<;>lia)) (fun b hb=>?_) ⟨⟨_,he⟩,hit,(kdOf k pg W.w).atS hS fun o e=>k3 _ _ e⟩ (fun V ss=>⟨l,rl.mono ss,Nat.zero_le _,rfl⟩) hW.self
 ·obtain ⟨⟨old,a1⟩,a2,a3⟩:=st
  rcases hu with rfl | rfl | rfl
  ·exact ⟨_,a1,gn rfl rfl rfl⟩
  ·exact (kdOf k pg W.w).lowI a2
  ·exact (kdOf k pg W.w).lowS a3
 ·obtain ⟨bs,r,le,e⟩:=e
  cases bs with
  | nil=>simpa using drop_nil r le
  | cons=>cases e
 ·obtain ⟨bs,r,le,e⟩:=e
  cases bs with
  | nil=>cases e
  | cons b bs=>
   obtain ⟨rfl,rfl⟩:=List.cons.inj e
   obtain ⟨hi,r',v,hv,rv⟩:=rB r
   refine ⟨by simpa using hi,⟨bs,r',hi,rfl⟩,fun w h P G=>?_⟩
   obtain ⟨T,vals,rfl,⟨t',x,hx,rfl⟩,ht⟩:=P
   exact .tup rfl rfl rfl ht (.cons (.mk t') (.cons (Option.some.inj (hv.symm.trans hx)▸rv) (show ah W V [] [] from rfl)))
 ·rcases hb with rfl | rfl | rfl
  ·exact .inl (eY (by lia))
  ·exact .inl (eY (by lia))
  ·exact .inr nU
theorem G5 {ts:List Expr} {tk:Nat} {tp:Pos} {a b:AV} {k:Bool} {l m:List AV} (e:gp a = some (k,l)) (e':gp b = some (k,m)):nK W (.Tuple ts tk tp) 11 [a,b] (nJ l m):=fun A U ad s vs Q E hh B rl fin=>by
 refine af fun nG=>?_
 obtain ⟨ra,rb,rl⟩:=rl
 obtain rfl:=rl
 obtain ⟨ax,vs,rfl,nU,hS,hlt,rl⟩:=rA ra e
 obtain ⟨bx,ws,rfl,nU',hS',hlt',rl'⟩:=rA rb e'
 refine nG ?_
 refine G4 hS hS' fun g3 hz hTI hTO hi1 hi2 hsz k3=>wpAny_pyIter_zip hz ?_
 have hW:=GX (kdOf k pg W.w) hh _ _ _ _ _ _ _ (ktu_apart s.heap.objs.size ax bx hlt hlt') vs.toArray ws.toArray
 refine fin.run (fp:=fun b=>b∈_) (Els:=fun V i as=>∃ bs cs,ah W V (vs.drop i) bs∧ah W V (ws.drop i) cs∧i≤min vs.length ws.length∧as = nJ bs cs) k3 ⟨KTurns.ofWalksU hW.toU,fun b hb=>hb,fun i h st u hu=>?_,fun _ _ _ _ ss ⟨bs,cs,r,r',e⟩=>⟨bs,cs,r.mono ss,r'.mono ss,e⟩,fun V i e=>?_,fun V i a as e=>?_⟩ (fun u hu=>eY (by simp at hu; rcases hu with rfl | rfl | rfl | rfl<;>lia)) (fun b hb=>?_) ⟨hz,hTI,⟨_,_,hTO⟩,hi1,hi2,(kdOf k pg W.w).atS hS fun o e=>k3 _ _ e,(kdOf k pg W.w).atS hS' fun o e=>k3 _ _ e⟩ (fun V ss=>⟨l,m,rl.mono ss,rl'.mono ss,Nat.zero_le _,rfl⟩) hW.self
 ·refine af fun nG=>?_
  obtain ⟨a1,a2,⟨_,_,a3⟩,a4,a5,a6,a7⟩:=st
  refine nG ?_
  simp at hu
  rcases hu with rfl | rfl | rfl | rfl | rfl | rfl | rfl
  ·exact ⟨_,a1,gn rfl rfl rfl⟩
  ·exact ⟨_,a2,gn rfl rfl rfl⟩
  ·exact ⟨_,a3,gn rfl rfl rfl⟩
  ·exact (kdOf k pg W.w).lowI a4
  ·exact (kdOf k pg W.w).lowI a5
  ·exact (kdOf k pg W.w).lowS a6
  ·exact (kdOf k pg W.w).lowS a7
 ·refine af fun nG=>?_
  obtain ⟨bs,cs,r,r',le,e⟩:=e
  refine nG ?_
  rw [List.size_toArray,List.size_toArray]
  cases bs with
  | nil=>have:=drop_nil r (by lia); lia
  | cons b bs=>cases cs with
   | nil=>have:=drop_nil r' (by lia); lia
   | cons=>cases e
 ·refine af fun nG=>?_
  obtain ⟨bs,cs,r,r',le,e⟩:=e
  refine nG ?_
  cases bs with
  | nil=>cases e
  | cons b bs=>cases cs with
   | nil=>cases e
   | cons c cs=>
   refine af fun nG=>?_
   obtain ⟨rfl,rfl⟩:=List.cons.inj e
   obtain ⟨hi,r1,v,hv,rv⟩:=rB r
   obtain ⟨hj,r2,u,hu,ru⟩:=rB r'
   refine nG ?_
   refine ⟨by rw [List.size_toArray,List.size_toArray]; lia,⟨bs,cs,r1,r2,by lia,rfl⟩,fun w h P G=>?_⟩
   refine af fun nG=>?_
   obtain ⟨T,vals,rfl,⟨x,y,hx,hy,rfl⟩,ht⟩:=P
   refine nG ?_
   exact .tup rfl rfl rfl ht (.cons (Option.some.inj (hv.symm.trans hx)▸rv) (.cons (Option.some.inj (hu.symm.trans hy)▸ru) (show ah W V [] [] from rfl)))
 ·simp at hb
  rcases hb with rfl | rfl | rfl | rfl | rfl | rfl | rfl<;>first | exact .inr nU | exact .inr nU' | exact .inl (eY (by lia))
section
variable {d:Nat} {sc:Fs} {c:ai W d sc} {σ:ao} {own own1:Own} {pos:Pos}
theorem az.yz {body:List Stmt} {f:Str} {fp cp:Pos} {xs:List Expr} {n:Nat} {as els:List AV} {fl:Fl} (ha:∀ x∈xs,dh x) (hf:aj c σ own (eval (.Name f fp) c.env) (.blt n) own) (hl:bT c σ own (spliced (backTo cp (starEach xs c.env))) as own1) (M:nK W t n as els) (L:cI c t (fun it=>.forLoop t it body [] c.env) σ own1 els fl):az c σ own (exec (.For t (.Call (.Name f fp) xs [] cp) body [] pos) c.env) fl:=fun s ad Q E S T=>by
 refine wpAny_For ?_ fun _=>rfl
 show wpAny _ _ ((eval (.Name f fp) c.env) >>= fun fv=>callWith cp fv [] (backTo cp (starEach xs c.env)) []) _ _ _
 refine wpAny_bind (hf s ad _ _ S fun fv h1 t1 a1 k1 r1=>gZ (first:=[]) ha (by obtain rfl:fv = dC n:=r1; exact qR n) (hl _ a1 _ _ (S.after k1) fun ws h2 t2 a2 k2 r2=>have S2:=S.after (k1.trans k2); ⟨S2.Gp,?_⟩))
 obtain rfl:fv = dC n:=r1
 exact M _ _ a2 _ _ _ E c.a.handled S2.B r2 (L.enter S2 T)
end
end
section
noncomputable def N7:Str:=⟨#[107,105,110,100]⟩
noncomputable def fJ:Str:=⟨#[95,95,105,110,105,116,95,95]⟩
theorem G7:fJ = ("__init__":Str):=by decide +kernel
noncomputable def gq:List (Addr×Addr):=[(1191,1153),(660,629),(815,777),(850,833),(883,868),(541,507),(264,219),(362,345),(396,379),(437,413),(490,454),(1113,1056)]
theorem G8 (P:Params):gq.map (fun q=>(makesIn (aQ P) q.1,findIn (aQ P) (.ref q.1) "__init__",typeIn (aQ P) (.ref q.2),keepIn (aQ P) (.ref q.1))) = gq.map fun q=>(true,some (some (.ref q.2)),some (.type "function"),true):=by kernel_rfl
theorem G9 (P:Params):d9.map (fun p=>p.2.map fun x=>takerIn (aQ P) p.1 x) = d9.map fun p=>p.2.map fun _=>some none:=by kernel_rfl
theorem Ha (P:Params):g8.map (fun C=>(findIn (aQ P) (.ref C) (Str.ofString "__setattr__"),plainOver (aQ P) C)) = g8.map fun _=>(some (some (.builtin "object.__setattr__")),true):=by kernel_rfl
theorem Hb (P:Params):(specialIn (aQ P) (.ref 327) "__getattribute__",readsIn (aQ P) 327 (.type "type"),(match findCls (aQ P) (.ref 327) (.type "type") fJ with | some (.val v)=>some v | _=>none)) = (some (some (.builtin "type.__getattribute__")),true,some (.ref 303)):=by kernel_rfl
noncomputable def kD (x:Str) (a:AV):List (Str×AV)→List (Str×AV)
 | []=>[(x,a)]
 | (y,b)::l=>(match sEq y x with
  | true=>(y,a)::l
  | false=>(y,b)::kD x a l)
variable {W:ab}
theorem yA {V:Vw} {x:Str} {hh:Int} {t:Tok} {v:Value} {a:AV} (rv:Rel W V v a):∀ {fs:List (Str×AV)} {es:List DictEntry},bF W V es fs→bF W V (putL x hh (.str x t) v es) (kD x a fs)
 | [],es,r=>by obtain rfl:=r; exact .mk (.mk rfl rv) rfl
 | (y,b)::fs,_,r=>by
  obtain ⟨⟨k,hb⟩,r⟩:=r
  unfold putL kD
  rw [isStr_of k,eA]
  cases q:y == x with
  | true=>exact .mk (.mk k rv) r
  | false=>exact .mk (.mk k hb) (yA rv r)
theorem nM {x:Str} {hh:Int} {k v:Value}:∀ {es:List DictEntry},(putL x hh k v es).length≤es.length + 1
 | []=>Nat.le_refl _
 | e::es=>by
  unfold putL
  split
  ·exact Nat.le_succ _
  ·exact Nat.succ_le_succ nM
theorem yB {V:Vw}:∀ {fs:List (Str×AV)} {es:List DictEntry},bF W V es fs→es.length = fs.length
 | [],_,r=>by obtain rfl:=r; rfl
 | _::_,_,r=>by obtain ⟨_,r⟩:=r; exact congrArg (· + 1) (yB r)
set_option tactic.hygienic true in
theorem Hc {A:Around} {s:Shared} {E:Value→Shared→Prop} {X C dx:Addr} {es:List DictEntry} {n:Nat} {x:Str} {v:Value} {ns:List Str} {Q:Unit→Shared→Prop} (B:GG W s.heap) (hm:(C,ns)∈d9) (hn:ns.any (sEq x) = true) (h1:s.heap.get? X = some (instObj C dx)) (h2:s.heap.get? dx = some (dictOf es n)) (hl:(getL x es).isSome = true) (hz:es.length < 1000)
  (hQ:∀ h' tk hh t n',Heap.SameBut dx s.heap h'→h'.get? dx = some (dictOf (putL x hh (.str x t) v es) n')→Q () (mv s h' tk)):aw W A (setAttr (.ref X) x v) Q E s:=by
 have hc:=List.all_eq_true.mp mV.1 _ hm
 obtain ⟨c,hcm,hce⟩:=List.any_eq_true.mp hc
 obtain rfl:=Nat.eq_of_beq_eq_true hce
 replace hm:(C,ns)∈d9:=hm
 have cf:=mX (C:=C) (P:=W.w.params) hc
 have e1:=cV (cV (G9 W.w.params) hm) (xF hn)
 have e2:=cV (Ha W.w.params) hcm
 have I:InstAt s.heap X (instObj C dx) C (some (dictOf es n)):=⟨h1,rfl,rfl,h2⟩
 refine set_plain B.K I (congrArg (·.1) e2) (osa_open (s:={ s with toks:=s.toks + 1 }) B.K I (congrArg (·.2) e2) e1 fun b=>?_)
 obtain ⟨cd,hc,hd'⟩:=Option.map_eq_some_iff.mp cf.d
 refine wpAny_bind (wpAny_pure (wpAny_bind (wpAny_bind (wpAny_loadPart h1 (wpAny_bind ((looks_clsIn B.K hc).here (s:={ s with toks:=s.toks + 1 }) ?_))))))
 rw [hd']
 refine wpAny_pure (a:=some dx) (wpAny_bind (wpAny_pure (wpAny_bind ?_)))
 unfold nsSet
 refine wpAny_bind (wpAny_bind (wpAny_askSetting (wpAny_pure (wpAny_bind (wpAny_mkText (wpAny_bind (wpAny_loadPart h2 ?_)))))))
 dsimp only
 have cc:(!es.toArray.any (·.key.isStr x) && es.toArray.any (·.refKey)) = false:=by
  rw [← Array.any_toList,← Array.any_toList,List.toList_toArray]
  unfold getL at hl
  split at hl
  ·rename_i en he
   rw [List.any_eq_true.mpr ⟨en,List.mem_of_find?_eq_some he,List.find?_some he⟩]; rfl
  ·split at hl
   ·exact aR hl
   ·rename_i z; rw [Bool.not_eq_true] at z; rw [z,Bool.and_false]
 rw [aRefKeyMayBeTheName_at,cc]
 have pd:∀ t,Obj.putName x (PyData.keyHash W.w.params x) (.str x t) v (dictOf es n) = dictOf (putL x (PyData.keyHash W.w.params x) (.str x t) v es) (putN x es n):=fun t=>putName_dict _ _ _ _ _ _
 have up:=Heap.get?_update_self (h:=s.heap) (a:=dx) (Obj.putName x (PyData.keyHash W.w.params x) (.str x (s.toks + 1)) v) h2 (by rw [pd]; rfl)
 rw [pd] at up
 exact wpAny_updatePart h2 (wpAny_bind (wpAny_lookBehind up (pastItsLine_dict (by have:=nM (x:=x) (hh:=PyData.keyHash W.w.params x) (k:=.str x (s.toks + 1)) (v:=v) (es:=es); rw [List.size_toArray,sizeLine_eq]; lia)) (wpAny_pure (hQ _ _ _ _ _ (Heap.SameBut.update ..) up))))
variable {d:Nat} {sc:Fs} {c:ai W d sc} {σ:ao} {own own1 own2:Own} {pos:Pos}
set_option tactic.hygienic true in
theorem az.setAttr {v e:Expr} {x:Str} {ap:Pos} {a:AV} {n m:Nat} {C:Addr} {fs:List (Str×AV)} {ns:List Str} (hs:j8 e) (he:aj c σ own (eval e c.env) a own1) (hv:aj c σ own1 (eval v c.env) (.loc n) own2) (h:own2[n]? = some (.obj C m)) (h':own2[m]? = some (.fld fs)) (hm:(C,ns)∈d9) (hn:ns.any (sEq x) = true) (hz:Nat.blt fs.length 100 = true):az c σ own (exec (.Assign [.Attribute v x ap] e pos) c.env) (.next σ (own2.set m (.fld (kD x a fs)))):=fun s ad Q E S T=>
 plainObj_wpAny_Assign_Attribute (he s ad _ _ S fun u h1 t1 a1 k1 r1=>hv _ a1 _ _ (S.after k1) fun ov h2 t2 a2 k2 r2=>by
  obtain ⟨e2⟩:=r2
  have k:=k1.trans k2
  obtain ⟨_,o,ho,pr⟩:=k2.owns.obj _ _ _ ⟨h,rfl,e2⟩
  obtain ⟨ed⟩:=pr
  obtain ⟨_,o',ho',pr'⟩:=k2.owns.obj _ _ _ ⟨h',rfl,ed⟩
  obtain ⟨rf⟩:=pr'
  rename_i es nn
  refine Hc (s:=mv s h2 t2) (S.after k).Gp hm hn ho ho' (by
   unfold getL
   cases q:es.find? (·.key.isStr x) with
   | some e=>rfl
   | none=>dsimp only; rw [(rf.look (x:=x)).2.2]; rfl) (by rw [yB rf]; have:=Nat.blt_eq.mp hz; lia) fun h3 t3 hh t n' s3 e3=>T h3 t3 a2 ((S.after k).after (k2.owns.put ⟨h',rfl,ed⟩ s3 (fun e=>by cases e) fun V le _ _=>⟨fun _=>⟨_,e3,.mk (yA ((r1.mono k2.view).mono le) (rf.mono le))⟩,(fun _ e=>by cases e)⟩))) (hs _ _ _)
theorem He {C fI:Addr} {as:List AV} (hC:(C,fI)∈gq) (I:kh W d fI (own ++ [.fld []] ++ [.obj C own.length]) (.loc (own.length + 1)::as) .none own1):Tells W (d + 3) (.ref C) own as (.loc (own.length + 1)) own1:=by
 have f:=cV (G8 W.w.params) hC
 obtain ⟨f1,f⟩:=Prod.mk.inj f
 obtain ⟨f2,f⟩:=Prod.mk.inj f
 obtain ⟨f3,f4⟩:=Prod.mk.inj f
 refine ⟨fun g G=>?_,fun A a U ad s vs Q E Bs O rl G=>?_⟩
 ·obtain ⟨k,hk1,hk2⟩:=looks_keep (M:=model pg W.w) f4 G.K
  exact ⟨k,hk1.elim .inl fun q=>.inr (.inl q),hk2⟩
 ·obtain ⟨H,g,dr,t,os'⟩:=s
  refine wpAny_call (make_core (makes_of Bs.G.K f1) (looks_findIn Bs.G.K f2) (fun self=>bind_fn Bs.G.K self f3) (.inl rfl) ?_)
  have hs0:=c7 H
  have e1:((H.push emptyDict).push (instObj C H.objs.size)).get? (H.objs.size + 1) = some (instObj C H.objs.size):=by
   have:=Heap.get?_push_size (H.push emptyDict) (o:=instObj C H.objs.size) rfl
   rwa [Heap.size_push] at this
  have k1:=O.alloc (pv:=.fld []) (x:=H.objs.size) (ob:=dictOf [] 0) (h':=H.push emptyDict) Bs.G Bs.low (ag.push _ _) hs0 (Heap.get?_push_size _ rfl) rfl fun V _ _=>.mk (show bF W V [] [] from rfl)
  have B1:Base W U (H.push emptyDict):=Bs.keep (ag.push _ _)
  have n1:(H.push emptyDict).get? (H.objs.size + 1) = none:=eY (by rw [Heap.size_push]; exact Nat.le_refl _)
  have k2:=k1.owns.alloc (pv:=.obj C own.length) (x:=H.objs.size + 1) (ob:=instObj C H.objs.size) (h':=(H.push emptyDict).push (instObj C H.objs.size)) B1.G B1.low (ag.push _ _) n1 e1 rfl fun V le ea=>.mk (by rw [ea]; exact fC _ _ (by rw [show own.length = ad.length from O.len.symm]; exact iO))
  have k:=k1.trans k2
  have hx:(ad ++ [H.objs.size] ++ [H.objs.size + 1])[own.length + 1]? = some (H.objs.size + 1):=by
   have:=iO (l:=ad ++ [H.objs.size]) (x:=H.objs.size + 1)
   rwa [List.length_append,show ad.length = own.length from O.len] at this
  exact codeAny_mono (I (A.under (.builtin "type.__call__" ⟨.ref C::vs,[]⟩)) ⟨a.handled,(by have:=a.depth; have w:Code.weight (.builtin "type.__call__" ⟨.ref C::vs,[]⟩) = 1:=rfl; show A.depth + _ + d≤900; lia),(by have:=a.units; have w:Code.cUnits (.builtin "type.__call__" ⟨.ref C::vs,[]⟩) = 1:=rfl; show A.units + _ + 3 * d≤9000; lia)⟩ U (ad ++ [H.objs.size] ++ [H.objs.size + 1]) ⟨(H.push emptyDict).push (instObj C H.objs.size),g,dr,t,os'⟩ (.ref (H.objs.size + 1)::vs)
   (fun r s'=>∃ v,r = .ok (.ret v)∧v = .none∧Q (.ref (H.objs.size + 1)) s') (B1.keep (ag.push _ _)) k2.owns (.cons (.mk hx) (rl.mono k.view)) fun v h' tk ad' k3 r3=>⟨v,rfl,r3,G _ h' tk ad' (k.trans k3) (.mk (k3.ad _ _ hx))⟩) fun r s' z=>by obtain ⟨v,rfl,z⟩:=z; exact z
theorem Hf {as:List AV} {r:AV} (T:Tells W d (.ref 303) own1 as r own2):cz W d own (.con (.ref 327)) fJ own1 as r own2:=fun A a U ad s v pl Q E B O rv k=>by
 obtain rfl:v = .ref 327:=rv
 have f:=Hb W.w.params
 obtain ⟨f1,f⟩:=Prod.mk.inj f
 obtain ⟨f2,f3⟩:=Prod.mk.inj f
 split at f3
 ·rename_i vv hvv
  cases f3
  exact method_cls B.G.K f1 (cls_value B.G.K f2 hvv rfl (k _ [] (s.toks + 1) T.1 fun s' ad' vs Q' E' kk B' rl F=>T.2 A a U ad' s' vs Q' E' B' kk.owns rl F))
 ·exact aq f3
end
section
variable {prog:Program} {w:World} {A:Around} {E:Value→Shared→Prop} {s:Shared}
theorem Hg {l:Addr} {items:Array Value} {n:Nat} {k:Int} {t:Tok} {v:Value} {Q:Unit→Shared→Prop} (ho:s.heap.get? l = some { cls:=.type "list",data:=.seq items n })
  (h0:0≤k) (hfit:k < 2 ^ 63) (hn:k < items.size)
  (hQ:∀ h' n',h'.get? l = some { cls:=.type "list",data:=.seq (items.setIfInBounds k.toNat v) n' }→Heap.SameBut l s.heap h'→Q () { s with heap:=h' }):
  wpAny (model prog w) A (setItem (.ref l) (.int k t) v) Q E s:=by
 have hl:s.heap.IsList l items:=⟨_,ho,rfl,n,rfl⟩
 unfold setItem
 try with_reducible refine wpAny_holding ?_
 first | refine wpAny_bind (wpAny_pure ?_) | skip
 refine wpAny_bind (wpAny_sequenceKey hl.typeIs (by decide) ?_)
 refine wpAny_bind (wpAny_callSpecial?_slot (name:=Str.ofString "__setitem__") hl.typeIs slot_list_setitem
  (wpAny_call_entry slot_list_setitem hl.typeIs entry_list_setitem ?_ (args_list_setitem _ _ _)))
 show wpAny _ _ (Builtin.List.listSubscript? (.int k t) >>= _) _ _ s
 refine wpAny_bind (wpAny_listSubscript_int (fitsIndex_of h0 hfit) ?_)
 clear hfit
 obtain ⟨j,rfl⟩:=Int.eq_ofNat_of_zero_le h0
 have hj:j < items.size:=by lia
 have hx':items[j]? = some items[j]:=Array.getElem?_eq_getElem hj
 show wpAny _ _ ((seqItemAt l j >>= fun r=>pure (r.map (j,·))) >>= _) _ _ s
 refine wpAny_bind (wpAny_bind (wpAny_seqItemAt ho rfl (wpAny_pure ?_)))
 rw [hx']
 show wpAny _ _ (setSeqItemAt l j v >>= _) _ _ s
 have hfin:∃ n',(s.heap.update l (Obj.mapSeq (·.setIfInBounds j v))).get? l = some { cls:=.type "list",data:=.seq (items.setIfInBounds j v) n' }:=
  ⟨_,Heap.get?_update_self _ ho rfl⟩
 obtain ⟨n',hfin⟩:=hfin
 refine wpAny_bind (wpAny_setSeqItemAt ho rfl ?_)
 first
  | exact wpAny_bind (wpAny_pure (wpAny_pure ⟨.none,rfl,wpAny_pure (hQ _ n' hfin (Heap.SameBut.update ..))⟩))
  | exact wpAny_pure ⟨.none,rfl,wpAny_pure (hQ _ n' hfin (Heap.SameBut.update ..))⟩
end
section
variable {W:ab} {d:Nat} {sc:Fs} {c:ai W d sc} {σ:ao} {own own1 own2 own3 own4:Own} {pos:Pos}
noncomputable def kF (W:ab) (own:Own) (n:Nat) (b a:AV) (own':Own):Prop:=∀ A U ad s r u v (Q:Unit→Shared→Prop) (E:Value→Shared→Prop),A.units≤9000→Base W U s.heap→aN W U ⟨own,ad,s.heap⟩→ad[n]? = some r→Rel W (vw U ⟨own,ad,s.heap⟩) u b→Rel W (vw U ⟨own,ad,s.heap⟩) v a→(∀ h' tk,After W U ⟨own,ad,s.heap⟩ ⟨own',ad,h'⟩→Q () (mv s h' tk))→aw W A (setItem (.ref r) u v) Q E s
theorem az.Hh {x k e:Expr} {p2:Pos} {a b:AV} {n:Nat} (hs:j8 e) (he:aj c σ own (eval e c.env) a own1) (hx:aj c σ own1 (eval x c.env) (.loc n) own2) (hk:aj c σ own2 (eval k c.env) b own3) (hp:kF W own3 n b a own4):az c σ own (exec (.Assign [.Subscript x k p2] e pos) c.env) (.next σ own4):=fun s ad Q E S T=>
 wpAny_Assign_Subscript (he s ad _ _ S fun v h1 t1 a1 k1 r1=>hx _ a1 _ _ (S.after k1) fun r h2 t2 a2 k2 r2=>by
  obtain ⟨e2⟩:=r2
  have k12:=k1.trans k2
  exact hk _ a2 _ _ (S.after k12) fun u h3 t3 a3 k3 r3=>have k:=k12.trans k3; hp _ _ a3 (mv s h3 t3) _ u v _ _ c.u (S.after k).BU k.owns (k3.ad _ _ e2) r3 ((r1.mono k2.view).mono k3.view) fun h4 t4 k4=>T h4 t4 a3 ((S.after k).after k4)) (hs _ _ _)
theorem ah.set {V:Vw} {v:Value} {a:AV} (rv:Rel W V v a):∀ {l:List AV} {vs:List Value} {i:Nat},ah W V vs l→ah W V (vs.set i v) (l.set i a)
 | [],_,_,r=>by obtain rfl:=r; rfl
 | _::_,_,0,.mk _ r=>.mk rv r
 | _::_,_,i + 1,.mk h r=>.mk h (ah.set (i:=i) rv r)
set_option tactic.hygienic true in
theorem Hi {l:List AV} {a:AV} {n:Nat} {e:SE} {i:Int} (h:own[n]? = some (.lst l)) (he:e.val W.ρ = i) (h0:0≤i) (h1:i.toNat < l.length) (h2:Nat.ble l.length 10000 = true):kF W own n (.int e) a (own.set n (.lst (l.set i.toNat a))):=fun A U ad s r u v Q E _ B O hr ru rv F=>by
 refine af fun nG=>?_
 obtain ⟨t⟩:=ru
 refine nG ?_
 rw [he]
 refine af fun nG=>?_
 have z:At own ad n (.lst l) r:=⟨h,rfl,hr⟩
 obtain ⟨_,o,ho,pr⟩:=O.obj _ _ _ z
 obtain ⟨rl⟩:=pr
 refine nG ?_
 rename_i vs m
 have h2:=Nat.le_of_ble_eq_true h2
 have hl:=rl.length
 exact Hg (items:=vs.toArray) (n:=m) ho (by lia) (by lia) (by rw [List.size_toArray]; lia) fun h' n' e' s'=>F h' s.toks (O.put z s' (fun e=>by cases e) fun V le _ _=>⟨fun _=>⟨_,by rw [e']; exact congrArg some (by simp [bl]),.mk (n:=n') ((ah.set rv rl).mono le)⟩,(fun _ e=>by cases e)⟩)
noncomputable def dput (x:Str) (a:AV):List (Str×AV)→List (Str×AV)
 | []=>[(x,a)]
 | (y,b)::l=>(match sEq x y with
  | true=>(y,a)::l
  | false=>(y,b)::dput x a l)
theorem Hj {κ:Type} [DecidableEq κ] {x:κ} {w v:Value} {kvs:List (κ×Value)} (n:∀ p∈kvs,p.1≠x):stored ((x,w)::kvs) x v = (x,v)::kvs:=by
 unfold stored
 rw [if_pos (by simp),List.map_cons,if_pos rfl]
 congr 1
 exact (List.map_congr_left fun kv hm=>if_neg (n kv hm)).trans (List.map_id _)
theorem Hk {κ:Type} [DecidableEq κ] {x y:κ} {w v:Value} {kvs:List (κ×Value)} (n:y≠x):stored ((y,w)::kvs) x v = (y,w)::stored kvs x v:=by
 unfold stored
 rw [List.any_cons,show decide ((y,w).1 = x) = false from decide_eq_false n,Bool.false_or]
 split
 ·rw [List.map_cons,if_neg n]
 ·rfl
theorem yC {V:Vw} {x:Str} {a:AV} {v:Value} (rv:Rel W V v a):∀ {l:List (Str×AV)} {kvs:List (Str×Value)},bI W V kvs l→(kvs.map (·.1)).Nodup→bI W V (stored kvs x v) (dput x a l)
 | [],_,r,_=>by obtain rfl:=r; exact .mk (.mk rv) rfl
 | (y,b)::l,_,r,nd=>by
  obtain ⟨⟨rb⟩,r⟩:=r
  obtain ⟨n1,nd⟩:=List.nodup_cons.mp nd
  unfold dput
  rw [eA]
  by_cases q:x = y
  ·subst q
   rw [beq_self_eq_true,Hj fun p m e=>n1 (List.mem_map.mpr ⟨p,m,e⟩)]
   exact .mk (.mk rv) r
  ·rw [beq_eq_false_iff_ne.mpr q,Hk (Ne.symm q)]
   exact .mk (.mk rb) (yC rv r nd)
theorem bI.length {V:Vw}:∀ {l:List (Str×AV)} {kvs:List (Str×Value)},bI W V kvs l→kvs.length = l.length
 | [],_,r=>by obtain rfl:=r; rfl
 | _::_,_,.mk _ r=>congrArg (· + 1) r.length
theorem Hl {l:List (Str×AV)} {a:AV} {n:Nat} {y:Str} (h:own[n]? = some (.dicS l)) (h2:Nat.ble l.length 10000 = true):kF W own n (.str y) a (own.set n (.dicS (dput y a l))):=fun A U ad s r u v Q E _ B O hr ru rv F=>by
 refine af fun nG=>?_
 obtain ⟨t⟩:=ru
 have z:At own ad n (.dicS l) r:=⟨h,rfl,hr⟩
 obtain ⟨_,o,ho,pr⟩:=O.obj _ _ _ z
 obtain ⟨ns,kvs,hd,rl⟩:=pr
 refine nG ?_
 have nd:(kvs.map (·.1)).Nodup:=by obtain ⟨_,_,_,_,_,_,nd⟩:=hd; exact nd
 have h2:=Nat.le_of_ble_eq_true h2
 refine wpAny_setItem_pairs (hsz:=by rw [rl.length,sizeLine_eq]; lia) (strKind_is pg W.w y t) (Heap.dictOf_iff.mpr ⟨_,ho,hd⟩) fun h3 hm3 sb=>?_
 refine af fun nG=>?_
 obtain ⟨o3,ho3,hd3⟩:=Heap.dictOf_iff.mp hm3
 refine nG ?_
 exact F h3 _ (O.put z sb (fun e=>by cases e) fun V le _ _=>⟨fun _=>⟨o3,ho3,ns,_,hd3,yC (rv.mono le) (rl.mono le) nd⟩,(fun _ e=>by cases e)⟩)
set_option tactic.hygienic true in
theorem Hm {n:Nat} {l l' m:List AV} (h:own[n]? = some (.lst l)) (h1:own1[n]? = some (.lst l')) (hz:Nat.ble (l'.length + m.length) 10000 = true):cz W d own (.loc n) ⟨#[101,120,116,101,110,100]⟩ own1 [.lst m] .none (own1.set n (.lst (l' ++ m))):=fun A aA U ad s v pl Q E B O rv k=>by
 refine af fun nG=>?_
 obtain ⟨e⟩:=rv
 obtain ⟨_,o,ho,pr⟩:=O.obj n _ _ ⟨h,rfl,e⟩
 obtain ⟨-⟩:=pr
 refine nG ?_
 rename_i vs0 n0
 rw [show (⟨#[101,120,116,101,110,100]⟩:Str) = ("extend":Str) by decide +kernel]
 refine getMethod_list_of PySem.F.slot_list_extend PySem.F.type_list_extend (items:=vs0.toArray) ⟨_,ho,rfl,n0,rfl⟩ ⟨_,ho,rfl⟩ (k _ [.ref _] s.toks (fD _) fun s' ad' vs Q' E' kk B' rl F=>?_)
 refine af fun nG=>?_
 obtain ⟨rv,rl⟩:=rl
 obtain rfl:=rl
 have at1:At own1 ad' n (.lst l') _:=⟨h1,rfl,kk.ad _ _ e⟩
 obtain ⟨_,o',ho',pr'⟩:=kk.owns.obj _ _ _ at1
 obtain ⟨rl⟩:=pr'
 rename_i vs' n'
 obtain ⟨hb,rl2⟩:=rv
 refine nG ?_
 rename_i ws n2
 have z1:vs'.toArray.size = l'.length:=by rw [List.size_toArray,rl.length]
 have z2:ws.toArray.size = m.length:=by rw [List.size_toArray,rl2.length]
 have hz:=Nat.le_of_ble_eq_true hz
 have hs:sizeLine = 16777216:=sizeLine_eq
 refine call_meets PySem.F.slot_list_extend ⟨_,ho',rfl⟩ PySem.F.entry_list_extend (PySem.F.args_list_extend_2 _ _) (AutoSeq1.list_extend_list_list_0 _ vs'.toArray n' _ ws.toArray n2 ?_ (by lia) (by lia)) ⟨ho',hb.1,?_⟩
 ·rw [z1,z2]
  have:Builtin.List.listTooLong (l'.length + m.length) = false:=by simp [Builtin.List.listTooLong,hs]; lia
  rw [this]; simp
 ·refine F .none _ _ ad' (kk.owns.put at1 (Heap.SameBut.update ..) (fun e=>by exact fj e) fun V le _ _=>⟨fun _=>⟨_,by
   rw [Heap.get?_update_self _ ho' rfl]
   exact congrArg some (by simp [Obj.mapSeq,bl]; rfl),.mk (n:=_) ((rl.append rl2).mono le)⟩,(fun _ e=>by cases e)⟩) rfl
noncomputable def gr (W:ab) (V:Vw):List (Int×AV)→List (Value×Value)→Prop
 | [],vs=>vs = []
 | (i,a)::l,vs=>gS (fun p:Value×Value=>bK i p.1∧Rel W V p.2 a) (gr W V l) vs
noncomputable abbrev hY (c:ai W d sc) (σ:ao) (own:Own) (pos:Pos) (ks:List (Option Expr)) (es:List Expr) (l:List (Int×AV)) (own':Own):Prop:=iP c σ own (evalPairs (pairTrees ks es c.env pos)) (fun V vs=>gr W V l vs) own'
theorem gr.mono {V V':Vw} (s:V.Le V'):∀ {l:List (Int×AV)} {vs},gr W V l vs→gr W V' l vs
 | [],_,r=>r
 | _::_,_,.mk ⟨h,q⟩ r=>.mk ⟨h,q.mono s⟩ (gr.mono s r)
theorem hY.nil:hY c σ own pos [] [] [] own:=fun s ad Q E S F=>pairTrees_nil_walk (F.here S.owns (tk:=s.toks) rfl)
theorem hY.cons {k e:Expr} {ks:List (Option Expr)} {es:List Expr} {i:Int} {a:AV} {l:List (Int×AV)} (hk:aj c σ own (eval k c.env) (.int (.lit i)) own1) (he:aj c σ own1 (eval e c.env) a own2) (h:hY c σ own2 pos ks es l own3):hY c σ own pos (some k::ks) (e::es) ((i,a)::l) own3:=fun s ad Q E S F=>
 pairTrees_cons_walk (hk s ad _ _ S fun u h1 t1 a1 k1 r1=>he _ a1 _ _ (S.after k1) fun v h2 t2 a2 k2 r2=>h _ a2 _ _ (S.after (k1.trans k2)) fun vs h3 t3 a3 k3 r3=>F _ h3 t3 a3 ((k1.trans k2).trans k3) (.mk ⟨r1,r2.mono k3.view⟩ r3))
structure Hn (W:ab) (V:Vw) (l:List (Int×AV)) (vs:List (Value×Value)):Prop where
 k:allIntKeys vs = true
 n:(intKeyPairs vs).map (·.1) = l.map (·.1)
 r:bO W V (intKeyPairs vs) l
theorem gr.ints {V:Vw}:∀ {l:List (Int×AV)} {vs},gr W V l vs→Hn W V l vs
 | [],_,r=>by obtain rfl:=r; exact ⟨rfl,rfl,rfl⟩
 | (i,a)::l,_,.mk (v:=(u,v)) ⟨h,q⟩ r=>by
  obtain ⟨k,n,r⟩:=r.ints
  obtain ⟨t⟩:=(h:bK i u)
  exact ⟨by simpa [allIntKeys] using k,by simpa [intKeyPairs] using n,.mk (.mk q) r⟩
theorem GG.big {h:Heap} (G:GG W h):(h.objs.size == sysModules) = false:=by
 obtain ⟨o,ho⟩:=Option.isSome_iff_exists.mp (wJ W.w.params)
 obtain ⟨_,ho⟩:=G.ex id (W.B.fact _ _ ho)
 have:=Heap.lt_size ho
 exact beq_eq_false_iff_ne.mpr fun q=>by rw [q] at this; exact absurd this (by decide)
noncomputable def newD:Obj:={ cls:=.type "dict",data:=.dict #[] }
theorem yD {κ:Type} [DecidableEq κ] {w:World} (k:PySem.KeyKind pg w κ):newD.IsDictOf k []:=⟨#[],0,⟨rfl,rfl,rfl⟩,rfl,fun e he=>by simp at he,.nil,.nil⟩
theorem aj.Ho:aj c σ own (eval (.Dict [] [] pos) c.env) (.loc own.length) (own ++ [.dicS []]):=fun s ad Q E S F=>
 wpAny_Dict_empty (F _ _ s.toks _ (S.owns.alloc (ob:=newD) (pv:=.dicS []) S.Gp (fun _=>S.gh) (.push _ _) (c7 _) (Heap.get?_push_size _ rfl) rfl fun V _ _=>⟨S.Gp.big,[],yD _,rfl⟩) S.owns.qw)
theorem aj.dict {ks:List (Option Expr)} {es:List Expr} {l:List (Int×AV)} (h1:ks.all (·.isSome) = true) (h2:Nat.beq ks.length es.length = true) (h3:(Nat.blt 0 ks.length && Nat.ble ks.length 15) = true) (hn:(l.map (·.1)).Nodup) (h:hY c σ (own ++ [.dicI []]) pos ks es l own1) (hp:own1[own.length]? = some (.dicI [])):aj c σ own (eval (.Dict ks es pos) c.env) (.loc own.length) (own1.set own.length (.dicI l)):=fun s ad Q E S F=>by
 refine af fun nG=>?_
 obtain ⟨h3,h4⟩:=Bool.and_eq_true_iff.mp h3
 refine nG ?_
 refine wpAny_Dict_walk (knd:=intKind pg W.w) h1 (Nat.eq_of_beq_eq_true h2) (fun q=>by rw [q] at h3; exact aR h3) (Nat.le_of_ble_eq_true h4) ?_
 have k0:=S.owns.alloc (ob:=newD) (pv:=.dicI []) (h':=s.heap.push newD) S.Gp (fun _=>S.gh) (.push _ _) (c7 _) (Heap.get?_push_size _ rfl) rfl fun V _ _=>⟨S.Gp.big,[],yD _,rfl⟩
 refine h (mv s (s.heap.push newD) s.toks) _ _ _ (S.after k0) fun vs h' tk ad' k r=>?_
 refine af fun nG=>?_
 obtain ⟨a1,a2,a3⟩:=r.ints
 have hD:ad'[own.length]? = some s.heap.objs.size:=k.ad _ _ (by show (ad ++ [_])[own.length]? = _; rw [← S.owns.len]; exact iO)
 have z:At own1 ad' own.length (.dicI []) s.heap.objs.size:=⟨hp,rfl,hD⟩
 obtain ⟨_,o,ho,ns,kvs,hd,rl⟩:=k.owns.obj _ _ _ z
 obtain rfl:kvs = []:=rl
 refine nG ?_
 refine display_done_int a1 (by rw [a2]; exact hn) (Heap.dictOf_iff.mpr ⟨o,ho,hd⟩) fun h2 hdo hs2=>?_
 refine af fun nG=>?_
 obtain ⟨ob,hob,hdict⟩:=Heap.dictOf_iff.mp hdo
 refine nG ?_
 exact F _ h2 _ ad' ((k0.trans k).trans (k.owns.put z hs2 (fun e=>by cases e) fun V le _ _=>⟨fun _=>⟨ob,hob,ns,_,hdict,a3.mono le⟩,(fun _ e=>by cases e)⟩)) (.mk hD)
end
end Mine
end
section
set_option backward.match.sparseCases false
open PySem PySem.W PyProof.Rows PySem.Calls
namespace Mine
section
mutual
noncomputable def nl:AV→Bool
 | .loc _=>false
 | .tup l=>ba l
 | .lst l=>ba l
 | .inst _ fs=>hZ fs
 | .dicS l=>hZ l
 | .dicI l=>nN l
 | _=>true
noncomputable def ba:List AV→Bool
 | []=>true
 | a::l=>(match nl a with
  | true=>ba l
  | false=>false)
noncomputable def hZ:List (Str×AV)→Bool
 | []=>true
 | (_,a)::l=>(match nl a with
  | true=>hZ l
  | false=>false)
noncomputable def nN:List (Int×AV)→Bool
 | []=>true
 | (_,a)::l=>(match nl a with
  | true=>nN l
  | false=>false)
end
theorem both {a b:Bool} (h:(match a with | true=>b | false=>false) = true):a = true∧b = true:=by
 cases a
 ·cases h
 ·exact ⟨rfl,h⟩
section
variable {W:ab} {g g':GH} {ad ad':List Addr}
mutual
theorem dQ (s:Sub g g'):∀ {a:AV} {v:Value},nl a = true→Rel W ⟨g,ad⟩ v a→Rel W ⟨g',ad'⟩ v a
 | .none,_,_,r | .bool _,_,_,r | .sb _,_,_,r | .int _,_,_,r | .str _,_,_,r | .bytes _,_,_,r | .con _,_,_,r | .blt _,_,_,r | .any,_,_,r | .anyS,_,_,r=>r
 | .tup _,_,h,r=>by obtain ⟨h1,r⟩:=r; exact .mk (s _ _ h1) (eZ s h r)
 | .lst _,_,h,r=>by obtain ⟨h1,r⟩:=r; exact .mk (s _ _ h1) (eZ s h r)
 | .inst _ _,_,h,r=>by obtain ⟨h1,hd,r⟩:=r; exact .mk (s _ _ h1) (s _ _ hd) (yE s h r)
 | .dicI _,_,h,r=>by obtain ⟨h1,ns,d,r⟩:=r; exact .mk (s _ _ h1) ns d (yF s h r)
 | .dicS _,_,h,r=>by obtain ⟨h1,ns,d,r⟩:=r; exact .mk (s _ _ h1) ns d (yG s h r)
 | .rng _ _,_,_,r=>by obtain ⟨h,k⟩:=r; exact .mk (s _ _ h) k
 | .hole _,_,_,r=>W.ηm _ _ _ _ s r
theorem eZ (s:Sub g g'):∀ {as:List AV} {vs:List Value},ba as = true→ah W ⟨g,ad⟩ vs as→ah W ⟨g',ad'⟩ vs as
 | [],_,_,r=>r
 | _::_,_,h,r=>by obtain ⟨q,r⟩:=r; exact .mk (dQ s (both h).1 q) (eZ s (both h).2 r)
theorem yE (s:Sub g g'):∀ {fs:List (Str×AV)} {es:List DictEntry},hZ fs = true→bF W ⟨g,ad⟩ es fs→bF W ⟨g',ad'⟩ es fs
 | [],_,_,r=>r
 | _::_,_,h,r=>by obtain ⟨⟨k,q⟩,r⟩:=r; exact .mk (.mk k (dQ s (both h).1 q)) (yE s (both h).2 r)
theorem yF (s:Sub g g'):∀ {fs:List (Int×AV)} {es:List (Int×Value)},nN fs = true→bO W ⟨g,ad⟩ es fs→bO W ⟨g',ad'⟩ es fs
 | [],_,_,r=>r
 | _::_,_,h,r=>by obtain ⟨⟨q⟩,r⟩:=r; exact .mk (.mk (dQ s (both h).1 q)) (yF s (both h).2 r)
theorem yG (s:Sub g g'):∀ {fs:List (Str×AV)} {es:List (Str×Value)},hZ fs = true→bI W ⟨g,ad⟩ es fs→bI W ⟨g',ad'⟩ es fs
 | [],_,_,r=>r
 | _::_,_,h,r=>by obtain ⟨⟨q⟩,r⟩:=r; exact .mk (.mk (dQ s (both h).1 q)) (yG s (both h).2 r)
end
end
variable {W:ab} {d:Nat}
theorem cK {ad:List Addr} {u:Addr}:¬ak [] ad u:=fun ⟨_,_,z⟩=>(by exact aq z.own)
theorem aN.none {U:AS} {h:Heap}:aN W U ⟨[],[],h⟩:=⟨rfl,fun n pv a z=>(aq z.own),fun n t e=>((by exact aq e)),fun n m pv qv a z=>(aq z.own),fun u z=>(cK z).elim⟩
theorem Tells.lift {f:Value} {as:List AV} {r:AV} {own own':Own} (T:Tells W d f [] as r own') (ha:ba as = true) (hr:nl r = true):Tells W d f own as r own:=⟨T.1,fun A a U ad s vs Q E B O rl F=>
 T.2 A a (fun u=>U u∨ak own ad u) [] s vs Q E (B.more O) .none (eZ (dZ fun u q=>q.elim id fun q=>(cK q).elim) ha rl) fun v h' tk ad' k rv=>
  have kk:ag s.heap h':=au.trans (ag.of fun b o e=>a0.mpr ⟨e,cK⟩) k.keep
  F v h' tk ad (O.grow kk) (dQ (dZ fun u q=>.inl q) hr rv)⟩
end
end Mine
end
section
open PySem PySem.W PyProof.Rows PySem.Calls
set_option maxRecDepth 100000
namespace Mine
section
variable {W:ab} {A:Around} {U:AS} {ad:List Addr} {s:Shared} {E:Value→Shared→Prop} {ks vs out:List Value} {a kS:Addr} {hb:Heap}
noncomputable def SortRun (W:ab) (A:Around) (ks vs out:List Value) (s:Shared):Prop:=(vs.length < 2∧out = vs)∨(2≤vs.length∧vs.length < 64∧∃ (κ:SortKind) (p:Array Nat),out = p.toList.map (fun i=>vs.getD i Value.none)∧(∀ (Q:SortKind→Shared→Prop) E,Q κ s→aw W A (keyKind' ks.toArray) Q E s)∧∀ Q:Array Nat→Shared→Prop,Q p s→(kas_sort vs.length).kasWp (kas_ask pg W.w A κ ks) Q s)
theorem yH {P:Unit×SortSt→Shared→Prop} {κ:SortKind} {p:Array Nat} (hl:ks.length = vs.length) (h2:2≤vs.length) (h64:vs.length < 64) (hr:∀ Q:Array Nat→Shared→Prop,Q p s→(kas_sort vs.length).kasWp (kas_ask pg W.w A κ ks) Q s)
  (h:∀ st,(arrOf st).map (·.2) = List.toArray (p.toList.map fun i=>vs.getD i Value.none)→failedOf st = none→P ((),st) s):aw W A ((sortRuns').run (SortSt.mk' κ (ks.toArray.zip vs.toArray) #[] 7 none)) P E s:=by
 refine wpAny_mono (kat_run (Q:=fun st' s'=>s' = s∧arrOf st' = p.map (kas_item (ks.toArray.zip vs.toArray))∧failedOf st' = none) (G:=fun p' s'=>p' = p∧s' = s) hl h2 h64 ?_ (hr _ ⟨rfl,rfl⟩)) ?_ fun _ _ e=>e
 ·rintro p' st' s' a1 a2 a3 ⟨rfl,rfl⟩; exact ⟨rfl,a2,a3⟩
 ·rintro ⟨⟨⟩,st'⟩ s' ⟨rfl,har,hf⟩
  exact h _ (kat_snds hl har) hf
theorem yI (hl:ks.length = vs.length):(arrOf (SortSt.mk' general' (ks.toArray.zip vs.toArray) #[] 7 none)).map (·.2) = vs.toArray:=by
 show (ks.toArray.zip vs.toArray).map (·.2) = vs.toArray
 apply Array.toList_inj.mp
 simp [List.map_snd_zip,hl]
theorem gx {h:Heap} {n:Nat} (ho:h.get? a = some (bl vs n)):bz h a:=⟨_,ho,rfl⟩
noncomputable abbrev nO (h:Heap) (a:Addr) (vs:List Value):Heap:=((h.update a (Obj.mapSeq fun _=>(#[]:Array Value))).push (seqObj "tuple" vs.toArray 0)).push (seqObj "list" #[] 0)
theorem dR {n:Nat} (h:n < 64):n≤sizeLine:=by rw [sizeLine_eq]; lia
theorem Hp {n:Nat} {P:PySem.Fin→Shared→Prop} (ho:s.heap.get? a = some (bl vs n)) (hz:vs.length < 64) (hz':out.length < 64) (hr:∀ h' tk,au (· = a) s.heap h'→SortRun W A vs vs out (mv s h' tk))
  (h:∀ h' tk n',au (· = a) s.heap h'→h'.get? a = some (bl out n')→P (.done (.ret .none)) (mv s h' tk)):aw W A (Builtin.«list.sort» ⟨[.ref a],[]⟩) P E s:=by
 have s1:=Heap.SameBut.update s.heap a (Obj.mapSeq fun _=>(#[]:Array Value))
 obtain ⟨e1,ho1⟩:∃ e1,(s.heap.update a (Obj.mapSeq fun _=>(#[]:Array Value))).get? a = some (seqObj "list" #[] e1):=⟨_,get?_update_seq ho fun _=>#[]⟩
 have k1:au (· = a) s.heap (nO s.heap a vs):=(au.one (gx ho) s1).trans ((au.trans (ag.push _ _) (ag.push _ _)).x)
 have ho6:(nO s.heap a vs).get? a = some (seqObj "list" #[] e1):=Heap.get?_push_of_some _ (Heap.get?_push_of_some _ ho1)
 rw [list_sort_plain]
 refine wpAny_bind (listItems_at ho rfl ?_)
 refine wpAny_bind (listUpdate_at ho rfl ?_ (by rw [List.size_toArray]; exact dR hz) (Nat.zero_le _))
 refine wpAny_bind (seqEpoch_at ho1 rfl ?_)
 refine wpAny_bind (wpAny_newTuple ?_ (by show vs.length≤_; exact dR hz))
 refine wpAny_bind (wpAny_newList ?_ (Nat.zero_le _))
 refine wpAny_holding ?_
 show wpAny _ A _ P E { s with heap:=nO s.heap a vs }
 have fin:∀ st:SortSt,(arrOf st).map (·.2) = out.toArray→failedOf st = none→aw W A (do
   let sorted:=(arrOf st).map (·.2)
   let touched:=(← seqEpoch a) != e1
   Builtin.List.listUpdate (.ref a) fun _=>sorted
   if let some e:=failedOf st then rule "list.sort.comparison-raised"; throw e
   if touched then rule "list.sort.modified"; raiseError "ValueError" "list modified during sort"
   ret .none) P E { s with heap:=nO s.heap a vs }:=by
  intro st hout hf
  refine wpAny_bind (seqEpoch_at ho6 rfl ?_)
  rw [hout]
  refine wpAny_bind (listUpdate_at ho6 rfl ?_ (Nat.zero_le _) (by rw [List.size_toArray]; exact Nat.le_succ_of_le (dR hz')))
  rw [hf]
  simp only [bne_self_eq_false,Bool.false_eq_true,if_false]
  exact wpAny_pure (h _ _ _ (k1.trans (au.one (gx (vs:=[]) ho6) (Heap.SameBut.update ..))) (get?_update_seq ho6 fun _=>out.toArray))
 dsimp only
 rcases hr _ s.toks k1 with ⟨h2,e⟩ | ⟨h2,h64,κ,p,e,hk,hr'⟩
 ·have hn:vs.toArray.size < 2:=by rw [List.size_toArray]; exact h2
  rw [if_pos hn,if_pos hn]
  refine wpAny_bind (wpAny_pure ?_)
  rw [StateT.run_pure]
  refine wpAny_bind (wpAny_pure ?_)
  exact fin _ (by rw [e]; exact yI rfl) rfl
 ·have hn:¬ vs.toArray.size < 2:=by rw [List.size_toArray]; lia
  rw [if_neg hn,if_neg hn]
  refine wpAny_bind (hk _ _ ?_)
  refine wpAny_bind (yH rfl h2 h64 hr' fun st hout hf=>?_)
  exact fin _ (by rw [hout,e]) hf
noncomputable abbrev fK (h:Heap) (vs:List Value):Heap:=((h.push (seqObj "list" #[] 0)).update h.objs.size (Obj.mapSeq (· ++ vs.toArray))).push (seqObj "list" vs.toArray 0)
structure Hq (h:Heap) (vs:List Value):Prop where
 sz:((h.push (seqObj "list" #[] 0)).update h.objs.size (Obj.mapSeq (· ++ vs.toArray))).objs.size = h.objs.size + 1
 at_:(fK h vs).get? (h.objs.size + 1) = some (seqObj "list" vs.toArray 0)
 keep:∀ b o,h.get? b = some o→(fK h vs).get? b = some o
 new:h.get? (h.objs.size + 1) = none
theorem yJ {h:Heap} {vs:List Value}:Hq h vs:=by
 have hsz:((h.push (seqObj "list" #[] 0)).update h.objs.size (Obj.mapSeq (· ++ vs.toArray))).objs.size = h.objs.size + 1:=by rw [Heap.size_update,size_push']
 refine ⟨hsz,by rw [← hsz]; exact Heap.get?_push_size _ rfl,fun b o q=>?_,eY (Nat.le_succ _)⟩
 have hlt:b < h.objs.size:=Heap.lt_size q
 rw [Heap.get?_push_ne _ _ _ (by rw [hsz]; exact Nat.ne_of_lt (Nat.lt_succ_of_lt hlt)),Heap.get?_update_ne _ _ _ _ (Nat.ne_of_lt hlt),Heap.get?_push_ne _ _ _ (Nat.ne_of_lt hlt)]
 exact q
theorem Hr {l:Addr} {Q:Value→Shared→Prop} (hl:s.heap.IsList l vs.toArray) (hz:vs.length < 64) (hz':out.length < 64) (hr:∀ (A':Around) h' tk,ag s.heap h'→SortRun W A' vs vs out (mv s h' tk))
  (h:∀ D h' tk n',ag s.heap h'→s.heap.get? D = none→h'.get? D = some (bl out n')→Q (.ref D) (mv s h' tk)):aw W A (call (.builtin "sorted") [.ref l]) Q E s:=by
 refine Calls.call_function_entry kind_sorted plain_sorted entry_sorted (args_sorted1 _) ?_
 unfold Builtin.«sorted»
 refine wpAny_bind (m:=checkCount "sorted" 1 1 _) (wpAny_pure ?_)
 refine wpAny_bind (collect_list hl ?_ (dR hz))
 refine wpAny_bind (wpAny_newList ?_ (dR hz))
 have C:=yJ (h:=s.heap) (vs:=vs)
 show wpAny _ _ _ _ _ { s with heap:=fK s.heap vs }
 rw [C.sz]
 refine wpAny_bind (wpAny_holding (wpAny_call_entry slot_list_sort ⟨_,C.at_,rfl⟩ entry_list_sort ?body (args_list_sort _)))
 case body=>
  have th:∀ {h'},au (· = s.heap.objs.size + 1) (fK s.heap vs) h'→ag s.heap h':=fun kx=>(ag.of C.keep).dD kx fun u hu=>hu▸C.new
  refine Hp (W:=W) (s:={ s with heap:=fK s.heap vs }) C.at_ hz hz' (fun h' tk kx=>hr A.in1.in1 h' tk (th kx)) fun h' tk n' kx e=>?_
  exact ⟨_,rfl,wpAny_pure ⟨_,rfl,h _ h' tk n' (th kx) C.new e⟩⟩
noncomputable def rC (W:ab) (A:Around) (hb:Heap) (f:Value) (a r:AV):Prop:=∀ U ad s v (Q:Value→Shared→Prop) E,ag hb s.heap→Base W U s.heap→Rel W ⟨aD U s.heap,ad⟩ v a→Got W U ad s r Q→aw W A (call f [v]) Q E s
inductive fN (W:ab) (A:Around) (hb:Heap) (f:Value):List AV→List AV→Prop where
 | nil:fN W A hb f [] []
 | cons {a r:AV} {as rs:List AV} (h:rC W A hb f a r) (t:fN W A hb f as rs):fN W A hb f (a::as) (r::rs)
theorem au.dS {X:AS} {h h':Heap} (k:au X h h') (s:∀ u,X u→U u):(⟨Mine.aD U h,ad⟩:Vw).Le ⟨Mine.aD U h',ad⟩:=⟨k.sub fun b o _ n=>⟨fun q=>n (s b q),n⟩,fun _ _ e=>e⟩
set_option tactic.hygienic true in
theorem Hs {f:Value} (G:GG W hb) (hk0:hb.get? kS = none) (hkU:U kS) {as ks:List AV} (kt:fN W A hb f as ks):∀ {vs ksv:List Value} {ks0:List AV} {n:Nat} {s:Shared} {Q:Unit→Shared→Prop},ag hb s.heap→(∀ u,U u→∃ o,s.heap.get? u = some o)→s.heap.get? kS = some (bl ksv n)→ah W ⟨aD U s.heap,ad⟩ vs as→ah W ⟨aD U s.heap,ad⟩ ksv ks0→
  ksv.length + vs.length < 64→(∀ h' tk ksv' n',ag hb h'→au (· = kS) s.heap h'→h'.get? kS = some (bl ksv' n')→ah W ⟨aD U h',ad⟩ ksv' (ks0 ++ ks)→Q () (mv s h' tk))→aw W A (forIn vs PUnit.unit fun x _=>do
   match ← (call f [x]).attempt with
   | .ok k=>do
    Builtin.List.listUpdate (.ref kS) (·.push k)
    pure (ForInStep.yield PUnit.unit)
   | .error e=>do
    rule "list.sort.key-raised"
    let made ← Builtin.List.listItems (.ref kS)
    Builtin.List.listUpdate (.ref kS) fun _=>#[]
    letGo made.toList.reverse [e]
    Builtin.List.listUpdate (.ref a) fun _=>out.toArray
    let _ ← (throw e:Sem PUnit)
    pure (ForInStep.yield PUnit.unit)) Q E s:=by
 induction kt with
 | nil=>
  intro vs ksv ks0 n s Q K low ho rl rk hz hQ
  obtain rfl:=rl
  rw [List.forIn_nil]
  exact wpAny_pure (hQ s.heap s.toks ksv n K (.refl _ _) ho (by rw [List.append_nil]; exact rk))
 | @cons x kr as krs h t ih=>
  intro vs ksv ks0 n s Q K low ho rl rk hz hQ
  obtain ⟨rv,rl⟩:=rl
  rename_i v vs
  rw [List.forIn_cons]
  rw [List.length_cons] at hz
  refine wpAny_bind (wpAny_bind (wpAny_attempt ?_))
  refine h U ad s v _ _ K ⟨au.trans G K,low⟩ rv fun k h1 t1 k1 r1=>?_
  have ho1:=k1.get ho rfl
  have ea:(List.toArray ksv).push k = List.toArray (ksv ++ [k]):=by simp
  obtain ⟨c2,hc2⟩:∃ c2,(h1.update kS (Obj.mapSeq (·.push k))).get? kS = some (bl (ksv ++ [k]) c2):=⟨_,by show _ = some (seqObj "list" (List.toArray (ksv ++ [k])) _); rw [← ea]; exact get?_update_seq ho1 (·.push k)⟩
  have kx:au (· = kS) h1 (h1.update kS (Obj.mapSeq (·.push k))):=au.one (gx ho1) (Heap.SameBut.update ..)
  have K2:ag hb (h1.update kS (Obj.mapSeq (·.push k))):=(au.trans K k1).dD kx fun u hu=>hu▸hk0
  have le:=(k1.x.trans kx:au (· = kS) s.heap _)
  have dS:=le.dS (U:=U) (ad:=ad) fun u q=>q▸hkU
  dsimp only
  refine wpAny_bind (listUpdate_at ho1 rfl ?_ (by rw [List.size_toArray]; exact dR (by lia)) (by rw [Array.size_push,List.size_toArray]; exact Nat.le_succ_of_le (dR (n:=ksv.length + 1) (by lia))))
  refine wpAny_pure ?_
  dsimp only
  refine ih (ks0:=ks0 ++ [kr]) (s:=mv s (h1.update kS (Obj.mapSeq (·.push k))) t1) K2 (fun u hu=>?_) hc2 (rl.mono dS) ((rk.mono dS).append (.cons (r1.mono (kx.dS fun u q=>q▸hkU)) (show ah W _ [] [] from rfl))) (by rw [List.length_append,List.length_singleton]; lia) fun h' tk ksv' n' K3 kx3 e3 r3=>hQ h' tk ksv' n' K3 (le.trans kx3) e3 (by rw [List.append_assoc] at r3; exact r3)
  by_cases q:u = kS
  ·rw [q]; exact ⟨_,hc2⟩
  ·obtain ⟨o,e⟩:=low u hu; exact le.ex q e
theorem fN.length {f:Value} {as rs:List AV} (t:fN W A hb f as rs):rs.length = as.length:=by induction t with | nil=>rfl | cons _ _ ih=>exact congrArg (· + 1) ih
theorem Ht {f:Value} {as ks:List AV} {n:Nat} {P:PySem.Fin→Shared→Prop} (G:GG W hb) (K:ag hb s.heap) (ha0:hb.get? a = none) (low:∀ u,U u→∃ o,s.heap.get? u = some o) (ho:s.heap.get? a = some (bl vs n)) (rl:ah W ⟨aD (fun u=>u = a∨U u) s.heap,ad⟩ vs as) (kt:fN W A hb f as ks)
  (hz:vs.length < 64) (hz':out.length < 64) (hr:∀ U' h' tk ksv,ag hb h'→ah W ⟨aD U' h',ad⟩ ksv ks→SortRun W A ksv vs out (mv s h' tk))
  (h:∀ h' tk n',ag hb h'→h'.get? a = some (bl out n')→P (.done (.ret .none)) (mv s h' tk)):aw W A (ksk_tree a f false) P E s:=by
 have s1:=Heap.SameBut.update s.heap a (Obj.mapSeq fun _=>(#[]:Array Value))
 obtain ⟨e1,ho1⟩:∃ e1,(s.heap.update a (Obj.mapSeq fun _=>(#[]:Array Value))).get? a = some (seqObj "list" #[] e1):=⟨_,get?_update_seq ho fun _=>#[]⟩
 unfold ksk_tree
 refine wpAny_bind (listItems_at ho rfl ?_)
 refine wpAny_bind (listUpdate_at ho rfl ?_ (by rw [List.size_toArray]; exact dR hz) (Nat.zero_le _))
 refine wpAny_bind (seqEpoch_at ho1 rfl ?_)
 refine wpAny_bind (wpAny_newTuple ?_ (by show vs.length≤_; exact dR hz))
 refine wpAny_bind (wpAny_newList ?_ (Nat.zero_le _))
 refine wpAny_holding ?_
 generalize hH1:s.heap.update a (Obj.mapSeq fun _=>(#[]:Array Value)) = H1 at *
 dsimp only
 generalize hH2:H1.push { cls:=.type "tuple",data:=.seq vs.toArray.toList.toArray } = H2
 generalize hH3:H2.push { cls:=.type "list",data:=.seq ([]:List Value).toArray } = H3
 have kx1:au (· = a) s.heap H1:=au.one (gx ho) s1
 have K13:ag H1 H3:=by rw [← hH3,← hH2]; exact au.trans (ag.push _ _) (ag.push _ _)
 have KH1:ag hb H1:=K.dD kx1 fun u hu=>hu▸ha0
 have KH3:ag hb H3:=KH1.trans K13
 have hkS:H3.get? H2.objs.size = some (bl [] 0):=by rw [← hH3]; exact Heap.get?_push_size _ rfl
 have sz2:H2.objs.size = H1.objs.size + 1:=by rw [← hH2]; exact Heap.size_push ..
 have hk1:H1.get? H2.objs.size = none:=eY (by rw [sz2]; exact Nat.le_succ _)
 have hk0:hb.get? H2.objs.size = none:=KH1.gone hk1
 have hks:s.heap.get? H2.objs.size = none:=eY (by rw [sz2,s1.1]; exact Nat.le_succ _)
 have ho3:H3.get? a = some (seqObj "list" #[] e1):=K13.get ho1 rfl
 have nak:a≠H2.objs.size:=fun q=>by rw [q,hk1] at ho1; exact aq ho1
 have x13:au (· = a) s.heap H3:=kx1.trans K13.x
 have dS:(⟨aD (fun u=>u = a∨U u) s.heap,ad⟩:Vw).Le ⟨aD (fun u=>u = H2.objs.size∨u = a∨U u) H3,ad⟩:=⟨x13.sub fun b o e n=>⟨fun q=>n (.inl q),fun q=>q.elim (eQ e hks) n⟩,fun _ _ e=>e⟩
 have low3:∀ u,(u = H2.objs.size∨u = a∨U u)→∃ o,H3.get? u = some o:=fun u hu=>by
  rcases hu with rfl | rfl | q
  ·exact ⟨_,hkS⟩
  ·exact ⟨_,ho3⟩
  ·by_cases z:u = a
   ·exact ⟨_,z▸ho3⟩
   ·obtain ⟨o,e⟩:=low u q; exact x13.ex z e
 unfold ksk_rest
 refine wpAny_bind (wpAny_rule ?_)
 rw [List.forIn_toArray]
 refine wpAny_bind (Hs (W:=W) (A:=A) (ad:=ad) (U:=fun u=>u = H2.objs.size∨u = a∨U u) (hb:=hb) (kS:=H2.objs.size) (a:=a) (out:=vs) (E:=E) (s:=mv s H3 s.toks) (vs:=vs) (ksv:=[]) (ks0:=[]) (n:=0) G hk0 (.inl rfl) kt KH3 low3 hkS (rl.mono dS) rfl (by simpa using hz) fun h4 t4 ksv n4 K4 kx4 e4 r4=>?_)
 rw [List.nil_append] at r4
 have ho4:h4.get? a = some (seqObj "list" #[] e1):=kx4.b0 nak ho3 (.inl rfl)
 have lks:ksv.length = vs.length:=by rw [r4.length,rl.length,kt.length]
 refine wpAny_bind (listItems_at e4 rfl ?_)
 unfold ksk_end
 dsimp only
 rw [if_neg Bool.false_ne_true]
 have fin:∀ st:SortSt,(arrOf st).map (·.2) = out.toArray→failedOf st = none→aw W A (ksk_tail a false e1 (.ref H2.objs.size) st) P E (mv s h4 t4):=by
  intro st hout hff
  have s2:=Heap.SameBut.update h4 H2.objs.size (Obj.mapSeq fun _=>(#[]:Array Value))
  have ho5:(h4.update H2.objs.size (Obj.mapSeq fun _=>(#[]:Array Value))).get? a = some (seqObj "list" #[] e1):=(s2.2 a nak).trans ho4
  have K5:ag hb (h4.update H2.objs.size (Obj.mapSeq fun _=>(#[]:Array Value))):=K4.dD (au.one (gx e4) s2) fun u hu=>hu▸hk0
  unfold ksk_tail
  dsimp only
  rw [hout]
  refine wpAny_bind (listUpdate_at e4 rfl ?_ (by rw [List.size_toArray]; exact dR (by lia)) (Nat.zero_le _))
  refine wpAny_bind (wpAny_letGo ?_)
  refine wpAny_bind (seqEpoch_at ho5 rfl ?_)
  refine wpAny_bind (listUpdate_at ho5 rfl ?_ (Nat.zero_le _) (by rw [if_neg Bool.false_ne_true,List.size_toArray]; exact Nat.le_succ_of_le (dR hz')))
  rw [hff]
  simp only [bne_self_eq_false,Bool.false_eq_true,if_false]
  exact wpAny_pure (h _ _ _ (K5.dD (au.one (gx (vs:=[]) ho5) (Heap.SameBut.update ..)) fun u hu=>hu▸ha0) (get?_update_seq ho5 fun _=>out.toArray))
 rcases hr _ h4 t4 ksv K4 r4 with ⟨h2,e⟩ | ⟨h2,h64,κ,p,e,hk,hr'⟩
 ·have hn:vs.toArray.size < 2:=by rw [List.size_toArray]; exact h2
  rw [if_pos hn,if_pos hn]
  refine wpAny_bind (wpAny_pure ?_)
  rw [StateT.run_pure]
  refine wpAny_bind (wpAny_pure ?_)
  exact fin _ (by rw [e]; exact yI lks) rfl
 ·have hn:¬ vs.toArray.size < 2:=by rw [List.size_toArray]; lia
  rw [if_neg hn,if_neg hn]
  refine wpAny_bind (hk _ _ ?_)
  refine wpAny_bind (yH lks h2 h64 hr' fun st hout hff=>?_)
  exact fin _ (by rw [hout,e]) hff
theorem Hu {l q:Addr} {as ks:List AV} {Q:Value→Shared→Prop} (B:Base W U s.heap) (hl:s.heap.IsList l vs.toArray) (rl:ah W ⟨aD U s.heap,ad⟩ vs as) (kt:fN W A.in1.in1 s.heap (.ref q) as ks) (hz:vs.length < 64) (hz':out.length < 64)
  (hr:∀ (A':Around) U' h' tk ksv,ag s.heap h'→ah W ⟨aD U' h',ad⟩ ksv ks→SortRun W A' ksv vs out (mv s h' tk))
  (h:∀ D h' tk n',ag s.heap h'→s.heap.get? D = none→h'.get? D = some (bl out n')→Q (.ref D) (mv s h' tk)):aw W A (call (.builtin "sorted") [.ref l] [(Str.ofString "key",.ref q)]) Q E s:=by
 refine call_function_entry_kw kind_sorted plain_sorted entry_sorted (ksk_s1 _ _) ?_
 unfold Builtin.«sorted»
 refine wpAny_bind (m:=checkCount "sorted" 1 1 _) (wpAny_pure ?_)
 refine wpAny_bind (collect_list hl ?_ (dR hz))
 refine wpAny_bind (wpAny_newList ?_ (dR hz))
 have C:=yJ (h:=s.heap) (vs:=vs)
 show wpAny _ _ _ _ _ { s with heap:=fK s.heap vs }
 rw [C.sz]
 refine wpAny_bind (wpAny_holding (wpAny_call_entry_kw slot_list_sort ⟨_,C.at_,rfl⟩ entry_list_sort ?body (ksk_l1 _ _)))
 case body=>
  show wpAny _ A.in1.in1 (Builtin.«list.sort» ⟨[.ref (s.heap.objs.size + 1)],[(Str.ofString "key",.ref q)]⟩) _ _ _
  rw [ksk_t1]
  have kc:ag s.heap (fK s.heap vs):=.of C.keep
  have dS:(⟨aD U s.heap,ad⟩:Vw).Le ⟨aD (fun u=>u = s.heap.objs.size + 1∨U u) (fK s.heap vs),ad⟩:=⟨kc.sub fun b o e n=>⟨id,fun q=>q.elim (eQ e C.new) n⟩,fun _ _ e=>e⟩
  exact Ht (W:=W) (U:=U) (hb:=s.heap) (s:=mv s (fK s.heap vs) s.toks) B.G kc C.new (fun u hu=>let ⟨o,e⟩:=B.low u hu; ⟨o,C.keep u o e⟩) C.at_ (rl.mono dS) kt hz hz' (fun U' h' tk ksv k r=>hr _ U' h' tk ksv k r) fun h' tk n' k e=>⟨_,rfl,wpAny_pure ⟨_,rfl,h _ h' tk n' k C.new e⟩⟩
end
end Mine
end
section
set_option backward.match.sparseCases false
open PySem PySem.W PyProof.Rows PySem.Calls
set_option maxRecDepth 100000
namespace Mine
section
variable {W:ab} {G:Facts} (hG:Sat W.ρ G)
noncomputable def Hv (W:ab) (a b:AV) (d:Bool):Prop:=∀ A V s v u (Q:Bool→Shared→Prop) (E:Value→Shared→Prop),Rel W V v a→Rel W V u b→Q d s→aw W A (eqBool v u) Q E s
noncomputable def Hw (W:ab) (c:Bool) (a b:AV) (d:Bool):Prop:=∀ A V s v u (Q:Bool→Shared→Prop) (E:Value→Shared→Prop),Rel W V v a→Rel W V u b→Q d s→aw W A (oneLt' c v u) Q E s
noncomputable def nP (a:AV):Out fun b:Bool=>∀ V v,Rel W V v a→v = .bool b:=match a with
 | .bool b=>.ok b fun V v r=>r
 | .sb B=>bd (truth hG B) fun t e=>.ok t fun V v r=>by rw [show v = _ from r,show B.val W.ρ = t from e]
 | _=>.no 140
noncomputable def Hx (a b:AV):Out (Hv W a b):=match a,b with
 | .int x,.int y=>bd (truth hG ⟨false,a9 x (smul (-1) y),true⟩) fun t e=>.ok t fun A V s v u Q E rv ru h=>by
   obtain ⟨_⟩:=rv
   obtain ⟨_⟩:=ru
   have e:decide ((a9 x (smul (-1) y)).val W.ρ = 0) = t:=e
   rw [cU,cG] at e
   refine wpAny_eqBool_int ?_
   rwa [show (x.val W.ρ == y.val W.ρ) = t from by rw [← e]; exact decide_eq_decide.mpr (by lia)]
 | .str x,.str y=>.ok (sEq x y) fun A V s v u Q E rv ru h=>by
   obtain ⟨_⟩:=rv
   obtain ⟨_⟩:=ru
   rw [eA] at h
   exact eqBool_str h
 | a,b=>bd (nP hG a) fun x hx=>bd (nP hG b) fun y hy=>.ok (x == y) fun A V s v u Q E rv ru h=>by
   rw [hx _ _ rv,hy _ _ ru]
   exact SeqAt.EqAt.bool_bool x y _ _ _ _ h
theorem blt_eq (x y:Bool):decide (b2i x < b2i y) = (!x && y):=by cases x<;>cases y<;>rfl
noncomputable def Hy (c:Bool) (a b:AV):Out (Hw W c a b):=match a,b with
 | .int x,.int y=>bd (truth hG ⟨true,a9 (a9 x (smul (-1) y)) (.lit 1),true⟩) fun t e=>.ok t fun A V s v u Q E rv ru h=>by
   obtain ⟨_⟩:=rv
   obtain ⟨_⟩:=ru
   have e:decide ((a9 (a9 x (smul (-1) y)) (.lit 1)).val W.ρ≤0) = t:=e
   rw [cU,cU,cG] at e
   have e:t = decide (x.val W.ρ < y.val W.ρ):=by rw [← e]; exact decide_eq_decide.mpr (by show _ + 1≤0↔_; lia)
   rw [e] at h
   cases c
   ·exact kat_one _ _ (wpAny_lt_int h)
   ·exact oneLt_int h
 | .str x,.str y=>ar c 141 fun hc=>.ok (decide (x.cps.toList < y.cps.toList)) fun A V s v u Q E rv ru h=>by
   obtain ⟨_⟩:=rv
   obtain ⟨_⟩:=ru
   subst hc
   exact oneLt_str h
 | a,b=>aF c (fun _=>.no 142) fun hc=>bd (nP hG a) fun x hx=>bd (nP hG b) fun y hy=>.ok (!x && y) fun A V s v u Q E rv ru h=>by
   rw [hx _ _ rv,hy _ _ ru,hc]
   exact kat_one _ _ (lt_bool (by rw [blt_eq]; exact h))
noncomputable def HA (W:ab) (i:Nat) (as bs:List AV) (d:Bool):Prop:=∀ A V s vs ws fin (Q:Bool→Shared→Prop),ah W V vs as→ah W V ws bs→fin = decide (vs.length < ws.length)→Q d s→KatLex pg W.w A true fin Q (vs.zip ws) i s
noncomputable def yK:(i:Nat)→(as bs:List AV)→Out (HA W i as bs)
 | i,[],[]=>.ok false fun A V s vs ws fin Q ra rb hf h=>by
   obtain rfl:=ra
   obtain rfl:=rb
   show Q fin s
   rw [hf]; exact h
 | i,a::as,b::bs=>bd (Hx hG a b) fun q hq=>aF q (fun e=>bd (yK (i + 1) as bs) fun d hd=>.ok d fun A V s vs ws fin Q ra rb hf h=>by
   obtain ⟨ra,rl⟩:=ra
   obtain ⟨rb,rl'⟩:=rb
   rw [List.zip_cons_cons]
   refine kat_cons (hq _ _ _ _ _ _ _ ra rb ?_)
   rw [e]
   exact kat_yes (hd _ _ _ _ _ _ _ rl rl' (by rw [hf]; simp) h)) fun e=>bd (Hy hG (Nat.beq i 0) a b) fun d hd=>.ok d fun A V s vs ws fin Q ra rb hf h=>by
   obtain ⟨ra,rl⟩:=ra
   obtain ⟨rb,rl'⟩:=rb
   rw [List.zip_cons_cons]
   refine kat_cons (hq _ _ _ _ _ _ _ ra rb ?_)
   rw [e]
   refine kat_no ?_
   have e0:(i == 0) = Nat.beq i 0:=by cases i<;>rfl
   rw [Bool.true_and,e0]
   exact hd _ _ _ _ _ _ _ ra rb h
 | _,_,_=>.no 143
noncomputable def HC (W:ab) (a b:AV) (d:Bool):Prop:=∀ A U ad s v u (Q:Bool→Shared→Prop) (E:Value→Shared→Prop),Rel W ⟨aD U s.heap,ad⟩ v a→Rel W ⟨aD U s.heap,ad⟩ u b→Q d s→aw W A (keyLt' (tuples' true) v u) Q E s
noncomputable def HD (a b:AV):Out (HC W a b):=match a,b with
 | .tup x,.tup y=>bd (yK hG 0 x y) fun d hd=>.ok d fun A U ad s v u Q E rv ru h=>by
   obtain ⟨hv,rl⟩:=rv
   obtain ⟨hu,rl'⟩:=ru
   exact kat_lt hv.1 rfl hu.1 rfl (by simpa using hd _ _ _ _ _ _ _ rl rl' (by simp) h)
 | _,_=>.no 144
noncomputable def HE (W:ab) {α:Type} (ks:List AV) (T:KasT α) (r:α):Prop:=∀ A U ad s ws (Q:α→Shared→Prop),ah W ⟨aD U s.heap,ad⟩ ws ks→Q r s→T.kasWp (kas_ask pg W.w A (tuples' true) ws) Q s
noncomputable def yL {α:Type} (ks:List AV):(T:KasT α)→Out (HE W ks T)
 | .ret a=>.ok a fun A U ad s ws Q rk h=>h
 | .ask i j k=>bG ks[i]? 145 fun a ha=>bG ks[j]? 146 fun b hb=>bd (HD hG a b) fun d hd=>bd (yL ks (k d)) fun r hr=>.ok r fun A U ad s ws Q rk h=>by
   refine af fun nG=>?_
   obtain ⟨v,hv,ra⟩:=rk.get ha
   obtain ⟨u,hu,rb⟩:=rk.get hb
   refine nG ?_
   show kas_ask pg W.w A (tuples' true) ws i j (fun b s'=>(k b).kasWp (kas_ask pg W.w A (tuples' true) ws) Q s') s
   unfold kas_ask
   have gv:ws.getD i Value.none = v:=by rw [List.getD_eq_getElem?_getD,hv]; rfl
   have gu:ws.getD j Value.none = u:=by rw [List.getD_eq_getElem?_getD,hu]; rfl
   rw [gv,gu]
   exact hd _ _ _ _ _ _ _ _ ra rb (hr _ _ _ _ _ _ rk h)
inductive nQ (W:ab) (V:Vw) (t:String) (v:Value):Prop
 | mk {ax vs n f} (e:v = .ref ax) (ho:V.g ax (jP vs n)) (hf:vs[0]? = some f) (hl:∀ h,Looks (model pg W.w) h (typeOf f) (.type t))
noncomputable def yM (a:AV):Option { t:String // (Value.type t != Value.type "tuple") = true∧∀ V v,Rel W V v a→nQ W V t v }:=match a with
 | .tup (.int _::_)=>some ⟨"int",rfl,fun V v r=>by obtain ⟨ho,rf,_⟩:=r; obtain ⟨_⟩:=rf; exact .mk rfl ho rfl fun h=>Looks.of_pure rfl⟩
 | .tup (.str _::_)=>some ⟨"str",rfl,fun V v r=>by obtain ⟨ho,rf,_⟩:=r; obtain ⟨_⟩:=rf; exact .mk rfl ho rfl fun h=>Looks.of_pure rfl⟩
 | _=>none
noncomputable def yN (t:String):(l:List AV)→Option (PLift (∀ V vs,ah W V vs l→∀ v∈vs,nQ W V t v))
 | []=>some ⟨fun V vs r v m=>by obtain rfl:=r; cases m⟩
 | a::l=>(match yM (W:=W) a,yN t l with
  | some ⟨u,h⟩,some ⟨q⟩=>aF (u == t) (fun e=>some ⟨fun V vs r v m=>by
    obtain ⟨ra,rl⟩:=r
    rcases List.mem_cons.mp m with rfl | m
    ·exact beq_iff_eq.mp e▸h.2 _ _ ra
    ·exact q _ _ rl v m⟩) fun _=>none
  | _,_=>none)
set_option tactic.hygienic true in
theorem HF {A:Around} {U:AS} {ad:List Addr} {t:String} (ht:(Value.type t != Value.type "tuple") = true) {ws:List Value} {s:Shared} {E:Value→Shared→Prop} (rk:∀ v∈ws,nQ W ⟨aD U s.heap,ad⟩ t v) (hne:0 < ws.length) {Q:SortKind→Shared→Prop} (h:Q (tuples' true) s):aw W A (keyKind' ws.toArray) Q E s:=by
 refine af fun nG=>?_
 have key:∀ {ws:List Value},(∀ v∈ws,nQ W ⟨aD U s.heap,ad⟩ t v)→∃ fs,fs.length = ws.length∧KatTups s.heap ws fs∧∀ v∈fs,Looks (model pg W.w) s.heap (typeOf v) (.type t):=by
  intro ws
  induction ws with
  | nil=>exact fun _=>⟨[],rfl,KatTups.nil,fun _ m=>(List.not_mem_nil m).elim⟩
  | cons v ws ih=>
   intro hk
   obtain ⟨fs,h1,h2,h3⟩:=ih fun v m=>hk v (.tail _ m)
   obtain ⟨e,ho,hf,hl⟩:=hk v (.head _)
   rename_i ax vs n f
   subst e
   refine ⟨f::fs,congrArg (· + 1) h1,KatTups.cons ho.1 rfl rfl (by simpa using hf) h2,fun v m=>?_⟩
   rcases List.mem_cons.mp m with rfl | m
   ·exact hl _
   ·exact h3 v m
 obtain ⟨fs,h1,h2,h3⟩:=key rk
 refine nG ?_
 exact kat_kind h2 (by rw [h1]; exact hne) h3 (by simp) (by rw [ht]; exact h)
noncomputable def yO (as:List AV):(p:List Nat)→Option { l:List AV //∀ {W:ab} {V vs},ah W V vs as→ah W V (p.map fun i=>vs.getD i Value.none) l }
 | []=>some ⟨[],fun _=>rfl⟩
 | i::p=>de as[i]? (fun a ha=>match yO as p with
  | some ⟨r,hr⟩=>some ⟨a::r,fun {W V vs} rl=>by
   refine af fun nG=>?_
   obtain ⟨v,hv,rv⟩:=rl.get ha
   refine nG ?_
   refine .mk ?_ (hr rl)
   show Rel W V (vs.getD i Value.none) a
   rw [List.getD_eq_getElem?_getD,hv]; exact rv⟩
  | none=>none) fun _=>none
noncomputable def HG (W:ab) (l:List AV):Option { t:String // (Value.type t != Value.type "tuple") = true }:=match l with
 | k::_=>(match yM (W:=W) k with
  | some ⟨t,h⟩=>some ⟨t,h.1⟩
  | none=>none)
 | []=>none
structure rD (W:ab) (ks as l:List AV):Prop where
 n:as.length < 64
 run:∀ {vs},(∃ V,ah W V vs as)→∃ out,out.length < 64∧(∀ V,ah W V vs as→ah W V out l)∧∀ A U ad s ksv,ah W ⟨aD U s.heap,ad⟩ ksv ks→SortRun W A ksv vs out s
noncomputable def yP (ks as:List AV):Out (rD W ks as):=aF (Nat.blt as.length 2) (fun h2=>.ok as ⟨by have:=Nat.blt_eq.mp h2; lia,fun {vs} ⟨V,rl⟩=>⟨vs,by have:=Nat.blt_eq.mp h2; rw [rl.length]; lia,fun V r=>r,fun A U ad s ksv rk=>.inl ⟨by rw [rl.length]; exact Nat.blt_eq.mp h2,rfl⟩⟩⟩) fun h2=>ar (Nat.blt as.length 64) 147 fun h64=>ar (Nat.beq ks.length as.length) 147 fun hl=>(match HG W ks with
 | none=>.no 148
 | some ⟨t,ht⟩=>(match yN (W:=W) t ks with
  | none=>.no 149
  | some ⟨hk⟩=>bd (yL hG ks (kas_sort as.length)) fun p hp=>(match yO as p.toList with
   | none=>.no 150
   | some ⟨l,hpk⟩=>ar (Nat.blt l.length 64) 151 fun hz=>.ok l ⟨Nat.blt_eq.mp h64,fun {vs} ⟨V,rl⟩=>⟨p.toList.map fun i=>vs.getD i Value.none,by rw [(hpk rl).length]; exact Nat.blt_eq.mp hz,fun V r=>hpk r,fun A U ad s ksv rk=>.inr ⟨by
     have:¬as.length < 2:=fun z=>by rw [Nat.blt_eq.mpr z] at h2; exact fj h2
     rw [rl.length]; lia,by rw [rl.length]; exact Nat.blt_eq.mp h64,tuples' true,p,rfl,fun Q E hq=>HF ht (hk _ _ rk) (by
     have:¬as.length < 2:=fun z=>by rw [Nat.blt_eq.mpr z] at h2; exact fj h2
     rw [rk.length,Nat.eq_of_beq_eq_true hl]; lia) hq,fun Q hq=>by rw [rl.length]; exact hp _ _ _ _ _ _ rk hq⟩⟩⟩)))
end
section
theorem HH {a b:Int} {t u:Tok} {c:Value} {l:List Value} (h:TriplesOk l):TriplesOk (l ++ [.int a t,.int b u,c]):=by
 fun_induction TriplesOk l with
 | case1=>trivial
 | case2 _ _ _ _ _ _ ih=>exact ih h
 | case3=>exact h.elim
theorem HI {pos:Pos} {a b:Int} {t u:Tok} {c cv:Value} {l:List Value} (h:TriplesOk l) (e:codeAmong pos (l ++ [.int a t,.int b u,c]) = some cv):codeAmong pos l = some cv∨cv = c:=by
 fun_induction TriplesOk l with
 | case1=>
  simp only [List.nil_append,codeAmong] at e
  split at e
  ·exact .inr (Option.some.inj e).symm
  ·exact aq e
 | case2 _ _ _ _ _ _ ih=>
  simp only [List.cons_append,codeAmong] at e ⊢
  split at e
  ·rename_i q; rw [if_pos q]; exact .inl e
  ·rename_i q; rw [if_neg q]; exact ih h e
 | case3=>exact h.elim
theorem yQ (P:Params):codeHdIn (aQ P) 726 722 = true∧codeHdIn (aQ P) 1000 998 = true:=⟨by kernel_rfl,by kernel_rfl⟩
theorem HJ (P:Params):((aO (bq P) 4).map fun o=>(o.cls,o.dict,match o.data with | .plain=>true | _=>false)) = some (.type "module",some builtinsNs,true):=by kernel_rfl
structure HL (W:ab) (h:Heap) (env:Env) (c P:Addr) (ql:Str):Prop where
 hd:CodeHd h c P
 tb:(P,ql)∈fq
 code:env.code = .ref c
 qual:env.qual ++ "<lambda>" = ql
 ne:P≠mainGlobals
 blt:h.BuiltinsAt ((KH W.w.params).nsMap mainGlobals) P
variable {W:ab}
theorem HM {h:Heap} (G:GG W h) {env:Env} (K:eU env) {c P:Addr} {q ql:Str} (hl:da env.scope = some (c,P,q,ql)):HL W h env c P ql:=by
 obtain ⟨k1,k2⟩:=K.lam _ _ _ _ hl
 obtain ⟨o4,e4,c4,d4,p4⟩:∃ o,h.get? 4 = some o∧o.cls = .type "module"∧o.dict = some builtinsNs∧o.data = .plain:=by
  obtain ⟨o,ho,hv⟩:=Option.map_eq_some_iff.mp (HJ W.w.params)
  obtain ⟨h1,hv⟩:=Prod.mk.inj hv
  obtain ⟨h2,h3⟩:=Prod.mk.inj hv
  refine ⟨o,G.at ho ⟨by decide,by decide⟩,h1,h2,?_⟩
  split at h3
  ·assumption
  ·exact aR h3
 have b:∀ P,4≠P→h.BuiltinsAt ((KH W.w.params).nsMap mainGlobals) P:=fun P n=>⟨4,o4,wA _,by decide,by decide,n,e4,c4,d4,p4⟩
 unfold da at hl
 split at hl
 ·cases hl; exact ⟨codeHd_of_K G.K (yQ _).1,.head _,k1,by rw [k2]; decide +kernel,by decide,b _ (by decide)⟩
 ·split at hl
  ·cases hl; exact ⟨codeHd_of_K G.K (yQ _).2,.tail _ (.head _),k1,by rw [k2]; decide +kernel,by decide,b _ (by decide)⟩
  ·exact aq hl
noncomputable def kG {α:Type}:List α→Bool
 | []=>true
 | _=>false
theorem nR {α:Type}:∀ {l:List α},kG l = true→l = []
 | [],_=>rfl
noncomputable def rE {α:Type}:Option α→Bool
 | none=>true
 | _=>false
theorem yR {α:Type}:∀ {l:Option α},rE l = true→l = none
 | none,_=>rfl
noncomputable def rF:Str:=⟨#[115,104,97,112,101]⟩
noncomputable def rG:Str:=⟨#[114,111,119]⟩
noncomputable def ia (p:Arguments) (sc:Scope):Option Str:=match p.args with
 | [a]=>cond (aG (aG (kG p.posonlyargs) (rE p.vararg)) (aG (aG (kG p.kwonlyargs) (kG p.kw_defaults)) (aG (aG (rE p.kwarg) (kG p.defaults)) (aG (cX sc a.arg .local) (sEq a.arg rF || sEq a.arg rG))))) (some a.arg) none
 | _=>none
noncomputable def i6 (sc:Scope):Bool:=aG (aG (sc.kind == .function) (qX sc)) (aG (da sc).isNone (aG (aG (!sc.isCoroutine) (!sc.isGenerator)) (sc.names.all fun p=>!(p.2 == .cell) && !(p.2 == .free))))
structure nS (h:Heap) (f:Addr) (params:Arguments) (body:Expr) (sc:Scope):Prop where
 ex:∃ ql c' pm ctv,h.get? f = some (kla_obj "<lambda>" ql params body sc [] pm c' ctv)∧h.CodeRec (.ref c') ql∧∃ co,h.get? c' = some co∧soft co = false
theorem HN {P:Addr} {q q':Str} (m:(P,q)∈fq) (m':(P,q')∈fq):q' = q:=by
 simp only [fq,List.mem_cons,List.not_mem_nil,or_false,Prod.mk.injEq] at m m'
 rcases m with ⟨a,b⟩ | ⟨a,b⟩<;>rcases m' with ⟨a',b'⟩ | ⟨a',b'⟩
 ·rw [b,b']
 ·rw [a] at a'; cases a'
 ·rw [a] at a'; cases a'
 ·rw [b,b']
theorem nT {sc:Scope} {x:Str} {k:NameKind} (h:cX sc x k = true):sc.names.lookup x = some k:=by
 unfold cX at h
 rw [← cQ]
 split at h
 ·rename_i q; rw [q,beq_iff_eq.mp h]
 ·exact aR h
theorem HO {fd:FuncData} {x:Str} {an:Option Expr} {p:Pos} {v:Value} (hx:x = rF∨x = rG) (hp:fd.params = ⟨[],[⟨x,an,p⟩],none,[],[],none,[]⟩) (hd:fd.defaults = .none) (hk:fd.kwdefaults = .none):bindArgs fd ⟨[v],[]⟩ = pure [(x,v)]:=by
 obtain ⟨nm,ql,pr,bd,sc,gl,cl,df,kw,pm,tp⟩:=fd
 dsimp only at hp hd hk
 subst hp hd hk
 rcases hx with rfl | rfl<;>kernel_rfl
theorem yS {p:Arguments} {sc:Scope} {x:Str} (h:ia p sc = some x):(∃ an q,p = ⟨[],[⟨x,an,q⟩],none,[],[],none,[]⟩)∧cX sc x .local = true∧(x = rF∨x = rG):=by
 obtain ⟨po,as,va,ko,kd,kw,df⟩:=p
 cases as with
 | nil=>exact aq h
 | cons a l=>
  cases l with
  | cons=>exact aq h
  | nil=>
   obtain ⟨nm,an,pp⟩:=a
   rcases eK (show cond _ (some nm) none = some x from h) with ⟨q,h2⟩ | ⟨-,h2⟩
   ·refine af fun nG=>?_
    obtain ⟨q1,q2⟩:=aB q
    obtain ⟨q2,q3⟩:=aB q2
    obtain ⟨q3,q4⟩:=aB q3
    obtain ⟨a1,a2⟩:=aB q1
    obtain ⟨a3,a4⟩:=aB q2
    obtain ⟨a5,a6⟩:=aB q3
    obtain ⟨a7,a8⟩:=aB q4
    obtain rfl:=Option.some.inj h2
    refine nG ?_
    exact ⟨⟨an,pp,by rw [show po = [] from nR a1,show va = none from yR a2,show ko = [] from nR a3,show kd = [] from nR a4,show kw = none from yR a5,show df = [] from nR a6]⟩,a7,(Bool.or_eq_true_iff.mp a8).imp sEq_iff.mp sEq_iff.mp⟩
   ·exact aq h2
theorem HP {A:Around} {s:Shared} {E:Value→Shared→Prop} {env:Env} (K:eU env) {c P:Addr} {q ql:Str} (hl:da env.scope = some (c,P,q,ql)) {params:Arguments} {body:Expr} {sc:Scope} {pos:Pos} {x:Str} {Q:Value→Shared→Prop} (hp:ia params sc = some x) (hs:i6 sc = true) (G:GG W s.heap)
  (hQ:∀ f h' tk,ag s.heap h'→nS h' f params body sc→Q (.ref f) (mv s h' tk)):aw W A (eval (.Lambda params body sc pos) env) Q E s:=by
 refine af fun nG=>?_
 obtain ⟨hd,hm,hc,hq,hPm,hb⟩:=HM G K hl
 obtain ⟨ps,hP,ht,hcodes⟩:=G.tabs hm
 refine nG ?_
 have hfree:=(aB (aB (aB hs).2).2).2
 have hdef:defaultsOf params env = ([],[]):=by
  obtain ⟨⟨_,_,rfl⟩,-⟩:=yS hp
  rfl
 have nofree:∀ y,(y,NameKind.free)∉sc.names:=fun y m=>by
  have:=List.all_eq_true.mp hfree _ m
  exact aR this
 have hcl:closureFor sc env = pure []:=by
  obtain ⟨cl,C⟩:=rq (scope:=sc) (env:=env) fun y m=>absurd m (nofree y)
  cases cl with
  | nil=>exact C.run
  | cons p r=>
   obtain ⟨y,c1⟩:=p
   exact absurd (C.sub y c1 (by rw [List.lookup_cons,beq_self_eq_true])).2 (nofree y)
 refine kla_eval hdef ?_
 rw [hq]
 cases hf:codeAmong pos ps.toList with
 | some cv=>
  refine af fun nG=>?_
  obtain ⟨c',co,vs,t,rfl,e1,e2,e3,e4⟩:=hcodes pos cv hf
  refine nG ?_
  refine kla_makeFunctionHit hcl K.globals G.g hc hd hP ht hf hb fun ctv h' tk hk hsz=>?_
  exact hQ _ _ _ (au.trans (ag.of hk) (ag.push _ _)) ⟨ql,c',_,ctv,Heap.get?_push_size _ rfl,⟨c',co,vs,t,rfl,Heap.get?_push_of_some _ (hk _ _ e1),e3,e4⟩,co,Heap.get?_push_of_some _ (hk _ _ e1),by unfold soft; rw [e2]; rfl⟩
 | none=>
  rw [makeFunction_eq]
  simp only [List.zip_nil_right,List.filterMap_nil,List.isEmpty_nil,if_true,pure_bind]
  refine af fun nG=>?_
  obtain ⟨bm,ob,hbm,hne0,_,hneP,hbo,hcls,hdict,hdata⟩:=hb
  refine nG ?_
  unfold makeTail
  rw [hcl,K.globals]
  refine wpAny_bind (wpAny_pure ?_)
  simp only [List.isEmpty_nil,if_true]
  refine wpAny_bind (wpAny_pure ?_)
  refine wpAny_bind (wpAny_functionCodeX hc (hd.code hP ht) (hd.tab hP) hf fun c' h' tk hx hge hlt _ hrec htb ⟨P',_,_,htb'⟩=>?_)
  have hg':=G.g.extBut hx (Ne.symm hPm)
  refine wpAny_bind (wpAny_builtinsFor hg' hbm hne0 (hx _ _ hneP hbo) hcls hdict hdata ?_)
  refine wpAny_bind (wpAny_nsGet hg' ?_)
  refine af fun nG=>?_
  obtain ⟨co,vs,t,f1,f2,f3,f4⟩:∃ co vs t,h'.get? c' = some co∧co.cls = .type "code"∧co.data = .fields vs∧vs[1]? = some (.str ql t):=by
   obtain ⟨c2,o,vs,t,e0,e1,e2,e3⟩:=hrec
   cases e0
   obtain ⟨⟨o',vs',f1,f2,f3,_⟩,_⟩:=htb'
   rw [e1] at f1; cases f1
   exact ⟨o,vs,t,e1,f2,e2,e3⟩
  refine nG ?_
  have kk:ag s.heap h':=by
   refine ⟨fun b o _ e=>?_,fun P2 q2 m2 t2=>?_⟩
   ·by_cases z:b = P
    ·subst z
     rw [hP] at e; cases e
     exact ⟨_,htb.2,.grow (List.mem_map.mpr ⟨_,hm,rfl⟩) rfl rfl⟩
    ·exact ⟨o,hx b o z e,.refl o⟩
   ·obtain ⟨ps2,e2,ht2,hc2⟩:=t2
    have old:∀ pos cv,codeAmong pos ps2.toList = some cv→TabAt h' q2 cv:=fun pos cv e=>by
     obtain ⟨c1,co,vs,t,a1,a2,a3,a4,a5⟩:=hc2 pos cv e
     exact ⟨c1,co,vs,t,a1,hx _ _ (fun z=>by rw [z,hP] at a2; cases a2; cases a3) a2,a3,a4,a5⟩
    by_cases z:P2 = P
    ·subst z
     rw [hP] at e2; cases e2
     obtain rfl:=HN hm m2
     refine ⟨_,htb.2,?_,fun pos' cv e=>?_⟩
     ·rw [Array.toList_append]; exact HH ht
     ·rw [Array.toList_append] at e
      rcases HI ht e with e | e
      ·exact old pos' cv e
      ·exact ⟨c',co,vs,t,e,f1,f2,f3,f4⟩
    ·exact ⟨ps2,hx _ _ z e2,ht2,old⟩
  refine wpAny_bind (wpAny_pure (wpAny_newObj_type ?_ (by size_fits)))
  exact hQ _ _ _ (kk.trans (ag.push _ _)) ⟨ql,c',_,.none,Heap.get?_push_size _ rfl,⟨c',co,vs,t,rfl,Heap.get?_push_of_some _ f1,f3,f4⟩,co,Heap.get?_push_of_some _ f1,by unfold soft; rw [f2]; rfl⟩
variable {d:Nat}
theorem HQ {A:Around} (a:dc (d + 1) A) {hb:Heap} {f:Addr} {params:Arguments} {body:Expr} {sc:Scope} {x:Str} (hp:ia params sc = some x) (hs:i6 sc = true) (F:nS hb f params body sc) {av r:AV} {own1:Own} (na:nl av = true) (nr:nl r = true)
  (run:∀ c:ai W d ⟨sc,false⟩,aj c [(x,av)] [] (eval body c.env) r own1):rC W A hb (.ref f) av r:=by
 intro U ad s v Q E K Bs rv G
 refine af fun nG=>?_
 obtain ⟨⟨an,pp,hpar⟩,hx,hxx⟩:=yS hp
 obtain ⟨hs1,hs2⟩:=aB hs
 obtain ⟨hfun,hsc⟩:=aB hs1
 obtain ⟨hlam,hs2⟩:=aB hs2
 obtain ⟨hs2,hfree⟩:=aB hs2
 obtain ⟨hco,hgen⟩:=aB hs2
 obtain ⟨ql,c',pm,ctv,hf,hcr,co,hco1,hco2⟩:=F.ex
 refine nG ?_
 have hcr':s.heap.CodeRec (.ref c') ql:=by
  obtain ⟨c2,o2,vs,t,e0,e1,e2,e3⟩:=hcr
  cases e0
  rw [hco1] at e1; cases e1
  exact ⟨c',_,vs,t,rfl,K.get hco1 hco2,e2,e3⟩
 have hfun:=beq_iff_eq.mp hfun
 have nocell:∀ y k,(y,k)∈sc.names→k≠.cell:=fun y k m q=>by
  have:=List.all_eq_true.mp hfree _ m
  rw [q] at this; exact aR this
 refine wpAny_call (kla_callFunE (by have:=a.depth; show A.depth < recursionLimit; unfold recursionLimit; lia) (K.get hf rfl) rfl ((Bool.not_eq_true' _).mp hco) ((Bool.not_eq_true' _).mp hgen) rfl hcr' ?_)
 rw [HO hxx hpar rfl rfl]
 refine wpAny_pure ?_
 have hloc:sc.names.lookup x = some .local:=nT hx
 refine wpAny_newFunctionEnv (fun y hy q=>nocell y.1 y.2 hy q) (fun y hy=>by rw [List.mem_singleton.mp hy]; exact hloc) (fun h1 hns hsb=>⟨Bs.G.nolimit.fresh _ hsb,?_⟩) hfun
 generalize henv:newEnv sc s.heap.objs.size mainGlobals [] (ql ++ ".<locals>.") (some f) (.ref c') none builtinsNs = env at *
 have esc:env.scope = sc:=by rw [← henv]; rfl
 have eloc:env.locals = s.heap.objs.size:=by rw [← henv]; rfl
 have ecel:env.cells = []:=by rw [← henv]; rfl
 have Kv:eU env:=⟨by rw [esc]; exact hfun,by rw [← henv]; rfl,by rw [← henv]; rfl,fun y q=>xS hsc (by rw [← esc]; exact q),fun c P q q' z=>by rw [esc,Option.isNone_iff_eq_none.mp hlam] at z; exact aq z⟩
 have old:ag s.heap h1:=.of fun b o e=>hsb.extBut b o (Nat.ne_of_lt (Heap.lt_size e)) (Heap.get?_push_of_some _ e)
 have hnew:=c7 s.heap
 refine kla_codeExpr ?_
 let c:ai W d ⟨sc,false⟩:={ A:=A.deeper env,env:=env,h₀:=s.heap,X:=U,B:=(· = env.locals),ad:=[],a:=⟨a.handled,(by have:=a.depth; show A.depth + 1 + d≤900; lia),(by have:=a.units; show A.units + 3 + 3 * d≤9000; lia)⟩,K:=Kv,es:=esc,G:=Bs.G,out:=Bs.low,base:=rfl,cls:=(fun y z e=>by rw [ecel] at e; cases e),cel:=(fun z=>(nomatch z)),top:=fun z=>(nomatch z) }
 have nB:s.heap.get? env.locals = none:=by rw [eloc]; exact hnew
 have nsl:h1.Ns env.locals (fun y=>[(x,v)].reverse.lookup y):=by rw [eloc]; exact hns
 have S:SV c [(x,av)] ⟨[],[],h1⟩:=⟨fun _ _ e=>e,old,.none,fun u z=>(cK z).elim,fun u q=>⟨q▸nB,by rw [q]; exact .ns nsl⟩,⟨_,nsl⟩,(fun y z e=>by rw [ecel] at e; exact aq e),fun y b e=>by
  rw [c9] at e
  split at e
  ·rename_i q; subst q; cases e
   exact .loc (by show env.scope.names.lookup _ = _; rw [esc]; exact hloc) nsl (by show List.lookup _ [(_,v)] = _; rw [List.lookup_cons,beq_self_eq_true]) (dQ (old.sub fun b o e n=>⟨id,fun q=>q.elim (fun q=>q.elim n (eQ e nB)) cK⟩) na rv)
  ·exact aq e⟩
 exact run c (mv s h1 (s.toks + 1)) [] _ _ S fun w h2 tk ad' k rw=>G w h2 tk (old.trans ((ag.of fun b o e=>a0.mpr ⟨e,cK⟩).trans k.keep)) (dQ (dZ fun u q=>.inl (.inl q)) nr rw)
end
section
variable {W:ab} {d:Nat} {sc:Fs} {σ:ao} {own own1:Own} {c:ai W d sc}
noncomputable def rH (W:ab) (d:Nat) (lsc:Scope) (y:Str) (body:Expr) (a r:AV):Prop:=∀ A hb f params,dc d A→ia params lsc = some y→i6 lsc = true→nS hb f params body lsc→rC W A.in1.in1 hb (.ref f) a r
noncomputable def yT (W:ab) (d:Nat) (lsc:Scope) (y:Str) (body:Expr) (as rs:List AV):Prop:=∀ A hb f params,dc d A→ia params lsc = some y→i6 lsc = true→nS hb f params body lsc→fN W A.in1.in1 hb (.ref f) as rs
noncomputable def yU {lsc:Scope} {y:Str} {body:Expr} (k:(a:AV)→Out (rH W d lsc y body a)):(as:List AV)→Out (yT W d lsc y body as)
 | []=>.ok [] fun A hb f params a hp hs F=>.nil
 | a::as=>bd (k a) fun r hr=>bd (yU k as) fun rs hrs=>.ok (r::rs) fun A hb f params a hp hs F=>.cons (hr A hb f params a hp hs F) (hrs A hb f params a hp hs F)
noncomputable def rI:Str:=⟨#[107,101,121]⟩
theorem HR:rI = Str.ofString "key":=by decide +kernel
theorem rJ:dC 6 = .builtin "sorted":=rfl
set_option tactic.hygienic true in
theorem aj.rK {f:Str} {fp kp pos lpos:Pos} {x body:Expr} {params:Arguments} {lsc:Scope} {y:Str} {as ks l:List AV} (hx:dh x) (hl:(da sc.sc).isSome = true) (hp:ia params lsc = some y) (hs:i6 lsc = true)
  (h1:aj c σ own (eval (.Name f fp) c.env) (.blt 6) own) (h2:aj c σ own (eval x c.env) (.lst as) own1) (hk:yT W d lsc y body as ks) (hr:rD W ks as l):aj c σ own (eval (.Call (.Name f fp) [x] [⟨some rI,.Lambda params body lsc lpos,kp⟩] pos) c.env) (.lst l) own1:=fun s ad Q E S F=>by
 obtain ⟨⟨cc,P,q,ql⟩,hl⟩:=Option.isSome_iff_exists.mp hl
 rw [← c.es] at hl
 rw [HR]
 show wpAny _ _ ((eval (.Name f fp) c.env) >>= fun fv=>callWith pos fv [] (backTo pos (starEach [x] c.env)) (backToKw pos (keywordEach [⟨some (Str.ofString "key"),.Lambda params body lsc lpos,kp⟩] c.env))) _ _ _
 refine wpAny_bind (h1 s ad _ _ S fun fv g1 t1 a1 k1 r1=>?_)
 obtain rfl:fv = dC 6:=r1
 rw [rJ]
 refine callWith_kw ?_ (by rw [hx]; rfl) (by rw [hx]; rfl)
 have S1:=S.after k1
 refine (bT.cons hx h2 bT.nil:bT c σ own (spliced (backTo pos (starEach [x] c.env))) [.lst as] own1) (mv s g1 t1) a1 _ _ S1 fun vs g2 t2 a2 k2 r2=>?_
 obtain ⟨rv,rn⟩:=r2
 obtain rfl:=rn
 obtain ⟨ho,rl⟩:=rv
 rename_i la lvs ln
 have S2:=S1.after k2
 refine kws_cons (HP c.K hl hp hs (s:=mv s g2 t2) S2.Gp fun fl g3 t3 k3 lf=>kws_nil ?_)
 have k3:ag g2 g3:=k3
 have B3:Base W (fun u=>c.U u∨ak own1 a2 u) g3:=S2.B.keep k3
 have rl3:=rl.mono (au.dS (U:=fun u=>c.U u∨ak own1 a2 u) (ad:=a2) k3 fun _ q=>q.elim)
 obtain ⟨out,hzo,keepR,run⟩:=hr.run ⟨_,rl3⟩
 refine Hu (W:=W) (ad:=a2) (s:=mv s g3 t3) (vs:=lvs) (out:=out) (as:=as) (ks:=ks) B3 ⟨_,k3.get ho.1 rfl,rfl,ln,rfl⟩ rl3 (hk _ _ _ _ c.a hp hs lf) (by rw [rl.length]; exact hr.n) hzo (fun A' U' h' tk ksv k r=>run A' U' a2 _ ksv r) fun D h' tk n' k hD hD'=>?_
 have k:ag g3 h':=k
 exact F (.ref D) h' tk a2 ((k1.trans k2).trans (k2.owns.grow (k3.trans k))) (.mk (n:=n') ⟨hD',rfl,fun z=>by obtain ⟨o,e⟩:=B3.low D z; rw [show g3.get? D = none from hD] at e; exact aq e⟩ (keepR _ (rl3.mono (au.dS k fun _ q=>q.elim))))
set_option tactic.hygienic true in
theorem HS {as l:List AV} (hr:rD W as as l):bU W 6 [.lst as] (.lst l):=one W fun A U ad s v Q E hh B rv G=>by
 obtain ⟨ho,rl⟩:=rv
 rename_i la lvs ln
 obtain ⟨out,hzo,keepR,run⟩:=hr.run ⟨_,rl⟩
 rw [rJ]
 refine Hr (W:=W) (s:=s) (vs:=lvs) (out:=out) ⟨_,ho.1,rfl,ln,rfl⟩ (by rw [rl.length]; exact hr.n) hzo (fun A' h' tk k=>run A' U ad _ lvs (rl.mono (au.dS k fun _ q=>q.elim))) fun D h' tk n' k hD hD'=>?_
 exact G (.ref D) h' tk k (.mk (n:=n') ⟨hD',rfl,fun z=>by obtain ⟨o,e⟩:=B.low D z; rw [hD] at e; exact aq e⟩ (keepR _ (rl.mono (au.dS k fun _ q=>q.elim))))
end
section
variable {W:ab} {G:Facts} (hG:Sat W.ρ G) {U:AS} {own own1 own2:Own} {ad:List Addr} {h:Heap} {n:Nat} {d:Nat}
theorem yV (P:Params):(aO (bq P) sysModules).isSome = true:=by kernel_rfl
theorem aN.mod {p:Pt} (O:aN W U p) {u:Addr} (z:ak p.own p.ad u):(u == sysModules) = false:=beq_eq_false_iff_ne.mpr fun q=>by
 obtain ⟨o,ho⟩:=Option.isSome_iff_exists.mp (yV W.w.params)
 have:=O.top u z
 rw [q,W.B.fact _ _ ho] at this; exact c5 this
noncomputable def nW:(as:List AV)→Out fun ks:List Int=>∀ V vs,ah W V vs as→bS ks vs
 | []=>.ok [] fun V vs r=>r
 | .int e::l=>bd (eW hG e) fun i hi=>bd (nW l) fun ks hk=>.ok (i::ks) fun V vs r=>by
   obtain ⟨h,r⟩:=r
   exact .mk (hi▸h) (hk _ _ r)
 | _::_=>.no 160
theorem yW:∀ {ks:List Int} {vs:List Value},bS ks vs→ItemsAre (intKind pg W.w) ks vs
 | [],_,r=>by obtain rfl:=r; exact .nil
 | _::_,_,.mk h r=>.cons (by obtain ⟨t⟩:=h; exact intKind_is _ _ _ _) (yW r)
theorem jU.key {V:Vw} {ks:List Int} {a:Addr} (k:jU V ks a) (sub:∀ a o,V.g a o→h.get? a = some o):(tK W).is h ks a:=by
 obtain ⟨hv,r⟩:=k
 exact ⟨_,_,_,sub _ _ hv,rfl,rfl,yW r⟩
theorem yX:∀ l:List Int,gP l l = true
 | []=>rfl
 | a::l=>by
  show aG (bc a a) (gP l l) = true
  rw [gO,beq_self_eq_true,yX l]; rfl
noncomputable def fO (ks:List Int):List (List Int×AV)→Option AV
 | []=>none
 | (k,b)::l=>(match gP k ks with
  | true=>some b
  | false=>fO ks l)
structure HT (W:ab) (V:Vw) (p:Option (Addr×Value)) (q:Option AV):Prop where
 s:p.isSome = q.isSome
 v:∀ b,q = some b→∃ x,p = some x∧Rel W V x.2 b
theorem cy.look {V:Vw} {ks:List Int} {xs:List (List Int×Addr×Value)} {l:List (List Int×AV)} (r:cy W V xs l):HT W V (atKey xs ks) (fO ks l):=by
 induction r with
 | nil=>exact ⟨rfl,(fun _ e=>by exact aq e)⟩
 | @cons k a v b xs l _ hv _ ih=>
  unfold atKey fO
  rw [List.find?_cons]
  by_cases z:k = ks
  ·subst z
   rw [show decide (k = k) = true from decide_eq_true rfl,yX]
   exact ⟨rfl,fun _ e=>⟨_,rfl,Option.some.inj e▸hv⟩⟩
  ·rw [show decide (k = ks) = false from decide_eq_false z]
   cases e:gP k ks with
   | true=>exact absurd (pO e) z
   | false=>exact ih
theorem cy.keys {V:Vw} (sub:∀ a o,V.g a o→h.get? a = some o) {xs:List (List Int×Addr×Value)} {l:List (List Int×AV)} (r:cy W V xs l):∀ x∈xs,(tK W).is h x.1 x.2.1:=by
 induction r with
 | nil=>exact f9
 | cons k _ _ ih=>
  intro x m
  rcases List.mem_cons.mp m with rfl | m
  ·exact k.key sub
  ·exact ih x m
theorem cy.length {V:Vw} {xs:List (List Int×Addr×Value)} {l:List (List Int×AV)} (r:cy W V xs l):xs.length = l.length:=by induction r with | nil=>rfl | cons _ _ _ ih=>exact congrArg (· + 1) ih
theorem cy.snoc {V:Vw} {ks:List Int} {a:Addr} {v:Value} {b:AV} (k:jU V ks a) (hv:Rel W V v b) {xs:List (List Int×Addr×Value)} {l:List (List Int×AV)} (r:cy W V xs l):cy W V (xs ++ [(ks,a,v)]) (l ++ [(ks,b)]):=by induction r with | nil=>exact .cons k hv .nil | cons k' h' _ ih=>exact .cons k' h' ih
inductive DT (own:Own) (n:Nat):List (List Int×AV)→Prop
 | t {l} (h:own[n]? = some (.dicT l)):DT own n l
 | e (h:own[n]? = some (.dicS [])):DT own n []
structure HU (W:ab) (U:AS) (p:Pt) (n:Nat) (a:Addr) (l:List (List Int×AV)):Prop where
 z:∃ pv,At p.own p.ad n pv a
 d:∃ xs,p.h.DictOfH (tK W) a xs∧cy W (vw U p) xs l
theorem DT.at {l:List (List Int×AV)} (D:DT own n l) (O:aN W U ⟨own,ad,h⟩) {a:Addr} (e:ad[n]? = some a):HU W U ⟨own,ad,h⟩ n a l:=by
 cases D with
 | t hn=>
  refine af fun nG=>?_
  have z:At own ad n (.dicT l) a:=⟨hn,rfl,e⟩
  obtain ⟨_,o,ho,x,xs,es,ep,d,e,nd,r⟩:=O.obj _ _ _ z
  refine nG ?_
  exact ⟨⟨_,z⟩,xs,⟨o,es,ep,ho,x,d,e,cy.keys (V:=vw U ⟨own,ad,h⟩) (fun _ _ z=>z.1) r,nd⟩,r⟩
 | e hn=>
  refine af fun nG=>?_
  have z:At own ad n (.dicS []) a:=⟨hn,rfl,e⟩
  obtain ⟨_,o,ho,ns,kvs,⟨es,ep,x,d,_,ps,nd⟩,r⟩:=O.obj _ _ _ z
  obtain rfl:kvs = []:=r
  refine nG ?_
  refine ⟨⟨_,z⟩,[],⟨o,es,ep,ho,x,d,?_,nofun,.nil⟩,.nil⟩
  generalize es.toList = l at ps
  cases ps; rfl
theorem nY {A:Around} (hu:A.units≤9000):(tK W).room A.in1:=tupleKind_room_in1 (by unfold cLine; lia)
theorem rL {V:Vw} {as:List AV} {ks:List Int} (hk:∀ V vs,ah W V vs as→bS ks vs) {v:Value} (r:Rel W V v (.tup as)):∃ a,v = .ref a∧jU V ks a:=by
 obtain ⟨hv,rl⟩:=r
 exact ⟨_,rfl,hv,hk _ _ rl⟩
theorem HV (nt:Bool) {as:List AV} {ks:List Int} {l:List (List Int×AV)} (D:DT own n l) (hk:∀ V vs,ah W V vs as→bS ks vs):eV W own (mN nt) (.tup as) (.loc n) (.bool (nt ^^ (fO ks l).isSome)):=fun A U ad s v u Q E hu B O rv ru F=>by
 obtain ⟨a,rfl,ka⟩:=rL hk rv
 obtain ⟨e⟩:=ru
 obtain ⟨⟨pv,z⟩,xs,hm,r⟩:=D.at O e
 have hd:=O.mod ⟨n,pv,z⟩
 have key:(tK W).is s.heap ks a:=ka.key fun _ _ z=>z.1
 have q:=(r.look (ks:=ks)).s
 cases nt
 ·exact wpAny_in_heap (nY hu) key hd hm (by rw [q]; exact F.here O (congrArg _ (Bool.false_xor _).symm))
 ·exact wpAny_notIn_heap (nY hu) key hd hm (by rw [q]; exact F.here O (congrArg _ (Bool.true_xor _).symm))
theorem HW {as:List AV} {ks:List Int} {l:List (List Int×AV)} {b:AV} (D:DT own n l) (hk:∀ V vs,ah W V vs as→bS ks vs) (hb:fO ks l = some b):jY W own (.loc n) (.tup as) b:=fun A U ad s v u k val Q E hu hs B O rv ru F=>by
 refine af fun nG=>?_
 obtain ⟨a,rfl,ka⟩:=rL hk ru
 obtain ⟨e⟩:=rv
 obtain ⟨_,xs,hm,r⟩:=D.at O e
 obtain ⟨x,hx,rx⟩:=(r.look (ks:=ks)).v _ hb
 refine nG ?_
 exact tail_any hm.typeIs slot_dict_getitem.lookup (wpAny_getItem_heap (nY hu) (ka.key fun _ _ z=>z.1) hm hx (F.here O rx)) (hs _ _)
theorem HX {as:List AV} {ks:List Int} {l:List (List Int×AV)} {a:AV} (D:DT own n l) (hk:∀ V vs,ah W V vs as→bS ks vs) (hn:(fO ks l).isNone = true) (hz:Nat.ble l.length 10000 = true):kF W own n (.tup as) a (own.set n (.dicT (l ++ [(ks,a)]))):=fun A U ad s r u v Q E hu B O hr ru rv F=>by
 refine af fun nG=>?_
 obtain ⟨x,rfl,ka⟩:=rL hk ru
 obtain ⟨⟨pv,z⟩,xs,hm,rl⟩:=D.at O hr
 refine nG ?_
 have hz:=Nat.le_of_ble_eq_true hz
 have q:atKey xs ks = none:=Option.isNone_iff_eq_none.mp (by rw [← Option.not_isSome,(rl.look (ks:=ks)).s,Option.not_isSome]; exact hn)
 refine wpAny_setItem_heap (hsz:=by rw [rl.length,sizeLine_eq]; lia) (nY hu) (ka.key fun _ _ z=>z.1) hm fun h' hm' sb=>?_
 refine af fun nG=>?_
 rw [storedH_new q] at hm'
 obtain ⟨o,es,ep,ho,hx,hd,he,_,nd⟩:=hm'
 refine nG ?_
 exact F h' _ (O.put z sb (fun e=>by cases e) fun V le _ _=>⟨fun _=>⟨o,ho,hx,_,es,ep,hd,he,nd,(rl.mono le).snoc (by obtain ⟨k1,k2⟩:=ka; exact ⟨le.g _ _ k1,k2⟩) (rv.mono le)⟩,(fun _ e=>by cases e)⟩)
theorem bI.miss {V:Vw} {k:Str} {l:List (Str×AV)}:∀ {kvs:List (Str×Value)},bI W V kvs l→lk k l = none→valueAt kvs k = none:=by
 induction l with
 | nil=>exact fun r _=>by obtain rfl:=r; rfl
 | cons p l ih=>
  obtain ⟨j,a⟩:=p
  intro _ r e
  obtain ⟨⟨_⟩,q⟩:=r
  rw [c9] at e
  unfold valueAt
  rw [List.find?_cons]
  by_cases z:j = k
  ·rw [if_pos z.symm] at e; exact c5 e
  ·rw [if_neg (Ne.symm z)] at e
   rw [decide_eq_false z]
   exact ih q e
theorem bI.has {V:Vw} {k:Str} {l:List (Str×AV)} {kvs:List (Str×Value)} (r:bI W V kvs l):(valueAt kvs k).isSome = (lk k l).isSome:=by
 cases e:lk k l with
 | none=>rw [r.miss e]; rfl
 | some b=>obtain ⟨y,hy,_⟩:=r.look e; rw [hy]; rfl
theorem HY (nt:Bool) {y:Str} {l:List (Str×AV)} (hn:own[n]? = some (.dicS l)):eV W own (mN nt) (.str y) (.loc n) (.bool (nt ^^ (lk y l).isSome)):=fun A U ad s v u Q E hu B O rv ru F=>by
 obtain ⟨_⟩:=rv
 obtain ⟨e⟩:=ru
 obtain ⟨_,o,ho,ns,kvs,dd,r⟩:=O.obj _ _ _ ⟨hn,rfl,e⟩
 have hm:=Heap.DictOf.mapOf (Heap.dictOf_iff.mpr ⟨o,ho,dd⟩)
 have q:=r.has (k:=y)
 cases nt
 ·exact wpAny_in_of (strKind_is _ _ _ _) ns hm (by rw [q]; exact F.here O (congrArg _ (Bool.false_xor _).symm))
 ·exact wpAny_notIn_of (strKind_is _ _ _ _) ns hm (by rw [q]; exact F.here O (congrArg _ (Bool.true_xor _).symm))
theorem HZ {y:Str} {l:List (Str×AV)} {b:AV} (hn:own[n]? = some (.dicS l)) (hb:lk y l = some b):jY W own (.loc n) (.str y) b:=fun A U ad s v u k val Q E hu hs B O rv ru F=>by
 refine af fun nG=>?_
 obtain ⟨_⟩:=ru
 obtain ⟨e⟩:=rv
 obtain ⟨_,o,ho,ns,kvs,dd,r⟩:=O.obj _ _ _ ⟨hn,rfl,e⟩
 have hm:=Heap.DictOf.mapOf (Heap.dictOf_iff.mpr ⟨o,ho,dd⟩)
 obtain ⟨x,hx,rx⟩:=r.look hb
 refine nG ?_
 exact tail_any hm.typeIs slot_dict_getitem.lookup (wpAny_getItem_of (strKind_is _ _ _ _) hm hx (F.here O rx)) (hs _ _)
theorem H0 {K f:Addr} {m:Nat} {ms:List (Str×Addr)} {x:Str} {fs:List (Str×AV)} {as:List AV} {r:AV} (h1:own[n]? = some (.obj K m)) (h2:own[m]? = some (.fld fs)) (hm:(K,ms)∈g7) (hf:lk x ms = some f) (hx:lk x fs = none) (T:Tells W d (.ref f) own1 (.loc n::as) r own2):cz W d own (.loc n) x own1 as r own2:=fun A a U ad s v pl Q E B O rv k=>by
 refine af fun nG=>?_
 obtain ⟨e⟩:=rv
 obtain ⟨_,o,ho,pr⟩:=O.obj _ _ _ ⟨h1,rfl,e⟩
 obtain ⟨ed⟩:=pr
 obtain ⟨_,o',ho',pr'⟩:=O.obj _ _ _ ⟨h2,rfl,ed⟩
 obtain ⟨rf⟩:=pr'
 refine nG ?_
 have c:=mX (P:=W.w.params) (List.all_eq_true.mp mV.2 _ hm)
 have t1:=cV (cV (xC W.w.params) hm) (fu hf)
 exact method_fn B.G.K (⟨ho,rfl,rfl,ho'⟩:InstAt s.heap _ (instObj K _) K (some (dictOf _ _))) c.ga c.g (congrArg (·.1) t1) (congrArg (·.2) t1) (by unfold shadowIn; dsimp only; rw [rf.miss hx]; rfl) (k _ _ s.toks T.1 fun s' ad' vs Q' E' kk B' rl F=>
  T.2 A a U ad' s' _ Q' E' B' kk.owns (.cons (a:=.loc n) (.mk (kk.ad _ _ e)) rl) F)
end
section
variable {W:ab} {d:Nat} {sc:Fs} {σ:ao} {own own1:Own} {c:ai W d sc}
theorem bO.keys {V:Vw}:∀ {l:List (Int×AV)} {kvs:List (Int×Value)},bO W V kvs l→kvs.map (·.1) = l.map (·.1)
 | [],_,r=>by obtain rfl:=r; rfl
 | (i,a)::l,_,r=>by
  obtain ⟨⟨_⟩,r⟩:=r
  exact congrArg (i::·) r.keys
theorem H4 {kvs:List (Int×Value)}:∀ {acc:List Value},acc.length = kvs.length→(∀ (i:Nat) (v:Value),acc[i]? = some v→∃ k x,kvs[i]? = some (k,x)∧(intKind pg W.w).is k v = true)→IntsAre acc (kvs.map (·.1)):=by
 induction kvs with
 | nil=>
  intro acc hl _
  obtain rfl:acc = []:=List.length_eq_zero_iff.mp hl
  exact .nil
 | cons p kvs ih=>
  intro acc hl hv
  cases acc with
  | nil=>cases hl
  | cons v acc=>
   obtain ⟨k,x,e1,e2⟩:=hv 0 v rfl
   cases e1
   obtain ⟨t,rfl⟩:=Value.isInt_shape e2
   exact .cons _ _ (ih (Nat.succ.inj hl) fun i v e=>hv (i + 1) v e)
noncomputable def rM (l:List Int):List AV:=l.map fun i=>.int (.lit i)
theorem yY {V:Vw}:∀ {vs:List Value} {ks:List Int},IntsAre vs ks→ah W V vs (rM ks)
 | _,_,.nil=>rfl
 | _,_,.cons k t r=>.mk (.mk t) (yY r)
set_option tactic.hygienic true in
theorem H5 {l:List (Int×AV)} (hl:Nat.blt l.length 64 = true):bU W 6 [.dicI l] (.lst (rM (sortI (l.map (·.1))))):=one W fun A U ad s v Q E hh B rv G=>by
 obtain ⟨ho,ns,dd,rv⟩:=rv
 rename_i a ob kvs
 have hl:=Nat.blt_eq.mp hl
 have hk:=rv.keys
 obtain ⟨ep,hat⟩:=(Heap.dictOf_iff.mpr ⟨ob,ho.1,dd⟩:s.heap.DictOf (intKind pg W.w) a kvs).dictAt
 have hlen:kvs.length = l.length:=by rw [← List.length_map (f:=(·.1)),hk,List.length_map]
 rw [rJ]
 refine Calls.call_function_entry kind_sorted plain_sorted entry_sorted (args_sorted1 _) ?_
 unfold Builtin.«sorted»
 refine wpAny_bind (m:=checkCount "sorted" 1 1 _) (wpAny_pure ?_)
 refine wpAny_bind (kdu_collect (A:=A.in1) (kdl_dict (knd:=intKind pg W.w) (kvs:=kvs) (ep:=ep) ns) hh hat (by rw [sizeLine_eq]; lia) fun h1 t1 acc k1 hacc=>?_)
 have hla:acc.toList.length = kvs.length:=by rw [Array.length_toList]; exact hacc.1
 have rl:IntsAre acc.toList (l.map (·.1)):=hk▸H4 hla fun i v e=>hacc.2 i v (by rw [← Array.getElem?_toList]; exact e)
 refine wpAny_bind (wpAny_newList ?_ (by rw [hla,sizeLine_eq]; lia))
 have hoL:(h1.push (seqObj "list" acc.toList.toArray 0)).get? h1.objs.size = some (seqObj "list" acc.toList.toArray 0):=Heap.get?_push_size _ rfl
 have kp:ag s.heap (h1.push (seqObj "list" acc.toList.toArray 0)):=(ag.of k1).trans (ag.push _ _)
 have new:s.heap.get? h1.objs.size = none:=(ag.of k1).gone (c7 h1)
 refine wpAny_bind (wpAny_holding (wpAny_call_entry slot_list_sort ⟨_,hoL,rfl⟩ entry_list_sort (list_sort_tree (s:=mv s (h1.push (seqObj "list" acc.toList.toArray 0)) t1) hoL rl (by rw [hla]; lia) fun out ns' a1 a2 a3=>⟨_,rfl,?_⟩) (args_list_sort _)))
 refine wpAny_pure ⟨_,rfl,?_⟩
 obtain rfl:=eq_sortI a2 a3
 generalize h1.push (seqObj "list" acc.toList.toArray 0) = H at hoL kp
 obtain ⟨e1,ho1⟩:∃ e1,(H.update h1.objs.size (Obj.mapSeq fun _=>(#[]:Array Value))).get? h1.objs.size = some (seqObj "list" #[] e1):=⟨_,get?_update_seq hoL fun _=>#[]⟩
 have ho6:(((H.update h1.objs.size (Obj.mapSeq fun _=>(#[]:Array Value))).push (seqObj "tuple" acc.toList.toArray 0)).push (seqObj "list" #[] 0)).get? h1.objs.size = some (seqObj "list" #[] e1):=Heap.get?_push_of_some _ (Heap.get?_push_of_some _ ho1)
 have kx:au (· = h1.objs.size) H (sortedHeap H h1.objs.size acc.toList out):=((au.one (gx hoL) (Heap.SameBut.update ..)).trans (au.x (au.trans (ag.push _ _) (ag.push _ _)))).trans (au.one (gx (vs:=[]) ho6) (Heap.SameBut.update ..))
 obtain ⟨e2,hfin⟩:∃ e2,(sortedHeap H h1.objs.size acc.toList out).get? h1.objs.size = some (seqObj "list" out e2):=⟨_,get?_update_seq ho6 fun _=>out⟩
 refine G (.ref h1.objs.size) _ t1 (kp.dD kx fun u hu=>hu▸new) (.mk (vs:=out.toList) (n:=e2) ⟨hfin,rfl,fun q=>?_⟩ (yY a1))
 obtain ⟨o,e⟩:=B.low _ q
 rw [new] at e; exact aq e
noncomputable def nZ (acc:List Int) (i:Int):List Int:=match acc.any fun q=>decide (q = i) with
 | true=>acc
 | false=>acc ++ [i]
noncomputable def n5:List Int→List Int→List Int
 | [],acc=>acc
 | i::l,acc=>n5 l (nZ acc i)
noncomputable def ib:List Value→List Int→List Int
 | [],acc=>acc
 | .int i _::l,acc=>ib l (nZ acc i)
 | _::l,acc=>ib l acc
theorem yZ:∀ (l m:List Value) (acc:List Int),ib (l ++ m) acc = ib m (ib l acc)
 | [],_,_=>rfl
 | v::l,m,acc=>by cases v<;>exact yZ l m _
noncomputable def H6 (v:Value):Prop:=∃ i t,v = .int i t
theorem rN:∀ {is:List Int} {vs:List Value} {acc:List Int},bS is vs→ib vs acc = n5 is acc∧∀ v∈vs,H6 v
 | [],_,_,r=>by obtain rfl:=r; exact ⟨rfl,f9⟩
 | i::is,_,_,r=>by
  obtain ⟨⟨t⟩,r⟩:=r
  exact ⟨(rN r).1,fun v hv=>(List.mem_cons.mp hv).elim (fun q=>q▸⟨_,_,rfl⟩) ((rN (acc:=[]) r).2 v)⟩
theorem H7 {kvs:List (Int×Value)} {k:Int} {y:Value} (h:∀ p∈kvs,p.2 = y):(stored kvs k y).map (·.1) = nZ (kvs.map (·.1)) k∧∀ p∈stored kvs k y,p.2 = y:=by
 unfold stored nZ
 rw [List.any_map]
 show List.map _ (if (kvs.any fun kv=>decide (kv.1 = k)) = true then kvs.map (fun kv=>if kv.1 = k then (kv.1,y) else kv) else kvs ++ [(k,y)]) = (match kvs.any fun kv=>decide (kv.1 = k) with | true=>_ | false=>_)∧∀ p∈(if (kvs.any fun kv=>decide (kv.1 = k)) = true then kvs.map (fun kv=>if kv.1 = k then (kv.1,y) else kv) else kvs ++ [(k,y)]),p.2 = y
 cases kvs.any fun kv=>decide (kv.1 = k) with
 | true=>
  have e:kvs.map (fun kv=>if kv.1 = k then (kv.1,y) else kv) = kvs:=(List.map_congr_left fun p m=>by
   split
   ·exact Prod.ext rfl (h p m).symm
   ·rfl).trans (List.map_id _)
  rw [if_pos rfl,e]
  exact ⟨rfl,h⟩
 | false=>
  rw [if_neg Bool.false_ne_true,List.map_append]
  refine ⟨rfl,fun p hp=>?_⟩
  rcases List.mem_append.mp hp with q | q
  ·exact h p q
  ·rw [List.mem_singleton.mp q]
theorem H8 {l:List Value} {kvs:List (Int×Value)} (h:StoredAll (fun v k=>∃ t,v = .int k t) (fun _ y=>y = .bool true) l kvs):kvs.map (·.1) = ib l []∧∀ p∈kvs,p.2 = .bool true:=by
 induction h with
 | nil=>exact ⟨rfl,f9⟩
 | @snoc l kvs v k y _ hk hy ih=>
  obtain ⟨t,rfl⟩:=hk
  subst hy
  obtain ⟨h1,h2⟩:=H7 ih.2
  rw [yZ,h1,ih.1]
  exact ⟨rfl,h2⟩
noncomputable def rO (ks:List Int):List (Int×AV):=ks.map fun i=>(i,.bool true)
theorem y0 {V:Vw}:∀ {kvs:List (Int×Value)},(∀ p∈kvs,p.2 = .bool true)→bO W V kvs (rO (kvs.map (·.1)))
 | [],_=>rfl
 | (k,y)::kvs,h=>by
  obtain rfl:y = .bool true:=h _ (.head _)
  exact .mk (.mk rfl) (y0 fun p m=>h p (.tail _ m))
set_option tactic.hygienic true in
theorem aj.H9 {x:Str} {px tp cp pos:Pos} {u:Nat} {it:Expr} {scope:Scope} {as:List AV} {is:List Int} (hx:cX scope x .local = true) (hs:ku scope = true) (hl:(scope.names.all fun p=>p.2 == .local) = true) (hf:iZ it) (h1:aj c σ own (eval it c.env) (.lst as) own1) (hk:∀ V vs,ah W V vs as→bS is vs) (hz:Nat.ble as.length 10000 = true):
  aj c σ own (eval (.DictComp (.Name x px) (.Constant (.bool true) u cp) [⟨.Name x tp,it,[],0⟩] scope pos) c.env) (.dicI (rO (n5 is []))) own1:=fun s ad Q E S F=>by
 refine af fun nG=>?_
 have F0:=kz hs
 have loc:∀ y∈scope.names,y.2 = .local:=fun y hy=>beq_iff_eq.mp (List.all_eq_true.mp hl y hy)
 have hxl:=nT hx
 obtain ⟨cl,C⟩:=rq (scope:=scope) (env:=c.env) fun y m=>by have:=loc _ m; cases this
 refine nG ?_
 refine wpAny_DictComp_free (intKind pg W.w) (fun _=>true) (fun v k=>∃ t,v = .int k t) (fun _ y=>y = .bool true) C.run (fun y hy=>by rw [loc y hy]; exact fun z=>(by cases z)) F0.kind (fun y hy _=>by rw [← cQ,(F0.name y.1 y.2 hy).look,loc y hy]) hxl (h1 s ad _ _ S fun xw g1 t1 a1 k1 r1=>?_) (hf _)
 refine af fun nG=>?_
 obtain ⟨hob,rl⟩:=r1
 rename_i ax vs n
 have ho:=hob.1
 obtain ⟨hkv,hint⟩:=rN (acc:=[]) (hk _ _ rl)
 refine nG ?_
 have hlen:as.length≤10000:=Nat.le_of_ble_eq_true hz
 have hlt:ax < g1.objs.size:=Heap.lt_size ho
 have up:∀ (h3:Heap),(∀ b o,b∉[g1.objs.size]→(g1.push { cls:=.type "list_iterator",data:=.fields #[.ref ax,.int 0 0] }).get? b = some o→h3.get? b = some o)→∀ b o,g1.get? b = some o→h3.get? b = some o:=
  fun h3 hk b o e=>hk b o (fun hm=>Nat.lt_irrefl _ ((List.mem_singleton.mp hm)▸Heap.lt_size e)) (Heap.get?_push_of_some _ e)
 refine wpAny_pyIter_list (items:=vs.toArray) ⟨_,ho,rfl,n,rfl⟩ ⟨g1.objs.size,[g1.objs.size,ax],[g1.objs.size],vs.toArray.size,_,_,rfl,Walks.list c.a.handled _ _ (Nat.ne_of_lt hlt) vs.toArray,(by rw [List.size_toArray,rl.length,sizeLine_eq]; lia),⟨⟨_,Heap.get?_push_size _ rfl,rfl,rfl⟩,⟨_,Heap.get?_push_of_some _ ho,rfl,n,rfl⟩⟩,?_,⟨?_,?_,?_⟩,?_⟩
 ·intro b hb
  show b < (g1.push _).objs.size
  rw [Heap.size_push]
  rcases List.mem_cons.mp hb with rfl | hb
  ·exact Nat.lt_succ_self _
  ·rw [List.mem_singleton.mp hb]; exact Nat.lt_succ_of_lt hlt
 ·intro C i v s₃ m₃ E' hP hn hm hk
  exact wpAny_tests_nil ⟨rfl,_,_,rfl,fun b o e=>e⟩
 ·intro C i v s₃ m₃ E' hP _ hn hm hk
  refine af fun nG=>?_
  obtain ⟨z,t,rfl⟩:=hint v (by simpa using Array.mem_of_getElem? hP)
  refine nG ?_
  refine wpAny_Name (wpAny_loadName_local (by simp [compEnvC,relabel,F0.kind]) (lookup_relabel_local hxl) hn hm ⟨⟨z,intKind_is _ _ _ _,t,rfl⟩,_,_,rfl,fun b o e=>e⟩) (F0.name _ _ (iW hxl)).dbg
 ·intro C i v s₃ m₃ E' hP _ hn hm hk
  exact wpAny_Constant_bool ⟨rfl,_,_,rfl,fun b o e=>e⟩
 ·intro D h' tk kvs vs' hnew hlD hlen hP hF hk
  refine af fun nG=>?_
  obtain rfl:vs' = vs:=by simpa using list_of_places hlen hP
  rw [List.filter_eq_self.mpr fun _ _=>rfl] at hF
  obtain ⟨hkk,hvv⟩:=H8 hF
  have keep:ag g1 h':=.of (up h' hk)
  obtain ⟨ob,hob',hdo⟩:=Heap.dictOf_iff.mp hlD
  refine nG ?_
  have hD:g1.get? D = none:=(ag.push _ _).gone hnew
  have S1:=S.after k1
  refine F (.ref D) h' tk a1 (k1.trans (k1.owns.grow keep)) (.mk ⟨hob',(qk hdo).1,fun z=>?_⟩ (beq_eq_false_iff_ne.mpr fun q=>?_) hdo (by rw [← hkv,← hkk]; exact y0 hvv))
  ·refine af fun nG=>?_
   obtain ⟨o,e⟩:=S1.B.low D z
   refine nG ?_
   rw [show g1.get? D = none from hD] at e; exact aq e
  ·refine af fun nG=>?_
   obtain ⟨o,ho⟩:=Option.isSome_iff_exists.mp (yV W.w.params)
   obtain ⟨o',e⟩:=S1.Gp.ex id (W.B.fact _ _ ho)
   refine nG ?_
   rw [← q,show g1.get? D = none from hD] at e; exact aq e
end
noncomputable def gy (W:ab) (T:Nat→Option AV) (V V':Vw):Prop:=∀ n b,T n = some b→∀ v,qa V.ad n v→Rel W V' v b
noncomputable def n6 (T:Nat→Option AV) (a b:AV):Prop:=∀ {W:ab} {V V':Vw},Sub V.g V'.g→gy W T V V'→∀ v,Rel W V v a→Rel W V' v b
noncomputable def om {α β:Type} {P:α→Prop} {Q:β→Prop} (x:Option { a:α // P a }) (f:α→β) (h:∀ a,P a→Q (f a)):Option { b:β // Q b }:=Option.rec (motive:=fun _=>Option { b:β // Q b }) none (fun a=>some ⟨f a.1,h a.1 a.2⟩) x
noncomputable def gz {α β γ:Type} {P:α→Prop} {P':γ→Prop} {Q:β→Prop} (x:Option { a:α // P a }) (y:Option { a:γ // P' a }) (f:α→γ→β) (h:∀ a c,P a→P' c→Q (f a c)):Option { b:β // Q b }:=Option.rec (motive:=fun _=>Option { b:β // Q b }) none (fun a=>om y (f a.1) fun c=>h a.1 c a.2) x
section
variable (T:Nat→Option AV)
mutual
noncomputable def i7:(a:AV)→Option { b:AV // n6 T a b }
 | .loc n=>de (T n) (fun b h=>some ⟨b,fun s t v r=>t n b h v r⟩) fun _=>none
 | .tup l=>om (n8 l) .tup fun m h {W V V'} s t v ⟨h1,r⟩=>.mk (s _ _ h1) (h s t _ r)
 | .lst l=>om (n8 l) .lst fun m h {W V V'} s t v ⟨h1,r⟩=>.mk (s _ _ h1) (h s t _ r)
 | .inst C l=>om (rP l) (.inst C) fun m h {W V V'} s t v ⟨h1,hd,r⟩=>.mk (s _ _ h1) (s _ _ hd) (h s t _ r)
 | .dicI l=>om (rQ l) .dicI fun m h {W V V'} s t v ⟨h1,ns,d,r⟩=>.mk (s _ _ h1) ns d (h s t _ r)
 | .dicS l=>om (rR l) .dicS fun m h {W V V'} s t v ⟨h1,ns,d,r⟩=>.mk (s _ _ h1) ns d (h s t _ r)
 | .rng a n=>some ⟨.rng a n,fun s t v ⟨h,k⟩=>.mk (s _ _ h) k⟩
 | .hole n=>some ⟨.hole n,fun {W _ _} s t v r=>W.ηm _ _ _ _ s r⟩
 | .none=>some ⟨.none,fun s t v r=>r⟩
 | .bool b=>some ⟨.bool b,fun s t v r=>r⟩
 | .sb b=>some ⟨.sb b,fun s t v r=>r⟩
 | .int b=>some ⟨.int b,fun s t v r=>r⟩
 | .str b=>some ⟨.str b,fun s t v r=>r⟩
 | .bytes b=>some ⟨.bytes b,fun s t v r=>r⟩
 | .con b=>some ⟨.con b,fun s t v r=>r⟩
 | .blt b=>some ⟨.blt b,fun s t v r=>r⟩
 | .any=>some ⟨.any,fun s t v r=>r⟩
 | .anyS=>some ⟨.anyS,fun s t v r=>r⟩
noncomputable def n8:(a:List AV)→Option { b:List AV //∀ {W:ab} {V V':Vw},Sub V.g V'.g→gy W T V V'→∀ v,ah W V v a→ah W V' v b }
 | []=>some ⟨[],fun s t v r=>r⟩
 | a::l=>gz (i7 a) (n8 l) List.cons fun b m h k {W V V'} s t v ⟨r,q⟩=>.mk (h s t _ r) (k s t _ q)
noncomputable def rP:(a:List (Str×AV))→Option { b:List (Str×AV) //∀ {W:ab} {V V':Vw},Sub V.g V'.g→gy W T V V'→∀ v,bF W V v a→bF W V' v b }
 | []=>some ⟨[],fun s t v r=>r⟩
 | (x,a)::l=>gz (i7 a) (rP l) (fun b m=>(x,b)::m) fun b m h k {W V V'} s t v ⟨⟨e,r⟩,q⟩=>.mk (.mk e (h s t _ r)) (k s t _ q)
noncomputable def rQ:(a:List (Int×AV))→Option { b:List (Int×AV) //∀ {W:ab} {V V':Vw},Sub V.g V'.g→gy W T V V'→∀ v,bO W V v a→bO W V' v b }
 | []=>some ⟨[],fun s t v r=>r⟩
 | (x,a)::l=>gz (i7 a) (rQ l) (fun b m=>(x,b)::m) fun b m h k {W V V'} s t v ⟨⟨r⟩,q⟩=>.mk (.mk (h s t _ r)) (k s t _ q)
noncomputable def rR:(a:List (Str×AV))→Option { b:List (Str×AV) //∀ {W:ab} {V V':Vw},Sub V.g V'.g→gy W T V V'→∀ v,bI W V v a→bI W V' v b }
 | []=>some ⟨[],fun s t v r=>r⟩
 | (x,a)::l=>gz (i7 a) (rR l) (fun b m=>(x,b)::m) fun b m h k {W V V'} s t v ⟨⟨r⟩,q⟩=>.mk (.mk (h s t _ r)) (k s t _ q)
end
noncomputable def n9 (T:Nat→Option AV) (p q:PV):Prop:=live q = true∧∀ {W:ab} {V V':Vw},Sub V.g V'.g→gy W T V V'→∀ a o,d3 W V a o p→d3 W V' a o q
noncomputable def y3 (p:PV):Option { q:PV // n9 T p q }:=match p with
 | .lst l=>om (n8 T l) .lst fun m h=>⟨rfl,fun s t a o ⟨r⟩=>.mk (h s t _ r)⟩
 | .fld l=>om (rP T l) .fld fun m h=>⟨rfl,fun s t a o ⟨r⟩=>.mk (h s t _ r)⟩
 | .dicS l=>om (rR T l) .dicS fun m h=>⟨rfl,fun s t a o ⟨ns,kvs,d,r⟩=>⟨ns,kvs,d,h s t _ r⟩⟩
 | .dicI l=>om (rQ T l) .dicI fun m h=>⟨rfl,fun s t a o ⟨ns,kvs,d,r⟩=>⟨ns,kvs,d,h s t _ r⟩⟩
 | .obj C n=>de (T n) (fun b h=>match b,h with
  | .loc m,h=>some ⟨.obj C m,rfl,fun s t a o ⟨e⟩=>let ⟨e'⟩:=t n _ h _ (.mk e); .mk e'⟩
  | _,_=>none) fun _=>none
 | _=>none
end
noncomputable def oa (n:Nat):(sel:List Nat)→Nat→Option Nat
 | [],_=>none
 | m::l,k=>(match Nat.beq n m with
  | true=>some k
  | false=>oa n l (k + 1))
theorem y4 {n:Nat}:∀ {sel:List Nat} {k j:Nat},oa n sel k = some j→k≤j∧sel[j - k]? = some n
 | m::l,k,j,e=>by
  unfold oa at e
  split at e
  ·rename_i q
   cases e
   rw [Nat.sub_self,Nat.eq_of_beq_eq_true q]
   exact ⟨Nat.le_refl _,rfl⟩
  ·obtain ⟨h1,h2⟩:=y4 e
   refine ⟨Nat.le_of_succ_le h1,?_⟩
   rw [show j - k = (j - (k + 1)) + 1 by lia,List.getElem?_cons_succ]
   exact h2
noncomputable def fP (base:Nat) (own1:Own) (sel:List Nat) (n:Nat):Option AV:=match oa n sel base with
 | some k=>some (.loc k)
 | none=>(match ow own1 n with
  | some ⟨.froz t,_⟩=>(match nl t with
   | true=>some t
   | false=>none)
  | _=>none)
structure rS (own1:Own) (T:Nat→Option AV) (sel:List Nat) (own2:Own):Prop where
 len:own2.length = sel.length
 at_:∀ (k:Nat) (q:PV),own2[k]? = some q→∃ n p,sel[k]? = some n∧own1[n]? = some p∧live p = true∧n9 T p q
noncomputable def y5 (own1:Own) (T:Nat→Option AV):(sel:List Nat)→Option { own2:Own // rS own1 T sel own2 }
 | []=>some ⟨[],rfl,(fun _ _ e=>by exact aq e)⟩
 | n::sel=>(match ow own1 n with
  | some ⟨p,hp⟩=>aF (live p) (fun hl=>gz (y3 T p) (y5 own1 T sel) List.cons fun q m h k=>⟨congrArg (· + 1) k.len,fun j r e=>match j,e with
   | 0,e=>⟨n,p,rfl,hp,hl,Option.some.inj e▸h⟩
   | j + 1,e=>k.at_ j r e⟩) fun _=>none
  | none=>none)
theorem b0 {ad1:List Addr} {sel:List Nat} {k n:Nat} {a:Addr} (h:sel[k]? = some n) (e:ad1[n]? = some a):(sel.map fun n=>ad1.getD n 0)[k]? = some a:=by
 rw [List.getElem?_map,h,Option.map_some,List.getD_eq_getElem?_getD,e]; rfl
set_option tactic.hygienic true in
theorem aN.join {W:ab} {U:AS} {own own1 own2:Own} {ad ad1:List Addr} {h h':Heap} {sel:List Nat} (O:aN W U ⟨own,ad,h⟩) (low:∀ u,U u→∃ o,h.get? u = some o) (k:ag h h') (O1:aN W (fun u=>U u∨ak own ad u) ⟨own1,ad1,h'⟩) (new:∀ u,ak own1 ad1 u→h.get? u = Option.none) (nd:sel.Nodup)
  (P:rS own1 (fP own.length own1 sel) sel own2):After W U ⟨own,ad,h⟩ ⟨own ++ own2,ad ++ sel.map (fun n=>ad1.getD n 0),h'⟩∧∀ v a b,Rel W (vw (fun u=>U u∨ak own ad u) ⟨own1,ad1,h'⟩) v a→n6 (fP own.length own1 sel) a b→Rel W (vw U ⟨own ++ own2,ad ++ sel.map (fun n=>ad1.getD n 0),h'⟩) v b:=by
 generalize ha:sel.map (fun n=>ad1.getD n 0) = ad2
 have len2:ad2.length = own2.length:=by rw [← ha,List.length_map,P.len]
 have at2:∀ {j q a},own2[j]? = some q→ad2[j]? = some a→∃ n p,sel[j]? = some n∧At own1 ad1 n p a∧n9 (fP own.length own1 sel) p q:=fun {j q a} e1 e2=>by
  obtain ⟨n,p,h1,h2,h3,h4⟩:=P.at_ j q e1
  obtain ⟨b,hb⟩:∃ b,ad1[n]? = some b:=⟨_,List.getElem?_eq_getElem (by rw [O1.len]; exact (List.getElem?_eq_some_iff.mp h2).1)⟩
  rw [← ha,b0 h1 hb] at e2
  cases e2
  exact ⟨n,p,h1,⟨h2,h3,hb⟩,h4⟩
 have sp:∀ {m pv a},At (own ++ own2) (ad ++ ad2) m pv a→At own ad m pv a∨(own.length≤m∧own2[m - own.length]? = some pv∧ad2[m - own.length]? = some a):=fun {m pv a} z=>by
  obtain ⟨z1,z2,z3⟩:=z
  have:ad.length = own.length:=O.len
  rw [List.getElem?_append] at z1 z3
  by_cases q:m < own.length
  ·rw [if_pos q] at z1; rw [if_pos (by lia)] at z3; exact .inl ⟨z1,z2,z3⟩
  ·rw [if_neg q] at z1; rw [if_neg (by lia),this] at z3; exact .inr ⟨Nat.le_of_not_lt q,z1,z3⟩
 have pre:Pre ad (ad ++ ad2):=fun n a e=>by rw [List.getElem?_append_left (List.getElem?_eq_some_iff.mp e).1]; exact e
 have pr:∀ u,ak (own ++ own2) (ad ++ ad2) u→ak own ad u∨ak own1 ad1 u:=fun u ⟨m,pv,z⟩=>(sp z).imp (fun z=>⟨m,pv,z⟩) fun ⟨_,e1,e2⟩=>let ⟨n,p,_,z,_⟩:=at2 e1 e2; ⟨n,p,z⟩
 have l0:(vw U ⟨own,ad,h⟩).Le (vw U ⟨own ++ own2,ad ++ ad2,h'⟩):=⟨k.sub fun b o e n=>⟨id,fun z=>z.elim (fun z=>n (.inl z)) fun z=>(pr b z).elim (fun z=>n (.inr z)) (fun z=>by rw [new b z] at e; exact aq e)⟩,pre⟩
 have s1:Sub (vw (fun u=>U u∨ak own ad u) ⟨own1,ad1,h'⟩).g (vw U ⟨own ++ own2,ad ++ ad2,h'⟩).g:=dZ fun u z=>z.elim (fun z=>.inl (.inl z)) fun z=>(pr u z).imp (fun z=>.inr z) id
 have tok:gy W (fP own.length own1 sel) (vw (fun u=>U u∨ak own ad u) ⟨own1,ad1,h'⟩) (vw U ⟨own ++ own2,ad ++ ad2,h'⟩):=fun n b e v ⟨hv⟩=>by
  unfold fP at e
  split at e
  ·rename_i j hj
   cases e
   obtain ⟨h1,h2⟩:=y4 hj
   have:=O.len
   refine .mk ?_
   show (ad ++ ad2)[j]? = _
   rw [List.getElem?_append_right (by show ad.length≤j; rw [show ad.length = own.length from this]; exact h1),show ad.length = own.length from this,← ha]
   exact b0 h2 hv
  ·split at e
   ·rename_i t hn _
    split at e
    ·rename_i hnl
     cases e
     obtain ⟨a,ea,r⟩:=O1.fz n _ hn
     cases hv.symm.trans ea
     exact dQ s1 hnl r
    ·exact aq e
   ·exact aq e
 refine ⟨⟨pre,ag.dO.trans k,fun u z=>(pr u z).imp id (new u),⟨by show (ad ++ ad2).length = (own ++ own2).length; rw [List.length_append,List.length_append,len2]; exact congrArg (· + _) O.len,fun n pv a z=>?_,fun n t e=>?_,fun n m pv qv a z y=>?_,fun u z=>(pr u z).elim (O.top u) (O1.top u)⟩⟩,fun v a b r hb=>hb s1 tok v r⟩
 ·rcases sp z with z | ⟨_,e1,e2⟩
  ·refine af fun nG=>?_
   obtain ⟨nu,o,e,r⟩:=O.obj _ _ _ z
   refine nG ?_
   exact ⟨nu,o,k.gg e r.soft.2,r.mono l0⟩
  ·refine af fun nG=>?_
   obtain ⟨n,p,_,z,_,hr⟩:=at2 e1 e2
   obtain ⟨nu,o,e,r⟩:=O1.obj _ _ _ z
   refine nG ?_
   exact ⟨fun q=>nu (.inl q),o,e,hr s1 tok _ _ r⟩
 ·have e:(own ++ own2)[n]? = some (.froz t):=e
  rw [List.getElem?_append] at e
  split at e
  ·refine af fun nG=>?_
   obtain ⟨a,ea,r⟩:=O.fz n t e
   refine nG ?_
   exact ⟨a,pre _ _ ea,r.mono l0⟩
  ·refine af fun nG=>?_
   obtain ⟨_,_,_,_,_,h4⟩:=P.at_ _ _ e
   refine nG ?_
   have:=h4.1; exact aR this
 ·rcases sp z with z | ⟨g1,e1,e2⟩<;>rcases sp y with y | ⟨g2,f1,f2⟩
  ·exact O.inj _ _ _ _ _ z y
  ·refine af fun nG=>?_
   obtain ⟨n',p,_,w,_⟩:=at2 f1 f2
   refine nG ?_
   exact absurd (.inr ⟨_,_,z⟩) (O1.obj _ _ _ w).1
  ·refine af fun nG=>?_
   obtain ⟨n',p,_,w,_⟩:=at2 e1 e2
   refine nG ?_
   exact absurd (.inr ⟨_,_,y⟩) (O1.obj _ _ _ w).1
  ·refine af fun nG=>?_
   obtain ⟨n1,p1,i1,w1,_⟩:=at2 e1 e2
   obtain ⟨n2,p2,i2,w2,_⟩:=at2 f1 f2
   obtain rfl:=O1.inj _ _ _ _ _ w1 w2
   refine nG ?_
   have:=(List.getElem?_inj (List.getElem?_eq_some_iff.mp i1).1 nd).mp (i1.trans i2.symm)
   lia
variable {W:ab} {d:Nat}
theorem Tells.join {f:Value} {as:List AV} {r b:AV} {own own1 own2:Own} {sel:List Nat} (T:Tells W d f [] as r own1) (ha:ba as = true) (nd:sel.Nodup) (P:rS own1 (fP own.length own1 sel) sel own2) (hb:n6 (fP own.length own1 sel) r b):Tells W d f own as b (own ++ own2):=⟨T.1,fun A a U ad s vs Q E B O rl F=>
 T.2 A a (fun u=>U u∨ak own ad u) [] s vs Q E (B.more O) .none (eZ (dZ fun u q=>q.elim id fun q=>(cK q).elim) ha rl) fun v h' tk ad1 k rv=>
  have kk:ag s.heap h':=au.trans (ag.of fun b o e=>a0.mpr ⟨e,cK⟩) k.keep
  have J:=O.join B.low kk k.owns (fun u z=>(k.new u z).elim (fun z=>(cK z).elim) id) nd P
  F v h' tk _ J.1 (J.2 v r b rv hb)⟩
noncomputable def fQ:Own→Nat→List Nat
 | [],_=>[]
 | p::l,k=>(match live p with
  | true=>k::fQ l (k + 1)
  | false=>fQ l (k + 1))
theorem rT:∀ {l:Own} {k n:Nat},n∈fQ l k→k≤n
 | p::l,k,n,m=>by
  unfold fQ at m
  split at m
  ·rcases List.mem_cons.mp m with rfl | m
   ·exact Nat.le_refl _
   ·exact Nat.le_of_succ_le (rT m)
  ·exact Nat.le_of_succ_le (rT m)
theorem rU:∀ (l:Own) (k:Nat),(fQ l k).Nodup
 | [],_=>.nil
 | p::l,k=>by
  unfold fQ
  split
  ·exact List.nodup_cons.mpr ⟨fun m=>Nat.lt_irrefl _ (rT m),rU l _⟩
  ·exact rU l _
noncomputable def cb (own own':Own):Prop:=∀ {W:ab} {U:AS} {ad:List Addr} {h:Heap},aN W U ⟨own,ad,h⟩→After W U ⟨own,ad,h⟩ ⟨own',ad,h⟩
theorem cb.refl {own:Own}:cb own own:=fun O=>O.refl
theorem cb.trans {own own1 own2:Own} (f:cb own own1) (g:cb own1 own2):cb own own2:=fun O=>(f O).trans (g (f O).owns)
noncomputable def i8 (z:Option AV) (own:Own) (n:Nat):Option AV:=match ow own n with
 | some ⟨.froz t,_⟩=>(match nl t with
  | true=>some t
  | false=>z)
 | _=>z
noncomputable def i9 (z:Option AV):Prop:=∀ b,z = some b→b = .any
set_option tactic.hygienic true in
theorem y6 {W:ab} {U:AS} {own:Own} {ad:List Addr} {h:Heap} {z:Option AV} (hz:i9 z) (O:aN W U ⟨own,ad,h⟩) {V:Vw} (le:(vw U ⟨own,ad,h⟩).Le V) (ea:V.ad = ad):gy W (i8 z own) V V:=fun n b e v ⟨hv⟩=>by
 have no:z = some b→∀ a,Rel W V (.ref a) b:=fun e a=>by rw [hz b e]; exact True.intro
 unfold i8 at e
 split at e
 ·rename_i t hn _
  split at e
  ·cases e
   obtain ⟨a,ea',r⟩:=O.fz n _ hn
   rw [ea] at hv
   cases hv.symm.trans ea'
   exact r.mono le
  ·exact no e _
 ·exact no e _
noncomputable def Ia (p:PV):Bool:=match p with
 | .lst l=>ba l
 | .fld l=>hZ l
 | .dicS l=>hZ l
 | .dicI l=>nN l
 | _=>false
theorem cb.tell {own:Own} {n:Nat} {pv pv':PV} {z:Option AV} (hz:i9 z) (h:own[n]? = some pv) (hl:live pv = true) (hp:n9 (i8 z own) pv pv'):cb own (own.set n pv'):=fun {W U ad hp'} O=>by
 refine af fun nG=>?_
 obtain ⟨a,ea⟩:∃ a,ad[n]? = some a:=⟨_,List.getElem?_eq_getElem (by rw [O.len]; exact (List.getElem?_eq_some_iff.mp h).1)⟩
 have y:At own ad n pv a:=⟨h,hl,ea⟩
 obtain ⟨nu,o,eo,pr⟩:=O.obj _ _ _ y
 refine nG ?_
 refine O.put y ⟨rfl,fun _ _=>rfl⟩ (fun _=>rfl) fun V le ea _=>⟨fun _=>⟨o,eo,hp.2 (V:=V) (fun _ _ e=>e) (y6 hz O le ea) a o (pr.mono le)⟩,fun t e=>by rw [e] at hp; exact aR hp.1⟩
noncomputable def y7 (z:Option AV) (hz:i9 z) (own:Own) (n:Nat):Option { own':Own // cb own own' }:=match ow own n with
 | some ⟨pv,h⟩=>aF (live pv) (fun hl=>(match y3 (i8 z own) pv with
  | some ⟨pv',hp⟩=>aF (Ia pv') (fun _=>some ⟨own.set n pv',cb.tell hz h hl hp⟩) fun _=>none
  | none=>none)) fun _=>none
 | none=>none
noncomputable def y8 (own:Own) (n:Nat):Nat:=match ow own n with
 | some ⟨.obj _ m,_⟩=>m
 | _=>n
noncomputable def Ib (z:Option AV) (hz:i9 z) (own:Own) (n:Nat):{ own':Own // cb own own' }:=match y7 z hz own (y8 own n) with
 | some ⟨o,f⟩=>(match settle o (.loc n) with
  | ⟨r,g⟩=>(match fL r.2 with
   | ⟨q,e⟩=>⟨q,e▸f.trans fun O=>(g O).1⟩))
 | none=>⟨own,cb.refl⟩
theorem y9:i9 none:=(fun _ e=>by exact aq e)
theorem Ic:i9 (some .any):=fun b e=>(Option.some.inj e).symm
noncomputable def Ie (l:List Nat) (own:Own):{ own':Own // cb own own' }:=List.rec (motive:=fun _=>(own:Own)→{ own':Own // cb own own' }) (fun own=>⟨own,cb.refl⟩) (fun n _ ih own=>(match Ib none y9 own n with
 | ⟨o,f⟩=>(match ih o with
  | ⟨q,g⟩=>⟨q,f.trans g⟩))) l own
noncomputable def heads:Own→Nat→List Nat
 | [],_=>[]
 | p::l,k=>(match p with
  | .fld _ | .froz _ | .gone | .dicT _=>heads l (k + 1)
  | _=>k::heads l (k + 1))
noncomputable def za (n:Nat) (own:Own):{ own':Own // cb own own' }:=Nat.rec (motive:=fun _=>(own:Own)→{ own':Own // cb own own' }) (fun own=>⟨own,cb.refl⟩) (fun _ ih own=>(match Ie (heads own 0) own with
 | ⟨o,f⟩=>(match ih o with
  | ⟨q,g⟩=>⟨q,f.trans g⟩))) n own
theorem aT.deep {own own':Own} {a b:AV} (f:cb own own') (h:n6 (i8 none own') a b):aT own a own' b:=fun O=>⟨f O,fun v r=>h (f O).view.g (fun n b e v hv=>y6 y9 (f O).owns (V:=vw _ ⟨own',_,_⟩) ⟨fun _ _ e=>e,fun _ _ e=>e⟩ rfl n b e v hv) v r⟩
noncomputable def Ig (own:Own) (a:AV):Option { r:AV×Own // aT own a r.2 r.1 }:=match za 3 own with
 | ⟨o,f⟩=>(match i7 (i8 none o) a with
  | some ⟨b,h⟩=>some ⟨(b,o),aT.deep f h⟩
  | none=>none)
noncomputable def Ih (own:Own) (n:Nat):{ r:AV×Own // aT own (.loc n) r.2 r.1 }:=match za 3 own with
 | ⟨o,f⟩=>(match y7 (some .any) Ic o (y8 o n) with
  | some ⟨q,g⟩=>(match settle q (.loc n) with
   | ⟨r,k⟩=>⟨r,fun O=>⟨((f.trans g) O).trans (k ((f.trans g) O).owns).1,fun v rv=>(k ((f.trans g) O).owns).2 v (rv.mono (a:=.loc n) ((f.trans g) O).view)⟩⟩)
  | none=>⟨(.loc n,own),aT.refl⟩)
noncomputable def bP:Str:=⟨#[69,110,99,111,100,101,69,114,114,111,114]⟩
noncomputable def eC:List Value:=[.ref 46,.type "Exception",.type "BaseException",.type "object"]
noncomputable abbrev gA:Obj:=excClassObj bP bP 71 70 [.ref 46] eC true [] [] false none none (some (.ref 62)) none (some (.str bP 250)) (some (.str bP 258)) (some (.bool true)) "Exception.__new__"
theorem og (P:Params):(aQ P).lookup 71 = some gA:=by kernel_rfl
noncomputable def dU:Str:=⟨#[119,104,97,116]⟩
noncomputable def gB:Str:=⟨#[97,116]⟩
theorem Ii (P:Params):findIn (aQ P) (.ref 71) "__init__" = some (some (.ref 36)):=by kernel_rfl
theorem Ij (P:Params):typeIn (aQ P) (.ref 36) = some (.type "function"):=by kernel_rfl
theorem zb (P:Params):findIn (aQ P) (.ref 71) "__setattr__" = some (some (.builtin "object.__setattr__")):=by kernel_rfl
theorem Ik (P:Params):takerIn (aQ P) 71 dU = some none:=by kernel_rfl
theorem Il (P:Params):takerIn (aQ P) 71 gB = some none:=by kernel_rfl
theorem zc (P:Params):hasDictIn (aQ P) 71 = true:=by kernel_rfl
theorem Im (P:Params):(clsIn (aQ P) 71).map (·.mro) = some (.ref 71::eC):=by kernel_rfl
theorem Io (P:Params):findCls (aQ P) (.type "Exception") (.type "type") "__init__" = some (.val (.builtin "Exception.__init__")):=by kernel_rfl
theorem rV:(Value.ref 71::eC).contains (.type "Exception") = true:=by decide
theorem Ip:(Value.ref 71::eC).contains (.type "AttributeError") = false:=by decide
theorem Iq:(Value.ref 71::eC).contains (.type "NameError") = false:=by decide
theorem Ir:(Value.ref 71::eC).contains (.type "BaseException") = true:=by decide
theorem It:(Value.ref 71::eC).contains (.ref 71) = true:=by decide
theorem Iu:(Value.ref 71::eC).contains (.type "type") = false:=by decide
open PySem.F in
theorem Iv (self:Value):refuseLoop self "__setattr__" (.ref 71::eC) = pure ():=by kernel_rfl
section
variable {M:Model} {A:Around} {E:Value→Shared→Prop} {h:Heap} {g:Array GenState} {d:Drawn} {t:Nat} {os:OsState}
theorem Iw {rest:List Value} {Q:Unit→Shared→Prop} (hC:h.get? 71 = some gA) (hq:Q () ⟨h,g,d,t,os⟩):wpAny M A (checkBuiltinCall "Exception.__new__" ⟨.ref 71::rest,[]⟩) Q E ⟨h,g,d,t,os⟩:=by
 have Fn:=PySem.F.excBase_Exception
 have hs:=Fn.noStar
 simp only [checkBuiltinCall,Fn.newKind,Fn.newSplit,Fn.newRow]
 repeat (first | refine wpAny_loadPart_at hC ?_ | (refine wpAny_isSubtype_exc hC ?_; rw [rV]) | refine wpAny_staticBase_exc hC ?_ | refine wpAny_madeBy_exc hC ?_ | simp only [bne_self_eq_false,Bool.false_eq_true,if_false] | wp_step)
 exact hq
theorem Iy {e:Addr} {oe:Obj} {rest:List Value} {Q:Unit→Shared→Prop} (hC:h.get? 71 = some gA) (he:h.get? e = some oe) (hc:oe.cls = .ref 71) (hq:Q () ⟨h,g,d,t,os⟩):wpAny M A (checkBuiltinCall "Exception.__init__" ⟨.ref e::rest,[]⟩) Q E ⟨h,g,d,t,os⟩:=by
 have Fn:=PySem.F.excBase_Exception
 have hs:=Fn.noStar
 simp only [checkBuiltinCall,Fn.initKind,Fn.initSplit,Fn.initRow]
 repeat (first | (with_reducible refine wpAny_loadPart_at he ?_; rw [hc]) | with_reducible refine wpAny_loadPart_at hC ?_ | (with_reducible refine wpAny_isSubtype_exc hC ?_; rw [rV]) | wp_step)
 refine wpAny_onRaise ?_
 rw [show ∀ (a b:String) (n:Nat),Bind.check ⟨.positional,"*","Exception",.self,[⟨"args",.varPos,false⟩]⟩ a b n (List.map (fun x=>x.fst) ({ pos:=Value.ref e::rest }:Args).kw) = pure () from fun a b n=>check_star_args _ _ _ _ _ _]
 exact wpAny_pure hq
end
section
variable {prog:Program} {w:World} {A:Around} {E:Value→Shared→Prop} {R:Result→Shared→Prop} {h:Heap} {g:Array GenState} {d:Drawn} {t:Nat} {os:OsState}
noncomputable abbrev dk (t0:Addr):Obj:={ cls:=.ref 71,data:=.fields #[.ref t0,.none,.none,.none,.bool false,.none] }
theorem Iz {rest:List Value} (hC:h.get? 71 = some gA) (hz:rest.length≤sizeLine)
  (hq:R (.ok (.ret (.ref (h.objs.size + 1)))) ⟨(h.push { cls:=.type "tuple",data:=.seq rest.toArray }).push (dk h.objs.size),g,d,t,os⟩):codeAny (model prog w) A (.builtin "Exception.__new__" ⟨.ref 71::rest,[]⟩) R ⟨h,g,d,t,os⟩:=by
 have Fn:=PySem.F.excBase_Exception
 have hends:=Fn.ends
 refine codeAny_builtinAt Fn.entry ?_
 unfold Builtin.«BaseException.__new__»
 refine PySem.wpAt_bind ?_
 show PySem.wpAt _ _ _ (stack >>= _) _ _ _
 refine PySem.wpAt_bind (PySem.wpAt_stack fun p below=>PySem.wpAt_of_wpAny ?_)
 wp_walk
 refine PySem.wpAt_of_wpAny ?_
 rw [Fn.owner]
 repeat (first | with_reducible refine wpAny_madeHere_exc Fn.canon hC ?_ | with_reducible refine wpAny_loadPart_at hC ?_ | (with_reducible refine wpAny_isSubtype_exc hC ?_; first | rw [rV] | rw [Ip] | rw [Iq]) | wp_step)
 show R _ _
 rw [Heap.size_push]
 exact hq
end
section
variable {W:ab} {A:Around} {E:Value→Shared→Prop}
theorem IA {H:Heap} {g:Array GenState} {d:Drawn} {t:Nat} {os':OsState} {v:Value} {Q:Value→Shared→Prop} (X:(aQ W.w.params).In H)
  (hI:wpAny (model pg W.w) (A.under (.builtin "type.__call__" ⟨[.ref 71,v],[]⟩)) (call (.ref 36) [.ref (H.objs.size + 1),v]) (fun r s'=>r = .none∧Q (.ref (H.objs.size + 1)) s') (fun _ _=>False) ⟨(H.push { cls:=.type "tuple",data:=.seq [v].toArray }).push (dk H.objs.size),g,d,t,os'⟩):
  wpAny (model pg W.w) A (call (.ref 71) [v]) Q E ⟨H,g,d,t,os'⟩:=by
 have hC:H.get? 71 = some gA:=X _ _ (og _)
 have Fn:=PySem.F.excBase_Exception
 have f1:=tc_lookup
 have f2:=tc_bind (.ref 71)
 have hT:(⟨H,g,d,t,os'⟩:Shared).TypeIs (.ref 71) "type":=⟨_,hC,rfl⟩
 refine wpAny_call (codeAny_of_tree ?_)
 show wpAny _ _ (callAny (.ref 71) _) _ _ _
 repeat (any_goals (first | assumption | with_reducible refine wpAny_loadPart_at hC ?_ | wp_step))
 refine ⟨rfl,?_⟩
 refine codeAny_call_builtin_at (Code.quiet_builtin _ (by decide +kernel)) entry_typeCall (wpAny_check_type_call_sub hC ?_)
 repeat (first | with_reducible refine wpAny_loadPart_at hC ?_ | with_reducible refine wpAny_madeBy_exc hC ?_ | wp_step)
 refine codeAny_call_builtin_code (Code.quiet_builtin _ Fn.quiet) (Iw hC ?_)
 refine Iz hC (by show 1≤sizeLine; rw [sizeLine_eq]; lia) ?_
 show wpAny _ _ _ _ _ _
 have hC1:((H.push { cls:=.type "tuple",data:=.seq [v].toArray }).push (dk H.objs.size)).get? 71 = some gA:=Heap.get?_push_of_some _ (Heap.get?_push_of_some _ hC)
 have X1:(aQ W.w.params).In ((H.push { cls:=.type "tuple",data:=.seq [v].toArray }).push (dk H.objs.size)):=fun a o e=>Heap.get?_push_of_some _ (Heap.get?_push_of_some _ (X a o e))
 have he:((H.push { cls:=.type "tuple",data:=.seq [v].toArray }).push (dk H.objs.size)).get? (H.objs.size + 1) = some (dk H.objs.size):=by heap_get
 unfold isInstance
 repeat (first | with_reducible refine wpAny_loadPart_at he ?_ | ((show wpAny _ _ (isSubtype (.ref 71) (.ref 71)) _ _ _); refine wpAny_isSubtype_exc hC1 ?_; rw [It]) | wp_step)
 show wpAny _ _ (typeLookup (.ref 71) _) _ _ _
 refine (looks_findIn X1 (Ii _)).here ?_
 refine wpAny_holding (wpAny_bind ?_)
 unfold bindSpecial
 refine wpAny_bind ((looks_typeIn X1 (Ij _)).here ?_)
 rw [if_pos (by decide)]
 refine wpAny_pure (wpAny_bind (wpAny_mono hI (fun r s' hr=>?_) fun _ _ x=>x.elim))
 obtain ⟨rfl,hQ⟩:=hr
 wp_walk
 exact hQ
end
end Mine
end
section
open PySem PySem.W PyProof.Rows PySem.Calls
set_option maxRecDepth 100000
namespace Mine
section
noncomputable def eh:Str:=⟨#[115,101,108,102]⟩
noncomputable def gC:Str:=⟨#[69,120,99,101,112,116,105,111,110]⟩
theorem IB (P:Params):(KH P).nsMap mainGlobals gC = none:=by kernel_rfl
theorem IC:bootBuiltins gC = some (.type "Exception"):=by kernel_rfl
open PySem.Builtin PySem.Builtin.ObjectAttr
section
variable {prog:Program} {w:World} {A:Around} {E:Value→Shared→Prop} {R:Result→Shared→Prop} {s:Shared} {x:Addr} {ox:Obj} {od:Option Obj} {name:Str} {tk:Tok} {v:Value}
theorem zd (X:(aQ w.params).In s.heap) (I:InstAt s.heap x ox 71 od) (ht:takerIn (aQ w.params) 71 name = some none)
  (h:∀ b,wpAny (model prog w) A.in1 (storeInOwnDict (.ref x) (.ref 71) (.str name tk) name v b) (fun fin s'=>match fin with | .done f=>R (.ok f) s' | .again c'=>c'.quiet = true∧codeAny (model prog w) A c' R s') (fun e s'=>R (.error e) s') s):
  codeAny (model prog w) A (.call (.builtin "object.__setattr__") ⟨[.ref x,.str name tk,v],[]⟩) R s:=by
 have SF:=PySem.F.store_object
 obtain ⟨cd,hc,ho⟩:=Option.map_eq_some_iff.mp (Im w.params)
 have sub:Looks (model prog w) s.heap (isInstance (.ref x) (.type "object")) true:=I.type.andThen (looks_mroIn X (by unfold mroIn; rw [hc,Option.bind_some,ho]; rfl))
 refine codeAny_call_builtin SF.slot.plain SF.entry (@check_slot (model prog w) _ _ s "object.__setattr__" "object" "__setattr__" (.ref x) [.str name tk,v] [] _ SF.kind SF.split sub (SF.args (.ref x) (.str name tk) v) ?_)
 obtain ⟨attr,ha,hr⟩:=Option.bind_eq_some_iff.mp ht
 have hm:Looks (model prog w) s.heap (mroOf (.ref 71)) (.ref 71::eC):=ho▸(looks_clsIn X hc).andThen .now
 have L3:Looks (model prog w) s.heap (storeTaker? attr) none:=by
  cases attr with
  | none=>exact .now
  | some a=>
   obtain ⟨b,hb,hb'⟩:=Option.map_eq_some_iff.mp hr
   refine (looks_takesIn X hb).andThen ?_
   cases b
   ·exact .now
   ·exact c5 hb'
 rw [osa_eq,refuse_eq]
 refine wpAny_bind (wpAny_bind (I.type.here (wpAny_bind (hm.here ?_))))
 rw [Iv]
 refine wpAny_pure (wpAny_bind (I.type.here (wpAny_bind ((looks_findIn X ha).here (wpAny_bind (L3.here ?_))))))
 exact h _
set_option tactic.hygienic true in
theorem ze {dx:Addr} {es:List DictEntry} {n:Nat} (D:s.heap.get? dx = some (dictOf es n)) (hl:(getL name es).isSome = true) (hz:(putL name (PyData.keyHash w.params name) (.str name s.toks) v es).length≤1000)
  (h:R (.ok (.ret .none)) { s with heap:=s.heap.update dx (Obj.putName name (PyData.keyHash w.params name) (.str name s.toks) v),toks:=s.toks + 1 }):
  wpAny (model prog w) A.in1 (storeInDict dx (.str name tk) name v) (fun fin s'=>match fin with | .done f=>R (.ok f) s' | .again c'=>c'.quiet = true∧codeAny (model prog w) A c' R s') (fun e s'=>R (.error e) s') s:=by
 refine wpAny_bind (wpAny_pure (wpAny_bind ?_))
 unfold nsSet
 refine wpAny_bind (wpAny_bind (wpAny_askSetting (wpAny_pure (wpAny_bind (wpAny_mkText (wpAny_bind (wpAny_loadPart D ?_)))))))
 dsimp only
 have c:(!es.toArray.any (·.key.isStr name) && es.toArray.any (·.refKey)) = false:=by
  rw [← Array.any_toList,← Array.any_toList]
  unfold getL at hl
  split at hl
  ·rename_i en he
   rw [List.any_eq_true.mpr ⟨en,List.mem_of_find?_eq_some he,List.find?_some he⟩]; rfl
  ·split at hl
   ·exact aR hl
   ·rename_i z; rw [Bool.not_eq_true] at z; rw [z,Bool.and_false]
 rw [aRefKeyMayBeTheName_at,c]
 refine wpAny_updatePart D ?_
 have D':(s.heap.update dx (Obj.putName name (PyData.keyHash w.params name) (.str name s.toks) v)).get? dx = some (dictOf (putL name (PyData.keyHash w.params name) (.str name s.toks) v es) (putN name es n)):=by
  rw [← putName_dict]; exact Heap.get?_update_self _ D (by rw [putName_dict]; rfl)
 refine wpAny_bind (wpAny_lookBehind D' (pastItsLine_dict (by rw [List.size_toArray,sizeLine_eq]; lia)) ?_)
 exact wpAny_pure h
theorem ID {vs:Array Value} (X:(aQ w.params).In s.heap) (he:s.heap.get? x = some ox) (hc:ox.cls = .ref 71) (hdt:ox.data = .fields vs) (hdi:ox.dict = none) (ht:takerIn (aQ w.params) 71 name = some none) {Q:Unit→Shared→Prop}
  (h:∀ h' tk t n',(∀ b o,b≠x→s.heap.get? b = some o→h'.get? b = some o)→h'.get? x = some { ox with dict:=some s.heap.objs.size }→h'.get? s.heap.objs.size = some (dictOf (putL name (PyData.keyHash w.params name) (.str name t) v []) n')→Q () { s with heap:=h',toks:=tk }):wpAny (model prog w) A (setAttr (.ref x) name v) Q E s:=by
 have I:InstAt s.heap x ox 71 none:=⟨he,hc,by unfold notCls; rw [hdt],by rw [hdi]; trivial⟩
 refine set_plain X I (zb _) (zd (s:={ s with toks:=s.toks + 1 }) X I ht fun b=>?_)
 obtain ⟨cd,hcd,hdd⟩:=any_some (zc w.params)
 obtain ⟨oc,odi,oda,osl⟩:=ox
 dsimp only at hc hdt hdi
 subst hc hdt hdi
 refine wpAny_bind (wpAny_pure (wpAny_bind (wpAny_bind (wpAny_loadPart he (wpAny_bind (Looks.here (s:={ s with toks:=s.toks + 1 }) (looks_clsIn X hcd) ?_))))))
 rw [hdd]
 refine wpAny_bind (wpAny_alloc ?_)
 have hxs:x < s.heap.objs.size:=Heap.lt_size he
 have he1:=Heap.get?_push_of_some (h:=s.heap) { cls:=.type "dict",data:=.dict #[] } he
 refine wpAny_bind (wpAny_update he1 (wpAny_pure (a:=some s.heap.objs.size) ?_))
 have hne:x≠s.heap.objs.size:=Nat.ne_of_lt hxs
 have D:((s.heap.push { cls:=.type "dict",data:=.dict #[] }).update x fun o=>{ o with dict:=some s.heap.objs.size }).get? s.heap.objs.size = some (dictOf [] 0):=(Heap.get?_update_other _ _ hne).trans (Heap.get?_push_size _ rfl)
 refine ze (A:=A) (w:=w) (v:=v) (R:=fun r s'=>match r with | .ok (.ret _)=>Q () s' | .ok _=>False | .error e=>E e s') (s:={ s with heap:=(s.heap.push { cls:=.type "dict",data:=.dict #[] }).update x fun o=>{ o with dict:=some s.heap.objs.size },toks:=s.toks + 1 }) D rfl (by show 1≤1000; decide) ?_
 refine h _ _ (s.toks + 1) (putN name [] 0) (fun b o n1 e=>?_) ?_ ?_
 ·exact (Heap.get?_update_other _ _ (Nat.ne_of_gt (Heap.lt_size e))).trans ((Heap.get?_update_other _ _ (Ne.symm n1)).trans (Heap.get?_push_of_some _ e))
 ·refine (Heap.get?_update_other _ _ (Ne.symm hne)).trans ?_
  exact Heap.get?_update_self _ he1 rfl
 ·rw [← putName_dict]; exact Heap.get?_update_self _ D (by rw [putName_dict]; rfl)
theorem IE {vs:Array Value} {dx:Addr} {es:List DictEntry} {n:Nat} (X:(aQ w.params).In s.heap) (he:s.heap.get? x = some ox) (hc:ox.cls = .ref 71) (hdt:ox.data = .fields vs) (hdi:ox.dict = some dx) (D:s.heap.get? dx = some (dictOf es n)) (hl:(getL name es).isSome = true) (hz:es.length≤900) (ht:takerIn (aQ w.params) 71 name = some none) {Q:Unit→Shared→Prop}
  (h:∀ h' tk,(∀ b,b≠dx→h'.get? b = s.heap.get? b)→(∃ o,h'.get? dx = some o)→Q () { s with heap:=h',toks:=tk }):wpAny (model prog w) A (setAttr (.ref x) name v) Q E s:=by
 have I:InstAt s.heap x ox 71 (some (dictOf es n)):=⟨he,hc,by unfold notCls; rw [hdt],by rw [hdi]; exact D⟩
 refine set_plain X I (zb _) (zd (s:={ s with toks:=s.toks + 1 }) X I ht fun b=>?_)
 obtain ⟨cd,hcd,hdd⟩:=any_some (zc w.params)
 obtain ⟨oc,odi,oda,osl⟩:=ox
 dsimp only at hc hdt hdi
 subst hc hdt hdi
 refine wpAny_bind (wpAny_pure (wpAny_bind (wpAny_bind (wpAny_loadPart he (wpAny_bind (Looks.here (s:={ s with toks:=s.toks + 1 }) (looks_clsIn X hcd) ?_))))))
 rw [hdd]
 refine wpAny_pure (a:=some dx) ?_
 refine ze (A:=A) (w:=w) (v:=v) (R:=fun r s'=>match r with | .ok (.ret _)=>Q () s' | .ok _=>False | .error e=>E e s') (s:={ s with toks:=s.toks + 1 }) D hl (Nat.le_trans nM (by lia)) ?_
 refine h _ _ (fun b n1=>Heap.get?_update_other _ _ (Ne.symm n1)) ⟨_,Heap.get?_update_self _ D (by rw [putName_dict]; rfl)⟩
end
end
end Mine
end
section
set_option backward.match.sparseCases false
open PySem PySem.W PyProof.Rows PySem.Calls
set_option maxRecDepth 100000
set_option maxHeartbeats 4000000
namespace Mine
section
theorem IF:typeOf (.type "Exception") = pure (.type "type"):=by kernel_rfl
theorem IG:Manifest.isStub "Exception" = false:=by kernel_rfl
theorem IH (P:Params):findCls (aQ P) (.type "Exception") (.type "type") fJ = some (.val (.builtin "Exception.__init__")):=by rw [G7]; exact Io P
theorem II (P:Params):keepIn (aQ P) (.ref 71) = true:=by kernel_rfl
noncomputable def ExcAt (h':Heap) (e:Addr):Prop:=∃ oe vs,h'.get? e = some oe∧oe.cls = .ref 71∧oe.data = .fields vs∧vs[1]? = some .none
noncomputable def ie:FE:=⟨36,ay 2 0,some 29,[.none],[2]⟩
theorem IJ:∃ p1 p2 p3 p4 p5 p6 q1 q2 q3 q4 r1 r2 r3 r4,ie.F.body = [.Expr (.Call (.Attribute (.Name gC p1) fJ p2) [.Name eh p3,.Name dU p4] [] p5) p6,.Assign [.Attribute (.Name eh q1) dU q2] (.Name dU q3) q4,.Assign [.Attribute (.Name eh r1) gB r2] (.Name gB r3) r4]∧(p2.endLine == p5.line) = true:=⟨_,_,_,_,_,_,_,_,_,_,_,_,_,_,rfl,rfl⟩
variable {W:ab} {A:Around} {E:Value→Shared→Prop}
theorem IK:d8 W (.ref 71):=fun g G=>by
 obtain ⟨k,hk1,hk2⟩:=looks_keep (M:=model pg W.w) (II W.w.params) G.K
 exact ⟨k,hk1.elim .inl fun q=>.inr (.inl q),hk2⟩
theorem IL {prog:Program} {w:World} {R:Result→Shared→Prop} {s:Shared} {e t0:Addr} {v:Value} (X:(aQ w.params).In s.heap) (he:s.heap.get? e = some (dk t0))
  (hQ:∀ h' t1,(∀ b o,b≠e→s.heap.get? b = some o→h'.get? b = some o)→h'.get? e = some (dk t1)→R (.ok (.ret .none)) { s with heap:=h' }):
  codeAny (model prog w) A (.call (.builtin "Exception.__init__") ⟨[.ref e,v],[]⟩) R s:=by
 have F:=PySem.F.excBase_Exception
 obtain ⟨hp,g,d,t,o'⟩:=s
 have hC:hp.get? 71 = some gA:=X _ _ (og _)
 refine codeAny_call_builtin F.init.plain F.initEntry (Iy hC he rfl ?_)
 have he1:(hp.push { cls:=.type "tuple",data:=.seq [v].toArray }).get? e = some (dk t0):=Heap.get?_push_of_some _ he
 wp_walk
 refine hQ _ hp.objs.size (fun b o n e=>?_) ?_
 ·exact (Heap.get?_update_other _ _ (Ne.symm n)).trans (Heap.get?_push_of_some _ e)
 ·exact Heap.get?_update_self _ he1 rfl
theorem IM {l:List (Addr×Obj)} {a:Addr} {o:Obj} (e:(iN l).lookup a = some o):aO l a = some o:=qh.symm.trans (mG e).2.2
theorem IP:opaqueClassAbove (.type "Exception") = pure none:=by unfold opaqueClassAbove; dsimp only; rw [IG]; rfl
theorem IQ {prog:Program} {w:World} {s:Shared} {pl:Sem Bool} {Q:Value×List Value→Shared→Prop} (X:(aQ w.params).In s.heap) (h:Q (.builtin "Exception.__init__",[]) { s with toks:=s.toks + 1 }):wpAny (model prog w) A (getMethod (.type "Exception") fJ pl) Q E s:=by
 have L0:Looks (model prog w) s.heap (typeOf (.type "Exception")) (.type "type"):=Looks.of_pure IF
 unfold getMethod specialOf
 refine wpAny_bind (wpAny_bind (L0.here ((looks_findIn X (by kernel_rfl:findIn (aQ w.params) (.type "type") "__getattribute__" = some (some (.builtin "type.__getattribute__")))).here ?_)))
 dsimp only
 rw [if_pos canon_tga]
 refine wpAny_bind (wpAny_mono (Q:=fun v=>Q (v,[])) (E:=E) ?_ (fun _ _ z=>wpAny_pure z) fun _ _ z=>z)
 exact cls_open X (Looks.of_pure IP) L0 (by kernel_rfl) (looks_hook X (r:=none) (by rfl)) (by show subIn _ _ _ = _; rfl) (IH _) (wpAny_pure (by show wpAny _ _ (handedOut _) _ _ _; rw [handedOut_of rfl]; exact wpAny_pure h))
theorem IS {env:Env} {m:Str→Option Value} {s:Shared} {e t0:Addr} {v:Value} {Q:Flow→Shared→Prop} (K:eU env) (hh:A.handled = none) (sc:env.scope = ie.F.scope) (G:GG W s.heap) (hns:s.heap.Ns env.locals m) (m1:m eh = some (.ref e)) (m2:m dU = some v) (m3:m gB = some .none)
  (he:s.heap.get? e = some (dk t0)) (e0:W.h0.get? e = none) (hQ:∀ h' tk,(∀ b o,b≠e→s.heap.get? b = some o→h'.get? b = some o)→ExcAt h' e→Q .next { s with heap:=h',toks:=tk }):aw W A (execs ie.F.body env) Q E s:=by
 refine af fun nG=>?_
 obtain ⟨p1,p2,p3,p4,p5,p6,q1,q2,q3,q4,r1,r2,r3,r4,hb,hpos⟩:=IJ
 refine nG ?_
 rw [hb]
 have k1:env.kindOf eh = some .local:=by show env.scope.names.lookup _ = _; rw [sc]; decide +kernel
 have k2:env.kindOf dU = some .local:=by show env.scope.names.lookup _ = _; rw [sc]; decide +kernel
 have k3:env.kindOf gB = some .local:=by show env.scope.names.lookup _ = _; rw [sc]; decide +kernel
 have k4:env.kindOf gC = some .globalImplicit:=by show env.scope.names.lookup _ = _; rw [sc]; decide +kernel
 have dbg:∀ {x k},env.kindOf x = some k→(x == ("__debug__":Str)) = false:=fun {x k} q=>(K.names x (by rw [show env.scope.names.lookup x = some k from q]; exact fun z=>(by cases z))).1
 have XK:∀ {h1:Heap},(∀ b o,b≠e→s.heap.get? b = some o→h1.get? b = some o)→(aQ W.w.params).In h1:=fun k a o q=>k a o (fun z=>by rw [z] at q; rw [W.B.fact _ _ (IM q)] at e0; cases e0) (G.K a o q)
 have eL:env.locals≠e:=fun z=>by obtain ⟨o,_,_,q,q',_⟩:=hns; rw [z,he] at q; cases q; cases q'
 have NS:∀ {h1:Heap},(∀ b o,b≠e→s.heap.get? b = some o→h1.get? b = some o)→h1.Ns env.locals m:=fun k=>let ⟨o,es,ep,q,r⟩:=hns; ⟨o,es,ep,k _ _ eL q,r⟩
 have nm:∀ {s1:Shared} {x:Str} {u:Value} {pos:Pos} {Q:Value→Shared→Prop},env.kindOf x = some .local→s1.heap.Ns env.locals m→m x = some u→Q u s1→aw W A (eval (.Name x pos) env) Q E s1:=fun k n q z=>wpAny_Name (wpAny_loadName_local K.kind k n q z) (dbg k)
 refine wpAny_execs_cons ?_
 refine wpAny_Expr_any ?_ ((by unfold interactive; rw [K.kind]; rfl)) rfl
 have ha:∀ x∈[Expr.Name eh p3,Expr.Name dU p4],dh x:=fun x m=>by
  rcases List.mem_cons.mp m with rfl | m
  ·exact fun _ _=>rfl
  ·rw [List.mem_singleton.mp m]; exact fun _ _=>rfl
 rw [arm_eval_Call]
 refine wpAny_bind (Name_function_global K.kind k4 ?_ (dbg k4))
 refine af fun nG=>?_
 obtain ⟨mb,hbt,hx⟩:=G.b
 refine nG ?_
 refine loadGlobal_builtin (by rw [K.globals]; exact G.g) (IB _) (by rw [K.builtins]; exact hbt) ((hx gC (by decide +kernel)).trans IC) (wpAny_bind (wpAny_standAt ?_))
 have hform:methodCallForm ([Expr.Name eh p3,Expr.Name dU p4].length + 0) (backTo p5 (starEach [Expr.Name eh p3,Expr.Name dU p4] env)) [] = true:=by
  unfold methodCallForm
  rw [(qx ha env).2 p5]; rfl
 show wpAny _ _ (methodCall (.Name gC p1) fJ p2 p5 env (.type "Exception") ([Expr.Name eh p3,Expr.Name dU p4].length + 0) (backTo p5 (starEach [Expr.Name eh p3,Expr.Name dU p4] env)) []) _ _ _
 unfold methodCall
 rw [hform]
 refine wpAny_bind (wpAny_holding ?_)
 show wpAny _ _ (getMethod (.type "Exception") fJ _) _ _ _
 refine IQ G.K ?_
 have hp':methodCallPos true (.Name gC p1) env p2 p5 = pure p5:=by
  unfold methodCallPos
  rw [hpos]; rfl
 show wpAny _ _ (methodCallPos true (.Name gC p1) env p2 p5 >>= _) _ _ _
 rw [hp']
 refine wpAny_bind (wpAny_pure ?_)
 refine gZ (first:=[]) ha (fD _) ?_
 show wpAny _ _ (do
   let v ← eval (.Name eh p3) env
   let here ← (pure [v]:Sem (List Value))
   return here ++ (← holding here (do
    let v ← eval (.Name dU p4) env
    let here ← (pure [v]:Sem (List Value))
    return here ++ (← holding here (spliced []))))) _ _ _
 refine wpAny_bind (nm k1 hns m1 (wpAny_bind (wpAny_pure (wpAny_bind (wpAny_holding (wpAny_bind (nm k2 hns m2 (wpAny_bind (wpAny_pure (wpAny_bind (wpAny_holding ?_)))))))))))
 refine wpAny_pure (wpAny_pure (wpAny_pure ⟨G,?_⟩))
 refine wpAny_call (IL G.K he fun h1 t1 kp1 he1=>?_)
 refine wpAny_execs_cons (plainObj_wpAny_Assign_Attribute ?_ ((cS _).swap rfl _ _ _))
 refine nm k2 (NS kp1) m2 (nm k1 (NS kp1) m1 ?_)
 refine ID (s:={ s with heap:=h1,toks:=_ }) (XK kp1) he1 rfl rfl rfl (Ik _) fun h2 tk2 t2 n2 kp2 he2 hd2=>?_
 have kp2':∀ b o,b≠e→s.heap.get? b = some o→h2.get? b = some o:=fun b o n q=>kp2 b o n (kp1 b o n q)
 refine wpAny_execs_cons (plainObj_wpAny_Assign_Attribute ?_ ((cS _).swap rfl _ _ _))
 refine nm k3 (NS kp2') m3 (nm k1 (NS kp2') m1 ?_)
 refine IE (s:={ s with heap:=h2,toks:=tk2 }) (XK kp2') he2 rfl rfl rfl hd2 (by kernel_rfl) (Nat.le_trans nM (by show 1≤900; decide)) (Il _) fun h3 tk3 kp3 hd3=>?_
 have nd:∀ b o,s.heap.get? b = some o→b≠h1.objs.size:=fun b o q z=>by
  by_cases y:b = e
  ·have:=Heap.lt_size he1; rw [← y,z] at this; exact Nat.lt_irrefl _ this
  ·have:=Heap.lt_size (kp1 b o y q); rw [z] at this; exact Nat.lt_irrefl _ this
 refine wpAny_execs_nil (hQ h3 tk3 (fun b o n q=>(kp3 b (nd b o q)).trans (kp2' b o n q)) ⟨_,_,(kp3 e (nd e _ he)).trans he2,rfl,rfl,rfl⟩)
theorem IT:d7 ie.F.scope = false:=by kernel_rfl
theorem IU {d:Nat} (a:dc (d + 1) A) {s:Shared} {e t0:Addr} {v:Value} {Q:Value→Shared→Prop} (G:GG W s.heap) (he:s.heap.get? e = some (dk t0)) (e0:W.h0.get? e = none)
  (hQ:∀ h' tk,au (· = e) s.heap h'→ExcAt h' e→Q .none (mv s h' tk)):aw W A (call (.ref 36) [.ref e,v]) Q E s:=by
 refine wpAny_call (kg (own:=[]) (ad:=[]) (U:=fun _=>False) (as:=[.con (.ref e),.con v]) (hO (e:=ie) (.head _)) a (fun q=>by rw [IT] at q; cases q) rfl ⟨G,(fun _ e=>by cases e)⟩ .none (.mk rfl (.mk rfl rfl)) fun c hp tk en S=>?_)
 refine af fun nG=>?_
 have K0:ag s.heap hp:=(ag.of fun b o q=>by rw [en.h]; exact a0.mpr ⟨q,cK⟩).trans S.keep
 have kd:∀ {x:Str} {u:Value},ie.F.scope.names.lookup x = some .local→lk x (ie.F.fill [.con (.ref e),.con v]) = some (.con u)→∃ m,hp.Ns c.env.locals m∧m x = some u:=fun {x u} k l=>by
  have kx:c.env.kindOf x = some .local:=by show c.env.scope.names.lookup x = _; rw [c.es]; exact k
  cases S.loc x _ l with
  | loc _ n e r=>exact ⟨_,n,(show _ = u from r)▸e⟩
  | cel k'=>rcases k' with k' | k'<;>(rw [kx] at k'; cases k')
 obtain ⟨m,n1,m1⟩:=kd (x:=eh) (u:=.ref e) (by decide +kernel) (by rfl)
 obtain ⟨m',n2,m2⟩:=kd (x:=dU) (u:=v) (by decide +kernel) (by rfl)
 refine nG ?_
 have m3:m gB = some .none:=by
  cases S.loc gB .none (by rfl) with
  | loc _ n e r=>rw [n1.eq_nsMap,← n.eq_nsMap,e]; exact congrArg _ r
  | cel k'=>rcases k' with k' | k'<;>(rw [show c.env.kindOf gB = some .local by show c.env.scope.names.lookup _ = _; rw [c.es]; decide +kernel] at k'; cases k')
 have q2:m' = m:=by rw [n2.eq_nsMap,n1.eq_nsMap]
 subst q2
 refine IS (s:=mv s hp tk) c.K c.a.handled c.es (G.trans K0) n1 m1 m2 m3 (K0.get he rfl) e0 fun h' tk' k x=>hQ h' tk' ?_ x
 exact au.comp K0.x (.eR (X:=(· = e)) (fun u o hu q=>by rw [hu,K0.get he rfl] at q; cases q; rfl) k) fun u hu=>.inl hu
theorem IV {d:Nat} (a:dc (d + 3) A) {s:Shared} {v:Value} {Q:Value→Shared→Prop} (G:GG W s.heap)
  (hQ:∀ e h' tk,ag s.heap h'→s.heap.get? e = none→ExcAt h' e→Q (.ref e) (mv s h' tk)):aw W A (call (.ref 71) [v]) Q E s:=by
 obtain ⟨H,g,dr,t,os'⟩:=s
 have n1:H.get? (H.objs.size + 1) = none:=eY (Nat.le_succ _)
 have kp:ag H ((H.push { cls:=.type "tuple",data:=.seq [v].toArray }).push (dk H.objs.size)):=(ag.push _ _).trans (ag.push _ _)
 have he:((H.push { cls:=.type "tuple",data:=.seq [v].toArray }).push (dk H.objs.size)).get? (H.objs.size + 1) = some (dk H.objs.size):=by heap_get
 refine IA G.K (IU (A:=A.under (.builtin "type.__call__" ⟨[.ref 71,v],[]⟩)) (d:=d) ⟨a.handled,?_,?_⟩ (s:=⟨(H.push { cls:=.type "tuple",data:=.seq [v].toArray }).push (dk H.objs.size),g,dr,t,os'⟩) (G.trans kp) he (G.gone n1) fun h' tk kx x=>⟨rfl,hQ _ h' tk (kp.dD kx fun u hu=>hu▸n1) n1 x⟩)
 ·have:=a.depth
  have w:Code.weight (.builtin "type.__call__" ⟨[.ref 71,v],[]⟩) = 1:=rfl
  show A.depth + _ + (d + 1)≤900
  lia
 ·have:=a.units
  have w:Code.cUnits (.builtin "type.__call__" ⟨[.ref 71,v],[]⟩) = 1:=rfl
  show A.units + _ + 3 * (d + 1)≤9000
  lia
end
noncomputable def eE (A:Around) (FR:List Addr) (h:Heap):Prop:=∃ outer,A.frames = some outer∧cH outer FR h
theorem eE.keep {A:Around} {FR:List Addr} {h h':Heap} (f:eE A FR h) (k:ag h h'):eE A FR h':=let ⟨o,a,b⟩:=f; ⟨o,a,b.kf (k.kf FR)⟩
theorem ee.at {A:Around} {env:Env} {FR:List Addr} {h₀ h:Heap} (f:ee A env FR h₀) (k:ag h₀ h) (o:di h env.locals):eE A (env.locals::FR) h:=let ⟨outer,a,b⟩:=f.m6 (k.kf FR) o; ⟨env::outer,a,b⟩
theorem IW {h:Heap} {L:Addr} {m:Str→Option Value} (n:h.Ns L m):di h L:=let ⟨o,_,_,e,d,_⟩:=n; ⟨o,e,fun vs q=>by rw [d] at q; cases q⟩
theorem KF.ei {FR:List Addr} {h h':Heap} {L:Addr} (k:KF FR h h') (m:L∈FR) (o:di h L):di h' L:=let ⟨ob,e1,e2⟩:=o; let ⟨o',e3,e4⟩:=k.fd _ m ob e1 e2; ⟨o',e3,fun vs q=>e2 vs (e4▸q)⟩
theorem b9.imp {h₀:Heap} {c e:Addr} {P P':Option Value→Prop} {h:Heap} (x:b9 h₀ c e P h) (f:∀ m,P m→P' m):b9 h₀ c e P' h:=by
 refine af fun nG=>?_
 obtain ⟨n,oe,vs,h1,h2,h3,q⟩:=x
 refine nG ?_
 refine ⟨n,oe,vs,h1,h2,h3,q.imp (fun z=>⟨z.1,f _ z.2⟩) ?_⟩
 rintro ⟨T,oT,ts,mk,a1,a2,a3,a4,a5,a6,a7,a8⟩
 exact ⟨T,oT,ts,mk,a1,a2,a3,a4,a5,a6,a7,f _ a8⟩
theorem IX {W:ab} {A:Around} {E:Value→Shared→Prop} {s:Shared} {env:Env} {x:Sem Value} {Q:Flow→Shared→Prop} (hh:A.handled = none)
  (hx:aw W A x (fun v s₁=>∃ e,v = .ref e∧(aQ W.w.params).In s₁.heap∧ExcAt s₁.heap e∧E (.ref e) s₁) E s):aw W A (raiseStmt env (some x) none) Q E s:=by
 unfold raiseStmt
 refine wpAny_bind (wpAny_mono hx (fun v s₁ h₁=>?_) fun _ _ x=>x)
 refine af fun nG=>?_
 obtain ⟨e,rfl,X,⟨oe,vs,he,hc,hd,hv⟩,hE⟩:=h₁
 obtain ⟨hp,g,d,tk,os⟩:=s₁
 have hC:hp.get? 71 = some gA:=X _ _ (og _)
 obtain ⟨oc,odi,oda,osl⟩:=oe
 refine nG ?_
 dsimp only at hc hd
 subst hc hd
 repeat (first | with_reducible refine wpAny_loadPart_at he ?_ | with_reducible refine wpAny_loadPart_at hC ?_ | ((show wpAny _ _ (isSubtype (.ref 71) (.type "BaseException")) _ _ _); refine wpAny_isSubtype_exc hC ?_; rw [Ir]) | ((show wpAny _ _ (isSubtype (.ref 71) (.type "type")) _ _ _); refine wpAny_isSubtype_exc hC ?_; rw [Iu]) | wp_step)
 rw [hv]
 refine wpAny_pure ?_
 rw [if_neg (by decide)]
 exact wpAny_pure (wpAny_raiseNew_none hh hE)
theorem zf (P:Params):(KH P).nsMap mainGlobals bP = some (.ref 71):=by kernel_rfl
structure e6 (W:ab) (d:Nat) (f:Value) (as:List AV) (c:Addr):Prop where
 keep:d8 W f
 run:∀ A,dc d A→∀ U s vs FR (Q:Value→Shared→Prop) (E:Value→Shared→Prop),Base W U s.heap→ah W ⟨aD U s.heap,[]⟩ vs as→eE A FR s.heap→(∀ e h' tk,KF FR s.heap h'→b9 s.heap c e m4 h'→E (.ref e) (mv s h' tk))→aw W A (call f vs) Q E s
section
variable {W:ab} {d:Nat} {sc:Fs} {c:ai W d sc} {σ σ':ao} {own own1:Own} {pos:Pos}
theorem e6.up {d':Nat} {f:Value} {as:List AV} {x:Addr} (t:e6 W d f as x) (h:d≤d'):e6 W d' f as x:=⟨t.keep,fun A a=>t.run A (a.up h)⟩
theorem SV.nL {p:Pt} (S:SV c σ p):c.h₀.get? c.env.locals = none:=(S.low _ c.base).1
theorem SV.ei {p:Pt} (S:SV c σ p):di p.h c.env.locals:=let ⟨_,n⟩:=S.ns; IW n
noncomputable abbrev SV.hh (p:Pt):Heap:=aP (ak p.own p.ad) p.h
theorem SV.oh {p:Pt} (S:SV c σ p):ag c.h₀ (SV.hh p):=S.keep.fB fun u z=>⟨S.new u z,S.owns.low z⟩
theorem SV.rW {p:Pt} (S:SV c σ p):di (SV.hh p) c.env.locals:=let ⟨o,e,n⟩:=S.ei; ⟨o,a0.mpr ⟨e,fun z=>S.owns.nU z (.inr c.base)⟩,n⟩
theorem SV.raised {p:Pt} (S:SV c σ p) {FR:List Addr} {h':Heap} (k:KF (c.env.locals::FR) (SV.hh p) h'):KF FR c.h₀ h':=(S.oh.kf FR).drop k.kx (fun L m=>k.fd L (.tail _ m)) fun u hu=>(List.mem_cons.mp hu).elim (fun q=>.inr (q▸S.nL)) .inl
theorem zg {f:Str} {fp cp:Pos} {es:List Expr} {fv:Value} {as:List AV} {x:Addr} {FR:List Addr} {s:Shared} {ad:List Addr} {Q:Value→Shared→Prop} {E:Value→Shared→Prop} (hf:aj c σ own (eval (.Name f fp) c.env) (.con fv) own) (ha:∀ x∈es,dh x) (hl:bT c σ own (spliced (backTo cp (starEach es c.env))) as own1) (na:ba as = true) (T:e6 W d fv as x)
  (S:SV c σ ⟨own,ad,s.heap⟩) (fr:ee c.A c.env FR c.h₀) (g:∀ e h' tk,KF (c.env.locals::FR) (SV.hh ⟨own,ad,s.heap⟩) h'→b9 (SV.hh ⟨own,ad,s.heap⟩) x e m4 h'→E (.ref e) (mv s h' tk)):aw W c.A (eval (.Call (.Name f fp) es [] cp) c.env) Q E s:=by
 show wpAny _ _ ((eval (.Name f fp) c.env) >>= fun fv=>callWith cp fv [] (backTo cp (starEach es c.env)) []) _ _ _
 refine wpAny_bind (hf s ad _ _ S fun v g1 t1 a1 k1 r1=>?_)
 obtain rfl:v = fv:=r1
 refine gZ (first:=[]) ha T.keep (hl _ a1 _ _ (S.after k1) fun ws g2 t2 a2 k2 r2=>?_)
 have k:=k1.trans k2
 have S2:=S.after k
 rw [List.nil_append]
 exact ⟨S2.Gp,T.run c.A c.a (fun u=>c.U u∨ak own1 a2 u) (mv s g2 t2) ws (c.env.locals::FR) _ _ S2.B (eZ (fun _ _ z=>z) na r2) (fr.at S2.keep S2.ei) fun e h' tk kf x=>g e h' tk ((k.keep.kf _).trans kf) (x.mono k.keep)⟩
theorem az.rY {y f:Str} {py fp cp:Pos} {es:List Expr} {fv:Value} {as:List AV} {x:Addr} (hf:aj c σ own (eval (.Name f fp) c.env) (.con fv) own) (ha:∀ x∈es,dh x) (hl:bT c σ own (spliced (backTo cp (starEach es c.env))) as own1) (na:ba as = true) (T:e6 W d fv as x):az c σ own (exec (.Assign [.Name y py] (.Call (.Name f fp) es [] cp) pos) c.env) (.exc x):=fun s ad Q E S ⟨FR,fr,g⟩=>
 wpAny_Assign_Name (zg hf ha hl na T S fr fun e h' tk k q=>g e h' tk (S.raised k) S.nL (k.ei (.head _) S.rW) ((q.mono S.oh).imp fun m z=>.inr (.inl z))) rfl
theorem az.IY {np kp cp:Pos} {k:Const} {cl:Nat} {a:AV} (hd:3≤d) (hk:lk bP sc.sc.names = some .globalImplicit) (he:aj c σ own (eval (.Constant k cl kp) c.env) a own):az c σ own (exec (.Raise (some (.Call (.Name bP np) [.Constant k cl kp] [] cp)) none pos) c.env) (.exc 71):=fun s ad Q E S ⟨FR,fr,g⟩=>by
 rw [arm_exec_Raise]
 refine wpAny_bind (wpAny_standAt (IX c.a.handled ?_))
 refine wpAny_bind ?_
 show wpAny _ _ ((eval (.Name bP np) c.env) >>= fun fv=>callWith cp fv [] (backTo cp (starEach [.Constant k cl kp] c.env)) []) _ _ _
 refine wpAny_bind ((aj.name hk (.inl ⟨rfl,.ref 71,.inl (zf _),fun V=>rfl⟩):aj c σ own (eval (.Name bP np) c.env) (.con (.ref 71)) own) s ad _ _ S fun v g1 t1 a1 k1 r1=>?_)
 obtain rfl:v = .ref 71:=r1
 have hst:dh (.Constant k cl kp):=fun _ _=>rfl
 refine gZ (first:=[]) (fun x m=>by rw [List.mem_singleton.mp m]; exact hst) IK ((bT.cons hst he .nil:bT c σ own (spliced (backTo cp (starEach [.Constant k cl kp] c.env))) [a] own) (mv s g1 t1) a1 _ _ (S.after k1) fun ws g2 t2 a2 k2 r2=>?_)
 have S2:=S.after (k1.trans k2)
 obtain ⟨rv,rn⟩:=r2
 obtain rfl:=rn
 refine ⟨S2.Gp,IV (d:=d - 3) (by rw [Nat.sub_add_cancel hd]; exact c.a) (s:=mv s g2 t2) S2.Gp fun e h' tk kk n x=>wpAny_bind (wpAny_standAt (wpAny_pure ⟨e,rfl,GG.K (S2.Gp.trans kk),x,?_⟩))⟩
 obtain ⟨oe,vs,b1,b2,b3,b4⟩:=x
 have k3:=S2.keep.trans kk
 exact g e h' tk (k3.kf FR) S2.nL (((kk.kf [c.env.locals]).ei (.head _) S2.ei)) ⟨S2.keep.gone n,oe,vs,b1,b2,b3,.inl ⟨b4,.inl rfl⟩⟩
end
section
variable {FR:List Addr} {h h':Heap} {X:AS}
theorem KF.data (k:KF FR h h') {b:Addr} {o:Obj} (e:h.get? b = some o) (n:∀ vs,o.data≠.fields vs):∃ o',h'.get? b = some o'∧o'.data = o.data:=by
 by_cases q:b∈FR
 ·exact k.fd b q o e n
 ·exact ⟨o,k.kx.b0 q e (.inr (dY n)),rfl⟩
theorem KF.ns (k:KF FR h h') {a:Addr} {m:Str→Option Value} (n:h.Ns a m):h'.Ns a m:=by
 refine af fun nG=>?_
 obtain ⟨o,es,ep,ho,hd,r⟩:=n
 obtain ⟨o',e',d'⟩:=k.data ho (fun vs q=>by rw [hd] at q; cases q)
 refine nG ?_
 exact ⟨o',es,ep,e',d'.trans hd,r⟩
theorem KF.cell (k:KF FR h h') {c:Addr} {v:Option Value} (x:h.IsCell c v):h'.IsCell c v:=let ⟨o,a,b⟩:=x; let ⟨o',e,d⟩:=k.data a (fun vs q=>by rw [b] at q; cases q); ⟨o',e,d.trans b⟩
theorem KF.low (k:KF FR h h') (f:∀ L∈FR,di h L) {u:Addr} (l:bz h u):bz h' u:=by
 obtain ⟨o,e,t⟩:=l
 by_cases q:u∈FR
 ·obtain ⟨o1,e1,n⟩:=f u q
  rw [e] at e1; cases e1
  obtain ⟨o',e',d⟩:=k.fd u q o e n
  exact ⟨o',e',dY fun vs z=>n vs (d▸z)⟩
 ·exact ⟨o,k.kx.b0 q e (.inr t),t⟩
theorem KF.ex (k:KF FR h h') (f:∀ L∈FR,di h L) {b:Addr} {o:Obj} (e:h.get? b = some o):∃ o',h'.get? b = some o':=by
 by_cases q:b∈FR
 ·obtain ⟨o1,e1,n⟩:=f b q
  rw [e] at e1; cases e1
  obtain ⟨o',e',_⟩:=k.fd b q o e n
  exact ⟨o',e'⟩
 ·exact k.kx.ex q e
theorem KF.IZ {L:Addr} (k:KF (L::FR) h h'):KF FR (aP (· = L) h) h':=
 have nL:∀ {b o},(aP (· = L) h).get? b = some o→h.get? b = some o∧b≠L:=fun e=>a0.mp e
 ⟨⟨fun b o nb e=>k.kx.same b o (fun q=>(List.mem_cons.mp q).elim (nL e).2 nb) (nL e).1,fun P q m t=>k.kx.tab P q m (ag.dO.tab P q m t)⟩,fun u m o e n=>k.fd u (.tail _ m) o (nL e).1 n⟩
theorem KF.I0 {h1:Heap} (k:KF FR h h1) (l:ag (aP X h1) h') (lo:∀ u,X u→h.get? u = none∧bz h1 u) (f:∀ L∈FR,∃ o,h.get? L = some o):KF FR h h':=by
 have nX:∀ {b o},h.get? b = some o→¬X b:=fun e z=>by rw [(lo _ z).1] at e; exact aq e
 refine ⟨⟨fun b o nb e=>?_,fun P q m t=>?_⟩,fun L m o e n=>?_⟩
 ·obtain ⟨o1,e1,s1⟩:=k.kx.same b o nb e
  obtain ⟨o2,e2,s2⟩:=l.same b o1 id (a0.mpr ⟨e1,nX e⟩)
  exact ⟨o2,e2,s1.trans s2⟩
 ·exact l.tab P q m ((au.eR (X:=X) (fun u o q e=>(lo u q).2.tab e) (fun b o n e=>a0.mpr ⟨e,n⟩):au X h1 (aP X h1)).tab P q m (k.kx.tab P q m t))
 ·obtain ⟨o1,e1,d1⟩:=k.fd L m o e n
  exact ⟨o1,l.gg (a0.mpr ⟨e1,nX e⟩) (dY fun vs z=>n vs (d1▸z)),d1⟩
end
theorem I1 {W:ab} {A:Around} {env:Env} {FR:List Addr} {h₀:Heap} {c e:Addr} {s:Shared} {E E':Value→Shared→Prop} (fp:ee A env FR h₀) (k:KF FR h₀ s.heap) (hL:h₀.get? env.locals = none) (o:di s.heap env.locals) (x:b9 h₀ c e (mZ env.locals) s.heap)
  (T:∀ h',KF FR h₀ h'→b9 h₀ c e m4 h'→E (.ref e) (mv s h' s.toks)):aw W A («leaving» env (.ref e)) (fun _ s''=>E (.ref e) s'') E' s:=by
 refine af fun nG=>?_
 obtain ⟨outer,a,fl⟩:=fp.m6 k o
 refine nG ?_
 exact F8 a fl fp.fr k hL x T
section
variable {W:ab} {d:Nat} {sc:Fs} {c:ai W d sc} {σ σ':ao} {own own1:Own} {pos:Pos}
theorem eE.enter {A:Around} {own:Own} {ad:List Addr} {s:Shared} {U:AS} (en:xZ c A U own ad s) {FR:List Addr} (f:eE A FR (aP (ak own ad) s.heap)):ee c.A c.env FR c.h₀:=by
 obtain ⟨o,a,b⟩:=f
 exact ⟨en.fr,(by rw [c.K.kind]; exact fun z=>(by cases z)),o,by rw [en.A]; exact Around.frames_deeper a,en.h▸b⟩
theorem ja {h:Heap}:ag h (aP (ak [] []) h):=ag.of fun b o e=>a0.mpr ⟨e,cK⟩
theorem I2 {f x:Addr} {fd:FuncData} {F:Fn} {ks:List Nat} (X:gk W f fd F ks) {as:List AV} (ht:d7 F.scope = false) (hk:ks.any (Nat.beq as.length) = true) (na:ba as = true) (h:∀ c:ai W d ⟨F.scope,true⟩,az c (F.fill as) [] (execs F.body c.env) (.exc x)):e6 W (d + 1) (.ref f) as x:=⟨X.keep,fun A a U s vs FR Q E B rl fx g=>
 wpAny_call (kg (own:=[]) (ad:=[]) X a (fun q=>by rw [ht] at q; exact aR q) hk B .none (eZ (dZ fun u q=>q.elim id fun q=>(cK q).elim) na rl) fun c hp tk en S=>
  have k0:ag s.heap c.h₀:=en.h▸ja
  have fp:=eE.enter en (fx.keep ja)
  h c (mv s hp tk) [] _ _ S ⟨FR,fp,fun e h' tk' k n o q=>I1 (s:=mv s h' tk') fp k n o q fun h4 k4 x4=>g e h4 tk' ((k0.kf FR).trans k4) (x4.mono k0)⟩)⟩
structure TellsF (W:ab) (d:Nat) (f:Value) (as:List AV) (r:AV):Prop where
 keep:d8 W f
 run:∀ A,dc d A→∀ U s vs FR (Q:Value→Shared→Prop) (E:Value→Shared→Prop),Base W U s.heap→ah W ⟨aD U s.heap,[]⟩ vs as→eE A FR s.heap→(∀ u∈FR,U u∧W.h0.get? u = none)→(∀ v h' tk,KF FR s.heap h'→Rel W ⟨aD U h',[]⟩ v r→Q v (mv s h' tk))→aw W A (call f vs) Q E s
theorem Tells.F {f:Value} {as:List AV} {r:AV} {own':Own} (T:Tells W d f [] as r own') (na:ba as = true) (nr:nl r = true):TellsF W d f as r:=⟨T.1,fun A a U s vs FR Q E B rl fx nf g=>
 T.2 A a U [] s vs Q E B .none (eZ (dZ fun u q=>q.elim id fun q=>(cK q).elim) na rl) fun v h' tk ad' k rv=>g v h' tk ((ja.trans k.keep).kf FR) (dQ (dZ fun u q=>.inl q) nr rv)⟩
noncomputable def SF (c:ai W d sc) (σ:ao) (own:Own) (t:Sem Flow) (r:AV):Prop:=∀ (s:Shared) ad (Q:Flow→Shared→Prop) (E:Value→Shared→Prop),SV c σ ⟨own,ad,s.heap⟩→(∃ FR,ee c.A c.env FR c.h₀∧(∀ u∈FR,c.X u∧W.h0.get? u = none)∧∀ v h' tk,KF FR c.h₀ h'→Rel W ⟨aD c.X h',[]⟩ v r→Q (.ret v) (mv s h' tk))→aw W c.A t Q E s
theorem SF.seq {st:Stmt} {l:List Stmt} {r:AV} (h:az c σ own (exec st c.env) (.next σ' own1)) (k:SF c σ' own1 (execs l c.env) r):SF c σ own (execs (st::l) c.env) r:=fun s ad Q E S ⟨FR,a,b,g⟩=>
 wpAny_execs_cons (h s ad _ E S fun h' tk ad1 S1=>k _ ad1 Q E S1 ⟨FR,a,b,g⟩)
theorem I3 {f:Addr} {fd:FuncData} {F:Fn} {ks:List Nat} (X:gk W f fd F ks) {as:List AV} {r:AV} (ht:d7 F.scope = false) (hk:ks.any (Nat.beq as.length) = true) (na:ba as = true) (h:∀ c:ai W d ⟨F.scope,true⟩,SF c (F.fill as) [] (execs F.body c.env) r):TellsF W (d + 1) (.ref f) as r:=⟨X.keep,fun A a U s vs FR Q E B rl fx nf g=>
 wpAny_call (kg (own:=[]) (ad:=[]) X a (fun q=>by rw [ht] at q; exact aR q) hk B .none (eZ (dZ fun u q=>q.elim id fun q=>(cK q).elim) na rl) fun c hp tk en S=>
  have k0:ag s.heap c.h₀:=en.h▸ja
  h c (mv s hp tk) [] _ _ S ⟨FR,eE.enter en (fx.keep ja),fun u m=>⟨by rw [en.X]; exact (nf u m).1,(nf u m).2⟩,fun v h' tk' k rv=>g v h' tk' ((k0.kf FR).trans k) (by rw [en.X] at rv; exact rv)⟩)⟩
theorem I4:eC.contains (.type "BaseException") = true:=by decide
theorem I5 {A:Around} {s:Shared} {env:Env} {E:Value→Shared→Prop} {e:Addr} {oe:Obj} {b₀:Stmt} {suite:List Stmt} {pos np:Pos} {rest:List ExceptHandler} {Q:Flow→Shared→Prop} (K:eU env) (hk:env.kindOf bP = some .globalImplicit) (G:GG W s.heap) (he:s.heap.get? e = some oe) (hc:oe.cls = .ref 71)
  (hQ:∀ E',aw W (A.mark (some (.ref e))) (setFlight (.ref e) none) (fun _ s₂=>aw W (A.mark (some (.ref e))) (execs (b₀::suite) env) Q E' s₂) E' s):aw W A (handleBy (.ref e) env (.ExceptHandler (some (.Name bP np)) none (b₀::suite) pos::rest)) Q E s:=by
 have dbg:=(K.names bP (by rw [show env.scope.names.lookup bP = some .globalImplicit from hk]; exact fun z=>(by exact c5 z))).1
 refine wpAny_handleBy_cons (codeAny_handlers_test ?_) (by intro q; cases q)
 refine Name_function_global K.kind hk (loadGlobal_global (by rw [K.globals]; exact G.g) (zf _) ?_) dbg
 obtain ⟨hp,g,d,tk,os'⟩:=s
 exact wpAny_excMatches_sub_self (GG.K G _ _ (og _)) he hc I4 (codeAny_handlers_suite (hQ _))
theorem kH {own:Own} {ad:List Addr} {u:Addr}:¬ak (own.map fun _=>PV.gone) ad u:=fun ⟨n,pv,z⟩=>by
 have e:=z.own
 rw [List.getElem?_map] at e
 obtain ⟨_,_,q⟩:=Option.map_eq_some_iff.mp e
 have:=z.live
 rw [← q] at this; exact aR this
theorem I6 {W:ab} {U:AS} {own:Own} {ad:List Addr} {h:Heap} (l:ad.length = own.length):aN W U ⟨own.map fun _=>.gone,ad,h⟩:=by
 refine ⟨by rw [List.length_map]; exact l,fun n pv a z=>(kH ⟨n,pv,z⟩).elim,fun n t e=>?_,fun n m pv qv a z=>(kH ⟨n,pv,z⟩).elim,fun u z=>(kH z).elim⟩
 refine af fun nG=>?_
 have e:(own.map fun _=>PV.gone)[n]? = some (PV.froz t):=e
 rw [List.getElem?_map] at e
 obtain ⟨_,_,q⟩:=Option.map_eq_some_iff.mp e
 refine nG ?_
 cases q
theorem SF.I7 {y f:Str} {py py2 fp cp pos1 pos2 np kp hpos:Pos} {cl:Nat} {es:List Expr} {fv:Value} {as:List AV} {hs:List ExceptHandler} {rest:List Stmt} {r:AV} {o:Own} (hf:aj c σ own (eval (.Name f fp) c.env) (.con fv) own) (ha:∀ x∈es,dh x) (hl:bT c σ own (spliced (backTo cp (starEach es c.env))) as own1) (na:ba as = true) (T:e6 W d fv as 71)
  (hk:lk bP sc.sc.names = some .globalImplicit) (hy:cX sc.sc y .local = true) (nr:nl r = true) (h:∀ c':ai W d sc,az c' ((y,.none)::del y σ) (own.map fun _=>.gone) (execs rest c'.env) (.ret r o)):
  SF c σ own (execs (.Try [.Assign [.Name y py] (.Call (.Name f fp) es [] cp) pos1] (.ExceptHandler (some (.Name bP np)) none [.Assign [.Name y py2] (.Constant .none cl kp) pos2] hpos::hs) [] [] pos::rest) c.env) r:=fun s ad Q E S ⟨FR,fr,nf,g⟩=>by
 refine wpAny_execs_cons (wpAny_Try_except (wpAny_execs_cons (wpAny_Assign_Name (zg hf ha hl na T S fr fun e h3 tk3 kf x=>?_) rfl)))
 refine af fun nG=>?_
 obtain ⟨outer,a,fl⟩:=fr.m6 (S.raised kf) (kf.ei (.head _) S.rW)
 refine nG ?_
 have L0:di (SV.hh ⟨own,ad,s.heap⟩) c.env.locals:=S.rW
 have kb:ag c.h₀ (aP (· = c.env.locals) (SV.hh ⟨own,ad,s.heap⟩)):=S.oh.fB fun u q=>⟨q▸S.nL,q▸let ⟨o,e,n⟩:=L0; ⟨o,e,dY n⟩⟩
 have nf0:∀ {h':Heap},KF FR c.h₀ h'→GG W h':=fun k=>au.dD c.G k.kx fun u m=>(nf u m).2
 have frn:∀ L∈FR,di c.h₀ L:=fun L m=>by
  obtain ⟨outer',_,fl'⟩:=fr.ex
  exact fl'.mem L m
 refine qU (s:=mv s h3 tk3) a fl fr.fr kf.IZ (iJ rfl) ((x.mono ag.dO).imp fun m z=>.inr (.inl z)) fun h4 k4 f4 x4 d4=>?_
 refine m5 (s:=mv s h4 tk3) (fo:=none) (fun z=>by exact aq z) f4 k4 x4 fun h5 k5 f5 x5 d5=>?_
 refine af fun nG=>?_
 have x5':=x5
 obtain ⟨_,oe,vs,he,hc,_,_⟩:=x5'
 refine nG ?_
 have hkk:c.env.kindOf bP = some .globalImplicit:=by show c.env.scope.names.lookup _ = _; rw [c.es,← cQ]; exact hk
 refine I5 (s:=mv s h5 tk3) c.K hkk (nf0 ((kb.kf FR).trans k5)) he hc fun E'=>?_
 refine m5 (s:=mv s h5 tk3) (fo:=none) (fun z=>by exact aq z) f5 k5 x5 fun h6 k6 f6 x6 d6=>?_
 have kc:KF FR c.h₀ h6:=(kb.kf FR).trans k6
 have kall:KF (c.env.locals::FR) (SV.hh ⟨own,ad,s.heap⟩) h6:=⟨⟨fun b ob nb e=>k6.kx.same b ob (fun m=>nb (.tail _ m)) (a0.mpr ⟨e,fun q=>nb (q▸.head _)⟩),fun P q m t=>k6.kx.tab P q m ((au.eR (X:=(· = c.env.locals)) (fun u ob q e=>by obtain ⟨o',e',n⟩:=L0; rw [q] at e; rw [e'] at e; cases e; exact dY n) fun b ob n e=>a0.mpr ⟨e,n⟩).tab P q m t)⟩,(kf.fd.trans d4).trans (d5.trans d6)⟩
 have ei:∀ L∈c.env.locals::FR,di (SV.hh ⟨own,ad,s.heap⟩) L:=fun L m=>(List.mem_cons.mp m).elim (fun q=>q▸L0) fun m=>((S.oh.kf [L]).ei (.head _) (frn L m))
 have lowB:∀ u,c.B u→c.h₀.get? u = none∧bz h6 u:=fun u q=>⟨(S.low u q).1,kall.low ei (let ⟨ob,e,n⟩:=(S.low u q).2; ⟨ob,a0.mpr ⟨e,fun z=>S.owns.nU z (.inr q)⟩,n⟩)⟩
 have up:∀ {u ob},c.h₀.get? u = some ob→∃ o',(aP c.B h6).get? u = some o':=fun e=>let ⟨o',e'⟩:=kc.ex frn e; ⟨o',a0.mpr ⟨e',fun z=>by rw [(lowB _ z).1] at e; exact aq e⟩⟩
 have G6:GG W (aP c.B h6):=au.hide (nf0 kc) fun u q=>⟨c.G.gone (lowB u q).1,(lowB u q).2⟩
 have le:(vw c.U ⟨own,ad,s.heap⟩).Le (vw c.U ⟨own.map fun _=>.gone,ad,h6⟩):=⟨fun b ob ⟨e,sf,n⟩=>⟨kall.kx.b0 (fun m=>(List.mem_cons.mp m).elim (fun q=>n (.inl (.inr (q▸c.base)))) fun m=>n (.inl (.inl (nf b m).1))) (a0.mpr ⟨e,fun z=>n (.inr z)⟩) (.inl sf),sf,fun q=>q.elim (fun q=>n (.inl q)) kH⟩,fun _ _ e=>e⟩
 have hid_ns:∀ {m},s.heap.Ns c.env.locals m→h6.Ns c.env.locals m:=fun n=>kall.ns (jW (S.nB c.base) n)
 have hid_cl:∀ {x u v},c.env.cells.lookup x = some u→s.heap.IsCell u v→h6.IsCell u v:=fun e i=>kall.cell (mH (S.nC e) i)
 let c6:=c.at (aP c.B h6) c.X ad G6 (fun u q=>let ⟨_,e⟩:=c.out u q; up e) fun x u e=>(c.cls x u e).imp id fun ⟨_,e⟩=>up e
 refine af fun nG=>?_
 have S6:SV c6 σ ⟨own.map fun _=>.gone,ad,h6⟩:=⟨fun _ _ e=>e,ag.dO,I6 S.owns.len,fun u z=>(kH z).elim,fun u q=>⟨iJ q,(lowB u q).2⟩,let ⟨m,n⟩:=S.ns; ⟨m,hid_ns n⟩,fun x u e=>let ⟨v,i⟩:=S.cls x u e; ⟨v,hid_cl e i⟩,fun x b e=>(S.loc x b e).mv (fun _=>hid_ns) (fun _ _ e=>hid_cl e) le⟩
 obtain ⟨m,hns⟩:=S6.ns
 refine nG ?_
 have hyk:c6.env.kindOf y = some .local:=qV c.es hy
 refine wpAny_execs_cons (wpAny_Assign_Name (wpAny_Constant_none ?_) rfl)
 refine wpAny_storeName_local hyk hns (fun h7 n7 s7=>?_) (xN c.K)
 refine wpAny_execs_nil (h c6 (mv s h7 _) ad Q E (S6.store hyk rfl hns n7 s7) fun v h8 tk8 ad8 S8 r8=>g v h8 tk8 (kc.I0 S8.keep lowB fun L m=>let ⟨ob,e,_⟩:=frn L m; ⟨ob,e⟩) (dQ (dZ fun u q=>.inl (.inl q)) nr r8))
end
end Mine
end
section
set_option backward.match.sparseCases false
open PySem PySem.W PyProof.Rows PySem.Calls
set_option maxRecDepth 100000
namespace Mine
section
variable {W:ab} {d:Nat} {sc:Fs} {c:ai W d sc} {σ:ao} {own own1:Own} {pos:Pos}
theorem SV.I8 {p:Pt} (S:SV c σ p) {h':Heap} (k:KF [c.env.locals] p.h h'):SV c σ ⟨p.own,p.ad,h'⟩:=by
 have fr:∀ L∈[c.env.locals],di p.h L:=fun L m=>by rw [List.mem_singleton.mp m]; exact S.ei
 have nl:∀ {b:Addr},¬(c.U b∨ak p.own p.ad b)→b∉[c.env.locals]:=fun n m=>n (.inl (.inr (List.mem_singleton.mp m▸c.base)))
 have np:∀ {u:Addr},ak p.own p.ad u→u∉[c.env.locals]:=fun z m=>S.owns.nU z (.inr (List.mem_singleton.mp m▸c.base))
 have le:(vw c.U p).Le (vw c.U ⟨p.own,p.ad,h'⟩):=⟨k.kx.sub fun b o e n=>⟨nl n,n⟩,fun _ _ e=>e⟩
 refine ⟨S.pre,S.keep.dD k.kx fun u m=>by rw [List.mem_singleton.mp m]; exact S.nL,S.owns.map le (fun u z=>S.owns.nU z) fun u o z e t=>k.kx.b0 (np z) e (.inr t),S.new,fun u q=>⟨(S.low u q).1,k.low fr (S.low u q).2⟩,let ⟨m,n⟩:=S.ns; ⟨m,k.ns n⟩,fun x a e=>let ⟨v,i⟩:=S.cls x a e; ⟨v,k.cell i⟩,fun x a e=>(S.loc x a e).mv (fun _=>k.ns) (fun _ _ _=>k.cell) le⟩
theorem az.I9 {f:Str} {fp cp up:Pos} {es:List Expr} {fv:Value} {as:List AV} {b:List Stmt} (hfn:sc.fn = true) (ht:d7 sc.sc = true) (hf:aj c σ own (eval (.Name f fp) c.env) (.con fv) own) (ha:∀ x∈es,dh x) (hl:bT c σ own (spliced (backTo cp (starEach es c.env))) as own1) (na:ba as = true) (T:TellsF W d fv as (.bool true)):az c σ own (exec (.If (.UnaryOp .Not (.Call (.Name f fp) es [] cp) up) b [] pos) c.env) (.next σ own1):=fun s ad Q E S g=>by
 refine wpAny_If (isTrue_not (isTrue_plain ?_ rfl))
 show wpAny _ _ ((eval (.Name f fp) c.env) >>= fun fv=>callWith cp fv [] (backTo cp (starEach es c.env)) []) _ _ _
 refine wpAny_bind (hf s ad _ _ S fun v g1 t1 a1 k1 r1=>?_)
 obtain rfl:v = fv:=r1
 refine gZ (first:=[]) ha T.keep (hl _ a1 _ _ (S.after k1) fun ws g2 t2 a2 k2 r2=>?_)
 have S2:=S.after (k1.trans k2)
 have hfr:eE c.A [c.env.locals] g2:=by
  obtain ⟨o,e,n⟩:=S2.ei
  obtain ⟨hA,hl⟩:=c.top hfn ht
  exact ⟨[c.env],hA,by rw [List.filterMap_cons,hl]; rfl,fun e' m=>by rw [List.mem_singleton.mp m]; exact ⟨(by rw [c.K.kind]; exact fun z=>(by cases z)),_,o,hl,e,n⟩⟩
 rw [List.nil_append]
 refine ⟨S2.Gp,T.run c.A c.a (fun u=>c.U u∨ak own1 a2 u) (mv s g2 t2) ws [c.env.locals] _ _ S2.B (eZ (fun _ _ z=>z) na r2) hfr (fun u m=>by rw [List.mem_singleton.mp m]; exact ⟨.inl (.inr c.base),c.G.gone S2.nL⟩) fun v h' tk k rv=>?_⟩
 obtain rfl:v = .bool true:=rv
 exact wpAny_truthy_bool (wpAny_execs_nil (g h' tk a2 (S2.I8 k)))
end
end Mine
end
section
set_option backward.match.sparseCases false
open PySem PySem.W PyProof.Rows PySem.Calls
namespace Mine
section
structure Hd (W:ab) (d:Nat) where
 s:AV→Bool
 call:(own:Own)→(f:AV)→(as:List AV)→Out fun r:AV×Own=>gV W d own f as r.1 r.2
 lam:(lsc:Scope)→(y:Str)→(body:Expr)→(a:AV)→Out (rH W d lsc y body a)
 rs:(f:Addr)→(as:List AV)→Out fun x:Addr=>e6 W d (.ref f) as x
 rf:(f:Addr)→(as:List AV)→Out fun r:AV=>TellsF W d (.ref f) as r
noncomputable abbrev EP (W:ab) (d:Nat) (sc:Fs) (σ:ao) (own:Own) (x:Expr) (r:AV×Own):Prop:=∀ c:ai W d sc,aj c σ own (eval x c.env) r.1 r.2
noncomputable abbrev TP (W:ab) (d:Nat) (sc:Fs) (σ:ao) (own:Own) (x:Expr) (r:Bool×Own):Prop:=∀ c:ai W d sc,bo c σ own (isTrue x c.env (eval x c.env)) r.1 r.2
noncomputable abbrev SP (W:ab) (d:Nat) (sc:Fs) (σ:ao) (own:Own) (x:Stmt) (f:Fl):Prop:=∀ c:ai W d sc,az c σ own (exec x c.env) f
structure Ev (W:ab) (d:Nat) where
 e:(sc:Fs)→(σ:ao)→(own:Own)→(x:Expr)→Out (EP W d sc σ own x)
 t:(sc:Fs)→(σ:ao)→(own:Own)→(x:Expr)→Out (TP W d sc σ own x)
 s:(sc:Fs)→(σ:ao)→(own:Own)→(x:Stmt)→Out (SP W d sc σ own x)
variable {W:ab} {d:Nat} {G:Facts} (hG:Sat W.ρ G) (H:Hd W d) (v:Ev W d) (sc:Fs) (σ:ao) (own:Own)
noncomputable def lf {α:Type} {P Q:α→Prop} (h:∀ a,P a→Q a) (x:Out P):Out Q:=bd x fun a q=>.ok a (h a q)
noncomputable def jb (own:Own) (n:Nat):Option { l:List AV // own[n]? = some (.lst l) }:=match ow own n with
 | some ⟨.lst l,hp⟩=>some ⟨l,hp⟩
 | _=>none
noncomputable def isObj (own:Own) (n:Nat):Bool:=match ow own n with
 | some ⟨.obj _ _,_⟩=>true
 | _=>false
noncomputable def Ja (own:Own) (n:Nat):{ r:AV×Own // aT own (.loc n) r.2 r.1 }:=match isObj own n with
 | true=>⟨(.loc n,own),aT.refl⟩
 | false=>settle own (.loc n)
noncomputable def zh (own:Own) (a:AV):{ r:AV×Own // aT own a r.2 r.1 }:=match a with
 | .loc n=>Ja own n
 | a=>⟨(a,own),aT.refl⟩
noncomputable def Jb (own:Own) (a:AV):Bool:=match a with
 | .loc n=>(match ow own n with
  | some ⟨.dicS _,_⟩ | some ⟨.dicT _,_⟩=>true
  | _=>false)
 | _=>false
noncomputable def Jc (own:Own) (a:AV):{ r:AV×Own // aT own a r.2 r.1 }:=match Jb own a with
 | true=>⟨(a,own),aT.refl⟩
 | false=>zh own a
noncomputable def rZ (own:Own) (n:Nat):Option { l:List (Str×AV) // own[n]? = some (.dicS l) }:=match ow own n with
 | some ⟨.dicS l,hp⟩=>some ⟨l,hp⟩
 | _=>none
noncomputable def r6 (own:Own) (n:Nat):Option { l:List (List Int×AV) // DT own n l }:=match ow own n with
 | some ⟨.dicT l,hp⟩=>some ⟨l,.t hp⟩
 | some ⟨.dicS [],hp⟩=>some ⟨[],.e hp⟩
 | _=>none
noncomputable def Jd (own:Own) (a:AV):{ b:AV // aT own a own b }:=match a with
 | .loc n=>GL own (.loc n)
 | a=>⟨a,aT.refl⟩
noncomputable def eS (x:Expr):Out (EP W d sc σ own x):=bd (v.e sc σ own x) fun a ha=>(match zh a.2 a.1 with
 | ⟨b,f⟩=>.ok b fun c=>(ha c).hV f)
noncomputable def eD (x:Expr):Out (EP W d sc σ own x):=bd (v.e sc σ own x) fun a ha=>(match Jc a.2 a.1 with
 | ⟨b,f⟩=>.ok b fun c=>(ha c).hV f)
noncomputable def eT (x:Expr):Out (EP W d sc σ own x):=bd (v.e sc σ own x) fun a ha=>(match Jd a.2 a.1 with
 | ⟨b,f⟩=>.ok (b,a.2) fun c=>(ha c).hV f)
noncomputable def Je (x:Str) (p:Pos) (hk:lk x sc.sc.names = some .globalImplicit):Out fun a:AV=>∀ c:ai W d sc,aj c σ own (eval (.Name x p) c.env) a own:=match xE W x with
 | some ⟨a,h⟩=>.ok a fun c=>aj.name hk (.inl ⟨rfl,h⟩)
 | none=>.no 1
noncomputable def r7 (x:Str) (p:Pos) {k:NameKind} (hk:lk x sc.sc.names = some k) (hg:k≠.globalImplicit):Out fun a:AV=>∀ c:ai W d sc,aj c σ own (eval (.Name x p) c.env) a own:=bG (lk x σ) 2 fun a ha=>.ok a fun c=>aj.name hk (.inr ⟨hg,ha⟩)
noncomputable def Jf (x:Str) (p:Pos) (k:NameKind):lk x sc.sc.names = some k→Out fun a:AV=>∀ c:ai W d sc,aj c σ own (eval (.Name x p) c.env) a own:=match k with
 | .globalImplicit=>Je sc σ own x p
 | .local=>fun hk=>r7 sc σ own x p hk (fun z=>(by cases z))
 | .cell=>fun hk=>r7 sc σ own x p hk (fun z=>(by cases z))
 | .free=>fun hk=>r7 sc σ own x p hk (fun z=>(by cases z))
 | _=>fun _=>.no 3
noncomputable def eName (x:Str) (p:Pos):Out fun a:AV=>∀ c:ai W d sc,aj c σ own (eval (.Name x p) c.env) a own:=de (lk x sc.sc.names) (fun k hk=>Jf sc σ own x p k hk) fun _=>.no 3
noncomputable def e7 (st:Bool) (pos:Pos):(l:List Expr)→(own:Own)→Out fun r:List AV×Own=>∀ c:ai W d sc,bT c σ own (spliced (backTo pos (starEach l c.env))) r.1 r.2
 | [],own=>.ok ([],own) fun c=>.nil
 | x::l,own=>aF (Nat.beq x.ctorIdx 22) (fun _=>.no 5) fun hs=>bd (cond st (eS v sc σ own x) (v.e sc σ own x)) fun a ha=>bd (e7 st pos l a.2) fun r hr=>.ok (a.1::r.1,r.2) fun c=>.cons ((cS x).star hs) (ha c) (hr c)
noncomputable def noStar (l:List Expr):Bool:=l.all fun x=>!Nat.beq x.ctorIdx 22
theorem ig {l:List Expr} (h:noStar l = true):∀ x∈l,dh x:=fun x m=>(cS x).star ((Bool.not_eq_true' _).mp (List.all_eq_true.mp h x m))
noncomputable def zi (x:Expr):Out fun _:Unit=>mJ x:=aF (Nat.beq x.ctorIdx 16) (fun _=>.no 6) fun h=>.ok () ((cS x).base h)
noncomputable def r9:Str:=⟨#[101,120,116,101,110,100]⟩
noncomputable def zj:Str:=⟨#[97,112,112,101,110,100]⟩
noncomputable def Jg (own1:Own) (n:Nat) (own2:Own) (vs:List AV):Out fun r:AV×Own=>cz W d own1 (.loc n) zj own2 vs r.1 r.2:=match vs with
 | [b]=>(match jb own1 n,jb own2 n with
  | some ⟨l,hp⟩,some ⟨l',hq⟩=>ar (Nat.ble l'.length 1000) 9 fun hz=>(match fL (l' ++ [b]) with
   | ⟨m,e⟩=>.ok (.none,own2.set n (.lst m)) (e▸EL hp hq hz))
  | _,_=>.no 10)
 | _=>.no 11
noncomputable def Jh (own1:Own) (n:Nat) (own2:Own) (vs:List AV):Out fun r:AV×Own=>cz W d own1 (.loc n) r9 own2 vs r.1 r.2:=match vs with
 | [.lst m]=>(match jb own1 n,jb own2 n with
  | some ⟨l,hp⟩,some ⟨l',hq⟩=>ar (Nat.ble (l'.length + m.length) 10000) 9 fun hz=>(match fL (l' ++ m) with
   | ⟨q,e⟩=>.ok (.none,own2.set n (.lst q)) (e▸Hm hp hq hz))
  | _,_=>.no 10)
 | _=>.no 11
noncomputable def Ji (own1:Own) (n:Nat) (x:Str) (own2:Own) (vs:List AV):Out fun r:AV×Own=>cz W d own1 (.loc n) x own2 vs r.1 r.2:=match qi own1 n with
 | some ⟨(K,m,fs),h1,h2⟩=>(match g9 K g7 with
  | some ⟨ms,hm⟩=>bG (lk x ms) 13 fun f hf=>aF (lk x fs).isNone (fun hn=>bd (H.call own2 (.con (.ref f)) (.loc n::vs)) fun r hr=>.ok r (H0 h1 h2 hm hf (Option.isNone_iff_eq_none.mp hn) (hr ⟨fun _ _=>False,[]⟩ _ rfl))) fun _=>.no 14
  | none=>.no 15)
 | none=>.no 12
noncomputable def Jj (own1:Own) (n:Nat) (x:Str) (own2:Own) (vs:List AV):Out fun r:AV×Own=>cz W d own1 (.loc n) x own2 vs r.1 r.2:=aF (sEq x zj) (fun hx=>lf (fun r h=>sEq_iff.mp hx▸h) (Jg own1 n own2 vs)) fun _=>aF (sEq x r9) (fun hx=>lf (fun r h=>sEq_iff.mp hx▸h) (Jh own1 n own2 vs)) fun _=>Ji H own1 n x own2 vs
noncomputable def Jk (own1:Own) (K:Addr) (fs:List (Str×AV)) (x:Str) (own2:Own) (vs:List AV):Out fun r:AV×Own=>cz W d own1 (.inst K fs) x own2 vs r.1 r.2:=match g9 K g7 with
 | some ⟨ms,hm⟩=>bG (lk x ms) 13 fun f hf=>aF (lk x fs).isNone (fun hn=>bd (H.call own2 (.con (.ref f)) (.inst K fs::vs)) fun r hr=>.ok r (F3 hm hf (Option.isNone_iff_eq_none.mp hn) (hr ⟨fun _ _=>False,[]⟩ _ rfl))) fun _=>.no 14
 | none=>.no 15
noncomputable def Jl (own1:Own) (f:Value) (x:Str) (own2:Own) (vs:List AV):Out fun r:AV×Own=>cz W d own1 (.con f) x own2 vs r.1 r.2:=aF (sEq x fJ) (fun hx=>match f with
 | .ref 327=>bd (H.call own2 (.con (.ref 303)) vs) fun r hr=>.ok r (sEq_iff.mp hx▸Hf (hr ⟨fun _ _=>False,[]⟩ _ rfl))
 | _=>.no 16) fun _=>.no 17
noncomputable def Jm (own1:Own) (l:List (Str×AV)) (x:Str) (own2:Own) (vs:List AV):Out fun r:AV×Own=>cz W d own1 (.dicS l) x own2 vs r.1 r.2:=aF (sEq x qS) (fun hx=>match vs with
 | [.str y,b]=>bG (lk y l) 18 fun r hr=>.ok (r,own2) (sEq_iff.mp hx▸F6 hr)
 | _=>.no 19) fun _=>.no 20
noncomputable def Jn (own1:Own) (y x:Str) (own2:Own) (vs:List AV):Out fun r:AV×Own=>cz W d own1 (.str y) x own2 vs r.1 r.2:=bd (qQ d own1 own2 y x vs xq FJ) fun r hr=>.ok (r,own2) hr
noncomputable def Jo (own1:Own) (a:AV) (x:Str) (own2:Own) (vs:List AV):Out fun r:AV×Own=>cz W d own1 a x own2 vs r.1 r.2:=match a with
 | .loc n=>Jj H own1 n x own2 vs
 | .inst K fs=>Jk H own1 K fs x own2 vs
 | .str y=>Jn own1 y x own2 vs
 | .con f=>Jl H own1 f x own2 vs
 | .dicS l=>Jm own1 l x own2 vs
 | _=>.no 21
noncomputable def Jp (x:Str) (p:Pos) (as:List Expr) (pos:Pos) (ha:noStar as = true):Out (EP W d sc σ own (.Call (.Name x p) as [] pos)):=bd (eName (W:=W) sc σ own x p) fun fv hf=>bd (e7 v sc σ (H.s fv) pos as own) fun vs hl=>bd (H.call vs.2 fv vs.1) fun r hr=>.ok r fun c=>aj.call (ig ha) (hf c) (hl c) hr
noncomputable def Jq (x:Expr) (y:Str) (ap:Pos) (as:List Expr) (pos:Pos) (ha:noStar as = true):Out (EP W d sc σ own (.Call (.Attribute x y ap) as [] pos)):=bd (zi x) fun _ hb=>ar (ap.endLine == pos.line) 23 fun hp=>ar (Nat.blt as.length 30) 24 fun hn=>bd (eT v sc σ own x) fun a hx=>bd (e7 v sc σ (sEq y r9) pos as a.2) fun vs hl=>bd (Jo H a.2 a.1 y vs.2 vs.1) fun r hr=>.ok r fun c=>aj.EK hb hp hn (ig ha) (hx c) (hl c) hr
noncomputable def Jr (f:Expr) (as:List Expr) (pos:Pos):Out (EP W d sc σ own (.Call f as [] pos)):=ar (noStar as) 22 (match f with
 | .Name x p=>Jp H v sc σ own x p as pos
 | .Attribute x y ap=>Jq H v sc σ own x y ap as pos
 | _=>fun _=>.no 25)
noncomputable def zk (e:Option Expr):Out fun r:Option Int×Own=>∀ c:ai W d sc,gY c σ own e r.1 r.2:=match e with
 | none=>.ok (none,own) fun c=>.none
 | some e=>bd (v.e sc σ own e) fun a ha=>(match a,ha with
  | (.int i,o),ha=>bd (eW hG i) fun i hi=>.ok (some i,o) fun c=>.some (fun V v r=>(hi▸r:bK _ v)) (ha c)
  | _,_=>.no 26)
noncomputable def Js (own:Own) (a b:AV):Out (jY W own a b):=match a,b with
 | .loc n,.str y=>(match rZ own n with
  | some ⟨l,h⟩=>bG (lk y l) 161 fun r hr=>.ok r (HZ h hr)
  | none=>.no 161)
 | .loc n,.tup as=>bd (nW hG as) fun ks hk=>(match r6 own n with
  | some ⟨l,h⟩=>bG (fO ks l) 162 fun r hr=>.ok r (HW h hk hr)
  | none=>.no 162)
 | a,b=>bd (hSub hG a b) fun r hr=>.ok r hr.o
noncomputable def Jt (x k:Expr) (pos:Pos):Out (EP W d sc σ own (.Subscript x k pos)):=bd (eD v sc σ own x) fun a ha=>(match k with
 | .Slice lo hi none p=>bd (zk hG v sc σ a.2 lo) fun l hl=>bd (zk hG v sc σ l.2 hi) fun u hu=>bd (Fg a.1 l.1 u.1) fun r hr=>.ok (r,u.2) fun c=>aj.slice (ha c) (hl c) (hu c) hr
 | k=>aF (Nat.beq k.ctorIdx 26) (fun _=>.no 27) fun hk=>bd (v.e sc σ a.2 k) fun b hb=>bd (Js hG b.2 a.1 b.1) fun r hr=>.ok (r,b.2) fun c=>aj.sub ((cS k).sub hk) (ha c) (hb c) hr)
noncomputable def oi (x:Expr):Out fun _:Unit=>∀ op,behindInMarks op x = false:=aF (Nat.beq x.ctorIdx 7) (fun _=>.no 28) fun h=>.ok () ((cS x).marks h)
noncomputable def Ju (op:CmpOp):Option { nt:Bool // op = mN nt }:=match op with
 | .In=>some ⟨false,rfl⟩
 | .NotIn=>some ⟨true,rfl⟩
 | _=>none
noncomputable def Jv (own:Own) (op:CmpOp) (a:AV) (n:Nat):Out (eV W own op a (.loc n)):=match Ju op,a with
 | some ⟨nt,h⟩,.str y=>(match rZ own n with
  | some ⟨l,hl⟩=>.ok (.bool (nt ^^ (lk y l).isSome)) (h▸HY nt hl)
  | none=>.no 163)
 | some ⟨nt,h⟩,.tup as=>bd (nW hG as) fun ks hk=>(match r6 own n with
  | some ⟨l,hl⟩=>.ok (.bool (nt ^^ (fO ks l).isSome)) (h▸HV nt hl hk)
  | none=>.no 164)
 | _,_=>.no 165
noncomputable def jc (own:Own) (op:CmpOp) (a b:AV):Out (eV W own op a b):=match b with
 | .loc n=>Jv hG own op a n
 | b=>bd (Ff hG op a b) fun r hr=>.ok r hr.o
noncomputable def Jw (l:Expr) (op:CmpOp) (r:Expr) (pos:Pos):Out (EP W d sc σ own (.Compare l [op] [r] pos)):=bd (oi r) fun _ hm=>bd (eS v sc σ own l) fun a ha=>bd (eD v sc σ a.2 r) fun b hb=>bd (jc hG b.2 op a.1 b.1) fun q hq=>.ok (q,b.2) fun c=>aj.qt (hm _) (ha c) (hb c) hq
noncomputable def Jx (l:Expr) (op op':CmpOp) (r r':Expr) (pos:Pos):Out (EP W d sc σ own (.Compare l [op,op'] [r,r'] pos)):=bd (oi r') fun _ hm=>bd (eS v sc σ own l) fun a ha=>bd (eS v sc σ a.2 r) fun b hb=>bd (jc hG b.2 op a.1 b.1) fun q hq=>bd (tr hG q) fun t ht=>(match t,ht with
  | true,ht=>bd (eS v sc σ b.2 r') fun b' hb'=>bd (jc hG b'.2 op' b.1 b'.1) fun q' hq'=>.ok (q',b'.2) fun c=>aj.jZ (hm _) (ha c) (hb c) hq ht (.inl ⟨rfl,⟨_,_,hb' c,hq',rfl⟩⟩)
  | false,ht=>.ok (q,b.2) fun c=>aj.jZ (hm _) (ha c) (hb c) hq ht (.inr ⟨rfl,rfl,rfl⟩))
noncomputable def Jy (l:Expr) (ops:List CmpOp) (rs:List Expr) (pos:Pos):Out (EP W d sc σ own (.Compare l ops rs pos)):=match ops,rs with
 | [op],[r]=>Jw hG v sc σ own l op r pos
 | [op,op'],[r,r']=>Jx hG v sc σ own l op op' r r' pos
 | _,_=>.no 29
noncomputable def Jz (l:Expr) (op:CmpOp) (r:Expr) (pos:Pos):Out (TP W d sc σ own (.Compare l [op] [r] pos)):=bd (oi r) fun _ hm=>bd (eS v sc σ own l) fun a ha=>bd (eD v sc σ a.2 r) fun b hb=>bd (jc hG b.2 op a.1 b.1) fun q hq=>bd (tr hG q) fun t ht=>.ok (t,b.2) fun c=>bo.qt (hm _) (ha c) (hb c) hq ht
noncomputable def JA (l:Expr) (op op':CmpOp) (r r':Expr) (pos:Pos):Out (TP W d sc σ own (.Compare l [op,op'] [r,r'] pos)):=bd (oi r') fun _ hm=>bd (eS v sc σ own l) fun a ha=>bd (eS v sc σ a.2 r) fun b hb=>bd (jc hG b.2 op a.1 b.1) fun q hq=>bd (tr hG q) fun t ht=>(match t,ht with
  | true,ht=>bd (eS v sc σ b.2 r') fun b' hb'=>bd (jc hG b'.2 op' b.1 b'.1) fun q' hq'=>bd (tr hG q') fun t' ht'=>.ok (t',b'.2) fun c=>bo.jZ (hm _) (ha c) (hb c) hq ht (.inl ⟨rfl,⟨_,_,hb' c,hq',ht'⟩⟩)
  | false,ht=>.ok (false,b.2) fun c=>bo.jZ (hm _) (ha c) (hb c) hq ht (.inr ⟨rfl,rfl,rfl⟩))
noncomputable def JB (l:Expr) (ops:List CmpOp) (rs:List Expr) (pos:Pos):Out (TP W d sc σ own (.Compare l ops rs pos)):=match ops,rs with
 | [op],[r]=>Jz hG v sc σ own l op r pos
 | [op,op'],[r,r']=>JA hG v sc σ own l op op' r r' pos
 | _,_=>.no 30
noncomputable def zl (op:BoolOp) (pos:Pos):(l:List Expr)→(own:Own)→Out (EP W d sc σ own (.BoolOp op l pos))
 | [],own=>.no 31
 | [x],own=>bd (v.e sc σ own x) fun a ha=>.ok a fun c s ad Q E S F=>BoolOp_one (ha c s ad Q E S F)
 | x::y::l,own=>bd (v.e sc σ own x) fun a ha=>bd (tr hG a.1) fun b hb=>aF (ends op b) (fun h=>.ok a fun c=>aj.bools (ha c) hb (by rw [if_pos h]; exact ⟨rfl,rfl⟩)) fun h=>bd (zl op pos (y::l) a.2) fun r hr=>.ok r fun c=>aj.bools (ha c) hb (by rw [if_neg (h▸Bool.false_ne_true)]; exact hr c)
noncomputable def zm (op:BoolOp) (pos:Pos):(l:List Expr)→(own:Own)→Out fun r:Bool×Own=>∀ (c:ai W d sc) whole,bo c σ own (isTrue (.BoolOp op l pos) c.env whole) r.1 r.2
 | [],own=>.ok (op == .And,own) fun c w=>.nil
 | x::l,own=>bd (v.t sc σ own x) fun b hb=>aF (ends op b.1) (fun h=>.ok b fun c w=>bo.bools (hb c) (by rw [if_pos h]; exact ⟨rfl,rfl⟩)) fun h=>bd (zm op pos l b.2) fun r hr=>.ok r fun c w=>bo.bools (hb c) (by rw [if_neg (h▸Bool.false_ne_true)]; exact hr c w)
noncomputable def JC (ifs:List Expr):Out fun r:Bool×Own=>∀ c:ai W d sc,i0 c σ own ifs r.1 r.2:=match ifs with
 | []=>.ok (true,own) fun c=>.nil
 | [e]=>bd (v.t sc σ own e) fun b hb=>.ok b fun c=>.one (hb c)
 | _=>.no 32
noncomputable def zo (n:Nat) (elt:Expr):Out fun r:Own=>∀ c:ai W d sc,AccAt n c→gm c σ own (i4 elt c.env) σ r:=bd (v.e sc σ own elt) fun a ha=>(match jb a.2 n with
 | some ⟨l,hp⟩=>ar (Nat.ble l.length 1000) 34 fun hz=>.ok (a.2.set n (.lst (l ++ [a.1]))) fun c hc=>.emit hc ha hp hz
 | none=>.no 35)
noncomputable def sa {rest:ai W d sc→Sem Unit} (n:Nat) (ifs:List Expr) (g:(σ:ao)→(own:Own)→Out fun r:ao×Own=>∀ c:ai W d sc,AccAt n c→gm c σ own (rest c) r.1 r.2) (σ:ao) (own:Own):Out fun f:Fl=>∀ c:ai W d sc,AccAt n c→hU c σ own (rd c ifs (rest c)) f:=bd (JC v sc σ own ifs) fun b hb=>aF b.1 (fun h=>bd (g σ b.2) fun o ho=>.ok (.next o.1 o.2) fun c hc=>.comp hb (by rw [if_pos h]; exact ho c hc)) fun h=>.ok (.next σ b.2) fun c hc=>.comp hb (by rw [if_neg (h▸Bool.false_ne_true)]; exact ⟨rfl,rfl⟩)
structure JD (W:ab) (d:Nat) (sc:Fs) (σ:ao) (own:Own) (e:Expr) (r:Nat×Own):Prop where
 v:EP W d sc σ own e (.loc r.1,r.2)
 s:∀ (c:ai W d sc) y py pos σ',swapsWith e (some (.Name y py)) (Pos.line pos) c.env = pure true→iU sc y (.loc r.1) σ σ'→az c σ own (exec (.Assign [.Name y py] e pos) c.env) (.next σ' r.2)
noncomputable def zp (e:Expr):Out (JD W d sc σ own e):=match e with
 | .ListComp elt [⟨t,it,ifs,0⟩] scope pos=>aF (Nat.beq it.ctorIdx 7) (fun _=>.no 36) fun hf=>bd (eS v sc σ own it) fun x hx=>bG (elems x.1) 37 fun as has=>ar (ku scope) 38 fun hs=>(match ro sc.sc σ scope.names with
  | none=>.no 39
  | some ⟨σ0,F⟩=>bd (kq (W:=W) (d:=d) (sc:=⟨bW scope sc.sc,false⟩) (K:=AccAt x.2.length) (t:=t) (code:=fun c i=>.compLoop (.ListComp elt [⟨t,it,ifs,0⟩] scope pos) 0 i (ef c.env) c.env) (fun c=>rg Gy) (sa v _ (rest:=fun c=>i4 elt c.env) x.2.length ifs fun σ own=>bd (zo v _ σ own x.2.length elt) fun o ho=>.ok (σ,o) ho) as σ0 (x.2 ++ [.lst []])) fun f hL=>(match f,hL with
   | .next σ1 own2,hL=>.ok (x.2.length,own2) ⟨fun c=>yo (kz hs) F ((cS it).fold hf) (hx c) has hL,fun c y py pos' σ' hsw hb=>az.comp hsw (kz hs) F ((cS it).fold hf) (hx c) has hL hb⟩
   | _,_=>.no 40))
 | .ListComp elt [⟨t,it,ifs,0⟩,⟨t2,it2,ifs2,0⟩] scope pos=>aF (Nat.beq it.ctorIdx 7) (fun _=>.no 36) fun hf=>aF (Nat.beq it2.ctorIdx 7) (fun _=>.no 36) fun hf2=>bd (eS v sc σ own it) fun x hx=>bG (elems x.1) 37 fun as has=>ar (ku scope) 38 fun hs=>(match ro sc.sc σ scope.names with
  | none=>.no 39
  | some ⟨σ0,F⟩=>bd (kq (W:=W) (d:=d) (sc:=⟨bW scope sc.sc,false⟩) (K:=AccAt x.2.length) (t:=t) (code:=fun c i=>.compLoop (.ListComp elt [⟨t,it,ifs,0⟩,⟨t2,it2,ifs2,0⟩] scope pos) 0 i (ef c.env) c.env) (fun c=>rg Gz) (sa v _ (rest:=fun c=>nv (.ListComp elt [⟨t,it,ifs,0⟩,⟨t2,it2,ifs2,0⟩] scope pos) it2 c.env) x.2.length ifs fun σ own=>
    bd (eS v ⟨bW scope sc.sc,false⟩ σ own it2) fun y hy=>bG (elems y.1) 37 fun bs hbs=>bd (kq (W:=W) (d:=d) (sc:=⟨bW scope sc.sc,false⟩) (K:=AccAt x.2.length) (t:=t2) (code:=fun c i=>.compLoop (.ListComp elt [⟨t,it,ifs,0⟩,⟨t2,it2,ifs2,0⟩] scope pos) 1 i (ef c.env) c.env) (fun c=>rg GA) (sa v _ (rest:=fun c=>i4 elt c.env) x.2.length ifs2 fun σ own=>bd (zo v _ σ own x.2.length elt) fun o ho=>.ok (σ,o) ho) bs σ y.2) fun f hL=>(match f,hL with
     | .next σ' own2,hL=>.ok (σ',own2) fun c hc=>.inner (K:=AccAt x.2.length) (fun h X a G o l pre=>pre _ _ hc) ((cS it2).fold hf2) hy hbs hL
     | _,_=>.no 40)) as σ0 (x.2 ++ [.lst []])) fun f hL=>(match f,hL with
   | .next σ1 own2,hL=>.ok (x.2.length,own2) ⟨fun c=>yo (kz hs) F ((cS it).fold hf) (hx c) has hL,fun c y py pos' σ' hsw hb=>az.comp hsw (kz hs) F ((cS it).fold hf) (hx c) has hL hb⟩
   | _,_=>.no 40))
 | _=>.no 41
noncomputable def zq (pos:Pos):(ks:List (Option Expr))→(es:List Expr)→(own:Own)→Out fun r:List (Int×AV)×Own=>∀ c:ai W d sc,hY c σ own pos ks es r.1 r.2
 | [],[],own=>.ok ([],own) fun c=>.nil
 | some k::ks,e::es,own=>bd (v.e sc σ own k) fun a ha=>(match a,ha with
  | (.int (.lit i),o),ha=>bd (v.e sc σ o e) fun b hb=>bd (zq pos ks es b.2) fun r hr=>.ok ((i,b.1)::r.1,r.2) fun c=>.cons (ha c) (hb c) (hr c)
  | _,_=>.no 47)
 | _,_,_=>.no 47
noncomputable def zr:(l:List (Int×AV))→Option (PLift (l.map (·.1)).Nodup)
 | []=>some ⟨.nil⟩
 | (i,a)::l=>aF (l.any fun p=>bc i p.1) (fun _=>none) fun h=>(match zr l with
  | some ⟨q⟩=>some ⟨List.nodup_cons.mpr ⟨fun m=>(by
   obtain ⟨p,hp,e⟩:=List.mem_map.mp m
   rw [List.any_eq_true.mpr ⟨p,hp,by rw [gO]; exact decide_eq_true e.symm⟩] at h; exact fj h),q⟩⟩
  | none=>none)
noncomputable def JE (ks:List (Option Expr)) (es:List Expr) (pos:Pos):Out (EP W d sc σ own (.Dict ks es pos)):=match ks,es with
 | [],[]=>.ok (.loc own.length,own ++ [.dicS []]) fun c=>.Ho
 | ks,es=>ar (ks.all (·.isSome)) 48 fun h1=>ar (Nat.beq ks.length es.length) 48 fun h2=>ar (Nat.blt 0 ks.length && Nat.ble ks.length 15) 48 fun h3=>bd (zq v sc σ pos ks es (own ++ [.dicI []])) fun r hr=>(match zr r.1 with
  | none=>.no 48
  | some ⟨hn⟩=>(match ow r.2 own.length with
   | some ⟨.dicI [],hp⟩=>.ok (.loc own.length,r.2.set own.length (.dicI r.1)) fun c=>.dict h1 h2 h3 hn (hr c) hp
   | _=>.no 49))
noncomputable def JF (x:Str) (p:Pos):Out (EP W d sc σ own (.Name x p)):=bd (eName (W:=W) sc σ own x p) fun a ha=>.ok (a,own) ha
noncomputable def JG (k:Const) (u:Nat) (pos:Pos):Out (EP W d sc σ own (.Constant k u pos)):=match wV k with
 | some ⟨a,h⟩=>.ok (a,own) fun c=>h W c σ own u pos
 | none=>.no 42
noncomputable def JH (l:Expr) (op:Operator) (r:Expr) (pos:Pos):Out (EP W d sc σ own (.BinOp l op r pos)):=bd (eS v sc σ own l) fun a ha=>bd (eS v sc σ a.2 r) fun b hb=>bd (EY hG op a.1 b.1) fun q hq=>.ok (q,b.2) fun c=>.bin (ha c) (hb c) hq
noncomputable def JI (op:UnaryOp) (l:Expr) (pos:Pos):Out (EP W d sc σ own (.UnaryOp op l pos)):=bd (v.e sc σ own l) fun a ha=>bd (EZ op a.1) fun q hq=>.ok (q,a.2) fun c=>.qs (ha c) hq
noncomputable def JJ (t a b:Expr) (pos:Pos):Out (EP W d sc σ own (.IfExp t a b pos)):=bd (v.t sc σ own t) fun x hx=>bd (v.e sc σ x.2 (if x.1 = true then a else b)) fun r hr=>.ok r fun c=>.qu (hx c) (by have:=hr c; revert this; cases x.1<;>exact id)
noncomputable def JK (x:Expr) (y:Str) (pos:Pos):Out (EP W d sc σ own (.Attribute x y pos)):=bd (zi x) fun _ hb=>bd (eT v sc σ own x) fun a ha=>bd (F2 a.2 a.1 y) fun r hr=>.ok (r,a.2) fun c=>.attr hb (ha c) hr
noncomputable def JL (es:List Expr) (k:Nat) (pos:Pos):Out (EP W d sc σ own (.Tuple es k pos)):=bd (e7 v sc σ false pos es own) fun r hr=>ar (Nat.ble r.1.length 1000) 43 fun hz=>.ok (.tup r.1,r.2) fun c=>.tuple (hr c) (le_size hz)
noncomputable def JM (es:List Expr) (pos:Pos):Out (EP W d sc σ own (.List es pos)):=bd (e7 v sc σ false pos es own) fun r hr=>ar (Nat.ble r.1.length 1000) 44 fun hz=>.ok (.loc r.2.length,r.2 ++ [.lst r.1]) fun c=>.list (hr c) (le_size hz)
noncomputable def JN (f:Str) (fp:Pos) (x:Expr) (kn:Str) (params:Arguments) (body:Expr) (lsc:Scope) (lpos kp pos:Pos):Out (EP W d sc σ own (.Call (.Name f fp) [x] [⟨some kn,.Lambda params body lsc lpos,kp⟩] pos)):=aF (sEq kn rI) (fun hkn=>aF (Nat.beq x.ctorIdx 22) (fun _=>.no 166) fun hst=>ar (da sc.sc).isSome 166 fun hl=>ar (i6 lsc) 166 fun hs=>bG (ia params lsc) 166 fun y hp=>bd (eName (W:=W) sc σ own f fp) fun fv hf=>bd (eS v sc σ own x) fun a ha=>(match fv,hf,a,ha with
 | .blt 6,hf,(.lst as,o),ha=>bd (yU (H.lam lsc y body) as) fun ks hk=>bd (yP hG ks as) fun l hr=>.ok (.lst l,o) fun c=>sEq_iff.mp hkn▸aj.rK ((cS x).star hst) hl hp hs (hf c) (ha c) hk hr
 | _,_,_,_=>.no 167)) fun _=>.no 166
noncomputable def JO (k e:Expr) (gs:List Comprehension) (scope:Scope) (pos:Pos):Out (EP W d sc σ own (.DictComp k e gs scope pos)):=match k,e,gs with
 | .Name x px,.Constant (.bool true) u cp,[⟨.Name y tp,it,[],0⟩]=>aF (sEq x y) (fun hxy=>aF (Nat.beq it.ctorIdx 7) (fun _=>.no 168) fun hf=>ar (cX scope x .local) 168 fun hx=>ar (ku scope) 168 fun hs=>ar (scope.names.all fun p=>p.2 == .local) 168 fun hl=>bd (eS v sc σ own it) fun a ha=>(match a,ha with
  | (.lst as,o),ha=>ar (Nat.ble as.length 10000) 168 fun hz=>(match litsOf as with
   | some ⟨is,hi⟩=>.ok (.dicI (rO (n5 is [])),o) fun c=>sEq_iff.mp hxy▸aj.H9 hx hs hl ((cS it).fold hf) (ha c) (hi W) hz
   | none=>.no 169)
  | _,_=>.no 169)) fun _=>.no 168
 | _,_,_=>.no 168
noncomputable def JP (x:Expr):Out (EP W d sc σ own x):=bd (zp v sc σ own x) fun r hr=>.ok (.loc r.1,r.2) hr.v
inductive VE:Expr→Type
 | name (x p):VE (.Name x p)
 | const (k u p):VE (.Constant k u p)
 | bin (l op r p):VE (.BinOp l op r p)
 | qs (op l p):VE (.UnaryOp op l p)
 | cmp (l ops rs p):VE (.Compare l ops rs p)
 | bools (op l p):VE (.BoolOp op l p)
 | ifx (t a b p):VE (.IfExp t a b p)
 | call (f as p):VE (.Call f as [] p)
 | attr (x y p):VE (.Attribute x y p)
 | sub (x k p):VE (.Subscript x k p)
 | tup (es k p):VE (.Tuple es k p)
 | lst (es p):VE (.List es p)
 | dict (ks es p):VE (.Dict ks es p)
 | comp (elt gs sc p):VE (.ListComp elt gs sc p)
 | dcomp (k e gs sc p):VE (.DictComp k e gs sc p)
 | rK (f fp x kn params body lsc lpos kp pos):VE (.Call (.Name f fp) [x] [⟨some kn,.Lambda params body lsc lpos,kp⟩] pos)
 | other (x):VE x
noncomputable def view (x:Expr):VE x:=match x with
 | .Name x p=>.name x p
 | .Constant k u p=>.const k u p
 | .BinOp l op r p=>.bin l op r p
 | .UnaryOp op l p=>.qs op l p
 | .Compare l ops rs p=>.cmp l ops rs p
 | .BoolOp op l p=>.bools op l p
 | .IfExp t a b p=>.ifx t a b p
 | .Call f as [] p=>.call f as p
 | .Attribute x y p=>.attr x y p
 | .Subscript x k p=>.sub x k p
 | .Tuple es k p=>.tup es k p
 | .List es p=>.lst es p
 | .Dict ks es p=>.dict ks es p
 | .ListComp elt gs sc p=>.comp elt gs sc p
 | .DictComp k e gs sc p=>.dcomp k e gs sc p
 | .Call (.Name f fp) [x] [⟨some kn,.Lambda params body lsc lpos,kp⟩] pos=>.rK f fp x kn params body lsc lpos kp pos
 | x=>.other x
noncomputable def byName {M:Expr→Type} (e:Expr) (k:(x:Str)→(p:Pos)→M (.Name x p)) (z:(x:Expr)→M x):M e:=VE.casesOn (motive:=fun x _=>M x) (view e) k (fun _ _ _=>z _) (fun _ _ _ _=>z _) (fun _ _ _=>z _) (fun _ _ _ _=>z _) (fun _ _ _=>z _) (fun _ _ _ _=>z _) (fun _ _ _=>z _) (fun _ _ _=>z _) (fun _ _ _=>z _) (fun _ _ _=>z _) (fun _ _=>z _) (fun _ _ _=>z _) (fun _ _ _ _=>z _) (fun _ _ _ _ _=>z _) (fun _ _ _ _ _ _ _ _ _ _=>z _) (fun _=>z _)
noncomputable def zt {M:Expr→Type} (e:Expr) (k:(k:Const)→(u:Nat)→(p:Pos)→M (.Constant k u p)) (z:(x:Expr)→M x):M e:=VE.casesOn (motive:=fun x _=>M x) (view e) (fun _ _=>z _) k (fun _ _ _ _=>z _) (fun _ _ _=>z _) (fun _ _ _ _=>z _) (fun _ _ _=>z _) (fun _ _ _ _=>z _) (fun _ _ _=>z _) (fun _ _ _=>z _) (fun _ _ _=>z _) (fun _ _ _=>z _) (fun _ _=>z _) (fun _ _ _=>z _) (fun _ _ _ _=>z _) (fun _ _ _ _ _=>z _) (fun _ _ _ _ _ _ _ _ _ _=>z _) (fun _=>z _)
noncomputable def JQ {M:Expr→Type} (e:Expr) (k:(op:UnaryOp)→(l:Expr)→(p:Pos)→M (.UnaryOp op l p)) (z:(x:Expr)→M x):M e:=VE.casesOn (motive:=fun x _=>M x) (view e) (fun _ _=>z _) (fun _ _ _=>z _) (fun _ _ _ _=>z _) k (fun _ _ _ _=>z _) (fun _ _ _=>z _) (fun _ _ _ _=>z _) (fun _ _ _=>z _) (fun _ _ _=>z _) (fun _ _ _=>z _) (fun _ _ _=>z _) (fun _ _=>z _) (fun _ _ _=>z _) (fun _ _ _ _=>z _) (fun _ _ _ _ _=>z _) (fun _ _ _ _ _ _ _ _ _ _=>z _) (fun _=>z _)
noncomputable def oj {M:Expr→Type} (e:Expr) (k:(f:Expr)→(as:List Expr)→(p:Pos)→M (.Call f as [] p)) (z:(x:Expr)→M x):M e:=VE.casesOn (motive:=fun x _=>M x) (view e) (fun _ _=>z _) (fun _ _ _=>z _) (fun _ _ _ _=>z _) (fun _ _ _=>z _) (fun _ _ _ _=>z _) (fun _ _ _=>z _) (fun _ _ _ _=>z _) k (fun _ _ _=>z _) (fun _ _ _=>z _) (fun _ _ _=>z _) (fun _ _=>z _) (fun _ _ _=>z _) (fun _ _ _ _=>z _) (fun _ _ _ _ _=>z _) (fun _ _ _ _ _ _ _ _ _ _=>z _) (fun _=>z _)
noncomputable def JR (x:Expr):Out (EP W d sc σ own x):=VE.casesOn (motive:=fun x _=>Out (EP W d sc σ own x)) (view x)
 (JF sc σ own) (JG sc σ own) (JH hG v sc σ own) (JI v sc σ own) (Jy hG v sc σ own) (fun op l pos=>zl hG v sc σ op pos l own) (JJ v sc σ own) (Jr H v sc σ own) (JK v sc σ own) (Jt hG v sc σ own) (JL v sc σ own) (JM v sc σ own) (JE v sc σ own) (fun elt gs scope pos=>JP v sc σ own (.ListComp elt gs scope pos)) (JO v sc σ own) (JN hG H v sc σ own) (fun _=>.no 45)
noncomputable def JS (t a b:Expr) (pos:Pos):Out (TP W d sc σ own (.IfExp t a b pos)):=bd (v.t sc σ own t) fun x hx=>bd (v.t sc σ x.2 (if x.1 = true then a else b)) fun r hr=>.ok r fun c=>.qu (hx c) (by have:=hr c; revert this; cases x.1<;>exact id)
noncomputable def JT (op:UnaryOp) (x:Expr) (pos:Pos):Out (TP W d sc σ own (.UnaryOp op x pos)):=match op with
 | .Not=>bd (v.t sc σ own x) fun b hb=>.ok (!b.1,b.2) fun c=>.not (hb c)
 | _=>.no 46
noncomputable def JU (op:BoolOp) (l:List Expr) (pos:Pos):Out (TP W d sc σ own (.BoolOp op l pos)):=bd (zm v sc σ op pos l own) fun r hr=>.ok r fun c=>hr c _
noncomputable def oo (e:Expr) (h:∀ (c:ai W d sc) whole,isTrue e c.env whole = (do let v ← whole; standAt e.pos; holding [v] (truthy v))):Out (TP W d sc σ own e):=bd (v.e sc σ own e) fun a ha=>bd (tr hG a.1) fun t ht=>.ok (t,a.2) fun c=>.value (h c) (ha c) ht
noncomputable def stepT (x:Expr):Out (TP W d sc σ own x):=VE.casesOn (motive:=fun x _=>Out (TP W d sc σ own x)) (view x)
 (fun x p=>oo hG v sc σ own (.Name x p) fun _ _=>rfl) (fun k u p=>oo hG v sc σ own (.Constant k u p) fun _ _=>rfl) (fun _ _ _ _=>.no 46) (JT v sc σ own) (JB hG v sc σ own) (JU v sc σ own) (JS v sc σ own) (fun f as p=>oo hG v sc σ own (.Call f as [] p) fun _ _=>rfl) (fun x y p=>oo hG v sc σ own (.Attribute x y p) fun _ _=>rfl)
 (fun _ _ _=>.no 46) (fun _ _ _=>.no 46) (fun _ _=>.no 46) (fun _ _ _=>.no 46) (fun _ _ _ _=>.no 46) (fun _ _ _ _ _=>.no 46) (fun _ _ _ _ _ _ _ _ _ _=>.no 46) (fun _=>.no 46)
end
noncomputable abbrev Fc {α:Type} (a:α):={ b:α // b = a }
noncomputable def cg {α β:Type} (f:α→β) {a:α} (x:Fc a):Fc (f a):=Subtype.rec (motive:=fun _=>Fc (f a)) (fun b h=>⟨f b,congrArg f h⟩) x
noncomputable def cL {α β γ:Type} (f:α→β→γ) {a:α} {b:β} (x:Fc a) (y:Fc b):Fc (f a b):=Subtype.rec (motive:=fun _=>Fc (f a b)) (fun c h=>Subtype.rec (motive:=fun _=>Fc (f a b)) (fun d k=>⟨f c d,by rw [h,k]⟩) y) x
noncomputable def et (n:Nat):Fc n:=Nat.rec (motive:=fun n=>Fc n) ⟨0,rfl⟩ (fun m _=>⟨m.succ,rfl⟩) n
noncomputable def kI (i:Int):Fc i:=Int.rec (motive:=fun i=>Fc i) (fun n=>cg Int.ofNat (et n)) (fun n=>cg Int.negSucc (et n)) i
noncomputable def oq {α:Type} (f:(a:α)→Fc a) (l:List α):Fc l:=List.rec (motive:=fun l=>Fc l) ⟨[],rfl⟩ (fun a _ ih=>cL List.cons (f a) ih) l
noncomputable def zu (x:Str):Fc x:=⟨x,rfl⟩
noncomputable def ot (b:Bool):Fc b:=Bool.rec (motive:=fun b=>Fc b) ⟨false,rfl⟩ ⟨true,rfl⟩ b
noncomputable def ou (e:SE):Fc e:=SE.rec (motive:=fun e=>Fc e) (fun i=>cg SE.lit (kI i)) (fun n=>cg SE.var (et n)) (fun _ _ h k=>cL SE.add h k) (fun i _ h=>cL SE.mul (kI i) h) (fun _ n h=>cL SE.div h (et n)) (fun _ n h=>cL SE.mod h (et n)) (fun b _ h=>cL SE.bit (ot b) h) (fun l _ h=>cL SE.tab (oq kI l) h) (fun _ h=>cg SE.abs h) e
noncomputable def JV (B:SB):Fc B:=SB.rec (motive:=fun B=>Fc B) (fun k e p=>cL (fun (f:Bool×Bool) e=>SB.mk f.1 e f.2) (cL Prod.mk (ot k) (ot p)) (ou e)) B
noncomputable def JW (v:Value):Fc v:=match v with
 | .ref a=>cg Value.ref (et a)
 | v=>⟨v,rfl⟩
noncomputable def fA (a:AV):Fc a:=AV.rec (motive_1:=fun a=>Fc a) (motive_2:=fun a=>Fc a) (motive_3:=fun a=>Fc a) (motive_4:=fun a=>Fc a) (motive_5:=fun a=>Fc a) (motive_6:=fun a=>Fc a)
 ⟨.none,rfl⟩ (fun b=>cg AV.bool (ot b)) (fun B=>cg AV.sb (JV B)) (fun e=>cg AV.int (ou e)) (fun x=>cg AV.str (zu x)) (fun l=>cg AV.bytes (oq ou l)) (fun _ h=>cg AV.tup h) (fun _ h=>cg AV.lst h) (fun C _ h=>cL AV.inst (et C) h) (fun _ h=>cg AV.dicI h) (fun _ h=>cg AV.dicS h) (fun i n=>cL AV.rng (kI i) (et n)) (fun v=>cg AV.con (JW v)) (fun n=>cg AV.blt (et n)) ⟨.any,rfl⟩ ⟨.anyS,rfl⟩ (fun n=>cg AV.loc (et n)) (fun n=>cg AV.hole (et n))
 ⟨[],rfl⟩ (fun _ _ h k=>cL List.cons h k) ⟨[],rfl⟩ (fun _ _ h k=>cL List.cons h k) ⟨[],rfl⟩ (fun _ _ h k=>cL List.cons h k) (fun x _ h=>cL Prod.mk (zu x) h) (fun x _ h=>cL Prod.mk (kI x) h) a
noncomputable def kJ (l:List AV):Fc l:=oq fA l
section
variable {W:ab} {d:Nat} {G:Facts} (hG:Sat W.ρ G) (H:Hd W d) (v:Ev W d) (sc:Fs) (σ:ao) (own:Own)
noncomputable abbrev JX (W:ab) (d:Nat) (sc:Fs) (σ:ao) (own:Own) (l:List Stmt) (f:Fl):Prop:=∀ c:ai W d sc,az c σ own (execs l c.env) f
noncomputable def gD:(l:List Stmt)→(σ:ao)→(own:Own)→Out (JX W d sc σ own l)
 | [],σ,own=>.ok (.next σ own) fun c=>.nil
 | st::l,σ,own=>bd (v.s sc σ own st) fun f hf=>(match f,hf with
  | .next σ' o,hf=>(match fL o with
   | ⟨o',e⟩=>bd (gD l σ' o') fun f h=>.ok f fun c=>.seq (hf c) (e▸h c))
  | .ret a o,hf=>.ok (.ret a o) fun c=>.F9 (hf c)
  | .exc a,hf=>.ok (.exc a) fun c=>.Ga (hf c))
noncomputable def zv (sc:Scope) (x:Str) (px:Pos) (e:Expr):Bool:=match e with
 | .ListComp _ _ s p=>nx sc x && (px.line == p.line) && !(s.names.any fun q=>sEq q.1 x && (q.2 == .local || q.2 == .cell))
 | _=>false
set_option tactic.hygienic true in
theorem JY (c:ai W d sc) {x:Str} {px pos:Pos} {e:Expr} (h:zv sc.sc x px e = true):swapsWith e (some (.Name x px)) pos.line c.env = pure true:=by
 cases e with
 | ListComp elt gens s p=>
  obtain ⟨h,h3⟩:=Bool.and_eq_true_iff.mp h
  obtain ⟨h1,h2⟩:=Bool.and_eq_true_iff.mp h
  have hk:=beq_iff_eq.mp ((yq c x).symm.trans h1)
  unfold swapsWith
  dsimp only
  have e1:(s.names.any fun x_1=>match x_1 with | (n,k)=>n == x && (k == .local || k == .cell)) = (s.names.any fun q=>sEq q.1 x && (q.2 == .local || q.2 == .cell)):=by
   congr 1; funext q; obtain ⟨n,k⟩:=q; rw [eA]
  rw [e1,h3,hk,show (px.line == (Expr.ListComp elt gens s p).pos.line) = true from h2]
  have hb:(c.env.blockKind == ScopeKind.function) = true:=by unfold Env.blockKind; rw [c.K.kind]; rfl
  rw [hb]; rfl
 | _=>exact (Bool.false_ne_true h).elim
noncomputable def oy (e:Expr):Out fun _:Unit=>j8 e:=aF (Nat.ble 8 e.ctorIdx && Nat.ble e.ctorIdx 10) (fun _=>.no 50) fun h=>.ok () ((cS e).swap h)
noncomputable def sd (x:Str) (p:Pos) (e:Expr) (pos:Pos):Out (SP W d sc σ own (.Assign [.Name x p] e pos)):=aF (zv sc.sc x p e) (fun h=>bd (zp v sc σ own e) fun r hr=>(match j9 sc x (.loc r.1) σ with
  | some ⟨σ',hb⟩=>.ok (.next σ' r.2) fun c=>hr.s c x p pos σ' (JY sc c h) hb
  | none=>.no 51)) fun _=>bd (oy e) fun _ hs=>bd (v.e sc σ own e) fun a ha=>(match j9 sc x a.1 σ with
  | some ⟨σ',hb⟩=>.ok (.next σ' a.2) fun c=>.assign hs (ha c) hb
  | none=>.no 52)
noncomputable def JZ (ts:List Expr) (k:Nat) (tp:Pos) (e:Expr) (pos:Pos):Out (SP W d sc σ own (.Assign [.Tuple ts k tp] e pos)):=match e with
 | .Tuple vs k2 p2=>de (nz sc.sc ts vs) (fun r hr=>match r,hr with
  | none,hr=>bd (v.e sc σ own (.Tuple vs k2 p2)) fun a ha=>(match a,ha with
   | (.tup as,o),ha=>(match nk sc (.Tuple ts k tp) (.tup as) σ with
    | some ⟨σ',hb⟩=>.ok (.next σ' o) fun c=>.tup rfl (yt c hr) (ha c) hb
    | none=>.no 53)
   | _,_=>.no 54)
  | some ns,hr=>bd (v.e sc σ own (.Tuple vs k2 p2)) fun a ha=>(match a,ha with
   | (.tup as,o),ha=>ar (Nat.beq ns.length as.length) 55 fun hn=>(match yv sc ns.reverse as.reverse σ with
    | some ⟨σ',hb⟩=>.ok (.next σ' o) fun c=>.swap hr hn (ha c) hb
    | none=>.no 56)
   | _,_=>.no 57)) fun _=>.no 58
 | .Call f as ks p=>bd (v.e sc σ own (.Call f as ks p)) fun a ha=>(match a,ha with
   | (.tup as,o),ha=>(match nk sc (.Tuple ts k tp) (.tup as) σ with
    | some ⟨σ',hb⟩=>.ok (.next σ' o) fun c=>.tup rfl rfl (ha c) hb
    | none=>.no 59)
   | _,_=>.no 60)
 | _=>.no 61
noncomputable def J0 (x:Expr) (y:Str) (ap:Pos) (e:Expr) (pos:Pos):Out (SP W d sc σ own (.Assign [.Attribute x y ap] e pos)):=bd (oy e) fun _ hs=>bd (v.e sc σ own e) fun a ha=>bd (v.e sc σ a.2 x) fun b hb=>(match b,hb with
 | (.loc n,o),hb=>(match qi o n with
  | some ⟨(C,m,fs),h,h'⟩=>(match g9 C d9 with
   | some ⟨ns,hm⟩=>ar (ns.any (sEq y)) 62 fun hn=>ar (Nat.blt fs.length 100) 63 fun hz=>.ok (.next σ (o.set m (.fld (kD y a.1 fs)))) fun c=>.setAttr hs (ha c) (hb c) h h' hm hn hz
   | none=>.no 64)
  | none=>.no 65)
 | _,_=>.no 66)
noncomputable def J1 (own:Own) (n:Nat) (b a:AV):Out (kF W own n b a):=match b with
 | .int e=>(match jb own n with
  | some ⟨l,h⟩=>bd (eW hG e) fun i hi=>ar (aG (br 0 i) (aG (Nat.blt i.toNat l.length) (Nat.ble l.length 10000))) 90 fun q=>.ok (own.set n (.lst (l.set i.toNat a))) (Hi h hi (dy (aB q).1) (Nat.blt_eq.mp (aB (aB q).2).1) (aB (aB q).2).2)
  | none=>.no 91)
 | .str y=>(match rZ own n with
  | some ⟨l,hp⟩=>ar (Nat.ble l.length 10000) 92 fun hz=>.ok (own.set n (.dicS (dput y a l))) (Hl hp hz)
  | none=>.no 93)
 | .tup as=>bd (nW hG as) fun ks hk=>(match r6 own n with
  | some ⟨l,h⟩=>ar (fO ks l).isNone 92 fun hn=>ar (Nat.ble l.length 10000) 92 fun hz=>.ok (own.set n (.dicT (l ++ [(ks,a)]))) (HX h hk hn hz)
  | none=>.no 93)
 | _=>.no 94
noncomputable def J2 (x k:Expr) (p2:Pos) (e:Expr) (pos:Pos):Out (SP W d sc σ own (.Assign [.Subscript x k p2] e pos)):=bd (oy e) fun _ hs=>bd (v.e sc σ own e) fun a ha=>bd (v.e sc σ a.2 x) fun b hb=>(match b,hb with
 | (.loc n,o),hb=>bd (v.e sc σ o k) fun q hq=>bd (J1 hG q.2 n q.1 a.1) fun r hr=>.ok (.next σ r) fun c=>.Hh hs (ha c) (hb c) (hq c) hr
 | _,_=>.no 95)
noncomputable def J3 (t:Expr) (n:Nat) (vs:List AV):Out (nK W t n vs):=match t,n,vs with
 | .Tuple ts k p,12,[a]=>bG (gp a) 67 fun r hr=>.ok (i5 0 r.2) (yy hr)
 | .Tuple ts k p,11,[a,b]=>bG (gp a) 68 fun r hr=>bG (gp b) 69 fun q hq=>aF (r.1 == q.1) (fun h=>.ok (nJ r.2 q.2) (G5 hr (by rw [hq,beq_iff_eq.mp h]))) fun _=>.no 70
 | _,_,_=>.no 71
noncomputable def zw (body:List Stmt) (t:Expr) (as:List AV) (σ:ao) (own:Own):Out fun f:Fl=>∀ c:ai W d sc,cI c t (fun it=>.forLoop t it body [] c.env) σ own as f:=bd (kq (W:=W) (d:=d) (sc:=sc) (K:=fun _=>True) (t:=t) (code:=fun c it=>.forLoop t it body [] c.env) (T:=fun c Q E s=>aw W c.A (execs body c.env) Q E s) (fun c=>q7) (fun σ own=>bd (gD v sc body σ own) fun f h=>.ok f fun c _=>.body h) as σ own) fun f h=>.ok f fun c=>h c trivial
noncomputable def J4 (W:ab) (it:Expr):Bool:=match it with
 | .Call (.Name f _) _ [] _=>(match xE W f with
  | some ⟨.blt n,_⟩=>Nat.beq n 11 || Nat.beq n 12
  | _=>false)
 | _=>false
noncomputable def J5 (t it:Expr) (body:List Stmt) (pos:Pos):Out (SP W d sc σ own (.For t it body [] pos)):=match J4 W it,it with
 | true,.Call (.Name f fp) xs [] cp=>ar (noStar xs) 72 fun ha=>bd (eName (W:=W) sc σ own f fp) fun fv hf=>(match fv,hf with
  | .blt n,hf=>bd (e7 v sc σ true cp xs own) fun vs hl=>bd (J3 (W:=W) t n vs.1) fun els M=>bd (zw v sc body t els σ vs.2) fun f L=>.ok f fun c=>.yz (ig ha) (hf c) (hl c) M (L c)
  | _,_=>.no 73)
 | _,it=>aF (Nat.beq it.ctorIdx 7) (fun _=>.no 74) fun hf=>bd (eS v sc σ own it) fun a ha=>bG (elems a.1) 75 fun as has=>bd (zw v sc body t as σ a.2) fun f L=>.ok f fun c=>.Gx ((cS it).fold hf) (ha c) has (L c)
theorem az.J6 {W:ab} {d:Nat} {sc:Fs} {σ σ':ao} {own own1:Own} {c:ai W d sc} {b:List Stmt} {h₀:ExceptHandler} {hs:List ExceptHandler} {pos:Pos} (h:az c σ own (execs b c.env) (.next σ' own1)):az c σ own (exec (.Try b (h₀::hs) [] [] pos) c.env) (.next σ' own1):=fun s ad Q E S T=>
 wpAny_Try_except (h s ad _ _ S fun h' tk ad' S'=>wpAny_execs_nil (T h' tk ad' S'))
theorem az.J7 {W:ab} {d:Nat} {sc:Fs} {σ:ao} {own own1:Own} {c:ai W d sc} {b:List Stmt} {h₀:ExceptHandler} {hs:List ExceptHandler} {pos:Pos} {a:AV} (h:az c σ own (execs b c.env) (.ret a own1)):az c σ own (exec (.Try b (h₀::hs) [] [] pos) c.env) (.ret a own1):=fun s ad Q E S T=>
 wpAny_Try_except (h s ad _ _ S T)
noncomputable def J8 (b:List Stmt) (h₀:ExceptHandler) (hs:List ExceptHandler) (pos:Pos):Out (SP W d sc σ own (.Try b (h₀::hs) [] [] pos)):=bd (gD v sc b σ own) fun f hf=>(match f,hf with
 | .next σ' o,hf=>.ok (.next σ' o) fun c=>(hf c).J6
 | .ret a o,hf=>.ok (.ret a o) fun c=>(hf c).J7
 | .exc _,_=>.no 100)
inductive VS:Stmt→Type
 | expr (e p):VS (.Expr e p)
 | asg (y p e pos):VS (.Assign [.Name y p] e pos)
 | asgT (ts k tp e pos):VS (.Assign [.Tuple ts k tp] e pos)
 | asgA (y z ap e pos):VS (.Assign [.Attribute y z ap] e pos)
 | asgS (y k p2 e pos):VS (.Assign [.Subscript y k p2] e pos)
 | ret (e pos):VS (.Return (some e) pos)
 | ret0 (pos):VS (.Return none pos)
 | ite (t b e pos):VS (.If t b e pos)
 | loop (t it body pos):VS (.For t it body [] pos)
 | pass (pos):VS (.Pass pos)
 | raise (e pos):VS (.Raise (some e) none pos)
 | try_ (b h hs pos):VS (.Try b (h::hs) [] [] pos)
 | other (x):VS x
noncomputable def se (x:Stmt):VS x:=match x with
 | .Expr e p=>.expr e p
 | .Assign [.Name y p] e pos=>.asg y p e pos
 | .Assign [.Tuple ts k tp] e pos=>.asgT ts k tp e pos
 | .Assign [.Attribute y z ap] e pos=>.asgA y z ap e pos
 | .Assign [.Subscript y k p2] e pos=>.asgS y k p2 e pos
 | .Return (some e) pos=>.ret e pos
 | .Return none pos=>.ret0 pos
 | .If t b e pos=>.ite t b e pos
 | .For t it body [] pos=>.loop t it body pos
 | .Pass pos=>.pass pos
 | .Raise (some e) none pos=>.raise e pos
 | .Try b (h::hs) [] [] pos=>.try_ b h hs pos
 | x=>.other x
noncomputable def oz {α:Type} {P:α→Prop} (x y:Out P):Out P:=Out.rec (motive:=fun _=>Out P) (fun a h=>.ok a h) (fun B=>.ask B) (fun _=>y) x
noncomputable def J9 (y:Str) (p:Pos) (f:Str) (fp:Pos) (es:List Expr) (cp pos:Pos):Out (SP W d sc σ own (.Assign [.Name y p] (.Call (.Name f fp) es [] cp) pos)):=ar (noStar es) 101 fun ha=>bd (eName (W:=W) sc σ own f fp) fun fv hf=>(match fv,hf with
 | .con (.ref a),hf=>bd (e7 v sc σ true cp es own) fun vs hl=>ar (ba vs.1) 101 fun na=>bd (H.rs a vs.1) fun x hx=>.ok (.exc x) fun c=>.rY (hf c) (ig ha) (hl c) na hx
 | _,_=>.no 101)
noncomputable def Ka (y:Str) (p:Pos) (e:Expr) (pos:Pos):Out (SP W d sc σ own (.Assign [.Name y p] e pos)):=oj (M:=fun e=>Out (SP W d sc σ own (.Assign [.Name y p] e pos))) e (fun f es cp=>byName (M:=fun f=>Out (SP W d sc σ own (.Assign [.Name y p] (.Call f es [] cp) pos))) f (fun f fp=>oz (sd v sc σ own y p (.Call (.Name f fp) es [] cp) pos) (J9 H v sc σ own y p f fp es cp pos)) fun f=>sd v sc σ own y p (.Call f es [] cp) pos) fun e=>sd v sc σ own y p e pos
noncomputable def Kb (np:Pos) (k:Const) (cl:Nat) (kp cp pos:Pos):Out (SP W d sc σ own (.Raise (some (.Call (.Name bP np) [.Constant k cl kp] [] cp)) none pos)):=ar (Nat.ble 3 d) 102 fun hd=>aF (cX sc.sc bP .globalImplicit) (fun hk=>(match wV k with
 | some ⟨a,h⟩=>.ok (.exc 71) fun c=>.IY (Nat.le_of_ble_eq_true hd) (by rw [cQ]; exact nT hk) (h W c σ own cl kp)
 | none=>.no 102)) fun _=>.no 102
noncomputable def Kc (e:Expr) (pos:Pos):Out (SP W d sc σ own (.Raise (some e) none pos)):=oj (M:=fun e=>Out (SP W d sc σ own (.Raise (some e) none pos))) e (fun f es cp=>byName (M:=fun f=>Out (SP W d sc σ own (.Raise (some (.Call f es [] cp)) none pos))) f (fun f np=>(match es with
 | [a]=>aF (sEq f bP) (fun q=>zt (M:=fun a=>Out (SP W d sc σ own (.Raise (some (.Call (.Name f np) [a] [] cp)) none pos))) a (fun k cl kp=>lf (fun r h=>sEq_iff.mp q▸h) (Kb (W:=W) (d:=d) sc σ own np k cl kp cp pos)) fun _=>.no 102) fun _=>.no 102
 | _=>.no 102)) fun _=>.no 102) fun _=>.no 102
noncomputable def Ke (e:Expr) (pos:Pos):Out (SP W d sc σ own (.Expr e pos)):=bd (oy e) fun _ hs=>bd (v.e sc σ own e) fun a ha=>.ok (.next σ a.2) fun c=>.expr hs (ha c)
noncomputable def Kf (e:Expr) (pos:Pos):Out (SP W d sc σ own (.Return (some e) pos)):=bd (v.e sc σ own e) fun a ha=>.ok (.ret a.1 a.2) fun c=>.ret (ha c)
noncomputable def si (t:Expr) (b e:List Stmt) (pos:Pos):Out (SP W d sc σ own (.If t b e pos)):=bd (v.t sc σ own t) fun x hx=>bd (gD v sc (if x.1 = true then b else e) σ x.2) fun f hf=>.ok f fun c=>.ite (hx c) (hf c)
noncomputable def Kg (t:Expr) (b:List Stmt) (pos:Pos):Out (SP W d sc σ own (.If t b [] pos)):=JQ (M:=fun t=>Out (SP W d sc σ own (.If t b [] pos))) t (fun op x up=>(match op with
 | .Not=>oj (M:=fun x=>Out (SP W d sc σ own (.If (.UnaryOp .Not x up) b [] pos))) x (fun f es cp=>byName (M:=fun f=>Out (SP W d sc σ own (.If (.UnaryOp .Not (.Call f es [] cp) up) b [] pos))) f (fun f fp=>ar (noStar es) 110 fun ha=>ar sc.fn 110 fun hfn=>ar (d7 sc.sc) 110 fun ht=>bd (eName (W:=W) sc σ own f fp) fun fv hf=>(match fv,hf with
  | .con (.ref a),hf=>ar (Nat.beq a 1289) 110 fun _=>bd (e7 v sc σ true cp es own) fun vs hl=>ar (ba vs.1) 110 fun na=>bd (H.rf a vs.1) fun r hr=>(match r,hr with
   | .bool true,hr=>.ok (.next σ vs.2) fun c=>.I9 hfn ht (hf c) (ig ha) (hl c) na hr
   | _,_=>.no 110)
  | _,_=>.no 110)) fun _=>.no 110) fun _=>.no 110
 | _=>.no 110)) fun _=>.no 110
noncomputable def Kh (t:Expr) (b e:List Stmt) (pos:Pos):Out (SP W d sc σ own (.If t b e pos)):=cond (aG sc.fn (d7 sc.sc)) (match e with
 | []=>oz (Kg H v sc σ own t b pos) (si v sc σ own t b [] pos)
 | e=>si v sc σ own t b e pos) (si v sc σ own t b e pos)
noncomputable def Ki (x:Stmt):Out (SP W d sc σ own x):=VS.casesOn (motive:=fun x _=>Out (SP W d sc σ own x)) (se x)
 (Ke v sc σ own) (Ka H v sc σ own) (JZ v sc σ own) (J0 v sc σ own) (J2 hG v sc σ own) (Kf v sc σ own) (fun _=>.ok (.ret .none own) fun c=>.Gd) (Kh H v sc σ own) (J5 v sc σ own) (fun _=>.ok (.next σ own) fun c=>.pass) (Kc sc σ own) (J8 v sc σ own) (fun _=>.no 76)
noncomputable def EV (n:Nat):Ev W d:=Nat.rec ⟨fun _ _ _ _=>.no 77,fun _ _ _ _=>.no 78,fun _ _ _ _=>.no 79⟩ (fun _ v=>⟨JR hG H v,stepT hG v,Ki hG H v⟩) n
theorem bU.tells {n:Nat} {as:List AV} {r:AV} (h:bU W n as r):gV W d own (.blt n) as r own:=fun V u q=>by
 obtain rfl:u = dC n:=q
 exact ⟨qR n,fun A a U ad s vs Q E B O rl F=>h A _ ad s vs Q E a.handled (B.more O) rl (F.got O rfl)⟩
noncomputable def zx {e:FE} (m:e∈FT) (as:List AV):Out fun r:AV×Own=>kh W (d + 1) e.a own as r.1 r.2:=ar (!d7 e.F.scope) 80 fun ht=>ar (e.ks.any (Nat.beq as.length)) 80 fun hk=>bd (gD v ⟨e.F.scope,true⟩ e.F.body (e.F.fill as) own) fun f hf=>(match f,hf with
 | .ret a o,hf=>.ok (a,o) (x7 (hO m) ((Bool.not_eq_true' _).mp ht) hk fun c=>.inl (hf c))
 | .next σ o,hf=>.ok (.none,o) (x7 (hO m) ((Bool.not_eq_true' _).mp ht) hk fun c=>.inr ⟨σ,hf c,rfl⟩)
 | _,_=>.no 81)
theorem Tells.hV {f:Value} {as:List AV} {r b:AV} {own1 own2:Own} (t:Tells W d f own as r own1) (z:aT own1 r own2 b):Tells W d f own as b own2:=⟨t.1,fun A a U ad s vs Q E B O rl F=>t.2 A a U ad s vs Q E B O rl fun v h' tk ad' k r=>let ⟨k2,r2⟩:=z k.owns; F v h' tk ad' (k.trans k2) (r2 v r)⟩
noncomputable def zy (n:Nat) (as:List AV):Out fun r:AV×Own=>gV W d own (.blt n) as r.1 r.2:=match n,as with
 | 7,[a]=>(match FA (W:=W) d own a with
  | some ⟨l,h⟩=>.ok (.loc own.length,own ++ [.lst l]) fun V u q=>by obtain rfl:u = dC 7:=q; exact h (qR 7)
  | none=>.no 82)
 | 6,[.lst as]=>bd (yP hG as as) fun l hr=>.ok (.lst l,own) (bU.tells own (HS hr))
 | 6,[.dicI l]=>ar (Nat.blt l.length 64) 98 fun hl=>.ok (.lst (rM (sortI (l.map (·.1)))),own) (bU.tells own (H5 hl))
 | 10,[.inst C fs,.con (.ref D)]=>aF (Nat.beq C D) (fun e=>.ok (.bool true,own) (Nat.eq_of_beq_eq_true e▸bU.tells own F4)) fun _=>.no 98
 | n,as=>bd (FO hG n as) fun r hr=>.ok (r,own) (bU.tells own hr)
noncomputable def joinR {d:Nat} {f:Value} {as:List AV} {r:AV} {own1:Own} (T:Tells W d f [] as r own1) (ha:ba as = true):Out fun x:AV×Own=>Tells W d f own as x.1 x.2:=match y5 own1 (fP own.length own1 (fQ own1 0)) (fQ own1 0),i7 (fP own.length own1 (fQ own1 0)) r with
 | some ⟨own2,P⟩,some ⟨b,hb⟩=>.ok (b,own ++ own2) (T.join ha (rU _ _) P hb)
 | _,_=>.no 170
noncomputable def fnIn {e:FE} (m:e∈FT) (as:List AV):Out fun r:AV×Own=>Tells W (d + 1) (.ref e.a) own as r.1 r.2:=bd (zx v own m as) fun r hr=>.ok r (hr.tells (hO m))
noncomputable def maker (a:Addr):Bool:=[1132,1125,1139,1023,1030,1037].any (Nat.beq a)
noncomputable def kK (own:Own) (a:AV):{ r:AV×Own // aT own a r.2 r.1 }:=match nl a with
 | true=>⟨(a,own),aT.refl⟩
 | false=>(match Ig own a with
  | some r=>r
  | none=>⟨(a,own),aT.refl⟩)
noncomputable def Kj {e:FE} (m:e∈FT) (as:List AV) (ha:ba as = true):Out fun r:AV×Own=>Tells W (d + 1) (.ref e.a) own as r.1 r.2:=bd (fnIn v [] m as) fun r hr=>cond (maker e.a) (joinR own hr ha) (match kK r.2 r.1 with
 | ⟨q,z⟩=>aF (nl q.1) (fun hq=>.ok (q.1,own) ((hr.hV [] z).lift ha hq)) fun _=>joinR own hr ha)
noncomputable def Kk {e:FE} (m:e∈FT) (as:List AV):Out fun r:AV×Own=>Tells W (d + 1) (.ref e.a) own as r.1 r.2:=aF (ba as) (fun ha=>Kj v own m as ha) fun _=>fnIn v own m as
noncomputable def sj {C:Addr} {e:FE} (m:e∈FT) (hC:(C,e.a)∈gq) (as:List AV):Out fun r:AV×Own=>Tells W (d + 4) (.ref C) own as r.1 r.2:=bd (zx v (own ++ [.fld []] ++ [.obj C own.length]) m (.loc (own.length + 1)::as)) fun r hr=>(match r,hr with
 | (.none,o),hr=>.ok (.loc (own.length + 1),o) (He hC hr)
 | _,_=>.no 83)
noncomputable def zA {C:Addr} {e:FE} (m:e∈FT) (hC:(C,e.a)∈gq) (as:List AV):Out fun r:AV×Own=>Tells W (d + 4) (.ref C) own as r.1 r.2:=bd (sj v own m hC as) fun r hr=>(match settle r.2 r.1 with
 | ⟨q,z⟩=>.ok q (hr.hV own z))
noncomputable def Kl {C:Addr} {e:FE} (m:e∈FT) (hC:(C,e.a)∈gq) (as:List AV) (ha:ba as = true):Out fun r:AV×Own=>Tells W (d + 4) (.ref C) own as r.1 r.2:=bd (zA v [] m hC as) fun r hr=>ar (nl r.1) 97 fun hq=>.ok (r.1,own) (hr.lift ha hq)
noncomputable def Km {C:Addr} {e:FE} (m:e∈FT) (hC:(C,e.a)∈gq) (as:List AV):Out fun r:AV×Own=>Tells W (d + 4) (.ref C) own as r.1 r.2:=cond (Nat.beq C 264 || Nat.beq C 1113) (aF (ba as) (fun ha=>bd (sj v [] m hC as) fun r hr=>joinR own hr ha) fun _=>sj v own m hC as) (aF (ba as) (Kl v own m hC as) fun _=>zA v own m hC as)
noncomputable def zB (a:Addr) (as:List AV):Out fun r:AV×Own=>Tells W (d + 5) (.ref a) own as r.1 r.2:=match kl a FT with
 | some ⟨e,m,h⟩=>bd (Kk v own m as) fun r hr=>.ok r (h▸hr.up (by lia))
 | none=>(match g9 a gq with
  | some ⟨fI,hC⟩=>(match kl fI FT with
   | some ⟨e,m,h⟩=>bd (Km v own m (h▸hC) as) fun r hr=>.ok r (hr.up (by lia))
   | none=>.no 84)
  | none=>.no 85)
noncomputable def sk (f:AV) (as:List AV):Out fun r:AV×Own=>gV W (d + 5) own f as r.1 r.2:=match f with
 | .blt n=>zy hG own n as
 | .con (.ref a)=>bd (zB v own a as) fun r hr=>.ok r fun V u q=>by
   obtain rfl:u = .ref a:=q
   exact hr
 | _=>.no 86
noncomputable def Kn (lsc:Scope) (y:Str) (body:Expr) (a:AV):Out (rH W (d + 5) lsc y body a):=ar (nl a) 99 fun na=>bd (v.e ⟨lsc,false⟩ [(y,a)] [] body) fun r hr=>ar (nl r.1) 99 fun nr=>.ok r.1 fun A hb f params aa hp hs F=>HQ (A:=A.in1.in1) ⟨aa.handled,by have:=aa.depth; show A.depth + (d + 1)≤900; lia,by have:=aa.units; show A.units + 1 + 1 + 3 * (d + 1)≤9000; lia⟩ hp hs F na nr hr
noncomputable def Ko (f:AV):Bool:=match f with
 | .blt _=>true
 | _=>false
noncomputable def fnX {e:FE} (m:e∈FT) (as:List AV):Out fun x:Addr=>e6 W (d + 1) (.ref e.a) as x:=ar (!d7 e.F.scope) 103 fun ht=>ar (e.ks.any (Nat.beq as.length)) 103 fun hk=>ar (ba as) 103 fun na=>bd (gD v ⟨e.F.scope,true⟩ e.F.body (e.F.fill as) []) fun f hf=>(match f,hf with
 | .exc x,hf=>.ok x (I2 (hO m) ((Bool.not_eq_true' _).mp ht) hk na hf)
 | _,_=>.no 103)
noncomputable def Kp (a:Addr) (as:List AV):Out fun x:Addr=>e6 W (d + 5) (.ref a) as x:=ar (Nat.beq a 1016 || Nat.beq a 1009) 104 fun _=>(match kJ as with
 | ⟨bs,e⟩=>lf (fun x h=>e▸h) (match kl a FT with
  | some ⟨e,m,h⟩=>bd (fnX v m bs) fun x hx=>.ok x (h▸hx.up (by lia))
  | none=>.no 104))
theorem TellsF.up {d d':Nat} {f:Value} {as:List AV} {r:AV} (t:TellsF W d f as r) (h:d≤d'):TellsF W d' f as r:=⟨t.keep,fun A a=>t.run A (a.up h)⟩
noncomputable abbrev XT (W:ab):=(own:Own)→(a:Addr)→(as:List AV)→Option { r:AV×Nat // Tells W r.2 (.ref a) own as r.1 own }
noncomputable abbrev so (W:ab):=(a:Addr)→(as:List AV)→Option { r:AV×Nat // TellsF W r.2 (.ref a) as r.1 }
structure kL (W:ab) where
 x:XT W
 s:Addr→Bool
 f:so W
noncomputable def Kq (X:XT W) (f:AV) (as:List AV):Out fun r:AV×Own=>gV W (d + 5) own f as r.1 r.2:=match f with
 | .con (.ref a)=>(match X own a as with
  | some ⟨r,h⟩=>aF (Nat.ble r.2 (d + 5)) (fun hd=>.ok (r.1,own) fun V u q=>by
    obtain rfl:u = .ref a:=q
    exact h.up (Nat.le_of_ble_eq_true hd)) fun _=>sk hG v own (.con (.ref a)) as
  | none=>sk hG v own (.con (.ref a)) as)
 | f=>sk hG v own f as
noncomputable def rY (X:XT W) (f:AV) (as:List AV):Out fun r:AV×Own=>gV W (d + 5) own f as r.1 r.2:=match kJ as with
 | ⟨bs,e⟩=>lf (fun r h=>e▸h) (Kq hG v own X f bs)
noncomputable def Kr (sX:Addr→Bool) (f:AV):Bool:=match f with
 | .blt _=>true
 | .con (.ref a)=>sX a
 | _=>false
noncomputable def Ks (Y:so W) (d:Nat) (a:Addr) (as:List AV):Out fun r:AV=>TellsF W d (.ref a) as r:=match Y a as with
 | some ⟨r,h⟩=>aF (Nat.ble r.2 d) (fun q=>.ok r.1 (h.up (Nat.le_of_ble_eq_true q))) fun _=>.no 105
 | none=>.no 105
noncomputable def HK (T:kL W) (n:Nat) (k:Nat):Hd W (5 * k):=Nat.rec (motive:=fun k=>Hd W (5 * k)) ⟨Ko,fun own f as=>match f with
 | .blt m=>zy hG own m as
 | _=>.no 87,fun _ _ _ _=>.no 87,fun _ _=>.no 87,fun _ _=>.no 87⟩ (fun k h=>⟨Kr T.s,fun own f as=>rY hG (EV hG h n) own T.x f as,fun lsc y body a=>Kn (EV hG h n) lsc y body a,fun a as=>Kp (EV hG h n) a as,fun a as=>Ks T.f (5 * k + 5) a as⟩) k
noncomputable def Kt:XT W:=fun _ _ _=>none
noncomputable def Ku:kL W:=⟨Kt,fun _=>false,fun _ _=>none⟩
noncomputable def Kw {M:Stmt→Type} (st:Stmt) (k:(b:List Stmt)→(h:ExceptHandler)→(hs:List ExceptHandler)→(pos:Pos)→M (.Try b (h::hs) [] [] pos)) (z:(x:Stmt)→M x):M st:=VS.casesOn (motive:=fun x _=>M x) (se st) (fun _ _=>z _) (fun _ _ _ _=>z _) (fun _ _ _ _ _=>z _) (fun _ _ _ _ _=>z _) (fun _ _ _ _ _=>z _) (fun _ _=>z _) (fun _=>z _) (fun _ _ _ _=>z _) (fun _ _ _ _=>z _) (fun _=>z _) (fun _ _=>z _) k (fun _=>z _)
noncomputable def zC {M:Stmt→Type} (st:Stmt) (k:(y:Str)→(p:Pos)→(e:Expr)→(pos:Pos)→M (.Assign [.Name y p] e pos)) (z:(x:Stmt)→M x):M st:=VS.casesOn (motive:=fun x _=>M x) (se st) (fun _ _=>z _) k (fun _ _ _ _ _=>z _) (fun _ _ _ _ _=>z _) (fun _ _ _ _ _=>z _) (fun _ _=>z _) (fun _=>z _) (fun _ _ _ _=>z _) (fun _ _ _ _=>z _) (fun _=>z _) (fun _ _=>z _) (fun _ _ _ _=>z _) (fun _=>z _)
noncomputable abbrev e8 (W:ab) (d:Nat) (sc:Fs) (σ:ao) (own:Own) (l:List Stmt) (r:AV):Prop:=∀ c:ai W d sc,SF c σ own (execs l c.env) r
noncomputable def Kx (y:Str) (py py2 fp cp pos1 pos2 np kp hpos pos:Pos) (cl:Nat) (f:Str) (es:List Expr) (hs:List ExceptHandler) (rest:List Stmt):Out (e8 W d sc σ own (.Try [.Assign [.Name y py] (.Call (.Name f fp) es [] cp) pos1] (.ExceptHandler (some (.Name bP np)) none [.Assign [.Name y py2] (.Constant .none cl kp) pos2] hpos::hs) [] [] pos::rest)):=ar (noStar es) 106 fun ha=>ar (cX sc.sc bP .globalImplicit) 106 fun hk=>ar (cX sc.sc y .local) 106 fun hy=>bd (eName (W:=W) sc σ own f fp) fun fv hf=>(match fv,hf with
 | .con (.ref a),hf=>bd (e7 v sc σ true cp es own) fun vs hl=>ar (ba vs.1) 106 fun na=>bd (H.rs a vs.1) fun x hx=>ar (Nat.beq x 71) 106 fun hx1=>bd (gD v sc rest ((y,.none)::del y σ) (own.map fun _=>.gone)) fun g hg=>(match g,hg with
  | .ret r o,hg=>ar (nl r) 106 fun nr=>.ok r fun c=>.I7 (hf c) (ig ha) (hl c) na (Nat.eq_of_beq_eq_true hx1▸hx) (by rw [cQ]; exact nT hk) hy nr hg
  | _,_=>.no 106)
 | _,_=>.no 106)
noncomputable def Ky (st:Stmt) (rest:List Stmt):Out (e8 W d sc σ own (st::rest)):=Kw (M:=fun st=>Out (e8 W d sc σ own (st::rest))) st (fun b h hs pos=>(match b,h with
 | [s1],.ExceptHandler (some t) none [s2] hpos=>zC (M:=fun s1=>Out (e8 W d sc σ own (.Try [s1] (.ExceptHandler (some t) none [s2] hpos::hs) [] [] pos::rest))) s1 (fun y py e pos1=>oj (M:=fun e=>Out (e8 W d sc σ own (.Try [.Assign [.Name y py] e pos1] (.ExceptHandler (some t) none [s2] hpos::hs) [] [] pos::rest))) e (fun f es cp=>byName (M:=fun f=>Out (e8 W d sc σ own (.Try [.Assign [.Name y py] (.Call f es [] cp) pos1] (.ExceptHandler (some t) none [s2] hpos::hs) [] [] pos::rest))) f (fun f fp=>byName (M:=fun t=>Out (e8 W d sc σ own (.Try [.Assign [.Name y py] (.Call (.Name f fp) es [] cp) pos1] (.ExceptHandler (some t) none [s2] hpos::hs) [] [] pos::rest))) t (fun q np=>zC (M:=fun s2=>Out (e8 W d sc σ own (.Try [.Assign [.Name y py] (.Call (.Name f fp) es [] cp) pos1] (.ExceptHandler (some (.Name q np)) none [s2] hpos::hs) [] [] pos::rest))) s2 (fun y2 py2 e2 pos2=>zt (M:=fun e2=>Out (e8 W d sc σ own (.Try [.Assign [.Name y py] (.Call (.Name f fp) es [] cp) pos1] (.ExceptHandler (some (.Name q np)) none [.Assign [.Name y2 py2] e2 pos2] hpos::hs) [] [] pos::rest))) e2 (fun k cl kp=>(match k with
  | .none=>aF (sEq q bP) (fun hq=>aF (sEq y2 y) (fun hy=>lf (fun r h=>by rw [sEq_iff.mp hq,sEq_iff.mp hy]; exact h) (Kx H v sc σ own y py py2 fp cp pos1 pos2 np kp hpos pos cl f es hs rest)) fun _=>.no 107) fun _=>.no 107
  | _=>.no 107)) fun _=>.no 107) fun _=>.no 107) fun _=>.no 107) fun _=>.no 107) fun _=>.no 107) fun _=>.no 107
 | _,_=>.no 107)) fun _=>.no 107
noncomputable def zD:(l:List Stmt)→(σ:ao)→(own:Own)→Out (e8 W d sc σ own l)
 | [],_,_=>.no 108
 | st::l,σ,own=>oz (Ky H v sc σ own st l) (bd (v.s sc σ own st) fun f hf=>(match f,hf with
  | .next σ' o,hf=>bd (zD l σ' o) fun r hr=>.ok r fun c=>.seq (hf c) (hr c)
  | _,_=>.no 108))
noncomputable def Kz {e:FE} (m:e∈FT) (as:List AV):Out fun r:AV=>TellsF W (d + 1) (.ref e.a) as r:=ar (!d7 e.F.scope) 109 fun ht=>ar (e.ks.any (Nat.beq as.length)) 109 fun hk=>ar (ba as) 109 fun na=>bd (zD H v ⟨e.F.scope,true⟩ e.F.body (e.F.fill as) []) fun r hr=>.ok r (I3 (hO m) ((Bool.not_eq_true' _).mp ht) hk na hr)
noncomputable def KA (a:Addr) (as:List AV):Out fun r:AV=>TellsF W (d + 5) (.ref a) as r:=match kl a FT with
 | some ⟨e,m,h⟩=>bd (Kz H v m as) fun x hx=>.ok x (h▸hx.up (by lia))
 | none=>.no 109
end
noncomputable abbrev Th:=Nat→SE
noncomputable def bp (θ:Th):SE→SE
 | .lit i=>.lit i
 | .var n=>θ n
 | .add a b=>.add (bp θ a) (bp θ b)
 | .mul k a=>.mul k (bp θ a)
 | .div a k=>.div (bp θ a) k
 | .mod a k=>.mod (bp θ a) k
 | .bit k a=>.bit k (bp θ a)
 | .tab l a=>.tab l (bp θ a)
 | .abs a=>.abs (bp θ a)
theorem ij (ρ:Nat→Int) (θ:Th) (e:SE):(bp θ e).val ρ = e.val fun n=>(θ n).val ρ:=by
 induction e with
 | lit | var=>rfl
 | add a b h k=>show (bp θ a).val ρ + (bp θ b).val ρ = _; rw [h,k]; rfl
 | mul k a h=>show k * (bp θ a).val ρ = _; rw [h]; rfl
 | div a k h=>show (bp θ a).val ρ / k = _; rw [h]; rfl
 | mod a k h=>show (bp θ a).val ρ % k = _; rw [h]; rfl
 | bit k a h=>show (if cO k ((bp θ a).val ρ) = true then 1 else 0) = _; rw [h]; rfl
 | tab l a h=>show l.getD ((bp θ a).val ρ).toNat 0 = _; rw [h]; rfl
 | abs a h=>show (((bp θ a).val ρ).natAbs:Int) = _; rw [h]; rfl
noncomputable abbrev oA:={ a:AV //∀ (W:ab) V v,Rel W V v a→handedIn v = true }
noncomputable abbrev Hz:=Nat→oA
noncomputable def ik:Hz:=fun n=>⟨.hole n,fun W _ _ r=>W.ηp _ _ _ r⟩
noncomputable def ab.re (W:ab) (θ:Th) (ζ:Hz):ab:={ W with ρ:=fun n=>(θ n).val W.ρ,η:=fun n g v=>Rel W ⟨g,[]⟩ v (ζ n).1,ηm:=fun n g g' v s r=>Rel.mono (V:=⟨g,[]⟩) (V':=⟨g',[]⟩) ⟨s,fun _ _ h=>h⟩ r,ηp:=fun n g v r=>(ζ n).2 _ _ _ r }
section
noncomputable abbrev HB:=List (Nat×oA)
noncomputable def sq (n:Nat):HB→oA
 | []=>⟨.none,fun _ _ _ r=>r▸rfl⟩
 | (m,a)::l=>(match Nat.beq n m with
  | true=>a
  | false=>sq n l)
noncomputable def zE (l:HB):Hz:=fun n=>sq n l
noncomputable def bX (ζ:Hz) (l:HB):Prop:=∀ x∈l,ζ x.1 = x.2
theorem bX.l {ζ:Hz} {l m:HB} (h:bX ζ (l ++ m)):bX ζ l:=fun x q=>h x (List.mem_append.mpr (.inl q))
theorem bX.r {ζ:Hz} {l m:HB} (h:bX ζ (l ++ m)):bX ζ m:=fun x q=>h x (List.mem_append.mpr (.inr q))
noncomputable def once:(l:HB)→Option (PLift (bX (zE l) l))
 | []=>some ⟨nofun⟩
 | (n,a)::l=>(match once l with
  | some ⟨h⟩=>aF (l.any fun p=>Nat.beq p.1 n) (fun _=>none) fun hn=>some ⟨fun x m=>(by
   show (match Nat.beq x.1 n with | true=>a | false=>sq x.1 l) = x.2
   rcases List.mem_cons.mp m with e | m
   ·subst e; rw [Nat.beq_refl]
   ·cases q:Nat.beq x.1 n with
    | true=>rw [List.any_eq_true.mpr ⟨x,m,q⟩] at hn; exact fj hn
    | false=>exact h x m)⟩
  | none=>none)
noncomputable def oB (l:HB):Option (PLift (bX ik l)):=match l with
 | []=>some ⟨f9⟩
 | (n,⟨.hole m,_⟩)::l=>aF (Nat.beq n m) (fun e=>(match oB l with
  | some ⟨h⟩=>some ⟨fun x q=>(List.mem_cons.mp q).elim (fun z=>by rw [z]; exact Subtype.ext (congrArg AV.hole (Nat.eq_of_beq_eq_true e))) (h x)⟩
  | none=>none)) fun _=>none
 | _=>none
noncomputable def zF (n:Nat):(l:HB)→Option { a:oA // (n,a)∈l }
 | []=>none
 | (m,a)::l=>aF (Nat.beq n m) (fun e=>some ⟨a,Nat.eq_of_beq_eq_true e▸.head _⟩) fun _=>(match zF n l with
  | some ⟨b,h⟩=>some ⟨b,.tail _ h⟩
  | none=>none)
variable (W:ab) (θ:Th)
noncomputable def gE (e:SE):SE:=toS (bg e 1 (0,[])).1 (bg e 1 (0,[])).2
theorem sr (ρ:Nat→Int) (e:SE):(gE e).val ρ = e.val ρ:=by
 have:=fk (ρ:=ρ) e 1 (0,[])
 unfold gE
 rw [eM,this]
 show 0 + 0 + 1 * _ = _
 lia
noncomputable def gF (B:SB):SB:=⟨B.k,bp θ B.e,B.p⟩
theorem oC {ζ:Hz} (B:SB):(gF θ B).val W.ρ = B.val (W.re θ ζ).ρ:=by
 show (match B.p with | true=>cO B.k ((bp θ B.e).val W.ρ) | false=>!cO B.k ((bp θ B.e).val W.ρ)) = _
 rw [ij]; rfl
noncomputable def zG:(l:List SE)→{ m:List SE // vals W.ρ m = vals (fun n=>(θ n).val W.ρ) l }
 | []=>⟨[],rfl⟩
 | e::l=>(match zG l with
  | ⟨m,h⟩=>⟨gE (bp θ e)::m,by show (gE (bp θ e)).val W.ρ::vals W.ρ m = _; rw [sr,ij,h]; rfl⟩)
noncomputable def KC (ζ:Hz) (a b:AV):Prop:=∀ V v,Rel (W.re θ ζ) V v a→Rel W V v b
variable (hb:HB)
noncomputable def zH (a b:AV):Prop:=∀ ζ,bX ζ hb→KC W θ ζ a b
noncomputable def KD (a b:List AV):Prop:=∀ ζ,bX ζ hb→∀ V v,ah (W.re θ ζ) V v a→ah W V v b
noncomputable def KG (a b:List (Str×AV)):Prop:=∀ ζ,bX ζ hb→∀ V v,bF (W.re θ ζ) V v a→bF W V v b
noncomputable def KI (a b:List (Int×AV)):Prop:=∀ ζ,bX ζ hb→∀ V v,bO (W.re θ ζ) V v a→bO W V v b
noncomputable abbrev eu (a:AV):=Option (Subtype (zH W θ hb a))
noncomputable abbrev kM (a:List AV):=Option (Subtype (KD W θ hb a))
noncomputable abbrev oD (a:List (Str×AV)):=Option (Subtype (KG W θ hb a))
noncomputable abbrev oE (a:List (Int×AV)):=Option (Subtype (KI W θ hb a))
noncomputable def zI (l:List SE):eu W θ hb (.bytes l):=match zG W θ l with
 | ⟨m,h⟩=>some ⟨.bytes m,fun ζ z V v r=>(show jS (vals W.ρ m) v by rw [h]; exact r)⟩
noncomputable def zJ (n:Nat):eu W θ hb (.hole n):=match zF n hb with
 | some ⟨a,m⟩=>some ⟨a.1,fun ζ z V v r=>(by have r:Rel W ⟨V.g,[]⟩ v (ζ n).1:=r; rw [z _ m] at r; exact Rel.mono (V:=⟨V.g,[]⟩) (V':=V) ⟨fun _ _ h=>h,fun _ _ h=>by exact aq h⟩ r)⟩
 | none=>none
noncomputable def zK {a:AV} {l:List AV} (x:eu W θ hb a) (y:kM W θ hb l):kM W θ hb (a::l):=gz x y List.cons fun b m h k ζ z V v ⟨r,q⟩=>.mk (h ζ z V _ r) (k ζ z V _ q)
noncomputable def zL {a:Str×AV} {l:List (Str×AV)} (x:eu W θ hb a.2) (y:oD W θ hb l):oD W θ hb (a::l):=gz x y (fun b m=>(a.1,b)::m) fun b m h k ζ z V v ⟨⟨e,r⟩,q⟩=>.mk (.mk e (h ζ z V _ r)) (k ζ z V _ q)
noncomputable def zM {a:Int×AV} {l:List (Int×AV)} (x:eu W θ hb a.2) (y:oE W θ hb l):oE W θ hb (a::l):=gz x y (fun b m=>(a.1,b)::m) fun b m h k ζ z V v ⟨⟨r⟩,q⟩=>.mk (.mk (h ζ z V _ r)) (k ζ z V _ q)
noncomputable def oF (a:AV):eu W θ hb a:=AV.rec (motive_1:=fun a=>eu W θ hb a) (motive_2:=fun a=>kM W θ hb a) (motive_3:=fun a=>oD W θ hb a) (motive_4:=fun a=>oE W θ hb a) (motive_5:=fun x=>eu W θ hb x.2) (motive_6:=fun x=>eu W θ hb x.2)
 (some ⟨.none,fun ζ z V v r=>r⟩) (fun b=>some ⟨.bool b,fun ζ z V v r=>r⟩) (fun B=>some ⟨.sb (gF θ B),fun ζ z V v r=>(show v = .bool ((gF θ B).val W.ρ) by rw [oC]; exact r)⟩) (fun e=>some ⟨.int (gE (bp θ e)),fun ζ z V v r=>(show bK ((gE (bp θ e)).val W.ρ) v by rw [sr,ij]; exact r)⟩)
 (fun b=>some ⟨.str b,fun ζ z V v r=>r⟩) (zI W θ hb) (fun l h=>om h .tup fun m h ζ z V v ⟨h1,r⟩=>.mk h1 (h ζ z V _ r)) (fun l h=>om h .lst fun m h ζ z V v ⟨h1,r⟩=>.mk h1 (h ζ z V _ r)) (fun C l h=>om h (.inst C) fun m h ζ z V v ⟨h1,hd,r⟩=>.mk h1 hd (h ζ z V _ r)) (fun l h=>om h .dicI fun m h ζ z V v ⟨h1,ns,d,r⟩=>.mk h1 ns d (h ζ z V _ r))
 (fun _ _=>none) (fun a n=>some ⟨.rng a n,fun ζ z V v r=>r⟩) (fun b=>some ⟨.con b,fun ζ z V v r=>r⟩) (fun b=>some ⟨.blt b,fun ζ z V v r=>r⟩) (some ⟨.any,fun ζ z V v r=>r⟩) (some ⟨.anyS,fun ζ z V v r=>r⟩) (fun _=>none) (zJ W θ hb)
 (some ⟨[],fun ζ z V v r=>r⟩) (fun _ _ h k=>zK W θ hb h k) (some ⟨[],fun ζ z V v r=>r⟩) (fun _ _ h k=>zL W θ hb h k) (some ⟨[],fun ζ z V v r=>r⟩) (fun _ _ h k=>zM W θ hb h k) (fun _ _ h=>h) (fun _ _ h=>h) a
noncomputable def zN (a:List AV):kM W θ hb a:=AV.rec_1 (motive_1:=fun a=>eu W θ hb a) (motive_2:=fun a=>kM W θ hb a) (motive_3:=fun a=>oD W θ hb a) (motive_4:=fun a=>oE W θ hb a) (motive_5:=fun x=>eu W θ hb x.2) (motive_6:=fun x=>eu W θ hb x.2)
 (some ⟨.none,fun ζ z V v r=>r⟩) (fun b=>some ⟨.bool b,fun ζ z V v r=>r⟩) (fun B=>some ⟨.sb (gF θ B),fun ζ z V v r=>(show v = .bool ((gF θ B).val W.ρ) by rw [oC]; exact r)⟩) (fun e=>some ⟨.int (gE (bp θ e)),fun ζ z V v r=>(show bK ((gE (bp θ e)).val W.ρ) v by rw [sr,ij]; exact r)⟩)
 (fun b=>some ⟨.str b,fun ζ z V v r=>r⟩) (zI W θ hb) (fun l h=>om h .tup fun m h ζ z V v ⟨h1,r⟩=>.mk h1 (h ζ z V _ r)) (fun l h=>om h .lst fun m h ζ z V v ⟨h1,r⟩=>.mk h1 (h ζ z V _ r)) (fun C l h=>om h (.inst C) fun m h ζ z V v ⟨h1,hd,r⟩=>.mk h1 hd (h ζ z V _ r)) (fun l h=>om h .dicI fun m h ζ z V v ⟨h1,ns,d,r⟩=>.mk h1 ns d (h ζ z V _ r))
 (fun _ _=>none) (fun a n=>some ⟨.rng a n,fun ζ z V v r=>r⟩) (fun b=>some ⟨.con b,fun ζ z V v r=>r⟩) (fun b=>some ⟨.blt b,fun ζ z V v r=>r⟩) (some ⟨.any,fun ζ z V v r=>r⟩) (some ⟨.anyS,fun ζ z V v r=>r⟩) (fun _=>none) (zJ W θ hb)
 (some ⟨[],fun ζ z V v r=>r⟩) (fun _ _ h k=>zK W θ hb h k) (some ⟨[],fun ζ z V v r=>r⟩) (fun _ _ h k=>zL W θ hb h k) (some ⟨[],fun ζ z V v r=>r⟩) (fun _ _ h k=>zM W θ hb h k) (fun _ _ h=>h) (fun _ _ h=>h) a
end
noncomputable abbrev eF:=List (Nat×SE)
noncomputable def su (n:Nat):eF→Option SE
 | []=>none
 | (m,e)::l=>(match Nat.beq n m with
  | true=>some e
  | false=>su n l)
noncomputable def sv (l:eF):Th:=fun n=>(match su n l with
 | some e=>e
 | none=>.lit 0)
noncomputable def KJ (n:Nat) (e:SE) (b:eF):eF:=match su n b with
 | some _=>b
 | none=>(n,e)::b
noncomputable def gG:SE→SE→eF→eF
 | .var n=>fun e b=>KJ n e b
 | .add p q=>fun e b=>(match e with
  | .add x y=>gG q y (gG p x b)
  | _=>b)
 | .mul _ q=>fun e b=>(match e with
  | .mul _ f=>gG q f b
  | _=>b)
 | .mod q _=>fun e b=>(match e with
  | .mod f _=>gG q f b
  | _=>b)
 | .bit _ q=>fun e b=>(match e with
  | .bit _ f=>gG q f b
  | _=>b)
 | .tab _ q=>fun e b=>(match e with
  | .tab _ f=>gG q f b
  | _=>b)
 | _=>fun _ b=>b
noncomputable def zO:List SE→List SE→eF→eF
 | q::l,e::m,b=>zO l m (gG q e b)
 | _,_,b=>b
noncomputable abbrev aI:=eF×HB
noncomputable def zP (a:AV) (b:aI):Option aI:=match a with
 | .none=>some b
 | _=>none
noncomputable def bY {α:Type} (_:α) (_:AV) (b:aI):Option aI:=some b
noncomputable def zQ (q:SE) (a:AV) (b:aI):Option aI:=match a with
 | .int e=>some (gG q e b.1,b.2)
 | _=>none
noncomputable def zR (x:Str) (a:AV) (b:aI):Option aI:=match a with
 | .str y=>cond (sEq x y) (some b) none
 | _=>none
noncomputable def zS (l:List SE) (a:AV) (b:aI):Option aI:=match a with
 | .bytes m=>cond (Nat.beq l.length m.length) (some (zO l m b.1,b.2)) none
 | _=>none
noncomputable def zT (k:List AV→aI→Option aI) (a:AV) (b:aI):Option aI:=match a with
 | .tup m=>k m b
 | _=>none
noncomputable def zU (k:List AV→aI→Option aI) (a:AV) (b:aI):Option aI:=match a with
 | .lst m=>k m b
 | _=>none
noncomputable def zV (C:Addr) (k:List (Str×AV)→aI→Option aI) (a:AV) (b:aI):Option aI:=match a with
 | .inst D m=>cond (Nat.beq C D) (k m b) none
 | _=>none
noncomputable def zW (n:Nat) (a:AV) (b:aI):Option aI:=match mY a with
 | some ⟨_,hp⟩=>some (b.1,(n,⟨a,hp⟩)::b.2)
 | none=>none
noncomputable def zX (m:List AV) (b:aI):Option aI:=match m with
 | []=>some b
 | _=>none
noncomputable def zY (f:AV→aI→Option aI) (k:List AV→aI→Option aI) (m:List AV) (b:aI):Option aI:=match m with
 | a::m=>(match f a b with
  | some b=>k m b
  | none=>none)
 | []=>none
noncomputable def zZ (f:AV→aI→Option aI) (k:List (Str×AV)→aI→Option aI) (m:List (Str×AV)) (b:aI):Option aI:=match m with
 | (_,a)::m=>(match f a b with
  | some b=>k m b
  | none=>none)
 | []=>none
noncomputable def KL (p:AV):AV→aI→Option aI:=AV.rec (motive_1:=fun _=>AV→aI→Option aI) (motive_2:=fun _=>List AV→aI→Option aI) (motive_3:=fun _=>List (Str×AV)→aI→Option aI) (motive_4:=fun _=>Unit) (motive_5:=fun _=>AV→aI→Option aI) (motive_6:=fun _=>Unit)
 zP bY bY zQ zR zS (fun _=>zT) (fun _=>zU) (fun C _=>zV C) (fun _ _=>bY ()) (fun _ _=>bY ()) (fun _=>bY) bY bY (bY ()) (bY ()) bY zW zX (fun _ _=>zY) (fun _ b=>some b) (fun _ _=>zZ) () (fun _ _ _ _=>()) (fun _ _ h=>h) (fun _ _ _=>()) p
noncomputable def KN (p:List AV):List AV→aI→Option aI:=AV.rec_1 (motive_1:=fun _=>AV→aI→Option aI) (motive_2:=fun _=>List AV→aI→Option aI) (motive_3:=fun _=>List (Str×AV)→aI→Option aI) (motive_4:=fun _=>Unit) (motive_5:=fun _=>AV→aI→Option aI) (motive_6:=fun _=>Unit)
 zP bY bY zQ zR zS (fun _=>zT) (fun _=>zU) (fun C _=>zV C) (fun _ _=>bY ()) (fun _ _=>bY ()) (fun _=>bY) bY bY (bY ()) (bY ()) bY zW zX (fun _ _=>zY) (fun _ b=>some b) (fun _ _=>zZ) () (fun _ _ _ _=>()) (fun _ _ h=>h) (fun _ _ _=>()) p
noncomputable def z7 (b:eF):Fc b:=oq (fun x=>cL (α:=Nat) (β:=SE) Prod.mk (et x.1) (ou x.2)) b
section
variable {W:ab} (G:Facts) (θ:Th)
noncomputable def cj (W:ab) (G:Facts) (θ:Th) (p a:AV) (hs:HB):Prop:=Sat W.ρ G→∀ ζ,bX ζ hs→∀ V v,Rel W V v a→Rel (W.re θ ζ) V v p
noncomputable def kN (W:ab) (G:Facts) (θ:Th) (l m:List AV) (hs:HB):Prop:=Sat W.ρ G→∀ ζ,bX ζ hs→∀ V v,ah W V v m→ah (W.re θ ζ) V v l
noncomputable def oG (W:ab) (G:Facts) (θ:Th) (l m:List (Str×AV)) (hs:HB):Prop:=Sat W.ρ G→∀ ζ,bX ζ hs→∀ V v,bF W V v m→bF (W.re θ ζ) V v l
noncomputable def oH (W:ab) (G:Facts) (θ:Th) (l m:List (Str×AV)) (hs:HB):Prop:=Sat W.ρ G→∀ ζ,bX ζ hs→∀ V v,bI W V v m→bI (W.re θ ζ) V v l
noncomputable def oI (W:ab) (G:Facts) (θ:Th) (l m:List (Int×AV)) (hs:HB):Prop:=Sat W.ρ G→∀ ζ,bX ζ hs→∀ V v,bO W V v m→bO (W.re θ ζ) V v l
noncomputable def KO (W:ab) (G:Facts) (θ:Th) (q e:SE) (_:Unit):Prop:=Sat W.ρ G→q.val (fun n=>(θ n).val W.ρ) = e.val W.ρ
noncomputable def KP (W:ab) (G:Facts) (θ:Th) (l m:List SE) (_:Unit):Prop:=Sat W.ρ G→vals (fun n=>(θ n).val W.ρ) l = vals W.ρ m
noncomputable def yes {P:Prop} (b:Bool) (h:b = true→P):Out fun _:Unit=>P:=ar b 180 fun e=>.ok () (h e)
noncomputable def oJ {P:HB→Prop} (b:Bool) (h:b = true→P []):Out P:=ar b 180 fun e=>.ok [] (h e)
noncomputable def oK (B:SB):Out fun t:Bool=>Sat W.ρ G→B.val W.ρ = t:=de (eN G B) (fun r e=>.ok r fun hG=>jM hG e) fun _=>.ask B
noncomputable def z8 (q e:SE):Out (KO W G θ q e):=aF (SE.beq (bp θ q) e) (fun h=>.ok () fun _=>by rw [← SE.um h,ij]) fun _=>bd (oK (W:=W) G ⟨false,a9 (cP G (bp θ q)) (smul (-1) (cP G e)),true⟩) fun t h=>ar t 181 fun ht=>.ok () fun g=>(by
  subst ht
  have h:decide ((a9 (cP G (bp θ q)) (smul (-1) (cP G e))).val W.ρ = 0) = true:=h g
  have h:=of_decide_eq_true h
  rw [cU,cG,pV g,pV g,ij] at h
  lia)
noncomputable def z9:(l m:List SE)→Out (KP W G θ l m)
 | [],[]=>.ok () fun _=>rfl
 | q::l,e::m=>bd (z8 (W:=W) G θ q e) fun _ h=>bd (z9 l m) fun _ k=>.ok () fun g=>by show _::vals _ l = _::vals _ m; rw [h g,k g]
 | _,_=>.no 182
noncomputable def KQ (B:SB) (b:Bool):Out fun _:Unit=>Sat W.ρ G→B.val (fun n=>(θ n).val W.ρ) = b:=bd (oK (W:=W) G (gF θ B)) fun t h=>yes (dz t b) fun e g=>by rw [← lJ e,← h g,oC W θ (ζ:=ik)]; rfl
section
variable {p:AV} {l:List AV} {C:Addr} {fs:List (Str×AV)} {is:List (Int×AV)}
noncomputable def Aa (q:SE) (a:AV):Out (cj W G θ (.int q) a):=match a with
 | .int e=>bd (z8 (W:=W) G θ q e) fun _ h=>.ok [] fun g ζ z V v r=>(show bK (q.val (fun n=>(θ n).val W.ρ)) v by rw [h g]; exact r)
 | _=>.no 184
noncomputable def Ab (B:SB) (a:AV):Out (cj W G θ (.sb B) a):=match a with
 | .bool b=>bd (KQ (W:=W) G θ B b) fun _ h=>.ok [] fun g ζ z V v r=>(show v = .bool (B.val (fun n=>(θ n).val W.ρ)) by rw [h g]; exact r)
 | _=>.no 184
noncomputable def Ac (l:List SE) (a:AV):Out (cj W G θ (.bytes l) a):=match a with
 | .bytes m=>bd (z9 (W:=W) G θ l m) fun _ h=>.ok [] fun g ζ z V v r=>(show jS (vals (fun n=>(θ n).val W.ρ) l) v by rw [h g]; exact r)
 | _=>.no 184
noncomputable def Ad (n:Nat) (a:AV):Out (cj W G θ (.hole n) a):=ar (nl a) 184 fun q=>(match mY a with
 | some ⟨_,hp⟩=>.ok [(n,⟨a,hp⟩)] fun g ζ z V v r=>(show Rel W ⟨V.g,[]⟩ v (ζ n).1 by rw [z (n,⟨a,hp⟩) (.head _)]; exact dQ (ad:=V.ad) (fun _ _ h=>h) q r)
 | none=>.no 184)
noncomputable def Ae (a:AV):Out (cj W G θ .anyS a):=match a with
 | .str x=>.ok [] fun g ζ z V v r=>⟨_,r⟩
 | .anyS=>.ok [] fun g ζ z V v r=>r
 | _=>.no 184
noncomputable def Af (a:AV):Out (cj W G θ .none a):=match a with
 | .none=>.ok [] fun g ζ z V v r=>r
 | _=>.no 184
noncomputable def Ag (b:Bool) (a:AV):Out (cj W G θ (.bool b) a):=match a with
 | .bool c=>oJ (dz b c) fun e g ζ z V v r=>by rw [lJ e]; exact r
 | .sb B=>bd (oK (W:=W) G B) fun t h=>oJ (dz b t) fun e g ζ z V v r=>(show v = .bool b by rw [lJ e,← h g]; exact r)
 | _=>.no 184
noncomputable def Ah (x:Str) (a:AV):Out (cj W G θ (.str x) a):=match a with
 | .str y=>oJ (sEq x y) fun e g ζ z V v r=>by rw [sEq_iff.mp e]; exact r
 | _=>.no 184
noncomputable def Ai (x:Value) (a:AV):Out (cj W G θ (.con x) a):=match x,a with
 | .ref x,.con (.ref y)=>oJ (Nat.beq x y) fun e g ζ z V v r=>by rw [Nat.eq_of_beq_eq_true e]; exact r
 | _,_=>.no 184
noncomputable def Aj (f:(m:List AV)→Out (kN W G θ l m)) (a:AV):Out (cj W G θ (.tup l) a):=match a with
 | .tup m=>bd (f m) fun hs h=>.ok hs fun g ζ z V v ⟨h1,r⟩=>.mk h1 (h g ζ z V _ r)
 | _=>.no 184
noncomputable def Ak (f:(m:List AV)→Out (kN W G θ l m)) (a:AV):Out (cj W G θ (.lst l) a):=match a with
 | .lst m=>bd (f m) fun hs h=>.ok hs fun g ζ z V v ⟨h1,r⟩=>.mk h1 (h g ζ z V _ r)
 | _=>.no 184
noncomputable def Al (C:Addr) (f:(m:List (Str×AV))→Out (oG W G θ fs m)) (a:AV):Out (cj W G θ (.inst C fs) a):=match a with
 | .inst D m=>ar (Nat.beq C D) 183 fun e=>bd (f m) fun hs h=>.ok hs fun g ζ z V v r=>by
   rw [Nat.eq_of_beq_eq_true e]
   obtain ⟨h1,hd,r⟩:=r
   exact .mk h1 hd (h g ζ z V _ r)
 | _=>.no 184
noncomputable def Am (f:(m:List (Int×AV))→Out (oI W G θ is m)) (a:AV):Out (cj W G θ (.dicI is) a):=match a with
 | .dicI m=>bd (f m) fun hs h=>.ok hs fun g ζ z V v ⟨h1,ns,d,r⟩=>.mk h1 ns d (h g ζ z V _ r)
 | _=>.no 184
noncomputable def An (f:(a:AV)→Out (cj W G θ p a)) (g:(m:List AV)→Out (kN W G θ l m)) (m:List AV):Out (kN W G θ (p::l) m):=match m with
 | a::m=>bd (f a) fun hs h=>bd (g m) fun ks k=>.ok (hs ++ ks) fun g ζ z V v ⟨r,q⟩=>.mk (h g ζ z.l V _ r) (k g ζ z.r V _ q)
 | []=>.no 185
noncomputable def Ao (x:Str) (f:(a:AV)→Out (cj W G θ p a)) (g:(m:List (Str×AV))→Out (oG W G θ fs m)) (m:List (Str×AV)):Out (oG W G θ ((x,p)::fs) m):=match m with
 | (y,a)::m=>ar (sEq x y) 186 fun e=>bd (f a) fun hs h=>bd (g m) fun ks k=>.ok (hs ++ ks) fun g ζ z V v r=>by
   rw [sEq_iff.mp e]
   obtain ⟨⟨i,r⟩,q⟩:=r
   exact .mk (.mk i (h g ζ z.l V _ r)) (k g ζ z.r V _ q)
 | []=>.no 187
noncomputable def Ap (f:(m:List (Str×AV))→Out (oH W G θ fs m)) (a:AV):Out (cj W G θ (.dicS fs) a):=match a with
 | .dicS m=>bd (f m) fun hs h=>.ok hs fun g ζ z V v ⟨h1,ns,d,r⟩=>.mk h1 ns d (h g ζ z V _ r)
 | _=>.no 184
noncomputable def Aq (x:Str) (f:(a:AV)→Out (cj W G θ p a)) (g:(m:List (Str×AV))→Out (oH W G θ fs m)) (m:List (Str×AV)):Out (oH W G θ ((x,p)::fs) m):=match m with
 | (y,a)::m=>ar (sEq x y) 186 fun e=>bd (f a) fun hs h=>bd (g m) fun ks k=>.ok (hs ++ ks) fun g ζ z V v r=>by
   rw [sEq_iff.mp e]
   obtain ⟨⟨r⟩,q⟩:=r
   exact .mk (.mk (h g ζ z.l V _ r)) (k g ζ z.r V _ q)
 | []=>.no 187
noncomputable def Ar (x:Int) (f:(a:AV)→Out (cj W G θ p a)) (g:(m:List (Int×AV))→Out (oI W G θ is m)) (m:List (Int×AV)):Out (oI W G θ ((x,p)::is) m):=match m with
 | (y,a)::m=>ar (bc x y) 188 fun e=>bd (f a) fun hs h=>bd (g m) fun ks k=>.ok (hs ++ ks) fun g ζ z V v r=>by
   rw [dN e]
   obtain ⟨⟨r⟩,q⟩:=r
   exact .mk (.mk (h g ζ z.l V _ r)) (k g ζ z.r V _ q)
 | []=>.no 189
end
noncomputable def gH {α:Type} {P:HB→List α→Prop} (h:P [] []) (m:List α):Out fun hs:HB=>P hs m:=match m with
 | []=>.ok [] h
 | _=>.no 185
noncomputable abbrev ip (W:ab) (G:Facts) (θ:Th) (p:AV):=(a:AV)→Out (cj W G θ p a)
noncomputable abbrev sx (W:ab) (G:Facts) (θ:Th) (l:List AV):=(m:List AV)→Out (kN W G θ l m)
noncomputable abbrev As (W:ab) (G:Facts) (θ:Th) (l:List (Str×AV)):=(m:List (Str×AV))→Out (oG W G θ l m)
noncomputable abbrev Au (W:ab) (G:Facts) (θ:Th) (l:List (Str×AV)):=(m:List (Str×AV))→Out (oH W G θ l m)
noncomputable abbrev Av (W:ab) (G:Facts) (θ:Th) (l:List (Int×AV)):=(m:List (Int×AV))→Out (oI W G θ l m)
noncomputable def oL (p:AV):ip W G θ p:=AV.rec (motive_1:=fun p=>ip W G θ p) (motive_2:=fun l=>sx W G θ l) (motive_3:=fun l=>As W G θ l×Au W G θ l) (motive_4:=fun l=>Av W G θ l) (motive_5:=fun x=>ip W G θ x.2) (motive_6:=fun x=>ip W G θ x.2)
 (Af G θ) (Ag G θ) (Ab G θ) (Aa G θ) (Ah G θ) (Ac G θ) (fun _ h=>Aj G θ h) (fun _ h=>Ak G θ h) (fun C _ h=>Al G θ C h.1) (fun _ h=>Am G θ h) (fun _ h=>Ap G θ h.2) (fun _ _ _=>.no 184) (Ai G θ) (fun _ _=>.no 184) (fun a=>.ok [] fun g ζ z V v r=>trivial) (Ae G θ) (fun _ _=>.no 184) (Ad G θ)
 (gH fun g ζ z V v r=>r) (fun _ _ h k=>An G θ h k) ⟨gH fun g ζ z V v r=>r,gH fun g ζ z V v r=>r⟩ (fun x l h k=>⟨Ao G θ x.1 h k.1,Aq G θ x.1 h k.2⟩) (gH fun g ζ z V v r=>r) (fun x l h k=>Ar G θ x.1 h k) (fun _ _ h=>h) (fun _ _ h=>h) p
noncomputable def sy (p:List AV):sx W G θ p:=AV.rec_1 (motive_1:=fun p=>ip W G θ p) (motive_2:=fun l=>sx W G θ l) (motive_3:=fun l=>As W G θ l×Au W G θ l) (motive_4:=fun l=>Av W G θ l) (motive_5:=fun x=>ip W G θ x.2) (motive_6:=fun x=>ip W G θ x.2)
 (Af G θ) (Ag G θ) (Ab G θ) (Aa G θ) (Ah G θ) (Ac G θ) (fun _ h=>Aj G θ h) (fun _ h=>Ak G θ h) (fun C _ h=>Al G θ C h.1) (fun _ h=>Am G θ h) (fun _ h=>Ap G θ h.2) (fun _ _ _=>.no 184) (Ai G θ) (fun _ _=>.no 184) (fun a=>.ok [] fun g ζ z V v r=>trivial) (Ae G θ) (fun _ _=>.no 184) (Ad G θ)
 (gH fun g ζ z V v r=>r) (fun _ _ h k=>An G θ h k) ⟨gH fun g ζ z V v r=>r,gH fun g ζ z V v r=>r⟩ (fun x l h k=>⟨Ao G θ x.1 h k.1,Aq G θ x.1 h k.2⟩) (gH fun g ζ z V v r=>r) (fun x l h k=>Ar G θ x.1 h k) (fun _ _ h=>h) (fun _ _ h=>h) p
noncomputable def iq (l:LF):LF:=l.map fun p=>(bp θ p.1,p.2)
theorem Aw (ρ:Nat→Int):∀ l:LF,sm ρ (iq θ l) = sm (fun n=>(θ n).val ρ) l
 | []=>rfl
 | (e,k)::l=>by show k * (bp θ e).val ρ + sm ρ (iq θ l) = _; rw [ij,Aw ρ l]; rfl
theorem sA (ρ:Nat→Int) (l:LF):(toS 0 (iq θ l)).val ρ = sm (fun n=>(θ n).val ρ) l:=by rw [eM,Aw,Int.zero_add]
noncomputable def KR (f:gQ):Out fun _:Unit=>Sat W.ρ G→f.Ok fun n=>(θ n).val W.ρ:=match f with
 | .ge l n=>yes (bJ n (bt G (toS 0 (iq θ l)) true)) fun h g=>by show n≤sm _ l; rw [← sA]; exact cC (fun _=>gc g) h
 | .le l n=>yes (bJ (-n) (bt G (toS 0 (iq θ l)) false)) fun h g=>by have:=cC (fun _=>gd g) h; rw [sA] at this; show sm _ l≤n; lia
 | .ne l n=>bd (oK (W:=W) G ⟨false,.add (toS 0 (iq θ l)) (.lit (-n)),false⟩) fun t h=>yes t fun e g=>by
   have h:=h g
   rw [e] at h
   have h:(!decide ((toS 0 (iq θ l)).val W.ρ + -n = 0)) = true:=h
   rw [sA,Bool.not_eq_true',decide_eq_false_iff_not] at h
   show sm _ l≠n; lia
noncomputable def Ax:(l:Facts)→Out fun _:Unit=>Sat W.ρ G→Sat (fun n=>(θ n).val W.ρ) l
 | []=>.ok () fun _=>f9
 | f::l=>bd (KR (W:=W) G θ f) fun _ h=>bd (Ax l) fun _ k=>.ok () fun g x m=>(List.mem_cons.mp m).elim (fun e=>e▸h g) (k g x)
end
noncomputable def gI (B:SB) (r:Bool):Facts:=pY B.k B.e (dz r B.p)
theorem oM {ρ:Nat→Int} {G:Facts} (h:Sat ρ G) {B:SB} {r:Bool} (q:B.val ρ = r):Sat ρ (gI B r ++ G):=by
 refine CE h ?_
 unfold SB.val at q
 subst q
 cases B.p<;>cases cO B.k (B.e.val ρ)<;>rfl
structure Pr where
 f:Addr
 d:Nat
 as:List AV
 r:AV
 bs:List SB
noncomputable def oN (ρ:Nat→Int):List SB→Prop
 | []=>True
 | B::l=>B.val ρ = true∧oN ρ l
noncomputable def oO (G:Facts):List SB→Bool
 | []=>true
 | B::l=>(match eN G B with
  | some true=>oO G l
  | _=>false)
theorem Ay {ρ:Nat→Int} {G:Facts} (h:Sat ρ G):∀ {l:List SB},oO G l = true→oN ρ l
 | [],_=>trivial
 | B::l,e=>by
  change (match eN G B with | some true=>oO G l | _=>false) = true at e
  cases q:eN G B with
  | none=>rw [q] at e; exact aR e
  | some t=>rw [q] at e; cases t with
   | true=>exact ⟨jM h q,Ay h e⟩
   | false=>exact aR e
noncomputable def KS (W:ab) (q:Pr):Prop:=oN W.ρ q.bs→Tells W q.d (.ref q.f) [] q.as q.r []
noncomputable def dH (W:ab):List Pr→Prop
 | []=>True
 | q::l=>KS W q∧dH W l
structure aK where
 f:Addr
 d:Nat
 as:List AV
 G:Facts
 r:AV
 pre:List Pr
noncomputable def aU (c:aK):Prop:=∀ W:ab,Sat W.ρ c.G→dH W c.pre→Tells W c.d (.ref c.f) [] c.as c.r []
noncomputable def jd (c:aK):Prop:=∀ W:ab,Sat W.ρ c.G→dH W c.pre→TellsF W c.d (.ref c.f) c.as c.r
noncomputable abbrev bQ:=List { c:aK // aU c }
noncomputable abbrev kO:=List { c:aK // jd c }
noncomputable abbrev e9 (W:ab):=(G:Facts)→(a:Addr)→(as:List AV)→Option { r:AV×Nat // Sat W.ρ G→Tells W r.2 (.ref a) [] as r.1 [] }
theorem oP {W:ab} {U:AS} {ad:List Addr} {h:Heap} (O:aN W U ⟨[],ad,h⟩):ad = []:=List.length_eq_zero_iff.mp O.len
inductive ir (W:ab):ab→Prop
 | mk (ρ η ηm ηp):ir W { W with ρ:=ρ,η:=η,ηm:=ηm,ηp:=ηp }
theorem ir.re (W:ab) (θ:Th) (ζ:Hz):ir W (W.re θ ζ):=.mk ..
theorem ir.er (W:ab) (θ:Th) (ζ:Hz):ir (W.re θ ζ) W:=.mk W.ρ W.η W.ηm W.ηp
section
variable {W W':ab} {d:Nat}
theorem Tells.tr (hw:ir W W') {f:Value} {p as:List AV} {r b:AV} (T:Tells W' d f [] p r []) (hp:∀ V v,ah W V v as→ah W' V v p) (hr:∀ V v,Rel W' V v r→Rel W V v b):Tells W d f [] as b []:=by
 cases hw
 exact ⟨T.1,fun A a U ad s vs Q E B O rl F=>by
  obtain rfl:=oP O
  refine T.2 A a U [] s vs Q E ⟨B.G,B.low⟩ .none (hp _ _ rl) fun v h' tk ad' k rv=>?_
  obtain rfl:=oP k.owns
  exact F v h' tk [] ⟨k.ad,k.keep,k.new,.none⟩ (hr _ _ rv)⟩
theorem TellsF.tr (hw:ir W W') {f:Value} {p as:List AV} {r b:AV} (T:TellsF W' d f p r) (hp:∀ V v,ah W V v as→ah W' V v p) (hr:∀ V v,Rel W' V v r→Rel W V v b):TellsF W d f as b:=by
 cases hw
 exact ⟨T.keep,fun A a U s vs FR Q E B rl fx nf F=>T.run A a U s vs FR Q E ⟨B.G,B.low⟩ (hp _ _ rl) fx nf fun v h' tk k rv=>F v h' tk k (hr _ _ rv)⟩
end
section
variable {W:ab}
noncomputable def kP (θ:Th) (bs:List SB) (G:Facts):Facts:=match bs with
 | []=>G
 | B::l=>kP θ l (gI (gF θ B) true ++ G)
theorem Az {θ:Th} {ζ:Hz}:∀ {bs:List SB} {G:Facts},Sat W.ρ G→oN (W.re θ ζ).ρ bs→Sat W.ρ (kP θ bs G)
 | [],_,hG,_=>hG
 | B::l,G,hG,⟨h,k⟩=>Az (bs:=l) (G:=gI (gF θ B) true ++ G) (oM hG ((oC W θ B).trans h)) k
structure Fd (W:ab) (G:Facts) where
 f:Addr
 as:List AV
 r:AV
 d:Nat
 T:Sat W.ρ G→Tells W d (.ref f) [] as r []
noncomputable def AA (L:e9 W) (G:Facts):List Pr→aI→List (Option (Fd W G))×aI
 | [],s=>([],s)
 | q::l,s=>(match zN W (sv s.1) s.2 q.as with
  | some ⟨as,_⟩=>(match L (kP (sv s.1) q.bs G) q.f (kJ as).1 with
   | some ⟨(r,d),T⟩=>(match fA r with
    | ⟨r',e⟩=>(match KL q.r r' s with
     | some s=>(match AA L G l s with
      | (m,s')=>((match q.bs,T with
       | [],T=>some ⟨q.f,(kJ as).1,r',d,e▸T⟩
       | _,_=>none)::m,s'))
     | none=>([],s)))
   | none=>([],s))
  | none=>([],s))
noncomputable def sC (L:e9 W) (G:Facts) (θ:Th):(l:List Pr)→List (Option (Fd W G))→(hb:HB)→Out fun hb':HB=>∀ ζ,bX ζ hb'→bX ζ hb∧(Sat W.ρ G→dH (W.re θ ζ) l)
 | [],_,hb=>.ok hb fun ζ z=>⟨z,fun _=>trivial⟩
 | q::l,x::m,hb=>(match zN W θ hb q.as with
  | none=>.no 192
  | some ⟨as,ha⟩=>(match x with
   | some F=>ar (aG (Nat.beq F.f q.f) (Nat.beq F.d q.d)) 194 fun hd=>bd (sy (W:=W) G .var F.as as) fun h1 hc1=>(match oB h1 with
    | none=>.no 197
    | some ⟨ho⟩=>bd (oL (W:=W) G θ q.r F.r) fun hs hc=>bd (sC L G θ l m (hb ++ hs)) fun hb' k=>.ok hb' fun ζ z=>(match k ζ z with
     | ⟨z',k⟩=>⟨z'.l,fun g=>⟨fun _=>(Nat.eq_of_beq_eq_true (aB hd).1▸Nat.eq_of_beq_eq_true (aB hd).2▸(F.T g).tr (.er W θ ζ) (fun V v x=>hc1 g _ ho V v (ha ζ z'.l V v x)) (hc g ζ z'.r)),k g⟩⟩))
   | none=>(match kJ as with
    | ⟨bs,e⟩=>(match L (kP θ q.bs G) q.f bs with
     | none=>.no 193
     | some ⟨(r,d),T⟩=>ar (Nat.beq d q.d) 194 fun hd=>bd (oL (W:=W) (kP θ q.bs G) θ q.r r) fun hs hc=>bd (sC L G θ l m (hb ++ hs)) fun hb' k=>.ok hb' fun ζ z=>(match k ζ z with
      | ⟨z',k⟩=>⟨z'.l,fun g=>⟨fun hb=>(have g':=Az (ζ:=ζ) g hb; Nat.eq_of_beq_eq_true hd▸(T g').tr (.er W θ ζ) (fun V v x=>e▸ha ζ z'.l V v x) (hc g' ζ z'.r)),k g⟩⟩)))))
 | _::_,[],_=>.no 196
structure Met (W:ab) (c:aK) (as:List AV) (r:AV):Prop where
 ok:∃ θ ζ,Sat (W.re θ ζ).ρ c.G∧dH (W.re θ ζ) c.pre∧(∀ V v,ah W V v as→ah (W.re θ ζ) V v c.as)∧∀ V v,Rel (W.re θ ζ) V v c.r→Rel W V v r
noncomputable def KU (L:e9 W) (G:Facts) (c:aK) (as:List AV):Option (List (Option (Fd W G))×eF):=match KN c.as as ([],[]) with
 | some s=>(match c.pre with
  | []=>some ([],(z7 s.1).1)
  | l=>(match AA L G l s with
   | (m,s)=>some (m,(z7 s.1).1)))
 | none=>none
noncomputable def AB (L:e9 W) (G:Facts) (c:aK) (as:List AV):Out fun r:AV=>Sat W.ρ G→Met W c as r:=match KU L G c as with
 | none=>.no 198
 | some (m,b)=>(match sv b with
  | θ=>bd (sy (W:=W) G θ c.as as) fun hs hp=>bd (Ax (W:=W) G θ c.G) fun _ hf=>bd (sC L G θ c.pre m hs) fun hb hk=>(match once hb with
   | none=>.no 195
   | some ⟨ho⟩=>(match oF W θ hb c.r with
    | none=>.no 190
    | some ⟨b,hr⟩=>.ok b fun g=>⟨θ,zE hb,hf g,(hk _ ho).2 g,hp g _ (hk _ ho).1,hr _ ho⟩)))
theorem Met.tells {c:aK} {as:List AV} {r:AV} (m:Met W c as r) (hc:aU c):Tells W c.d (.ref c.f) [] as r []:=by
 obtain ⟨⟨_,_,h1,h2,h3,h4⟩⟩:=m
 exact (hc _ h1 h2).tr (.re ..) h3 h4
theorem Met.KV {c:aK} {as:List AV} {r:AV} (m:Met W c as r) (hc:jd c):TellsF W c.d (.ref c.f) as r:=by
 obtain ⟨⟨_,_,h1,h2,h3,h4⟩⟩:=m
 exact (hc _ h1 h2).tr (.re ..) h3 h4
noncomputable def AD (L:e9 W) (T:bQ):e9 W:=List.rec (motive:=fun _=>e9 W) L (fun c _ ih G a as=>aF (Nat.beq c.1.f a) (fun e=>(match AB ih G c.1 as with
 | .ok r h=>some ⟨(r,c.1.d),fun g=>Nat.eq_of_beq_eq_true e▸(h g).tells c.2⟩
 | _=>ih G a as)) fun _=>ih G a as) T
noncomputable def kQ:(l:List Pr)→dH W l→e9 W
 | [],_=>fun _ _ _=>none
 | q::l,h=>fun G a as=>aF (Nat.beq q.f a && oO G q.bs) (fun e=>(match sy (W:=W) G .var q.as as with
  | .ok hs hc=>(match oB hs with
   | some ⟨ho⟩=>some ⟨(q.r,q.d),fun g=>Nat.eq_of_beq_eq_true (Bool.and_eq_true_iff.mp e).1▸(h.1 (Ay g (Bool.and_eq_true_iff.mp e).2)).tr (.re W .var ik) (hc g _ ho) fun V v r=>r⟩
   | none=>kQ l h.2 G a as)
  | _=>kQ l h.2 G a as)) fun _=>kQ l h.2 G a as
end
section
variable {W:ab} {d:Nat} {G:Facts} (hG:Sat W.ρ G)
noncomputable def KW (L:e9 W):XT W:=fun own a as=>aF (ba as) (fun ha=>(match L G a as with
 | some ⟨r,h⟩=>aF (nl r.1) (fun hr=>some ⟨r,(h hG).lift ha hr⟩) fun _=>none
 | none=>none)) fun _=>none
noncomputable def KX (L:e9 W) (F:kO):so W:=fun a as=>List.rec (motive:=fun _=>Option { r:AV×Nat // TellsF W r.2 (.ref a) as r.1 }) none (fun c _ ih=>aF (Nat.beq c.1.f a) (fun e=>(match AB L G c.1 as with
 | .ok r h=>some ⟨(r,c.1.d),Nat.eq_of_beq_eq_true e▸(h hG).KV c.2⟩
 | _=>ih)) fun _=>ih) F
noncomputable def tabs (l:List Pr) (h:dH W l) (T:bQ) (F:kO):kL W:=⟨KW hG (AD (kQ l h) T),fun a=>T.any (fun c=>Nat.beq c.1.f a) || l.any (fun q=>Nat.beq q.f a),KX hG (AD (kQ l h) T) F⟩
noncomputable def isOk {α:Type} {P:α→Prop} (o:Out P):Bool:=match o with
 | .ok _ _=>true
 | _=>false
theorem gJ {P:Prop} {o:Out fun _:Unit=>P} (h:isOk o = true):P:=by
 cases o with
 | ok a q=>exact q
 | ask=>exact aR h
 | no=>exact aR h
noncomputable def sD (r b:AV):Out fun _:Unit=>∀ V v,Rel W V v b→Rel W V v r:=bd (oL (W:=W) G .var r b) fun hs h=>(match oB hs with
 | some ⟨ho⟩=>.ok () (h hG _ ho)
 | none=>.no 195)
noncomputable def runC (T:kL W) (c:aK) (k:Nat):Out fun _:Unit=>Tells W (5 * k + 5) (.ref c.f) [] c.as c.r []:=ar (ba c.as) 191 fun ha=>ar (nl c.r) 191 fun hr=>bd (zB (EV hG (HK hG T 40 k) 40) [] c.f c.as) fun r h=>(match kK r.2 r.1 with
 | ⟨q,z⟩=>bd (sD hG c.r q.1) fun _ hc=>.ok () (Tells.lift (own:=[]) ⟨h.1,fun A a U ad s vs Q E B O rl F=>(h.hV [] z).2 A a U ad s vs Q E B O rl fun v h' tk ad' k rv=>F v h' tk ad' k (hc _ _ rv)⟩ ha hr))
noncomputable def KY (T:kL W) (c:aK) (k:Nat):Out fun _:Unit=>TellsF W (5 * k + 5) (.ref c.f) c.as c.r:=oz (ar (ba c.as) 191 fun ha=>ar (nl c.r) 191 fun hr=>bd (runC hG T c k) fun _ h=>.ok () (h.F ha hr)) (bd (KA (HK hG T 40 k) (EV hG (HK hG T 40 k) 40) c.f c.as) fun r h=>bd (sD hG c.r r) fun _ hc=>.ok () ⟨h.keep,fun A a U s vs FR Q E B rl fx nf F=>h.run A a U s vs FR Q E B rl fx nf fun v h' tk k rv=>F v h' tk k (hc _ _ rv)⟩)
end
inductive Tr
 | leaf
 | no
 | ask (B:SB) (t e:Tr)
noncomputable def AE (G:Facts):gQ→Bool
 | .ge l n=>bJ (1 - n) (bt G (toS 0 l) false)
 | .le l n=>bJ (n + 1) (bt G (toS 0 l) true)
 | .ne l n=>aG (bJ n (bt G (toS 0 l) true)) (bJ (-n) (bt G (toS 0 l) false))
theorem KZ {ρ:Nat→Int} {G:Facts} (h:Sat ρ G) {f:gQ} (hf:f.Ok ρ) (e:AE G f = true):False:=by
 have up:=fun {l:LF} {n:Int} (q:bJ n (bt G (toS 0 l) true) = true)=>(eM (ρ:=ρ) 0 l)▸cC (fun _=>gc h) q
 have dn:=fun {l:LF} {n:Int} (q:bJ n (bt G (toS 0 l) false) = true)=>(eM (ρ:=ρ) 0 l)▸cC (fun _=>gd h) q
 cases f with
 | ge l n=>have:=dn e; have:n≤sm ρ l:=hf; lia
 | le l n=>have:=up e; have:sm ρ l≤n:=hf; lia
 | ne l n=>have:=up (aB e).1; have:=dn (aB e).2; have:sm ρ l≠n:=hf; lia
noncomputable def refuted (G G':Facts):Bool:=G'.any (AE G)
theorem K1 {ρ:Nat→Int} {G G':Facts} (h:Sat ρ G) (h':Sat ρ G') (e:refuted G G' = true):False:=let ⟨f,m,e⟩:=List.any_eq_true.mp e; KZ h (h' f m) e
noncomputable def gK (l:List Pr) (P:(W:ab)→dH W l→(G:Facts)→Sat W.ρ G→Bool):Tr→Facts→Prop
 | .leaf,G=>∀ (W:ab) (h:dH W l) (hG:Sat W.ρ G),P W h G hG = true
 | .no,G=>refuted G G = true
 | .ask B a b,G=>gK l P a (gI B true ++ G)∧gK l P b (gI B false ++ G)
theorem gK.ok {l:List Pr} {P:(W:ab)→dH W l→(G:Facts)→Sat W.ρ G→Bool}:∀ {T:Tr} {G:Facts},gK l P T G→∀ (W:ab) (h:dH W l),Sat W.ρ G→∃ G' hG,P W h G' hG = true
 | .leaf,_,h,W,q,hG=>⟨_,hG,h W q hG⟩
 | .no,_,h,W,_,hG=>(K1 hG hG h).elim
 | .ask B a b,_,⟨h1,h2⟩,W,p,hG=>by
  cases q:B.val W.ρ with
  | true=>exact h1.ok W p (oM hG q)
  | false=>exact h2.ok W p (oM hG q)
noncomputable abbrev fa (X:bQ) (c:aK) (k:Nat) (T:Tr):Prop:=gK c.pre (fun W h G hG=>isOk (runC hG (tabs hG c.pre h X []) c k)) T c.G
theorem fa.ok {X:bQ} {c:aK} {k:Nat} {T:Tr} (h:fa X c k T) (hd:Nat.beq (5 * k + 5) c.d = true):aU c:=fun W hG hp=>by
 obtain ⟨G',hG',e⟩:=gK.ok h W hp hG
 exact Nat.eq_of_beq_eq_true hd▸gJ e
noncomputable abbrev kR (X:bQ) (c:aK) (k:Nat) (T:Tr):Prop:=gK c.pre (fun W h G hG=>isOk (KY hG (tabs hG c.pre h X []) c k)) T c.G
theorem kR.ok {X:bQ} {c:aK} {k:Nat} {T:Tr} (h:kR X c k T) (hd:Nat.beq (5 * k + 5) c.d = true):jd c:=fun W hG hp=>by
 obtain ⟨G',hG',e⟩:=gK.ok h W hp hG
 exact Nat.eq_of_beq_eq_true hd▸gJ e
end Mine
end
section
set_option backward.match.sparseCases false
open PySem PySem.W PyProof.Rows PySem.Calls
set_option maxRecDepth 100000
namespace Mine
noncomputable def bL:Str:=⟨#[107,105,110,100]⟩
noncomputable def oQ:Str:=⟨#[114,101,103,105,115,116,101,114]⟩
noncomputable def eG:Str:=⟨#[119,111,114,116,104]⟩
noncomputable def sE:Str:=⟨#[98,97,115,101]⟩
noncomputable def sF:Str:=⟨#[105,110,100,101,120]⟩
noncomputable def sG:Str:=⟨#[115,99,97,108,101]⟩
noncomputable def oR:Str:=⟨#[115,101,103,109,101,110,116]⟩
noncomputable def oS:Str:=⟨#[111,112,101,114,97,110,100,115]⟩
noncomputable def oU:Str:=⟨#[112,114,101,102,105,120]⟩
noncomputable def je:Str:=⟨#[109,111,100]⟩
noncomputable def jf:Str:=⟨#[115,105,98]⟩
noncomputable def jg:Str:=⟨#[100,105,115,112,95,119,105,100,116,104]⟩
noncomputable def jh:Str:=⟨#[120]⟩
noncomputable def ji:Str:=⟨#[98]⟩
noncomputable def AF:Str:=⟨#[97,116]⟩
noncomputable def AG:Str:=⟨#[119,105,100,116,104]⟩
noncomputable def AH:Str:=⟨#[119,97,121]⟩
noncomputable def sH:Str:=⟨#[111,99,116,101,116,115]⟩
noncomputable def sI:Str:=⟨#[102,105,120,117,112,115]⟩
noncomputable def sJ:Str:=⟨#[102,111,114,109]⟩
noncomputable def sL:Str:=⟨#[115,104,97,112,101]⟩
noncomputable def gL:Str:=⟨#[103,112,114]⟩
noncomputable def kU:Str:=⟨#[114,105,112]⟩
noncomputable def AI:Str:=⟨#[109,101,109]⟩
noncomputable def aV:Str:=⟨#[97,108,112,104,97]⟩
noncomputable def bH:Str:=⟨#[98,101,116,97]⟩
noncomputable def dp:Str:=⟨#[112,99]⟩
noncomputable def cm:Str:=⟨#[97,98,115]⟩
noncomputable def dW:Str:=⟨#[115,97,98,115]⟩
noncomputable def AJ:Str:=⟨#[102,115]⟩
noncomputable def AK:Str:=⟨#[103,115]⟩
noncomputable def dX:Str:=⟨#[]⟩
noncomputable def K6:Str:=⟨#[98,121,95,99,111,100,101]⟩
noncomputable def K7:Str:=⟨#[98,121,95,110,97,109,101]⟩
noncomputable def kV:Str:=⟨#[99,97,108,108]⟩
noncomputable def jj:Str:=⟨#[100,105,103,105,116]⟩
noncomputable def jk:Str:=⟨#[101,115,99,97,112,101]⟩
noncomputable def K8:Str:=⟨#[102,111,114,109,115]⟩
noncomputable def cn:Str:=⟨#[105,109,109]⟩
noncomputable def AL:Str:=⟨#[105,109,109,49,54]⟩
noncomputable def jl:Str:=⟨#[105,109,109,51,50]⟩
noncomputable def AM:Str:=⟨#[105,109,109,54,52]⟩
noncomputable def AN:Str:=⟨#[105,109,109,56]⟩
noncomputable def jm:Str:=⟨#[105,115,95,119,105,100,101]⟩
noncomputable def K9:Str:=⟨#[106,97]⟩
noncomputable def La:Str:=⟨#[106,97,101]⟩
noncomputable def Lb:Str:=⟨#[106,98]⟩
noncomputable def jn:Str:=⟨#[106,98,101]⟩
noncomputable def Lc:Str:=⟨#[106,101]⟩
noncomputable def Ld:Str:=⟨#[106,103]⟩
noncomputable def Lf:Str:=⟨#[106,103,101]⟩
noncomputable def jo:Str:=⟨#[106,108]⟩
noncomputable def Lg:Str:=⟨#[106,108,101]⟩
noncomputable def iu:Str:=⟨#[106,109,112]⟩
noncomputable def jq:Str:=⟨#[106,110,101]⟩
noncomputable def Lh:Str:=⟨#[106,110,111]⟩
noncomputable def Li:Str:=⟨#[106,110,112]⟩
noncomputable def Lj:Str:=⟨#[106,110,115]⟩
noncomputable def jr:Str:=⟨#[106,111]⟩
noncomputable def Lk:Str:=⟨#[106,112]⟩
noncomputable def oV:Str:=⟨#[106,114,99,120,122]⟩
noncomputable def Ll:Str:=⟨#[106,115]⟩
noncomputable def js:Str:=⟨#[107,105,110,100,115]⟩
noncomputable def Lm:Str:=⟨#[108,101,97,118,101]⟩
noncomputable def oW:Str:=⟨#[108,111,111,112]⟩
noncomputable def oX:Str:=⟨#[108,111,111,112,101]⟩
noncomputable def oY:Str:=⟨#[108,111,111,112,110,101]⟩
noncomputable def aY:Str:=⟨#[109,111,118]⟩
noncomputable def jt:Str:=⟨#[109,117,115,116]⟩
noncomputable def bj:Str:=⟨#[110,97,109,101]⟩
noncomputable def cN:Str:=⟨#[110,117,109,98,101,114]⟩
noncomputable def Lo:Str:=⟨#[111,49,54]⟩
noncomputable def AO:Str:=⟨#[111,51,50]⟩
noncomputable def AP:Str:=⟨#[111,54,52]⟩
noncomputable def Lp:Str:=⟨#[111,56]⟩
noncomputable def ju:Str:=⟨#[111,112,99,111,100,101]⟩
noncomputable def jv:Str:=⟨#[112,108,97,99,101,115]⟩
noncomputable def jw:Str:=⟨#[112,108,117,115]⟩
noncomputable def AQ:Str:=⟨#[114,49,54]⟩
noncomputable def oZ:Str:=⟨#[114,51,50]⟩
noncomputable def o5:Str:=⟨#[114,54,52]⟩
noncomputable def AR:Str:=⟨#[114,56]⟩
noncomputable def cA:Str:=⟨#[114,101,103]⟩
noncomputable def cq:Str:=⟨#[114,101,108]⟩
noncomputable def iv:Str:=⟨#[114,101,108,51,50]⟩
noncomputable def fb:Str:=⟨#[114,101,108,56]⟩
noncomputable def Lq:Str:=⟨#[114,101,116]⟩
noncomputable def bh:Str:=⟨#[114,109]⟩
noncomputable def sM:Str:=⟨#[114,109,49,54]⟩
noncomputable def iw:Str:=⟨#[114,109,51,50]⟩
noncomputable def fR:Str:=⟨#[114,109,54,52]⟩
noncomputable def sN:Str:=⟨#[114,109,56]⟩
noncomputable def o6:Str:=⟨#[115,105,109,109,51,50]⟩
noncomputable def bZ:Str:=⟨#[115,105,122,101]⟩
noncomputable def aS (n:Str) (ks:List Str) (op esc dig sz must:Int) (w:Bool) (num:Int) (pl:List Str):AV:=.inst 264 [(bj,.str n),(js,.tup (ks.map .str)),(ju,.int (.lit op)),(jk,.int (.lit esc)),(jj,.int (.lit dig)),(bZ,.int (.lit sz)),(jt,.int (.lit must)),(jm,.bool w),(cN,.int (.lit num)),(jv,.tup (pl.map .str))]
noncomputable def ct:AV:=.inst 1113 [(K8,.any),(K7,.dicS [
 (aY,.lst [aS aY [sN,AR] 136 0 (-1) 8 0 false 0 [bh,cA],aS aY [sM,AQ] 137 0 (-1) 16 0 false 1 [bh,cA],aS aY [iw,oZ] 137 0 (-1) 32 0 false 2 [bh,cA],aS aY [fR,o5] 137 0 (-1) 64 0 false 3 [bh,cA],aS aY [AR,sN] 138 0 (-1) 8 0 false 4 [cA,bh],aS aY [AQ,sM] 139 0 (-1) 16 0 false 5 [cA,bh],aS aY [oZ,iw] 139 0 (-1) 32 0 false 6 [cA,bh],aS aY [o5,fR] 139 0 (-1) 64 0 false 7 [cA,bh],aS aY [Lp,AN] 176 0 (-1) 8 0 false 8 [jw,cn],aS aY [Lo,AL] 184 0 (-1) 16 0 false 9 [jw,cn],aS aY [AO,jl] 184 0 (-1) 32 0 false 10 [jw,cn],aS aY [sN,AN] 198 0 0 8 0 false 11 [bh,cn],aS aY [sM,AL] 199 0 0 16 0 false 12 [bh,cn],aS aY [iw,jl] 199 0 0 32 0 false 13 [bh,cn],aS aY [fR,o6] 199 0 0 64 0 false 14 [bh,cn],aS aY [AP,AM] 184 0 (-1) 64 0 false 15 [jw,cn]]),
 (iu,.lst [aS iu [fb] 235 0 (-1) 0 0 false 16 [cq],aS iu [iv] 233 0 (-1) 0 0 false 17 [cq],aS iu [fR] 255 0 4 64 0 true 18 [bh]]),
 (jr,.lst [aS jr [fb] 112 0 (-1) 0 0 false 19 [cq],aS jr [iv] 128 1 (-1) 0 0 false 20 [cq]]),
 (Lh,.any),
 (Lb,.any),
 (La,.any),
 (Lc,.any),
 (jq,.lst [aS jq [fb] 117 0 (-1) 0 0 false 29 [cq],aS jq [iv] 133 1 (-1) 0 0 false 30 [cq]]),
 (jn,.lst [aS jn [fb] 118 0 (-1) 0 0 false 31 [cq],aS jn [iv] 134 1 (-1) 0 0 false 32 [cq]]),
 (K9,.any),
 (Ll,.any),
 (Lj,.any),
 (Lk,.any),
 (Li,.any),
 (jo,.lst [aS jo [fb] 124 0 (-1) 0 0 false 43 [cq],aS jo [iv] 140 1 (-1) 0 0 false 44 [cq]]),
 (Lf,.any),
 (Lg,.any),
 (Ld,.any),
 (kV,.lst [aS kV [iv] 232 0 (-1) 0 0 false 51 [cq],aS kV [fR] 255 0 2 64 0 true 52 [bh]]),
 (Lq,.any),
 (Lm,.any),
 (oY,.lst [aS oY [fb] 224 0 (-1) 0 0 false 56 [cq]]),
 (oX,.lst [aS oX [fb] 225 0 (-1) 0 0 false 57 [cq]]),
 (oW,.lst [aS oW [fb] 226 0 (-1) 0 0 false 58 [cq]]),
 (oV,.lst [aS oV [fb] 227 0 (-1) 0 0 false 59 [cq]])]),(K6,.any)]
noncomputable def aH (n:Nat) (lo hi:Int):Facts:=[.ge [(.var n,1)] lo,.le [(.var n,1)] hi]
noncomputable def iL (n:Int):AV:=.int (.lit n)
noncomputable def kW (n:SE) (sz:Int):AV:=.inst 1191 [(bj,.anyS),(bL,.str gL),(cN,.int n),(bZ,iL sz)]
noncomputable def Lr:AV:=.inst 1191 [(bj,.str kU),(bL,.str kU),(cN,iL 0),(bZ,iL 64)]
noncomputable def kX (r:AV):AV:=.inst 362 [(bL,.str cA),(oQ,r)]
noncomputable def iy (w:SE) (n:Str):AV:=.inst 396 [(bL,.str cn),(eG,.int w),(bj,.str n)]
noncomputable def AU (w:SE) (n:Str):AV:=.inst 437 [(bL,.str cq),(eG,.int w),(bj,.str n)]
noncomputable def Ls (base index:AV) (scale:SE) (w:SE) (sz:Int) (seg n:Str):AV:=.inst 490 [(bL,.str AI),(sE,base),(sF,index),(sG,.int scale),(eG,.int w),(bZ,iL sz),(oR,.str seg),(bj,.str n)]
noncomputable def ew (n:Str) (ops:List AV):AV:=.inst 541 [(bj,.str n),(oS,.tup ops),(oU,.str dX)]
noncomputable def sO (mod rm kY:SE) (w:Int) (x b:SE):AV:=.inst 660 [(je,.int mod),(bh,.int rm),(jf,.int kY),(jg,iL w),(jh,.int x),(ji,.int b)]
noncomputable def kZ (at_ w:Int) (n:Str) (worth:SE) (way:Str):AV:=.inst 850 [(AF,iL at_),(AG,iL w),(bj,.str n),(eG,.int worth),(AH,.str way)]
noncomputable def k7 (oct:List SE) (fx:List AV) (cY shape:AV):AV:=.inst 883 [(sH,.bytes oct),(sI,.lst fx),(sJ,cY),(sL,shape)]
noncomputable def b8 (n:Nat):SE:=.bit true (.add (.add (.lit 7) (.mul (-1) (.var n))) (.lit 1))
noncomputable def AW (sz:Int):aK:=⟨1216,20,[.int (.var 0),iL sz],aH 0 0 15,kW (.var 0) sz,[]⟩
noncomputable def AX:aK:=⟨915,15,[kX (.inst 1191 [(bj,.anyS),(bL,.str gL),(cN,.int (.var 0)),(bZ,.any)])],aH 0 0 15,.int (b8 0),[]⟩
noncomputable def sP (c a b d e:SE) (k l m:Int):SE:=.add c (.add (.mul k a) (.add (.mul l b) (.add (.mul m d) e)))
noncomputable def AY:aK:=⟨741,10,[.int (.var 0),.int (.var 1),.int (.var 2),.int (.var 3)],aH 0 0 1 ++ (aH 1 0 1 ++ (aH 2 0 1 ++ aH 3 0 1)),.int (sP (.lit 64) (.var 0) (.var 1) (.var 2) (.var 3) 8 4 2),[]⟩
noncomputable def AZ:aK:=⟨615,10,[.int (.tab [1,4,2,8] (.var 0))],aH 0 0 3,.int (.tab [0,2,1,3] (.var 0)),[]⟩
noncomputable def Lu:aK:=⟨566,15,[.inst 490 [(bL,.any),(sE,.any),(sF,.inst 1191 [(bj,.anyS),(bL,.str gL),(cN,.int (.var 1)),(bZ,iL 64)]),(sG,.int (.tab [1,4,2,8] (.var 0))),(eG,.any),(bZ,.any),(oR,.any),(bj,.any)]],aH 0 0 3 ++ (aH 1 0 15 ++ [.ne [(.var 1,1)] 4]),.none,[]⟩
noncomputable def eH (n:Nat) (k:Int):SB:=⟨true,.add (.var n) (.lit (-k)),true⟩
noncomputable def o7:List SB→Tr
 | []=>.leaf
 | B::l=>.ask B (o7 l) (o7 l)
noncomputable def k8 (n:Nat):List Int→Tr
 | []=>.leaf
 | k::l=>.ask (eH n k) .leaf (k8 n l)
structure aL where
 cls:Nat
 seg:Nat
 knd:Nat
 mode:Nat
namespace aL
variable (p:aL)
noncomputable def Lv:Str:=match p.seg with
 | 0=>dX
 | 1=>AJ
 | _=>AK
noncomputable def sz:Int:=match p.mode with
 | 0=>64
 | _=>32
noncomputable def hasB:Bool:=match p.cls with
 | 1 | 2 | 5=>true
 | _=>false
noncomputable def fc:Bool:=match p.cls with
 | 3 | 5=>true
 | _=>false
noncomputable def base:AV:=match p.cls with
 | 0=>Lr
 | 1 | 2 | 5=>kW (.var 2) 64
 | _=>.none
noncomputable def index:AV:=cond p.fc (kW (.var 3) 64) .none
noncomputable def scale:SE:=cond p.fc (.tab [1,4,2,8] (.var 4)) (.lit 1)
noncomputable def mem (n:Str):AV:=Ls p.base p.index p.scale (.var 0) p.sz p.Lv n
noncomputable def sQ:AV:=kX (kW (.var 1) p.sz)
noncomputable def ops (n:Str→Str):List AV:=match p.knd with
 | 0=>[p.sQ,p.mem (n aV)]
 | 1=>[p.mem (n aV),p.sQ]
 | _=>[p.mem (n aV),iy (.var 5) (n bH)]
noncomputable def line:AV:=ew aY (p.ops id)
noncomputable def x:SE:=cond p.fc (b8 3) (.lit 0)
noncomputable def b:SE:=cond p.hasB (b8 2) (.lit 0)
noncomputable def r:SE:=match p.knd with
 | 2=>.lit 0
 | _=>b8 1
noncomputable def c8 (n:Nat):SE:=.mod (.var n) 8
noncomputable def kY:SE:=match p.cls with
 | 3=>.add (.mul 64 (.tab [0,2,1,3] (.var 4))) (.add (.mul 8 (c8 3)) (.lit 5))
 | 5=>.add (.mul 64 (.tab [0,2,1,3] (.var 4))) (.add (.mul 8 (c8 3)) (c8 2))
 | 4=>.lit 37
 | _=>.add (c8 2) (.lit 32)
noncomputable def mod:Int:=match p.cls with
 | 1 | 2 | 5=>2
 | _=>0
noncomputable def shape (s:Bool):AV:=match s with
 | true=>sO (.lit p.mod) (.lit 4) p.kY 4 p.x p.b
 | false=>(match p.cls with
  | 0=>sO (.lit 0) (.lit 5) (.lit (-1)) 4 (.lit 0) (.lit 0)
  | _=>sO (.lit p.mod) (c8 2) (.lit (-1)) 4 (.lit 0) p.b)
noncomputable def cY:AV:=match p.knd,p.mode with
 | 0,0=>aS aY [o5,fR] 139 0 (-1) 64 0 false 7 [cA,bh]
 | 0,_=>aS aY [oZ,iw] 139 0 (-1) 32 0 false 6 [cA,bh]
 | 1,0=>aS aY [fR,o5] 137 0 (-1) 64 0 false 3 [bh,cA]
 | 1,_=>aS aY [iw,oZ] 137 0 (-1) 32 0 false 2 [bh,cA]
 | _,0=>aS aY [fR,o6] 199 0 0 64 0 false 14 [bh,cn]
 | _,_=>aS aY [iw,jl] 199 0 0 32 0 false 13 [bh,cn]
noncomputable def A0:List SE:=match p.seg with
 | 0=>[]
 | 1=>[.lit 100]
 | _=>[.lit 101]
noncomputable def Lw:List SE:=match p.mode with
 | 0=>[sP (.lit 72) p.r p.x p.b (.lit 0) 4 2 1]
 | 1=>[]
 | _=>[sP (.lit 64) p.r p.x p.b (.lit 0) 4 2 1]
noncomputable def Lx:SE:=match p.knd with
 | 0=>.lit 139
 | 1=>.lit 137
 | _=>.lit 199
noncomputable def Ly:SE:=match p.knd with
 | 2=>.lit 0
 | _=>.mul 8 (c8 1)
noncomputable def Lz (s:Bool):SE:=match s with
 | true=>.lit 4
 | false=>(match p.cls with
  | 0=>.lit 5
  | _=>c8 2)
noncomputable def head (s:Bool):List SE:=p.A0 ++ (p.Lw ++ (p.Lx::.add (.lit (64 * p.mod)) (.add p.Ly (p.Lz s))::cond s [p.kY] []))
noncomputable def z4:List SE:=[.lit 0,.lit 0,.lit 0,.lit 0]
noncomputable def A1 {α:Type} (l:List α):List α:=match p.knd with
 | 2=>l
 | _=>[]
noncomputable def way:Str:=match p.cls with
 | 0=>dp
 | _=>dW
noncomputable def LA:Str:=match p.mode with
 | 0=>dW
 | _=>cm
noncomputable def enc (s:Bool):AV:=k7 (p.head s ++ (z4 ++ p.A1 z4)) (kZ (p.head s).length 4 aV (.var 0) p.way::p.A1 [kZ ((p.head s).length + 4) 4 bH (.var 5) p.LA]) p.cY (p.shape s)
noncomputable def o8:List Bool:=match p.cls with
 | 0=>[false]
 | 2=>[false,true]
 | _=>[true]
noncomputable def dJ:List Nat:=(match p.knd with | 2=>[] | _=>[1]) ++ (cond p.hasB [2] [] ++ cond p.fc [3] [])
noncomputable def low:Facts:=p.dJ.flatMap fun n=>aH n 0 7
noncomputable def any:Facts:=p.dJ.flatMap fun n=>aH n 0 15
noncomputable def facts:Facts:=(match p.mode with
 | 1=>p.low
 | 2=>.ge ((p.dJ.map fun n=>(b8 n,1))) 1::p.any
 | _=>p.any) ++ (aH 0 (-2147483648) 2147483647 ++ (cond p.fc (aH 4 0 3 ++ [.ne [(.var 3,1)] 4]) [] ++ (match p.cls with
 | 1=>[.ge [(c8 2,1)] 4,.le [(c8 2,1)] 4]
 | 2=>[.ne [(c8 2,1)] 4]
 | _=>[])))
noncomputable def N8:aK:=⟨1001,60,[ct,p.line],p.facts,.lst (p.o8.map p.enc),[]⟩
noncomputable def pre:List SB:=match p.mode with
 | 2=>p.dJ.map fun n=>eH n 7
 | _=>[]
end aL
noncomputable def mm (base index scale worth size seg name:AV):AV:=.inst 490 [(bL,.str AI),(sE,base),(sF,index),(sG,scale),(eG,worth),(bZ,size),(oR,seg),(bj,name)]
noncomputable def hl (n:Nat):AV:=.hole n
noncomputable def vr (n:Nat):AV:=.int (.var n)
noncomputable def o9 (n:Nat):Facts:=aH n (-2147483648) 2147483647
noncomputable def adr (n h:Nat):AV:=.inst 1191 [(bj,.hole h),(bL,.str gL),(cN,vr n),(bZ,iL 64)]
noncomputable def sR (k:Str) (h:Nat):AV:=.inst 1191 [(bj,.hole h),(bL,.str k),(cN,.hole (h + 1)),(bZ,.hole (h + 2))]
noncomputable def A2 (n:Nat):Str:=match n with
 | 0=>dX
 | 1=>AJ
 | _=>AK
noncomputable def N9 (mode:Nat):Int:=match mode with
 | 0=>64
 | _=>32
noncomputable def LC:aK:=⟨559,15,[mm .none .any .any .any .any .any .any],[],.none,[]⟩
noncomputable def LD:aK:=⟨559,15,[mm (.inst 1191 [(bj,.any),(bL,.str kU),(cN,.any),(bZ,.any)]) .none .any .any .any .any .any],[],.none,[]⟩
noncomputable def LG:aK:=⟨559,15,[mm (.inst 1191 [(bj,.any),(bL,.str gL),(cN,.any),(bZ,iL 64)]) .any .any .any .any .any .any],[],.none,[]⟩
noncomputable def LH:aK:=⟨566,15,[mm .any .none (iL 1) .any .any .any .any],[],.none,[]⟩
noncomputable def cM (seg:Nat) (sz:Int):aK:=let m:=mm (hl 10) (hl 11) (hl 12) (vr 0) (iL sz) (.str (A2 seg)) (hl 13)
 ⟨573,20,[m],o9 0,.any,[⟨559,15,[m],.none,[]⟩,⟨566,15,[m],.none,[]⟩]⟩
namespace aL
variable (p:aL)
noncomputable def yp:AV:=match p.cls with
 | 0=>sR kU 14
 | 1 | 2 | 5=>adr 2 14
 | _=>.none
noncomputable def LI:AV:=cond p.fc (adr 3 17) .none
noncomputable def jx (w:AV) (n:Str):AV:=mm p.yp p.LI (.int p.scale) w (hl 10) (hl 11) (.str n)
noncomputable def pa:Facts:=cond p.hasB (aH 2 0 15) [] ++ (cond p.fc (aH 3 0 15 ++ (aH 4 0 3 ++ [.ne [(.var 3,1)] 4])) [] ++ (match p.cls with
 | 1=>[.ge [(c8 2,1)] 4,.le [(c8 2,1)] 4]
 | 2=>[.ne [(c8 2,1)] 4]
 | _=>[]))
noncomputable def k9 (m:AV):Pr:=⟨573,20,[m],.any,[]⟩
noncomputable def A3:aK:=⟨720,15,[.inst 660 [(je,vr 20),(bh,.any),(jf,.int p.kY),(jg,.any),(jh,.int p.x),(ji,.any)]],p.pa ++ aH 20 (match p.cls with | 2=>1 | _=>0) 2,.bool (match p.cls with | 2=>true | _=>false),[]⟩
noncomputable def sS:aK:=⟨727,30,[p.jx (hl 12) aV],p.pa,.lst (p.o8.map p.shape),[k9 (p.jx (hl 12) aV)]⟩
noncomputable def sT (s:Bool):aK:=⟨955,40,[p.jx (hl 12) aV,p.shape s],p.pa,.none,[k9 (p.jx (hl 12) aV)]⟩
noncomputable def sU (s:Bool):aK:=⟨955,40,[p.jx (vr 6) dX,p.shape s],p.pa ++ o9 6,.none,[k9 (p.jx (vr 6) dX)]⟩
end aL
noncomputable def LJ:Str:=⟨#[105,115,95,100,97,116,97]⟩
noncomputable def LK:Str:=⟨#[114,101,112,101,97,116]⟩
noncomputable def LL:Str:=⟨#[105,115,95,108,111,99,107]⟩
noncomputable def LM:Str:=⟨#[114,101,120]⟩
noncomputable def litS:Nat→SE→List SE
 | 0,_=>[]
 | 1,e=>[e]
 | n + 1,e=>.mod e 256::litS n (.div e 256)
noncomputable def lits (n:Nat) (w:Nat):List SE:=litS w (.mod (.var n) (256 ^ w))
noncomputable def vars (i:Nat):Nat→List SE
 | 0=>[]
 | n + 1=>.var i::vars (i + 1) n
noncomputable def A4 (w:Nat):aK:=⟨122,20,[vr 0,iL w],(match w with | 1=>aH 0 0 255 | _=>[]),.bytes (match w with | 1=>[.var 0] | _=>lits 0 w),[]⟩
noncomputable def A5:aK:=⟨122,20,[iL 0,iL 4],[],.bytes aL.z4,[]⟩
noncomputable def A6 (seg rex:AV):AV:=.inst 815 [(oR,seg),(LJ,.bool false),(LK,iL 0),(LL,.bool false),(LM,rex)]
noncomputable def sV (seg:Nat) (r:Bool):aK:=⟨812,20,[A6 (.str (A2 seg)) (cond r (vr 0) (iL (-1)))],cond r (aH 0 64 79) [],.bytes (aL.A0 ⟨0,seg,0,0⟩ ++ cond r [.var 0] []),[]⟩
noncomputable def A7 (s:Bool):AV:=.inst 660 [(je,vr 6),(bh,vr 7),(jf,cond s (vr 8) (iL (-1))),(jg,iL 4),(jh,.any),(ji,.any)]
noncomputable def A8 (s:Bool):Facts:=aH 6 0 3 ++ (aH 7 0 7 ++ cond s (aH 8 0 255) [])
noncomputable def A9 (r:SE):SE:=.add (.mul 64 (.var 6)) (.add (.mul 8 r) (.var 7))
noncomputable def Ba (s z:Bool):aK:=⟨734,25,[A7 s,vr 1,cond z (iL 0) (vr 0)],aH 1 0 7 ++ (A8 s ++ cond z [] (o9 0)),.bytes (A9 (.var 1)::(cond s [.var 8] [] ++ cond z aL.z4 (lits 0 4))),[]⟩
noncomputable def sW (dg:Bool) (s:Bool) (b:Nat):aK:=
 let r:SE:=cond dg (.lit 0) (.mod (.var 1) 8)
 let m:List SE:=A9 r::cond s [.var 8] []
 ⟨950,30,[.inst 264 [(bj,.any),(js,.any),(ju,.any),(jk,.any),(jj,iL (cond dg 0 (-1))),(bZ,.any),(jt,.any),(jm,.any),(cN,.any),(jv,.any)],cond dg .none (.inst 362 [(bL,.any),(oQ,.inst 1191 [(bj,.any),(bL,.any),(cN,vr 1),(bZ,.any)])]),
  mm (match b with | 0=>sR kU 14 | 1=>sR gL 14 | 2=>.none | _=>.any) .any .any (vr 0) .any .any (.str (match b with | 3=>dX | _=>aV)),A7 s,vr 9],cond dg [] (aH 1 0 15) ++ (A8 s ++ (match b with | 3=>o9 0 | _=>[])),
  .tup [.bytes (m ++ (match b with | 3=>lits 0 4 | _=>aL.z4)),.lst (match b with
   | 3=>[]
   | _=>[.inst 850 [(AF,.int (.add (.var 9) (.lit m.length))),(AG,iL 4),(bj,.str aV),(eG,vr 0),(AH,.str (match b with | 0=>dp | _=>dW))]])],[]⟩
noncomputable def pb (k:Nat):AV:=.inst 264 [(bj,.str aY),(js,.tup [hl 20,(match k with | 2=>.str jl | 3=>.str o6 | _=>hl 21)]),(ju,vr 92),(jk,iL 0),(jj,hl 22),(bZ,vr 93),(jt,iL 0),(jm,hl 23),(cN,hl 24),(jv,.tup (match k with | 0=>[.str cA,.str bh] | 1=>[.str bh,.str cA] | _=>[.str bh,.str cn]))]
noncomputable def lg (nm:Bool):AV:=mm (hl 10) (hl 11) (hl 12) (hl 13) (hl 14) (hl 15) (.str (cond nm aV dX))
noncomputable def sY:AV:=.inst 362 [(bL,.str cA),(oQ,hl 5)]
noncomputable def lh:AV:=.inst 660 [(je,hl 31),(bh,hl 32),(jf,hl 33),(jg,hl 34),(jh,hl 35),(ji,hl 36)]
noncomputable def sZ (k:Nat):Bool:=Nat.ble 2 k
noncomputable def cE (k n m:Nat) (nm:Bool):aK:=
 let l:AV:=ew aY (match k with
  | 0=>[sY,lg nm]
  | 1=>[lg nm,sY]
  | _=>[lg nm,iy (.var 5) (cond nm bH dX)])
 let r:AV:=cond (sZ k) .none sY
 let fx:List AV:=cond nm [hl 95] []
 ⟨970,50,[pb k,l,lh],aH 92 0 255 ++ [.ge [(.var 93,1)] 17],
  .inst 883 [(sH,.bytes (vars 100 n ++ (.var 92::(vars 110 m ++ cond (sZ k) (cond nm aL.z4 (lits 5 4)) [])))),(sI,.lst (fx ++ cond (sZ k && nm) [kZ (n + 1 + m) 4 bH (.var 5) (match k with | 2=>cm | _=>dW)] [])),(sJ,pb k),(sL,lh)],
  [⟨955,40,[lg nm,lh],.none,[]⟩,⟨922,25,[pb k,l,r,.none,lh],vr 91,[]⟩,⟨812,20,[A6 (hl 15) (vr 91)],.bytes (vars 100 n),[]⟩,⟨950,30,[pb k,r,lg nm,lh,iL (n + 1)],.tup [.bytes (vars 110 m),.lst fx],[]⟩]⟩
namespace aL
variable (p:aL)
noncomputable def eX (c:Int):SE:=.add (.lit c) (.add (.mul 4 p.r) (.add (.mul 2 (.var 9)) (.var 10)))
noncomputable def s6:Int:=match p.mode with
 | 1=>0
 | _=>1
noncomputable def LN:SE:=match p.mode with
 | 0=>p.eX 72
 | 1=>.lit (-1)
 | _=>p.eX 64
noncomputable def LO:Facts:=(match p.knd with | 2=>[] | _=>aH 1 0 (7 + 8 * p.s6)) ++ (aH 9 0 p.s6 ++ (aH 10 0 p.s6 ++ (match p.mode with
 | 2=>gI ⟨true,.add (.lit 1) (.mul (-1) (.add p.r (.add (.var 9) (.var 10)))),true⟩ true
 | _=>[])))
noncomputable def s8:aK:=let m:AV:=mm .any .any .any .any .any .any .any
 let ra:AV:=kX (.inst 1191 [(bj,.anyS),(bL,.str gL),(cN,vr 1),(bZ,iL p.sz)])
 ⟨922,25,[.inst 264 [(bj,.any),(js,.any),(ju,.any),(jk,.any),(jj,.any),(bZ,iL p.sz),(jt,.any),(jm,.bool false),(cN,.any),(jv,.any)],.inst 541 [(bj,.any),(oS,.tup (match p.knd with
  | 0=>[ra,m]
  | 1=>[m,ra]
  | _=>[m,.inst 396 [(bL,.str cn),(eG,.any),(bj,.any)]])),(oU,.any)],(match p.knd with | 2=>.none | _=>ra),.none,.inst 660 [(je,.any),(bh,.any),(jf,.any),(jg,.any),(jh,vr 9),(ji,vr 10)]],p.LO,.int p.LN,[]⟩
end aL
noncomputable def s9:AV:=mm (hl 10) (hl 11) (hl 12) (hl 13) (hl 14) (hl 15) (hl 16)
noncomputable def ta (f:Bool):aK:=⟨908,45,[.inst 264 [(bj,.any),(js,.any),(ju,.any),(jk,.any),(jj,.any),(bZ,.any),(jt,.any),(jm,.any),(cN,.any),(jv,.tup (cond f [.str bh,hl 1] [.str cA,.str bh]))],.inst 541 [(bj,.any),(oS,.tup (cond f [s9,hl 0] [hl 0,s9])),(oU,.any)]],[],hl 20,[⟨727,30,[s9],hl 20,[]⟩]⟩
namespace aL
variable (p:aL)
noncomputable def lj:AV:=let m:AV:=mm .any .any .any .any (iL p.sz) .any .any
 let r:AV:=kX (.inst 1191 [(bj,.anyS),(bL,.str gL),(cN,.any),(bZ,iL p.sz)])
 ew aY (match p.knd with
  | 0=>[r,m]
  | 1=>[m,r]
  | _=>[m,.inst 396 [(bL,.str cn),(eG,.any),(bj,.str bH)]])
noncomputable def Bb:aK:=⟨982,40,[ct,p.lj],[],.lst [p.cY],[]⟩
end aL
noncomputable def pe:AV:=.inst 264 [(bj,hl 2),(js,hl 3),(ju,hl 4),(jk,hl 5),(jj,hl 6),(bZ,hl 7),(jt,hl 8),(jm,hl 9),(cN,vr 0),(jv,hl 10)]
noncomputable def pf (n i h:Nat):AV:=.inst 883 [(sH,.bytes (vars i n)),(sI,hl h),(sJ,hl (h + 1)),(sL,hl (h + 2))]
noncomputable def tc (n:Nat) (two:Bool):aK:=⟨1001,60,[hl 0,hl 1],[],.lst (pf n 30 13::cond two [pf (n + 1) 50 16] []),⟨982,40,[hl 0,hl 1],.lst [pe],[]⟩::⟨908,45,[pe,hl 1],.lst (hl 11::cond two [hl 12] []),[]⟩::⟨970,50,[pe,hl 1,hl 11],pf n 30 13,[]⟩::cond two [⟨970,50,[pe,hl 1,hl 12],pf (n + 1) 50 16,[]⟩] []⟩
structure bM where
 at_:Nat
 w:Nat
 name:Str
 way:Str
noncomputable def td (f:Nat→Nat→List SE) (n:Nat) (l:List bM):List SE:=go l 0 0
where go:List bM→(i j:Nat)→List SE
 | [],_,j=>vars (30 + j) (n - j)
 | q::l,i,j=>vars (30 + j) (q.at_ - j) ++ (f i q.w ++ go l (i + 1) (q.at_ + q.w))
noncomputable def zs (_ w:Nat):List SE:=List.replicate w (.lit 0)
noncomputable def ws (i w:Nat):List SE:=lits (14 + i) w
noncomputable def Bc:List bM→Nat→List AV
 | [],_=>[]
 | q::l,i=>kZ q.at_ q.w q.name (.var (20 + i)) q.way::Bc l (i + 1)
noncomputable def te (l:List bM):Nat:=l.foldl (fun _ q=>q.at_ + q.w) 0
noncomputable def Bd (l:List bM) (cY shape:AV):AV:=k7 (td zs (te l) l) (Bc l 0) cY shape
noncomputable abbrev ph:=List (Str×List (Int×Str))
noncomputable def wants:ph→Nat→List AV
 | [],_=>[]
 | (n,d)::l,i=>.tup [.str n,vr (20 + i),.dicI (d.map fun x=>(x.1,.str x.2))]::wants l (i + 1)
noncomputable def tf (l:List bM) (w:ph):aK:=⟨1268,20,[Bd l .any .any,.lst (wants w 0)],[],.bool true,[]⟩
noncomputable def Be (q:bM):Int:=cond (sEq q.way cm) (2 ^ (8 * q.w) - 1) (2 ^ (8 * q.w - 1) - 1)
noncomputable def Bf (q:bM):Int:=-2 ^ (8 * q.w - 1)
noncomputable def Bg (n:Nat) (k:Int):SB:=⟨true,.add (.var n) (.lit (1 - k)),false⟩
noncomputable def Bh:List bM→Nat→List AV
 | [],_=>[]
 | q::l,i=>.tup [.str q.name,vr (14 + i),iL q.w,.str q.way]::Bh l (i + 1)
noncomputable def Bi:List bM→Nat→List Pr
 | [],_=>[]
 | q::l,i=>⟨1251,15,[iL (8 * q.w),vr (11 + i),vr 13],vr (14 + i),[]⟩::Bi l (i + 1)
noncomputable def Bj:List bM→Nat→List SB
 | [],_=>[]
 | q::l,i=>eH (14 + i) (Be q)::Bg (14 + i) (Bf q)::Bj l (i + 1)
noncomputable def LP (l:List SE):Facts:=l.flatMap fun e=>match e with
 | .var n=>aH n 0 255
 | _=>[]
noncomputable def tg (l:List bM):aK:=⟨1289,55,[hl 0,Bd l (hl 1) (hl 2),vr 10,.lst [vr 11,vr 12],vr 13],LP (td zs (te l) l),.bool true,
 Bi l 0 ++ [⟨1282,25,[hl 0,.lst (Bh l 0)],hl 3,[]⟩,⟨970,50,[hl 1,hl 3,hl 2],k7 (td ws (te l) l) [] .any .any,Bj l 0⟩]⟩
noncomputable def pj (n:Str) (i:Nat):AV:=.tup [.str n,vr i,.any,.any]
noncomputable def ti:AV:=.inst 362 [(bL,.str cA),(oQ,hl 5)]
noncomputable def tj (w:AV) (n:Str):AV:=mm (hl 10) (hl 11) (hl 12) w (hl 14) (hl 15) (.str n)
noncomputable def Bk (w:AV) (n:Str):AV:=.inst 396 [(bL,.str cn),(eG,w),(bj,.str n)]
noncomputable def LQ (w:AV) (n:Str):AV:=.inst 437 [(bL,.str cq),(eG,w),(bj,.str n)]
noncomputable def Bl (l:List AV):AV:=.inst 541 [(bj,hl 9),(oS,.tup l),(oU,.str dX)]
noncomputable def Bm (k:Nat) (w w':AV) (a b:Str):List AV:=match k with
 | 0=>[ti,tj w a]
 | 1=>[tj w a,ti]
 | 2=>[tj w a,Bk w' b]
 | 3=>[ti,Bk w b]
 | _=>[LQ w a]
noncomputable def tm (k:Nat):aK:=⟨1282,25,[Bl (Bm k .any .any aV bH),.lst (match k with
 | 2=>[pj aV 14,pj bH 15]
 | 3=>[pj bH 14]
 | _=>[pj aV 14])],[],Bl (Bm k (vr 14) (vr 15) dX dX),[]⟩
noncomputable def Bn:List bM→Nat→Tr
 | [],_=>.leaf
 | q::l,i=>(match Bn l (i + 1) with
  | s=>cond (sEq q.way cm) s (.ask (eH (14 + i) (-1)) s s))
noncomputable def Bo (z:Tr):List bM→Nat→Tr
 | [],_=>z
 | q::l,i=>.ask (eH (14 + i) (Be q)) (.ask (Bg (14 + i) (Bf q)) (Bo z l (i + 1)) .leaf) .leaf
noncomputable def LR (l:List bM):Tr:=Bo (Bn l 0) l 0
noncomputable def Bp (w:Nat) (l:Bool):SE:=let H:Int:=2 ^ (8 * w - 1)
 cond l (.add (.mod (.var 13) (2 ^ (8 * w))) (.lit (-H))) (.tab [0,H - 1,-H,H,-H - 1,-1,1,H - 2,1 - H,2 * H - 1,2 * H,H + 1] (.var 12))
noncomputable def cW (w:Nat) (l:Bool):aK:=⟨1251,15,[iL (8 * w),vr 12,vr 13],cond l (aH 12 12 13) (aH 12 0 11),.int (Bp w l),[]⟩
structure Vals where
 ρ:Nat→Int
 η:Nat→GH→Value→Prop
 ηm:∀ n g g' v,Sub g g'→η n g v→η n g' v
 ηp:∀ n g v,η n g v→handedIn v = true
noncomputable def ab.on (W:ab) (X:Vals):ab:=⟨W.w,W.os,W.h0,W.B,X.ρ,X.η,X.ηm,X.ηp⟩
noncomputable def ab.vals (W:ab):Vals:=⟨W.ρ,W.η,W.ηm,W.ηp⟩
noncomputable def ab.to (W:ab) (ρ:Nat→Int) (W':ab) (ζ:Hz):ab:=W.on ⟨ρ,fun n g v=>∀ ad,Rel W' ⟨g,ad⟩ v (ζ n).1,fun n g g' v s r ad=>Rel.mono (V:=⟨g,ad⟩) (V':=⟨g',ad⟩) ⟨s,fun _ _ e=>e⟩ (r ad),fun n g v r=>(ζ n).2 _ _ _ (r [])⟩
section
variable {W:ab} {d:Nat} {sc:Fs}
noncomputable def ai.on (c:ai W d sc) (X:Vals):ai (W.on X) d sc:=⟨c.A,c.env,c.h₀,c.X,c.B,c.ad,c.a,c.K,c.es,c.G,c.out,c.base,c.cls,c.cel,c.top⟩
noncomputable def Sg (W W':ab) (σ σ':ao):Prop:=∀ x a,lk x σ' = some a→∃ b,lk x σ = some b∧∀ V v,Rel W V v b→Rel W' V v a
theorem Sg.nil {W':ab} {σ:ao}:Sg W W' σ []:=fun _ _ e=>aq e
theorem Sg.cons {W':ab} {σ σ':ao} {x:Str} {a b:AV} (e:lk x σ = some b) (r:∀ V v,Rel W V v b→Rel W' V v a) (h:Sg W W' σ σ'):Sg W W' σ ((x,a)::σ'):=fun y a' e'=>by
 rw [c9] at e'
 split at e'
 ·rename_i q; cases e'; exact ⟨b,q▸e,r⟩
 ·exact h y a' e'
variable {c:ai W d sc} {σ σ' τ τ':ao} {own:Own} {ad:List Addr} {h:Heap}
theorem SV.on {X:Vals} (S:SV c σ ⟨[],ad,h⟩) (i:Sg W (W.on X) σ σ'):SV (c.on X) σ' ⟨[],ad,h⟩:=
 have e:ad = []:=oP S.owns
 ⟨S.pre,S.keep,e▸.none,S.new,S.low,S.ns,S.cls,fun x a q=>by
  refine af fun nG=>?_
  obtain ⟨b,q',r⟩:=i x a q
  refine nG ?_
  cases S.loc x b q' with
  | loc k n e z=>exact .loc k n e (r _ _ z)
  | cel k d e i z=>exact .cel k d e i (r _ _ z)⟩
theorem az.on {X:Vals} {t:Sem Flow} (k:az (c.on X) σ' [] t (.next τ' [])) (i:Sg W (W.on X) σ σ') (o:Sg (W.on X) W τ' τ):az c σ [] t (.next τ []):=fun s ad Q E S T=>
 k s ad Q E (S.on i) fun h' tk ad' S'=>T h' tk ad' (SV.on (W:=W.on X) (c:=c.on X) (X:=W.vals) S' o)
noncomputable def Bq (W:ab) (own:Own) (σ τ:ao):Prop:=∀ x b,lk x τ = some b→∃ a q own',lk x σ = some a∧aT own a own' q∧nl q = true∧∀ V v,Rel W V v q→Rel W V v b
theorem SV.forget (S:SV c σ ⟨own,ad,h⟩) (hc:c.ad = []) (f:Bq W own σ τ):SV c τ ⟨[],[],h⟩:=⟨by rw [hc]; exact fun _ _ e=>e,S.keep,.none,fun u z=>(cK z).elim,S.low,S.ns,S.cls,fun x b e=>by
 refine af fun nG=>?_
 obtain ⟨a,q,own',e',z,hq,r⟩:=f x b e
 refine nG ?_
 have zz:=(z S.owns).2
 have k:∀ {v},Rel W (vw c.U ⟨own,ad,h⟩) v a→Rel W (vw c.U ⟨[],[],h⟩) v b:=fun y=>r _ _ (dQ (dZ fun u w=>w.imp id fun w=>(cK w).elim) hq (zz _ y))
 cases S.loc x a e' with
 | loc k' n e y=>exact .loc k' n e (k y)
 | cel k' d e i y=>exact .cel k' d e i (k y)⟩
noncomputable def LS (W:ab) (d:Nat) (sc:Fs) (σ:ao) (l:List Stmt) (τ:ao):Prop:=∀ c:ai W d sc,c.ad = []→∀ rest f,az c τ [] (execs rest c.env) f→az c σ [] (execs (l ++ rest) c.env) f
variable {G:Facts} (hG:Sat W.ρ G) (v:Ev W d)
noncomputable def LU (own:Own) (a:AV):{ r:AV×Own // aT own a r.2 r.1 }:=match a with
 | .loc n=>cond (nl (kK own (.loc n)).1.1) (kK own (.loc n)) (Ih own n)
 | a=>kK own a
noncomputable def Br (own:Own) (σ:ao):(τ:ao)→Out fun _:Unit=>Bq W own σ τ
 | []=>.ok () fun _ _ e=>aq e
 | (x,b)::τ=>bG (lk x σ) 200 fun a ha=>(match LU own a with
  | ⟨q,z⟩=>ar (nl q.1) 201 fun hq=>bd (sD hG b q.1) fun _ hc=>bd (Br own σ τ) fun _ k=>.ok () fun y b' e=>by
   rw [c9] at e
   split at e
   ·rename_i w; cases e; exact ⟨a,q.1,q.2,w▸ha,z,hq,hc⟩
   ·exact k y b' e)
noncomputable def Bt:(l:List Stmt)→(σ:ao)→(own:Own)→Out fun r:ao×Own=>∀ (c:ai W d sc) rest f,az c r.1 r.2 (execs rest c.env) f→az c σ own (execs (l ++ rest) c.env) f
 | [],σ,own=>.ok (σ,own) fun _ _ _ k=>k
 | st::l,σ,own=>bd (v.s sc σ own st) fun f hf=>(match f,hf with
  | .next σ' o,hf=>(match fL o with
   | ⟨o',e⟩=>bd (Bt l σ' o') fun r k=>.ok r fun c rest f q=>.seq (hf c) (e▸k c rest f q))
  | _,_=>.no 202)
noncomputable def iz (σ:ao) (l:List Stmt) (τ:ao):Out fun _:Unit=>LS W d sc σ l τ:=bd (Bt v l σ []) fun r h=>bd (Br hG r.2 r.1 τ) fun _ k=>.ok () fun c hc rest f q s ad Q E S T=>h c rest f (fun s ad Q E S T=>q s [] Q E (S.forget hc k) T) s ad Q E S T
end
end Mine
end
section
set_option backward.match.sparseCases false
open PySem PySem.W PyProof.Rows PySem.Calls
set_option maxRecDepth 100000
set_option maxHeartbeats 4000000
namespace Mine
inductive aC {α:Type} (P:α→Prop):List α→Prop
 | nil:aC P []
 | cons {a:α} {l:List α} (h:P a) (t:aC P l):aC P (a::l)
theorem aC.at {α:Type} {P:α→Prop} {l:List α} (h:aC P l) {a:α} (m:a∈l):P a:=by
 induction h with
 | nil=>cases m
 | cons h _ ih=>rcases List.mem_cons.mp m with rfl | m; exact h; exact ih m
noncomputable def LV (T:bQ) (k:Nat) (c:aK) (W:ab) (h:dH W c.pre) (hG:Sat W.ρ c.G):Bool:=isOk (runC hG (tabs hG c.pre h T []) c k)
noncomputable def Ck (T:bQ) (k:Nat) (c:aK):Prop:=∀ W h hG,LV T k c W h hG = true
theorem Ck.ok {T:bQ} {k:Nat} {c:aK} (h:Ck T k c) (hd:Nat.beq (5 * k + 5) c.d = true):aU c:=fun W hG hp=>Nat.eq_of_beq_eq_true hd▸gJ (h W hp hG)
noncomputable def LW:Tr:=o7 [eH 0 0,eH 1 0,eH 2 0,eH 3 0]
theorem LX:aU (AW 64):=fa.ok (X:=[]) (k:=3) (T:=k8 0 [0,1,2,3,4,5,6,7,8,9,10,11,12,13,14]) (by repeat' first | exact .nil | refine .cons ?_ ?_ | refine ⟨?_,?_⟩ | (intro W h hG; kernel_rfl) | kernel_rfl) rfl
theorem LY:aU (AW 32):=fa.ok (X:=[]) (k:=3) (T:=k8 0 [0,1,2,3,4,5,6,7,8,9,10,11,12,13,14]) (by repeat' first | exact .nil | refine .cons ?_ ?_ | refine ⟨?_,?_⟩ | (intro W h hG; kernel_rfl) | kernel_rfl) rfl
theorem LZ:aU AX:=fa.ok (X:=[]) (k:=2) (T:=o7 [eH 0 7]) (by repeat' first | exact .nil | refine .cons ?_ ?_ | refine ⟨?_,?_⟩ | (intro W h hG; kernel_rfl) | kernel_rfl) rfl
theorem L1:aU AY:=fa.ok (X:=[]) (k:=1) (T:=LW) (by repeat' first | exact .nil | refine .cons ?_ ?_ | refine ⟨?_,?_⟩ | (intro W h hG; kernel_rfl) | kernel_rfl) rfl
theorem L2:aU AZ:=fa.ok (X:=[]) (k:=1) (T:=k8 0 [0,1,2]) (by repeat' first | exact .nil | refine .cons ?_ ?_ | refine ⟨?_,?_⟩ | (intro W h hG; kernel_rfl) | kernel_rfl) rfl
theorem L4:aU Lu:=fa.ok (X:=[]) (k:=2) (T:=k8 0 [0,1,2]) (by repeat' first | exact .nil | refine .cons ?_ ?_ | refine ⟨?_,?_⟩ | (intro W h hG; kernel_rfl) | kernel_rfl) rfl
theorem L5:aU LC:=Ck.ok (T:=[]) (k:=2) (by repeat' first | exact .nil | refine .cons ?_ ?_ | refine ⟨?_,?_⟩ | (intro W h hG; kernel_rfl) | kernel_rfl) rfl
theorem L6:aU LD:=Ck.ok (T:=[]) (k:=2) (by repeat' first | exact .nil | refine .cons ?_ ?_ | refine ⟨?_,?_⟩ | (intro W h hG; kernel_rfl) | kernel_rfl) rfl
theorem L7:aU LG:=Ck.ok (T:=[]) (k:=2) (by repeat' first | exact .nil | refine .cons ?_ ?_ | refine ⟨?_,?_⟩ | (intro W h hG; kernel_rfl) | kernel_rfl) rfl
theorem L8:aU LH:=Ck.ok (T:=[]) (k:=2) (by repeat' first | exact .nil | refine .cons ?_ ?_ | refine ⟨?_,?_⟩ | (intro W h hG; kernel_rfl) | kernel_rfl) rfl
noncomputable def TA:bQ:=[⟨AX,LZ⟩,⟨AY,L1⟩,⟨AZ,L2⟩]
theorem aM:aC (fun p:Nat×Int=>Ck [] 3 (cM p.1 p.2)) [(0,64),(1,64),(2,64),(0,32),(1,32),(2,32)]:=by repeat' first | exact .nil | refine .cons ?_ ?_ | refine ⟨?_,?_⟩ | (intro W h hG; kernel_rfl) | kernel_rfl
noncomputable def pc (c:Nat):aL:=⟨c,0,0,0⟩
noncomputable def Oa (c:Nat):Bool:=c == 1 || c == 2 || c == 5
noncomputable def L9 (c:Nat):Tr:=match c with
 | 2=>.ask ⟨false,.add (.mod (.var 2) 8) (.lit (-5)),true⟩ .leaf .leaf
 | 5=>.ask (eH 3 7) .leaf (.ask ⟨false,.add (.mod (.var 3) 8) (.lit (-4)),false⟩ .leaf .leaf)
 | _=>.leaf
theorem Ma:aC (fun c=>fa [] (pc c).A3 2 (L9 c)) [1,2,5]:=by repeat' first | exact .nil | refine .cons ?_ ?_ | refine ⟨?_,?_⟩ | (intro W h hG; kernel_rfl) | kernel_rfl
theorem tq {c:Nat} (m:c∈[1,2,5]):aU (pc c).A3:=(Ma.at m).ok rfl
noncomputable def TB (c:Nat):bQ:=match c with
 | 1=>⟨_,tq (c:=1) (by decide)⟩::TA
 | 2=>⟨_,tq (c:=2) (by decide)⟩::TA
 | 5=>⟨_,tq (c:=5) (by decide)⟩::TA
 | _=>TA
noncomputable def tw:List Nat:=[0,1,2,3,4,5]
theorem Bu:aC (fun c=>Ck (TB c) 5 (pc c).sS) tw:=by repeat' first | exact .nil | refine .cons ?_ ?_ | refine ⟨?_,?_⟩ | (intro W h hG; kernel_rfl) | kernel_rfl
theorem jy {c:Nat} (m:c∈tw):aU (pc c).sS:=(Bu.at m).ok rfl
noncomputable def TC (c:Nat):bQ:=match c with
 | 0=>[⟨_,jy (c:=0) (by decide)⟩]
 | 1=>[⟨_,jy (c:=1) (by decide)⟩]
 | 2=>[⟨_,jy (c:=2) (by decide)⟩]
 | 3=>[⟨_,jy (c:=3) (by decide)⟩]
 | 4=>[⟨_,jy (c:=4) (by decide)⟩]
 | _=>[⟨_,jy (c:=5) (by decide)⟩]
noncomputable def jz:List (Nat×Bool):=[(0,false),(1,true),(2,false),(2,true),(3,true),(4,true),(5,true)]
theorem Bv:aC (fun x:Nat×Bool=>Ck (TC x.1) 7 ((pc x.1).sT x.2)) jz:=by repeat' first | exact .nil | refine .cons ?_ ?_ | refine ⟨?_,?_⟩ | (intro W h hG; kernel_rfl) | kernel_rfl
noncomputable def Mb (c:Nat):Tr:=
 let e (x:Tr):Tr:=.ask ⟨false,.add (.mod (.var 2) 8) (.lit (-5)),true⟩ x x
 let w (x y:Tr):Tr:=.ask ⟨false,.add (.var 6) (.lit 0),true⟩ x (.ask ⟨true,.add (.lit (-128)) (.mul (-1) (.var 6)),true⟩ (.ask ⟨true,.add (.add (.var 6) (.lit (-128))) (.lit 1),true⟩ y y) y)
 match c with
 | 1=>w .leaf .leaf
 | 2=>w (e .leaf) (e .leaf)
 | 5=>w (e .leaf) .leaf
 | _=>.leaf
theorem Bw:aC (fun x:Nat×Bool=>fa (TB x.1) ((pc x.1).sU x.2) 7 (Mb x.1)) jz:=by repeat' first | exact .nil | refine .cons ?_ ?_ | refine ⟨?_,?_⟩ | (intro W h hG; kernel_rfl) | kernel_rfl
theorem Ob {x:Nat×Bool} (m:x∈jz):aU ((pc x.1).sT x.2):=(Bv.at m).ok rfl
theorem Oc {x:Nat×Bool} (m:x∈jz):aU ((pc x.1).sU x.2):=(Bw.at m).ok rfl
theorem Mc:aC (fun w=>Ck [] 3 (A4 w)) [1,4,8]:=by repeat' first | exact .nil | refine .cons ?_ ?_ | refine ⟨?_,?_⟩ | (intro W h hG; kernel_rfl) | kernel_rfl
theorem tx {w:Nat} (m:w∈[1,4,8]):aU (A4 w):=(Mc.at m).ok rfl
theorem Me:aU A5:=Ck.ok (T:=[]) (k:=3) (by repeat' first | exact .nil | refine .cons ?_ ?_ | refine ⟨?_,?_⟩ | (intro W h hG; kernel_rfl) | kernel_rfl) rfl
noncomputable def TD:bQ:=[⟨A5,Me⟩,⟨_,tx (w:=1) (by decide)⟩,⟨_,tx (w:=4) (by decide)⟩,⟨_,tx (w:=8) (by decide)⟩]
theorem Bx:aC (fun x:Nat×Bool=>Ck [] 3 (sV x.1 x.2)) [(0,false),(1,false),(2,false),(0,true),(1,true),(2,true)]:=by repeat' first | exact .nil | refine .cons ?_ ?_ | refine ⟨?_,?_⟩ | (intro W h hG; kernel_rfl) | kernel_rfl
noncomputable def bb:List (Bool×Bool):=[(false,false),(false,true),(true,false),(true,true)]
theorem Mf:aC (fun x:Bool×Bool=>Ck TD 4 (Ba x.1 x.2)) bb:=by repeat' first | exact .nil | refine .cons ?_ ?_ | refine ⟨?_,?_⟩ | (intro W h hG; kernel_rfl) | kernel_rfl
theorem Mg {x:Bool×Bool} (m:x∈bb):aU (Ba x.1 x.2):=(Mf.at m).ok rfl
noncomputable def TE (s z:Bool):bQ:=[⟨_,Mg (x:=(s,z)) (by cases s<;>cases z<;>decide)⟩]
noncomputable def tD:List (Bool×Bool×Nat):=[(false,false,0),(false,false,1),(false,true,1),(false,true,2),(false,false,3),(false,true,3),(true,false,0),(true,false,1),(true,true,1),(true,true,2),(true,false,3),(true,true,3)]
theorem By:aC (fun x:Bool×Bool×Nat=>Ck (TE x.2.1 (Nat.blt x.2.2 3)) 5 (sW x.1 x.2.1 x.2.2)) tD:=by repeat' first | exact .nil | refine .cons ?_ ?_ | refine ⟨?_,?_⟩ | (intro W h hG; kernel_rfl) | kernel_rfl
theorem Od {x:Bool×Bool×Nat} (m:x∈tD):aU (sW x.1 x.2.1 x.2.2):=(By.at m).ok rfl
theorem Oe {x:Nat×Bool} (m:x∈[(0,false),(1,false),(2,false),(0,true),(1,true),(2,true)]):aU (sV x.1 x.2):=(Bx.at m).ok rfl
noncomputable def cZ:List (Nat×Nat):=[(0,0),(0,1),(0,2),(1,0),(1,1),(1,2),(2,0),(2,1),(2,2)]
noncomputable def iA (x:Nat×Nat):aL:=⟨0,0,x.1,x.2⟩
theorem Bz:aC (fun x=>Ck TA 4 (iA x).s8) cZ:=by repeat' first | exact .nil | refine .cons ?_ ?_ | refine ⟨?_,?_⟩ | (intro W h hG; kernel_rfl) | kernel_rfl
theorem Of {x:Nat×Nat} (m:x∈cZ):aU (iA x).s8:=(Bz.at m).ok rfl
noncomputable def tE:List (Nat×Nat):=[(0,0),(0,1),(0,2),(1,0),(1,1),(1,2),(2,0),(2,1),(2,2),(3,1),(3,2)]
theorem aE:aC (fun x:Nat×Nat=>aC (fun y:Nat×Bool=>Ck TD 9 (cE x.1 x.2 y.1 y.2)) [(5,false),(5,true),(6,false),(6,true)]) tE:=by repeat' first | exact .nil | refine .cons ?_ ?_ | refine ⟨?_,?_⟩ | (intro W h hG; kernel_rfl) | kernel_rfl
theorem Og {x:Nat×Nat} (m:x∈tE) {y:Nat×Bool} (n:y∈[(5,false),(5,true),(6,false),(6,true)]):aU (cE x.1 x.2 y.1 y.2):=((aE.at m).at n).ok rfl
theorem Mh:aC (fun f=>Ck [] 8 (ta f)) [false,true]:=by repeat' first | exact .nil | refine .cons ?_ ?_ | refine ⟨?_,?_⟩ | (intro W h hG; kernel_rfl) | kernel_rfl
theorem Mi {f:Bool}:aU (ta f):=(Mh.at (by cases f<;>decide)).ok rfl
theorem Mj:aC (fun x=>Ck [] 7 (iA x).Bb) [(0,0),(0,1),(1,0),(1,1),(2,0),(2,1)]:=by repeat' first | exact .nil | refine .cons ?_ ?_ | refine ⟨?_,?_⟩ | (intro W h hG; kernel_rfl) | kernel_rfl
theorem Mk {x:Nat×Nat} (m:x∈[(0,0),(0,1),(1,0),(1,1),(2,0),(2,1)]):aU (iA x).Bb:=(Mj.at m).ok rfl
noncomputable def tF:List (Nat×Bool):=[(6,false),(7,false),(8,false),(9,false),(10,false),(11,false),(12,false),(13,false),(6,true),(7,true),(8,true),(10,true),(11,true),(12,true)]
theorem BA:aC (fun x:Nat×Bool=>Ck [] 11 (tc x.1 x.2)) tF:=by repeat' first | exact .nil | refine .cons ?_ ?_ | refine ⟨?_,?_⟩ | (intro W h hG; kernel_rfl) | kernel_rfl
theorem Oh {x:Nat×Bool} (m:x∈tF):aU (tc x.1 x.2):=(BA.at m).ok rfl
theorem BB:aC (fun k=>Ck [] 4 (tm k)) [0,1,2,3,4]:=by repeat' first | exact .nil | refine .cons ?_ ?_ | refine ⟨?_,?_⟩ | (intro W h hG; kernel_rfl) | kernel_rfl
theorem BC {k:Nat} (m:k∈[0,1,2,3,4]):aU (tm k):=(BB.at m).ok rfl
theorem aW:aC (fun w=>aC (fun l=>Ck [] 2 (cW w l)) [false,true]) [1,4,8]:=by repeat' first | exact .nil | refine .cons ?_ ?_ | refine ⟨?_,?_⟩ | (intro W h hG; kernel_rfl) | kernel_rfl
theorem Ml {w:Nat} (m:w∈[1,4,8]) {l:Bool}:aU (cW w l):=((aW.at m).at (by cases l<;>decide)).ok rfl
noncomputable def fM (n:Nat) (w:Str) (i:Nat):List bM:=⟨n,4,aV,w⟩::match i with
 | 0=>[]
 | 1=>[⟨n + 4,4,bH,dW⟩]
 | _=>[⟨n + 4,4,bH,cm⟩]
noncomputable def wM (w:Str) (i:Nat):ph:=(aV,[(4,w)])::match i with
 | 0=>[]
 | 1=>[(bH,[(4,dW)])]
 | _=>[(bH,[(4,cm)])]
noncomputable def jA:List (Bool×Nat×Nat):=[(true,2,0),(true,3,0),(true,4,0),(true,3,1),(true,4,1),(true,2,2),(true,3,2),(true,4,2),(false,2,0),(false,3,0),(false,4,0),(false,5,0),(false,3,1),(false,4,1),(false,5,1),(false,2,2),(false,3,2),(false,4,2),(false,5,2)]
noncomputable def jB (r:Bool):Str:=cond r dp dW
theorem BE:aC (fun x:Bool×Nat×Nat=>Ck [] 3 (tf (fM x.2.1 (jB x.1) x.2.2) (wM (jB x.1) x.2.2))) jA:=by repeat' first | exact .nil | refine .cons ?_ ?_ | refine ⟨?_,?_⟩ | (intro W h hG; kernel_rfl) | kernel_rfl
noncomputable def BF (x:Bool×Nat×Nat):aK:=tf (fM x.2.1 (jB x.1) x.2.2) (wM (jB x.1) x.2.2)
theorem Oi {x:Bool×Nat×Nat} (m:x∈jA):aU (BF x):=(BE.at m).ok rfl
noncomputable def BG (x:Bool×Nat×Nat):aK:=tg (fM x.2.1 (jB x.1) x.2.2)
noncomputable abbrev BH (x:List bM):Prop:=kR TD (tg x) 10 (LR x)
theorem BI:aC (fun x:Bool×Nat×Nat=>BH (fM x.2.1 (jB x.1) x.2.2)) jA:=by repeat' first | exact .nil | refine .cons ?_ ?_ | refine ⟨?_,?_⟩ | (intro W h hG; kernel_rfl) | kernel_rfl
theorem Oj {x:Bool×Nat×Nat} (m:x∈jA):jd (BG x):=(BI.at m).ok rfl
noncomputable def BJ:List (List bM):=[[⟨1,1,aV,dp⟩],[⟨1,4,aV,dp⟩],[⟨2,4,aV,dp⟩],[⟨2,8,bH,cm⟩],[⟨3,4,bH,dW⟩],[⟨1,4,bH,cm⟩],[⟨2,4,bH,cm⟩],[⟨3,4,bH,cm⟩]]
theorem Mm:aC BH BJ:=by repeat' first | exact .nil | refine .cons ?_ ?_ | refine ⟨?_,?_⟩ | (intro W h hG; kernel_rfl) | kernel_rfl
noncomputable def fS (n:Nat) (e:SE):Facts:=[.ge [(.var n,1),(e,-1)] 0,.le [(.var n,1),(e,-1)] 0]
noncomputable def pk (n:Nat) (k:Int):Facts:=[.ge [(.var n,1)] k]
noncomputable def dG (c:Nat):Int:=match c with
 | 0=>0
 | 1=>1
 | 3=>2
 | 4=>3
 | _=>4
noncomputable def cB (j:Nat):Nat:=match j with
 | 1=>2
 | 3=>1
 | _=>0
noncomputable def tG (c j:Nat):SE:=.add (.lit (dG c)) (.mul 5 (.add (.var 51) (.mul 8 (.add (.var 52) (.mul 8 (.add (.var 4) (.mul 4 (.add (.lit j) (.mul 4 (.var 54))))))))))
noncomputable def Mn:SE:=.tab [0,4,5,12,13,3,8,15] (.var 51)
noncomputable def Mo:SE:=.tab [1,5,12,7,9,0,13,14] (.var 52)
noncomputable def BK:Facts:=aH 51 0 7 ++ (aH 52 0 7 ++ (aH 4 0 3 ++ (pk 54 0 ++ (fS 2 Mn ++ fS 3 Mo))))
noncomputable def pm (c s m:Nat):aL:=⟨c,s,0,m⟩
noncomputable def k9 (x:Nat×Nat×Nat):aK:=⟨1230,25,[.int (tG x.1 x.2.1),vr 0,iL (pm 0 0 x.2.2).sz],BK,.tup [(pm x.1 (cB x.2.1) x.2.2).mem aV,.str (pm x.1 0 0).way],[]⟩
noncomputable def TG:bQ:=[⟨_,LX⟩,⟨_,LY⟩]
noncomputable def BL:List (Nat×Nat×Nat):=[(0,0,0),(0,1,0),(0,2,0),(0,3,0),(1,0,0),(1,1,0),(1,2,0),(1,3,0),(3,0,0),(3,1,0),(3,2,0),(3,3,0),(4,0,0),(4,1,0),(4,2,0),(4,3,0),(5,0,0),(5,1,0),(5,2,0),(5,3,0),
 (0,0,1),(0,1,1),(0,2,1),(0,3,1),(1,0,1),(1,1,1),(1,2,1),(1,3,1),(3,0,1),(3,1,1),(3,2,1),(3,3,1),(4,0,1),(4,1,1),(4,2,1),(4,3,1),(5,0,1),(5,1,1),(5,2,1),(5,3,1)]
theorem Mp:aC (fun x=>Ck TG 4 (k9 x)) BL:=by repeat' first | exact .nil | refine .cons ?_ ?_ | refine ⟨?_,?_⟩ | (intro W h hG; kernel_rfl) | kernel_rfl
noncomputable def dq (g s:Bool) (way turn:SE):SE:=
 let e:SE:=.add way (.mul 7 (.add (cond s (.add (.lit 4294967296) (.var 0)) (.var 0)) (.mul 4294967296 (.add turn (.mul 20 (.var 48))))))
 cond g (.mul (-1) e) e
noncomputable def tH (s:Bool):Facts:=cond s (aH 0 (-2147483648) (-1)) (aH 0 0 2147483647) ++ pk 48 0
noncomputable def BM (g s:Bool):aK:=⟨1244,30,[.int (dq g s (.var 49) (.var 47))],tH s ++ (aH 49 0 2 ++ (aH 47 0 19 ++ cond g (gI ⟨true,dq false s (.var 49) (.var 47),false⟩ true) [])),hl 62,[⟨1237,20,[vr 49,vr 47,vr 0],hl 62,[]⟩]⟩
noncomputable def Mq:SE:=.tab [0,3,8,15,12,5,7,4,10,1] (.var 47)
noncomputable def pq (s:Bool):Facts:=tH s ++ (aH 47 0 9 ++ (fS 1 Mq ++ fS 20 (.var 0)))
noncomputable def fe (m:Nat):SE:=.add (.lit m) (.mul 2 (.var 47))
noncomputable def iB (m:Nat):AV:=kX (kW (.var 1) (pm 0 0 m).sz)
noncomputable def Mr (g s:Bool) (m:Nat):aK:=⟨1244,30,[.int (dq g s (.var 49) (fe m))],pq s ++ aH 49 3 4,.tup [ew aY [iB m,iy (.var 0) bH],.lst (wants [(bH,match m with | 0=>[(4,dW),(8,cm)] | _=>[(4,cm)])] 0)],[]⟩
noncomputable def Ms (g s:Bool) (m:Nat):aK:=⟨1244,30,[.int (dq g s (.lit 5) (fe m))],pq s,.tup [ew aY (cond g [hl 60,iB m] [iB m,hl 60]),.lst [.tup [.str aV,vr 20,.dicI [(4,hl 61)]]]],[⟨1230,25,[vr 48,vr 0,iL (pm 0 0 m).sz],.tup [hl 60,hl 61],[]⟩]⟩
noncomputable def tI (n:Nat):Facts:=[.ge [(.var n,1),(.div (.var 0) 2,1)] 5,.le [(.var n,1),(.div (.var 0) 2,1)] 5]
noncomputable def Mt (g s:Bool) (m:Nat):aK:=⟨1244,30,[.int (dq g s (.lit 6) (fe m))],pq s ++ (tI 5 ++ tI 21),.tup [ew aY [hl 60,iy (.var 5) bH],.lst [.tup [.str aV,vr 20,.dicI [(4,hl 61)]],.tup [.str bH,vr 21,.dicI [(4,.str (match m with | 0=>dW | _=>cm))]]]],[⟨1230,25,[vr 48,vr 0,iL (pm 0 0 m).sz],.tup [hl 60,hl 61],[]⟩]⟩
theorem Mu:aC (fun x:Bool×Bool=>Ck [] 5 (BM x.1 x.2)) bb:=by repeat' first | exact .nil | refine .cons ?_ ?_ | refine ⟨?_,?_⟩ | (intro W h hG; kernel_rfl) | kernel_rfl
theorem Mv:aC (fun m=>aC (fun x:Bool×Bool=>Ck TG 5 (Mr x.1 x.2 m)) bb) [0,1]:=by repeat' first | exact .nil | refine .cons ?_ ?_ | refine ⟨?_,?_⟩ | (intro W h hG; kernel_rfl) | kernel_rfl
theorem Mw:aC (fun m=>aC (fun x:Bool×Bool=>Ck TG 5 (Ms x.1 x.2 m)) bb) [0,1]:=by repeat' first | exact .nil | refine .cons ?_ ?_ | refine ⟨?_,?_⟩ | (intro W h hG; kernel_rfl) | kernel_rfl
theorem Mx:aC (fun m=>aC (fun x:Bool×Bool=>Ck TG 5 (Mt x.1 x.2 m)) bb) [0,1]:=by repeat' first | exact .nil | refine .cons ?_ ?_ | refine ⟨?_,?_⟩ | (intro W h hG; kernel_rfl) | kernel_rfl
structure jC where
 way:Int
 turn:SE
 F:Facts
 name:Str
 w:List (Int×Str)
noncomputable def t5 (i:Int):SE:=.add (.lit i) (.mul 5 (.var 47))
noncomputable def t4 (i:Int):SE:=.add (.lit i) (.mul 4 (.var 47))
noncomputable def ll:List (Int×Str):=[(1,dp),(4,dp)]
noncomputable def pz:List jC:=[⟨0,t5 0,aH 47 0 3,iu,ll⟩,⟨0,t5 1,aH 47 0 3,jq,ll⟩,⟨0,t5 2,aH 47 0 3,jo,ll⟩,⟨0,t5 3,aH 47 0 3,jn,ll⟩,⟨0,t5 4,aH 47 0 3,jr,ll⟩,⟨1,.var 47,aH 47 0 19,kV,[(4,dp)]⟩,
 ⟨2,t4 0,aH 47 0 4,oW,[(1,dp)]⟩,⟨2,t4 1,aH 47 0 4,oV,[(1,dp)]⟩,⟨2,t4 2,aH 47 0 4,oY,[(1,dp)]⟩,⟨2,t4 3,aH 47 0 4,oX,[(1,dp)]⟩]
noncomputable def tJ (j:jC):AV:=ew j.name [AU (.var 0) aV]
noncomputable def cJ (j:jC):aK:=⟨1237,20,[iL j.way,.int j.turn,vr 0],j.F ++ fS 20 (.var 0),.tup [tJ j,.lst (wants [(aV,j.w)] 0)],[]⟩
theorem aJ:aC (fun j=>Ck [] 3 (cJ j)) pz:=by repeat' first | exact .nil | refine .cons ?_ ?_ | refine ⟨?_,?_⟩ | (intro W h hG; kernel_rfl) | kernel_rfl
noncomputable def dK:List Stmt:=q5 (ae 135)
noncomputable def c0:Fs:=⟨ki (ae 135),true⟩
noncomputable def lp:Expr:=match dK with
 | _::_::.For t _ _ _ _::_=>t
 | _=>.Constant .none 0 ⟨0,0,0,0⟩
noncomputable def BN:Expr:=match dK with
 | _::_::.For _ i _ _ _::_=>i
 | _=>.Constant .none 0 ⟨0,0,0,0⟩
noncomputable def eI:List Stmt:=match dK with
 | _::_::.For _ _ b _ _::_=>b
 | _=>[]
noncomputable def tA:List Stmt:=eI.take 4
noncomputable def tB:List Stmt:=(eI.drop 4).take 2
noncomputable def tC:List Stmt:=eI.drop 6
noncomputable def eJ:Str:=⟨#[105,115,101,116]⟩
noncomputable def iC:Str:=⟨#[99,101,108,108,115]⟩
noncomputable def lq:Str:=⟨#[112,108,97,99,101]⟩
noncomputable def lr:Str:=⟨#[99,101,108,108]⟩
noncomputable def tL:Str:=⟨#[108,105,110,101]⟩
noncomputable def tM:Str:=⟨#[119,97,110,116,101,100]⟩
noncomputable def tN:Str:=⟨#[102,111,117,110,100]⟩
noncomputable def BO:Str:=⟨#[102,114,101,101]⟩
noncomputable def BQ:Str:=⟨#[116,117,114,110,115]⟩
theorem aC.hd {α:Type} {P:α→Prop} {a:α} {l:List α} (h:aC P (a::l)):P a:=h.at (.head _)
theorem aC.tl {α:Type} {P:α→Prop} {a:α} {l:List α} (h:aC P (a::l)):aC P l:=by cases h; assumption
noncomputable def du {α β:Type} {P:α→Prop} (f:α→Bool) (c:(a:α)→P a→β):(l:List α)→aC P l→List β
 | [],_=>[]
 | a::l,h=>cond (f a) [c a h.hd] (du f c l h.tl)
structure dw where
 line:AV
 wnt:List AV
 encs:List AV
 forms:List AV
 fline:AV
 F:Facts
 T:bQ
 Y:kO
noncomputable def pA (b:Int) (t w:Nat):Pr:=⟨1251,15,[iL b,vr t,.int (.div (.var 43) 196)],vr w,[]⟩
noncomputable def dw.pre (q:dw):List Pr:=[⟨1244,30,[vr 40],.tup [q.line,.lst q.wnt],[]⟩,⟨982,40,[hl 73,q.fline],.lst q.forms,[]⟩,pA 8 44 31,pA 32 44 32,pA 64 44 33,pA 32 45 34]
noncomputable def My:Facts:=pk 43 0 ++ (aH 44 0 13 ++ aH 45 0 13)
noncomputable def dw.G (q:dw):Facts:=q.F ++ My
noncomputable def jD:ao:=[(eJ,hl 73),(iC,hl 74)]
noncomputable def tO:ao:=(lr,vr 40)::(lq,hl 75)::jD
noncomputable def dw.Mz (q:dw):ao:=(tN,.lst q.encs)::(tL,q.line)::(tM,.lst q.wnt)::tO
noncomputable def dw.BR (q:dw):ao:=(BO,vr 43)::(BQ,.lst [vr 44,vr 45])::(tN,.lst q.encs)::(tL,q.line)::(tM,.lst q.wnt)::jD
section
variable (q:dw) (W:ab) (h:dH W q.pre) (hG:Sat W.ρ q.G)
noncomputable def BS:Ev W 60:=EV hG (HK hG (tabs hG q.pre h q.T q.Y) 40 12) 40
noncomputable def MA:Bool:=isOk (iz (sc:=c0) hG (BS q W h hG) tO tA q.Mz)
noncomputable def MB:Bool:=isOk (iz (sc:=c0) hG (BS q W h hG) q.BR tC jD)
end
structure pB (q:dw):Prop where
 a:∀ W h hG,MA q W h hG = true
 b:∀ W h hG,MB q W h hG = true
namespace aL
variable (p:aL)
noncomputable def pC:Nat:=match p.knd,p.mode with
 | 2,0=>1
 | 2,_=>2
 | _,_=>0
noncomputable def kE:Nat:=match p.knd,p.mode with
 | 2,0=>3
 | k,_=>k
noncomputable def nE:Nat:=(match p.seg with | 0=>0 | _=>1) + (match p.mode with | 1=>0 | _=>1)
noncomputable def MC:Bool:=Nat.beq p.cls 0
noncomputable def bE:Nat:=match p.cls with
 | 0=>0
 | 3 | 4=>2
 | _=>1
noncomputable def two:Bool:=Nat.beq p.cls 2
noncomputable def len (s:Bool):Nat:=p.nE + cond s 3 2
noncomputable def tP (a b:Nat) (c d:Nat):Bool:=Nat.beq a c && Nat.beq b d
noncomputable def s0:Bool:=!(Nat.beq p.cls 0 || Nat.beq p.cls 2)
noncomputable def pD (nm:Bool) (s:Bool):bQ:=du (fun x:Nat×Nat=>tP x.1 x.2 p.kE p.nE) (fun x h=>du (fun y:Nat×Bool=>Nat.beq y.1 (cond s 6 5) && dz y.2 nm) (fun y k=>(⟨cE x.1 x.2 y.1 y.2,k.ok rfl⟩:{ c // aU c })) _ h) tE aE |>.flatten
noncomputable def pE (nm s:Bool):bQ:=du (fun x:Bool×Bool×Nat=>dz x.1 (Nat.beq p.knd 2) && (dz x.2.1 s && Nat.beq x.2.2 (cond nm p.bE 3))) (fun x k=>(⟨sW x.1 x.2.1 x.2.2,k.ok rfl⟩:{ c // aU c })) tD By
noncomputable def tabS (s:Bool):bQ:=du (fun x:Nat×Bool=>Nat.beq x.1 p.cls && dz x.2 s) (fun x k=>(⟨(pc x.1).sT x.2,k.ok rfl⟩:{ c // aU c })) jz Bv ++ du (fun x:Nat×Bool=>Nat.beq x.1 p.cls && dz x.2 s) (fun x k=>(⟨(pc x.1).sU x.2,k.ok rfl⟩:{ c // aU c })) jz Bw
noncomputable def fld (s:Bool):Bool×Nat×Nat→Bool:=fun x=>dz x.1 p.MC && tP x.2.1 x.2.2 (p.len s) p.pC
noncomputable def BV (s:Bool):bQ:=du (p.fld s) (fun x k=>(⟨BF x,Ck.ok k rfl⟩:{ c // aU c })) jA BE
noncomputable def BW (s:Bool):kO:=du (p.fld s) (fun x k=>(⟨BG x,kR.ok k rfl⟩:{ c // jd c })) jA BI
noncomputable def T:bQ:=p.BV p.s0 ++ (cond p.two (p.BV true) [] ++ (du (fun x:Nat×Bool=>Nat.beq x.1 (p.len p.s0 + cond (Nat.beq p.knd 2) 8 4) && dz x.2 p.two) (fun x k=>(⟨tc x.1 x.2,Ck.ok k rfl⟩:{ c // aU c })) tF BA ++ (⟨ta (Nat.blt 0 p.knd),Mi⟩::
 (p.pD true p.s0 ++ (p.pD false p.s0 ++ (cond p.two (p.pD true true ++ p.pD false true) [] ++ (du (fun k=>Nat.beq k p.knd) (fun k h=>(⟨tm k,Ck.ok h rfl⟩:{ c // aU c })) _ BB ++
 (du (fun c=>Nat.beq c p.cls) (fun c h=>(⟨(pc c).sS,Ck.ok h rfl⟩:{ c // aU c })) tw Bu ++ (p.tabS p.s0 ++ (cond p.two (p.tabS true) [] ++ (du (fun x=>tP x.1 x.2 p.knd p.mode) (fun x h=>(⟨(iA x).s8,Ck.ok h rfl⟩:{ c // aU c })) cZ Bz ++
 (du (fun x:Nat×Bool=>Nat.beq x.1 p.seg && dz x.2 (!Nat.beq p.mode 1)) (fun x h=>(⟨sV x.1 x.2,Ck.ok h rfl⟩:{ c // aU c })) _ Bx ++ (p.pE true p.s0 ++ (p.pE false p.s0 ++ (cond p.two (p.pE true true ++ p.pE false true) [] ++
 (du (fun x:Nat×Int=>Nat.beq x.1 p.seg && bc x.2 p.sz) (fun x h=>(⟨cM x.1 x.2,Ck.ok h rfl⟩:{ c // aU c })) _ aM ++ [⟨_,L5⟩,⟨_,L6⟩,⟨_,L7⟩,⟨_,L8⟩,⟨_,L4⟩]))))))))))))))))
noncomputable def pat:dw:=⟨p.line,wants (wM p.way p.pC) 0,p.o8.map p.enc,[p.cY],p.lj,p.facts ++ (fS 20 (.var 0) ++ (match p.knd with | 2=>fS 21 (.var 5) | _=>[])),p.T,p.BW p.s0 ++ cond p.two (p.BW true) []⟩
end aL
noncomputable def MD (n:Nat):List SE:=List.replicate n (.lit 0)
structure Op where
 cY:AV
 oct:List SE
 w:Nat
 way:Str
 shape:AV
structure Ln where
 line:AV
 F:Facts
 fs:List Op
 wnt:ph
 plain:AV
 name:Str
 fo:List AV
namespace Op
variable (o:Op)
noncomputable def fl (l:Ln):bM:=⟨o.oct.length,o.w,l.name,o.way⟩
noncomputable def enc (l:Ln):AV:=k7 (o.oct ++ MD o.w) [kZ o.oct.length o.w l.name (.var 0) o.way] o.cY o.shape
end Op
namespace Ln
variable (l:Ln)
noncomputable def ME:aK:=⟨982,40,[ct,l.line],l.F,.lst l.fo,[]⟩
noncomputable def tQ:aK:=⟨1001,60,[hl 0,l.line],l.F,.lst (l.fs.map fun o=>o.enc l),[⟨982,40,[hl 0,l.line],.lst l.fo,[]⟩]⟩
noncomputable def tR (o:Op):aK:=⟨970,50,[o.cY,l.plain,o.shape],l.F,k7 (o.oct ++ lits 5 o.w) [] o.cY o.shape,[]⟩
noncomputable def tS (o:Op):aK:=tf [o.fl l] l.wnt
end Ln
noncomputable def fT (n:Str) (op num:Int):Op:=⟨aS n [fb] op 0 (-1) 0 0 false num [cq],[.lit op],1,dp,.none⟩
noncomputable def jE (n:Str) (esc op num:Int) (h:List SE):Op:=⟨aS n [iv] op esc (-1) 0 0 false num [cq],h ++ [.lit op],4,dp,.none⟩
noncomputable def tT (j:jC) (fs:List Op):Ln:=⟨tJ j,[],fs,[(aV,j.w)],ew j.name [AU (.var 5) dX],aV,fs.map Op.cY⟩
noncomputable def lu:List Ln:=pz.zip [[fT iu 235 16,jE iu 0 233 17 []],[fT jq 117 29,jE jq 1 133 30 [.lit 15]],[fT jo 124 43,jE jo 1 140 44 [.lit 15]],[fT jn 118 31,jE jn 1 134 32 [.lit 15]],[fT jr 112 19,jE jr 1 128 20 [.lit 15]],[jE kV 0 232 51 []],
 [fT oW 226 58],[fT oV 227 59],[fT oY 224 56],[fT oX 225 57]] |>.map fun x=>tT x.1 x.2
noncomputable def lx:SE:=aL.c8 1
noncomputable def BX:AV:=.inst 660 [(je,iL 3),(bh,.int lx),(jf,iL (-1)),(jg,iL 0),(jh,iL 0),(ji,.int (b8 1))]
noncomputable def BY (m:Nat):List Op:=match m with
 | 0=>let r:SE:=.add (.lit 72) (b8 1)
  [⟨aS aY [fR,o6] 199 0 0 64 0 false 14 [bh,cn],[r,.lit 199,.add (.lit 192) lx],4,dW,BX⟩,⟨aS aY [AP,AM] 184 0 (-1) 64 0 false 15 [jw,cn],[r,.add (.lit 184) lx],8,cm,.none⟩]
 | m=>let r:List SE:=match m with
   | 1=>[]
   | _=>[.add (.lit 64) (b8 1)]
  [⟨aS aY [AO,jl] 184 0 (-1) 32 0 false 10 [jw,cn],r ++ [.add (.lit 184) lx],4,cm,.none⟩,⟨aS aY [iw,jl] 199 0 0 32 0 false 13 [bh,cn],r ++ [.lit 199,.add (.lit 192) lx],4,cm,BX⟩]
noncomputable def cu (m:Nat):Ln:=⟨ew aY [iB m,iy (.var 0) bH],(match m with | 0=>aH 1 0 15 | 1=>aH 1 0 7 | _=>aH 1 8 15),BY m,[(bH,match m with | 0=>[(4,dW),(8,cm)] | _=>[(4,cm)])],ew aY [iB m,iy (.var 5) dX],bH,(BY m).map Op.cY⟩
theorem BZ:aC (fun l=>Ck [] 7 l.ME) (lu ++ [cu 0,cu 1,cu 2]):=by repeat' first | exact .nil | refine .cons ?_ ?_ | refine ⟨?_,?_⟩ | (intro W h hG; kernel_rfl) | kernel_rfl
theorem MF:aC (fun l=>Ck (TA ++ TD) 11 l.tQ) (lu ++ [cu 0,cu 1,cu 2]):=by repeat' first | exact .nil | refine .cons ?_ ?_ | refine ⟨?_,?_⟩ | (intro W h hG; kernel_rfl) | kernel_rfl
theorem MG:aC (fun l=>aC (fun o=>Ck (TA ++ TD) 9 (l.tR o)) l.fs) (lu ++ [cu 0,cu 1,cu 2]):=by repeat' first | exact .nil | refine .cons ?_ ?_ | refine ⟨?_,?_⟩ | (intro W h hG; kernel_rfl) | kernel_rfl
theorem MH:aC (fun l=>aC (fun o=>Ck [] 3 (l.tS o)) l.fs) (lu ++ [cu 0,cu 1,cu 2]):=by repeat' first | exact .nil | refine .cons ?_ ?_ | refine ⟨?_,?_⟩ | (intro W h hG; kernel_rfl) | kernel_rfl
noncomputable def bM.eq (a b:bM):Bool:=Nat.beq a.at_ b.at_ && (Nat.beq a.w b.w && (sEq a.name b.name && sEq a.way b.way))
noncomputable def MI (f:bM):kO:=du (fun l:List bM=>match l with | [g]=>f.eq g | _=>false) (fun x k=>(⟨tg x,kR.ok k rfl⟩:{ c // jd c })) BJ Mm
noncomputable def tU {α:Type} {P:α→Prop} (c:(a:α)→P a→{ c // aU c }):(l:List α)→aC P l→bQ
 | [],_=>[]
 | a::l,h=>c a h.hd::tU c l h.tl
structure tV (l:Ln):Prop where
 en:Ck (TA ++ TD) 11 l.tQ
 pn:aC (fun o=>Ck (TA ++ TD) 9 (l.tR o)) l.fs
 fi:aC (fun o=>Ck [] 3 (l.tS o)) l.fs
noncomputable def ly:List Ln:=lu ++ [cu 0,cu 1,cu 2]
theorem aC.MJ {α:Type} {P Q R S:α→Prop} (f:∀ a,P a→Q a→R a→S a) {l:List α} (h:aC P l) (k:aC Q l) (m:aC R l):aC S l:=by
 induction h with
 | nil=>exact .nil
 | cons h _ ih=>exact .cons (f _ h k.hd m.hd) (ih k.tl m.tl)
theorem B0:aC tV ly:=.MJ (fun _ a b c=>⟨a,b,c⟩) MF MG MH
noncomputable def Ln.pat (l:Ln) (h:tV l):dw:=⟨l.line,wants l.wnt 0,l.fs.map fun o=>o.enc l,l.fo,l.line,l.F ++ fS 20 (.var 0),
 tU (fun o k=>⟨l.tS o,Ck.ok k rfl⟩) l.fs h.fi ++ (⟨l.tQ,h.en.ok rfl⟩::(tU (fun o k=>⟨l.tR o,Ck.ok k rfl⟩) l.fs h.pn ++ [⟨_,BC (k:=3) (by decide)⟩,⟨_,BC (k:=4) (by decide)⟩])),l.fs.flatMap fun o=>MI (o.fl l)⟩
noncomputable def MK (l:Ln):Prop:=∀ h:tV l,pB (l.pat h)
theorem B2:aC MK ly:=by
 repeat' first | exact .nil | refine .cons ?_ ?_ | (intro h; refine ⟨fun W h' hG=>?_,fun W h' hG=>?_⟩<;>kernel_rfl)
noncomputable def iD:List (Nat×Nat):=[(0,0),(0,1),(0,2),(1,0),(1,1),(1,2),(2,0),(2,1)]
noncomputable abbrev cw (c s:Nat) (x:Nat×Nat):Prop:=pB (aL.pat ⟨c,s,x.1,x.2⟩)
end Mine
end
section
set_option backward.match.sparseCases false
open PySem PySem.W PyProof.Rows PySem.Calls
set_option maxRecDepth 100000
namespace Mine
abbrev RW:OpenLaw:=PySem.Challenge.rw_nn0086_01
theorem B4 (P:Params):(KH P).nsMap mainGlobals (Str.ofString "law") = some (.ref 1294):=by kernel_rfl
noncomputable def ML:Stmt:=ae 135
noncomputable def tW:Option (Arguments×List Stmt×Scope):=match ML with
 | .FunctionDef _ args body _ _ _ scope _ _ _=>some (args,body,scope)
 | _=>none
theorem MM:pw.theDef (Str.ofString "law") = tW:=by kernel_rfl
theorem MN:(tW.map fun x=>(x.1.defaults.length,kwWritten? x.1.kwonlyargs x.1.kw_defaults)) = some (0,some []):=by kernel_rfl
theorem MO (P:Params):(aO (bq P) 1294).bind (fun o=>match o.data with | .func fd=>some (o.cls,o.dict,fd.name,fd.qualname,fd.globals,fd.closure,fd.builtins,fd.defaults,fd.kwdefaults,fd.code,some (fd.params,fd.body,fd.scope)) | _=>none) =
  some (.type "function",none,Str.ofString "law",Str.ofString "law",mainNs,[],builtinsNs,.none,.none,.ref 1293,tW.map fun x=>(x.1,.stmts x.2.1,x.2.2)):=by kernel_rfl
noncomputable def Good (w:World) (os:OsState) (h:Heap):Prop:=
 ∀ (s₁:Shared) (a:Addr) (vs:Array Value) (xs:List Int) (as:List Addr) (cl:Str→Option Addr),(∀ b o,h.get? b = some o→s₁.heap.get? b = some o)→s₁.heap.get? a = some { cls:=.type "list",data:=.seq vs }→ReadsAllW [] cl s₁.heap vs.toList (xs.map .int) as→xs.length≤63→
  s₁.gens = #[]→wpAny (model pw w) callerA (PySem.call (.ref 1294) [.ref a]) (fun v s'=>v = .bool true∧OldK s₁.heap s'.heap∧s'.os = s₁.os∧AllBare s'.gens) (fun _ _=>False) s₁
set_option tactic.hygienic true in
theorem Behind.MP {w:World} {os:OsState} {h:Heap} (B:Behind w os h):isTheDefsW pw h (Str.ofString "law"):=by
 have e3:=B.same (a:=3) (by simp)
 have hg:h.isNs mainGlobals = true:=(ez e3).trans (mA _)
 have ho:=MO w.params
 obtain ⟨o,ho,hv⟩:=Option.bind_eq_some_iff.mp ho
 cases hd:o.data<;>rw [hd] at hv<;>try (cases hv; done)
 rename_i fd
 simp only [Option.some.injEq,Prod.mk.injEq] at hv
 obtain ⟨-,-,h1,h2,h3,h4,h5,h6,h7,h8,h9⟩:=hv
 obtain ⟨⟨args,body,sc⟩,hp,hx⟩:=Option.map_eq_some_iff.mp MN
 rw [hp] at h9
 simp only [Option.map_some,Option.some.injEq,Prod.mk.injEq] at h9 hx
 obtain ⟨q1,q2,q3⟩:=h9
 obtain ⟨x1,x2⟩:=hx
 refine ⟨1294,o,fd,args,body,sc,(Pin.globalOf_eq hg _).trans ((congrFun (gf e3) _).trans (B4 _)),B.fact _ _ ho,hd,MM.trans hp,h1,h2,q1,q2,q3,h3,h4,h5,.inl ⟨List.eq_nil_of_length_eq_zero x1,h6⟩,[],x2,.inl ⟨rfl,h7⟩⟩
theorem MQ:pw.bare:=⟨rfl,rfl,rfl,rfl,rfl,by decide +kernel⟩
theorem MR:(opensWell pw && (frees RW.row.toRowW && RW.row.within.isEmpty)) = true:=by decide +kernel
theorem B5:∀ {l:List WData},WShape.hasItems [] l .int = true→∃ xs:List Int,l = xs.map .int
 | [],_=>⟨[],rfl⟩
 | d::r,h=>by
  simp only [WShape.hasItems,Bool.and_eq_true] at h
  obtain ⟨xs,rfl⟩:=B5 h.2
  obtain ⟨i,rfl⟩:=hasW_int h.1
  exact ⟨i::xs,rfl⟩
theorem pre_of {args:List WData} (h:RW.row.toRowW.claim.pre args = true):∃ xs:List Int,args = [.list (xs.map .int)]∧xs.length≤63:=by
 obtain ⟨h1,h2⟩:=pre_splitW h
 obtain ⟨d,r,rfl,hd,hr⟩:=hasAllW_cons h1
 have hr':r = []:=by cases r with
  | nil=>rfl
  | cons _ _=>simp [WShape.hasAll] at hr
 subst hr'
 obtain ⟨l,rfl,hl⟩:=hasW_list hd
 obtain ⟨xs,rfl⟩:=B5 hl
 refine ⟨xs,rfl,?_⟩
 change WTm.holds [] (.and (.not (.lt (.lit (.int (63:Nat))) (.len (.arg 0)))) (.lit (.bool true))) { args:=[.list (xs.map .int)] } = true at h2
 have h3:=(holds_andW h2).1
 simp only [WTm.holds,WTm.value,less?,List.getElem?_cons_zero,List.length_map,Option.map_some] at h3
 by_cases q:(63:Int) < (xs.length:Int)
 ·exfalso; revert h3; simp [Num.less?,q]
 ·omega
theorem MS (xs:List Int):RW.row.toRowW.claim.post [.list (xs.map .int)] (.bool true) [.list (xs.map .int)] = true:=by
 show (WShape.has [] (.bool true) .bool && WTm.holds [] (.eq .res (.lit (.bool true))) _) = true
 simp [WTm.holds,WTm.value,same,WShape.has,WShape.arms]
theorem MT (H:∀ w os h,Behind w os h→Good w os h) (hw:RW.row.toRowW.promised) (k1:RW.row.wellSaid = true):RW.row.Holds:=by
 refine ⟨k1,hw,?_⟩
 refine af fun nG=>?_
 obtain ⟨ok1,k5⟩:=Bool.and_eq_true_iff.mp MR
 obtain ⟨k5,k6⟩:=Bool.and_eq_true_iff.mp k5
 obtain ⟨hsame,hu,ha,hap,hm⟩:=frees_parts k5
 refine nG ?_
 refine ⟨⟨MQ,ok1,by rfl⟩,hw.witness,fun w=>⟨(wC w).1,fun s' hs'=>?_⟩⟩
 refine af fun nG=>?_
 obtain ⟨os,h,hf,B,T,z⟩:=(wC w).2 s' hs'
 refine nG ?_
 have hg:h.isNs mainGlobals = true:=(ez (B.same (a:=3) (by simp))).trans (mA _)
 refine ⟨_,hf,rfl,cF h 1929 os,T,?_,(fun x hx=>nomatch hx),(fun x hx=>nomatch hx),?_⟩
 ·intro n hn
  refine af fun nG=>?_
  obtain rfl:n = Str.ofString "law":=by
   have:n∈[Str.ofString "law"]:=hn
   simpa using this
  refine nG ?_
  exact B.MP
 refine ClaimW.callFrom_of_specG (c:=RW.row.toRowW.claim) (tree:=fun vs=>do match ← nsGet mainNs (Str.ofString "law") with
   | some f=>do ret (← PySem.call f vs)
   | none=>unsupported "claim.caller:no-such-global") z rfl fun args hpre hlay ord hord=>?_
 refine af fun nG=>?_
 obtain ⟨⟨vs,s₁⟩,hlaid⟩:=Option.isSome_iff_exists.mp (layAllW_isSome (R:=[]) (cl:=classAt h) (P:=w.params) (ord:=ord) (fun c hc=>by simp [WRecords.fields?] at hc) args RW.row.args (cF h 1929 os) (pre_splitW hpre).1)
 have keeps:=layAllW_keeps _ _ _ hlaid
 have hal:=layAllW_rest _ _ _ hlaid
 obtain ⟨as,hrd,hin,hold⟩:=reads_layAllW hord _ _ _ hlaid hlay s₁.heap (fun _ _ e=>e)
 have L:Laid [] w (cF h 1929 os) s₁ args vs as:=⟨⟨ord,hord,hlaid⟩,hrd,hin,hold,keeps,hal.1,hal.2.2.1⟩
 obtain ⟨xs,rfl,hlen⟩:=pre_of hpre
 obtain ⟨v,vs',as1,as2,rfl,rfl,r1,r2⟩:=readsAllW_cons_inv hrd
 obtain ⟨rfl,rfl⟩:=readsAllW_nil_inv r2
 obtain ⟨a,arr,as',rfl,hl,ri,rfl⟩:=readsW_list_inv r1
 refine nG ?_
 have hex:s₁.heap.get? a = some { cls:=.type "list",data:=.seq arr }:=by
  obtain ⟨a',q',l1,l2,l3⟩:=layAllW_cons hlaid
  obtain ⟨q,l4,rfl⟩:=layW_list l1
  obtain rfl:q' = ([],_):=(Option.some.inj l2).symm
  obtain ⟨e1,rfl⟩:=Prod.mk.inj l3
  obtain rfl:a = q.2.heap.objs.size:=by
   have:=(List.cons.inj e1).1
   exact Value.ref.inj this
  have hg:=Heap.get?_push_size q.2.heap (o:={ cls:=.type "list",data:=.seq q.1.toArray }) rfl
  obtain ⟨o,e,_,n,d⟩:=hl
  have e:(q.2.heap.push { cls:=.type "list",data:=.seq q.1.toArray }).get? q.2.heap.objs.size = some o:=e
  rw [hg] at e; cases e
  cases d
  exact hg
 have hi:=ident_freeW hu ha hap
 have hwi:RW.row.toRowW.claim.within = []:=List.isEmpty_iff.mp k6
 have G1:s₁.heap.Ns mainGlobals (s₁.heap.nsMap mainGlobals):=by
  have n1:h.Ns mainGlobals (h.nsMap mainGlobals):=.of_isNs hg
  obtain ⟨o,es,ep,ho,hd,hk,hmm⟩:=n1
  refine .of_isNs ?_
  rw [← hg]
  exact ez ((keeps _ _ ho).trans ho.symm)
 have hlawv:s₁.heap.nsMap mainGlobals (Str.ofString "law") = some (.ref 1294):=by
  obtain ⟨o,es,ep,ho,hd,hk,hmm⟩:=(.of_isNs hg:h.Ns mainGlobals (h.nsMap mainGlobals))
  have e1:s₁.heap.get? mainGlobals = h.get? mainGlobals:=(keeps _ _ ho).trans ho.symm
  exact (congrFun (gf e1) _).trans ((congrFun (gf (B.same (a:=3) (by simp))) _).trans (B4 _))
 have z:=H w os h B s₁ a arr xs as' (classAt h) keeps hex ri hlen hal.1
 refine ⟨_,s₁,hlaid,?_⟩
 refine wpAny_bind (wpAny_nsGet G1 ?_)
 rw [hlawv]
 refine wpAny_bind (wpAny_mono z (fun v s' g=>wpAny_pure ?_) fun e s' g=>g.elim)
 refine af fun nG=>?_
 obtain ⟨rfl,g1,g2,g3⟩:=g
 refine nG ?_
 have gw:GoodWG RW.row.toRowW.claim (classAt h) (ExcName.means h) [.list (xs.map .int)] s₁ (.ok (.ret (.bool true))) s':=
  ⟨.inl ⟨.bool true,.bool true,[],rfl,fun _=>rfl,.bool true,MS xs,fun _=>⟨.nil,fun _ h=>nomatch h⟩⟩,g1,g2,g3⟩
 have zz:=gw.laid (c:=RW.row.toRowW.claim) hsame hwi hi L
 exact ⟨_,rfl,zz.1,zz.2.1,zz.2.2,fun q=>nomatch q⟩
end Mine
end
section
set_option backward.match.sparseCases false
open PySem PySem.W PyProof.Rows PySem.Calls
set_option maxRecDepth 100000
set_option maxHeartbeats 4000000
namespace Mine
noncomputable def gM (m:Nat):AV:=.lst ((vars 60 m).map .int)
noncomputable def fU (m:Nat):ao:=[(iC,gM m),(eJ,ct)]
noncomputable def ey (m i:Nat):Nat:=match i with
 | 0=>59 + m
 | i=>59 + i
noncomputable def fV (p:Nat):SE:=.add (.abs (.var p)) (.mul 3 (.abs (.var 40)))
noncomputable def B6:ao:=[(tN,hl 70),(tL,hl 71),(tM,hl 72),(eJ,hl 73)]
noncomputable def B7 (m i:Nat):ao:=(iC,gM m)::(lq,iL i)::(lr,vr 40)::B6
noncomputable def MU (m i:Nat):ao:=(BO,.int (fV (ey m i)))::(BQ,.lst [.int (.mod (fV (ey m i)) 14),.int (.mod (.add (.div (fV (ey m i)) 14) (.lit i)) 14)])::(iC,gM m)::B6
theorem iE {ρ:Nat→Int}:Sat ρ []:=f9
noncomputable def iF (W:ab):Ev W 60:=EV (W:=W) iE (HK iE Ku 40 12) 40
noncomputable def B8 (W:ab) (x:Nat×Nat):Bool:=isOk (iz (W:=W) (sc:=c0) iE (iF W) (B7 x.1 x.2) tB (MU x.1 x.2))
noncomputable def tY:List (Nat×Nat):=[(1,0),(2,0),(2,1),(3,0),(3,1),(3,2),(4,0),(4,1),(4,2),(4,3),(5,0),(5,1),(5,2),(5,3),(5,4),(6,0),(6,1),(6,2),(6,3),(6,4),(6,5)]
noncomputable def fW:Str:=⟨#[115,99,114,105,112,116]⟩
noncomputable def lz (n:Nat):AV:=.lst ((vars 100 n).map .int)
noncomputable def pF (n:Nat):List SE:=vars 100 (min n 5) ++ [.lit (n * 7919 + 6)]
noncomputable def tZ (W:ab) (n:Nat):Bool:=isOk (iz (W:=W) (sc:=c0) iE (iF W) [(eJ,hl 73),(fW,lz n)] ((dK.drop 1).take 1) [(iC,.lst ((pF n).map .int)),(eJ,hl 73)])
section
variable {W W':ab} {g:GH} {ad ad':List Addr}
theorem B9:∀ {es es':List SE} {vs:List Value},vals W.ρ es = vals W'.ρ es'→ah W ⟨g,ad⟩ vs (es.map .int)→ah W' ⟨g,ad'⟩ vs (es'.map .int)
 | [],[],_,_,r=>r
 | e::es,e'::es',_,h,r=>by
  obtain ⟨h1,h2⟩:=List.cons.inj h
  obtain ⟨a,r⟩:=r
  exact .mk (show bK (e'.val W'.ρ) _ from h1▸a) (B9 h2 r)
 | [],_::_,_,h,_ | _::_,[],_,h,_=>(by cases h)
theorem gN {es es':List SE} {v:Value} (h:vals W.ρ es = vals W'.ρ es') (r:Rel W ⟨g,ad⟩ v (.lst (es.map .int))):Rel W' ⟨g,ad'⟩ v (.lst (es'.map .int)):=by
 obtain ⟨a,r⟩:=r
 exact .mk a (B9 h r)
theorem Ca {ρ ρ':Nat→Int}:∀ {m k:Nat},(∀ n,k≤n→ρ n = ρ' n)→vals ρ (vars k m) = vals ρ' (vars k m)
 | 0,_,_=>rfl
 | m + 1,k,h=>by show ρ k::vals ρ (vars (k + 1) m) = ρ' k::_; rw [h k (Nat.le_refl _),Ca fun n l=>h n (by lia)]
end
theorem lA:nl ct = true:=by kernel_rfl
theorem Rel.ad {W:ab} {g:GH} {ad ad':List Addr} {v:Value} {a:AV} (h:nl a = true) (r:Rel W ⟨g,ad⟩ v a):Rel W ⟨g,ad'⟩ v a:=dQ (fun _ _ e=>e) h r
structure Fits (W:ab) (m i:Nat) (q:dw) (ρ:Nat→Int) (ζ:Hz):Prop where
 ck:pB q
 nl:ba [.lst q.encs,q.line,.lst q.wnt] = true
 pl:∀ (W:ab) V v,Rel W V v q.line→handedIn v = true
 hi:∀ n,60≤n→ρ n = W.ρ n
 x:ρ 40 = W.ρ (60 + i)
 fr:(fV (ey m i)).val ρ = ρ 43
 t1:(fV (ey m i)).val ρ % 14 = ρ 44
 t2:((fV (ey m i)).val ρ / 14 + i) % 14 = ρ 45
 z3:(ζ 73).1 = ct
 z4:(ζ 74).1 = gM m
 z5:(ζ 75).1 = iL i
 G:Sat ρ q.G
 pre:dH (W.re (fun n=>.lit (ρ n)) ζ) q.pre
theorem MV {a b c:AV} (h:ba [a,b,c] = true):Mine.nl a = true∧Mine.nl b = true∧Mine.nl c = true:=⟨(both h).1,(both (both h).2).1,(both (both (both h).2).2).1⟩
theorem MW:eI = tA ++ (tB ++ (tC ++ [])):=by
 rw [List.append_nil]
 exact ((List.take_append_drop 4 eI).symm.trans (congrArg (tA ++ ·) (List.take_append_drop 2 (eI.drop 4)).symm)).trans (by rw [List.drop_drop]; rfl)
theorem turn {W:ab} {m i:Nat} (hm:(m,i)∈tY) (hB:∀ W,B8 W (m,i) = true) {q:dw} {ρ:Nat→Int} {ζ:Hz} (a:Fits W m i q ρ ζ) (c:ai W 60 c0) (hc:c.ad = []):az c ((lr,vr (60 + i))::(lq,iL i)::fU m) [] (execs eI c.env) (.next (fU m) []):=by
 refine af fun nG=>?_
 obtain ⟨n1,n2,n3⟩:=MV a.nl
 refine nG ?_
 have vv:vals W.ρ (vars 60 m) = vals ρ (vars 60 m):=Ca fun n l=>(a.hi n l).symm
 let WA:=W.re (fun n=>.lit (ρ n)) ζ
 have z4:∀ {V:Vw} {v},Rel WA V v (hl 74)→Rel W ⟨V.g,[]⟩ v (gM m):=fun r=>a.z4▸r
 have z4':∀ {V:Vw} {v},Rel W ⟨V.g,[]⟩ v (gM m)→Rel WA V v (hl 74):=fun r=>by show Rel W _ _ (ζ 74).1; rw [a.z4]; exact r
 let ζB:Hz:=fun n=>match n with
  | 70=>⟨.lst q.encs,fun _ _ _ ⟨_,_⟩=>rfl⟩
  | 71=>⟨q.line,a.pl⟩
  | 72=>⟨.lst q.wnt,fun _ _ _ ⟨_,_⟩=>rfl⟩
  | n=>ik n
 let WB:=WA.re .var ζB
 rw [MW]
 refine az.on (X:=WA.vals) (σ':=tO) (τ':=jD) ?_ (.cons rfl (fun V v r=>(a.x▸r:bK (ρ 40) v)) (.cons rfl (fun V v r=>?_) (.cons rfl (fun V v r=>?_) (.cons rfl (fun V v r=>z4' (gN rfl r)) .nil)))) (.cons rfl (fun V v r=>gN rfl (z4 r)) (.cons rfl (fun V v r=>?_) .nil))
 ·refine gJ (a.ck.a WA a.pre a.G) (c.on WA.vals) hc _ _ ?_
  refine az.on (X:=WB.vals) (σ':=B7 m i) (τ':=jD) ?_ (.cons rfl (fun V v r=>gN (W:=W) vv (z4 r)) (.cons rfl (fun V v r=>?_) (.cons rfl (fun V v r=>r) (.cons rfl (fun V v r=>(Rel.ad n1 r:Rel WA ⟨V.g,[]⟩ v (.lst q.encs))) (.cons rfl (fun V v r=>(Rel.ad n2 r:Rel WA ⟨V.g,[]⟩ v q.line)) (.cons rfl (fun V v r=>(Rel.ad n3 r:Rel WA ⟨V.g,[]⟩ v (.lst q.wnt))) (.cons rfl (fun V v r=>r) .nil))))))) (.cons rfl (fun V v r=>r) (.cons rfl (fun V v r=>r) .nil))
  ·refine gJ (hB WB) ((c.on WA.vals).on WB.vals) hc _ _ ?_
   refine az.on (X:=WA.vals) (σ':=q.BR) (τ':=jD) ?_ (.cons rfl (fun V v r=>(a.fr▸r:bK (ρ 43) v)) (.cons rfl (fun V v r=>?_) (.cons rfl (fun V v r=>Rel.ad (W:=WA) (g:=V.g) (ad:=[]) (a:=.lst q.encs) n1 r) (.cons rfl (fun V v r=>Rel.ad (W:=WA) (g:=V.g) (ad:=[]) (a:=q.line) n2 r) (.cons rfl (fun V v r=>Rel.ad (W:=WA) (g:=V.g) (ad:=[]) (a:=.lst q.wnt) n3 r) (.cons rfl (fun V v r=>r) (.cons rfl (fun V v r=>z4' (gN vv.symm r)) .nil))))))) (.cons rfl (fun V v r=>r) (.cons rfl (fun V v r=>r) .nil))
   ·exact gJ (a.ck.b WA a.pre a.G) (((c.on WA.vals).on WB.vals).on WA.vals) hc [] _ .nil
   ·exact gN (W:=WB) (W':=WA) (es:=[.mod (fV (ey m i)) 14,.mod (.add (.div (fV (ey m i)) 14) (.lit i)) 14]) (es':=[.var 44,.var 45]) (by show [_,_] = [_,_]; rw [show (SE.var 44).val WA.ρ = _ from a.t1.symm,show (SE.var 45).val WA.ρ = _ from a.t2.symm]; rfl) r
  ·have r:Rel W ⟨V.g,[]⟩ v (ζ 75).1:=r
   rw [a.z5] at r; exact r
 ·show Rel W _ _ (ζ 75).1; rw [a.z5]; exact r
 ·show Rel W _ _ (ζ 73).1; rw [a.z3]; exact Rel.ad lA r
 ·have r:Rel W ⟨V.g,[]⟩ v (ζ 73).1:=r
  rw [a.z3] at r; exact Rel.ad lA r
section
theorem MX {W:ab} {d:Nat} {sc:Fs} {c:ai W d sc} {σ:ao} {ad:List Addr} {h:Heap} (S:SV c σ ⟨[],ad,h⟩):c.ad = []:=by
 have e:ad = []:=oP S.owns
 have p:=S.pre
 cases q:c.ad with
 | nil=>rfl
 | cons x l=>have:=p 0 x (by rw [q]; rfl); rw [show (⟨[],ad,h⟩:Pt).ad = [] from e] at this; exact aq this
theorem az.Cb {W:ab} {d:Nat} {sc:Fs} {c:ai W d sc} {σ σ':ao} {X:Vals} {t:Sem Flow} {b:Bool} (k:az (c.on X) σ' [] t (.ret (.bool b) [])) (i:Sg W (W.on X) σ σ'):az c σ [] t (.ret (.bool b) []):=fun s ad Q E S T=>
 k s ad Q E (S.on i) fun v h' tk ad' S' r=>T v h' tk ad' (SV.on (W:=W.on X) (c:=c.on X) (X:=W.vals) S' .nil) r
noncomputable def pG {α:Type} {P:α→Prop} (o:Out P):Option α:=match o with
 | .ok a _=>some a
 | _=>none
theorem t6 {α:Type} {P:α→Prop} {o:Out P} {a:α} (h:pG o = some a):P a:=by
 cases o with
 | ok b q=>cases h; exact q
 | ask=>exact aq h
 | no=>exact aq h
variable {W:ab}
theorem MY (a b x y:AV):(nk c0 lp (.tup [a,b]) [(iC,x),(eJ,y)]).map (·.1) = some [(lr,b),(lq,a),(iC,x),(eJ,y)]:=by kernel_rfl
noncomputable abbrev pH (W:ab) (m:Nat):Prop:=∀ i,i < m→∀ c:ai W 60 c0,c.ad = []→az c ((lr,vr (60 + i))::(lq,iL i)::fU m) [] (execs eI c.env) (.next (fU m) [])
theorem Cc {m:Nat} (T:pH W m) (c:ai W 60 c0):∀ k i,i + k = m→cI c lp (fun it=>.forLoop lp it eI [] c.env) (fU m) [] (i5 i ((vars (60 + i) k).map .int)) (.next (fU m) [])
 | 0,_,_=>.nil q7
 | k + 1,i,h=>by
  refine af fun nG=>?_
  obtain ⟨r,-,e⟩:=Option.map_eq_some_iff.mp (MY (iL i) (vr (60 + i)) (gM m) ct)
  refine nG ?_
  exact .cons q7 (e▸r.2) (fun g X a G o l _ s ad Q E S T'=>T i (by omega) (c.at g X a G o l) (MX S) s ad Q E S T') (Cc T c k (i + 1) (by omega))
noncomputable def t7:Stmt:=(dK.drop 2).headD default
noncomputable def MZ (v:Ev W 60) (σ:ao) (t it:Expr) (b:List Stmt) (pos:Pos):Out fun l:List AV=>∀ (c:ai W 60 c0) f,cI c t (fun it=>.forLoop t it b [] c.env) σ [] (i5 0 l) f→az c σ [] (exec (.For t it b [] pos) c.env) f:=match t,it with
 | .Tuple ts k tp,.Call (.Name f fp) xs [] cp=>ar (noStar xs) 1 fun ha=>bd (eName (W:=W) c0 σ [] f fp) fun fv hf=>(match fv,hf with
  | .blt 12,hf=>bd (e7 v c0 σ true cp xs []) fun vs hl=>(match vs,hl with
   | ([.lst l],[]),hl=>.ok l fun c fl L=>.yz (ig ha) (hf c) (hl c) (yy rfl) L
   | _,_=>.no 2)
  | _,_=>.no 3)
 | _,_=>.no 4
theorem M0 (W:ab) (m:Nat) (pos:Pos):pG (MZ (iF W) (fU m) lp BN eI pos) = some ((vars 60 m).map .int):=by kernel_rfl
theorem M1 (W:ab) (m:Nat):pG (gD (iF W) c0 (dK.drop 3) (fU m) []) = some (.ret (.bool true) []):=by kernel_rfl
theorem M3:∃ pos,t7 = .For lp BN eI [] pos:=⟨(match t7 with | .For _ _ _ _ p=>p | _=>⟨0,0,0,0⟩),by kernel_rfl⟩
theorem M4:dK = dK.take 1 ++ ((dK.drop 1).take 1 ++ (t7::dK.drop 3)):=by kernel_rfl
theorem M5 {n m:Nat} (hn:n < 64) (hS:∀ W,(List.range 64).all (tZ W) = true) (hI:∀ W:ab,isOk (iz (W:=W) (sc:=c0) iE (iF W) [(fW,hl 76)] (dK.take 1) [(eJ,ct),(fW,hl 76)]) = true) (h76:∀ (V:Vw) v,Rel W V v (hl 76)→Rel W V v (lz n)) (he:vals W.ρ (pF n) = vals W.ρ (vars 60 m)) (T:pH W m) (c:ai W 60 c0) (hc:c.ad = []):az c [(fW,hl 76)] [] (execs dK c.env) (.ret (.bool true) []):=by
 obtain ⟨pos,hf⟩:=M3
 rw [M4]
 refine gJ (hI W) c hc _ _ ?_
 let ζ:Hz:=fun n=>match n with
  | 73=>⟨ct,fun _ _ _ ⟨_,_,_⟩=>rfl⟩
  | n=>ik n
 refine az.Cb (X:=(W.re .var ζ).vals) (σ':=[(eJ,hl 73),(fW,lz n)]) ?_ (.cons rfl (fun V v r=>(Rel.ad lA r:Rel W ⟨V.g,[]⟩ v ct)) (.cons rfl (fun V v r=>gN (W:=W) (W':=W.re .var ζ) rfl (h76 V v r)) .nil))
 refine gJ (List.all_eq_true.mp (hS (W.re .var ζ)) n (List.mem_range.mpr hn)) (c.on (W.re .var ζ).vals) hc _ _ ?_
 refine az.Cb (c:=c.on (W.re .var ζ).vals) (X:=W.vals) (σ':=fU m) ?_ (.cons rfl (fun V v r=>gN (W:=W.re .var ζ) (W':=W) he r) (.cons rfl (fun V v r=>(Rel.ad (W:=W) (g:=V.g) (ad:=[]) lA r)) .nil))
 exact .seq (hf▸t6 (M0 W m pos) c _ (Cc T c m 0 (Nat.zero_add _))) (t6 (M1 W m) c)
end
noncomputable def M6:FE:=⟨1294,ae 135,none,[],[1]⟩
theorem M7:FT[FT.length - 1]? = some M6:=by kernel_rfl
theorem t8 {ρ:Nat→Int}:∀ {l:List Int} {k:Nat},(∀ j,j < l.length→ρ (k + j) = l.getD j 0)→vals ρ (vars k l.length) = l
 | [],_,_=>rfl
 | x::l,k,h=>by
  show ρ k::vals ρ (vars (k + 1) l.length) = _
  rw [show ρ k = x from h 0 (Nat.zero_lt_succ _),t8 fun j q=>(by rw [Nat.add_right_comm]; exact h (j + 1) (Nat.succ_lt_succ q))]
theorem Cd {W:ab} {V:Vw} {hp:Heap} {cl:Str→Option Addr}:∀ {xs:List Int} {vs:List Value} {as:List Addr} {k:Nat},ReadsAllW [] cl hp vs (xs.map .int) as→(∀ j,j < xs.length→W.ρ (k + j) = xs.getD j 0)→ah W V vs ((vars k xs.length).map .int)
 | [],_,_,_,r,_=>(readsAllW_nil_inv r).1
 | x::xs,_,_,k,r,h=>by
  obtain ⟨v,vs',as1,as2,rfl,_,r1,r2⟩:=readsAllW_cons_inv r
  cases r1 with
  | int i t=>exact .mk (show bK (W.ρ k) _ by rw [show W.ρ k = x from h 0 (Nat.zero_lt_succ _)]; exact .mk t) (Cd r2 fun j q=>by rw [Nat.add_right_comm]; exact h (j + 1) (Nat.succ_lt_succ q))
noncomputable def lB (xs:List Int):List Int:=xs.take 5 ++ [(xs.length:Int) * 7919 + 6]
noncomputable def fg (xs:List Int) (k:Nat):Int:=cond (Nat.ble 100 k) (xs.getD (k - 100) 0) ((lB xs).getD (k - 60) 0)
theorem M8 (P:Params):∀ b∈fq.map (·.1),∃ c vs,aO (bq P) c = some ⟨.type "code",none,.fields vs,#[]⟩∧vs[11]? = some (.ref b):=by
 intro b hb
 simp only [fq,List.map_cons,List.map_nil,List.mem_cons,List.not_mem_nil,or_false] at hb
 rcases hb with rfl | rfl
 ·exact ⟨726,_,rfl,rfl⟩
 ·exact ⟨1000,_,rfl,rfl⟩
theorem M9 (hS:∀ W,(List.range 64).all (tZ W) = true) (hI:∀ W:ab,isOk (iz (W:=W) (sc:=c0) iE (iF W) [(fW,hl 76)] (dK.take 1) [(eJ,ct),(fW,hl 76)]) = true) (T:∀ (W:ab) m,m≤6→pH W m) {w:World} {os:OsState} {h:Heap} (B:Behind w os h):Good w os h:=by
 intro s₁ a vs xs as cl hk hl' hr hx hg
 have K0:ag h s₁.heap:=.of hk
 let W0:ab:=⟨w,os,h,B,fg xs,fun _ _ _=>False,fun _ _ _ _ _ r=>r,fun _ _ _ r=>r.elim⟩
 let ζ:Hz:=fun n=>match n with
  | 76=>⟨lz xs.length,fun _ _ _ ⟨_,_⟩=>rfl⟩
  | _=>⟨.none,fun _ _ _ r=>r▸rfl⟩
 let W:ab:=W0.re .var ζ
 have h100:∀ j,j < xs.length→fg xs (100 + j) = xs.getD j 0:=fun j _=>by
  unfold fg
  rw [Nat.ble_eq_true_of_le (Nat.le_add_right 100 j),Nat.add_sub_cancel_left]; rfl
 have hm:(lB xs).length = min xs.length 5 + 1:=by unfold lB; rw [List.length_append,List.length_take,Nat.min_comm]; rfl
 have h60:vals (fg xs) (vars 60 (min xs.length 5 + 1)) = lB xs:=hm▸t8 fun j q=>by
  unfold fg
  rw [show Nat.ble 100 (60 + j) = false from Bool.eq_false_iff.mpr fun e=>by have:=Nat.le_of_ble_eq_true e; omega,Nat.add_sub_cancel_left]; rfl
 have he:vals W.ρ (pF xs.length) = vals W.ρ (vars 60 (min xs.length 5 + 1)):=by
  show vals (fg xs) _ = vals (fg xs) _
  rw [h60]
  have ha:∀ (l m:List SE),vals (fg xs) (l ++ m) = vals (fg xs) l ++ vals (fg xs) m:=fun l m=>by
   induction l with
   | nil=>rfl
   | cons e l ih=>exact congrArg (_::·) ih
  unfold pF lB
  rw [ha]
  refine congr (congrArg _ ?_) rfl
  have:(xs.take 5).length = min xs.length 5:=by rw [List.length_take,Nat.min_comm]
  rw [← this]
  refine t8 fun j q=>?_
  rw [List.length_take] at q
  rw [h100 j (by omega),List.getD_eq_getElem?_getD,List.getD_eq_getElem?_getD,List.getElem?_take_of_lt (by omega)]
 have Bs:Base W (fun _=>False) s₁.heap:=⟨K0,fun u hu=>hu.elim⟩
 have rl:ah W (vw (fun _=>False) ⟨[],[],s₁.heap⟩) [.ref a] [hl 76]:=.mk (show Rel W0 ⟨_,[]⟩ (.ref a) (lz xs.length) from .mk (vs:=vs.toList) (n:=0) ⟨by rw [hl']; rfl,rfl,fun q=>q.elim id cK⟩ (Cd hr h100)) (show ah W _ [] [] from rfl)
 refine wpAny_call (kg (W:=W) (d:=60) (own:=[]) (ad:=[]) (hO (List.mem_of_getElem? M7)) (a:=⟨rfl,by decide,by decide⟩) (fun _=>rfl) rfl Bs .none rl fun c hp1 tk1 en S=>?_)
 refine M5 (W:=W) (n:=xs.length) (by omega) hS hI (fun V v r=>gN (W:=W0) (W':=W) rfl r) he (T W _ (by omega)) c en.ad (mv s₁ hp1 tk1) [] _ _ S fun v h' tk ad S' r=>?_
 have k:ag s₁.heap h':=(ja.trans (en.h▸S'.keep))
 refine ⟨r,⟨fun b o e=>?_,fun b o e=>k.ex id e⟩,rfl,by rw [show (mv (mv s₁ hp1 tk1) h' tk).gens = #[] from hg]; exact fun y hy=>by simp at hy⟩
 refine af fun nG=>?_
 obtain ⟨o',e',s⟩:=k.same b o id e
 refine nG ?_
 cases s with
 | refl=>exact .inl e'
 | grow m hc d=>
  refine af fun nG=>?_
  obtain ⟨c,cv,hf,h11⟩:=M8 w.params b m
  refine nG ?_
  exact .inr (.inl ⟨⟨c,_,cv,hk _ _ (B.fact _ _ hf),rfl,rfl,h11⟩,hc,_,_,d,e'⟩)
theorem dm (a k:Int):a % k + k * (a / k) = a:=Int.emod_add_mul_ediv a k
theorem m0 {a k:Int} (h:k≠0):0≤a % k:=Int.emod_nonneg a h
theorem m1 {a k:Int} (h:0 < k):a % k < k:=Int.emod_lt_of_pos a h
theorem pI {a:Int} {n:Nat} (_:Nat.ble 0 n = true):a % ((n:Int) + 1)≤n:=Int.le_of_lt_add_one (Int.emod_lt_of_pos a (Int.lt_add_one_of_le (Int.natCast_nonneg n)))
theorem d0 {a:Int} {n:Nat} (h:0≤a):0≤a / (n:Int):=Int.ediv_nonneg h (Int.natCast_nonneg n)
theorem Ce (a:Int) (k:Nat):∃ n:Nat,n < k + 1∧a % ((k:Int) + 1) = n:=by
 obtain ⟨n,e⟩:=Int.eq_ofNat_of_zero_le (m0 (a:=a) (k:=(k:Int) + 1) (Int.ne_of_gt (Int.lt_add_one_of_le (Int.natCast_nonneg k))))
 exact ⟨n,Int.ofNat_lt.mp (e▸m1 (Int.lt_add_one_of_le (Int.natCast_nonneg k))),e⟩
section
variable {ρ:Nat→Int}
theorem Sat.app {F G:Facts} (h:Sat ρ F) (k:Sat ρ G):Sat ρ (F ++ G):=fun f m=>(List.mem_append.mp m).elim (h f) (k f)
theorem lC {a b:gQ} (h:a.Ok ρ) (k:b.Ok ρ):Sat ρ [a,b]:=fun f m=>by
 rcases List.mem_cons.mp m with rfl | m
 ·exact h
 ·rcases List.mem_singleton.mp m with rfl; exact k
theorem bR {n:Nat} {lo hi:Int} (h:lo≤ρ n) (k:ρ n≤hi):Sat ρ (aH n lo hi):=lC (show lo≤1 * ρ n + 0 by lia) (show 1 * ρ n + 0≤hi by lia)
theorem fX {n:Nat} {e:SE} (h:ρ n = e.val ρ):Sat ρ (fS n e):=lC (show 0≤1 * ρ n + (-1 * e.val ρ + 0) by lia) (show 1 * ρ n + (-1 * e.val ρ + 0)≤0 by lia)
theorem t9 {n:Nat} {k:Int} (h:k≤ρ n):Sat ρ (pk n k):=fun f m=>by rcases List.mem_singleton.mp m with rfl; exact (show k≤1 * ρ n + 0 by lia)
theorem fY:Sat ρ []:=f9
end
structure Vs where
 w:Int
 n:Int
 b:Int
 i:Int
 s:Int
 e:Int
 f:Int
 t1:Int
 t2:Int
 u1:Int
 u2:Int
 u3:Int
 u4:Int
 x:Int
 k:Int
 r:Int
 y:Int
 p:Int
 q:Int
 z:Int
noncomputable def dM (v:Vs) (σ:Nat→Int) (n:Nat):Int:=cond (Nat.blt n 60) ([v.w,v.n,v.b,v.i,v.s,v.e,0,0,0,0,0,0,0,0,0,0,0,0,0,0,v.w,v.e,0,0,0,0,0,0,0,0,0,v.u1,v.u2,v.u3,v.u4,0,0,0,0,0,v.x,0,0,v.f,v.t1,v.t2,0,v.k,v.r,v.y,0,v.p,v.q,0,v.z].getD n 0) (σ n)
theorem Cf {v:Vs} {σ:Nat→Int} (n:Nat) (h:60≤n):dM v σ n = σ n:=by
 unfold dM
 rw [show Nat.blt n 60 = false from Bool.eq_false_iff.mpr fun e=>by have:=Nat.blt_eq.mp e; lia]; rfl
noncomputable def fZ (w:Nat) (t f:Int):Int:=(Bp w (decide (12≤t))).val fun n=>match n with
 | 12=>t
 | _=>f
theorem pJ {W:ab} {w:Nat} (m:w∈[1,4,8]) {a b:SE} {u:Nat} (h0:0≤a.val W.ρ) (h1:a.val W.ρ≤13) (hu:W.ρ u = fZ w (a.val W.ρ) (b.val W.ρ)):Tells W 15 (.ref 1251) [] [iL (8 * w),.int a,.int b] (vr u) []:=by
 let ρ':Nat→Int:=fun n=>match n with
  | 12=>a.val W.ρ
  | _=>b.val W.ρ
 have G:Sat ρ' (cond (decide (12≤a.val W.ρ)) (aH 12 12 13) (aH 12 0 11)):=by
  by_cases h:12≤a.val W.ρ
  ·rw [decide_eq_true h]; exact bR (show 12≤a.val W.ρ from h) h1
  ·rw [decide_eq_false h]; exact bR (show 0≤a.val W.ρ from h0) (show a.val W.ρ≤11 by lia)
 exact (Ml m (l:=decide (12≤a.val W.ρ)) { W with ρ:=ρ' } G trivial).tr (.mk ..) (fun V v r=>r) fun V v r=>(show bK (W.ρ u) v by rw [hu]; exact r)
theorem Na (W:ab) (θ:Th):pG (oL (W:=W) [] θ ct ct) = some []:=by kernel_rfl
theorem Nb {W:ab} {θ:Th} {ζ:Hz} (V:Vw) (v:Value) (r:Rel W V v ct):Rel (W.re θ ζ) V v ct:=t6 (Na W θ) fY ζ f9 V v r
noncomputable def Cg (m i:Nat):Hz:=fun n=>match n with
 | 73=>⟨ct,fun _ _ _ ⟨_,_,_⟩=>rfl⟩
 | 74=>⟨gM m,fun _ _ _ ⟨_,_⟩=>rfl⟩
 | 75=>⟨iL i,fun _ _ _ ⟨_⟩=>rfl⟩
 | _=>⟨.none,fun _ _ _ r=>r▸rfl⟩
noncomputable abbrev ab.tn (W:ab) (m i:Nat) (ρ:Nat→Int):ab:=W.re (fun n=>.lit (ρ n)) (Cg m i)
theorem Tells.at {W:ab} {d:Nat} {f:Value} {as:List AV} {r b:AV} (T:Tells W d f [] as r []) {p:List AV} (hp:∀ V v,ah W V v p→ah W V v as) (hr:∀ V v,Rel W V v r→Rel W V v b):Tells W d f [] p b []:=T.tr (.mk W.ρ W.η W.ηm W.ηp) hp hr
noncomputable def iG (σ:Nat→Int) (m i:Nat) (w n b ix s e k r y p q z:Int):Vs:=
 let f:Int:=((σ (ey m i)).natAbs:Int) + 3 * ((σ (60 + i)).natAbs:Int)
 ⟨w,n,b,ix,s,e,f,f % 14,(f / 14 + i) % 14,fZ 1 (f % 14) (f / 196),fZ 4 (f % 14) (f / 196),fZ 8 (f % 14) (f / 196),fZ 4 ((f / 14 + i) % 14) (f / 196),σ (60 + i),k,r,y,p,q,z⟩
theorem fits_of {W:ab} {m i:Nat} (hm:i < m) {w n b ix s e k r y p q' z:Int} {q:dw} (ck:pB q) (nl:ba [.lst q.encs,q.line,.lst q.wnt] = true) (pl:∀ (W:ab) V v,Rel W V v q.line→handedIn v = true)
  (F:Sat (dM (iG W.ρ m i w n b ix s e k r y p q' z) W.ρ) q.F) (line:Tells (W.tn m i (dM (iG W.ρ m i w n b ix s e k r y p q' z) W.ρ)) 30 (.ref 1244) [] [vr 40] (.tup [q.line,.lst q.wnt]) []) (ff:Tells (W.tn m i (dM (iG W.ρ m i w n b ix s e k r y p q' z) W.ρ)) 40 (.ref 982) [] [ct,q.fline] (.lst q.forms) []):∃ q ρ ζ,Fits W m i q ρ ζ:=by
 have hp:60≤ey m i:=by
  cases i with
  | zero=>show 60≤59 + m; lia
  | succ j=>show 60≤59 + (j + 1); lia
 generalize hv:iG W.ρ m i w n b ix s e k r y p q' z = v at *
 have h14:∀ a:Int,0≤a % 14∧a % 14≤13:=fun a=>by lia
 have e1:(fV (ey m i)).val (dM v W.ρ) = v.f:=by
  show ((dM v W.ρ (ey m i)).natAbs:Int) + 3 * ((dM v W.ρ 40).natAbs:Int) = _
  rw [Cf _ hp,← hv]; rfl
 have f0:0≤v.f:=by rw [← hv]; show (0:Int)≤_ + _; lia
 have g1:v.t1 = v.f % 14:=by rw [← hv]; rfl
 have g2:v.t2 = (v.f / 14 + i) % 14:=by rw [← hv]; rfl
 have u1:v.u1 = fZ 1 v.t1 (v.f / 196):=by rw [← hv]; rfl
 have u2:v.u2 = fZ 4 v.t1 (v.f / 196):=by rw [← hv]; rfl
 have u3:v.u3 = fZ 8 v.t1 (v.f / 196):=by rw [← hv]; rfl
 have u4:v.u4 = fZ 4 v.t2 (v.f / 196):=by rw [← hv]; rfl
 have a1:=h14 v.f
 have a2:=h14 (v.f / 14 + i)
 rw [← g1] at a1
 rw [← g2] at a2
 refine ⟨q,dM v W.ρ,Cg m i,ck,nl,pl,Cf,by rw [← hv]; rfl,e1,by rw [e1]; exact g1.symm,by rw [e1]; exact g2.symm,rfl,rfl,rfl,F.app (.app (t9 f0) (.app (bR a1.1 a1.2) (bR a2.1 a2.2))),fun _=>line,fun _=>ff.at (fun V v ⟨a,r⟩=>.mk (Nb V _ (Rel.ad (ad:=[]) lA a)) r) fun V v r=>r,
  fun _=>pJ (w:=1) (a:=.var 44) (b:=.div (.var 43) 196) (by decide) a1.1 a1.2 u1,fun _=>pJ (w:=4) (a:=.var 44) (b:=.div (.var 43) 196) (by decide) a1.1 a1.2 u2,fun _=>pJ (w:=8) (a:=.var 44) (b:=.div (.var 43) 196) (by decide) a1.1 a1.2 u3,fun _=>pJ (w:=4) (a:=.var 45) (b:=.div (.var 43) 196) (by decide) a2.1 a2.2 u4,trivial⟩
noncomputable abbrev aX (x:Int):Int:=(x.natAbs:Int)
noncomputable abbrev lX (x:Int):Int:=aX x / 7 % 4294967296
noncomputable def sX (x:Int):Bool:=decide (2147483648≤lX x)
noncomputable def wX (x:Int):Int:=lX x - cond (sX x) 4294967296 0
noncomputable abbrev tX (x:Int):Int:=aX x / 7 / 4294967296 % 20
noncomputable abbrev rX (x:Int):Int:=aX x / 7 / 4294967296 / 20
noncomputable def gX (x:Int):Bool:=decide (x < 0)
theorem Nc {a:Int} (h:0≤a):a = a % 7 + 7 * (a / 7 % 4294967296 + 4294967296 * (a / 7 / 4294967296 % 20 + 20 * (a / 7 / 4294967296 / 20)))∧0≤a / 7 % 4294967296∧a / 7 % 4294967296 < 4294967296∧0≤a / 7 / 4294967296 % 20∧a / 7 / 4294967296 % 20≤19∧0≤a / 7 / 4294967296 / 20:=
 ⟨by rw [dm,dm,dm],m0 (by decide),m1 (by decide),m0 (by decide),pI (by decide),d0 (d0 (d0 h))⟩
theorem parts (x:Int):aX x = aX x % 7 + 7 * (lX x + 4294967296 * (tX x + 20 * rX x))∧0≤lX x∧lX x < 4294967296∧0≤tX x∧tX x≤19∧0≤rX x:=Nc (Int.natCast_nonneg _)
theorem pK {ρ:Nat→Int} {x:Int} {way turn:SE} (h0:ρ 0 = wX x) (hw:way.val ρ = aX x % 7) (ht:turn.val ρ = tX x) (hr:ρ 48 = rX x):(dq false (sX x) way turn).val ρ = aX x∧(dq (gX x) (sX x) way turn).val ρ = x:=by
 have e:(dq false (sX x) way turn).val ρ = aX x:=by
  show way.val ρ + 7 * ((cond (sX x) (SE.add (.lit 4294967296) (.var 0)) (.var 0)).val ρ + 4294967296 * (turn.val ρ + 20 * ρ 48)) = _
  have:(cond (sX x) (SE.add (.lit 4294967296) (.var 0)) (.var 0)).val ρ = lX x:=by
   cases q:sX x<;>(unfold wX at h0; rw [q] at h0)
   ·show ρ 0 = _; rw [h0]; show _ - (0:Int) = _; lia
   ·show 4294967296 + ρ 0 = _; rw [h0]; show _ + (_ - (4294967296:Int)) = _; lia
  rw [this,hw,ht,hr]
  exact (parts x).1.symm
 refine ⟨e,?_⟩
 cases q:gX x
 ·rw [e]; have:=of_decide_eq_false q; show (x.natAbs:Int) = x; lia
 ·show -1 * (dq false (sX x) way turn).val ρ = x
  rw [e]; have:=of_decide_eq_true q; show -1 * (x.natAbs:Int) = x; lia
theorem Ci {ρ:Nat→Int} {x:Int} (h0:ρ 0 = wX x) (hr:ρ 48 = rX x):Sat ρ (tH (sX x)):=by
 refine af fun nG=>?_
 obtain ⟨-,l0,l1,-,-,r0⟩:=parts x
 refine nG ?_
 refine .app ?_ (t9 (hr▸r0))
 unfold wX at h0
 cases q:sX x<;>rw [q] at h0
 ·have:=of_decide_eq_false q
  exact bR (by rw [h0]; show 0≤_ - (0:Int); lia) (by rw [h0]; show _ - (0:Int)≤_; lia)
 ·have:=of_decide_eq_true q
  exact bR (by rw [h0]; show _≤_ - (4294967296:Int); lia) (by rw [h0]; show _ - (4294967296:Int)≤_; lia)
theorem pL {a b:Bool}:(a,b)∈bb:=by cases a<;>cases b<;>decide
theorem Cj:(ly.all fun l=>ba [.lst (l.fs.map fun o=>o.enc l),l.line,.lst (wants l.wnt 0)]) = true:=by kernel_rfl
noncomputable abbrev jR (j:jC):AV:=.tup [tJ j,.lst (wants [(aV,j.w)] 0)]
theorem Nd:(pz.all fun j=>nl (jR j)) = true:=by kernel_rfl
theorem fh {W:ab} {m i:Nat} (hm:i < m) {n:Nat} {j:jC} {fs:List Op} (hj:pz[n]? = some j) (hl:ly[n]? = some (tT j fs)) {k:Int} (hw:aX (W.ρ (60 + i)) % 7 = j.way) (h2:j.way≤2) (ht:∀ ρ:Nat→Int,ρ 47 = k→j.turn.val ρ = tX (W.ρ (60 + i))) (hF:∀ ρ:Nat→Int,ρ 47 = k→Sat ρ j.F):∃ q ρ ζ,Fits W m i q ρ ζ:=by
 have hj':=List.mem_of_getElem? hj
 have hl':=List.mem_of_getElem? hl
 generalize hx:W.ρ (60 + i) = x at *
 refine fits_of (W:=W) hm (w:=wX x) (n:=0) (b:=0) (ix:=0) (s:=0) (e:=0) (k:=k) (r:=rX x) (y:=0) (p:=0) (q':=0) (z:=0) (q:=(tT j fs).pat (B0.at hl')) (B2.at hl' _) (List.all_eq_true.mp Cj _ hl') (fun _ _ _ ⟨_,_,_⟩=>rfl) (.app fY (fX rfl)) ?_ (((BZ.at hl').ok rfl) _ fY trivial)
 generalize hρ:dM (iG W.ρ m i (wX x) 0 0 0 0 0 k (rX x) 0 0 0 0) W.ρ = ρ
 have r0:ρ 0 = wX x:=by rw [← hρ]; rfl
 have r20:ρ 20 = ρ 0:=by rw [← hρ]; rfl
 have r40:ρ 40 = x:=by rw [← hρ]; exact hx
 have r47:ρ 47 = k:=by rw [← hρ]; rfl
 have r48:ρ 48 = rX x:=by rw [← hρ]; rfl
 let WA:=W.tn m i ρ
 let θ:Th:=fun n=>match n with
  | 47=>j.turn
  | 49=>.lit j.way
  | n=>.var n
 let ζ:Hz:=fun n=>match n with
  | 62=>⟨jR j,fun _ _ _ ⟨_,_⟩=>rfl⟩
  | n=>ik n
 let W':=WA.re θ ζ
 refine af fun nG=>?_
 have nj:=List.all_eq_true.mp Nd _ hj'
 have w0:W'.ρ 0 = wX x:=r0
 have w47:W'.ρ 47 = tX x:=ht ρ r47
 have w49:W'.ρ 49 = aX x % 7:=hw.symm
 have w48:W'.ρ 48 = rX x:=r48
 obtain ⟨-,-,-,t0,t1,-⟩:=parts x
 refine nG ?_
 have hc:=pK (ρ:=W'.ρ) (way:=.var 49) (turn:=.var 47) w0 w49 w47 w48
 have G:Sat W'.ρ (BM (gX x) (sX x)).G:=.app (Ci w0 w48) (.app (bR (by rw [w49]; lia) (by rw [w49,hw]; exact h2)) (.app (bR (by rw [w47]; lia) (by rw [w47]; lia)) (by
  cases q:gX x with
  | false=>exact fY
  | true=>
   have:=of_decide_eq_true q
   refine (List.append_nil _▸oM (G:=[]) fY ?_:Sat _ (gI ⟨true,dq false (sX x) (.var 49) (.var 47),false⟩ true))
   show (!decide ((dq false (sX x) (.var 49) (.var 47)).val W'.ρ≤0)) = true
   rw [hc.1,Bool.not_eq_true',decide_eq_false_iff_not]
   show ¬((x.natAbs:Int)≤0); lia)))
 have TJ:Tells WA 20 (.ref 1237) [] [iL j.way,.int j.turn,vr 0] (jR j) []:=((aJ.at hj').ok rfl) WA (.app (hF ρ r47) (fX r20)) trivial
 have TL:=((Mu.at (pL (a:=gX x) (b:=sX x))).ok rfl) W' G ⟨fun _=>TJ.tr (.er WA θ ζ) (fun V v r=>r) fun V v r=>(Rel.ad nj r:Rel WA ⟨V.g,[]⟩ v (jR j)),trivial⟩
 exact TL.tr (.re WA θ ζ) (fun V v ⟨a,r⟩=>.mk (show bK ((dq (gX x) (sX x) (.var 49) (.var 47)).val W'.ρ) _ from hc.2.trans r40.symm▸a) r) fun V v r=>Rel.ad (W:=WA) (g:=V.g) (ad:=[]) (a:=jR j) nj r
noncomputable def nV (x:Int):Int:=[0,3,8,15,12,5,7,4,10,1].getD (tX x / 2).toNat 0
theorem ub {P:Int→Prop} {l:List Int} (h:∀ a∈l,P a) (h0:P 0) (n:Nat):P (l.getD n 0):=by
 rw [List.getD_eq_getElem?_getD]
 cases e:l[n]? with
 | none=>exact h0
 | some a=>exact h a (List.mem_of_getElem? e)
theorem lD (x:Int):0≤nV x∧nV x≤15:=ub (P:=fun a=>0≤a∧a≤15) (l:=[0,3,8,15,12,5,7,4,10,1]) (by decide) (by decide) _
noncomputable def mR (md:Nat):Nat:=match md with
 | 0=>0
 | _=>1
theorem uc:∀ md,mR md∈[0,1]
 | 0=>.head _
 | _ + 1=>.tail _ (.head _)
theorem ud {ρ:Nat→Int} {x:Int} {u:Nat} (h47:ρ 47 = tX x / 2) (hu:tX x % 2 = u):(fe u).val ρ = tX x:=by
 show (u:Int) + 2 * ρ 47 = _
 rw [h47]; lia
theorem ue {ρ:Nat→Int} {x:Int} (h0:ρ 0 = wX x) (h48:ρ 48 = rX x) (h47:ρ 47 = tX x / 2) (h1:ρ 1 = nV x) (h20:ρ 20 = ρ 0):Sat ρ (pq (sX x)):=by
 refine af fun nG=>?_
 obtain ⟨-,-,-,t0,t1,-⟩:=parts x
 refine nG ?_
 exact .app (Ci h0 h48) (.app (bR (by rw [h47]; lia) (by rw [h47]; lia)) (.app (fX (by rw [h1]; show _ = List.getD _ (ρ 47).toNat 0; rw [h47]; rfl)) (fX h20)))
theorem Nf {W:ab} {m i:Nat} (hm:i < m) {md:Nat} (hd:md < 3) (h3:3≤aX (W.ρ (60 + i)) % 7) (h4:aX (W.ρ (60 + i)) % 7≤4) (hu:tX (W.ρ (60 + i)) % 2 = mR md) (hn:Sat (fun _=>nV (W.ρ (60 + i))) (cu md).F):∃ q ρ ζ,Fits W m i q ρ ζ:=by
 have hl:ly[10 + md]? = some (cu md):=by rcases md with _ | _ | _ | md<;>first | rfl | lia
 have hl':=List.mem_of_getElem? hl
 generalize hx:W.ρ (60 + i) = x at *
 have hF:∀ ρ:Nat→Int,ρ 1 = nV x→Sat ρ (cu md).F:=fun ρ h1=>by
  rcases md with _ | _ | _ | md<;>first | lia | (have a:=hn _ (.head _); have b:=hn _ (.tail _ (.head _)); exact lC (by show _≤1 * ρ 1 + 0; rw [h1]; exact a) (by show 1 * ρ 1 + 0≤_; rw [h1]; exact b))
 generalize hv:iG W.ρ m i (wX x) (nV x) 0 0 0 0 (tX x / 2) (rX x) (aX x % 7) 0 0 0 = v
 generalize hρ:dM v W.ρ = ρ
 have r0:ρ 0 = wX x:=by rw [← hρ,← hv]; rfl
 have r1:ρ 1 = nV x:=by rw [← hρ,← hv]; rfl
 have r20:ρ 20 = ρ 0:=by rw [← hρ,← hv]; rfl
 have r40:ρ 40 = x:=by rw [← hρ,← hv]; exact hx
 have r47:ρ 47 = tX x / 2:=by rw [← hρ,← hv]; rfl
 have r48:ρ 48 = rX x:=by rw [← hρ,← hv]; rfl
 have r49:ρ 49 = aX x % 7:=by rw [← hρ,← hv]; rfl
 let WA:=W.tn m i ρ
 have hc:=pK (ρ:=WA.ρ) (way:=.var 49) (turn:=fe (mR md)) r0 r49 (ud (ρ:=ρ) r47 hu) r48
 have TL:=((Mv.at (a:=mR md) (uc md)).at (pL (a:=gX x) (b:=sX x))).ok rfl WA (.app (ue r0 r48 r47 r1 r20) (bR (by rw [show WA.ρ 49 = _ from r49]; exact h3) (by rw [show WA.ρ 49 = _ from r49]; exact h4))) trivial
 refine fits_of (W:=W) hm (w:=wX x) (n:=nV x) (b:=0) (ix:=0) (s:=0) (e:=0) (k:=tX x / 2) (r:=rX x) (y:=aX x % 7) (p:=0) (q':=0) (z:=0) (q:=(cu md).pat (B0.at hl')) (B2.at hl' _) (List.all_eq_true.mp Cj _ hl') (fun _ _ _ ⟨_,_,_⟩=>rfl) ?_ ?_ (((BZ.at hl').ok rfl) _ ?_ trivial)<;>rw [hv,hρ]
 ·exact .app (hF ρ r1) (fX r20)
 ·exact TL.at (fun V v ⟨a,r⟩=>.mk (show bK ((dq (gX x) (sX x) (.var 49) (fe (mR md))).val WA.ρ) _ from hc.2.trans r40.symm▸a) r) (by rcases md with _ | _ | _ | md<;>first | exact fun V v r=>r | lia)
 ·exact hF ρ r1
theorem Ng:aC (cw 0 0) iD:=by repeat' first | exact .nil | refine .cons ?_ ?_ | refine ⟨?_,?_⟩ | (intro W h hG; kernel_rfl) | kernel_rfl
theorem Nh:aC (cw 0 1) iD:=by repeat' first | exact .nil | refine .cons ?_ ?_ | refine ⟨?_,?_⟩ | (intro W h hG; kernel_rfl) | kernel_rfl
theorem Ni:aC (cw 0 2) iD:=by repeat' first | exact .nil | refine .cons ?_ ?_ | refine ⟨?_,?_⟩ | (intro W h hG; kernel_rfl) | kernel_rfl
theorem Nj:aC (cw 1 0) cZ:=by repeat' first | exact .nil | refine .cons ?_ ?_ | refine ⟨?_,?_⟩ | (intro W h hG; kernel_rfl) | kernel_rfl
theorem Nk:aC (cw 1 1) cZ:=by repeat' first | exact .nil | refine .cons ?_ ?_ | refine ⟨?_,?_⟩ | (intro W h hG; kernel_rfl) | kernel_rfl
theorem Nl:aC (cw 1 2) cZ:=by repeat' first | exact .nil | refine .cons ?_ ?_ | refine ⟨?_,?_⟩ | (intro W h hG; kernel_rfl) | kernel_rfl
theorem Nm:aC (cw 2 0) cZ:=by repeat' first | exact .nil | refine .cons ?_ ?_ | refine ⟨?_,?_⟩ | (intro W h hG; kernel_rfl) | kernel_rfl
theorem Nn:aC (cw 2 1) cZ:=by repeat' first | exact .nil | refine .cons ?_ ?_ | refine ⟨?_,?_⟩ | (intro W h hG; kernel_rfl) | kernel_rfl
theorem Np:aC (cw 2 2) cZ:=by repeat' first | exact .nil | refine .cons ?_ ?_ | refine ⟨?_,?_⟩ | (intro W h hG; kernel_rfl) | kernel_rfl
theorem Nq:aC (cw 3 0) cZ:=by repeat' first | exact .nil | refine .cons ?_ ?_ | refine ⟨?_,?_⟩ | (intro W h hG; kernel_rfl) | kernel_rfl
theorem Nr:aC (cw 3 1) cZ:=by repeat' first | exact .nil | refine .cons ?_ ?_ | refine ⟨?_,?_⟩ | (intro W h hG; kernel_rfl) | kernel_rfl
theorem Nt:aC (cw 3 2) cZ:=by repeat' first | exact .nil | refine .cons ?_ ?_ | refine ⟨?_,?_⟩ | (intro W h hG; kernel_rfl) | kernel_rfl
theorem Nu:aC (cw 4 0) iD:=by repeat' first | exact .nil | refine .cons ?_ ?_ | refine ⟨?_,?_⟩ | (intro W h hG; kernel_rfl) | kernel_rfl
theorem Nv:aC (cw 4 1) iD:=by repeat' first | exact .nil | refine .cons ?_ ?_ | refine ⟨?_,?_⟩ | (intro W h hG; kernel_rfl) | kernel_rfl
theorem Nw:aC (cw 4 2) iD:=by repeat' first | exact .nil | refine .cons ?_ ?_ | refine ⟨?_,?_⟩ | (intro W h hG; kernel_rfl) | kernel_rfl
theorem Nx:aC (cw 5 0) cZ:=by repeat' first | exact .nil | refine .cons ?_ ?_ | refine ⟨?_,?_⟩ | (intro W h hG; kernel_rfl) | kernel_rfl
theorem Ny:aC (cw 5 1) cZ:=by repeat' first | exact .nil | refine .cons ?_ ?_ | refine ⟨?_,?_⟩ | (intro W h hG; kernel_rfl) | kernel_rfl
theorem Nz:aC (cw 5 2) cZ:=by repeat' first | exact .nil | refine .cons ?_ ?_ | refine ⟨?_,?_⟩ | (intro W h hG; kernel_rfl) | kernel_rfl
noncomputable def uf (c:Nat):List (Nat×Nat):=match c with
 | 0 | 4=>iD
 | _=>cZ
noncomputable def ug:List (Nat×Nat):=[(0,0),(0,1),(0,2),(1,0),(1,1),(1,2),(2,0),(2,1),(2,2),(3,0),(3,1),(3,2),(4,0),(4,1),(4,2),(5,0),(5,1),(5,2)]
theorem NA:aC (fun x:Nat×Nat=>aC (cw x.1 x.2) (uf x.1)) ug:=.cons Ng <| .cons Nh <| .cons Ni <| .cons Nj <| .cons Nk <| .cons Nl <| .cons Nm <| .cons Nn <| .cons Np <| .cons Nq <| .cons Nr <| .cons Nt <| .cons Nu <| .cons Nv <| .cons Nw <| .cons Nx <| .cons Ny <| .cons Nz .nil
theorem Cm:∀ c,c < 6→∀ s,s < 3→(c,s)∈ug:=by decide
set_option synthInstance.maxSize 1000 in
set_option synthInstance.maxHeartbeats 400000 in
theorem NB:∀ c,c < 6→∀ k,k < 3→∀ m,m < 3→¬(k = 2∧m = 2∧(c = 0∨c = 4))→(k,m)∈uf c:=by decide
noncomputable abbrev NC (c s:Nat) (x:Nat×Nat):Bool:=let p:aL:=⟨c,s,x.1,x.2⟩; ba [.lst (p.o8.map p.enc),p.line,.lst (wants (wM p.way p.pC) 0)]
theorem ND:(ug.all fun x=>(uf x.1).all (NC x.1 x.2)) = true:=by kernel_rfl
noncomputable def cR (c:Nat):Nat:=match c with
 | 2=>1
 | c=>c
theorem NF {c s k md:Nat} (hc:c < 6) (hd:md < 3) (n:Str):(pm (cR c) s (mR md)).mem n = (⟨c,s,k,md⟩:aL).mem n∧(pm (cR c) 0 0).way = (⟨c,s,k,md⟩:aL).way:=by
 rcases c with _ | _ | _ | _ | _ | _ | c<;>first | lia | (rcases md with _ | md<;>exact ⟨rfl,rfl⟩)
set_option synthInstance.maxSize 1000 in
set_option synthInstance.maxHeartbeats 400000 in
theorem NG:∀ c,c < 6→∀ j,j < 4→∀ m,m < 3→(cR c,j,mR m)∈BL:=by decide
noncomputable def bV (x:Int):Int:=[0,4,5,12,13,3,8,15].getD (rX x / 5 % 8).toNat 0
noncomputable def iV (x:Int):Int:=[1,5,12,7,9,0,13,14].getD (rX x / 5 / 8 % 8).toNat 0
theorem NH (x:Int):0≤bV x∧bV x≤15:=ub (P:=fun a=>0≤a∧a≤15) (l:=[0,4,5,12,13,3,8,15]) (by decide) (by decide) _
theorem uh (x:Int):0≤iV x∧iV x≤15∧iV x≠4:=ub (P:=fun a=>0≤a∧a≤15∧a≠4) (l:=[1,5,12,7,9,0,13,14]) (by decide) (by decide) _
noncomputable def f7 (x:Int) (n:Nat):Int:=match n with
 | 1=>nV x
 | 2=>bV x
 | _=>iV x
theorem Cn (x:Int) (n:Nat):0≤f7 x n∧f7 x n≤15:=by
 unfold f7; split
 ·exact lD x
 ·exact NH x
 ·exact ⟨(uh x).1,(uh x).2.1⟩
structure lE (ρ:Nat→Int) (x:Int):Prop where
 r0:ρ 0 = wX x
 r1:ρ 1 = nV x
 r2:ρ 2 = bV x
 r3:ρ 3 = iV x
 r4:ρ 4 = rX x / 5 / 8 / 8 % 4
 r5:ρ 5 = 5 - wX x / 2
 r20:ρ 20 = ρ 0
 r21:ρ 21 = ρ 5
 r40:ρ 40 = x
 r47:ρ 47 = tX x / 2
 r48:ρ 48 = rX x
 r51:ρ 51 = rX x / 5 % 8
 r52:ρ 52 = rX x / 5 / 8 % 8
 r54:ρ 54 = rX x / 5 / 8 / 8 / 4 / 4
noncomputable abbrev ui (σ:Nat→Int) (m i:Nat) (x:Int):Vs:=iG σ m i (wX x) (nV x) (bV x) (iV x) (rX x / 5 / 8 / 8 % 4) (5 - wX x / 2) (tX x / 2) (rX x) 0 (rX x / 5 % 8) (rX x / 5 / 8 % 8) (rX x / 5 / 8 / 8 / 4 / 4)
theorem NI {σ:Nat→Int} {m i:Nat}:lE (dM (ui σ m i (σ (60 + i))) σ) (σ (60 + i)):=⟨rfl,rfl,rfl,rfl,rfl,rfl,rfl,rfl,rfl,rfl,rfl,rfl,rfl,rfl⟩
theorem NJ {r:Int} (h:0≤r) {k j:Int} (hk:r % 5 = k) (hj:r / 5 / 8 / 8 / 4 % 4 = j):k + 5 * (r / 5 % 8 + 8 * (r / 5 / 8 % 8 + 8 * (r / 5 / 8 / 8 % 4 + 4 * (j + 4 * (r / 5 / 8 / 8 / 4 / 4))))) = r∧0≤r / 5 % 8∧r / 5 % 8≤7∧0≤r / 5 / 8 % 8∧r / 5 / 8 % 8≤7∧0≤r / 5 / 8 / 8 % 4∧r / 5 / 8 / 8 % 4≤3∧0≤r / 5 / 8 / 8 / 4 / 4:=⟨by rw [← hk,← hj,dm,dm,dm,dm,dm],m0 (by decide),pI (n:=7) rfl,m0 (by decide),pI (n:=7) rfl,m0 (by decide),pI (n:=3) rfl,d0 (d0 (d0 (d0 (d0 h))))⟩
theorem Co {W:ab} {x:Int} (R:lE W.ρ x) {c j k md:Nat} (hc:c < 6) (hj:j < 4) (hd:md < 3) (ek:rX x % 5 = dG (cR c)) (ej:rX x / 5 / 8 / 8 / 4 % 4 = j):Tells W 25 (.ref 1230) [] [vr 48,vr 0,iL (pm 0 0 (mR md)).sz] (.tup [(⟨c,cB j,k,md⟩:aL).mem aV,.str (⟨c,cB j,k,md⟩:aL).way]) []:=by
 refine af fun nG=>?_
 obtain ⟨-,-,-,-,-,r0⟩:=parts x
 obtain ⟨e,p0,p1,q0,q1,s0,s1,z0⟩:=NJ r0 ek ej
 obtain ⟨e1,e2⟩:=NF (s:=cB j) (k:=k) hc hd aV
 refine nG ?_
 have G:Sat W.ρ BK:=.app (bR (R.r51▸p0) (R.r51▸p1)) (.app (bR (R.r52▸q0) (R.r52▸q1)) (.app (bR (R.r4▸s0) (R.r4▸s1)) (.app (t9 (R.r54▸z0)) (.app (fX (by rw [R.r2]; show _ = List.getD _ (W.ρ 51).toNat 0; rw [R.r51]; rfl)) (fX (by rw [R.r3]; show _ = List.getD _ (W.ρ 52).toNat 0; rw [R.r52]; rfl))))))
 have T:=((Mp.at (NG c hc j hj md hd)).ok rfl) W G trivial
 rw [← e1,← e2]
 refine T.at (fun V v ⟨a,r⟩=>.mk (show bK ((tG (cR c) j).val W.ρ) _ from ?_) r) fun V v r=>r
 have:(tG (cR c) j).val W.ρ = W.ρ 48:=by
  show dG (cR c) + 5 * (W.ρ 51 + 8 * (W.ρ 52 + 8 * (W.ρ 4 + 4 * ((j:Int) + 4 * W.ρ 54)))) = _
  rw [R.r51,R.r52,R.r4,R.r54,R.r48]; exact e
 rw [this]; exact a
theorem Cp {W:ab} {θ:Th} {hb:HB} {a b:AV} (e:(oF W θ hb a).map (·.1) = some b):zH W θ hb a b:=by
 obtain ⟨⟨c,h⟩,-,q⟩:=Option.map_eq_some_iff.mp e
 cases q; exact h
namespace aL
variable (p:aL)
noncomputable def hb:HB:=[(60,⟨p.mem aV,fun _ _ _ ⟨_,_,_⟩=>rfl⟩),(61,⟨.str p.way,fun _ _ _ ⟨_⟩=>rfl⟩)]
noncomputable def hz:Hz:=fun n=>match n with
 | 60=>⟨p.mem aV,fun _ _ _ ⟨_,_,_⟩=>rfl⟩
 | 61=>⟨.str p.way,fun _ _ _ ⟨_⟩=>rfl⟩
 | n=>ik n
theorem Cq:bX p.hz p.hb:=fun x m=>by
 rcases List.mem_cons.mp m with rfl | m
 ·rfl
 ·rcases List.mem_singleton.mp m with rfl; rfl
theorem Cr {n:Str}:nl (p.mem n) = true:=by
 have hb:nl p.base = true:=by unfold aL.base; split<;>rfl
 have hi:nl p.index = true:=by unfold aL.index; cases p.fc<;>rfl
 show (match nl p.base with | true=>(match nl p.index with | true=>true | false=>false) | false=>false) = true
 rw [hb,hi]
theorem Ol (h:nl p.sQ = true):True:=⟨⟩
theorem Om:nl p.line = true:=by
 have hm:=p.Cr (n:=aV)
 have ho:ba (p.ops id) = true:=by
  unfold aL.ops
  split
  ·show (match nl (p.mem aV) with | true=>true | false=>false) = true; rw [hm]
  ·show (match nl (p.mem aV) with | true=>true | false=>false) = true; rw [hm]
  ·show (match nl (p.mem aV) with | true=>true | false=>false) = true; rw [hm]
 show (match ba (p.ops id) with | true=>true | false=>false) = true
 rw [ho]
end aL
noncomputable abbrev lF (p:aL):AV:=.tup [p.line,.lst (wants (wM p.way p.pC) 0)]
noncomputable def NK (g:Bool) (m:Nat):AV:=.tup [ew aY (cond g [hl 60,iB m] [iB m,hl 60]),.lst [.tup [.str aV,vr 20,.dicI [(4,hl 61)]]]]
noncomputable def NL (m:Nat):AV:=.tup [ew aY [hl 60,iy (.var 5) bH],.lst [.tup [.str aV,vr 20,.dicI [(4,hl 61)]],.tup [.str bH,vr 21,.dicI [(4,.str (match m with | 0=>dW | _=>cm))]]]]
theorem NM (W:ab) (g:Bool) (c s:Nat) {md:Nat} (hd:md < 3):(oF W .var (aL.hb ⟨c,s,cond g 1 0,md⟩) (NK g (mR md))).map (·.1) = some (lF ⟨c,s,cond g 1 0,md⟩):=by
 rcases md with _ | _ | _ | md<;>first | lia | (cases g<;>kernel_rfl)
theorem NN (W:ab) (c s:Nat) {md:Nat} (hd:md < 3):(oF W .var (aL.hb ⟨c,s,2,md⟩) (NL (mR md))).map (·.1) = some (lF ⟨c,s,2,md⟩):=by
 rcases md with _ | _ | _ | md<;>first | lia | kernel_rfl
theorem NO {W:ab} {p:aL} {V:Vw} {v:Value} (r:Rel W V v (.tup [p.mem aV,.str p.way])):Rel (W.re .var p.hz) V v (.tup [hl 60,hl 61]):=by
 obtain ⟨h,r⟩:=r
 refine .mk h ?_
 obtain ⟨a,r⟩:=r
 refine .mk (P:=fun v=>Rel (W.re .var p.hz) V v (hl 60)) (Q:=fun vs=>ah (W.re .var p.hz) V vs [hl 61]) ?_ ?_
 ·show Rel W ⟨V.g,[]⟩ _ (p.mem aV)
  exact Rel.ad p.Cr a
 ·obtain ⟨b,r⟩:=r
  exact .mk (P:=fun v=>Rel (W.re .var p.hz) V v (hl 61)) (Q:=fun vs=>ah (W.re .var p.hz) V vs []) (show Rel W ⟨V.g,[]⟩ _ (.str p.way) from b) r
theorem Cs {W:ab} {p:aL} {z:Int} (T:Tells W 25 (.ref 1230) [] [vr 48,vr 0,iL z] (.tup [p.mem aV,.str p.way]) []):Tells (W.re .var p.hz) 25 (.ref 1230) [] [vr 48,vr 0,iL z] (.tup [hl 60,hl 61]) []:=T.tr (.er W .var p.hz) (fun V v r=>r) fun V v r=>NO r
theorem NP {W:ab} {x:Int} (R:lE W.ρ x) {c j md:Nat} (hc:c < 6) (hj:j < 4) (hd:md < 3) (ek:rX x % 5 = dG (cR c)) (ej:rX x / 5 / 8 / 8 / 4 % 4 = j) (hw:aX x % 7 = 5) (hu:tX x % 2 = mR md):Tells W 30 (.ref 1244) [] [vr 40] (lF ⟨c,cB j,cond (gX x) 1 0,md⟩) []:=by
 generalize hp:(⟨c,cB j,cond (gX x) 1 0,md⟩:aL) = p
 let W':=W.re .var p.hz
 have hc':=pK (ρ:=W.ρ) (way:=.lit 5) (turn:=fe (mR md)) R.r0 hw.symm (ud R.r47 hu) R.r48
 have T:=Cs (p:=p) (z:=(pm 0 0 (mR md)).sz) (hp▸Co R (k:=cond (gX x) 1 0) hc hj hd ek ej)
 have TL:=((Mw.at (a:=mR md) (uc md)).at (pL (a:=gX x) (b:=sX x))).ok rfl W' (ue (ρ:=W.ρ) R.r0 R.r48 R.r47 R.r1 R.r20) ⟨fun _=>T,trivial⟩
 exact TL.tr (.re W .var p.hz) (fun V v ⟨a,r⟩=>.mk (show bK ((dq (gX x) (sX x) (.lit 5) (fe (mR md))).val W.ρ) _ from hc'.2.trans R.r40.symm▸a) r) (Cp (hp▸NM W (gX x) c (cB j) hd) _ p.Cq)
theorem NQ {W:ab} {x:Int} (R:lE W.ρ x) {c j md:Nat} (hc:c < 6) (hj:j < 4) (hd:md < 3) (ek:rX x % 5 = dG (cR c)) (ej:rX x / 5 / 8 / 8 / 4 % 4 = j) (hw:aX x % 7 = 6) (hu:tX x % 2 = mR md):Tells W 30 (.ref 1244) [] [vr 40] (lF ⟨c,cB j,2,md⟩) []:=by
 generalize hp:(⟨c,cB j,2,md⟩:aL) = p
 let W':=W.re .var p.hz
 have hc':=pK (ρ:=W.ρ) (way:=.lit 6) (turn:=fe (mR md)) R.r0 hw.symm (ud R.r47 hu) R.r48
 have T:=Cs (p:=p) (z:=(pm 0 0 (mR md)).sz) (hp▸Co R (k:=2) hc hj hd ek ej)
 have mo:∀ n,W.ρ n = 5 - W.ρ 0 / 2→Sat W.ρ (tI n):=fun n h=>lC (show 5≤1 * W.ρ n + (1 * (W.ρ 0 / ((2:Nat):Int)) + 0) by rw [h]; lia) (show 1 * W.ρ n + (1 * (W.ρ 0 / ((2:Nat):Int)) + 0)≤5 by rw [h]; lia)
 have e5:W.ρ 5 = 5 - W.ρ 0 / 2:=by rw [R.r5,R.r0]
 have TL:=((Mx.at (a:=mR md) (uc md)).at (pL (a:=gX x) (b:=sX x))).ok rfl W' (.app (ue (ρ:=W.ρ) R.r0 R.r48 R.r47 R.r1 R.r20) (.app (mo 5 e5) (mo 21 (R.r21.trans e5)))) ⟨fun _=>T,trivial⟩
 exact TL.tr (.re W .var p.hz) (fun V v ⟨a,r⟩=>.mk (show bK ((dq (gX x) (sX x) (.lit 6) (fe (mR md))).val W.ρ) _ from hc'.2.trans R.r40.symm▸a) r) (Cp (hp▸NN W c (cB j) hd) _ p.Cq)
section
variable {ρ:Nat→Int} {p:aL}
theorem Ct {f:Nat→Facts} {l:List Nat} (h:∀ n∈l,Sat ρ (f n)):Sat ρ (l.flatMap f):=fun g m=>let ⟨n,hn,k⟩:=List.mem_flatMap.mp m; h n hn g k
theorem uj (n:Nat):0≤(b8 n).val ρ∧(8≤ρ n→(b8 n).val ρ = 1):=by
 show 0≤(if cO true (7 + -1 * ρ n + 1) = true then (1:Int) else 0)∧(8≤ρ n→(if cO true (7 + -1 * ρ n + 1) = true then (1:Int) else 0) = 1)
 refine ⟨by split<;>lia,fun h=>if_pos (decide_eq_true (show 7 + -1 * ρ n + 1≤0 by lia))⟩
theorem Cu:∀ {l:List Nat} {n:Nat},n∈l→8≤ρ n→1≤sm ρ (l.map fun n=>(b8 n,1))
 | a::l,n,m,h=>by
  have nn:∀ l:List Nat,0≤sm ρ (l.map fun n=>(b8 n,(1:Int))):=fun l=>by
   induction l with
   | nil=>exact Int.le_refl _
   | cons a l ih=>show 0≤1 * (b8 a).val ρ + _; have:=(uj (ρ:=ρ) a).1; lia
  show 1≤1 * (b8 a).val ρ + sm ρ (l.map fun n=>(b8 n,1))
  rcases List.mem_cons.mp m with rfl | m
  ·have:=nn l; have:=(uj (ρ:=ρ) n).2 h; lia
  ·have:=Cu m h; have:=(uj (ρ:=ρ) a).1; lia
theorem NR (ha:∀ n,0≤ρ n∨n∉p.dJ) (hb:∀ n∈p.dJ,0≤ρ n∧ρ n≤15) (h1:p.mode = 1→∀ n∈p.dJ,ρ n≤7) (h2:p.mode = 2→∃ n∈p.dJ,8≤ρ n) (h0:-2147483648≤ρ 0∧ρ 0≤2147483647) (h4:0≤ρ 4∧ρ 4≤3) (h3:ρ 3≠4) (c1:p.cls = 1→ρ 2 % 8 = 4) (c2:p.cls = 2→ρ 2 % 8≠4):Sat ρ p.facts:=by
 obtain ⟨c,s,k,m⟩:=p
 have an:Sat ρ (aL.any ⟨c,s,k,m⟩):=Ct fun n h=>bR (hb n h).1 (hb n h).2
 refine .app ?_ (.app (bR h0.1 h0.2) (.app ?_ ?_))
 ·dsimp only at h1 h2
  split
  ·rename_i q; exact Ct fun n h=>bR (hb n h).1 (h1 q n h)
  ·rename_i q
   obtain ⟨n,hn,h8⟩:=h2 q
   exact .app (F:=[_]) (fun f m=>by rcases List.mem_singleton.mp m with rfl; exact Cu hn h8) an
  ·exact an
 ·cases aL.fc ⟨c,s,k,m⟩
  ·exact fY
  ·exact .app (bR h4.1 h4.2) fun f m=>by rcases List.mem_singleton.mp m with rfl; show ¬(1 * ρ 3 + 0 = 4); rw [Int.one_mul,Int.add_zero]; exact h3
 ·dsimp only at c1 c2
  split
  ·rename_i q; have:=c1 q; exact lC (show 4≤1 * (ρ 2 % ((8:Nat):Int)) + 0 by lia) (show 1 * (ρ 2 % ((8:Nat):Int)) + 0≤4 by lia)
  ·rename_i q; have:=c2 q; exact fun f m=>by rcases List.mem_singleton.mp m with rfl; exact (show 1 * (ρ 2 % ((8:Nat):Int)) + 0≠4 by lia)
  ·exact fY
end
theorem NT (x:Int):-2147483648≤wX x∧wX x≤2147483647:=by
 refine af fun nG=>?_
 obtain ⟨-,l0,l1,-,-,-⟩:=parts x
 refine nG ?_
 unfold wX
 cases q:sX x
 ·have:=of_decide_eq_false q; show _≤_ - (0:Int)∧_ - (0:Int)≤_; lia
 ·have:=of_decide_eq_true q; show _≤_ - (4294967296:Int)∧_ - (4294967296:Int)≤_; lia
theorem Cv:∀ j,cB j < 3:=fun j=>by unfold cB; split<;>decide
theorem NU {c s k md:Nat} (hk:k < 3):(iA (k,mR md)).lj = aL.lj ⟨c,s,k,md⟩∧(iA (k,mR md)).cY = aL.cY ⟨c,s,k,md⟩:=by
 rcases k with _ | _ | _ | k<;>first | lia | (rcases md with _ | md<;>exact ⟨rfl,rfl⟩)
theorem NV:∀ k,k < 3→∀ m,m < 3→(k,mR m)∈[(0,0),(0,1),(1,0),(1,1),(2,0),(2,1)]:=by decide
theorem pM {c s k md n:Nat} (h:n∈aL.dJ ⟨c,s,k,md⟩):n = 1∨n = 2∨n = 3:=by
 rcases List.mem_append.mp h with h | h
 ·split at h
  ·cases h
  ·exact .inl (List.mem_singleton.mp h)
 ·rcases List.mem_append.mp h with h | h
  ·cases q:aL.hasB ⟨c,s,k,md⟩<;>rw [q] at h
   ·cases h
   ·exact .inr (.inl (List.mem_singleton.mp h))
  ·cases q:aL.fc ⟨c,s,k,md⟩<;>rw [q] at h
   ·cases h
   ·exact .inr (.inr (List.mem_singleton.mp h))
theorem Cw {W:ab} {m i:Nat} (hm:i < m) {c j k md:Nat} (hc:c < 6) (hk:k < 3) (hd:md < 3) (h1:md = 1→∀ n∈aL.dJ ⟨c,0,k,0⟩,f7 (W.ρ (60 + i)) n≤7) (h2:md = 2→∃ n∈aL.dJ ⟨c,0,k,0⟩,8≤f7 (W.ρ (60 + i)) n)
  (c1:c = 1→bV (W.ρ (60 + i)) % 8 = 4) (c2:c = 2→bV (W.ρ (60 + i)) % 8≠4) (T:∀ W':ab,lE W'.ρ (W.ρ (60 + i))→Tells W' 30 (.ref 1244) [] [vr 40] (lF ⟨c,cB j,k,md⟩) []):∃ q ρ ζ,Fits W m i q ρ ζ:=by
 have hv:¬(k = 2∧md = 2∧(c = 0∨c = 4)):=fun ⟨a,b,d⟩=>by
  obtain ⟨n,hn,-⟩:=h2 b
  subst a
  rcases d with rfl | rfl<;>cases hn
 have R:=NI (σ:=W.ρ) (m:=m) (i:=i)
 have km:=NB c hc k hk md hd hv
 have nn:=List.all_eq_true.mp (List.all_eq_true.mp ND _ (Cm c hc _ (Cv j))) _ km
 obtain ⟨f1,f2⟩:=NU (c:=c) (s:=cB j) (md:=md) hk
 have FF:=Mk (NV k hk md hd) (W.tn m i (dM (ui W.ρ m i (W.ρ (60 + i))) W.ρ)) fY trivial
 have rv:∀ n,n = 1∨n = 2∨n = 3→dM (ui W.ρ m i (W.ρ (60 + i))) W.ρ n = f7 (W.ρ (60 + i)) n:=fun n h=>by rcases h with rfl | rfl | rfl<;>rfl
 refine fits_of (W:=W) hm (q:=aL.pat ⟨c,cB j,k,md⟩) ((NA.at (Cm c hc _ (Cv j))).at km) nn (fun _ _ _ ⟨_,_,_⟩=>rfl) ?_ (T (W.tn m i _) R) ?_
 ·refine .app (NR (fun n=>?_) (fun n h=>?_) (fun q n h=>?_) (fun q=>?_) (R.r0▸NT _) (by rw [R.r4]; lia) (by rw [R.r3]; exact (uh _).2.2) (fun q=>R.r2▸c1 q) fun q=>R.r2▸c2 q) (.app (fX R.r20) ?_)
  ·by_cases h:n∈aL.dJ ⟨c,cB j,k,md⟩
   ·exact .inl (rv n (pM h)▸(Cn _ n).1)
   ·exact .inr h
  ·rw [rv n (pM h)]; exact Cn _ n
  ·rw [rv n (pM h)]; exact h1 q n h
  ·obtain ⟨n,hn,h8⟩:=h2 q; exact ⟨n,hn,by rw [rv n (pM hn)]; exact h8⟩
  ·split
   ·exact fX R.r21
   ·exact fY
 ·show Tells _ 40 (.ref 982) [] [ct,aL.lj ⟨c,cB j,k,md⟩] (.lst [aL.cY ⟨c,cB j,k,md⟩]) []
  rw [← f1,← f2]; exact FF
noncomputable def jF (a k:Int) (Q:Prop):Nat→Prop
 | 0=>a % k = (0:Nat)→Q
 | n + 1=>(a % k = (n + 1:Nat)→Q)∧jF a k Q n
theorem jF.at {a k:Int} {Q:Prop} {n:Nat} (e:a % k = n):∀ m:Nat,jF a k Q m→n < m + 1→Q
 | 0,h,l=>h (by rw [e,Nat.lt_one_iff.mp l])
 | m + 1,h,l=>(Nat.lt_or_eq_of_le (Nat.le_of_lt_succ l)).elim (jF.at e m h.2) fun q=>h.1 (by rw [e,q])
theorem lG (a:Int) (k:Nat) {Q:Prop} (h:jF a ((k:Int) + 1) Q k):Q:=by
 obtain ⟨n,hn,e⟩:=Ce a k
 exact jF.at e k h hn
theorem uk (x:Int) (l:List Nat):∃ md,md < 3∧tX x % 2 = mR md∧(md = 1→∀ n∈l,f7 x n≤7)∧(md = 2→∃ n∈l,8≤f7 x n):=by
 refine lG (tX x) 1 (.intro (fun e=>?_) fun e=>?_)
 ·by_cases h:∀ n∈l,f7 x n≤7
  ·exact ⟨1,by decide,e,fun _=>h,nofun⟩
  ·refine ⟨2,by decide,e,(fun e=>by cases e),fun _=>?_⟩
   refine af fun nG=>?_
   obtain ⟨n,h⟩:=Classical.not_forall.mp h
   obtain ⟨hn,h⟩:=Classical.not_imp.mp h
   refine nG ?_
   exact ⟨n,hn,Int.not_le.mp h⟩
 ·exact ⟨0,by decide,e,(fun e=>by cases e),(fun e=>by cases e)⟩
theorem NW (x:Int):∃ c,c < 6∧rX x % 5 = dG (cR c)∧(c = 1→bV x % 8 = 4)∧(c = 2→bV x % 8≠4):=by
 have o:∀ c,2 < c→c < 6→rX x % 5 = dG (cR c)→∃ c,c < 6∧rX x % 5 = dG (cR c)∧(c = 1→bV x % 8 = 4)∧(c = 2→bV x % 8≠4):=fun c l m h=>⟨c,m,h,fun e=>absurd l (by rw [e]; decide),fun e=>absurd l (by rw [e]; decide)⟩
 refine lG (rX x) 4 (.intro (o 5 (by decide) (by decide)) (.intro (o 4 (by decide) (by decide)) (.intro (o 3 (by decide) (by decide)) (.intro (fun h=>?_) fun h=>⟨0,by decide,h,(fun e=>by cases e),(fun e=>by cases e)⟩))))
 by_cases b:bV x % 8 = 4
 ·exact ⟨1,by decide,h,fun _=>b,(fun e=>by cases e)⟩
 ·exact ⟨2,by decide,h,(fun e=>by cases e),fun _=>b⟩
section
variable {ρ:Nat→Int} {x:Int}
theorem lH {d:Int} (h:tX x % 5 = d) (e:ρ 47 = tX x / 5):(t5 d).val ρ = tX x:=by show d + 5 * ρ 47 = _; rw [e,← h]; exact dm _ _
theorem pN {d:Int} (h:tX x % 4 = d) (e:ρ 47 = tX x / 4):(t4 d).val ρ = tX x:=by show d + 4 * ρ 47 = _; rw [e,← h]; exact dm _ _
theorem Cx (k n:Nat) (h:(n + 1) * k = 20) (hk:(0:Int) < k) (e:ρ 47 = tX x / k):Sat ρ (aH 47 0 n):=by
 refine af fun nG=>?_
 obtain ⟨-,-,-,t0,t1,-⟩:=parts x
 refine nG ?_
 have h2:tX x < ((n:Int) + 1) * k:=by
  rw [show ((n:Int) + 1) * k = ((n + 1) * k:Nat) from rfl,h]
  exact Int.lt_add_one_of_le t1
 exact bR (by rw [e]; exact d0 t0) (by rw [e]; exact Int.le_of_lt_add_one (Int.ediv_lt_of_lt_mul hk h2))
end
theorem fits (W:ab) {m i:Nat} (hm:i < m):∃ q ρ ζ,Fits W m i q ρ ζ:=by
 refine af fun nG=>?_
 obtain ⟨c,hc,ek,c1,c2⟩:=NW (W.ρ (60 + i))
 obtain ⟨j,hj,ej⟩:=Ce (rX (W.ρ (60 + i)) / 5 / 8 / 8 / 4) 3
 refine nG ?_
 have im:∀ {k:Int},(aX (W.ρ (60 + i)) % 7 = k)→(k = 3∨k = 4)→∃ q ρ ζ,Fits W m i q ρ ζ:=fun {k} hw hk=>by
  refine af fun nG=>?_
  obtain ⟨md,hd,hu,h1,h2⟩:=uk (W.ρ (60 + i)) [1]
  refine nG ?_
  exact Nf hm hd (by rw [hw]; rcases hk with rfl | rfl<;>decide) (by rw [hw]; rcases hk with rfl | rfl<;>decide) hu (by
   match md,hd,h1,h2 with
   | 0,_,_,_=>exact bR (lD _).1 (lD _).2
   | 1,_,h1,_=>exact bR (lD _).1 (h1 rfl 1 (.head _))
   | 2,_,_,h2=>
    refine af fun nG=>?_
    obtain ⟨n,hn,h⟩:=h2 rfl
    refine nG ?_
    cases List.mem_singleton.mp hn
    exact bR h (lD _).2)
 refine lG (aX (W.ρ (60 + i))) 6 (.intro (fun hw=>?_) (.intro (fun hw=>?_) (.intro (fun hw=>im hw (.inr rfl)) (.intro (fun hw=>im hw (.inl rfl)) (.intro (fun hw=>?_) (.intro (fun hw=>?_) fun hw=>?_))))))
 ·refine af fun nG=>?_
  obtain ⟨md,hd,hu,h1,h2⟩:=uk (W.ρ (60 + i)) (aL.dJ ⟨c,0,2,0⟩)
  refine nG ?_
  exact Cw hm hc (by decide) hd h1 h2 c1 c2 fun W' R=>NQ R hc hj hd ek ej hw hu
 ·refine af fun nG=>?_
  obtain ⟨md,hd,hu,h1,h2⟩:=uk (W.ρ (60 + i)) (aL.dJ ⟨c,0,cond (gX (W.ρ (60 + i))) 1 0,0⟩)
  refine nG ?_
  exact Cw hm hc (by cases gX (W.ρ (60 + i))<;>decide) hd h1 h2 c1 c2 fun W' R=>NP R hc hj hd ek ej hw hu
 ·have f:∀ ρ:Nat→Int,ρ 47 = tX (W.ρ (60 + i)) / 4→Sat ρ (aH 47 0 4):=fun ρ=>Cx 4 4 rfl (by decide)
  exact lG (tX (W.ρ (60 + i))) 3 (.intro (fun e=>fh hm (n:=9) rfl rfl hw (by decide) (fun _=>pN e) f) (.intro (fun e=>fh hm (n:=8) rfl rfl hw (by decide) (fun _=>pN e) f) (.intro (fun e=>fh hm (n:=7) rfl rfl hw (by decide) (fun _=>pN e) f) fun e=>fh hm (n:=6) rfl rfl hw (by decide) (fun _=>pN e) f)))
 ·refine af fun nG=>?_
  obtain ⟨-,-,-,t0,t1,-⟩:=parts (W.ρ (60 + i))
  refine nG ?_
  exact fh hm (n:=5) (k:=tX (W.ρ (60 + i))) rfl rfl hw (by decide) (fun ρ e=>e) fun ρ e=>bR (by rw [e]; exact t0) (by rw [e]; exact t1)
 ·have f:∀ ρ:Nat→Int,ρ 47 = tX (W.ρ (60 + i)) / 5→Sat ρ (aH 47 0 3):=fun ρ=>Cx 5 3 rfl (by decide)
  exact lG (tX (W.ρ (60 + i))) 4 (.intro (fun e=>fh hm (n:=4) rfl rfl hw (by decide) (fun _=>lH e) f) (.intro (fun e=>fh hm (n:=3) rfl rfl hw (by decide) (fun _=>lH e) f) (.intro (fun e=>fh hm (n:=2) rfl rfl hw (by decide) (fun _=>lH e) f) (.intro (fun e=>fh hm (n:=1) rfl rfl hw (by decide) (fun _=>lH e) f) fun e=>fh hm (n:=0) rfl rfl hw (by decide) (fun _=>lH e) f))))
theorem NX (W:ab):tY.all (B8 W) = true:=by kernel_rfl
theorem NY (W:ab):(List.range 64).all (tZ W) = true:=by kernel_rfl
theorem NZ (W:ab):isOk (iz (W:=W) (sc:=c0) iE (iF W) [(fW,hl 76)] (dK.take 1) [(eJ,ct),(fW,hl 76)]) = true:=by kernel_rfl
theorem N0:∀ m,m < 7→∀ i,i < m→(m,i)∈tY:=by decide
theorem N1 (W:ab) (m:Nat) (hm:m≤6):pH W m:=fun i hi c hc=>by
 obtain ⟨q,ρ,ζ,a⟩:=fits W hi
 have mm:=N0 m (by lia) i hi
 exact turn mm (fun W=>List.all_eq_true.mp (NX W) _ mm) a c hc
theorem N3 {w:World} {os:OsState} {h:Heap} (B:Behind w os h):Good w os h:=M9 NY NZ N1 B
end Mine
end
section
set_option backward.match.sparseCases false
open PySem PySem.W PyProof.Rows PySem.Calls
set_option maxRecDepth 100000
set_option maxHeartbeats 8000000
namespace Mine
theorem promised:RW.row.toRowW.promised:=by w_witness2
theorem N4:PySem.W.Fast.tw9446332074065402090 PySem.Challenge.rw_nn0086_01 = true:=by
 repeat' first
  | with_reducible refine look_both ?_ ?_
  | delta PySem.W.Fast.tw9446332074065402090
  | delta PySem.W.Fast.tw17960256430627541270
  | delta PySem.W.Fast.tw2436336058641802641
  | delta PySem.W.Fast.tw12908688711261696721
  | as_aux_lemma=>kernel_rfl
theorem finish (H:∀ w os h,Behind w os h→Good w os h):PySem.Challenge.rw_nn0086_01.Holds:=
 PySem.W.holds_law ((congrFun PySem.W.Fast.te9446332074065402090 _).trans N4) (MT H promised)
end Mine
end
theorem PySem.Challenge.cw_nn0086_01_holds : PySem.Challenge.rw_nn0086_01.Holds :=
 Mine.finish fun w os h B => Mine.N3 B
