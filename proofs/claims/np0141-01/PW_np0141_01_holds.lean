import PyProof.Rows.All
import Wide.All
import OpenK.AllK
import Wide.FinOn
import Lean
import PySem.Challenge.RW_np0141_01
set_option autoImplicit false
set_option linter.all false
set_option Elab.async false
set_option genSizeOf false
set_option genInjectivity false
set_option bootstrap.genMatcherCode false
set_option maxRecDepth 100000
section
set_option tactic.hygienic false
open PySem
namespace Mine
section
theorem cps {p:Prop} (h:∀ G:Prop,(p→G)→G):p:=h p id
inductive AV where
 | none
 | bool (b:Bool)
 | int (i:Int)
 | str (s:List Nat)
 | tup (l:List AV)
 | lst (l:List AV)
inductive R (α:Type) where
 | ok (a:α)
 | exn (t:List Nat) (c:List AV)
 | stuck
noncomputable def R.bind {α β:Type} (r:R α) (f:α→R β):R β:=match r with
 | .ok a=>f a
 | .exn t c=>.exn t c
 | .stuck=>.stuck
noncomputable def lim {α:Type} (c:Bool) (r:R α):R α:=match c with
 | true=>r
 | false=>.stuck
noncomputable def oO {α β:Type} (o:Option α) (f:α→R β):R β:=match o with
 | some x=>f x
 | none=>.stuck
noncomputable def asB {α:Type} (v:AV) (f:Bool→R α):R α:=match v with | .bool i=>f i | _=>.stuck
noncomputable def asI {α:Type} (v:AV) (f:Int→R α):R α:=match v with | .int i=>f i | _=>.stuck
noncomputable def asS {α:Type} (v:AV) (f:List Nat→R α):R α:=match v with | .str i=>f i | _=>.stuck
noncomputable def asT {α:Type} (v:AV) (f:List AV→R α):R α:=match v with | .tup i=>f i | _=>.stuck
noncomputable def asL {α:Type} (v:AV) (f:List AV→R α):R α:=match v with | .lst i=>f i | _=>.stuck
noncomputable def as1 {α:Type} (l:List AV) (f:AV→R α):R α:=match l with | [x]=>f x | _=>.stuck
noncomputable def as2 {α:Type} (l:List AV) (f:AV→AV→R α):R α:=match l with | [x,y]=>f x y | _=>.stuck
set_option genCtorIdx false
inductive BOp0 (u:Unit) | add | sub | mul | fdiv | fmod | pow | band | shl | shr
abbrev BOp:=BOp0 ()
inductive COp0 (u:Unit) | eq | ne | lt | le | gt | ge | isin | notin | is
abbrev COp:=COp0 ()
inductive BI0 (u:Unit) | len | ord | chr | str | abs | max | min | sum
abbrev BI:=BI0 ()
inductive SM0 (u:Unit) | join | upper | index
abbrev SM:=SM0 ()
set_option genCtorIdx true
inductive IK | rng | str | lst
set_option genCtorIdx false
inductive ME where
 | c (v:AV)
 | v (i:Nat)
 | bin (op:BOp) (a b:ME)
 | neg (a:ME)
 | not (a:ME)
 | and (l:List ME)
 | or (l:List ME)
 | cmp (a:ME) (op:COp) (b:ME)
 | cmp2 (a:ME) (op:COp) (b:ME) (op2:COp) (c:ME)
 | ite (c a b:ME)
 | tup (l:List ME)
 | lst (l:List ME)
 | idx (a i:ME)
 | sl (a:ME) (lo hi:Option ME)
 | call (f:Nat) (l:List ME)
 | bi (b:BI) (l:List ME)
 | sm (b:SM) (o:ME) (l:List ME)
 | dget (i:Nat) (k d:ME)
 | comp (fr:List Nat) (k:IK) (n:ME) (elt cond:Option ME)
inductive MS where
 | asg (i:Nat) (e:ME)
 | asgT (is:List Nat) (e:ME)
 | asg2 (i j:Nat) (a b:ME)
 | aug (i:Nat) (sub:Bool) (e:ME)
 | newL (i:Nat)
 | newD (i:Nat)
 | ownM (i:Nat) (e n:ME)
 | ownC (i:Nat) (n:ME)
 | app (i:Nat) (e:ME)
 | rev (i:Nat)
 | setL (i:Nat) (k e:ME)
 | setD (i:Nat) (k e:ME)
 | freeze (i:Nat)
 | ite (c:ME) (a b:List MS)
 | whil (c:ME) (b:List MS)
 | loop (k:IK) (is:List Nat) (e:ME) (b:List MS)
 | ret (e:ME)
 | brk
 | cont
 | expr (e:ME)
 | exprD (f:Nat) (i:Nat) (l:List ME)
 | raise (f:Nat) (l:List ME)
 | tryR (e:ME) (j:Nat)
 | tryA (i:Nat) (e:ME) (j:Nat)
set_option genCtorIdx true
inductive SV where
 | u
 | val (v:AV)
 | ol (l:List AV)
 | sl (l:List AV)
 | od (l:List (Int × Int))
 | rd (l:List (Int × Int))
abbrev Env':=List SV
noncomputable def szLine:Nat:=2 ^ 24
noncomputable def lLine:Nat:=2 ^ 20
mutual
noncomputable def AV.eqv:AV→AV→Bool
 | .none,b=>match b with | .none=>true | _=>false
 | .bool a,b=>match b with | .bool c=>a == c | .int c=>(if a then 1 else 0) == c | _=>false
 | .int a,b=>match b with | .bool c=>a == (if c then 1 else 0) | .int c=>a == c | _=>false
 | .str a,b=>match b with | .str c=>a == c | _=>false
 | .tup a,b=>match b with | .tup c=>AV.eqvs a c | _=>false
 | .lst a,b=>match b with | .lst c=>AV.eqvs a c | _=>false
noncomputable def AV.eqvs:List AV→List AV→Bool
 | [],b=>match b with | []=>true | _=>false
 | a::r,b=>match b with | c::t=>AV.eqv a c && AV.eqvs r t | _=>false
end
mutual
noncomputable def AV.depth:AV→Nat
 | .tup l=>AV.depths l + 1
 | .lst l=>AV.depths l + 1
 | _=>0
noncomputable def AV.depths:List AV→Nat
 | []=>0
 | a::r=>max a.depth (AV.depths r)
end
noncomputable def shallow (a:AV):Bool:=Nat.ble a.depth 20
noncomputable def smallI (a:Int):Bool:=decide (-(2 ^ 63) < a) && decide (a < 2 ^ 63)
noncomputable def repl (n:Int) (s:List Nat):List Nat:=(List.replicate n.toNat s).flatten
noncomputable def addop (a b:AV):R AV:=match a with
 | .int i=>asI b fun j=>.ok (.int (i + j))
 | .str s=>asS b fun t=>lim (decide (s.length + t.length≤szLine)) (.ok (.str (s++t)))
 | .tup s=>asT b fun t=>lim (decide (s.length + t.length≤lLine)) (.ok (.tup (s++t)))
 | .lst s=>asL b fun t=>lim (decide (s.length + t.length≤lLine)) (.ok (.lst (s++t)))
 | _=>.stuck
noncomputable def mulop (a b:AV):R AV:=match a with
 | .int i=>asI b fun j=>lim (smallI i || smallI j) (.ok (.int (i * j)))
 | .str s=>asI b fun j=>lim (decide (s.length * j.toNat≤szLine) && smallI j) (.ok (.str (repl j s)))
 | _=>.stuck
noncomputable def binop (op:BOp) (a b:AV):R AV:=match op with
 | .add=>addop a b
 | .sub=>asI a fun i=>asI b fun j=>.ok (.int (i - j))
 | .mul=>mulop a b
 | .fdiv=>asI a fun i=>asI b fun j=>lim (decide (0 < j) && decide (j < 2 ^ 30)) (.ok (.int (i / j)))
 | .fmod=>asI a fun i=>asI b fun j=>lim (decide (0 < j)) (.ok (.int (i % j)))
 | .pow=>asI a fun i=>asI b fun j=>lim (decide (0≤j) && decide (j≤100) && smallI i) (.ok (.int (i ^ j.toNat)))
 | .band=>asI a fun i=>asI b fun j=>.ok (.int (Builtin.bitAnd i j))
 | .shl=>asI a fun i=>asI b fun j=>lim (decide (0≤j) && decide (j≤1000000) && smallI i) (.ok (.int (i * 2 ^ j.toNat)))
 | .shr=>asI a fun i=>asI b fun j=>lim (decide (0≤j)) (.ok (.int (i / 2 ^ j.toNat)))
noncomputable def inop (a b:AV):R Bool:=match b with
 | .str s=>asS a fun t=>match t with
  | [c]=>.ok (s.contains c)
  | _=>.stuck
 | .tup l=>lim (shallow a) (.ok (l.any fun x=>x.eqv a))
 | .lst l=>lim (shallow a) (.ok (l.any fun x=>x.eqv a))
 | _=>.stuck
noncomputable def AV.isNone (a:AV):Bool:=match a with | .none=>true | _=>false
noncomputable def cmpop (op:COp) (a b:AV):R Bool:=match op with
 | .eq=>lim (shallow a) (.ok (a.eqv b))
 | .ne=>lim (shallow a) (.ok (!a.eqv b))
 | .lt=>asI a fun i=>asI b fun j=>.ok (decide (i < j))
 | .le=>asI a fun i=>asI b fun j=>.ok (decide (i≤j))
 | .gt=>asI a fun i=>asI b fun j=>.ok (decide (j < i))
 | .ge=>asI a fun i=>asI b fun j=>.ok (decide (j≤i))
 | .isin=>inop a b
 | .notin=>(inop a b).bind fun c=>.ok (!c)
 | .is=>lim b.isNone (.ok a.isNone)
noncomputable def pick {α:Type} (l:List α) (k:Int):Option α:=(seqIndex? k l.length).bind fun j=>l[j]?
noncomputable def idxop (a b:AV):R AV:=asI b fun k=>match a with
 | .str s=>oO (pick s k) fun c=>.ok (.str [c])
 | .tup l=>oO (pick l k) .ok
 | .lst l=>oO (pick l k) .ok
 | _=>.stuck
noncomputable def bound (d:Nat) (o:Option AV) (f:Nat→R AV):R AV:=match o with
 | none=>f d
 | some v=>asI v fun k=>lim (decide (0≤k)) (f k.toNat)
noncomputable def slop (a:AV) (lo hi:Option AV):R AV:=match a with
 | .str s=>bound 0 lo fun x=>bound s.length hi fun y=>.ok (.str ((s.take y).drop x))
 | .lst s=>bound 0 lo fun x=>bound s.length hi fun y=>.ok (.lst ((s.take y).drop x))
 | _=>.stuck
noncomputable def decText (i:Int):List Nat:=(toString i).toList.map Char.toNat
noncomputable def sumInts:List AV→R Int
 | []=>.ok 0
 | v::r=>asI v fun i=>(sumInts r).bind fun j=>.ok (i + j)
noncomputable def strsOf:List AV→R (List (List Nat))
 | []=>.ok []
 | v::r=>asS v fun s=>(strsOf r).bind fun t=>.ok (s::t)
@[irreducible] noncomputable def okInt (i:Int):Bool:=decide (i.natAbs < 10 ^ 500)
noncomputable def lenop (v:AV):R AV:=match v with
 | .str s=>.ok (.int s.length)
 | .lst s=>.ok (.int s.length)
 | .tup s=>.ok (.int s.length)
 | _=>.stuck
noncomputable def biop (b:BI) (l:List AV):R AV:=match b with
 | .len=>as1 l lenop
 | .ord=>as1 l fun v=>asS v fun s=>match s with | [c]=>.ok (.int c) | _=>.stuck
 | .chr=>as1 l fun v=>asI v fun i=>lim (decide (0≤i) && decide (i≤1114111)) (.ok (.str [i.toNat]))
 | .str=>as1 l fun v=>asI v fun i=>lim (okInt i) (.ok (.str (decText i)))
 | .abs=>as1 l fun v=>asI v fun i=>.ok (.int i.natAbs)
 | .max=>as2 l fun u v=>asI u fun a=>asI v fun b=>.ok (.int (max a b))
 | .min=>as2 l fun u v=>asI u fun a=>asI v fun b=>.ok (.int (min a b))
 | .sum=>as1 l fun v=>asL v fun m=>(sumInts m).bind fun i=>.ok (.int i)
noncomputable def smop (m:SM) (s:List Nat) (l:List AV):R AV:=match m with
 | .join=>as1 l fun v=>asL v fun m=>match s with
  | []=>(strsOf m).bind fun ss=>lim (decide (ss.flatten.length≤szLine)) (.ok (.str ss.flatten))
  | _=>.stuck
 | .upper=>match l with
  | []=>lim (s.all fun c=>decide (c < 128)) (.ok (.str (s.map PyProof.Rows.up1)))
  | _=>.stuck
 | .index=>as1 l fun v=>asS v fun t=>match t with
  | [c]=>oO (s.findIdx? fun d=>d == c) fun i=>.ok (.int i)
  | _=>.stuck
noncomputable def dictGet (l:List (Int × Int)) (k:Int):Option Int:=(l.find? fun p=>p.1 == k).map (·.2)
noncomputable def dictPut (l:List (Int × Int)) (k v:Int):List (Int × Int) :=
 if l.any (fun p=>p.1 == k) then l.map (fun p=>if p.1 == k then (p.1,v) else p) else l++[(k,v)]
noncomputable def asV {α:Type} (o:Option SV) (f:AV→R α):R α:=match o with
 | some (.val v)=>f v
 | _=>.stuck
noncomputable def asO {α:Type} (o:Option SV) (f:List AV→R α):R α:=match o with
 | some (.ol v)=>f v
 | _=>.stuck
noncomputable def asQ {α:Type} (o:Option SV) (f:List AV→R α):R α:=match o with
 | some (.sl v)=>f v
 | _=>.stuck
noncomputable def asD {α:Type} (o:Option SV) (f:List (Int × Int)→R α):R α:=match o with
 | some (.od v)=>f v
 | _=>.stuck
noncomputable def asE {α:Type} (o:Option SV) (f:List (Int × Int)→R α):R α:=match o with
 | some (.od v)=>f v
 | some (.rd v)=>f v
 | _=>.stuck
noncomputable def getV (σ:Env') (i:Nat):R AV:=asV σ[i]? .ok
noncomputable def frees (σ:Env'):List Nat→Option (List SV)
 | []=>some []
 | i::r=>match σ[i]? with
  | some (.val v)=>(frees σ r).map (.val v::·)
  | _=>none
noncomputable def rgOk (n:Int):Bool:=decide (-(2 ^ 62)≤n) && decide (n≤1048576)
noncomputable def rangeVals (n:Int):List AV:=(List.range n.toNat).map fun (i:Nat)=>AV.int i
noncomputable def collect {α β:Type} (f:α→R (Option β)):List α→R (List β)
 | []=>.ok []
 | x::r=>(f x).bind fun o=>(collect f r).bind fun l=>.ok (match o with | some y=>y::l | none=>l)
abbrev Tab:=Nat→List AV→R AV
noncomputable def AV.scalar (a:AV):Bool:=match a with
 | .tup _=>false
 | .lst _=>false
 | _=>true
noncomputable def eltR (v:AV) (r:R (Option AV)):R AV:=match r with
 | .ok o=>(match o with | none=>.ok v | some a=>lim a.scalar (.ok a))
 | _=>.stuck
noncomputable def itemsOf {α:Type} (k:IK) (x:AV) (f:List AV→R α):R α:=match k with
 | .rng=>asI x fun n=>lim (rgOk n) (f (rangeVals n))
 | .str=>asS x fun s=>f (s.map fun c=>.str [c])
 | .lst=>asL x f
noncomputable def partsR {α:Type} (k:IK) (v:AV) (f:List AV→R α):R α:=match k with
 | .lst=>asT v f
 | _=>f [v]
noncomputable def quiet {α:Type} (r:R α):R α:=match r with
 | .ok a=>.ok a
 | _=>.stuck
noncomputable def sizeL (r:R (List AV)):R AV:=r.bind fun l=>lim (decide (l.length≤lLine)) (.ok (.lst l))
noncomputable def ifR {α:Type} (c:Bool) (a b:R α):R α:=match c with
 | true=>a
 | false=>b
noncomputable def testO (o:Option AV) (k:R AV):R (Option AV):=match o with
 | none=>k.bind fun v=>.ok (some v)
 | some x=>asB x fun b=>ifR b (k.bind fun v=>.ok (some v)) (.ok none)
noncomputable def noCalls:Tab:=fun _ _=>.stuck
mutual
noncomputable def evE (Φ:Tab):ME→Env'→R AV
 | .c v,σ=>.ok v
 | .v i,σ=>getV σ i
 | .bin op a b,σ=>(evE Φ a σ).bind fun x=>(evE Φ b σ).bind fun y=>binop op x y
 | .neg a,σ=>(evE Φ a σ).bind fun x=>asI x fun i=>.ok (.int (-i))
 | .not a,σ=>(evE Φ a σ).bind fun x=>asB x fun b=>.ok (.bool !b)
 | .and l,σ=>evAnd Φ l σ
 | .or l,σ=>evOr Φ l σ
 | .cmp a op b,σ=>(evE Φ a σ).bind fun x=>(evE Φ b σ).bind fun y=>(cmpop op x y).bind fun r=>.ok (.bool r)
 | .cmp2 a op b op2 c,σ=>(evE Φ a σ).bind fun x=>(evE Φ b σ).bind fun y=>(cmpop op x y).bind fun r =>
   ifR r ((evE Φ c σ).bind fun z=>(cmpop op2 y z).bind fun r=>.ok (.bool r)) (.ok (.bool false))
 | .ite c a b,σ=>(evE Φ c σ).bind fun x=>asB x fun t=>ifR t (evE Φ a σ) (evE Φ b σ)
 | .tup l,σ=>(evEs Φ l σ).bind fun vs=>lim (decide (vs.length≤lLine)) (.ok (.tup vs))
 | .lst l,σ=>(evEs Φ l σ).bind fun vs=>lim (decide (vs.length≤lLine)) (.ok (.lst vs))
 | .idx a i,σ=>(evE Φ a σ).bind fun x=>(evE Φ i σ).bind fun y=>idxop x y
 | .sl a lo hi,σ=>(evE Φ a σ).bind fun x=>(evO Φ lo σ).bind fun y=>(evO Φ hi σ).bind fun z=>slop x y z
 | .call f l,σ=>(evEs Φ l σ).bind fun vs=>Φ f vs
 | .bi b l,σ=>(evEs Φ l σ).bind fun vs=>biop b vs
 | .sm b o l,σ=>(evE Φ o σ).bind fun x=>asS x fun q=>(evEs Φ l σ).bind fun vs=>smop b q vs
 | .dget i k d,σ=>asE σ[i]? fun l=>(evE Φ k σ).bind fun x=>(evE Φ d σ).bind fun y=>asI x fun k=>asI y fun d=>.ok (.int ((dictGet l k).getD d))
 | .comp fr k n elt cond,σ=>(evE Φ n σ).bind fun x=>itemsOf k x fun l=>oO (frees σ fr) fun ρ=>sizeL (quiet (collect (fun v=>(evO noCalls cond (.val v::ρ)).bind fun o=>testO o (eltR v (evO noCalls elt (.val v::ρ)))) l))
noncomputable def evEs (Φ:Tab):List ME→Env'→R (List AV)
 | [],σ=>.ok []
 | e::r,σ=>(evE Φ e σ).bind fun v=>(evEs Φ r σ).bind fun vs=>.ok (v::vs)
noncomputable def evO (Φ:Tab):Option ME→Env'→R (Option AV)
 | none,σ=>.ok none
 | some e,σ=>(evE Φ e σ).bind fun v=>.ok (some v)
noncomputable def evAnd (Φ:Tab):List ME→Env'→R AV
 | [],σ=>.ok (.bool true)
 | e::r,σ=>(evE Φ e σ).bind fun v=>asB v fun b=>ifR b (evAnd Φ r σ) (.ok (.bool false))
noncomputable def evOr (Φ:Tab):List ME→Env'→R AV
 | [],σ=>.ok (.bool false)
 | e::r,σ=>(evE Φ e σ).bind fun v=>asB v fun b=>ifR b (.ok (.bool true)) (evOr Φ r σ)
end
inductive Ctl where
 | next (σ:Env')
 | ret (v:AV)
 | brk (σ:Env')
 | cont (σ:Env')
abbrev Out:=R Ctl
noncomputable def nx (σ:Env'):Out:=.ok (.next σ)
noncomputable def setAll (σ:Env'):List Nat→List AV→(Env'→Out)→Out
 | [],l,f=>match l with | []=>f σ | _=>.stuck
 | i::r,l,f=>match l with | v::vs=>setAll (σ.set i (.val v)) r vs f | _=>.stuck
inductive Turn where
 | again (σ:Env')
 | stop (o:Out)
noncomputable def iter (step:Env'→Turn):Nat→Env'→Option Out
 | 0,_=>none
 | n + 1,σ=>match step σ with
  | .again σ'=>iter step n σ'
  | .stop o=>some o
open Classical in
noncomputable def loopSem (step:Env'→Turn) (σ:Env'):Out :=
 if h:∃ o,∃ n,iter step n σ=some o then h.choose else .stuck
theorem iter_mono (step:Env'→Turn):∀ (n k:Nat) (σ:Env') (o:Out),iter step n σ=some o→iter step (n + k) σ=some o
 | 0,_,_,_,h=>nomatch h
 | n + 1,k,σ,o,h=>by
  rw [Nat.succ_add]
  unfold iter at h ⊢
  cases hs:step σ with
  | again σ'=>rw [hs] at h; exact iter_mono step n k σ' o h
  | stop o'=>rw [hs] at h; exact h
theorem loopSem_of {step:Env'→Turn} {σ:Env'} {n:Nat} {o:Out} (h:iter step n σ=some o):loopSem step σ=o:=by
 have hx:∃ o,∃ n,iter step n σ=some o:=⟨o,n,h⟩
 unfold loopSem
 rw [dif_pos hx]
 have b:=iter_mono step hx.choose_spec.choose n σ _ hx.choose_spec.choose_spec
 rw [Nat.add_comm,iter_mono step n _ σ o h] at b
 exact (Option.some.inj b).symm
theorem loopSem_stop {step:Env'→Turn} {σ:Env'} {o:Out} (h:step σ=.stop o):loopSem step σ=o :=
 loopSem_of (n:=1) (by unfold iter; rw [h])
theorem loopSem_again {step:Env'→Turn} {σ σ':Env'} (h:step σ=.again σ'):loopSem step σ=loopSem step σ':=by
 have e:∀ n,iter step (n + 1) σ=iter step n σ':=fun n=>by conv=>lhs; unfold iter; rw [h]
 by_cases hx:∃ o,∃ n,iter step n σ'=some o
 ·rw [loopSem_of hx.choose_spec.choose_spec]
  exact loopSem_of ((e _).trans hx.choose_spec.choose_spec)
 ·have hy:¬ ∃ o,∃ n,iter step n σ=some o:=fun ⟨o,n,hn⟩=>match n,hn with
   | 0,hn=>nomatch hn
   | n + 1,hn=>hx ⟨o,n,(e n).symm.trans hn⟩
  unfold loopSem
  rw [dif_neg hx,dif_neg hy]
theorem loopSem_iter {step:Env'→Turn} {σ:Env'} (h:loopSem step σ≠.stuck):∃ n,iter step n σ=some (loopSem step σ):=by
 by_cases hx:∃ o,∃ n,iter step n σ=some o
 ·exact ⟨_,by rw [loopSem_of hx.choose_spec.choose_spec]; exact hx.choose_spec.choose_spec⟩
 ·unfold loopSem at h
  rw [dif_neg hx] at h
  exact absurd rfl h
noncomputable def seqO (o:Out) (f:Env'→Out):Out:=o.bind fun c=>match c with
 | .next σ=>f σ
 | c=>.ok c
noncomputable def turnC (c:Ctl):Turn:=match c with
 | .next σ=>.again σ
 | .cont σ=>.again σ
 | .brk σ=>.stop (nx σ)
 | .ret v=>.stop (.ok (.ret v))
noncomputable def turnOf (o:Out):Turn:=match o with
 | .ok c=>turnC c
 | .exn t c=>.stop (.exn t c)
 | .stuck=>.stop .stuck
noncomputable def whTurn (c:R AV) (b:Out) (σ:Env'):Turn:=match c.bind fun v=>asB v fun t=>.ok t with
 | .ok t=>(match t with | true=>turnOf b | false=>.stop (nx σ))
 | .exn t c=>.stop (.exn t c)
 | .stuck=>.stop .stuck
noncomputable def forC (c:Ctl) (f:Env'→Out):Out:=match c with
 | .next σ=>f σ
 | .cont σ=>f σ
 | .brk σ=>nx σ
 | .ret v=>.ok (.ret v)
noncomputable def forSem (body:AV→Env'→Out):List AV→Env'→Out
 | [],σ=>nx σ
 | x::r,σ=>(body x σ).bind fun c=>forC c (forSem body r)
abbrev MTab:=Nat→List AV→Option (List Nat × List AV)
abbrev DTab:=Nat→List (Int × Int)→List AV→R AV
noncomputable def mkX (o:Option (List Nat × List AV)):Out:=match o with
 | some p=>.exn p.1 p.2
 | none=>.stuck
noncomputable def caught (t:List Nat) (c:List AV):AV:=.tup [.int 1,.str t,.tup c]
noncomputable def frz (σ:Env') (i:Nat):Env':=match σ[i]? with
 | some (.ol l)=>σ.set i (.val (.lst l))
 | some (.sl l)=>σ.set i (.val (.lst l))
 | _=>σ
noncomputable def tryRO (r:R AV):Out:=match r with
 | .ok v=>.ok (.ret v)
 | .exn t c=>.ok (.ret (caught t c))
 | .stuck=>.stuck
noncomputable def tryAO (r:R AV) (i j:Nat) (σ:Env'):Out:=match r with
 | .ok v=>nx (σ.set i (.val v))
 | .exn t c=>nx ((σ.set i (.val (caught t c))).set j .u)
 | .stuck=>.stuck
mutual
noncomputable def evS (Φ:Tab) (Μ:MTab) (Δ:DTab):MS→Env'→Out
 | .asg i e,σ=>(evE Φ e σ).bind fun v=>nx (σ.set i (.val v))
 | .asgT is e,σ=>(evE Φ e σ).bind fun v=>asT v fun l=>setAll σ is l nx
 | .asg2 i j a b,σ=>(evE Φ a σ).bind fun x=>(evE Φ b σ).bind fun y=>nx ((σ.set i (.val x)).set j (.val y))
 | .aug i sub e,σ=>(getV σ i).bind fun x=>(evE Φ e σ).bind fun y=>asI x fun a=>asI y fun b=>nx (σ.set i (.val (.int (match sub with | true=>a - b | false=>a + b))))
 | .newL i,σ=>nx (σ.set i (.ol []))
 | .newD i,σ=>nx (σ.set i (.od []))
 | .ownM i e n,σ=>(evE Φ e σ).bind fun v=>(evE Φ n σ).bind fun x=>asI x fun n=>lim (decide (n≤lLine) && smallI n) (nx (σ.set i (.sl (List.replicate n.toNat v))))
 | .ownC i n,σ=>(evE Φ n σ).bind fun x=>asI x fun n=>lim (rgOk n) (nx (σ.set i (.sl (List.replicate n.toNat .none))))
 | .app i e,σ=>asO σ[i]? fun l=>(evE Φ e σ).bind fun v=>lim (decide (l.length < lLine)) (nx (σ.set i (.ol (l++[v]))))
 | .rev i,σ=>asO σ[i]? fun l=>nx (σ.set i (.ol l.reverse))
 | .setL i k e,σ=>asQ σ[i]? fun l=>(evE Φ e σ).bind fun v=>(evE Φ k σ).bind fun x=>asI x fun k=>lim (decide (0≤k) && decide (k < l.length)) (nx (σ.set i (.sl (l.set k.toNat v))))
 | .setD i k e,σ=>asD σ[i]? fun l=>(evE Φ e σ).bind fun v=>(evE Φ k σ).bind fun x=>asI x fun k=>asI v fun v=>lim (decide (l.length < lLine)) (nx (σ.set i (.od (dictPut l k v))))
 | .freeze i,σ=>nx (frz σ i)
 | .ite c a b,σ=>(evE Φ c σ).bind fun x=>asB x fun t=>ifR t (evSs Φ Μ Δ a σ) (evSs Φ Μ Δ b σ)
 | .whil c b,σ=>loopSem (fun σ=>whTurn (evE Φ c σ) (evSs Φ Μ Δ b σ) σ) σ
 | .loop k is e b,σ=>(evE Φ e σ).bind fun x=>itemsOf k x fun l=>forSem (fun v σ=>partsR k v fun vs=>setAll σ is vs (evSs Φ Μ Δ b)) l σ
 | .ret e,σ=>(evE Φ e σ).bind fun v=>.ok (.ret v)
 | .brk,σ=>.ok (.brk σ)
 | .cont,σ=>.ok (.cont σ)
 | .expr e,σ=>(evE Φ e σ).bind fun _=>nx σ
 | .exprD f i l,σ=>asE σ[i]? fun d=>(evEs Φ l σ).bind fun vs=>(Δ f d vs).bind fun _=>nx σ
 | .raise f l,σ=>(evEs Φ l σ).bind fun vs=>mkX (Μ f vs)
 | .tryR e j,σ=>tryRO (evE Φ e σ)
 | .tryA i e j,σ=>tryAO (evE Φ e σ) i j σ
noncomputable def evSs (Φ:Tab) (Μ:MTab) (Δ:DTab):List MS→Env'→Out
 | [],σ=>nx σ
 | s::r,σ=>seqO (evS Φ Μ Δ s σ) (evSs Φ Μ Δ r)
end
noncomputable def back (o:Out):R AV:=o.bind fun c=>match c with
 | .next _=>.ok .none
 | .ret v=>.ok v
 | _=>.stuck
end
end Mine
end
section
set_option tactic.hygienic false
open PySem PySem.Calls PyProof.Rows PySem.SeqAt
namespace Mine
abbrev GH:=Addr→Option Obj
def okS (s:List Nat):Prop:=∀ c ∈ s,c < 0x110000
inductive SeqR (G:GH) (c:String) (P:List Value→Prop):Value→Prop
 | mk {a:Addr} {o:Obj} {ws:List Value} {n:Nat}:G a=some o→o.cls=.type c→o.data=.seq ws.toArray n→P ws→SeqR G c P (.ref a)
inductive ConsR (P:Value→Prop) (Q:List Value→Prop):List Value→Prop
 | mk {v:Value} {r:List Value}:P v→Q r→ConsR P Q (v::r)
inductive StrR (l:List Nat):Value→Prop
 | mk {s:Str} {t:Tok}:s.cps.toList=l→s.length≤sizeLine→PyData.strOk s=true→StrR l (.str s t)
inductive IntR (i:Int):Value→Prop
 | mk {t:Tok}:IntR i (.int i t)
mutual
noncomputable def rep (G:GH):AV→Value→Prop
 | .none,v=>v=.none
 | .bool b,v=>v=.bool b
 | .int i,v=>IntR i v
 | .str l,v=>StrR l v
 | .tup l, v => SeqR G "tuple" (reps G l) v ∧ l.length ≤ lLine
 | .lst l, v => SeqR G "list" (reps G l) v ∧ l.length ≤ lLine
noncomputable def reps (G:GH):List AV→List Value→Prop
 | [],vs=>vs=[]
 | a::l,vs=>ConsR (rep G a) (reps G l) vs
end
abbrev Rep (G:GH) (v:Value) (a:AV):Prop:=rep G a v
abbrev RepAll (G:GH) (vs:List Value) (l:List AV):Prop:=reps G l vs
def seqObj (o:Obj):Bool:=match o.data with | .seq ..=>true | _=>false
theorem seqObj_of {o:Obj} {vs:Array Value} {n:Nat} (h:o.data=.seq vs n):seqObj o=true:=by unfold seqObj; rw [h]
section
variable {G G':GH} (hG:∀ a o,G a=some o→seqObj o=true→G' a=some o)
include hG
theorem SeqR.less {c:String} {P P':List Value→Prop} {v:Value} (hP:∀ ws,P ws→P' ws) (h:SeqR G c P v):SeqR G' c P' v:=by
 cases h with | mk a b c d=>exact .mk (hG _ _ a (seqObj_of c)) b c (hP _ d)
theorem rep_less (a:AV):∀ v,rep G a v→rep G' a v :=
 AV.rec (motive_1:=fun a=>∀ v,rep G a v→rep G' a v) (motive_2:=fun l=>∀ vs,reps G l vs→reps G' l vs)
  (fun _ h=>h) (fun _ _ h=>h) (fun _ _ h=>h) (fun _ _ h=>h) (fun _ ih _ h=>⟨h.1.less hG ih,h.2⟩) (fun _ ih _ h=>⟨h.1.less hG ih,h.2⟩)
  (fun _ h=>h) (fun _ _ h1 h2 _ h=>by cases h with | mk x y=>exact .mk (h1 _ x) (h2 _ y)) a
theorem reps_less:∀ (l:List AV) (vs:List Value),reps G l vs→reps G' l vs
 | [],_,h=>h
 | _::l,_,.mk x y=>.mk (rep_less hG _ _ x) (reps_less l _ y)
end
theorem rep_mono {G G':GH} (hG:∀ a o,G a=some o→G' a=some o) (a:AV) (v:Value):rep G a v→rep G' a v:=rep_less (fun a o e _=>hG a o e) a v
theorem reps_mono {G G':GH} (hG:∀ a o,G a=some o→G' a=some o) (l:List AV) (vs:List Value):reps G l vs→reps G' l vs:=reps_less (fun a o e _=>hG a o e) l vs
section
variable {G:GH}
theorem RepAll.length:∀ {l:List AV} {vs:List Value},RepAll G vs l→vs.length=l.length
 | [],_,h=>congrArg List.length h
 | _::_,_,.mk _ y=>congrArg (· + 1) (RepAll.length y)
theorem RepAll.get:∀ {l:List AV} {vs:List Value},RepAll G vs l→∀ {j:Nat} {a:AV},l[j]?=some a→∃ v,vs[j]?=some v∧Rep G v a
 | _::_,_,.mk x y,0,_,h=>⟨_,rfl,Option.some.inj h ▸ x⟩
 | _::_,_,.mk x y,j + 1,_,h=>RepAll.get y (j:=j) h
theorem RepAll.append:∀ {l:List AV} {vs ws:List Value} {m:List AV},RepAll G vs l→RepAll G ws m→RepAll G (vs++ws) (l++m)
 | [],_,_,_,.refl _,h=>h
 | _::_,_,_,_,.mk x y,h=>.mk x (RepAll.append y h)
theorem RepAll.take:∀ {l:List AV} {vs:List Value},RepAll G vs l→∀ n,RepAll G (vs.take n) (l.take n)
 | _,_,_,0=>rfl
 | [],_,.refl _,_ + 1=>rfl
 | _::_,_,.mk x y,n + 1=>.mk x (RepAll.take y n)
theorem RepAll.drop:∀ {l:List AV} {vs:List Value},RepAll G vs l→∀ n,RepAll G (vs.drop n) (l.drop n)
 | _,_,h,0=>h
 | [],_,.refl _,_ + 1=>rfl
 | _::_,_,.mk x y,n + 1=>RepAll.drop y n
theorem RepAll.single {v:Value} {a:AV} (h:Rep G v a):RepAll G [v] [a]:=.mk h rfl
theorem RepAll.reverse:∀ {l:List AV} {vs:List Value},RepAll G vs l→RepAll G vs.reverse l.reverse
 | [],_,.refl _=>rfl
 | _::_,_,.mk x y=>by
  rw [List.reverse_cons,List.reverse_cons]
  exact (RepAll.reverse y).append (.single x)
theorem RepAll.set:∀ {l:List AV} {vs:List Value},RepAll G vs l→∀ (n:Nat) {v:Value} {a:AV},Rep G v a→RepAll G (vs.set n v) (l.set n a)
 | [],_,.refl _,_,_,_,_=>rfl
 | _::_,_,.mk x y,0,w,_,h=>.mk h y
 | _::_,_,.mk x y,n + 1,_,_,h=>.mk x (RepAll.set y n h)
theorem RepAll.replicate {v:Value} {a:AV} (h:Rep G v a):∀ n,RepAll G (List.replicate n v) (List.replicate n a)
 | 0=>rfl
 | n + 1=>.mk h (RepAll.replicate h n)
end
def GH.In (G:GH) (h:Heap):Prop:=∀ a o,G a=some o→h.get? a=some o
structure Ext (F:Addr→Prop) (G:GH) (h:Heap) (G':GH) (h':Heap):Prop where
 le:∀ a o,G a=some o→G' a=some o
 new:∀ a o,G' a=some o→G a=some o∨h.get? a=none
 keep:∀ b o,h.get? b=some o→¬ F b→h'.get? b=some o
 slots:∀ b o,h.get? b=some o→∃ sl,h'.get? b=some { o with slots:=sl }
 inn:G'.In h'
section
variable {F:Addr→Prop} {G G' G₁ G₂:GH} {h h' h₁ h₂:Heap}
theorem Ext.refl (x:G.In h):Ext F G h G h:=⟨fun _ _ e=>e,fun _ _ e=>.inl e,fun _ _ e _=>e,fun _ o e=>⟨o.slots,e⟩,x⟩
theorem Ext.old (x:Ext F G h G₁ h₁) {a:Addr} (e:h₁.get? a=none):h.get? a=none :=
 match z:h.get? a with
 | none=>rfl
 | some o=>absurd ((x.slots a o z).choose_spec.symm.trans e) (Option.some_ne_none _)
theorem Ext.trans (x:Ext F G h G₁ h₁) (y:Ext F G₁ h₁ G₂ h₂):Ext F G h G₂ h₂ :=
 ⟨fun a o e=>y.le a o (x.le a o e),fun a o e=>(y.new a o e).elim (x.new a o) fun q=>.inr (x.old q),fun b o e n=>y.keep b o (x.keep b o e n) n,fun b o e=>⟨_,(y.slots b _ (x.slots b o e).choose_spec).choose_spec⟩,y.inn⟩
theorem Ext.of_keep (x:G.In h) (k:∀ b o,h.get? b=some o→h'.get? b=some o):Ext F G h G h':=⟨fun _ _ e=>e,fun _ _ e=>.inl e,fun b o e _=>k b o e,fun b o e=>⟨o.slots,k b o e⟩,fun a o e=>k a o (x a o e)⟩
theorem Ext.has (x:Ext F G h G' h') {a:Addr} {o:Obj} (e:h.get? a=some o):∃ o',h'.get? a=some o':=⟨_,(x.slots a o e).choose_spec⟩
theorem Ext.weak {F':Addr→Prop} (x:Ext F G h G' h') (hs:∀ b o,h.get? b=some o→¬ F' b→¬ F b):Ext F' G h G' h':=⟨x.le,x.new,fun b o e n=>x.keep b o e (hs b o e n),x.slots,x.inn⟩
theorem Ext.nope (e:Ext F G h G' h') {a:Addr} {o:Obj} (hg:G a=none) (ho:h.get? a=some o):G' a=none :=
 match q:G' a with
 | none=>rfl
 | some o'=>(e.new a o' q).elim (fun z=>absurd (z.symm.trans hg) (Option.some_ne_none _)) fun z=>absurd (ho.symm.trans z) (Option.some_ne_none _)
def GH.add (G:GH) (a:Addr) (o:Obj):GH:=fun b=>if b=a then some o else G b
theorem GH.add_self (G:GH) (a:Addr) (o:Obj):G.add a o a=some o:=if_pos rfl
theorem GH.add_ne (G:GH) (a:Addr) (o:Obj) {b:Addr} (h:b≠a):G.add a o b=G b:=if_neg h
theorem GH.add_cases {a b:Addr} {o ob:Obj} (e:G.add a o b=some ob):(b=a∧ob=o)∨G b=some ob :=
 if q:b=a then .inl ⟨q,(Option.some.inj ((if_pos q).symm.trans e)).symm⟩ else .inr ((if_neg q).symm.trans e)
theorem Ext.add {a:Addr} {o:Obj} (x:G.In h) (k:∀ b o,h.get? b=some o→h'.get? b=some o) (hn:h.get? a=none) (ho:h'.get? a=some o):Ext F G h (G.add a o) h' :=
 ⟨fun b ob e=>(GH.add_ne G a o fun q=>Option.some_ne_none ob ((x b ob e).symm.trans (by rw [q]; exact hn))).trans e,
  fun b ob e=>(GH.add_cases e).elim (fun q=>.inr (by rw [q.1]; exact hn)) .inl,fun b ob e _=>k b ob e,fun b ob e=>⟨ob.slots,k b ob e⟩,
  fun b ob e=>(GH.add_cases e).elim (fun q=>q.1 ▸ q.2 ▸ ho) fun q=>k b ob (x b ob q)⟩
theorem Ext.push {o:Obj} (x:G.In h) (hf:o.isFreed=false):Ext F G h (G.add h.objs.size o) (h.push o) :=
 .add x (fun b ob e=>Heap.get?_push_of_some _ e) (Heap.get?_none_of_le (Nat.le_refl _)) (Heap.get?_push_size _ hf)
end
structure ZS where
 G:GH
 s:Shared
def ZS.up (Z:ZS) (G:GH) (h:Heap) (t:Tok):ZS:=⟨G,{ Z.s with heap:=h,toks:=t }⟩
def ZS.tk (Z:ZS) (t:Tok):ZS:=⟨Z.G,{ Z.s with toks:=t }⟩
structure Stp (F:Addr→Prop) (Z Z':ZS):Prop where
 ext:Ext F Z.G Z.s.heap Z'.G Z'.s.heap
 sh:Z'.s={ Z.s with heap:=Z'.s.heap,toks:=Z'.s.toks }
section
variable {F:Addr→Prop} {Z Z' Z₁ Z₂:ZS} {Q:Value→Shared→Prop} {a:AV}
theorem Stp.refl (x:Z.G.In Z.s.heap):Stp F Z Z:=⟨.refl x,rfl⟩
theorem Stp.trans (x:Stp F Z Z₁) (y:Stp F Z₁ Z₂):Stp F Z Z₂:=⟨x.ext.trans y.ext,y.sh.trans (by rw [x.sh])⟩
theorem Stp.le (x:Stp F Z Z₁) {v:Value} {a:AV} (r:Rep Z.G v a):Rep Z₁.G v a:=rep_mono x.ext.le a v r
theorem Stp.les (x:Stp F Z Z₁) {v:List Value} {a:List AV} (r:RepAll Z.G v a):RepAll Z₁.G v a:=reps_mono x.ext.le a v r
theorem Stp.inn (x:Stp F Z Z₁):Z₁.G.In Z₁.s.heap:=x.ext.inn
def GP {α β:Type} (F:Addr→Prop) (rp:GH→β→α→Prop) (Z:ZS) (a:α) (Q:β→Shared→Prop):Prop:=∀ (Z':ZS) (r:β),Stp F Z Z'→rp Z'.G r a→Q r Z'.s
abbrev VP (F:Addr→Prop) (Z:ZS) (a:AV) (Q:Value→Shared→Prop):Prop:=GP F Rep Z a Q
theorem GP.here {α β:Type} {rp:GH→β→α→Prop} {a:α} {r:β} {Q:β→Shared→Prop} (h:GP F rp Z a Q) (x:Z.G.In Z.s.heap) (hr:rp Z.G r a):Q r Z.s:=h Z r (.refl x) hr
theorem VP.tk {r:Value} {t:Tok} (h:VP F Z a Q) (x:Z.G.In Z.s.heap) (hr:Rep Z.G r a):Q r { Z.s with toks:=t }:=h (Z.tk t) r ⟨.refl x,rfl⟩ hr
theorem VP.keep {r:Value} {t:Tok} {h':Heap} (h:VP F Z a Q) (x:Z.G.In Z.s.heap) (hr:Rep Z.G r a) (hk:∀ b o,Z.s.heap.get? b=some o→h'.get? b=some o):Q r { Z.s with heap:=h',toks:=t } :=
 h (Z.up Z.G h' t) r ⟨.of_keep x hk,rfl⟩ hr
theorem VP.seq {o:Obj} (h:VP F Z a Q) (x:Z.G.In Z.s.heap) (hf:o.isFreed=false) (hr:∀ G' b,(∀ a o,Z.G a=some o→G' a=some o)→G' b=some o→Rep G' (.ref b) a):Q (.ref Z.s.heap.objs.size) { Z.s with heap:=Z.s.heap.push o } :=
 have e:=Ext.push (F:=F) x hf
 h (Z.up _ _ Z.s.toks) _ ⟨e,rfl⟩ (hr _ _ e.le (GH.add_self ..))
theorem VP.tup {l:List AV} {ws:List Value} (h:VP F Z (.tup l) Q) (x:Z.G.In Z.s.heap) (hw:RepAll Z.G ws l) (hl:l.length≤lLine) :
  Q (.ref Z.s.heap.objs.size) { Z.s with heap := Z.s.heap.push { cls := .type "tuple", data := .seq ws.toArray } } :=
 VP.seq h x rfl fun _ b le e=>⟨.mk (n:=0) e rfl rfl (reps_mono le _ _ hw),hl⟩
theorem VP.lst {l:List AV} {ws:List Value} (h:VP F Z (.lst l) Q) (x:Z.G.In Z.s.heap) (hw:RepAll Z.G ws l) (hl:l.length≤lLine) :
  Q (.ref Z.s.heap.objs.size) { Z.s with heap := Z.s.heap.push { cls := .type "list", data := .seq ws.toArray } } :=
 VP.seq h x rfl fun _ b le e=>⟨.mk (n:=0) e rfl rfl (reps_mono le _ _ hw),hl⟩
end
noncomputable def toPy (a:AV):PyData:=AV.rec (motive_1:=fun _=>PyData) (motive_2:=fun _=>List PyData) .none .bool .int (fun s=>.str ⟨s.toArray⟩) (fun _=>.tuple) (fun _=>.list) [] (fun _ _=>List.cons) a
noncomputable def toPys (l:List AV):List PyData:=AV.rec_1 (motive_1:=fun _=>PyData) (motive_2:=fun _=>List PyData) .none .bool .int (fun s=>.str ⟨s.toArray⟩) (fun _=>.tuple) (fun _=>.list) [] (fun _ _=>List.cons) l
theorem depth_toPy (a:AV):(toPy a).depth=a.depth :=
 AV.rec (motive_1:=fun a=>(toPy a).depth=a.depth) (motive_2:=fun l=>PyData.depthAll (toPys l)=AV.depths l) rfl (fun _=>rfl) (fun _=>rfl) (fun _=>rfl)
  (fun _ h=>congrArg (· + 1) h) (fun _ h=>congrArg (· + 1) h) rfl (fun _ _ h1 h2=>congr (congrArg max h1) h2) a
theorem strBeq (a b:List Nat):((⟨a.toArray⟩:Str) == ⟨b.toArray⟩)=(a == b):=by
 rw [Bool.eq_iff_iff]; simp
theorem eqv_toPy (a:AV):∀ b,PyData.eqv (toPy a) (toPy b)=a.eqv b :=
 AV.rec (motive_1:=fun a=>∀ b,PyData.eqv (toPy a) (toPy b)=a.eqv b) (motive_2:=fun l=>∀ m,PyData.eqvAll (toPys l) (toPys m)=AV.eqvs l m)
  (fun b=>by cases b <;> rfl) (fun _ b=>by cases b <;> rfl) (fun _ b=>by cases b <;> rfl) (fun s b=>by cases b <;> first | rfl | exact strBeq s _)
  (fun _ h b=>by cases b <;> first | rfl | exact h _) (fun _ h b=>by cases b <;> first | rfl | exact h _)
  (fun m=>by cases m <;> rfl) (fun _ _ h1 h2 m=>by cases m <;> first | rfl | exact congr (congrArg and (h1 _)) (h2 _)) a
theorem any_toPy (a:AV):∀ l:List AV,((toPys l).any fun y=>PyData.eqv y (toPy a))=l.any fun x=>x.eqv a
 | []=>rfl
 | b::l=>congr (congrArg or (eqv_toPy b a)) (any_toPy a l)
theorem rep_reads {G:GH} {h:Heap} (hG:G.In h) (a:AV):∀ v,rep G a v→∃ as,Reads h v (toPy a) as∧(toPy a).canLay0=true :=
 AV.rec (motive_1:=fun a=>∀ v,rep G a v→∃ as,Reads h v (toPy a) as∧(toPy a).canLay0=true) (motive_2:=fun l=>∀ vs,reps G l vs→∃ as,ReadsAll h vs (toPys l) as∧PyData.canLayAll0 (toPys l)=true)
  (fun _ e=>⟨[],e ▸ .none,rfl⟩) (fun _ _ e=>⟨[],e ▸ .bool _,rfl⟩) (fun _ _ e=>⟨[],by cases e; exact .int _ _,rfl⟩)
  (fun l _ e=>⟨[],by cases e with | mk e _ _=>rw [← e]; exact .str _ _,by cases e with | mk e _ h=>rw [← e]; exact h⟩)
  (fun _ ih _ hv=>by cases hv.1 with | mk a b c d=>exact have x:=(ih _ d).choose_spec; ⟨_,Reads.tuple (hG _ _ a) b c x.1,x.2⟩)
  (fun _ ih _ hv=>by cases hv.1 with | mk a b c d=>exact have x:=(ih _ d).choose_spec; ⟨_,Reads.list (hG _ _ a) b c x.1,x.2⟩)
  (fun _ e=>⟨[],by rw [show _=_ from e]; exact .nil,rfl⟩)
  (fun _ _ h1 h2 _ hv=>by cases hv with | mk x y=>exact have p:=(h1 _ x).choose_spec; have q:=(h2 _ y).choose_spec; ⟨_,ReadsAll.cons p.1 q.1,(congr (congrArg and p.2) q.2:_=(true && true))⟩) a
section
variable {G:GH} {h:Heap}
inductive SeqH (G:GH) (h:Heap) (c:String) (l:List AV):Value→Prop
 | mk {a:Addr} {ws:List Value}:(∃ o,h.get? a=some o∧o.cls=.type c∧∃ n,o.data=.seq ws.toArray n)→RepAll G ws l→l.length≤lLine→SeqH G h c l (.ref a)
theorem rep_tup (hG : G.In h) {v : Value} {l : List AV} (r : Rep G v (.tup l)) : SeqH G h "tuple" l v := by
 cases r.1 with | mk x y z w=>exact .mk ⟨_,hG _ _ x,y,_,z⟩ w r.2
theorem rep_lst (hG : G.In h) {v : Value} {l : List AV} (r : Rep G v (.lst l)) : SeqH G h "list" l v := by
 cases r.1 with | mk x y z w=>exact .mk ⟨_,hG _ _ x,y,_,z⟩ w r.2
end
theorem strOk_iff (s:Str):PyData.strOk s=true ↔ okS s.cps.toList:=by
 unfold PyData.strOk okS
 rw [← Array.all_toList,List.all_eq_true]
 exact forall_congr' fun _=>imp_congr_right fun _=>decide_eq_true_iff
theorem len_toList (s:Str):s.cps.toList.length=s.length:=rfl
theorem lLine_le:lLine≤sizeLine:=by rw [sizeLine_eq]; decide
theorem sz16:sizeLine=16777216:=sizeLine_eq
theorem szL16:szLine=16777216:=rfl
theorem l16:lLine=1048576:=rfl
theorem RepAll.le {G:GH} {vs:List Value} {l:List AV} (h:RepAll G vs l) (hl:l.length≤lLine):vs.length≤sizeLine:=Nat.le_trans (Nat.le_of_eq h.length) (Nat.le_trans hl lLine_le)
end Mine
end
section
set_option tactic.hygienic false
open PySem PySem.Calls PyProof.Rows PySem.SeqAt PySem.W
namespace Mine
inductive XK where
 | fresh
 | fly (fl:Value)
def XTb (B h:Heap) (e:Addr) (vs:Array Value):XK→Prop
 | .fresh=>vs[1]?=some .none
 | .fly fl=>∃ T oT ts,vs[1]?=some (.ref T)∧B.get? T=none∧T≠e∧h.get? T=some oT∧oT.data=.fields ts∧ts[3]?=some fl
structure XS (B:Heap) (l:List Env) (e:Addr) (cls:Value) (d:Addr) (k:XK) (h:Heap):Prop where
 stays:B.StaysIn h
 new:B.get? e=none
 frames:h.FunFrames B l
 there:∃ oe vs,h.get? e=some oe∧oe.cls=cls∧oe.dict=some d∧oe.data=.fields vs∧1 < vs.size∧XTb B h e vs k
section
variable {M:Model} {A:Around} {E:Value→Shared→Prop} {s:Shared} {B:Heap} {env:Env} {outer l:List Env} {L e d:Addr} {cls:Value} {k:XK}
theorem dict_map (f:Array Value→Array Value) (o:Obj):(Obj.mapFields f o).dict=o.dict:=by
 refine cps fun Γ₀ fi₀=>?_
 obtain ⟨c,dd,dt,sl⟩:=o
 refine fi₀ ?_
 cases dt <;> rfl
theorem flight_x {fl:Value} {fr:Option Addr} {Q:Unit→Shared→Prop} (x:XS B l e cls d (.fly fl) s.heap)
  (hQ:∀ h',XS B l e cls d (.fly (fr.elim .none fun f=>rawInt f)) h'→s.heap.UpToSlots h'→Q () { s with heap:=h' }):wpAny M A (setFlight (.ref e) fr) Q E s:=by
 refine cps fun Γ₀ fi₀=>?_
 obtain ⟨oe,vs,he,hc,hdict,hd,hsz,T,oT,ts,h1,hnT,hTe,hT,hdT,h3⟩:=x.there
 refine fi₀ ?_
 have hsz3:3 < ts.size:=(Array.getElem?_eq_some_iff.mp h3).1
 have other:∀ b,b≠T→(s.heap.update T (Obj.mapFields (·.setIfInBounds 3 (fr.elim Value.none fun f=>rawInt f)))).get? b=s.heap.get? b :=
  fun b hb=>Heap.get?_update_other _ _ (Ne.symm hb)
 have noRecord:∀ b o,s.heap.get? b=some o→(∀ vs,o.data≠.fields vs)→b≠T:=fun b o hb hnf q=>by
  rw [q,hT] at hb; injection hb with hb; subst hb; exact hnf ts hdT
 unfold setFlight
 refine wpAny_bind (wpAny_field he hd h1 ?_)
 rw [if_pos (show (Value.ref T != Value.none)=true from by simp)]
 refine wpAny_setField hT hdT hsz3 (hQ _ ⟨fun b o hbo=>?_,x.new,x.frames.of_keeps fun b o hb hnf=>⟨o,(other b (noRecord b o hb hnf)).trans hb,rfl⟩,?_⟩ fun b o hb hnf=>⟨o.slots,(other b (noRecord b o hb hnf)).trans hb⟩)
 ·refine (other b fun q=>?_).trans (x.stays b o hbo)
  rw [q,hnT] at hbo; cases hbo
 ·exact ⟨oe,vs,(other e (Ne.symm hTe)).trans he,hc,hdict,hd,hsz,T,_,_,h1,hnT,hTe,Heap.get?_update_self _ hT (Obj.isFreed_of_fields (Obj.data_mapFields hdT _)),Obj.data_mapFields hdT _,by simp [hsz3]⟩
theorem entry_x {oe:Obj} {vs:Array Value} {head:Value} {hadNext:Bool} {Q:Unit→Shared→Prop}
  (hfr:A.frames=some (env::outer)) (hl:s.heap.FunFrames B (env::outer)) (hf:env.frame=some L)
  (he:s.heap.get? e=some oe) (hkb:B.StaysIn s.heap) (hen:B.get? e=none) (hd:oe.data=.fields vs) (hsz:1 < vs.size) (hdict:oe.dict=some d)
  (h:∀ h',XS B (env::outer) e oe.cls d (.fly (rawInt L)) h'→s.heap.UpToSlots h'→Q () { s with heap:=h' }) :
  wpAny M A (do let a ← frameOf env; let pl ← entryPlaceOf L hadNext; let b ← EntryCells.newEntry head a .none (rawInt L) .none pl; setField (.ref e) 1 b) Q E s:=by
 have hene:e ∉ (env::outer).filterMap (·.frame):=fun hm=>by
  refine cps fun Γ₀ fi₀=>?_
  obtain ⟨_,o,ho,hnf⟩:=hl.mem hm
  refine fi₀ ?_
  rw [he] at ho; injection ho with ho; subst ho; exact hnf vs hd
 refine wpAny_bind (wpAny_frameOf_fun hfr hl hf fun h₁ hs₁=>?_)
 refine wpAny_bind (wpAny_entryPlaceOf fun pl hpl=>?_)
 unfold EntryCells.newEntry newFields
 refine wpAny_bind (wpAny_newObj_type ?_ (hpl.sizeOk5 _ _ _ _ _))
 generalize hN : ({ cls := .type "traceback", dict := none, data := .fields ([head, .ref L, .none, rawInt L, .none] ++ (if pl.isEmpty then List.replicate 6 Value.none else pl)).toArray } : Obj) = oN
 have hNd:oN.data=.fields ([head,.ref L,.none,rawInt L,.none]++(if pl.isEmpty then List.replicate 6 Value.none else pl)).toArray:=by rw [← hN]
 have hNf:oN.isFreed=false:=Obj.isFreed_of_fields hNd
 have he₁:h₁.get? e=some oe:=(hs₁.2.1 e hene).trans he
 have kb₁:B.StaysIn h₁:=fun b o hbo=>(hs₁.2.1 b fun hm=>by rw [(hl.mem hm).1] at hbo; cases hbo).trans (hkb b o hbo)
 have he₂:=Heap.get?_push_of_some (h:=h₁) oN he₁
 refine wpAny_setField he₂ hd hsz ?_
 have hTe:h₁.objs.size≠e:=Nat.ne_of_gt (Heap.lt_size he₁)
 have hd₃:=Obj.data_mapFields hd (·.setIfInBounds 1 (Value.ref h₁.objs.size))
 have he₃:=Heap.get?_update_self (Obj.mapFields (·.setIfInBounds 1 (Value.ref h₁.objs.size))) he₂ (Obj.isFreed_of_fields hd₃)
 have hT₃:=(Heap.get?_update_other (h₁.push oN) (Obj.mapFields (·.setIfInBounds 1 (Value.ref h₁.objs.size))) (Ne.symm hTe)).trans (Heap.get?_push_size h₁ hNf)
 have keep:∀ b o,b≠e→h₁.get? b=some o→((h₁.push oN).update e (Obj.mapFields (·.setIfInBounds 1 (Value.ref h₁.objs.size)))).get? b=some o:=fun b o hbe hb=>by
  rw [Heap.get?_update_other _ _ (Ne.symm hbe)]
  exact Heap.get?_push_of_some _ hb
 have noRecord:∀ b o,s.heap.get? b=some o→(∀ vs,o.data≠.fields vs)→b≠e:=fun b o hb hnf q=>by
  rw [q,he] at hb; injection hb with hb; subst hb; exact hnf vs hd
 refine h _ ⟨fun b o hbo=>keep b o (fun q=>by rw [q,hen] at hbo; cases hbo) (kb₁ b o hbo),hen,hl.of_keeps fun b o hb hnf=>?_,?_⟩ fun b o hb hnf=>?_
 ·obtain ⟨sl,hs⟩:=hs₁.2.2 b o hb
  exact ⟨_,keep b _ (noRecord b o hb hnf) hs,rfl⟩
 ·exact ⟨_,_,he₃,Obj.cls_mapFields _ _,(dict_map _ _).trans hdict,hd₃,by simp [hsz],h₁.objs.size,oN,_,by simp [hsz],kb₁.fresh,hTe,hT₃,hNd,by simp⟩
 ·obtain ⟨sl,hs⟩:=hs₁.2.2 b o hb
  exact ⟨sl,keep b _ (noRecord b o hb hnf) hs⟩
def XK.here (L:Addr):XK→Prop
 | .fresh=>True
 | .fly fl=>fl=.none∨fl=rawInt L
theorem note_x {Q:Unit→Shared→Prop} (hfr:A.frames=some (env::outer)) (hf:env.frame=some L) (x:XS B (env::outer) e cls d k s.heap) (hk:k.here L)
  (h:∀ h',XS B (env::outer) e cls d (.fly (rawInt L)) h'→s.heap.UpToSlots h'→Q () { s with heap:=h' }):wpAny M A (noteFrame (.ref e) env) Q E s:=by
 refine cps fun Γ₀ fi₀=>?_
 obtain ⟨oe,vs,he,hc,hdict,hd,hsz,ht⟩:=x.there
 refine fi₀ ?_
 subst hc
 unfold noteFrame
 simp only [hf]
 cases k with
 | fresh =>
  refine wpAny_bind (wpAny_field he hd ht ?_)
  rw [if_neg (by decide)]
  exact entry_x hfr x.frames hf he x.stays x.new hd hsz hdict h
 | fly fl =>
  refine cps fun Γ₀ fi₀=>?_
  obtain ⟨T,oT,ts,h1,hnT,hTe,hT,hdT,h3⟩:=ht
  refine fi₀ ?_
  refine wpAny_bind (wpAny_field he hd h1 ?_)
  rw [if_pos (show (Value.ref T != Value.none)=true from by simp)]
  refine wpAny_bind (wpAny_field hT hdT h3 ?_)
  by_cases hfl:fl=rawInt L
  ·rw [if_pos (by simp [hfl])]
   refine wpAny_pure (h _ ?_ (Heap.UpToSlots.refl _))
   refine ⟨x.stays,x.new,x.frames,oe,vs,he,rfl,hdict,hd,hsz,T,oT,ts,h1,hnT,hTe,hT,hdT,by rw [← hfl]; exact h3⟩
  ·rw [if_neg (by simpa using hfl)]
   refine wpAny_bind (wpAny_setField hT hdT (Array.getElem?_eq_some_iff.mp h3).1 ?_)
   have other:∀ b,b≠T→(s.heap.update T (Obj.mapFields (·.setIfInBounds 3 Value.none))).get? b=s.heap.get? b:=fun b hb=>Heap.get?_update_other _ _ (Ne.symm hb)
   have noRecord:∀ b o,s.heap.get? b=some o→(∀ vs,o.data≠.fields vs)→b≠T:=fun b o hb hnf q=>by
    rw [q,hT] at hb; injection hb with hb; subst hb; exact hnf ts hdT
   refine entry_x hfr (x.frames.of_keeps fun b o hb hnf=>⟨o,(other b (noRecord b o hb hnf)).trans hb,rfl⟩) hf ((other e (Ne.symm hTe)).trans he)
    (fun b o hbo=>(other b fun q=>by rw [q,hnT] at hbo; cases hbo).trans (x.stays b o hbo)) x.new hd hsz hdict fun h' x' u=>h h' x' ?_
   exact fun b o hb hnf=>u b o ((other b (noRecord b o hb hnf)).trans hb) hnf
theorem XS.drop {env:Env} {h:Heap} (x:XS B (env::outer) e cls d k h):XS B outer e cls d k h:=⟨x.stays,x.new,x.frames.2.2,x.there⟩
theorem leave_x {Q:Unit→Shared→Prop} (hfr:A.frames=some (env::outer)) (hf:env.frame=some L) (x:XS B (env::outer) e cls d k s.heap) (hk:k.here L)
  (h:∀ h',XS B outer e cls d (.fly .none) h'→s.heap.UpToSlots h'→Q () { s with heap:=h' }):wpAny M A (leaving env (.ref e)) Q E s:=by
 unfold leaving
 refine wpAny_bind (note_x hfr hf x hk fun h₁ x₁ u₁=>?_)
 exact flight_x (fr:=none) x₁ fun h₂ x₂ u₂=>h h₂ x₂.drop (u₁.trans u₂)
end
end Mine
end
section
set_option tactic.hygienic false
open PySem PySem.Calls PyProof.Rows PySem.SeqAt PySem.W
namespace Mine
noncomputable def FTL : List (Str × Addr) := [(("error" : Str), 45), (("is_blank" : Str), 52), (("digit" : Str), 59), (("digits_value" : Str), 66), (("base_of" : Str), 73), (("whole_of" : Str), 80), (("need_whole" : Str), 87), (("wide" : Str), 94), (("bad_field" : Str), 101), (("mixed_fields" : Str), 108), (("beyond_places" : Str), 115), (("sign_at" : Str), 122), (("place_of" : Str), 129), (("digits_behind" : Str), 136), (("read_digits" : Str), 143), (("read_place" : Str), 150), (("read_size" : Str), 157), (("base_of_sort" : Str), 164), (("read_spec" : Str), 171), (("set_behind" : Str), 178), (("check_sort" : Str), 185), (("check_told" : Str), 192), (("check_scan" : Str), 199), (("skip_blanks" : Str), 206), (("ranges_of" : Str), 213), (("is_member" : Str), 220), (("behind_members" : Str), 227), (("fitted" : Str), 234), (("has_mark" : Str), 241), (("read_base" : Str), 248), (("read_whole" : Str), 255), (("read_field" : Str), 262), (("need_int" : Str), 269), (("need_room" : Str), 276), (("need_word" : Str), 283), (("digits_of" : Str), 290), (("filled" : Str), 297), (("cut_to_size" : Str), 304), (("without_sign" : Str), 311), (("mark_of" : Str), 318), (("whole_field" : Str), 325), (("field_of" : Str), 332), (("read_flags" : Str), 339), (("read_measure" : Str), 346), (("put_field" : Str), 353), (("format_text" : Str), 360), (("scan_text" : Str), 366), (("_law_number" : Str), 373), (("_law_value" : Str), 380), (("_law_digits" : Str), 387), (("_law_written" : Str), 394), (("_law_cut" : Str), 401), (("_law_whole" : Str), 408), (("_law_made" : Str), 415), (("_law_field" : Str), 420), (("_law_told" : Str), 427), (("_law_is_formatted" : Str), 432), (("_law_wrong_formats" : Str), 439), (("_law_is_scanned_back" : Str), 446), (("_law_piece" : Str), 451), (("_law_is_scanned" : Str), 456), (("_law_wrong_scans" : Str), 463), (("law" : Str), 470)]
noncomputable def Rc:Value:=.ref 33
noncomputable def excTail : List Value := [.type "Exception", .type "BaseException", .type "object"]
noncomputable def clsObj : Obj := excClassObj "Raised" "Raised" 33 32 [.type "Exception"] excTail true [] [] false none none (some (.ref 15)) none (some (.str "Raised" 189)) (some (.str "Raised" 197)) (some (.bool true)) "Exception.__new__"
noncomputable def clsFree : List Str := ["__getattribute__", "__getattr__", "__setattr__", "code", "value", "errorcode", "level", "ret", "info", "is_noted", "line", "extra"]
noncomputable def biName (b:BI):Str:=match b with
 | .len => "len" | .ord => "ord" | .chr => "chr" | .str => "str" | .abs => "abs" | .max => "max" | .min => "min" | .sum => "sum"
noncomputable def bisOf (b:BI):Value:=match b with
 | .len => .builtin "len" | .ord => .builtin "ord" | .chr => .builtin "chr" | .str => .type "str" | .abs => .builtin "abs" | .max => .builtin "max" | .min => .builtin "min" | .sum => .builtin "sum"
structure ClsNs (mN:Str→Option Value):Prop where
 init : mN ("__init__" : Str) = some (.ref 30)
 free:∀ n ∈ clsFree,mN n=none
def ExcCls (h:Heap):Prop:=h.get? 33=some clsObj∧∃ mN,h.Ns 32 mN∧ClsNs mN
theorem ExcCls.keep {h h':Heap} (x:ExcCls h) (k:∀ b o,h.get? b=some o→h'.get? b=some o):ExcCls h':=⟨k _ _ x.1,_,x.2.choose_spec.1.keeps k,x.2.choose_spec.2⟩
structure Stat (W0:Heap) (mg mb:Str→Option Value):Prop where
 g:W0.Ns mainGlobals mg
 b:W0.Ns builtinsNs mb
 lim:W0.NoLimit
 fn:∀ x f,FTL.lookup x=some f→mg x=some (.ref f)∧∃ o fd,W0.get? f=some o∧o.data=.func fd
 bi:∀ b:BI,mg (biName b)=none∧mb (biName b)=some (bisOf b)
 range : mg ("range" : Str) = none ∧ mb ("range" : Str) = some (.type "range")
 exc : mg ("Exception" : Str) = none ∧ mb ("Exception" : Str) = some (.type "Exception")
 sz:∃ b o,sysModules < b∧W0.get? b=some o
 cls:ExcCls W0
 clsName : mg ("Raised" : Str) = some Rc
def Room (k:Nat) (A:Around):Prop:=A.depth + 2 * k + 10 < recursionLimit∧A.units + 10 * k + 100 < cLine
theorem Room.depth {k:Nat} {A:Around} (h:Room k A):A.depth < recursionLimit:=by unfold Room at h; lia
theorem Room.units {k:Nat} {A:Around} (h:Room k A):A.units + 40 < cLine:=by unfold Room at h; lia
def FrS (l:List Env):Addr→Prop:=fun b=>b ∈ l.filterMap (·.frame)
inductive FrD (h:Heap) (env:Env):Prop
 | mk {L:Addr} {o:Obj} {es:Array DictEntry} {n:Nat}:env.scope.kind≠.module→env.frame=some L→h.get? L=some o→o.data=.dict es n→FrD h env
def FrOK (h:Heap) (l:List Env):Prop:=∀ env ∈ l,FrD h env
theorem FrOK.slots {h h':Heap} {l:List Env} (x:FrOK h l) (k:∀ b o,h.get? b=some o→∃ sl,h'.get? b=some { o with slots:=sl }):FrOK h' l:=fun env he=>by
 cases x env he with | mk a b c d=>exact .mk a b (k _ _ c).choose_spec d
def GFr (G:GH) (l:List Env):Prop:=∀ env ∈ l,∀ a,env.frame=some a→G a=none
noncomputable def noG:GH:=fun _=>none
inductive XVals (G:GH) (h:Heap) (B:Heap) (d:Addr) (t:List Nat) (c:List AV):Prop
 | mk {m : Str → Option Value} {v1 : Value} {a2 : Addr} {o2 : Obj} {ws : List Value} {n2 : Nat} {t1 : Tok} : B.Ns1 d m → m ("code" : Str) = some (.int 1 t1) → m ("value" : Str) = some v1 → m ("errorcode" : Str) = some (.ref a2) →
  Rep noG v1 (.str t) → B.get? a2 = some o2 → o2.cls = .type "tuple" → o2.data = .seq ws.toArray n2 → RepAll noG ws c → c.length ≤ lLine → (G a2 = some o2 ∨ h.get? a2 = none) → XVals G h B d t c
inductive XIn (l:List Env) (k:XK) (G:GH) (h:Heap) (e:Addr) (t:List Nat) (c:List AV) (h':Heap):Prop
 | mk {B:Heap} {d:Addr}:(∀ b o,h.get? b=some o→¬ FrS l b→B.get? b=some o)→XS B l e Rc d k h'→h.UpToSlots h'→XVals G h B d t c→XIn l k G h e t c h'
theorem XVals.weak {F:Addr→Prop} {G G₁:GH} {h h₁ B:Heap} {d:Addr} {t:List Nat} {c:List AV} (x:XVals G₁ h₁ B d t c) (ex:Ext F G h G₁ h₁):XVals G h B d t c:=by
 cases x with | mk z1 z2 z3 z4 z5 z6 z7 z8 z9 z10 z11=>exact .mk z1 z2 z3 z4 z5 z6 z7 z8 z9 z10 (z11.elim (ex.new _ _) fun z=>.inr (ex.old z))
theorem XIn.weak {l:List Env} {k:XK} {F:Addr→Prop} {G G₁:GH} {h h₁ h':Heap} {e:Addr} {t:List Nat} {c:List AV} (x:XIn l k G₁ h₁ e t c h') (ex:Ext F G h G₁ h₁) (hs:∀ b,F b→FrS l b):XIn l k G h e t c h':=by
 cases x with | mk a b u v=>exact .mk (fun q o e hq=>a q o (ex.keep q o e fun f=>hq (hs q f)) hq) b (Heap.UpToSlots.trans (fun b o e _=>ex.slots b o e) u) (v.weak ex)
def XPost (l:List Env) (Z:ZS) (t:List Nat) (c:List AV) (E:Value→Shared→Prop):Prop :=
 ∀ (e:Addr) (h':Heap) (tk:Tok),XIn l (.fly .none) Z.G Z.s.heap e t c h'→E (.ref e) { Z.s with heap:=h',toks:=tk }
def RG {α β:Type} (F:Addr→Prop) (l:List Env) (rp:GH→β→α→Prop) (Z:ZS) (Q:β→Shared→Prop) (E:Value→Shared→Prop) (r:R α):Prop:=match r with
 | .ok a=>GP F rp Z a Q
 | .exn t c=>(∀ b,F b→FrS l b)∧XPost l Z t c E
 | .stuck=>False
section
variable {α β:Type} {F:Addr→Prop} {rp:GH→β→α→Prop} {l:List Env} {Z Z':ZS} {Q:β→Shared→Prop} {E:Value→Shared→Prop}
theorem XPost.on {t:List Nat} {c:List AV} (h:XPost l Z t c E) (e:Stp F Z Z') (hs:∀ b,F b→FrS l b):XPost l Z' t c E :=
 fun a h₂ tk₂ x=>by rw [e.sh]; exact h a h₂ tk₂ (x.weak e.ext hs)
theorem RG.on (e:Stp F Z Z'):∀ {r:R α},RG F l rp Z Q E r→RG F l rp Z' Q E r
 | .ok _,h=>fun Z₂ r e₂ hr=>h Z₂ r (e.trans e₂) hr
 | .exn _ _,h=>⟨h.1,h.2.on e h.1⟩
theorem RG.step {γ ρ:Type} {rq:GH→ρ→γ→Prop} {Q':ρ→Shared→Prop} {f:γ→R α}:∀ {r:R γ},RG F l rp Z Q E (r.bind f)→(∀ (a:γ),r=.ok a→∀ (Z':ZS) (v:ρ),Stp F Z Z'→rq Z'.G v a→RG F l rp Z' Q E (f a)→Q' v Z'.s)→RG F l rq Z Q' E r
 | .ok a,h,k=>fun Z' v e hv=>k a rfl Z' v e hv (RG.on e h)
 | .exn _ _,h,_=>h
theorem RG.lim {c:Bool} {r:R α} (h:RG F l rp Z Q E (lim c r)):c=true∧RG F l rp Z Q E r:=by
 cases c with
 | true=>exact ⟨rfl,h⟩
 | false=>exact h.elim
theorem RG.ifR {c:Bool} {a b:R α} (h:RG F l rp Z Q E (ifR c a b)):if c then RG F l rp Z Q E a else RG F l rp Z Q E b:=by
 cases c <;> exact h
inductive OSome {γ:Type} (P:γ→Prop):Option γ→Prop
 | mk {x:γ}:P x→OSome P (some x)
theorem RG.oO {γ:Type} {f:γ→R α}:∀ {o:Option γ},RG F l rp Z Q E (oO o f)→OSome (fun x=>RG F l rp Z Q E (f x)) o
 | some _,h=>.mk h
inductive IntV (P:Int→Prop):Value→AV→Prop | mk {i:Int} {t:Tok}:P i→IntV P (.int i t) (.int i)
inductive BoolV (P:Bool→Prop):Value→AV→Prop | mk {b:Bool}:P b→BoolV P (.bool b) (.bool b)
inductive StrV (P:List Nat→Prop):Value→AV→Prop | mk {s:Str} {t:Tok}:s.length≤sizeLine→PyData.strOk s=true→P s.cps.toList→StrV P (.str s t) (.str s.cps.toList)
inductive SeqV (h:Heap) (G:GH) (c:String) (k:List AV→AV) (P:List AV→Prop):Value→AV→Prop
 | mk {a:Addr} {ws:List Value} {m:List AV}:(∃ o,h.get? a=some o∧o.cls=.type c∧∃ n,o.data=.seq ws.toArray n)→RepAll G ws m→m.length≤lLine→P m→SeqV h G c k P (.ref a) (k m)
variable {f:Int→R α} {fb:Bool→R α} {fs:List Nat→R α} {fl:List AV→R α} {G:GH} {hp:Heap}
theorem RG.int {a:AV} {x:Value} (hx:Rep G x a) (h:RG F l rp Z Q E (asI a f)):IntV (fun i=>RG F l rp Z Q E (f i)) x a:=by
 cases a with
 | int i=>cases (show IntR i x from hx) with | mk=>exact .mk h
 | _=>exact (show False from h).elim
theorem RG.bool {a:AV} {x:Value} (hx:Rep G x a) (h:RG F l rp Z Q E (asB a fb)):BoolV (fun i=>RG F l rp Z Q E (fb i)) x a:=by
 cases a with
 | bool b=>cases (show x=.bool b from hx); exact .mk h
 | _=>exact (show False from h).elim
theorem rep_strV {P:List Nat→Prop} {s:List Nat} {x:Value} (hx:StrR s x) (h:P s):StrV P x (.str s):=by
 cases hx with | mk e a b=>rw [← e]; exact .mk a b (e ▸ h)
theorem RG.str {a:AV} {x:Value} (hx:Rep G x a) (h:RG F l rp Z Q E (asS a fs)):StrV (fun i=>RG F l rp Z Q E (fs i)) x a:=by
 cases a with
 | str i=>exact rep_strV hx h
 | _=>exact (show False from h).elim
theorem RG.tup (hG : G.In hp) {a : AV} {x : Value} (hx : Rep G x a) (h : RG F l rp Z Q E (asT a fl)) : SeqV hp G "tuple" .tup (fun i => RG F l rp Z Q E (fl i)) x a := by
 cases a with
 | tup i=>cases rep_tup hG hx with | mk a b c=>exact .mk a b c h
 | _=>exact (show False from h).elim
theorem RG.lst (hG : G.In hp) {a : AV} {x : Value} (hx : Rep G x a) (h : RG F l rp Z Q E (asL a fl)) : SeqV hp G "list" .lst (fun i => RG F l rp Z Q E (fl i)) x a := by
 cases a with
 | lst i=>cases rep_lst hG hx with | mk a b c=>exact .mk a b c h
 | _=>exact (show False from h).elim
inductive OneV (G:GH) (P:AV→Prop):List Value→List AV→Prop | mk {v:Value} {a:AV}:Rep G v a→P a→OneV G P [v] [a]
inductive TwoV (G:GH) (P:AV→AV→Prop):List Value→List AV→Prop | mk {v w:Value} {a b:AV}:Rep G v a→Rep G w b→P a b→TwoV G P [v,w] [a,b]
theorem RG.one {f:AV→R α} {a:List AV} {x:List Value} (hx:RepAll G x a) (h:RG F l rp Z Q E (as1 a f)):OneV G (fun i=>RG F l rp Z Q E (f i)) x a:=by
 rcases a with _ | ⟨a,_ | ⟨b,a⟩⟩
 ·exact (show False from h).elim
 ·cases (show ConsR _ _ _ from hx) with | mk y z=>cases (show _=[] from z); exact .mk y h
 ·exact (show False from h).elim
theorem RG.two {f:AV→AV→R α} {a:List AV} {x:List Value} (hx:RepAll G x a) (h:RG F l rp Z Q E (as2 a f)):TwoV G (fun i j=>RG F l rp Z Q E (f i j)) x a:=by
 rcases a with _ | ⟨a,_ | ⟨b,_ | ⟨c,a⟩⟩⟩
 ·exact (show False from h).elim
 ·exact (show False from h).elim
 ·cases (show ConsR _ _ _ from hx) with | mk y z=>cases (show ConsR _ _ _ from z) with | mk z1 w=>cases (show _=[] from w); exact .mk y z1 h
 ·exact (show False from h).elim
end
structure CK where
 N:List Str
 kinds:Str→Option NameKind
inductive Leads (env:Env) (h:Heap) (x:Str) (w:Value):Prop
 | loc {m:Str→Option Value}:env.kindOf x=some .local→h.Ns env.locals m→m x=some w→Leads env h x w
 | cell {c:Addr}:env.kindOf x=some .cell→env.cells.lookup x=some c→h.IsCell c (some w)→Leads env h x w
theorem isCell_slots {h h':Heap} {c:Addr} {v:Option Value} (x:h.IsCell c v) (k:∀ b o,h.get? b=some o→∃ sl,h'.get? b=some { o with slots:=sl }):h'.IsCell c v :=
 ⟨_,(k _ _ x.choose_spec.1).choose_spec,x.choose_spec.2⟩
theorem Leads.keep {env:Env} {h h':Heap} {x:Str} {w:Value} (a:Leads env h x w) (k:∀ b o,h.get? b=some o→∃ sl,h'.get? b=some { o with slots:=sl }):Leads env h' x w:=by
 cases a with
 | loc h1 h2 h3=>exact .loc h1 (Heap.UpToSlots.ns (fun b o e _=>k b o e) h2) h3
 | cell h1 h2 h3=>exact .cell h1 h2 (isCell_slots h3 k)
theorem Leads.load {M:Model} {A:Around} {E:Value→Shared→Prop} {s:Shared} {Q:Value→Shared→Prop} {env:Env} {x:Str} {w:Value} (a:Leads env s.heap x w) (hk:env.scope.kind=.function) (h:Q w s) :
  wpAny M A (loadName env x) Q E s:=by
 cases a with
 | loc h1 h2 h3=>exact wpAny_loadName_local hk h1 h2 h3 h
 | cell h1 h2 h3=>exact wpAny_loadName_cell hk h1 h2 h3 h
def ownList (ws : List Value) (n : Nat) : Obj := { cls := .type "list", data := .seq ws.toArray n }
structure pairsAre (kvs:List (Int × Value)) (l:List (Int × Int)):Prop where
 keys:kvs.map (·.1)=l.map (·.1)
 vals:∀ j:Nat,∀ p:Int × Int,l[j]?=some p→∃ t,kvs[j]?=some (p.1,.int p.2 t)
inductive DictR (prog:Program) (w:World) (F:Addr→Prop) (h:Heap) (l:List (Int × Int)) (a:Addr):Prop
 | mk {kvs:List (Int × Value)}:h.DictOf (intKind prog w) a kvs→pairsAre kvs l→¬ F a→(a == sysModules)=false→DictR prog w F h l a
theorem DictOf_keep {prog:Program} {w:World} {h h':Heap} {a:Addr} {kvs:List (Int × Value)} (d:h.DictOf (intKind prog w) a kvs) (k:∀ o,h.get? a=some o→h'.get? a=some o):h'.DictOf (intKind prog w) a kvs:=by
 obtain ⟨o,es,ep,ho,r⟩:=d
 exact ⟨o,es,ep,k _ ho,r⟩
inductive SlotOk (prog:Program) (w:World) (env:Env) (F:Addr→Prop) (G:GH) (h:Heap) (x:Str):SV→Prop
 | u:SlotOk prog w env F G h x .u
 | val {v:AV} {r:Value}:Leads env h x r→Rep G r v→SlotOk prog w env F G h x (.val v)
 | ol {l:List AV}:SlotOk prog w env F G h x (.ol l)
 | sl {l:List AV}:SlotOk prog w env F G h x (.sl l)
 | od {l:List (Int × Int)} {a:Addr}:Leads env h x (.ref a)→DictR prog w F h l a→SlotOk prog w env F G h x (.od l)
 | rd {l:List (Int × Int)} {a:Addr}:Leads env h x (.ref a)→DictR prog w F h l a→SlotOk prog w env F G h x (.rd l)
theorem DictR.ext {prog:Program} {w:World} {F:Addr→Prop} {G G':GH} {h h':Heap} {l:List (Int × Int)} {a:Addr} (d:DictR prog w F h l a) (e:Ext F G h G' h'):DictR prog w F h' l a:=by
 cases d with | mk a b c d=>exact .mk (DictOf_keep a fun o q=>e.keep _ o q c) b c d
theorem SlotOk.ext {prog:Program} {w:World} {env:Env} {F:Addr→Prop} {G G':GH} {h h':Heap} {x:Str} {sv:SV} (z:SlotOk prog w env F G h x sv) (e:Ext F G h G' h'):SlotOk prog w env F G' h' x sv:=by
 cases z with
 | u=>exact .u
 | val h1 h2=>exact .val (h1.keep e.slots) (rep_mono e.le _ _ h2)
 | sl=>exact .sl
 | ol=>exact .ol
 | od h1 h2=>exact .od (h1.keep e.slots) (h2.ext e)
 | rd h1 h2=>exact .rd (h1.keep e.slots) (h2.ext e)
structure EnvOk (C:CK) (env:Env):Prop where
 kind:env.scope.kind=.function
 glob:env.globals=mainGlobals
 blt:env.builtins=builtinsNs
 kinds:∀ x,env.kindOf x=C.kinds x
 cells:∀ x,C.kinds x=some .cell→∃ c,env.cells.lookup x=some c
structure WX (C:CK) where
 prog:Program
 w:World
 W0:Heap
 mg:Str→Option Value
 mb:Str→Option Value
 A:Around
 l:List Env
 F:Addr→Prop
 k:Nat
 Φ:Tab
 env:Env
 stat:Stat W0 mg mb
 frames:A.frames=some l
 handled:A.handled=none
 room:Room k A
 Wn:∀ b o,W0.get? b=some o→¬ F b
 hE:EnvOk C env
 calls:∀ (f:Nat) (args:List AV) (Z:ZS) (vs:List Value) (Q:Value→Shared→Prop) (E:Value→Shared→Prop),
  W0.StaysIn Z.s.heap→FrOK Z.s.heap l→GFr Z.G l→Z.G.In Z.s.heap→RepAll Z.G vs args→RG F l Rep Z Q E (Φ f args)→wpAny (model prog w) A (call (.ref f) vs) Q E Z.s
abbrev WX.M {C:CK} (X:WX C):Model:=model X.prog X.w
structure St {C:CK} (X:WX C) (Z:ZS) (σ:Env'):Prop where
 inG:Z.G.In Z.s.heap
 W:X.W0.StaysIn Z.s.heap
 fr:FrOK Z.s.heap X.l
 gfr:GFr Z.G X.l
 slots:∀ (i:Nat) (sv:SV) (x:Str),σ[i]?=some sv→C.N[i]?=some x→SlotOk X.prog X.w X.env X.F Z.G Z.s.heap x sv
variable {C:CK} {X:WX C} {Z Z':ZS} {σ:Env'}
theorem St.on (S:St X Z σ) (e:Stp X.F Z Z'):St X Z' σ :=
 ⟨e.inn,fun q o z=>e.ext.keep q o (S.W q o z) (X.Wn q o z),S.fr.slots e.ext.slots,fun env he a hf=>by
  cases S.fr env he with | mk q1 q2 q3 q4=>rw [q2] at hf; cases hf; exact e.ext.nope (S.gfr env he _ q2) q3,fun i sv x h1 h2=>(S.slots i sv x h1 h2).ext e.ext⟩
abbrev RV (X:WX C) (Z:ZS) (Q:Value→Shared→Prop) (E:Value→Shared→Prop) (r:R AV):Prop:=RG X.F X.l Rep Z Q E r
def EOk (C:CK) (m:ME) (e:Expr):Prop:=∀ (X:WX C) (σ:Env') (Z:ZS) (Q:Value→Shared→Prop) (E:Value→Shared→Prop),St X Z σ→RV X Z Q E (evE X.Φ m σ)→wpAny X.M X.A (eval e X.env) Q E Z.s
noncomputable def evT (Φ:Tab) (m:ME) (σ:Env'):R Bool:=(evE Φ m σ).bind fun v=>asB v .ok
def isB (_:GH) (b a:Bool):Prop:=b=a
def TOk (C:CK) (m:ME) (e:Expr):Prop:=∀ (X:WX C) (σ:Env') (Z:ZS) (Q:Bool→Shared→Prop) (E:Value→Shared→Prop),St X Z σ→RG X.F X.l isB Z Q E (evT X.Φ m σ)→wpAny X.M X.A (isTrue e X.env (eval e X.env)) Q E Z.s
def EsOk (C:CK) (ms:List ME) (es:List Expr):Prop:=∀ (X:WX C) (pos:Pos) (σ:Env') (Z:ZS) (Q:List Value→Shared→Prop) (E:Value→Shared→Prop),St X Z σ→RG X.F X.l RepAll Z Q E (evEs X.Φ ms σ)→wpAny X.M X.A (spliced (backTo pos (starEach es X.env))) Q E Z.s
end Mine
end
section
set_option tactic.hygienic false
open PySem PySem.Calls PyProof.Rows PySem.SeqAt PySem.W
namespace Mine
section
variable {C:CK} {X:WX C} {Z:ZS} {E:Value→Shared→Prop} {x y:Value} {a b:AV} {Q:Value→Shared→Prop}
theorem smallI_iff {k:Int} (h:smallI k=true):-(2 ^ 63) < k∧k < 2 ^ 63:=⟨of_decide_eq_true (Bool.and_eq_true_iff.mp h).1,of_decide_eq_true (Bool.and_eq_true_iff.mp h).2⟩
theorem smallI_bits {k:Int} (h:smallI k=true):Builtin.Int.intBits k≤64:=have q:=smallI_iff h; intBits_le_64 (by omega) (by omega)
theorem append_cps (p q:Str):(p++q).cps.toList=p.cps.toList++q.cps.toList:=Array.toList_append
theorem strOk_append {p q:Str} (h1:PyData.strOk p=true) (h2:PyData.strOk q=true):PyData.strOk (p++q)=true:=by
 rw [strOk_iff] at *
 rw [append_cps]
 exact fun c hc=>(List.mem_append.mp hc).elim (h1 c) (h2 c)
theorem foldl_app (c:Array Nat):∀ (k:Nat) (acc:Array Nat),((List.replicate k c).foldl (·++·) acc).toList=acc.toList++(List.replicate k c.toList).flatten
 | 0,acc=>(List.append_nil _).symm
 | k + 1,acc=>by rw [List.replicate_succ,List.foldl_cons,foldl_app c k,List.replicate_succ,List.flatten_cons,Array.toList_append,List.append_assoc]
theorem mul_cps (p:Str) (n:Int):(Txt.mul p n).cps.toList=repl n p.cps.toList:=by
 unfold Txt.mul repl
 by_cases h1:n < 1
 ·rw [if_pos h1,Int.toNat_of_nonpos (by omega)]; rfl
 ·rw [if_neg h1]
  split
  ·rename_i hc
   rcases Bool.or_eq_true_iff.mp hc with h | h
   ·rw [eq_of_beq h]; simp
   ·rw [Array.eq_empty_of_size_eq_zero (eq_of_beq h)]; simp
  ·rw [foldl_app]; rfl
theorem okS_repl {l:List Nat} (h:okS l) (n:Int):okS (repl n l):=fun c hc=>by
 obtain ⟨m,hm,hc⟩:=List.mem_flatten.mp hc
 exact h c (List.eq_of_mem_replicate hm ▸ hc)
theorem repl_length (n:Int) (s:List Nat):(repl n s).length=s.length * n.toNat:=by
 unfold repl
 rw [List.length_flatten,List.map_replicate,List.sum_replicate_nat,Nat.mul_comm]
theorem list_add {M:Model} {prog:Program} {w:World} {A:Around} {s:Shared} {l b:Addr} {vs ws:List Value} {Q:Value→Shared→Prop} (hl:s.heap.IsList l vs.toArray) (hb:s.heap.IsList b ws.toArray)
  (h : Q (.ref s.heap.objs.size) { s with heap := s.heap.push { cls := .type "list", data := .seq (vs ++ ws).toArray } })
  (hsz:vs.length + ws.length≤sizeLine) :
  wpAny (model prog w) A (binaryOp .Add (.ref l) (.ref b)) Q E s:=by
 obtain ⟨⟨cls,dd,data,sl⟩,ho,hc,n,hd⟩:=hl
 obtain ⟨⟨cls2,dd2,data2,sl2⟩,ho2,hc2,n2,hd2⟩:=hb
 dsimp only at hc hd hc2 hd2
 subst hc hd hc2 hd2
 refine concat_meets ⟨_,ho,rfl⟩ ⟨_,ho2,rfl⟩ noFill_list_add seq_list_add PySem.F.slot_list_add PySem.F.entry_list_add (PySem.F.args_list_add_2 _ _)
  (list_addW l b vs.toArray ws.toArray n n2 dd dd2 sl sl2 hsz) ⟨ho,ho2,?_⟩
 rw [List.append_toArray]
 exact h
theorem tup_add {prog:Program} {w:World} {A:Around} {s:Shared} {t b:Addr} {vs ws:List Value} {Q:Value→Shared→Prop} (ht:s.heap.IsTuple t vs.toArray) (hb:s.heap.IsTuple b ws.toArray)
  (h0:vs=[]→Q (.ref b) s) (h1:ws=[]→Q (.ref t) s)
  (h2 : Q (.ref s.heap.objs.size) { s with heap := s.heap.push { cls := .type "tuple", data := .seq (vs ++ ws).toArray } })
  (hsz:vs.length + ws.length≤sizeLine) :
  wpAny (model prog w) A (binaryOp .Add (.ref t) (.ref b)) Q E s:=by
 obtain ⟨⟨cls,dd,data,sl⟩,ho,hc,n,hd⟩:=ht
 obtain ⟨⟨cls2,dd2,data2,sl2⟩,ho2,hc2,n2,hd2⟩:=hb
 dsimp only at hc hd hc2 hd2
 subst hc hd hc2 hd2
 cases vs with
 | nil=>exact concat_meets ⟨_,ho,rfl⟩ ⟨_,ho2,rfl⟩ noFill_tuple_add seq_tuple_add PySem.F.slot_tuple_add PySem.F.entry_tuple_add (PySem.F.args_tuple_add_2 _ _) (tuple_addW0 t b _ ws.toArray n n2 dd dd2 sl sl2 rfl) ⟨ho,ho2,h0 rfl⟩
 | cons v vs=>cases ws with
  | nil=>exact concat_meets ⟨_,ho,rfl⟩ ⟨_,ho2,rfl⟩ noFill_tuple_add seq_tuple_add PySem.F.slot_tuple_add PySem.F.entry_tuple_add (PySem.F.args_tuple_add_2 _ _) (tuple_addW1 t b _ _ n n2 dd dd2 sl sl2 (by simp) rfl) ⟨ho,ho2,h1 rfl⟩
  | cons u ws =>
   refine concat_meets ⟨_,ho,rfl⟩ ⟨_,ho2,rfl⟩ noFill_tuple_add seq_tuple_add PySem.F.slot_tuple_add PySem.F.entry_tuple_add (PySem.F.args_tuple_add_2 _ _) (tuple_addW2 t b _ _ n n2 dd dd2 sl sl2 (by simp) (by simp) hsz) ⟨ho,ho2,?_⟩
   rw [List.append_toArray]
   exact h2
noncomputable def opOf (op:BOp):Operator:=match op with
 | .add=>.Add | .sub=>.Sub | .mul=>.Mult | .fdiv=>.FloorDiv | .fmod=>.Mod | .pow=>.Pow | .band=>.BitAnd | .shl=>.LShift | .shr=>.RShift
section
variable (hG:Z.G.In Z.s.heap) (hx:Rep Z.G x a) (hy:Rep Z.G y b)
include hG hx hy
theorem add_ok (h:RV X Z Q E (addop a b)):wpAny X.M X.A (binaryOp .Add x y) Q E Z.s:=by
 cases a with
 | int i =>
  cases (show IntR i x from hx)
  cases RG.int hy h with | mk h=>exact P.add_int (VP.tk h hG .mk)
 | str l =>
  cases RG.str hy h with | mk q1 q2 h =>
  cases (show StrR l x from hx) with | mk e p1 p2 =>
  subst e
  have h:=h.lim
  have hsz:=of_decide_eq_true h.1
  exact SB.add (fun t' k=>VP.tk h.2 hG (.mk (append_cps _ _) (Nat.le_trans (Nat.le_of_eq (size_cat ..)) hsz) (strOk_append p2 q2))) hsz
 | tup l =>
  cases RG.tup hG hy h with | mk q1 q2 q3 h =>
  cases rep_tup hG hx with | mk p1 p2 p3 =>
  have h:=h.lim
  have hsz:=of_decide_eq_true h.1
  refine tup_add p1 q1 (fun e=>?_) (fun e=>?_) (VP.tup h.2 hG (p2.append q2) (by rw [List.length_append]; exact hsz)) (by rw [p2.length,q2.length]; exact Nat.le_trans hsz lLine_le)
  ·subst e
   have e:=p2.length
   rw [List.eq_nil_of_length_eq_zero e.symm] at h
   exact h.2.here hG hy
  ·subst e
   have e:=q2.length
   rw [List.eq_nil_of_length_eq_zero e.symm,List.append_nil] at h
   exact h.2.here hG hx
 | lst l =>
  cases RG.lst hG hy h with | mk q1 q2 q3 h =>
  cases rep_lst hG hx with | mk p1 p2 p3 =>
  have h:=h.lim
  have hsz:=of_decide_eq_true h.1
  exact list_add (M:=X.M) p1 q1 (VP.lst h.2 hG (p2.append q2) (by rw [List.length_append]; exact hsz)) (by rw [p2.length,q2.length]; exact Nat.le_trans hsz lLine_le)
 | _=>exact (show False from h).elim
theorem mul_ok (h:RV X Z Q E (mulop a b)):wpAny X.M X.A (binaryOp .Mult x y) Q E Z.s:=by
 cases a with
 | int i =>
  cases (show IntR i x from hx)
  cases RG.int hy h with | mk h =>
  have h:=h.lim
  exact P.mul_int (VP.tk h.2 hG .mk) ((Bool.or_eq_true_iff.mp h.1).elim (fun q=>IntMulOk.of_left (smallI_bits q)) fun q=>IntMulOk.of_right (smallI_bits q))
 | str l =>
  cases (show StrR l x from hx) with | @mk p _ e p1 p2 =>
  subst e
  cases RG.int hy h with | @mk k _ h =>
  have h:=h.lim
  have hc:=Bool.and_eq_true_iff.mp h.1
  have hc1:p.length * k.toNat≤16777216:=of_decide_eq_true hc.1
  have hb:=smallI_iff hc.2
  refine SB.mul ⟨?_,fun h1 h2=>?_,fun h1 _=>short24 hc1⟩ (fun t' k'=>VP.tk h.2 hG (.mk (mul_cps p k) ?_ ?_))
  ·rw [decide_eq_false (show ¬ k < -(2 ^ 63:Int) by clear h hc1; omega),decide_eq_false (show ¬ k ≥ (2 ^ 63:Int) by clear h hc1; omega)]; rfl
  ·clear h hc hb
   have hpos:0 < k:=by omega
   have h3:(p.length:Int) * k≤2 ^ 63 - 1:=by
    rw [← Int.toNat_of_nonneg (Int.le_of_lt hpos),← Int.natCast_mul]; omega
   have h4:(p.length:Int)≤(2 ^ 63 - 1) / k:=(Int.le_ediv_iff_mul_le hpos).mpr h3
   omega
  ·rw [← len_toList,mul_cps,repl_length,sizeLine_eq]; exact hc1
  ·rw [strOk_iff,mul_cps]
   exact okS_repl ((strOk_iff p).mp p2) _
 | _=>exact (show False from h).elim
end
theorem RG.int2 {α β:Type} {F:Addr→Prop} {rp:GH→β→α→Prop} {l:List Env} {Z:ZS} {Q:β→Shared→Prop} {E:Value→Shared→Prop} {G:GH} {x y:Value} {a b:AV} {r:Int→Int→R α} (P:Value→Value→Prop)
  (hx:Rep G x a) (hy:Rep G y b) (h:RG F l rp Z Q E (asI a fun i=>asI b fun j=>r i j)) (k:∀ i j t u,RG F l rp Z Q E (r i j)→P (.int i t) (.int j u)):P x y:=by
 cases RG.int hx h with | mk h=>cases RG.int hy h with | mk h=>exact k _ _ _ _ h
theorem binop_ok (op:BOp) (hG:Z.G.In Z.s.heap) (hx:Rep Z.G x a) (hy:Rep Z.G y b) (h:RV X Z Q E (binop op a b)):wpAny X.M X.A (binaryOp (opOf op) x y) Q E Z.s:=by
 have go:=fun {r:Int→Int→R AV}=>RG.int2 (F:=X.F) (rp:=Rep) (l:=X.l) (Z:=Z) (Q:=Q) (E:=E) (r:=r) (fun x y=>wpAny X.M X.A (binaryOp (opOf op) x y) Q E Z.s) hx hy
 cases op with
 | add=>exact add_ok hG hx hy h
 | sub=>exact go h fun i j t u h=>P.sub_int (VP.tk h hG .mk)
 | mul=>exact mul_ok hG hx hy h
 | fdiv=>exact go h fun i j t u h =>
  have h:=h.lim
  have hc:=Bool.and_eq_true_iff.mp h.1
  have h1:=of_decide_eq_true hc.1
  have h2:=of_decide_eq_true hc.2
  PyProof.Rows.floordiv_int (Int.ne_of_gt h1) (VP.tk h.2 hG (Int.fdiv_eq_ediv_of_nonneg i (Int.le_of_lt h1) ▸ .mk)) (.inl (PyProof.noPylong_small (by clear h; omega)))
 | fmod=>exact go h fun i j t u h =>
  have h:=h.lim
  have h1:=of_decide_eq_true h.1
  PyProof.Rows.mod_int' (Int.ne_of_gt h1) (VP.tk h.2 hG (Int.fmod_eq_emod_of_nonneg i (Int.le_of_lt h1) ▸ .mk))
 | pow=>exact go h fun i j t u h =>
  have h:=h.lim
  have hc:=Bool.and_eq_true_iff.mp h.1
  have hc':=Bool.and_eq_true_iff.mp hc.1
  have h1:=of_decide_eq_true hc'.1
  have h2:((Builtin.Int.intBits i:Nat):Int) * j≤64 * 100:=Int.mul_le_mul (Int.ofNat_le.mpr (smallI_bits hc.2)) (of_decide_eq_true hc'.2) h1 (by decide)
  PyProof.Rows.pow_int h1 (Int.le_trans h2 (by decide)) (VP.tk h.2 hG .mk)
 | band=>exact go h fun i j t u h=>PyProof.Rows.and_int (VP.tk h hG .mk)
 | shl=>exact go h fun i j t u h =>
  have h:=h.lim
  have hc:=Bool.and_eq_true_iff.mp h.1
  have hc':=Bool.and_eq_true_iff.mp hc.1
  have hb:=smallI_iff hc.2
  PyProof.Rows.lshift_int_small (of_decide_eq_true hc'.1) (of_decide_eq_true hc'.2) (by clear h hc hc'; omega) (VP.tk h.2 hG .mk)
 | shr=>exact go h fun i j t u h =>
  have h:=h.lim
  PyProof.Rows.rshift_int (of_decide_eq_true h.1) (VP.tk h.2 hG (Int.fdiv_eq_ediv_of_nonneg i (Int.le_of_lt (Int.pow_pos (show (0:Int) < 2 by decide))) ▸ .mk))
end
end Mine
end
section
set_option tactic.hygienic false
open PySem PySem.Calls PyProof.Rows PySem.SeqAt PySem.W
namespace Mine
noncomputable def copOf (op:COp):CmpOp:=match op with
 | .eq=>.Eq | .ne=>.NotEq | .lt=>.Lt | .le=>.LtE | .gt=>.Gt | .ge=>.GtE | .isin=>.In | .notin=>.NotIn | .is=>.Is
theorem str_one {q:Str} {c:Nat} (h:q.cps.toList=[c]):q=⟨#[c]⟩:=by
 obtain ⟨z⟩:=q
 exact congrArg Str.mk (Array.ext' h)
theorem contains_one {p:Str} (c:Nat):Txt.contains p ⟨#[c]⟩=p.cps.toList.contains c:=by
 unfold Txt.contains
 rw [StrLaws.found_one]
 simp
theorem shallow_iff {a:AV} (h:shallow a=true):a.depth≤20:=Nat.le_of_ble_eq_true h
section
variable {C:CK} {X:WX C} {Z:ZS} {E:Value→Shared→Prop} {x y:Value} {a b:AV} {Q:Value→Shared→Prop}
theorem lift_bool {r:R Bool} {b:Bool} (hG:Z.G.In Z.s.heap) (h:RV X Z Q E (.ok (.bool b))):Q (.bool b) Z.s:=GP.here h hG rfl
theorem units2 (X:WX C) {a:AV} (d:Nat) (h:shallow a=true):X.A.units + 1 + min d (toPy a).depth < cLine:=by
 rw [depth_toPy]
 have:=Nat.min_le_right d a.depth
 have:=shallow_iff h
 have:=X.room.units
 lia
section
variable (hG:Z.G.In Z.s.heap) (hx:Rep Z.G x a) (hy:Rep Z.G y b)
include hG hx hy
theorem in_ok (p:Bool) (h:RV X Z Q E ((inop a b).bind fun c=>.ok (.bool (c ^^ p)))):wpAny X.M X.A (compareOp (match p with | true=>.NotIn | false=>.In) x y) Q E Z.s:=by
 cases b with
 | str s =>
  cases (show StrR s y from hy) with | mk e _ _ =>
  subst e
  cases a with
  | str l =>
   rcases l with _ | ⟨c,_ | ⟨d,l⟩⟩
   ·exact (show False from h).elim
   ·cases (show StrR [c] x from hx) with | @mk q _ e _ _ =>
    obtain rfl:=str_one e
    cases p with
    | true=>exact SB.notContains (by rw [contains_one,← Bool.xor_true]; exact GP.here h hG rfl)
    | false=>exact SB.contains (by rw [contains_one,← Bool.xor_false (List.contains _ _)]; exact GP.here h hG rfl)
   ·exact (show False from h).elim
  | _=>exact (show False from h).elim
 | tup l =>
  cases hs:shallow a with
  | false=>rw [show inop a (.tup l)=lim (shallow a) _ from rfl,hs] at h; exact (show False from h).elim
  | true =>
   have h:RV X Z Q E ((lim (shallow a) (.ok (l.any fun x=>x.eqv a))).bind fun c=>.ok (.bool (c ^^ p))):=h
   rw [hs] at h
   have hx:=(rep_reads hG _ _ hx).choose_spec
   have hy:Reads Z.s.heap y (.tuple (toPys l)) _∧(PyData.tuple (toPys l)).canLay0=true:=(rep_reads hG _ _ hy).choose_spec
   cases p with
   | true=>exact notIn_tuple_reads hy.1 hx.1 hy.2 hx.2 (units2 X _ hs) (by rw [any_toPy,← Bool.xor_true]; exact GP.here h hG rfl)
   | false=>exact in_tuple_reads hy.1 hx.1 hy.2 hx.2 (units2 X _ hs) (by rw [any_toPy,← Bool.xor_false (List.any _ _)]; exact GP.here h hG rfl)
 | lst l =>
  cases hs:shallow a with
  | false=>rw [show inop a (.lst l)=lim (shallow a) _ from rfl,hs] at h; exact (show False from h).elim
  | true =>
   have h:RV X Z Q E ((lim (shallow a) (.ok (l.any fun x=>x.eqv a))).bind fun c=>.ok (.bool (c ^^ p))):=h
   rw [hs] at h
   have hx:=(rep_reads hG _ _ hx).choose_spec
   have hy:Reads Z.s.heap y (.list (toPys l)) _∧(PyData.list (toPys l)).canLay0=true:=(rep_reads hG _ _ hy).choose_spec
   cases p with
   | true=>exact notIn_list_reads hy.1 hx.1 hy.2 hx.2 (units2 X _ hs) (by rw [any_toPy,← Bool.xor_true]; exact GP.here h hG rfl)
   | false=>exact in_list_reads hy.1 hx.1 hy.2 hx.2 (units2 X _ hs) (by rw [any_toPy,← Bool.xor_false (List.any _ _)]; exact GP.here h hG rfl)
 | _=>exact (show False from h).elim
theorem is_ok {c:Bool} (hb:b.isNone=true) (h:Q (.bool a.isNone) Z.s):wpAny X.M X.A (compareOp .Is x y) Q E Z.s:=by
 cases b with
 | none =>
  cases (show y=.none from hy)
  cases a with
  | none=>cases (show x=.none from hx); exact wpAny_is_plain rfl h
  | bool b=>cases (show x=.bool b from hx); exact wpAny_is_plain rfl h
  | int i=>cases (show IntR i x from hx); exact wpAny_is_plain rfl h
  | str i=>cases (show StrR i x from hx); exact wpAny_is_plain rfl h
  | tup l=>cases hx.1; exact wpAny_is_plain rfl h
  | lst l=>cases hx.1; exact wpAny_is_plain rfl h
 | _=>cases hb
theorem cmpop_ok (op:COp) (h:RV X Z Q E ((cmpop op a b).bind fun r=>.ok (.bool r))):wpAny X.M X.A (compareOp (copOf op) x y) Q E Z.s:=by
 have go:=fun {r:Int→Int→R AV}=>RG.int2 (F:=X.F) (rp:=Rep) (l:=X.l) (Z:=Z) (Q:=Q) (E:=E) (r:=r) (fun x y=>wpAny X.M X.A (compareOp (copOf op) x y) Q E Z.s) hx hy
 have un:shallow a=true→X.A.units + min (toPy a).depth (toPy b).depth < cLine:=fun hd=>by
  rw [depth_toPy]
  have:=Nat.min_le_left a.depth (toPy b).depth
  have:=shallow_iff hd
  have:=X.room.units
  lia
 have lb:∀ {f:Int→Int→Bool},RV X Z Q E ((asI a fun i=>asI b fun j=>.ok (f i j)).bind fun r=>.ok (.bool r))→RV X Z Q E (asI a fun i=>asI b fun j=>.ok (.bool (f i j))):=fun h=>by
  cases a with
  | int i=>cases b <;> exact h
  | _=>exact h
 cases op with
 | eq =>
  have h:RV X Z Q E ((lim (shallow a) (.ok (a.eqv b))).bind fun r=>.ok (.bool r)):=h
  cases hs:shallow a with
  | false=>rw [hs] at h; exact (show False from h).elim
  | true =>
   rw [hs] at h
   have rx:=(rep_reads hG _ _ hx).choose_spec
   have ry:=(rep_reads hG _ _ hy).choose_spec
   exact compareEq_reads rx.1 ry.1 rx.2 ry.2 (un hs) (by rw [eqv_toPy]; exact GP.here h hG rfl)
 | ne =>
  have h:RV X Z Q E ((lim (shallow a) (.ok (!a.eqv b))).bind fun r=>.ok (.bool r)):=h
  cases hs:shallow a with
  | false=>rw [hs] at h; exact (show False from h).elim
  | true =>
   rw [hs] at h
   have rx:=(rep_reads hG _ _ hx).choose_spec
   have ry:=(rep_reads hG _ _ hy).choose_spec
   exact compareNe_reads rx.1 ry.1 rx.2 ry.2 (un hs) (by rw [eqv_toPy]; exact GP.here h hG rfl)
 | lt=>exact go (lb h) fun i j t u h=>P.lt_int (GP.here h hG rfl)
 | le=>exact go (lb h) fun i j t u h=>P.le_int (GP.here h hG rfl)
 | gt=>exact go (lb h) fun i j t u h=>P.gt_int (GP.here h hG rfl)
 | ge=>exact go (lb h) fun i j t u h=>P.ge_int (GP.here h hG rfl)
 | isin=>exact in_ok hG hx hy false (by
   have e:(fun c=>R.ok (AV.bool (c ^^ false)))=fun c=>R.ok (AV.bool c):=funext fun c=>by rw [Bool.xor_false]
   rw [e]
   exact h)
 | notin=>exact in_ok hG hx hy true (by
   have e:((cmpop .notin a b).bind fun r=>R.ok (AV.bool r))=(inop a b).bind fun c=>R.ok (AV.bool (c ^^ true)):=by
    show ((inop a b).bind fun c=>.ok (!c)).bind _=_
    cases inop a b with
    | ok c=>exact congrArg (fun c=>R.ok (AV.bool c)) (Bool.xor_true c).symm
    | _=>rfl
   rw [← e]; exact h)
 | is =>
  have h:RV X Z Q E ((lim b.isNone (.ok a.isNone)).bind fun r=>.ok (.bool r)):=h
  cases hs:b.isNone with
  | false=>rw [hs] at h; exact (show False from h).elim
  | true=>rw [hs] at h; exact is_ok (c:=true) hG hx hy hs (GP.here h hG rfl)
end
inductive PlaceR (k:Int) (n j:Nat):Prop
 | pos:0≤k→k=j→j < n→PlaceR k n j
 | neg:k < 0→k + n=j→j < n→PlaceR k n j
theorem place_spec {k:Int} {n j:Nat} (h:seqIndex? k n=some j):PlaceR k n j:=by
 unfold seqIndex? at h
 by_cases hk:k < 0
 ·rw [if_pos hk] at h
  by_cases hc:0≤k + n∧k + n < n
  ·rw [if_pos (by simpa using hc)] at h
   cases h
   exact .neg hk (Int.toNat_of_nonneg hc.1).symm (Int.ofNat_lt.mp (by rw [Int.toNat_of_nonneg hc.1]; exact hc.2))
  ·rw [if_neg (by simpa using hc)] at h; cases h
 ·rw [if_neg hk] at h
  by_cases hc:0≤k∧k < n
  ·rw [if_pos (by simpa using hc)] at h
   cases h
   exact .pos hc.1 (Int.toNat_of_nonneg hc.1).symm (Int.ofNat_lt.mp (by rw [Int.toNat_of_nonneg hc.1]; exact hc.2))
  ·rw [if_neg (by simpa using hc)] at h; cases h
theorem PlaceR.range {k:Int} {n j:Nat} (h:PlaceR k n j) (hn:n≤16777216):-(2 ^ 63)≤k∧k < 2 ^ 63:=by
 cases h <;> lia
theorem PlaceR.big {k:Int} {n j:Nat} (h:PlaceR k n j) (hn:n≤16777216):(decide (k < -(2 ^ 63)) || decide (k ≥ 2 ^ 63))=false:=by
 have:=h.range hn
 rw [decide_eq_false (by lia),decide_eq_false (by lia)]; rfl
theorem pick_some {α:Type} {l:List α} {k:Int} {c:α} (h:pick l k=some c):∃ j,seqIndex? k l.length=some j∧l[j]?=some c:=Option.bind_eq_some_iff.mp h
theorem rep_sign {G:GH} {c:Nat} {t:Tok} (h:c < 0x110000):Rep G (.str ⟨#[c]⟩ t) (.str [c]) :=
 .mk rfl (by rw [sz16]; exact (by decide:1≤16777216)) (by rw [strOk_iff]; intro d hd; rw [List.mem_singleton.mp hd]; exact h)
theorem okS_get {l:List Nat} {j c:Nat} (h:okS l) (e:l[j]?=some c):c < 0x110000:=h c (List.mem_of_getElem? e)
theorem RG.some {α β γ:Type} {F:Addr→Prop} {rp:GH→β→α→Prop} {l:List Env} {Z:ZS} {Q:β→Shared→Prop} {E:Value→Shared→Prop} {f:γ→R α}:∀ {o:Option γ},RG F l rp Z Q E (_root_.Mine.oO o f)→∃ x,o=Option.some x∧RG F l rp Z Q E (f x)
 | .some x,h=>⟨x,rfl,h⟩
inductive SubW (X:WX C) (Z:ZS) (x i:Value) (Q:Value→Shared→Prop) (E:Value→Shared→Prop):Prop
 | mk {T id : String} : Z.s.TypeIs x T → typeLookup (.type T) "__getitem__" = pure (some (.builtin id)) → wpAny X.M X.A (getItem x i) Q E Z.s → SubW X Z x i Q E
theorem idx_ok (hG:Z.G.In Z.s.heap) (hx:Rep Z.G x a) (hy:Rep Z.G y b) (h:RV X Z Q E (idxop a b)):SubW X Z x y Q E:=by
 cases RG.int hy h with | @mk k _ h =>
 cases a with
 | str l =>
  cases (show StrR l x from hx) with | mk e h1 h2 =>
  subst e
  obtain ⟨c,hp,h⟩:=RG.some h
  obtain ⟨j,hj,hc⟩:=pick_some hp
  refine .mk (typeIs_str Z.s _ _) PySem.F.slot_str_getitem.lookup (P.getItem_str ((place_spec hj).big (sz16 ▸ h1)) (c:=c) ?_ (VP.tk h hG (rep_sign (okS_get ((strOk_iff _).mp h2) hc))))
  rw [len_toList] at hj
  rw [hj]
  exact (Array.getElem?_toList ..).symm.trans hc
 | tup l =>
  cases rep_tup hG hx with | mk h1 h2 h3 =>
  obtain ⟨c,hp,h⟩:=RG.some h
  obtain ⟨j,hj,hc⟩:=pick_some hp
  have hb:=(place_spec hj).range (Nat.le_trans h3 (by decide))
  rw [← h2.length] at hj
  obtain ⟨r,hr1,hr2⟩:=h2.get hc
  have h1:Z.s.heap.IsTuple _ _:=h1
  exact .mk h1.typeIs slot_tuple_getitem.lookup (getItem_tuple h1 hb.1 hb.2 hj ((List.getElem?_toArray ..).trans hr1) (GP.here h hG hr2))
 | lst l =>
  cases rep_lst hG hx with | mk h1 h2 h3 =>
  obtain ⟨c,hp,h⟩:=RG.some h
  obtain ⟨j,hj,hc⟩:=pick_some hp
  have hs:=place_spec hj
  have hb:=hs.range (Nat.le_trans h3 (by decide))
  obtain ⟨r,hr1,hr2⟩:=h2.get hc
  have h1:Z.s.heap.IsList _ _:=h1
  refine .mk h1.typeIs slot_list_getitem.lookup ?_
  have hl:=h2.length
  cases hs with
  | pos e1 e2 e3=>exact wpAny_getItem_list h1 e1 hb.2 (by rw [e2]; exact (List.getElem?_toArray ..).trans hr1) (GP.here h hG hr2)
  | neg e1 e2 e3=>exact wpAny_getItem_list_neg h1 e1 (by rw [List.size_toArray,hl]; lia) hb.1 (by rw [List.size_toArray,hl,e2]; exact (List.getElem?_toArray ..).trans hr1) (GP.here h hG hr2)
 | _=>exact (show False from h).elim
theorem sub_ops (slice:Expr) (o i:Value):∃ ops,subscripted slice false o i=operate ops (getItem o i):=by
 cases slice with
 | Slice a b c p=>cases c <;> exact ⟨_,rfl⟩
 | _=>exact ⟨_,rfl⟩
theorem SubW.tail {value slice:Expr} {o i:Value} (h:SubW X Z o i Q E):wpAny X.M X.A (subscriptTail value slice o i) Q E Z.s:=by
 cases h with | mk hT hl h=>exact tail_any hT hl h (sub_ops slice o i).choose_spec
end
end Mine
end
section
set_option tactic.hygienic false
open PySem PySem.Calls PyProof.Rows PySem.SeqAt PySem.W
namespace Mine
section
variable {C:CK} {X:WX C} {Z:ZS} {E:Value→Shared→Prop} {x y:Value} {a b:AV} {Q:Value→Shared→Prop}
noncomputable def repO (G:GH) (v:Value) (o:Option AV):Prop:=match o with
 | none=>v=.none
 | some a=>rep G a v
inductive BoundV (d:Nat) (P:Nat→Prop):Value→Prop
 | mk {p:Option (Int × Tok)} {n:Nat}:IsPart (partValue p) (p.map (·.1))→(∀ len:Nat,d≤len→(p.map (·.1)).elim d (clipAt len)=min n len)→P n→BoundV d P (partValue p)
theorem bound_ok {d:Nat} {lo:Option AV} {vl:Value} {f:Nat→R AV} {G:GH} (hl:repO G vl lo) (h:RV X Z Q E (bound d lo f)):BoundV d (fun n=>RV X Z Q E (f n)) vl:=by
 cases lo with
 | none =>
  cases (show vl=.none from hl)
  exact .mk (p:=none) (n:=d) .none (fun len hd=>(Nat.min_eq_left hd).symm) h
 | some v =>
  cases RG.int hl h with | @mk k t h =>
  have h:=h.lim
  have hk:=of_decide_eq_true h.1
  refine .mk (p:=some (k,t)) (n:=k.toNat) (.int k t) (fun len hd=>?_) h.2
  show clipAt len k=min k.toNat len
  rw [← Int.toNat_of_nonneg hk,clipAt_nat,Int.toNat_natCast]
theorem strIdx (l u:Option Int) (n:Nat):Builtin.Str.strSliceIndices l u 1 n=(List.range (u.elim n (clipAt n) - l.elim 0 (clipAt n))).map (l.elim 0 (clipAt n) + ·):=by
 have e:Builtin.Str.strSliceIndices l u 1 n=sliceRange (sliceBounds l u none n).1 (sliceBounds l u none n).2.1 (sliceBounds l u none n).2.2:=rfl
 rw [e,sliceBounds_plain]
 exact sliceRange_one _ _
theorem take_drop_eq {α:Type} (l:List α) (x y:Nat):(l.drop (min x l.length)).take (min y l.length - min x l.length)=(l.take y).drop x:=by
 rw [List.drop_take]
 by_cases hx:x≤l.length
 ·rw [Nat.min_eq_left hx]
  by_cases hy:y≤l.length
  ·rw [Nat.min_eq_left hy]
  ·have hy:=Nat.le_of_not_le hy
   rw [Nat.min_eq_right hy,List.take_of_length_le (Nat.le_of_eq List.length_drop),List.take_of_length_le (by rw [List.length_drop]; exact Nat.sub_le_sub_right hy x)]
 ·have hx:=Nat.le_of_not_le hx
  rw [Nat.min_eq_right hx,List.drop_of_length_le (Nat.le_refl l.length),List.drop_of_length_le hx,List.take_nil,List.take_nil]
theorem picked (p:Str) {pl pu:Option (Int × Tok)} {i j:Nat} (cl:(pl.map (·.1)).elim 0 (clipAt p.length)=min i p.length) (cu:(pu.map (·.1)).elim p.length (clipAt p.length)=min j p.length) :
  (slicePicked p pl pu none).filterMap (p.cps[·]?)=(p.cps.toList.take j).drop i∧((slicePicked p pl pu none).length=p.length→(p.cps.toList.take j).drop i=p.cps.toList):=by
 have hs:slicePicked p pl pu none=(List.range (min j p.length - min i p.length)).map (min i p.length + ·):=by
  show Builtin.Str.strSliceIndices (pl.map (·.1)) (pu.map (·.1)) 1 p.length=_
  rw [strIdx,cl,cu]
 have e:(slicePicked p pl pu none).filterMap (p.cps[·]?)=(p.cps.toList.take j).drop i:=by
  rw [hs,pick_run]
  exact take_drop_eq p.cps.toList i j
 refine ⟨e,fun h=>?_⟩
 rw [hs,List.length_map,List.length_range] at h
 have hm:=take_drop_eq p.cps.toList i j
 rw [len_toList] at hm
 rw [← hm]
 clear hm e hs cl cu
 have h1:min i p.length=0∨p.length=0:=by lia
 rcases h1 with h1 | h1
 ·rw [h1] at h ⊢
  rw [List.drop_zero,h,← len_toList,List.take_length]
 ·have:p.cps.toList=[]:=List.eq_nil_of_length_eq_zero h1
  rw [this,List.drop_nil,List.take_nil]
theorem slice_ok {vl vu:Value} {lo hi:Option AV} {sl:Addr} (hG:Z.G.In Z.s.heap) (hx:Rep Z.G x a) (hl:repO Z.G vl lo) (hu:repO Z.G vu hi)
  (hs:Z.s.heap.IsSliceOf sl vl vu .none) (h:RV X Z Q E (slop a lo hi)):SubW X Z x (.ref sl) Q E:=by
 cases a with
 | str l =>
  cases (show StrR l x from hx) with | @mk p t e h1 h2 =>
  subst e
  have h:RV X Z Q E (bound 0 lo fun x=>bound p.length hi fun y=>.ok (.str ((p.cps.toList.take y).drop x))):=h
  cases bound_ok (X:=X) hl h with | @mk pl i ql cl h =>
  cases bound_ok (X:=X) hu h with | @mk pu j qu cu h =>
  have cl:=cl p.length (Nat.zero_le _)
  have cu:=cu p.length (Nat.le_refl _)
  have pk:=picked p (pl:=pl) (pu:=pu) (i:=i) (j:=j) cl cu
  have hok:okS ((p.cps.toList.take j).drop i):=fun c hc=>(strOk_iff p).mp h2 c (List.mem_of_mem_take (List.mem_of_mem_drop hc))
  have hlen:((p.cps.toList.take j).drop i).length≤sizeLine:=Nat.le_trans ((List.drop_sublist _ _).trans (List.take_sublist _ _)).length_le h1
  refine .mk (typeIs_str Z.s p t) PySem.F.slot_str_getitem.lookup (wpAny_getItem_str_slice (l:=pl) (u:=pu) (st:=none) hs rfl ?_)
  unfold sliceMade
  by_cases hc:(slicePicked p pl pu none).length=p.length
  ·rw [if_pos (by simpa using hc)]
   exact (show Q _ Z.s from GP.here h hG (.mk (pk.2 hc).symm h1 h2))
  ·rw [if_neg (by simpa using hc)]
   have e:(⟨((slicePicked p pl pu none).filterMap (p.cps[·]?)).toArray⟩:Str).cps.toList=(p.cps.toList.take j).drop i:=pk.1
   exact ⟨by show (List.filterMap _ _).length≤_; rw [pk.1]; exact hlen,VP.tk h hG (.mk e (by show (List.filterMap _ _).length≤_; rw [pk.1]; exact hlen) ((strOk_iff _).mpr (by rw [e]; exact hok)))⟩
 | lst l =>
  cases rep_lst hG hx with | @mk k ws h1 h2 h3 =>
  have h:RV X Z Q E (bound 0 lo fun x=>bound l.length hi fun y=>.ok (.lst ((l.take y).drop x))):=h
  cases bound_ok (X:=X) hl h with | @mk pl i ql cl h =>
  cases bound_ok (X:=X) hu h with | @mk pu j qu cu h =>
  have h1:Z.s.heap.IsList _ _:=h1
  have cl:=cl l.length (Nat.zero_le _)
  have cu:=cu l.length (Nat.le_refl _)
  have e:(slicePick ws.toArray (pl.map (·.1)) (pu.map (·.1)) none)=((ws.take j).drop i).toArray:=by
   rw [slicePick_plain,List.size_toArray,h2.length,cl,
    cu,← h2.length]
   exact congrArg List.toArray (take_drop_eq ws i j)
  refine .mk h1.typeIs slot_list_getitem.lookup (wpAny_getItem_list_slice h1 hs ql qu .none (by simp) ?_ (by rw [List.size_toArray]; exact h2.le h3))
  rw [e]
  exact VP.lst h hG ((h2.take j).drop i) (Nat.le_trans ((List.drop_sublist _ _).trans (List.take_sublist _ _)).length_le h3)
 | _=>exact (show False from h).elim
end
end Mine
end
section
set_option tactic.hygienic false
open PySem PySem.Calls PyProof.Rows PySem.SeqAt PySem.W
namespace Mine
theorem rep_str {G:GH} {s:Str} {t:Tok} {l:List Nat} (e:s.cps.toList=l) (h1:s.length≤sizeLine) (h2:PyData.strOk s=true):Rep G (.str s t) (.str l):=.mk e h1 h2
theorem decText_eq (i:Int):(Str.ofString (toString i)).cps.toList=decText i:=by
 rw [Str.ofString_eq_toList]; rfl
theorem log2_small {i:Int} (h:okInt i=true):i.natAbs.log2 < 1920:=by
 have h:i.natAbs < 10 ^ 500:=by unfold okInt at h; exact decide_eq_true_iff.mp h
 by_cases h0:i.natAbs=0
 ·rw [h0]; decide
 ·rw [Nat.log2_lt h0]
  exact Nat.lt_of_lt_of_le h (by decide +kernel)
theorem char_ok (d:Char):d.toNat < 0x110000:=by
 have:=d.valid
 rw [show d.toNat=d.val.toNat from rfl]
 rcases this with h | h
 ·exact Nat.lt_trans h (by decide)
 ·exact h.2
theorem decText_ok (i:Int):okS (decText i):=fun c hc=>by
 obtain ⟨d,_,rfl⟩:=List.mem_map.mp hc
 exact char_ok d
section
variable {C:CK} {X:WX C} {Z:ZS} {E:Value→Shared→Prop} {x y:Value} {a b:AV} {Q:Value→Shared→Prop} {α β:Type} {F:Addr→Prop} {rp:GH→β→α→Prop} {l:List Env} {Q':β→Shared→Prop} {G:GH}
theorem RG.sum {m:List AV}:∀ {ws:List Value} {f:Int→R α},RepAll G ws m→RG F l rp Z Q' E ((sumInts m).bind f)→∃ xs:Array (Int × Tok),ws.toArray=intItems xs∧RG F l rp Z Q' E (f (xs.toList.map (·.1)).sum):=by
 induction m with
 | nil =>
  intro ws f hr h
  cases (show ws=[] from hr)
  exact ⟨#[],by simp [intItems],h⟩
 | cons a m ih =>
  intro ws f hr h
  cases (show ConsR _ _ ws from hr) with | @mk v r hv hr1 =>
  cases a with
  | int i =>
   cases (show IntR i v from hv) with | @mk t =>
   have h:RG F l rp Z Q' E (((sumInts m).bind fun j=>.ok (i + j)).bind f):=h
   obtain ⟨xs,e,h⟩:=ih (f:=fun j=>f (i + j)) hr1 (by cases e:sumInts m <;> rw [e] at h <;> exact h)
   refine ⟨#[(i,t)]++xs,?_,by simpa using h⟩
   apply Array.ext'
   have e3:=congrArg Array.toList e
   simp only [intItems,Array.toList_map] at e3 ⊢
   simp [← e3]
  | _=>exact (show False from h).elim
theorem RG.strs {m:List AV}:∀ {ws:List Value} {f:List (List Nat)→R α},RepAll G ws m→RG F l rp Z Q' E ((strsOf m).bind f)→∃ ys:List Str,StrsAre ws ys∧(∀ y ∈ ys,PyData.strOk y=true)∧RG F l rp Z Q' E (f (ys.map fun y=>y.cps.toList)):=by
 induction m with
 | nil =>
  intro ws f hr h
  cases (show ws=[] from hr)
  exact ⟨[],.nil,fun _ h=>(nomatch h),h⟩
 | cons a m ih =>
  intro ws f hr h
  cases (show ConsR _ _ ws from hr) with | @mk v r hv hr1 =>
  cases a with
  | str p =>
   cases (show StrR p v from hv) with | @mk q t e h1 h2 =>
   subst e
   have h:RG F l rp Z Q' E (((strsOf m).bind fun j=>.ok (q.cps.toList::j)).bind f):=h
   obtain ⟨ys,e,e2,h⟩:=ih (f:=fun j=>f (q.cps.toList::j)) hr1 (by cases e:strsOf m <;> rw [e] at h <;> exact h)
   exact ⟨q::ys,.cons q t e,List.forall_mem_cons.mpr ⟨h2,e2⟩,h⟩
  | _=>exact (show False from h).elim
theorem len_ok {vs : List Value} {m : List AV} (hG : Z.G.In Z.s.heap) (hx : RepAll Z.G vs m) (h : RV X Z Q E (as1 m lenop)) : wpAny X.M X.A (call (.builtin "len") vs) Q E Z.s := by
 cases RG.one hx h with | @mk v a hx1 h =>
 cases a with
 | str l =>
  cases (show StrR l v from hx1) with | mk e h1 h2 =>
  subst e
  exact len_str (by rw [sz16] at h1; clear h; lia) (VP.tk h hG .mk)
 | lst l =>
  cases rep_lst hG hx1 with | @mk _ ws h1 h2 h3 =>
  have e:ws.toArray.size=l.length:=by rw [List.size_toArray]; exact h2.length
  exact call_len_list h1 (by rw [e]; exact Nat.lt_of_le_of_lt h3 (by decide:lLine < 2 ^ 63) |> Int.ofNat_lt.mpr) (VP.tk h hG (by rw [e]; exact .mk))
 | tup l =>
  cases rep_tup hG hx1 with | @mk _ ws h1 h2 h3 =>
  have e:ws.toArray.size=l.length:=by rw [List.size_toArray]; exact h2.length
  exact len_tuple h1 (by rw [e]; exact Nat.lt_of_le_of_lt h3 (by decide:lLine < 2 ^ 63) |> Int.ofNat_lt.mpr) (VP.tk h hG (by rw [e]; exact .mk))
 | _=>exact (show False from h).elim
theorem biop_ok (bi:BI) {vs:List Value} {m:List AV} (hG:Z.G.In Z.s.heap) (hx:RepAll Z.G vs m) (h:RV X Z Q E (biop bi m)):wpAny X.M X.A (call (bisOf bi) vs) Q E Z.s:=by
 cases bi with
 | len=>exact len_ok hG hx h
 | ord =>
  cases RG.one hx h with | @mk v a hx1 h =>
  cases a with
  | str l =>
   rcases l with _ | ⟨c,_ | ⟨d,l⟩⟩
   ·exact (show False from h).elim
   ·cases (show StrR [c] v from hx1) with | mk e h1 h2 =>
    rw [str_one e]
    exact P.ord_of_char (VP.tk h hG .mk)
   ·exact (show False from h).elim
  | _=>exact (show False from h).elim
 | chr =>
  cases RG.one hx h with | mk hx1 h=>cases RG.int hx1 h with | mk h =>
  have h:=h.lim
  have hc:=Bool.and_eq_true_iff.mp h.1
  have h1:=of_decide_eq_true hc.1
  have h2:=of_decide_eq_true hc.2
  exact chr_of_range h1 h2 (VP.tk h.2 hG (rep_sign (by clear h; lia)))
 | str =>
  cases RG.one hx h with | mk hx1 h=>cases RG.int hx1 h with | @mk i _ h =>
  have h:okInt i=true∧RV X Z Q E (.ok (.str (decText i))):=RG.lim h
  have hl:=log2_small h.1
  have hs:PyData.strOk (Str.ofString (toString i))=true:=(strOk_iff _).mpr (by rw [decText_eq]; exact decText_ok i)
  clear hx
  exact P.str_of_int hl (VP.tk h.2 hG (rep_str (decText_eq i) (int_text_fits hl) hs))
 | abs =>
  cases RG.one hx h with | mk hx1 h=>cases RG.int hx1 h with | @mk i _ h =>
  refine call_abs_int fun u tk=>VP.tk h hG ?_
  rw [show (if i < 0 then -i else i)=(i.natAbs:Int) by clear h; split <;> lia]
  exact .mk
 | max =>
  cases RG.two hx h with | mk hx1 hy1 h =>
  refine RG.int2 (fun x y => wpAny X.M X.A (call (.builtin "max") [x, y]) Q E Z.s) hx1 hy1 h fun i j t u h => max_two_ints X.handled fun h' tk hk => VP.keep h hG ?_ hk
  split
  ·rw [Int.max_eq_right (by clear h hk; lia)]; exact .mk
  ·rw [Int.max_eq_left (by clear h hk; lia)]; exact .mk
 | min =>
  cases RG.two hx h with | mk hx1 hy1 h =>
  refine RG.int2 (fun x y => wpAny X.M X.A (call (.builtin "min") [x, y]) Q E Z.s) hx1 hy1 h fun i j t u h => min_two_ints X.handled fun h' tk hk => VP.keep h hG ?_ hk
  split
  ·rw [Int.min_eq_right (by clear h hk; lia)]; exact .mk
  ·rw [Int.min_eq_left (by clear h hk; lia)]; exact .mk
 | sum =>
  cases RG.one hx h with | mk hx1 h=>cases RG.lst hG hx1 h with | mk h1 h2 h3 h =>
  obtain ⟨xs,e1,h⟩:=RG.sum h2 h
  rw [e1] at h1
  refine sum_intListG X.handled h1 fun h' tk t' hk=>VP.keep h hG ?_ hk
  rw [preSum_eq,List.take_of_length_le (by rw [List.length_map,Array.length_toList]; exact Nat.le_refl _)]
  exact .mk
noncomputable def smOf (m:SM):Str × String:=match m with
 | .join => ("join", "str.join") | .upper => ("upper", "str.upper") | .index => ("index", "str.index")
theorem glue_foldl:∀ (l:List Str) (acc:Array Nat),(l.foldl (fun (acc:Array Nat) p=>acc++(⟨#[]⟩:Str).cps++p.cps) acc).toList=acc.toList++(l.map fun y=>y.cps.toList).flatten
 | [],acc=>(List.append_nil _).symm
 | y::r,acc=>by rw [List.foldl_cons,glue_foldl r]; simp
theorem join_empty (ys:List Str):(Txt.join ⟨#[]⟩ ys).cps.toList=(ys.map fun y=>y.cps.toList).flatten:=by
 unfold Txt.join Builtin.Str.glued
 show (List.foldl _ _ _:Array Nat).toList=_
 rw [glue_foldl]
 cases ys with
 | nil=>rfl
 | cons y r=>rfl
theorem join_len (ys:List Str):(ys.map fun y=>y.cps.toList).flatten.length=(ys.map (·.length)).sum:=by
 rw [List.length_flatten,List.map_map]; rfl
theorem upper_ok {p : Str} {t : Tok} (hG : Z.G.In Z.s.heap) (h1 : p.length ≤ sizeLine) (hA : ∀ c ∈ p.cps.toList, c < 128) (h : VP X.F Z (.str (p.cps.toList.map up1)) Q) : wpAny X.M X.A (call (.builtin "str.upper") [.str p t]) Q E Z.s := by
 have e:=upper_ascii hA
 have el:(Txt.upper p).cps.toList=p.cps.toList.map up1:=by rw [e]; simp
 have hl:(Txt.upper p).length=p.length:=by rw [← len_toList,el,List.length_map]; rfl
 refine call_gives PySem.F.slot_str_upper (typeIs_str Z.s p t) PySem.F.entry_str_upper (PySem.F.args_str_upper_1 _) (gives_str_upper p t (show Builtin.Str.tooLong (Txt.upper p).length=false by rw [hl]; exact short24 (by rw [← sz16]; exact h1)))
  (show (Txt.upper p).length≤sizeLine∧Q (.str (Txt.upper p) Z.s.toks) { Z.s with toks:=Z.s.toks + 1 } from ⟨by rw [hl]; exact h1,VP.tk h hG (.mk el (by rw [hl]; exact h1) ((strOk_iff _).mpr ?_))⟩)
 rw [el]
 intro c hm
 obtain ⟨d,hd,rfl⟩:=List.mem_map.mp hm
 have:=hA d hd
 unfold up1; clear h; split <;> lia
theorem index_head {p:Str} {c i:Nat} (hi:p.cps.toList.findIdx? (fun d=>d == c)=some i):∃ rest,Builtin.Str.occurrences p ⟨#[c]⟩ 0 p.length 1=i::rest:=by
 rw [List.findIdx?_eq_some_iff_getElem] at hi
 obtain ⟨h1,h2,h3⟩:=hi
 have at_iff:∀ j,StrLaws.At p ⟨#[c]⟩ p.length j ↔ p.cps.toList[j]?=some c:=fun j=>StrLaws.subAt_one p c j
 have hat:StrLaws.At p ⟨#[c]⟩ p.length i:=(at_iff i).mpr (by rw [List.getElem?_eq_getElem h1,eq_of_beq h2])
 rcases StrLaws.occ_head p ⟨#[c]⟩ 1 (Nat.le_refl 1) with ⟨_,hn⟩ | ⟨j,rest,ho,hj,hn⟩
 ·exact absurd hat (hn i)
 ·refine ⟨rest,?_⟩
  rcases Nat.lt_trichotomy j i with q | q | q
  ·have h4:=h3 j q
   have hj':=(at_iff j).mp hj
   rw [List.getElem?_eq_getElem (Nat.lt_trans q h1)] at hj'
   rw [Option.some.inj hj',beq_self_eq_true] at h4
   exact absurd rfl h4
  ·rw [ho,q]
  ·exact absurd hat (hn i q)
theorem smop_ok (m:SM) {p:Str} {t:Tok} {vs:List Value} {args:List AV} (hG:Z.G.In Z.s.heap) (h1:p.length≤sizeLine) (h2:PyData.strOk p=true) (hy:RepAll Z.G vs args) (h:RV X Z Q E (smop m p.cps.toList args)) :
  wpAny X.M X.A (call (.builtin (smOf m).2) (.str p t::vs)) Q E Z.s:=by
 cases m with
 | join =>
  cases RG.one hy h with | mk hy1 h=>cases RG.lst hG hy1 h with | @mk _ _ ll q1 q2 q3 h =>
  cases e:p.cps.toList with
  | cons c r=>rw [e] at h; exact (show False from h).elim
  | nil =>
   rw [e] at h
   have h:RV X Z Q E ((strsOf ll).bind fun ss=>lim (decide (ss.flatten.length≤szLine)) (.ok (.str ss.flatten))):=h
   obtain ⟨ys,e1,e2,h9⟩:=RG.strs q2 h
   have k9:=RG.lim h9
   have hsz:=of_decide_eq_true k9.1
   obtain rfl:p=⟨#[]⟩:=by
    obtain ⟨z⟩:=p
    exact congrArg Str.mk (Array.ext' e)
   refine join_list q1 e1 ?_ (fun t' k=>VP.tk k9.2 hG (.mk (join_empty ys) ?_ ?_))
   ·show _ + _ * 0≤_
    rw [Nat.mul_zero,Nat.add_zero,← join_len]; exact hsz
   ·rw [← len_toList,join_empty]; exact hsz
   ·rw [strOk_iff,join_empty]
    intro c hc
    obtain ⟨q,hq,hc⟩:=List.mem_flatten.mp hc
    obtain ⟨y,hy,rfl⟩:=List.mem_map.mp hq
    exact (strOk_iff y).mp (e2 y hy) c hc
 | upper =>
  cases args with
  | cons a r=>exact (show False from h).elim
  | nil =>
   cases (show vs=[] from hy)
   have h:=RG.lim h
   exact upper_ok hG h1 (fun c hm=>of_decide_eq_true (List.all_eq_true.mp h.1 c hm)) h.2
 | index =>
  cases RG.one hy h with | @mk v a hy1 h =>
  cases a with
  | str l =>
   rcases l with _ | ⟨c,_ | ⟨d,l⟩⟩
   ·exact (show False from h).elim
   ·cases (show StrR [c] v from hy1) with | mk e q1 q2 =>
    rw [str_one e]
    obtain ⟨i,hi,h⟩:=RG.some h
    exact call_gives PySem.F.slot_str_index (typeIs_str Z.s p t) PySem.F.entry_str_index (PySem.F.args_str_index_2 _ _) (gives_str_index p ⟨#[c]⟩ t _ i _ (index_head hi).choose_spec) (VP.tk h hG .mk)
   ·exact (show False from h).elim
  | _=>exact (show False from h).elim
end
end Mine
end
section
set_option tactic.hygienic false
open PySem PySem.Calls PyProof.Rows PySem.SeqAt PySem.W
namespace Mine
theorem notDebug_eq {x : Str} (h : (x == ("__debug__" : Str)) = false) : (x == ("__debug__" : Str)) = false := h
structure EB (C:CK) (m:ME) (e:Expr):Prop where
 v:EOk C m e
 t:TOk C m e
 ns:∀ (env:Env) (rest:List Expr),starEach (e::rest) env=(false,eval e env)::starEach rest env
inductive EBs (C:CK):List ME→List Expr→Prop
 | nil:EBs C [] []
 | cons {m:ME} {e:Expr} {ms:List ME} {es:List Expr}:EB C m e→EBs C ms es→EBs C (m::ms) (e::es)
section
variable {C:CK} {m a b c:ME} {e e1 e2 e3:Expr} {ms:List ME} {es:List Expr}
section
variable {α β γ ρ:Type} {F:Addr→Prop} {l:List Env} {rp:GH→β→α→Prop} {rq:GH→ρ→γ→Prop} {Z:ZS} {Q:β→Shared→Prop} {E:Value→Shared→Prop} {Q':ρ→Shared→Prop}
theorem RG.step2 {δ:Type} {f:γ→R δ} {g:δ→R α}:∀ {r:R γ},RG F l rp Z Q E ((r.bind f).bind g)→(∀ (a:γ) (Z':ZS) (v:ρ),Stp F Z Z'→rq Z'.G v a→RG F l rp Z' Q E ((f a).bind g)→Q' v Z'.s)→RG F l rq Z Q' E r
 | .ok a,h,k=>fun Z' v e hv=>k a Z' v e hv (RG.on e h)
 | .exn _ _,h,_=>h
theorem RG.asc {δ:Type} {f:γ→R δ} {g:δ→R α}:∀ {r:R γ},RG F l rp Z Q E ((r.bind f).bind g)→RG F l rp Z Q E (r.bind fun a=>(f a).bind g)
 | .ok _,h=>h
 | .exn _ _,h=>h
theorem RG.tr {f:Bool→R α} {Qb:Bool→Shared→Prop} {r:R AV} (h:RG F l rp Z Q E (r.bind fun v=>asB v f)) (k:∀ (c:Bool) (Z':ZS),Stp F Z Z'→RG F l rp Z' Q E (f c)→Qb c Z'.s):RG F l isB Z Qb E (r.bind fun v=>asB v .ok):=by
 cases r with
 | ok a=>cases a with
  | bool b=>exact fun Z' v e hv=>by cases (show v=b from hv); exact k _ Z' e (RG.on e h)
  | _=>exact h
 | _=>exact h
theorem RG.tr2 {f:Bool→R AV} {g:AV→R α} {Qb:Bool→Shared→Prop} {r:R AV} (h:RG F l rp Z Q E ((r.bind fun v=>asB v f).bind g)) (k:∀ (c:Bool) (Z':ZS),Stp F Z Z'→RG F l rp Z' Q E ((f c).bind g)→Qb c Z'.s):RG F l isB Z Qb E (r.bind fun v=>asB v .ok):=by
 cases r with
 | ok a=>cases a with
  | bool b=>exact fun Z' v e hv=>by cases (show v=b from hv); exact k _ Z' e (RG.on e h)
  | _=>exact h
 | _=>exact h
end
variable {X:WX C} {σ:Env'} {Z:ZS} {Q:Value→Shared→Prop} {Qb:Bool→Shared→Prop} {E:Value→Shared→Prop} {x y:Value} {u v:AV}
theorem truth_ok {α β:Type} {rp:GH→β→α→Prop} {Q':β→Shared→Prop} {f:Bool→R α} (hx:Rep Z.G x u) (h:RG X.F X.l rp Z Q' E (asB u f)) (k:∀ c,RG X.F X.l rp Z Q' E (f c)→Qb c Z.s):wpAny X.M X.A (PySem.truthy x) Qb E Z.s:=by
 cases RG.bool hx h with | mk h=>exact wpAny_truthy_bool (k _ h)
theorem t_plain (h:EOk C m e) (he:∀ (env:Env) (whole:Sem Value),isTrue e env whole=(do let v ← whole; standAt e.pos; holding [v] (PySem.truthy v))) (ns:∀ (env:Env) (rest:List Expr),starEach (e::rest) env=(false,eval e env)::starEach rest env):EB C m e :=
 ⟨h,fun X σ Z Q E S hh=>wpAny_isTrue_value (h X σ Z _ E S (RG.step hh fun x _ Z₁ v₁ x₁ r₁ h=>truth_ok r₁ h fun c h=>GP.here h x₁.inn rfl)) (he _ _),ns⟩
theorem cmp_end {α β:Type} {rp:GH→β→α→Prop} {Q':β→Shared→Prop} {f:Bool→R α} {op:COp} (hG:Z.G.In Z.s.heap) (hx:Rep Z.G x u) (hy:Rep Z.G y v) (h:RG X.F X.l rp Z Q' E ((cmpop op u v).bind f))
  (hk:∀ c Z',Stp X.F Z Z'→RG X.F X.l rp Z' Q' E (f c)→Q (.bool c) Z'.s):wpAny X.M X.A (compareOp (copOf op) x y) Q E Z.s:=by
 refine cmpop_ok hG hx hy op ?_
 cases hr:cmpop op u v with
 | ok c=>rw [hr] at h; exact fun Z' r e hv=>by cases (show r=.bool c from hv); exact hk c Z' e (RG.on e h)
 | _=>rw [hr] at h; exact h
theorem ok_c {v:AV} {k:Const} {u:Nat} {pos:Pos} (h:∀ X:WX C,∀ (Z:ZS) Q E,Z.G.In Z.s.heap→VP X.F Z v Q→wpAny X.M X.A (eval (.Constant k u pos) X.env) Q E Z.s):EB C (.c v) (.Constant k u pos) :=
 t_plain (fun X σ Z Q E S hh=>h X Z Q E S.inG hh) (fun _ _=>rfl) fun _ _=>rfl
theorem c_none {u:Nat} {pos:Pos}:EB C (.c .none) (.Constant .none u pos):=ok_c fun X Z Q E hG h=>wpAny_Constant_none (GP.here h hG rfl)
theorem c_bool {u:Nat} {pos:Pos} {b:Bool}:EB C (.c (.bool b)) (.Constant (.bool b) u pos):=ok_c fun X Z Q E hG h=>wpAny_Constant_bool (GP.here h hG rfl)
theorem c_int {u:Nat} {pos:Pos} {i:Int}:EB C (.c (.int i)) (.Constant (.int i) u pos):=ok_c fun X Z Q E hG h=>wpAny_Constant_int (VP.tk h hG .mk)
theorem c_str {u:Nat} {pos:Pos} {s:Str} (hs:(s.cps.toList.all (fun c=>decide (c < 0x110000)) && Nat.ble s.cps.toList.length 1000)=true):EB C (.c (.str s.cps.toList)) (.Constant (.str s) u pos) :=
 ok_c fun X Z Q E hG h=>wpAny_Constant_str (VP.tk h hG (.mk rfl (Nat.le_trans (Nat.le_of_ble_eq_true (Bool.and_eq_true_iff.mp hs).2) (by rw [sz16]; decide)) ((strOk_iff s).mpr fun c hc=>of_decide_eq_true (List.all_eq_true.mp (Bool.and_eq_true_iff.mp hs).1 c hc))))
theorem ok_v {i : Nat} {x : Str} {pos : Pos} (hx : C.N[i]? = some x) (hd : (x == ("__debug__" : Str)) = false) : EB C (.v i) (.Name x pos) :=
 t_plain (fun X σ Z Q E S h=>by
  have h:RV X Z Q E (asV σ[i]? .ok):=h
  cases hv:σ[i]? with
  | none=>rw [hv] at h; exact (show False from h).elim
  | some sv =>
   rw [hv] at h
   cases S.slots i sv x hv hx with
   | val h1 h2=>exact wpAny_Name (h1.load X.hE.kind (GP.here h S.inG h2)) hd
   | _=>exact (show False from h).elim) (fun _ _=>rfl) fun _ _=>rfl
theorem ok_bin {op:BOp} {pos:Pos} (ha:EB C a e1) (hb:EB C b e2):EB C (.bin op a b) (.BinOp e1 (opOf op) e2 pos) :=
 t_plain (fun X σ Z Q E S h=>wpAny_BinOp (ha.v X σ Z _ E S (RG.step h fun x _ Z₁ v₁ x₁ r₁ h=>hb.v X σ Z₁ _ E (S.on x₁) (RG.step h fun y _ Z₂ v₂ x₂ r₂ h=>binop_ok op x₂.inn (x₂.le r₁) r₂ h)))) (fun _ _=>rfl) fun _ _=>rfl
theorem ok_neg {pos:Pos} (ha:EB C a e1):EB C (.neg a) (.UnaryOp .USub e1 pos) :=
 t_plain (fun X σ Z Q E S h=>wpAny_UnaryOp (ha.v X σ Z _ E S (RG.step h fun x _ Z₁ v₁ x₁ r₁ h=>by
  cases RG.int r₁ h with | mk h=>exact P.neg_int (VP.tk h x₁.inn .mk)))) (fun _ _=>rfl) fun _ _=>rfl
theorem ok_not {pos:Pos} (ha:EB C a e1):EB C (.not a) (.UnaryOp .Not e1 pos) :=
 ⟨fun X σ Z Q E S h=>wpAny_UnaryOp (ha.v X σ Z _ E S (RG.step h fun x _ Z₁ v₁ x₁ r₁ h=>not_value (truth_ok r₁ h fun b h=>GP.here h x₁.inn rfl))),
  fun X σ Z Q E S h=>isTrue_not (ha.t X σ Z _ E S (RG.tr2 h fun b Z₁ x₁ h=>GP.here h x₁.inn rfl)),fun _ _=>rfl⟩
theorem ok_ite {pos:Pos} (hc:EB C c e1) (ha:EB C a e2) (hb:EB C b e3):EB C (.ite c a b) (.IfExp e1 e2 e3 pos) :=
 ⟨fun X σ Z Q E S h=>wpAny_IfExp (hc.t X σ Z _ E S (RG.tr h fun t Z₁ x₁ h=>match t,h with
   | true,h=>ha.v X σ Z₁ _ E (S.on x₁) h
   | false,h=>hb.v X σ Z₁ _ E (S.on x₁) h)),
  fun X σ Z Q E S h=>isTrue_IfExp (hc.t X σ Z _ E S (RG.tr2 h fun t Z₁ x₁ h=>match t,h with
   | true,h=>ha.t X σ Z₁ _ E (S.on x₁) h
   | false,h=>hb.t X σ Z₁ _ E (S.on x₁) h)),fun _ _=>rfl⟩
theorem ok_cmp {op:COp} {pos:Pos} (ha:EB C a e1) (hb:EB C b e2) (hm:behindInMarks (copOf op) e2=false):EB C (.cmp a op b) (.Compare e1 [copOf op] [e2] pos) :=
 ⟨fun X σ Z Q E S h=>wpAny_Compare1 (ha.v X σ Z _ E S (RG.step h fun x _ Z₁ v₁ x₁ r₁ h=>hb.v X σ Z₁ _ E (S.on x₁) (RG.step h fun y _ Z₂ v₂ x₂ r₂ h =>
   cmpop_ok x₂.inn (x₂.le r₁) r₂ op h))) hm,
  fun X σ Z Q E S h=>wpAny_isTrue_Compare1 (ha.v X σ Z _ E S (RG.step2 h fun x Z₁ v₁ x₁ r₁ h=>hb.v X σ Z₁ _ E (S.on x₁) (RG.step2 h fun y Z₂ v₂ x₂ r₂ h =>
   cmp_end x₂.inn (x₂.le r₁) r₂ (RG.asc h) fun c Z₃ x₃ h=>wpAny_truthy_bool (GP.here h x₃.inn rfl)))) hm,fun _ _=>rfl⟩
theorem ok_cmp2 {op op2:COp} {pos:Pos} (ha:EB C a e1) (hb:EB C b e2) (hc:EB C c e3) (hm:behindInMarks (copOf op2) e3=false):EB C (.cmp2 a op b op2 c) (.Compare e1 [copOf op,copOf op2] [e2,e3] pos) :=
 have hl:lastMarks [copOf op,copOf op2] [e2,e3]=false:=hm
 ⟨fun X σ Z Q E S h=>Compare_chain (ha.v X σ Z _ E S (RG.step h fun x _ Z₁ v₁ x₁ r₁ h=>chain_link (hb.v X σ Z₁ _ E (S.on x₁) (RG.step h fun y _ Z₂ v₂ x₂ r₂ h =>
   cmp_end x₂.inn (x₂.le r₁) r₂ h fun c Z₃ x₃ h=>wpAny_truthy_bool (match c,h with
    | false,h=>GP.here h x₃.inn rfl
    | true,h=>chain_last (hc.v X σ Z₃ _ E (((S.on x₁).on x₂).on x₃) (RG.step h fun z _ Z₄ v₄ x₄ r₄ h=>cmpop_ok x₄.inn (x₄.le (x₃.le r₂)) r₄ op2 h))))))) hl,
  fun X σ Z Q E S h=>isTrue_chain (ha.v X σ Z _ E S (RG.step2 h fun x Z₁ v₁ x₁ r₁ h=>test_link (hb.v X σ Z₁ _ E (S.on x₁) (RG.step2 h fun y Z₂ v₂ x₂ r₂ h =>
   cmp_end x₂.inn (x₂.le r₁) r₂ (RG.asc h) fun c Z₃ x₃ h=>wpAny_truthy_bool (match c,h with
    | false,h=>GP.here h x₃.inn rfl
    | true,h=>test_last (hc.v X σ Z₃ _ E (((S.on x₁).on x₂).on x₃) (RG.step2 h fun z Z₄ v₄ x₄ r₄ h =>
      cmp_end x₄.inn (x₄.le (x₃.le r₂)) r₄ (RG.asc h) fun c Z₅ x₅ h=>wpAny_truthy_bool (GP.here h x₅.inn rfl))))))) ) hl,fun _ _=>rfl⟩
end
end Mine
end
section
set_option tactic.hygienic false
open PySem PySem.Calls PyProof.Rows PySem.SeqAt PySem.W
namespace Mine
section
variable {C:CK} {m a b c:ME} {e e1 e2 e3:Expr} {ms:List ME} {es:List Expr} {X:WX C} {σ:Env'} {Z:ZS} {Q:Value→Shared→Prop} {E:Value→Shared→Prop}
theorem spl_cons {env:Env} {pos:Pos} {M:Model} {A:Around} {s:Shared} {Q:List Value→Shared→Prop} (he:∀ (env:Env) (rest:List Expr),starEach (e::rest) env=(false,eval e env)::starEach rest env)
  (h:wpAny M A (eval e env) (fun v s'=>wpAny M A (spliced (backTo pos (starEach es env))) (fun vs s₁=>Q (v::vs) s₁) E s') E s):wpAny M A (spliced (backTo pos (starEach (e::es) env))) Q E s:=by
 rw [he]
 exact spliced_cons h
theorem es_ok (h:EBs C ms es):EsOk C ms es:=by
 induction h with
 | nil=>exact fun X pos σ Z Q E S h=>spliced_nil (GP.here h S.inG rfl)
 | cons hm _ ih=>exact fun X pos σ Z Q E S h=>spl_cons hm.ns (hm.v X σ Z _ E S (RG.step h fun x _ Z₁ v₁ x₁ r₁ h=>ih X pos σ Z₁ _ E (S.on x₁) (RG.step h fun xs _ Z₂ vs₂ x₂ r₂ h=>GP.here h x₂.inn (.mk (x₂.le r₁) r₂))))
theorem plain_args (h:EBs C ms es) (env:Env) (pos:Pos):(backTo pos (starEach es env)).any (·.1)=false:=by
 induction h with
 | nil=>rfl
 | cons hm _ ih=>rw [hm.ns]; exact (congrArg (or false) ih:_)
theorem few_args {env:Env} {pos:Pos} (h:EBs C ms es) (h6:Nat.blt es.length 20=true) :
  ((backTo pos (starEach es env)).all (fun x=>!x.1) && (backToKw pos (keywordEach [] env)).all (fun x=>x.1.isSome)
   && decide (es.length + ([]:List Keyword).length + (if ([]:List Keyword).isEmpty then 0 else 1) < 30))=true:=by
 have hp:=plain_args h env pos
 rw [List.any_eq_false] at hp
 have ha:(backTo pos (starEach es env)).all (fun x=>!x.1)=true:=List.all_eq_true.mpr fun x hx=>by rw [eq_false_of_ne_true (hp x hx)]; rfl
 rw [ha]
 exact decide_eq_true (Nat.lt_trans (Nat.le_of_ble_eq_true h6) (by decide))
theorem args_ok {f:Value} {pos:Pos} {Q:Args→Shared→Prop} (hm:EBs C ms es) (S:St X Z σ) (h:RG X.F X.l RepAll Z (fun vs s'=>Q ⟨vs,[]⟩ s') E (evEs X.Φ ms σ)) :
  wpAny X.M X.A (evalArgs f true (backTo pos (starEach es X.env)) []) Q E Z.s:=by
 have h:=es_ok hm X pos σ Z _ E S h
 cases hm with
 | nil =>
  unfold evalArgs
  show wpAny X.M X.A (spliced [] >>= _) Q E Z.s
  exact wpAny_bind (wpAny_mono h (fun vs s' h'=>wpAny_holding (wpAny_bind (wpAny_pure (wpAny_bind (wpAny_pure (wpAny_pure h')))))) fun _ _ x=>x)
 | cons hm _ =>
  rw [hm.ns] at h ⊢
  exact evalArgs_plain h
theorem ok_tup {u:Nat} {pos:Pos} (hm:EBs C ms es):EB C (.tup ms) (.Tuple es u pos) :=
 t_plain (fun X σ Z Q E S h=>wpAny_Tuple (es_ok hm X pos σ Z _ E S (RG.step h fun vs _ Z₁ v₁ x₁ r₁ h =>
  have h:=h.lim
  have hl:=of_decide_eq_true h.1
  ⟨RepAll.le r₁ hl,VP.tup h.2 x₁.inn r₁ hl⟩))) (fun _ _=>rfl) fun _ _=>rfl
theorem ok_lst {pos:Pos} (hm:EBs C ms es):EB C (.lst ms) (.List es pos) :=
 t_plain (fun X σ Z Q E S h=>wpAny_List (es_ok hm X pos σ Z _ E S (RG.step h fun vs _ Z₁ v₁ x₁ r₁ h =>
  have h:=h.lim
  have hl:=of_decide_eq_true h.1
  ⟨RepAll.le r₁ hl,VP.lst h.2 x₁.inn r₁ hl⟩))) (fun _ _=>rfl) fun _ _=>rfl
theorem ok_idx {pos:Pos} (ha:EB C a e1) (hb:EB C b e2):EB C (.idx a b) (.Subscript e1 e2 pos) :=
 t_plain (fun X σ Z Q E S h=>Subscript_ (ha.v X σ Z _ E S (RG.step h fun x _ Z₁ v₁ x₁ r₁ h=>hb.v X σ Z₁ _ E (S.on x₁) (RG.step h fun y _ Z₂ v₂ x₂ r₂ h=>(idx_ok x₂.inn (x₂.le r₁) r₂ h).tail)))) (fun _ _=>rfl) fun _ _=>rfl
def OB (C:CK) (m:Option ME) (e:Option Expr):Prop:=∀ (X:WX C) (σ:Env') (Z:ZS) (Q:Value→Shared→Prop) (E:Value→Shared→Prop),St X Z σ→RG X.F X.l repO Z Q E (evO X.Φ m σ)→wpAny X.M X.A (evalPart e X.env) Q E Z.s
theorem o_none:OB C none none:=fun X σ Z Q E S h=>wpAny_pure (GP.here h S.inG rfl)
theorem o_some (hm:EB C m e):OB C (some m) (some e):=fun X σ Z Q E S h=>hm.v X σ Z _ E S (RG.step h fun x _ Z₁ v₁ x₁ r₁ h=>GP.here h x₁.inn r₁)
theorem repO_le {F:Addr→Prop} {Z Z':ZS} (x:Stp F Z Z') {v:Value}:∀ {o:Option AV},repO Z.G v o→repO Z'.G v o
 | none,h=>h
 | some _,h=>x.le h
theorem ok_sl {lo hi:Option ME} {el eu:Option Expr} {pos p2:Pos} (ha:EB C a e1) (hlo:OB C lo el) (hhi:OB C hi eu):EB C (.sl a lo hi) (.Subscript e1 (.Slice el eu none p2) pos) :=
 t_plain (fun X σ Z Q E S h=>Subscript_ (ha.v X σ Z _ E S (RG.step h fun x _ Z₁ v₁ x₁ r₁ h=>wpAny_Slice (hlo X σ Z₁ _ E (S.on x₁) (RG.step h fun y _ Z₂ v₂ x₂ r₂ h=>hhi X σ Z₂ _ E ((S.on x₁).on x₂) (RG.step h fun z _ Z₃ v₃ x₃ r₃ h=>by
  rw [evalPart_none]
  have e : Stp X.F Z₃ (Z₃.up Z₃.G (Z₃.s.heap.push { cls := .type "slice", data := .fields #[v₂, v₃, .none] }) Z₃.s.toks) := ⟨.of_keep x₃.inn fun b o e => Heap.get?_push_of_some _ e, rfl⟩
  exact wpAny_pure (slice_ok e.inn (e.le (x₃.le (x₂.le r₁))) (repO_le e (repO_le x₃ r₂)) (repO_le e r₃) (Heap.IsSliceOf.new ..) (RG.on e h)).tail)))))) (fun _ _=>rfl) fun _ _=>rfl
theorem ok_call {x : Str} {f : Nat} {np pos : Pos} (h1 : C.kinds x = some .globalImplicit) (h2 : (x == ("__debug__" : Str)) = false) (h3 : FTL.lookup x = some f) (hm : EBs C ms es) : EB C (.call f ms) (.Call (.Name x np) es [] pos) :=
 t_plain (fun X σ Z Q E S h=>by
  have hf:=X.stat.fn x f h3
  obtain ⟨o,fd,e2,e3⟩:=hf.2
  exact wpAny_Call_ofName (Name_function_global X.hE.kind ((X.hE.kinds x).trans h1) (loadGlobal_global (mg:=X.mg) (by rw [X.hE.glob]; exact X.stat.g.keeps S.W) hf.1
   (callWith_function (o:=o) (fd:=fd) (args_ok hm S (RG.step h fun vs _ Z₁ v₁ x₁ r₁ h =>
    have S₁:=S.on x₁
    ⟨⟨S₁.W _ _ e2,e3⟩,X.calls f vs Z₁ v₁ Q E S₁.W S₁.fr S₁.gfr S₁.inG r₁ h⟩)))) h2)) (fun _ _=>rfl) fun _ _=>rfl
theorem bi_call (bi:BI) {pos p2:Pos} {env:Env} {A:Around} {s:Shared} (ha:(backTo pos (starEach es env)).any (·.1)=false) {Q:Value→Shared→Prop} {prog:Program} {w:World}
  (fin:wpAny (model prog w) A (evalArgs (bisOf bi) true (backTo pos (starEach es env)) []) (fun a s₁=>wpAny (model prog w) A (call (bisOf bi) ([]++a.pos) a.kw) Q E s₁) E s) :
  wpAny (model prog w) A (callWith p2 (bisOf bi) [] (backTo pos (starEach es env)) []) Q E s:=by
 cases bi with
 | str=>exact PySem.callWith_type ha fin
 | _=>exact callWith_builtin ha fin
theorem ok_bi {bi : BI} {np pos : Pos} (h1 : C.kinds (biName bi) = some .globalImplicit) (h2 : (biName bi == ("__debug__" : Str)) = false) (hm : EBs C ms es) : EB C (.bi bi ms) (.Call (.Name (biName bi) np) es [] pos) :=
 t_plain (fun X σ Z Q E S h =>
  have hb:=X.stat.bi bi
  wpAny_Call_ofName (Name_function_global X.hE.kind ((X.hE.kinds _).trans h1) (loadGlobal_builtin (mg:=X.mg) (mb:=X.mb) (by rw [X.hE.glob]; exact X.stat.g.keeps S.W) hb.1 (by rw [X.hE.blt]; exact X.stat.b.keeps S.W) hb.2
   (bi_call bi (plain_args hm _ _) (args_ok hm S (RG.step h fun vs _ Z₁ v₁ x₁ r₁ h=>biop_ok bi x₁.inn r₁ h)))) h2)) (fun _ _=>rfl) fun _ _=>rfl
theorem slot_sm (m : SM) : Slot "str" (smOf m).1 (smOf m).2 := by
 cases m
 ·exact PySem.F.slot_str_join
 ·exact PySem.F.slot_str_upper
 ·exact PySem.F.slot_str_index
theorem type_sm (m : SM) : typeOf (.builtin (smOf m).2) = pure (.type "method_descriptor") := by
 cases m
 ·exact PySem.F.type_str_join
 ·exact PySem.F.type_str_upper
 ·exact PySem.F.type_str_index
theorem ok_sm {sm:SM} {ov:Expr} {apos pos:Pos} (hb:∀ (env:Env) (whole:Sem Value),attributeBase ov (smOf sm).1 env whole=whole) (hl:(apos.endLine == pos.line)=true) (h6:Nat.blt es.length 20=true) (ho:EB C a ov) (hm:EBs C ms es) :
  EB C (.sm sm a ms) (.Call (.Attribute ov (smOf sm).1 apos) es [] pos) :=
 t_plain (fun X σ Z Q E S h=>wpAny_Call_method_lateS (hb _ _) (few_args hm h6) hl (ho.v X σ Z _ E S (RG.step h fun x _ Z₁ v₁ x₁ r₁ h=>by
  cases RG.str r₁ h with | mk q1 q2 h =>
  exact ⟨"str", (smOf sm).2, PySem.F.plainAttrs_str, slot_sm sm, type_sm sm, typeIs_str _ _ _, (fun _ e => nomatch e), callWith_builtin (plain_args hm _ _) (args_ok hm (S.on x₁) (RG.step h fun vs _ Z₂ v₂ x₂ r₂ h => smop_ok sm x₂.inn q1 q2 r₂ h))⟩)))
  (fun _ _=>rfl) fun _ _=>rfl
theorem pairs_get:∀ {kvs:List (Int × Value)} {l:List (Int × Int)},pairsAre kvs l→∀ k,(valueAt kvs k=none∧dictGet l k=none)∨∃ v t,valueAt kvs k=some (.int v t)∧dictGet l k=some v
 | [],[],_,_=>.inl ⟨rfl,rfl⟩
 | [],_::_,h,_=>nomatch h.keys
 | _::_,[],h,_=>nomatch h.keys
 | q::kvs,p::l,h,k=>by
  obtain ⟨t,ht⟩:=h.vals 0 p rfl
  cases Option.some.inj ht
  by_cases e:p.1=k
  ·exact .inr ⟨p.2,t,by simp [valueAt,e],by simp [dictGet,e]⟩
  ·have:=pairs_get (kvs:=kvs) (l:=l) ⟨(List.cons.inj h.keys).2,fun j p' hj=>h.vals (j + 1) p' hj⟩ k
   have e1:valueAt ((p.1,.int p.2 t)::kvs) k=valueAt kvs k:=by simp [valueAt,e]
   have e2:dictGet (p::l) k=dictGet l k:=by simp [dictGet,e]
   rw [e1,e2]; exact this
theorem St.dict {α β:Type} {rp:GH→β→α→Prop} {Q:β→Shared→Prop} (S:St X Z σ) {i:Nat} {x:Str} {f:List (Int × Int)→R α} (hx:C.N[i]?=some x) (h:RG X.F X.l rp Z Q E (asE σ[i]? f)) :
  ∃ a l,Leads X.env Z.s.heap x (.ref a)∧DictR X.prog X.w X.F Z.s.heap l a∧RG X.F X.l rp Z Q E (f l):=by
 cases hv:σ[i]? with
 | none=>rw [hv] at h; exact (show False from h).elim
 | some sv =>
  rw [hv] at h
  cases S.slots i sv x hv hx with
  | od h1 h2=>exact ⟨_,_,h1,h2,h⟩
  | rd h1 h2=>exact ⟨_,_,h1,h2,h⟩
  | _=>exact (show False from h).elim
theorem DictR.on {Z Z':ZS} {l:List (Int × Int)} {a:Addr} (d:DictR X.prog X.w X.F Z.s.heap l a) (e:Stp X.F Z Z'):DictR X.prog X.w X.F Z'.s.heap l a:=d.ext e.ext
theorem ok_dget {i : Nat} {x : Str} {np apos pos : Pos} (hx : C.N[i]? = some x) (hd : (x == ("__debug__" : Str)) = false) (hl : (apos.endLine == pos.line) = true) (ha : EB C a e1) (hb : EB C b e2) :
  EB C (.dget i a b) (.Call (.Attribute (.Name x np) "get" apos) [e1, e2] [] pos) :=
 t_plain (fun X σ Z Q E S h=>by
  obtain ⟨ad,l,k1,k2,h⟩:=S.dict hx h
  have k2':=k2
  cases k2' with | mk d1 d2 d3 d4 =>
  refine wpAny_Call_method_lateS rfl (few_args (.cons ha (.cons hb .nil)) rfl) hl (wpAny_Name (k1.load X.hE.kind ⟨"dict", "dict.get", PySem.F.plainAttrs_dict, PySem.F.slot_dict_get, PySem.F.type_dict_get, d1.typeIs, d1.mapOf.noDict, ?_⟩) hd)
  rw [ha.ns,hb.ns]
  refine wpAny_dict_get2 (knd:=intKind X.prog X.w) d4 (ha.v X σ Z _ E S (RG.step h fun x _ Z₁ v₁ x₁ r₁ h=>hb.v X σ Z₁ _ E (S.on x₁) (RG.step h fun y _ Z₂ v₂ x₂ r₂ h=>?_)))
  cases RG.int (x₂.le r₁) h with | @mk kk _ h=>cases RG.int r₂ h with | mk h =>
  cases (k2.on x₁).on x₂ with | mk d1 d2 d3 d4 =>
  refine ⟨_,valueAt _,intKind_is _ _ _ _,d1.mapOf,VP.tk h x₂.inn ?_⟩
  rcases pairs_get d2 kk with ⟨z1,z2⟩ | ⟨v,u,z1,z2⟩
  ·rw [z1,z2]; exact .mk
  ·rw [z1,z2]; exact .mk) (fun _ _=>rfl) fun _ _=>rfl
section
variable {pos:Pos}
theorem and_v (h:EB C m e) (hr:EBs C ms es):∀ (X:WX C) (σ:Env') (Z:ZS) (Q E),St X Z σ→RV X Z Q E (evAnd X.Φ (m::ms) σ)→wpAny X.M X.A (eval (.BoolOp .And (e::es) pos) X.env) Q E Z.s:=by
 induction hr generalizing m e with
 | nil=>exact fun X σ Z Q E S hh=>BoolOp_one (h.v X σ Z Q E S (RG.step hh fun x _ Z₁ v₁ x₁ r₁ h=>by
   cases RG.bool r₁ h with | @mk b h=>cases b <;> exact GP.here h x₁.inn rfl))
 | cons hm _ ih=>exact fun X σ Z Q E S hh=>BoolOp_and (h.v X σ Z _ E S (RG.step hh fun x _ Z₁ v₁ x₁ r₁ h=>by
   cases RG.bool r₁ h with | @mk b h =>
   cases b with
   | true=>exact wpAny_truthy_bool (ih hm X σ Z₁ Q E (S.on x₁) h)
   | false=>exact wpAny_truthy_bool (GP.here h x₁.inn rfl)))
theorem or_v (h:EB C m e) (hr:EBs C ms es):∀ (X:WX C) (σ:Env') (Z:ZS) (Q E),St X Z σ→RV X Z Q E (evOr X.Φ (m::ms) σ)→wpAny X.M X.A (eval (.BoolOp .Or (e::es) pos) X.env) Q E Z.s:=by
 induction hr generalizing m e with
 | nil=>exact fun X σ Z Q E S hh=>BoolOp_one (h.v X σ Z Q E S (RG.step hh fun x _ Z₁ v₁ x₁ r₁ h=>by
   cases RG.bool r₁ h with | @mk b h=>cases b <;> exact GP.here h x₁.inn rfl))
 | cons hm _ ih=>exact fun X σ Z Q E S hh=>BoolOp_or (h.v X σ Z _ E S (RG.step hh fun x _ Z₁ v₁ x₁ r₁ h=>by
   cases RG.bool r₁ h with | @mk b h =>
   cases b with
   | false=>exact wpAny_truthy_bool (ih hm X σ Z₁ Q E (S.on x₁) h)
   | true=>exact wpAny_truthy_bool (GP.here h x₁.inn rfl)))
theorem and_t (hr:EBs C ms es):∀ (X:WX C) (σ:Env') (Z:ZS) (Q:Bool→Shared→Prop) (E),St X Z σ→RG X.F X.l isB Z Q E ((evAnd X.Φ ms σ).bind fun v=>asB v .ok)→wpAny X.M X.A (allTrue .And es X.env) Q E Z.s:=by
 induction hr with
 | nil=>exact fun X σ Z Q E S hh=>wpAny_allTrue_And_nil (GP.here hh S.inG rfl)
 | cons hm _ ih=>exact fun X σ Z Q E S hh=>wpAny_allTrue_And_cons (hm.t X σ Z _ E S (RG.tr2 hh fun b Z₁ x₁ h=>match b,h with
   | true,h=>ih X σ Z₁ Q E (S.on x₁) h
   | false,h=>GP.here h x₁.inn rfl))
theorem or_t (hr:EBs C ms es):∀ (X:WX C) (σ:Env') (Z:ZS) (Q:Bool→Shared→Prop) (E),St X Z σ→RG X.F X.l isB Z Q E ((evOr X.Φ ms σ).bind fun v=>asB v .ok)→wpAny X.M X.A (allTrue .Or es X.env) Q E Z.s:=by
 induction hr with
 | nil=>exact fun X σ Z Q E S hh=>wpAny_allTrue_Or_nil (GP.here hh S.inG rfl)
 | cons hm _ ih=>exact fun X σ Z Q E S hh=>wpAny_allTrue_Or_cons (hm.t X σ Z _ E S (RG.tr2 hh fun b Z₁ x₁ h=>match b,h with
   | false,h=>ih X σ Z₁ Q E (S.on x₁) h
   | true,h=>GP.here h x₁.inn rfl))
theorem ok_and (h:EB C m e) (hr:EBs C ms es):EB C (.and (m::ms)) (.BoolOp .And (e::es) pos):=⟨and_v h hr,fun X σ Z Q E S hh=>wpAny_isTrue_BoolOp (and_t (.cons h hr) X σ Z Q E S hh),fun _ _=>rfl⟩
theorem ok_or (h:EB C m e) (hr:EBs C ms es):EB C (.or (m::ms)) (.BoolOp .Or (e::es) pos):=⟨or_v h hr,fun X σ Z Q E S hh=>wpAny_isTrue_BoolOp (or_t (.cons h hr) X σ Z Q E S hh),fun _ _=>rfl⟩
end
end
end Mine
end
section
set_option tactic.hygienic false
open PySem PySem.Calls PyProof.Rows PySem.SeqAt PySem.W
namespace Mine
noncomputable def noF:Addr→Prop:=fun _=>False
noncomputable def inner (C:CK) (scope:Scope) (x:Str) (fr:List Nat):CK :=
 { N := x :: fr.map fun i => (C.N[i]?).getD ("?" : Str), kinds := fun y => (scope.names.lookup y).map fun k => if k == .free && C.kinds y == some .cell then .cell else k }
noncomputable def frOk (C:CK) (scope:Scope) (x:Str) (i:Nat):Bool:=match C.N[i]? with
 | some y=>y != x && C.kinds y == some .cell && scope.names.lookup y == some .free
 | none=>false
noncomputable def scopeOk (C:CK) (scope:Scope) (x:Str) (fr:List Nat):Bool :=
 scope.kind == .function && (scope.names.lookup x == some .local && (scope.names.all (fun y=>y.2 != .cell && ((y.2 != .local || scope.names.lookup y.1 == some .local) && (y.2 != .free || C.kinds y.1 == some .cell))) && fr.all (frOk C scope x)))
structure ScOk (C:CK) (scope:Scope) (x:Str) (fr:List Nat):Prop where
 kind:scope.kind=.function
 here:scope.names.lookup x=some .local
 cell:∀ y ∈ scope.names,y.2≠.cell
 loc:∀ y ∈ scope.names,y.2=.local→scope.names.lookup y.1=some .local
 free:∀ y ∈ scope.names,y.2=.free→C.kinds y.1=some .cell
 fr:∀ i ∈ fr,∃ y,C.N[i]?=some y∧C.kinds y=some .cell∧scope.names.lookup y=some .free
theorem and2 {a b:Bool} (h:(a && b)=true):a=true∧b=true:=Bool.and_eq_true_iff.mp h
theorem imp_or {α:Type} [BEq α] [LawfulBEq α] {a b:α} {c:Bool} (h:(a != b || c)=true) (e:a=b):c=true:=by
 subst e; rw [bne_self_eq_false] at h; exact h
theorem scope_ok {C:CK} {scope:Scope} {x:Str} {fr:List Nat} (h:scopeOk C scope x fr=true):ScOk C scope x fr :=
 have h1:=and2 h
 have h2:=and2 h1.2
 have h3:=and2 h2.2
 have a:=fun y hy=>and2 (List.all_eq_true.mp h3.1 y hy)
 ⟨eq_of_beq h1.1,eq_of_beq h2.1,fun y hy=>bne_iff_ne.mp (a y hy).1,fun y hy e=>eq_of_beq (imp_or (and2 (a y hy).2).1 e),fun y hy e=>eq_of_beq (imp_or (and2 (a y hy).2).2 e),fun i hi=>by
  have:=List.all_eq_true.mp h3.2 i hi
  unfold frOk at this
  cases e:C.N[i]? with
  | none=>rw [e] at this; cases this
  | some y =>
   rw [e] at this
   have q:=and2 this
   exact ⟨y,rfl,eq_of_beq (and2 q.1).2,eq_of_beq q.2⟩⟩
theorem SeqR.two {G:GH} {c c':String} {P P':List Value→Prop} {v:Value} (h:SeqR G c P v) (h':SeqR G c' P' v):c=c'∧∃ ws,P ws∧P' ws:=by
 cases h with | mk a b d e=>cases h' with | mk a' b' d' e' =>
 cases Option.some.inj (a.symm.trans a')
 cases d.symm.trans d'
 exact ⟨by injection (b.symm.trans b'),_,e,e'⟩
theorem rep_det {G:GH} (a:AV):∀ v,rep G a v→∀ b,rep G b v→a=b :=
 AV.rec (motive_1:=fun a=>∀ v,rep G a v→∀ b,rep G b v→a=b) (motive_2:=fun l=>∀ vs,reps G l vs→∀ m,reps G m vs→l=m)
  (fun v e b h=>by cases (show v=.none from e); cases b <;> first | rfl | (cases h; done) | cases h.1)
  (fun _ v e b h=>by cases (show v=.bool _ from e); cases b <;> first | (cases h; rfl) | (cases h; done) | cases h.1)
  (fun _ v e b h=>by cases e; cases b <;> first | (cases h; rfl) | (cases h; done) | cases h.1)
  (fun _ v e b h=>by cases e with | mk e _ _=>cases b <;> first | (cases h with | mk e' _ _=>exact congrArg AV.str (e.symm.trans e')) | (cases h; done) | cases h.1)
  (fun l ih v e b h=>by
   cases b with
   | tup m=>obtain ⟨_,ws,x,y⟩:=e.1.two h.1; exact congrArg AV.tup (ih ws x m y)
   | lst m=>exact absurd (e.1.two h.1).1 (by decide)
   | _=>exact absurd e.1 (by cases h; exact fun z=>nomatch z))
  (fun l ih v e b h=>by
   cases b with
   | lst m=>obtain ⟨_,ws,x,y⟩:=e.1.two h.1; exact congrArg AV.lst (ih ws x m y)
   | tup m=>exact absurd (e.1.two h.1).1 (by decide)
   | _=>exact absurd e.1 (by cases h; exact fun z=>nomatch z))
  (fun _ e m h=>by
   cases (show _=[] from e)
   cases m with
   | nil=>rfl
   | cons _ _=>cases h)
  (fun _ _ h1 h2 _ e m h=>by
   cases e with | mk x y =>
   cases m with
   | nil=>cases (show _=[] from h)
   | cons _ _=>cases h with | mk x' y'=>exact congr (congrArg List.cons (h1 _ x _ x')) (h2 _ y _ y')) a
theorem RepAll.of_get {G:GH}:∀ {vs:List Value} {l:List AV},vs.length=l.length→(∀ (j:Nat) (v:Value),vs[j]?=some v→∃ a,l[j]?=some a∧Rep G v a)→RepAll G vs l
 | [],[],_,_=>rfl
 | [],_::_,h,_=>nomatch h
 | _::_,[],h,_=>nomatch h
 | v::vs,a::l,h,k=>.mk (by obtain ⟨b,e,r⟩:=k 0 v rfl; cases e; exact r) (RepAll.of_get (Nat.succ.inj h) fun j v hj=>k (j + 1) v hj)
section
variable {C:CK} {X:WX C} {Z Z₁:ZS} {σ ρ:Env'} {E:Value→Shared→Prop}
structure ItW (X:WX C) (Z₁:ZS) (k:IK) (items:List AV) (I:Addr) (fp:List Addr) (s₂:Shared) (P:Nat→Value→Prop) (St:Nat→Heap→Prop):Prop where
 W:Walks X.prog X.w X.A I fp [I] items.length P St
 small:items.length≤sizeLine
 st:St 0 s₂.heap
 ob:∀ j h,St j h→∃ o,h.get? I=some o
 li:k=.lst→∀ j h,St j h→∃ ax,h.IsListIter I ax j
 fpl:∀ b ∈ fp,b < s₂.heap.objs.size
 fpG:∀ b ∈ fp,b≠I→∃ o,Z₁.G b=some o
 hP:∀ j v,P j v→∃ a,items[j]?=some a∧Rep Z₁.G v a
 new:Z₁.s.heap.get? I=none
 keep:∀ b o,Z₁.s.heap.get? b=some o→s₂.heap.get? b=some o
 sh:s₂={ Z₁.s with heap:=s₂.heap,toks:=s₂.toks }
theorem range_get (n:Int) {j:Nat} (hj:j < n.toNat):(rangeVals n)[j]?=some (.int j):=by
 unfold rangeVals
 rw [List.getElem?_map,List.getElem?_range hj]; rfl
theorem range_len (n:Int):(rangeVals n).length=n.toNat:=by unfold rangeVals; rw [List.length_map,List.length_range]
theorem push2 {h:Heap} (o o':Obj) {b:Addr} {q:Obj} (e:h.get? b=some q):((h.push o).push o').get? b=some q:=Heap.get?_push_of_some _ (Heap.get?_push_of_some _ e)
theorem lt_push (h:Heap) (o:Obj):h.objs.size < (h.push o).objs.size:=by rw [Heap.size_push]; exact Nat.lt_succ_self _
theorem range_it {N:Int} (h:rgOk N=true) {K:Value→Shared→Prop} (hK:∀ I s₂ P St,ItW X Z₁ .rng (rangeVals N) I [I] s₂ P St→K (.ref I) s₂) {t:Tok} :
  wpAny X.M X.A (call (.type "range") [.int N t]) (fun xv s₁ => wpAny X.M X.A (pyIter xv) K E s₁) E Z₁.s := by
 have hN:=and2 h
 have hlo:=of_decide_eq_true hN.1
 have hhi:=of_decide_eq_true hN.2
 refine call_range_1 (wpAny_pyIter_range (IsRange.new ..) (small_one (by decide) (by decide) hlo (Int.lt_of_le_of_lt hhi (by decide))) ?_)
 have e0:(0 + ((0:Nat):Int) * 1)=0:=rfl
 have hsz:Builtin.Range.rangeSize 0 N 1=(N.toNat:Int) - ((0:Nat):Int):=by
  rw [PySem.rangeSize_one,Int.sub_zero,Int.natCast_zero,Int.sub_zero]
  by_cases q:0 < N
  ·rw [if_pos q,Int.toNat_of_nonneg (Int.le_of_lt q)]
  ·rw [if_neg q,Int.toNat_eq_zero.mpr (Int.not_lt.mp q)]; rfl
 refine hK _ _ _ _ ⟨by rw [range_len]; exact (Walks.range X.handled _ 0 1 N.toNat).bound,?_,by rw [e0,← hsz]; exact Heap.get?_push_size _ rfl,fun j h st=>⟨_,st⟩,(fun e=>nomatch e),fun b hb=>?_,fun b hb hne=>absurd (List.mem_singleton.mp hb) hne,?_,?_,fun b o e=>push2 _ _ e,rfl⟩
 ·rw [range_len,sz16]; exact Int.toNat_le.mpr (Int.le_trans hhi (by decide))
 ·rw [List.mem_singleton.mp hb]; exact lt_push _ _
 ·rintro j v ⟨hj,t,rfl⟩
  exact ⟨_,range_get N hj,by rw [Int.mul_one,Int.zero_add]; exact .mk⟩
 ·exact Heap.get?_none_of_le (by rw [Heap.size_push]; exact Nat.le_succ _)
theorem list_it {m:List AV} {v₁:Value} (hG:Z₁.G.In Z₁.s.heap) (r₁:Rep Z₁.G v₁ (.lst m)) {K:Value→Shared→Prop} (hK:∀ I fp s₂ P St,ItW X Z₁ .lst m I fp s₂ P St→K (.ref I) s₂):wpAny X.M X.A (pyIter v₁) K E Z₁.s:=by
 cases r₁.1 with | @mk ax o ws nn g1 g2 g3 g4 =>
 have ho:=hG _ _ g1
 have hws:Z₁.s.heap.IsList ax ws.toArray:=⟨o,ho,g2,nn,g3⟩
 have hlt:=Heap.lt_size ho
 have hl:=RepAll.length g4
 refine wpAny_pyIter_list hws (hK _ [Z₁.s.heap.objs.size,ax] _ (fun i v=>ws.toArray[i]?=some v) (fun i h=>h.IsListIter Z₁.s.heap.objs.size ax i∧h.IsList ax ws.toArray) ⟨?_,Nat.le_trans r₁.2 lLine_le,⟨⟨_,Heap.get?_push_size _ rfl,rfl,rfl⟩,⟨o,Heap.get?_push_of_some _ ho,g2,nn,g3⟩⟩,fun j h st=>⟨_,st.1.choose_spec.1⟩,fun _ j h st=>⟨_,st.1⟩,fun b hb=>?_,fun b hb hne=>?_,fun j v hj=>?_,Heap.get?_none_of_le (Nat.le_refl _),fun b o e=>Heap.get?_push_of_some _ e,rfl⟩)
 ·have W:=Walks.list (prog:=X.prog) (w:=X.w) X.handled Z₁.s.heap.objs.size ax (Nat.ne_of_lt hlt) ws.toArray
  rw [show ws.toArray.size=m.length from List.size_toArray.trans hl] at W
  exact W
 ·rcases List.mem_cons.mp hb with rfl | hb
  ·exact lt_push _ _
  ·rw [List.mem_singleton.mp hb]; exact Nat.lt_trans hlt (lt_push _ _)
 ·rcases List.mem_cons.mp hb with rfl | hb
  ·exact absurd rfl hne
  ·rw [List.mem_singleton.mp hb]; exact ⟨_,g1⟩
 ·have hj:ws[j]?=some v:=(List.getElem?_toArray ..).symm.trans hj
  have hlt:j < m.length:=by rw [← hl]; exact (List.getElem?_eq_some_iff.mp hj).1
  obtain ⟨u,hu1,hu2⟩:=RepAll.get g4 (List.getElem?_eq_getElem hlt)
  cases Option.some.inj (hj.symm.trans hu1)
  exact ⟨_,List.getElem?_eq_getElem hlt,hu2⟩
theorem str_it {l:List Nat} {v₁:Value} (r₁:StrR l v₁) {K:Value→Shared→Prop} (hK:∀ I fp s₂ P St,ItW X Z₁ .str (l.map fun c=>.str [c]) I fp s₂ P St→K (.ref I) s₂):wpAny X.M X.A (pyIter v₁) K E Z₁.s:=by
 cases r₁ with | @mk p t e h1 h2 =>
 subst e
 have hlen:(p.cps.toList.map fun c=>AV.str [c]).length=p.cps.size:=by rw [List.length_map]; rfl
 have hPs:∀ j v,SignAt p j v→∃ a,(p.cps.toList.map fun c=>AV.str [c])[j]?=some a∧Rep Z₁.G v a:=by
  rintro j v ⟨c,u,hc,rfl⟩
  have hc':p.cps.toList[j]?=some c:=(Array.getElem?_toList ..).trans hc
  exact ⟨.str [c],by rw [List.getElem?_map,hc']; rfl,rep_sign (okS_get ((strOk_iff p).mp h2) hc')⟩
 have fin:∀ (T:String),Walks X.prog X.w X.A Z₁.s.heap.objs.size [Z₁.s.heap.objs.size] [Z₁.s.heap.objs.size] p.cps.size (SignAt p) (fun i h=>h.IsStrIter Z₁.s.heap.objs.size T p t i)→K (.ref Z₁.s.heap.objs.size) { Z₁.s with heap:=Z₁.s.heap.push { cls:=.type T,data:=.fields #[.str p t,.int 0 0] } }:=fun T W =>
  hK _ _ _ (SignAt p) (fun i h=>h.IsStrIter Z₁.s.heap.objs.size T p t i) ⟨by rw [hlen]; exact W,by rw [hlen]; exact h1,⟨_,Heap.get?_push_size _ rfl,rfl,rfl⟩,fun j h st=>⟨_,st.choose_spec.1⟩,(fun e=>nomatch e),fun b hb=>by rw [List.mem_singleton.mp hb]; exact lt_push _ _,fun b hb hne=>absurd (List.mem_singleton.mp hb) hne,hPs,Heap.get?_none_of_le (Nat.le_refl _),fun b o e=>Heap.get?_push_of_some _ e,rfl⟩
 cases ha:p.cps.all (· < 128)
 ·exact wpAny_pyIter_wide ha (fin _ (Walks.strWide X.handled _ p t))
 ·exact wpAny_pyIter_ascii ha (fin _ (Walks.strAscii X.handled _ p t))
inductive ItE (C:CK) (n:ME):IK→Expr→Prop
 | rng {ne : Expr} {np pos : Pos} : EB C n ne → C.kinds ("range" : Str) = some .globalImplicit → ItE C n .rng (.Call (.Name ("range" : Str) np) [ne] [] pos)
 | lst {e:Expr}:EB C n e→(∀ env v,foldedSetIterable e env v=pure v)→ItE C n .lst e
 | str {e:Expr}:EB C n e→(∀ env v,foldedSetIterable e env v=pure v)→ItE C n .str e
theorem ItE.folded {n:ME} {k:IK} {e:Expr} (h:ItE C n k e) (env:Env) (v:Value):foldedSetIterable e env v=pure v:=by
 cases h with
 | rng=>rfl
 | lst _ h=>exact h env v
 | str _ h=>exact h env v
section
variable {α β:Type} {rp:GH→β→α→Prop} {Q:β→Shared→Prop} {K:Value→Shared→Prop} {n:ME} {k:IK} {ie:Expr}
theorem iter_ok {f:List AV→R α} (hn:ItE C n k ie) (S:St X Z σ) (h:RG X.F X.l rp Z Q E ((evE X.Φ n σ).bind fun x=>itemsOf k x f))
  (hK:∀ (m:List AV) (Z₁:ZS) (I:Addr) (fp) (s₂:Shared) (P) (St),(evE X.Φ n σ).bind (fun x=>itemsOf k x R.ok)=.ok m→Stp X.F Z Z₁→RG X.F X.l rp Z₁ Q E (f m)→ItW X Z₁ k m I fp s₂ P St→K (.ref I) s₂) :
  wpAny X.M X.A (eval ie X.env) (fun xv s₁=>wpAny X.M X.A (pyIter xv) K E s₁) E Z.s:=by
 cases hn with
 | rng hn hk =>
  obtain ⟨e1,e2⟩:=X.stat.range
  refine wpAny_Call_ofName (Name_function_global X.hE.kind ((X.hE.kinds _).trans hk) (loadGlobal_builtin (mg:=X.mg) (mb:=X.mb) (by rw [X.hE.glob]; exact X.stat.g.keeps S.W) e1 (by rw [X.hE.blt]; exact X.stat.b.keeps S.W) e2 ?_) (by decide +kernel))
  refine PySem.callWith_type (plain_args (.cons hn .nil) _ _) (args_ok (.cons hn .nil) S ?_)
  show RG X.F X.l RepAll Z _ E ((evE X.Φ n σ).bind fun v=>.ok [v])
  cases ev:evE X.Φ n σ with
  | stuck=>rw [ev] at h; exact h
  | exn t c=>rw [ev] at h; exact h
  | ok v =>
   rw [ev] at h
   intro Z₁ vs x₁ r₁
   have h:=RG.on x₁ h
   cases (show ConsR _ _ vs from r₁) with | mk ra rb =>
   cases (show _=[] from rb)
   cases RG.int ra h with | @mk N t h =>
   have h:=RG.lim h
   exact range_it h.1 fun I s₂ P St w=>hK _ Z₁ I _ s₂ P St (by rw [ev]; show lim (rgOk N) _=_; rw [h.1]; rfl) x₁ h.2 w
 | lst hn _ =>
  refine hn.v X σ Z _ E S (RG.step h fun a ev Z₁ v₁ x₁ r₁ h=>?_)
  cases a with
  | lst m=>exact list_it x₁.inn r₁ fun I fp s₂ P St w=>hK m Z₁ I fp s₂ P St (by rw [ev]; rfl) x₁ h w
  | _=>exact (show False from h).elim
 | str hn _ =>
  refine hn.v X σ Z _ E S (RG.step h fun a ev Z₁ v₁ x₁ r₁ h=>?_)
  cases a with
  | str m=>exact str_it r₁ fun I fp s₂ P St w=>hK _ Z₁ I fp s₂ P St (by rw [ev]; rfl) x₁ h w
  | _=>exact (show False from h).elim
end
end
end Mine
end
section
set_option tactic.hygienic false
open PySem PySem.Calls PyProof.Rows PySem.SeqAt PySem.W
namespace Mine
noncomputable def condB (cond:Option ME) (ρ:Env') (a:AV):R Bool:=(evO noCalls cond (.val a::ρ)).bind fun o=>match o with
 | none=>.ok true
 | some x=>asB x .ok
noncomputable def eltB (elt:Option ME) (ρ:Env') (a:AV):R AV:=eltR a (evO noCalls elt (.val a::ρ))
inductive CollR (t:AV→R Bool) (kk:AV→R AV):List AV→List AV→Prop
 | nil:CollR t kk [] []
 | drop {a:AV} {l out:List AV}:t a=.ok false→CollR t kk l out→CollR t kk (a::l) out
 | keep {a y:AV} {l out:List AV}:t a=.ok true→kk a=.ok y→CollR t kk l out→CollR t kk (a::l) (y::out)
theorem bind_ok {α β:Type} {f:α→R β} {y:β}:∀ {r:R α},r.bind f=.ok y→∃ x,r=.ok x∧f x=.ok y
 | .ok x,h=>⟨x,rfl,h⟩
theorem coll_of {cond elt:Option ME} {ρ:Env'}:∀ {l out:List AV},collect (fun v=>(evO noCalls cond (.val v::ρ)).bind fun o=>testO o (eltR v (evO noCalls elt (.val v::ρ)))) l=.ok out→CollR (condB cond ρ) (eltB elt ρ) l out
 | [],out,h=>by cases h; exact .nil
 | a::l,out,h=>by
  obtain ⟨o,h1,h2⟩:=bind_ok h
  obtain ⟨out',h3,h4⟩:=bind_ok h2
  obtain ⟨q,h5,h6⟩:=bind_ok h1
  have keep:condB cond ρ a=.ok true→((eltB elt ρ a).bind fun v=>R.ok (some v))=.ok o→CollR (condB cond ρ) (eltB elt ρ) (a::l) out:=fun h7 h8=>by
   obtain ⟨y,h9,h10⟩:=bind_ok h8
   cases h10
   cases h4
   exact .keep h7 h9 (coll_of h3)
  cases q with
  | none=>exact keep (by unfold condB; rw [h5]; rfl) h6
  | some x=>cases x with
   | bool b=>cases b with
    | true=>exact keep (by unfold condB; rw [h5]; rfl) h6
    | false=>cases h6; cases h4; exact .drop (by unfold condB; rw [h5]; rfl) (coll_of h3)
   | _=>cases h6
theorem CollR.each {t:AV→R Bool} {kk:AV→R AV} {l out:List AV} (h:CollR t kk l out):∀ a ∈ l,t a=.ok false∨(t a=.ok true∧∃ y,kk a=.ok y):=by
 induction h with
 | nil=>exact fun a ha=>nomatch ha
 | drop h1 _ ih=>exact List.forall_mem_cons.mpr ⟨.inl h1,ih⟩
 | keep h1 h2 _ ih=>exact List.forall_mem_cons.mpr ⟨.inr ⟨h1,_,h2⟩,ih⟩
theorem CollR.reps {G:GH} {t:AV→R Bool} {kk:AV→R AV} {p:Value→Bool} {F:Value→Value→Prop} (hp:∀ v a b,Rep G v a→t a=.ok b→p v=b) (hF:∀ v y a b,F v y→Rep G v a→kk a=.ok b→Rep G y b)
  {l out:List AV} (h:CollR t kk l out):∀ {vs ys:List Value},RepAll G vs l→Paired F (vs.filter p) ys→RepAll G ys out:=by
 induction h with
 | nil=>intro vs ys hr hP; cases (show vs=[] from hr); cases hP; exact rfl
 | drop h1 _ ih =>
  intro vs ys hr hP
  cases (show ConsR _ _ vs from hr) with | mk r1 r2 =>
  rw [List.filter_cons,hp _ _ _ r1 h1,if_neg (by decide)] at hP
  exact ih r2 hP
 | keep h1 h2 _ ih =>
  intro vs ys hr hP
  cases (show ConsR _ _ vs from hr) with | mk r1 r2 =>
  rw [List.filter_cons,hp _ _ _ r1 h1,if_pos rfl] at hP
  cases hP with | cons q1 q2=>exact .mk (hF _ _ _ _ q1 r1 h2) (ih r2 q2)
theorem closure_list (env:Env):∀ (n:List (Str × NameKind)) (cs:List (Str × Addr)),(∀ y,(y,NameKind.free) ∈ n→∃ c,env.cells.lookup y=some c) →
  ∃ cl,(do
   let r ← forIn n cs fun (x:Str × NameKind) (r:List (Str × Addr)) =>
      if (x.snd == NameKind.free)=true then do
       let a ← cellOf env x.fst
       pure (ForInStep.yield ((x.fst,a)::r))
      else (pure (ForInStep.yield r):Sem _)
   pure r)=(pure cl:Sem (List (Str × Addr)))∧∀ y,((y,NameKind.free) ∈ n∨cs.lookup y=env.cells.lookup y)→cl.lookup y=env.cells.lookup y
 | [],cs,_=>⟨cs,rfl,fun y h=>h.elim (fun h=>nomatch h) id⟩
 | (xn,xk)::n,cs,h=>by
  rw [List.forIn_cons]
  by_cases hk:xk=.free
  ·subst hk
   obtain ⟨c,hc⟩:=h xn (.head _)
   have e:cellOf env xn=pure c:=by unfold cellOf; rw [hc]
   obtain ⟨cl,e1,e2⟩:=closure_list env n ((xn,c)::cs) (fun y hy=>h y (.tail _ hy))
   refine ⟨cl,by rw [e]; exact e1,fun y hy=>e2 y ?_⟩
   by_cases q:y=xn
   ·exact .inr (by rw [q,List.lookup_cons,beq_self_eq_true]; exact hc.symm)
   ·refine hy.imp (fun hm=>?_) fun hm=>?_
    ·cases hm with
     | head=>exact absurd rfl q
     | tail _ z=>exact z
    ·rw [List.lookup_cons,beq_false_of_ne q]; exact hm
  ·obtain ⟨cl,e1,e2⟩:=closure_list env n cs (fun y hy=>h y (.tail _ hy))
   refine ⟨cl,?_,fun y hy=>e2 y (hy.imp (fun hm=>?_) id)⟩
   ·rw [show ((xn,xk).2 == NameKind.free)=false from beq_false_of_ne hk]; exact e1
   ·cases hm with
    | head=>exact absurd rfl hk
    | tail _ z=>exact z
theorem relabel_lookup (f:Str→NameKind→NameKind):∀ (names:List (Str × NameKind)) (y:Str),(names.map fun p=>(p.1,f p.1 p.2)).lookup y=(names.lookup y).map (f y)
 | [],y=>rfl
 | (n,k)::r,y=>by
  rw [List.map_cons,List.lookup_cons,List.lookup_cons]
  cases q:y == n with
  | true=>rw [eq_of_beq q]; rfl
  | false=>exact relabel_lookup f r y
theorem mem_of_lookup {β:Type}:∀ {l:List (Str × β)} {y:Str} {b:β},l.lookup y=some b→(y,b) ∈ l
 | (n,k)::r,y,b,h=>by
  rw [List.lookup_cons] at h
  cases q:y == n with
  | true=>rw [q] at h; cases h; rw [eq_of_beq q]; exact .head _
  | false=>rw [q] at h; exact .tail _ (mem_of_lookup h)
section
variable {C:CK} {scope:Scope} {x:Str} {fr:List Nat} {cl:List (Str × Addr)} {Ca:Addr} {env:Env}
theorem closure_ok (hE:EnvOk C env) (hs:ScOk C scope x fr):∃ cl,closureFor scope env=pure cl∧∀ y,(y,NameKind.free) ∈ scope.names→cl.lookup y=env.cells.lookup y:=by
 obtain ⟨cl,e1,e2⟩:=closure_list env scope.names [] fun y hy=>hE.cells y (hs.free _ hy rfl)
 exact ⟨cl,(congrArg (fun m=>m >>= pure) e1).trans rfl,fun y hy=>e2 y (.inl hy)⟩
theorem inner_kinds (hE:EnvOk C env) (y:Str):(compEnvC scope cl Ca env).kindOf y=(inner C scope x fr).kinds y:=by
 have e:(scope.names.map fun (n,k)=>if (k == NameKind.free && env.scope.kind == .function && env.kindOf n == some .cell)=true then (n,NameKind.cell) else (n,k)) =
   scope.names.map fun p=>(p.1,if (p.2 == NameKind.free && C.kinds p.1 == some .cell)=true then NameKind.cell else p.2):=by
  congr 1
  funext ⟨n,k⟩
  show (if (k == NameKind.free && env.scope.kind == .function && env.kindOf n == some .cell)=true then (n,NameKind.cell) else (n,k))=(n,if (k == NameKind.free && C.kinds n == some .cell)=true then NameKind.cell else k)
  rw [hE.kind,hE.kinds,show (ScopeKind.function == ScopeKind.function)=true from rfl,Bool.and_true]
  split <;> rfl
 show List.lookup y (List.map _ _)=_
 rw [e]
 exact relabel_lookup (fun n k=>if (k == NameKind.free && C.kinds n == some .cell)=true then NameKind.cell else k) scope.names y
theorem inner_Env (hE:EnvOk C env) (hs:ScOk C scope x fr) (hcl:∀ y,(y,NameKind.free) ∈ scope.names→cl.lookup y=env.cells.lookup y):EnvOk (inner C scope x fr) (compEnvC scope cl Ca env):=by
 refine ⟨hs.kind,hE.glob,hE.blt,inner_kinds hE,fun y hy=>?_⟩
 obtain ⟨k,hk,hq⟩:=Option.map_eq_some_iff.mp hy
 have hm:=mem_of_lookup hk
 cases hc:(k == .free && C.kinds y == some .cell) with
 | true =>
  have h2:=and2 hc
  cases eq_of_beq h2.1
  show ∃ c,cl.lookup y=some c
  rw [hcl y hm]
  exact hE.cells y (eq_of_beq h2.2)
 | false =>
  rw [hc,if_neg (by decide)] at hq
  exact absurd hq (hs.cell _ hm)
theorem frees_get {σ:Env'}:∀ {fr:List Nat} {ρ:Env'},frees σ fr=some ρ→∀ (j:Nat) (sv:SV),ρ[j]?=some sv→∃ i v,fr[j]?=some i∧sv=.val v∧σ[i]?=some (.val v)
 | [],ρ,h,j,sv,hj=>by cases h; cases hj
 | i::fr,ρ,h,j,sv,hj=>by
  unfold frees at h
  cases e:σ[i]? with
  | none=>rw [e] at h; cases h
  | some u=>cases u with
   | val v =>
    rw [e] at h
    obtain ⟨ρ',h1,rfl⟩:=Option.map_eq_some_iff.mp h
    cases j with
    | zero=>cases hj; exact ⟨i,v,rfl,rfl,e⟩
    | succ j=>exact frees_get h1 j sv hj
   | _=>rw [e] at h; cases h
variable {X:WX C} {Z:ZS} {σ ρ:Env'}
noncomputable def WX.inn (X:WX C) (h:EnvOk (inner C scope x fr) (compEnvC scope cl Ca X.env)):WX (inner C scope x fr) :=
 ⟨X.prog,X.w,X.W0,X.mg,X.mb,X.A,X.l,noF,X.k,noCalls,compEnvC scope cl Ca X.env,X.stat,X.frames,X.handled,X.room,fun _ _ _ h=>h,h,fun _ _ _ _ _ _ _ _ _ _ _ h=>h.elim⟩
theorem inner_St (hs:ScOk C scope x fr) (hcl:∀ y,(y,NameKind.free) ∈ scope.names→cl.lookup y=X.env.cells.lookup y) {m:Str→Option Value} {v:Value} {a:AV} {s:Shared}
  (S:St X Z σ) (hf:frees σ fr=some ρ) (keep:∀ b o,Z.s.heap.get? b=some o→s.heap.get? b=some o) (hn:s.heap.Ns Ca m) (hm:m x=some v) (hv:Rep Z.G v a) :
  St (X.inn (Ca:=Ca) (inner_Env X.hE hs hcl)) ⟨Z.G,s⟩ (.val a::ρ):=by
 refine ⟨fun b o e=>keep b o (S.inG b o e),fun b o e=>keep b o (S.W b o e),S.fr.slots fun b o e=>⟨o.slots,keep b o e⟩,S.gfr,fun i sv y hi hy=>?_⟩
 have hk:=inner_kinds (scope:=scope) (x:=x) (fr:=fr) (cl:=cl) (Ca:=Ca) X.hE
 cases i with
 | zero =>
  cases hi
  cases (show some x=some y from hy)
  exact .val (.loc (m:=m) (by rw [show (X.inn (Ca:=Ca) (inner_Env X.hE hs hcl)).env.kindOf x=_ from hk x]; show Option.map _ (scope.names.lookup x)=_; rw [hs.here]; rfl) hn hm) hv
 | succ j =>
  obtain ⟨i,u,f1,rfl,f3⟩:=frees_get hf j sv hi
  obtain ⟨z,z1,z2,z3⟩:=hs.fr i (List.mem_of_getElem? f1)
  have hy : (fr.map fun i => (C.N[i]?).getD ("?" : Str))[j]? = some y := hy
  rw [List.getElem?_map,f1] at hy
  have hy : some ((C.N[i]?).getD ("?" : Str)) = some y := hy
  rw [z1] at hy
  cases (show some z=some y from hy)
  cases S.slots i _ y f3 z1 with | val hL hr =>
  refine .val ?_ hr
  cases hL with
  | loc g1 g2 g3=>rw [X.hE.kinds,z2] at g1; cases g1
  | cell g1 g2 g3 =>
   refine .cell ?_ ?_ (isCell_slots g3 fun b o e=>⟨o.slots,keep b o e⟩)
   ·rw [show (X.inn (Ca:=Ca) (inner_Env X.hE hs hcl)).env.kindOf y=_ from hk y]
    show Option.map _ (scope.names.lookup y)=_
    rw [z3]
    show some (if (NameKind.free == NameKind.free && C.kinds y == some .cell)=true then NameKind.cell else NameKind.free)=_
    rw [z2]; rfl
   ·exact (hcl _ (mem_of_lookup z3)).trans g2
inductive IfE (C:CK):Option ME→List Expr→Prop
 | none:IfE C none []
 | some {m:ME} {e:Expr}:EB C m e→IfE C (some m) [e]
inductive ElE (C:CK) (x:Str):Option ME→Expr→Prop
 | own {p:Pos}:ElE C x none (.Name x p)
 | val {m:ME} {e:Expr}:EB C m e→ElE C x (some m) e
theorem Stp.noF {Z Z':ZS} (e:Stp noF Z Z'):Keeps Z.s Z'.s:=⟨_,_,e.sh,fun b o q=>e.ext.keep b o q fun h=>h⟩
theorem comp_test {C:CK} {X:WX C} {Z:ZS} {cond:Option ME} {ifs:List Expr} {a:AV} {b:Bool} {E:Value→Shared→Prop} (hF:X.F=noF) (hΦ:X.Φ=noCalls) (hi:IfE C cond ifs) (S:St X Z (.val a::ρ)) (ht:condB cond ρ a=.ok b) :
  wpAny X.M X.A (forIn ifs true fun c r=>if r=true then do let ok ← isTrue c X.env (eval c X.env); pure (ForInStep.yield ok) else pure (ForInStep.yield r)) (fun ok s₄=>ok=b∧Keeps Z.s s₄) E Z.s:=by
 cases hi with
 | none=>cases ht; exact wpAny_tests_nil ⟨rfl,Z.s.heap,Z.s.toks,rfl,fun _ _ e=>e⟩
 | @some m e hm =>
  refine wpAny_tests_one (hm.t X _ Z _ E S ?_)
  have ht:(((evE noCalls m (.val a::ρ)).bind fun v=>.ok (some v)).bind _)=R.ok b:=ht
  obtain ⟨o,h1,h2⟩:=bind_ok ht
  obtain ⟨v,h3,h4⟩:=bind_ok h1
  cases h4
  unfold evT
  rw [hΦ,h3]
  show RG X.F X.l isB Z _ E (asB v .ok)
  rw [show asB v .ok=R.ok b from h2]
  exact fun Z' r e hr=>⟨hr,Stp.noF (hF ▸ e)⟩
theorem rep_scal {G G':GH} {r:Value} {y:AV} (h:Rep G r y) (hy:y.scalar=true):Rep G' r y:=by
 cases y with
 | tup _=>cases hy
 | lst _=>cases hy
 | _=>exact h
theorem comp_elt {C : CK} {X : WX C} {Z : ZS} {elt : Option ME} {ee : Expr} {a y : AV} {m : Str → Option Value} {v : Value} {E : Value → Shared → Prop} (hF : X.F = noF) (hΦ : X.Φ = noCalls) (hi : ElE C x elt ee) (hd : (x == ("__debug__" : Str)) = false) (S : St X Z (.val a :: ρ)) (hv : Rep Z.G v a)
  (hk:X.env.kindOf x=some .local) (hn:Z.s.heap.Ns X.env.locals m) (hm:m x=some v) (hy:eltB elt ρ a=.ok y):wpAny X.M X.A (eval ee X.env) (fun r s₄=>Rep Z.G r y∧Keeps Z.s s₄) E Z.s:=by
 cases hi with
 | own=>cases hy; exact wpAny_Name (wpAny_loadName_local X.hE.kind hk hn hm ⟨hv,Z.s.heap,Z.s.toks,rfl,fun _ _ e=>e⟩) hd
 | @val m e hme =>
  refine hme.v X _ Z _ E S ?_
  have hy:eltR a ((evE noCalls m (.val a::ρ)).bind fun v=>.ok (some v))=.ok y:=hy
  cases e:evE noCalls m (.val a::ρ) with
  | ok u =>
   rw [e] at hy
   have hy:lim u.scalar (.ok u)=.ok y:=hy
   cases hs:u.scalar with
   | false=>rw [hs] at hy; cases hy
   | true =>
    rw [hs] at hy
    cases hy
    rw [hΦ,e]
    exact fun Z' r e hr=>⟨rep_scal hr hs,Stp.noF (hF ▸ e)⟩
  | _=>rw [e] at hy; cases hy
theorem comp_end {F:Addr→Prop} {s₂:Shared} {out:List AV} {Q:Value→Shared→Prop} {D:Addr} {h':Heap} {tk:Tok} {ys:Array Value} {I:Addr} {Z:ZS} (hG:Z.G.In Z.s.heap) (hq:VP F Z (.lst out) Q) (hlen:out.length≤lLine)
  (hn:Z.s.heap.get? I=none) (hk:∀ b o,Z.s.heap.get? b=some o→s₂.heap.get? b=some o) (hD:s₂.heap.get? D=none) (hpl:h'.PlainList D ys) (hr:RepAll Z.G ys.toList out) (hkeep:∀ b o,b ∉ [I]→s₂.heap.get? b=some o→h'.get? b=some o) :
  Q (.ref D) { Z.s with heap:=h',toks:=tk }:=by
 obtain ⟨n,hn'⟩:=hpl
 have ne:∀ {b o},Z.s.heap.get? b=some o→b ∉ [I]:=fun e z=>by rw [List.mem_singleton.mp z,hn] at e; cases e
 have hD':Z.s.heap.get? D=none:=match e:Z.s.heap.get? D with
  | none=>rfl
  | some o=>absurd (hD.symm.trans (hk D o e)) (fun z=>nomatch z)
 have e : Ext F Z.G Z.s.heap (Z.G.add D { cls := .type "list", data := .seq ys n }) h' := .add hG (fun b o e => hkeep b o (ne e) (hk b o e)) hD' hn'
 exact hq (Z.up _ h' tk) _ ⟨e,rfl⟩ ⟨.mk (n:=n) (ws:=ys.toList) (GH.add_self ..) rfl (by rw [Array.toArray_toList]) (reps_mono e.le _ _ hr),hlen⟩
open Classical in
theorem ok_comp {k : IK} {n : ME} {elt cond : Option ME} {px pos : Pos} {ie ee : Expr} {ifs : List Expr} (hs : scopeOk C scope x fr = true) (hd : (x == ("__debug__" : Str)) = false) (hi : ItE C n k ie) (hc : IfE (inner C scope x fr) cond ifs) (he : ElE (inner C scope x fr) x elt ee) :
  EB C (.comp fr k n elt cond) (.ListComp ee [⟨.Name x px,ie,ifs,0⟩] scope pos) :=
 t_plain (fun X σ Z Q E S h=>by
  have hs:=scope_ok hs
  obtain ⟨cl,hcl1,hcl⟩:=closure_ok X.hE hs
  rw [eval_ListComp]
  refine wpAny_comprehension_free (use:=none) rfl (fun v=>hi.folded X.env v) hcl1 hs.kind hs.loc (wpAny_mono (iter_ok hi S h fun m Z₁ I fp s₂ P St' _ x₁ h w=>?_) (fun xv s₁ h₁=>h₁) fun _ _ e=>e)
  obtain ⟨ρ,hf,h⟩:=RG.some h
  cases hco:collect (fun v=>(evO noCalls cond (.val v::ρ)).bind fun o=>testO o (eltR v (evO noCalls elt (.val v::ρ)))) m with
  | exn t c=>rw [hco] at h; exact (show False from h).elim
  | stuck=>rw [hco] at h; exact (show False from h).elim
  | ok out =>
   rw [hco] at h
   have h:RV X Z₁ Q E (lim (decide (out.length≤lLine)) (.ok (.lst out))):=h
   have h:=RG.lim h
   have co:=coll_of hco
   have S₁:=S.on x₁
   have dt:∀ (v:Value) (a:AV) (b:Bool),Rep Z₁.G v a→condB cond ρ a=.ok b→decide (∃ a,Rep Z₁.G v a∧condB cond ρ a=.ok true)=b:=fun v a b hv hb=>by
    cases b with
    | true=>exact decide_eq_true ⟨a,hv,hb⟩
    | false=>exact decide_eq_false fun ⟨a',ha',hb'⟩=>by rw [rep_det _ _ hv _ ha',hb'] at hb; cases hb
   have inn:∀ {Ca:Addr} {v:Value} {a:AV} {s₃:Shared} {m₃:Str→Option Value},Rep Z₁.G v a→s₃.heap.Ns Ca m₃→m₃ x=some v→(∀ b o,b ∉ [I]→s₂.heap.get? b=some o→s₃.heap.get? b=some o)→St (X.inn (Ca:=Ca) (inner_Env X.hE hs hcl)) ⟨Z₁.G,s₃⟩ (.val a::ρ):=fun hv hn hm hkk =>
    inner_St hs hcl S₁ hf (fun b o e=>hkk b o (fun z=>by rw [List.mem_singleton.mp z,w.new] at e; cases e) (w.keep b o e)) hn hm hv
   refine comp_block_walkC (RR:=fun acc C=>compPost X.M X.A E none Q acc C) w.W w.small (fun v=>decide (∃ a,Rep Z₁.G v a∧condB cond ρ a=.ok true)) (fun v y=>∀ a b,Rep Z₁.G v a→eltB elt ρ a=.ok b→Rep Z₁.G y b) hs.cell hs.kind hs.here w.st w.fpl ⟨?_,?_⟩ ?_
   ·intro Ca i v s₃ m₃ E' hCa hPv hn hm hkk _
    obtain ⟨a,ha,hv⟩:=w.hP i v hPv
    have hb:∃ b,condB cond ρ a=.ok b:=(co.each a (List.mem_of_getElem? ha)).elim (fun h=>⟨_,h⟩) fun h=>⟨_,h.1⟩
    obtain ⟨b,hb⟩:=hb
    rw [dt v a b hv hb]
    exact comp_test (E:=E') rfl rfl hc (inn hv hn hm hkk) hb
   ·intro Ca i v s₃ m₃ E' hCa hPv hpv hn hm hkk _
    obtain ⟨a,ha,hv⟩:=w.hP i v hPv
    rcases co.each a (List.mem_of_getElem? ha) with hb | ⟨hb,y,hy⟩
    ·rw [dt v a _ hv hb] at hpv; cases hpv
    ·refine wpAny_mono (comp_elt (E:=E') (m:=m₃) (v:=v) rfl rfl he hd (inn hv hn hm hkk) hv ?_ hn hm hy) (fun r s₄ h₄=>⟨fun a' b hr hb=>?_,h₄.2⟩) fun _ _ e=>e
     ·rw [show (X.inn (Ca:=Ca) (inner_Env X.hE hs hcl)).env.kindOf x=_ from inner_kinds (x:=x) (fr:=fr) X.hE x]
      show Option.map _ (scope.names.lookup x)=_
      rw [hs.here]; rfl
     ·rw [← rep_det _ _ hv _ hr,hy] at hb
      cases hb
      exact h₄.1
   ·intro D Ca h' tk m' ys vs hD hCa hDC hn hl hpl hlen hP hF hk
    refine ⟨m',hn,fun h'' hs''=>?_⟩
    rw [w.sh]
    exact comp_end x₁.inn h.2 (of_decide_eq_true h.1) w.new w.keep hD (hpl.extBut hs''.extBut hDC) (co.reps dt (fun v y a b q hv hb=>q a b hv hb) (RepAll.of_get hlen fun j v hj=>w.hP j v (hP j v hj)) hF)
     fun b o hbf e=>hs''.extBut b o (by rintro rfl; rw [hCa] at e; cases e) (hk b o hbf e)) (fun _ _=>rfl) fun _ _=>rfl
end
end Mine
end
section
set_option tactic.hygienic false
open PySem PySem.Calls PyProof.Rows PySem.SeqAt PySem.W
namespace Mine
inductive Lead (env:Env) (m:Str→Option Value) (h:Heap) (x:Str) (w:Value):Prop
 | loc:env.kindOf x=some .local→m x=some w→Lead env m h x w
 | cell {c:Addr}:env.kindOf x=some .cell→env.cells.lookup x=some c→h.IsCell c (some w)→Lead env m h x w
noncomputable def SV.isOwn (s:SV):Bool:=match s with
 | .ol _=>true
 | .sl _=>true
 | .od _=>true
 | _=>false
noncomputable def SV.isD (s:SV):Bool:=match s with
 | .od _=>true
 | _=>false
def DictO (prog:Program) (w:World) (kvs:List (Int × Value)) (o:Obj):Prop :=
 ∃ es ep,o.ExactDict∧o.data=.dict es ep∧KeysOf (intKind prog w) es∧Pairs (intKind prog w) es.toList kvs∧(kvs.map (·.1)).Nodup
theorem DictO.of {prog:Program} {w:World} {kvs:List (Int × Value)} {o:Obj} {h:Heap} {a:Addr} (x:DictO prog w kvs o) (ho:h.get? a=some o):h.DictOf (intKind prog w) a kvs:=by
 obtain ⟨es,ep,r⟩:=x
 exact ⟨o,es,ep,ho,r⟩
inductive OwnO (prog:Program) (w:World) (G:GH):SV→Obj→Prop
 | ol {l:List AV} {ws:List Value} {n:Nat}:RepAll G ws l→l.length≤lLine→OwnO prog w G (.ol l) (ownList ws n)
 | sl {l : List AV} {ws : List Value} {n : Nat} {o : Obj} : o.cls = .type "list" → o.data = .seq ws.toArray n → RepAll G ws l → l.length ≤ lLine → OwnO prog w G (.sl l) o
 | od {l:List (Int × Int)} {kvs:List (Int × Value)} {o:Obj}:DictO prog w kvs o→pairsAre kvs l→l.length≤lLine→OwnO prog w G (.od l) o
theorem OwnO.mono {prog:Program} {w:World} {G G':GH} {sv:SV} {o:Obj} (le:∀ a o,G a=some o→G' a=some o) (x:OwnO prog w G sv o):OwnO prog w G' sv o:=by
 cases x with
 | ol a b=>exact .ol (reps_mono le _ _ a) b
 | sl a b c d=>exact .sl a b (reps_mono le _ _ c) d
 | od a b c=>exact .od a b c
theorem OwnO.own {prog:Program} {w:World} {G:GH} {sv:SV} {o:Obj} (x:OwnO prog w G sv o):sv.isOwn=true:=by cases x <;> rfl
inductive FSlot (prog:Program) (w:World) (env:Env) (F:Addr→Prop) (h0:Heap) (m:Str→Option Value) (G:GH) (h:Heap) (x:Str) (a:Addr):SV→Prop
 | u:FSlot prog w env F h0 m G h x a .u
 | val {v:AV} {r:Value}:Lead env m h x r→Rep G r v→FSlot prog w env F h0 m G h x a (.val v)
 | own {sv:SV} {o:Obj}:Lead env m h x (.ref a)→h.get? a=some o→OwnO prog w G sv o→(sv.isD=true→(a == sysModules)=false)→FSlot prog w env F h0 m G h x a sv
 | rd {l:List (Int × Int)} {kvs:List (Int × Value)} {o o':Obj}:Lead env m h x (.ref a)→h0.get? a=some o'→¬ F a→h.get? a=some o→DictO prog w kvs o→pairsAre kvs l→(a == sysModules)=false→FSlot prog w env F h0 m G h x a (.rd l)
def Mu (P G:GH) (h0:Heap) (a:Addr):Prop:=G a=none∧P a=none∧h0.get? a=none
def NotFr (env:Env) (a:Addr):Prop:=a≠env.locals∧∀ x c,env.cells.lookup x=some c→a≠c
structure FX (C:CK) where
 X:WX C
 outer:List Env
 Z0:ZS
 hl:X.l=X.env::outer
 hF:∀ b,X.F b ↔ FrS X.l b
 frame:X.env.frame=some X.env.locals
 W:X.W0.StaysIn Z0.s.heap
 fr0:FrOK Z0.s.heap outer
 gfr0:GFr Z0.G outer
 Wn0:∀ b o,X.W0.get? b=some o→¬ FrS outer b
 one:∀ x y c,X.env.cells.lookup x=some c→X.env.cells.lookup y=some c→x=y
 names:C.N.Nodup
abbrev FX.env {C:CK} (Y:FX C):Env:=Y.X.env
abbrev FX.h0 {C:CK} (Y:FX C):Heap:=Y.Z0.s.heap
abbrev FSl {C:CK} (Y:FX C):(Str→Option Value)→GH→Heap→Str→Addr→SV→Prop:=FSlot Y.X.prog Y.X.w Y.X.env Y.X.F Y.Z0.s.heap
structure FRow {C:CK} (Y:FX C) (P G:GH) (h:Heap) (m:Str→Option Value) (α:Nat→Addr) (σ:Env'):Prop where
 ns:h.Ns Y.env.locals m
 mu:Mu P G Y.h0 Y.env.locals
 cells:∀ x c,Y.env.cells.lookup x=some c→(∃ v,h.IsCell c v)∧Mu P G Y.h0 c∧c≠Y.env.locals
 slot:∀ (i:Nat) (sv:SV) (x:Str),σ[i]?=some sv→C.N[i]?=some x→FSl Y m G h x (α i) sv
 own:∀ (i:Nat) (sv:SV),σ[i]?=some sv→sv.isOwn=true→Mu P G Y.h0 (α i)∧NotFr Y.env (α i)∧∃ o,h.get? (α i)=some o
 apart:∀ (i j:Nat) (a b:SV),σ[i]?=some a→σ[j]?=some b→a.isOwn=true→b.isOwn=true→α i=α j→i=j
structure FS {C:CK} (Y:FX C) (GL P:GH) (Z:ZS) (σ:Env'):Prop where
 ext:Ext (FrS Y.outer) Y.Z0.G Y.h0 Z.G Z.s.heap
 low:∀ a o,GL a=some o→Z.G a=some o
 prot:P.In Z.s.heap
 disj:∀ a o,P a=some o→Z.G a=none
 pnew:∀ a o,P a=some o→Y.h0.get? a=none
 row:∃ m α,FRow Y P Z.G Z.s.heap m α σ
 sh:Z.s={ Y.Z0.s with heap:=Z.s.heap,toks:=Z.s.toks }
section
variable {C:CK} {Y:FX C} {GL P G G':GH} {Z Z':ZS} {σ:Env'} {m:Str→Option Value} {α:Nat→Addr} {h h':Heap} {F:Addr→Prop}
theorem Mu.ext {h0:Heap} {a:Addr} {o:Obj} (x:Mu P G h0 a) (e:Ext F G h G' h') (ho:h.get? a=some o):Mu P G' h0 a:=⟨e.nope x.1 ho,x.2⟩
theorem Lead.keep {env:Env} {x:Str} {r:Value} (a:Lead env m h x r) (k:∀ b o,h.get? b=some o→∃ sl,h'.get? b=some { o with slots:=sl }):Lead env m h' x r:=by
 cases a with
 | loc h1 h2=>exact .loc h1 h2
 | cell h1 h2 h3=>exact .cell h1 h2 (isCell_slots h3 k)
theorem Lead.leads {env:Env} {x:Str} {r:Value} (a:Lead env m h x r) (hn:h.Ns env.locals m):Leads env h x r:=by
 cases a with
 | loc h1 h2=>exact .loc h1 hn h2
 | cell h1 h2 h3=>exact .cell h1 h2 h3
theorem FSlot.turn {prog:Program} {w:World} {env:Env} {h0:Heap} {m':Str→Option Value} {x:Str} {a:Addr} {sv:SV} (z:FSlot prog w env F h0 m G h x a sv) (hl:∀ r,Lead env m h x r→Lead env m' h' x r) (le:∀ a o,G a=some o→G' a=some o)
  (hk:∀ o,h.get? a=some o→(sv.isOwn=true∨(¬ F a∧∃ o',h0.get? a=some o'))→h'.get? a=some o):FSlot prog w env F h0 m' G' h' x a sv:=by
 cases z with
 | u=>exact .u
 | val h1 h2=>exact .val (hl _ h1) (rep_mono le _ _ h2)
 | own h1 h2 h3 h4=>exact .own (hl _ h1) (hk _ h2 (.inl h3.own)) (h3.mono le) h4
 | rd h1 h2 h3 h4 h5 h6 h7=>exact .rd (hl _ h1) h2 h3 (hk _ h4 (.inr ⟨h3,_,h2⟩)) h5 h6 h7
theorem Ns_get {a:Addr} (hn:h.Ns a m):∃ o es n,h.get? a=some o∧o.data=.dict es n:=⟨_,_,_,hn.choose_spec.choose_spec.choose_spec.1,hn.choose_spec.choose_spec.choose_spec.2.1⟩
theorem FX.FrS_iff (Y:FX C) (b:Addr):Y.X.F b ↔ b=Y.env.locals∨FrS Y.outer b:=by
 rw [Y.hF]
 unfold FrS
 rw [Y.hl,List.filterMap_cons,Y.frame]
 exact List.mem_cons
theorem FX.frS_new (Y:FX C) {b:Addr} (hn:Y.h0.get? b=none):¬ FrS Y.outer b:=fun hm=>by
 obtain ⟨e,he,hf⟩:=List.mem_filterMap.mp hm
 cases Y.fr0 e he with | mk q1 q2 q3 q4=>cases q2.symm.trans hf; rw [hn] at q3; cases q3
theorem FX.noF (Y:FX C) {a:Addr} (hn:Y.h0.get? a=none) (hl:a≠Y.env.locals):¬ Y.X.F a:=fun hm=>((Y.FrS_iff a).mp hm).elim hl (Y.frS_new hn)
theorem FX.tail (Y:FX C) {b:Addr} (h:FrS Y.outer b):Y.X.F b:=(Y.FrS_iff b).mpr (.inr h)
theorem FX.old (Y:FX C) {b:Addr} {o:Obj} (hb:Y.h0.get? b=some o) (hl:Y.h0.get? Y.env.locals=none) (hn:¬ FrS Y.outer b):¬ Y.X.F b:=fun hm =>
 ((Y.FrS_iff b).mp hm).elim (fun e=>by rw [e,hl] at hb; cases hb) hn
theorem FRow.ext (R:FRow Y P G h m α σ) (e:Ext Y.X.F G h G' h'):FRow Y P G' h' m α σ:=by
 obtain ⟨oL,_,_,hL,_⟩:=Ns_get R.ns
 refine ⟨Heap.UpToSlots.ns (fun b o e' _=>e.slots b o e') R.ns,R.mu.ext e hL,fun x c hc=>?_,fun i sv x h1 h2=>(R.slot i sv x h1 h2).turn (fun r hr=>hr.keep e.slots) e.le fun o ho hz=>e.keep _ _ ho (hz.elim (fun hz=>Y.noF (R.own i sv h1 hz).1.2.2 (R.own i sv h1 hz).2.1.1) And.left),fun i sv h1 h2=>?_,R.apart⟩
 ·have q:=R.cells x c hc
  exact ⟨⟨_,isCell_slots q.1.choose_spec e.slots⟩,q.2.1.ext e q.1.choose_spec.choose_spec.1,q.2.2⟩
 ·have q:=R.own i sv h1 h2
  exact ⟨q.1.ext e q.2.2.choose_spec,q.2.1,e.has q.2.2.choose_spec⟩
theorem FS.h0L (S:FS Y GL P Z σ):Y.h0.get? Y.env.locals=none:=S.row.choose_spec.choose_spec.mu.2.2
theorem FS.step (S:FS Y GL P Z σ) (e:Stp Y.X.F Z Z'):FS Y GL P Z' σ:=by
 obtain ⟨m,α,R⟩:=id S.row
 refine ⟨⟨fun a o q=>e.ext.le a o (S.ext.le a o q),fun a o q=>(e.ext.new a o q).elim (S.ext.new a o) fun z=>.inr (S.ext.old z),fun b o q n=>e.ext.keep b o (S.ext.keep b o q n) (Y.old q S.h0L n),fun b o q=>⟨_,(e.ext.slots b _ (S.ext.slots b o q).choose_spec).choose_spec⟩,e.inn⟩,
  fun a o q=>e.ext.le a o (S.low a o q),fun a o q=>e.ext.keep a o (S.prot a o q) (Y.noF (S.pnew a o q) fun z=>by subst z; rw [R.mu.2.1] at q; cases q),fun a o q=>e.ext.nope (S.disj a o q) (S.prot a o q),S.pnew,⟨m,α,R.ext e.ext⟩,e.sh.trans (by rw [S.sh])⟩
theorem FS.frOK (S:FS Y GL P Z σ):FrOK Z.s.heap Y.X.l:=by
 obtain ⟨m,α,R⟩:=S.row
 rw [Y.hl]
 refine List.forall_mem_cons.mpr ⟨?_,Y.fr0.slots S.ext.slots⟩
 obtain ⟨o,es,n,ho,hd⟩:=Ns_get R.ns
 exact .mk (by rw [Y.X.hE.kind]; exact fun h=>nomatch h) Y.frame ho hd
theorem FS.gfr (S:FS Y GL P Z σ):GFr Z.G Y.X.l:=by
 obtain ⟨m,α,R⟩:=S.row
 rw [Y.hl]
 refine List.forall_mem_cons.mpr ⟨fun a hf=>?_,fun e he a hf=>?_⟩
 ·cases Y.frame.symm.trans hf; exact R.mu.1
 ·cases Y.fr0 e he with | mk q1 q2 q3 q4=>cases q2.symm.trans hf; exact S.ext.nope (Y.gfr0 e he _ q2) q3
theorem FS.st (S:FS Y GL P Z σ):St Y.X Z σ:=by
 have hfr:=S.frOK
 have hg:=S.gfr
 obtain ⟨m,α,R⟩:=id S.row
 refine ⟨S.ext.inn,fun b o e=>S.ext.keep b o (Y.W b o e) (Y.Wn0 b o e),hfr,hg,fun i sv x h1 h2=>?_⟩
 cases R.slot i sv x h1 h2 with
 | u=>exact .u
 | val g1 g2=>exact .val (g1.leads R.ns) g2
 | own g1 g2 g3 g4=>cases g3 with
  | ol=>exact .ol
  | sl=>exact .sl
  | od k1 k2 k3=>exact .od (g1.leads R.ns) (.mk (k1.of g2) k2 (Y.noF (R.own i _ h1 rfl).1.2.2 (R.own i _ h1 rfl).2.1.1) (g4 rfl))
 | rd g1 g2 g3 g4 g5 g6 g7=>exact .rd (g1.leads R.ns) (.mk (g5.of g4) g6 g3 g7)
theorem FS.but {b:Addr} (S:FS Y GL P Z σ) (hb:Mu P Z.G Y.h0 b) (hk:∀ c o,c≠b→Z.s.heap.get? c=some o→h'.get? c=some o):Ext (FrS Y.outer) Y.Z0.G Y.h0 Z.G h'∧P.In h' :=
 ⟨⟨S.ext.le,S.ext.new,fun c o e n=>hk c o (fun q=>by rw [q,hb.2.2] at e; cases e) (S.ext.keep c o e n),fun c o e=>⟨_,hk c _ (fun q=>by rw [q,hb.2.2] at e; cases e) (S.ext.slots c o e).choose_spec⟩,fun c o e=>hk c o (fun q=>by rw [q,hb.1] at e; cases e) (S.ext.inn c o e)⟩,
  fun c o e=>hk c o (fun q=>by rw [q,hb.2.1] at e; cases e) (S.prot c o e)⟩
noncomputable def storable (C:CK) (x:Str):Bool:=C.kinds x == some .local || C.kinds x == some .cell
theorem set_get {i j:Nat} {sv z:SV} (h:(σ.set i sv)[j]?=some z):(j=i∧z=sv)∨(j≠i∧σ[j]?=some z):=by
 rw [List.getElem?_set] at h
 by_cases q:i=j
 ·rw [if_pos q] at h
  split at h
  ·cases h; exact .inl ⟨q.symm,rfl⟩
  ·cases h
 ·rw [if_neg q] at h; exact .inr ⟨fun e=>q e.symm,h⟩
theorem nodup_get {l:List Str} (hn:l.Nodup) {i j:Nat} {x:Str} (h1:l[i]?=some x) (h2:l[j]?=some x):i=j :=
 (List.getElem?_inj (List.getElem?_eq_some_iff.mp h1).1 hn).mp (h1.trans h2.symm)
theorem FRow.put {i:Nat} {sv:SV} {a b:Addr} {m':Str→Option Value} (R:FRow Y P G h m α σ) (hk:∀ c o,c≠b→h.get? c=some o→h'.get? c=some o) (hn:h'.Ns Y.env.locals m') (h0b:Y.h0.get? b=none)
  (hc:∀ y c,Y.env.cells.lookup y=some c→∃ v,h'.IsCell c v) (hb:∀ j z,j≠i→σ[j]?=some z→z.isOwn=true→α j≠b∧α j≠a)
  (ho:∀ j y z,j≠i→C.N[j]?=some y→Lead Y.env m h y z→Lead Y.env m' h' y z) (hnew:∀ x,C.N[i]?=some x→FSl Y m' G h' x a sv) (hown:sv.isOwn=true→Mu P G Y.h0 a∧NotFr Y.env a∧∃ o,h'.get? a=some o) :
  FRow Y P G h' m' (fun j=>if j=i then a else α j) (σ.set i sv):=by
 refine ⟨hn,R.mu,fun y c hy=>⟨hc y c hy,(R.cells y c hy).2⟩,fun j z y hj hy=>?_,fun j z hj hz=>?_,fun j j' z z' hj hj' hz hz' e=>?_⟩
 ·rcases set_get hj with ⟨rfl,rfl⟩ | ⟨hne,hj⟩
  ·rw [if_pos rfl]; exact hnew y hy
  ·rw [if_neg hne]
   have nb:(z.isOwn=true∨(¬ Y.X.F (α j)∧∃ o',Y.h0.get? (α j)=some o'))→α j≠b:=fun hz=>hz.elim (fun hz=>(hb j z hne hj hz).1) fun hz q=>Option.some_ne_none _ (hz.2.choose_spec.symm.trans ((congrArg Y.h0.get? q).trans h0b))
   exact FSlot.turn (G':=G) (R.slot j z y hj hy) (fun r=>ho j y r hne hy) (fun _ _ e=>e) fun o e hz=>hk _ o (nb hz) e
 ·rcases set_get hj with ⟨rfl,rfl⟩ | ⟨hne,hj⟩
  ·rw [if_pos rfl]; exact hown hz
  ·rw [if_neg hne]
   have q:=R.own j z hj hz
   exact ⟨q.1,q.2.1,_,hk _ _ (hb j z hne hj hz).1 q.2.2.choose_spec⟩
 ·rcases set_get hj with ⟨rfl,rfl⟩ | ⟨hne,kj⟩ <;> rcases set_get hj' with ⟨rfl,rfl⟩ | ⟨hne',kj'⟩
  ·rfl
  ·rw [if_pos rfl,if_neg hne'] at e; exact absurd e.symm (hb j' z' hne' kj' hz').2
  ·rw [if_pos rfl,if_neg hne] at e; exact absurd e (hb j z hne kj hz).2
  ·rw [if_neg hne,if_neg hne'] at e; exact R.apart j j' z z' kj kj' hz hz' e
theorem FS.put {i:Nat} {sv:SV} {a b:Addr} {m':Str→Option Value} {t:Tok} (S:FS Y GL P Z σ) (R:FRow Y P Z.G Z.s.heap m α σ) (hmu:Mu P Z.G Y.h0 b) (hk:∀ c o,c≠b→Z.s.heap.get? c=some o→h'.get? c=some o) (hn:h'.Ns Y.env.locals m')
  (hc:∀ y c,Y.env.cells.lookup y=some c→∃ v,h'.IsCell c v) (hb:∀ j z,j≠i→σ[j]?=some z→z.isOwn=true→α j≠b∧α j≠a)
  (ho:∀ j y z,j≠i→C.N[j]?=some y→Lead Y.env m Z.s.heap y z→Lead Y.env m' h' y z) (hnew:∀ x,C.N[i]?=some x→FSl Y m' Z.G h' x a sv) (hown:sv.isOwn=true→Mu P Z.G Y.h0 a∧NotFr Y.env a∧∃ o,h'.get? a=some o) :
  FS Y GL P (Z.up Z.G h' t) (σ.set i sv) :=
 have e:=S.but hmu hk
 ⟨e.1,S.low,e.2,S.disj,S.pnew,⟨m',_,R.put hk hn hmu.2.2 hc hb ho hnew hown⟩,by show { Z.s with heap:=h',toks:=t }=_; rw [S.sh]; rfl⟩
theorem store_gen {A':Around} {i:Nat} {x:Str} {r:Value} {sv:SV} {a:Addr} {Q:Unit→Shared→Prop} {E:Value→Shared→Prop}
  (S:FS Y GL P Z σ) (R:FRow Y P Z.G Z.s.heap m α σ) (hx:C.N[i]?=some x) (hs:storable C x=true)
  (hnew:∀ m' h',Lead Y.env m' h' x r→(∀ c o,NotFr Y.env c→Z.s.heap.get? c=some o→h'.get? c=some o)→FSl Y m' Z.G h' x a sv)
  (hown:sv.isOwn=true→Mu P Z.G Y.h0 a∧NotFr Y.env a∧(∃ o,Z.s.heap.get? a=some o)) (ha:∀ j z,j≠i→σ[j]?=some z→z.isOwn=true→α j≠a)
  (hQ:∀ Z',FS Y GL P Z' (σ.set i sv)→Z'.G=Z.G→Q () Z'.s):wpAny Y.X.M A' (storeName Y.env x r) Q E Z.s:=by
 have fin:∀ (b:Addr) (m':Str→Option Value) (h':Heap) (tk:Tok),(∀ c,NotFr Y.env c→c≠b)→Mu P Z.G Y.h0 b→(∀ c,c≠b→h'.get? c=Z.s.heap.get? c)→h'.Ns Y.env.locals m' →
   (∀ y c,Y.env.cells.lookup y=some c→∃ v,h'.IsCell c v)→Lead Y.env m' h' x r→(∀ y z,y≠x→Lead Y.env m Z.s.heap y z→Lead Y.env m' h' y z)→Q () { Z.s with heap:=h',toks:=tk } :=
  fun b m' h' tk nb hmu hk hn hc hl ho=>hQ (Z.up Z.G h' tk) (S.put (b:=b) (a:=a) R hmu (fun c o q e=>(hk c q).trans e) hn hc (fun j z hj h1 h2=>⟨nb _ (R.own j z h1 h2).2.1,ha j z hj h1 h2⟩)
   (fun j y z hj hy=>ho y z fun e=>hj (nodup_get Y.names (e ▸ hy) hx)) (fun y hy=>by cases hx.symm.trans hy; exact hnew m' h' hl fun c o q e=>(hk c (nb c q)).trans e) fun hz =>
    have q:=hown hz
    ⟨q.1,q.2.1,_,(hk a (nb a q.2.1)).trans q.2.2.choose_spec⟩) rfl
 rcases Bool.or_eq_true_iff.mp hs with hs | hs
 ·have hk:Y.env.kindOf x=some .local:=(Y.X.hE.kinds x).trans (eq_of_beq hs)
  refine wpAny_storeName_local hk R.ns (fun h' hn' hsb=>fin Y.env.locals _ h' _ (fun c hc=>hc.1) R.mu (fun c hc=>hsb.2 c hc) hn' (fun y c hy=>?_) (.loc hk (if_pos rfl)) (fun y z hyx hl=>?_)) (by rw [Y.X.hE.kind]; rfl)
  ·have q:=R.cells y c hy
   exact ⟨_,q.1.choose_spec.sameBut hsb q.2.2⟩
  ·cases hl with
   | loc g1 g2=>exact .loc g1 ((if_neg hyx).trans g2)
   | cell g1 g2 g3=>exact .cell g1 g2 (g3.sameBut hsb (R.cells y _ g2).2.2)
 ·have hk:Y.env.kindOf x=some .cell:=(Y.X.hE.kinds x).trans (eq_of_beq hs)
  obtain ⟨c,hc⟩:=Y.X.hE.cells x (eq_of_beq hs)
  have q:=R.cells x c hc
  refine wpAny_storeName_cell Y.X.hE.kind hk hc q.1.choose_spec fun h' hc' hsb=>fin c m h' _ (fun d hd=>hd.2 x c hc) q.2.1 (fun d hd=>hsb.2 d hd) (R.ns.sameBut hsb (Ne.symm q.2.2)) (fun y d hy=>?_) (.cell hk hc hc') (fun y z hyx hl=>?_)
  ·by_cases q:d=c
   ·subst q; exact ⟨_,hc'⟩
   ·exact ⟨_,(R.cells y d hy).1.choose_spec.sameBut hsb q⟩
  ·cases hl with
   | loc g1 g2=>exact .loc g1 g2
   | @cell d g1 g2 g3=>exact .cell g1 g2 (g3.sameBut hsb fun e=>hyx (Y.one y x c (e ▸ g2) hc))
theorem FRow.fresh (R:FRow Y P G h m α σ) (inn:G.In h) (prot:P.In h) (h0:∀ b o,Y.h0.get? b=some o→∃ o',h.get? b=some o') {a:Addr} (hn:h.get? a=none):Mu P G Y.h0 a∧NotFr Y.env a∧∀ j z,σ[j]?=some z→z.isOwn=true→α j≠a:=by
 have fresh:∀ {b o},h.get? b=some o→a≠b:=fun hb e=>by rw [← e,hn] at hb; cases hb
 have none:∀ {o:Option Obj},(∀ q,o=some q→∃ q',h.get? a=some q')→o=none:=fun {o} k=>match o,k with
  | .none,_=>rfl
  | some q,k=>absurd rfl (fresh (k q rfl).choose_spec)
 obtain ⟨oL,_,_,hL,_⟩:=Ns_get R.ns
 exact ⟨⟨none fun q e=>⟨q,inn a q e⟩,none fun q e=>⟨q,prot a q e⟩,none fun q e=>h0 a q e⟩,⟨fresh hL,fun y c hy=>fresh (R.cells y c hy).1.choose_spec.choose_spec.1⟩,fun j z hj hz=>Ne.symm (fresh (R.own j z hj hz).2.2.choose_spec)⟩
theorem FS.fresh (S:FS Y GL P Z σ) (R:FRow Y P Z.G Z.s.heap m α σ) {a:Addr} (hn:Z.s.heap.get? a=none):Mu P Z.G Y.h0 a∧NotFr Y.env a∧∀ j z,σ[j]?=some z→z.isOwn=true→α j≠a :=
 R.fresh S.ext.inn S.prot (fun b o e=>⟨_,(S.ext.slots b o e).choose_spec⟩) hn
theorem FS.sys (S:FS Y GL P Z σ) {a:Addr} (ha:Z.s.heap.objs.size≤a):(a == sysModules)=false:=by
 obtain ⟨b,o,h1,h2⟩:=Y.X.stat.sz
 exact beq_false_of_ne (Nat.ne_of_gt (Nat.lt_of_lt_of_le (Nat.lt_trans h1 (Heap.lt_size (S.st.W b o h2))) ha))
theorem store_val {A':Around} {i:Nat} {x:Str} {r:Value} {v:AV} {Q:Unit→Shared→Prop} {E:Value→Shared→Prop} (S:FS Y GL P Z σ) (hx:C.N[i]?=some x) (hs:storable C x=true) (hr:Rep Z.G r v)
  (hQ:∀ Z',FS Y GL P Z' (σ.set i (.val v))→Z'.G=Z.G→Q () Z'.s):wpAny Y.X.M A' (storeName Y.env x r) Q E Z.s:=by
 obtain ⟨m,α,R⟩:=id S.row
 have f:=S.fresh R (Heap.get?_none_of_le (Nat.le_refl _))
 exact store_gen (a:=Z.s.heap.objs.size) S R hx hs (fun m' h' hl hk=>.val hl hr) (fun h=>nomatch h) (fun j z _=>f.2.2 j z) hQ
theorem store_new {A':Around} {i:Nat} {x:Str} {sv:SV} {o:Obj} {Q:Unit→Shared→Prop} {E:Value→Shared→Prop} (S:FS Y GL P Z σ) (hx:C.N[i]?=some x) (hs:storable C x=true) (hf:o.isFreed=false) (hnew:OwnO Y.X.prog Y.X.w Z.G sv o)
  (hQ:∀ Z',FS Y GL P Z' (σ.set i sv)→Q () Z'.s):wpAny Y.X.M A' (storeName Y.env x (.ref Z.s.heap.objs.size)) Q E { Z.s with heap:=Z.s.heap.push o }:=by
 have e:Stp Y.X.F Z (Z.up Z.G (Z.s.heap.push o) Z.s.toks):=⟨.of_keep S.ext.inn fun b q e=>Heap.get?_push_of_some _ e,rfl⟩
 obtain ⟨m,α,R⟩:=id S.row
 have f:=S.fresh R (Heap.get?_none_of_le (Nat.le_refl _))
 have ho:=Heap.get?_push_size Z.s.heap hf
 exact store_gen (Z:=Z.up Z.G (Z.s.heap.push o) Z.s.toks) (a:=Z.s.heap.objs.size) (S.step e) (R.ext e.ext) hx hs (fun m' h' hl hk=>.own hl (hk _ _ f.2.1 ho) hnew fun _=>S.sys (Nat.le_refl _)) (fun _=>⟨f.1,f.2.1,_,ho⟩) (fun j z _=>f.2.2 j z) fun Z' S' _=>hQ Z' S'
theorem FS.upd {i:Nat} {old sv:SV} {o:Obj} {t:Tok} {x:Str} (S:FS Y GL P Z σ) (R:FRow Y P Z.G Z.s.heap m α σ) (hi:σ[i]?=some old) (ho:old.isOwn=true) (hx:C.N[i]?=some x) (hk:∀ c o,c≠α i→Z.s.heap.get? c=some o→h'.get? c=some o) (hob:h'.get? (α i)=some o) (hnew:OwnO Y.X.prog Y.X.w Z.G sv o) (hd:sv.isD=true→old.isD=true) :
  FS Y GL P (Z.up Z.G h' t) (σ.set i sv):=by
 obtain ⟨mu,nf,_⟩:=R.own i old hi ho
 have hlead:∀ y r,Lead Y.env m Z.s.heap y r→Lead Y.env m h' y r:=fun y r hl=>by
  cases hl with
  | loc g1 g2=>exact .loc g1 g2
  | @cell c g1 g2 g3=>exact .cell g1 g2 ⟨_,hk c _ (Ne.symm (nf.2 y c g2)) g3.choose_spec.1,g3.choose_spec.2⟩
 refine S.put (b:=α i) (a:=α i) R mu hk ?_ (fun y c hy=>?_) (fun j z hj h1 h2=>?_) (fun j y z _ _=>hlead y z) (fun y hy=>?_) fun _=>⟨mu,nf,_,hob⟩
 ·obtain ⟨o,es,ep,ho,r⟩:=R.ns
  exact ⟨o,es,ep,hk _ _ (Ne.symm nf.1) ho,r⟩
 ·have q:=(R.cells y c hy).1.choose_spec.choose_spec
  exact ⟨_,_,hk c _ (Ne.symm (nf.2 y c hy)) q.1,q.2⟩
 ·have q:α j≠α i:=fun e=>hj (R.apart j i z old h1 hi h2 ho e)
  exact ⟨q,q⟩
 ·cases R.slot i old y hi hy with
  | own g1 g2 g3 g4=>exact .own (hlead _ _ g1) hob hnew fun h=>g4 (hd h)
  | _=>cases ho
theorem FS.freeze {i:Nat} {l:List AV} {sv:SV} {x:Str} (S:FS Y GL P Z σ) (hi:σ[i]?=some sv) (hx:C.N[i]?=some x) (hsv:sv=.ol l∨sv=.sl l):∃ G',FS Y GL P (Z.up G' Z.s.heap Z.s.toks) (σ.set i (.val (.lst l))):=by
 obtain ⟨m,α,R⟩:=id S.row
 have hown:sv.isOwn=true:=by rcases hsv with rfl | rfl <;> rfl
 obtain ⟨ob, ws, n, g1, g2, gc, gd, g3, g4⟩ : ∃ ob ws n, Lead Y.env m Z.s.heap x (.ref (α i)) ∧ Z.s.heap.get? (α i) = some ob ∧ ob.cls = .type "list" ∧ ob.data = .seq ws.toArray n ∧ RepAll Z.G ws l ∧ l.length ≤ lLine := by
  rcases hsv with rfl | rfl
  ·cases R.slot i _ x hi hx with | own g1 g2 g3 g4=>cases g3 with | ol a b=>exact ⟨_,_,_,g1,g2,rfl,rfl,a,b⟩
  ·cases R.slot i _ x hi hx with | own g1 g2 g3 g4=>cases g3 with | sl a b c d=>exact ⟨_,_,_,g1,g2,a,b,c,d⟩
 obtain ⟨mu,nf,_⟩:=R.own i _ hi hown
 have other:∀ b,b≠α i→(Z.G.add (α i) ob) b=Z.G b:=fun b hb=>GH.add_ne _ _ _ hb
 have le:∀ b o,Z.G b=some o→(Z.G.add (α i) ob) b=some o:=fun b o e=>(other b fun q=>by rw [q,mu.1] at e; cases e).trans e
 have mu':∀ {b},b≠α i→Mu P Z.G Y.h0 b→Mu P (Z.G.add (α i) ob) Y.h0 b:=fun hb q=>⟨(other _ hb).trans q.1,q.2⟩
 have ne:∀ {j z},j≠i→σ[j]?=some z→z.isOwn=true→α j≠α i:=fun hne hj hz e=>hne (R.apart _ i _ _ hj hi hz hown e)
 refine ⟨Z.G.add (α i) ob,⟨fun b o e=>le b o (S.ext.le b o e),fun b o e=>(GH.add_cases e).elim (fun q=>.inr (by rw [q.1]; exact mu.2.2)) (S.ext.new b o),S.ext.keep,S.ext.slots,fun b o e=>(GH.add_cases e).elim (fun q=>by rw [q.1,q.2]; exact g2) (S.ext.inn b o)⟩,
  fun b o e=>le b o (S.low b o e),S.prot,fun b o e=>(other b fun q=>by rw [q,mu.2.1] at e; cases e).trans (S.disj b o e),S.pnew,⟨m,α,R.ns,mu' (Ne.symm nf.1) R.mu,fun y c hy=>⟨(R.cells y c hy).1,mu' (Ne.symm (nf.2 y c hy)) (R.cells y c hy).2.1,(R.cells y c hy).2.2⟩,fun j z y hj hy=>?_,fun j z hj hz=>?_,fun j j' z z' hj hj' hz hz' e=>?_⟩,S.sh⟩
 ·rcases set_get hj with ⟨rfl,rfl⟩ | ⟨hne,hj⟩
  ·cases hx.symm.trans hy
   exact .val g1 ⟨.mk (GH.add_self ..) gc gd (reps_mono le _ _ g3),g4⟩
  ·exact (R.slot j z y hj hy).turn (fun _ r=>r) le fun o e _=>e
 ·rcases set_get hj with ⟨rfl,rfl⟩ | ⟨hne,hj⟩
  ·cases hz
  ·have q:=R.own j z hj hz
   exact ⟨mu' (ne hne hj hz) q.1,q.2⟩
 ·rcases set_get hj with ⟨rfl,rfl⟩ | ⟨hne,kj⟩
  ·cases hz
  ·rcases set_get hj' with ⟨rfl,rfl⟩ | ⟨hne',kj'⟩
   ·cases hz'
   ·exact R.apart j j' z z' kj kj' hz hz' e
end
end Mine
end
section
set_option tactic.hygienic false
open PySem PySem.Calls PyProof.Rows PySem.SeqAt PySem.W
namespace Mine
inductive XMade (F:Addr→Prop) (G:GH) (h:Heap) (e:Addr) (t:List Nat) (c:List AV) (h':Heap):Prop
 | mk {d t0:Addr}:(∀ b o,h.get? b=some o→¬ F b→h'.get? b=some o)→(∀ b o,h.get? b=some o→∃ sl,h'.get? b=some { o with slots:=sl })→h.get? e=none→h.get? d=none→d≠e →
  h'.get? e=some { cls:=Rc,dict:=some d,data:=.fields #[.ref t0,.none,.none,.none,.bool false,.none] }→XVals G h h' d t c→XMade F G h e t c h'
structure Ready {C:CK} (X:WX C) (Z:ZS):Prop where
 W:X.W0.StaysIn Z.s.heap
 fr:FrOK Z.s.heap X.l
 gfr:GFr Z.G X.l
 inG:Z.G.In Z.s.heap
structure FY (C:CK) where
 Y:FX C
 Μ:MTab
 Δ:DTab
 makers:∀ (f:Nat) (args:List AV) (t:List Nat) (c:List AV) (Z:ZS) (vs:List Value) (Q:Value→Shared→Prop) (E:Value→Shared→Prop),Μ f args=some (t,c)→Ready Y.X Z→RepAll Z.G vs args →
  (∀ e h' tk,XMade Y.X.F Z.G Z.s.heap e t c h'→Q (.ref e) { Z.s with heap:=h',toks:=tk })→wpAny Y.X.M Y.X.A (call (.ref f) vs) Q E Z.s
 dcalls:∀ (f:Nat) (d:List (Int × Int)) (args:List AV) (Z:ZS) (a:Addr) (vs:List Value) (Q:Value→Shared→Prop) (E:Value→Shared→Prop),Ready Y.X Z→DictR Y.X.prog Y.X.w Y.X.F Z.s.heap d a→RepAll Z.G vs args →
  RV Y.X Z Q E (Δ f d args)→wpAny Y.X.M Y.X.A (call (.ref f) (.ref a::vs)) Q E Z.s
inductive EX {C:CK} (Y:FX C) (t:List Nat) (c:List AV):Value→Shared→Prop
 | mk {a:Addr} {kx:XK} {h':Heap} {tk:Tok}:kx.here Y.env.locals→XIn Y.X.l kx Y.Z0.G Y.h0 a t c h'→EX Y t c (.ref a) { Y.Z0.s with heap:=h',toks:=tk }
structure FEnd {C:CK} (Y:FX C) (Z:ZS):Prop where
 ext:Ext (FrS Y.outer) Y.Z0.G Y.h0 Z.G Z.s.heap
 sh:Z.s={ Y.Z0.s with heap:=Z.s.heap,toks:=Z.s.toks }
section
variable {C:CK}
def SGc (Y:FX C) (GL P:GH) (Q:Flow→Shared→Prop) (c:Ctl):Prop:=match c with
 | .next σ=>∀ Z,FS Y GL P Z σ→Q .next Z.s
 | .brk σ=>∀ Z,FS Y GL P Z σ→Q .brk Z.s
 | .cont σ=>∀ Z,FS Y GL P Z σ→Q .cont Z.s
 | .ret v=>∀ Z r,FEnd Y Z→Rep Z.G r v→Q (.ret r) Z.s
def SG (Y:FX C) (GL P:GH) (Q:Flow→Shared→Prop) (E:Value→Shared→Prop) (o:Out):Prop:=match o with
 | .ok c=>SGc Y GL P Q c
 | .exn t c=>∀ e s,EX Y t c e s→E e s
 | .stuck=>False
def SB (C:CK) (m:MS) (st:Stmt):Prop:=∀ (D:FY C) {GL P:GH} {Z:ZS} {σ:Env'} {Q:Flow→Shared→Prop} {E:Value→Shared→Prop},FS D.Y GL P Z σ→SG D.Y GL P Q E (evS D.Y.X.Φ D.Μ D.Δ m σ)→wpAny D.Y.X.M D.Y.X.A (exec st D.Y.env) Q E Z.s
def SBs (C:CK) (ms:List MS) (ss:List Stmt):Prop:=∀ (D:FY C) {GL P:GH} {Z:ZS} {σ:Env'} {Q:Flow→Shared→Prop} {E:Value→Shared→Prop},FS D.Y GL P Z σ→SG D.Y GL P Q E (evSs D.Y.X.Φ D.Μ D.Δ ms σ)→wpAny D.Y.X.M D.Y.X.A (execs ss D.Y.env) Q E Z.s
section
variable {Y:FX C} {GL P:GH} {Z:ZS} {σ:Env'} {Q:Flow→Shared→Prop} {E:Value→Shared→Prop} {α β:Type} {rp:GH→β→α→Prop} {Q':β→Shared→Prop}
theorem FS.fin (S:FS Y GL P Z σ):FEnd Y Z:=⟨S.ext,S.sh⟩
theorem FS.ready (S:FS Y GL P Z σ):Ready Y.X Z:=⟨S.st.W,S.st.fr,S.st.gfr,S.st.inG⟩
theorem FX.sub (Y:FX C) {b:Addr} (h:FrS Y.outer b):FrS Y.X.l b:=(Y.hF b).mp (Y.tail h)
theorem XPost.of {t:List Nat} {c:List AV} (S:FS Y GL P Z σ) (h:∀ e s,EX Y t c e s→E e s):XPost Y.X.l Z t c E:=fun e h' tk x=>by
 rw [S.sh]
 exact h _ _ (.mk (kx:=.fly .none) (Or.inl rfl) (x.weak S.ext fun _=>Y.sub))
theorem SG.rg {r:R α} {f:α→Out} (S:FS Y GL P Z σ) (h:SG Y GL P Q E (r.bind f)) (k:∀ a,r=.ok a→∀ (Z':ZS) (x:β),FS Y GL P Z' σ→Stp Y.X.F Z Z'→rp Z'.G x a→SG Y GL P Q E (f a)→Q' x Z'.s):RG Y.X.F Y.X.l rp Z Q' E r:=by
 cases r with
 | ok a=>exact fun Z' x e hx=>k a rfl Z' x (S.step e) e hx h
 | exn t c=>exact ⟨fun b=>(Y.hF b).mp,.of S h⟩
 | stuck=>exact h
theorem SG.lim {c:Bool} {r:Out} (h:SG Y GL P Q E (lim c r)):c=true∧SG Y GL P Q E r:=by
 cases c with
 | true=>exact ⟨rfl,h⟩
 | false=>exact h.elim
theorem SG.int {a:AV} {x:Value} {G:GH} {f:Int→Out} (hx:Rep G x a) (h:SG Y GL P Q E (asI a f)):IntV (fun i=>SG Y GL P Q E (f i)) x a:=by
 cases a with
 | int i=>cases (show IntR i x from hx) with | mk=>exact .mk h
 | _=>exact (show False from h).elim
theorem SG.tup {a : AV} {x : Value} {G : GH} {f : List AV → Out} {hp : Heap} (hG : G.In hp) (hx : Rep G x a) (h : SG Y GL P Q E (asT a f)) : SeqV hp G "tuple" .tup (fun i => SG Y GL P Q E (f i)) x a := by
 cases a with
 | tup i=>cases rep_tup hG hx with | mk a b c=>exact .mk a b c h
 | _=>exact (show False from h).elim
end
variable {m a b c:ME} {e e1 e2 e3:Expr} {ms:List ME} {es:List Expr} {x y:Str} {i j:Nat} {p pos:Pos}
abbrev noSwap (v:Expr):Prop:=∀ (t:Option Expr) (n:Nat) (env:Env),swapsWith v t n env=pure false
theorem s_asg (hx:C.N[i]?=some x) (hs:storable C x=true) (hm:EB C m e) (hn:noSwap e):SB C (.asg i m) (.Assign [.Name x p] e pos):=fun D {GL P Z σ Q E} S h =>
 wpAny_Assign_Name (hm.v D.Y.X σ Z _ E S.st (SG.rg S h fun a _ Z' r S' e' hr h=>store_val S' hx hs hr fun Z'' S'' _=>h Z'' S'')) (hn _ _ _)
inductive TgE (C:CK):List Nat→List Expr→Prop
 | nil:TgE C [] []
 | cons {i:Nat} {x:Str} {p:Pos} {is:List Nat} {ts:List Expr}:C.N[i]?=some x→storable C x=true→TgE C is ts→TgE C (i::is) (.Name x p::ts)
theorem TgE.none {is:List Nat} {ts:List Expr} (h:TgE C is ts) (env:Env):(assignEach ts env).findIdx? (·.1)=none∧(assignEach ts env).length=is.length:=by
 induction h with
 | nil=>exact ⟨rfl,rfl⟩
 | @cons i x p is ts _ _ _ ih =>
  have e:assignEach (.Name x p::ts) env=(false,assign (.Name x p) env)::assignEach ts env:=rfl
  rw [e,List.findIdx?_cons,ih.1]
  exact ⟨rfl,congrArg (· + 1) ih.2⟩
section
variable {Y:FX C} {GL P:GH} {Q:Unit→Shared→Prop} {E:Value→Shared→Prop}
theorem setAll_len {f:Env'→Out} {is:List Nat}:∀ {σ:Env'} {l:List AV},setAll σ is l f≠.stuck→l.length=is.length:=by
 induction is with
 | nil=>intro σ l h; cases l with
  | nil=>rfl
  | cons _ _=>exact absurd rfl h
 | cons i is ih=>intro σ l h; cases l with
  | nil=>exact absurd rfl h
  | cons _ l=>exact congrArg (· + 1) (ih (l:=l) h)
theorem assign_all {is:List Nat} {ts:List Expr} (ht:TgE C is ts):∀ {vs:List Value} {l:List AV} {Z:ZS} {σ:Env'} {f:Env'→Out},RepAll Z.G vs l→setAll σ is l f≠.stuck→FS Y GL P Z σ→(∀ Z' σ',FS Y GL P Z' σ'→setAll σ is l f=f σ'→Q () Z'.s) →
  wpAny Y.X.M Y.X.A (assignInOrder ((assignEach ts Y.env).map (·.2)) vs) Q E Z.s:=by
 induction ht with
 | nil =>
  intro vs l Z σ f hr hs S hQ
  cases l with
  | nil=>cases (show vs=[] from hr); exact wpAny_pure (hQ Z σ S rfl)
  | cons _ _=>exact absurd rfl hs
 | @cons i x p is ts hx hst _ ih =>
  intro vs l Z σ f hr hs S hQ
  cases l with
  | nil=>exact absurd rfl hs
  | cons a l =>
   cases (show ConsR _ _ vs from hr) with | mk r1 r2 =>
   have e:assignEach (.Name x p::ts) Y.env=(false,assign (.Name x p) Y.env)::assignEach ts Y.env:=rfl
   rw [e,List.map_cons]
   exact wpAny_assignInOrder_more (wpAny_assign_Name (store_val S hx hst r1 fun Z' S' eG=>ih (eG ▸ r2) hs S' hQ))
theorem assign_tuple {is:List Nat} {ts:List Expr} {k:Nat} {tp:Pos} {v:Value} {l:List AV} {Z:ZS} {σ:Env'} {f:Env'→Out} (ht:TgE C is ts) (hr:Rep Z.G v (.tup l)) (hs:setAll σ is l f≠.stuck) (S:FS Y GL P Z σ)
  (hQ:∀ Z' σ',FS Y GL P Z' σ'→setAll σ is l f=f σ'→Q () Z'.s):wpAny Y.X.M Y.X.A (assign (.Tuple ts k tp) Y.env v) Q E Z.s:=by
 cases rep_tup S.ext.inn hr with | @mk ad ws h1 h2 h3 =>
 have h1:Z.s.heap.IsTuple ad ws.toArray:=h1
 refine wpAny_assign_Tuple Y.X.handled h1 (by rw [(ht.none _).2,List.size_toArray,h2.length,setAll_len hs]) (ht.none _).1 fun h' he=>?_
 have e:Stp Y.X.F Z (Z.up Z.G h' Z.s.toks):=⟨.of_keep S.ext.inn fun b o e=>he b o (Nat.ne_of_lt (Heap.lt_size e)) e,rfl⟩
 exact assign_all (Z:=Z.up Z.G h' Z.s.toks) ht h2 hs (S.step e) hQ
end
theorem s_asgT {is:List Nat} {ts:List Expr} {k:Nat} {tp:Pos} (ht:TgE C is ts) (hm:EB C m e) (hn:noSwap e) (hw:∀ env,swappedStores [.Tuple ts k tp] e env=pure none):SB C (.asgT is m) (.Assign [.Tuple ts k tp] e pos):=fun D {GL P Z σ Q E} S h =>
 wpAny_Assign_stores (hm.v D.Y.X σ Z _ E S.st (SG.rg S h fun a _ Z' r S' e' hr h=>by
  cases a with
  | tup l =>
   have h:SG D.Y GL P Q E (setAll σ is l nx):=h
   exact assign_tuple (k:=k) ht hr (fun q=>by rw [q] at h; exact h) S' fun Z'' σ' S'' q=>by rw [q] at h; exact h Z'' S''
  | _=>exact (show False from h).elim)) (show swapsWithSole [_] e _ _=pure false from hn (some (.Tuple ts k tp)) pos.line D.Y.env) (hw _)
theorem s_aug {sub:Bool} (hx:C.N[i]?=some x) (hs:storable C x=true) (hm:EB C m e):SB C (.aug i sub m) (.AugAssign (.Name x p) (match sub with | true=>.Sub | false=>.Add) e pos):=fun D {GL P Z σ Q E} S h=>by
 cases hv:σ[i]? with
 | none=>rw [show evS _ _ _ (.aug i sub m) σ=(asV σ[i]? .ok).bind _ from rfl,hv] at h; exact (show False from h).elim
 | some sv=>cases sv with
  | val u =>
   rw [show evS _ _ _ (.aug i sub m) σ=(asV σ[i]? .ok).bind _ from rfl,hv] at h
   cases S.st.slots i _ x hv hx with | val h1 h2 =>
   refine wpAny_AugAssign_Name (h1.load D.Y.X.hE.kind (hm.v D.Y.X σ Z _ E S.st (SG.rg S h fun b _ Z' r S' e' hr h=>?_)))
   cases SG.int (e'.le h2) h with | mk h=>cases SG.int hr h with | mk h =>
   have e:Stp D.Y.X.F Z' (Z'.tk (Z'.s.toks + 1)):=⟨.refl e'.inn,rfl⟩
   cases sub with
   | true=>exact PySem.P.isub_int (store_val (Z:=Z'.tk (Z'.s.toks + 1)) (v:=.int _) (S'.step e) hx hs IntR.mk fun Z'' S'' _=>h Z'' S'')
   | false=>exact PySem.P.iadd_int (store_val (Z:=Z'.tk (Z'.s.toks + 1)) (v:=.int _) (S'.step e) hx hs IntR.mk fun Z'' S'' _=>h Z'' S'')
  | _=>rw [show evS _ _ _ (.aug i sub m) σ=(asV σ[i]? .ok).bind _ from rfl,hv] at h; exact (show False from h).elim
theorem s_newL {q:Pos} (hx:C.N[i]?=some x) (hs:storable C x=true):SB C (.newL i) (.Assign [.Name x p] (.List [] q) pos):=fun D {GL P Z σ Q E} S h =>
 wpAny_Assign_Name (wpAny_List (spliced_nil ⟨Nat.zero_le _,store_new S hx hs rfl (.ol (l:=[]) (ws:=[]) (n:=0) rfl (Nat.zero_le _)) h⟩)) rfl
theorem s_newD {q:Pos} (hx:C.N[i]?=some x) (hs:storable C x=true):SB C (.newD i) (.Assign [.Name x p] (.Dict [] [] q) pos):=fun D {GL P Z σ Q E} S h =>
 wpAny_Assign_Name (wpAny_Dict_empty (store_new S hx hs rfl (.od (kvs:=[]) ⟨#[],0,⟨rfl,rfl,rfl⟩,rfl,fun e he=>absurd he (Array.not_mem_empty e),Pairs.nil,List.nodup_nil⟩ ⟨rfl,fun j p hj=>nomatch (List.getElem?_nil.symm.trans hj)⟩ (Nat.zero_le _)) h)) rfl
theorem s_ret (hm:EB C m e):SB C (.ret m) (.Return (some e) pos):=fun D {GL P Z σ Q E} S h=>wpAny_Return_some (hm.v D.Y.X σ Z _ E S.st (SG.rg S h fun a _ Z' r S' e' hr h=>h Z' r S'.fin hr))
theorem s_ret0:SB C (.ret (.c .none)) (.Return none pos):=fun D {GL P Z σ Q E} S h=>wpAny_Return_none (h Z .none S.fin rfl)
theorem s_brk:SB C .brk (.Break pos):=fun D {GL P Z σ Q E} S h=>wpAny_Break (h Z S)
theorem s_cont:SB C .cont (.Continue pos):=fun D {GL P Z σ Q E} S h=>wpAny_Continue (h Z S)
theorem FX.inter (Y:FX C):interactive Y.env=false:=by
 unfold interactive
 rw [Y.X.hE.kind]; rfl
theorem s_expr (hm:EB C m e) (hn:noSwap e):SB C (.expr m) (.Expr e pos):=fun D {GL P Z σ Q E} S h =>
 wpAny_Expr_any (hm.v D.Y.X σ Z _ E S.st (SG.rg S h fun a _ Z' r S' e' hr h=>h Z' S')) D.Y.inter (hn _ _ _)
theorem SG.tr {α:Type} {Y:FX C} {GL P:GH} {Z:ZS} {σ:Env'} {Q:Flow→Shared→Prop} {E:Value→Shared→Prop} {r:R AV} {f:Bool→Out} {Q':Bool→Shared→Prop} (S:FS Y GL P Z σ) (h:SG Y GL P Q E (r.bind fun x=>asB x f))
  (k:∀ (b:Bool) (Z':ZS),FS Y GL P Z' σ→Stp Y.X.F Z Z'→SG Y GL P Q E (f b)→Q' b Z'.s):RG Y.X.F Y.X.l isB Z Q' E (r.bind fun v=>asB v .ok):=by
 cases r with
 | ok a=>cases a with
  | bool b=>exact fun Z' v e hv=>by cases (show v=b from hv); exact k b Z' (S.step e) e h
  | _=>exact h
 | exn t c=>exact ⟨fun b=>(Y.hF b).mp,.of S h⟩
 | stuck=>exact h
theorem s_ite {bd el:List Stmt} {ma mb:List MS} (hc:EB C c e) (ha:SBs C ma bd) (hb:SBs C mb el):SB C (.ite c ma mb) (.If e bd el pos):=fun D {GL P Z σ Q E} S h =>
 wpAny_If (hc.t D.Y.X σ Z _ E S.st (SG.tr (α:=Unit) S h fun t Z' S' e' h=>match t,h with
  | true,h=>ha D S' h
  | false,h=>hb D S' h))
theorem ss_nil:SBs C [] []:=fun D {GL P Z σ Q E} S h=>wpAny_execs_nil (h Z S)
theorem ss_cons {m:MS} {ms:List MS} {st:Stmt} {ss:List Stmt} (hm:SB C m st) (hr:SBs C ms ss):SBs C (m::ms) (st::ss):=fun D {GL P Z σ Q E} S h=>by
 refine wpAny_execs_cons (hm D S ?_)
 have h:SG D.Y GL P Q E (seqO (evS D.Y.X.Φ D.Μ D.Δ m σ) (evSs D.Y.X.Φ D.Μ D.Δ ms)):=h
 cases ho:evS D.Y.X.Φ D.Μ D.Δ m σ with
 | ok c =>
  rw [ho] at h
  cases c with
  | next σ'=>exact fun Z' S'=>hr D S' h
  | _=>exact h
 | _=>rw [ho] at h; exact h
theorem ss_freeze {ms:List MS} {ss:List Stmt} (hx:C.N[i]?=some x) (hr:SBs C ms ss):SBs C (.freeze i::ms) ss:=fun D {GL P Z σ Q E} S h=>by
 have h:SG D.Y GL P Q E (evSs D.Y.X.Φ D.Μ D.Δ ms (frz σ i)):=h
 unfold frz at h
 cases hv:σ[i]? with
 | none=>rw [hv] at h; exact hr D S h
 | some sv =>
  rw [hv] at h
  cases sv with
  | ol l=>obtain ⟨G',S'⟩:=S.freeze hv hx (.inl rfl); exact hr D (Z:=Z.up G' Z.s.heap Z.s.toks) S' h
  | sl l=>obtain ⟨G',S'⟩:=S.freeze hv hx (.inr rfl); exact hr D (Z:=Z.up G' Z.s.heap Z.s.toks) S' h
  | _=>exact hr D S h
end
end Mine
end
section
set_option tactic.hygienic false
open PySem PySem.Calls PyProof.Rows PySem.SeqAt PySem.W
namespace Mine
theorem replicate_rep {G:GH} {r:Value} {v:AV} (h:Rep G r v) (n:Nat):RepAll G (List.replicate n r) (List.replicate n v):=RepAll.replicate h n
section
variable {C:CK} {Y:FX C} {GL P:GH} {Z Z':ZS} {σ:Env'} {m:Str→Option Value} {α:Nat→Addr}
inductive OwnW (Y:FX C) (P:GH) (Z:ZS) (σ:Env') (i:Nat) (x:Str) (sv:SV):Prop
 | mk {m:Str→Option Value} {α:Nat→Addr} {o:Obj}:FRow Y P Z.G Z.s.heap m α σ→σ[i]?=some sv→sv.isOwn=true→Leads Y.env Z.s.heap x (.ref (α i))→Z.s.heap.get? (α i)=some o→OwnO Y.X.prog Y.X.w Z.G sv o→OwnW Y P Z σ i x sv
theorem FS.own (S:FS Y GL P Z σ) {i:Nat} {sv:SV} {x:Str} (hi:σ[i]?=some sv) (hx:C.N[i]?=some x) (ho:sv.isOwn=true):OwnW Y P Z σ i x sv:=by
 obtain ⟨m,α,R⟩:=id S.row
 cases R.slot i sv x hi hx with
 | own g1 g2 g3 g4=>exact .mk R hi ho (g1.leads R.ns) g2 g3
 | _=>cases ho
theorem FRow.at (R:FRow Y P Z.G Z.s.heap m α σ) {i:Nat} {sv:SV} {o:Obj} (hi:σ[i]?=some sv) (ho:sv.isOwn=true) (e:Stp Y.X.F Z Z') (hg:Z.s.heap.get? (α i)=some o):Z'.s.heap.get? (α i)=some o :=
 e.ext.keep _ _ hg (Y.noF (R.own i _ hi ho).1.2.2 (R.own i _ hi ho).2.1.1)
theorem SG.slot {Q:Flow→Shared→Prop} {E:Value→Shared→Prop} {β:Type} {as:Option SV→(β→Out)→Out} {i:Nat} {f:β→Out} (k:β→SV) (hs:∀ o f,as o f≠.stuck→∃ l,o=some (k l)∧as o f=f l) (h:SG Y GL P Q E (as σ[i]? f)):∃ l,σ[i]?=some (k l)∧SG Y GL P Q E (f l):=by
 obtain ⟨l,h1,h2⟩:=hs σ[i]? f fun q=>by rw [q] at h; exact h
 exact ⟨l,h1,by rw [h2] at h; exact h⟩
theorem asO_of {β:Type} {o:Option SV} {f:List AV→R β} (h:asO o f≠.stuck):∃ l,o=some (.ol l)∧asO o f=f l:=by
 cases o with
 | none=>exact absurd rfl h
 | some sv=>cases sv with
  | ol l=>exact ⟨l,rfl,rfl⟩
  | _=>exact absurd rfl h
theorem asQ_of {β:Type} {o:Option SV} {f:List AV→R β} (h:asQ o f≠.stuck):∃ l,o=some (.sl l)∧asQ o f=f l:=by
 cases o with
 | none=>exact absurd rfl h
 | some sv=>cases sv with
  | sl l=>exact ⟨l,rfl,rfl⟩
  | _=>exact absurd rfl h
theorem asD_of {β:Type} {o:Option SV} {f:List (Int × Int)→R β} (h:asD o f≠.stuck):∃ l,o=some (.od l)∧asD o f=f l:=by
 cases o with
 | none=>exact absurd rfl h
 | some sv=>cases sv with
  | od l=>exact ⟨l,rfl,rfl⟩
  | _=>exact absurd rfl h
end
section
variable {C:CK} {a b c m:ME} {e e1 e2 e3:Expr} {ms:List ME} {es:List Expr} {x y:Str} {i j:Nat} {p q pos:Pos}
theorem swapped_pair {env:Env} {tp vp pa pc:Pos} {k k2 u:Nat} {ca:Const} {f:Expr} {kw:List Keyword} (hk:env.scope.kind=.function) (hx:env.kindOf x=some .local) (hy:env.kindOf y=some .local) (hxy:(x == y)=false) (hl:p.line=q.line) :
  swappedStores [.Tuple [.Name x p,.Name y q] k tp] (.Tuple [.Constant ca u pa,.Call f es kw pc] k2 vp) env=pure (some [x,y]):=by
 have hb:env.blockKind=.function:=by unfold Env.blockKind; rw [hk]; rfl
 have hd:[x,y].eraseDups.length=2:=by
  rw [List.eraseDups_cons]
  simp [(beq_eq_false_iff_ne.mpr (Ne.symm (beq_eq_false_iff_ne.mp hxy)):(y == x)=false),List.eraseDups_cons]
 have n1:¬ (!([Expr.Name x p,.Name y q].length == 2 || [Expr.Name x p,.Name y q].length == 3) || [Expr.Constant ca u pa,.Call f es kw pc].length != [Expr.Name x p,.Name y q].length || env.blockKind != .function)=true:=by rw [hb]; exact fun h=>nomatch (show false=true from h)
 have h1:(env.kindOf x == some NameKind.local && p.line == p.line)=true:=by rw [hx]; exact beq_self_eq_true p.line
 have h2:(env.kindOf y == some NameKind.local && q.line == p.line)=true:=by rw [hy,hl]; exact beq_self_eq_true q.line
 unfold swappedStores
 refine (if_neg n1).trans ((if_neg fun h=>nomatch (show false=true from h)).trans ?_)
 have key:∀ names:List Str,names=[x,y]→(if (names.length != [Expr.Name x p,.Name y q].length || names.eraseDups.length != names.length)=true then (pure none:Sem (Option (List Str))) else if ([Expr.Constant ca u pa,.Call f es kw pc].all (foldedForSure 8))=true then pure none else
   if ([Expr.Constant ca u pa, .Call f es kw pc].all (constantsAlone 8)) = true then ((unsupported "assign.tuple-of-constant-expressions:order-of-the-stores" : Sem PUnit) >>= fun _ => pure (some names)) else pure (some names)) = pure (some [x, y]) := fun names e => by
  subst e
  exact (if_neg fun h=>nomatch (show false=true from (by rw [hd] at h; exact h))).trans ((if_neg fun h=>nomatch (show false=true from (and2 h).2)).trans (if_neg fun h=>nomatch (show false=true from (and2 h).2)))
 refine key _ ?_
 refine (List.filterMap_cons_some (b:=x) ?_).trans (congrArg (x::·) (List.filterMap_cons_some (b:=y) ?_))
 ·exact if_pos h1
 ·exact if_pos h2
theorem s_asg2 {tp vp pa pc:Pos} {k k2 u:Nat} {ca:Const} {f:Expr} {kw:List Keyword} (hx:C.N[i]?=some x) (hy:C.N[j]?=some y) (kx:C.kinds x=some NameKind.local) (ky:C.kinds y=some NameKind.local) (hxy:(x == y)=false) (hl:p.line=q.line)
  (ha:EB C a (.Constant ca u pa)) (hb:EB C b (.Call f es kw pc)):SB C (.asg2 i j a b) (.Assign [.Tuple [.Name x p,.Name y q] k tp] (.Tuple [.Constant ca u pa,.Call f es kw pc] k2 vp) pos):=fun D {GL P Z σ Q E} S h=>by
 have sx:storable C x=true:=by unfold storable; rw [kx]; rfl
 have sy:storable C y=true:=by unfold storable; rw [ky]; rfl
 rw [exec_Assign_arm]
 refine wpAny_bind (wpAny_standAt ?_)
 rw [show swapsWithSole [_] (Expr.Tuple [_,_] k2 vp) pos.line D.Y.env=pure false from rfl]
 refine wpAny_bind (wpAny_pure ?_)
 rw [if_neg (by decide)]
 refine wpAny_bind (wpAny_Tuple ?_)
 rw [ha.ns,hb.ns]
 refine spliced_cons (ha.v D.Y.X σ Z _ E S.st (SG.rg S h fun va _ Z₁ r₁ S₁ x₁ hr₁ h=>spliced_cons (hb.v D.Y.X σ Z₁ _ E S₁.st (SG.rg S₁ h fun vb _ Z₂ r₂ S₂ x₂ hr₂ h=>spliced_nil ⟨by rw [sz16]; exact (by decide:2≤16777216),?_⟩))))
 rw [swapped_pair D.Y.X.hE.kind ((D.Y.X.hE.kinds x).trans kx) ((D.Y.X.hE.kinds y).trans ky) hxy hl]
 refine wpAny_bind (wpAny_pure ?_)
 unfold assignStores
 refine wpAny_bind (wpAny_rule ?_)
 have ht : (Z₂.s.heap.push { cls := .type "tuple", data := .seq [r₁, r₂].toArray }).IsTuple Z₂.s.heap.objs.size [r₁, r₂].toArray := ⟨_, Heap.get?_push_size _ rfl, rfl, _, rfl⟩
 refine wpAny_bind (wpAny_unpackItems_tuple (items:=[r₁,r₂].toArray) D.Y.X.handled ht fun h' he=>?_)
 have e₃:Stp D.Y.X.F Z₂ (Z₂.up Z₂.G h' Z₂.s.toks):=⟨.of_keep S₂.ext.inn fun b o e=>he b o (Nat.ne_of_lt (Nat.lt_trans (Heap.lt_size e) (lt_push _ _))) (Heap.get?_push_of_some _ e),rfl⟩
 have hij:j≠i:=fun e=>by subst e; cases hx.symm.trans hy; rw [beq_self_eq_true] at hxy; cases hxy
 show wpAny _ D.Y.X.A (do assignInOrder [bindName D.Y.env y,bindName D.Y.env x] [r₂,r₁]; pure .next) Q E (Z₂.up Z₂.G h' Z₂.s.toks).s
 refine wpAny_bind (wpAny_assignInOrder_more (wpAny_bindName (store_val (S₂.step e₃) hy sy (e₃.le hr₂) fun Z₄ S₄ e₄=>wpAny_assignInOrder_more (wpAny_bindName (store_val S₄ hx sx (e₄ ▸ e₃.le (x₂.le hr₁)) fun Z₅ S₅ _=>wpAny_assignInOrder_none (wpAny_pure (h Z₅ ?_)))))))
 rw [List.set_comm _ _ hij] at S₅
 exact S₅
theorem list_times {M : Model} {A : Around} {r : Value} {N : Int} {t : Tok} {s : Shared} {l : Addr} {Q : Value → Shared → Prop} {E : Value → Shared → Prop} (hl : s.heap.get? l = some { cls := .type "list", data := .seq [r].toArray }) (h1 : smallI N = true) (h2 : N ≤ 1048576)
  (hq : Q (.ref s.heap.objs.size) { s with heap := s.heap.push { cls := .type "list", data := .seq (List.replicate N.toNat r).toArray } }) {prog : Program} {w : World} (hM : M = model prog w) : wpAny M A (binaryOp .Mult (.ref l) (.int N t)) Q E s := by
 subst hM
 have hb:=smallI_iff h1
 refine wpAny_binaryOp_repeat_ref (T := "list") (U := "int") (by decide) ⟨_, hl, rfl⟩ (fun s' => typeIs_int s' N t) noFill_list_mul PySem.F.fills_int_mul PySem.F.slot_int_rmul repeat_list PySem.F.slot_int_index.lookup
  (call_meets PySem.F.slot_int_rmul (typeIs_int _ N t) PySem.F.entry_int_rmul (PySem.F.args_int_rmul_2 _ _) (int___rmul___int_list N t l [r].toArray 0)
   ⟨hl,rfl,⟨_,hl,rfl⟩,call_meets PySem.F.slot_list_mul ⟨_,hl,rfl⟩ PySem.F.entry_list_mul (PySem.F.args_list_mul_2 _ _)
    (AutoListH.list___mul___list_int_3 l [r].toArray 0 N t (by simp [Builtin.List.listFitsIndex]; lia) (by simp; lia) (by simp [Builtin.List.listTooLong,sizeLine]; lia))
    ⟨hl,?_⟩⟩)
 rw [show List.foldl (fun x1 x2=>x1++x2) #[] (List.replicate (if ([r].toArray:Array Value).isEmpty=true then 0 else N.toNat) ([r].toArray:Array Value))=(List.replicate N.toNat r).toArray from by rw [listMul_foldl]; simp [lm_rep_flat_one]]
 exact hq
theorem s_ownM {lp bp:Pos} (hx:C.N[i]?=some x) (hs:storable C x=true) (ha:EB C a e1) (hb:EB C b e2):SB C (.ownM i a b) (.Assign [.Name x p] (.BinOp (.List [e1] lp) .Mult e2 bp) pos):=fun D {GL P Z σ Q E} S h=>by
 refine wpAny_Assign_Name (wpAny_BinOp (wpAny_List ?_)) rfl
 rw [ha.ns]
 refine spliced_cons (ha.v D.Y.X σ Z _ E S.st (SG.rg S h fun va _ Z₁ r₁ S₁ x₁ hr₁ h=>spliced_nil ⟨by rw [sz16]; exact (by decide:1≤16777216),?_⟩))
 have e₁ : Stp D.Y.X.F Z₁ (Z₁.up Z₁.G (Z₁.s.heap.push { cls := .type "list", data := .seq [r₁].toArray }) Z₁.s.toks) := ⟨.of_keep S₁.ext.inn fun b o e => Heap.get?_push_of_some _ e, rfl⟩
 refine hb.v D.Y.X σ (Z₁.up _ _ _) _ E (S₁.step e₁).st (SG.rg (S₁.step e₁) h fun vn _ Z₂ r₂ S₂ x₂ hr₂ h=>?_)
 cases SG.int hr₂ h with | @mk N t h =>
 have h:=h.lim
 have hN:=and2 h.1
 have hz:N≤1048576:=of_decide_eq_true hN.1
 obtain ⟨m,α,R⟩:=id S₁.row
 have f:=S₁.fresh R (Heap.get?_none_of_le (Nat.le_refl _))
 refine list_times (x₂.ext.keep _ _ (Heap.get?_push_size _ rfl) (D.Y.noF f.1.2.2 f.2.1.1)) hN.2 hz (store_new S₂ hx hs rfl (.sl (ws:=List.replicate N.toNat r₁) (n:=0) rfl rfl (replicate_rep (x₂.le (e₁.le hr₁)) _) ?_) h.2) rfl
 rw [List.length_replicate]
 exact Int.toNat_le.mpr hz
theorem s_app {apos cp qp : Pos} (hx : C.N[i]? = some x) (hd : (x == ("__debug__" : Str)) = false) (hl : (apos.endLine == cp.line) = true) (hm : EB C m e) : SB C (.app i m) (.Expr (.Call (.Attribute (.Name x p) "append" apos) [e] [] cp) qp) := fun D {GL P Z σ Q E} S h => by
 obtain ⟨l,hi,h⟩:=SG.slot (as:=asO) .ol (fun o f=>asO_of) h
 cases S.own hi hx rfl with | @mk m' α o R _ _ hL hg ho =>
 cases ho with | @ol _ ws n g3 g4 =>
 refine wpAny_Expr_any (wpAny_Call_method_lateS rfl (few_args (.cons hm .nil) rfl) hl (wpAny_Name (hL.load D.Y.X.hE.kind ⟨"list", "list.append", PySem.F.plainAttrs_list, PySem.F.slot_list_append, PySem.F.type_list_append, ⟨_, hg, rfl⟩, fun b hb => by cases hb; exact ⟨_, hg, rfl⟩, ?_⟩) hd)) D.Y.inter rfl
 refine callWith_builtin (plain_args (.cons hm .nil) _ _) ?_
 rw [hm.ns]
 refine evalArgs_plain (spliced_cons (hm.v D.Y.X σ Z _ E S.st (SG.rg S h fun v _ Z' r S' e' hr h=>spliced_nil ?_)))
 have h:=h.lim
 have hlt:l.length < lLine:=of_decide_eq_true h.1
 refine wpAny_list_append_plain (items:=ws.toArray) ⟨n,R.at hi rfl e' hg⟩ (fun h' hp hsb=>?_) (by rw [List.size_toArray,g3.length]; exact Nat.le_of_lt (Nat.lt_of_lt_of_le hlt lLine_le))
 obtain ⟨n',hn'⟩:=hp
 rw [List.push_toArray] at hn'
 exact h.2 (Z'.up Z'.G h' Z'.s.toks) (S'.upd (R.ext e'.ext) hi rfl hx (fun c o hc ec=>(hsb.2 c hc).trans ec) hn' (.ol (ws:=ws++[r]) (n:=n') ((e'.les g3).append (.single hr)) (by rw [List.length_append]; exact hlt)) fun h=>nomatch h)
theorem s_rev {apos cp qp : Pos} (hx : C.N[i]? = some x) (hd : (x == ("__debug__" : Str)) = false) (hl : (apos.endLine == cp.line) = true) : SB C (.rev i) (.Expr (.Call (.Attribute (.Name x p) "reverse" apos) [] [] cp) qp) := fun D {GL P Z σ Q E} S h => by
 obtain ⟨l,hi,h⟩:=SG.slot (as:=asO) .ol (fun o f=>asO_of) h
 cases S.own hi hx rfl with | @mk m' α o R _ _ hL hg ho =>
 cases ho with | @ol _ ws n g3 g4 =>
 have hg' : Z.s.heap.get? (α i) = some { cls := .type "list", dict := none, data := .seq ws.toArray n, slots := #[] } := hg
 refine wpAny_Expr_any (wpAny_Call_method_lateS rfl (few_args (C := C) .nil rfl) hl (wpAny_Name (hL.load D.Y.X.hE.kind ⟨"list", "list.reverse", PySem.F.plainAttrs_list, PySem.F.slot_list_reverse, PySem.F.type_list_reverse, ⟨_, hg, rfl⟩, fun b hb => by cases hb; exact ⟨_, hg, rfl⟩, ?_⟩) hd)) D.Y.inter rfl
 refine callWith_builtin (plain_args (C:=C) .nil _ _) (args_ok (C:=C) .nil S.st fun Z' vs e' hr=>?_)
 cases (show vs=[] from hr)
 have hg₁:=R.at hi rfl e' hg'
 have S':=S.step e'
 refine call_meets PySem.F.slot_list_reverse ⟨_,hg₁,rfl⟩ PySem.F.entry_list_reverse (PySem.F.args_list_reverse_1 _) (AutoListH.list_reverse_list_0 (α i) ws.toArray n (by rw [List.size_toArray]; exact g3.le g4)) ⟨hg₁,?_⟩
 have hn':(Z'.s.heap.update (α i) (Obj.mapSeq fun x=>x.reverse)).get? (α i)=some (ownList ws.reverse n):=by
  rw [Heap.get?_update_self _ hg₁ (by rw [mapSeq_reverse]; rfl),mapSeq_reverse]
  rfl
 exact h (Z'.up Z'.G _ Z'.s.toks) (S'.upd (R.ext e'.ext) hi rfl hx (fun c o hc ec=>((Heap.SameBut.update ..).2 c hc).trans ec) hn' (.ol (ws:=ws.reverse) (n:=n) (e'.les g3).reverse (by rw [List.length_reverse]; exact g4)) fun h=>nomatch h)
theorem s_setL {kp : Pos} (hx : C.N[i]? = some x) (hd : (x == ("__debug__" : Str)) = false) (hk : EB C a e1) (hm : EB C m e2) (hn : noSwap e2) : SB C (.setL i a m) (.Assign [.Subscript (.Name x p) e1 kp] e2 pos) := fun D {GL P Z σ Q E} S h => by
 obtain ⟨l,hi,h⟩:=SG.slot (as:=asQ) .sl (fun o f=>asQ_of) h
 refine wpAny_Assign_Subscript (hm.v D.Y.X σ Z _ E S.st (SG.rg S h fun va _ Z₁ r₁ S₁ e₁ hr₁ h=>?_)) (hn _ _ _)
 cases S₁.own hi hx rfl with | @mk m' α o R _ _ hL hg ho =>
 cases ho with | @sl _ ws n _ g1 g2 g3 g4 =>
 refine wpAny_Name (hL.load D.Y.X.hE.kind (hk.v D.Y.X σ Z₁ _ E S₁.st (SG.rg S₁ h fun vk _ Z₂ r₂ S₂ e₂ hr₂ h=>?_))) hd
 cases SG.int hr₂ h with | @mk K t h =>
 have h:=h.lim
 have hK:=and2 h.1
 have k1:0≤K:=of_decide_eq_true hK.1
 have k2:K < l.length:=of_decide_eq_true hK.2
 have hl:(ws.toArray.size:Int)=l.length:=by rw [List.size_toArray,g3.length]
 refine wpAny_setItem_list (l:=α i) (items:=ws.toArray) ⟨o,R.at hi rfl e₂ hg,g1,n,g2⟩ k1 (Int.lt_of_lt_of_le k2 (Int.ofNat_le.mpr (Nat.le_trans g4 (by decide)))) (by rw [hl]; exact k2) fun h' hlst hsb=>?_
 obtain ⟨o',q1,q2,n',q3⟩:=hlst
 rw [List.setIfInBounds_toArray] at q3
 exact h.2 (Z₂.up Z₂.G h' Z₂.s.toks) (S₂.upd (R.ext e₂.ext) hi rfl hx (fun c o hc ec=>(hsb.2 c hc).trans ec) q1 (.sl (ws:=ws.set K.toNat r₁) q2 q3 ((e₂.les g3).set _ (e₂.le hr₁)) (by rw [List.length_set]; exact g4)) fun h=>nomatch h)
theorem stored_pairs {kvs:List (Int × Value)} {l:List (Int × Int)} (hp:pairsAre kvs l) (k v:Int) (t:Tok):pairsAre (stored kvs k (.int v t)) (dictPut l k v):=by
 have hlen:kvs.length=l.length:=by have:=congrArg List.length hp.1; rw [List.length_map,List.length_map] at this; exact this
 have hany:(kvs.any fun kv=>decide (kv.1=k))=l.any fun p=>p.1 == k:=by
  have h1:(kvs.map (·.1)).any (fun z=>decide (z=k))=(l.map (·.1)).any (fun z=>decide (z=k)):=by rw [hp.1]
  rw [List.any_map,List.any_map] at h1
  exact h1
 unfold stored dictPut
 rw [hany]
 cases l.any fun p=>p.1 == k with
 | true =>
  refine ⟨?_,fun j p hj=>?_⟩
  ·rw [if_pos rfl,if_pos rfl,keys_map_store kvs k (.int v t),hp.1,List.map_map]
   refine List.map_congr_left fun p _=>?_
   show p.1=(if (p.1 == k)=true then (p.1,v) else p).1
   split <;> rfl
  ·rw [if_pos rfl,List.getElem?_map] at hj
   obtain ⟨q,hq,rfl⟩:=Option.map_eq_some_iff.mp hj
   obtain ⟨u,hu⟩:=hp.2 j q hq
   rw [if_pos rfl,List.getElem?_map,hu]
   by_cases e:q.1=k
   ·exact ⟨t,by simp [e]⟩
   ·exact ⟨u,by simp [e]⟩
 | false =>
  refine ⟨by rw [if_neg (by decide),if_neg (by decide),List.map_append,List.map_append,hp.1]; rfl,fun j p hj=>?_⟩
  rw [if_neg (by decide)] at hj ⊢
  rw [List.getElem?_append] at hj ⊢
  rw [hlen]
  by_cases hlt:j < l.length
  ·rw [if_pos hlt] at hj ⊢; exact hp.2 j p hj
  ·rw [if_neg hlt] at hj ⊢
   revert hj
   cases j - l.length with
   | zero=>intro hj; cases (show some (k,v)=some p from hj); exact ⟨t,rfl⟩
   | succ z=>intro hj; exact nomatch (List.getElem?_nil.symm.trans (List.getElem?_cons_succ.symm.trans hj))
theorem dictPut_len (l:List (Int × Int)) (k v:Int):(dictPut l k v).length≤l.length + 1:=by
 unfold dictPut
 split
 ·rw [List.length_map]; exact Nat.le_succ _
 ·rw [List.length_append]; exact Nat.le_refl _
theorem s_setD {kp : Pos} (hx : C.N[i]? = some x) (hd : (x == ("__debug__" : Str)) = false) (hk : EB C a e1) (hm : EB C m e2) (hn : noSwap e2) : SB C (.setD i a m) (.Assign [.Subscript (.Name x p) e1 kp] e2 pos) := fun D {GL P Z σ Q E} S h => by
 obtain ⟨l,hi,h⟩:=SG.slot (as:=asD) .od (fun o f=>asD_of) h
 refine wpAny_Assign_Subscript (hm.v D.Y.X σ Z _ E S.st (SG.rg S h fun va _ Z₁ r₁ S₁ e₁ hr₁ h=>?_)) (hn _ _ _)
 cases S₁.own hi hx rfl with | @mk m' α o R _ _ hL hg ho =>
 cases ho with | @od _ kvs _ g1 g2 g3 =>
 refine wpAny_Name (hL.load D.Y.X.hE.kind (hk.v D.Y.X σ Z₁ _ E S₁.st (SG.rg S₁ h fun vk _ Z₂ r₂ S₂ e₂ hr₂ h=>?_))) hd
 cases SG.int hr₂ h with | @mk K t h=>cases SG.int hr₁ h with | @mk V u h =>
 have h:=h.lim
 have hlt:l.length < lLine:=of_decide_eq_true h.1
 have hlen:kvs.length=l.length:=by have:=congrArg List.length g2.1; rw [List.length_map,List.length_map] at this; exact this
 refine wpAny_setItem_pairs (knd:=intKind D.Y.X.prog D.Y.X.w) (kvs:=kvs) (intKind_is _ _ _ _) (g1.of (R.at hi rfl e₂ hg)) (fun h' hd hsb=>?_) (by rw [hlen]; exact Nat.le_of_lt (Nat.lt_of_lt_of_le hlt lLine_le))
 obtain ⟨o',es,ep,q1,q2⟩:=hd
 exact h.2 (Z₂.up Z₂.G h' _) (S₂.upd (R.ext e₂.ext) hi rfl hx (fun c o hc ec=>(hsb.2 c hc).trans ec) q1 (.od (kvs:=stored kvs K (.int V u)) ⟨es,ep,q2⟩ (stored_pairs g2 K V u) (Nat.le_trans (dictPut_len _ _ _) hlt)) fun _=>rfl)
theorem s_exprD {fn : Str} {f : Nat} {fp cp qp : Pos} (h1 : C.kinds fn = some .globalImplicit) (h2 : (fn == ("__debug__" : Str)) = false) (h3 : FTL.lookup fn = some f) (hx : C.N[i]? = some x) (hd : (x == ("__debug__" : Str)) = false) (hm : EBs C ms es) :
  SB C (.exprD f i ms) (.Expr (.Call (.Name fn fp) (.Name x q::es) [] cp) qp):=fun D {GL P Z σ Q E} S h=>by
 obtain ⟨e1,o,fd,e2,e3⟩:=D.Y.X.stat.fn fn f h3
 have hr:RG D.Y.X.F D.Y.X.l (fun _ (b:List (Int × Int)) a=>b=a) Z (fun d _=>SG D.Y GL P Q E ((evEs D.Y.X.Φ ms σ).bind fun vs=>(D.Δ f d vs).bind fun _=>nx σ)) E (asE σ[i]? .ok):=by
  have h:SG D.Y GL P Q E (asE σ[i]? fun d=>(evEs D.Y.X.Φ ms σ).bind fun vs=>(D.Δ f d vs).bind fun _=>nx σ):=h
  cases hv:σ[i]? with
  | none=>rw [hv] at h; exact h
  | some sv=>rw [hv] at h; cases sv with
   | od d=>exact fun Z' v _ e=>by cases (show v=d from e); exact h
   | rd d=>exact fun Z' v _ e=>by cases (show v=d from e); exact h
   | _=>exact h
 obtain ⟨ad,d,k1,k2,hr⟩:=S.st.dict hx hr
 have h:SG D.Y GL P Q E ((evEs D.Y.X.Φ ms σ).bind fun vs=>(D.Δ f d vs).bind fun _=>nx σ):=hr Z d (.refl S.ext.inn) rfl
 refine wpAny_Expr_any (wpAny_Call_ofName (Name_function_global D.Y.X.hE.kind ((D.Y.X.hE.kinds fn).trans h1) (loadGlobal_global (mg:=D.Y.X.mg) (by rw [D.Y.X.hE.glob]; exact D.Y.X.stat.g.keeps S.st.W) e1 ?_) h2)) D.Y.inter rfl
 refine callWith_function (o:=o) (fd:=fd) ?_
 show wpAny D.Y.X.M D.Y.X.A (evalArgs (.ref f) true ((false,eval (.Name x q) D.Y.env)::backTo cp (starEach es D.Y.env)) []) _ E Z.s
 refine evalArgs_plain (spliced_cons (wpAny_Name (k1.load D.Y.X.hE.kind (es_ok hm D.Y.X cp σ Z _ E S.st (SG.rg S h fun vs _ Z₁ rs S₁ x₁ hrs h=>?_))) hd))
 exact ⟨⟨S₁.st.W _ _ e2,e3⟩,D.dcalls f d vs Z₁ ad rs _ E S₁.ready (k2.on x₁) hrs (SG.rg S₁ h fun v _ Z₂ r₂ S₂ x₂ hr₂ h=>h Z₂ S₂)⟩
end
end Mine
end
section
set_option tactic.hygienic false
open PySem PySem.Calls PyProof.Rows PySem.SeqAt PySem.W
namespace Mine
section
variable {C:CK} {a b c m:ME} {e e1 e2 e3:Expr} {ms:List ME} {es:List Expr} {x y:Str} {i j:Nat} {p q pos:Pos}
theorem ExcCls.cls {h : Heap} (x : ExcCls h) : h.get? 33 = some (excClassObj "Raised" "Raised" 33 32 [.type "Exception"] excTail true [] [] false none none (some (.ref 15)) none (some (.str "Raised" 189)) (some (.str "Raised" 197)) (some (.bool true)) "Exception.__new__") := x.1
theorem raise_own {prog:Program} {w:World} {A:Around} {env:Env} {s:Shared} {x:Sem Value} {Q:Flow→Shared→Prop} {E:Value→Shared→Prop} (hh:A.handled=none)
  (h:wpAny (model prog w) A x (fun v s₁=>∃ e d t0,v=.ref e∧ExcCls s₁.heap∧s₁.heap.get? e=some { cls:=Rc,dict:=some d,data:=.fields #[.ref t0,.none,.none,.none,.bool false,.none] }∧E (.ref e) s₁) E s) :
  wpAny (model prog w) A (raiseStmt env (some x) none) Q E s:=by
 unfold raiseStmt
 refine wpAny_bind (wpAny_mono h (fun v s₁ h₁=>?_) fun _ _ x=>x)
 refine cps fun Γ₀ fi₀=>?_
 obtain ⟨e,dx,t0,rfl,X,he,hE⟩:=h₁
 have hC:=X.cls
 have hcB : (Value.ref 33 :: excTail).contains (.type "BaseException") = true := by rw [List.contains_cons]; rfl
 obtain ⟨hp,g,d,tk,os⟩:=s₁
 refine fi₀ ?_
 unfold Rc at he
 repeat (first | with_reducible refine wpAny_loadPart_at he ?_ | with_reducible refine wpAny_loadPart_at hC ?_ | (with_reducible refine wpAny_isSubtype_exc hC ?_; rw [hcB]) | wp_step)
 exact wpAny_raiseNew_none hh hE
theorem XMade.ex {F:Addr→Prop} {l:List Env} {G:GH} {h h':Heap} {e:Addr} {t:List Nat} {c:List AV} (x:XMade F G h e t c h') (hF:∀ b,F b→FrS l b) (hf:FrOK h l) (hg:GFr G l):XIn l .fresh G h e t c h':=by
 cases x with | @mk d t0 x1 x1s x2 x3 x4 x5 xv =>
 cases xv with | @mk m v1 a2 o2 ws n2 t1 z1 z2 z3 z4 z5 z6 z7 z8 z9 z10 z11 =>
 have hf':=hf.slots x1s
 have key:∀ b o,h'.get? b=some o→b≠e→b ∉ l.filterMap (·.frame)→(hideAll h' (e::l.filterMap (·.frame))).get? b=some o:=fun b o hb h1 h2 =>
  hideAll_get _ hb (fun hm=>(List.mem_cons.mp hm).elim h1 h2)
 have frames:∀ {l':List Env},(∀ env ∈ l',env ∈ l)→h'.FunFrames (hideAll h' (e::l.filterMap (·.frame))) l':=by
  intro l'
  induction l' with
  | nil=>intro _; trivial
  | cons env l' ih =>
   intro hm
   have he:=hm env (.head _)
   cases hf' env he with | @mk L o' es' n' q0 q1 q2 q3 =>
   exact ⟨q0,⟨L,o',q1,hideAll_none _ (List.mem_cons_of_mem _ (List.mem_filterMap.mpr ⟨env,he,q1⟩)),q2,fun vs hv=>by rw [q3] at hv; cases hv⟩,ih fun e' he'=>hm e' (.tail _ he')⟩
 have notFrame:∀ b,h.get? b=none→b ∉ l.filterMap (·.frame):=fun b hb hm=>by
  refine cps fun Γ₀ fi₀=>?_
  obtain ⟨env,he,hfr⟩:=List.mem_filterMap.mp hm
  refine fi₀ ?_
  cases hf env he with | mk q0 q1 q2 q3=>cases q1.symm.trans hfr; rw [hb] at q2; cases q2
 have ha2:(hideAll h' (e::l.filterMap (·.frame))).get? a2=some o2:=by
  refine key a2 o2 z6 (fun q=>?_) fun hm=>?_
  ·subst q; cases x5.symm.trans z6; cases z8
  ·rcases z11 with z | z
   ·obtain ⟨env,he,hfr⟩:=List.mem_filterMap.mp hm
    rw [hg env he a2 hfr] at z; cases z
   ·exact notFrame a2 z hm
 exact .mk (fun b o hb hnf=>key b o (x1 b o hb fun f=>hnf (hF b f)) (fun q=>by rw [q,x2] at hb; cases hb) hnf)
  ⟨fun b o hb=>of_hideAll _ hb,hideAll_none _ (.head _),frames (fun _ h=>h),_,_,x5,rfl,rfl,rfl,(by decide:1 < 6),rfl⟩ (fun b o hb _=>x1s b o hb)
  (.mk (z1.at fun o ho=>key _ _ ho x4 (notFrame d x3)) z2 z3 z4 z5 ha2 z7 z8 z9 z10 z11)
theorem s_raise {fn : Str} {f : Nat} {fp cp : Pos} (h1 : C.kinds fn = some .globalImplicit) (h2 : (fn == ("__debug__" : Str)) = false) (h3 : FTL.lookup fn = some f) (hm : EBs C ms es) : SB C (.raise f ms) (.Raise (some (.Call (.Name fn fp) es [] cp)) none pos) := fun D {GL P Z σ Q E} S h => by
 refine cps fun Γ₀ fi₀=>?_
 obtain ⟨e1,o,fd,e2,e3⟩:=D.Y.X.stat.fn fn f h3
 refine fi₀ ?_
 rw [arm_exec_Raise]
 refine wpAny_bind (wpAny_standAt ?_)
 show wpAny _ D.Y.X.A (raiseStmt D.Y.env (some (do let v ← eval (.Call (.Name fn fp) es [] cp) D.Y.env; standAt pos; pure v)) none) Q E Z.s
 refine raise_own D.Y.X.handled (wpAny_bind (wpAny_Call_ofName (Name_function_global D.Y.X.hE.kind ((D.Y.X.hE.kinds fn).trans h1) (loadGlobal_global (mg:=D.Y.X.mg) (by rw [D.Y.X.hE.glob]; exact D.Y.X.stat.g.keeps S.st.W) e1 ?_) h2)))
 refine callWith_function (o:=o) (fd:=fd) (args_ok hm S.st (SG.rg S h fun vs _ Z₁ rs S₁ x₁ hrs h=>⟨⟨S₁.st.W _ _ e2,e3⟩,?_⟩))
 cases hM:D.Μ f vs with
 | none=>rw [hM] at h; exact (show False from h).elim
 | some q =>
  obtain ⟨t,c⟩:=q
  rw [hM] at h
  have h:∀ e s,EX D.Y t c e s→E e s:=h
  refine D.makers f vs t c Z₁ rs _ E hM S₁.ready hrs fun e h' tk hx=>wpAny_bind (wpAny_standAt (wpAny_pure ?_))
  have hx':=hx.ex (fun b=>(D.Y.hF b).mp) S₁.frOK S₁.gfr
  cases hx with | @mk d t0 x1 x1s x2 x3 x4 x5 xv =>
  refine ⟨e,d,t0,rfl,⟨x1 _ _ (S₁.st.W _ _ D.Y.X.stat.cls.1) (D.Y.X.Wn _ _ D.Y.X.stat.cls.1),?_⟩,x5,?_⟩
  ·obtain ⟨mN,⟨o,es,ep,ho,r⟩,z⟩:=D.Y.X.stat.cls.2
   exact ⟨mN,⟨o,es,ep,x1 _ _ (S₁.st.W _ _ ho) (D.Y.X.Wn _ _ ho),r⟩,z⟩
  ·rw [S₁.sh]
   exact h _ _ (.mk (kx:=.fresh) True.intro (hx'.weak S₁.ext fun _=>D.Y.sub))
theorem closure_none {scope:Scope} {env:Env} (h:∀ y ∈ scope.names,y.2≠.free):closureFor scope env=pure []:=by
 have:∀ (n:List (Str × NameKind)) (cs:List (Str × Addr)),(∀ y ∈ n,y.2≠.free)→(forIn n cs fun (x:Str × NameKind) (r:List (Str × Addr)) =>
      if (x.snd == NameKind.free)=true then do
       let a ← cellOf env x.fst
       pure (ForInStep.yield ((x.fst,a)::r))
      else (pure (ForInStep.yield r):Sem _))=pure cs:=by
  intro n
  induction n with
  | nil=>intro cs _; rfl
  | cons x n ih =>
   intro cs hn
   rw [List.forIn_cons,show (x.2 == NameKind.free)=false from beq_false_of_ne (hn x (.head _))]
   exact ih cs fun y hy=>hn y (.tail _ hy)
 exact (congrArg (fun m=>m >>= pure) (this scope.names [] h)).trans rfl
theorem paired_none {vs ys:List Value} (hp:Paired (fun _ y=>y=Value.none) vs ys):ys=List.replicate vs.length .none:=by
 induction hp with
 | nil=>rfl
 | cons h1 _ ih=>rw [h1,ih]; rfl
theorem s_ownC {scope:Scope} {n:ME} {ne:Expr} {k0:Nat} {kp px gp cp sp:Pos} {z:Str} (hx:C.N[i]?=some y) (ky:C.kinds y=some .local) (hl:(p.line == sp.line)=true) (hz:(scope.names.any fun w=>w.1 == y && (w.2 == .local || w.2 == .cell))=false)
  (hs : scopeOk C scope z [] = true) (hfr : scope.names.all (fun w => w.2 != .free) = true) (hn : EB C n ne) (hk : C.kinds ("range" : Str) = some .globalImplicit) :
  SB C (.ownC i n) (.Assign [.Name y p] (.ListComp (.Constant .none k0 kp) [⟨.Name z px, .Call (.Name ("range" : Str) gp) [ne] [] cp, [], 0⟩] scope sp) pos) := fun D {GL P Z σ Q E} S h => by
 have hs:=scope_ok hs
 have hb:D.Y.env.blockKind=.function:=by unfold Env.blockKind; rw [D.Y.X.hE.kind]; rfl
 have hy:D.Y.env.kindOf y=some .local:=(D.Y.X.hE.kinds y).trans ky
 have hsw : swapsWith (.ListComp (.Constant .none k0 kp) [⟨.Name z px, .Call (.Name ("range" : Str) gp) [ne] [] cp, [], 0⟩] scope sp) (some (.Name y p)) pos.line D.Y.env = pure true := by
  show (pure (D.Y.env.blockKind == .function && D.Y.env.kindOf y == some .local && p.line == sp.line && !(scope.names.any fun w=>w.1 == y && (w.2 == .local || w.2 == .cell))):Sem Bool)=_
  rw [hb,hy,hl,hz]; rfl
 refine wpAny_Assign_ListComp_free (fun _=>true) (fun _ y=>y=.none) hsw (closure_none fun w hw=>bne_iff_ne.mp (List.all_eq_true.mp hfr w hw)) hs.cell hs.kind hs.loc hs.here hy (by rw [D.Y.X.hE.kind]; rfl) ?_ (fun _=>rfl)
 have hr:RG D.Y.X.F D.Y.X.l (fun _ (b:List AV) a=>b=a) Z (fun l _=>∃ N,l=rangeVals N∧rgOk N=true∧SG D.Y GL P Q E (nx (σ.set i (.sl (List.replicate N.toNat .none))))) E ((evE D.Y.X.Φ n σ).bind fun x=>itemsOf .rng x .ok):=by
  have h:SG D.Y GL P Q E ((evE D.Y.X.Φ n σ).bind fun x=>asI x fun n=>lim (rgOk n) (nx (σ.set i (.sl (List.replicate n.toNat .none))))):=h
  cases hx:evE D.Y.X.Φ n σ with
  | ok v =>
   rw [hx] at h
   cases v with
   | int N =>
    have h:=SG.lim h
    show RG _ _ _ _ _ _ (lim (rgOk N) (.ok (rangeVals N)))
    rw [h.1]
    exact fun Z' r _ hr=>⟨N,hr,h⟩
   | _=>exact h
  | exn t c=>rw [hx] at h; exact ⟨fun b=>(D.Y.hF b).mp,.of S h⟩
  | stuck=>rw [hx] at h; exact h
 refine iter_ok (.rng hn hk) S.st hr fun m Z₁ I fp s₂ Pw St _ x₁ hq w=>?_
 refine cps fun Γ₀ fi₀=>?_
 obtain ⟨N,rfl,hN,h⟩:=hq Z₁ m (.refl x₁.inn) rfl
 have S₁:=S.step x₁
 obtain ⟨m,α,R⟩:=id S₁.row
 obtain ⟨oL,_,_,hL,_⟩:=Ns_get R.ns
 refine fi₀ ?_
 have neI:∀ {b o},Z₁.s.heap.get? b=some o→b ∉ [I]:=fun e z=>by rw [List.mem_singleton.mp z,w.new] at e; cases e
 refine ⟨I,fp,[I],_,Pw,St,m,rfl,w.W,w.small,w.st,w.fpl,neI hL,R.ns.keeps w.keep,⟨fun Ca j v s₃ m₃ E' _ _ _ _ _ _=>wpAny_tests_nil ⟨rfl,s₃.heap,s₃.toks,rfl,fun _ _ e=>e⟩,fun Ca j v s₃ m₃ E' _ _ _ _ _ _ _=>wpAny_Constant_none ⟨rfl,s₃.heap,s₃.toks,rfl,fun _ _ e=>e⟩⟩,fun D' h' tk ys vs hD hlD hplD hvl hP hF hn' hkeep=>?_⟩
 have hD':Z₁.s.heap.get? D'=none:=match e:Z₁.s.heap.get? D' with
  | none=>rfl
  | some o=>absurd (hD.symm.trans (w.keep D' o e)) (fun z=>nomatch z)
 have f:=S₁.fresh R hD'
 have keep:∀ b o,b≠D.Y.env.locals→Z₁.s.heap.get? b=some o→h'.get? b=some o:=fun b o hb e=>hkeep b o hb (neI e) (w.keep b o e)
 have hys:ys.toList=List.replicate N.toNat Value.none:=by
  have h2:=paired_none hF
  rw [List.filter_eq_self.mpr (fun _ _=>rfl),hvl,range_len] at h2
  exact h2
 obtain ⟨nn,hnn⟩:=hplD
 rw [w.sh]
 refine h (Z₁.up Z₁.G h' tk) (S₁.put (b:=D.Y.env.locals) (a:=D') R R.mu (fun c o hc e=>keep c o hc e) hn' (fun z c hz=>?_) (fun j z _ h1 h2=>⟨(R.own j z h1 h2).2.1.1,f.2.2 j z h1 h2⟩) (fun j w z hj hw hl=>?_) (fun w hw=>?_) fun _=>⟨f.1,f.2.1,_,hnn⟩)
 ·have q:=R.cells z c hz
  exact ⟨_,_,keep c _ q.2.2 q.1.choose_spec.choose_spec.1,q.1.choose_spec.choose_spec.2⟩
 ·cases hl with
  | loc g1 g2=>exact .loc g1 ((if_neg fun e=>hj (nodup_get D.Y.names (e ▸ hw) hx)).trans g2)
  | cell g1 g2 g3=>exact .cell g1 g2 ⟨_,keep _ _ (R.cells w _ g2).2.2 g3.choose_spec.1,g3.choose_spec.2⟩
 ·cases hx.symm.trans hw
  refine .own (.loc hy (if_pos rfl)) hnn (.sl (ws:=List.replicate N.toNat .none) rfl (by rw [← hys]) (replicate_rep (v:=.none) (show Rep _ .none .none from rfl) _) ?_) fun h=>nomatch h
  rw [List.length_replicate]; exact Int.toNat_le.mpr (of_decide_eq_true (and2 hN).2)
end
end Mine
end
section
set_option tactic.hygienic false
open PySem PySem.Calls PyProof.Rows PySem.SeqAt PySem.W
namespace Mine
section
variable {C:CK} {Y:FX C} {GL GL' P P':GH} {Z:ZS} {σ:Env'} {Q:Flow→Shared→Prop} {E:Value→Shared→Prop}
theorem EX.passes {M:Model} {t:List Nat} {c:List AV}:PassesOwn M Y.X.A Y.env (EX Y t c):=by
 intro e s' h
 cases h with | @mk a kx h' tk hk hx =>
 cases hx with | @mk B d z1 z2 z3 z4 =>
 have hfr:Y.X.A.frames=some (Y.env::Y.outer):=Y.X.frames.trans (congrArg some Y.hl)
 rw [Y.hl] at z1 z2
 refine note_x (s:={ Y.Z0.s with heap:=h',toks:=tk }) hfr Y.frame z2 hk fun h₁ x₁ u₁=>?_
 obtain ⟨oe,vs,he,hc,hdict,hd,hsz,T,oT,ts,g1,g2,g3,g4,g5,g6⟩:=id x₁.there
 unfold cameBackBy
 refine wpAny_bind (wpAny_field he hd g1 ?_)
 rw [if_neg (show ¬ (Value.ref T == Value.none)=true from fun h=>nomatch h)]
 refine flight_x (s:={ Y.Z0.s with heap:=h₁,toks:=tk }) x₁ fun h₂ x₂ u₂=>?_
 rw [Y.frame] at x₂
 exact .mk (kx:=.fly (rawInt Y.env.locals)) (Or.inr rfl) (.mk (by rw [Y.hl]; exact z1) (by rw [Y.hl]; exact x₂) ((z3.trans u₁).trans u₂) z4)
def EO (Y:FX C) (o:Out) (e:Value) (s:Shared):Prop:=match o with
 | .exn t c=>EX Y t c e s
 | _=>False
theorem EO.passes {M:Model} {o:Out}:PassesOwn M Y.X.A Y.env (EO Y o):=by
 cases o with
 | exn t c=>exact EX.passes
 | _=>exact fun e s h=>h.elim
theorem SG.eo {o:Out} (h:SG Y GL P Q E o):SG Y GL P Q (EO Y o) o∧∀ e s,EO Y o e s→E e s:=by
 cases o with
 | exn t c=>exact ⟨fun _ _ h=>h,h⟩
 | _=>exact ⟨h,fun _ _ h=>h.elim⟩
theorem FRow.turn {m:Str→Option Value} {α:Nat→Addr} {G:GH} {h h':Heap} {I:Addr} {o:Obj} (R:FRow Y (P.add I o) G h m α σ) (h0I:Y.h0.get? I=none) (hk:∀ b q,b≠I→h.get? b=some q→h'.get? b=some q)
  (hP':∀ a,a≠I→P a=none→P' a=none):FRow Y P' G h' m α σ:=by
 have mu:∀ {a},Mu (P.add I o) G Y.h0 a→a≠I∧Mu P' G Y.h0 a:=fun {a} x =>
  have hne:a≠I:=fun q=>by subst q; exact Option.some_ne_none _ ((GH.add_self ..).symm.trans x.2.1)
  ⟨hne,x.1,hP' _ hne ((GH.add_ne P I o hne).symm.trans x.2.1),x.2.2⟩
 refine ⟨?_,(mu R.mu).2,fun y c hy=>?_,fun i sv y hi hy=>(R.slot i sv y hi hy).turn (fun r hl=>?_) (fun _ _ e=>e) fun q e hz=>hk _ q (hz.elim (fun hz=>(mu (R.own i sv hi hz).1).1) fun hz z=>?_) e,fun i sv hi hz=>?_,R.apart⟩
 ·obtain ⟨ob,es,ep,hob,r⟩:=R.ns
  exact ⟨ob,es,ep,hk _ ob (mu R.mu).1 hob,r⟩
 ·have q:=R.cells y c hy
  exact ⟨⟨_,_,hk c _ (mu q.2.1).1 q.1.choose_spec.choose_spec.1,q.1.choose_spec.choose_spec.2⟩,(mu q.2.1).2,q.2.2⟩
 ·cases hl with
  | loc g1 g2=>exact .loc g1 g2
  | cell g1 g2 g3=>exact .cell g1 g2 ⟨_,hk _ _ (mu (R.cells y _ g2).2.1).1 g3.choose_spec.1,g3.choose_spec.2⟩
 ·exact Option.some_ne_none _ (hz.2.choose_spec.symm.trans ((congrArg Y.h0.get? z).trans h0I))
 ·have q:=R.own i sv hi hz
  exact ⟨(mu q.1).2,q.2.1,_,hk _ _ (mu q.1).1 q.2.2.choose_spec⟩
theorem FS.turn' {h':Heap} {t:Tok} {I:Addr} {o:Obj} (S:FS Y GL (P.add I o) Z σ) (h0I:Y.h0.get? I=none) (hk:∀ b q,b≠I→Z.s.heap.get? b=some q→h'.get? b=some q) (hP':∀ a,a≠I→P a=none→P' a=none)
  (hin:∀ b q,P' b=some q→(b=I∧h'.get? b=some q)∨(b≠I∧P b=some q)):FS Y GL P' (Z.up Z.G h' t) σ:=by
 have hGI:Z.G I=none:=S.disj I o (GH.add_self ..)
 have up:∀ {b q},b≠I→P b=some q→(P.add I o) b=some q:=fun h e=>(GH.add_ne _ _ _ h).trans e
 exact ⟨⟨S.ext.le,S.ext.new,fun b q e n=>hk b q (fun z=>by subst z; rw [h0I] at e; cases e) (S.ext.keep b q e n),fun b q e=>⟨_,hk b _ (fun z=>by subst z; rw [h0I] at e; cases e) (S.ext.slots b q e).choose_spec⟩,fun b q e=>hk b q (fun z=>by subst z; exact Option.some_ne_none _ ((show Z.G b=some q from e).symm.trans hGI)) (S.ext.inn b q e)⟩,
  S.low,fun b q e=>(hin b q e).elim And.right fun z=>hk b q z.1 (S.prot b q (up z.1 z.2)),fun b q e=>(hin b q e).elim (fun z=>z.1 ▸ hGI) fun z=>S.disj b q (up z.1 z.2),fun b q e=>(hin b q e).elim (fun z=>z.1 ▸ h0I) fun z=>S.pnew b q (up z.1 z.2),
  S.row.elim fun m x=>x.elim fun α R=>⟨m,α,R.turn h0I hk hP'⟩,by show { Z.s with heap:=h',toks:=t }=_; rw [S.sh]; rfl⟩
theorem FS.turn {h':Heap} {t:Tok} {I:Addr} {o o':Obj} (S:FS Y GL (P.add I o) Z σ) (h0I:Y.h0.get? I=none) (hk:∀ b q,b≠I→Z.s.heap.get? b=some q→h'.get? b=some q) (ho':h'.get? I=some o'):FS Y GL (P.add I o') (Z.up Z.G h' t) σ :=
 S.turn' h0I hk (fun a ha hp=>(GH.add_ne _ _ _ ha).trans hp) fun b q e=>by
  by_cases z:b=I
  ·subst z; rw [GH.add_self] at e; cases e; exact .inl ⟨rfl,ho'⟩
  ·exact .inr ⟨z,(GH.add_ne _ _ _ z).symm.trans e⟩
theorem FS.leave {h':Heap} {t:Tok} {I:Addr} {o:Obj} (S:FS Y GL (P.add I o) Z σ) (h0I:Y.h0.get? I=none) (hPI:P I=none) (hk:∀ b q,b≠I→Z.s.heap.get? b=some q→h'.get? b=some q):FS Y GL P (Z.up Z.G h' t) σ :=
 S.turn' h0I hk (fun _ _ h=>h) fun b q e=>.inr ⟨fun z=>(by subst z; rw [hPI] at e; cases e),e⟩
theorem FS.enter {h':Heap} {t:Tok} {I:Addr} {o:Obj} (S:FS Y GL P Z σ) (hI:Z.s.heap.get? I=none) (hk:∀ b q,Z.s.heap.get? b=some q→h'.get? b=some q) (ho:h'.get? I=some o):FS Y GL (P.add I o) (Z.up Z.G h' t) σ∧Y.h0.get? I=none∧P I=none:=by
 have e:Stp Y.X.F Z (Z.up Z.G h' t):=⟨.of_keep S.ext.inn hk,rfl⟩
 have S':=S.step e
 obtain ⟨m,α,R⟩:=id S.row
 have f:=S.fresh R hI
 have R':=R.ext e.ext
 have fresh:∀ {b q},Z.s.heap.get? b=some q→b≠I:=fun e z=>by subst z; rw [hI] at e; cases e
 have mu:∀ {a ob},Z.s.heap.get? a=some ob→Mu P Z.G Y.h0 a→Mu (P.add I o) Z.G Y.h0 a:=fun hob x=>⟨x.1,(GH.add_ne _ _ _ (fresh hob)).trans x.2.1,x.2.2⟩
 obtain ⟨oL,_,_,hL,_⟩:=Ns_get R.ns
 refine ⟨⟨S'.ext,S'.low,fun b q e=>(GH.add_cases e).elim (fun z=>by rw [z.1,z.2]; exact ho) (S'.prot b q),fun b q e=>(GH.add_cases e).elim (fun z=>by rw [z.1]; exact f.1.1) (S'.disj b q),fun b q e=>(GH.add_cases e).elim (fun z=>by rw [z.1]; exact f.1.2.2) (S'.pnew b q),⟨m,α,R'.ns,mu hL R.mu,fun y c hy=>?_,R'.slot,fun i sv hi hz=>?_,R.apart⟩,S'.sh⟩,f.1.2.2,f.1.2.1⟩
 ·have q:=R.cells y c hy
  exact ⟨(R'.cells y c hy).1,mu q.1.choose_spec.choose_spec.1 q.2.1,q.2.2⟩
 ·have q:=R.own i sv hi hz
  exact ⟨mu q.2.2.choose_spec q.1,q.2.1,(R'.own i sv hi hz).2.2⟩
theorem FS.lower (S:FS Y GL P Z σ) (hl:∀ a o,GL' a=some o→Z.G a=some o):FS Y GL' P Z σ:=⟨S.ext,hl,S.prot,S.disj,S.pnew,S.row,S.sh⟩
inductive TgtE (C:CK):IK→List Nat→Expr→Prop
 | name {k:IK} {i:Nat} {x:Str} {p:Pos}:k≠.lst→C.N[i]?=some x→storable C x=true→TgtE C k [i] (.Name x p)
 | tup {is:List Nat} {ts:List Expr} {n:Nat} {p:Pos}:TgE C is ts→TgtE C .lst is (.Tuple ts n p)
theorem parts_name {α:Type} {k:IK} (h:k≠.lst) (v:AV) (f:List AV→R α):partsR k v f=f [v]:=by
 cases k with
 | lst=>exact absurd rfl h
 | _=>rfl
theorem target_ok {Qu:Unit→Shared→Prop} {k:IK} {is:List Nat} {tg:Expr} {r:Value} {a:AV} {f:Env'→Out} (ht:TgtE C k is tg) (hr:Rep Z.G r a) (S:FS Y GL P Z σ) (hs:(partsR k a fun vs=>setAll σ is vs f)≠.stuck)
  (hQ:∀ Z' σ',FS Y GL P Z' σ'→(partsR k a fun vs=>setAll σ is vs f)=f σ'→Qu () Z'.s):wpAny Y.X.M Y.X.A (assign tg Y.env r) Qu E Z.s:=by
 cases ht with
 | name hk h1 h2=>exact wpAny_assign_Name (store_val S h1 h2 hr fun Z' S' _=>hQ Z' _ S' (parts_name hk a _))
 | tup h =>
  cases a with
  | tup l=>exact assign_tuple h hr hs S hQ
  | _=>exact absurd rfl hs
theorem owned_ok {Qu:Unit→Shared→Prop} {k:IK} {is:List Nat} {tg:Expr} {I:Addr} {s:Shared} {v:Value} {a:AV} {f:List AV→Out} {G:GH} (ht:TgtE C k is tg) (hr:Rep G v a) (hs:partsR k a f≠.stuck) (li:k=.lst→∃ ax j,s.heap.IsListIter I ax j) (hQ:Qu () s) :
  wpAny Y.X.M Y.X.A (letOwnedTupleGo tg (.ref I) v) Qu E s:=by
 cases ht with
 | name=>exact wpAny_pure hQ
 | tup h =>
  cases a with
  | tup l =>
   obtain ⟨ax,j,hj⟩:=li rfl
   cases hr.1
   exact wpAny_letOwnedTupleGo_listiter hj hQ
  | _=>exact absurd rfl hs
end
section
variable {C:CK} {c:ME} {b:List MS} {e tg ie:Expr} {bd:List Stmt} {pos:Pos} {k:IK} {is:List Nat} {n:ME}
def WhQ (I:Nat→Shared→Prop) (Q:Flow→Shared→Prop) (n:Nat) (f:Flow) (s:Shared):Prop:=match f with
 | .next=>∃ m,m < n∧I m s
 | .cont=>∃ m,m < n∧I m s
 | .brk=>Q .next s
 | .ret v=>Q (.ret v) s
def WhT (M:Model) (A:Around) (I:Nat→Shared→Prop) (Q:Flow→Shared→Prop) (E:Value→Shared→Prop) (bd:List Stmt) (env:Env) (n:Nat) (b:Bool) (s:Shared):Prop:=match b with
 | true=>wpAny M A (execs bd env) (WhQ I Q n) E s
 | false=>Q .next s
def LpT (M:Model) (A:Around) (I:Nat→Shared→Prop) (Q:Flow→Shared→Prop) (E:Value→Shared→Prop) (tg:Expr) (it:Value) (bd:List Stmt) (env:Env) (n:Nat) (r:Option Value) (s:Shared):Prop:=match r with
 | none=>Q .next s
 | some v=>wpAny M A (letOwnedTupleGo tg it v) (fun _ s=>wpAny M A (assign tg env v) (fun _ s=>wpAny M A (execs bd env) (WhQ I Q n) E s) E s) E s
theorem wh_rule {prog:Program} {w:World} {A:Around} {test:Expr} {bd:List Stmt} {env:Env} {pos:Pos} {Q:Flow→Shared→Prop} {E:Value→Shared→Prop} {s:Shared} (hp:PassesOwn (model prog w) A env E) (I:Nat→Shared→Prop)
  (turn:∀ n s,I n s→wpAny (model prog w) A (isTrue test env (eval test env)) (WhT (model prog w) A I Q E bd env n) E s) (n:Nat) (h:I n s):wpAny (model prog w) A (exec (.While test bd [] pos) env) Q E s:=by
 refine wpAny_While (codeAny_whileLoop I (fun n s hi=>wpAny_passesOwn hp (wpAny_mono (turn n s hi) (fun b s h=>?_) fun _ _ h=>h)) n h)
 cases b with
 | false=>exact wpAny_execs_nil h
 | true=>exact wpAny_passesOwn hp (wpAny_mono h (fun f s h=>by cases f <;> exact h) fun _ _ h=>h)
theorem lp_rule {prog:Program} {w:World} {A:Around} {tg:Expr} {it:Value} {bd:List Stmt} {env:Env} {Q:Flow→Shared→Prop} {E:Value→Shared→Prop} {s:Shared} (hp:PassesOwn (model prog w) A env E) (I:Nat→Shared→Prop)
  (turn:∀ n s,I n s→wpAny (model prog w) A (pyNext it) (LpT (model prog w) A I Q E tg it bd env n) E s) (n:Nat) (h:I n s):codeAny (model prog w) A (.forLoop tg it bd [] env) (fun r s'=>match r with | .ok f=>Q f s' | .error e=>cameBackBy (model prog w) A env E e s') s:=by
 refine codeAny_forLoop_any I (fun n s hi=>wpAny_passesOwn hp (wpAny_mono (turn n s hi) (fun r s h=>?_) fun _ _ h=>h)) n h
 cases r with
 | none=>exact wpAny_execs_nil h
 | some v=>exact wpAny_passesOwn hp (wpAny_mono h (fun _ _ h=>wpAny_passesOwn hp (wpAny_mono h (fun _ _ h=>wpAny_passesOwn hp (wpAny_mono h (fun f s h=>by cases f <;> exact h) fun _ _ h=>h)) fun _ _ h=>h)) fun _ _ h=>h)
theorem iter_go {T:Env'→Turn} {n:Nat} {σ σ':Env'} {o:Out} (hi:iter T (n + 1) σ=some o) (h:T σ=.again σ'):iter T n σ'=some o:=by
 have hi:(match T σ with
  | .again σ'=>iter T n σ'
  | .stop o=>some o)=some o:=hi
 rw [h] at hi
 exact hi
theorem iter_st {T:Env'→Turn} {n:Nat} {σ:Env'} {o o':Out} (hi:iter T (n + 1) σ=some o) (h:T σ=.stop o'):o'=o:=by
 have hi:(match T σ with
  | .again σ'=>iter T n σ'
  | .stop o=>some o)=some o:=hi
 rw [h] at hi
 exact Option.some.inj hi
theorem wh_r {r:R AV} {b:Out} {σ:Env'} {q:R Bool}:(r.bind fun v=>asB v .ok)=q→whTurn r b σ=match q with
 | .ok t=>(match t with | true=>turnOf b | false=>.stop (nx σ))
 | .exn t c=>.stop (.exn t c)
 | .stuck=>.stop .stuck:=fun h=>by
 subst h
 rfl
inductive WhI (Y:FX C) (GL P:GH) (T:Env'→Turn) (o:Out) (n:Nat):Shared→Prop
 | mk {Z:ZS} {σ:Env'} (S:FS Y GL P Z σ) (h:iter T n σ=some o):WhI Y GL P T o n Z.s
theorem s_whil (hc:EB C c e) (hb:SBs C b bd):SB C (.whil c b) (.While e bd [] pos):=fun D {GL P Z σ Q E} S h=>by
 obtain ⟨h,hE⟩:=h.eo
 refine wpAny_mono (E:=EO D.Y (evS D.Y.X.Φ D.Μ D.Δ (.whil c b) σ)) ?_ (fun _ _ x=>x) hE
 have hns:evS D.Y.X.Φ D.Μ D.Δ (.whil c b) σ≠.stuck:=fun e=>by rw [e] at h; exact h
 refine (loopSem_iter hns).elim fun n hn=>?_
 have hn:iter (fun σ=>whTurn (evE D.Y.X.Φ c σ) (evSs D.Y.X.Φ D.Μ D.Δ b σ) σ) n σ=some (evS D.Y.X.Φ D.Μ D.Δ (.whil c b) σ):=hn
 clear hE hns
 revert hn h
 generalize evS D.Y.X.Φ D.Μ D.Δ (.whil c b) σ=o
 generalize hT:(fun σ=>whTurn (evE D.Y.X.Φ c σ) (evSs D.Y.X.Φ D.Μ D.Δ b σ) σ)=T
 intro h hn
 refine wh_rule EO.passes (WhI D.Y GL P T o) ?_ n (.mk S hn)
 intro n s' w
 cases w with | @mk Z' σ' S' hi =>
 cases n with
 | zero=>cases hi
 | succ n =>
  refine hc.t D.Y.X σ' Z' _ _ S'.st ?_
  have hg:=fun σ'=>iter_go (σ':=σ') hi
  have hs:=fun o'=>iter_st (o':=o') hi
  clear hi hn S
  rw [← congrFun hT σ'] at hg hs
  cases hx:evT D.Y.X.Φ c σ' with
  | ok q =>
   rw [wh_r hx] at hg hs
   intro Z'' r e hr
   cases (show r=q from hr)
   have S'':=S'.step e
   cases q with
   | false =>
    cases hs _ rfl
    exact h Z'' S''
   | true =>
    refine hb D S'' ?_
    have hg:∀ σ'',turnOf (evSs D.Y.X.Φ D.Μ D.Δ b σ')=.again σ''→iter T n σ''=some o:=hg
    have hs:∀ o',turnOf (evSs D.Y.X.Φ D.Μ D.Δ b σ')=.stop o'→o'=o:=hs
    generalize evSs D.Y.X.Φ D.Μ D.Δ b σ'=v at hg hs
    cases v with
    | ok ct =>
     cases ct with
     | next σ''=>exact fun Z₃ S₃=>⟨n,Nat.lt_succ_self n,.mk S₃ (hg _ rfl)⟩
     | cont σ''=>exact fun Z₃ S₃=>⟨n,Nat.lt_succ_self n,.mk S₃ (hg _ rfl)⟩
     | brk σ''=>cases hs _ rfl; exact fun Z₃ S₃=>h Z₃ S₃
     | ret v=>cases hs _ rfl; exact fun Z₃ r e hr=>h Z₃ r e hr
    | exn t c=>cases hs _ rfl; exact fun e s hx=>hx
    | stuck=>cases hs _ rfl; exact h.elim
  | exn t xc =>
   rw [wh_r hx] at hs
   cases hs _ rfl
   exact ⟨fun b=>(D.Y.hF b).mp,.of S' fun e s hx=>hx⟩
  | stuck =>
   rw [wh_r hx] at hs
   cases hs _ rfl
   exact h.elim
inductive LpI (Y:FX C) (GL P:GH) (I:Addr) (St:Nat→Heap→Prop) (N:Nat) (F:Nat→Env'→Out) (o:Out) (n:Nat):Shared→Prop
 | mk {Z:ZS} {σ:Env'} {j:Nat} {oJ:Obj} (S:FS Y GL (P.add I oJ) Z σ) (st:St j Z.s.heap) (hj:j≤N) (hn:n=N + 1 - j) (hf:F j σ=o):LpI Y GL P I St N F o n Z.s
theorem s_loop (hi:ItE C n k ie) (ht:TgtE C k is tg) (hb:SBs C b bd):SB C (.loop k is n b) (.For tg ie bd [] pos):=fun D {GL P Z σ Q E} S h=>by
 obtain ⟨h,hE⟩:=h.eo
 refine wpAny_mono (E:=EO D.Y (evS D.Y.X.Φ D.Μ D.Δ (.loop k is n b) σ)) ?_ (fun _ _ x=>x) hE
 have hev:evS D.Y.X.Φ D.Μ D.Δ (.loop k is n b) σ=(evE D.Y.X.Φ n σ).bind fun x=>itemsOf k x fun l=>forSem (fun v σ=>partsR k v fun vs=>setAll σ is vs (evSs D.Y.X.Φ D.Μ D.Δ b)) l σ:=rfl
 clear hE
 revert hev h
 generalize evS D.Y.X.Φ D.Μ D.Δ (.loop k is n b) σ=o
 generalize hstep:(fun (v:AV) (σ:Env')=>partsR k v fun vs=>setAll σ is vs (evSs D.Y.X.Φ D.Μ D.Δ b))=step
 have hstp:∀ v σ,step v σ=partsR k v fun vs=>setAll σ is vs (evSs D.Y.X.Φ D.Μ D.Δ b):=fun v σ=>(congrFun (congrFun hstep v) σ).symm
 intro h ho
 have hr:RG D.Y.X.F D.Y.X.l (fun _ (b:List AV) a=>b=a) Z (fun l _=>o=forSem step l σ) (EO D.Y o) ((evE D.Y.X.Φ n σ).bind fun x=>itemsOf k x .ok):=by
  have e:∀ x:AV,(itemsOf k x fun l=>forSem step l σ)=(itemsOf k x R.ok).bind fun l=>forSem step l σ:=fun x=>by
   cases k with
   | rng=>cases x with
    | int N=>show lim (rgOk N) _=(lim (rgOk N) _).bind _; cases rgOk N <;> rfl
    | _=>rfl
   | str=>cases x <;> rfl
   | lst=>cases x <;> rfl
  rw [funext e] at ho
  cases hx:evE D.Y.X.Φ n σ with
  | ok v =>
   rw [hx] at ho
   have ho:o=(itemsOf k v R.ok).bind fun l=>forSem step l σ:=ho
   cases hy:itemsOf k v R.ok with
   | ok l =>
    rw [hy] at ho
    show RG _ _ _ _ _ _ (itemsOf k v R.ok)
    rw [hy]
    exact fun Z' r _ e=>(show r=l from e) ▸ ho
   | exn t c=>rw [hy] at ho; rw [ho] at h ⊢; show RG _ _ _ _ _ _ (itemsOf k v R.ok); rw [hy]; exact ⟨fun b=>(D.Y.hF b).mp,.of S fun e s hx=>hx⟩
   | stuck=>rw [hy] at ho; rw [ho] at h; exact h.elim
  | exn t c=>rw [hx] at ho; rw [ho]; exact ⟨fun b=>(D.Y.hF b).mp,.of S fun e s hx=>hx⟩
  | stuck=>rw [hx] at ho; rw [ho] at h; exact h.elim
 refine wpAny_For (iter_ok hi S.st hr fun items Z₁ I fp s₂ Pw St _ x₁ hq w=>?_) (hi.folded _)
 have ho:o=forSem step items σ:=hq Z₁ items (.refl x₁.inn) rfl
 have S₁:=S.step x₁
 obtain ⟨oI,hoI⟩:=w.ob 0 _ w.st
 obtain ⟨S₂,h0I,hPI⟩:=S₁.enter (t:=s₂.toks) w.new w.keep hoI
 have hlow:=S₁.low
 have S₂':FS D.Y Z₁.G (P.add I oI) (Z₁.up Z₁.G s₂.heap s₂.toks) σ:=S₂.lower fun _ _ e=>e
 have hns:o≠.stuck:=fun e=>by rw [e] at h; exact h
 rw [w.sh]
 refine lp_rule EO.passes (LpI D.Y Z₁.G P I St items.length (fun j=>forSem step (items.drop j)) o) ?_ (items.length + 1) (@LpI.mk _ D.Y _ _ _ _ _ _ _ _ (Z₁.up Z₁.G s₂.heap s₂.toks) σ 0 oI S₂' w.st (Nat.zero_le _) rfl ho.symm)
 intro n s' x
 cases x with | @mk Z' σ' j oJ S' hst' hj hn hf =>
 subst hn
 clear S₂' hoI
 by_cases hlt:j < items.length
 ·refine w.W.item j _ _ _ hlt hst' fun v h₃ t₃ hv hst₃ hk₃=>?_
  obtain ⟨o₃,ho₃⟩:=w.ob (j + 1) h₃ hst₃
  have S₃:FS D.Y Z₁.G (P.add I o₃) (Z'.up Z'.G h₃ t₃) σ':=S'.turn (o':=o₃) h0I (fun b q hb e=>hk₃ b q (fun z=>hb (List.mem_singleton.mp z)) e) ho₃
  obtain ⟨a,ha,hr⟩:=w.hP j v hv
  have hr':Rep Z'.G v a:=rep_mono S₃.low _ _ hr
  have hd:items.drop j=a::items.drop (j + 1):=by
   rw [List.drop_eq_getElem_cons hlt]
   exact congrArg (·::_) (Option.some.inj ((List.getElem?_eq_getElem hlt).symm.trans ha))
  rw [hd] at hf
  have hf:(step a σ').bind (fun c=>forC c (forSem step (items.drop (j + 1))))=o:=hf
  have hsn:step a σ'≠.stuck:=fun e=>by rw [e] at hf; exact hns hf.symm
  rw [hstp] at hsn hf
  refine owned_ok ht hr' hsn (fun z=>(w.li z _ _ hst₃).elim fun ax x=>⟨ax,_,x⟩) ?_
  refine target_ok (Z:=Z'.up Z'.G h₃ t₃) ht hr' S₃ hsn fun Z₄ σ₁ S₄ he=>?_
  refine hb D S₄ ?_
  rw [he] at hf
  have stAt:∀ {Z₅:ZS} {σ₅:Env'},FS D.Y Z₁.G (P.add I o₃) Z₅ σ₅→St (j + 1) Z₅.s.heap:=fun {Z₅ σ₅} S₅=>by
   refine w.W.frame (j + 1) h₃ _ hst₃ fun b hb q e=>?_
   by_cases hbI:b=I
   ·subst hbI
    cases ho₃.symm.trans e
    exact S₅.prot b o₃ (GH.add_self ..)
   ·obtain ⟨q',hq'⟩:=w.fpG b hb hbI
    cases (S₃.ext.inn b q' (S₃.low b q' hq')).symm.trans e
    exact S₅.ext.inn b _ (S₅.low b _ hq')
  have turn:∀ {σ₂:Env'},forSem step (items.drop (j + 1)) σ₂=o→∀ Z₅,FS D.Y Z₁.G (P.add I o₃) Z₅ σ₂→∃ m,m < items.length + 1 - j∧LpI D.Y Z₁.G P I St items.length (fun j=>forSem step (items.drop j)) o m Z₅.s :=
   fun hf Z₅ S₅=>⟨items.length + 1 - (j + 1),by lia,.mk S₅ (stAt S₅) hlt rfl hf⟩
  cases hv':evSs D.Y.X.Φ D.Μ D.Δ b σ₁ with
  | ok ct =>
   rw [hv'] at hf
   cases ct with
   | next σ₂=>exact turn hf
   | cont σ₂=>exact turn hf
   | brk σ₂ =>
    have hf:nx σ₂=o:=hf
    subst hf
    exact fun Z₅ S₅=>h (Z₅.up Z₅.G Z₅.s.heap Z₅.s.toks) ((S₅.lower (fun a q e=>S₅.low a q (hlow a q e))).leave h0I hPI fun b q _ e=>e)
   | ret v =>
    have hf:R.ok (Ctl.ret v)=o:=hf
    subst hf
    exact fun Z₅ r e hr=>h Z₅ r e hr
  | exn t c =>
   rw [hv'] at hf
   have hf:R.exn t c=o:=hf
   subst hf
   exact fun e s hx=>hx
  | stuck=>rw [hv'] at hf; exact absurd hf.symm hns
 ·have hje:j=items.length:=by lia
  subst hje
  refine w.W.done _ _ _ hst' fun h₃ t₃ hk₃=>?_
  rw [List.drop_of_length_le (Nat.le_refl _)] at hf
  have hf:nx σ'=o:=hf
  subst hf
  exact h (Z'.up Z'.G h₃ t₃) ((S'.lower (fun a q e=>S'.low a q (hlow a q e))).leave h0I hPI fun b q hb e=>hk₃ b q (fun z=>hb (List.mem_singleton.mp z)) e)
end
end Mine
end
section
set_option tactic.hygienic false
open PySem PySem.Calls PyProof.Rows PySem.SeqAt PySem.W
open Builtin Builtin.ObjectAttr
namespace Mine
section
variable {prog:Program} {w:World} {A:Around} {E:Value→Shared→Prop} {h:Heap} {g:Array GenState} {d:Drawn} {t:Nat} {os:OsState}
variable {nm q:Str} {C N x:Addr} {bs:List Value} {sn:List Str} {sub:List Value} {ab:Bool} {col:Option Bool} {dd:Option Addr} {k0 k1 k2 k3 k5:Option Value} {newId:String}
 {mN mA:Str→Option Value} {name:Str} {v:Value}
theorem exc_load_entry {tk:Tok} {Q:Fin→Shared→Prop}
  (hC:h.get? C=some (excClassObj nm q C N bs excTail true sn sub ab col dd k0 k1 k2 k3 k5 newId)) (hn:h.Ns N mN) (hna:mN name=none)
  (hB : typeLookup (.type "Exception") name = pure none) (I : h.Inst x C mA) (hv : mA name = some v) (hq : Q (.done (.ret v)) ⟨h, g, d, t, os⟩) :
  wpAny (model prog w) A (Builtin.«object.__getattribute__» ⟨[.ref x,.str name tk],[]⟩) Q E ⟨h,g,d,t,os⟩:=by
 obtain ⟨o,hx,hc,hnc,hd⟩:=I
 rcases hd with ⟨_,hmA⟩ | ⟨dx,hdx,hne,hns⟩
 ·rw [hmA name] at hv; cases hv
 unfold Builtin.«object.__getattribute__»
 repeat (first | (with_reducible refine wpAny_loadPart_at hx ?_; rw [hc]) | (with_reducible refine wpAny_typeLookup_exc hC hn F.excBase_Exception.mroIs hB ?_; rw [hna]) | wp_step)
 split
 ·rename_i hcd
  exact absurd hcd (hnc _)
 unfold instanceDict
 repeat (first | (with_reducible refine wpAny_loadPart_at hx ?_; rw [hc]) | with_reducible refine wpAny_loadPart_at hC ?_ | wp_step)
 rw [hdx]
 repeat (first | (with_reducible refine wpAny_nsGet hns.ns ?_; rw [hv]) | wp_step)
 exact hq
theorem exc_check_ga {M:Model} {o:Obj} {nameV:Value} {Q:Unit→Shared→Prop} (hC:h.get? C=some (excClassObj nm q C N bs excTail true sn sub ab col dd k0 k1 k2 k3 k5 newId))
  (hx : h.get? x = some o) (hc : o.cls = .ref C) (hq : Q () ⟨h, g, d, t, os⟩) : wpAny M A (checkBuiltinCall "BaseException.__getattribute__" ⟨[.ref x, nameV], []⟩) Q E ⟨h, g, d, t, os⟩ := by
 have hk : builtinKind "BaseException.__getattribute__" = some .slot := by decide +kernel
 have hsplit : splitId "BaseException.__getattribute__" = some ("BaseException", "__getattribute__") := by decide +kernel
 have hcB : (Value.ref C :: excTail).contains (.type "BaseException") = true := by rw [List.contains_cons]; rfl
 have ha:=F.args_bexc_ga (.ref x) nameV
 simp only [checkBuiltinCall,hk,hsplit]
 refine wpAny_bind ?_
 ·unfold isInstance
  repeat (first | (with_reducible refine wpAny_loadPart_at hx ?_; rw [hc]) | (with_reducible refine wpAny_isSubtype_exc hC ?_; rw [hcB]) | wp_step)
  exact hq
theorem exc_load_attr {expr:Bool} {Q:Value→Shared→Prop}
  (hC : h.get? C = some (excClassObj nm q C N bs excTail true sn sub ab col dd k0 k1 k2 k3 k5 newId)) (hn : h.Ns N mN) (hng : mN "__getattribute__" = none) (hnh : mN "__getattr__" = none) (hna : mN name = none)
  (hB : typeLookup (.type "Exception") name = pure none) (I : h.Inst x C mA) (hv : mA name = some v) (hh : handedOut v = pure v) (hq : Q v ⟨h, g, d, t + 1, os⟩) :
  wpAny (model prog w) A (getAttr (.ref x) name expr) Q E ⟨h,g,d,t,os⟩:=by
 obtain ⟨o,hx,hc,_⟩:=id I
 have FB:=F.attrBase_Exception
 have f3:=FB.ga.bind (.ref x)
 have hx0 : (expr && onTheHeap (Value.builtin "BaseException.__getattribute__")) = false := by cases expr <;> rfl
 have hx2 : (Value.builtin "BaseException.__getattribute__" == Value.builtin "object.__getattribute__") = false := by decide +kernel
 have hx1 : (onTheHeap (Value.ref C) && Value.builtin "BaseException.__getattribute__" == Value.builtin "object.__getattribute__") = false := by rw [hx2]; rfl
 unfold getAttr getAttrBy
 repeat (any_goals (first | assumption | (with_reducible refine wpAny_loadPart_at hx ?_; rw [hc]) | (with_reducible refine wpAny_typeLookup_exc hC hn F.excBase_Exception.mroIs FB.ga.lookup ?_; rw [hng]) | (with_reducible refine wpAny_typeLookup_exc hC hn F.excBase_Exception.mroIs FB.noGetattr ?_; rw [hnh]) | wp_step))
 refine codeAny_call_builtin FB.ga.plain F.entry_bexc_ga (exc_check_ga hC hx hc (exc_load_entry hC hn hna hB I hv ?_))
 show wpAny _ _ (handedOut v) _ _ _
 rw [hh]
 exact wpAny_pure hq
end
theorem lk_attr : ∀ n ∈ (["code", "value", "errorcode", "level", "ret", "info", "is_noted", "line", "extra"] : List Str), typeLookup (.type "Exception") n = pure none := by
 intro n hn
 simp only [List.mem_cons,List.not_mem_nil,or_false] at hn
 rcases hn with rfl | rfl | rfl | rfl | rfl | rfl | rfl | rfl | rfl <;> (rw [typeLookup_type,builtinLookup_eq_fast]; kernel_rfl)
end Mine
end
section
set_option tactic.hygienic false
open PySem PySem.Calls PyProof.Rows PySem.SeqAt PySem.W
namespace Mine
section
variable {C:CK} {y:Str} {j:Nat} {p q pos:Pos}
theorem ClsNs.at {mN:Str→Option Value} (h:ClsNs mN) {n:Str} (hn:n ∈ clsFree):mN n=none:=h.free n hn
theorem exc_attr {prog:Program} {w:World} {A':Around} {env:Env} {name:Str} {e:Addr} {m ml:Str→Option Value} {v:Value} {Q:Value→Shared→Prop} {E:Value→Shared→Prop} {s:Shared}
  (hk : env.scope.kind = .function) (hy : env.kindOf y = some .local) (hd : (y == ("__debug__" : Str)) = false) (hn : s.heap.Ns env.locals ml) (hye : ml y = some (.ref e))
  (X : ExcCls s.heap) (I : s.heap.Inst e 33 m) (hnm : name ∈ clsFree) (hB : typeLookup (.type "Exception") name = pure none) (hv : m name = some v) (hh : handedOut v = pure v)
  (hQ:∀ tk,Q v { s with toks:=tk }):wpAny (model prog w) A' (eval (.Attribute (.Name y p) name q) env) Q E s:=by
 rw [arm_eval_Attribute]
 refine wpAny_bind (wpAny_Name (wpAny_loadName_local hk hy hn hye ?_) hd)
 refine wpAny_bind (wpAny_standAt ?_)
 refine cps fun Γ₀ fi₀=>?_
 obtain ⟨hp,g,d,tk,os⟩:=s
 obtain ⟨mN,hN,z⟩:=X.2
 refine fi₀ ?_
 refine wpAny_bind (wpAny_holding (exc_load_attr X.cls hN (z.at (.head _)) (z.at (.tail _ (.head _))) (z.at hnm) hB I hv hh ?_))
 exact wpAny_bind (wpAny_pure (wpAny_pure (hQ _)))
theorem in_cls : ∀ n ∈ (["code", "value", "errorcode", "level", "ret", "info", "is_noted", "line", "extra"] : List Str), n ∈ clsFree := fun n hn => .tail _ (.tail _ (.tail _ hn))
inductive Caught (env:Env) (G:GH) (h:Heap) (y:Str) (t:List Nat) (c:List AV):Prop
 | mk {ml m : Str → Option Value} {e a2 : Addr} {v2 : Value} {t1 : Tok} : h.Ns env.locals ml → ml y = some (.ref e) → ExcCls h → h.Inst e 33 m → m ("code" : Str) = some (.int 1 t1) → m ("value" : Str) = some v2 → m ("errorcode" : Str) = some (.ref a2) →
  Rep G v2 (.str t)→Rep G (.ref a2) (.tup c)→Caught env G h y t c
structure HName (C:CK) (j:Nat) (y:Str):Prop where
 n:C.N[j]?=some y
 d : (y == ("__debug__" : Str)) = false
 k:C.kinds y=some .local
abbrev faultE (y : Str) (pa q1 pb q2 pc q3 : Pos) (u : Nat) (pos : Pos) : Expr := .Tuple [.Attribute (.Name y pa) ("code" : Str) q1, .Attribute (.Name y pb) ("value" : Str) q2, .Attribute (.Name y pc) ("errorcode" : Str) q3] u pos
variable {Y:FX C} {GL P:GH} {Z:ZS} {σ:Env'} {E:Value→Shared→Prop} {A':Around} {t:List Nat} {c:List AV}
theorem fault_eval {pa q1 pb q2 pc q3:Pos} {u:Nat} {Q:Value→Shared→Prop} (hj:HName C j y) (S:FS Y GL P Z σ) (K:Caught Y.env Z.G Z.s.heap y t c) (hQ:∀ Z' r,FS Y GL P Z' σ→Rep Z'.G r (caught t c)→Q r Z'.s) :
  wpAny Y.X.M A' (eval (faultE y pa q1 pb q2 pc q3 u pos) Y.env) Q E Z.s:=by
 cases K with | @mk ml m e a2 v2 t1 k1 k2 k3 k4 k5 k6 k7 k8 k9 =>
 have h2:handedOut v2=pure v2:=by cases (show StrR t v2 from k8); rfl
 have go:=fun {name:Str} {v:Value} {Q:Value→Shared→Prop} {p q:Pos} (tk:Tok) (hn:name ∈ _)=>exc_attr (prog:=Y.X.prog) (w:=Y.X.w) (A':=A') (env:=Y.env) (E:=E) (s:={ Z.s with toks:=tk }) (y:=y) (p:=p) (q:=q) (name:=name) (v:=v) (Q:=Q) Y.X.hE.kind ((Y.X.hE.kinds _).trans hj.k) hj.d k1 k2 k3 k4 (in_cls _ hn) (lk_attr _ hn)
 refine wpAny_Tuple (spliced_cons (go Z.s.toks (.head _) k5 rfl fun t1=>spliced_cons (go t1 (.tail _ (.head _)) k6 h2 fun t2=>spliced_cons (go t2 (.tail _ (.tail _ (.head _))) k7 rfl fun t3=>spliced_nil ⟨by rw [sz16]; exact (by decide:3≤16777216),?_⟩))))
 exact VP.tup (F:=Y.X.F) (Z:=Z.tk t3) (l:=[.int 1,.str t,.tup c]) (fun Z' r e hr=>hQ Z' r (S.step (e:=⟨e.ext,e.sh⟩)) hr) S.ext.inn (.mk .mk (.mk k8 (.mk k9 rfl))) (show 3≤lLine by decide)
theorem FS.lost {h':Heap} {t:Tok} {v:Option Value} {m:Str→Option Value} {α:Nat→Addr} (S:FS Y GL P Z σ) (R:FRow Y P Z.G Z.s.heap m α σ) (hj:HName C j y) (hn:h'.Ns Y.env.locals (fun z=>if z=y then v else m z)) (hs:Heap.SameBut Y.env.locals Z.s.heap h'):FS Y GL P (Z.up Z.G h' t) (σ.set j .u):=by
 have f:=S.fresh R (Heap.get?_none_of_le (Nat.le_refl _))
 refine S.put (b:=Y.env.locals) (a:=Z.s.heap.objs.size) R R.mu (fun c o hc e=>(hs.2 c hc).trans e) hn (fun z c hz=>?_) (fun k z _ h1 h2=>⟨(R.own k z h1 h2).2.1.1,f.2.2 k z h1 h2⟩) (fun k w z hk hw hl=>?_) (fun w hw=>.u) fun h=>nomatch h
 ·have q:=R.cells z c hz
  exact ⟨_,q.1.choose_spec.sameBut hs q.2.2⟩
 ·cases hl with
  | loc g1 g2=>exact .loc g1 ((if_neg fun e=>hk (nodup_get Y.names (e ▸ hw) hj.n)).trans g2)
  | cell g1 g2 g3=>exact .cell g1 g2 (g3.sameBut hs (R.cells w _ g2).2.2)
theorem hpLocal {env:Env} (h:env.scope.kind=.function):(env.scope.kind == .class || (env.scope.kind == .module && env.locals != env.globals))=false:=by rw [h]; rfl
theorem name_goes {Q:Unit→Shared→Prop} (hj:HName C j y) (S:FS Y GL P Z σ) (hQ:∀ Z',FS Y GL P Z' (σ.set j .u)→Z'.G=Z.G→Q () Z'.s):wpAny Y.X.M A' (do bindName Y.env y .none; unbindBehindTheSuite Y.env y pos) Q E Z.s:=by
 refine cps fun Γ₀ fi₀=>?_
 obtain ⟨m,α,R⟩:=id S.row
 refine fi₀ ?_
 exact wpAny_nameGoes_keeps ((Y.X.hE.kinds y).trans hj.k) R.ns (hpLocal Y.X.hE.kind) fun h' v hn' hs=>hQ (Z.up Z.G h' _) (S.lost R hj hn' hs) rfl
theorem XIn.ext {F:Addr→Prop} {l:List Env} {G:GH} {h h' B:Heap} (hF:∀ b,F b ↔ FrS l b) (hG:G.In h) (hg:GFr G l) (hf:FrOK h l) (a:∀ b o,h.get? b=some o→¬ FrS l b→B.get? b=some o) (st:B.StaysIn h') (u:h.UpToSlots h'):Ext F G h G h':=by
 have keep:∀ b o,h.get? b=some o→¬ F b→h'.get? b=some o:=fun b o e n=>st b o (a b o e fun z=>n ((hF b).mpr z))
 have fr:∀ {b},F b→∃ env ∈ l,env.frame=some b:=fun h=>List.mem_filterMap.mp ((hF _).mp h)
 refine ⟨fun _ _ e=>e,fun _ _ e=>.inl e,keep,fun b o e=>?_,fun b o e=>keep b o (hG b o e) fun hm=>?_⟩
 ·by_cases hm:F b
  ·obtain ⟨env,he,hfr⟩:=fr hm
   cases hf env he with | mk q0 q1 q2 q3 =>
   cases q1.symm.trans hfr
   cases e.symm.trans q2
   exact u b o e fun vs z=>by rw [q3] at z; cases z
  ·exact ⟨o.slots,keep b o e hm⟩
 ·obtain ⟨env,he,hfr⟩:=fr hm
  rw [hg env he b hfr] at e; cases e
theorem handler_wp {hb : Stmt} {e : Addr} {Q : Flow → Shared → Prop} {h' : Heap} {tk : Tok} (hc : C.kinds ("Raised" : Str) = some .globalImplicit) (hj : HName C j y) (S : FS Y GL P Z σ) (x : XIn Y.X.l (.fly .none) Z.G Z.s.heap e t c h')
  (suite:∀ (A':Around) (Z':ZS) (E':Value→Shared→Prop),FS Y GL P Z' (σ.set j .u)→Caught Y.env Z'.G Z'.s.heap y t c →
   wpAny Y.X.M A' (execs [hb] Y.env) (fun f s₃=>wpAny Y.X.M Y.X.A (do bindName Y.env y .none; unbindBehindTheSuite Y.env y q) (fun _ s₅=>Q f s₅) E s₃) E' Z'.s) :
  wpAny Y.X.M Y.X.A (noteFrame (.ref e) Y.env) (fun _ s₂ => wpAny Y.X.M Y.X.A (setFlight (.ref e) none) (fun _ s₃ => wpAny Y.X.M Y.X.A (handleBy (.ref e) Y.env [.ExceptHandler (some (.Name ("Raised" : Str) p)) (some y) [hb] q]) Q E s₃) E s₂) E { Z.s with heap := h', toks := tk } := by
 cases x with | @mk B d xa xs u xv =>
 cases xv with | @mk m v1 a2 o2 ws n2 t1 z1 z2 z3 z4 z5 z6 z7 z8 z9 z10 z11 =>
 have hfr:Y.X.A.frames=some (Y.env::Y.outer):=Y.X.frames.trans (congrArg some Y.hl)
 have frOK:=S.frOK
 have gfr:=S.gfr
 have ext:=fun {h':Heap}=>XIn.ext (h':=h') Y.hF S.ext.inn gfr frOK xa
 rw [Y.hl] at xs
 refine note_x (s:={ Z.s with heap:=h',toks:=tk }) hfr Y.frame xs (.inl rfl) fun h₁ x₁ u₁=>?_
 refine flight_x (s:={ Z.s with heap:=h₁,toks:=tk }) (fr:=none) x₁ fun h₂ x₂ u₂=>?_
 have S₂:=S.step (Z':=Z.up Z.G h₂ tk) ⟨ext x₂.stays ((u.trans u₁).trans u₂),rfl⟩
 refine wpAny_handleBy_cons (codeAny_handlers_test ?_) (by intro q; cases q)
 refine Name_function_global Y.X.hE.kind ((Y.X.hE.kinds _).trans hc) (loadGlobal_global (mg:=Y.X.mg) (by rw [Y.X.hE.glob]; exact Y.X.stat.g.keeps S₂.st.W) Y.X.stat.clsName ?_) (by decide +kernel)
 refine cps fun Γ₀ fi₀=>?_
 obtain ⟨oe,vs,he,hcls,hdict,hd,hsz,ht⟩:=x₂.there
 refine fi₀ ?_
 refine wpAny_excMatches_sub_self (Y.X.stat.cls.keep S₂.st.W).cls he hcls rfl ?_
 refine codeAny_handlers_suite_as ?_
 refine flight_x (s:={ Z.s with heap:=h₂,toks:=tk }) (fr:=none) x₂ fun h₃ x₃ u₃=>?_
 have e₃:=ext x₃.stays (((u.trans u₁).trans u₂).trans u₃)
 have hB2:∀ b o,B.get? b=some o→h₃.get? b=some o:=x₃.stays
 refine cps fun Γ₀ fi₀=>?_
 obtain ⟨G₁,e₄,hG₁⟩:∃ G₁,Ext Y.X.F Z.G Z.s.heap G₁ h₃∧G₁ a2=some o2:=by
  rcases z11 with z | z
  ·exact ⟨Z.G,e₃,z⟩
  ·exact ⟨Z.G.add a2 o2,⟨fun b o e=>(GH.add_ne _ _ _ fun q=>by subst q; rw [S.ext.inn _ _ e] at z; cases z).trans e,fun b o e=>(GH.add_cases e).elim (fun q=>.inr (by rw [q.1]; exact z)) .inl,e₃.keep,e₃.slots,fun b o e=>(GH.add_cases e).elim (fun q=>by rw [q.1,q.2]; exact hB2 _ _ z6) (e₃.inn b o)⟩,GH.add_self ..⟩
 have S₃:FS Y GL P (Z.up G₁ h₃ tk) σ:=S.step ⟨e₄,rfl⟩
 obtain ⟨m₃,α₃,R₃⟩:=id S₃.row
 refine fi₀ ?_
 refine wpAny_storeName_local (s:=(Z.up G₁ h₃ tk).s) ((Y.X.hE.kinds y).trans hj.k) R₃.ns (fun h₄ hn₄ hs₄=>?_) (hpLocal Y.X.hE.kind)
 have S₄:=S₃.lost (t:=tk + 1) R₃ hj hn₄ hs₄
 refine suite _ ((Z.up G₁ h₃ tk).up G₁ h₄ (tk + 1)) _ S₄ ?_
 refine cps fun Γ₀ fi₀=>?_
 obtain ⟨oe₃,vs₃,he₃,hcls₃,hdict₃,hd₃,_,_⟩:=x₃.there
 obtain ⟨oL,esL,epL,hL,hLd,_⟩:=R₃.ns
 have hL:h₃.get? Y.env.locals=some oL:=hL
 have hel:e≠Y.env.locals:=fun z=>by rw [← z] at hL; cases he₃.symm.trans hL; cases hd₃.symm.trans hLd
 have hBL:B.get? Y.env.locals=none:=by
  obtain ⟨_,⟨L,o',q1,q2,_⟩,_⟩:=x₃.frames
  cases Y.frame.symm.trans q1; exact q2
 obtain ⟨od,esd,epd,hod,rest⟩:=id z1
 refine fi₀ ?_
 have hdl:d≠Y.env.locals:=fun z=>by rw [z,hBL] at hod; cases hod
 have hde:d≠e:=fun z=>by rw [z,x₃.new] at hod; cases hod
 have keep4:∀ b o,b≠Y.env.locals→h₃.get? b=some o→h₄.get? b=some o:=fun b o hb e=>(hs₄.2 b hb).trans e
 have no:∀ {G:GH} (a:Addr) (o:Obj),noG a=some o→G a=some o:=fun _ _ z=>nomatch z
 exact .mk hn₄ (if_pos rfl) (Y.X.stat.cls.keep S₄.st.W) ⟨oe₃,keep4 _ _ hel he₃,hcls₃,(fun c z=>by rw [hd₃] at z; cases z),.inr ⟨d,hdict₃,hde,z1.at fun o ho=>keep4 _ _ hdl (hB2 _ _ ho)⟩⟩ z2 z3 z4 (rep_mono no _ _ z5) ⟨.mk hG₁ z7 z8 (reps_mono no _ _ z9),z10⟩
end
section
variable {C:CK} {m:ME} {e:Expr} {x y:Str} {i j:Nat} {p p1 p2 p3 p4 q pos:Pos} {pa q1 pb q2 pc q3 q4:Pos} {u:Nat}
theorem s_tryR (hc : C.kinds ("Raised" : Str) = some .globalImplicit) (hj : HName C j y) (hm : EB C m e) :
  SB C (.tryR m j) (.Try [.Return (some e) p1] [.ExceptHandler (some (.Name ("Raised" : Str) p)) (some y) [.Return (some (faultE y pa q1 pb q2 pc q3 u q4)) p2] q] [] [] pos) := fun D {GL P Z σ Q E} S h => by
 refine wpAny_Try_except (wpAny_execs_cons (wpAny_Return_some (hm.v D.Y.X σ Z _ _ S.st ?_)))
 have h:SG D.Y GL P Q E (tryRO (evE D.Y.X.Φ m σ)):=h
 cases hx:evE D.Y.X.Φ m σ with
 | stuck=>rw [hx] at h; exact h
 | ok a =>
  rw [hx] at h
  exact fun Z' r ex hr=>h Z' r (S.step ex).fin hr
 | exn t c =>
  rw [hx] at h
  refine ⟨fun b=>(D.Y.hF b).mp,fun e' h' tk x=>handler_wp hc hj S x fun A' Z₁ E' S₁ K=>?_⟩
  refine wpAny_execs_cons (wpAny_Return_some (fault_eval hj S₁ K fun Z₂ r S₂ hr=>?_))
  exact name_goes hj S₂ fun Z₃ S₃ eG=>h Z₃ r S₃.fin (eG ▸ hr)
theorem s_tryA (hc : C.kinds ("Raised" : Str) = some .globalImplicit) (hj : HName C j y) (hx : C.N[i]? = some x) (hs : storable C x = true) (hxy : (x == y) = false) (hm : EB C m e) (hn : noSwap e) :
  SB C (.tryA i m j) (.Try [.Assign [.Name x p1] e p2] [.ExceptHandler (some (.Name ("Raised" : Str) p)) (some y) [.Assign [.Name x p3] (faultE y pa q1 pb q2 pc q3 u q4) p4] q] [] [] pos) := fun D {GL P Z σ Q E} S h => by
 refine wpAny_Try_except (wpAny_execs_cons (wpAny_Assign_Name (hm.v D.Y.X σ Z _ _ S.st ?_) (hn _ _ _)))
 have h:SG D.Y GL P Q E (tryAO (evE D.Y.X.Φ m σ) i j σ):=h
 cases hx':evE D.Y.X.Φ m σ with
 | stuck=>rw [hx'] at h; exact h
 | ok a =>
  rw [hx'] at h
  exact fun Z' r ex hr=>store_val (S.step ex) hx hs hr fun Z'' S'' _=>wpAny_execs_nil (wpAny_execs_nil (h Z'' S''))
 | exn t c =>
  rw [hx'] at h
  have hij:j≠i:=fun z=>by subst z; cases hx.symm.trans hj.n; rw [beq_self_eq_true] at hxy; cases hxy
  refine ⟨fun b=>(D.Y.hF b).mp,fun e' h' tk x=>handler_wp hc hj S x fun A' Z₁ E' S₁ K=>?_⟩
  refine wpAny_execs_cons (wpAny_Assign_Name (fault_eval hj S₁ K fun Z₂ r S₂ hr=>?_) rfl)
  refine store_val S₂ hx hs hr fun Z₃ S₃ _=>wpAny_execs_nil (name_goes hj S₃ fun Z₄ S₄ _=>?_)
  rw [List.set_comm _ _ hij,List.set_set] at S₄
  exact h Z₄ S₄
end
end Mine
end
section
set_option tactic.hygienic false
open PySem PySem.Calls PyProof.Rows PySem.SeqAt PySem.W
namespace Mine
theorem zip_lookup:∀ {ps:List Str} {vs:List Value} {n:Str},vs.length=ps.length→n ∈ ps→((ps.zip vs).lookup n).isSome=true
 | p::ps,[],n,h,_=>nomatch h
 | p::ps,v::vs,n,hl,hn=>by
  rw [List.zip_cons_cons,List.lookup_cons]
  cases e:n == p with
  | true=>rfl
  | false=>exact zip_lookup (Nat.succ.inj hl) ((List.mem_cons.mp hn).elim (fun z=>by rw [z,beq_self_eq_true] at e; cases e) id)
theorem fm_congr {α β:Type} {f g:α→Option β}:∀ {l:List α},(∀ n ∈ l,f n=g n)→l.filterMap f=l.filterMap g
 | [],_=>rfl
 | a::l,h=>by rw [List.filterMap_cons,List.filterMap_cons,h a (.head _),fm_congr fun n hn=>h n (.tail _ hn)]
theorem zip_binds:∀ {ps:List Str} {vs:List Value},vs.length=ps.length→ps.Nodup→(ps.filterMap fun n=>((ps.zip vs).lookup n).map fun v=>(n,v))=ps.zip vs
 | [],vs,_,_=>rfl
 | p::ps,[],h,_=>nomatch h
 | p::ps,v::vs,hl,hn=>by
  rw [List.nodup_cons] at hn
  rw [List.zip_cons_cons,List.filterMap_cons,List.lookup_cons,beq_self_eq_true]
  refine congrArg (_::·) (Eq.trans ?_ (zip_binds (Nat.succ.inj hl) hn.2))
  refine fm_congr fun n hm=>?_
  rw [List.lookup_cons,(beq_eq_false_iff_ne.mpr fun e=>hn.1 (e ▸ hm):(n == p)=false)]
theorem binds_plain {fd:FuncData} {vs:List Value} (h1:fd.params.posonlyargs=[]) (h2:fd.params.kwonlyargs=[]) (h3:fd.params.vararg=none) (h4:fd.params.kwarg=none) (h5:fd.defaults=.none)
  (hl:vs.length=(fd.params.args.map (·.arg)).length) (hn:(fd.params.args.map (·.arg)).Nodup):bindArgs fd ⟨vs,[]⟩=pure ((fd.params.args.map (·.arg)).zip vs):=by
 obtain ⟨_,_,⟨_,as,_,_,_⟩,_,_,_,_,df,_,_,_,_,_,_,_⟩:=fd
 cases h1
 cases h2
 cases h3
 cases h4
 cases h5
 generalize hps:as.map (·.arg)=ps at hl hn
 have e2:¬ (decide (vs.length > ps.length) && true)=true:=by rw [hl,decide_eq_false (Nat.lt_irrefl _)]; exact Bool.false_ne_true
 have hm:∀ k,¬ (!((ps.take k).filter (fun n=>((ps.zip vs).lookup n).isNone)).isEmpty)=true:=fun k=>by
  rw [List.filter_eq_nil_iff.mpr fun n hn'=>by rw [Option.isNone_eq_false_iff.mpr (zip_lookup hl (List.mem_of_mem_take hn'))]; exact Bool.false_ne_true]
  exact Bool.false_ne_true
 subst hps
 refine (if_neg e2).trans ((if_neg (hm _)).trans ?_)
 have e4:∀ k j:Nat,((as.map (·.arg)).drop k).zip (List.drop j ([]:List Value))=[]:=fun k j=>by rw [List.drop_nil,List.zip_nil_right]
 refine (congrArg (fun l:List (Str × Value)=>(forIn l _ _:Sem _) >>= _) (e4 _ _)).trans ?_
 refine (?_:(pure (List.filterMap _ (as.map (·.arg)++[])):Sem (List (Str × Value)))=_)
 rw [List.append_nil]
 exact congrArg pure (zip_binds hl hn)
structure DFacts (W0:Heap) (f:Addr) (fd:FuncData) (body:List Stmt):Prop where
 o : ∃ o, W0.get? f = some o ∧ o.data = .func fd ∧ o.cls = .type "function"
 body:fd.body=.stmts body
 clo:fd.closure=[]
 glob:fd.globals=mainGlobals
 blt:fd.builtins=builtinsNs
 kind:fd.scope.kind=.function
 co:fd.scope.isCoroutine=false
 gen:fd.scope.isGenerator=false
 code:W0.CodeRec fd.code fd.qualname
section
variable {prog:Program} {w:World} {W0:Heap} {A:Around} {s:Shared} {f:Addr} {fd:FuncData} {body:List Stmt}
theorem enter_wp {vals:List Value} {binds:List (Str × Value)} {Q:Value→Shared→Prop} {E:Value→Shared→Prop} (D:DFacts W0 f fd body) (hW:W0.StaysIn s.heap) (hlim:W0.NoLimit) (hroom:A.depth < recursionLimit)
  (hbind:BindsTo s fd ⟨vals,[]⟩ binds)
  (hkind:∀ x ∈ binds,fd.scope.names.lookup x.1=some .local∨(fd.scope.names.lookup x.1=some .cell∧((cellsFrom (s.heap.objs.size + 1) fd.scope.names []).lookup x.1).isSome=true))
  (h:∀ h₁ tk,Fr s.heap s.heap.objs.size h₁ (bindL (callEnvC fd s.heap.objs.size f).kindOf binds fun _=>none) →
   Cl s.heap.objs.size (cellsFrom (s.heap.objs.size + 1) fd.scope.names []) h₁ (bindC (callEnvC fd s.heap.objs.size f).kindOf binds fun _=>none) →
   wpAny (model prog w) (A.deeper (callEnvC fd s.heap.objs.size f)) (execs body (callEnvC fd s.heap.objs.size f))
    (fun fl s'=>Q (match fl with | .ret v=>v | _=>.none) s')
    (fun e s'=>wpAny (model prog w) (A.deeper (callEnvC fd s.heap.objs.size f)) (leaving (callEnvC fd s.heap.objs.size f) e) (fun _ s''=>E e s'') (fun e' s''=>E e' s'') s')
    { s with heap:=h₁,toks:=tk }):wpAny (model prog w) A (call (.ref f) vals) Q E s:=by
 obtain ⟨o,ho,hd,_⟩:=D.o
 refine wpAny_call (codeAny_call_function hroom (hW _ _ ho) hd D.co D.gen D.body (D.code.keeps hW) (hbind _ _ _ _ ?_))
 rw [D.clo]
 refine wpAny_newFunctionEnv_cells D.kind hkind fun env he s' x=>?_
 subst he
 obtain ⟨h₁,tk,rfl⟩:=x.toInCall.same
 exact ⟨(hlim.keeps hW).keeps x.toInCall.keep,codeAny_func (h h₁ tk ⟨x.toInCall.ns,x.toInCall.keep,x.toInCall.fresh⟩ ⟨x.cell,x.apart,x.above⟩)⟩
end
section
variable {kindOf:Str→Option NameKind}
theorem bindL_other:∀ {binds:List (Str × Value)} {m0:Str→Option Value} {x:Str},x ∉ binds.map (·.1)→bindL kindOf binds m0 x=m0 x
 | [],_,_,_=>rfl
 | (n,v)::r,m0,x,h=>by
  unfold bindL
  rw [bindL_other fun q=>h (.tail _ q)]
  split
  ·exact if_neg fun q:x=n=>h (by rw [q]; exact .head _)
  ·rfl
theorem bindL_get:∀ {binds:List (Str × Value)} {m0:Str→Option Value} {x:Str} {v:Value},(binds.map (·.1)).Nodup→(x,v) ∈ binds→kindOf x=some .local→bindL kindOf binds m0 x=some v
 | (n,v')::r,m0,x,v,hn,hm,hk=>by
  have hn:=List.nodup_cons.mp hn
  unfold bindL
  cases hm with
  | head=>rw [bindL_other hn.1,if_pos hk]; exact if_pos rfl
  | tail _ hm=>exact bindL_get hn.2 hm hk
theorem bindC_other:∀ {binds:List (Str × Value)} {m0:Str→Option Value} {x:Str},x ∉ binds.map (·.1)→bindC kindOf binds m0 x=m0 x
 | [],_,_,_=>rfl
 | (n,v)::r,m0,x,h=>by
  unfold bindC
  rw [bindC_other fun q=>h (.tail _ q)]
  split
  ·rfl
  ·exact if_neg fun q:x=n=>h (by rw [q]; exact .head _)
theorem bindC_get:∀ {binds:List (Str × Value)} {m0:Str→Option Value} {x:Str} {v:Value},(binds.map (·.1)).Nodup→(x,v) ∈ binds→kindOf x≠some .local→bindC kindOf binds m0 x=some v
 | (n,v')::r,m0,x,v,hn,hm,hk=>by
  have hn:=List.nodup_cons.mp hn
  unfold bindC
  cases hm with
  | head=>rw [bindC_other hn.1,if_neg hk]; exact if_pos rfl
  | tail _ hm=>exact bindC_get hn.2 hm hk
end
theorem cellsFrom_some:∀ {names:List (Str × NameKind)} {n:Nat} {acc:List (Str × Addr)} {x:Str},(names.lookup x=some .cell∨(acc.lookup x).isSome=true)→((cellsFrom n names acc).lookup x).isSome=true
 | [],n,acc,x,h=>h.elim (fun h=>nomatch h) id
 | (name,kind)::r,n,acc,x,h=>by
  unfold cellsFrom
  rw [List.lookup_cons] at h
  cases e:x == name with
  | true =>
   rw [e] at h
   split
   ·exact cellsFrom_some (.inr (by rw [List.lookup_cons,e]; rfl))
   ·rename_i hk
    exact cellsFrom_some (.inr (h.elim (fun h=>absurd (by cases h; rfl) hk) id))
  | false =>
   rw [e] at h
   split
   ·exact cellsFrom_some (h.imp id fun h=>by rw [List.lookup_cons,e]; exact h)
   ·exact cellsFrom_some h
inductive ArgOk (prog:Program) (w:World) (F:Addr→Prop) (G:GH) (h:Heap):Value→SV→Prop
 | val {v:Value} {a:AV}:Rep G v a→ArgOk prog w F G h v (.val a)
 | rd {a:Addr} {l:List (Int × Int)}:DictR prog w F h l a→ArgOk prog w F G h (.ref a) (.rd l)
noncomputable def mkC (fd:FuncData) (N:List Str):CK:=⟨N,fun x=>fd.scope.names.lookup x⟩
structure CallC (W0:Heap) (k:Nat) (A:Around) (l:List Env) (Z:ZS):Prop where
 frames:A.frames=some l
 handled:A.handled=none
 room:Room k A
 W:W0.StaysIn Z.s.heap
 Wn:∀ b o,W0.get? b=some o→¬ FrS l b
 fr:FrOK Z.s.heap l
 gfr:GFr Z.G l
 inG:Z.G.In Z.s.heap
def CallsOk (prog:Program) (w:World) (W0:Heap) (k:Nat) (Φ:Tab):Prop:=∀ (f:Nat) (args:List AV) (A:Around) (l:List Env) (Z:ZS) (vs:List Value) (Q E),CallC W0 k A l Z→RepAll Z.G vs args→RG (FrS l) l Rep Z Q E (Φ f args)→wpAny (model prog w) A (call (.ref f) vs) Q E Z.s
def DCallsOk (prog:Program) (w:World) (W0:Heap) (k:Nat) (Δ:DTab):Prop:=∀ (f:Nat) (d:List (Int × Int)) (args:List AV) (A:Around) (l:List Env) (Z:ZS) (a:Addr) (vs:List Value) (Q E),CallC W0 k A l Z→DictR prog w (FrS l) Z.s.heap d a→RepAll Z.G vs args→RG (FrS l) l Rep Z Q E (Δ f d args)→wpAny (model prog w) A (call (.ref f) (.ref a::vs)) Q E Z.s
def MakerAt (prog:Program) (w:World) (W0:Heap) (k:Nat) (f:Addr) (args:List AV) (t:List Nat) (c:List AV):Prop:=∀ (A:Around) (l:List Env) (Z:ZS) (vs:List Value) (Q E),CallC W0 k A l Z→RepAll Z.G vs args →
  (∀ e h' tk,XMade (FrS l) Z.G Z.s.heap e t c h'→Q (.ref e) { Z.s with heap:=h',toks:=tk })→wpAny (model prog w) A (call (.ref f) vs) Q E Z.s
def MakersOk (prog:Program) (w:World) (W0:Heap) (k:Nat) (Μ:MTab):Prop:=∀ (f:Nat) (args:List AV) (t:List Nat) (c:List AV),Μ f args=some (t,c)→MakerAt prog w W0 k f args t c
theorem room_down {k:Nat} {A:Around} {env:Env} (r:Room (k + 1) A):Room k (A.deeper env):=by
 have r1:=r.1
 have r2:=r.2
 exact ⟨(by lia:A.depth + 1 + 2 * k + 10 < recursionLimit),(by lia:A.units + 3 + 10 * k + 100 < cLine)⟩
section
variable {prog:Program} {w:World} {W0:Heap} {mg mb:Str→Option Value} {A:Around} {l:List Env} {Z:ZS} {f:Addr} {fd:FuncData} {body:List Stmt} {k:Nat} {Φ:Tab} {Μ:MTab} {Δ:DTab} {N:List Str} {L:Addr}
theorem frS_cons {env:Env} {a b:Addr} (hf:env.frame=some a):FrS (env::l) b ↔ b=a∨FrS l b:=by
 unfold FrS
 rw [List.filterMap_cons,hf]
 exact List.mem_cons
theorem CallC.deeper (c:CallC W0 (k + 1) A l Z) {env:Env} {h₁:Heap} {tk:Tok} (hf:env.frame=some L) (hL:Z.s.heap.get? L=none) (hW:W0.StaysIn h₁) (fr:FrOK h₁ (env::l)) (gfr:GFr Z.G (env::l)) (inG:Z.G.In h₁):CallC W0 k (A.deeper env) (env::l) (Z.up Z.G h₁ tk) :=
 ⟨by show A.frames.map _=_; rw [c.frames]; rfl,c.handled,room_down c.room,hW,fun b o e hm=>((frS_cons hf).mp hm).elim (fun q=>by rw [q] at e; rw [c.W _ _ e] at hL; cases hL) (c.Wn b o e),fr,gfr,inG⟩
variable (prog w W0 A l Z f fd k Φ Μ Δ N L)
noncomputable def begun (stat:Stat W0 mg mb) (calls:CallsOk prog w W0 k Φ) (hM:MakersOk prog w W0 k Μ) (hD:DCallsOk prog w W0 k Δ) (hN:N.Nodup) (D:DFacts W0 f fd body) (c:CallC W0 (k + 1) A l Z) (hL:Z.s.heap.get? L=none)
  (one:∀ x y c,(callEnvC fd L f).cells.lookup x=some c→(callEnvC fd L f).cells.lookup y=some c→x=y):FY (mkC fd N) :=
 have Wn:∀ b o,W0.get? b=some o→¬ FrS (callEnvC fd L f::l) b:=fun b o e hm=>((frS_cons (a:=L) rfl).mp hm).elim (fun q=>Option.some_ne_none _ ((c.W _ _ e).symm.trans (q ▸ hL))) (c.Wn b o e)
 have fr:(A.deeper (callEnvC fd L f)).frames=some (callEnvC fd L f::l):=congrArg (Option.map _) c.frames
 ⟨⟨⟨prog,w,W0,mg,mb,A.deeper (callEnvC fd L f),callEnvC fd L f::l,FrS (callEnvC fd L f::l),k,Φ,callEnvC fd L f,stat,fr,c.handled,room_down c.room,Wn,⟨D.kind,D.glob,D.blt,fun _=>rfl,fun x hx=>Option.isSome_iff_exists.mp (cellsFrom_some (.inl hx))⟩,
   fun f' args Z' vs Q E h1 h2 h3 h4 h5 h6=>calls f' args _ _ Z' vs Q E ⟨fr,c.handled,room_down c.room,h1,Wn,h2,h3,h4⟩ h5 h6⟩,l,Z,rfl,fun _=>Iff.rfl,rfl,c.W,c.fr,c.gfr,c.Wn,one,hN⟩,Μ,Δ,
  fun f' args t co Z' vs Q E h1 h2 h3 h4=>hM f' args t co h1 _ _ Z' vs Q E ⟨fr,c.handled,room_down c.room,h2.W,Wn,h2.fr,h2.gfr,h2.inG⟩ h3 h4,
  fun f' d args Z' a vs Q E h2 h3 h4 h5=>hD f' d args _ _ Z' a vs Q E ⟨fr,c.handled,room_down c.room,h2.W,Wn,h2.fr,h2.gfr,h2.inG⟩ h3 h4 h5⟩
variable {prog w W0 A l Z f fd k Φ Μ Δ N L}
variable (stat:Stat W0 mg mb) (calls:CallsOk prog w W0 k Φ) (hM:MakersOk prog w W0 k Μ) (hD:DCallsOk prog w W0 k Δ) (hN:N.Nodup) (D:DFacts W0 f fd body) (c:CallC W0 (k + 1) A l Z)
include stat calls hM hD hN D c
theorem begun_FS {h₁:Heap} {tk:Tok} {ps:List Str} {vals:List Value} {σ:Env'} (hL:Z.s.heap.get? Z.s.heap.objs.size=none) (one)
  (F:Fr Z.s.heap Z.s.heap.objs.size h₁ (bindL (callEnvC fd Z.s.heap.objs.size f).kindOf (ps.zip vals) fun _=>none))
  (X:Cl Z.s.heap.objs.size (cellsFrom (Z.s.heap.objs.size + 1) fd.scope.names []) h₁ (bindC (callEnvC fd Z.s.heap.objs.size f).kindOf (ps.zip vals) fun _=>none))
  (hnd:ps.Nodup) (hlen:vals.length=ps.length) (hps:∀ x ∈ ps,fd.scope.names.lookup x=some .local∨fd.scope.names.lookup x=some .cell)
  (hσ:∀ (i:Nat) (sv:SV) (x:Str),σ[i]?=some sv→N[i]?=some x→sv=.u∨∃ v,ps[i]?=some x∧vals[i]?=some v∧ArgOk prog w (FrS l) Z.G Z.s.heap v sv) (hown:∀ (i:Nat) (sv:SV),σ[i]?=some sv→sv.isOwn=false) :
  FS (begun prog w W0 A l Z f fd k Φ Μ Δ N Z.s.heap.objs.size stat calls hM hD hN D c hL one).Y Z.G (fun _=>none) (Z.up Z.G h₁ tk) σ:=by
 have h0:∀ {a:Addr},Z.s.heap.objs.size≤a→Z.s.heap.get? a=none:=fun ha=>Heap.get?_none_of_le ha
 have hg:∀ {a:Addr},Z.s.heap.objs.size≤a→Z.G a=none:=fun {a} ha=>match e:Z.G a with
  | none=>rfl
  | some o=>absurd ((c.inG a o e).symm.trans (h0 ha)) (Option.some_ne_none _)
 have hkeys:((ps.zip vals).map (·.1))=ps:=List.map_fst_zip (Nat.le_of_eq hlen.symm)
 have hnd':((ps.zip vals).map (·.1)).Nodup:=by rw [hkeys]; exact hnd
 refine ⟨.of_keep c.inG F.keep,fun _ _ e=>e,fun _ _ e=>(nomatch e),fun _ _ e=>(nomatch e),fun _ _ e=>(nomatch e),⟨_,(fun i=>match vals[i]? with | some (.ref a)=>a | _=>0),F.ns,⟨hg (Nat.le_refl _),rfl,h0 (Nat.le_refl _)⟩,fun x c hc=>?_,fun i sv x h1 h2=>?_,fun i sv h1 h2=>?_,fun i j a b h1 h2 h3=>?_⟩,rfl⟩
 ·have:=X.above x c (mem_of_lookup hc)
  exact ⟨⟨_,X.cell x c hc⟩,⟨hg (Nat.le_of_lt this),rfl,h0 (Nat.le_of_lt this)⟩,Nat.ne_of_gt this⟩
 ·rcases hσ i sv x h1 h2 with rfl | ⟨v,p1,p2,ha⟩
  ·exact .u
  ·have hmem:(x,v) ∈ ps.zip vals:=List.mem_of_getElem? (List.getElem?_zip_eq_some.mpr ⟨p1,p2⟩)
   have lead:Lead (callEnvC fd Z.s.heap.objs.size f) (bindL (callEnvC fd Z.s.heap.objs.size f).kindOf (ps.zip vals) fun _=>none) h₁ x v:=by
    rcases hps x (List.mem_of_getElem? p1) with hk | hk
    ·exact .loc hk (bindL_get hnd' hmem hk)
    ·obtain ⟨c,hc⟩:=Option.isSome_iff_exists.mp (cellsFrom_some (n:=Z.s.heap.objs.size + 1) (acc:=[]) (.inl hk))
     refine .cell hk hc ?_
     have:=X.cell x c hc
     rw [bindC_get hnd' hmem fun q=>nomatch (hk.symm.trans (show fd.scope.names.lookup x=some .local from q))] at this
     exact this
   cases ha with
   | val hr=>exact .val lead hr
   | @rd a ll hd =>
    cases hd with | mk q1 q2 q3 q4 =>
    obtain ⟨o,es,ep,ho,r⟩:=q1
    show FSlot _ _ _ _ _ _ _ _ _ (match vals[i]? with | some (.ref a)=>a | _=>(0:Addr)) _
    rw [p2]
    exact .rd lead ho (fun hm=>((frS_cons (a:=Z.s.heap.objs.size) rfl).mp hm).elim (fun q=>Option.some_ne_none _ (ho.symm.trans ((congrArg Z.s.heap.get? q).trans hL))) q3) (F.keep _ _ ho) ⟨es,ep,r⟩ q2 q4
 ·rw [hown i sv h1] at h2; cases h2
 ·rw [hown i a h1] at h3; cases h3
theorem body_wp {code:List MS} {h₁:Heap} {tk:Tok} {ps:List Str} {vals:List Value} {σ:Env'} {Q:Value→Shared→Prop} {E:Value→Shared→Prop} (hck:SBs (mkC fd N) code body)
  (F:Fr Z.s.heap Z.s.heap.objs.size h₁ (bindL (callEnvC fd Z.s.heap.objs.size f).kindOf (ps.zip vals) fun _=>none))
  (X:Cl Z.s.heap.objs.size (cellsFrom (Z.s.heap.objs.size + 1) fd.scope.names []) h₁ (bindC (callEnvC fd Z.s.heap.objs.size f).kindOf (ps.zip vals) fun _=>none))
  (hnd:ps.Nodup) (hlen:vals.length=ps.length) (hps:∀ x ∈ ps,fd.scope.names.lookup x=some .local∨fd.scope.names.lookup x=some .cell)
  (hσ:∀ (i:Nat) (sv:SV) (x:Str),σ[i]?=some sv→N[i]?=some x→sv=.u∨∃ v,ps[i]?=some x∧vals[i]?=some v∧ArgOk prog w (FrS l) Z.G Z.s.heap v sv) (hown:∀ (i:Nat) (sv:SV),σ[i]?=some sv→sv.isOwn=false)
  (h:RG (FrS l) l Rep Z Q E (back (evSs Φ Μ Δ code σ))) :
  wpAny (model prog w) (A.deeper (callEnvC fd Z.s.heap.objs.size f)) (execs body (callEnvC fd Z.s.heap.objs.size f)) (fun fl s'=>Q (match fl with | .ret v=>v | _=>.none) s')
    (fun e s'=>wpAny (model prog w) (A.deeper (callEnvC fd Z.s.heap.objs.size f)) (leaving (callEnvC fd Z.s.heap.objs.size f) e) (fun _ s''=>E e s'') (fun e' s''=>E e' s'') s') { Z.s with heap:=h₁,toks:=tk }:=by
 have hL:Z.s.heap.get? Z.s.heap.objs.size=none:=Heap.get?_none_of_le (Nat.le_refl _)
 have one:∀ x y c,(callEnvC fd Z.s.heap.objs.size f).cells.lookup x=some c→(callEnvC fd Z.s.heap.objs.size f).cells.lookup y=some c→x=y:=fun x y c hx hy=>name_of_addr X.apart (mem_of_lookup hx) (mem_of_lookup hy)
 have S:=begun_FS (tk:=tk) stat calls hM hD hN D c hL one F X hnd hlen hps hσ hown
 refine hck (begun prog w W0 A l Z f fd k Φ Μ Δ N Z.s.heap.objs.size stat calls hM hD hN D c hL one) S ?_
 show SG _ _ _ _ _ (evSs Φ Μ Δ code σ)
 cases ho:evSs Φ Μ Δ code σ with
 | ok ct =>
  rw [ho] at h
  cases ct with
  | next σ'=>exact fun Z' S'=>h Z' .none ⟨S'.ext,S'.sh⟩ rfl
  | ret v=>exact fun Z' r e hr=>h Z' r ⟨e.ext,e.sh⟩ hr
  | _=>exact (show False from h).elim
 | stuck=>rw [ho] at h; exact h
 | exn t co =>
  rw [ho] at h
  intro e s' hx
  cases hx with | @mk a kx h' tk' hk hx =>
  cases hx with | @mk B' d z1 z2 z3 z4 =>
  refine leave_x (s:={ Z.s with heap:=h',toks:=tk' }) (congrArg (Option.map _) c.frames) rfl z2 hk fun h'' x'' u''=>?_
  exact h.2 a h'' tk' (.mk (fun b o hb hn=>z1 b o hb fun hm=>((frS_cons (a:=Z.s.heap.objs.size) rfl).mp hm).elim (fun q=>by rw [q] at hb; exact Option.some_ne_none _ (hb.symm.trans hL)) hn) x'' (z3.trans u'') z4)
end
end Mine
end
section
set_option tactic.hygienic false
open PySem PySem.Calls PyProof.Rows PySem.SeqAt PySem.W
open Builtin Builtin.ObjectAttr
namespace Mine
section
variable {prog:Program} {w:World} {A:Around} {E:Value→Shared→Prop} {h:Heap} {g:Array GenState} {d:Drawn} {t:Nat} {os:OsState}
variable {nm q:Str} {C N x:Addr} {bs:List Value} {sn:List Str} {sub:List Value} {ab:Bool} {col:Option Bool} {dd:Option Addr} {k0 k1 k2 k3 k5:Option Value} {newId:String}
 {mN mA:Str→Option Value} {name:Str} {v:Value} {o:Obj}
theorem exc_first_entry {tk:Tok} {Q:Fin→Shared→Prop}
  (hC:h.get? C=some (excClassObj nm q C N bs excTail true sn sub ab col dd k0 k1 k2 k3 k5 newId)) (hn:h.Ns N mN) (hna:mN name=none)
  (hB : typeLookup (.type "Exception") name = pure none) (hx : h.get? x = some o) (hc : o.cls = .ref C) (hdn : o.dict = none) (hnc : ∀ c, o.data ≠ .cls c)
  (hq:∀ h' tk',h'.get? x=some { o with dict:=some h.objs.size }→h'.Ns1 h.objs.size (fun y=>if y=name then some v else none)→(∀ b ob,b≠x→h.get? b=some ob→h'.get? b=some ob)→Q (.done (.ret .none)) ⟨h',g,d,tk',os⟩) :
  wpAny (model prog w) A (Builtin.«object.__setattr__» ⟨[.ref x,.str name tk,v],[]⟩) Q E ⟨h,g,d,t,os⟩:=by
 have SF:=F.store_Exception
 have hpass:=SF.passes (.ref x)
 have hdn':True∧o.dict=none:=⟨trivial,hdn⟩
 clear hdn
 change h.get? C = some (excClassObj nm q C N bs [.type "Exception", .type "BaseException", .type "object"] true sn sub ab col dd k0 k1 k2 k3 k5 newId) at hC
 unfold Builtin.«object.__setattr__»
 repeat (first | rw [refuse_eq] | (rw [refuseLoop_ref,hpass]) | (with_reducible refine wpAny_loadPart_at hx ?_; rw [hc]) | with_reducible refine wpAny_mroOf_exc hC ?_ | (with_reducible refine wpAny_typeLookup_exc hC hn SF.mro hB ?_; rw [hna]) | wp_step)
 rw [hdn'.2]
 simp only [Bool.not_true,Bool.false_or,typeHasDict,Bool.false_eq_true,if_false]
 have hnew:h.get? h.objs.size=none:=Heap.get?_none_of_le (Nat.le_refl _)
 have hxs:x≠h.objs.size:=Nat.ne_of_lt (Heap.lt_size hx)
 have hx₁ : (h.push { cls := .type "dict", data := .dict #[] }).get? x = some o := Heap.get?_push_of_some _ hx
 refine wpAny_bind (wpAny_alloc' (wpAny_bind (wpAny_update' hx₁ (wpAny_pure ?_))))
 have other : ∀ b, b ≠ x → ((h.push { cls := .type "dict", data := .dict #[] }).update x fun o => { cls := o.cls, dict := some h.objs.size, data := o.data, slots := o.slots }).get? b = (h.push { cls := .type "dict", data := .dict #[] }).get? b :=
  fun b hb=>Heap.get?_update_ne _ _ _ _ hb
 have hself : ((h.push { cls := .type "dict", data := .dict #[] }).update x fun o => { cls := o.cls, dict := some h.objs.size, data := o.data, slots := o.slots }).get? x = some { o with dict := some h.objs.size } := by
  refine Heap.get?_update_self _ hx₁ ?_
  have hfr:=(Heap.get?_some_iff.mp hx).2
  obtain ⟨oc,od,odt,osl⟩:=o
  cases odt <;> first | rfl | exact hfr
 have hD := (other _ hxs.symm).trans (Heap.get?_push_at (h := h) (o := { cls := .type "dict", data := .dict #[] }) rfl rfl)
 show wpAny _ _ (storeInDict h.objs.size (.str name tk) name v) _ _ _
 unfold storeInDict newKeyGuard
 refine wpAny_bind (wpAny_pure (wpAny_bind (wpAny_nsSet1 (Heap.Ns1.of_empty ⟨_,#[],_,hD,rfl,fun e he=>absurd he (Array.not_mem_empty e),fun _=>rfl⟩) fun h' hn' hs=>?_)))
 obtain ⟨oD,esD,epD,hoD,hdD,hcD⟩:=hn'.count (Within.cons name v Within.nil)
 refine wpAny_bind (wpAny_lookBehind hoD (by rw [hdD]; exact pastItsLine_dict (Nat.le_trans hcD (by rw [List.length_cons,List.length_nil,sizeLine_eq]; decide))) ?_)
 wp_walk
 refine hq h' _ ((hs.2 x hxs).trans hself) hn' fun b ob hb hob=>?_
 have hbs:b≠h.objs.size:=fun e=>by rw [e,hnew] at hob; cases hob
 exact (hs.2 b hbs).trans ((other b hb).trans (Heap.get?_push_of_some _ hob))
theorem exc_store_first {sa owner : String} {Q : Unit → Shared → Prop} (SF : StoreFacts "Exception" excTail sa owner)
  (hC : h.get? C = some (excClassObj nm q C N bs excTail true sn sub ab col dd k0 k1 k2 k3 k5 newId)) (hn : h.Ns N mN) (hns : mN "__setattr__" = none) (hna : mN name = none)
  (hB : typeLookup (.type "Exception") name = pure none) (hx : h.get? x = some o) (hc : o.cls = .ref C) (hdn : o.dict = none) (hnc : ∀ c, o.data ≠ .cls c)
  (hq:∀ h' tk',h'.get? x=some { o with dict:=some h.objs.size }→h'.Ns1 h.objs.size (fun y=>if y=name then some v else none)→(∀ b ob,b≠x→h.get? b=some ob→h'.get? b=some ob)→Q () ⟨h',g,d,tk',os⟩) :
  wpAny (model prog w) A (setAttr (.ref x) name v) Q E ⟨h,g,d,t,os⟩:=by
 have f3:=SF.slot.bind (.ref x)
 unfold setAttr callSpecial? specialOf
 repeat (any_goals (first | assumption | (with_reducible refine wpAny_loadPart_at hx ?_; rw [hc]) | (with_reducible refine wpAny_typeLookup_exc hC hn SF.mro SF.slot.lookup ?_; rw [hns]) | wp_step))
 refine codeAny_call_builtin SF.slot.plain SF.entry (wpAny_check_sa SF hC hx hc (exc_first_entry hC hn hna hB hx hc hdn hnc (fun h' tk' q1 q2 q3=>?_)))
 repeat (any_goals (first | assumption | wp_step))
 exact hq h' tk' q1 q2 q3
end
theorem base_getm {prog : Program} {w : World} {A : Around} {E : Value → Shared → Prop} {s : Shared} {pl : Sem Bool} {Q : Value × List Value → Shared → Prop} (h : Q (.builtin "Exception.__init__", []) { s with toks := s.toks + 1 }) :
  wpAny (model prog w) A (getMethod (.type "Exception") ("__init__" : Str) pl) Q E s := by
 have X:Frag.In [] s.heap:=fun _ _ e=>nomatch e
 have hstub : opaqueClassAbove (.type "Exception") = pure none := by unfold opaqueClassAbove; dsimp only; rw [show Manifest.isStub "Exception" = false by decide +kernel]; rfl
 have L0 : Looks (model prog w) s.heap (typeOf (.type "Exception")) (.type "type") := Looks.of_pure (by first | rfl | kernel_rfl)
 have hg : findIn [] (.type "type") "__getattribute__" = some (some (.builtin "type.__getattribute__")) := type_tga
 unfold getMethod specialOf
 refine wpAny_bind (wpAny_bind (L0.here ((looks_findIn X hg).here ?_)))
 dsimp only
 rw [if_pos canon_tga]
 refine wpAny_bind (wpAny_mono (Q:=fun v=>Q (v,[])) (E:=E) ?_ (fun _ _ z=>wpAny_pure z) fun _ _ z=>z)
 refine cls_open X (Looks.of_pure hstub) L0 hg (looks_hook X (r := none) (by rfl)) (by show subIn [] _ _ = _; rfl) (by kernel_rfl : findCls [] (.type "Exception") (.type "type") ("__init__" : Str) = some (.val (.builtin "Exception.__init__"))) ?_
 exact wpAny_pure (wpAny_pure h)
theorem base_init_call {prog:Program} {w:World} {A:Around} {E:Value→Shared→Prop} {s:Shared} {e t0:Addr} {v:Value} {Q:Value→Shared→Prop} (X:ExcCls s.heap) (he:s.heap.get? e=some { cls:=Rc,data:=.fields #[.ref t0,.none,.none,.none,.bool false,.none] })
  (hq:∀ h' t1,h'.get? e=some { cls:=Rc,data:=.fields #[.ref t1,.none,.none,.none,.bool false,.none] }→(∀ b o,b≠e→s.heap.get? b=some o→h'.get? b=some o)→Q .none { s with heap:=h' }) :
  wpAny (model prog w) A (call (.builtin "Exception.__init__") [.ref e, v]) Q E s := by
 obtain ⟨h,g,d,t,os⟩:=s
 unfold Rc at he hq
 refine wpAny_call (codeAny_call_builtin F.excBase_Exception.init.plain F.excBase_Exception.initEntry (wpAny_check_init_sub F.excBase_Exception X.cls he rfl ?_))
 wp_walk
 refine hq _ h.objs.size ?_ fun b o hb hob=>?_
 ·rw [Heap.get?_update_self _ (Heap.get?_push_of_some _ he) rfl]
  rfl
 ·rw [Heap.get?_update_other _ _ (Ne.symm hb)]
  exact Heap.get?_push_of_some _ hob
end Mine
end
section
set_option tactic.hygienic false
open PySem PySem.Calls PyProof.Rows PySem.SeqAt PySem.W
namespace Mine
inductive IniE:Option Str→Expr→Prop
 | name {x:Str} {p:Pos}:IniE (some x) (.Name x p)
 | str {s:Str} {u:Nat} {p:Pos}:IniE none (.Constant (.str s) u p)
 | bool {b:Bool} {u:Nat} {p:Pos}:IniE none (.Constant (.bool b) u p)
 | int {i:Int} {u:Nat} {p:Pos}:IniE none (.Constant (.int i) u p)
 | nil {p:Pos}:IniE none (.List [] p)
inductive IniB:List (Str × Option Str)→List Stmt→Prop
 | nil:IniB [] []
 | cons {nm : Str} {k : Option Str} {l : List (Str × Option Str)} {v : Expr} {zp q pos : Pos} {ss : List Stmt} : IniE k v → IniB l ss → IniB ((nm, k) :: l) (.Assign [.Attribute (.Name ("self" : Str) zp) nm q] v pos :: ss)
structure Ini (h0:Heap) (env:Env) (m:Str→Option Value) (e:Addr) (mA:Str→Option Value) (h:Heap):Prop where
 ns:h.Ns env.locals m
 keep:∀ b o,h0.get? b=some o→h.get? b=some o
 el:e≠env.locals
 obj:∃ d t0,h.get? e=some { cls:=Rc,dict:=some d,data:=.fields #[.ref t0,.none,.none,.none,.bool false,.none] }∧h.Ns1 d mA∧h0.get? d=none∧d≠e∧d≠env.locals
section
variable {prog:Program} {w:World} {A:Around} {E:Value→Shared→Prop} {s:Shared} {env:Env} {h0:Heap} {m mA:Str→Option Value} {e:Addr} {Q:Flow→Shared→Prop}
theorem IniE.swap {k:Option Str} {v:Expr} (h:IniE k v):noSwap v:=by cases h <;> exact fun _ _ _=>rfl
theorem Ini.push {h:Heap} {o:Obj} (I:Ini h0 env m e mA h):Ini h0 env m e mA (h.push o):=by
 refine cps fun Γ₀ fi₀=>?_
 obtain ⟨d,t0,a,b,c⟩:=I.obj
 refine fi₀ ?_
 exact ⟨I.ns.push _,fun b o hb=>Heap.get?_push_of_some _ (I.keep b o hb),I.el,d,t0,Heap.get?_push_of_some _ a,b.at fun o ho=>Heap.get?_push_of_some _ ho,c⟩
theorem ini_eval {Q : Value → Shared → Prop} {k : Option Str} {v : Expr} (hv : IniE k v) (hk : env.scope.kind = .function) (hn : ∀ x, k = some x → env.kindOf x = some .local ∧ (x == ("__debug__" : Str)) = false ∧ ∃ r, m x = some r) (I : Ini h0 env m e mA s.heap)
  (hQ:∀ r h' tk,(∀ x,k=some x→m x=some r)→Ini h0 env m e mA h'→Q r { s with heap:=h',toks:=tk }):wpAny (model prog w) A (eval v env) Q E s:=by
 cases hv with
 | name =>
  refine cps fun Γ₀ fi₀=>?_
  obtain ⟨h1,h2,r,h3⟩:=hn _ rfl
  refine fi₀ ?_
  exact wpAny_Name (wpAny_loadName_local hk h1 I.ns h3 (hQ r s.heap s.toks (fun x e=>by cases e; exact h3) I)) h2
 | nil=>exact wpAny_List (spliced_nil ⟨Nat.zero_le _,hQ _ _ s.toks (fun x e=>nomatch e) I.push⟩)
 | _=>exact fun _ _ _=>hQ _ s.heap _ (fun x e=>nomatch e) I
theorem Ini.store (C0 : ExcCls h0) (hne : h0.get? e = none) {nm : Str} {v : Value} {ns : List Str} {Q : Unit → Shared → Prop} (I : Ini h0 env m e mA s.heap) (hnm : nm ∈ (["code", "value", "errorcode", "level", "ret", "info", "is_noted", "line", "extra"] : List Str)) (hw : Within mA ns) (hsz : ns.length ≤ sizeLine)
  (hQ:∀ h' tk,Ini h0 env m e (fun y=>if y=nm then some v else mA y) h'→Q () { s with heap:=h',toks:=tk }):wpAny (model prog w) A (setAttr (.ref e) nm v) Q E s:=by
 have X:=C0.keep I.keep
 refine cps fun Γ₀ fi₀=>?_
 obtain ⟨mN,hN,z⟩:=X.2
 obtain ⟨d,t0,a,b,c,x,y⟩:=I.obj
 obtain ⟨h,g,dr,tk,os⟩:=s
 refine fi₀ ?_
 refine store_attr PySem.F.store_Exception X.cls hN (z.at (.tail _ (.tail _ (.head _)))) (z.at (in_cls _ hnm)) (lk_attr _ hnm) (fun q=>by subst q; exact Option.some_ne_none _ (C0.1.symm.trans hne)) ⟨_,a,rfl,(fun c z=>by cases z),.inr ⟨d,rfl,x,b⟩⟩ (fun h' tk' I' hkeep hobj=>hQ h' tk' ?_) hw hsz
 have keep:∀ b o,b≠e→b≠d→h.get? b=some o→h'.get? b=some o:=fun b o h1 h2 hb=>hkeep b o h1 (fun o₀ dx z1 z2=>by cases a.symm.trans z1; cases z2; exact h2) hb
 refine cps fun Γ₀ fi₀=>?_
 obtain ⟨o₁,y1,y2,y3,y4,y5⟩:=hobj _ a
 have y5:=y5 d rfl
 obtain ⟨o₂,w1,w2,w3,w4⟩:=I'
 refine fi₀ ?_
 cases y1.symm.trans w1
 rcases w4 with ⟨z,_⟩ | ⟨d',z1,z2,z3⟩
 ·cases y5.symm.trans z
 ·cases y5.symm.trans z1
  refine cps fun Γ₀ fi₀=>?_
  obtain ⟨oL,es,ep,hL,r⟩:=I.ns
  refine fi₀ ?_
  refine ⟨⟨oL,es,ep,keep _ _ (Ne.symm I.el) (Ne.symm y) hL,r⟩,fun b o hb=>keep b o (fun z=>by rw [z,hne] at hb; cases hb) (fun z=>by rw [z,c] at hb; cases hb) (I.keep b o hb),I.el,d,t0,?_,z3,c,x,y⟩
  rw [y1]
  refine cps fun Γ₀ fi₀=>?_
  obtain ⟨oc,od,odt,osl⟩:=o₁
  refine fi₀ ?_
  dsimp only at y2 y3 y4 y5
  rw [y2,y3,y4,y5]
theorem ini_all (C0 : ExcCls h0) (hne : h0.get? e = none) (hk : env.scope.kind = .function) (hs : env.kindOf ("self" : Str) = some .local) (hme : m ("self" : Str) = some (.ref e)) {l : List (Str × Option Str)} {ss : List Stmt} (hb : IniB l ss) : ∀ {mA : Str → Option Value} {ns : List Str} {s : Shared},
  (∀ p ∈ l, p.1 ∈ (["code", "value", "errorcode", "level", "ret", "info", "is_noted", "line", "extra"] : List Str) ∧ ∀ x, p.2 = some x → env.kindOf x = some .local ∧ (x == ("__debug__" : Str)) = false ∧ ∃ r, m x = some r) → (l.map (·.1)).Nodup → Within mA ns → ns.length + l.length ≤ 100 → Ini h0 env m e mA s.heap →
  (∀ h' tk mA',Ini h0 env m e mA' h'→(∀ n x,(n,some x) ∈ l∨(mA n=m x∧n ∉ l.map (·.1))→mA' n=m x)→Q .next { s with heap:=h',toks:=tk })→wpAny (model prog w) A (execs ss env) Q E s:=by
 induction hb with
 | nil=>exact fun _ _ _ _ I hQ=>wpAny_execs_nil (hQ _ _ _ I fun n x h=>h.elim (fun z=>nomatch z) And.left)
 | @cons nm k l v zp q pos ss hv _ ih =>
  intro mA ns s hl hnd hw hsz I hQ
  have hp:=hl _ (.head _)
  have hnd:=List.nodup_cons.mp hnd
  refine wpAny_execs_cons (plainObj_wpAny_Assign_Attribute (ini_eval hv hk hp.2 I fun r h₁ t₁ hr I₁=>?_) (hv.swap _ _ _))
  refine wpAny_Name (wpAny_loadName_local hk hs I₁.ns hme ?_) (by decide +kernel)
  refine I₁.store (s:={ s with heap:=h₁,toks:=t₁ }) C0 hne hp.1 hw (by rw [sz16]; lia) fun h₂ t₂ I₂=>?_
  refine ih (s:={ s with heap:=h₂,toks:=t₂ }) (fun p hp=>hl p (.tail _ hp)) hnd.2 (Within.cons nm r hw) (by rw [List.length_cons] at hsz ⊢; lia) I₂ fun h' tk mA' I' hm=>hQ h' tk mA' I' fun n x hx=>hm n x ?_
  rcases hx with hx | ⟨hx,hn⟩
  ·cases hx with
   | head=>exact .inr ⟨(if_pos rfl).trans (hr x rfl).symm,hnd.1⟩
   | tail _ hx=>exact .inl hx
  ·exact .inr ⟨(if_neg fun q:n=nm=>hn (by rw [q]; exact .head _)).trans hx,fun q=>hn (.tail _ q)⟩
noncomputable def iniNames : List Str := ["self", "code", "value", "errorcode", "level", "ret"]
noncomputable def iniRow : List (Str × Option Str) := [("value", some "value"), ("errorcode", some "errorcode"), ("level", some "level"), ("ret", some "ret"), ("info", none), ("is_noted", none), ("line", none), ("extra", none)]
inductive IniBody:List Stmt→Prop
 | mk {xp ap a1 b1 cp ep zp q y p:Pos} {ss:List Stmt}:(ap.endLine == cp.line)=true→IniB iniRow ss →
  IniBody (.Expr (.Call (.Attribute (.Name ("Exception" : Str) xp) ("__init__" : Str) ap) [.Name ("self" : Str) a1, .Name ("value" : Str) b1] [] cp) ep :: .Assign [.Attribute (.Name ("self" : Str) zp) ("code" : Str) q] (.Name ("code" : Str) y) p :: ss)
theorem init_wp {body:List Stmt} {t0:Addr} {mg mb:Str→Option Value} (hb:IniBody body) (hk:env.scope.kind=.function) (hloc:∀ x ∈ iniNames,env.kindOf x=some .local) (hm:∀ x ∈ iniNames,∃ r,m x=some r)
  (hx : env.kindOf ("Exception" : Str) = some .globalImplicit) (hg : s.heap.Ns env.globals mg) (hbl : s.heap.Ns env.builtins mb) (hmg : mg ("Exception" : Str) = none) (hmb : mb ("Exception" : Str) = some (.type "Exception"))
  (hn : s.heap.Ns env.locals m) (m0 : m ("self" : Str) = some (.ref e)) (C0 : ExcCls h0) (keep : ∀ b o, h0.get? b = some o → s.heap.get? b = some o) (new : h0.get? e = none)
  (he:s.heap.get? e=some { cls:=Rc,data:=.fields #[.ref t0,.none,.none,.none,.bool false,.none] })
  (hQ : ∀ h' tk mA, Ini h0 env m e mA h' → mA ("code" : Str) = m ("code" : Str) → mA ("value" : Str) = m ("value" : Str) → mA ("errorcode" : Str) = m ("errorcode" : Str) → Q .next { s with heap := h', toks := tk }) : wpAny (model prog w) A (execs body env) Q E s := by
 cases hb with | @mk xp ap a1 b1 cp ep zp q y p ss hl hss =>
 have nl : ∀ x ∈ iniNames, (x == ("__debug__" : Str)) = false := fun x h => by
  have : iniNames.all (fun x => !(x == ("__debug__" : Str))) = true := by decide +kernel
  exact Bool.not_eq_true' _ ▸ List.all_eq_true.mp this x h
 have i0 : ("self" : Str) ∈ iniNames := .head _
 have i1 : ("code" : Str) ∈ iniNames := .tail _ (.head _)
 have i2 : ("value" : Str) ∈ iniNames := .tail _ (.tail _ (.head _))
 refine cps fun Γ₀ fi₀=>?_
 obtain ⟨v1,m1⟩:=hm _ i1
 obtain ⟨v2,m2⟩:=hm _ i2
 obtain ⟨oL,esL,epL,hL,hLd,hLr⟩:=id hn
 refine fi₀ ?_
 have el:e≠env.locals:=fun z=>by rw [← z] at hL; cases he.symm.trans hL; cases hLd
 refine wpAny_execs_cons (wpAny_Expr_any ?_ (by unfold interactive; rw [hk]; rfl) rfl)
 rw [arm_eval_Call]
 show wpAny _ _ (eval (.Name ("Exception" : Str) xp) env >>= _) _ _ _
 refine wpAny_bind (Name_function_global hk hx (loadGlobal_builtin hg hmg hbl hmb ?_) (by decide +kernel))
 refine wpAny_bind (wpAny_standAt ?_)
 unfold methodCall
 rw [show methodCallForm _ _ _=true from rfl]
 refine wpAny_bind (wpAny_holding (base_getm ?_))
 dsimp only
 refine wpAny_bind (wpAny_of_eq (a:=cp) (by unfold methodCallPos; simp [hl]) ?_)
 refine callWith_builtin rfl ?_
 show wpAny (model prog w) A (evalArgs (.builtin "Exception.__init__") true ((false, eval (.Name ("self" : Str) a1) env) :: (false, eval (.Name ("value" : Str) b1) env) :: []) []) _ E _
 refine evalArgs_plain (spliced_cons (wpAny_Name (wpAny_loadName_local hk (hloc _ i0) hn m0 (spliced_cons (wpAny_Name (wpAny_loadName_local hk (hloc _ i2) hn m2 (spliced_nil ?_)) (nl _ i2)))) (nl _ i0)))
 refine base_init_call (s:={ s with toks:=s.toks + 1 }) (C0.keep keep) he fun ha t1 hea ka=>?_
 have keepa:∀ b o,h0.get? b=some o→ha.get? b=some o:=fun b o hb=>ka b o (fun z=>by rw [z,new] at hb; cases hb) (keep b o hb)
 have hna:ha.Ns env.locals m:=⟨oL,esL,epL,ka _ _ (Ne.symm el) hL,hLd,hLr⟩
 refine wpAny_execs_cons (plainObj_wpAny_Assign_Attribute (wpAny_Name (wpAny_loadName_local hk (hloc _ i1) hna m1 (wpAny_Name (wpAny_loadName_local hk (hloc _ i0) hna m0 ?_) (nl _ i0))) (nl _ i1)) rfl)
 have X:=C0.keep keepa
 refine cps fun Γ₀ fi₀=>?_
 obtain ⟨mN,hN,z⟩:=X.2
 refine fi₀ ?_
 refine exc_store_first PySem.F.store_Exception X.cls hN (z.at (.tail _ (.tail _ (.head _)))) (z.at (in_cls _ (.head _))) (lk_attr _ (.head _)) hea rfl rfl (fun c z=>by cases z) fun hb' tb w1 w2 w3=>?_
 have fresh:ha.get? ha.objs.size=none:=Heap.get?_none_of_le (Nat.le_refl _)
 have ne:∀ {b o},ha.get? b=some o→ha.objs.size≠b:=fun q z=>by rw [← z,fresh] at q; cases q
 have I1 : Ini h0 env m e (fun y => if y = ("code" : Str) then some v1 else none) hb' :=
  ⟨⟨oL,esL,epL,w3 _ _ (Ne.symm el) (ka _ _ (Ne.symm el) hL),hLd,hLr⟩,fun b o hb=>w3 b o (fun z=>by rw [z,new] at hb; cases hb) (keepa b o hb),el,_,t1,w1,w2,match z:h0.get? ha.objs.size with | none=>rfl | some o=>absurd rfl (ne (keepa _ _ z)),ne hea,ne (ka _ _ (Ne.symm el) hL)⟩
 have all : ∀ p ∈ iniRow, p.1 ∈ (["code", "value", "errorcode", "level", "ret", "info", "is_noted", "line", "extra"] : List Str) ∧ ∀ x, p.2 = some x → x ∈ iniNames := by
  have : iniRow.all (fun p => (["code", "value", "errorcode", "level", "ret", "info", "is_noted", "line", "extra"] : List Str).contains p.1 && p.2.all fun x => iniNames.contains x) = true := by decide +kernel
  exact fun p hp=>have q:=and2 (List.all_eq_true.mp this p hp); ⟨List.contains_iff_mem.mp q.1,fun x hx=>List.contains_iff_mem.mp (by rw [hx] at q; exact q.2)⟩
 refine ini_all (s:={ s with heap:=hb',toks:=tb }) C0 new hk (hloc _ i0) m0 hss (fun p hp=>⟨(all p hp).1,fun x hx=>⟨hloc _ ((all p hp).2 x hx),nl _ ((all p hp).2 x hx),hm _ ((all p hp).2 x hx)⟩⟩) (by decide +kernel) (Within.cons _ _ Within.nil) (by decide) I1 fun h' tk mA' I' hA=>?_
 exact hQ h' tk mA' I' (hA _ _ (.inr ⟨(if_pos rfl).trans m1.symm,by decide +kernel⟩)) (hA _ _ (.inl (.head _))) (hA _ _ (.inl (.tail _ (.head _))))
end
structure InitFacts (W0:Heap) (fI:Addr) (fd:FuncData) (body:List Stmt):Prop where
 d:DFacts W0 fI fd body
 shape:IniBody body
 names:∀ x ∈ iniNames,fd.scope.names.lookup x=some .local
 ex : fd.scope.names.lookup ("Exception" : Str) = some .globalImplicit
 bind:∀ (s:Shared) (v0 v1 v2 v3:Value),W0.StaysIn s.heap→∃ lv rv,BindsTo s fd ⟨[v0,v1,v2,v3],[]⟩ (iniNames.zip [v0,v1,v2,v3,lv,rv])
theorem weight_le {a : List Value} {A : Around} : A.depth + Code.weight (.builtin "type.__call__" ⟨a, []⟩) ≤ A.depth + 4 := by
 refine Nat.add_le_add_left ?_ _
 have e1 : (Code.builtin "type.__call__" ⟨a, []⟩).isCaller = false := rfl
 have e2 : (Code.builtin "type.__call__" ⟨a, []⟩).frames = 0 := by first | rfl | (unfold Code.frames; rfl) | kernel_rfl
 unfold Code.weight
 rw [e1,e2]
 split
 ·split <;> decide
 ·split <;> decide
theorem reps_scal {G G':GH}:∀ {l:List AV} {vs:List Value},l.all AV.scalar=true→RepAll G vs l→RepAll G' vs l
 | [],_,_,h=>h
 | a::l,_,h,.mk h1 h2 =>
  have h:=and2 (List.all_cons ▸ h)
  .mk (rep_scal h1 h.1) (reps_scal h.2 h2)
theorem raised_call {prog:Program} {w:World} {W0:Heap} {mg mb:Str→Option Value} {A:Around} {E:Value→Shared→Prop} {Z:ZS} {fd:FuncData} {body:List Stmt} {F:Addr→Prop} {t:List Nat} {c:List AV} {vs:List Value} {Q:Value→Shared→Prop} (I:InitFacts W0 30 fd body) (stat:Stat W0 mg mb) (hW:W0.StaysIn Z.s.heap) (hroom:A.depth + 5 < recursionLimit)
  (inG:Z.G.In Z.s.heap) (hr:RepAll Z.G vs [.int 1,.str t,.tup c]) (hc:c.all AV.scalar=true) (hQ:∀ e h' tk,XMade F Z.G Z.s.heap e t c h'→Q (.ref e) { Z.s with heap:=h',toks:=tk }) :
  wpAny (model prog w) A (call (.ref 33) vs) Q E Z.s:=by
 cases (show ConsR _ _ vs from hr) with | mk r0 hr1=>cases (show ConsR _ _ _ from hr1) with | @mk v1 _ r1 hr2=>cases (show ConsR _ _ _ from hr2) with | mk r2 hr3 =>
 cases (show _=[] from hr3)
 cases r0 with | @mk t1 =>
 cases r2.1 with | @mk a2 o2 ws n2 g1 g2 g3 g4 =>
 have C0:=stat.cls.keep hW
 refine cps fun Γ₀ fi₀=>?_
 obtain ⟨mN,hN,z⟩:=C0.2
 obtain ⟨o,ho,hd,hfc⟩:=I.d.o
 obtain ⟨G,hp,g,d,tk,os⟩:=Z
 refine fi₀ ?_
 refine wpAny_call_exc_init (bm:=excTail) PySem.F.excBase_Exception C0.cls hN z.init (hW _ _ ho) hfc (fun h₁ e hm=>?_) (by rw [sz16]; exact (by decide:3≤16777216))
 have hW₁:W0.StaysIn h₁:=fun b o hb=>hm.keeps b o (hW b o hb)
 refine cps fun Γ₀ fi₀=>?_
 obtain ⟨t0,he,_,_⟩:=hm.there
 obtain ⟨lv,rv,hb⟩:=I.bind { heap:=h₁,gens:=g,drawn:=d,toks:=tk,os:=os } (.ref e) (.int 1 t1) v1 (.ref a2) hW₁
 refine fi₀ ?_
 refine enter_wp I.d hW₁ stat.lim ?_ hb (fun x hx=>.inl (I.names _ (List.of_mem_zip hx).1)) fun h₂ t₂ Fr₂ Cl₂=>?_
 ·show A.depth + Code.weight (.builtin "type.__call__" ⟨.ref 33 :: [.int 1 t1, v1, .ref a2], []⟩) < recursionLimit
  exact Nat.lt_of_le_of_lt weight_le (Nat.lt_of_succ_lt hroom)
 have hnd:(List.map (·.1) (iniNames.zip [Value.ref e,.int 1 t1,v1,.ref a2,lv,rv])).Nodup:=by rw [List.map_fst_zip (show iniNames.length≤6 by decide +kernel)]; decide +kernel
 have get:∀ i x v,iniNames[i]?=some x→[Value.ref e,.int 1 t1,v1,.ref a2,lv,rv][i]?=some v→bindL (callEnvC fd h₁.objs.size 30).kindOf (iniNames.zip [Value.ref e,.int 1 t1,v1,.ref a2,lv,rv]) (fun _=>none) x=some v:=fun i x v h1 h2 =>
  bindL_get hnd (List.mem_of_getElem? (List.getElem?_zip_eq_some.mpr ⟨h1,h2⟩)) (I.names x (List.mem_of_getElem? h1))
 refine wpAny_mono (init_wp (h0:=hp) (s:={ heap:=h₂,gens:=g,drawn:=d,toks:=t₂,os:=os }) (Q:=fun f s'=>f=.next∧Q (.ref e) s') (E:=fun _ _=>False) (mg:=mg) (mb:=mb) I.shape I.d.kind I.names (fun x hx=>?_) I.ex
  (by show h₂.Ns fd.globals mg; rw [I.d.glob]; exact (stat.g.keeps hW₁).keeps Fr₂.keep) (by show h₂.Ns fd.builtins mb; rw [I.d.blt]; exact (stat.b.keeps hW₁).keeps Fr₂.keep) stat.exc.1 stat.exc.2 Fr₂.ns
  (get 0 _ _ rfl rfl) C0 (fun b o hb=>Fr₂.keep _ _ (hm.keeps _ _ hb)) hm.new (Fr₂.keep _ _ he) fun h₃ t₃ mA I₃ q1 q2 q3=>⟨rfl,hQ e h₃ t₃ ?_⟩) (fun f s' hf=>?_) fun _ _ x=>x.elim
 ·obtain ⟨i,hi,rfl⟩:=List.getElem_of_mem hx
  have hl:i < [Value.ref e,.int 1 t1,v1,.ref a2,lv,rv].length:=hi
  exact ⟨_,get i _ _ (List.getElem?_eq_getElem hi) (List.getElem?_eq_getElem hl)⟩
 ·obtain ⟨dx,t0',w1,w2,w3,w4,w5⟩:=I₃.obj
  exact .mk (fun b o hb _=>I₃.keep b o hb) (fun b o hb=>⟨o.slots,I₃.keep b o hb⟩) hm.new w3 w4 w1 (.mk w2 (q1.trans (get 1 _ _ rfl rfl)) (q2.trans (get 2 _ _ rfl rfl)) (q3.trans (get 3 _ _ rfl rfl)) (rep_scal r1 rfl) (I₃.keep _ _ (inG _ _ g1)) g2 g3 (reps_scal hc g4) r2.2 (.inl g1))
 ·obtain ⟨rfl,hf⟩:=hf
  exact ⟨rfl,hf⟩
end Mine
end
section
set_option tactic.hygienic false
open PySem PySem.Calls PyProof.Rows PySem.SeqAt PySem.W
namespace Mine
theorem XMade.weak {F F':Addr→Prop} {G G₁:GH} {h h₁ h':Heap} {e:Addr} {t:List Nat} {c:List AV} (x:XMade F' G₁ h₁ e t c h') (ex:Ext F G h G₁ h₁) (hF:∀ b o,h.get? b=some o→¬ F b→¬ F' b):XMade F G h e t c h':=by
 cases x with | mk x1 x1s x2 x3 x4 x5 xv =>
 exact .mk (fun b o e n=>x1 b o (ex.keep b o e n) (hF b o e n)) (fun b o e=>⟨_,(x1s b _ (ex.slots b o e).choose_spec).choose_spec⟩) (ex.old x2) (ex.old x3) x4 x5 (xv.weak ex)
theorem Room.less {k k':Nat} {A:Around} (h:Room k A) (hk:k'≤k):Room k' A:=by
 have h1:=h.1
 have h2:=h.2
 exact ⟨by lia,by lia⟩
theorem CallC.less {W0:Heap} {k k':Nat} {A:Around} {l:List Env} {Z:ZS} (c:CallC W0 k A l Z) (hk:k'≤k):CallC W0 k' A l Z:=⟨c.frames,c.handled,c.room.less hk,c.W,c.Wn,c.fr,c.gfr,c.inG⟩
structure DD where
 f:Addr
 N:List Str
 np:Nat
 df:List AV
 code:List MS
noncomputable def start (d:DD) (args:List SV):Env':=args++List.replicate (d.N.length - d.np) .u
noncomputable def fillIn (d:DD) (args:List AV):List AV:=args++d.df.drop (d.df.length - (d.np - args.length))
noncomputable def fillOk (d:DD) (args:List AV):Bool:=Nat.ble args.length d.np && Nat.ble d.np (args.length + d.df.length)
structure PsOk (fd:FuncData) (ps:List Str):Prop where
 kind:∀ x ∈ ps,fd.scope.names.lookup x=some .local∨fd.scope.names.lookup x=some .cell
 nd:ps.Nodup
structure DDOk (W0:Heap) (d:DD):Prop where
 ok:∃ fd body,DFacts W0 d.f fd body∧SBs (mkC fd d.N) d.code body∧PsOk fd (d.N.take d.np) ∧
  ∀ (s:Shared) (vs:List Value),vs.length≤d.np→d.np≤vs.length + d.df.length→W0.StaysIn s.heap→∃ ws,(∀ G,RepAll G ws (d.df.drop (d.df.length - (d.np - vs.length))))∧BindsTo s fd ⟨vs,[]⟩ ((d.N.take d.np).zip (vs++ws))
 nd:d.N.Nodup
 np:d.np≤d.N.length
section
variable {prog:Program} {w:World} {W0:Heap} {mg mb:Str→Option Value} {A:Around} {l:List Env} {Z:ZS} {Q:Value→Shared→Prop} {E:Value→Shared→Prop} {k:Nat}
theorem start_get {d:DD} {svs:List SV} (hl:svs.length=d.np) {i:Nat} {sv:SV} (h:(start d svs)[i]?=some sv):sv=.u∨(i < d.np∧svs[i]?=some sv):=by
 unfold start at h
 rw [List.getElem?_append] at h
 split at h
 ·rename_i hi; exact .inr ⟨hl ▸ hi,h⟩
 ·exact .inl (List.eq_of_mem_replicate (List.mem_of_getElem? h))
theorem call_one {Φ:Tab} {Μ:MTab} {Δ:DTab} {d:DD} (stat:Stat W0 mg mb) (calls:CallsOk prog w W0 k Φ) (hM:MakersOk prog w W0 k Μ) (hD:DCallsOk prog w W0 k Δ) {fd:FuncData} {body:List Stmt} (D:DFacts W0 d.f fd body)
  (hck:SBs (mkC fd d.N) d.code body) (hps:PsOk fd (d.N.take d.np)) (hN:d.N.Nodup) (hnp:d.np≤d.N.length) {vs ws:List Value} {svs:List SV} (c:CallC W0 (k + 1) A l Z)
  (hbind:BindsTo Z.s fd ⟨vs,[]⟩ ((d.N.take d.np).zip (vs++ws))) (hlen:(vs++ws).length=d.np) (hsl:svs.length=d.np) (hsv:∀ (i:Nat) (sv:SV),svs[i]?=some sv→∃ v,(vs++ws)[i]?=some v∧ArgOk prog w (FrS l) Z.G Z.s.heap v sv)
  (h:RG (FrS l) l Rep Z Q E (back (evSs Φ Μ Δ d.code (start d svs)))):wpAny (model prog w) A (call (.ref d.f) vs) Q E Z.s:=by
 have htl:(vs++ws).length=(d.N.take d.np).length:=by rw [hlen,List.length_take,Nat.min_eq_left hnp]
 refine enter_wp D c.W stat.lim c.room.depth hbind (fun x hx=>(hps.kind x.1 (List.of_mem_zip hx).1).imp id fun h1=>⟨h1,cellsFrom_some (.inl h1)⟩) fun h₁ tk F X=>?_
 refine body_wp stat calls hM hD hN D c hck F X hps.nd htl hps.kind (fun i sv x h1 h2=>(start_get hsl h1).imp id fun q=>?_) (fun i sv h1=>(start_get hsl h1).elim (fun q=>by rw [q]; rfl) fun q=>?_) h
 ·obtain ⟨v,hv,ha⟩:=hsv i sv q.2
  exact ⟨v,by rw [List.getElem?_take,if_pos q.1]; exact h2,hv,ha⟩
 ·obtain ⟨v,hv,ha⟩:=hsv i sv q.2
  cases ha <;> rfl
theorem ret_frame {f:Addr} {fd:FuncData} {N:List Str} {args m:List AV} {t:List Nat} {c:List AV} {es:List Expr} {ms:List ME} {g:Value} {ge:Expr} {cp rp:Pos} (D:DFacts W0 f fd [.Return (some (.Call ge es [] cp)) rp]) (stat:Stat W0 mg mb) (hN:N.Nodup) (hps:PsOk fd N) (hck:EBs (mkC fd N) ms es)
  (hbind:∀ s vs,vs.length=N.length→W0.StaysIn s.heap→BindsTo s fd ⟨vs,[]⟩ (N.zip vs)) (hlen:args.length=N.length) (hev:evEs noCalls ms (args.map SV.val)=.ok m)
  (hg:∀ {X:WX (mkC fd N)} {σ:Env'} {Z:ZS} {Q:Value→Shared→Prop} {E:Value→Shared→Prop},X.W0=W0→X.mg=mg→X.mb=mb→X.Φ=noCalls→St X Z σ→(∀ Z' vs,Stp X.F Z Z'→RepAll Z'.G vs m→wpAny X.M X.A (call g vs) Q E Z'.s)→evEs noCalls ms σ=.ok m→wpAny X.M X.A (eval (.Call ge es [] cp) X.env) Q E Z.s)
  (hM:∀ (A:Around) (l:List Env) (Z:ZS) (vs:List Value) (Q E),CallC W0 k A l Z→RepAll Z.G vs m→(∀ e h' tk,XMade (FrS l) Z.G Z.s.heap e t c h'→Q (.ref e) { Z.s with heap:=h',toks:=tk })→wpAny (model prog w) A (call g vs) Q E Z.s):MakerAt prog w W0 (k + 1) f args t c:=by
 intro A l Z vs Q E cc hr hQ
 have hl:vs.length=N.length:=hr.length.trans hlen
 have hL:Z.s.heap.get? Z.s.heap.objs.size=none:=Heap.get?_none_of_le (Nat.le_refl _)
 refine enter_wp D cc.W stat.lim cc.room.depth (hbind Z.s vs hl cc.W) (fun x hx=>(hps.kind x.1 (List.of_mem_zip hx).1).imp id fun h1=>⟨h1,cellsFrom_some (.inl h1)⟩) fun h₁ tk F X=>?_
 have S:=begun_FS (prog:=prog) (w:=w) (tk:=tk) (σ:=args.map SV.val) (Φ:=noCalls) (Μ:=fun _ _=>none) (Δ:=fun _ _ _=>.stuck) stat (fun _ _ _ _ _ _ _ _ _ _ h=>h.elim) (fun _ _ _ _ h=>nomatch h) (fun _ _ _ _ _ _ _ _ _ _ _ _ _ h=>h.elim) hN D cc hL (fun x y c hx hy=>name_of_addr X.apart (mem_of_lookup hx) (mem_of_lookup hy)) F X hps.nd hl hps.kind (fun i sv x h1 h2=>?_) fun i sv h1=>?_
 ·refine wpAny_execs_cons (wpAny_Return_some (hg rfl rfl rfl rfl S.st (fun Z' ws e hw=>hM (A.deeper (callEnvC fd Z.s.heap.objs.size f)) (callEnvC fd Z.s.heap.objs.size f::l) Z' ws _ _ ?_ hw fun e' h'' tk'' hx=>?_) hev))
  ·have S':=S.step e
   exact ⟨congrArg (Option.map _) cc.frames,cc.handled,room_down cc.room,S'.st.W,fun b o e hm=>((frS_cons (a:=Z.s.heap.objs.size) rfl).mp hm).elim (fun q=>Option.some_ne_none _ ((cc.W _ _ e).symm.trans (q ▸ hL))) (cc.Wn b o e),S'.frOK,S'.gfr,S'.st.inG⟩
  ·have S':=S.step e
   rw [S'.sh]
   exact hQ e' h'' tk'' (hx.weak S'.ext fun b o hb hn hm=>((frS_cons (a:=Z.s.heap.objs.size) rfl).mp hm).elim (fun q=>Option.some_ne_none _ (hb.symm.trans (q ▸ hL))) hn)
 ·rw [List.getElem?_map] at h1
  obtain ⟨a,ha,rfl⟩:=Option.map_eq_some_iff.mp h1
  obtain ⟨v,hv,hrv⟩:=hr.get ha
  exact .inr ⟨v,h2,hv,.val hrv⟩
 ·rw [List.getElem?_map] at h1
  obtain ⟨a,ha,rfl⟩:=Option.map_eq_some_iff.mp h1
  rfl
theorem maker_ret {f fg:Addr} {fd:FuncData} {N:List Str} {args m:List AV} {t:List Nat} {c:List AV} {es:List Expr} {ms:List ME} {g:Str} {gp cp rp:Pos} (D:DFacts W0 f fd [.Return (some (.Call (.Name g gp) es [] cp)) rp]) (stat:Stat W0 mg mb) (hN:N.Nodup) (hps:PsOk fd N) (hck:EBs (mkC fd N) ms es)
  (h1 : fd.scope.names.lookup g = some .globalImplicit) (h2 : (g == ("__debug__" : Str)) = false) (h3 : FTL.lookup g = some fg)
  (hbind:∀ s vs,vs.length=N.length→W0.StaysIn s.heap→BindsTo s fd ⟨vs,[]⟩ (N.zip vs)) (hlen:args.length=N.length) (hev:evEs noCalls ms (args.map SV.val)=.ok m) (hM:MakerAt prog w W0 k fg m t c):MakerAt prog w W0 (k + 1) f args t c :=
 ret_frame (g:=.ref fg) D stat hN hps hck hbind hlen hev (fun {X σ Z Q E} eW eg eb eΦ S hq hev=>by
  subst eW eg eb
  obtain ⟨e1,o,fdg,e2,e3⟩:=X.stat.fn g fg h3
  refine wpAny_Call_ofName (Name_function_global X.hE.kind ((X.hE.kinds g).trans h1) (loadGlobal_global (mg:=X.mg) (by rw [X.hE.glob]; exact X.stat.g.keeps S.W) e1 (callWith_function (o:=o) (fd:=fdg) (args_ok hck S ?_))) h2)
  rw [eΦ,hev]
  exact fun Z' vs e hr=>⟨⟨(S.on e).W _ _ e2,e3⟩,hq Z' vs e hr⟩) hM
theorem callWith_class {s:Shared} {pos:Pos} {args:List (Bool × Sem Value)} (hplain:args.any (·.1)=false)
  (h:wpAny (model prog w) A (evalArgs (.ref 33) true args []) (fun a s₁=>ExcCls s₁.heap∧wpAny (model prog w) A (call (.ref 33) a.pos a.kw) Q E s₁) E s):wpAny (model prog w) A (callWith pos (.ref 33) [] args []) Q E s:=by
 unfold callWith
 refine wpAny_bind (wpAny_holding (wpAny_mono h (fun a s₁ h₁=>wpAny_bind (wpAny_standAt ?_)) fun _ _ x=>x))
 obtain ⟨X,h₁⟩:=h₁
 have hC:=X.cls
 obtain ⟨hp,g,d,tk,os⟩:=s₁
 simp only [hplain]
 refine wpAny_bind (wpAny_keeperOf_exc hC ?_)
 exact wpAny_bind (wpAny_mono h₁ (fun r s₂ hr=>wpAny_bind (wpAny_holding (wpAny_point (wpAny_pure hr)))) fun _ _ x=>x)
theorem maker_cls {f : Addr} {fd fdI : FuncData} {bodyI : List Stmt} {N : List Str} {args : List AV} {t : List Nat} {c : List AV} {es : List Expr} {ms : List ME} {gp cp rp : Pos} (I : InitFacts W0 30 fdI bodyI) (D : DFacts W0 f fd [.Return (some (.Call (.Name ("Raised" : Str) gp) es [] cp)) rp]) (stat : Stat W0 mg mb) (hN : N.Nodup) (hps : PsOk fd N) (hck : EBs (mkC fd N) ms es)
  (h1 : fd.scope.names.lookup ("Raised" : Str) = some .globalImplicit) (hbind : ∀ s vs, vs.length = N.length → W0.StaysIn s.heap → BindsTo s fd ⟨vs, []⟩ (N.zip vs)) (hlen : args.length = N.length) (hev : evEs noCalls ms (args.map SV.val) = .ok [.int 1, .str t, .tup c]) (hc : c.all AV.scalar = true) : MakerAt prog w W0 (k + 1) f args t c :=
 ret_frame (g:=.ref 33) D stat hN hps hck hbind hlen hev (fun {X σ Z Q E} eW eg eb eΦ S hq hev=>by
  subst eW eg eb
  refine wpAny_Call_ofName (Name_function_global X.hE.kind ((X.hE.kinds _).trans h1) (loadGlobal_global (mg:=X.mg) (by rw [X.hE.glob]; exact X.stat.g.keeps S.W) X.stat.clsName (callWith_class (plain_args hck _ _) (args_ok hck S ?_))) (by decide +kernel))
  rw [eΦ,hev]
  exact fun Z' vs e hr=>⟨X.stat.cls.keep (S.on e).W,hq Z' vs e hr⟩) fun A l Z vs Q E cc hr hQ=>raised_call (F:=FrS l) I stat cc.W (Nat.lt_of_le_of_lt (by lia) cc.room.1) cc.inG hr hc hQ
noncomputable def PD (Μ:MTab) (T:List DD):Nat→Tab × DTab
 | 0=>(fun _ _=>.stuck,fun _ _ _=>.stuck)
 | n + 1=>(fun f args=>oO (T.find? fun d=>Nat.beq d.f f) fun d=>lim (fillOk d args) (back (evSs (PD Μ T n).1 Μ (PD Μ T n).2 d.code (start d ((fillIn d args).map SV.val)))),
  fun f dc args=>oO (T.find? fun d=>Nat.beq d.f f) fun d=>lim (Nat.beq (args.length + 1) d.np) (back (evSs (PD Μ T n).1 Μ (PD Μ T n).2 d.code (start d (.rd dc::args.map SV.val)))))
theorem rg_find {T:List DD} {f:Nat} {F:Addr→Prop} {g:DD→R AV} (h:RG F l Rep Z Q E (oO (T.find? fun d=>Nat.beq d.f f) g)):∃ d ∈ T,d.f=f∧RG F l Rep Z Q E (g d):=by
 obtain ⟨d,h1,h2⟩:=RG.some h
 exact ⟨d,List.mem_of_find?_eq_some h1,Nat.eq_of_beq_eq_true (by have:=List.find?_some h1; exact this),h2⟩
theorem calls_all {T:List DD} {Μ:MTab} {b:Nat} (stat:Stat W0 mg mb) (hM:MakersOk prog w W0 b Μ) (hT:∀ d ∈ T,DDOk W0 d):∀ k,CallsOk prog w W0 (k + b) (PD Μ T k).1∧DCallsOk prog w W0 (k + b) (PD Μ T k).2
 | 0=>⟨fun _ _ _ _ _ _ _ _ _ _ h=>h.elim,fun _ _ _ _ _ _ _ _ _ _ _ _ _ h=>h.elim⟩
 | k + 1=>by
  obtain ⟨ih1,ih2⟩:=calls_all stat hM hT k
  have hM':MakersOk prog w W0 (k + b) Μ:=fun f args t c h A l Z vs Q E cc=>hM f args t c h A l Z vs Q E (cc.less (Nat.le_add_left _ _))
  rw [Nat.succ_add]
  refine ⟨fun f args A l Z vs Q E cc hr h=>?_,fun f dc args A l Z a vs Q E cc hd hr h=>?_⟩
  ·obtain ⟨d,hd,rfl,hh⟩:=rg_find h
   have h:=RG.lim hh
   have hc:=and2 h.1
   have hc1:=Nat.le_of_ble_eq_true hc.1
   have hc2:=Nat.le_of_ble_eq_true hc.2
   obtain ⟨⟨fd,body,D,hck,hps,hb⟩,hN,hnp⟩:=hT d hd
   have hl:=hr.length
   obtain ⟨ws,hws,hbind⟩:=hb Z.s vs (by rw [hl]; exact hc1) (by rw [hl]; exact hc2) cc.W
   have hws:=hws Z.G
   rw [hl] at hws
   have hall:=hr.append hws
   have hlen:(fillIn d args).length=d.np:=by
    have:(fillIn d args).length=args.length + (d.df.length - (d.df.length - (d.np - args.length))):=by unfold fillIn; rw [List.length_append,List.length_drop]
    rw [this]; clear h; lia
   refine call_one stat ih1 hM' ih2 D hck hps hN hnp cc hbind (hall.length.trans hlen) (by rw [List.length_map]; exact hlen) (fun i sv h1=>?_) h.2
   rw [List.getElem?_map] at h1
   obtain ⟨a,ha,rfl⟩:=Option.map_eq_some_iff.mp h1
   obtain ⟨v,hv,hrv⟩:=hall.get ha
   exact ⟨v,hv,.val hrv⟩
  ·obtain ⟨d,hdm,rfl,hh⟩:=rg_find h
   have h:=RG.lim hh
   have hc:=Nat.eq_of_beq_eq_true h.1
   obtain ⟨⟨fd,body,D,hck,hps,hb⟩,hN,hnp⟩:=hT d hdm
   have hl:=hr.length
   have hvl:(Value.ref a::vs).length=d.np:=by rw [List.length_cons,hl]; exact hc
   obtain ⟨ws,hws,hbind⟩:=hb Z.s (.ref a::vs) (Nat.le_of_eq hvl) (by rw [hvl]; exact Nat.le_add_right _ _) cc.W
   have hws:=hws Z.G
   rw [hvl,Nat.sub_self,Nat.sub_zero,List.drop_length] at hws
   cases (show ws=[] from hws)
   refine call_one stat ih1 hM' ih2 D hck hps hN hnp cc hbind (by rw [List.append_nil]; exact hvl) (by rw [List.length_cons,List.length_map]; exact hc) (fun i sv h1=>?_) h.2
   rw [List.append_nil]
   cases i with
   | zero=>cases h1; exact ⟨_,rfl,.rd hd⟩
   | succ i =>
    have h1:(args.map SV.val)[i]?=some sv:=h1
    rw [List.getElem?_map] at h1
    obtain ⟨a',ha,rfl⟩:=Option.map_eq_some_iff.mp h1
    obtain ⟨v,hv,hrv⟩:=hr.get ha
    exact ⟨v,hv,.val hrv⟩
end
end Mine
end
section
set_option tactic.hygienic false
open PySem PySem.Calls PyProof.Rows PySem.SeqAt PySem.W
set_option genCtorIdx false
namespace Mine
inductive Ck (p:Prop):Type
 | y (h:p):Ck p
 | n:Ck p
noncomputable def Ck.ok {p:Prop} (c:Ck p):Bool:=match c with
 | .y _=>true
 | .n=>false
theorem Ck.out {p:Prop} {c:Ck p} (h:c.ok=true):p:=by
 cases c with
 | y h'=>exact h'
 | n=>cases h
noncomputable def Ck.bind {p q:Prop} (c:Ck p) (f:p→Ck q):Ck q:=match c with
 | .y h=>f h
 | .n=>.n
noncomputable def Ck.map {p q:Prop} (c:Ck p) (f:p→q):Ck q:=match c with
 | .y h=>.y (f h)
 | .n=>.n
noncomputable def ckB {q:Prop} (b:Bool) (f:b=true→Ck q):Ck q:=Bool.rec (motive:=fun c=>b=c→Ck q) (fun _=>.n) f b rfl
noncomputable def ckD {p q:Prop} [d:Decidable p] (f:p→Ck q):Ck q:=match d with
 | .isTrue h=>f h
 | .isFalse _=>.n
inductive EV:Expr→Type
 | const (k:Const) (u:Nat) (p:Pos):EV (.Constant k u p)
 | name (x:Str) (p:Pos):EV (.Name x p)
 | bin (a:Expr) (o:Operator) (b:Expr) (p:Pos):EV (.BinOp a o b p)
 | un (o:UnaryOp) (a:Expr) (p:Pos):EV (.UnaryOp o a p)
 | bo (o:BoolOp) (l:List Expr) (p:Pos):EV (.BoolOp o l p)
 | cmp (a:Expr) (o:List CmpOp) (l:List Expr) (p:Pos):EV (.Compare a o l p)
 | ite (c a b:Expr) (p:Pos):EV (.IfExp c a b p)
 | tup (l:List Expr) (u:Nat) (p:Pos):EV (.Tuple l u p)
 | lst (l:List Expr) (p:Pos):EV (.List l p)
 | sub (a s:Expr) (p:Pos):EV (.Subscript a s p)
 | slice (a b:Option Expr) (p:Pos):EV (.Slice a b none p)
 | call (f:Expr) (l:List Expr) (p:Pos):EV (.Call f l [] p)
 | attr (a:Expr) (n:Str) (p:Pos):EV (.Attribute a n p)
 | comp (e:Expr) (t i:Expr) (l:List Expr) (s:Scope) (p:Pos):EV (.ListComp e [⟨t,i,l,0⟩] s p)
 | dict (p:Pos):EV (.Dict [] [] p)
 | other (e:Expr):EV e
noncomputable def vSlice (a b c:Option Expr) (p:Pos):EV (.Slice a b c p):=match c with
 | none=>.slice a b p
 | _=>.other _
noncomputable def vCall (f:Expr) (l:List Expr) (k:List Keyword) (p:Pos):EV (.Call f l k p):=match k with
 | []=>.call f l p
 | _=>.other _
noncomputable def vComp (e:Expr) (g:List Comprehension) (s:Scope) (p:Pos):EV (.ListComp e g s p):=match g with
 | [⟨t,i,l,a⟩]=>if h:a=0 then h ▸ .comp e t i l s p else .other _
 | _=>.other _
noncomputable def vDict (k:List (Option Expr)) (l:List Expr) (p:Pos):EV (.Dict k l p):=match k,l with
 | [],[]=>.dict p
 | _,_=>.other _
noncomputable def view (e:Expr):EV e:=match e with
 | .Constant k u p=>.const k u p
 | .Name x p=>.name x p
 | .BinOp a o b p=>.bin a o b p
 | .UnaryOp o a p=>.un o a p
 | .BoolOp o l p=>.bo o l p
 | .Compare a o l p=>.cmp a o l p
 | .IfExp c a b p=>.ite c a b p
 | .Tuple l u p=>.tup l u p
 | .List l p=>.lst l p
 | .Subscript a s p=>.sub a s p
 | .Slice a b c p=>vSlice a b c p
 | .Call f l k p=>vCall f l k p
 | .Attribute a n p=>.attr a n p
 | .ListComp e g s p=>vComp e g s p
 | .Dict k l p=>vDict k l p
 | e=>.other e
section
variable {C:CK} {a b c:ME} {e e1 e2 e3:Expr} {ms:List ME} {es:List Expr} {p pos:Pos}
noncomputable def ndbg (x : Str) : Bool := !(x == ("__debug__" : Str))
theorem ndbg_eq {x : Str} (h : ndbg x = true) : (x == ("__debug__" : Str)) = false := Bool.not_eq_true' _ ▸ h
noncomputable def nmOk (C:CK) (i:Nat) (x:Str):Bool:=decide (C.N[i]?=some x) && ndbg x
theorem nmOk_eq {i : Nat} {x : Str} (h : nmOk C i x = true) : C.N[i]? = some x ∧ (x == ("__debug__" : Str)) = false := ⟨of_decide_eq_true (and2 h).1, ndbg_eq (and2 h).2⟩
theorem k_v {i:Nat} {x:Str} (h:nmOk C i x=true):EB C (.v i) (.Name x p):=ok_v (nmOk_eq h).1 (nmOk_eq h).2
theorem k_bin {op:BOp} {o:Operator} (h:opOf op=o) (ha:EB C a e1) (hb:EB C b e2):EB C (.bin op a b) (.BinOp e1 o e2 p):=h ▸ ok_bin ha hb
theorem k_cmp {op:COp} {o:CmpOp} (h:(decide (copOf op=o) && !behindInMarks o e2)=true) (ha:EB C a e1) (hb:EB C b e2):EB C (.cmp a op b) (.Compare e1 [o] [e2] p):=by
 have q:=and2 h
 have e:=of_decide_eq_true q.1
 subst e
 exact ok_cmp ha hb (by have:=q.2; rwa [Bool.not_eq_true'] at this)
theorem k_cmp2 {op op2:COp} {o o2:CmpOp} (h:(decide (copOf op=o) && (decide (copOf op2=o2) && !behindInMarks o2 e3))=true) (ha:EB C a e1) (hb:EB C b e2) (hc:EB C c e3):EB C (.cmp2 a op b op2 c) (.Compare e1 [o,o2] [e2,e3] p):=by
 have q:=and2 h
 have q2:=and2 q.2
 have e:=of_decide_eq_true q.1
 have e2:=of_decide_eq_true q2.1
 subst e e2
 exact ok_cmp2 ha hb hc (by have:=q2.2; rwa [Bool.not_eq_true'] at this)
theorem k_and {l:List ME} (h:EBs C l es) (hl:l.isEmpty=false):EB C (.and l) (.BoolOp .And es p):=by
 cases h with
 | nil=>cases hl
 | cons h hr=>exact ok_and h hr
theorem k_or {l:List ME} (h:EBs C l es) (hl:l.isEmpty=false):EB C (.or l) (.BoolOp .Or es p):=by
 cases h with
 | nil=>cases hl
 | cons h hr=>exact ok_or h hr
noncomputable def glOk (C:CK) (x:Str):Bool:=decide (C.kinds x=some .globalImplicit) && ndbg x
theorem glOk_eq {x : Str} (h : glOk C x = true) : C.kinds x = some .globalImplicit ∧ (x == ("__debug__" : Str)) = false := ⟨of_decide_eq_true (and2 h).1, ndbg_eq (and2 h).2⟩
noncomputable def fnOk (C:CK) (x:Str) (f:Nat):Bool:=glOk C x && decide (FTL.lookup x=some f)
theorem k_call {x:Str} {f:Nat} {np:Pos} (h:fnOk C x f=true) (hm:EBs C ms es):EB C (.call f ms) (.Call (.Name x np) es [] p):=ok_call (glOk_eq (and2 h).1).1 (glOk_eq (and2 h).1).2 (of_decide_eq_true (and2 h).2) hm
theorem k_bi {x:Str} {bi:BI} {np:Pos} (h:(glOk C x && decide (biName bi=x))=true) (hm:EBs C ms es):EB C (.bi bi ms) (.Call (.Name x np) es [] p):=by
 have e:=of_decide_eq_true (and2 h).2
 subst e
 exact ok_bi (glOk_eq (and2 h).1).1 (glOk_eq (and2 h).1).2 hm
noncomputable def ckBase (e:Expr):Ck (∀ n env whole,attributeBase e n env whole=whole):=match e,view e with
 | _,.name ..=>.y fun _ _ _=>rfl
 | _,.const ..=>.y fun _ _ _=>rfl
 | _,_=>.n
theorem k_sm {sm:SM} {ov:Expr} {n:Str} {apos:Pos} (hb:∀ n env whole,attributeBase ov n env whole=whole) (h:(decide ((smOf sm).1=n) && ((apos.endLine == p.line) && Nat.blt es.length 20))=true) (ho:EB C a ov) (hm:EBs C ms es):EB C (.sm sm a ms) (.Call (.Attribute ov n apos) es [] p):=by
 have q:=and2 h
 have q2:=and2 q.2
 have e:=of_decide_eq_true q.1
 subst e
 exact ok_sm (hb _) q2.1 q2.2 ho hm
theorem k_dget {i : Nat} {x n : Str} {np apos : Pos} (h : (decide (("get" : Str) = n) && ((apos.endLine == p.line) && nmOk C i x)) = true) (ha : EB C a e1) (hb : EB C b e2) : EB C (.dget i a b) (.Call (.Attribute (.Name x np) n apos) [e1, e2] [] p) := by
 have q:=and2 h
 have q2:=and2 q.2
 have e:=of_decide_eq_true q.1
 subst e
 exact ok_dget (nmOk_eq q2.2).1 (nmOk_eq q2.2).2 q2.1 ha hb
theorem k_str {l:List Nat} {s:Str} {u:Nat} (h:(decide (s.cps.toList=l) && (l.all (fun c=>decide (c < 0x110000)) && Nat.ble l.length 1000))=true):EB C (.c (.str l)) (.Constant (.str s) u p):=by
 have q:=and2 h
 have e:=of_decide_eq_true q.1
 subst e
 exact c_str q.2
noncomputable def ckWalk (e:Expr):Ck (∀ env v,foldedSetIterable e env v=pure v):=match e,view e with
 | _,.name ..=>.y fun _ _=>rfl
 | _,.sub ..=>.y fun _ _=>rfl
 | _,.call ..=>.y fun _ _=>rfl
 | _,_=>.n
theorem k_rng {n : ME} {g : Str} {ne : Expr} {np : Pos} (h : (decide (("range" : Str) = g) && glOk C g) = true) (hn : EB C n ne) : ItE C n .rng (.Call (.Name g np) [ne] [] p) := by
 have q:=and2 h
 have e:=of_decide_eq_true q.1
 subst e
 exact .rng hn (glOk_eq q.2).1
end
def EBo (C:CK) (m:Option ME) (e:Option Expr):Prop:=match m,e with
 | none,none=>True
 | some m,some e=>EB C m e
 | _,_=>False
theorem EBo.ob {C:CK} {m:Option ME} {e:Option Expr} (h:EBo C m e):OB C m e:=by
 cases m <;> cases e
 ·exact o_none
 ·exact h.elim
 ·exact h.elim
 ·exact o_some h
noncomputable def ckConst (C:CK) (v:AV) (k:Const) (u:Nat) (p:Pos):Ck (EB C (.c v) (.Constant k u p)):=match v,k with
 | .none,.none=>.y c_none
 | .bool a,.bool b=>ckD (p:=a=b) fun h=>.y (h ▸ c_bool)
 | .int a,.int b=>ckD (p:=a=b) fun h=>.y (h ▸ c_int)
 | .str l,.str s=>ckB _ fun h=>.y (k_str h)
 | _,_=>.n
noncomputable def ckIt (C:CK) (n:ME) (k:IK) (f:(e:Expr)→Ck (EB C n e)) (i:Expr):Ck (ItE C n k i):=match k with
 | .rng=>(match i,view i with
  | _,.call g [ne] cp=>(match g,view g with
   | _,.name gn np=>ckB _ fun h=>(f ne).map fun hn=>k_rng h hn
   | _,_=>.n)
  | _,_=>.n)
 | .str=>(ckWalk i).bind fun h=>(f i).map fun hn=>.str hn h
 | .lst=>(ckWalk i).bind fun h=>(f i).map fun hn=>.lst hn h
noncomputable def ckIf (C:CK) (c:Option ME) (f:(e:Option Expr)→Ck (EBo C c e)) (l:List Expr):Ck (IfE C c l):=match c,f,l with
 | none,_,[]=>.y .none
 | some m,f,[e]=>(f (some e)).map fun h=>.some h
 | _,_,_=>.n
noncomputable def ckEl (C:CK) (x:Str) (c:Option ME) (f:(e:Option Expr)→Ck (EBo C c e)) (e:Expr):Ck (ElE C x c e):=match c,f with
 | none,_=>(match e,view e with
  | _,.name z pz=>ckD (p:=z=x) fun h=>.y (h ▸ .own)
  | _,_=>.n)
 | some m,f=>(f (some e)).map fun h=>.val h
mutual
noncomputable def ckE:(m:ME)→(C:CK)→(e:Expr)→Ck (EB C m e)
 | .c v,C,e=>match e,view e with
  | _,.const k u p=>ckConst C v k u p
  | _,_=>.n
 | .v i,C,e=>match e,view e with
  | _,.name x p=>ckB (nmOk C i x) fun h=>.y (k_v h)
  | _,_=>.n
 | .bin op a b,C,e=>match e,view e with
  | _,.bin l o r p=>ckD (p:=opOf op=o) fun h=>(ckE a C l).bind fun ha=>(ckE b C r).map fun hb=>k_bin h ha hb
  | _,_=>.n
 | .neg a,C,e=>match e,view e with
  | _,.un .USub x p=>(ckE a C x).map ok_neg
  | _,_=>.n
 | .not a,C,e=>match e,view e with
  | _,.un .Not x p=>(ckE a C x).map ok_not
  | _,_=>.n
 | .and l,C,e=>match e,view e with
  | _,.bo .And vs p=>ckD (p:=l.isEmpty=false) fun h=>(ckEs l C vs).map fun hs=>k_and hs h
  | _,_=>.n
 | .or l,C,e=>match e,view e with
  | _,.bo .Or vs p=>ckD (p:=l.isEmpty=false) fun h=>(ckEs l C vs).map fun hs=>k_or hs h
  | _,_=>.n
 | .cmp a op b,C,e=>match e,view e with
  | _,.cmp l [o] [r] p=>ckB _ fun h=>(ckE a C l).bind fun ha=>(ckE b C r).map fun hb=>k_cmp h ha hb
  | _,_=>.n
 | .cmp2 a op b op2 c,C,e=>match e,view e with
  | _,.cmp l [o,o2] [r,r2] p=>ckB _ fun h=>(ckE a C l).bind fun ha=>(ckE b C r).bind fun hb=>(ckE c C r2).map fun hc=>k_cmp2 h ha hb hc
  | _,_=>.n
 | .ite c a b,C,e=>match e,view e with
  | _,.ite t x y p=>(ckE c C t).bind fun hc=>(ckE a C x).bind fun ha=>(ckE b C y).map fun hb=>ok_ite hc ha hb
  | _,_=>.n
 | .tup l,C,e=>match e,view e with
  | _,.tup es u p=>(ckEs l C es).map ok_tup
  | _,_=>.n
 | .lst l,C,e=>match e,view e with
  | _,.lst es p=>(ckEs l C es).map ok_lst
  | _,_=>.n
 | .idx a i,C,e=>match e,view e with
  | _,.sub v s p=>(ckE a C v).bind fun ha=>(ckE i C s).map fun hi=>ok_idx ha hi
  | _,_=>.n
 | .sl a lo hi,C,e=>match e,view e with
  | _,.sub v s p=>(match s,view s with
   | _,.slice l u p2=>(ckE a C v).bind fun ha=>(ckO lo C l).bind fun hl=>(ckO hi C u).map fun hu=>ok_sl ha hl.ob hu.ob
   | _,_=>.n)
  | _,_=>.n
 | .call f l,C,e=>match e,view e with
  | _,.call g es p=>(match g,view g with
   | _,.name x np=>ckB (fnOk C x f) fun h=>(ckEs l C es).map fun hs=>k_call h hs
   | _,_=>.n)
  | _,_=>.n
 | .bi b l,C,e=>match e,view e with
  | _,.call g es p=>(match g,view g with
   | _,.name x np=>ckB _ fun h=>(ckEs l C es).map fun hs=>k_bi h hs
   | _,_=>.n)
  | _,_=>.n
 | .sm b o l,C,e=>match e,view e with
  | _,.call g es p=>(match g,view g with
   | _,.attr ov n ap=>(ckBase ov).bind fun hb=>ckB _ fun h=>(ckE o C ov).bind fun ho=>(ckEs l C es).map fun hs=>k_sm hb h ho hs
   | _,_=>.n)
  | _,_=>.n
 | .dget i k d,C,e=>match e,view e with
  | _,.call g [e1,e2] p=>(match g,view g with
   | _,.attr ov n ap=>(match ov,view ov with
    | _,.name x np=>ckB _ fun h=>(ckE k C e1).bind fun ha=>(ckE d C e2).map fun hb=>k_dget h ha hb
    | _,_=>.n)
   | _,_=>.n)
  | _,_=>.n
 | .comp fr k n elt cond,C,e=>match e,view e with
  | _,.comp ee t i ifs s p=>(match t,view t with
   | _,.name x px=>ckB (scopeOk C s x fr) fun h1=>ckB (ndbg x) fun h2=>(ckIt C n k (fun e=>ckE n C e) i).bind fun hi=>(ckIf (inner C s x fr) cond (fun e=>ckO cond (inner C s x fr) e) ifs).bind fun hc =>
     (ckEl (inner C s x fr) x elt (fun e=>ckO elt (inner C s x fr) e) ee).map fun he=>ok_comp (px:=px) h1 (ndbg_eq h2) hi hc he
   | _,_=>.n)
  | _,_=>.n
noncomputable def ckEs:(l:List ME)→(C:CK)→(es:List Expr)→Ck (EBs C l es)
 | [],C,es=>match es with
  | []=>.y .nil
  | _=>.n
 | m::l,C,es=>match es with
  | e::es=>(ckE m C e).bind fun h=>(ckEs l C es).map fun hs=>.cons h hs
  | _=>.n
noncomputable def ckO:(o:Option ME)→(C:CK)→(e:Option Expr)→Ck (EBo C o e)
 | none,C,e=>match e with
  | none=>.y True.intro
  | _=>.n
 | some m,C,e=>match e with
  | some e=>(ckE m C e).map fun h=>h
  | _=>.n
end
end Mine
end
section
set_option tactic.hygienic false
open PySem PySem.Calls PyProof.Rows PySem.SeqAt PySem.W
set_option genCtorIdx false
namespace Mine
noncomputable def ckSwap (e:Expr):Ck (noSwap e):=match e,view e with
 | _,.const ..=>.y fun _ _ _=>rfl
 | _,.name ..=>.y fun _ _ _=>rfl
 | _,.bin ..=>.y fun _ _ _=>rfl
 | _,.un ..=>.y fun _ _ _=>rfl
 | _,.bo ..=>.y fun _ _ _=>rfl
 | _,.cmp ..=>.y fun _ _ _=>rfl
 | _,.ite ..=>.y fun _ _ _=>rfl
 | _,.tup ..=>.y fun _ _ _=>rfl
 | _,.lst ..=>.y fun _ _ _=>rfl
 | _,.sub ..=>.y fun _ _ _=>rfl
 | _,.call ..=>.y fun _ _ _=>rfl
 | _,_=>.n
noncomputable def ckStores (ts:List Expr) (k:Nat) (tp:Pos) (e:Expr):Ck (∀ env,swappedStores [.Tuple ts k tp] e env=pure none):=match e,view e with
 | _,.name ..=>.y fun _=>rfl
 | _,.sub ..=>.y fun _=>rfl
 | _,.call ..=>.y fun _=>rfl
 | _,_=>.n
inductive TV:Stmt→Type
 | asg (t v:Expr) (p:Pos):TV (.Assign [t] v p)
 | aug (t:Expr) (o:Operator) (v:Expr) (p:Pos):TV (.AugAssign t o v p)
 | ret (v:Option Expr) (p:Pos):TV (.Return v p)
 | expr (v:Expr) (p:Pos):TV (.Expr v p)
 | ite (c:Expr) (a b:List Stmt) (p:Pos):TV (.If c a b p)
 | whil (c:Expr) (a:List Stmt) (p:Pos):TV (.While c a [] p)
 | loop (t i:Expr) (b:List Stmt) (p:Pos):TV (.For t i b [] p)
 | raise (e:Expr) (p:Pos):TV (.Raise (some e) none p)
 | try_ (b:Stmt) (c:Expr) (y:Str) (h:Stmt) (q p:Pos):TV (.Try [b] [.ExceptHandler (some c) (some y) [h] q] [] [] p)
 | brk (p:Pos):TV (.Break p)
 | cont (p:Pos):TV (.Continue p)
 | other (s:Stmt):TV s
noncomputable def vAsg (t:List Expr) (v:Expr) (p:Pos):TV (.Assign t v p):=match t with
 | [t]=>.asg t v p
 | _=>.other _
noncomputable def vWhil (c:Expr) (a b:List Stmt) (p:Pos):TV (.While c a b p):=match b with
 | []=>.whil c a p
 | _=>.other _
noncomputable def vLoop (t i:Expr) (a b:List Stmt) (p:Pos):TV (.For t i a b p):=match b with
 | []=>.loop t i a p
 | _=>.other _
noncomputable def vRaise (e c:Option Expr) (p:Pos):TV (.Raise e c p):=match e,c with
 | some e,none=>.raise e p
 | _,_=>.other _
noncomputable def vTry (b:List Stmt) (h:List ExceptHandler) (o f:List Stmt) (p:Pos):TV (.Try b h o f p):=match b,h,o,f with
 | [b],[.ExceptHandler (some c) (some y) [h] q],[],[]=>.try_ b c y h q p
 | _,_,_,_=>.other _
noncomputable def tview (s:Stmt):TV s:=match s with
 | .Assign t v p=>vAsg t v p
 | .AugAssign t o v p=>.aug t o v p
 | .Return v p=>.ret v p
 | .Expr v p=>.expr v p
 | .If c a b p=>.ite c a b p
 | .While c a b p=>vWhil c a b p
 | .For t i a b p=>vLoop t i a b p
 | .Raise e c p=>vRaise e c p
 | .Try b h o f p=>vTry b h o f p
 | .Break p=>.brk p
 | .Continue p=>.cont p
 | s=>.other s
section
variable {C:CK} {a b c m:ME} {e e1 e2 e3:Expr} {ms:List ME} {es:List Expr} {x y n:Str} {i j:Nat} {p q pos:Pos}
noncomputable def stOk (C:CK) (i:Nat) (x:Str):Bool:=decide (C.N[i]?=some x) && storable C x
theorem stOk_eq (h:stOk C i x=true):C.N[i]?=some x∧storable C x=true:=⟨of_decide_eq_true (and2 h).1,(and2 h).2⟩
noncomputable def ckTg (C:CK):(is:List Nat)→(ts:List Expr)→Ck (TgE C is ts)
 | [],[]=>.y .nil
 | i::is,t::ts=>(match t,view t with
  | _,.name x p=>ckB (stOk C i x) fun h=>(ckTg C is ts).map fun hs=>.cons (stOk_eq h).1 (stOk_eq h).2 hs
  | _,_=>.n)
 | _,_=>.n
noncomputable def loOk (C:CK) (i:Nat) (x:Str):Bool:=decide (C.N[i]?=some x) && decide (C.kinds x=some .local)
noncomputable def opB (s:Bool):Operator:=match s with | true=>.Sub | false=>.Add
theorem opB_eq (s:Bool):opB s=(match s with | true=>.Sub | false=>.Add):=rfl
theorem k_aug {sub:Bool} {o:Operator} (h:(decide (opB sub=o) && stOk C i x)=true) (hm:EB C m e):SB C (.aug i sub m) (.AugAssign (.Name x p) o e pos):=by
 have q:=and2 h
 have e:=of_decide_eq_true q.1
 subst e
 exact s_aug (stOk_eq q.2).1 (stOk_eq q.2).2 hm
theorem k_asg2 {tp vp pa pc:Pos} {k k2 u:Nat} {ca:Const} {f:Expr} (h:(loOk C i x && (loOk C j y && (!(x == y) && decide (p.line=q.line))))=true)
  (ha:EB C a (.Constant ca u pa)) (hb:EB C b (.Call f es [] pc)):SB C (.asg2 i j a b) (.Assign [.Tuple [.Name x p,.Name y q] k tp] (.Tuple [.Constant ca u pa,.Call f es [] pc] k2 vp) pos) :=
 have q1:=and2 h
 have q2:=and2 q1.2
 have q3:=and2 q2.2
 have x1:=and2 q1.1
 have y1:=and2 q2.1
 s_asg2 (of_decide_eq_true x1.1) (of_decide_eq_true y1.1) (of_decide_eq_true x1.2) (of_decide_eq_true y1.2) (Bool.not_eq_true' _ ▸ q3.1) (of_decide_eq_true q3.2) ha hb
theorem k_ownC {scope : Scope} {n : ME} {ne : Expr} {k0 : Nat} {kp px gp cp sp : Pos} {z g : Str} (h : (loOk C i y && (decide (("range" : Str) = g) && (glOk C g && ((p.line == sp.line) && (!(scope.names.any fun w => w.1 == y && (w.2 == .local || w.2 == .cell)) && (scopeOk C scope z [] && scope.names.all (fun w => w.2 != .free))))))) = true) (hn : EB C n ne) :
  SB C (.ownC i n) (.Assign [.Name y p] (.ListComp (.Constant .none k0 kp) [⟨.Name z px,.Call (.Name g gp) [ne] [] cp,[],0⟩] scope sp) pos):=by
 have q1:=and2 h
 have q2:=and2 q1.2
 have q3:=and2 q2.2
 have q4:=and2 q3.2
 have q5:=and2 q4.2
 have q6:=and2 q5.2
 have e:=of_decide_eq_true q2.1
 subst e
 exact s_ownC (of_decide_eq_true (and2 q1.1).1) (of_decide_eq_true (and2 q1.1).2) q4.1 (Bool.not_eq_true' _ ▸ q5.1) q6.1 q6.2 hn (glOk_eq q3.1).1
theorem k_app {apos cp qp : Pos} (h : (decide (("append" : Str) = n) && ((apos.endLine == cp.line) && nmOk C i x)) = true) (hm : EB C m e) : SB C (.app i m) (.Expr (.Call (.Attribute (.Name x p) n apos) [e] [] cp) qp) := by
 have q:=and2 h
 have q2:=and2 q.2
 have e:=of_decide_eq_true q.1
 subst e
 exact s_app (nmOk_eq q2.2).1 (nmOk_eq q2.2).2 q2.1 hm
theorem k_rev {apos cp qp : Pos} (h : (decide (("reverse" : Str) = n) && ((apos.endLine == cp.line) && nmOk C i x)) = true) : SB C (.rev i) (.Expr (.Call (.Attribute (.Name x p) n apos) [] [] cp) qp) := by
 have q:=and2 h
 have q2:=and2 q.2
 have e:=of_decide_eq_true q.1
 subst e
 exact s_rev (nmOk_eq q2.2).1 (nmOk_eq q2.2).2 q2.1
theorem k_fn {f : Nat} (h : fnOk C x f = true) : C.kinds x = some .globalImplicit ∧ (x == ("__debug__" : Str)) = false ∧ FTL.lookup x = some f := ⟨(glOk_eq (and2 h).1).1, (glOk_eq (and2 h).1).2, of_decide_eq_true (and2 h).2⟩
theorem k_exprD {fn:Str} {f:Nat} {fp cp qp:Pos} (h:(fnOk C fn f && nmOk C i x)=true) (hm:EBs C ms es):SB C (.exprD f i ms) (.Expr (.Call (.Name fn fp) (.Name x q::es) [] cp) qp) :=
 have h1:=k_fn (and2 h).1
 s_exprD h1.1 h1.2.1 h1.2.2 (nmOk_eq (and2 h).2).1 (nmOk_eq (and2 h).2).2 hm
theorem k_raise {fn:Str} {f:Nat} {fp cp:Pos} (h:fnOk C fn f=true) (hm:EBs C ms es):SB C (.raise f ms) (.Raise (some (.Call (.Name fn fp) es [] cp)) none pos) :=
 have h1:=k_fn h
 s_raise h1.1 h1.2.1 h1.2.2 hm
theorem k_name (h:(loOk C j y && ndbg y)=true):HName C j y:=⟨of_decide_eq_true (and2 (and2 h).1).1,ndbg_eq (and2 h).2,of_decide_eq_true (and2 (and2 h).1).2⟩
inductive FaultE (y:Str):Expr→Prop
 | mk {pa q1 pb q2 pc q3 pos:Pos} {u:Nat}:FaultE y (faultE y pa q1 pb q2 pc q3 u pos)
noncomputable def attrOf (e:Expr) (f:Str→Str→Bool):Bool:=match view e with
 | .attr a n p=>(match view a with
  | .name x q=>f x n
  | _=>false)
 | _=>false
inductive AttrE (y n:Str):Expr→Prop
 | mk {p q:Pos}:AttrE y n (.Attribute (.Name y p) n q)
noncomputable def ckAttr (y n:Str) (e:Expr):Ck (AttrE y n e):=match e,view e with
 | _,.attr a m p=>(match a,view a with
  | _,.name x q=>ckD (p:=x=y∧m=n) fun h=>.y (h.1 ▸ h.2 ▸ .mk)
  | _,_=>.n)
 | _,_=>.n
theorem fault_of {u : Nat} (h1 : AttrE y "code" e1) (h2 : AttrE y "value" e2) (h3 : AttrE y "errorcode" e3) : FaultE y (.Tuple [e1, e2, e3] u p) := by
 cases h1; cases h2; cases h3; exact .mk
noncomputable def ckFault (y:Str) (e:Expr):Ck (FaultE y e):=match e,view e with
 | _, .tup [a, b, c] u p => (ckAttr y "code" a).bind fun h1 => (ckAttr y "value" b).bind fun h2 => (ckAttr y "errorcode" c).map fun h3 => fault_of h1 h2 h3
 | _,_=>.n
theorem k_tryR {p1 p2 p q : Pos} {r : Str} {v : Expr} (h : (decide (("Raised" : Str) = r) && (decide (C.kinds r = some .globalImplicit) && (loOk C j y && ndbg y))) = true) (hm : EB C m e) (hf : FaultE y v) :
  SB C (.tryR m j) (.Try [.Return (some e) p1] [.ExceptHandler (some (.Name r p)) (some y) [.Return (some v) p2] q] [] [] pos):=by
 have q1:=and2 h
 have q2:=and2 q1.2
 have e:=of_decide_eq_true q1.1
 subst e
 cases hf
 exact s_tryR (of_decide_eq_true q2.1) (k_name q2.2) hm
theorem k_tryA {p1 p2 p3 p4 p q : Pos} {r z : Str} {v : Expr} (h : (decide (("Raised" : Str) = r) && (decide (C.kinds r = some .globalImplicit) && ((loOk C j y && ndbg y) && (stOk C i x && (decide (z = x) && !(x == y)))))) = true) (hm : EB C m e) (hn : noSwap e) (hf : FaultE y v) :
  SB C (.tryA i m j) (.Try [.Assign [.Name x p1] e p2] [.ExceptHandler (some (.Name r p)) (some y) [.Assign [.Name z p3] v p4] q] [] [] pos):=by
 have q1:=and2 h
 have q2:=and2 q1.2
 have q3:=and2 q2.2
 have q4:=and2 q3.2
 have q5:=and2 q4.2
 have e:=of_decide_eq_true q1.1
 have e':=of_decide_eq_true q5.1
 subst e e'
 cases hf
 exact s_tryA (of_decide_eq_true q2.1) (k_name q3.1) (stOk_eq q4.1).1 (stOk_eq q4.1).2 (Bool.not_eq_true' _ ▸ q5.2) hm hn
end
noncomputable def ckTgt (C:CK) (k:IK) (is:List Nat) (t:Expr):Ck (TgtE C k is t):=match k with
 | .lst=>(match t,view t with
  | _,.tup ts n p=>(ckTg C is ts).map .tup
  | _,_=>.n)
 | .rng=>(match t,view t,is with
  | _,.name x p,[i]=>ckB (stOk C i x) fun h=>.y (.name (fun h=>nomatch h) (stOk_eq h).1 (stOk_eq h).2)
  | _,_,_=>.n)
 | .str=>(match t,view t,is with
  | _,.name x p,[i]=>ckB (stOk C i x) fun h=>.y (.name (fun h=>nomatch h) (stOk_eq h).1 (stOk_eq h).2)
  | _,_,_=>.n)
section
variable {C:CK}
noncomputable def onAsg {P:Stmt→Prop} (C:CK) (i:Nat) (st:Stmt) (k:∀ x p v pos,stOk C i x=true→Ck (P (.Assign [.Name x p] v pos))):Ck (P st):=match st,tview st with
 | _,.asg t v pos=>(match t,view t with
  | _,.name x p=>ckB (stOk C i x) fun h=>k x p v pos h
  | _,_=>.n)
 | _,_=>.n
noncomputable def onMeth {P:Stmt→Prop} (st:Stmt) (k:∀ x p n ap l cp q,Ck (P (.Expr (.Call (.Attribute (.Name x p) n ap) l [] cp) q))):Ck (P st):=match st,tview st with
 | _,.expr v q=>(match v,view v with
  | _,.call f l cp=>(match f,view f with
   | _,.attr o n ap=>(match o,view o with
    | _,.name x p=>k x p n ap l cp q
    | _,_=>.n)
   | _,_=>.n)
  | _,_=>.n)
 | _,_=>.n
noncomputable def onSub {P:Stmt→Prop} (st:Stmt) (k:∀ x p ke q v pos,Ck (P (.Assign [.Subscript (.Name x p) ke q] v pos))):Ck (P st):=match st,tview st with
 | _,.asg t v pos=>(match t,view t with
  | _,.sub o ke q=>(match o,view o with
   | _,.name x p=>k x p ke q v pos
   | _,_=>.n)
  | _,_=>.n)
 | _,_=>.n
noncomputable def onCall {P:Expr→Prop} (e:Expr) (k:∀ x np l cp,Ck (P (.Call (.Name x np) l [] cp))):Ck (P e):=match e,view e with
 | _,.call f l cp=>(match f,view f with
  | _,.name x np=>k x np l cp
  | _,_=>.n)
 | _,_=>.n
mutual
noncomputable def ckS:(m:MS)→(st:Stmt)→Ck (SB C m st)
 | .asg i m,st=>onAsg C i st fun x p v pos h=>(ckE m C v).bind fun hm=>(ckSwap v).map fun hn=>s_asg (stOk_eq h).1 (stOk_eq h).2 hm hn
 | .asgT is m,st=>match st,tview st with
  | _,.asg t v pos=>(match t,view t with
   | _,.tup ts k tp=>(ckTg C is ts).bind fun ht=>(ckE m C v).bind fun hm=>(ckSwap v).bind fun hn=>(ckStores ts k tp v).map fun hw=>s_asgT ht hm hn hw
   | _,_=>.n)
  | _,_=>.n
 | .asg2 i j a b,st=>match st,tview st with
  | _,.asg t v pos=>(match t,view t,v,view v with
   | _,.tup [t1,t2] k tp,_,.tup [v1,v2] k2 vp=>(match t1,view t1,t2,view t2,v1,view v1,v2,view v2 with
    | _,.name x p,_,.name y q,_,.const ca u pa,_,.call f es pc=>ckB _ fun h=>(ckE a C (.Constant ca u pa)).bind fun ha=>(ckE b C (.Call f es [] pc)).map fun hb=>k_asg2 h ha hb
    | _,_,_,_,_,_,_,_=>.n)
   | _,_,_,_=>.n)
  | _,_=>.n
 | .aug i sub m,st=>match st,tview st with
  | _,.aug t o v pos=>(match t,view t with
   | _,.name x p=>ckB _ fun h=>(ckE m C v).map fun hm=>k_aug h hm
   | _,_=>.n)
  | _,_=>.n
 | .newL i,st=>onAsg C i st fun x p v pos h=>match v,view v with
  | _,.lst [] q=>.y (s_newL (stOk_eq h).1 (stOk_eq h).2)
  | _,_=>.n
 | .newD i,st=>onAsg C i st fun x p v pos h=>match v,view v with
  | _,.dict q=>.y (s_newD (stOk_eq h).1 (stOk_eq h).2)
  | _,_=>.n
 | .ownM i a b,st=>onAsg C i st fun x p v pos h=>match v,view v with
  | _,.bin l .Mult r bp=>(match l,view l with
   | _,.lst [e1] lp=>(ckE a C e1).bind fun ha=>(ckE b C r).map fun hb=>s_ownM (stOk_eq h).1 (stOk_eq h).2 ha hb
   | _,_=>.n)
  | _,_=>.n
 | .ownC i n,st=>onAsg C i st fun y p v pos h=>match v,view v with
  | _,.comp ee t it [] s sp=>(match ee,view ee,t,view t with
   | _,.const .none k0 kp,_,.name z px=>onCall (P:=fun it=>SB C (.ownC i n) (.Assign [.Name y p] (.ListComp (.Constant .none k0 kp) [⟨.Name z px,it,[],0⟩] s sp) pos)) it fun g gp l cp=>match l with
    | [ne]=>ckB _ fun h=>(ckE n C ne).map fun hn=>k_ownC h hn
    | _=>.n
   | _,_,_,_=>.n)
  | _,_=>.n
 | .app i m,st=>onMeth st fun x p n ap l cp q=>match l with
  | [e]=>ckB _ fun h=>(ckE m C e).map fun hm=>k_app h hm
  | _=>.n
 | .rev i,st=>onMeth st fun x p n ap l cp q=>match l with
  | []=>ckB _ fun h=>.y (k_rev h)
  | _=>.n
 | .setL i a m,st=>onSub st fun x p ke q v pos=>ckB (nmOk C i x) fun h=>(ckE a C ke).bind fun ha=>(ckE m C v).bind fun hm=>(ckSwap v).map fun hn=>s_setL (nmOk_eq h).1 (nmOk_eq h).2 ha hm hn
 | .setD i a m,st=>onSub st fun x p ke q v pos=>ckB (nmOk C i x) fun h=>(ckE a C ke).bind fun ha=>(ckE m C v).bind fun hm=>(ckSwap v).map fun hn=>s_setD (nmOk_eq h).1 (nmOk_eq h).2 ha hm hn
 | .freeze i,st=>.n
 | .ite c a b,st=>match st,tview st with
  | _,.ite t x y p=>(ckE c C t).bind fun hc=>(ckSs a x).bind fun ha=>(ckSs b y).map fun hb=>s_ite hc ha hb
  | _,_=>.n
 | .whil c b,st=>match st,tview st with
  | _,.whil t x p=>(ckE c C t).bind fun hc=>(ckSs b x).map fun hb=>s_whil hc hb
  | _,_=>.n
 | .loop k is n b,st=>match st,tview st with
  | _,.loop t it x p=>(ckIt C n k (fun e=>ckE n C e) it).bind fun hi=>(ckTgt C k is t).bind fun ht=>(ckSs b x).map fun hb=>s_loop hi ht hb
  | _,_=>.n
 | .ret m,st=>match st,tview st with
  | _,.ret (some v) p=>(ckE m C v).map fun hm=>s_ret hm
  | _,.ret none p=>(match m with
   | .c .none=>.y s_ret0
   | _=>.n)
  | _,_=>.n
 | .brk,st=>match st,tview st with
  | _,.brk p=>.y s_brk
  | _,_=>.n
 | .cont,st=>match st,tview st with
  | _,.cont p=>.y s_cont
  | _,_=>.n
 | .expr m,st=>match st,tview st with
  | _,.expr v p=>(ckE m C v).bind fun hm=>(ckSwap v).map fun hn=>s_expr hm hn
  | _,_=>.n
 | .exprD f i l,st=>match st,tview st with
  | _,.expr v p=>onCall (P:=fun v=>SB C (.exprD f i l) (.Expr v p)) v fun fn fp es cp=>match es with
   | e0::es=>(match e0,view e0 with
    | _,.name x q=>ckB _ fun h=>(ckEs l C es).map fun hs=>k_exprD h hs
    | _,_=>.n)
   | []=>.n
  | _,_=>.n
 | .raise f l,st=>match st,tview st with
  | _,.raise e p=>onCall (P:=fun e=>SB C (.raise f l) (.Raise (some e) none p)) e fun fn fp es cp=>ckB (fnOk C fn f) fun h=>(ckEs l C es).map fun hs=>k_raise h hs
  | _,_=>.n
 | .tryR m j,st=>match st,tview st with
  | _,.try_ b c y hb q p=>(match c,view c,b,tview b,hb,tview hb with
   | _,.name r rp,_,.ret (some v) p1,_,.ret (some w) p2=>ckB _ fun h=>(ckE m C v).bind fun hm=>(ckFault y w).map fun hf=>k_tryR h hm hf
   | _,_,_,_,_,_=>.n)
  | _,_=>.n
 | .tryA i m j,st=>match st,tview st with
  | _,.try_ b c y hb q p=>(match c,view c,b,tview b,hb,tview hb with
   | _,.name r rp,_,.asg t v p1,_,.asg t' w p2=>(match t,view t,t',view t' with
    | _,.name x xp,_,.name z zp=>ckB _ fun h=>(ckE m C v).bind fun hm=>(ckSwap v).bind fun hn=>(ckFault y w).map fun hf=>k_tryA h hm hn hf
    | _,_,_,_=>.n)
   | _,_,_,_,_,_=>.n)
  | _,_=>.n
noncomputable def ckSs:(ms:List MS)→(ss:List Stmt)→Ck (SBs C ms ss)
 | [],ss=>match ss with
  | []=>.y ss_nil
  | _=>.n
 | m::ms,ss=>match m with
  | .freeze i=>ckB ((C.N[i]?).isSome) fun h=>(ckSs ms ss).map fun hs=>ss_freeze (Option.isSome_iff_exists.mp h).choose_spec hs
  | m=>match ss with
   | s::ss=>(ckS m s).bind fun h=>(ckSs ms ss).map fun hs=>ss_cons h hs
   | []=>.n
end
end
end Mine
end
section
set_option tactic.hygienic false
open PySem
namespace Mine
noncomputable def c_is_blank:List MS :=
 [.ret (.cmp (.v 0) .isin (.tup [(.c (.str [32])),(.c (.str [9])),(.c (.str [10])),(.c (.str [11])),(.c (.str [12])),(.c (.str [13]))]))]
noncomputable def d_is_blank : DD := ⟨52, ["c"], 1, [], c_is_blank⟩
noncomputable def c_digit:List MS :=
 [.ite (.cmp (.bi .len [(.v 0)]) .ne (.c (.int 1)))
  [.ret (.neg (.c (.int 1)))]
  [],
 .asg 1 (.bi .ord [(.v 0)]),
 .ite (.cmp2 (.c (.int 48)) .le (.v 1) .le (.c (.int 57)))
  [.ret (.bin .sub (.v 1) (.c (.int 48)))]
  [],
 .ite (.cmp2 (.c (.int 97)) .le (.v 1) .le (.c (.int 122)))
  [.ret (.bin .sub (.v 1) (.c (.int 87)))]
  [],
 .ite (.cmp2 (.c (.int 65)) .le (.v 1) .le (.c (.int 90)))
  [.ret (.bin .sub (.v 1) (.c (.int 55)))]
  [],
 .ret (.neg (.c (.int 1)))]
noncomputable def d_digit : DD := ⟨59, ["c", "n"], 1, [], c_digit⟩
noncomputable def c_digits_value:List MS :=
 [.ite (.cmp (.v 0) .eq (.c (.str [])))
  [.ret (.c .none)]
  [],
 .asg 2 (.c (.int 0)),
 .loop .str [3] (.v 0)
  [.asg 4 (.call 59 [(.v 3)]),
  .ite (.or [(.cmp (.v 4) .lt (.c (.int 0))),(.cmp (.v 4) .ge (.v 1))])
   [.ret (.c .none)]
   [],
  .asg 2 (.bin .add (.bin .mul (.v 2) (.v 1)) (.v 4))],
 .ret (.v 2)]
noncomputable def d_digits_value : DD := ⟨66, ["text", "base", "value", "c", "n"], 2, [], c_digits_value⟩
noncomputable def c_base_of:List MS :=
 [.ite (.cmp (.v 0) .isin (.tup [(.c (.str [120])),(.c (.str [88]))]))
  [.ret (.c (.int 16))]
  [],
 .ite (.cmp (.v 0) .isin (.tup [(.c (.str [111])),(.c (.str [79]))]))
  [.ret (.c (.int 8))]
  [],
 .ite (.cmp (.v 0) .isin (.tup [(.c (.str [98])),(.c (.str [66]))]))
  [.ret (.c (.int 2))]
  [],
 .ite (.cmp (.v 0) .isin (.tup [(.c (.str [100])),(.c (.str [68]))]))
  [.ret (.c (.int 10))]
  [],
 .ret (.c (.int 0))]
noncomputable def d_base_of : DD := ⟨73, ["mark"], 1, [], c_base_of⟩
noncomputable def c_whole_of:List MS :=
 [.asg2 1 2 (.c (.int 0)) (.bi .len [(.v 0)]),
 .whil (.and [(.cmp (.v 1) .lt (.v 2)),(.call 52 [(.idx (.v 0) (.v 1))])])
  [.aug 1 false (.c (.int 1))],
 .whil (.and [(.cmp (.v 1) .lt (.v 2)),(.call 52 [(.idx (.v 0) (.bin .sub (.v 2) (.c (.int 1))))])])
  [.aug 2 true (.c (.int 1))],
 .asg 3 (.c (.bool false)),
 .ite (.and [(.cmp (.v 1) .lt (.v 2)),(.cmp (.idx (.v 0) (.v 1)) .isin (.tup [(.c (.str [43])),(.c (.str [45]))]))])
  [.asg 3 (.cmp (.idx (.v 0) (.v 1)) .eq (.c (.str [45]))),
  .aug 1 false (.c (.int 1))]
  [],
 .asg 4 (.c (.int 0)),
 .ite (.and [(.cmp (.bin .sub (.v 2) (.v 1)) .gt (.c (.int 2))),(.cmp (.idx (.v 0) (.v 1)) .eq (.c (.str [48])))])
  [.asg 4 (.call 73 [(.idx (.v 0) (.bin .add (.v 1) (.c (.int 1))))])]
  [],
 .ite (.cmp (.v 4) .gt (.c (.int 0)))
  [.asg 5 (.call 66 [(.sl (.v 0) (some (.bin .add (.v 1) (.c (.int 2)))) (some (.v 2))),(.v 4)])]
  [.asg 5 (.call 66 [(.sl (.v 0) (some (.v 1)) (some (.v 2))),(.c (.int 10))])],
 .ite (.cmp (.v 5) .is (.c .none))
  [.ret (.c .none)]
  [],
 .ret (.ite (.v 3) (.neg (.v 5)) (.v 5))]
noncomputable def d_whole_of : DD := ⟨80, ["text", "first", "behind", "is_minus", "base", "value"], 1, [], c_whole_of⟩
noncomputable def c_need_whole:List MS :=
 [.asg 1 (.call 80 [(.v 0)]),
 .ite (.cmp (.v 1) .is (.c .none))
  [.raise 45 [(.bin .add (.bin .add (.c (.str [101,120,112,101,99,116,101,100,32,105,110,116,101,103,101,114,32,98,117,116,32,103,111,116,32,34])) (.v 0)) (.c (.str [34]))),(.tup [(.c (.str [84,67,76])),(.c (.str [86,65,76,85,69])),(.c (.str [78,85,77,66,69,82]))])]]
  [],
 .ret (.v 1)]
noncomputable def d_need_whole : DD := ⟨87, ["text", "value"], 1, [], c_need_whole⟩
noncomputable def c_wide:List MS :=
 [.asg 1 (.bin .band (.v 0) (.bin .sub (.bin .shl (.c (.int 1)) (.c (.int 64))) (.c (.int 1)))),
 .ite (.cmp (.bin .shr (.v 1) (.c (.int 63))) .eq (.c (.int 1)))
  [.ret (.bin .sub (.v 1) (.bin .shl (.c (.int 1)) (.c (.int 64))))]
  [],
 .ret (.v 1)]
noncomputable def d_wide : DD := ⟨94, ["n", "low"], 1, [], c_wide⟩
noncomputable def c_sign_at:List MS :=
 [.ret (.ite (.cmp (.v 1) .lt (.bi .len [(.v 0)])) (.idx (.v 0) (.v 1)) (.c (.str [])))]
noncomputable def d_sign_at : DD := ⟨122, ["text", "at"], 2, [], c_sign_at⟩
noncomputable def c_place_of:List MS :=
 [.whil (.and [(.cmp (.v 2) .lt (.bi .len [(.v 0)])),(.cmp (.idx (.v 0) (.v 2)) .ne (.v 1))])
  [.aug 2 false (.c (.int 1))],
 .ret (.v 2)]
noncomputable def d_place_of : DD := ⟨129, ["text", "sign", "at"], 3, [], c_place_of⟩
noncomputable def c_digits_behind:List MS :=
 [.whil (.and [(.cmp (.v 1) .lt (.v 2)),(.cmp2 (.c (.int 0)) .le (.call 59 [(.idx (.v 0) (.v 1))]) .lt (.v 3))])
  [.aug 1 false (.c (.int 1))],
 .ret (.v 1)]
noncomputable def d_digits_behind : DD := ⟨136, ["text", "at", "last", "base"], 4, [], c_digits_behind⟩
noncomputable def c_read_digits:List MS :=
 [.asg 2 (.call 136 [(.v 0),(.v 1),(.bi .len [(.v 0)]),(.c (.int 10))]),
 .ite (.cmp (.v 2) .eq (.v 1))
  [.ret (.tup [(.neg (.c (.int 1))),(.v 1)])]
  [],
 .ret (.tup [(.call 66 [(.sl (.v 0) (some (.v 1)) (some (.v 2))),(.c (.int 10))]),(.v 2)])]
noncomputable def d_read_digits : DD := ⟨143, ["form", "at", "behind"], 2, [], c_read_digits⟩
noncomputable def c_read_place:List MS :=
 [.asgT [2,3] (.call 143 [(.v 0),(.v 1)]),
 .ite (.and [(.cmp (.v 2) .ge (.c (.int 0))),(.cmp (.call 122 [(.v 0),(.v 3)]) .eq (.c (.str [36])))])
  [.ret (.tup [(.v 2),(.bin .add (.v 3) (.c (.int 1)))])]
  [],
 .ret (.tup [(.neg (.c (.int 1))),(.v 1)])]
noncomputable def d_read_place : DD := ⟨150, ["form", "at", "number", "behind"], 2, [], c_read_place⟩
noncomputable def c_read_size:List MS :=
 [.asg 2 (.call 122 [(.v 0),(.v 1)]),
 .ite (.and [(.cmp (.v 2) .eq (.c (.str [108]))),(.cmp (.call 122 [(.v 0),(.bin .add (.v 1) (.c (.int 1)))]) .eq (.c (.str [108])))])
  [.ret (.tup [(.c (.str [98,105,103])),(.bin .add (.v 1) (.c (.int 2)))])]
  [],
 .ite (.cmp (.v 2) .eq (.c (.str [76])))
  [.ret (.tup [(.c (.str [98,105,103])),(.bin .add (.v 1) (.c (.int 1)))])]
  [],
 .ite (.cmp (.v 2) .isin (.tup [(.c (.str [108])),(.c (.str [106])),(.c (.str [113])),(.c (.str [122])),(.c (.str [116]))]))
  [.ret (.tup [(.c (.str [108])),(.bin .add (.v 1) (.c (.int 1)))])]
  [],
 .ite (.cmp (.v 2) .eq (.c (.str [104])))
  [.ret (.tup [(.c (.str [104])),(.bin .add (.v 1) (.c (.int 1)))])]
  [],
 .ret (.tup [(.c (.str [])),(.v 1)])]
noncomputable def d_read_size : DD := ⟨157, ["form", "at", "c"], 2, [], c_read_size⟩
noncomputable def c_base_of_sort:List MS :=
 [.ite (.cmp (.v 0) .isin (.tup [(.c (.str [120])),(.c (.str [88]))]))
  [.ret (.c (.int 16))]
  [],
 .ite (.cmp (.v 0) .eq (.c (.str [111])))
  [.ret (.c (.int 8))]
  [],
 .ite (.cmp (.v 0) .eq (.c (.str [98])))
  [.ret (.c (.int 2))]
  [],
 .ret (.c (.int 10))]
noncomputable def d_base_of_sort : DD := ⟨164, ["sort"], 1, [], c_base_of_sort⟩
noncomputable def c_read_spec:List MS :=
 [.asg 2 (.neg (.c (.int 1))),
 .asg 3 (.cmp (.call 122 [(.v 0),(.v 1)]) .ne (.c (.str [42]))),
 .ite (.v 3)
  [.asgT [2,1] (.call 150 [(.v 0),(.v 1)])]
  [.aug 1 false (.c (.int 1))],
 .asgT [4,1] (.call 143 [(.v 0),(.v 1)]),
 .asgT [5,1] (.call 157 [(.v 0),(.v 1)]),
 .ret (.tup [(.v 2),(.v 3),(.v 4),(.v 5),(.call 122 [(.v 0),(.v 1)]),(.bin .add (.v 1) (.c (.int 1)))])]
noncomputable def d_read_spec : DD := ⟨171, ["form", "at", "place", "is_kept", "width", "size"], 2, [], c_read_spec⟩
noncomputable def c_set_behind:List MS :=
 [.ite (.cmp (.call 122 [(.v 0),(.v 1)]) .eq (.c (.str [94])))
  [.aug 1 false (.c (.int 1))]
  [],
 .ite (.cmp (.call 122 [(.v 0),(.v 1)]) .eq (.c (.str [93])))
  [.aug 1 false (.c (.int 1))]
  [],
 .asg 2 (.call 129 [(.v 0),(.c (.str [93])),(.v 1)]),
 .ite (.cmp (.v 2) .ge (.bi .len [(.v 0)]))
  [.raise 101 [(.c (.str [117,110,109,97,116,99,104,101,100,32,91,32,105,110,32,102,111,114,109,97,116,32,115,116,114,105,110,103])),(.c (.str [66,82,65,67,75,69,84]))]]
  [],
 .ret (.bin .add (.v 2) (.c (.int 1)))]
noncomputable def d_set_behind : DD := ⟨178, ["form", "at", "behind"], 2, [], c_set_behind⟩
noncomputable def c_check_sort:List MS :=
 [.ite (.and [(.cmp (.v 0) .eq (.c (.str [99]))),(.cmp (.v 1) .ge (.c (.int 0)))])
  [.raise 101 [(.c (.str [102,105,101,108,100,32,119,105,100,116,104,32,109,97,121,32,110,111,116,32,98,101,32,115,112,101,99,105,102,105,101,100,32,105,110,32,37,99,32,99,111,110,118,101,114,115,105,111,110])),(.c (.str [66,65,68,87,73,68,84,72]))]]
  [],
 .ite (.and [(.cmp (.v 0) .isin (.tup [(.c (.str [99])),(.c (.str [110])),(.c (.str [115])),(.c (.str [91]))])),(.cmp (.v 2) .isin (.tup [(.c (.str [108])),(.c (.str [98,105,103]))]))])
  [.raise 101 [(.bin .add (.bin .add (.c (.str [102,105,101,108,100,32,115,105,122,101,32,109,111,100,105,102,105,101,114,32,109,97,121,32,110,111,116,32,98,101,32,115,112,101,99,105,102,105,101,100,32,105,110,32,37])) (.v 0)) (.c (.str [32,99,111,110,118,101,114,115,105,111,110]))),(.c (.str [66,65,68,83,73,90,69]))]]
  [],
 .ite (.cmp (.v 0) .notin (.tup [(.c (.str [100])),(.c (.str [105])),(.c (.str [117])),(.c (.str [111])),(.c (.str [120])),(.c (.str [88])),(.c (.str [98])),(.c (.str [99])),(.c (.str [115])),(.c (.str [91])),(.c (.str [110]))]))
  [.raise 101 [(.bin .add (.bin .add (.c (.str [98,97,100,32,115,99,97,110,32,99,111,110,118,101,114,115,105,111,110,32,99,104,97,114,97,99,116,101,114,32,34])) (.v 0)) (.c (.str [34]))),(.c (.str [66,65,68,84,89,80,69]))]]
  []]
noncomputable def d_check_sort : DD := ⟨185, ["sort", "width", "size"], 3, [], c_check_sort⟩
noncomputable def c_check_told:List MS :=
 [.loop .rng [3] (.v 1)
  [.asg 4 (.dget 0 (.v 3) (.c (.int 0))),
  .ite (.cmp (.v 4) .gt (.c (.int 1)))
   [.raise 101 [(.c (.str [118,97,114,105,97,98,108,101,32,105,115,32,97,115,115,105,103,110,101,100,32,98,121,32,109,117,108,116,105,112,108,101,32,34,37,110,36,34,32,99,111,110,118,101,114,115,105,111,110,32,115,112,101,99,105,102,105,101,114,115])),(.c (.str [80,79,76,89,65,83,83,73,71,78,69,68]))]]
   [],
  .ite (.and [(.cmp (.v 4) .eq (.c (.int 0))),(.not (.v 2))])
   [.raise 101 [(.c (.str [118,97,114,105,97,98,108,101,32,105,115,32,110,111,116,32,97,115,115,105,103,110,101,100,32,98,121,32,97,110,121,32,99,111,110,118,101,114,115,105,111,110,32,115,112,101,99,105,102,105,101,114,115])),(.c (.str [85,78,65,83,83,73,71,78,69,68]))]]
   []]]
noncomputable def d_check_told : DD := ⟨192, ["told", "many", "is_free", "index", "times"], 3, [], c_check_told⟩
noncomputable def c_check_scan:List MS :=
 [.newD 2,
 .asg 3 (.c (.str [])),
 .asg 4 (.c (.int 0)),
 .asg 5 (.c (.int 0)),
 .asg 6 (.call 129 [(.v 0),(.c (.str [37])),(.c (.int 0))]),
 .whil (.cmp (.v 6) .lt (.bi .len [(.v 0)]))
  [.ite (.cmp (.call 122 [(.v 0),(.bin .add (.v 6) (.c (.int 1)))]) .eq (.c (.str [37])))
   [.asg 6 (.call 129 [(.v 0),(.c (.str [37])),(.bin .add (.v 6) (.c (.int 2)))]),
   .cont]
   [],
  .asgT [7,8,9,10,11,6] (.call 171 [(.v 0),(.bin .add (.v 6) (.c (.int 1)))]),
  .ite (.v 8)
   [.asg 12 (.ite (.cmp (.v 7) .lt (.c (.int 0))) (.c (.str [37])) (.c (.str [36]))),
   .ite (.cmp (.v 3) .notin (.tup [(.c (.str [])),(.v 12)]))
    [.raise 108 []]
    [],
   .asg 3 (.v 12),
   .ite (.cmp (.v 7) .ge (.c (.int 0)))
    [.asg 5 (.bin .sub (.v 7) (.c (.int 1))),
    .asg 4 (.bi .max [(.v 4),(.v 7)])]
    [],
   .ite (.or [(.cmp (.v 5) .lt (.c (.int 0))),(.cmp2 (.c (.int 0)) .lt (.v 1) .le (.v 5)),(.cmp (.v 7) .ge (.bin .sub (.bin .shl (.c (.int 1)) (.c (.int 31))) (.c (.int 1))))])
    [.ite (.cmp (.v 7) .ge (.c (.int 0)))
     [.raise 115 []]
     [],
    .raise 101 [(.c (.str [100,105,102,102,101,114,101,110,116,32,110,117,109,98,101,114,115,32,111,102,32,118,97,114,105,97,98,108,101,32,110,97,109,101,115,32,97,110,100,32,102,105,101,108,100,32,115,112,101,99,105,102,105,101,114,115])),(.c (.str [70,73,69,76,68,86,65,82,77,73,83,77,65,84,67,72]))]]
    [],
   .setD 2 (.v 5) (.bin .add (.dget 2 (.v 5) (.c (.int 0))) (.c (.int 1))),
   .aug 5 false (.c (.int 1))]
   [],
  .expr (.call 185 [(.v 11),(.v 9),(.v 10)]),
  .ite (.cmp (.v 11) .eq (.c (.str [91])))
   [.asg 6 (.call 178 [(.v 0),(.v 6)])]
   [],
  .asg 6 (.call 129 [(.v 0),(.c (.str [37])),(.v 6)])],
 .asg 13 (.v 1),
 .ite (.cmp (.v 13) .eq (.c (.int 0)))
  [.asg 13 (.ite (.cmp (.v 4) .gt (.c (.int 0))) (.v 4) (.v 5))]
  [],
 .exprD 192 2 [(.v 13),(.and [(.cmp (.v 1) .eq (.c (.int 0))),(.cmp (.v 4) .gt (.c (.int 0)))])],
 .ret (.v 13)]
noncomputable def d_check_scan : DD := ⟨199, ["form", "count", "told", "sort_told", "most", "index", "at", "place", "is_kept", "width", "size", "sort", "wanted", "many"], 2, [], c_check_scan⟩
noncomputable def c_skip_blanks:List MS :=
 [.whil (.and [(.cmp (.v 1) .lt (.bi .len [(.v 0)])),(.call 52 [(.idx (.v 0) (.v 1))])])
  [.aug 1 false (.c (.int 1))],
 .ret (.v 1)]
noncomputable def d_skip_blanks : DD := ⟨206, ["text", "at"], 2, [], c_skip_blanks⟩
noncomputable def c_ranges_of:List MS :=
 [.newL 1,
 .asg 2 (.c (.int 0)),
 .asg 3 (.bi .ord [(.idx (.v 0) (.c (.int 0)))]),
 .ite (.cmp (.idx (.v 0) (.c (.int 0))) .isin (.tup [(.c (.str [93])),(.c (.str [45]))]))
  [.app 1 (.tup [(.v 3),(.v 3)]),
  .asg 2 (.c (.int 1))]
  [],
 .whil (.cmp (.v 2) .lt (.bi .len [(.v 0)]))
  [.asg 4 (.bi .ord [(.idx (.v 0) (.v 2))]),
  .ite (.cmp (.call 122 [(.v 0),(.bin .add (.v 2) (.c (.int 1)))]) .eq (.c (.str [45])))
   [.asg 3 (.v 4)]
   [.ite (.and [(.cmp (.idx (.v 0) (.v 2)) .eq (.c (.str [45]))),(.cmp (.bin .add (.v 2) (.c (.int 1))) .lt (.bi .len [(.v 0)]))])
    [.aug 2 false (.c (.int 1)),
    .asg 5 (.bi .ord [(.idx (.v 0) (.v 2))]),
    .app 1 (.tup [(.bi .min [(.v 3),(.v 5)]),(.bi .max [(.v 3),(.v 5)])])]
    [.ite (.cmp (.idx (.v 0) (.v 2)) .eq (.c (.str [45])))
     [.app 1 (.tup [(.v 3),(.v 3)])]
     [],
    .app 1 (.tup [(.v 4),(.v 4)])]],
  .aug 2 false (.c (.int 1))],
 .freeze 1,
 .ret (.v 1)]
noncomputable def d_ranges_of : DD := ⟨213, ["members", "ranges", "at", "start", "point", "other"], 1, [], c_ranges_of⟩
noncomputable def c_is_member:List MS :=
 [.asg 2 (.bi .ord [(.v 0)]),
 .loop .lst [3,4] (.v 1)
  [.ite (.cmp2 (.v 3) .le (.v 2) .le (.v 4))
   [.ret (.c (.bool true))]
   []],
 .ret (.c (.bool false))]
noncomputable def d_is_member : DD := ⟨220, ["c", "ranges", "point", "low", "high"], 2, [], c_is_member⟩
noncomputable def c_behind_members:List MS :=
 [.asg 4 (.cmp (.idx (.v 3) (.c (.int 0))) .eq (.c (.str [94]))),
 .asg 5 (.call 213 [(.ite (.v 4) (.sl (.v 3) (some (.c (.int 1))) none) (.v 3))]),
 .whil (.and [(.cmp (.v 1) .lt (.v 2)),(.cmp (.call 220 [(.idx (.v 0) (.v 1)),(.v 5)]) .ne (.v 4))])
  [.aug 1 false (.c (.int 1))],
 .ret (.v 1)]
noncomputable def d_behind_members : DD := ⟨227, ["text", "at", "last", "members", "is_other", "ranges"], 4, [], c_behind_members⟩
noncomputable def c_fitted:List MS :=
 [.ite (.cmp (.v 2) .eq (.c (.str [98,105,103])))
  [.ite (.and [(.v 1),(.cmp (.v 0) .lt (.c (.int 0)))])
   [.raise 101 [(.c (.str [117,110,115,105,103,110,101,100,32,98,105,103,110,117,109,32,115,99,97,110,115,32,97,114,101,32,105,110,118,97,108,105,100])),(.c (.str [66,65,68,85,78,83,73,71,78,69,68]))]]
   [],
  .ret (.v 0)]
  [],
 .ite (.and [(.cmp (.v 2) .ne (.c (.str [108]))),(.cmp2 (.c (.int 0)) .le (.v 0) .lt (.bin .shl (.c (.int 1)) (.c (.int 64))))])
  [.asg 0 (.call 94 [(.v 0)])]
  [],
 .asg 0 (.bi .max [(.neg (.bin .shl (.c (.int 1)) (.c (.int 63)))),(.bi .min [(.v 0),(.bin .sub (.bin .shl (.c (.int 1)) (.c (.int 63))) (.c (.int 1)))])]),
 .ite (.v 1)
  [.ret (.bin .band (.v 0) (.bin .sub (.bin .shl (.c (.int 1)) (.c (.int 64))) (.c (.int 1))))]
  [],
 .ret (.v 0)]
noncomputable def d_fitted : DD := ⟨234, ["number", "is_unsigned", "size"], 3, [], c_fitted⟩
noncomputable def c_has_mark:List MS :=
 [.ret (.and [(.cmp (.bin .add (.v 1) (.c (.int 2))) .lt (.v 2)),(.cmp (.idx (.v 0) (.v 1)) .eq (.c (.str [48]))),(.cmp (.idx (.v 0) (.bin .add (.v 1) (.c (.int 1)))) .isin (.v 3)),(.cmp2 (.c (.int 0)) .le (.call 59 [(.idx (.v 0) (.bin .add (.v 1) (.c (.int 2))))]) .lt (.v 4))])]
noncomputable def d_has_mark : DD := ⟨241, ["text", "at", "last", "letters", "base"], 5, [], c_has_mark⟩
noncomputable def c_read_base:List MS :=
 [.ite (.and [(.cmp (.v 3) .isin (.tup [(.c (.str [120])),(.c (.str [88])),(.c (.str [105]))])),(.call 241 [(.v 0),(.v 1),(.v 2),(.tup [(.c (.str [120])),(.c (.str [88]))]),(.c (.int 16))])])
  [.ret (.tup [(.c (.int 16)),(.bin .add (.v 1) (.c (.int 2)))])]
  [],
 .ite (.and [(.cmp (.v 3) .eq (.c (.str [98]))),(.call 241 [(.v 0),(.v 1),(.v 2),(.tup [(.c (.str [98])),(.c (.str [66]))]),(.c (.int 2))])])
  [.ret (.tup [(.c (.int 2)),(.bin .add (.v 1) (.c (.int 2)))])]
  [],
 .ite (.cmp (.v 3) .eq (.c (.str [105])))
  [.ret (.tup [(.ite (.and [(.cmp (.v 1) .lt (.v 2)),(.cmp (.idx (.v 0) (.v 1)) .eq (.c (.str [48])))]) (.c (.int 8)) (.c (.int 10))),(.v 1)])]
  [],
 .ret (.tup [(.call 164 [(.v 3)]),(.v 1)])]
noncomputable def d_read_base : DD := ⟨248, ["text", "at", "last", "sort"], 4, [], c_read_base⟩
noncomputable def c_read_whole:List MS :=
 [.asg 5 (.cmp (.idx (.v 0) (.v 1)) .eq (.c (.str [45]))),
 .ite (.cmp (.idx (.v 0) (.v 1)) .isin (.tup [(.c (.str [43])),(.c (.str [45]))]))
  [.aug 1 false (.c (.int 1))]
  [],
 .asgT [6,7] (.call 248 [(.v 0),(.v 1),(.v 2),(.v 3)]),
 .asg 8 (.call 136 [(.v 0),(.v 7),(.v 2),(.v 6)]),
 .ite (.cmp (.v 8) .eq (.v 7))
  [.ret (.tup [(.c .none),(.v 7)])]
  [],
 .asg 9 (.call 66 [(.sl (.v 0) (some (.v 7)) (some (.v 8))),(.v 6)]),
 .ret (.tup [(.bi .str [(.call 234 [(.ite (.v 5) (.neg (.v 9)) (.v 9)),(.cmp (.v 3) .eq (.c (.str [117]))),(.v 4)])]),(.v 8)])]
noncomputable def d_read_whole : DD := ⟨255, ["text", "at", "last", "sort", "size", "is_minus", "base", "first", "behind", "number"], 5, [], c_read_whole⟩
noncomputable def c_read_field:List MS :=
 [.ite (.cmp (.v 3) .eq (.c (.str [99])))
  [.ret (.tup [(.bi .str [(.bi .ord [(.idx (.v 0) (.v 1))])]),(.bin .add (.v 1) (.c (.int 1)))])]
  [],
 .ite (.cmp (.v 3) .notin (.tup [(.c (.str [115])),(.c (.str [91]))]))
  [.ret (.call 255 [(.v 0),(.v 1),(.v 2),(.v 3),(.v 5)])]
  [],
 .asg 6 (.v 1),
 .ite (.cmp (.v 3) .eq (.c (.str [91])))
  [.asg 6 (.call 227 [(.v 0),(.v 1),(.v 2),(.v 4)])]
  [.whil (.and [(.cmp (.v 6) .lt (.v 2)),(.not (.call 52 [(.idx (.v 0) (.v 6))]))])
   [.aug 6 false (.c (.int 1))]],
 .ret (.tup [(.ite (.cmp (.v 6) .eq (.v 1)) (.c .none) (.sl (.v 0) (some (.v 1)) (some (.v 6)))),(.v 6)])]
noncomputable def d_read_field : DD := ⟨262, ["text", "at", "last", "sort", "members", "size", "behind"], 6, [], c_read_field⟩
noncomputable def c_need_int:List MS :=
 [.asg 1 (.call 87 [(.v 0)]),
 .ite (.or [(.cmp (.v 1) .lt (.neg (.bin .shl (.c (.int 1)) (.c (.int 31))))),(.cmp (.v 1) .ge (.bin .shl (.c (.int 1)) (.c (.int 32))))])
  [.asg 2 (.c (.str [105,110,116,101,103,101,114,32,118,97,108,117,101,32,116,111,111,32,108,97,114,103,101,32,116,111,32,114,101,112,114,101,115,101,110,116])),
  .raise 45 [(.v 2),(.tup [(.c (.str [65,82,73,84,72])),(.c (.str [73,79,86,69,82,70,76,79,87])),(.v 2)])]]
  [],
 .ret (.v 1)]
noncomputable def d_need_int : DD := ⟨269, ["text", "number", "why"], 1, [], c_need_int⟩
noncomputable def c_need_room:List MS :=
 [.ite (.cmp (.v 0) .ge (.bin .shl (.c (.int 1)) (.c (.int 31))))
  [.raise 101 [(.c (.str [109,97,120,32,115,105,122,101,32,102,111,114,32,97,32,84,99,108,32,118,97,108,117,101,32,101,120,99,101,101,100,101,100])),(.c (.str [79,86,69,82,70,76,79,87]))]]
  []]
noncomputable def d_need_room : DD := ⟨276, ["many"], 1, [], c_need_room⟩
noncomputable def c_need_word:List MS :=
 [.ite (.cmp2 (.c (.int 0)) .le (.v 0) .lt (.v 1))
  [.ret (.c .none)]
  [],
 .ite (.v 2)
  [.raise 115 []]
  [],
 .raise 101 [(.c (.str [110,111,116,32,101,110,111,117,103,104,32,97,114,103,117,109,101,110,116,115,32,102,111,114,32,97,108,108,32,102,111,114,109,97,116,32,115,112,101,99,105,102,105,101,114,115])),(.c (.str [70,73,69,76,68,86,65,82,77,73,83,77,65,84,67,72]))]]
noncomputable def d_need_word : DD := ⟨283, ["index", "many", "is_placed"], 3, [], c_need_word⟩
noncomputable def c_digits_of:List MS :=
 [.ite (.or [(.cmp (.v 1) .eq (.c (.int 10))),(.cmp (.v 0) .eq (.c (.int 0)))])
  [.ret (.bi .str [(.v 0)])]
  [],
 .asg 3 (.ite (.v 2) (.c (.str [48,49,50,51,52,53,54,55,56,57,65,66,67,68,69,70])) (.c (.str [48,49,50,51,52,53,54,55,56,57,97,98,99,100,101,102]))),
 .newL 4,
 .whil (.cmp (.v 0) .gt (.c (.int 0)))
  [.app 4 (.idx (.v 3) (.bin .fmod (.v 0) (.v 1))),
  .asg 0 (.bin .fdiv (.v 0) (.v 1))],
 .rev 4,
 .freeze 4,
 .ret (.sm .join (.c (.str [])) [(.v 4)])]
noncomputable def d_digits_of : DD := ⟨290, ["number", "base", "is_upper", "signs", "made"], 3, [], c_digits_of⟩
noncomputable def c_filled:List MS :=
 [.ret (.bin .mul (.v 0) (.bi .max [(.v 1),(.c (.int 0))]))]
noncomputable def d_filled : DD := ⟨297, ["sign", "many"], 2, [], c_filled⟩
noncomputable def c_cut_to_size:List MS :=
 [.ite (.cmp (.v 1) .eq (.c (.str [98,105,103])))
  [.ret (.v 0)]
  [],
 .ite (.cmp (.v 1) .eq (.c (.str [104])))
  [.asg 2 (.bin .band (.v 0) (.c (.int 65535))),
  .ret (.ite (.cmp (.v 2) .ge (.c (.int 32768))) (.bin .sub (.v 2) (.c (.int 65536))) (.v 2))]
  [],
 .ret (.call 94 [(.v 0)])]
noncomputable def d_cut_to_size : DD := ⟨304, ["number", "size", "low"], 2, [], c_cut_to_size⟩
noncomputable def c_without_sign:List MS :=
 [.ite (.cmp (.v 1) .eq (.c (.str [104])))
  [.ret (.bin .band (.v 0) (.c (.int 65535)))]
  [],
 .ret (.bin .band (.v 0) (.bin .sub (.bin .shl (.c (.int 1)) (.c (.int 64))) (.c (.int 1))))]
noncomputable def d_without_sign : DD := ⟨311, ["number", "size"], 2, [], c_without_sign⟩
noncomputable def c_mark_of:List MS :=
 [.ite (.cmp (.v 0) .isin (.tup [(.c (.str [120])),(.c (.str [88]))]))
  [.ret (.c (.str [48,120]))]
  [],
 .ite (.cmp (.v 0) .eq (.c (.str [117])))
  [.ret (.c (.str []))]
  [],
 .ret (.bin .add (.c (.str [48])) (.v 0))]
noncomputable def d_mark_of : DD := ⟨318, ["sort"], 1, [], c_mark_of⟩
noncomputable def c_whole_field:List MS :=
 [.asg 6 (.call 304 [(.call 87 [(.v 1)]),(.v 5)]),
 .ite (.and [(.cmp (.v 0) .eq (.c (.str [117]))),(.cmp (.v 5) .eq (.c (.str [98,105,103])))])
  [.ite (.cmp (.v 6) .lt (.c (.int 0)))
   [.raise 101 [(.c (.str [117,110,115,105,103,110,101,100,32,98,105,103,110,117,109,32,102,111,114,109,97,116,32,105,115,32,105,110,118,97,108,105,100])),(.c (.str [66,65,68,85,78,83,73,71,78,69,68]))]]
   [],
  .asg 0 (.c (.str [100]))]
  [],
 .asg 7 (.c (.str [])),
 .ite (.or [(.cmp (.v 0) .eq (.c (.str [100]))),(.cmp (.v 5) .eq (.c (.str [98,105,103])))])
  [.asg 8 (.call 290 [(.bi .abs [(.v 6)]),(.call 164 [(.v 0)]),(.cmp (.v 0) .eq (.c (.str [88])))]),
  .ite (.cmp (.v 6) .lt (.c (.int 0)))
   [.asg 7 (.c (.str [45]))]
   [.ite (.cmp (.c (.str [43])) .isin (.v 2))
    [.asg 7 (.c (.str [43]))]
    [.ite (.cmp (.c (.str [32])) .isin (.v 2))
     [.asg 7 (.c (.str [32]))]
     []]]]
  [.asg 8 (.call 290 [(.call 311 [(.v 6),(.v 5)]),(.call 164 [(.v 0)]),(.cmp (.v 0) .eq (.c (.str [88])))])],
 .ite (.and [(.cmp (.c (.str [35])) .isin (.v 2)),(.cmp (.v 6) .ne (.c (.int 0)))])
  [.asg 7 (.bin .add (.v 7) (.call 318 [(.v 0)]))]
  [],
 .ite (.cmp (.v 4) .ge (.c (.int 0)))
  [.expr (.call 276 [(.v 4)]),
  .ret (.bin .add (.bin .add (.v 7) (.call 297 [(.c (.str [48])),(.bin .sub (.v 4) (.bi .len [(.v 8)]))])) (.v 8))]
  [],
 .ite (.cmp (.c (.str [48])) .isin (.v 2))
  [.ret (.bin .add (.bin .add (.v 7) (.call 297 [(.c (.str [48])),(.bin .sub (.bin .sub (.v 3) (.bi .len [(.v 7)])) (.bi .len [(.v 8)]))])) (.v 8))]
  [],
 .ret (.bin .add (.v 7) (.v 8))]
noncomputable def d_whole_field : DD := ⟨325, ["sort", "text", "flags", "width", "precision", "size", "number", "head", "digits"], 6, [], c_whole_field⟩
noncomputable def c_field_of:List MS :=
 [.asg 6 (.ite (.cmp (.c (.str [48])) .isin (.v 2)) (.c (.str [48])) (.c (.str [32]))),
 .ite (.cmp (.v 0) .isin (.tup [(.c (.str [])),(.c (.str [0]))]))
  [.raise 101 [(.c (.str [102,111,114,109,97,116,32,115,116,114,105,110,103,32,101,110,100,101,100,32,105,110,32,109,105,100,100,108,101,32,111,102,32,102,105,101,108,100,32,115,112,101,99,105,102,105,101,114])),(.c (.str [73,78,67,79,77,80,76,69,84,69]))]]
  [],
 .ite (.cmp (.v 0) .eq (.c (.str [115])))
  [.asg 7 (.ite (.cmp (.v 4) .lt (.c (.int 0))) (.v 1) (.sl (.v 1) none (some (.v 4))))]
  [.ite (.cmp (.v 0) .eq (.c (.str [99])))
   [.asg 8 (.call 269 [(.v 1)]),
   .asg 7 (.ite (.cmp2 (.c (.int 0)) .le (.v 8) .le (.c (.int 1114111))) (.bi .chr [(.v 8)]) (.bi .chr [(.c (.int 65533))]))]
   [.ite (.cmp (.v 0) .isin (.tup [(.c (.str [100])),(.c (.str [105])),(.c (.str [117])),(.c (.str [111])),(.c (.str [120])),(.c (.str [88])),(.c (.str [98]))]))
    [.asg 7 (.call 325 [(.ite (.cmp (.v 0) .eq (.c (.str [105]))) (.c (.str [100])) (.v 0)),(.v 1),(.v 2),(.v 3),(.v 4),(.v 5)]),
    .ite (.cmp (.v 4) .ge (.c (.int 0)))
     [.asg 6 (.c (.str [32]))]
     []]
    [.raise 101 [(.bin .add (.bin .add (.c (.str [98,97,100,32,102,105,101,108,100,32,115,112,101,99,105,102,105,101,114,32,34])) (.v 0)) (.c (.str [34]))),(.c (.str [66,65,68,84,89,80,69]))]]]],
 .asg 9 (.call 297 [(.v 6),(.bin .sub (.v 3) (.bi .len [(.v 7)]))]),
 .ret (.ite (.cmp (.c (.str [45])) .isin (.v 2)) (.bin .add (.v 7) (.v 9)) (.bin .add (.v 9) (.v 7)))]
noncomputable def d_field_of : DD := ⟨332, ["sort", "text", "flags", "width", "precision", "size", "fill", "made", "point", "missing"], 6, [], c_field_of⟩
noncomputable def c_read_flags:List MS :=
 [.asg 2 (.v 1),
 .whil (.cmp (.call 122 [(.v 0),(.v 2)]) .isin (.tup [(.c (.str [45])),(.c (.str [43])),(.c (.str [32])),(.c (.str [48])),(.c (.str [35]))]))
  [.aug 2 false (.c (.int 1))],
 .ret (.tup [(.sl (.v 0) (some (.v 1)) (some (.v 2))),(.v 2)])]
noncomputable def d_read_flags : DD := ⟨339, ["form", "at", "behind"], 2, [], c_read_flags⟩
noncomputable def c_read_measure:List MS :=
 [.ite (.cmp (.call 122 [(.v 0),(.v 1)]) .eq (.c (.str [42])))
  [.expr (.call 283 [(.bin .add (.v 3) (.c (.int 1))),(.bi .len [(.v 2)]),(.v 4)]),
  .ret (.tup [(.call 269 [(.idx (.v 2) (.v 3))]),(.bin .add (.v 3) (.c (.int 1))),(.bin .add (.v 1) (.c (.int 1)))])]
  [],
 .asgT [5,6] (.call 143 [(.v 0),(.v 1)]),
 .ret (.tup [(.ite (.cmp (.v 5) .lt (.c (.int 0))) (.c .none) (.v 5)),(.v 3),(.v 6)])]
noncomputable def d_read_measure : DD := ⟨346, ["form", "at", "args", "index", "is_placed", "number", "behind"], 5, [], c_read_measure⟩
noncomputable def c_put_field:List MS :=
 [.expr (.call 283 [(.v 3),(.bi .len [(.v 2)]),(.v 4)]),
 .asgT [5,1] (.call 339 [(.v 0),(.v 1)]),
 .asgT [6,3,1] (.call 346 [(.v 0),(.v 1),(.v 2),(.v 3),(.v 4)]),
 .ite (.cmp (.v 6) .is (.c .none))
  [.asg 6 (.c (.int 0))]
  [],
 .ite (.cmp (.v 6) .lt (.c (.int 0)))
  [.asg 5 (.bin .add (.v 5) (.c (.str [45]))),
  .asg 6 (.neg (.v 6))]
  [],
 .expr (.call 276 [(.v 6)]),
 .asg 7 (.cmp (.call 122 [(.v 0),(.v 1)]) .eq (.c (.str [46]))),
 .ite (.v 7)
  [.aug 1 false (.c (.int 1))]
  [],
 .asgT [8,3,1] (.call 346 [(.v 0),(.v 1),(.v 2),(.v 3),(.v 4)]),
 .asg 9 (.neg (.c (.int 1))),
 .ite (.v 7)
  [.asg 9 (.ite (.cmp (.v 8) .is (.c .none)) (.c (.int 0)) (.bi .max [(.v 8),(.c (.int 0))]))]
  [],
 .asgT [10,1] (.call 157 [(.v 0),(.v 1)]),
 .ret (.tup [(.call 332 [(.call 122 [(.v 0),(.v 1)]),(.idx (.v 2) (.v 3)),(.v 5),(.v 6),(.v 9),(.v 10)]),(.v 3),(.bin .add (.v 1) (.c (.int 1)))])]
noncomputable def d_put_field : DD := ⟨353, ["form", "at", "args", "index", "is_placed", "flags", "width", "is_precise", "number", "precision", "size"], 5, [], c_put_field⟩
noncomputable def c_format_text:List MS :=
 [.newL 2,
 .asg 3 (.c (.int 0)),
 .asg 4 (.c (.int 0)),
 .asg 5 (.c (.str [])),
 .whil (.cmp (.v 3) .lt (.bi .len [(.v 0)]))
  [.asg 6 (.call 129 [(.v 0),(.c (.str [37])),(.v 3)]),
  .app 2 (.sl (.v 0) (some (.v 3)) (some (.v 6))),
  .ite (.cmp (.v 6) .ge (.bi .len [(.v 0)]))
   [.brk]
   [],
  .ite (.cmp (.call 122 [(.v 0),(.bin .add (.v 6) (.c (.int 1)))]) .eq (.c (.str [37])))
   [.app 2 (.c (.str [37])),
   .asg 3 (.bin .add (.v 6) (.c (.int 2))),
   .cont]
   [],
  .asgT [7,3] (.call 150 [(.v 0),(.bin .add (.v 6) (.c (.int 1)))]),
  .asg 8 (.ite (.cmp (.v 7) .lt (.c (.int 0))) (.c (.str [37])) (.c (.str [36]))),
  .ite (.cmp (.v 5) .notin (.tup [(.c (.str [])),(.v 8)]))
   [.raise 108 []]
   [],
  .asg 5 (.v 8),
  .ite (.cmp (.v 7) .ge (.c (.int 0)))
   [.asg 4 (.bin .sub (.v 7) (.c (.int 1)))]
   [],
  .asgT [9,4,3] (.call 353 [(.v 0),(.v 3),(.v 1),(.v 4),(.cmp (.v 7) .ge (.c (.int 0)))]),
  .app 2 (.v 9),
  .ite (.cmp (.v 7) .lt (.c (.int 0)))
   [.aug 4 false (.c (.int 1))]
   []],
 .freeze 2,
 .ret (.sm .join (.c (.str [])) [(.v 2)])]
noncomputable def d_format_text : DD := ⟨360, ["form", "args", "made", "at", "index", "sort", "behind", "place", "wanted", "field"], 2, [], c_format_text⟩
noncomputable def c_scan_text:List MS :=
 [.ownC 3 (.call 199 [(.v 1),(.v 2)]),
 .asg 4 (.c (.int 0)),
 .asg 5 (.c (.int 0)),
 .asg 6 (.c (.int 0)),
 .asg 7 (.c (.int 0)),
 .asg 8 (.c (.bool false)),
 .whil (.cmp (.v 4) .lt (.bi .len [(.v 1)]))
  [.asg 9 (.idx (.v 1) (.v 4)),
  .aug 4 false (.c (.int 1)),
  .ite (.call 52 [(.v 9)])
   [.asg 5 (.call 206 [(.v 0),(.v 5)]),
   .cont]
   [],
  .ite (.or [(.cmp (.v 9) .ne (.c (.str [37]))),(.cmp (.idx (.v 1) (.v 4)) .eq (.c (.str [37])))])
   [.ite (.cmp (.v 9) .eq (.c (.str [37])))
    [.aug 4 false (.c (.int 1))]
    [],
   .asg 8 (.cmp (.v 5) .ge (.bi .len [(.v 0)])),
   .ite (.or [(.v 8),(.cmp (.idx (.v 0) (.v 5)) .ne (.v 9))])
    [.brk]
    [],
   .aug 5 false (.c (.int 1)),
   .cont]
   [],
  .asgT [10,11,12,13,14,4] (.call 171 [(.v 1),(.v 4)]),
  .ite (.cmp (.v 10) .gt (.c (.int 0)))
   [.asg 6 (.bin .sub (.v 10) (.c (.int 1)))]
   [],
  .asg 15 (.c (.str [])),
  .ite (.cmp (.v 14) .eq (.c (.str [91])))
   [.asg 16 (.call 178 [(.v 1),(.v 4)]),
   .asg 15 (.sl (.v 1) (some (.v 4)) (some (.bin .sub (.v 16) (.c (.int 1))))),
   .asg 4 (.v 16)]
   [],
  .ite (.cmp (.v 14) .eq (.c (.str [110])))
   [.asg 17 (.bi .str [(.v 5)])]
   [.ite (.cmp (.v 14) .notin (.tup [(.c (.str [99])),(.c (.str [91]))]))
    [.asg 5 (.call 206 [(.v 0),(.v 5)])]
    [],
   .asg 8 (.cmp (.v 5) .ge (.bi .len [(.v 0)])),
   .ite (.v 8)
    [.brk]
    [],
   .asg 18 (.ite (.cmp (.v 12) .le (.c (.int 0))) (.bi .len [(.v 0)]) (.bin .add (.v 5) (.v 12))),
   .asgT [17,5] (.call 262 [(.v 0),(.v 5),(.bi .min [(.v 18),(.bi .len [(.v 0)])]),(.v 14),(.v 15),(.ite (.v 11) (.v 13) (.c (.str [])))]),
   .ite (.cmp (.v 17) .is (.c .none))
    [.asg 8 (.and [(.cmp (.v 14) .notin (.tup [(.c (.str [115])),(.c (.str [91]))])),(.cmp (.v 5) .eq (.v 18))]),
    .brk]
    []],
  .ite (.v 11)
   [.setL 3 (.v 6) (.v 17),
   .aug 6 false (.c (.int 1))]
   [],
  .aug 7 false (.c (.int 1))],
 .ite (.and [(.v 8),(.cmp (.v 7) .eq (.c (.int 0)))])
  [.ret (.neg (.c (.int 1)))]
  [],
 .freeze 3,
 .ret (.v 3)]
noncomputable def d_scan_text : DD := ⟨366, ["text", "form", "count", "values", "at", "here", "index", "many", "is_short", "c", "place", "is_kept", "width", "size", "sort", "members", "behind", "value", "last"], 3, [(.int 0)], c_scan_text⟩
noncomputable def c_law_number:List MS :=
 [.ret (.ite (.cmp (.bi .len [(.v 0)]) .gt (.c (.int 0))) (.idx (.v 0) (.bin .fmod (.v 1) (.bi .len [(.v 0)]))) (.c (.int 0)))]
noncomputable def d_law_number : DD := ⟨373, ["script", "place"], 2, [], c_law_number⟩
noncomputable def c_law_value:List MS :=
 [.ite (.cmp (.bin .fmod (.bin .add (.v 0) (.v 1)) (.c (.int 2))) .eq (.c (.int 0)))
  [.ret (.idx (.tup [(.c (.int 255)),(.c (.int 0)),(.neg (.c (.int 32769))),(.c (.int 7)),(.bin .pow (.c (.int 2)) (.c (.int 63))),(.neg (.c (.int 1))),(.bin .add (.bin .pow (.c (.int 2)) (.c (.int 64))) (.c (.int 10))),(.c (.int 40000)),(.neg (.c (.int 2))),(.c (.int 10))]) (.bin .fmod (.bin .add (.bin .fdiv (.v 0) (.c (.int 2))) (.v 1)) (.c (.int 10))))]
  [],
 .asg 2 (.bin .fmod (.bin .fdiv (.bi .abs [(.v 0)]) (.c (.int 2))) (.bin .pow (.c (.int 2)) (.c (.int 66)))),
 .ret (.bin .sub (.bin .add (.ite (.cmp (.v 0) .gt (.c (.int 0))) (.v 2) (.neg (.v 2))) (.bin .mul (.c (.int 5)) (.v 1))) (.c (.int 12)))]
noncomputable def d_law_value : DD := ⟨380, ["number", "k", "size"], 2, [], c_law_value⟩
noncomputable def c_law_digits:List MS :=
 [.asg 2 (.c (.str [])),
 .whil (.or [(.cmp (.v 0) .gt (.c (.int 0))),(.cmp (.v 2) .eq (.c (.str [])))])
  [.asg 2 (.bin .add (.idx (.c (.str [48,49,50,51,52,53,54,55,56,57,97,98,99,100,101,102])) (.bin .fmod (.v 0) (.v 1))) (.v 2)),
  .asg 0 (.bin .fdiv (.v 0) (.v 1))],
 .ret (.v 2)]
noncomputable def d_law_digits : DD := ⟨387, ["number", "base", "digits"], 2, [], c_law_digits⟩
noncomputable def c_law_written:List MS :=
 [.asg 2 (.ite (.cmp (.v 0) .lt (.c (.int 0))) (.c (.str [45])) (.c (.str []))),
 .ite (.cmp (.bin .fmod (.v 1) (.c (.int 3))) .eq (.c (.int 1)))
  [.ret (.bin .add (.bin .add (.bin .add (.bin .add (.c (.str [32])) (.v 2)) (.c (.str [48,120]))) (.call 387 [(.bi .abs [(.v 0)]),(.c (.int 16))])) (.c (.str [10])))]
  [],
 .ret (.bin .add (.v 2) (.call 387 [(.bi .abs [(.v 0)]),(.c (.int 10))]))]
noncomputable def d_law_written : DD := ⟨394, ["value", "way", "sign"], 2, [], c_law_written⟩
noncomputable def c_law_cut:List MS :=
 [.ite (.cmp (.v 1) .isin (.tup [(.c (.str [108,108])),(.c (.str [76]))]))
  [.ret (.v 0)]
  [],
 .asg 2 (.ite (.cmp (.v 1) .eq (.c (.str [104]))) (.bin .pow (.c (.int 2)) (.c (.int 16))) (.bin .pow (.c (.int 2)) (.c (.int 64)))),
 .asg 3 (.bin .fmod (.v 0) (.v 2)),
 .ret (.ite (.cmp (.bin .mul (.c (.int 2)) (.v 3)) .lt (.v 2)) (.v 3) (.bin .sub (.v 3) (.v 2)))]
noncomputable def d_law_cut : DD := ⟨401, ["value", "size", "all_of", "low"], 2, [], c_law_cut⟩
noncomputable def c_law_whole:List MS :=
 [.asg 6 (.cmp (.v 5) .isin (.tup [(.c (.str [108,108])),(.c (.str [76]))])),
 .asg 7 (.or [(.v 6),(.cmp (.v 0) .isin (.c (.str [100,105])))]),
 .asg 8 (.call 401 [(.v 1),(.v 5)]),
 .asg 9 (.idx (.tup [(.c (.int 10)),(.c (.int 10)),(.c (.int 10)),(.c (.int 16)),(.c (.int 16)),(.c (.int 8)),(.c (.int 2))]) (.sm .index (.c (.str [100,105,117,120,88,111,98])) [(.v 0)])),
 .asg 10 (.call 387 [(.ite (.v 7) (.bi .abs [(.v 8)]) (.bin .fmod (.v 8) (.ite (.cmp (.v 5) .eq (.c (.str [104]))) (.bin .pow (.c (.int 2)) (.c (.int 16))) (.bin .pow (.c (.int 2)) (.c (.int 64)))))),(.v 9)]),
 .ite (.cmp (.v 0) .eq (.c (.str [88])))
  [.asg 10 (.sm .upper (.v 10) [])]
  [],
 .asg 11 (.c (.str [])),
 .ite (.and [(.v 7),(.cmp (.v 8) .lt (.c (.int 0)))])
  [.asg 11 (.c (.str [45]))]
  [.ite (.and [(.v 7),(.cmp (.c (.str [43])) .isin (.v 2))])
   [.asg 11 (.c (.str [43]))]
   [.ite (.and [(.v 7),(.cmp (.c (.str [32])) .isin (.v 2))])
    [.asg 11 (.c (.str [32]))]
    []]],
 .ite (.and [(.cmp (.c (.str [35])) .isin (.v 2)),(.cmp (.v 8) .ne (.c (.int 0)))])
  [.asg 11 (.bin .add (.v 11) (.idx (.tup [(.c (.str [48,100])),(.c (.str [48,100])),(.ite (.v 6) (.c (.str [48,100])) (.c (.str []))),(.c (.str [48,120])),(.c (.str [48,120])),(.c (.str [48,111])),(.c (.str [48,98]))]) (.sm .index (.c (.str [100,105,117,120,88,111,98])) [(.v 0)])))]
  [],
 .asg 12 (.v 4),
 .ite (.cmp (.v 4) .lt (.c (.int 0)))
  [.asg 12 (.ite (.cmp (.c (.str [48])) .isin (.v 2)) (.bin .sub (.v 3) (.bi .len [(.v 11)])) (.c (.int 0)))]
  [],
 .ret (.bin .add (.bin .add (.v 11) (.bin .mul (.c (.str [48])) (.bin .sub (.v 12) (.bi .len [(.v 10)])))) (.v 10))]
noncomputable def d_law_whole : DD := ⟨408, ["sort", "value", "flags", "width", "precision", "size", "is_big", "is_signed", "number", "base", "digits", "head", "most"], 6, [], c_law_whole⟩
noncomputable def c_law_made:List MS :=
 [.asg 6 (.ite (.cmp (.c (.str [48])) .isin (.v 2)) (.c (.str [48])) (.c (.str [32]))),
 .ite (.cmp (.v 0) .eq (.c (.str [115])))
  [.asg 7 (.ite (.cmp (.v 4) .lt (.c (.int 0))) (.v 1) (.sl (.v 1) none (some (.v 4))))]
  [.ite (.cmp (.v 0) .eq (.c (.str [99])))
   [.asg 7 (.ite (.cmp2 (.c (.int 0)) .le (.v 1) .lt (.bin .mul (.c (.int 17)) (.bin .pow (.c (.int 2)) (.c (.int 16))))) (.bi .chr [(.v 1)]) (.c (.str [65533])))]
   [.ite (.and [(.cmp (.v 0) .eq (.c (.str [117]))),(.cmp (.v 5) .isin (.tup [(.c (.str [108,108])),(.c (.str [76]))])),(.cmp (.v 1) .lt (.c (.int 0)))])
    [.ret (.c .none)]
    [],
   .asg 7 (.call 408 [(.v 0),(.v 1),(.v 2),(.v 3),(.v 4),(.v 5)]),
   .asg 6 (.ite (.cmp (.v 4) .ge (.c (.int 0))) (.c (.str [32])) (.v 6))]],
 .asg 8 (.bin .mul (.v 6) (.bin .sub (.v 3) (.bi .len [(.v 7)]))),
 .ret (.ite (.cmp (.c (.str [45])) .isin (.v 2)) (.bin .add (.v 7) (.v 8)) (.bin .add (.v 8) (.v 7)))]
noncomputable def d_law_made : DD := ⟨415, ["sort", "value", "flags", "width", "precision", "size", "fill", "made", "gap"], 6, [], c_law_made⟩
noncomputable def c_law_field:List MS :=
 [.asg 2 (.idx (.c (.str [100,115,120,117,99,88,111,98,105])) (.bin .fmod (.bin .add (.v 0) (.v 1)) (.c (.int 9)))),
 .asg 3 (.idx (.tup [(.c (.str [])),(.c (.str [104])),(.c (.str [108])),(.c (.str [108,108])),(.c (.str [])),(.c (.str [76])),(.c (.str [106])),(.c (.str [113])),(.c (.str [122])),(.c (.str [116])),(.c (.str [108,108]))]) (.bin .fmod (.bin .add (.bin .add (.bin .fdiv (.v 0) (.c (.int 9))) (.bin .mul (.c (.int 3)) (.v 1))) (.c (.int 1))) (.c (.int 11)))),
 .asg 4 (.bin .fmod (.bin .add (.bin .add (.bin .fdiv (.v 0) (.c (.int 99))) (.bin .mul (.c (.int 11)) (.v 1))) (.c (.int 8))) (.c (.int 32))),
 .asg 5 (.sm .join (.c (.str [])) [(.comp [4] .rng (.c (.int 5)) (some (.idx (.c (.str [45,43,32,48,35])) (.v 0))) (some (.cmp (.bin .fmod (.bin .fdiv (.v 1) (.bin .pow (.c (.int 2)) (.v 0))) (.c (.int 2))) .eq (.c (.int 1)))))]),
 .asg 6 (.v 5),
 .newL 7,
 .asg 8 (.bin .fmod (.bin .add (.bin .add (.bin .fdiv (.v 0) (.c (.int 3168))) (.bin .mul (.c (.int 3)) (.v 1))) (.c (.int 6))) (.c (.int 14))),
 .ite (.cmp (.bin .fmod (.bin .add (.bin .fdiv (.v 0) (.c (.int 7))) (.v 1)) (.c (.int 3))) .eq (.c (.int 1)))
  [.asg 6 (.bin .add (.v 6) (.c (.str [42]))),
  .ite (.cmp (.bin .fmod (.bin .add (.bin .fdiv (.v 0) (.c (.int 21))) (.v 1)) (.c (.int 2))) .eq (.c (.int 1)))
   [.asg 5 (.bin .add (.v 5) (.c (.str [45]))),
   .app 7 (.bi .str [(.bin .sub (.neg (.c (.int 1))) (.v 8))]),
   .asg 8 (.bin .add (.v 8) (.c (.int 1)))]
   [.app 7 (.bi .str [(.v 8)])]]
  [.ite (.cmp (.v 8) .gt (.c (.int 0)))
   [.asg 6 (.bin .add (.v 6) (.bi .str [(.v 8)]))]
   []],
 .asg 9 (.bin .fmod (.bin .add (.bin .fdiv (.v 0) (.c (.int 11))) (.v 1)) (.c (.int 5))),
 .asg 10 (.neg (.c (.int 1))),
 .ite (.cmp (.v 9) .isin (.tup [(.c (.int 1)),(.c (.int 3))]))
  [.asg 10 (.bin .fmod (.bin .add (.bin .fdiv (.v 0) (.c (.int 55))) (.v 1)) (.c (.int 7)))]
  [],
 .ite (.cmp (.v 9) .eq (.c (.int 1)))
  [.asg 6 (.bin .add (.bin .add (.v 6) (.c (.str [46]))) (.bi .str [(.v 10)]))]
  [],
 .ite (.and [(.cmp (.v 9) .eq (.c (.int 3))),(.cmp (.bin .fmod (.bin .add (.bin .fdiv (.v 0) (.c (.int 5))) (.v 1)) (.c (.int 4))) .eq (.c (.int 0)))])
  [.app 7 (.bi .str [(.neg (.v 10))]),
  .asg 10 (.c (.int 0))]
  [.ite (.cmp (.v 9) .eq (.c (.int 3)))
   [.app 7 (.bi .str [(.v 10)])]
   []],
 .ite (.cmp (.v 9) .eq (.c (.int 3)))
  [.asg 6 (.bin .add (.v 6) (.c (.str [46,42])))]
  [],
 .ite (.cmp (.v 9) .eq (.c (.int 4)))
  [.asg 6 (.bin .add (.v 6) (.c (.str [46]))),
  .asg 10 (.c (.int 0))]
  [],
 .ite (.cmp (.v 2) .eq (.c (.str [115])))
  [.asg 11 (.idx (.tup [(.c (.str [97,98])),(.c (.str [120,32,121,32,122])),(.c (.str [])),(.c (.str [233,37,100])),(.c (.str [123,97])),(.c (.str [49,50,51,52,53,54,55,56]))]) (.bin .fmod (.bin .add (.bin .fdiv (.v 0) (.c (.int 3))) (.v 1)) (.c (.int 6)))),
  .app 7 (.v 11)]
  [.ite (.cmp (.v 2) .eq (.c (.str [99])))
   [.asg 11 (.idx (.tup [(.c (.int 65)),(.c (.int 233)),(.c (.int 8364)),(.c (.int 128512)),(.neg (.c (.int 1))),(.bin .mul (.c (.int 17)) (.bin .pow (.c (.int 2)) (.c (.int 16)))),(.c (.int 32)),(.c (.int 37))]) (.bin .fmod (.bin .add (.bin .fdiv (.v 0) (.c (.int 3))) (.v 1)) (.c (.int 8)))),
   .app 7 (.bi .str [(.v 11)])]
   [.asg 11 (.call 380 [(.bin .fdiv (.v 0) (.c (.int 2))),(.v 1)]),
   .app 7 (.call 394 [(.v 11),(.bin .add (.bin .fdiv (.v 0) (.c (.int 4))) (.v 1))])]],
 .freeze 7,
 .ret (.tup [(.bin .add (.bin .add (.v 6) (.v 3)) (.v 2)),(.v 7),(.call 415 [(.v 2),(.v 11),(.v 5),(.v 8),(.v 10),(.v 3)])])]
noncomputable def d_law_field : DD := ⟨420, ["number", "k", "sort", "size", "mask", "flags", "spec", "words", "width", "kind", "precision", "value"], 2, [], c_law_field⟩
noncomputable def c_law_told:List MS :=
 [.tryR (.tup [(.c (.int 0)),(.call 360 [(.v 0),(.v 1)]),(.tup [])]) 2]
noncomputable def d_law_told : DD := ⟨427, ["form", "words", "fault"], 2, [], c_law_told⟩
noncomputable def c_law_is_formatted:List MS :=
 [.asg 2 (.call 373 [(.v 0),(.v 1)]),
 .newL 3,
 .loop .rng [4] (.bin .add (.c (.int 1)) (.bin .fmod (.bin .add (.v 2) (.c (.int 2))) (.c (.int 3))))
  [.app 3 (.call 420 [(.call 373 [(.v 0),(.bin .add (.bin .mul (.c (.int 3)) (.v 1)) (.v 4))]),(.bin .add (.bin .mul (.c (.int 3)) (.v 1)) (.v 4))])],
 .asg 5 (.cmp (.bin .fmod (.bin .add (.bin .fdiv (.v 2) (.c (.int 3))) (.v 1)) (.c (.int 3))) .eq (.c (.int 2))),
 .asg 6 (.c (.str [])),
 .asg 7 (.lst []),
 .asg 8 (.lst []),
 .freeze 3,
 .loop .rng [4] (.bi .len [(.v 3)])
  [.asgT [9,10,11] (.idx (.v 3) (.v 4)),
  .asg 12 (.bin .fmod (.bin .add (.bin .add (.bin .fdiv (.v 2) (.c (.int 9))) (.v 4)) (.v 1)) (.c (.int 5))),
  .asg 6 (.bin .add (.bin .add (.v 6) (.idx (.tup [(.c (.str [97])),(.c (.str [])),(.c (.str [49,48,48,37,37,32])),(.c (.str [32,98])),(.c (.str [37,37]))]) (.v 12))) (.c (.str [37]))),
  .ite (.v 5)
   [.asg 6 (.bin .add (.bin .add (.v 6) (.bi .str [(.bin .add (.c (.int 1)) (.bi .sum [(.comp [] .lst (.sl (.v 3) (some (.bin .add (.v 4) (.c (.int 1)))) none) (some (.bi .len [(.idx (.v 0) (.c (.int 1)))])) none)]))])) (.c (.str [36])))]
   [],
  .asg 6 (.bin .add (.v 6) (.v 9)),
  .asg 7 (.ite (.v 5) (.bin .add (.v 10) (.v 7)) (.bin .add (.v 7) (.v 10))),
  .asg 8 (.bin .add (.v 8) (.lst [(.idx (.tup [(.c (.str [97])),(.c (.str [])),(.c (.str [49,48,48,37,32])),(.c (.str [32,98])),(.c (.str [37]))]) (.v 12)),(.v 11)]))],
 .asg 13 (.tup [(.c (.int 1)),(.c (.str [117,110,115,105,103,110,101,100,32,98,105,103,110,117,109,32,102,111,114,109,97,116,32,105,115,32,105,110,118,97,108,105,100])),(.tup [(.c (.str [84,67,76])),(.c (.str [70,79,82,77,65,84])),(.c (.str [66,65,68,85,78,83,73,71,78,69,68]))])]),
 .ite (.cmp (.c .none) .notin (.v 8))
  [.asg 13 (.tup [(.c (.int 0)),(.bin .add (.sm .join (.c (.str [])) [(.v 8)]) (.c (.str [37,46]))),(.tup [])])]
  [],
 .ret (.cmp (.call 427 [(.bin .add (.v 6) (.c (.str [37,37,46]))),(.v 7)]) .eq (.v 13))]
noncomputable def d_law_is_formatted : DD := ⟨432, ["script", "f", "start", "fields", "j", "is_placed", "form", "words", "parts", "spec", "own", "part", "which", "due"], 2, [], c_law_is_formatted⟩
noncomputable def c_law_wrong_formats:List MS :=
 [.asg 1 (.idx (.tup [(.c (.str [])),(.c (.str [45])),(.c (.str [43,48])),(.c (.str [35,32]))]) (.bin .fmod (.v 0) (.c (.int 4)))),
 .asg 2 (.bin .add (.bin .add (.c (.str [97,37,115,32,37])) (.v 1)) (.idx (.tup [(.c (.str [])),(.c (.str [55])),(.c (.str [49,50]))]) (.bin .fmod (.bin .fdiv (.v 0) (.c (.int 4))) (.c (.int 3))))),
 .asg 3 (.idx (.tup [(.c (.str [])),(.c (.str [108])),(.c (.str [108,108])),(.c (.str [104]))]) (.bin .fmod (.bin .fdiv (.v 0) (.c (.int 12))) (.c (.int 4)))),
 .asg 4 (.idx (.c (.str [121,102,69,107,83,44])) (.bin .fmod (.bin .fdiv (.v 0) (.c (.int 48))) (.c (.int 6)))),
 .asg 5 (.bin .fmod (.bi .abs [(.v 0)]) (.c (.int 50))),
 .asg 6 (.tup [(.c (.str [110,111,116,32,101,110,111,117,103,104,32,97,114,103,117,109,101,110,116,115,32,102,111,114,32,97,108,108,32,102,111,114,109,97,116,32,115,112,101,99,105,102,105,101,114,115])),(.tup [(.c (.str [84,67,76])),(.c (.str [70,79,82,77,65,84])),(.c (.str [70,73,69,76,68,86,65,82,77,73,83,77,65,84,67,72]))])]),
 .asg 7 (.tup [(.c (.str [99,97,110,110,111,116,32,109,105,120,32,34,37,34,32,97,110,100,32,34,37,110,36,34,32,99,111,110,118,101,114,115,105,111,110,32,115,112,101,99,105,102,105,101,114,115])),(.tup [(.c (.str [84,67,76])),(.c (.str [70,79,82,77,65,84])),(.c (.str [77,73,88,69,68,83,80,69,67,84,89,80,69,83]))])]),
 .asg 8 (.tup [(.c (.str [34,37,110,36,34,32,97,114,103,117,109,101,110,116,32,105,110,100,101,120,32,111,117,116,32,111,102,32,114,97,110,103,101])),(.tup [(.c (.str [84,67,76])),(.c (.str [70,79,82,77,65,84])),(.c (.str [73,78,68,69,88,82,65,78,71,69]))])]),
 .asg 9 (.tup [(.c (.str [105,110,116,101,103,101,114,32,118,97,108,117,101,32,116,111,111,32,108,97,114,103,101,32,116,111,32,114,101,112,114,101,115,101,110,116])),(.tup [(.c (.str [65,82,73,84,72])),(.c (.str [73,79,86,69,82,70,76,79,87])),(.c (.str [105,110,116,101,103,101,114,32,118,97,108,117,101,32,116,111,111,32,108,97,114,103,101,32,116,111,32,114,101,112,114,101,115,101,110,116]))])]),
 .asg 10 (.tup [(.c (.str [102,111,114,109,97,116,32,115,116,114,105,110,103,32,101,110,100,101,100,32,105,110,32,109,105,100,100,108,101,32,111,102,32,102,105,101,108,100,32,115,112,101,99,105,102,105,101,114])),(.tup [(.c (.str [84,67,76])),(.c (.str [70,79,82,77,65,84])),(.c (.str [73,78,67,79,77,80,76,69,84,69]))])]),
 .asg 11 (.tup [(.c (.str [117,110,115,105,103,110,101,100,32,98,105,103,110,117,109,32,102,111,114,109,97,116,32,105,115,32,105,110,118,97,108,105,100])),(.tup [(.c (.str [84,67,76])),(.c (.str [70,79,82,77,65,84])),(.c (.str [66,65,68,85,78,83,73,71,78,69,68]))])]),
 .ret (.lst [(.tup [(.bin .add (.v 2) (.v 3)),(.lst [(.c (.str [122])),(.c (.str [53]))]),(.v 10)]),(.tup [(.bin .add (.bin .add (.v 2) (.v 3)) (.v 4)),(.lst [(.c (.str [122])),(.c (.str [53]))]),(.tup [(.bin .add (.bin .add (.c (.str [98,97,100,32,102,105,101,108,100,32,115,112,101,99,105,102,105,101,114,32,34])) (.v 4)) (.c (.str [34]))),(.tup [(.c (.str [84,67,76])),(.c (.str [70,79,82,77,65,84])),(.c (.str [66,65,68,84,89,80,69]))])])]),(.tup [(.bin .add (.bin .add (.v 2) (.v 3)) (.c (.str [100]))),(.lst [(.c (.str [122]))]),(.v 6)]),(.tup [(.bin .add (.bin .add (.c (.str [97,37,115,32,37])) (.v 1)) (.c (.str [42,100]))),(.lst [(.c (.str [122])),(.c (.str [53]))]),(.v 6)]),(.tup [(.bin .add (.bin .add (.bin .add (.v 2) (.c (.str [46,42]))) (.v 3)) (.c (.str [120]))),(.lst [(.c (.str [122])),(.c (.str [53]))]),(.v 6)]),(.tup [(.c (.str [37,115,32,37,49,36,100])),(.lst [(.c (.str [122])),(.c (.str [53]))]),(.v 7)]),(.tup [(.c (.str [37,50,36,100,32,37,115])),(.lst [(.c (.str [122])),(.c (.str [53]))]),(.v 7)]),(.tup [(.bin .add (.bin .add (.c (.str [37])) (.bi .str [(.bin .add (.c (.int 3)) (.v 5))])) (.c (.str [36,100]))),(.lst [(.c (.str [122])),(.c (.str [53]))]),(.v 8)]),(.tup [(.bin .add (.bin .add (.c (.str [37,48,36])) (.v 1)) (.c (.str [100]))),(.lst [(.c (.str [122])),(.c (.str [53]))]),(.v 8)]),(.tup [(.bin .add (.bin .add (.c (.str [37,50,36])) (.v 1)) (.c (.str [42,100]))),(.lst [(.c (.str [122])),(.c (.str [53]))]),(.v 8)]),(.tup [(.bin .add (.bin .add (.v 2) (.v 3)) (.c (.str [100]))),(.lst [(.c (.str [122])),(.c (.str [52,120]))]),(.tup [(.c (.str [101,120,112,101,99,116,101,100,32,105,110,116,101,103,101,114,32,98,117,116,32,103,111,116,32,34,52,120,34])),(.tup [(.c (.str [84,67,76])),(.c (.str [86,65,76,85,69])),(.c (.str [78,85,77,66,69,82]))])])]),(.tup [(.bin .add (.bin .add (.c (.str [37])) (.v 1)) (.c (.str [42,100]))),(.lst [(.c (.str [113])),(.c (.str [53]))]),(.tup [(.c (.str [101,120,112,101,99,116,101,100,32,105,110,116,101,103,101,114,32,98,117,116,32,103,111,116,32,34,113,34])),(.tup [(.c (.str [84,67,76])),(.c (.str [86,65,76,85,69])),(.c (.str [78,85,77,66,69,82]))])])]),(.tup [(.bin .add (.bin .add (.c (.str [37])) (.v 1)) (.c (.str [99]))),(.lst [(.bi .str [(.bin .add (.bin .pow (.c (.int 2)) (.c (.int 32))) (.v 5))])]),(.v 9)]),(.tup [(.bin .add (.bin .add (.c (.str [37])) (.v 1)) (.c (.str [99]))),(.lst [(.bi .str [(.bin .sub (.bin .sub (.neg (.bin .pow (.c (.int 2)) (.c (.int 31)))) (.c (.int 1))) (.v 5))])]),(.v 9)]),(.tup [(.bin .add (.bin .add (.c (.str [37])) (.v 1)) (.c (.str [108,108,117]))),(.lst [(.bi .str [(.bin .sub (.neg (.c (.int 1))) (.v 5))])]),(.v 11)])])]
noncomputable def d_law_wrong_formats : DD := ⟨439, ["number", "flags", "head", "size", "sign", "many", "few", "mixed", "beyond", "large", "ended", "below"], 1, [], c_law_wrong_formats⟩
noncomputable def c_law_is_scanned_back:List MS :=
 [.asg 2 (.c (.str [])),
 .asg 3 (.c (.str [])),
 .newL 4,
 .newL 5,
 .loop .rng [6] (.c (.int 4))
  [.asg 7 (.bin .add (.bin .mul (.c (.int 4)) (.v 1)) (.v 6)),
  .asg 8 (.call 373 [(.v 0),(.bin .add (.v 7) (.c (.int 1)))]),
  .asg 9 (.idx (.c (.str [100,120,115,111,117,88,98,99,105])) (.bin .fmod (.bin .add (.v 8) (.v 7)) (.c (.int 9)))),
  .asg 10 (.ite (.and [(.cmp (.v 9) .notin (.c (.str [115,99]))),(.cmp (.bin .fmod (.bin .add (.bin .fdiv (.v 8) (.c (.int 9))) (.v 7)) (.c (.int 2))) .eq (.c (.int 1)))]) (.c (.str [108,108])) (.c (.str []))),
  .asg 11 (.bin .fmod (.bin .add (.bin .fdiv (.v 8) (.c (.int 18))) (.bin .mul (.c (.int 3)) (.v 7))) (.c (.int 8))),
  .asg 12 (.bin .add (.ite (.cmp (.bin .fmod (.v 11) (.c (.int 2))) .eq (.c (.int 1))) (.c (.str [45])) (.c (.str []))) (.ite (.cmp (.bin .fmod (.bin .fdiv (.v 11) (.c (.int 2))) (.c (.int 2))) .eq (.c (.int 1))) (.c (.str [43])) (.c (.str [])))),
  .ite (.cmp (.v 11) .ge (.c (.int 4)))
   [.asg 12 (.bin .add (.v 12) (.idx (.tup [(.c (.str [48])),(.c (.str [35])),(.c (.str [])),(.c (.str [48])),(.c (.str [48])),(.c (.str [35])),(.c (.str [35])),(.c (.str [])),(.c (.str []))]) (.sm .index (.c (.str [100,120,115,111,117,88,98,99,105])) [(.v 9)])))]
   [],
  .asg 13 (.bin .fmod (.bin .add (.bin .fdiv (.v 8) (.c (.int 144))) (.bin .mul (.c (.int 2)) (.v 7))) (.c (.int 9))),
  .ite (.cmp (.v 9) .eq (.c (.str [115])))
   [.asg 14 (.idx (.tup [(.c (.str [97,98])),(.c (.str [233,37,100])),(.c (.str [123,97])),(.c (.str [48,120])),(.c (.str [45])),(.c (.str [49,50,51,52,53,54,55,56]))]) (.bin .fmod (.bin .add (.bin .fdiv (.v 8) (.c (.int 3))) (.v 7)) (.c (.int 6)))),
   .app 5 (.v 14)]
   [.ite (.cmp (.v 9) .eq (.c (.str [99])))
    [.asg 14 (.bi .str [(.idx (.tup [(.c (.int 65)),(.c (.int 233)),(.c (.int 8364)),(.c (.int 128512)),(.c (.int 37)),(.c (.int 48))]) (.bin .fmod (.bin .add (.bin .fdiv (.v 8) (.c (.int 3))) (.v 7)) (.c (.int 6))))]),
    .app 5 (.v 14)]
    [.asg 15 (.call 380 [(.bin .fdiv (.v 8) (.c (.int 2))),(.v 7)]),
    .asg 15 (.ite (.and [(.cmp (.v 9) .eq (.c (.str [117]))),(.cmp (.v 10) .eq (.c (.str [108,108])))]) (.bi .abs [(.v 15)]) (.v 15)),
    .asg 14 (.call 394 [(.v 15),(.bin .add (.bin .fdiv (.v 8) (.c (.int 4))) (.v 7))]),
    .app 5 (.bi .str [(.ite (.and [(.cmp (.v 9) .eq (.c (.str [117]))),(.cmp (.v 10) .eq (.c (.str [])))]) (.bin .fmod (.v 15) (.bin .pow (.c (.int 2)) (.c (.int 64)))) (.call 401 [(.v 15),(.v 10)]))])]],
  .app 4 (.v 14),
  .asg 2 (.bin .add (.bin .add (.bin .add (.bin .add (.bin .add (.v 2) (.c (.str [32,37]))) (.v 12)) (.ite (.cmp (.v 13) .gt (.c (.int 0))) (.bi .str [(.v 13)]) (.c (.str [])))) (.v 10)) (.v 9)),
  .asg 3 (.bin .add (.bin .add (.bin .add (.v 3) (.c (.str [32,37]))) (.v 10)) (.v 9))],
 .freeze 4,
 .asg 16 (.call 360 [(.v 2),(.v 4)]),
 .freeze 5,
 .ret (.cmp (.call 366 [(.v 16),(.v 3),(.bin .mul (.c (.int 4)) (.v 1))]) .eq (.v 5))]
noncomputable def d_law_is_scanned_back : DD := ⟨446, ["script", "r", "form", "back", "words", "due", "j", "k", "number", "sort", "size", "mask", "flags", "width", "word", "value", "text"], 2, [], c_law_is_scanned_back⟩
noncomputable def c_law_piece:List MS :=
 [.asg 2 (.bin .fmod (.bin .add (.v 0) (.v 1)) (.c (.int 10))),
 .asg 3 (.bin .add (.c (.int 1)) (.bin .fmod (.bin .add (.bin .fdiv (.v 0) (.c (.int 10))) (.v 1)) (.c (.int 3)))),
 .ite (.cmp (.v 2) .eq (.c (.int 0)))
  [.asg 4 (.bin .fmod (.bin .add (.bin .add (.bin .fdiv (.bi .abs [(.v 0)]) (.c (.int 30))) (.bin .mul (.c (.int 7)) (.v 1))) (.c (.int 12))) (.bin .pow (.c (.int 10)) (.v 3))),
  .ret (.tup [(.v 2),(.bin .add (.bi .str [(.v 3)]) (.c (.str [100]))),(.c (.str [])),(.sl (.call 387 [(.bin .add (.v 4) (.bin .pow (.c (.int 10)) (.v 3))),(.c (.int 10))]) (some (.c (.int 1))) none),(.bi .str [(.v 4)])])]
  [],
 .ite (.cmp (.v 2) .eq (.c (.int 1)))
  [.ret (.tup [(.v 2),(.c (.str [])),(.c (.str [37,42,100,59])),(.idx (.tup [(.c (.str [45,51,49,59])),(.c (.str [55,59])),(.c (.str [43,48,48,55,59]))]) (.bin .fmod (.bin .fdiv (.v 0) (.c (.int 10))) (.c (.int 3)))),(.c (.str []))])]
  [],
 .ite (.cmp (.v 2) .eq (.c (.int 2)))
  [.ret (.tup [(.v 2),(.c (.str [110])),(.c (.str [])),(.c (.str [])),(.c (.str []))])]
  [],
 .ite (.cmp (.v 2) .eq (.c (.int 3)))
  [.ret (.tup [(.v 2),(.c (.str [])),(.c (.str [37,37])),(.c (.str [37])),(.c (.str []))])]
  [],
 .ite (.cmp (.v 2) .eq (.c (.int 4)))
  [.ret (.tup [(.v 2),(.c (.str [])),(.c (.str [120,121])),(.c (.str [120,121])),(.c (.str []))])]
  [],
 .ite (.cmp (.v 2) .eq (.c (.int 5)))
  [.asg 5 (.tup [(.tup [(.c (.str [97,45,99])),(.c (.str [97,98,99]))]),(.tup [(.c (.str [93,97,45,99])),(.c (.str [93,97,99,98]))]),(.tup [(.c (.str [99,45,97])),(.c (.str [98,99,97]))]),(.tup [(.c (.str [45,97,99])),(.c (.str [97,45,99]))]),(.tup [(.c (.str [97,99,45])),(.c (.str [45,99,97]))])]),
  .asgT [6,7] (.idx (.bin .add (.v 5) (.tup [(.tup [(.c (.str [94,44])),(.c (.str [32,120,49,59]))]),(.tup [(.c (.str [94,93,98,44])),(.c (.str [97,32,99,45]))])])) (.bin .fmod (.bin .add (.bin .fdiv (.v 0) (.c (.int 10))) (.v 1)) (.c (.int 7)))),
  .asg 4 (.sm .join (.c (.str [])) [(.comp [7,0] .rng (.v 3) (some (.idx (.v 1) (.bin .fmod (.bin .add (.bin .fdiv (.bin .fdiv (.v 2) (.c (.int 70))) (.bin .pow (.c (.int 3)) (.v 0))) (.v 0)) (.bi .len [(.v 1)])))) none)]),
  .ret (.tup [(.v 2),(.bin .add (.bin .add (.c (.str [91])) (.v 6)) (.c (.str [93]))),(.c (.str [44])),(.bin .add (.v 4) (.c (.str [44]))),(.v 4)])]
  [],
 .ite (.cmp (.v 2) .eq (.c (.int 6)))
  [.asg 4 (.sl (.idx (.tup [(.c (.str [113,123,233])),(.c (.str [48,120,49])),(.c (.str [37,44,125]))]) (.bin .fmod (.bin .add (.bin .fdiv (.v 0) (.c (.int 10))) (.bin .fdiv (.v 1) (.c (.int 3)))) (.c (.int 3)))) none (some (.v 3))),
  .ret (.tup [(.v 2),(.bin .add (.bi .str [(.v 3)]) (.c (.str [115]))),(.c (.str [])),(.v 4),(.v 4)])]
  [],
 .ite (.cmp (.v 2) .eq (.c (.int 7)))
  [.asg 4 (.idx (.c (.str [32,97,10,37,55])) (.bin .fmod (.bin .add (.bin .fdiv (.v 0) (.c (.int 10))) (.v 1)) (.c (.int 5)))),
  .ret (.tup [(.v 2),(.c (.str [99])),(.c (.str [])),(.v 4),(.bi .str [(.bi .ord [(.v 4)])])])]
  [],
 .ite (.cmp (.v 2) .eq (.c (.int 8)))
  [.ret (.tup [(.v 2),(.c (.str [])),(.c (.str [32,124])),(.idx (.tup [(.c (.str [32,10,124])),(.c (.str [124]))]) (.bin .fmod (.bin .fdiv (.v 0) (.c (.int 10))) (.c (.int 2)))),(.c (.str []))])]
  [],
 .asgT [8,4] (.idx (.tup [(.tup [(.c (.str [48,120,55])),(.c (.str [55]))]),(.tup [(.c (.str [48,49,55])),(.c (.str [49,53]))]),(.tup [(.c (.str [49,50,51])),(.c (.str [49,50,51]))]),(.tup [(.c (.str [45,49,50])),(.c (.str [45,49,50]))]),(.tup [(.c (.str [43,48,55])),(.c (.str [55]))])]) (.bin .fmod (.bin .add (.bin .fdiv (.v 0) (.c (.int 10))) (.v 1)) (.c (.int 5)))),
 .ret (.tup [(.v 2),(.c (.str [51,105])),(.c (.str [])),(.v 8),(.v 4)])]
noncomputable def d_law_piece : DD := ⟨451, ["number", "k", "kind", "wide_now", "value", "sets", "members", "signs", "text"], 2, [], c_law_piece⟩
noncomputable def c_law_is_scanned:List MS :=
 [.asg 2 (.call 373 [(.v 0),(.bin .add (.v 1) (.c (.int 3)))]),
 .newL 3,
 .loop .rng [4] (.bin .add (.c (.int 4)) (.bin .fmod (.bin .add (.v 2) (.v 1)) (.c (.int 3))))
  [.app 3 (.call 451 [(.call 373 [(.v 0),(.bin .add (.bin .mul (.c (.int 4)) (.v 1)) (.v 4))]),(.bin .add (.bin .mul (.c (.int 5)) (.v 1)) (.v 4))])],
 .freeze 3,
 .asg 5 (.bi .len [(.comp [] .lst (.v 3) none (some (.cmp (.idx (.v 0) (.c (.int 1))) .ne (.c (.str [])))))]),
 .asg 6 (.cmp (.bin .fmod (.bin .add (.bin .fdiv (.v 2) (.c (.int 27))) (.v 1)) (.c (.int 2))) .eq (.c (.int 1))),
 .asg 7 (.bin .fmod (.bin .add (.bin .add (.bin .fdiv (.v 2) (.c (.int 3))) (.bin .mul (.c (.int 2)) (.v 1))) (.c (.int 1))) (.c (.int 3))),
 .asg 8 (.ite (.cmp (.v 7) .eq (.c (.int 0))) (.bi .len [(.v 3)]) (.bin .fmod (.bin .add (.bin .fdiv (.v 2) (.c (.int 9))) (.bin .mul (.c (.int 2)) (.v 1))) (.bi .len [(.v 3)]))),
 .asg 9 (.sm .join (.c (.str [])) [(.comp [] .lst (.sl (.v 3) none (some (.v 8))) (some (.idx (.v 0) (.c (.int 3)))) none)]),
 .asg 10 (.and [(.cmp (.v 7) .eq (.c (.int 2))),(.cmp (.idx (.idx (.v 3) (.v 8)) (.c (.int 0))) .isin (.tup [(.c (.int 0)),(.c (.int 1)),(.c (.int 3)),(.c (.int 4)),(.c (.int 5)),(.c (.int 8)),(.c (.int 9))])),(.cmp (.sl (.idx (.idx (.v 3) (.v 8)) (.c (.int 1))) none (some (.c (.int 2)))) .ne (.c (.str [91,94])))]),
 .asg 11 (.c (.str [])),
 .ownM 12 (.c .none) (.v 5),
 .asg 13 (.c (.int 0)),
 .asg 14 (.c (.int 0)),
 .asg 15 (.c (.bool false)),
 .loop .rng [4] (.bi .len [(.v 3)])
  [.asgT [16,17,18,19,20] (.idx (.v 3) (.v 4)),
  .asg 15 (.or [(.v 15),(.and [(.cmp (.v 4) .ge (.v 8)),(.cmp (.v 16) .ne (.c (.int 2)))])]),
  .ite (.cmp (.v 16) .eq (.c (.int 2)))
   [.asg 20 (.bi .str [(.bi .len [(.v 9)])]),
   .ite (.cmp (.v 4) .lt (.v 8))
    [.asg 20 (.bi .str [(.bi .sum [(.comp [] .lst (.sl (.v 3) none (some (.v 4))) (some (.bi .len [(.idx (.v 0) (.c (.int 3)))])) none)])])]
    []]
   [],
  .ite (.and [(.not (.v 15)),(.cmp (.v 16) .notin (.tup [(.c (.int 3)),(.c (.int 4)),(.c (.int 8))]))])
   [.asg 14 (.bin .add (.v 14) (.c (.int 1)))]
   [],
  .ite (.cmp (.v 17) .ne (.c (.str [])))
   [.asg 21 (.ite (.v 6) (.bin .sub (.bin .sub (.v 5) (.c (.int 1))) (.v 13)) (.v 13)),
   .asg 11 (.bin .add (.bin .add (.bin .add (.v 11) (.c (.str [37]))) (.ite (.v 6) (.bin .add (.bi .str [(.bin .add (.v 21) (.c (.int 1)))]) (.c (.str [36]))) (.c (.str [])))) (.v 17)),
   .asg 13 (.bin .add (.v 13) (.c (.int 1))),
   .ite (.not (.v 15))
    [.setL 12 (.v 21) (.v 20)]
    []]
   [],
  .asg 11 (.bin .add (.v 11) (.v 18))],
 .ite (.and [(.v 15),(.not (.v 10)),(.cmp (.v 14) .eq (.c (.int 0)))])
  [.asg 12 (.neg (.c (.int 1)))]
  [],
 .freeze 12,
 .ret (.cmp (.call 366 [(.bin .add (.v 9) (.ite (.v 10) (.c (.str [126])) (.c (.str [])))),(.v 11)]) .eq (.v 12))]
noncomputable def d_law_is_scanned : DD := ⟨456, ["script", "r", "start", "pieces", "j", "many", "is_placed", "mode", "most", "text", "is_wrong", "form", "due", "index", "done", "is_over", "kind", "spec", "tail", "some", "value", "place"], 2, [], c_law_is_scanned⟩
noncomputable def c_law_wrong_scans:List MS :=
 [.asg 1 (.idx (.tup [(.c (.str [108])),(.c (.str [108,108])),(.c (.str [76])),(.c (.str [106])),(.c (.str [113])),(.c (.str [122])),(.c (.str [116]))]) (.bin .fmod (.v 0) (.c (.int 7)))),
 .asg 2 (.idx (.c (.str [115,99,110,91])) (.bin .fmod (.bin .fdiv (.v 0) (.c (.int 7))) (.c (.int 4)))),
 .asg 3 (.idx (.c (.str [121,102,69,107,83,44])) (.bin .fmod (.bin .fdiv (.v 0) (.c (.int 28))) (.c (.int 6)))),
 .asg 4 (.bi .str [(.bin .add (.c (.int 1)) (.bin .fmod (.bin .fdiv (.v 0) (.c (.int 3))) (.c (.int 12))))]),
 .asg 5 (.bin .add (.bin .add (.c (.str [102,105,101,108,100,32,115,105,122,101,32,109,111,100,105,102,105,101,114,32,109,97,121,32,110,111,116,32,98,101,32,115,112,101,99,105,102,105,101,100,32,105,110,32,37])) (.v 2)) (.c (.str [32,99,111,110,118,101,114,115,105,111,110]))),
 .ret (.lst [(.tup [(.bin .add (.bin .add (.c (.str [37])) (.v 1)) (.v 3)),(.c (.int 0)),(.bin .add (.bin .add (.c (.str [98,97,100,32,115,99,97,110,32,99,111,110,118,101,114,115,105,111,110,32,99,104,97,114,97,99,116,101,114,32,34])) (.v 3)) (.c (.str [34]))),(.c (.str [66,65,68,84,89,80,69]))]),(.tup [(.bin .add (.bin .add (.c (.str [37])) (.v 4)) (.c (.str [99]))),(.c (.int 0)),(.c (.str [102,105,101,108,100,32,119,105,100,116,104,32,109,97,121,32,110,111,116,32,98,101,32,115,112,101,99,105,102,105,101,100,32,105,110,32,37,99,32,99,111,110,118,101,114,115,105,111,110])),(.c (.str [66,65,68,87,73,68,84,72]))]),(.tup [(.bin .add (.bin .add (.bin .add (.c (.str [37])) (.v 1)) (.v 2)) (.c (.str [97,98,93]))),(.c (.int 0)),(.v 5),(.c (.str [66,65,68,83,73,90,69]))]),(.tup [(.bin .add (.bin .add (.c (.str [37,91])) (.idx (.tup [(.c (.str [])),(.c (.str [94])),(.c (.str [93])),(.c (.str [94,93]))]) (.bin .fmod (.v 0) (.c (.int 4))))) (.c (.str [97,98]))),(.c (.int 0)),(.c (.str [117,110,109,97,116,99,104,101,100,32,91,32,105,110,32,102,111,114,109,97,116,32,115,116,114,105,110,103])),(.c (.str [66,82,65,67,75,69,84]))]),(.tup [(.c (.str [37,100,32,37,49,36,100])),(.c (.int 0)),(.c (.str [99,97,110,110,111,116,32,109,105,120,32,34,37,34,32,97,110,100,32,34,37,110,36,34,32,99,111,110,118,101,114,115,105,111,110,32,115,112,101,99,105,102,105,101,114,115])),(.c (.str [77,73,88,69,68,83,80,69,67,84,89,80,69,83]))]),(.tup [(.c (.str [37,100,32,37,42,100,32,37,100])),(.c (.int 1)),(.c (.str [100,105,102,102,101,114,101,110,116,32,110,117,109,98,101,114,115,32,111,102,32,118,97,114,105,97,98,108,101,32,110,97,109,101,115,32,97,110,100,32,102,105,101,108,100,32,115,112,101,99,105,102,105,101,114,115])),(.c (.str [70,73,69,76,68,86,65,82,77,73,83,77,65,84,67,72]))]),(.tup [(.bin .add (.bin .add (.c (.str [37])) (.v 4)) (.c (.str [100]))),(.c (.int 2)),(.c (.str [118,97,114,105,97,98,108,101,32,105,115,32,110,111,116,32,97,115,115,105,103,110,101,100,32,98,121,32,97,110,121,32,99,111,110,118,101,114,115,105,111,110,32,115,112,101,99,105,102,105,101,114,115])),(.c (.str [85,78,65,83,83,73,71,78,69,68]))]),(.tup [(.c (.str [37,50,36,100,32,37,50,36,120])),(.c (.int 0)),(.c (.str [118,97,114,105,97,98,108,101,32,105,115,32,97,115,115,105,103,110,101,100,32,98,121,32,109,117,108,116,105,112,108,101,32,34,37,110,36,34,32,99,111,110,118,101,114,115,105,111,110,32,115,112,101,99,105,102,105,101,114,115])),(.c (.str [80,79,76,89,65,83,83,73,71,78,69,68]))]),(.tup [(.bin .add (.bin .add (.c (.str [37,51,36])) (.v 4)) (.c (.str [100]))),(.c (.int 2)),(.c (.str [34,37,110,36,34,32,97,114,103,117,109,101,110,116,32,105,110,100,101,120,32,111,117,116,32,111,102,32,114,97,110,103,101])),(.c (.str [73,78,68,69,88,82,65,78,71,69]))]),(.tup [(.c (.str [37,48,36,100])),(.c (.int 0)),(.c (.str [34,37,110,36,34,32,97,114,103,117,109,101,110,116,32,105,110,100,101,120,32,111,117,116,32,111,102,32,114,97,110,103,101])),(.c (.str [73,78,68,69,88,82,65,78,71,69]))]),(.tup [(.c (.str [37,108,108,117])),(.c (.int 0)),(.c (.str [117,110,115,105,103,110,101,100,32,98,105,103,110,117,109,32,115,99,97,110,115,32,97,114,101,32,105,110,118,97,108,105,100])),(.c (.str [66,65,68,85,78,83,73,71,78,69,68]))])])]
noncomputable def d_law_wrong_scans : DD := ⟨463, ["number", "size", "sort", "sign", "width", "sized"], 1, [], c_law_wrong_scans⟩
noncomputable def c_law:List MS :=
 [.loop .rng [1] (.c (.int 3))
  [.ite (.not (.call 432 [(.v 0),(.v 1)]))
   [.ret (.c (.bool false))]
   []],
 .loop .lst [2,3,4] (.call 439 [(.call 373 [(.v 0),(.c (.int 0))])])
  [.ite (.cmp (.call 427 [(.v 2),(.v 3)]) .ne (.tup [(.c (.int 1)),(.idx (.v 4) (.c (.int 0))),(.idx (.v 4) (.c (.int 1)))]))
   [.ret (.c (.bool false))]
   []],
 .loop .rng [5] (.c (.int 2))
  [.ite (.not (.call 446 [(.v 0),(.v 5)]))
   [.ret (.c (.bool false))]
   []],
 .loop .rng [5] (.c (.int 4))
  [.ite (.not (.call 456 [(.v 0),(.v 5)]))
   [.ret (.c (.bool false))]
   []],
 .asg 6 (.call 373 [(.v 0),(.c (.int 1))]),
 .loop .lst [2,7,3,8] (.call 463 [(.v 6)])
  [.tryA 9 (.call 366 [(.bin .add (.c (.str [45])) (.bi .str [(.bin .add (.c (.int 5)) (.bin .fmod (.v 6) (.c (.int 7))))])),(.bin .add (.idx (.tup [(.c (.str [])),(.c (.str [37,37])),(.c (.str [32]))]) (.bin .mul (.bin .fmod (.v 6) (.c (.int 3))) (.bin .fdiv (.v 7) (.c (.int 2))))) (.v 2)),(.v 7)]) 10,
  .ite (.cmp (.v 9) .ne (.tup [(.c (.int 1)),(.v 3),(.tup [(.c (.str [84,67,76])),(.c (.str [70,79,82,77,65,84])),(.v 8)])]))
   [.ret (.c (.bool false))]
   []],
 .ret (.c (.bool true))]
noncomputable def d_law : DD := ⟨470, ["script", "f", "form", "words", "due", "r", "number", "count", "kind", "told", "fault"], 1, [], c_law⟩
noncomputable def tabL:List DD:=[d_is_blank,d_digit,d_digits_value,d_base_of,d_whole_of,d_need_whole,d_wide,d_sign_at,d_place_of,d_digits_behind,d_read_digits,d_read_place,d_read_size,d_base_of_sort,d_read_spec,d_set_behind,d_check_sort,d_check_told,d_check_scan,d_skip_blanks,d_ranges_of,d_is_member,d_behind_members,d_fitted,d_has_mark,d_read_base,d_read_whole,d_read_field,d_need_int,d_need_room,d_need_word,d_digits_of,d_filled,d_cut_to_size,d_without_sign,d_mark_of,d_whole_field,d_field_of,d_read_flags,d_read_measure,d_put_field,d_format_text,d_scan_text,d_law_number,d_law_value,d_law_digits,d_law_written,d_law_cut,d_law_whole,d_law_made,d_law_field,d_law_told,d_law_is_formatted,d_law_wrong_formats,d_law_is_scanned_back,d_law_piece,d_law_is_scanned,d_law_wrong_scans,d_law]
end Mine
end
section
set_option tactic.hygienic false
open PySem PySem.Calls PyProof.Rows PySem.SeqAt PySem.W
namespace Mine
noncomputable def ckX {α:Type} {q:Prop} (x:Option α) (f:(a:α)→x=some a→Ck q):Ck q:=Option.rec (motive:=fun y=>x=y→Ck q) (fun _=>.n) (fun a h=>f a h) x rfl
section
variable {h h':Heap} {f:Addr} {fd:FuncData} {body:List Stmt} {ps:List Str} {q:Prop}
noncomputable def fdOf (o:Obj):Option FuncData:=match o.data with
 | .func fd=>some fd
 | _=>none
theorem fdOf_eq {o:Obj} (h:fdOf o=some fd):o.data=.func fd:=by
 unfold fdOf at h
 generalize o.data=d at h ⊢
 cases d <;> cases h
 rfl
noncomputable def fieldsOf (o:Obj):Option (Array Value):=match o.data with
 | .fields v=>some v
 | _=>none
theorem fieldsOf_eq {o:Obj} {v:Array Value} (h:fieldsOf o=some v):o.data=.fields v:=by
 unfold fieldsOf at h
 generalize o.data=d at h ⊢
 cases d <;> cases h
 rfl
noncomputable def seqOf (o:Obj):Option (Array Value × Nat):=match o.data with
 | .seq v n=>some (v,n)
 | _=>none
theorem seqOf_eq {o:Obj} {v:Array Value × Nat} (h:seqOf o=some v):o.data=.seq v.1 v.2:=by
 unfold seqOf at h
 generalize o.data=d at h ⊢
 cases d <;> cases h
 rfl
noncomputable def stmtsOf (b:FuncBody):Option (List Stmt):=match b with
 | .stmts l=>some l
 | _=>none
theorem stmtsOf_eq {b:FuncBody} {l:List Stmt} (h:stmtsOf b=some l):b=.stmts l:=by
 cases b <;> cases h
 rfl
noncomputable def refOf (v:Value):Option Addr:=match v with
 | .ref a=>some a
 | _=>none
theorem refOf_eq {v:Value} {a:Addr} (h:refOf v=some a):v=.ref a:=by
 cases v <;> cases h
 rfl
noncomputable def strOf (v:Value):Option (Str × Tok):=match v with
 | .str s t=>some (s,t)
 | _=>none
theorem strOf_eq {v:Value} {a:Str × Tok} (h:strOf v=some a):v=.str a.1 a.2:=by
 cases v <;> cases h
 rfl
noncomputable def noneOf (v:Value):Option Unit:=match v with
 | .none=>some ()
 | _=>none
theorem noneOf_eq {v:Value} {a:Unit} (h:noneOf v=some a):v=.none:=by
 cases v <;> cases h
 rfl
noncomputable def fdB (fd:FuncData):Bool:=fd.closure.isEmpty && (decide (fd.globals=mainGlobals) && (decide (fd.builtins=builtinsNs) && (decide (fd.scope.kind=.function) && (!fd.scope.isCoroutine && !fd.scope.isGenerator))))
noncomputable def onFn (h:Heap) (f:Addr) (k:(fd:FuncData)→(body:List Stmt)→DFacts h f fd body→Ck q):Ck q :=
 ckX (h.get? f) fun o ho => ckX (fdOf o) fun fd hfd => ckX (stmtsOf fd.body) fun body hb => ckB (decide (o.cls = .type "function")) fun hc => ckB (fdB fd) fun hf =>
  ckX (refOf fd.code) fun c ec=>ckX (h.get? c) fun oc hoc=>ckX (fieldsOf oc) fun vs hvs=>ckX (vs[1]?) fun v1 hv1=>ckX (strOf v1) fun qt hqt=>ckB (decide (qt.1=fd.qualname)) fun hq =>
   k fd body ⟨⟨o,ho,fdOf_eq hfd,of_decide_eq_true hc⟩,stmtsOf_eq hb,List.isEmpty_iff.mp (and2 hf).1,of_decide_eq_true (and2 (and2 hf).2).1,of_decide_eq_true (and2 (and2 (and2 hf).2).2).1,of_decide_eq_true (and2 (and2 (and2 (and2 hf).2).2).2).1,
    Bool.not_eq_true' _ ▸ (and2 (and2 (and2 (and2 (and2 hf).2).2).2).2).1,Bool.not_eq_true' _ ▸ (and2 (and2 (and2 (and2 (and2 hf).2).2).2).2).2,
    ⟨c,oc,vs,qt.2,refOf_eq ec,hoc,fieldsOf_eq hvs,by rw [hv1,strOf_eq hqt,of_decide_eq_true hq]⟩⟩
theorem DFacts.keep (D:DFacts h f fd body) (k:∀ b o,h.get? b=some o→h'.get? b=some o):DFacts h' f fd body :=
 ⟨let ⟨o,a,b⟩:=D.o; ⟨o,k _ _ a,b⟩,D.body,D.clo,D.glob,D.blt,D.kind,D.co,D.gen,D.code.keeps k⟩
noncomputable def psB (fd:FuncData) (ps:List Str):Bool:=decide ps.Nodup && ps.all fun x=>decide (fd.scope.names.lookup x=some .local) || decide (fd.scope.names.lookup x=some .cell)
theorem psB_ok (h:psB fd ps=true):PsOk fd ps :=
 ⟨fun x hx=>(Bool.or_eq_true _ _ ▸ List.all_eq_true.mp (and2 h).2 x hx:_∨_).imp of_decide_eq_true of_decide_eq_true,of_decide_eq_true (and2 h).1⟩
structure Par (fd:FuncData) (ps:List Str):Prop where
 a:fd.params.posonlyargs=[]
 b:fd.params.kwonlyargs=[]
 c:fd.params.vararg=none
 d:fd.params.kwarg=none
 e:fd.params.args.map (·.arg)=ps
noncomputable def asOf:List Str→List Arg→List Arg
 | [],_=>[]
 | x::l,as=>⟨x,as.head?.bind (·.annotation),(as.head?.map (·.pos)).getD ⟨0,0,0,0⟩⟩::asOf l as.tail
theorem asOf_eq:∀ {as:List Arg} {ps:List Str},as.map (·.arg)=ps→as=asOf ps as
 | [],_,h=>by cases h; rfl
 | ⟨_,_,_⟩::as,_,h=>by cases h; exact congrArg _ (asOf_eq rfl)
noncomputable def stdF (fd:FuncData) (ps:List Str):FuncData:={ fd with params:=⟨[],asOf ps fd.params.args,none,[],fd.params.kw_defaults,none,fd.params.defaults⟩ }
theorem Par.eq {fd:FuncData} {ps:List Str} (p:Par fd ps):fd=stdF fd ps:=by
 obtain ⟨c1,c2,c3,c4,c5⟩:=p
 have c5:=asOf_eq c5
 obtain ⟨_,_,⟨_,as,_,_,_,_,_⟩,_,_,_,_,_,_,_,_,_,_,_,_⟩:=fd
 cases c1
 cases c2
 cases c3
 cases c4
 exact congrArg (fun as=>FuncData.mk _ _ ⟨_,as,_,_,_,_,_⟩ _ _ _ _ _ _ _ _ _ _ _ _) c5
noncomputable def parB (fd:FuncData) (ps:List Str):Bool:=fd.params.posonlyargs.isEmpty && (fd.params.kwonlyargs.isEmpty && (fd.params.vararg.isNone && (fd.params.kwarg.isNone && decide (fd.params.args.map (·.arg)=ps))))
theorem parB_ok (h:parB fd ps=true):Par fd ps :=
 ⟨List.isEmpty_iff.mp (and2 h).1,List.isEmpty_iff.mp (and2 (and2 h).2).1,Option.isNone_iff_eq_none.mp (and2 (and2 (and2 h).2).2).1,Option.isNone_iff_eq_none.mp (and2 (and2 (and2 (and2 h).2).2).2).1,of_decide_eq_true (and2 (and2 (and2 (and2 h).2).2).2).2⟩
theorem bind_plain {s:Shared} {vs:List Value} (p:Par fd ps) (n:ps.Nodup) (hd:fd.defaults=.none) (hl:vs.length=ps.length):BindsTo s fd ⟨vs,[]⟩ (ps.zip vs):=by
 obtain ⟨a,b,c,d,rfl⟩:=p
 exact .of_eq (binds_plain a b c d hd hl n)
structure Dfl (h:Heap) (fd:FuncData) (items:Array Value):Prop where
 ok:∃ T o n,fd.defaults=.ref T∧h.get? T=some o∧o.data=.seq items n
noncomputable def ckDfl (h:Heap) (fd:FuncData) (k:(items:Array Value)→Dfl h fd items→Ck q):Ck q :=
 ckX (refOf fd.defaults) fun T hT=>ckX (h.get? T) fun o ho=>ckX (seqOf o) fun v hv=>k v.1 ⟨T,o,v.2,refOf_eq hT,ho,seqOf_eq hv⟩
theorem cons_of {α:Type} {n:Nat}:∀ {l:List α},l.length=n + 1→∃ a t,l=a::t∧t.length=n
 | a::t,h=>⟨a,t,rfl,Nat.succ.inj h⟩
theorem nil_of {α:Type}:∀ {l:List α},l.length=0→l=[]
 | [],_=>rfl
theorem bind_init {items:Array Value} (p:Par fd iniNames) (d:Dfl h fd items) (hi:items.size=3) (s:Shared) (v0 v1 v2 v3:Value) (hW:h.StaysIn s.heap) :
  ∃ lv rv,BindsTo s fd ⟨[v0,v1,v2,v3],[]⟩ (iniNames.zip [v0,v1,v2,v3,lv,rv]):=by
 obtain ⟨T,o,m,e1,e2,e3⟩:=d
 obtain ⟨l⟩:=items
 obtain ⟨d0,l1,rfl,g1⟩:=cons_of hi
 obtain ⟨d1,l2,rfl,g2⟩:=cons_of g1
 obtain ⟨d2,l3,rfl,g3⟩:=cons_of g2
 cases nil_of g3
 exact ⟨d1,d2,BindsTo.of_defaults e1 (hW _ _ e2) e3 ((congrArg (fun f=>bindArgs f _) p.eq).trans rfl) rfl⟩
theorem bind_err {items : Array Value} (p : Par fd ["text", "errorcode"]) (d : Dfl h fd items) (hi : items.size = 1) (s : Shared) (vs : List Value) (hl : vs.length = 2) (hW : h.StaysIn s.heap) :
  BindsTo s fd ⟨vs, []⟩ ((["text", "errorcode"] : List Str).zip vs) := by
 obtain ⟨T,o,m,e1,e2,e3⟩:=d
 obtain ⟨l⟩:=items
 obtain ⟨d0,l4,rfl,g4⟩:=cons_of hi
 cases nil_of g4
 obtain ⟨v0,l5,rfl,g5⟩:=cons_of hl
 obtain ⟨v1,l6,rfl,g6⟩:=cons_of g5
 cases nil_of g6
 exact BindsTo.of_defaults e1 (hW _ _ e2) e3 ((congrArg (fun f=>bindArgs f _) p.eq).trans rfl) rfl
theorem bind_scan {t : Tok} (p : Par fd ["text", "form", "count"]) (d : Dfl h fd #[.int 0 t]) (s : Shared) (vs : List Value) (h1 : vs.length ≤ 3) (h2 : 3 ≤ vs.length + 1) (hW : h.StaysIn s.heap) :
  ∃ ws, (∀ G, RepAll G ws ([AV.int 0].drop (1 - (3 - vs.length)))) ∧ BindsTo s fd ⟨vs, []⟩ ((["text", "form", "count"] : List Str).zip (vs ++ ws)) := by
 obtain ⟨T,o,m,e1,e2,e3⟩:=d
 rcases Nat.lt_or_eq_of_le h1 with h1 | h1
 ·obtain ⟨v0,l7,rfl,g7⟩:=cons_of (Nat.le_antisymm (Nat.le_of_lt_succ h1) (Nat.le_of_succ_le_succ h2))
  obtain ⟨v1,l8,rfl,g8⟩:=cons_of g7
  cases nil_of g8
  exact ⟨[.int 0 t],fun G=>.mk .mk rfl,BindsTo.of_defaults e1 (hW _ _ e2) e3 ((congrArg (fun f=>bindArgs f _) p.eq).trans rfl) rfl⟩
 ·obtain ⟨v0,l9,rfl,g9⟩:=cons_of h1
  obtain ⟨v1,l10,rfl,g10⟩:=cons_of g9
  obtain ⟨v2,l11,rfl,g11⟩:=cons_of g10
  cases nil_of g11
  exact ⟨[],fun G=>rfl,BindsTo.of_defaults e1 (hW _ _ e2) e3 ((congrArg (fun f=>bindArgs f _) p.eq).trans rfl) rfl⟩
def BindF (h:Heap) (fd:FuncData) (ps:List Str) (np:Nat) (df:List AV):Prop:=∀ (s:Shared) (vs:List Value),vs.length≤np→np≤vs.length + df.length→h.StaysIn s.heap→∃ ws,(∀ G,RepAll G ws (df.drop (df.length - (np - vs.length))))∧BindsTo s fd ⟨vs,[]⟩ (ps.zip (vs++ws))
theorem bindF_plain {np:Nat} (p:Par fd ps) (n:ps.Nodup) (hd:fd.defaults=.none) (hl:ps.length=np):BindF h fd ps np []:=fun s vs h1 h2 _ =>
 ⟨[],fun G=>by rw [List.drop_nil]; exact rfl,by rw [List.append_nil]; exact bind_plain p n hd ((Nat.le_antisymm h1 h2).trans hl.symm)⟩
noncomputable def ckBindF (h:Heap) (fd:FuncData) (ps:List Str) (np:Nat) (df:List AV):Ck (BindF h fd ps np df):=ckB (parB fd ps) fun hp=>match df,np with
 | [],np=>ckX (noneOf fd.defaults) fun u hd=>ckB (decide (ps.length=np) && decide ps.Nodup) fun hn=>.y (bindF_plain (parB_ok hp) (of_decide_eq_true (and2 hn).2) (noneOf_eq hd) (of_decide_eq_true (and2 hn).1))
 | [.int 0], 3 => ckB (decide (ps = (["text", "form", "count"] : List Str))) fun hn => ckDfl h fd fun items hd => (match items, hd with
  | ⟨[.int 0 t]⟩,hd=>.y (fun s vs h1 h2 h3=>by have e:=of_decide_eq_true hn; subst e; exact bind_scan (parB_ok hp) hd s vs h1 h2 h3)
  | _,_=>.n)
 | _,_=>.n
noncomputable def ckDD (h:Heap) (d:DD):Ck (DDOk h d):=onFn h d.f fun fd body D=>ckB (psB fd (d.N.take d.np)) fun hp=>ckB (decide d.N.Nodup && Nat.ble d.np d.N.length) fun hn =>
 (ckBindF h fd (d.N.take d.np) d.np d.df).bind fun hb=>(ckSs (C:=mkC fd d.N) d.code body).map fun hs=>⟨⟨fd,body,D,hs,psB_ok hp,hb⟩,of_decide_eq_true (and2 hn).1,Nat.le_of_ble_eq_true (and2 hn).2⟩
theorem DDOk.keep {d:DD} (x:DDOk h d) (k:∀ b o,h.get? b=some o→h'.get? b=some o):DDOk h' d :=
 ⟨let ⟨fd,body,D,a,b,c⟩:=x.ok; ⟨fd,body,D.keep k,a,b,fun s vs h1 h2 h3=>c s vs h1 h2 fun b o e=>h3 b o (k b o e)⟩,x.nd,x.np⟩
noncomputable def ckDDs (h:Heap):(l:List DD)→Ck (∀ d ∈ l,DDOk h d)
 | []=>.y fun _ z=>nomatch z
 | d::l=>(ckDD h d).bind fun hd=>(ckDDs h l).map fun hl=>fun e he=>match he with
  | .head _=>hd
  | .tail _ he=>hl e he
noncomputable def ckIniE (k:Option Str) (v:Expr):Ck (IniE k v):=match k,v,view v with
 | some x,_,.name y p=>ckD (p:=y=x) fun e=>.y (e ▸ .name)
 | none,_,.const (.str s) u p=>.y .str
 | none,_,.const (.bool s) u p=>.y .bool
 | none,_,.const (.int s) u p=>.y .int
 | none,_,.lst [] p=>.y .nil
 | _,_,_=>.n
noncomputable def onStore {P:Stmt→Prop} (s:Stmt) (f:(z:Str)→(zp:Pos)→(nm:Str)→(q:Pos)→(v:Expr)→(p:Pos)→Ck (P (.Assign [.Attribute (.Name z zp) nm q] v p))):Ck (P s):=match s,tview s with
 | _,.asg t v p=>(match t,view t with
  | _,.attr a nm q=>(match a,view a with
   | _,.name z zp=>f z zp nm q v p
   | _,_=>.n)
  | _,_=>.n)
 | _,_=>.n
noncomputable def ckIniB:(l:List (Str × Option Str))→(ss:List Stmt)→Ck (IniB l ss)
 | [],ss=>match ss with
  | []=>.y .nil
  | _=>.n
 | (nm,k)::l,ss=>match ss with
  | s :: ss => (ckIniB l ss).bind fun hr => onStore (P := fun s => IniB ((nm, k) :: l) (s :: ss)) s fun z zp n q v p => ckB (decide (z = ("self" : Str)) && decide (n = nm)) fun e => (ckIniE k v).map fun hv => by
    have e1:=of_decide_eq_true (and2 e).1
    have e2:=of_decide_eq_true (and2 e).2
    subst e1 e2
    exact .cons hv hr
  | []=>.n
noncomputable def ckIni (b:List Stmt):Ck (IniBody b):=match b with
 | s1::s2::ss=>(ckIniB iniRow ss).bind fun hr=>(match s1,tview s1 with
  | _,.expr v ep=>(match v,view v with
   | _,.call g [e1,e2] cp=>(match g,view g,e1,view e1,e2,view e2 with
    | _,.attr o n ap,_,.name s a1,_,.name w b1=>(match o,view o with
     | _,.name x xp=>onStore (P:=fun s2=>IniBody (.Expr (.Call (.Attribute (.Name x xp) n ap) [.Name s a1,.Name w b1] [] cp) ep::s2::ss)) s2 fun z zp nm q v p=>(match v,view v with
      | _, .name c y => ckB (decide ([x, n, s, w, z, nm, c] = (["Exception", "__init__", "self", "value", "self", "code", "code"] : List Str)) && (ap.endLine == cp.line)) fun h => .y (by
        have e:=of_decide_eq_true (and2 h).1
        cases e
        exact .mk (and2 h).2 hr)
      | _,_=>.n)
     | _,_=>.n)
    | _,_,_,_,_,_=>.n)
   | _,_=>.n)
  | _,_=>.n)
 | _=>.n
end
end Mine
end
section
set_option tactic.hygienic false
open PySem PySem.Calls PyProof.Rows PySem.SeqAt PySem.W
namespace Mine
section
variable {h h':Heap} {f:Addr} {fd:FuncData} {body:List Stmt} {ps N:List Str} {q:Prop} {ms:List ME} {g:Str}
inductive MkF (h:Heap) (f:Addr) (N:List Str) (ms:List ME) (g:Str):Prop
 | mk (fd : FuncData) (es : List Expr) (gp cp rp : Pos) : DFacts h f fd [.Return (some (.Call (.Name g gp) es [] cp)) rp] → PsOk fd N → EBs (mkC fd N) ms es → fd.scope.names.lookup g = some .globalImplicit → (g == ("__debug__" : Str)) = false → N.Nodup →
  (∀ s vs,vs.length=N.length→h.StaysIn s.heap→BindsTo s fd ⟨vs,[]⟩ (N.zip vs))→MkF h f N ms g
theorem MkF.keep (x:MkF h f N ms g) (k:∀ b o,h.get? b=some o→h'.get? b=some o):MkF h' f N ms g:=by
 cases x with
 | mk fd es gp cp rp a b c d e n r=>exact .mk fd es gp cp rp (a.keep k) b c d e n fun s vs h1 h2=>r s vs h1 fun b o e=>h2 b o (k b o e)
noncomputable def ckMk (h:Heap) (f:Addr) (N:List Str) (ms:List ME) (g:Str) (bd:(fd:FuncData)→Par fd N→N.Nodup→Ck (∀ s vs,vs.length=N.length→h.StaysIn s.heap→BindsTo s fd ⟨vs,[]⟩ (N.zip vs))):Ck (MkF h f N ms g) :=
 onFn h f fun fd body D=>ckB (psB fd N) fun hp=>ckB (parB fd N) fun hq=>(bd fd (parB_ok hq) (psB_ok hp |> fun _=>of_decide_eq_true (and2 hp).1)).bind fun hb=>(match body,D with
  | [s],D=>(match s,tview s,D with
   | _,.ret (some v) rp,D=>(match v,view v,D with
    | _,.call gn es cp,D=>(match gn,view gn,D with
     | _,.name x gp,D=>ckB (decide (x=g) && glOk (mkC fd N) x) fun hg=>(ckEs ms (mkC fd N) es).map fun hs=>by
       have e:=of_decide_eq_true (and2 hg).1
       subst e
       exact ⟨fd,es,gp,cp,rp,D,psB_ok hp,hs,(glOk_eq (and2 hg).2).1,(glOk_eq (and2 hg).2).2,of_decide_eq_true (and2 hp).1,hb⟩
     | _,_,_=>.n)
    | _,_,_=>.n)
   | _,_,_=>.n)
  | _,_=>.n)
noncomputable def bdNone (h:Heap) (N:List Str) (fd:FuncData) (p:Par fd N) (n:N.Nodup):Ck (∀ s vs,vs.length=N.length→h.StaysIn s.heap→BindsTo s fd ⟨vs,[]⟩ (N.zip vs)):=ckX (noneOf fd.defaults) fun u hd=>.y fun s vs hl _=>bind_plain p n (noneOf_eq hd) hl
noncomputable def bdErr (h : Heap) (fd : FuncData) (p : Par fd ["text", "errorcode"]) (n : (["text", "errorcode"] : List Str).Nodup) : Ck (∀ s vs, vs.length = (["text", "errorcode"] : List Str).length → h.StaysIn s.heap → BindsTo s fd ⟨vs, []⟩ ((["text", "errorcode"] : List Str).zip vs)) :=
 ckDfl h fd fun items hd=>ckB (decide (items.size=1)) fun hi=>.y fun s vs hl hW=>bind_err p hd (of_decide_eq_true hi) s vs hl hW
noncomputable def sTCL:List Nat:=[84,67,76]
noncomputable def sFORMAT:List Nat:=[70,79,82,77,65,84]
noncomputable def sMix:List Nat:=[99,97,110,110,111,116,32,109,105,120,32,34,37,34,32,97,110,100,32,34,37,110,36,34,32,99,111,110,118,101,114,115,105,111,110,32,115,112,101,99,105,102,105,101,114,115]
noncomputable def sMixK:List Nat:=[77,73,88,69,68,83,80,69,67,84,89,80,69,83]
noncomputable def sBey:List Nat:=[34,37,110,36,34,32,97,114,103,117,109,101,110,116,32,105,110,100,101,120,32,111,117,116,32,111,102,32,114,97,110,103,101]
noncomputable def sBeyK:List Nat:=[73,78,68,69,88,82,65,78,71,69]
noncomputable def fmtCode (k:List Nat):List AV:=[.str sTCL,.str sFORMAT,.str k]
noncomputable def msErr:List ME:=[.c (.int 1),.v 0,.v 1]
noncomputable def msBad:List ME:=[.v 0,.tup [.c (.str sTCL),.c (.str sFORMAT),.v 1]]
noncomputable def msMix:List ME:=[.c (.str sMix),.c (.str sMixK)]
noncomputable def msBey:List ME:=[.c (.str sBey),.c (.str sBeyK)]
noncomputable def pair (l:List AV):Option (AV × AV):=match l with
 | [a,b]=>some (a,b)
 | _=>none
noncomputable def mtErr (a b:AV):Option (List Nat × List AV):=match a,b with
 | .str t,.tup c=>(match c.all AV.scalar with
  | true=>some (t,c)
  | false=>none)
 | _,_=>none
noncomputable def mtBad (a b:AV):Option (List Nat × List AV):=match a,b with
 | .str t,.str k=>some (t,fmtCode k)
 | _,_=>none
noncomputable def MT:MTab:=fun f args=>match Nat.beq f 45,Nat.beq f 101,Nat.beq f 108,Nat.beq f 115 with
 | true,_,_,_=>(pair args).bind fun p=>mtErr p.1 p.2
 | _,true,_,_=>(pair args).bind fun p=>mtBad p.1 p.2
 | _,_,true,_=>(match args with
  | []=>some (sMix,fmtCode sMixK)
  | _=>none)
 | _,_,_,true=>(match args with
  | []=>some (sBey,fmtCode sBeyK)
  | _=>none)
 | _,_,_,_=>none
structure NamesOk (m:Str→Option Value):Prop where
 fn:∀ x f,FTL.lookup x=some f→m x=some (.ref f)
 bi:∀ b:BI,m (biName b)=none
 range : m ("range" : Str) = none
 exc : m ("Exception" : Str) = none
 cls : m ("Raised" : Str) = some (.ref 33)
noncomputable def isR (v:Option Value) (a:Addr):Bool:=match v with
 | some (.ref b)=>Nat.beq b a
 | _=>false
theorem isR_eq {v:Option Value} {a:Addr} (h:isR v a=true):v=some (.ref a):=by
 unfold isR at h
 split at h
 ·rw [Nat.eq_of_beq_eq_true h]
 ·cases h
theorem lookup_mem:∀ {l:List (Str × Addr)} {x:Str} {f:Addr},l.lookup x=some f→(x,f) ∈ l
 | [],x,f,h=>nomatch h
 | (y,g)::l,x,f,h=>by
  rw [List.lookup_cons] at h
  split at h
  ·rename_i e
   cases h
   rw [eq_of_beq e]
   exact List.mem_cons_self
  ·exact List.mem_cons_of_mem _ (lookup_mem h)
noncomputable def biAll (p:BI→Bool):Bool:=p .len && (p .ord && (p .chr && (p .str && (p .abs && (p .max && (p .min && p .sum))))))
theorem biAll_at {p:BI→Bool} (h:biAll p=true) (b:BI):p b=true:=by
 have h1:=and2 h
 have h2:=and2 h1.2
 have h3:=and2 h2.2
 have h4:=and2 h3.2
 have h5:=and2 h4.2
 have h6:=and2 h5.2
 have h7:=and2 h6.2
 exact match b with | .len=>h1.1 | .ord=>h2.1 | .chr=>h3.1 | .str=>h4.1 | .abs=>h5.1 | .max=>h6.1 | .min=>h7.1 | .sum=>h7.2
noncomputable def nmB (m : Str → Option Value) : Bool := isR (m ("Raised" : Str)) 33 && ((m ("range" : Str)).isNone && ((m ("Exception" : Str)).isNone && (biAll (fun b => (m (biName b)).isNone) && FTL.all fun p => isR (m p.1) p.2)))
theorem nmB_ok {m:Str→Option Value} (h:nmB m=true):NamesOk m:=by
 have h1:=and2 h
 have h2:=and2 h1.2
 have h3:=and2 h2.2
 have h4:=and2 h3.2
 exact ⟨fun x f e=>isR_eq (List.all_eq_true.mp h4.2 _ (lookup_mem e)),fun b=>Option.isNone_iff_eq_none.mp (biAll_at h4.1 b),Option.isNone_iff_eq_none.mp h2.1,Option.isNone_iff_eq_none.mp h3.1,isR_eq h1.1⟩
structure Facts (h:Heap):Prop where
 top:∃ m,h.Ns mainGlobals m∧NamesOk m
 fns:∀ p ∈ FTL,∃ o fd,h.get? p.2=some o∧o.data=.func fd
 cls:ExcCls h
 tab:∀ d ∈ tabL,DDOk h d
 init:∃ fd body,InitFacts h 30 fd body
 err : MkF h 45 ["text", "errorcode"] msErr "Raised"
 bad : MkF h 101 ["text", "kind"] msBad "error"
 mix : MkF h 108 [] msMix "bad_field"
 bey : MkF h 115 [] msBey "bad_field"
theorem Facts.keep (x:Facts h) (k:∀ b o,h.get? b=some o→h'.get? b=some o):Facts h' :=
 ⟨let ⟨m,a,b⟩:=x.top; ⟨m,a.keeps k,b⟩,fun p hp=>let ⟨o,fd,a,b⟩:=x.fns p hp; ⟨o,fd,k _ _ a,b⟩,x.cls.keep k,fun d hd=>(x.tab d hd).keep k,
  let ⟨fd,body,I⟩:=x.init; ⟨fd,body,I.d.keep k,I.shape,I.names,I.ex,fun s v0 v1 v2 v3 hW=>I.bind s v0 v1 v2 v3 fun b o e=>hW b o (k b o e)⟩,x.err.keep k,x.bad.keep k,x.mix.keep k,x.bey.keep k⟩
noncomputable def ckInit (h:Heap):Ck (∃ fd body,InitFacts h 30 fd body):=onFn h 30 fun fd body D=>ckB (parB fd iniNames) fun hp =>
 ckB (iniNames.all (fun x => decide (fd.scope.names.lookup x = some .local)) && decide (fd.scope.names.lookup ("Exception" : Str) = some .globalImplicit)) fun hn => ckDfl h fd fun items hd => ckB (decide (items.size = 3)) fun hi => (ckIni body).map fun hb =>
  ⟨fd,body,D,hb,fun x hx=>of_decide_eq_true (List.all_eq_true.mp (and2 hn).1 x hx),of_decide_eq_true (and2 hn).2,fun s v0 v1 v2 v3 hW=>bind_init (parB_ok hp) hd (of_decide_eq_true hi) s v0 v1 v2 v3 hW⟩
noncomputable def fnB (h:Heap) (a:Addr):Bool:=((h.get? a).bind fdOf).isSome
theorem fnB_ok {a:Addr} (x:fnB h a=true):∃ o fd,h.get? a=some o∧o.data=.func fd:=by
 obtain ⟨fd,e⟩:=Option.isSome_iff_exists.mp x
 obtain ⟨o,h1,h2⟩:=Option.bind_eq_some_iff.mp e
 exact ⟨o,fd,h1,fdOf_eq h2⟩
noncomputable def clB (h : Heap) : Bool := h.isNs 32 && (isR (h.nsMap 32 ("__init__" : Str)) 30 && clsFree.all fun n => (h.nsMap 32 n).isNone)
theorem clB_ok (x:clB h=true) (c:h.get? 33=some clsObj):ExcCls h :=
 ⟨c,_,.of_isNs (and2 x).1,isR_eq (and2 (and2 x).2).1,fun n hn=>Option.isNone_iff_eq_none.mp (List.all_eq_true.mp (and2 (and2 x).2).2 n hn)⟩
noncomputable def ckFacts (h:Heap):Ck (h.get? 33=some clsObj→(∀ d ∈ tabL,DDOk h d)→Facts h):=ckB (h.isNs mainGlobals && nmB (h.nsMap mainGlobals)) fun h1=>ckB (FTL.all fun p=>fnB h p.2) fun h2=>ckB (clB h) fun h3 =>
 (ckInit h).bind fun h5 => (ckMk h 45 ["text", "errorcode"] msErr "Raised" (fun fd p n => bdErr h fd p n)).bind fun h6 => (ckMk h 101 ["text", "kind"] msBad "error" (bdNone h _)).bind fun h7 =>
 (ckMk h 108 [] msMix "bad_field" (bdNone h _)).bind fun h8 => (ckMk h 115 [] msBey "bad_field" (bdNone h _)).map fun h9 => fun hc h4 =>
  ⟨⟨_,.of_isNs (and2 h1).1,nmB_ok (and2 h1).2⟩,fun p hp=>fnB_ok (List.all_eq_true.mp h2 p hp),clB_ok h3 hc,h4,h5,h6,h7,h8,h9⟩
noncomputable def look1 (s:Shared):Option Obj × Bool:=(s.heap.get? 33,(ckFacts s.heap).ok)
noncomputable def look2 (s:Shared):Bool:=(ckDDs s.heap (tabL.take 23)).ok
noncomputable def look3 (s:Shared):Bool:=(ckDDs s.heap ((tabL.drop 23).take 20)).ok
noncomputable def look4 (s:Shared):Bool:=(ckDDs s.heap (tabL.drop 43)).ok
theorem facts_of {s:Shared} (h1:look1 s=(some clsObj,true)) (h2:look2 s=true) (h3:look3 s=true) (h4:look4 s=true):Facts s.heap:=by
 refine Ck.out (congrArg Prod.snd h1) (congrArg Prod.fst h1) fun d hd=>?_
 rcases List.mem_append.mp ((List.take_append_drop 23 tabL).symm ▸ hd) with hd | hd
 ·exact Ck.out h2 d hd
 ·rcases List.mem_append.mp ((List.take_append_drop 20 (tabL.drop 23)).symm ▸ hd) with hd | hd
  ·exact Ck.out h3 d hd
  ·rw [List.drop_drop] at hd
   exact Ck.out h4 d hd
theorem Heap.Ns.uniq {a:Addr} {m m':Str→Option Value} (x:h.Ns a m) (y:h.Ns a m'):m=m':=by
 obtain ⟨o,es,ep,h1,h2,_,h3⟩:=x
 obtain ⟨o',es',ep',g1,g2,_,g3⟩:=y
 cases h1.symm.trans g1
 cases h2.symm.trans g2
 exact funext fun n=>(h3 n).symm.trans (g3 n)
theorem stat_of {mg mb : Str → Option Value} (F : Facts h) (g : h.Ns mainGlobals mg) (b : h.Ns builtinsNs mb) (hb : ∀ x : Str, x ≠ ("__name__" : Str) → mb x = bootBuiltins x) (lim : h.NoLimit) : Stat h mg mb := by
 obtain ⟨m,hm,n⟩:=F.top
 obtain rfl:=Heap.Ns.uniq hm g
 exact ⟨g,b,lim,fun x f e=>⟨n.fn x f e,F.fns _ (lookup_mem e)⟩,fun c=>⟨n.bi c,(hb _ (by cases c <;> decide +kernel)).trans (by cases c <;> kernel_rfl)⟩,⟨n.range,(hb _ (by decide +kernel)).trans (by kernel_rfl)⟩,⟨n.exc,(hb _ (by decide +kernel)).trans (by kernel_rfl)⟩,⟨33,_,by decide,F.cls.1⟩,F.cls,n.cls⟩
section
variable {prog:Program} {w:World} {mg mb:Str→Option Value}
theorem m_err (F:Facts h) (S:Stat h mg mb) {t:List Nat} {c:List AV} (hc:c.all AV.scalar=true) (k:Nat):MakerAt prog w h (k + 1) 45 [.str t,.tup c] t c:=by
 obtain ⟨fdI,bI,I⟩:=F.init
 cases F.err with
 | mk fd es gp cp rp a b c' d e n r=>exact maker_cls I a S n b c' d r rfl rfl hc
theorem m_bad (F:Facts h) (S:Stat h mg mb) (t kd:List Nat) (k:Nat):MakerAt prog w h (k + 2) 101 [.str t,.str kd] t (fmtCode kd):=by
 cases F.bad with
 | mk fd es gp cp rp a b c' d e n r=>exact maker_ret a S n b c' d e (by decide +kernel) r rfl rfl (m_err F S rfl k)
theorem m_mix (F:Facts h) (S:Stat h mg mb) (k:Nat):MakerAt prog w h (k + 3) 108 [] sMix (fmtCode sMixK):=by
 cases F.mix with
 | mk fd es gp cp rp a b c' d e n r=>exact maker_ret a S n b c' d e (by decide +kernel) r rfl rfl (m_bad F S _ _ k)
theorem m_bey (F:Facts h) (S:Stat h mg mb) (k:Nat):MakerAt prog w h (k + 3) 115 [] sBey (fmtCode sBeyK):=by
 cases F.bey with
 | mk fd es gp cp rp a b c' d e n r=>exact maker_ret a S n b c' d e (by decide +kernel) r rfl rfl (m_bad F S _ _ k)
theorem pair_eq {l:List AV} {p:AV × AV} (h:pair l=some p):l=[p.1,p.2]:=by
 unfold pair at h
 split at h
 ·cases h; rfl
 ·cases h
theorem makers_ok (F:Facts h) (S:Stat h mg mb) (k:Nat):MakersOk prog w h (k + 3) MT:=by
 intro f args t c hm
 unfold MT at hm
 split at hm
 ·skip
  obtain ⟨p,hp,hq⟩:=Option.bind_eq_some_iff.mp hm
  rw [pair_eq hp,Nat.eq_of_beq_eq_true ‹Nat.beq f 45=true›]
  unfold mtErr at hq
  split at hq
  ·rename_i z1 z2
   rw [z1,z2]
   split at hq
   ·rename_i hc
    cases hq
    exact m_err F S hc (k + 2)
   ·cases hq
  ·cases hq
 ·skip
  obtain ⟨p,hp,hq⟩:=Option.bind_eq_some_iff.mp hm
  rw [pair_eq hp,Nat.eq_of_beq_eq_true ‹Nat.beq f 101=true›]
  unfold mtBad at hq
  split at hq
  ·rename_i z1 z2
   rw [z1,z2]
   cases hq
   exact m_bad F S _ _ (k + 1)
  ·cases hq
 ·skip
  rw [Nat.eq_of_beq_eq_true ‹Nat.beq f 108=true›]
  split at hm
  ·cases hm
   exact m_mix F S k
  ·cases hm
 ·skip
  rw [Nat.eq_of_beq_eq_true ‹Nat.beq f 115=true›]
  split at hm
  ·cases hm
   exact m_bey F S k
  ·cases hm
 ·cases hm
end
end
noncomputable def Ph (n:Nat):Tab:=(PD MT tabL n).1
noncomputable def De (n:Nat):DTab:=(PD MT tabL n).2
end Mine
end
section
open PySem PySem.Calls PyProof.Rows PySem.SeqAt PySem.W
set_option maxHeartbeats 0
namespace Mine
noncomputable def qV:Program:=PySem.W.view PySem.Challenge.pw_np0141_01 [68]
noncomputable def looseV : List Str := PySem.Challenge.pw_np0141_01.boundNames.filter fun n => !(n == ("law" : Str))
noncomputable def ran (w:World):Option Shared:=openEnds treeTable PySem.Challenge.pw_np0141_01 w 4784
noncomputable def seenF (s:Shared):=(openSeen qV looseV (importedModules PySem.Challenge.pw_np0141_01.main.body) (recOk []) true s,look1 s)
theorem left1 (w:World):(ran w).map seenF=some (openGood qV looseV,some clsObj,true):=by kernel_rfl
theorem left2 (w:World):(ran w).map look2=some true:=by kernel_rfl
theorem left3 (w:World):(ran w).map look3=some true:=by kernel_rfl
theorem left4 (w:World):(ran w).map look4=some true:=by kernel_rfl
noncomputable def lookF (s:Shared):(Option Obj × Bool) × Bool × Bool × Bool:=(look1 s,look2 s,look3 s,look4 s)
noncomputable def lookA (w:World):(Option Obj × Bool) × Bool × Bool × Bool:=((some clsObj,true),true,true,true)
theorem left:LeftO PySem.Challenge.pw_np0141_01 qV looseV (recOk []) lookF lookA 4784:=fun w=>by
 show (ran w).map _=_
 obtain ⟨s,h1,h2⟩:=Option.map_eq_some_iff.mp (left1 w)
 have h3:=left2 w
 have h4:=left3 w
 have h5:=left4 w
 rw [h1] at h3 h4 h5 ⊢
 have e2:=Prod.mk.inj h2
 exact congrArg some (Prod.ext e2.1 (Prod.ext e2.2 (Prod.ext (Option.some.inj h3) (Prod.ext (Option.some.inj h4) (Option.some.inj h5)))))
theorem looked {w:World} {s:Shared} (e:lookF s=lookA w):Facts s.heap:=by
 have e1:=Prod.mk.inj e
 have e2:=Prod.mk.inj e1.2
 have e3:=Prod.mk.inj e2.2
 exact facts_of e1.1 e2.1 e3.1 e3.2
theorem hasLaw : (defOf qV "law").isSome = true := by decide +kernel
noncomputable def lawD : DefRec := ((defOf qV "law").get hasLaw).1
noncomputable def lawK : List (Str × Expr) := ((defOf qV "law").get hasLaw).2
theorem defLaw:defOf qV PySem.Challenge.rw_np0141_01.row.name=some (lawD,lawK):=(Option.some_get hasLaw).symm
theorem theLaw:PySem.Challenge.pw_np0141_01.theDef PySem.Challenge.rw_np0141_01.row.name=some (lawD.params,lawD.body,lawD.scope):=by kernel_rfl
theorem kwLaw:kwWritten? lawD.params.kwonlyargs lawD.params.kw_defaults=some lawK:=by kernel_rfl
theorem okLaw:(chainsOk qV && opensWell PySem.Challenge.pw_np0141_01 && (PySem.W.frees PySem.Challenge.rw_np0141_01.row.toRowW && PySem.Challenge.rw_np0141_01.row.within.isEmpty))=true:=by
 refine look_both (look_both ?_ ?_) ?_ <;> decide +kernel
theorem bareLaw:PySem.Challenge.pw_np0141_01.bare:=⟨rfl,rfl,rfl,rfl,rfl,by decide +kernel⟩
theorem witLaw:PySem.Challenge.rw_np0141_01.row.toRowW.promised:=⟨[.list []],by decide +kernel,by decide +kernel⟩
theorem said:PySem.Challenge.rw_np0141_01.wellSaid=true:=by
 delta OpenLaw.wellSaid OpenRow.wellSaid OpenRow.partSaid looksOpen
 repeat' with_reducible refine look_both ?_ ?_
 all_goals decide +kernel
theorem head (call:WalkO qV looseV (fun _ _=>True) (fun _ h=>Facts h) PySem.Challenge.rw_np0141_01.row.toRowW lawD lawK fun f vs=>PySem.call f vs):PySem.Challenge.rw_np0141_01.Holds :=
 holds_law said fun k1=>holds_open (r:=PySem.Challenge.rw_np0141_01.row) (q:=qV) (loose:=looseV) (Xt:=recOk []) (XP:=fun _ _=>True) (Yf:=lookF) (Ya:=lookA) (YP:=fun _ h=>Facts h) left
  (fun w s e=>looked e) (fun w h h' x k=>x.keep k) (fun _ _=>trivial) (fun _ _ _ _ _=>trivial) defLaw theLaw kwLaw (fun s e=>recFacts_of e) (by decide +kernel) k1 okLaw bareLaw witLaw call
end Mine
end
section
open PySem PySem.Calls PyProof.Rows PySem.SeqAt PySem.W
namespace Mine
def LawTrue:Prop:=∀ ns:List Int,ns.length≤63→Ph 15 470 [.lst (ns.map AV.int)]=.ok (.bool true)
theorem ints_of {R:WRecords} {cl:Str→Option Addr} {h:Heap}:∀ {xs:List WData} {vs:List Value} {as:List Addr},ReadsAllW R cl h vs xs as→WShape.hasItems R xs .int=true→∃ ns:List Int,xs.length=ns.length∧∀ G,RepAll G vs (ns.map AV.int)
 | [],_,_,h,_=>by cases h; exact ⟨[],rfl,fun G=>rfl⟩
 | x::xs,_,_,h,hx=>by
  cases h with
  | cons h1 h2 =>
   have hq:=and2 (show (_ && _)=true from hx)
   obtain ⟨ns,e,hr⟩:=ints_of h2 hq.2
   cases h1 with
   | int i t=>exact ⟨i::ns,congrArg _ e,fun G=>.mk .mk (hr G)⟩
   | _=>cases hq.1
theorem arg_of {R:WRecords} {args:List WData} (h:WShape.hasAll R args [.list .int]=true):∃ xs,args=[.list xs]∧WShape.hasItems R xs .int=true:=by
 obtain ⟨d,r,rfl,h1,h2⟩:=hasAllW_cons h
 cases r with
 | cons=>cases h2
 | nil=>exact match d,h1 with
  | .list xs,h1=>⟨xs,rfl,(Bool.or_false _).symm.trans h1⟩
theorem short_of {R:WRecords} {xs:List WData} (h:(PySem.Challenge.rw_np0141_01.row.pre).holds R { args:=[.list xs] }=true):xs.length≤63:=by
 have h1:=condW_of (holds_andW h).1 (X:=!decide ((63:Int) < (xs.length:Int))) (by wtm_val)
 rw [Bool.not_eq_true',decide_eq_false_iff_not] at h1
 omega
theorem noFr (b:Addr):¬ FrS [] b:=fun h=>nomatch h
theorem law_holds (hlaw:LawTrue):PySem.Challenge.rw_np0141_01.Holds:=head fun w s₀ s₁ mg mb G Y a o pm cd doc dV kV ho hd hcd hD hmg hg args vals as hpre hlay hrd hwl hlo=>by
 have F:=Y
 have g:=G.T.g
 have b:=G.T.b
 have hb:=G.T.builtins
 have lim:=G.T.nolimit
 have S:=stat_of F g b hb lim
 obtain ⟨m,hm,nm⟩:=F.top
 obtain rfl:=Heap.Ns.uniq hm g
 have e := nm.fn ("law" : Str) 470 (by kernel_rfl)
 have hn : lawD.name = ("law" : Str) := defOf_name defLaw
 rw [hn,e] at hmg
 cases hmg
 have sp:=pre_splitW hpre
 obtain ⟨xs,rfl,hx⟩:=arg_of sp.1
 have hlen:=short_of sp.2
 cases hrd with | cons hr hnil=>cases hnil with | nil =>
 cases hr with | @list la lo lvs ln _ _ l1 l2 l3 l4 =>
 obtain ⟨ns,hnl,hns⟩:=ints_of l4 hx
 let GG:GH:=fun b=>if b=la then some lo else none
 have inG:GG.In s₁.heap:=fun b ob eb=>by
  by_cases q:b=la
  ·rw [show GG b=some lo from if_pos q] at eb
   cases eb
   rw [q]
   exact l1
  ·rw [show GG b=none from if_neg q] at eb
   cases eb
 have calls:=(calls_all (prog:=PySem.Challenge.pw_np0141_01) (w:=w) (b:=3) S (makers_ok F S 0) F.tab 15).1
 have hE:=hlaw ns (hnl ▸ hlen)
 refine calls 470 [.lst (ns.map AV.int)] callerA [] ⟨GG,s₁⟩ [.ref la] _ _ ⟨rfl,rfl,⟨by decide +kernel,by decide +kernel⟩,fun _ _ e=>e,fun b _ _=>noFr b,(fun _ h=>nomatch h),(fun _ h=>nomatch h),inG⟩ (.mk ⟨.mk (if_pos rfl) l2 l3 (hns GG),by rw [List.length_map,← hnl,l16]; omega⟩ rfl) ?_
 show RG _ _ _ _ _ _ (Ph 15 470 [.lst (ns.map AV.int)])
 rw [hE]
 intro Z' r st hr
 cases (show r=.bool true from hr)
 have hs:=st.sh
 refine GoodW.toG ⟨.inl ⟨.bool true,.bool true,[],rfl,fun _=>rfl,.bool true,by kernel_rfl,fun _=>⟨.nil,fun _ h=>nomatch h⟩⟩,fun b o hb=>st.ext.keep b o hb (noFr b),by rw [hs],by rw [hs]; exact hg⟩
end Mine
end
section
set_option tactic.hygienic false
open PySem
namespace Mine
noncomputable def ev (n:Nat) (e:ME) (σ:Env'):R AV:=evE (Ph n) e σ
noncomputable def evl (n:Nat) (e:List ME) (σ:Env'):R (List AV):=evEs (Ph n) e σ
noncomputable def Go (n:Nat) (ms:List MS) (σ:Env') (f:Env'→Out) (o:Out):Prop:=seqO (evSs (Ph n) MT (De n) ms σ) f=o
section
variable {n:Nat} {σ σ':Env'} {f:Env'→Out} {o:Out} {r a b:List MS} {i j:Nat} {e e1 e2 e3:ME} {v x y z:AV} {l:List ME} {vs:List AV} {t:Bool}
theorem seq_seq {p:Out} {g:Env'→Out}:seqO (seqO p g) f=seqO p fun σ=>seqO (g σ) f:=by
 cases p with
 | ok c=>cases c <;> rfl
 | _=>rfl
theorem go_cons {s:MS}:Go n (s::r) σ f o=(seqO (evS (Ph n) MT (De n) s σ) (fun σ=>seqO (evSs (Ph n) MT (De n) r σ) f)=o):=congrArg (·=o) seq_seq
theorem g_nil (h:f σ=o):Go n [] σ f o:=h
theorem bd {α β:Type} {x:R α} {a:α} {f:α→R β} {o:R β} (h:x=.ok a) (k:f a=o):x.bind f=o:=by rw [h]; exact k
theorem g_nx {s:MS} (h1:evS (Ph n) MT (De n) s σ=nx σ') (h:Go n r σ' f o):Go n (s::r) σ f o:=by
 rw [go_cons,h1]
 exact h
theorem g_asg (h1:ev n e σ=.ok v) (h:Go n r (σ.set i (.val v)) f o):Go n (.asg i e::r) σ f o:=g_nx (bd h1 rfl) h
theorem g_aug {u:Bool} {p q:Int} (h1:getV σ i=.ok (.int p)) (h2:ev n e σ=.ok (.int q)) (h:Go n r (σ.set i (.val (.int (match u with | true=>p - q | false=>p + q)))) f o):Go n (.aug i u e::r) σ f o:=g_nx (bd h1 (bd h2 rfl)) h
theorem g_ret (h1:ev n e σ=.ok v) (h:R.ok (.ret v)=o):Go n (.ret e::r) σ f o:=by
 rw [go_cons]
 exact (congrArg (fun q=>seqO q _) (bd h1 rfl)).trans h
theorem g_t (h1:ev n e σ=.ok (.bool t)) (ht:t=true) (h:Go n a σ (fun σ=>seqO (evSs (Ph n) MT (De n) r σ) f) o):Go n (.ite e a b::r) σ f o:=by
 subst ht
 rw [go_cons]
 exact (congrArg (fun q=>seqO q _) (bd h1 rfl)).trans h
theorem g_f (h1:ev n e σ=.ok (.bool t)) (ht:t=false) (h:Go n b σ (fun σ=>seqO (evSs (Ph n) MT (De n) r σ) f) o):Go n (.ite e a b::r) σ f o:=by
 subst ht
 rw [go_cons]
 exact (congrArg (fun q=>seqO q _) (bd h1 rfl)).trans h
theorem g_wt {c:Ctl} (h1:ev n e σ=.ok (.bool t)) (ht:t=true) (h2:evSs (Ph n) MT (De n) b σ=.ok c) (hc:turnC c=.again σ') (h:Go n (.whil e b::r) σ' f o):Go n (.whil e b::r) σ f o:=by
 subst ht
 rw [go_cons] at h ⊢
 refine Eq.trans (congrArg (fun q=>seqO q _) ?_) h
 exact loopSem_again ((congrArg (fun q=>whTurn q _ σ) h1).trans ((congrArg turnOf h2).trans hc))
theorem g_wf (h1:ev n e σ=.ok (.bool t)) (ht:t=false) (h:Go n r σ f o):Go n (.whil e b::r) σ f o:=by
 subst ht
 rw [go_cons]
 refine Eq.trans (b:=seqO (nx σ) _) (congrArg (fun q=>seqO q _) ?_) h
 exact loopSem_stop (congrArg (fun q=>whTurn q _ σ) h1)
theorem g_evs {c:Ctl} (h:Go n b σ nx (.ok c)):evSs (Ph n) MT (De n) b σ=.ok c:=by
 unfold Go at h
 revert h
 cases evSs (Ph n) MT (De n) b σ with
 | ok d=>cases d <;> exact id
 | _=>exact id
theorem g_done (h:σ=σ'):Go n [] σ nx (.ok (.next σ')):=congrArg nx h
theorem g_if0 (h1:ev n e σ=.ok (.bool t)) (ht:t=false) (h:Go n r σ f o):Go n (.ite e a []::r) σ f o:=g_f h1 ht h
theorem g_ifr (h1:ev n e σ=.ok (.bool t)) (ht:t=true) (h2:ev n e2 σ=.ok v) (h:R.ok (.ret v)=o):Go n (.ite e (.ret e2::a) b::r) σ f o:=g_t h1 ht (g_ret h2 h)
theorem g_it (h1:ev n e σ=.ok (.bool t)) (ht:t=true) (h2:Go n a σ nx (.ok (.next σ'))) (h:Go n r σ' f o):Go n (.ite e a b::r) σ f o:=by
 refine g_t h1 ht ?_
 unfold Go
 rw [g_evs h2]
 exact h
theorem g_ie (h1:ev n e σ=.ok (.bool t)) (ht:t=false) (h2:Go n b σ nx (.ok (.next σ'))) (h:Go n r σ' f o):Go n (.ite e a b::r) σ f o:=by
 refine g_f h1 ht ?_
 unfold Go
 rw [g_evs h2]
 exact h
theorem e_c2 {op op2:COp} {t2:Bool} (h1:ev n e1 σ=.ok x) (h2:ev n e2 σ=.ok y) (h3:cmpop op x y=.ok t) (h4:ev n e3 σ=.ok z) (h5:cmpop op2 y z=.ok t2):ev n (.cmp2 e1 op e2 op2 e3) σ=.ok (.bool (t && t2)):=bd h1 (bd h2 (bd h3 (by
 cases t
 ·rfl
 ·exact bd h4 (bd h5 rfl))))
theorem e_call {g:Nat} (h1:evl n l σ=.ok vs) (h2:Ph n g vs=.ok v):ev n (.call g l) σ=.ok v:=bd h1 h2
theorem e_bin {op:BOp} (h1:ev n e1 σ=.ok x) (h2:ev n e2 σ=.ok y) (h3:binop op x y=.ok z):ev n (.bin op e1 e2) σ=.ok z:=bd h1 (bd h2 h3)
theorem e_cmp {op:COp} (h1:ev n e1 σ=.ok x) (h2:ev n e2 σ=.ok y) (h3:cmpop op x y=.ok t):ev n (.cmp e1 op e2) σ=.ok (.bool t):=bd h1 (bd h2 (bd h3 rfl))
theorem e_t (h1:ev n e1 σ=.ok (.bool t)) (ht:t=true) (h2:ev n e2 σ=.ok v):ev n (.ite e1 e2 e3) σ=.ok v:=by
 subst ht
 exact bd h1 h2
theorem e_f (h1:ev n e1 σ=.ok (.bool t)) (ht:t=false) (h2:ev n e3 σ=.ok v):ev n (.ite e1 e2 e3) σ=.ok v:=by
 subst ht
 exact bd h1 h2
theorem e_idx (h1:ev n e1 σ=.ok x) (h2:ev n e2 σ=.ok y) (h3:idxop x y=.ok z):ev n (.idx e1 e2) σ=.ok z:=bd h1 (bd h2 h3)
theorem e_and (h1:ev n e σ=.ok (.bool t)) (ht:t=true) (h2:ev n (.and l) σ=.ok v):ev n (.and (e::l)) σ=.ok v:=by
 subst ht
 exact bd h1 h2
theorem e_andf (h1:ev n e σ=.ok (.bool t)) (ht:t=false):ev n (.and (e::l)) σ=.ok (.bool false):=by
 subst ht
 exact bd h1 rfl
theorem el_nil:evl n [] σ=.ok []:=rfl
theorem el_cons (h1:ev n e σ=.ok v) (h2:evl n l σ=.ok vs):evl n (e::l) σ=.ok (v::vs):=bd h1 (bd h2 rfl)
theorem call_of {g:Nat} {d:DD} {args:List AV} {w:AV} (hf:(tabL.find? fun d=>Nat.beq d.f g)=some d) (hk:fillOk d args=true) (h:Go n d.code (start d ((fillIn d args).map SV.val)) nx (.ok (.ret w))):Ph (n + 1) g args=.ok w:=by
 show oO _ _=_
 rw [hf]
 show lim _ _=_
 rw [hk]
 exact congrArg back (g_evs h)
theorem call_s {g:Nat} {d:DD} {args:List AV} {w:AV} (σ:Env') (hf:(tabL.find? fun d=>Nat.beq d.f g)=some d) (hk:fillOk d args=true) (hs:start d ((fillIn d args).map SV.val)=σ) (h:Go n d.code σ nx (.ok (.ret w))):Ph (n + 1) g args=.ok w :=
 call_of hf hk (hs ▸ h)
end
abbrev Tx:=List Nat
theorem dlt {p:Prop} [Decidable p] (h:p):decide p=true:=decide_eq_true h
theorem dgt {p:Prop} [Decidable p] (h:¬ p):decide p=false:=decide_eq_false h
section
variable {f r:Tx} {a c:Nat}
theorem at_lt (h:f.drop a=c::r):a < f.length:=by
 have:=congrArg List.length h
 rw [List.length_drop,List.length_cons] at this
 omega
theorem at_get (h:f.drop a=c::r):f[a]?=some c:=by
 have:=congrArg (·[0]?) h
 rw [List.getElem?_drop] at this
 exact this
theorem at_next (h:f.drop a=c::r):f.drop (a + 1)=r:=by
 rw [← List.drop_drop,h]
 rfl
theorem at_end (h:f.drop a=[]):f.length≤a:=List.drop_eq_nil_iff.mp h
theorem lt_t (h:f.drop a=c::r):decide ((a:Int) < (f.length:Int))=true:=dlt (Int.ofNat_lt.mpr (at_lt h))
theorem lt_f (h:f.drop a=[]):decide ((a:Int) < (f.length:Int))=false:=dgt fun q=>Nat.lt_irrefl _ (Nat.lt_of_lt_of_le (Int.ofNat_lt.mp q) (at_end h))
theorem pick_at {α:Type} {l:List α} {x:α} (h:l[a]?=some x):pick l (a:Int)=some x:=by
 have hl:a < l.length:=(List.getElem?_eq_some_iff.mp h).1
 unfold pick
 have e:seqIndex? (a:Int) l.length=some a:=(if_pos (by rw [if_neg (Int.not_lt.mpr (Int.natCast_nonneg a)),decide_eq_true (Int.natCast_nonneg a),decide_eq_true (Int.ofNat_lt.mpr hl)]; rfl)).trans (congrArg some (by rw [if_neg (Int.not_lt.mpr (Int.natCast_nonneg a))]; rfl))
 rw [e]
 exact h
theorem ix (h:f.drop a=c::r):idxop (.str f) (.int a)=.ok (.str [c]):=by
 show oO _ _=_
 rw [pick_at (at_get h)]
 rfl
theorem ph_sign {n:Nat} (h:f.drop a=c::r):Ph (n + 1) 122 [.str f,.int a]=.ok (.str [c]) :=
 call_of (d:=d_sign_at) rfl rfl (g_ret (e_t rfl (lt_t h) (ix h)) rfl)
theorem ph_sign0 {n:Nat} (h:f.drop a=[]):Ph (n + 1) 122 [.str f,.int a]=.ok (.str []) :=
 call_of (d:=d_sign_at) rfl rfl (g_ret (e_f rfl (lt_f h) rfl) rfl)
end
end Mine
end
section
set_option tactic.hygienic false
open PySem
namespace Mine
section
variable {n:Nat} {f r x:Tx} {a b c d last:Nat}
theorem eq1:AV.eqv (.str [c]) (.str [c])=true:=by
 show ([c] == [c])=true
 exact beq_self_eq_true _
theorem ne1 (h:d≠c):AV.eqv (.str [d]) (.str [c])=false:=by
 show ([d] == [c])=false
 exact beq_eq_false_iff_ne.mpr fun e=>h (List.head_eq_of_cons_eq e)
theorem nt {t:Bool} (h:t=false):(!t)=true:=by rw [h]; rfl
theorem nf {t:Bool} (h:t=true):(!t)=false:=by rw [h]; rfl
theorem up (hb:a + (d::x).length=b):a + 1 + x.length=b:=(Nat.succ_add_eq_add_succ a x.length).trans hb
theorem go_place:∀ {x:Tx} {a:Nat},f.drop a=x++r→(∀ k ∈ x,k≠c)→(∀ k t,r=k::t→k=c)→a + x.length=b→Go n c_place_of [.val (.str f),.val (.str [c]),.val (.int a)] nx (.ok (.ret (.int b)))
 | [],a,h,_,hr,hb=>by
  obtain rfl:a=b:=hb
  match r,h,hr with
  | [],h,_=>exact g_wf (e_andf rfl (lt_f h)) rfl (g_ret rfl rfl)
  | k::t,h,hr =>
   obtain rfl:=hr k t rfl
   exact g_wf (e_and rfl (lt_t h) (e_andf (e_cmp (e_idx rfl rfl (ix h)) rfl rfl) (nf eq1))) rfl (g_ret rfl rfl)
 | d::x,a,h,hx,hr,hb=>g_wt (e_and rfl (lt_t h) (e_and (e_cmp (e_idx rfl rfl (ix h)) rfl rfl) (nt (ne1 (hx d (.head _)))) rfl)) rfl (g_evs (g_aug rfl rfl rfl)) rfl (go_place (x:=x) (a:=a + 1) (at_next h) (fun k hk=>hx k (.tail _ hk)) hr (up hb))
theorem ph_place (h:f.drop a=x++r) (hx:∀ k ∈ x,k≠c) (hr:∀ k t,r=k::t→k=c) (hb:a + x.length=b):Ph (n + 1) 129 [.str f,.str [c],.int a]=.ok (.int b) :=
 call_of (d:=d_place_of) rfl rfl (go_place h hx hr hb)
noncomputable def dig (c:Nat):Int:=cond (decide ((48:Int)≤c) && decide ((c:Int)≤57)) ((c:Int) - 48) (cond (decide ((97:Int)≤c) && decide ((c:Int)≤122)) ((c:Int) - 87) (cond (decide ((65:Int)≤c) && decide ((c:Int)≤90)) ((c:Int) - 55) (-1)))
theorem ph_dig:Ph (n + 1) 59 [.str [c]]=.ok (.int (dig c)):=by
 refine call_of (d:=d_digit) rfl rfl (g_if0 rfl rfl (g_asg rfl ?_))
 unfold dig
 generalize h1:(decide ((48:Int)≤c) && decide ((c:Int)≤57))=t1
 cases t1 with
 | true=>exact g_ifr (e_c2 rfl rfl rfl rfl rfl) h1 rfl rfl
 | false =>
  refine g_if0 (e_c2 rfl rfl rfl rfl rfl) h1 ?_
  generalize h2:(decide ((97:Int)≤c) && decide ((c:Int)≤122))=t2
  cases t2 with
  | true=>exact g_ifr (e_c2 rfl rfl rfl rfl rfl) h2 rfl rfl
  | false =>
   refine g_if0 (e_c2 rfl rfl rfl rfl rfl) h2 ?_
   generalize h3:(decide ((65:Int)≤c) && decide ((c:Int)≤90))=t3
   cases t3 with
   | true=>exact g_ifr (e_c2 rfl rfl rfl rfl rfl) h3 rfl rfl
   | false=>exact g_if0 (e_c2 rfl rfl rfl rfl rfl) h3 (g_ret rfl rfl)
noncomputable def isD (b:Int) (c:Nat):Bool:=decide (0≤dig c) && decide (dig c < b)
noncomputable def isBlank (c:Nat):Bool:=[32,9,10,11,12,13].any fun k=>[k] == [c]
theorem ph_blank:Ph (n + 1) 52 [.str [c]]=.ok (.bool (isBlank c)):=call_of (d:=d_is_blank) rfl rfl (g_ret (e_cmp rfl rfl rfl) rfl)
theorem go_behind {q:Int}:∀ {x:Tx} {a:Nat},f.drop a=x++r→(∀ k ∈ x,isD q k=true)→a + x.length=b→b≤last→(b=last∨∃ k t,r=k::t∧isD q k=false) →
  Go (n + 1) c_digits_behind [.val (.str f),.val (.int a),.val (.int last),.val (.int q)] nx (.ok (.ret (.int b)))
 | [],a,h,_,hb,hl,he=>by
  obtain rfl:a=b:=hb
  rcases he with rfl | ⟨k,t,rfl,hk⟩
  ·exact g_wf (e_andf rfl (dgt (Int.lt_irrefl _))) rfl (g_ret rfl rfl)
  ·rcases Nat.lt_or_eq_of_le hl with hl | rfl
   ·exact g_wf (e_and rfl (dlt (Int.ofNat_lt.mpr hl)) (e_andf (e_c2 rfl (e_call (el_cons (e_idx rfl rfl (ix h)) el_nil) ph_dig) rfl rfl rfl) hk)) rfl (g_ret rfl rfl)
   ·exact g_wf (e_andf rfl (dgt (Int.lt_irrefl _))) rfl (g_ret rfl rfl)
 | d::x,a,h,hx,hb,hl,he=>g_wt (e_and rfl (dlt (Int.ofNat_lt.mpr (Nat.lt_of_lt_of_le (Nat.lt_of_lt_of_eq (Nat.lt_add_of_pos_right (Nat.succ_pos x.length)) hb) hl))) (e_and (e_c2 rfl (e_call (el_cons (e_idx rfl rfl (ix h)) el_nil) ph_dig) rfl rfl rfl) (hx d (.head _)) rfl)) rfl (g_evs (g_aug rfl rfl rfl)) rfl
   (go_behind (x:=x) (a:=a + 1) (at_next h) (fun k hk=>hx k (.tail _ hk)) (up hb) hl he)
theorem ph_behind {q:Int} (h:f.drop a=x++r) (hx:∀ k ∈ x,isD q k=true) (hb:a + x.length=b) (hl:b≤last) (he:b=last∨∃ k t,r=k::t∧isD q k=false):Ph (n + 2) 136 [.str f,.int a,.int last,.int q]=.ok (.int b) :=
 call_of (d:=d_digits_behind) rfl rfl (go_behind h hx hb hl he)
end
end Mine
end
section
set_option tactic.hygienic false
open PySem
namespace Mine
noncomputable def Fr (n:Nat) (k:IK) (is:List Nat) (b:List MS) (l:List AV) (σ:Env') (f:Env'→Out) (o:Out):Prop:=seqO (forSem (fun v σ=>partsR k v fun vs=>setAll σ is vs (evSs (Ph n) MT (De n) b)) l σ) f=o
theorem limT {α:Type} {t:Bool} {r:R α} (h:t=true):lim t r=r:=by rw [h]; rfl
section
variable {n:Nat} {σ σ' σ1:Env'} {f:Env'→Out} {o:Out} {r b:List MS} {is:List Nat} {e e1 e2 e3:ME} {v w:AV} {l es:List AV} {k:IK} {t:Bool} {ms:List ME} {lo hi:Option ME}
theorem g_forS {s:List Nat} (h1:ev n e σ=.ok (.str s)) (h:Fr n .str is b (s.map fun c=>.str [c]) σ (fun σ=>seqO (evSs (Ph n) MT (De n) r σ) f) o):Go n (.loop .str is e b::r) σ f o:=by
 rw [go_cons]
 exact (congrArg (fun q=>seqO q _) (bd h1 rfl)).trans h
theorem g_forL (h1:ev n e σ=.ok (.lst l)) (h:Fr n .lst is b l σ (fun σ=>seqO (evSs (Ph n) MT (De n) r σ) f) o):Go n (.loop .lst is e b::r) σ f o:=by
 rw [go_cons]
 exact (congrArg (fun q=>seqO q _) (bd h1 rfl)).trans h
theorem g_forR {i:Int} (h1:ev n e σ=.ok (.int i)) (hi:rgOk i=true) (h:Fr n .rng is b (rangeVals i) σ (fun σ=>seqO (evSs (Ph n) MT (De n) r σ) f) o):Go n (.loop .rng is e b::r) σ f o:=by
 rw [go_cons]
 exact (congrArg (fun q=>seqO q _) (bd h1 (limT hi))).trans h
theorem f_nil (h:Go n r σ f o):Fr n k is b [] σ (fun σ=>seqO (evSs (Ph n) MT (De n) r σ) f) o:=h
theorem f_next {c:Ctl} (hp:∀ F:Env'→Out,(partsR k v fun vs=>setAll σ is vs F)=F σ1) (hb:Go n b σ1 nx (.ok c)) (hc:∀ F,forC c F=F σ') (h:Fr n k is b l σ' f o):Fr n k is b (v::l) σ f o:=by
 refine Eq.trans (congrArg (fun q=>seqO q f) ?_) h
 exact bd ((hp _).trans (g_evs hb)) (hc _)
theorem f_ret (hp:∀ F:Env'→Out,(partsR k v fun vs=>setAll σ is vs F)=F σ1) (hb:Go n b σ1 nx (.ok (.ret w))):Fr n k is b (v::l) σ f (.ok (.ret w)) :=
 congrArg (fun q=>seqO q f) (bd ((hp _).trans (g_evs hb)) rfl)
theorem e_ort (h1:ev n e σ=.ok (.bool t)) (ht:t=true):ev n (.or (e::ms)) σ=.ok (.bool true):=by
 subst ht
 exact bd h1 rfl
theorem e_orf (h1:ev n e σ=.ok (.bool t)) (ht:t=false) (h2:ev n (.or ms) σ=.ok v):ev n (.or (e::ms)) σ=.ok v:=by
 subst ht
 exact bd h1 h2
theorem e_not (h1:ev n e σ=.ok (.bool t)):ev n (.not e) σ=.ok (.bool !t):=bd h1 rfl
theorem e_tup (h1:evl n ms σ=.ok l) (h2:decide (l.length≤lLine)=true):ev n (.tup ms) σ=.ok (.tup l):=bd h1 (limT h2)
theorem e_lst (h1:evl n ms σ=.ok l) (h2:decide (l.length≤lLine)=true):ev n (.lst ms) σ=.ok (.lst l):=bd h1 (limT h2)
theorem e_bi {q:BI} (h1:evl n ms σ=.ok l) (h2:biop q l=.ok v):ev n (.bi q ms) σ=.ok v:=bd h1 h2
theorem e_sm {q:SM} {s:List Nat} (h1:ev n e σ=.ok (.str s)) (h2:evl n ms σ=.ok l) (h3:smop q s l=.ok v):ev n (.sm q e ms) σ=.ok v:=bd h1 (bd h2 h3)
theorem e_sl {x y:Option AV} {u:AV} (h1:ev n e σ=.ok u) (h2:evO (Ph n) lo σ=.ok x) (h3:evO (Ph n) hi σ=.ok y) (h4:slop u x y=.ok v):ev n (.sl e lo hi) σ=.ok v:=bd h1 (bd h2 (bd h3 h4))
theorem g_asgT {r:List MS} (h1:ev n e σ=.ok (.tup l)) (hp:∀ F:Env'→Out,setAll σ is l F=F σ') (h:Go n r σ' f o):Go n (.asgT is e::r) σ f o:=g_nx (bd h1 (hp _)) h
theorem g_app {r:List MS} {i:Nat} (h0:σ[i]?=some (.ol l)) (h1:ev n e σ=.ok v) (hl:decide (l.length < lLine)=true) (h:Go n r (σ.set i (.ol (l++[v]))) f o):Go n (.app i e::r) σ f o:=by
 refine g_nx ?_ h
 show asO σ[i]? _=_
 rw [h0]
 exact bd h1 (limT hl)
end
section
variable {n:Nat} {f r x:Tx} {a b c d last:Nat} {q:Int}
theorem sl_mid (h:f.drop a=x++r) (hb:a + x.length=b):(f.take b).drop a=x:=by
 rw [List.drop_take,h,← hb,Nat.add_sub_cancel_left]
 exact List.take_left
theorem slop_mid (h:f.drop a=x++r) (hb:a + x.length=b):slop (.str f) (some (.int a)) (some (.int b))=.ok (.str x):=congrArg (fun z=>R.ok (AV.str z)) (sl_mid h hb)
theorem mul_q {u:Int} (hq:smallI q=true):binop .mul (.int u) (.int q)=.ok (.int (u * q)):=limT ((congrArg (smallI u || ·) hq).trans (Bool.or_true _))
noncomputable def dvgo (q:Int):Int→Tx→Int
 | v,[]=>v
 | v,c::r=>dvgo q (v * q + dig c) r
noncomputable def dv (q:Int) (x:Tx):Int:=dvgo q 0 x
noncomputable def dvBody:List MS:=[.asg 4 (.call 59 [(.v 3)]),.ite (.or [(.cmp (.v 4) .lt (.c (.int 0))),(.cmp (.v 4) .ge (.v 1))]) [.ret (.c .none)] [],.asg 2 (.bin .add (.bin .mul (.v 2) (.v 1)) (.v 4))]
theorem fr_dv (hq:smallI q=true) {t:Tx}:∀ {x:Tx} {v:Int} {s3 s4:SV},(∀ k ∈ x,isD q k=true)→Fr (n + 1) .str [3] dvBody (x.map fun c=>.str [c]) [.val (.str t),.val (.int q),.val (.int v),s3,s4] (fun σ=>seqO (evSs (Ph (n + 1)) MT (De (n + 1)) [.ret (.v 2)] σ) nx) (.ok (.ret (.int (dvgo q v x))))
 | [],v,s3,s4,_=>f_nil (g_ret rfl rfl)
 | c::x,v,s3,s4,hx=>by
  have hd:=and2 (hx c (.head _))
  refine f_next (fun F=>rfl) (g_asg (e_call rfl ph_dig) (g_if0 (e_orf (e_cmp rfl rfl rfl) (dgt (Int.not_lt.mpr (of_decide_eq_true hd.1))) (e_orf (e_cmp rfl rfl rfl) (dgt (Int.not_le.mpr (of_decide_eq_true hd.2))) rfl)) rfl (g_asg (e_bin (e_bin rfl rfl (mul_q hq)) rfl rfl) (g_done rfl)))) (fun F=>rfl) (fr_dv hq fun k hk=>hx k (.tail _ hk))
theorem ph_dv (hq:smallI q=true) (h0:x≠[]) (hx:∀ k ∈ x,isD q k=true):Ph (n + 2) 66 [.str x,.int q]=.ok (.int (dv q x)):=by
 cases x with
 | nil=>exact absurd rfl h0
 | cons c x=>exact call_of (d:=d_digits_value) rfl rfl (g_if0 (e_cmp rfl rfl rfl) rfl (g_asg rfl (g_forS rfl (fr_dv hq hx))))
theorem q10:smallI 10=true:=rfl
theorem eqi {i:Int}:AV.eqv (.int i) (.int i)=true:=by
 show (i == i)=true
 exact beq_self_eq_true _
theorem nei {i j:Int} (h:i≠j):AV.eqv (.int i) (.int j)=false:=by
 show (i == j)=false
 exact beq_eq_false_iff_ne.mpr h
theorem nen {i j:Nat} (h:i≠j):AV.eqv (.int i) (.int j)=false:=nei fun q=>h (Int.ofNat.inj q)
def NoD (q:Int) (r:Tx):Prop:=r=[]∨∃ k t,r=k::t∧isD q k=false
theorem NoD.at (h:NoD q r) (hf:f.drop b=r) (hl:b≤f.length):b=f.length∨∃ k t,r=k::t∧isD q k=false :=
 h.imp (fun e=>Nat.le_antisymm hl (at_end (hf.trans e))) id
theorem at_app:∀ {x:Tx} {a:Nat},f.drop a=x++r→a + x.length=b→f.drop b=r
 | [],a,h,hb=>by rw [← (hb:a=b)]; exact h
 | _::x,a,h,hb=>at_app (x:=x) (at_next h) (up hb)
theorem at_le (h:f.drop a=x++r) (hb:a + x.length=b) (ha:a≤f.length):b≤f.length:=by
 have:=congrArg List.length h
 rw [List.length_drop,List.length_append] at this
 lia
theorem ph_digits (h:f.drop a=x++r) (ha:a≤f.length) (h0:x≠[]) (hx:∀ k ∈ x,isD 10 k=true) (hr:NoD 10 r) (hb:a + x.length=b):Ph (n + 3) 143 [.str f,.int a]=.ok (.tup [.int (dv 10 x),.int b]):=by
 have hl:=at_le h hb ha
 have hne:b≠a:=fun e=>h0 (List.eq_nil_of_length_eq_zero (by lia))
 exact call_of (d:=d_read_digits) rfl rfl (g_asg (e_call rfl (ph_behind h hx hb hl (hr.at (at_app h hb) hl))) (g_if0 (e_cmp rfl rfl rfl) (nen hne) (g_ret (e_tup (el_cons (e_call (el_cons (e_sl rfl rfl rfl (slop_mid h hb)) rfl) (ph_dv q10 h0 hx)) rfl) rfl) rfl)))
theorem ph_digits0 (h:f.drop a=r) (ha:a≤f.length) (hr:NoD 10 r):Ph (n + 3) 143 [.str f,.int a]=.ok (.tup [.int (-1),.int a]) :=
 call_of (d:=d_read_digits) rfl rfl (g_asg (e_call rfl (ph_behind (x:=[]) h (fun _ h=>nomatch h) rfl ha (hr.at h ha))) (g_ifr (e_cmp rfl rfl rfl) eqi rfl rfl))
theorem ph_rplace (h:f.drop a=x++36::r) (ha:a≤f.length) (h0:x≠[]) (hx:∀ k ∈ x,isD 10 k=true) (hp:0≤dv 10 x) (hb:a + x.length=b):Ph (n + 4) 150 [.str f,.int a]=.ok (.tup [.int (dv 10 x),.int (b + 1:Nat)]) :=
 call_of (d:=d_read_place) rfl rfl (g_asgT (e_call rfl (ph_digits h ha h0 hx (.inr ⟨_,_,rfl,by decide +kernel⟩) hb)) (fun F=>rfl) (g_ifr (e_and (e_cmp rfl rfl rfl) (dlt hp) (e_and (e_cmp (e_call rfl (ph_sign (at_app h hb))) rfl rfl) rfl rfl)) rfl rfl rfl))
end
end Mine
end
section
set_option tactic.hygienic false
open PySem
namespace Mine
noncomputable def hexc (up:Bool) (d:Nat):Nat:=cond (Nat.blt d 10) (48 + d) (cond up (55 + d) (87 + d))
noncomputable def lsd (b:Nat):Nat→Nat→List Nat
 | 0,_=>[]
 | f + 1,m=>match m with
  | 0=>[]
  | k + 1=>(k + 1) % b::lsd b f ((k + 1) / b)
noncomputable def dgs (b m:Nat):List Nat:=match m with
 | 0=>[0]
 | k + 1=>(lsd b 100 (k + 1)).reverse
noncomputable def dgS (up:Bool) (b m:Nat):Tx:=(dgs b m).map (hexc up)
theorem lsd_zero (b:Nat):∀ f,lsd b f 0=[]
 | 0=>rfl
 | f + 1=>rfl
theorem lsd_len (b:Nat):∀ f m,(lsd b f m).length≤f
 | 0,_=>Nat.le_refl _
 | f + 1,0=>Nat.zero_le _
 | f + 1,m + 1=>Nat.succ_le_succ (lsd_len b f _)
theorem lsd_lt {b:Nat} (hb:0 < b):∀ f m,∀ d ∈ lsd b f m,d < b
 | 0,_,d,h=>nomatch h
 | f + 1,0,d,h=>nomatch h
 | f + 1,m + 1,d,h=>(List.mem_cons.mp h).elim (fun e=>e ▸ Nat.mod_lt _ hb) fun h=>lsd_lt hb f _ d h
theorem dgs_lt {b m:Nat} (hb:0 < b):∀ d ∈ dgs b m,d < b:=fun d h=>match m,h with
 | 0,h=>by cases List.mem_singleton.mp h; exact hb
 | k + 1,h=>lsd_lt hb _ _ d (List.mem_reverse.mp h)
theorem dgs_len (b m:Nat):(dgs b m).length≤100:=match m with
 | 0=>(by decide:1≤100)
 | k + 1=>Nat.le_trans (Nat.le_of_eq List.length_reverse) (lsd_len b 100 _)
theorem dgS_len (up:Bool) (b m:Nat):(dgS up b m).length≤100:=Nat.le_trans (Nat.le_of_eq (List.length_map _)) (dgs_len b m)
theorem div_lt {b m f:Nat} (hb:2≤b) (h:m < 2 ^ (f + 1)):m / b < 2 ^ f :=
 (Nat.div_lt_iff_lt_mul (Nat.lt_of_lt_of_le (by decide) hb)).mpr (Nat.lt_of_lt_of_le h (Nat.mul_le_mul_left _ hb))
theorem core_digits:∀ (g f m:Nat) (acc:List Char),m < f→m < 2 ^ g→0 < m→Nat.toDigitsCore 10 f m acc=(lsd 10 g m).reverse.map Nat.digitChar++acc
 | 0,f,m,acc,h1,h2,h3=>absurd h3 (Nat.not_lt.mpr (Nat.le_of_lt_succ h2))
 | g + 1,f + 1,m + 1,acc,h1,h2,h3=>by
  rw [Nat.toDigitsCore]
  show _=((m + 1) % 10::lsd 10 g ((m + 1) / 10)).reverse.map Nat.digitChar++acc
  rw [List.reverse_cons,List.map_append,List.append_assoc]
  cases h:(m + 1) / 10 with
  | zero=>rw [if_pos rfl,lsd_zero]; rfl
  | succ k =>
   rw [if_neg (Nat.succ_ne_zero k),core_digits g f (k + 1) _ (h ▸ Nat.lt_of_lt_of_le (Nat.div_lt_self h3 (by decide)) (Nat.le_of_lt_succ h1)) (h ▸ div_lt (by decide) h2) (Nat.succ_pos k)]
   rfl
theorem dch:∀ d,d < 10→(Nat.digitChar d).toNat=hexc false d:=by decide +kernel
theorem decText_nat (m:Nat) (h:m < 2 ^ 100):decText (m:Int)=dgS false 10 m:=by
 show (Nat.repr m).toList.map Char.toNat=_
 rw [show (Nat.repr m).toList=Nat.toDigits 10 m from String.toList_ofList]
 cases m with
 | zero=>rfl
 | succ m =>
  rw [Nat.toDigits,core_digits 100 (m + 1 + 1) (m + 1) [] (Nat.lt_succ_self _) h (Nat.succ_pos m),List.append_nil,List.map_map]
  exact List.map_congr_left fun d hd=>dch d (lsd_lt (by decide) _ _ d (List.mem_reverse.mp hd))
theorem decText_neg (m:Nat) (h:m + 1 < 2 ^ 100):decText (Int.negSucc m)=45::dgS false 10 (m + 1):=by
 rw [← decText_nat (m + 1) h]
 show ("-" ++ Nat.repr (m + 1)).toList.map Char.toNat = 45 :: (Nat.repr (m + 1)).toList.map Char.toNat
 rw [String.toList_append,List.map_append]
 rfl
theorem dig_hexc:∀ (up:Bool) (d:Nat),d < 16→dig (hexc up d)=d:=by decide +kernel
theorem isD_hexc {up:Bool} {b d:Nat} (h:d < b) (hb:b≤16):isD b (hexc up d)=true:=by
 unfold isD
 rw [dig_hexc up d (Nat.lt_of_lt_of_le h hb),decide_eq_true (Int.natCast_nonneg d),decide_eq_true (Int.ofNat_lt.mpr h)]
 rfl
theorem dgS_D {up:Bool} {b m:Nat} (h0:0 < b) (hb:b≤16):∀ k ∈ dgS up b m,isD b k=true:=fun k hk=>by
 obtain ⟨d,hd,rfl⟩:=List.mem_map.mp hk
 exact isD_hexc (dgs_lt h0 d hd) hb
theorem dgS_ne (up:Bool) (b m:Nat):dgS up b m≠[]:=fun h=>match m,List.map_eq_nil_iff.mp h with
 | 0,h=>nomatch h
 | k + 1,h=>nomatch List.reverse_eq_nil_iff.mp h
theorem dvgo_snoc (q:Int) (c:Nat):∀ (t:Tx) (v:Int),dvgo q v (t++[c])=dvgo q v t * q + dig c
 | [],v=>rfl
 | a::t,v=>dvgo_snoc q c t _
theorem dv_lsd {b:Nat} (hb:2≤b) (hb2:b≤16) (up:Bool):∀ f m,m < 2 ^ f→dv b ((lsd b f m).reverse.map (hexc up))=(m:Int)
 | 0,0,h=>rfl
 | f + 1,0,h=>rfl
 | f + 1,m + 1,h=>by
  show dvgo b 0 (((m + 1) % b::lsd b f ((m + 1) / b)).reverse.map (hexc up))=_
  rw [List.reverse_cons,List.map_append]
  refine (dvgo_snoc _ _ _ _).trans ?_
  rw [show dvgo b 0 _=_ from dv_lsd hb hb2 up f ((m + 1) / b) (div_lt hb h),dig_hexc up _ (Nat.lt_of_lt_of_le (Nat.mod_lt _ (Nat.lt_of_lt_of_le (by decide) hb)) hb2)]
  exact congrArg Nat.cast ((Nat.mul_comm ((m + 1) / b) b ▸ Nat.div_add_mod (m + 1) b:(m + 1) / b * b + (m + 1) % b=m + 1))
theorem dv_dgS {b:Nat} (hb:2≤b) (hb2:b≤16) (up:Bool) {m:Nat} (h:m < 2 ^ 100):dv b (dgS up b m)=(m:Int):=match m,h with
 | 0,h=>by cases up <;> exact (Int.add_comm _ _).trans (by rw [Int.zero_mul]; rfl)
 | m + 1,h=>dv_lsd hb hb2 up 100 (m + 1) h
theorem dv_zeros {q:Int} {t:Tx}:∀ k,dv q (List.replicate k 48++t)=dv q t
 | 0=>rfl
 | k + 1=>by
  show dvgo q (0 * q + 0) (List.replicate k 48++t)=_
  rw [Int.zero_mul]
  exact dv_zeros k
theorem okI {i:Int} (h:i.natAbs < 2 ^ 100):okInt i=true:=by
 unfold okInt
 exact decide_eq_true (Nat.lt_trans h (by decide +kernel))
theorem str_nat {m:Nat} (h:m < 2 ^ 100):biop .str [.int m]=.ok (.str (dgS false 10 m)):=by
 rw [← decText_nat m h]
 exact limT (okI h)
theorem str_neg {m:Nat} (h:m + 1 < 2 ^ 100):biop .str [.int (Int.negSucc m)]=.ok (.str (45::dgS false 10 (m + 1))):=by
 rw [← decText_neg m h]
 exact limT (okI h)
theorem szl {k:Nat} (h:k≤100000):decide (k≤szLine)=true:=dlt (Nat.le_trans h (by decide +kernel))
theorem lll {k:Nat} (h:k≤100000):decide (k≤lLine)=true:=dlt (Nat.le_trans h (by decide +kernel))
theorem llt {k:Nat} (h:k≤100000):decide (k < lLine)=true:=dlt (Nat.lt_of_le_of_lt h (by decide +kernel))
theorem add_s {s t:Tx} (h:s.length + t.length≤100000):binop .add (.str s) (.str t)=.ok (.str (s++t)):=limT (szl h)
theorem ixs {s:Tx} {k c:Nat} (h:s[k]?=some c):idxop (.str s) (.int k)=.ok (.str [c]):=by
 show oO _ _=_
 rw [pick_at h]
 rfl
theorem andT {s t:Bool} (h:s=true) (h2:t=true):(s && t)=true:=by rw [h,h2]; rfl
theorem mod_n {m b:Nat} (h:0 < b):binop .fmod (.int m) (.int b)=.ok (.int (m % b:Nat)):=limT (dlt (Int.ofNat_lt.mpr h))
theorem div_n {m b:Nat} (h:0 < b) (h2:b≤10000):binop .fdiv (.int m) (.int b)=.ok (.int (m / b:Nat)) :=
 limT (andT (dlt (Int.ofNat_lt.mpr h)) (dlt (Int.lt_of_le_of_lt (Int.ofNat_le.mpr h2) (by decide +kernel))))
noncomputable def signs (up:Bool):Tx:=cond up [48,49,50,51,52,53,54,55,56,57,65,66,67,68,69,70] [48,49,50,51,52,53,54,55,56,57,97,98,99,100,101,102]
theorem signs_get:∀ (up:Bool) (d:Nat),d < 16→(signs up)[d]?=some (hexc up d):=by decide +kernel
section
variable {n:Nat} {b:Nat} {up:Bool}
theorem go_ld (hb:2≤b) (hb2:b≤16):∀ {f m c:Nat} {acc:Tx},m < 2 ^ f→acc.length + f≤1000→Go n (c_law_digits.drop 1) [.val (.int m),.val (.int b),.val (.str (c::acc))] nx (.ok (.ret (.str ((lsd b f m).reverse.map (hexc false)++c::acc))))
 | f,0,c,acc,h,hl=>by
  rw [lsd_zero]
  exact g_wf (e_orf (e_cmp rfl rfl rfl) rfl (e_orf (e_cmp rfl rfl rfl) rfl rfl)) rfl (g_ret rfl rfl)
 | f + 1,m + 1,c,acc,h,hl=>by
  have h0:0 < b:=Nat.lt_of_lt_of_le (by decide) hb
  show Go _ _ _ _ (.ok (.ret (.str (((m + 1) % b::lsd b f ((m + 1) / b)).reverse.map (hexc false)++c::acc))))
  rw [List.reverse_cons,List.map_append,List.append_assoc]
  exact g_wt (e_ort (e_cmp rfl rfl rfl) (dlt (Int.ofNat_lt.mpr (Nat.succ_pos m)))) rfl (g_evs (g_asg (e_bin (e_idx rfl (e_bin rfl rfl (mod_n h0)) (ixs (signs_get false _ (Nat.lt_of_lt_of_le (Nat.mod_lt _ h0) hb2)))) rfl (add_s (by show 1 + (acc.length + 1)≤_; lia)))
   (g_asg (e_bin rfl rfl (div_n h0 (Nat.le_trans hb2 (by decide)))) (g_done rfl)))) rfl (go_ld (f:=f) hb hb2 (div_lt hb h) (by show acc.length + 1 + f≤1000; lia))
theorem ph_ld {m:Nat} (hb:2≤b) (hb2:b≤16) (h:m < 2 ^ 100):Ph (n + 1) 387 [.int m,.int b]=.ok (.str (dgS false b m)):=by
 have h0:0 < b:=Nat.lt_of_lt_of_le (by decide) hb
 refine call_of (d:=d_law_digits) rfl rfl (g_asg rfl (g_wt (t:=true) ?_ rfl (g_evs (g_asg (e_bin (e_idx rfl (e_bin rfl rfl (mod_n h0)) (ixs (signs_get false _ (Nat.lt_of_lt_of_le (Nat.mod_lt _ h0) hb2)))) rfl (add_s (Nat.le_of_ble_eq_true rfl)))
   (g_asg (e_bin rfl rfl (div_n h0 (Nat.le_trans hb2 (by decide)))) (g_done rfl)))) rfl ?_))
 ·cases m with
  | zero=>exact e_orf (e_cmp rfl rfl rfl) rfl (e_ort (e_cmp rfl rfl rfl) rfl)
  | succ m=>exact e_ort (e_cmp rfl rfl rfl) (dlt (Int.ofNat_lt.mpr (Nat.succ_pos m)))
 ·cases m with
  | zero =>
   have:=go_ld (n:=n) hb hb2 (f:=0) (m:=0) (c:=48) (acc:=[]) (by decide) (by decide)
   rw [Nat.zero_mod,Nat.zero_div]
   exact this
  | succ m =>
   have:=go_ld (n:=n) hb hb2 (f:=99) (m:=(m + 1) / b) (c:=hexc false ((m + 1) % b)) (acc:=[]) (div_lt hb h) (by decide)
   have e:dgS false b (m + 1)=(lsd b 99 ((m + 1) / b)).reverse.map (hexc false)++[hexc false ((m + 1) % b)]:=by
    show ((m + 1) % b::lsd b 99 ((m + 1) / b)).reverse.map (hexc false)=_
    rw [List.reverse_cons,List.map_append]
    rfl
   rw [e]
   exact this
end
end Mine
end
section
set_option tactic.hygienic false
open PySem
namespace Mine
section
variable {n:Nat} {σ σ':Env'} {f:Env'→Out} {o:Out} {r:List MS} {i:Nat} {l ls:List AV}
theorem g_rev (h0:σ[i]?=some (.ol l)) (h:Go n r (σ.set i (.ol l.reverse)) f o):Go n (.rev i::r) σ f o:=g_nx (by show asO σ[i]? _=_; rw [h0]; rfl) h
theorem g_frz (h0:σ[i]?=some (.ol l)) (h:Go n r (σ.set i (.val (.lst l))) f o):Go n (.freeze i::r) σ f o:=g_nx (by show nx (frz σ i)=_; unfold frz; rw [h0]) h
theorem g_asg2 {i j:Nat} {e1 e2:ME} {x y:AV} (h1:ev n e1 σ=.ok x) (h2:ev n e2 σ=.ok y) (h:Go n r ((σ.set i (.val x)).set j (.val y)) f o):Go n (.asg2 i j e1 e2::r) σ f o:=g_nx (bd h1 (bd h2 rfl)) h
theorem strsOf_one:∀ (x:Tx),strsOf (x.map fun c=>AV.str [c])=.ok (x.map fun c=>[c])
 | []=>rfl
 | c::x=>bd (strsOf_one x) rfl
theorem flat_one:∀ (x:Tx),(x.map fun c=>[c]).flatten=x
 | []=>rfl
 | c::x=>congrArg (c::·) (flat_one x)
theorem join_of {ss:List Tx} (h:strsOf l=.ok ss) (hl:ss.flatten.length≤100000):smop .join [] [.lst l]=.ok (.str ss.flatten):=bd h (limT (szl hl))
theorem join_one {x:Tx} (hl:x.length≤100000):smop .join [] [.lst (x.map fun c=>AV.str [c])]=.ok (.str x):=by
 have:=join_of (strsOf_one x) (by rw [flat_one]; exact hl)
 rwa [flat_one] at this
end
section
variable {n b:Nat} {up:Bool}
theorem hexc_lt {up:Bool} {d:Nat} (h:d < 10):hexc up d=hexc false d:=by
 unfold hexc
 rw [show Nat.blt d 10=true from Nat.ble_eq_true_of_le h]
 rfl
theorem dgS10 (up:Bool) (m:Nat):dgS up 10 m=dgS false 10 m:=List.map_congr_left fun d hd=>hexc_lt (dgs_lt (by decide) d hd)
theorem go_do (hb:2≤b) (hb2:b≤16):∀ {f m:Nat} {x:Tx} {made:List AV},m < 2 ^ f→x.length + f≤1000→made=(x.map fun c=>AV.str [c])→Go n (c_digits_of.drop 3) [.val (.int m),.val (.int b),.val (.bool up),.val (.str (signs up)),.ol made] nx (.ok (.ret (.str ((lsd b f m).reverse.map (hexc up)++x.reverse))))
 | f,0,x,_,h,hl,rfl=>by
  rw [lsd_zero]
  refine g_wf (e_cmp rfl rfl rfl) rfl (g_rev rfl (g_frz rfl (g_ret (e_sm rfl rfl (v:=.str x.reverse) ?_) rfl)))
  rw [← List.map_reverse]
  exact join_one (by rw [List.length_reverse]; lia)
 | f + 1,m + 1,x,_,h,hl,rfl=>by
  have h0:0 < b:=Nat.lt_of_lt_of_le (by decide) hb
  have e:(lsd b (f + 1) (m + 1)).reverse.map (hexc up)++x.reverse=(lsd b f ((m + 1) / b)).reverse.map (hexc up)++(x++[hexc up ((m + 1) % b)]).reverse:=by
   show ((m + 1) % b::lsd b f ((m + 1) / b)).reverse.map (hexc up)++_=_
   rw [List.reverse_cons,List.map_append,List.append_assoc,List.reverse_append]
   rfl
  rw [e]
  exact g_wt (e_cmp rfl rfl rfl) (dlt (Int.ofNat_lt.mpr (Nat.succ_pos m))) (g_evs (g_app rfl (e_idx rfl (e_bin rfl rfl (mod_n h0)) (ixs (signs_get up _ (Nat.lt_of_lt_of_le (Nat.mod_lt _ h0) hb2)))) (llt (by rw [List.length_map]; lia))
   (g_asg (e_bin rfl rfl (div_n h0 (Nat.le_trans hb2 (by decide)))) (g_done rfl)))) rfl (go_do (f:=f) hb hb2 (div_lt hb h) (by rw [List.length_append]; show x.length + 1 + f≤1000; lia) (by rw [List.map_append]; rfl))
theorem ph_do {m:Nat} (hb:2≤b) (hb2:b≤16) (h:m < 2 ^ 100):Ph (n + 1) 290 [.int m,.int b,.bool up]=.ok (.str (dgS up b m)):=by
 by_cases h10:b=10
 ·subst h10
  rw [dgS10]
  exact call_of (d:=d_digits_of) rfl rfl (g_ifr (e_ort (e_cmp rfl rfl rfl) rfl) rfl (e_bi rfl (str_nat h)) rfl)
 ·have hc:AV.eqv (.int b) (.int 10)=false:=nei fun q=>h10 (Int.ofNat.inj q)
  cases m with
  | zero=>cases up <;> exact call_of (d:=d_digits_of) rfl rfl (g_ifr (e_orf (e_cmp rfl rfl rfl) hc (e_ort (e_cmp rfl rfl rfl) rfl)) rfl (e_bi rfl (str_nat h)) rfl)
  | succ m =>
   have:=go_do (n:=n) (up:=up) hb hb2 (f:=100) (m:=m + 1) (x:=[]) h (by decide) rfl
   rw [List.reverse_nil,List.append_nil] at this
   refine call_of (d:=d_digits_of) rfl rfl (g_if0 (e_orf (e_cmp rfl rfl rfl) hc (e_orf (e_cmp rfl rfl rfl) (nei fun q=>Nat.succ_ne_zero m (Int.ofNat.inj q)) rfl)) rfl (g_asg (v:=.str (signs up)) ?_ (g_nx rfl this)))
   cases up
   ·exact e_f rfl rfl rfl
   ·exact e_t rfl rfl rfl
end
section
variable {n a b:Nat} {t r body x:Tx} {c d:Nat} {m:Bool}
theorem ph_base0 (d:Nat) (hd:d < 10):Ph (n + 1) 73 [.str [hexc false d]]=.ok (.int 0):=by
 have h:∀ d,d < 10→([AV.str [120],.str [88]].any fun x=>x.eqv (.str [hexc false d]))=false∧([AV.str [111],.str [79]].any fun x=>x.eqv (.str [hexc false d]))=false∧([AV.str [98],.str [66]].any fun x=>x.eqv (.str [hexc false d]))=false∧([AV.str [100],.str [68]].any fun x=>x.eqv (.str [hexc false d]))=false:=by decide +kernel
 obtain ⟨e1,e2,e3,e4⟩:=h d hd
 exact call_s (d:=d_base_of) [.val (.str [hexc false d])] rfl rfl rfl (g_if0 (e_cmp rfl rfl rfl) e1 (g_if0 (e_cmp rfl rfl rfl) e2 (g_if0 (e_cmp rfl rfl rfl) e3 (g_if0 (e_cmp rfl rfl rfl) e4 (g_ret rfl rfl)))))
theorem at_1 (h:t.drop a=c::d::r):t.drop (a + 1)=d::r:=at_next h
theorem at_2 (h:t.drop a=c::d::r):t.drop (a + 2)=r:=at_next (at_next h)
noncomputable def sgn (m:Bool) (v:Int):Int:=cond m (-v) v
theorem ret_w {σ:Env'} {v:Int} (h1:σ[5]?=some (.val (.int v))) (h2:σ[3]?=some (.val (.bool m))):Go n (c_whole_of.drop 8) σ nx (.ok (.ret (.int (sgn m v)))):=by
 have e5:ev n (.v 5) σ=.ok (.int v):=by show asV σ[5]? _=_; rw [h1]; rfl
 have e3:ev n (.v 3) σ=.ok (.bool m):=by show asV σ[3]? _=_; rw [h2]; rfl
 refine g_if0 (e_cmp e5 rfl rfl) rfl (g_ret ?_ rfl)
 cases m
 ·exact e_f e3 rfl e5
 ·exact e_t e3 rfl (bd e5 rfl)
theorem go_wd {y:List Nat} (h:t.drop a=y.map (hexc false)++r) (hb:a + (y.map (hexc false)).length=b) (h0:y≠[]) (hy:∀ d ∈ y,d < 10):Go (n + 2) (c_whole_of.drop 5) [.val (.str t),.val (.int a),.val (.int b),.val (.bool m),.u,.u] nx (.ok (.ret (.int (sgn m (dv 10 (y.map (hexc false))))))):=by
 have hx:∀ k ∈ y.map (hexc false),isD 10 k=true:=fun k hk=>by
  obtain ⟨d,hd,rfl⟩:=List.mem_map.mp hk
  exact isD_hexc (b:=10) (hy d hd) (by decide)
 have fin:Go (n + 2) (c_whole_of.drop 7) [.val (.str t),.val (.int a),.val (.int b),.val (.bool m),.val (.int 0),.u] nx (.ok (.ret (.int (sgn m (dv 10 (y.map (hexc false))))))) :=
  g_ie (e_cmp rfl rfl rfl) rfl (g_asg (e_call (el_cons (e_sl rfl rfl rfl (slop_mid h hb)) rfl) (ph_dv q10 (fun e=>h0 (List.map_eq_nil_iff.mp e)) hx)) (g_done rfl)) (ret_w rfl rfl)
 have hl:a + y.length=b:=by rw [← hb,List.length_map]
 refine g_asg rfl ?_
 match y,h0,h,hl,hy,fin with
 | [d],_,h,hl,hy,fin=>exact g_if0 (e_andf (e_cmp (e_bin rfl rfl rfl) rfl rfl) (dgt (by have:a + 1=b:=hl; lia))) rfl fin
 | [d,e],_,h,hl,hy,fin=>exact g_if0 (e_andf (e_cmp (e_bin rfl rfl rfl) rfl rfl) (dgt (by have:a + 2=b:=hl; lia))) rfl fin
 | d::e::g::y,_,h,hl,hy,fin =>
  generalize hu:AV.eqv (.str [hexc false d]) (.str [48])=u
  have hc:ev (n + 2) (.and [(.cmp (.bin .sub (.v 2) (.v 1)) .gt (.c (.int 2))),(.cmp (.idx (.v 0) (.v 1)) .eq (.c (.str [48])))]) [.val (.str t),.val (.int a),.val (.int b),.val (.bool m),.val (.int 0),.u]=.ok (.bool u):=by
   refine e_and (e_cmp (e_bin rfl rfl rfl) rfl rfl) (dlt (by have:a + (y.length + 3)=b:=hl; lia)) ?_
   cases u
   ·exact e_andf (e_cmp (e_idx rfl rfl (ix h)) rfl rfl) hu
   ·exact e_and (e_cmp (e_idx rfl rfl (ix h)) rfl rfl) hu rfl
  cases u
  ·exact g_if0 hc rfl fin
  ·exact g_it hc rfl (g_asg (e_call (el_cons (e_idx rfl (e_bin rfl rfl rfl) (ix (at_1 h))) rfl) (ph_base0 e (hy e (.tail _ (.head _))))) (g_done rfl)) fin
theorem go_wh (h:t.drop a=48::120::(x++r)) (hb:a + 2 + x.length=b) (h0:x≠[]) (hx:∀ k ∈ x,isD 16 k=true):Go (n + 2) (c_whole_of.drop 5) [.val (.str t),.val (.int a),.val (.int b),.val (.bool m),.u,.u] nx (.ok (.ret (.int (sgn m (dv 16 x))))):=by
 have hp:0 < x.length:=List.length_pos_iff.mpr h0
 exact g_asg rfl (g_it (e_and (e_cmp (e_bin rfl rfl rfl) rfl rfl) (dlt (by lia)) (e_and (e_cmp (e_idx rfl rfl (ix h)) rfl rfl) rfl rfl)) rfl (g_asg (v:=.int 16) (e_call (el_cons (e_idx rfl (e_bin rfl rfl rfl) (ix (at_1 h))) rfl) rfl) (g_done rfl))
  (g_it (e_cmp rfl rfl rfl) rfl (g_asg (e_call (el_cons (e_sl rfl rfl rfl (slop_mid (at_2 h) hb)) rfl) (ph_dv rfl h0 hx)) (g_done rfl)) (ret_w rfl rfl)))
theorem go_wm {v:AV} {s3:SV} (h:t.drop a=45::r) (hl:a < b) (k:Go (n + 2) (c_whole_of.drop 5) [.val (.str t),.val (.int (a + 1:Nat)),.val (.int b),.val (.bool true),.u,.u] nx (.ok (.ret v))) :
  Go (n + 2) (c_whole_of.drop 3) [.val (.str t),.val (.int a),.val (.int b),s3,.u,.u] nx (.ok (.ret v)) :=
 g_asg rfl (g_it (e_and (e_cmp rfl rfl rfl) (dlt (Int.ofNat_lt.mpr hl)) (e_and (e_cmp (e_idx rfl rfl (ix h)) rfl rfl) rfl rfl)) rfl (g_asg (e_cmp (e_idx rfl rfl (ix h)) rfl rfl) (g_aug rfl rfl (g_done rfl))) k)
theorem nosign:∀ d,d < 10→(AV.eqv (.str [43]) (.str [hexc false d]) || (AV.eqv (.str [45]) (.str [hexc false d]) || false))=false:=by decide +kernel
theorem go_wp {v:AV} {s3:SV} (h:t.drop a=hexc false d::r) (hd:d < 10) (hl:a < b) (k:Go (n + 2) (c_whole_of.drop 5) [.val (.str t),.val (.int a),.val (.int b),.val (.bool false),.u,.u] nx (.ok (.ret v))) :
  Go (n + 2) (c_whole_of.drop 3) [.val (.str t),.val (.int a),.val (.int b),s3,.u,.u] nx (.ok (.ret v)) :=
 g_asg rfl (g_if0 (e_and (e_cmp rfl rfl rfl) (dlt (Int.ofNat_lt.mpr hl)) (e_andf (e_cmp (e_idx rfl rfl (ix h)) rfl rfl) (nosign d hd))) rfl k)
theorem sub1 {k:Nat}:binop .sub (.int (k + 1:Nat)) (.int 1)=.ok (.int k):=congrArg (fun z=>R.ok (AV.int z)) (Int.add_sub_cancel (k:Int) 1)
theorem g_sub1 {σ:Env'} {f:Env'→Out} {o:Out} {rs:List MS} {i k:Nat} (h1:getV σ i=.ok (.int (k + 1:Nat))) (h:Go n rs (σ.set i (.val (.int k))) f o):Go n (.aug i true (.c (.int 1))::rs) σ f o :=
 g_nx (bd h1 (congrArg (fun z=>nx (σ.set i (SV.val (AV.int z)))) (Int.add_sub_cancel (k:Int) 1))) h
theorem go_w1 {v:AV} {a k:Nat} (h:t.drop a=c::r) (hc:isBlank c=false) (hk:t.drop k=d::x) (hd:isBlank d=false) (hx:x=[]∨∃ e,x=[e]∧isBlank e=true) (ha:a≤k)
  (g:∀ s3,Go (n + 2) (c_whole_of.drop 3) [.val (.str t),.val (.int a),.val (.int (k + 1:Nat)),s3,.u,.u] nx (.ok (.ret v))) :
  Go (n + 2) (c_whole_of.drop 1) [.val (.str t),.val (.int a),.val (.int t.length),.u,.u,.u] nx (.ok (.ret v)):=by
 refine g_wf (e_and (e_cmp rfl rfl rfl) (lt_t h) (e_andf (e_call (el_cons (e_idx rfl rfl (ix h)) rfl) ph_blank) hc)) rfl ?_
 have fin:Go (n + 2) (c_whole_of.drop 2) [.val (.str t),.val (.int a),.val (.int (k + 1:Nat)),.u,.u,.u] nx (.ok (.ret v)) :=
  g_wf (e_and (e_cmp rfl rfl rfl) (dlt (Int.ofNat_lt.mpr (Nat.lt_succ_of_le ha))) (e_andf (e_call (el_cons (e_idx rfl (e_bin rfl rfl sub1) (ix hk)) rfl) ph_blank) hd)) rfl (g .u)
 have hl:=congrArg List.length hk
 rw [List.length_drop] at hl
 rcases hx with rfl | ⟨e,rfl,he⟩
 ·have:t.length=k + 1:=by have:t.length - k=1:=hl; lia
  rw [this]
  exact fin
 ·have:t.length=k + 1 + 1:=by have:t.length - k=2:=hl; lia
  rw [this]
  exact g_wt (e_and (e_cmp rfl rfl rfl) (dlt (Int.ofNat_lt.mpr (by lia))) (e_and (e_call (el_cons (e_idx rfl (e_bin rfl rfl sub1) (ix (at_1 hk))) rfl) ph_blank) he rfl)) rfl (g_evs (g_sub1 rfl (g_done rfl))) rfl fin
end
end Mine
end
section
set_option tactic.hygienic false
open PySem
namespace Mine
section
variable {n a b:Nat} {t r x:Tx} {c d:Nat} {m:Bool} {y:List Nat} {v:Int}
noncomputable def txt (v:Int):Tx:=match v with
 | .ofNat m=>dgS false 10 m
 | .negSucc m=>45::dgS false 10 (m + 1)
theorem str_txt (h:v.natAbs < 2 ^ 100):biop .str [.int v]=.ok (.str (txt v)):=match v,h with
 | .ofNat m,h=>str_nat h
 | .negSucc m,h=>str_neg h
noncomputable def sgx (v:Int):Tx:=match v with
 | .ofNat _=>[]
 | .negSucc _=>[45]
noncomputable def wrt (h:Bool) (v:Int):Tx:=cond h (32::(sgx v++48::120::(dgS false 16 v.natAbs++[10]))) (sgx v++dgS false 10 v.natAbs)
theorem txt_eq:txt v=wrt false v:=by cases v <;> rfl
theorem blankD:∀ d,d < 16→isBlank (hexc false d)=false:=by decide +kernel
theorem last_of:∀ {y:List Nat} {a:Nat},y≠[]→(∀ d ∈ y,d < 16)→t.drop a=y.map (hexc false)++r→∃ k z,a + (y.map (hexc false)).length=k + 1∧t.drop k=z::r∧isBlank z=false∧a≤k
 | [d],a,_,hy,h=>⟨a,_,rfl,h,blankD d (hy d (.head _)),Nat.le_refl _⟩
 | d::e::y,a,_,hy,h=>by
  obtain ⟨k,z,h1,h2,h3,h4⟩:=last_of (y:=e::y) (a:=a + 1) (List.cons_ne_nil _ _) (fun d hd=>hy d (.tail _ hd)) (at_next h)
  exact ⟨k,z,(Nat.succ_add_eq_add_succ a _).symm.trans h1,h2,h3,Nat.le_of_succ_le h4⟩
theorem dgs_ne (b m:Nat):dgs b m≠[]:=fun h=>dgS_ne false b m (by unfold dgS; rw [h]; rfl)
theorem dgs16 {b:Nat} (h0:0 < b) (hb:b≤16) {m:Nat}:∀ d ∈ dgs b m,d < 16:=fun d hd=>Nat.lt_of_lt_of_le (dgs_lt h0 d hd) hb
theorem sgn_of (m:Nat):sgn true ((m + 1:Nat):Int)=Int.negSucc m:=rfl
theorem ph_whole (hv:v.natAbs < 2 ^ 100) (w:Bool):Ph (n + 3) 80 [.str (wrt w v)]=.ok (.int v):=by
 cases w with
 | false =>
  match v,hv with
  | .ofNat m,hv =>
   obtain ⟨k,z,h1,h2,h3,h4⟩:=last_of (t:=dgS false 10 m) (r:=[]) (a:=0) (dgs_ne 10 m) (dgs16 (by decide) (by decide)) (List.append_nil _).symm
   have hd:dv 10 ((dgs 10 m).map (hexc false))=(m:Int):=dv_dgS (b:=10) (by decide) (by decide) false hv
   have g:=go_wd (n:=n) (t:=dgS false 10 m) (r:=[]) (a:=0) (m:=false) (List.append_nil _).symm h1 (dgs_ne 10 m) (fun d=>dgs_lt (by decide) d)
   cases hy:dgs 10 m with
   | nil=>exact absurd hy (dgs_ne 10 m)
   | cons d y =>
    have hd10:d < 10:=dgs_lt (b:=10) (m:=m) (by decide) d (hy ▸ .head _)
    have e:(dgS false 10 m).drop 0=hexc false d::y.map (hexc false):=by show (dgs 10 m).map _=_; rw [hy]; rfl
    refine call_of (d:=d_whole_of) rfl rfl (g_asg2 rfl rfl (go_w1 e (blankD d (Nat.lt_trans hd10 (by decide))) h2 h3 (.inl rfl) h4 fun s3=>go_wp e hd10 (Nat.succ_pos k) ?_))
    rw [hd] at g
    exact g
  | .negSucc m,hv =>
   obtain ⟨k,z,h1,h2,h3,h4⟩:=last_of (t:=45::dgS false 10 (m + 1)) (r:=[]) (a:=1) (dgs_ne 10 (m + 1)) (dgs16 (by decide) (by decide)) (List.append_nil _).symm
   have hd:dv 10 ((dgs 10 (m + 1)).map (hexc false))=((m + 1:Nat):Int):=dv_dgS (b:=10) (by decide) (by decide) false hv
   have g:=go_wd (n:=n) (t:=45::dgS false 10 (m + 1)) (r:=[]) (a:=1) (m:=true) (List.append_nil _).symm h1 (dgs_ne 10 (m + 1)) (fun d=>dgs_lt (by decide) d)
   refine call_of (d:=d_whole_of) rfl rfl (g_asg2 rfl rfl (go_w1 (a:=0) rfl rfl h2 h3 (.inl rfl) (Nat.zero_le _) fun s3=>go_wm rfl (Nat.succ_pos k) ?_))
   rw [hd] at g
   exact g
 | true =>
  match v,hv with
  | .ofNat m,hv =>
   obtain ⟨k,z,h1,h2,h3,h4⟩:=last_of (t:=wrt true (.ofNat m)) (r:=[10]) (a:=3) (dgs_ne 16 m) (dgs16 (by decide) (by decide)) rfl
   have hd:dv 16 (dgS false 16 (Int.ofNat m).natAbs)=(m:Int):=dv_dgS (b:=16) (by decide) (by decide) false hv
   have g:=go_wh (n:=n) (t:=wrt true (.ofNat m)) (r:=[10]) (a:=1) (m:=false) rfl h1 (dgS_ne false 16 m) (dgS_D (by decide) (by decide))
   refine call_of (d:=d_whole_of) rfl rfl (g_asg2 rfl rfl (g_wt (e_and (e_cmp rfl rfl rfl) (lt_t (a:=0) rfl) (e_and (e_call (el_cons (e_idx rfl rfl (ix (a:=0) rfl)) rfl) ph_blank) rfl rfl)) rfl (g_evs (g_aug rfl rfl (g_done rfl))) rfl (go_w1 (a:=1) (c:=48) rfl rfl h2 h3 (.inr ⟨10,rfl,rfl⟩) (Nat.le_trans (by decide) h4) fun s3=>go_wp (d:=0) rfl (by decide) (Nat.le_trans (by decide) (Nat.succ_le_succ h4)) ?_)))
   rw [hd] at g
   exact g
  | .negSucc m,hv =>
   obtain ⟨k,z,h1,h2,h3,h4⟩:=last_of (t:=wrt true (.negSucc m)) (r:=[10]) (a:=4) (dgs_ne 16 (m + 1)) (dgs16 (by decide) (by decide)) rfl
   have hd:dv 16 (dgS false 16 (Int.negSucc m).natAbs)=((m + 1:Nat):Int):=dv_dgS (b:=16) (by decide) (by decide) false hv
   have g:=go_wh (n:=n) (t:=wrt true (.negSucc m)) (r:=[10]) (a:=2) (m:=true) rfl h1 (dgS_ne false 16 (m + 1)) (dgS_D (by decide) (by decide))
   refine call_of (d:=d_whole_of) rfl rfl (g_asg2 rfl rfl (g_wt (e_and (e_cmp rfl rfl rfl) (lt_t (a:=0) rfl) (e_and (e_call (el_cons (e_idx rfl rfl (ix (a:=0) rfl)) rfl) ph_blank) rfl rfl)) rfl (g_evs (g_aug rfl rfl (g_done rfl))) rfl (go_w1 (a:=1) (c:=45) rfl rfl h2 h3 (.inr ⟨10,rfl,rfl⟩) (Nat.le_trans (by decide) h4) fun s3=>go_wm rfl (Nat.le_trans (by decide) (Nat.succ_le_succ h4)) ?_)))
   rw [hd] at g
   exact g
theorem ph_need (hv:v.natAbs < 2 ^ 100) (w:Bool):Ph (n + 4) 87 [.str (wrt w v)]=.ok (.int v) :=
 call_of (d:=d_need_whole) rfl rfl (g_asg (e_call rfl (ph_whole hv w)) (g_if0 (e_cmp rfl rfl rfl) rfl (g_ret rfl rfl)))
theorem ph_nint (h1:-2147483648≤v) (h2:v < 4294967296) (w:Bool):Ph (n + 5) 269 [.str (wrt w v)]=.ok (.int v) :=
 call_of (d:=d_need_int) rfl rfl (g_asg (e_call rfl (ph_need (by lia) w)) (g_if0 (e_orf (e_cmp rfl rfl rfl) (dgt (Int.not_lt.mpr h1)) (e_orf (e_cmp rfl rfl rfl) (dgt (Int.not_le.mpr h2)) rfl)) rfl (g_ret rfl rfl)))
theorem ph_written {way:Int} (hv:v.natAbs < 2 ^ 100):Ph (n + 2) 394 [.int v,.int way]=.ok (.str (wrt (AV.eqv (.int (way % 3)) (.int 1)) v)):=by
 have l1:=dgS_len false 16 v.natAbs
 have l2:=dgS_len false 10 v.natAbs
 have hs:ev (n + 1) (.ite (.cmp (.v 0) .lt (.c (.int 0))) (.c (.str [45])) (.c (.str []))) (start d_law_written [.val (.int v),.val (.int way)])=.ok (.str (sgx v)):=match v with
  | .ofNat m=>e_f (e_cmp rfl rfl rfl) (dgt (Int.not_lt.mpr (Int.natCast_nonneg m))) rfl
  | .negSucc m=>e_t (e_cmp rfl rfl rfl) (dlt (Int.negSucc_lt_zero m)) rfl
 have l0:(sgx v).length≤1:=by
  cases v
  ·exact Nat.zero_le _
  ·exact Nat.le_refl _
 refine call_of (d:=d_law_written) rfl rfl (g_asg hs ?_)
 cases hw:AV.eqv (.int (way % 3)) (.int 1) with
 | false =>
  exact g_if0 (e_cmp (e_bin rfl rfl (limT rfl)) rfl rfl) hw (g_ret (e_bin rfl (e_call (el_cons (e_bi rfl rfl) rfl) (ph_ld (b:=10) (by decide) (by decide) hv)) (add_s (by lia))) rfl)
 | true =>
  refine g_ifr (e_cmp (e_bin rfl rfl (limT rfl)) rfl rfl) hw (e_bin (e_bin (e_bin (e_bin rfl rfl (add_s (s:=[32]) (by show 1 + _≤_; lia))) rfl (add_s (t:=[48,120]) (by rw [List.length_append]; show 1 + _ + 2≤_; lia))) (e_call (el_cons (e_bi rfl rfl) rfl) (ph_ld (b:=16) (by decide) (by decide) hv)) (add_s (by rw [List.length_append,List.length_append]; show 1 + _ + 2 + _≤_; lia))) rfl (add_s (t:=[10]) (by rw [List.length_append,List.length_append,List.length_append]; show 1 + _ + 2 + _ + 1≤_; lia))) ?_
  refine congrArg (fun z=>R.ok (Ctl.ret (AV.str z))) ?_
  show ((([32]++sgx v)++[48,120])++dgS false 16 v.natAbs)++[10]=32::(sgx v++48::120::(dgS false 16 v.natAbs++[10]))
  rw [List.append_assoc,List.append_assoc,List.append_assoc]
  rfl
end
end Mine
end
section
set_option tactic.hygienic false
open PySem
namespace Mine
set_option genCtorIdx false
inductive Sz0 (u:Unit) | e | h | l | ll | L | j | q | z | t
set_option genCtorIdx true
abbrev Sz:=Sz0 ()
namespace Sz
noncomputable def s:Sz→Tx
 | .e=>[] | .h=>[104] | .l=>[108] | .ll=>[108,108] | .L=>[76] | .j=>[106] | .q=>[113] | .z=>[122] | .t=>[116]
noncomputable def big:Sz→Bool
 | .ll=>true | .L=>true | _=>false
noncomputable def isH:Sz→Bool
 | .h=>true | _=>false
noncomputable def nm:Sz→Tx
 | .e=>[] | .h=>[104] | .ll=>[98,105,103] | .L=>[98,105,103] | _=>[108]
theorem big_s (z:Sz):cmpop .isin (.str z.s) (.tup [.str [108,108],.str [76]])=.ok z.big:=by cases z <;> rfl
theorem h_s (z:Sz):AV.eqv (.str z.s) (.str [104])=z.isH:=by cases z <;> rfl
theorem big_n (z:Sz):AV.eqv (.str z.nm) (.str [98,105,103])=z.big:=by cases z <;> rfl
theorem h_n (z:Sz):AV.eqv (.str z.nm) (.str [104])=z.isH:=by cases z <;> rfl
end Sz
theorem neg_mod (m P:Nat) (hP:0 < P):(-(m:Int) - 1) % (P:Int)=((P - 1 - m % P:Nat):Int):=by
 have h1:m % P < P:=Nat.mod_lt _ hP
 have h2:=Nat.div_add_mod m P
 have e:(-(m:Int) - 1)=((P - 1 - m % P:Nat):Int) + (P:Int) * (-((m / P:Nat):Int) - 1):=by
  rw [Int.mul_sub,Int.mul_neg,← Int.natCast_mul]
  generalize m / P=d at h2
  generalize P * d=w at h2 ⊢
  lia
 rw [e,Int.add_mul_emod_self_left]
 exact Int.emod_eq_of_lt (Int.natCast_nonneg _) (Int.ofNat_lt.mpr (by lia))
theorem mask (x:Int) (k:Nat):Builtin.bitAnd x ((2 ^ k - 1:Nat):Int)=x % ((2 ^ k:Nat):Int):=match x with
 | .ofNat m=>(PyProof.Rows.bitAnd_pp (x:=(m:Int)) (Int.natCast_nonneg m) (Int.natCast_nonneg _)).trans (congrArg Nat.cast (Nat.and_two_pow_sub_one_eq_mod m k))
 | .negSucc m=>by
  refine (PyProof.Rows.bitAnd_np (x:=Int.negSucc m) (Int.not_le.mpr (Int.negSucc_lt_zero m)) (Int.natCast_nonneg _)).trans ?_
  have e:Builtin.bitNot (Int.negSucc m)=(m:Int):=by
   show -Int.negSucc m - 1=_
   lia
  rw [e,show Int.negSucc m=-(m:Int) - 1 by lia,neg_mod m _ (Nat.two_pow_pos k)]
  show ((2 ^ k - 1:Nat):Int) - (((2 ^ k - 1) &&& m:Nat):Int)=_
  rw [Nat.and_comm,Nat.and_two_pow_sub_one_eq_mod]
  exact (Int.ofNat_sub (Nat.le_sub_one_of_lt (Nat.mod_lt _ (Nat.two_pow_pos k)))).symm
noncomputable def cutM (m v:Int):Int:=cond (decide (2 * (v % m) < m)) (v % m) (v % m - m)
noncomputable def cutF (big h:Bool) (v:Int):Int:=cond big v (cond h (cutM 65536 v) (cutM 18446744073709551616 v))
section
variable {n:Nat} {v:Int} {z:Sz}
theorem ph_lcut:Ph (n + 1) 401 [.int v,.str z.s]=.ok (.int (cutF z.big z.isH v)):=by
 generalize hb:z.big=b
 generalize hh:z.isH=h
 have h1:=z.big_s
 have h2:=z.h_s
 rw [hb] at h1
 rw [hh] at h2
 cases b with
 | true=>exact call_of (d:=d_law_cut) rfl rfl (g_ifr (e_cmp rfl rfl h1) rfl rfl rfl)
 | false =>
  have fin:∀ m:Int,0 < m→m < 2 ^ 70→Go n (c_law_cut.drop 2) [.val (.int v),.val (.str z.s),.val (.int m),.u] nx (.ok (.ret (.int (cutM m v)))):=fun m hm hm2=>by
   have l0:=Int.emod_nonneg v (Int.ne_of_gt hm)
   have l1:=Int.emod_lt_of_pos v hm
   unfold cutM
   generalize hd:decide (2 * (v % m) < m)=d
   have hc:ev n (.cmp (.bin .mul (.c (.int 2)) (.v 3)) .lt (.v 2)) [.val (.int v),.val (.str z.s),.val (.int m),.val (.int (v % m))]=.ok (.bool d):=e_cmp (e_bin rfl rfl (limT rfl)) rfl (congrArg R.ok hd)
   refine g_asg (e_bin rfl rfl (limT (dlt hm))) ?_
   cases d with
   | true=>exact g_ret (e_t hc rfl rfl) rfl
   | false=>exact g_ret (e_f hc rfl rfl) rfl
  refine call_of (d:=d_law_cut) rfl rfl (g_if0 (e_cmp rfl rfl h1) rfl ?_)
  cases h with
  | true=>exact g_asg (v:=.int 65536) (e_t (e_cmp rfl rfl rfl) h2 rfl) (fin _ (by decide) (by decide))
  | false=>exact g_asg (v:=.int 18446744073709551616) (e_f (e_cmp rfl rfl rfl) h2 rfl) (fin _ (by decide) (by decide))
theorem m64 (x:Int):Builtin.bitAnd x 18446744073709551615=x % 18446744073709551616:=mask x 64
theorem m16 (x:Int):Builtin.bitAnd x 65535=x % 65536:=mask x 16
theorem e_m64 {σ:Env'} (h:getV σ 0=.ok (.int v)):ev n (.bin .band (.v 0) (.bin .sub (.bin .shl (.c (.int 1)) (.c (.int 64))) (.c (.int 1)))) σ=.ok (.int (v % 18446744073709551616)) :=
 e_bin h (e_bin (e_bin rfl rfl (z:=.int 18446744073709551616) rfl) rfl (z:=.int 18446744073709551615) rfl) (congrArg (fun z=>R.ok (AV.int z)) (m64 v))
theorem e_m16 {σ:Env'} (h:getV σ 0=.ok (.int v)):ev n (.bin .band (.v 0) (.c (.int 65535))) σ=.ok (.int (v % 65536)):=e_bin h rfl (congrArg (fun z=>R.ok (AV.int z)) (m16 v))
theorem ph_wide:Ph (n + 1) 94 [.int v]=.ok (.int (cutM 18446744073709551616 v)):=by
 have l0:=Int.emod_nonneg v (b:=18446744073709551616) (by decide)
 have l1:=Int.emod_lt_of_pos v (b:=18446744073709551616) (by decide)
 refine call_of (d:=d_wide) rfl rfl (g_asg (e_m64 rfl) ?_)
 unfold cutM
 generalize v % 18446744073709551616=w at l0 l1 ⊢
 have hc:∀ u,AV.eqv (.int (w / 9223372036854775808)) (.int 1)=u→ev n (.cmp (.bin .shr (.v 1) (.c (.int 63))) .eq (.c (.int 1))) [.val (.int v),.val (.int w)]=.ok (.bool u):=fun u hu=>e_cmp (e_bin rfl rfl (z:=.int (w / 9223372036854775808)) rfl) rfl (congrArg R.ok hu)
 by_cases h:2 * w < 18446744073709551616
 ·rw [decide_eq_true h]
  exact g_if0 (hc _ (nei (by lia))) rfl (g_ret rfl rfl)
 ·rw [decide_eq_false h]
  have:w / 9223372036854775808=1:=by lia
  exact g_ifr (hc true (by rw [this]; rfl)) rfl (e_bin rfl (e_bin rfl rfl (z:=.int 18446744073709551616) rfl) rfl) rfl
theorem ph_cut:Ph (n + 2) 304 [.int v,.str z.nm]=.ok (.int (cutF z.big z.isH v)):=by
 have h1:=z.big_n
 have h2:=z.h_n
 generalize z.big=b at h1 ⊢
 generalize z.isH=h at h2 ⊢
 cases b with
 | true=>exact call_of (d:=d_cut_to_size) rfl rfl (g_ifr (e_cmp rfl rfl rfl) h1 rfl rfl)
 | false =>
  refine call_of (d:=d_cut_to_size) rfl rfl (g_if0 (e_cmp rfl rfl rfl) h1 ?_)
  cases h with
  | false=>exact g_if0 (e_cmp rfl rfl rfl) h2 (g_ret (e_call rfl ph_wide) rfl)
  | true =>
   have l0:=Int.emod_nonneg v (b:=65536) (by decide)
   have l1:=Int.emod_lt_of_pos v (b:=65536) (by decide)
   refine g_t (e_cmp rfl rfl rfl) h2 (g_asg (e_m16 rfl) ?_)
   show Go _ _ _ _ (.ok (.ret (.int (cutM 65536 v))))
   unfold cutM
   by_cases h:2 * (v % 65536) < 65536
   ·rw [decide_eq_true h]
    exact g_ret (e_f (e_cmp rfl rfl rfl) (dgt (by lia)) rfl) rfl
   ·rw [decide_eq_false h]
    exact g_ret (e_t (e_cmp rfl rfl rfl) (dlt (by lia)) rfl) rfl
noncomputable def modF (h:Bool) (v:Int):Int:=cond h (v % 65536) (v % 18446744073709551616)
theorem ph_nosign:Ph (n + 1) 311 [.int v,.str z.nm]=.ok (.int (modF z.isH v)):=by
 have h2:=z.h_n
 generalize z.isH=h at h2 ⊢
 cases h with
 | true=>exact call_of (d:=d_without_sign) rfl rfl (g_ifr (e_cmp rfl rfl rfl) h2 (e_m16 rfl) rfl)
 | false=>exact call_of (d:=d_without_sign) rfl rfl (g_if0 (e_cmp rfl rfl rfl) h2 (g_ret (e_m64 rfl) rfl))
end
end Mine
end
section
set_option tactic.hygienic false
open PySem
namespace Mine
set_option genCtorIdx false
inductive So0 (u:Unit) | d | i | u | x | X | o | b
set_option genCtorIdx true
abbrev So:=So0 ()
namespace So
noncomputable def c:So→Nat
 | .d=>100 | .i=>105 | .u=>117 | .x=>120 | .X=>88 | .o=>111 | .b=>98
noncomputable def f:So→Nat
 | .i=>100 | s=>s.c
noncomputable def k:So→Nat
 | .d=>0 | .i=>1 | .u=>2 | .x=>3 | .X=>4 | .o=>5 | .b=>6
noncomputable def base:So→Nat
 | .x=>16 | .X=>16 | .o=>8 | .b=>2 | _=>10
noncomputable def up:So→Bool
 | .X=>true | _=>false
noncomputable def di:So→Bool
 | .d=>true | .i=>true | _=>false
noncomputable def isU:So→Bool
 | .u=>true | _=>false
noncomputable def mark (big:Bool):So→Tx
 | .d=>[48,100] | .i=>[48,100] | .u=>cond big [48,100] [] | .x=>[48,120] | .X=>[48,120] | .o=>[48,111] | .b=>[48,98]
variable (s:So)
theorem f1:smop .index [100,105,117,120,88,111,98] [.str [s.c]]=.ok (.int s.k):=by cases s <;> rfl
theorem f2:idxop (.tup [.int 10,.int 10,.int 10,.int 16,.int 16,.int 8,.int 2]) (.int s.k)=.ok (.int s.base):=by cases s <;> rfl
theorem f3 {b:Bool}:idxop (.tup [.str [48,100],.str [48,100],.str (cond b [48,100] []),.str [48,120],.str [48,120],.str [48,111],.str [48,98]]) (.int s.k)=.ok (.str (s.mark b)):=by cases s <;> rfl
theorem f4:AV.eqv (.str [s.c]) (.str [88])=s.up:=by cases s <;> rfl
theorem f5:cmpop .isin (.str [s.c]) (.str [100,105])=.ok s.di:=by cases s <;> rfl
theorem f6:AV.eqv (.str [s.f]) (.str [88])=s.up:=by cases s <;> rfl
theorem f7:AV.eqv (.str [s.f]) (.str [100])=s.di:=by cases s <;> rfl
theorem f8:AV.eqv (.str [s.f]) (.str [117])=s.isU:=by cases s <;> rfl
theorem f9 {n:Nat}:Ph (n + 1) 164 [.str [s.f]]=.ok (.int s.base):=by cases s <;> rfl
theorem f10 {n:Nat}:Ph (n + 1) 318 [.str [s.f]]=.ok (.str (s.mark false)):=by cases s <;> rfl
theorem base2:2≤s.base:=by cases s <;> decide +kernel
theorem base16:s.base≤16:=by cases s <;> decide +kernel
theorem up16 (h:s.up=true):s.base=16:=by cases s <;> first | rfl | cases h
end So
noncomputable def ovf (v:Int) (m:Nat):Prop:=v.natAbs < m
noncomputable def numW (s:So) (big h:Bool) (v:Int):Nat:=cond (big || s.di) (cutF big h v).natAbs (modF h (cutF big h v)).toNat
noncomputable def digW (s:So) (big h:Bool) (v:Int):Tx:=dgS s.up s.base (numW s big h v)
noncomputable def hd0 (sg:Bool) (fl:Tx) (num:Int):Tx:=cond sg (cond (decide (num < 0)) [45] (cond (fl.contains 43) [43] (cond (fl.contains 32) [32] []))) []
noncomputable def hdW (s:So) (big:Bool) (fl:Tx) (num:Int):Tx:=hd0 (big || s.di) fl num++cond (fl.contains 35 && !AV.eqv (.int num) (.int 0)) (s.mark big) []
noncomputable def mostW (fl:Tx) (w p:Int) (hd:Tx):Int:=cond (decide (p < 0)) (cond (fl.contains 48) (w - hd.length) 0) p
noncomputable def wholeT (s:So) (big h:Bool) (fl:Tx) (w p v:Int):Tx :=
 (hdW s big fl (cutF big h v)++repl (mostW fl w p (hdW s big fl (cutF big h v)) - (digW s big h v).length) [48])++digW s big h v
theorem upper_hex {m b:Nat} (hb:b≤16) (h0:0 < b):smop .upper (dgS false b m) []=.ok (.str (dgS true b m)):=by
 have h1:∀ d,d < 16→decide (hexc false d < 128)=true∧PyProof.Rows.up1 (hexc false d)=hexc true d:=by decide +kernel
 have h2:∀ d ∈ dgs b m,d < 16:=dgs16 h0 hb
 refine (limT (List.all_eq_true.mpr fun c hc=>?_)).trans ?_
 ·obtain ⟨d,hd,rfl⟩:=List.mem_map.mp hc
  exact (h1 d (h2 d hd)).1
 ·unfold dgS
  rw [List.map_map]
  exact congrArg (fun z=>R.ok (AV.str z)) (List.map_congr_left fun d hd=>(h1 d (h2 d hd)).2)
theorem cutM_lt {m v:Int} {M:Nat} (hm:m=(M:Int)) (h0:0 < M):(cutM m v).natAbs < M:=by
 subst hm
 have l0:=Int.emod_nonneg v (b:=(M:Int)) (by lia)
 have l1:=Int.emod_lt_of_pos v (b:=(M:Int)) (by lia)
 unfold cutM
 by_cases h:2 * (v % M) < M
 ·rw [decide_eq_true h]
  show (v % M).natAbs < M
  lia
 ·rw [decide_eq_false h]
  show (v % M - M).natAbs < M
  lia
theorem cutF_lt {big h:Bool} {v:Int} (hv:v.natAbs < 2 ^ 70):(cutF big h v).natAbs < 2 ^ 70:=by
 cases big
 ·cases h
  ·exact Nat.lt_trans (cutM_lt (M:=18446744073709551616) rfl (by decide)) (by decide)
  ·exact Nat.lt_trans (cutM_lt (M:=65536) rfl (by decide)) (by decide)
 ·exact hv
theorem modF_nn {h:Bool} {v:Int}:0≤modF h v:=by
 cases h
 ·exact Int.emod_nonneg v (by decide)
 ·exact Int.emod_nonneg v (by decide)
theorem modF_lt {h:Bool} {v:Int}:modF h v < 2 ^ 64:=by
 cases h
 ·exact Int.emod_lt_of_pos v (by decide)
 ·exact Int.lt_trans (Int.emod_lt_of_pos v (b:=65536) (by decide)) (by decide)
theorem numW_lt {s:So} {big h:Bool} {v:Int} (hv:v.natAbs < 2 ^ 70):numW s big h v < 2 ^ 100:=by
 unfold numW
 cases big || s.di
 ·have:=modF_lt (h:=h) (v:=cutF big h v)
  show (modF h (cutF big h v)).toNat < _
  lia
 ·exact Nat.lt_trans (cutF_lt hv) (by decide)
section
variable {n:Nat} {s:So} {z:Sz} {fl:Tx} {w p v:Int}
theorem digW_len {big h:Bool}:(digW s big h v).length≤100:=dgS_len _ _ _
theorem hd0_len {sg:Bool} {num:Int}:(hd0 sg fl num).length≤1:=by
 unfold hd0
 cases sg
 ·exact Nat.zero_le _
 ·cases decide (num < 0)
  ·cases fl.contains 43
   ·cases fl.contains 32
    ·exact Nat.zero_le _
    ·exact Nat.le_refl _
   ·exact Nat.le_refl _
  ·exact Nat.le_refl _
theorem mark_len {big:Bool}:(s.mark big).length≤2:=by cases s <;> cases big <;> decide +kernel
theorem hdW_len {big:Bool}:(hdW s big fl v).length≤3:=by
 unfold hdW
 rw [List.length_append]
 refine Nat.add_le_add (b:=1) (d:=2) hd0_len ?_
 cases fl.contains 35 && !AV.eqv (.int v) (.int 0)
 ·exact Nat.zero_le _
 ·exact mark_len
variable {o:Out}
theorem lw_b {big sg:Bool} {num:Int} {bs:AV} {dg:Tx} (h:Go n (c_law_whole.drop 8) [.val (.str [s.c]),.val (.int v),.val (.str fl),.val (.int w),.val (.int p),.val (.str z.s),.val (.bool big),.val (.bool sg),.val (.int num),.val bs,.val (.str dg),.val (.str (hd0 sg fl num)),.u] nx o) :
  Go n (c_law_whole.drop 7) [.val (.str [s.c]),.val (.int v),.val (.str fl),.val (.int w),.val (.int p),.val (.str z.s),.val (.bool big),.val (.bool sg),.val (.int num),.val bs,.val (.str dg),.val (.str []),.u] nx o:=by
 unfold hd0 at h
 cases sg with
 | false=>exact g_ie (e_andf rfl rfl) rfl (g_ie (e_andf rfl rfl) rfl (g_if0 (e_andf rfl rfl) rfl (g_done rfl)) (g_done rfl)) h
 | true =>
  generalize h1:decide (num < 0)=t1 at h
  cases t1 with
  | true=>exact g_it (e_and rfl rfl (e_and (e_cmp rfl rfl rfl) h1 rfl)) rfl (g_asg rfl (g_done rfl)) h
  | false =>
   generalize h2:fl.contains 43=t2 at h
   cases t2 with
   | true=>exact g_ie (e_and rfl rfl (e_andf (e_cmp rfl rfl rfl) h1)) rfl (g_it (e_and rfl rfl (e_and (e_cmp rfl rfl rfl) h2 rfl)) rfl (g_asg rfl (g_done rfl)) (g_done rfl)) h
   | false =>
    generalize h3:fl.contains 32=t3 at h
    cases t3 with
    | true=>exact g_ie (e_and rfl rfl (e_andf (e_cmp rfl rfl rfl) h1)) rfl (g_ie (e_and rfl rfl (e_andf (e_cmp rfl rfl rfl) h2)) rfl (g_it (e_and rfl rfl (e_and (e_cmp rfl rfl rfl) h3 rfl)) rfl (g_asg rfl (g_done rfl)) (g_done rfl)) (g_done rfl)) h
    | false=>exact g_ie (e_and rfl rfl (e_andf (e_cmp rfl rfl rfl) h1)) rfl (g_ie (e_and rfl rfl (e_andf (e_cmp rfl rfl rfl) h2)) rfl (g_if0 (e_and rfl rfl (e_andf (e_cmp rfl rfl rfl) h3)) rfl (g_done rfl)) (g_done rfl)) h
theorem lw_c {big sg:Bool} {num:Int} {bs:AV} {dg hd:Tx} (hl:hd.length≤1) (h:Go n (c_law_whole.drop 9) [.val (.str [s.c]),.val (.int v),.val (.str fl),.val (.int w),.val (.int p),.val (.str z.s),.val (.bool big),.val (.bool sg),.val (.int num),.val bs,.val (.str dg),.val (.str (hd++cond (fl.contains 35 && !AV.eqv (.int num) (.int 0)) (s.mark big) [])),.u] nx o) :
  Go n (c_law_whole.drop 8) [.val (.str [s.c]),.val (.int v),.val (.str fl),.val (.int w),.val (.int p),.val (.str z.s),.val (.bool big),.val (.bool sg),.val (.int num),.val bs,.val (.str dg),.val (.str hd),.u] nx o:=by
 generalize h1:fl.contains 35=t1 at h
 generalize h2:AV.eqv (.int num) (.int 0)=t2 at h
 cases t1 with
 | false=>exact g_if0 (e_andf (e_cmp rfl rfl rfl) h1) rfl (by rwa [show hd++cond (false && !t2) (s.mark big) []=hd from List.append_nil _] at h)
 | true =>
  cases t2 with
  | true=>exact g_if0 (e_and (e_cmp rfl rfl rfl) h1 (e_andf (e_cmp rfl rfl rfl) (nf h2))) rfl (by rwa [show hd++cond (true && !true) (s.mark big) []=hd from List.append_nil _] at h)
  | false =>
   have l2:=mark_len (s:=s) (big:=big)
   refine g_it (e_and (e_cmp rfl rfl rfl) h1 (e_and (e_cmp rfl rfl rfl) (nt h2) rfl)) rfl (g_asg (e_bin rfl (e_idx (e_tup (el_cons rfl (el_cons rfl (el_cons (v:=.str (cond big [48,100] [])) ?_ rfl))) rfl) (e_sm rfl rfl s.f1) s.f3) (add_s (by lia))) (g_done rfl)) h
   cases big
   ·exact e_f rfl rfl rfl
   ·exact e_t rfl rfl rfl
theorem smallI_of {i:Int} (h1:-100000≤i) (h2:i≤100000):smallI i=true:=andT (dlt (Int.lt_of_lt_of_le (by decide) h1)) (dlt (Int.lt_of_le_of_lt h2 (by decide)))
theorem mul_s {c:Nat} {i:Int} (h1:-100000≤i) (h2:i≤100000):binop .mul (.str [c]) (.int i)=.ok (.str (repl i [c])) :=
 limT (andT (szl (by show 1 * i.toNat≤_; lia)) (smallI_of h1 h2))
theorem repl_len {c:Nat} {i:Int}:(repl i [c]).length=i.toNat:=by
 unfold repl
 rw [List.length_flatten,List.map_replicate,List.sum_replicate_nat]
 exact Nat.mul_one _
theorem lw_d {big sg:Bool} {num:Int} {bs:AV} {dg hd:Tx} (hl:hd.length≤3) (hd2:dg.length≤100) (w1:-1000≤w) (w2:w≤1000) (p2:p≤1000) :
  Go n (c_law_whole.drop 9) [.val (.str [s.c]),.val (.int v),.val (.str fl),.val (.int w),.val (.int p),.val (.str z.s),.val (.bool big),.val (.bool sg),.val (.int num),.val bs,.val (.str dg),.val (.str hd),.u] nx (.ok (.ret (.str ((hd++repl (mostW fl w p hd - dg.length) [48])++dg)))):=by
 have fin:∀ m:Int,-1100≤m→m≤1100→Go n (c_law_whole.drop 11) [.val (.str [s.c]),.val (.int v),.val (.str fl),.val (.int w),.val (.int p),.val (.str z.s),.val (.bool big),.val (.bool sg),.val (.int num),.val bs,.val (.str dg),.val (.str hd),.val (.int m)] nx (.ok (.ret (.str ((hd++repl (m - dg.length) [48])++dg)))):=fun m m1 m2 =>
  g_ret (e_bin (e_bin rfl (e_bin rfl (e_bin rfl (e_bi rfl rfl) rfl) (mul_s (by lia) (by lia))) (add_s (by rw [repl_len]; lia))) rfl (add_s (by rw [List.length_append,repl_len]; lia))) rfl
 unfold mostW
 refine g_asg rfl ?_
 generalize h1:decide (p < 0)=t1
 cases t1 with
 | false=>exact g_if0 (e_cmp rfl rfl rfl) h1 (fin p (Int.le_trans (by decide) (Int.not_lt.mp (of_decide_eq_false h1))) (Int.le_trans p2 (by decide)))
 | true =>
  generalize h2:fl.contains 48=t2
  cases t2 with
  | true=>exact g_it (e_cmp rfl rfl rfl) h1 (g_asg (e_t (e_cmp rfl rfl rfl) h2 (e_bin rfl (e_bi rfl rfl) rfl)) (g_done rfl)) (fin (w - hd.length) (by lia) (by lia))
  | false=>exact g_it (e_cmp rfl rfl rfl) h1 (g_asg (e_f (e_cmp rfl rfl rfl) h2 rfl) (g_done rfl)) (fin 0 (by decide) (by decide))
end
end Mine
end
section
set_option tactic.hygienic false
open PySem
namespace Mine
section
variable {n:Nat} {s:So} {z:Sz} {fl:Tx} {w p v:Int} {o:Out}
theorem ph_lwhole (hv:v.natAbs < 2 ^ 70) (w1:-1000≤w) (w2:w≤1000) (p2:p≤1000):Ph (n + 2) 408 [.str [s.c],.int v,.str fl,.int w,.int p,.str z.s]=.ok (.str (wholeT s z.big z.isH fl w p v)):=by
 have hN:=numW_lt (s:=s) (big:=z.big) (h:=z.isH) hv
 have hD:=digW_len (s:=s) (v:=v) (big:=z.big) (h:=z.isH)
 refine call_s (d:=d_law_whole) [.val (.str [s.c]),.val (.int v),.val (.str fl),.val (.int w),.val (.int p),.val (.str z.s),.u,.u,.u,.u,.u,.u,.u] rfl rfl rfl (g_asg (e_cmp rfl rfl z.big_s) (g_asg (v:=.bool (z.big || s.di)) ?_ (g_asg (e_call rfl ph_lcut) (g_asg (e_idx rfl (e_sm rfl rfl s.f1) s.f2) (g_asg (v:=.str (dgS false s.base (numW s z.big z.isH v))) ?_ ?_)))))
 ·generalize z.big=b
  cases b with
  | true=>exact e_ort rfl rfl
  | false =>
   have h5:=s.f5
   cases hd:s.di with
   | false=>exact e_orf rfl rfl (e_orf (e_cmp rfl rfl h5) hd rfl)
   | true=>exact e_orf rfl rfl (e_ort (e_cmp rfl rfl h5) hd)
 ·refine e_call (el_cons (v:=.int (numW s z.big z.isH v)) ?_ rfl) (ph_ld s.base2 s.base16 hN)
  unfold numW
  generalize hsg:(z.big || s.di)=sg
  cases sg with
  | true=>exact e_t rfl rfl (e_bi rfl rfl)
  | false =>
   have h0:=modF_nn (h:=z.isH) (v:=cutF z.big z.isH v)
   refine e_f rfl rfl ?_
   rw [show (((cond false _ (modF z.isH (cutF z.big z.isH v)).toNat:Nat):Int))=modF z.isH (cutF z.big z.isH v) from Int.toNat_of_nonneg h0]
   have h2:=z.h_s
   generalize z.isH=h at h2 ⊢
   cases h with
   | true=>exact e_bin rfl (e_t (e_cmp rfl rfl rfl) h2 rfl) (y:=.int 65536) (limT rfl)
   | false=>exact e_bin rfl (e_f (e_cmp rfl rfl rfl) h2 rfl) (y:=.int 18446744073709551616) (limT rfl)
 ·have rest:=lw_b (n:=n + 1) (s:=s) (z:=z) (fl:=fl) (w:=w) (p:=p) (v:=v) (big:=z.big) (sg:=z.big || s.di) (num:=cutF z.big z.isH v) (bs:=.int s.base) (dg:=digW s z.big z.isH v)
   (lw_c hd0_len (lw_d (hdW_len (s:=s) (big:=z.big)) hD w1 w2 p2))
  have h4:=s.f4
  cases hu:s.up with
  | false =>
   have e:dgS false s.base (numW s z.big z.isH v)=digW s z.big z.isH v:=by unfold digW; rw [hu]
   rw [e]
   exact g_if0 (e_cmp rfl rfl rfl) (h4.trans hu) (g_asg rfl rest)
  | true =>
   have e:dgS true s.base (numW s z.big z.isH v)=digW s z.big z.isH v:=by unfold digW; rw [hu]
   have e2:=upper_hex (m:=numW s z.big z.isH v) s.base16 (Nat.lt_of_lt_of_le (by decide) s.base2)
   rw [e] at e2
   exact g_it (e_cmp rfl rfl rfl) (h4.trans hu) (g_asg (e_sm rfl rfl e2) (g_done rfl)) (g_asg rfl rest)
end
end Mine
end
section
set_option tactic.hygienic false
open PySem
namespace Mine
section
variable {n:Nat} {σ σ':Env'} {f:Env'→Out} {o:Out} {r:List MS} {e:ME} {v:AV} {l:List ME} {vs args:List AV} {g:Nat} {t:Tx} {c:List AV} {d:DD} {x:Out}
theorem g_expr (h1:ev n e σ=.ok v) (h:Go n r σ f o):Go n (.expr e::r) σ f o:=g_nx (bd h1 rfl) h
theorem g_raise (h1:evl n l σ=.ok vs) (h2:MT g vs=some (t,c)):Go n (.raise g l::r) σ f (.exn t c):=by
 rw [go_cons]
 refine congrArg (fun q=>seqO q _) (bd h1 (a:=vs) (o:=.exn t c) ?_)
 rw [h2]
 rfl
theorem g_evo (h:Go n r σ nx o):evSs (Ph n) MT (De n) r σ=o:=by
 unfold Go at h
 revert h
 cases evSs (Ph n) MT (De n) r σ with
 | ok d=>cases d <;> exact id
 | _=>exact id
theorem call_o (σ:Env') {w:R AV} (hf:(tabL.find? fun d=>Nat.beq d.f g)=some d) (hk:fillOk d args=true) (hs:start d ((fillIn d args).map SV.val)=σ) (h:Go n d.code σ nx o) (hw:back o=w):Ph (n + 1) g args=w:=by
 show oO _ _=_
 rw [hf]
 show lim _ _=_
 rw [hk,hs]
 exact (congrArg back (g_evo h)).trans hw
end
section
variable {n:Nat} {s:So} {z:Sz} {fl:Tx} {w p v:Int} {o:Out} {c:Nat}
theorem ph_room (h:p≤100000):Ph (n + 1) 276 [.int p]=.ok .none :=
 call_o (d:=d_need_room) [.val (.int p)] rfl rfl rfl (g_if0 (e_cmp rfl rfl rfl) (dgt (Int.not_le.mpr (Int.lt_of_le_of_lt h (by decide)))) (g_done rfl)) rfl
theorem repl_max {m:Int} {x:Tx}:repl (max m 0) x=repl m x:=by
 unfold repl
 rw [show (max m 0).toNat=m.toNat by lia]
theorem ph_filled {m:Int} (h1:-100000≤m) (h2:m≤100000):Ph (n + 1) 297 [.str [c],.int m]=.ok (.str (repl m [c])):=by
 refine call_s (d:=d_filled) [.val (.str [c]),.val (.int m)] rfl rfl rfl (g_ret (e_bin rfl (e_bi rfl rfl) (mul_s (i:=max m 0) (by lia) (by lia))) ?_)
 rw [repl_max]
noncomputable def soT (s:So) (big:Bool):So:=cond (s.isU && big) .d s
theorem t1 (s:So) (b:Bool):(soT s b).base=s.base:=by cases s <;> cases b <;> rfl
theorem t2 (s:So) (b:Bool):(soT s b).up=s.up:=by cases s <;> cases b <;> rfl
theorem t3 (s:So) (b:Bool):((soT s b).di || b)=(b || s.di):=by cases s <;> cases b <;> rfl
theorem t4 (s:So) (b:Bool):(soT s b).mark false=s.mark b:=by cases s <;> cases b <;> rfl
noncomputable def zeroW (fl:Tx) (w p:Int) (hd dg:Tx):Tx:=(hd++repl (mostW fl w p hd - dg.length) [48])++dg
theorem wf_d {s:AV} {tx nm:AV} {num:Int} {hd dg:Tx} (hl:hd.length≤3) (hd2:dg.length≤100) (w1:-1000≤w) (w2:w≤1000) (p2:p≤1000) :
  Go (n + 1) (c_whole_field.drop 5) [.val s,.val tx,.val (.str fl),.val (.int w),.val (.int p),.val nm,.val (.int num),.val (.str hd),.val (.str dg)] nx (.ok (.ret (.str (zeroW fl w p hd dg)))):=by
 unfold zeroW mostW
 generalize h1:decide (p < 0)=t1
 cases t1 with
 | false =>
  have hp:=Int.not_lt.mp (of_decide_eq_false h1)
  exact g_t (e_cmp rfl rfl rfl) (dlt hp) (g_expr (e_call rfl (ph_room (by lia))) (g_ret (e_bin (e_bin rfl (e_call (el_cons rfl (el_cons (e_bin rfl (e_bi rfl rfl) rfl) rfl)) (ph_filled (by lia) (by lia))) (add_s (by rw [repl_len]; lia))) rfl (add_s (by rw [List.length_append,repl_len]; lia))) rfl))
 | true =>
  have hp:=of_decide_eq_true h1
  refine g_if0 (e_cmp rfl rfl rfl) (dgt (Int.not_le.mpr hp)) ?_
  generalize h2:fl.contains 48=t2
  cases t2 with
  | true=>exact g_ifr (e_cmp rfl rfl rfl) h2 (e_bin (e_bin rfl (e_call (el_cons rfl (el_cons (e_bin (e_bin rfl (e_bi rfl rfl) rfl) (e_bi rfl rfl) rfl) rfl)) (ph_filled (by lia) (by lia))) (add_s (by rw [repl_len]; lia))) rfl (add_s (by rw [List.length_append,repl_len]; lia))) rfl
  | false =>
   refine g_if0 (e_cmp rfl rfl rfl) h2 (g_ret (e_bin rfl rfl (add_s (by lia))) ?_)
   show R.ok (Ctl.ret (AV.str (hd++dg)))=R.ok (Ctl.ret (AV.str ((hd++repl (0 - (dg.length:Int)) [48])++dg)))
   rw [show repl (0 - (dg.length:Int)) [48]=[] by unfold repl; rw [show (0 - (dg.length:Int)).toNat=0 by lia]; rfl,List.append_nil]
theorem wf_c {t s:So} {big:Bool} {tx nm:AV} {num:Int} {hd dg:Tx} (ht:t.mark false=s.mark big) (hl:hd.length≤1) (h:Go (n + 1) (c_whole_field.drop 5) [.val (.str [t.f]),.val tx,.val (.str fl),.val (.int w),.val (.int p),.val nm,.val (.int num),.val (.str (hd++cond (fl.contains 35 && !AV.eqv (.int num) (.int 0)) (s.mark big) [])),.val (.str dg)] nx o) :
  Go (n + 1) (c_whole_field.drop 4) [.val (.str [t.f]),.val tx,.val (.str fl),.val (.int w),.val (.int p),.val nm,.val (.int num),.val (.str hd),.val (.str dg)] nx o:=by
 generalize h1:fl.contains 35=t1 at h
 generalize h2:AV.eqv (.int num) (.int 0)=t2 at h
 cases t1 with
 | false=>exact g_if0 (e_andf (e_cmp rfl rfl rfl) h1) rfl (by rwa [show hd++cond (false && !t2) (s.mark big) []=hd from List.append_nil _] at h)
 | true =>
  cases t2 with
  | true=>exact g_if0 (e_and (e_cmp rfl rfl rfl) h1 (e_andf (e_cmp rfl rfl rfl) (nf h2))) rfl (by rwa [show hd++cond (true && !true) (s.mark big) []=hd from List.append_nil _] at h)
  | false =>
   have l2:=mark_len (s:=s) (big:=big)
   have e:Ph (n + 1) 318 [.str [t.f]]=.ok (.str (s.mark big)):=by rw [← ht]; exact t.f10
   exact g_it (e_and (e_cmp rfl rfl rfl) h1 (e_and (e_cmp rfl rfl rfl) (nt h2) rfl)) rfl (g_asg (e_bin rfl (e_call rfl e) (add_s (by lia))) (g_done rfl)) h
theorem wf_b {t s:So} {z:Sz} {v:Int} {tx:AV} (hv:v.natAbs < 2 ^ 70) (e1:t.base=s.base) (e2:t.up=s.up) (e3:(t.di || z.big)=(z.big || s.di))
  (h:Go (n + 1) (c_whole_field.drop 4) [.val (.str [t.f]),.val tx,.val (.str fl),.val (.int w),.val (.int p),.val (.str z.nm),.val (.int (cutF z.big z.isH v)),.val (.str (hd0 (z.big || s.di) fl (cutF z.big z.isH v))),.val (.str (digW s z.big z.isH v))] nx o) :
  Go (n + 1) (c_whole_field.drop 3) [.val (.str [t.f]),.val tx,.val (.str fl),.val (.int w),.val (.int p),.val (.str z.nm),.val (.int (cutF z.big z.isH v)),.val (.str []),.u] nx o:=by
 have hN:=numW_lt (s:=s) (big:=z.big) (h:=z.isH) hv
 have hc:ev (n + 1) (.or [(.cmp (.v 0) .eq (.c (.str [100]))),(.cmp (.v 5) .eq (.c (.str [98,105,103])))]) [.val (.str [t.f]),.val tx,.val (.str fl),.val (.int w),.val (.int p),.val (.str z.nm),.val (.int (cutF z.big z.isH v)),.val (.str []),.u]=.ok (.bool (z.big || s.di)):=by
  have h7:=t.f7
  have hb:=z.big_n
  rw [← e3]
  generalize t.di=a at h7
  generalize z.big=b at hb
  cases a
  ·cases b
   ·exact e_orf (e_cmp rfl rfl rfl) h7 (e_orf (e_cmp rfl rfl rfl) hb rfl)
   ·exact e_orf (e_cmp rfl rfl rfl) h7 (e_ort (e_cmp rfl rfl rfl) hb)
  ·exact e_ort (e_cmp rfl rfl rfl) h7
 have hdo:Ph (n + 1) 290 [.int (numW s z.big z.isH v),.int t.base,.bool t.up]=.ok (.str (digW s z.big z.isH v)):=by
  rw [e1,e2]
  exact ph_do s.base2 s.base16 hN
 have cb:∀ σ,getV σ 0=.ok (.str [t.f])→ev (n + 1) (.call 164 [.v 0]) σ=.ok (.int t.base):=fun σ hσ=>e_call (el_cons hσ rfl) t.f9
 have cu:∀ σ,getV σ 0=.ok (.str [t.f])→ev (n + 1) (.cmp (.v 0) .eq (.c (.str [88]))) σ=.ok (.bool t.up):=fun σ hσ=>e_cmp hσ rfl (congrArg R.ok t.f6)
 unfold numW at hdo
 generalize hsg:(z.big || s.di)=sg at h hc hdo
 cases sg with
 | false =>
  have h0:=modF_nn (h:=z.isH) (v:=cutF z.big z.isH v)
  rw [show (((cond false (cutF z.big z.isH v).natAbs (modF z.isH (cutF z.big z.isH v)).toNat:Nat):Int))=modF z.isH (cutF z.big z.isH v) from Int.toNat_of_nonneg h0] at hdo
  exact g_ie hc rfl (g_asg (e_call (el_cons (e_call rfl ph_nosign) (el_cons (cb _ rfl) (el_cons (cu _ rfl) rfl))) hdo) (g_done rfl)) h
 | true =>
  have asg:∀ {b:List MS} {σ':Env'},Go (n + 1) b [.val (.str [t.f]),.val tx,.val (.str fl),.val (.int w),.val (.int p),.val (.str z.nm),.val (.int (cutF z.big z.isH v)),.val (.str []),.val (.str (digW s z.big z.isH v))] nx (.ok (.next σ'))→Go (n + 1) (.asg 8 (.call 290 [(.bi .abs [(.v 6)]),(.call 164 [(.v 0)]),(.cmp (.v 0) .eq (.c (.str [88])))])::b) [.val (.str [t.f]),.val tx,.val (.str fl),.val (.int w),.val (.int p),.val (.str z.nm),.val (.int (cutF z.big z.isH v)),.val (.str []),.u] nx (.ok (.next σ')) :=
   fun hb=>g_asg (e_call (el_cons (e_bi rfl rfl) (el_cons (cb _ rfl) (el_cons (cu _ rfl) rfl))) hdo) hb
  unfold hd0 at h
  generalize cutF z.big z.isH v=num at h hc asg
  generalize h1:decide (num < 0)=t1 at h
  cases t1 with
  | true=>exact g_it hc rfl (asg (g_it (e_cmp rfl rfl rfl) h1 (g_asg rfl (g_done rfl)) (g_done rfl))) h
  | false =>
   generalize h2:fl.contains 43=t2 at h
   cases t2 with
   | true=>exact g_it hc rfl (asg (g_ie (e_cmp rfl rfl rfl) h1 (g_it (e_cmp rfl rfl rfl) h2 (g_asg rfl (g_done rfl)) (g_done rfl)) (g_done rfl))) h
   | false =>
    generalize h3:fl.contains 32=t3 at h
    cases t3 with
    | true=>exact g_it hc rfl (asg (g_ie (e_cmp rfl rfl rfl) h1 (g_ie (e_cmp rfl rfl rfl) h2 (g_it (e_cmp rfl rfl rfl) h3 (g_asg rfl (g_done rfl)) (g_done rfl)) (g_done rfl)) (g_done rfl))) h
    | false=>exact g_it hc rfl (asg (g_ie (e_cmp rfl rfl rfl) h1 (g_ie (e_cmp rfl rfl rfl) h2 (g_if0 (e_cmp rfl rfl rfl) h3 (g_done rfl)) (g_done rfl)) (g_done rfl))) h
noncomputable def sUns:Tx:=[117,110,115,105,103,110,101,100,32,98,105,103,110,117,109,32,102,111,114,109,97,116,32,105,115,32,105,110,118,97,108,105,100]
noncomputable def kUns:Tx:=[66,65,68,85,78,83,73,71,78,69,68]
theorem wf_2 {t:So} {tx:AV} (hv:v.natAbs < 2 ^ 70) (w1:-1000≤w) (w2:w≤1000) (p2:p≤1000) (e1:t.base=s.base) (e2:t.up=s.up) (e3:(t.di || z.big)=(z.big || s.di)) (e4:t.mark false=s.mark z.big) :
  Go (n + 1) (c_whole_field.drop 2) [.val (.str [t.f]),.val tx,.val (.str fl),.val (.int w),.val (.int p),.val (.str z.nm),.val (.int (cutF z.big z.isH v)),.u,.u] nx (.ok (.ret (.str (wholeT s z.big z.isH fl w p v)))) :=
 g_asg rfl (wf_b hv e1 e2 e3 (wf_c e4 hd0_len (wf_d (hdW_len (s:=s) (big:=z.big)) (digW_len (s:=s)) w1 w2 p2)))
noncomputable def wholeR (s:So) (z:Sz) (fl:Tx) (w p v:Int):R AV:=cond (s.isU && (z.big && decide (v < 0))) (.exn sUns (fmtCode kUns)) (.ok (.str (wholeT s z.big z.isH fl w p v)))
theorem ph_wfield (q:Bool) (hv:v.natAbs < 2 ^ 70) (w1:-1000≤w) (w2:w≤1000) (p2:p≤1000):Ph (n + 5) 325 [.str [s.f],.str (wrt q v),.str fl,.int w,.int p,.str z.nm]=wholeR s z fl w p v:=by
 have h8:=s.f8
 have hb:=z.big_n
 have W:∀ t:So,t.base=s.base→t.up=s.up→(t.di || z.big)=(z.big || s.di)→t.mark false=s.mark z.big→Go (n + 4) (c_whole_field.drop 2) [.val (.str [t.f]),.val (.str (wrt q v)),.val (.str fl),.val (.int w),.val (.int p),.val (.str z.nm),.val (.int (cutF z.big z.isH v)),.u,.u] nx (.ok (.ret (.str (wholeT s z.big z.isH fl w p v)))) :=
  fun t=>wf_2 hv w1 w2 p2
 have num:ev (n + 4) (.call 304 [(.call 87 [(.v 1)]),(.v 5)]) [.val (.str [s.f]),.val (.str (wrt q v)),.val (.str fl),.val (.int w),.val (.int p),.val (.str z.nm),.u,.u,.u]=.ok (.int (cutF z.big z.isH v)):=e_call (el_cons (e_call rfl (ph_need (Nat.lt_trans hv (by decide)) q)) rfl) ph_cut
 have T3:=t3 s z.big
 have T4:=t4 s z.big
 unfold wholeR
 unfold soT at T3 T4
 have W2:=W .d
 generalize hu:s.isU=u at h8 T3 T4
 have W1:=W s rfl rfl
 cases u with
 | false=>exact call_o (d:=d_whole_field) [.val (.str [s.f]),.val (.str (wrt q v)),.val (.str fl),.val (.int w),.val (.int p),.val (.str z.nm),.u,.u,.u] rfl rfl rfl (g_asg num (g_if0 (e_andf (e_cmp rfl rfl rfl) h8) rfl (W1 T3 T4))) rfl
 | true =>
  generalize hz:z.big=b at *
  cases b with
  | false=>exact call_o (d:=d_whole_field) [.val (.str [s.f]),.val (.str (wrt q v)),.val (.str fl),.val (.int w),.val (.int p),.val (.str z.nm),.u,.u,.u] rfl rfl rfl (g_asg num (g_if0 (e_and (e_cmp rfl rfl rfl) h8 (e_andf (e_cmp rfl rfl rfl) hb)) rfl (W1 T3 T4))) rfl
  | true =>
   have hc:∀ {σ:Env'},getV σ 0=.ok (.str [s.f])→getV σ 5=.ok (.str z.nm)→ev (n + 4) (.and [(.cmp (.v 0) .eq (.c (.str [117]))),(.cmp (.v 5) .eq (.c (.str [98,105,103])))]) σ=.ok (.bool true):=fun h0 h5=>e_and (e_cmp h0 rfl rfl) h8 (e_and (e_cmp h5 rfl rfl) hb rfl)
   generalize hn:decide (v < 0)=m
   cases m with
   | true=>exact call_o (d:=d_whole_field) [.val (.str [s.f]),.val (.str (wrt q v)),.val (.str fl),.val (.int w),.val (.int p),.val (.str z.nm),.u,.u,.u] rfl rfl rfl (g_asg num (g_t (hc rfl rfl) rfl (g_t (e_cmp rfl rfl rfl) hn (g_raise rfl rfl)))) rfl
   | false =>
    have E:s.base=10∧s.up=false:=by cases s <;> first | exact ⟨rfl,rfl⟩ | cases hu
    exact call_o (d:=d_whole_field) [.val (.str [s.f]),.val (.str (wrt q v)),.val (.str fl),.val (.int w),.val (.int p),.val (.str z.nm),.u,.u,.u] rfl rfl rfl (g_asg num (g_it (hc rfl rfl) rfl (g_if0 (e_cmp rfl rfl rfl) hn (g_asg rfl (g_done rfl))) (W2 E.1.symm E.2.symm T3 T4))) rfl
end
end Mine
end
section
set_option tactic.hygienic false
open PySem
namespace Mine
inductive Fi
 | w (k:So) (q:Bool) (v:Int)
 | s (t:Tx)
 | c (v:Int)
namespace Fi
noncomputable def sort:Fi→Nat
 | .w k _ _=>k.c | .s _=>115 | .c _=>99
noncomputable def text:Fi→Tx
 | .w _ q v=>wrt q v | .s t=>t | .c v=>wrt false v
noncomputable def val:Fi→AV
 | .w _ _ v=>.int v | .s t=>.str t | .c v=>.int v
def Ok:Fi→Prop
 | .w _ _ v=>v.natAbs < 2 ^ 70 | .s t=>t.length≤100 | .c v=>-2147483648≤v∧v < 4294967296
end Fi
noncomputable def padT (fl:Tx) (c:Nat) (w:Int) (m:Tx):Tx:=cond (fl.contains 45) (m++repl (w - m.length) [c]) (repl (w - m.length) [c]++m)
noncomputable def fill0 (fl:Tx):Nat:=cond (fl.contains 48) 48 32
noncomputable def madeO (x:Fi) (z:Sz) (fl:Tx) (w p:Int):Option Tx:=match x with
 | .w s _ v=>cond (s.isU && (z.big && decide (v < 0))) none (some (padT fl (cond (decide (0≤p)) 32 (fill0 fl)) w (wholeT s z.big z.isH fl w p v)))
 | .s t=>some (padT fl (fill0 fl) w (cond (decide (p < 0)) t (t.take p.toNat)))
 | .c v=>some (padT fl (fill0 fl) w (cond (decide (0≤v) && decide (v < 1114112)) [v.toNat] [65533]))
noncomputable def optS (o:Option Tx):AV:=match o with
 | some t=>.str t
 | none=>.none
noncomputable def optR (o:Option Tx):R AV:=match o with
 | some t=>.ok (.str t)
 | none=>.exn sUns (fmtCode kUns)
section
variable {n:Nat} {s:So} {z:Sz} {fl m:Tx} {w p v:Int} {o:Out} {c:Nat} {σ:Env'} {a0 a1 a4 a5:AV} {s8:SV}
theorem ev_fill (h:getV σ 2=.ok (.str fl)):ev n (.ite (.cmp (.c (.str [48])) .isin (.v 2)) (.c (.str [48])) (.c (.str [32]))) σ=.ok (.str [fill0 fl]):=by
 unfold fill0
 generalize h1:fl.contains 48=t
 cases t with
 | true=>exact e_t (e_cmp rfl h rfl) h1 rfl
 | false=>exact e_f (e_cmp rfl h rfl) h1 rfl
theorem wholeT_len {b h:Bool} (w2:w≤1000) (p2:p≤1000):(wholeT s b h fl w p v).length≤1200:=by
 unfold wholeT
 rw [List.length_append,List.length_append,repl_len]
 have h1:=hdW_len (s:=s) (big:=b) (fl:=fl) (v:=cutF b h v)
 have h2:=digW_len (s:=s) (big:=b) (h:=h) (v:=v)
 have h3:mostW fl w p (hdW s b fl (cutF b h v))≤1000:=by
  unfold mostW
  cases decide (p < 0)
  ·exact p2
  ·cases fl.contains 48
   ·exact (by decide:(0:Int)≤1000)
   ·show w - _≤(1000:Int)
    lia
 lia
theorem lm_t (hm:m.length≤1200) (w1:-1000≤w) (w2:w≤1000):Go n (c_law_made.drop 2) [.val a0,.val a1,.val (.str fl),.val (.int w),.val a4,.val a5,.val (.str [c]),.val (.str m),.u] nx (.ok (.ret (.str (padT fl c w m)))):=by
 unfold padT
 refine g_asg (e_bin rfl (e_bin rfl (e_bi rfl rfl) rfl) (mul_s (by lia) (by lia))) ?_
 generalize h1:fl.contains 45=t
 cases t with
 | true=>exact g_ret (e_t (e_cmp rfl rfl rfl) h1 (e_bin rfl rfl (add_s (by rw [repl_len]; lia)))) rfl
 | false=>exact g_ret (e_f (e_cmp rfl rfl rfl) h1 (e_bin rfl rfl (add_s (by rw [repl_len]; lia)))) rfl
theorem fo_t (hm:m.length≤1200) (w1:-1000≤w) (w2:w≤1000):Go (n + 1) (c_field_of.drop 3) [.val a0,.val a1,.val (.str fl),.val (.int w),.val a4,.val a5,.val (.str [c]),.val (.str m),s8,.u] nx (.ok (.ret (.str (padT fl c w m)))):=by
 unfold padT
 refine g_asg (e_call (el_cons rfl (el_cons (e_bin rfl (e_bi rfl rfl) rfl) rfl)) (ph_filled (by lia) (by lia))) ?_
 generalize h1:fl.contains 45=t
 cases t with
 | true=>exact g_ret (e_t (e_cmp rfl rfl rfl) h1 (e_bin rfl rfl (add_s (by rw [repl_len]; lia)))) rfl
 | false=>exact g_ret (e_f (e_cmp rfl rfl rfl) h1 (e_bin rfl rfl (add_s (by rw [repl_len]; lia)))) rfl
theorem ev_cut (t:Tx) (h1:getV σ 1=.ok (.str t)) (h4:getV σ 4=.ok (.int p)):ev n (.ite (.cmp (.v 4) .lt (.c (.int 0))) (.v 1) (.sl (.v 1) none (some (.v 4)))) σ=.ok (.str (cond (decide (p < 0)) t (t.take p.toNat))):=by
 generalize h:decide (p < 0)=u
 cases u with
 | true=>exact e_t (e_cmp h4 rfl rfl) h h1
 | false=>exact e_f (e_cmp h4 rfl rfl) h (e_sl h1 rfl (bd h4 rfl) (limT (dlt (Int.not_lt.mp (of_decide_eq_false h)))))
theorem cut_len {t:Tx} (h:t.length≤100):(cond (decide (p < 0)) t (t.take p.toNat)).length≤1200:=by
 cases decide (p < 0)
 ·exact Nat.le_trans (List.length_take_le' _ _) (Nat.le_trans h (by decide))
 ·exact Nat.le_trans h (by decide)
theorem g_asgx {i:Nat} {e:ME} {r:List MS} {f:Env'→Out} {t:Tx} {cc:List AV} (h1:ev n e σ=.exn t cc):Go n (.asg i e::r) σ f (.exn t cc):=by
 rw [go_cons]
 refine congrArg (fun q=>seqO q _) (?_:R.bind _ _=.exn t cc)
 rw [show evE (Ph n) e σ=_ from h1]
 rfl
theorem e_callr {g:Nat} {l:List ME} {vs:List AV} {q:R AV} (h1:evl n l σ=.ok vs) (h2:Ph n g vs=q):ev n (.call g l) σ=q:=bd h1 h2
theorem So.n1 (s:So):AV.eqv (.str [s.c]) (.str [115])=false:=by cases s <;> rfl
theorem So.n2 (s:So):AV.eqv (.str [s.c]) (.str [99])=false:=by cases s <;> rfl
theorem So.n3 (s:So):AV.eqv (.str [s.c]) (.str [117])=s.isU:=by cases s <;> rfl
theorem So.n4 (s:So):cmpop .isin (.str [s.c]) (.tup [.str [],.str [0]])=.ok false:=by cases s <;> rfl
theorem So.n5 (s:So):cmpop .isin (.str [s.c]) (.tup [.str [100],.str [105],.str [117],.str [111],.str [120],.str [88],.str [98]])=.ok true:=by cases s <;> rfl
theorem ev_fill2 (h4:getV σ 4=.ok (.int p)) (h6:getV σ 6=.ok (.str [c])):ev n (.ite (.cmp (.v 4) .ge (.c (.int 0))) (.c (.str [32])) (.v 6)) σ=.ok (.str [cond (decide (0≤p)) 32 c]):=by
 generalize h:decide (0≤p)=u
 cases u with
 | true=>exact e_t (e_cmp h4 rfl rfl) h rfl
 | false=>exact e_f (e_cmp h4 rfl rfl) h h6
theorem chr_of (h:(decide (0≤v) && decide (v < 1114112))=true):biop .chr [.int v]=.ok (.str [v.toNat]) :=
 limT (andT (and2 h).1 (dlt (Int.le_of_lt_add_one (of_decide_eq_true (and2 h).2))))
theorem cc_len {u:Bool} {a b:Nat}:(cond u [a] [b]).length≤1200:=by cases u <;> exact Nat.le_of_ble_eq_true rfl
theorem ph_made {x:Fi} (hx:x.Ok) (w1:-1000≤w) (w2:w≤1000) (p2:p≤1000):Ph (n + 3) 415 [.str [x.sort],x.val,.str fl,.int w,.int p,.str z.s]=.ok (optS (madeO x z fl w p)):=by
 cases x with
 | s t=>exact call_s (d:=d_law_made) [.val (.str [115]),.val (.str t),.val (.str fl),.val (.int w),.val (.int p),.val (.str z.s),.u,.u,.u] rfl rfl rfl (g_asg (ev_fill rfl) (g_it (e_cmp rfl rfl rfl) rfl (g_asg (ev_cut t rfl rfl) (g_done rfl)) (lm_t (cut_len hx) w1 w2)))
 | c v =>
  have hc:ev (n + 2) (.ite (.cmp2 (.c (.int 0)) .le (.v 1) .lt (.bin .mul (.c (.int 17)) (.bin .pow (.c (.int 2)) (.c (.int 16))))) (.bi .chr [(.v 1)]) (.c (.str [65533]))) [.val (.str [99]),.val (.int v),.val (.str fl),.val (.int w),.val (.int p),.val (.str z.s),.val (.str [fill0 fl]),.u,.u]=.ok (.str (cond (decide (0≤v) && decide (v < 1114112)) [v.toNat] [65533])):=by
   generalize h:(decide (0≤v) && decide (v < 1114112))=u
   cases u with
   | true=>exact e_t (e_c2 rfl rfl rfl rfl rfl) h (e_bi rfl (chr_of h))
   | false=>exact e_f (e_c2 rfl rfl rfl rfl rfl) h rfl
  have hl:(cond (decide (0≤v) && decide (v < 1114112)) [v.toNat] [65533]).length≤1200:=cc_len
  exact call_s (d:=d_law_made) [.val (.str [99]),.val (.int v),.val (.str fl),.val (.int w),.val (.int p),.val (.str z.s),.u,.u,.u] rfl rfl rfl (g_asg (ev_fill rfl) (g_ie (e_cmp rfl rfl rfl) rfl (g_it (e_cmp rfl rfl rfl) rfl (g_asg hc (g_done rfl)) (g_done rfl)) (lm_t hl w1 w2)))
 | w s q v =>
  have h3:=s.n3
  have hz:=z.big_s
  have fin:Go (n + 2) [.asg 7 (.call 408 [(.v 0),(.v 1),(.v 2),(.v 3),(.v 4),(.v 5)]),.asg 6 (.ite (.cmp (.v 4) .ge (.c (.int 0))) (.c (.str [32])) (.v 6))] [.val (.str [s.c]),.val (.int v),.val (.str fl),.val (.int w),.val (.int p),.val (.str z.s),.val (.str [fill0 fl]),.u,.u] nx
    (.ok (.next [.val (.str [s.c]),.val (.int v),.val (.str fl),.val (.int w),.val (.int p),.val (.str z.s),.val (.str [cond (decide (0≤p)) 32 (fill0 fl)]),.val (.str (wholeT s z.big z.isH fl w p v)),.u])) :=
   g_asg (e_call rfl (ph_lwhole hx w1 w2 p2)) (g_asg (ev_fill2 rfl rfl) (g_done rfl))
  have tail:=lm_t (n:=n + 2) (a0:=.str [s.c]) (a1:=.int v) (a4:=.int p) (a5:=.str z.s) (fl:=fl) (c:=cond (decide (0≤p)) 32 (fill0 fl)) (wholeT_len (s:=s) (b:=z.big) (h:=z.isH) (v:=v) (fl:=fl) w2 p2) w1 w2
  have start:∀ {o:Out} {r:R AV},back o=r→Go (n + 2) (c_law_made.drop 1) [.val (.str [s.c]),.val (.int v),.val (.str fl),.val (.int w),.val (.int p),.val (.str z.s),.val (.str [fill0 fl]),.u,.u] nx o→Ph (n + 3) 415 [.str [s.c],.int v,.str fl,.int w,.int p,.str z.s]=r :=
   fun {o r} hb h=>call_o (d:=d_law_made) [.val (.str [s.c]),.val (.int v),.val (.str fl),.val (.int w),.val (.int p),.val (.str z.s),.u,.u,.u] rfl rfl rfl (g_asg (ev_fill rfl) h) hb
  show _=R.ok (optS (cond (s.isU && (z.big && decide (v < 0))) none (some _)))
  generalize s.isU=u at h3 ⊢
  cases u with
  | false=>exact start rfl (g_ie (e_cmp rfl rfl rfl) s.n1 (g_ie (e_cmp rfl rfl rfl) s.n2 (g_if0 (e_andf (e_cmp rfl rfl rfl) h3) rfl fin) (g_done rfl)) tail)
  | true =>
   generalize hb:z.big=b at hz fin tail
   cases b with
   | false=>exact start rfl (g_ie (e_cmp rfl rfl rfl) s.n1 (g_ie (e_cmp rfl rfl rfl) s.n2 (g_if0 (e_and (e_cmp rfl rfl rfl) h3 (e_andf (e_cmp rfl rfl hz) rfl)) rfl fin) (g_done rfl)) tail)
   | true =>
    generalize hn:decide (v < 0)=m
    cases m with
    | false=>exact start rfl (g_ie (e_cmp rfl rfl rfl) s.n1 (g_ie (e_cmp rfl rfl rfl) s.n2 (g_if0 (e_and (e_cmp rfl rfl rfl) h3 (e_and (e_cmp rfl rfl hz) rfl (e_andf (e_cmp rfl rfl rfl) hn))) rfl fin) (g_done rfl)) tail)
    | true=>exact start (o:=.ok (.ret .none)) rfl (g_f (e_cmp rfl rfl rfl) s.n1 (g_f (e_cmp rfl rfl rfl) s.n2 (g_ifr (e_and (e_cmp rfl rfl rfl) h3 (e_and (e_cmp rfl rfl hz) rfl (e_and (e_cmp rfl rfl rfl) hn rfl))) rfl rfl rfl)))
end
end Mine
end
section
set_option tactic.hygienic false
open PySem
namespace Mine
section
variable {n:Nat} {s:So} {z:Sz} {fl:Tx} {w p v:Int} {o:Out} {c:Nat} {σ:Env'}
theorem ev_f (h:getV σ 0=.ok (.str [s.c])):ev n (.ite (.cmp (.v 0) .eq (.c (.str [105]))) (.c (.str [100])) (.v 0)) σ=.ok (.str [s.f]):=by
 cases s
 case i=>exact e_t (e_cmp h rfl rfl) rfl rfl
 all_goals exact e_f (e_cmp h rfl rfl) rfl h
theorem chr_of2 (h:(decide (0≤v) && decide (v≤1114111))=true):biop .chr [.int v]=.ok (.str [v.toNat]):=limT h
theorem ph_field {x:Fi} (hx:x.Ok) (w1:-1000≤w) (w2:w≤1000) (p2:p≤1000):Ph (n + 6) 332 [.str [x.sort],.str x.text,.str fl,.int w,.int p,.str z.nm]=optR (madeO x z fl w p):=by
 cases x with
 | s t=>exact call_o (d:=d_field_of) [.val (.str [115]),.val (.str t),.val (.str fl),.val (.int w),.val (.int p),.val (.str z.nm),.u,.u,.u,.u] rfl rfl rfl (g_asg (ev_fill rfl) (g_if0 (e_cmp rfl rfl rfl) rfl (g_it (e_cmp rfl rfl rfl) rfl (g_asg (ev_cut t rfl rfl) (g_done rfl)) (fo_t (cut_len hx) w1 w2)))) rfl
 | c v =>
  have hc:ev (n + 5) (.ite (.cmp2 (.c (.int 0)) .le (.v 8) .le (.c (.int 1114111))) (.bi .chr [(.v 8)]) (.bi .chr [(.c (.int 65533))])) [.val (.str [99]),.val (.str (wrt false v)),.val (.str fl),.val (.int w),.val (.int p),.val (.str z.nm),.val (.str [fill0 fl]),.u,.val (.int v),.u]=.ok (.str (cond (decide (0≤v) && decide (v < 1114112)) [v.toNat] [65533])):=by
   have e:decide (v < 1114112)=decide (v≤1114111):=decide_eq_decide.mpr (Int.lt_add_one_iff (b:=1114111))
   rw [e]
   generalize h:(decide (0≤v) && decide (v≤1114111))=u
   cases u with
   | true=>exact e_t (e_c2 rfl rfl rfl rfl rfl) h (e_bi rfl (chr_of2 h))
   | false=>exact e_f (e_c2 rfl rfl rfl rfl rfl) h (e_bi rfl rfl)
  exact call_o (d:=d_field_of) [.val (.str [99]),.val (.str (wrt false v)),.val (.str fl),.val (.int w),.val (.int p),.val (.str z.nm),.u,.u,.u,.u] rfl rfl rfl (g_asg (ev_fill rfl) (g_if0 (e_cmp rfl rfl rfl) rfl (g_ie (e_cmp rfl rfl rfl) rfl (g_it (e_cmp rfl rfl rfl) rfl (g_asg (e_call rfl (ph_nint hx.1 hx.2 false)) (g_asg hc (g_done rfl))) (g_done rfl)) (fo_t cc_len w1 w2)))) rfl
 | w s q v =>
  have hw:=ph_wfield (n:=n) (s:=s) (z:=z) (fl:=fl) q hx w1 w2 p2
  unfold wholeR at hw
  show _=optR (cond (s.isU && (z.big && decide (v < 0))) none (some _))
  have start:∀ {o:Out} {r:R AV},back o=r→Go (n + 5) (c_field_of.drop 1) [.val (.str [s.c]),.val (.str (wrt q v)),.val (.str fl),.val (.int w),.val (.int p),.val (.str z.nm),.val (.str [fill0 fl]),.u,.u,.u] nx o→Ph (n + 6) 332 [.str [s.c],.str (wrt q v),.str fl,.int w,.int p,.str z.nm]=r :=
   fun {o r} hb h=>call_o (d:=d_field_of) [.val (.str [s.c]),.val (.str (wrt q v)),.val (.str fl),.val (.int w),.val (.int p),.val (.str z.nm),.u,.u,.u,.u] rfl rfl rfl (g_asg (ev_fill rfl) h) hb
  have tail:=fo_t (n:=n + 4) (a0:=.str [s.c]) (a1:=.str (wrt q v)) (a4:=.int p) (a5:=.str z.nm) (s8:=.u) (fl:=fl) (c:=cond (decide (0≤p)) 32 (fill0 fl)) (wholeT_len (s:=s) (b:=z.big) (h:=z.isH) (v:=v) (fl:=fl) w2 p2) w1 w2
  generalize (s.isU && (z.big && decide (v < 0)))=u at hw ⊢
  cases u with
  | true=>exact start (o:=.exn sUns (fmtCode kUns)) rfl (g_if0 (e_cmp rfl rfl s.n4) rfl (g_f (e_cmp rfl rfl rfl) s.n1 (g_f (e_cmp rfl rfl rfl) s.n2 (g_t (e_cmp rfl rfl s.n5) rfl (g_asgx (e_callr (el_cons (ev_f rfl) rfl) hw))))))
  | false =>
   refine start rfl (g_if0 (e_cmp rfl rfl s.n4) rfl (g_ie (e_cmp rfl rfl rfl) s.n1 (g_ie (e_cmp rfl rfl rfl) s.n2 (g_it (e_cmp rfl rfl s.n5) rfl (g_asg (e_call (el_cons (ev_f rfl) rfl) hw) ?_) (g_done rfl)) (g_done rfl)) tail))
   generalize h:decide (0≤p)=u
   cases u with
   | true=>exact g_it (e_cmp rfl rfl rfl) h (g_asg rfl (g_done rfl)) (g_done rfl)
   | false=>exact g_if0 (e_cmp rfl rfl rfl) h (g_done rfl)
end
end Mine
end
section
set_option tactic.hygienic false
open PySem
namespace Mine
section
variable {α:Type} {l r:List α} {i:Nat} {x:α}
theorem l_lt (h:l.drop i=x::r):i < l.length:=by
 have:=congrArg List.length h
 rw [List.length_drop,List.length_cons] at this
 omega
theorem l_get (h:l.drop i=x::r):l[i]?=some x:=by
 have:=congrArg (·[0]?) h
 rw [List.getElem?_drop] at this
 exact this
theorem l_next (h:l.drop i=x::r):l.drop (i + 1)=r:=by
 rw [← List.drop_drop,h]
 rfl
theorem ixl {l:List AV} {v:AV} (h:l[i]?=some v):idxop (.lst l) (.int i)=.ok v:=by
 show oO _ _=_
 rw [pick_at h]
 rfl
end
section
variable {n:Nat} {f r x y:Tx} {a b c i m:Nat} {q:Bool} {z:Sz} {args:List AV} {v w:Int}
theorem ph_word (h:i < m):Ph (n + 1) 283 [.int i,.int m,.bool q]=.ok .none :=
 call_o (d:=d_need_word) [.val (.int i),.val (.int m),.val (.bool q)] rfl rfl rfl (g_ifr (e_c2 rfl rfl rfl rfl rfl) (andT (dlt (Int.natCast_nonneg i)) (dlt (Int.ofNat_lt.mpr h))) rfl rfl) rfl
noncomputable def isFl (c:Nat):Bool:=[45,43,32,48,35].any fun k=>[k] == [c]
theorem go_fl (h0:f.drop a=y++c::r) (hc:isFl c=false) (hb:a + y.length=b):∀ {x:Tx} {d:Nat},f.drop d=x++c::r→(∀ k ∈ x,isFl k=true)→d + x.length=b→Go (n + 1) (c_read_flags.drop 1) [.val (.str f),.val (.int a),.val (.int d)] nx (.ok (.ret (.tup [.str y,.int b])))
 | [],d,h,_,hd=>by
  obtain rfl:d=b:=hd
  exact g_wf (e_cmp (e_call rfl (ph_sign h)) rfl rfl) hc (g_ret (e_tup (el_cons (e_sl rfl rfl rfl (slop_mid h0 hb)) rfl) rfl) rfl)
 | k::x,d,h,hx,hd=>g_wt (e_cmp (e_call rfl (ph_sign h)) rfl rfl) (hx k (.head _)) (g_evs (g_aug rfl rfl (g_done rfl))) rfl (go_fl h0 hc hb (x:=x) (d:=d + 1) (at_next h) (fun k hk=>hx k (.tail _ hk)) (up hd))
theorem ph_flags (h:f.drop a=y++c::r) (hy:∀ k ∈ y,isFl k=true) (hc:isFl c=false) (hb:a + y.length=b):Ph (n + 2) 339 [.str f,.int a]=.ok (.tup [.str y,.int b]) :=
 call_s (d:=d_read_flags) [.val (.str f),.val (.int a),.u] rfl rfl rfl (g_asg rfl (go_fl h hc hb h hy hb))
inductive Me
 | no
 | num (k:Nat)
 | star (v:Int)
namespace Me
noncomputable def t:Me→Tx
 | .no=>[] | .num k=>dgS false 10 k | .star _=>[42]
noncomputable def ws:Me→List AV
 | .star v=>[.str (wrt false v)] | _=>[]
noncomputable def av:Me→AV
 | .no=>.none | .num k=>.int k | .star v=>.int v
def Ok:Me→Prop
 | .no=>True | .num k=>k < 1000 | .star v=>-1000≤v∧v≤1000
end Me
theorem d42 {k:Nat} (h:isD 10 k=true):AV.eqv (.str [k]) (.str [42])=false:=ne1 fun e=>by
 subst e
 exact Bool.false_ne_true ((show false=isD 10 42 by decide +kernel).trans h)
theorem ph_me {me:Me} {xs:List AV} {u:AV} (hm:me.Ok) (h:f.drop a=me.t++c::r) (hc:isD 10 c=false) (hc2:c≠42) (ha:args.drop i=me.ws++u::xs):Ph (n + 6) 346 [.str f,.int a,.lst args,.int i,.bool q]=.ok (.tup [me.av,.int (i + me.ws.length:Nat),.int (a + me.t.length:Nat)]):=by
 cases me with
 | no=>exact call_s (d:=d_read_measure) [.val (.str f),.val (.int a),.val (.lst args),.val (.int i),.val (.bool q),.u,.u] rfl rfl rfl (g_if0 (e_cmp (e_call rfl (ph_sign h)) rfl rfl) (ne1 hc2) (g_asgT (e_call rfl (ph_digits0 h (Nat.le_of_lt (at_lt h)) (.inr ⟨_,_,rfl,hc⟩))) (fun F=>rfl) (g_ret (e_tup (el_cons (e_t (e_cmp rfl rfl rfl) rfl rfl) rfl) rfl) rfl)))
 | num k =>
  have hk:=hm
  have h0:=dgS_ne false 10 k
  have hD:∀ d ∈ dgS false 10 k,isD 10 d=true:=dgS_D (b:=10) (by decide) (by decide)
  have hv:dv 10 (dgS false 10 k)=(k:Int):=dv_dgS (b:=10) (by decide) (by decide) false (Nat.lt_trans hk (by decide))
  have hp:=ph_digits (n:=n + 2) (a:=a) (x:=dgS false 10 k) h (Nat.le_of_not_lt fun q=>by rw [List.drop_eq_nil_of_le (Nat.le_of_lt q)] at h; exact h0 (List.append_eq_nil_iff.mp h.symm).1) h0 hD (.inr ⟨_,_,rfl,hc⟩) rfl
  rw [hv] at hp
  have hs:Ph (n + 5) 122 [.str f,.int a]=.ok (.str [(dgS false 10 k).head h0]):=ph_sign (r:=(dgS false 10 k).tail++c::r) (by rw [← List.cons_append,List.cons_head_tail]; exact h)
  exact call_s (d:=d_read_measure) [.val (.str f),.val (.int a),.val (.lst args),.val (.int i),.val (.bool q),.u,.u] rfl rfl rfl (g_if0 (e_cmp (e_call rfl hs) rfl rfl) (d42 (hD _ (List.head_mem h0))) (g_asgT (e_call rfl hp) (fun F=>rfl) (g_ret (e_tup (el_cons (e_f (e_cmp rfl rfl rfl) (dgt (Int.not_lt.mpr (Int.natCast_nonneg k))) rfl) rfl) rfl) rfl)))
 | star v =>
  have hv:=hm
  exact call_s (d:=d_read_measure) [.val (.str f),.val (.int a),.val (.lst args),.val (.int i),.val (.bool q),.u,.u] rfl rfl rfl (g_t (e_cmp (e_call rfl (ph_sign h)) rfl rfl) rfl (g_expr (e_call (el_cons rfl (el_cons (e_bi rfl rfl) rfl)) (ph_word (i:=i + 1) (l_lt (l_next ha)))) (g_ret (e_tup (el_cons (e_call (el_cons (e_idx rfl rfl (ixl (l_get ha))) rfl) (ph_nint (Int.le_trans (by decide) hv.1) (Int.lt_of_le_of_lt hv.2 (by decide)) false)) rfl) rfl) rfl)))
structure NoSz (c:Nat):Prop where
 l:AV.eqv (.str [c]) (.str [108])=false
 L:AV.eqv (.str [c]) (.str [76])=false
 m:cmpop .isin (.str [c]) (.tup [.str [108],.str [106],.str [113],.str [122],.str [116]])=.ok false
 h:AV.eqv (.str [c]) (.str [104])=false
theorem ph_size (h:f.drop a=z.s++c::r) (hc:NoSz c):Ph (n + 2) 157 [.str f,.int a]=.ok (.tup [.str z.nm,.int (a + z.s.length:Nat)]):=by
 cases z
 case e=>exact call_s (d:=d_read_size) [.val (.str f),.val (.int a),.u] rfl rfl rfl (g_asg (e_call rfl (ph_sign h)) (g_if0 (e_andf (e_cmp rfl rfl rfl) hc.l) rfl (g_if0 (e_cmp rfl rfl rfl) hc.L (g_if0 (e_cmp rfl rfl hc.m) rfl (g_if0 (e_cmp rfl rfl rfl) hc.h (g_ret rfl rfl))))))
 case l=>exact call_s (d:=d_read_size) [.val (.str f),.val (.int a),.u] rfl rfl rfl (g_asg (e_call rfl (ph_sign h)) (g_if0 (e_and (e_cmp rfl rfl rfl) rfl (e_andf (e_cmp (e_call rfl (ph_sign (at_next h))) rfl rfl) hc.l)) rfl (g_if0 (e_cmp rfl rfl rfl) rfl (g_ifr (e_cmp rfl rfl rfl) rfl rfl rfl))))
 case ll=>exact call_s (d:=d_read_size) [.val (.str f),.val (.int a),.u] rfl rfl rfl (g_asg (e_call rfl (ph_sign h)) (g_ifr (e_and (e_cmp rfl rfl rfl) rfl (e_and (e_cmp (e_call rfl (ph_sign (at_next h))) rfl rfl) rfl rfl)) rfl rfl rfl))
 case L=>exact call_s (d:=d_read_size) [.val (.str f),.val (.int a),.u] rfl rfl rfl (g_asg (e_call rfl (ph_sign h)) (g_if0 (e_andf (e_cmp rfl rfl rfl) rfl) rfl (g_ifr (e_cmp rfl rfl rfl) rfl rfl rfl)))
 case h=>exact call_s (d:=d_read_size) [.val (.str f),.val (.int a),.u] rfl rfl rfl (g_asg (e_call rfl (ph_sign h)) (g_if0 (e_andf (e_cmp rfl rfl rfl) rfl) rfl (g_if0 (e_cmp rfl rfl rfl) rfl (g_if0 (e_cmp rfl rfl rfl) rfl (g_ifr (e_cmp rfl rfl rfl) rfl rfl rfl)))))
 all_goals exact call_s (d:=d_read_size) [.val (.str f),.val (.int a),.u] rfl rfl rfl (g_asg (e_call rfl (ph_sign h)) (g_if0 (e_andf (e_cmp rfl rfl rfl) rfl) rfl (g_if0 (e_cmp rfl rfl rfl) rfl (g_ifr (e_cmp rfl rfl rfl) rfl rfl rfl))))
end
end Mine
end
section
set_option tactic.hygienic false
open PySem
namespace Mine
inductive Pr
 | no
 | dot (me:Me)
namespace Pr
noncomputable def t:Pr→Tx
 | .no=>[] | .dot me=>46::me.t
noncomputable def ws:Pr→List AV
 | .no=>[] | .dot me=>me.ws
noncomputable def v:Pr→Int
 | .no=>-1 | .dot .no=>0 | .dot (.num k)=>k | .dot (.star v)=>max v 0
def Ok:Pr→Prop
 | .no=>True | .dot me=>me.Ok
end Pr
noncomputable def Me.v:Me→Int
 | .no=>0 | .num k=>k | .star v=>v
structure Pl (c:Nat):Prop where
 d:isD 10 c=false
 s:c≠42
 f:isFl c=false
 p:AV.eqv (.str [c]) (.str [46])=false
theorem Sz.head (z:Sz) {c:Nat} (h:Pl c) (r:Tx):∃ c2 r2,z.s++c::r=c2::r2∧Pl c2:=by
 cases z
 case e=>exact ⟨c,r,rfl,h⟩
 all_goals exact ⟨_,_,rfl,by decide +kernel,by decide,by decide +kernel,rfl⟩
theorem Me.head:∀ k,k < 14→k≠0→(match dgS false 10 k with | c::_=>isFl c=false | []=>False):=by
 have:∀ k,k < 14→k≠0→(match dgS false 10 k with | c::_=>!isFl c | []=>false)=true:=by decide +kernel
 intro k h h0
 have:=this k h h0
 cases hk:dgS false 10 k with
 | nil=>rw [hk] at this; cases this
 | cons c r=>rw [hk] at this; exact (Bool.not_eq_true' _).mp this
def Me.OkW:Me→Prop
 | .num k=>k < 14∧k≠0 | m=>m.Ok
theorem Me.OkW.ok {m:Me} (h:m.OkW):m.Ok:=match m,h with
 | .no,h=>h
 | .num k,h=>Nat.lt_trans h.1 (by decide)
 | .star v,h=>h
theorem Me.OkW.head {m:Me} (h:m.OkW) {c:Nat} {r:Tx} (hc:isFl c=false):∃ c2 r2,m.t++c::r=c2::r2∧isFl c2=false:=match m,h with
 | .no,_=>⟨c,r,rfl,hc⟩
 | .star v,_=>⟨42,c::r,rfl,by decide +kernel⟩
 | .num k,h=>by
  have:=Me.head k h.1 h.2
  show ∃ c2 r2,dgS false 10 k++_=_∧_
  cases hk:dgS false 10 k with
  | nil=>rw [hk] at this; exact this.elim
  | cons d x=>rw [hk] at this; exact ⟨d,x++c::r,rfl,this⟩
section
variable {n:Nat} {f r fl:Tx} {a b c i:Nat} {q:Bool} {z:Sz} {args xs:List AV} {x:Fi} {w p:Int} {pr:Pr} {me:Me} {o:Out}
theorem d_app {α:Type} {l x r:List α} {a:Nat} (h:l.drop a=x++r):l.drop (a + x.length)=r:=by
 rw [← List.drop_drop,h]
 exact List.drop_left
theorem d_lt {α:Type} {l x r:List α} {u:α} {a:Nat} (h:l.drop a=x++u::r):a < l.length:=by
 have:=congrArg List.length h
 rw [List.length_drop,List.length_append,List.length_cons] at this
 lia
theorem max_small {v:Int} (h:v≤1000):max v 0≤1000:=by lia
theorem Pr.Ok.le {p:Pr} (h:p.Ok):p.v≤1000:=match p,h with
 | .no,_=>(by decide:(-1:Int)≤1000)
 | .dot .no,_=>(by decide:(0:Int)≤1000)
 | .dot (.num k),h=>Int.ofNat_le.mpr (Nat.le_of_lt h)
 | .dot (.star v),h=>max_small h.2
theorem pf_3 {s7 s8:SV} (hx:x.Ok) (w1:-1000≤w) (w2:w≤1000) (p2:p≤1000) (h:f.drop a=z.s++x.sort::r) (hs:NoSz x.sort) (ha:args[i]?=some (.str x.text)) :
  Go (n + 6) (c_put_field.drop 11) [.val (.str f),.val (.int a),.val (.lst args),.val (.int i),.val (.bool q),.val (.str fl),.val (.int w),s7,s8,.val (.int p),.u] nx ((optR (madeO x z fl w p)).bind fun v=>.ok (.ret (.tup [v,.int i,.int (a + z.s.length + 1:Nat)]))):=by
 have hf:=ph_field (n:=n) (z:=z) (fl:=fl) hx w1 w2 p2
 have sg:Ph (n + 6) 122 [.str f,.int (a + z.s.length:Nat)]=.ok (.str [x.sort]):=ph_sign (d_app h)
 refine g_asgT (e_call rfl (ph_size h hs)) (fun F=>rfl) ?_
 generalize madeO x z fl w p=m at hf
 cases m with
 | some t=>exact g_ret (e_tup (el_cons (e_call (el_cons (e_call rfl sg) (el_cons (e_idx rfl rfl (ixl ha)) rfl)) hf) rfl) rfl) rfl
 | none =>
  rw [go_cons]
  refine congrArg (fun q=>seqO q _) (?_:R.bind _ _=.exn sUns (fmtCode kUns))
  rw [show evE (Ph (n + 6)) (.tup [(.call 332 [(.call 122 [(.v 0),(.v 1)]),(.idx (.v 2) (.v 3)),(.v 5),(.v 6),(.v 9),(.v 10)]),(.v 3),(.bin .add (.v 1) (.c (.int 1)))]) _=.exn sUns (fmtCode kUns) from ?_]
  ·rfl
  ·refine (?_:R.bind (R.bind (ev (n + 6) _ _) _) _=_)
   rw [e_callr (el_cons (e_call rfl sg) (el_cons (e_idx rfl rfl (ixl ha)) rfl)) hf]
   rfl
theorem pf_2 (hp:pr.Ok) (hx:x.Ok) (w1:-1000≤w) (w2:w≤1000) (h:f.drop a=pr.t++(z.s++x.sort::r)) (hs:NoSz x.sort) (hl:Pl x.sort) (ha:args.drop i=pr.ws++.str x.text::xs) :
  Go (n + 6) (c_put_field.drop 5) [.val (.str f),.val (.int a),.val (.lst args),.val (.int i),.val (.bool q),.val (.str fl),.val (.int w),.u,.u,.u,.u] nx
   ((optR (madeO x z fl w pr.v)).bind fun v=>.ok (.ret (.tup [v,.int (i + pr.ws.length:Nat),.int (a + pr.t.length + z.s.length + 1:Nat)]))):=by
 obtain ⟨c2,r2,e2,P⟩:=z.head hl r
 have p2:=hp.le
 refine g_expr (e_call rfl (ph_room (Int.le_trans w2 (by decide)))) ?_
 cases pr with
 | no =>
  have h':f.drop a=c2::r2:=h.trans e2
  exact g_asg (e_cmp (e_call rfl (ph_sign h')) rfl (congrArg R.ok P.p)) (g_if0 rfl rfl (g_asgT (e_call rfl (ph_me (me:=.no) True.intro h' P.d P.s ha)) (fun F=>rfl) (g_asg rfl (g_if0 rfl rfl (pf_3 hx w1 w2 p2 h hs (l_get ha))))))
 | dot me =>
  have h':f.drop (a + 1)=me.t++c2::r2:=by rw [← e2]; exact at_next h
  have hz:f.drop (a + 1 + me.t.length)=z.s++x.sort::r:=d_app (at_next h)
  have hA:args.drop (i + me.ws.length)=.str x.text::xs:=d_app ha
  have e:a + (Pr.dot me).t.length + z.s.length + 1=a + 1 + me.t.length + z.s.length + 1:=by
   show a + (me.t.length + 1) + _ + 1=_
   lia
  rw [e]
  refine g_asg (e_cmp (e_call rfl (ph_sign h)) rfl rfl) (g_it rfl rfl (g_aug rfl rfl (g_done rfl)) (g_asgT (e_call rfl (ph_me (a:=a + 1) hp h' P.d P.s ha)) (fun F=>rfl) (g_asg rfl (g_it rfl rfl (g_asg (v:=.int (Pr.dot me).v) ?_ (g_done rfl)) (pf_3 hx w1 w2 p2 hz hs (l_get hA))))))
  cases me with
  | no=>exact e_t (e_cmp rfl rfl rfl) rfl rfl
  | num k=>exact e_f (e_cmp rfl rfl rfl) rfl (e_bi rfl (congrArg (fun z=>R.ok (AV.int z)) (Int.max_eq_left (Int.natCast_nonneg k))))
  | star v=>exact e_f (e_cmp rfl rfl rfl) rfl (e_bi rfl rfl)
noncomputable def flW (fl:Tx) (v:Int):Tx:=cond (decide (v < 0)) (fl++[45]) fl
noncomputable def wdW (v:Int):Int:=cond (decide (v < 0)) (-v) v
theorem Me.OkW.le {m:Me} (h:m.OkW):-1000≤m.v∧m.v≤1000:=match m,h with
 | .no,_=>by decide
 | .num k,h=>⟨Int.le_trans (by decide) (Int.natCast_nonneg k),Int.ofNat_le.mpr (Nat.le_trans (Nat.le_of_lt h.1) (by decide))⟩
 | .star v,h=>h
theorem Pl.on (h:Pl c):∀ (pr:Pr) (r:Tx),∃ c2 r2,pr.t++c::r=c2::r2∧isD 10 c2=false∧c2≠42∧isFl c2=false
 | .no,r=>⟨c,r,rfl,h.d,h.s,h.f⟩
 | .dot me,r=>⟨46,_,rfl,by decide +kernel,by decide,by decide +kernel⟩
def PutG (n a i:Nat) (f fl:Tx) (args:List AV) (q:Bool) (me:Me) (pr:Pr) (z:Sz) (x:Fi):Prop:=Ph (n + 7) 353 [.str f,.int a,.lst args,.int i,.bool q]=(optR (madeO x z (flW fl me.v) (wdW me.v) pr.v)).bind fun v=>.ok (.tup [v,.int (i + me.ws.length + pr.ws.length:Nat),.int (a + fl.length + me.t.length + pr.t.length + z.s.length + 1:Nat)])
theorem ph_put (hf:∀ k ∈ fl,isFl k=true) (hfl:fl.length≤100) (hm:me.OkW) (hp:pr.Ok) (hx:x.Ok) (h:f.drop a=fl++(me.t++(pr.t++(z.s++x.sort::r)))) (hs:NoSz x.sort) (hl:Pl x.sort) (ha:args.drop i=me.ws++(pr.ws++.str x.text::xs)):PutG n a i f fl args q me pr z x:=by
 obtain ⟨c1,r1,e1,P1⟩:=z.head hl r
 obtain ⟨c2,r2,e2,P2⟩:=P1.on pr r1
 obtain ⟨c3,r3,e3,P3⟩:=hm.head (r:=r2) P2.2.2
 have h3:f.drop a=fl++c3::r3:=by rw [← e3,← e2,← e1]; exact h
 have h2:f.drop (a + fl.length)=me.t++c2::r2:=by rw [← e2,← e1]; exact d_app h
 have h1:f.drop (a + fl.length + me.t.length)=pr.t++(z.s++x.sort::r):=d_app (d_app h)
 have hA:args.drop (i + me.ws.length)=pr.ws++.str x.text::xs:=d_app ha
 have hi:i < args.length:=d_lt (x:=me.ws++pr.ws) (by rw [List.append_assoc]; exact ha)
 have hw:=hm.le
 have hA2:∃ u xs',args.drop i=me.ws++u::xs':=by
  cases hq:pr.ws++AV.str x.text::xs with
  | nil=>exact absurd hq (List.append_ne_nil_of_right_ne_nil _ (List.cons_ne_nil _ _))
  | cons u xs'=>exact ⟨u,xs',by rw [← hq]; exact ha⟩
 obtain ⟨u,xs',hA2⟩:=hA2
 have fin:=fun (fl':Tx) (w:Int) (w1:-1000≤w) (w2:w≤1000)=>pf_2 (n:=n) (a:=a + fl.length + me.t.length) (i:=i + me.ws.length) (q:=q) (fl:=fl') (w:=w) hp hx w1 w2 h1 hs hl hA
 refine call_o (d:=d_put_field) (o:=(optR (madeO x z (flW fl me.v) (wdW me.v) pr.v)).bind fun v=>.ok (.ret (.tup [v,.int (i + me.ws.length + pr.ws.length:Nat),.int (a + fl.length + me.t.length + pr.t.length + z.s.length + 1:Nat)]))) [.val (.str f),.val (.int a),.val (.lst args),.val (.int i),.val (.bool q),.u,.u,.u,.u,.u,.u] rfl rfl rfl
  (g_expr (e_call (el_cons rfl (el_cons (e_bi rfl rfl) rfl)) (ph_word hi)) (g_asgT (e_call rfl (ph_flags h3 hf P3 rfl)) (fun F=>rfl) (g_asgT (e_call rfl (ph_me hm.ok h2 P2.1 P2.2.1 hA2)) (fun F=>rfl) ?_))) ?_
 ·cases me with
  | no=>exact g_it (e_cmp rfl rfl rfl) rfl (g_asg rfl (g_done rfl)) (g_if0 (e_cmp rfl rfl rfl) rfl (fin _ _ (by decide) (by decide)))
  | num k =>
   have h0:decide ((k:Int) < 0)=false:=dgt (Int.not_lt.mpr (Int.natCast_nonneg k))
   unfold flW wdW
   rw [show decide ((Me.num k).v < 0)=false from h0]
   exact g_if0 (e_cmp rfl rfl rfl) rfl (g_if0 (e_cmp rfl rfl rfl) h0 (fin _ _ hw.1 hw.2))
  | star v =>
   unfold flW wdW
   show Go _ _ _ _ ((optR (madeO x z (cond (decide (v < 0)) (fl++[45]) fl) (cond (decide (v < 0)) (-v) v) pr.v)).bind _)
   generalize h0:decide (v < 0)=u
   have hw1:-1000≤v:=hw.1
   have hw2:v≤1000:=hw.2
   cases u with
   | false=>exact g_if0 (e_cmp rfl rfl rfl) rfl (g_if0 (e_cmp rfl rfl rfl) h0 (fin _ _ hw1 hw2))
   | true=>exact g_if0 (e_cmp rfl rfl rfl) rfl (g_it (e_cmp rfl rfl rfl) h0 (g_asg (e_bin rfl rfl (add_s (t:=[45]) (by show _ + 1≤_; lia))) (g_asg (v:=.int (-v)) rfl (g_done rfl))) (fin _ _ (by lia) (by lia)))
 ·cases madeO x z (flW fl me.v) (wdW me.v) pr.v <;> rfl
end
end Mine
end
section
set_option tactic.hygienic false
open PySem
namespace Mine
section
variable {n:Nat} {σ σ':Env'} {f:Env'→Out} {o:Out} {r b:List MS} {e:ME} {t:Bool} {tx:Tx} {cc:List AV}
theorem g_cont:Go n (.cont::r) σ f (.ok (.cont σ)):=rfl
theorem g_brk:Go n (.brk::r) σ f (.ok (.brk σ)):=rfl
theorem g_wb (h1:ev n e σ=.ok (.bool t)) (ht:t=true) (h2:evSs (Ph n) MT (De n) b σ=.ok (.brk σ')) (h:Go n r σ' f o):Go n (.whil e b::r) σ f o:=by
 subst ht
 rw [go_cons]
 refine Eq.trans (b:=seqO (nx σ') _) (congrArg (fun q=>seqO q _) ?_) h
 exact loopSem_stop ((congrArg (fun q=>whTurn q _ σ) h1).trans (congrArg turnOf h2))
theorem g_wx (h1:ev n e σ=.ok (.bool t)) (ht:t=true) (h2:evSs (Ph n) MT (De n) b σ=.exn tx cc):Go n (.whil e b::r) σ f (.exn tx cc):=by
 subst ht
 rw [go_cons]
 refine Eq.trans (b:=seqO (.exn tx cc) _) (congrArg (fun q=>seqO q _) ?_) rfl
 exact loopSem_stop ((congrArg (fun q=>whTurn q _ σ) h1).trans (congrArg turnOf h2))
theorem g_asgTx {is:List Nat} (h1:ev n e σ=.exn tx cc):Go n (.asgT is e::r) σ f (.exn tx cc):=by
 rw [go_cons]
 refine congrArg (fun q=>seqO q _) (?_:R.bind _ _=.exn tx cc)
 rw [show evE (Ph n) e σ=_ from h1]
 rfl
end
section
variable {n:Nat} {f r x:Tx} {a b c i:Nat} {q:Bool} {z:Sz} {args xs made:List AV} {srt:Tx} {o:Out} {fi:Fi} {w p:Int} {pr:Pr} {me:Me} {fl:Tx}
theorem strsOf_map:∀ (ss:List Tx),strsOf (ss.map AV.str)=.ok ss
 | []=>rfl
 | s::ss=>bd (strsOf_map ss) rfl
def LP (n:Nat) (f:Tx) (args:List AV) (a i:Nat) (srt:Tx) (made:List AV) (o:Out):Prop:=∀ s6 s7 s8 s9,Go n (c_format_text.drop 4) [.val (.str f),.val (.lst args),.ol made,.val (.int a),.val (.int i),.val (.str srt),s6,s7,s8,s9] nx o
theorem ft_out {ss:List Tx} {s3 s4 s5 s6 s7 s8 s9:SV} (hl:ss.flatten.length≤100000):Go n (c_format_text.drop 5) [.val (.str f),.val (.lst args),.ol (ss.map AV.str),s3,s4,s5,s6,s7,s8,s9] nx (.ok (.ret (.str ss.flatten))) :=
 g_frz rfl (g_ret (e_sm rfl rfl (join_of (strsOf_map ss) hl)) rfl)
theorem lp_end {ss:List Tx} (h:f.drop a=[]) (hl:ss.flatten.length≤100000):LP n f args a i srt (ss.map AV.str) (.ok (.ret (.str ss.flatten))):=fun s6 s7 s8 s9=>g_wf (e_cmp rfl rfl rfl) (lt_f h) (ft_out hl)
theorem at_all {c:Nat} (h:f.drop a=c::x):a + (c::x).length=f.length:=by
 have h1:=congrArg List.length h
 have h2:=at_lt h
 rw [List.length_drop] at h1
 lia
theorem lp_last {ss:List Tx} (h:f.drop a=c::x) (hx:∀ k ∈ c::x,k≠37) (hl:(ss++[c::x]).flatten.length≤100000) (hs:ss.length≤1000):LP (n + 1) f args a i srt (ss.map AV.str) (.ok (.ret (.str (ss++[c::x]).flatten))):=fun s6 s7 s8 s9=>by
 have hb:=at_all h
 have hm:(ss++[c::x]).map AV.str=ss.map AV.str++[.str (c::x)]:=by rw [List.map_append]; rfl
 have out:=ft_out (n:=n + 1) (f:=f) (args:=args) (s3:=.val (.int a)) (s4:=.val (.int i)) (s5:=.val (.str srt)) (s6:=.val (.int f.length)) (s7:=s7) (s8:=s8) (s9:=s9) hl
 rw [hm] at out
 exact g_wb (e_cmp rfl rfl rfl) (lt_t h) (g_evs (g_asg (e_call rfl (ph_place (x:=c::x) (r:=[]) (h.trans (List.append_nil _).symm) hx (fun _ _ h=>nomatch h) hb)) (g_app rfl (e_sl rfl rfl rfl (slop_mid (x:=c::x) (r:=[]) (h.trans (List.append_nil _).symm) hb)) (llt (by rw [List.length_map]; lia)) (g_t (e_cmp rfl rfl rfl) (dlt (Int.le_refl _)) g_brk)))) out
theorem lp_pp (h:f.drop a=x++37::37::r) (hx:∀ k ∈ x,k≠37) (hm:made.length≤1000) (hb:a + x.length=b) (k:LP (n + 1) f args (b + 2) i srt (made++[.str x]++[.str [37]]) o):LP (n + 1) f args a i srt made o:=fun s6 s7 s8 s9=>by
 have h1:f.drop b=37::37::r:=at_app h hb
 exact g_wt (e_cmp rfl rfl rfl) (dlt (Int.ofNat_lt.mpr (d_lt h))) (g_evs (g_asg (e_call rfl (ph_place h hx (fun k t e=>(List.cons.inj e).1.symm) hb)) (g_app rfl (e_sl rfl rfl rfl (slop_mid h hb)) (llt (Nat.le_trans hm (by decide))) (g_if0 (e_cmp rfl rfl rfl) (dgt (Int.not_le.mpr (Int.ofNat_lt.mpr (at_lt h1))))
  (g_t (e_cmp (e_call rfl (ph_sign (at_next h1))) rfl rfl) rfl (g_app rfl rfl (llt (by rw [List.length_append]; show made.length + 1≤_; lia)) (g_asg rfl g_cont))))))) rfl (k _ _ _ _)
theorem ph_rplace0 {ds:Tx} (h:f.drop a=ds++c::r) (hd:∀ k ∈ ds,isD 10 k=true) (hc:isD 10 c=false) (hc2:c≠36):Ph (n + 4) 150 [.str f,.int a]=.ok (.tup [.int (-1),.int a]):=by
 have ha:a≤f.length:=Nat.le_of_lt (d_lt h)
 cases ds with
 | nil=>exact call_s (d:=d_read_place) [.val (.str f),.val (.int a),.u,.u] rfl rfl rfl (g_asgT (e_call rfl (ph_digits0 h ha (.inr ⟨_,_,rfl,hc⟩))) (fun F=>rfl) (g_if0 (e_andf (e_cmp rfl rfl rfl) rfl) rfl (g_ret rfl rfl)))
 | cons d ds =>
  refine call_s (d:=d_read_place) [.val (.str f),.val (.int a),.u,.u] rfl rfl rfl (g_asgT (e_call rfl (ph_digits h ha (List.cons_ne_nil d ds) hd (.inr ⟨_,_,rfl,hc⟩) rfl)) (fun F=>rfl) (g_if0 (t:=false) ?_ rfl (g_ret rfl rfl)))
  generalize h1:decide ((0:Int)≤dv 10 (d::ds))=t
  cases t with
  | false=>exact e_andf (e_cmp rfl rfl rfl) h1
  | true=>exact e_and (e_cmp rfl rfl rfl) h1 (e_andf (e_cmp (e_call rfl (ph_sign (d_app h))) rfl rfl) (ne1 hc2))
theorem split36 {s:Nat} (hs:isD 10 s=false) (h36:s≠36):∀ (L:Tx),(∀ k ∈ L,k≠36)→∃ ds c r',L++s::r=ds++c::r'∧(∀ k ∈ ds,isD 10 k=true)∧isD 10 c=false∧c≠36
 | [],_=>⟨[],s,r,rfl,(fun _ h=>nomatch h),hs,h36⟩
 | k::L,h=>by
  cases hk:isD 10 k with
  | false=>exact ⟨[],k,L++s::r,rfl,(fun _ h=>nomatch h),hk,h _ (.head _)⟩
  | true =>
   obtain ⟨ds,c,r',e,h1,h2,h3⟩:=split36 hs h36 L fun k hk=>h k (.tail _ hk)
   exact ⟨k::ds,c,r',congrArg (k::·) e,fun d hd=>match hd with | .head _=>hk | .tail _ hd=>h1 d hd,h2,h3⟩
noncomputable def specT (fl:Tx) (me:Me) (pr:Pr) (z:Sz) (r:Tx):Tx:=fl++(me.t++(pr.t++(z.s++r)))
theorem len_spec:(specT fl me pr z r).length=fl.length + me.t.length + pr.t.length + z.s.length + r.length:=by
 unfold specT
 rw [List.length_append,List.length_append,List.length_append,List.length_append]
 lia
structure FOk (fl:Tx) (me:Me) (pr:Pr) (z:Sz) (x:Fi):Prop where
 hfl:∀ k ∈ fl,isFl k=true
 hlen:fl.length≤100
 hme:me.OkW
 hpr:pr.Ok
 hx:x.Ok
 hns:NoSz x.sort
 hpl:Pl x.sort
 hnd:∀ k ∈ specT fl me pr z [],k≠36∧k≠37
 hnx:x.sort≠36∧x.sort≠37
noncomputable def whB (l:List MS):List MS:=match l with
 | .whil _ b::_=>b
 | _=>[]
noncomputable def ftB:List MS:=whB (c_format_text.drop 4)
theorem spec_app:specT fl me pr z r=specT fl me pr z []++r:=by
 unfold specT
 rw [List.append_nil,List.append_assoc,List.append_assoc,List.append_assoc]
theorem head37 {s:Nat} {L r:Tx} (h:∀ k ∈ L,k≠36∧k≠37) (hs:s≠36∧s≠37) (hf:f.drop a=L++s::r):∃ d t,f.drop a=d::t∧AV.eqv (.str [d]) (.str [37])=false:=by
 cases L with
 | nil=>exact ⟨s,r,hf,ne1 hs.2⟩
 | cons k L=>exact ⟨k,L++s::r,hf,ne1 (h k (.head _)).2⟩
theorem lp_f1 (F:FOk fl me pr z fi) (h:f.drop a=x++37::specT fl me pr z (fi.sort::r)) (hx:∀ k ∈ x,k≠37) (hm:made.length≤1000) (hb:a + x.length=b) (hs:srt=[]∨srt=[37]) (ha:args.drop i=me.ws++(pr.ws++.str fi.text::xs))
  (k:∀ t,madeO fi z (flW fl me.v) (wdW me.v) pr.v=some t→LP (n + 7) f args (b + 1 + fl.length + me.t.length + pr.t.length + z.s.length + 1) (i + me.ws.length + pr.ws.length + 1) [37] (made++[.str x]++[.str t]) o) (k0:madeO fi z (flW fl me.v) (wdW me.v) pr.v=none→o=.exn sUns (fmtCode kUns)):LP (n + 7) f args a i srt made o:=fun s6 s7 s8 s9=>by
 have h1:f.drop b=37::specT fl me pr z (fi.sort::r):=at_app h hb
 obtain ⟨ds,c,r',e,d1,d2,d3⟩:=split36 (r:=r) F.hpl.d F.hnx.1 (specT fl me pr z []) fun k hk=>(F.hnd k hk).1
 have h2':f.drop (b + 1)=specT fl me pr z []++fi.sort::r:=by rw [← spec_app]; exact at_next h1
 have h2:f.drop (b + 1)=ds++c::r':=h2'.trans e
 have hput:=ph_put (n:=n) (q:=false) F.hfl F.hlen F.hme F.hpr F.hx (at_next h1) F.hns F.hpl ha
 unfold PutG at hput
 obtain ⟨d,t,h3,h4⟩:=head37 F.hnd F.hnx h2'
 have hsrt:∀ {s9:SV},ev (n + 7) (.cmp (.v 5) .notin (.tup [(.c (.str [])),(.v 8)])) [.val (.str f),.val (.lst args),.ol (made++[.str x]),.val (.int (b + 1:Nat)),.val (.int i),.val (.str srt),.val (.int b),.val (.int (-1)),.val (.str [37]),s9]=.ok (.bool false):=by
  rcases hs with rfl | rfl
  ·exact fun {s9}=>e_cmp rfl rfl rfl
  ·exact fun {s9}=>e_cmp rfl rfl rfl
 have pre:∀ {c:Out},Go (n + 7) (ftB.drop 7) [.val (.str f),.val (.lst args),.ol (made++[.str x]),.val (.int (b + 1:Nat)),.val (.int i),.val (.str srt),.val (.int b),.val (.int (-1)),.val (.str [37]),s9] nx c→Go (n + 7) ftB [.val (.str f),.val (.lst args),.ol made,.val (.int a),.val (.int i),.val (.str srt),s6,s7,s8,s9] nx c:=fun {c} hc =>
  g_asg (e_call rfl (ph_place h hx (fun k t e=>(List.cons.inj e).1.symm) hb)) (g_app rfl (e_sl rfl rfl rfl (slop_mid h hb)) (llt (Nat.le_trans hm (by decide))) (g_if0 (e_cmp rfl rfl rfl) (dgt (Int.not_le.mpr (Int.ofNat_lt.mpr (at_lt h1))))
   (g_if0 (e_cmp (e_call rfl (ph_sign h3)) rfl rfl) h4 (g_asgT (e_call rfl (ph_rplace0 h2 d1 d2 d3)) (fun F=>rfl) (g_asg (e_t (e_cmp rfl rfl rfl) rfl rfl) (g_if0 hsrt rfl hc))))))
 generalize madeO fi z (flW fl me.v) (wdW me.v) pr.v=m at hput k k0
 cases m with
 | some t =>
  exact g_wt (e_cmp rfl rfl rfl) (dlt (Int.ofNat_lt.mpr (d_lt h))) (g_evo (pre (g_asg rfl (g_if0 (e_cmp rfl rfl rfl) rfl (g_asgT (e_call (el_cons rfl (el_cons rfl (el_cons rfl (el_cons rfl (el_cons (e_cmp rfl rfl rfl) rfl))))) hput) (fun F=>rfl)
   (g_app rfl rfl (llt (by rw [List.length_append]; show made.length + 1≤_; lia)) (g_it (e_cmp rfl rfl rfl) rfl (g_aug rfl rfl (g_done rfl)) (g_done rfl)))))))) rfl (k t rfl _ _ _ _)
 | none =>
  rw [k0 rfl]
  exact g_wx (e_cmp rfl rfl rfl) (dlt (Int.ofNat_lt.mpr (d_lt h))) (g_evo (pre (g_asg rfl (g_if0 (e_cmp rfl rfl rfl) rfl (g_asgTx (e_callr (el_cons rfl (el_cons rfl (el_cons rfl (el_cons rfl (el_cons (e_cmp rfl rfl rfl) rfl))))) hput))))))
theorem d37 {k:Nat} (h:isD 10 k=true):AV.eqv (.str [k]) (.str [37])=false:=ne1 fun e=>by
 subst e
 exact Bool.false_ne_true ((show false=isD 10 37 by decide +kernel).trans h)
theorem lp_f2 {j:Nat} (F:FOk fl me pr z fi) (hj:j + 1 < 2 ^ 100) (h:f.drop a=x++37::(dgS false 10 (j + 1)++36::specT fl me pr z (fi.sort::r))) (hx:∀ k ∈ x,k≠37) (hm:made.length≤1000) (hb:a + x.length=b) (hs:srt=[]∨srt=[36]) (ha:args.drop j=me.ws++(pr.ws++.str fi.text::xs))
  (k:∀ t,madeO fi z (flW fl me.v) (wdW me.v) pr.v=some t→LP (n + 7) f args (b + 1 + (dgS false 10 (j + 1)).length + 1 + fl.length + me.t.length + pr.t.length + z.s.length + 1) (j + me.ws.length + pr.ws.length) [36] (made++[.str x]++[.str t]) o) (k0:madeO fi z (flW fl me.v) (wdW me.v) pr.v=none→o=.exn sUns (fmtCode kUns)):LP (n + 7) f args a i srt made o:=fun s6 s7 s8 s9=>by
 have h1:f.drop b=37::(dgS false 10 (j + 1)++36::specT fl me pr z (fi.sort::r)):=at_app h hb
 have h0:=dgS_ne false 10 (j + 1)
 have hD:∀ d ∈ dgS false 10 (j + 1),isD 10 d=true:=dgS_D (b:=10) (by decide) (by decide)
 have hv:dv 10 (dgS false 10 (j + 1))=((j + 1:Nat):Int):=dv_dgS (b:=10) (by decide) (by decide) false hj
 have hp:=ph_rplace (n:=n + 3) (at_next h1) (Nat.le_of_lt (d_lt (at_next h1))) h0 hD (by rw [hv]; exact Int.natCast_nonneg _) rfl
 rw [hv] at hp
 have h2:f.drop (b + 1 + (dgS false 10 (j + 1)).length + 1)=specT fl me pr z (fi.sort::r):=at_next (d_app (at_next h1))
 have hput:=ph_put (n:=n) (q:=true) F.hfl F.hlen F.hme F.hpr F.hx h2 F.hns F.hpl ha
 unfold PutG at hput
 obtain ⟨d,t,e⟩:=List.exists_cons_of_ne_nil h0
 have h3:f.drop (b + 1)=d::(t++36::specT fl me pr z (fi.sort::r)):=by have:=at_next h1; rw [e] at this; exact this
 have h4:=d37 (hD d (e ▸ .head _))
 have hsrt:∀ {s9:SV},ev (n + 7) (.cmp (.v 5) .notin (.tup [(.c (.str [])),(.v 8)])) [.val (.str f),.val (.lst args),.ol (made++[.str x]),.val (.int (b + 1 + (dgS false 10 (j + 1)).length + 1:Nat)),.val (.int i),.val (.str srt),.val (.int b),.val (.int (j + 1:Nat)),.val (.str [36]),s9]=.ok (.bool false):=by
  rcases hs with rfl | rfl
  ·exact fun {s9}=>e_cmp rfl rfl rfl
  ·exact fun {s9}=>e_cmp rfl rfl rfl
 have neg:decide (((j + 1:Nat):Int) < 0)=false:=dgt (Int.not_lt.mpr (Int.natCast_nonneg _))
 have pos:decide ((0:Int)≤((j + 1:Nat):Int))=true:=dlt (Int.natCast_nonneg _)
 have pre:∀ {c:Out},Go (n + 7) (ftB.drop 9) [.val (.str f),.val (.lst args),.ol (made++[.str x]),.val (.int (b + 1 + (dgS false 10 (j + 1)).length + 1:Nat)),.val (.int j),.val (.str [36]),.val (.int b),.val (.int (j + 1:Nat)),.val (.str [36]),s9] nx c→Go (n + 7) ftB [.val (.str f),.val (.lst args),.ol made,.val (.int a),.val (.int i),.val (.str srt),s6,s7,s8,s9] nx c:=fun {c} hc =>
  g_asg (e_call rfl (ph_place h hx (fun k t e=>(List.cons.inj e).1.symm) hb)) (g_app rfl (e_sl rfl rfl rfl (slop_mid h hb)) (llt (Nat.le_trans hm (by decide))) (g_if0 (e_cmp rfl rfl rfl) (dgt (Int.not_le.mpr (Int.ofNat_lt.mpr (at_lt h1))))
   (g_if0 (e_cmp (e_call rfl (ph_sign h3)) rfl rfl) h4 (g_asgT (e_call rfl hp) (fun F=>rfl) (g_asg (e_f (e_cmp rfl rfl rfl) neg rfl) (g_if0 hsrt rfl (g_asg rfl (g_it (e_cmp rfl rfl rfl) pos (g_asg (e_bin rfl rfl sub1) (g_done rfl)) hc))))))))
 have hq:∀ {s9:SV},ev (n + 7) (.cmp (.v 7) .ge (.c (.int 0))) [.val (.str f),.val (.lst args),.ol (made++[.str x]),.val (.int (b + 1 + (dgS false 10 (j + 1)).length + 1:Nat)),.val (.int j),.val (.str [36]),.val (.int b),.val (.int (j + 1:Nat)),.val (.str [36]),s9]=.ok (.bool true):=fun {s9}=>e_cmp rfl rfl (congrArg R.ok pos)
 generalize madeO fi z (flW fl me.v) (wdW me.v) pr.v=m at hput k k0
 cases m with
 | some t =>
  exact g_wt (e_cmp rfl rfl rfl) (dlt (Int.ofNat_lt.mpr (d_lt h))) (g_evo (pre (g_asgT (e_call (el_cons rfl (el_cons rfl (el_cons rfl (el_cons rfl (el_cons hq rfl))))) hput) (fun F=>rfl)
   (g_app rfl rfl (llt (by rw [List.length_append]; show made.length + 1≤_; lia)) (g_if0 (e_cmp rfl rfl rfl) neg (g_done rfl)))))) rfl (k t rfl _ _ _ _)
 | none =>
  rw [k0 rfl]
  exact g_wx (e_cmp rfl rfl rfl) (dlt (Int.ofNat_lt.mpr (d_lt h))) (g_evo (pre (g_asgTx (e_callr (el_cons rfl (el_cons rfl (el_cons rfl (el_cons rfl (el_cons hq rfl))))) hput))))
end
end Mine
end
section
set_option tactic.hygienic false
open PySem
namespace Mine
theorem modn (x:Int) (b:Nat) (hb:0 < b):∃ m:Nat,m < b∧binop .fmod (.int x) (.int b)=.ok (.int m):=by
 have h0:=Int.emod_nonneg x (b:=(b:Int)) (by lia)
 have h1:=Int.emod_lt_of_pos x (b:=(b:Int)) (by lia)
 refine ⟨(x % b).toNat,by lia,?_⟩
 rw [Int.toNat_of_nonneg h0]
 exact limT (dlt (Int.ofNat_lt.mpr hb))
theorem ixm_t {α:Type} {g:α→AV} {l:List α} {m:Nat} (h:m < l.length):∃ x ∈ l,idxop (.tup (l.map g)) (.int m)=.ok (g x):=by
 refine ⟨l[m],List.getElem_mem h,?_⟩
 show oO _ _=_
 rw [pick_at (x:=g l[m]) (by rw [List.getElem?_map,List.getElem?_eq_getElem h]; rfl)]
 rfl
theorem ixm_s {α:Type} {g:α→Nat} {l:List α} {m:Nat} (h:m < l.length):∃ x ∈ l,idxop (.str (l.map g)) (.int m)=.ok (.str [g x]):=by
 refine ⟨l[m],List.getElem_mem h,?_⟩
 show oO _ _=_
 rw [pick_at (x:=g l[m]) (by rw [List.getElem?_map,List.getElem?_eq_getElem h]; rfl)]
 rfl
section
variable {n:Nat} {N:Int} {k w:Nat} {fl sp:Tx} {a2 a3 a4:AV} {s9 s10 s11:SV}
theorem str_w {v:Int} (h:v.natAbs < 2 ^ 100):biop .str [.int v]=.ok (.str (wrt false v)):=txt_eq ▸ str_txt h
def StW (n:Nat) (N:Int) (k w:Nat) (fl:Tx) (a2 a3 a4:AV) (s9 s10 s11:SV):Prop:=∃ me:Me,me.OkW∧∀ o,Go n (c_law_field.drop 8) [.val (.int N),.val (.int k),.val a2,.val a3,.val a4,.val (.str (flW fl me.v)),.val (.str (fl++me.t)),.ol me.ws,.val (.int (wdW me.v)),s9,s10,s11] nx o →
  Go n (c_law_field.drop 7) [.val (.int N),.val (.int k),.val a2,.val a3,.val a4,.val (.str fl),.val (.str fl),.ol [],.val (.int w),s9,s10,s11] nx o
theorem st_w (hw:w < 14) (hfl:fl.length≤10):StW n N k w fl a2 a3 a4 s9 s10 s11:=by
 obtain ⟨m1,l1,e1⟩:=modn (N / 7 + k) 3 (by decide)
 obtain ⟨m2,l2,e2⟩:=modn (N / 21 + k) 2 (by decide)
 have c1:∀ {t} {σ:Env'},AV.eqv (.int m1) (.int 1)=t→getV σ 0=.ok (.int N)→getV σ 1=.ok (.int k)→ev n (.cmp (.bin .fmod (.bin .add (.bin .fdiv (.v 0) (.c (.int 7))) (.v 1)) (.c (.int 3))) .eq (.c (.int 1))) σ=.ok (.bool t):=fun ht h0 h1=>e_cmp (e_bin (e_bin (e_bin h0 rfl (z:=.int (N / 7)) rfl) h1 rfl) rfl e1) rfl (congrArg R.ok ht)
 have c2:∀ {t} {σ:Env'},AV.eqv (.int m2) (.int 1)=t→getV σ 0=.ok (.int N)→getV σ 1=.ok (.int k)→ev n (.cmp (.bin .fmod (.bin .add (.bin .fdiv (.v 0) (.c (.int 21))) (.v 1)) (.c (.int 2))) .eq (.c (.int 1))) σ=.ok (.bool t):=fun ht h0 h1=>e_cmp (e_bin (e_bin (e_bin h0 rfl (z:=.int (N / 21)) rfl) h1 rfl) rfl e2) rfl (congrArg R.ok ht)
 have w0:decide ((w:Int) < 0)=false:=dgt (Int.not_lt.mpr (Int.natCast_nonneg w))
 generalize AV.eqv (.int m1) (.int 1)=t1 at c1
 generalize AV.eqv (.int m2) (.int 1)=t2 at c2
 cases t1 with
 | true =>
  cases t2 with
  | true =>
   have hn:decide (-1 - (w:Int) < 0)=true:=dlt (by lia)
   have hw2:wdW (-1 - (w:Int))=(w:Int) + 1:=by unfold wdW; rw [hn]; show -(-1 - (w:Int))=_; lia
   have hf2:flW fl (-1 - (w:Int))=fl++[45]:=by unfold flW; rw [hn]; rfl
   refine ⟨.star (-1 - w),⟨by lia,by lia⟩,fun o h=>g_it (c1 rfl rfl rfl) rfl (g_asg (e_bin rfl rfl (add_s (t:=[42]) (by show _ + 1≤_; lia))) (g_it (c2 rfl rfl rfl) rfl (g_asg (e_bin rfl rfl (add_s (t:=[45]) (by show _ + 1≤_; lia))) (g_app rfl (e_bi (el_cons (v:=.int (-1 - w)) rfl rfl) (str_w (by lia))) rfl (g_asg rfl (g_done rfl)))) (g_done rfl))) ?_⟩
   rw [show wdW (Me.star (-1 - (w:Int))).v=_ from hw2,show flW fl (Me.star (-1 - (w:Int))).v=_ from hf2] at h
   exact h
  | false =>
   refine ⟨.star w,⟨by lia,by lia⟩,fun o h=>g_it (c1 rfl rfl rfl) rfl (g_asg (e_bin rfl rfl (add_s (t:=[42]) (by show _ + 1≤_; lia))) (g_ie (c2 rfl rfl rfl) rfl (g_app rfl (e_bi rfl (str_w (by lia))) rfl (g_done rfl)) (g_done rfl))) ?_⟩
   rw [show wdW (Me.star (w:Int)).v=w by show cond (decide ((w:Int) < 0)) _ _=_; rw [w0]; rfl,show flW fl (Me.star (w:Int)).v=fl by show cond (decide ((w:Int) < 0)) _ _=_; rw [w0]; rfl] at h
   exact h
 | false =>
  cases w with
  | zero =>
   refine ⟨.no,True.intro,fun o h=>g_ie (c1 rfl rfl rfl) rfl (g_if0 (e_cmp rfl rfl rfl) rfl (g_done rfl)) ?_⟩
   rw [show fl++Me.no.t=fl from List.append_nil fl] at h
   exact h
  | succ w =>
   refine ⟨.num (w + 1),⟨hw,Nat.succ_ne_zero w⟩,fun o h=>g_ie (c1 rfl rfl rfl) rfl (g_it (e_cmp rfl rfl rfl) (dlt (Int.ofNat_lt.mpr (Nat.succ_pos w))) (g_asg (e_bin rfl (e_bi rfl (str_nat (Nat.lt_trans hw (by decide)))) (add_s (by have:=dgS_len false 10 (w + 1); lia))) (g_done rfl)) (g_done rfl)) ?_⟩
   rw [show wdW (Me.num (w + 1)).v=(w + 1:Nat) by show cond (decide (((w + 1:Nat):Int) < 0)) _ _=_; rw [w0]; rfl,show flW fl (Me.num (w + 1)).v=fl by show cond (decide (((w + 1:Nat):Int) < 0)) _ _=_; rw [w0]; rfl] at h
   exact h
def StPr (n:Nat) (N:Int) (k:Nat) (sp:Tx) (a2 a3 a4 a5 a8:AV) (s9 s10 s11:SV) (ws:List AV):Prop:=∃ pr:Pr,pr.Ok∧∃ kd:AV,∀ o,Go n (c_law_field.drop 15) [.val (.int N),.val (.int k),.val a2,.val a3,.val a4,.val a5,.val (.str (sp++pr.t)),.ol (ws++pr.ws),.val a8,.val kd,.val (.int pr.v),s11] nx o →
  Go n (c_law_field.drop 8) [.val (.int N),.val (.int k),.val a2,.val a3,.val a4,.val a5,.val (.str sp),.ol ws,.val a8,s9,s10,s11] nx o
theorem st_p {a5 a8:AV} {ws:List AV} (hs:sp.length≤300) (hws:ws.length≤10):StPr n N k sp a2 a3 a4 a5 a8 s9 s10 s11 ws:=by
 obtain ⟨m,l1,e1⟩:=modn (N / 11 + k) 5 (by decide)
 obtain ⟨p,l2,e2⟩:=modn (N / 55 + k) 7 (by decide)
 obtain ⟨m3,l3,e3⟩:=modn (N / 5 + k) 4 (by decide)
 have cp:∀ {σ:Env'},getV σ 0=.ok (.int N)→getV σ 1=.ok (.int k)→ev n (.bin .fmod (.bin .add (.bin .fdiv (.v 0) (.c (.int 55))) (.v 1)) (.c (.int 7))) σ=.ok (.int p):=fun h0 h1=>e_bin (e_bin (e_bin h0 rfl (z:=.int (N / 55)) rfl) h1 rfl) rfl e2
 have c3:∀ {t} {σ:Env'},AV.eqv (.int m3) (.int 0)=t→getV σ 0=.ok (.int N)→getV σ 1=.ok (.int k)→ev n (.cmp (.bin .fmod (.bin .add (.bin .fdiv (.v 0) (.c (.int 5))) (.v 1)) (.c (.int 4))) .eq (.c (.int 0))) σ=.ok (.bool t):=fun ht h0 h1=>e_cmp (e_bin (e_bin (e_bin h0 rfl (z:=.int (N / 5)) rfl) h1 rfl) rfl e3) rfl (congrArg R.ok ht)
 have st:∀ (o:Out),Go n (c_law_field.drop 9) [.val (.int N),.val (.int k),.val a2,.val a3,.val a4,.val a5,.val (.str sp),.ol ws,.val a8,.val (.int m),s10,s11] nx o→Go n (c_law_field.drop 8) [.val (.int N),.val (.int k),.val a2,.val a3,.val a4,.val a5,.val (.str sp),.ol ws,.val a8,s9,s10,s11] nx o :=
  fun o h=>g_asg (e_bin (e_bin (e_bin rfl rfl (z:=.int (N / 11)) rfl) rfl rfl) rfl e1) h
 have lw:∀ {v:AV} {us:List AV},us.length≤10→decide (us.length < lLine)=true:=fun h=>llt (Nat.le_trans h (by decide))
 have lp:=dgS_len false 10 p
 have hz:∀ (u:Tx),u.length≤3→binop .add (.str sp) (.str u)=.ok (.str (sp++u)):=fun u h=>add_s (by lia)
 match m,l1,st with
 | 0,_,st=>exact ⟨.no,True.intro,.int (0:Nat),fun o h=>st o (g_asg rfl (g_if0 (e_cmp rfl rfl rfl) rfl (g_if0 (e_cmp rfl rfl rfl) rfl (g_ie (e_andf (e_cmp rfl rfl rfl) rfl) rfl (g_if0 (e_cmp rfl rfl rfl) rfl (g_done rfl)) (g_if0 (e_cmp rfl rfl rfl) rfl (g_if0 (e_cmp rfl rfl rfl) rfl (by rw [show sp++Pr.no.t=sp from List.append_nil _,show ws++Pr.no.ws=ws from List.append_nil _] at h; exact h)))))))⟩
 | 2,_,st=>exact ⟨.no,True.intro,.int (2:Nat),fun o h=>st o (g_asg rfl (g_if0 (e_cmp rfl rfl rfl) rfl (g_if0 (e_cmp rfl rfl rfl) rfl (g_ie (e_andf (e_cmp rfl rfl rfl) rfl) rfl (g_if0 (e_cmp rfl rfl rfl) rfl (g_done rfl)) (g_if0 (e_cmp rfl rfl rfl) rfl (g_if0 (e_cmp rfl rfl rfl) rfl (by rw [show sp++Pr.no.t=sp from List.append_nil _,show ws++Pr.no.ws=ws from List.append_nil _] at h; exact h)))))))⟩
 | 1,_,st =>
  refine ⟨.dot (.num p),Nat.lt_trans l2 (by decide),.int (1:Nat),fun o h=>st o (g_asg rfl (g_it (e_cmp rfl rfl rfl) rfl (g_asg (cp rfl rfl) (g_done rfl)) (g_it (e_cmp rfl rfl rfl) rfl (g_asg (e_bin (e_bin rfl rfl (hz [46] (by decide))) (e_bi rfl (str_nat (Nat.lt_trans l2 (by decide)))) (add_s (by rw [List.length_append]; show sp.length + 1 + _≤_; lia))) (g_done rfl))
   (g_ie (e_andf (e_cmp rfl rfl rfl) rfl) rfl (g_if0 (e_cmp rfl rfl rfl) rfl (g_done rfl)) (g_if0 (e_cmp rfl rfl rfl) rfl (g_if0 (e_cmp rfl rfl rfl) rfl ?_))))))⟩
  rw [show ws++(Pr.dot (.num p)).ws=ws from List.append_nil _,show sp++(Pr.dot (.num p)).t=(sp++[46])++dgS false 10 p from (List.append_assoc sp [46] _).symm] at h
  exact h
 | 3,_,st =>
  generalize AV.eqv (.int m3) (.int 0)=t at c3
  cases t with
  | true =>
   refine ⟨.dot (.star (-(p:Int))),⟨by lia,by lia⟩,.int (3:Nat),fun o h=>st o (g_asg rfl (g_it (e_cmp rfl rfl rfl) rfl (g_asg (cp rfl rfl) (g_done rfl)) (g_if0 (e_cmp rfl rfl rfl) rfl (g_it (e_and (e_cmp rfl rfl rfl) rfl (e_and (c3 rfl rfl rfl) rfl rfl)) rfl (g_app rfl (e_bi (el_cons (v:=.int (-(p:Int))) rfl rfl) (str_w (by lia))) (lw (v:=.none) hws) (g_asg rfl (g_done rfl)))
    (g_it (e_cmp rfl rfl rfl) rfl (g_asg (e_bin rfl rfl (hz [46,42] (by decide))) (g_done rfl)) (g_if0 (e_cmp rfl rfl rfl) rfl ?_))))))⟩
   rw [show (Pr.dot (.star (-(p:Int)))).v=0 by show max (-(p:Int)) 0=0; lia] at h
   exact h
  | false =>
   refine ⟨.dot (.star p),⟨by lia,by lia⟩,.int (3:Nat),fun o h=>st o (g_asg rfl (g_it (e_cmp rfl rfl rfl) rfl (g_asg (cp rfl rfl) (g_done rfl)) (g_if0 (e_cmp rfl rfl rfl) rfl (g_ie (e_and (e_cmp rfl rfl rfl) rfl (e_andf (c3 rfl rfl rfl) rfl)) rfl (g_it (e_cmp rfl rfl rfl) rfl (g_app rfl (e_bi rfl (str_w (by lia))) (lw (v:=.none) hws) (g_done rfl)) (g_done rfl))
    (g_it (e_cmp rfl rfl rfl) rfl (g_asg (e_bin rfl rfl (hz [46,42] (by decide))) (g_done rfl)) (g_if0 (e_cmp rfl rfl rfl) rfl ?_))))))⟩
   rw [show (Pr.dot (.star (p:Int))).v=p by show max (p:Int) 0=p; lia] at h
   exact h
 | 4,_,st =>
  refine ⟨.dot .no,True.intro,.int (4:Nat),fun o h=>st o (g_asg rfl (g_if0 (e_cmp rfl rfl rfl) rfl (g_if0 (e_cmp rfl rfl rfl) rfl (g_ie (e_andf (e_cmp rfl rfl rfl) rfl) rfl (g_if0 (e_cmp rfl rfl rfl) rfl (g_done rfl)) (g_if0 (e_cmp rfl rfl rfl) rfl (g_it (e_cmp rfl rfl rfl) rfl (g_asg (e_bin rfl rfl (hz [46] (by decide))) (g_asg rfl (g_done rfl))) ?_))))))⟩
  have e1:(Pr.dot .no).v=0:=rfl
  have e2:sp++(Pr.dot .no).t=sp++[46]:=rfl
  rw [show ws++(Pr.dot .no).ws=ws from List.append_nil _,e1,e2] at h
  exact h
end
end Mine
end
section
set_option tactic.hygienic false
open PySem
namespace Mine
inductive Kd | w (s:So) | s | c
noncomputable def Kd.ch:Kd→Nat
 | .w x=>x.c | .s=>115 | .c=>99
section
variable {n:Nat} {N:Int} {k:Nat}
noncomputable def lawVals:List Int:=[255,0,-32769,7,9223372036854775808,-1,18446744073709551626,40000,-2,10]
theorem ph_lval (hk:k≤1000):∃ v:Int,v.natAbs < 2 ^ 70∧Ph (n + 1) 380 [.int N,.int k]=.ok (.int v):=by
 obtain ⟨m,l1,e1⟩:=modn (N + k) 2 (by decide)
 obtain ⟨i,l2,e2⟩:=modn (N / 2 + k) 10 (by decide)
 have c1:∀ {t},AV.eqv (.int m) (.int 0)=t→ev n (.cmp (.bin .fmod (.bin .add (.v 0) (.v 1)) (.c (.int 2))) .eq (.c (.int 0))) [.val (.int N),.val (.int k),.u]=.ok (.bool t):=fun ht=>e_cmp (e_bin (e_bin rfl rfl rfl) rfl e1) rfl (congrArg R.ok ht)
 generalize AV.eqv (.int m) (.int 0)=t at c1
 cases t with
 | true =>
  obtain ⟨v,hv,e3⟩:=ixm_t (g:=AV.int) (l:=lawVals) (m:=i) l2
  have hb:∀ x ∈ lawVals,x.natAbs < 2 ^ 70:=by decide +kernel
  exact ⟨v,hb v hv,call_s (d:=d_law_value) [.val (.int N),.val (.int k),.u] rfl rfl rfl (g_ifr (c1 rfl) rfl (e_idx (x:=.tup (lawVals.map AV.int)) rfl (e_bin (e_bin (e_bin rfl rfl (z:=.int (N / 2)) rfl) rfl rfl) rfl e2) e3) rfl)⟩
 | false =>
  obtain ⟨sz,l3,e3⟩:=modn ((N.natAbs:Int) / 2) 73786976294838206464 (by decide)
  generalize hp:decide (0 < N)=p
  have hi:ev n (.ite (.cmp (.v 0) .gt (.c (.int 0))) (.v 2) (.neg (.v 2))) [.val (.int N),.val (.int k),.val (.int sz)]=.ok (.int (cond p (sz:Int) (-(sz:Int)))):=by
   cases p with
   | true=>exact e_t (e_cmp rfl rfl rfl) hp rfl
   | false=>exact e_f (e_cmp rfl rfl rfl) hp rfl
  refine ⟨cond p (sz:Int) (-(sz:Int)) + 5 * k - 12,?_,call_s (d:=d_law_value) [.val (.int N),.val (.int k),.u] rfl rfl rfl (g_if0 (c1 rfl) rfl (g_asg (e_bin (e_bin (e_bi rfl rfl) rfl (z:=.int ((N.natAbs:Int) / 2)) rfl) rfl (y:=.int 73786976294838206464) e3) (g_ret (e_bin (e_bin hi (e_bin rfl rfl rfl) rfl) rfl rfl) rfl)))⟩
  cases p
  ·show (-(sz:Int) + 5 * k - 12).natAbs < _
   omega
  ·show ((sz:Int) + 5 * k - 12).natAbs < _
   omega
noncomputable def lawTexts:List Tx:=[[97,98],[120,32,121,32,122],[],[233,37,100],[123,97],[49,50,51,52,53,54,55,56]]
noncomputable def lawChars:List Int:=[65,233,8364,128512,-1,1114112,32,37]
theorem st_v {a3 a4 a5 a6 a8 a9 a10:AV} {ws:List AV} (kd:Kd) (hk:k≤1000) (hws:ws.length≤10):∃ fi:Fi,fi.Ok∧fi.sort=kd.ch∧∀ o,Go (n + 2) (c_law_field.drop 16) [.val (.int N),.val (.int k),.val (.str [kd.ch]),.val a3,.val a4,.val a5,.val a6,.ol (ws++[.str fi.text]),.val a8,.val a9,.val a10,.val fi.val] nx o →
  Go (n + 2) (c_law_field.drop 15) [.val (.int N),.val (.int k),.val (.str [kd.ch]),.val a3,.val a4,.val a5,.val a6,.ol ws,.val a8,.val a9,.val a10,.u] nx o:=by
 have lw:decide (ws.length < lLine)=true:=llt (Nat.le_trans hws (by decide))
 cases kd with
 | s =>
  obtain ⟨m,l1,e1⟩:=modn (N / 3 + k) 6 (by decide)
  obtain ⟨t,ht,e2⟩:=ixm_t (g:=AV.str) (l:=lawTexts) (m:=m) l1
  have hb:∀ x ∈ lawTexts,x.length≤100:=by decide +kernel
  exact ⟨.s t,hb t ht,rfl,fun o h=>g_it (e_cmp rfl rfl rfl) rfl (g_asg (e_idx (x:=.tup (lawTexts.map AV.str)) rfl (e_bin (e_bin (e_bin rfl rfl (z:=.int (N / 3)) rfl) rfl rfl) rfl e1) e2) (g_app rfl rfl lw (g_done rfl))) h⟩
 | c =>
  obtain ⟨m,l1,e1⟩:=modn (N / 3 + k) 8 (by decide)
  obtain ⟨v,hv,e2⟩:=ixm_t (g:=AV.int) (l:=lawChars) (m:=m) l1
  have hb:∀ x ∈ lawChars,-2147483648≤x∧x < 4294967296:=by decide +kernel
  have hv:=hb v hv
  exact ⟨.c v,hv,rfl,fun o h=>g_ie (e_cmp rfl rfl rfl) rfl (g_it (e_cmp rfl rfl rfl) rfl (g_asg (e_idx (x:=.tup (lawChars.map AV.int)) rfl (e_bin (e_bin (e_bin rfl rfl (z:=.int (N / 3)) rfl) rfl rfl) rfl e1) e2) (g_app rfl (e_bi rfl (str_w (by omega))) lw (g_done rfl))) (g_done rfl)) h⟩
 | w s =>
  obtain ⟨v,hv,e1⟩:=ph_lval (n:=n + 1) (N:=N / 2) hk
  have e2:=ph_written (n:=n) (way:=N / 4 + k) (Nat.lt_trans hv (by decide))
  exact ⟨.w s _ v,hv,rfl,fun o h=>g_ie (e_cmp rfl rfl rfl) s.n1 (g_ie (e_cmp rfl rfl rfl) s.n2 (g_asg (e_call (el_cons (e_bin rfl rfl (z:=.int (N / 2)) rfl) rfl) e1) (g_app rfl (e_call (el_cons rfl (el_cons (e_bin (e_bin rfl rfl (z:=.int (N / 4)) rfl) rfl rfl) rfl)) e2) lw (g_done rfl))) (g_done rfl)) h⟩
noncomputable def flagE:ME:=.sm .join (.c (.str [])) [(.comp [4] .rng (.c (.int 5)) (some (.idx (.c (.str [45,43,32,48,35])) (.v 0))) (some (.cmp (.bin .fmod (.bin .fdiv (.v 1) (.bin .pow (.c (.int 2)) (.v 0))) (.c (.int 2))) .eq (.c (.int 1)))))]
noncomputable def chkFl (r:R AV):Bool:=match r with
 | .ok (.str fl)=>fl.all isFl && Nat.ble fl.length 5
 | _=>false
theorem fl_all:∀ m,m < 32→chkFl (evE noCalls flagE [.u,.u,.u,.u,.val (.int (m:Nat))])=true:=by decide +kernel
theorem fl_of {m:Nat} (h:m < 32) {a0 a1 a2 a3:AV} {r:Env'}:∃ fl:Tx,(∀ k ∈ fl,isFl k=true)∧fl.length≤5∧ev n flagE (.val a0::.val a1::.val a2::.val a3::.val (.int m)::r)=.ok (.str fl):=by
 have h1:=fl_all m h
 have e:ev n flagE (.val a0::.val a1::.val a2::.val a3::.val (.int m)::r)=evE noCalls flagE [.u,.u,.u,.u,.val (.int (m:Nat))]:=by kernel_rfl
 rw [e]
 generalize evE noCalls flagE [.u,.u,.u,.u,.val (.int (m:Nat))]=q at h1
 cases q with
 | ok v=>cases v with
  | str fl=>exact ⟨fl,List.all_eq_true.mp (and2 h1).1,Nat.le_of_ble_eq_true (and2 h1).2,rfl⟩
  | _=>cases h1
 | _=>cases h1
theorem Kd.ok (kd:Kd):NoSz kd.ch∧Pl kd.ch∧kd.ch≠36∧kd.ch≠37:=by
 cases kd with
 | w s=>cases s <;> exact ⟨⟨rfl,rfl,rfl,rfl⟩,⟨by decide +kernel,by decide +kernel,by decide +kernel,rfl⟩,by decide +kernel,by decide +kernel⟩
 | _=>exact ⟨⟨rfl,rfl,rfl,rfl⟩,⟨by decide +kernel,by decide +kernel,by decide +kernel,rfl⟩,by decide +kernel,by decide +kernel⟩
noncomputable def no2 (k:Nat):Prop:=k≠36∧k≠37
theorem no2_of {p:Nat→Bool} (h6:p 36=false) (h7:p 37=false) {k:Nat} (h:p k=true):k≠36∧k≠37 :=
 ⟨fun e=>by subst e; exact Bool.false_ne_true (h6.symm.trans h),fun e=>by subst e; exact Bool.false_ne_true (h7.symm.trans h)⟩
theorem Me.no2 (m:Me):∀ k ∈ m.t,k≠36∧k≠37:=match m with
 | .no=>fun _ h=>nomatch h
 | .num k=>fun d h=>no2_of (p:=isD 10) (by decide +kernel) (by decide +kernel) (dgS_D (b:=10) (by decide) (by decide) d h)
 | .star v=>fun d h=>by cases List.mem_singleton.mp h; exact ⟨by decide,by decide⟩
theorem Pr.no2 (p:Pr):∀ k ∈ p.t,k≠36∧k≠37:=match p with
 | .no=>fun _ h=>nomatch h
 | .dot me=>fun d h=>(List.mem_cons.mp h).elim (fun e=>by subst e; exact ⟨by decide,by decide⟩) fun h=>me.no2 d h
theorem Sz.no2 (z:Sz):∀ k ∈ z.s,k≠36∧k≠37:=by cases z <;> decide +kernel
theorem spec_no2 {fl:Tx} (hf:∀ k ∈ fl,isFl k=true) (me:Me) (pr:Pr) (z:Sz):∀ k ∈ specT fl me pr z [],k≠36∧k≠37:=fun k h =>
 (List.mem_append.mp h).elim (fun h=>no2_of (p:=isFl) (by decide +kernel) (by decide +kernel) (hf k h)) fun h=>(List.mem_append.mp h).elim (me.no2 k) fun h=>(List.mem_append.mp h).elim (pr.no2 k) fun h=>(List.mem_append.mp h).elim (z.no2 k) fun h=>nomatch h
noncomputable def kdL:List Kd:=[.w .d,.s,.w .x,.w .u,.c,.w .X,.w .o,.w .b,.w .i]
noncomputable def szL:List Sz:=[.e,.h,.l,.ll,.e,.L,.j,.q,.z,.t,.ll]
noncomputable def fldV (fl:Tx) (me:Me) (pr:Pr) (z:Sz) (fi:Fi):AV:=.tup [.str (specT fl me pr z [fi.sort]),.lst (me.ws++(pr.ws++[.str fi.text])),optS (madeO fi z (flW fl me.v) (wdW me.v) pr.v)]
theorem Me.ws_len (m:Me):m.ws.length≤1:=by cases m <;> exact Nat.le_of_ble_eq_true rfl
theorem Pr.ws_len (p:Pr):p.ws.length≤1:=by
 cases p with
 | no=>exact Nat.zero_le _
 | dot m=>exact m.ws_len
theorem Me.t_len (m:Me):m.t.length≤100:=by
 cases m with
 | no=>exact Nat.zero_le _
 | num k=>exact dgS_len _ _ _
 | star v=>exact Nat.le_of_ble_eq_true rfl
theorem Pr.t_len (p:Pr):p.t.length≤101:=by
 cases p with
 | no=>exact Nat.zero_le _
 | dot m=>exact Nat.succ_le_succ m.t_len
theorem Sz.len (z:Sz):z.s.length≤2:=by cases z <;> exact Nat.le_of_ble_eq_true rfl
end
end Mine
end
section
set_option tactic.hygienic false
open PySem
namespace Mine
section
variable {n:Nat} {N:Int} {k:Nat}
theorem wdW_le {m:Me} (h:m.OkW):-1000≤wdW m.v∧wdW m.v≤1000:=by
 have:=h.le
 unfold wdW
 cases decide (m.v < 0)
 ·exact this
 ·show -1000≤-m.v∧-m.v≤1000
  lia
def LfG (n k:Nat) (N:Int):Prop:=∃ fl me pr z fi,FOk fl me pr z fi∧fl.length≤5∧Ph (n + 4) 420 [.int N,.int k]=.ok (fldV fl me pr z fi)
theorem ph_lfield (hk:k≤1000):LfG n k N:=by
 obtain ⟨m1,l1,e1⟩:=modn (N + k) 9 (by decide)
 obtain ⟨kd,_,f1⟩:=ixm_s (g:=Kd.ch) (l:=kdL) (m:=m1) l1
 obtain ⟨m2,l2,e2⟩:=modn (N / 9 + 3 * k + 1) 11 (by decide)
 obtain ⟨z,_,f2⟩:=ixm_t (g:=fun z:Sz=>AV.str z.s) (l:=szL) (m:=m2) l2
 obtain ⟨m3,l3,e3⟩:=modn (N / 99 + 11 * k + 8) 32 (by decide)
 obtain ⟨w,l4,e4⟩:=modn (N / 3168 + 3 * k + 6) 14 (by decide)
 obtain ⟨fl,hf,hfl,f3⟩:=fl_of (n:=n + 3) l3 (a0:=.int N) (a1:=.int k) (a2:=.str [kd.ch]) (a3:=.str z.s) (r:=[.u,.u,.u,.u,.u,.u,.u])
 obtain ⟨me,hme,W⟩:=st_w (n:=n + 3) (N:=N) (k:=k) (w:=w) (fl:=fl) (a2:=.str [kd.ch]) (a3:=.str z.s) (a4:=.int m3) (s9:=.u) (s10:=.u) (s11:=.u) l4 (Nat.le_trans hfl (by decide))
 have lm:=me.t_len
 have lmw:=me.ws_len
 obtain ⟨pr,hpr,kv,P⟩:=st_p (n:=n + 3) (N:=N) (k:=k) (sp:=fl++me.t) (a2:=.str [kd.ch]) (a3:=.str z.s) (a4:=.int m3) (s9:=.u) (s10:=.u) (s11:=.u) (a5:=.str (flW fl me.v)) (a8:=.int (wdW me.v)) (ws:=me.ws) (by rw [List.length_append]; lia) (by lia)
 have lp:=pr.t_len
 have lpw:=pr.ws_len
 have lz:=z.len
 obtain ⟨fi,hfi,hso,V⟩:=st_v (n:=n + 1) (N:=N) (k:=k) (a3:=.str z.s) (a4:=.int m3) (a5:=.str (flW fl me.v)) (a6:=.str (fl++me.t++pr.t)) (a8:=.int (wdW me.v)) (a9:=kv) (a10:=.int pr.v) (ws:=me.ws++pr.ws) kd hk (by rw [List.length_append]; lia)
 have K:=kd.ok
 have F:FOk fl me pr z fi:=⟨hf,Nat.le_trans hfl (by decide),hme,hpr,hfi,hso ▸ K.1,hso ▸ K.2.1,spec_no2 hf me pr z,hso ▸ K.2.2⟩
 have hmade:=ph_made (n:=n) (z:=z) (fl:=flW fl me.v) hfi (wdW_le hme).1 (wdW_le hme).2 hpr.le
 rw [hso] at hmade
 have es:(((fl++me.t++pr.t)++z.s)++[kd.ch]:Tx)=specT fl me pr z [fi.sort]:=by
  unfold specT
  rw [hso,List.append_assoc,List.append_assoc,List.append_assoc]
 have ew:(me.ws++pr.ws)++[AV.str fi.text]=me.ws++(pr.ws++[AV.str fi.text]):=List.append_assoc _ _ _
 rw [ew] at V
 refine ⟨fl,me,pr,z,fi,F,hfl,call_s (d:=d_law_field) [.val (.int N),.val (.int k),.u,.u,.u,.u,.u,.u,.u,.u,.u,.u] rfl rfl rfl ?_⟩
 refine g_asg (e_idx rfl (e_bin (e_bin rfl rfl rfl) rfl e1) f1) ?_
 refine g_asg (e_idx (x:=.tup (szL.map fun z:Sz=>AV.str z.s)) rfl (e_bin (e_bin (e_bin (e_bin rfl rfl (z:=.int (N / 9)) rfl) (e_bin rfl rfl (z:=.int (3 * k)) rfl) rfl) rfl rfl) rfl e2) f2) ?_
 refine g_asg (e_bin (e_bin (e_bin (e_bin rfl rfl (z:=.int (N / 99)) rfl) (e_bin rfl rfl (z:=.int (11 * k)) rfl) rfl) rfl rfl) rfl e3) ?_
 refine g_asg f3 (g_asg rfl (g_nx rfl ?_))
 refine g_asg (e_bin (e_bin (e_bin (e_bin rfl rfl (z:=.int (N / 3168)) rfl) (e_bin rfl rfl (z:=.int (3 * k)) rfl) rfl) rfl rfl) rfl e4) (W _ (P _ (V _ ?_)))
 refine g_frz rfl (g_ret (e_tup (el_cons (e_bin (e_bin rfl rfl (add_s (by rw [List.length_append,List.length_append]; lia))) rfl (add_s (t:=[kd.ch]) (by rw [List.length_append,List.length_append,List.length_append]; show _ + 1≤_; lia))) (el_cons rfl (el_cons (e_call rfl hmade) rfl))) rfl) ?_)
 rw [es]
 rfl
end
end Mine
end
section
set_option tactic.hygienic false
open PySem
namespace Mine
section
variable {n:Nat} {ns:List Int} {p:Nat} {f t:Tx} {c args:List AV}
theorem ph_num:∃ N:Int,Ph (n + 1) 373 [.lst (ns.map AV.int),.int p]=.ok (.int N):=by
 cases ns with
 | nil=>exact ⟨0,call_s (d:=d_law_number) [.val (.lst []),.val (.int p)] rfl rfl rfl (g_ret (e_f (e_cmp rfl rfl rfl) rfl rfl) rfl)⟩
 | cons x ns =>
  obtain ⟨m,hm,e⟩:=modn p ((x::ns).map AV.int).length (by rw [List.length_map]; exact Nat.succ_pos _)
  have h:∃ N:Int,((x::ns).map AV.int)[m]?=some (.int N):=by
   rw [List.length_map] at hm
   exact ⟨(x::ns)[m],by rw [List.getElem?_map,List.getElem?_eq_getElem hm]; rfl⟩
  obtain ⟨N,hN⟩:=h
  exact ⟨N,call_s (d:=d_law_number) [.val (.lst ((x::ns).map AV.int)),.val (.int p)] rfl rfl rfl (g_ret (e_t (e_cmp (e_bi rfl rfl) rfl rfl) (dlt (Int.ofNat_lt.mpr (Nat.succ_pos _))) (e_idx rfl (e_bin rfl (e_bi rfl rfl) e) (ixl hN))) rfl)⟩
theorem bdx {α β:Type} {x:R α} {g:α→R β} (h:x=.exn t c):x.bind g=.exn t c:=by rw [h]; rfl
section
variable {σ:Env'} {e:ME} {l:List ME} {v:AV} {r:List MS} {ff:Env'→Out} {j:Nat}
theorem el_x (h1:ev n e σ=.exn t c):evl n (e::l) σ=.exn t c:=bdx h1
theorem el_cx (h1:ev n e σ=.ok v) (h2:evl n l σ=.exn t c):evl n (e::l) σ=.exn t c:=bd h1 (bdx h2)
theorem e_tupx (h1:evl n l σ=.exn t c):ev n (.tup l) σ=.exn t c:=bdx h1
theorem g_tryok (h1:ev n e σ=.ok v):Go n (.tryR e j::r) σ ff (.ok (.ret v)):=by
 rw [go_cons]
 exact congrArg (fun q=>seqO (tryRO q) _) h1
theorem g_tryx (h1:ev n e σ=.exn t c):Go n (.tryR e j::r) σ ff (.ok (.ret (caught t c))):=by
 rw [go_cons]
 exact congrArg (fun q=>seqO (tryRO q) _) h1
end
theorem told_ok (h:Ph n 360 [.str f,.lst args]=.ok (.str t)):Ph (n + 1) 427 [.str f,.lst args]=.ok (.tup [.int 0,.str t,.tup []]) :=
 call_o (d:=d_law_told) [.val (.str f),.val (.lst args),.u] rfl rfl rfl (g_tryok (e_tup (el_cons rfl (el_cons (e_call rfl h) (el_cons rfl rfl))) rfl)) rfl
theorem told_x (h:Ph n 360 [.str f,.lst args]=.exn t c):Ph (n + 1) 427 [.str f,.lst args]=.ok (.tup [.int 1,.str t,.tup c]) :=
 call_o (d:=d_law_told) [.val (.str f),.val (.lst args),.u] rfl rfl rfl (g_tryx (e_tupx (el_cx rfl (el_x (e_callr rfl h))))) rfl
end
end Mine
end
section
set_option tactic.hygienic false
open PySem
namespace Mine
noncomputable def preT:List Tx:=[[97],[],[49,48,48,37,37,32],[32,98],[37,37]]
noncomputable def preR:List Tx:=[[97],[],[49,48,48,37,32],[32,98],[37]]
section
variable {n:Nat} {f r:Tx} {a i:Nat} {args:List AV} {srt:Tx} {o:Out} {made:List AV}
theorem lp_pre {w:Nat} (hw:w < 5) (hm:made.length≤900) (h:f.drop a=(preT[w]?).getD []++37::r):∃ (x:Tx) (a':Nat) (m:List Tx),(∀ k ∈ x,k≠37)∧f.drop a'=x++37::r∧m.flatten++x=(preR[w]?).getD []∧m.length≤2∧(LP (n + 1) f args a' i srt (made++m.map AV.str) o→LP (n + 1) f args a i srt made o):=by
 have none:∀ x:Tx,(∀ k ∈ x,k≠37)→f.drop a=x++37::r→∃ (y:Tx) (a':Nat) (m:List Tx),(∀ k ∈ y,k≠37)∧f.drop a'=y++37::r∧m.flatten++y=x∧m.length≤2∧(LP (n + 1) f args a' i srt (made++m.map AV.str) o→LP (n + 1) f args a i srt made o) :=
  fun x hx h=>⟨x,a,[],hx,h,rfl,by decide,fun k=>by rw [show made++List.map AV.str []=made from List.append_nil _] at k; exact k⟩
 have two:∀ x y:Tx,(∀ k ∈ x,k≠37)→(∀ k ∈ y,k≠37)→f.drop a=x++37::37::(y++37::r)→∃ (z:Tx) (a':Nat) (m:List Tx),(∀ k ∈ z,k≠37)∧f.drop a'=z++37::r∧m.flatten++z=x++37::y∧m.length≤2∧(LP (n + 1) f args a' i srt (made++m.map AV.str) o→LP (n + 1) f args a i srt made o) :=
  fun x y hx hy h=>⟨y,a + x.length + 2,[x,[37]],hy,at_next (at_next (d_app h)),by show (x++([37]++[]))++y=_; rw [List.append_assoc]; rfl,Nat.le_refl 2,fun k=>lp_pp h hx (Nat.le_trans hm (by decide)) rfl (by
   rw [show made++List.map AV.str [x,[37]]=made++[.str x]++[.str [37]] from (List.append_assoc made [AV.str x] [AV.str [37]]).symm] at k
   exact k)⟩
 match w,hw,h with
 | 0,_,h=>exact none [97] (by decide) h
 | 1,_,h=>exact none [] (by decide) h
 | 2,_,h=>exact two [49,48,48] [32] (by decide) (by decide) h
 | 3,_,h=>exact none [32,98] (by decide) h
 | 4,_,h=>exact two [] [] (by decide) (by decide) h
end
structure Fd where
 fl:Tx
 me:Me
 pr:Pr
 z:Sz
 fi:Fi
namespace Fd
noncomputable def sp (d:Fd):Tx:=specT d.fl d.me d.pr d.z [d.fi.sort]
noncomputable def ws (d:Fd):List AV:=d.me.ws++(d.pr.ws++[.str d.fi.text])
noncomputable def part (d:Fd):Option Tx:=madeO d.fi d.z (flW d.fl d.me.v) (wdW d.me.v) d.pr.v
noncomputable def av (d:Fd):AV:=.tup [.str d.sp,.lst d.ws,optS d.part]
def Ok (d:Fd):Prop:=FOk d.fl d.me d.pr d.z d.fi∧d.fl.length≤5
end Fd
abbrev It:=List (Fd × Nat)
noncomputable def wsum:It→Nat
 | []=>0
 | b::B=>b.1.ws.length + wsum B
noncomputable def formT (pl:Bool):It→Tx
 | []=>[]
 | b::B=>(preT[b.2]?).getD []++37::(cond pl (dgS false 10 (wsum B + 1)++[36]) []++(b.1.sp++formT pl B))
noncomputable def showT:It→Option Tx
 | []=>some []
 | b::B=>b.1.part.bind fun t=>(showT B).map fun s=>(preR[b.2]?).getD []++(t++s)
noncomputable def outT (m:Tx) (s:Option Tx):Out:=match s with
 | some s=>.ok (.ret (.str (m++(s++[37,46]))))
 | none=>.exn sUns (fmtCode kUns)
noncomputable def wordsF:It→List AV
 | []=>[]
 | b::B=>b.1.ws++wordsF B
noncomputable def wordsB:It→List AV
 | []=>[]
 | b::B=>wordsB B++b.1.ws
theorem wordsB_len:∀ B:It,(wordsB B).length=wsum B
 | []=>rfl
 | b::B=>by
  show (wordsB B++b.1.ws).length=b.1.ws.length + wsum B
  rw [List.length_append,wordsB_len B,Nat.add_comm]
theorem spec_cons {fl:Tx} {me:Me} {pr:Pr} {z:Sz} {s:Nat} {r:Tx}:specT fl me pr z (s::r)=specT fl me pr z [s]++r:=by
 rw [spec_app,spec_app (r:=[s]),List.append_assoc]
 rfl
theorem padT_len {fl m:Tx} {c:Nat} {w:Int} (hm:m.length≤1200) (w2:w≤1000):(padT fl c w m).length≤2200:=by
 unfold padT
 cases fl.contains 45
 ·show (repl (w - m.length) [c]++m).length≤_
  rw [List.length_append,repl_len]
  lia
 ·show (m++repl (w - m.length) [c]).length≤_
  rw [List.length_append,repl_len]
  lia
theorem Fd.part_len {d:Fd} (h:d.Ok) {t:Tx} (ht:d.part=some t):t.length≤2200:=by
 obtain ⟨fl,me,pr,z,fi⟩:=d
 have F:FOk fl me pr z fi:=h.1
 have w2:=(wdW_le F.hme).2
 have p2:=F.hpr.le
 have hx:=F.hx
 cases fi with
 | s t0=>cases ht; exact padT_len (cut_len hx) w2
 | c v=>cases ht; exact padT_len cc_len w2
 | w k q v =>
  revert ht
  show cond (k.isU && (z.big && decide (v < 0))) none (some _)=_→_
  cases k.isU && (z.big && decide (v < 0))
  ·intro ht; cases ht; exact padT_len (wholeT_len w2 p2) w2
  ·intro ht; cases ht
theorem preR_len:∀ w,w < 5→((preR[w]?).getD []).length≤5:=by decide +kernel
section
variable {n:Nat} {f:Tx} {args:List AV}
theorem lp_tail {a i:Nat} {srt:Tx} {ss:List Tx} (h:f.drop a=[37,37,46]) (hs:ss.length≤500) (hl:ss.flatten.length≤90000):LP (n + 7) f args a i srt (ss.map AV.str) (outT ss.flatten (some [])):=by
 refine lp_pp (x:=[]) (r:=[46]) h (fun _ h=>nomatch h) (by rw [List.length_map]; lia) rfl ?_
 have e:ss.map AV.str++[AV.str []]++[AV.str [37]]=(ss++[[]]++[[37]]).map AV.str:=by rw [List.map_append,List.map_append]; rfl
 rw [e]
 have:=lp_last (n:=n + 6) (f:=f) (args:=args) (i:=i) (srt:=srt) (ss:=ss++[[]]++[[37]]) (a:=a + 2) (c:=46) (x:=[]) (at_next (at_next h)) (by decide) (by rw [List.flatten_append,List.flatten_append,List.flatten_append,List.length_append,List.length_append,List.length_append]; show _ + 0 + 1 + 1≤_; lia) (by rw [List.length_append,List.length_append]; show ss.length + 1 + 1≤_; lia)
 have e2:(ss++[[]]++[[37]]++[[46]]).flatten=ss.flatten++([]++[37,46]):=by
  rw [List.append_assoc,List.append_assoc,List.flatten_append]
  rfl
 rw [e2] at this
 exact this
end
end Mine
end
section
set_option tactic.hygienic false
open PySem
namespace Mine
section
variable {n:Nat} {f:Tx} {args:List AV}
theorem Fd.sp_len (d:Fd):d.sp.length=d.fl.length + d.me.t.length + d.pr.t.length + d.z.s.length + 1:=len_spec
theorem Fd.ws_len (d:Fd):d.ws.length=d.me.ws.length + d.pr.ws.length + 1:=by
 show (d.me.ws++(d.pr.ws++[_])).length=_
 rw [List.length_append,List.length_append,Nat.add_assoc]
 rfl
theorem preR_le {w:Nat} (h:w < 5) {x:Tx} {m:List Tx} (e:m.flatten++x=(preR[w]?).getD []):m.flatten.length + x.length≤5:=by
 have:=preR_len w h
 rw [← e,List.length_append] at this
 exact this
theorem map_snoc {ss m:List Tx} {x t:Tx}:ss.map AV.str++m.map AV.str++[AV.str x]++[AV.str t]=(ss++m++[x]++[t]).map AV.str:=by
 rw [List.map_append,List.map_append,List.map_append]
 rfl
theorem flat_snoc {ss m:List Tx} {x t:Tx}:(ss++m++[x]++[t]).flatten=ss.flatten++(m.flatten++x)++t:=by
 rw [List.flatten_append,List.flatten_append,List.flatten_append,List.append_assoc ss.flatten]
 show ss.flatten++(m.flatten++(x++[]))++(t++[])=_
 rw [List.append_nil,List.append_nil]
theorem lp_all1:∀ (B:It) {a i:Nat} {srt:Tx} {ss:List Tx},srt=[]∨srt=[37]→(∀ b ∈ B,b.1.Ok∧b.2 < 5)→f.drop a=formT false B++[37,37,46]→args.drop i=wordsF B→ss.length + 10 * B.length≤100→ss.flatten.length + 3000 * B.length≤50000→LP (n + 7) f args a i srt (ss.map AV.str) (outT ss.flatten (showT B))
 | [],a,i,srt,ss,_,_,h,_,h1,h2=>lp_tail h (by lia) (by lia)
 | b::B,a,i,srt,ss,hs,hB,h,hw,h1,h2=>by
  have hb:=hB b (.head _)
  have F:=hb.1.1
  have hp:f.drop a=(preT[b.2]?).getD []++37::(b.1.sp++(formT false B++[37,37,46])):=by
   rw [h]
   show ((preT[b.2]?).getD []++37::([]++(b.1.sp++formT false B)))++_=_
   rw [List.append_assoc]
   show _++37::((b.1.sp++formT false B)++_)=_
   rw [List.append_assoc]
  have l1:ss.length + (10 * B.length + 10)≤100:=h1
  have l2:ss.flatten.length + (3000 * B.length + 3000)≤50000:=h2
  obtain ⟨x,a',m,hx,ha,e1,e2,K⟩:=lp_pre (n:=n + 6) (args:=args) (i:=i) (srt:=srt) (o:=outT ss.flatten (showT (b::B))) (made:=ss.map AV.str) hb.2 (by rw [List.length_map]; lia) hp
  have l3:=preR_le hb.2 e1
  refine K (lp_f1 (x:=x) (b:=a' + x.length) (r:=formT false B++[37,37,46]) (xs:=wordsF B) F ?_ hx ?_ rfl hs ?_ (fun t ht=>?_) fun ht=>?_)
  ·rw [spec_cons]
   exact ha
  ·rw [List.length_append,List.length_map,List.length_map]
   lia
  ·rw [hw]
   show (b.1.me.ws++(b.1.pr.ws++[_]))++wordsF B=_
   rw [List.append_assoc,List.append_assoc]
   rfl
  ·have l4:=Fd.part_len hb.1 ht
   rw [map_snoc]
   have ho:outT ss.flatten (showT (b::B))=outT (ss++m++[x]++[t]).flatten (showT B):=by
    show outT _ (b.1.part.bind _)=_
    rw [show b.1.part=some t from ht,flat_snoc,e1]
    cases showT B with
    | none=>rfl
    | some s =>
     show R.ok (Ctl.ret (AV.str _))=R.ok (Ctl.ret (AV.str _))
     rw [List.append_assoc,List.append_assoc,List.append_assoc,List.append_assoc]
   rw [ho]
   refine lp_all1 B (.inr rfl) (fun c hc=>hB c (.tail _ hc)) ?_ ?_ (by rw [List.length_append,List.length_append,List.length_append]; show ss.length + m.length + 1 + 1 + _≤_; lia) (by rw [flat_snoc,List.length_append,List.length_append,List.length_append]; lia)
   ·have:=d_app (at_next (d_app ha))
    rw [Fd.sp_len] at this
    rw [← this]
    congr 1
    lia
   ·have:=d_app (hw:args.drop i=b.1.ws++wordsF B)
    rw [Fd.ws_len,← Nat.add_assoc,← Nat.add_assoc] at this
    exact this
  ·show outT _ (b.1.part.bind _)=_
   rw [show b.1.part=none from ht]
   rfl
theorem Fd.ws3 (d:Fd):d.ws.length≤3:=by
 rw [d.ws_len]
 have:=d.me.ws_len
 have:=d.pr.ws_len
 lia
theorem wsum_le:∀ B:It,wsum B≤3 * B.length
 | []=>Nat.le_refl _
 | b::B=>by
  have:=b.1.ws3
  have:=wsum_le B
  show b.1.ws.length + wsum B≤3 * (B.length + 1)
  lia
theorem lp_all2:∀ (B:It) {a i:Nat} {srt:Tx} {ss:List Tx} {ww:List AV},srt=[]∨srt=[36]→(∀ b ∈ B,b.1.Ok∧b.2 < 5)→f.drop a=formT true B++[37,37,46]→args=wordsB B++ww→ss.length + 10 * B.length≤100→ss.flatten.length + 3000 * B.length≤50000→LP (n + 7) f args a i srt (ss.map AV.str) (outT ss.flatten (showT B))
 | [],a,i,srt,ss,ww,_,_,h,_,h1,h2=>lp_tail h (by lia) (by lia)
 | b::B,a,i,srt,ss,ww,hs,hB,h,hw,h1,h2=>by
  have hb:=hB b (.head _)
  have F:=hb.1.1
  have hp:f.drop a=(preT[b.2]?).getD []++37::(dgS false 10 (wsum B + 1)++36::(b.1.sp++(formT true B++[37,37,46]))):=by
   rw [h]
   show ((preT[b.2]?).getD []++37::((dgS false 10 (wsum B + 1)++[36])++(b.1.sp++formT true B)))++_=_
   rw [List.append_assoc]
   show _++37::(((dgS false 10 (wsum B + 1)++[36])++(b.1.sp++formT true B))++_)=_
   rw [List.append_assoc,List.append_assoc,List.append_assoc]
   rfl
  have l1:ss.length + (10 * B.length + 10)≤100:=h1
  have l2:ss.flatten.length + (3000 * B.length + 3000)≤50000:=h2
  have hws:args=wordsB B++(b.1.ws++ww):=by rw [hw]; exact List.append_assoc _ _ _
  obtain ⟨x,a',m,hx,ha,e1,e2,K⟩:=lp_pre (n:=n + 6) (args:=args) (i:=i) (srt:=srt) (o:=outT ss.flatten (showT (b::B))) (made:=ss.map AV.str) hb.2 (by rw [List.length_map]; lia) hp
  have l3:=preR_le hb.2 e1
  have lw:=wsum_le B
  refine K (lp_f2 (x:=x) (b:=a' + x.length) (r:=formT true B++[37,37,46]) (xs:=ww) (j:=wsum B) F (Nat.lt_trans (by lia:wsum B + 1 < 100) (by decide +kernel)) ?_ hx ?_ rfl hs ?_ (fun t ht=>?_) fun ht=>?_)
  ·rw [spec_cons]
   exact ha
  ·rw [List.length_append,List.length_map,List.length_map]
   lia
  ·rw [hws,List.drop_left' (wordsB_len B)]
   show (b.1.me.ws++(b.1.pr.ws++[_]))++ww=_
   rw [List.append_assoc,List.append_assoc]
   rfl
  ·have l4:=Fd.part_len hb.1 ht
   rw [map_snoc]
   have ho:outT ss.flatten (showT (b::B))=outT (ss++m++[x]++[t]).flatten (showT B):=by
    show outT _ (b.1.part.bind _)=_
    rw [show b.1.part=some t from ht,flat_snoc,e1]
    cases showT B with
    | none=>rfl
    | some s =>
     show R.ok (Ctl.ret (AV.str _))=R.ok (Ctl.ret (AV.str _))
     rw [List.append_assoc,List.append_assoc,List.append_assoc,List.append_assoc]
   rw [ho]
   refine lp_all2 B (.inr rfl) (fun c hc=>hB c (.tail _ hc)) ?_ hws (by rw [List.length_append,List.length_append,List.length_append]; show ss.length + m.length + 1 + 1 + _≤_; lia) (by rw [flat_snoc,List.length_append,List.length_append,List.length_append]; lia)
   have:=d_app (at_next (d_app (at_next (d_app ha))))
   rw [Fd.sp_len] at this
   rw [← this]
   congr 1
   lia
  ·show outT _ (b.1.part.bind _)=_
   rw [show b.1.part=none from ht]
   rfl
theorem ph_format {pl:Bool} {B:It} (hB:∀ b ∈ B,b.1.Ok∧b.2 < 5) (hl:B.length≤5):Ph (n + 8) 360 [.str (formT pl B++[37,37,46]),.lst (cond pl (wordsB B) (wordsF B))]=back (outT [] (showT B)):=by
 refine call_o (d:=d_format_text) (o:=outT [] (showT B)) [.val (.str (formT pl B++[37,37,46])),.val (.lst (cond pl (wordsB B) (wordsF B))),.u,.u,.u,.u,.u,.u,.u,.u] rfl rfl rfl (g_nx rfl (g_asg rfl (g_asg rfl (g_asg rfl ?_)))) rfl
 cases pl with
 | true=>exact lp_all2 (n:=n) (ss:=[]) (a:=0) (i:=0) B (.inl rfl) hB rfl (List.append_nil _).symm (by show 0 + _≤_; lia) (by show 0 + _≤_; lia) _ _ _ _
 | false=>exact lp_all1 (n:=n) (ss:=[]) (a:=0) (i:=0) B (.inl rfl) hB rfl rfl (by show 0 + _≤_; lia) (by show 0 + _≤_; lia) _ _ _ _
end
end Mine
end
section
set_option tactic.hygienic false
open PySem
namespace Mine
section
variable {n k:Nat} {ns:List Int} {o:Out} {F:Env'→Out} {start:Int}
noncomputable def fB1:List MS:=[.app 3 (.call 420 [(.call 373 [(.v 0),(.bin .add (.bin .mul (.c (.int 3)) (.v 1)) (.v 4))]),(.bin .add (.bin .mul (.c (.int 3)) (.v 1)) (.v 4))])]
noncomputable def st1 (ns:List Int) (k:Nat) (start:Int) (L:List Fd) (s4:SV):Env':=[.val (.lst (ns.map AV.int)),.val (.int k),.val (.int start),.ol (L.map Fd.av),s4,.u,.u,.u,.u,.u,.u,.u,.u,.u]
theorem fr1 (hk:k≤10):∀ (js:List Nat) (L0:List Fd),(∀ j ∈ js,j≤10)→L0.length + js.length≤10→∃ L:List Fd,L.length=js.length∧(∀ d ∈ L,d.Ok)∧∀ s4,(∀ s4',F (st1 ns k start (L0++L) s4')=o)→Fr (n + 4) .rng [4] fB1 (js.map fun (j:Nat)=>AV.int j) (st1 ns k start L0 s4) F o
 | [],L0,_,_=>⟨[],rfl,(fun _ h=>nomatch h),fun s4 h=>by rw [List.append_nil] at h; exact h s4⟩
 | j::js,L0,hj,hl=>by
  have h10:j≤10:=hj j (.head _)
  obtain ⟨N,hN⟩:=ph_num (n:=n + 3) (ns:=ns) (p:=3 * k + j)
  obtain ⟨fl,me,pr,z,fi,hF,hfl,hd⟩:=ph_lfield (n:=n) (N:=N) (k:=3 * k + j) (by lia)
  have hl2:L0.length + (js.length + 1)≤10:=hl
  obtain ⟨L,e1,e2,e3⟩:=fr1 hk js (L0++[⟨fl,me,pr,z,fi⟩]) (fun i hi=>hj i (.tail _ hi)) (by rw [List.length_append]; show L0.length + 1 + _≤_; lia)
  refine ⟨⟨fl,me,pr,z,fi⟩::L,congrArg (· + 1) e1,fun d hd=>(List.mem_cons.mp hd).elim (fun e=>by subst e; exact ⟨hF,hfl⟩) (e2 d),fun s4 h=>?_⟩
  refine f_next (fun F=>rfl) (g_app (l:=L0.map Fd.av) rfl (e_call (el_cons (e_call (el_cons rfl (el_cons (v:=.int (3 * k + j:Nat)) rfl rfl)) hN) (el_cons (v:=.int (3 * k + j:Nat)) rfl rfl)) hd) (llt (by rw [List.length_map]; lia)) (g_done rfl)) (fun F=>rfl) ?_
  have:=e3 (.val (.int j)) (fun s4'=>by rw [List.append_assoc]; exact h s4')
  rw [show st1 ns k start (L0++[⟨fl,me,pr,z,fi⟩]) (.val (.int j))=[.val (.lst (ns.map AV.int)),.val (.int k),.val (.int start),.ol (L0.map Fd.av++[Fd.av ⟨fl,me,pr,z,fi⟩]),.val (.int j),.u,.u,.u,.u,.u,.u,.u,.u,.u] by unfold st1; rw [List.map_append]; rfl] at this
  exact this
end
end Mine
end
section
set_option tactic.hygienic false
open PySem
namespace Mine
noncomputable def wsF:List Fd→Nat
 | []=>0
 | d::B=>d.ws.length + wsF B
theorem wsum_wsF:∀ C:It,wsum C=wsF (C.map (·.1))
 | []=>rfl
 | c::C=>congrArg (c.1.ws.length + ·) (wsum_wsF C)
section
variable {n j:Nat} {L B:List Fd} {σ:Env'}
theorem sum_ws:∀ B:List Fd,sumInts (B.map fun d=>AV.int d.ws.length)=.ok (wsF B:Int)
 | []=>rfl
 | d::B=>bd (sum_ws B) rfl
noncomputable def sumE:ME:=.bi .sum [(.comp [] .lst (.sl (.v 3) (some (.bin .add (.v 4) (.c (.int 1)))) none) (some (.bi .len [(.idx (.v 0) (.c (.int 1)))])) none)]
theorem col_ws:∀ B:List Fd,collect (fun v=>(evO noCalls none (.val v::[])).bind fun o=>testO o (eltR v (evO noCalls (some (.bi .len [(.idx (.v 0) (.c (.int 1)))])) (.val v::[])))) (B.map Fd.av)=.ok (B.map fun d=>AV.int d.ws.length)
 | []=>rfl
 | d::B=>bd rfl (bd (col_ws B) rfl)
theorem ev_sum (h3:getV σ 3=.ok (.lst (L.map Fd.av))) (h4:getV σ 4=.ok (.int j)) (hB:L.drop (j + 1)=B) (hl:B.length≤1000):ev n sumE σ=.ok (.int (wsF B)):=by
 have hs:slop (.lst (L.map Fd.av)) (some (.int (j + 1:Nat))) none=.ok (.lst (B.map Fd.av)):=by
  show R.ok (AV.lst (((L.map Fd.av).take (L.map Fd.av).length).drop (j + 1)))=_
  rw [List.take_length,← List.map_drop,hB]
 have hc:ev n (.comp [] .lst (.sl (.v 3) (some (.bin .add (.v 4) (.c (.int 1)))) none) (some (.bi .len [(.idx (.v 0) (.c (.int 1)))])) none) σ=.ok (.lst (B.map fun d=>AV.int d.ws.length)):=by
  refine bd (e_sl h3 (bd (e_bin h4 rfl (z:=.int (j + 1:Nat)) rfl) rfl) rfl hs) ?_
  show sizeL (quiet (collect _ (B.map Fd.av)))=_
  rw [col_ws B]
  exact limT (lll (by rw [List.length_map]; lia))
 exact e_bi (el_cons hc rfl) (bd (sum_ws B) rfl)
end
end Mine
end
section
set_option tactic.hygienic false
open PySem
namespace Mine
noncomputable def loB (l:List MS):List MS:=match l with
 | .loop _ _ _ b::_=>b
 | _=>[]
noncomputable def fB2:List MS:=loB (c_law_is_formatted.drop 8)
theorem ixm_get {α:Type} {g:α→AV} {l:List α} {m:Nat} {x:α} (h:l[m]?=some x):idxop (.tup (l.map g)) (.int m)=.ok (g x):=by
 show oO _ _=_
 rw [pick_at (x:=g x) (by rw [List.getElem?_map,h]; rfl)]
 rfl
theorem preT_len:∀ w,w < 5→((preT[w]?).getD []).length≤6:=by decide +kernel
theorem preT_get:∀ w,w < 5→preT[w]?=some ((preT[w]?).getD []):=by decide +kernel
theorem preR_get:∀ w,w < 5→preR[w]?=some ((preR[w]?).getD []):=by decide +kernel
theorem Fd.sp300 {d:Fd} (h:d.Ok):d.sp.length≤300:=by
 rw [d.sp_len]
 have:=h.2
 have:=d.me.t_len
 have:=d.pr.t_len
 have:=d.z.len
 lia
theorem add_l {l m:List AV} (h:l.length + m.length≤100000):binop .add (.lst l) (.lst m)=.ok (.lst (l++m)):=limT (lll h)
section
variable {n k j:Nat} {start:Int} {a0:AV} {L B:List Fd} {d:Fd} {pl:Bool}
structure T9 where
 (s7 s8 s9 s10 s11 s12 s13 s14 s15:SV)
noncomputable def st2 (a0:AV) (k:Nat) (start:Int) (L:List Fd) (pl:Bool) (fm:Tx) (ww pp:List AV) (s4:SV) (τ:T9):Env':=[.val a0,.val (.int k),.val (.int start),.val (.lst (L.map Fd.av)),s4,.val (.bool pl),.val (.str fm),.val (.lst ww),.val (.lst pp),τ.s9,τ.s10,τ.s11,τ.s12,.u]
noncomputable def plT (pl:Bool) (m:Nat):Tx:=cond pl (dgS false 10 (m + 1)++[36]) []
def F2T (n j k:Nat) (start:Int) (a0:AV) (L B:List Fd) (d:Fd) (pl:Bool):Prop:=∃ w,w < 5∧∀ (fm:Tx) (ww pp:List AV) (τ:T9),fm.length≤5000→ww.length≤100→pp.length≤100→∃ τ':T9,
  Go n fB2 (st2 a0 k start L pl fm ww pp (.val (.int j)) τ) nx (.ok (.next (st2 a0 k start L pl (fm++((preT[w]?).getD []++37::(plT pl (wsF B)++d.sp))) (cond pl (d.ws++ww) (ww++d.ws)) (pp++[.str ((preR[w]?).getD []),optS d.part]) (.val (.int j)) τ')))
theorem f2_turn (hd:L[j]?=some d) (hok:d.Ok) (hB:L.drop (j + 1)=B) (hl:B.length≤10):F2T n j k start a0 L B d pl:=by
 obtain ⟨w,hw,e⟩:=modn (start / 9 + j + k) 5 (by decide)
 have lT:=preT_len w hw
 have gT:=ixm_get (g:=AV.str) (preT_get w hw)
 have gR:=ixm_get (g:=AV.str) (preR_get w hw)
 have lsp:=Fd.sp300 hok
 have lws:=d.ws3
 refine ⟨w,hw,?_⟩
 generalize (preT[w]?).getD []=T at lT gT ⊢
 generalize (preR[w]?).getD []=R at gR ⊢
 refine fun fm ww pp τ l1 l2 l3=>⟨⟨.u,.u,.val (.str d.sp),.val (.lst d.ws),.val (optS d.part),.val (.int w),.u,.u,.u⟩,?_⟩
 have hi:idxop (.lst (L.map Fd.av)) (.int j)=.ok d.av:=ixl (by rw [List.getElem?_map,hd]; rfl)
 refine g_asgT (l:=[.str d.sp,.lst d.ws,optS d.part]) (e_idx rfl rfl hi) (fun F=>rfl) (g_asg (e_bin (e_bin (e_bin (e_bin rfl rfl (z:=.int (start / 9)) rfl) rfl rfl) rfl rfl) rfl e) (g_asg (v:=.str ((fm++T)++[37])) (e_bin (e_bin rfl (e_idx (x:=.tup (preT.map AV.str)) rfl rfl gT) (add_s (by lia))) rfl (add_s (t:=[37]) (by rw [List.length_append]; show _ + 1≤_; lia))) ?_))
 have tail:∀ (fm2:Tx),fm2.length≤6000→fm2++d.sp=fm++(T++37::(plT pl (wsF B)++d.sp))→Go n (fB2.drop 4) [.val a0,.val (.int k),.val (.int start),.val (.lst (L.map Fd.av)),.val (.int j),.val (.bool pl),.val (.str fm2),.val (.lst ww),.val (.lst pp),.val (.str d.sp),.val (.lst d.ws),.val (optS d.part),.val (.int w),.u] nx (.ok (.next (st2 a0 k start L pl (fm++(T++37::(plT pl (wsF B)++d.sp))) (cond pl (d.ws++ww) (ww++d.ws)) (pp++[.str R,optS d.part]) (.val (.int j)) ⟨.u,.u,.val (.str d.sp),.val (.lst d.ws),.val (optS d.part),.val (.int w),.u,.u,.u⟩))):=fun fm2 h1 h2=>by
  rw [← h2]
  refine g_asg (e_bin rfl rfl (add_s (by lia))) (g_asg (v:=.lst (cond pl (d.ws++ww) (ww++d.ws))) ?_ (g_asg (e_bin rfl (e_lst (el_cons (e_idx (x:=.tup (preR.map AV.str)) rfl rfl gR) (el_cons rfl rfl)) rfl) (add_l (by show _ + 2≤_; lia))) (g_done rfl)))
  cases pl with
  | true=>exact e_t rfl rfl (e_bin rfl rfl (add_l (by lia)))
  | false=>exact e_f rfl rfl (e_bin rfl rfl (add_l (by lia)))
 cases pl with
 | false=>exact g_if0 rfl rfl (tail _ (by rw [List.length_append,List.length_append]; show _ + 1≤_; lia) (by rw [List.append_assoc,List.append_assoc]; rfl))
 | true =>
  have hws:wsF B≤30:=by
   have:∀ B:List Fd,wsF B≤3 * B.length:=fun B=>by
    induction B with
    | nil=>exact Nat.le_refl _
    | cons c B ih =>
     have:=c.ws3
     show c.ws.length + wsF B≤3 * (B.length + 1)
     lia
   have:=this B
   lia
  have ld:=dgS_len false 10 (wsF B + 1)
  have hs:biop .str [.int (1 + (wsF B:Int))]=.ok (.str (dgS false 10 (wsF B + 1))):=by
   rw [show (1 + (wsF B:Int))=((wsF B + 1:Nat):Int) by lia]
   exact str_nat (Nat.lt_trans (by lia:wsF B + 1 < 100) (by decide +kernel))
  exact g_it rfl rfl (g_asg (e_bin (e_bin rfl (e_bi (el_cons (e_bin rfl (ev_sum rfl rfl hB (by lia)) rfl) rfl) hs) (add_s (by rw [List.length_append,List.length_append]; show _ + 1 + _≤_; lia))) rfl (add_s (t:=[36]) (by rw [List.length_append,List.length_append,List.length_append]; show _ + 1 + _ + 1≤_; lia))) (g_done rfl))
   (tail _ (by rw [List.length_append,List.length_append,List.length_append,List.length_append]; show _ + 1 + _ + 1≤_; lia) (by
    show (((fm++T)++[37])++dgS false 10 (wsF B + 1)++[36])++d.sp=fm++(T++37::((dgS false 10 (wsF B + 1)++[36])++d.sp))
    rw [List.append_assoc,List.append_assoc,List.append_assoc,List.append_assoc,List.append_assoc]
    rfl))
noncomputable def partsT:It→List AV
 | []=>[]
 | c::C=>.str ((preR[c.2]?).getD [])::optS c.1.part::partsT C
def Fr2 (n k:Nat) (start:Int) (a0:AV) (L:List Fd) (pl:Bool) (B:List Fd) (j:Nat):Prop:=∃ C:It,(C.map (·.1)=B∧∀ c ∈ C,c.1.Ok∧c.2 < 5)∧∀ (fm:Tx) (ww pp:List AV) (s4:SV) (τ:T9) (F:Env'→Out) (o:Out),fm.length + 450 * B.length≤5000→ww.length + 3 * B.length≤100→pp.length + 2 * B.length≤100 →
  (∀ t4 τ',F (st2 a0 k start L pl (fm++formT pl C) (cond pl (wordsB C++ww) (ww++wordsF C)) (pp++partsT C) t4 τ')=o)→Fr n .rng [4] fB2 ((List.range' j B.length).map fun (i:Nat)=>AV.int i) (st2 a0 k start L pl fm ww pp s4 τ) F o
theorem fr2:∀ (B:List Fd) {j:Nat},L.drop j=B→(∀ d ∈ B,d.Ok)→B.length≤10→Fr2 n k start a0 L pl B j
 | [],j,hj,_,_=>⟨[],⟨rfl,(fun _ h=>nomatch h)⟩,fun fm ww pp s4 τ F o _ _ _ h=>by
  have:=h s4 τ
  rw [show fm++formT pl []=fm from List.append_nil _,show pp++partsT []=pp from List.append_nil _,show cond pl (wordsB []++ww) (ww++wordsF [])=ww by cases pl; exact List.append_nil _; rfl] at this
  exact this⟩
 | d::B,j,hj,hok,hl=>by
  have hl2:B.length + 1≤10:=hl
  obtain ⟨w,hw,T⟩:=f2_turn (n:=n) (k:=k) (start:=start) (a0:=a0) (pl:=pl) (l_get hj) (hok d (.head _)) (l_next hj) (by lia)
  obtain ⟨C,⟨e1,e2⟩,e3⟩:=fr2 B (l_next hj) (fun c hc=>hok c (.tail _ hc)) (by lia)
  have hws:wsF B=wsum C:=by rw [wsum_wsF,e1]
  rw [hws] at T
  refine ⟨(d,w)::C,⟨by rw [List.map_cons,e1],fun c hc=>(List.mem_cons.mp hc).elim (fun e=>by subst e; exact ⟨hok d (.head _),hw⟩) (e2 c)⟩,fun fm ww pp s4 τ F o h1 h2 h3 h=>?_⟩
  have h1':fm.length + (450 * B.length + 450)≤5000:=h1
  have h2':ww.length + (3 * B.length + 3)≤100:=h2
  have h3':pp.length + (2 * B.length + 2)≤100:=h3
  obtain ⟨τ',G⟩:=T fm ww pp τ (by lia) (by lia) (by lia)
  have lT:=preT_len w hw
  have lsp:=Fd.sp300 (hok d (.head _))
  have lws:=d.ws3
  have lpl:(plT pl (wsum C)).length≤101:=by
   cases pl
   ·exact Nat.zero_le _
   ·show (dgS false 10 (wsum C + 1)++[36]).length≤101
    rw [List.length_append]
    exact Nat.succ_le_succ (dgS_len _ _ _)
  refine f_next (fun F=>rfl) G (fun F=>rfl) (e3 _ _ _ _ _ F o ?_ ?_ ?_ fun u4 υ=>?_)
  ·rw [List.length_append,List.length_append,List.length_cons,List.length_append]
   lia
  ·cases pl
   ·show (ww++d.ws).length + _≤_
    rw [List.length_append]
    lia
   ·show (d.ws++ww).length + _≤_
    rw [List.length_append]
    lia
  ·rw [List.length_append]
   show pp.length + 2 + _≤_
   lia
  ·have:=h u4 υ
   rw [show fm++formT pl ((d,w)::C)=(fm++((preT[w]?).getD []++37::(plT pl (wsum C)++d.sp)))++formT pl C by
     show fm++((preT[w]?).getD []++37::(plT pl (wsum C)++(d.sp++formT pl C)))=_
     rw [List.append_assoc fm,List.append_assoc]
     show _=fm++(_++37::((plT pl (wsum C)++d.sp)++formT pl C))
     rw [List.append_assoc (plT pl (wsum C))],
    show pp++partsT ((d,w)::C)=(pp++[.str ((preR[w]?).getD []),optS d.part])++partsT C from (List.append_assoc pp [AV.str ((preR[w]?).getD []),optS d.part] (partsT C)).symm,
    show cond pl (wordsB ((d,w)::C)++ww) (ww++wordsF ((d,w)::C))=cond pl (wordsB C++cond pl (d.ws++ww) (ww++d.ws)) (cond pl (d.ws++ww) (ww++d.ws)++wordsF C) by
     cases pl
     ·exact (List.append_assoc _ _ _).symm
     ·exact List.append_assoc _ _ _] at this
   exact this
end
end Mine
end
section
set_option tactic.hygienic false
open PySem
namespace Mine
theorem parts_none:∀ C:It,((partsT C).any fun x=>x.eqv .none)=(showT C).isNone
 | []=>rfl
 | c::C=>by
  show (false || ((optS c.1.part).eqv .none || (partsT C).any _))=(c.1.part.bind _).isNone
  rw [parts_none C]
  cases c.1.part with
  | none=>rfl
  | some t=>cases showT C <;> rfl
theorem parts_strs:∀ (C:It) {s:Tx},showT C=some s→∃ ss,strsOf (partsT C)=.ok ss∧ss.flatten=s
 | [],s,h=>by cases h; exact ⟨[],rfl,rfl⟩
 | c::C,s,h=>by
  obtain ⟨t,ht,h2⟩:=Option.bind_eq_some_iff.mp (show (c.1.part.bind fun t=>(showT C).map fun s=>(preR[c.2]?).getD []++(t++s))=some s from h)
  obtain ⟨s2,h3,rfl⟩:=Option.map_eq_some_iff.mp h2
  obtain ⟨ss,e1,e2⟩:=parts_strs C h3
  refine ⟨(preR[c.2]?).getD []::t::ss,?_,?_⟩
  ·show strsOf (.str _::optS c.1.part::partsT C)=_
   rw [ht]
   exact bd (bd e1 rfl) rfl
  ·show _++(t++ss.flatten)=_
   rw [e2]
theorem show_len:∀ (C:It) {s:Tx},(∀ c ∈ C,c.1.Ok∧c.2 < 5)→showT C=some s→s.length≤3000 * C.length
 | [],s,_,h=>by cases h; exact Nat.zero_le _
 | c::C,s,hC,h=>by
  obtain ⟨t,ht,h2⟩:=Option.bind_eq_some_iff.mp (show (c.1.part.bind fun t=>(showT C).map fun s=>(preR[c.2]?).getD []++(t++s))=some s from h)
  obtain ⟨s2,h3,rfl⟩:=Option.map_eq_some_iff.mp h2
  have l1:=show_len C (fun d hd=>hC d (.tail _ hd)) h3
  have l2:=Fd.part_len (hC c (.head _)).1 ht
  have l3:=preR_len c.2 (hC c (.head _)).2
  rw [List.length_append,List.length_append,List.length_cons]
  lia
theorem eq3 {i:Int} {s:Tx} {l:List AV} (h:AV.eqvs l l=true):AV.eqv (.tup [.int i,.str s,.tup l]) (.tup [.int i,.str s,.tup l])=true:=by
 show ((i == i) && ((s == s) && (AV.eqvs l l && true)))=true
 rw [beq_self_eq_true,beq_self_eq_true,h]
 rfl
section
variable {n k:Nat} {ns:List Int} {start:Int} {L:List Fd} {pl:Bool} {a0:AV}
theorem fo_end {C:It} {s4:SV} {τ:T9} (hC:∀ c ∈ C,c.1.Ok∧c.2 < 5) (hl:C.length≤5) (hf:(formT pl C).length≤50000):Go (n + 9) (c_law_is_formatted.drop 9) (st2 a0 k start L pl (formT pl C) (cond pl (wordsB C) (wordsF C)) (partsT C) s4 τ) nx (.ok (.ret (.bool true))):=by
 have hform:=ph_format (n:=n) (pl:=pl) hC hl
 have hn:=parts_none C
 refine g_asg rfl ?_
 cases hs:showT C with
 | none =>
  rw [hs] at hform hn
  exact g_if0 (e_cmp rfl rfl rfl) (nf hn) (g_ret (e_cmp (e_call (el_cons (e_bin rfl rfl (add_s (t:=[37,37,46]) (by show _ + 3≤_; lia))) (el_cons rfl rfl)) (told_x hform)) rfl rfl) rfl)
 | some s =>
  rw [hs] at hform hn
  obtain ⟨ss,e1,e2⟩:=parts_strs C hs
  have l1:=show_len C hC hs
  subst e2
  exact g_it (e_cmp rfl rfl rfl) (nt hn) (g_asg (e_tup (el_cons rfl (el_cons (e_bin (e_sm rfl rfl (join_of e1 (by lia))) rfl (add_s (t:=[37,46]) (by show _ + 2≤_; lia))) rfl)) rfl) (g_done rfl))
   (g_ret (e_cmp (e_call (el_cons (e_bin rfl rfl (add_s (t:=[37,37,46]) (by show _ + 3≤_; lia))) (el_cons rfl rfl)) (told_ok hform)) rfl (t:=true) (congrArg R.ok (eq3 rfl))) rfl)
end
end Mine
end
section
set_option tactic.hygienic false
open PySem
namespace Mine
section
variable {n k:Nat} {ns:List Int}
theorem form_len {pl:Bool}:∀ (C:It),(∀ c ∈ C,c.1.Ok∧c.2 < 5)→(formT pl C).length≤450 * C.length
 | [],_=>Nat.zero_le _
 | c::C,hC=>by
  have hc:=hC c (.head _)
  have l1:=form_len (pl:=pl) C fun d hd=>hC d (.tail _ hd)
  have l2:=Fd.sp300 hc.1
  have l3:=preT_len c.2 hc.2
  have l4:(plT pl (wsum C)).length≤101:=by
   cases pl
   ·exact Nat.zero_le _
   ·show (dgS false 10 (wsum C + 1)++[36]).length≤101
    rw [List.length_append]
    exact Nat.succ_le_succ (dgS_len _ _ _)
  show (_++37::(plT pl (wsum C)++(c.1.sp++formT pl C))).length≤450 * (C.length + 1)
  rw [List.length_append,List.length_cons,List.length_append,List.length_append]
  lia
theorem ph_isform (hk:k≤10):Ph (n + 10) 432 [.lst (ns.map AV.int),.int k]=.ok (.bool true):=by
 obtain ⟨start,hN⟩:=ph_num (n:=n + 8) (ns:=ns) (p:=k)
 obtain ⟨m,hm,em⟩:=modn (start + 2) 3 (by decide)
 obtain ⟨q,hq,eq⟩:=modn (start / 3 + k) 3 (by decide)
 have hc:∀ {σ:Env'},getV σ 2=.ok (.int start)→getV σ 1=.ok (.int k)→ev (n + 9) (.cmp (.bin .fmod (.bin .add (.bin .fdiv (.v 2) (.c (.int 3))) (.v 1)) (.c (.int 3))) .eq (.c (.int 2))) σ=.ok (.bool (AV.eqv (.int q) (.int 2))):=fun h2 h1=>e_cmp (e_bin (e_bin (e_bin h2 rfl (z:=.int (start / 3)) rfl) h1 rfl) rfl eq) rfl rfl
 generalize AV.eqv (.int q) (.int 2)=pl at hc
 obtain ⟨L,hL,hok,F1⟩:=fr1 (n:=n + 5) (ns:=ns) (k:=k) (start:=start) (F:=fun σ=>seqO (evSs (Ph (n + 9)) MT (De (n + 9)) (c_law_is_formatted.drop 3) σ) nx) (o:=.ok (.ret (.bool true))) hk (List.range (m + 1)) [] (fun j hj=>by have:=List.mem_range.mp hj; lia) (by rw [List.length_range]; show 0 + _≤_; lia)
 rw [List.length_range] at hL
 obtain ⟨C,⟨hC,hCok⟩,F2⟩:=fr2 (n:=n + 9) (k:=k) (start:=start) (a0:=.lst (ns.map AV.int)) (pl:=pl) (L:=L) L (j:=0) rfl hok (by lia)
 have hCl:C.length=L.length:=by rw [← hC,List.length_map]
 refine call_s (d:=d_law_is_formatted) [.val (.lst (ns.map AV.int)),.val (.int k),.u,.u,.u,.u,.u,.u,.u,.u,.u,.u,.u,.u] rfl rfl rfl (g_asg (e_call rfl hN) (g_nx rfl (g_forR (i:=(m + 1:Nat)) (e_bin rfl (e_bin (e_bin rfl rfl rfl) rfl em) (congrArg (fun z=>R.ok (AV.int z)) (Int.add_comm 1 (m:Int)))) (andT (dlt (by lia)) (dlt (by lia))) (F1 .u fun s4=>?_))))
 have hlen:(L.map Fd.av).length=L.length:=List.length_map _
 refine (?_:Go (n + 9) (c_law_is_formatted.drop 3) (st1 ns k start L s4) nx (.ok (.ret (.bool true))))
 refine g_asg (hc rfl rfl) (g_asg rfl (g_asg rfl (g_asg rfl (g_frz rfl (g_forR (i:=(L.length:Nat)) (e_bi rfl (congrArg (fun z:Nat=>R.ok (AV.int z)) hlen)) (andT (dlt (by lia)) (dlt (by lia))) ?_)))))
 have e:rangeVals (L.length:Nat)=(List.range' 0 L.length).map fun (i:Nat)=>AV.int i:=by
  show (List.range L.length).map _=_
  rw [List.range_eq_range']
 rw [e]
 refine F2 [] [] [] s4 ⟨.u,.u,.u,.u,.u,.u,.u,.u,.u⟩ _ _ (by show 0 + _≤_; lia) (by show 0 + _≤_; lia) (by show 0 + _≤_; lia) fun t4 τ=>?_
 have:=fo_end (n:=n) (k:=k) (start:=start) (L:=L) (pl:=pl) (a0:=.lst (ns.map AV.int)) (s4:=t4) (τ:=τ) hCok (by lia) (Nat.le_trans (form_len C hCok) (by lia))
 rw [List.append_nil]
 exact this
end
end Mine
end
section
set_option tactic.hygienic false
open PySem
namespace Mine
section
variable {n:Nat} {f r x t:Tx} {a b c i:Nat} {args made cc:List AV} {srt:Tx} {pv av:Int}
theorem ph_signT (h:f.drop a=r):Ph (n + 1) 122 [.str f,.int a]=.ok (.str (r.take 1)):=match r,h with
 | [],h=>ph_sign0 h
 | _::_,h=>ph_sign h
theorem lp_pre2 {s6 s7 s8 s9:SV} {o:Out} (h:f.drop a=x++37::r) (hx:∀ k ∈ x,k≠37) (hc:AV.eqv (.str (r.take 1)) (.str [37])=false) (hm:made.length≤1000) (hb:a + x.length=b) (hp:Ph (n + 7) 150 [.str f,.int (b + 1:Nat)]=.ok (.tup [.int pv,.int av]))
  (k:Go (n + 7) (ftB.drop 5) [.val (.str f),.val (.lst args),.ol (made++[.str x]),.val (.int av),.val (.int i),.val (.str srt),.val (.int b),.val (.int pv),s8,s9] nx o):Go (n + 7) ftB [.val (.str f),.val (.lst args),.ol made,.val (.int a),.val (.int i),.val (.str srt),s6,s7,s8,s9] nx o:=by
 have h1:f.drop b=37::r:=at_app h hb
 exact g_asg (e_call rfl (ph_place h hx (fun k t e=>(List.cons.inj e).1.symm) hb)) (g_app rfl (e_sl rfl rfl rfl (slop_mid h hb)) (llt (Nat.le_trans hm (by decide))) (g_if0 (e_cmp rfl rfl rfl) (dgt (Int.not_le.mpr (Int.ofNat_lt.mpr (at_lt h1))))
   (g_if0 (e_cmp (e_call rfl (ph_signT (at_next h1))) rfl rfl) hc (g_asgT (e_call rfl hp) (fun F=>rfl) k))))
theorem lp_exn (h:f.drop a=x++37::r) (hb:a + x.length=b) (k:∀ s6 s7 s8 s9,Go (n + 7) ftB [.val (.str f),.val (.lst args),.ol made,.val (.int a),.val (.int i),.val (.str srt),s6,s7,s8,s9] nx (.exn t cc)):LP (n + 7) f args a i srt made (.exn t cc):=fun s6 s7 s8 s9 =>
 g_wx (e_cmp rfl rfl rfl) (dlt (Int.ofNat_lt.mpr (d_lt h))) (g_evo (k _ _ _ _))
theorem lp_x1 (h:f.drop a=x++37::r) (hx:∀ k ∈ x,k≠37) (hc:AV.eqv (.str (r.take 1)) (.str [37])=false) (hm:made.length≤1000) (hb:a + x.length=b) (hp:Ph (n + 7) 150 [.str f,.int (b + 1:Nat)]=.ok (.tup [.int (-1),.int (b + 1:Nat)])) (hs:srt=[]∨srt=[37])
  (hput:Ph (n + 7) 353 [.str f,.int (b + 1:Nat),.lst args,.int i,.bool false]=.exn t cc):LP (n + 7) f args a i srt made (.exn t cc):=lp_exn h hb fun s6 s7 s8 s9=>by
 refine lp_pre2 h hx hc hm hb hp (g_asg (e_t (e_cmp rfl rfl rfl) rfl rfl) (g_if0 (t:=false) ?_ rfl (g_asg rfl (g_if0 (e_cmp rfl rfl rfl) rfl (g_asgTx (e_callr (el_cons rfl (el_cons rfl (el_cons rfl (el_cons rfl (el_cons (e_cmp rfl rfl rfl) rfl))))) hput))))))
 rcases hs with rfl | rfl
 ·exact e_cmp rfl rfl rfl
 ·exact e_cmp rfl rfl rfl
theorem lp_mix (h:f.drop a=x++37::r) (hx:∀ k ∈ x,k≠37) (hc:AV.eqv (.str (r.take 1)) (.str [37])=false) (hm:made.length≤1000) (hb:a + x.length=b) (hp:Ph (n + 7) 150 [.str f,.int (b + 1:Nat)]=.ok (.tup [.int pv,.int av])) (hs:(srt=[36]∧decide (pv < 0)=true)∨(srt=[37]∧decide (pv < 0)=false)) :
  LP (n + 7) f args a i srt made (.exn sMix (fmtCode sMixK)):=lp_exn h hb fun s6 s7 s8 s9=>by
 refine lp_pre2 h hx hc hm hb hp ?_
 rcases hs with ⟨rfl,h0⟩ | ⟨rfl,h0⟩
 ·exact g_asg (e_t (e_cmp rfl rfl rfl) h0 rfl) (g_t (e_cmp rfl rfl rfl) rfl (g_raise rfl rfl))
 ·exact g_asg (e_f (e_cmp rfl rfl rfl) h0 rfl) (g_t (e_cmp rfl rfl rfl) rfl (g_raise rfl rfl))
theorem lp_x2 (h:f.drop a=x++37::r) (hx:∀ k ∈ x,k≠37) (hc:AV.eqv (.str (r.take 1)) (.str [37])=false) (hm:made.length≤1000) (hb:a + x.length=b) (hp:Ph (n + 7) 150 [.str f,.int (b + 1:Nat)]=.ok (.tup [.int pv,.int av])) (h0:0≤pv) (hs:srt=[]∨srt=[36])
  (hput:Ph (n + 7) 353 [.str f,.int av,.lst args,.int (pv - 1),.bool true]=.exn t cc):LP (n + 7) f args a i srt made (.exn t cc):=lp_exn h hb fun s6 s7 s8 s9=>by
 have d0:decide (pv < 0)=false:=dgt (Int.not_lt.mpr h0)
 have d1:decide (0≤pv)=true:=dlt h0
 have e1:∀ {σ:Env'},getV σ 7=.ok (.int pv)→ev (n + 7) (.cmp (.v 7) .ge (.c (.int 0))) σ=.ok (.bool true):=fun h=>e_cmp h rfl (congrArg R.ok d1)
 refine lp_pre2 h hx hc hm hb hp (g_asg (e_f (e_cmp rfl rfl rfl) d0 rfl) (g_if0 (t:=false) ?_ rfl (g_asg rfl (g_it (e1 rfl) rfl (g_asg (e_bin rfl rfl rfl) (g_done rfl)) (g_asgTx (e_callr (el_cons rfl (el_cons rfl (el_cons rfl (el_cons rfl (el_cons (e1 rfl) rfl))))) hput))))))
 rcases hs with rfl | rfl
 ·exact e_cmp rfl rfl rfl
 ·exact e_cmp rfl rfl rfl
theorem ph_noword {i:Int} {m:Nat} (h:(decide (0≤i) && decide (i < (m:Int)))=false) (q:Bool):Ph (n + 1) 283 [.int i,.int m,.bool q]=cond q (.exn sBey (fmtCode sBeyK)) (.exn [110,111,116,32,101,110,111,117,103,104,32,97,114,103,117,109,101,110,116,115,32,102,111,114,32,97,108,108,32,102,111,114,109,97,116,32,115,112,101,99,105,102,105,101,114,115] (fmtCode [70,73,69,76,68,86,65,82,77,73,83,77,65,84,67,72])):=by
 cases q with
 | true=>exact call_o (d:=d_need_word) (o:=.exn sBey (fmtCode sBeyK)) [.val (.int i),.val (.int m),.val (.bool true)] rfl rfl rfl (g_if0 (e_c2 rfl rfl rfl rfl rfl) h (g_t rfl rfl (g_raise rfl rfl))) rfl
 | false=>exact call_o (d:=d_need_word) (o:=.exn _ _) [.val (.int i),.val (.int m),.val (.bool false)] rfl rfl rfl (g_if0 (e_c2 rfl rfl rfl rfl rfl) h (g_if0 rfl rfl (g_raise rfl rfl))) rfl
theorem g_exprx {σ:Env'} {e:ME} {rs:List MS} {ff:Env'→Out} (h1:ev n e σ=.exn t cc):Go n (.expr e::rs) σ ff (.exn t cc):=by
 rw [go_cons]
 exact congrArg (fun q=>seqO q _) (bdx h1)
theorem put_noword {a:Int} {i:Int} {q:Bool} (h:(decide (0≤i) && decide (i < (args.length:Int)))=false) (e:Ph (n + 1) 283 [.int i,.int args.length,.bool q]=.exn t cc):Ph (n + 2) 353 [.str f,.int a,.lst args,.int i,.bool q]=.exn t cc :=
 call_o (d:=d_put_field) [.val (.str f),.val (.int a),.val (.lst args),.val (.int i),.val (.bool q),.u,.u,.u,.u,.u,.u] rfl rfl rfl (g_exprx (e_callr (el_cons rfl (el_cons (e_bi rfl rfl) rfl)) e)) rfl
end
end Mine
end
section
set_option tactic.hygienic false
open PySem
namespace Mine
noncomputable def sEnd:Tx:=[102,111,114,109,97,116,32,115,116,114,105,110,103,32,101,110,100,101,100,32,105,110,32,109,105,100,100,108,101,32,111,102,32,102,105,101,108,100,32,115,112,101,99,105,102,105,101,114]
noncomputable def kEnd:Tx:=[73,78,67,79,77,80,76,69,84,69]
noncomputable def sBad:Tx:=[98,97,100,32,102,105,101,108,100,32,115,112,101,99,105,102,105,101,114,32,34]
noncomputable def kBad:Tx:=[66,65,68,84,89,80,69]
section
variable {n:Nat} {f r t fl:Tx} {a c i:Nat} {args cc:List AV} {z:Sz} {w p:Int} {tx:AV}
theorem field_end:Ph (n + 6) 332 [.str [],tx,.str fl,.int w,.int p,.str z.nm]=.exn sEnd (fmtCode kEnd) :=
 call_o (d:=d_field_of) (o:=.exn sEnd (fmtCode kEnd)) [.val (.str []),.val tx,.val (.str fl),.val (.int w),.val (.int p),.val (.str z.nm),.u,.u,.u,.u] rfl rfl rfl (g_asg (ev_fill rfl) (g_t (e_cmp rfl rfl rfl) rfl (g_raise rfl rfl))) rfl
noncomputable def badL:List Nat:=[121,102,69,107,83,44]
theorem field_bad (h:c ∈ badL):Ph (n + 6) 332 [.str [c],tx,.str fl,.int w,.int p,.str z.nm]=.exn (sBad++[c]++[34]) (fmtCode kBad):=by
 have h1:∀ c ∈ badL,(AV.eqv (.str []) (.str [c]) || (AV.eqv (.str [0]) (.str [c]) || false))=false∧AV.eqv (.str [c]) (.str [115])=false∧AV.eqv (.str [c]) (.str [99])=false∧([AV.str [100],.str [105],.str [117],.str [111],.str [120],.str [88],.str [98]].any fun x=>x.eqv (.str [c]))=false:=by decide +kernel
 obtain ⟨e1,e2,e3,e4⟩:=h1 c h
 exact call_o (d:=d_field_of) (o:=.exn (sBad++[c]++[34]) (fmtCode kBad)) [.val (.str [c]),.val tx,.val (.str fl),.val (.int w),.val (.int p),.val (.str z.nm),.u,.u,.u,.u] rfl rfl rfl (g_asg (ev_fill rfl) (g_if0 (e_cmp rfl rfl rfl) e1 (g_f (e_cmp rfl rfl rfl) e2 (g_f (e_cmp rfl rfl rfl) e3 (g_f (e_cmp rfl rfl rfl) e4 (g_raise rfl rfl)))))) rfl
theorem size_end (h:f.drop a=z.s) (ha:a≤f.length):Ph (n + 2) 157 [.str f,.int a]=.ok (.tup [.str z.nm,.int (a + z.s.length:Nat)]):=by
 cases z
 case e=>exact call_s (d:=d_read_size) [.val (.str f),.val (.int a),.u] rfl rfl rfl (g_asg (e_call rfl (ph_sign0 h)) (g_if0 (e_andf (e_cmp rfl rfl rfl) rfl) rfl (g_if0 (e_cmp rfl rfl rfl) rfl (g_if0 (e_cmp rfl rfl rfl) rfl (g_if0 (e_cmp rfl rfl rfl) rfl (g_ret rfl rfl))))))
 case l=>exact call_s (d:=d_read_size) [.val (.str f),.val (.int a),.u] rfl rfl rfl (g_asg (e_call rfl (ph_sign h)) (g_if0 (e_and (e_cmp rfl rfl rfl) rfl (e_andf (e_cmp (e_call rfl (ph_sign0 (at_next h))) rfl rfl) rfl)) rfl (g_if0 (e_cmp rfl rfl rfl) rfl (g_ifr (e_cmp rfl rfl rfl) rfl rfl rfl))))
 case ll=>exact call_s (d:=d_read_size) [.val (.str f),.val (.int a),.u] rfl rfl rfl (g_asg (e_call rfl (ph_sign h)) (g_ifr (e_and (e_cmp rfl rfl rfl) rfl (e_and (e_cmp (e_call rfl (ph_sign (at_next h))) rfl rfl) rfl rfl)) rfl rfl rfl))
 case L=>exact call_s (d:=d_read_size) [.val (.str f),.val (.int a),.u] rfl rfl rfl (g_asg (e_call rfl (ph_sign h)) (g_if0 (e_andf (e_cmp rfl rfl rfl) rfl) rfl (g_ifr (e_cmp rfl rfl rfl) rfl rfl rfl)))
 case h=>exact call_s (d:=d_read_size) [.val (.str f),.val (.int a),.u] rfl rfl rfl (g_asg (e_call rfl (ph_sign h)) (g_if0 (e_andf (e_cmp rfl rfl rfl) rfl) rfl (g_if0 (e_cmp rfl rfl rfl) rfl (g_if0 (e_cmp rfl rfl rfl) rfl (g_ifr (e_cmp rfl rfl rfl) rfl rfl rfl)))))
 all_goals exact call_s (d:=d_read_size) [.val (.str f),.val (.int a),.u] rfl rfl rfl (g_asg (e_call rfl (ph_sign h)) (g_if0 (e_andf (e_cmp rfl rfl rfl) rfl) rfl (g_if0 (e_cmp rfl rfl rfl) rfl (g_ifr (e_cmp rfl rfl rfl) rfl rfl rfl))))
end
end Mine
end
section
set_option tactic.hygienic false
open PySem
namespace Mine
noncomputable def wT:Option Nat→Tx
 | none=>[] | some k=>dgS false 10 k
noncomputable def wV:Option Nat→Int
 | none=>-1 | some k=>k
structure En (e:Tx):Prop where
 d:NoD 10 e
 s:AV.eqv (.str (e.take 1)) (.str [42])=false
 p:AV.eqv (.str (e.take 1)) (.str [46])=false
 f:cmpop .isin (.str (e.take 1)) (.tup [.str [45],.str [43],.str [32],.str [48],.str [35]])=.ok false
theorem Pl.en {c:Nat} (h:Pl c) (r:Tx):En (c::r):=⟨.inr ⟨_,_,rfl,h.d⟩,ne1 h.s,h.p,congrArg R.ok h.f⟩
theorem en0:En []:=⟨.inl rfl,rfl,rfl,rfl⟩
def Es (e:Tx):Prop:=e=[]∨∃ c t,e=c::t∧Pl c∧NoSz c
theorem Es.en {e:Tx} (h:Es e) (z:Sz):En (z.s++e):=match h with
 | .inl h=>by
  subst h
  cases z
  case e=>exact en0
  all_goals exact ⟨.inr ⟨_,_,rfl,by decide +kernel⟩,rfl,rfl,rfl⟩
 | .inr ⟨c,t,h,h1,_⟩=>by
  obtain ⟨c2,r2,e2,P⟩:=z.head h1 t
  rw [h,e2]
  exact P.en _
section
variable {n:Nat} {f r x y e fl:Tx} {a b c i m:Nat} {q:Bool} {z:Sz} {args:List AV} {w:Int} {wd:Option Nat}
theorem ph_sizeE (h:f.drop a=z.s++e) (ha:a≤f.length) (E:Es e):Ph (n + 2) 157 [.str f,.int a]=.ok (.tup [.str z.nm,.int (a + z.s.length:Nat)]):=match E with
 | .inl E=>size_end (by rw [h,E,List.append_nil]) ha
 | .inr ⟨c,t,E,_,hc⟩=>ph_size (h.trans (by rw [E])) hc
theorem ph_rd (h:f.drop a=wT wd++e) (ha:a≤f.length) (E:NoD 10 e) (hk:∀ k,wd=some k→k < 1000):Ph (n + 3) 143 [.str f,.int a]=.ok (.tup [.int (wV wd),.int (a + (wT wd).length:Nat)]):=match wd,h,hk with
 | none,h,_=>ph_digits0 h ha E
 | some k,h,hk=>by
  have hp:=ph_digits (n:=n) (x:=dgS false 10 k) h ha (dgS_ne false 10 k) (dgS_D (b:=10) (by decide) (by decide)) E rfl
  rw [show dv 10 (dgS false 10 k)=(k:Int) from dv_dgS (b:=10) (by decide) (by decide) false (Nat.lt_trans (hk k rfl) (by decide))] at hp
  exact hp
theorem wd_star (E:AV.eqv (.str (e.take 1)) (.str [42])=false):AV.eqv (.str ((wT wd++e).take 1)) (.str [42])=false:=match wd with
 | none=>E
 | some k=>by
  show AV.eqv (.str ((dgS false 10 k++e).take 1)) _=_
  have h0:=dgS_ne false 10 k
  have hD:∀ d ∈ dgS false 10 k,isD 10 d=true:=dgS_D (b:=10) (by decide) (by decide)
  cases hd:dgS false 10 k with
  | nil=>exact absurd hd h0
  | cons d t=>exact d42 (hD d (hd ▸ .head _))
noncomputable def wA:Option Nat→AV
 | none=>.none | some k=>.int k
theorem ph_rm (h:f.drop a=wT wd++e) (ha:a≤f.length) (E:NoD 10 e) (Es:AV.eqv (.str (e.take 1)) (.str [42])=false) (hk:∀ k,wd=some k→k < 1000):Ph (n + 6) 346 [.str f,.int a,.lst args,.int i,.bool q]=.ok (.tup [wA wd,.int i,.int (a + (wT wd).length:Nat)]):=by
 have hp:=ph_rd (n:=n + 2) h ha E hk
 refine call_s (d:=d_read_measure) [.val (.str f),.val (.int a),.val (.lst args),.val (.int i),.val (.bool q),.u,.u] rfl rfl rfl (g_if0 (e_cmp (e_call rfl (ph_signT h)) rfl rfl) (wd_star Es) (g_asgT (e_call rfl hp) (fun F=>rfl) (g_ret (e_tup (el_cons ?_ rfl) rfl) rfl)))
 cases wd with
 | none=>exact e_t (e_cmp rfl rfl rfl) rfl rfl
 | some k=>exact e_f (e_cmp rfl rfl rfl) (dgt (Int.not_lt.mpr (Int.natCast_nonneg k))) rfl
theorem go_flE (h0:f.drop a=y++e) (E:cmpop .isin (.str (e.take 1)) (.tup [.str [45],.str [43],.str [32],.str [48],.str [35]])=.ok false) (hb:a + y.length=b):∀ {x:Tx} {d:Nat},f.drop d=x++e→(∀ k ∈ x,isFl k=true)→d + x.length=b→Go (n + 1) (c_read_flags.drop 1) [.val (.str f),.val (.int a),.val (.int d)] nx (.ok (.ret (.tup [.str y,.int b])))
 | [],d,h,_,hd=>by
  obtain rfl:d=b:=hd
  exact g_wf (e_cmp (e_call rfl (ph_signT h)) rfl E) rfl (g_ret (e_tup (el_cons (e_sl rfl rfl rfl (slop_mid h0 hb)) rfl) rfl) rfl)
 | k::x,d,h,hx,hd=>g_wt (e_cmp (e_call rfl (ph_sign h)) rfl rfl) (hx k (.head _)) (g_evs (g_aug rfl rfl (g_done rfl))) rfl (go_flE h0 E hb (x:=x) (d:=d + 1) (at_next h) (fun k hk=>hx k (.tail _ hk)) (up hd))
theorem ph_flagsE (h:f.drop a=y++e) (hy:∀ k ∈ y,isFl k=true) (E:cmpop .isin (.str (e.take 1)) (.tup [.str [45],.str [43],.str [32],.str [48],.str [35]])=.ok false):Ph (n + 2) 339 [.str f,.int a]=.ok (.tup [.str y,.int (a + y.length:Nat)]) :=
 call_s (d:=d_read_flags) [.val (.str f),.val (.int a),.u] rfl rfl rfl (g_asg rfl (go_flE h E rfl h hy rfl))
def OkN:Option Nat→Prop
 | none=>True | some k=>k < 14∧k≠0
theorem OkN.lt (h:OkN wd):∀ k,wd=some k→k < 1000:=fun k e=>by subst e; exact Nat.lt_trans h.1 (by decide)
theorem OkN.hd (h:OkN wd) (E:cmpop .isin (.str (e.take 1)) (.tup [.str [45],.str [43],.str [32],.str [48],.str [35]])=.ok false):cmpop .isin (.str ((wT wd++e).take 1)) (.tup [.str [45],.str [43],.str [32],.str [48],.str [35]])=.ok false:=match wd,h with
 | none,_=>E
 | some k,h=>by
  have:=Me.head k h.1 h.2
  show cmpop _ (.str ((dgS false 10 k++e).take 1)) _=_
  cases hk:dgS false 10 k with
  | nil=>rw [hk] at this; exact this.elim
  | cons d x=>rw [hk] at this; exact congrArg R.ok this
variable {u:AV} {t:Tx} {cc:List AV} {o:Out}
theorem put_wd (hi:i < args.length) (hf:∀ k ∈ fl,isFl k=true) (hw:OkN wd) (ha:a≤f.length) (h:f.drop a=fl++(wT wd++e)) (E:NoD 10 e) (Es:AV.eqv (.str (e.take 1)) (.str [42])=false) (Ef:cmpop .isin (.str (e.take 1)) (.tup [.str [45],.str [43],.str [32],.str [48],.str [35]])=.ok false) {w:R AV} (hb:back o=w)
  (k:Go (n + 6) (c_put_field.drop 6) [.val (.str f),.val (.int (a + fl.length + (wT wd).length:Nat)),.val (.lst args),.val (.int i),.val (.bool q),.val (.str fl),.val (.int (wd.getD 0:Nat)),.u,.u,.u,.u] nx o):Ph (n + 7) 353 [.str f,.int a,.lst args,.int i,.bool q]=w:=by
 have h1:=d_app h
 have ha1:=at_le h rfl ha
 have hp:=ph_rm (n:=n) (args:=args) (i:=i) (q:=q) h1 ha1 E Es hw.lt
 refine call_o (d:=d_put_field) (o:=o) [.val (.str f),.val (.int a),.val (.lst args),.val (.int i),.val (.bool q),.u,.u,.u,.u,.u,.u] rfl rfl rfl (g_expr (e_call (el_cons rfl (el_cons (e_bi rfl rfl) rfl)) (ph_word hi)) (g_asgT (e_call rfl (ph_flagsE h hf (hw.hd Ef))) (fun F=>rfl) (g_asgT (e_call rfl hp) (fun F=>rfl) ?_))) hb
 cases wd with
 | none=>exact g_it (e_cmp rfl rfl rfl) rfl (g_asg rfl (g_done rfl)) (g_if0 (e_cmp rfl rfl rfl) rfl (g_expr (e_call rfl (ph_room (p:=0) (by decide))) k))
 | some j =>
  have h0:decide ((j:Int) < 0)=false:=dgt (Int.not_lt.mpr (Int.natCast_nonneg j))
  have hj:(j:Int)≤100000:=by have:=hw.1; lia
  exact g_if0 (e_cmp rfl rfl rfl) rfl (g_if0 (e_cmp rfl rfl rfl) h0 (g_expr (e_call rfl (ph_room hj)) k))
theorem put_x (hi:args[i]?=some u) (hf:∀ k ∈ fl,isFl k=true) (hw:OkN wd) (ha:a≤f.length) (h:f.drop a=fl++(wT wd++(z.s++e))) (E:Es e) (hx:Ph (n + 6) 332 [.str (e.take 1),u,.str fl,.int (wd.getD 0:Nat),.int (-1),.str z.nm]=.exn t cc):Ph (n + 7) 353 [.str f,.int a,.lst args,.int i,.bool q]=.exn t cc:=by
 have N:=E.en z
 have h1:f.drop (a + fl.length + (wT wd).length)=z.s++e:=d_app (d_app h)
 have ha1:=at_le (d_app h) rfl (at_le h rfl ha)
 have hm:=ph_rm (n:=n) (wd:=none) (args:=args) (i:=i) (q:=q) h1 ha1 N.d N.s (fun _ h=>nomatch h)
 refine put_wd (o:=.exn t cc) (List.getElem?_eq_some_iff.mp hi).1 hf hw ha h N.d N.s N.f rfl (g_asg (e_cmp (e_call rfl (ph_signT h1)) rfl (congrArg R.ok N.p)) (g_if0 rfl rfl (g_asgT (e_call rfl hm) (fun F=>rfl) (g_asg rfl (g_if0 rfl rfl (g_asgT (e_call rfl (ph_sizeE h1 ha1 E)) (fun F=>rfl) ?_))))))
 rw [go_cons]
 refine congrArg (fun q=>seqO q _) (?_:R.bind _ _=.exn t cc)
 exact bdx (bdx (bdx (e_callr (el_cons (e_call rfl (ph_signT (d_app h1))) (el_cons (e_idx rfl rfl (ixl hi)) rfl)) hx)))
end
end Mine
end
section
set_option tactic.hygienic false
open PySem
namespace Mine
section
variable {n:Nat} {f r x y e fl R:Tx} {a b c i m:Nat} {q:Bool} {z:Sz} {args xs made:List AV} {v w:Int} {wd:Option Nat} {u:AV} {t:Tx} {cc:List AV} {o:Out}
theorem ph_rp0 {ds:Tx} (h:f.drop a=ds++R) (ha:a≤f.length) (hd:∀ k ∈ ds,isD 10 k=true) (hR:NoD 10 R) (h36:AV.eqv (.str (R.take 1)) (.str [36])=false):Ph (n + 4) 150 [.str f,.int a]=.ok (.tup [.int (-1),.int a]):=by
 cases ds with
 | nil=>exact call_s (d:=d_read_place) [.val (.str f),.val (.int a),.u,.u] rfl rfl rfl (g_asgT (e_call rfl (ph_digits0 h ha hR)) (fun F=>rfl) (g_if0 (e_andf (e_cmp rfl rfl rfl) rfl) rfl (g_ret rfl rfl)))
 | cons d ds =>
  refine call_s (d:=d_read_place) [.val (.str f),.val (.int a),.u,.u] rfl rfl rfl (g_asgT (e_call rfl (ph_digits h ha (List.cons_ne_nil d ds) hd hR rfl)) (fun F=>rfl) (g_if0 (t:=false) ?_ rfl (g_ret rfl rfl)))
  generalize h1:decide ((0:Int)≤dv 10 (d::ds))=t
  cases t with
  | false=>exact e_andf (e_cmp rfl rfl rfl) h1
  | true=>exact e_and (e_cmp rfl rfl rfl) h1 (e_andf (e_cmp (e_call rfl (ph_signT (d_app h))) rfl rfl) h36)
theorem split_d:∀ (L:Tx),(∀ k ∈ L,k≠36)→∃ ds R,L=ds++R∧(∀ k ∈ ds,isD 10 k=true)∧NoD 10 R∧AV.eqv (.str (R.take 1)) (.str [36])=false
 | [],_=>⟨[],[],rfl,(fun _ h=>nomatch h),.inl rfl,rfl⟩
 | k::L,h=>by
  cases hk:isD 10 k with
  | false=>exact ⟨[],k::L,rfl,(fun _ h=>nomatch h),.inr ⟨k,L,rfl,hk⟩,ne1 (h _ (.head _))⟩
  | true =>
   obtain ⟨ds,R,e,h1,h2,h3⟩:=split_d L fun k hk=>h k (.tail _ hk)
   exact ⟨k::ds,R,congrArg (k::·) e,fun d hd=>(List.mem_cons.mp hd).elim (fun e=>e ▸ hk) (h1 d),h2,h3⟩
theorem ph_np (h:f.drop a=R) (ha:a≤f.length) (hR:∀ k ∈ R,k≠36):Ph (n + 4) 150 [.str f,.int a]=.ok (.tup [.int (-1),.int a]):=by
 obtain ⟨ds,R',e,h1,h2,h3⟩:=split_d R hR
 exact ph_rp0 (h.trans e) ha h1 h2 h3
theorem rm_word (h:f.drop a=42::r) (hx:Ph (n + 5) 283 [.int (i + 1:Nat),.int args.length,.bool q]=.exn t cc):Ph (n + 6) 346 [.str f,.int a,.lst args,.int i,.bool q]=.exn t cc :=
 call_o (d:=d_read_measure) (o:=.exn t cc) [.val (.str f),.val (.int a),.val (.lst args),.val (.int i),.val (.bool q),.u,.u] rfl rfl rfl (g_t (e_cmp (e_call rfl (ph_sign h)) rfl rfl) rfl (g_exprx (e_callr (el_cons (e_bin rfl rfl rfl) (el_cons (e_bi rfl rfl) rfl)) hx))) rfl
theorem rm_int (h:f.drop a=42::r) (hi:i + 1 < args.length) (hu:args[i]?=some u) (hx:Ph (n + 5) 269 [u]=.exn t cc):Ph (n + 6) 346 [.str f,.int a,.lst args,.int i,.bool q]=.exn t cc:=by
 refine call_o (d:=d_read_measure) (o:=.exn t cc) [.val (.str f),.val (.int a),.val (.lst args),.val (.int i),.val (.bool q),.u,.u] rfl rfl rfl (g_t (e_cmp (e_call rfl (ph_sign h)) rfl rfl) rfl (g_expr (e_call (el_cons rfl (el_cons (e_bi rfl rfl) rfl)) (ph_word (i:=i + 1) hi)) ?_)) rfl
 rw [go_cons]
 exact congrArg (fun q=>seqO q _) (bdx (bdx (bdx (e_callr (el_cons (e_idx rfl rfl (ixl hu)) rfl) hx))):R.bind _ _=.exn t cc)
theorem put_star (hi:i < args.length) (hf:∀ k ∈ fl,isFl k=true) (h:f.drop a=fl++42::r) (hx:Ph (n + 6) 346 [.str f,.int (a + fl.length:Nat),.lst args,.int i,.bool q]=.exn t cc):Ph (n + 7) 353 [.str f,.int a,.lst args,.int i,.bool q]=.exn t cc :=
 call_o (d:=d_put_field) (o:=.exn t cc) [.val (.str f),.val (.int a),.val (.lst args),.val (.int i),.val (.bool q),.u,.u,.u,.u,.u,.u] rfl rfl rfl (g_expr (e_call (el_cons rfl (el_cons (e_bi rfl rfl) rfl)) (ph_word hi)) (g_asgT (e_call rfl (ph_flagsE h hf rfl)) (fun F=>rfl) (g_asgTx (e_callr rfl hx)))) rfl
theorem put_dot (hi:i < args.length) (hf:∀ k ∈ fl,isFl k=true) (hw:OkN wd) (ha:a≤f.length) (h:f.drop a=fl++(wT wd++46::42::r)) (hx:Ph (n + 6) 346 [.str f,.int (a + fl.length + (wT wd).length + 1:Nat),.lst args,.int i,.bool q]=.exn t cc):Ph (n + 7) 353 [.str f,.int a,.lst args,.int i,.bool q]=.exn t cc :=
 put_wd (o:=.exn t cc) hi hf hw ha h (.inr ⟨_,_,rfl,by decide +kernel⟩) rfl rfl rfl (g_asg (e_cmp (e_call rfl (ph_sign (d_app (d_app h)))) rfl rfl) (g_it rfl rfl (g_aug rfl rfl (g_done rfl)) (g_asgTx (e_callr rfl hx))))
noncomputable def sExp:Tx:=[101,120,112,101,99,116,101,100,32,105,110,116,101,103,101,114,32,98,117,116,32,103,111,116,32,34]
noncomputable def cNum:List AV:=[.str [84,67,76],.str [86,65,76,85,69],.str [78,85,77,66,69,82]]
theorem whole_q:Ph (n + 3) 80 [.str [113]]=.ok .none:=call_s (d:=d_whole_of) [.val (.str [113]),.u,.u,.u,.u,.u] rfl rfl rfl (g_asg2 rfl rfl (g_wf rfl rfl (g_wf rfl rfl rfl)))
theorem whole_4x:Ph (n + 3) 80 [.str [52,120]]=.ok .none:=call_s (d:=d_whole_of) [.val (.str [52,120]),.u,.u,.u,.u,.u] rfl rfl rfl (g_asg2 rfl rfl (g_wf rfl rfl (g_wf rfl rfl rfl)))
theorem need_q:Ph (n + 4) 87 [.str [113]]=.exn (sExp++[113]++[34]) cNum:=call_o (d:=d_need_whole) (o:=.exn (sExp++[113]++[34]) cNum) [.val (.str [113]),.u] rfl rfl rfl (g_asg (e_call rfl whole_q) (g_t rfl rfl (g_raise rfl rfl))) rfl
theorem need_4x:Ph (n + 4) 87 [.str [52,120]]=.exn (sExp++[52,120]++[34]) cNum:=call_o (d:=d_need_whole) (o:=.exn (sExp++[52,120]++[34]) cNum) [.val (.str [52,120]),.u] rfl rfl rfl (g_asg (e_call rfl whole_4x) (g_t rfl rfl (g_raise rfl rfl))) rfl
theorem int_x (h:Ph (n + 4) 87 [u]=.exn t cc):Ph (n + 5) 269 [u]=.exn t cc:=call_o (d:=d_need_int) (o:=.exn t cc) [.val u,.u,.u] rfl rfl rfl (g_asgx (e_callr rfl h)) rfl
noncomputable def sLar:Tx:=[105,110,116,101,103,101,114,32,118,97,108,117,101,32,116,111,111,32,108,97,114,103,101,32,116,111,32,114,101,112,114,101,115,101,110,116]
noncomputable def cLar:List AV:=[.str [65,82,73,84,72],.str [73,79,86,69,82,70,76,79,87],.str sLar]
theorem int_lar (hv:v.natAbs < 2 ^ 100) (h:v < -2147483648∨4294967296≤v):Ph (n + 5) 269 [.str (wrt false v)]=.exn sLar cLar:=by
 refine call_o (d:=d_need_int) (o:=.exn sLar cLar) [.val (.str (wrt false v)),.u,.u] rfl rfl rfl (g_asg (e_call rfl (ph_need hv false)) (g_t (t:=true) ?_ rfl (g_asg rfl (g_raise rfl rfl)))) rfl
 by_cases h1:v < -2147483648
 ·exact e_ort (e_cmp rfl rfl rfl) (dlt h1)
 ·exact e_orf (e_cmp rfl rfl rfl) (dgt h1) (e_ort (e_cmp rfl rfl rfl) (dlt (h.resolve_left h1)))
theorem field_c (h:Ph (n + 5) 269 [u]=.exn t cc):Ph (n + 6) 332 [.str [99],u,.str fl,.int w,.int v,.str z.nm]=.exn t cc :=
 call_o (d:=d_field_of) (o:=.exn t cc) [.val (.str [99]),.val u,.val (.str fl),.val (.int w),.val (.int v),.val (.str z.nm),.u,.u,.u,.u] rfl rfl rfl (g_asg (ev_fill rfl) (g_if0 (e_cmp rfl rfl rfl) rfl (g_f (e_cmp rfl rfl rfl) rfl (g_t (e_cmp rfl rfl rfl) rfl (g_asgx (e_callr rfl h)))))) rfl
theorem field_d (h:Ph (n + 4) 87 [u]=.exn t cc):Ph (n + 6) 332 [.str [100],u,.str fl,.int w,.int v,.str z.nm]=.exn t cc:=by
 have h1:Ph (n + 5) 325 [.str [100],u,.str fl,.int w,.int v,.str z.nm]=.exn t cc:=call_o (d:=d_whole_field) (o:=.exn t cc) [.val (.str [100]),.val u,.val (.str fl),.val (.int w),.val (.int v),.val (.str z.nm),.u,.u,.u] rfl rfl rfl (g_asgx (bdx (el_x (e_callr rfl h)))) rfl
 exact call_o (d:=d_field_of) (o:=.exn t cc) [.val (.str [100]),.val u,.val (.str fl),.val (.int w),.val (.int v),.val (.str z.nm),.u,.u,.u,.u] rfl rfl rfl (g_asg (ev_fill rfl) (g_if0 (e_cmp rfl rfl rfl) rfl (g_f (e_cmp rfl rfl rfl) rfl (g_f (e_cmp rfl rfl rfl) rfl (g_t (e_cmp rfl rfl rfl) rfl (g_asgx (e_callr rfl h1))))))) rfl
theorem wr_of (h:LP (n + 7) f args 0 0 [] [] (.exn t cc)):Ph (n + 8) 360 [.str f,.lst args]=.exn t cc :=
 call_o (d:=d_format_text) (o:=.exn t cc) [.val (.str f),.val (.lst args),.u,.u,.u,.u,.u,.u,.u,.u] rfl rfl rfl (g_nx rfl (g_asg rfl (g_asg rfl (g_asg rfl (h _ _ _ _))))) rfl
theorem take37 (h:∀ k ∈ R,k≠36∧k≠37):AV.eqv (.str (R.take 1)) (.str [37])=false:=match R,h with
 | [],_=>rfl
 | k::R,h=>ne1 (h k (.head _)).2
theorem wr_1 (hR:∀ k ∈ R,k≠36∧k≠37) (hput:Ph (n + 7) 353 [.str (37::R),.int 1,.lst args,.int 0,.bool false]=.exn t cc):Ph (n + 8) 360 [.str (37::R),.lst args]=.exn t cc :=
 wr_of (lp_x1 (f:=37::R) (x:=[]) (b:=0) (i:=0) rfl (fun _ h=>nomatch h) (take37 hR) (Nat.zero_le _) rfl (ph_np (a:=1) rfl (Nat.le_add_left 1 _) fun k hk=>(hR k hk).1) (.inl rfl) hput)
theorem fok_s {s:Tx} (hs:s.length≤100):FOk [] .no .no .e (.s s):=have K:=Kd.ok .s; ⟨(fun _ h=>nomatch h),Nat.zero_le _,True.intro,True.intro,hs,K.1,K.2.1,spec_no2 (fl:=[]) (fun _ h=>nomatch h) _ _ _,K.2.2⟩
theorem wr_2 (hR:∀ k ∈ R,k≠36∧k≠37) (hput:Ph (n + 7) 353 [.str ([97,37,115,32,37]++R),.int 5,.lst (.str [122]::xs),.int 1,.bool false]=.exn t cc):Ph (n + 8) 360 [.str ([97,37,115,32,37]++R),.lst (.str [122]::xs)]=.exn t cc :=
 wr_of (lp_f1 (x:=[97]) (b:=1) (r:=32::37::R) (xs:=xs) (fok_s (s:=[122]) (by decide)) rfl (by decide) (Nat.zero_le _) rfl (.inl rfl) rfl (fun t ht=>lp_x1 (a:=3) (x:=[32]) (b:=4) rfl (by decide) (take37 hR) (Nat.le_of_ble_eq_true rfl) rfl (ph_np (a:=5) rfl (Nat.le_add_left 5 _) fun k hk=>(hR k hk).1) (.inr rfl) hput) fun h=>absurd h (Option.some_ne_none _))
end
end Mine
end
section
set_option tactic.hygienic false
open PySem
namespace Mine
structure Wf where
 f:Tx
 ws:List AV
 t:Tx
 c:List AV
noncomputable def Wf.av (x:Wf):AV:=.tup [.str x.f,.lst x.ws,.tup [.str x.t,.tup x.c]]
def Wf.Ok (n:Nat) (x:Wf):Prop:=Ph (n + 8) 360 [.str x.f,.lst x.ws]=.exn x.t x.c∧AV.eqvs x.c x.c=true∧shallow (.tup [.int 1,.str x.t,.tup x.c])=true
noncomputable def sFew:Tx:=[110,111,116,32,101,110,111,117,103,104,32,97,114,103,117,109,101,110,116,115,32,102,111,114,32,97,108,108,32,102,111,114,109,97,116,32,115,112,101,99,105,102,105,101,114,115]
noncomputable def kFew:Tx:=[70,73,69,76,68,86,65,82,77,73,83,77,65,84,67,72]
abbrev n2 (R:Tx):Prop:=∀ k ∈ R,k≠36∧k≠37
theorem n2_app {A B:Tx} (h:n2 A) (h2:n2 B):n2 (A++B):=fun k hk=>(List.mem_append.mp hk).elim (h k) (h2 k)
theorem n2_wd (wd:Option Nat):n2 (wT wd):=match wd with
 | none=>fun _ h=>nomatch h
 | some k=>Me.no2 (.num k)
theorem as4 {A B C D:Tx}:((A++B)++C)++D=A++(B++(C++D)):=by rw [List.append_assoc,List.append_assoc]
theorem add_k {s t:Tx} (h:s.length≤1000) (h2:t.length≤1000):binop .add (.str s) (.str t)=.ok (.str (s++t)):=add_s (by omega)
theorem len_k {s t:Tx} {a b c:Nat} (h:s.length≤a) (h2:t.length≤b) (h3:a + b≤c):(s++t).length≤c:=by rw [List.length_append]; omega
section
variable {n:Nat} {fl e:Tx} {z:Sz} {wd:Option Nat} {c m:Nat} {N:Int}
noncomputable def hT:Tx:=[97,37,115,32,37]
theorem fl_n2 (hf:∀ k ∈ fl,isFl k=true):n2 fl:=fun k h=>no2_of (p:=isFl) (by decide +kernel) (by decide +kernel) (hf k h)
noncomputable def flL:List Tx:=[[],[45],[43,48],[35,32]]
noncomputable def wdL:List (Option Nat):=[none,some 7,some 12]
noncomputable def szM:List Sz:=[.e,.l,.ll,.h]
theorem wf_x {x:Tx} {cc:List AV} {w:AV} (hf:∀ k ∈ fl,isFl k=true) (hw:OkN wd) (E:Es e) (he:n2 e) (hx:Ph (n + 6) 332 [.str (e.take 1),w,.str fl,.int (wd.getD 0:Nat),.int (-1),.str z.nm]=.exn x cc):Ph (n + 8) 360 [.str (((hT++fl)++wT wd)++(z.s++e)),.lst [.str [122],w]]=.exn x cc:=by
 rw [as4]
 exact wr_2 (n2_app (fl_n2 hf) (n2_app (n2_wd wd) (n2_app z.no2 he))) (put_x (a:=5) (i:=1) (u:=w) rfl hf hw (Nat.le_add_left 5 _) rfl E hx)
theorem es_of (kd:Kd):Es [kd.ch]:=.inr ⟨_,_,rfl,kd.ok.2.1,kd.ok.1⟩
theorem bad_ok:∀ c ∈ badL,Pl c∧NoSz c∧c≠36∧c≠37:=by
 have h1:∀ c ∈ badL,isD 10 c=false∧c≠42∧isFl c=false∧AV.eqv (.str [c]) (.str [46])=false∧AV.eqv (.str [c]) (.str [108])=false∧AV.eqv (.str [c]) (.str [76])=false∧([AV.str [108],.str [106],.str [113],.str [122],.str [116]].any fun x=>x.eqv (.str [c]))=false∧AV.eqv (.str [c]) (.str [104])=false∧c≠36∧c≠37:=by decide +kernel
 intro c hc
 obtain ⟨a1,a2,a3,a4,a5,a6,a7,a8,a9⟩:=h1 c hc
 exact ⟨⟨a1,a2,a3,a4⟩,⟨a5,a6,congrArg R.ok a7,a8⟩,a9⟩
noncomputable def wfs (fl:Tx) (wd:Option Nat) (z:Sz) (c m:Nat):List Wf :=
 [⟨((hT++fl)++wT wd)++z.s,[.str [122],.str [53]],sEnd,fmtCode kEnd⟩,
  ⟨(((hT++fl)++wT wd)++z.s)++[c],[.str [122],.str [53]],(sBad++[c])++[34],fmtCode kBad⟩,
  ⟨(((hT++fl)++wT wd)++z.s)++[100],[.str [122]],sFew,fmtCode kFew⟩,
  ⟨(hT++fl)++[42,100],[.str [122],.str [53]],sFew,fmtCode kFew⟩,
  ⟨((((hT++fl)++wT wd)++[46,42])++z.s)++[120],[.str [122],.str [53]],sFew,fmtCode kFew⟩,
  ⟨[37,115,32,37,49,36,100],[.str [122],.str [53]],sMix,fmtCode sMixK⟩,
  ⟨[37,50,36,100,32,37,115],[.str [122],.str [53]],sMix,fmtCode sMixK⟩,
  ⟨([37]++dgS false 10 (m + 3))++[36,100],[.str [122],.str [53]],sBey,fmtCode sBeyK⟩,
  ⟨([37,48,36]++fl)++[100],[.str [122],.str [53]],sBey,fmtCode sBeyK⟩,
  ⟨([37,50,36]++fl)++[42,100],[.str [122],.str [53]],sBey,fmtCode sBeyK⟩,
  ⟨(((hT++fl)++wT wd)++z.s)++[100],[.str [122],.str [52,120]],sExp++[52,120]++[34],cNum⟩,
  ⟨([37]++fl)++[42,100],[.str [113],.str [53]],sExp++[113]++[34],cNum⟩,
  ⟨([37]++fl)++[99],[.str (wrt false (4294967296 + m))],sLar,cLar⟩,
  ⟨([37]++fl)++[99],[.str (wrt false (-2147483648 - 1 - m))],sLar,cLar⟩,
  ⟨([37]++fl)++[108,108,117],[.str (wrt false (-1 - m))],sUns,fmtCode kUns⟩]
theorem fok_d {v:Int} (s:So) (q:Bool) (hv:v.natAbs < 2 ^ 70) (hf:∀ k ∈ fl,isFl k=true) (hl:fl.length≤100):FOk fl .no .no z (.w s q v):=have K:=Kd.ok (.w s); ⟨hf,hl,True.intro,True.intro,hv,K.1,K.2.1,spec_no2 hf _ _ _,K.2.2⟩
theorem few_w {i k:Nat} (h:k≤i):Ph (n + 5) 283 [.int i,.int k,.bool false]=.exn sFew (fmtCode kFew):=ph_noword (i:=i) (by rw [show decide ((i:Int) < (k:Int))=false from dgt (by omega)]; exact Bool.and_false _) false
theorem bey_w {i:Int} {k:Nat} (h:i < 0∨(k:Int)≤i) (n:Nat):Ph (n + 1) 283 [.int i,.int k,.bool true]=.exn sBey (fmtCode sBeyK):=ph_noword (i:=i) (by
  rcases h with h | h
  ·rw [show decide ((0:Int)≤i)=false from dgt (by omega)]; rfl
  ·rw [show decide (i < (k:Int))=false from dgt (by omega)]; exact Bool.and_false _) true
theorem wf1 (hf:∀ k ∈ fl,isFl k=true) (hw:OkN wd):Ph (n + 8) 360 [.str (((hT++fl)++wT wd)++z.s),.lst [.str [122],.str [53]]]=.exn (sEnd) (fmtCode kEnd):=by
 have:=wf_x (n:=n) (z:=z) (e:=[]) hf hw (.inl rfl) (fun _ h=>nomatch h) (w:=.str [53]) field_end
 rw [List.append_nil] at this
 exact this
theorem wf2 (hf:∀ k ∈ fl,isFl k=true) (hw:OkN wd) (hc:c ∈ badL):Ph (n + 8) 360 [.str ((((hT++fl)++wT wd)++z.s)++[c]),.lst [.str [122],.str [53]]]=.exn ((sBad++[c])++[34]) (fmtCode kBad):=by
 have B:=bad_ok c hc
 rw [List.append_assoc _ z.s [c]]
 exact wf_x hf hw (.inr ⟨_,_,rfl,B.1,B.2.1⟩) (fun k hk=>by cases List.mem_singleton.mp hk; exact B.2.2) (field_bad hc)
theorem wf3 (hf:∀ k ∈ fl,isFl k=true):Ph (n + 8) 360 [.str ((((hT++fl)++wT wd)++z.s)++[100]),.lst [.str [122]]]=.exn (sFew) (fmtCode kFew):=by
 have F:=fl_n2 hf
 have W:=n2_wd wd
 have Zn:=z.no2
 rw [List.append_assoc _ z.s [100],as4]
 exact wr_2 (xs:=[]) (n2_app F (n2_app W (n2_app Zn (by decide)))) (put_noword rfl (few_w (i:=1) (k:=1) (by decide)))
theorem wf4 (hf:∀ k ∈ fl,isFl k=true):Ph (n + 8) 360 [.str ((hT++fl)++[42,100]),.lst [.str [122],.str [53]]]=.exn (sFew) (fmtCode kFew):=by
 have F:=fl_n2 hf
 rw [List.append_assoc]
 exact wr_2 (n2_app F (by decide)) (put_star (i:=1) (Nat.le_refl 2) hf (a:=5) rfl (rm_word (r:=[100]) (d_app (x:=fl) (a:=5) rfl) (few_w (Nat.le_refl 2))))
theorem wf5 (hf:∀ k ∈ fl,isFl k=true) (hw:OkN wd):Ph (n + 8) 360 [.str (((((hT++fl)++wT wd)++[46,42])++z.s)++[120]),.lst [.str [122],.str [53]]]=.exn (sFew) (fmtCode kFew):=by
 have F:=fl_n2 hf
 have W:=n2_wd wd
 have Zn:=z.no2
 rw [List.append_assoc _ z.s [120],List.append_assoc,as4]
 exact wr_2 (n2_app F (n2_app W (n2_app (by decide) (n2_app Zn (by decide))))) (put_dot (i:=1) (r:=z.s++[120]) (Nat.le_refl 2) hf hw (a:=5) (Nat.le_add_left 5 _) rfl (rm_word (r:=z.s++[120]) (at_next (d_app (d_app (x:=fl) (a:=5) rfl))) (few_w (Nat.le_refl 2))))
theorem wf6:Ph (n + 8) 360 [.str ([37,115,32,37,49,36,100]),.lst [.str [122],.str [53]]]=.exn (sMix) (fmtCode sMixK):=by
 exact wr_of (lp_f1 (x:=[]) (b:=0) (r:=[32,37,49,36,100]) (xs:=[.str [53]]) (fok_s (s:=[122]) (by decide)) rfl (by decide) (Nat.zero_le _) rfl (.inl rfl) rfl (fun t ht=>lp_mix (a:=2) (b:=3) (x:=[32]) (r:=[49,36,100]) (pv:=1) (av:=6) rfl (by decide) rfl (Nat.le_of_ble_eq_true rfl) rfl (ph_rplace (a:=4) (x:=[49]) (r:=[100]) (b:=5) rfl (Nat.le_of_ble_eq_true rfl) (by decide) (by decide +kernel) (by decide +kernel) rfl) (.inr ⟨rfl,rfl⟩)) fun h=>absurd h (Option.some_ne_none _))
theorem wf7:Ph (n + 8) 360 [.str ([37,50,36,100,32,37,115]),.lst [.str [122],.str [53]]]=.exn (sMix) (fmtCode sMixK):=by
 exact wr_of (lp_f2 (j:=1) (x:=[]) (b:=0) (r:=[32,37,115]) (xs:=[]) (fok_d (fl:=[]) (z:=.e) (v:=5) .d false (by decide) (fun _ h=>nomatch h) (by decide)) (by decide) rfl (by decide) (Nat.zero_le _) rfl (.inl rfl) rfl (fun t ht=>lp_mix (a:=4) (b:=5) (x:=[32]) (r:=[115]) (pv:=-1) (av:=6) rfl (by decide) rfl (Nat.le_of_ble_eq_true rfl) rfl (ph_np (a:=6) rfl (Nat.le_of_ble_eq_true rfl) (by decide)) (.inl ⟨rfl,rfl⟩)) fun h=>absurd h (Option.some_ne_none _))
theorem wf8 (hm:m < 50):Ph (n + 8) 360 [.str (([37]++dgS false 10 (m + 3))++[36,100]),.lst [.str [122],.str [53]]]=.exn (sBey) (fmtCode sBeyK):=by
 have h0:=dgS_ne false 10 (m + 3)
 have hD:∀ d ∈ dgS false 10 (m + 3),isD 10 d=true:=dgS_D (b:=10) (by decide) (by decide)
 have hv:dv 10 (dgS false 10 (m + 3))=((m + 3:Nat):Int):=dv_dgS (b:=10) (by decide) (by decide) false (Nat.lt_trans (by omega:m + 3 < 60) (by decide +kernel))
 have hp:=ph_rplace (n:=n + 3) (f:=([37]++dgS false 10 (m + 3))++[36,100]) (a:=1) (r:=[100]) rfl (Nat.le_add_left 1 _) h0 hD (by rw [hv]; exact Int.natCast_nonneg _) rfl
 rw [hv] at hp
 refine wr_of (lp_x2 (x:=[]) (b:=0) rfl (fun _ h=>nomatch h) ?_ (Nat.zero_le _) rfl hp (Int.natCast_nonneg _) (.inl rfl) (put_noword (args:=[.str [122],.str [53]]) (by show (_ && decide (((m + 3:Nat):Int) - 1 < ((2:Nat):Int)))=false; rw [show decide (((m + 3:Nat):Int) - 1 < ((2:Nat):Int))=false from dgt (by omega)]; exact Bool.and_false _) (bey_w (.inr (by omega:((2:Nat):Int)≤((m + 3:Nat):Int) - 1)) _)))
 cases hd:dgS false 10 (m + 3) with
 | nil=>exact absurd hd h0
 | cons d t=>exact d37 (hD d (hd ▸ .head _))
theorem wf9:Ph (n + 8) 360 [.str (([37,48,36]++fl)++[100]),.lst [.str [122],.str [53]]]=.exn (sBey) (fmtCode sBeyK):=by
 exact wr_of (lp_x2 (x:=[]) (b:=0) (pv:=0) (av:=3) (r:=48::36::(fl++[100])) rfl (fun _ h=>nomatch h) rfl (Nat.zero_le _) rfl (ph_rplace (a:=1) (x:=[48]) (r:=fl++[100]) (b:=2) rfl (Nat.le_add_left 1 _) (by decide) (by decide +kernel) (by decide +kernel) rfl) (by decide) (.inl rfl) (put_noword rfl (bey_w (.inl (by decide)) _)))
theorem wf10 (hf:∀ k ∈ fl,isFl k=true):Ph (n + 8) 360 [.str (([37,50,36]++fl)++[42,100]),.lst [.str [122],.str [53]]]=.exn (sBey) (fmtCode sBeyK):=by
 exact wr_of (lp_x2 (x:=[]) (b:=0) (pv:=2) (av:=3) (r:=50::36::(fl++[42,100])) (by rw [List.append_assoc]; rfl) (fun _ h=>nomatch h) rfl (Nat.zero_le _) rfl (ph_rplace (a:=1) (x:=[50]) (r:=fl++[42,100]) (b:=2) (by rw [List.append_assoc]; rfl) (Nat.le_add_left 1 _) (by decide) (by decide +kernel) (by decide +kernel) rfl) (by decide) (.inl rfl) (put_star (i:=1) (fl:=fl) (Nat.le_refl 2) hf (a:=3) (r:=[100]) (by rw [List.append_assoc]; rfl) (rm_word (r:=[100]) (d_app (x:=fl) (a:=3) (by rw [List.append_assoc]; rfl)) (bey_w (i:=2) (k:=2) (.inr (by decide)) _))))
theorem wf11 (hf:∀ k ∈ fl,isFl k=true) (hw:OkN wd):Ph (n + 8) 360 [.str ((((hT++fl)++wT wd)++z.s)++[100]),.lst [.str [122],.str [52,120]]]=.exn (sExp++[52,120]++[34]) (cNum):=by
 rw [List.append_assoc _ z.s [100]]
 exact wf_x hf hw (es_of (.w .d)) (by decide) (field_d need_4x)
theorem wf12 (hf:∀ k ∈ fl,isFl k=true):Ph (n + 8) 360 [.str (([37]++fl)++[42,100]),.lst [.str [113],.str [53]]]=.exn (sExp++[113]++[34]) (cNum):=by
 have F:=fl_n2 hf
 rw [List.append_assoc]
 exact wr_1 (R:=fl++[42,100]) (n2_app F (by decide)) (put_star (i:=0) (Nat.le_succ 1) hf (a:=1) rfl (rm_int (r:=[100]) (d_app (x:=fl) (a:=1) rfl) (Nat.le_refl 2) rfl (int_x need_q)))
theorem wf13 (hf:∀ k ∈ fl,isFl k=true) (hm:m < 50):Ph (n + 8) 360 [.str (([37]++fl)++[99]),.lst [.str (wrt false (4294967296 + m))]]=.exn (sLar) (cLar):=by
 have F:=fl_n2 hf
 rw [List.append_assoc]
 exact wr_1 (R:=fl++[99]) (n2_app F (by decide)) (put_x (a:=1) (i:=0) (wd:=none) (z:=.e) (e:=[99]) rfl hf True.intro (Nat.le_add_left 1 _) rfl (es_of .c) (field_c (int_lar (by omega) (by omega))))
theorem wf14 (hf:∀ k ∈ fl,isFl k=true) (hm:m < 50):Ph (n + 8) 360 [.str (([37]++fl)++[99]),.lst [.str (wrt false (-2147483648 - 1 - m))]]=.exn (sLar) (cLar):=by
 have F:=fl_n2 hf
 rw [List.append_assoc]
 exact wr_1 (R:=fl++[99]) (n2_app F (by decide)) (put_x (a:=1) (i:=0) (wd:=none) (z:=.e) (e:=[99]) rfl hf True.intro (Nat.le_add_left 1 _) rfl (es_of .c) (field_c (int_lar (by omega) (by omega))))
theorem wf15 (hf:∀ k ∈ fl,isFl k=true) (hm:m < 50):Ph (n + 8) 360 [.str (([37]++fl)++[108,108,117]),.lst [.str (wrt false (-1 - m))]]=.exn (sUns) (fmtCode kUns):=by
 have F:=fl_n2 hf
 rw [List.append_assoc]
 refine wr_1 (R:=fl++[108,108,117]) (n2_app F (by decide)) (put_x (a:=1) (i:=0) (wd:=none) (z:=.ll) (e:=[117]) rfl hf True.intro (Nat.le_add_left 1 _) rfl (es_of (.w .u)) ?_)
 have:=ph_field (n:=n) (x:=.w .u false (-1 - (m:Int))) (z:=.ll) (fl:=fl) (w:=0) (p:=-1) (by show (-1 - (m:Int)).natAbs < _; omega) (by decide) (by decide) (by decide)
 refine this.trans ?_
 show optR (cond (true && (true && decide (-1 - (m:Int) < 0))) none (some _))=_
 rw [show decide (-1 - (m:Int) < 0)=true from dlt (by omega)]
 rfl
end
end Mine
end
section
set_option tactic.hygienic false
open PySem
namespace Mine
section
variable {n:Nat} {fl e:Tx} {z:Sz} {wd:Option Nat} {c m:Nat} {N:Int}
theorem all_c {α:Type} {p:α→Prop} {y:α} {l:List α} (h1:p y) (h2:∀ x ∈ l,p x):∀ x ∈ y::l,p x:=fun x hx=>(List.mem_cons.mp hx).elim (fun e=>e ▸ h1) (h2 x)
theorem all_n {α:Type} {p:α→Prop}:∀ x ∈ ([]:List α),p x:=fun x hx=>nomatch hx
theorem wfs_ok (hf:∀ k ∈ fl,isFl k=true) (hw:OkN wd) (hc:c ∈ badL) (hm:m < 50):∀ x ∈ wfs fl wd z c m,x.Ok n :=
 all_c ⟨wf1 hf hw,rfl,rfl⟩ (all_c ⟨wf2 hf hw hc,rfl,rfl⟩ (all_c ⟨wf3 hf,rfl,rfl⟩ (all_c ⟨wf4 hf,rfl,rfl⟩ (all_c ⟨wf5 hf hw,rfl,rfl⟩ (all_c ⟨wf6,rfl,rfl⟩ (all_c ⟨wf7,rfl,rfl⟩ (all_c ⟨wf8 hm,rfl,rfl⟩ (all_c ⟨wf9,rfl,rfl⟩ (all_c ⟨wf10 hf,rfl,rfl⟩ (all_c ⟨wf11 hf hw,rfl,rfl⟩ (all_c ⟨wf12 hf,rfl,rfl⟩ (all_c ⟨wf13 hf hm,rfl,rfl⟩ (all_c ⟨wf14 hf hm,rfl,rfl⟩ (all_c ⟨wf15 hf hm,rfl,rfl⟩ all_n))))))))))))))
theorem fl_ok:∀ fl ∈ flL,(∀ k ∈ fl,isFl k=true)∧fl.length≤2:=by decide +kernel
theorem wd_ok:∀ wd ∈ wdL,OkN wd∧(wT wd).length≤2:=all_c ⟨True.intro,by decide +kernel⟩ (all_c ⟨⟨by decide,by decide⟩,by decide +kernel⟩ (all_c ⟨⟨by decide,by decide⟩,by decide +kernel⟩ all_n))
set_option maxHeartbeats 2000000 in
theorem ph_wfs (h:Nat):∃ L:List Wf,(∀ x ∈ L,x.Ok h)∧Ph (n + 1) 439 [.int N]=.ok (.lst (L.map Wf.av)):=by
 refine cps fun Γ₀ fi₀=>?_
 obtain ⟨m1,l1,e1⟩:=modn N 4 (by decide)
 obtain ⟨fl,h1,f1⟩:=ixm_t (g:=AV.str) (l:=flL) (m:=m1) l1
 obtain ⟨m2,l2,e2⟩:=modn (N / 4) 3 (by decide)
 obtain ⟨wd,h2,f2⟩:=ixm_t (g:=fun w=>AV.str (wT w)) (l:=wdL) (m:=m2) l2
 obtain ⟨m3,l3,e3⟩:=modn (N / 12) 4 (by decide)
 obtain ⟨z,_,f3⟩:=ixm_t (g:=fun z:Sz=>AV.str z.s) (l:=szM) (m:=m3) l3
 obtain ⟨m4,l4,e4⟩:=modn (N / 48) 6 (by decide)
 obtain ⟨c,h4,f4⟩:=ixm_s (g:=fun c:Nat=>c) (l:=badL) (m:=m4) l4
 obtain ⟨m,hm,e5⟩:=modn (N.natAbs:Int) 50 (by decide)
 refine fi₀ ?_
 have F:=fl_ok fl h1
 have W:=wd_ok wd h2
 have Z:=z.len
 have D:=dgS_len false 10 (m + 3)
 have a1:binop .add (.str [97,37,115,32,37]) (.str fl)=.ok (.str (hT++fl)):=add_k (by decide) (by lia)
 have k1:(hT++fl).length≤10:=len_k (a:=5) (by decide) F.2 (by decide)
 have a2:=add_k (s:=hT++fl) (t:=wT wd) (by lia) (by lia)
 have k2:((hT++fl)++wT wd).length≤12:=len_k k1 W.2 (by decide)
 have a3:=add_k (s:=(hT++fl)++wT wd) (t:=z.s) (by lia) (by lia)
 have k3:(((hT++fl)++wT wd)++z.s).length≤14:=len_k k2 Z (by decide)
 have A:=fun (c:Nat)=>add_k (s:=((hT++fl)++wT wd)++z.s) (t:=[c]) (by lia) (Nat.le_of_ble_eq_true rfl)
 have a4:=add_k (s:=(hT++fl)++wT wd) (t:=[46,42]) (by lia) (by decide)
 have k4:(((hT++fl)++wT wd)++[46,42]).length≤14:=len_k k2 (b:=2) (by decide) (by decide)
 have a5:=add_k (s:=((hT++fl)++wT wd)++[46,42]) (t:=z.s) (by lia) (by lia)
 have k5:((((hT++fl)++wT wd)++[46,42])++z.s).length≤16:=len_k k4 Z (by decide)
 have a6:=add_k (s:=(((hT++fl)++wT wd)++[46,42])++z.s) (t:=[120]) (by lia) (by decide)
 have a7:=add_k (s:=[37]) (t:=fl) (by decide) (by lia)
 have k7:([37]++fl).length≤3:=len_k (a:=1) (by decide) F.2 (by decide)
 have a8:=add_k (s:=[37,48,36]) (t:=fl) (by decide) (by lia)
 have k8:([37,48,36]++fl).length≤5:=len_k (a:=3) (by decide) F.2 (by decide)
 have a9:=add_k (s:=[37,50,36]) (t:=fl) (by decide) (by lia)
 have k9:([37,50,36]++fl).length≤5:=len_k (a:=3) (by decide) F.2 (by decide)
 have a10:=add_k (s:=[37]) (t:=dgS false 10 (m + 3)) (by decide) (by lia)
 have k10:([37]++dgS false 10 (m + 3)).length≤101:=len_k (a:=1) (by decide) D (by decide)
 have sm:biop .str [.int (3 + (m:Int))]=.ok (.str (dgS false 10 (m + 3))):=by
  rw [show (3 + (m:Int))=((m + 3:Nat):Int) by lia]
  exact str_nat (Nat.lt_trans (by lia:m + 3 < 60) (by decide +kernel))
 have tw:∀ {f:Tx} {ws:List AV} {t:AV} {σ:Env'} {e1 e2 e3:ME},ev n e1 σ=.ok (.str f)→ev n e2 σ=.ok (.lst ws)→ev n e3 σ=.ok t→ev n (.tup [e1,e2,e3]) σ=.ok (.tup [.str f,.lst ws,t]):=fun h1 h2 h3=>e_tup (el_cons h1 (el_cons h2 (el_cons h3 rfl))) rfl
 refine ⟨wfs fl wd z c m,wfs_ok F.1 W.1 h4 hm,call_s (d:=d_law_wrong_formats) [.val (.int N),.u,.u,.u,.u,.u,.u,.u,.u,.u,.u,.u] rfl rfl rfl ?_⟩
 refine g_asg (e_idx (x:=.tup (flL.map AV.str)) rfl (e_bin rfl rfl e1) f1) ?_
 refine g_asg (e_bin (e_bin rfl rfl a1) (e_idx (x:=.tup (wdL.map fun w=>AV.str (wT w))) rfl (e_bin (e_bin rfl rfl (z:=.int (N / 4)) rfl) rfl e2) f2) a2) ?_
 refine g_asg (e_idx (x:=.tup (szM.map fun z:Sz=>AV.str z.s)) rfl (e_bin (e_bin rfl rfl (z:=.int (N / 12)) rfl) rfl e3) f3) ?_
 refine g_asg (e_idx (x:=.str (badL.map fun c:Nat=>c)) rfl (e_bin (e_bin rfl rfl (z:=.int (N / 48)) rfl) rfl e4) f4) ?_
 refine g_asg (e_bin (e_bi rfl rfl) rfl e5) (g_asg rfl (g_asg rfl (g_asg rfl (g_asg rfl (g_asg rfl (g_asg rfl (g_ret (e_lst ?_ rfl) rfl)))))))
 refine el_cons (tw (e_bin rfl rfl a3) rfl rfl) (el_cons (tw (e_bin (e_bin rfl rfl a3) rfl (A c)) rfl rfl) (el_cons (tw (e_bin (e_bin rfl rfl a3) rfl (A 100)) rfl rfl) ?_))
 refine el_cons (tw (e_bin (e_bin rfl rfl a1) rfl (add_k (t:=[42,100]) (by lia) (by decide))) rfl rfl) (el_cons (tw (e_bin (e_bin (e_bin rfl rfl a4) rfl a5) rfl a6) rfl rfl) (el_cons (tw rfl rfl rfl) (el_cons (tw rfl rfl rfl) ?_)))
 refine el_cons (tw (e_bin (e_bin rfl (e_bi (el_cons (e_bin rfl rfl rfl) rfl) sm) a10) rfl (add_k (t:=[36,100]) (by lia) (by decide))) rfl rfl) (el_cons (tw (e_bin (e_bin rfl rfl a8) rfl (add_k (t:=[100]) (by lia) (by decide))) rfl rfl) (el_cons (tw (e_bin (e_bin rfl rfl a9) rfl (add_k (t:=[42,100]) (by lia) (by decide))) rfl rfl) ?_))
 refine el_cons (tw (e_bin (e_bin rfl rfl a3) rfl (A 100)) rfl rfl) (el_cons (tw (e_bin (e_bin rfl rfl a7) rfl (add_k (t:=[42,100]) (by lia) (by decide))) rfl rfl) ?_)
 refine el_cons (tw (e_bin (e_bin rfl rfl a7) rfl (add_k (t:=[99]) (by lia) (by decide))) (e_lst (el_cons (e_bi (el_cons (e_bin rfl rfl (z:=.int (4294967296 + m)) rfl) rfl) (str_w (by lia))) rfl) rfl) rfl) ?_
 refine el_cons (tw (e_bin (e_bin rfl rfl a7) rfl (add_k (t:=[99]) (by omega) (by decide))) (e_lst (el_cons (e_bi (el_cons (e_bin (e_bin rfl rfl (z:=.int (-2147483648 - 1)) rfl) rfl (z:=.int (-2147483648 - 1 - m)) rfl) rfl) (str_w (by omega))) rfl) rfl) rfl) ?_
 exact el_cons (tw (e_bin (e_bin rfl rfl a7) rfl (add_k (t:=[108,108,117]) (by lia) (by decide))) (e_lst (el_cons (e_bi (el_cons (e_bin rfl rfl (z:=.int (-1 - m)) rfl) rfl) (str_w (by lia))) rfl) rfl) rfl) rfl
noncomputable def wfB:List MS:=loB (c_law.drop 1)
theorem fr_wf {s0 s1 s5 s6 s7 s8 s9 s10:SV} {F:Env'→Out} {o:Out}:∀ (L:List Wf) (s2 s3 s4:SV),(∀ x ∈ L,x.Ok n)→(∀ t2 t3 t4,F [s0,s1,t2,t3,t4,s5,s6,s7,s8,s9,s10]=o)→Fr (n + 9) .lst [2,3,4] wfB (L.map Wf.av) [s0,s1,s2,s3,s4,s5,s6,s7,s8,s9,s10] F o
 | [],s2,s3,s4,_,h=>h s2 s3 s4
 | x::L,s2,s3,s4,hL,h=>by
  have hx:=hL x (.head _)
  refine f_next (c:=.next [s0,s1,.val (.str x.f),.val (.lst x.ws),.val (.tup [.str x.t,.tup x.c]),s5,s6,s7,s8,s9,s10]) (fun F=>rfl) (g_if0 (e_cmp (e_call rfl (told_x hx.1)) rfl (limT hx.2.2)) (nf (?_:AV.eqv (.tup [.int 1,.str x.t,.tup x.c]) (.tup [.int 1,.str x.t,.tup x.c])=true)) (g_done rfl)) (fun F=>rfl) (fr_wf L _ _ _ (fun y hy=>hL y (.tail _ hy)) h)
  exact eq3 hx.2.1
end
end Mine
end
section
set_option tactic.hygienic false
open PySem
namespace Mine
inductive Hd | star | pl (k:Nat) | no
namespace Hd
noncomputable def t:Hd→Tx
 | .star=>[42] | .pl k=>dgS false 10 k++[36] | .no=>[]
noncomputable def v:Hd→Int
 | .pl k=>k | _=>-1
noncomputable def kept:Hd→Bool
 | .star=>false | _=>true
def Ok:Hd→Prop
 | .pl k=>k < 1000 | _=>True
end Hd
section
variable {n:Nat} {f r x t e:Tx} {a b c i m h:Nat} {q:Bool} {z:Sz} {w:Int} {wd:Option Nat} {hd:Hd} {cc:List AV} {o:Out}
theorem sz36 (h:c≠36):AV.eqv (.str ((z.s++c::r).take 1)) (.str [36])=false:=by
 cases z
 case e=>exact ne1 h
 all_goals rfl
theorem es_c (P:Pl c) (Z:NoSz c):Es (c::r):=.inr ⟨_,_,rfl,P,Z⟩
theorem ph_spec (h:f.drop a=hd.t++(wT wd++(z.s++c::r))) (ha:a≤f.length) (hp:hd.Ok) (hw:∀ k,wd=some k→k < 1000) (P:Pl c) (Z:NoSz c) (h36:c≠36) :
  Ph (n + 5) 171 [.str f,.int a]=.ok (.tup [.int hd.v,.bool hd.kept,.int (wV wd),.str z.nm,.str [c],.int (a + hd.t.length + (wT wd).length + z.s.length + 1:Nat)]):=by
 have E:=(es_c (r:=r) P Z).en z
 have h1:=d_app h
 have ha1:=at_le h rfl ha
 have h2:=d_app h1
 have ha2:=at_le h1 rfl ha1
 have tail:∀ (pv:Int) (kp:Bool),Go (n + 4) (c_read_spec.drop 3) [.val (.str f),.val (.int (a + hd.t.length:Nat)),.val (.int pv),.val (.bool kp),.u,.u] nx (.ok (.ret (.tup [.int pv,.bool kp,.int (wV wd),.str z.nm,.str [c],.int (a + hd.t.length + (wT wd).length + z.s.length + 1:Nat)])))  :=fun pv kp =>
  g_asgT (e_call rfl (ph_rd h1 ha1 E.d hw)) (fun F=>rfl) (g_asgT (e_call rfl (ph_sizeE h2 ha2 (es_c P Z))) (fun F=>rfl) (g_ret (e_tup (el_cons rfl (el_cons rfl (el_cons rfl (el_cons rfl (el_cons (e_call rfl (ph_sign (d_app h2))) rfl))))) rfl) rfl))
 cases hd with
 | star=>exact call_s (d:=d_read_spec) [.val (.str f),.val (.int a),.u,.u,.u,.u] rfl rfl rfl (g_asg rfl (g_asg (e_cmp (e_call rfl (ph_sign h)) rfl rfl) (g_ie rfl rfl (g_aug rfl rfl (g_done rfl)) (tail _ _))))
 | no =>
  have hs:AV.eqv (.str ((wT wd++(z.s++c::r)).take 1)) (.str [42])=false:=wd_star E.s
  have hD:∀ k ∈ wT wd,isD 10 k=true:=match wd with
   | none=>fun _ h=>nomatch h
   | some k=>dgS_D (b:=10) (by decide) (by decide)
  exact call_s (d:=d_read_spec) [.val (.str f),.val (.int a),.u,.u,.u,.u] rfl rfl rfl (g_asg rfl (g_asg (e_cmp (t:=true) (e_call rfl (ph_signT h)) rfl (congrArg (fun b=>R.ok (!b)) hs)) (g_it rfl rfl (g_asgT (e_call rfl (ph_rp0 (n:=n) (ds:=wT wd) h ha hD E.d (sz36 h36))) (fun F=>rfl) (g_done rfl)) (tail _ _))))
 | pl k =>
  have hs:AV.eqv (.str ((wT (some k)++([36]++(wT wd++(z.s++c::r)))).take 1)) (.str [42])=false:=wd_star rfl
  have h':f.drop a=dgS false 10 k++36::(wT wd++(z.s++c::r)):=h.trans (List.append_assoc _ _ _)
  have hv:dv 10 (dgS false 10 k)=(k:Int):=dv_dgS (b:=10) (by decide) (by decide) false (Nat.lt_trans hp (by decide))
  have hr:=ph_rplace (n:=n) h' ha (dgS_ne false 10 k) (dgS_D (b:=10) (by decide) (by decide)) (by rw [hv]; exact Int.natCast_nonneg k) rfl
  rw [hv] at hr
  have el:a + (Hd.pl k).t.length=a + (dgS false 10 k).length + 1:=by show a + (dgS false 10 k++[36]).length=_; rw [List.length_append]; rfl
  rw [el] at tail ⊢
  exact call_s (d:=d_read_spec) [.val (.str f),.val (.int a),.u,.u,.u,.u] rfl rfl rfl (g_asg rfl (g_asg (e_cmp (t:=true) (e_call rfl (ph_signT h')) rfl (congrArg (fun b=>R.ok (!b)) hs)) (g_it rfl rfl (g_asgT (e_call rfl hr) (fun F=>rfl) (g_done rfl)) (tail _ _))))
def SetP (p:Tx):Prop:=p=[]∨p=[94]∨p=[93]∨p=[94,93]
theorem set_p {p:Tx} (hp:SetP p) (h:f.drop a=p++c::r) (hc:c≠94) (hc2:c≠93) (k:Go n (c_set_behind.drop 2) [.val (.str f),.val (.int (a + p.length:Nat)),.u] nx o) {w:R AV} (hb:back o=w) (n':n=m + 1):Ph (n + 1) 178 [.str f,.int a]=w:=by
 subst n'
 have C:∀ {a},f.drop a=c::r→∀ d,c≠d→ev (m + 1) (.cmp (.call 122 [(.v 0),(.v 1)]) .eq (.c (.str [d]))) [.val (.str f),.val (.int a),.u]=.ok (.bool false):=fun h d hd=>e_cmp (e_call rfl (ph_sign h)) rfl (congrArg R.ok (ne1 hd))
 rcases hp with rfl | rfl | rfl | rfl
 ·exact call_o (d:=d_set_behind) (o:=o) [.val (.str f),.val (.int a),.u] rfl rfl rfl (g_if0 (C h 94 hc) rfl (g_if0 (C h 93 hc2) rfl k)) hb
 ·exact call_o (d:=d_set_behind) (o:=o) [.val (.str f),.val (.int a),.u] rfl rfl rfl (g_it (e_cmp (e_call rfl (ph_sign h)) rfl rfl) rfl (g_aug rfl rfl (g_done rfl)) (g_if0 (C (at_next h) 93 hc2) rfl k)) hb
 ·exact call_o (d:=d_set_behind) (o:=o) [.val (.str f),.val (.int a),.u] rfl rfl rfl (g_if0 (e_cmp (e_call rfl (ph_sign h)) rfl rfl) rfl (g_it (e_cmp (e_call rfl (ph_sign h)) rfl rfl) rfl (g_aug rfl rfl (g_done rfl)) k)) hb
 ·exact call_o (d:=d_set_behind) (o:=o) [.val (.str f),.val (.int a),.u] rfl rfl rfl (g_it (e_cmp (e_call rfl (ph_sign h)) rfl rfl) rfl (g_aug rfl rfl (g_done rfl)) (g_it (e_cmp (e_call rfl (ph_sign (at_next h))) rfl rfl) rfl (g_aug rfl rfl (g_done rfl)) k)) hb
theorem ph_set {p:Tx} (hp:SetP p) (h:f.drop a=(p++c::x)++93::r) (hx:∀ k ∈ c::x,k≠93) (hc:c≠94):Ph (n + 2) 178 [.str f,.int a]=.ok (.int (a + (p++c::x).length + 1:Nat)):=by
 have h1:f.drop a=p++c::(x++93::r):=h.trans (List.append_assoc _ _ _)
 have h2:f.drop (a + p.length)=(c::x)++93::r:=d_app h1
 have h3:=d_app h
 have hb:a + p.length + (c::x).length=a + (p++c::x).length:=by rw [List.length_append,Nat.add_assoc]
 refine set_p (o:=.ok (.ret _)) hp h1 hc (hx c (.head _)) (g_asg (e_call rfl (ph_place h2 hx (fun k t e=>(List.cons.inj e).1.symm) hb)) (g_if0 (e_cmp rfl rfl rfl) (dgt (Int.not_le.mpr (Int.ofNat_lt.mpr (at_lt h3)))) (g_ret rfl rfl))) rfl rfl
noncomputable def sBra:Tx:=[117,110,109,97,116,99,104,101,100,32,91,32,105,110,32,102,111,114,109,97,116,32,115,116,114,105,110,103]
noncomputable def kBra:Tx:=[66,82,65,67,75,69,84]
theorem set_x {p:Tx} (hp:SetP p) (h:f.drop a=p++c::x) (hx:∀ k ∈ c::x,k≠93) (hc:c≠94):Ph (n + 2) 178 [.str f,.int a]=.exn sBra (fmtCode kBra):=by
 have h2:f.drop (a + p.length)=(c::x)++[]:=(d_app h).trans (List.append_nil _).symm
 refine set_p (o:=.exn sBra (fmtCode kBra)) hp h hc (hx c (.head _)) (g_asg (e_call rfl (ph_place h2 hx (fun k t e=>nomatch e) rfl)) (g_t (e_cmp rfl rfl rfl) (dlt (Int.ofNat_le.mpr (at_end (d_app h2)))) (g_raise rfl rfl))) rfl rfl
def NoB (r:Tx):Prop:=r=[]∨∃ k t,r=k::t∧isBlank k=false
theorem go_skip (hr:NoB r):∀ {x:Tx} {a:Nat},f.drop a=x++r→(∀ k ∈ x,isBlank k=true)→Go (n + 1) c_skip_blanks [.val (.str f),.val (.int a)] nx (.ok (.ret (.int (a + x.length:Nat))))
 | [],a,h,_=>by
  rcases hr with rfl | ⟨k,t,rfl,hk⟩
  ·exact g_wf (e_andf (e_cmp rfl rfl rfl) (lt_f h)) rfl (g_ret rfl rfl)
  ·exact g_wf (e_and (e_cmp rfl rfl rfl) (lt_t h) (e_andf (e_call (el_cons (e_idx rfl rfl (ix h)) rfl) ph_blank) hk)) rfl (g_ret rfl rfl)
 | d::x,a,h,hx=>by
  have:=go_skip hr (x:=x) (a:=a + 1) (at_next h) fun k hk=>hx k (.tail _ hk)
  rw [up rfl] at this
  exact g_wt (e_and (e_cmp rfl rfl rfl) (lt_t h) (e_and (e_call (el_cons (e_idx rfl rfl (ix h)) rfl) ph_blank) (hx d (.head _)) rfl)) rfl (g_evs (g_aug rfl rfl (g_done rfl))) rfl this
theorem ph_skip (h:f.drop a=x++r) (hx:∀ k ∈ x,isBlank k=true) (hr:NoB r):Ph (n + 2) 206 [.str f,.int a]=.ok (.int (a + x.length:Nat)) :=
 call_s (d:=d_skip_blanks) [.val (.str f),.val (.int a)] rfl rfl rfl (go_skip hr h hx)
end
end Mine
end
section
set_option tactic.hygienic false
open PySem
namespace Mine
noncomputable def toldL (ks:List Nat):List (Int × Int):=ks.map fun (k:Nat)=>((k:Int),(1:Int))
section
variable {n:Nat} {σ:Env'} {f:Env'→Out} {o:Out} {r:List MS} {l:List ME} {vs:List AV} {d:List (Int × Int)} {q:R AV} {i g:Nat}
theorem g_exprD (h0:σ[i]?=some (.od d)) (h1:evl n l σ=.ok vs) (h2:De n g d vs=q) (h:q.bind (fun _=>seqO (evSs (Ph n) MT (De n) r σ) f)=o):Go n (.exprD g i l::r) σ f o:=by
 rw [go_cons]
 subst h
 subst h2
 show seqO (asE σ[i]? _) _=_
 rw [h0]
 refine (congrArg (fun q=>seqO q _) (bd (f:=fun vs=>(De n g d vs).bind fun _=>nx σ) h1 rfl)).trans ?_
 cases De n g d vs <;> rfl
theorem find_in:∀ {ks:List Nat} {i:Nat},i ∈ ks→dictGet (toldL ks) i=some 1
 | k::ks,i,h=>by
  unfold dictGet toldL
  rw [List.map_cons,List.find?_cons]
  by_cases e:k=i
  ·subst e
   rw [show (((k:Int),(1:Int)).1 == (k:Int))=true from beq_self_eq_true _]
   rfl
  ·rw [show (((k:Int),(1:Int)).1 == (i:Int))=false from beq_eq_false_iff_ne.mpr fun q=>e (Int.ofNat.inj q)]
   exact find_in ((List.mem_cons.mp h).resolve_left fun q=>e q.symm)
theorem find_out:∀ {ks:List Nat} {i:Nat},i ∉ ks→dictGet (toldL ks) i=none∧(toldL ks).any (fun p=>p.1 == (i:Int))=false
 | [],i,h=>⟨rfl,rfl⟩
 | k::ks,i,h=>by
  have e:(((k:Int),(1:Int)).1 == (i:Int))=false:=beq_eq_false_iff_ne.mpr fun q=>h (List.mem_cons.mpr (.inl (Int.ofNat.inj q).symm))
  obtain ⟨h1,h2⟩:=find_out fun q=>h (List.mem_cons_of_mem _ q)
  constructor
  ·unfold dictGet toldL
   rw [List.map_cons,List.find?_cons,e]
   exact h1
  ·unfold toldL
   rw [List.map_cons,List.any_cons,e]
   exact h2
theorem put_out {ks:List Nat} {i:Nat} (h:i ∉ ks):dictPut (toldL ks) i ((dictGet (toldL ks) i).getD 0 + 1)=toldL (ks++[i]):=by
 obtain ⟨h1,h2⟩:=find_out h
 rw [h1]
 unfold dictPut
 rw [h2]
 unfold toldL
 rw [List.map_append]
 rfl
noncomputable def tdB:List MS:=loB c_check_told
theorem fr_told {ks:List Nat} {fr:Bool} {m:AV}:∀ (js:List Nat) (s3 s4:SV),(∀ j ∈ js,j ∈ ks)→∃ σ',Fr n .rng [3] tdB (js.map fun (j:Nat)=>AV.int j) [.rd (toldL ks),.val m,.val (.bool fr),s3,s4] (fun σ=>seqO (evSs (Ph n) MT (De n) [] σ) nx) (.ok (.next σ'))
 | [],s3,s4,_=>⟨_,rfl⟩
 | j::js,s3,s4,hj=>by
  obtain ⟨σ',h⟩:=fr_told (fr:=fr) (m:=m) js (.val (.int j)) (.val (.int 1)) fun i hi=>hj i (.tail _ hi)
  have e:ev n (.dget 0 (.v 3) (.c (.int 0))) [.rd (toldL ks),.val m,.val (.bool fr),.val (.int j),s4]=.ok (.int 1):=congrArg (fun z=>R.ok (AV.int (Option.getD z 0))) (find_in (hj j (.head _)))
  exact ⟨σ',f_next (fun F=>rfl) (g_asg e (g_if0 (e_cmp rfl rfl rfl) rfl (g_if0 (e_andf (e_cmp rfl rfl rfl) rfl) rfl (g_done rfl)))) (fun F=>rfl) h⟩
theorem told_all {ks:List Nat} {m:Nat} {fr:Bool} (h:∀ i,i < m→i ∈ ks) (hm:m≤1000):De (n + 1) 192 (toldL ks) [.int m,.bool fr]=.ok .none:=by
 obtain ⟨σ',g⟩:=fr_told (n:=n) (fr:=fr) (m:=.int m) (List.range m) .u .u fun j hj=>h j (List.mem_range.mp hj)
 have G:Go n c_check_told [.rd (toldL ks),.val (.int m),.val (.bool fr),.u,.u] nx (.ok (.next σ')):=g_forR rfl (andT (dlt (by lia)) (dlt (by lia))) g
 exact congrArg back (g_evs G)
end
end Mine
end
section
set_option tactic.hygienic false
open PySem
namespace Mine
inductive SetR (f:Tx) (c a:Nat):Tx→Nat→Prop
 | no:c≠91→SetR f c a [] a
 | set (mb r:Tx):c=91→f.drop a=mb++93::r→(∀ m,Ph (m + 2) 178 [.str f,.int a]=.ok (.int (a + mb.length + 1:Nat)))→SetR f c a mb (a + mb.length + 1)
theorem span37:∀ L:Tx,∃ x r,L=x++r∧(∀ k ∈ x,k≠37)∧∀ k t,r=k::t→k=37
 | []=>⟨[],[],rfl,(fun _ h=>nomatch h),fun _ _ h=>nomatch h⟩
 | k::L=>by
  by_cases hk:k=37
  ·exact ⟨[],k::L,rfl,(fun _ h=>nomatch h),fun k' t h=>by cases h; exact hk⟩
  ·obtain ⟨x,r,e,h1,h2⟩:=span37 L
   exact ⟨k::x,r,congrArg (k::·) e,fun d hd=>(List.mem_cons.mp hd).elim (fun e=>e ▸ hk) (h1 d),h2⟩
noncomputable def kB:List MS:=whB (c_check_scan.drop 5)
section
variable {n:Nat} {f r x y D so:Tx} {a b c a1 a2:Nat} {cnt mo ix pv w:Int} {td:List (Int × Int)} {o:Out} {kp:Bool} {nm mb:Tx} {t:Tx} {cc:List AV}
def CP (n:Nat) (f:Tx) (cnt:Int) (td:List (Int × Int)) (so:Tx) (mo ix:Int) (a:Nat) (o:Out):Prop:=∀ (x r:Tx),f.drop a=x++r→(∀ k ∈ x,k≠37)→(∀ k t,r=k::t→k=37)→∀ s7 s8 s9 s10 s11 s12 s13,
 Go (n + 6) (c_check_scan.drop 5) [.val (.str f),.val (.int cnt),.od td,.val (.str so),.val (.int mo),.val (.int ix),.val (.int (a + x.length:Nat)),s7,s8,s9,s10,s11,s12,s13] nx o
theorem cp_lit (h:f.drop a=c::r) (hc:c≠37) (k:CP n f cnt td so mo ix (a + 1) o):CP n f cnt td so mo ix a o:=fun x r' h' hx hr s7 s8 s9 s10 s11 s12 s13=>by
 cases x with
 | nil=>exact absurd (hr _ _ (h'.symm.trans h)) hc
 | cons d x =>
  have:=k x r' (at_next h') (fun k hk=>hx k (.tail _ hk)) hr s7 s8 s9 s10 s11 s12 s13
  rw [up rfl] at this
  exact this
theorem cp_lits:∀ {y:Tx} {a:Nat},f.drop a=y++r→(∀ k ∈ y,k≠37)→CP n f cnt td so mo ix (a + y.length) o→CP n f cnt td so mo ix a o
 | [],a,_,_,k=>k
 | c::y,a,h,hy,k=>cp_lit h (hy c (.head _)) (cp_lits (y:=y) (at_next h) (fun k hk=>hy k (.tail _ hk)) (by rw [up rfl]; exact k))
theorem cp_37 (h:f.drop a=37::r) (k:∀ s7 s8 s9 s10 s11 s12 s13,Go (n + 6) (c_check_scan.drop 5) [.val (.str f),.val (.int cnt),.od td,.val (.str so),.val (.int mo),.val (.int ix),.val (.int a),s7,s8,s9,s10,s11,s12,s13] nx o):CP n f cnt td so mo ix a o:=fun x r' h' hx hr=>by
 cases x with
 | nil=>exact k
 | cons d x=>exact absurd (List.cons.inj (h'.symm.trans h)).1 (hx d (.head _))
theorem cp_pp (h:f.drop a=37::37::r) (k:CP n f cnt td so mo ix (a + 2) o):CP n f cnt td so mo ix a o:=cp_37 h fun s7 s8 s9 s10 s11 s12 s13=>by
 obtain ⟨x,r',e,h1,h2⟩:=span37 r
 have h3:f.drop (a + 2)=x++r':=(at_next (at_next h)).trans e
 exact g_wt (e_cmp rfl rfl rfl) (lt_t h) (g_evo (g_t (e_cmp (e_call rfl (ph_sign (at_next h))) rfl rfl) rfl (g_asg (e_call rfl (ph_place h3 h1 h2 rfl)) g_cont))) rfl (k x r' h3 h1 h2 _ _ _ _ _ _ _)
theorem cp_end (h:f.drop a=[]) (k:∀ s6 s7 s8 s9 s10 s11 s12 s13,Go (n + 6) (c_check_scan.drop 6) [.val (.str f),.val (.int cnt),.od td,.val (.str so),.val (.int mo),.val (.int ix),s6,s7,s8,s9,s10,s11,s12,s13] nx o):CP n f cnt td so mo ix a o:=fun x r' h' hx hr s7 s8 s9 s10 s11 s12 s13=>by
 have e:=List.append_eq_nil_iff.mp (h'.symm.trans h)
 rw [e.1]
 exact g_wf (e_cmp rfl rfl rfl) (lt_f h) (k _ _ _ _ _ _ _ _)
theorem k_pre {oo:Out} {s7 s8 s9 s10 s11 s12 s13:SV} (h:f.drop a=37::D) (hD:AV.eqv (.str (D.take 1)) (.str [37])=false) (hs:Ph (n + 6) 171 [.str f,.int (a + 1:Nat)]=.ok (.tup [.int pv,.bool kp,.int w,.str nm,.str [c],.int a1]))
  (k:Go (n + 6) (kB.drop 2) [.val (.str f),.val (.int cnt),.od td,.val (.str so),.val (.int mo),.val (.int ix),.val (.int a1),.val (.int pv),.val (.bool kp),.val (.int w),.val (.str nm),.val (.str [c]),s12,s13] nx oo) :
  Go (n + 6) kB [.val (.str f),.val (.int cnt),.od td,.val (.str so),.val (.int mo),.val (.int ix),.val (.int a),s7,s8,s9,s10,s11,s12,s13] nx oo :=
 g_if0 (e_cmp (e_call rfl (ph_signT (at_next h))) rfl rfl) hD (g_asgT (e_call rfl hs) (fun F=>rfl) k)
theorem k_no {oo:Out} {i:Nat} {s12 s13:SV} (hso:so=[]∨so=[37]) (hc:(decide (0 < cnt) && decide (cnt≤(i:Int)))=false)
  (k:Go (n + 6) (kB.drop 3) [.val (.str f),.val (.int cnt),.od (dictPut td i ((dictGet td i).getD 0 + 1)),.val (.str [37]),.val (.int mo),.val (.int (i + 1:Nat)),.val (.int a1),.val (.int (-1)),.val (.bool true),.val (.int w),.val (.str nm),.val (.str [c]),.val (.str [37]),s13] nx oo)
  (hl:td.length≤1000):Go (n + 6) (kB.drop 2) [.val (.str f),.val (.int cnt),.od td,.val (.str so),.val (.int mo),.val (.int i),.val (.int a1),.val (.int (-1)),.val (.bool true),.val (.int w),.val (.str nm),.val (.str [c]),s12,s13] nx oo:=by
 have h0:decide ((i:Int) < 0)=false:=dgt (Int.not_lt.mpr (Int.natCast_nonneg i))
 have lim:decide (td.length < lLine)=true:=llt (by lia)
 refine g_t rfl rfl (g_asg (e_t (e_cmp rfl rfl rfl) rfl rfl) (g_if0 (t:=false) ?_ rfl (g_asg rfl (g_if0 (e_cmp rfl rfl rfl) rfl (g_if0 (t:=false) (e_orf (e_cmp rfl rfl rfl) h0 (e_orf (e_c2 rfl rfl rfl rfl rfl) hc (e_orf (e_cmp rfl rfl rfl) rfl rfl))) rfl ?_)))))
 ·rcases hso with rfl | rfl
  ·exact e_cmp rfl rfl rfl
  ·exact e_cmp rfl rfl rfl
 ·exact g_nx (σ':=[.val (.str f),.val (.int cnt),.od (dictPut td i ((dictGet td i).getD 0 + 1)),.val (.str [37]),.val (.int mo),.val (.int i),.val (.int a1),.val (.int (-1)),.val (.bool true),.val (.int w),.val (.str nm),.val (.str [c]),.val (.str [37]),s13]) (limT lim) (g_aug rfl rfl k)
theorem k_pl {oo:Out} {j:Nat} {s12 s13:SV} (hso:so=[]∨so=[36]) (hj:j < 1000) (hc:(decide (0 < cnt) && decide (cnt≤(j:Int)))=false)
  (k:Go (n + 6) (kB.drop 3) [.val (.str f),.val (.int cnt),.od (dictPut td j ((dictGet td j).getD 0 + 1)),.val (.str [36]),.val (.int (max mo (j + 1:Nat))),.val (.int (j + 1:Nat)),.val (.int a1),.val (.int (j + 1:Nat)),.val (.bool true),.val (.int w),.val (.str nm),.val (.str [c]),.val (.str [36]),s13] nx oo)
  (hl:td.length≤1000):Go (n + 6) (kB.drop 2) [.val (.str f),.val (.int cnt),.od td,.val (.str so),.val (.int mo),.val (.int ix),.val (.int a1),.val (.int (j + 1:Nat)),.val (.bool true),.val (.int w),.val (.str nm),.val (.str [c]),s12,s13] nx oo:=by
 have h0:decide ((j:Int) < 0)=false:=dgt (Int.not_lt.mpr (Int.natCast_nonneg j))
 have neg:decide (((j + 1:Nat):Int) < 0)=false:=dgt (Int.not_lt.mpr (Int.natCast_nonneg _))
 have pos:decide ((0:Int)≤((j + 1:Nat):Int))=true:=dlt (Int.natCast_nonneg _)
 have big:decide ((2147483647:Int)≤((j + 1:Nat):Int))=false:=dgt (by lia)
 have lim:decide (td.length < lLine)=true:=llt (by lia)
 refine g_t rfl rfl (g_asg (e_f (e_cmp rfl rfl rfl) neg rfl) (g_if0 (t:=false) ?_ rfl (g_asg rfl (g_it (e_cmp rfl rfl rfl) pos (g_asg (e_bin rfl rfl sub1) (g_asg (e_bi rfl rfl) (g_done rfl))) (g_if0 (t:=false) (e_orf (e_cmp rfl rfl rfl) h0 (e_orf (e_c2 rfl rfl rfl rfl rfl) hc (e_orf (e_cmp rfl (e_bin (e_bin rfl rfl rfl) rfl (z:=.int 2147483647) rfl) rfl) big rfl))) rfl ?_)))))
 ·rcases hso with rfl | rfl
  ·exact e_cmp rfl rfl rfl
  ·exact e_cmp rfl rfl rfl
 ·exact g_nx (σ':=[.val (.str f),.val (.int cnt),.od (dictPut td j ((dictGet td j).getD 0 + 1)),.val (.str [36]),.val (.int (max mo (j + 1:Nat))),.val (.int j),.val (.int a1),.val (.int (j + 1:Nat)),.val (.bool true),.val (.int w),.val (.str nm),.val (.str [c]),.val (.str [36]),s13]) (limT lim) (g_aug rfl rfl k)
theorem k_tail {s7 s8 s12 s13:SV} (hcs:Ph (n + 6) 185 [.str [c],.int w,.str nm]=.ok .none) (hS:SetR f c a1 mb a2) (h:f.drop a2=x++r) (hx:∀ k ∈ x,k≠37) (hr:∀ k t,r=k::t→k=37) :
  Go (n + 6) (kB.drop 3) [.val (.str f),.val (.int cnt),.od td,.val (.str so),.val (.int mo),.val (.int ix),.val (.int a1),s7,s8,.val (.int w),.val (.str nm),.val (.str [c]),s12,s13] nx
   (.ok (.next [.val (.str f),.val (.int cnt),.od td,.val (.str so),.val (.int mo),.val (.int ix),.val (.int (a2 + x.length:Nat)),s7,s8,.val (.int w),.val (.str nm),.val (.str [c]),s12,s13])):=by
 refine g_expr (e_call rfl hcs) ?_
 cases hS with
 | no hc=>exact g_if0 (e_cmp rfl rfl rfl) (ne1 hc) (g_asg (e_call rfl (ph_place h hx hr rfl)) (g_done rfl))
 | set mb r' hc h2 hs=>subst hc; exact g_it (e_cmp rfl rfl rfl) rfl (g_asg (e_call rfl (hs _)) (g_done rfl)) (g_asg (e_call rfl (ph_place h hx hr rfl)) (g_done rfl))
theorem cp_turn (h:f.drop a=37::D) (hcs:Ph (n + 6) 185 [.str [c],.int w,.str nm]=.ok .none) (hS:SetR f c a1 mb a2) {td2:List (Int × Int)} {so2:Tx} {mo2 ix2:Int} (k:CP n f cnt td2 so2 mo2 ix2 a2 o)
  (T:∀ s7 s8 s9 s10 s11 s12 s13 (oo:SV→SV→SV→SV→Out),(∀ s7 s8 s12 s13,Go (n + 6) (kB.drop 3) [.val (.str f),.val (.int cnt),.od td2,.val (.str so2),.val (.int mo2),.val (.int ix2),.val (.int a1),s7,s8,.val (.int w),.val (.str nm),.val (.str [c]),s12,s13] nx (oo s7 s8 s12 s13))→∃ t7 t8 t12 t13,Go (n + 6) kB [.val (.str f),.val (.int cnt),.od td,.val (.str so),.val (.int mo),.val (.int ix),.val (.int a),s7,s8,s9,s10,s11,s12,s13] nx (oo t7 t8 t12 t13)):CP n f cnt td so mo ix a o:=cp_37 h fun s7 s8 s9 s10 s11 s12 s13=>by
 obtain ⟨x,r',e,h1,h2⟩:=span37 (f.drop a2)
 obtain ⟨t7,t8,t12,t13,G⟩:=T s7 s8 s9 s10 s11 s12 s13 _ fun s7 s8 s12 s13=>k_tail (td:=td2) (so:=so2) (mo:=mo2) (ix:=ix2) (cnt:=cnt) hcs hS e h1 h2
 exact g_wt (e_cmp rfl rfl rfl) (lt_t h) (g_evs G) rfl (k x r' e h1 h2 _ _ _ _ _ _ _)
theorem cp_no {i:Nat} (h:f.drop a=37::D) (hD:AV.eqv (.str (D.take 1)) (.str [37])=false) (hs:Ph (n + 6) 171 [.str f,.int (a + 1:Nat)]=.ok (.tup [.int (-1),.bool true,.int w,.str nm,.str [c],.int a1])) (hso:so=[]∨so=[37]) (hc:(decide (0 < cnt) && decide (cnt≤(i:Int)))=false) (hl:td.length≤1000)
  (hcs:Ph (n + 6) 185 [.str [c],.int w,.str nm]=.ok .none) (hS:SetR f c a1 mb a2) (k:CP n f cnt (dictPut td i ((dictGet td i).getD 0 + 1)) [37] mo (i + 1:Nat) a2 o):CP n f cnt td so mo i a o :=
 cp_turn h hcs hS k fun s7 s8 s9 s10 s11 s12 s13 oo G=>⟨_,_,_,_,k_pre h hD hs (k_no hso hc (G _ _ _ _) hl)⟩
theorem cp_pl {j:Nat} (h:f.drop a=37::D) (hD:AV.eqv (.str (D.take 1)) (.str [37])=false) (hs:Ph (n + 6) 171 [.str f,.int (a + 1:Nat)]=.ok (.tup [.int (j + 1:Nat),.bool true,.int w,.str nm,.str [c],.int a1])) (hso:so=[]∨so=[36]) (hj:j < 1000) (hc:(decide (0 < cnt) && decide (cnt≤(j:Int)))=false) (hl:td.length≤1000)
  (hcs:Ph (n + 6) 185 [.str [c],.int w,.str nm]=.ok .none) (hS:SetR f c a1 mb a2) (k:CP n f cnt (dictPut td j ((dictGet td j).getD 0 + 1)) [36] (max mo (j + 1:Nat)) (j + 1:Nat) a2 o):CP n f cnt td so mo ix a o :=
 cp_turn h hcs hS k fun s7 s8 s9 s10 s11 s12 s13 oo G=>⟨_,_,_,_,k_pre h hD hs (k_pl hso hj hc (G _ _ _ _) hl)⟩
theorem cp_star (h:f.drop a=37::D) (hD:AV.eqv (.str (D.take 1)) (.str [37])=false) (hs:Ph (n + 6) 171 [.str f,.int (a + 1:Nat)]=.ok (.tup [.int pv,.bool false,.int w,.str nm,.str [c],.int a1]))
  (hcs:Ph (n + 6) 185 [.str [c],.int w,.str nm]=.ok .none) (hS:SetR f c a1 mb a2) (k:CP n f cnt td so mo ix a2 o):CP n f cnt td so mo ix a o :=
 cp_turn h hcs hS k fun s7 s8 s9 s10 s11 s12 s13 oo G=>⟨_,_,_,_,k_pre h hD hs (g_if0 rfl rfl (G _ _ _ _))⟩
theorem cp_x (h:f.drop a=37::D) (T:∀ s7 s8 s9 s10 s11 s12 s13,Go (n + 6) kB [.val (.str f),.val (.int cnt),.od td,.val (.str so),.val (.int mo),.val (.int ix),.val (.int a),s7,s8,s9,s10,s11,s12,s13] nx (.exn t cc)):CP n f cnt td so mo ix a (.exn t cc):=cp_37 h fun s7 s8 s9 s10 s11 s12 s13 =>
 g_wx (e_cmp rfl rfl rfl) (lt_t h) (g_evo (T _ _ _ _ _ _ _))
noncomputable def manyC (cnt mo ix:Int):Int:=cond (AV.eqv (.int cnt) (.int 0)) (cond (decide (0 < mo)) mo ix) cnt
theorem cs_end {q:R AV} (hq:De (n + 6) 192 td [.int (manyC cnt mo ix),.bool (AV.eqv (.int cnt) (.int 0) && decide (0 < mo))]=q) {s6 s7 s8 s9 s10 s11 s12 s13:SV}:Go (n + 6) (c_check_scan.drop 6) [.val (.str f),.val (.int cnt),.od td,.val (.str so),.val (.int mo),.val (.int ix),s6,s7,s8,s9,s10,s11,s12,s13] nx (q.bind fun _=>.ok (.ret (.int (manyC cnt mo ix)))):=by
 unfold manyC at hq ⊢
 refine g_asg rfl ?_
 cases h0:AV.eqv (.int cnt) (.int 0) with
 | false =>
  rw [h0] at hq
  exact g_if0 (e_cmp rfl rfl rfl) h0 (g_exprD rfl (el_cons rfl (el_cons (e_andf (e_cmp rfl rfl rfl) h0) rfl)) hq (by cases q <;> rfl))
 | true =>
  rw [h0] at hq
  cases h1:decide (0 < mo) with
  | false =>
   rw [h1] at hq
   exact g_it (e_cmp rfl rfl rfl) h0 (g_asg (e_f (e_cmp rfl rfl rfl) h1 rfl) (g_done rfl)) (g_exprD rfl (el_cons rfl (el_cons (e_and (e_cmp rfl rfl rfl) h0 (e_andf (e_cmp rfl rfl rfl) h1)) rfl)) hq (by cases q <;> rfl))
  | true =>
   rw [h1] at hq
   exact g_it (e_cmp rfl rfl rfl) h0 (g_asg (e_t (e_cmp rfl rfl rfl) h1 rfl) (g_done rfl)) (g_exprD rfl (el_cons rfl (el_cons (e_and (e_cmp rfl rfl rfl) h0 (e_and (e_cmp rfl rfl rfl) h1 rfl)) rfl)) hq (by cases q <;> rfl))
theorem ph_check (k:CP n f cnt [] [] 0 (0:Nat) 0 o) {w:R AV} (hb:back o=w):Ph (n + 7) 199 [.str f,.int cnt]=w:=by
 obtain ⟨x,r,e,h1,h2⟩:=span37 f
 have:=k x r e h1 h2 .u .u .u .u .u .u .u
 exact call_o (d:=d_check_scan) (o:=o) [.val (.str f),.val (.int cnt),.u,.u,.u,.u,.u,.u,.u,.u,.u,.u,.u,.u] rfl rfl rfl (g_nx rfl (g_asg rfl (g_asg rfl (g_asg rfl (g_asg (e_call rfl (ph_place (a:=0) (b:=0 + x.length) e h1 h2 rfl)) this))))) hb
end
end Mine
end
section
set_option tactic.hygienic false
open PySem
namespace Mine
section
variable {n:Nat} {σ:Env'} {f:Env'→Out} {o:Out} {r:List MS} {l:List AV} {e e2:ME} {v:AV} {i k:Nat}
theorem g_frzS (h0:σ[i]?=some (.sl l)) (h:Go n r (σ.set i (.val (.lst l))) f o):Go n (.freeze i::r) σ f o:=g_nx (by show nx (frz σ i)=_; unfold frz; rw [h0]) h
theorem g_setL (h0:σ[i]?=some (.sl l)) (h1:ev n e σ=.ok v) (h2:ev n e2 σ=.ok (.int k)) (hl:k < l.length) (h:Go n r (σ.set i (.sl (l.set k v))) f o):Go n (.setL i e2 e::r) σ f o:=by
 refine g_nx ?_ h
 show asQ σ[i]? _=_
 rw [h0]
 exact bd h1 (bd h2 (limT (andT (dlt (Int.natCast_nonneg k)) (dlt (Int.ofNat_lt.mpr hl)))))
end
theorem eo {n:Nat} {σ:Env'} {e:ME} {v:AV} (h:ev n e σ=.ok v):evO (Ph n) (some e) σ=.ok (some v):=bd h rfl
noncomputable def tB:List MS:=whB (c_scan_text.drop 6)
noncomputable def iteB (l:List MS):List MS:=match l with
 | .ite _ a _::_=>a
 | _=>[]
noncomputable def lB:List MS:=iteB (tB.drop 3)
noncomputable def outS (sh:Bool) (m:Nat) (vs:List AV):AV:=cond (sh && AV.eqv (.int m) (.int 0)) (.int (-1)) (.lst vs)
inductive LitAt (f:Tx) (a:Nat):Nat→Nat→Prop
 | ch (c:Nat) (r:Tx):f.drop a=c::r→isBlank c=false→c≠37→LitAt f a c (a + 1)
 | pp (r:Tx):f.drop a=37::37::r→LitAt f a 37 (a + 2)
def StopR (c:Nat) (r:Tx) (sh:Bool):Prop:=(r=[]∧sh=true)∨∃ d u,r=d::u∧d≠c∧sh=false
section
variable {n:Nat} {t f r x tr D:Tx} {a a' p p1 p2 c a1 a2 iv iw m:Nat} {cnt pv w:Int} {vs:List AV} {o:Out} {kp sh:Bool} {nm mb tt:Tx} {cc:List AV} {v:AV}
def SP (n:Nat) (t f:Tx) (cnt:Int) (vs:List AV) (a p iv m:Nat) (o:Out):Prop:=∀ s9 s10 s11 s12 s13 s14 s15 s16 s17 s18,Go (n + 7) (c_scan_text.drop 6) [.val (.str t),.val (.str f),.val (.int cnt),.sl vs,.val (.int a),.val (.int p),.val (.int iv),.val (.int m),.val (.bool false),s9,s10,s11,s12,s13,s14,s15,s16,s17,s18] nx o
theorem sp_fin {s4 s5 s6 s9 s10 s11 s12 s13 s14 s15 s16 s17 s18:SV}:Go (n + 7) (c_scan_text.drop 7) [.val (.str t),.val (.str f),.val (.int cnt),.sl vs,s4,s5,s6,.val (.int m),.val (.bool sh),s9,s10,s11,s12,s13,s14,s15,s16,s17,s18] nx (.ok (.ret (outS sh m vs))):=by
 unfold outS
 cases sh with
 | false=>exact g_if0 (e_andf rfl rfl) rfl (g_frzS rfl (g_ret rfl rfl))
 | true =>
  cases h:AV.eqv (.int m) (.int 0) with
  | false=>exact g_if0 (e_and rfl rfl (e_andf (e_cmp rfl rfl rfl) h)) rfl (g_frzS rfl (g_ret rfl rfl))
  | true=>exact g_ifr (e_and rfl rfl (e_and (e_cmp rfl rfl rfl) h rfl)) rfl rfl rfl
theorem sp_end (h:f.drop a=[]):SP n t f cnt vs a p iv m (.ok (.ret (.lst vs))):=fun s9 s10 s11 s12 s13 s14 s15 s16 s17 s18=>g_wf (e_cmp rfl rfl rfl) (lt_f h) sp_fin
theorem sp_bl (h:f.drop a=c::r) (hc:isBlank c=true) (ht:t.drop p=x++tr) (hx:∀ k ∈ x,isBlank k=true) (hr:NoB tr) (k:SP n t f cnt vs (a + 1) (p + x.length) iv m o):SP n t f cnt vs a p iv m o:=fun s9 s10 s11 s12 s13 s14 s15 s16 s17 s18 =>
 g_wt (e_cmp rfl rfl rfl) (lt_t h) (g_evo (g_asg (e_idx rfl rfl (ix h)) (g_aug rfl rfl (g_t (e_call rfl ph_blank) hc (g_asg (e_call rfl (ph_skip ht hx hr)) g_cont))))) rfl (k _ _ _ _ _ _ _ _ _ _)
theorem l_pre {oo:Out} {s9 s10 s11 s12 s13 s14 s15 s16 s17 s18:SV} (h:LitAt f a c a') (k:Go (n + 7) (lB.drop 1) [.val (.str t),.val (.str f),.val (.int cnt),.sl vs,.val (.int a'),.val (.int p),.val (.int iv),.val (.int m),.val (.bool false),.val (.str [c]),s10,s11,s12,s13,s14,s15,s16,s17,s18] (fun σ=>seqO (evSs (Ph (n + 7)) MT (De (n + 7)) (tB.drop 4) σ) nx) oo) :
  Go (n + 7) tB [.val (.str t),.val (.str f),.val (.int cnt),.sl vs,.val (.int a),.val (.int p),.val (.int iv),.val (.int m),.val (.bool false),s9,s10,s11,s12,s13,s14,s15,s16,s17,s18] nx oo:=by
 cases h with
 | ch c r h hb hc=>exact g_asg (e_idx rfl rfl (ix h)) (g_aug rfl rfl (g_if0 (e_call rfl ph_blank) hb (g_t (t:=true) (e_ort (e_cmp (t:=true) rfl rfl (congrArg (fun b=>R.ok (!b)) (ne1 hc))) rfl) rfl (g_if0 (e_cmp rfl rfl rfl) (ne1 hc) k))))
 | pp r h=>exact g_asg (e_idx rfl rfl (ix h)) (g_aug rfl rfl (g_if0 (e_call rfl ph_blank) rfl (g_t (t:=true) (e_orf (e_cmp rfl rfl rfl) rfl (e_ort (e_cmp (e_idx rfl rfl (ix (at_next h))) rfl rfl) rfl)) rfl (g_it (e_cmp rfl rfl rfl) rfl (g_aug rfl rfl (g_done rfl)) k))))
theorem LitAt.lt (h:LitAt f a c a'):decide ((a:Int) < (f.length:Int))=true:=by cases h with
 | ch c r h _ _=>exact lt_t h
 | pp r h=>exact lt_t h
theorem sp_lit (h:LitAt f a c a') (ht:t.drop p=c::tr) (k:SP n t f cnt vs a' (p + 1) iv m o):SP n t f cnt vs a p iv m o:=fun s9 s10 s11 s12 s13 s14 s15 s16 s17 s18=>by
 have hn:decide ((t.length:Int)≤(p:Int))=false:=dgt (Int.not_le.mpr (Int.ofNat_lt.mpr (at_lt ht)))
 exact g_wt (e_cmp rfl rfl rfl) h.lt (g_evo (l_pre h (g_asg (v:=.bool false) (e_cmp rfl (e_bi rfl rfl) (congrArg R.ok hn)) (g_if0 (e_orf rfl rfl (e_orf (e_cmp (e_idx rfl rfl (ix ht)) rfl rfl) (nf eq1) rfl)) rfl (g_aug rfl rfl g_cont))))) rfl (k _ _ _ _ _ _ _ _ _ _)
theorem sp_litx (h:LitAt f a c a') (ht:t.drop p=tr) (hs:StopR c tr sh):SP n t f cnt vs a p iv m (.ok (.ret (outS sh m vs))):=fun s9 s10 s11 s12 s13 s14 s15 s16 s17 s18=>by
 rcases hs with ⟨rfl,rfl⟩ | ⟨d,u,rfl,hd,rfl⟩
 ·have hn:decide ((t.length:Int)≤(p:Int))=true:=dlt (Int.ofNat_le.mpr (at_end ht))
  exact g_wb (e_cmp rfl rfl rfl) h.lt (g_evo (l_pre h (g_asg (v:=.bool true) (e_cmp rfl (e_bi rfl rfl) (congrArg R.ok hn)) (g_t (e_ort rfl rfl) rfl g_brk)))) sp_fin
 ·have hn:decide ((t.length:Int)≤(p:Int))=false:=dgt (Int.not_le.mpr (Int.ofNat_lt.mpr (at_lt ht)))
  exact g_wb (e_cmp rfl rfl rfl) h.lt (g_evo (l_pre h (g_asg (v:=.bool false) (e_cmp rfl (e_bi rfl rfl) (congrArg R.ok hn)) (g_t (t:=true) (e_orf rfl rfl (e_ort (e_cmp (t:=true) (e_idx rfl rfl (ix ht)) rfl (congrArg (fun b=>R.ok (!b)) (ne1 hd))) rfl)) rfl g_brk)))) sp_fin
theorem d_pre {s9 s10 s11 s12 s13 s14 s15 s16 s17 s18:SV} {d0:Nat} (h:f.drop a=37::d0::D) (hD:d0≠37) (hs:Ph (n + 7) 171 [.str f,.int (a + 1:Nat)]=.ok (.tup [.int pv,.bool kp,.int w,.str nm,.str [c],.int a1])) (hi:(decide (0 < pv)=false∧iw=iv)∨(pv=(iw + 1:Nat))) (hS:SetR f c a1 mb a2) :
  ∃ t16,∀ oo,Go (n + 7) (tB.drop 8) [.val (.str t),.val (.str f),.val (.int cnt),.sl vs,.val (.int a2),.val (.int p),.val (.int iw),.val (.int m),.val (.bool false),.val (.str [37]),.val (.int pv),.val (.bool kp),.val (.int w),.val (.str nm),.val (.str [c]),.val (.str mb),t16,s17,s18] nx oo →
  Go (n + 7) tB [.val (.str t),.val (.str f),.val (.int cnt),.sl vs,.val (.int a),.val (.int p),.val (.int iv),.val (.int m),.val (.bool false),s9,s10,s11,s12,s13,s14,s15,s16,s17,s18] nx oo:=by
 have st:∀ oo,Go (n + 7) (tB.drop 6) [.val (.str t),.val (.str f),.val (.int cnt),.sl vs,.val (.int a1),.val (.int p),.val (.int iw),.val (.int m),.val (.bool false),.val (.str [37]),.val (.int pv),.val (.bool kp),.val (.int w),.val (.str nm),.val (.str [c]),s15,s16,s17,s18] nx oo→Go (n + 7) tB [.val (.str t),.val (.str f),.val (.int cnt),.sl vs,.val (.int a),.val (.int p),.val (.int iv),.val (.int m),.val (.bool false),s9,s10,s11,s12,s13,s14,s15,s16,s17,s18] nx oo:=fun oo k=>by
  refine g_asg (e_idx rfl rfl (ix h)) (g_aug rfl rfl (g_if0 (e_call rfl ph_blank) rfl (g_if0 (t:=false) (e_orf (e_cmp rfl rfl rfl) rfl (e_orf (e_cmp (e_idx rfl rfl (ix (at_next h))) rfl rfl) (ne1 hD) rfl)) rfl (g_asgT (e_call rfl hs) (fun F=>rfl) ?_))))
  rcases hi with ⟨h0,rfl⟩ | rfl
  ·exact g_if0 (e_cmp rfl rfl rfl) h0 k
  ·exact g_it (e_cmp rfl rfl rfl) (dlt (Int.ofNat_lt.mpr (Nat.succ_pos _))) (g_asg (e_bin rfl rfl sub1) (g_done rfl)) k
 cases hS with
 | no hc=>exact ⟨s16,fun oo k=>st oo (g_asg rfl (g_if0 (e_cmp rfl rfl rfl) (ne1 hc) k))⟩
 | set mb r hc h2 hb=>subst hc; exact ⟨.val (.int (a1 + mb.length + 1:Nat)),fun oo k=>st oo (g_asg rfl (g_it (e_cmp rfl rfl rfl) rfl (g_asg (e_call rfl (hb _)) (g_asg (e_sl rfl rfl (eo (e_bin rfl rfl sub1)) (slop_mid h2 rfl)) (g_asg rfl (g_done rfl)))) k))⟩
noncomputable def vS (l:List MS):MS:=match l with
 | s::_=>s
 | []=>.brk
def Rd (n:Nat) (t:Tx) (p c:Nat) (mb:Tx) (w:Int) (nm:Tx) (kp:Bool) (v:AV) (p2:Nat):Prop:=∀ s1 s2 s3 s4 s6 s7 s9 s10 s16 s17 s18,∃ u18,∀ B oo,Go (n + 7) B [.val (.str t),s1,s2,s3,s4,.val (.int p2),s6,s7,.val (.bool false),s9,s10,.val (.bool kp),.val (.int w),.val (.str nm),.val (.str [c]),.val (.str mb),s16,.val v,u18] nx oo →
 Go (n + 7) (vS (tB.drop 8)::B) [.val (.str t),s1,s2,s3,s4,.val (.int p),s6,s7,.val (.bool false),s9,s10,.val (.bool kp),.val (.int w),.val (.str nm),.val (.str [c]),.val (.str mb),s16,s17,s18] nx oo
def Rb (n:Nat) (t:Tx) (p c:Nat) (mb:Tx) (w:Int) (nm:Tx) (kp sh:Bool):Prop:=∀ s1 s2 s3 s4 s6 s7 s9 s10 s16 s17 s18,∃ u5 u17 u18,∀ B,Go (n + 7) (vS (tB.drop 8)::B) [.val (.str t),s1,s2,s3,s4,.val (.int p),s6,s7,.val (.bool false),s9,s10,.val (.bool kp),.val (.int w),.val (.str nm),.val (.str [c]),.val (.str mb),s16,s17,s18] nx
 (.ok (.brk [.val (.str t),s1,s2,s3,s4,u5,s6,s7,.val (.bool sh),s9,s10,.val (.bool kp),.val (.int w),.val (.str nm),.val (.str [c]),.val (.str mb),s16,u17,u18]))
variable {d0:Nat}
theorem sp_kept (h:f.drop a=37::d0::D) (hD:d0≠37) (hs:Ph (n + 7) 171 [.str f,.int (a + 1:Nat)]=.ok (.tup [.int pv,.bool true,.int w,.str nm,.str [c],.int a1])) (hi:(decide (0 < pv)=false∧iw=iv)∨(pv=(iw + 1:Nat))) (hS:SetR f c a1 mb a2) (V:Rd n t p c mb w nm true v p2) (hl:iw < vs.length)
  (k:SP n t f cnt (vs.set iw v) a2 p2 (iw + 1) (m + 1) o):SP n t f cnt vs a p iv m o:=fun s9 s10 s11 s12 s13 s14 s15 s16 s17 s18=>by
 obtain ⟨t16,P⟩:=d_pre (n:=n) (t:=t) (cnt:=cnt) (vs:=vs) (p:=p) (m:=m) (s9:=s9) (s10:=s10) (s11:=s11) (s12:=s12) (s13:=s13) (s14:=s14) (s15:=s15) (s16:=s16) (s17:=s17) (s18:=s18) h hD hs hi hS
 obtain ⟨u18,V⟩:=V (.val (.str f)) (.val (.int cnt)) (.sl vs) (.val (.int a2)) (.val (.int iw)) (.val (.int m)) (.val (.str [37])) (.val (.int pv)) t16 s17 s18
 exact g_wt (e_cmp rfl rfl rfl) (lt_t h) (g_evs (P _ (V _ _ (g_it rfl rfl (g_setL rfl rfl rfl hl (g_aug rfl rfl (g_done rfl))) (g_aug rfl rfl (g_done rfl)))))) rfl (k _ _ _ _ _ _ _ _ _ _)
theorem sp_star (h:f.drop a=37::d0::D) (hD:d0≠37) (hs:Ph (n + 7) 171 [.str f,.int (a + 1:Nat)]=.ok (.tup [.int (-1),.bool false,.int w,.str nm,.str [c],.int a1])) (hS:SetR f c a1 mb a2) (V:Rd n t p c mb w nm false v p2)
  (k:SP n t f cnt vs a2 p2 iv (m + 1) o):SP n t f cnt vs a p iv m o:=fun s9 s10 s11 s12 s13 s14 s15 s16 s17 s18=>by
 obtain ⟨t16,P⟩:=d_pre (n:=n) (t:=t) (cnt:=cnt) (vs:=vs) (p:=p) (m:=m) (s9:=s9) (s10:=s10) (s11:=s11) (s12:=s12) (s13:=s13) (s14:=s14) (s15:=s15) (s16:=s16) (s17:=s17) (s18:=s18) h hD hs (.inl ⟨rfl,rfl⟩) hS
 obtain ⟨u18,V⟩:=V (.val (.str f)) (.val (.int cnt)) (.sl vs) (.val (.int a2)) (.val (.int iv)) (.val (.int m)) (.val (.str [37])) (.val (.int (-1))) t16 s17 s18
 exact g_wt (e_cmp rfl rfl rfl) (lt_t h) (g_evs (P _ (V _ _ (g_if0 rfl rfl (g_aug rfl rfl (g_done rfl)))))) rfl (k _ _ _ _ _ _ _ _ _ _)
theorem sp_brk (h:f.drop a=37::d0::D) (hD:d0≠37) (hs:Ph (n + 7) 171 [.str f,.int (a + 1:Nat)]=.ok (.tup [.int pv,.bool kp,.int w,.str nm,.str [c],.int a1])) (hi:(decide (0 < pv)=false∧iw=iv)∨(pv=(iw + 1:Nat))) (hS:SetR f c a1 mb a2) (V:Rb n t p c mb w nm kp sh):SP n t f cnt vs a p iv m (.ok (.ret (outS sh m vs))):=fun s9 s10 s11 s12 s13 s14 s15 s16 s17 s18=>by
 obtain ⟨t16,P⟩:=d_pre (n:=n) (t:=t) (cnt:=cnt) (vs:=vs) (p:=p) (m:=m) (s9:=s9) (s10:=s10) (s11:=s11) (s12:=s12) (s13:=s13) (s14:=s14) (s15:=s15) (s16:=s16) (s17:=s17) (s18:=s18) h hD hs hi hS
 obtain ⟨u5,u17,u18,V⟩:=V (.val (.str f)) (.val (.int cnt)) (.sl vs) (.val (.int a2)) (.val (.int iw)) (.val (.int m)) (.val (.str [37])) (.val (.int pv)) t16 s17 s18
 exact g_wb (e_cmp rfl rfl rfl) (lt_t h) (g_evo (P _ (V _))) sp_fin
inductive SkR (t:Tx) (c p:Nat):Nat→Prop
 | no:c=99∨c=91→SkR t c p p
 | sk (x tr:Tx):c≠99→c≠91→t.drop p=x++tr→(∀ k ∈ x,isBlank k=true)→NoB tr→SkR t c p (p + x.length)
theorem rd_n (hp:p < 2 ^ 100):Rd n t p 110 mb w nm true (.str (dgS false 10 p)) p:=fun s1 s2 s3 s4 s6 s7 s9 s10 s16 s17 s18=>⟨s18,fun B oo k=>g_it (e_cmp rfl rfl rfl) rfl (g_asg (e_bi rfl (str_nat hp)) (g_done rfl)) k⟩
noncomputable def lastV (t:Tx) (p:Nat) (w:Int):Int:=cond (decide (w≤0)) t.length (p + w)
theorem go_sk {s1 s2 s3 s4 s6 s7 s9 s10 s11 s12 s13 s15 s16 s17 s18:SV} {o:Out} {rs:List MS} {F:Env'→Out} (hk:SkR t c p p1) (k:Go (n + 7) rs [.val (.str t),s1,s2,s3,s4,.val (.int p1),s6,s7,.val (.bool false),s9,s10,s11,s12,s13,.val (.str [c]),s15,s16,s17,s18] F o) :
  Go (n + 7) (.ite (.cmp (.v 14) .notin (.tup [(.c (.str [99])),(.c (.str [91]))])) [.asg 5 (.call 206 [(.v 0),(.v 5)])] []::rs) [.val (.str t),s1,s2,s3,s4,.val (.int p),s6,s7,.val (.bool false),s9,s10,s11,s12,s13,.val (.str [c]),s15,s16,s17,s18] F o:=by
 cases hk with
 | no hc =>
  rcases hc with rfl | rfl
  ·exact g_if0 (e_cmp rfl rfl rfl) rfl k
  ·exact g_if0 (e_cmp rfl rfl rfl) rfl k
 | sk x tr h1 h2 ht hx hr =>
  have e:cmpop .notin (.str [c]) (.tup [.str [99],.str [91]])=.ok true:=by
   show R.ok (!(AV.eqv (.str [99]) (.str [c]) || (AV.eqv (.str [91]) (.str [c]) || false)))=_
   rw [ne1 fun e=>h1 e.symm,ne1 fun e=>h2 e.symm]
   rfl
  exact g_it (e_cmp rfl rfl e) rfl (g_asg (e_call rfl (ph_skip ht hx hr)) (g_done rfl)) k
theorem ev_last {s1 s2 s3 s4 s6 s7 s8 s9 s10 s11 s13 s14 s15 s16 s17 s18:SV}:ev (n + 7) (.ite (.cmp (.v 12) .le (.c (.int 0))) (.bi .len [(.v 0)]) (.bin .add (.v 5) (.v 12))) [.val (.str t),s1,s2,s3,s4,.val (.int p),s6,s7,s8,s9,s10,s11,.val (.int w),s13,s14,s15,s16,s17,s18]=.ok (.int (lastV t p w)):=by
 unfold lastV
 cases h:decide (w≤0) with
 | true=>exact e_t (e_cmp rfl rfl rfl) h (e_bi rfl rfl)
 | false=>exact e_f (e_cmp rfl rfl rfl) h (e_bin rfl rfl rfl)
theorem ev_nm {s0 s1 s2 s3 s4 s5 s6 s7 s8 s9 s10 s12 s14 s15 s16 s17 s18:SV}:ev (n + 7) (.ite (.v 11) (.v 13) (.c (.str []))) [s0,s1,s2,s3,s4,s5,s6,s7,s8,s9,s10,.val (.bool kp),s12,.val (.str nm),s14,s15,s16,s17,s18]=.ok (.str (cond kp nm [])):=by
 cases kp
 ·exact e_f rfl rfl rfl
 ·exact e_t rfl rfl rfl
def RF (n:Nat) (t:Tx) (p c:Nat) (mb:Tx) (w:Int) (nm:Tx) (kp:Bool) (q:R AV):Prop:=Ph (n + 7) 262 [.str t,.int p,.int (min (lastV t p w) t.length),.str [c],.str mb,.str (cond kp nm [])]=q
theorem go_rf {s1 s2 s3 s4 s6 s7 s9 s10 s16 s17 s18:SV} {o:Out} {rs:List MS} {F:Env'→Out} (hp:p < t.length) {u:AV} {p2:Nat} (V:RF n t p c mb w nm kp (.ok (.tup [u,.int p2])))
  (k:Go (n + 7) rs [.val (.str t),s1,s2,s3,s4,.val (.int p2),s6,s7,.val (.bool false),s9,s10,.val (.bool kp),.val (.int w),.val (.str nm),.val (.str [c]),.val (.str mb),s16,.val u,.val (.int (lastV t p w))] F o) :
  Go (n + 7) (.asg 8 (.cmp (.v 5) .ge (.bi .len [(.v 0)]))::.ite (.v 8) [.brk] []::.asg 18 (.ite (.cmp (.v 12) .le (.c (.int 0))) (.bi .len [(.v 0)]) (.bin .add (.v 5) (.v 12)))::.asgT [17,5] (.call 262 [(.v 0),(.v 5),(.bi .min [(.v 18),(.bi .len [(.v 0)])]),(.v 14),(.v 15),(.ite (.v 11) (.v 13) (.c (.str [])))])::rs)
   [.val (.str t),s1,s2,s3,s4,.val (.int p),s6,s7,.val (.bool false),s9,s10,.val (.bool kp),.val (.int w),.val (.str nm),.val (.str [c]),.val (.str mb),s16,s17,s18] F o:=by
 have hn:decide ((t.length:Int)≤(p:Int))=false:=dgt (Int.not_le.mpr (Int.ofNat_lt.mpr hp))
 exact g_asg (v:=.bool false) (e_cmp rfl (e_bi rfl rfl) (congrArg R.ok hn)) (g_if0 rfl rfl (g_asg ev_last (g_asgT (e_call (el_cons rfl (el_cons rfl (el_cons (e_bi (el_cons rfl (el_cons (e_bi rfl rfl) rfl)) rfl) (el_cons rfl (el_cons rfl (el_cons ev_nm rfl)))))) V) (fun F=>rfl) k)))
theorem rd_f (hc:c≠110) (hk:SkR t c p p1) (hp:p1 < t.length) (V:RF n t p1 c mb w nm kp (.ok (.tup [v,.int p2]))) (hv:v.isNone=false):Rd n t p c mb w nm kp v p2:=fun s1 s2 s3 s4 s6 s7 s9 s10 s16 s17 s18 =>
 ⟨_,fun B oo k=>g_ie (e_cmp rfl rfl rfl) (ne1 hc) (go_sk hk (go_rf hp V (g_if0 (e_cmp rfl rfl rfl) hv (g_done rfl)))) k⟩
theorem rb_none (hc:c≠110) (hk:SkR t c p p1) (hp:p1 < t.length) (V:RF n t p1 c mb w nm kp (.ok (.tup [.none,.int p2]))) (hs:(∃ b,cmpop .notin (.str [c]) (.tup [.str [115],.str [91]])=.ok b∧(b && AV.eqv (.int p2) (.int (lastV t p1 w)))=sh)):Rb n t p c mb w nm kp sh:=fun s1 s2 s3 s4 s6 s7 s9 s10 s16 s17 s18=>by
 obtain ⟨b,hb,hs⟩:=hs
 refine ⟨_,_,_,fun B=>g_f (e_cmp rfl rfl rfl) (ne1 hc) (go_sk hk (go_rf hp V (g_t (e_cmp rfl rfl rfl) rfl (g_asg (v:=.bool sh) ?_ g_brk))))⟩
 subst hs
 cases b with
 | false=>exact e_andf (e_cmp rfl rfl hb) rfl
 | true=>exact e_and (e_cmp rfl rfl hb) rfl (by
   cases h:AV.eqv (.int p2) (.int (lastV t p1 w)) with
   | false=>exact e_andf (e_cmp rfl rfl rfl) h
   | true=>exact e_and (e_cmp rfl rfl rfl) h rfl)
theorem rb_short (hc:c≠110) (hk:SkR t c p p1) (hp:t.drop p1=[]):Rb n t p c mb w nm kp true:=fun s1 s2 s3 s4 s6 s7 s9 s10 s16 s17 s18=>by
 have hn:decide ((t.length:Int)≤(p1:Int))=true:=dlt (Int.ofNat_le.mpr (at_end hp))
 exact ⟨_,_,_,fun B=>g_f (e_cmp rfl rfl rfl) (ne1 hc) (go_sk hk (g_asg (v:=.bool true) (e_cmp rfl (e_bi rfl rfl) (congrArg R.ok hn)) (g_t rfl rfl g_brk)))⟩
theorem sp_x (h:f.drop a=37::d0::D) (hD:d0≠37) (hs:Ph (n + 7) 171 [.str f,.int (a + 1:Nat)]=.ok (.tup [.int pv,.bool kp,.int w,.str nm,.str [c],.int a1])) (hi:(decide (0 < pv)=false∧iw=iv)∨(pv=(iw + 1:Nat))) (hS:SetR f c a1 mb a2) (hc:c≠110) (hk:SkR t c p p1) (hp:p1 < t.length) (V:RF n t p1 c mb w nm kp (.exn tt cc)):SP n t f cnt vs a p iv m (.exn tt cc):=fun s9 s10 s11 s12 s13 s14 s15 s16 s17 s18=>by
 obtain ⟨t16,P⟩:=d_pre (n:=n) (t:=t) (cnt:=cnt) (vs:=vs) (p:=p) (m:=m) (s9:=s9) (s10:=s10) (s11:=s11) (s12:=s12) (s13:=s13) (s14:=s14) (s15:=s15) (s16:=s16) (s17:=s17) (s18:=s18) h hD hs hi hS
 have hn:decide ((t.length:Int)≤(p1:Int))=false:=dgt (Int.not_le.mpr (Int.ofNat_lt.mpr hp))
 exact g_wx (e_cmp rfl rfl rfl) (lt_t h) (g_evo (P _ (g_f (e_cmp rfl rfl rfl) (ne1 hc) (go_sk hk (g_asg (v:=.bool false) (e_cmp rfl (e_bi rfl rfl) (congrArg R.ok hn)) (g_if0 rfl rfl (g_asg ev_last (g_asgTx (e_callr (el_cons rfl (el_cons rfl (el_cons (e_bi (el_cons rfl (el_cons (e_bi rfl rfl) rfl)) rfl) (el_cons rfl (el_cons rfl (el_cons ev_nm rfl)))))) V)))))))))
end
end Mine
end
section
set_option tactic.hygienic false
open PySem
namespace Mine
section
variable {n:Nat} {t f r x D ds:Tx} {a b p c d k L M q:Nat} {cnt w v:Int} {vs:List AV} {o:Out} {kp u:Bool} {nm mb tt:Tx} {cc:List AV} {s:So}
theorem scan_go (hc:Ph (n + 7) 199 [.str f,.int cnt]=.ok (.int M)) (hM:M≤1000) (k:SP n t f cnt (List.replicate M .none) 0 0 0 0 o):Go (n + 7) c_scan_text [.val (.str t),.val (.str f),.val (.int cnt),.u,.u,.u,.u,.u,.u,.u,.u,.u,.u,.u,.u,.u,.u,.u,.u] nx o :=
 g_nx (σ':=[.val (.str t),.val (.str f),.val (.int cnt),.sl (List.replicate M .none),.u,.u,.u,.u,.u,.u,.u,.u,.u,.u,.u,.u,.u,.u,.u]) (bd (e_call rfl hc) (limT (andT (dlt (by lia)) (dlt (by lia))))) (g_asg rfl (g_asg rfl (g_asg rfl (g_asg rfl (g_asg rfl (k _ _ _ _ _ _ _ _ _ _))))))
theorem ph_scan3 (hc:Ph (n + 7) 199 [.str f,.int cnt]=.ok (.int M)) (hM:M≤1000) (k:SP n t f cnt (List.replicate M .none) 0 0 0 0 o):Ph (n + 8) 366 [.str t,.str f,.int cnt]=back o:=call_o (d:=d_scan_text) _ rfl rfl rfl (scan_go hc hM k) rfl
theorem ph_scan2 (hc:Ph (n + 7) 199 [.str f,.int 0]=.ok (.int M)) (hM:M≤1000) (k:SP n t f 0 (List.replicate M .none) 0 0 0 0 o):Ph (n + 8) 366 [.str t,.str f]=back o:=call_o (d:=d_scan_text) _ rfl rfl rfl (scan_go hc hM k) rfl
theorem ph_scanx (hc:Ph (n + 7) 199 [.str f,.int cnt]=.exn tt cc):Ph (n + 8) 366 [.str t,.str f,.int cnt]=.exn tt cc:=call_o (d:=d_scan_text) (o:=.exn tt cc) [.val (.str t),.val (.str f),.val (.int cnt),.u,.u,.u,.u,.u,.u,.u,.u,.u,.u,.u,.u,.u,.u,.u,.u] rfl rfl rfl (by
 show Go _ (_::_) _ _ _
 rw [go_cons]
 exact congrArg (fun q=>seqO q _) (bdx (e_callr rfl hc):R.bind _ _=.exn tt cc)) rfl
theorem rf_of {Q:R AV} (hL:min (lastV t p w) t.length=(L:Int)) (h:Ph (n + 7) 262 [.str t,.int p,.int L,.str [c],.str mb,.str (cond kp nm [])]=Q):RF n t p c mb w nm kp Q:=by
 unfold RF
 rw [hL]
 exact h
theorem last0 (h:w≤0):min (lastV t p w) t.length=(t.length:Int):=by
 unfold lastV
 rw [decide_eq_true h]
 exact Int.min_self _
theorem lastK (h:0 < k):min (lastV t p k) t.length=((min (p + k) t.length:Nat):Int):=by
 unfold lastV
 rw [decide_eq_false (by lia)]
 show min ((p:Int) + k) _=_
 lia
theorem rf_c (h:t.drop p=k::r) (hk:k < 2 ^ 100):Ph (n + 5) 262 [.str t,.int p,.int L,.str [99],.str mb,.str nm]=.ok (.tup [.str (dgS false 10 k),.int (p + 1:Nat)]) :=
 call_s (d:=d_read_field) [.val (.str t),.val (.int p),.val (.int L),.val (.str [99]),.val (.str mb),.val (.str nm),.u] rfl rfl rfl (g_ifr rfl rfl (e_tup (el_cons (e_bi (el_cons (e_bi (el_cons (e_idx rfl rfl (ix h)) rfl) rfl) rfl) (str_nat hk)) rfl) rfl) rfl)
theorem go_word (hL:b≤L) (he:b=L∨∃ k u,r=k::u∧isBlank k=true):∀ {x:Tx} {a:Nat} {o:Out},t.drop a=x++r→(∀ k ∈ x,isBlank k=false)→a + x.length=b→Go (n + 1) ((c_read_field).drop 4) [.val (.str t),.val (.int p),.val (.int L),.val (.str [115]),.val (.str mb),.val (.str nm),.val (.int b)] nx o →
  Go (n + 1) [.whil (.and [(.cmp (.v 6) .lt (.v 2)),(.not (.call 52 [(.idx (.v 0) (.v 6))]))]) [.aug 6 false (.c (.int 1))]] [.val (.str t),.val (.int p),.val (.int L),.val (.str [115]),.val (.str mb),.val (.str nm),.val (.int a)] (fun σ=>seqO (evSs (Ph (n + 1)) MT (De (n + 1)) ((c_read_field).drop 4) σ) nx) o
 | [],a,o,h,_,hb,k=>by
  obtain rfl:a=b:=hb
  rcases he with rfl | ⟨k',u,rfl,hk⟩
  ·exact g_wf (e_andf rfl (dgt (Int.lt_irrefl _))) rfl k
  ·rcases Nat.lt_or_eq_of_le hL with hl | rfl
   ·exact g_wf (e_and rfl (dlt (Int.ofNat_lt.mpr hl)) (e_andf (e_not (e_call (el_cons (e_idx rfl rfl (ix h)) el_nil) ph_blank)) (nf hk))) rfl k
   ·exact g_wf (e_andf rfl (dgt (Int.lt_irrefl _))) rfl k
 | d::x,a,o,h,hx,hb,k=>g_wt (e_and rfl (dlt (Int.ofNat_lt.mpr (Nat.lt_of_lt_of_le (Nat.lt_of_lt_of_eq (Nat.lt_add_of_pos_right (Nat.succ_pos x.length)) hb) hL))) (e_and (e_not (e_call (el_cons (e_idx rfl rfl (ix h)) el_nil) ph_blank)) (nt (hx d (.head _))) rfl)) rfl (g_evs (g_aug rfl rfl (g_done rfl))) rfl
   (go_word hL he (x:=x) (a:=a + 1) (at_next h) (fun k hk=>hx k (.tail _ hk)) (up hb) k)
theorem rf_s (h:t.drop p=x++r) (h0:x≠[]) (hx:∀ k ∈ x,isBlank k=false) (hL:p + x.length≤L) (he:p + x.length=L∨∃ k u,r=k::u∧isBlank k=true):Ph (n + 5) 262 [.str t,.int p,.int L,.str [115],.str mb,.str nm]=.ok (.tup [.str x,.int (p + x.length:Nat)]):=by
 have hp:0 < x.length:=List.length_pos_iff.mpr h0
 exact call_s (d:=d_read_field) [.val (.str t),.val (.int p),.val (.int L),.val (.str [115]),.val (.str mb),.val (.str nm),.u] rfl rfl rfl (g_if0 rfl rfl (g_if0 rfl rfl (g_asg rfl (g_f rfl rfl (go_word hL he h hx rfl (g_ret (e_tup (el_cons (e_f (e_cmp rfl rfl rfl) (nen (by lia)) (e_sl rfl rfl rfl (slop_mid h rfl))) rfl) rfl) rfl))))))
theorem hm_no {l1 l2 bs:Nat} (h:L≤a + 2∨∃ k d r,t.drop a=k::d::r∧d≠l1∧d≠l2):Ph (n + 2) 241 [.str t,.int a,.int L,.tup [.str [l1],.str [l2]],.int bs]=.ok (.bool false):=by
 refine call_s (d:=d_has_mark) [.val (.str t),.val (.int a),.val (.int L),.val (.tup [.str [l1],.str [l2]]),.val (.int bs)] rfl rfl rfl (g_ret (v:=.bool false) ?_ rfl)
 by_cases hl:L≤a + 2
 ·exact e_andf (e_cmp (e_bin rfl rfl rfl) rfl rfl) (dgt (by lia))
 ·obtain ⟨k,d,r,h,h1,h2⟩:=h.resolve_left hl
  refine e_and (e_cmp (e_bin rfl rfl rfl) rfl rfl) (dlt (by lia)) ?_
  cases h0:AV.eqv (.str [k]) (.str [48]) with
  | false=>exact e_andf (e_cmp (e_idx rfl rfl (ix h)) rfl rfl) h0
  | true=>exact e_and (e_cmp (e_idx rfl rfl (ix h)) rfl rfl) h0 (e_andf (t:=false) (e_cmp (e_idx rfl (e_bin rfl rfl rfl) (ix (at_next h))) rfl (congrArg R.ok (by show (AV.eqv _ _ || (AV.eqv _ _ || false))=false; rw [ne1 fun e=>h1 e.symm,ne1 fun e=>h2 e.symm]; rfl))) rfl)
theorem hm_yes {l1 l2 bs:Nat} (h:t.drop a=48::l1::d::r) (hl:a + 2 < L) (hd:isD bs d=true):Ph (n + 2) 241 [.str t,.int a,.int L,.tup [.str [l1],.str [l2]],.int bs]=.ok (.bool true) :=
 call_s (d:=d_has_mark) [.val (.str t),.val (.int a),.val (.int L),.val (.tup [.str [l1],.str [l2]]),.val (.int bs)] rfl rfl rfl (g_ret (e_and (e_cmp (e_bin rfl rfl rfl) rfl rfl) (dlt (by lia)) (e_and (e_cmp (e_idx rfl rfl (ix h)) rfl rfl) rfl (e_and (t:=true) (e_cmp (e_idx rfl (e_bin rfl rfl rfl) (ix (at_next h))) rfl (congrArg R.ok (by show (AV.eqv _ _ || _)=true; rw [eq1]; rfl))) rfl
  (e_and (e_c2 rfl (e_call (el_cons (e_idx rfl (e_bin rfl rfl rfl) (ix (at_2 h))) rfl) ph_dig) rfl rfl rfl) hd rfl)))) rfl)
noncomputable def So.l1:So→Nat
 | .b=>98 | _=>120
noncomputable def So.l2:So→Nat
 | .b=>66 | _=>88
noncomputable def baseN (s:So) (c:Nat):Nat:=match s with
 | .i=>cond (AV.eqv (.str [c]) (.str [48])) 8 10
 | s=>s.base
theorem base_no (h:t.drop a=c::r) (hl:a < L) (hm:L≤a + 2∨∃ k d r,t.drop a=k::d::r∧d≠s.l1∧d≠s.l2):Ph (n + 3) 248 [.str t,.int a,.int L,.str [s.c]]=.ok (.tup [.int (baseN s c),.int a]):=by
 cases s
 case i =>
  refine call_s (d:=d_read_base) [.val (.str t),.val (.int a),.val (.int L),.val (.str [105])] rfl rfl rfl (g_if0 (e_and (e_cmp rfl rfl rfl) rfl (e_andf (e_call rfl (hm_no hm)) rfl)) rfl (g_if0 (e_andf (e_cmp rfl rfl rfl) rfl) rfl (g_ifr (e_cmp rfl rfl rfl) rfl (e_tup (el_cons (v:=.int (baseN .i c)) ?_ rfl) rfl) rfl)))
  show ev _ _ _=.ok (.int (cond (AV.eqv (.str [c]) (.str [48])) 8 10:Nat))
  cases h0:AV.eqv (.str [c]) (.str [48]) with
  | false=>exact e_f (e_and (e_cmp rfl rfl rfl) (dlt (Int.ofNat_lt.mpr hl)) (e_andf (e_cmp (e_idx rfl rfl (ix h)) rfl rfl) h0)) rfl rfl
  | true=>exact e_t (e_and (e_cmp rfl rfl rfl) (dlt (Int.ofNat_lt.mpr hl)) (e_and (e_cmp (e_idx rfl rfl (ix h)) rfl rfl) h0 rfl)) rfl rfl
 case b=>exact call_s (d:=d_read_base) [.val (.str t),.val (.int a),.val (.int L),.val (.str [98])] rfl rfl rfl (g_if0 (e_andf (e_cmp rfl rfl rfl) rfl) rfl (g_if0 (e_and (e_cmp rfl rfl rfl) rfl (e_andf (e_call rfl (hm_no hm)) rfl)) rfl (g_if0 (e_cmp rfl rfl rfl) rfl (g_ret (e_tup (el_cons (e_call rfl (So.f9 .b)) rfl) rfl) rfl))))
 case x=>exact call_s (d:=d_read_base) [.val (.str t),.val (.int a),.val (.int L),.val (.str [120])] rfl rfl rfl (g_if0 (e_and (e_cmp rfl rfl rfl) rfl (e_andf (e_call rfl (hm_no hm)) rfl)) rfl (g_if0 (e_andf (e_cmp rfl rfl rfl) rfl) rfl (g_if0 (e_cmp rfl rfl rfl) rfl (g_ret (e_tup (el_cons (e_call rfl (So.f9 .x)) rfl) rfl) rfl))))
 case X=>exact call_s (d:=d_read_base) [.val (.str t),.val (.int a),.val (.int L),.val (.str [88])] rfl rfl rfl (g_if0 (e_and (e_cmp rfl rfl rfl) rfl (e_andf (e_call rfl (hm_no hm)) rfl)) rfl (g_if0 (e_andf (e_cmp rfl rfl rfl) rfl) rfl (g_if0 (e_cmp rfl rfl rfl) rfl (g_ret (e_tup (el_cons (e_call rfl (So.f9 .X)) rfl) rfl) rfl))))
 all_goals exact call_s (d:=d_read_base) _ rfl rfl rfl (g_if0 (e_andf (e_cmp rfl rfl rfl) rfl) rfl (g_if0 (e_andf (e_cmp rfl rfl rfl) rfl) rfl (g_if0 (e_cmp rfl rfl rfl) rfl (g_ret rfl rfl))))
noncomputable def So.hasM:So→Bool
 | .x=>true | .X=>true | .i=>true | .b=>true | _=>false
noncomputable def So.mbs:So→Nat
 | .b=>2 | _=>16
theorem base_yes (hs:s.hasM=true) (h:t.drop a=48::s.l1::d::r) (hl:a + 2 < L) (hd:isD s.mbs d=true):Ph (n + 3) 248 [.str t,.int a,.int L,.str [s.c]]=.ok (.tup [.int s.mbs,.int (a + 2:Nat)]):=by
 cases s
 case b=>exact call_s (d:=d_read_base) [.val (.str t),.val (.int a),.val (.int L),.val (.str [98])] rfl rfl rfl (g_if0 (e_andf (e_cmp rfl rfl rfl) rfl) rfl (g_ifr (e_and (e_cmp rfl rfl rfl) rfl (e_and (e_call rfl (hm_yes (l2:=66) h hl hd)) rfl rfl)) rfl (e_tup (el_cons rfl (el_cons (e_bin rfl rfl rfl) rfl)) rfl) rfl))
 case x=>exact call_s (d:=d_read_base) [.val (.str t),.val (.int a),.val (.int L),.val (.str [120])] rfl rfl rfl (g_ifr (e_and (e_cmp rfl rfl rfl) rfl (e_and (e_call rfl (hm_yes (l2:=88) h hl hd)) rfl rfl)) rfl (e_tup (el_cons rfl (el_cons (e_bin rfl rfl rfl) rfl)) rfl) rfl)
 case X=>exact call_s (d:=d_read_base) [.val (.str t),.val (.int a),.val (.int L),.val (.str [88])] rfl rfl rfl (g_ifr (e_and (e_cmp rfl rfl rfl) rfl (e_and (e_call rfl (hm_yes (l2:=88) h hl hd)) rfl rfl)) rfl (e_tup (el_cons rfl (el_cons (e_bin rfl rfl rfl) rfl)) rfl) rfl)
 case i=>exact call_s (d:=d_read_base) [.val (.str t),.val (.int a),.val (.int L),.val (.str [105])] rfl rfl rfl (g_ifr (e_and (e_cmp rfl rfl rfl) rfl (e_and (e_call rfl (hm_yes (l2:=88) h hl hd)) rfl rfl)) rfl (e_tup (el_cons rfl (el_cons (e_bin rfl rfl rfl) rfl)) rfl) rfl)
 all_goals cases hs
noncomputable def clamp (v:Int):Int:=max (-9223372036854775808) (min v 9223372036854775807)
noncomputable def fitI (u:Bool) (v:Int):Int:=cond u (clamp (cond (decide (0≤v) && decide (v < 18446744073709551616)) (cutM 18446744073709551616 v) v) % 18446744073709551616) (clamp (cond (decide (0≤v) && decide (v < 18446744073709551616)) (cutM 18446744073709551616 v) v))
theorem fit_e:Ph (n + 2) 234 [.int v,.bool u,.str []]=.ok (.int (fitI u v)):=by
 have tail:∀ v:Int,Go (n + 1) (c_fitted.drop 2) [.val (.int v),.val (.bool u),.val (.str [])] nx (.ok (.ret (.int (cond u (clamp v % 18446744073709551616) (clamp v))))):=fun v=>by
  refine g_asg (v:=.int (clamp v)) (e_bi (el_cons (v:=.int (-9223372036854775808)) rfl (el_cons (e_bi (el_cons rfl (el_cons (v:=.int 9223372036854775807) rfl rfl)) rfl) rfl)) rfl) ?_
  cases u with
  | true=>exact g_ifr rfl rfl (e_m64 rfl) rfl
  | false=>exact g_if0 rfl rfl (g_ret rfl rfl)
 refine call_s (d:=d_fitted) [.val (.int v),.val (.bool u),.val (.str [])] rfl rfl rfl (g_if0 rfl rfl ?_)
 unfold fitI
 have hc:ev (n + 1) (.and [(.cmp (.v 2) .ne (.c (.str [108]))),(.cmp2 (.c (.int 0)) .le (.v 0) .lt (.bin .shl (.c (.int 1)) (.c (.int 64))))]) [.val (.int v),.val (.bool u),.val (.str [])]=.ok (.bool (decide (0≤v) && decide (v < 18446744073709551616))):=by
  cases h:(decide (0≤v) && decide (v < 18446744073709551616)) with
  | true=>exact e_and rfl rfl (e_and (e_c2 rfl rfl rfl (e_bin rfl rfl (z:=.int 18446744073709551616) rfl) rfl) h rfl)
  | false=>exact e_and rfl rfl (e_andf (e_c2 rfl rfl rfl (e_bin rfl rfl (z:=.int 18446744073709551616) rfl) rfl) h)
 generalize (decide (0≤v) && decide (v < 18446744073709551616))=g at hc ⊢
 cases g with
 | true=>exact g_it hc rfl (g_asg (e_call rfl ph_wide) (g_done rfl)) (tail _)
 | false=>exact g_if0 hc rfl (tail _)
noncomputable def sUsc:Tx:=[117,110,115,105,103,110,101,100,32,98,105,103,110,117,109,32,115,99,97,110,115,32,97,114,101,32,105,110,118,97,108,105,100]
theorem fit_big:Ph (n + 2) 234 [.int v,.bool u,.str [98,105,103]]=cond (u && decide (v < 0)) (.exn sUsc (fmtCode kUns)) (.ok (.int v)):=by
 cases u with
 | false=>exact call_s (d:=d_fitted) [.val (.int v),.val (.bool false),.val (.str [98,105,103])] rfl rfl rfl (g_t rfl rfl (g_if0 (e_andf rfl rfl) rfl (g_ret rfl rfl)))
 | true =>
  cases h:decide (v < 0) with
  | false=>exact call_s (d:=d_fitted) [.val (.int v),.val (.bool true),.val (.str [98,105,103])] rfl rfl rfl (g_t rfl rfl (g_if0 (e_and rfl rfl (e_andf (e_cmp rfl rfl rfl) h)) rfl (g_ret rfl rfl)))
  | true=>exact call_o (d:=d_fitted) (o:=.exn sUsc (fmtCode kUns)) [.val (.int v),.val (.bool true),.val (.str [98,105,103])] rfl rfl rfl (g_t rfl rfl (g_t (e_and rfl rfl (e_and (e_cmp rfl rfl rfl) h rfl)) rfl (g_raise rfl rfl))) rfl
end
end Mine
end
section
set_option tactic.hygienic false
open PySem
namespace Mine
set_option genCtorIdx false
inductive Sg0 (u:Unit) | no | pl | mi
set_option genCtorIdx true
abbrev Sg:=Sg0 ()
noncomputable def Sg.t:Sg→Tx
 | .no=>[] | .pl=>[43] | .mi=>[45]
noncomputable def Sg.neg:Sg→Bool
 | .mi=>true | _=>false
def NoS (r:Tx):Prop:=∃ c u,r=c::u∧c≠43∧c≠45
section
variable {n:Nat} {t r x ds pf:Tx} {a b p c d k L q:Nat} {v num:Int} {o:Out} {u:Bool} {nm mb tt:Tx} {cc:List AV} {s:So} {sg:Sg}
theorem w_sg {s5 s6 s7 s8 s9:SV} (h:t.drop p=sg.t++r) (hr:NoS r) (k:Go n (c_read_whole.drop 2) [.val (.str t),.val (.int (p + sg.t.length:Nat)),.val (.int L),.val (.str [s.c]),.val (.str nm),.val (.bool sg.neg),.u,.u,.u,.u] nx o) {w:R AV} (hb:back o=w):Ph (n + 1) 255 [.str t,.int p,.int L,.str [s.c],.str nm]=w:=by
 refine call_o (d:=d_read_whole) (o:=o) [.val (.str t),.val (.int p),.val (.int L),.val (.str [s.c]),.val (.str nm),.u,.u,.u,.u,.u] rfl rfl rfl ?_ hb
 cases sg with
 | no =>
  obtain ⟨c,u,rfl,h1,h2⟩:=hr
  exact g_asg (v:=.bool false) (e_cmp (e_idx rfl rfl (ix h)) rfl (congrArg R.ok (ne1 h2))) (g_if0 (t:=false) (e_cmp (e_idx rfl rfl (ix h)) rfl (congrArg R.ok (by show (AV.eqv _ _ || (AV.eqv _ _ || false))=false; rw [ne1 fun e=>h1 e.symm,ne1 fun e=>h2 e.symm]; rfl))) rfl k)
 | pl=>exact g_asg (e_cmp (e_idx rfl rfl (ix h)) rfl rfl) (g_it (e_cmp (e_idx rfl rfl (ix h)) rfl rfl) rfl (g_aug rfl rfl (g_done rfl)) k)
 | mi=>exact g_asg (e_cmp (e_idx rfl rfl (ix h)) rfl rfl) (g_it (e_cmp (e_idx rfl rfl (ix h)) rfl rfl) rfl (g_aug rfl rfl (g_done rfl)) k)
def BaseR (t:Tx) (a L:Nat) (s:So) (q b:Nat):Prop:=∀ n,Ph (n + 3) 248 [.str t,.int a,.int L,.str [s.c]]=.ok (.tup [.int q,.int b])
noncomputable def strR (r:R AV) (b:Nat):R AV:=r.bind fun v=>(biop .str [v]).bind fun w=>.ok (.tup [w,.int b])
theorem ph_rw (h:t.drop p=sg.t++r) (hr:NoS r) (hB:BaseR t (p + sg.t.length) L s q b) (hd:t.drop b=ds++x) (h0:ds≠[]) (hD:∀ k ∈ ds,isD q k=true) (hl:b + ds.length≤L) (he:b + ds.length=L∨∃ k u,x=k::u∧isD q k=false) (hq:smallI q=true)
  {Q:R AV} (hf:Ph (n + 3) 234 [.int (sgn sg.neg (dv q ds)),.bool s.isU,.str nm]=Q):Ph (n + 4) 255 [.str t,.int p,.int L,.str [s.c],.str nm]=strR Q (b + ds.length):=by
 have hp:0 < ds.length:=List.length_pos_iff.mpr h0
 refine w_sg (s5:=.u) (s6:=.u) (s7:=.u) (s8:=.u) (s9:=.u) (o:=Q.bind fun v=>(biop .str [v]).bind fun w=>.ok (.ret (.tup [w,.int (b + ds.length:Nat)]))) h hr (g_asgT (e_call rfl (hB n)) (fun F=>rfl) (g_asg (e_call rfl (ph_behind hd hD rfl hl he)) (g_if0 (e_cmp rfl rfl rfl) (nen (by lia)) (g_asg (e_call (el_cons (e_sl rfl rfl rfl (slop_mid hd rfl)) rfl) (ph_dv hq h0 hD)) ?_)))) ?_
 ·have hc:ev (n + 3) (.cmp (.v 3) .eq (.c (.str [117]))) [.val (.str t),.val (.int (p + sg.t.length:Nat)),.val (.int L),.val (.str [s.c]),.val (.str nm),.val (.bool sg.neg),.val (.int q),.val (.int b),.val (.int (b + ds.length:Nat)),.val (.int (dv q ds))]=.ok (.bool s.isU):=e_cmp rfl rfl (congrArg R.ok s.n3)
  have hs:ev (n + 3) (.ite (.v 5) (.neg (.v 9)) (.v 9)) [.val (.str t),.val (.int (p + sg.t.length:Nat)),.val (.int L),.val (.str [s.c]),.val (.str nm),.val (.bool sg.neg),.val (.int q),.val (.int b),.val (.int (b + ds.length:Nat)),.val (.int (dv q ds))]=.ok (.int (sgn sg.neg (dv q ds))):=by
   cases sg
   ·exact e_f rfl rfl rfl
   ·exact e_f rfl rfl rfl
   ·exact e_t rfl rfl rfl
  have hcall:ev (n + 3) (.call 234 [(.ite (.v 5) (.neg (.v 9)) (.v 9)),(.cmp (.v 3) .eq (.c (.str [117]))),(.v 4)]) [.val (.str t),.val (.int (p + sg.t.length:Nat)),.val (.int L),.val (.str [s.c]),.val (.str nm),.val (.bool sg.neg),.val (.int q),.val (.int b),.val (.int (b + ds.length:Nat)),.val (.int (dv q ds))]=Q:=e_callr (el_cons hs (el_cons hc (el_cons rfl rfl))) hf
  rw [go_cons]
  refine (congrArg (fun z:R AV=>seqO ((((z.bind fun v=>R.ok [v]).bind fun vs=>biop .str vs).bind fun v=>(evEs (Ph (n + 3)) [.v 8] _).bind fun vs=>.ok (v::vs)).bind (fun vs=>lim (decide (vs.length≤lLine)) (.ok (.tup vs))) |>.bind fun v=>.ok (.ret v)) _) hcall).trans ?_
  cases Q with
  | ok v =>
   show seqO ((((biop .str [v]).bind _).bind _).bind _) _=R.bind (biop .str [v]) _
   cases biop .str [v] <;> rfl
  | _=>rfl
 ·cases Q with
  | ok v =>
   show back (R.bind (biop .str [v]) _)=R.bind (biop .str [v]) _
   cases biop .str [v] <;> rfl
  | _=>rfl
theorem ph_rwn (h:t.drop p=r) (hr:NoS r) (hB:BaseR t p L s q b) (hd:t.drop b=x) (hl:b≤L) (he:b=L∨∃ k u,x=k::u∧isD q k=false):Ph (n + 4) 255 [.str t,.int p,.int L,.str [s.c],.str nm]=.ok (.tup [.none,.int b]) :=
 w_sg (s5:=.u) (s6:=.u) (s7:=.u) (s8:=.u) (s9:=.u) (sg:=.no) h hr (g_asgT (e_call rfl (hB n)) (fun F=>rfl) (g_asg (e_call rfl (ph_behind (x:=[]) hd (fun _ h=>nomatch h) rfl hl he)) (g_ifr (e_cmp rfl rfl rfl) eqi rfl rfl))) rfl
theorem So.n99 (s:So):AV.eqv (.str [s.c]) (.str [99])=false:=s.n2
theorem So.nns (s:So):cmpop .notin (.str [s.c]) (.tup [.str [115],.str [91]])=.ok true:=by cases s <;> rfl
theorem rf_w {Q:R AV} (h:Ph (n + 4) 255 [.str t,.int p,.int L,.str [s.c],.str nm]=Q):Ph (n + 5) 262 [.str t,.int p,.int L,.str [s.c],.str mb,.str nm]=Q:=by
 subst h
 refine call_o (d:=d_read_field) (o:=(Ph (n + 4) 255 [.str t,.int p,.int L,.str [s.c],.str nm]).bind fun v=>.ok (.ret v)) [.val (.str t),.val (.int p),.val (.int L),.val (.str [s.c]),.val (.str mb),.val (.str nm),.u] rfl rfl rfl (g_if0 (e_cmp rfl rfl rfl) s.n2 (g_t (e_cmp rfl rfl s.nns) rfl ?_)) ?_
 ·rw [go_cons]
  show seqO (R.bind (Ph (n + 4) 255 _) _) _=_
  cases Ph (n + 4) 255 [.str t,.int p,.int L,.str [s.c],.str nm] <;> rfl
 ·cases Ph (n + 4) 255 [.str t,.int p,.int L,.str [s.c],.str nm] <;> rfl
noncomputable def rgAV (l:List (Nat × Nat)):AV:=.lst (l.map fun (p:Nat × Nat)=>AV.tup [.int p.1,.int p.2])
noncomputable def inR (c:Nat) (l:List (Nat × Nat)):Bool:=l.any fun p=>decide ((p.1:Int)≤(c:Int)) && decide ((c:Int)≤(p.2:Int))
noncomputable def mbB:List MS:=loB (c_is_member.drop 1)
theorem fr_mb {s0 s1:SV}:∀ (l:List (Nat × Nat)) (s3 s4:SV),Fr n .lst [3,4] mbB (l.map fun (p:Nat × Nat)=>AV.tup [.int p.1,.int p.2]) [s0,s1,.val (.int c),s3,s4] (fun σ=>seqO (evSs (Ph n) MT (De n) [.ret (.c (.bool false))] σ) nx) (.ok (.ret (.bool (inR c l))))
 | [],s3,s4=>rfl
 | p::l,s3,s4=>by
  unfold inR
  rw [List.any_cons]
  generalize h:(decide ((p.1:Int)≤(c:Int)) && decide ((c:Int)≤(p.2:Int)))=g
  cases g with
  | true=>exact f_ret (σ1:=[s0,s1,.val (.int c),.val (.int p.1),.val (.int p.2)]) (fun F=>rfl) (g_ifr (e_c2 rfl rfl rfl rfl rfl) h rfl rfl)
  | false=>exact f_next (σ1:=[s0,s1,.val (.int c),.val (.int p.1),.val (.int p.2)]) (fun F=>rfl) (g_if0 (e_c2 rfl rfl rfl rfl rfl) h (g_done rfl)) (fun F=>rfl) (fr_mb l _ _)
theorem ph_mb (l:List (Nat × Nat)):Ph (n + 1) 220 [.str [c],rgAV l]=.ok (.bool (inR c l)) :=
 call_s (d:=d_is_member) [.val (.str [c]),.val (rgAV l),.u,.u,.u] rfl rfl rfl (g_asg (e_bi rfl rfl) (g_forL rfl (fr_mb l _ _)))
theorem go_set {l:List (Nat × Nat)} {mv:AV} {ot:Bool} (hL:b≤L) (he:b=L∨∃ k u,r=k::u∧inR k l=ot):∀ {x:Tx} {a:Nat},t.drop a=x++r→(∀ k ∈ x,inR k l=!ot)→a + x.length=b→Go (n + 1) (c_behind_members.drop 2) [.val (.str t),.val (.int a),.val (.int L),.val mv,.val (.bool ot),.val (rgAV l)] nx (.ok (.ret (.int b)))
 | [],a,h,_,hb=>by
  obtain rfl:a=b:=hb
  rcases he with rfl | ⟨k,u,rfl,hk⟩
  ·exact g_wf (e_andf rfl (dgt (Int.lt_irrefl _))) rfl (g_ret rfl rfl)
  ·rcases Nat.lt_or_eq_of_le hL with hl | rfl
   ·exact g_wf (e_and rfl (dlt (Int.ofNat_lt.mpr hl)) (e_andf (t:=false) (e_cmp (e_call (el_cons (e_idx rfl rfl (ix h)) rfl) (ph_mb l)) rfl (congrArg R.ok (by rw [hk]; cases ot <;> rfl))) rfl)) rfl (g_ret rfl rfl)
   ·exact g_wf (e_andf rfl (dgt (Int.lt_irrefl _))) rfl (g_ret rfl rfl)
 | d::x,a,h,hx,hb=>g_wt (e_and rfl (dlt (Int.ofNat_lt.mpr (Nat.lt_of_lt_of_le (Nat.lt_of_lt_of_eq (Nat.lt_add_of_pos_right (Nat.succ_pos x.length)) hb) hL))) (e_and (t:=true) (e_cmp (e_call (el_cons (e_idx rfl rfl (ix h)) rfl) (ph_mb l)) rfl (congrArg R.ok (by rw [hx d (.head _)]; cases ot <;> rfl))) rfl rfl)) rfl (g_evs (g_aug rfl rfl (g_done rfl))) rfl
   (go_set hL he (x:=x) (a:=a + 1) (at_next h) (fun k hk=>hx k (.tail _ hk)) (up hb))
def RgR (mb:Tx) (l:List (Nat × Nat)) (ot:Bool):Prop:=∀ n (t:Tx) (a L:Nat) (o:Out),Go (n + 2) (c_behind_members.drop 2) [.val (.str t),.val (.int a),.val (.int L),.val (.str mb),.val (.bool ot),.val (rgAV l)] nx o→Go (n + 2) c_behind_members [.val (.str t),.val (.int a),.val (.int L),.val (.str mb),.u,.u] nx o
theorem rf_set {l:List (Nat × Nat)} {ot:Bool} (hR:RgR mb l ot) (h:t.drop p=x++r) (hx:∀ k ∈ x,inR k l=!ot) (hL:p + x.length≤L) (he:p + x.length=L∨∃ k u,r=k::u∧inR k l=ot) :
  Ph (n + 5) 262 [.str t,.int p,.int L,.str [91],.str mb,.str nm]=.ok (.tup [match x with | []=>.none | c::y=>.str (c::y),.int (p + x.length:Nat)]):=by
 have hb:Ph (n + 4) 227 [.str t,.int p,.int L,.str mb]=.ok (.int (p + x.length:Nat)):=call_of (d:=d_behind_members) rfl rfl (hR (n + 1) t p L _ (go_set hL he h hx rfl))
 refine call_s (d:=d_read_field) [.val (.str t),.val (.int p),.val (.int L),.val (.str [91]),.val (.str mb),.val (.str nm),.u] rfl rfl rfl (g_if0 rfl rfl (g_if0 rfl rfl (g_asg rfl (g_it rfl rfl (g_asg (e_call rfl hb) (g_done rfl)) (g_ret (e_tup (el_cons ?_ rfl) rfl) rfl)))))
 cases x with
 | nil=>exact e_t (e_cmp rfl rfl rfl) eqi rfl
 | cons c y=>exact e_f (e_cmp rfl rfl rfl) (nen (by show p + (y.length + 1)≠p; lia)) (e_sl rfl rfl rfl (slop_mid h rfl))
end
end Mine
end
section
set_option tactic.hygienic false
open PySem
namespace Mine
noncomputable def sChr:Tx:=[98,97,100,32,115,99,97,110,32,99,111,110,118,101,114,115,105,111,110,32,99,104,97,114,97,99,116,101,114,32,34]
noncomputable def sWid:Tx:=[102,105,101,108,100,32,119,105,100,116,104,32,109,97,121,32,110,111,116,32,98,101,32,115,112,101,99,105,102,105,101,100,32,105,110,32,37,99,32,99,111,110,118,101,114,115,105,111,110]
noncomputable def kWid:Tx:=[66,65,68,87,73,68,84,72]
noncomputable def sSiz:Tx:=[102,105,101,108,100,32,115,105,122,101,32,109,111,100,105,102,105,101,114,32,109,97,121,32,110,111,116,32,98,101,32,115,112,101,99,105,102,105,101,100,32,105,110,32,37]
noncomputable def sCon:Tx:=[32,99,111,110,118,101,114,115,105,111,110]
noncomputable def kSiz:Tx:=[66,65,68,83,73,90,69]
noncomputable def sDif:Tx:=[100,105,102,102,101,114,101,110,116,32,110,117,109,98,101,114,115,32,111,102,32,118,97,114,105,97,98,108,101,32,110,97,109,101,115,32,97,110,100,32,102,105,101,108,100,32,115,112,101,99,105,102,105,101,114,115]
noncomputable def sUna:Tx:=[118,97,114,105,97,98,108,101,32,105,115,32,110,111,116,32,97,115,115,105,103,110,101,100,32,98,121,32,97,110,121,32,99,111,110,118,101,114,115,105,111,110,32,115,112,101,99,105,102,105,101,114,115]
noncomputable def kUna:Tx:=[85,78,65,83,83,73,71,78,69,68]
noncomputable def sPol:Tx:=[118,97,114,105,97,98,108,101,32,105,115,32,97,115,115,105,103,110,101,100,32,98,121,32,109,117,108,116,105,112,108,101,32,34,37,110,36,34,32,99,111,110,118,101,114,115,105,111,110,32,115,112,101,99,105,102,105,101,114,115]
noncomputable def kPol:Tx:=[80,79,76,89,65,83,83,73,71,78,69,68]
section
variable {n:Nat} {f t pre p:Tx} {c k:Nat} {z:Sz} {w cnt:Int} {nm tt:Tx} {cc:List AV} {s:So}
def Wr (n:Nat) (t f:Tx) (cnt:Int) (tt kk:Tx):Prop:=Ph (n + 8) 366 [.str t,.str f,.int cnt]=.exn tt (fmtCode kk)
theorem wr_c (h:CP n f cnt [] [] 0 (0:Nat) 0 (.exn tt cc)):Ph (n + 8) 366 [.str t,.str f,.int cnt]=.exn tt cc:=ph_scanx (ph_check h rfl)
theorem cs_bad (hc:c ∈ badL):Ph (n + 1) 185 [.str [c],.int w,.str nm]=.exn ((sChr++[c])++[34]) (fmtCode kBad):=by
 have h1:∀ c ∈ badL,AV.eqv (.str [c]) (.str [99])=false∧([AV.str [99],.str [110],.str [115],.str [91]].any fun x=>x.eqv (.str [c]))=false∧([AV.str [100],.str [105],.str [117],.str [111],.str [120],.str [88],.str [98],.str [99],.str [115],.str [91],.str [110]].any fun x=>x.eqv (.str [c]))=false:=by decide +kernel
 obtain ⟨e1,e2,e3⟩:=h1 c hc
 exact call_o (d:=d_check_sort) (o:=.exn ((sChr++[c])++[34]) (fmtCode kBad)) [.val (.str [c]),.val (.int w),.val (.str nm)] rfl rfl rfl (g_if0 (e_andf (e_cmp rfl rfl rfl) e1) rfl (g_if0 (e_andf (e_cmp rfl rfl rfl) e2) rfl (g_t (e_cmp (t:=true) rfl rfl (congrArg (fun b=>R.ok (!b)) e3)) rfl (g_raise rfl rfl)))) rfl
theorem cs_wid:Ph (n + 1) 185 [.str [99],.int k,.str nm]=.exn sWid (fmtCode kWid) :=
 call_o (d:=d_check_sort) (o:=.exn sWid (fmtCode kWid)) [.val (.str [99]),.val (.int k),.val (.str nm)] rfl rfl rfl (g_t (e_and (e_cmp rfl rfl rfl) rfl (e_and (e_cmp rfl rfl rfl) (dlt (Int.natCast_nonneg k)) rfl)) rfl (g_raise rfl rfl)) rfl
noncomputable def sz7:List Sz:=[.l,.ll,.L,.j,.q,.z,.t]
noncomputable def so4:List Nat:=[115,99,110,91]
theorem cs_siz (hc:c ∈ so4) (hz:z ∈ sz7):Ph (n + 1) 185 [.str [c],.int (-1),.str z.nm]=.exn ((sSiz++[c])++sCon) (fmtCode kSiz):=by
 have h1:∀ c ∈ so4,([AV.str [99],.str [110],.str [115],.str [91]].any fun x=>x.eqv (.str [c]))=true:=by decide +kernel
 have h2:∀ z ∈ sz7,([AV.str [108],.str [98,105,103]].any fun x=>x.eqv (.str z.nm))=true:=by decide +kernel
 refine call_o (d:=d_check_sort) (o:=.exn ((sSiz++[c])++sCon) (fmtCode kSiz)) [.val (.str [c]),.val (.int (-1)),.val (.str z.nm)] rfl rfl rfl (g_if0 (t:=false) ?_ rfl (g_t (e_and (e_cmp rfl rfl rfl) (h1 c hc) (e_and (e_cmp rfl rfl rfl) (h2 z hz) rfl)) rfl (g_raise rfl rfl))) rfl
 cases h:AV.eqv (.str [c]) (.str [99]) with
 | false=>exact e_andf (e_cmp rfl rfl rfl) h
 | true=>exact e_and (e_cmp rfl rfl rfl) h rfl
theorem cs_w (s:So) (w:Int) (nm:Tx):Ph (n + 1) 185 [.str [s.c],.int w,.str nm]=.ok .none:=by
 have e:cmpop .notin (.str [s.c]) (.tup [.str [100],.str [105],.str [117],.str [111],.str [120],.str [88],.str [98],.str [99],.str [115],.str [91],.str [110]])=.ok false:=by cases s <;> rfl
 have e2:cmpop .isin (.str [s.c]) (.tup [.str [99],.str [110],.str [115],.str [91]])=.ok false:=by cases s <;> rfl
 exact call_o (d:=d_check_sort) [.val (.str [s.c]),.val (.int w),.val (.str nm)] rfl rfl rfl (g_if0 (e_andf (e_cmp rfl rfl rfl) s.n2) rfl (g_if0 (e_andf (e_cmp rfl rfl e2) rfl) rfl (g_if0 (e_cmp rfl rfl e) rfl (g_done rfl)))) rfl
theorem so4_ok:∀ c ∈ so4,Pl c∧NoSz c∧c≠36∧c≠37:=by
 have h1:∀ c ∈ so4,isD 10 c=false∧c≠42∧isFl c=false∧AV.eqv (.str [c]) (.str [46])=false∧AV.eqv (.str [c]) (.str [108])=false∧AV.eqv (.str [c]) (.str [76])=false∧([AV.str [108],.str [106],.str [113],.str [122],.str [116]].any fun x=>x.eqv (.str [c]))=false∧AV.eqv (.str [c]) (.str [104])=false∧c≠36∧c≠37:=by decide +kernel
 intro c hc
 obtain ⟨a1,a2,a3,a4,a5,a6,a7,a8,a9⟩:=h1 c hc
 exact ⟨⟨a1,a2,a3,a4⟩,⟨a5,a6,congrArg R.ok a7,a8⟩,a9⟩
variable {wd:Option Nat} {r:Tx} {a:Nat} {td:List (Int × Int)} {so:Tx} {mo ix:Int} {i:Nat}
theorem cx_sort (P:Pl c) (Z:NoSz c) (hn:n2 (wT wd++(z.s++c::r))) (hw:∀ k,wd=some k→k < 1000) (hx:Ph (n + 6) 185 [.str [c],.int (wV wd),.str z.nm]=.exn tt cc):CP n (37::(wT wd++(z.s++c::r))) 0 [] [] 0 (0:Nat) 0 (.exn tt cc) :=
 cp_x rfl fun s7 s8 s9 s10 s11 s12 s13=>k_pre rfl (take37 hn) (ph_spec (n:=n + 1) (hd:=.no) (a:=1) rfl (Nat.le_add_left 1 _) True.intro hw P Z (hn c (List.mem_append_right _ (List.mem_append_right _ (.head _)))).1) (k_no (i:=0) (.inl rfl) rfl (g_exprx (e_callr rfl hx)) (Nat.zero_le _))
theorem ws1 (hc:c ∈ badL) (z:Sz):Wr n t (([37]++z.s)++[c]) 0 ((sChr++[c])++[34]) kBad:=have B:=bad_ok c hc
 wr_c (cx_sort (wd:=none) (r:=[]) B.1 B.2.1 (n2_app (n2_wd none) <| n2_app z.no2 fun k hk=>by cases List.mem_singleton.mp hk; exact B.2.2) (fun _ h=>nomatch h) (cs_bad hc))
theorem ws2 (hk:k < 1000):Wr n t (([37]++dgS false 10 k)++[99]) 0 sWid kWid :=
 wr_c (cx_sort (wd:=some k) (z:=.e) (r:=[]) Kd.c.ok.2.1 Kd.c.ok.1 (n2_app (n2_wd (some k)) (by decide +kernel)) (fun _ h=>by cases h; exact hk) cs_wid)
theorem ws3 (hc:c ∈ so4) (hz:z ∈ sz7):Wr n t ((([37]++z.s)++[c])++[97,98,93]) 0 ((sSiz++[c])++sCon) kSiz:=by
 have B:=so4_ok c hc
 have:=cx_sort (n:=n) (wd:=none) (z:=z) (r:=[97,98,93]) B.1 B.2.1 (n2_app (n2_wd none) <| n2_app z.no2 fun k hk=>(List.mem_cons.mp hk).elim (fun e=>e ▸ B.2.2) (fun h=>(by decide:n2 [97,98,93]) k h)) (fun _ h=>nomatch h) (cs_siz hc hz)
 rw [List.append_assoc ([37]++z.s)]
 exact wr_c this
theorem cs_set:Ph (n + 1) 185 [.str [91],.int (-1),.str []]=.ok .none:=rfl
theorem n2_p (hp:SetP p):n2 p:=by rcases hp with rfl | rfl | rfl | rfl <;> decide
theorem ws4 (hp:SetP p):Wr n t (([37,91]++p)++[97,98]) 0 sBra kBra :=
 wr_c (cp_x rfl fun s7 s8 s9 s10 s11 s12 s13=>k_pre (D:=91::(p++[97,98])) rfl rfl (ph_spec (n:=n + 1) (hd:=.no) (wd:=none) (z:=.e) (c:=91) (r:=p++[97,98]) (a:=1) rfl (Nat.le_add_left 1 _) True.intro (fun _ h=>nomatch h) (so4_ok 91 (by decide)).1 (so4_ok 91 (by decide)).2.1 (by decide))
  (k_no (i:=0) (.inl rfl) rfl (g_expr (e_call rfl cs_set) (g_t rfl rfl (g_asgx (e_callr rfl (set_x (a:=2) (x:=[98]) hp rfl (by decide) (by decide)))))) (Nat.zero_le _)))
theorem sp_d (h:f.drop a=100::r) (ha:a≤f.length):Ph (n + 6) 171 [.str f,.int a]=.ok (.tup [.int (-1),.bool true,.int (-1),.str [],.str [100],.int (a + 1:Nat)]):=ph_spec (n:=n + 1) (hd:=.no) (wd:=none) (z:=.e) h ha True.intro (fun _ h=>nomatch h) (Kd.w .d).ok.2.1 (Kd.w .d).ok.1 (by decide)
theorem ws5:Wr n t [37,100,32,37,49,36,100] 0 sMix sMixK :=
 wr_c (cp_no (i:=0) (a2:=2) rfl rfl (sp_d (a:=1) rfl (by decide)) (.inl rfl) rfl (Nat.zero_le _) (cs_w .d _ _) (.no (by decide)) (cp_lit rfl (by decide) (cp_x rfl fun s7 s8 s9 s10 s11 s12 s13=>k_pre rfl rfl (ph_spec (n:=n + 1) (hd:=.pl 1) (wd:=none) (z:=.e) (c:=100) (r:=[]) (a:=4) rfl (by decide) (by decide:1 < 1000) (fun _ h=>nomatch h) (Kd.w .d).ok.2.1 (Kd.w .d).ok.1 (by decide))
  (g_t rfl rfl (g_asg (e_f rfl rfl rfl) (g_t rfl rfl (g_raise rfl rfl)))))))
theorem ws6:Wr n t [37,100,32,37,42,100,32,37,100] 1 sDif kFew :=
 wr_c (cp_no (i:=0) (a2:=2) rfl rfl (sp_d (a:=1) rfl (by decide)) (.inl rfl) rfl (Nat.zero_le _) (cs_w .d _ _) (.no (by decide)) (cp_lit rfl (by decide) (cp_star (a2:=6) rfl rfl (ph_spec (n:=n + 1) (hd:=.star) (wd:=none) (z:=.e) (c:=100) (r:=[32,37,100]) (a:=4) rfl (by decide) True.intro (fun _ h=>nomatch h) (Kd.w .d).ok.2.1 (Kd.w .d).ok.1 (by decide)) (cs_w .d _ _) (.no (by decide)) (cp_lit rfl (by decide)
  (cp_x rfl fun s7 s8 s9 s10 s11 s12 s13=>k_pre rfl rfl (sp_d (a:=8) rfl (by decide)) (g_t rfl rfl (g_asg (e_t rfl rfl rfl) (g_if0 rfl rfl (g_asg rfl (g_if0 rfl rfl (g_t rfl rfl (g_if0 rfl rfl (g_raise rfl rfl)))))))))))))
def PreS (p:Tx):Prop:=p=[]∨p=[37,37]∨p=[32]
theorem cp_pre {o:Out} (hp:PreS p) (h:f=p++r) (k:CP n f cnt td so mo ix p.length o):CP n f cnt td so mo ix 0 o:=by
 subst h
 rcases hp with rfl | rfl | rfl
 ·exact k
 ·exact cp_pp rfl k
 ·exact cp_lit rfl (by decide) k
theorem sp_k (hd:Hd) (hh:hd.Ok) (hk:k < 1000) (h:f.drop a=hd.t++(dgS false 10 k++[100])) (ha:a≤f.length):Ph (n + 6) 171 [.str f,.int a]=.ok (.tup [.int hd.v,.bool hd.kept,.int k,.str [],.str [100],.int (a + hd.t.length + (dgS false 10 k).length + 1:Nat)]):=ph_spec (n:=n + 1) (hd:=hd) (wd:=some k) (z:=.e) (r:=[]) h ha hh (fun _ h=>by cases h; exact hk) (Kd.w .d).ok.2.1 (Kd.w .d).ok.1 (by decide)
theorem ws7 (hp:PreS p) (hk:k < 1000):Wr n t (p++(([37]++dgS false 10 k)++[100])) 2 sUna kUna:=by
 have hd:(p++(([37]++dgS false 10 k)++[100])).drop p.length=37::(dgS false 10 k++[100]):=List.drop_left
 have he:(p++(([37]++dgS false 10 k)++[100])).drop (p.length + 1 + (dgS false 10 k).length + 1)=[]:=at_next (d_app (at_next hd))
 exact wr_c (cp_pre hp rfl (cp_no (i:=0) hd (take37 (R:=dgS false 10 k++[100]) (n2_app (n2_wd (some k)) (by decide))) (sp_k .no True.intro hk (at_next hd) (at_lt hd)) (.inl rfl) rfl (Nat.zero_le _) (cs_w .d _ _) (.no (by decide)) (cp_end he fun s6 s7 s8 s9 s10 s11 s12 s13=>cs_end (q:=.exn sUna (fmtCode kUna)) rfl)))
theorem ws8:Wr n t [37,50,36,100,32,37,50,36,120] 0 sPol kPol :=
 wr_c (cp_pl (j:=1) (a2:=4) rfl rfl (ph_spec (n:=n + 1) (hd:=.pl 2) (wd:=none) (z:=.e) (c:=100) (r:=[32,37,50,36,120]) (a:=1) rfl (by decide) (by decide:2 < 1000) (fun _ h=>nomatch h) (Kd.w .d).ok.2.1 (Kd.w .d).ok.1 (by decide)) (.inl rfl) (by decide) rfl (Nat.zero_le _) (cs_w .d _ _) (.no (by decide)) (cp_lit rfl (by decide)
  (cp_pl (j:=1) (a2:=9) rfl rfl (ph_spec (n:=n + 1) (hd:=.pl 2) (wd:=none) (z:=.e) (c:=120) (r:=[]) (a:=6) rfl (by decide) (by decide:2 < 1000) (fun _ h=>nomatch h) (Kd.w .x).ok.2.1 (Kd.w .x).ok.1 (by decide)) (.inr rfl) (by decide) rfl (Nat.le_add_left 1 _) (cs_w .x _ _) (.no (by decide)) (cp_end rfl fun s6 s7 s8 s9 s10 s11 s12 s13=>cs_end (q:=.exn sPol (fmtCode kPol)) rfl))))
theorem ws9 (hp:PreS p) (hk:k < 1000):Wr n t (p++(([37,51,36]++dgS false 10 k)++[100])) 2 sBey sBeyK:=by
 have hd:(p++(([37,51,36]++dgS false 10 k)++[100])).drop p.length=37::51::36::(dgS false 10 k++[100]):=List.drop_left
 exact wr_c (cp_pre hp rfl (cp_x hd fun s7 s8 s9 s10 s11 s12 s13=>k_pre hd rfl (sp_k (.pl 3) (by decide:3 < 1000) hk (at_next hd) (at_lt hd)) (g_t rfl rfl (g_asg (e_f rfl rfl rfl) (g_if0 rfl rfl (g_asg rfl (g_it rfl rfl (g_asg rfl (g_asg rfl (g_done rfl))) (g_t rfl rfl (g_t rfl rfl (g_raise rfl rfl))))))))))
theorem ws10:Wr n t [37,48,36,100] 0 sBey sBeyK :=
 wr_c (cp_x rfl fun s7 s8 s9 s10 s11 s12 s13=>k_pre rfl rfl (ph_spec (n:=n + 1) (hd:=.pl 0) (wd:=none) (z:=.e) (c:=100) (r:=[]) (a:=1) rfl (by decide) (by decide:0 < 1000) (fun _ h=>nomatch h) (Kd.w .d).ok.2.1 (Kd.w .d).ok.1 (by decide)) (g_t rfl rfl (g_asg (e_f rfl rfl rfl) (g_if0 rfl rfl (g_asg rfl (g_it rfl rfl (g_asg rfl (g_asg rfl (g_done rfl))) (g_t rfl rfl (g_t rfl rfl (g_raise rfl rfl)))))))))
end
end Mine
end
section
set_option tactic.hygienic false
open PySem
namespace Mine
section
variable {n:Nat} {f t pre p:Tx} {c k:Nat} {z:Sz} {N:Int} {m:Nat}
theorem smN:∀ q:Nat,q < 17→smallI (q:Int)=true:=by decide +kernel
theorem ws11 (hk:k < 1000):Wr n ([45]++dgS false 10 k) [37,108,108,117] 0 sUsc kUns∨k=0:=by
 by_cases h0:k=0
 ·exact .inr h0
 refine .inl ?_
 have K:=(Kd.w .u).ok
 have hc:Ph (n + 7) 199 [.str [37,108,108,117],.int 0]=.ok (.int 1):=ph_check (cp_no (i:=0) (a2:=4) rfl rfl (ph_spec (n:=n + 1) (hd:=.no) (wd:=none) (z:=.ll) (c:=117) (r:=[]) (a:=1) rfl (by decide) True.intro (fun _ h=>nomatch h) K.2.1 K.1 (by decide)) (.inl rfl) rfl (Nat.zero_le _) (cs_w .u _ _) (.no (by decide)) (cp_end rfl fun s6 s7 s8 s9 s10 s11 s12 s13=>cs_end (q:=.ok .none) rfl)) rfl
 have hv:dv 10 (dgS false 10 k)=(k:Int):=dv_dgS (b:=10) (by decide) (by decide) false (Nat.lt_trans hk (by decide))
 have hD:∀ d ∈ dgS false 10 k,isD 10 d=true:=dgS_D (b:=10) (by decide) (by decide)
 have hne:=dgS_ne false 10 k
 generalize dgS false 10 k=ds at hv hD hne ⊢
 have hl:0 < ([45]++ds).length:=Nat.succ_pos _
 have hf:Ph (n + 5) 234 [.int (sgn (Sg.neg .mi) (dv 10 (ds))),.bool (So.isU .u),.str [98,105,103]]=.exn sUsc (fmtCode kUns):=by
  rw [hv]
  refine fit_big.trans ?_
  rw [show decide (sgn (Sg.neg .mi) (k:Int) < 0)=true from dlt (by show -(k:Int) < 0; lia)]
  rfl
 have hns:NoS (ds):=by
  cases hd:ds with
  | nil=>exact absurd hd hne
  | cons d x =>
   have:=hD d (hd ▸ .head _)
   exact ⟨d,x,rfl,fun e=>by subst e; exact Bool.false_ne_true ((show false=isD 10 43 by decide +kernel).trans this),fun e=>by subst e; exact Bool.false_ne_true ((show false=isD 10 45 by decide +kernel).trans this)⟩
 have hB:BaseR ([45]++ds) (0 + (Sg.t .mi).length) ([45]++ds).length .u 10 1:=fun n=>by
  refine cps fun Γ₀ fi₀=>?_
  obtain ⟨d,x,hd,_,_⟩:=hns
  refine fi₀ ?_
  refine base_no (s:=.u) (c:=d) (r:=x) (by show ((45::ds).drop 1)=_; rw [← hd]; rfl) (by rw [hd]; show 0 + 1 < x.length + 1 + 1; lia) ?_
  rw [hd]
  cases x with
  | nil=>exact .inl (Nat.le_of_ble_eq_true rfl)
  | cons e y =>
   have hE:=hD e (hd ▸ .tail _ (.head _))
   exact .inr ⟨d,e,y,rfl,fun q=>by subst q; exact Bool.false_ne_true ((show false=isD 10 120 by decide +kernel).trans hE),fun q=>by subst q; exact Bool.false_ne_true ((show false=isD 10 88 by decide +kernel).trans hE)⟩
 have h1:=@ph_rw (n + 2) ([45]++ds) ds [] ds 1 0 ([45]++ds).length 10 [98,105,103] .u .mi rfl hns
 have hrw:=h1 hB (List.append_nil _).symm hne hD (Nat.le_of_eq (Nat.add_comm 1 _)) (.inl (Nat.add_comm 1 _)) (smN 10 (by decide)) hf
 have hrx:RF n ([45]++ds) 0 117 [] (-1) [98,105,103] true (.exn sUsc (fmtCode kUns)):=rf_of (last0 (by decide)) (rf_w (s:=.u) hrw)
 have hsk:SkR ([45]++ds) 117 0 0:=.sk [] ([45]++ds) (by decide) (by decide) rfl (fun _ h=>nomatch h) (.inr ⟨45,_,rfl,rfl⟩)
 have hsp:Ph (n + 7) 171 [.str [37,108,108,117],.int (0 + 1:Nat)]=.ok (.tup [.int (-1),.bool true,.int (-1),.str [98,105,103],.str [117],.int (4:Nat)]):=ph_spec (n:=n + 2) (hd:=.no) (wd:=none) (z:=.ll) (c:=117) (r:=[]) (a:=1) rfl (by decide) True.intro (fun _ h=>nomatch h) K.2.1 K.1 (by decide)
 have hgo:=sp_x (n:=n) (t:=[45]++ds) (f:=[37,108,108,117]) (cnt:=0) (vs:=[.none]) (a:=0) (p:=0) (iv:=0) (m:=0) (D:=[108,117]) rfl (by decide) hsp (.inl ⟨rfl,rfl⟩:(decide ((0:Int) < -1)=false∧0=0)∨_) (.no (by decide)) (by decide) hsk hl hrx
 exact ph_scan3 hc (by decide) hgo
structure Wc where
 f:Tx
 cnt:Int
 t:Tx
 k:Tx
noncomputable def Wc.av (x:Wc):AV:=.tup [.str x.f,.int x.cnt,.str x.t,.str x.k]
def Wc.Ok (n:Nat) (t:Tx) (x:Wc):Prop:=((x.cnt=0∨x.cnt=1)∧Wr n t x.f x.cnt x.t x.k)∨(x.cnt=2∧∀ p,PreS p→Wr n t (p++x.f) x.cnt x.t x.k)
noncomputable def wcs (z:Sz) (c sg:Nat) (p:Tx) (k:Nat):List Wc :=
 [⟨([37]++z.s)++[sg],0,(sChr++[sg])++[34],kBad⟩,⟨([37]++dgS false 10 k)++[99],0,sWid,kWid⟩,⟨(([37]++z.s)++[c])++[97,98,93],0,(sSiz++[c])++sCon,kSiz⟩,⟨([37,91]++p)++[97,98],0,sBra,kBra⟩,⟨[37,100,32,37,49,36,100],0,sMix,sMixK⟩,⟨[37,100,32,37,42,100,32,37,100],1,sDif,kFew⟩,
  ⟨([37]++dgS false 10 k)++[100],2,sUna,kUna⟩,⟨[37,50,36,100,32,37,50,36,120],0,sPol,kPol⟩,⟨([37,51,36]++dgS false 10 k)++[100],2,sBey,sBeyK⟩,⟨[37,48,36,100],0,sBey,sBeyK⟩,⟨[37,108,108,117],0,sUsc,kUns⟩]
theorem wcs_ok {sg w:Nat} (hz:z ∈ sz7) (hc:c ∈ so4) (hs:sg ∈ badL) (hp:SetP p) (hk:k < 1000) (hw:w < 1000) (hw0:w≠0):∀ x ∈ wcs z c sg p k,x.Ok n ([45]++dgS false 10 w) :=
 all_c (.inl ⟨.inl rfl,ws1 hs z⟩) (all_c (.inl ⟨.inl rfl,ws2 hk⟩) (all_c (.inl ⟨.inl rfl,ws3 hc hz⟩) (all_c (.inl ⟨.inl rfl,ws4 hp⟩) (all_c (.inl ⟨.inl rfl,ws5⟩) (all_c (.inl ⟨.inr rfl,ws6⟩) (all_c (.inr ⟨rfl,fun p hp=>ws7 hp hk⟩) (all_c (.inl ⟨.inl rfl,ws8⟩) (all_c (.inr ⟨rfl,fun p hp=>ws9 hp hk⟩) (all_c (.inl ⟨.inl rfl,ws10⟩) (all_c (.inl ⟨.inl rfl,(ws11 hw).resolve_right hw0⟩) all_n))))))))))
theorem wcs_len {sg:Nat} (hp:p.length≤2):∀ x ∈ wcs z c sg p k,x.f.length≤200:=by
 have Z:=z.len
 have D:=dgS_len false 10 k
 have L:=fun {s t:Tx} {a b:Nat} (h:s.length≤a) (h2:t.length≤b)=>len_k h h2 (Nat.le_refl (a + b))
 have one:∀ d:Nat,[d].length≤1:=fun d=>Nat.le_refl 1
 have w:=fun {s:Tx} {a:Nat} (h:s.length≤a) (h2:a≤200)=>Nat.le_trans h h2
 exact all_c (w (L (L (one 37) Z) (one sg)) (by decide)) (all_c (w (L (L (one 37) D) (one 99)) (by decide)) (all_c (w (L (L (L (one 37) Z) (one c)) (b:=3) (by decide)) (by decide)) (all_c (w (L (L (a:=2) (by decide) hp) (b:=2) (by decide)) (by decide)) (all_c (by decide) (all_c (by decide)
  (all_c (w (L (L (one 37) D) (one 100)) (by decide)) (all_c (by decide) (all_c (w (L (L (a:=3) (by decide) D) (one 100)) (by decide)) (all_c (by decide) (all_c (by decide) all_n))))))))))
noncomputable def setL4:List Tx:=[[],[94],[93],[94,93]]
theorem set_in:∀ p ∈ setL4,SetP p∧p.length≤2:=all_c ⟨.inl rfl,by decide⟩ (all_c ⟨.inr (.inl rfl),by decide⟩ (all_c ⟨.inr (.inr (.inl rfl)),by decide⟩ (all_c ⟨.inr (.inr (.inr rfl)),by decide⟩ all_n)))
set_option maxHeartbeats 2000000 in
theorem ph_wcs (h:Nat) {w:Nat} (hw:w < 1000) (hw0:w≠0):∃ L:List Wc,(∀ x ∈ L,x.Ok h ([45]++dgS false 10 w)∧x.f.length≤200)∧Ph (n + 1) 463 [.int N]=.ok (.lst (L.map Wc.av)):=by
 refine cps fun Γ₀ fi₀=>?_
 obtain ⟨m1,l1,e1⟩:=modn N 7 (by decide)
 obtain ⟨z,h1,f1⟩:=ixm_t (g:=fun z:Sz=>AV.str z.s) (l:=sz7) (m:=m1) l1
 obtain ⟨m2,l2,e2⟩:=modn (N / 7) 4 (by decide)
 obtain ⟨c,h2,f2⟩:=ixm_s (g:=fun c:Nat=>c) (l:=so4) (m:=m2) l2
 obtain ⟨m3,l3,e3⟩:=modn (N / 28) 6 (by decide)
 obtain ⟨sg,h3,f3⟩:=ixm_s (g:=fun c:Nat=>c) (l:=badL) (m:=m3) l3
 obtain ⟨m4,l4,e4⟩:=modn (N / 3) 12 (by decide)
 obtain ⟨m5,l5,e5⟩:=modn N 4 (by decide)
 obtain ⟨p,h5,f5⟩:=ixm_t (g:=AV.str) (l:=setL4) (m:=m5) l5
 refine fi₀ ?_
 have Z:=z.len
 have D:=dgS_len false 10 (m4 + 1)
 have P:=set_in p h5
 have sm:biop .str [.int (1 + (m4:Int))]=.ok (.str (dgS false 10 (m4 + 1))):=by
  rw [show (1 + (m4:Int))=((m4 + 1:Nat):Int) by lia]
  exact str_nat (Nat.lt_trans (by lia:m4 + 1 < 60) (by decide +kernel))
 have a1:=add_k (s:=[37]) (t:=z.s) (by decide) (by lia)
 have k1:([37]++z.s).length≤3:=len_k (a:=1) (by decide) Z (by decide)
 have A:=fun c:Nat=>add_k (s:=[37]++z.s) (t:=[c]) (by lia) (Nat.le_of_ble_eq_true rfl)
 have k2:(([37]++z.s)++[c]).length≤4:=len_k k1 (b:=1) (Nat.le_refl 1) (by decide)
 have a3:=add_k (s:=[37]) (t:=dgS false 10 (m4 + 1)) (by decide) (by lia)
 have k3:([37]++dgS false 10 (m4 + 1)).length≤101:=len_k (a:=1) (by decide) D (by decide)
 have a4:=add_k (s:=[37,51,36]) (t:=dgS false 10 (m4 + 1)) (by decide) (by lia)
 have k4:([37,51,36]++dgS false 10 (m4 + 1)).length≤103:=len_k (a:=3) (by decide) D (by decide)
 have a5:=add_k (s:=[37,91]) (t:=p) (by decide) (by lia)
 have k5:([37,91]++p).length≤4:=len_k (a:=2) (by decide) P.2 (by decide)
 have tw:∀ {f t k:Tx} {i:Int} {σ:Env'} {e1 e2 e3 e4:ME},ev n e1 σ=.ok (.str f)→ev n e2 σ=.ok (.int i)→ev n e3 σ=.ok (.str t)→ev n e4 σ=.ok (.str k)→ev n (.tup [e1,e2,e3,e4]) σ=.ok (.tup [.str f,.int i,.str t,.str k]):=fun h1 h2 h3 h4=>e_tup (el_cons h1 (el_cons h2 (el_cons h3 (el_cons h4 rfl)))) rfl
 refine ⟨wcs z c sg p (m4 + 1),fun x hx=>⟨wcs_ok h1 h2 h3 P.1 (by lia) hw hw0 x hx,wcs_len P.2 x hx⟩,call_s (d:=d_law_wrong_scans) [.val (.int N),.u,.u,.u,.u,.u] rfl rfl rfl ?_⟩
 refine g_asg (e_idx (x:=.tup (sz7.map fun z:Sz=>AV.str z.s)) rfl (e_bin rfl rfl e1) f1) ?_
 refine g_asg (e_idx (x:=.str (so4.map fun c:Nat=>c)) rfl (e_bin (e_bin rfl rfl (z:=.int (N / 7)) rfl) rfl e2) f2) ?_
 refine g_asg (e_idx (x:=.str (badL.map fun c:Nat=>c)) rfl (e_bin (e_bin rfl rfl (z:=.int (N / 28)) rfl) rfl e3) f3) ?_
 refine g_asg (e_bi (el_cons (e_bin rfl (e_bin (e_bin rfl rfl (z:=.int (N / 3)) rfl) rfl e4) rfl) rfl) sm) (g_asg rfl (g_ret (e_lst ?_ rfl) rfl))
 refine el_cons (tw (e_bin (e_bin rfl rfl a1) rfl (A sg)) rfl rfl rfl) (el_cons (tw (e_bin (e_bin rfl rfl a3) rfl (add_k (t:=[99]) (by lia) (by decide))) rfl rfl rfl) (el_cons (tw (e_bin (e_bin (e_bin rfl rfl a1) rfl (A c)) rfl (add_k (t:=[97,98,93]) (by lia) (by decide))) rfl rfl rfl) ?_))
 refine el_cons (tw (e_bin (e_bin rfl (e_idx (x:=.tup (setL4.map AV.str)) rfl (e_bin rfl rfl e5) f5) a5) rfl (add_k (t:=[97,98]) (by lia) (by decide))) rfl rfl rfl) (el_cons (tw rfl rfl rfl rfl) (el_cons (tw rfl rfl rfl rfl) (el_cons (tw (e_bin (e_bin rfl rfl a3) rfl (add_k (t:=[100]) (by lia) (by decide))) rfl rfl rfl) (el_cons (tw rfl rfl rfl rfl) ?_))))
 exact el_cons (tw (e_bin (e_bin rfl rfl a4) rfl (add_k (t:=[100]) (by lia) (by decide))) rfl rfl rfl) (el_cons (tw rfl rfl rfl rfl) (el_cons (tw rfl rfl rfl rfl) rfl))
theorem g_tryAx {i j:Nat} {e:ME} {σ:Env'} {r:List MS} {F:Env'→Out} {o:Out} {tt:Tx} {cc:List AV} (h1:ev n e σ=.exn tt cc) (h:Go n r ((σ.set i (.val (caught tt cc))).set j .u) F o):Go n (.tryA i e j::r) σ F o:=g_nx (by show tryAO (ev n e σ) i j σ=_; rw [h1]; rfl) h
noncomputable def wcB:List MS:=loB (c_law.drop 5)
theorem fr_ws {s0 s1 s4 s5:SV} {w:Nat} {F:Env'→Out} {o:Out} (hw:biop .str [.int (5 + N % 7)]=.ok (.str (dgS false 10 w))):∀ (L:List Wc) (s2 s3 s7 s8 s9 s10:SV),(∀ x ∈ L,x.Ok n ([45]++dgS false 10 w)∧x.f.length≤200)→(∀ t2 t3 t7 t8 t9 t10,F [s0,s1,t2,t3,s4,s5,.val (.int N),t7,t8,t9,t10]=o)→Fr (n + 8) .lst [2,7,3,8] wcB (L.map Wc.av) [s0,s1,s2,s3,s4,s5,.val (.int N),s7,s8,s9,s10] F o
 | [],s2,s3,s7,s8,s9,s10,_,h=>h _ _ _ _ _ _
 | x::L,s2,s3,s7,s8,s9,s10,hL,h=>by
  have hx:=(hL x (.head _)).1
  have hlen:=(hL x (.head _)).2
  have dl:=dgS_len false 10 w
  refine cps fun Γ₀ fi₀=>?_
  obtain ⟨m,lm,em⟩:=modn N 3 (by decide)
  have hp:∃ p,ev (n + 8) (.idx (.tup [(.c (.str [])),(.c (.str [37,37])),(.c (.str [32]))]) (.bin .mul (.bin .fmod (.v 6) (.c (.int 3))) (.bin .fdiv (.v 7) (.c (.int 2))))) [s0,s1,.val (.str x.f),.val (.str x.t),s4,s5,.val (.int N),.val (.int x.cnt),.val (.str x.k),s9,s10]=.ok (.str p)∧p.length≤2∧Wr n ([45]++dgS false 10 w) (p++x.f) x.cnt x.t x.k:=by
   rcases hx with ⟨hc,hx⟩ | ⟨hc,hx⟩
   ·refine ⟨[],e_idx (x:=.tup [.str [],.str [37,37],.str [32]]) rfl (e_bin (e_bin rfl rfl em) (y:=.int 0) ?_ (z:=.int 0) ((mul_q rfl).trans (congrArg (fun z=>R.ok (AV.int z)) (Int.mul_zero _)))) rfl,by decide,hx⟩
    rcases hc with hc | hc <;> rw [hc] <;> rfl
   ·have idx:∀ m:Nat,m < 3→∃ p,idxop (.tup [.str [],.str [37,37],.str [32]]) (.int m)=.ok (.str p)∧p.length≤2∧PreS p:=fun m hm=>match m,hm with
     | 0,_=>⟨[],rfl,by decide,.inl rfl⟩
     | 1,_=>⟨[37,37],rfl,by decide,.inr (.inl rfl)⟩
     | 2,_=>⟨[32],rfl,by decide,.inr (.inr rfl)⟩
    obtain ⟨p,h1,h2,h3⟩:=idx m lm
    refine ⟨p,e_idx (x:=.tup [.str [],.str [37,37],.str [32]]) rfl (e_bin (e_bin rfl rfl em) (y:=.int 1) ?_ (z:=.int m) ((mul_q rfl).trans (congrArg (fun z=>R.ok (AV.int z)) (Int.mul_one _)))) h1,h2,hx p h3⟩
    rw [hc]
    rfl
  obtain ⟨p,h1,h2,h3⟩:=hp
  refine fi₀ ?_
  refine f_next (σ1:=[s0,s1,.val (.str x.f),.val (.str x.t),s4,s5,.val (.int N),.val (.int x.cnt),.val (.str x.k),s9,s10]) (c:=.next [s0,s1,.val (.str x.f),.val (.str x.t),s4,s5,.val (.int N),.val (.int x.cnt),.val (.str x.k),.val (caught x.t (fmtCode x.k)),.u]) (fun F=>rfl) (g_tryAx (tt:=x.t) (cc:=fmtCode x.k) (e_callr (el_cons (e_bin rfl (e_bi (el_cons (e_bin rfl (e_bin rfl rfl (limT rfl)) rfl) rfl) hw) (add_k (s:=[45]) (by decide) (by lia))) (el_cons (e_bin h1 rfl (add_k (s:=p) (by lia) (by lia))) (el_cons rfl rfl))) h3) (g_if0 (e_cmp rfl rfl rfl) (nf (?_:AV.eqv (.tup [.int 1,.str x.t,.tup (fmtCode x.k)]) (.tup [.int 1,.str x.t,.tup (fmtCode x.k)])=true)) (g_done rfl))) (fun F=>rfl) (fr_ws hw L _ _ _ _ _ _ (fun y hy=>hL y (.tail _ hy)) h)
  refine eq3 ?_
  show ((sTCL == sTCL) && ((sFORMAT == sFORMAT) && ((x.k == x.k) && true)))=true
  rw [beq_self_eq_true x.k]
  rfl
end
end Mine
end
section
set_option tactic.hygienic false
open PySem
namespace Mine
structure Dk where
 wd:Option Nat
 z:Sz
 c:Nat
 S:Tx
 mb:Tx
namespace Dk
noncomputable def t (d:Dk) (h:Hd):Tx:=h.t++(wT d.wd++(d.z.s++d.c::d.S))
structure Ok (d:Dk):Prop where
 w:∀ k,d.wd=some k→k < 1000
 P:Pl d.c
 Z:NoSz d.c
 n:d.c≠36∧d.c≠37
 cs:∀ n,Ph (n + 1) 185 [.str [d.c],.int (wV d.wd),.str d.z.nm]=.ok .none
 st:∀ (f:Tx) (a:Nat) (r:Tx),f.drop a=d.S++r→SetR f d.c a d.mb (a + d.S.length)
end Dk
section
variable {n:Nat} {t f r:Tx} {a p p2 iv iw m i:Nat} {cnt mo ix:Int} {vs:List AV} {o:Out} {so:Tx} {d:Dk} {hd:Hd} {ks:List Nat} {sh:Bool} {v:AV}
noncomputable def Dk.a1 (d:Dk) (hd:Hd) (a:Nat):Nat:=a + 1 + hd.t.length + (wT d.wd).length + d.z.s.length + 1
theorem dk_spec (D:d.Ok) (hh:hd.Ok) (h:f.drop a=37::(d.t hd++r)):Ph (n + 5) 171 [.str f,.int (a + 1:Nat)]=.ok (.tup [.int hd.v,.bool hd.kept,.int (wV d.wd),.str d.z.nm,.str [d.c],.int (d.a1 hd a)]) :=
 ph_spec (r:=d.S++r) ((at_next h).trans (by unfold Dk.t; rw [List.append_assoc,List.append_assoc,List.append_assoc]; rfl)) (at_lt h) hh D.w D.P D.Z D.n.1
theorem dk_len:a + 1 + (d.t hd).length=d.a1 hd a + d.S.length:=by
 unfold Dk.t Dk.a1
 rw [List.length_append,List.length_append,List.length_append,List.length_cons]
 lia
theorem dk_set (D:d.Ok) (h:f.drop a=37::(d.t hd++r)):SetR f d.c (d.a1 hd a) d.mb (a + 1 + (d.t hd).length):=by
 rw [dk_len]
 refine D.st f _ r ?_
 have h1:f.drop (a + 1)=hd.t++(wT d.wd++(d.z.s++d.c::(d.S++r))):=(at_next h).trans (by unfold Dk.t; rw [List.append_assoc,List.append_assoc,List.append_assoc]; rfl)
 exact at_next (d_app (d_app (d_app h1)))
theorem dk_hd (D:d.Ok):∃ d0 u,d.t hd=d0::u∧d0≠37:=by
 have dig:∀ (k:Nat) (R:Tx),∃ d0 u,dgS false 10 k++R=d0::u∧d0≠37:=fun k R=>by
  have h0:=dgS_ne false 10 k
  have hD:∀ x ∈ dgS false 10 k,isD 10 x=true:=dgS_D (b:=10) (by decide) (by decide)
  cases hk:dgS false 10 k with
  | nil=>exact absurd hk h0
  | cons x y=>exact ⟨x,y++R,rfl,fun e=>by
    have:=hD x (hk ▸ .head _)
    subst e
    exact Bool.false_ne_true ((show false=isD 10 37 by decide +kernel).trans this)⟩
 unfold Dk.t
 cases hd with
 | star=>exact ⟨42,_,rfl,by decide⟩
 | pl k =>
  obtain ⟨d0,u,e,h⟩:=dig k ([36]++(wT d.wd++(d.z.s++d.c::d.S)))
  exact ⟨d0,u,(List.append_assoc _ _ _).trans e,h⟩
 | no =>
  cases hw:d.wd with
  | some k=>exact dig k _
  | none =>
   have h2:=d.z.no2
   show ∃ d0 u,d.z.s++d.c::d.S=d0::u∧_
   cases hz:d.z.s with
   | nil=>exact ⟨_,_,rfl,D.n.2⟩
   | cons x y=>exact ⟨x,_,rfl,(h2 x (hz ▸ .head _)).2⟩
theorem dk_no37 (D:d.Ok):AV.eqv (.str ((d.t hd++r).take 1)) (.str [37])=false:=by
 obtain ⟨d0,u,e,h⟩:=dk_hd (hd:=hd) D
 rw [e]
 exact ne1 h
theorem dk_no (D:d.Ok) (h:f.drop a=37::(d.t .no++r)) (hso:so=[]∨so=[37]) (hc:(decide (0 < cnt) && decide (cnt≤(i:Int)))=false) (hi:i ∉ ks) (hl:ks.length≤1000) (k:CP n f cnt (toldL (ks++[i])) [37] mo (i + 1:Nat) (a + 1 + (d.t .no).length) o):CP n f cnt (toldL ks) so mo i a o :=
 cp_no h (dk_no37 D) (dk_spec (n:=n + 1) (hd:=.no) D True.intro h) hso hc (by unfold toldL; rw [List.length_map]; exact hl) (D.cs _) (dk_set D h) (by rw [put_out hi]; exact k)
theorem dk_pl (D:d.Ok) (h:f.drop a=37::(d.t (.pl (i + 1))++r)) (hso:so=[]∨so=[36]) (hj:i < 900) (hc:(decide (0 < cnt) && decide (cnt≤(i:Int)))=false) (hi:i ∉ ks) (hl:ks.length≤1000) (k:CP n f cnt (toldL (ks++[i])) [36] (max mo (i + 1:Nat)) (i + 1:Nat) (a + 1 + (d.t (.pl (i + 1))).length) o):CP n f cnt (toldL ks) so mo ix a o :=
 cp_pl h (dk_no37 D) (dk_spec (n:=n + 1) (hd:=.pl (i + 1)) D (by show i + 1 < 1000; lia) h) hso (by lia) hc (by unfold toldL; rw [List.length_map]; exact hl) (D.cs _) (dk_set D h) (by rw [put_out hi]; exact k)
def HdR (hd:Hd) (iv iw:Nat):Prop:=(hd=.no∧iw=iv)∨(hd=.pl (iw + 1)∧iw < 900)
theorem HdR.ok (h:HdR hd iv iw):hd.Ok∧hd.kept=true∧((decide (0 < hd.v)=false∧iw=iv)∨(hd.v=(iw + 1:Nat))):=by
 rcases h with ⟨rfl,rfl⟩ | ⟨rfl,h⟩
 ·exact ⟨True.intro,rfl,.inl ⟨rfl,rfl⟩⟩
 ·exact ⟨by show iw + 1 < 1000; lia,rfl,.inr rfl⟩
theorem dk_kept (D:d.Ok) (H:HdR hd iv iw) (h:f.drop a=37::(d.t hd++r)) (V:Rd n t p d.c d.mb (wV d.wd) d.z.nm true v p2) (hl:iw < vs.length) (k:SP n t f cnt (vs.set iw v) (a + 1 + (d.t hd).length) p2 (iw + 1) (m + 1) o):SP n t f cnt vs a p iv m o:=by
 obtain ⟨d0,u,e,h0⟩:=dk_hd (hd:=hd) D
 have hs:=dk_spec (n:=n + 2) D H.ok.1 h
 rw [H.ok.2.1] at hs
 exact sp_kept (D:=u++r) (h.trans (by rw [e]; rfl)) h0 hs H.ok.2.2 (dk_set D h) V hl k
theorem dk_star (D:d.Ok) (h:f.drop a=37::(d.t .star++r)) (V:Rd n t p d.c d.mb (wV d.wd) d.z.nm false v p2) (k:SP n t f cnt vs (a + 1 + (d.t .star).length) p2 iv (m + 1) o):SP n t f cnt vs a p iv m o:=by
 obtain ⟨d0,u,e,h0⟩:=dk_hd (hd:=.star) D
 exact sp_star (D:=u++r) (h.trans (by rw [e]; rfl)) h0 (dk_spec (n:=n + 2) (hd:=.star) D True.intro h) (dk_set D h) V k
theorem dk_brk (D:d.Ok) (hh:hd.Ok) (H:(decide (0 < hd.v)=false∧iw=iv)∨(hd.v=(iw + 1:Nat))) (h:f.drop a=37::(d.t hd++r)) (V:Rb n t p d.c d.mb (wV d.wd) d.z.nm hd.kept sh):SP n t f cnt vs a p iv m (.ok (.ret (outS sh m vs))):=by
 obtain ⟨d0,u,e,h0⟩:=dk_hd (hd:=hd) D
 exact sp_brk (D:=u++r) (h.trans (by rw [e]; rfl)) h0 (dk_spec (n:=n + 2) D hh h) H (dk_set D h) V
end
end Mine
end
section
set_option tactic.hygienic false
open PySem
namespace Mine
structure Pc where
 k:Nat
 sp:Tx
 tl:Tx
 sm:Tx
 vl:Tx
 kp:Bool
 ct:Nat
 wr:Bool
namespace Pc
noncomputable def ft (p:Pc) (hd:Hd):Tx:=cond p.kp (37::(hd.t++p.sp)) []++p.tl
noncomputable def val (p:Pc) (q:Nat):Tx:=cond (Nat.beq p.k 2) (dgS false 10 q) p.vl
end Pc
def StE (p:Pc) (t:Tx) (q:Nat) (sh:Bool):Prop:=(t.drop q=[]∧sh=true∧p.k≠2)∨(t.drop q=[126]∧sh=false∧p.wr=true)
structure NOk (p:Pc):Prop where
 kp:p.kp=false
 sp:p.sp=[]
 k2:p.k≠2
 ck:∀ {n:Nat} {f:Tx} {a:Nat} {r:Tx} {td:List (Int × Int)} {so:Tx} {mo ix:Int} {o:Out},f.drop a=p.tl++r→CP n f 0 td so mo ix (a + p.tl.length) o→CP n f 0 td so mo ix a o
 tk:∀ {n:Nat} {t f:Tx} {cnt:Int} {vs:List AV} {a q iv m:Nat} {tr r:Tx} {o:Out},f.drop a=p.tl++r→t.drop q=p.sm++tr→SP n t f cnt vs (a + p.tl.length) (q + p.sm.length) iv (m + p.ct) o→SP n t f cnt vs a q iv m o
 st:∀ {n:Nat} {t f:Tx} {cnt:Int} {vs:List AV} {a q iv m:Nat} {r:Tx} {sh:Bool},f.drop a=p.tl++r→StE p t q sh→SP n t f cnt vs a q iv m (.ok (.ret (outS sh m vs)))
structure KOk (p:Pc) (d:Dk):Prop where
 kp:p.kp=true
 ct:p.ct=1
 D:d.Ok
 sp:∀ hd:Hd,hd.t++p.sp=d.t hd
 ne:p.sp≠[]
 tl:∀ c ∈ p.tl,isBlank c=false∧c≠37
 tk:∀ {n:Nat} {t:Tx} {q:Nat} {tr:Tx},t.drop q=p.sm++tr→q≤1000→∃ sv,p.sm=sv++p.tl∧Rd n t q d.c d.mb (wV d.wd) d.z.nm true (.str (p.val q)) (q + sv.length)
 st:∀ {n:Nat} {t:Tx} {q:Nat} {sh:Bool},StE p t q sh→Rb n t q d.c d.mb (wV d.wd) d.z.nm true sh
section
variable {n:Nat} {t f r tr x:Tx} {a p q iv iw m i c w k:Nat} {cnt:Int} {vs:List AV} {o:Out} {sh:Bool} {d:Dk} {wd:Option Nat} {z:Sz}
theorem dkP (hw:∀ k,wd=some k→k < 1000) (P:Pl c) (Z:NoSz c) (h:c≠36∧c≠37) (cs:∀ n,Ph (n + 1) 185 [.str [c],.int (wV wd),.str z.nm]=.ok .none) (h91:c≠91):Dk.Ok ⟨wd,z,c,[],[]⟩:=⟨hw,P,Z,h,cs,fun f a r _=>.no h91⟩
theorem base_d:BaseR t a k .d 10 a:=fun n=>call_s (d:=d_read_base) [.val (.str t),.val (.int a),.val (.int k),.val (.str [100])] rfl rfl rfl (g_if0 (e_andf (e_cmp rfl rfl rfl) rfl) rfl (g_if0 (e_andf (e_cmp rfl rfl rfl) rfl) rfl (g_if0 (e_cmp rfl rfl rfl) rfl (g_ret rfl rfl))))
theorem sk0 (h:t.drop p=c::r) (hc:isBlank c=false) {s:Nat} (h1:s≠99) (h2:s≠91):SkR t s p p:=.sk [] _ h1 h2 rfl (fun _ h=>nomatch h) (h ▸ .inr ⟨c,r,rfl,hc⟩)
theorem sk_e (h:t.drop p=[]) {s:Nat} (h1:s≠99) (h2:s≠91):SkR t s p p:=.sk [] _ h1 h2 rfl (fun _ h=>nomatch h) (h ▸ .inl rfl)
theorem fit_s {v:Int} (h:0≤v) (h2:v < 9223372036854775808):fitI false v=v:=by
 unfold fitI clamp cutM
 rw [decide_eq_true h,decide_eq_true (by lia:v < 18446744073709551616),Int.emod_eq_of_lt h (by lia),decide_eq_true (by lia:2 * v < 18446744073709551616)]
 show max (-9223372036854775808) (min v 9223372036854775807)=v
 lia
theorem fit_m {v:Int} (h:v < 0) (h2:-9223372036854775808≤v):fitI false v=v:=by
 unfold fitI clamp
 rw [decide_eq_false (by lia:¬ 0≤v)]
 show max (-9223372036854775808) (min v 9223372036854775807)=v
 lia
theorem sp_lits:∀ {y:Tx} {a q:Nat},f.drop a=y++r→t.drop q=y++tr→(∀ c ∈ y,isBlank c=false∧c≠37)→SP n t f cnt vs (a + y.length) (q + y.length) iv m o→SP n t f cnt vs a q iv m o
 | [],a,q,_,_,_,k=>k
 | c::y,a,q,h,ht,hy,k=>sp_lit (.ch c _ h (hy c (.head _)).1 (hy c (.head _)).2) ht (sp_lits (y:=y) (at_next h) (at_next ht) (fun d hd=>hy d (.tail _ hd)) (by rw [up rfl,up rfl]; exact k))
theorem stopR {p:Pc} {c:Nat} (h:StE p t q sh) (hc:c≠126):StopR c (t.drop q) sh:=by
 rcases h with ⟨h,hs,_⟩ | ⟨h,hs,_⟩
 ·exact .inl ⟨h,hs⟩
 ·exact .inr ⟨126,[],h,fun e=>hc e.symm,hs⟩
theorem num_of {ds:Tx} {sg:Sg} {s:So} {b L Q:Nat} {v:Int} {mb:Tx} (h:t.drop p=sg.t++r) (hr:NoS r) (hB:BaseR t (p + sg.t.length) L s Q b) (hd:t.drop b=ds++x) (h0:ds≠[]) (hD:∀ k ∈ ds,isD Q k=true) (hl:b + ds.length≤L) (he:b + ds.length=L∨∃ k u,x=k::u∧isD Q k=false) (hQ:Q < 17) (hv:fitI s.isU (sgn sg.neg (dv Q ds))=v) (hs:v.natAbs < 2 ^ 100) :
  Ph (n + 5) 262 [.str t,.int p,.int L,.str [s.c],.str mb,.str []]=.ok (.tup [.str (wrt false v),.int (b + ds.length:Nat)]):=by
 have h1:=@ph_rw n t r x ds b p L Q [] s sg h hr
 have h2:=h1 hB hd h0 hD hl he (smN Q hQ) (fit_e.trans (congrArg (fun z=>R.ok (AV.int z)) hv))
 refine (rf_w h2).trans ?_
 show R.bind (biop .str [.int v]) _=_
 rw [str_w hs]
 rfl
theorem end1 (h:t.drop q=[126]):t.length=q + 1:=by
 have:=at_all h
 exact this.symm
noncomputable def p1 (w:Nat) (ds:Tx) (sg:Sg):Pc:=⟨1,[],[37,42,100,59],(sg.t++ds)++[59],[],false,1,true⟩
theorem dk_d (hw:∀ k,wd=some k→k < 1000):Dk.Ok ⟨wd,.e,100,[],[]⟩:=dkP hw (Kd.w .d).ok.2.1 (Kd.w .d).ok.1 (by decide) (fun n=>cs_w .d _ _) (by decide)
theorem digNoS {ds:Tx} {Q:Nat} (h0:ds≠[]) (hD:∀ k ∈ ds,isD 10 k=true) (r:Tx):NoS (ds++r)∧∃ c u,ds++r=c::u∧isBlank c=false:=by
 cases ds with
 | nil=>exact absurd rfl h0
 | cons d y =>
  have:=hD d (.head _)
  have hn:∀ k,isD 10 k=false→d≠k:=fun k hk e=>by subst e; exact Bool.false_ne_true (hk.symm.trans this)
  refine ⟨⟨d,y++r,rfl,hn _ (by decide +kernel),hn _ (by decide +kernel)⟩,d,y++r,rfl,?_⟩
  show ([32,9,10,11,12,13].any fun k=>[k] == [d])=false
  have hb:∀ k,isD 10 k=false→([k] == [d])=false:=fun k hk=>beq_eq_false_iff_ne.mpr fun e=>hn k hk (List.head_eq_of_cons_eq e).symm
  simp only [List.any_cons,List.any_nil,hb 32 (by decide +kernel),hb 9 (by decide +kernel),hb 10 (by decide +kernel),hb 11 (by decide +kernel),hb 12 (by decide +kernel),hb 13 (by decide +kernel),Bool.or_false]
theorem So.no3 (s:So):s.c≠110∧s.c≠99∧s.c≠91:=by cases s <;> decide +kernel
theorem rb_d {p:Pc} {kp:Bool} (s:So) (hb:t.drop q=[126]→BaseR t q (q + 1) s 10 q) (h:StE p t q sh) (hw:wd≠some 0):Rb n t q s.c [] (wV wd) [] kp sh:=by
 rcases h with ⟨h,rfl,_⟩ | ⟨h,rfl,_⟩
 ·exact rb_short s.no3.1 (sk_e h s.no3.2.1 s.no3.2.2) h
 ·have hl:=end1 h
  have hL:min (lastV t q (wV wd)) t.length=((q + 1:Nat):Int):=by
   cases wd with
   | none=>rw [← hl]; exact last0 (by decide)
   | some k =>
    have hk:k≠0:=fun e=>hw (e ▸ rfl)
    refine (lastK (Nat.pos_of_ne_zero hk)).trans ?_
    rw [show min (q + k) t.length=q + 1 by lia]
  refine rb_none (p2:=q) s.no3.1 (sk0 h rfl s.no3.2.1 s.no3.2.2) (at_lt h) (rf_of hL ?_) ⟨true,s.nns,?_⟩
  ·have hn:=@ph_rwn (n + 2) t [126] [126] q q (q + 1) 10 [] s h ⟨126,[],rfl,by decide,by decide⟩ (hb h) h (Nat.le_succ q) (.inr ⟨126,[],rfl,by decide +kernel⟩)
   cases kp <;> exact rf_w (s:=s) hn
  ·show AV.eqv (.int q) (.int (lastV t q (wV wd)))=false
   refine nei fun e2=>?_
   unfold lastV at e2
   cases wd with
   | none=>rw [show decide (wV none≤0)=true from rfl] at e2; have:(q:Int)=t.length:=e2; lia
   | some k =>
    have hk:k≠0:=fun e=>hw (e ▸ rfl)
    rw [show decide (wV (some k)≤0)=false from dgt (by show ¬ (k:Int)≤0; lia)] at e2
    have:(q:Int)=q + k:=e2
    lia
end
end Mine
end
section
set_option tactic.hygienic false
open PySem
namespace Mine
section
variable {n:Nat} {t f r tr x:Tx} {a p q iv iw m i c w k:Nat} {cnt mo ix:Int} {vs:List AV} {o:Out} {sh:Bool} {d:Dk} {td:List (Int × Int)} {so:Tx}
theorem dk_cs (D:d.Ok) (h:f.drop a=37::(d.t .star++r)) (k:CP n f cnt td so mo ix (a + 1 + (d.t .star).length) o):CP n f cnt td so mo ix a o :=
 cp_star h (dk_no37 D) (dk_spec (n:=n + 1) (hd:=.star) D True.intro h) (D.cs _) (dk_set D h) k
noncomputable def dkD:Dk:=⟨none,.e,100,[],[]⟩
theorem dkD_ok:dkD.Ok:=dk_d fun _ h=>nomatch h
theorem sg_nb {ds:Tx} {sg:Sg} (h0:ds≠[]) (hD:∀ k ∈ ds,isD 10 k=true) (r:Tx):∃ c u,sg.t++(ds++r)=c::u∧isBlank c=false:=match sg with
 | .no=>(digNoS (Q:=10) h0 hD r).2
 | .pl=>⟨43,_,rfl,rfl⟩
 | .mi=>⟨45,_,rfl,rfl⟩
theorem ok1 {ds:Tx} {sg:Sg} {v:Int} (h0:ds≠[]) (hD:∀ k ∈ ds,isD 10 k=true) (hv:fitI false (sgn sg.neg (dv 10 ds))=v) (hs:v.natAbs < 2 ^ 100):NOk (p1 0 ds sg) where
 kp:=rfl
 sp:=rfl
 k2:=by show 1≠2; decide
 ck:=fun {n f a r td so mo ix o} h k=>dk_cs (r:=59::r) dkD_ok h (cp_lit (c:=59) (r:=r) (at_next (at_next (at_next h))) (by decide) k)
 tk:=fun {n t f cnt vs a q iv m tr r o} h ht k=>by
  have ht2:t.drop q=sg.t++(ds++59::tr):=by rw [ht]; show ((sg.t++ds)++[59])++tr=_; rw [List.append_assoc,List.append_assoc]; rfl
  have hq:=d_lt (x:=sg.t++ds) (u:=59) (r:=tr) (ht2.trans (List.append_assoc _ _ _).symm)
  obtain ⟨c,u,e,hc⟩:=sg_nb (sg:=sg) h0 hD (59::tr)
  have hb:t.drop (q + sg.t.length)=ds++59::tr:=d_app ht2
  have h59:t.drop (q + sg.t.length + ds.length)=59::tr:=d_app hb
  have N:=@num_of (n + 2) t (ds++59::tr) (59::tr) q ds sg .d (q + sg.t.length) t.length 10 v [] ht2 (digNoS (Q:=10) h0 hD _).1 base_d
  have hN:=N hb h0 hD (Nat.le_of_lt (at_lt h59)) (.inr ⟨59,tr,rfl,by decide +kernel⟩) (by decide) hv hs
  refine dk_star (d:=dkD) (r:=59::r) (p2:=q + sg.t.length + ds.length) dkD_ok h (rd_f (v:=.str (wrt false v)) (by decide) (sk0 (ht2.trans e) hc (by decide) (by decide)) hq (rf_of (last0 (by decide)) hN) rfl) ?_
  have el:q + (p1 0 ds sg).sm.length=q + sg.t.length + ds.length + 1:=by show q + ((sg.t++ds)++[59]).length=_; rw [List.length_append,List.length_append]; show _ + (_ + _ + 1)=_; lia
  rw [el] at k
  exact sp_lit (.ch 59 r (at_next (at_next (at_next h))) rfl (by decide)) h59 k
 st:=fun {n t f cnt vs a q iv m r sh} h hs=>dk_brk (d:=dkD) (hd:=.star) (r:=59::r) (iw:=iv) dkD_ok True.intro (.inl ⟨rfl,rfl⟩) h (rb_d (wd:=none) .d (fun _=>base_d) hs (fun h=>nomatch h))
noncomputable def p3:Pc:=⟨3,[],[37,37],[37],[],false,0,true⟩
theorem ok3:NOk p3 where
 kp:=rfl
 sp:=rfl
 k2:=by show 3≠2; decide
 ck:=fun h k=>cp_pp h k
 tk:=fun h ht k=>sp_lit (.pp _ h) ht k
 st:=fun h hs=>sp_litx (.pp _ h) rfl (stopR hs (by decide))
noncomputable def p4:Pc:=⟨4,[],[120,121],[120,121],[],false,0,true⟩
theorem ok4:NOk p4 where
 kp:=rfl
 sp:=rfl
 k2:=by show 4≠2; decide
 ck:=fun h k=>cp_lits (y:=[120,121]) h (by decide) k
 tk:=fun h ht k=>sp_lits (y:=[120,121]) h ht (by decide +kernel) k
 st:=fun h hs=>sp_litx (.ch 120 _ h rfl (by decide)) rfl (stopR hs (by decide))
noncomputable def p8 (b:Tx):Pc:=⟨8,[],[32,124],b++[124],[],false,0,true⟩
theorem ok8 {b:Tx} (hb:∀ k ∈ b,isBlank k=true):NOk (p8 b) where
 kp:=rfl
 sp:=rfl
 k2:=by show 8≠2; decide
 ck:=fun h k=>cp_lits (y:=[32,124]) h (by decide) k
 tk:=fun {n t f cnt vs a q iv m tr r o} h ht k=>by
  have ht2:t.drop q=b++124::tr:=by rw [ht]; show (b++[124])++tr=_; rw [List.append_assoc]; rfl
  have el:q + (p8 b).sm.length=q + b.length + 1:=by show q + (b++[124]).length=_; rw [List.length_append]; rfl
  rw [el] at k
  exact sp_bl h rfl ht2 hb (.inr ⟨124,tr,rfl,rfl⟩) (sp_lit (.ch 124 r (at_next h) rfl (by decide)) (d_app ht2) k)
 st:=fun {n t f cnt vs a q iv m r sh} h hs=>sp_bl (x:=[]) h rfl rfl (fun _ h=>nomatch h) (by
  rcases hs with ⟨h,_⟩ | ⟨h,_⟩
  ·exact .inl h
  ·exact .inr ⟨126,[],h,rfl⟩) (sp_litx (.ch 124 r (at_next h) rfl (by decide)) rfl (stopR hs (by decide)))
noncomputable def p0 (w:Nat) (y:Tx) (v:Nat):Pc:=⟨0,dgS false 10 w++[100],[],y,dgS false 10 v,true,1,true⟩
theorem lastW {L:Nat} (hw:0 < w) (h:t.drop q=x++r) (hq:q≤t.length) (hx:x.length=w):min (lastV t q (wV (some w))) t.length=((q + w:Nat):Int):=by
 refine (lastK hw).trans ?_
 have:=at_le h rfl hq
 rw [show min (q + w) t.length=q + w by lia]
theorem ok0 {y:Tx} {v:Nat} (hw:0 < w) (hw2:w < 1000) (hy:y.length=w) (hD:∀ k ∈ y,isD 10 k=true) (hv:dv 10 y=v) (hv2:v < 1000):KOk (p0 w y v) ⟨some w,.e,100,[],[]⟩ where
 kp:=rfl
 ct:=rfl
 D:=dk_d fun _ h=>by cases h; exact hw2
 sp:=fun hd=>rfl
 ne:=List.append_ne_nil_of_right_ne_nil _ (List.cons_ne_nil _ _)
 tl:=fun _ h=>nomatch h
 tk:=fun {n t q tr} ht hq=>by
  have h0:y≠[]:=fun e=>by subst e; exact absurd hy (Nat.ne_of_lt hw)
  obtain ⟨c,u,e,hc⟩:=sg_nb (sg:=.no) h0 hD tr
  have ht2:t.drop q=y++tr:=ht
  have hql:=at_lt (ht2.trans e)
  have N:=@num_of (n + 2) t (y++tr) tr q y .no .d q (q + w) 10 (v:Int) [] ht2 (digNoS (Q:=10) h0 hD _).1 base_d
  have hN:=N ht2 h0 hD (by rw [hy]; exact Nat.le_refl _) (.inl (by rw [hy])) (by decide) (by show fitI false (dv 10 y)=_; rw [hv]; exact fit_s (by lia) (by lia)) (by lia)
  exact ⟨y,(List.append_nil _).symm,rd_f (c:=100) (by decide) (sk0 (ht2.trans e) hc (by decide) (by decide)) hql (rf_of (lastW (L:=0) hw ht2 (Nat.le_of_lt hql) hy) hN) rfl⟩
 st:=fun hs=>rb_d (wd:=some w) .d (fun _=>base_d) hs fun e=>by cases e; exact absurd hw (Nat.lt_irrefl 0)
noncomputable def p2:Pc:=⟨2,[110],[],[],[],true,1,false⟩
theorem so4_P (h:c ∈ so4) {wd:Option Nat} (hw:∀ k,wd=some k→k < 1000) (cs:∀ n,Ph (n + 1) 185 [.str [c],.int (wV wd),.str []]=.ok .none) (h91:c≠91):Dk.Ok ⟨wd,.e,c,[],[]⟩:=have B:=so4_ok c h; dkP hw B.1 B.2.1 B.2.2 cs h91
theorem ok2:KOk p2 ⟨none,.e,110,[],[]⟩ where
 kp:=rfl
 ct:=rfl
 D:=so4_P (by decide) (fun _ h=>nomatch h) (fun n=>rfl) (by decide)
 sp:=fun hd=>rfl
 ne:=List.cons_ne_nil _ _
 tl:=fun _ h=>nomatch h
 tk:=fun {n t q tr} ht hq=>⟨[],rfl,rd_n (Nat.lt_of_le_of_lt hq (by decide))⟩
 st:=fun hs=>by
  rcases hs with ⟨_,_,h⟩ | ⟨_,_,h⟩
  ·exact absurd rfl h
  ·cases h
noncomputable def p7 (c:Nat):Pc:=⟨7,[99],[],[c],dgS false 10 c,true,1,false⟩
theorem ok7 (hc:c < 2 ^ 100):KOk (p7 c) ⟨none,.e,99,[],[]⟩ where
 kp:=rfl
 ct:=rfl
 D:=so4_P (by decide) (fun _ h=>nomatch h) (fun n=>rfl) (by decide)
 sp:=fun hd=>rfl
 ne:=List.cons_ne_nil _ _
 tl:=fun _ h=>nomatch h
 tk:=fun {n t q tr} ht hq=>⟨[c],rfl,rd_f (by decide) (.no (.inl rfl)) (at_lt (c:=c) (r:=tr) ht) (rf_of (last0 (by decide)) (rf_c (n:=n + 2) (k:=c) (r:=tr) ht hc)) rfl⟩
 st:=fun hs=>by
  rcases hs with ⟨h,rfl,_⟩ | ⟨_,_,h⟩
  ·exact rb_short (by decide) (.no (.inl rfl)) h
  ·cases h
noncomputable def p6 (x:Tx):Pc:=⟨6,dgS false 10 x.length++[115],[],x,x,true,1,false⟩
theorem ok6 (h0:x≠[]) (hx:∀ k ∈ x,isBlank k=false) (hl:x.length < 1000):KOk (p6 x) ⟨some x.length,.e,115,[],[]⟩ where
 kp:=rfl
 ct:=rfl
 D:=so4_P (by decide) (fun _ h=>by cases h; exact hl) (fun n=>rfl) (by decide)
 sp:=fun hd=>rfl
 ne:=List.append_ne_nil_of_right_ne_nil _ (List.cons_ne_nil _ _)
 tl:=fun _ h=>nomatch h
 tk:=fun {n t q tr} ht hq=>by
  have ht2:t.drop q=x++tr:=ht
  have hp:0 < x.length:=List.length_pos_iff.mpr h0
  have hc:∃ c u,x++tr=c::u∧isBlank c=false:=match x,h0,hx with
   | c::u,_,hx=>⟨c,u++tr,rfl,hx c (.head _)⟩
  obtain ⟨c,u,e,hc⟩:=hc
  have hql:=at_lt (ht2.trans e)
  exact ⟨x,(List.append_nil _).symm,rd_f (c:=115) (by decide) (sk0 (ht2.trans e) hc (by decide) (by decide)) hql (rf_of (lastW (L:=0) hp ht2 (Nat.le_of_lt hql) rfl) (rf_s (n:=n + 2) ht2 h0 hx (Nat.le_refl _) (.inl rfl))) rfl⟩
 st:=fun hs=>by
  rcases hs with ⟨h,rfl,_⟩ | ⟨_,_,h⟩
  ·exact rb_short (c:=115) (by decide) (sk_e h (by decide) (by decide)) h
  ·cases h
end
end Mine
end
section
set_option tactic.hygienic false
open PySem
namespace Mine
section
variable {n:Nat} {t f r tr x mb:Tx} {q c:Nat} {l:List (Nat × Nat)} {ot wr sh:Bool}
theorem rg_of {m:Tx} (h4:AV.eqv (.str (mb.take 1)) (.str [94])=ot) (h0:∃ c y,mb=c::y) (hm:m=cond ot (mb.drop 1) mb) (h:∀ n,Ph (n + 2) 213 [.str m]=.ok (rgAV l)):RgR mb l ot:=fun n t a L o k=>by
 obtain ⟨c,y,rfl⟩:=h0
 subst hm
 refine g_asg (e_cmp (e_idx rfl rfl (ix (a:=0) rfl)) rfl (congrArg R.ok h4)) (g_asg (e_call (el_cons (v:=.str (cond ot ((c::y).drop 1) (c::y))) ?_ rfl) (h n)) k)
 cases ot with
 | true=>exact e_t rfl rfl (e_sl rfl rfl rfl (congrArg (fun z=>R.ok (AV.str (List.drop 1 z))) (List.take_length (l:=c::y))))
 | false=>exact e_f rfl rfl rfl
theorem rg1:Ph (n + 2) 213 [.str [97,45,99]]=.ok (rgAV [(97,99)]):=call_s (d:=d_ranges_of) [.val (.str [97,45,99]),.u,.u,.u,.u,.u] rfl rfl rfl (g_nx rfl (g_nx rfl (g_nx rfl (g_nx rfl (g_wt rfl rfl rfl rfl (g_wt rfl rfl rfl rfl (g_wf rfl rfl (g_nx rfl (g_ret rfl rfl)))))))))
theorem rg2:Ph (n + 2) 213 [.str [93,97,45,99]]=.ok (rgAV [(93,93),(97,99)]):=call_s (d:=d_ranges_of) [.val (.str [93,97,45,99]),.u,.u,.u,.u,.u] rfl rfl rfl (g_nx rfl (g_nx rfl (g_nx rfl (g_nx rfl (g_wt rfl rfl rfl rfl (g_wt rfl rfl rfl rfl (g_wf rfl rfl (g_nx rfl (g_ret rfl rfl)))))))))
theorem rg3:Ph (n + 2) 213 [.str [99,45,97]]=.ok (rgAV [(97,99)]):=call_s (d:=d_ranges_of) [.val (.str [99,45,97]),.u,.u,.u,.u,.u] rfl rfl rfl (g_nx rfl (g_nx rfl (g_nx rfl (g_nx rfl (g_wt rfl rfl rfl rfl (g_wt rfl rfl rfl rfl (g_wf rfl rfl (g_nx rfl (g_ret rfl rfl)))))))))
theorem rg4:Ph (n + 2) 213 [.str [45,97,99]]=.ok (rgAV [(45,45),(97,97),(99,99)]):=call_s (d:=d_ranges_of) [.val (.str [45,97,99]),.u,.u,.u,.u,.u] rfl rfl rfl (g_nx rfl (g_nx rfl (g_nx rfl (g_nx rfl (g_wt rfl rfl rfl rfl (g_wt rfl rfl rfl rfl (g_wf rfl rfl (g_nx rfl (g_ret rfl rfl)))))))))
theorem rg5:Ph (n + 2) 213 [.str [97,99,45]]=.ok (rgAV [(97,97),(99,99),(45,45)]):=call_s (d:=d_ranges_of) [.val (.str [97,99,45]),.u,.u,.u,.u,.u] rfl rfl rfl (g_nx rfl (g_nx rfl (g_nx rfl (g_nx rfl (g_wt rfl rfl rfl rfl (g_wt rfl rfl rfl rfl (g_wt rfl rfl rfl rfl (g_wf rfl rfl (g_nx rfl (g_ret rfl rfl))))))))))
theorem rg6:Ph (n + 2) 213 [.str [44]]=.ok (rgAV [(44,44)]):=call_s (d:=d_ranges_of) [.val (.str [44]),.u,.u,.u,.u,.u] rfl rfl rfl (g_nx rfl (g_nx rfl (g_nx rfl (g_nx rfl (g_wt rfl rfl rfl rfl (g_wf rfl rfl (g_nx rfl (g_ret rfl rfl))))))))
theorem rg7:Ph (n + 2) 213 [.str [93,98,44]]=.ok (rgAV [(93,93),(98,98),(44,44)]):=call_s (d:=d_ranges_of) [.val (.str [93,98,44]),.u,.u,.u,.u,.u] rfl rfl rfl (g_nx rfl (g_nx rfl (g_nx rfl (g_nx rfl (g_wt rfl rfl rfl rfl (g_wt rfl rfl rfl rfl (g_wf rfl rfl (g_nx rfl (g_ret rfl rfl)))))))))
structure SetD (mb sg:Tx) (wr:Bool):Prop where
 s:∃ p c y,mb=p++c::y∧SetP p∧c≠94∧∀ k ∈ c::y,k≠93
 r:∃ l ot,RgR mb l ot∧(∀ k ∈ sg,inR k l=!ot)∧inR 44 l=ot∧(wr=true→inR 126 l=ot)
noncomputable def sets:List (Tx × Tx):=[([97,45,99],[97,98,99]),([93,97,45,99],[93,97,99,98]),([99,45,97],[98,99,97]),([45,97,99],[97,45,99]),([97,99,45],[45,99,97]),([94,44],[32,120,49,59]),([94,93,98,44],[97,32,99,45])]
noncomputable def wrS (mb:Tx):Bool:=!AV.eqv (.str (mb.take 1)) (.str [94])
theorem sets_ok:∀ s ∈ sets,SetD s.1 s.2 (wrS s.1)∧s.1.length≤4∧s.2.length≤4∧s.2≠[] :=
 all_c ⟨⟨⟨[],97,[45,99],rfl,.inl rfl,by decide,by decide⟩,⟨_,false,rg_of rfl ⟨_,_,rfl⟩ rfl fun n=>rg1,by decide +kernel,rfl,fun _=>rfl⟩⟩,by decide,by decide,by decide⟩
 (all_c ⟨⟨⟨[93],97,[45,99],rfl,.inr (.inr (.inl rfl)),by decide,by decide⟩,⟨_,false,rg_of rfl ⟨_,_,rfl⟩ rfl fun n=>rg2,by decide +kernel,rfl,fun _=>rfl⟩⟩,by decide,by decide,by decide⟩
 (all_c ⟨⟨⟨[],99,[45,97],rfl,.inl rfl,by decide,by decide⟩,⟨_,false,rg_of rfl ⟨_,_,rfl⟩ rfl fun n=>rg3,by decide +kernel,rfl,fun _=>rfl⟩⟩,by decide,by decide,by decide⟩
 (all_c ⟨⟨⟨[],45,[97,99],rfl,.inl rfl,by decide,by decide⟩,⟨_,false,rg_of rfl ⟨_,_,rfl⟩ rfl fun n=>rg4,by decide +kernel,rfl,fun _=>rfl⟩⟩,by decide,by decide,by decide⟩
 (all_c ⟨⟨⟨[],97,[99,45],rfl,.inl rfl,by decide,by decide⟩,⟨_,false,rg_of rfl ⟨_,_,rfl⟩ rfl fun n=>rg5,by decide +kernel,rfl,fun _=>rfl⟩⟩,by decide,by decide,by decide⟩
 (all_c ⟨⟨⟨[94],44,[],rfl,.inr (.inl rfl),by decide,by decide⟩,⟨_,true,rg_of rfl ⟨_,_,rfl⟩ rfl fun n=>rg6,by decide +kernel,rfl,fun h=>nomatch (show false=true from h)⟩⟩,by decide,by decide,by decide⟩
 (all_c ⟨⟨⟨[94,93],98,[44],rfl,.inr (.inr (.inr rfl)),by decide,by decide⟩,⟨_,true,rg_of rfl ⟨_,_,rfl⟩ rfl fun n=>rg7,by decide +kernel,rfl,fun h=>nomatch (show false=true from h)⟩⟩,by decide,by decide,by decide⟩ all_n))))))
noncomputable def p5 (mb x:Tx) (wr:Bool):Pc:=⟨5,([91]++mb)++[93],[44],x++[44],x,true,1,wr⟩
theorem ok5 {sg:Tx} (S:SetD mb sg wr) (h0:x≠[]) (hx:∀ k ∈ x,k ∈ sg):KOk (p5 mb x wr) ⟨none,.e,91,mb++[93],mb⟩ where
 kp:=rfl
 ct:=rfl
 D:=by
  have B:=so4_ok 91 (by decide)
  refine ⟨(fun _ h=>nomatch h),B.1,B.2.1,B.2.2,fun n=>rfl,fun f a r h=>?_⟩
  obtain ⟨p,c,y,e,hp,hc,hy⟩:=S.s
  have h2:f.drop a=mb++93::r:=h.trans (List.append_assoc _ _ _)
  have hl:a + (mb++[93]).length=a + mb.length + 1:=by rw [List.length_append]; rfl
  rw [hl]
  refine .set mb r rfl h2 fun m=>?_
  rw [e] at h2 ⊢
  exact ph_set hp h2 hy hc
 sp:=fun hd=>rfl
 ne:=List.cons_ne_nil _ _
 tl:=fun c h=>by cases List.mem_singleton.mp h; exact ⟨rfl,by decide⟩
 tk:=fun {n t q tr} ht hq=>by
  obtain ⟨l,ot,hR,h1,h2,_⟩:=S.r
  have ht2:t.drop q=x++44::tr:=ht.trans (List.append_assoc _ _ _)
  have hlt:=at_lt (d_app ht2)
  have hq:=d_lt ht2
  have F:=rf_set (n:=n + 2) (nm:=[]) (L:=t.length) hR ht2 (fun k hk=>h1 k (hx k hk)) (Nat.le_of_lt hlt) (.inr ⟨44,tr,rfl,h2⟩)
  refine ⟨x,rfl,?_⟩
  cases x with
  | nil=>exact absurd rfl h0
  | cons c y=>exact rd_f (c:=91) (by decide) (.no (.inr rfl)) hq (rf_of (last0 (w:=-1) (by decide)) F) rfl
 st:=fun {n t q sh} hs=>by
  rcases hs with ⟨h,rfl,_⟩ | ⟨h,rfl,hw⟩
  ·exact rb_short (c:=91) (by decide) (.no (.inr rfl)) h
  ·obtain ⟨l,ot,hR,_,_,h3⟩:=S.r
   have F:=rf_set (n:=n + 2) (nm:=[]) (L:=t.length) (x:=[]) hR h (fun _ h=>nomatch h) (Nat.le_of_lt (at_lt h)) (.inr ⟨126,[],rfl,h3 hw⟩)
   exact rb_none (c:=91) (p2:=q) (by decide) (.no (.inr rfl)) (at_lt h) (rf_of (last0 (w:=-1) (by decide)) F) ⟨false,rfl,rfl⟩
noncomputable def p9 (sm vl:Tx):Pc:=⟨9,[51,105],[],sm,vl,true,1,true⟩
theorem base_i (h:t.drop q=c::r) (hm:q + 3≤q + 2∨∃ k d r,t.drop q=k::d::r∧d≠(So.l1 .i)∧d≠(So.l2 .i)) {b:Nat} (hb:baseN .i c=b):BaseR t q (q + 3) .i b q:=fun n=>by subst hb; exact base_no (s:=.i) h (by lia) hm
theorem base_i1 (h:t.drop (q + 1)=c::r) {b:Nat} (hb:baseN .i c=b):BaseR t (q + 1) (q + 3) .i b (q + 1):=fun n=>by subst hb; exact base_no (s:=.i) h (by lia) (.inl (Nat.le_refl _))
noncomputable def its:List (Tx × Tx):=[([48,120,55],[55]),([48,49,55],[49,53]),([49,50,51],[49,50,51]),([45,49,50],[45,49,50]),([43,48,55],[55])]
def It3 (sm vl:Tx):Prop:=∀ (n:Nat) (t:Tx) (q:Nat) (tr:Tx),t.drop q=sm++tr→Ph (n + 5) 262 [.str t,.int q,.int (q + 3:Nat),.str [105],.str [],.str []]=.ok (.tup [.str vl,.int (q + 3:Nat)])
theorem its_ok:∀ s ∈ its,It3 s.1 s.2∧s.1.length=3∧(∃ c u,s.1=c::u∧isBlank c=false)∧s.2.length≤3 :=
 all_c ⟨fun n t q tr h=>(@num_of n t _ tr q [55] .no .i (q + 2) (q + 3) 16 7 [] h ⟨48,_,rfl,by decide,by decide⟩ fun n=>base_yes (s:=.i) rfl h (Nat.lt_succ_self _) (by decide +kernel)) (at_2 h) (by decide) (by decide +kernel) (Nat.le_refl _) (.inl rfl) (by decide) (by decide +kernel) (by decide),rfl,⟨_,_,rfl,rfl⟩,by decide⟩
 (all_c ⟨fun n t q tr h=>(@num_of n t _ tr q [48,49,55] .no .i q (q + 3) 8 15 [] h ⟨48,_,rfl,by decide,by decide⟩ (base_i h (.inr ⟨_,_,_,h,by decide,by decide⟩) rfl)) h (by decide) (by decide +kernel) (Nat.le_refl _) (.inl rfl) (by decide) (by decide +kernel) (by decide),rfl,⟨_,_,rfl,rfl⟩,by decide⟩
 (all_c ⟨fun n t q tr h=>(@num_of n t _ tr q [49,50,51] .no .i q (q + 3) 10 123 [] h ⟨49,_,rfl,by decide,by decide⟩ (base_i h (.inr ⟨_,_,_,h,by decide,by decide⟩) rfl)) h (by decide) (by decide +kernel) (Nat.le_refl _) (.inl rfl) (by decide) (by decide +kernel) (by decide),rfl,⟨_,_,rfl,rfl⟩,by decide⟩
 (all_c ⟨fun n t q tr h=>(@num_of n t ([49,50]++tr) tr q [49,50] .mi .i (q + 1) (q + 3) 10 (Int.negSucc 11) [] h ⟨49,_,rfl,by decide,by decide⟩ (base_i1 (at_next h) rfl)) (at_next h) (by decide) (by decide +kernel) (Nat.le_refl _) (.inl rfl) (by decide) (by decide +kernel) (by decide),rfl,⟨_,_,rfl,rfl⟩,by decide⟩
 (all_c ⟨fun n t q tr h=>(@num_of n t ([48,55]++tr) tr q [48,55] .pl .i (q + 1) (q + 3) 8 7 [] h ⟨48,_,rfl,by decide,by decide⟩ (base_i1 (at_next h) rfl)) (at_next h) (by decide) (by decide +kernel) (Nat.le_refl _) (.inl rfl) (by decide) (by decide +kernel) (by decide),rfl,⟨_,_,rfl,rfl⟩,by decide⟩ all_n))))
theorem ok9 {sm vl:Tx} (h:It3 sm vl) (hl:sm.length=3) (hc:∃ c u,sm=c::u∧isBlank c=false):KOk (p9 sm vl) ⟨some 3,.e,105,[],[]⟩ where
 kp:=rfl
 ct:=rfl
 D:=dkP (fun _ h=>by cases h; decide) (Kd.w .i).ok.2.1 (Kd.w .i).ok.1 (by decide) (fun n=>cs_w .i _ _) (by decide)
 sp:=fun hd=>rfl
 ne:=List.cons_ne_nil _ _
 tl:=fun _ h=>nomatch h
 tk:=fun {n t q tr} ht hq=>by
  obtain ⟨c,u,e,hb⟩:=hc
  have ht2:t.drop q=sm++tr:=ht
  have ht3:t.drop q=c::(u++tr):=by rw [ht2,e]; rfl
  have hql:=at_lt ht3
  refine ⟨sm,(List.append_nil _).symm,?_⟩
  rw [hl]
  exact rd_f (c:=105) (by decide) (sk0 ht3 hb (by decide) (by decide)) hql (rf_of (lastW (L:=0) (w:=3) (by decide) ht2 (Nat.le_of_lt hql) hl) (h (n + 2) t q tr ht2)) rfl
 st:=fun hs=>rb_d (wd:=some 3) .i (fun h n=>base_no (s:=.i) h (Nat.lt_succ_self _) (.inl (Nat.le_succ _))) hs fun e=>by cases e
end
end Mine
end
section
set_option tactic.hygienic false
open PySem
namespace Mine
structure PcF (p:Pc):Prop where
 e1:AV.eqv (.str p.sp) (.str [])=!p.kp
 e2:cmpop .notin (.int p.k) (.tup [.int 3,.int 4,.int 8])=.ok (Nat.beq p.ct 1)
 e3:∃ b,cmpop .isin (.int p.k) (.tup [.int 0,.int 1,.int 3,.int 4,.int 5,.int 8,.int 9])=.ok b∧p.wr=(b && !AV.eqv (.str (p.sp.take 2)) (.str [91,94]))
 e4:AV.eqv (.int p.k) (.int 2)=Nat.beq p.k 2
 ct:p.ct≤1
 l1:p.sp.length≤10
 l2:p.tl.length≤10
 l3:p.sm.length≤10
 e5:p.k=2→p.sm=[]
theorem k2n {a:Nat} (h:Nat.beq a 2=false) {P:Prop}:a=2→P:=fun e=>by rw [e] at h; cases h
inductive PcOk (p:Pc):Prop
 | k (d:Dk):KOk p d→PcOk p
 | n:NOk p→PcOk p
noncomputable def Pc.av (p:Pc):AV:=.tup [.int p.k,.str p.sp,.str p.tl,.str p.sm,.str p.vl]
section
variable {n k:Nat} {N:Int} {σ:Env'}
theorem e_compR {fr:List Nat} {e:ME} {elt cond:Option ME} {i:Int} {ρ:List SV} {l:List AV} (h1:ev n e σ=.ok (.int i)) (h2:rgOk i=true) (h3:frees σ fr=some ρ) (h4:collect (fun v=>(evO noCalls cond (.val v::ρ)).bind fun o=>testO o (eltR v (evO noCalls elt (.val v::ρ)))) (rangeVals i)=.ok l) (h5:decide (l.length≤lLine)=true):ev n (.comp fr .rng e elt cond) σ=.ok (.lst l):=by
 refine (bd h1 rfl).trans ?_
 show lim (rgOk i) (oO (frees σ fr) fun ρ=>sizeL (quiet (collect _ (rangeVals i))))=_
 rw [h2,h3]
 show sizeL (quiet (collect _ (rangeVals i)))=_
 rw [h4]
 exact limT h5
theorem sl_1 {s:Tx}:slop (.str s) (some (.int 1)) none=.ok (.str (s.drop 1)):=congrArg (fun z=>R.ok (AV.str (List.drop 1 z))) (List.take_length (l:=s))
noncomputable def ck0 (w v:Nat):Bool:=Nat.beq ((dgS false 10 (v + 10 ^ w)).drop 1).length w && ((((dgS false 10 (v + 10 ^ w)).drop 1).all (isD 10)) && decide (dv 10 ((dgS false 10 (v + 10 ^ w)).drop 1)=(v:Int)))
theorem ck0_all:((List.range 4).all fun w=>(List.range (10 ^ w)).all (ck0 w))=true:=by kernel_rfl
theorem ck0_at {w v:Nat} (hw:w < 4) (hv:v < 10 ^ w):((dgS false 10 (v + 10 ^ w)).drop 1).length=w∧(∀ k ∈ (dgS false 10 (v + 10 ^ w)).drop 1,isD 10 k=true)∧dv 10 ((dgS false 10 (v + 10 ^ w)).drop 1)=v:=by
 have h:=and2 (List.all_eq_true.mp (List.all_eq_true.mp ck0_all w (List.mem_range.mpr hw)) v (List.mem_range.mpr hv))
 have h2:=and2 h.2
 exact ⟨Nat.eq_of_beq_eq_true h.1,List.all_eq_true.mp h2.1,of_decide_eq_true h2.2⟩
noncomputable def eltE:ME:=.idx (.v 1) (.bin .fmod (.bin .add (.bin .fdiv (.bin .fdiv (.v 2) (.c (.int 70))) (.bin .pow (.c (.int 3)) (.v 0))) (.v 0)) (.bi .len [(.v 1)]))
theorem elt_at {sg:Tx} (h0:sg≠[]):∀ j:Nat,j < 3→∃ c ∈ sg,evE noCalls eltE [.val (.int j),.val (.str sg),.val (.int N)]=.ok (.str [c]):=fun j hj=>by
 have A:∃ i:Int,evE noCalls (.bin .add (.bin .fdiv (.bin .fdiv (.v 2) (.c (.int 70))) (.bin .pow (.c (.int 3)) (.v 0))) (.v 0)) [.val (.int j),.val (.str sg),.val (.int N)]=.ok (.int i):=match j,hj with
  | 0,_=>⟨_,rfl⟩
  | 1,_=>⟨_,rfl⟩
  | 2,_=>⟨_,rfl⟩
 obtain ⟨i,hi⟩:=A
 obtain ⟨m,lm,em⟩:=modn i sg.length (List.length_pos_iff.mpr h0)
 obtain ⟨c,hc,ec⟩:=ixm_s (g:=fun c:Nat=>c) (l:=sg) lm
 rw [List.map_id'] at ec
 exact ⟨c,hc,bd rfl (bd (bd hi (bd rfl em)) ec)⟩
theorem col_sg {sg:Tx} (h0:sg≠[]):∀ js:List Nat,(∀ j ∈ js,j < 3)→∃ x:Tx,x.length=js.length∧(∀ c ∈ x,c ∈ sg)∧collect (fun v=>(evO noCalls none (.val v::[.val (.str sg),.val (.int N)])).bind fun o=>testO o (eltR v (evO noCalls (some eltE) (.val v::[.val (.str sg),.val (.int N)])))) (js.map fun (j:Nat)=>AV.int j)=.ok (x.map fun c=>AV.str [c])
 | [],_=>⟨[],rfl,(fun _ h=>nomatch h),rfl⟩
 | j::js,hj=>by
  obtain ⟨c,hc,ec⟩:=elt_at (N:=N) h0 j (hj j (.head _))
  obtain ⟨x,h1,h2,h3⟩:=col_sg h0 js fun i hi=>hj i (.tail _ hi)
  refine ⟨c::x,congrArg (· + 1) h1,fun d hd=>(List.mem_cons.mp hd).elim (fun e=>e ▸ hc) (h2 d),bd (a:=some (AV.str [c])) (bd (a:=(none:Option AV)) rfl (bd (a:=AV.str [c]) (?_:eltR (.int j) ((evE noCalls eltE [.val (.int j),.val (.str sg),.val (.int N)]).bind fun v=>.ok (some v))=_) rfl)) (bd h3 rfl)⟩
  rw [ec]
  rfl
noncomputable def ones:List (Sg × Tx):=[(.mi,[51,49]),(.no,[55]),(.pl,[48,48,55])]
theorem ones_ok:∀ s ∈ ones,NOk (p1 0 s.2 s.1)∧(p1 0 s.2 s.1).sm.length≤10 :=
 all_c ⟨ok1 (v:=Int.negSucc 30) (by decide) (by decide +kernel) (by decide +kernel) (by decide),by decide⟩ (all_c ⟨ok1 (v:=7) (by decide) (by decide +kernel) (by decide +kernel) (by decide),by decide⟩ (all_c ⟨ok1 (v:=7) (by decide) (by decide +kernel) (by decide +kernel) (by decide),by decide⟩ all_n))
noncomputable def sixs:List Tx:=[[113,123,233],[48,120,49],[37,44,125]]
theorem six_ok:∀ x ∈ sixs,∀ w,w < 3→(x.take (w + 1)).length=w + 1∧∀ k ∈ x.take (w + 1),isBlank k=false:=by decide +kernel
theorem wid_ok:∀ w,w < 3→∀ c,(c=100∨c=115)→AV.eqv (.str (dgS false 10 (w + 1)++[c])) (.str [])=false∧AV.eqv (.str ((dgS false 10 (w + 1)++[c]).take 2)) (.str [91,94])=false∧(dgS false 10 (w + 1)++[c]).length≤10:=fun w hw c hc=>by
 rcases hc with rfl | rfl
 ·revert w; decide +kernel
 ·revert w; decide +kernel
noncomputable def eights:List Tx:=[[32,10],[]]
noncomputable def sevens:List Nat:=[32,97,10,37,55]
theorem set_f:∀ s ∈ sets,wrS s.1=!AV.eqv (.str ((([91]++s.1)++[93]).take 2)) (.str [91,94]):=by decide +kernel
def PkG (n k:Nat) (N:Int):Prop:=∃ p:Pc,(PcOk p∧PcF p)∧Ph (n + 2) 451 [.int N,.int k]=.ok p.av
def PkS (n k:Nat) (N:Int) (m w:Nat):Prop:=∀ (o:Out) (r:R AV),back o=r→Go (n + 1) (c_law_piece.drop 2) [.val (.int N),.val (.int k),.val (.int m),.val (.int (w + 1:Nat)),.u,.u,.u,.u,.u] nx o→Ph (n + 2) 451 [.int N,.int k]=r
theorem c0 {m i:Nat} (h:getV σ 2=.ok (.int m)) (e:AV.eqv (.int m) (.int i)=false):ev (n + 1) (.cmp (.v 2) .eq (.c (.int i))) σ=.ok (.bool false):=e_cmp h rfl (congrArg R.ok e)
theorem p_sw {w:Nat} (lw:w < 3):biop .str [.int (w + 1:Nat)]=.ok (.str (dgS false 10 (w + 1))):=str_nat (Nat.lt_of_le_of_lt lw (by decide))
theorem p_aw {w:Nat} (c:Nat):binop .add (.str (dgS false 10 (w + 1))) (.str [c])=.ok (.str (dgS false 10 (w + 1)++[c])):=add_k (Nat.le_trans (dgS_len _ _ _) (by decide)) (Nat.le_of_ble_eq_true rfl)
variable {w:Nat}
theorem pk0 (lw:w < 3) (st:PkS n k N 0 w):PkG n k N:=by
 have W:=wid_ok w lw 100 (.inl rfl)
 obtain ⟨v,lv,ev0⟩:=modn ((N.natAbs:Int) / 30 + 7 * k + 12) (10 ^ (w + 1)) (Nat.pow_pos (by decide))
 have C:=ck0_at (Nat.succ_lt_succ lw) lv
 have pl:10 ^ (w + 1)≤1000:=Nat.pow_le_pow_right (by decide) lw
 have lv2:v < 1000:=Nat.lt_of_lt_of_le lv pl
 have pw:∀ {σ:Env'},getV σ 3=.ok (.int (w + 1:Nat))→ev (n + 1) (.bin .pow (.c (.int 10)) (.v 3)) σ=.ok (.int (10 ^ (w + 1):Nat)):=fun h=>e_bin rfl h ((limT (andT (andT (dlt (Int.natCast_nonneg _)) (dlt (by lia))) rfl)).trans (congrArg (fun z=>R.ok (AV.int z)) (Int.natCast_pow 10 (w + 1)).symm))
 refine ⟨p0 (w + 1) ((dgS false 10 (v + 10 ^ (w + 1))).drop 1) v,⟨.k _ (ok0 (Nat.succ_pos w) (by lia) C.1 C.2.1 C.2.2 lv2),⟨W.1,rfl,⟨true,rfl,by show true=!AV.eqv (.str ((dgS false 10 (w + 1)++[100]).take 2)) (.str [91,94]); rw [W.2.1]; rfl⟩,rfl,Nat.le_refl 1,W.2.2,Nat.zero_le _,Nat.le_trans (Nat.le_of_eq C.1) (by lia),k2n rfl⟩⟩,st _ _ rfl (g_t (e_cmp rfl rfl rfl) rfl (g_asg (e_bin (e_bin (e_bin (e_bin (e_bi rfl rfl) rfl (z:=.int ((N.natAbs:Int) / 30)) rfl) (e_bin rfl rfl (z:=.int (7 * k)) rfl) rfl) rfl rfl) (pw rfl) ev0) (g_ret (e_tup (el_cons rfl (el_cons (e_bin (e_bi rfl (p_sw lw)) rfl (p_aw 100)) (el_cons rfl (el_cons (e_sl (e_call (el_cons (e_bin rfl (pw rfl) (z:=.int (v + 10 ^ (w + 1):Nat)) rfl) rfl) (ph_ld (b:=10) (by decide) (by decide) (Nat.lt_of_lt_of_le (Nat.add_lt_add_of_lt_of_le lv2 pl) (by decide)))) rfl rfl sl_1) (el_cons (e_bi rfl (str_nat (Nat.lt_trans lv2 (by decide)))) rfl))))) rfl) rfl)))⟩
theorem pk1 (st:PkS n k N 1 w):PkG n k N:=by
 obtain ⟨i,li,ei⟩:=modn (N / 10) 3 (by decide)
 obtain ⟨s,hs,es⟩:=ixm_t (g:=fun s:Sg × Tx=>AV.str ((s.1.t++s.2)++[59])) (l:=ones) li
 have S:=ones_ok s hs
 exact ⟨p1 0 s.2 s.1,⟨.n S.1,⟨rfl,rfl,⟨true,rfl,rfl⟩,rfl,Nat.le_refl 1,Nat.zero_le _,by show 4≤10; decide,S.2,k2n rfl⟩⟩,st _ _ rfl (g_if0 (c0 rfl rfl) rfl (g_ifr (e_cmp rfl rfl rfl) rfl (e_tup (el_cons rfl (el_cons rfl (el_cons rfl (el_cons (e_idx (x:=.tup (ones.map fun s:Sg × Tx=>AV.str ((s.1.t++s.2)++[59]))) rfl (e_bin (e_bin rfl rfl (z:=.int (N / 10)) rfl) rfl ei) es) rfl)))) rfl) rfl))⟩
theorem pk2 (st:PkS n k N 2 w):PkG n k N:=by
 exact ⟨p2,⟨.k _ ok2,⟨rfl,rfl,⟨false,rfl,rfl⟩,rfl,Nat.le_refl 1,by decide,Nat.zero_le _,Nat.zero_le _,fun _=>rfl⟩⟩,st _ _ rfl (g_if0 (c0 rfl rfl) rfl (g_if0 (c0 rfl rfl) rfl (g_ifr (e_cmp rfl rfl rfl) rfl rfl rfl)))⟩
theorem pk3 (st:PkS n k N 3 w):PkG n k N:=by
 exact ⟨p3,⟨.n ok3,⟨rfl,rfl,⟨true,rfl,rfl⟩,rfl,Nat.zero_le _,by decide,by decide,by decide,k2n rfl⟩⟩,st _ _ rfl (g_if0 (c0 rfl rfl) rfl (g_if0 (c0 rfl rfl) rfl (g_if0 (c0 rfl rfl) rfl (g_ifr (e_cmp rfl rfl rfl) rfl rfl rfl))))⟩
theorem pk4 (st:PkS n k N 4 w):PkG n k N:=by
 exact ⟨p4,⟨.n ok4,⟨rfl,rfl,⟨true,rfl,rfl⟩,rfl,Nat.zero_le _,by decide,by decide,by decide,k2n rfl⟩⟩,st _ _ rfl (g_if0 (c0 rfl rfl) rfl (g_if0 (c0 rfl rfl) rfl (g_if0 (c0 rfl rfl) rfl (g_if0 (c0 rfl rfl) rfl (g_ifr (e_cmp rfl rfl rfl) rfl rfl rfl)))))⟩
theorem pk5 (lw:w < 3) (st:PkS n k N 5 w):PkG n k N:=by
 obtain ⟨i,li,ei⟩:=modn (N / 10 + k) 7 (by decide)
 obtain ⟨s,hs,es⟩:=ixm_t (g:=fun s:Tx × Tx=>AV.tup [.str s.1,.str s.2]) (l:=sets) li
 have S:=sets_ok s hs
 obtain ⟨x,lx,hx,cx⟩:=col_sg (N:=N) S.2.2.2 (List.range (w + 1)) fun j hj=>Nat.lt_of_lt_of_le (List.mem_range.mp hj) lw
 rw [List.length_range] at lx
 have hx0:x≠[]:=fun e=>by rw [e] at lx; cases lx
 have k1:=add_k (s:=[91]) (t:=s.1) (by decide) (Nat.le_trans S.2.1 (by decide))
 have k0:([91]++s.1).length≤5:=len_k (a:=1) (by decide) S.2.1 (by decide)
 have k2:=add_k (s:=[91]++s.1) (t:=[93]) (Nat.le_trans k0 (by decide)) (by decide)
 have k3:=add_k (s:=x) (t:=[44]) (by lia) (by decide)
 have l3:(x++[44]).length≤10:=len_k (a:=3) (b:=1) (by lia) (by decide) (by decide)
 have hcomp:∀ s5:SV,ev (n + 1) (.comp [7,0] .rng (.v 3) (some eltE) none) [.val (.int N),.val (.int k),.val (.int (5:Nat)),.val (.int (w + 1:Nat)),.u,s5,.val (.str s.1),.val (.str s.2),.u]=.ok (.lst (x.map fun c=>AV.str [c])):=fun s5=>by
  refine e_compR (i:=(w + 1:Nat)) rfl (andT (dlt (by lia)) (dlt (by lia))) rfl (?_:collect _ ((List.range (w + 1)).map fun (j:Nat)=>AV.int j)=_) (lll (by rw [List.length_map]; lia))
  exact cx
 exact ⟨p5 s.1 x (wrS s.1),⟨.k _ (ok5 S.1 hx0 hx),⟨rfl,rfl,⟨true,rfl,set_f s hs⟩,rfl,Nat.le_refl 1,len_k k0 (b:=1) (by decide) (by decide),by show 1≤10; decide,l3,k2n rfl⟩⟩,st _ _ rfl (g_if0 (c0 rfl rfl) rfl (g_if0 (c0 rfl rfl) rfl (g_if0 (c0 rfl rfl) rfl (g_if0 (c0 rfl rfl) rfl (g_if0 (c0 rfl rfl) rfl (g_t (e_cmp rfl rfl rfl) rfl (g_asg rfl (g_asgT (l:=[.str s.1,.str s.2]) (e_idx (x:=.tup (sets.map fun s:Tx × Tx=>AV.tup [.str s.1,.str s.2])) rfl (e_bin (e_bin (e_bin rfl rfl (z:=.int (N / 10)) rfl) rfl rfl) rfl ei) es) (fun F=>rfl)
  (g_asg (v:=.str x) (e_sm rfl (el_cons (hcomp _) rfl) (join_one (by lia))) (g_ret (e_tup (el_cons rfl (el_cons (e_bin (e_bin rfl rfl k1) rfl k2) (el_cons rfl (el_cons (e_bin rfl rfl k3) rfl)))) rfl) rfl))))))))))⟩
theorem pk6 (lw:w < 3) (st:PkS n k N 6 w):PkG n k N:=by
 have W:=wid_ok w lw 115 (.inr rfl)
 obtain ⟨i,li,ei⟩:=modn (N / 10 + (k:Int) / 3) 3 (by decide)
 obtain ⟨x,hx,ex⟩:=ixm_t (g:=AV.str) (l:=sixs) li
 have S:=six_ok x hx w lw
 have e:p6 (x.take (w + 1))=⟨6,dgS false 10 (w + 1)++[115],[],x.take (w + 1),x.take (w + 1),true,1,false⟩:=by unfold p6; rw [S.1]
 have K:=ok6 (x:=x.take (w + 1)) (fun e=>by rw [e] at S; cases S.1) S.2 (by rw [S.1]; lia)
 rw [e] at K
 refine ⟨_,⟨.k _ K,⟨W.1,rfl,⟨false,rfl,rfl⟩,rfl,Nat.le_refl 1,W.2.2,Nat.zero_le _,Nat.le_trans (Nat.le_of_eq S.1) (by lia),k2n rfl⟩⟩,st _ _ rfl (g_if0 (c0 rfl rfl) rfl (g_if0 (c0 rfl rfl) rfl (g_if0 (c0 rfl rfl) rfl (g_if0 (c0 rfl rfl) rfl (g_if0 (c0 rfl rfl) rfl (g_if0 (c0 rfl rfl) rfl (g_t (e_cmp rfl rfl rfl) rfl (g_asg (v:=.str (x.take (w + 1))) (e_sl (e_idx (x:=.tup (sixs.map AV.str)) rfl (e_bin (e_bin (e_bin rfl rfl (z:=.int (N / 10)) rfl) (e_bin rfl rfl (z:=.int ((k:Int) / 3)) rfl) rfl) rfl ei) ex) rfl rfl rfl) (g_ret (e_tup (el_cons rfl (el_cons (e_bin (e_bi rfl (p_sw lw)) rfl (p_aw 115)) rfl)) rfl) rfl)))))))))⟩
theorem pk7 (st:PkS n k N 7 w):PkG n k N:=by
 obtain ⟨i,li,ei⟩:=modn (N / 10 + k) 5 (by decide)
 obtain ⟨c,hc,ec⟩:=ixm_s (g:=fun c:Nat=>c) (l:=sevens) li
 have C:∀ c ∈ sevens,c < 1000:=by decide +kernel
 have hC:c < 2 ^ 100:=Nat.lt_trans (C c hc) (by decide)
 exact ⟨p7 c,⟨.k _ (ok7 hC),⟨rfl,rfl,⟨false,rfl,rfl⟩,rfl,Nat.le_refl 1,by show 1≤10; decide,Nat.zero_le _,by show 1≤10; decide,k2n rfl⟩⟩,st _ _ rfl (g_if0 (c0 rfl rfl) rfl (g_if0 (c0 rfl rfl) rfl (g_if0 (c0 rfl rfl) rfl (g_if0 (c0 rfl rfl) rfl (g_if0 (c0 rfl rfl) rfl (g_if0 (c0 rfl rfl) rfl (g_if0 (c0 rfl rfl) rfl (g_t (e_cmp rfl rfl rfl) rfl (g_asg (e_idx (x:=.str (sevens.map fun c:Nat=>c)) rfl (e_bin (e_bin (e_bin rfl rfl (z:=.int (N / 10)) rfl) rfl rfl) rfl ei) ec) (g_ret (e_tup (el_cons rfl (el_cons rfl (el_cons rfl (el_cons rfl (el_cons (e_bi (el_cons (e_bi rfl rfl) rfl) (str_nat hC)) rfl))))) rfl) rfl))))))))))⟩
theorem pk8 (st:PkS n k N 8 w):PkG n k N:=by
 obtain ⟨i,li,ei⟩:=modn (N / 10) 2 (by decide)
 obtain ⟨b,hb,eb⟩:=ixm_t (g:=fun b:Tx=>AV.str (b++[124])) (l:=eights) li
 have B:∀ b ∈ eights,(∀ k ∈ b,isBlank k=true)∧(b++[124]).length≤10:=by decide +kernel
 exact ⟨p8 b,⟨.n (ok8 (B b hb).1),⟨rfl,rfl,⟨true,rfl,rfl⟩,rfl,Nat.zero_le _,Nat.zero_le _,by show 2≤10; decide,(B b hb).2,k2n rfl⟩⟩,st _ _ rfl (g_if0 (c0 rfl rfl) rfl (g_if0 (c0 rfl rfl) rfl (g_if0 (c0 rfl rfl) rfl (g_if0 (c0 rfl rfl) rfl (g_if0 (c0 rfl rfl) rfl (g_if0 (c0 rfl rfl) rfl (g_if0 (c0 rfl rfl) rfl (g_if0 (c0 rfl rfl) rfl (g_ifr (e_cmp rfl rfl rfl) rfl (e_tup (el_cons rfl (el_cons rfl (el_cons rfl (el_cons (e_idx (x:=.tup (eights.map fun b:Tx=>AV.str (b++[124]))) rfl (e_bin (e_bin rfl rfl (z:=.int (N / 10)) rfl) rfl ei) eb) rfl)))) rfl) rfl)))))))))⟩
theorem pk9 (st:PkS n k N 9 w):PkG n k N:=by
 obtain ⟨i,li,ei⟩:=modn (N / 10 + k) 5 (by decide)
 obtain ⟨s,hs,es⟩:=ixm_t (g:=fun s:Tx × Tx=>AV.tup [.str s.1,.str s.2]) (l:=its) li
 have S:=its_ok s hs
 exact ⟨p9 s.1 s.2,⟨.k _ (ok9 S.1 S.2.1 S.2.2.1),⟨rfl,rfl,⟨true,rfl,rfl⟩,rfl,Nat.le_refl 1,by show 2≤10; decide,Nat.zero_le _,Nat.le_trans (Nat.le_of_eq S.2.1) (by decide),k2n rfl⟩⟩,st _ _ rfl (g_if0 (c0 rfl rfl) rfl (g_if0 (c0 rfl rfl) rfl (g_if0 (c0 rfl rfl) rfl (g_if0 (c0 rfl rfl) rfl (g_if0 (c0 rfl rfl) rfl (g_if0 (c0 rfl rfl) rfl (g_if0 (c0 rfl rfl) rfl (g_if0 (c0 rfl rfl) rfl (g_if0 (c0 rfl rfl) rfl (g_asgT (l:=[.str s.1,.str s.2]) (e_idx (x:=.tup (its.map fun s:Tx × Tx=>AV.tup [.str s.1,.str s.2])) rfl (e_bin (e_bin (e_bin rfl rfl (z:=.int (N / 10)) rfl) rfl rfl) rfl ei) es) (fun F=>rfl) (g_ret rfl rfl)))))))))))⟩
theorem ph_piece (hk:k≤1000):PkG n k N:=by
 obtain ⟨m,lm,em⟩:=modn (N + k) 10 (by decide)
 obtain ⟨w,lw,ew⟩:=modn (N / 10 + k) 3 (by decide)
 have st:PkS n k N m w:=fun o r hb h =>
  call_o (d:=d_law_piece) (o:=o) [.val (.int N),.val (.int k),.u,.u,.u,.u,.u,.u,.u] rfl rfl rfl (g_asg (e_bin (e_bin rfl rfl rfl) rfl em) (g_asg (e_bin rfl (e_bin (e_bin (e_bin rfl rfl (z:=.int (N / 10)) rfl) rfl rfl) rfl ew) (congrArg (fun z=>R.ok (AV.int z)) (Int.add_comm 1 (w:Int)))) h)) hb
 clear em
 match m,lm,st with
 | 0,_,st=>exact pk0 lw st
 | 1,_,st=>exact pk1 st
 | 2,_,st=>exact pk2 st
 | 3,_,st=>exact pk3 st
 | 4,_,st=>exact pk4 st
 | 5,_,st=>exact pk5 lw st
 | 6,_,st=>exact pk6 lw st
 | 7,_,st=>exact pk7 st
 | 8,_,st=>exact pk8 st
 | 9,_,st=>exact pk9 st
end
end Mine
end
section
set_option tactic.hygienic false
open PySem
namespace Mine
noncomputable def Pc.kn (p:Pc):Nat:=cond p.kp 1 0
noncomputable def smL:List Pc→Tx
 | []=>[] | p::L=>p.sm++smL L
noncomputable def ctL:List Pc→Nat
 | []=>0 | p::L=>p.ct + ctL L
noncomputable def knL:List Pc→Nat
 | []=>0 | p::L=>p.kn + knL L
noncomputable def ixP (pl:Bool) (M i:Nat):Nat:=cond pl (M - 1 - i) i
noncomputable def hdP (pl:Bool) (M i:Nat):Hd:=cond pl (.pl (M - 1 - i + 1)) .no
noncomputable def formL (pl:Bool) (M:Nat):Nat→List Pc→Tx
 | _,[]=>[] | i,p::L=>p.ft (hdP pl M i)++formL pl M (i + p.kn) L
noncomputable def setP (pl:Bool) (M i:Nat) (p:Pc) (q:Nat) (vs:List AV):List AV:=cond p.kp (vs.set (ixP pl M i) (.str (p.val q))) vs
noncomputable def dueT (pl:Bool) (M:Nat):Nat→Nat→List Pc→List AV→List AV
 | _,_,[],vs=>vs | i,q,p::L,vs=>dueT pl M (i + p.kn) (q + p.sm.length) L (setP pl M i p q vs)
noncomputable def restC (pl:Bool) (M q:Nat):List Pc→Bool→Nat→List AV→Nat→Bool × List AV × Nat
 | [],ov,_,vs,m=>(ov,vs,m)
 | p::L,ov,i,vs,m=>restC pl M q L (ov || !Nat.beq p.k 2) (i + p.kn) (cond (ov || !Nat.beq p.k 2) vs (setP pl M i p q vs)) (cond (ov || !Nat.beq p.k 2) m (m + p.ct))
noncomputable def finC (s:Bool × List AV × Nat):AV:=cond s.1 (outS true s.2.2 s.2.1) (.lst s.2.1)
theorem rest_t {pl:Bool} {M q:Nat}:∀ (L:List Pc) (i:Nat) (vs:List AV) (m:Nat),restC pl M q L true i vs m=(true,vs,m)
 | [],_,_,_=>rfl
 | p::L,i,vs,m=>rest_t L _ vs m
section
variable {n:Nat} {t f r tr:Tx} {a q iv m i M:Nat} {cnt mo ix:Int} {vs:List AV} {o:Out} {pl sh:Bool} {p:Pc} {so:Tx}
theorem ix_lt (h:i < M):ixP pl M i < M:=by
 cases pl
 ·exact h
 ·show M - 1 - i < M
  lia
theorem hdR (h:i < M) (hM:M≤800) (hi:pl=false→iv=i):HdR (hdP pl M i) iv (ixP pl M i):=by
 cases pl
 ·exact .inl ⟨rfl,(hi rfl).symm⟩
 ·exact .inr ⟨rfl,by show M - 1 - i < 900; lia⟩
theorem ft_k (K:p.kp=true) (hd:Hd):p.ft hd=37::((hd.t++p.sp)++p.tl):=by unfold Pc.ft; rw [K]; rfl
theorem ft_n (K:p.kp=false) (hd:Hd):p.ft hd=p.tl:=by unfold Pc.ft; rw [K]; rfl
theorem sp_pc (P:PcOk p) (h:f.drop a=p.ft (hdP pl M i)++r) (ht:t.drop q=p.sm++tr) (hq:q≤1000) (hi:pl=false→iv=i) (hM:M≤800) (hl:vs.length=M) (hk:i + p.kn≤M)
  (K:∀ iv',(pl=false→iv'=i + p.kn)→SP n t f cnt (setP pl M i p q vs) (a + (p.ft (hdP pl M i)).length) (q + p.sm.length) iv' (m + p.ct) o):SP n t f cnt vs a q iv m o:=by
 cases P with
 | n N =>
  rw [ft_n N.kp] at h K
  refine N.tk h ht ?_
  have:=K iv fun e=>by rw [hi e]; unfold Pc.kn; rw [N.kp]; rfl
  unfold setP at this
  rw [N.kp] at this
  exact this
 | k d D =>
  have ek:p.kn=1:=by unfold Pc.kn; rw [D.kp]; rfl
  have hlt:i < M:=by lia
  have H:=hdR (iv:=iv) hlt hM hi
  rw [ft_k D.kp,D.sp] at h K
  obtain ⟨sv,es,V⟩:=D.tk (n:=n) ht hq
  have h1:f.drop a=37::(d.t (hdP pl M i)++(p.tl++r)):=by rw [h]; show 37::(_++r)=_; rw [List.append_assoc]
  refine dk_kept D.D H h1 V (by rw [hl]; exact ix_lt hlt) ?_
  have h2:f.drop (a + 1 + (d.t (hdP pl M i)).length)=p.tl++r:=d_app (at_next h1)
  have t2:t.drop (q + sv.length)=p.tl++tr:=d_app (ht.trans (by rw [es,List.append_assoc]))
  refine sp_lits h2 t2 D.tl ?_
  have k:=K (ixP pl M i + 1) fun e=>by rw [ek]; subst e; rfl
  unfold setP at k
  rw [D.kp,D.ct,es,List.length_append,List.length_cons,List.length_append] at k
  have e1:a + 1 + (d.t (hdP pl M i)).length + p.tl.length=a + ((d.t (hdP pl M i)).length + p.tl.length + 1):=by lia
  rw [e1,Nat.add_assoc q]
  exact k
theorem sp_st (P:PcOk p) (h:f.drop a=p.ft (hdP pl M i)++r) (hi:pl=false→iv=i) (hM:M≤800) (hk:i + p.kn≤M) (hs:StE p t q sh):SP n t f cnt vs a q iv m (.ok (.ret (outS sh m vs))):=by
 cases P with
 | n N =>
  rw [ft_n N.kp] at h
  exact N.st h hs
 | k d D =>
  have ek:p.kn=1:=by unfold Pc.kn; rw [D.kp]; rfl
  have hlt:i < M:=by lia
  have H:=(hdR (iv:=iv) hlt hM hi).ok
  rw [ft_k D.kp,D.sp] at h
  have h1:f.drop a=37::(d.t (hdP pl M i)++(p.tl++r)):=by rw [h]; show 37::(_++r)=_; rw [List.append_assoc]
  have V:=D.st (n:=n) hs
  rw [← H.2.1] at V
  exact dk_brk D.D H.1 H.2.2 h1 V
theorem set_len:(setP pl M i p q vs).length=vs.length:=by
 unfold setP
 cases p.kp
 ·rfl
 ·exact List.length_set
theorem sp_take:∀ (A:List Pc) {i a q iv m:Nat} {vs:List AV},(∀ p ∈ A,PcOk p)→f.drop a=formL pl M i A++r→t.drop q=smL A++tr→q + (smL A).length≤1000→(pl=false→iv=i)→M≤800→vs.length=M→i + knL A≤M →
  (∀ iv',(pl=false→iv'=i + knL A)→SP n t f cnt (dueT pl M i q A vs) (a + (formL pl M i A).length) (q + (smL A).length) iv' (m + ctL A) o)→SP n t f cnt vs a q iv m o
 | [],i,a,q,iv,m,vs,_,_,_,_,hi,_,_,_,K=>K iv hi
 | p::A,i,a,q,iv,m,vs,hA,h,ht,hq,hi,hM,hl,hk,K=>by
  have hk':i + (p.kn + knL A)≤M:=hk
  have hq':q + (p.sm++smL A).length≤1000:=hq
  rw [List.length_append] at hq'
  have h1:f.drop a=p.ft (hdP pl M i)++(formL pl M (i + p.kn) A++r):=h.trans (List.append_assoc _ _ _)
  have t1:t.drop q=p.sm++(smL A++tr):=ht.trans (List.append_assoc _ _ _)
  refine sp_pc (hA p (.head _)) h1 t1 (by lia) hi hM hl (by lia) fun iv' hi'=>sp_take A (fun x hx=>hA x (.tail _ hx)) (d_app h1) (d_app t1) (by lia) hi' hM (set_len.trans hl) (by lia) fun iv'' hi''=>?_
  have k:=K iv'' fun e=>(hi'' e).trans (Nat.add_assoc i p.kn (knL A))
  have e1:(formL pl M i (p::A)).length=(p.ft (hdP pl M i)).length + (formL pl M (i + p.kn) A).length:=List.length_append
  have e2:(smL (p::A)).length=p.sm.length + (smL A).length:=List.length_append
  rw [e1,e2,← Nat.add_assoc,← Nat.add_assoc,show m + ctL (p::A)=m + p.ct + ctL A from (Nat.add_assoc m p.ct (ctL A)).symm] at k
  exact k
theorem sm2 (P:PcOk p) (h2:p.k=2) (F:PcF p):p.kp=true∧p.ct=1:=by
 cases P with
 | n N=>exact absurd h2 N.k2
 | k d D=>exact ⟨D.kp,D.ct⟩
theorem sp_rest (ht:t.drop q=[]) (hq:q≤1000):∀ (B:List Pc) {i a iv m:Nat} {vs:List AV},(∀ p ∈ B,PcOk p∧(p.k=2→p.sm=[]))→f.drop a=formL pl M i B→(pl=false→iv=i)→M≤800→vs.length=M→i + knL B≤M→SP n t f cnt vs a q iv m (.ok (.ret (finC (restC pl M q B false i vs m))))
 | [],i,a,iv,m,vs,_,h,_,_,_,_=>sp_end h
 | p::B,i,a,iv,m,vs,hB,h,hi,hM,hl,hk=>by
  have hk':i + (p.kn + knL B)≤M:=hk
  have hp:=hB p (.head _)
  unfold restC
  cases h2:Nat.beq p.k 2 with
  | true =>
   have hs:=hp.2 (Nat.eq_of_beq_eq_true h2)
   refine sp_pc (tr:=[]) hp.1 h (by rw [ht,hs]; rfl) hq hi hM hl (by lia) fun iv' hi'=>?_
   rw [hs]
   exact sp_rest ht hq B (fun x hx=>hB x (.tail _ hx)) (d_app h) hi' hM (set_len.trans hl) (by lia)
  | false =>
   show SP n t f cnt vs a q iv m (.ok (.ret (finC (restC pl M q B true _ vs m))))
   rw [rest_t]
   exact sp_st hp.1 h hi hM (by lia) (.inl ⟨ht,rfl,fun e=>by rw [e] at h2; cases h2⟩)
noncomputable def ksP (pl:Bool) (M i:Nat):List Nat:=(List.range i).map (ixP pl M)
theorem ks_succ:ksP pl M (i + 1)=ksP pl M i++[ixP pl M i]:=by unfold ksP; rw [List.range_succ,List.map_append]; rfl
theorem ks_out (h:i < M):ixP pl M i ∉ ksP pl M i:=fun hm=>by
 obtain ⟨j,hj,e⟩:=List.mem_map.mp hm
 have hj:=List.mem_range.mp hj
 cases pl
 ·exact Nat.ne_of_lt hj e
 ·have:M - 1 - j=M - 1 - i:=e
  lia
theorem ks_all:∀ j,j < M→j ∈ ksP pl M M:=fun j hj=>by
 cases pl
 ·exact List.mem_map.mpr ⟨j,List.mem_range.mpr hj,rfl⟩
 ·exact List.mem_map.mpr ⟨M - 1 - j,List.mem_range.mpr (by lia),by show M - 1 - (M - 1 - j)=j; lia⟩
def Cv (pl:Bool) (M i:Nat) (mo ix:Int):Prop:=cond pl ((i=0∧mo=0∧ix=0)∨(0 < i∧mo=M)) (mo=0∧ix=i)
theorem cp_all:∀ (L:List Pc) {i a:Nat} {so:Tx} {mo ix:Int},(∀ p ∈ L,PcOk p)→f.drop a=formL pl M i L→so=[]∨so=cond pl [36] [37]→Cv pl M i mo ix→i + knL L=M→M≤800→CP n f 0 (toldL (ksP pl M i)) so mo ix a (.ok (.ret (.int M)))
 | [],i,a,so,mo,ix,_,h,_,C,hk,hM=>cp_end h fun s6 s7 s8 s9 s10 s11 s12 s13=>by
  have hi:i=M:=hk
  subst hi
  have e:manyC 0 mo ix=(i:Int):=by
   show cond (decide (0 < mo)) mo ix=_
   cases pl
   ·obtain ⟨h1,h2⟩:=(C:mo=0∧ix=i)
    rw [h1,h2]
    rfl
   ·rcases (C:(i=0∧mo=0∧ix=0)∨(0 < i∧mo=i)) with ⟨h0,h1,h2⟩ | ⟨h0,h1⟩
    ·rw [h0,h1,h2]
     rfl
    ·rw [h1,show decide ((0:Int) < (i:Int))=true from dlt (Int.ofNat_lt.mpr h0)]
     rfl
  have G:=cs_end (n:=n) (f:=f) (cnt:=0) (so:=so) (mo:=mo) (ix:=ix) (td:=toldL (ksP pl i i)) (q:=.ok .none) (by rw [e]; exact told_all ks_all (by lia)) (s6:=s6) (s7:=s7) (s8:=s8) (s9:=s9) (s10:=s10) (s11:=s11) (s12:=s12) (s13:=s13)
  rw [e] at G
  exact G
 | p::L,i,a,so,mo,ix,hL,h,hso,C,hk,hM=>by
  have hk':i + (p.kn + knL L)=M:=hk
  have h1:f.drop a=p.ft (hdP pl M i)++formL pl M (i + p.kn) L:=h
  have rc:=fun {so mo ix} (hso:so=[]∨so=cond pl [36] [37]) (C:Cv pl M (i + p.kn) mo ix)=>cp_all L (so:=so) (mo:=mo) (ix:=ix) (fun x hx=>hL x (.tail _ hx)) (d_app h1) hso C (by lia) hM
  cases hL p (.head _) with
  | n N =>
   have e0:p.kn=0:=by unfold Pc.kn; rw [N.kp]; rfl
   rw [e0] at rc
   rw [ft_n N.kp] at h1 rc
   exact N.ck h1 (rc hso C)
  | k d D =>
   have ek:p.kn=1:=by unfold Pc.kn; rw [D.kp]; rfl
   rw [ek] at rc hk'
   rw [ft_k D.kp,D.sp] at h1 rc
   have hlt:i < M:=by lia
   have h2:f.drop a=37::(d.t (hdP pl M i)++(p.tl++formL pl M (i + p.kn) L)):=by rw [h1]; show 37::(_++_)=_; rw [List.append_assoc]
   have ln:(ksP pl M i).length≤1000:=by unfold ksP; rw [List.length_map,List.length_range]; lia
   have e1:a + (37::(d.t (hdP pl M i)++p.tl)).length=a + 1 + (d.t (hdP pl M i)).length + p.tl.length:=by rw [List.length_cons,List.length_append]; lia
   have tail:∀ {so mo ix} {o:Out},CP n f 0 (toldL (ksP pl M (i + 1))) so mo ix (a + (37::(d.t (hdP pl M i)++p.tl)).length) o→CP n f 0 (toldL (ksP pl M i++[ixP pl M i])) so mo ix (a + 1 + (d.t (hdP pl M i)).length) o:=fun {so mo ix o} k=>by
    rw [e1,ks_succ] at k
    exact cp_lits (d_app (at_next h2)) (fun c hc=>(D.tl c hc).2) k
   have out:=ks_out (pl:=pl) hlt
   cases pl with
   | false =>
    obtain ⟨c1,c2⟩:=(C:mo=0∧ix=i)
    subst c2
    exact dk_no D.D h2 hso rfl out ln (tail (rc (.inr rfl) ⟨c1,rfl⟩))
   | true =>
    refine dk_pl D.D h2 hso (by show M - 1 - i < 900; lia) rfl out ln (tail (rc (.inr rfl) (.inr ⟨Nat.succ_pos i,?_⟩)))
    rcases (C:(i=0∧mo=0∧ix=0)∨(0 < i∧mo=M)) with ⟨h0,h1,_⟩ | ⟨h0,h1⟩ <;> rw [h1] <;> lia
theorem ck_all {L:List Pc} (hL:∀ p ∈ L,PcOk p) (hM:knL L≤800):Ph (n + 7) 199 [.str (formL pl (knL L) 0 L),.int 0]=.ok (.int (knL L)):=by
 refine ph_check (cp_all (pl:=pl) L (i:=0) hL rfl (.inl rfl) ?_ (Nat.zero_add _) hM) rfl
 cases pl
 ·exact ⟨rfl,rfl⟩
 ·exact .inl ⟨rfl,rfl,rfl⟩
end
end Mine
end
section
set_option tactic.hygienic false
open PySem
namespace Mine
section
variable {n j M most i dn q:Nat} {L A B:List Pc} {a0 a1 a2:AV} {pl wr ov:Bool} {tx fm:Tx} {vs:List AV} {p:Pc} {s4 s7 s19 s21:SV} {τ:T9} {σ:Env'}
theorem e_compL {fr:List Nat} {e:ME} {elt cond:Option ME} {l0:List AV} {ρ:List SV} {l:List AV} (h1:ev n e σ=.ok (.lst l0)) (h3:frees σ fr=some ρ) (h4:collect (fun v=>(evO noCalls cond (.val v::ρ)).bind fun o=>testO o (eltR v (evO noCalls elt (.val v::ρ)))) l0=.ok l) (h5:decide (l.length≤lLine)=true):ev n (.comp fr .lst e elt cond) σ=.ok (.lst l):=by
 refine (bd h1 rfl).trans ?_
 show oO (frees σ fr) (fun ρ=>sizeL (quiet (collect _ l0)))=_
 rw [h3]
 show sizeL (quiet (collect _ l0))=_
 rw [h4]
 exact limT h5
noncomputable def smE:ME:=.idx (.v 0) (.c (.int 3))
noncomputable def spE:ME:=.cmp (.idx (.v 0) (.c (.int 1))) .ne (.c (.str []))
theorem col_sm:∀ A:List Pc,collect (fun v=>(evO noCalls none (.val v::[])).bind fun o=>testO o (eltR v (evO noCalls (some smE) (.val v::[])))) (A.map Pc.av)=.ok (A.map fun p=>AV.str p.sm)
 | []=>rfl
 | p::A=>bd rfl (bd (col_sm A) rfl)
theorem col_ln:∀ A:List Pc,collect (fun v=>(evO noCalls none (.val v::[])).bind fun o=>testO o (eltR v (evO noCalls (some (.bi .len [smE])) (.val v::[])))) (A.map Pc.av)=.ok (A.map fun p=>AV.int p.sm.length)
 | []=>rfl
 | p::A=>bd rfl (bd (col_ln A) rfl)
theorem col_sp:∀ A:List Pc,(∀ p ∈ A,PcF p)→∃ l,collect (fun v=>(evO noCalls (some spE) (.val v::[])).bind fun o=>testO o (eltR v (evO noCalls none (.val v::[])))) (A.map Pc.av)=.ok l∧l.length=knL A
 | [],_=>⟨[],rfl,rfl⟩
 | p::A,h=>by
  obtain ⟨l,h1,h2⟩:=col_sp A fun x hx=>h x (.tail _ hx)
  have e:evO noCalls (some spE) (.val p.av::[])=.ok (some (.bool (!AV.eqv (.str p.sp) (.str [])))):=rfl
  rw [(h p (.head _)).e1] at e
  unfold knL Pc.kn
  cases hk:p.kp with
  | true =>
   rw [hk] at e
   exact ⟨p.av::l,bd (a:=some p.av) (bd e rfl) (bd h1 rfl),(congrArg (· + 1) h2).trans (Nat.add_comm _ _)⟩
  | false =>
   rw [hk] at e
   exact ⟨l,bd (a:=none) (bd e rfl) (bd h1 rfl),h2.trans (Nat.zero_add _).symm⟩
theorem strs_sm:∀ A:List Pc,∃ ss,strsOf (A.map fun p=>AV.str p.sm)=.ok ss∧ss.flatten=smL A
 | []=>⟨[],rfl,rfl⟩
 | p::A=>by
  obtain ⟨ss,h1,h2⟩:=strs_sm A
  exact ⟨p.sm::ss,bd h1 rfl,congrArg (p.sm++·) h2⟩
theorem sum_sm:∀ A:List Pc,sumInts (A.map fun p=>AV.int p.sm.length)=.ok ((smL A).length:Int)
 | []=>rfl
 | p::A=>by
  refine (bd (sum_sm A) rfl:sumInts (AV.int p.sm.length::A.map fun p=>AV.int p.sm.length)=_).trans ?_
  rw [show smL (p::A)=p.sm++smL A from rfl,List.length_append]
  rfl
theorem slop_l {k:Nat}:slop (.lst (L.map Pc.av)) none (some (.int k))=.ok (.lst ((L.take k).map Pc.av)):=by rw [List.map_take]; rfl
noncomputable def stS (a0 a1 a2:AV) (L:List Pc) (s4:SV) (M:Nat) (pl:Bool) (s7:SV) (most:Nat) (tx:Tx) (wr:Bool) (fm:Tx) (vs:List AV) (i dn:Nat) (ov:Bool) (τ:T9):Env' :=
 [.val a0,.val a1,.val a2,.val (.lst (L.map Pc.av)),s4,.val (.int M),.val (.bool pl),s7,.val (.int most),.val (.str tx),.val (.bool wr),.val (.str fm),.sl vs,.val (.int i),.val (.int dn),.val (.bool ov),τ.s7,τ.s8,τ.s9,τ.s10,τ.s11,τ.s12]
noncomputable def sB:List MS:=loB (c_law_is_scanned.drop 15)
theorem pl_str (h:i < M) (hM:M≤800) (h6:getV σ 6=.ok (.bool pl)) (h21:getV σ 21=.ok (.int (ixP pl M i))):ev n (.ite (.v 6) (.bin .add (.bi .str [(.bin .add (.v 21) (.c (.int 1)))]) (.c (.str [36]))) (.c (.str []))) σ=.ok (.str (hdP pl M i).t):=by
 cases pl with
 | false=>exact e_f h6 rfl rfl
 | true=>exact e_t h6 rfl (e_bin (e_bi (el_cons (v:=.int (M - 1 - i + 1:Nat)) (e_bin h21 rfl rfl) rfl) (str_nat (Nat.lt_trans (by omega:M - 1 - i + 1 < 1000) (by decide)))) rfl (add_k (Nat.le_trans (dgS_len _ _ _) (by decide)) (by decide)))
theorem ev_ix (h:i < M) (h5:getV σ 5=.ok (.int M)) (h6:getV σ 6=.ok (.bool pl)) (h13:getV σ 13=.ok (.int i)):ev n (.ite (.v 6) (.bin .sub (.bin .sub (.v 5) (.c (.int 1))) (.v 13)) (.v 13)) σ=.ok (.int (ixP pl M i)):=by
 cases pl with
 | false=>exact e_f h6 rfl h13
 | true=>exact e_t h6 rfl (e_bin (e_bin h5 rfl rfl) h13 (congrArg (fun z=>R.ok (AV.int z)) (by show (M:Int) - 1 - i=((M - 1 - i:Nat):Int); omega)))
theorem hd_len:(hdP pl M i).t.length≤101:=by
 cases pl
 ·exact Nat.zero_le _
 ·show (dgS false 10 _++[36]).length≤101
  rw [List.length_append]
  exact Nat.succ_le_succ (dgS_len _ _ _)
theorem t_tail {v:Tx} (F:PcF p) (hk:i + p.kn≤M) (hM:M≤800) (hv:vs.length=M) (hf:fm.length≤5000):∃ t21,Go n (sB.drop 4) (stS a0 a1 a2 L s4 M pl s7 most tx wr fm vs i dn ov ⟨.val (.int p.k),.val (.str p.sp),.val (.str p.tl),s19,.val (.str v),s21,.u,.u,.u⟩) nx
  (.ok (.next (stS a0 a1 a2 L s4 M pl s7 most tx wr (fm++p.ft (hdP pl M i)) (cond ov vs (cond p.kp (vs.set (ixP pl M i) (.str v)) vs)) (i + p.kn) dn ov ⟨.val (.int p.k),.val (.str p.sp),.val (.str p.tl),s19,.val (.str v),t21,.u,.u,.u⟩))):=by
 have l1:=F.l1
 have l2:=F.l2
 cases hkp:p.kp with
 | false =>
  have e1:cmpop .ne (.str p.sp) (.str [])=.ok false:=by show R.ok (!AV.eqv (.str p.sp) (.str []))=_; rw [F.e1,hkp]; rfl
  have ek:i + p.kn=i:=by unfold Pc.kn; rw [hkp]; rfl
  rw [ek,ft_n hkp,show cond ov vs (cond false (vs.set (ixP pl M i) (.str v)) vs)=vs by cases ov <;> rfl]
  exact ⟨s21,g_if0 (e_cmp rfl rfl e1) rfl (g_asg (e_bin rfl rfl (add_s (by omega))) (g_done rfl))⟩
 | true =>
  have e1:cmpop .ne (.str p.sp) (.str [])=.ok true:=by show R.ok (!AV.eqv (.str p.sp) (.str []))=_; rw [F.e1,hkp]; rfl
  have ek:p.kn=1:=by unfold Pc.kn; rw [hkp]; rfl
  rw [ek] at hk ⊢
  have lh:=hd_len (pl:=pl) (M:=M) (i:=i)
  have k1:(fm++[37]).length≤5001:=len_k hf (b:=1) (by decide) (by decide)
  have k2:((fm++[37])++(hdP pl M i).t).length≤5200:=len_k k1 lh (by decide)
  have k3:(((fm++[37])++(hdP pl M i).t)++p.sp).length≤5300:=len_k k2 l1 (by decide)
  have ef:(((fm++[37])++(hdP pl M i).t)++p.sp)++p.tl=fm++p.ft (hdP pl M i):=by
   rw [ft_k hkp,List.append_assoc,List.append_assoc,List.append_assoc]
   show fm++37::(_++(_++_))=fm++37::(_++_)
   rw [List.append_assoc]
   rfl
  rw [← ef]
  have hset:∀ {u:AV},Go n [.ite (.not (.v 15)) [.setL 12 (.v 21) (.v 20)] []] (stS a0 a1 a2 L s4 M pl s7 most tx wr (((fm++[37])++(hdP pl M i).t)++p.sp) vs (i + 1) dn ov ⟨.val (.int p.k),.val (.str p.sp),.val (.str p.tl),s19,.val (.str v),.val (.int (ixP pl M i)),.u,.u,.u⟩) nx
    (.ok (.next (stS a0 a1 a2 L s4 M pl s7 most tx wr (((fm++[37])++(hdP pl M i).t)++p.sp) (cond ov vs (vs.set (ixP pl M i) (.str v))) (i + 1) dn ov ⟨.val (.int p.k),.val (.str p.sp),.val (.str p.tl),s19,.val (.str v),.val (.int (ixP pl M i)),.u,.u,.u⟩))):=fun {u}=>by
   cases ov with
   | true=>exact g_if0 (e_not rfl) rfl (g_done rfl)
   | false=>exact g_it (e_not rfl) rfl (g_setL rfl rfl rfl (by rw [hv]; exact ix_lt hk) (g_done rfl)) (g_done rfl)
  exact ⟨_,g_it (e_cmp rfl rfl e1) rfl (g_asg (ev_ix hk rfl rfl rfl) (g_asg (e_bin (e_bin (e_bin rfl rfl (add_s (Nat.le_trans (Nat.add_le_add_right hf 1) (by decide)))) (pl_str hk hM rfl rfl) (add_s (Nat.le_trans (Nat.add_le_add k1 lh) (by decide)))) rfl (add_s (Nat.le_trans (Nat.add_le_add k2 l1) (by decide)))) (g_asg (e_bin rfl rfl rfl) (hset (u:=.none))))) (g_asg (e_bin rfl rfl (add_s (Nat.le_trans (Nat.add_le_add k3 l2) (by decide)))) (g_done rfl))⟩
noncomputable def qC (L:List Pc) (most:Nat) (tx:Tx) (j:Nat):Nat:=cond (decide (j < most)) (smL (L.take j)).length tx.length
noncomputable def ovC (most j:Nat) (ov:Bool) (p:Pc):Bool:=ov || (!decide (j < most) && !Nat.beq p.k 2)
def STurn (n j M most i dn:Nat) (L:List Pc) (a0 a1 a2:AV) (pl wr ov:Bool) (tx fm:Tx) (vs:List AV) (p:Pc) (s7:SV) (τ:T9):Prop:=∃ τ':T9,Go n sB (stS a0 a1 a2 L (.val (.int j)) M pl s7 most tx wr fm vs i dn ov τ) nx
  (.ok (.next (stS a0 a1 a2 L (.val (.int j)) M pl s7 most tx wr (fm++p.ft (hdP pl M i)) (cond (ovC most j ov p) vs (setP pl M i p (qC L most tx j) vs)) (i + p.kn) (cond (ovC most j ov p) dn (dn + p.ct)) (ovC most j ov p) τ')))
theorem s_turn (hp:L[j]?=some p) (F:PcF p) (hk:i + p.kn≤M) (hM:M≤800) (hv:vs.length=M) (hf:fm.length≤5000) (hL:(smL (L.take j)).length≤1000) (htx:tx.length≤1000) (hLl:L.length≤100):STurn n j M most i dn L a0 a1 a2 pl wr ov tx fm vs p s7 τ:=by
 obtain ⟨t21,T⟩:=t_tail (n:=n) (a0:=a0) (a1:=a1) (a2:=a2) (L:=L) (s4:=.val (.int j)) (pl:=pl) (s7:=s7) (most:=most) (tx:=tx) (wr:=wr) (dn:=cond (ovC most j ov p) dn (dn + p.ct)) (ov:=ovC most j ov p) (s19:=.val (.str p.sm)) (s21:=τ.s12) (v:=p.val (qC L most tx j)) F hk hM hv hf
 refine ⟨⟨.val (.int p.k),.val (.str p.sp),.val (.str p.tl),.val (.str p.sm),.val (.str (p.val (qC L most tx j))),t21,.u,.u,.u⟩,?_⟩
 have hi:idxop (.lst (L.map Pc.av)) (.int j)=.ok p.av:=ixl (by rw [List.getElem?_map,hp]; rfl)
 refine g_asgT (l:=[.int p.k,.str p.sp,.str p.tl,.str p.sm,.str p.vl]) (e_idx rfl rfl hi) (fun F=>rfl) ?_
 have hlt:decide ((most:Int)≤(j:Int))=!decide (j < most):=by
  by_cases h:j < most
  ·rw [decide_eq_true h,decide_eq_false (by omega)]; rfl
  ·rw [decide_eq_false h,decide_eq_true (by omega)]; rfl
 have hlt2:decide ((j:Int) < (most:Int))=decide (j < most):=decide_eq_decide.mpr Int.ofNat_lt
 have h15:∀ {a4 a5:SV},ev n (.or [(.v 15),(.and [(.cmp (.v 4) .ge (.v 8)),(.cmp (.v 16) .ne (.c (.int 2)))])]) (stS a0 a1 a2 L (.val (.int j)) M pl s7 most tx wr fm vs i dn ov ⟨.val (.int p.k),.val (.str p.sp),.val (.str p.tl),.val (.str p.sm),.val (.str p.vl),τ.s12,.u,.u,.u⟩)=.ok (.bool (ovC most j ov p)):=fun {a4 a5}=>by
  unfold ovC
  cases ov with
  | true=>exact e_ort rfl rfl
  | false =>
   refine e_orf rfl rfl ?_
   have hne:cmpop .ne (.int p.k) (.int 2)=.ok (!Nat.beq p.k 2):=congrArg (fun b=>R.ok (!b)) F.e4
   cases h1:decide (j < most) with
   | true=>rw [h1] at hlt; exact e_orf (e_andf (e_cmp rfl rfl rfl) hlt) rfl rfl
   | false =>
    rw [h1] at hlt
    cases h2:Nat.beq p.k 2 with
    | true=>rw [h2] at hne; exact e_orf (e_and (e_cmp rfl rfl rfl) hlt (e_andf (e_cmp rfl rfl hne) rfl)) rfl rfl
    | false=>rw [h2] at hne; exact e_ort (e_and (e_cmp rfl rfl rfl) hlt (e_and (e_cmp rfl rfl hne) rfl rfl)) rfl
 refine g_asg (h15 (a4:=.u) (a5:=.u)) ?_
 have s3:Go n (sB.drop 3) (stS a0 a1 a2 L (.val (.int j)) M pl s7 most tx wr fm vs i dn (ovC most j ov p) ⟨.val (.int p.k),.val (.str p.sp),.val (.str p.tl),.val (.str p.sm),.val (.str (p.val (qC L most tx j))),τ.s12,.u,.u,.u⟩) nx (.ok (.next (stS a0 a1 a2 L (.val (.int j)) M pl s7 most tx wr (fm++p.ft (hdP pl M i)) (cond (ovC most j ov p) vs (setP pl M i p (qC L most tx j) vs)) (i + p.kn) (cond (ovC most j ov p) dn (dn + p.ct)) (ovC most j ov p) ⟨.val (.int p.k),.val (.str p.sp),.val (.str p.tl),.val (.str p.sm),.val (.str (p.val (qC L most tx j))),t21,.u,.u,.u⟩))):=by
  generalize ovC most j ov p=ov' at T ⊢
  cases ov' with
  | true=>exact g_if0 (e_andf (e_not rfl) rfl) rfl T
  | false =>
   have hct:=F.ct
   cases h1:Nat.beq p.ct 1 with
   | true =>
    have e:=F.e2
    rw [h1] at e
    have ec:p.ct=1:=Nat.eq_of_beq_eq_true h1
    rw [ec] at T ⊢
    exact g_it (e_and (e_not rfl) rfl (e_and (e_cmp rfl rfl e) rfl rfl)) rfl (g_asg (e_bin rfl rfl rfl) (g_done rfl)) T
   | false =>
    have e:=F.e2
    rw [h1] at e
    have ec:p.ct=0:=by
     rcases Nat.lt_or_eq_of_le hct with h | h
     ·exact Nat.lt_one_iff.mp h
     ·rw [h] at h1; cases h1
    rw [ec] at T ⊢
    exact g_if0 (e_and (e_not rfl) rfl (e_andf (e_cmp rfl rfl e) rfl)) rfl T
 have l16:cmpop .eq (.int p.k) (.int 2)=.ok (Nat.beq p.k 2):=congrArg R.ok F.e4
 unfold Pc.val qC at s3 ⊢
 cases h2:Nat.beq p.k 2 with
 | false=>rw [h2] at l16 s3; exact g_if0 (e_cmp rfl rfl l16) rfl s3
 | true =>
  rw [h2] at l16 s3
  have st1:=str_nat (m:=tx.length) (Nat.lt_of_le_of_lt htx (by decide))
  cases h1:decide (j < most) with
  | false =>
   rw [h1] at hlt2 s3
   exact g_it (e_cmp rfl rfl l16) rfl (g_asg (e_bi (el_cons (e_bi rfl rfl) rfl) st1) (g_if0 (e_cmp rfl rfl rfl) hlt2 (g_done rfl))) s3
  | true =>
   rw [h1] at hlt2 s3
   have st2:=str_nat (m:=(smL (L.take j)).length) (Nat.lt_of_le_of_lt hL (by decide))
   have hc:∀ {u20:SV},ev n (.comp [] .lst (.sl (.v 3) none (some (.v 4))) (some (.bi .len [smE])) none) (stS a0 a1 a2 L (.val (.int j)) M pl s7 most tx wr fm vs i dn (ovC most j ov p) ⟨.val (.int p.k),.val (.str p.sp),.val (.str p.tl),.val (.str p.sm),u20,τ.s12,.u,.u,.u⟩)=.ok (.lst ((L.take j).map fun p=>AV.int p.sm.length)):=fun {u20} =>
    e_compL (e_sl rfl rfl rfl slop_l) rfl (col_ln _) (lll (by rw [List.length_map]; exact Nat.le_trans (List.length_take_le' _ _) (Nat.le_trans hLl (by decide))))
   exact g_it (e_cmp rfl rfl l16) rfl (g_asg (e_bi (el_cons (e_bi rfl rfl) rfl) st1) (g_it (e_cmp rfl rfl rfl) hlt2 (g_asg (e_bi (el_cons (e_bi (el_cons hc rfl) (bd (sum_sm _) rfl)) rfl) st2) (g_done rfl)) (g_done rfl))) s3
end
end Mine
end
section
set_option tactic.hygienic false
open PySem
namespace Mine
noncomputable def loopC (pl:Bool) (M:Nat) (L:List Pc) (most:Nat) (tx:Tx):Nat→List Pc→Bool→Nat→List AV→Nat→Bool × List AV × Nat
 | _,[],ov,_,vs,m=>(ov,vs,m)
 | j,p::B,ov,i,vs,m=>loopC pl M L most tx (j + 1) B (ovC most j ov p) (i + p.kn) (cond (ovC most j ov p) vs (setP pl M i p (qC L most tx j) vs)) (cond (ovC most j ov p) m (m + p.ct))
section
variable {n j M most i dn q:Nat} {L A B:List Pc} {a0 a1 a2:AV} {pl wr ov:Bool} {tx fm:Tx} {vs:List AV} {p:Pc} {s4 s7:SV} {τ:T9} {σ:Env'}
theorem loop_rest:∀ (B:List Pc) {j:Nat} {ov:Bool} {i:Nat} {vs:List AV} {m:Nat},most≤j→loopC pl M L most tx j B ov i vs m=restC pl M tx.length B ov i vs m
 | [],j,ov,i,vs,m,_=>rfl
 | p::B,j,ov,i,vs,m,h=>by
  have e:decide (j < most)=false:=dgt (Nat.not_lt.mpr h)
  unfold loopC restC qC ovC
  rw [e]
  exact loop_rest B (Nat.le_succ_of_le h)
theorem sm_take (hp:L.drop j=p::B):(smL (L.take (j + 1))).length=(smL (L.take j)).length + p.sm.length:=by
 have e:∀ (L:List Pc) (j:Nat),L.drop j=p::B→smL (L.take (j + 1))=smL (L.take j)++p.sm:=fun L=>by
  induction L with
  | nil=>intro j h; rw [List.drop_nil] at h; cases h
  | cons x L ih =>
   intro j h
   cases j with
   | zero=>cases h; exact List.append_nil _
   | succ j=>show x.sm++smL (L.take (j + 1))=(x.sm++smL (L.take j))++p.sm; rw [ih j h,List.append_assoc]
 rw [e L j hp,List.length_append]
theorem loop_take:∀ (A:List Pc) {j i:Nat} {vs:List AV} {m:Nat},L.drop j=A++B→j + A.length=most→loopC pl M L most tx j (A++B) false i vs m=loopC pl M L most tx most B false (i + knL A) (dueT pl M i (smL (L.take j)).length A vs) (m + ctL A)
 | [],j,i,vs,m,_,h=>by
  have h:j=most:=h
  subst h
  rfl
 | p::A,j,i,vs,m,hd,h=>by
  have h':j + (A.length + 1)=most:=h
  have e:decide (j < most)=true:=dlt (by lia)
  have g:=loop_take A (j:=j + 1) (i:=i + p.kn) (vs:=setP pl M i p (smL (L.take j)).length vs) (m:=m + p.ct) (l_next hd) (by lia)
  rw [sm_take hd,Nat.add_assoc i,Nat.add_assoc m] at g
  refine (?_:loopC pl M L most tx j (p::(A++B)) false i vs m=_).trans g
  show loopC pl M L most tx (j + 1) (A++B) (ovC most j false p) _ _ _=_
  unfold ovC qC
  rw [e]
  rfl
def Sc (vs:List AV):Prop:=∀ x ∈ vs,x.scalar=true
theorem sc_set (h:Sc vs):Sc (setP pl M i p q vs):=by
 unfold setP
 cases p.kp
 ·exact h
 ·exact fun x hx=>(List.mem_or_eq_of_mem_set hx).elim (h x) fun e=>e ▸ rfl
theorem sc_loop:∀ (B:List Pc) {j:Nat} {ov:Bool} {i:Nat} {vs:List AV} {m:Nat},Sc vs→Sc (loopC pl M L most tx j B ov i vs m).2.1
 | [],j,ov,i,vs,m,h=>h
 | p::B,j,ov,i,vs,m,h=>by
  refine sc_loop B (?_:Sc (cond (ovC most j ov p) vs _))
  cases ovC most j ov p
  ·exact sc_set h
  ·exact h
theorem sc_eq:∀ {vs:List AV},Sc vs→AV.eqvs vs vs=true∧AV.depths vs=0
 | [],_=>⟨rfl,rfl⟩
 | a::vs,h=>by
  obtain ⟨h1,h2⟩:=sc_eq fun x hx=>h x (.tail _ hx)
  have e:AV.eqv a a=true∧a.depth=0:=match a,h a (.head _) with
   | .none,_=>⟨rfl,rfl⟩
   | .bool b,_=>⟨beq_self_eq_true b,rfl⟩
   | .int i,_=>⟨eqi,rfl⟩
   | .str s,_=>⟨(beq_self_eq_true s:(s == s)=true),rfl⟩
  exact ⟨andT e.1 h1,by show max a.depth (AV.depths vs)=0; rw [e.2,h2]; rfl⟩
theorem eq_sc (h:Sc vs):cmpop .eq (.lst vs) (.lst vs)=.ok true:=by
 obtain ⟨h1,h2⟩:=sc_eq h
 refine (limT (by show Nat.ble (AV.depths vs + 1) 20=true; rw [h2]; rfl)).trans (congrArg R.ok ?_)
 exact h1
theorem knL_le:∀ L:List Pc,knL L≤L.length
 | []=>Nat.le_refl _
 | p::L=>by
  have:=knL_le L
  have h:p.kn≤1:=by unfold Pc.kn; cases p.kp <;> decide
  exact Nat.le_trans (Nat.add_le_add h this) (Nat.le_of_eq (Nat.add_comm _ _))
theorem smL_le:∀ L:List Pc,(∀ p ∈ L,PcF p)→(smL L).length≤10 * L.length
 | [],_=>Nat.zero_le _
 | p::L,h=>by
  have h1:=smL_le L fun x hx=>h x (.tail _ hx)
  have h2:=(h p (.head _)).l3
  show (p.sm++smL L).length≤10 * (L.length + 1)
  rw [List.length_append]
  lia
theorem ft_le (F:PcF p):(p.ft (hdP pl M i)).length≤122:=by
 have h1:=F.l1
 have h2:=F.l2
 have h3:=hd_len (pl:=pl) (M:=M) (i:=i)
 cases hk:p.kp with
 | false=>rw [ft_n hk]; exact Nat.le_trans h2 (by decide)
 | true =>
  rw [ft_k hk,List.length_cons,List.length_append,List.length_append]
  exact Nat.succ_le_succ (Nat.add_le_add (Nat.add_le_add h3 h1) h2)
theorem fr3 (hF:∀ p ∈ L,PcF p) (hM:M≤800) (htx:tx.length≤1000) (hLl:L.length≤10) {F:Env'→Out} {o:Out}:∀ (B:List Pc) {j i dn:Nat} {fm:Tx} {vs:List AV} {ov:Bool} {s4:SV} {τ:T9},L.drop j=B→i + knL B≤M→vs.length=M→fm.length + 122 * B.length≤5000 →
  (∀ t4 τ',F (stS a0 a1 a2 L t4 M pl s7 most tx wr (fm++formL pl M i B) (loopC pl M L most tx j B ov i vs dn).2.1 (i + knL B) (loopC pl M L most tx j B ov i vs dn).2.2 (loopC pl M L most tx j B ov i vs dn).1 τ')=o) →
  Fr n .rng [4] sB ((List.range' j B.length).map fun (i:Nat)=>AV.int i) (stS a0 a1 a2 L s4 M pl s7 most tx wr fm vs i dn ov τ) F o
 | [],j,i,dn,fm,vs,ov,s4,τ,_,_,_,_,K=>by
  have k:=K s4 τ
  rw [show fm++formL pl M i []=fm from List.append_nil _] at k
  exact k
 | p::B,j,i,dn,fm,vs,ov,s4,τ,hd,hk,hv,hf,K=>by
  have hk':i + (p.kn + knL B)≤M:=hk
  have hf':fm.length + 122 * (B.length + 1)≤5000:=hf
  have hp:p ∈ L:=List.mem_of_mem_drop (by rw [hd]; exact .head _)
  have l1:=ft_le (pl:=pl) (M:=M) (i:=i) (hF p hp)
  have l2:(smL (L.take j)).length≤1000:=Nat.le_trans (smL_le _ fun x hx=>hF x (List.mem_of_mem_take hx)) (Nat.le_trans (Nat.mul_le_mul_left 10 (Nat.le_trans (List.length_take_le' _ _) hLl)) (by decide))
  obtain ⟨τ',T⟩:=s_turn (n:=n) (i:=i) (M:=M) (vs:=vs) (a0:=a0) (a1:=a1) (a2:=a2) (pl:=pl) (s7:=s7) (most:=most) (tx:=tx) (wr:=wr) (fm:=fm) (dn:=dn) (ov:=ov) (τ:=τ) (l_get hd) (hF p hp) (by lia) hM hv (by lia) l2 htx (Nat.le_trans hLl (by decide))
  refine f_next (fun F=>rfl) T (fun F=>rfl) (fr3 hF hM htx hLl B (i:=i + p.kn) (l_next hd) (by lia) ?_ (by rw [List.length_append]; lia) fun u4 υ=>?_)
  ·cases ovC most j ov p
   ·exact set_len.trans hv
   ·exact hv
  ·have k:=K u4 υ
   rw [show fm++formL pl M i (p::B)=(fm++p.ft (hdP pl M i))++formL pl M (i + p.kn) B from (List.append_assoc _ _ _).symm,show i + knL (p::B)=i + p.kn + knL B from (Nat.add_assoc i p.kn (knL B)).symm] at k
   exact k
theorem s_end {tl:Tx} (ht:tl=cond wr [126] []) (htx:tx.length≤1000) (hs:Sc vs) (hX:Ph n 366 [.str (tx++tl),.str fm]=.ok (cond (ov && (!wr && AV.eqv (.int dn) (.int 0))) (.int (-1)) (.lst vs))):Go n (c_law_is_scanned.drop 16) (stS a0 a1 a2 L s4 M pl s7 most tx wr fm vs i dn ov τ) nx (.ok (.ret (.bool true))):=by
 have ar:∀ {s12:SV},ev n (.bin .add (.v 9) (.ite (.v 10) (.c (.str [126])) (.c (.str [])))) [.val a0,.val a1,.val a2,.val (.lst (L.map Pc.av)),s4,.val (.int M),.val (.bool pl),s7,.val (.int most),.val (.str tx),.val (.bool wr),.val (.str fm),s12,.val (.int i),.val (.int dn),.val (.bool ov),τ.s7,τ.s8,τ.s9,τ.s10,τ.s11,τ.s12]=.ok (.str (tx++tl)):=fun {s12}=>by
  subst ht
  cases wr with
  | true=>exact e_bin rfl (e_t rfl rfl rfl) (add_s (Nat.le_trans (Nat.add_le_add_right htx 1) (by decide)))
  | false=>exact e_bin rfl (e_f rfl rfl rfl) (add_s (Nat.le_trans htx (by decide)))
 have list:(ov && (!wr && AV.eqv (.int dn) (.int 0)))=false→Go n (c_law_is_scanned.drop 17) (stS a0 a1 a2 L s4 M pl s7 most tx wr fm vs i dn ov τ) nx (.ok (.ret (.bool true))):=fun h=>by
  rw [h] at hX
  exact g_frzS rfl (g_ret (e_cmp (e_call (el_cons ar (el_cons rfl rfl)) hX) rfl (eq_sc hs)) rfl)
 cases ov with
 | false=>exact g_if0 (e_andf rfl rfl) rfl (list rfl)
 | true =>
  cases wr with
  | true=>exact g_if0 (e_and rfl rfl (e_andf (e_not rfl) rfl)) rfl (list rfl)
  | false =>
   cases h:AV.eqv (.int dn) (.int 0) with
   | false=>rw [h] at list; exact g_if0 (e_and rfl rfl (e_and (e_not rfl) rfl (e_andf (e_cmp rfl rfl rfl) h))) rfl (list rfl)
   | true =>
    rw [h] at hX
    exact g_it (e_and rfl rfl (e_and (e_not rfl) rfl (e_and (e_cmp rfl rfl rfl) h rfl))) rfl (g_asg rfl (g_done rfl)) (g_nx rfl (g_ret (e_cmp (e_call (el_cons ar (el_cons rfl rfl)) hX) rfl rfl) rfl))
theorem fin_eq (s:Bool × List AV × Nat):finC s=cond (s.1 && (!false && AV.eqv (.int s.2.2) (.int 0))) (.int (-1)) (.lst s.2.1):=by
 obtain ⟨ov,vs,m⟩:=s
 cases ov <;> rfl
theorem form_app {A B:List Pc}:∀ {i:Nat},formL pl M i (A++B)=formL pl M i A++formL pl M (i + knL A) B:=by
 induction A with
 | nil=>exact fun {i}=>rfl
 | cons p A ih=>intro i; show _++formL pl M (i + p.kn) (A++B)=(_++_)++_; rw [ih,List.append_assoc,Nat.add_assoc]; rfl
theorem kn_app {A B:List Pc}:knL (A++B)=knL A + knL B:=by
 induction A with
 | nil=>exact (Nat.zero_add _).symm
 | cons p A ih=>show p.kn + knL (A++B)=(p.kn + knL A) + knL B; rw [ih,Nat.add_assoc]
theorem due_len:∀ (A:List Pc) {i q:Nat} {vs:List AV},(dueT pl M i q A vs).length=vs.length
 | [],_,_,_=>rfl
 | p::A,_,_,_=>(due_len A).trans set_len
theorem scan_pcs (hA:∀ p ∈ A,PcOk p∧PcF p) (hB:∀ p ∈ B,PcOk p∧PcF p) (hAl:A.length≤10) (hM:knL (A++B)≤800) (hw:wr=true→∃ p C,B=p::C∧p.wr=true∧p.k≠2) :
  Ph (n + 8) 366 [.str (smL A++cond wr [126] []),.str (formL pl (knL (A++B)) 0 (A++B))]=.ok (let s:=loopC pl (knL (A++B)) (A++B) A.length (smL A) 0 (A++B) false 0 (List.replicate (knL (A++B)) .none) 0; cond (s.1 && (!wr && AV.eqv (.int s.2.2) (.int 0))) (.int (-1)) (.lst s.2.1)):=by
 have hk:0 + knL A + knL B≤knL (A++B):=by rw [kn_app,Nat.zero_add]; exact Nat.le_refl _
 have hq:0 + (smL A).length≤1000:=by have:=smL_le A fun x hx=>(hA x hx).2; lia
 have hck:=ck_all (n:=n) (pl:=pl) (L:=A++B) (fun p hp=>(List.mem_append.mp hp).elim (fun h=>(hA p h).1) fun h=>(hB p h).1) hM
 have hlp:=loop_take (pl:=pl) (M:=knL (A++B)) (L:=A++B) (tx:=smL A) (B:=B) A (j:=0) (i:=0) (vs:=List.replicate (knL (A++B)) .none) (m:=0) (most:=A.length) rfl (Nat.zero_add _)
 rw [loop_rest _ (Nat.le_refl _)] at hlp
 rw [hlp]
 generalize knL (A++B)=M at hk hM hck ⊢
 have hf:=form_app (pl:=pl) (M:=M) (A:=A) (B:=B) (i:=0)
 have F0:(formL pl M 0 (A++B)).drop (0 + (formL pl M 0 A).length)=formL pl M (0 + knL A) B:=by rw [hf,Nat.zero_add]; exact List.drop_left
 have hv:(dueT pl M 0 0 A (List.replicate M .none)).length=M:=(due_len A).trans List.length_replicate
 have tq:(smL A++cond wr [126] []).drop (0 + (smL A).length)=cond wr [126] []:=by rw [Nat.zero_add]; exact List.drop_left
 refine (ph_scan2 (n:=n) (M:=M) (o:=.ok (.ret _)) hck (by lia) (sp_take (n:=n) (t:=smL A++cond wr [126] []) (pl:=pl) (M:=M) A (i:=0) (r:=formL pl M (0 + knL A) B) (tr:=cond wr [126] []) (fun p hp=>(hA p hp).1) hf rfl hq (fun _=>rfl) hM List.length_replicate (by lia) fun iv' hi'=>(?_:SP n _ _ 0 _ _ _ _ _ (.ok (.ret _))))).trans rfl
 cases wr with
 | false =>
  rw [← fin_eq]
  have g:=sp_rest (n:=n) (cnt:=0) (pl:=pl) (M:=M) (m:=0 + ctL A) (iv:=iv') (vs:=dueT pl M 0 0 A (List.replicate M .none)) tq hq B (fun p hp=>⟨(hB p hp).1,(hB p hp).2.e5⟩) F0 hi' hM hv hk
  rw [Nat.zero_add (smL A).length,Nat.zero_add (formL pl M 0 A).length] at g ⊢
  exact g
 | true =>
  obtain ⟨p,C,e,hp,h2⟩:=hw rfl
  subst e
  have h3:Nat.beq p.k 2=false:=by cases h:Nat.beq p.k 2 with
   | false=>rfl
   | true=>exact absurd (Nat.eq_of_beq_eq_true h) h2
  unfold restC
  rw [h3,show (false || !false)=true from rfl,rest_t]
  have hk2:0 + knL A + (p.kn + knL C)≤M:=hk
  exact sp_st (sh:=false) (hB p (.head _)).1 F0 hi' hM (by lia) (.inr ⟨tq,rfl,hp⟩)
end
end Mine
end
section
set_option tactic.hygienic false
open PySem
namespace Mine
section
variable {n r:Nat} {ns:List Int} {F:Env'→Out} {o:Out} {start:Int}
noncomputable def pcB:List MS:=loB (c_law_is_scanned.drop 2)
noncomputable def stP (ns:List Int) (r:Nat) (start:Int) (L:List Pc) (s4:SV):Env':=[.val (.lst (ns.map AV.int)),.val (.int r),.val (.int start),.ol (L.map Pc.av),s4,.u,.u,.u,.u,.u,.u,.u,.u,.u,.u,.u,.u,.u,.u,.u,.u,.u]
theorem fr_pcs (hr:r≤10):∀ (js:List Nat) (L0:List Pc),(∀ j ∈ js,j≤10)→L0.length + js.length≤10→∃ L:List Pc,L.length=js.length∧(∀ p ∈ L,PcOk p∧PcF p)∧∀ s4,(∀ s4',F (stP ns r start (L0++L) s4')=o)→Fr (n + 2) .rng [4] pcB (js.map fun (j:Nat)=>AV.int j) (stP ns r start L0 s4) F o
 | [],L0,_,_=>⟨[],rfl,(fun _ h=>nomatch h),fun s4 h=>by rw [List.append_nil] at h; exact h s4⟩
 | j::js,L0,hj,hl=>by
  have h10:j≤10:=hj j (.head _)
  refine cps fun Γ₀ fi₀=>?_
  obtain ⟨N,hN⟩:=ph_num (n:=n + 1) (ns:=ns) (p:=4 * r + j)
  obtain ⟨p,⟨P,PF⟩,hp⟩:=ph_piece (n:=n) (N:=N) (k:=5 * r + j) (by lia)
  have hl2:L0.length + (js.length + 1)≤10:=hl
  obtain ⟨L,e1,e2,e3⟩:=fr_pcs hr js (L0++[p]) (fun i hi=>hj i (.tail _ hi)) (by rw [List.length_append]; show L0.length + 1 + _≤_; lia)
  refine fi₀ ?_
  refine ⟨p::L,congrArg (· + 1) e1,all_c ⟨P,PF⟩ e2,fun s4 h=>?_⟩
  refine f_next (fun F=>rfl) (g_app (l:=L0.map Pc.av) rfl (e_call (el_cons (e_call (el_cons rfl (el_cons (v:=.int (4 * r + j:Nat)) rfl rfl)) hN) (el_cons (v:=.int (5 * r + j:Nat)) rfl rfl)) hp) (llt (by rw [List.length_map]; lia)) (g_done rfl)) (fun F=>rfl) ?_
  have:=e3 (.val (.int j)) (fun s4'=>by rw [List.append_assoc]; exact h s4')
  unfold stP at this
  rw [List.map_append] at this
  exact this
theorem ph_isscan (hr:r≤10):Ph (n + 9) 456 [.lst (ns.map AV.int),.int r]=.ok (.bool true):=by
 refine cps fun Γ₀ fi₀=>?_
 obtain ⟨start,hN⟩:=ph_num (n:=n + 7) (ns:=ns) (p:=r + 3)
 obtain ⟨m,hm,em⟩:=modn (start + r) 3 (by decide)
 obtain ⟨q,hq,eq⟩:=modn (start / 27 + r) 2 (by decide)
 obtain ⟨d,hd,ed⟩:=modn (start / 3 + 2 * r + 1) 3 (by decide)
 obtain ⟨L,hL,hok,F1⟩:=fr_pcs (n:=n + 6) (ns:=ns) (r:=r) (start:=start) (F:=fun σ=>seqO (evSs (Ph (n + 8)) MT (De (n + 8)) (c_law_is_scanned.drop 3) σ) nx) (o:=.ok (.ret (.bool true))) hr (List.range (m + 4)) [] (fun j hj=>by have:=List.mem_range.mp hj; lia) (by rw [List.length_range]; show 0 + _≤_; lia)
 rw [List.length_range] at hL
 obtain ⟨l,hl,hl2⟩:=col_sp L fun p hp=>(hok p hp).2
 have hkn:=knL_le L
 have hpos:0 < L.length:=by lia
 have hLen:(L.map Pc.av).length=L.length:=List.length_map _
 obtain ⟨k,hk,ek⟩:=modn (start / 9 + 2 * r) L.length hpos
 have most:∃ most:Nat,(most≤L.length∧(AV.eqv (.int d) (.int 0)=false→most < L.length))∧∀ {σ:Env'},getV σ 7=.ok (.int d)→getV σ 3=.ok (.lst (L.map Pc.av))→getV σ 2=.ok (.int start)→getV σ 1=.ok (.int r)→ev (n + 8) (.ite (.cmp (.v 7) .eq (.c (.int 0))) (.bi .len [(.v 3)]) (.bin .fmod (.bin .add (.bin .fdiv (.v 2) (.c (.int 9))) (.bin .mul (.c (.int 2)) (.v 1))) (.bi .len [(.v 3)]))) σ=.ok (.int most):=by
  cases h:AV.eqv (.int d) (.int 0) with
  | true=>exact ⟨L.length,⟨Nat.le_refl _,(fun h=>nomatch h)⟩,fun h7 h3 h2 h1=>e_t (e_cmp h7 rfl rfl) h (e_bi (el_cons h3 rfl) (congrArg (fun z:Nat=>R.ok (AV.int z)) hLen))⟩
  | false=>exact ⟨k,⟨Nat.le_of_lt hk,fun _=>hk⟩,fun h7 h3 h2 h1=>e_f (e_cmp h7 rfl rfl) h (e_bin (e_bin (e_bin h2 rfl (z:=.int (start / 9)) rfl) (e_bin rfl h1 rfl) rfl) (e_bi (el_cons h3 rfl) (congrArg (fun z:Nat=>R.ok (AV.int z)) hLen)) ek)⟩
 obtain ⟨most,⟨hm1,hm2⟩,hme⟩:=most
 have hA:∀ p ∈ L.take most,PcOk p∧PcF p:=fun p hp=>hok p (List.mem_of_mem_take hp)
 have hB:∀ p ∈ L.drop most,PcOk p∧PcF p:=fun p hp=>hok p (List.mem_of_mem_drop hp)
 have lt:(L.take most).length=most:=List.length_take_of_le hm1
 obtain ⟨ss,hs1,hs2⟩:=strs_sm (L.take most)
 have htx:(smL (L.take most)).length≤1000:=Nat.le_trans (smL_le _ fun p hp=>(hA p hp).2) (by rw [lt]; lia)
 have wrong:∃ wr:Bool,(wr=true→∃ p C,L.drop most=p::C∧p.wr=true∧p.k≠2)∧∀ {σ:Env'},getV σ 7=.ok (.int d)→getV σ 3=.ok (.lst (L.map Pc.av))→getV σ 8=.ok (.int most)→ev (n + 8) (.and [(.cmp (.v 7) .eq (.c (.int 2))),(.cmp (.idx (.idx (.v 3) (.v 8)) (.c (.int 0))) .isin (.tup [(.c (.int 0)),(.c (.int 1)),(.c (.int 3)),(.c (.int 4)),(.c (.int 5)),(.c (.int 8)),(.c (.int 9))])),(.cmp (.sl (.idx (.idx (.v 3) (.v 8)) (.c (.int 1))) none (some (.c (.int 2)))) .ne (.c (.str [91,94])))]) σ=.ok (.bool wr):=by
  cases h:AV.eqv (.int d) (.int 2) with
  | false=>exact ⟨false,(fun h=>nomatch h),fun h7 h3 h8=>e_andf (e_cmp h7 rfl rfl) h⟩
  | true =>
   have h0:AV.eqv (.int d) (.int 0)=false:=nei fun e=>by rw [e] at h; cases h
   have hlt:=hm2 h0
   obtain ⟨p,C,e⟩:∃ p C,L.drop most=p::C:=⟨_,_,List.drop_eq_getElem_cons hlt⟩
   have hp:p ∈ L:=List.mem_of_mem_drop (by rw [e]; exact .head _)
   obtain ⟨b,hb1,hb2⟩:=(hok p hp).2.e3
   have hi:idxop (.lst (L.map Pc.av)) (.int most)=.ok p.av:=ixl (by rw [List.getElem?_map,l_get e]; rfl)
   refine ⟨p.wr,fun hw=>⟨p,C,e,hw,fun h2=>?_⟩,fun h7 h3 h8=>?_⟩
   ·rw [h2] at hb1
    have hb3:(R.ok false:R Bool)=.ok b:=hb1
    cases hb3
    rw [hw] at hb2
    cases hb2
   ·refine e_and (e_cmp h7 rfl rfl) h ?_
    cases b with
    | false=>rw [hb2]; exact e_andf (e_cmp (e_idx (e_idx h3 h8 hi) rfl rfl) rfl hb1) rfl
    | true =>
     refine e_and (e_cmp (e_idx (e_idx h3 h8 hi) rfl rfl) rfl hb1) rfl ?_
     rw [hb2]
     cases h5:AV.eqv (.str (p.sp.take 2)) (.str [91,94]) with
     | true=>exact e_andf (e_cmp (e_sl (e_idx (e_idx h3 h8 hi) rfl rfl) rfl rfl rfl) rfl (congrArg (fun b=>R.ok (!b)) h5)) rfl
     | false=>exact e_and (e_cmp (e_sl (e_idx (e_idx h3 h8 hi) rfl rfl) rfl rfl rfl) rfl (congrArg (fun b=>R.ok (!b)) h5)) rfl rfl
 obtain ⟨wr,hw,hwe⟩:=wrong
 refine fi₀ ?_
 have hs:=List.take_append_drop most L
 have X:=scan_pcs (n:=n) (pl:=AV.eqv (.int q) (.int 1)) (wr:=wr) hA hB (by lia) (by rw [hs]; lia) hw
 rw [hs,lt] at X
 have rng:rangeVals (L.length:Nat)=(List.range' 0 L.length).map fun (i:Nat)=>AV.int i:=by
  show (List.range L.length).map _=_
  rw [List.range_eq_range']
 refine call_s (d:=d_law_is_scanned) [.val (.lst (ns.map AV.int)),.val (.int r),.u,.u,.u,.u,.u,.u,.u,.u,.u,.u,.u,.u,.u,.u,.u,.u,.u,.u,.u,.u] rfl rfl rfl (g_asg (e_call (el_cons rfl (el_cons (v:=.int (r + 3:Nat)) rfl rfl)) hN) (g_nx rfl (g_forR (i:=(m + 4:Nat)) (e_bin rfl (e_bin (e_bin rfl rfl rfl) rfl em) (congrArg (fun z=>R.ok (AV.int z)) (Int.add_comm 4 (m:Int)))) (andT (dlt (by lia)) (dlt (by lia))) (F1 .u fun s4=>?_))))
 refine (?_:Go (n + 8) (c_law_is_scanned.drop 3) (stP ns r start L s4) nx (.ok (.ret (.bool true))))
 have fin:=fr3 (n:=n + 8) (a0:=.lst (ns.map AV.int)) (a1:=.int r) (a2:=.int start) (L:=L) (M:=knL L) (pl:=AV.eqv (.int q) (.int 1)) (s7:=.val (.int d)) (most:=most) (tx:=smL (L.take most)) (wr:=wr) (fun p hp=>(hok p hp).2) (by lia) htx (by lia) (F:=fun σ=>seqO (evSs (Ph (n + 8)) MT (De (n + 8)) (c_law_is_scanned.drop 16) σ) nx) (o:=.ok (.ret (.bool true))) L (j:=0) (i:=0) (dn:=0) (fm:=[]) (vs:=List.replicate (knL L) .none) (ov:=false) (s4:=s4) (τ:=⟨.u,.u,.u,.u,.u,.u,.u,.u,.u⟩) rfl (by lia) List.length_replicate (by show 0 + _≤_; lia) (fun t4 τ=>s_end (n:=n + 8) rfl htx (sc_loop L (fun x hx=>by rw [(List.mem_replicate.mp hx).2]; rfl)) X)
 rw [← rng] at fin
 refine g_frz rfl (g_asg (e_bi (el_cons (e_compL rfl rfl hl (lll (by lia))) rfl) (congrArg (fun z:Nat=>R.ok (AV.int z)) hl2)) (g_asg (e_cmp (e_bin (e_bin (e_bin rfl rfl (z:=.int (start / 27)) rfl) rfl rfl) rfl eq) rfl rfl) (g_asg (e_bin (e_bin (e_bin (e_bin rfl rfl (z:=.int (start / 3)) rfl) (e_bin rfl rfl (z:=.int (2 * r)) rfl) rfl) rfl rfl) rfl ed) (g_asg (hme rfl rfl rfl rfl) ?_))))
 refine g_asg (v:=.str (smL (L.take most))) (e_sm rfl (el_cons (e_compL (e_sl rfl rfl rfl slop_l) rfl (col_sm _) (lll (by rw [List.length_map,lt]; lia))) rfl) (hs2 ▸ join_of hs1 (by rw [hs2]; lia))) (g_asg (hwe rfl rfl rfl) (g_asg rfl ?_))
 refine g_nx (σ':=stS (.lst (ns.map AV.int)) (.int r) (.int start) L s4 (knL L) (AV.eqv (.int q) (.int 1)) (.val (.int d)) most (smL (L.take most)) wr [] (List.replicate (knL L) .none) 0 0 false ⟨.u,.u,.u,.u,.u,.u,.u,.u,.u⟩ |>.set 13 .u |>.set 14 .u |>.set 15 .u) (bd rfl (bd rfl (limT (andT (dlt (by show (knL L:Int)≤2 ^ 20; lia)) (andT (dlt (by lia)) (dlt (by lia))))))) (g_asg rfl (g_asg rfl (g_asg rfl (g_forR (i:=(L.length:Nat)) (e_bi rfl (congrArg (fun z:Nat=>R.ok (AV.int z)) hLen)) (andT (dlt (by lia)) (dlt (by lia))) fin))))
end
end Mine
end
section
set_option tactic.hygienic false
open PySem
namespace Mine
def TlR (r:Tx):Prop:=r=[]∨∃ u,r=32::u
section
variable {n:Nat} {t r x ds:Tx} {p b L Q:Nat} {v:Int} {nm:Tx} {s:So} {sg:Sg} {big:Bool} {fl:Tx} {w:Int} {z:Sz}
theorem num_of2 (h:t.drop p=sg.t++r) (hr:NoS r) (hB:BaseR t (p + sg.t.length) t.length s Q b) (hd:t.drop b=ds++x) (h0:ds≠[]) (hD:∀ k ∈ ds,isD Q k=true) (hx:TlR x) (hb:b≤t.length) (hQ:Q < 17) (hf:∀ n,Ph (n + 3) 234 [.int (sgn sg.neg (dv Q ds)),.bool s.isU,.str nm]=.ok (.int v)) (hs:v.natAbs < 2 ^ 100) :
  Ph (n + 5) 262 [.str t,.int p,.int t.length,.str [s.c],.str [],.str nm]=.ok (.tup [.str (wrt false v),.int (b + ds.length:Nat)]):=by
 have h1:=@ph_rw n t r x ds b p t.length Q nm s sg h hr
 have hl:=at_le hd rfl hb
 have he:b + ds.length=t.length∨∃ k u,x=k::u∧isD Q k=false:=by
  rcases hx with rfl | ⟨u,rfl⟩
  ·exact .inl (Nat.le_antisymm hl (at_end (d_app hd)))
  ·refine .inr ⟨32,u,rfl,?_⟩
   have:∀ q:Nat,q < 17→isD q 32=false:=by decide +kernel
   exact this Q hQ
 refine (rf_w (h1 hB hd h0 hD hl he (smN Q hQ) (hf n))).trans ?_
 show R.bind (biop .str [.int v]) _=_
 rw [str_w hs]
 rfl
theorem cutM_mod (v:Int):cutM 18446744073709551616 v % 18446744073709551616=v % 18446744073709551616:=by
 unfold cutM
 cases decide (2 * (v % 18446744073709551616) < 18446744073709551616)
 ·show (v % 18446744073709551616 - 18446744073709551616) % _=_
  lia
 ·show v % 18446744073709551616 % 18446744073709551616=_
  lia
theorem cutM_ran (v:Int):-9223372036854775808≤cutM 18446744073709551616 v∧cutM 18446744073709551616 v < 9223372036854775808:=by
 unfold cutM
 cases h:decide (2 * (v % 18446744073709551616) < 18446744073709551616) with
 | true=>have:=of_decide_eq_true h; show _≤v % 18446744073709551616∧v % 18446744073709551616 < _; lia
 | false=>have:=of_decide_eq_false h; show _≤v % 18446744073709551616 - 18446744073709551616∧v % 18446744073709551616 - 18446744073709551616 < _; lia
theorem clamp_id {v:Int} (h:-9223372036854775808≤v∧v < 9223372036854775808):clamp v=v:=by unfold clamp; lia
noncomputable def dueW (s:So) (big:Bool) (v:Int):Int:=cond (s.isU && !big) (v % 18446744073709551616) (cutF big false v)
theorem fit_u {N:Int} (h:0≤N) (h2:N < 18446744073709551616) (u:Bool):fitI u N=cond u N (cutM 18446744073709551616 N):=by
 unfold fitI
 rw [decide_eq_true h,decide_eq_true h2]
 show cond u (clamp (cutM 18446744073709551616 N) % _) (clamp (cutM 18446744073709551616 N))=_
 rw [clamp_id (cutM_ran N),cutM_mod,Int.emod_eq_of_lt h h2]
theorem fit_w (hz:z=.e∨z=.ll) (hu:s.isU=true→z.big=true→0≤v) (hn:sg.neg=((z.big || s.di) && decide (cutF z.big false v < 0))):Ph (n + 3) 234 [.int (sgn sg.neg (numW s z.big false v:Nat)),.bool s.isU,.str z.nm]=.ok (.int (dueW s z.big v)):=by
 unfold numW dueW
 rcases hz with rfl | rfl
 ·refine fit_e.trans (congrArg (fun z=>R.ok (AV.int z)) ?_)
  have c1:=cutM_ran v
  have c2:=cutM_mod v
  have m0:=Int.emod_nonneg v (b:=18446744073709551616) (by decide)
  have m1:=Int.emod_lt_of_pos v (b:=18446744073709551616) (by decide)
  show fitI s.isU (sgn sg.neg ((cond s.di (cutM 18446744073709551616 v).natAbs (cutM 18446744073709551616 v % 18446744073709551616).toNat:Nat):Int))=cond (s.isU && true) (v % 18446744073709551616) (cutM 18446744073709551616 v)
  rw [hn,c2]
  show fitI s.isU (sgn (s.di && decide (cutM 18446744073709551616 v < 0)) ((cond s.di (cutM 18446744073709551616 v).natAbs (v % 18446744073709551616).toNat:Nat):Int))=_
  cases hd:s.di with
  | false =>
   show fitI s.isU (((v % 18446744073709551616).toNat:Nat):Int)=_
   rw [Int.toNat_of_nonneg m0,fit_u m0 m1,Bool.and_true]
   unfold cutM
   rw [Int.emod_emod_of_dvd v (Int.dvd_refl _)]
  | true =>
   have hu:s.isU=false:=by cases s <;> first | rfl | cases hd
   rw [hu]
   cases h:decide (cutM 18446744073709551616 v < 0) with
   | true =>
    have h:=of_decide_eq_true h
    show fitI false (-((cutM 18446744073709551616 v).natAbs:Int))=cutM 18446744073709551616 v
    rw [show (-((cutM 18446744073709551616 v).natAbs:Int))=cutM 18446744073709551616 v by lia]
    exact fit_m h c1.1
   | false =>
    have h:=of_decide_eq_false h
    show fitI false ((cutM 18446744073709551616 v).natAbs:Int)=cutM 18446744073709551616 v
    rw [show ((cutM 18446744073709551616 v).natAbs:Int)=cutM 18446744073709551616 v by lia]
    exact fit_s (Int.not_lt.mp h) c1.2
 ·have e:sgn sg.neg ((cond true v.natAbs 0:Nat):Int)=v:=by
   rw [hn]
   show sgn (decide (v < 0)) ((v.natAbs:Nat):Int)=v
   cases h:decide (v < 0) with
   | true=>have:=of_decide_eq_true h; show -((v.natAbs:Nat):Int)=v; lia
   | false=>have:=of_decide_eq_false h; show ((v.natAbs:Nat):Int)=v; lia
  have e2:(s.isU && decide (v < 0))=false:=by
   cases h:s.isU with
   | false=>rfl
   | true=>exact dgt (Int.not_lt.mpr (hu h rfl))
  have g:=fit_big (n:=n + 1) (v:=v) (u:=s.isU)
  rw [e2] at g
  show Ph (n + 3) 234 [.int (sgn sg.neg ((cond true v.natAbs _:Nat):Int)),.bool s.isU,.str [98,105,103]]=.ok (.int (cond (s.isU && false) _ v))
  rw [Bool.and_false]
  exact (congrArg (fun z=>Ph (n + 3) 234 [.int z,.bool s.isU,.str [98,105,103]]) e).trans g
theorem dueW_lt (hv:v.natAbs < 2 ^ 70):(dueW s big v).natAbs < 2 ^ 100:=by
 unfold dueW
 cases s.isU && !big
 ·exact Nat.lt_trans (cutF_lt hv) (by decide)
 ·show (v % 18446744073709551616).natAbs < _
  lia
theorem lsd_last {b:Nat} (hb:2≤b):∀ f m,m < 2 ^ f→0 < m→∃ y d,lsd b f m=y++[d]∧d≠0
 | 0,m,h,h0=>absurd h0 (Nat.not_lt.mpr (Nat.le_of_lt_succ h))
 | f + 1,m + 1,h,_=>by
  show ∃ y d,(m + 1) % b::lsd b f ((m + 1) / b)=_∧_
  rcases Nat.eq_zero_or_pos ((m + 1) / b) with h0 | h0
  ·refine ⟨[],(m + 1) % b,by rw [h0,lsd_zero]; rfl,fun e=>?_⟩
   have:=Nat.div_add_mod (m + 1) b
   rw [h0,e,Nat.mul_zero] at this
   cases this
  ·obtain ⟨y,d,e,hd⟩:=lsd_last hb f ((m + 1) / b) (div_lt hb h) h0
   exact ⟨(m + 1) % b::y,d,by rw [e]; rfl,hd⟩
theorem dgS_0 {m:Nat} (hm:m < 2 ^ 100) (h:∃ y,dgS false 10 m=48::y):m=0:=by
 rcases Nat.eq_zero_or_pos m with h0 | h0
 ·exact h0
 ·obtain ⟨y,d,e,hd⟩:=lsd_last (b:=10) (by decide) 100 m hm h0
  obtain ⟨y',e'⟩:=h
  obtain ⟨k,rfl⟩:∃ k,m=k + 1:=⟨m - 1,by lia⟩
  have:dgS false 10 (k + 1)=hexc false d::(y.reverse.map (hexc false)):=by
   show (lsd 10 100 (k + 1)).reverse.map (hexc false)=_
   rw [e,List.reverse_append]
   rfl
  rw [this] at e'
  have hd10:d < 10:=lsd_lt (b:=10) (by decide) 100 (k + 1) d (by rw [e]; exact List.mem_append_right _ (.head _))
  have hx:∀ d,d < 10→hexc false d=48→d=0:=by decide +kernel
  exact absurd (hx d hd10 (List.cons.inj e').1) hd
noncomputable def So.isI:So→Bool
 | .i=>true | _=>false
theorem baseN_c (h:s.isI=false) {c:Nat}:baseN s c=s.base:=by
 cases s
 case i=>cases h
 all_goals rfl
end
end Mine
end
section
set_option tactic.hygienic false
open PySem
namespace Mine
section
variable {n:Nat} {t r x ds m:Tx} {p b c:Nat} {v:Int} {s:So} {sg:Sg} {big:Bool} {fl:Tx} {w:Int} {z:Sz}
theorem hd_sg (h32:fl.contains 32=false) (sd:Bool) (num:Int):∃ sg:Sg,hd0 sd fl num=sg.t∧sg.neg=(sd && decide (num < 0)):=by
 unfold hd0
 cases sd with
 | false=>exact ⟨.no,rfl,rfl⟩
 | true =>
  cases decide (num < 0) with
  | true=>exact ⟨.mi,rfl,rfl⟩
  | false =>
   rw [h32]
   cases fl.contains 43 with
   | true=>exact ⟨.pl,rfl,rfl⟩
   | false=>exact ⟨.no,rfl,rfl⟩
theorem repl_rep {i:Int} {c:Nat}:repl i [c]=List.replicate i.toNat c:=by
 unfold repl
 generalize i.toNat=k
 induction k with
 | zero=>rfl
 | succ k ih=>show c::(List.replicate k [c]).flatten=c::List.replicate k c; rw [ih]
structure Fl3 (s:So) (fl:Tx):Prop where
 a:fl.contains 32=false
 b:fl.contains 35=true→s.hasM=true∧s.isI=false
 c:fl.contains 48=true→fl.contains 35=false∧s.isI=false
theorem mark_l (h:s.hasM=true∧s.isI=false):s.mark big=[48,s.l1]∧s.mbs=s.base:=by
 cases s <;> first | exact ⟨rfl,rfl⟩ | exact (Bool.false_ne_true h.1).elim | exact (Bool.false_ne_true h.2.symm).elim
theorem whole_t (H:Fl3 s fl) (w:Int):∃ (sg:Sg) (mk:Tx) (k:Nat),wholeT s big false fl w (-1) v=sg.t++(mk++(List.replicate k 48++digW s big false v))∧sg.neg=((big || s.di) && decide (cutF big false v < 0))∧(mk=[]∨(mk=[48,s.l1]∧s.hasM=true∧s.isI=false∧k=0))∧(s.isI=true→k=0)∧(fl.contains 48=true→w≤(wholeT s big false fl w (-1) v).length):=by
 obtain ⟨sg,e,hn⟩:=hd_sg H.a (big || s.di) (cutF big false v)
 have hw:∀ hd dg:Tx,fl.contains 48=true→w≤((hd++repl (mostW fl w (-1) hd - dg.length) [48])++dg).length:=fun hd dg h=>by
  rw [List.length_append,List.length_append,repl_len]
  unfold mostW
  rw [h]
  show w≤((hd.length + (w - hd.length - dg.length).toNat + dg.length:Nat):Int)
  lia
 unfold wholeT hdW
 rw [e]
 cases h48:fl.contains 48 with
 | true =>
  have h35:=(H.c h48).1
  refine ⟨sg,[],(mostW fl w (-1) sg.t - (digW s big false v).length).toNat,?_,hn,.inl rfl,(fun h=>by rw [(H.c h48).2] at h; cases h),fun h=>hw _ _ h48⟩
  rw [h35,show sg.t++cond (false && _) (s.mark big) []=sg.t from List.append_nil _,repl_rep,List.append_assoc]
  rfl
 | false =>
  have e0:∀ hd:Tx,repl (mostW fl w (-1) hd - (digW s big false v).length) [48]=[]:=fun hd=>by
   unfold mostW
   rw [h48,repl_rep]
   show List.replicate (0 - ((digW s big false v).length:Int)).toNat 48=[]
   rw [show (0 - ((digW s big false v).length:Int)).toNat=0 by lia]
   rfl
  rw [e0,List.append_nil]
  cases h35:fl.contains 35 && !AV.eqv (.int (cutF big false v)) (.int 0) with
  | false=>exact ⟨sg,[],0,(by rw [show cond false (s.mark big) []=([]:Tx) from rfl,List.append_nil]; rfl),hn,.inl rfl,(fun _=>rfl),fun h=>nomatch h⟩
  | true =>
   have h:=H.b (and2 h35).1
   have M:=mark_l (big:=big) h
   exact ⟨sg,[48,s.l1],0,(by rw [show cond true (s.mark big) []=s.mark big from rfl,M.1,List.append_assoc]; rfl),hn,.inr ⟨rfl,h.1,h.2,rfl⟩,(fun _=>rfl),fun h=>nomatch h⟩
theorem l_no (s:So):isD s.base s.l1=false∧isD s.base s.l2=false∧s.l1≠32∧s.l2≠32:=by cases s <;> decide +kernel
theorem D_base {y:Tx} (k:Nat) (hD:∀ d ∈ y,isD s.base d=true):∀ d ∈ List.replicate k 48++y,isD s.base d=true:=fun d hd=>(List.mem_append.mp hd).elim (fun h=>by rw [(List.mem_replicate.mp h).2]; cases s <;> decide +kernel) (hD d)
theorem dig_c {q c:Nat} (hq:q≤16) (h:isD q c=true):c≠43∧c≠45∧isBlank c=false:=by
 have hn:∀ k:Nat,dig k=-1→c≠k:=fun k hk e=>by
  subst e
  unfold isD at h
  rw [hk] at h
  cases h
 refine ⟨hn _ (by decide +kernel),hn _ (by decide +kernel),?_⟩
 have hb:∀ k:Nat,dig k=-1→([k] == [c])=false:=fun k hk=>beq_eq_false_iff_ne.mpr fun e=>hn k hk (List.head_eq_of_cons_eq e).symm
 show ([32,9,10,11,12,13].any fun k=>[k] == [c])=false
 simp only [List.any_cons,List.any_nil,hb 32 (by decide +kernel),hb 9 (by decide +kernel),hb 10 (by decide +kernel),hb 11 (by decide +kernel),hb 12 (by decide +kernel),hb 13 (by decide +kernel),Bool.or_false]
theorem hm_of {Y:Tx} {c0:Nat} {y0:Tx} {a:Nat} (e0:Y=c0::y0) (ha:t.drop a=Y++r) (hY:∀ d ∈ Y,isD s.base d=true) (hr:TlR r):t.length≤a + 2∨∃ k d u,t.drop a=k::d::u∧d≠s.l1∧d≠s.l2:=by
 have L:=l_no s
 subst e0
 cases y0 with
 | nil =>
  rcases hr with rfl | ⟨u,rfl⟩
  ·exact .inl (Nat.le_trans (Nat.le_of_eq (at_all (x:=[]) ha).symm) (Nat.le_succ _))
  ·exact .inr ⟨c0,32,u,ha,fun e=>L.2.2.1 e.symm,fun e=>L.2.2.2 e.symm⟩
 | cons d u =>
  have hd:=hY d (.tail _ (.head _))
  exact .inr ⟨c0,d,u++r,ha,fun e=>by subst e; exact Bool.false_ne_true (L.1.symm.trans hd),fun e=>by subst e; exact Bool.false_ne_true (L.2.1.symm.trans hd)⟩
def RdP (n:Nat) (t:Tx) (p:Nat) (s:So) (nm:Tx) (X:Int) (k:Nat):Prop:=Ph (n + 5) 262 [.str t,.int p,.int t.length,.str [s.c],.str [],.str nm]=.ok (.tup [.str (wrt false X),.int k])
theorem rd_a {Y nm:Tx} {N:Nat} {X:Int} (h:t.drop p=sg.t++(Y++r)) (h0:Y≠[]) (hY:∀ d ∈ Y,isD s.base d=true) (hv:dv s.base Y=N) (hr:TlR r) (hf:∀ n,Ph (n + 3) 234 [.int (sgn sg.neg (N:Int)),.bool s.isU,.str nm]=.ok (.int X)) (hX:X.natAbs < 2 ^ 100) (hi:s.isI=true→Y=dgS false 10 N∧N < 2 ^ 100):RdP n t p s nm X (p + sg.t.length + Y.length):=by
 obtain ⟨c0,y0,e0⟩:=List.exists_cons_of_ne_nil h0
 have ha:=d_app h
 have hb:t.drop (p + sg.t.length)=c0::(y0++r):=by rw [ha,e0]; rfl
 have hm:=hm_of e0 ha hY hr
 have dc:=dig_c s.base16 (hY c0 (by rw [e0]; exact .head _))
 have hns:NoS (Y++r):=⟨c0,y0++r,by rw [e0]; rfl,dc.1,dc.2.1⟩
 have fin:=fun (Q:Nat) (hB:BaseR t (p + sg.t.length) t.length s Q (p + sg.t.length)) (hQ:Q < 17) (hYQ:∀ d ∈ Y,isD Q d=true) (hvQ:dv Q Y=N)=>@num_of2 n t (Y++r) r Y p (p + sg.t.length) Q X nm s sg h hns hB ha h0 hYQ hr (Nat.le_of_lt (at_lt hb)) hQ (by rw [hvQ]; exact hf) hX
 have hB:=fun n=>base_no (n:=n) (s:=s) hb (at_lt hb) hm
 cases hI:s.isI with
 | false=>rw [baseN_c hI] at hB; exact fin s.base hB (Nat.lt_succ_of_le s.base16) hY hv
 | true =>
  have hs:s=.i:=by cases s <;> first | rfl | cases hI
  have hj:=hi hI
  clear fin hI hm hi
  subst hs
  have fin:=fun (Q:Nat) (hB:BaseR t (p + sg.t.length) t.length .i Q (p + sg.t.length)) (hQ:Q < 17) (hYQ:∀ d ∈ Y,isD Q d=true) (hvQ:dv Q Y=N)=>@num_of2 n t (Y++r) r Y p (p + sg.t.length) Q X nm .i sg h hns hB ha h0 hYQ hr (Nat.le_of_lt (at_lt hb)) hQ (by rw [hvQ]; exact hf) hX
  unfold baseN at hB
  cases hc:AV.eqv (.str [c0]) (.str [48]) with
  | false=>rw [hc] at hB; exact fin 10 hB (by decide) hY hv
  | true =>
   rw [hc] at hB
   have hc0:c0=48:=List.head_eq_of_cons_eq (eq_of_beq (show ([c0] == [48])=true from hc))
   have hN0:=dgS_0 hj.2 ⟨y0,by rw [← hj.1,e0,hc0]⟩
   have hy0:Y=[48]:=by rw [hj.1,hN0]; rfl
   exact fin 8 hB (by decide) (by rw [hy0]; decide +kernel) (by rw [hy0,hN0]; decide +kernel)
theorem rd_b {Y nm:Tx} {N:Nat} {X:Int} (hM:s.hasM=true) (hI:s.isI=false) (h:t.drop p=sg.t++(48::s.l1::(Y++r))) (h0:Y≠[]) (hY:∀ d ∈ Y,isD s.base d=true) (hv:dv s.base Y=N) (hr:TlR r) (hf:∀ n,Ph (n + 3) 234 [.int (sgn sg.neg (N:Int)),.bool s.isU,.str nm]=.ok (.int X)) (hX:X.natAbs < 2 ^ 100):RdP n t p s nm X (p + sg.t.length + 2 + Y.length):=by
 obtain ⟨c0,y0,e0⟩:=List.exists_cons_of_ne_nil h0
 have M:=(mark_l (big:=false) ⟨hM,hI⟩).2
 have ha:=d_app h
 have hb:t.drop (p + sg.t.length)=48::s.l1::c0::(y0++r):=by rw [ha,e0]; rfl
 have hl2:=at_lt (at_2 hb)
 have hB:BaseR t (p + sg.t.length) t.length s s.base (p + sg.t.length + 2):=fun n=>by have:=base_yes (n:=n) hM hb hl2 (by rw [M]; exact hY c0 (by rw [e0]; exact .head _)); rw [M] at this; exact this
 exact @num_of2 n t (48::s.l1::(Y++r)) r Y p (p + sg.t.length + 2) s.base X nm s sg h ⟨48,_,rfl,by decide,by decide⟩ hB (at_2 ha) h0 hY hr (Nat.le_of_lt hl2) (Nat.lt_succ_of_le s.base16) (by rw [hv]; exact hf) hX
structure WrT (n:Nat) (s:So) (z:Sz) (X:Int) (T:Tx):Prop where
 rd:∀ (t:Tx) (p:Nat) (r:Tx),t.drop p=T++r→TlR r→RdP n t p s z.nm X (p + T.length)
 hd:∃ c u,T=c::u∧isBlank c=false
theorem wr_t {mk Y:Tx} {N k:Nat} {X:Int} (hmk:mk=[]∨(mk=[48,s.l1]∧s.hasM=true∧s.isI=false∧k=0)) (hi:s.isI=true→k=0∧Y=dgS false 10 N∧N < 2 ^ 100) (h0:Y≠[]) (hY:∀ d ∈ Y,isD s.base d=true) (hv:dv s.base Y=N) (hf:∀ n,Ph (n + 3) 234 [.int (sgn sg.neg (N:Int)),.bool s.isU,.str z.nm]=.ok (.int X)) (hX:X.natAbs < 2 ^ 100):WrT n s z X (sg.t++(mk++(List.replicate k 48++Y))):=by
 have hY':=D_base k hY
 have hv':dv s.base (List.replicate k 48++Y)=N:=(dv_zeros k).trans hv
 have h0':List.replicate k 48++Y≠[]:=List.append_ne_nil_of_right_ne_nil _ h0
 rcases hmk with rfl | ⟨rfl,hM,hI,rfl⟩
 ·have hi':s.isI=true→List.replicate k 48++Y=dgS false 10 N∧N < 2 ^ 100:=fun h=>by obtain ⟨rfl,h2,h3⟩:=hi h; exact ⟨h2,h3⟩
  generalize List.replicate k 48++Y=y at hY' hv' h0' hi'
  refine ⟨fun t p r h hr=>?_,?_⟩
  ·rw [List.length_append,← Nat.add_assoc]
   exact rd_a (h.trans (List.append_assoc _ _ _)) h0' hY' hv' hr hf hX hi'
  ·cases sg with
   | pl=>exact ⟨43,_,rfl,rfl⟩
   | mi=>exact ⟨45,_,rfl,rfl⟩
   | no =>
    obtain ⟨c,u,rfl⟩:=List.exists_cons_of_ne_nil h0'
    exact ⟨c,u,rfl,(dig_c s.base16 (hY' c (.head _))).2.2⟩
 ·refine ⟨fun t p r h hr=>?_,?_⟩
  ·have el:p + (sg.t++([48,s.l1]++(List.replicate 0 48++Y))).length=p + sg.t.length + 2 + Y.length:=by rw [List.length_append]; show p + (sg.t.length + (Y.length + 2))=_; lia
   rw [el]
   exact rd_b hM hI (h.trans (List.append_assoc _ _ _)) h0 hY hv hr hf hX
  ·cases sg with
   | pl=>exact ⟨43,_,rfl,rfl⟩
   | mi=>exact ⟨45,_,rfl,rfl⟩
   | no=>exact ⟨48,_,rfl,rfl⟩
theorem rd_w (n:Nat) (H:Fl3 s fl) (hz:z=.e∨z=.ll) (hu:s.isU=true→z.big=true→0≤v) (hv:v.natAbs < 2 ^ 70):WrT n s z (dueW s z.big v) (wholeT s z.big false fl w (-1) v):=by
 obtain ⟨sg,mk,k,e,hn,hmk,hi,_⟩:=whole_t (big:=z.big) (v:=v) H w
 have hN:=numW_lt (s:=s) (big:=z.big) (h:=false) hv
 rw [e]
 exact wr_t hmk (fun h=>⟨hi h,(by cases s <;> first | rfl | cases h),hN⟩) (dgS_ne _ _ _) (dgS_D (Nat.lt_of_lt_of_le (by decide) s.base2) s.base16) (dv_dgS s.base2 s.base16 s.up hN) (fun n=>fit_w (n:=n) (sg:=sg) hz hu hn) (dueW_lt (s:=s) (big:=z.big) hv)
def FB (T:Tx) (c:Nat) (z:Sz) (due:Tx):Prop:=∃ b1 bd b2:Tx,T=b1++(bd++b2)∧(∀ k ∈ b1,k=32)∧(∀ k ∈ b2,k=32)∧(∃ c0 u,bd=c0::u∧isBlank c0=false)∧∀ (n:Nat) (t:Tx) (p:Nat) (R:Tx),t.drop p=bd++R→TlR R→Rd n t p c [] (-1) z.nm true (.str due) (p + bd.length)
theorem fb_pad {due:Tx} (hc:∃ c0 u,m=c0::u∧isBlank c0=false) (hw:fl.contains 48=true→w≤m.length) (R:∀ (n:Nat) (t:Tx) (p:Nat) (R:Tx),t.drop p=m++R→TlR R→Rd n t p c [] (-1) z.nm true (.str due) (p + m.length)):FB (padT fl (fill0 fl) w m) c z due:=by
 have sp:∀ i:Int,∀ k ∈ repl i [32],k=32:=fun i k hk=>by rw [repl_rep] at hk; exact (List.mem_replicate.mp hk).2
 unfold padT fill0
 cases h:fl.contains 48 with
 | true =>
  have e:repl (w - m.length) [cond true 48 32]=[]:=by
   have:=hw h
   rw [repl_rep,show (w - (m.length:Int)).toNat=0 by lia]
   rfl
  rw [e]
  refine ⟨[],m,[],?_,(fun _ h=>nomatch h),(fun _ h=>nomatch h),hc,R⟩
  cases fl.contains 45
  ·exact (List.append_nil m).symm
  ·rfl
 | false =>
  cases fl.contains 45 with
  | true=>exact ⟨[],m,_,rfl,(fun _ h=>nomatch h),sp _,hc,R⟩
  | false=>exact ⟨_,m,[],by rw [List.append_nil]; rfl,sp _,(fun _ h=>nomatch h),hc,R⟩
theorem fb_w (H:Fl3 s fl) (hz:z=.e∨z=.ll) (hu:s.isU=true→z.big=true→0≤v) (hv:v.natAbs < 2 ^ 70):FB (padT fl (fill0 fl) w (wholeT s z.big false fl w (-1) v)) s.c z (wrt false (dueW s z.big v)):=by
 obtain ⟨_,_,_,_,_,_,_,hw⟩:=whole_t (big:=z.big) (v:=v) H w
 have hc:=(rd_w (w:=w) 0 H hz hu hv).hd
 refine fb_pad hc hw fun n t p R h hR=>?_
 obtain ⟨c0,u,e,hb⟩:=hc
 have ht:t.drop p=c0::(u++R):=by rw [h,e]; rfl
 exact rd_f s.no3.1 (sk0 ht hb s.no3.2.1 s.no3.2.2) (at_lt ht) (rf_of (last0 (w:=-1) (by decide)) ((rd_w (n + 2) H hz hu hv).rd t p R h hR)) rfl
theorem fb_s (h0:∃ c0 u,m=c0::u∧isBlank c0=false) (hm:∀ k ∈ m,isBlank k=false) (h48:fl.contains 48=false):FB (padT fl (fill0 fl) w m) 115 .e m :=
 fb_pad h0 (fun h=>by rw [h48] at h; cases h) fun n t p R h hR=>by
  obtain ⟨c0,u,e,hb⟩:=h0
  have ht:t.drop p=c0::(u++R):=by rw [h,e]; rfl
  have hl:=at_le h rfl (Nat.le_of_lt (at_lt ht))
  refine rd_f (c:=115) (by decide) (sk0 ht hb (by decide) (by decide)) (at_lt ht) (rf_of (last0 (w:=-1) (by decide)) (rf_s (n:=n + 2) h (by rw [e]; exact List.cons_ne_nil _ _) hm hl ?_)) rfl
  rcases hR with rfl | ⟨u,rfl⟩
  ·exact .inl (Nat.le_antisymm hl (at_end (d_app h)))
  ·exact .inr ⟨32,u,rfl,rfl⟩
theorem fb_c {k:Nat} (hk:isBlank k=false) (hk2:k < 2 ^ 100) (h48:fl.contains 48=false):FB (padT fl (fill0 fl) w [k]) 99 .e (dgS false 10 k) :=
 fb_pad ⟨k,[],rfl,hk⟩ (fun h=>by rw [h48] at h; cases h) fun n t p R h hR=>rd_f (c:=99) (by decide) (.no (.inl rfl)) (at_lt (c:=k) (r:=R) h) (rf_of (last0 (w:=-1) (by decide)) (rf_c (n:=n + 2) (k:=k) (r:=R) h hk2)) rfl
end
end Mine
end
section
set_option tactic.hygienic false
open PySem
namespace Mine
noncomputable def meO:Option Nat→Me
 | none=>.no | some k=>.num k
structure Bk where
 z:Sz
 fl:Tx
 wd:Option Nat
 fi:Fi
 T:Tx
 due:Tx
structure Bk.Ok (b:Bk):Prop where
 F:FOk b.fl (meO b.wd) .no b.z b.fi
 hT:madeO b.fi b.z (flW b.fl (meO b.wd).v) (wdW (meO b.wd).v) (-1)=some b.T
 hl:b.T.length≤2200
 fb:FB b.T b.fi.sort b.z b.due
 D:Dk.Ok ⟨none,b.z,b.fi.sort,[],[]⟩
noncomputable def fmL:List Bk→Tx
 | []=>[] | b::B=>32::37::(specT b.fl (meO b.wd) .no b.z [b.fi.sort]++fmL B)
noncomputable def txL:List Bk→Tx
 | []=>[] | b::B=>32::(b.T++txL B)
noncomputable def bkL:List Bk→Tx
 | []=>[] | b::B=>32::37::((b.z.s++[b.fi.sort])++bkL B)
section
variable {n i M:Nat} {t f:Tx} {args:List AV} {cnt:Int} {B:List Bk}
theorem me_ws (wd:Option Nat):(meO wd).ws=[]:=by cases wd <;> rfl
theorem lp_bk:∀ (B:List Bk) {a i:Nat} {srt:Tx} {ss:List Tx},srt=[]∨srt=[37]→(∀ b ∈ B,b.Ok)→f.drop a=fmL B→args.drop i=B.map (fun b=>AV.str b.fi.text)→ss.length + 2 * B.length≤100→ss.flatten.length + 2201 * B.length≤50000→LP (n + 7) f args a i srt (ss.map AV.str) (.ok (.ret (.str (ss.flatten++txL B))))
 | [],a,i,srt,ss,_,_,h,_,h1,h2=>by
  have:=lp_end (n:=n + 7) (args:=args) (i:=i) (srt:=srt) (ss:=ss) h (by lia)
  rw [show ss.flatten++txL []=ss.flatten from List.append_nil _]
  exact this
 | b::B,a,i,srt,ss,hs,hB,h,hw,h1,h2=>by
  have O:=hB b (.head _)
  have l1:ss.length + 2 * (B.length + 1)≤100:=h1
  have l2:ss.flatten.length + 2201 * (B.length + 1)≤50000:=h2
  have l3:=O.hl
  have wsz:=me_ws b.wd
  refine lp_f1 (x:=[32]) (b:=a + 1) (r:=fmL B) (xs:=B.map fun b=>AV.str b.fi.text) O.F ?_ (by decide) (by rw [List.length_map]; lia) rfl hs ?_ (fun t ht=>?_) fun ht=>?_
  ·rw [spec_cons]
   exact h
  ·rw [wsz]
   exact hw
  ·have e:t=b.T:=Option.some.inj (ht.symm.trans O.hT)
   subst e
   rw [wsz,show ss.map AV.str++[AV.str [32]]++[AV.str b.T]=(ss++[[32]]++[b.T]).map AV.str by rw [List.map_append,List.map_append]; rfl]
   have fl:(ss++[[32]]++[b.T]).flatten=ss.flatten++32::b.T:=by rw [List.flatten_append,List.flatten_append,List.append_assoc]; show _++(32::(b.T++[]))=_; rw [List.append_nil]
   have g:=lp_bk B (a:=a + 1 + 1 + b.fl.length + (meO b.wd).t.length + 0 + b.z.s.length + 1) (i:=i + 0 + 0 + 1) (srt:=[37]) (ss:=ss++[[32]]++[b.T]) (.inr rfl) (fun c hc=>hB c (.tail _ hc)) ?_ (l_next hw) (by rw [List.length_append,List.length_append]; show ss.length + 1 + 1 + _≤_; lia) (by rw [fl,List.length_append,List.length_cons]; lia)
   ·rw [fl,List.append_assoc ss.flatten] at g
    exact g
   ·have:=d_app (at_next (at_next h))
    rw [len_spec] at this
    rw [← this]
    congr 1
    show _=a + 1 + 1 + (_ + _ + 0 + _ + 1)
    lia
  ·exact absurd (ht.symm.trans O.hT) (fun h=>nomatch h)
theorem ph_fmt (hB:∀ b ∈ B,b.Ok) (hl:B.length≤10):Ph (n + 8) 360 [.str (fmL B),.lst (B.map fun b=>AV.str b.fi.text)]=.ok (.str (txL B)) :=
 call_o (d:=d_format_text) (o:=.ok (.ret (.str (txL B)))) [.val (.str (fmL B)),.val (.lst (B.map fun b:Bk=>AV.str b.fi.text)),.u,.u,.u,.u,.u,.u,.u,.u] rfl rfl rfl (g_nx rfl (g_asg rfl (g_asg rfl (g_asg rfl (lp_bk (n:=n) (ss:=[]) (a:=0) (i:=0) B (.inl rfl) hB rfl rfl (by show 0 + _≤_; lia) (by show 0 + _≤_; lia) _ _ _ _))))) rfl
theorem cp_bk (hc:cnt=0∨cnt=M) (hM:M≤800):∀ (B:List Bk) {i a:Nat} {so:Tx},(∀ b ∈ B,b.Ok)→f.drop a=bkL B→so=[]∨so=[37]→i + B.length=M→CP n f cnt (toldL (List.range i)) so 0 i a (.ok (.ret (.int M)))
 | [],i,a,so,_,h,_,hi=>cp_end h fun s6 s7 s8 s9 s10 s11 s12 s13=>by
  have hi:i=M:=hi
  subst hi
  have e:manyC cnt 0 i=(i:Int):=by
   unfold manyC
   rcases hc with rfl | rfl
   ·rfl
   ·cases AV.eqv (.int i) (.int 0) <;> rfl
  have G:=cs_end (n:=n) (f:=f) (cnt:=cnt) (so:=so) (mo:=0) (ix:=i) (td:=toldL (List.range i)) (q:=.ok .none) (by rw [e]; exact told_all (fun j hj=>List.mem_range.mpr hj) (by lia)) (s6:=s6) (s7:=s7) (s8:=s8) (s9:=s9) (s10:=s10) (s11:=s11) (s12:=s12) (s13:=s13)
  rw [e] at G
  exact G
 | b::B,i,a,so,hB,h,hso,hi=>by
  have hi':i + (B.length + 1)=M:=hi
  have hcn:(decide (0 < cnt) && decide (cnt≤(i:Int)))=false:=by
   rcases hc with rfl | rfl
   ·rfl
   ·rw [show decide ((M:Int)≤(i:Int))=false from dgt (by lia)]; exact Bool.and_false _
  have g:=cp_bk hc hM B (i:=i + 1) (a:=a + 1 + 1 + (b.z.s++[b.fi.sort]).length) (so:=[37]) (fun c hc=>hB c (.tail _ hc)) (d_app (at_next (at_next h))) (.inr rfl) (by lia)
  rw [List.range_succ] at g
  exact cp_lit h (by decide) (dk_no (hB b (.head _)).D (at_next h) hso hcn (fun h=>Nat.lt_irrefl i (List.mem_range.mp h)) (by rw [List.length_range]; lia) g)
theorem sp_bk:∀ (B:List Bk) {i a p m:Nat} {b0:Tx} {D:List Tx},(∀ b ∈ B,b.Ok)→f.drop a=bkL B→t.drop p=b0++txL B→(∀ k ∈ b0,k=32)→D.length=i→SP n t f cnt (D.map AV.str++List.replicate B.length .none) a p i m (.ok (.ret (.lst ((D++B.map (·.due)).map AV.str))))
 | [],i,a,p,m,b0,D,_,h,_,_,_=>by
  rw [show D.map AV.str++List.replicate ([]:List Bk).length AV.none=D.map AV.str from List.append_nil _,show D++([]:List Bk).map (·.due)=D from List.append_nil _]
  exact sp_end h
 | b::B,i,a,p,m,b0,D,hB,h,ht,hb,hi=>by
  have O:=hB b (.head _)
  obtain ⟨b1,bd,b2,e,h1,h2,⟨c0,u,e0,hc0⟩,RR⟩:=O.fb
  have ht1:t.drop p=(b0++32::b1)++(bd++(b2++txL B)):=by
   rw [ht]
   show b0++32::(b.T++txL B)=_
   rw [e,List.append_assoc,List.append_assoc,List.append_assoc]
   rfl
  have hbl:∀ k ∈ b0++32::b1,isBlank k=true:=fun k hk=>by
   have:k=32:=(List.mem_append.mp hk).elim (hb k) fun hk=>(List.mem_cons.mp hk).elim id (h1 k)
   rw [this]
   rfl
  have hR:TlR (b2++txL B):=by
   cases b2 with
   | nil=>cases B with
    | nil=>exact .inl rfl
    | cons c B=>exact .inr ⟨_,rfl⟩
   | cons k b2=>exact .inr ⟨b2++txL B,by rw [h2 k (.head _)]; rfl⟩
  have ht2:t.drop (p + (b0++32::b1).length)=bd++(b2++txL B):=d_app ht1
  have V:=RR n t _ _ ht2 hR
  refine sp_bl h rfl ht1 hbl (by rw [e0]; exact .inr ⟨c0,_,rfl,hc0⟩) (dk_kept (d:=⟨none,b.z,b.fi.sort,[],[]⟩) (hd:=.no) O.D (.inl ⟨rfl,rfl⟩) (at_next h) V (by rw [List.length_append,List.length_map,hi,List.length_replicate]; exact Nat.lt_add_of_pos_right (Nat.succ_pos _)) ?_)
  have g:=sp_bk B (i:=i + 1) (a:=a + 1 + 1 + (b.z.s++[b.fi.sort]).length) (p:=p + (b0++32::b1).length + bd.length) (m:=m + 1) (b0:=b2) (D:=D++[b.due]) (fun c hc=>hB c (.tail _ hc)) (d_app (at_next (at_next h))) (d_app ht2) h2 (by rw [List.length_append,hi]; rfl)
  have e1:(D.map AV.str++List.replicate (b::B).length AV.none).set i (.str b.due)=(D++[b.due]).map AV.str++List.replicate B.length .none:=by
   rw [List.map_append,List.append_assoc]
   refine (List.set_append_right _ _ (by rw [List.length_map,hi]; exact Nat.le_refl _)).trans ?_
   rw [List.length_map,hi,Nat.sub_self]
   rfl
  rw [e1]
  rw [List.append_assoc] at g
  exact g
theorem ph_back (hB:∀ b ∈ B,b.Ok) (hl:B.length≤10) (hc:cnt=0∨cnt=(B.length:Nat)):Ph (n + 8) 366 [.str (txL B),.str (bkL B),.int cnt]=.ok (.lst ((B.map (·.due)).map AV.str)) :=
 (ph_scan3 (ph_check (cp_bk hc (by lia) B (i:=0) hB rfl (.inl rfl) (Nat.zero_add _)) rfl) (by lia) (sp_bk (n:=n) B (i:=0) (a:=0) (p:=0) (m:=0) (b0:=[]) (D:=[]) hB rfl rfl (fun _ h=>nomatch h) rfl)).trans rfl
end
end Mine
end
section
set_option tactic.hygienic false
open PySem
namespace Mine
noncomputable def exK:Kd→Tx
 | .w .d=>[48] | .w .o=>[48] | .w .u=>[48] | .w .x=>[35] | .w .X=>[35] | .w .b=>[35] | _=>[]
noncomputable def f0 (m:Nat):Tx:=cond (Nat.beq (m % 2) 1) [45] []++cond (Nat.beq (m / 2 % 2) 1) [43] []
noncomputable def flK (m:Nat) (kd:Kd):Tx:=cond (Nat.ble 4 m) (f0 m++exK kd) (f0 m)
noncomputable def chkF (kd:Kd) (m:Nat):Bool:=(flK m kd).all isFl && (Nat.ble (flK m kd).length 3 && match kd with
 | .w s=>!(flK m kd).contains 32 && ((!(flK m kd).contains 35 || (s.hasM && !s.isI)) && (!(flK m kd).contains 48 || (!(flK m kd).contains 35 && !s.isI)))
 | _=>!(flK m kd).contains 48)
theorem chkF_all (kd:Kd):∀ m,m < 8→chkF kd m=true:=by
 cases kd with
 | w s=>cases s <;> decide +kernel
 | s=>decide +kernel
 | c=>decide +kernel
theorem orn_t {a b:Bool} (h:(!a || b)=true) (ha:a=true):b=true:=by rw [ha] at h; exact h
theorem not_t {a:Bool} (h:(!a)=true):a=false:=by cases a <;> first | rfl | cases h
section
variable {n k r j m w:Nat} {N:Int} {ns:List Int} {fl core due:Tx} {wd:Option Nat} {z:Sz} {fi:Fi} {kd:Kd} {s:So} {v:Int} {σ:Env'}
theorem fl3_of {s:So} (h:(!fl.contains 32 && ((!fl.contains 35 || (s.hasM && !s.isI)) && (!fl.contains 48 || (!fl.contains 35 && !s.isI))))=true):Fl3 s fl :=
 have h1:=and2 h
 have h2:=and2 h1.2
 ⟨not_t h1.1,fun h=>have g:=and2 (orn_t h2.1 h); ⟨g.1,not_t g.2⟩,fun h=>have g:=and2 (orn_t h2.2 h); ⟨not_t g.1,not_t g.2⟩⟩
theorem me_v (hw:OkN wd):(meO wd).OkW∧flW fl (meO wd).v=fl∧wdW (meO wd).v=(meO wd).v∧(meO wd).v≤1000:=match wd,hw with
 | none,_=>⟨True.intro,rfl,rfl,by decide⟩
 | some k,hw=>by
  have h0:decide ((k:Int) < 0)=false:=dgt (Int.not_lt.mpr (Int.natCast_nonneg k))
  refine ⟨hw,?_,?_,Int.ofNat_le.mpr (Nat.le_trans (Nat.le_of_lt hw.1) (by decide))⟩
  ·show cond (decide ((k:Int) < 0)) _ _=_; rw [h0]; rfl
  ·show cond (decide ((k:Int) < 0)) _ _=_; rw [h0]; rfl
theorem bk_ok (hfl:∀ k ∈ fl,isFl k=true) (hlen:fl.length≤3) (hw:OkN wd) (hx:fi.Ok) (hs:fi.sort=kd.ch) (hT:madeO fi z fl (meO wd).v (-1)=some (padT fl (fill0 fl) (meO wd).v core)) (hc:core.length≤1200) (fb:FB (padT fl (fill0 fl) (meO wd).v core) kd.ch z due) (cs:∀ n,Ph (n + 1) 185 [.str [kd.ch],.int (-1),.str z.nm]=.ok .none) (h91:kd.ch≠91) :
  Bk.Ok ⟨z,fl,wd,fi,padT fl (fill0 fl) (meO wd).v core,due⟩:=by
 have K:=kd.ok
 have M:=me_v (fl:=fl) hw
 refine ⟨⟨hfl,Nat.le_trans hlen (by decide),M.1,True.intro,hx,hs ▸ K.1,hs ▸ K.2.1,spec_no2 hfl _ _ _,hs ▸ K.2.2⟩,?_,padT_len hc M.2.2.2,hs ▸ fb,hs ▸ dkP (wd:=none) (fun _ h=>nomatch h) K.2.1 K.1 K.2.2 cs h91⟩
 show madeO fi z (flW fl (meO wd).v) (wdW (meO wd).v) (-1)=_
 rw [M.2.1,M.2.2.1]
 exact hT
noncomputable def kdB:List Kd:=[.w .d,.w .x,.s,.w .o,.w .u,.w .X,.w .b,.c,.w .i]
noncomputable def sBk:List Tx:=[[97,98],[233,37,100],[123,97],[48,120],[45],[49,50,51,52,53,54,55,56]]
noncomputable def cBk:List Nat:=[65,233,8364,128512,37,48]
noncomputable def bB:List MS:=loB (c_law_is_scanned_back.drop 4)
noncomputable def stB (a0:AV) (r:Nat) (fm bk:Tx) (ww dd:List AV) (s6:SV) (τ:T9):Env':=[.val a0,.val (.int r),.val (.str fm),.val (.str bk),.ol ww,.ol dd,s6,τ.s7,τ.s8,τ.s9,τ.s10,τ.s11,τ.s12,τ.s13,τ.s14,τ.s15,.u]
theorem exK_ev (h9:getV σ 9=.ok (.str [kd.ch])):ev n (.idx (.tup [(.c (.str [48])),(.c (.str [35])),(.c (.str [])),(.c (.str [48])),(.c (.str [48])),(.c (.str [35])),(.c (.str [35])),(.c (.str [])),(.c (.str []))]) (.sm .index (.c (.str [100,120,115,111,117,88,98,99,105])) [(.v 9)])) σ=.ok (.str (exK kd)):=by
 have I:∀ i:Int,smop .index [100,120,115,111,117,88,98,99,105] [.str [kd.ch]]=.ok (.int i)→ev n (.sm .index (.c (.str [100,120,115,111,117,88,98,99,105])) [(.v 9)]) σ=.ok (.int i):=fun i h=>e_sm rfl (el_cons h9 rfl) h
 cases kd with
 | w s=>cases s <;> exact e_idx rfl (I _ rfl) rfl
 | s=>exact e_idx rfl (I _ rfl) rfl
 | c=>exact e_idx rfl (I _ rfl) rfl
noncomputable def wdO (w:Nat):Option Nat:=match w with
 | 0=>none | k + 1=>some (k + 1)
theorem wdO_ok (hw:w < 9):OkN (wdO w):=match w,hw with
 | 0,_=>True.intro
 | k + 1,h=>⟨Nat.lt_trans h (by decide),Nat.succ_ne_zero k⟩
theorem wdO_ev (hw:w < 9) (h:getV σ 13=.ok (.int w)):ev n (.ite (.cmp (.v 13) .gt (.c (.int 0))) (.bi .str [(.v 13)]) (.c (.str []))) σ=.ok (.str (wT (wdO w))):=match w,hw,h with
 | 0,_,h=>e_f (e_cmp h rfl rfl) rfl rfl
 | k + 1,hw,h=>e_t (e_cmp h rfl rfl) (dlt (Int.ofNat_lt.mpr (Nat.succ_pos k))) (e_bi (el_cons h rfl) (str_nat (Nat.lt_trans hw (by decide))))
structure VT where
 (fi:Fi) (T due:Tx)
def BVal (n r k:Nat) (N:Int) (z:Sz) (kd:Kd) (m w:Nat) (a0:AV) (fm bk:Tx) (ww dd:List AV) (s6 s11 s14 s15:SV):Prop :=
 ∃ x:VT,(Bk.Ok ⟨z,flK m kd,wdO w,x.fi,x.T,x.due⟩∧x.fi.sort=kd.ch)∧∃ t15,∀ B o,Go (n + 2) B (stB a0 r fm bk ww (dd++[.str x.due]) s6 ⟨.val (.int k),.val (.int N),.val (.str [kd.ch]),.val (.str z.s),s11,.val (.str (flK m kd)),.val (.int w),.val (.str x.fi.text),t15⟩) nx o →
  Go (n + 2) (vS (bB.drop 8)::B) (stB a0 r fm bk ww dd s6 ⟨.val (.int k),.val (.int N),.val (.str [kd.ch]),.val (.str z.s),s11,.val (.str (flK m kd)),.val (.int w),s14,s15⟩) nx o
theorem b_val {a0:AV} {fm bk:Tx} {ww dd:List AV} {s6 s11 s14 s15:SV} (hk:k≤1000) (hz:z=.e∨(z=.ll∧∃ s,kd=.w s)) (hdd:dd.length≤100) (hm:m < 8) (hw:w < 9):BVal n r k N z kd m w a0 fm bk ww dd s6 s11 s14 s15:=by
 have C:=chkF_all kd m hm
 have hfl:=List.all_eq_true.mp (and2 C).1
 have C2:=and2 (and2 C).2
 have hlen:=Nat.le_of_ble_eq_true C2.1
 have hW:=wdO_ok hw
 have ld:decide (dd.length < lLine)=true:=llt (Nat.le_trans hdd (by decide))
 cases kd with
 | s =>
  have hz:z=.e:=by rcases hz with h | ⟨_,s,h⟩; exact h; cases h
  subst hz
  have h48:=not_t C2.2
  obtain ⟨i,li,ei⟩:=modn (N / 3 + k) 6 (by decide)
  obtain ⟨t,ht,et⟩:=ixm_t (g:=AV.str) (l:=sBk) li
  have S:∀ t ∈ sBk,t.length≤8∧(∀ k ∈ t,isBlank k=false)∧t≠[]:=by decide +kernel
  have St:=S t ht
  have h0:∃ c u,t=c::u∧isBlank c=false:=match t,St with
   | [],St=>absurd rfl St.2.2
   | c::u,St=>⟨c,u,rfl,St.2.1 c (.head _)⟩
  exact ⟨⟨.s t,_,t⟩,⟨bk_ok (kd:=.s) hfl hlen hW (Nat.le_trans St.1 (by decide)) rfl rfl (Nat.le_trans St.1 (by decide)) (fb_s h0 St.2.1 h48) (fun n=>rfl) (by decide),rfl⟩,_,fun B o h=>g_it (e_cmp rfl rfl rfl) rfl (g_asg (e_idx (x:=.tup (sBk.map AV.str)) rfl (e_bin (e_bin (e_bin rfl rfl (z:=.int (N / 3)) rfl) rfl rfl) rfl ei) et) (g_app rfl rfl ld (g_done rfl))) h⟩
 | c =>
  have hz:z=.e:=by rcases hz with h | ⟨_,s,h⟩; exact h; cases h
  subst hz
  have h48:=not_t C2.2
  obtain ⟨i,li,ei⟩:=modn (N / 3 + k) 6 (by decide)
  obtain ⟨c,hc,ec⟩:=ixm_t (g:=fun c:Nat=>AV.int c) (l:=cBk) li
  have S:∀ c ∈ cBk,c < 1114112∧isBlank c=false:=by decide +kernel
  have Sc:=S c hc
  have h1:c < 2 ^ 100:=Nat.lt_trans Sc.1 (by decide)
  have hm:madeO (.c c) .e (flK m .c) (meO (wdO w)).v (-1)=some (padT (flK m .c) (fill0 (flK m .c)) (meO (wdO w)).v [c]):=by
   have h2:=Sc.1
   show some (padT _ _ _ (cond (decide ((0:Int)≤(c:Int)) && decide ((c:Int) < 1114112)) [(c:Int).toNat] [65533]))=_
   rw [decide_eq_true (Int.natCast_nonneg c),decide_eq_true (by omega:(c:Int) < 1114112)]
   rfl
  exact ⟨⟨.c c,_,dgS false 10 c⟩,⟨bk_ok (kd:=.c) hfl hlen hW (by have:=Sc.1; exact ⟨by omega,by omega⟩) rfl hm (Nat.le_of_ble_eq_true rfl) (fb_c Sc.2 h1 h48) (fun n=>rfl) (by decide),rfl⟩,_,fun B o h=>g_ie (e_cmp rfl rfl rfl) rfl (g_it (e_cmp rfl rfl rfl) rfl (g_asg (e_bi (el_cons (e_idx (x:=.tup (cBk.map fun c:Nat=>AV.int c)) rfl (e_bin (e_bin (e_bin rfl rfl (z:=.int (N / 3)) rfl) rfl rfl) rfl ei) ec) rfl) (str_nat h1)) (g_app rfl rfl ld (g_done rfl))) (g_done rfl)) h⟩
 | w s =>
  have H:=fl3_of C2.2
  have hz2:z=.e∨z=.ll:=hz.imp id fun h=>h.1
  have hH:z.isH=false:=by rcases hz2 with rfl | rfl <;> rfl
  have hb:=z.big_s
  have zc1:cmpop .eq (.str z.s) (.str [108,108])=.ok z.big:=by rcases hz2 with rfl | rfl <;> rfl
  have zc2:cmpop .eq (.str z.s) (.str [])=.ok (!z.big):=by rcases hz2 with rfl | rfl <;> rfl
  have su:cmpop .eq (.str [s.c]) (.str [117])=.ok s.isU:=congrArg R.ok s.n3
  obtain ⟨v0,hv0,ev0⟩:=ph_lval (n:=n + 1) (N:=N / 2) hk
  have val:∃ v:Int,v.natAbs < 2 ^ 70∧(s.isU=true→z.big=true→0≤v)∧∀ {σ:Env'},getV σ 9=.ok (.str [s.c])→getV σ 10=.ok (.str z.s)→getV σ 15=.ok (.int v0)→ev (n + 2) (.ite (.and [(.cmp (.v 9) .eq (.c (.str [117]))),(.cmp (.v 10) .eq (.c (.str [108,108])))]) (.bi .abs [(.v 15)]) (.v 15)) σ=.ok (.int v):=by
   cases hu:s.isU with
   | false=>rw [hu] at su; exact ⟨v0,hv0,(fun h=>nomatch h),fun h9 h10 h15=>e_f (e_andf (e_cmp h9 rfl su) rfl) rfl h15⟩
   | true =>
    rw [hu] at su
    cases hz:z.big with
    | false=>rw [hz] at zc1; exact ⟨v0,hv0,(fun _ h=>nomatch h),fun h9 h10 h15=>e_f (e_and (e_cmp h9 rfl su) rfl (e_andf (e_cmp h10 rfl zc1) rfl)) rfl h15⟩
    | true=>rw [hz] at zc1; exact ⟨v0.natAbs,hv0,(fun _ _=>Int.natCast_nonneg _),fun h9 h10 h15=>e_t (e_and (e_cmp h9 rfl su) rfl (e_and (e_cmp h10 rfl zc1) rfl rfl)) rfl (e_bi (el_cons h15 rfl) rfl)⟩
  obtain ⟨v,hv,hu,ev1⟩:=val
  have ew:=ph_written (n:=n) (way:=N / 4 + k) (v:=v) (Nat.lt_trans hv (by decide))
  generalize AV.eqv (.int ((N / 4 + k) % 3)) (.int 1)=q at ew
  have ed:∀ {σ:Env'},getV σ 9=.ok (.str [s.c])→getV σ 10=.ok (.str z.s)→getV σ 15=.ok (.int v)→ev (n + 2) (.ite (.and [(.cmp (.v 9) .eq (.c (.str [117]))),(.cmp (.v 10) .eq (.c (.str [])))]) (.bin .fmod (.v 15) (.bin .pow (.c (.int 2)) (.c (.int 64)))) (.call 401 [(.v 15),(.v 10)])) σ=.ok (.int (dueW s z.big v)):=fun h9 h10 h15=>by
   have cut:Ph (n + 2) 401 [.int v,.str z.s]=.ok (.int (cutF z.big false v)):=hH ▸ ph_lcut
   unfold dueW
   cases hu:s.isU with
   | false=>rw [hu] at su; exact e_f (e_andf (e_cmp h9 rfl su) rfl) rfl (e_call (el_cons h15 (el_cons h10 rfl)) cut)
   | true =>
    rw [hu] at su
    cases hz:z.big with
    | true=>rw [hz] at zc2 cut; exact e_f (e_and (e_cmp h9 rfl su) rfl (e_andf (e_cmp h10 rfl zc2) rfl)) rfl (e_call (el_cons h15 (el_cons h10 rfl)) cut)
    | false=>rw [hz] at zc2; exact e_t (e_and (e_cmp h9 rfl su) rfl (e_and (e_cmp h10 rfl zc2) rfl rfl)) rfl (e_bin h15 rfl (y:=.int 18446744073709551616) (limT rfl))
  have hm:madeO (.w s q v) z (flK m (.w s)) (meO (wdO w)).v (-1)=some (padT (flK m (.w s)) (fill0 (flK m (.w s))) (meO (wdO w)).v (wholeT s z.big false (flK m (.w s)) (meO (wdO w)).v (-1) v)):=by
   have:(s.isU && (z.big && decide (v < 0)))=false:=by
    cases h1:s.isU with
    | false=>rfl
    | true=>cases h2:z.big with
     | false=>rfl
     | true=>exact dgt (Int.not_lt.mpr (hu h1 h2))
   show cond (s.isU && (z.big && decide (v < 0))) none (some (padT _ _ _ (wholeT s z.big z.isH _ _ _ _)))=_
   rw [this,hH]
   rfl
  exact ⟨⟨.w s q v,_,wrt false (dueW s z.big v)⟩,⟨bk_ok (kd:=.w s) hfl hlen hW hv rfl hm (wholeT_len (me_v (fl:=[]) hW).2.2.2 (by decide)) (fb_w H hz2 hu hv) (fun n=>cs_w s _ _) s.no3.2.2,rfl⟩,_,fun B o h=>g_ie (e_cmp rfl rfl rfl) s.n1 (g_ie (e_cmp rfl rfl rfl) s.n2 (g_asg (e_call (el_cons (e_bin rfl rfl (z:=.int (N / 2)) rfl) rfl) ev0) (g_asg (ev1 rfl rfl rfl) (g_asg (e_call (el_cons rfl (el_cons (e_bin (e_bin rfl rfl (z:=.int (N / 4)) rfl) rfl rfl) rfl)) ew) (g_app rfl (e_bi (el_cons (ed rfl rfl rfl) rfl) (str_w (dueW_lt hv))) ld (g_done rfl))))) (g_done rfl)) h⟩
end
end Mine
end
section
set_option tactic.hygienic false
open PySem
namespace Mine
section
variable {n r j:Nat} {ns:List Int} {F:Env'→Out} {o:Out} {N:Int} {k:Nat} {kd:Kd} {σ:Env'}
theorem sz_ev (N:Int) (k:Nat) (kd:Kd):∃ z:Sz,(z=.e∨(z=.ll∧∃ s,kd=.w s))∧∀ {n:Nat} {σ:Env'},getV σ 7=.ok (.int k)→getV σ 8=.ok (.int N)→getV σ 9=.ok (.str [kd.ch])→ev n (.ite (.and [(.cmp (.v 9) .notin (.c (.str [115,99]))),(.cmp (.bin .fmod (.bin .add (.bin .fdiv (.v 8) (.c (.int 9))) (.v 7)) (.c (.int 2))) .eq (.c (.int 1)))]) (.c (.str [108,108])) (.c (.str []))) σ=.ok (.str z.s):=by
 obtain ⟨m,_,em⟩:=modn (N / 9 + k) 2 (by decide)
 cases kd with
 | s=>exact ⟨.e,.inl rfl,fun h7 h8 h9=>e_f (e_andf (e_cmp h9 rfl rfl) rfl) rfl rfl⟩
 | c=>exact ⟨.e,.inl rfl,fun h7 h8 h9=>e_f (e_andf (e_cmp h9 rfl rfl) rfl) rfl rfl⟩
 | w s =>
  have e:cmpop .notin (.str [(Kd.w s).ch]) (.str [115,99])=.ok true:=by cases s <;> rfl
  cases hm:AV.eqv (.int m) (.int 1) with
  | true=>exact ⟨.ll,.inr ⟨rfl,s,rfl⟩,fun h7 h8 h9=>e_t (e_and (e_cmp h9 rfl e) rfl (e_and (e_cmp (e_bin (e_bin (e_bin h8 rfl (z:=.int (N / 9)) rfl) h7 rfl) rfl em) rfl (congrArg R.ok hm)) rfl rfl)) rfl rfl⟩
  | false=>exact ⟨.e,.inl rfl,fun h7 h8 h9=>e_f (e_and (e_cmp h9 rfl e) rfl (e_andf (e_cmp (e_bin (e_bin (e_bin h8 rfl (z:=.int (N / 9)) rfl) h7 rfl) rfl em) rfl (congrArg R.ok hm)) rfl)) rfl rfl⟩
theorem f0_ev:∀ m,m < 8→∀ {n:Nat} {σ:Env'},getV σ 11=.ok (.int (m:Nat))→ev n (.bin .add (.ite (.cmp (.bin .fmod (.v 11) (.c (.int 2))) .eq (.c (.int 1))) (.c (.str [45])) (.c (.str []))) (.ite (.cmp (.bin .fmod (.bin .fdiv (.v 11) (.c (.int 2))) (.c (.int 2))) .eq (.c (.int 1))) (.c (.str [43])) (.c (.str [])))) σ=.ok (.str (f0 m)):=fun m hm n σ h=>by
 have A:∀ (t:Bool) {e:ME} {c:Tx},ev n e σ=.ok (.bool t)→ev n (.ite e (.c (.str c)) (.c (.str []))) σ=.ok (.str (cond t c [])):=fun t {e c} h=>by
  cases t
  ·exact e_f h rfl rfl
  ·exact e_t h rfl rfl
 have e1:ev n (.cmp (.bin .fmod (.v 11) (.c (.int 2))) .eq (.c (.int 1))) σ=.ok (.bool (AV.eqv (.int ((m:Int) % 2)) (.int 1))):=e_cmp (e_bin h rfl rfl) rfl rfl
 have e2:ev n (.cmp (.bin .fmod (.bin .fdiv (.v 11) (.c (.int 2))) (.c (.int 2))) .eq (.c (.int 1))) σ=.ok (.bool (AV.eqv (.int ((m:Int) / 2 % 2)) (.int 1))):=e_cmp (e_bin (e_bin h rfl (z:=.int ((m:Int) / 2)) rfl) rfl rfl) rfl rfl
 have hc:∀ m,m < 8→(cond (AV.eqv (.int ((m:Nat) % 2:Int)) (.int 1)) [45] []++cond (AV.eqv (.int ((m:Nat) / 2 % 2:Int)) (.int 1)) [43] []:Tx)=f0 m∧(cond (AV.eqv (.int ((m:Nat) % 2:Int)) (.int 1)) [45] []:Tx).length≤1∧(cond (AV.eqv (.int ((m:Nat) / 2 % 2:Int)) (.int 1)) [43] []:Tx).length≤1:=by decide +kernel
 have g:=hc m hm
 rw [← g.1]
 exact e_bin (A _ e1) (A _ e2) (add_s (Nat.le_trans (Nat.add_le_add g.2.1 g.2.2) (by decide)))
noncomputable def Bk.sp (b:Bk):Tx:=32::37::specT b.fl (meO b.wd) .no b.z [b.fi.sort]
noncomputable def Bk.bk (b:Bk):Tx:=32::37::(b.z.s++[b.fi.sort])
theorem wT_le (wd:Option Nat):(wT wd).length≤100:=by
 cases wd
 ·exact Nat.zero_le _
 ·exact dgS_len _ _ _
def BkT (n r j:Nat) (ns:List Int) (fm bk:Tx) (ww dd:List AV) (τ:T9):Prop:=∃ b:Bk,(b.Ok∧b.sp.length≤120∧b.bk.length≤10)∧∃ τ':T9,
  Go (n + 2) bB (stB (.lst (ns.map AV.int)) r fm bk ww dd (.val (.int j)) τ) nx (.ok (.next (stB (.lst (ns.map AV.int)) r (fm++b.sp) (bk++b.bk) (ww++[.str b.fi.text]) (dd++[.str b.due]) (.val (.int j)) τ')))
theorem bk_turn {fm bk:Tx} {ww dd:List AV} {τ:T9} (hk:4 * r + j≤900) (h1:fm.length≤5000) (h2:bk.length≤5000) (h3:ww.length≤100) (h4:dd.length≤100):BkT n r j ns fm bk ww dd τ:=by
 obtain ⟨N,hN⟩:=ph_num (n:=n + 1) (ns:=ns) (p:=4 * r + j + 1)
 obtain ⟨m1,l1,e1⟩:=modn (N + (4 * r + j:Nat)) 9 (by decide)
 obtain ⟨kd,_,f1⟩:=ixm_s (g:=Kd.ch) (l:=kdB) (m:=m1) l1
 obtain ⟨z,hz,ez⟩:=sz_ev N (4 * r + j) kd
 obtain ⟨m,lm,em⟩:=modn (N / 18 + 3 * (4 * r + j:Nat)) 8 (by decide)
 obtain ⟨w,lw,ew⟩:=modn (N / 144 + 2 * (4 * r + j:Nat)) 9 (by decide)
 obtain ⟨⟨fi,T,due⟩,⟨O,hs⟩,t15,V⟩:=b_val (n:=n) (r:=r) (k:=4 * r + j) (N:=N) (z:=z) (kd:=kd) (m:=m) (w:=w) (a0:=.lst (ns.map AV.int)) (fm:=fm) (bk:=bk) (ww:=ww) (dd:=dd) (s6:=.val (.int j)) (s11:=.val (.int m)) (s14:=τ.s14) (s15:=τ.s15) (by lia) hz h4 lm lw
 have C:=and2 (and2 (chkF_all kd m lm)).2
 have lf:=Nat.le_of_ble_eq_true C.1
 have lz:=z.len
 have lw2:=wT_le (wdO w)
 have l0:(f0 m).length≤3∧(exK kd).length≤1:=by
  have h:∀ m,m < 8→(f0 m).length≤3:=by decide +kernel
  refine ⟨h m lm,?_⟩
  cases kd with
  | w s=>cases s <;> decide
  | s=>decide
  | c=>decide
 have k1:(fm++[32,37]).length≤5002:=len_k h1 (b:=2) (by decide) (by decide)
 have k2:((fm++[32,37])++flK m kd).length≤5005:=len_k k1 lf (by decide)
 have k3:(((fm++[32,37])++flK m kd)++wT (wdO w)).length≤5105:=len_k k2 lw2 (by decide)
 have k4:((((fm++[32,37])++flK m kd)++wT (wdO w))++z.s).length≤5107:=len_k k3 lz (by decide)
 have k5:(bk++[32,37]).length≤5002:=len_k h2 (b:=2) (by decide) (by decide)
 have k6:((bk++[32,37])++z.s).length≤5004:=len_k k5 lz (by decide)
 have ad:=fun {s t:Tx} {a b:Nat} (h:s.length≤a) (h2:t.length≤b) (h3:a + b≤100000)=>add_s (s:=s) (t:=t) (Nat.le_trans (Nat.add_le_add h h2) h3)
 have one:∀ c:Nat,[c].length≤1:=fun c=>Nat.le_refl 1
 have ef:((((fm++[32,37])++flK m kd)++wT (wdO w))++z.s)++[kd.ch]=fm++Bk.sp ⟨z,flK m kd,wdO w,fi,T,due⟩:=by
  unfold Bk.sp specT
  rw [hs,List.append_assoc,List.append_assoc,List.append_assoc,List.append_assoc]
  show _=fm++32::37::(flK m kd++((meO (wdO w)).t++([]++(z.s++[kd.ch]))))
  rw [show (meO (wdO w)).t=wT (wdO w) by cases wdO w <;> rfl]
  rfl
 have eb:((bk++[32,37])++z.s)++[kd.ch]=bk++Bk.bk ⟨z,flK m kd,wdO w,fi,T,due⟩:=by
  unfold Bk.bk
  rw [hs,List.append_assoc,List.append_assoc]
  rfl
 have lsp:(Bk.sp ⟨z,flK m kd,wdO w,fi,T,due⟩).length≤120:=by
  have:=congrArg List.length ef
  have k7:=len_k (s:=(((([]++[32,37])++flK m kd)++wT (wdO w))++z.s)) (t:=[kd.ch]) (c:=120) (len_k (len_k (len_k (s:=[]++[32,37]) (a:=2) (by decide) lf (Nat.le_refl _)) lw2 (Nat.le_refl _)) lz (Nat.le_refl _)) (one _) (by decide)
  rw [List.length_append,List.length_append,List.length_append,List.length_append,List.length_append,List.length_append] at this
  rw [List.length_append,List.length_append,List.length_append,List.length_append,List.length_append] at k7
  have k8:([]:Tx).length + [32,37].length + (flK m kd).length + (wT (wdO w)).length + z.s.length + [kd.ch].length≤120:=k7
  have:fm.length + 2 + (flK m kd).length + (wT (wdO w)).length + z.s.length + 1=fm.length + (Bk.sp ⟨z,flK m kd,wdO w,fi,T,due⟩).length:=this
  have k8:0 + 2 + (flK m kd).length + (wT (wdO w)).length + z.s.length + 1≤120:=k8
  lia
 have lbk:(Bk.bk ⟨z,flK m kd,wdO w,fi,T,due⟩).length≤10:=by
  unfold Bk.bk
  rw [List.length_cons,List.length_cons,List.length_append]
  exact Nat.le_trans (Nat.add_le_add_right (Nat.add_le_add_right (Nat.add_le_add lz (one _)) 1) 1) (by decide)
 refine ⟨_,⟨O,lsp,lbk⟩,⟨.val (.int (4 * r + j:Nat)),.val (.int N),.val (.str [kd.ch]),.val (.str z.s),.val (.int m),.val (.str (flK m kd)),.val (.int w),.val (.str fi.text),t15⟩,?_⟩
 refine g_asg (v:=.int (4 * r + j:Nat)) (e_bin (e_bin rfl rfl rfl) rfl rfl) (g_asg (e_call (el_cons rfl (el_cons (v:=.int (4 * r + j + 1:Nat)) rfl rfl)) hN) (g_asg (e_idx (x:=.str (kdB.map Kd.ch)) rfl (e_bin (e_bin rfl rfl rfl) rfl e1) f1) (g_asg (ez rfl rfl rfl) (g_asg (e_bin (e_bin (e_bin rfl rfl (z:=.int (N / 18)) rfl) (e_bin rfl rfl (z:=.int (3 * (4 * r + j:Nat))) rfl) rfl) rfl em) (g_asg (f0_ev m lm rfl) ?_)))))
 have rest:Go (n + 2) (bB.drop 7) (stB (.lst (ns.map AV.int)) r fm bk ww dd (.val (.int j)) ⟨.val (.int (4 * r + j:Nat)),.val (.int N),.val (.str [kd.ch]),.val (.str z.s),.val (.int m),.val (.str (flK m kd)),τ.s13,τ.s14,τ.s15⟩) nx (.ok (.next (stB (.lst (ns.map AV.int)) r (fm++Bk.sp ⟨z,flK m kd,wdO w,fi,T,due⟩) (bk++Bk.bk ⟨z,flK m kd,wdO w,fi,T,due⟩) (ww++[.str fi.text]) (dd++[.str due]) (.val (.int j)) ⟨.val (.int (4 * r + j:Nat)),.val (.int N),.val (.str [kd.ch]),.val (.str z.s),.val (.int m),.val (.str (flK m kd)),.val (.int w),.val (.str fi.text),t15⟩))):=by
  rw [← ef,← eb]
  exact g_asg (e_bin (e_bin (e_bin rfl rfl (z:=.int (N / 144)) rfl) (e_bin rfl rfl (z:=.int (2 * (4 * r + j:Nat))) rfl) rfl) rfl ew) (V _ _ (g_app rfl rfl (llt (Nat.le_trans h3 (by decide))) (g_asg (e_bin (e_bin (e_bin (e_bin (e_bin rfl rfl (ad h1 (t:=[32,37]) (b:=2) (by decide) (by decide))) rfl (ad k1 lf (by decide))) (wdO_ev lw rfl) (ad k2 lw2 (by decide))) rfl (ad k3 lz (by decide))) rfl (ad k4 (one _) (by decide))) (g_asg (e_bin (e_bin (e_bin rfl rfl (ad h2 (t:=[32,37]) (b:=2) (by decide) (by decide))) rfl (ad k5 lz (by decide))) rfl (ad k6 (one _) (by decide))) (g_done rfl)))))
 have hd4:decide ((4:Int)≤(m:Int))=Nat.ble 4 m:=by
  have h:∀ m:Nat,m < 8→decide ((4:Int)≤(m:Int))=Nat.ble 4 m:=by decide +kernel
  exact h m lm
 unfold flK at rest ⊢
 generalize Nat.ble 4 m=t at hd4 rest ⊢
 cases t with
 | true=>exact g_it (e_cmp rfl rfl rfl) hd4 (g_asg (e_bin rfl (exK_ev rfl) (ad l0.1 l0.2 (by decide))) (g_done rfl)) rest
 | false=>exact g_if0 (e_cmp rfl rfl rfl) hd4 rest
end
end Mine
end
section
set_option tactic.hygienic false
open PySem
namespace Mine
section
variable {n r g:Nat} {ns:List Int} {F:Env'→Out} {o:Out} {L:List AV}
def FrBk (n r:Nat) (ns:List Int) (F:Env'→Out) (o:Out) (js:List Nat) (fm bk:Tx) (ww dd:List AV) (s6:SV) (τ:T9):Prop:=∃ B:List Bk,(B.length=js.length∧∀ b ∈ B,b.Ok)∧((∀ t6 τ',F (stB (.lst (ns.map AV.int)) r (fm++fmL B) (bk++bkL B) (ww++B.map fun b=>AV.str b.fi.text) (dd++(B.map (·.due)).map AV.str) t6 τ')=o) →
   Fr (n + 2) .rng [6] bB (js.map fun (j:Nat)=>AV.int j) (stB (.lst (ns.map AV.int)) r fm bk ww dd s6 τ) F o)
theorem fr_bk (hr:r≤100):∀ (js:List Nat) {fm bk:Tx} {ww dd:List AV} {s6:SV} {τ:T9},(∀ j ∈ js,j≤100)→fm.length + 120 * js.length≤5000→bk.length + 10 * js.length≤5000→ww.length + js.length≤100→dd.length + js.length≤100→FrBk n r ns F o js fm bk ww dd s6 τ
 | [],fm,bk,ww,dd,s6,τ,_,_,_,_,_=>⟨[],⟨rfl,(fun _ h=>nomatch h)⟩,fun h=>by
  have k:=h s6 τ
  rw [show fm++fmL []=fm from List.append_nil _,show bk++bkL []=bk from List.append_nil _,show ww++([]:List Bk).map (fun b=>AV.str b.fi.text)=ww from List.append_nil _,show dd++(([]:List Bk).map (·.due)).map AV.str=dd from List.append_nil _] at k
  exact k⟩
 | j::js,fm,bk,ww,dd,s6,τ,hj,h1,h2,h3,h4=>by
  have hj1:=hj j (.head _)
  have h1':fm.length + 120 * (js.length + 1)≤5000:=h1
  have h2':bk.length + 10 * (js.length + 1)≤5000:=h2
  have h3':ww.length + (js.length + 1)≤100:=h3
  have h4':dd.length + (js.length + 1)≤100:=h4
  obtain ⟨b,⟨hb,l1,l2⟩,τ',T⟩:=bk_turn (n:=n) (ns:=ns) (r:=r) (j:=j) (fm:=fm) (bk:=bk) (ww:=ww) (dd:=dd) (τ:=τ) (by lia) (by lia) (by lia) (by lia) (by lia)
  obtain ⟨B,⟨e1,e2⟩,e3⟩:=fr_bk hr js (fm:=fm++b.sp) (bk:=bk++b.bk) (ww:=ww++[.str b.fi.text]) (dd:=dd++[.str b.due]) (s6:=.val (.int j)) (τ:=τ') (fun i hi=>hj i (.tail _ hi)) (by rw [List.length_append]; lia) (by rw [List.length_append]; lia) (by rw [List.length_append]; show ww.length + 1 + _≤_; lia) (by rw [List.length_append]; show dd.length + 1 + _≤_; lia)
  refine ⟨b::B,⟨congrArg (· + 1) e1,all_c hb e2⟩,fun h=>f_next (fun F=>rfl) T (fun F=>rfl) (e3 fun t6 τ''=>?_)⟩
  have k:=h t6 τ''
  rw [show fm++fmL (b::B)=(fm++b.sp)++fmL B from (List.append_assoc fm b.sp (fmL B)).symm,show bk++bkL (b::B)=(bk++b.bk)++bkL B from (List.append_assoc bk b.bk (bkL B)).symm,show ww++(b::B).map (fun b=>AV.str b.fi.text)=(ww++[.str b.fi.text])++B.map (fun b=>AV.str b.fi.text) from (List.append_assoc ww [AV.str b.fi.text] _).symm,show dd++((b::B).map (·.due)).map AV.str=(dd++[.str b.due])++(B.map (·.due)).map AV.str from (List.append_assoc dd [AV.str b.due] _).symm] at k
  exact k
theorem ph_isback (hr:r < 2):Ph (n + 9) 446 [.lst (ns.map AV.int),.int r]=.ok (.bool true):=by
 obtain ⟨B,⟨hB,hok⟩,G⟩:=fr_bk (n:=n + 6) (ns:=ns) (r:=r) (F:=fun σ=>seqO (evSs (Ph (n + 8)) MT (De (n + 8)) (c_law_is_scanned_back.drop 5) σ) nx) (o:=.ok (.ret (.bool true))) (by lia) [0,1,2,3] (fm:=[]) (bk:=[]) (ww:=[]) (dd:=[]) (s6:=.u) (τ:=⟨.u,.u,.u,.u,.u,.u,.u,.u,.u⟩) (by decide) (by decide) (by decide) (by decide) (by decide)
 have hl:B.length=4:=hB
 have h1:=ph_fmt (n:=n) hok (by lia)
 have h2:=ph_back (n:=n) (cnt:=4 * r) hok (by lia) (by rw [hl]; lia)
 have hs:Sc ((B.map (·.due)).map AV.str):=fun x hx=>by
  obtain ⟨y,_,rfl⟩:=List.mem_map.mp hx
  rfl
 refine call_s (d:=d_law_is_scanned_back) [.val (.lst (ns.map AV.int)),.val (.int r),.u,.u,.u,.u,.u,.u,.u,.u,.u,.u,.u,.u,.u,.u,.u] rfl rfl rfl (g_asg rfl (g_asg rfl (g_nx rfl (g_nx rfl (g_forR (i:=(4:Nat)) rfl rfl (G fun t6 τ=>?_))))))
 refine (?_:Go (n + 8) (c_law_is_scanned_back.drop 5) (stB (.lst (ns.map AV.int)) r (fmL B) (bkL B) (B.map fun b=>AV.str b.fi.text) ((B.map (·.due)).map AV.str) t6 τ) nx (.ok (.ret (.bool true))))
 exact g_frz rfl (g_asg (e_call rfl h1) (g_frz rfl (g_ret (e_cmp (e_call (el_cons rfl (el_cons rfl (el_cons (v:=.int (4 * r)) (e_bin rfl rfl rfl) rfl))) h2) rfl (eq_sc hs)) rfl)))
theorem fr_c1 {s0:AV} {s2 s3 s4 s5 s6 s7 s8 s9 s10:SV}:∀ (js:List Nat) (s1:SV),(∀ j ∈ js,Ph n g [s0,.int (j:Nat)]=.ok (.bool true))→(∀ t1,F [.val s0,t1,s2,s3,s4,s5,s6,s7,s8,s9,s10]=o)→Fr n .rng [1] [.ite (.not (.call g [(.v 0),(.v 1)])) [.ret (.c (.bool false))] []] (js.map fun (j:Nat)=>AV.int j) [.val s0,s1,s2,s3,s4,s5,s6,s7,s8,s9,s10] F o
 | [],s1,_,h=>h s1
 | j::js,s1,hj,h=>f_next (fun F=>rfl) (g_if0 (e_not (e_call rfl (hj j (.head _)))) rfl (g_done rfl)) (fun F=>rfl) (fr_c1 js _ (fun i hi=>hj i (.tail _ hi)) h)
theorem fr_c5 {s0:AV} {s1 s2 s3 s4 s6 s7 s8 s9 s10:SV}:∀ (js:List Nat) (s5:SV),(∀ j ∈ js,Ph n g [s0,.int (j:Nat)]=.ok (.bool true))→(∀ t5,F [.val s0,s1,s2,s3,s4,t5,s6,s7,s8,s9,s10]=o)→Fr n .rng [5] [.ite (.not (.call g [(.v 0),(.v 5)])) [.ret (.c (.bool false))] []] (js.map fun (j:Nat)=>AV.int j) [.val s0,s1,s2,s3,s4,s5,s6,s7,s8,s9,s10] F o
 | [],s5,_,h=>h s5
 | j::js,s5,hj,h=>f_next (fun F=>rfl) (g_if0 (e_not (e_call rfl (hj j (.head _)))) rfl (g_done rfl)) (fun F=>rfl) (fr_c5 js _ (fun i hi=>hj i (.tail _ hi)) h)
theorem ph_law:Ph 15 470 [.lst (ns.map AV.int)]=.ok (.bool true):=by
 obtain ⟨N0,h0⟩:=ph_num (n:=13) (ns:=ns) (p:=0)
 obtain ⟨L2,ok2,e2⟩:=ph_wfs (n:=13) (N:=N0) 5
 obtain ⟨N1,h1⟩:=ph_num (n:=13) (ns:=ns) (p:=1)
 obtain ⟨m,lm,em⟩:=modn N1 7 (by decide)
 obtain ⟨L5,ok5,e5⟩:=ph_wcs (n:=13) (N:=N1) 6 (w:=m + 5) (by lia) (by lia)
 have hw:biop .str [.int (5 + N1 % 7)]=.ok (.str (dgS false 10 (m + 5))):=by
  have:N1 % 7=(m:Int):=by
   have h:(R.ok (AV.int (N1 % 7)):R AV)=.ok (.int m):=em
   generalize N1 % 7=q at h
   cases h
   rfl
  rw [this,show (5 + (m:Int))=((m + 5:Nat):Int) by lia]
  exact str_nat (Nat.lt_trans (by lia:m + 5 < 60) (by decide +kernel))
 have j3:∀ j ∈ [0,1,2],j≤10:=by decide
 have j2:∀ j ∈ [0,1],j < 2:=by decide
 have j4:∀ j ∈ [0,1,2,3],j≤10:=by decide
 refine call_s (d:=d_law) [.val (.lst (ns.map AV.int)),.u,.u,.u,.u,.u,.u,.u,.u,.u,.u] rfl rfl rfl (g_forR (i:=(3:Nat)) rfl rfl (fr_c1 [0,1,2] _ (fun j hj=>ph_isform (n:=4) (j3 j hj)) fun t1=>?_))
 refine (?_:Go 14 (c_law.drop 1) [.val (.lst (ns.map AV.int)),t1,.u,.u,.u,.u,.u,.u,.u,.u,.u] nx (.ok (.ret (.bool true))))
 refine g_forL (e_call (el_cons (e_call rfl h0) rfl) e2) (fr_wf (n:=5) L2 _ _ _ ok2 fun t2 t3 t4=>?_)
 refine (?_:Go 14 (c_law.drop 2) [.val (.lst (ns.map AV.int)),t1,t2,t3,t4,.u,.u,.u,.u,.u,.u] nx (.ok (.ret (.bool true))))
 refine g_forR (i:=(2:Nat)) rfl rfl (fr_c5 [0,1] _ (fun j hj=>ph_isback (n:=5) (j2 j hj)) fun t5=>?_)
 refine (?_:Go 14 (c_law.drop 3) [.val (.lst (ns.map AV.int)),t1,t2,t3,t4,t5,.u,.u,.u,.u,.u] nx (.ok (.ret (.bool true))))
 refine g_forR (i:=(4:Nat)) rfl rfl (fr_c5 [0,1,2,3] _ (fun j hj=>ph_isscan (n:=5) (j4 j hj)) fun t5=>?_)
 refine (?_:Go 14 (c_law.drop 4) [.val (.lst (ns.map AV.int)),t1,t2,t3,t4,t5,.u,.u,.u,.u,.u] nx (.ok (.ret (.bool true))))
 refine g_asg (e_call rfl h1) (g_forL (e_call (el_cons rfl rfl) e5) (fr_ws (n:=6) hw L5 _ _ _ _ _ _ ok5 fun t2 t3 t7 t8 t9 t10=>?_))
 exact (g_ret rfl rfl:Go 14 (c_law.drop 6) [.val (.lst (ns.map AV.int)),t1,t2,t3,t4,t5,.val (.int N1),t7,t8,t9,t10] nx (.ok (.ret (.bool true))))
end
end Mine
end
theorem PySem.Challenge.cw_np0141_01_holds : PySem.Challenge.rw_np0141_01.Holds :=
  Mine.law_holds fun _ _ => Mine.ph_law
