import PyProof.Rows.All
import Wide.All
import OpenK.AllK
import Wide.FinOn
import HandS.ForMost
import HandS.Exc
import HandS.ExcCtx
import HandS.WordsExc
import HandS.Lambda
import HandS.HeadHook1
import HandS.TupAny
import HandS.TupMul
import HandS.Wide
import HandS.Defaults
import HandS.IsInst
import HandS.DictComp
import HandS.Style
import KE.GoesEnum
import HandS.HotCalls
import HandS.ExcIs
import HandS.Strs
import HandS.Replace
import KE.KTupSum
import KE.DataMinMax
import HandS.ReplaceList
import PyProof.Rows.SortShellAny
import HandS.Codes
import PyProof.CollectStr
import PySem.Challenge.RW_lastout_k02_whole_added
import KE.KStateDown
import HandS.Head0
import HandS.Head1
import HandS.Head2
import HandS.HeadEnd
import HandS.HeadHook2
import HandS.HeadHook3
import HandS.HeadHook4
import HandS.HeadWalk
import HandS.NestedK
set_option Elab.async false
set_option linter.all false
set_option maxRecDepth 100000
set_option maxHeartbeats 0
/-! Plain data, a small state of named slots, and the Python constructs as functions over them. -/
namespace Pu
/-- plain data: what a Python value denotes, without addresses; amb is the one changing list or dict that is handed around -/
inductive D where
  | non
  | bl (b : Bool)
  | int (i : Int)
  | str (s : List Nat)
  | tup (ds : List D)
  | lst (ds : List D)
  | dic (kvs : List (List Nat × D))
  | scr (ns : List Int)
  | amb
  | ob (a : Nat)
/-- a slot: a value, or a list or dict that nobody else holds -/
inductive Sl where
  | v (d : D)
  | own (d : D)
abbrev Rho := List (Option Sl)
inductive Rs (A : Type) where
  | ok (a : A) (r : Rho) (m : D)
  | exc (c : Nat) (m : D)
  | bad
abbrev M (A : Type) := Rho → D → Rs A
/-- what a call gives -/
inductive Ro where
  | ok (d : D) (m : D)
  | exc (c : Nat) (m : D)
  | bad
abbrev Fn := List D → D → Ro
def LN : Nat := 16777216

section
variable {A B : Type}
def pu (a : A) : M A := fun r m => .ok a r m
def bd (x : M A) (f : A → M B) : M B := fun r m => match x r m with
  | .ok a r' m' => f a r' m'
  | .exc c m' => .exc c m'
  | .bad => .bad
def opt (o : Option A) : M A := fun r m => match o with
  | some a => .ok a r m
  | none => .bad
theorem bd_ok {x : M A} {f : A → M B} {r r' : Rho} {m m' : D} {a : A} (h : x r m = .ok a r' m') : bd x f r m = f a r' m' := by
  unfold bd; rw [h]
theorem bd_exc {x : M A} {f : A → M B} {r : Rho} {m m' : D} {c : Nat} (h : x r m = .exc c m') : bd x f r m = .exc c m' := by
  unfold bd; rw [h]
theorem bd_pu (a : A) (f : A → M B) : bd (pu a) f = f a := rfl
end

/-! ### values -/
def ixN (n : Nat) (i : Int) : Option Nat := if 0 ≤ i then (if i < n then some i.toNat else none) else if -(n : Int) ≤ i then some (i + n).toNat else none
def atI {A : Type} (xs : List A) (i : Int) : Option A := (ixN xs.length i).bind fun j => xs[j]?
def sIx (n d : Nat) : Option Int → Nat
  | none => d
  | some v => if v < 0 then (v + (n : Int)).toNat else min v.toNat n
def cut {A : Type} (xs : List A) (lo hi : Option Int) : List A := (xs.drop (sIx xs.length 0 lo)).take (sIx xs.length xs.length hi - sIx xs.length 0 lo)
def flat : D → Bool
  | .non => true
  | .bl _ => true
  | .int _ => true
  | .str _ => true
  | _ => false
/-- shallow data of tuples, lists and flat things -/
def shp : Nat → D → Bool
  | _, .non => true
  | _, .bl _ => true
  | _, .int _ => true
  | _, .str _ => true
  | n + 1, .tup ds => ds.all (shp n)
  | n + 1, .lst ds => ds.all (shp n)
  | _, _ => false
mutual
def deq : D → D → Bool
  | .non, .non => true
  | .bl a, .bl b => a == b
  | .bl a, .int j => (if a then 1 else 0) == j
  | .int i, .bl b => i == (if b then 1 else 0)
  | .int i, .int j => i == j
  | .str x, .str y => x == y
  | .lst xs, .lst ys => deqs xs ys
  | .tup xs, .tup ys => deqs xs ys
  | _, _ => false
def deqs : List D → List D → Bool
  | [], [] => true
  | x :: xs, y :: ys => deq x y && deqs xs ys
  | _, _ => false
end
def noamb : D → Bool
  | .amb => false
  | .tup ds => noambs ds
  | .lst ds => noambs ds
  | .dic kvs => noambk kvs
  | _ => true
where
  noambs : List D → Bool
    | [] => true
    | d :: ds => noamb d && noambs ds
  noambk : List (List Nat × D) → Bool
    | [] => true
    | (_, d) :: r => noamb d && noambk r
def oEq (x y : D) : Option D := match x, y with
  | .scr ns, .lst [] => some (.bl ns.isEmpty)
  | x, y => if shp 8 x && shp 8 y then some (.bl (deq x y)) else none
def oNe (x y : D) : Option D := if shp 8 x && shp 8 y then some (.bl (!deq x y)) else none
def oLt : D → D → Option D
  | .int i, .int j => some (.bl (decide (i < j)))
  | .str x, .str y => some (.bl (decide (x < y)))
  | _, _ => none
def oLe : D → D → Option D
  | .int i, .int j => some (.bl (decide (i ≤ j)))
  | _, _ => none
def oGt : D → D → Option D
  | .int i, .int j => some (.bl (decide (j < i)))
  | .str x, .str y => some (.bl (decide (y < x)))
  | _, _ => none
def oGe : D → D → Option D
  | .int i, .int j => some (.bl (decide (j ≤ i)))
  | _, _ => none
def isNon : D → Bool
  | .non => true
  | _ => false
def oIn (x y : D) : Option Bool := match x, y with
  | .str [c], .str z => some (decide (c ∈ z))
  | x, .lst ds => if flat x && ds.all flat then some (ds.any fun y => deq y x) else none
  | x, .tup ds => if flat x && ds.all flat then some (ds.any fun y => deq y x) else none
  | _, _ => none
def oInN (neg : Bool) (x y : D) : Option D := (oIn x y).map fun b => .bl (if neg then !b else b)
def oIs (x y : D) : Option D := match y with
  | .non => some (.bl (isNon x))
  | _ => none
def oIsNot (x y : D) : Option D := match y with
  | .non => some (.bl (!isNon x))
  | _ => none
def oAdd : D → D → Option D
  | .int i, .int j => some (.int (i + j))
  | .str x, .str y => if x.length + y.length ≤ LN then some (.str (x ++ y)) else none
  | .tup x, .tup y => if x.length + y.length ≤ LN then some (.tup (x ++ y)) else none
  | .lst x, .lst y => if x.length + y.length ≤ LN then some (.lst (x ++ y)) else none
  | _, _ => none
def oSub : D → D → Option D
  | .int i, .int j => some (.int (i - j))
  | _, _ => none
def oMul : D → D → Option D
  | .int i, .int j => if i.natAbs < 2 ^ 64 ∨ j.natAbs < 2 ^ 64 ∨ (i.natAbs < 2 ^ 500 ∧ j.natAbs < 2 ^ 500) then some (.int (i * j)) else none
  | .lst xs, .int k => if k.natAbs < 2 ^ 63 ∧ xs.length * k.toNat ≤ LN then some (.lst (List.replicate k.toNat xs).flatten) else none
  | .tup xs, .int k => if xs ≠ [] ∧ 2 ≤ k ∧ k.natAbs ≤ 1000 ∧ xs.length ≤ 1000 then some (.tup (List.replicate k.toNat xs).flatten) else none
  | _, _ => none
def oDiv : D → D → Option D
  | .int i, .int j => if 0 < j ∧ j.natAbs < 2 ^ 500 then some (.int (i / j)) else none
  | _, _ => none
def oMod : D → D → Option D
  | .int i, .int j => if 0 < j then some (.int (i % j)) else none
  | _, _ => none
def oPow : D → D → Option D
  | .int i, .int j => if 0 ≤ j ∧ j.natAbs ≤ 1000000 ∧ i.natAbs < 2 ^ 64 then some (.int (i ^ j.toNat)) else none
  | _, _ => none
def oIdx : D → D → Option D
  | .lst xs, .int i => atI xs i
  | .tup xs, .int i => atI xs i
  | .str x, .int i => (atI x i).map fun c => .str [c]
  | .scr ns, .int i => (atI ns i).map .int
  | _, _ => none
def kget (kvs : List (List Nat × D)) (k : List Nat) : Option D := (kvs.find? fun p => p.1 == k).map (·.2)
def kput (kvs : List (List Nat × D)) (k : List Nat) (d : D) : List (List Nat × D) :=
  if (kvs.any fun p => p.1 == k) = true then kvs.map (fun p => if p.1 = k then (p.1, d) else p) else kvs ++ [(k, d)]
def oCut (x : D) (lo hi : Option Int) : Option D := match x with
  | .lst xs => some (.lst (cut xs lo hi))
  | .tup xs => some (.tup (cut xs lo hi))
  | .str xs => some (.str (cut xs lo hi))
  | _ => none
def oLen : D → Option D
  | .lst xs => some (.int xs.length)
  | .tup xs => some (.int xs.length)
  | .str xs => some (.int xs.length)
  | .scr xs => some (.int xs.length)
  | _ => none
end Pu

namespace Pu
/-! ### expressions -/
def cVar (i : Nat) : M D := fun r m => match r[i]? with
  | some (some (.v d)) => .ok d r m
  | some (some (.own d)) => .ok d (r.set i (some (.v d))) m
  | _ => .bad
def cK (d : D) : M D := pu d
def c1 (f : D → Option D) (a : M D) : M D := bd a fun x => opt (f x)
def c2 (f : D → D → Option D) (a b : M D) : M D := bd a fun x => bd b fun y => opt (f x y)
def tB (a : M D) : M Bool := bd a fun x => match x with
  | .bl b => pu b
  | _ => fun _ _ => .bad
def cB (t : M Bool) : M D := bd t fun b => pu (.bl b)
def tAnd (t u : M Bool) : M Bool := bd t fun b => if b then u else pu false
def tOr (t u : M Bool) : M Bool := bd t fun b => if b then pu true else u
def tNot (t : M Bool) : M Bool := bd t fun b => pu (!b)
/-- and, or, not as values: of bools -/
def cAnd (a b : M D) : M D := bd (tB a) fun k => if k then b else pu (.bl false)
def cOr (a b : M D) : M D := bd (tB a) fun k => if k then pu (.bl true) else b
def cNot (a : M D) : M D := bd (tB a) fun k => pu (.bl (!k))
def cIf (t : M Bool) (a b : M D) : M D := bd t fun k => if k then a else b
def cChain (f g : D → D → Option D) (a b c : M D) : M D := bd a fun x => bd b fun y => bd (tB (opt (f x y))) fun k => if k then bd c fun z => opt (g y z) else pu (.bl false)
def aNil : M (List D) := pu []
def aCons (a : M D) (r : M (List D)) : M (List D) := bd a fun x => bd r fun xs => pu (x :: xs)
def cTup (a : M (List D)) : M D := bd a fun ds => opt (if ds.length ≤ LN then some (.tup ds) else none)
def cLst (a : M (List D)) : M D := bd a fun ds => opt (if ds.length ≤ LN then some (.lst ds) else none)
def cIdx (a b : M D) : M D := bd a fun x => bd b fun y => fun r m => match x with
  | .amb => opt (oIdx m y) r m
  | x => opt (oIdx x y) r m
/-- slot i holds a list of its own; a dict -/
def owned {A : Type} (i : Nat) (c : M A) : M A := fun r m => match r[i]? with
  | some (some (.own (.lst _))) => c r m
  | _ => .bad
def ownedK {A : Type} (i : Nat) (c : M A) : M A := fun r m => match r[i]? with
  | some (some (.own (.dic _))) => c r m
  | _ => .bad
/-- x[b], x the own list or tuple of slot i, not taken away -/
def cOIdx (i : Nat) (b : M D) : M D := owned i (bd b fun y => fun r m => match r[i]? with
  | some (some (.own d)) => opt (oIdx d y) r m
  | _ => .bad)
def cDget (a b : M D) : M D := bd a fun x => bd b fun y => fun r m => match (match x with | .amb => m | x => x), y with
  | .dic kvs, .str k => opt (kget kvs k) r m
  | _, _ => .bad
def part : Option (M D) → M (Option Int)
  | none => pu none
  | some c => bd c fun x => match x with
    | .int i => pu (some i)
    | _ => fun _ _ => .bad
def cCut (a : M D) (lo hi : Option (M D)) : M D := bd a fun x => bd (part lo) fun l => bd (part hi) fun h => opt (oCut x l h)
def ap (f : Fn) (ds : List D) : M D := fun r m => match f ds m with
  | .ok d m' => .ok d r m'
  | .exc c m' => .exc c m'
  | .bad => .bad
def cCall (f : Fn) (args : M (List D)) : M D := bd args fun ds => ap f ds
/-! ### targets -/
inductive Tg where
  | nm (i : Nat)
  | tp (a b : Tg)
def asg : Tg → D → Rho → Option Rho
  | .nm i, d, r => if i < r.length then some (r.set i (some (.v d))) else none
  | .tp a b, .tup [x, y], r => (asg a x r).bind (asg b y)
  | _, _, _ => none
def tgt (t : Tg) (d : D) : M Unit := fun r m => match asg t d r with
  | some r' => .ok () r' m
  | none => .bad
/-! ### what is walked -/
def iLst (a : M D) : M (List D) := bd a fun x => match x with
  | .lst ds => pu ds
  | _ => fun _ _ => .bad
def iTup (a : M D) : M (List D) := bd a fun x => match x with
  | .tup ds => pu ds
  | _ => fun _ _ => .bad
def sgn (s : List Nat) : List D := s.map fun c => .str [c]
def iStr (a : M D) : M (List D) := bd a fun x => match x with
  | .str s => pu (sgn s)
  | _ => fun _ _ => .bad
def rg (lo : Int) (n : Nat) : List D := (List.range n).map fun k => .int (lo + (k : Nat))
def iRng (a : M D) : M (List D) := bd a fun x => match x with
  | .int j => if j.natAbs ≤ 16777216 then pu (rg 0 j.toNat) else fun _ _ => .bad
  | _ => fun _ _ => .bad
def iRng2 (a b : M D) : M (List D) := bd a fun x => bd b fun y => match x, y with
  | .int i, .int j => if i.natAbs ≤ 1000000 ∧ j.natAbs ≤ 1000000 then pu (rg i (j - i).toNat) else fun _ _ => .bad
  | _, _ => fun _ _ => .bad
def enumFrom : Nat → List D → List D
  | _, [] => []
  | n, d :: ds => .tup [.int (n : Nat), d] :: enumFrom (n + 1) ds
def iEnum (a : M (List D)) : M (List D) := bd a fun ds => pu (enumFrom 0 ds)
/-- the items of the own list of slot i -/
def iOwn (i : Nat) : M (List D) := fun r m => match r[i]? with
  | some (some (.own (.lst ds))) => .ok ds r m
  | _ => .bad
/-! ### comprehensions -/
def wipe (r : Rho) : List Nat → Rho
  | [] => r
  | v :: vs => (wipe r vs).set v none
/-- the slots of vs as they stood in r0 -/
def back (r0 : Rho) (r : Rho) : List Nat → Rho
  | [] => r
  | v :: vs => (back r0 r vs).set v (r0[v]?.getD none)
def lcGo (vs : List Nat) (tg : Tg) (t : M Bool) (e : M D) : List D → List D → M (List D)
  | [], acc => pu acc
  | d :: ds, acc => fun r m => match tgt tg d (wipe r vs) m with
    | .ok _ r1 m1 => (match t r1 m1 with
      | .ok true r2 m2 => (match e r2 m2 with
        | .ok x r3 m3 => lcGo vs tg t e ds (acc ++ [x]) r3 m3
        | _ => .bad)
      | .ok false r2 m2 => lcGo vs tg t e ds acc r2 m2
      | _ => .bad)
    | _ => .bad
/-- [e for tg in it if t]; vs: the slots of its own names; h: slots that it may not look at -/
def cLc (vs : List Nat) (it : M (List D)) (tg : Tg) (t : M Bool) (e : M D) (h : List Nat := []) : M D := bd it fun ds => fun r m =>
  match lcGo (vs ++ h) tg t e ds [] r m with
  | .ok xs r' m' => .ok (.lst xs) (back r r' (vs ++ h)) m'
  | _ => .bad
def tYes : M Bool := pu true
def dcGo (vs : List Nat) (tg : Tg) (k e : M D) : List D → List (List Nat × D) → M (List (List Nat × D))
  | [], acc => pu acc
  | d :: ds, acc => fun r m => match tgt tg d (wipe r vs) m with
    | .ok _ r1 m1 => (match k r1 m1 with
      | .ok (.str s) r2 m2 => (match e r2 m2 with
        | .ok x r3 m3 => dcGo vs tg k e ds (kput acc s x) r3 m3
        | _ => .bad)
      | _ => .bad)
    | _ => .bad
/-- {k: e for tg in it} -/
def cDc (vs : List Nat) (it : M (List D)) (tg : Tg) (k e : M D) : M D := bd it fun ds => fun r m =>
  match dcGo vs tg k e ds [] r m with
  | .ok xs r' m' => .ok (.dic xs) (back r r' vs) m'
  | _ => .bad
/-! ### statements -/
inductive Fl where
  | nx
  | rt (d : D)
def sNop : M Fl := pu .nx
def sSeq (a b : M Fl) : M Fl := bd a fun f => match f with
  | .nx => b
  | .rt d => pu (.rt d)
def st (i : Nat) (s : Sl) : M Fl := fun r m => if i < r.length then .ok .nx (r.set i (some s)) m else .bad
def sSet (i : Nat) (c : M D) : M Fl := bd c fun d => st i (.v d)
/-- a new list or dict, from now on the slot's own -/
def sNew (i : Nat) (c : M D) : M Fl := bd c fun d => st i (.own d)
def sTgt (t : Tg) (c : M D) : M Fl := bd c fun d => bd (tgt t d) fun _ => pu .nx
def sl (o : Bool) (d : D) : Sl := if o then .own d else .v d
def sPar (i j : Nat) (oi oj : Bool) (a b : M D) : M Fl := bd a fun x => bd b fun y => bd (st i (sl oi x)) fun _ => st j (sl oj y)
def sPar3 (i j l : Nat) (a b c : M D) : M Fl := bd a fun x => bd b fun y => bd c fun z => fun r m => if i < r.length ∧ j < r.length ∧ l < r.length then .ok .nx (((r.set i (some (.v x))).set j (some (.v y))).set l (some (.v z))) m else .bad
def sIf (t : M Bool) (a b : M Fl) : M Fl := bd t fun k => if k then a else b
def sRet (c : M D) : M Fl := bd c fun d => pu (.rt d)
def sDo (c : M D) : M Fl := bd c fun _ => pu .nx
def sRaise (n : Nat) : M Fl := fun _ m => .exc n m
def forL (tg : Tg) (b : M Fl) : List D → M Fl
  | [] => pu .nx
  | d :: ds => bd (tgt tg d) fun _ => bd b fun f => match f with
    | .nx => forL tg b ds
    | .rt x => pu (.rt x)
def sFor (it : M (List D)) (tg : Tg) (b : M Fl) : M Fl := bd it fun ds => forL tg b ds
def sWhile (t : M Bool) (b : M Fl) : Nat → M Fl
  | 0 => fun _ _ => .bad
  | n + 1 => bd t fun k => if k then bd b (fun f => match f with
    | .nx => sWhile t b n
    | .rt x => pu (.rt x)) else pu .nx
/-- x.append(c), x the own list of slot i -/
def sApp (i : Nat) (c : M D) : M Fl := owned i (bd c fun d => fun r m => match r[i]? with
  | some (some (.own (.lst ds))) => if ds.length < LN then .ok .nx (r.set i (some (.own (.lst (ds ++ [d]))))) m else .bad
  | _ => .bad)
/-- x[k] = c of the own list of slot i -/
def sPut (i : Nat) (k c : M D) : M Fl := bd c fun d => owned i (bd k fun x => fun r m => match r[i]?, x with
  | some (some (.own (.lst ds))), .int j => (match ixN ds.length j with
    | some n => .ok .nx (r.set i (some (.own (.lst (ds.set n d))))) m
    | none => .bad)
  | _, _ => .bad)
/-- x[k] = c of the own dict of slot i -/
def sDput (i : Nat) (k c : M D) : M Fl := bd c fun d => ownedK i (bd k fun x => fun r m => match r[i]?, x with
  | some (some (.own (.dic kvs))), .str s => if kvs.length < LN then .ok .nx (r.set i (some (.own (.dic (kput kvs s d))))) m else .bad
  | _, _ => .bad)
/-- x[k] += c of the own dict of slot i -/
def sDaug (i : Nat) (k c : M D) : M Fl := ownedK i (bd k fun x => fun r m => match r[i]?, x with
  | some (some (.own (.dic kvs))), .str s => (match kget kvs s with
    | some (.int a) => bd c (fun d => fun r m => match r[i]?, d with
      | some (some (.own (.dic kvs))), .int b => if kvs.length < LN then .ok .nx (r.set i (some (.own (.dic (kput kvs s (.int (a + b))))))) m else .bad
      | _, _ => .bad) r m
    | _ => .bad)
  | _, _ => .bad)
/-- x.get(k, c) of the own dict of slot i -/
def cOget (i : Nat) (k c : M D) : M D := ownedK i (bd k fun x => bd c fun d => fun r m => match r[i]?, x with
  | some (some (.own (.dic kvs))), .str s => .ok ((kget kvs s).getD d) r m
  | _, _ => .bad)
/-- x[k] = c of the list that is handed around, named by slot i -/
def sAput (i : Nat) (k c : M D) : M Fl := bd c fun d => bd (cVar i) fun y => bd k fun x => fun r m => match y, m, x with
  | .amb, .lst ds, .int j => (match ixN ds.length j with
    | some n => .ok .nx r (.lst (ds.set n d))
    | none => .bad)
  | _, _, _ => .bad
/-- name -= c, intsD -/
def sSubAug (i : Nat) (c : M D) : M Fl := fun r m => match r[i]? with
  | some (some (.v (.int a))) => bd c (fun d => match d with
    | .int b => st i (.v (.int (a - b)))
    | _ => fun _ _ => .bad) r m
  | _ => .bad
/-! ### defs -/
def start (n : Nat) (ds : List D) : Rho := ds.map (fun d => some (.v d)) ++ List.replicate (n - ds.length) none
/-- a def of k parameters and n slots -/
def fn (k n : Nat) (body : M Fl) : Fn := fun ds m => if ds.length = k then (match body (start n ds) m with
  | .ok .nx _ m' => .ok .non m'
  | .ok (.rt d) _ m' => .ok d m'
  | .exc c m' => .exc c m'
  | .bad => .bad) else .bad
end Pu

namespace Su
open PySem PySem.Spec PyProof.Rows L2
open Pu (D Sl Rho Rs M Ro Fn Fl Tg LN)
theorem ln_eq : sizeLine = LN := by rw [sizeLine_eq]; rfl
def mkS (s : List Nat) : Str := ⟨s.toArray⟩
/-- a text's own bounds -/
structure TxOk (s : List Nat) : Prop where
  len : s.length ≤ LN
  cps : ∀ c ∈ s, c < 1114112
mutual
/-- v denotes d: K the written part, al the address of what is handed around, G the part of the heap that stands still -/
inductive Dn (K : PySem.W.Frag) (al : Option Addr) (G : Hp) : V → D → Prop
  | non : Dn K al G .non .non
  | bl (b : Bool) : Dn K al G (.bl b) (.bl b)
  | int (i : Int) : Dn K al G (.int i) (.int i)
  | str (s : List Nat) : TxOk s → Dn K al G (.str (mkS s)) (.str s)
  | tup {a : Addr} {xs : List V} {ds : List D} : G a = some (.tup xs) → ds.length ≤ LN → DnL K al G xs ds → Dn K al G (.ref a) (.tup ds)
  | lst {a : Addr} {xs : List V} {ds : List D} : G a = some (.lst xs) → ds.length ≤ LN → DnL K al G xs ds → Dn K al G (.ref a) (.lst ds)
  | dic {a : Addr} {xs : List (Key × V)} {ds : List (List Nat × D)} : G a = some (.dK xs) → DnK K al G xs ds → Dn K al G (.ref a) (.dic ds)
  | scr {a : Addr} {ns : List Int} : SqL K G a (ns.map V.int) → ns.length ≤ LN → Dn K al G (.ref a) (.scr ns)
  | amb {a : Addr} : al = some a → Dn K al G (.ref a) .amb
  | ob (a : Addr) : Dn K al G (.ref a) (.ob a)
inductive DnL (K : PySem.W.Frag) (al : Option Addr) (G : Hp) : List V → List D → Prop
  | nil : DnL K al G [] []
  | cons {v : V} {vs : List V} {d : D} {ds : List D} : Dn K al G v d → DnL K al G vs ds → DnL K al G (v :: vs) (d :: ds)
inductive DnK (K : PySem.W.Frag) (al : Option Addr) (G : Hp) : List (Key × V) → List (List Nat × D) → Prop
  | nil : DnK K al G [] []
  | cons {k : List Nat} {v : V} {vs : List (Key × V)} {d : D} {ds : List (List Nat × D)} : TxOk k → Dn K al G v d → DnK K al G vs ds → DnK K al G ((Sum.inr (mkS k), v) :: vs) ((k, d) :: ds)
end
section
variable {K : PySem.W.Frag} {al : Option Addr} {G G' : Hp}
mutual
theorem Dn.mono (s : Same G G') : ∀ {v : V} {d : D}, Dn K al G v d → Dn K al G' v d
  | _, _, .non => .non
  | _, _, .bl b => .bl b
  | _, _, .int i => .int i
  | _, _, .str x h => .str x h
  | _, _, .tup h l r => .tup (s _ _ h) l (DnL.mono s r)
  | _, _, .lst h l r => .lst (s _ _ h) l (DnL.mono s r)
  | _, _, .dic h r => .dic (s _ _ h) (DnK.mono s r)
  | _, _, .scr h l => .scr (s.seq h) l
  | _, _, .amb h => .amb h
  | _, _, .ob a => .ob a
theorem DnL.mono (s : Same G G') : ∀ {v : List V} {d : List D}, DnL K al G v d → DnL K al G' v d
  | _, _, .nil => .nil
  | _, _, .cons h r => .cons (Dn.mono s h) (DnL.mono s r)
theorem DnK.mono (s : Same G G') : ∀ {v : List (Key × V)} {d : List (List Nat × D)}, DnK K al G v d → DnK K al G' v d
  | _, _, .nil => .nil
  | _, _, .cons k h r => .cons k (Dn.mono s h) (DnK.mono s r)
end
theorem DnL.length : ∀ {vs : List V} {ds : List D}, DnL K al G vs ds → vs.length = ds.length
  | _, _, .nil => rfl
  | _, _, .cons _ r => by rw [List.length_cons, List.length_cons, DnL.length r]
theorem DnL.get : ∀ {vs : List V} {ds : List D} {i : Nat} {d : D}, DnL K al G vs ds → ds[i]? = some d → ∃ v, vs[i]? = some v ∧ Dn K al G v d
  | _, _, _, _, .nil, e => by simp at e
  | _, _, 0, _, .cons h _, e => by simp at e; subst e; exact ⟨_, rfl, h⟩
  | _, _, i + 1, _, .cons _ r, e => by
    obtain ⟨v, h1, h2⟩ := DnL.get (i := i) r (by simpa using e)
    exact ⟨v, by simpa using h1, h2⟩
theorem DnL.getV : ∀ {vs : List V} {ds : List D} {i : Nat} {v : V}, DnL K al G vs ds → vs[i]? = some v → ∃ d, ds[i]? = some d ∧ Dn K al G v d
  | _, _, _, _, .nil, e => by simp at e
  | _, _, 0, _, .cons h _, e => by simp at e; subst e; exact ⟨_, rfl, h⟩
  | _, _, i + 1, _, .cons _ r, e => by
    obtain ⟨v, h1, h2⟩ := DnL.getV (i := i) r (by simpa using e)
    exact ⟨v, by simpa using h1, h2⟩
theorem DnL.append : ∀ {vs ws : List V} {ds es : List D}, DnL K al G vs ds → DnL K al G ws es → DnL K al G (vs ++ ws) (ds ++ es)
  | _, _, _, _, .nil, q => q
  | _, _, _, _, .cons h r, q => .cons h (DnL.append r q)
theorem DnL.set {v : V} {d : D} (h : Dn K al G v d) : ∀ {vs : List V} {ds : List D} (i : Nat), DnL K al G vs ds → DnL K al G (vs.set i v) (ds.set i d)
  | _, _, _, .nil => .nil
  | _, _, 0, .cons _ r => .cons h r
  | _, _, i + 1, .cons q r => .cons q (DnL.set h i r)
theorem DnL.take : ∀ {vs : List V} {ds : List D} (n : Nat), DnL K al G vs ds → DnL K al G (vs.take n) (ds.take n)
  | _, _, 0, _ => .nil
  | _, _, _ + 1, .nil => .nil
  | _, _, n + 1, .cons h r => .cons h (DnL.take n r)
theorem DnL.drop : ∀ {vs : List V} {ds : List D} (n : Nat), DnL K al G vs ds → DnL K al G (vs.drop n) (ds.drop n)
  | _, _, 0, r => r
  | _, _, _ + 1, .nil => .nil
  | _, _, n + 1, .cons _ r => DnL.drop n r
end

/-- at p stands a changing list or dict that denotes d; nothing of G leans on it -/
def Ob (K : PySem.W.Frag) (al : Option Addr) (G H : Hp) (p : Addr) (d : D) : Prop := G p = none ∧ match d with
  | .lst ds => ∃ xs, H p = some (.lst xs) ∧ ds.length ≤ LN ∧ DnL K al G xs ds
  | .dic ds => ∃ xs, H p = some (.dK xs) ∧ DnK K al G xs ds
  | _ => False
def Ow (r : Rho) (s : L2.St) (a : Addr) : Prop := ∃ (i : Nat) (d : D), r[i]? = some (some (Sl.own d)) ∧ s[i]? = some (some (V.ref a))
def noOw : Addr → Prop := fun _ => False
def AmbOk (K : PySem.W.Frag) (al : Option Addr) (G H : Hp) (m : D) : Prop := ∀ a, al = some a → Ob K al G H a m
/-- the tables of code objects that the context may write -/
abbrev Tb := List (Addr × Str)
structure Rel (K : PySem.W.Frag) (T : Tb) (al : Option Addr) (G H : Hp) (r : Rho) (m : D) (s : L2.St) : Prop where
  same : Same G H
  len : r.length = s.length
  vals : ∀ (i : Nat) (d : D), r[i]? = some (some (Sl.v d)) → ∃ v, s[i]? = some (some v) ∧ Dn K al G v d
  owns : ∀ (i : Nat) (d : D), r[i]? = some (some (Sl.own d)) → ∃ p, s[i]? = some (some (V.ref p)) ∧ Ob K al G H p d
  dis : ∀ (i j : Nat) (d e : D) (p : Addr), r[i]? = some (some (Sl.own d)) → r[j]? = some (some (Sl.own e)) → s[i]? = some (some (V.ref p)) → s[j]? = some (some (V.ref p)) → i = j
  amb : AmbOk K al G H m
  nal : ∀ a, al = some a → ¬ Ow r s a
  tabs : LamX.Tabs T H
  tfree : ∀ p ∈ T, G p.1 = none
/-- what happened: G grew; what is foreign stands as it stood -/
structure Step (T : Tb) (al : Option Addr) (O : Addr → Prop) (G H : Hp) (O' : Addr → Prop) (G' H' : Hp) : Prop where
  mono : Same G G'
  keep : ∀ a o, H a = some o → ¬ O a → al ≠ some a → (∀ p ∈ T, p.1 ≠ a) → H' a = some o ∧ G' a = G a
  own : ∀ a, O' a → O a ∨ H a = none
  dom : ∀ a, H a ≠ none → H' a ≠ none
section
variable {K : PySem.W.Frag} {T : Tb} {al : Option Addr} {G H G1 H1 G2 H2 : Hp} {O O1 O2 : Addr → Prop} {r : Rho} {m : D} {s : L2.St}
theorem Step.refl : Step T al O G H O G H := ⟨Same.refl G, fun _ _ e _ _ _ => ⟨e, rfl⟩, fun _ h => .inl h, fun _ h => h⟩
theorem Step.trans (a : Step T al O G H O1 G1 H1) (b : Step T al O1 G1 H1 O2 G2 H2) : Step T al O G H O2 G2 H2 where
  mono := a.mono.trans b.mono
  keep := fun x o e n n1 n2 => by
    obtain ⟨h1, h2⟩ := a.keep x o e n n1 n2
    have n' : ¬ O1 x := fun z => by
      rcases a.own x z with q | q
      · exact n q
      · rw [e] at q; cases q
    obtain ⟨h3, h4⟩ := b.keep x o h1 n' n1 n2
    exact ⟨h3, h4.trans h2⟩
  own := fun x z => by
    rcases b.own x z with q | q
    · exact a.own x q
    · by_cases e : H x = none
      · exact .inr e
      · exact absurd q (a.dom x e)
  dom := fun x e => b.dom x (a.dom x e)
/-- fewer are owned at the end -/
theorem Step.sub {O' : Addr → Prop} (a : Step T al O G H O1 G1 H1) (h : ∀ x, O' x → O1 x) : Step T al O G H O' G1 H1 := ⟨a.mono, a.keep, fun x z => a.own x (h x z), a.dom⟩
theorem Rel.olds (R : Rel K T al G H r m s) {a : Addr} (h : Ow r s a) : H a ≠ none := by
  obtain ⟨i, d, h1, h2⟩ := h
  obtain ⟨p, e, _, q⟩ := R.owns i d h1
  rw [h2] at e
  cases e
  intro z
  cases d with
  | lst ds => obtain ⟨xs, q, _⟩ := q; rw [z] at q; cases q
  | dic ds => obtain ⟨xs, q, _⟩ := q; rw [z] at q; cases q
  | _ => exact q.elim
theorem Rel.ofree (R : Rel K T al G H r m s) {a : Addr} (h : Ow r s a) : G a = none := by
  obtain ⟨i, d, h1, h2⟩ := h
  obtain ⟨p, e, q, _⟩ := R.owns i d h1
  rw [h2] at e
  cases e
  exact q
end

section
variable {K : PySem.W.Frag} {T : Tb} {al : Option Addr} {G H G' H' : Hp} {O O' : Addr → Prop} {r : Rho} {m m' : D} {s : L2.St}
theorem Ob.move {p : Addr} {d : D} (h : Ob K al G H p d) (sm : Same G G') (hg : G' p = none) (hh : ∀ o, H p = some o → H' p = some o) : Ob K al G' H' p d := by
  refine ⟨hg, ?_⟩
  obtain ⟨_, h⟩ := h
  cases d with
  | lst ds => obtain ⟨xs, q, l, e⟩ := h; exact ⟨xs, hh _ q, l, e.mono sm⟩
  | dic ds => obtain ⟨xs, q, e⟩ := h; exact ⟨xs, hh _ q, e.mono sm⟩
  | _ => exact h.elim
theorem Ob.some_ {p : Addr} {d : D} (h : Ob K al G H p d) : ∃ o, H p = some o ∧ ((∃ xs, o = .lst xs) ∨ ∃ xs, o = .dK xs) := by
  obtain ⟨_, h⟩ := h
  cases d with
  | lst ds => obtain ⟨xs, q, _⟩ := h; exact ⟨_, q, .inl ⟨_, rfl⟩⟩
  | dic ds => obtain ⟨xs, q, _⟩ := h; exact ⟨_, q, .inr ⟨_, rfl⟩⟩
  | _ => exact h.elim
/-- the same slots over another heap -/
theorem Rel.move (R : Rel K T al G H r m s) (s1 : Same G G') (s2 : Same G' H') (ho : ∀ a o, Ow r s a → H a = some o → H' a = some o) (hg : ∀ a, Ow r s a → G' a = none) (am : AmbOk K al G' H' m') (tb : LamX.Tabs T H') (tf : ∀ p ∈ T, G' p.1 = none) :
    Rel K T al G' H' r m' s where
  same := s2
  len := R.len
  vals := fun i d e => by
    obtain ⟨v, h1, h2⟩ := R.vals i d e
    exact ⟨v, h1, h2.mono s1⟩
  owns := fun i d e => by
    obtain ⟨p, h1, h2⟩ := R.owns i d e
    exact ⟨p, h1, h2.move s1 (hg p ⟨i, d, e, h1⟩) fun o => ho p o ⟨i, d, e, h1⟩⟩
  dis := R.dis
  amb := am
  nal := R.nal
  tabs := tb
  tfree := tf
/-- tables are neither lists nor dicts -/
theorem tabs_keep {T : Tb} (t : LamX.Tabs T H) (h : ∀ a o, H a = some o → (∀ xs, o ≠ .lst xs) → (∀ xs, o ≠ .dK xs) → H' a = some o) : LamX.Tabs T H' := fun p hp => by
  obtain ⟨ps, h1, h2, h3⟩ := t p hp
  refine ⟨ps, h _ _ h1 (fun _ z => nomatch z) (fun _ z => nomatch z), h2, fun pos cv hc => ?_⟩
  obtain ⟨c, e1, e2⟩ := h3 pos cv hc
  exact ⟨c, e1, h _ _ e2 (fun _ z => by unfold LamX.CodeO at z; cases z) (fun _ z => by unfold LamX.CodeO at z; cases z)⟩
/-- behind a call: al's object may have turned, all else stands -/
theorem Rel.call (R : Rel K T al G H r m s) (S : Step [] al noOw G H noOw G' H') (s2 : Same G' H') (am : AmbOk K al G' H' m') : Rel K T al G' H' r m' s := by
  have kp : ∀ a o, H a = some o → al ≠ some a → H' a = some o ∧ G' a = G a := fun a o e n => S.keep a o e (fun z => z) n (fun _ z => nomatch z)
  refine R.move S.mono s2 (fun a o w e => (kp a o e fun z => R.nal a z w).1) (fun a w => ?_) am (tabs_keep R.tabs fun a o e n1 n2 => (kp a o e fun z => ?_).1) fun p hp => ?_
  · cases e : H a with
    | none => exact absurd e (R.olds w)
    | some o => rw [(kp a o e fun z => R.nal a z w).2]; exact R.ofree w
  · obtain ⟨o', q, w⟩ := (R.amb a z).some_
    rw [e] at q
    cases q
    rcases w with ⟨xs, w⟩ | ⟨xs, w⟩
    · exact n1 xs w
    · exact n2 xs w
  · obtain ⟨ps, h1, _⟩ := R.tabs p hp
    rw [(kp p.1 _ h1 fun z => ?_).2]
    · exact R.tfree p hp
    · obtain ⟨o', q, w⟩ := (R.amb _ z).some_
      rw [h1] at q
      cases q
      rcases w with ⟨xs, w⟩ | ⟨xs, w⟩ <;> cases w
theorem Step.call (R : Rel K T al G H r m s) (S : Step [] al noOw G H noOw G' H') : Step T al (Ow r s) G H (Ow r s) G' H' :=
  ⟨S.mono, fun a o e _ n _ => S.keep a o e (fun z => z) n (fun _ z => nomatch z), fun _ z => .inl z, S.dom⟩
theorem same_upd {p : Addr} {o : HO} (h : G p = none) : Same G (upd G p o) := fun b u e => by rw [upd_ne (ne_of_none e h)]; exact e
theorem same_upd2 {p : Addr} {o : HO} (h : Same G H) : Same (upd G p o) (upd H p o) := fun b u e => by
  by_cases q : b = p
  · subst q; rw [upd_same] at e ⊢; exact e
  · rw [upd_ne q] at e ⊢; exact h b u e
theorem same_updR {p : Addr} {o : HO} (h : Same G H) (n : G p = none) : Same G (upd H p o) := fun b u e => by
  rw [upd_ne (ne_of_none e n)]; exact h b u e
/-- a new object that stands still from now on -/
theorem step_new {p : Addr} {o : HO} (sm : Same G H) (n : H p = none) : Step T al O G H O (upd G p o) (upd H p o) :=
  ⟨same_upd (sm.free n), fun a u e _ _ _ => by rw [upd_ne (ne_of_none e n), upd_ne (ne_of_none e n)]; exact ⟨e, rfl⟩, fun _ z => .inl z, fun a e => by
    by_cases q : a = p
    · subst q; rw [upd_same]; exact fun z => nomatch z
    · rw [upd_ne q]; exact e⟩
/-- a new object that may change -/
theorem step_newO {p : Addr} {o : HO} (n : H p = none) : Step T al O G H O G (upd H p o) :=
  ⟨Same.refl G, fun a u e _ _ _ => by rw [upd_ne (ne_of_none e n)]; exact ⟨e, rfl⟩, fun _ z => .inl z, fun a e => by
    by_cases q : a = p
    · subst q; rw [upd_same]; exact fun z => nomatch z
    · rw [upd_ne q]; exact e⟩
theorem AmbOk.fresh (R : AmbOk K al G H m) {p : Addr} {o : HO} (n : H p = none) (s1 : Same G G') (hg : ∀ b, b ≠ p → G' b = G b) : AmbOk K al G' (upd H p o) m := fun a z => by
  have q := R a z
  obtain ⟨u, hu, _⟩ := q.some_
  have ne : a ≠ p := ne_of_none hu n
  exact q.move s1 (by rw [hg a ne]; exact q.1) fun o e => by rw [upd_ne ne]; exact e
theorem Rel.fresh (R : Rel K T al G H r m s) {p : Addr} {o : HO} (n : H p = none) (s1 : Same G G') (s2 : Same G' (upd H p o)) (hg : ∀ b, b ≠ p → G' b = G b) : Rel K T al G' (upd H p o) r m s := by
  refine R.move s1 s2 (fun a u w e => by rw [upd_ne (ne_of_none e n)]; exact e) (fun a w => ?_) (R.amb.fresh n s1 hg) (R.tabs.ext fun b u e => by rw [upd_ne (ne_of_none e n)]; exact e) fun q hq => ?_
  · cases e : H a with
    | none => exact absurd e (R.olds w)
    | some u => rw [hg a (ne_of_none e n)]; exact R.ofree w
  · obtain ⟨ps, h1, _⟩ := R.tabs q hq
    rw [hg q.1 (ne_of_none h1 n)]
    exact R.tfree q hq
theorem Rel.new (R : Rel K T al G H r m s) {p : Addr} {o : HO} (n : H p = none) : Rel K T al (upd G p o) (upd H p o) r m s :=
  R.fresh n (same_upd (R.same.free n)) (same_upd2 R.same) fun b e => upd_ne e
theorem Rel.newO (R : Rel K T al G H r m s) {p : Addr} {o : HO} (n : H p = none) : Rel K T al G (upd H p o) r m s :=
  R.fresh n (Same.refl G) (same_updR R.same (R.same.free n)) fun b e => rfl
end
end Su

namespace Su
open PySem PySem.Spec PyProof.Rows L2
open Pu (D Sl Rho Rs M Ro Fn Fl Tg LN)
/-- the program's own errors by number -/
def exn : Nat → Str
  | 0 => "InvalidVotes" | 1 => "InvalidCandidate" | 2 => "InvalidBallot" | 3 => "InvalidTimes" | 4 => "InvalidNames" | 5 => "InvalidCandidates"
  | 6 => "InvalidNumber" | 7 => "InvalidText" | 8 => "TooMany" | 9 => "Unlike" | 10 => "NotThere" | _ => "NothingToUndo"
def cad (K : PySem.W.Frag) (c : Nat) : Addr := He.ga K (exn c)
section
variable {B C B2 C2 : Type}
/-- what is wanted behind an expression -/
def Po (K : PySem.W.Frag) (T : Tb) (al : Option Addr) (Vl : Option Addr → Hp → B → C → Prop) (r : Rho) (s : L2.St) (G H : Hp) (E : XK) (Q : C → Hp → Prop) : Rs B → Prop
  | .ok b r' m' => ∀ x G' H', Step T al (Ow r s) G H (Ow r' s) G' H' → Rel K T al G' H' r' m' s → Vl al G' b x → Q x H'
  | .exc c m' => ∀ G' H', Step T al (Ow r s) G H noOw G' H' → Same G' H' → AmbOk K al G' H' m' → E (.ref (cad K c)) none H'
  | .bad => False
/-- .. behind a statement -/
def PoS (K : PySem.W.Frag) (T : Tb) (al : Option Addr) (r : Rho) (s : L2.St) (G H : Hp) (E : XK) (Z : Ends) : Rs Fl → Prop
  | .ok .nx r' m' => ∀ s' G' H', Step T al (Ow r s) G H (Ow r' s') G' H' → Rel K T al G' H' r' m' s' → Z.nx s' H'
  | .ok (.rt d) _ m' => ∀ v G' H', Step T al (Ow r s) G H noOw G' H' → Same G' H' → AmbOk K al G' H' m' → Dn K al G' v d → Z.rt v H'
  | .exc c m' => ∀ G' H', Step T al (Ow r s) G H noOw G' H' → Same G' H' → AmbOk K al G' H' m' → E (.ref (cad K c)) none H'
  | .bad => False
variable {K : PySem.W.Frag} {T : Tb} {al : Option Addr} {E : XK} {Vl : Option Addr → Hp → B → C → Prop} {Vl2 : Option Addr → Hp → B2 → C2 → Prop} {r r1 : Rho} {m : D} {s s1 : L2.St} {G H G1 H1 : Hp}
theorem Po.from_ {Q : C → Hp → Prop} {res : Rs B} (S : Step T al (Ow r s) G H (Ow r1 s) G1 H1) (h : Po K T al Vl r s G H E Q res) : Po K T al Vl r1 s G1 H1 E Q res := by
  cases res with
  | ok b r' m' => exact fun x G' H' S' R' v => h x G' H' (S.trans S') R' v
  | exc c m' => exact fun G' H' S' q a => h G' H' (S.trans S') q a
  | bad => exact h
theorem PoS.from_ {Z : Ends} {res : Rs Fl} (S : Step T al (Ow r s) G H (Ow r1 s1) G1 H1) (h : PoS K T al r s G H E Z res) : PoS K T al r1 s1 G1 H1 E Z res := by
  cases res with
  | ok b r' m' =>
    cases b with
    | nx => exact fun s' G' H' S' R' => h s' G' H' (S.trans S') R'
    | rt d => exact fun v G' H' S' q a w => h v G' H' (S.trans S') q a w
  | exc c m' => exact fun G' H' S' q a => h G' H' (S.trans S') q a
  | bad => exact h
/-- a reading computes c -/
def Sd (K : PySem.W.Frag) (T : Tb) (E : XK) (t : L2.St → Hp → (C → Hp → Prop) → Prop) (Vl : Option Addr → Hp → B → C → Prop) (c : M B) : Prop :=
  ∀ (al : Option Addr) (r : Rho) (m : D) (s : L2.St) (G H : Hp) (Q : C → Hp → Prop), Rel K T al G H r m s → Po K T al Vl r s G H E Q (c r m) → t s H Q
def SdS (K : PySem.W.Frag) (T : Tb) (E : XK) (t : TS) (c : M Fl) : Prop :=
  ∀ (al : Option Addr) (r : Rho) (m : D) (s : L2.St) (G H : Hp) (Z : Ends), Rel K T al G H r m s → PoS K T al r s G H E Z (c r m) → t Z s H
theorem Sd.thn {t : L2.St → Hp → (C → Hp → Prop) → Prop} {c : M B} {f : B → M B2} (h : Sd K T E t Vl c) (R : Rel K T al G H r m s) {Q : C → Hp → Prop} {Q2 : C2 → Hp → Prop} (hP : Po K T al Vl2 r s G H E Q2 (Pu.bd c f r m))
    (k : ∀ b r1 m1 x G1 H1, Step T al (Ow r s) G H (Ow r1 s) G1 H1 → Rel K T al G1 H1 r1 m1 s → Vl al G1 b x → Po K T al Vl2 r1 s G1 H1 E Q2 (f b r1 m1) → Q x H1) : t s H Q := by
  refine h al r m s G H Q R ?_
  unfold Pu.bd at hP
  cases e : c r m with
  | ok b r1 m1 =>
    rw [e] at hP
    exact fun x G' H' S' R' v => k b r1 m1 x G' H' S' R' v (Po.from_ S' hP)
  | exc c m' => rw [e] at hP; exact hP
  | bad => rw [e] at hP; exact hP
theorem Sd.thnS {t : L2.St → Hp → (C → Hp → Prop) → Prop} {c : M B} {f : B → M Fl} (h : Sd K T E t Vl c) (R : Rel K T al G H r m s) {Q : C → Hp → Prop} {Z : Ends} (hP : PoS K T al r s G H E Z (Pu.bd c f r m))
    (k : ∀ b r1 m1 x G1 H1, Step T al (Ow r s) G H (Ow r1 s) G1 H1 → Rel K T al G1 H1 r1 m1 s → Vl al G1 b x → PoS K T al r1 s G1 H1 E Z (f b r1 m1) → Q x H1) : t s H Q := by
  refine h al r m s G H Q R ?_
  unfold Pu.bd at hP
  cases e : c r m with
  | ok b r1 m1 =>
    rw [e] at hP
    exact fun x G' H' S' R' v => k b r1 m1 x G' H' S' R' v (PoS.from_ S' hP)
  | exc c m' => rw [e] at hP; exact hP
  | bad => rw [e] at hP; exact hP
theorem Po.ok_ {Q : C → Hp → Prop} {b : B} {x : C} (R : Rel K T al G H r m s) (hP : Po K T al Vl r s G H E Q (.ok b r m)) (v : Vl al G b x) : Q x H := hP x G H Step.refl R v
theorem Po.opt_ {Q : C → Hp → Prop} {o : Option B} (hP : Po K T al Vl r s G H E Q (Pu.opt o r m)) : ∃ b, o = some b ∧ Po K T al Vl r s G H E Q (.ok b r m) := by
  cases o with
  | none => exact hP.elim
  | some b => exact ⟨b, rfl, hP⟩
end
/-- relations of results -/
abbrev vD (K : PySem.W.Frag) : Option Addr → Hp → D → V → Prop := fun al G d v => Dn K al G v d
abbrev vL (K : PySem.W.Frag) : Option Addr → Hp → List D → List V → Prop := fun al G d v => DnL K al G v d
abbrev vB : Option Addr → Hp → Bool → Bool → Prop := fun _ _ b x => b = x
abbrev vO : Option Addr → Hp → Option Int → Option Int → Prop := fun _ _ b x => b = x
/-! ### the judgements -/
def SE (X : Cx) (T : Tb) (E : XK) (e : Expr) (c : M D) : Prop := ∃ t, PE X e t ∧ Sd X.K T E t (vD X.K) c
def ST (X : Cx) (T : Tb) (E : XK) (e : Expr) (c : M Bool) : Prop := ∃ t, PT X e t ∧ Sd X.K T E t vB c
def SW (X : Cx) (T : Tb) (E : XK) (e : Expr) (c : M Bool) : Prop := ∃ t, PW X e t ∧ Sd X.K T E t vB c
def SA (X : Cx) (T : Tb) (E : XK) (es : List Expr) (c : M (List D)) : Prop := ∃ t, PA X es t ∧ Sd X.K T E t (vL X.K) c
def SP_ (X : Cx) (T : Tb) (E : XK) (e : Option Expr) (c : M (Option Int)) : Prop := ∃ t, PO X e t ∧ Sd X.K T E t vO c
def SS (X : Cx) (T : Tb) (E : XK) (st : Stmt) (c : M Fl) : Prop := ∃ t, PS X st t ∧ SdS X.K T E t c
def SB (X : Cx) (T : Tb) (E : XK) (sts : List Stmt) (c : M Fl) : Prop := ∃ t, PSs X sts t ∧ SdS X.K T E t c
/-- what a context offers: k, the room for calls -/
structure Cn (k : Nat) (X : Cx) (E : XK) : Prop where
  calm : X.calm = true
  nd : X.N.Nodup
  pass : Passes (L2N.CX X.prog X.w) X E
  own : PassesOwn (model X.prog X.w) X.A X.env X.xe
  takes : L2N.Takes X (fun cls d _ H => E cls d H)
  room : Room k X.A
section
variable {X : Cx} {T : Tb} {E : XK} {e a b c : Expr} {pos : Pos} {ca cb cc : M D} {ta tb : M Bool}
theorem Rel.slot {K : PySem.W.Frag} {al : Option Addr} {G H : Hp} {r : Rho} {m : D} {s : L2.St} (R : Rel K T al G H r m s) {i : Nat} (h : i < r.length) : i < s.length := by rw [← R.len]; exact h
/-- the own object of slot i stands still from now on -/
theorem Rel.freeze {K : PySem.W.Frag} {al : Option Addr} {G H : Hp} {r : Rho} {m : D} {s : L2.St} {i : Nat} {d : D} (R : Rel K T al G H r m s) (h : r[i]? = some (some (.own d))) :
    ∃ p o, s[i]? = some (some (.ref p)) ∧ H p = some o ∧ Rel K T al (upd G p o) H (r.set i (some (.v d))) m s ∧ Step T al (Ow r s) G H (Ow (r.set i (some (.v d))) s) (upd G p o) H ∧ Dn K al (upd G p o) (.ref p) d := by
  obtain ⟨p, hp, ob⟩ := R.owns i d h
  obtain ⟨o, ho, _⟩ := ob.some_
  have gp : G p = none := ob.1
  have s1 : Same G (upd G p o) := same_upd gp
  have hi : i < r.length := by
    by_cases q : i < r.length
    · exact q
    · rw [List.getElem?_eq_none (by omega)] at h; cases h
  have dn : Dn K al (upd G p o) (.ref p) d := by
    obtain ⟨_, ob⟩ := ob
    cases d with
    | lst ds =>
      obtain ⟨xs, q, l, e⟩ := ob
      rw [ho] at q; cases q
      exact .lst upd_same l (e.mono s1)
    | dic ds =>
      obtain ⟨xs, q, e⟩ := ob
      rw [ho] at q; cases q
      exact .dic upd_same (e.mono s1)
    | _ => exact ob.elim
  have sub : ∀ a, Ow (r.set i (some (.v d))) s a → Ow r s a ∧ a ≠ p := fun a ⟨j, e, h1, h2⟩ => by
    by_cases hj : i = j
    · subst hj; rw [List.getElem?_set_self hi] at h1; cases h1
    · rw [List.getElem?_set_ne hj] at h1
      refine ⟨⟨j, e, h1, h2⟩, fun z => hj ?_⟩
      subst z
      exact R.dis i j d e a h h1 hp h2
  have s2 : Same (upd G p o) H := fun b u e => by
    by_cases q : b = p
    · subst q; rw [upd_same] at e; cases e; exact ho
    · rw [upd_ne q] at e; exact R.same b u e
  have na : al ≠ some p := fun z => R.nal p z ⟨i, d, h, hp⟩
  refine ⟨p, o, hp, ho, ⟨s2, by rw [List.length_set]; exact R.len, fun j e q => ?_, fun j e q => ?_, fun j k e f x q1 q2 => ?_, fun a z => ?_, fun a z w => R.nal a z (sub a w).1, R.tabs, fun q hq => ?_⟩, ⟨s1, fun a u e n _ _ => ⟨e, ?_⟩, fun a z => .inl (sub a z).1, fun _ z => z⟩, dn⟩
  · by_cases hj : i = j
    · subst hj
      rw [List.getElem?_set_self hi] at q
      cases q
      exact ⟨_, hp, dn⟩
    · rw [List.getElem?_set_ne hj] at q
      obtain ⟨v, h1, h2⟩ := R.vals j e q
      exact ⟨v, h1, h2.mono s1⟩
  · by_cases hj : i = j
    · subst hj
      rw [List.getElem?_set_self hi] at q
      cases q
    · rw [List.getElem?_set_ne hj] at q
      obtain ⟨v, h1, h2⟩ := R.owns j e q
      have nv : v ≠ p := fun z => hj (R.dis i j d e p h q hp (by rw [z] at h1; exact h1))
      exact ⟨v, h1, h2.move s1 (by rw [upd_ne nv]; exact h2.1) fun _ z => z⟩
  · by_cases hj : i = j
    · subst hj
      rw [List.getElem?_set_self hi] at q1
      cases q1
    · by_cases hk : i = k
      · subst hk
        rw [List.getElem?_set_self hi] at q2
        cases q2
      · rw [List.getElem?_set_ne hj] at q1
        rw [List.getElem?_set_ne hk] at q2
        exact R.dis j k e f x q1 q2
  · have q := R.amb a z
    have ne : a ≠ p := fun e => na (by rw [← e]; exact z)
    exact q.move s1 (by rw [upd_ne ne]; exact q.1) fun _ z => z
  · have n : q.1 ≠ p := fun z => by
      obtain ⟨ps, h1, _⟩ := R.tabs q hq
      rw [z, ho] at h1
      obtain ⟨o', h2, w⟩ := ob.some_
      rw [ho] at h2; cases h2
      cases h1
      rcases w with ⟨_, w⟩ | ⟨_, w⟩ <;> cases w
    rw [upd_ne n]
    exact R.tfree q hq
  · rw [upd_ne fun z => n ⟨i, d, h, by rw [z]; exact hp⟩]
/-! ### names, constants -/
theorem se_var (i : Nat) {x : Str} (hN : X.N[i]? = some x := by rfl) (hv : Vis X.env.scope x := by first | exact Or.inl rfl | exact Or.inr (Or.inl rfl) | exact Or.inr (Or.inr rfl)) (hd : (x == ("__debug__" : Str)) = false := by decide)
    (hcd : (x == ("__classdict__" : Str)) = false := by decide) : SE X T E (.Name x pos) (Pu.cVar i) := by
  refine ⟨_, pe_var hN hv hd hcd, fun al r m s G H Q R hP => ?_⟩
  unfold Pu.cVar at hP
  cases q : r[i]? with
  | none => rw [q] at hP; exact hP.elim
  | some o =>
    rw [q] at hP
    cases o with
    | none => exact hP.elim
    | some w =>
      cases w with
      | v d =>
        obtain ⟨v, h1, h2⟩ := R.vals i d q
        exact ⟨v, h1, hP v G H Step.refl R h2⟩
      | own d =>
        obtain ⟨p, o, h1, h2, R', S, dn⟩ := R.freeze q
        exact ⟨_, h1, hP _ _ _ S R' dn⟩
theorem se_pure {t : TE} {d : D} {v : V} (h : PE X e t) (ht : ∀ s H Q, Q v H → t s H Q) (hd : ∀ al G, Dn X.K al G v d) : SE X T E e (Pu.cK d) :=
  ⟨t, h, fun al r m s G H Q R hP => ht _ _ _ (hP v G H Step.refl R (hd al G))⟩
theorem se_int {i : Int} {j : Nat} : SE X T E (.Constant (.int i) j pos) (Pu.cK (.int i)) := se_pure (v := .int i) pe_int (fun _ _ _ h => h) fun _ _ => .int i
theorem se_bl {b : Bool} {j : Nat} : SE X T E (.Constant (.bool b) j pos) (Pu.cK (.bl b)) := se_pure (v := .bl b) pe_bl (fun _ _ _ h => h) fun _ _ => .bl b
theorem se_non {j : Nat} : SE X T E (.Constant .none j pos) (Pu.cK .non) := se_pure (v := .non) pe_non (fun _ _ _ h => h) fun _ _ => .non
end
end Su

namespace Su
open PySem PySem.Spec PyProof.Rows L2
open Pu (D Sl Rho Rs M Ro Fn Fl Tg LN)
def litB (x : Str) (s : List Nat) : Bool := decide (x = mkS s) && decide (s.length ≤ LN) && s.all fun c => decide (c < 1114112)
theorem litB_ok {x : Str} {s : List Nat} (h : litB x s = true) : x = mkS s ∧ TxOk s := by
  unfold litB at h
  simp only [Bool.and_eq_true, decide_eq_true_eq, List.all_eq_true] at h
  exact ⟨h.1.1, h.1.2, h.2⟩
section
variable {K : PySem.W.Frag} {al : Option Addr} {G : Hp} {v : V}
theorem Dn.int_of {i : Int} (h : Dn K al G v (.int i)) : v = .int i := by cases h; rfl
theorem Dn.bl_of {i : Bool} (h : Dn K al G v (.bl i)) : v = .bl i := by cases h; rfl
theorem Dn.non_of (h : Dn K al G v .non) : v = .non := by cases h; rfl
theorem Dn.str_of {i : List Nat} (h : Dn K al G v (.str i)) : v = .str (mkS i) ∧ TxOk i := by cases h; exact ⟨rfl, by assumption⟩
theorem Dn.tup_of {ds : List D} (h : Dn K al G v (.tup ds)) : ∃ a xs, v = .ref a ∧ G a = some (.tup xs) ∧ ds.length ≤ LN ∧ DnL K al G xs ds := by cases h; exact ⟨_, _, rfl, by assumption, by assumption, by assumption⟩
theorem Dn.lst_of {ds : List D} (h : Dn K al G v (.lst ds)) : ∃ a xs, v = .ref a ∧ G a = some (.lst xs) ∧ ds.length ≤ LN ∧ DnL K al G xs ds := by cases h; exact ⟨_, _, rfl, by assumption, by assumption, by assumption⟩
theorem Dn.dic_of {ds : List (List Nat × D)} (h : Dn K al G v (.dic ds)) : ∃ a xs, v = .ref a ∧ G a = some (.dK xs) ∧ DnK K al G xs ds := by cases h; exact ⟨_, _, rfl, by assumption, by assumption⟩
theorem Dn.scr_of {ns : List Int} (h : Dn K al G v (.scr ns)) : ∃ a, v = .ref a ∧ SqL K G a (ns.map V.int) ∧ ns.length ≤ LN := by cases h; exact ⟨_, rfl, by assumption, by assumption⟩
theorem Dn.ob_of {n : Nat} (h : Dn K al G v (.ob n)) : v = .ref n := by cases h; rfl
theorem Dn.amb_of (h : Dn K al G v .amb) : ∃ a, v = .ref a ∧ al = some a := by cases h; exact ⟨_, rfl, by assumption⟩
end
theorem mkS_len (s : List Nat) : (mkS s).length = s.length := by simp [mkS, PySem.Str.length]
theorem mkS_cps (s : List Nat) : (mkS s).cps.toList = s := by simp [mkS]
theorem mkS_app (a b : List Nat) : mkS a ++ mkS b = mkS (a ++ b) := by
  show (⟨(mkS a).cps ++ (mkS b).cps⟩ : Str) = _
  simp [mkS]
theorem mkS_inj {a b : List Nat} (h : mkS a = mkS b) : a = b := by
  have := congrArg (fun z : Str => z.cps.toList) h
  simpa [mkS] using this
theorem TxOk.app {a b : List Nat} (h : TxOk a) (g : TxOk b) (l : a.length + b.length ≤ LN) : TxOk (a ++ b) :=
  ⟨by rw [List.length_append]; exact l, fun c hc => (List.mem_append.mp hc).elim (h.cps c) (g.cps c)⟩
theorem TxOk.sub {a b : List Nat} (h : TxOk a) (l : b.length ≤ a.length) (q : ∀ c ∈ b, c ∈ a) : TxOk b := ⟨Nat.le_trans l h.len, fun c hc => h.cps c (q c hc)⟩
section
variable {X : Cx} {T : Tb} {E : XK} {e a b c : Expr} {pos : Pos} {ca cb cc : M D} {ta tb : M Bool}
theorem se_str {x : Str} {j : Nat} (s : List Nat) (h : litB x s = true) : SE X T E (.Constant (.str x) j pos) (Pu.cK (.str s)) := by
  obtain ⟨e, k⟩ := litB_ok h
  subst e
  exact se_pure (v := .str (mkS s)) pe_str (fun _ _ _ h => h) fun _ _ => .str s k
/-- a text of the module -/
theorem se_gstr {x z : Str} {t : Tok} (s : List Nat) (hm : X.mg x = some (.str z t)) (h : litB z s = true) (hg : Gl X x := by rfl) (hd : (x == ("__debug__" : Str)) = false := by decide) : SE X T E (.Name x pos) (Pu.cK (.str s)) := by
  obtain ⟨e, k⟩ := litB_ok h
  subst e
  exact se_pure (v := .str (mkS s)) (pe_glob (v := .str (mkS s)) hg hm ⟨_, rfl⟩ hd) (fun _ _ _ h => h) fun _ _ => .str s k
/-! ### operators -/
/-- an operator by values computes f -/
def OpD (X : Cx) (T : Tb) (rr : R2) (f : D → D → Option D) : Prop :=
  ∀ (al : Option Addr) (r : Rho) (m : D) (s : L2.St) (G H : Hp) (v w : V) (x y d : D) (Q : VK), Rel X.K T al G H r m s → Dn X.K al G v x → Dn X.K al G w y → f x y = some d →
    (∀ z G' H', Step T al (Ow r s) G H (Ow r s) G' H' → Rel X.K T al G' H' r m s → Dn X.K al G' z d → Q z H') → rr v w H Q
theorem sd_two {tx ty : TE} {rr : R2} {f : D → D → Option D} (ha : Sd X.K T E tx (vD X.K) ca) (hb : Sd X.K T E ty (vD X.K) cb) (hd : OpD X T rr f) : Sd X.K T E (tOp rr tx ty) (vD X.K) (Pu.c2 f ca cb) := by
  intro al r m s G H Q R hP
  refine ha.thn R hP fun x r1 m1 v G1 H1 S1 R1 d1 P1 => ?_
  refine hb.thn R1 P1 fun y r2 m2 w G2 H2 S2 R2 d2 P2 => ?_
  obtain ⟨d, e, P3⟩ := P2.opt_
  exact hd al r2 m2 s G2 H2 v w x y d Q R2 (d1.mono S2.mono) d2 e fun z G' H' S R' dz => P3 z G' H' S R' dz
theorem se_op {op : Operator} {rr : R2} {f : D → D → Option D} (ho : OpR X (binaryOp op) rr) (hd : OpD X T rr f) (ha : SE X T E a ca) (hb : SE X T E b cb) : SE X T E (.BinOp a op b pos) (Pu.c2 f ca cb) := by
  obtain ⟨tx, hx, dx⟩ := ha
  obtain ⟨ty, hy, dy⟩ := hb
  exact ⟨_, pe_op ho hx hy, sd_two dx dy hd⟩
theorem se_cmp {op : CmpOp} {rr : R2} {f : D → D → Option D} (ho : OpR X (compareOp op) rr) (hd : OpD X T rr f) (ha : SE X T E a ca) (hb : SE X T E b cb) (hm : behindInMarks op b = false) : SE X T E (.Compare a [op] [b] pos) (Pu.c2 f ca cb) := by
  obtain ⟨tx, hx, dx⟩ := ha
  obtain ⟨ty, hy, dy⟩ := hb
  exact ⟨_, pe_cmpR ho hx hy hm, sd_two dx dy hd⟩
/-- a value that is a bool, as a test -/
theorem sd_test {t : TE} (h : Sd X.K T E t (vD X.K) ca) : Sd X.K T E (tTest t) vB (Pu.tB ca) := by
  intro al r m s G H Q R hP
  refine h.thn R hP fun x r1 m1 v G1 H1 S1 R1 d1 P1 => ?_
  cases x with
  | bl k => rw [d1.bl_of]; exact ⟨k, rfl, P1.ok_ R1 rfl⟩
  | _ => exact P1.elim
theorem st_cmp {op : CmpOp} {rr : R2} {f : D → D → Option D} (ho : OpR X (compareOp op) rr) (hd : OpD X T rr f) (ha : SE X T E a ca) (hb : SE X T E b cb) (hm : behindInMarks op b = false) : ST X T E (.Compare a [op] [b] pos) (Pu.tB (Pu.c2 f ca cb)) := by
  obtain ⟨tx, hx, dx⟩ := ha
  obtain ⟨ty, hy, dy⟩ := hb
  exact ⟨_, pt_cmpR ho hx hy hm, sd_test (sd_two dx dy hd)⟩
theorem st_val (h : SE X T E e ca) (he : ∀ whole, isTrue e X.env whole = (do let v ← whole; standAt e.pos; holding [v] (truthy v)) := by intro _; rfl) : ST X T E e (Pu.tB ca) := by
  obtain ⟨t, ht, dt⟩ := h
  exact ⟨_, pt_val ht he, sd_test dt⟩
/-! ### what each operator computes -/
section
variable {al : Option Addr} {G H : Hp} {r : Rho} {m : D} {s : L2.St} {Q : VK}
theorem fin_ {d : D} {v : V} (R : Rel X.K T al G H r m s) (k : ∀ z G' H', Step T al (Ow r s) G H (Ow r s) G' H' → Rel X.K T al G' H' r m s → Dn X.K al G' z d → Q z H') (h : Dn X.K al G v d) : Q v H := k v G H Step.refl R h
/-- a new tuple, a new list -/
theorem fin_tup {xs : List V} {ds : List D} {p : Addr} (R : Rel X.K T al G H r m s) (k : ∀ z G' H', Step T al (Ow r s) G H (Ow r s) G' H' → Rel X.K T al G' H' r m s → Dn X.K al G' z (.tup ds) → Q z H') (h : DnL X.K al G xs ds) (l : ds.length ≤ LN) (n : H p = none) : Q (.ref p) (upd H p (.tup xs)) :=
  k _ _ _ (step_new R.same n) (R.new n) (.tup upd_same l (h.mono (same_upd (R.same.free n))))
theorem fin_lst {xs : List V} {ds : List D} {p : Addr} (R : Rel X.K T al G H r m s) (k : ∀ z G' H', Step T al (Ow r s) G H (Ow r s) G' H' → Rel X.K T al G' H' r m s → Dn X.K al G' z (.lst ds) → Q z H') (h : DnL X.K al G xs ds) (l : ds.length ≤ LN) (n : H p = none) : Q (.ref p) (upd H p (.lst xs)) :=
  k _ _ _ (step_new R.same n) (R.new n) (.lst upd_same l (h.mono (same_upd (R.same.free n))))
end
theorem od_sub : OpD X T (rI0 fun i j => .int (i - j)) Pu.oSub := by
  intro al r m s G H v w x y d Q R dx dy e k
  cases x <;> cases y <;> simp only [Pu.oSub, reduceCtorEq, Option.some.injEq] at e
  rw [dx.int_of, dy.int_of]
  subst e
  exact ⟨_, _, rfl, rfl, fin_ R k (.int _)⟩
theorem op_addAll : OpR X (binaryOp .Add) (fun x y H Q => (rI0 fun i j => V.int (i + j)) x y H Q ∨ (fun x y H Q => ∃ i j, x = V.str i ∧ y = V.str j ∧ i.length + j.length ≤ sizeLine ∧ Q (V.str (i ++ j)) H) x y H Q ∨ rCat x y H Q ∨ rCatA X.K x y H Q) :=
  op_add.or (op_add_str.or (op_cat.or op_catA))
theorem od_add : OpD X T (fun x y H Q => (rI0 fun i j => V.int (i + j)) x y H Q ∨ (fun x y H Q => ∃ i j, x = V.str i ∧ y = V.str j ∧ i.length + j.length ≤ sizeLine ∧ Q (V.str (i ++ j)) H) x y H Q ∨ rCat x y H Q ∨ rCatA X.K x y H Q) Pu.oAdd := by
  intro al r m s G H v w x y d Q R dx dy e k
  cases x <;> cases y <;> simp only [Pu.oAdd, reduceCtorEq, Option.some.injEq, Option.ite_none_right_eq_some] at e
  · rw [dx.int_of, dy.int_of]
    subst e
    exact .inl ⟨_, _, rfl, rfl, fin_ R k (.int _)⟩
  · obtain ⟨l, e⟩ := e
    subst e
    obtain ⟨e1, k1⟩ := dx.str_of
    obtain ⟨e2, k2⟩ := dy.str_of
    subst e1 e2
    refine .inr (.inl ⟨_, _, rfl, rfl, by rw [mkS_len, mkS_len, ln_eq]; exact l, ?_⟩)
    rw [mkS_app]
    exact fin_ R k (.str _ (k1.app k2 l))
  · obtain ⟨l, e⟩ := e
    subst e
    obtain ⟨p, xs, rfl, h1, _, h2⟩ := dx.tup_of
    obtain ⟨q, ys, rfl, h3, _, h4⟩ := dy.tup_of
    refine .inr (.inr (.inr ⟨p, q, xs, ys, rfl, rfl, SqT.of (R.same _ _ h1), SqT.of (R.same _ _ h3), by rw [h2.length, h4.length, ln_eq]; exact l, fun z => ?_, fun _ z => ?_, fun _ _ p n => fin_tup R k (h2.append h4) (by rw [List.length_append]; exact l) n⟩))
    · subst z
      cases h2
      exact fin_ R k dy
    · subst z
      cases h4
      refine fin_ R k ?_
      rw [List.append_nil]
      exact dx
  · obtain ⟨l, e⟩ := e
    subst e
    obtain ⟨p, xs, rfl, h1, _, h2⟩ := dx.lst_of
    obtain ⟨q, ys, rfl, h3, _, h4⟩ := dy.lst_of
    exact .inr (.inr (.inl ⟨p, q, xs, ys, rfl, rfl, R.same _ _ h1, R.same _ _ h3, by rw [h2.length, h4.length, ln_eq]; exact l, fun p n => fin_lst R k (h2.append h4) (by rw [List.length_append]; exact l) n⟩))
theorem se_add (ha : SE X T E a ca) (hb : SE X T E b cb) : SE X T E (.BinOp a .Add b pos) (Pu.c2 Pu.oAdd ca cb) := se_op op_addAll od_add ha hb
theorem se_sub (ha : SE X T E a ca) (hb : SE X T E b cb) : SE X T E (.BinOp a .Sub b pos) (Pu.c2 Pu.oSub ca cb) := se_op op_sub od_sub ha hb
theorem DnL.rep {K : PySem.W.Frag} {al : Option Addr} {G : Hp} {xs : List V} {ds : List D} (h : DnL K al G xs ds) : ∀ n : Nat, DnL K al G (List.replicate n xs).flatten (List.replicate n ds).flatten
  | 0 => by simp; exact .nil
  | n + 1 => by
    simp only [List.replicate_succ, List.flatten_cons]
    exact h.append (DnL.rep h n)
theorem op_mulAll : OpR X (binaryOp .Mult) (fun x y H Q => (rI CMul fun i j => V.int (i * j)) x y H Q ∨ (rI CMulW fun i j => V.int (i * j)) x y H Q ∨ rRep x y H Q ∨ rRepT X.K x y H Q) := op_mul.or (op_mulW.or (op_rep.or op_repT))
theorem len_rep {A : Type} (ds : List A) : ∀ n : Nat, (List.replicate n ds).flatten.length = ds.length * n
  | 0 => by simp
  | n + 1 => by
    simp only [List.replicate_succ, List.flatten_cons, List.length_append]
    rw [len_rep ds n, Nat.mul_succ]
    omega
theorem od_mul : OpD X T (fun x y H Q => (rI CMul fun i j => V.int (i * j)) x y H Q ∨ (rI CMulW fun i j => V.int (i * j)) x y H Q ∨ rRep x y H Q ∨ rRepT X.K x y H Q) Pu.oMul := by
  intro al r m s G H v w x y d Q R dx dy e k
  cases x <;> cases y <;> simp only [Pu.oMul, reduceCtorEq, Option.some.injEq, Option.ite_none_right_eq_some] at e
  · obtain ⟨l, e⟩ := e
    rw [dx.int_of, dy.int_of]
    subst e
    rcases l with l | l | l
    · exact .inl ⟨_, _, rfl, rfl, .inl (by omega), fin_ R k (.int _)⟩
    · exact .inl ⟨_, _, rfl, rfl, .inr (by omega), fin_ R k (.int _)⟩
    · exact .inr (.inl ⟨_, _, rfl, rfl, wide_mul l.1 l.2 (by decide) (by decide) (by decide), fin_ R k (.int _)⟩)
  · obtain ⟨l, e⟩ := e
    subst e
    obtain ⟨p, xs, rfl, h1, _, h2⟩ := dx.tup_of
    rw [dy.int_of]
    have lz := h2.length
    refine .inr (.inr (.inr ⟨p, _, xs, rfl, rfl, SqT.of (R.same _ _ h1), fun z => l.1 ?_, l.2.1, by omega, by rw [lz]; exact l.2.2.2, fun p n => fin_tup R k (h2.rep _) ?_ n⟩))
    · subst z; cases h2; rfl
    · rw [len_rep]
      refine Nat.le_trans (Nat.mul_le_mul l.2.2.2 (show _ ≤ 1000 from ?_)) (show 1000 * 1000 ≤ LN by decide)
      have := l.2.2.1
      have := l.2.1
      omega
  · obtain ⟨l, e⟩ := e
    subst e
    obtain ⟨p, xs, rfl, h1, _, h2⟩ := dx.lst_of
    rw [dy.int_of]
    exact .inr (.inr (.inl ⟨p, _, xs, rfl, rfl, R.same _ _ h1, by omega, by omega, by rw [h2.length, ln_eq]; exact l.2, fun p n => fin_lst R k (h2.rep _) (by rw [len_rep]; exact l.2) n⟩))
theorem se_mul (ha : SE X T E a ca) (hb : SE X T E b cb) : SE X T E (.BinOp a .Mult b pos) (Pu.c2 Pu.oMul ca cb) := se_op op_mulAll od_mul ha hb
theorem od_div : OpD X T (rI CDivW fun i j => .int (i / j)) Pu.oDiv := by
  intro al r m s G H v w x y d Q R dx dy e k
  cases x <;> cases y <;> simp only [Pu.oDiv, reduceCtorEq, Option.some.injEq, Option.ite_none_right_eq_some] at e
  obtain ⟨l, e⟩ := e
  rw [dx.int_of, dy.int_of]
  subst e
  exact ⟨_, _, rfl, rfl, wide_div l.1 l.2 (by decide) (by decide), fin_ R k (.int _)⟩
theorem se_div (ha : SE X T E a ca) (hb : SE X T E b cb) : SE X T E (.BinOp a .FloorDiv b pos) (Pu.c2 Pu.oDiv ca cb) := se_op op_fdivW od_div ha hb
theorem od_mod : OpD X T (rI (fun _ j => 0 < j) fun i j => .int (i % j)) Pu.oMod := by
  intro al r m s G H v w x y d Q R dx dy e k
  cases x <;> cases y <;> simp only [Pu.oMod, reduceCtorEq, Option.some.injEq, Option.ite_none_right_eq_some] at e
  obtain ⟨l, e⟩ := e
  rw [dx.int_of, dy.int_of]
  subst e
  exact ⟨_, _, rfl, rfl, l, fin_ R k (.int _)⟩
theorem se_mod (ha : SE X T E a ca) (hb : SE X T E b cb) : SE X T E (.BinOp a .Mod b pos) (Pu.c2 Pu.oMod ca cb) := se_op op_mod od_mod ha hb
theorem od_pow : OpD X T (rI CPow fun i j => .int (i ^ j.toNat)) Pu.oPow := by
  intro al r m s G H v w x y d Q R dx dy e k
  cases x <;> cases y <;> simp only [Pu.oPow, reduceCtorEq, Option.some.injEq, Option.ite_none_right_eq_some] at e
  obtain ⟨l, e⟩ := e
  rw [dx.int_of, dy.int_of]
  subst e
  exact ⟨_, _, rfl, rfl, ⟨l.1, by omega, l.2.2⟩, fin_ R k (.int _)⟩
theorem se_pow (ha : SE X T E a ca) (hb : SE X T E b cb) : SE X T E (.BinOp a .Pow b pos) (Pu.c2 Pu.oPow ca cb) := se_op op_pow od_pow ha hb
/-! ### orders -/
theorem od_lt : OpD X T (fun x y H Q => (rI0 fun i j => V.bl (decide (i < j))) x y H Q ∨ (fun x y H Q => ∃ i j, x = V.str i ∧ y = V.str j ∧ Q (V.bl (decide (i.cps.toList < j.cps.toList))) H) x y H Q) Pu.oLt := by
  intro al r m s G H v w x y d Q R dx dy e k
  cases x <;> cases y <;> simp only [Pu.oLt, reduceCtorEq, Option.some.injEq] at e
  · rw [dx.int_of, dy.int_of]
    subst e
    exact .inl ⟨_, _, rfl, rfl, fin_ R k (.bl _)⟩
  · subst e
    obtain ⟨e1, k1⟩ := dx.str_of
    obtain ⟨e2, k2⟩ := dy.str_of
    subst e1 e2
    refine .inr ⟨_, _, rfl, rfl, ?_⟩
    simp only [mkS_cps]
    exact fin_ R k (.bl _)
theorem od_gt : OpD X T (fun x y H Q => (rI0 fun i j => V.bl (decide (j < i))) x y H Q ∨ (fun x y H Q => ∃ i j, x = V.str i ∧ y = V.str j ∧ Q (V.bl (decide (j.cps.toList < i.cps.toList))) H) x y H Q) Pu.oGt := by
  intro al r m s G H v w x y d Q R dx dy e k
  cases x <;> cases y <;> simp only [Pu.oGt, reduceCtorEq, Option.some.injEq] at e
  · rw [dx.int_of, dy.int_of]
    subst e
    exact .inl ⟨_, _, rfl, rfl, fin_ R k (.bl _)⟩
  · subst e
    obtain ⟨e1, k1⟩ := dx.str_of
    obtain ⟨e2, k2⟩ := dy.str_of
    subst e1 e2
    refine .inr ⟨_, _, rfl, rfl, ?_⟩
    simp only [mkS_cps]
    exact fin_ R k (.bl _)
theorem od_le : OpD X T (rI0 fun i j => V.bl (decide (i ≤ j))) Pu.oLe := by
  intro al r m s G H v w x y d Q R dx dy e k
  cases x <;> cases y <;> simp only [Pu.oLe, reduceCtorEq, Option.some.injEq] at e
  rw [dx.int_of, dy.int_of]
  subst e
  exact ⟨_, _, rfl, rfl, fin_ R k (.bl _)⟩
theorem od_ge : OpD X T (rI0 fun i j => V.bl (decide (j ≤ i))) Pu.oGe := by
  intro al r m s G H v w x y d Q R dx dy e k
  cases x <;> cases y <;> simp only [Pu.oGe, reduceCtorEq, Option.some.injEq] at e
  rw [dx.int_of, dy.int_of]
  subst e
  exact ⟨_, _, rfl, rfl, fin_ R k (.bl _)⟩
end
end Su

namespace Su
open PySem PySem.Spec PyProof.Rows L2
open Pu (D Sl Rho Rs M Ro Fn Fl Tg LN)
/-! ### data as the library has it -/
mutual
def toP : D → PyData
  | .non => .none
  | .bl b => .bool b
  | .int i => .int i
  | .str s => .str (mkS s)
  | .tup ds => .tuple (toPs ds)
  | .lst ds => .list (toPs ds)
  | .scr ns => .list (ns.map .int)
  | .dic _ => .none
  | .amb => .none
  | .ob _ => .none
def toPs : List D → List PyData
  | [] => []
  | d :: ds => toP d :: toPs ds
end
section
variable {K : PySem.W.Frag} {al : Option Addr} {G H : Hp}
mutual
theorem Dn.dp (s : Same G H) : ∀ (n : Nat) {v : V} {d : D}, Dn K al G v d → Pu.shp n d = true → Dp K H v (toP d)
  | _, _, _, .non, _ => .non
  | _, _, _, .bl b, _ => .bl b
  | _, _, _, .int i, _ => .int i
  | _, _, _, .str x _, _ => .str _
  | n + 1, _, _, .tup h _ r, q => .tup (SqT.of (s _ _ h)) (DnL.dp s n r (by simpa [Pu.shp] using q))
  | n + 1, _, _, .lst h _ r, q => .lst (SqL.of (s _ _ h)) (DnL.dp s n r (by simpa [Pu.shp] using q))
  | 0, _, _, .tup _ _ _, q => by simp [Pu.shp] at q
  | 0, _, _, .lst _ _ _, q => by simp [Pu.shp] at q
  | 0, _, _, .dic _ _, q => by simp [Pu.shp] at q
  | n + 1, _, _, .dic _ _, q => by simp [Pu.shp] at q
  | 0, _, _, .scr _ _, q => by simp [Pu.shp] at q
  | n + 1, _, _, .scr _ _, q => by simp [Pu.shp] at q
  | 0, _, _, .amb _, q => by simp [Pu.shp] at q
  | n + 1, _, _, .amb _, q => by simp [Pu.shp] at q
  | 0, _, _, .ob _, q => by simp [Pu.shp] at q
  | n + 1, _, _, .ob _, q => by simp [Pu.shp] at q
theorem DnL.dp (s : Same G H) : ∀ (n : Nat) {v : List V} {d : List D}, DnL K al G v d → (∀ x ∈ d, Pu.shp n x = true) → DpAll K H v (toPs d)
  | _, _, _, .nil, _ => .nil
  | n, _, _, .cons h r, q => .cons (Dn.dp s n h (q _ List.mem_cons_self)) (DnL.dp s n r fun x hx => q x (List.mem_cons_of_mem _ hx))
end
theorem strOk_of {s : List Nat} (h : TxOk s) : PyData.strOk (mkS s) = true := by
  unfold PyData.strOk mkS
  rw [← Array.all_toList, List.all_eq_true]
  intro c hc
  exact decide_eq_true (h.cps c (by simpa using hc))
mutual
theorem Dn.lay : ∀ (n : Nat) {v : V} {d : D}, Dn K al G v d → Pu.shp n d = true → (toP d).canLay0 = true ∧ (toP d).depth ≤ n + 1
  | n, _, _, .non, _ => ⟨rfl, by simp [toP, PyData.depth]⟩
  | n, _, _, .bl b, _ => ⟨rfl, by simp [toP, PyData.depth]⟩
  | n, _, _, .int i, _ => ⟨rfl, by simp [toP, PyData.depth]⟩
  | n, _, _, .str x h, _ => ⟨strOk_of h, by simp [toP, PyData.depth]⟩
  | n + 1, _, _, .tup _ _ r, q => by
    have z := DnL.lay n r (by simpa [Pu.shp] using q)
    exact ⟨by simpa [toP, PyData.canLay0] using z.1, by simp only [toP, PyData.depth]; omega⟩
  | n + 1, _, _, .lst _ _ r, q => by
    have z := DnL.lay n r (by simpa [Pu.shp] using q)
    exact ⟨by simpa [toP, PyData.canLay0] using z.1, by simp only [toP, PyData.depth]; omega⟩
  | 0, _, _, .tup _ _ _, q => by simp [Pu.shp] at q
  | 0, _, _, .lst _ _ _, q => by simp [Pu.shp] at q
  | 0, _, _, .dic _ _, q => by simp [Pu.shp] at q
  | n + 1, _, _, .dic _ _, q => by simp [Pu.shp] at q
  | 0, _, _, .scr _ _, q => by simp [Pu.shp] at q
  | n + 1, _, _, .scr _ _, q => by simp [Pu.shp] at q
  | 0, _, _, .amb _, q => by simp [Pu.shp] at q
  | n + 1, _, _, .amb _, q => by simp [Pu.shp] at q
  | 0, _, _, .ob _, q => by simp [Pu.shp] at q
  | n + 1, _, _, .ob _, q => by simp [Pu.shp] at q
theorem DnL.lay : ∀ (n : Nat) {v : List V} {d : List D}, DnL K al G v d → (∀ x ∈ d, Pu.shp n x = true) → PyData.canLayAll0 (toPs d) = true ∧ PyData.depthAll (toPs d) ≤ n + 1
  | _, _, _, .nil, _ => ⟨rfl, by simp [toPs, PyData.depthAll]⟩
  | n, _, _, .cons h r, q => by
    have z1 := Dn.lay n h (q _ List.mem_cons_self)
    have z2 := DnL.lay n r fun x hx => q x (List.mem_cons_of_mem _ hx)
    exact ⟨by simp only [toPs, PyData.canLayAll0, z1.1, z2.1]; rfl, by simp only [toPs, PyData.depthAll]; omega⟩
end
end

theorem mkS_beq (a b : List Nat) : (mkS a == mkS b) = (a == b) := by
  by_cases h : a = b
  · subst h; simp
  · have : mkS a ≠ mkS b := fun z => h (mkS_inj z)
    rw [beq_eq_false_iff_ne.mpr this, beq_eq_false_iff_ne.mpr h]
mutual
theorem eqv_deq : ∀ (n : Nat) (x y : D), Pu.shp n x = true → Pu.shp n y = true → PyData.eqv (toP x) (toP y) = Pu.deq x y
  | n, .non, y, _, hy => by cases n <;> cases y <;> simp_all [toP, PyData.eqv, Pu.deq, Pu.shp]
  | n, .bl a, y, _, hy => by cases n <;> cases y <;> simp_all [toP, PyData.eqv, Pu.deq, Pu.shp]
  | n, .int a, y, _, hy => by cases n <;> cases y <;> simp_all [toP, PyData.eqv, Pu.deq, Pu.shp]
  | n, .str a, y, _, hy => by cases n <;> cases y <;> simp_all [toP, PyData.eqv, Pu.deq, Pu.shp, mkS_beq]
  | 0, .tup a, y, hx, hy => by simp [Pu.shp] at hx
  | 0, .lst a, y, hx, hy => by simp [Pu.shp] at hx
  | n + 1, .tup a, y, hx, hy => by
    cases y with
    | tup b =>
      simp only [toP, PyData.eqv, Pu.deq]
      exact eqv_deqs n a b (by simpa [Pu.shp] using hx) (by simpa [Pu.shp] using hy)
    | _ => simp_all [toP, PyData.eqv, Pu.deq, Pu.shp]
  | n + 1, .lst a, y, hx, hy => by
    cases y with
    | lst b =>
      simp only [toP, PyData.eqv, Pu.deq]
      exact eqv_deqs n a b (by simpa [Pu.shp] using hx) (by simpa [Pu.shp] using hy)
    | _ => simp_all [toP, PyData.eqv, Pu.deq, Pu.shp]
  | 0, .dic _, _, hx, _ => by simp [Pu.shp] at hx
  | n + 1, .dic _, _, hx, _ => by simp [Pu.shp] at hx
  | 0, .scr _, _, hx, _ => by simp [Pu.shp] at hx
  | n + 1, .scr _, _, hx, _ => by simp [Pu.shp] at hx
  | 0, .ob _, _, hx, _ => by simp [Pu.shp] at hx
  | n + 1, .ob _, _, hx, _ => by simp [Pu.shp] at hx
  | 0, .amb, _, hx, _ => by simp [Pu.shp] at hx
  | n + 1, .amb, _, hx, _ => by simp [Pu.shp] at hx
theorem eqv_deqs : ∀ (n : Nat) (x y : List D), (∀ d ∈ x, Pu.shp n d = true) → (∀ d ∈ y, Pu.shp n d = true) → PyData.eqvAll (toPs x) (toPs y) = Pu.deqs x y
  | _, [], [], _, _ => rfl
  | _, [], _ :: _, _, _ => rfl
  | _, _ :: _, [], _, _ => rfl
  | n, a :: x, b :: y, hx, hy => by
    simp only [toPs, PyData.eqvAll, Pu.deqs]
    rw [eqv_deq n a b (hx _ List.mem_cons_self) (hy _ List.mem_cons_self), eqv_deqs n x y (fun d h => hx d (List.mem_cons_of_mem _ h)) fun d h => hy d (List.mem_cons_of_mem _ h)]
end
theorem Dn.shaped {K : PySem.W.Frag} {al : Option Addr} {G : Hp} {v : V} {d : D} (h : Dn K al G v d) (q : Pu.shp 8 d = true) : SeqAt.shaped (toP d) = true := by
  have z := h.lay 8 q
  unfold SeqAt.shaped
  rw [z.1, decide_eq_true (by omega)]
  rfl
section
variable {X : Cx} {T : Tb} {E : XK} {e a b c : Expr} {pos : Pos} {ca cb cc : M D} {ta tb : M Bool} {k : Nat}
theorem od_eq : OpD X T (rEqD X.K) Pu.oEq := by
  intro al r m s G H v w x y d Q R dx dy e k
  have main : (if Pu.shp 8 x && Pu.shp 8 y then some (D.bl (Pu.deq x y)) else none) = some d → rEqD X.K v w H Q := fun e => by
    simp only [Option.ite_none_right_eq_some, Bool.and_eq_true, Option.some.injEq] at e
    obtain ⟨⟨h1, h2⟩, e⟩ := e
    subst e
    refine ⟨toP x, toP y, dx.dp R.same 8 h1, dy.dp R.same 8 h2, dx.shaped h1, dy.shaped h2, ?_⟩
    rw [eqv_deq 8 x y h1 h2]
    exact fin_ R k (.bl _)
  unfold Pu.oEq at e
  split at e
  · rename_i ns
    cases e
    obtain ⟨p, rfl, h1, h2⟩ := dx.scr_of
    obtain ⟨q, ys, rfl, h3, _, h4⟩ := dy.lst_of
    cases h4
    have da : ∀ ns : List Int, DpAll X.K H (ns.map V.int) (ns.map PyData.int) := fun ns => by
      induction ns with
      | nil => exact .nil
      | cons n ns ih => exact .cons (.int n) ih
    refine ⟨.list (ns.map .int), .list [], .lst (R.same.seq h1) (da ns), .lst (SqL.of (R.same _ _ h3)) .nil, ?_, rfl, ?_⟩
    · have z : ∀ ns : List Int, PyData.canLayAll0 (ns.map PyData.int) = true ∧ PyData.depthAll (ns.map PyData.int) = 0 := fun ns => by
        induction ns with
        | nil => exact ⟨rfl, rfl⟩
        | cons n ns ih => exact ⟨by simp [PyData.canLayAll0, PyData.canLay0, ih.1], by simp [PyData.depthAll, PyData.depth, ih.2]⟩
      unfold SeqAt.shaped
      simp [PyData.canLay0, PyData.depth, (z ns).1, (z ns).2]
    · have : PyData.eqv (.list (ns.map .int)) (.list []) = ns.isEmpty := by cases ns <;> rfl
      rw [this]
      exact fin_ R k (.bl _)
  · exact main e
theorem od_ne : OpD X T (rNeD X.K) Pu.oNe := by
  intro al r m s G H v w x y d Q R dx dy e k
  unfold Pu.oNe at e
  simp only [Option.ite_none_right_eq_some, Bool.and_eq_true, Option.some.injEq] at e
  obtain ⟨⟨h1, h2⟩, e⟩ := e
  subst e
  refine ⟨toP x, toP y, dx.dp R.same 8 h1, dy.dp R.same 8 h2, dx.shaped h1, dy.shaped h2, ?_⟩
  rw [eqv_deq 8 x y h1 h2]
  exact fin_ R k (.bl _)
theorem se_eq (C : Cn k X E) (ha : SE X T E a ca) (hb : SE X T E b cb) : SE X T E (.Compare a [.Eq] [b] pos) (Pu.c2 Pu.oEq ca cb) := se_cmp (op_eqD C.room.units) od_eq ha hb (nomark _)
theorem st_eq (C : Cn k X E) (ha : SE X T E a ca) (hb : SE X T E b cb) : ST X T E (.Compare a [.Eq] [b] pos) (Pu.tB (Pu.c2 Pu.oEq ca cb)) := st_cmp (op_eqD C.room.units) od_eq ha hb (nomark _)
theorem se_ne (C : Cn k X E) (ha : SE X T E a ca) (hb : SE X T E b cb) : SE X T E (.Compare a [.NotEq] [b] pos) (Pu.c2 Pu.oNe ca cb) := se_cmp (op_neD C.room.units) od_ne ha hb (nomark _)
theorem st_ne (C : Cn k X E) (ha : SE X T E a ca) (hb : SE X T E b cb) : ST X T E (.Compare a [.NotEq] [b] pos) (Pu.tB (Pu.c2 Pu.oNe ca cb)) := st_cmp (op_neD C.room.units) od_ne ha hb (nomark _)
theorem se_lt (ha : SE X T E a ca) (hb : SE X T E b cb) : SE X T E (.Compare a [.Lt] [b] pos) (Pu.c2 Pu.oLt ca cb) := se_cmp (op_lt.or op_lt_str) od_lt ha hb (nomark _)
theorem st_lt (ha : SE X T E a ca) (hb : SE X T E b cb) : ST X T E (.Compare a [.Lt] [b] pos) (Pu.tB (Pu.c2 Pu.oLt ca cb)) := st_cmp (op_lt.or op_lt_str) od_lt ha hb (nomark _)
theorem se_gt (ha : SE X T E a ca) (hb : SE X T E b cb) : SE X T E (.Compare a [.Gt] [b] pos) (Pu.c2 Pu.oGt ca cb) := se_cmp (op_gt.or op_gt_str) od_gt ha hb (nomark _)
theorem st_gt (ha : SE X T E a ca) (hb : SE X T E b cb) : ST X T E (.Compare a [.Gt] [b] pos) (Pu.tB (Pu.c2 Pu.oGt ca cb)) := st_cmp (op_gt.or op_gt_str) od_gt ha hb (nomark _)
theorem se_le (ha : SE X T E a ca) (hb : SE X T E b cb) : SE X T E (.Compare a [.LtE] [b] pos) (Pu.c2 Pu.oLe ca cb) := se_cmp op_le od_le ha hb (nomark _)
theorem st_le (ha : SE X T E a ca) (hb : SE X T E b cb) : ST X T E (.Compare a [.LtE] [b] pos) (Pu.tB (Pu.c2 Pu.oLe ca cb)) := st_cmp op_le od_le ha hb (nomark _)
theorem se_ge (ha : SE X T E a ca) (hb : SE X T E b cb) : SE X T E (.Compare a [.GtE] [b] pos) (Pu.c2 Pu.oGe ca cb) := se_cmp op_ge od_ge ha hb (nomark _)
theorem st_ge (ha : SE X T E a ca) (hb : SE X T E b cb) : ST X T E (.Compare a [.GtE] [b] pos) (Pu.tB (Pu.c2 Pu.oGe ca cb)) := st_cmp op_ge od_ge ha hb (nomark _)
/-! ### in, is None -/
theorem eqV_deq {K : PySem.W.Frag} {al : Option Addr} {G : Hp} {v w : V} {x y : D} (dx : Dn K al G v x) (dy : Dn K al G w y) (fx : Pu.flat x = true) (fy : Pu.flat y = true) : eqV v w = Pu.deq x y := by
  cases x <;> simp only [Pu.flat, Bool.false_eq_true] at fx
  all_goals cases y <;> simp only [Pu.flat, Bool.false_eq_true] at fy
  all_goals cases dx
  all_goals cases dy
  all_goals simp only [eqV, Pu.deq, mkS_beq]
theorem flatV_of {K : PySem.W.Frag} {al : Option Addr} {G : Hp} {v : V} {x : D} (dx : Dn K al G v x) (fx : Pu.flat x = true) : flatV v = true := by
  cases x <;> simp only [Pu.flat, Bool.false_eq_true] at fx
  all_goals cases dx
  all_goals rfl
theorem in_of {K : PySem.W.Frag} {al : Option Addr} {G : Hp} {v : V} {x : D} (dx : Dn K al G v x) (fx : Pu.flat x = true) : ∀ {xs : List V} {ds : List D}, DnL K al G xs ds → (∀ d ∈ ds, Pu.flat d = true) → xs.all flatV = true ∧ inV v xs = ds.any fun y => Pu.deq y x
  | _, _, .nil, _ => ⟨rfl, rfl⟩
  | _, _, .cons h r, q => by
    have z := in_of dx fx r fun d hd => q d (List.mem_cons_of_mem _ hd)
    have f1 := q _ List.mem_cons_self
    refine ⟨by rw [List.all_cons, flatV_of h f1, z.1]; rfl, ?_⟩
    unfold inV at z ⊢
    rw [List.any_cons, List.any_cons, z.2, eqV_deq h dx f1 fx]
def inAll (K : PySem.W.Frag) (neg : Bool) : R2 := fun x y H Q => (∃ (c : Nat) (z : Str), x = .str ⟨#[c]⟩ ∧ y = .str z ∧ Q (.bl (if neg then !decide (c ∈ z.cps.toList) else decide (c ∈ z.cps.toList))) H) ∨ rIn K neg x y H Q
theorem od_in (neg : Bool) : OpD X T (inAll X.K neg) (Pu.oInN neg) := by
  intro al r m s G H v w x y d Q R dx dy e k
  unfold Pu.oInN at e
  obtain ⟨b, hb, e⟩ := Option.map_eq_some_iff.mp e
  subst e
  unfold Pu.oIn at hb
  split at hb
  · rename_i c z
    cases hb
    obtain ⟨e1, k1⟩ := dx.str_of
    obtain ⟨e2, k2⟩ := dy.str_of
    subst e1 e2
    refine .inl ⟨c, mkS z, rfl, rfl, ?_⟩
    simp only [mkS_cps]
    exact fin_ R k (.bl _)
  · simp only [Option.ite_none_right_eq_some, Bool.and_eq_true, List.all_eq_true, Option.some.injEq] at hb
    obtain ⟨⟨h1, h2⟩, e⟩ := hb
    obtain ⟨p, xs, rfl, h3, _, h4⟩ := dy.lst_of
    obtain ⟨f1, f2⟩ := in_of dx h1 h4 h2
    refine .inr ⟨p, xs, rfl, .inl (SqL.of (R.same _ _ h3)), flatV_of dx h1, f1, ?_⟩
    rw [f2, e]
    exact fin_ R k (.bl _)
  · simp only [Option.ite_none_right_eq_some, Bool.and_eq_true, List.all_eq_true, Option.some.injEq] at hb
    obtain ⟨⟨h1, h2⟩, e⟩ := hb
    obtain ⟨p, xs, rfl, h3, _, h4⟩ := dy.tup_of
    obtain ⟨f1, f2⟩ := in_of dx h1 h4 h2
    refine .inr ⟨p, xs, rfl, .inr (SqT.of (R.same _ _ h3)), flatV_of dx h1, f1, ?_⟩
    rw [f2, e]
    exact fin_ R k (.bl _)
  · cases hb
theorem op_inAll : OpR X (compareOp .In) (inAll X.K false) := by
  have h := (op_in_sign (X := X)).or op_in_seq
  exact fun pins s σ H x y v u Q I rx ry q => h pins s σ H x y v u Q I rx ry (q.elim (fun ⟨c, z, a, b, w⟩ => .inl ⟨c, z, a, b, w⟩) .inr)
theorem op_notInAll : OpR X (compareOp .NotIn) (inAll X.K true) := by
  have h := (op_notIn_sign (X := X)).or op_notIn_seq
  exact fun pins s σ H x y v u Q I rx ry q => h pins s σ H x y v u Q I rx ry (q.elim (fun ⟨c, z, a, b, w⟩ => .inl ⟨c, z, a, b, w⟩) .inr)
theorem se_in (ha : SE X T E a ca) (hb : SE X T E b cb) (hm : behindInMarks .In b = false := by rfl) : SE X T E (.Compare a [.In] [b] pos) (Pu.c2 (Pu.oInN false) ca cb) := se_cmp op_inAll (od_in false) ha hb hm
theorem st_in (ha : SE X T E a ca) (hb : SE X T E b cb) (hm : behindInMarks .In b = false := by rfl) : ST X T E (.Compare a [.In] [b] pos) (Pu.tB (Pu.c2 (Pu.oInN false) ca cb)) := st_cmp op_inAll (od_in false) ha hb hm
theorem se_notIn (ha : SE X T E a ca) (hb : SE X T E b cb) (hm : behindInMarks .NotIn b = false := by rfl) : SE X T E (.Compare a [.NotIn] [b] pos) (Pu.c2 (Pu.oInN true) ca cb) := se_cmp op_notInAll (od_in true) ha hb hm
theorem st_notIn (ha : SE X T E a ca) (hb : SE X T E b cb) (hm : behindInMarks .NotIn b = false := by rfl) : ST X T E (.Compare a [.NotIn] [b] pos) (Pu.tB (Pu.c2 (Pu.oInN true) ca cb)) := st_cmp op_notInAll (od_in true) ha hb hm
end
end Su

namespace Su
open PySem PySem.Spec PyProof.Rows L2
open Pu (D Sl Rho Rs M Ro Fn Fl Tg LN)
/-- a slot of its own -/
theorem owned_of {A : Type} {i : Nat} {r : Rho} {m : D} {c : M A} {P : Rs A → Prop} (h : P (Pu.owned i c r m)) (hb : ¬ P .bad) : (∃ ds, r[i]? = some (some (.own (.lst ds)))) ∧ P (c r m) := by
  unfold Pu.owned at h
  split at h
  · rename_i ds q; exact ⟨⟨ds, q⟩, h⟩
  · exact absurd h hb
theorem ownedK_of {A : Type} {i : Nat} {r : Rho} {m : D} {c : M A} {P : Rs A → Prop} (h : P (Pu.ownedK i c r m)) (hb : ¬ P .bad) : (∃ ds, r[i]? = some (some (.own (.dic ds)))) ∧ P (c r m) := by
  unfold Pu.ownedK at h
  split at h
  · rename_i ds q; exact ⟨⟨ds, q⟩, h⟩
  · exact absurd h hb
section
variable {X : Cx} {T : Tb} {E : XK} {e a b c : Expr} {es rest : List Expr} {pos : Pos} {ca cb cc : M D} {ta tb : M Bool} {k : Nat} {cs : M (List D)}
theorem isNon_iff {K : PySem.W.Frag} {al : Option Addr} {G : Hp} {v : V} {x : D} (h : Dn K al G v x) : decide (v = .non) = Pu.isNon x := by cases h <;> rfl
theorem od_is : OpD X T (fun x y H Q => y = .non ∧ Q (.bl (decide (x = .non))) H) Pu.oIs := by
  intro al r m s G H v w x y d Q R dx dy e k
  cases y <;> simp only [Pu.oIs, reduceCtorEq, Option.some.injEq] at e
  subst e
  refine ⟨dy.non_of, ?_⟩
  rw [isNon_iff dx]
  exact fin_ R k (.bl _)
theorem od_isNot : OpD X T (fun x y H Q => y = .non ∧ Q (.bl (!decide (x = .non))) H) Pu.oIsNot := by
  intro al r m s G H v w x y d Q R dx dy e k
  cases y <;> simp only [Pu.oIsNot, reduceCtorEq, Option.some.injEq] at e
  subst e
  refine ⟨dy.non_of, ?_⟩
  rw [isNon_iff dx]
  exact fin_ R k (.bl _)
theorem se_is (ha : SE X T E a ca) (hb : SE X T E b cb) : SE X T E (.Compare a [.Is] [b] pos) (Pu.c2 Pu.oIs ca cb) := se_cmp op_isN od_is ha hb (nomark _)
theorem st_is (ha : SE X T E a ca) (hb : SE X T E b cb) : ST X T E (.Compare a [.Is] [b] pos) (Pu.tB (Pu.c2 Pu.oIs ca cb)) := st_cmp op_isN od_is ha hb (nomark _)
theorem se_isNot (ha : SE X T E a ca) (hb : SE X T E b cb) : SE X T E (.Compare a [.IsNot] [b] pos) (Pu.c2 Pu.oIsNot ca cb) := se_cmp op_notN od_isNot ha hb (nomark _)
theorem st_isNot (ha : SE X T E a ca) (hb : SE X T E b cb) : ST X T E (.Compare a [.IsNot] [b] pos) (Pu.tB (Pu.c2 Pu.oIsNot ca cb)) := st_cmp op_notN od_isNot ha hb (nomark _)
/-! ### and, or, not as tests -/
theorem SW.st (h : SW X T E e ta) : ST X T E e ta := by
  obtain ⟨t, h1, h2⟩ := h
  exact ⟨t, h1.pt, h2⟩
theorem sw_and1 (h : ST X T E a ta) : SW X T E (.BoolOp .And [a] pos) ta := by
  obtain ⟨t, h1, h2⟩ := h
  exact ⟨t, pw_and1 h1, h2⟩
theorem sw_or1 (h : ST X T E a ta) : SW X T E (.BoolOp .Or [a] pos) ta := by
  obtain ⟨t, h1, h2⟩ := h
  exact ⟨t, pw_or1 h1, h2⟩
theorem sw_and (ha : ST X T E a ta) (hb : SW X T E (.BoolOp .And (b :: rest) pos) tb) : SW X T E (.BoolOp .And (a :: b :: rest) pos) (Pu.tAnd ta tb) := by
  obtain ⟨t, h1, h2⟩ := ha
  obtain ⟨u, h3, h4⟩ := hb
  refine ⟨_, pw_and h1 h3, fun al r m s G H Q R hP => ?_⟩
  refine h2.thn R hP fun x r1 m1 v G1 H1 S1 R1 d1 P1 => ?_
  obtain rfl : x = v := d1
  cases x with
  | true => exact iteT (h4 al r1 m1 s G1 H1 Q R1 P1)
  | false => exact iteF (P1.ok_ R1 rfl)
theorem sw_or (ha : ST X T E a ta) (hb : SW X T E (.BoolOp .Or (b :: rest) pos) tb) : SW X T E (.BoolOp .Or (a :: b :: rest) pos) (Pu.tOr ta tb) := by
  obtain ⟨t, h1, h2⟩ := ha
  obtain ⟨u, h3, h4⟩ := hb
  refine ⟨_, pw_or h1 h3, fun al r m s G H Q R hP => ?_⟩
  refine h2.thn R hP fun x r1 m1 v G1 H1 S1 R1 d1 P1 => ?_
  obtain rfl : x = v := d1
  cases x with
  | true => exact iteT (P1.ok_ R1 rfl)
  | false => exact iteF (h4 al r1 m1 s G1 H1 Q R1 P1)
theorem st_not (ha : ST X T E a ta) : ST X T E (.UnaryOp .Not a pos) (Pu.tNot ta) := by
  obtain ⟨t, h1, h2⟩ := ha
  refine ⟨_, pt_not h1, fun al r m s G H Q R hP => ?_⟩
  refine h2.thn R hP fun x r1 m1 v G1 H1 S1 R1 d1 P1 => ?_
  obtain rfl : x = v := d1
  exact P1.ok_ R1 rfl
/-! ### .. as values -/
theorem se_one {op} (h : SE X T E a ca) : SE X T E (.BoolOp op [a] pos) ca := by
  obtain ⟨t, h1, h2⟩ := h
  exact ⟨t, pe_one h1, h2⟩
theorem se_and (ha : SE X T E a ca) (hb : SE X T E (.BoolOp .And (b :: rest) pos) cb) : SE X T E (.BoolOp .And (a :: b :: rest) pos) (Pu.cAnd ca cb) := by
  obtain ⟨t, h1, h2⟩ := ha
  obtain ⟨u, h3, h4⟩ := hb
  refine ⟨_, pe_and h1 h3, fun al r m s G H Q R hP => ?_⟩
  have h5 := sd_test h2
  have := h5.thn R hP (Q := fun c H1 => if c = true then u s H1 Q else Q (.bl false) H1) fun x r1 m1 v G1 H1 S1 R1 d1 P1 => ?_
  · exact this
  · obtain rfl : x = v := d1
    cases x with
    | true => exact iteT (h4 al r1 m1 s G1 H1 Q R1 P1)
    | false => exact iteF (P1.ok_ R1 (.bl false))
theorem se_or (ha : SE X T E a ca) (hb : SE X T E (.BoolOp .Or (b :: rest) pos) cb) : SE X T E (.BoolOp .Or (a :: b :: rest) pos) (Pu.cOr ca cb) := by
  obtain ⟨t, h1, h2⟩ := ha
  obtain ⟨u, h3, h4⟩ := hb
  refine ⟨_, pe_or h1 h3, fun al r m s G H Q R hP => ?_⟩
  have h5 := sd_test h2
  have := h5.thn R hP (Q := fun c H1 => if c = true then Q (.bl true) H1 else u s H1 Q) fun x r1 m1 v G1 H1 S1 R1 d1 P1 => ?_
  · exact this
  · obtain rfl : x = v := d1
    cases x with
    | true => exact iteT (P1.ok_ R1 (.bl true))
    | false => exact iteF (h4 al r1 m1 s G1 H1 Q R1 P1)
theorem se_not (ha : SE X T E a ca) : SE X T E (.UnaryOp .Not a pos) (Pu.cNot ca) := by
  obtain ⟨t, h1, h2⟩ := ha
  refine ⟨_, pe_not h1, fun al r m s G H Q R hP => ?_⟩
  have h5 := sd_test h2
  have := h5.thn R hP (Q := fun c H1 => Q (.bl (!c)) H1) fun x r1 m1 v G1 H1 S1 R1 d1 P1 => ?_
  · exact this
  · obtain rfl : x = v := d1
    exact P1.ok_ R1 (.bl _)
theorem se_if (hc : ST X T E c ta) (ha : SE X T E a ca) (hb : SE X T E b cb) : SE X T E (.IfExp c a b pos) (Pu.cIf ta ca cb) := by
  obtain ⟨t, h1, h2⟩ := hc
  obtain ⟨u, h3, h4⟩ := ha
  obtain ⟨w, h5, h6⟩ := hb
  refine ⟨_, pe_ifExp h1 h3 h5, fun al r m s G H Q R hP => ?_⟩
  refine h2.thn R hP fun x r1 m1 v G1 H1 S1 R1 d1 P1 => ?_
  obtain rfl : x = v := d1
  cases x with
  | true => exact iteT (h4 al r1 m1 s G1 H1 Q R1 P1)
  | false => exact iteF (h6 al r1 m1 s G1 H1 Q R1 P1)
theorem se_chain {op op' : CmpOp} {rr rr' : R2} {f g : D → D → Option D} (ho : OpR X (compareOp op) rr) (ho' : OpR X (compareOp op') rr') (hf : OpD X T rr f) (hg : OpD X T rr' g) (ha : SE X T E a ca) (hb : SE X T E b cb) (hc : SE X T E c cc)
    (hm : lastMarks [op, op'] [b, c] = false := by rfl) : SE X T E (.Compare a [op, op'] [b, c] pos) (Pu.cChain f g ca cb cc) := by
  obtain ⟨t, h1, h2⟩ := ha
  obtain ⟨u, h3, h4⟩ := hb
  obtain ⟨w, h5, h6⟩ := hc
  refine ⟨_, pe_chain ho ho' h1 h3 h5 hm, fun al r m s G H Q R hP => ?_⟩
  refine h2.thn R hP fun x r1 m1 v G1 H1 S1 R1 d1 P1 => ?_
  refine h4.thn R1 P1 fun y r2 m2 v2 G2 H2 S2 R2 d2 P2 => ?_
  cases q : f x y with
  | none => simp [Pu.bd, Pu.tB, Pu.opt, q, Po] at P2
  | some d =>
    refine hf al r2 m2 s G2 H2 v v2 x y d _ R2 (d1.mono S2.mono) d2 q fun z G3 H3 S3 R3 d3 => ?_
    cases d with
    | bl kk =>
      refine ⟨kk, d3.bl_of, ?_⟩
      cases kk with
      | false =>
        have P3 : Po X.K T al (vD X.K) r2 s G2 H2 E Q (.ok (.bl false) r2 m2) := by simpa [Pu.bd, Pu.tB, Pu.opt, q, Pu.pu] using P2
        exact iteF (P3 _ _ _ S3 R3 (.bl false))
      | true =>
        have P3 : Po X.K T al (vD X.K) r2 s G2 H2 E Q (Pu.bd cc (fun z => Pu.opt (g y z)) r2 m2) := by simpa [Pu.bd, Pu.tB, Pu.opt, q, Pu.pu] using P2
        refine iteT (h6.thn R3 (Po.from_ S3 P3) fun z r4 m4 v4 G4 H4 S4 R4 d4 P4 => ?_)
        obtain ⟨d, e, P5⟩ := P4.opt_
        exact hg al r4 m4 s G4 H4 v2 v4 y z d Q R4 (d2.mono (S3.mono.trans S4.mono)) d4 e fun z G' H' S R' dz => P5 z G' H' S R' dz
    | _ => simp [Pu.bd, Pu.tB, Pu.opt, q, Po] at P2
/-! ### arguments, displays -/
theorem sa_nil : SA X T E [] Pu.aNil := ⟨_, pa_nil, fun al r m s G H Q R hP => hP [] G H Step.refl R .nil⟩
theorem sa_cons (ha : SE X T E a ca) (hr : SA X T E es cs) (hs : starEach (a :: es) X.env = (false, eval a X.env) :: starEach es X.env := by rfl) : SA X T E (a :: es) (Pu.aCons ca cs) := by
  obtain ⟨t, h1, h2⟩ := ha
  obtain ⟨u, h3, h4⟩ := hr
  refine ⟨_, pa_cons h1 h3 hs, fun al r m s G H Q R hP => ?_⟩
  refine h2.thn R hP fun x r1 m1 v G1 H1 S1 R1 d1 P1 => ?_
  refine h4.thn R1 P1 fun y r2 m2 v2 G2 H2 S2 R2 d2 P2 => ?_
  exact P2.ok_ R2 (.cons (d1.mono S2.mono) d2)
theorem se_tup {x1} (h : SA X T E es cs) : SE X T E (.Tuple es x1 pos) (Pu.cTup cs) := by
  obtain ⟨t, h1, h2⟩ := h
  refine ⟨_, pe_tup h1, fun al r m s G H Q R hP => ?_⟩
  refine h2.thn R hP fun x r1 m1 v G1 H1 S1 R1 d1 P1 => ?_
  obtain ⟨d, e, P2⟩ := P1.opt_
  simp only [Option.ite_none_right_eq_some, Option.some.injEq] at e
  obtain ⟨l, e⟩ := e
  subst e
  exact ⟨by rw [d1.length, ln_eq]; exact l, fun p n => fin_tup R1 (fun z G' H' S R' dz => P2 z G' H' S R' dz) d1 l n⟩
theorem se_lst (h : SA X T E es cs) : SE X T E (.List es pos) (Pu.cLst cs) := by
  obtain ⟨t, h1, h2⟩ := h
  refine ⟨_, pe_lst h1, fun al r m s G H Q R hP => ?_⟩
  refine h2.thn R hP fun x r1 m1 v G1 H1 S1 R1 d1 P1 => ?_
  obtain ⟨d, e, P2⟩ := P1.opt_
  simp only [Option.ite_none_right_eq_some, Option.some.injEq] at e
  obtain ⟨l, e⟩ := e
  subst e
  exact ⟨by rw [d1.length, ln_eq]; exact l, fun p n => fin_lst R1 (fun z G' H' S R' dz => P2 z G' H' S R' dz) d1 l n⟩
/-! ### items, slices -/
theorem at_of_ {A B : Type} {xs : List A} {ys : List B} {i : Int} {y : B} (l : xs.length = ys.length) (h : Pu.atI ys i = some y) : ∃ j : Nat, ys[j]? = some y ∧ ∀ x, xs[j]? = some x → L2.atI xs i = some x := by
  unfold Pu.atI at h
  obtain ⟨j, h1, h2⟩ := Option.bind_eq_some_iff.mp h
  refine ⟨j, h2, fun x hx => ?_⟩
  unfold L2.atI
  have e : L2.ixN xs.length i = some j := by rw [l]; exact h1
  rw [e]
  exact hx
theorem ix_any : IxR X (rIx X.K) := ix_seq
theorem od_idx {al : Option Addr} {r : Rho} {m : D} {s : L2.St} {G H : Hp} {v w : V} {x y d : D} {Q : VK} (R : Rel X.K T al G H r m s) (dx : Dn X.K al G v x) (dy : Dn X.K al G w y) (e : Pu.oIdx x y = some d) (k : ∀ z, Dn X.K al G z d → Q z H) : rIx X.K v w H Q := by
  cases x <;> cases y <;> simp only [Pu.oIdx, reduceCtorEq] at e
  · rename_i z i
    obtain ⟨c, hc, e⟩ := Option.map_eq_some_iff.mp e
    obtain ⟨e1, k1⟩ := dx.str_of
    subst e1
    rw [dy.int_of]
    obtain ⟨j, h1, h2⟩ := at_of_ (xs := (mkS z).cps.toList) (by rw [mkS_cps]) hc
    subst e
    refine .inr (.inr ⟨mkS z, i, c, rfl, rfl, by rw [mkS_len, ln_eq]; exact k1.len, h2 c (by rw [mkS_cps]; exact h1), k _ ?_⟩)
    have hm : c ∈ z := List.mem_of_getElem? h1
    exact .str [c] ⟨by show 1 ≤ LN; decide, fun c' hc' => by rw [List.mem_singleton.mp hc']; exact k1.cps c hm⟩
  · obtain ⟨p, xs, rfl, h1, _, h2⟩ := dx.tup_of
    rw [dy.int_of]
    obtain ⟨j, h3, h4⟩ := at_of_ h2.length e
    obtain ⟨v, h5, h6⟩ := h2.get h3
    exact .inr (.inl ⟨p, xs, _, v, rfl, rfl, SqT.of (R.same _ _ h1), h4 v h5, k v h6⟩)
  · obtain ⟨p, xs, rfl, h1, _, h2⟩ := dx.lst_of
    rw [dy.int_of]
    obtain ⟨j, h3, h4⟩ := at_of_ h2.length e
    obtain ⟨v, h5, h6⟩ := h2.get h3
    exact .inl ⟨p, xs, _, v, rfl, rfl, SqL.of (R.same _ _ h1), h4 v h5, k v h6⟩
  · rename_i ns i
    obtain ⟨n, hn, e⟩ := Option.map_eq_some_iff.mp e
    subst e
    obtain ⟨p, rfl, h1, _⟩ := dx.scr_of
    rw [dy.int_of]
    obtain ⟨j, h3, h4⟩ := at_of_ (xs := ns.map V.int) (by rw [List.length_map]) hn
    exact .inl ⟨p, _, _, .int n, rfl, rfl, R.same.seq h1, h4 _ (by rw [List.getElem?_map, h3]; rfl), k _ (.int n)⟩
/-- an item of a changing list -/
theorem od_idxO {al : Option Addr} {G H : Hp} {p : Addr} {w : V} {x y d : D} {Q : VK} (ob : Ob X.K al G H p x) (dy : Dn X.K al G w y) (e : Pu.oIdx x y = some d) (k : ∀ z, Dn X.K al G z d → Q z H) : rIx X.K (.ref p) w H Q := by
  obtain ⟨_, ob⟩ := ob
  cases x <;> cases y <;> simp only [Pu.oIdx, reduceCtorEq] at e
  · exact ob.elim
  · exact ob.elim
  · obtain ⟨xs, h1, _, h2⟩ := ob
    rw [dy.int_of]
    obtain ⟨j, h3, h4⟩ := at_of_ h2.length e
    obtain ⟨v, h5, h6⟩ := h2.get h3
    exact .inl ⟨p, xs, _, v, rfl, rfl, SqL.of h1, h4 v h5, k v h6⟩
  · exact ob.elim
theorem se_idx (ha : SE X T E a ca) (hb : SE X T E b cb) (hs : PlainIx b := by exact fun _ _ => rfl) : SE X T E (.Subscript a b pos) (Pu.cIdx ca cb) := by
  obtain ⟨t, h1, h2⟩ := ha
  obtain ⟨u, h3, h4⟩ := hb
  refine ⟨_, pe_ix ix_any h1 h3 hs, fun al r m s G H Q R hP => ?_⟩
  refine h2.thn R hP fun x r1 m1 v G1 H1 S1 R1 d1 P1 => ?_
  refine h4.thn R1 P1 fun y r2 m2 w G2 H2 S2 R2 d2 P2 => ?_
  have d1' := d1.mono S2.mono
  have go : ∀ x', (∀ (d : D), Pu.oIdx x' y = some d → (∀ z, Dn X.K al G2 z d → Q z H2) → rIx X.K v w H2 Q) → Po X.K T al (vD X.K) r2 s G2 H2 E Q (Pu.opt (Pu.oIdx x' y) r2 m2) → rIx X.K v w H2 Q := fun x' h P => by
    obtain ⟨d, e, P3⟩ := P.opt_
    exact h d e fun z dz => P3.ok_ R2 dz
  cases x with
  | amb =>
    obtain ⟨p, rfl, ha⟩ := d1'.amb_of
    exact go m2 (fun d e k => od_idxO (R2.amb p ha) d2 e k) P2
  | _ => exact go _ (fun d e k => od_idx R2 d1' d2 e k) P2
/-- x[b], x the own list of slot i -/
theorem se_oidx (i : Nat) {x : Str} {p1 : Pos} (hb : SE X T E b cb) (hs : PlainIx b := by exact fun _ _ => rfl) (hN : X.N[i]? = some x := by rfl) (hv : Vis X.env.scope x := by first | exact Or.inl rfl | exact Or.inr (Or.inl rfl) | exact Or.inr (Or.inr rfl)) (hd : (x == ("__debug__" : Str)) = false := by decide)
    (hcd : (x == ("__classdict__" : Str)) = false := by decide) : SE X T E (.Subscript (.Name x p1) b pos) (Pu.cOIdx i cb) := by
  obtain ⟨u, h3, h4⟩ := hb
  refine ⟨_, pe_ix ix_any (pe_var hN hv hd hcd) h3 hs, fun al r m s G H Q R hP => ?_⟩
  obtain ⟨⟨d0, q0⟩, hP⟩ := owned_of hP (fun z => z)
  obtain ⟨p, hp, _⟩ := R.owns i _ q0
  refine ⟨_, hp, ?_⟩
  refine h4.thn R hP fun y r2 m2 w G2 H2 S2 R2 d2 P2 => ?_
  cases q : r2[i]? with
  | none => rw [q] at P2; exact P2.elim
  | some o =>
    rw [q] at P2
    cases o with
    | none => exact P2.elim
    | some w' =>
      cases w' with
      | v d => exact P2.elim
      | own d =>
        obtain ⟨p', hp', ob⟩ := R2.owns i d q
        rw [hp] at hp'
        cases hp'
        obtain ⟨d', e, P3⟩ := P2.opt_
        exact od_idxO ob d2 e fun z dz => P3.ok_ R2 dz
end
end Su

namespace Su
open PySem PySem.Spec PyProof.Rows L2
open Pu (D Sl Rho Rs M Ro Fn Fl Tg LN)
section
variable {X : Cx} {T : Tb} {E : XK} {e a b c : Expr} {es rest : List Expr} {pos : Pos} {ca cb cc : M D} {ta tb : M Bool} {k : Nat} {cs : M (List D)}
theorem st_chain {op op' : CmpOp} {rr rr' : R2} {f g : D → D → Option D} (ho : OpR X (compareOp op) rr) (ho' : OpR X (compareOp op') rr') (hf : OpD X T rr f) (hg : OpD X T rr' g) (ha : SE X T E a ca) (hb : SE X T E b cb) (hc : SE X T E c cc)
    (hm : lastMarks [op, op'] [b, c] = false := by with_unfolding_all rfl) : ST X T E (.Compare a [op, op'] [b, c] pos) (Pu.tB (Pu.cChain f g ca cb cc)) := by
  obtain ⟨t, h1, h2⟩ := ha
  obtain ⟨u, h3, h4⟩ := hb
  obtain ⟨w, h5, h6⟩ := hc
  refine ⟨_, pt_chain ho ho' h1 h3 h5 hm, sd_test ?_⟩
  intro al r m s G H Q R hP
  refine h2.thn R hP fun x r1 m1 v G1 H1 S1 R1 d1 P1 => ?_
  refine h4.thn R1 P1 fun y r2 m2 v2 G2 H2 S2 R2 d2 P2 => ?_
  cases q : f x y with
  | none => simp [Pu.bd, Pu.tB, Pu.opt, q, Po] at P2
  | some d =>
    refine hf al r2 m2 s G2 H2 v v2 x y d _ R2 (d1.mono S2.mono) d2 q fun z G3 H3 S3 R3 d3 => ?_
    cases d with
    | bl kk =>
      refine ⟨kk, d3.bl_of, ?_⟩
      cases kk with
      | false =>
        have P3 : Po X.K T al (vD X.K) r2 s G2 H2 E Q (.ok (.bl false) r2 m2) := by simpa [Pu.bd, Pu.tB, Pu.opt, q, Pu.pu] using P2
        exact iteF (P3 _ _ _ S3 R3 (.bl false))
      | true =>
        have P3 : Po X.K T al (vD X.K) r2 s G2 H2 E Q (Pu.bd cc (fun z => Pu.opt (g y z)) r2 m2) := by simpa [Pu.bd, Pu.tB, Pu.opt, q, Pu.pu] using P2
        refine iteT (h6.thn R3 (Po.from_ S3 P3) fun z r4 m4 v4 G4 H4 S4 R4 d4 P4 => ?_)
        obtain ⟨d, e, P5⟩ := P4.opt_
        exact hg al r4 m4 s G4 H4 v2 v4 y z d Q R4 (d2.mono (S3.mono.trans S4.mono)) d4 e fun z G' H' S R' dz => P5 z G' H' S R' dz
    | _ => simp [Pu.bd, Pu.tB, Pu.opt, q, Po] at P2
/-! ### slices -/
theorem sp_none : SP_ X T E none (Pu.part none) := ⟨_, po_none, fun al r m s G H Q R hP => hP.ok_ R rfl⟩
theorem sp_some (h : SE X T E e ca) : SP_ X T E (some e) (Pu.part (some ca)) := by
  obtain ⟨t, h1, h2⟩ := h
  refine ⟨_, po_some h1, fun al r m s G H Q R hP => ?_⟩
  refine h2.thn R hP fun x r1 m1 v G1 H1 S1 R1 d1 P1 => ?_
  cases x with
  | int i => exact ⟨i, d1.int_of, P1.ok_ R1 rfl⟩
  | _ => exact P1.elim
theorem sIx_eq (n d : Nat) (o : Option Int) : HT.sIx n d o = Pu.sIx n d o := by cases o <;> rfl
theorem DnL.cut {K : PySem.W.Frag} {al : Option Addr} {G : Hp} {xs : List V} {ds : List D} (h : DnL K al G xs ds) (lo hi : Option Int) : DnL K al G (cutV xs lo hi) (Pu.cut ds lo hi) := by
  unfold cutV Pu.cut
  rw [h.length]
  simp only [sIx_eq]
  exact (h.drop _).take _
theorem cut_len {A : Type} (xs : List A) (lo hi : Option Int) : (Pu.cut xs lo hi).length ≤ xs.length := by
  unfold Pu.cut
  rw [List.length_take, List.length_drop]
  omega
theorem cut_mem {A : Type} {xs : List A} {lo hi : Option Int} {x : A} (h : x ∈ Pu.cut xs lo hi) : x ∈ xs := List.mem_of_mem_drop (List.mem_of_mem_take h)
theorem cutS_eq (z : List Nat) (lo hi : Option Int) : cutS (mkS z) lo hi = mkS (Pu.cut z lo hi) := by
  unfold cutS Pu.cut
  rw [mkS_cps, mkS_len]
  simp only [sIx_eq]
  rfl
theorem sl_all : SlR X (fun x lo hi H Q => rSlS x lo hi H Q ∨ rSlL X.K x lo hi H Q ∨ rSlA X.K x lo hi H Q) := sl_str.or (sl_list.or sl_tupA)
theorem se_cut {lo hi : Option Expr} {p2 : Pos} {cl ch : Option (M D)} (ha : SE X T E a ca) (hl : SP_ X T E lo (Pu.part cl)) (hh : SP_ X T E hi (Pu.part ch)) : SE X T E (.Subscript a (.Slice lo hi none p2) pos) (Pu.cCut ca cl ch) := by
  obtain ⟨t, h1, h2⟩ := ha
  obtain ⟨u, h3, h4⟩ := hl
  obtain ⟨w, h5, h6⟩ := hh
  refine ⟨_, pe_slice sl_all h1 h3 h5, fun al r m s G H Q R hP => ?_⟩
  refine h2.thn R hP fun x r1 m1 v G1 H1 S1 R1 d1 P1 => ?_
  refine h4.thn R1 P1 fun y r2 m2 l G2 H2 S2 R2 d2 P2 => ?_
  refine h6.thn R2 P2 fun z r3 m3 h G3 H3 S3 R3 d3 P3 => ?_
  obtain rfl : y = l := d2
  obtain rfl : z = h := d3
  obtain ⟨d, e, P4⟩ := P3.opt_
  have dx := d1.mono (S2.mono.trans S3.mono)
  cases x <;> simp only [Pu.oCut, reduceCtorEq, Option.some.injEq] at e
  · subst e
    obtain ⟨e1, k1⟩ := dx.str_of
    subst e1
    refine .inl ⟨_, rfl, by rw [mkS_len, ln_eq]; exact k1.len, ?_⟩
    rw [cutS_eq]
    exact P4.ok_ R3 (.str _ (k1.sub (cut_len _ _ _) fun c hc => cut_mem hc))
  · rename_i ds
    subst e
    obtain ⟨p, xs, rfl, g1, g2, g3⟩ := dx.tup_of
    have g4 := g3.cut y z
    refine .inr (.inr ⟨p, xs, rfl, SqT.of (R3.same _ _ g1), fun e => ?_, fun _ p n => fin_tup R3 (fun z G' H' S R' dz => P4 z G' H' S R' dz) g4 (Nat.le_trans (cut_len _ _ _) g2) n⟩)
    have ez : Pu.cut ds y z = ds := by
      rw [g3.length, sIx_eq, sIx_eq] at e
      unfold Pu.cut
      rw [e.1, e.2]
      simp
    rw [ez] at P4
    exact P4.ok_ R3 dx
  · subst e
    obtain ⟨p, xs, rfl, g1, g2, g3⟩ := dx.lst_of
    exact .inr (.inl ⟨p, xs, rfl, SqL.of (R3.same _ _ g1), fun p n => fin_lst R3 (fun z G' H' S R' dz => P4 z G' H' S R' dz) (g3.cut _ _) (Nat.le_trans (cut_len _ _ _) g2) n⟩)
end
/-! ### defs -/
def PoF (K : PySem.W.Frag) (al : Option Addr) (G H : Hp) (E : XK) (Q : VK) : Ro → Prop
  | .ok d m' => ∀ v G' H', Step [] al noOw G H noOw G' H' → Same G' H' → AmbOk K al G' H' m' → Dn K al G' v d → Q v H'
  | .exc c m' => ∀ G' H', Step [] al noOw G H noOw G' H' → Same G' H' → AmbOk K al G' H' m' → E (.ref (cad K c)) none H'
  | .bad => False
/-- a def that computes f -/
def spF (K : PySem.W.Frag) (n : Nat) (f : Fn) : Sp := fun vs H Q E => vs.length = n ∧ ∃ (al : Option Addr) (G : Hp) (ds : List D) (m : D), Same G H ∧ DnL K al G vs ds ∧ AmbOk K al G H m ∧ PoF K al G H E Q (f ds m)
/-- the module's name x holds a def that computes f, by level j -/
structure FnS (P : Program) (w : World) (K : PySem.W.Frag) (mg : Str → Option Value) (base : Heap) (j : Nat) (x : Str) (n : Nat) (f : Fn) : Prop where
  ex : ∃ (fa : Addr) (fd : FuncData) (ps : List Str), FnOk P w K mg base (L2N.CX P w) j fa fd ps (spF K n f) ∧ mg x = some (.ref fa) ∧ PySem.W.keepIn K (.ref fa) = true ∧ Binds K fd ps []
  ar : ∀ ds m, ds.length ≠ n → f ds m = .bad
theorem FnS.mono {P : Program} {w : World} {K : PySem.W.Frag} {mg : Str → Option Value} {base : Heap} {j k : Nat} {x : Str} {n : Nat} {f : Fn} (F : FnS P w K mg base j x n f) (h : j ≤ k) : FnS P w K mg base k x n f := by
  obtain ⟨⟨fa, fd, ps, h1, h2⟩, ar⟩ := F
  exact ⟨⟨fa, fd, ps, h1.mono h, h2⟩, ar⟩
/-- another function with the same values -/
theorem FnS.congr {P : Program} {w : World} {K : PySem.W.Frag} {mg : Str → Option Value} {base : Heap} {j : Nat} {x : Str} {n : Nat} {f g : Fn} (F : FnS P w K mg base j x n f) (h : ∀ ds m, g ds m ≠ .bad → f ds m = g ds m) (ar : ∀ ds m, ds.length ≠ n → g ds m = .bad) : FnS P w K mg base j x n g := by
  obtain ⟨⟨fa, fd, ps, h1, h2⟩, _⟩ := F
  refine ⟨⟨fa, fd, ps, h1.imp fun vs H Q E ⟨l, al, G, ds, m, s, d, a, p⟩ => ⟨l, al, G, ds, m, s, d, a, ?_⟩, h2⟩, ar⟩
  by_cases e : g ds m = .bad
  · rw [e] at p; exact p.elim
  · rw [h ds m e]; exact p
section
variable {X : Cx} {T : Tb} {E : XK} {e a b c : Expr} {es rest : List Expr} {p pos : Pos} {k j n : Nat} {cs : M (List D)} {x : Str} {f : Fn}
theorem fin_call {al : Option Addr} {r : Rho} {m : D} {s : L2.St} {G H : Hp} {vs : List V} {ds : List D} {Q : VK} (ar : ∀ ds m, ds.length ≠ n → f ds m = .bad) (R : Rel X.K T al G H r m s) (dv : DnL X.K al G vs ds) (P : Po X.K T al (vD X.K) r s G H E Q (Pu.ap f ds r m)) : spF X.K n f vs H Q E := by
  unfold Pu.ap at P
  have ln : vs.length = n := by
    rw [dv.length]
    by_cases q : ds.length = n
    · exact q
    · rw [ar ds m q] at P; exact P.elim
  refine ⟨ln, al, G, ds, m, R.same, dv, R.amb, ?_⟩
  cases q : f ds m with
  | ok d m' =>
    rw [q] at P
    exact fun v G' H' S s2 am dn => P v G' H' (Step.call R S) (R.call S s2 am) dn
  | exc c m' =>
    rw [q] at P
    exact fun G' H' S s2 am => P G' H' ((Step.call R S).sub fun _ z => z.elim) s2 am
  | bad => rw [q] at P; exact P.elim
theorem se_call (C : Cn k X E) (F : FnS X.prog X.w X.K X.mg X.base j x n f) (hj : j ≤ k) (ha : SA X T E (a :: es) cs) (hg : Gl X x := by rfl) (hdb : (x == ("__debug__" : Str)) = false := by decide) (he : starEach (a :: es) X.env = (false, eval a X.env) :: starEach es X.env := by rfl)
    (hpl : (backTo pos (starEach es X.env)).any (·.1) = false := by rfl) : SE X T E (.Call (.Name x p) (a :: es) [] pos) (Pu.cCall f cs) := by
  obtain ⟨t, h1, h2⟩ := ha
  obtain ⟨⟨fa, fd, ps, fo, hm, hk, hb⟩, ar⟩ := F
  refine ⟨_, pe_call fo (C.room.mono hj) hg hm hk hb .nil C.pass h1 hdb he hpl, fun al r m s G H Q R hP => ?_⟩
  refine h2.thn R hP fun ds r1 m1 vs G1 H1 S1 R1 d1 P1 => ?_
  rw [List.append_nil]
  exact fin_call ar R1 d1 P1
end
section
variable {P : Program} {w : World} {K : PySem.W.Frag} {mg : Str → Option Value} {base : Heap}
theorem cn_of {N : List Str} {qual : Str} {scope : Scope} {f : Addr} {cd : Value} {A : Around} {outer : List Env} {s : Shared} {H : Hp} {E : XK} {k : Nat} (nd : N.Nodup) (hr : Room k (A.deeper (envOfC qual scope s.heap.objs.size f cd))) :
    Cn k (cxOf (L2N.CX P w) P w K mg base N qual scope f cd A outer s H E) E :=
  have tk : L2N.Takes (cxOf (L2N.CX P w) P w K mg base N qual scope f cd A outer s H E) (fun cls d _ H => E cls d H) := L2N.takes_of rfl rfl rfl rfl
  ⟨rfl, nd, L2N.passes_call tk fun _ _ _ _ h => h, passes_of rfl, tk, hr⟩
theorem start_get {N : Nat} {ds : List D} {i : Nat} {w : Sl} (h : (Pu.start N ds)[i]? = some (some w)) : ∃ d, ds[i]? = some d ∧ w = .v d := by
  unfold Pu.start at h
  by_cases hi : i < ds.length
  · rw [List.getElem?_append_left (by simpa using hi), List.getElem?_map] at h
    cases e : ds[i]? with
    | none => rw [e] at h; cases h
    | some d => rw [e] at h; cases h; exact ⟨d, rfl, rfl⟩
  · rw [List.getElem?_append_right (by simpa using hi), List.getElem?_replicate] at h
    split at h <;> cases h
theorem rel_start {al : Option Addr} {G H : Hp} {N : List Str} {vs : List V} {ds : List D} {m : D} (s : Same G H) (d : DnL K al G vs ds) (a : AmbOk K al G H m) : Rel K [] al G H (Pu.start N.length ds) m (L2.start N vs) where
  same := s
  len := by
    unfold Pu.start L2.start
    simp [d.length]
  vals := fun i e h => by
    obtain ⟨e', h1, h2⟩ := start_get h
    cases h2
    obtain ⟨v, h3, h4⟩ := d.get h1
    refine ⟨v, ?_, h4⟩
    unfold L2.start
    rw [List.getElem?_append_left (by rw [List.length_map]; exact (List.getElem?_eq_some_iff.mp h3).1), List.getElem?_map, h3]
    rfl
  owns := fun i e h => by
    obtain ⟨e', h1, h2⟩ := start_get h
    cases h2
  dis := fun i j e f p h => by
    obtain ⟨e', h1, h2⟩ := start_get h
    cases h2
  amb := a
  nal := fun b _ ⟨i, e, h, _⟩ => by
    obtain ⟨e', h1, h2⟩ := start_get h
    cases h2
  tabs := fun _ h => nomatch h
  tfree := fun _ h => nomatch h
theorem step_start {al : Option Addr} {G H G' H' : Hp} {N : List Str} {vs : List V} {ds : List D} {O : Addr → Prop} (S : Step [] al (Ow (Pu.start N.length ds) (L2.start N vs)) G H O G' H') : Step [] al noOw G H noOw G' H' :=
  ⟨S.mono, fun a o e _ n t => S.keep a o e (fun ⟨i, e, h, _⟩ => by
    obtain ⟨e', h1, h2⟩ := start_get h
    cases h2) n t, fun _ z => z.elim, S.dom⟩
/-- the head's word about a def -/
abbrev Fd (K : PySem.W.Frag) (x : Str) (st : Stmt) (f : Addr) (fd : FuncData) : Prop := FunD K x x (defArgs st) (defBody st) (defScope st) [] [] f fd
theorem fn_ok {x : Str} {st : Stmt} {fa : Addr} {fd : FuncData} {N ps : List Str} {k n nn : Nat} {cbody : M Fl} (F : Fd K x st fa fd) (S : FnScope N ps (defScope st)) (hn : ps.length = n) (hN : N.length = nn)
    (body : ∀ (cdv : Value) (A : Around) (outer : List Env) (s : Shared) (H : Hp) (E : XK), Cn k (cxOf (L2N.CX P w) P w K mg base N x (defScope st) fa cdv A outer s H E) E → SB (cxOf (L2N.CX P w) P w K mg base N x (defScope st) fa cdv A outer s H E) [] E (defBody st) cbody) :
    FnOk P w K mg base (L2N.CX P w) (k + 1) fa fd ps (spF K n (Pu.fn n nn cbody)) := by
  subst hn hN
  obtain ⟨oc, od, dV, kV, doc, pm, an, cdv, ct, osl, rfl, lk, hcd, _, _⟩ := F.ex
  refine fn_of lk hcd S (fun vs H Q E h => h.1) fun A outer s H vs Q E hr h => ?_
  obtain ⟨l, al, G, ds, m, sm, dv, am, p⟩ := h
  obtain ⟨t, h1, h2⟩ := body cdv A outer s H E (cn_of S.nd hr)
  refine ⟨t, h1, h2 al (Pu.start N.length ds) m (L2.start N vs) G H _ (rel_start sm dv am) ?_⟩
  unfold Pu.fn at p
  rw [if_pos (by rw [← dv.length]; exact l)] at p
  cases q : cbody (Pu.start N.length ds) m with
  | ok fl r' m' =>
    rw [q] at p
    cases fl with
    | nx => exact fun s' G' H' S R => p _ G' H' (step_start S) R.same R.amb .non
    | rt d => exact fun v G' H' S s2 a dn => p v G' H' (step_start S) s2 a dn
  | exc c m' =>
    rw [q] at p
    exact fun G' H' S s2 a => p G' H' (step_start S) s2 a
  | bad => rw [q] at p; exact p.elim
theorem fn_ar {k n : Nat} {body : M Fl} (ds : List D) (m : D) (h : ds.length ≠ k) : Pu.fn k n body ds m = .bad := by
  unfold Pu.fn
  rw [if_neg h]
theorem fns_of {x : Str} {st : Stmt} {fa : Addr} {fd : FuncData} {N ps : List Str} {k n nn : Nat} {cbody : M Fl} (F : Fd K x st fa fd) (hm : mg x = some (.ref fa)) (hb : Binds K fd ps []) (S : FnScope N ps (defScope st)) (hn : ps.length = n) (hN : N.length = nn)
    (body : ∀ (cdv : Value) (A : Around) (outer : List Env) (s : Shared) (H : Hp) (E : XK), Cn k (cxOf (L2N.CX P w) P w K mg base N x (defScope st) fa cdv A outer s H E) E → SB (cxOf (L2N.CX P w) P w K mg base N x (defScope st) fa cdv A outer s H E) [] E (defBody st) cbody) :
    FnS P w K mg base (k + 1) x n (Pu.fn n nn cbody) := ⟨⟨fa, fd, ps, fn_ok F S hn hN body, hm, F.kp, hb⟩, fun ds m h => fn_ar ds m h⟩
end
end Su

namespace Su
open PySem PySem.Spec PyProof.Rows L2
open Pu (D Sl Rho Rs M Ro Fn Fl Tg LN)
section
variable {K : PySem.W.Frag} {T : Tb} {al : Option Addr} {G H : Hp} {r : Rho} {m : D} {s : L2.St} {i : Nat} {d : D} {v : V}
theorem ow_set {q : Sl} {w : Option V} {a : Addr} (h : Ow (r.set i (some q)) (s.set i w) a) (hi : i < r.length) (l : r.length = s.length) : (∃ d, q = .own d ∧ w = some (.ref a)) ∨ Ow r s a := by
  obtain ⟨j, e, h1, h2⟩ := h
  by_cases hj : i = j
  · subst hj
    rw [List.getElem?_set_self hi] at h1
    rw [List.getElem?_set_self (by omega)] at h2
    cases h1
    exact .inl ⟨e, rfl, Option.some.inj h2⟩
  · rw [List.getElem?_set_ne hj] at h1 h2
    exact .inr ⟨j, e, h1, h2⟩
/-- a slot gets a value -/
theorem Rel.setV (R : Rel K T al G H r m s) (hi : i < r.length) (dv : Dn K al G v d) : Rel K T al G H (r.set i (some (.v d))) m (s.set i (some v)) := by
  have hs := R.slot hi
  have sub : ∀ a, Ow (r.set i (some (.v d))) (s.set i (some v)) a → Ow r s a := fun a h => by
    rcases ow_set h hi R.len with ⟨_, q, _⟩ | q
    · cases q
    · exact q
  refine ⟨R.same, by rw [List.length_set, List.length_set]; exact R.len, fun j e h => ?_, fun j e h => ?_, fun j l e f p h1 h2 h3 h4 => ?_, R.amb, fun a z w => R.nal a z (sub a w), R.tabs, R.tfree⟩
  · by_cases hj : i = j
    · subst hj
      rw [List.getElem?_set_self hi] at h
      cases h
      exact ⟨v, List.getElem?_set_self hs, dv⟩
    · rw [List.getElem?_set_ne hj] at h
      obtain ⟨v', h1, h2⟩ := R.vals j e h
      exact ⟨v', by rw [List.getElem?_set_ne hj]; exact h1, h2⟩
  · by_cases hj : i = j
    · subst hj
      rw [List.getElem?_set_self hi] at h
      cases h
    · rw [List.getElem?_set_ne hj] at h
      obtain ⟨v', h1, h2⟩ := R.owns j e h
      exact ⟨v', by rw [List.getElem?_set_ne hj]; exact h1, h2⟩
  · by_cases hj : i = j
    · subst hj
      rw [List.getElem?_set_self hi] at h1
      cases h1
    · by_cases hl : i = l
      · subst hl
        rw [List.getElem?_set_self hi] at h2
        cases h2
      · rw [List.getElem?_set_ne hj] at h1 h3
        rw [List.getElem?_set_ne hl] at h2 h4
        exact R.dis j l e f p h1 h2 h3 h4
theorem step_setV (R : Rel K T al G H r m s) (hi : i < r.length) : Step T al (Ow r s) G H (Ow (r.set i (some (.v d))) (s.set i (some v))) G H :=
  Step.refl.sub fun a h => by
    rcases ow_set h hi R.len with ⟨_, q, _⟩ | q
    · cases q
    · exact q
/-- a slot gets a list or dict of its own -/
theorem Rel.setO {p : Addr} (R : Rel K T al G H r m s) (hi : i < r.length) (ob : Ob K al G H p d) (no : ¬ Ow r s p) (na : al ≠ some p) : Rel K T al G H (r.set i (some (.own d))) m (s.set i (some (.ref p))) := by
  have hs := R.slot hi
  refine ⟨R.same, by rw [List.length_set, List.length_set]; exact R.len, fun j e h => ?_, fun j e h => ?_, fun j l e f q h1 h2 h3 h4 => ?_, R.amb, fun a z w => ?_, R.tabs, R.tfree⟩
  · by_cases hj : i = j
    · subst hj
      rw [List.getElem?_set_self hi] at h
      cases h
    · rw [List.getElem?_set_ne hj] at h
      obtain ⟨v', h1, h2⟩ := R.vals j e h
      exact ⟨v', by rw [List.getElem?_set_ne hj]; exact h1, h2⟩
  · by_cases hj : i = j
    · subst hj
      rw [List.getElem?_set_self hi] at h
      cases h
      exact ⟨p, List.getElem?_set_self hs, ob⟩
    · rw [List.getElem?_set_ne hj] at h
      obtain ⟨v', h1, h2⟩ := R.owns j e h
      exact ⟨v', by rw [List.getElem?_set_ne hj]; exact h1, h2⟩
  · by_cases hj : i = j
    · by_cases hl : i = l
      · exact hj.symm.trans hl
      · subst hj
        rw [List.getElem?_set_self hs] at h3
        cases h3
        rw [List.getElem?_set_ne hl] at h2 h4
        exact absurd ⟨l, f, h2, h4⟩ no
    · by_cases hl : i = l
      · subst hl
        rw [List.getElem?_set_self hs] at h4
        cases h4
        rw [List.getElem?_set_ne hj] at h1 h3
        exact absurd ⟨j, e, h1, h3⟩ no
      · rw [List.getElem?_set_ne hj] at h1 h3
        rw [List.getElem?_set_ne hl] at h2 h4
        exact R.dis j l e f q h1 h2 h3 h4
  · rcases ow_set w hi R.len with ⟨_, _, q⟩ | q
    · cases q
      exact na z
    · exact R.nal a z q
end
section
variable {X : Cx} {T : Tb} {E : XK} {e a b c : Expr} {es rest : List Expr} {p pos pos' : Pos} {k j n i : Nat} {ca cb : M D} {ta : M Bool} {cs : M (List D)} {x : Str} {st st' : Stmt} {sts sts' : List Stmt} {sa sb : M Fl}
/-! ### blocks -/
theorem sb_nil : SB X T E [] Pu.sNop := ⟨_, pss_nil, fun al r m s G H Z R hP => hP s G H Step.refl R⟩
theorem sb_one (h : SS X T E st sa) : SB X T E [st] sa := by
  obtain ⟨t, h1, h2⟩ := h
  exact ⟨t, pss_one h1, h2⟩
theorem sb_cons (h : SS X T E st sa) (hr : SB X T E sts sb) : SB X T E (st :: sts) (Pu.sSeq sa sb) := by
  obtain ⟨t, h1, h2⟩ := h
  obtain ⟨u, h3, h4⟩ := hr
  refine ⟨_, pss_cons h1 h3, fun al r m s G H Z R hP => ?_⟩
  refine h2 al r m s G H _ R ?_
  unfold Pu.sSeq Pu.bd at hP
  cases q : sa r m with
  | ok f r1 m1 =>
    rw [q] at hP
    cases f with
    | nx => exact fun s' G' H' S' R' => h4 al r1 m1 s' G' H' Z R' (PoS.from_ S' hP)
    | rt d => exact hP
  | exc c m' => rw [q] at hP; exact hP
  | bad => rw [q] at hP; exact hP
theorem ss_pass : SS X T E (.Pass pos) Pu.sNop := ⟨_, ps_pass, fun al r m s G H Z R hP => hP s G H Step.refl R⟩
theorem ss_ret (h : SE X T E e ca) : SS X T E (.Return (some e) pos) (Pu.sRet ca) := by
  obtain ⟨t, h1, h2⟩ := h
  refine ⟨_, ps_ret h1, fun al r m s G H Z R hP => ?_⟩
  exact h2.thnS R hP fun x r1 m1 v G1 H1 S1 R1 d1 P1 => P1 v G1 H1 (Step.refl.sub fun _ z => z.elim) R1.same R1.amb d1
theorem ss_do (h : SE X T E e ca) (hs : swapsWith e none pos.line X.env = pure false := by rfl) : SS X T E (.Expr e pos) (Pu.sDo ca) := by
  obtain ⟨t, h1, h2⟩ := h
  refine ⟨_, ps_expr h1 hs, fun al r m s G H Z R hP => ?_⟩
  exact h2.thnS R hP fun x r1 m1 v G1 H1 S1 R1 d1 P1 => P1 s G1 H1 Step.refl R1
theorem ss_if {th el : List Stmt} (hc : ST X T E c ta) (ha : SB X T E th sa) (hb : SB X T E el sb) : SS X T E (.If c th el pos) (Pu.sIf ta sa sb) := by
  obtain ⟨t, h1, h2⟩ := hc
  obtain ⟨u, h3, h4⟩ := ha
  obtain ⟨w, h5, h6⟩ := hb
  refine ⟨_, ps_if h1 h3 h5, fun al r m s G H Z R hP => ?_⟩
  refine h2.thnS R hP fun x r1 m1 v G1 H1 S1 R1 d1 P1 => ?_
  obtain rfl : x = v := d1
  cases x with
  | true => exact iteT (h4 al r1 m1 s G1 H1 Z R1 P1)
  | false => exact iteF (h6 al r1 m1 s G1 H1 Z R1 P1)
theorem st_lt_of {P : Rs Fl → Prop} {w : Sl} {r : Rho} {m : D} (h : P (Pu.st i w r m)) (hb : ¬ P .bad) : i < r.length ∧ P (.ok .nx (r.set i (some w)) m) := by
  unfold Pu.st at h
  split at h
  · rename_i q; exact ⟨q, h⟩
  · exact absurd h hb
/-- name = value -/
theorem ss_set (i : Nat) (h : SE X T E e ca) (hN : X.N.Nodup) (hi : X.N[i]? = some x := by rfl) (hx : Loc X.env.scope x := by first | exact Or.inl rfl | exact Or.inr rfl) (hs : swapsWith e (some (.Name x pos')) pos.line X.env = pure false := by rfl)
    (hf : X.fn x = true ∨ X.env.scope.names.lookup x = some .local := by first | exact .inl rfl | exact .inr rfl | assumption) : SS X T E (.Assign [.Name x pos'] e pos) (Pu.sSet i ca) := by
  obtain ⟨t, h1, h2⟩ := h
  refine ⟨_, ps_set hN hi hx h1 hs hf, fun al r m s G H Z R hP => ?_⟩
  refine h2.thnS R hP fun d r1 m1 v G1 H1 S1 R1 d1 P1 => ?_
  obtain ⟨l, P2⟩ := st_lt_of P1 (fun z => z)
  exact P2 _ _ _ (step_setV R1 l) (R1.setV l d1)
/-! ### errors -/
theorem ss_raise {m : Str} {j n : Nat} {p p2 pos pos2 : Pos} (C : Cn k X E) (q : PySem.W.excIn X.K (cad X.K n) He.veBase "ValueError.__new__" = true) (gC : X.mg x = some (.ref (cad X.K n))) (kC : PySem.W.keepIn X.K (.ref (cad X.K n)) = true)
    (b1 : PySem.W.subIn X.K (.ref (cad X.K n)) (.type "BaseException") = some true) (b2 : PySem.W.typeIn X.K (.ref (cad X.K n)) = some (.type "type")) (hg : Gl X x := by rfl) (hdb : (x == ("__debug__" : Str)) = false := by decide) :
    SS X T E (.Raise (some (.Call (.Name x p) [.Constant (.str m) j p2] [] pos)) none pos2) (Pu.sRaise n) :=
  ⟨_, L2N.ps_raise C.calm C.takes (L2N.pmk_own PySem.F.excBase_ValueError q gC kC (raises_own b1 b2) hg hdb), fun al r m s G H Z R hP => hP G H (Step.refl.sub fun _ z => z.elim) R.same R.amb⟩
/-! ### targets -/
def slots : Tg → List Nat
  | .nm i => [i]
  | .tp a b => slots a ++ slots b
theorem wipe_set (s : L2.St) (i : Nat) (w : Option V) : ∀ vs : List Nat, L2.wipe (s.set i w) vs = if i ∈ vs then L2.wipe s vs else (L2.wipe s vs).set i w
  | [] => by simp [L2.wipe]
  | v :: vs => by
    have ih := wipe_set s i w vs
    simp only [L2.wipe]
    rw [ih]
    by_cases h : i ∈ vs
    · simp [h]
    · by_cases e : i = v
      · subst e; simp [h, List.set_set]
      · simp only [h, List.mem_cons, e, or_self, if_false]
        rw [List.set_comm _ _ (fun z => e z)]

def SG (X : Cx) (T : Tb) (tg : Expr) (t : Tg) : Prop := ∃ g, PG X tg g ∧ ∀ (al : Option Addr) (r r' : Rho) (m : D) (s : L2.St) (G H : Hp) (v : V) (d : D) (Q : L2.St → Hp → Prop), Rel X.K T al G H r m s → Dn X.K al G v d → Pu.asg t d r = some r' →
  (∀ s', (∀ vs, (∀ i ∈ slots t, i ∈ vs) → L2.wipe s' vs = L2.wipe s vs) → Step T al (Ow r s) G H (Ow r' s') G H → Rel X.K T al G H r' m s' → Q s' H) → g v s H Q
theorem sg_nm (i : Nat) (hN : X.N.Nodup) (hi : X.N[i]? = some x := by rfl) (hx : Loc X.env.scope x := by first | exact Or.inl rfl | exact Or.inr rfl) (hf : X.fn x = true ∨ X.env.scope.names.lookup x = some .local := by first | exact .inl rfl | exact .inr rfl | assumption) :
    SG X T (.Name x pos) (.nm i) := by
  refine ⟨_, pg_name hN hi hx hf, fun al r r' m s G H v d Q R dv e h => ?_⟩
  simp only [Pu.asg, Option.ite_none_right_eq_some, Option.some.injEq] at e
  obtain ⟨l, e⟩ := e
  subst e
  exact h _ (fun vs hv => by rw [wipe_set, if_pos (hv i (by simp [slots]))]) (step_setV R l) (R.setV l dv)
theorem asg_tp {a b : Tg} {d : D} {r r' : Rho} (h : Pu.asg (.tp a b) d r = some r') : ∃ x y r1, d = .tup [x, y] ∧ Pu.asg a x r = some r1 ∧ Pu.asg b y r1 = some r' := by
  cases d with
  | tup ds =>
    match ds, h with
    | [x, y], h =>
      obtain ⟨r1, e1, e2⟩ := Option.bind_eq_some_iff.mp (show (Pu.asg a x r).bind (Pu.asg b y) = some r' from h)
      exact ⟨x, y, r1, rfl, e1, e2⟩
  | _ => cases h
theorem sg_tp {g1 g2 : Tg} {x1 : Nat} (C : X.calm = true) (h1 : SG X T a g1) (h2 : SG X T b g2) (hs : (assignEach [a, b] X.env).map (·.2) = assign a X.env :: (assignEach [b] X.env).map (·.2) := by rfl) (hs2 : (assignEach [b] X.env).map (·.2) = assign b X.env :: (assignEach [] X.env).map (·.2) := by rfl)
    (hn : (assignEach [a, b] X.env).length = 2 := by rfl) (hst : (assignEach [a, b] X.env).findIdx? (·.1) = none := by rfl) : SG X T (.Tuple [a, b] x1 pos) (.tp g1 g2) := by
  obtain ⟨t1, p1, q1⟩ := h1
  obtain ⟨t2, p2, q2⟩ := h2
  refine ⟨_, pg_tup C (pgs_cons p1 (pgs_cons p2 pgs_nil hs2) hs) hn hst, fun al r r' m s G H v d Q R dv e h => ?_⟩
  obtain ⟨x, y, r1, rfl, e1, e2⟩ := asg_tp e
  obtain ⟨aa, xs, rfl, g, _, dl⟩ := dv.tup_of
  cases dl with
  | cons d1 dl =>
    cases dl with
    | cons d2 dl =>
      cases dl
      refine ⟨aa, _, rfl, SqT.of (R.same _ _ g), rfl, _, _, rfl, ?_⟩
      refine q1 al r r1 m s G H _ x _ R d1 e1 fun s1 w1 S1 R1 => ?_
      refine ⟨_, _, rfl, q2 al r1 r' m s1 G H _ y _ R1 d2 e2 fun s2 w2 S2 R2 => ?_⟩
      exact ⟨rfl, h s2 (fun vs hv => (w2 vs fun i hi => hv i (by simp [slots, hi])).trans (w1 vs fun i hi => hv i (by simp [slots, hi]))) (S1.trans S2) R2⟩
/-- a, b = value -/
theorem ss_tgt {tg : Expr} {g : Tg} (h : SE X T E e ca) (hg : SG X T tg g) (hs : swapsWithSole [tg] e pos.line X.env = pure false := by rfl) (hw : swappedStores [tg] e X.env = pure none := by rfl) (h1 : (assignEach [tg] X.env).map (·.2) = [assign tg X.env] := by rfl) :
    SS X T E (.Assign [tg] e pos) (Pu.sTgt g ca) := by
  obtain ⟨t, h1', h2⟩ := h
  obtain ⟨u, h3, h4⟩ := hg
  refine ⟨_, ps_asg h1' h3 hs hw h1, fun al r m s G H Z R hP => ?_⟩
  refine h2.thnS R hP fun d r1 m1 v G1 H1 S1 R1 d1 P1 => ?_
  unfold Pu.bd Pu.tgt at P1
  cases q : Pu.asg g d r1 with
  | none => rw [q] at P1; exact P1.elim
  | some r2 =>
    rw [q] at P1
    exact h4 al r1 r2 m1 s G1 H1 v d _ R1 d1 q fun s' _ S' R' => P1 s' G1 H1 S' R'
end
end Su

namespace Su
open PySem PySem.Spec PyProof.Rows L2
open Pu (D Sl Rho Rs M Ro Fn Fl Tg LN)
/-- the heap grew by at most one object that stands still -/
def Fx (G H G' H' : Hp) : Prop := (G' = G ∧ H' = H) ∨ ∃ p o, H p = none ∧ G' = upd G p o ∧ H' = upd H p o
section
variable {K : PySem.W.Frag} {T : Tb} {al : Option Addr} {G H G' H' : Hp} {r : Rho} {m : D} {s : L2.St} {O : Addr → Prop}
theorem Fx.rel (f : Fx G H G' H') (R : Rel K T al G H r m s) : Rel K T al G' H' r m s := by
  rcases f with ⟨rfl, rfl⟩ | ⟨p, o, n, rfl, rfl⟩
  · exact R
  · exact R.new n
theorem Fx.step (f : Fx G H G' H') (sm : Same G H) : Step T al O G H O G' H' := by
  rcases f with ⟨rfl, rfl⟩ | ⟨p, o, n, rfl, rfl⟩
  · exact Step.refl
  · exact step_new sm n
end
/-- the walk J gives the items ds, wherever what stands still in G stands -/
def Yl (K : PySem.W.Frag) (al : Option Addr) (G : Hp) (ds : List D) (J : It) : Prop :=
  ∀ G' H', Same G G' → Same G' H' → (∀ (i : Nat) (d : D), ds[i]? = some d → J.go i H' ∧ ∀ x H'', J.yld i H' x H'' → ∃ G'', Fx G' H' G'' H'' ∧ Dn K al G'' x d) ∧ J.stop ds.length H'
/-- .. wherever one comes to from here -/
def Yz (K : PySem.W.Frag) (T : Tb) (al : Option Addr) (O : Addr → Prop) (G H : Hp) (ds : List D) (J : It) : Prop :=
  ∀ O' G' H', Step T al O G H O' G' H' → Same G' H' → (∀ (i : Nat) (d : D), ds[i]? = some d → J.go i H' ∧ ∀ x H'', J.yld i H' x H'' → ∃ G'', Fx G' H' G'' H'' ∧ Dn K al G'' x d) ∧ J.stop ds.length H'
theorem Yl.z {K : PySem.W.Frag} {T : Tb} {al : Option Addr} {O : Addr → Prop} {G H : Hp} {ds : List D} {J : It} (h : Yl K al G ds J) : Yz K T al O G H ds J := fun O' G' H' S s2 => h G' H' S.mono s2
theorem Yz.from_ {K : PySem.W.Frag} {T : Tb} {al : Option Addr} {O O1 : Addr → Prop} {G H G1 H1 : Hp} {ds : List D} {J : It} (h : Yz K T al O G H ds J) (S : Step T al O G H O1 G1 H1) : Yz K T al O1 G1 H1 ds J := fun O' G' H' S' s2 => h O' G' H' (S.trans S') s2
abbrev vI (K : PySem.W.Frag) : Option Addr → Hp → List D → It → Prop := fun al G ds J => ds.length ≤ LN ∧ Yl K al G ds J
def SI (X : Cx) (T : Tb) (E : XK) (tg iter : Expr) (c : M (List D)) : Prop := ∃ wi, PI X tg iter wi ∧ Sd X.K T E wi (vI X.K) c
section
variable {X : Cx} {T : Tb} {E : XK} {e a b c tg iter : Expr} {es rest : List Expr} {p pos pos' : Pos} {k j n i : Nat} {ca cb : M D} {ta : M Bool} {cs ci : M (List D)} {x : Str} {st st' : Stmt} {sts body : List Stmt} {sa sb : M Fl} {g : Tg}
theorem si_lst (h : SE X T E e ca) : SI X T E tg e (Pu.iLst ca) := by
  obtain ⟨t, h1, h2⟩ := h
  refine ⟨_, pi_list h1, fun al r m s G H Q R hP => ?_⟩
  refine h2.thn R hP fun x r1 m1 v G1 H1 S1 R1 d1 P1 => ?_
  cases x with
  | lst ds =>
    obtain ⟨q, xs, rfl, h3, hl, h4⟩ := d1.lst_of
    refine ⟨q, rfl, ⟨xs, SqL.of (R1.same _ _ h3)⟩, P1.ok_ R1 ⟨hl, fun G' H' s1 s2 => ⟨fun i d hd => ?_, ⟨xs, SqL.of (s2 _ _ (s1 _ _ h3)), Nat.le_of_eq h4.length⟩⟩⟩⟩
    obtain ⟨v, h5, h6⟩ := h4.get hd
    refine ⟨⟨xs, v, SqL.of (s2 _ _ (s1 _ _ h3)), h5⟩, fun x H'' ⟨e1, e2⟩ => ⟨G', .inl ⟨rfl, e1⟩, ?_⟩⟩
    have z := e2 xs (SqL.of (s2 _ _ (s1 _ _ h3)))
    rw [h5] at z
    cases z
    exact h6.mono s1
  | _ => exact P1.elim
theorem si_tup (h : SE X T E e ca) : SI X T E tg e (Pu.iTup ca) := by
  obtain ⟨t, h1, h2⟩ := h
  refine ⟨_, pi_tup h1, fun al r m s G H Q R hP => ?_⟩
  refine h2.thn R hP fun x r1 m1 v G1 H1 S1 R1 d1 P1 => ?_
  cases x with
  | tup ds =>
    obtain ⟨q, xs, rfl, h3, hl, h4⟩ := d1.tup_of
    refine ⟨q, rfl, ⟨xs, SqT.of (R1.same _ _ h3)⟩, P1.ok_ R1 ⟨hl, fun G' H' s1 s2 => ⟨fun i d hd => ?_, ⟨xs, SqT.of (s2 _ _ (s1 _ _ h3)), Nat.le_of_eq h4.length⟩⟩⟩⟩
    obtain ⟨v, h5, h6⟩ := h4.get hd
    refine ⟨⟨xs, v, SqT.of (s2 _ _ (s1 _ _ h3)), h5⟩, fun x H'' ⟨e1, e2⟩ => ⟨G', .inl ⟨rfl, e1⟩, ?_⟩⟩
    have z := e2 xs (SqT.of (s2 _ _ (s1 _ _ h3)))
    rw [h5] at z
    cases z
    exact h6.mono s1
  | _ => exact P1.elim
theorem sgn_get {z : List Nat} {i : Nat} {d : D} (h : (Pu.sgn z)[i]? = some d) : ∃ c, z[i]? = some c ∧ d = .str [c] := by
  unfold Pu.sgn at h
  rw [List.getElem?_map] at h
  cases e : z[i]? with
  | none => rw [e] at h; cases h
  | some c => rw [e] at h; cases h; exact ⟨c, rfl, rfl⟩
theorem TxOk.one {z : List Nat} (k : TxOk z) {c : Nat} (h : c ∈ z) : TxOk [c] := ⟨by show 1 ≤ LN; decide, fun c' hc' => by rw [List.mem_singleton.mp hc']; exact k.cps c h⟩
theorem si_str (h : SE X T E e ca) : SI X T E tg e (Pu.iStr ca) := by
  obtain ⟨t, h1, h2⟩ := h
  refine ⟨_, pi_str h1, fun al r m s G H Q R hP => ?_⟩
  refine h2.thn R hP fun x r1 m1 v G1 H1 S1 R1 d1 P1 => ?_
  cases x with
  | str z =>
    obtain ⟨e1, k1⟩ := d1.str_of
    refine ⟨mkS z, e1, P1.ok_ R1 ⟨by simpa [Pu.sgn] using k1.len, fun G' H' s1 s2 => ⟨fun i d hd => ?_, ?_⟩⟩⟩
    · obtain ⟨c, h3, rfl⟩ := sgn_get hd
      have hi : i < z.length := (List.getElem?_eq_some_iff.mp h3).1
      refine ⟨?_, fun x H'' ⟨e1, c', e2, e3⟩ => ⟨G', .inl ⟨rfl, e1⟩, ?_⟩⟩
      · show i < (mkS z).cps.size
        simpa [mkS] using hi
      · have q : z[i]? = some c' := by simpa [mkS] using e2
        rw [h3] at q
        cases q
        rw [e3]
        exact .str [c] (k1.one (List.mem_of_getElem? h3))
    · show (mkS z).cps.size ≤ (Pu.sgn z).length
      simp [mkS, Pu.sgn]
  | _ => exact P1.elim
theorem rg_get {lo : Int} {n i : Nat} {d : D} (h : (Pu.rg lo n)[i]? = some d) : i < n ∧ d = .int (lo + (i : Nat)) := by
  unfold Pu.rg at h
  rw [List.getElem?_map] at h
  cases e : (List.range n)[i]? with
  | none => rw [e] at h; cases h
  | some c =>
    rw [e] at h
    obtain ⟨l, e2⟩ := List.getElem?_eq_some_iff.mp e
    simp at l e2
    subst e2
    cases h
    exact ⟨l, rfl⟩
theorem yl_rg {K : PySem.W.Frag} {al : Option Addr} {G : Hp} (lo : Int) (n : Nat) : Yl K al G (Pu.rg lo n) (Itr lo n) := fun G' H' s1 s2 => ⟨fun i d hd => by
    obtain ⟨l, rfl⟩ := rg_get hd
    exact ⟨l, fun x H'' ⟨e1, e2⟩ => ⟨G', .inl ⟨rfl, e1⟩, by rw [e2]; exact .int _⟩⟩, by show n ≤ (Pu.rg lo n).length; simp [Pu.rg]⟩
theorem si_rng {p1 : Pos} (hm : X.mg "range" = none) (h : SE X T E e ca) (hg : Gl X "range" := by rfl) (hs : starEach [e] X.env = [(false, eval e X.env)] := by rfl) (hs' : starEach (e :: []) X.env = (false, eval e X.env) :: starEach [] X.env := by rfl) : SI X T E tg (.Call (.Name "range" p1) [e] [] pos) (Pu.iRng ca) := by
  obtain ⟨t, h1, h2⟩ := h
  refine ⟨_, pi_range1 hg hm (pa_cons h1 pa_nil hs') hs, fun al r m s G H Q R hP => ?_⟩
  refine h2.thn R hP fun x r1 m1 v G1 H1 S1 R1 d1 P1 => ?_
  cases x with
  | int j =>
    dsimp only at P1
    split at P1
    · rename_i hj
      exact ⟨j, by rw [d1.int_of], by omega, by omega, P1.ok_ R1 ⟨by simp only [Pu.rg, List.length_map, List.length_range, LN]; omega, yl_rg 0 _⟩⟩
    · exact P1.elim
  | _ => exact P1.elim
theorem si_rng2 {p1 : Pos} (hm : X.mg "range" = none) (h : SE X T E a ca) (h' : SE X T E b cb) (hg : Gl X "range" := by rfl) (hs : starEach [a, b] X.env = [(false, eval a X.env), (false, eval b X.env)] := by rfl) (hs2 : starEach [b] X.env = [(false, eval b X.env)] := by rfl)
    (hs3 : starEach (a :: [b]) X.env = (false, eval a X.env) :: starEach [b] X.env := by rfl) (hs4 : starEach (b :: []) X.env = (false, eval b X.env) :: starEach [] X.env := by rfl) : SI X T E tg (.Call (.Name "range" p1) [a, b] [] pos) (Pu.iRng2 ca cb) := by
  obtain ⟨t, h1, h2⟩ := h
  obtain ⟨u, h3, h4⟩ := h'
  refine ⟨_, pi_range2 hg hm (pa_cons h1 (pa_cons h3 pa_nil hs4) hs3) hs hs2, fun al r m s G H Q R hP => ?_⟩
  refine h2.thn R hP fun x r1 m1 v G1 H1 S1 R1 d1 P1 => ?_
  refine h4.thn R1 P1 fun y r2 m2 w G2 H2 S2 R2 d2 P2 => ?_
  cases x with
  | int i =>
    cases y with
    | int j =>
      dsimp only at P2
      split at P2
      · rename_i hj
        exact ⟨i, j, by rw [d1.int_of, d2.int_of], by omega, P2.ok_ R2 ⟨by simp only [Pu.rg, List.length_map, List.length_range, LN]; omega, yl_rg i _⟩⟩
      · exact P2.elim
    | _ => exact P2.elim
  | _ => exact P1 |> fun _ => P2.elim
/-! ### for -/
theorem ss_for (C : Cn k X E) (hi : SI X T E tg iter ci) (hg : SG X T tg g) (hb : SB X T E body sa) (hs : ∀ x, foldedSetIterable iter X.env x = pure x := by intro _; rfl) : SS X T E (.For tg iter body [] pos) (Pu.sFor ci g sa) := by
  obtain ⟨wi, h1, h2⟩ := hi
  obtain ⟨tt, h3, h4⟩ := hg
  obtain ⟨tb, h5, h6⟩ := hb
  refine ⟨_, ps_for C.own C.calm h1 h3 h5 hs, fun al r m s G H Z R hP => ?_⟩
  refine h2.thnS R hP fun ds r1 m1 J G1 H1 S1 R1 y1 P1 => ?_
  have y1 : Yz X.K T al (Ow r1 s) G1 H1 ds J := y1.2.z
  refine ⟨fun i mm s' H' => mm = ds.length - i ∧ i ≤ ds.length ∧ ∃ r' m' G', Rel X.K T al G' H' r' m' s' ∧ Yz X.K T al (Ow r' s') G' H' ds J ∧ PoS X.K T al r' s' G' H' E Z (Pu.forL g sa (ds.drop i) r' m'),
    ⟨ds.length, rfl, Nat.zero_le _, r1, m1, G1, R1, y1, by rw [List.drop_zero]; exact P1⟩, ?_⟩
  rintro i mm s' H' ⟨rfl, hi, r', m', G', R', y', P'⟩
  obtain ⟨yi, ye⟩ := y' _ G' H' Step.refl R'.same
  by_cases hlt : i < ds.length
  · have hd : ds[i]? = some ds[i] := by simp [hlt]
    obtain ⟨go, nxt⟩ := yi i _ hd
    have ed : ds.drop i = ds[i] :: ds.drop (i + 1) := List.drop_eq_getElem_cons hlt
    refine .inr ⟨go, fun s2 H2 => ∃ r2 m2 G2, Rel X.K T al G2 H2 r2 m2 s2 ∧ Yz X.K T al (Ow r2 s2) G2 H2 ds J ∧ PoS X.K T al r2 s2 G2 H2 E Z (Pu.forL g sa (ds.drop (i + 1)) r2 m2), fun s2 H2 h => ⟨ds.length - (i + 1), by omega, rfl, hlt, h⟩, fun x H'' hy => ?_⟩
    obtain ⟨G'', fx, dn⟩ := nxt x H'' hy
    have R2 := fx.rel R'
    have S2 : Step T al (Ow r' s') G' H' (Ow r' s') G'' H'' := fx.step R'.same
    rw [ed] at P'
    have P2 := PoS.from_ S2 P'
    unfold Pu.forL Pu.bd Pu.tgt at P2
    cases q : Pu.asg g ds[i] r' with
    | none => rw [q] at P2; exact P2.elim
    | some r3 =>
      rw [q] at P2
      refine h4 al r' r3 m' s' G'' H'' x _ _ R2 dn q fun s3 _ S3 R3 => ?_
      refine h6 al r3 m' s3 G'' H'' _ R3 ?_
      have P3 := PoS.from_ S3 P2
      unfold Pu.bd at P3
      dsimp only at P3
      cases q2 : sa r3 m' with
      | ok f r4 m4 =>
        rw [q2] at P3
        cases f with
        | nx => exact fun s4 G4 H4 S4 R4 => ⟨r4, m4, G4, R4, y'.from_ ((S2.trans S3).trans S4), PoS.from_ S4 P3⟩
        | rt d => exact P3
      | exc c mm => rw [q2] at P3; exact P3
      | bad => rw [q2] at P3; exact P3
  · have e : i = ds.length := by omega
    subst e
    rw [List.drop_length] at P'
    exact .inl ⟨ye, P' s' G' H' Step.refl R'⟩
/-! ### while -/
theorem ss_while (C : Cn k X E) (hc : ST X T E c ta) (hb : SB X T E body sa) (n : Nat) : SS X T E (.While c body [] pos) (Pu.sWhile ta sa n) := by
  obtain ⟨tc, h1, h2⟩ := hc
  obtain ⟨tb, h3, h4⟩ := hb
  refine ⟨_, ps_while C.own h1 h3, fun al r m s G H Z R hP => ?_⟩
  refine ⟨fun mm s' H' => ∃ r' m' G', Rel X.K T al G' H' r' m' s' ∧ PoS X.K T al r' s' G' H' E Z (Pu.sWhile ta sa mm r' m'), ⟨n, r, m, G, R, hP⟩, ?_⟩
  rintro mm s' H' ⟨r', m', G', R', P'⟩
  cases mm with
  | zero => exact P'.elim
  | succ mm =>
    refine h2.thnS R' P' fun b r1 m1 v G1 H1 S1 R1 d1 P1 => ?_
    obtain rfl : b = v := d1
    cases b with
    | false => exact iteF (P1 s' G1 H1 Step.refl R1)
    | true =>
      refine iteT ⟨fun s2 H2 => ∃ r2 m2 G2, Rel X.K T al G2 H2 r2 m2 s2 ∧ PoS X.K T al r2 s2 G2 H2 E Z (Pu.sWhile ta sa mm r2 m2), fun s2 H2 h => ⟨mm, Nat.lt_succ_self _, h⟩, ?_⟩
      refine h4 al r1 m1 s' G1 H1 _ R1 ?_
      rw [if_pos rfl] at P1
      unfold Pu.bd at P1
      cases q2 : sa r1 m1 with
      | ok f r4 m4 =>
        rw [q2] at P1
        cases f with
        | nx => exact fun s4 G4 H4 S4 R4 => ⟨r4, m4, G4, R4, PoS.from_ S4 P1⟩
        | rt d => exact P1
      | exc c mm => rw [q2] at P1; exact P1
      | bad => rw [q2] at P1; exact P1
end
end Su

namespace Su
open PySem PySem.Spec PyProof.Rows L2
open Pu (D Sl Rho Rs M Ro Fn Fl Tg LN)
/-- what is wanted behind an expression that makes a new list or dict -/
def PoN (K : PySem.W.Frag) (T : Tb) (al : Option Addr) (r : Rho) (s : L2.St) (G H : Hp) (E : XK) (Q : VK) : Rs D → Prop
  | .ok d r' m' => ∀ p G' H', Step T al (Ow r s) G H (Ow r' s) G' H' → Rel K T al G' H' r' m' s → Ob K al G' H' p d → ¬ Ow r' s p → al ≠ some p → H p = none → Q (.ref p) H'
  | .exc c m' => ∀ G' H', Step T al (Ow r s) G H noOw G' H' → Same G' H' → AmbOk K al G' H' m' → E (.ref (cad K c)) none H'
  | .bad => False
def SdN (K : PySem.W.Frag) (T : Tb) (E : XK) (t : TE) (c : M D) : Prop :=
  ∀ (al : Option Addr) (r : Rho) (m : D) (s : L2.St) (G H : Hp) (Q : VK), Rel K T al G H r m s → PoN K T al r s G H E Q (c r m) → t s H Q
def SO (X : Cx) (T : Tb) (E : XK) (e : Expr) (c : M D) : Prop := ∃ t, PE X e t ∧ SdN X.K T E t c
section
variable {K : PySem.W.Frag} {T : Tb} {al : Option Addr} {E : XK} {G H G1 H1 : Hp} {r r1 : Rho} {m : D} {s : L2.St} {p : Addr} {d : D}
/-- a changing object that no slot holds stands still from now on -/
theorem Rel.seal (R : Rel K T al G H r m s) (ob : Ob K al G H p d) (no : ¬ Ow r s p) (na : al ≠ some p) : ∃ o, H p = some o ∧ Rel K T al (upd G p o) H r m s ∧ Dn K al (upd G p o) (.ref p) d := by
  obtain ⟨o, ho, w⟩ := ob.some_
  have gp : G p = none := ob.1
  have s1 : Same G (upd G p o) := same_upd gp
  have dn : Dn K al (upd G p o) (.ref p) d := by
    obtain ⟨_, ob⟩ := ob
    cases d with
    | lst ds =>
      obtain ⟨xs, q, l, e⟩ := ob
      rw [ho] at q; cases q
      exact .lst upd_same l (e.mono s1)
    | dic ds =>
      obtain ⟨xs, q, e⟩ := ob
      rw [ho] at q; cases q
      exact .dic upd_same (e.mono s1)
    | _ => exact ob.elim
  have s2 : Same (upd G p o) H := fun b u e => by
    by_cases q : b = p
    · subst q; rw [upd_same] at e; cases e; exact ho
    · rw [upd_ne q] at e; exact R.same b u e
  refine ⟨o, ho, R.move s1 s2 (fun _ _ _ e => e) (fun a h => ?_) (fun a z => ?_) R.tabs fun q hq => ?_, dn⟩
  · rw [upd_ne fun z => no (by rw [← z]; exact h)]
    exact R.ofree h
  · have q := R.amb a z
    have ne : a ≠ p := fun e => na (by rw [← e]; exact z)
    exact q.move s1 (by rw [upd_ne ne]; exact q.1) fun _ z => z
  · have n : q.1 ≠ p := fun z => by
      obtain ⟨ps, h1, _⟩ := R.tabs q hq
      rw [z, ho] at h1
      cases h1
      rcases w with ⟨_, w⟩ | ⟨_, w⟩ <;> cases w
    rw [upd_ne n]
    exact R.tfree q hq
theorem Step.seal {O O' : Addr → Prop} {G' H' : Hp} {o : HO} (S : Step T al O G H O' G' H') (n : H p = none) (g : G' p = none) : Step T al O G H O' (upd G' p o) H' :=
  ⟨S.mono.trans (same_upd g), fun a u e h1 h2 h3 => by
    obtain ⟨q1, q2⟩ := S.keep a u e h1 h2 h3
    exact ⟨q1, by rw [upd_ne (ne_of_none e n)]; exact q2⟩, S.own, S.dom⟩
theorem SdN.sd {t : TE} {c : M D} (h : SdN K T E t c) : Sd K T E t (vD K) c := by
  intro al r m s G H Q R hP
  refine h al r m s G H Q R ?_
  cases q : c r m with
  | ok d r' m' =>
    rw [q] at hP
    intro p G' H' S R' ob no na n
    obtain ⟨o, ho, R2, dn⟩ := R'.seal ob no na
    exact hP _ _ _ (S.seal n ob.1) R2 dn
  | exc c m' => rw [q] at hP; exact hP
  | bad => rw [q] at hP; exact hP
theorem PoN.from_ {Q : VK} {res : Rs D} (S : Step T al (Ow r s) G H (Ow r1 s) G1 H1) (h : PoN K T al r s G H E Q res) : PoN K T al r1 s G1 H1 E Q res := by
  cases res with
  | ok b r' m' => exact fun p G' H' S' R' ob no na n => h p G' H' (S.trans S') R' ob no na (by
      cases e : H p with
      | none => rfl
      | some o => exact absurd n (S.dom p (by rw [e]; exact fun z => nomatch z)))
  | exc c m' => exact fun G' H' S' q a => h G' H' (S.trans S') q a
  | bad => exact h
theorem Sd.thnN {B C : Type} {Vl : Option Addr → Hp → B → C → Prop} {t : L2.St → Hp → (C → Hp → Prop) → Prop} {c : M B} {f : B → M D} (h : Sd K T E t Vl c) (R : Rel K T al G H r m s) {Q : C → Hp → Prop} {Q2 : VK} (hP : PoN K T al r s G H E Q2 (Pu.bd c f r m))
    (k : ∀ b r1 m1 x G1 H1, Step T al (Ow r s) G H (Ow r1 s) G1 H1 → Rel K T al G1 H1 r1 m1 s → Vl al G1 b x → PoN K T al r1 s G1 H1 E Q2 (f b r1 m1) → Q x H1) : t s H Q := by
  refine h al r m s G H Q R ?_
  unfold Pu.bd at hP
  cases e : c r m with
  | ok b r1 m1 =>
    rw [e] at hP
    exact fun x G' H' S' R' v => k b r1 m1 x G' H' S' R' v (PoN.from_ S' hP)
  | exc c m' => rw [e] at hP; exact hP
  | bad => rw [e] at hP; exact hP
theorem SdN.thnS {t : TE} {c : M D} {f : D → M Fl} (h : SdN K T E t c) (R : Rel K T al G H r m s) {Q : VK} {Z : Ends} (hP : PoS K T al r s G H E Z (Pu.bd c f r m))
    (k : ∀ d r1 m1 p G1 H1, Step T al (Ow r s) G H (Ow r1 s) G1 H1 → Rel K T al G1 H1 r1 m1 s → Ob K al G1 H1 p d → ¬ Ow r1 s p → al ≠ some p → H p = none → PoS K T al r s G H E Z (f d r1 m1) → Q (.ref p) H1) : t s H Q := by
  refine h al r m s G H Q R ?_
  unfold Pu.bd at hP
  cases e : c r m with
  | ok b r1 m1 =>
    rw [e] at hP
    exact fun p G' H' S' R' ob no na n => k b r1 m1 p G' H' S' R' ob no na n hP
  | exc c m' => rw [e] at hP; exact hP
  | bad => rw [e] at hP; exact hP
theorem PoN.opt_ {Q : VK} {o : Option D} (hP : PoN K T al r s G H E Q (Pu.opt o r m)) : ∃ b, o = some b ∧ PoN K T al r s G H E Q (.ok b r m) := by
  cases o with
  | none => exact hP.elim
  | some b => exact ⟨b, rfl, hP⟩
/-- a new list -/
theorem fin_new {Q : VK} {xs : List V} {ds : List D} (R : Rel K T al G H r m s) (P : PoN K T al r s G H E Q (.ok (.lst ds) r m)) (h : DnL K al G xs ds) (l : ds.length ≤ LN) (n : H p = none) : Q (.ref p) (upd H p (.lst xs)) :=
  P p G _ (step_newO n) (R.newO n) ⟨R.same.free n, xs, upd_same, l, h⟩ (fun z => R.olds z n) (fun z => by
    obtain ⟨o, q, _⟩ := (R.amb p z).some_
    rw [n] at q; cases q) n
theorem fin_newK {Q : VK} {xs : List (Key × V)} {ds : List (List Nat × D)} (R : Rel K T al G H r m s) (P : PoN K T al r s G H E Q (.ok (.dic ds) r m)) (h : DnK K al G xs ds) (n : H p = none) : Q (.ref p) (upd H p (.dK xs)) :=
  P p G _ (step_newO n) (R.newO n) ⟨R.same.free n, xs, upd_same, h⟩ (fun z => R.olds z n) (fun z => by
    obtain ⟨o, q, _⟩ := (R.amb p z).some_
    rw [n] at q; cases q) n
end
section
variable {X : Cx} {T : Tb} {E : XK} {e a b c tg iter elt : Expr} {es rest ifs : List Expr} {p pos pos' : Pos} {k j n i : Nat} {ca cb : M D} {ta : M Bool} {cs ci : M (List D)} {x : Str} {st st' : Stmt} {sts body : List Stmt} {sa sb : M Fl} {g : Tg} {scope : Scope} {own : List (Str × Nat)}
theorem SO.se (h : SO X T E e ca) : SE X T E e ca := by
  obtain ⟨t, h1, h2⟩ := h
  exact ⟨t, h1, h2.sd⟩
theorem so_lst (h : SA X T E es cs) : SO X T E (.List es pos) (Pu.cLst cs) := by
  obtain ⟨t, h1, h2⟩ := h
  refine ⟨_, pe_lst h1, fun al r m s G H Q R hP => ?_⟩
  refine h2.thnN R hP fun x r1 m1 v G1 H1 S1 R1 d1 P1 => ?_
  obtain ⟨d, e, P2⟩ := P1.opt_
  simp only [Option.ite_none_right_eq_some, Option.some.injEq] at e
  obtain ⟨l, e⟩ := e
  subst e
  exact ⟨by rw [d1.length, ln_eq]; exact l, fun p n => fin_new R1 P2 d1 l n⟩
/-- an operator that makes a new list -/
def oCat : D → D → Option D
  | .lst x, .lst y => if x.length + y.length ≤ LN then some (.lst (x ++ y)) else none
  | _, _ => none
theorem so_add (ha : SE X T E a ca) (hb : SE X T E b cb) : SO X T E (.BinOp a .Add b pos) (Pu.c2 oCat ca cb) := by
  obtain ⟨t, h1, h2⟩ := ha
  obtain ⟨u, h3, h4⟩ := hb
  refine ⟨_, pe_op op_cat h1 h3, fun al r m s G H Q R hP => ?_⟩
  refine h2.thnN R hP fun x r1 m1 v G1 H1 S1 R1 d1 P1 => ?_
  refine h4.thnN R1 P1 fun y r2 m2 w G2 H2 S2 R2 d2 P2 => ?_
  obtain ⟨d, e, P3⟩ := P2.opt_
  have d1' := d1.mono S2.mono
  cases x <;> cases y <;> simp only [oCat, reduceCtorEq, Option.some.injEq, Option.ite_none_right_eq_some] at e
  obtain ⟨l, e⟩ := e
  subst e
  obtain ⟨p, xs, rfl, h5, _, h6⟩ := d1'.lst_of
  obtain ⟨q, ys, rfl, h7, _, h8⟩ := d2.lst_of
  exact ⟨p, q, xs, ys, rfl, rfl, R2.same _ _ h5, R2.same _ _ h7, by rw [h6.length, h8.length, ln_eq]; exact l, fun p n => fin_new R2 P3 (h6.append h8) (by rw [List.length_append]; exact l) n⟩
def oRep : D → D → Option D
  | .lst xs, .int k => if k.natAbs < 2 ^ 63 ∧ xs.length * k.toNat ≤ LN then some (.lst (List.replicate k.toNat xs).flatten) else none
  | _, _ => none
theorem so_rep (ha : SE X T E a ca) (hb : SE X T E b cb) : SO X T E (.BinOp a .Mult b pos) (Pu.c2 oRep ca cb) := by
  obtain ⟨t, h1, h2⟩ := ha
  obtain ⟨u, h3, h4⟩ := hb
  refine ⟨_, pe_op op_rep h1 h3, fun al r m s G H Q R hP => ?_⟩
  refine h2.thnN R hP fun x r1 m1 v G1 H1 S1 R1 d1 P1 => ?_
  refine h4.thnN R1 P1 fun y r2 m2 w G2 H2 S2 R2 d2 P2 => ?_
  obtain ⟨d, e, P3⟩ := P2.opt_
  have d1' := d1.mono S2.mono
  cases x <;> cases y <;> simp only [oRep, reduceCtorEq, Option.some.injEq, Option.ite_none_right_eq_some] at e
  obtain ⟨l, e⟩ := e
  subst e
  obtain ⟨p, xs, rfl, h5, _, h6⟩ := d1'.lst_of
  rw [d2.int_of]
  exact ⟨p, _, xs, rfl, rfl, R2.same _ _ h5, by omega, by omega, by rw [h6.length, ln_eq]; exact l.2, fun p n => fin_new R2 P3 (h6.rep _) (by rw [len_rep]; exact l.2) n⟩
/-- name = a new list or dict, the slot's own from now on -/
theorem ss_new (i : Nat) (h : SO X T E e ca) (hN : X.N.Nodup) (hi : X.N[i]? = some x := by rfl) (hx : Loc X.env.scope x := by first | exact Or.inl rfl | exact Or.inr rfl) (hs : swapsWith e (some (.Name x pos')) pos.line X.env = pure false := by rfl)
    (hf : X.fn x = true ∨ X.env.scope.names.lookup x = some .local := by first | exact .inl rfl | exact .inr rfl | assumption) : SS X T E (.Assign [.Name x pos'] e pos) (Pu.sNew i ca) := by
  obtain ⟨t, h1, h2⟩ := h
  refine ⟨_, ps_set hN hi hx h1 hs hf, fun al r m s G H Z R hP => ?_⟩
  refine h2.thnS R hP fun d r1 m1 q G1 H1 S1 R1 ob no na n P1 => ?_
  obtain ⟨l, P2⟩ := st_lt_of P1 (fun z => z)
  refine P2 _ _ _ ⟨S1.mono, S1.keep, fun a h => ?_, S1.dom⟩ (R1.setO l ob no na)
  rcases ow_set h l R1.len with ⟨_, _, z⟩ | z
  · cases z
    exact .inr n
  · exact S1.own a z
end
end Su

namespace Pu
/-! ### the built-in functions -/
def intsD : List D → Option (List Int)
  | [] => some []
  | .int i :: r => (intsD r).map (i :: ·)
  | _ => none
def blsD : List D → Option (List Bool)
  | [] => some []
  | .bl i :: r => (blsD r).map (i :: ·)
  | _ => none
def strsD : List D → Option (List (List Nat))
  | [] => some []
  | .str i :: r => (strsD r).map (i :: ·)
  | _ => none
theorem ints_map (ns : List Int) : intsD (ns.map .int) = some ns := by
  induction ns with
  | nil => rfl
  | cons n ns ih => simp [intsD, ih]
theorem bls_map (ns : List Bool) : blsD (ns.map .bl) = some ns := by
  induction ns with
  | nil => rfl
  | cons n ns ih => simp [blsD, ih]
theorem strs_map (ns : List (List Nat)) : strsD (ns.map .str) = some ns := by
  induction ns with
  | nil => rfl
  | cons n ns ih => simp [strsD, ih]
theorem ints_eq : ∀ {ds : List D} {ns : List Int}, intsD ds = some ns → ds = ns.map .int
  | [], ns, h => by cases h; rfl
  | .int i :: r, ns, h => by
    simp only [intsD] at h
    obtain ⟨m, h1, rfl⟩ := Option.map_eq_some_iff.mp h
    rw [ints_eq h1]; rfl
theorem bls_eq : ∀ {ds : List D} {ns : List Bool}, blsD ds = some ns → ds = ns.map .bl
  | [], ns, h => by cases h; rfl
  | .bl i :: r, ns, h => by
    simp only [blsD] at h
    obtain ⟨m, h1, rfl⟩ := Option.map_eq_some_iff.mp h
    rw [bls_eq h1]; rfl
theorem strs_eq : ∀ {ds : List D} {ns : List (List Nat)}, strsD ds = some ns → ds = ns.map .str
  | [], ns, h => by cases h; rfl
  | .str i :: r, ns, h => by
    simp only [strsD] at h
    obtain ⟨m, h1, rfl⟩ := Option.map_eq_some_iff.mp h
    rw [strs_eq h1]; rfl
def maxI : List Int → Int
  | [] => 0
  | [a] => a
  | a :: r => max a (maxI r)
def minI : List Int → Int
  | [] => 0
  | [a] => a
  | a :: r => min a (minI r)
def oSum : D → Option D
  | .lst ds => (intsD ds).map fun ns => .int ns.sum
  | _ => none
def oAll : D → Option D
  | .lst ds => (blsD ds).map fun bs => .bl (bs.all id)
  | _ => none
def oAny : D → Option D
  | .lst ds => (blsD ds).map fun bs => .bl (bs.any id)
  | _ => none
def oMinL : D → Option D
  | .lst ds => (intsD ds).bind fun ns => if ns = [] then none else some (.int (minI ns))
  | _ => none
def oMaxL : D → Option D
  | .lst ds => (intsD ds).bind fun ns => if ns = [] then none else some (.int (maxI ns))
  | _ => none
def oMin2 : D → D → Option D
  | .int i, .int j => some (.int (if j < i then j else i))
  | _, _ => none
def oMax2 : D → D → Option D
  | .int i, .int j => some (.int (if j > i then j else i))
  | _, _ => none
def oList : D → Option D
  | .lst ds => some (.lst ds)
  | .tup ds => some (.lst ds)
  | _ => none
def oTuple : D → Option D
  | .lst ds => some (.tup ds)
  | .tup ds => some (.tup ds)
  | _ => none
def oInt : D → Option D
  | .int i => some (.int i)
  | .bl b => some (.int (if b then 1 else 0))
  | _ => none
def tyOf : D → Option String
  | .non => some "NoneType"
  | .bl _ => some "bool"
  | .int _ => some "int"
  | .str _ => some "str"
  | .tup _ => some "tuple"
  | .lst _ => some "list"
  | .dic _ => some "dict"
  | _ => none
def isB (a b : String) : Bool := a == b || (a == "bool" && b == "int")
def oIsi (T : String) (d : D) : Option D := (tyOf d).map fun a => .bl (isB a T)
end Pu

namespace Pu
/-- each item once, in the order of its first place -/
def dd {A : Type} [BEq A] (xs : List A) : List A := xs.foldl (fun σ v => if σ.any (· == v) then σ else σ ++ [v]) []
def oLenSet : D → Option D
  | .str z => if z.length ≤ 1000 then some (.int (dd z).length) else none
  | .lst ds => (strsD ds).bind fun xs => if xs.length ≤ 1000 then some (.int (dd xs).length) else none
  | _ => none
def oListS : D → Option D
  | .str z => if z.length ≤ LN then some (.lst (sgn z)) else none
  | _ => none
/-- text.index of one sign that is there -/
def oFind : D → D → Option D
  | .str z, .str [c] => if c ∈ z then some (.int (z.idxOf c)) else none
  | _, _ => none
def oRevL : D → Option D
  | .lst z => some (.lst z.reverse)
  | _ => none
def oRevS : D → Option D
  | .str z => some (.str z.reverse)
  | _ => none
def oRevT : D → Option D
  | .tup z => some (.tup z.reverse)
  | _ => none
def oNeg : D → Option D
  | .int i => some (.int (-i))
  | _ => none
def oNeI : D → D → Option D
  | .int i, .int j => some (.bl (!(i == j)))
  | _, _ => none
/-- it is a text -/
def cStr (a : M D) : M D := bd a fun x => match x with
  | .str z => pu (.str z)
  | _ => fun _ _ => .bad
/-- the errors' names -/
def ename : Nat → List Nat
  | 0 => [73, 110, 118, 97, 108, 105, 100, 86, 111, 116, 101, 115]
  | 1 => [73, 110, 118, 97, 108, 105, 100, 67, 97, 110, 100, 105, 100, 97, 116, 101]
  | 2 => [73, 110, 118, 97, 108, 105, 100, 66, 97, 108, 108, 111, 116]
  | 3 => [73, 110, 118, 97, 108, 105, 100, 84, 105, 109, 101, 115]
  | 4 => [73, 110, 118, 97, 108, 105, 100, 78, 97, 109, 101, 115]
  | 5 => [73, 110, 118, 97, 108, 105, 100, 67, 97, 110, 100, 105, 100, 97, 116, 101, 115]
  | 6 => [73, 110, 118, 97, 108, 105, 100, 78, 117, 109, 98, 101, 114]
  | 7 => [73, 110, 118, 97, 108, 105, 100, 84, 101, 120, 116]
  | 8 => [84, 111, 111, 77, 97, 110, 121]
  | 9 => [85, 110, 108, 105, 107, 101]
  | 10 => [78, 111, 116, 84, 104, 101, 114, 101]
  | _ => [78, 111, 116, 104, 105, 110, 103, 84, 111, 85, 110, 100, 111]
/-- what is said of an error -/
def errD (c : Nat) : D := .tup [.str [101, 114, 114, 111, 114], .str (ename c)]
def frzS : Sl → Sl
  | .own d => .v d
  | .v d => .v d
/-- no slot owns from now on -/
def frz (r : Rho) : Rho := r.map (Option.map frzS)
/-- _law_told(lambda: c) -/
def cTold (c : M D) : M D := fun r m => match c (frz r) m with
  | .ok d _ m' => .ok d (frz r) m'
  | .exc e m' => if e < 12 then .ok (errD e) (frz r) m' else .bad
  | .bad => .bad
end Pu

namespace Pu
def c_is_whole : M Fl := (sRet (cAnd (c1 (oIsi "int") (cVar 0)) (cAnd (cNot (c1 (oIsi "bool") (cVar 0))) (cChain oLe oLe (cVar 1) (cVar 0) (cVar 2)))))
def f_is_whole : Fn := fn 3 3 c_is_whole
def c_are_letters : M Fl := (sSeq (sIf (tOr (tNot (tB (c1 (oIsi "str") (cVar 0)))) (tOr (tB (c2 oEq (cVar 0) (cK (.str [])))) (tNot (tB (c1 oAll (cLc [2] (iStr (cVar 0)) (.nm 2) tYes (c2 (oInN false) (cVar 2) (cVar 1)))))))) (sRet (cK (.bl false))) sNop)
  (sRet (c2 oEq (c1 oLenSet (cVar 0)) (c1 oLen (cVar 0)))))
def f_are_letters : Fn := fn 2 3 c_are_letters
def c_candidates_of : M Fl := (sRet (cCut (cK (.str [97, 98, 99, 100, 101])) none (some (cIdx (cVar 0) (cK (.int 0))))))
def f_candidates_of : Fn := fn 1 1 c_candidates_of
def c_counts_of : M Fl := (sSeq (sNew 2 (cDc [3] (iStr (cVar 1)) (.nm 3) (cVar 3) (cK (.int 0))))
  (sSeq (sFor (iTup (cVar 0)) (.tp (.nm 4) (.nm 5)) (sSeq (sSet 6 (cLc [3] (iStr (cVar 4)) (.nm 3) (tB (c2 (oInN false) (cVar 3) (cVar 1))) (cVar 3)))
  (sIf (tB (c2 oNe (cVar 6) (cLst aNil))) (sDaug 2 (cIdx (cVar 6) (cK (.int 0))) (cVar 5)) sNop)))
  (sRet (cLc [3] (iStr (cVar 1)) (.nm 3) tYes (cDget (cVar 2) (cVar 3))))))
def f_counts_of : Fn := fn 2 7 c_counts_of
def c_is_before : M Fl := (sRet (cAnd (c2 (oInN false) (cVar 1) (cVar 0)) (cOr (c2 (oInN true) (cVar 2) (cVar 0)) (c2 oLt (c2 oFind (cStr (cVar 0)) (cVar 1)) (c2 oFind (cStr (cVar 0)) (cVar 2))))))
def f_is_before : Fn := fn 3 3 c_is_before
def c__law_cell : M Fl := (sSeq (sIf (tB (c2 oEq (cVar 0) (cLst aNil))) (sRet (c2 oMul (cVar 1) (cK (.int 7919)))) sNop)
  (sRet (c2 oAdd (cIdx (cVar 0) (c2 oMod (cVar 1) (c1 oLen (cVar 0)))) (c2 oMul (c2 oDiv (cVar 1) (c1 oLen (cVar 0))) (cK (.int 104729))))))
def f__law_cell : Fn := fn 2 2 c__law_cell
def c__law_drawn : M Fl := (sSeq (sSet 2 (c2 oMod (c2 oAdd (c2 oMul (cVar 0) (cK (.int 6364136223846793005))) (c2 oMul (c2 oAdd (cVar 1) (cK (.int 1))) (cK (.int 1442695040888963407)))) (cK (.int 340282366920938463463374607431768211507))))
  (sSeq (sSet 2 (c2 oMod (c2 oMul (cVar 2) (cVar 2)) (cK (.int 340282366920938463463374607431768211297))))
  (sSeq (sSet 2 (c2 oMul (c2 oMul (c2 oAdd (c2 oMod (cVar 2) (cK (.int 18446744073709551557))) (cK (.int 1))) (c2 oAdd (c2 oDiv (cVar 2) (cK (.int 18446744073709551557))) (cK (.int 1)))) (cVar 2)))
  (sRet (c2 oMod (cVar 2) (cK (.int 340282366920938463463374607431768211507)))))))
def f__law_drawn : Fn := fn 2 3 c__law_drawn
def c__law_letters : M Fl := (sRet (cCut (cK (.str [97, 98, 99, 100, 101])) none (some (cIdx (cVar 0) (cK (.int 0))))))
def f__law_letters : Fn := fn 1 1 c__law_letters
def c__law_before : M Fl := (sRet (cAnd (c2 (oInN false) (cVar 1) (cVar 0)) (cOr (c2 (oInN true) (cVar 2) (cVar 0)) (c2 oLt (c2 oFind (cStr (cVar 0)) (cVar 1)) (c2 oFind (cStr (cVar 0)) (cVar 2))))))
def f__law_before : Fn := fn 3 3 c__law_before
def c_is_pair : M Fl := (sRet (cAnd (c1 (oIsi "tuple") (cVar 0)) (cAnd (c2 oEq (c1 oLen (cVar 0)) (cK (.int 2))) (cAnd (cCall f_are_letters (aCons (cIdx (cVar 0) (cK (.int 0))) (aCons (cVar 1) aNil))) (cCall f_is_whole (aCons (cIdx (cVar 0) (cK (.int 1))) (aCons (cK (.int 1)) (aCons (cK (.int 20)) aNil))))))))
def f_is_pair : Fn := fn 2 2 c_is_pair
def c_need_candidate : M Fl := (sIf (tOr (tNot (tB (cCall f_are_letters (aCons (cVar 1) (aCons (cCall f_candidates_of (aCons (cVar 0) aNil)) aNil))))) (tB (c2 oNe (c1 oLen (cVar 1)) (cK (.int 1))))) (sRaise 1) sNop)
def f_need_candidate : Fn := fn 2 2 c_need_candidate
def c_voters_for : M Fl := (sRet (c1 oSum (cLc [3, 4] (iTup (cIdx (cVar 0) (cK (.int 1)))) (.tp (.nm 3) (.nm 4)) (tB (cCall f_is_before (aCons (cVar 3) (aCons (cVar 1) (aCons (cVar 2) aNil))))) (cVar 4))))
def f_voters_for : Fn := fn 3 5 c_voters_for
def c__law_roll : M Fl := (sSeq (sIf (tB (c2 oGe (cIdx (cVar 0) (cK (.int 0))) (c2 oPow (cK (.int 10)) (cK (.int 18))))) (sSeq (sSet 2 (c2 oMod (cIdx (cVar 0) (cK (.int 0))) (cVar 1)))
  (sSeq (sAput 0 (cK (.int 0)) (c2 oDiv (cIdx (cVar 0) (cK (.int 0))) (cVar 1)))
  (sRet (cVar 2)))) sNop)
  (sSeq (sAput 0 (cK (.int 1)) (c2 oAdd (cIdx (cVar 0) (cK (.int 1))) (cK (.int 1))))
  (sRet (c2 oMod (c2 oDiv (cCall f__law_drawn (aCons (cIdx (cVar 0) (cK (.int 0))) (aCons (cIdx (cVar 0) (cK (.int 1))) aNil))) (cK (.int 8))) (cVar 1)))))
def f__law_roll : Fn := fn 2 3 c__law_roll
def c__law_rounds : M Fl := (sRet (cLc [2] (iRng (c2 oMax2 (cK (.int 1)) (c2 oMin2 (cVar 1) (c1 oLen (cVar 0))))) (.nm 2) tYes (cLst (aCons (cCall f__law_cell (aCons (cVar 0) (aCons (cVar 2) aNil))) (aCons (cK (.int 0)) aNil)))))
def f__law_rounds : Fn := fn 2 3 c__law_rounds
def c_is_votes : M Fl := (sSeq (sIf (tOr (tNot (tB (c1 (oIsi "tuple") (cVar 0)))) (tOr (tB (c2 oNe (c1 oLen (cVar 0)) (cK (.int 2)))) (tNot (tB (cCall f_is_whole (aCons (cIdx (cVar 0) (cK (.int 0))) (aCons (cK (.int 2)) (aCons (cK (.int 5)) aNil)))))))) (sRet (cK (.bl false))) sNop)
  (sSeq (sIf (tOr (tNot (tB (c1 (oIsi "tuple") (cIdx (cVar 0) (cK (.int 1)))))) (tB (c2 oGt (c1 oLen (cIdx (cVar 0) (cK (.int 1)))) (cK (.int 8))))) (sRet (cK (.bl false))) sNop)
  (sSeq (sIf (tNot (tB (c1 oAll (cLc [1] (iTup (cIdx (cVar 0) (cK (.int 1)))) (.nm 1) tYes (cCall f_is_pair (aCons (cVar 1) (aCons (cCut (cK (.str [97, 98, 99, 100, 101])) none (some (cIdx (cVar 0) (cK (.int 0))))) aNil))))))) (sRet (cK (.bl false))) sNop)
  (sRet (c2 oEq (c1 oLenSet (cLc [2, 3] (iTup (cIdx (cVar 0) (cK (.int 1)))) (.tp (.nm 2) (.nm 3)) tYes (cVar 2))) (c1 oLen (cIdx (cVar 0) (cK (.int 1)))))))))
def f_is_votes : Fn := fn 1 4 c_is_votes
def c__law_any_ballot : M Fl := (sSeq (sPar 2 3 false false (c1 oListS (cCut (cK (.str [97, 98, 99, 100, 101])) none (some (cVar 1)))) (cK (.str [])))
  (sSeq (sFor (iRng (c2 oAdd (cK (.int 1)) (cCall f__law_roll (aCons (cVar 0) (aCons (cVar 1) aNil))))) (.nm 4) (sSeq (sSet 5 (cIdx (cVar 2) (cCall f__law_roll (aCons (cVar 0) (aCons (c1 oLen (cVar 2)) aNil)))))
  (sPar 2 3 false false (cLc [6] (iLst (cVar 2)) (.nm 6) (tB (c2 oNe (cVar 6) (cVar 5))) (cVar 6)) (c2 oAdd (cVar 3) (cVar 5)))))
  (sRet (cVar 3))))
def f__law_any_ballot : Fn := fn 2 7 c__law_any_ballot
def c_need_votes : M Fl := (sIf (tNot (tB (cCall f_is_votes (aCons (cVar 0) aNil)))) (sRaise 0) sNop)
def f_need_votes : Fn := fn 1 1 c_need_votes
def c__law_any_votes : M Fl := (sSeq (sPar 4 5 false true (c2 oAdd (cVar 1) (cCall f__law_roll (aCons (cVar 0) (aCons (c2 oAdd (c2 oSub (cVar 2) (cVar 1)) (cK (.int 1))) aNil)))) (cLst aNil))
  (sSeq (sSet 6 (cIdx (cLst (aCons (cK (.int 2)) (aCons (cK (.int 5)) (aCons (cK (.int 20)) aNil)))) (cCall f__law_roll (aCons (cVar 0) (aCons (cK (.int 3)) aNil)))))
  (sSeq (sFor (iRng (cCall f__law_roll (aCons (cVar 0) (aCons (c2 oAdd (cVar 3) (cK (.int 1))) aNil)))) (.nm 7) (sSeq (sSet 8 (cCall f__law_any_ballot (aCons (cVar 0) (aCons (cVar 4) aNil))))
  (sIf (tB (c2 (oInN true) (cVar 8) (cLc [9, 10] (iOwn 5) (.tp (.nm 9) (.nm 10)) tYes (cVar 9) [5]))) (sApp 5 (cTup (aCons (cVar 8) (aCons (c2 oAdd (cK (.int 1)) (cCall f__law_roll (aCons (cVar 0) (aCons (cVar 6) aNil)))) aNil)))) sNop)))
  (sRet (cTup (aCons (cVar 4) (aCons (c1 oTuple (cVar 5)) aNil)))))))
def f__law_any_votes : Fn := fn 4 11 c__law_any_votes
def c_counts : M Fl := (sSeq (sDo (cCall f_need_votes (aCons (cVar 0) aNil)))
  (sSeq (sIf (tNot (tB (cCall f_are_letters (aCons (cVar 1) (aCons (cCall f_candidates_of (aCons (cVar 0) aNil)) aNil))))) (sRaise 5) sNop)
  (sRet (c1 oTuple (cCall f_counts_of (aCons (cIdx (cVar 0) (cK (.int 1))) (aCons (cVar 1) aNil)))))))
def f_counts : Fn := fn 2 2 c_counts
def c_preferring : M Fl := (sSeq (sDo (cCall f_need_votes (aCons (cVar 0) aNil)))
  (sSeq (sDo (cCall f_need_candidate (aCons (cVar 0) (aCons (cVar 1) aNil))))
  (sSeq (sDo (cCall f_need_candidate (aCons (cVar 0) (aCons (cVar 2) aNil))))
  (sSeq (sIf (tB (c2 oEq (cVar 1) (cVar 2))) (sRaise 1) sNop)
  (sRet (cCall f_voters_for (aCons (cVar 0) (aCons (cVar 1) (aCons (cVar 2) aNil)))))))))
def f_preferring : Fn := fn 3 3 c_preferring
def c__law_counts : M Fl := (sSeq (sNew 2 (c2 Su.oRep (cLst (aCons (cK (.int 0)) aNil)) (c1 oLen (cVar 1))))
  (sSeq (sFor (iTup (cVar 0)) (.tp (.nm 3) (.nm 4)) (sSeq (sSet 5 (cLc [6] (iStr (cVar 3)) (.nm 6) (tB (c2 (oInN false) (cVar 6) (cVar 1))) (cVar 6)))
  (sIf (tB (c2 oNe (cVar 5) (cLst aNil))) (sPut 2 (c2 oFind (cStr (cVar 1)) (cIdx (cVar 5) (cK (.int 0)))) (c2 oAdd (cOIdx 2 (c2 oFind (cStr (cVar 1)) (cIdx (cVar 5) (cK (.int 0))))) (cVar 4))) sNop)))
  (sRet (cVar 2))))
def f__law_counts : Fn := fn 2 7 c__law_counts
def c_count_voters : M Fl := (sSeq (sDo (cCall f_need_votes (aCons (cVar 0) aNil)))
  (sRet (c1 oSum (cLc [1, 2] (iTup (cIdx (cVar 0) (cK (.int 1)))) (.tp (.nm 1) (.nm 2)) tYes (cVar 2)))))
def f_count_voters : Fn := fn 1 3 c_count_voters
def c__law_is_ballot : M Fl := (sRet (cAnd (c2 oNe (cVar 1) (cK (.str []))) (cAnd (c2 oEq (c1 oLenSet (cVar 1)) (c1 oLen (cVar 1))) (c1 oAll (cLc [2] (iStr (cVar 1)) (.nm 2) tYes (c2 (oInN false) (cVar 2) (cCut (cK (.str [97, 98, 99, 100, 101])) none (some (cVar 0)))))))))
def f__law_is_ballot : Fn := fn 2 3 c__law_is_ballot
def c_is_ballot : M Fl := (sSeq (sDo (cCall f_need_votes (aCons (cVar 0) aNil)))
  (sRet (cCall f_are_letters (aCons (cVar 1) (aCons (cCall f_candidates_of (aCons (cVar 0) aNil)) aNil)))))
def f_is_ballot : Fn := fn 2 2 c_is_ballot
end Pu

namespace Pu
theorem oMul_ok {i j : Int} (h1 : -18446744073709551616 < j) (h2 : j < 18446744073709551616) : oMul (.int i) (.int j) = some (.int (i * j)) := by
  unfold oMul
  exact if_pos (.inr (.inl (show j.natAbs < 18446744073709551616 by omega)))
theorem oMul_ok' {i j : Int} (h1 : -18446744073709551616 < i) (h2 : i < 18446744073709551616) : oMul (.int i) (.int j) = some (.int (i * j)) := by
  unfold oMul
  exact if_pos (.inl (show i.natAbs < 18446744073709551616 by omega))
theorem big500 : (18446744073709551616 : Nat) ≤ 2 ^ 500 := by decide +kernel
theorem oMul_mid {i j : Int} (h1 : i.natAbs < 2 ^ 400) (h2 : j.natAbs < 2 ^ 400) : oMul (.int i) (.int j) = some (.int (i * j)) := by
  have h : (2 : Nat) ^ 400 ≤ 2 ^ 500 := by decide +kernel
  unfold oMul
  exact if_pos (.inr (.inr ⟨Nat.lt_of_lt_of_le h1 h, Nat.lt_of_lt_of_le h2 h⟩))
theorem oDiv_ok {i j : Int} (h1 : 0 < j) (h2 : j < 18446744073709551616) : oDiv (.int i) (.int j) = some (.int (i / j)) := by
  unfold oDiv
  refine if_pos ⟨h1, Nat.lt_of_lt_of_le ?_ big500⟩
  omega
theorem oMod_ok {i j : Int} (h1 : 0 < j) : oMod (.int i) (.int j) = some (.int (i % j)) := if_pos h1
end Pu

namespace Pu
/-! ### each construct at a state -/
section
variable {A B : Type} {r : Rho} {m : D}
theorem ev_bd (x : M A) (f : A → M B) : bd x f r m = (match x r m with
  | .ok a r' m' => f a r' m'
  | .exc c m' => .exc c m'
  | .bad => .bad) := Eq.trans rfl rfl
theorem ev_pu (a : A) : pu a r m = .ok a r m := Eq.trans rfl rfl
theorem ev_some (a : A) : opt (some a) r m = .ok a r m := Eq.trans rfl rfl
theorem ev_none : opt (none : Option A) r m = .bad := Eq.trans rfl rfl
end
section
variable {r : Rho} {m : D} {i j l k n : Nat} {f g : D → D → Option D} {h : D → Option D} {a b c : M D} {t u : M Bool} {p q : M Fl} {fn' : Fn} {as : M (List D)} {tg : Tg} {d e : D}
theorem ev_var : cVar i r m = (match r[i]? with
  | some (some (.v d)) => .ok d r m
  | some (some (.own d)) => .ok d (r.set i (some (.v d))) m
  | _ => .bad) := Eq.trans rfl rfl
theorem ev_K : cK d r m = .ok d r m := Eq.trans rfl rfl
theorem ev_c1 : c1 h a r m = bd a (fun x => opt (h x)) r m := Eq.trans rfl rfl
theorem ev_c2 : c2 f a b r m = bd a (fun x => bd b fun y => opt (f x y)) r m := Eq.trans rfl rfl
theorem ev_tB : tB a r m = bd a (fun x => match x with
  | .bl b => pu b
  | _ => fun _ _ => .bad) r m := Eq.trans rfl rfl
theorem ev_tAnd : tAnd t u r m = bd t (fun b => if b then u else pu false) r m := Eq.trans rfl rfl
theorem ev_tOr : tOr t u r m = bd t (fun b => if b then pu true else u) r m := Eq.trans rfl rfl
theorem ev_tNot : tNot t r m = bd t (fun b => pu (!b)) r m := Eq.trans rfl rfl
theorem ev_And : cAnd a b r m = bd (tB a) (fun k => if k then b else pu (.bl false)) r m := Eq.trans rfl rfl
theorem ev_Or : cOr a b r m = bd (tB a) (fun k => if k then pu (.bl true) else b) r m := Eq.trans rfl rfl
theorem ev_Not : cNot a r m = bd (tB a) (fun k => pu (.bl (!k))) r m := Eq.trans rfl rfl
theorem ev_If : cIf t a b r m = bd t (fun k => if k then a else b) r m := Eq.trans rfl rfl
theorem ev_chain : cChain f g a b c r m = bd a (fun x => bd b fun y => bd (tB (opt (f x y))) fun k => if k then bd c fun z => opt (g y z) else pu (.bl false)) r m := Eq.trans rfl rfl
theorem ev_nil : aNil r m = .ok [] r m := Eq.trans rfl rfl
theorem ev_cons : aCons a as r m = bd a (fun x => bd as fun xs => pu (x :: xs)) r m := Eq.trans rfl rfl
theorem ev_tup : cTup as r m = bd as (fun ds => opt (if ds.length ≤ LN then some (.tup ds) else none)) r m := Eq.trans rfl rfl
theorem ev_lst : cLst as r m = bd as (fun ds => opt (if ds.length ≤ LN then some (.lst ds) else none)) r m := Eq.trans rfl rfl
theorem ev_idx : cIdx a b r m = bd a (fun x => bd b fun y => fun r m => match x with
  | .amb => opt (oIdx m y) r m
  | x => opt (oIdx x y) r m) r m := Eq.trans rfl rfl
theorem ev_call : cCall fn' as r m = bd as (fun ds => ap fn' ds) r m := Eq.trans rfl rfl
theorem ev_ap (ds : List D) : ap fn' ds r m = (match fn' ds m with
  | .ok d m' => .ok d r m'
  | .exc c m' => .exc c m'
  | .bad => .bad) := Eq.trans rfl rfl
theorem ev_cut {lo hi : Option (M D)} : cCut a lo hi r m = bd a (fun x => bd (part lo) fun l => bd (part hi) fun h => opt (oCut x l h)) r m := Eq.trans rfl rfl
theorem ev_part0 : part none r m = .ok none r m := Eq.trans rfl rfl
theorem ev_part1 : part (some a) r m = bd a (fun x => match x with
  | .int i => pu (some i)
  | _ => fun _ _ => .bad) r m := Eq.trans rfl rfl
theorem ev_str : cStr a r m = bd a (fun x => match x with
  | .str z => pu (.str z)
  | _ => fun _ _ => .bad) r m := Eq.trans rfl rfl
theorem ev_tgt : tgt tg d r m = (match asg tg d r with
  | some r' => .ok () r' m
  | none => .bad) := Eq.trans rfl rfl
theorem ev_iLst : iLst a r m = bd a (fun x => match x with
  | .lst ds => pu ds
  | _ => fun _ _ => .bad) r m := Eq.trans rfl rfl
theorem ev_iTup : iTup a r m = bd a (fun x => match x with
  | .tup ds => pu ds
  | _ => fun _ _ => .bad) r m := Eq.trans rfl rfl
theorem ev_iStr : iStr a r m = bd a (fun x => match x with
  | .str s => pu (sgn s)
  | _ => fun _ _ => .bad) r m := Eq.trans rfl rfl
theorem ev_iRng : iRng a r m = bd a (fun x => match x with
  | .int j => if j.natAbs ≤ 16777216 then pu (rg 0 j.toNat) else fun _ _ => .bad
  | _ => fun _ _ => .bad) r m := Eq.trans rfl rfl
theorem ev_nop : sNop r m = .ok .nx r m := Eq.trans rfl rfl
theorem ev_seq : sSeq p q r m = bd p (fun f => match f with
  | .nx => q
  | .rt d => pu (.rt d)) r m := Eq.trans rfl rfl
theorem ev_st {s : Sl} : st i s r m = if i < r.length then .ok .nx (r.set i (some s)) m else .bad := Eq.trans rfl rfl
theorem ev_set : sSet i a r m = bd a (fun d => st i (.v d)) r m := Eq.trans rfl rfl
theorem ev_new : sNew i a r m = bd a (fun d => st i (.own d)) r m := Eq.trans rfl rfl
theorem ev_sTgt : sTgt tg a r m = bd a (fun d => bd (tgt tg d) fun _ => pu .nx) r m := Eq.trans rfl rfl
theorem ev_par {oi oj : Bool} : sPar i j oi oj a b r m = bd a (fun x => bd b fun y => bd (st i (sl oi x)) fun _ => st j (sl oj y)) r m := Eq.trans rfl rfl
theorem ev_sIf : sIf t p q r m = bd t (fun k => if k then p else q) r m := Eq.trans rfl rfl
theorem ev_ret : sRet a r m = bd a (fun d => pu (.rt d)) r m := Eq.trans rfl rfl
theorem ev_do : sDo a r m = bd a (fun _ => pu .nx) r m := Eq.trans rfl rfl
theorem ev_raise : sRaise n r m = .exc n m := Eq.trans rfl rfl
theorem ev_for {it : M (List D)} : sFor it tg p r m = bd it (fun ds => forL tg p ds) r m := Eq.trans rfl rfl
theorem ev_forNil : forL tg p [] r m = .ok .nx r m := Eq.trans rfl rfl
theorem ev_forCons (ds : List D) : forL tg p (d :: ds) r m = bd (tgt tg d) (fun _ => bd p fun f => match f with
    | .nx => forL tg p ds
    | .rt x => pu (.rt x)) r m := Eq.trans rfl rfl
end
/-- what a call gives, by its body's end -/
def ro : Rs Fl → Ro
  | .ok .nx _ m' => .ok .non m'
  | .ok (.rt d) _ m' => .ok d m'
  | .exc c m' => .exc c m'
  | .bad => .bad
theorem fn_ev {k n : Nat} {body : M Fl} {ds : List D} {m : D} (h : ds.length = k) : fn k n body ds m = ro (body (start n ds) m) := by
  unfold fn
  rw [if_pos h]
  cases body (start n ds) m with
  | ok f r m' => cases f <;> rfl
  | exc c m' => rfl
  | bad => rfl
end Pu

namespace Pu
/-! ### walks -/
/-- a for loop by what holds ahead of each turn -/
theorem forL_inv {tg : Tg} {b : M Fl} (I : Nat → Rho → D → Prop) : ∀ (ds : List D) (i : Nat) (r : Rho) (m : D), I i r m →
    (∀ (j : Nat) (d : D) (r : Rho) (m : D), ds[j]? = some d → I (i + j) r m → ∃ r1 r2 m2, asg tg d r = some r1 ∧ b r1 m = .ok .nx r2 m2 ∧ I (i + j + 1) r2 m2) →
    ∃ r' m', forL tg b ds r m = .ok .nx r' m' ∧ I (i + ds.length) r' m'
  | [], i, r, m, h, _ => ⟨r, m, ev_forNil, h⟩
  | d :: ds, i, r, m, h, st => by
    obtain ⟨r1, r2, m2, h1, h2, h3⟩ := st 0 d r m rfl h
    obtain ⟨r', m', h4, h5⟩ := forL_inv I ds (i + 1) r2 m2 h3 fun j d r m hd hI => by
      have := st (j + 1) d r m (by simpa using hd) (by rw [show i + (j + 1) = i + 1 + j by omega]; exact hI)
      rw [show i + (j + 1) + 1 = i + 1 + j + 1 by omega] at this
      exact this
    refine ⟨r', m', ?_, by rw [List.length_cons, show i + (ds.length + 1) = i + 1 + ds.length by omega]; exact h5⟩
    rw [ev_forCons, ev_bd, ev_tgt, h1]
    dsimp only
    rw [ev_bd, h2]
    exact h4
/-- a list comprehension whose parts change nothing -/
theorem lcGo_run {vs : List Nat} {tg : Tg} {t : M Bool} {e : M D} {m : D} {w : Rho} (tf : D → Bool) (ef : D → D) : ∀ (ds acc : List D) (r : Rho), wipe r vs = w →
    (∀ d ∈ ds, ∃ r1, asg tg d w = some r1 ∧ wipe r1 vs = w ∧ t r1 m = .ok (tf d) r1 m ∧ (tf d = true → e r1 m = .ok (ef d) r1 m)) →
    ∃ r', lcGo vs tg t e ds acc r m = .ok (acc ++ (ds.filter tf).map ef) r' m ∧ wipe r' vs = w
  | [], acc, r, hw, _ => ⟨r, by simp [lcGo, pu], hw⟩
  | d :: ds, acc, r, hw, h => by
    obtain ⟨r1, h1, h2, h3, h4⟩ := h d List.mem_cons_self
    have ih := fun acc r' hw' => lcGo_run (t := t) (e := e) tf ef ds acc r' hw' fun d hd => h d (List.mem_cons_of_mem _ hd)
    unfold lcGo tgt
    rw [hw, h1]
    dsimp only
    rw [h3]
    cases q : tf d with
    | false =>
      dsimp only
      obtain ⟨r', h5, h6⟩ := ih acc r1 h2
      exact ⟨r', by rw [h5, List.filter_cons, q]; rfl, h6⟩
    | true =>
      dsimp only
      rw [h4 q]
      dsimp only
      obtain ⟨r', h5, h6⟩ := ih (acc ++ [ef d]) r1 h2
      exact ⟨r', by rw [h5, List.filter_cons, q]; simp, h6⟩
theorem back_self (r : Rho) : ∀ (vs : List Nat), back r r vs = r
  | [] => rfl
  | v :: vs => by
    unfold back
    rw [back_self r vs]
    apply List.ext_getElem?
    intro i
    by_cases h : v = i
    · subst h
      by_cases hl : v < r.length
      · rw [List.getElem?_set_self hl]
        rw [List.getElem?_eq_getElem hl]
        rfl
      · rw [List.getElem?_eq_none (by rw [List.length_set]; omega), List.getElem?_eq_none (by omega)]
    · rw [List.getElem?_set_ne h]
theorem wipe_len (r : Rho) : ∀ vs : List Nat, (wipe r vs).length = r.length
  | [] => rfl
  | v :: vs => by unfold wipe; rw [List.length_set, wipe_len r vs]
theorem back_len (r0 r : Rho) : ∀ vs : List Nat, (back r0 r vs).length = r.length
  | [] => rfl
  | v :: vs => by unfold back; rw [List.length_set, back_len r0 r vs]
theorem wipe_at (r : Rho) : ∀ (vs : List Nat) (i : Nat), i ∉ vs → (wipe r vs)[i]? = r[i]?
  | [], _, _ => rfl
  | v :: vs, i, h => by
    unfold wipe
    rw [List.getElem?_set_ne (fun e => h (by rw [e]; exact List.mem_cons_self)), wipe_at r vs i fun z => h (List.mem_cons_of_mem _ z)]
theorem back_at (r0 r : Rho) : ∀ (vs : List Nat) (i : Nat), i ∉ vs → (back r0 r vs)[i]? = r[i]?
  | [], _, _ => rfl
  | v :: vs, i, h => by
    unfold back
    rw [List.getElem?_set_ne (fun e => h (by rw [e]; exact List.mem_cons_self)), back_at r0 r vs i fun z => h (List.mem_cons_of_mem _ z)]
theorem back_in (r0 r : Rho) (hl : r.length = r0.length) : ∀ (vs : List Nat) (i : Nat), i ∈ vs → i < r0.length → (back r0 r vs)[i]? = r0[i]?
  | v :: vs, i, h, hi => by
    unfold back
    by_cases e : v = i
    · subst e
      rw [List.getElem?_set_self (by rw [back_len, hl]; exact hi), List.getElem?_eq_getElem hi]
      rfl
    · rw [List.getElem?_set_ne e]
      exact back_in r0 r hl vs i ((List.mem_cons.mp h).resolve_left fun z => e z.symm) hi
/-- behind the block all slots stand as they stood -/
theorem back_wipe {r0 r : Rho} {vs : List Nat} (h : wipe r vs = wipe r0 vs) : back r0 r vs = r0 := by
  have hl : r.length = r0.length := by have := congrArg List.length h; rwa [wipe_len, wipe_len] at this
  apply List.ext_getElem?
  intro i
  by_cases hi : i < r0.length
  · by_cases hv : i ∈ vs
    · exact back_in r0 r hl vs i hv hi
    · rw [back_at r0 r vs i hv, ← wipe_at r vs i hv, h, wipe_at r0 vs i hv]
  · rw [List.getElem?_eq_none (by rw [back_len, hl]; omega), List.getElem?_eq_none (by omega)]
theorem lc_run {vs : List Nat} {it : M (List D)} {tg : Tg} {t : M Bool} {e : M D} {r : Rho} {m : D} {ds : List D} (tf : D → Bool) (ef : D → D) (hi : it r m = .ok ds r m)
    (h : ∀ d ∈ ds, ∃ r1, asg tg d (wipe r vs) = some r1 ∧ wipe r1 vs = wipe r vs ∧ t r1 m = .ok (tf d) r1 m ∧ (tf d = true → e r1 m = .ok (ef d) r1 m)) :
    cLc vs it tg t e [] r m = .ok (.lst ((ds.filter tf).map ef)) r m := by
  unfold cLc
  rw [ev_bd, hi]
  dsimp only
  rw [List.append_nil]
  obtain ⟨r', h1, h2⟩ := lcGo_run (t := t) (e := e) tf ef ds [] r rfl h
  rw [h1]
  dsimp only
  rw [back_wipe h2, List.nil_append]
theorem lenSet_strs (bs : List (List Nat)) (h : bs.length ≤ 1000) : oLenSet (.lst (bs.map .str)) = some (.int (dd bs).length) := by
  show (strsD (bs.map .str)).bind _ = _
  rw [strs_map]
  exact if_pos h
theorem sum_ints (ns : List Int) : oSum (.lst (ns.map .int)) = some (.int ns.sum) := by
  show (intsD (ns.map .int)).map _ = _
  rw [ints_map]
  rfl
end Pu

namespace Pu
theorem oAdd_i (i j : Int) : oAdd (.int i) (.int j) = some (.int (i + j)) := Eq.trans rfl rfl
theorem oSub_i (i j : Int) : oSub (.int i) (.int j) = some (.int (i - j)) := Eq.trans rfl rfl
theorem mod_ex (i j : Int) (h : 0 < j) : ∃ a, oMod (.int i) (.int j) = some (.int a) ∧ 0 ≤ a ∧ a < j := ⟨i % j, oMod_ok h, Int.emod_nonneg _ (by omega), Int.emod_lt_of_pos _ h⟩
theorem big129 : (340282366920938463463374607431768211507 : Nat) < 2 ^ 400 := by decide +kernel
theorem drawn_run (c k : Int) (m : D) : ∃ v : Int, 0 ≤ v ∧ f__law_drawn [.int c, .int k] m = .ok (.int v) m := by
  have f1 : oMul (.int c) (.int 6364136223846793005) = some (.int (c * 6364136223846793005)) := oMul_ok (by omega) (by omega)
  have f3 : oMul (.int (k + 1)) (.int 1442695040888963407) = some (.int ((k + 1) * 1442695040888963407)) := oMul_ok (by omega) (by omega)
  obtain ⟨a1, f5, l1, u1⟩ := mod_ex (c * 6364136223846793005 + (k + 1) * 1442695040888963407) 340282366920938463463374607431768211507 (by omega)
  have f6 : oMul (.int a1) (.int a1) = some (.int (a1 * a1)) := oMul_mid (Nat.lt_trans (by omega) big129) (Nat.lt_trans (by omega) big129)
  obtain ⟨a2, f7, l2, u2⟩ := mod_ex (a1 * a1) 340282366920938463463374607431768211297 (by omega)
  obtain ⟨x, f8, l3, u3⟩ := mod_ex a2 18446744073709551557 (by omega)
  have f9 : oDiv (.int a2) (.int 18446744073709551557) = some (.int (a2 / 18446744073709551557)) := oDiv_ok (by omega) (by omega)
  generalize hy : a2 / 18446744073709551557 = y at f9
  have l4 : 0 ≤ y := by omega
  have u4 : y ≤ 18446744073709552000 := by omega
  have f10 : oMul (.int (x + 1)) (.int (y + 1)) = some (.int ((x + 1) * (y + 1))) := oMul_ok' (by omega) (by omega)
  have u5 : (x + 1) * (y + 1) ≤ 18446744073709551557 * 18446744073709552001 := Int.mul_le_mul (by omega) (by omega) (by omega) (by omega)
  have l5 : 0 ≤ (x + 1) * (y + 1) := Int.mul_nonneg (by omega) (by omega)
  generalize (x + 1) * (y + 1) = z at f10 u5 l5
  have f11 : oMul (.int z) (.int a2) = some (.int (z * a2)) := by
    have hb : (340282366920938463463374607431768211507000 : Nat) < 2 ^ 400 := by decide +kernel
    exact oMul_mid (Nat.lt_trans (by omega) hb) (Nat.lt_trans (by omega) hb)
  obtain ⟨v, f12, l6, u6⟩ := mod_ex (z * a2) 340282366920938463463374607431768211507 (by omega)
  refine ⟨v, l6, ?_⟩
  have hs : start 3 [.int c, .int k] = [some (.v (.int c)), some (.v (.int k)), none] := Eq.trans rfl rfl
  have hl : ∀ a b d : Option Sl, 2 < ([a, b, d] : Rho).length := fun _ _ _ => by simp
  unfold f__law_drawn
  rw [fn_ev (show [D.int c, D.int k].length = 2 from rfl), hs, c__law_drawn.eq_1]
  simp only [ev_bd, ev_pu, ev_some, ev_var, ev_K, ev_c2, ev_seq, ev_ret, ev_set, ev_st, List.getElem?_cons_zero, List.getElem?_cons_succ, List.set_cons_zero, List.set_cons_succ, hl, ↓reduceIte, f1, f3, f5, f6, f7, f8, f9, f10, f11, f12, oAdd_i, ro]
end Pu
namespace Pu
/-- dice as they lie -/
def Dc (m : D) : Prop := ∃ c k : Int, m = .lst [.int c, .int k]
theorem oIdx0 (a b : D) : oIdx (.lst [a, b]) (.int 0) = some a := Eq.trans rfl rfl
theorem oIdx1 (a b : D) : oIdx (.lst [a, b]) (.int 1) = some b := Eq.trans rfl rfl
theorem ev_aput {i : Nat} {k c : M D} {r : Rho} {m : D} : sAput i k c r m = bd c (fun d => bd (cVar i) fun y => bd k fun x => fun r m => match y, m, x with
  | .amb, .lst ds, .int j => (match ixN ds.length j with
    | some n => .ok .nx r (.lst (ds.set n d))
    | none => .bad)
  | _, _, _ => .bad) r m := Eq.trans rfl rfl
theorem ix0 (a b : D) : ixN [a, b].length 0 = some 0 := Eq.trans rfl rfl
theorem ix1 (a b : D) : ixN [a, b].length 1 = some 1 := Eq.trans rfl rfl
theorem roll_run (many : Int) (h0 : 0 < many) (h1 : many < 18446744073709551616) (m : D) (hm : Dc m) : ∃ (v : Int) (m' : D), 0 ≤ v ∧ v < many ∧ Dc m' ∧ f__law_roll [.amb, .int many] m = .ok (.int v) m' := by
  obtain ⟨c, k, rfl⟩ := hm
  have hs : start 3 [.amb, .int many] = [some (.v .amb), some (.v (.int many)), none] := Eq.trans rfl rfl
  have hl : ∀ a b d : Option Sl, 2 < ([a, b, d] : Rho).length := fun _ _ _ => by simp
  have f0 : oPow (.int 10) (.int 18) = some (.int 1000000000000000000) := by kernel_rfl
  by_cases hc : (1000000000000000000 : Int) ≤ c
  · have g : oGe (.int c) (.int 1000000000000000000) = some (.bl true) := by
      show some (D.bl (decide ((1000000000000000000 : Int) ≤ c))) = _
      rw [decide_eq_true hc]
    obtain ⟨v, f1, l1, u1⟩ := mod_ex c many h0
    have f2 : oDiv (.int c) (.int many) = some (.int (c / many)) := oDiv_ok h0 h1
    refine ⟨v, .lst [.int (c / many), .int k], l1, u1, ⟨_, _, rfl⟩, ?_⟩
    unfold f__law_roll
    rw [fn_ev (show [D.amb, D.int many].length = 2 from rfl), hs, c__law_roll.eq_1]
    simp only [ev_bd, ev_pu, ev_some, ev_var, ev_K, ev_c2, ev_seq, ev_ret, ev_set, ev_st, ev_sIf, ev_tB, ev_idx, ev_aput, List.getElem?_cons_zero, List.getElem?_cons_succ, List.set_cons_zero, List.set_cons_succ, hl, ↓reduceIte, f0, f1, f2, g, oIdx0, oIdx1, ix0, ix1, ro]
  · have g : oGe (.int c) (.int 1000000000000000000) = some (.bl false) := by
      show some (D.bl (decide ((1000000000000000000 : Int) ≤ c))) = _
      rw [decide_eq_false hc]
    obtain ⟨z, lz, f1⟩ := drawn_run c (k + 1) (.lst [.int c, .int (k + 1)])
    have f2 : oDiv (.int z) (.int 8) = some (.int (z / 8)) := oDiv_ok (by omega) (by omega)
    obtain ⟨v, f3, l1, u1⟩ := mod_ex (z / 8) many h0
    refine ⟨v, .lst [.int c, .int (k + 1)], l1, u1, ⟨_, _, rfl⟩, ?_⟩
    unfold f__law_roll
    rw [fn_ev (show [D.amb, D.int many].length = 2 from rfl), hs, c__law_roll.eq_1]
    simp only [ev_bd, ev_pu, ev_some, ev_var, ev_K, ev_c2, ev_seq, ev_ret, ev_set, ev_st, ev_sIf, ev_tB, ev_nop, ev_idx, ev_aput, ev_call, ev_ap, ev_cons, ev_nil, List.getElem?_cons_zero, List.getElem?_cons_succ, List.set_cons_zero, List.set_cons_succ, hl, Bool.false_eq_true, ↓reduceIte, f0, f1, f2, f3, g, oIdx0, oIdx1, ix0, ix1, oAdd_i, ro]
end Pu

namespace Pu
def LET : List Nat := [97, 98, 99, 100, 101]
/-- a ballot of n candidates -/
structure Bal (n : Nat) (b : List Nat) : Prop where
  ne : b ≠ []
  nd : b.Nodup
  sub : ∀ c ∈ b, c ∈ LET.take n
theorem sgn_len (L : List Nat) : (sgn L).length = L.length := by simp [sgn]
theorem oIdx_sgn {L : List Nat} {v : Int} (h0 : 0 ≤ v) (h1 : v < L.length) : ∃ y, L[v.toNat]? = some y ∧ oIdx (.lst (sgn L)) (.int v) = some (.str [y]) := by
  have hv : v.toNat < L.length := by omega
  refine ⟨L[v.toNat], by simp [hv], ?_⟩
  show atI (sgn L) v = _
  unfold atI ixN
  rw [if_pos h0, if_pos (by rw [sgn_len]; exact h1)]
  simp [sgn, hv]
theorem ne_sgn (x y : Nat) : oNe (.str [x]) (.str [y]) = some (.bl (!(x == y))) := by
  show some (D.bl (!([x] == [y]))) = _
  congr 3
  by_cases h : x = y
  · subst h; simp
  · rw [beq_eq_false_iff_ne.mpr h, beq_eq_false_iff_ne.mpr (by simpa using h)]
theorem filter_sgn (L : List Nat) (y : Nat) (f : D → Bool) (hf : ∀ x, f (.str [x]) = !(x == y)) : (sgn L).filter f = sgn (L.filter fun x => !(x == y)) := by
  unfold sgn
  rw [List.filter_map]
  congr 1
  apply List.filter_congr
  intro x _
  exact hf x
theorem filter_len {L : List Nat} (nd : L.Nodup) {y : Nat} (hy : y ∈ L) : (L.filter fun x => !(x == y)).length + 1 = L.length := by
  induction L with
  | nil => cases hy
  | cons a L ih =>
    rw [List.nodup_cons] at nd
    by_cases e : a = y
    · subst e
      have : L.filter (fun x => !(x == a)) = L := List.filter_eq_self.mpr fun x hx => by
        have : x ≠ a := fun z => nd.1 (by rw [← z]; exact hx)
        simpa using this
      simp [List.filter_cons, this]
    · have hy' : y ∈ L := (List.mem_cons.mp hy).resolve_left fun z => e z.symm
      simp [List.filter_cons, e, ih nd.2 hy']
/-- which sign a letter is -/
def sg1 : D → Nat
  | .str [c] => c
  | _ => 0
theorem ballot_run (n : Nat) (h1 : 1 ≤ n) (h5 : n ≤ 5) (m : D) (hm : Dc m) : ∃ (b : List Nat) (m' : D), Bal n b ∧ Dc m' ∧ f__law_any_ballot [.amb, .int n] m = .ok (.str b) m' := by
  have hs : start 7 [.amb, .int n] = [some (.v .amb), some (.v (.int n)), none, none, none, none, none] := Eq.trans rfl rfl
  have hl : ∀ (i : Nat) (a b c d e f g : Option Sl), i < 7 → i < ([a, b, c, d, e, f, g] : Rho).length := fun i _ _ _ _ _ _ _ h => h
  have hcut : oCut (.str [97, 98, 99, 100, 101]) none (some (n : Int)) = some (.str (LET.take n)) := by
    match n, h1, h5 with
    | 1, _, _ => rfl
    | 2, _, _ => rfl
    | 3, _, _ => rfl
    | 4, _, _ => rfl
    | 5, _, _ => rfl
  have htl : (LET.take n).length = n := by rw [List.length_take]; simp [LET]; omega
  have hlist : oListS (.str (LET.take n)) = some (.lst (sgn (LET.take n))) := by
    show (if (LET.take n).length ≤ LN then _ else _) = _
    rw [if_pos (by rw [htl]; unfold LN; omega)]
  have hnd : (LET.take n).Nodup := List.Nodup.sublist (List.take_sublist _ _) (by decide)
  obtain ⟨v, m1, l1, u1, d1, f1⟩ := roll_run n (by omega) (by omega) m hm
  let I : Nat → Rho → D → Prop := fun i r m => Dc m ∧ ∃ (L F : List Nat) (x4 x5 : Option Sl), r = [some (.v .amb), some (.v (.int n)), some (.v (.lst (sgn L))), some (.v (.str F)), x4, x5, none] ∧ L.Nodup ∧ F.Nodup ∧ (∀ c ∈ L, c ∈ LET.take n) ∧ (∀ c ∈ F, c ∈ LET.take n) ∧ (∀ c ∈ F, c ∉ L) ∧ L.length + i = n ∧ F.length = i
  have hrun := forL_inv (tg := .nm 4) (b := (sSeq (sSet 5 (cIdx (cVar 2) (cCall f__law_roll (aCons (cVar 0) (aCons (c1 oLen (cVar 2)) aNil)))))
    (sPar 2 3 false false (cLc [6] (iLst (cVar 2)) (.nm 6) (tB (c2 oNe (cVar 6) (cVar 5))) (cVar 6)) (c2 oAdd (cVar 3) (cVar 5))))) I (rg 0 (1 + v).toNat) 0
    [some (.v .amb), some (.v (.int n)), some (.v (.lst (sgn (LET.take n)))), some (.v (.str [])), none, none, none] m1
    ⟨d1, LET.take n, [], none, none, rfl, hnd, List.nodup_nil, fun _ h => h, fun _ h => (by cases h), fun _ h => (by cases h), by omega, rfl⟩ ?_
  · obtain ⟨r', m', f2, d2, L, F, x4, x5, rfl, p1, p2, p3, p4, p5, p6, p7⟩ := hrun
    have hrl : (rg 0 (1 + v).toNat).length = (1 + v).toNat := by simp [rg]
    rw [hrl] at p6 p7
    refine ⟨F, m', ⟨fun z => ?_, p2, p4⟩, d2, ?_⟩
    · rw [z] at p7
      simp at p7
      omega
    · have hr : (1 + v).natAbs ≤ 16777216 := by omega
      unfold f__law_any_ballot
      rw [fn_ev (show [D.amb, D.int n].length = 2 from rfl), hs, c__law_any_ballot.eq_1]
      simp only [ev_bd, ev_pu, ev_some, ev_var, ev_K, ev_c1, ev_c2, ev_seq, ev_ret, ev_par, ev_st, ev_for, ev_iRng, ev_call, ev_ap, ev_cons, ev_nil, ev_cut, ev_part0, ev_part1, List.getElem?_cons_zero, List.getElem?_cons_succ, List.set_cons_zero, List.set_cons_succ, hl _ _ _ _ _ _ _ _ (show 2 < 7 by decide), hl _ _ _ _ _ _ _ _ (show 3 < 7 by decide), ↓reduceIte, hcut, hlist, f1, oAdd_i, sl, Bool.false_eq_true, hr, f2, ro]
  · intro j d r m hd hI
    obtain ⟨dm, L, F, x4, x5, rfl, p1, p2, p3, p4, p5, p6, p7⟩ := hI
    have hj : j < (1 + v).toNat := by
      have := (List.getElem?_eq_some_iff.mp hd).1
      simpa [rg] using this
    have hpos : 0 < (L.length : Int) := by omega
    obtain ⟨u, m2, lu, uu, d2, f2⟩ := roll_run (L.length : Int) hpos (by omega) m dm
    obtain ⟨y, hy, f3⟩ := oIdx_sgn lu uu
    have hyL : y ∈ L := List.mem_of_getElem? hy
    have hlen : oLen (.lst (sgn L)) = some (.int (L.length : Int)) := by show some (D.int ((sgn L).length : Int)) = _; rw [sgn_len]
    have hlc : ∀ x5', cLc [6] (iLst (cVar 2)) (.nm 6) (tB (c2 oNe (cVar 6) (cVar 5))) (cVar 6) [] [some (.v .amb), some (.v (.int n)), some (.v (.lst (sgn L))), some (.v (.str F)), x5', some (.v (.str [y])), none] m2 = .ok (.lst (sgn (L.filter fun x => !(x == y)))) [some (.v .amb), some (.v (.int n)), some (.v (.lst (sgn L))), some (.v (.str F)), x5', some (.v (.str [y])), none] m2 := fun x5' => by
      rw [← filter_sgn L y (fun d => !(sg1 d == y)) fun x => rfl]
      have := lc_run (vs := [6]) (it := iLst (cVar 2)) (tg := .nm 6) (t := tB (c2 oNe (cVar 6) (cVar 5))) (e := cVar 6) (r := [some (.v .amb), some (.v (.int n)), some (.v (.lst (sgn L))), some (.v (.str F)), x5', some (.v (.str [y])), none]) (m := m2) (ds := sgn L) (fun d => !(sg1 d == y)) id ?_ ?_
      · rw [this, List.map_id]
      · simp only [ev_iLst, ev_bd, ev_var, List.getElem?_cons_zero, List.getElem?_cons_succ, ev_pu]
      · intro d hd
        obtain ⟨x, hx, rfl⟩ := List.mem_map.mp hd
        refine ⟨[some (.v .amb), some (.v (.int n)), some (.v (.lst (sgn L))), some (.v (.str F)), x5', some (.v (.str [y])), some (.v (.str [x]))], rfl, rfl, ?_, fun _ => ?_⟩
        · simp only [ev_tB, ev_bd, ev_c2, ev_var, List.getElem?_cons_zero, List.getElem?_cons_succ, ev_pu, ev_some, ne_sgn, sg1]
        · simp only [ev_var, List.getElem?_cons_zero, List.getElem?_cons_succ, id]
    have hF : F.length + 1 ≤ LN := by unfold LN; omega
    have hadd : oAdd (.str F) (.str [y]) = some (.str (F ++ [y])) := by
      show (if F.length + [y].length ≤ LN then _ else _) = _
      exact if_pos hF
    refine ⟨[some (.v .amb), some (.v (.int n)), some (.v (.lst (sgn L))), some (.v (.str F)), some (.v d), x5, none], [some (.v .amb), some (.v (.int n)), some (.v (.lst (sgn (L.filter fun x => !(x == y))))), some (.v (.str (F ++ [y]))), some (.v d), some (.v (.str [y])), none], m2, rfl, ?_, d2, L.filter (fun x => !(x == y)), F ++ [y], some (.v d), some (.v (.str [y])), rfl, p1.filter _, ?_, fun c hc => p3 c (List.mem_filter.mp hc).1, ?_, ?_, ?_, by rw [List.length_append, p7]; rfl⟩
    · simp only [ev_bd, ev_pu, ev_some, ev_var, ev_K, ev_c1, ev_c2, ev_seq, ev_set, ev_par, ev_st, ev_idx, ev_call, ev_ap, ev_cons, ev_nil, List.getElem?_cons_zero, List.getElem?_cons_succ, List.set_cons_zero, List.set_cons_succ, hl _ _ _ _ _ _ _ _ (show 2 < 7 by decide), hl _ _ _ _ _ _ _ _ (show 3 < 7 by decide), hl _ _ _ _ _ _ _ _ (show 5 < 7 by decide), ↓reduceIte, hlen, f2, f3, hlc, hadd, sl, Bool.false_eq_true]
    · rw [List.nodup_append]
      exact ⟨p2, by simp, fun a ha b hb => by rw [List.mem_singleton.mp hb]; exact fun z => p5 a ha (by rw [z]; exact hyL)⟩
    · intro c hc
      rcases List.mem_append.mp hc with z | z
      · exact p4 c z
      · rw [List.mem_singleton.mp z]; exact p3 y hyL
    · intro c hc hcl
      rw [List.mem_filter] at hcl
      rcases List.mem_append.mp hc with z | z
      · exact p5 c z hcl.1
      · rw [List.mem_singleton.mp z] at hcl; simp at hcl
    · have := filter_len p1 hyL
      omega
end Pu

namespace Pu
theorem lc_runH {vs h : List Nat} {it : M (List D)} {tg : Tg} {t : M Bool} {e : M D} {r : Rho} {m : D} {ds : List D} (tf : D → Bool) (ef : D → D) (hi : it r m = .ok ds r m)
    (hh : ∀ d ∈ ds, ∃ r1, asg tg d (wipe r (vs ++ h)) = some r1 ∧ wipe r1 (vs ++ h) = wipe r (vs ++ h) ∧ t r1 m = .ok (tf d) r1 m ∧ (tf d = true → e r1 m = .ok (ef d) r1 m)) :
    cLc vs it tg t e h r m = .ok (.lst ((ds.filter tf).map ef)) r m := by
  unfold cLc
  rw [ev_bd, hi]
  dsimp only
  obtain ⟨r', h1, h2⟩ := lcGo_run (t := t) (e := e) tf ef ds [] r rfl hh
  rw [h1]
  dsimp only
  rw [back_wipe h2, List.nil_append]
theorem ev_app {i : Nat} {c : M D} {r : Rho} {m : D} : sApp i c r m = (match r[i]? with
  | some (some (.own (.lst _))) => bd c (fun d => fun r m => match r[i]? with
    | some (some (.own (.lst ds))) => if ds.length < LN then .ok .nx (r.set i (some (.own (.lst (ds ++ [d]))))) m else .bad
    | _ => .bad) r m
  | _ => .bad) := Eq.trans rfl rfl
theorem ev_iOwn {i : Nat} {r : Rho} {m : D} : iOwn i r m = (match r[i]? with
  | some (some (.own (.lst ds))) => .ok ds r m
  | _ => .bad) := Eq.trans rfl rfl
/-- votes: n candidates, pairs of ballots and voters -/
structure Vot (n : Nat) (ps : List (List Nat × Nat)) : Prop where
  n2 : 2 ≤ n
  n5 : n ≤ 5
  len : ps.length ≤ 8
  bal : ∀ p ∈ ps, Bal n p.1 ∧ 1 ≤ p.2 ∧ p.2 ≤ 20
  nd : (ps.map (·.1)).Nodup
def encP (p : List Nat × Nat) : D := .tup [.str p.1, .int p.2]
def encV (n : Nat) (ps : List (List Nat × Nat)) : D := .tup [.int n, .tup (ps.map encP)]
def fstD : D → D
  | .tup (a :: _) => a
  | _ => .non
theorem fst_enc (ps : List (List Nat × Nat)) : (ps.map encP).map fstD = ps.map fun p => .str p.1 := by
  rw [List.map_map]; rfl
theorem notIn_strs (b : List Nat) (bs : List (List Nat)) : oInN true (.str b) (.lst (bs.map .str)) = some (.bl (!decide (b ∈ bs))) := by
  have h1 : oIn (.str b) (.lst (bs.map .str)) = some (decide (b ∈ bs)) := by
    have hall : (bs.map D.str).all flat = true := by
      rw [List.all_eq_true]
      intro d hd
      obtain ⟨x, _, rfl⟩ := List.mem_map.mp hd
      rfl
    have e : oIn (.str b) (.lst (bs.map .str)) = (if flat (.str b) && (bs.map D.str).all flat then some ((bs.map D.str).any fun y => deq y (.str b)) else none) := by
      match b with
      | [] => rfl
      | [c] => rfl
      | _ :: _ :: _ => rfl
    rw [e, hall]
    simp only [flat, Bool.and_self, ↓reduceIte]
    congr 1
    rw [Bool.eq_iff_iff, List.any_eq_true, decide_eq_true_iff]
    constructor
    · rintro ⟨d, hd, hq⟩
      obtain ⟨x, hx, rfl⟩ := List.mem_map.mp hd
      have : x = b := by simpa [deq] using hq
      rw [← this]; exact hx
    · intro h
      exact ⟨.str b, List.mem_map.mpr ⟨b, h, rfl⟩, by simp [deq]⟩
  unfold oInN
  rw [h1]
  rfl
theorem votes_run (a b p : Nat) (h2 : 2 ≤ a) (hab : a ≤ b) (h5 : b ≤ 5) (hp : p ≤ 8) (m : D) (hm : Dc m) : ∃ (n : Nat) (ps : List (List Nat × Nat)) (m' : D), a ≤ n ∧ n ≤ b ∧ Vot n ps ∧ ps.length ≤ p ∧ Dc m' ∧ f__law_any_votes [.amb, .int a, .int b, .int p] m = .ok (encV n ps) m' := by
  have hs : start 11 [.amb, .int a, .int b, .int p] = [some (.v .amb), some (.v (.int a)), some (.v (.int b)), some (.v (.int p)), none, none, none, none, none, none, none] := Eq.trans rfl rfl
  have hl : ∀ (i : Nat) (a b c d e f g h i' j k : Option Sl), i < 11 → i < ([a, b, c, d, e, f, g, h, i', j, k] : Rho).length := fun i _ _ _ _ _ _ _ _ _ _ _ h => h
  obtain ⟨v, m1, l1, u1, d1, f1⟩ := roll_run ((b : Int) - a + 1) (by omega) (by omega) m hm
  obtain ⟨n, hn⟩ : ∃ n : Nat, (a : Int) + v = n := ⟨a + v.toNat, by omega⟩
  obtain ⟨w, m2, l2, u2, d2, f2⟩ := roll_run 3 (by omega) (by omega) m1 d1
  obtain ⟨hi, f3, hi1, hi2⟩ : ∃ hi : Int, oIdx (.lst [.int 2, .int 5, .int 20]) (.int w) = some (.int hi) ∧ 1 ≤ hi ∧ hi ≤ 20 := by
    obtain rfl | rfl | rfl : w = 0 ∨ w = 1 ∨ w = 2 := by omega
    · exact ⟨2, rfl, by omega, by omega⟩
    · exact ⟨5, rfl, by omega, by omega⟩
    · exact ⟨20, rfl, by omega, by omega⟩
  obtain ⟨z, m3, l3, u3, d3, f4⟩ := roll_run ((p : Int) + 1) (by omega) (by omega) m2 d2
  let I : Nat → Rho → D → Prop := fun i r m => Dc m ∧ ∃ (ps : List (List Nat × Nat)) (x7 x8 : Option Sl), r = [some (.v .amb), some (.v (.int a)), some (.v (.int b)), some (.v (.int p)), some (.v (.int n)), some (.own (.lst (ps.map encP))), some (.v (.int hi)), x7, x8, none, none] ∧ ps.length ≤ i ∧ (∀ q ∈ ps, Bal n q.1 ∧ 1 ≤ q.2 ∧ q.2 ≤ 20) ∧ (ps.map (·.1)).Nodup
  have hrun := forL_inv (tg := .nm 7) (b := (sSeq (sSet 8 (cCall f__law_any_ballot (aCons (cVar 0) (aCons (cVar 4) aNil))))
    (sIf (tB (c2 (oInN true) (cVar 8) (cLc [9, 10] (iOwn 5) (.tp (.nm 9) (.nm 10)) tYes (cVar 9) [5]))) (sApp 5 (cTup (aCons (cVar 8) (aCons (c2 oAdd (cK (.int 1)) (cCall f__law_roll (aCons (cVar 0) (aCons (cVar 6) aNil)))) aNil)))) sNop))) I (rg 0 z.toNat) 0
    [some (.v .amb), some (.v (.int a)), some (.v (.int b)), some (.v (.int p)), some (.v (.int n)), some (.own (.lst [])), some (.v (.int hi)), none, none, none, none] m3
    ⟨d3, [], none, none, rfl, Nat.le_refl _, fun _ h => (by cases h), List.nodup_nil⟩ ?_
  · obtain ⟨r', m', f5, d5, ps, x7, x8, rfl, q1, q2, q3⟩ := hrun
    have hrl : (rg 0 z.toNat).length = z.toNat := by simp [rg]
    rw [hrl] at q1
    refine ⟨n, ps, m', by omega, by omega, ⟨by omega, by omega, by omega, q2, q3⟩, by omega, d5, ?_⟩
    have hr : z.natAbs ≤ 16777216 := by omega
    have ht : oTuple (.lst (ps.map encP)) = some (.tup (ps.map encP)) := Eq.trans rfl rfl
    have h0 : ([] : List D).length ≤ LN := Nat.zero_le _
    have h3 : ([.int 2, .int 5, .int 20] : List D).length ≤ LN := by unfold LN; simp
    have h2' : ∀ x y : D, ([x, y] : List D).length ≤ LN := fun _ _ => by unfold LN; simp
    unfold f__law_any_votes
    rw [fn_ev (show [D.amb, D.int a, D.int b, D.int p].length = 4 from rfl), hs, c__law_any_votes.eq_1]
    simp only [ev_bd, ev_pu, ev_some, ev_var, ev_K, ev_c1, ev_c2, ev_seq, ev_ret, ev_set, ev_par, ev_st, ev_for, ev_iRng, ev_call, ev_ap, ev_cons, ev_nil, ev_lst, ev_tup, ev_idx, List.getElem?_cons_zero, List.getElem?_cons_succ, List.set_cons_zero, List.set_cons_succ, hl _ _ _ _ _ _ _ _ _ _ _ _ (show 4 < 11 by decide), hl _ _ _ _ _ _ _ _ _ _ _ _ (show 5 < 11 by decide), hl _ _ _ _ _ _ _ _ _ _ _ _ (show 6 < 11 by decide), ↓reduceIte, oSub_i, oAdd_i, f1, hn, f2, f3, f4, sl, Bool.false_eq_true, hr, f5, h0, h3, h2', ht, ro, encV]
  · intro j d r m hd hI
    obtain ⟨dm, ps, x7, x8, rfl, q1, q2, q3⟩ := hI
    have hj : j < z.toNat := by
      have := (List.getElem?_eq_some_iff.mp hd).1
      simpa [rg] using this
    obtain ⟨bb, m4, hb, d4, f5⟩ := ballot_run n (by omega) (by omega) m dm
    have hlc : cLc [9, 10] (iOwn 5) (.tp (.nm 9) (.nm 10)) tYes (cVar 9) [5] [some (.v .amb), some (.v (.int a)), some (.v (.int b)), some (.v (.int p)), some (.v (.int n)), some (.own (.lst (ps.map encP))), some (.v (.int hi)), some (.v d), some (.v (.str bb)), none, none] m4 = .ok (.lst ((ps.map (·.1)).map .str)) [some (.v .amb), some (.v (.int a)), some (.v (.int b)), some (.v (.int p)), some (.v (.int n)), some (.own (.lst (ps.map encP))), some (.v (.int hi)), some (.v d), some (.v (.str bb)), none, none] m4 := by
      have := lc_runH (vs := [9, 10]) (h := [5]) (it := iOwn 5) (tg := .tp (.nm 9) (.nm 10)) (t := tYes) (e := cVar 9) (r := [some (.v .amb), some (.v (.int a)), some (.v (.int b)), some (.v (.int p)), some (.v (.int n)), some (.own (.lst (ps.map encP))), some (.v (.int hi)), some (.v d), some (.v (.str bb)), none, none]) (m := m4) (ds := ps.map encP) (fun _ => true) fstD ?_ ?_
      · rw [this]
        have e1 : (ps.map encP).filter (fun _ => true) = ps.map encP := List.filter_eq_self.mpr fun _ _ => rfl
        rw [e1, fst_enc, List.map_map]
        rfl
      · simp only [ev_iOwn, List.getElem?_cons_zero, List.getElem?_cons_succ]
      · intro q hq
        obtain ⟨x, hx, rfl⟩ := List.mem_map.mp hq
        refine ⟨[some (.v .amb), some (.v (.int a)), some (.v (.int b)), some (.v (.int p)), some (.v (.int n)), none, some (.v (.int hi)), some (.v d), some (.v (.str bb)), some (.v (.str x.1)), some (.v (.int x.2))], rfl, rfl, rfl, fun _ => ?_⟩
        simp only [ev_var, List.getElem?_cons_zero, List.getElem?_cons_succ, fstD, encP]
    have hni := notIn_strs bb (ps.map (·.1))
    by_cases hbb : bb ∈ ps.map (·.1)
    · rw [decide_eq_true hbb] at hni
      refine ⟨[some (.v .amb), some (.v (.int a)), some (.v (.int b)), some (.v (.int p)), some (.v (.int n)), some (.own (.lst (ps.map encP))), some (.v (.int hi)), some (.v d), x8, none, none], [some (.v .amb), some (.v (.int a)), some (.v (.int b)), some (.v (.int p)), some (.v (.int n)), some (.own (.lst (ps.map encP))), some (.v (.int hi)), some (.v d), some (.v (.str bb)), none, none], m4, rfl, ?_, d4, ps, some (.v d), some (.v (.str bb)), rfl, by omega, q2, q3⟩
      simp only [ev_bd, ev_pu, ev_some, ev_var, ev_c2, ev_seq, ev_set, ev_sIf, ev_tB, ev_st, ev_call, ev_ap, ev_cons, ev_nil, ev_nop, List.getElem?_cons_zero, List.getElem?_cons_succ, List.set_cons_zero, List.set_cons_succ, hl _ _ _ _ _ _ _ _ _ _ _ _ (show 8 < 11 by decide), ↓reduceIte, f5, hlc, hni, Bool.not_true, Bool.false_eq_true]
    · rw [decide_eq_false hbb] at hni
      obtain ⟨u, m5, lu, uu, d5, f6⟩ := roll_run hi (by omega) (by omega) m4 d4
      obtain ⟨tt, ht⟩ : ∃ tt : Nat, (1 : Int) + u = tt := ⟨1 + u.toNat, by omega⟩
      have h2' : ∀ x y : D, ([x, y] : List D).length ≤ LN := fun _ _ => by unfold LN; simp
      have hll : (ps.map encP).length < LN := by rw [List.length_map]; unfold LN; omega
      refine ⟨[some (.v .amb), some (.v (.int a)), some (.v (.int b)), some (.v (.int p)), some (.v (.int n)), some (.own (.lst (ps.map encP))), some (.v (.int hi)), some (.v d), x8, none, none], [some (.v .amb), some (.v (.int a)), some (.v (.int b)), some (.v (.int p)), some (.v (.int n)), some (.own (.lst ((ps ++ [(bb, tt)]).map encP))), some (.v (.int hi)), some (.v d), some (.v (.str bb)), none, none], m5, rfl, ?_, d5, ps ++ [(bb, tt)], some (.v d), some (.v (.str bb)), rfl, by rw [List.length_append]; simp; omega, ?_, ?_⟩
      · simp only [ev_bd, ev_pu, ev_some, ev_var, ev_K, ev_c2, ev_seq, ev_set, ev_sIf, ev_tB, ev_st, ev_call, ev_ap, ev_cons, ev_nil, ev_app, ev_tup, List.getElem?_cons_zero, List.getElem?_cons_succ, List.set_cons_zero, List.set_cons_succ, hl _ _ _ _ _ _ _ _ _ _ _ _ (show 8 < 11 by decide), ↓reduceIte, f5, hlc, hni, Bool.not_false, f6, oAdd_i, ht, h2', hll, List.map_append, List.map_cons, List.map_nil, encP]
      · intro q hq
        rcases List.mem_append.mp hq with e | e
        · exact q2 q e
        · rw [List.mem_singleton.mp e]; exact ⟨hb, by show 1 ≤ tt; omega, by show tt ≤ 20; omega⟩
      · rw [List.map_append, List.nodup_append]
        refine ⟨q3, by simp, fun x hx y hy => ?_⟩
        have : y = bb := by simpa using hy
        rw [this]
        exact fun e => hbb (by rw [← e]; exact hx)
end Pu

namespace Pu
section
variable {A : Type} [BEq A] [LawfulBEq A]
def ddF (acc : List A) (xs : List A) : List A := xs.foldl (fun σ v => if σ.any (· == v) then σ else σ ++ [v]) acc
theorem ddF_le : ∀ (xs acc : List A), (ddF acc xs).length ≤ acc.length + xs.length
  | [], acc => Nat.le_refl _
  | x :: xs, acc => by
    unfold ddF
    rw [List.foldl_cons]
    have := ddF_le xs (if acc.any (· == x) then acc else acc ++ [x])
    unfold ddF at this
    split at this <;> simp_all <;> omega
theorem ddF_len : ∀ (xs acc : List A), acc.Nodup → ((ddF acc xs).length = acc.length + xs.length ↔ (acc ++ xs).Nodup)
  | [], acc, h => by simp [ddF, h]
  | x :: xs, acc, h => by
    have e : ddF acc (x :: xs) = ddF (if acc.any (· == x) then acc else acc ++ [x]) xs := rfl
    rw [e]
    by_cases hx : acc.any (· == x) = true
    · rw [if_pos hx]
      have hm : x ∈ acc := by simpa using hx
      constructor
      · intro z
        have := ddF_le xs acc
        simp at z
        omega
      · intro z
        rw [List.nodup_append] at z
        exact absurd rfl (z.2.2 x hm x List.mem_cons_self)
    · rw [if_neg hx]
      have hm : x ∉ acc := by simpa using hx
      have h' : (acc ++ [x]).Nodup := by
        rw [List.nodup_append]
        exact ⟨h, by simp, fun a ha b hb => by rw [List.mem_singleton.mp hb]; exact fun z => hm (by rw [← z]; exact ha)⟩
      have ih := ddF_len xs (acc ++ [x]) h'
      rw [List.append_assoc] at ih
      have e2 : acc ++ x :: xs = acc ++ ([x] ++ xs) := rfl
      rw [e2, ← ih]
      simp only [List.length_append, List.length_cons, List.length_nil]
      omega
theorem dd_len (xs : List A) : (dd xs).length = xs.length ↔ xs.Nodup := by
  have := ddF_len xs [] List.nodup_nil
  simpa [ddF, dd] using this
end
theorem oIsi_ (T : String) (d : D) (a : String) (h : tyOf d = some a) : oIsi T d = some (.bl (isB a T)) := by unfold oIsi; rw [h]; rfl
theorem eq_i (i j : Int) : oEq (.int i) (.int j) = some (.bl (i == j)) := Eq.trans rfl rfl
theorem ne_i (i j : Int) : oNe (.int i) (.int j) = some (.bl (!(i == j))) := Eq.trans rfl rfl
theorem eq_s (x y : List Nat) : oEq (.str x) (.str y) = some (.bl (x == y)) := Eq.trans rfl rfl
theorem le_i (i j : Int) : oLe (.int i) (.int j) = some (.bl (decide (i ≤ j))) := Eq.trans rfl rfl
theorem gt_i (i j : Int) : oGt (.int i) (.int j) = some (.bl (decide (j < i))) := Eq.trans rfl rfl
theorem whole_run (i lo hi : Int) (m : D) : f_is_whole [.int i, .int lo, .int hi] m = .ok (.bl (decide (lo ≤ i) && decide (i ≤ hi))) m := by
  have hs : start 3 [.int i, .int lo, .int hi] = [some (.v (.int i)), some (.v (.int lo)), some (.v (.int hi))] := Eq.trans rfl rfl
  have i1 : oIsi "int" (.int i) = some (.bl true) := by rw [oIsi_ _ _ "int" rfl]; rfl
  have i2 : oIsi "bool" (.int i) = some (.bl false) := by rw [oIsi_ _ _ "int" rfl]; rfl
  unfold f_is_whole
  rw [fn_ev (show [D.int i, D.int lo, D.int hi].length = 3 from rfl), hs, c_is_whole.eq_1]
  simp only [ev_bd, ev_pu, ev_some, ev_var, ev_c1, ev_ret, ev_And, ev_Not, ev_tB, ev_chain, List.getElem?_cons_zero, List.getElem?_cons_succ, i1, i2, le_i, ↓reduceIte, Bool.not_false, ro]
  by_cases h : lo ≤ i
  · simp only [decide_eq_true h, ↓reduceIte, ev_bd, ev_var, List.getElem?_cons_zero, List.getElem?_cons_succ, le_i, ev_some, Bool.true_and, ro]
  · simp only [decide_eq_false h, Bool.false_eq_true, ↓reduceIte, ev_pu, Bool.false_and, ro]
theorem in_sign (c : Nat) (z : List Nat) : oInN false (.str [c]) (.str z) = some (.bl (decide (c ∈ z))) := Eq.trans rfl rfl
theorem bls_dec (z : List Nat) (L : List Nat) : blsD (L.map fun c => D.bl (decide (c ∈ z))) = some (L.map fun c => decide (c ∈ z)) := by
  have := bls_map (L.map fun c => decide (c ∈ z))
  rwa [List.map_map] at this
/-- are_letters, of a text -/
def al (b z : List Nat) : Bool := !b.isEmpty && (b.all fun c => decide (c ∈ z)) && decide b.Nodup
theorem letters_run (b z : List Nat) (hb : b.length ≤ 1000) (m : D) : f_are_letters [.str b, .str z] m = .ok (.bl (al b z)) m := by
  have hs : start 3 [.str b, .str z] = [some (.v (.str b)), some (.v (.str z)), none] := Eq.trans rfl rfl
  have i1 : oIsi "str" (.str b) = some (.bl true) := by rw [oIsi_ _ _ "str" rfl]; rfl
  have hlc : cLc [2] (iStr (cVar 0)) (.nm 2) tYes (c2 (oInN false) (cVar 2) (cVar 1)) [] [some (.v (.str b)), some (.v (.str z)), none] m = .ok (.lst (b.map fun c => D.bl (decide (c ∈ z)))) [some (.v (.str b)), some (.v (.str z)), none] m := by
    have := lc_run (vs := [2]) (it := iStr (cVar 0)) (tg := .nm 2) (t := tYes) (e := c2 (oInN false) (cVar 2) (cVar 1)) (r := [some (.v (.str b)), some (.v (.str z)), none]) (m := m) (ds := sgn b) (fun _ => true) (fun d => .bl (decide (sg1 d ∈ z))) ?_ ?_
    · rw [this, List.filter_eq_self.mpr fun _ _ => rfl]
      unfold sgn
      rw [List.map_map]
      rfl
    · simp only [ev_iStr, ev_bd, ev_var, List.getElem?_cons_zero, List.getElem?_cons_succ, ev_pu]
    · intro d hd
      obtain ⟨x, hx, rfl⟩ := List.mem_map.mp hd
      refine ⟨[some (.v (.str b)), some (.v (.str z)), some (.v (.str [x]))], rfl, rfl, rfl, fun _ => ?_⟩
      simp only [ev_bd, ev_c2, ev_var, List.getElem?_cons_zero, List.getElem?_cons_succ, in_sign, ev_some, sg1]
      try rfl
  have hall : oAll (.lst (b.map fun c => D.bl (decide (c ∈ z)))) = some (.bl (b.all fun c => decide (c ∈ z))) := by
    show (blsD (b.map fun c => D.bl (decide (c ∈ z)))).map _ = _
    rw [bls_dec]
    simp [List.all_map]
  have hset : oLenSet (.str b) = some (.int (dd b).length) := if_pos hb
  have hlen : oLen (.str b) = some (.int b.length) := Eq.trans rfl rfl
  have hdd : (((dd b).length : Int) == (b.length : Int)) = decide b.Nodup := by
    rw [Bool.eq_iff_iff, beq_iff_eq, decide_eq_true_iff, ← dd_len b]
    omega
  have hemp : (b == []) = b.isEmpty := by cases b <;> rfl
  unfold f_are_letters al
  rw [fn_ev (show [D.str b, D.str z].length = 2 from rfl), hs, c_are_letters.eq_1]
  simp only [ev_bd, ev_pu, ev_some, ev_var, ev_K, ev_c1, ev_c2, ev_seq, ev_sIf, ev_tOr, ev_tNot, ev_tB, List.getElem?_cons_zero, List.getElem?_cons_succ, i1, ↓reduceIte, Bool.not_true, Bool.false_eq_true, eq_s, hemp]
  cases he : b.isEmpty with
  | true => simp only [↓reduceIte, ev_ret, ev_bd, ev_K, ev_pu, Bool.not_true, Bool.false_and, ro]
  | false =>
    simp only [↓reduceIte, Bool.false_eq_true, ev_tNot, ev_bd, ev_tB, ev_c1, hlc, hall, ev_some, ev_pu, Bool.not_false, Bool.true_and]
    cases ha : (b.all fun c => decide (c ∈ z)) with
    | false => simp only [Bool.not_false, ↓reduceIte, ev_ret, ev_bd, ev_K, ev_pu, Bool.false_and, ro]
    | true => simp only [Bool.not_true, Bool.false_eq_true, ↓reduceIte, ev_nop, ev_ret, ev_bd, ev_c2, ev_c1, ev_var, List.getElem?_cons_zero, List.getElem?_cons_succ, hset, hlen, ev_some, eq_i, hdd, ev_pu, Bool.true_and, ro]
end Pu

namespace Pu
theorem LET_len {n : Nat} (h : n ≤ 5) : (LET.take n).length = n := by rw [List.length_take]; simp [LET]; omega
theorem cut_let (n : Nat) (h5 : n ≤ 5) : oCut (.str [97, 98, 99, 100, 101]) none (some (n : Int)) = some (.str (LET.take n)) := by
  match n, h5 with
  | 0, _ => rfl
  | 1, _ => rfl
  | 2, _ => rfl
  | 3, _ => rfl
  | 4, _ => rfl
  | 5, _ => rfl
theorem idx_t0 (a b : D) : oIdx (.tup [a, b]) (.int 0) = some a := Eq.trans rfl rfl
theorem idx_t1 (a b : D) : oIdx (.tup [a, b]) (.int 1) = some b := Eq.trans rfl rfl
theorem Bal.al {n : Nat} {b : List Nat} (h : Bal n b) : Pu.al b (LET.take n) = true := by
  unfold Pu.al
  have h1 : b.isEmpty = false := by cases b with | nil => exact absurd rfl h.ne | cons _ _ => rfl
  have h2 : (b.all fun c => decide (c ∈ LET.take n)) = true := List.all_eq_true.mpr fun c hc => decide_eq_true (h.sub c hc)
  rw [h1, h2, decide_eq_true h.nd]
  rfl
theorem sub_len : ∀ (b L : List Nat), b.Nodup → (∀ c ∈ b, c ∈ L) → b.length ≤ L.length
  | [], _, _, _ => Nat.zero_le _
  | c :: b, L, nd, h => by
    rw [List.nodup_cons] at nd
    have hc := h c List.mem_cons_self
    have := sub_len b (L.erase c) nd.2 fun x hx => (List.mem_erase_of_ne (fun z => nd.1 (by rw [← z]; exact hx))).mpr (h x (List.mem_cons_of_mem _ hx))
    rw [List.length_erase_of_mem hc] at this
    have hp : 0 < L.length := List.length_pos_of_mem hc
    rw [List.length_cons]
    omega
theorem Bal.len {n : Nat} {b : List Nat} (h : Bal n b) (h5 : n ≤ 5) : b.length ≤ 5 := by
  have := sub_len b _ h.nd h.sub
  rw [LET_len h5] at this
  omega
theorem cand_run (n : Nat) (h5 : n ≤ 5) (x m : D) : f_candidates_of [.tup [.int n, x]] m = .ok (.str (LET.take n)) m := by
  have hs : start 1 [.tup [.int n, x]] = [some (.v (.tup [.int n, x]))] := Eq.trans rfl rfl
  unfold f_candidates_of
  rw [fn_ev (show [D.tup [.int n, x]].length = 1 from rfl), hs, c_candidates_of.eq_1]
  simp only [ev_bd, ev_pu, ev_some, ev_var, ev_K, ev_ret, ev_cut, ev_part0, ev_part1, ev_idx, List.getElem?_cons_zero, idx_t0, cut_let n h5, ro]
theorem pair_run (b z : List Nat) (t : Nat) (hb : b.length ≤ 1000) (m : D) : f_is_pair [.tup [.str b, .int t], .str z] m = .ok (.bl (al b z && (decide ((1 : Int) ≤ t) && decide ((t : Int) ≤ 20)))) m := by
  have hs : start 2 [.tup [.str b, .int t], .str z] = [some (.v (.tup [.str b, .int t])), some (.v (.str z))] := Eq.trans rfl rfl
  have i1 : oIsi "tuple" (.tup [.str b, .int t]) = some (.bl true) := by rw [oIsi_ _ _ "tuple" rfl]; rfl
  have hl : oLen (.tup [.str b, .int t]) = some (.int 2) := Eq.trans rfl rfl
  have e2 : ((2 : Int) == 2) = true := rfl
  unfold f_is_pair
  rw [fn_ev (show [D.tup [.str b, .int t], D.str z].length = 2 from rfl), hs, c_is_pair.eq_1]
  simp only [ev_bd, ev_pu, ev_some, ev_var, ev_K, ev_c1, ev_c2, ev_ret, ev_And, ev_tB, ev_idx, ev_call, ev_ap, ev_cons, ev_nil, List.getElem?_cons_zero, List.getElem?_cons_succ, i1, hl, eq_i, e2, idx_t0, idx_t1, letters_run b z hb, ↓reduceIte]
  cases al b z with
  | false => simp only [Bool.false_eq_true, ↓reduceIte, ev_pu, Bool.false_and, ro]
  | true => simp only [↓reduceIte, ev_bd, ev_call, ev_ap, ev_cons, ev_nil, ev_pu, ev_idx, ev_var, ev_K, List.getElem?_cons_zero, List.getElem?_cons_succ, idx_t1, ev_some, whole_run, Bool.true_and, ro]
theorem valid_run {n : Nat} {ps : List (List Nat × Nat)} (h : Vot n ps) (m : D) : f_is_votes [encV n ps] m = .ok (.bl true) m := by
  have hs : start 4 [encV n ps] = [some (.v (encV n ps)), none, none, none] := Eq.trans rfl rfl
  have i1 : oIsi "tuple" (encV n ps) = some (.bl true) := by rw [oIsi_ _ _ "tuple" rfl]; rfl
  have i2 : oIsi "tuple" (.tup (ps.map encP)) = some (.bl true) := by rw [oIsi_ _ _ "tuple" rfl]; rfl
  have l1 : oLen (encV n ps) = some (.int 2) := Eq.trans rfl rfl
  have l2 : oLen (.tup (ps.map encP)) = some (.int ps.length) := by show some (D.int ((ps.map encP).length : Int)) = _; rw [List.length_map]
  have x0 : oIdx (encV n ps) (.int 0) = some (.int n) := Eq.trans rfl rfl
  have x1 : oIdx (encV n ps) (.int 1) = some (.tup (ps.map encP)) := Eq.trans rfl rfl
  have w : f_is_whole [.int n, .int 2, .int 5] m = .ok (.bl true) m := by
    rw [whole_run]
    have h2 := h.n2
    have h5 := h.n5
    rw [decide_eq_true (by omega), decide_eq_true (by omega)]; rfl
  have g8 : oGt (.int (ps.length : Int)) (.int 8) = some (.bl false) := by
    have := h.len
    rw [gt_i, decide_eq_false (by omega)]
  have e2 : ((2 : Int) == 2) = true := rfl
  have idx : ∀ a b c : Option Sl, cIdx (cVar 0) (cK (.int 1)) [some (.v (encV n ps)), a, b, c] m = .ok (.tup (ps.map encP)) [some (.v (encV n ps)), a, b, c] m := fun a b c => by
    simp only [ev_idx, ev_bd, ev_var, ev_K, List.getElem?_cons_zero]
    show opt (oIdx (encV n ps) (.int 1)) _ _ = _
    rw [x1]; rfl
  have idx0 : ∀ a b c : Option Sl, cIdx (cVar 0) (cK (.int 0)) [some (.v (encV n ps)), a, b, c] m = .ok (.int n) [some (.v (encV n ps)), a, b, c] m := fun a b c => by
    simp only [ev_idx, ev_bd, ev_var, ev_K, List.getElem?_cons_zero]
    show opt (oIdx (encV n ps) (.int 0)) _ _ = _
    rw [x0]; rfl
  have c1' : cLc [1] (iTup (cIdx (cVar 0) (cK (.int 1)))) (.nm 1) tYes (cCall f_is_pair (aCons (cVar 1) (aCons (cCut (cK (.str [97, 98, 99, 100, 101])) none (some (cIdx (cVar 0) (cK (.int 0))))) aNil))) [] [some (.v (encV n ps)), none, none, none] m = .ok (.lst (ps.map fun _ => .bl true)) [some (.v (encV n ps)), none, none, none] m := by
    have := lc_run (vs := [1]) (it := iTup (cIdx (cVar 0) (cK (.int 1)))) (tg := .nm 1) (t := tYes) (e := cCall f_is_pair (aCons (cVar 1) (aCons (cCut (cK (.str [97, 98, 99, 100, 101])) none (some (cIdx (cVar 0) (cK (.int 0))))) aNil))) (r := [some (.v (encV n ps)), none, none, none]) (m := m) (ds := ps.map encP) (fun _ => true) (fun _ => .bl true) ?_ ?_
    · rw [this, List.filter_eq_self.mpr fun _ _ => rfl, List.map_map]; rfl
    · simp only [ev_iTup, ev_bd, idx, ev_pu]
    · intro d hd
      obtain ⟨q, hq, rfl⟩ := List.mem_map.mp hd
      obtain ⟨hb, t1, t2⟩ := h.bal q hq
      refine ⟨[some (.v (encV n ps)), some (.v (encP q)), none, none], rfl, rfl, rfl, fun _ => ?_⟩
      have hp : f_is_pair [encP q, .str (LET.take n)] m = .ok (.bl true) m := by
        have hle := hb.len h.n5
        rw [encP, pair_run _ _ _ (by omega), hb.al, decide_eq_true (by omega), decide_eq_true (by omega)]; rfl
      simp only [ev_call, ev_bd, ev_cons, ev_nil, ev_var, List.getElem?_cons_zero, List.getElem?_cons_succ, ev_cut, ev_K, ev_part0, ev_part1, idx0, ev_pu, cut_let n h.n5, ev_some, ev_ap, hp]
  have c2' : cLc [2, 3] (iTup (cIdx (cVar 0) (cK (.int 1)))) (.tp (.nm 2) (.nm 3)) tYes (cVar 2) [] [some (.v (encV n ps)), none, none, none] m = .ok (.lst ((ps.map (·.1)).map .str)) [some (.v (encV n ps)), none, none, none] m := by
    have := lc_run (vs := [2, 3]) (it := iTup (cIdx (cVar 0) (cK (.int 1)))) (tg := .tp (.nm 2) (.nm 3)) (t := tYes) (e := cVar 2) (r := [some (.v (encV n ps)), none, none, none]) (m := m) (ds := ps.map encP) (fun _ => true) fstD ?_ ?_
    · rw [this, List.filter_eq_self.mpr fun _ _ => rfl, fst_enc, List.map_map]; rfl
    · simp only [ev_iTup, ev_bd, idx, ev_pu]
    · intro d hd
      obtain ⟨q, hq, rfl⟩ := List.mem_map.mp hd
      refine ⟨[some (.v (encV n ps)), none, some (.v (.str q.1)), some (.v (.int q.2))], rfl, rfl, rfl, fun _ => ?_⟩
      simp only [ev_var, List.getElem?_cons_zero, List.getElem?_cons_succ, fstD, encP]
  have hall : oAll (.lst (ps.map fun _ => D.bl true)) = some (.bl true) := by
    have : blsD (ps.map fun _ => D.bl true) = some (ps.map fun _ => true) := by
      have := bls_map (ps.map fun _ => true)
      rwa [List.map_map] at this
    show (blsD (ps.map fun _ => D.bl true)).map _ = _
    rw [this]
    simp
  have hset : oLenSet (.lst ((ps.map (·.1)).map .str)) = some (.int ps.length) := by
    have hl : (ps.map (·.1)).length ≤ 1000 := by rw [List.length_map]; have := h.len; omega
    rw [lenSet_strs _ hl, (dd_len _).mpr h.nd, List.length_map]
  have e3 : ((ps.length : Int) == (ps.length : Int)) = true := by simp
  unfold f_is_votes
  rw [fn_ev (show [encV n ps].length = 1 from rfl), hs, c_is_votes.eq_1]
  simp only [ev_bd, ev_pu, ev_some, ev_var, ev_K, ev_c1, ev_c2, ev_seq, ev_sIf, ev_ret, ev_tOr, ev_tNot, ev_tB, ev_nop, ev_call, ev_ap, ev_cons, ev_nil, List.getElem?_cons_zero, i1, l1, ne_i, e2, idx0, idx, w, i2, l2, g8, c1', c2', hall, hset, eq_i, e3, Bool.not_true, Bool.false_eq_true, ↓reduceIte, ro]
theorem need_run {n : Nat} {ps : List (List Nat × Nat)} (h : Vot n ps) (m : D) : f_need_votes [encV n ps] m = .ok .non m := by
  have hs : start 1 [encV n ps] = [some (.v (encV n ps))] := Eq.trans rfl rfl
  unfold f_need_votes
  rw [fn_ev (show [encV n ps].length = 1 from rfl), hs, c_need_votes.eq_1]
  simp only [ev_bd, ev_pu, ev_var, ev_sIf, ev_tNot, ev_tB, ev_nop, ev_call, ev_ap, ev_cons, ev_nil, List.getElem?_cons_zero, valid_run h, Bool.not_true, Bool.false_eq_true, ↓reduceIte, ro]
end Pu

namespace Pu
theorem lcGo_run2 {vs : List Nat} {tg : Tg} {t : M Bool} {e : M D} {m : D} (W : Rho → Prop) (tf : D → Bool) (ef : D → D) : ∀ (ds acc : List D) (r : Rho), W (wipe r vs) →
    (∀ d ∈ ds, ∀ w, W w → ∃ r1 r2, asg tg d w = some r1 ∧ t r1 m = .ok (tf d) r1 m ∧ (tf d = true → e r1 m = .ok (ef d) r2 m ∧ W (wipe r2 vs)) ∧ W (wipe r1 vs)) →
    ∃ r', lcGo vs tg t e ds acc r m = .ok (acc ++ (ds.filter tf).map ef) r' m ∧ W (wipe r' vs)
  | [], acc, r, hw, _ => ⟨r, by simp [lcGo, pu], hw⟩
  | d :: ds, acc, r, hw, h => by
    obtain ⟨r1, r2, h1, h3, h4, h2⟩ := h d List.mem_cons_self _ hw
    have ih := fun acc r' hw' => lcGo_run2 (t := t) (e := e) W tf ef ds acc r' hw' fun d hd => h d (List.mem_cons_of_mem _ hd)
    unfold lcGo tgt
    rw [h1]
    dsimp only
    rw [h3]
    cases q : tf d with
    | false =>
      dsimp only
      obtain ⟨r', h5, h6⟩ := ih acc r1 h2
      exact ⟨r', by rw [h5, List.filter_cons, q]; rfl, h6⟩
    | true =>
      dsimp only
      obtain ⟨h4a, h4b⟩ := h4 q
      rw [h4a]
      dsimp only
      obtain ⟨r', h5, h6⟩ := ih (acc ++ [ef d]) r2 h4b
      exact ⟨r', by rw [h5, List.filter_cons, q]; simp, h6⟩
theorem any_key (L : List Nat) (f : Nat → D) (c : Nat) : ((L.map fun x => ([x], f x)).any fun p => p.1 == [c]) = decide (c ∈ L) := by
  rw [Bool.eq_iff_iff, List.any_eq_true, decide_eq_true_iff]
  constructor
  · rintro ⟨p, hp, hq⟩
    obtain ⟨x, hx, rfl⟩ := List.mem_map.mp hp
    have : x = c := by simpa using hq
    rw [← this]; exact hx
  · intro h
    exact ⟨([c], f c), List.mem_map.mpr ⟨c, h, rfl⟩, by simp⟩
theorem kput_new (L : List Nat) (f : Nat → D) (c : Nat) (d : D) (h : c ∉ L) : kput (L.map fun x => ([x], f x)) [c] d = (L.map fun x => ([x], f x)) ++ [([c], d)] := by
  unfold kput
  rw [any_key, decide_eq_false h]
  simp
theorem kput_old (L : List Nat) (f : Nat → Int) (c : Nat) (t : Int) (h : c ∈ L) : kput (L.map fun x => ([x], D.int (f x))) [c] (.int (f c + t)) = L.map fun x => ([x], D.int (if x = c then f x + t else f x)) := by
  unfold kput
  rw [any_key L (fun x => D.int (f x)), decide_eq_true h, if_pos rfl, List.map_map]
  apply List.map_congr_left
  intro x _
  simp only [Function.comp]
  by_cases e : x = c
  · subst e; simp
  · simp [e]
theorem kget_at (L : List Nat) (f : Nat → D) (c : Nat) (h : c ∈ L) : kget (L.map fun x => ([x], f x)) [c] = some (f c) := by
  unfold kget
  induction L with
  | nil => cases h
  | cons a L ih =>
    rw [List.map_cons, List.find?_cons]
    by_cases e : a = c
    · subst e; simp
    · have hb : (([a], f a).1 == [c]) = false := by simpa using e
      rw [hb]
      exact ih ((List.mem_cons.mp h).resolve_left fun z => e z.symm)
/-- {letter: 0 for letter in some} -/
theorem dcGo_zero {w : Rho} {m : D} (hw : ∀ r', wipe r' [3] = w → ∀ c, ∃ r1, asg (.nm 3) (.str [c]) (wipe r' [3]) = some r1 ∧ wipe r1 [3] = w ∧ cVar 3 r1 m = .ok (.str [c]) r1 m) : ∀ (ds L : List Nat) (r : Rho), wipe r [3] = w → (L ++ ds).Nodup →
    ∃ r', dcGo [3] (.nm 3) (cVar 3) (cK (.int 0)) (sgn ds) (L.map fun x => ([x], D.int 0)) r m = .ok ((L ++ ds).map fun x => ([x], D.int 0)) r' m ∧ wipe r' [3] = w
  | [], L, r, h, _ => ⟨r, by simp [sgn, dcGo, pu], h⟩
  | c :: ds, L, r, h, nd => by
    obtain ⟨r1, h1, h2, h3⟩ := hw r h c
    have hc : c ∉ L := fun z => by
      rw [List.nodup_append] at nd
      exact nd.2.2 c z c List.mem_cons_self rfl
    obtain ⟨r', h4, h5⟩ := dcGo_zero hw ds (L ++ [c]) r1 h2 (by rw [List.append_assoc]; exact nd)
    refine ⟨r', ?_, h5⟩
    show dcGo [3] (.nm 3) (cVar 3) (cK (.int 0)) (.str [c] :: sgn ds) _ r m = _
    unfold dcGo tgt
    rw [h1]
    dsimp only
    rw [h3]
    dsimp only
    rw [ev_K]
    dsimp only
    rw [kput_new L (fun _ => .int 0) c (.int 0) hc]
    have e : (L.map fun x => ([x], D.int 0)) ++ [([c], D.int 0)] = (L ++ [c]).map fun x => ([x], D.int 0) := by simp
    rw [e, h4, List.append_assoc]
    rfl
/-- whom a ballot counts for -/
def firstOf (z b : List Nat) : Option Nat := (b.filter fun c => decide (c ∈ z)).head?
def cnt (z : List Nat) : List (List Nat × Nat) → Nat → Int
  | [], _ => 0
  | p :: ps, c => (if firstOf z p.1 = some c then (p.2 : Int) else 0) + cnt z ps c
theorem ev_daug {i : Nat} {k c : M D} {r : Rho} {m : D} : sDaug i k c r m = (match r[i]? with
  | some (some (.own (.dic _))) => bd k (fun x => fun r m => match r[i]?, x with
    | some (some (.own (.dic kvs))), .str s => (match kget kvs s with
      | some (.int a) => bd c (fun d => fun r m => match r[i]?, d with
        | some (some (.own (.dic kvs))), .int b => if kvs.length < LN then .ok .nx (r.set i (some (.own (.dic (kput kvs s (.int (a + b))))))) m else .bad
        | _, _ => .bad) r m
      | _ => .bad)
    | _, _ => .bad) r m
  | _ => .bad) := Eq.trans rfl rfl
theorem ne_nil (L : List Nat) (h : L.length ≤ 1000) : oNe (.lst (sgn L)) (.lst []) = some (.bl (!L.isEmpty)) := by
  have hs : shp 8 (.lst (sgn L)) = true := by
    show (sgn L).all (shp 7) = true
    rw [List.all_eq_true]
    intro d hd
    obtain ⟨x, _, rfl⟩ := List.mem_map.mp hd
    rfl
  unfold oNe
  rw [hs, show shp 8 (.lst []) = true from rfl]
  cases L <;> rfl
theorem counts_run (z : List Nat) (hz : z.Nodup) (hzl : z.length ≤ 1000) (ps : List (List Nat × Nat)) (hp : ∀ p ∈ ps, p.1.length ≤ 1000) (m : D) : f_counts_of [.tup (ps.map encP), .str z] m = .ok (.lst (z.map fun c => .int (cnt z ps c))) m := by
  have hs : start 7 [.tup (ps.map encP), .str z] = [some (.v (.tup (ps.map encP))), some (.v (.str z)), none, none, none, none, none] := Eq.trans rfl rfl
  have hl : ∀ (i : Nat) (a b c d e f g : Option Sl), i < 7 → i < ([a, b, c, d, e, f, g] : Rho).length := fun i _ _ _ _ _ _ _ h => h
  have hdc : cDc [3] (iStr (cVar 1)) (.nm 3) (cVar 3) (cK (.int 0)) [some (.v (.tup (ps.map encP))), some (.v (.str z)), none, none, none, none, none] m = .ok (.dic (z.map fun x => ([x], D.int 0))) [some (.v (.tup (ps.map encP))), some (.v (.str z)), none, none, none, none, none] m := by
    unfold cDc
    rw [ev_bd]
    simp only [ev_iStr, ev_bd, ev_var, List.getElem?_cons_zero, List.getElem?_cons_succ, ev_pu]
    obtain ⟨r', h1, h2⟩ := dcGo_zero (w := [some (.v (.tup (ps.map encP))), some (.v (.str z)), none, none, none, none, none]) (m := m) (fun r' hr' c => ⟨[some (.v (.tup (ps.map encP))), some (.v (.str z)), none, some (.v (.str [c])), none, none, none], by rw [hr']; rfl, rfl, rfl⟩) z [] [some (.v (.tup (ps.map encP))), some (.v (.str z)), none, none, none, none, none] rfl hz
    rw [List.map_nil] at h1
    rw [h1]
    dsimp only
    rw [back_wipe (h2.trans rfl), List.nil_append]
  let I : Nat → Rho → D → Prop := fun i r m' => m' = m ∧ ∃ (x4 x5 x6 : Option Sl), r = [some (.v (.tup (ps.map encP))), some (.v (.str z)), some (.own (.dic (z.map fun x => ([x], D.int (cnt z (ps.take i) x))))), none, x4, x5, x6]
  have cnt_snoc : ∀ (qs : List (List Nat × Nat)) (p : List Nat × Nat) (c : Nat), cnt z (qs ++ [p]) c = cnt z qs c + (if firstOf z p.1 = some c then (p.2 : Int) else 0) := fun qs p c => by
    induction qs with
    | nil => simp [cnt]
    | cons q qs ih => simp only [List.cons_append, cnt, ih]; omega
  have hrun := forL_inv (tg := .tp (.nm 4) (.nm 5)) (b := (sSeq (sSet 6 (cLc [3] (iStr (cVar 4)) (.nm 3) (tB (c2 (oInN false) (cVar 3) (cVar 1))) (cVar 3)))
    (sIf (tB (c2 oNe (cVar 6) (cLst aNil))) (sDaug 2 (cIdx (cVar 6) (cK (.int 0))) (cVar 5)) sNop))) I (ps.map encP) 0
    [some (.v (.tup (ps.map encP))), some (.v (.str z)), some (.own (.dic (z.map fun x => ([x], D.int 0)))), none, none, none, none] m ⟨rfl, none, none, none, rfl⟩ ?_
  · obtain ⟨r', m', f5, rfl, x4, x5, x6, rfl⟩ := hrun
    rw [List.length_map, Nat.zero_add, List.take_length] at f5
    have hlast : ∃ r'', cLc [3] (iStr (cVar 1)) (.nm 3) tYes (cDget (cVar 2) (cVar 3)) [] [some (.v (.tup (ps.map encP))), some (.v (.str z)), some (.own (.dic (z.map fun x => ([x], D.int (cnt z ps x))))), none, x4, x5, x6] m' = .ok (.lst (z.map fun c => .int (cnt z ps c))) r'' m' := by
      unfold cLc
      rw [ev_bd]
      simp only [ev_iStr, ev_bd, ev_var, List.getElem?_cons_zero, List.getElem?_cons_succ, ev_pu, List.append_nil]
      refine Exists.elim (lcGo_run2 (vs := [3]) (tg := .nm 3) (t := tYes) (e := cDget (cVar 2) (cVar 3)) (m := m') (fun w => ∃ s2 : Sl, (s2 = .own (.dic (z.map fun x => ([x], D.int (cnt z ps x)))) ∨ s2 = .v (.dic (z.map fun x => ([x], D.int (cnt z ps x))))) ∧ w = [some (.v (.tup (ps.map encP))), some (.v (.str z)), some s2, none, x4, x5, x6]) (fun _ => true) (fun d => .int (cnt z ps (sg1 d))) (sgn z) [] [some (.v (.tup (ps.map encP))), some (.v (.str z)), some (.own (.dic (z.map fun x => ([x], D.int (cnt z ps x))))), none, x4, x5, x6] ⟨_, .inl rfl, rfl⟩ ?_) fun r' hh => ?_
      · intro d hd w hw
        obtain ⟨x, hx, rfl⟩ := List.mem_map.mp hd
        obtain ⟨s2, hs2, rfl⟩ := hw
        have kg := kget_at z (fun c => D.int (cnt z ps c)) x hx
        refine ⟨[some (.v (.tup (ps.map encP))), some (.v (.str z)), some s2, some (.v (.str [x])), x4, x5, x6], [some (.v (.tup (ps.map encP))), some (.v (.str z)), some (.v (.dic (z.map fun x => ([x], D.int (cnt z ps x))))), some (.v (.str [x])), x4, x5, x6], rfl, rfl, fun _ => ⟨?_, _, .inr rfl, rfl⟩, s2, hs2, rfl⟩
        rcases hs2 with rfl | rfl
        · simp only [cDget, ev_bd, ev_var, List.getElem?_cons_zero, List.getElem?_cons_succ, List.set_cons_zero, List.set_cons_succ, kg, ev_some, sg1]
        · simp only [cDget, ev_bd, ev_var, List.getElem?_cons_zero, List.getElem?_cons_succ, kg, ev_some, sg1]
      · rw [hh.1]
        dsimp only
        rw [List.filter_eq_self.mpr fun _ _ => rfl, List.nil_append]
        have e : (sgn z).map (fun d => D.int (cnt z ps (sg1 d))) = z.map fun c => D.int (cnt z ps c) := by
          unfold sgn
          rw [List.map_map]
          rfl
        rw [e]
        exact ⟨_, rfl⟩
    obtain ⟨r'', hlast⟩ := hlast
    unfold f_counts_of
    rw [fn_ev (show [D.tup (ps.map encP), D.str z].length = 2 from rfl), hs, c_counts_of.eq_1]
    simp only [ev_bd, ev_pu, ev_var, ev_seq, ev_new, ev_st, ev_ret, ev_for, ev_iTup, List.getElem?_cons_zero, List.getElem?_cons_succ, List.set_cons_zero, List.set_cons_succ, hl _ _ _ _ _ _ _ _ (show 2 < 7 by decide), ↓reduceIte, hdc, f5, hlast, ro]
  · intro j d r m' hd hI
    obtain ⟨rfl, x4, x5, x6, rfl⟩ := hI
    rw [List.getElem?_map] at hd
    obtain ⟨p, hpj, rfl⟩ := Option.map_eq_some_iff.mp hd
    have hpm : p ∈ ps := List.mem_of_getElem? hpj
    have htk : ps.take (0 + j + 1) = ps.take j ++ [p] := by
      rw [Nat.zero_add, List.take_succ, hpj]
      rfl
    have hlc : cLc [3] (iStr (cVar 4)) (.nm 3) (tB (c2 (oInN false) (cVar 3) (cVar 1))) (cVar 3) [] [some (.v (.tup (ps.map encP))), some (.v (.str z)), some (.own (.dic (z.map fun x => ([x], D.int (cnt z (ps.take (0 + j)) x))))), none, some (.v (.str p.1)), some (.v (.int p.2)), x6] m' = .ok (.lst (sgn (p.1.filter fun c => decide (c ∈ z)))) [some (.v (.tup (ps.map encP))), some (.v (.str z)), some (.own (.dic (z.map fun x => ([x], D.int (cnt z (ps.take (0 + j)) x))))), none, some (.v (.str p.1)), some (.v (.int p.2)), x6] m' := by
      have := lc_run (vs := [3]) (it := iStr (cVar 4)) (tg := .nm 3) (t := tB (c2 (oInN false) (cVar 3) (cVar 1))) (e := cVar 3) (r := [some (.v (.tup (ps.map encP))), some (.v (.str z)), some (.own (.dic (z.map fun x => ([x], D.int (cnt z (ps.take (0 + j)) x))))), none, some (.v (.str p.1)), some (.v (.int p.2)), x6]) (m := m') (ds := sgn p.1) (fun d => decide (sg1 d ∈ z)) id ?_ ?_
      · rw [this, List.map_id]
        congr 2
        unfold sgn
        rw [List.filter_map]
        rfl
      · simp only [ev_iStr, ev_bd, ev_var, List.getElem?_cons_zero, List.getElem?_cons_succ, ev_pu]
      · intro d hd
        obtain ⟨x, hx, rfl⟩ := List.mem_map.mp hd
        refine ⟨[some (.v (.tup (ps.map encP))), some (.v (.str z)), some (.own (.dic (z.map fun x => ([x], D.int (cnt z (ps.take (0 + j)) x))))), some (.v (.str [x])), some (.v (.str p.1)), some (.v (.int p.2)), x6], rfl, rfl, ?_, fun _ => ?_⟩
        · simp only [ev_tB, ev_bd, ev_c2, ev_var, List.getElem?_cons_zero, List.getElem?_cons_succ, in_sign, ev_some, ev_pu, sg1]
          try rfl
        · simp only [ev_var, List.getElem?_cons_zero, List.getElem?_cons_succ, id]
    have hfl : (p.1.filter fun c => decide (c ∈ z)).length ≤ 1000 := Nat.le_trans (List.length_filter_le _ _) (hp p hpm)
    have h0 : ([] : List D).length ≤ LN := Nat.zero_le _
    have hne := ne_nil (p.1.filter fun c => decide (c ∈ z)) hfl
    cases hf : p.1.filter (fun c => decide (c ∈ z)) with
    | nil =>
      rw [hf] at hlc hne
      refine ⟨[some (.v (.tup (ps.map encP))), some (.v (.str z)), some (.own (.dic (z.map fun x => ([x], D.int (cnt z (ps.take (0 + j)) x))))), none, some (.v (.str p.1)), some (.v (.int p.2)), x6], [some (.v (.tup (ps.map encP))), some (.v (.str z)), some (.own (.dic (z.map fun x => ([x], D.int (cnt z (ps.take (0 + j)) x))))), none, some (.v (.str p.1)), some (.v (.int p.2)), some (.v (.lst (sgn [])))], m', rfl, ?_, rfl, some (.v (.str p.1)), some (.v (.int p.2)), some (.v (.lst (sgn []))), ?_⟩
      · simp only [ev_bd, ev_pu, ev_some, ev_var, ev_c2, ev_seq, ev_set, ev_st, ev_sIf, ev_tB, ev_lst, ev_nil, ev_nop, List.getElem?_cons_zero, List.getElem?_cons_succ, List.set_cons_zero, List.set_cons_succ, hl _ _ _ _ _ _ _ _ (show 6 < 7 by decide), ↓reduceIte, hlc, h0, hne, List.isEmpty_nil, Bool.not_true, Bool.false_eq_true]
      · rw [htk]
        have : ∀ x, cnt z (ps.take j ++ [p]) x = cnt z (ps.take (0 + j)) x := fun x => by
          rw [cnt_snoc, Nat.zero_add]
          have : firstOf z p.1 = none := by unfold firstOf; rw [hf]; rfl
          rw [this]
          simp
        simp only [this]
    | cons c0 rest =>
      rw [hf] at hlc hne
      have hc0 : c0 ∈ z := by
        have : c0 ∈ p.1.filter fun c => decide (c ∈ z) := by rw [hf]; exact List.mem_cons_self
        simpa using (List.mem_filter.mp this).2
      have hix : oIdx (.lst (sgn (c0 :: rest))) (.int 0) = some (.str [c0]) := by
        show atI (sgn (c0 :: rest)) 0 = _
        unfold atI ixN
        rw [if_pos (Int.le_refl 0), if_pos (by rw [sgn_len]; simp)]
        rfl
      have kg := kget_at z (fun c => D.int (cnt z (ps.take (0 + j)) c)) c0 hc0
      have kp := kput_old z (fun c => cnt z (ps.take (0 + j)) c) c0 p.2 hc0
      have hkl : (z.map fun x => ([x], D.int (cnt z (ps.take (0 + j)) x))).length < LN := by rw [List.length_map]; unfold LN; omega
      refine ⟨[some (.v (.tup (ps.map encP))), some (.v (.str z)), some (.own (.dic (z.map fun x => ([x], D.int (cnt z (ps.take (0 + j)) x))))), none, some (.v (.str p.1)), some (.v (.int p.2)), x6], [some (.v (.tup (ps.map encP))), some (.v (.str z)), some (.own (.dic (z.map fun x => ([x], D.int (if x = c0 then cnt z (ps.take (0 + j)) x + p.2 else cnt z (ps.take (0 + j)) x))))), none, some (.v (.str p.1)), some (.v (.int p.2)), some (.v (.lst (sgn (c0 :: rest))))], m', rfl, ?_, rfl, some (.v (.str p.1)), some (.v (.int p.2)), some (.v (.lst (sgn (c0 :: rest)))), ?_⟩
      · simp only [ev_bd, ev_pu, ev_some, ev_var, ev_K, ev_c2, ev_seq, ev_set, ev_st, ev_sIf, ev_tB, ev_lst, ev_nil, ev_daug, ev_idx, List.getElem?_cons_zero, List.getElem?_cons_succ, List.set_cons_zero, List.set_cons_succ, hl _ _ _ _ _ _ _ _ (show 6 < 7 by decide), ↓reduceIte, hlc, h0, hne, List.isEmpty_cons, Bool.not_false, hix, kg, kp, hkl]
      · rw [htk]
        have : ∀ x, cnt z (ps.take j ++ [p]) x = if x = c0 then cnt z (ps.take (0 + j)) x + p.2 else cnt z (ps.take (0 + j)) x := fun x => by
          rw [cnt_snoc, Nat.zero_add]
          have : firstOf z p.1 = some c0 := by unfold firstOf; rw [hf]; rfl
          rw [this]
          by_cases e : x = c0
          · subst e; simp
          · rw [if_neg e, if_neg (fun w => e (Option.some.inj w).symm)]; omega
        simp only [this]
end Pu

namespace Pu
/-- x stands ahead of y -/
def bef (b : List Nat) (x y : Nat) : Bool := decide (x ∈ b) && (!decide (y ∈ b) || decide (b.idxOf x < b.idxOf y))
theorem notin_sign (c : Nat) (z : List Nat) : oInN true (.str [c]) (.str z) = some (.bl (!decide (c ∈ z))) := Eq.trans rfl rfl
theorem find_ok (z : List Nat) (c : Nat) (h : c ∈ z) : oFind (.str z) (.str [c]) = some (.int (z.idxOf c)) := if_pos h
theorem lt_i (i j : Int) : oLt (.int i) (.int j) = some (.bl (decide (i < j))) := Eq.trans rfl rfl
theorem before_run (b : List Nat) (x y : Nat) (m : D) : f_is_before [.str b, .str [x], .str [y]] m = .ok (.bl (bef b x y)) m := by
  have hs : start 3 [.str b, .str [x], .str [y]] = [some (.v (.str b)), some (.v (.str [x])), some (.v (.str [y]))] := Eq.trans rfl rfl
  unfold f_is_before bef
  rw [fn_ev (show [D.str b, D.str [x], D.str [y]].length = 3 from rfl), hs, c_is_before.eq_1]
  simp only [ev_bd, ev_pu, ev_some, ev_var, ev_c2, ev_ret, ev_And, ev_tB, List.getElem?_cons_zero, List.getElem?_cons_succ, in_sign]
  by_cases hx : x ∈ b
  · simp only [hx, decide_true, ↓reduceIte, ev_Or, ev_bd, ev_tB, ev_c2, ev_var, List.getElem?_cons_zero, List.getElem?_cons_succ, notin_sign, ev_some, Bool.true_and]
    by_cases hy : y ∈ b
    · have hd : decide ((b.idxOf x : Int) < (b.idxOf y : Int)) = decide (b.idxOf x < b.idxOf y) := by
        rw [Bool.eq_iff_iff, decide_eq_true_iff, decide_eq_true_iff]; omega
      simp only [hy, decide_true, Bool.not_true, Bool.false_eq_true, ↓reduceIte, ev_pu, ev_bd, ev_c2, ev_str, ev_var, List.getElem?_cons_zero, List.getElem?_cons_succ, find_ok b x hx, find_ok b y hy, ev_some, lt_i, hd, Bool.false_or, ro]
    · simp only [hy, decide_false, Bool.not_false, ↓reduceIte, ev_pu, Bool.true_or, ro]
  · simp only [hx, decide_false, Bool.false_eq_true, ↓reduceIte, ev_pu, Bool.false_and, ro]
theorem before_eq : f__law_before = f_is_before := rfl
/-- how many voters have x ahead of y -/
def vf (x y : Nat) : List (List Nat × Nat) → Int
  | [] => 0
  | p :: ps => (if bef p.1 x y then (p.2 : Int) else 0) + vf x y ps
def sndD : D → D
  | .tup [_, b] => b
  | _ => .non
def fst1 : D → List Nat
  | .tup (.str b :: _) => b
  | _ => []
theorem sum_filter (f : List Nat → Bool) : ∀ ps : List (List Nat × Nat), ∃ ns : List Int, ((ps.map encP).filter fun d => f (fst1 d)).map sndD = ns.map .int ∧ ns.sum = (ps.map fun p => if f p.1 then (p.2 : Int) else 0).sum
  | [] => ⟨[], rfl, rfl⟩
  | p :: ps => by
    obtain ⟨ns, h1, h2⟩ := sum_filter f ps
    by_cases h : f p.1 = true
    · refine ⟨(p.2 : Int) :: ns, ?_, ?_⟩
      · have hf : f (fst1 (encP p)) = true := h
        rw [List.map_cons, List.filter_cons, hf, if_pos rfl, List.map_cons, h1]
        rfl
      · rw [List.sum_cons, h2, List.map_cons, List.sum_cons, if_pos h]
    · refine ⟨ns, ?_, ?_⟩
      · have hf : f (fst1 (encP p)) = false := (Bool.not_eq_true _).mp h
        rw [List.map_cons, List.filter_cons, hf, if_neg (by simp), h1]
      · rw [h2, List.map_cons, List.sum_cons, if_neg h]; omega
theorem vf_sum (x y : Nat) : ∀ ps : List (List Nat × Nat), (ps.map fun p => if bef p.1 x y then (p.2 : Int) else 0).sum = vf x y ps
  | [] => rfl
  | p :: ps => by rw [List.map_cons, List.sum_cons, vf_sum x y ps]; rfl
theorem voters_run (n : Nat) (ps : List (List Nat × Nat)) (x y : Nat) (m : D) : f_voters_for [encV n ps, .str [x], .str [y]] m = .ok (.int (vf x y ps)) m := by
  have hs : start 5 [encV n ps, .str [x], .str [y]] = [some (.v (encV n ps)), some (.v (.str [x])), some (.v (.str [y])), none, none] := Eq.trans rfl rfl
  have hidx : cIdx (cVar 0) (cK (.int 1)) [some (.v (encV n ps)), some (.v (.str [x])), some (.v (.str [y])), none, none] m = .ok (.tup (ps.map encP)) [some (.v (encV n ps)), some (.v (.str [x])), some (.v (.str [y])), none, none] m := by
    simp only [ev_idx, ev_bd, ev_var, ev_K, List.getElem?_cons_zero]
    rfl
  have hlc := lc_run (vs := [3, 4]) (it := iTup (cIdx (cVar 0) (cK (.int 1)))) (tg := .tp (.nm 3) (.nm 4)) (t := tB (cCall f_is_before (aCons (cVar 3) (aCons (cVar 1) (aCons (cVar 2) aNil))))) (e := cVar 4) (r := [some (.v (encV n ps)), some (.v (.str [x])), some (.v (.str [y])), none, none]) (m := m) (ds := ps.map encP) (fun d => bef (fst1 d) x y) sndD (by simp only [ev_iTup, ev_bd, hidx, ev_pu]) (by
    intro d hd
    obtain ⟨q, hq, rfl⟩ := List.mem_map.mp hd
    refine ⟨[some (.v (encV n ps)), some (.v (.str [x])), some (.v (.str [y])), some (.v (.str q.1)), some (.v (.int q.2))], rfl, rfl, ?_, fun _ => ?_⟩
    · simp only [ev_tB, ev_bd, ev_call, ev_ap, ev_cons, ev_nil, ev_var, List.getElem?_cons_zero, List.getElem?_cons_succ, ev_pu, before_run, fst1, encP]
    · simp only [ev_var, List.getElem?_cons_zero, List.getElem?_cons_succ, sndD, encP])
  obtain ⟨ns, h1, h2⟩ := sum_filter (fun b => bef b x y) ps
  rw [h1] at hlc
  unfold f_voters_for
  rw [fn_ev (show [encV n ps, D.str [x], D.str [y]].length = 3 from rfl), hs, c_voters_for.eq_1]
  simp only [ev_ret, ev_bd, ev_c1, hlc, sum_ints, ev_some, ev_pu, h2, vf_sum, ro]
theorem one_al {n x : Nat} (hx : x ∈ LET.take n) : al [x] (LET.take n) = true := by
  unfold al
  simp [hx]
theorem cand_ok {n : Nat} {ps : List (List Nat × Nat)} (h5 : n ≤ 5) {x : Nat} (hx : x ∈ LET.take n) (m : D) : f_need_candidate [encV n ps, .str [x]] m = .ok .non m := by
  have hs : start 2 [encV n ps, .str [x]] = [some (.v (encV n ps)), some (.v (.str [x]))] := Eq.trans rfl rfl
  have hc : f_candidates_of [encV n ps] m = .ok (.str (LET.take n)) m := cand_run n h5 _ m
  have hl : oLen (.str [x]) = some (.int 1) := Eq.trans rfl rfl
  have e1 : ((1 : Int) == 1) = true := rfl
  have ha : f_are_letters [.str [x], .str (LET.take n)] m = .ok (.bl true) m := by rw [letters_run _ _ (by simp), one_al hx]
  unfold f_need_candidate
  rw [fn_ev (show [encV n ps, D.str [x]].length = 2 from rfl), hs, c_need_candidate.eq_1]
  simp only [ev_bd, ev_pu, ev_some, ev_var, ev_K, ev_c1, ev_c2, ev_sIf, ev_tOr, ev_tNot, ev_tB, ev_nop, ev_call, ev_ap, ev_cons, ev_nil, List.getElem?_cons_zero, List.getElem?_cons_succ, hc, ha, hl, ne_i, e1, Bool.not_true, Bool.false_eq_true, ↓reduceIte, ro]
theorem pref_run {n : Nat} {ps : List (List Nat × Nat)} (h : Vot n ps) {x y : Nat} (hx : x ∈ LET.take n) (hy : y ∈ LET.take n) (m : D) : f_preferring [encV n ps, .str [x], .str [y]] m = if x = y then .exc 1 m else .ok (.int (vf x y ps)) m := by
  have hs : start 3 [encV n ps, .str [x], .str [y]] = [some (.v (encV n ps)), some (.v (.str [x])), some (.v (.str [y]))] := Eq.trans rfl rfl
  unfold f_preferring
  rw [fn_ev (show [encV n ps, D.str [x], D.str [y]].length = 3 from rfl), hs, c_preferring.eq_1]
  simp only [ev_bd, ev_pu, ev_some, ev_var, ev_c2, ev_seq, ev_do, ev_sIf, ev_tB, ev_call, ev_ap, ev_cons, ev_nil, List.getElem?_cons_zero, List.getElem?_cons_succ, need_run h, cand_ok h.n5 hx, cand_ok h.n5 hy, eq_s]
  by_cases e : x = y
  · subst e
    have eb : (([x] : List Nat) == [x]) = true := by simp
    simp only [eb, ↓reduceIte, ev_raise, ro]
  · have eb : (([x] : List Nat) == [y]) = false := by simpa using e
    simp only [eb, Bool.false_eq_true, ↓reduceIte, ev_nop, ev_ret, ev_bd, ev_call, ev_ap, ev_cons, ev_nil, ev_var, ev_pu, List.getElem?_cons_zero, List.getElem?_cons_succ, voters_run, if_neg e, ro]
end Pu

namespace Pu
/-- of two letters, the first that a ballot has -/
theorem first_bef {x y : Nat} (h : x ≠ y) : ∀ b : List Nat, firstOf [x, y] b = some x ↔ bef b x y = true
  | [] => by simp [firstOf, bef]
  | c :: b => by
    have ih := first_bef h b
    unfold firstOf bef at *
    by_cases hx : c = x
    · subst hx
      rw [List.filter_cons, if_pos (by simp)]
      simp only [List.head?_cons, List.mem_cons, true_or, decide_true, Bool.true_and, true_iff, List.idxOf_cons_self]
      by_cases hy : y ∈ c :: b
      · have : 0 < (c :: b).idxOf y := by
          rw [List.idxOf_cons]
          have : (c == y) = false := by simpa using h
          rw [this]
          simp
        simp [this]
      · have hy' : ¬ (y = c ∨ y ∈ b) := by simpa using hy
        simp [hy']
    · by_cases hy : c = y
      · subst hy
        rw [List.filter_cons, if_pos (by simp)]
        have e : (c :: b).idxOf c = 0 := List.idxOf_cons_self
        simp [e, Ne.symm h]
      · have hf : (decide (c ∈ [x, y])) = false := by simp [hx, hy]
        rw [List.filter_cons, hf, if_neg (by simp), ih]
        have e1 : (c :: b).idxOf x = b.idxOf x + 1 := by
          rw [List.idxOf_cons]
          have : (c == x) = false := by simpa using hx
          rw [this]; rfl
        have e2 : (c :: b).idxOf y = b.idxOf y + 1 := by
          rw [List.idxOf_cons]
          have : (c == y) = false := by simpa using hy
          rw [this]; rfl
        simp [e1, e2, Ne.symm hx, Ne.symm hy]
theorem first_swap (x y : Nat) (b : List Nat) : firstOf [x, y] b = firstOf [y, x] b := by
  unfold firstOf
  congr 2
  funext c
  simp [or_comm]
theorem cnt_vf {x y : Nat} (h : x ≠ y) : ∀ ps : List (List Nat × Nat), cnt [x, y] ps x = vf x y ps
  | [] => rfl
  | p :: ps => by
    unfold cnt vf
    rw [cnt_vf h ps]
    by_cases e : bef p.1 x y = true
    · rw [if_pos ((first_bef h p.1).mpr e), if_pos e]
    · rw [if_neg fun z => e ((first_bef h p.1).mp z), if_neg e]
theorem cnt_vf' {x y : Nat} (h : x ≠ y) : ∀ ps : List (List Nat × Nat), cnt [x, y] ps y = vf y x ps
  | [] => rfl
  | p :: ps => by
    unfold cnt vf
    rw [cnt_vf' h ps, first_swap]
    by_cases e : bef p.1 y x = true
    · rw [if_pos ((first_bef (Ne.symm h) p.1).mpr e), if_pos e]
    · rw [if_neg fun z => e ((first_bef (Ne.symm h) p.1).mp z), if_neg e]
/-- how many voters name one of the two -/
def wh (x y : Nat) : List (List Nat × Nat) → Int
  | [] => 0
  | p :: ps => (if decide (x ∈ p.1) || decide (y ∈ p.1) then (p.2 : Int) else 0) + wh x y ps
theorem idxOf_inj {b : List Nat} {x y : Nat} (hx : x ∈ b) (hy : y ∈ b) (h : b.idxOf x = b.idxOf y) : x = y := by
  have l1 := List.idxOf_lt_length_of_mem hx
  have l2 := List.idxOf_lt_length_of_mem hy
  have e1 : b[b.idxOf x] = x := by simp
  have e2 : b[b.idxOf y] = y := by simp
  have : b[b.idxOf x]? = b[b.idxOf y]? := by rw [h]
  rw [List.getElem?_eq_getElem l1, List.getElem?_eq_getElem l2, e1, e2] at this
  exact Option.some.inj this
theorem vf_wh {x y : Nat} (h : x ≠ y) : ∀ ps : List (List Nat × Nat), vf x y ps + vf y x ps = wh x y ps
  | [] => rfl
  | p :: ps => by
    have ih := vf_wh h ps
    unfold vf wh bef
    by_cases hx : x ∈ p.1 <;> by_cases hy : y ∈ p.1
    · have hne : p.1.idxOf x ≠ p.1.idxOf y := fun z => h (idxOf_inj hx hy z)
      rcases Nat.lt_or_gt_of_ne hne with l | l
      · have nl : ¬ p.1.idxOf y < p.1.idxOf x := by omega
        simp [hx, hy, l, nl]; omega
      · have nl : ¬ p.1.idxOf x < p.1.idxOf y := by omega
        simp [hx, hy, l, nl]; omega
    · simp [hx, hy]; omega
    · simp [hx, hy]; omega
    · simp [hx, hy]; omega
theorem wh_sum (x y : Nat) : ∀ ps : List (List Nat × Nat), (ps.map fun p => if (decide (x ∈ p.1) || decide (y ∈ p.1)) then (p.2 : Int) else 0).sum = wh x y ps
  | [] => rfl
  | p :: ps => by rw [List.map_cons, List.sum_cons, wh_sum x y ps]; rfl
end Pu

namespace Pu
theorem lettersL_run (n : Nat) (h5 : n ≤ 5) (ps : List (List Nat × Nat)) (m : D) : f__law_letters [encV n ps] m = .ok (.str (LET.take n)) m := cand_run n h5 _ m
theorem counts2_run {n : Nat} {ps : List (List Nat × Nat)} (h : Vot n ps) {z : List Nat} (hz : al z (LET.take n) = true) (hnd : z.Nodup) (hzl : z.length ≤ 1000) (m : D) : f_counts [encV n ps, .str z] m = .ok (.tup (z.map fun c => .int (cnt z ps c))) m := by
  have hs : start 2 [encV n ps, .str z] = [some (.v (encV n ps)), some (.v (.str z))] := Eq.trans rfl rfl
  have hc : f_candidates_of [encV n ps] m = .ok (.str (LET.take n)) m := cand_run n h.n5 _ m
  have hidx : oIdx (encV n ps) (.int 1) = some (.tup (ps.map encP)) := Eq.trans rfl rfl
  have ha : f_are_letters [.str z, .str (LET.take n)] m = .ok (.bl true) m := by rw [letters_run _ _ hzl, hz]
  have hcn := counts_run z hnd hzl ps (fun p hp => by have := (h.bal p hp).1.len h.n5; omega) m
  have ht : ∀ ds : List D, oTuple (.lst ds) = some (.tup ds) := fun _ => Eq.trans rfl rfl
  have hi : cIdx (cVar 0) (cK (.int 1)) [some (.v (encV n ps)), some (.v (.str z))] m = .ok (.tup (ps.map encP)) [some (.v (encV n ps)), some (.v (.str z))] m := by
    simp only [ev_idx, ev_bd, ev_var, ev_K, List.getElem?_cons_zero]
    rfl
  unfold f_counts
  rw [fn_ev (show [encV n ps, D.str z].length = 2 from rfl), hs, c_counts.eq_1]
  simp only [ev_bd, ev_pu, ev_some, ev_var, ev_c1, ev_seq, ev_do, ev_sIf, ev_ret, ev_tNot, ev_tB, ev_nop, ev_call, ev_ap, ev_cons, ev_nil, List.getElem?_cons_zero, List.getElem?_cons_succ, need_run h, hc, ha, hi, hcn, ht, Bool.not_true, Bool.false_eq_true, ↓reduceIte, ro]
theorem nonstr_run (d : D) (hd : oIsi "str" d = some (.bl false)) (z : List Nat) (m : D) : f_are_letters [d, .str z] m = .ok (.bl false) m := by
  have hs : start 3 [d, .str z] = [some (.v d), some (.v (.str z)), none] := Eq.trans rfl rfl
  unfold f_are_letters
  rw [fn_ev (show [d, D.str z].length = 2 from rfl), hs, c_are_letters.eq_1]
  simp only [ev_bd, ev_pu, ev_some, ev_var, ev_K, ev_c1, ev_seq, ev_sIf, ev_ret, ev_tOr, ev_tNot, ev_tB, List.getElem?_cons_zero, List.getElem?_cons_succ, hd, Bool.not_false, ↓reduceIte, ro]
theorem need_bad {n : Nat} {ps : List (List Nat × Nat)} (h5 : n ≤ 5) (d : D) (m : D) (ha : f_are_letters [d, .str (LET.take n)] m = .ok (.bl false) m) : f_need_candidate [encV n ps, d] m = .exc 1 m := by
  have hs : start 2 [encV n ps, d] = [some (.v (encV n ps)), some (.v d)] := Eq.trans rfl rfl
  have hc : f_candidates_of [encV n ps] m = .ok (.str (LET.take n)) m := cand_run n h5 _ m
  unfold f_need_candidate
  rw [fn_ev (show [encV n ps, d].length = 2 from rfl), hs, c_need_candidate.eq_1]
  simp only [ev_bd, ev_pu, ev_some, ev_var, ev_sIf, ev_tOr, ev_tNot, ev_tB, ev_call, ev_ap, ev_cons, ev_nil, List.getElem?_cons_zero, List.getElem?_cons_succ, hc, ha, Bool.not_false, ↓reduceIte, ev_raise, ro]
theorem need_long {n : Nat} {ps : List (List Nat × Nat)} (h5 : n ≤ 5) (z : List Nat) (hz : z.length ≤ 1000) (hl : z.length ≠ 1) (m : D) : f_need_candidate [encV n ps, .str z] m = .exc 1 m := by
  cases ha : al z (LET.take n) with
  | false => exact need_bad h5 _ m (by rw [letters_run _ _ hz, ha])
  | true =>
    have hs : start 2 [encV n ps, .str z] = [some (.v (encV n ps)), some (.v (.str z))] := Eq.trans rfl rfl
    have hc : f_candidates_of [encV n ps] m = .ok (.str (LET.take n)) m := cand_run n h5 _ m
    have hlen : oLen (.str z) = some (.int z.length) := Eq.trans rfl rfl
    have e1 : ((z.length : Int) == 1) = false := by rw [beq_eq_false_iff_ne]; omega
    have ha' : f_are_letters [.str z, .str (LET.take n)] m = .ok (.bl true) m := by rw [letters_run _ _ hz, ha]
    unfold f_need_candidate
    rw [fn_ev (show [encV n ps, D.str z].length = 2 from rfl), hs, c_need_candidate.eq_1]
    simp only [ev_bd, ev_pu, ev_some, ev_var, ev_K, ev_c1, ev_c2, ev_sIf, ev_tOr, ev_tNot, ev_tB, ev_call, ev_ap, ev_cons, ev_nil, List.getElem?_cons_zero, List.getElem?_cons_succ, hc, ha', hlen, ne_i, e1, Bool.not_true, Bool.not_false, Bool.false_eq_true, ↓reduceIte, ev_raise, ro]
theorem a_mem {n : Nat} (h : 2 ≤ n) (h5 : n ≤ 5) : 97 ∈ LET.take n := by
  match n, h, h5 with
  | 2, _, _ => decide
  | 3, _, _ => decide
  | 4, _, _ => decide
  | 5, _, _ => decide
theorem pref_bad {n : Nat} {ps : List (List Nat × Nat)} (h : Vot n ps) (d m : D) (hd : f_need_candidate [encV n ps, d] m = .exc 1 m) : f_preferring [encV n ps, .str [97], d] m = .exc 1 m ∧ f_preferring [encV n ps, d, .str [97]] m = .exc 1 m := by
  have hs1 : start 3 [encV n ps, .str [97], d] = [some (.v (encV n ps)), some (.v (.str [97])), some (.v d)] := Eq.trans rfl rfl
  have hs2 : start 3 [encV n ps, d, .str [97]] = [some (.v (encV n ps)), some (.v d), some (.v (.str [97]))] := Eq.trans rfl rfl
  constructor
  · unfold f_preferring
    rw [fn_ev (show [encV n ps, D.str [97], d].length = 3 from rfl), hs1, c_preferring.eq_1]
    simp only [ev_bd, ev_pu, ev_var, ev_seq, ev_do, ev_call, ev_ap, ev_cons, ev_nil, List.getElem?_cons_zero, List.getElem?_cons_succ, need_run h, cand_ok h.n5 (a_mem h.n2 h.n5), hd, ro]
  · unfold f_preferring
    rw [fn_ev (show [encV n ps, d, D.str [97]].length = 3 from rfl), hs2, c_preferring.eq_1]
    simp only [ev_bd, ev_pu, ev_var, ev_seq, ev_do, ev_call, ev_ap, ev_cons, ev_nil, List.getElem?_cons_zero, List.getElem?_cons_succ, need_run h, hd, ro]
/-- slots of plain values -/
def vv : Option D → Option Sl := Option.map .v
theorem frz_vv (a : Option D) : Option.map frzS (vv a) = vv a := by cases a <;> rfl
end Pu

namespace Su
open PySem PySem.Spec PyProof.Rows L2
open Pu (D Sl Rho Rs M Ro Fn Fl Tg LN)
/-! ### slots forgotten and given back -/
theorem wipeP_len (r : Rho) : ∀ vs : List Nat, (Pu.wipe r vs).length = r.length
  | [] => rfl
  | v :: vs => by unfold Pu.wipe; rw [List.length_set, wipeP_len r vs]
theorem backP_len (r0 r : Rho) : ∀ vs : List Nat, (Pu.back r0 r vs).length = r.length
  | [] => rfl
  | v :: vs => by unfold Pu.back; rw [List.length_set, backP_len r0 r vs]
theorem wipeP_get {r : Rho} {i : Nat} {w : Sl} : ∀ {vs : List Nat}, (Pu.wipe r vs)[i]? = some (some w) ↔ r[i]? = some (some w) ∧ i ∉ vs
  | [] => by simp [Pu.wipe]
  | v :: vs => by
    unfold Pu.wipe
    by_cases h : v = i
    · subst h
      by_cases l : v < (Pu.wipe r vs).length
      · rw [List.getElem?_set_self l]; simp
      · rw [List.getElem?_eq_none (by simpa using l)]; simp
    · rw [List.getElem?_set_ne h, wipeP_get (vs := vs)]
      have : i ≠ v := fun e => h e.symm
      simp [this]
theorem wipeS_get {s : L2.St} {i : Nat} : ∀ {vs : List Nat}, i ∉ vs → (L2.wipe s vs)[i]? = s[i]?
  | [], _ => rfl
  | v :: vs, h => by
    unfold L2.wipe
    have : v ≠ i := fun e => h (by rw [e]; exact List.mem_cons_self)
    rw [List.getElem?_set_ne this, wipeS_get fun z => h (List.mem_cons_of_mem _ z)]
theorem wipeS_some {s : L2.St} {i : Nat} {v : V} {vs : List Nat} (h : (L2.wipe s vs)[i]? = some (some v)) : s[i]? = some (some v) ∧ i ∉ vs := wipe_some h
theorem wipeS_idem (s : L2.St) (vs : List Nat) : L2.wipe (L2.wipe s vs) vs = L2.wipe s vs := by
  apply List.ext_getElem?
  intro i
  have key : ∀ (s : L2.St) (us : List Nat), i ∈ us → i < s.length → (L2.wipe s us)[i]? = some none := fun s us h l => by
    induction us with
    | nil => cases h
    | cons v us ih =>
      unfold L2.wipe
      by_cases e : v = i
      · subst e; exact List.getElem?_set_self (by rw [wipe_length]; exact l)
      · rw [List.getElem?_set_ne e]
        exact ih ((List.mem_cons.mp h).elim (fun z => absurd z.symm e) fun z => z)
  by_cases h : i ∈ vs
  · by_cases l : i < s.length
    · rw [key _ vs h (by rw [wipe_length]; exact l), key s vs h l]
    · rw [List.getElem?_eq_none (by rw [wipe_length, wipe_length]; omega), List.getElem?_eq_none (by rw [wipe_length]; omega)]
  · rw [wipeS_get h]
theorem backP_get {r0 r : Rho} {i : Nat} {w : Sl} (l : r0.length = r.length) : ∀ {vs : List Nat}, (Pu.back r0 r vs)[i]? = some (some w) ↔ (i ∈ vs ∧ r0[i]? = some (some w)) ∨ (i ∉ vs ∧ r[i]? = some (some w))
  | [] => by simp [Pu.back]
  | v :: vs => by
    unfold Pu.back
    by_cases h : v = i
    · subst h
      by_cases q : v < (Pu.back r0 r vs).length
      · rw [List.getElem?_set_self q]
        rw [backP_len] at q
        have q0 : v < r0.length := by omega
        rw [List.getElem?_eq_getElem q0]
        simp
      · rw [List.getElem?_eq_none (by simpa using q)]
        rw [backP_len] at q
        rw [List.getElem?_eq_none (by omega), List.getElem?_eq_none (by omega)]
        simp
    · rw [List.getElem?_set_ne h, backP_get l (vs := vs)]
      have : i ≠ v := fun e => h e.symm
      simp [this]
section
variable {K : PySem.W.Frag} {T : Tb} {al : Option Addr} {E : XK} {G H G' H' : Hp} {r r' : Rho} {m m' : D} {s : L2.St} {p : Addr} {d : D} {vs ws : List Nat}
theorem ow_wipe {a : Addr} (h : Ow (Pu.wipe r vs) (L2.wipe s ws) a) : Ow r s a := by
  obtain ⟨i, d, h1, h2⟩ := h
  exact ⟨i, d, (wipeP_get.mp h1).1, (wipeS_some h2).1⟩
theorem Rel.wipe (R : Rel K T al G H r m s) (sub : ∀ i ∈ ws, i ∈ vs) : Rel K T al G H (Pu.wipe r vs) m (L2.wipe s ws) where
  same := R.same
  len := by rw [wipeP_len, wipe_length]; exact R.len
  vals := fun i d h => by
    obtain ⟨h1, h2⟩ := wipeP_get.mp h
    obtain ⟨v, h3, h4⟩ := R.vals i d h1
    exact ⟨v, by rw [wipeS_get fun z => h2 (sub _ z)]; exact h3, h4⟩
  owns := fun i d h => by
    obtain ⟨h1, h2⟩ := wipeP_get.mp h
    obtain ⟨v, h3, h4⟩ := R.owns i d h1
    exact ⟨v, by rw [wipeS_get fun z => h2 (sub _ z)]; exact h3, h4⟩
  dis := fun i j d e p h1 h2 h3 h4 => R.dis i j d e p (wipeP_get.mp h1).1 (wipeP_get.mp h2).1 (wipeS_some h3).1 (wipeS_some h4).1
  amb := R.amb
  nal := fun a z w => R.nal a z (ow_wipe w)
  tabs := R.tabs
  tfree := R.tfree
/-- behind a block that could not look at the slots vs -/
theorem Rel.back (sub : ∀ i ∈ ws, i ∈ vs) (R : Rel K T al G H r m s) (R' : Rel K T al G' H' (Pu.wipe r' vs) m' (L2.wipe s ws)) (S : Step T al (Ow (Pu.wipe r vs) (L2.wipe s ws)) G H (Ow (Pu.wipe r' vs) (L2.wipe s ws)) G' H') :
    Rel K T al G' H' (Pu.back r r' vs) m' s ∧ Step T al (Ow r s) G H (Ow (Pu.back r r' vs) s) G' H' := by
  have lr : r.length = r'.length := by
    have h1 := R.len
    have h2 := R'.len
    rw [wipeP_len, wipe_length] at h2
    omega
  have low : ∀ (i : Nat) (d : D) (q : Addr), i ∈ vs → r[i]? = some (some (.own d)) → s[i]? = some (some (.ref q)) → ¬ Ow (Pu.wipe r vs) (L2.wipe s ws) q := fun i d q hi h1 h2 ⟨j, e, h3, h4⟩ => by
    obtain ⟨h5, h6⟩ := wipeP_get.mp h3
    have := R.dis i j d e q h1 h5 h2 (wipeS_some h4).1
    exact h6 (this ▸ hi)
  have notT : ∀ (i : Nat) (d : D) (q : Addr), r[i]? = some (some (.own d)) → s[i]? = some (some (.ref q)) → ∀ t ∈ T, t.1 ≠ q := fun i d q h1 h2 t ht z => by
    obtain ⟨q', h3, h4⟩ := R.owns i d h1
    rw [h2] at h3
    cases h3
    obtain ⟨ps, h5, _⟩ := R.tabs t ht
    obtain ⟨o, h6, w⟩ := h4.some_
    rw [z, h6] at h5
    cases h5
    rcases w with ⟨_, w⟩ | ⟨_, w⟩ <;> cases w
  have kept : ∀ (i : Nat) (d : D) (q : Addr) (o : HO), i ∈ vs → r[i]? = some (some (.own d)) → s[i]? = some (some (.ref q)) → H q = some o → H' q = some o ∧ G' q = G q := fun i d q o hi h1 h2 h3 =>
    S.keep q o h3 (low i d q hi h1 h2) (fun z => R.nal q z ⟨i, d, h1, h2⟩) (notT i d q h1 h2)
  have cases_ : ∀ (i : Nat) (w : Sl), (Pu.back r r' vs)[i]? = some (some w) → (i ∈ vs ∧ r[i]? = some (some w)) ∨ (i ∉ vs ∧ (Pu.wipe r' vs)[i]? = some (some w)) := fun i w h => by
    rcases (backP_get lr).mp h with q | ⟨q1, q2⟩
    · exact .inl q
    · exact .inr ⟨q1, wipeP_get.mpr ⟨q2, q1⟩⟩
  have owc : ∀ a, Ow (Pu.back r r' vs) s a → (∃ (i : Nat) (d : D), i ∈ vs ∧ r[i]? = some (some (.own d)) ∧ s[i]? = some (some (.ref a))) ∨ Ow (Pu.wipe r' vs) (L2.wipe s ws) a := fun a ⟨i, d, h1, h2⟩ => by
    rcases cases_ i _ h1 with ⟨q1, q2⟩ | ⟨q1, q2⟩
    · exact .inl ⟨i, d, q1, q2, h2⟩
    · exact .inr ⟨i, d, q2, by rw [wipeS_get fun z => q1 (sub _ z)]; exact h2⟩
  refine ⟨⟨R'.same, by rw [backP_len, ← lr]; exact R.len, fun i d h => ?_, fun i d h => ?_, fun i j d e q h1 h2 h3 h4 => ?_, R'.amb, fun a z w => ?_, R'.tabs, R'.tfree⟩, ⟨S.mono, fun a o e n1 n2 n3 => S.keep a o e (fun z => n1 (ow_wipe z)) n2 n3, fun a w => ?_, S.dom⟩⟩
  · rcases cases_ i _ h with ⟨q1, q2⟩ | ⟨q1, q2⟩
    · obtain ⟨v, h1, h2⟩ := R.vals i d q2
      exact ⟨v, h1, h2.mono S.mono⟩
    · obtain ⟨v, h1, h2⟩ := R'.vals i d q2
      exact ⟨v, by rw [wipeS_get fun z => q1 (sub _ z)] at h1; exact h1, h2⟩
  · rcases cases_ i _ h with ⟨q1, q2⟩ | ⟨q1, q2⟩
    · obtain ⟨v, h1, h2⟩ := R.owns i d q2
      obtain ⟨o, ho, _⟩ := h2.some_
      have kk := kept i d v o q1 q2 h1 ho
      exact ⟨v, h1, h2.move S.mono (by rw [kk.2]; exact h2.1) fun u hu => (kept i d v u q1 q2 h1 hu).1⟩
    · obtain ⟨v, h1, h2⟩ := R'.owns i d q2
      exact ⟨v, by rw [wipeS_get fun z => q1 (sub _ z)] at h1; exact h1, h2⟩
  · have cross : ∀ (i j : Nat) (d e : D), i ∈ vs → r[i]? = some (some (.own d)) → s[i]? = some (some (.ref q)) → j ∉ vs → (Pu.wipe r' vs)[j]? = some (some (.own e)) → s[j]? = some (some (.ref q)) → False := fun i j d e k1 k2 k3 k4 k5 k6 => by
      rcases S.own q ⟨j, e, k5, by rw [wipeS_get fun z => k4 (sub _ z)]; exact k6⟩ with z | z
      · exact low i d q k1 k2 k3 z
      · exact R.olds ⟨i, d, k2, k3⟩ z
    rcases cases_ i _ h1 with ⟨q1, q2⟩ | ⟨q1, q2⟩
    · rcases cases_ j _ h2 with ⟨q3, q4⟩ | ⟨q3, q4⟩
      · exact R.dis i j d e q q2 q4 h3 h4
      · exact (cross i j d e q1 q2 h3 q3 q4 h4).elim
    · rcases cases_ j _ h2 with ⟨q3, q4⟩ | ⟨q3, q4⟩
      · exact (cross j i e d q3 q4 h4 q1 q2 h3).elim
      · exact R'.dis i j d e q q2 q4 (by rw [wipeS_get fun z => q1 (sub _ z)]; exact h3) (by rw [wipeS_get fun z => q3 (sub _ z)]; exact h4)
  · rcases owc a w with ⟨i, d, _, h1, h2⟩ | q
    · exact R.nal a z ⟨i, d, h1, h2⟩
    · exact R'.nal a z q
  · rcases owc a w with ⟨i, d, _, h1, h2⟩ | q
    · exact .inl ⟨i, d, h1, h2⟩
    · rcases S.own a q with z | z
      · exact .inl (ow_wipe z)
      · exact .inr z
end
/-! ### the context of a block -/
theorem passN {X : Cx} : Passes (L2N.CX X.prog X.w) X E0 := fun _ _ _ _ _ _ _ c => by
  obtain ⟨_, _, _, _, _, _, _, _, _, _, _, _, z⟩ := c
  exact z.elim
theorem takesN {X : Cx} : L2N.Takes X (fun cls d _ H => E0 cls d H) := fun _ _ x => by
  obtain ⟨_, _, _, _, _, _, _, _, _, _, _, _, _, _, _, _, z⟩ := x
  exact z.elim
theorem cn_blk {k : Nat} {X : Cx} {E : XK} {s : Shared} {H : Hp} {scope : Scope} {ce : Env} {fp : List Addr} (C : Cn k X E) : Cn k (X.blk s H scope ce fp) E0 := ⟨C.calm, C.nd, passN, PassesOwn.never, takesN, C.room⟩
/-- the weakest readings, whatever block it is -/
def blkE (X : Cx) (scope : Scope) (e : Expr) : TE := fun σ H Q => ∀ (s0 : Shared) (H0 : Hp) (C : Addr) (cl : List (Str × Addr)) (fp : List Addr) (pins : List (Addr × Obj)) (s : Shared), Inv (X.blk s0 H0 scope (compEnvC scope cl C X.env) fp) pins σ H s →
  wpAny (model X.prog X.w) X.A (eval e (compEnvC scope cl C X.env)) (EP (X.blk s0 H0 scope (compEnvC scope cl C X.env) fp) pins σ Q) (fun _ _ => False) s
def blkT (X : Cx) (scope : Scope) (ifs : List Expr) : TT := fun σ H Q => ∀ (s0 : Shared) (H0 : Hp) (C : Addr) (cl : List (Str × Addr)) (fp : List Addr) (pins : List (Addr × Obj)) (s : Shared), Inv (X.blk s0 H0 scope (compEnvC scope cl C X.env) fp) pins σ H s →
  wpAny (model X.prog X.w) X.A (forIn ifs true fun c r => if r = true then do let ok ← isTrue c (compEnvC scope cl C X.env) (eval c (compEnvC scope cl C X.env)); pure (ForInStep.yield ok) else pure (ForInStep.yield r)) (TP (X.blk s0 H0 scope (compEnvC scope cl C X.env) fp) pins σ Q) (fun _ _ => False) s
def blkG (X : Cx) (scope : Scope) (tg : Expr) : TG := fun v σ H Q => ∀ (s0 : Shared) (H0 : Hp) (C : Addr) (cl : List (Str × Addr)) (fp : List Addr) (pins : List (Addr × Obj)) (s : Shared) (u : Value), Inv (X.blk s0 H0 scope (compEnvC scope cl C X.env) fp) pins σ H s → RelV v u →
  wpAny (model X.prog X.w) X.A (assign tg (compEnvC scope cl C X.env) u) (fun _ s' => ∃ σ' H', Inv (X.blk s0 H0 scope (compEnvC scope cl C X.env) fp) pins σ' H' s' ∧ Q σ' H') (fun _ _ => False) s
/-- tests of a clause -/
def STs (X : Cx) (T : Tb) (E : XK) (ifs : List Expr) (c : M Bool) : Prop := ∃ t, PTs X ifs t ∧ Sd X.K T E t vB c
section
variable {X : Cx} {T : Tb} {E : XK} {e c tg iter elt : Expr} {ifs : List Expr} {pos : Pos} {k : Nat} {ca : M D} {ta : M Bool} {ci : M (List D)} {g : Tg} {scope : Scope} {own : List (Str × Nat)}
theorem sts_nil : STs X T E [] Pu.tYes := ⟨_, pts_nil, fun al r m s G H Q R hP => hP.ok_ R rfl⟩
theorem sts_one (h : ST X T E c ta) : STs X T E [c] ta := by
  obtain ⟨t, h1, h2⟩ := h
  exact ⟨t, pts_one h1, h2⟩
/-- a foreign changing object is written -/
theorem Rel.upd {K : PySem.W.Frag} {al : Option Addr} {G H : Hp} {r : Rho} {m : D} {s : L2.St} {p : Addr} {o : HO} (R : Rel K T al G H r m s) (g : G p = none) (no : ¬ Ow r s p) (na : al ≠ some p) (nt : ∀ q ∈ T, q.1 ≠ p) (nx : ∀ q : Str, H p ≠ some (LamX.CodeO p q)) : Rel K T al G (L2.upd H p o) r m s := by
  refine R.move (Same.refl G) (same_updR R.same g) (fun a u w e => by rw [upd_ne fun z => no (by rw [← z]; exact w)]; exact e) (fun a w => R.ofree w) (fun a z => ?_) ?_ R.tfree
  · have q := R.amb a z
    have ne : a ≠ p := fun e => na (by rw [← e]; exact z)
    exact q.move (Same.refl G) q.1 fun u e => by rw [upd_ne ne]; exact e
  · intro q hq
    obtain ⟨ps, h1, h2, h3⟩ := R.tabs q hq
    refine ⟨ps, by rw [upd_ne (nt q hq)]; exact h1, h2, fun pos cv hc => ?_⟩
    obtain ⟨c, e1, e2⟩ := h3 pos cv hc
    exact ⟨c, e1, by rw [upd_ne fun z => nx _ (by rw [← z]; exact e2)]; exact e2⟩
theorem lc_sound {vs ws : List Nat} (sub : ∀ i ∈ ws, i ∈ vs) (hv : ∀ i ∈ slots g, i ∈ ws) {al : Option Addr} {r1 : Rho} {m1 : D} {s : L2.St} {G1 H1 : Hp} {ds : List D} {J : It} {Q : VK} (hl : ds.length ≤ LN)
    (hg : ∀ (s : Shared) (H : Hp) (C : Addr) (cl : List (Str × Addr)) (fp : List Addr), SG (X.blk s H scope (compEnvC scope cl C X.env) fp) T tg g)
    (ht : ∀ (s : Shared) (H : Hp) (C : Addr) (cl : List (Str × Addr)) (fp : List Addr), STs (X.blk s H scope (compEnvC scope cl C X.env) fp) T E0 ifs ta)
    (he : ∀ (s : Shared) (H : Hp) (C : Addr) (cl : List (Str × Addr)) (fp : List Addr), SE (X.blk s H scope (compEnvC scope cl C X.env) fp) T E0 elt ca)
    (R1 : Rel X.K T al G1 H1 r1 m1 s) (y1 : Yz X.K T al (Ow (Pu.wipe r1 vs) (L2.wipe s ws)) G1 H1 ds J)
    (P1 : PoN X.K T al r1 s G1 H1 E Q (match Pu.lcGo vs g ta ca ds [] r1 m1 with
      | .ok xs r' m' => .ok (.lst xs) (Pu.back r1 r' vs) m'
      | _ => .bad)) :
    ∀ D, H1 D = none → ∃ W : Nat → Nat → Hp → Prop, (∃ m, W 0 m (L2.upd H1 D (.lst []))) ∧ ∀ i m H, W i m H →
      (J.stop i H ∧ Q (.ref D) H) ∨ (J.go i H ∧ ∃ Nx : Hp → Prop, (∀ H', Nx H' → ∃ m', m' < m ∧ W (i + 1) m' H') ∧ ∀ x H', J.yld i H x H' → blkG X scope tg x (L2.wipe s ws) H' fun s2 H2 => L2.wipe s2 ws = L2.wipe s ws ∧ blkT X scope ifs s2 H2 fun b H3 =>
        if b = true then blkE X scope elt s2 H3 fun y H4 => ∃ acc, H4 D = some (.lst acc) ∧ acc.length < sizeLine ∧ Nx (L2.upd H4 D (.lst (acc ++ [y]))) else Nx H3) := by
  intro D hD
  have naD : al ≠ some D := fun z => by
    obtain ⟨o, q, _⟩ := (R1.amb D z).some_
    rw [hD] at q; cases q
  have ntD : ∀ q ∈ T, q.1 ≠ D := fun q hq z => by
    obtain ⟨ps, h1, _⟩ := R1.tabs q hq
    rw [z, hD] at h1; cases h1
  have nxD : ∀ (H : Hp) (xs : List V), H D = some (.lst xs) → ∀ q : Str, H D ≠ some (LamX.CodeO D q) := fun H xs e q z => by
    rw [e] at z
    unfold LamX.CodeO at z
    cases z
  generalize hres : Pu.lcGo vs g ta ca ds [] r1 m1 = res at P1
  refine ⟨fun i mm H' => mm = ds.length - i ∧ i ≤ ds.length ∧ ∃ r' m' G' acc xs, Rel X.K T al G' H' (Pu.wipe r' vs) m' (L2.wipe s ws) ∧ Step T al (Ow (Pu.wipe r1 vs) (L2.wipe s ws)) G1 H1 (Ow (Pu.wipe r' vs) (L2.wipe s ws)) G' H' ∧
      H' D = some (.lst xs) ∧ G' D = none ∧ ¬ Ow (Pu.wipe r' vs) (L2.wipe s ws) D ∧ DnL X.K al G' xs acc ∧ acc.length ≤ i ∧ Pu.lcGo vs g ta ca (ds.drop i) acc r' m' = res,
    ⟨ds.length, rfl, Nat.zero_le _, r1, m1, G1, [], [], (R1.wipe sub).newO hD, step_newO hD, upd_same, R1.same.free hD, fun z => R1.olds (ow_wipe z) hD, .nil, Nat.zero_le _, by rw [List.drop_zero]; exact hres⟩, ?_⟩
  rintro i mm H' ⟨rfl, hi, r', m', G', acc, xs, R', S', eD, gD, nD, da, la, er⟩
  obtain ⟨yi, ye⟩ := y1 _ G' H' S' R'.same
  by_cases hlt : i < ds.length
  · have hd : ds[i]? = some ds[i] := by simp [hlt]
    obtain ⟨go, nxt⟩ := yi i _ hd
    have ed : ds.drop i = ds[i] :: ds.drop (i + 1) := List.drop_eq_getElem_cons hlt
    rw [ed] at er
    refine .inr ⟨go, fun H2 => ∃ r' m' G' acc xs, Rel X.K T al G' H2 (Pu.wipe r' vs) m' (L2.wipe s ws) ∧ Step T al (Ow (Pu.wipe r1 vs) (L2.wipe s ws)) G1 H1 (Ow (Pu.wipe r' vs) (L2.wipe s ws)) G' H2 ∧
      H2 D = some (.lst xs) ∧ G' D = none ∧ ¬ Ow (Pu.wipe r' vs) (L2.wipe s ws) D ∧ DnL X.K al G' xs acc ∧ acc.length ≤ i + 1 ∧ Pu.lcGo vs g ta ca (ds.drop (i + 1)) acc r' m' = res, fun H2 h => ⟨ds.length - (i + 1), by omega, rfl, hlt, h⟩, fun x H'' hy => ?_⟩
    obtain ⟨G2, fx, dn⟩ := nxt x H'' hy
    have R2 := fx.rel R'
    have S2 : Step T al (Ow (Pu.wipe r' vs) (L2.wipe s ws)) G' H' (Ow (Pu.wipe r' vs) (L2.wipe s ws)) G2 H'' := fx.step R'.same
    -- the new list behind a step
    have keepD : ∀ {O2 : Addr → Prop} {G5 H5 : Hp}, Step T al (Ow (Pu.wipe r' vs) (L2.wipe s ws)) G' H' O2 G5 H5 → H5 D = some (.lst xs) ∧ G5 D = none ∧ ¬ O2 D := fun {O2 G5 H5} S => by
      obtain ⟨k1, k2⟩ := S.keep D _ eD nD naD ntD
      refine ⟨k1, by rw [k2]; exact gD, fun z => ?_⟩
      rcases S.own D z with q | q
      · exact nD q
      · rw [eD] at q; cases q
    unfold Pu.lcGo Pu.tgt at er
    cases q : Pu.asg g ds[i] (Pu.wipe r' vs) with
    | none => rw [q] at er; rw [← er] at P1; exact (show False from P1).elim
    | some r3 =>
      rw [q] at er
      dsimp only at er
      intro s0 H0 C cl fp pins st u I ru
      obtain ⟨gg, pg, sg⟩ := hg s0 H0 C cl fp
      refine pg.run pins st _ _ x u _ I ru (sg al _ r3 m' _ G2 H'' x _ _ R2 dn q fun s3 w3 S3 R3 => ⟨(w3 ws hv).trans (wipeS_idem s ws), ?_⟩)
      intro s0 H0 C cl fp pins st I
      obtain ⟨tt, pt, sdt⟩ := ht s0 H0 C cl fp
      have S23 := S2.trans S3
      refine pt.run pins st _ _ _ I (sdt al r3 m' s3 G2 H'' _ R3 ?_)
      cases q2 : ta r3 m' with
      | bad => rw [q2] at er; rw [← er] at P1; exact (show False from P1).elim
      | exc c mm => rw [q2] at er; rw [← er] at P1; exact (show False from P1).elim
      | ok b r4 m4 =>
        rw [q2] at er
        intro bb G4 H4 S4 R4 eb
        obtain rfl : b = bb := eb
        have S24 := S23.trans S4
        cases b with
        | false =>
          refine iteF ?_
          dsimp only at er
          obtain ⟨k1, k2, k3⟩ := keepD S24
          have ew : L2.wipe s3 ws = L2.wipe s ws := (w3 ws hv).trans (wipeS_idem s ws)
          have R5 : Rel X.K T al G4 H4 (Pu.wipe r4 vs) m4 (L2.wipe s ws) := by rw [← ew]; exact R4.wipe sub
          have S5 : Step T al (Ow (Pu.wipe r1 vs) (L2.wipe s ws)) G1 H1 (Ow (Pu.wipe r4 vs) (L2.wipe s ws)) G4 H4 := (S'.trans S24).sub fun a z => by rw [← ew] at z; exact ow_wipe z
          exact ⟨r4, m4, G4, acc, xs, R5, S5, k1, k2, fun z => k3 (by rw [← ew] at z; exact ow_wipe z), da.mono S24.mono, Nat.le_succ_of_le la, er⟩
        | true =>
          refine iteT ?_
          dsimp only at er
          intro s0 H0 C cl fp pins st I
          obtain ⟨te, pe, sde⟩ := he s0 H0 C cl fp
          refine pe.run pins st _ _ _ I (sde al r4 m4 s3 G4 H4 _ R4 ?_)
          cases q3 : ca r4 m4 with
          | bad => rw [q3] at er; rw [← er] at P1; exact (show False from P1).elim
          | exc c mm => rw [q3] at er; rw [← er] at P1; exact (show False from P1).elim
          | ok y r5 m5 =>
            rw [q3] at er
            intro yv G5 H5 S5 R5 dy
            have S25 := S24.trans S5
            obtain ⟨k1, k2, k3⟩ := keepD S25
            have lx := da.length
            have ew : L2.wipe s3 ws = L2.wipe s ws := (w3 ws hv).trans (wipeS_idem s ws)
            have R6 : Rel X.K T al G5 H5 (Pu.wipe r5 vs) m5 (L2.wipe s ws) := by rw [← ew]; exact R5.wipe sub
            have nD6 : ¬ Ow (Pu.wipe r5 vs) (L2.wipe s ws) D := fun z => k3 (by rw [← ew] at z; exact ow_wipe z)
            have S6 : Step T al (Ow (Pu.wipe r1 vs) (L2.wipe s ws)) G1 H1 (Ow (Pu.wipe r5 vs) (L2.wipe s ws)) G5 H5 := (S'.trans S25).sub fun a z => by rw [← ew] at z; exact ow_wipe z
            refine ⟨xs, k1, by rw [ln_eq]; omega, r5, m5, G5, acc ++ [y], xs ++ [yv], R6.upd k2 nD6 naD ntD (nxD H5 xs k1), ⟨S6.mono, fun a o e n1 n2 n3 => ?_, S6.own, fun a e => ?_⟩, upd_same, k2, nD6, (da.mono S25.mono).append (.cons dy .nil), by rw [List.length_append]; simp; omega, er⟩
            · obtain ⟨z1, z2⟩ := S6.keep a o e n1 n2 n3
              exact ⟨by rw [upd_ne (ne_of_none e hD)]; exact z1, z2⟩
            · by_cases z : a = D
              · rw [z, upd_same]; exact fun z => nomatch z
              · rw [upd_ne z]; exact S6.dom a e
  · have e : i = ds.length := by omega
    subst e
    rw [List.drop_length] at er
    have er : Rs.ok acc r' m' = res := er
    rw [← er] at P1
    obtain ⟨RB, SB⟩ := Rel.back sub R1 R' S'
    refine .inl ⟨ye, P1 D G' H' SB RB ⟨gD, xs, eD, Nat.le_trans la hl, da⟩ (fun ⟨j, d, h1, h2⟩ => ?_) naD hD⟩
    have lr : r1.length = r'.length := by
      have h1 := R1.len
      have h2 := R'.len
      rw [wipeP_len, wipe_length] at h2
      omega
    rcases (backP_get lr).mp h1 with ⟨q1, q2⟩ | ⟨q1, q2⟩
    · exact R1.olds ⟨j, d, q2, h2⟩ hD
    · exact nD ⟨j, d, wipeP_get.mpr ⟨q2, q1⟩, by rw [wipeS_get fun z => q1 (sub _ z)]; exact h2⟩
theorem blkE_pe {s : Shared} {H : Hp} {C : Addr} {cl : List (Str × Addr)} {fp : List Addr} : PE (X.blk s H scope (compEnvC scope cl C X.env) fp) e (blkE X scope e) := ⟨fun pins st σ H' Q I h => h s H C cl fp pins st I⟩
theorem blkT_pt {s : Shared} {H : Hp} {C : Addr} {cl : List (Str × Addr)} {fp : List Addr} : PTs (X.blk s H scope (compEnvC scope cl C X.env) fp) ifs (blkT X scope ifs) := ⟨fun pins st σ H' Q I h => h s H C cl fp pins st I⟩
theorem blkG_pg {s : Shared} {H : Hp} {C : Addr} {cl : List (Str × Addr)} {fp : List Addr} : PG (X.blk s H scope (compEnvC scope cl C X.env) fp) tg (blkG X scope tg) := ⟨fun pins st σ H' v u Q I r h => h s H C cl fp pins st u I r⟩
/-- [e for tg in it if t] -/
theorem so_lc (C : Cn k X E) (own : List (Str × Nat)) (ok : blkC X.N X.env.scope scope own = true) (hv : (slots g).all (fun i => (own.map (·.2)).contains i) = true) (hi : SI X T E tg iter ci)
    (hg : ∀ (s : Shared) (H : Hp) (C : Addr) (cl : List (Str × Addr)) (fp : List Addr), SG (X.blk s H scope (compEnvC scope cl C X.env) fp) T tg g)
    (ht : ∀ (s : Shared) (H : Hp) (C : Addr) (cl : List (Str × Addr)) (fp : List Addr), STs (X.blk s H scope (compEnvC scope cl C X.env) fp) T E0 ifs ta)
    (he : ∀ (s : Shared) (H : Hp) (C : Addr) (cl : List (Str × Addr)) (fp : List Addr), SE (X.blk s H scope (compEnvC scope cl C X.env) fp) T E0 elt ca) (hs : ∀ x, foldedSetIterable iter X.env x = pure x := by intro _; rfl) :
    SO X T E (.ListComp elt [⟨tg, iter, ifs, 0⟩] scope pos) (Pu.cLc (own.map (·.2)) ci g ta ca) := by
  obtain ⟨wi, h1, h2⟩ := hi
  refine ⟨_, pe_lc C.calm C.nd h1 (blkOk_by ok) (fun _ _ _ _ _ => blkG_pg) (fun _ _ _ _ _ => blkT_pt) (fun _ _ _ _ _ => blkE_pe) hs, fun al r m s G H Q R hP => ?_⟩
  refine h2.thnN R hP fun ds r1 m1 J G1 H1 S1 R1 y1 P1 => ?_
  have hv' : ∀ i ∈ slots g, i ∈ own.map (·.2) := fun i h => by
    have := List.all_eq_true.mp hv i h
    simpa using this
  rw [List.append_nil] at P1
  exact lc_sound (fun _ z => z) hv' y1.1 hg ht he R1 y1.2.z P1
end
end Su

namespace Su
open PySem PySem.Spec PyProof.Rows L2
open Pu (D Sl Rho Rs M Ro Fn Fl Tg LN)
section
variable {X : Cx} {T : Tb} {E : XK} {e a b c : Expr} {es : List Expr} {p p2 pos : Pos} {k j n i : Nat} {ca cb : M D} {x : Str}
/-! ### calls of one argument -/
def C1 (X : Cx) (T : Tb) (rr : List V → Hp → VK → Prop) (f : D → Option D) : Prop :=
  ∀ (al : Option Addr) (r : Rho) (m : D) (s : L2.St) (G H : Hp) (v : V) (y d : D) (Q : VK), Rel X.K T al G H r m s → Dn X.K al G v y → f y = some d →
    (∀ z G' H', Step T al (Ow r s) G H (Ow r s) G' H' → Rel X.K T al G' H' r m s → Dn X.K al G' z d → Q z H') → rr [v] H Q
theorem se_cb1 {id : String} {rr : List V → Hp → VK → Prop} {f : D → Option D} (hc : CallR X (.builtin id) rr) (hd : C1 X T rr f) (hm : X.mg x = none) (hv : bootBuiltins x = some (.builtin id)) (ha : SE X T E a ca) (hg : Gl X x := by rfl) (hn : x ≠ "__name__" := by decide) (hdb : (x == ("__debug__" : Str)) = false := by decide)
    (he : starEach (a :: []) X.env = (false, eval a X.env) :: starEach [] X.env := by rfl) (hpl : (backTo pos (starEach [] X.env)).any (·.1) = false := by rfl) : SE X T E (.Call (.Name x p) [a] [] pos) (Pu.c1 f ca) := by
  obtain ⟨t, h1, h2⟩ := ha
  refine ⟨_, pe_callB hc hg hm hv (pa_cons h1 pa_nil he) hn hdb he hpl, fun al r m s G H Q R hP => ?_⟩
  refine h2.thn R hP fun y r1 m1 v G1 H1 S1 R1 d1 P1 => ?_
  obtain ⟨d, e, P2⟩ := P1.opt_
  exact hd al r1 m1 s G1 H1 v y d Q R1 d1 e fun z G' H' S R' dz => P2 z G' H' S R' dz
theorem se_ct1 {T' : String} {rr : List V → Hp → VK → Prop} {f : D → Option D} (hc : CallR X (.type T') rr) (hd : C1 X T rr f) (hm : X.mg x = none) (hv : bootBuiltins x = some (.type T')) (ha : SE X T E a ca) (hg : Gl X x := by rfl) (hn : x ≠ "__name__" := by decide) (hdb : (x == ("__debug__" : Str)) = false := by decide)
    (he : starEach (a :: []) X.env = (false, eval a X.env) :: starEach [] X.env := by rfl) (hpl : (backTo pos (starEach [] X.env)).any (·.1) = false := by rfl) : SE X T E (.Call (.Name x p) [a] [] pos) (Pu.c1 f ca) := by
  obtain ⟨t, h1, h2⟩ := ha
  refine ⟨_, pe_callTy hc hg hm hv (pa_cons h1 pa_nil he) hn hdb he hpl, fun al r m s G H Q R hP => ?_⟩
  refine h2.thn R hP fun y r1 m1 v G1 H1 S1 R1 d1 P1 => ?_
  obtain ⟨d, e, P2⟩ := P1.opt_
  exact hd al r1 m1 s G1 H1 v y d Q R1 d1 e fun z G' H' S R' dz => P2 z G' H' S R' dz
/-- two arguments, intsD -/
theorem se_cb2 {id : String} {rr : List V → Hp → VK → Prop} {f : D → D → Option D} (hc : CallR X (.builtin id) rr) (hd : OpD X T (fun v w H Q => rr [v, w] H Q) f) (hm : X.mg x = none) (hv : bootBuiltins x = some (.builtin id)) (ha : SE X T E a ca) (hb : SE X T E b cb) (hg : Gl X x := by rfl) (hn : x ≠ "__name__" := by decide) (hdb : (x == ("__debug__" : Str)) = false := by decide)
    (he : starEach (a :: [b]) X.env = (false, eval a X.env) :: starEach [b] X.env := by rfl) (he2 : starEach (b :: []) X.env = (false, eval b X.env) :: starEach [] X.env := by rfl) (hpl : (backTo pos (starEach [b] X.env)).any (·.1) = false := by rfl) : SE X T E (.Call (.Name x p) [a, b] [] pos) (Pu.c2 f ca cb) := by
  obtain ⟨t, h1, h2⟩ := ha
  obtain ⟨u, h3, h4⟩ := hb
  refine ⟨_, pe_callB hc hg hm hv (pa_cons h1 (pa_cons h3 pa_nil he2) he) hn hdb he hpl, fun al r m s G H Q R hP => ?_⟩
  refine h2.thn R hP fun y r1 m1 v G1 H1 S1 R1 d1 P1 => ?_
  refine h4.thn R1 P1 fun z r2 m2 w G2 H2 S2 R2 d2 P2 => ?_
  obtain ⟨d, e, P3⟩ := P2.opt_
  exact hd al r2 m2 s G2 H2 v w y z d Q R2 (d1.mono S2.mono) d2 e fun z G' H' S R' dz => P3 z G' H' S R' dz
/-! ### what they compute -/
theorem c1_len : C1 X T (fun xs H Q => ∃ x n, xs = [x] ∧ LenV X.K x H n ∧ Q (.int n) H) Pu.oLen := by
  intro al r m s G H v y d Q R dv e k
  cases y <;> simp only [Pu.oLen, reduceCtorEq, Option.some.injEq] at e
  · subst e
    obtain ⟨e1, k1⟩ := dv.str_of
    subst e1
    exact ⟨_, _, rfl, ⟨by rw [mkS_len, ln_eq]; exact k1.len, rfl⟩, by rw [mkS_len]; exact fin_ R k (.int _)⟩
  · subst e
    obtain ⟨q, xs, rfl, h1, _, h2⟩ := dv.tup_of
    exact ⟨_, _, rfl, .inr ⟨xs, SqT.of (R.same _ _ h1), rfl⟩, by rw [h2.length]; exact fin_ R k (.int _)⟩
  · subst e
    obtain ⟨q, xs, rfl, h1, _, h2⟩ := dv.lst_of
    exact ⟨_, _, rfl, .inl ⟨xs, SqL.of (R.same _ _ h1), rfl⟩, by rw [h2.length]; exact fin_ R k (.int _)⟩
  · subst e
    obtain ⟨q, rfl, h1, _⟩ := dv.scr_of
    exact ⟨_, _, rfl, .inl ⟨_, R.same.seq h1, rfl⟩, by rw [List.length_map]; exact fin_ R k (.int _)⟩
theorem DnL.intsD {K : PySem.W.Frag} {al : Option Addr} {G : Hp} : ∀ {ns : List Int} {xs : List V}, DnL K al G xs (ns.map .int) → xs = ns.map V.int
  | [], _, .nil => rfl
  | n :: ns, _, .cons h r => by rw [h.int_of, DnL.intsD r]; rfl
theorem DnL.blsD {K : PySem.W.Frag} {al : Option Addr} {G : Hp} : ∀ {ns : List Bool} {xs : List V}, DnL K al G xs (ns.map .bl) → xs = ns.map V.bl
  | [], _, .nil => rfl
  | n :: ns, _, .cons h r => by rw [h.bl_of, DnL.blsD r]; rfl
theorem DnL.strsD {K : PySem.W.Frag} {al : Option Addr} {G : Hp} : ∀ {ns : List (List Nat)} {xs : List V}, DnL K al G xs (ns.map .str) → xs = (ns.map mkS).map V.str ∧ ∀ z ∈ ns, TxOk z
  | [], _, .nil => ⟨rfl, fun _ h => nomatch h⟩
  | n :: ns, _, .cons h r => by
    obtain ⟨e, k⟩ := h.str_of
    obtain ⟨e2, k2⟩ := DnL.strsD r
    rw [e, e2]
    exact ⟨rfl, fun z hz => (List.mem_cons.mp hz).elim (fun q => by rw [q]; exact k) (k2 z)⟩
theorem c1_sum : C1 X T (rSum X.K) Pu.oSum := by
  intro al r m s G H v y d Q R dv e k
  cases y <;> simp only [Pu.oSum, reduceCtorEq] at e
  obtain ⟨ns, h1, rfl⟩ := Option.map_eq_some_iff.mp e
  rw [Pu.ints_eq h1] at dv
  obtain ⟨q, xs, rfl, h1, _, h2⟩ := dv.lst_of
  rw [DnL.intsD h2] at h1
  exact ⟨q, ns, rfl, SqL.of (R.same _ _ h1), fin_ R k (.int _)⟩
theorem c1_all : C1 X T (rAll X.K) Pu.oAll := by
  intro al r m s G H v y d Q R dv e k
  cases y <;> simp only [Pu.oAll, reduceCtorEq] at e
  obtain ⟨ns, h1, rfl⟩ := Option.map_eq_some_iff.mp e
  rw [Pu.bls_eq h1] at dv
  obtain ⟨q, xs, rfl, h1, _, h2⟩ := dv.lst_of
  rw [DnL.blsD h2] at h1
  exact ⟨q, ns, rfl, SqL.of (R.same _ _ h1), fin_ R k (.bl _)⟩
theorem c1_any : C1 X T (rAny X.K) Pu.oAny := by
  intro al r m s G H v y d Q R dv e k
  cases y <;> simp only [Pu.oAny, reduceCtorEq] at e
  obtain ⟨ns, h1, rfl⟩ := Option.map_eq_some_iff.mp e
  rw [Pu.bls_eq h1] at dv
  obtain ⟨q, xs, rfl, h1, _, h2⟩ := dv.lst_of
  rw [DnL.blsD h2] at h1
  exact ⟨q, ns, rfl, SqL.of (R.same _ _ h1), fin_ R k (.bl _)⟩
theorem minI_is : ∀ {ns : List Int}, ns ≠ [] → Pu.minI ns ∈ ns ∧ ∀ y ∈ ns, Pu.minI ns ≤ y
  | [], h => absurd rfl h
  | [a], _ => by simp [Pu.minI]
  | a :: b :: r, _ => by
    obtain ⟨h1, h2⟩ := minI_is (ns := b :: r) (fun z => nomatch z)
    simp only [Pu.minI]
    refine ⟨?_, fun y hy => ?_⟩
    · by_cases q : a ≤ Pu.minI (b :: r)
      · rw [Int.min_eq_left q]; exact List.mem_cons_self
      · rw [Int.min_eq_right (by omega)]; exact List.mem_cons_of_mem _ h1
    · rcases List.mem_cons.mp hy with z | z
      · rw [z]; exact Int.min_le_left _ _
      · exact Int.le_trans (Int.min_le_right _ _) (h2 y z)
theorem maxI_is : ∀ {ns : List Int}, ns ≠ [] → Pu.maxI ns ∈ ns ∧ ∀ y ∈ ns, y ≤ Pu.maxI ns
  | [], h => absurd rfl h
  | [a], _ => by simp [Pu.maxI]
  | a :: b :: r, _ => by
    obtain ⟨h1, h2⟩ := maxI_is (ns := b :: r) (fun z => nomatch z)
    simp only [Pu.maxI]
    refine ⟨?_, fun y hy => ?_⟩
    · by_cases q : a ≤ Pu.maxI (b :: r)
      · rw [Int.max_eq_right q]; exact List.mem_cons_of_mem _ h1
      · rw [Int.max_eq_left (by omega)]; exact List.mem_cons_self
    · rcases List.mem_cons.mp hy with z | z
      · rw [z]; exact Int.le_max_left _ _
      · exact Int.le_trans (h2 y z) (Int.le_max_right _ _)
theorem c1_minL : C1 X T (rMin X.K) Pu.oMinL := by
  intro al r m s G H v y d Q R dv e k
  cases y <;> simp only [Pu.oMinL, reduceCtorEq] at e
  obtain ⟨ns, h1, e⟩ := Option.bind_eq_some_iff.mp e
  simp only [Option.ite_none_left_eq_some, Option.some.injEq] at e
  obtain ⟨hne, e⟩ := e
  subst e
  rw [Pu.ints_eq h1] at dv
  obtain ⟨q, xs, rfl, h1, _, h2⟩ := dv.lst_of
  rw [DnL.intsD h2] at h1
  refine ⟨q, ns, rfl, SqL.of (R.same _ _ h1), List.length_pos_iff.mpr hne, fun mm hm hle => ?_⟩
  obtain ⟨z1, z2⟩ := minI_is hne
  have : mm = Pu.minI ns := Int.le_antisymm (hle _ z1) (z2 _ hm)
  rw [this]
  exact fin_ R k (.int _)
theorem c1_maxL : C1 X T (rMax X.K) Pu.oMaxL := by
  intro al r m s G H v y d Q R dv e k
  cases y <;> simp only [Pu.oMaxL, reduceCtorEq] at e
  obtain ⟨ns, h1, e⟩ := Option.bind_eq_some_iff.mp e
  simp only [Option.ite_none_left_eq_some, Option.some.injEq] at e
  obtain ⟨hne, e⟩ := e
  subst e
  rw [Pu.ints_eq h1] at dv
  obtain ⟨q, xs, rfl, h1, _, h2⟩ := dv.lst_of
  rw [DnL.intsD h2] at h1
  refine ⟨q, ns, rfl, SqL.of (R.same _ _ h1), List.length_pos_iff.mpr hne, fun mm hm hle => ?_⟩
  obtain ⟨z1, z2⟩ := maxI_is hne
  have : mm = Pu.maxI ns := Int.le_antisymm (z2 _ hm) (hle _ z1)
  rw [this]
  exact fin_ R k (.int _)
theorem c2_min : OpD X T (fun v w H Q => ∃ i j, [v, w] = [V.int i, V.int j] ∧ Q (V.int (if j < i then j else i)) H) Pu.oMin2 := by
  intro al r m s G H v w x y d Q R dx dy e k
  cases x <;> cases y <;> simp only [Pu.oMin2, reduceCtorEq, Option.some.injEq] at e
  subst e
  rw [dx.int_of, dy.int_of]
  exact ⟨_, _, rfl, fin_ R k (.int _)⟩
theorem c2_max : OpD X T (fun v w H Q => ∃ i j, [v, w] = [V.int i, V.int j] ∧ Q (V.int (if j > i then j else i)) H) Pu.oMax2 := by
  intro al r m s G H v w x y d Q R dx dy e k
  cases x <;> cases y <;> simp only [Pu.oMax2, reduceCtorEq, Option.some.injEq] at e
  subst e
  rw [dx.int_of, dy.int_of]
  exact ⟨_, _, rfl, fin_ R k (.int _)⟩
theorem c1_tuple : C1 X T (fun xs H Q => ∃ p ys, xs = [.ref p] ∧ ((SqL X.K H p ys ∧ ∀ l, H l = none → Q (.ref l) (upd H l (.tup ys))) ∨ (SqT X.K H p ys ∧ Q (.ref p) H))) Pu.oTuple := by
  intro al r m s G H v y d Q R dv e k
  cases y <;> simp only [Pu.oTuple, reduceCtorEq, Option.some.injEq] at e
  · subst e
    obtain ⟨q, xs, rfl, h1, _, h2⟩ := dv.tup_of
    exact ⟨q, xs, rfl, .inr ⟨SqT.of (R.same _ _ h1), fin_ R k dv⟩⟩
  · subst e
    obtain ⟨q, xs, rfl, h1, hl, h2⟩ := dv.lst_of
    exact ⟨q, xs, rfl, .inl ⟨SqL.of (R.same _ _ h1), fun l n => fin_tup R k h2 hl n⟩⟩
theorem c1_list : C1 X T (fun xs H Q => ∃ p ys, xs = [.ref p] ∧ (SqL X.K H p ys ∨ SqT X.K H p ys) ∧ ∀ l, H l = none → Q (.ref l) (upd H l (.lst ys))) Pu.oList := by
  intro al r m s G H v y d Q R dv e k
  cases y <;> simp only [Pu.oList, reduceCtorEq, Option.some.injEq] at e
  · subst e
    obtain ⟨q, xs, rfl, h1, hl, h2⟩ := dv.tup_of
    exact ⟨q, xs, rfl, .inr (SqT.of (R.same _ _ h1)), fun l n => fin_lst R k h2 hl n⟩
  · subst e
    obtain ⟨q, xs, rfl, h1, hl, h2⟩ := dv.lst_of
    exact ⟨q, xs, rfl, .inl (SqL.of (R.same _ _ h1)), fun l n => fin_lst R k h2 hl n⟩
theorem c1_int : C1 X T (fun xs H Q => (∃ i, xs = [.int i] ∧ Q (.int i) H) ∨ ∃ k, xs = [.bl k] ∧ Q (.int (if k then 1 else 0)) H) Pu.oInt := by
  intro al r m s G H v y d Q R dv e k
  cases y <;> simp only [Pu.oInt, reduceCtorEq, Option.some.injEq] at e
  · subst e
    rw [dv.bl_of]
    exact .inr ⟨_, rfl, fin_ R k (.int _)⟩
  · subst e
    rw [dv.int_of]
    exact .inl ⟨_, rfl, fin_ R k (.int _)⟩
/-! ### isinstance -/
theorem kitB_all : ∀ a ∈ ["NoneType", "bool", "int", "str", "tuple", "list", "dict"], ∀ b ∈ ["int", "bool", "str", "tuple", "list"], kitB a b = some (Pu.isB a b) := by decide +kernel
theorem ty_of {K : PySem.W.Frag} {al : Option Addr} {G H : Hp} {v : V} {d : D} {a : String} (s : Same G H) (h : Dn K al G v d) (e : Pu.tyOf d = some a) : TyX K H v (.type a) ∧ a ∈ ["NoneType", "bool", "int", "str", "tuple", "list", "dict"] := by
  cases h with
  | non => cases e; exact ⟨.base .non, by decide⟩
  | bl b => cases e; exact ⟨.base (.bl b), by decide⟩
  | int b => cases e; exact ⟨.base (.int b), by decide⟩
  | str b _ => cases e; exact ⟨.base (.str _), by decide⟩
  | tup h _ _ => cases e; exact ⟨.base (.tup (s _ _ h)), by decide⟩
  | lst h _ _ => cases e; exact ⟨.base (.lst (s _ _ h)), by decide⟩
  | dic h _ => cases e; exact ⟨.base (.dK (s _ _ h)), by decide⟩
  | scr _ _ => cases e
  | amb _ => cases e
  | ob _ => cases e
theorem se_isi {y : Str} {p3 : Pos} (T' : String) (hT : T' ∈ ["int", "bool", "str", "tuple", "list"]) (hm : X.mg "isinstance" = none) (hm2 : X.mg y = none) (hv2 : bootBuiltins y = some (.type T')) (ha : SE X T E a ca) (hg : Gl X "isinstance" := by rfl) (hg2 : Gl X y := by rfl) (hn : y ≠ "__name__" := by decide) (hdb : (y == ("__debug__" : Str)) = false := by decide)
    (he : starEach (a :: [.Name y p3]) X.env = (false, eval a X.env) :: starEach [.Name y p3] X.env := by rfl) (he2 : starEach (.Name y p3 :: []) X.env = (false, eval (.Name y p3) X.env) :: starEach [] X.env := by rfl) (hpl : (backTo pos (starEach [.Name y p3] X.env)).any (·.1) = false := by rfl) :
    SE X T E (.Call (.Name "isinstance" p) [a, .Name y p3] [] pos) (Pu.c1 (Pu.oIsi T') ca) := by
  obtain ⟨t, h1, h2⟩ := ha
  refine ⟨_, pe_callB call_isi hg hm (by decide +kernel) (pa_cons h1 (pa_cons (pe_bltn (v := .ty T') hg2 hm2 hv2 rfl hn hdb) pa_nil he2) he) (by decide) (by decide) he hpl, fun al r m s G H Q R hP => ?_⟩
  refine h2.thn R hP fun y r1 m1 v G1 H1 S1 R1 d1 P1 => ?_
  obtain ⟨d, e, P2⟩ := P1.opt_
  unfold Pu.oIsi at e
  obtain ⟨aa, h3, rfl⟩ := Option.map_eq_some_iff.mp e
  obtain ⟨h4, h5⟩ := ty_of R1.same d1 h3
  exact ⟨v, .ty T', .type aa, .type T', _, rfl, .ty T', h4, kit_ty (kitB_all aa h5 T' hT), P2.ok_ R1 (.bl _)⟩
theorem se_len (hm : X.mg "len" = none) (ha : SE X T E a ca) (hg : Gl X "len" := by rfl) (he : starEach (a :: []) X.env = (false, eval a X.env) :: starEach [] X.env := by rfl) (hpl : (backTo pos (starEach [] X.env)).any (·.1) = false := by rfl) : SE X T E (.Call (.Name "len" p) [a] [] pos) (Pu.c1 Pu.oLen ca) := se_cb1 call_len c1_len hm (by decide +kernel) ha hg (by decide) (by decide) he hpl
theorem se_sum (C : Cn k X E) (hm : X.mg "sum" = none) (ha : SE X T E a ca) (hg : Gl X "sum" := by rfl) (he : starEach (a :: []) X.env = (false, eval a X.env) :: starEach [] X.env := by rfl) (hpl : (backTo pos (starEach [] X.env)).any (·.1) = false := by rfl) : SE X T E (.Call (.Name "sum" p) [a] [] pos) (Pu.c1 Pu.oSum ca) := se_cb1 (cr_sum C.calm) c1_sum hm (by decide +kernel) ha hg (by decide) (by decide) he hpl
theorem se_all (C : Cn k X E) (hm : X.mg "all" = none) (ha : SE X T E a ca) (hg : Gl X "all" := by rfl) (he : starEach (a :: []) X.env = (false, eval a X.env) :: starEach [] X.env := by rfl) (hpl : (backTo pos (starEach [] X.env)).any (·.1) = false := by rfl) : SE X T E (.Call (.Name "all" p) [a] [] pos) (Pu.c1 Pu.oAll ca) := se_cb1 (cr_all C.calm) c1_all hm (by decide +kernel) ha hg (by decide) (by decide) he hpl
theorem se_any (C : Cn k X E) (hm : X.mg "any" = none) (ha : SE X T E a ca) (hg : Gl X "any" := by rfl) (he : starEach (a :: []) X.env = (false, eval a X.env) :: starEach [] X.env := by rfl) (hpl : (backTo pos (starEach [] X.env)).any (·.1) = false := by rfl) : SE X T E (.Call (.Name "any" p) [a] [] pos) (Pu.c1 Pu.oAny ca) := se_cb1 (cr_any C.calm) c1_any hm (by decide +kernel) ha hg (by decide) (by decide) he hpl
theorem se_minL (C : Cn k X E) (hm : X.mg "min" = none) (ha : SE X T E a ca) (hg : Gl X "min" := by rfl) (he : starEach (a :: []) X.env = (false, eval a X.env) :: starEach [] X.env := by rfl) (hpl : (backTo pos (starEach [] X.env)).any (·.1) = false := by rfl) : SE X T E (.Call (.Name "min" p) [a] [] pos) (Pu.c1 Pu.oMinL ca) := se_cb1 (cr_min C.calm) c1_minL hm (by decide +kernel) ha hg (by decide) (by decide) he hpl
theorem se_maxL (C : Cn k X E) (hm : X.mg "max" = none) (ha : SE X T E a ca) (hg : Gl X "max" := by rfl) (he : starEach (a :: []) X.env = (false, eval a X.env) :: starEach [] X.env := by rfl) (hpl : (backTo pos (starEach [] X.env)).any (·.1) = false := by rfl) : SE X T E (.Call (.Name "max" p) [a] [] pos) (Pu.c1 Pu.oMaxL ca) := se_cb1 (cr_max C.calm) c1_maxL hm (by decide +kernel) ha hg (by decide) (by decide) he hpl
theorem se_min2 (C : Cn k X E) (hm : X.mg "min" = none) (ha : SE X T E a ca) (hb : SE X T E b cb) (hg : Gl X "min" := by rfl) (he : starEach (a :: [b]) X.env = (false, eval a X.env) :: starEach [b] X.env := by rfl) (he2 : starEach (b :: []) X.env = (false, eval b X.env) :: starEach [] X.env := by rfl) (hpl : (backTo pos (starEach [b] X.env)).any (·.1) = false := by rfl) : SE X T E (.Call (.Name "min" p) [a, b] [] pos) (Pu.c2 Pu.oMin2 ca cb) := se_cb2 (call_min2 C.calm) c2_min hm (by decide +kernel) ha hb hg (by decide) (by decide) he he2 hpl
theorem se_max2 (C : Cn k X E) (hm : X.mg "max" = none) (ha : SE X T E a ca) (hb : SE X T E b cb) (hg : Gl X "max" := by rfl) (he : starEach (a :: [b]) X.env = (false, eval a X.env) :: starEach [b] X.env := by rfl) (he2 : starEach (b :: []) X.env = (false, eval b X.env) :: starEach [] X.env := by rfl) (hpl : (backTo pos (starEach [b] X.env)).any (·.1) = false := by rfl) : SE X T E (.Call (.Name "max" p) [a, b] [] pos) (Pu.c2 Pu.oMax2 ca cb) := se_cb2 (call_max2 C.calm) c2_max hm (by decide +kernel) ha hb hg (by decide) (by decide) he he2 hpl
theorem se_tuple (hm : X.mg "tuple" = none) (ha : SE X T E a ca) (hg : Gl X "tuple" := by rfl) (he : starEach (a :: []) X.env = (false, eval a X.env) :: starEach [] X.env := by rfl) (hpl : (backTo pos (starEach [] X.env)).any (·.1) = false := by rfl) : SE X T E (.Call (.Name "tuple" p) [a] [] pos) (Pu.c1 Pu.oTuple ca) := se_ct1 call_tuple_of c1_tuple hm (by decide +kernel) ha hg (by decide) (by decide) he hpl
theorem se_list (hm : X.mg "list" = none) (ha : SE X T E a ca) (hg : Gl X "list" := by rfl) (he : starEach (a :: []) X.env = (false, eval a X.env) :: starEach [] X.env := by rfl) (hpl : (backTo pos (starEach [] X.env)).any (·.1) = false := by rfl) : SE X T E (.Call (.Name "list" p) [a] [] pos) (Pu.c1 Pu.oList ca) := se_ct1 call_list_of c1_list hm (by decide +kernel) ha hg (by decide) (by decide) he hpl
theorem se_toInt (hm : X.mg "int" = none) (ha : SE X T E a ca) (hg : Gl X "int" := by rfl) (he : starEach (a :: []) X.env = (false, eval a X.env) :: starEach [] X.env := by rfl) (hpl : (backTo pos (starEach [] X.env)).any (·.1) = false := by rfl) : SE X T E (.Call (.Name "int" p) [a] [] pos) (Pu.c1 Pu.oInt ca) := se_ct1 call_int1 c1_int hm (by decide +kernel) ha hg (by decide) (by decide) he hpl
end
end Su

namespace Su
open PySem PySem.Spec PyProof.Rows L2
open Pu (D Sl Rho Rs M Ro Fn Fl Tg LN)
section
variable {K : PySem.W.Frag} {T : Tb} {al : Option Addr} {G H : Hp} {r : Rho} {m : D} {s : L2.St} {i : Nat} {d d' : D} {p : Addr} {o : HO}
/-- the own object of slot i is written -/
theorem Rel.writeO (R : Rel K T al G H r m s) (h : r[i]? = some (some (.own d))) (hp : s[i]? = some (some (.ref p))) (ob : Ob K al G (L2.upd H p o) p d') : Rel K T al G (L2.upd H p o) (r.set i (some (.own d'))) m s ∧ Step T al (Ow r s) G H (Ow (r.set i (some (.own d'))) s) G (L2.upd H p o) := by
  have hi : i < r.length := by
    by_cases q : i < r.length
    · exact q
    · rw [List.getElem?_eq_none (by omega)] at h; cases h
  obtain ⟨p', hp', ob0⟩ := R.owns i d h
  rw [hp] at hp'
  cases hp'
  have gp : G p = none := ob0.1
  obtain ⟨o0, ho0, w0⟩ := ob0.some_
  have ow : Ow r s p := ⟨i, d, h, hp⟩
  have na : al ≠ some p := fun z => R.nal p z ow
  have nt : ∀ q ∈ T, q.1 ≠ p := fun q hq z => by
    obtain ⟨ps, h1, _⟩ := R.tabs q hq
    rw [z, ho0] at h1
    cases h1
    rcases w0 with ⟨_, w⟩ | ⟨_, w⟩ <;> cases w
  have sub : ∀ a, Ow (r.set i (some (.own d'))) s a → Ow r s a := fun a ⟨j, e, h1, h2⟩ => by
    by_cases hj : i = j
    · subst hj
      exact ⟨i, d, h, h2⟩
    · rw [List.getElem?_set_ne hj] at h1
      exact ⟨j, e, h1, h2⟩
  refine ⟨⟨same_updR R.same gp, by rw [List.length_set]; exact R.len, fun j e q => ?_, fun j e q => ?_, fun j k e f x q1 q2 q3 q4 => ?_, fun a z => ?_, fun a z w => R.nal a z (sub a w), ?_, R.tfree⟩, ⟨Same.refl G, fun a u e n _ _ => ⟨?_, rfl⟩, fun a z => .inl (sub a z), fun a e => ?_⟩⟩
  · by_cases hj : i = j
    · subst hj
      rw [List.getElem?_set_self hi] at q
      cases q
    · rw [List.getElem?_set_ne hj] at q
      exact R.vals j e q
  · by_cases hj : i = j
    · subst hj
      rw [List.getElem?_set_self hi] at q
      cases q
      exact ⟨p, hp, ob⟩
    · rw [List.getElem?_set_ne hj] at q
      obtain ⟨v, h1, h2⟩ := R.owns j e q
      have nv : v ≠ p := fun z => hj (R.dis i j d e p h q hp (by rw [z] at h1; exact h1))
      exact ⟨v, h1, h2.move (Same.refl G) h2.1 fun u hu => by rw [upd_ne nv]; exact hu⟩
  · have un : ∀ (j : Nat) (e : D), (r.set i (some (.own d')))[j]? = some (some (.own e)) → ∃ e', r[j]? = some (some (.own e')) := fun j e q => by
      by_cases hj : i = j
      · subst hj; exact ⟨d, h⟩
      · rw [List.getElem?_set_ne hj] at q; exact ⟨e, q⟩
    obtain ⟨e1, z1⟩ := un j e q1
    obtain ⟨e2, z2⟩ := un k f q2
    exact R.dis j k e1 e2 x z1 z2 q3 q4
  · have q := R.amb a z
    have ne : a ≠ p := fun e => na (by rw [← e]; exact z)
    exact q.move (Same.refl G) q.1 fun u hu => by rw [upd_ne ne]; exact hu
  · refine tabs_keep R.tabs fun a u e n1 n2 => ?_
    rw [upd_ne fun z => ?_]
    · exact e
    · rw [z, ho0] at e
      cases e
      rcases w0 with ⟨_, w⟩ | ⟨_, w⟩
      · exact n1 _ w
      · exact n2 _ w
  · rw [upd_ne fun z => n (by rw [z]; exact ow)]
    exact e
  · by_cases q : a = p
    · rw [q, upd_same]; exact fun z => nomatch z
    · rw [upd_ne q]; exact e
/-- what is handed around is written -/
theorem Rel.writeA (R : Rel K T al G H r m s) (ha : al = some p) (ob : Ob K al G (L2.upd H p o) p d') : Rel K T al G (L2.upd H p o) r d' s ∧ Step T al (Ow r s) G H (Ow r s) G (L2.upd H p o) := by
  have ob0 := R.amb p ha
  obtain ⟨o0, ho0, w0⟩ := ob0.some_
  have no := R.nal p ha
  refine ⟨⟨same_updR R.same ob0.1, R.len, R.vals, fun j e q => ?_, R.dis, fun a z => ?_, R.nal, ?_, R.tfree⟩, ⟨Same.refl G, fun a u e n na _ => ⟨?_, rfl⟩, fun a z => .inl z, fun a e => ?_⟩⟩
  · obtain ⟨v, h1, h2⟩ := R.owns j e q
    have nv : v ≠ p := fun z => no ⟨j, e, q, by rw [← z]; exact h1⟩
    exact ⟨v, h1, h2.move (Same.refl G) h2.1 fun u hu => by rw [upd_ne nv]; exact hu⟩
  · rw [ha] at z
    cases z
    rw [ha]
    rw [ha] at ob
    exact ob
  · refine tabs_keep R.tabs fun a u e n1 n2 => ?_
    rw [upd_ne fun z => ?_]
    · exact e
    · rw [z, ho0] at e
      cases e
      rcases w0 with ⟨_, w⟩ | ⟨_, w⟩
      · exact n1 _ w
      · exact n2 _ w
  · rw [upd_ne fun z => na (by rw [z]; exact ha)]
    exact e
  · by_cases q : a = p
    · rw [q, upd_same]; exact fun z => nomatch z
    · rw [upd_ne q]; exact e
/-! ### dicts -/
theorem key_eq (k j : List Nat) : ((Sum.inr (mkS k) : Key) = Sum.inr (mkS j)) ↔ k = j := ⟨fun h => mkS_inj (Sum.inr.inj h), fun h => by rw [h]⟩
theorem DnK.length {xs : List (Key × V)} {ds : List (List Nat × D)} (h : DnK K al G xs ds) : xs.length = ds.length := by
  induction ds generalizing xs with
  | nil => cases h; rfl
  | cons d ds ih => cases h with | cons _ _ r => rw [List.length_cons, List.length_cons, ih r]
theorem DnK.get {xs : List (Key × V)} {ds : List (List Nat × D)} (k : List Nat) (h : DnK K al G xs ds) : match Pu.kget ds k with
    | some d => ∃ v, valV xs (Sum.inr (mkS k) : Key) = some v ∧ Dn K al G v d
    | none => valV xs (Sum.inr (mkS k) : Key) = none := by
  induction ds generalizing xs with
  | nil => cases h; rfl
  | cons d ds ih =>
    cases h with
    | @cons k' v vs d ds tx hd r =>
      have ih := ih r
      unfold Pu.kget at ih ⊢
      unfold valV at ih ⊢
      by_cases e : k' = k
      · subst e
        simp only [List.find?_cons, beq_self_eq_true, decide_true]
        exact ⟨v, rfl, hd⟩
      · have e1 : (k' == k) = false := beq_eq_false_iff_ne.mpr e
        have e2 : decide ((Sum.inr (mkS k') : Key) = Sum.inr (mkS k)) = false := decide_eq_false fun z => e ((key_eq _ _).mp z)
        simp only [List.find?_cons, e1, e2]
        exact ih
theorem DnK.any {xs : List (Key × V)} {ds : List (List Nat × D)} (k : List Nat) (h : DnK K al G xs ds) : (xs.any fun kv => decide (kv.1 = (Sum.inr (mkS k) : Key))) = ds.any fun p => p.1 == k := by
  induction ds generalizing xs with
  | nil => cases h; rfl
  | cons d ds ih =>
    cases h with
    | @cons k' v vs d ds tx hd r =>
      rw [List.any_cons, List.any_cons, ih r]
      by_cases e : k' = k
      · subst e; simp
      · have e1 : (k' == k) = false := beq_eq_false_iff_ne.mpr e
        have e2 : decide ((Sum.inr (mkS k') : Key) = Sum.inr (mkS k)) = false := decide_eq_false fun z => e ((key_eq _ _).mp z)
        simp only [e1, e2]
theorem DnK.put {xs : List (Key × V)} {ds : List (List Nat × D)} {k : List Nat} {v : V} {d : D} (h : DnK K al G xs ds) (tk : TxOk k) (hv : Dn K al G v d) : DnK K al G (putK xs (Sum.inr (mkS k) : Key) v) (Pu.kput ds k d) := by
  unfold putK Pu.kput
  rw [h.any k]
  split
  · induction ds generalizing xs with
    | nil => cases h; exact .nil
    | cons d ds ih =>
      cases h with
      | @cons k' v' vs d ds tx hd r =>
        have mp : ∀ {xs : List (Key × V)} {ds : List (List Nat × D)}, DnK K al G xs ds → DnK K al G (xs.map fun kv => if kv.1 = (Sum.inr (mkS k) : Key) then (kv.1, v) else kv) (ds.map fun p => if p.1 = k then (p.1, _) else p) := fun {xs ds} h => by
          induction ds generalizing xs with
          | nil => cases h; exact .nil
          | cons d ds ih =>
            cases h with
            | @cons k' v' vs d ds tx hd r =>
              rw [List.map_cons, List.map_cons]
              by_cases e : k' = k
              · subst e
                simp only [if_true]
                exact .cons tx hv (ih r)
              · have e2 : ¬ ((Sum.inr (mkS k') : Key) = Sum.inr (mkS k)) := fun z => e ((key_eq _ _).mp z)
                simp only [e, e2, if_false]
                exact .cons tx hd (ih r)
        exact mp (.cons tx hd r)
  · have ap : ∀ {xs : List (Key × V)} {ds : List (List Nat × D)}, DnK K al G xs ds → DnK K al G (xs ++ [((Sum.inr (mkS k) : Key), v)]) (ds ++ [(k, d)]) := fun {xs ds} h => by
      induction ds generalizing xs with
      | nil => cases h; exact .cons tk hv .nil
      | cons d ds ih =>
        cases h with
        | cons tx hd r => exact .cons tx hd (ih r)
    exact ap h
end
section
variable {X : Cx} {T : Tb} {E : XK} {e a b c : Expr} {es : List Expr} {p pos pos' apos cpos tpos : Pos} {k n i : Nat} {ca cb ck : M D} {x : Str}
/-- x.append(e) -/
theorem ss_app (i : Nat) {p1 : Pos} (h : SE X T E e ca) (hN : X.N[i]? = some x := by rfl) (hv : Vis X.env.scope x := by first | exact Or.inl rfl | exact Or.inr (Or.inl rfl) | exact Or.inr (Or.inr rfl)) (hd : (x == ("__debug__" : Str)) = false := by decide) (hcd : (x == ("__classdict__" : Str)) = false := by decide)
    (hs : starEach (e :: []) X.env = (false, eval e X.env) :: starEach [] X.env := by rfl) (hbase : attributeBase (.Name x p1) "append" X.env (eval (.Name x p1) X.env) = eval (.Name x p1) X.env := by rfl)
    (hfew : ((backTo cpos (starEach (e :: []) X.env)).all (fun x => !x.1) && (backToKw cpos (keywordEach [] X.env)).all (fun x => x.1.isSome) && decide ((e :: []).length + ([] : List Keyword).length + (if ([] : List Keyword).isEmpty then 0 else 1) < 30)) = true := by rfl)
    (hline : (apos.endLine == cpos.line) = true := by rfl) (hplain : (backTo cpos (starEach [] X.env)).any (·.1) = false := by rfl) (hsw : swapsWith (.Call (.Attribute (.Name x p1) "append" apos) [e] [] cpos) none pos.line X.env = pure false := by rfl) :
    SS X T E (.Expr (.Call (.Attribute (.Name x p1) "append" apos) [e] [] cpos) pos) (Pu.sApp i ca) := by
  obtain ⟨t, h1, h2⟩ := h
  refine ⟨_, ps_expr (pe_bm PySem.F.plainAttrs_list PySem.F.slot_list_append PySem.F.type_list_append mt_append (pe_var hN hv hd hcd) (pa_cons h1 pa_nil hs) hbase hfew hline hs hplain) hsw, fun al r m s G H Z R hP => ?_⟩
  obtain ⟨⟨d0, q0⟩, hP⟩ := owned_of (P := PoS X.K T al r s G H E Z) hP (fun z => z)
  obtain ⟨q, hq, _, xs0, ob0, _⟩ := R.owns i _ q0
  refine ⟨_, hq, .inl ⟨rfl, _, SqL.of ob0⟩, ?_⟩
  refine h2.thnS R hP fun d r1 m1 v G1 H1 S1 R1 d1 P1 => ?_
  split at P1
  · rename_i ds q1
    split at P1
    · rename_i hl
      obtain ⟨q', hq', g1, xs, ob1, _, dl⟩ := R1.owns i _ q1
      rw [hq] at hq'
      cases hq'
      obtain ⟨R2, S2⟩ := R1.writeO (o := .lst (xs ++ [v])) (d' := .lst (ds ++ [d])) q1 hq ⟨g1, _, upd_same, by rw [List.length_append]; exact hl, dl.append (.cons d1 .nil)⟩
      exact ⟨q, xs, v, rfl, rfl, ob1, by rw [dl.length, ln_eq]; exact hl, P1 s G1 _ S2 R2⟩
    · exact P1.elim
  · exact P1.elim
/-- x[k] = e, a list -/
theorem ss_put (i : Nat) {p1 : Pos} (hk : SE X T E a ck) (h : SE X T E e ca) (hN : X.N[i]? = some x := by rfl) (hv : Vis X.env.scope x := by first | exact Or.inl rfl | exact Or.inr (Or.inl rfl) | exact Or.inr (Or.inr rfl)) (hd : (x == ("__debug__" : Str)) = false := by decide) (hcd : (x == ("__classdict__" : Str)) = false := by decide)
    (ha : ∀ v, assign (.Subscript (.Name x p1) a pos') X.env v = (do
      let ov ← holding [v] (eval (.Name x p1) X.env)
      let iv ← holding [v, ov] (eval a X.env)
      standAt pos'
      holding [v, ov, iv] (setItem ov iv v)
      release [v, ov, iv] []) := by intro _; rfl)
    (hs : swapsWithSole [.Subscript (.Name x p1) a pos'] e pos.line X.env = pure false := by rfl) (hw : swappedStores [.Subscript (.Name x p1) a pos'] e X.env = pure none := by rfl)
    (h1 : (assignEach [.Subscript (.Name x p1) a pos'] X.env).map (·.2) = [assign (.Subscript (.Name x p1) a pos') X.env] := by rfl) :
    SS X T E (.Assign [.Subscript (.Name x p1) a pos'] e pos) (Pu.sPut i ck ca) := by
  obtain ⟨t, h1', h2⟩ := h
  obtain ⟨u, h3, h4⟩ := hk
  refine ⟨_, ps_asg h1' (pg_sub (pe_var hN hv hd hcd) h3 set_list ha) hs hw h1, fun al r m s G H Z R hP => ?_⟩
  refine h2.thnS R hP fun d r1 m1 v G1 H1 S1 R1 d1 P1 => ?_
  obtain ⟨⟨d0, q0⟩, P1⟩ := owned_of (P := PoS X.K T al r1 s G1 H1 E Z) P1 (fun z => z)
  obtain ⟨q, hq, _, xs0, ob0, _⟩ := R1.owns i _ q0
  refine ⟨_, hq, ?_⟩
  refine h4.thnS R1 P1 fun y r2 m2 w G2 H2 S2 R2 d2 P2 => ?_
  split at P2
  · rename_i ds j q1
    split at P2
    · rename_i n hn
      obtain ⟨q', hq', g1, xs, ob1, hl, dl⟩ := R2.owns i _ q1
      rw [hq] at hq'
      cases hq'
      rw [d2.int_of]
      obtain ⟨R3, S3⟩ := R2.writeO (o := .lst (xs.set n v)) (d' := .lst (ds.set n d)) q1 hq ⟨g1, _, upd_same, by rw [List.length_set]; exact hl, dl.set (d1.mono S2.mono) n⟩
      exact ⟨q, xs, j, n, rfl, rfl, ob1, by rw [dl.length]; exact hn, P2 s G2 _ S3 R3⟩
    · exact P2.elim
  · exact P2.elim
/-- x[k] = e, what is handed around -/
theorem ss_aput (i : Nat) {p1 : Pos} (hk : SE X T E a ck) (h : SE X T E e ca) (hN : X.N[i]? = some x := by rfl) (hv : Vis X.env.scope x := by first | exact Or.inl rfl | exact Or.inr (Or.inl rfl) | exact Or.inr (Or.inr rfl)) (hd : (x == ("__debug__" : Str)) = false := by decide) (hcd : (x == ("__classdict__" : Str)) = false := by decide)
    (ha : ∀ v, assign (.Subscript (.Name x p1) a pos') X.env v = (do
      let ov ← holding [v] (eval (.Name x p1) X.env)
      let iv ← holding [v, ov] (eval a X.env)
      standAt pos'
      holding [v, ov, iv] (setItem ov iv v)
      release [v, ov, iv] []) := by intro _; rfl)
    (hs : swapsWithSole [.Subscript (.Name x p1) a pos'] e pos.line X.env = pure false := by rfl) (hw : swappedStores [.Subscript (.Name x p1) a pos'] e X.env = pure none := by rfl)
    (h1 : (assignEach [.Subscript (.Name x p1) a pos'] X.env).map (·.2) = [assign (.Subscript (.Name x p1) a pos') X.env] := by rfl) :
    SS X T E (.Assign [.Subscript (.Name x p1) a pos'] e pos) (Pu.sAput i ck ca) := by
  obtain ⟨t, h1', h2⟩ := h
  obtain ⟨u, h3, h4⟩ := hk
  obtain ⟨w, h5, h6⟩ := se_var (X := X) (T := T) (E := E) (pos := p1) i hN hv hd hcd
  refine ⟨_, ps_asg h1' (pg_sub h5 h3 set_list ha) hs hw h1, fun al r m s G H Z R hP => ?_⟩
  refine h2.thnS R hP fun d r1 m1 v G1 H1 S1 R1 d1 P1 => ?_
  refine h6.thnS R1 P1 fun y r2 m2 vy G2 H2 S2 R2 d2 P2 => ?_
  refine h4.thnS R2 P2 fun z r3 m3 vz G3 H3 S3 R3 d3 P3 => ?_
  split at P3
  · rename_i ds j
    split at P3
    · rename_i n hn
      obtain ⟨q, rfl, hal⟩ := d2.amb_of
      rw [d3.int_of]
      obtain ⟨g1, xs, ob1, hl, dl⟩ := R3.amb q hal
      obtain ⟨R4, S4⟩ := R3.writeA (o := .lst (xs.set n v)) (d' := .lst (ds.set n d)) hal ⟨g1, _, upd_same, by rw [List.length_set]; exact hl, dl.set (d1.mono (S2.mono.trans S3.mono)) n⟩
      exact ⟨q, xs, j, n, rfl, rfl, ob1, by rw [dl.length]; exact hn, P3 s G3 _ S4 R4⟩
    · exact P3.elim
  · exact P3.elim
theorem kV_str (k : List Nat) : kV (Sum.inr (mkS k) : Key) = V.str (mkS k) := rfl
/-- x[k] = e, a dict -/
theorem ss_dput (C : Cn k X E) (i : Nat) {p1 : Pos} (hk : SE X T E a ck) (h : SE X T E e ca) (hN : X.N[i]? = some x := by rfl) (hv : Vis X.env.scope x := by first | exact Or.inl rfl | exact Or.inr (Or.inl rfl) | exact Or.inr (Or.inr rfl)) (hd : (x == ("__debug__" : Str)) = false := by decide) (hcd : (x == ("__classdict__" : Str)) = false := by decide)
    (hs : swapsWith e (some (.Subscript (.Name x p1) a pos')) pos.line X.env = pure false := by rfl) :
    SS X T E (.Assign [.Subscript (.Name x p1) a pos'] e pos) (Pu.sDput i ck ca) := by
  obtain ⟨t, h1', h2⟩ := h
  obtain ⟨u, h3, h4⟩ := hk
  refine ⟨_, ps_dput (hu_of C.room) (pe_var hN hv hd hcd) h3 h1' hs, fun al r m s G H Z R hP => ?_⟩
  refine h2.thnS R hP fun d r1 m1 v G1 H1 S1 R1 d1 P1 => ?_
  obtain ⟨⟨d0, q0⟩, P1⟩ := ownedK_of (P := PoS X.K T al r1 s G1 H1 E Z) P1 (fun z => z)
  obtain ⟨q, hq, _, xs0, ob0, _⟩ := R1.owns i _ q0
  refine ⟨_, hq, ?_⟩
  refine h4.thnS R1 P1 fun y r2 m2 w G2 H2 S2 R2 d2 P2 => ?_
  split at P2
  · rename_i ds z q1
    split at P2
    · rename_i hn
      obtain ⟨q', hq', g1, xs, ob1, dl⟩ := R2.owns i _ q1
      rw [hq] at hq'
      cases hq'
      obtain ⟨e1, k1⟩ := d2.str_of
      subst e1
      obtain ⟨R3, S3⟩ := R2.writeO (o := .dK (putK xs (Sum.inr (mkS z) : Key) v)) (d' := .dic (Pu.kput ds z d)) q1 hq ⟨g1, _, upd_same, dl.put k1 (d1.mono S2.mono)⟩
      exact ⟨q, _, rfl, DPut.k (k := Sum.inr (mkS z)) ob1 (by rw [dl.length, ln_eq]; exact hn), P2 s G2 _ S3 R3⟩
    · exact P2.elim
  · exact P2.elim
/-- x[k] += e, a dict of intsD -/
theorem ss_daug (C : Cn k X E) (i : Nat) {p1 : Pos} (hk : SE X T E a ck) (h : SE X T E e ca) (hN : X.N[i]? = some x := by rfl) (hv : Vis X.env.scope x := by first | exact Or.inl rfl | exact Or.inr (Or.inl rfl) | exact Or.inr (Or.inr rfl)) (hd : (x == ("__debug__" : Str)) = false := by decide) (hcd : (x == ("__classdict__" : Str)) = false := by decide)
    (hA : ∀ ov iv new, augStore a ov iv new = (do holding [new, ov, iv] (setItem ov iv new); release [new, ov, iv] []; pure .next) := by exact fun _ _ _ => rfl) :
    SS X T E (.AugAssign (.Subscript (.Name x p1) a tpos) .Add e pos) (Pu.sDaug i ck ca) := by
  obtain ⟨t, h1', h2⟩ := h
  obtain ⟨u, h3, h4⟩ := hk
  refine ⟨_, ps_daug (hu_of C.room) (pe_var hN hv hd hcd) h3 h1' in_add hA, fun al r m s G H Z R hP => ?_⟩
  obtain ⟨⟨d0, q0⟩, P1⟩ := ownedK_of (P := PoS X.K T al r s G H E Z) hP (fun z => z)
  obtain ⟨q, hq, _, xs0, ob0, _⟩ := R.owns i _ q0
  refine ⟨_, hq, ?_⟩
  refine h4.thnS R P1 fun y r2 m2 w G2 H2 S2 R2 d2 P2 => ?_
  split at P2
  · rename_i ds z q1
    split at P2
    · rename_i aa hn
      obtain ⟨q', hq', g1, xs, ob1, dl⟩ := R2.owns i _ q1
      rw [hq] at hq'
      cases hq'
      obtain ⟨e1, k1⟩ := d2.str_of
      subst e1
      have gg := dl.get z
      rw [hn] at gg
      obtain ⟨v0, hv0, dv0⟩ := gg
      rw [dv0.int_of] at hv0
      refine ⟨q, .int aa, rfl, by rw [← hv0]; exact DGet.k (k := Sum.inr (mkS z)) ob1, ?_⟩
      refine h2.thnS R2 P2 fun d r3 m3 v G3 H3 S3 R3 d3 P3 => ?_
      split at P3
      · rename_i ds3 bb q3
        split at P3
        · rename_i hl
          obtain ⟨q', hq', g3, xs3, ob3, dl3⟩ := R3.owns i _ q3
          rw [hq] at hq'
          cases hq'
          rw [d3.int_of]
          obtain ⟨R4, S4⟩ := R3.writeO (o := .dK (putK xs3 (Sum.inr (mkS z) : Key) (.int (aa + bb)))) (d' := .dic (Pu.kput ds3 z (.int (aa + bb)))) q3 hq ⟨g3, _, upd_same, dl3.put k1 (.int _)⟩
          exact ⟨aa, bb, rfl, rfl, _, DPut.k (k := Sum.inr (mkS z)) ob3 (by rw [dl3.length, ln_eq]; exact hl), P3 s G3 _ S4 R4⟩
        · exact P3.elim
      · exact P3.elim
    · exact P2.elim
  · exact P2.elim
/-- x[k] of a dict -/
theorem se_dget (C : Cn k X E) (ha : SE X T E a ca) (hb : SE X T E b cb) (hs : NoSl b := by exact fun _ => rfl) : SE X T E (.Subscript a b pos) (Pu.cDget ca cb) := by
  obtain ⟨t, h1, h2⟩ := ha
  obtain ⟨u, h3, h4⟩ := hb
  refine ⟨_, pe_dget (hu_of C.room) h1 h3 hs, fun al r m s G H Q R hP => ?_⟩
  refine h2.thn R hP fun x r1 m1 v G1 H1 S1 R1 d1 P1 => ?_
  refine h4.thn R1 P1 fun y r2 m2 w G2 H2 S2 R2 d2 P2 => ?_
  have d1' := d1.mono S2.mono
  split at P2
  · rename_i ds z hx
    obtain ⟨e1, k1⟩ := d2.str_of
    subst e1
    obtain ⟨d, e, P3⟩ := P2.opt_
    have key : ∃ q xs, v = .ref q ∧ Rd H2 q (.dK xs) ∧ DnK X.K al G2 xs ds := by
      cases x with
      | amb =>
        obtain ⟨q, rfl, ha⟩ := d1'.amb_of
        dsimp only at hx
        have am := R2.amb q ha
        rw [hx] at am
        obtain ⟨_, xs, o1, o2⟩ := am
        exact ⟨q, xs, rfl, .inl o1, o2⟩
      | dic ds' =>
        dsimp only at hx
        cases hx
        obtain ⟨q, xs, rfl, h5, h6⟩ := d1'.dic_of
        exact ⟨q, xs, rfl, .inl (R2.same _ _ h5), h6⟩
      | _ => cases hx
    obtain ⟨q, xs, rfl, h5, h6⟩ := key
    have gg := h6.get z
    rw [e] at gg
    obtain ⟨v0, hv0, dv0⟩ := gg
    exact ⟨q, v0, rfl, .inl ⟨xs, Sum.inr (mkS z), h5, rfl, hv0.symm⟩, P3.ok_ R2 dv0⟩
  · exact P2.elim
end
end Su

namespace Su
open PySem PySem.Spec PyProof.Rows L2
open Pu (D Sl Rho Rs M Ro Fn Fl Tg LN)
section
variable {X : Cx} {T : Tb} {E : XK} {e a b c kx tg iter elt : Expr} {es ifs : List Expr} {p pos pos' spos : Pos} {k n i j : Nat} {ca cb ck : M D} {ta : M Bool} {ci : M (List D)} {g : Tg} {x y : Str} {scope : Scope} {own : List (Str × Nat)}
/-! ### a comprehension's reading -/
theorem lc_sd {wi : TI} (h2 : Sd X.K T E wi (vI X.K) ci) (hv : (slots g).all (fun i => (own.map (·.2)).contains i) = true)
    (hg : ∀ (s : Shared) (H : Hp) (C : Addr) (cl : List (Str × Addr)) (fp : List Addr), SG (X.blk s H scope (compEnvC scope cl C X.env) fp) T tg g)
    (ht : ∀ (s : Shared) (H : Hp) (C : Addr) (cl : List (Str × Addr)) (fp : List Addr), STs (X.blk s H scope (compEnvC scope cl C X.env) fp) T E0 ifs ta)
    (he : ∀ (s : Shared) (H : Hp) (C : Addr) (cl : List (Str × Addr)) (fp : List Addr), SE (X.blk s H scope (compEnvC scope cl C X.env) fp) T E0 elt ca) :
    SdN X.K T E (tLc wi (blkG X scope tg) (blkT X scope ifs) (blkE X scope elt) (own.map (·.2))) (Pu.cLc (own.map (·.2)) ci g ta ca) := by
  intro al r m s G H Q R hP
  refine h2.thnN R hP fun ds r1 m1 J G1 H1 S1 R1 y1 P1 => ?_
  have hv' : ∀ i ∈ slots g, i ∈ own.map (·.2) := fun i h => by
    have := List.all_eq_true.mp hv i h
    simpa using this
  rw [List.append_nil] at P1
  exact lc_sound (fun _ z => z) hv' y1.1 hg ht he R1 y1.2.z P1
/-- what a slot gets -/
theorem sd_new {t : TE} (h2 : SdN X.K T E t ca) : SdS X.K T E (tAsg t (gName i)) (Pu.sNew i ca) := by
  intro al r m s G H Z R hP
  refine h2.thnS R hP fun d r1 m1 q G1 H1 S1 R1 ob no na n P1 => ?_
  obtain ⟨l, P2⟩ := st_lt_of P1 (fun z => z)
  refine P2 _ _ _ ⟨S1.mono, S1.keep, fun a h => ?_, S1.dom⟩ (R1.setO l ob no na)
  rcases ow_set h l R1.len with ⟨_, _, z⟩ | z
  · cases z
    exact .inr n
  · exact S1.own a z
theorem sd_set {t : TE} (h2 : Sd X.K T E t (vD X.K) ca) : SdS X.K T E (tAsg t (gName i)) (Pu.sSet i ca) := by
  intro al r m s G H Z R hP
  refine h2.thnS R hP fun d r1 m1 v G1 H1 S1 R1 d1 P1 => ?_
  obtain ⟨l, P2⟩ := st_lt_of P1 (fun z => z)
  exact P2 _ _ _ (step_setV R1 l) (R1.setV l d1)
/-- y = [..] on one line, y a plain local: as its own list -/
theorem ss_newLc (C : Cn k X E) (i : Nat) (own : List (Str × Nat)) {py : Pos} (ok : blkC X.N X.env.scope scope own = true) (hv : (slots g).all (fun i => (own.map (·.2)).contains i) = true) (hi : SI X T E tg iter ci)
    (hg : ∀ (s : Shared) (H : Hp) (C : Addr) (cl : List (Str × Addr)) (fp : List Addr), SG (X.blk s H scope (compEnvC scope cl C X.env) fp) T tg g)
    (ht : ∀ (s : Shared) (H : Hp) (C : Addr) (cl : List (Str × Addr)) (fp : List Addr), STs (X.blk s H scope (compEnvC scope cl C X.env) fp) T E0 ifs ta)
    (he : ∀ (s : Shared) (H : Hp) (C : Addr) (cl : List (Str × Addr)) (fp : List Addr), SE (X.blk s H scope (compEnvC scope cl C X.env) fp) T E0 elt ca)
    (hy : X.N[i]? = some y := by rfl) (hyl : X.env.scope.names.lookup y = some .local := by rfl) (hk : X.env.scope.kind = .function := by rfl) (hl : (py.line == pos.line) = true := by rfl)
    (ha : (scope.names.any fun (n, k) => n == y && (k == .local || k == .cell)) = false := by decide +kernel) (hs : ∀ x, foldedSetIterable iter X.env x = pure x := by intro _; rfl) :
    SS X T E (.Assign [.Name y py] (.ListComp elt [⟨tg, iter, ifs, 0⟩] scope pos) spos) (Pu.sNew i (Pu.cLc (own.map (·.2)) ci g ta ca)) := by
  obtain ⟨wi, h1, h2⟩ := hi
  exact ⟨_, ps_setLc C.calm C.nd hy hyl (sw_true hk hyl hl ha) h1 (blkOk_by ok) (fun _ _ _ _ _ => blkG_pg) (fun _ _ _ _ _ => blkT_pt) (fun _ _ _ _ _ => blkE_pe) hs, sd_new (lc_sd h2 hv hg ht he)⟩
/-- .. as a value -/
theorem ss_setLc (C : Cn k X E) (i : Nat) (own : List (Str × Nat)) {py : Pos} (ok : blkC X.N X.env.scope scope own = true) (hv : (slots g).all (fun i => (own.map (·.2)).contains i) = true) (hi : SI X T E tg iter ci)
    (hg : ∀ (s : Shared) (H : Hp) (C : Addr) (cl : List (Str × Addr)) (fp : List Addr), SG (X.blk s H scope (compEnvC scope cl C X.env) fp) T tg g)
    (ht : ∀ (s : Shared) (H : Hp) (C : Addr) (cl : List (Str × Addr)) (fp : List Addr), STs (X.blk s H scope (compEnvC scope cl C X.env) fp) T E0 ifs ta)
    (he : ∀ (s : Shared) (H : Hp) (C : Addr) (cl : List (Str × Addr)) (fp : List Addr), SE (X.blk s H scope (compEnvC scope cl C X.env) fp) T E0 elt ca)
    (hy : X.N[i]? = some y := by rfl) (hyl : X.env.scope.names.lookup y = some .local := by rfl) (hk : X.env.scope.kind = .function := by rfl) (hl : (py.line == pos.line) = true := by rfl)
    (ha : (scope.names.any fun (n, k) => n == y && (k == .local || k == .cell)) = false := by decide +kernel) (hs : ∀ x, foldedSetIterable iter X.env x = pure x := by intro _; rfl) :
    SS X T E (.Assign [.Name y py] (.ListComp elt [⟨tg, iter, ifs, 0⟩] scope pos) spos) (Pu.sSet i (Pu.cLc (own.map (·.2)) ci g ta ca)) := by
  obtain ⟨wi, h1, h2⟩ := hi
  exact ⟨_, ps_setLc C.calm C.nd hy hyl (sw_true hk hyl hl ha) h1 (blkOk_by ok) (fun _ _ _ _ _ => blkG_pg) (fun _ _ _ _ _ => blkT_pt) (fun _ _ _ _ _ => blkE_pe) hs, sd_set (lc_sd h2 hv hg ht he).sd⟩
/-! ### [.. for tg in x], x the own list of slot i, that the block may not look at -/
theorem so_lcO (C : Cn k X E) (i : Nat) (own : List (Str × Nat)) {p1 : Pos} (ok : blkC X.N X.env.scope scope own = true) (hv : (slots g).all (fun i => (own.map (·.2)).contains i) = true)
    (hg : ∀ (s : Shared) (H : Hp) (C : Addr) (cl : List (Str × Addr)) (fp : List Addr), SG (X.blk s H scope (compEnvC scope cl C X.env) fp) T tg g)
    (ht : ∀ (s : Shared) (H : Hp) (C : Addr) (cl : List (Str × Addr)) (fp : List Addr), STs (X.blk s H scope (compEnvC scope cl C X.env) fp) T E0 ifs ta)
    (he : ∀ (s : Shared) (H : Hp) (C : Addr) (cl : List (Str × Addr)) (fp : List Addr), SE (X.blk s H scope (compEnvC scope cl C X.env) fp) T E0 elt ca)
    (hN : X.N[i]? = some x := by rfl) (hvis : Vis X.env.scope x := by first | exact Or.inl rfl | exact Or.inr (Or.inl rfl) | exact Or.inr (Or.inr rfl)) (hd : (x == ("__debug__" : Str)) = false := by decide) (hcd : (x == ("__classdict__" : Str)) = false := by decide)
    (hs : ∀ y, foldedSetIterable (.Name x p1) X.env y = pure y := by intro _; rfl) :
    SO X T E (.ListComp elt [⟨tg, .Name x p1, ifs, 0⟩] scope pos) (Pu.cLc (own.map (·.2)) (Pu.iOwn i) g ta ca [i]) := by
  refine ⟨_, pe_lc C.calm C.nd (pi_list (pe_var hN hvis hd hcd)) (blkOk_by ok) (fun _ _ _ _ _ => blkG_pg) (fun _ _ _ _ _ => blkT_pt) (fun _ _ _ _ _ => blkE_pe) hs, fun al r m s G H Q R hP => ?_⟩
  have hv' : ∀ j ∈ slots g, j ∈ own.map (·.2) := fun i h => by
    have := List.all_eq_true.mp hv i h
    simpa using this
  unfold Pu.cLc Pu.iOwn Pu.bd at hP
  split at hP
  · rename_i dd r' m' hq
    dsimp only at hq hP
    split at hq
    · rename_i ds q0
      cases hq
      obtain ⟨q, hq, gq, xs, hx, hl, dl⟩ := R.owns i _ q0
      refine ⟨_, hq, q, rfl, ⟨xs, SqL.of hx⟩, ?_⟩
      refine lc_sound (vs := own.map (·.2) ++ [i]) (fun j z => List.mem_append_left _ z) hv' hl hg ht he R (fun O' G' H' S s2 => ?_) hP
      have nO : ¬ Ow (Pu.wipe r (own.map (·.2) ++ [i])) (L2.wipe s (own.map (·.2))) q := fun ⟨j, e, h1, h2⟩ => by
        obtain ⟨h3, h4⟩ := wipeP_get.mp h1
        have := R.dis i j _ e q q0 h3 hq (wipeS_some h2).1
        subst this
        exact h4 (List.mem_append_right _ List.mem_cons_self)
      have nT : ∀ t ∈ T, t.1 ≠ q := fun t ht z => by
        obtain ⟨ps, h1, _⟩ := R.tabs t ht
        rw [z, hx] at h1
        cases h1
      have hx' := (S.keep q _ hx nO (fun z => R.nal q z ⟨i, _, q0, hq⟩) nT).1
      refine ⟨fun j d hd => ?_, ⟨xs, SqL.of hx', Nat.le_of_eq dl.length⟩⟩
      obtain ⟨v, h5, h6⟩ := dl.get hd
      refine ⟨⟨xs, v, SqL.of hx', h5⟩, fun x H'' ⟨e1, e2⟩ => ⟨G', .inl ⟨rfl, e1⟩, ?_⟩⟩
      have z := e2 xs (SqL.of hx')
      rw [h5] at z
      cases z
      exact h6.mono S.mono
    · cases hq
  · rename_i hq
    dsimp only at hq
    split at hq <;> cases hq
  · exact hP.elim
/-! ### a, b = x, y -/
theorem sa_two {t : TA} {x y : Expr} (ha : SE X T E x ca) (hb : SE X T E y cb) (hs : starEach (x :: [y]) X.env = (false, eval x X.env) :: starEach [y] X.env) (hs2 : starEach (y :: []) X.env = (false, eval y X.env) :: starEach [] X.env) : True := trivial
theorem ss_par (C : Cn k X E) (i j : Nat) {px py pt pt2 : Pos} {kt k2 : Nat} (ha : SE X T E a ca) (hb : SE X T E b cb) (hi : X.N[i]? = some x := by rfl) (hj : X.N[j]? = some y := by rfl) (hij : i ≠ j := by decide)
    (hx : X.env.scope.names.lookup x = some .local := by rfl) (hy : X.env.scope.names.lookup y = some .local := by rfl)
    (hw : swappedStores [.Tuple [.Name x px, .Name y py] kt pt] (.Tuple [a, b] k2 pt2) X.env = pure (some [x, y]) := by rfl)
    (hs : swapsWithSole [.Tuple [.Name x px, .Name y py] kt pt] (.Tuple [a, b] k2 pt2) pos.line X.env = pure false := by rfl)
    (h1 : starEach (a :: [b]) X.env = (false, eval a X.env) :: starEach [b] X.env := by rfl) (h2 : starEach (b :: []) X.env = (false, eval b X.env) :: starEach [] X.env := by rfl) :
    SS X T E (.Assign [.Tuple [.Name x px, .Name y py] kt pt] (.Tuple [a, b] k2 pt2) pos) (Pu.sPar i j false false ca cb) := by
  obtain ⟨t, p1, q1⟩ := ha
  obtain ⟨u, p2, q2⟩ := hb
  refine ⟨_, ps_par C.calm C.nd hi hj hij hx hy (pa_cons p1 (pa_cons p2 pa_nil h2) h1) hw hs, fun al r m s G H Z R hP => ?_⟩
  refine q1.thnS R hP fun d1 r1 m1 v1 G1 H1 S1 R1 dn1 P1 => ?_
  refine q2.thnS R1 P1 fun d2 r2 m2 v2 G2 H2 S2 R2 dn2 P2 => ?_
  refine ⟨v1, v2, rfl, ?_⟩
  unfold Pu.bd Pu.st at P2
  split at P2
  · rename_i f r3 m3 e3
    split at e3
    · rename_i l1
      cases e3
      dsimp only at P2
      split at P2
      · rename_i l2
        have R3 := R2.setV l1 (dn1.mono S2.mono)
        have R4 := R3.setV l2 dn2
        exact P2 _ _ _ ((step_setV R2 l1).trans (step_setV R3 l2)) R4
      · exact P2.elim
    · cases e3
  · rename_i e3
    split at e3 <;> cases e3
  · exact P2.elim
/-- the second one a new list or dict of its own -/
theorem ss_parO (C : Cn k X E) (i j : Nat) {px py pt pt2 : Pos} {kt k2 : Nat} (ha : SE X T E a ca) (hb : SO X T E b cb) (hi : X.N[i]? = some x := by rfl) (hj : X.N[j]? = some y := by rfl) (hij : i ≠ j := by decide)
    (hx : X.env.scope.names.lookup x = some .local := by rfl) (hy : X.env.scope.names.lookup y = some .local := by rfl)
    (hw : swappedStores [.Tuple [.Name x px, .Name y py] kt pt] (.Tuple [a, b] k2 pt2) X.env = pure (some [x, y]) := by rfl)
    (hs : swapsWithSole [.Tuple [.Name x px, .Name y py] kt pt] (.Tuple [a, b] k2 pt2) pos.line X.env = pure false := by rfl)
    (h1 : starEach (a :: [b]) X.env = (false, eval a X.env) :: starEach [b] X.env := by rfl) (h2 : starEach (b :: []) X.env = (false, eval b X.env) :: starEach [] X.env := by rfl) :
    SS X T E (.Assign [.Tuple [.Name x px, .Name y py] kt pt] (.Tuple [a, b] k2 pt2) pos) (Pu.sPar i j false true ca cb) := by
  obtain ⟨t, p1, q1⟩ := ha
  obtain ⟨u, p2, q2⟩ := hb
  refine ⟨_, ps_par C.calm C.nd hi hj hij hx hy (pa_cons p1 (pa_cons p2 pa_nil h2) h1) hw hs, fun al r m s G H Z R hP => ?_⟩
  refine q1.thnS R hP fun d1 r1 m1 v1 G1 H1 S1 R1 dn1 P1 => ?_
  refine q2.thnS R1 P1 fun d2 r2 m2 q G2 H2 S2 R2 ob no na n P2 => ?_
  refine ⟨v1, _, rfl, ?_⟩
  unfold Pu.bd Pu.st at P2
  split at P2
  · rename_i f r3 m3 e3
    split at e3
    · rename_i l1
      cases e3
      dsimp only at P2
      split at P2
      · rename_i l2
        have R3 := R2.setV l1 (dn1.mono S2.mono)
        have no3 : ¬ Ow (r2.set i (some (Pu.sl false d1))) (s.set i (some v1)) q := fun h => by
          rcases ow_set h l1 R2.len with ⟨_, z, _⟩ | z
          · cases z
          · exact no z
        have R4 := R3.setO l2 ob no3 na
        refine P2 _ _ _ ⟨S2.mono, S2.keep, fun a h => ?_, S2.dom⟩ R4
        rcases ow_set h l2 R3.len with ⟨_, _, z⟩ | z
        · cases z
          exact .inr n
        · rcases ow_set z l1 R2.len with ⟨_, z, _⟩ | z
          · cases z
          · exact S2.own a z
      · exact P2.elim
    · cases e3
  · rename_i e3
    split at e3 <;> cases e3
  · exact P2.elim
/-- the first one a new list or dict of its own -/
theorem ss_parO1 (C : Cn k X E) (i j : Nat) {px py pt pt2 : Pos} {kt k2 : Nat} (ha : SO X T E a ca) (hb : SE X T E b cb) (hi : X.N[i]? = some x := by rfl) (hj : X.N[j]? = some y := by rfl) (hij : i ≠ j := by decide)
    (hx : X.env.scope.names.lookup x = some .local := by rfl) (hy : X.env.scope.names.lookup y = some .local := by rfl)
    (hw : swappedStores [.Tuple [.Name x px, .Name y py] kt pt] (.Tuple [a, b] k2 pt2) X.env = pure (some [x, y]) := by rfl)
    (hs : swapsWithSole [.Tuple [.Name x px, .Name y py] kt pt] (.Tuple [a, b] k2 pt2) pos.line X.env = pure false := by rfl)
    (h1 : starEach (a :: [b]) X.env = (false, eval a X.env) :: starEach [b] X.env := by rfl) (h2 : starEach (b :: []) X.env = (false, eval b X.env) :: starEach [] X.env := by rfl) :
    SS X T E (.Assign [.Tuple [.Name x px, .Name y py] kt pt] (.Tuple [a, b] k2 pt2) pos) (Pu.sPar i j true false ca cb) := by
  obtain ⟨t, p1, q1⟩ := ha
  obtain ⟨u, p2, q2⟩ := hb
  refine ⟨_, ps_par C.calm C.nd hi hj hij hx hy (pa_cons p1 (pa_cons p2 pa_nil h2) h1) hw hs, fun al r m s G H Z R hP => ?_⟩
  refine q1.thnS R hP fun d1 r1 m1 q G1 H1 S1 R1 ob no na n P0 => ?_
  refine q2 al r1 m1 s G1 H1 _ R1 ?_
  unfold Pu.bd at P0
  cases e0 : cb r1 m1 with
  | bad => rw [e0] at P0; exact P0.elim
  | exc c mm => rw [e0] at P0; exact fun G' H' S' q a => P0 G' H' (S1.trans S') q a
  | ok d2 r2 m2 =>
  rw [e0] at P0
  intro v2 G2 H2 S2 R2 dn2
  refine ⟨_, v2, rfl, ?_⟩
  obtain ⟨o, ho, w⟩ := ob.some_
  have nT : ∀ t ∈ T, t.1 ≠ q := fun t ht z => by
    obtain ⟨ps, h1, _⟩ := R1.tabs t ht
    rw [z, ho] at h1
    cases h1
    rcases w with ⟨_, w⟩ | ⟨_, w⟩ <;> cases w
  have kk := S2.keep q o ho no na nT
  have no2 : ¬ Ow r2 s q := fun z => by
    rcases S2.own q z with z | z
    · exact no z
    · rw [ho] at z; cases z
  have ob2 : Ob X.K al G2 H2 q d1 := ob.move S2.mono (by rw [kk.2]; exact ob.1) fun u hu => by
    rw [ho] at hu
    cases hu
    exact kk.1
  dsimp only at P0
  unfold Pu.st at P0
  split at P0
  · rename_i f r3 m3 e3
    split at e3
    · rename_i l1
      cases e3
      split at P0
      · rename_i l2
        have R3 := R2.setO l1 ob2 no2 na
        have R4 := R3.setV l2 dn2
        have S12 := S1.trans S2
        refine P0 _ _ _ ⟨S12.mono, S12.keep, fun a h => ?_, S12.dom⟩ R4
        rcases ow_set h l2 R3.len with ⟨_, z, _⟩ | z
        · cases z
        · rcases ow_set z l1 R2.len with ⟨_, _, z⟩ | z
          · cases z
            exact .inr n
          · exact S12.own a z
      · exact P0.elim
    · cases e3
  · rename_i e3
    split at e3 <;> cases e3
  · exact P0.elim
/-- three plain names -/
theorem ss_par3 (C : Cn k X E) (i j l : Nat) {z : Str} {cc : M D} {px py pz pt pt2 : Pos} {kt k2 : Nat} (ha : SE X T E a ca) (hb : SE X T E b cb) (hc : SE X T E c cc) (hi : X.N[i]? = some x := by rfl) (hj : X.N[j]? = some y := by rfl) (hl : X.N[l]? = some z := by rfl) (hij : i ≠ j := by decide) (hil : i ≠ l := by decide) (hjl : j ≠ l := by decide)
    (hx : X.env.scope.names.lookup x = some .local := by rfl) (hy : X.env.scope.names.lookup y = some .local := by rfl) (hz : X.env.scope.names.lookup z = some .local := by rfl)
    (hw : swappedStores [.Tuple [.Name x px, .Name y py, .Name z pz] kt pt] (.Tuple [a, b, c] k2 pt2) X.env = pure (some [x, y, z]) := by rfl)
    (hs : swapsWithSole [.Tuple [.Name x px, .Name y py, .Name z pz] kt pt] (.Tuple [a, b, c] k2 pt2) pos.line X.env = pure false := by rfl)
    (h1 : starEach (a :: [b, c]) X.env = (false, eval a X.env) :: starEach [b, c] X.env := by rfl) (h2 : starEach (b :: [c]) X.env = (false, eval b X.env) :: starEach [c] X.env := by rfl) (h3 : starEach (c :: []) X.env = (false, eval c X.env) :: starEach [] X.env := by rfl) :
    SS X T E (.Assign [.Tuple [.Name x px, .Name y py, .Name z pz] kt pt] (.Tuple [a, b, c] k2 pt2) pos) (Pu.sPar3 i j l ca cb cc) := by
  obtain ⟨t, p1, q1⟩ := ha
  obtain ⟨u, p2, q2⟩ := hb
  obtain ⟨w, p3, q3⟩ := hc
  refine ⟨_, ps_par3 C.calm C.nd hi hj hl hij hil hjl hx hy hz (pa_cons p1 (pa_cons p2 (pa_cons p3 pa_nil h3) h2) h1) hw hs, fun al r m s G H Z R hP => ?_⟩
  refine q1.thnS R hP fun d1 r1 m1 v1 G1 H1 S1 R1 dn1 P1 => ?_
  refine q2.thnS R1 P1 fun d2 r2 m2 v2 G2 H2 S2 R2 dn2 P2 => ?_
  refine q3.thnS R2 P2 fun d3 r3 m3 v3 G3 H3 S3 R3 dn3 P3 => ?_
  refine ⟨v1, v2, v3, rfl, ?_⟩
  split at P3
  · rename_i l0
    have R4 := R3.setV l0.1 (dn1.mono (S2.mono.trans S3.mono))
    have l2 : j < (r3.set i (some (.v d1))).length := by rw [List.length_set]; exact l0.2.1
    have R5 := R4.setV l2 (dn2.mono S3.mono)
    have l3 : l < ((r3.set i (some (.v d1))).set j (some (.v d2))).length := by rw [List.length_set, List.length_set]; exact l0.2.2
    have R6 := R5.setV l3 dn3
    exact P3 _ _ _ ((step_setV R3 l0.1).trans ((step_setV R4 l2).trans (step_setV R5 l3))) R6
  · exact P3.elim
/-! ### {k: e for tg in it} -/
theorem kput_len (ds : List (List Nat × D)) (k : List Nat) (d : D) : (Pu.kput ds k d).length ≤ ds.length + 1 := by
  unfold Pu.kput
  split
  · rw [List.length_map]; omega
  · rw [List.length_append]; simp
theorem dc_sound {ws : List Nat} (hv : ∀ i ∈ slots g, i ∈ ws) {al : Option Addr} {r1 : Rho} {m1 : D} {s : L2.St} {G1 H1 : Hp} {ds : List D} {J : It} {Q : VK} (hl : ds.length ≤ LN)
    (hg : ∀ (s : Shared) (H : Hp) (C : Addr) (cl : List (Str × Addr)) (fp : List Addr), SG (X.blk s H scope (compEnvC scope cl C X.env) fp) T tg g)
    (hk : ∀ (s : Shared) (H : Hp) (C : Addr) (cl : List (Str × Addr)) (fp : List Addr), SE (X.blk s H scope (compEnvC scope cl C X.env) fp) T E0 kx ck)
    (he : ∀ (s : Shared) (H : Hp) (C : Addr) (cl : List (Str × Addr)) (fp : List Addr), SE (X.blk s H scope (compEnvC scope cl C X.env) fp) T E0 elt ca)
    (R1 : Rel X.K T al G1 H1 r1 m1 s) (y1 : Yz X.K T al (Ow (Pu.wipe r1 ws) (L2.wipe s ws)) G1 H1 ds J)
    (P1 : PoN X.K T al r1 s G1 H1 E Q (match Pu.dcGo ws g ck ca ds [] r1 m1 with
      | .ok xs r' m' => .ok (.dic xs) (Pu.back r1 r' ws) m'
      | _ => .bad)) :
    ∀ D, H1 D = none → ∃ W : Nat → Nat → Hp → Prop, (∃ m, W 0 m (L2.upd H1 D (.dK []))) ∧ ∀ i m H, W i m H →
      (J.stop i H ∧ Q (.ref D) H) ∨ (J.go i H ∧ ∃ Nx : Hp → Prop, (∀ H', Nx H' → ∃ m', m' < m ∧ W (i + 1) m' H') ∧ ∀ x H', J.yld i H x H' → blkG X scope tg x (L2.wipe s ws) H' fun s2 H2 => L2.wipe s2 ws = L2.wipe s ws ∧ tYes s2 H2 fun b H3 =>
        if b = true then blkE X scope kx s2 H3 fun y H4 => blkE X scope elt s2 H4 fun z H5 => ∃ kvs k, y = kV k ∧ H5 D = some (.dK kvs) ∧ kvs.length < sizeLine ∧ Nx (L2.upd H5 D (.dK (putK kvs k z))) else Nx H3) := by
  intro D hD
  have sub : ∀ i ∈ ws, i ∈ ws := fun _ z => z
  have naD : al ≠ some D := fun z => by
    obtain ⟨o, q, _⟩ := (R1.amb D z).some_
    rw [hD] at q; cases q
  have ntD : ∀ q ∈ T, q.1 ≠ D := fun q hq z => by
    obtain ⟨ps, h1, _⟩ := R1.tabs q hq
    rw [z, hD] at h1; cases h1
  have nxD : ∀ (H : Hp) (xs : List (Key × V)), H D = some (.dK xs) → ∀ q : Str, H D ≠ some (LamX.CodeO D q) := fun H xs e q z => by
    rw [e] at z
    unfold LamX.CodeO at z
    cases z
  generalize hres : Pu.dcGo ws g ck ca ds [] r1 m1 = res at P1
  refine ⟨fun i mm H' => mm = ds.length - i ∧ i ≤ ds.length ∧ ∃ r' m' G' acc xs, Rel X.K T al G' H' (Pu.wipe r' ws) m' (L2.wipe s ws) ∧ Step T al (Ow (Pu.wipe r1 ws) (L2.wipe s ws)) G1 H1 (Ow (Pu.wipe r' ws) (L2.wipe s ws)) G' H' ∧
      H' D = some (.dK xs) ∧ G' D = none ∧ ¬ Ow (Pu.wipe r' ws) (L2.wipe s ws) D ∧ DnK X.K al G' xs acc ∧ acc.length ≤ i ∧ Pu.dcGo ws g ck ca (ds.drop i) acc r' m' = res,
    ⟨ds.length, rfl, Nat.zero_le _, r1, m1, G1, [], [], (R1.wipe sub).newO hD, step_newO hD, upd_same, R1.same.free hD, fun z => R1.olds (ow_wipe z) hD, .nil, Nat.zero_le _, by rw [List.drop_zero]; exact hres⟩, ?_⟩
  rintro i mm H' ⟨rfl, hi, r', m', G', acc, xs, R', S', eD, gD, nD, da, la, er⟩
  obtain ⟨yi, ye⟩ := y1 _ G' H' S' R'.same
  by_cases hlt : i < ds.length
  · have hd : ds[i]? = some ds[i] := by simp [hlt]
    obtain ⟨go, nxt⟩ := yi i _ hd
    have ed : ds.drop i = ds[i] :: ds.drop (i + 1) := List.drop_eq_getElem_cons hlt
    rw [ed] at er
    refine .inr ⟨go, fun H2 => ∃ r' m' G' acc xs, Rel X.K T al G' H2 (Pu.wipe r' ws) m' (L2.wipe s ws) ∧ Step T al (Ow (Pu.wipe r1 ws) (L2.wipe s ws)) G1 H1 (Ow (Pu.wipe r' ws) (L2.wipe s ws)) G' H2 ∧
      H2 D = some (.dK xs) ∧ G' D = none ∧ ¬ Ow (Pu.wipe r' ws) (L2.wipe s ws) D ∧ DnK X.K al G' xs acc ∧ acc.length ≤ i + 1 ∧ Pu.dcGo ws g ck ca (ds.drop (i + 1)) acc r' m' = res, fun H2 h => ⟨ds.length - (i + 1), by omega, rfl, hlt, h⟩, fun x H'' hy => ?_⟩
    obtain ⟨G2, fx, dn⟩ := nxt x H'' hy
    have R2 := fx.rel R'
    have S2 : Step T al (Ow (Pu.wipe r' ws) (L2.wipe s ws)) G' H' (Ow (Pu.wipe r' ws) (L2.wipe s ws)) G2 H'' := fx.step R'.same
    have keepD : ∀ {O2 : Addr → Prop} {G5 H5 : Hp}, Step T al (Ow (Pu.wipe r' ws) (L2.wipe s ws)) G' H' O2 G5 H5 → H5 D = some (.dK xs) ∧ G5 D = none ∧ ¬ O2 D := fun {O2 G5 H5} S => by
      obtain ⟨k1, k2⟩ := S.keep D _ eD nD naD ntD
      refine ⟨k1, by rw [k2]; exact gD, fun z => ?_⟩
      rcases S.own D z with q | q
      · exact nD q
      · rw [eD] at q; cases q
    unfold Pu.dcGo Pu.tgt at er
    cases q : Pu.asg g ds[i] (Pu.wipe r' ws) with
    | none => rw [q] at er; rw [← er] at P1; exact (show False from P1).elim
    | some r3 =>
      rw [q] at er
      dsimp only at er
      intro s0 H0 C cl fp pins st u I ru
      obtain ⟨gg, pg, sg⟩ := hg s0 H0 C cl fp
      refine pg.run pins st _ _ x u _ I ru (sg al _ r3 m' _ G2 H'' x _ _ R2 dn q fun s3 w3 S3 R3 => ⟨(w3 ws hv).trans (wipeS_idem s ws), ?_⟩)
      unfold L2.tYes
      dsimp only
      rw [if_pos rfl]
      have S23 := S2.trans S3
      intro s0 H0 C cl fp pins st I
      obtain ⟨tk, pk, sdk⟩ := hk s0 H0 C cl fp
      refine pk.run pins st _ _ _ I (sdk al r3 m' s3 G2 H'' _ R3 ?_)
      cases q2 : ck r3 m' with
      | bad => rw [q2] at er; rw [← er] at P1; exact (show False from P1).elim
      | exc c mm => rw [q2] at er; rw [← er] at P1; exact (show False from P1).elim
      | ok kd r4 m4 =>
        rw [q2] at er
        intro kv G4 H4 S4 R4 dk
        have S24 := S23.trans S4
        cases kd with
        | str z =>
          dsimp only at er
          obtain ⟨e1, k1⟩ := dk.str_of
          intro s0 H0 C cl fp pins st I
          obtain ⟨te, pe, sde⟩ := he s0 H0 C cl fp
          refine pe.run pins st _ _ _ I (sde al r4 m4 s3 G4 H4 _ R4 ?_)
          cases q3 : ca r4 m4 with
          | bad => rw [q3] at er; rw [← er] at P1; exact (show False from P1).elim
          | exc c mm => rw [q3] at er; rw [← er] at P1; exact (show False from P1).elim
          | ok y r5 m5 =>
            rw [q3] at er
            intro yv G5 H5 S5 R5 dy
            have S25 := S24.trans S5
            obtain ⟨k1', k2, k3⟩ := keepD S25
            have lx := da.length
            have ew : L2.wipe s3 ws = L2.wipe s ws := (w3 ws hv).trans (wipeS_idem s ws)
            have R6 : Rel X.K T al G5 H5 (Pu.wipe r5 ws) m5 (L2.wipe s ws) := by rw [← ew]; exact R5.wipe sub
            have nD6 : ¬ Ow (Pu.wipe r5 ws) (L2.wipe s ws) D := fun z => k3 (by rw [← ew] at z; exact ow_wipe z)
            have S6 : Step T al (Ow (Pu.wipe r1 ws) (L2.wipe s ws)) G1 H1 (Ow (Pu.wipe r5 ws) (L2.wipe s ws)) G5 H5 := (S'.trans S25).sub fun a z => by rw [← ew] at z; exact ow_wipe z
            have kl := kput_len acc z y
            refine ⟨xs, Sum.inr (mkS z), e1, k1', by rw [ln_eq]; omega, r5, m5, G5, Pu.kput acc z y, _, R6.upd k2 nD6 naD ntD (nxD H5 xs k1'), ⟨S6.mono, fun a o e n1 n2 n3 => ?_, S6.own, fun a e => ?_⟩, upd_same, k2, nD6, (da.mono S25.mono).put k1 dy, by omega, er⟩
            · obtain ⟨z1, z2⟩ := S6.keep a o e n1 n2 n3
              exact ⟨by rw [upd_ne (ne_of_none e hD)]; exact z1, z2⟩
            · by_cases z : a = D
              · rw [z, upd_same]; exact fun z => nomatch z
              · rw [upd_ne z]; exact S6.dom a e
        | _ => rw [← er] at P1; exact (show False from P1).elim
  · have e : i = ds.length := by omega
    subst e
    rw [List.drop_length] at er
    have er : Rs.ok acc r' m' = res := er
    rw [← er] at P1
    obtain ⟨RB, SB⟩ := Rel.back sub R1 R' S'
    refine .inl ⟨ye, P1 D G' H' SB RB ⟨gD, xs, eD, da⟩ (fun ⟨j, d, h1, h2⟩ => ?_) naD hD⟩
    have lr : r1.length = r'.length := by
      have h1 := R1.len
      have h2 := R'.len
      rw [wipeP_len, wipe_length] at h2
      omega
    rcases (backP_get lr).mp h1 with ⟨q1, q2⟩ | ⟨q1, q2⟩
    · exact R1.olds ⟨j, d, q2, h2⟩ hD
    · exact nD ⟨j, d, wipeP_get.mpr ⟨q2, q1⟩, by rw [wipeS_get fun z => q1 (sub _ z)]; exact h2⟩
theorem so_dc (C : Cn k X E) (own : List (Str × Nat)) (ok : blkC X.N X.env.scope scope own = true) (hv : (slots g).all (fun i => (own.map (·.2)).contains i) = true) (hi : SI X T E tg iter ci)
    (hg : ∀ (s : Shared) (H : Hp) (C : Addr) (cl : List (Str × Addr)) (fp : List Addr), SG (X.blk s H scope (compEnvC scope cl C X.env) fp) T tg g)
    (hk : ∀ (s : Shared) (H : Hp) (C : Addr) (cl : List (Str × Addr)) (fp : List Addr), SE (X.blk s H scope (compEnvC scope cl C X.env) fp) T E0 kx ck)
    (he : ∀ (s : Shared) (H : Hp) (C : Addr) (cl : List (Str × Addr)) (fp : List Addr), SE (X.blk s H scope (compEnvC scope cl C X.env) fp) T E0 elt ca) (hs : ∀ x, foldedSetIterable iter X.env x = pure x := by intro _; rfl) :
    SO X T E (.DictComp kx elt [⟨tg, iter, [], 0⟩] scope pos) (Pu.cDc (own.map (·.2)) ci g ck ca) := by
  obtain ⟨wi, h1, h2⟩ := hi
  refine ⟨_, pe_dc C.calm C.nd h1 (blkOk_by ok) (fun _ _ _ _ _ => blkG_pg) (fun _ _ _ _ _ => pts_nil) (fun _ _ _ _ _ => blkE_pe) (fun _ _ _ _ _ => blkE_pe) hs, fun al r m s G H Q R hP => ?_⟩
  refine h2.thnN R hP fun ds r1 m1 J G1 H1 S1 R1 y1 P1 => ?_
  have hv' : ∀ i ∈ slots g, i ∈ own.map (·.2) := fun i h => by
    have := List.all_eq_true.mp hv i h
    simpa using this
  exact dc_sound hv' y1.1 hg hk he R1 y1.2.z P1
end
end Su

namespace PySem
set_option maxHeartbeats 1000000 in
theorem meets_enumerate_new1 {v : Value} {o : Obj} {H : Heap → Prop} (B : Begins v o H) :
    Meets (Builtin.«enumerate.__new__» ⟨[.type "enumerate", v], []⟩) (fun _ R s => H s.heap ∧
      R (.ok (.ret (.ref (s.heap.push o).objs.size))) { s with heap := (s.heap.push o).push { cls := .type "enumerate", data := .fields #[.none, .bool false, .ref s.heap.objs.size, rawInt 0, .none, .none] } }) :=
  .of_wp fun prog w A R s h => by
    obtain ⟨hp, g, d, tk, os⟩ := s; obtain ⟨h1, h⟩ := h
    have hsub := sub_enumerate
    have q1 : ∀ {A' : Around} {E : Value → Shared → Prop} {Q : Value → Shared → Prop}, Q (.ref hp.objs.size) ⟨hp.push o, g, d, tk, os⟩ → wpAny (model prog w) A' (pyIter v) Q E ⟨hp, g, d, tk, os⟩ :=
      fun q => B.iter prog w _ _ ⟨hp, g, d, tk, os⟩ _ h1 q
    wp_walk using q1
    refine wpAny_stack_any fun st => wpAny_pure ?_
    split
    · rename_i c _ _ _ _ _
      cases (c == Value.type "enumerate")
      · wp_walk using q1
        exact ⟨_, rfl, h⟩
      · wp_walk using q1
        exact ⟨_, rfl, h⟩
    · wp_walk using q1
      exact ⟨_, rfl, h⟩
section
variable {prog : Program} {w : World} {A : Around} {E : Value → Shared → Prop} {s : Shared}
theorem enum_begins1 {v : Value} {o : Obj} {H : Heap → Prop} {Q : Value → Shared → Prop} (B : Begins v o H) (h1 : H s.heap)
    (h : ∀ h', IsEnum h' (s.heap.objs.size + 1) s.heap.objs.size 0 .none → h'.get? s.heap.objs.size = some o → h'.objs.size = s.heap.objs.size + 2 →
      (∀ b o, s.heap.get? b = some o → h'.get? b = some o) → Q (.ref (s.heap.objs.size + 1)) { s with heap := h' }) :
    wpAny (model prog w) A (call (.type "enumerate") [v]) Q E s := by
  refine callType_new F.called_enumerate (by decide) (F.typeCall_enumerate_1 _) (F.newCall_enumerate_1 _) (fun obj => F.args_object_init_2 obj _) F.entry_enumerate_new
    (meets_enumerate_new1 B) ⟨h1, ?_⟩
  have hz : (s.heap.push o).objs.size = s.heap.objs.size + 1 := Heap.size_push ..
  show _ ∧ _
  rw [hz]
  have he : IsEnum ((s.heap.push o).push { cls := .type "enumerate", data := .fields #[.none, .bool false, .ref s.heap.objs.size, rawInt 0, .none, .none] }) (s.heap.objs.size + 1) s.heap.objs.size 0 .none := by
    have := Heap.get?_push_size (s.heap.push o) (o := { cls := .type "enumerate", data := .fields #[.none, .bool false, .ref s.heap.objs.size, rawInt 0, .none, .none] }) rfl
    rw [hz] at this; exact this
  refine ⟨⟨_, he, rfl⟩, h _ he (Heap.get?_push_of_some _ (Heap.get?_push_size _ B.free)) (by rw [Heap.size_push, hz]) fun b o x => Heap.get?_push_of_some _ (Heap.get?_push_of_some _ x)⟩
end
end PySem
namespace Su
open PySem PySem.Spec PyProof.Rows L2
open Pu (D Sl Rho Rs M Ro Fn Fl Tg LN)
/-! ### enumerate(tuple), enumerate(text) -/
def Itet (a : Addr) : It :=
  ⟨fun i H => ∃ (xs : List V) (x : V), H a = some (.tup xs) ∧ xs[i]? = some x, fun i H v H' => ∃ T x, v = .ref T ∧ H T = none ∧ H' = upd H T (.tup [.int (i : Nat), x]) ∧ ∀ xs, H a = some (.tup xs) → xs[i]? = some x, fun i H => ∃ xs : List V, H a = some (.tup xs) ∧ xs.length = i⟩
def Ites (z : Str) : It :=
  ⟨fun i H => i < z.cps.size, fun i H v H' => ∃ T c, v = .ref T ∧ H T = none ∧ H' = upd H T (.tup [.int (i : Nat), .str ⟨#[c]⟩]) ∧ z.cps[i]? = some c, fun i H => z.cps.size = i⟩
theorem turn_enumT {P : Program} {w : World} {K : PySem.W.Frag} {elts : List Expr} {kk : Nat} {tpos : Pos} (a e it : Addr) (hne : e ≠ it) :
    Turn P w K (.Tuple elts kk tpos) (Itet a) [e, it] e (fun i h => (∃ old, IsEnum h e it ((i : Nat) : Int) old) ∧ h.IsTupleIter it a i) where
  mem := by simp
  obj := fun i h st b hb => by
    obtain ⟨⟨old, he⟩, ⟨o, ho, hc, hd⟩⟩ := st
    have e' : b = e ∨ b = it := by simpa using hb
    rcases e' with z | z
    · rw [z]; exact ⟨_, he, fun v q => nomatch q⟩
    · rw [z]; exact ⟨o, ho, fun v q => by rw [hd] at q; cases q⟩
  keep := fun i h h' st k => let ⟨⟨old, he⟩, hi⟩ := st; ⟨⟨old, k e (by simp) _ he⟩, hi.at fun o q => k it (by simp) o q⟩
  item := by
    intro X hP hw hK hc i pins s σ H E I hf st hg
    subst hP hw hK
    obtain ⟨⟨old, he⟩, hit⟩ := st
    obtain ⟨xs, x, hq, hx⟩ := hg
    obtain ⟨its, rv, p, hz⟩ := I.tuple (SqT.of hq)
    obtain ⟨u, hu, ru⟩ := rv.get hx
    have hel : e < s.heap.objs.size := Heap.lt_size he
    have hil : it < s.heap.objs.size := by obtain ⟨_, q, _⟩ := hit; exact Heap.lt_size q
    have nai : a ≠ it := ne_of_none hq (hf it (by simp)).1
    have nae : a ≠ e := ne_of_none hq (hf e (by simp)).1
    have D := Draws.tuple (prog := X.prog) (w := X.w) (A := X.A.in1) (show X.A.in1.handled = none from I.ok.hd hc) it a nai its.toArray
    have hlt : i < its.toArray.size := by
      have := (List.getElem?_eq_some_iff.mp hu).1
      simpa using this
    refine wpAny_pyNext_enum_itemD D he ⟨hit, show s.heap.IsTuple a its.toArray from p⟩ hlt hne (by simp only [List.mem_cons, List.not_mem_nil, or_false, not_or]; exact ⟨hne, nae.symm⟩) fun u' h' tk hpu ho hit' hT hsz hk => ?_
    have eu : u' = u := by
      have q : its.toArray[i]? = some u' := hpu
      rw [List.getElem?_toArray, hu] at q
      exact (Option.some.inj q).symm
    subst eu
    refine ⟨_, rfl, wpAny_letOwnedTupleGo_enum (s := { s with heap := h', toks := tk + 1 }) ho fun h'' he' sb => ?_⟩
    have hT2 : h''.get? s.heap.objs.size = some { cls := .type "tuple", data := .seq #[.int i tk, u'] } := (sb.2 _ (Nat.ne_of_gt hel)).trans hT
    have new : ObjOk X.prog X.w (upd H s.heap.objs.size (.tup [.int (i : Nat), x])) h'' s.heap.objs.size (.tup [.int (i : Nat), x]) :=
      ⟨by show 2 ≤ sizeLine; decide, [.int i tk, u'], .cons ⟨_, rfl⟩ (.cons ru .nil), ⟨_, hT2, rfl, _, rfl⟩⟩
    have I1 : Inv X pins σ (upd H s.heap.objs.size (.tup [.int (i : Nat), x])) { s with heap := h'', toks := tk + 1 } :=
      I.turnedNew (ch := [e, it]) (fun b ob hb q => (sb.2 b (fun z => hb (by simp [z]))).trans (hk b ob (fun z => hb (by simp [z])) (fun z => hb (by simp [z])) q)) hf (Nat.le_refl _) new
    refine ⟨.ref s.heap.objs.size, _, I1, rfl, ⟨_, x, rfl, I.hok.fresh (Nat.le_refl _), rfl, fun ys hy => by rw [hq] at hy; cases hy; exact hx⟩, ⟨⟨u', ?_⟩, hit'.1.at fun o q => (sb.2 it (Ne.symm hne)).trans q⟩, fun b hb => ?_⟩
    · have e1 : ((i + 1 : Nat) : Int) = (i : Int) + 1 := by omega
      rw [e1]; exact he'
    · have hb' : b < s.heap.objs.size := by
        have e' : b = e ∨ b = it := by simpa using hb
        rcases e' with z | z
        · rw [z]; exact hel
        · rw [z]; exact hil
      rw [upd_ne (Nat.ne_of_lt hb')]
      exact (hf b hb).1
  done := by
    intro X hP hw hK hc i pins s σ H E I hf st hg
    subst hP hw hK
    obtain ⟨⟨old, he⟩, hit⟩ := st
    obtain ⟨xs, hq, hx⟩ := hg
    obtain ⟨its, rv, p, hz⟩ := I.tuple (SqT.of hq)
    have nai : a ≠ it := ne_of_none hq (hf it (by simp)).1
    obtain ⟨f0, f1, f2, f3, f4, f5⟩ := hf it (by simp)
    have D := Draws.tuple (prog := X.prog) (w := X.w) (A := X.A.in1) (show X.A.in1.handled = none from I.ok.hd hc) it a nai its.toArray
    have hl := rv.length
    have ei : its.toArray.size = i := by simp; omega
    have hit2 : s.heap.IsTupleIter it a its.toArray.size := by rw [ei]; exact hit
    exact wpAny_pyNext_enum_endD D he ⟨hit2, show s.heap.IsTuple a its.toArray from p⟩ fun h' eb => ⟨rfl, I.turned (t' := s.toks) (fun b o hb q => eb b o hb q) f0 f1 f3 f4 f5⟩
  self := fun A i s Q E st h => let ⟨⟨_, he⟩, _⟩ := st; wpAny_pyIter_enum he h
theorem turn_enumS {P : Program} {w : World} {K : PySem.W.Frag} {elts : List Expr} {kk : Nat} {tpos : Pos} (z : Str) (t : Tok) (e it : Addr) (hne : e ≠ it) :
    Turn P w K (.Tuple elts kk tpos) (Ites z) [e, it] e (fun i h => (∃ old, IsEnum h e it ((i : Nat) : Int) old) ∧ h.IsStrIter it (strIterType z) z t i) where
  mem := by simp
  obj := fun i h st b hb => by
    obtain ⟨⟨old, he⟩, ⟨o, ho, hc, hd⟩⟩ := st
    have e' : b = e ∨ b = it := by simpa using hb
    rcases e' with z | z
    · rw [z]; exact ⟨_, he, fun v q => nomatch q⟩
    · rw [z]; exact ⟨o, ho, fun v q => by rw [hd] at q; cases q⟩
  keep := fun i h h' st k => let ⟨⟨old, he⟩, ⟨o, ho, r⟩⟩ := st; ⟨⟨old, k e (by simp) _ he⟩, ⟨o, k it (by simp) o ho, r⟩⟩
  item := by
    intro X hP hw hK hc i pins s σ H E I hf st hg
    subst hP hw hK
    obtain ⟨⟨old, he⟩, hit⟩ := st
    have hel : e < s.heap.objs.size := Heap.lt_size he
    have hil : it < s.heap.objs.size := by obtain ⟨_, q, _⟩ := hit; exact Heap.lt_size q
    have D := Draws.text (prog := X.prog) (w := X.w) (A := X.A.in1) (show X.A.in1.handled = none from I.ok.hd hc) it z t
    refine wpAny_pyNext_enum_itemD D he hit hg hne (by simp only [List.mem_cons, List.not_mem_nil, or_false]; exact hne) fun u' h' tk hpu ho hit' hT hsz hk => ?_
    obtain ⟨c, tt, hcx, rfl⟩ := hpu
    refine ⟨_, rfl, wpAny_letOwnedTupleGo_enum (s := { s with heap := h', toks := tk + 1 }) ho fun h'' he' sb => ?_⟩
    have hT2 : h''.get? s.heap.objs.size = some { cls := .type "tuple", data := .seq #[.int i tk, .str ⟨#[c]⟩ tt] } := (sb.2 _ (Nat.ne_of_gt hel)).trans hT
    have new : ObjOk X.prog X.w (upd H s.heap.objs.size (.tup [.int (i : Nat), .str ⟨#[c]⟩])) h'' s.heap.objs.size (.tup [.int (i : Nat), .str ⟨#[c]⟩]) :=
      ⟨by show 2 ≤ sizeLine; decide, [.int i tk, .str ⟨#[c]⟩ tt], .cons ⟨_, rfl⟩ (.cons ⟨_, rfl⟩ .nil), ⟨_, hT2, rfl, _, rfl⟩⟩
    have I1 : Inv X pins σ (upd H s.heap.objs.size (.tup [.int (i : Nat), .str ⟨#[c]⟩])) { s with heap := h'', toks := tk + 1 } :=
      I.turnedNew (ch := [e, it]) (fun b ob hb q => (sb.2 b (fun z => hb (by simp [z]))).trans (hk b ob (fun z => hb (by simp [z])) (fun z => hb (by simp [z])) q)) hf (Nat.le_refl _) new
    have st'' : h''.IsStrIter it (strIterType z) z t (i + 1) := by
      obtain ⟨o, q1, q2⟩ := hit'
      exact ⟨o, (sb.2 it (Ne.symm hne)).trans q1, q2⟩
    refine ⟨.ref s.heap.objs.size, _, I1, rfl, ⟨_, c, rfl, I.hok.fresh (Nat.le_refl _), rfl, hcx⟩, ⟨⟨.str ⟨#[c]⟩ tt, ?_⟩, st''⟩, fun b hb => ?_⟩
    · have e1 : ((i + 1 : Nat) : Int) = (i : Int) + 1 := by omega
      rw [e1]; exact he'
    · have hb' : b < s.heap.objs.size := by
        have e' : b = e ∨ b = it := by simpa using hb
        rcases e' with z | z
        · rw [z]; exact hel
        · rw [z]; exact hil
      rw [upd_ne (Nat.ne_of_lt hb')]
      exact (hf b hb).1
  done := by
    intro X hP hw hK hc i pins s σ H E I hf st hg
    subst hP hw hK
    obtain ⟨⟨old, he⟩, hit⟩ := st
    obtain ⟨f0, f1, f2, f3, f4, f5⟩ := hf it (by simp)
    have D := Draws.text (prog := X.prog) (w := X.w) (A := X.A.in1) (show X.A.in1.handled = none from I.ok.hd hc) it z t
    have hg : z.cps.size = i := hg
    subst hg
    exact wpAny_pyNext_enum_endD D he hit fun h' eb => ⟨rfl, I.turned (t' := s.toks) (fun b o hb q => eb b o hb q) f0 f1 f3 f4 f5⟩
  self := fun A i s Q E st h => let ⟨⟨_, he⟩, _⟩ := st; wpAny_pyIter_enum he h
def iEnumTS (ta : TA) : TI := fun σ H R => ta σ H fun vs H1 => (∃ a xs, vs = [.ref a] ∧ H1 a = some (.tup xs) ∧ R (Itet a) H1) ∨ ∃ z, vs = [.str z] ∧ R (Ites z) H1
theorem pi_enumTS {X : Cx} {e : Expr} {ta : TA} {p pos tpos : Pos} {elts : List Expr} {kk : Nat} (hg : Gl X "enumerate") (hm : X.mg "enumerate" = none) (ha : PA X [e] ta) (hs : starEach [e] X.env = [(false, eval e X.env)] := by rfl) :
    PI X (.Tuple elts kk tpos) (.Call (.Name "enumerate" p) [e] [] pos) (iEnumTS ta) := by
  refine ⟨fun pins s σ H R I h => ?_⟩
  refine Call_ (ld_blt I hg hm boot_enumerate (PyProof.Rows.callWith_type1 (thn (ha.run pos pins s σ H _ I h) fun us s1 ⟨vs, H1, I1, r1, q1⟩ => ?_) hs rfl))
  have fp : ∀ b ∈ [s1.heap.objs.size + 1, s1.heap.objs.size], FpOk X pins H1 b := fun b hb => by
    have e' : b = s1.heap.objs.size + 1 ∨ b = s1.heap.objs.size := by simpa using hb
    have hle : s1.heap.objs.size ≤ b := by
      rcases e' with z | z
      · rw [z]; exact Nat.le_add_right _ _
      · rw [z]; exact Nat.le_refl _
    exact I1.fpOk hle (I1.hok.fresh hle)
  rcases q1 with ⟨a, xs, ex, hq, q⟩ | ⟨z, ex, q⟩
  · subst ex
    cases r1 with
    | cons r rr =>
      cases rr
      cases r
      obtain ⟨its, rv, p', hz⟩ := I1.tuple (SqT.of hq)
      refine enum_begins1 (begins_tuple a its.toArray) (show s1.heap.IsTuple a its.toArray from p') fun h' he hit hsz hk => wpAny_pyIter_enum he ?_
      have I2 : Inv X pins σ H1 { s1 with heap := h' } := I1.kept (t' := s1.toks) hk
      exact ⟨s1.heap.objs.size + 1, [s1.heap.objs.size + 1, s1.heap.objs.size], _, _, H1, rfl, I2, turn_enumT a (s1.heap.objs.size + 1) s1.heap.objs.size (Nat.succ_ne_self _), ⟨⟨.none, he⟩, ⟨_, hit, rfl, rfl⟩⟩, fp, q⟩
  · subst ex
    cases r1 with
    | cons r rr =>
      cases rr
      obtain ⟨t, rfl⟩ := r
      refine enum_begins1 (begins_text z t) True.intro fun h' he hit hsz hk => wpAny_pyIter_enum he ?_
      have I2 : Inv X pins σ H1 { s1 with heap := h' } := I1.kept (t' := s1.toks) hk
      exact ⟨s1.heap.objs.size + 1, [s1.heap.objs.size + 1, s1.heap.objs.size], _, _, H1, rfl, I2, turn_enumS z t (s1.heap.objs.size + 1) s1.heap.objs.size (Nat.succ_ne_self _), ⟨⟨.none, he⟩, ⟨_, hit, rfl, rfl⟩⟩, fp, q⟩
theorem enum_get : ∀ {ds : List D} {n i : Nat} {d : D}, (Pu.enumFrom n ds)[i]? = some d → ∃ x, ds[i]? = some x ∧ d = .tup [.int ((n + i : Nat) : Int), x]
  | [], n, i, d, h => by simp [Pu.enumFrom] at h
  | x :: ds, n, 0, d, h => by
    simp only [Pu.enumFrom, List.getElem?_cons_zero, Option.some.injEq] at h
    subst h
    exact ⟨x, rfl, rfl⟩
  | x :: ds, n, i + 1, d, h => by
    simp only [Pu.enumFrom, List.getElem?_cons_succ] at h
    obtain ⟨y, h1, h2⟩ := enum_get h
    refine ⟨y, by simpa using h1, ?_⟩
    rw [h2]
    congr 4
    omega
theorem enum_len : ∀ (ds : List D) (n : Nat), (Pu.enumFrom n ds).length = ds.length
  | [], _ => rfl
  | d :: ds, n => by simp [Pu.enumFrom, enum_len ds (n + 1)]
section
variable {X : Cx} {T : Tb} {E : XK} {e : Expr} {p pos tpos : Pos} {elts : List Expr} {kk : Nat} {ca : M D}
theorem fx_pair {K : PySem.W.Frag} {al : Option Addr} {G' H' : Hp} {q : Addr} {n : Nat} {v : V} {x : D} (s2 : Same G' H') (hq : H' q = none) (dv : Dn K al G' v x) : Fx G' H' (upd G' q (.tup [.int (n : Nat), v])) (upd H' q (.tup [.int (n : Nat), v])) ∧ Dn K al (upd G' q (.tup [.int (n : Nat), v])) (.ref q) (.tup [.int (n : Nat), x]) :=
  ⟨.inr ⟨q, _, hq, rfl, rfl⟩, .tup upd_same (by show 2 ≤ LN; decide) (.cons (.int _) (.cons (dv.mono (same_upd (s2.free hq))) .nil))⟩
/-- enumerate of a tuple or a text -/
theorem si_enumT {p1 : Pos} (hm : X.mg "enumerate" = none) (h : SE X T E e ca) (hg : Gl X "enumerate" := by rfl) (hs : starEach [e] X.env = [(false, eval e X.env)] := by rfl) (hs' : starEach (e :: []) X.env = (false, eval e X.env) :: starEach [] X.env := by rfl) :
    SI X T E (.Tuple elts kk tpos) (.Call (.Name "enumerate" p1) [e] [] pos) (Pu.iEnum (Pu.iTup ca)) := by
  obtain ⟨t, h1, h2⟩ := h
  refine ⟨_, pi_enumTS hg hm (pa_cons h1 pa_nil hs') hs, fun al r m s G H Q R hP => ?_⟩
  have hP : Po X.K T al (vI X.K) r s G H E Q (Pu.bd ca (fun x => Pu.bd (match x with | .tup ds => Pu.pu ds | _ => fun _ _ => .bad) fun ds => Pu.pu (Pu.enumFrom 0 ds)) r m) := by
    unfold Pu.iEnum Pu.iTup at hP
    unfold Pu.bd at hP ⊢
    cases q : ca r m with
    | ok a b c => rw [q] at hP; exact hP
    | exc a b => rw [q] at hP; exact hP
    | bad => rw [q] at hP; exact hP
  refine h2.thn R hP fun x r1 m1 v G1 H1 S1 R1 d1 P1 => ?_
  cases x with
  | tup ds =>
    obtain ⟨q, xs, rfl, h3, hl, h4⟩ := d1.tup_of
    refine .inl ⟨q, xs, rfl, R1.same _ _ h3, P1.ok_ R1 ⟨by rw [enum_len]; exact hl, fun G' H' s1 s2 => ⟨fun i d hd => ?_, ⟨xs, s2 _ _ (s1 _ _ h3), by rw [enum_len, h4.length]⟩⟩⟩⟩
    obtain ⟨x, hx, rfl⟩ := enum_get hd
    obtain ⟨v, h5, h6⟩ := h4.get hx
    refine ⟨⟨xs, v, s2 _ _ (s1 _ _ h3), h5⟩, fun y H'' ⟨q2, v2, e1, e2, e3, e4⟩ => ?_⟩
    have z := e4 xs (s2 _ _ (s1 _ _ h3))
    rw [h5] at z
    cases z
    rw [e1, e3, Nat.zero_add]
    exact ⟨_, fx_pair s2 e2 (h6.mono s1)⟩
  | _ => exact P1.elim
theorem si_enumS {p1 : Pos} (hm : X.mg "enumerate" = none) (h : SE X T E e ca) (hg : Gl X "enumerate" := by rfl) (hs : starEach [e] X.env = [(false, eval e X.env)] := by rfl) (hs' : starEach (e :: []) X.env = (false, eval e X.env) :: starEach [] X.env := by rfl) :
    SI X T E (.Tuple elts kk tpos) (.Call (.Name "enumerate" p1) [e] [] pos) (Pu.iEnum (Pu.iStr ca)) := by
  obtain ⟨t, h1, h2⟩ := h
  refine ⟨_, pi_enumTS hg hm (pa_cons h1 pa_nil hs') hs, fun al r m s G H Q R hP => ?_⟩
  have hP : Po X.K T al (vI X.K) r s G H E Q (Pu.bd ca (fun x => Pu.bd (match x with | .str ds => Pu.pu (Pu.sgn ds) | _ => fun _ _ => .bad) fun ds => Pu.pu (Pu.enumFrom 0 ds)) r m) := by
    unfold Pu.iEnum Pu.iStr at hP
    unfold Pu.bd at hP ⊢
    cases q : ca r m with
    | ok a b c => rw [q] at hP; exact hP
    | exc a b => rw [q] at hP; exact hP
    | bad => rw [q] at hP; exact hP
  refine h2.thn R hP fun x r1 m1 v G1 H1 S1 R1 d1 P1 => ?_
  cases x with
  | str z =>
    obtain ⟨e1, k1⟩ := d1.str_of
    refine .inr ⟨mkS z, by rw [e1], P1.ok_ R1 ⟨by rw [enum_len]; simpa [Pu.sgn] using k1.len, fun G' H' s1 s2 => ⟨fun i d hd => ?_, ?_⟩⟩⟩
    · obtain ⟨x, hx, rfl⟩ := enum_get hd
      obtain ⟨c, h3, rfl⟩ := sgn_get hx
      have hi : i < z.length := (List.getElem?_eq_some_iff.mp h3).1
      refine ⟨?_, fun y H'' ⟨q2, c2, e1, e2, e3, e4⟩ => ?_⟩
      · show i < (mkS z).cps.size
        simpa [mkS] using hi
      · have q : z[i]? = some c2 := by simpa [mkS] using e4
        rw [h3] at q
        cases q
        rw [e1, e3, Nat.zero_add]
        exact ⟨_, fx_pair s2 e2 (.str [c] (k1.one (List.mem_of_getElem? h3)))⟩
    · show (mkS z).cps.size = (Pu.enumFrom 0 (Pu.sgn z)).length
      rw [enum_len]
      simp [mkS, Pu.sgn]
  | _ => exact P1.elim
theorem si_enumL {p1 : Pos} (hm : X.mg "enumerate" = none) (h : SE X T E e ca) (hg : Gl X "enumerate" := by rfl) (hs : starEach [e] X.env = [(false, eval e X.env)] := by rfl) (hs' : starEach (e :: []) X.env = (false, eval e X.env) :: starEach [] X.env := by rfl) :
    SI X T E (.Tuple elts kk tpos) (.Call (.Name "enumerate" p1) [e] [] pos) (Pu.iEnum (Pu.iLst ca)) := by
  obtain ⟨t, h1, h2⟩ := h
  refine ⟨_, pi_enum hg hm (pa_cons h1 pa_nil hs') hs, fun al r m s G H Q R hP => ?_⟩
  have hP : Po X.K T al (vI X.K) r s G H E Q (Pu.bd ca (fun x => Pu.bd (match x with | .lst ds => Pu.pu ds | _ => fun _ _ => .bad) fun ds => Pu.pu (Pu.enumFrom 0 ds)) r m) := by
    unfold Pu.iEnum Pu.iLst at hP
    unfold Pu.bd at hP ⊢
    cases q : ca r m with
    | ok a b c => rw [q] at hP; exact hP
    | exc a b => rw [q] at hP; exact hP
    | bad => rw [q] at hP; exact hP
  refine h2.thn R hP fun x r1 m1 v G1 H1 S1 R1 d1 P1 => ?_
  cases x with
  | lst ds =>
    obtain ⟨q, xs, rfl, h3, hl, h4⟩ := d1.lst_of
    refine ⟨q, xs, rfl, SqL.of (R1.same _ _ h3), P1.ok_ R1 ⟨by rw [enum_len]; exact hl, fun G' H' s1 s2 => ⟨fun i d hd => ?_, ⟨xs, SqL.of (s2 _ _ (s1 _ _ h3)), by rw [enum_len, h4.length]; exact Nat.le_refl _⟩⟩⟩⟩
    obtain ⟨x, hx, rfl⟩ := enum_get hd
    obtain ⟨v, h5, h6⟩ := h4.get hx
    refine ⟨⟨xs, v, SqL.of (s2 _ _ (s1 _ _ h3)), h5⟩, fun y H'' ⟨q2, v2, e1, e2, e3, e4⟩ => ?_⟩
    have z := e4 xs (SqL.of (s2 _ _ (s1 _ _ h3)))
    rw [h5] at z
    cases z
    rw [e1, e3, Nat.zero_add]
    exact ⟨_, fx_pair s2 e2 (h6.mono s1)⟩
  | _ => exact P1.elim
end
end Su

namespace Su
open PySem PySem.Spec PyProof.Rows L2 HotX L2H
section
variable {prog : Program} {w : World} {A : Around} {E : Value → Shared → Prop} {s : Shared}
theorem hot_ne {it l x1 : Addr} {i : Nat} {h : Heap} (hot : HotAt A x1 h) (hit : h.IsListIter it l i) : x1 ≠ it := fun z => by
  obtain ⟨_, o1, vs1, h1, d1, c1⟩ := hot
  obtain ⟨o, ho, hc, hd⟩ := hit
  rw [z, ho] at h1
  cases h1
  rw [hd] at d1
  cases d1
  simp at c1
/-- the end of a list's walk while an exception is handled -/
theorem next_list_end_hot {it l x1 : Addr} {i : Nat} {items : Array Value} {Q : Option Value → Shared → Prop} (hot : HotAt A x1 s.heap) (hit : s.heap.IsListIter it l i) (hl : s.heap.IsList l items) (hx : items[i]? = none)
    (hQ : ∀ h', (∀ b o, b ≠ it → s.heap.get? b = some o → h'.get? b = some o) → Q none { s with heap := h' }) : wpAny (model prog w) A (pyNext (.ref it)) Q E s := by
  have hne := hot_ne hot hit
  obtain ⟨hh, o1, vs1, h1, d1, c1⟩ := hot
  obtain ⟨o, ho, hc, hd⟩ := id hit
  obtain ⟨ol, hol, _, nl, hdl⟩ := hl
  unfold pyNext
  refine wpAny_bind (wpAny_attempt (wpAny_callSpecial?_slot (name := Str.ofString "__next__") hit.typeIs slot_listiter_next
    (wpAny_call_entry slot_listiter_next hit.typeIs entry_listiter_next ?_ (args_listiter_next _))))
  show wpAny _ _ (field (.ref it) 0 >>= _) _ _ s
  refine wpAny_bind (wpAny_field ho hd (x := .ref l) rfl ?_)
  show wpAny _ _ (if (Value.ref l == Value.none) = true then _ else _) _ _ s
  rw [if_neg (show ¬ ((Value.ref l == Value.none) = true) from Bool.false_ne_true)]
  show wpAny _ _ (field (.ref it) 1 >>= _) _ _ s
  refine wpAny_bind (wpAny_field ho hd (x := .int i 0) rfl ?_)
  show wpAny _ _ (seqItems? (.ref l) >>= _) _ _ s
  refine wpAny_bind (wpAny_seqItems hol hdl ?_)
  simp only [Int.toNat_natCast, hx]
  refine wpAny_bind (wpAny_rule (wpAny_bind (wpAny_setField ho hd (by simp) ?_)))
  show wpAny _ _ (newExc (.type "StopIteration") [] >>= _) _ _ _
  refine wpAny_bind ?_
  simp only [newExc, newTuple]
  refine wpAny_bind (wpAny_newObj_type ?_ (by size_fits))
  refine wpAny_bind (m := firstArgMember _ _) (wpAny_of_eq (a := Value.none) (by first | rfl | (simp only [firstArgMember]; rfl)) ?_)
  refine wpAny_newObj_type ?_ (by size_fits)
  have sb : ∀ b o', b ≠ it → s.heap.get? b = some o' → (s.heap.update it (Obj.mapFields (·.setIfInBounds 0 .none))).get? b = some o' := fun b o' hb e => by rw [Heap.get?_update_other _ _ (Ne.symm hb)]; exact e
  have h1' := sb x1 o1 hne h1
  refine raiseNew_hot ⟨hh, o1, vs1, Heap.get?_push_of_some _ (Heap.get?_push_of_some _ h1'), d1, c1⟩ (Nat.ne_of_lt (Heap.lt_size (Heap.get?_push_of_some _ h1'))) (Heap.get?_push_size _ rfl) rfl (by first | (simp; done) | (simp; omega) | (simp only [Array.size_append]; simp; omega)) ?_
  refine wpAny_bind (wpAny_isInstance (T := "StopIteration") (b := true) ⟨_, Heap.get?_update_self _ (Heap.get?_push_size _ rfl) rfl, rfl⟩ isSubtype_stop ?_)
  refine wpAny_pure (hQ _ fun b o' hb e => ?_)
  have e' := sb b o' hb e
  rw [Heap.get?_update_other _ _ (Nat.ne_of_gt (Heap.lt_size (Heap.get?_push_of_some _ e')))]
  exact Heap.get?_push_of_some _ (Heap.get?_push_of_some _ e')
/-- a list's walk there -/
theorem walks_hot {x1 : Addr} (hh : A.handled = some (.ref x1)) (I ax : Addr) (hne : ax ≠ I) (items : Array Value) :
    Walks prog w A I [I, ax, x1] [I] items.size (fun i v => items[i]? = some v) (fun i h => h.IsListIter I ax i ∧ h.IsList ax items ∧ HotAt A x1 h) where
  sub := fun b hb => by simp at hb; simp [hb]
  frame := fun _ h h' st hk => ⟨st.1.at fun o e => hk I (by simp) o e, st.2.1.at fun o e => hk ax (by simp) o e, by
    obtain ⟨_, _, h1, o, vs, h2, h3⟩ := st
    exact ⟨h1, o, vs, hk _ (by simp) _ h2, h3⟩⟩
  item := fun i s Q E hi st hQ => by
    refine wpAny_pyNext_list_item st.1 st.2.1 (x := items[i]) (by simp [hi]) fun h' hit' hs' => ?_
    have hn := hot_ne st.2.2 st.1
    obtain ⟨_, _, h1, o, vs, h2, h3⟩ := st
    exact hQ _ h' s.toks (by simp [hi]) ⟨hit', Heap.IsList.extBut (by assumption) hs'.extBut hne, h1, o, vs, hs'.extBut _ _ hn h2, h3⟩ fun b o hb e => hs'.extBut b o (fun h => hb (by simp [h])) e
  done := fun s Q E st hQ => next_list_end_hot st.2.2 st.1 st.2.1 (by simp) fun h' he' => hQ h' s.toks fun b o hb e => he' b o (fun h => hb (by simp [h])) e
  self := fun _ _ _ _ st hQ => wpAny_pyIter_listiter st.1 hQ
theorem sum_hot {l x1 : Addr} {its : List Value} {ns : List Int} {Q : Value → Shared → Prop} (hot : HotAt A x1 s.heap) (hl : s.heap.IsList l its.toArray) (hi : IntsAre its ns)
    (h : ∀ h' tk t', (∀ b o, s.heap.get? b = some o → h'.get? b = some o) → Q (.int ns.sum t') { s with heap := h', toks := tk }) : wpAny (model prog w) A (call (.builtin "sum") [.ref l]) Q E s := by
  obtain ⟨xs, e⟩ := hi.allInts.items
  have hn : numsOf (intItems xs).toList = ns := by rw [← e]; exact hi.numsOf
  rw [nums_intItems] at hn
  rw [e] at hl
  refine call_sum_walkG (iter_intList hl fun s₂ e2 st hfp hlI => ?_)
  subst e2
  obtain ⟨hh, o1, vs1, h1, hr⟩ := hot
  refine ⟨_, _, _, _, _, _, numAt xs, rfl, walks_hot (A := A.in1) (x1 := x1) hh _ l hlI (intItems xs), ⟨st.1, st.2, hh, o1, vs1, Heap.get?_push_of_some _ h1, hr⟩, ?_, (fun _ _ => intItems_at), fun h' tk t' hk => ?_⟩
  · intro b hb
    simp only [List.mem_cons, List.not_mem_nil, or_false] at hb
    rcases hb with rfl | rfl | rfl
    · exact hfp _ (by simp)
    · exact hfp _ (by simp)
    · exact Heap.lt_size (Heap.get?_push_of_some _ h1)
  · have := h h' tk t' (old_kept hk)
    have es : preSum (numAt xs) (intItems xs).size = ns.sum := by
      rw [preSum_eq, List.take_of_length_le (by simp [intItems]), hn]
    rw [es]
    exact this
end
section
variable {X : Cx}
theorem cr_sumH (hc : HotC X) : CallR X (.builtin "sum") (rSum X.K) := by
  intro pins s σ H vs us Q I r h
  obtain ⟨a, ns, rfl, hs, q⟩ := h
  obtain ⟨its, rv, hl, _⟩ := I.list hs
  rw [Vals.ref1 r]
  obtain ⟨x1, hot⟩ := hc.at I
  exact sum_hot hot hl.isList rv.ints fun h' tk t' hk => ⟨.int _, H, I.kept hk, ⟨_, rfl⟩, q⟩
end
end Su

namespace Su
open PySem PySem.Spec PyProof.Rows L2 HotX L2H
section
variable {X : Cx}
/-- [elt for tg in l if ..] of a list l, while an exception is handled -/
theorem pe_lcH {elt tg l : Expr} {ifs : List Expr} {scope : Scope} {own : List (Str × Nat)} {pos : Pos} {tl : TE} {g : TG} {tt : TT} {te : TE} (hot : HotC X) (hN : X.N.Nodup) (hl : PE X l tl) (ok : BlkOk X.N X.env.scope scope own)
    (hg : ∀ (s : Shared) (H : Hp) (C : Addr) (cl : List (Str × Addr)) (fp : List Addr), PG (X.blk s H scope (compEnvC scope cl C X.env) fp) tg g) (ht : ∀ (s : Shared) (H : Hp) (C : Addr) (cl : List (Str × Addr)) (fp : List Addr), PTs (X.blk s H scope (compEnvC scope cl C X.env) fp) ifs tt)
    (he : ∀ (s : Shared) (H : Hp) (C : Addr) (cl : List (Str × Addr)) (fp : List Addr), PE (X.blk s H scope (compEnvC scope cl C X.env) fp) elt te) (hs : ∀ x, foldedSetIterable l X.env x = pure x := by intro _; rfl) :
    PE X (.ListComp elt [⟨tg, l, ifs, 0⟩] scope pos) (tLc (iList X.K tl) g tt te (own.map (·.2))) := by
  refine ⟨fun pins s σ H Q I h => ?_⟩
  rw [eval_ListComp]
  have hfree : ∀ y ∈ scope.names, y.2 = .free → ∃ c, X.env.cells.lookup y.1 = some c := fun y hy e => by
    rcases ok.free y hy e with k | k
    · exact I.ok.has _ (.inl k)
    · exact I.ok.has _ (.inr k)
  refine wpAny_comprehension_free (use := none) rfl hs (closure_ok hfree) ok.kind (fun y hy e => by rw [ok.uniq y hy, e])
    (thn (hl.run pins s σ H _ I h) fun xv s1 hx => ?_)
  obtain ⟨v1, H2, I1, r1, a, e1, ⟨xs, hq⟩, q⟩ := hx
  subst e1
  cases r1
  obtain ⟨its, rv, pl, hz⟩ := I1.list hq
  refine wpAny_pyIter_list pl.isList ?_
  generalize hit : s1.heap.objs.size = it
  generalize hs2 : ({ s1 with heap := s1.heap.push { cls := .type "list_iterator", data := .fields #[.ref a, .int 0 0] } } : Shared) = s2
  have h2 : s2.heap = s1.heap.push { cls := .type "list_iterator", data := .fields #[.ref a, .int 0 0] } := by rw [← hs2]
  have I2 : Inv X pins σ H2 s2 := by
    rw [← hs2]
    exact I1.kept (t' := s1.toks) fun b o e => Heap.get?_push_of_some _ e
  have st2 : s2.heap.IsListIter it a 0 := by
    rw [h2, ← hit]
    exact ⟨_, Heap.get?_push_size _ rfl, rfl, rfl⟩
  have f2 : FpOk X pins H2 it := I1.fpOk (Nat.le_of_eq hit) (I1.hok.fresh (Nat.le_of_eq hit))
  refine wpAny_newObj_type (newEnv_comp ?_) (by show 0 ≤ sizeLine; decide)
  generalize hD : s2.heap.objs.size = D
  have hDn : H2 D = none := I2.hok.fresh (Nat.le_of_eq hD)
  obtain ⟨W, ⟨m0, w0⟩, turn⟩ := q D hDn
  generalize hs3 : ({ s2 with heap := s2.heap.push { cls := .type "list", data := .seq ([] : List Value).toArray } } : Shared) = s3
  have I3 : Inv X pins σ (upd H2 D (.lst [])) s3 := by
    rw [← hs3]
    refine I2.laid (t' := s2.toks) (fun b o e => Heap.get?_push_of_some _ e) (Nat.le_of_eq hD) ⟨Nat.zero_le _, [], 0, .nil, ?_⟩
    rw [← hD]
    exact Heap.get?_push_size _ rfl
  have h3 : s3.heap = s2.heap.push { cls := .type "list", data := .seq ([] : List Value).toArray } := by rw [← hs3]
  have sz : it < s2.heap.objs.size := by
    obtain ⟨o, e, _⟩ := st2
    exact Heap.lt_size e
  have f3 : ∀ b ∈ [it], FpOk X pins (upd H2 D (.lst [])) b ∧ b < s3.heap.objs.size := fun b hb => by
    obtain rfl : b = it := by simpa using hb
    refine ⟨⟨?_, f2.2⟩, by rw [h3, Heap.size_push]; exact Nat.lt_succ_of_lt sz⟩
    rw [upd_ne (by rw [← hD]; exact Nat.ne_of_lt sz)]
    exact f2.1
  have st3 : s3.heap.IsListIter it a 0 := st2.at fun o e => by rw [h3]; exact Heap.get?_push_of_some _ e
  have I4 := block_start I3 ok hN f3
  have pg := hg s3 (upd H2 D (.lst [])) s3.heap.objs.size (cellsFrom (s3.heap.objs.size + 1) scope.names (cloFrom X.env.cells scope.names [])) [it]
  have pt := ht s3 (upd H2 D (.lst [])) s3.heap.objs.size (cellsFrom (s3.heap.objs.size + 1) scope.names (cloFrom X.env.cells scope.names [])) [it]
  have pe := he s3 (upd H2 D (.lst [])) s3.heap.objs.size (cellsFrom (s3.heap.objs.size + 1) scope.names (cloFrom X.env.cells scope.names [])) [it]
  show codeAny _ _ (.compStart (.ListComp elt [⟨tg, l, ifs, 0⟩] scope pos) 0 (.ref it) (.ref D) (compEnvC scope (cellsFrom (s3.heap.objs.size + 1) scope.names (cloFrom X.env.cells scope.names [])) s3.heap.objs.size X.env)) (compPost (model X.prog X.w) X.A X.xe none _ (.ref D) s3.heap.objs.size) { s3 with heap := pushCells (s3.heap.push { cls := .type "dict", data := .dict #[] }) scope.names }
  have nfp : (upd H2 D (.lst [])) it = none := (f3 it (by simp)).1.1
  -- the handled exception
  obtain ⟨px, ⟨hh, v1, e1, c1⟩, hpx⟩ := hot
  have P3 := I3.pin px (List.mem_append_left _ hpx)
  have pne : px.1 ≠ it := (f3 it (by simp)).1.2.2.2.2.2 px (List.mem_append_left _ hpx)
  generalize hce : compEnvC scope (cellsFrom (s3.heap.objs.size + 1) scope.names (cloFrom X.env.cells scope.names [])) s3.heap.objs.size X.env = ce at I4 pg pt pe ⊢
  have cL : ce.locals = s3.heap.objs.size := by subst hce; rfl
  generalize hH3 : upd H2 D (.lst []) = H3 at I3 I4 pg pt pe w0 nfp f3 P3
  generalize hs4 : ({ s3 with heap := pushCells (s3.heap.push { cls := .type "dict", data := .dict #[] }) scope.names } : Shared) = s4 at I4 ⊢
  have st4 : s4.heap.IsListIter it a 0 := st3.at fun o e => by rw [← hs4]; exact pushCells_keeps _ _ _ _ (Heap.get?_push_of_some _ e)
  have stat : ∀ {σ' : L2.St} {H' : Hp} {s' : Shared}, Inv (X.blk s3 H3 scope ce [it]) [] σ' H' s' → H' it = none → FpOk (X.blk s3 H3 scope ce [it]) [] H' it := fun {σ' H' s'} I' hn =>
    ⟨hn, (I'.ok.exf it (by simp)).1, I'.ok.exfs it (by simp), .inl (by simp), fun x c e => (I'.ok.exf it (by simp)).2 x c e, fun p hp => absurd (show p ∈ ([] : List (Addr × Obj)) ++ [] from hp) (by simp)⟩
  have hot' : ∀ {σ' : L2.St} {H' : Hp} {s' : Shared}, Inv (X.blk s3 H3 scope ce [it]) [] σ' H' s' → HotAt X.A px.1 s'.heap := fun {σ' H' s'} I' => by
    refine ⟨hh, px.2, v1, ?_, e1, c1⟩
    refine I'.base.keep px.1 px.2 P3.1 P3.2.1 (fun hm => ?_) (fun z => pne (by simpa using z))
    exact (List.mem_cons.mp (I3.stkSub px.1 (show px.1 ∈ frs X.stack from hm))).elim P3.2.2.1 P3.2.2.2.1
  have loop : codeAny (model X.prog X.w) X.A (.compLoop (.ListComp elt [⟨tg, l, ifs, 0⟩] scope pos) 0 (.ref it) (.ref D) ce) (compPost (model X.prog X.w) X.A X.xe none (EP X pins σ Q) (.ref D) s3.heap.objs.size) s4 := by
    refine compLoop_any (fun n s' => ∃ i H', Inv (X.blk s3 H3 scope ce [it]) [] (wipe σ (own.map (·.2))) H' s' ∧ s'.heap.IsListIter it a i ∧ H' it = none ∧ W i n H') ?_ m0 ⟨0, H3, I4, st4, nfp, w0⟩
    rintro n s5 ⟨i, H5, I5, st5, n5, w5⟩
    obtain ⟨f0, f1, fz, f3', f4, f5⟩ := stat I5 n5
    rcases turn i n H5 w5 with ⟨stop, qq⟩ | ⟨go, Nx, hNx, step⟩
    · obtain ⟨ys, hy, hle⟩ := stop
      obtain ⟨its5, rv5, p5, _⟩ := I5.list (show SqL (X.blk s3 H3 scope ce [it]).K H5 a ys from hy)
      have hl5 := rv5.length
      refine next_list_end_hot (hot' I5) st5 p5.isList (by simp; omega) fun h' eb => ?_
      have I6 : Inv (X.blk s3 H3 scope ce [it]) [] (wipe σ (own.map (·.2))) H5 { s5 with heap := h' } := I5.turned (t' := s5.toks) (fun b o hb e => eb b o hb e) f0 f1 f3' f4 f5
      have I7 : Inv X pins σ H5 { s5 with heap := h' } := I3.call' (ch := [it]) I6.os I6.base I6.hok I6.bare fun b hb => ⟨(f3 b hb).1.2.2.2.1, (f3 b hb).1.2.1, (f3 b hb).1.2.2.2.2.1, (f3 b hb).1.2.2.2.2.2⟩
      have nC : H5 s3.heap.objs.size = none := by
        have z : H5 ce.locals = none := I6.free
        rw [cL] at z
        exact z
      obtain ⟨m, hn, _⟩ := I6.loc
      have hn : h'.Ns ce.locals m := hn
      rw [cL] at hn
      refine ⟨m, hn, fun h'' sb => ?_⟩
      obtain ⟨f0, f1, f2, f3, f4, f5⟩ := I3.fpOk (Nat.le_refl _) nC
      exact ⟨.ref D, H5, I7.turned (t' := s5.toks) (fun b o hb e => (sb.2 b hb).trans e) f0 f1 f3 f4 f5, rfl, qq⟩
    · obtain ⟨ys, x, hy, hx⟩ := go
      obtain ⟨its5, rv5, p5, _⟩ := I5.list (show SqL (X.blk s3 H3 scope ce [it]).K H5 a ys from hy)
      obtain ⟨u, hu, ru⟩ := rv5.get hx
      refine wpAny_pyNext_list_item st5 p5.isList (x := u) (by simpa using hu) fun h7 st7 sb7 => ?_
      have I7 : Inv (X.blk s3 H3 scope ce [it]) [] (wipe σ (own.map (·.2))) H5 { s5 with heap := h7 } := I5.turned (t' := s5.toks) (fun b o hb e => (sb7.2 b hb).trans e) f0 f1 f3' f4 f5
      obtain ⟨oi, ei, ci, di⟩ := id st7
      refine go_of (s := { s5 with heap := h7 }) ei ci di (by decide) ?_
      have ob : ∀ b ∈ [it], ∃ o, h7.get? b = some o ∧ ∀ v, o.data ≠ .cell v := fun b hb => by
        obtain rfl : b = it := by simpa using hb
        exact ⟨oi, ei, fun v z => by rw [di] at z; cases z⟩
      have I7' := I7.pinned (fp := [it]) (fun b hb => by
        have eb : b = it := by simpa using hb
        rw [eb]
        exact ⟨f0, f1, fz, f3', f4, f5⟩) ob
      have y7 : (Itl X.K a).yld i H5 x H5 := ⟨rfl, fun zs hzs => by rw [I5.list_inj (show SqL (X.blk s3 H3 scope ce [it]).K H5 a zs from hzs) hy]; exact hx⟩
      refine thnF (pg.run _ { s5 with heap := h7 } _ H5 x u _ I7' ru (step x H5 y7)) fun _ s8 ⟨σ8, H8, I8, hw8, q8⟩ => ?_
      refine thnF (pt.run _ s8 σ8 H8 _ I8 q8) fun b s9 ⟨H9, I9, q9⟩ => ?_
      have fin : ∀ {s' : Shared} {H' : Hp}, Inv (X.blk s3 H3 scope ce [it]) ([] ++ pinsAt [it] h7) σ8 H' s' → Nx H' → ∃ m, m < n ∧ ∃ i H', Inv (X.blk s3 H3 scope ce [it]) [] (wipe σ (own.map (·.2))) H' s' ∧ s'.heap.IsListIter it a i ∧ H' it = none ∧ W i m H' := fun {s' H'} I' nx => by
        obtain ⟨m', hm, w'⟩ := hNx H' nx
        have pin' : s'.heap.get? it = some oi ∧ H' it = none :=
          let z := I'.pin (it, oi) (List.mem_append_right _ (List.mem_append_right _ (mem_pinsAt (by simp) ei)))
          ⟨z.1, z.2.1⟩
        have hl : (wipe σ (own.map (·.2))).length = σ8.length := by rw [← hw8, wipe_length]
        refine ⟨m', hm, i + 1, H', (I'.unpinned (pins := [])).weak hl (fun j v e => ?_), ⟨oi, pin'.1, ci, di⟩, pin'.2, w'⟩
        rw [← hw8] at e
        exact (wipe_some e).1
      cases b with
      | false =>
        simp only [Bool.false_eq_true, if_false] at q9 ⊢
        exact fin I9 q9
      | true =>
        simp only [if_true] at q9 ⊢
        refine thnF (pe.run _ s9 σ8 H9 _ I9 q9) fun z s10 ⟨yv, H10, I10, r10, acc, hD10, hz10, nx⟩ => ?_
        exact app_ok (X := X.blk s3 H3 scope ce [it]) I10 hD10 hz10 r10 fun s11 I11 => fin I11 nx
  exact codeAny_compStart_list loop (wpAny_pyIter_listiter st4 loop)
end
end Su

namespace Su
open PySem PySem.Spec PyProof.Rows
/-! ### sets of texts -/
def ddS (σ : List Str) (v : Str) : List Str := if σ.any (· == v) then σ else σ ++ [v]
def firstS (val : Nat → Str) (i : Nat) : List Str := ((List.range i).map val).foldl ddS []
theorem firstS_succ (val : Nat → Str) (i : Nat) : firstS val (i + 1) = ddS (firstS val i) (val i) := by
  unfold firstS; rw [List.range_succ, List.map_append, List.foldl_append]; rfl
theorem firstS_length_le (val : Nat → Str) : ∀ i, (firstS val i).length ≤ i
  | 0 => Nat.le_refl _
  | i + 1 => by
    rw [firstS_succ]; unfold ddS
    have ih := firstS_length_le val i
    split
    · omega
    · rw [List.length_append, List.length_singleton]; omega
theorem ddS_any (σ : List Str) (v k : Str) : (ddS σ v).any (· == k) = (σ.any (· == k) || decide (k = v)) := by
  unfold ddS
  by_cases h : σ.any (· == v) = true
  · rw [if_pos h]
    by_cases e : k = v
    · subst e; rw [h]; simp
    · simp [e]
  · rw [if_neg h, List.any_append]
    by_cases e : k = v
    · subst e; simp
    · have hb : (v == k) = false := by simpa [beq_iff_eq] using (fun h' : v = k => e h'.symm)
      simp [hb, e]
theorem ddS_length (σ : List Str) (v : Str) : (ddS σ v).length = if σ.any (· == v) then σ.length else σ.length + 1 := by
  unfold ddS; split <;> simp
section
variable {prog : Program} {w : World} {A : Around} {R : Result → Shared → Prop} {I : Addr} {fp wr : List Addr} {G : Array GenState → Array GenState → Prop} {n : Nat} {P : Nat → Value → Prop} {St : Nat → Shared → Prop}
theorem set_loopS (W : WalksS prog w A.in1 I fp wr G n P St) (S : Addr) (hSf : S ∉ fp)
    (val : Nat → Str) (hval : ∀ i v, P i v → ∃ t, v = .str (val i) t) (hb : n + 1 < scanBound) :
    ∀ (k i : Nat) (s : Shared), n - i = k → i ≤ n → St i s →
      s.heap.SetOf (PySem.strKind prog w) S (fun k' => (firstS val i).any (· == k')) (firstS val i).length →
      (∀ s', Moved (S :: wr) G s s' → s'.heap.SetOf (PySem.strKind prog w) S (fun k' => (firstS val n).any (· == k')) (firstS val n).length → R (.ok (.ret .none)) s') →
      codeAny (model prog w) A (.builtin "set.update.loop" ⟨[.ref S, .ref I], []⟩) R s := by
  have hSw : S ∉ wr := fun h => hSf (W.sub _ h)
  have hsub : ∀ b ∈ wr, b ∈ S :: wr := fun b hb => List.mem_cons_of_mem _ hb
  intro k
  induction k with
  | zero =>
    intro i s hk hi hst hS hR
    have hin : i = n := by omega
    subst hin
    refine codeAny_builtin PyProof.Rows.F.entry_set_update_loop ?_
    rw [Around.under_plainId PyProof.Rows.F.plain_set_update_loop _]
    show wpAny _ A.in1 (pyNext (.ref I) >>= _) _ _ s
    refine wpAny_bind (W.done s _ _ hst fun s' hm => ?_)
    show wpAny _ A.in1 (ret Value.none) _ _ s'
    exact wpAny_pure (hR s' (hm.mono hsub) (by
      obtain ⟨o, es, ep, t, ho, rest⟩ := hS
      exact ⟨o, es, ep, t, hm.heap S _ hSw ho, rest⟩))
  | succ k ih =>
    intro i s hk hi hst hS hR
    have hlt : i < n := by omega
    refine codeAny_builtin PyProof.Rows.F.entry_set_update_loop ?_
    rw [Around.under_plainId PyProof.Rows.F.plain_set_update_loop _]
    show wpAny _ A.in1 (pyNext (.ref I) >>= _) _ _ s
    refine wpAny_bind (W.item i s _ _ hlt hst fun v s' hP hst' hm => ?_)
    obtain ⟨t, rfl⟩ := hval i v hP
    have hS' : s'.heap.SetOf (PySem.strKind prog w) S (fun k' => (firstS val i).any (· == k')) (firstS val i).length := by
      obtain ⟨o, es, ep, tb, ho, rest⟩ := hS
      exact ⟨o, es, ep, tb, hm.heap S _ hSw ho, rest⟩
    show wpAny _ A.in1 (holding [Value.str (val i) t] (setAdd S (.str (val i) t)) >>= _) _ _ s'
    refine wpAny_bind (wpAny_holding ?_)
    unfold setAdd
    refine wpAny_holding ?_
    refine wpAny_bind ((PySem.strKind prog w).pyHash (k := val i) (strKind_is _ _ _ _) ?_)
    have hroom : (firstS val i).length + 1 < scanBound := by have := firstS_length_le val i; omega
    refine wpAny_setAddHashed_of (knd := PySem.strKind prog w) (s := { s' with toks := s'.toks + 1 }) (strKind_is _ _ _ _) rfl hS' hroom fun h' hsb hS2 => ?_
    have hSi : h'.SetOf (PySem.strKind prog w) S (fun k' => (firstS val (i + 1)).any (· == k')) (firstS val (i + 1)).length :=
      SetOf_congr hS2 (fun k' => by rw [firstS_succ, ddS_any]) (by rw [firstS_succ, ddS_length])
    refine wpAny_pure ⟨plainId_quiet PyProof.Rows.F.plain_set_update_loop _, ih (i + 1) _ (by omega) hlt (W.frame _ s' _ _ hst' (Nat.le_succ _) fun b hb o e => ?_) hSi fun s'' hm'' hS'' => ?_⟩
    · rw [hsb.2 b (fun h : b = S => hSf (by rw [← h]; exact hb))]; exact e
    · refine hR s'' (Moved.trans W.gtrans ((hm.mono hsub).then_heap (Nat.le_succ _) fun b o hb e => ?_) hm'') hS''
      rw [hsb.2 b (fun h : b = S => hb (by rw [h]; exact List.mem_cons_self))]; exact e
end
theorem sub_str_set : isSubtype (.type "str") (.type "set") = pure false := by rw [isSubtype_type]; kernel_rfl
theorem sub_str_frozenset : isSubtype (.type "str") (.type "frozenset") = pure false := by rw [isSubtype_type]; kernel_rfl
section
variable {prog : Program} {w : World} {A : Around} {E : Value → Shared → Prop} {s : Shared}
/-- set(a), by what happens when a is taken up -/
theorem call_setT {a : Value} {Q : Value → Shared → Prop} {val : Nat → Str} {n : Nat} (hh : A.handled = none) (hb : n + 1 < scanBound)
    (hup : ∀ (led : Bool) (B : Around) (Q' : Unit → Shared → Prop) (E' : Value → Shared → Prop) (s1 : Shared), B.handled = none → s1 = { s with heap := s.heap.push { cls := .type "set", dict := none, data := .set #[] 0 (.fresh 0 0 led) } } →
      (∀ (I : Addr) (fp wr : List Addr) (P : Nat → Value → Prop) (St : Nat → Heap → Prop) (h2 : Heap), (∀ b o, s1.heap.get? b = some o → h2.get? b = some o) → (∀ B : Around, B.handled = none → Walks prog w B I fp wr n P St) → (∀ i v, P i v → ∃ t, v = .str (val i) t) → St 0 h2 → s.heap.objs.size ∉ fp → (∀ b ∈ wr, s.heap.objs.size < b) →
        wpAny (model prog w) B (do let _ ← runValue (.builtin "set.update.loop" ⟨[.ref s.heap.objs.size, .ref I], []⟩)) Q' E' { s1 with heap := h2 }) →
      wpAny (model prog w) B (Builtin.Frozenset.updateFrom "set.__init__" s.heap.objs.size a) Q' E' s1)
    (hct : checkTypeCall "set" ⟨[a], []⟩ = pure ())
    (h : ∀ (h' : Heap) (tk : Nat), h'.SetOf (PySem.strKind prog w) s.heap.objs.size (fun k' => (firstS val n).any (· == k')) (firstS val n).length →
      (∀ b o, b < s.heap.objs.size → s.heap.get? b = some o → h'.get? b = some o) → Q (.ref s.heap.objs.size) { s with heap := h', toks := tk }) :
    wpAny (model prog w) A (call (.type "set") [a]) Q E s := by
  obtain ⟨c, tl, hmro⟩ := PySem.F.called_set.mro
  have hmade := PySem.F.called_set.made
  have hsub := PySem.F.called_set.sub
  refine wpAny_call (codeAny_of_tree ?_)
  show wpAny _ _ (callAny (.type "set") _) _ _ _
  refine wpAny_pure ⟨Code.quiet_builtin _ (by decide +kernel), codeAny_builtin PySem.F.entry_type_call ?_⟩
  rw [Around.under_plain (weight_type_call_type "set" [a] []) rfl]
  have h1 := PySem.F.called_set.notType
  have h2 := PySem.F.called_set.canCreate
  repeat (any_goals (first | assumption | wp_step))
  refine codeAny_mono (code_set_new_1 a (E := E) (Q₁ := fun obj s₁ => ∃ led : Bool, obj = .ref s.heap.objs.size ∧ s₁ = { s with heap := s.heap.push { cls := .type "set", dict := none, data := .set #[] 0 (.fresh 0 0 led) } }) fun led => ⟨led, rfl, rfl⟩) fun r s₁ hr => ?_
  cases r with
  | error e => exact hr
  | ok fl =>
    cases fl with
    | ret obj =>
      obtain ⟨led, rfl, rfl⟩ := hr
      have hS : (s.heap.push { cls := .type "set", dict := none, data := .set #[] 0 (.fresh 0 0 led) }).get? s.heap.objs.size = some { cls := .type "set", dict := none, data := .set #[] 0 (.fresh 0 0 led) } := Heap.get?_push_size _ rfl
      have hT : Shared.TypeIs { s with heap := s.heap.push { cls := .type "set", dict := none, data := .set #[] 0 (.fresh 0 0 led) } } (.ref s.heap.objs.size) "set" := ⟨_, hS, rfl⟩
      have hli := PySem.F.called_set.init.lookup
      have hbi := PySem.F.called_set.init.bind (.ref s.heap.objs.size)
      repeat (any_goals (first | assumption | wp_step))
      refine codeAny_mono (codeAny_call_builtin (R := wants (fun r s₂ => r = .none ∧ ∃ h' tk, s₂ = { s with heap := h', toks := tk } ∧
          h'.SetOf (PySem.strKind prog w) s.heap.objs.size (fun k' => (firstS val n).any (· == k')) (firstS val n).length ∧
          (∀ b o, b < s.heap.objs.size → s.heap.get? b = some o → h'.get? b = some o)) E) PySem.F.called_set.init.plain PySem.F.entry_set_init (check_set_init_1 hT ?_)) fun r₂ s₂ hr₂ => ?_
      · unfold Builtin.«set.__init__» noKeywords
        generalize hUF : Builtin.Frozenset.updateFrom = UF
        wp_walk
        subst hUF
        have hh3 : A.in1.in1.in1.handled = none := by simp [hh]
        refine hup led _ _ _ _ (by first | exact hh3 | simp [hh]) rfl fun I fp wr P St h2 hk W hval st hSf hwr => ?_
        refine wpAny_bind (wpAny_runValue ?_)
        refine set_loopS ((W _ (by simp [hh])).toS) s.heap.objs.size hSf val hval hb (n - 0) 0 _ (by omega) (Nat.zero_le _) st ?hS0 ?hR
        case hS0 =>
          exact PyProof.Rows.SetOf_congr ((PyProof.Rows.setObjOf_fresh (knd := PySem.strKind prog w) led).setOf (hk _ _ hS) (by unfold scanBound; omega)) (fun _ => rfl) rfl
        case hR =>
          intro s' hm hS'
          obtain ⟨h', g', d', tk', os'⟩ := s'
          have eg : g' = s.gens := hm.gens
          have ed : d' = s.drawn := hm.drawn
          have eo : os' = s.os := hm.os
          subst eg; subst ed; subst eo
          show wpAny _ _ _ _ _ _
          refine wpAny_pure ?_
          show wpAny _ _ (ret Value.none) _ _ _
          refine wpAny_pure ⟨rfl, h', tk', rfl, hS', fun b o hb e => ?_⟩
          refine hm.heap b o (fun z => ?_) (hk _ _ (Heap.get?_push_of_some _ e))
          rcases List.mem_cons.mp z with z | z
          · exact Nat.ne_of_lt hb z
          · exact Nat.lt_irrefl _ (Nat.lt_trans hb (hwr b z))
      · cases r₂ with
        | error e => exact hr₂
        | ok fl₂ =>
          cases fl₂ with
          | ret r =>
            obtain ⟨rfl, h', tk, rfl, hS', hk'⟩ := hr₂
            repeat (any_goals (first | assumption | wp_step))
            exact h _ _ hS' hk'
          | _ => exact hr₂.elim
    | _ => exact hr.elim
end
end Su

namespace Su
open PySem PySem.Spec PyProof.Rows L2
open Pu (D Sl Rho Rs M Ro Fn Fl Tg LN)
section
variable {prog : Program} {w : World} {A : Around} {E : Value → Shared → Prop} {s : Shared}
theorem call_set_listT {l : Addr} {items : Array Value} {xs : List Str} {Q : Value → Shared → Prop}
    (hh : A.handled = none) (hl : s.heap.IsList l items) (hi : PyProof.Rows.StrsAre items.toList xs) (hb : items.size + 1 < scanBound)
    (h : ∀ (h' : Heap) (tk : Nat), h'.SetOf (PySem.strKind prog w) s.heap.objs.size (fun k' => (firstS (fun i => xs.getD i Str.empty) items.size).any (· == k')) (firstS (fun i => xs.getD i Str.empty) items.size).length →
      (∀ b o, b < s.heap.objs.size → s.heap.get? b = some o → h'.get? b = some o) → Q (.ref s.heap.objs.size) { s with heap := h', toks := tk }) :
    wpAny (model prog w) A (call (.type "set") [.ref l]) Q E s := by
  refine call_setT (val := fun i => xs.getD i Str.empty) (n := items.size) hh hb (fun led B Q' E' s1 hB es hgo => ?_) (PySem.F.typeCall_set_1 _) h
  obtain ⟨ol, hol, hcl, nl, hdl⟩ := hl
  obtain ⟨ocls, odict, odata, oslots⟩ := ol
  simp only at hcl hdl
  subst hcl; subst hdl
  have e1 : s1.heap = s.heap.push { cls := .type "set", dict := none, data := .set #[] 0 (.fresh 0 0 led) } := by rw [es]
  have hol' : s1.heap.get? l = some { cls := .type "list", dict := odict, data := .seq items nl, slots := oslots } := by rw [e1]; exact Heap.get?_push_of_some _ hol
  have hsls := PySem.F.sub_list_set
  have hslf := PySem.F.sub_list_frozenset
  have hne : (Value.type "list" == Value.type "dict") = false := by decide
  have hl1 : s1.heap.IsList l items := ⟨_, hol', rfl, nl, rfl⟩
  have hlS : l < s.heap.objs.size := Heap.lt_size hol
  have hz : s1.heap.objs.size = s.heap.objs.size + 1 := by rw [e1]; exact Heap.size_push ..
  clear es e1
  obtain ⟨hp1, g1, d1, tk1, os1⟩ := s1
  unfold Builtin.Frozenset.updateFrom
  generalize hPI : pyIter = PI
  generalize hRV : runValue = RV at hgo ⊢
  wp_walk
  subst hPI
  refine wpAny_pyIter_list hl1 ?_
  subst hRV
  have hneI : l ≠ hp1.objs.size := by
    have hz : hp1.objs.size = s.heap.objs.size + 1 := hz
    rw [hz]; exact Nat.ne_of_lt (Nat.lt_succ_of_lt hlS)
  refine hgo hp1.objs.size [hp1.objs.size, l] [hp1.objs.size] _ _ _ (fun b o e => Heap.get?_push_of_some _ e) (fun B hB => Walks.list hB _ l hneI items) (fun i v hv => SS.strs_at hi i v (by rw [Array.getElem?_toList]; exact hv)) ⟨⟨_, Heap.get?_push_size _ rfl, rfl, rfl⟩, hl1.push _⟩ ?_ ?_
  · have hz : hp1.objs.size = s.heap.objs.size + 1 := hz
    intro hm
    rcases List.mem_cons.mp hm with z | z
    · exact Nat.ne_of_lt (by rw [hz]; exact Nat.lt_succ_self _) z
    · exact Nat.ne_of_gt hlS (List.mem_singleton.mp z)
  · intro b hb
    have hz : hp1.objs.size = s.heap.objs.size + 1 := hz
    rw [List.mem_singleton.mp hb, hz]
    exact Nat.lt_succ_self _
theorem call_set_strT {x : Str} {t : Tok} {Q : Value → Shared → Prop}
    (hh : A.handled = none) (hb : x.cps.size + 1 < scanBound)
    (h : ∀ (h' : Heap) (tk : Nat), h'.SetOf (PySem.strKind prog w) s.heap.objs.size (fun k' => (firstS (fun i => ⟨#[x.cps.getD i 0]⟩) x.cps.size).any (· == k')) (firstS (fun i => ⟨#[x.cps.getD i 0]⟩) x.cps.size).length →
      (∀ b o, b < s.heap.objs.size → s.heap.get? b = some o → h'.get? b = some o) → Q (.ref s.heap.objs.size) { s with heap := h', toks := tk }) :
    wpAny (model prog w) A (call (.type "set") [.str x t]) Q E s := by
  refine call_setT (val := fun i => ⟨#[x.cps.getD i 0]⟩) (n := x.cps.size) hh hb (fun led B Q' E' s1 hB es hgo => ?_) (PySem.F.typeCall_set_1 _) h
  have hsls := sub_str_set
  have hslf := sub_str_frozenset
  have hne : (Value.type "str" == Value.type "dict") = false := by decide
  have hz : s1.heap.objs.size = s.heap.objs.size + 1 := by rw [es]; exact Heap.size_push ..
  clear es
  obtain ⟨hp1, g1, d1, tk1, os1⟩ := s1
  unfold Builtin.Frozenset.updateFrom
  generalize hPI : pyIter = PI
  generalize hRV : runValue = RV at hgo ⊢
  wp_walk
  subst hPI
  refine wpAny_pyIter_str fun o St W st => ?_
  subst hRV
  refine hgo hp1.objs.size [hp1.objs.size] [hp1.objs.size] _ St _ (fun b o e => Heap.get?_push_of_some _ e) (fun B hB => W B hB) (fun i v ⟨c, u, hv, e⟩ => ⟨u, by rw [e]; simp [hv]⟩) st ?_ ?_
  · have hz : hp1.objs.size = s.heap.objs.size + 1 := hz
    intro hm
    exact Nat.ne_of_lt (by rw [hz]; exact Nat.lt_succ_self _) (List.mem_singleton.mp hm)
  · intro b hb
    have hz : hp1.objs.size = s.heap.objs.size + 1 := hz
    rw [List.mem_singleton.mp hb, hz]
    exact Nat.lt_succ_self _
end
theorem firstS_dd {A : Type} [BEq A] [LawfulBEq A] (f : A → Str) (hf : ∀ a b, f a = f b → a = b) (xs : List A) (val : Nat → Str) (hv : ∀ (i : Nat) (x : A), xs[i]? = some x → val i = f x) : (firstS val xs.length).length = (Pu.dd xs).length := by
  have e : (List.range xs.length).map val = xs.map f := by
    apply List.ext_getElem?
    intro i
    by_cases h : i < xs.length
    · rw [List.getElem?_map, List.getElem?_map, List.getElem?_range h]
      have : xs[i]? = some xs[i] := by simp [h]
      rw [this]
      simp only [Option.map_some]
      rw [hv i _ this]
    · rw [List.getElem?_eq_none (by simp; omega), List.getElem?_eq_none (by simp; omega)]
  unfold firstS Pu.dd
  rw [e]
  have aux : ∀ (ys : List A) (acc : List A), (ys.map f).foldl ddS (acc.map f) = (ys.foldl (fun σ v => if σ.any (· == v) then σ else σ ++ [v]) acc).map f := by
    intro ys
    induction ys with
    | nil => intro acc; rfl
    | cons y ys ih =>
      intro acc
      simp only [List.map_cons, List.foldl_cons]
      have hb : (acc.map f).any (· == f y) = acc.any (· == y) := by
        rw [List.any_map]
        congr 1
        funext a
        simp only [Function.comp]
        by_cases q : a = y
        · subst q; simp
        · have q2 : f a ≠ f y := fun z => q (hf _ _ z)
          rw [beq_eq_false_iff_ne.mpr q, beq_eq_false_iff_ne.mpr q2]
      have : ddS (acc.map f) (f y) = (if acc.any (· == y) then acc else acc ++ [y]).map f := by
        unfold ddS
        rw [hb]
        split
        · rfl
        · simp
      rw [this, ih]
  have := aux xs []
  rw [List.map_nil] at this
  rw [this, List.length_map]
section
variable {X : Cx} {T : Tb} {E : XK} {e a b c : Expr} {es : List Expr} {p p2 pos q apos : Pos} {k j n i : Nat} {ca cb : M D} {x : Str}
def tLenSetT (K : PySem.W.Frag) (ta : TE) : TE := fun σ H Q => ta σ H fun x H1 => (∃ l, ∃ xs : List Str, x = .ref l ∧ SqL K H1 l (xs.map V.str) ∧ xs.length ≤ 1000 ∧ Q (.int (firstS (fun i => xs.getD i Str.empty) xs.length).length) H1) ∨
  ∃ z : Str, x = .str z ∧ z.cps.size ≤ 1000 ∧ Q (.int (firstS (fun i => ⟨#[z.cps.getD i 0]⟩) z.cps.size).length) H1
theorem pe_lenSetT {ta : TE} (hc : X.calm = true) (hg : Gl X "len") (hm : X.mg "len" = none) (hg2 : Gl X "set") (hm2 : X.mg "set" = none) (ha : PE X a ta)
    (na : starEach [a] X.env = (false, eval a X.env) :: starEach [] X.env := by rfl) : PE X (.Call (.Name "len" p) [.Call (.Name "set" p2) [a] [] q] [] pos) (tLenSetT X.K ta) := by
  refine ⟨fun pins s σ H Q I h => ?_⟩
  refine Call_ (ld_blt I hg hm boot_len ?_)
  refine PyProof.Rows.callWith_builtin1 (PyProof.Rows.args_cons ?_ rfl) rfl rfl
  refine Call_ (ld_blt I hg2 hm2 boot_set ?_)
  refine PyProof.Rows.callWith_type1 (PyProof.Rows.args_cons (thn (ha.run pins s σ H _ I h) fun v s1 ⟨x, H1, I1, r1, q1⟩ => PyProof.Rows.args_nil ?_) na) na rfl
  have fin : ∀ (m : Nat) (S : Str → Bool), m ≤ 1000 → Q (.int m) H1 → ∀ (h' : Heap) (tk : Nat), h'.SetOf (PySem.strKind X.prog X.w) s1.heap.objs.size S m →
      (∀ b o, b < s1.heap.objs.size → s1.heap.get? b = some o → h'.get? b = some o) →
      wpAny (model X.prog X.w) X.A (spliced (backTo pos (starEach [] X.env))) (fun vs s₂ => wpAny (model X.prog X.w) X.A (call (.builtin "len") (Value.ref s1.heap.objs.size :: vs)) (EP X pins σ Q) X.xe s₂) X.xe { s1 with heap := h', toks := tk } := fun m S hm1 q1 h' tk hS hk => by
    refine PyProof.Rows.args_nil ?_
    obtain ⟨o, es, ep, t, ho, hex, hd, _, _, _, hf, hn⟩ := hS
    have I2 : Inv X pins σ H1 { s1 with heap := h', toks := tk } := I1.kept fun b o e => hk b o (Heap.lt_size e) e
    refine call_len_set ho hex hd hf (by rw [hn] <;> omega) ⟨.int m, H1, I2.tok _, ⟨_, by rw [hn]⟩, q1⟩
  rcases q1 with ⟨l, xs, rfl, hq, h1, q1⟩ | ⟨z, rfl, h1, q1⟩
  · cases r1
    obtain ⟨its, r, pl, hz⟩ := I1.list hq
    have hl : its.toArray.size = xs.length := by rw [List.size_toArray, ← r.length, List.length_map]
    have hle := firstS_length_le (fun i => xs.getD i Str.empty) xs.length
    refine call_set_listT (I1.ok.hd hc) pl.isList (by simpa using strsAre_of r) (by rw [hl]; unfold scanBound; omega) fun h' tk hS hk => ?_
    rw [hl] at hS
    exact fin _ _ (by omega) q1 h' tk hS hk
  · obtain ⟨t, rfl⟩ := r1
    have hle := firstS_length_le (fun i => (⟨#[z.cps.getD i 0]⟩ : Str)) z.cps.size
    exact call_set_strT (I1.ok.hd hc) (by unfold scanBound; omega) fun h' tk hS hk => fin _ _ (by omega) q1 h' tk hS hk
theorem se_lenSet (C : Cn k X E) (hm : X.mg "len" = none) (hm2 : X.mg "set" = none) (ha : SE X T E a ca) (hg : Gl X "len" := by rfl) (hg2 : Gl X "set" := by rfl) (na : starEach [a] X.env = (false, eval a X.env) :: starEach [] X.env := by rfl) :
    SE X T E (.Call (.Name "len" p) [.Call (.Name "set" p2) [a] [] q] [] pos) (Pu.c1 Pu.oLenSet ca) := by
  obtain ⟨t, h1, h2⟩ := ha
  refine ⟨_, pe_lenSetT C.calm hg hm hg2 hm2 h1 na, fun al r m s G H Q R hP => ?_⟩
  refine h2.thn R hP fun y r1 m1 v G1 H1 S1 R1 d1 P1 => ?_
  obtain ⟨d, e, P2⟩ := P1.opt_
  cases y <;> simp only [Pu.oLenSet, reduceCtorEq, Option.ite_none_right_eq_some, Option.some.injEq] at e
  · rename_i z
    obtain ⟨l, e⟩ := e
    subst e
    obtain ⟨e1, k1⟩ := d1.str_of
    subst e1
    refine .inr ⟨_, rfl, by simpa [mkS] using l, ?_⟩
    have : (firstS (fun i => (⟨#[(mkS z).cps.getD i 0]⟩ : Str)) (mkS z).cps.size).length = (Pu.dd z).length := by
      have q := firstS_dd (fun c : Nat => mkS [c]) (fun a b h => by have := mkS_inj h; simpa using this) z (fun i => (⟨#[(mkS z).cps.getD i 0]⟩ : Str)) (fun i x hx => by simp [mkS, hx])
      simpa [mkS] using q
    rw [this]
    exact P2.ok_ R1 (.int _)
  · rename_i ds
    obtain ⟨xs, hx, e⟩ := Option.bind_eq_some_iff.mp e
    simp only [Option.ite_none_right_eq_some, Option.some.injEq] at e
    obtain ⟨l, e⟩ := e
    subst e
    rw [Pu.strs_eq hx] at d1
    obtain ⟨qa, vs, rfl, h3, _, h4⟩ := d1.lst_of
    obtain ⟨e4, _⟩ := DnL.strsD h4
    subst e4
    refine .inl ⟨qa, xs.map mkS, rfl, SqL.of (R1.same _ _ h3), by simpa using l, ?_⟩
    have := firstS_dd mkS (fun a b h => mkS_inj h) xs (fun i => (xs.map mkS).getD i Str.empty) (fun i x hx => by simp [hx])
    rw [List.length_map, this]
    exact P2.ok_ R1 (.int _)
/-! ### list(text) -/
theorem signs_vals {x : Str} {acc : Array Value} (h : ItemsOf (SignAt x) acc x.cps.size) : Vals (x.cps.toList.map fun c => V.str ⟨#[c]⟩) acc.toList := by
  obtain ⟨hn, hi⟩ := h
  have aux : ∀ (us : List Value) (cs : List Nat), us.length = cs.length → (∀ (i : Nat) (c : Nat) (u : Value), cs[i]? = some c → us[i]? = some u → ∃ t, u = Value.str ⟨#[c]⟩ t) → Vals (cs.map fun c => V.str ⟨#[c]⟩) us := by
    intro us
    induction us with
    | nil => intro cs hl _; cases cs with | nil => exact .nil | cons _ _ => simp at hl
    | cons u us ih =>
      intro cs hl hh
      cases cs with
      | nil => simp at hl
      | cons c cs =>
        exact .cons (hh 0 c u rfl rfl) (ih cs (by simpa using hl) fun i c u h1 h2 => hh (i + 1) c u (by simpa using h1) (by simpa using h2))
  refine aux _ _ (by simpa using hn) fun i c u h1 h2 => ?_
  have hu : acc[i]? = some u := by simpa using h2
  obtain ⟨c', t, e1, e2⟩ := hi i u hu
  have : x.cps[i]? = some c := by simpa using h1
  rw [this] at e1
  cases e1
  exact ⟨t, e2⟩
theorem cr_listS (hc : X.calm = true) : CallR X (.type "list") (fun xs H Q => ∃ z : Str, xs = [.str z] ∧ z.cps.size ≤ sizeLine ∧ ∀ l, H l = none → Q (.ref l) (upd H l (.lst (z.cps.toList.map fun c => V.str ⟨#[c]⟩)))) := by
  intro pins s σ H xs us Q I r h
  obtain ⟨z, rfl, hz, q⟩ := h
  cases r with
  | cons r1 rs =>
    cases rs
    obtain ⟨t, rfl⟩ := r1
    refine call_list_str (hn := hz) (I.ok.hd hc) z t fun h' tk acc' c' hk hS hit => ?_
    have hn : H s.heap.objs.size = none := I.hok.fresh (Nat.le_refl _)
    refine ⟨.ref s.heap.objs.size, _, I.laid (t' := tk) (o := .lst (z.cps.toList.map fun c => V.str ⟨#[c]⟩)) hk (Nat.le_refl _) ?_, rfl, q _ hn⟩
    exact ⟨by simpa using hz, acc'.toList, c', signs_vals hit, by simpa using hS⟩
theorem c1_listS : C1 X T (fun xs H Q => ∃ z : Str, xs = [.str z] ∧ z.cps.size ≤ sizeLine ∧ ∀ l, H l = none → Q (.ref l) (upd H l (.lst (z.cps.toList.map fun c => V.str ⟨#[c]⟩)))) Pu.oListS := by
  intro al r m s G H v y d Q R dv e k
  cases y <;> simp only [Pu.oListS, reduceCtorEq, Option.ite_none_right_eq_some, Option.some.injEq] at e
  rename_i z
  obtain ⟨l, e⟩ := e
  subst e
  obtain ⟨e1, k1⟩ := dv.str_of
  subst e1
  refine ⟨_, rfl, by rw [ln_eq]; simpa [mkS] using l, fun p n => ?_⟩
  refine fin_lst R k ?_ (by simpa [Pu.sgn] using l) n
  have aux : ∀ cs : List Nat, (∀ c ∈ cs, TxOk [c]) → DnL X.K al G (cs.map fun c => V.str (mkS [c])) (Pu.sgn cs) := by
    intro cs
    induction cs with
    | nil => intro _; exact .nil
    | cons c cs ih => intro h; exact .cons (.str [c] (h c List.mem_cons_self)) (ih fun c hc => h c (List.mem_cons_of_mem _ hc))
  have := aux z fun c hc => k1.one hc
  simpa [mkS] using this
theorem se_listS (C : Cn k X E) (hm : X.mg "list" = none) (ha : SE X T E a ca) (hg : Gl X "list" := by rfl) (he : starEach (a :: []) X.env = (false, eval a X.env) :: starEach [] X.env := by rfl) (hpl : (backTo pos (starEach [] X.env)).any (·.1) = false := by rfl) : SE X T E (.Call (.Name "list" p) [a] [] pos) (Pu.c1 Pu.oListS ca) := se_ct1 (cr_listS C.calm) c1_listS hm (by decide +kernel) ha hg (by decide) (by decide) he hpl
end
end Su

namespace Su
open PySem PySem.Spec PyProof.Rows L2
open Pu (D Sl Rho Rs M Ro Fn Fl Tg LN)
section
variable {X : Cx} {T : Tb} {E : XK} {e a b c : Expr} {es : List Expr} {p p2 p3 pos q apos : Pos} {k j n i : Nat} {ca cb : M D} {x : Str}
theorem bd_bd {A B C : Type} (x : M A) (f : A → M B) (g : B → M C) : Pu.bd (Pu.bd x f) g = Pu.bd x fun a => Pu.bd (f a) g := by
  funext r m
  unfold Pu.bd
  cases x r m <;> rfl
theorem at_one {z : List Nat} {c i : Nat} : StrLaws.At (mkS z) (mkS [c]) (mkS z).length i ↔ z[i]? = some c := by
  unfold StrLaws.At
  rw [StrLaws.subAt_eq, mkS_len, mkS_len, mkS_cps, mkS_cps, beq_iff_eq]
  constructor
  · rintro ⟨h1, h2⟩
    have hi : i < z.length := by simp at h1; omega
    have h3 : (z[i] :: z.drop (i + 1)).take 1 = [c] := by rw [← List.drop_eq_getElem_cons hi]; exact h2
    rw [List.take_succ_cons, List.take_zero] at h3
    have h4 : z[i] = c := by injection h3
    rw [List.getElem?_eq_getElem hi, h4]
  · intro h
    obtain ⟨hi, e⟩ := List.getElem?_eq_some_iff.mp h
    refine ⟨by simp; omega, ?_⟩
    rw [List.drop_eq_getElem_cons hi]
    simp [e]
theorem occ_one {z : List Nat} {c : Nat} (h : c ∈ z) : ∃ r, Builtin.Str.occurrences (mkS z) (mkS [c]) 0 (mkS z).length 1 = z.idxOf c :: r := by
  have hl : z.idxOf c < z.length := List.idxOf_lt_length_of_mem h
  have hg : z[z.idxOf c]? = some c := by simp [hl]
  rcases StrLaws.occ_head (mkS z) (mkS [c]) 1 (Nat.le_refl _) with ⟨_, hn⟩ | ⟨i, r, e, ha, hn⟩
  · exact absurd (at_one.mpr hg) (hn _)
  · refine ⟨r, ?_⟩
    rw [e]
    have hi := at_one.mp ha
    rcases Nat.lt_trichotomy i (z.idxOf c) with q | q | q
    · exfalso
      obtain ⟨hi', e'⟩ := List.getElem?_eq_some_iff.mp hi
      have := List.not_of_lt_findIdx (p := (· == c)) (xs := z) (i := i) (by simpa [List.idxOf] using q)
      simp [e'] at this
    · rw [q]
    · exact absurd (at_one.mpr hg) (hn _ q)
theorem se_find (ha : SE X T E a ca) (hb : SE X T E b cb) (hs : starEach [b] X.env = [(false, eval b X.env)] := by rfl) (hbase : attributeBase a "index" X.env (eval a X.env) = eval a X.env := by rfl) (hline : (apos.endLine == pos.line) = true := by rfl) :
    SE X T E (.Call (.Attribute a "index" apos) [b] [] pos) (Pu.c2 Pu.oFind (Pu.cStr ca) cb) := by
  obtain ⟨t, h1, h2⟩ := ha
  obtain ⟨u, h3, h4⟩ := hb
  refine ⟨_, pe_m1 PySem.F.slot_str_index PySem.F.type_str_index mt_sindex h1 h3 hs hbase hline, fun al r m s G H Q R hP => ?_⟩
  unfold Pu.c2 Pu.cStr at hP
  rw [bd_bd] at hP
  refine h2.thn R hP fun y r1 m1 v G1 H1 S1 R1 d1 P1 => ?_
  cases y with
  | str z =>
    obtain ⟨e1, k1⟩ := d1.str_of
    subst e1
    refine ⟨⟨_, rfl⟩, ?_⟩
    refine h4.thn R1 P1 fun y2 r2 m2 v2 G2 H2 S2 R2 d2 P2 => ?_
    obtain ⟨d, e, P3⟩ := P2.opt_
    cases y2 with
    | str w =>
      match w, e, d2 with
      | [c], e, d2 =>
        simp only [Pu.oFind, Option.ite_none_right_eq_some, Option.some.injEq] at e
        obtain ⟨hc, e⟩ := e
        subst e
        obtain ⟨e2, k2⟩ := d2.str_of
        subst e2
        obtain ⟨rr, ho⟩ := occ_one hc
        exact ⟨_, _, _, rr, rfl, rfl, ho, P3.ok_ R2 (.int _)⟩
    | _ => simp [Pu.oFind] at e
  | _ => exact P1.elim
/-! ### -e, e[::-1] -/
theorem se_neg (ha : SE X T E a ca) : SE X T E (.UnaryOp .USub a pos) (Pu.c1 Pu.oNeg ca) := by
  obtain ⟨t, h1, h2⟩ := ha
  refine ⟨_, pe_un un_neg h1, fun al r m s G H Q R hP => ?_⟩
  refine h2.thn R hP fun y r1 m1 v G1 H1 S1 R1 d1 P1 => ?_
  obtain ⟨d, e, P2⟩ := P1.opt_
  cases y <;> simp only [Pu.oNeg, reduceCtorEq, Option.some.injEq] at e
  subst e
  rw [d1.int_of]
  exact ⟨_, rfl, P2.ok_ R1 (.int _)⟩
theorem DnL.rev {K : PySem.W.Frag} {al : Option Addr} {G : Hp} : ∀ {vs : List V} {ds : List D}, DnL K al G vs ds → DnL K al G vs.reverse ds.reverse
  | _, _, .nil => .nil
  | _, _, .cons h r => by
    rw [List.reverse_cons, List.reverse_cons]
    exact (DnL.rev r).append (.cons h .nil)
theorem so_revL {kk : Nat} (ha : SE X T E a ca) : SO X T E (.Subscript a (.Slice none none (some (.UnaryOp .USub (.Constant (.int 1) kk p) p2)) p3) pos) (Pu.c1 Pu.oRevL ca) := by
  obtain ⟨t, h1, h2⟩ := ha
  refine ⟨_, pe_revL h1, fun al r m s G H Q R hP => ?_⟩
  refine h2.thnN R hP fun y r1 m1 v G1 H1 S1 R1 d1 P1 => ?_
  obtain ⟨d, e, P2⟩ := P1.opt_
  cases y <;> simp only [Pu.oRevL, reduceCtorEq, Option.some.injEq] at e
  subst e
  obtain ⟨qa, vs, rfl, h3, hl, h4⟩ := d1.lst_of
  exact ⟨qa, vs, rfl, SqL.of (R1.same _ _ h3), fun p n => fin_new R1 P2 h4.rev (by rw [List.length_reverse]; exact hl) n⟩
end
end Su

/-! [::-1] of a text, of a tuple; sum of a tuple of whole numbers -/
namespace Su
open PySem PySem.Spec PyProof.Rows L2
open Pu (D Sl Rho Rs M Ro Fn Fl Tg LN)
theorem sliceApplied_back {prog : Program} {w : World} {A : Around} {E : Value → Shared → Prop} {s : Shared} {sl : Addr} {t : Tok} {n : Nat} {Q : Int × Int × Nat → Shared → Prop} (hs : s.heap.IsSliceOf sl .none .none (.int (-1) t))
    (h : Q ((n : Int) - 1, -1, n) s) : wpAny (model prog w) A (Builtin.Slice.sliceApplied (.ref sl) (pure (n : Int))) Q E s := by
  obtain ⟨os, hos, hcs, hds⟩ := id hs
  unfold Builtin.Slice.sliceApplied Builtin.Slice.sliceFields
  refine wpAny_bind (wpAny_bind (wpAny_field hos hds (x := .none) rfl (wpAny_bind (wpAny_field hos hds (x := .none) rfl (wpAny_bind (wpAny_field hos hds (x := .int (-1) t) rfl (wpAny_pure ?_)))))))
  refine wpAny_bind (HT.slicePart_ (.int (-1) t) ?_)
  show wpAny _ _ (if ((-1 : Int) == 0) = true then _ else _) _ _ s
  rw [if_neg (by decide)]
  refine wpAny_bind (HT.slicePart_ .none (wpAny_bind (HT.slicePart_ .none (wpAny_bind (wpAny_pure ?_)))))
  have e : Builtin.Slice.slicePlaces ((n : Int) - 1) (-1) (-1) = n := by
    unfold Builtin.Slice.slicePlaces
    rw [if_neg (by decide)]
    have : (-(-1) : Int) = 1 := by decide
    rw [this, Int.ediv_one]
    split <;> omega
  show wpAny _ _ (pure ((n : Int) - 1, (-1 : Int), Builtin.Slice.slicePlaces ((n : Int) - 1) (-1) (-1))) _ _ s
  rw [e]
  exact wpAny_pure h
theorem range_back {α : Type} (xs : List α) : ((List.range xs.length).filterMap fun (m : Nat) => xs[((xs.length : Int) - 1 + (m : Int) * (-1)).toNat]?) = xs.reverse := by
  have h : ∀ k ≤ xs.length, ((List.range k).filterMap fun (m : Nat) => xs[((xs.length : Int) - 1 + (m : Int) * (-1)).toNat]?) = (xs.drop (xs.length - k)).reverse := by
    intro k
    induction k with
    | zero => intro _; simp
    | succ k ih =>
      intro hk
      rw [List.range_succ, List.filterMap_append, ih (by omega)]
      have hi : xs.length - (k + 1) < xs.length := by omega
      have e1 : ((xs.length : Int) - 1 + (k : Int) * (-1)).toNat = xs.length - (k + 1) := by omega
      have e2 : xs.drop (xs.length - (k + 1)) = xs[xs.length - (k + 1)] :: xs.drop (xs.length - k) := by
        rw [List.drop_eq_getElem_cons hi]
        congr 2
        omega
      rw [e2, List.reverse_cons]
      congr 1
      simp only [List.filterMap_cons, List.filterMap_nil, e1, List.getElem?_eq_getElem hi]
  have := h xs.length (Nat.le_refl _)
  rw [Nat.sub_self, List.drop_zero] at this
  exact this
theorem range_backA (xs : Array Value) : ((List.range xs.size).filterMap fun (m : Nat) => xs[((xs.size : Int) - 1 + (m : Int) * (-1)).toNat]?).toArray = xs.toList.reverse.toArray := by
  obtain ⟨l⟩ := xs
  congr 1
  have := range_back l
  simpa using this
theorem getItem_tuple_back {prog : Program} {w : World} {A : Around} {E : Value → Shared → Prop} {s : Shared} {t sl : Addr} {items : Array Value} {tk : Tok} {Q : Value → Shared → Prop} (ht : IsTup s.heap t items) (hs : s.heap.IsSliceOf sl .none .none (.int (-1) tk))
    (h : Q (.ref s.heap.objs.size) { s with heap := s.heap.push { cls := .type "tuple", data := .seq items.toList.reverse.toArray } })
    (hsz : items.size ≤ sizeLine) : wpAny (model prog w) A (getItem (.ref t) (.ref sl)) Q E s := by
  have htake : sizeOk (.seq items.toList.reverse.toArray) := by
    show items.toList.reverse.toArray.size ≤ sizeLine
    rw [List.size_toArray, List.length_reverse, Array.length_toList]
    exact hsz
  obtain ⟨os, hos, hcs, hds⟩ := id hs
  have hTs : s.TypeIs (.ref sl) "slice" := ⟨os, hos, hcs⟩
  unfold getItem
  try with_reducible refine wpAny_holding ?_
  first | refine wpAny_bind (wpAny_pure ?_) | skip
  refine wpAny_bind (wpAny_sequenceKey ht.typeIs (by decide) ?_)
  refine wpAny_bind (wpAny_callSpecial?_slot (name := Str.ofString "__getitem__") ht.typeIs PyProof.Rows.slot_tuple_getitem
    (wpAny_call_entry PyProof.Rows.slot_tuple_getitem ht.typeIs entry_tuple_getitem ?_ (args_tuple_getitem _ _)))
  show wpAny _ _ (Builtin.Tuple.tupleItemsOf (.ref t) >>= _) _ _ s
  refine wpAny_bind (tupleItemsOf_ ht ?_)
  refine wpAny_bind (wpAny_typeOf hTs ?_)
  rw [if_pos (by decide)]
  refine wpAny_bind (sliceApplied_back hs ?_)
  have hno : ¬ ((((items.size : Int) - 1) == 0 && (-1 : Int) == 1 && items.size == items.size) = true) := by
    intro q
    rw [Bool.and_eq_true, Bool.and_eq_true] at q
    exact absurd (eq_of_beq q.1.2) (by decide)
  show wpAny _ _ (if (((items.size : Int) - 1) == 0 && (-1 : Int) == 1 && items.size == items.size) = true then _ else _) _ _ s
  rw [if_neg hno, range_backA]
  first
    | exact wpAny_bind (m := Builtin.Tuple.tupleExact _) (wpAny_newObj_type (wpAny_pure ⟨_, rfl, wpAny_pure h⟩) htake)
    | exact wpAny_bind (m := Builtin.Tuple.tupleExact _) (wpAny_newObj_type (wpAny_bind (wpAny_pure (wpAny_pure ⟨_, rfl, wpAny_pure h⟩))) htake)
    | exact wpAny_bind (wpAny_bind (m := Builtin.Tuple.tupleExact _) (wpAny_newObj_type (wpAny_pure (wpAny_pure ⟨_, rfl, wpAny_pure h⟩)) htake))
    | exact wpAny_bind (wpAny_bind (m := Builtin.Tuple.tupleExact _) (wpAny_newObj_type (wpAny_pure ⟨_, rfl, wpAny_pure h⟩) htake))
section
variable {X : Cx} {T : Tb} {E : XK} {e a b c : Expr} {es : List Expr} {p p2 p3 pos q apos : Pos} {k j n i : Nat} {ca cb : M D} {x : Str}
/-- the value of e, then a slice object [::-1] -/
theorem back_slice {te : TE} {kk : Nat} {p1 p2 p3 pos : Pos} {Q : VK} (he : PE X e te) {pins : List (Addr × Obj)} {s : Shared} {σ : L2.St} {H : Hp} (I : Inv X pins σ H s) {R : V → Hp → Prop} (h : te σ H R)
    (fin : ∀ (v : V) (u : Value) (H1 : Hp) (s4 : Shared) (tk : Tok), Inv X pins σ H1 { s4 with heap := s4.heap.push { cls := .type "slice", data := .fields #[.none, .none, .int (-1) tk] } } → RelV v u → R v H1 →
      wpAny (model X.prog X.w) X.A (subscriptTail e (.Slice none none (some (.UnaryOp .USub (.Constant (.int 1) kk p1) p2)) p3) u (.ref s4.heap.objs.size)) (EP X pins σ Q) X.xe { s4 with heap := s4.heap.push { cls := .type "slice", data := .fields #[.none, .none, .int (-1) tk] } }) :
    wpAny (model X.prog X.w) X.A (eval (.Subscript e (.Slice none none (some (.UnaryOp .USub (.Constant (.int 1) kk p1) p2)) p3) pos) X.env) (EP X pins σ Q) X.xe s := by
  refine Subscript_ (thn (he.run pins s σ H _ I h) fun v s1 ⟨x, H1, I1, r1, q1⟩ => ?_)
  have hst : PO X (some (.UnaryOp .USub (.Constant (.int 1) kk p1) p2)) (tPart (tUn (rU fun i => .int (-i)) (tC (.int 1)))) := po_some (pe_un un_neg pe_int)
  refine wpAny_Slice (thn (po_none.run pins s1 σ H1 (fun o H2 => o = none ∧ H2 = H1) I1 ⟨rfl, rfl⟩) fun vl s2 ⟨l, H2, I2, pl, el, e2⟩ => ?_)
  subst el e2
  refine thn (po_none.run pins s2 σ H2 (fun o H3 => o = none ∧ H3 = H2) I2 ⟨rfl, rfl⟩) fun vu s3 ⟨u, H3, I3, pu, eu, e3⟩ => ?_
  subst eu e3
  refine thn (hst.run pins s3 σ H3 (fun o H4 => o = some (-1) ∧ H4 = H3) I3 ⟨1, rfl, -1, rfl, rfl, rfl⟩) fun vs s4 ⟨o, H4, I4, ps, eo, e4⟩ => ?_
  subst eo e4
  cases pl
  cases pu
  cases ps with
  | int _ tk =>
    exact fin x v H4 s4 tk (I4.kept (t' := s4.toks) fun b ob q => Heap.get?_push_of_some _ q) r1 q1
def tRevT (K : PySem.W.Frag) (te : TE) : TE := fun σ H Q => te σ H fun x H1 => ∃ a xs, x = .ref a ∧ SqT K H1 a xs ∧ xs.length ≤ sizeLine ∧ ∀ p, H1 p = none → Q (.ref p) (upd H1 p (.tup xs.reverse))
theorem pe_revT {te : TE} {kk : Nat} {p1 p2 p3 pos : Pos} (he : PE X e te) : PE X (.Subscript e (.Slice none none (some (.UnaryOp .USub (.Constant (.int 1) kk p1) p2)) p3) pos) (tRevT X.K te) := by
  refine ⟨fun pins s σ H Q I h => ?_⟩
  refine back_slice he I h fun v u H1 s4 tk I5 r1 q1 => ?_
  obtain ⟨a, xs, ex, hx, hz, q⟩ := q1
  subst ex
  cases r1
  obtain ⟨its, r, ht, _⟩ := I5.tuple hx
  have hlen := r.length
  refine tail_any (ops := [.ref a, .ref s4.heap.objs.size]) ht.typeIs (PyProof.Rows.slot_tuple_getitem.lookup) ?_ (by with_unfolding_all rfl)
  refine getItem_tuple_back ht (Heap.IsSliceOf.new _ .none .none (.int (-1) tk)) ?_ (by rw [List.size_toArray]; omega)
  refine ⟨.ref _, _, I5.laid (t' := s4.toks) (o := .tup xs.reverse) (fun b ob q => Heap.get?_push_of_some _ q) (Nat.le_refl _) ?_, rfl, q _ (I5.hok.fresh (Nat.le_refl _))⟩
  exact ⟨by rw [List.length_reverse]; exact hz, _, r.reverse, IsTup.new _ _⟩
def tRevS (te : TE) : TE := fun σ H Q => te σ H fun x H1 => ∃ z : List Nat, x = .str (mkS z) ∧ z.length ≤ LN ∧ Q (.str (mkS z.reverse)) H1
theorem sliceBy_back (z : List Nat) (tk : Tok) : Txt.sliceBy (mkS z) none none (-1, tk) = mkS z.reverse := by
  have h := step_rev_list (mkS z) tk
  have hl : (mkS z).length = z.length := mkS_len z
  have e : ((List.range (mkS z).length).map fun k => (mkS z).cps.getD ((mkS z).length - 1 - k) 0) = z.reverse := by
    rw [hl]
    apply List.ext_getElem
    · simp
    · intro i h1 h2
      simp only [List.length_map, List.length_range] at h1
      rw [List.getElem_map, List.getElem_range, List.getElem_reverse]
      show (z.toArray).getD (z.length - 1 - i) 0 = _
      have : z.length - 1 - i < z.length := by omega
      simp [Array.getD, this]
  rw [e] at h
  generalize Txt.sliceBy (mkS z) none none (-1, tk) = y at h
  obtain ⟨⟨l⟩⟩ := y
  have h : l = z.reverse := h
  rw [h]
  rfl
theorem pe_revS {te : TE} {kk : Nat} {p1 p2 p3 pos : Pos} (he : PE X e te) : PE X (.Subscript e (.Slice none none (some (.UnaryOp .USub (.Constant (.int 1) kk p1) p2)) p3) pos) (tRevS te) := by
  refine ⟨fun pins s σ H Q I h => ?_⟩
  refine back_slice he I h fun v u H1 s4 tk I5 r1 q1 => ?_
  obtain ⟨z, ex, hz, q⟩ := q1
  subst ex
  obtain ⟨t, rfl⟩ := r1
  refine tail_any (ops := [.str (mkS z) t, .ref s4.heap.objs.size]) (typeIs_str _ _ _) (F.slot_str_getitem.lookup) ?_ (by with_unfolding_all rfl)
  refine wpAny_getItem_str_slice (l := none) (u := none) (st := some (-1, tk)) ⟨_, Heap.get?_push_size _ rfl, rfl, rfl⟩ rfl (post_val_or_str ⟨?_, fun t' c => ?_⟩)
  · show (Txt.sliceBy (mkS z) none none (-1, tk)).length ≤ sizeLine
    rw [sliceBy_back, mkS_len, List.length_reverse, ln_eq]
    exact hz
  · show EP X pins σ Q (.str (Txt.sliceBy (mkS z) none none (-1, tk)) t') _
    rw [sliceBy_back]
    exact ⟨.str (mkS z.reverse), H1, I5.tok c, ⟨t', rfl⟩, q⟩
theorem se_revT {kk : Nat} (ha : SE X T E a ca) : SE X T E (.Subscript a (.Slice none none (some (.UnaryOp .USub (.Constant (.int 1) kk p) p2)) p3) pos) (Pu.c1 Pu.oRevT ca) := by
  obtain ⟨t, h1, h2⟩ := ha
  refine ⟨_, pe_revT h1, fun al r m s G H Q R hP => ?_⟩
  refine h2.thn R hP fun y r1 m1 v G1 H1 S1 R1 d1 P1 => ?_
  obtain ⟨d, e, P2⟩ := P1.opt_
  cases y <;> simp only [Pu.oRevT, reduceCtorEq, Option.some.injEq] at e
  subst e
  obtain ⟨qa, vs, rfl, h3, hl, h4⟩ := d1.tup_of
  exact ⟨qa, vs, rfl, SqT.of (R1.same _ _ h3), by rw [h4.length, ln_eq]; exact hl, fun p n => fin_tup R1 (fun z G' H' S R' dz => P2 z G' H' S R' dz) h4.rev (by rw [List.length_reverse]; exact hl) n⟩
theorem se_revS {kk : Nat} (ha : SE X T E a ca) : SE X T E (.Subscript a (.Slice none none (some (.UnaryOp .USub (.Constant (.int 1) kk p) p2)) p3) pos) (Pu.c1 Pu.oRevS ca) := by
  obtain ⟨t, h1, h2⟩ := ha
  refine ⟨_, pe_revS h1, fun al r m s G H Q R hP => ?_⟩
  refine h2.thn R hP fun y r1 m1 v G1 H1 S1 R1 d1 P1 => ?_
  obtain ⟨d, e, P2⟩ := P1.opt_
  cases y <;> simp only [Pu.oRevS, reduceCtorEq, Option.some.injEq] at e
  subst e
  obtain ⟨e1, k1⟩ := d1.str_of
  subst e1
  exact ⟨_, rfl, k1.len, P2.ok_ R1 (.str _ ⟨by rw [List.length_reverse]; exact k1.len, fun c hc => k1.cps c (List.mem_reverse.mp hc)⟩)⟩
def rSumT (K : PySem.W.Frag) : List V → Hp → VK → Prop := fun vs H Q => ∃ (a : Addr) (ns : List Int), vs = [V.ref a] ∧ SqT K H a (ns.map V.int) ∧ Q (.int ns.sum) H
theorem cr_sumT (hc : X.calm = true) : CallR X (.builtin "sum") (rSumT X.K) := by
  intro pins s σ H vs us Q I r h
  obtain ⟨a, ns, rfl, hs, q⟩ := h
  obtain ⟨its, rv, hl, _⟩ := I.tuple hs
  rw [Vals.ref1 r]
  obtain ⟨xs, e⟩ := rv.ints.allInts.items
  have hn : numsOf (intItems xs).toList = ns := by rw [← e]; exact rv.ints.numsOf
  rw [nums_intItems] at hn
  rw [e] at hl
  refine PySem.W.ktm_sumG (I.ok.hd hc) hl fun h' tk t' hk => ?_
  rw [preSum_eq, List.take_of_length_le (by simp), hn]
  exact ⟨.int _, H, I.kept hk, ⟨_, rfl⟩, q⟩
end
end Su
namespace Pu
def oSumT : D → Option D
  | .tup ds => (intsD ds).map fun ns => .int ns.sum
  | _ => none
end Pu
namespace Su
open PySem PySem.Spec PyProof.Rows L2
open Pu (D Sl Rho Rs M Ro Fn Fl Tg LN)
section
variable {X : Cx} {T : Tb} {E : XK} {e a b c : Expr} {p pos : Pos} {k : Nat} {ca cb : M D}
theorem c1_sumT : C1 X T (rSumT X.K) Pu.oSumT := by
  intro al r m s G H v y d Q R dv e k
  cases y <;> simp only [Pu.oSumT, reduceCtorEq] at e
  obtain ⟨ns, h1, rfl⟩ := Option.map_eq_some_iff.mp e
  rw [Pu.ints_eq h1] at dv
  obtain ⟨q, xs, rfl, h1, _, h2⟩ := dv.tup_of
  rw [DnL.intsD h2] at h1
  exact ⟨q, ns, rfl, SqT.of (R.same _ _ h1), fin_ R k (.int _)⟩
theorem se_sumT (C : Cn k X E) (hm : X.mg "sum" = none) (ha : SE X T E a ca) (hg : Gl X "sum" := by rfl) (he : starEach (a :: []) X.env = (false, eval a X.env) :: starEach [] X.env := by rfl) (hpl : (backTo pos (starEach [] X.env)).any (·.1) = false := by rfl) : SE X T E (.Call (.Name "sum" p) [a] [] pos) (Pu.c1 Pu.oSumT ca) := se_cb1 (cr_sumT C.calm) c1_sumT hm (by decide +kernel) ha hg (by decide) (by decide) he hpl
end
end Su

namespace Pu
section
variable {r : Rho} {m : D} {i j l k n : Nat} {a b c : M D} {t u : M Bool} {p q : M Fl} {tg : Tg} {d e : D}
theorem ev_enum {it : M (List D)} : iEnum it r m = bd it (fun ds => pu (enumFrom 0 ds)) r m := Eq.trans rfl rfl
theorem ev_oidx : cOIdx i b r m = (match r[i]? with
  | some (some (.own (.lst _))) => bd b (fun y => fun r m => match r[i]? with
    | some (some (.own d)) => opt (oIdx d y) r m
    | _ => .bad) r m
  | _ => .bad) := Eq.trans rfl rfl
theorem ev_put : sPut i a c r m = bd c (fun d => fun r m => match r[i]? with
  | some (some (.own (.lst _))) => bd a (fun x => fun r m => match r[i]?, x with
    | some (some (.own (.lst ds))), .int j => (match ixN ds.length j with
      | some n => .ok .nx (r.set i (some (.own (.lst (ds.set n d))))) m
      | none => .bad)
    | _, _ => .bad) r m
  | _ => .bad) r m := Eq.trans rfl rfl
/-- x[y], x what is handed around or not -/
def idxA (x m y : D) : Option D := match x with
  | .amb => oIdx m y
  | x => oIdx x y
theorem ev_idx2 : cIdx a b r m = bd a (fun x => bd b fun y => fun r m => opt (idxA x m y) r m) r m := by
  rw [ev_idx]
  congr 1
  funext x
  congr 1
  funext y r m
  cases x <;> rfl
theorem idxA_l (xs : List D) (y : D) : idxA (.lst xs) m y = oIdx (.lst xs) y := Eq.trans rfl rfl
theorem idxA_t (xs : List D) (y : D) : idxA (.tup xs) m y = oIdx (.tup xs) y := Eq.trans rfl rfl
theorem idxA_s (xs : List Nat) (y : D) : idxA (.str xs) m y = oIdx (.str xs) y := Eq.trans rfl rfl
theorem idxA_a (y : D) : idxA .amb m y = oIdx m y := Eq.trans rfl rfl
theorem idxA_e0 (n : Nat) (ps : List (List Nat × Nat)) : idxA (encV n ps) m (.int 0) = some (.int n) := Eq.trans rfl rfl
theorem idxA_e1 (n : Nat) (ps : List (List Nat × Nat)) : idxA (encV n ps) m (.int 1) = some (.tup (ps.map encP)) := Eq.trans rfl rfl
theorem ev_yes : tYes r m = .ok true r m := Eq.trans rfl rfl
theorem ev_told : cTold a r m = (match a (frz r) m with
  | .ok d _ m' => .ok d (frz r) m'
  | .exc e m' => if e < 12 then .ok (errD e) (frz r) m' else .bad
  | .bad => .bad) := Eq.trans rfl rfl
theorem lt_len0 (x : Option Sl) (xs : Rho) : (0 < (x :: xs).length) = True := by simp
theorem lt_lenS (x : Option Sl) (xs : Rho) (i : Nat) : (i + 1 < (x :: xs).length) = (i < xs.length) := by simp
theorem asg_nm : asg (.nm i) d r = if i < r.length then some (r.set i (some (.v d))) else none := Eq.trans rfl rfl
theorem asg_tp {g h : Tg} : asg (.tp g h) (.tup [d, e]) r = (asg g d r).bind (asg h e) := Eq.trans rfl rfl
theorem opt_bind_some {A B : Type} (x : A) (f : A → Option B) : (some x).bind f = f x := Eq.trans rfl rfl
theorem len_two (d e : D) : ([d, e] : List D).length ≤ LN := by unfold LN; simp
theorem len_one (d : D) : ([d] : List D).length ≤ LN := by unfold LN; simp
theorem len_zero : ([] : List D).length ≤ LN := Nat.zero_le _
end
/-- a for loop that turns a state -/
theorem forL_fold {S : Type} {tg : Tg} {b : M Fl} (R : S → Rho) (step : S → D → S) : ∀ (ds : List D) (s : S) (m : D),
    (∀ s d, d ∈ ds → ∃ r1, asg tg d (R s) = some r1 ∧ b r1 m = .ok .nx (R (step s d)) m) → forL tg b ds (R s) m = .ok .nx (R (ds.foldl step s)) m
  | [], s, m, _ => ev_forNil
  | d :: ds, s, m, h => by
    obtain ⟨r1, h1, h2⟩ := h s d List.mem_cons_self
    rw [ev_forCons, ev_bd, ev_tgt, h1]
    dsimp only
    rw [ev_bd, h2]
    exact forL_fold R step ds (step s d) m fun s d hd => h s d (List.mem_cons_of_mem _ hd)
/-! ### the signs of votes -/
theorem enc_tup (n : Nat) (ps : List (List Nat × Nat)) : encV n ps = .tup [.int n, .tup (ps.map encP)] := Eq.trans rfl rfl
theorem oTuple_l (ds : List D) : oTuple (.lst ds) = some (.tup ds) := Eq.trans rfl rfl
theorem oList_t (ds : List D) : oList (.tup ds) = some (.lst ds) := Eq.trans rfl rfl
theorem oLen_s (z : List Nat) : oLen (.str z) = some (.int z.length) := Eq.trans rfl rfl
theorem oLen_l (z : List D) : oLen (.lst z) = some (.int z.length) := Eq.trans rfl rfl
theorem oLen_t (z : List D) : oLen (.tup z) = some (.int z.length) := Eq.trans rfl rfl
theorem sumT_ints (ns : List Int) : oSumT (.tup (ns.map .int)) = some (.int ns.sum) := by
  show (intsD (ns.map .int)).map _ = _
  rw [ints_map]
  rfl
theorem deq_ints (xs ys : List Int) : deqs (xs.map .int) (ys.map .int) = decide (xs = ys) := by
  induction xs generalizing ys with
  | nil => cases ys <;> simp [deqs]
  | cons x xs ih =>
    cases ys with
    | nil => simp [deqs]
    | cons y ys =>
      simp only [List.map_cons, deqs, deq, ih, List.cons.injEq]
      by_cases h : x = y <;> by_cases h2 : xs = ys <;> simp [h, h2]
theorem shp_ints (k : Nat) (xs : List Int) : (xs.map D.int).all (shp k) = true := by
  rw [List.all_eq_true]
  intro d hd
  obtain ⟨x, _, rfl⟩ := List.mem_map.mp hd
  cases k <;> rfl
theorem ne_tints (xs ys : List Int) : oNe (.tup (xs.map .int)) (.tup (ys.map .int)) = some (.bl (!decide (xs = ys))) := by
  have h1 : shp 8 (.tup (xs.map .int)) = true := shp_ints 7 xs
  have h2 : shp 8 (.tup (ys.map .int)) = true := shp_ints 7 ys
  have h3 : deq (.tup (xs.map .int)) (.tup (ys.map .int)) = decide (xs = ys) := deq_ints xs ys
  unfold oNe
  rw [h1, h2, h3]
  rfl
theorem ne_tupE (d : D) : oNe (.tup [.str [101, 114, 114, 111, 114], d]) (.tup [.str [101, 114, 114, 111, 114], d]) = oNe (.tup [.str [101, 114, 114, 111, 114], d]) (.tup [.str [101, 114, 114, 111, 114], d]) := rfl
/-- errors are told by their names -/
theorem ne_errs (c : Nat) : oNe (errD c) (errD c) = some (.bl false) := by
  have h : deq (errD c) (errD c) = true := by simp [errD, deq, deqs]
  show (if (shp 8 (errD c) && shp 8 (errD c)) = true then some (D.bl (!deq (errD c) (errD c))) else none) = _
  rw [h]
  rfl
/-! ### counts -/
theorem first_mem {z b : List Nat} {c : Nat} (h : firstOf z b = some c) : c ∈ z ∧ c ∈ b := by
  unfold firstOf at h
  have := List.mem_of_mem_head? (Option.mem_def.mpr h)
  rw [List.mem_filter] at this
  exact ⟨by simpa using this.2, this.1⟩
theorem first_congr {z w : List Nat} (h : ∀ c, c ∈ z ↔ c ∈ w) (b : List Nat) : firstOf z b = firstOf w b := by
  unfold firstOf
  congr 1
  apply List.filter_congr
  intro c _
  simp [h c]
theorem cnt_congr {z w : List Nat} (h : ∀ c, c ∈ z ↔ c ∈ w) (c : Nat) : ∀ ps : List (List Nat × Nat), cnt z ps c = cnt w ps c
  | [] => rfl
  | p :: ps => by simp only [cnt, first_congr h p.1, cnt_congr h c ps]
theorem cnt_nonneg (z : List Nat) (c : Nat) : ∀ ps : List (List Nat × Nat), 0 ≤ cnt z ps c
  | [] => Int.le_refl _
  | p :: ps => by
    have := cnt_nonneg z c ps
    simp only [cnt]
    split <;> omega
/-- fewer candidates: the others have no fewer -/
theorem first_less {z w b : List Nat} {c : Nat} (hs : ∀ x ∈ w, x ∈ z) (hc : c ∈ w) (h : firstOf z b = some c) : firstOf w b = some c := by
  unfold firstOf at h ⊢
  induction b with
  | nil => simp at h
  | cons x b ih =>
    rw [List.filter_cons] at h ⊢
    by_cases hx : x ∈ z
    · rw [if_pos (by simpa using hx)] at h
      have e : x = c := by simpa using h
      rw [e, if_pos (by simpa using hc)]
      rfl
    · rw [if_neg (by simpa using hx)] at h
      rw [if_neg (by simpa using fun z => hx (hs x z))]
      exact ih h
theorem cnt_less {z w : List Nat} {c : Nat} (hs : ∀ x ∈ w, x ∈ z) (hc : c ∈ w) : ∀ ps : List (List Nat × Nat), cnt z ps c ≤ cnt w ps c
  | [] => Int.le_refl _
  | p :: ps => by
    have ih := cnt_less hs hc ps
    simp only [cnt]
    by_cases h : firstOf z p.1 = some c
    · rw [if_pos h, if_pos (first_less hs hc h)]; omega
    · rw [if_neg h]
      split <;> omega
/-- all voters -/
def tot (ps : List (List Nat × Nat)) : Int := (ps.map fun p => (p.2 : Int)).sum
theorem tot_cons (p : List Nat × Nat) (ps : List (List Nat × Nat)) : tot (p :: ps) = p.2 + tot ps := by simp [tot]
theorem sum_ind {z : List Nat} (nd : z.Nodup) (o : Option Nat) (t : Int) : (z.map fun c => if o = some c then t else 0).sum = if (∃ c ∈ z, o = some c) then t else 0 := by
  induction z with
  | nil => simp
  | cons x z ih =>
    rw [List.nodup_cons] at nd
    rw [List.map_cons, List.sum_cons, ih nd.2]
    by_cases h : o = some x
    · have h2 : ¬ ∃ c ∈ z, o = some c := by
        rintro ⟨c, hc, e⟩
        rw [h] at e
        cases e
        exact nd.1 hc
      rw [if_pos h, if_neg h2, if_pos ⟨x, List.mem_cons_self, h⟩]
      omega
    · rw [if_neg h]
      by_cases h2 : ∃ c ∈ z, o = some c
      · obtain ⟨c, hc, e⟩ := h2
        rw [if_pos ⟨c, hc, e⟩, if_pos ⟨c, List.mem_cons_of_mem _ hc, e⟩]
        omega
      · rw [if_neg h2, if_neg]
        · omega
        · rintro ⟨c, hc, e⟩
          rcases List.mem_cons.mp hc with q | q
          · exact h (by rw [e, q])
          · exact h2 ⟨c, q, e⟩
theorem sum_add {α : Type} (f g : α → Int) : ∀ z : List α, (z.map fun c => f c + g c).sum = (z.map f).sum + (z.map g).sum
  | [] => rfl
  | c :: z => by simp only [List.map_cons, List.sum_cons, sum_add f g z]; omega
theorem cnt_sum {z : List Nat} (nd : z.Nodup) : ∀ ps : List (List Nat × Nat), (z.map (cnt z ps)).sum = (ps.map fun p => if (∃ c ∈ z, firstOf z p.1 = some c) then (p.2 : Int) else 0).sum
  | [] => by
    have : ∀ L : List Nat, (L.map (cnt z [])).sum = 0 := fun L => by
      induction L with
      | nil => rfl
      | cons x L ih => rw [List.map_cons, List.sum_cons, ih]; rfl
    exact this z
  | p :: ps => by
    have e : (z.map (cnt z (p :: ps))) = z.map fun c => (if firstOf z p.1 = some c then (p.2 : Int) else 0) + cnt z ps c := rfl
    rw [e, sum_add, sum_ind nd, cnt_sum nd ps, List.map_cons, List.sum_cons]
theorem cnt_sum_le {z : List Nat} (nd : z.Nodup) (ps : List (List Nat × Nat)) : (z.map (cnt z ps)).sum ≤ tot ps := by
  rw [cnt_sum nd]
  induction ps with
  | nil => exact Int.le_refl _
  | cons p ps ih =>
    rw [List.map_cons, List.sum_cons, tot_cons]
    split <;> omega
theorem first_some {z b : List Nat} {c : Nat} (hc : c ∈ z) (hb : c ∈ b) : ∃ x, firstOf z b = some x := by
  unfold firstOf
  cases h : b.filter fun c => decide (c ∈ z) with
  | nil =>
    have : c ∈ b.filter fun c => decide (c ∈ z) := List.mem_filter.mpr ⟨hb, by simpa using hc⟩
    rw [h] at this
    cases this
  | cons x r => exact ⟨x, rfl⟩
theorem cnt_sum_all {z : List Nat} (nd : z.Nodup) (ps : List (List Nat × Nat)) (h : ∀ p ∈ ps, ∃ c ∈ p.1, c ∈ z) : (z.map (cnt z ps)).sum = tot ps := by
  rw [cnt_sum nd]
  induction ps with
  | nil => rfl
  | cons p ps ih =>
    rw [List.map_cons, List.sum_cons, tot_cons, ih fun q hq => h q (List.mem_cons_of_mem _ hq)]
    obtain ⟨c, h1, h2⟩ := h p List.mem_cons_self
    obtain ⟨x, hx⟩ := first_some h2 h1
    rw [if_pos ⟨x, (first_mem hx).1, hx⟩]
end Pu

namespace Pu
theorem snd_sum : ∀ ps : List (List Nat × Nat), (ps.map encP).map sndD = (ps.map fun p => (p.2 : Int)).map .int
  | [] => rfl
  | p :: ps => by
    have ih := snd_sum ps
    rw [List.map_map] at ih
    simp only [List.map_cons, List.map_map, ih]
    rfl
theorem idxV (n : Nat) (ps : List (List Nat × Nat)) (i : Nat) (r : Rho) (m : D) (h : r[i]? = some (some (.v (encV n ps)))) : cIdx (cVar i) (cK (.int 1)) r m = .ok (.tup (ps.map encP)) r m := by
  simp only [ev_idx, ev_bd, ev_var, h, ev_K]
  rfl
theorem idxV0 (n : Nat) (ps : List (List Nat × Nat)) (i : Nat) (r : Rho) (m : D) (h : r[i]? = some (some (.v (encV n ps)))) : cIdx (cVar i) (cK (.int 0)) r m = .ok (.int n) r m := by
  simp only [ev_idx, ev_bd, ev_var, h, ev_K]
  rfl
theorem voters_all {n : Nat} {ps : List (List Nat × Nat)} (h : Vot n ps) (m : D) : f_count_voters [encV n ps] m = .ok (.int (tot ps)) m := by
  have hs : start 3 [encV n ps] = [some (.v (encV n ps)), none, none] := Eq.trans rfl rfl
  have hlc := lc_run (vs := [1, 2]) (it := iTup (cIdx (cVar 0) (cK (.int 1)))) (tg := .tp (.nm 1) (.nm 2)) (t := tYes) (e := cVar 2) (r := [some (.v (encV n ps)), none, none]) (m := m) (ds := ps.map encP) (fun _ => true) sndD (by rw [ev_iTup, ev_bd, idxV n ps 0 [some (.v (encV n ps)), none, none] m rfl]; rfl) (by
    intro d hd
    obtain ⟨q, hq, rfl⟩ := List.mem_map.mp hd
    exact ⟨[some (.v (encV n ps)), some (.v (.str q.1)), some (.v (.int q.2))], rfl, rfl, rfl, fun _ => rfl⟩)
  rw [List.filter_eq_self.mpr fun _ _ => rfl, snd_sum] at hlc
  unfold f_count_voters
  rw [fn_ev (show [encV n ps].length = 1 from rfl), hs, c_count_voters.eq_1]
  simp only [ev_bd, ev_pu, ev_some, ev_var, ev_K, ev_c1, ev_c2, ev_tB, ev_tAnd, ev_tOr, ev_tNot, ev_And, ev_Or, ev_Not, ev_If, ev_chain, ev_nil, ev_cons, ev_tup, ev_lst, ev_idx2, idxA_l, idxA_t, idxA_s, idxA_a, idxA_e0, idxA_e1, ev_call, ev_ap, ev_cut, ev_part0, ev_part1, ev_str, ev_tgt, ev_iLst, ev_iTup, ev_iStr, ev_iRng, ev_nop, ev_seq, ev_st, ev_set, ev_new, ev_sTgt, ev_par, ev_sIf, ev_ret, ev_do, ev_raise, ev_for, ev_app, ev_iOwn, ev_enum, ev_oidx, ev_put, ev_yes, lt_len0, lt_lenS, asg_nm, asg_tp, opt_bind_some, len_two, len_one, len_zero, List.getElem?_cons_zero, List.getElem?_cons_succ, List.set_cons_zero, List.set_cons_succ, ↓reduceIte, Bool.false_eq_true, Bool.not_true, Bool.not_false, sl, ro, need_run h, hlc, sum_ints]
  rfl
theorem set_idx {z : List Nat} (nd : z.Nodup) (f : Nat → Int) {c : Nat} (hc : c ∈ z) (t : Int) : (z.map fun x => D.int (f x)).set (z.idxOf c) (.int (f c + t)) = z.map fun x => D.int (if x = c then f x + t else f x) := by
  apply List.ext_getElem?
  intro i
  by_cases h : z.idxOf c = i
  · subst h
    have hl : z.idxOf c < z.length := List.idxOf_lt_length_of_mem hc
    rw [List.getElem?_set_self (by rw [List.length_map]; exact hl), List.getElem?_map, List.getElem?_eq_getElem hl]
    have e : z[z.idxOf c] = c := by simp
    simp [e]
  · rw [List.getElem?_set_ne h, List.getElem?_map, List.getElem?_map]
    by_cases hl : i < z.length
    · rw [List.getElem?_eq_getElem hl]
      have : z[i] ≠ c := fun e => h (by rw [← e]; exact nd.idxOf_getElem i hl)
      simp [this]
    · rw [List.getElem?_eq_none (by omega)]
      rfl
theorem cnt_snoc (z : List Nat) (p : List Nat × Nat) (c : Nat) : ∀ qs : List (List Nat × Nat), cnt z (qs ++ [p]) c = cnt z qs c + (if firstOf z p.1 = some c then (p.2 : Int) else 0)
  | [] => by simp [cnt]
  | q :: qs => by simp only [List.cons_append, cnt, cnt_snoc z p c qs]; omega
theorem rep_zero (z : List Nat) (h : z.length ≤ 1000) : Su.oRep (.lst [.int 0]) (.int z.length) = some (.lst (z.map fun _ => .int 0)) := by
  show (if (z.length : Int).natAbs < 2 ^ 63 ∧ ([D.int 0] : List D).length * (z.length : Int).toNat ≤ LN then some (D.lst (List.replicate (z.length : Int).toNat [D.int 0]).flatten) else none) = _
  rw [if_pos]
  · congr 2
    have : ((z.length : Int)).toNat = z.length := by omega
    rw [this]
    induction z with
    | nil => rfl
    | cons x z ih =>
      rw [List.length_cons, List.replicate_succ, List.flatten_cons, ih (by rw [List.length_cons] at h; omega) (by omega)]
      rfl
  · constructor
    · have : (1000 : Nat) < 2 ^ 63 := by decide +kernel
      omega
    · have : ((z.length : Int)).toNat = z.length := by omega
      rw [this]
      show 1 * z.length ≤ LN
      unfold LN
      omega
theorem left_run (z b : List Nat) (vs : Nat) (it : M (List D)) (t : M Bool) (w : Rho) (m : D) (ht : it w m = .ok (sgn b) w m)
    (h : ∀ x, ∃ r1, asg (.nm vs) (.str [x]) (wipe w [vs]) = some r1 ∧ wipe r1 [vs] = wipe w [vs] ∧ t r1 m = .ok (decide (x ∈ z)) r1 m ∧ cVar vs r1 m = .ok (.str [x]) r1 m) :
    cLc [vs] it (.nm vs) t (cVar vs) [] w m = .ok (.lst (sgn (b.filter fun c => decide (c ∈ z)))) w m := by
  have := lc_run (vs := [vs]) (it := it) (tg := .nm vs) (t := t) (e := cVar vs) (r := w) (m := m) (ds := sgn b) (fun d => decide (sg1 d ∈ z)) id ht (by
    intro d hd
    obtain ⟨x, hx, rfl⟩ := List.mem_map.mp hd
    obtain ⟨r1, h1, h2, h3, h4⟩ := h x
    exact ⟨r1, h1, h2, h3, fun _ => h4⟩)
  rw [this, List.map_id]
  congr 2
  unfold sgn
  rw [List.filter_map]
  rfl
theorem idx_first {z b : List Nat} {c0 : Nat} {rest : List Nat} : oIdx (.lst (sgn (c0 :: rest))) (.int 0) = some (.str [c0]) := by
  show atI (sgn (c0 :: rest)) 0 = _
  unfold atI ixN
  rw [if_pos (Int.le_refl 0), if_pos (by rw [sgn_len]; simp)]
  rfl
theorem ixN_ok {n k : Nat} (h : k < n) : ixN n (k : Int) = some k := by
  unfold ixN
  rw [if_pos (by omega), if_pos (by omega)]
  rfl
theorem atI_ok {A : Type} {xs : List A} {k : Nat} {x : A} (h : xs[k]? = some x) : atI xs (k : Int) = some x := by
  obtain ⟨hl, e⟩ := List.getElem?_eq_some_iff.mp h
  unfold atI
  rw [ixN_ok hl]
  exact h
theorem lcounts_run (z : List Nat) (hz : z.Nodup) (hzl : z.length ≤ 1000) (ps : List (List Nat × Nat)) (hp : ∀ p ∈ ps, p.1.length ≤ 1000) (m : D) : f__law_counts [.tup (ps.map encP), .str z] m = .ok (.lst (z.map fun c => .int (cnt z ps c))) m := by
  have hs : start 7 [.tup (ps.map encP), .str z] = [some (.v (.tup (ps.map encP))), some (.v (.str z)), none, none, none, none, none] := Eq.trans rfl rfl
  let I : Nat → Rho → D → Prop := fun i r m' => m' = m ∧ ∃ (x3 x4 x5 : Option Sl), r = [some (.v (.tup (ps.map encP))), some (.v (.str z)), some (.own (.lst (z.map fun x => D.int (cnt z (ps.take i) x)))), x3, x4, x5, none]
  have hrun := forL_inv (tg := .tp (.nm 3) (.nm 4)) (b := (sSeq (sSet 5 (cLc [6] (iStr (cVar 3)) (.nm 6) (tB (c2 (oInN false) (cVar 6) (cVar 1))) (cVar 6)))
  (sIf (tB (c2 oNe (cVar 5) (cLst aNil))) (sPut 2 (c2 oFind (cStr (cVar 1)) (cIdx (cVar 5) (cK (.int 0)))) (c2 oAdd (cOIdx 2 (c2 oFind (cStr (cVar 1)) (cIdx (cVar 5) (cK (.int 0))))) (cVar 4))) sNop))) I (ps.map encP) 0
    [some (.v (.tup (ps.map encP))), some (.v (.str z)), some (.own (.lst (z.map fun x => D.int 0))), none, none, none, none] m ⟨rfl, none, none, none, rfl⟩ ?_
  · obtain ⟨r', m', f5, rfl, x3, x4, x5, rfl⟩ := hrun
    rw [List.length_map, Nat.zero_add, List.take_length] at f5
    unfold f__law_counts
    rw [fn_ev (show [D.tup (ps.map encP), D.str z].length = 2 from rfl), hs, c__law_counts.eq_1]
    simp only [ev_bd, ev_pu, ev_some, ev_var, ev_K, ev_c1, ev_c2, ev_tB, ev_tAnd, ev_tOr, ev_tNot, ev_And, ev_Or, ev_Not, ev_If, ev_chain, ev_nil, ev_cons, ev_tup, ev_lst, ev_idx2, idxA_l, idxA_t, idxA_s, idxA_a, idxA_e0, idxA_e1, ev_call, ev_ap, ev_cut, ev_part0, ev_part1, ev_str, ev_tgt, ev_iLst, ev_iTup, ev_iStr, ev_iRng, ev_nop, ev_seq, ev_st, ev_set, ev_new, ev_sTgt, ev_par, ev_sIf, ev_ret, ev_do, ev_raise, ev_for, ev_app, ev_iOwn, ev_enum, ev_oidx, ev_put, ev_yes, lt_len0, lt_lenS, asg_nm, asg_tp, opt_bind_some, len_two, len_one, len_zero, List.getElem?_cons_zero, List.getElem?_cons_succ, List.set_cons_zero, List.set_cons_succ, ↓reduceIte, Bool.false_eq_true, Bool.not_true, Bool.not_false, sl, ro, oLen_s, rep_zero z hzl, f5]
  · intro j d r m' hd hI
    obtain ⟨rfl, x3, x4, x5, rfl⟩ := hI
    rw [List.getElem?_map] at hd
    obtain ⟨p, hpj, rfl⟩ := Option.map_eq_some_iff.mp hd
    have hpm : p ∈ ps := List.mem_of_getElem? hpj
    have htk : ps.take (0 + j + 1) = ps.take j ++ [p] := by
      rw [Nat.zero_add, List.take_succ, hpj]
      rfl
    rw [Nat.zero_add]
    have hlc := fun x5 => left_run z p.1 6 (iStr (cVar 3)) (tB (c2 (oInN false) (cVar 6) (cVar 1))) [some (.v (.tup (ps.map encP))), some (.v (.str z)), some (.own (.lst (z.map fun x => D.int (cnt z (ps.take j) x)))), some (.v (.str p.1)), some (.v (.int p.2)), x5, none] m' (by simp only [ev_bd, ev_pu, ev_some, ev_var, ev_K, ev_c1, ev_c2, ev_tB, ev_tAnd, ev_tOr, ev_tNot, ev_And, ev_Or, ev_Not, ev_If, ev_chain, ev_nil, ev_cons, ev_tup, ev_lst, ev_idx2, idxA_l, idxA_t, idxA_s, idxA_a, idxA_e0, idxA_e1, ev_call, ev_ap, ev_cut, ev_part0, ev_part1, ev_str, ev_tgt, ev_iLst, ev_iTup, ev_iStr, ev_iRng, ev_nop, ev_seq, ev_st, ev_set, ev_new, ev_sTgt, ev_par, ev_sIf, ev_ret, ev_do, ev_raise, ev_for, ev_app, ev_iOwn, ev_enum, ev_oidx, ev_put, ev_yes, lt_len0, lt_lenS, asg_nm, asg_tp, opt_bind_some, len_two, len_one, len_zero, List.getElem?_cons_zero, List.getElem?_cons_succ, List.set_cons_zero, List.set_cons_succ, ↓reduceIte, Bool.false_eq_true, Bool.not_true, Bool.not_false, sl, ro]) (fun x => ⟨[some (.v (.tup (ps.map encP))), some (.v (.str z)), some (.own (.lst (z.map fun x => D.int (cnt z (ps.take j) x)))), some (.v (.str p.1)), some (.v (.int p.2)), x5, some (.v (.str [x]))], rfl, rfl, by simp only [ev_bd, ev_pu, ev_some, ev_var, ev_K, ev_c1, ev_c2, ev_tB, ev_tAnd, ev_tOr, ev_tNot, ev_And, ev_Or, ev_Not, ev_If, ev_chain, ev_nil, ev_cons, ev_tup, ev_lst, ev_idx2, idxA_l, idxA_t, idxA_s, idxA_a, idxA_e0, idxA_e1, ev_call, ev_ap, ev_cut, ev_part0, ev_part1, ev_str, ev_tgt, ev_iLst, ev_iTup, ev_iStr, ev_iRng, ev_nop, ev_seq, ev_st, ev_set, ev_new, ev_sTgt, ev_par, ev_sIf, ev_ret, ev_do, ev_raise, ev_for, ev_app, ev_iOwn, ev_enum, ev_oidx, ev_put, ev_yes, lt_len0, lt_lenS, asg_nm, asg_tp, opt_bind_some, len_two, len_one, len_zero, List.getElem?_cons_zero, List.getElem?_cons_succ, List.set_cons_zero, List.set_cons_succ, ↓reduceIte, Bool.false_eq_true, Bool.not_true, Bool.not_false, sl, ro, in_sign], by simp only [ev_bd, ev_pu, ev_some, ev_var, ev_K, ev_c1, ev_c2, ev_tB, ev_tAnd, ev_tOr, ev_tNot, ev_And, ev_Or, ev_Not, ev_If, ev_chain, ev_nil, ev_cons, ev_tup, ev_lst, ev_idx2, idxA_l, idxA_t, idxA_s, idxA_a, idxA_e0, idxA_e1, ev_call, ev_ap, ev_cut, ev_part0, ev_part1, ev_str, ev_tgt, ev_iLst, ev_iTup, ev_iStr, ev_iRng, ev_nop, ev_seq, ev_st, ev_set, ev_new, ev_sTgt, ev_par, ev_sIf, ev_ret, ev_do, ev_raise, ev_for, ev_app, ev_iOwn, ev_enum, ev_oidx, ev_put, ev_yes, lt_len0, lt_lenS, asg_nm, asg_tp, opt_bind_some, len_two, len_one, len_zero, List.getElem?_cons_zero, List.getElem?_cons_succ, List.set_cons_zero, List.set_cons_succ, ↓reduceIte, Bool.false_eq_true, Bool.not_true, Bool.not_false, sl, ro]⟩)
    have hfl : (p.1.filter fun c => decide (c ∈ z)).length ≤ 1000 := Nat.le_trans (List.length_filter_le _ _) (hp p hpm)
    have hne := ne_nil (p.1.filter fun c => decide (c ∈ z)) hfl
    cases hf : p.1.filter (fun c => decide (c ∈ z)) with
    | nil =>
      rw [hf] at hlc hne
      refine ⟨[some (.v (.tup (ps.map encP))), some (.v (.str z)), some (.own (.lst (z.map fun x => D.int (cnt z (ps.take j) x)))), some (.v (.str p.1)), some (.v (.int p.2)), x5, none], [some (.v (.tup (ps.map encP))), some (.v (.str z)), some (.own (.lst (z.map fun x => D.int (cnt z (ps.take j) x)))), some (.v (.str p.1)), some (.v (.int p.2)), some (.v (.lst (sgn []))), none], m', rfl, ?_, rfl, some (.v (.str p.1)), some (.v (.int p.2)), some (.v (.lst (sgn []))), ?_⟩
      · simp only [ev_bd, ev_pu, ev_some, ev_var, ev_K, ev_c1, ev_c2, ev_tB, ev_tAnd, ev_tOr, ev_tNot, ev_And, ev_Or, ev_Not, ev_If, ev_chain, ev_nil, ev_cons, ev_tup, ev_lst, ev_idx2, idxA_l, idxA_t, idxA_s, idxA_a, idxA_e0, idxA_e1, ev_call, ev_ap, ev_cut, ev_part0, ev_part1, ev_str, ev_tgt, ev_iLst, ev_iTup, ev_iStr, ev_iRng, ev_nop, ev_seq, ev_st, ev_set, ev_new, ev_sTgt, ev_par, ev_sIf, ev_ret, ev_do, ev_raise, ev_for, ev_app, ev_iOwn, ev_enum, ev_oidx, ev_put, ev_yes, lt_len0, lt_lenS, asg_nm, asg_tp, opt_bind_some, len_two, len_one, len_zero, List.getElem?_cons_zero, List.getElem?_cons_succ, List.set_cons_zero, List.set_cons_succ, ↓reduceIte, Bool.false_eq_true, Bool.not_true, Bool.not_false, sl, ro, hlc, hne, List.isEmpty_nil]
      · rw [show j + 1 = 0 + j + 1 by omega, htk]
        have : ∀ x, cnt z (ps.take j ++ [p]) x = cnt z (ps.take j) x := fun x => by
          rw [cnt_snoc]
          have : firstOf z p.1 = none := by unfold firstOf; rw [hf]; rfl
          rw [this]
          simp
        simp only [this]
    | cons c0 rest =>
      rw [hf] at hlc hne
      have hfo : firstOf z p.1 = some c0 := by unfold firstOf; rw [hf]; rfl
      have hc0 : c0 ∈ z := (first_mem hfo).1
      have hl : z.idxOf c0 < z.length := List.idxOf_lt_length_of_mem hc0
      have hat : oIdx (.lst (z.map fun x => D.int (cnt z (ps.take j) x))) (.int (z.idxOf c0)) = some (.int (cnt z (ps.take j) c0)) := by
        refine atI_ok ?_
        rw [List.getElem?_map, List.getElem?_eq_getElem hl]
        simp
      have hix : ixN (z.map fun x => D.int (cnt z (ps.take j) x)).length (z.idxOf c0 : Nat) = some (z.idxOf c0) := ixN_ok (by rw [List.length_map]; exact hl)
      refine ⟨[some (.v (.tup (ps.map encP))), some (.v (.str z)), some (.own (.lst (z.map fun x => D.int (cnt z (ps.take j) x)))), some (.v (.str p.1)), some (.v (.int p.2)), x5, none], [some (.v (.tup (ps.map encP))), some (.v (.str z)), some (.own (.lst (z.map fun x => D.int (if x = c0 then cnt z (ps.take j) x + p.2 else cnt z (ps.take j) x)))), some (.v (.str p.1)), some (.v (.int p.2)), some (.v (.lst (sgn (c0 :: rest)))), none], m', rfl, ?_, rfl, some (.v (.str p.1)), some (.v (.int p.2)), some (.v (.lst (sgn (c0 :: rest)))), ?_⟩
      · simp only [ev_bd, ev_pu, ev_some, ev_var, ev_K, ev_c1, ev_c2, ev_tB, ev_tAnd, ev_tOr, ev_tNot, ev_And, ev_Or, ev_Not, ev_If, ev_chain, ev_nil, ev_cons, ev_tup, ev_lst, ev_idx2, idxA_l, idxA_t, idxA_s, idxA_a, idxA_e0, idxA_e1, ev_call, ev_ap, ev_cut, ev_part0, ev_part1, ev_str, ev_tgt, ev_iLst, ev_iTup, ev_iStr, ev_iRng, ev_nop, ev_seq, ev_st, ev_set, ev_new, ev_sTgt, ev_par, ev_sIf, ev_ret, ev_do, ev_raise, ev_for, ev_app, ev_iOwn, ev_enum, ev_oidx, ev_put, ev_yes, lt_len0, lt_lenS, asg_nm, asg_tp, opt_bind_some, len_two, len_one, len_zero, List.getElem?_cons_zero, List.getElem?_cons_succ, List.set_cons_zero, List.set_cons_succ, ↓reduceIte, Bool.false_eq_true, Bool.not_true, Bool.not_false, sl, ro, hlc, hne, List.isEmpty_cons, find_ok z c0 hc0, idx_first (z := z) (b := z), hat, oAdd_i, hix, set_idx hz (cnt z (ps.take j)) hc0 p.2]
      · rw [show j + 1 = 0 + j + 1 by omega, htk]
        have : ∀ x, (if x = c0 then cnt z (ps.take j) x + p.2 else cnt z (ps.take j) x) = cnt z (ps.take j ++ [p]) x := fun x => by
          rw [cnt_snoc, hfo]
          by_cases e : x = c0
          · subst e; simp
          · have : ¬ (some c0 = some x) := fun q => e (by cases q; rfl)
            simp [e, this]
        simp only [this]
end Pu

namespace Pu
theorem cut_to {A : Type} (xs : List A) (v : Int) (h : 0 ≤ v) : cut xs none (some v) = xs.take v.toNat := by
  unfold cut sIx
  dsimp only
  rw [if_neg (by omega), List.drop_zero, Nat.sub_zero]
  rcases Nat.le_total v.toNat xs.length with q | q
  · rw [Nat.min_eq_left q]
  · rw [Nat.min_eq_right q, List.take_length, List.take_of_length_le q]
theorem cut_from {A : Type} (xs : List A) (v : Int) (h : 0 ≤ v) : cut xs (some v) none = xs.drop v.toNat := by
  unfold cut sIx
  dsimp only
  rw [if_neg (by omega)]
  rcases Nat.le_total v.toNat xs.length with q | q
  · rw [Nat.min_eq_left q, List.take_of_length_le (by rw [List.length_drop]; omega)]
  · rw [Nat.min_eq_right q, List.drop_eq_nil_of_le (Nat.le_refl _), List.drop_eq_nil_of_le q, List.take_nil]
theorem cutS_to (z : List Nat) (v : Int) (h : 0 ≤ v) : oCut (.str z) none (some v) = some (.str (z.take v.toNat)) := by
  show some (D.str (cut z none (some v))) = _
  rw [cut_to z v h]
theorem cutS_from (z : List Nat) (v : Int) (h : 0 ≤ v) : oCut (.str z) (some v) none = some (.str (z.drop v.toNat)) := by
  show some (D.str (cut z (some v) none)) = _
  rw [cut_from z v h]
theorem add_s (x y : List Nat) (h : x.length + y.length ≤ LN) : oAdd (.str x) (.str y) = some (.str (x ++ y)) := if_pos h
theorem enum_mem : ∀ {ds : List D} {k : Nat} {d : D}, d ∈ enumFrom k ds → ∃ j x, ds[j]? = some x ∧ d = .tup [.int ((k + j : Nat) : Int), x]
  | x :: ds, k, d, h => by
    unfold enumFrom at h
    rcases List.mem_cons.mp h with e | h
    · exact ⟨0, x, rfl, e⟩
    · obtain ⟨j, y, h1, h2⟩ := enum_mem h
      exact ⟨j + 1, y, by simpa using h1, by rw [h2, show k + (j + 1) = k + 1 + j by omega]⟩
theorem all_true {α : Type} (xs : List α) : oAll (.lst (xs.map fun _ => D.bl true)) = some (.bl true) := by
  show (blsD (xs.map fun _ => D.bl true)).map _ = _
  have h : blsD (xs.map fun _ => D.bl true) = some (xs.map fun _ => true) := by
    induction xs with
    | nil => rfl
    | cons x xs ih => simp [blsD, ih]
  rw [h]
  simp
theorem frz_nil : frz [] = [] := Eq.trans rfl rfl
theorem frz_cons (x : Option Sl) (r : Rho) : frz (x :: r) = Option.map frzS x :: frz r := Eq.trans rfl rfl
theorem frz_v (d : D) : Option.map frzS (some (.v d)) = some (.v d) := Eq.trans rfl rfl
theorem frz_o (d : D) : Option.map frzS (some (.own d)) = some (.v d) := Eq.trans rfl rfl
theorem frz_none : Option.map frzS none = none := Eq.trans rfl rfl
theorem al_iff {b z : List Nat} : al b z = true ↔ b ≠ [] ∧ (∀ c ∈ b, c ∈ z) ∧ b.Nodup := by
  unfold al
  simp only [Bool.and_eq_true, decide_eq_true_eq, List.all_eq_true, Bool.not_eq_true', List.isEmpty_eq_false_iff, and_assoc]
theorem letn_nd (n : Nat) : (LET.take n).Nodup := List.Nodup.sublist (List.take_sublist _ _) (by decide)
theorem letn_ne {n : Nat} (h : 2 ≤ n) : LET.take n ≠ [] := by
  intro z
  have := congrArg List.length z
  rw [List.length_take] at this
  simp [LET] at this
  omega
theorem nd_rev {α : Type} {z : List α} (h : z.Nodup) : z.reverse.Nodup := List.pairwise_reverse.mpr (h.imp fun h e => h e.symm)
theorem ge_i (i j : Int) : oGe (.int i) (.int j) = some (.bl (decide (j ≤ i))) := Eq.trans rfl rfl
theorem Vot.len5 {n : Nat} {ps : List (List Nat × Nat)} (h : Vot n ps) : ∀ p ∈ ps, p.1.length ≤ 1000 := fun p hp => by
  have := (h.bal p hp).1.len h.n5
  omega
theorem Vot.some_in {n : Nat} {ps : List (List Nat × Nat)} (h : Vot n ps) : ∀ p ∈ ps, ∃ c ∈ p.1, c ∈ LET.take n := fun p hp => by
  have b := (h.bal p hp).1
  cases e : p.1 with
  | nil => exact absurd e b.ne
  | cons c r =>
    refine ⟨c, List.mem_cons_self, b.sub c ?_⟩
    rw [e]
    exact List.mem_cons_self
end Pu

/-! tokens only grow -/
namespace Tk
open PySem
theorem runs_up {M : Model} {Γ : Ctx} {p : Pos} {t : Sem Fin} {fs : List Frame} {s : Shared} {e : End} {s' : Shared} (h : Runs M Γ p t fs s e s') : s.toks ≤ s'.toks := by
  induction h
  case fresh ih => exact Nat.le_trans (Nat.le_succ _) ih
  all_goals first
    | exact Nat.le_refl _
    | assumption
    | (rename_i a b; exact Nat.le_trans a b)
    | (rename_i a b c; exact Nat.le_trans a c)
    | (rename_i a b c; exact Nat.le_trans b c)
theorem wakes_up {M : Model} {Γ : Ctx} {p : Pos} {g : Nat} {r : Resume} {s : Shared} {res : GenResult} {s' : Shared} (h : Wakes M Γ p g r s res s') : s.toks ≤ s'.toks := by
  unfold Wakes at h
  split at h
  · exact h.elim
  · split at h
    · obtain ⟨e, s1, h1, _, _, rfl⟩ := h
      exact (runs_up h1 : (s.setGen g .running).toks ≤ s1.toks)
    · rw [h.2]; exact Nat.le_refl _
    · rw [h.2]; exact Nat.le_refl _
  · obtain ⟨e, s1, h1, _, _, rfl⟩ := h
    exact (runs_up h1 : (s.setGen g .running).toks ≤ s1.toks)
  all_goals (rw [h.2]; exact Nat.le_refl _)
theorem wp_up {α : Type} {M : Model} {Γ : Ctx} {n : Nat} (t : Sem α) : ∀ {Q : α → Pos → Shared → Prop} {E : Value → Pos → Shared → Prop} {p : Pos} {s : Shared}, n ≤ s.toks → Sem.wp M Γ t Q E p s →
    Sem.wp M Γ t (fun a p' s' => n ≤ s'.toks ∧ Q a p' s') (fun e p' s' => n ≤ s'.toks ∧ E e p' s') p s := by
  induction t with
  | pure a => intro Q E p s hn h; exact ⟨hn, h⟩
  | raise e => intro Q E p s hn h; exact ⟨hn, h⟩
  | load a part k ih =>
    intro Q E p s hn h
    rw [Sem.wp_load] at h ⊢
    obtain ⟨o, h1, h2⟩ := h
    exact ⟨o, h1, ih o hn h2⟩
  | update a part f k ih =>
    intro Q E p s hn h
    rw [Sem.wp_update] at h ⊢
    exact ⟨h.1, ih () hn h.2⟩
  | fresh k ih =>
    intro Q E p s hn h
    rw [Sem.wp_fresh] at h ⊢
    exact ih _ (Nat.le_succ_of_le hn) h
  | choose src m k ih =>
    intro Q E p s hn h
    rw [Sem.wp_choose] at h ⊢
    exact ⟨h.1, ih _ hn h.2⟩
  | call c hd g l k ih =>
    intro Q E p s hn h
    rw [Sem.wp_call] at h ⊢
    obtain ⟨r, s', h1, h2⟩ := h
    exact ⟨r, s', h1, ih r (Nat.le_trans hn (runs_up h1)) h2⟩
  | genState g k ih =>
    intro Q E p s hn h
    rw [Sem.wp_genState] at h ⊢
    obtain ⟨st, h1, h2⟩ := h
    exact ⟨st, h1, ih _ hn h2⟩
  | resume g r l k ih =>
    intro Q E p s hn h
    rw [Sem.wp_resume] at h ⊢
    obtain ⟨res, s', h1, h2⟩ := h
    exact ⟨res, s', h1, ih res (Nat.le_trans hn (wakes_up h1)) h2⟩
  | unsupported | finish | register | yield | fork | await => intro Q E p s hn h; simp at h
  | rule tag k ih => intro Q E p s hn h; exact ih () hn h
  | «at» q k ih => intro Q E p s hn h; exact ih () hn h
  | loadIfAlive a k ih => intro Q E p s hn h; exact ih _ hn h
  | point l k ih => intro Q E p s hn h; exact ih _ hn h
  | alloc o k ih => intro Q E p s hn h; exact ih _ hn h
  | ask k ih => intro Q E p s hn h; exact ih _ hn h
  | os q l k ih => intro Q E p s hn h; exact ih _ hn h
  | handled own k ih => intro Q E p s hn h; exact ih _ hn h
  | newGen c k ih => intro Q E p s hn h; exact ih _ hn h
  | stack k ih => intro Q E p s hn h; exact ih _ hn h
  | thread k ih => intro Q E p s hn h; exact ih _ hn h
section
variable {α : Type} {M : Model} {A : Around} {E : Value → Shared → Prop} {s : Shared}
/-- whatever runs: behind it no fewer tokens -/
theorem up {t : Sem α} {Q : α → Shared → Prop} (h : wpAny M A t (fun a s' => s.toks ≤ s'.toks → Q a s') E s) : wpAny M A t Q E s := fun Γ p hΓ =>
  Sem.wp_mono M Γ t (fun _ _ _ x => x.2 x.1) (fun _ _ _ x => x.2) p s (wp_up (n := s.toks) t (Nat.le_refl _) (h Γ p hΓ))
/-- .. with it -/
theorem up' {t : Sem α} {Q : α → Shared → Prop} (h : wpAny M A t Q E s) : wpAny M A t (fun a s' => s.toks ≤ s'.toks ∧ Q a s') E s := fun Γ p hΓ =>
  Sem.wp_mono M Γ t (fun _ _ _ x => x) (fun _ _ _ x => x.2) p s (wp_up (n := s.toks) t (Nat.le_refl _) (h Γ p hΓ))
theorem upC {c : Code} {R : Result → Shared → Prop} (h : codeAny M A c R s) : codeAny M A c (fun r s' => s.toks ≤ s'.toks ∧ R r s') s := fun Γ p h1 h2 => by
  obtain ⟨r, s', h3, h4⟩ := h Γ p h1 h2
  exact ⟨r, s', h3, runs_up h3, h4⟩
end
end Tk

/-! signs are born with new tokens: a text walked, by itself and by enumerate -/
namespace Tk
open PySem
section
variable {prog : Program} {w : World} {A : Around} {E : Value → Shared → Prop} {s : Shared}
theorem nextOf_text {it : Addr} {x : Str} {t : Tok} {i c : Nat} {Q : Value → Shared → Prop} (hit : s.heap.IsStrIter it (strIterType x) x t i) (hx : x.cps[i]? = some c)
    (hQ : ∀ h', h'.IsStrIter it (strIterType x) x t (i + 1) → Heap.SameBut it s.heap h' → Q (.str ⟨#[c]⟩ s.toks) { s with heap := h', toks := s.toks + 1 }) : wpAny (model prog w) A (Builtin.SmallTypes.nextOf (.ref it)) Q E s := by
  unfold strIterType at hit hQ
  cases ha : x.cps.all (· < 128)
  · simp only [ha, Bool.false_eq_true, if_false] at hit hQ
    exact wpAny_nextOf_wide_item hit hx hQ
  · simp only [ha, if_true] at hit hQ
    exact wpAny_nextOf_ascii_item hit hx hQ
theorem next_enum {e it : Addr} {x : Str} {t : Tok} {i c : Nat} {old : Value} {Q : Option Value → Shared → Prop} (he : IsEnum s.heap e it i old) (hit : s.heap.IsStrIter it (strIterType x) x t i) (hx : x.cps[i]? = some c) (hne : e ≠ it)
    (hQ : ∀ h', IsEnumOut h' e it ((i : Int) + 1) (.str ⟨#[c]⟩ s.toks) s.heap.objs.size → h'.IsStrIter it (strIterType x) x t (i + 1) →
      h'.get? s.heap.objs.size = some { cls := .type "tuple", data := .seq #[.int i (s.toks + 1), .str ⟨#[c]⟩ s.toks] } →
      (∀ b o, b ≠ e → b ≠ it → s.heap.get? b = some o → h'.get? b = some o) → Q (some (.ref s.heap.objs.size)) { s with heap := h', toks := s.toks + 2 }) :
    wpAny (model prog w) A (pyNext (.ref e)) Q E s := by
  have hT : s.TypeIs (.ref e) "enumerate" := ⟨_, he, rfl⟩
  unfold pyNext
  refine wpAny_bind (wpAny_attempt (wpAny_callSpecial?_slot (name := Str.ofString "__next__") hT F.slot_enumerate_next (wpAny_call_entry F.slot_enumerate_next hT F.entry_enumerate_next ?_ (F.args_enumerate_next_1 _))))
  obtain ⟨hp, g, d, tk, os⟩ := s
  have hel : e < hp.objs.size := Heap.lt_size he
  have kp : ∀ {a b : Heap} {n : Addr}, Heap.SameBut n a b → ∀ x o, x ≠ n → a.get? x = some o → b.get? x = some o := fun sb x o hn q => (sb.2 x hn).trans q
  show wpAny _ _ (field (.ref e) 2 >>= _) _ _ _
  refine wpAny_bind (wpAny_field he rfl (x := .ref it) rfl (wpAny_bind (nextOf_text hit hx fun h1 i1 b1 => ?_)))
  have e1 : IsEnum h1 e it i old := (b1.2 e hne).trans he
  show wpAny _ _ (field (.ref e) 3 >>= _) _ _ ⟨h1, g, d, tk + 1, os⟩
  refine wpAny_bind (wpAny_field e1 rfl (x := rawInt i) rfl ?_)
  show wpAny _ _ (field (.ref e) 4 >>= _) _ _ ⟨h1, g, d, tk + 1, os⟩
  refine wpAny_bind (wpAny_field e1 rfl (x := .none) rfl ?_)
  show wpAny _ _ (mkInt i >>= _) _ _ ⟨h1, g, d, tk + 1, os⟩
  refine wpAny_bind (wpAny_mkInt ?_)
  show wpAny _ _ (setField (.ref e) 3 (rawInt ((i : Int) + 1)) >>= _) _ _ ⟨h1, g, d, tk + 2, os⟩
  refine wpAny_bind (wpAny_setField_rec e1 (by simp) fun h2 e2 b2 => ?_)
  have e2 : IsEnum h2 e it ((i : Int) + 1) old := e2
  have b2 : Heap.SameBut e h1 h2 := b2
  show wpAny _ _ (setField (.ref e) 4 .none >>= _) _ _ ⟨h2, g, d, tk + 2, os⟩
  refine wpAny_bind (wpAny_setField_rec e2 (by simp) fun h3 e3 b3 => ?_)
  have e3 : IsEnum h3 e it ((i : Int) + 1) old := e3
  have b3 : Heap.SameBut e h2 h3 := b3
  show wpAny _ _ (newTuple [.int i (tk + 1), .str ⟨#[c]⟩ tk] >>= _) _ _ ⟨h3, g, d, tk + 2, os⟩
  refine wpAny_bind (wpAny_newTuple ?_)
  have e4 : IsEnum (h3.push { cls := .type "tuple", data := .seq #[.int i (tk + 1), .str ⟨#[c]⟩ tk] }) e it ((i : Int) + 1) old := Heap.get?_push_of_some _ e3
  generalize g4 : h3.push { cls := .type "tuple", data := .seq #[.int i (tk + 1), .str ⟨#[c]⟩ tk] } = h4 at e4
  have hsz : h3.objs.size = hp.objs.size := by rw [b3.1, b2.1, b1.1]
  have t4 : h4.get? hp.objs.size = some { cls := .type "tuple", data := .seq #[.int i (tk + 1), .str ⟨#[c]⟩ tk] } := by rw [← g4, ← hsz]; exact Heap.get?_push_size _ rfl
  have k4 : ∀ b o, b ≠ e → b ≠ it → hp.get? b = some o → h4.get? b = some o := fun b o n1 n2 q => by
    rw [← g4]; exact Heap.get?_push_of_some _ (kp b3 b o n1 (kp b2 b o n1 (kp b1 b o n2 q)))
  have i4 : h4.IsStrIter it (strIterType x) x t (i + 1) := by
    obtain ⟨o, q1, q2⟩ := i1
    exact ⟨o, by rw [← g4]; exact Heap.get?_push_of_some _ (kp b3 it o (Ne.symm hne) (kp b2 it o (Ne.symm hne) q1)), q2⟩
  show wpAny _ _ (Builtin.SmallTypes.ownedTupleIsFree (.ref e) >>= _) _ _ ⟨h4, g, d, tk + 2, os⟩
  rw [hsz]
  clear e3 b3 e2 b2 e1 i1
  refine wpAny_bind ?_
  unfold Builtin.SmallTypes.ownedTupleIsFree
  refine wpAny_bind (wpAny_field e4 rfl (x := .none) rfl (wpAny_pure ?_))
  simp only [if_true]
  refine wpAny_bind (wpAny_rule (wpAny_bind (wpAny_field e4 rfl (x := old) rfl (wpAny_bind (wpAny_setField_rec e4 (by simp) fun h5 e5 b5 => ?_)))))
  have e5 : IsEnum h5 e it ((i : Int) + 1) (.str ⟨#[c]⟩ tk) := e5
  have b5 : Heap.SameBut e h4 h5 := b5
  show wpAny _ _ (Builtin.SmallTypes.ownedTupleHandOut (.ref e) (.ref hp.objs.size) >>= _) _ _ ⟨h5, g, d, tk + 2, os⟩
  refine wpAny_bind ?_
  unfold Builtin.SmallTypes.ownedTupleHandOut
  refine wpAny_bind (wpAny_setField_rec e5 (by simp) fun h6 e6 b6 => ?_)
  have e6 : IsEnumOut h6 e it ((i : Int) + 1) (.str ⟨#[c]⟩ tk) hp.objs.size := e6
  have b6 : Heap.SameBut e h5 h6 := b6
  refine wpAny_setField_rec e6 (by simp) fun h7 e7 b7 => ?_
  have e7 : IsEnumOut h7 e it ((i : Int) + 1) (.str ⟨#[c]⟩ tk) hp.objs.size := e7
  have b7 : Heap.SameBut e h6 h7 := b7
  have k7 : ∀ b o, b ≠ e → h4.get? b = some o → h7.get? b = some o := fun b o n q => kp b7 b o n (kp b6 b o n (kp b5 b o n q))
  refine wpAny_bind (wpAny_letGo (wpAny_pure ⟨_, rfl, wpAny_pure (hQ h7 e7 ?_ (k7 _ _ (Nat.ne_of_gt hel) t4) fun b o n1 n2 q => k7 b o n1 (k4 b o n1 n2 q))⟩))
  obtain ⟨o, q1, q2⟩ := i4
  exact ⟨o, k7 it o (Ne.symm hne) q1, q2⟩
end
end Tk

/-! one run: two words about it are both true of it -/
namespace Tk
open PySem
theorem runs_det {M : Model} {Γ : Ctx} {p : Pos} {t : Sem Fin} {fs : List Frame} {s : Shared} {e : End} {s' : Shared} (h : Runs M Γ p t fs s e s') : ∀ {e2 : End} {s2 : Shared}, Runs M Γ p t fs s e2 s2 → e = e2 ∧ s' = s2 := by
  induction h with
  | done => intro e2 s2 h2; cases h2; exact ⟨rfl, rfl⟩
  | raise => intro e2 s2 h2; cases h2; exact ⟨rfl, rfl⟩
  | again _ _ ih => intro e2 s2 h2; cases h2; rename_i q; exact ih q
  | rule _ ih => intro e2 s2 h2; cases h2; rename_i q; exact ih q
  | «at» _ ih => intro e2 s2 h2; cases h2; rename_i q; exact ih q
  | load ho _ ih =>
    intro e2 s2 h2
    cases h2
    rename_i o2 ho2 q
    rw [ho] at ho2
    cases ho2
    exact ih q
  | update _ _ ih => intro e2 s2 h2; cases h2; rename_i q; exact ih q
  | loadIfAlive _ ih => intro e2 s2 h2; cases h2; rename_i q; exact ih q
  | point _ ih => intro e2 s2 h2; cases h2; rename_i q; exact ih q
  | alloc _ ih => intro e2 s2 h2; cases h2; rename_i q; exact ih q
  | fresh _ ih => intro e2 s2 h2; cases h2; rename_i q; exact ih q
  | ask _ ih => intro e2 s2 h2; cases h2; rename_i q; exact ih q
  | choose _ _ ih => intro e2 s2 h2; cases h2; rename_i q; exact ih q
  | os _ ih => intro e2 s2 h2; cases h2; rename_i q; exact ih q
  | handled _ ih => intro e2 s2 h2; cases h2; rename_i q; exact ih q
  | genState hg _ ih =>
    intro e2 s2 h2
    cases h2
    rename_i st2 hg2 q
    rw [hg] at hg2
    cases hg2
    exact ih q
  | stack _ ih => intro e2 s2 h2; cases h2; rename_i q; exact ih q
  | thread _ ih => intro e2 s2 h2; cases h2; rename_i q; exact ih q
  | newGen _ ih => intro e2 s2 h2; cases h2; rename_i q; exact ih q
  | call _ _ ih1 ih2 =>
    intro e2 s2 h2
    cases h2 with
    | call q1 q2 =>
      obtain ⟨a, b⟩ := ih1 q1
      cases a
      subst b
      exact ih2 q2
    | callSusp q1 =>
      obtain ⟨a, b⟩ := ih1 q1
      cases a
  | callSusp _ ih =>
    intro e2 s2 h2
    cases h2 with
    | call q1 q2 =>
      obtain ⟨a, b⟩ := ih q1
      cases a
    | callSusp q1 =>
      obtain ⟨a, b⟩ := ih q1
      cases a
      exact ⟨rfl, b⟩
  | yield => intro e2 s2 h2; cases h2; exact ⟨rfl, rfl⟩
  | resumeFresh hg _ _ _ ih1 ih2 =>
    intro e2 s2 h2
    cases h2 with
    | resumeFresh hg2 q1 _ q2 =>
      rw [hg] at hg2; cases hg2
      obtain ⟨a, b⟩ := ih1 q1
      subst a b
      exact ih2 q2
    | resumeSuspended hg2 => rw [hg] at hg2; cases hg2
    | resumeJustStarted hg2 hv => exact absurd rfl hv
    | resumeRunning hg2 => rw [hg] at hg2; cases hg2
    | resumeFinished hg2 => rw [hg] at hg2; cases hg2
  | resumeSuspended hg _ _ _ ih1 ih2 =>
    intro e2 s2 h2
    cases h2 with
    | resumeFresh hg2 => rw [hg] at hg2; cases hg2
    | resumeSuspended hg2 q1 _ q2 =>
      rw [hg] at hg2; cases hg2
      obtain ⟨a, b⟩ := ih1 q1
      subst a b
      exact ih2 q2
    | resumeJustStarted hg2 => rw [hg] at hg2; cases hg2
    | resumeThrowFresh hg2 => rw [hg] at hg2; cases hg2
    | resumeRunning hg2 => rw [hg] at hg2; cases hg2
    | resumeFinished hg2 => rw [hg] at hg2; cases hg2
  | resumeJustStarted hg hv _ ih =>
    intro e2 s2 h2
    cases h2 with
    | resumeFresh => exact absurd rfl hv
    | resumeSuspended hg2 => rw [hg] at hg2; cases hg2
    | resumeJustStarted hg2 _ q => exact ih q
    | resumeRunning hg2 => rw [hg] at hg2; cases hg2
    | resumeFinished hg2 => rw [hg] at hg2; cases hg2
  | resumeThrowFresh hg _ ih =>
    intro e2 s2 h2
    cases h2 with
    | resumeSuspended hg2 => rw [hg] at hg2; cases hg2
    | resumeThrowFresh hg2 q => exact ih q
    | resumeRunning hg2 => rw [hg] at hg2; cases hg2
    | resumeFinished hg2 => rw [hg] at hg2; cases hg2
  | resumeRunning hg _ ih =>
    intro e2 s2 h2
    cases h2 with
    | resumeFresh hg2 => rw [hg] at hg2; cases hg2
    | resumeSuspended hg2 => rw [hg] at hg2; cases hg2
    | resumeJustStarted hg2 => rw [hg] at hg2; cases hg2
    | resumeThrowFresh hg2 => rw [hg] at hg2; cases hg2
    | resumeRunning hg2 q => exact ih q
    | resumeFinished hg2 => rw [hg] at hg2; cases hg2
  | resumeFinished hg _ ih =>
    intro e2 s2 h2
    cases h2 with
    | resumeFresh hg2 => rw [hg] at hg2; cases hg2
    | resumeSuspended hg2 => rw [hg] at hg2; cases hg2
    | resumeJustStarted hg2 => rw [hg] at hg2; cases hg2
    | resumeThrowFresh hg2 => rw [hg] at hg2; cases hg2
    | resumeRunning hg2 => rw [hg] at hg2; cases hg2
    | resumeFinished hg2 q => exact ih q
  | segRet _ _ ih1 ih2 =>
    intro e2 s2 h2
    cases h2 with
    | segRet q1 q2 =>
      obtain ⟨a, b⟩ := ih1 q1
      cases a
      subst b
      exact ih2 q2
    | segSuspOut _ q1 =>
      obtain ⟨a, b⟩ := ih1 q1
      cases a
    | segSuspGen _ q1 =>
      obtain ⟨a, b⟩ := ih1 q1
      cases a
  | segGen _ _ ih1 ih2 =>
    intro e2 s2 h2
    cases h2 with
    | segGen q1 q2 =>
      obtain ⟨a, b⟩ := ih1 q1
      cases a
      subst b
      exact ih2 q2
    | segSuspOut _ q1 =>
      obtain ⟨a, b⟩ := ih1 q1
      cases a
    | segSuspGen _ q1 =>
      obtain ⟨a, b⟩ := ih1 q1
      cases a
  | segSuspOut hsp _ ih =>
    intro e2 s2 h2
    cases h2 with
    | segRet q1 q2 =>
      obtain ⟨a, b⟩ := ih q1
      cases a
    | segGen q1 q2 =>
      obtain ⟨a, b⟩ := ih q1
      cases a
    | segSuspOut hsp2 q1 =>
      obtain ⟨a, b⟩ := ih q1
      cases a
      exact ⟨rfl, b⟩
    | segSuspGen hsp2 q1 => rw [hsp] at hsp2; cases hsp2
  | segSuspGen hsp _ _ _ ih1 ih2 =>
    intro e2 s2 h2
    cases h2 with
    | segRet q1 q2 =>
      obtain ⟨a, b⟩ := ih1 q1
      cases a
    | segGen q1 q2 =>
      obtain ⟨a, b⟩ := ih1 q1
      cases a
    | segSuspOut hsp2 q1 => rw [hsp] at hsp2; cases hsp2
    | segSuspGen hsp2 q1 _ q2 =>
      rw [hsp] at hsp2; cases hsp2
      obtain ⟨a, b⟩ := ih1 q1
      cases a
      subst b
      exact ih2 q2
theorem wakes_det {M : Model} {Γ : Ctx} {p : Pos} {g : Nat} {r : Resume} {s : Shared} {a b : GenResult} {s1 s2 : Shared} (h : Wakes M Γ p g r s a s1) (h' : Wakes M Γ p g r s b s2) : a = b ∧ s1 = s2 := by
  unfold Wakes at h h'
  split at h
  · exact h.elim
  · rename_i c hg
    simp only [hg] at h'
    split at h
    · obtain ⟨e, u, h1, _, rfl, rfl⟩ := h
      obtain ⟨e', u', h1', _, rfl, rfl⟩ := h'
      obtain ⟨rfl, rfl⟩ := runs_det h1 h1'
      exact ⟨rfl, rfl⟩
    · rename_i v hv
      have h' : b = .justStarted ∧ s2 = s := by
        cases v <;> first | exact h' | exact absurd rfl hv
      exact ⟨h.1.trans h'.1.symm, h.2.trans h'.2.symm⟩
    · exact ⟨h.1.trans h'.1.symm, h.2.trans h'.2.symm⟩
  · rename_i hg
    simp only [hg] at h'
    obtain ⟨e, u, h1, _, rfl, rfl⟩ := h
    obtain ⟨e', u', h1', _, rfl, rfl⟩ := h'
    obtain ⟨rfl, rfl⟩ := runs_det h1 h1'
    exact ⟨rfl, rfl⟩
  · rename_i hg
    simp only [hg] at h'
    exact ⟨h.1.trans h'.1.symm, h.2.trans h'.2.symm⟩
  · rename_i hg
    simp only [hg] at h'
    exact ⟨h.1.trans h'.1.symm, h.2.trans h'.2.symm⟩
theorem wp_and {α : Type} {M : Model} {Γ : Ctx} (t : Sem α) : ∀ {Q Q' : α → Pos → Shared → Prop} {E E' : Value → Pos → Shared → Prop} {p : Pos} {s : Shared}, Sem.wp M Γ t Q E p s → Sem.wp M Γ t Q' E' p s →
    Sem.wp M Γ t (fun a p' s' => Q a p' s' ∧ Q' a p' s') (fun e p' s' => E e p' s' ∧ E' e p' s') p s := by
  induction t with
  | pure a => intro Q Q' E E' p s h h'; exact ⟨h, h'⟩
  | raise e => intro Q Q' E E' p s h h'; exact ⟨h, h'⟩
  | load a part k ih =>
    intro Q Q' E E' p s h h'
    rw [Sem.wp_load] at h h' ⊢
    obtain ⟨o, h1, h2⟩ := h
    obtain ⟨o', h1', h2'⟩ := h'
    rw [h1] at h1'
    cases h1'
    exact ⟨o, h1, ih o h2 h2'⟩
  | update a part f k ih =>
    intro Q Q' E E' p s h h'
    rw [Sem.wp_update] at h h' ⊢
    exact ⟨h.1, ih () h.2 h'.2⟩
  | fresh k ih => intro Q Q' E E' p s h h'; exact ih _ h h'
  | choose src m k ih =>
    intro Q Q' E E' p s h h'
    rw [Sem.wp_choose] at h h' ⊢
    exact ⟨h.1, ih _ h.2 h'.2⟩
  | call c hd g l k ih =>
    intro Q Q' E E' p s h h'
    rw [Sem.wp_call] at h h' ⊢
    obtain ⟨r, s', h1, h2⟩ := h
    obtain ⟨r', s2', h1', h2'⟩ := h'
    obtain ⟨a, b⟩ := runs_det h1 h1'
    cases a
    subst b
    exact ⟨r, s', h1, ih r h2 h2'⟩
  | genState g k ih =>
    intro Q Q' E E' p s h h'
    rw [Sem.wp_genState] at h h' ⊢
    obtain ⟨st, h1, h2⟩ := h
    obtain ⟨st', h1', h2'⟩ := h'
    rw [h1] at h1'
    cases h1'
    exact ⟨st, h1, ih _ h2 h2'⟩
  | resume g r l k ih =>
    intro Q Q' E E' p s h h'
    rw [Sem.wp_resume] at h h' ⊢
    obtain ⟨res, s', h1, h2⟩ := h
    obtain ⟨res', s2', h1', h2'⟩ := h'
    obtain ⟨a, b⟩ := wakes_det h1 h1'
    subst a b
    exact ⟨res, s', h1, ih res h2 h2'⟩
  | unsupported | finish | register | yield | fork | await => intro Q Q' E E' p s h h'; simp at h
  | rule tag k ih => intro Q Q' E E' p s h h'; exact ih () h h'
  | «at» q k ih => intro Q Q' E E' p s h h'; exact ih () h h'
  | loadIfAlive a k ih => intro Q Q' E E' p s h h'; exact ih _ h h'
  | point l k ih => intro Q Q' E E' p s h h'; exact ih _ h h'
  | alloc o k ih => intro Q Q' E E' p s h h'; exact ih _ h h'
  | ask k ih => intro Q Q' E E' p s h h'; exact ih _ h h'
  | os q l k ih => intro Q Q' E E' p s h h'; exact ih _ h h'
  | handled own k ih => intro Q Q' E E' p s h h'; exact ih _ h h'
  | newGen c k ih => intro Q Q' E E' p s h h'; exact ih _ h h'
  | stack k ih => intro Q Q' E E' p s h h'; exact ih _ h h'
  | thread k ih => intro Q Q' E E' p s h h'; exact ih _ h h'
section
variable {α : Type} {M : Model} {A : Around} {E E' : Value → Shared → Prop} {s : Shared}
theorem both {t : Sem α} {Q Q' : α → Shared → Prop} (h : wpAny M A t Q E s) (h' : wpAny M A t Q' E' s) : wpAny M A t (fun a s' => Q a s' ∧ Q' a s') (fun e s' => E e s' ∧ E' e s') s := fun Γ p hΓ => wp_and t (h Γ p hΓ) (h' Γ p hΓ)
theorem bothC {c : Code} {R R' : Result → Shared → Prop} (h : codeAny M A c R s) (h' : codeAny M A c R' s) : codeAny M A c (fun r s' => R r s' ∧ R' r s') s := fun Γ p h1 h2 => by
  obtain ⟨r, s', h3, h4⟩ := h Γ p h1 h2
  obtain ⟨r', s2', h3', h4'⟩ := h' Γ p h1 h2
  obtain ⟨a, b⟩ := runs_det h3 h3'
  cases a
  subst b
  exact ⟨r, s', h3, h4, h4'⟩
end
end Tk

/-! [letter for place, letter in enumerate(some) if own[place] == min(own)], with the letters' tokens -/
namespace Tk
open PySem PySem.Spec PyProof.Rows L2
/-- a text with a token that was given out -/
def GT (s : Shared) (u : Value) : Prop := ∃ x t, u = Value.str x t ∧ t ≠ 0 ∧ t < s.toks
theorem GT.up {s s' : Shared} {u : Value} (h : GT s u) (k : s.toks ≤ s'.toks) : GT s' u := by
  obtain ⟨x, t, e, n, l⟩ := h
  exact ⟨x, t, e, n, Nat.lt_of_lt_of_le l k⟩
/-- a list of such texts -/
def GL (s : Shared) (D : Addr) : Prop := ∃ (its : List Value) (n : Nat), s.heap.get? D = some { cls := .type "list", data := .seq its.toArray n } ∧ ∀ u ∈ its, GT s u
section
variable {B : Cx} {pins : List (Addr × Obj)} {σ : L2.St} {H : Hp} {s : Shared}
/-- own[place] == min(own): nothing is changed -/
theorem test_raw {io ip i : Nat} {ow pl : Str} {a : Addr} {ns : List Int} {n : Int} {p7 p8 p9 p10 p11 p12 p13 : Pos} {Q : Bool → Shared → Prop} {E : Value → Shared → Prop} (I : Inv B pins σ H s) (hc : B.calm = true)
    (hNo : B.N[io]? = some ow) (hvo : Vis B.env.scope ow) (hNp : B.N[ip]? = some pl) (hvp : Vis B.env.scope pl) (ho : σ[io]? = some (some (.ref a))) (hp : σ[ip]? = some (some (.int i))) (hq : SqL B.K H a (ns.map V.int)) (hn : ns[i]? = some n)
    (hg : Gl B "min") (hm : B.mg "min" = none)
    (fin : ∀ h' k, (∀ b o, s.heap.get? b = some o → h'.get? b = some o) → ∀ b : Bool, (b = true ↔ ∀ y ∈ ns, n ≤ y) → Q b { s with heap := h', toks := k })
    (do1 : (ow == ("__debug__" : Str)) = false) (do2 : (ow == ("__classdict__" : Str)) = false) (dp1 : (pl == ("__debug__" : Str)) = false) (dp2 : (pl == ("__classdict__" : Str)) = false) :
    wpAny (model B.prog B.w) B.A (isTrue (.Compare (.Subscript (.Name ow p7) (.Name pl p8) p9) [.Eq] [.Call (.Name "min" p10) [.Name ow p11] [] p12] p13) B.env (eval (.Compare (.Subscript (.Name ow p7) (.Name pl p8) p9) [.Eq] [.Call (.Name "min" p10) [.Name ow p11] [] p12] p13) B.env)) Q E s := by
  obtain ⟨its, rv, pl', hz⟩ := I.list hq
  have hlen := rv.length
  have hil : i < ns.length := (List.getElem?_eq_some_iff.mp hn).1
  have hn63 := line63
  rw [List.length_map] at hlen hz
  refine wpAny_isTrue_Compare1 (Subscript_ (raw_name hNo hvo I ho (fun v r => ?_) do1 do2)) (nobehind _ (by decide) (by decide))
  obtain rfl : v = Value.ref a := r
  refine raw_name hNp hvp I hp (fun v r => ?_) dp1 dp2
  obtain ⟨t, rfl⟩ := r
  obtain ⟨w, ew, rw'⟩ := rv.get (i := i) (x := V.int n) (by rw [List.getElem?_map, hn]; rfl)
  obtain ⟨tw, rfl⟩ := rw'
  refine item_listR pl'.isList (by omega) (by omega) (by simpa using ew) ?_ rfl
  refine wpAny_Call_Name_kw (ld_blt (u := .builtin "min") I hg hm (by decide +kernel) ?_ (by decide) (by decide))
  refine PyProof.Rows.callWith_builtin1 ?_ rfl rfl
  show wpAny _ _ (spliced ((false, eval (.Name ow p11) B.env) :: backTo p12 (starEach [] B.env))) _ _ s
  refine Calls.spliced_cons (raw_name hNo hvo I ho (fun v r => ?_) do1 do2)
  obtain rfl : v = Value.ref a := r
  refine Calls.spliced_nil ?_
  refine min_raw (I.ok.hd hc) pl'.isList rv.ints (by omega) fun h' tk M t' hk h1 h2 => ?_
  refine eq_int (wpAny_truthy_bool (fin h' tk hk _ ?_))
  rw [beq_iff_eq]
  constructor
  · intro e
    rw [e]
    exact h2
  · intro e
    have := e M h1
    have := h2 n (List.mem_of_getElem? hn)
    omega
end
end Tk

namespace Tk
open PySem PySem.Spec PyProof.Rows L2
section
variable {X : Cx} {pins : List (Addr × Obj)} {σ : L2.St} {H : Hp} {s : Shared} {h' : Heap}
/-- records of ours have turned, new objects may lie there -/
theorem turnedL {t' : Nat} {ch : List Addr} (I : Inv X pins σ H s) (k : ∀ b o, b ∉ ch → s.heap.get? b = some o → h'.get? b = some o) (hf : ∀ b ∈ ch, FpOk X pins H b) : Inv X pins σ H { s with heap := h', toks := t' } := by
  have nit : ∀ b u, H b = some u → b ∉ ch := fun b u e z => by
    have q := (hf b z).1
    rw [q] at e
    cases e
  refine I.step (g' := s.gens) (d' := s.drawn) (ch := ch) (fun b hb => ?_) (fun b o _ _ hc e _ => k b o hc e) (fun b o _ _ hc e _ => ⟨o.slots, k b o hc e⟩) (fun b o _ e n => n) (fun b o hc e => ⟨o, k b o hc e⟩) (fun b xs e => e) (fun b o u e => e)
    (fun b ps e => ⟨#[], by rw [e]; simp⟩) (fun m hm => ?_) (fun b u e => ?_) I.bare
  · obtain ⟨_, f1, _, f3, f4, f5⟩ := hf b hb
    exact ⟨f3, f1, f4, f5⟩
  · obtain ⟨o, es, ep, ho, r⟩ := hm
    exact ⟨o, es, ep, k _ o (fun z => (hf _ z).2.1 rfl) ho, r⟩
  · refine (I.hok b u e).stay (fun c v hc q => k c v ?_ q) (fun _ q => q) fun _ _ q => q
    rcases hc with z | z
    · rw [z]; exact nit b u e
    · exact nit c _ z
/-- a local is stored, as it is -/
theorem store_raw {A : Around} {E : Value → Shared → Prop} {i : Nat} {x : Str} {v : V} {u : Value} {Q : Unit → Shared → Prop} (I : Inv X pins σ H s) (hN : X.N.Nodup) (hi : X.N[i]? = some x) (hx : X.env.scope.names.lookup x = some .local) (r : RelV v u)
    (h : ∀ s' m, s.toks ≤ s'.toks → Inv X pins (σ.set i (some v)) H s' → s'.heap.Ns X.env.locals m → m x = some u → Q () s') : wpAny (model X.prog X.w) A (storeName X.env x u) Q E s := by
  obtain ⟨m, hn, _⟩ := I.loc
  have hcls : (X.env.scope.kind == .class || (X.env.scope.kind == .module && X.env.locals != X.env.globals)) = false := by rw [I.ok.kind]; rfl
  refine wpAny_mono (up' (both (E := fun _ _ => False) (E' := fun _ _ => False) (store_ok (Q := fun _ s' => Inv X pins (σ.set i (some v)) H s') I hN hi (.inl hx) r (fun s' I' => I') (.inr hx)) (wpAny_storeName_local (Q := fun _ s' => ∃ m', s'.heap.Ns X.env.locals m' ∧ m' x = some u) hx hn (fun h' hn' _ => ⟨_, hn', by simp⟩) hcls))) (fun _ s' q => ?_) fun _ _ q => q.1.elim
  obtain ⟨q1, q2, m', q3, q4⟩ := q
  exact h s' m' q1 q2 q3 q4
end
end Tk

namespace Tk
open PySem PySem.Spec PyProof.Rows L2
section
variable {X : Cx} {pins : List (Addr × Obj)} {σ : L2.St} {H : Hp} {s : Shared}
theorem wipe_get {σ : L2.St} {i : Nat} {x : V} : ∀ {vs : List Nat}, σ[i]? = some (some x) → i ∉ vs → (L2.wipe σ vs)[i]? = some (some x)
  | [], h, _ => h
  | v :: vs, h, n => by
    unfold L2.wipe
    rw [List.getElem?_set_ne (fun e => n (by rw [e]; exact List.mem_cons_self))]
    exact wipe_get h fun z => n (List.mem_cons_of_mem _ z)
/-- the letters of a comprehension over enumerate of a text have tokens that were given out -/
theorem comp_tok {so ow pl le : Str} {is io ip il : Nat} {z : Str} {a : Addr} {ns : List Int} {scope : Scope} {p1 p2 p3 p4 p5 p6 p7 p8 p9 p10 p11 p12 p13 pt pos : Pos} {kk : Nat}
    (hc : X.calm = true) (hN : X.N.Nodup) (I : Inv X pins σ H s) (h0 : 0 < s.toks) (ok : BlkOk X.N X.env.scope scope [(pl, ip), (le, il)])
    (hNs : X.N[is]? = some so) (hvs : Vis X.env.scope so) (hss : σ[is]? = some (some (.str z)))
    (hNo : X.N[io]? = some ow) (hso : σ[io]? = some (some (.ref a))) (hq : SqL X.K H a (ns.map V.int)) (hlen : ns.length = z.cps.size) (hzl : z.cps.size ≤ sizeLine)
    (hvo : ∀ cl C, Vis (compEnvC scope cl C X.env).scope ow) (hlp : ∀ cl C, (compEnvC scope cl C X.env).scope.names.lookup pl = some .local) (hll : ∀ cl C, (compEnvC scope cl C X.env).scope.names.lookup le = some .local)
    (hge : Gl X "enumerate") (hme : X.mg "enumerate" = none) (hgm : ∀ cl C, (compEnvC scope cl C X.env).kindOf "min" = some .globalImplicit) (hmm : X.mg "min" = none)
    (hio1 : io ≠ ip) (hio2 : io ≠ il) (hpl : ip ≠ il)
    (dd1 : (so == ("__debug__" : Str)) = false := by decide) (dd2 : (so == ("__classdict__" : Str)) = false := by decide) (do1 : (ow == ("__debug__" : Str)) = false := by decide) (do2 : (ow == ("__classdict__" : Str)) = false := by decide) (dp1 : (pl == ("__debug__" : Str)) = false := by decide) (dp2 : (pl == ("__classdict__" : Str)) = false := by decide) (dl1 : (le == ("__debug__" : Str)) = false := by decide) :
    wpAny (model X.prog X.w) X.A (eval (.ListComp (.Name le p1) [⟨.Tuple [.Name pl p2, .Name le p3] kk pt, .Call (.Name "enumerate" p4) [.Name so p5] [] p6, [.Compare (.Subscript (.Name ow p7) (.Name pl p8) p9) [.Eq] [.Call (.Name "min" p10) [.Name ow p11] [] p12] p13], 0⟩] scope pos) X.env)
      (fun v s' => ∃ D, v = .ref D ∧ GL s' D) X.xe s := by
  have hfree : ∀ y ∈ scope.names, y.2 = .free → ∃ c, X.env.cells.lookup y.1 = some c := fun y hy e => by
    rcases ok.free y hy e with k | k
    · exact I.ok.has _ (.inl k)
    · exact I.ok.has _ (.inr k)
  rw [eval_ListComp]
  refine wpAny_comprehension_free (use := none) rfl (fun _ => rfl) (closure_ok hfree) ok.kind (fun y hy e => by rw [ok.uniq y hy, e]) ?_
  refine Call_ (ld_blt I hge hme boot_enumerate (PyProof.Rows.callWith_type1 (wpAny_mono (up' ((pa_cons (pe_var hNs hvs dd1 dd2) pa_nil).run p6 pins s σ H (fun vs H1 => vs = [.str z] ∧ H1 = H) I ⟨.str z, hss, rfl, rfl⟩)) (fun us s1 q => ?_) fun _ _ q => q) rfl rfl))
  obtain ⟨u0, vs, H1, I1, r1, e1, e2⟩ := q
  subst e1 e2
  cases r1 with
  | cons r rr =>
  cases rr
  obtain ⟨t, rfl⟩ := r
  refine enum_begins1 (begins_text z t) True.intro fun h2 he hit hsz hk => wpAny_pyIter_enum he ?_
  generalize hit0 : s1.heap.objs.size = it at he hit hsz
  have I2 : Inv X pins σ H1 { s1 with heap := h2 } := I1.kept (t' := s1.toks) hk
  generalize hs2 : ({ s1 with heap := h2 } : Shared) = s2 at I2
  have h2e : s2.heap = h2 := by rw [← hs2]
  have tk2 : s2.toks = s1.toks := by rw [← hs2]
  refine wpAny_newObj_type (newEnv_comp ?_) (by show 0 ≤ sizeLine; decide)
  have hDs : s2.heap.objs.size = it + 2 := by rw [h2e]; exact hsz
  generalize hs3 : ({ s2 with heap := s2.heap.push { cls := .type "list", data := .seq ([] : List Value).toArray } } : Shared) = s3
  have h3 : s3.heap = s2.heap.push { cls := .type "list", data := .seq ([] : List Value).toArray } := by rw [← hs3]
  have tk3 : s3.toks = s1.toks := by rw [← hs3]; exact tk2
  have I3 : Inv X pins σ H1 s3 := by
    rw [← hs3]
    exact I2.kept (t' := s2.toks) fun b o e => Heap.get?_push_of_some _ e
  have kp3 : ∀ b o, h2.get? b = some o → s3.heap.get? b = some o := fun b o e => by rw [h3]; exact Heap.get?_push_of_some _ (by rw [h2e]; exact e)
  have hD3 : s3.heap.get? (it + 2) = some { cls := .type "list", data := .seq ([] : List Value).toArray } := by rw [h3, ← hDs]; exact Heap.get?_push_size _ rfl
  -- the three records of ours
  have f3 : ∀ b ∈ [it + 2, it + 1, it], FpOk X pins H1 b ∧ b < s3.heap.objs.size := fun b hb => by
    have hle : s1.heap.objs.size ≤ b := by
      rw [hit0]
      simp only [List.mem_cons, List.not_mem_nil, or_false] at hb
      rcases hb with e | e | e <;> rw [e] <;> omega
    refine ⟨I1.fpOk hle (I1.hok.fresh hle), ?_⟩
    rw [h3, Heap.size_push, hDs]
    simp only [List.mem_cons, List.not_mem_nil, or_false] at hb
    rcases hb with e | e | e <;> rw [e] <;> omega
  have I4 := block_start I3 ok hN f3
  show codeAny _ _ (.compStart _ 0 (.ref (it + 1)) (.ref s2.heap.objs.size) (compEnvC scope (cellsFrom (s3.heap.objs.size + 1) scope.names (cloFrom X.env.cells scope.names [])) s3.heap.objs.size X.env)) (compPost (model X.prog X.w) X.A X.xe none _ (.ref s2.heap.objs.size) s3.heap.objs.size) { s3 with heap := pushCells (s3.heap.push { cls := .type "dict", data := .dict #[] }) scope.names }
  rw [hDs]
  generalize hcl : cellsFrom (s3.heap.objs.size + 1) scope.names (cloFrom X.env.cells scope.names []) = cl at I4 ⊢
  have kv := hvo cl s3.heap.objs.size
  have kpl := hlp cl s3.heap.objs.size
  have kle := hll cl s3.heap.objs.size
  have kmn := hgm cl s3.heap.objs.size
  generalize hce : compEnvC scope cl s3.heap.objs.size X.env = ce at I4 kv kpl kle kmn ⊢
  have cL : ce.locals = s3.heap.objs.size := by subst hce; rfl
  generalize hs4 : ({ s3 with heap := pushCells (s3.heap.push { cls := .type "dict", data := .dict #[] }) scope.names } : Shared) = s4 at I4 ⊢
  have kp4 : ∀ b o, s3.heap.get? b = some o → s4.heap.get? b = some o := fun b o e => by rw [← hs4]; exact pushCells_keeps _ _ _ _ (Heap.get?_push_of_some _ e)
  have tk4 : s4.toks = s1.toks := by rw [← hs4]; exact tk3
  have neL : ∀ b ∈ [it + 2, it + 1, it], b ≠ ce.locals := fun b hb e => by
    rw [cL] at e
    exact absurd (f3 b hb).2 (by rw [e]; exact Nat.lt_irrefl _)
  have stat : ∀ {pn : List (Addr × Obj)} {σ' : L2.St} {s' : Shared}, Inv (X.blk s3 H1 scope ce [it + 2, it + 1, it]) [] σ' H1 s' → ∀ b ∈ [it + 2, it + 1, it], FpOk (X.blk s3 H1 scope ce [it + 2, it + 1, it]) [] H1 b := fun {pn σ' s'} I' b hb =>
    ⟨(f3 b hb).1.1, (I'.ok.exf b hb).1, I'.ok.exfs b hb, .inl hb, fun x c e => (I'.ok.exf b hb).2 x c e, fun p hp => absurd (show p ∈ ([] : List (Addr × Obj)) ++ [] from hp) (by simp)⟩
  have loop : codeAny (model X.prog X.w) X.A (.compLoop (.ListComp (.Name le p1) [⟨.Tuple [.Name pl p2, .Name le p3] kk pt, .Call (.Name "enumerate" p4) [.Name so p5] [] p6, [.Compare (.Subscript (.Name ow p7) (.Name pl p8) p9) [.Eq] [.Call (.Name "min" p10) [.Name ow p11] [] p12] p13], 0⟩] scope pos) 0 (.ref (it + 1)) (.ref (it + 2)) ce) (compPost (model X.prog X.w) X.A X.xe none (fun v s' => ∃ D, v = .ref D ∧ GL s' D) (.ref (it + 2)) s3.heap.objs.size) s4 := by
    refine compLoop_any (fun n s' => ∃ i, i ≤ z.cps.size ∧ n = z.cps.size - i ∧ Inv (X.blk s3 H1 scope ce [it + 2, it + 1, it]) [] (L2.wipe σ [ip, il]) H1 s' ∧ (∃ old, IsEnum s'.heap (it + 1) it ((i : Nat) : Int) old) ∧ s'.heap.IsStrIter it (strIterType z) z t i ∧ (∃ (its : List Value) (n : Nat), s'.heap.get? (it + 2) = some { cls := .type "list", data := .seq its.toArray n } ∧ its.length ≤ i ∧ ∀ u ∈ its, GT s' u) ∧ 0 < s'.toks) ?_ z.cps.size ⟨0, Nat.zero_le _, rfl, I4, ⟨.none, kp4 _ _ (kp3 _ _ he)⟩, ⟨_, kp4 _ _ (kp3 _ _ hit), rfl, rfl⟩, ⟨[], 0, kp4 _ _ hD3, Nat.le_refl _, fun _ z => nomatch z⟩, by rw [tk4]; omega⟩
    rintro n s5 ⟨i, hi, rfl, I5, ⟨old, he5⟩, hit5, hG5, h05⟩
    have hne : it + 1 ≠ it := Nat.succ_ne_self _
    have n02 : it ≠ it + 2 := Nat.ne_of_lt (Nat.lt_add_of_pos_right (by decide))
    have n12 : it + 1 ≠ it + 2 := Nat.ne_of_lt (Nat.lt_succ_self _)
    by_cases hlt : i < z.cps.size
    · -- one turn
      obtain ⟨c, hcx⟩ : ∃ c, z.cps[i]? = some c := ⟨z.cps[i], by simp [hlt]⟩
      refine next_enum he5 hit5 hcx hne fun h6 ho6 hit6 hT6 hk6 => ?_
      refine wpAny_letOwnedTupleGo_enum (s := { s5 with heap := h6, toks := s5.toks + 2 }) ho6 fun h7 he7 sb7 => ?_
      have hel : it + 1 < s5.heap.objs.size := Heap.lt_size he5
      have kp7 : ∀ b o, b ∉ [it + 1, it] → s5.heap.get? b = some o → h7.get? b = some o := fun b o hb q => (sb7.2 b (fun e => hb (by simp [e]))).trans (hk6 b o (fun e => hb (by simp [e])) (fun e => hb (by simp [e])) q)
      have I7 : Inv (X.blk s3 H1 scope ce [it + 2, it + 1, it]) [] (L2.wipe σ [ip, il]) H1 { s5 with heap := h7, toks := s5.toks + 2 } :=
        turnedL I5 kp7 fun b hb => stat (pn := []) I5 b (by simp only [List.mem_cons, List.not_mem_nil, or_false] at hb ⊢; rcases hb with e | e <;> simp [e])
      have hit7 : h7.IsStrIter it (strIterType z) z t (i + 1) := by
        obtain ⟨o, q1, q2⟩ := hit6
        exact ⟨o, (sb7.2 it (Ne.symm hne)).trans q1, q2⟩
      have hT7 : h7.get? s5.heap.objs.size = some { cls := .type "tuple", data := .seq #[.int i (s5.toks + 1), .str ⟨#[c]⟩ s5.toks] } := (sb7.2 _ (Nat.ne_of_gt hel)).trans hT6
      obtain ⟨its, nn, hD5, hil5, hG⟩ := hG5
      have hD7 : h7.get? (it + 2) = some { cls := .type "list", data := .seq its.toArray nn } := kp7 _ _ (by simp) hD5
      -- pinned while the turn runs
      have I7' := I7.pinned (fp := [it + 2, it + 1, it]) (stat (pn := []) I7) (fun b hb => by
        simp only [List.mem_cons, List.not_mem_nil, or_false] at hb
        rcases hb with e | e | e
        · rw [e]; exact ⟨_, hD7, fun v q => nomatch q⟩
        · rw [e]; exact ⟨_, he7, fun v q => nomatch q⟩
        · rw [e]
          obtain ⟨o, q1, q2, q3⟩ := hit7
          exact ⟨o, q1, fun v q => by rw [q3] at q; cases q⟩)
      have pin : ∀ {σ' : L2.St} {s' : Shared}, Inv (X.blk s3 H1 scope ce [it + 2, it + 1, it]) ([] ++ pinsAt [it + 2, it + 1, it] h7) σ' H1 s' → ∀ b ∈ [it + 2, it + 1, it], ∀ o, h7.get? b = some o → s'.heap.get? b = some o := fun {σ' s'} I' b hb o e =>
        (I'.pin (b, o) (List.mem_append_right _ (List.mem_append_right _ (mem_pinsAt hb e)))).1
      refine assign_Tuple_tuple (items := #[.int i (s5.toks + 1), .str ⟨#[c]⟩ s5.toks]) (I.ok.hd hc) ⟨_, hT7, rfl, 0, rfl⟩ (by rfl) (by rfl) fun h8 hx8 => ?_
      have I8 := I7'.kept (h' := h8) (t' := s5.toks + 2) fun b o e => hx8 b o (Nat.ne_of_lt (Heap.lt_size e)) e
      show wpAny _ _ (assignInOrder [assign (.Name pl p2) ce, assign (.Name le p3) ce] [.int i (s5.toks + 1), .str ⟨#[c]⟩ s5.toks]) _ _ _
      refine assignInOrder_cons (wpAny_assign_Name (store_raw (X := X.blk s3 H1 scope ce [it + 2, it + 1, it]) (v := .int i) I8 hN (ok.ix (pl, ip) (by simp)) kpl ⟨_, rfl⟩ fun s9 m9 t9 I9 _ _ => ?_))
      refine assignInOrder_cons (wpAny_assign_Name (store_raw (X := X.blk s3 H1 scope ce [it + 2, it + 1, it]) (v := .str ⟨#[c]⟩) I9 hN (ok.ix (le, il) (by simp)) kle ⟨_, rfl⟩ fun s10 m10 t10 I10 hn10 hm10 => ?_))
      refine assignInOrder_nil ?_
      have t9 : s5.toks + 2 ≤ s9.toks := t9
      -- the turn's end
      have hlw : (L2.wipe σ [ip, il]).length = σ.length := wipe_length _ _
      have hσl : σ.length = X.N.length := I.len
      have hip : ip < σ.length := by rw [hσl]; exact (List.getElem?_eq_some_iff.mp (ok.ix (pl, ip) (by simp))).1
      have hil : il < σ.length := by rw [hσl]; exact (List.getElem?_eq_some_iff.mp (ok.ix (le, il) (by simp))).1
      have weak : ∀ (j : Nat) (v : V), (L2.wipe σ [ip, il])[j]? = some (some v) → (((L2.wipe σ [ip, il]).set ip (some (.int i))).set il (some (.str ⟨#[c]⟩)))[j]? = some (some v) := fun j v e => by
        obtain ⟨_, n⟩ := wipe_some e
        have n1 : ip ≠ j := fun q => n (by simp [q])
        have n2 : il ≠ j := fun q => n (by simp [q])
        rw [List.getElem?_set_ne n2, List.getElem?_set_ne n1]
        exact e
      refine wpAny_tests_one (up (test_raw (io := io) (ip := ip) (i := i) (n := ns[i]'(by omega)) I10 hc hNo kv (ok.ix (pl, ip) (by simp)) (.inl kpl) ?_ ?_ hq (by simp) kmn hmm (fun h11 k11 hk11 b hb ht11 => ?_) do1 do2 dp1 dp2))
      · rw [List.getElem?_set_ne (Ne.symm hio2), List.getElem?_set_ne (Ne.symm hio1)]
        exact wipe_get hso (by simp [hio1, hio2])
      · rw [List.getElem?_set_ne (Ne.symm hpl), List.getElem?_set_self (by rw [hlw]; exact hip)]
      have ht11 : s10.toks ≤ k11 := ht11
      have I11 := I10.kept (h' := h11) (t' := k11) hk11
      have e12 := pin I11 (it + 1) (by simp) _ he7
      obtain ⟨oi, qi1, qi2⟩ := hit7
      have i12 := pin I11 it (by simp) _ qi1
      have d12 := pin I11 (it + 2) (by simp) _ hD7
      cases b with
      | false =>
        rw [if_neg Bool.false_ne_true]
        refine ⟨z.cps.size - (i + 1), by omega, i + 1, hlt, rfl, (I11.unpinned (pins := [])).weak (by rw [List.length_set, List.length_set]) weak, ⟨.str ⟨#[c]⟩ s5.toks, ?_⟩, ⟨oi, i12, qi2⟩, ⟨its, nn, d12, by omega, fun u hu => (hG u hu).up ?_⟩, ?_⟩
        · have e1 : ((i + 1 : Nat) : Int) = (i : Int) + 1 := by omega
          rw [e1]; exact e12
        · show s5.toks ≤ k11; omega
        · show 0 < k11; omega
      | true =>
        rw [if_pos rfl]
        refine wpAny_Name (wpAny_loadName_local I11.ok.kind kle (hn10.keeps hk11) hm10 ?_) dl1
        have hsz12 : its.toArray.size ≤ sizeLine := by
          rw [List.size_toArray]; omega
        refine append_at (hsz := hsz12) d12 fun h13 sb13 hD13 => ?_
        have I13 : Inv (X.blk s3 H1 scope ce [it + 2, it + 1, it]) [] (L2.wipe σ [ip, il]) H1 { s10 with heap := h13, toks := k11 } := by
          have J := (I11.unpinned (pins := [])).weak (σ' := L2.wipe σ [ip, il]) (by rw [List.length_set, List.length_set]) weak
          exact turnedL (s := { s10 with heap := h11, toks := k11 }) (ch := [it + 2]) (t' := k11) J (fun b o hb q => (sb13.2 b (by simpa using hb)).trans q) fun b hb => stat (pn := []) J b (by simp only [List.mem_cons, List.not_mem_nil, or_false] at hb ⊢; simp [hb])
        refine ⟨z.cps.size - (i + 1), by omega, i + 1, hlt, rfl, I13, ⟨.str ⟨#[c]⟩ s5.toks, ?_⟩, ⟨oi, (sb13.2 it n02).trans i12, qi2⟩, ⟨its ++ [.str ⟨#[c]⟩ s5.toks], nn + 1, by simpa using hD13, by rw [List.length_append]; simp; omega, fun u hu => ?_⟩, ?_⟩
        · have e1 : ((i + 1 : Nat) : Int) = (i : Int) + 1 := by omega
          rw [e1]; exact (sb13.2 (it + 1) n12).trans e12
        · rcases List.mem_append.mp hu with q | q
          · exact (hG u q).up (by show s5.toks ≤ k11; omega)
          · rw [List.mem_singleton.mp q]
            exact ⟨⟨#[c]⟩, s5.toks, rfl, Nat.ne_of_gt h05, show s5.toks < k11 by omega⟩
        · show 0 < k11; omega
    · -- the end
      have ei : z.cps.size = i := by omega
      have D := Draws.text (prog := X.prog) (w := X.w) (A := X.A.in1) (show X.A.in1.handled = none from I.ok.hd hc) it z t
      refine wpAny_pyNext_enum_endD D he5 (by rw [ei]; exact hit5) fun h6 eb => ?_
      obtain ⟨m, hn, _⟩ := I5.loc
      have hn : s5.heap.Ns ce.locals m := hn
      have nit : ce.locals ≠ it := fun e => neL it (by simp) e.symm
      refine ⟨m, ?_, fun h7 sb7 => ⟨it + 2, rfl, ?_⟩⟩
      · rw [← cL]
        obtain ⟨o, es, ep, q, r⟩ := hn
        exact ⟨o, es, ep, eb _ _ nit q, r⟩
      · obtain ⟨its, nn, hD5, _, hG⟩ := hG5
        refine ⟨its, nn, ?_, hG⟩
        show h7.get? (it + 2) = _
        rw [sb7.2 (it + 2) (by rw [← cL]; exact neL (it + 2) (by simp))]
        exact eb _ _ (Ne.symm n02) hD5
  exact codeAny_compStart_list loop (wpAny_pyIter_enum (kp4 _ _ (kp3 _ _ he)) loop)
end
end Tk

namespace Pu
/-- the first greatest text -/
def maxS (z : List Nat) (zs : List (List Nat)) : List Nat := zs.foldl (fun a y => if a < y then y else a) z
def oMaxS : D → Option D
  | .lst ds => match strsD ds with
    | some (z :: zs) => some (.str (maxS z zs))
    | _ => none
  | _ => none
/-- x.replace(y, ""), y one sign -/
def oRepl : D → D → Option D
  | .str x, .str [c] => some (.str (x.filter fun a => !(a == c)))
  | _, _ => none
end Pu
namespace Tk
open PySem PySem.Spec PyProof.Rows L2 Su
open Pu (D Sl Rho Rs M Ro Fn Fl Tg LN)
theorem maxD_strs (z : List Nat) (zs : List (List Nat)) : PySem.W.maxD (.str (mkS z)) (zs.map fun y => .str (mkS y)) = .str (mkS (Pu.maxS z zs)) := by
  unfold PySem.W.maxD Pu.maxS
  induction zs generalizing z with
  | nil => rfl
  | cons y zs ih =>
    rw [List.map_cons, List.foldl_cons, List.foldl_cons, ← ih]
    congr 1
    rw [PySem.W.dataLt_str, mkS_cps, mkS_cps]
    by_cases h : z < y
    · rw [if_pos (decide_eq_true h), if_pos h]
    · rw [if_neg (by simpa using h), if_neg h]
theorem replL_one (c : Nat) : ∀ x : List Nat, StrLaws.replL [c] [] x = x.filter fun a => !(a == c)
  | [] => StrLaws.replL_nil
  | a :: x => by
    have ih := replL_one c x
    rw [List.filter_cons]
    by_cases h : a = c
    · subst h
      rw [StrLaws.replL_hit (by simp) (by simp)]
      simp [ih]
    · rw [StrLaws.replL_miss (by simpa using h), ih]
      simp [h]
theorem repl_sign (x : List Nat) (c : Nat) : Txt.replace (mkS x) (mkS [c]) (mkS []) = mkS (x.filter fun a => !(a == c)) := by
  have h := StrLaws.replace_list (x := mkS x) (y := mkS [c]) (z := mkS []) (by rw [mkS_len]; exact Nat.le_refl _)
  rw [mkS_cps, mkS_cps, mkS_cps, replL_one] at h
  generalize Txt.replace (mkS x) (mkS [c]) (mkS []) = y at h
  obtain ⟨⟨l⟩⟩ := y
  have h : l = x.filter fun a => !(a == c) := h
  rw [h]
  rfl
/-- texts read as data -/
theorem reads_strs {h : Heap} : ∀ {zs : List (List Nat)} {its : List Value}, Vals (zs.map fun z => V.str (mkS z)) its → ReadsAll h its (zs.map fun z => .str (mkS z)) []
  | [], _, r => by
    rw [List.map_nil] at r
    cases r
    exact .nil
  | z :: zs, _, r => by
    rw [List.map_cons] at r
    cases r with
    | cons r rr =>
      obtain ⟨t, rfl⟩ := r
      exact .cons (.str _ t) (reads_strs rr)
theorem alike_strs (zs : List (List Nat)) : PySem.W.AlikeAll (zs.map fun z => .str (mkS z)) := by
  refine ⟨fun x hx y hy => ?_, fun x hx e => ?_⟩
  · obtain ⟨a, _, rfl⟩ := List.mem_map.mp hx
    obtain ⟨b, _, rfl⟩ := List.mem_map.mp hy
    rfl
  · obtain ⟨a, _, rfl⟩ := List.mem_map.mp hx
    cases e
theorem depth_strs : ∀ zs : List (List Nat), PyData.depthAll (zs.map fun z => .str (mkS z)) ≤ 1
  | [] => by simp [PyData.depthAll]
  | z :: zs => by
    rw [List.map_cons]
    have := depth_strs zs
    simp only [PyData.depthAll, PyData.depth]
    omega
/-- max of a list of texts whose tokens were given out: one of them -/
theorem max_tok {P : Program} {w : World} {A : Around} {E : Value → Shared → Prop} {s : Shared} {a : Addr} {its : List Value} {nn : Nat} {z : List Nat} {zs : List (List Nat)} {Q : Value → Shared → Prop} (hh : A.handled = none) (hu : A.units + 3 < cLine)
    (hl : s.heap.get? a = some { cls := .type "list", data := .seq its.toArray nn }) (rv : Vals ((z :: zs).map fun z => V.str (mkS z)) its) (hG : ∀ u ∈ its, GT s u)
    (h : ∀ h' t k, (∀ b o, s.heap.get? b = some o → h'.get? b = some o) → s.toks ≤ k → t ≠ 0 → t < k → Q (.str (mkS (Pu.maxS z zs)) t) { s with heap := h', toks := k }) : wpAny (model P w) A (call (.builtin "max") [.ref a]) Q E s := by
  refine up (PySem.W.max_list_data (x := .str (mkS z)) (xs := zs.map fun z => .str (mkS z)) (as := []) hh ⟨_, hl, rfl, nn, rfl⟩ (reads_strs rv) (alike_strs (z :: zs)) (by have := depth_strs (z :: zs); rw [List.map_cons] at this; omega) fun i v h' tk bs hi r hk hle => ?_)
  rw [maxD_strs] at r
  have hv : v ∈ its := by
    have : its[i]? = some v := by simpa using hi
    exact List.mem_of_getElem? this
  obtain ⟨y, t, rfl, t0, tl⟩ := hG v hv
  cases r
  exact h h' t tk hk hle t0 (Nat.lt_of_lt_of_le tl hle)
end Tk

namespace Tk
open PySem PySem.Spec PyProof.Rows L2 Su
open Pu (D Sl Rho Rs M Ro Fn Fl Tg LN)
/-- what a def gives is a list of texts whose tokens were given out -/
def FnTok (P : Program) (w : World) (K : PySem.W.Frag) (mg : Str → Option Value) (base : Heap) (k : Nat) (f : Addr) (fd : FuncData) (ps : List Str) (pre : List V → Hp → Prop) : Prop :=
  ∀ (A : Around) (outer : List Env) (s : Shared) (H : Hp) (args : Args) (us : List Value) (vs : List V), Room k A → Env0 P w K mg base A outer s H → BindsTo s fd args (ps.zip us) → Vals vs us → 1 ≤ s.toks → pre vs H →
    codeAny (model P w) A (.call (.ref f) args) (fun r s' => ∀ a, r = .ok (.ret (.ref a)) → GL s' a) s
theorem FnTok.mono {P : Program} {w : World} {K : PySem.W.Frag} {mg : Str → Option Value} {base : Heap} {j k : Nat} {f : Addr} {fd : FuncData} {ps : List Str} {pre : List V → Hp → Prop} (F : FnTok P w K mg base j f fd ps pre) (h : j ≤ k) : FnTok P w K mg base k f fd ps pre :=
  fun A outer s H args us vs hr => F A outer s H args us vs (hr.mono h)
section
variable {X : Cx} {CX : CXT} {k : Nat} {f : Addr} {fd : FuncData} {ps : List Str} {sp : Sp} {pre : List V → Hp → Prop} {E : XK} {pins : List (Addr × Obj)} {σ : L2.St} {H : Hp} {s : Shared} {Q : VK} {us : List Value} {vs : List V}
theorem run_tok (F : FnOk X.prog X.w X.K X.mg X.base CX k f fd ps sp) (FT : FnTok X.prog X.w X.K X.mg X.base k f fd ps pre) (hr : Room k X.A) (hb : Binds X.K fd ps []) (hx : Passes CX X E) (I : Inv X pins σ H s) (h0 : 1 ≤ s.toks) (r : Vals vs us) (h : sp vs H Q E) (hp : pre vs H) :
    wpAny (model X.prog X.w) X.A (call (.ref f) us) (fun u s' => EP X pins σ Q u s' ∧ ∀ a, u = .ref a → GL s' a) X.xe s := by
  have hl : us.length = ps.length := by rw [← r.length]; exact F.len _ _ _ _ h
  have hb' : BindsTo s fd ⟨us, []⟩ (ps.zip us) := by
    have := hb s us I.kIn (by rw [List.append_nil]; exact hl)
    rw [List.append_nil] at this
    exact this
  refine wpAny_call (codeAny_mono (bothC (F.run X.A X.stack s H ⟨us, []⟩ us vs Q E hr I.env0 hb' r h) (FT X.A X.stack s H ⟨us, []⟩ us vs hr I.env0 hb' r h0 hp)) fun rr s' hq => ?_)
  obtain ⟨hq, ht⟩ := hq
  cases rr with
  | error e => exact hx pins σ H s e s' I hq
  | ok fl =>
    cases fl with
    | ret u => exact ⟨I.after hq, fun a e => ht a (by rw [e])⟩
    | next => exact False.elim hq
    | brk => exact False.elim hq
    | cont => exact False.elim hq
/-- a, b = x, y: the last steps, the pair's parts known -/
theorem par_end {i j : Nat} {x y : Str} {v w : V} {u1 u2 : Value} {Q : Flow → Shared → Prop} (hc : X.calm = true) (hN : X.N.Nodup) (hi : X.N[i]? = some x) (hj : X.N[j]? = some y) (hij : i ≠ j) (hx : X.env.scope.names.lookup x = some .local) (hy : X.env.scope.names.lookup y = some .local)
    (I : Inv X pins σ H s) (rv : RelV v u1) (rw' : RelV w u2) (h : ∀ s', Inv X pins ((σ.set i (some v)).set j (some w)) H s' → Q .next s') :
    wpAny (model X.prog X.w) X.A (do let pr ← newTuple [u1, u2]; rule "assign.swapped-stores"; let items ← unpackItems pr 2 none; assignInOrder [fun v => bindName X.env y v, fun v => bindName X.env x v] items.reverse; pure Flow.next) Q X.xe s := by
  refine wpAny_bind (wpAny_newTuple ?_)
  have I2 : Inv X pins σ H { s with heap := s.heap.push { cls := .type "tuple", data := .seq #[u1, u2] } } := I.kept (t' := s.toks) fun b o e => Heap.get?_push_of_some _ e
  refine wpAny_bind (wpAny_rule (wpAny_bind (unpackItems_tuple (items := #[u1, u2]) (I.ok.hd hc) (IsTup.new s.heap _) fun h' hx' => ?_)))
  have I3 := I2.kept (h' := h') (t' := s.toks) fun b o e => hx' b o (Nat.ne_of_lt (Heap.lt_size e)) e
  show wpAny _ _ (assignInOrder [fun v => bindName X.env y v, fun v => bindName X.env x v] [u2, u1] >>= fun _ => pure Flow.next) _ _ _
  refine wpAny_bind (assignInOrder_cons (wpAny_bindName (store_ok I3 hN hj (.inl hy) rw' (fun s2 I4 => assignInOrder_cons (wpAny_bindName (store_ok I4 hN hi (.inl hx) rv (fun s3 I5 => assignInOrder_nil (wpAny_pure ?_)) (.inr hx)))) (.inr hy))))
  rw [List.set_comm _ _ (Ne.symm hij)] at I5
  exact h _ I5
end
end Tk

namespace Tk
open PySem PySem.Spec PyProof.Rows L2 Su
open Pu (D Sl Rho Rs M Ro Fn Fl Tg LN)
section
variable {X : Cx} {pins : List (Addr × Obj)} {σ : L2.St} {H : Hp} {s : Shared}
/-- found, some = found + out, some.replace(out, "") -/
theorem take_out {fo so ou : Str} {jf js : Nat} {x z : List Nat} {c : Nat} {t : Tok} {m : Str → Option Value} {q9 q10 q11 q12 q13 q14 q15 q16 q17 q18 q19 q20 q21 : Pos} {kt k2 kc : Nat} {Q : Flow → Shared → Prop} (hc : X.calm = true) (hN : X.N.Nodup)
    (hf : X.N[jf]? = some fo) (hs' : X.N[js]? = some so) (hfs : jf ≠ js) (lf : X.env.scope.names.lookup fo = some .local) (ls : X.env.scope.names.lookup so = some .local) (lo : X.env.scope.names.lookup ou = some .local)
    (I : Inv X pins σ H s) (sf : σ[jf]? = some (some (.str (mkS x)))) (ss : σ[js]? = some (some (.str (mkS z)))) (hn : s.heap.Ns X.env.locals m) (hm : m ou = some (.str (mkS [c]) t)) (t0 : t ≠ 0) (tl : t < s.toks)
    (hx : x.length + 1 ≤ sizeLine) (hz : z.length ≤ 16777216)
    (h : ∀ s', Inv X pins ((σ.set jf (some (.str (mkS (x ++ [c]))))).set js (some (.str (mkS (z.filter fun a => !(a == c)))))) H s' → Q .next s')
    (d1 : (fo == ("__debug__" : Str)) = false := by decide) (d2 : (fo == ("__classdict__" : Str)) = false := by decide) (d3 : (so == ("__debug__" : Str)) = false := by decide) (d4 : (so == ("__classdict__" : Str)) = false := by decide) (d5 : (ou == ("__debug__" : Str)) = false := by decide)
    (hw : swappedStores [.Tuple [.Name fo q9, .Name so q10] kt q11] (.Tuple [.BinOp (.Name fo q12) .Add (.Name ou q13) q14, .Call (.Attribute (.Name so q15) "replace" q16) [.Name ou q17, .Constant (.str "") kc q18] [] q19] k2 q20) X.env = pure (some [fo, so]) := by rfl)
    (hs : swapsWithSole [.Tuple [.Name fo q9, .Name so q10] kt q11] (.Tuple [.BinOp (.Name fo q12) .Add (.Name ou q13) q14, .Call (.Attribute (.Name so q15) "replace" q16) [.Name ou q17, .Constant (.str "") kc q18] [] q19] k2 q20) q21.line X.env = pure false := by rfl)
    (hbase : attributeBase (.Name so q15) "replace" X.env (eval (.Name so q15) X.env) = eval (.Name so q15) X.env := by rfl) (hline : (q16.endLine == q19.line) = true := by rfl) :
    wpAny (model X.prog X.w) X.A (exec (.Assign [.Tuple [.Name fo q9, .Name so q10] kt q11] (.Tuple [.BinOp (.Name fo q12) .Add (.Name ou q13) q14, .Call (.Attribute (.Name so q15) "replace" q16) [.Name ou q17, .Constant (.str "") kc q18] [] q19] k2 q20) q21) X.env) Q X.xe s := by
  rw [exec_Assign_arm]
  refine wpAny_bind (wpAny_standAt ?_)
  rw [hs]
  refine wpAny_bind (wpAny_pure ?_)
  rw [if_neg (by decide)]
  refine wpAny_bind (Tuple_ ?_)
  show wpAny _ _ (spliced ((false, eval (.BinOp (.Name fo q12) .Add (.Name ou q13) q14) X.env) :: backTo _ (starEach [.Call (.Attribute (.Name so q15) "replace" q16) [.Name ou q17, .Constant (.str "") kc q18] [] q19] X.env))) _ _ s
  refine Calls.spliced_cons (wpAny_BinOp (raw_name hf (.inl lf) I sf (fun v r => ?_) d1 d2))
  obtain ⟨tf, rfl⟩ := r
  refine wpAny_Name (wpAny_loadName_local I.ok.kind lo hn hm ?_) d5
  refine up (add_str (fun t1 k1 hk1 => ?_) (by rw [mkS_len, mkS_len]; exact hx))
  have hk1 : s.toks ≤ k1 := hk1
  have I1 := I.tok k1
  show wpAny _ _ (spliced ((false, eval (.Call (.Attribute (.Name so q15) "replace" q16) [.Name ou q17, .Constant (.str "") kc q18] [] q19) X.env) :: backTo _ (starEach [] X.env))) _ _ { s with toks := k1 }
  refine Calls.spliced_cons (Call_method2 hbase rfl hline (raw_name hs' (.inl ls) I1 ss (fun v r => ?_) d3 d4))
  obtain ⟨tz, rfl⟩ := r
  refine ⟨"str", _, F.plainAttrs_str, F.slot_str_replace, F.type_str_replace, typeIs_str _ _ _, (fun _ e => nomatch e), Calls.callWith_builtin rfl (Calls.evalArgs_plain (Calls.spliced_cons ?_))⟩
  refine wpAny_Name (wpAny_loadName_local I1.ok.kind lo hn hm ?_) d5
  refine Calls.spliced_cons (Calls.Constant_str (Calls.spliced_nil ?_))
  have e0 : ("" : Str) = mkS [] := by decide +kernel
  have hr : Txt.replace (mkS z) (mkS [c]) "" = mkS (z.filter fun a => !(a == c)) := by rw [e0, repl_sign]
  have hyz : (mkS [c] == ("" : Str)) = false := by
    rw [e0, beq_eq_false_iff_ne]
    intro e
    have := congrArg Str.length e
    rw [mkS_len, mkS_len] at this
    simp at this
  refine PySem.SC.replace t0 (Nat.ne_of_gt (Nat.lt_of_le_of_lt (Nat.zero_le t) (Nat.lt_of_lt_of_le tl hk1))) (Nat.ne_of_lt (Nat.lt_of_lt_of_le tl hk1)) hyz (by rw [e0, mkS_len, mkS_len]; simpa using hz) fun t2 k2' => ?_
  rw [hr]
  have I2 := I.tok k2'
  refine Calls.spliced_nil ?_
  refine wpAny_newObj_type ?_ (by show 2 ≤ sizeLine; decide)
  have I3 : Inv X pins σ H { s with heap := s.heap.push { cls := .type "tuple", data := .seq [Value.str (mkS x ++ mkS [c]) t1, Value.str (mkS (z.filter fun a => !(a == c))) t2].toArray }, toks := k2' } := I2.kept (t' := k2') fun b o e => Heap.get?_push_of_some _ e
  rw [hw]
  refine wpAny_bind (wpAny_pure ?_)
  show wpAny (model X.prog X.w) X.A (do rule "assign.swapped-stores"; let items ← unpackItems (.ref s.heap.objs.size) 2 none; assignInOrder [fun v => bindName X.env so v, fun v => bindName X.env fo v] items.reverse; pure Flow.next) _ _ _
  refine wpAny_bind (wpAny_rule (wpAny_bind (unpackItems_tuple (items := #[Value.str (mkS x ++ mkS [c]) t1, Value.str (mkS (z.filter fun a => !(a == c))) t2]) (I.ok.hd hc) (IsTup.new s.heap _) fun h' hx' => ?_)))
  have I4 := I3.kept (h' := h') (t' := k2') fun b o e => hx' b o (Nat.ne_of_lt (Heap.lt_size e)) e
  show wpAny _ _ (assignInOrder [fun v => bindName X.env so v, fun v => bindName X.env fo v] [Value.str (mkS (z.filter fun a => !(a == c))) t2, Value.str (mkS x ++ mkS [c]) t1] >>= fun _ => pure Flow.next) _ _ _
  have ex : mkS x ++ mkS [c] = mkS (x ++ [c]) := mkS_app x [c]
  rw [ex]
  refine wpAny_bind (assignInOrder_cons (wpAny_bindName (store_ok (v := .str (mkS (z.filter fun a => !(a == c)))) I4 hN hs' (.inl ls) ⟨t2, rfl⟩ (fun s2 I5 => assignInOrder_cons (wpAny_bindName (store_ok (v := .str (mkS (x ++ [c]))) I5 hN hf (.inl lf) ⟨t1, rfl⟩ (fun s3 I6 => assignInOrder_nil (wpAny_pure ?_)) (.inr lf)))) (.inr ls))))
  rw [List.set_comm _ _ (Ne.symm hfs)] at I6
  exact h _ I6
end
end Tk

namespace Tk
open PySem PySem.Spec PyProof.Rows L2 Su
open Pu (D Sl Rho Rs M Ro Fn Fl Tg LN)
/-- one round of way_of -/
def tWay (K : PySem.W.Frag) (jp js jf jo : Nat) (sp : Sp) (pre : List V → Hp → Prop) (E : XK) : TS := fun D σ H => ∃ (vp : V) (z x : List Nat), σ[jp]? = some (some vp) ∧ σ[js]? = some (some (.str (mkS z))) ∧ σ[jf]? = some (some (.str (mkS x))) ∧ x.length + 1 ≤ sizeLine ∧ z.length ≤ 16777216 ∧
  pre [vp, .str (mkS z)] H ∧ sp [vp, .str (mkS z)] H (fun v H2 => ∃ (a : Addr) (z0 : List Nat) (zs : List (List Nat)) (c : Nat), v = .ref a ∧ SqL K H2 a ((z0 :: zs).map fun z => V.str (mkS z)) ∧ Pu.maxS z0 zs = [c] ∧
    D.nx (((σ.set jo (some (.str (mkS [c])))).set jf (some (.str (mkS (x ++ [c]))))).set js (some (.str (mkS (z.filter fun a => !(a == c)))))) H2) E
theorem list_same {h : Heap} {a : Addr} {its its' : List Value} {n : Nat} (h1 : h.get? a = some { cls := .type "list", data := .seq its.toArray n }) (h2 : h.IsList a its'.toArray) : its' = its := by
  obtain ⟨o, e1, e2, n', e3⟩ := h2
  rw [h1] at e1
  cases e1
  injection e3 with e4 _
  have : its.toArray.toList = its'.toArray.toList := by rw [e4]
  simpa using this.symm
section
variable {X : Cx} {CX : CXT} {k : Nat} {f : Addr} {fd : FuncData} {ps : List Str} {sp : Sp} {pre : List V → Hp → Prop} {E : XK}
theorem psst_way {la pa so fo ou : Str} {jp js jf jo : Nat} {q1 q2 q3 q4 q5 q6 q7 q8 q9 q10 q11 q12 q13 q14 q15 q16 q17 q18 q19 q20 q21 : Pos} {kt k2 kc : Nat} (hc : X.calm = true) (hN : X.N.Nodup)
    (F : FnOk X.prog X.w X.K X.mg X.base CX k f fd ps sp) (FT : FnTok X.prog X.w X.K X.mg X.base k f fd ps pre) (hr : Room k X.A) (hb : Binds X.K fd ps []) (hx : Passes CX X E) (hg : Gl X la) (hm : X.mg la = some (.ref f)) (hk : PySem.W.keepIn X.K (.ref f) = true)
    (hgm : Gl X "max") (hmm : X.mg "max" = none)
    (hNp : X.N[jp]? = some pa) (hNs : X.N[js]? = some so) (hNf : X.N[jf]? = some fo) (hNo : X.N[jo]? = some ou) (hfs : jf ≠ js) (hof : jo ≠ jf) (hos : jo ≠ js) (vp : Vis X.env.scope pa) (lf : X.env.scope.names.lookup fo = some .local) (ls : X.env.scope.names.lookup so = some .local) (lo : X.env.scope.names.lookup ou = some .local)
    (dl : (la == ("__debug__" : Str)) = false := by decide) (dp : (pa == ("__debug__" : Str)) = false := by decide) (dp2 : (pa == ("__classdict__" : Str)) = false := by decide)
    (d1 : (fo == ("__debug__" : Str)) = false := by decide) (d2 : (fo == ("__classdict__" : Str)) = false := by decide) (d3 : (so == ("__debug__" : Str)) = false := by decide) (d4 : (so == ("__classdict__" : Str)) = false := by decide) (d5 : (ou == ("__debug__" : Str)) = false := by decide)
    (hsw : swapsWith (.Call (.Name "max" q2) [.Call (.Name la q3) [.Name pa q4, .Name so q5] [] q6] [] q7) (some (.Name ou q1)) q8.line X.env = pure false := by rfl)
    (hw : swappedStores [.Tuple [.Name fo q9, .Name so q10] kt q11] (.Tuple [.BinOp (.Name fo q12) .Add (.Name ou q13) q14, .Call (.Attribute (.Name so q15) "replace" q16) [.Name ou q17, .Constant (.str "") kc q18] [] q19] k2 q20) X.env = pure (some [fo, so]) := by rfl)
    (hs : swapsWithSole [.Tuple [.Name fo q9, .Name so q10] kt q11] (.Tuple [.BinOp (.Name fo q12) .Add (.Name ou q13) q14, .Call (.Attribute (.Name so q15) "replace" q16) [.Name ou q17, .Constant (.str "") kc q18] [] q19] k2 q20) q21.line X.env = pure false := by rfl)
    (hline : (q16.endLine == q19.line) = true := by rfl) :
    PSsT X [.Assign [.Name ou q1] (.Call (.Name "max" q2) [.Call (.Name la q3) [.Name pa q4, .Name so q5] [] q6] [] q7) q8,
      .Assign [.Tuple [.Name fo q9, .Name so q10] kt q11] (.Tuple [.BinOp (.Name fo q12) .Add (.Name ou q13) q14, .Call (.Attribute (.Name so q15) "replace" q16) [.Name ou q17, .Constant (.str "") kc q18] [] q19] k2 q20) q21] (tWay X.K jp js jf jo sp pre E) := by
  intro pins s σ H D h0 I h
  obtain ⟨v, z, x, sp', ss, sf, hx1, hz1, hp, q⟩ := h
  refine wpAny_execs_cons (wpAny_Assign_Name ?_ hsw)
  refine wpAny_Call_Name_kw (ld_blt (u := .builtin "max") I hgm hmm (by decide +kernel) ?_ (by decide) (by decide))
  refine PyProof.Rows.callWith_builtin1 ?_ rfl rfl
  show wpAny _ _ (spliced ((false, eval (.Call (.Name la q3) [.Name pa q4, .Name so q5] [] q6) X.env) :: backTo q7 (starEach [] X.env))) _ _ s
  refine Calls.spliced_cons (wpAny_Call_Name_kw (ld_glob I hg hm ?_ dl))
  refine PySem.W.callWith_K (h₀ := X.base) I.ok.mod.kin hk (wpAny_mono (up' ((pa_cons (pe_var hNp vp dp dp2) (pa_cons (pe_var hNs (.inl ls) d3 d4) pa_nil)).run q6 pins s σ H (fun vs H1 => vs = [v, .str (mkS z)] ∧ H1 = H) I ⟨v, sp', _, ss, rfl, rfl⟩)) (fun us s1 hq => ?_) fun _ _ z => z) rfl rfl
  obtain ⟨t1, vs, H1, I1, r, e1, e2⟩ := hq
  subst e1 e2
  refine ⟨I1.kIn, wpAny_mono (run_tok F FT hr hb hx I1 (Nat.le_trans h0 t1) r q hp) (fun u s2 hq => ?_) fun _ _ z => z⟩
  obtain ⟨⟨v2, H2, I2, r2, a, z0, zs, c, ev, hl, hmx, qn⟩, ht⟩ := hq
  subst ev
  obtain rfl : u = Value.ref a := r2
  obtain ⟨its, nn, hD, hG⟩ := ht a rfl
  obtain ⟨its', rv, pl, _⟩ := I2.list hl
  obtain rfl := list_same hD pl.isList
  refine Calls.spliced_nil ?_
  refine max_tok (I.ok.hd hc) (by have := hr.un; omega) hD rv hG fun h3 t k3 hk3 hk3' t0 tl => ?_
  rw [hmx]
  have I3 := I2.kept (h' := h3) (t' := k3) hk3
  refine store_raw (v := .str (mkS [c])) I3 hN hNo lo ⟨t, rfl⟩ fun s4 m t4 I4 hn hm4 => ?_
  have t4 : k3 ≤ s4.toks := t4
  refine wpAny_execs_cons (take_out (t := t) hc hN hNf hNs hfs lf ls lo I4 ?_ ?_ hn hm4 t0 (Nat.lt_of_lt_of_le tl t4) hx1 hz1 (fun s5 I5 => wpAny_execs_nil ⟨_, H2, I5, qn⟩) d1 d2 d3 d4 d5 hw hs rfl hline)
  · rw [List.getElem?_set_ne hof]; exact sf
  · rw [List.getElem?_set_ne hos]; exact ss
end
end Tk

namespace Pu
/-- one round of way_of: slots of pairs, some, found, out -/
def wayBlk (fl : Fn) (jp js jf jo : Nat) : M Fl := fun r m => match r[jp]?, r[js]?, r[jf]? with
  | some (some (.v p)), some (some (.v (.str z))), some (some (.v (.str x))) =>
    if x.length + 1 ≤ LN ∧ z.length ≤ LN ∧ jo < r.length ∧ jf < r.length ∧ js < r.length then
      (match fl [p, .str z] m with
      | .ok d m' => (match oMaxS d with
        | some (.str [c]) => .ok .nx (((r.set jo (some (.v (.str [c])))).set jf (some (.v (.str (x ++ [c]))))).set js (some (.v (.str (z.filter fun a => !(a == c)))))) m'
        | _ => .bad)
      | .exc c m' => .exc c m'
      | .bad => .bad) else .bad
  | _, _, _ => .bad
end Pu
namespace Tk
open PySem PySem.Spec PyProof.Rows L2 Su
open Pu (D Sl Rho Rs M Ro Fn Fl Tg LN)
section
variable {X : Cx} {pos : Pos}
theorem pst_while {c : Expr} {body : List Stmt} {tc : TT} {tb : TS} (hp : PassesOwn (model X.prog X.w) X.A X.env X.xe) (hc : PT X c tc) (hb : PSsT X body tb) : PST X (.While c body [] pos) (tWhile tc tb) := by
  intro pins s σ H D h0 I h
  obtain ⟨W, ⟨m0, w0⟩, turn⟩ := h
  refine wpAny_While (codeAny_whileLoop (fun n s' => 1 ≤ s'.toks ∧ ∃ σ' H', Inv X pins σ' H' s' ∧ W n σ' H') ?_ m0 ⟨h0, σ, H, I, w0⟩)
  rintro n s1 ⟨h1, σ1, H1, I1, w1⟩
  refine wpAny_passesOwn hp (wpAny_mono (up' (hc.run pins s1 σ1 H1 _ I1 (turn n σ1 H1 w1))) (fun b s2 hq => ?_) fun _ _ x => x)
  obtain ⟨k2, H2, I2, q2⟩ := hq
  cases b with
  | true =>
    obtain ⟨N, hN, q2⟩ := q2
    rw [if_pos rfl]
    refine wpAny_passesOwn hp (wpAny_mono (up' (hb pins s2 σ1 H2 _ (Nat.le_trans h1 k2) I2 q2)) (fun f s3 q3 => ?_) fun _ _ x => x)
    obtain ⟨k3, q3⟩ := q3
    have h3 : 1 ≤ s3.toks := Nat.le_trans h1 (Nat.le_trans k2 k3)
    cases f with
    | next =>
      obtain ⟨σ3, H3, I3, n3⟩ := q3
      obtain ⟨m', hm, w3⟩ := hN σ3 H3 n3
      exact ⟨m', hm, h3, σ3, H3, I3, w3⟩
    | cont =>
      obtain ⟨σ3, H3, I3, n3⟩ := q3
      obtain ⟨m', hm, w3⟩ := hN σ3 H3 n3
      exact ⟨m', hm, h3, σ3, H3, I3, w3⟩
    | brk => exact q3
    | ret v => exact q3
  | false =>
    rw [if_neg Bool.false_ne_true]
    exact wpAny_execs_nil ⟨σ1, H2, I2, q2⟩
end
/-! ### the judgements, a token given out -/
def SST (X : Cx) (T : Tb) (E : XK) (st : Stmt) (c : M Fl) : Prop := ∃ t, PST X st t ∧ SdS X.K T E t c
def SBT (X : Cx) (T : Tb) (E : XK) (sts : List Stmt) (c : M Fl) : Prop := ∃ t, PSsT X sts t ∧ SdS X.K T E t c
section
variable {X : Cx} {T : Tb} {E : XK} {e c : Expr} {st : Stmt} {sts body : List Stmt} {sa sb : M Fl} {ta : M Bool} {pos : Pos} {k : Nat}
theorem SST.of (h : SS X T E st sa) : SST X T E st sa := let ⟨t, h1, h2⟩ := h; ⟨t, PST.of h1, h2⟩
theorem SBT.of (h : SB X T E sts sa) : SBT X T E sts sa := let ⟨t, h1, h2⟩ := h; ⟨t, PSsT.of h1, h2⟩
theorem sd_seq {t u : TS} (h2 : SdS X.K T E t sa) (h4 : SdS X.K T E u sb) : SdS X.K T E (tSeq t u) (Pu.sSeq sa sb) := fun al r m s G H Z R hP => by
  refine h2 al r m s G H _ R ?_
  unfold Pu.sSeq Pu.bd at hP
  cases q : sa r m with
  | ok f r1 m1 =>
    rw [q] at hP
    cases f with
    | nx => exact fun s' G' H' S' R' => h4 al r1 m1 s' G' H' Z R' (PoS.from_ S' hP)
    | rt d => exact hP
  | exc c m' => rw [q] at hP; exact hP
  | bad => rw [q] at hP; exact hP
theorem sbt_cons (h : SST X T E st sa) (hr : SBT X T E sts sb) : SBT X T E (st :: sts) (Pu.sSeq sa sb) := by
  obtain ⟨t, h1, h2⟩ := h
  obtain ⟨u, h3, h4⟩ := hr
  exact ⟨_, psst_cons h1 h3, sd_seq h2 h4⟩
/-- name = "..", a text: behind it a token is out -/
theorem sb_str (i : Nat) {x : Str} {y : List Nat} {j : Nat} {cpos pos' : Pos} (hN : X.N.Nodup) (hy : TxOk y) (hr : SBT X T E sts sb) (hi : X.N[i]? = some x := by rfl) (hx : Loc X.env.scope x := by first | exact Or.inl rfl | exact Or.inr rfl)
    (hs : swapsWith (.Constant (.str (mkS y)) j cpos) (some (.Name x pos')) pos.line X.env = pure false := by rfl) (hf : X.fn x = true ∨ X.env.scope.names.lookup x = some .local := by first | exact .inl rfl | exact .inr rfl | assumption) :
    SB X T E (.Assign [.Name x pos'] (.Constant (.str (mkS y)) j cpos) pos :: sts) (Pu.sSeq (Pu.sSet i (Pu.cK (.str y))) sb) := by
  obtain ⟨u, h3, h4⟩ := hr
  refine ⟨_, pss_str hN hi hx h3 hs hf, sd_seq (fun al r m s G H Z R hP => ?_) h4⟩
  have hP : PoS X.K T al r s G H E Z (Pu.st i (.v (.str y)) r m) := hP
  obtain ⟨l, P2⟩ := st_lt_of hP (fun z => z)
  exact P2 _ _ _ (step_setV R l) (R.setV l (.str y hy))
theorem sst_while (C : Cn k X E) (hc : ST X T E c ta) (hb : SBT X T E body sa) (n : Nat) : SST X T E (.While c body [] pos) (Pu.sWhile ta sa n) := by
  obtain ⟨tc, h1, h2⟩ := hc
  obtain ⟨tb, h3, h4⟩ := hb
  refine ⟨_, pst_while C.own h1 h3, fun al r m s G H Z R hP => ?_⟩
  refine ⟨fun mm s' H' => ∃ r' m' G', Rel X.K T al G' H' r' m' s' ∧ PoS X.K T al r' s' G' H' E Z (Pu.sWhile ta sa mm r' m'), ⟨n, r, m, G, R, hP⟩, ?_⟩
  rintro mm s' H' ⟨r', m', G', R', P'⟩
  cases mm with
  | zero => exact P'.elim
  | succ mm =>
    refine h2.thnS R' P' fun b r1 m1 v G1 H1 S1 R1 d1 P1 => ?_
    obtain rfl : b = v := d1
    cases b with
    | false => exact iteF (P1 s' G1 H1 Step.refl R1)
    | true =>
      refine iteT ⟨fun s2 H2 => ∃ r2 m2 G2, Rel X.K T al G2 H2 r2 m2 s2 ∧ PoS X.K T al r2 s2 G2 H2 E Z (Pu.sWhile ta sa mm r2 m2), fun s2 H2 h => ⟨mm, Nat.lt_succ_self _, h⟩, ?_⟩
      refine h4 al r1 m1 s' G1 H1 _ R1 ?_
      rw [if_pos rfl] at P1
      unfold Pu.bd at P1
      cases q2 : sa r1 m1 with
      | ok f r4 m4 =>
        rw [q2] at P1
        cases f with
        | nx => exact fun s4 G4 H4 S4 R4 => ⟨r4, m4, G4, R4, PoS.from_ S4 P1⟩
        | rt d => exact P1
      | exc c mm => rw [q2] at P1; exact P1
      | bad => rw [q2] at P1; exact P1
end
/-- where a plain function has an answer -/
def preF (K : PySem.W.Frag) (f : Fn) : List V → Hp → Prop := fun vs H => ∃ (al : Option Addr) (G : Hp) (ds : List D) (m : D), Same G H ∧ DnL K al G vs ds ∧ AmbOk K al G H m ∧ f ds m ≠ .bad
/-- a def that computes f, a list of texts whose tokens were given out -/
structure FnL (P : Program) (w : World) (K : PySem.W.Frag) (mg : Str → Option Value) (base : Heap) (j : Nat) (x : Str) (n : Nat) (f : Fn) : Prop where
  ex : ∃ (fa : Addr) (fd : FuncData) (ps : List Str), FnOk P w K mg base (L2N.CX P w) j fa fd ps (spF K n f) ∧ FnTok P w K mg base j fa fd ps (preF K f) ∧ mg x = some (.ref fa) ∧ PySem.W.keepIn K (.ref fa) = true ∧ Binds K fd ps []
  ar : ∀ ds m, ds.length ≠ n → f ds m = .bad
section
variable {X : Cx} {T : Tb} {E : XK} {k j : Nat} {fl : Fn}
theorem sd_way {jp js jf jo : Nat} : SdS X.K T E (tWay X.K jp js jf jo (spF X.K 2 fl) (preF X.K fl) E) (Pu.wayBlk fl jp js jf jo) := fun al r m s G H Z R hP => by
  unfold Pu.wayBlk at hP
  split at hP
  · rename_i p z x ep ez ex
    split at hP
    · rename_i hl
      obtain ⟨l1, l2, l3, l4, l5⟩ := hl
      obtain ⟨vp, e1, d1⟩ := R.vals jp p ep
      obtain ⟨vz, e2, d2⟩ := R.vals js _ ez
      obtain ⟨vx, e3, d3⟩ := R.vals jf _ ex
      obtain ⟨f2, k2⟩ := d2.str_of
      obtain ⟨f3, k3⟩ := d3.str_of
      subst f2 f3
      have dl : DnL X.K al G [vp, .str (mkS z)] [p, .str z] := .cons d1 (.cons d2 .nil)
      refine ⟨vp, z, x, e1, e2, e3, by rw [ln_eq]; exact l1, l2, ⟨al, G, [p, .str z], m, R.same, dl, R.amb, fun e => ?_⟩, rfl, al, G, [p, .str z], m, R.same, dl, R.amb, ?_⟩
      · rw [e] at hP
        exact hP
      · cases q : fl [p, .str z] m with
        | bad => rw [q] at hP; exact hP
        | exc c m' =>
          rw [q] at hP
          exact fun G' H' S' s2 a2 => hP G' H' ((Step.call R S').sub fun _ z => z.elim) s2 a2
        | ok d m' =>
          rw [q] at hP
          intro v G' H' S' s2 a2 dv
          dsimp only at hP
          split at hP
          · rename_i c em
            unfold Pu.oMaxS at em
            split at em
            · rename_i ds
              split at em
              · rename_i z0 zs es
                have em := Option.some.inj em
                injection em with em
                obtain ⟨a, xs, rfl, g1, _, g2⟩ := dv.lst_of
                rw [Pu.strs_eq es] at g2
                obtain ⟨g3, g4⟩ := DnL.strsD g2
                have hxs : xs = (z0 :: zs).map fun z => V.str (mkS z) := by rw [g3, List.map_map]; rfl
                rw [hxs] at g1
                refine ⟨a, z0, zs, c, rfl, SqL.of (s2 _ _ g1), em, ?_⟩
                have R1 : Rel X.K T al G' H' r m' s := R.call S' s2 a2
                have kc : TxOk [c] := by
                  rw [← em]
                  have hmem : ∀ (ws : List (List Nat)) (w : List Nat), Pu.maxS w ws = w ∨ Pu.maxS w ws ∈ ws := fun ws => by
                    induction ws with
                    | nil => intro w; exact .inl rfl
                    | cons y ws ih =>
                      intro w
                      unfold Pu.maxS
                      rw [List.foldl_cons]
                      by_cases hwy : w < y
                      · rw [if_pos hwy]
                        rcases ih y with q | q
                        · exact .inr (by unfold Pu.maxS at q; rw [q]; exact List.mem_cons_self)
                        · exact .inr (List.mem_cons_of_mem _ q)
                      · rw [if_neg hwy]
                        rcases ih w with q | q
                        · exact .inl q
                        · exact .inr (List.mem_cons_of_mem _ q)
                  rcases hmem zs z0 with q | q
                  · rw [q]; exact g4 z0 List.mem_cons_self
                  · exact g4 _ (List.mem_cons_of_mem _ q)
                have kx : TxOk (x ++ [c]) := ⟨by rw [List.length_append]; exact l1, fun y hy => by
                  rcases List.mem_append.mp hy with q | q
                  · exact k3.cps y q
                  · exact kc.cps y q⟩
                have kz : TxOk (z.filter fun a => !(a == c)) := ⟨Nat.le_trans (List.length_filter_le _ _) k2.len, fun y hy => k2.cps y (List.mem_filter.mp hy).1⟩
                have R2 := R1.setV (v := .str (mkS [c])) l3 (.str [c] kc)
                have R3 := R2.setV (v := .str (mkS (x ++ [c]))) (i := jf) (by rw [List.length_set]; exact l4) (.str (x ++ [c]) kx)
                have R4 := R3.setV (v := .str (mkS (z.filter fun a => !(a == c)))) (i := js) (by rw [List.length_set, List.length_set]; exact l5) (.str (z.filter fun a => !(a == c)) kz)
                refine hP _ G' H' ?_ R4
                refine (Step.call R S').trans ((step_setV R1 l3).trans ((step_setV R2 ?_).trans (step_setV R3 ?_)))
                · rw [List.length_set]; exact l4
                · rw [List.length_set, List.length_set]; exact l5
              · cases em
            · cases em
          · exact hP.elim
    · exact hP.elim
  · exact hP.elim
end
end Tk

namespace Pu
/-- the letters with the least number -/
def lasts (z : List Nat) (ns : List Int) : List Nat := ((z.zip ns).filter fun p => decide (p.2 = minI ns)).map (·.1)
def fLast (fc : Fn) : Fn := fun ds m => match ds with
  | [p, .str z] => (match fc [p, .str z] m with
    | .ok (.lst cs) m' => (match intsD cs with
      | some ns => if ns.length = z.length ∧ z ≠ [] then .ok (.lst (sgn (lasts z ns))) m' else .bad
      | none => .bad)
    | _ => .bad)
  | _ => .bad
end Pu
namespace Tk
open PySem PySem.Spec PyProof.Rows L2 Su
open Pu (D Sl Rho Rs M Ro Fn Fl Tg LN)
section
variable {P : Program} {w : World} {K : PySem.W.Frag} {mg : Str → Option Value} {base : Heap}
theorem tok_last {x : Str} {st st1 : Stmt} {fa : Addr} {fd : FuncData} {N ps : List Str} {k io ip il : Nat} {fc : Fn} {so ow pl le : Str} {scope : Scope} {p1 p2 p3 p4 p5 p6 p7 p8 p9 p10 p11 p12 p13 pt pos rp : Pos} {kk : Nat}
    (F : Fd K x st fa fd) (S : FnScope N ps (defScope st)) (hps : ps.length = 2) (hNl : 2 ≤ N.length)
    (hbd : defBody st = [st1, .Return (some (.ListComp (.Name le p1) [⟨.Tuple [.Name pl p2, .Name le p3] kk pt, .Call (.Name "enumerate" p4) [.Name so p5] [] p6, [.Compare (.Subscript (.Name ow p7) (.Name pl p8) p9) [.Eq] [.Call (.Name "min" p10) [.Name ow p11] [] p12] p13], 0⟩] scope pos)) rp])
    (h1 : ∀ (cdv : Value) (A : Around) (outer : List Env) (s : Shared) (H : Hp) (E : XK), Cn k (cxOf (L2N.CX P w) P w K mg base N x (defScope st) fa cdv A outer s H E) E → SS (cxOf (L2N.CX P w) P w K mg base N x (defScope st) fa cdv A outer s H E) [] E st1 (Pu.sSet io (Pu.cCall fc (Pu.aCons (Pu.cVar 0) (Pu.aCons (Pu.cVar 1) Pu.aNil)))))
    (hio : 2 ≤ io) (hiN : io < N.length)
    (ok : BlkOk N (defScope st) scope [(pl, ip), (le, il)]) (hNs : N[1]? = some so) (hvs : Vis (defScope st) so) (hNo : N[io]? = some ow)
    (hvo : ∀ cl C env, env.scope = defScope st → Vis (compEnvC scope cl C env).scope ow) (hlp : ∀ cl C env, env.scope = defScope st → (compEnvC scope cl C env).scope.names.lookup pl = some .local) (hll : ∀ cl C env, env.scope = defScope st → (compEnvC scope cl C env).scope.names.lookup le = some .local)
    (hge : (defScope st).names.lookup ("enumerate" : Str) = some .globalImplicit) (hme : mg "enumerate" = none) (hgm : ∀ cl C env, env.scope = defScope st → (compEnvC scope cl C env).kindOf "min" = some .globalImplicit) (hmm : mg "min" = none)
    (hio1 : io ≠ ip) (hio2 : io ≠ il) (hpl : ip ≠ il)
    (dd1 : (so == ("__debug__" : Str)) = false := by decide) (dd2 : (so == ("__classdict__" : Str)) = false := by decide) (do1 : (ow == ("__debug__" : Str)) = false := by decide) (do2 : (ow == ("__classdict__" : Str)) = false := by decide) (dp1 : (pl == ("__debug__" : Str)) = false := by decide) (dp2 : (pl == ("__classdict__" : Str)) = false := by decide) (dl1 : (le == ("__debug__" : Str)) = false := by decide) :
    FnTok P w K mg base (k + 1) fa fd ps (preF K (Pu.fLast fc)) := by
  intro A outer s H args us vs hr e0 hb r h0 hp
  obtain ⟨oc, od, dV, kV, doc, pm, an, cdv, ct, osl, rfl, lk, hcd, _, _⟩ := F.ex
  obtain ⟨al, G, ds, m, sm, dv, am, nb⟩ := hp
  -- the plain facts
  obtain ⟨p, z, ns, m', rfl, hc, hln, hzn⟩ : ∃ (p : D) (z : List Nat) (ns : List Int) (m' : D), ds = [p, .str z] ∧ fc [p, .str z] m = .ok (.lst (ns.map .int)) m' ∧ ns.length = z.length ∧ z ≠ [] := by
    unfold Pu.fLast at nb
    split at nb
    · rename_i p z
      split at nb
      · rename_i cs m' hq
        split at nb
        · rename_i ns hi
          split at nb
          · rename_i hl
            exact ⟨p, z, ns, m', rfl, by rw [hq, Pu.ints_eq hi], hl.1, hl.2⟩
          · exact absurd rfl nb
        · exact absurd rfl nb
      · exact absurd rfl nb
    · exact absurd rfl nb
  have hl : vs.length = ps.length := by rw [dv.length, hps]; rfl
  have KX : K.In s.heap := e0.mod.kin.keeps fun b o e => (e0.bs b o e).1
  have lim : s.heap.NoLimit := e0.mod.nolimit.keeps fun b o e => (e0.bs b o e).1
  have hkind : ∀ y ∈ ps.zip us, (defScope st).names.lookup y.1 = some .local ∨ ((defScope st).names.lookup y.1 = some .cell ∧ ((cellsFrom (s.heap.objs.size + 1) (defScope st).names []).lookup y.1).isSome = true) := fun ⟨n, v⟩ hy => by
    rcases S.par n (List.of_mem_zip hy).1 with q | q
    · exact .inl q
    · exact .inr ⟨q, PySem.W.cellsFrom_some _ _ _ (.inl q)⟩
  refine codeAny_call_function hr.depth (KX _ _ lk) rfl S.co S.gen rfl (PySem.W.codeRec_of KX hcd) (hb _ _ _ _ ?_)
  refine up (wpAny_newFunctionEnv_cells S.kind hkind fun env he s1 xc hu1 => ?_)
  subst he
  refine ⟨lim.keeps xc.toInCall.keep, codeAny_func ?_⟩
  generalize hE : (fun (_ : Value) (_ : Option Addr) (_ : Hp) => True) = EE
  have CN := cn_of (P := P) (w := w) (K := K) (mg := mg) (base := base) (N := N) (qual := x) (scope := defScope st) (f := fa) (cd := cdv) (outer := outer) (s := s) (H := H) (E := EE) S.nd (hr.deeper _)
  have I : Inv (cxOf (L2N.CX P w) P w K mg base N x (defScope st) fa cdv A outer s H EE) [] (start N vs) H s1 := inv_start S hr.hd e0 hl r xc
  obtain ⟨t1, g1, g2⟩ := h1 cdv A outer s H EE CN
  have R0 := rel_start (K := K) (N := N) sm dv am
  rw [hbd]
  let Z : Ends := { nx := fun σ' H' => ∃ (r' : Rho) (G' : Hp), Rel K [] al G' H' r' m' σ' ∧ r'[1]? = some (some (.v (.str z))) ∧ r'[io]? = some (some (.v (.lst (ns.map .int)))), rt := fun _ _ => False }
  have hPo : PoS K [] al (Pu.start N.length [p, .str z]) (L2.start N vs) G H EE Z (Pu.sSet io (Pu.cCall fc (Pu.aCons (Pu.cVar 0) (Pu.aCons (Pu.cVar 1) Pu.aNil))) (Pu.start N.length [p, .str z]) m) := by
    have e0' : (Pu.start N.length [p, .str z])[0]? = some (some (.v p)) := rfl
    have e1' : (Pu.start N.length [p, .str z])[1]? = some (some (.v (.str z))) := rfl
    have hlen : (Pu.start N.length [p, .str z]).length = N.length := by
      unfold Pu.start
      rw [List.length_append, List.length_map, List.length_replicate]
      show 2 + (N.length - 2) = N.length
      omega
    have ev : Pu.sSet io (Pu.cCall fc (Pu.aCons (Pu.cVar 0) (Pu.aCons (Pu.cVar 1) Pu.aNil))) (Pu.start N.length [p, .str z]) m = .ok .nx ((Pu.start N.length [p, .str z]).set io (some (.v (.lst (ns.map .int))))) m' := by
      simp only [Pu.sSet, Pu.cCall, Pu.aCons, Pu.aNil, Pu.bd, Pu.pu, Pu.cVar, e0', e1', Pu.ap, hc, Pu.st, hlen, hiN, if_true]
    rw [ev]
    intro s' G' H' S' R'
    refine ⟨_, G', R', ?_, ?_⟩
    · rw [List.getElem?_set_ne (by omega)]
      exact e1'
    · rw [List.getElem?_set_self (by rw [hlen]; exact hiN)]
  refine wpAny_execs_cons (wpAny_mono (up' (g1.run [] s1 (start N vs) H Z I (g2 al _ m _ G H Z R0 hPo))) (fun fl s2 hq => ?_) fun e s' hq => wpAny_mono hq (fun _ _ _ a q => by cases q) fun _ _ _ a q => by cases q)
  obtain ⟨k2, hq⟩ := hq
  cases fl with
  | ret v => obtain ⟨_, _, _, _, _, q⟩ := hq; exact q.elim
  | brk => obtain ⟨_, _, _, q⟩ := hq; exact q.elim
  | cont => obtain ⟨_, _, _, q⟩ := hq; exact q.elim
  | next =>
    obtain ⟨σ2, H2, I2, r2, G2, R2, v1, v2⟩ := hq
    obtain ⟨w1, a1, b1⟩ := R2.vals _ _ v1
    obtain ⟨w2, a2, b2⟩ := R2.vals _ _ v2
    obtain ⟨f1, kz⟩ := b1.str_of
    subst f1
    obtain ⟨a, xs, rfl, c1, c2, c3⟩ := b2.lst_of
    rw [DnL.intsD c3] at c1
    refine wpAny_execs_cons (wpAny_Return_some (wpAny_mono (comp_tok (X := cxOf (L2N.CX P w) P w K mg base N x (defScope st) fa cdv A outer s H EE) (a := a) (ns := ns) CN.calm S.nd I2 (Nat.lt_of_lt_of_le (Nat.lt_of_lt_of_le Nat.zero_lt_one (Nat.le_trans h0 hu1)) k2) ok hNs hvs a1 hNo a2 (SqL.of (R2.same _ _ c1)) (by rw [hln]; exact (mkS_len z).symm) (by rw [ln_eq]; exact (by rw [show (mkS z).cps.size = z.length from mkS_len z]; exact kz.len)) (fun cl C => hvo cl C _ rfl) (fun cl C => hlp cl C _ rfl) (fun cl C => hll cl C _ rfl) hge hme (fun cl C => hgm cl C _ rfl) hmm hio1 hio2 hpl dd1 dd2 do1 do2 dp1 dp2 dl1) (fun v s3 hq => ?_) fun e s' hq => wpAny_mono hq (fun _ _ _ a q => by cases q) fun _ _ _ a q => by cases q))
    obtain ⟨D, rfl, hG⟩ := hq
    intro b e
    cases e
    exact hG
end
end Tk

namespace Tk
open PySem PySem.Spec PyProof.Rows L2 Su
open Pu (D Sl Rho Rs M Ro Fn Fl Tg LN)
theorem env_scope {scope : Scope} {cl : List (Str × Addr)} {C : Addr} {env : Env} : (compEnvC scope cl C env).scope = relS scope env.scope := rfl
section
variable {P : Program} {w : World} {K : PySem.W.Frag} {mg : Str → Option Value} {base : Heap}
theorem fnl_of {x : Str} {f g : Fn} {j n : Nat} {fa : Addr} {fd : FuncData} {ps : List Str} (fo : FnOk P w K mg base (L2N.CX P w) j fa fd ps (spF K n f)) (ft : FnTok P w K mg base j fa fd ps (preF K g)) (hm : mg x = some (.ref fa)) (kp : PySem.W.keepIn K (.ref fa) = true) (hb : Binds K fd ps [])
    (h : ∀ ds m, g ds m ≠ .bad → f ds m = g ds m) (ar : ∀ ds m, ds.length ≠ n → g ds m = .bad) : FnL P w K mg base j x n g :=
  ⟨⟨fa, fd, ps, fo.imp fun vs H Q E ⟨l, al, G, ds, m, s, d, a, p⟩ => ⟨l, al, G, ds, m, s, d, a, by
    by_cases e : g ds m = .bad
    · rw [e] at p; exact p.elim
    · rw [h ds m e]; exact p⟩, ft, hm, kp, hb⟩, ar⟩
theorem FnL.fns {x : Str} {f : Fn} {j n : Nat} (F : FnL P w K mg base j x n f) : FnS P w K mg base j x n f := by
  obtain ⟨⟨fa, fd, ps, h1, _, h2⟩, ar⟩ := F
  exact ⟨⟨fa, fd, ps, h1, h2⟩, ar⟩
theorem last_ar (fc : Fn) (ds : List D) (m : D) (h : ds.length ≠ 2) : Pu.fLast fc ds m = .bad := by
  unfold Pu.fLast
  split
  · exact absurd rfl h
  · rfl
/-- last_ones: as it computes, with tokens -/
theorem last_fnl {x : Str} {st st1 : Stmt} {fa : Addr} {fd : FuncData} {N ps : List Str} {k io ip il nn : Nat} {fc : Fn} {cbody : M Fl} {so ow pl le : Str} {scope : Scope} {p1 p2 p3 p4 p5 p6 p7 p8 p9 p10 p11 p12 p13 pt pos rp : Pos} {kk : Nat}
    (F : Fd K x st fa fd) (hm : mg x = some (.ref fa)) (hb : Binds K fd ps []) (S : FnScope N ps (defScope st)) (hps : ps.length = 2) (hN : N.length = nn) (hme : mg "enumerate" = none) (hmm : mg "min" = none)
    (body : ∀ (cdv : Value) (A : Around) (outer : List Env) (s : Shared) (H : Hp) (E : XK), Cn k (cxOf (L2N.CX P w) P w K mg base N x (defScope st) fa cdv A outer s H E) E → SB (cxOf (L2N.CX P w) P w K mg base N x (defScope st) fa cdv A outer s H E) [] E (defBody st) cbody)
    (h1 : ∀ (cdv : Value) (A : Around) (outer : List Env) (s : Shared) (H : Hp) (E : XK), Cn k (cxOf (L2N.CX P w) P w K mg base N x (defScope st) fa cdv A outer s H E) E → SS (cxOf (L2N.CX P w) P w K mg base N x (defScope st) fa cdv A outer s H E) [] E st1 (Pu.sSet io (Pu.cCall fc (Pu.aCons (Pu.cVar 0) (Pu.aCons (Pu.cVar 1) Pu.aNil)))))
    (hpl : ∀ ds m, Pu.fLast fc ds m ≠ .bad → Pu.fn 2 nn cbody ds m = Pu.fLast fc ds m)
    (own : List (Str × Nat)) (hown : own = [(pl, ip), (le, il)]) (ok : blkC N (defScope st) scope own = true)
    (hbd : defBody st = [st1, .Return (some (.ListComp (.Name le p1) [⟨.Tuple [.Name pl p2, .Name le p3] kk pt, .Call (.Name "enumerate" p4) [.Name so p5] [] p6, [.Compare (.Subscript (.Name ow p7) (.Name pl p8) p9) [.Eq] [.Call (.Name "min" p10) [.Name ow p11] [] p12] p13], 0⟩] scope pos)) rp] := by rfl)
    (hNs : N[1]? = some so := by rfl) (hNo : N[io]? = some ow := by rfl) (hio : 2 ≤ io := by decide) (hiN : io < nn := by decide)
    (hvs : Vis (defScope st) so := by first | exact Or.inl rfl | exact Or.inr (Or.inl rfl) | exact Or.inr (Or.inr rfl))
    (hvo : Vis (relS scope (defScope st)) ow := by first | exact Or.inl rfl | exact Or.inr (Or.inl rfl) | exact Or.inr (Or.inr rfl)) (hlp : (relS scope (defScope st)).names.lookup pl = some .local := by rfl) (hll : (relS scope (defScope st)).names.lookup le = some .local := by rfl)
    (hge : (defScope st).names.lookup ("enumerate" : Str) = some .globalImplicit := by rfl) (hgm : (relS scope (defScope st)).names.lookup ("min" : Str) = some .globalImplicit := by rfl)
    (hio1 : io ≠ ip := by decide) (hio2 : io ≠ il := by decide) (hpl' : ip ≠ il := by decide)
    (dd1 : (so == ("__debug__" : Str)) = false := by decide) (dd2 : (so == ("__classdict__" : Str)) = false := by decide) (do1 : (ow == ("__debug__" : Str)) = false := by decide) (do2 : (ow == ("__classdict__" : Str)) = false := by decide) (dp1 : (pl == ("__debug__" : Str)) = false := by decide) (dp2 : (pl == ("__classdict__" : Str)) = false := by decide) (dl1 : (le == ("__debug__" : Str)) = false := by decide) :
    FnL P w K mg base (k + 1) x 2 (Pu.fLast fc) := by
  subst hown hN
  refine fnl_of (fn_ok F S hps rfl body) (tok_last F S hps ?_ hbd h1 hio hiN (blkOk_by ok) hNs hvs hNo ?_ ?_ ?_ hge hme ?_ hmm hio1 hio2 hpl' dd1 dd2 do1 do2 dp1 dp2 dl1) hm F.kp hb hpl (last_ar fc)
  · omega
  · intro cl C env e; rw [env_scope, e]; exact hvo
  · intro cl C env e; rw [env_scope, e]; exact hlp
  · intro cl C env e; rw [env_scope, e]; exact hll
  · intro cl C env e
    show (compEnvC scope cl C env).scope.names.lookup _ = _
    rw [env_scope, e]
    exact hgm
end
section
variable {X : Cx} {T : Tb} {E : XK} {k j : Nat} {fl : Fn}
/-- one round of way_of -/
theorem sbt_way {la pa so fo ou : Str} {jp js jf jo : Nat} {q1 q2 q3 q4 q5 q6 q7 q8 q9 q10 q11 q12 q13 q14 q15 q16 q17 q18 q19 q20 q21 : Pos} {kt k2 kc : Nat} (C : Cn k X E) (F : FnL X.prog X.w X.K X.mg X.base j la 2 fl) (hj : j ≤ k) (hmm : X.mg "max" = none)
    (hNp : X.N[jp]? = some pa := by rfl) (hNs : X.N[js]? = some so := by rfl) (hNf : X.N[jf]? = some fo := by rfl) (hNo : X.N[jo]? = some ou := by rfl) (hfs : jf ≠ js := by decide) (hof : jo ≠ jf := by decide) (hos : jo ≠ js := by decide)
    (hg : Gl X la := by rfl) (hgm : Gl X "max" := by rfl)
    (vp : Vis X.env.scope pa := by first | exact Or.inl rfl | exact Or.inr (Or.inl rfl) | exact Or.inr (Or.inr rfl)) (lf : X.env.scope.names.lookup fo = some .local := by rfl) (ls : X.env.scope.names.lookup so = some .local := by rfl) (lo : X.env.scope.names.lookup ou = some .local := by rfl)
    (dl : (la == ("__debug__" : Str)) = false := by decide) (dp : (pa == ("__debug__" : Str)) = false := by decide) (dp2 : (pa == ("__classdict__" : Str)) = false := by decide)
    (d1 : (fo == ("__debug__" : Str)) = false := by decide) (d2 : (fo == ("__classdict__" : Str)) = false := by decide) (d3 : (so == ("__debug__" : Str)) = false := by decide) (d4 : (so == ("__classdict__" : Str)) = false := by decide) (d5 : (ou == ("__debug__" : Str)) = false := by decide)
    (hsw : swapsWith (.Call (.Name "max" q2) [.Call (.Name la q3) [.Name pa q4, .Name so q5] [] q6] [] q7) (some (.Name ou q1)) q8.line X.env = pure false := by rfl)
    (hw : swappedStores [.Tuple [.Name fo q9, .Name so q10] kt q11] (.Tuple [.BinOp (.Name fo q12) .Add (.Name ou q13) q14, .Call (.Attribute (.Name so q15) "replace" q16) [.Name ou q17, .Constant (.str "") kc q18] [] q19] k2 q20) X.env = pure (some [fo, so]) := by rfl)
    (hs : swapsWithSole [.Tuple [.Name fo q9, .Name so q10] kt q11] (.Tuple [.BinOp (.Name fo q12) .Add (.Name ou q13) q14, .Call (.Attribute (.Name so q15) "replace" q16) [.Name ou q17, .Constant (.str "") kc q18] [] q19] k2 q20) q21.line X.env = pure false := by rfl)
    (hline : (q16.endLine == q19.line) = true := by rfl) :
    SBT X T E [.Assign [.Name ou q1] (.Call (.Name "max" q2) [.Call (.Name la q3) [.Name pa q4, .Name so q5] [] q6] [] q7) q8,
      .Assign [.Tuple [.Name fo q9, .Name so q10] kt q11] (.Tuple [.BinOp (.Name fo q12) .Add (.Name ou q13) q14, .Call (.Attribute (.Name so q15) "replace" q16) [.Name ou q17, .Constant (.str "") kc q18] [] q19] k2 q20) q21] (Pu.wayBlk fl jp js jf jo) := by
  obtain ⟨⟨fa, fd, ps, fo', ft, hm, hk, hb⟩, ar⟩ := F
  exact ⟨_, psst_way C.calm C.nd fo' (ft) (C.room.mono hj) hb C.pass hg hm hk hgm hmm hNp hNs hNf hNo hfs hof hos vp lf ls lo dl dp dp2 d1 d2 d3 d4 d5 hsw hw hs hline, sd_way⟩
theorem sbt_one {st : Stmt} {sa : M Fl} (h : SS X T E st sa) : SBT X T E [st] sa := SBT.of (sb_one h)
end
end Tk

namespace Tk
open PySem PySem.Spec PyProof.Rows L2 Su
open Pu (D Sl Rho Rs M Ro Fn Fl Tg LN)
section
variable {X : Cx} {tg : Expr}
theorem pst_forT {iter : Expr} {body : List Stmt} {wi : TI} {g : TG} {tb : TS} {pos : Pos} (hp : PassesOwn (model X.prog X.w) X.A X.env X.xe) (hc : X.calm = true) (hi : PI X tg iter wi) (hg : PG X tg g) (hb : PSsT X body tb)
    (hs : ∀ x, foldedSetIterable iter X.env x = pure x := by intro _; rfl) : PST X (.For tg iter body [] pos) (tFor wi g tb) := by
  intro pins s σ H D h0 I h
  refine wpAny_For (wpAny_mono (up' (hi.run pins s σ H _ I h)) (fun v s1 h1 => wpAny_mono (up' h1.2) (fun itv s2 h2 => ?_) fun _ _ x => x) fun _ _ x => x) hs
  obtain ⟨k1, _⟩ := h1
  obtain ⟨k2, it, fp, tn, J, H2, e, I2, T, st2, f2, W, ⟨m0, w0⟩, turn⟩ := h2
  subst e
  have stat : ∀ {H' : Hp}, (∀ b ∈ fp, H' b = none) → ∀ b ∈ fp, FpOk X pins H' b := fun hn b hb => ⟨hn b hb, (f2 b hb).2⟩
  refine codeAny_forLoop_any (fun n s' => 1 ≤ s'.toks ∧ ∃ i σ' H', Inv X pins σ' H' s' ∧ tn i s'.heap ∧ (∀ b ∈ fp, H' b = none) ∧ W i n σ' H') ?_ m0 ⟨Nat.le_trans h0 (Nat.le_trans k1 k2), 0, σ, H2, I2, st2, fun b hb => (f2 b hb).1, w0⟩
  rintro n s3 ⟨t3, i, σ3, H3, I3, st3, fr3, w3⟩
  rcases turn i n σ3 H3 w3 with ⟨stop, qn⟩ | ⟨go, N, hN, step⟩
  · refine wpAny_passesOwn hp (thn (T.done X rfl rfl rfl hc i pins s3 σ3 H3 X.xe I3 (stat fr3) st3 stop) fun r s4 ⟨hr, I4⟩ => ?_)
    subst hr
    exact wpAny_execs_nil ⟨σ3, H3, I4, qn⟩
  · refine wpAny_passesOwn hp (wpAny_mono (up' (T.item X rfl rfl rfl hc i pins s3 σ3 H3 X.xe I3 (stat fr3) st3 go)) (fun r s4 hq4 => ?_) fun _ _ x => x)
    obtain ⟨t4, u, hr, h4⟩ := hq4
    subst hr
    refine wpAny_passesOwn hp (wpAny_mono (up' h4) (fun _ s5 hq5 => ?_) fun _ _ x => x)
    obtain ⟨t5, x, H5, I5, r5, y5, st5, fr5⟩ := hq5
    have I5' := I5.pinned (stat fr5) (T.obj _ _ st5)
    refine wpAny_passesOwn hp (wpAny_mono (up' (hg.run _ s5 σ3 H5 x u _ I5' r5 (step x H5 y5))) (fun _ s6 hq6 => ?_) fun _ _ x => x)
    obtain ⟨t6, σ6, H6, I6, q6⟩ := hq6
    have p6 : 1 ≤ s6.toks := Nat.le_trans t3 (Nat.le_trans t4 (Nat.le_trans t5 t6))
    refine wpAny_passesOwn hp (wpAny_mono (up' (hb _ s6 σ6 H6 _ p6 I6 q6)) (fun f s7 hq7 => ?_) fun _ _ x => x)
    obtain ⟨t7, q7⟩ := hq7
    have again : ∀ {σ7 : L2.St} {H7 : Hp}, Inv X (pins ++ pinsAt fp s5.heap) σ7 H7 s7 → N σ7 H7 → ∃ m, m < n ∧ 1 ≤ s7.toks ∧ ∃ i σ' H', Inv X pins σ' H' s7 ∧ tn i s7.heap ∧ (∀ b ∈ fp, H' b = none) ∧ W i m σ' H' := fun {σ7 H7} I7 n7 => by
      obtain ⟨m', hm, w7⟩ := hN σ7 H7 n7
      have pn : ∀ b ∈ fp, ∀ o, s5.heap.get? b = some o → s7.heap.get? b = some o ∧ H7 b = none := fun b hb o e =>
        let z := I7.pin (b, o) (List.mem_append_right _ (List.mem_append_right _ (mem_pinsAt hb e)))
        ⟨z.1, z.2.1⟩
      refine ⟨m', hm, Nat.le_trans p6 t7, i + 1, σ7, H7, I7.unpinned, T.keep _ _ _ st5 fun b hb o e => (pn b hb o e).1, fun b hb => ?_, w7⟩
      obtain ⟨o, e, d⟩ := T.obj _ _ st5 b hb
      exact (pn b hb o e).2
    cases f with
    | next => obtain ⟨σ7, H7, I7, n7⟩ := q7; exact again I7 n7
    | cont => obtain ⟨σ7, H7, I7, n7⟩ := q7; exact again I7 n7
    | brk => obtain ⟨σ7, H7, I7, q7⟩ := q7; exact ⟨σ7, H7, I7.unpinned, q7⟩
    | ret v => obtain ⟨x7, σ7, H7, I7, r7, q7⟩ := q7; exact ⟨x7, σ7, H7, I7.unpinned, r7, q7⟩
end
end Tk

namespace Pu
/-- the last of the letters with the least number goes out: slots of own, some, found, out -/
def lwayBlk (jw js jf jo : Nat) : M Fl := fun r m => match r[jw]?, r[js]?, r[jf]? with
  | some (some (.v (.lst cs))), some (some (.v (.str z))), some (some (.v (.str x))) => (match intsD cs with
    | some ns => if ns.length = z.length ∧ x.length + 1 ≤ LN ∧ z.length ≤ LN ∧ jo + 3 ≤ r.length ∧ jf < r.length ∧ js < r.length then
        (match (lasts z ns).getLast? with
        | some c => .ok .nx (((r.set jo (some (.v (.str [c])))).set jf (some (.v (.str (x ++ [c]))))).set js (some (.v (.str (z.filter fun a => !(a == c)))))) m
        | none => .bad) else .bad
    | none => .bad)
  | _, _, _ => .bad
end Pu
namespace Tk
open PySem PySem.Spec PyProof.Rows L2 Su
open Pu (D Sl Rho Rs M Ro Fn Fl Tg LN)
section
variable {X : Cx} {T : Tb} {E : XK} {tg iter c : Expr} {body : List Stmt} {sa : M Fl} {ci : M (List D)} {g : Tg} {pos : Pos} {k : Nat}
theorem sst_for (C : Cn k X E) (hi : SI X T E tg iter ci) (hg : SG X T tg g) (hb : SBT X T E body sa) (hs : ∀ x, foldedSetIterable iter X.env x = pure x := by intro _; rfl) : SST X T E (.For tg iter body [] pos) (Pu.sFor ci g sa) := by
  obtain ⟨wi, h1, h2⟩ := hi
  obtain ⟨tt, h3, h4⟩ := hg
  obtain ⟨tb, h5, h6⟩ := hb
  refine ⟨_, pst_forT C.own C.calm h1 h3 h5 hs, fun al r m s G H Z R hP => ?_⟩
  refine h2.thnS R hP fun ds r1 m1 J G1 H1 S1 R1 y1 P1 => ?_
  have y1 : Yz X.K T al (Ow r1 s) G1 H1 ds J := y1.2.z
  refine ⟨fun i mm s' H' => mm = ds.length - i ∧ i ≤ ds.length ∧ ∃ r' m' G', Rel X.K T al G' H' r' m' s' ∧ Yz X.K T al (Ow r' s') G' H' ds J ∧ PoS X.K T al r' s' G' H' E Z (Pu.forL g sa (ds.drop i) r' m'),
    ⟨ds.length, rfl, Nat.zero_le _, r1, m1, G1, R1, y1, by rw [List.drop_zero]; exact P1⟩, ?_⟩
  rintro i mm s' H' ⟨rfl, hi, r', m', G', R', y', P'⟩
  obtain ⟨yi, ye⟩ := y' _ G' H' Step.refl R'.same
  by_cases hlt : i < ds.length
  · have hd : ds[i]? = some ds[i] := by simp [hlt]
    obtain ⟨go, nxt⟩ := yi i _ hd
    have ed : ds.drop i = ds[i] :: ds.drop (i + 1) := List.drop_eq_getElem_cons hlt
    refine .inr ⟨go, fun s2 H2 => ∃ r2 m2 G2, Rel X.K T al G2 H2 r2 m2 s2 ∧ Yz X.K T al (Ow r2 s2) G2 H2 ds J ∧ PoS X.K T al r2 s2 G2 H2 E Z (Pu.forL g sa (ds.drop (i + 1)) r2 m2), fun s2 H2 h => ⟨ds.length - (i + 1), by omega, rfl, hlt, h⟩, fun x H'' hy => ?_⟩
    obtain ⟨G'', fx, dn⟩ := nxt x H'' hy
    have R2 := fx.rel R'
    have S2 : Step T al (Ow r' s') G' H' (Ow r' s') G'' H'' := fx.step R'.same
    rw [ed] at P'
    have P2 := PoS.from_ S2 P'
    unfold Pu.forL Pu.bd Pu.tgt at P2
    cases q : Pu.asg g ds[i] r' with
    | none => rw [q] at P2; exact P2.elim
    | some r3 =>
      rw [q] at P2
      refine h4 al r' r3 m' s' G'' H'' x _ _ R2 dn q fun s3 _ S3 R3 => ?_
      refine h6 al r3 m' s3 G'' H'' _ R3 ?_
      have P3 := PoS.from_ S3 P2
      unfold Pu.bd at P3
      dsimp only at P3
      cases q2 : sa r3 m' with
      | ok f r4 m4 =>
        rw [q2] at P3
        cases f with
        | nx => exact fun s4 G4 H4 S4 R4 => ⟨r4, m4, G4, R4, y'.from_ ((S2.trans S3).trans S4), PoS.from_ S4 P3⟩
        | rt d => exact P3
      | exc c mm => rw [q2] at P3; exact P3
      | bad => rw [q2] at P3; exact P3
  · have e : i = ds.length := by omega
    subst e
    rw [List.drop_length] at P'
    exact .inl ⟨ye, P' s' G' H' Step.refl R'⟩
end
/-- the comprehension's last letter goes out -/
def tLway (K : PySem.W.Frag) (jw js jf jo : Nat) (tl : TE) : TS := fun D σ H => ∃ (a : Addr) (ns : List Int) (z x : List Nat), σ[jw]? = some (some (.ref a)) ∧ SqL K H a (ns.map V.int) ∧ ns.length = z.length ∧ σ[js]? = some (some (.str (mkS z))) ∧ σ[jf]? = some (some (.str (mkS x))) ∧ x.length + 1 ≤ sizeLine ∧ z.length ≤ 16777216 ∧
  tl σ H fun v H2 => ∃ (b : Addr) (cs : List Nat) (c : Nat), v = .ref b ∧ SqL K H2 b (cs.map fun c => V.str (mkS [c])) ∧ cs.getLast? = some c ∧
    D.nx (((σ.set jo (some (.str (mkS [c])))).set jf (some (.str (mkS (x ++ [c]))))).set js (some (.str (mkS (z.filter fun a => !(a == c)))))) H2
section
variable {X : Cx} {tl : TE}
theorem psst_lway {so ow pl le fo ou : Str} {jw js jf jo ip il : Nat} {scope : Scope} {p1 p2 p3 p4 p5 p6 p7 p8 p9 p10 p11 p12 p13 pt pos : Pos} {kk : Nat} {q1 q2 q3 q4 q5 q9 q10 q11 q12 q13 q14 q15 q16 q17 q18 q19 q20 q21 : Pos} {kt k2 kc k1 : Nat} (hc : X.calm = true) (hN : X.N.Nodup)
    (hl : PE X (.ListComp (.Name le p1) [⟨.Tuple [.Name pl p2, .Name le p3] kk pt, .Call (.Name "enumerate" p4) [.Name so p5] [] p6, [.Compare (.Subscript (.Name ow p7) (.Name pl p8) p9) [.Eq] [.Call (.Name "min" p10) [.Name ow p11] [] p12] p13], 0⟩] scope pos) tl)
    (ok : BlkOk X.N X.env.scope scope [(pl, ip), (le, il)]) (hNs : X.N[js]? = some so) (hNw : X.N[jw]? = some ow) (hNf : X.N[jf]? = some fo) (hNo : X.N[jo]? = some ou)
    (hvo : Vis (relS scope X.env.scope) ow) (hlp : (relS scope X.env.scope).names.lookup pl = some .local) (hll : (relS scope X.env.scope).names.lookup le = some .local)
    (hge : Gl X "enumerate") (hme : X.mg "enumerate" = none) (hgm : (relS scope X.env.scope).names.lookup ("min" : Str) = some .globalImplicit) (hmm : X.mg "min" = none)
    (hio1 : jw ≠ ip) (hio2 : jw ≠ il) (hpl : ip ≠ il) (hfs : jf ≠ js) (hof : jo ≠ jf) (hos : jo ≠ js) (lf : X.env.scope.names.lookup fo = some .local) (ls : X.env.scope.names.lookup so = some .local) (lo : X.env.scope.names.lookup ou = some .local)
    (do1 : (ow == ("__debug__" : Str)) = false := by decide) (do2 : (ow == ("__classdict__" : Str)) = false := by decide) (dp1 : (pl == ("__debug__" : Str)) = false := by decide) (dp2 : (pl == ("__classdict__" : Str)) = false := by decide) (dl1 : (le == ("__debug__" : Str)) = false := by decide)
    (d1 : (fo == ("__debug__" : Str)) = false := by decide) (d2 : (fo == ("__classdict__" : Str)) = false := by decide) (d3 : (so == ("__debug__" : Str)) = false := by decide) (d4 : (so == ("__classdict__" : Str)) = false := by decide) (d5 : (ou == ("__debug__" : Str)) = false := by decide)
    (hsw : swapsWith (.Subscript (.ListComp (.Name le p1) [⟨.Tuple [.Name pl p2, .Name le p3] kk pt, .Call (.Name "enumerate" p4) [.Name so p5] [] p6, [.Compare (.Subscript (.Name ow p7) (.Name pl p8) p9) [.Eq] [.Call (.Name "min" p10) [.Name ow p11] [] p12] p13], 0⟩] scope pos) (.UnaryOp .USub (.Constant (.int 1) k1 q2) q3) q4) (some (.Name ou q1)) q5.line X.env = pure false := by rfl)
    (hw : swappedStores [.Tuple [.Name fo q9, .Name so q10] kt q11] (.Tuple [.BinOp (.Name fo q12) .Add (.Name ou q13) q14, .Call (.Attribute (.Name so q15) "replace" q16) [.Name ou q17, .Constant (.str "") kc q18] [] q19] k2 q20) X.env = pure (some [fo, so]) := by rfl)
    (hs : swapsWithSole [.Tuple [.Name fo q9, .Name so q10] kt q11] (.Tuple [.BinOp (.Name fo q12) .Add (.Name ou q13) q14, .Call (.Attribute (.Name so q15) "replace" q16) [.Name ou q17, .Constant (.str "") kc q18] [] q19] k2 q20) q21.line X.env = pure false := by rfl)
    (hline : (q16.endLine == q19.line) = true := by rfl) :
    PSsT X [.Assign [.Name ou q1] (.Subscript (.ListComp (.Name le p1) [⟨.Tuple [.Name pl p2, .Name le p3] kk pt, .Call (.Name "enumerate" p4) [.Name so p5] [] p6, [.Compare (.Subscript (.Name ow p7) (.Name pl p8) p9) [.Eq] [.Call (.Name "min" p10) [.Name ow p11] [] p12] p13], 0⟩] scope pos) (.UnaryOp .USub (.Constant (.int 1) k1 q2) q3) q4) q5,
      .Assign [.Tuple [.Name fo q9, .Name so q10] kt q11] (.Tuple [.BinOp (.Name fo q12) .Add (.Name ou q13) q14, .Call (.Attribute (.Name so q15) "replace" q16) [.Name ou q17, .Constant (.str "") kc q18] [] q19] k2 q20) q21] (tLway X.K jw js jf jo tl) := by
  intro pins s σ H D h0 I h
  obtain ⟨a, ns, z, x, sw, hq, hln, ss, sf, hx1, hz1, ht⟩ := h
  have hzc : (mkS z).cps.size = z.length := mkS_len z
  have hline24 : (16777216 : Nat) ≤ sizeLine := by rw [sizeLine_eq]; exact Nat.le_refl _
  refine wpAny_execs_cons (wpAny_Assign_Name (Subscript_ ?_) hsw)
  refine wpAny_mono (up' (both (hl.run pins s σ H _ I ht) (comp_tok hc hN I (Nat.lt_of_lt_of_le Nat.zero_lt_one h0) ok hNs (.inl ls) ss hNw sw hq (by rw [hzc]; exact hln) (by rw [hzc]; omega) (fun cl C => hvo) (fun cl C => hlp) (fun cl C => hll) hge hme (fun cl C => hgm) hmm hio1 hio2 hpl d3 d4 do1 do2 dp1 dp2 dl1))) (fun u s1 hq1 => ?_) fun _ _ z => z.1
  obtain ⟨t1, ⟨v1, H1, I1, r1, b, cs, c, ev, hl1, hlast, qn⟩, D', eD, hG⟩ := hq1
  subst ev
  obtain rfl : u = Value.ref b := r1
  cases eD
  obtain ⟨its, nn, hD, hG⟩ := hG
  obtain ⟨its', rv, pl', hzl⟩ := I1.list hl1
  obtain rfl := list_same hD pl'.isList
  have hlen := rv.length
  rw [List.length_map] at hlen hzl
  have hne : cs ≠ [] := fun e => by rw [e] at hlast; cases hlast
  have hcl : 0 < cs.length := List.length_pos_iff.mpr hne
  obtain ⟨w, ew, rw'⟩ := rv.get (i := cs.length - 1) (x := V.str (mkS [c])) (by
    rw [List.getElem?_map]
    have : cs[cs.length - 1]? = some c := by rw [← List.getLast?_eq_getElem?]; exact hlast
    rw [this]
    rfl)
  have hgood : ∃ t, w = Value.str (mkS [c]) t ∧ t ≠ 0 ∧ t < s1.toks := by
    obtain ⟨y, t, e, t0, tl⟩ := hG w (List.mem_of_getElem? ew)
    obtain ⟨t', e'⟩ := rw'
    have et : t' = t := by
      rw [e'] at e
      injection e
    exact ⟨t', e', by rw [et]; exact t0, by rw [et]; exact tl⟩
  obtain ⟨tc, ec, t0, tl'⟩ := hgood
  subst ec
  -- the place -1
  refine UnaryOp_ (wpAny_Constant_int (neg_int ?_))
  have I2 := I1.tok (s1.toks + 2)
  have e1 : (-1 + (its'.toArray.size : Int)).toNat = cs.length - 1 := by rw [List.size_toArray]; omega
  have h63 := line63
  refine subscriptTail_builtinR (x := Value.str (mkS [c]) tc) pl'.isList.typeIs slot_list_getitem.lookup (wpAny_getItem_list_neg (s := { s1 with toks := s1.toks + 2 }) (Q := fun r s' => r = Value.str (mkS [c]) tc ∧ _) pl'.isList (by omega) (by rw [List.size_toArray]; omega) (by omega) (by rw [e1]; simpa using ew) ⟨rfl, ?_⟩) rfl
  refine store_raw (v := .str (mkS [c])) I2 hN hNo lo ⟨tc, rfl⟩ fun s4 m t4 I4 hn hm4 => ?_
  have t4 : s1.toks + 2 ≤ s4.toks := t4
  refine wpAny_execs_cons (take_out (t := tc) hc hN hNf hNs hfs lf ls lo I4 ?_ ?_ hn hm4 t0 (Nat.lt_of_lt_of_le tl' (Nat.le_trans (Nat.le_add_right _ 2) t4)) hx1 hz1 (fun s5 I5 => wpAny_execs_nil ⟨_, H1, I5, qn⟩) d1 d2 d3 d4 d5 hw hs rfl hline)
  · rw [List.getElem?_set_ne hof]; exact sf
  · rw [List.getElem?_set_ne hos]; exact ss
end
end Tk

namespace Tk
open PySem PySem.Spec PyProof.Rows L2 Su
open Pu (D Sl Rho Rs M Ro Fn Fl Tg LN)
section
variable {X : Cx} {T : Tb} {E : XK} {tl : TE} {cl : M D} {k : Nat}
theorem sd_lway {jw js jf jo : Nat} (h2 : Sd X.K T E tl (vD X.K) cl)
    (hcl : ∀ (r : Rho) (m : D) (z : List Nat) (ns : List Int) (c : Nat), jo + 3 ≤ r.length → r[js]? = some (some (.v (.str z))) → r[jw]? = some (some (.v (.lst (ns.map .int)))) → ns.length = z.length → (Pu.lasts z ns).getLast? = some c → cl r m = .ok (.lst (Pu.sgn (Pu.lasts z ns))) r m) :
    SdS X.K T E (tLway X.K jw js jf jo tl) (Pu.lwayBlk jw js jf jo) := fun al r m s G H Z R hP => by
  unfold Pu.lwayBlk at hP
  split at hP
  · rename_i cs z x ew ez ex
    split at hP
    · rename_i ns en
      split at hP
      · rename_i hl
        obtain ⟨l0, l1, l2, l3', l4, l5⟩ := hl
        have l3 : jo < r.length := by omega
        split at hP
        · rename_i c hlast
          rw [Pu.ints_eq en] at ew
          obtain ⟨vw, e1, d1⟩ := R.vals jw _ ew
          obtain ⟨vz, e2, d2⟩ := R.vals js _ ez
          obtain ⟨vx, e3, d3⟩ := R.vals jf _ ex
          obtain ⟨f2, k2⟩ := d2.str_of
          obtain ⟨f3, k3⟩ := d3.str_of
          subst f2 f3
          obtain ⟨a, xs, rfl, g1, _, g2⟩ := d1.lst_of
          rw [DnL.intsD g2] at g1
          refine ⟨a, ns, z, x, e1, SqL.of (R.same _ _ g1), l0, e2, e3, by rw [ln_eq]; exact l1, l2, ?_⟩
          refine h2 al r m s G H _ R ?_
          rw [hcl r m z ns c l3' ez ew l0 hlast]
          intro v G' H' S' R' dv
          obtain ⟨b, ys, rfl, y1, _, y2⟩ := dv.lst_of
          have es : Pu.sgn (Pu.lasts z ns) = ((Pu.lasts z ns).map fun c => [c]).map .str := by rw [List.map_map]; rfl
          rw [es] at y2
          obtain ⟨y3, y4⟩ := DnL.strsD y2
          have hys : ys = (Pu.lasts z ns).map fun c => V.str (mkS [c]) := by rw [y3, List.map_map, List.map_map]; rfl
          rw [hys] at y1
          refine ⟨b, Pu.lasts z ns, c, rfl, SqL.of (R'.same _ _ y1), hlast, ?_⟩
          have kc : TxOk [c] := y4 [c] (List.mem_map.mpr ⟨c, List.mem_of_getLast? hlast, rfl⟩)
          have kx : TxOk (x ++ [c]) := ⟨by rw [List.length_append]; exact l1, fun y hy => by
            rcases List.mem_append.mp hy with q | q
            · exact k3.cps y q
            · exact kc.cps y q⟩
          have kz : TxOk (z.filter fun a => !(a == c)) := ⟨Nat.le_trans (List.length_filter_le _ _) k2.len, fun y hy => k2.cps y (List.mem_filter.mp hy).1⟩
          have R2 := R'.setV (v := .str (mkS [c])) l3 (.str [c] kc)
          have R3 := R2.setV (v := .str (mkS (x ++ [c]))) (i := jf) (by rw [List.length_set]; exact l4) (.str (x ++ [c]) kx)
          have R4 := R3.setV (v := .str (mkS (z.filter fun a => !(a == c)))) (i := js) (by rw [List.length_set, List.length_set]; exact l5) (.str (z.filter fun a => !(a == c)) kz)
          refine hP _ G' H' ?_ R4
          refine S'.trans ((step_setV R' l3).trans ((step_setV R2 ?_).trans (step_setV R3 ?_)))
          · rw [List.length_set]; exact l4
          · rw [List.length_set, List.length_set]; exact l5
        · exact hP.elim
      · exact hP.elim
    · exact hP.elim
  · exact hP.elim
theorem sbt_lway {so ow pl le fo ou : Str} {jw js jf jo ip il : Nat} {scope : Scope} {p1 p2 p3 p4 p5 p6 p7 p8 p9 p10 p11 p12 p13 pt pos : Pos} {kk : Nat} {q1 q2 q3 q4 q5 q9 q10 q11 q12 q13 q14 q15 q16 q17 q18 q19 q20 q21 : Pos} {kt k2 kc k1 : Nat} (C : Cn k X E) (hme : X.mg "enumerate" = none) (hmm : X.mg "min" = none)
    (hl : SE X T E (.ListComp (.Name le p1) [⟨.Tuple [.Name pl p2, .Name le p3] kk pt, .Call (.Name "enumerate" p4) [.Name so p5] [] p6, [.Compare (.Subscript (.Name ow p7) (.Name pl p8) p9) [.Eq] [.Call (.Name "min" p10) [.Name ow p11] [] p12] p13], 0⟩] scope pos) cl)
    (hcl : ∀ (r : Rho) (m : D) (z : List Nat) (ns : List Int) (c : Nat), jo + 3 ≤ r.length → r[js]? = some (some (.v (.str z))) → r[jw]? = some (some (.v (.lst (ns.map .int)))) → ns.length = z.length → (Pu.lasts z ns).getLast? = some c → cl r m = .ok (.lst (Pu.sgn (Pu.lasts z ns))) r m)
    (own : List (Str × Nat)) (hown : own = [(pl, ip), (le, il)]) (ok : blkC X.N X.env.scope scope own = true)
    (hNs : X.N[js]? = some so := by rfl) (hNw : X.N[jw]? = some ow := by rfl) (hNf : X.N[jf]? = some fo := by rfl) (hNo : X.N[jo]? = some ou := by rfl)
    (hvo : Vis (relS scope X.env.scope) ow := by first | exact Or.inl rfl | exact Or.inr (Or.inl rfl) | exact Or.inr (Or.inr rfl)) (hlp : (relS scope X.env.scope).names.lookup pl = some .local := by rfl) (hll : (relS scope X.env.scope).names.lookup le = some .local := by rfl)
    (hge : Gl X "enumerate" := by rfl) (hgm : (relS scope X.env.scope).names.lookup ("min" : Str) = some .globalImplicit := by rfl)
    (hio1 : jw ≠ ip := by decide) (hio2 : jw ≠ il := by decide) (hpl : ip ≠ il := by decide) (hfs : jf ≠ js := by decide) (hof : jo ≠ jf := by decide) (hos : jo ≠ js := by decide) (lf : X.env.scope.names.lookup fo = some .local := by rfl) (ls : X.env.scope.names.lookup so = some .local := by rfl) (lo : X.env.scope.names.lookup ou = some .local := by rfl)
    (do1 : (ow == ("__debug__" : Str)) = false := by decide) (do2 : (ow == ("__classdict__" : Str)) = false := by decide) (dp1 : (pl == ("__debug__" : Str)) = false := by decide) (dp2 : (pl == ("__classdict__" : Str)) = false := by decide) (dl1 : (le == ("__debug__" : Str)) = false := by decide)
    (d1 : (fo == ("__debug__" : Str)) = false := by decide) (d2 : (fo == ("__classdict__" : Str)) = false := by decide) (d3 : (so == ("__debug__" : Str)) = false := by decide) (d4 : (so == ("__classdict__" : Str)) = false := by decide) (d5 : (ou == ("__debug__" : Str)) = false := by decide)
    (hsw : swapsWith (.Subscript (.ListComp (.Name le p1) [⟨.Tuple [.Name pl p2, .Name le p3] kk pt, .Call (.Name "enumerate" p4) [.Name so p5] [] p6, [.Compare (.Subscript (.Name ow p7) (.Name pl p8) p9) [.Eq] [.Call (.Name "min" p10) [.Name ow p11] [] p12] p13], 0⟩] scope pos) (.UnaryOp .USub (.Constant (.int 1) k1 q2) q3) q4) (some (.Name ou q1)) q5.line X.env = pure false := by rfl)
    (hw : swappedStores [.Tuple [.Name fo q9, .Name so q10] kt q11] (.Tuple [.BinOp (.Name fo q12) .Add (.Name ou q13) q14, .Call (.Attribute (.Name so q15) "replace" q16) [.Name ou q17, .Constant (.str "") kc q18] [] q19] k2 q20) X.env = pure (some [fo, so]) := by rfl)
    (hs : swapsWithSole [.Tuple [.Name fo q9, .Name so q10] kt q11] (.Tuple [.BinOp (.Name fo q12) .Add (.Name ou q13) q14, .Call (.Attribute (.Name so q15) "replace" q16) [.Name ou q17, .Constant (.str "") kc q18] [] q19] k2 q20) q21.line X.env = pure false := by rfl)
    (hline : (q16.endLine == q19.line) = true := by rfl) :
    SBT X T E [.Assign [.Name ou q1] (.Subscript (.ListComp (.Name le p1) [⟨.Tuple [.Name pl p2, .Name le p3] kk pt, .Call (.Name "enumerate" p4) [.Name so p5] [] p6, [.Compare (.Subscript (.Name ow p7) (.Name pl p8) p9) [.Eq] [.Call (.Name "min" p10) [.Name ow p11] [] p12] p13], 0⟩] scope pos) (.UnaryOp .USub (.Constant (.int 1) k1 q2) q3) q4) q5,
      .Assign [.Tuple [.Name fo q9, .Name so q10] kt q11] (.Tuple [.BinOp (.Name fo q12) .Add (.Name ou q13) q14, .Call (.Attribute (.Name so q15) "replace" q16) [.Name ou q17, .Constant (.str "") kc q18] [] q19] k2 q20) q21] (Pu.lwayBlk jw js jf jo) := by
  subst hown
  obtain ⟨tl, g1, g2⟩ := hl
  exact ⟨_, psst_lway C.calm C.nd g1 (blkOk_by ok) hNs hNw hNf hNo hvo hlp hll hge hme hgm hmm hio1 hio2 hpl hfs hof hos lf ls lo do1 do2 dp1 dp2 dl1 d1 d2 d3 d4 d5 hsw hw hs hline, sd_lway g2 hcl⟩
end
end Tk

namespace Pu
theorem minL_ints (ns : List Int) (h : ns ≠ []) : oMinL (.lst (ns.map .int)) = some (.int (minI ns)) := by
  show (intsD (ns.map .int)).bind _ = _
  rw [ints_map]
  exact if_neg h
/-- the number at a pair's place is the least -/
def lastT (ns : List Int) : D → Bool
  | .tup [.int i, _] => decide (ns[i.toNat]? = some (minI ns))
  | _ => false
theorem lasts_enum (M : Int) : ∀ (z : List Nat) (ns : List Int) (k : Nat) (all : List Int), ns.length = z.length → (∀ j, ns[j]? = all[k + j]?) →
    ((enumFrom k (sgn z)).filter (fun d => match d with | .tup [.int i, _] => decide (all[i.toNat]? = some M) | _ => false)).map sndD = sgn (((z.zip ns).filter fun p => decide (p.2 = M)).map (·.1))
  | [], ns, k, all, _, _ => by simp [sgn, enumFrom]
  | c :: z, [], k, all, h, _ => by simp at h
  | c :: z, n :: ns, k, all, h, ha => by
    have ih := lasts_enum M z ns (k + 1) all (by simpa using h) (fun j => by have := ha (j + 1); rw [show k + 1 + j = k + (j + 1) by omega]; simpa using this)
    have h0 : all[k]? = some n := by have := ha 0; simpa using this.symm
    have e1 : enumFrom k (sgn (c :: z)) = .tup [.int (k : Nat), .str [c]] :: enumFrom (k + 1) (sgn z) := rfl
    rw [e1, List.filter_cons, List.zip_cons_cons, List.filter_cons]
    have hk : ((k : Nat) : Int).toNat = k := by omega
    by_cases hn : n = M
    · have t1 : decide (all[((k : Nat) : Int).toNat]? = some M) = true := by rw [hk, h0, hn]; simp
      have t2 : decide (n = M) = true := by simpa using hn
      rw [if_pos t1, if_pos t2, List.map_cons, ih]
      rfl
    · have t1 : ¬ decide (all[((k : Nat) : Int).toNat]? = some M) = true := by rw [hk, h0]; simpa using hn
      have t2 : ¬ decide (n = M) = true := by simpa using hn
      rw [if_neg t1, if_neg t2, ih]
theorem last_lc {js jw ip il : Nat} (h1 : js ≠ ip) (h2 : js ≠ il) (h3 : jw ≠ ip) (h4 : jw ≠ il) (h5 : ip ≠ il) (r : Rho) (m : D) (z : List Nat) (ns : List Int) (li : ip < r.length) (ll : il < r.length) (hs : r[js]? = some (some (.v (.str z)))) (hw : r[jw]? = some (some (.v (.lst (ns.map .int))))) (hn : ns.length = z.length) :
    cLc [ip, il] (iEnum (iStr (cVar js))) (.tp (.nm ip) (.nm il)) (tB (c2 oEq (cIdx (cVar jw) (cVar ip)) (c1 oMinL (cVar jw)))) (cVar il) [] r m = .ok (.lst (sgn (lasts z ns))) r m := by
  have := lc_run (vs := [ip, il]) (it := iEnum (iStr (cVar js))) (tg := .tp (.nm ip) (.nm il)) (t := tB (c2 oEq (cIdx (cVar jw) (cVar ip)) (c1 oMinL (cVar jw)))) (e := cVar il) (r := r) (m := m) (ds := enumFrom 0 (sgn z)) (fun d => match d with | .tup [.int i, _] => decide (ns[i.toNat]? = some (minI ns)) | _ => false) sndD (by simp only [ev_enum, ev_iStr, ev_bd, ev_var, hs, ev_pu]) (by
    intro d hd
    obtain ⟨j, x, hj, rfl⟩ := enum_mem hd
    rw [Nat.zero_add]
    unfold sgn at hj
    rw [List.getElem?_map] at hj
    obtain ⟨c, hc, rfl⟩ := Option.map_eq_some_iff.mp hj
    have hjl : j < ns.length := by rw [hn]; exact (List.getElem?_eq_some_iff.mp hc).1
    have wl : (wipe r [ip, il]).length = r.length := wipe_len r _
    have l1 : ip < (wipe r [ip, il]).length := by rw [wl]; exact li
    have l2 : il < ((wipe r [ip, il]).set ip (some (.v (.int j)))).length := by rw [List.length_set, wl]; exact ll
    refine ⟨((wipe r [ip, il]).set ip (some (.v (.int j)))).set il (some (.v (.str [c]))), ?_, ?_, ?_, fun _ => ?_⟩
    · simp only [asg, l1, l2, if_true, Option.bind]
    · unfold wipe wipe
      show ((((((wipe r []).set il none).set ip none).set ip _).set il _).set il none).set ip none = ((wipe r []).set il none).set ip none
      apply List.ext_getElem?
      intro i
      by_cases e1 : ip = i
      · subst e1
        rw [List.getElem?_set_self (by simp only [List.length_set]; exact li), List.getElem?_set_self (by simp only [List.length_set]; exact li)]
      · rw [List.getElem?_set_ne e1, List.getElem?_set_ne e1]
        by_cases e2 : il = i
        · subst e2
          rw [List.getElem?_set_self (by simp only [List.length_set]; exact ll), List.getElem?_set_self (by exact ll)]
        · rw [List.getElem?_set_ne e2, List.getElem?_set_ne e2, List.getElem?_set_ne e1, List.getElem?_set_ne e1]
    · have g1 : (((wipe r [ip, il]).set ip (some (.v (.int j)))).set il (some (.v (.str [c]))))[jw]? = some (some (.v (.lst (ns.map .int)))) := by
        rw [List.getElem?_set_ne (Ne.symm h4), List.getElem?_set_ne (Ne.symm h3), wipe_at r _ _ (by simp [h3, h4])]
        exact hw
      have g2 : (((wipe r [ip, il]).set ip (some (.v (.int j)))).set il (some (.v (.str [c]))))[ip]? = some (some (.v (.int j))) := by
        rw [List.getElem?_set_ne (Ne.symm h5), List.getElem?_set_self l1]
      have i1 : oIdx (.lst (ns.map .int)) (.int j) = some (.int ns[j]) := atI_ok (by rw [List.getElem?_map, List.getElem?_eq_getElem hjl]; rfl)
      have hne : ns ≠ [] := fun e => by rw [e] at hjl; simp at hjl
      have ej : ((j : Nat) : Int).toNat = j := by omega
      have eb : (ns[j] == minI ns) = decide (ns[((j : Nat) : Int).toNat]? = some (minI ns)) := by
        rw [ej, List.getElem?_eq_getElem hjl, Bool.eq_iff_iff, beq_iff_eq, decide_eq_true_iff]
        simp
      simp only [ev_tB, ev_bd, ev_c2, ev_c1, ev_idx2, ev_var, g1, g2, idxA_l, i1, ev_some, minL_ints ns hne, eq_i, ev_pu, eb]
    · have g3 : (((wipe r [ip, il]).set ip (some (.v (.int j)))).set il (some (.v (.str [c]))))[il]? = some (some (.v (.str [c]))) := by
        rw [List.getElem?_set_self l2]
      simp only [ev_var, g3]
      rfl)
  rw [this, lasts_enum (minI ns) z ns 0 ns hn (fun j => by rw [Nat.zero_add])]
  rfl
theorem lway_lc (r : Rho) (m : D) (z : List Nat) (ns : List Int) (c : Nat) (hl : 5 + 3 ≤ r.length) (hs : r[1]? = some (some (.v (.str z)))) (hw : r[4]? = some (some (.v (.lst (ns.map .int))))) (hn : ns.length = z.length) (hlast : (lasts z ns).getLast? = some c) :
    cLc [6, 7] (iEnum (iStr (cVar 1))) (.tp (.nm 6) (.nm 7)) (tB (c2 oEq (cIdx (cVar 4) (cVar 6)) (c1 oMinL (cVar 4)))) (cVar 7) [] r m = .ok (.lst (sgn (lasts z ns))) r m :=
  last_lc (by decide) (by decide) (by decide) (by decide) (by decide) r m z ns (by omega) (by omega) hs hw hn
/-- last_ones as it is written -/
def c_last_ones : M Fl := (sSeq (sSet 2 (cCall f_counts_of (aCons (cVar 0) (aCons (cVar 1) aNil))))
  (sRet (cLc [3, 4] (iEnum (iStr (cVar 1))) (.tp (.nm 3) (.nm 4)) (tB (c2 oEq (cIdx (cVar 2) (cVar 3)) (c1 oMinL (cVar 2)))) (cVar 4))))
def f_last_ones : Fn := fLast f_counts_of
theorem last_ok (ds : List D) (m : D) (h : fLast f_counts_of ds m ≠ .bad) : fn 2 5 c_last_ones ds m = fLast f_counts_of ds m := by
  unfold fLast at h ⊢
  split at h
  · rename_i p z
    split at h
    · rename_i cs m' hq
      split at h
      · rename_i ns hi
        split at h
        · rename_i hl
          rw [if_pos hl]
          have hs : start 5 [p, .str z] = [some (.v (p)), some (.v (.str z)), none, none, none] := Eq.trans rfl rfl
          have lc := last_lc (js := 1) (jw := 2) (ip := 3) (il := 4) (by decide) (by decide) (by decide) (by decide) (by decide) [some (.v (p)), some (.v (.str z)), some (.v (.lst (ns.map .int))), none, none] m' z ns (by simp) (by simp) rfl rfl hl.1
          rw [Pu.ints_eq hi] at hq
          rw [fn_ev (show [p, D.str z].length = 2 from rfl), hs, c_last_ones.eq_1]
          simp only [ev_bd, ev_pu, ev_some, ev_var, ev_K, ev_c1, ev_c2, ev_tB, ev_tAnd, ev_tOr, ev_tNot, ev_And, ev_Or, ev_Not, ev_If, ev_chain, ev_nil, ev_cons, ev_tup, ev_lst, ev_idx2, idxA_l, idxA_t, idxA_s, idxA_a, idxA_e0, idxA_e1, ev_call, ev_ap, ev_cut, ev_part0, ev_part1, ev_str, ev_tgt, ev_iLst, ev_iTup, ev_iStr, ev_iRng, ev_nop, ev_seq, ev_st, ev_set, ev_new, ev_sTgt, ev_par, ev_sIf, ev_ret, ev_do, ev_raise, ev_for, ev_app, ev_iOwn, ev_enum, ev_oidx, ev_put, ev_yes, lt_len0, lt_lenS, asg_nm, asg_tp, opt_bind_some, len_two, len_one, len_zero, List.getElem?_cons_zero, List.getElem?_cons_succ, List.set_cons_zero, List.set_cons_succ, ↓reduceIte, Bool.false_eq_true, Bool.not_true, Bool.not_false, sl, ro, hq, lc]
        · exact absurd rfl h
      · exact absurd rfl h
    · exact absurd rfl h
  · exact absurd rfl h
end Pu
namespace Su
theorem tx_nil : TxOk [] := ⟨Nat.zero_le _, fun _ h => nomatch h⟩
end Su

namespace Pu
def c_without : M Fl := (sSeq (sNew 3 (cLst aNil))
  (sSeq (sFor (iEnum (iTup (cVar 0))) (.tp (.nm 4) (.tp (.nm 5) (.nm 6))) (sIf (tB (c2 oNe (cVar 4) (cVar 1))) (sApp 3 (cTup (aCons (cVar 5) (aCons (cVar 6) aNil)))) (sIf (tB (c2 oGt (cVar 6) (cVar 2))) (sApp 3 (cTup (aCons (cVar 5) (aCons (c2 oSub (cVar 6) (cVar 2)) aNil)))) sNop)))
  (sRet (c1 oTuple (cVar 3)))))
def f_without : Fn := fn 3 7 c_without
def c__law_countsL : M Fl := (sSeq (sNew 2 (c2 Su.oRep (cLst (aCons (cK (.int 0)) aNil)) (c1 oLen (cVar 1))))
  (sSeq (sFor (iLst (cVar 0)) (.tp (.nm 3) (.nm 4)) (sSeq (sSet 5 (cLc [6] (iStr (cVar 3)) (.nm 6) (tB (c2 (oInN false) (cVar 6) (cVar 1))) (cVar 6)))
  (sIf (tB (c2 oNe (cVar 5) (cLst aNil))) (sPut 2 (c2 oFind (cStr (cVar 1)) (cIdx (cVar 5) (cK (.int 0)))) (c2 oAdd (cOIdx 2 (c2 oFind (cStr (cVar 1)) (cIdx (cVar 5) (cK (.int 0))))) (cVar 4))) sNop)))
  (sRet (cVar 2))))
def f__law_countsL : Fn := fn 2 7 c__law_countsL
def c__law_wayL : M Fl := (sSeq (sSet 2 (cK (.str [])))
  (sSeq (sFor (iRng (c2 oSub (c1 oLen (cVar 1)) (cK (.int 1)))) (.nm 3) (sSeq (sSet 4 (cCall f__law_countsL (aCons (cVar 0) (aCons (cVar 1) aNil))))
  (lwayBlk 4 1 2 5)))
  (sRet (c2 oAdd (cVar 2) (cVar 1)))))
def f__law_wayL : Fn := fn 2 8 c__law_wayL
def c_way_of : M Fl := (sSeq (sSet 2 (cK (.str [])))
  (sSeq (sWhile (tB (c2 oGt (c1 oLen (cVar 1)) (cK (.int 1)))) (wayBlk f_last_ones 0 1 2 3) 10)
  (sRet (c2 oAdd (cVar 2) (cVar 1)))))
def f_way_of : Fn := fn 2 4 c_way_of
def c_winner_of : M Fl := (sRet (cIdx (cCall f_way_of (aCons (cIdx (cVar 0) (cK (.int 1))) (aCons (cCall f_candidates_of (aCons (cVar 0) aNil)) aNil))) (c1 oNeg (cK (.int 1)))))
def f_winner_of : Fn := fn 1 1 c_winner_of
def c_winner : M Fl := (sSeq (sDo (cCall f_need_votes (aCons (cVar 0) aNil)))
  (sRet (cCall f_winner_of (aCons (cVar 0) aNil))))
def f_winner : Fn := fn 1 1 c_winner
def c_absence_that_helps : M Fl := (sSeq (sDo (cCall f_need_votes (aCons (cVar 0) aNil)))
  (sSeq (sPar 1 2 false false (cCall f_candidates_of (aCons (cVar 0) aNil)) (cCall f_winner_of (aCons (cVar 0) aNil)))
  (sSeq (sFor (iEnum (iTup (cIdx (cVar 0) (cK (.int 1))))) (.tp (.nm 3) (.tp (.nm 4) (.nm 5))) (sFor (iRng2 (cK (.int 1)) (c2 oAdd (cVar 5) (cK (.int 1)))) (.nm 6) (sSeq (sSet 7 (cIdx (cCall f_way_of (aCons (cCall f_without (aCons (cIdx (cVar 0) (cK (.int 1))) (aCons (cVar 3) (aCons (cVar 6) aNil)))) (aCons (cVar 1) aNil))) (c1 oNeg (cK (.int 1)))))
  (sIf (tB (cCall f_is_before (aCons (cVar 4) (aCons (cVar 7) (aCons (cVar 2) aNil))))) (sRet (cTup (aCons (cVar 3) (aCons (cVar 6) aNil)))) sNop))))
  (sRet (cK .non)))))
def f_absence_that_helps : Fn := fn 1 8 c_absence_that_helps
end Pu

namespace Pu
/-! ### ways -/
/-- who goes out -/
def outL (ps : List (List Nat × Nat)) (z : List Nat) : Option Nat := (lasts z (z.map (cnt z ps))).getLast?
def wayN (ps : List (List Nat × Nat)) : Nat → List Nat → List Nat
  | 0, z => z
  | k + 1, z => if z.length ≤ 1 then z else match outL ps z with
    | some c => c :: wayN ps k (z.filter fun a => !(a == c))
    | none => z
def way (ps : List (List Nat × Nat)) (z : List Nat) : List Nat := wayN ps z.length z
theorem minI_mem : ∀ {ns : List Int}, ns ≠ [] → minI ns ∈ ns
  | [], h => absurd rfl h
  | [a], _ => by simp [minI]
  | a :: b :: r, _ => by
    have ih := minI_mem (ns := b :: r) (by simp)
    unfold minI
    by_cases h : a ≤ minI (b :: r)
    · rw [Int.min_eq_left h]; exact List.mem_cons_self
    · rw [Int.min_eq_right (by omega)]; exact List.mem_cons_of_mem _ ih
theorem minI_le : ∀ {ns : List Int} {x : Int}, x ∈ ns → minI ns ≤ x
  | [a], x, h => by rw [List.mem_singleton.mp h]; exact Int.le_refl _
  | a :: b :: r, x, h => by
    unfold minI
    rcases List.mem_cons.mp h with e | e
    · rw [e]; exact Int.min_le_left _ _
    · have := minI_le (ns := b :: r) e
      have := Int.min_le_right a (minI (b :: r))
      omega
theorem zip_map_mem {z : List Nat} {f : Nat → Int} {c : Nat} {n : Int} : (c, n) ∈ z.zip (z.map f) ↔ c ∈ z ∧ n = f c := by
  induction z with
  | nil => simp
  | cons x z ih =>
    rw [List.map_cons, List.zip_cons_cons, List.mem_cons, ih, List.mem_cons]
    constructor
    · rintro (e | ⟨h1, h2⟩)
      · cases e; exact ⟨.inl rfl, rfl⟩
      · exact ⟨.inr h1, h2⟩
    · rintro ⟨h1 | h1, h2⟩
      · subst h1 h2; exact .inl rfl
      · exact .inr ⟨h1, h2⟩
theorem mem_lasts {z : List Nat} {f : Nat → Int} {c : Nat} : c ∈ lasts z (z.map f) ↔ c ∈ z ∧ f c = minI (z.map f) := by
  unfold lasts
  simp only [List.mem_map, List.mem_filter, decide_eq_true_eq]
  constructor
  · rintro ⟨⟨a, n⟩, ⟨h1, h2⟩, rfl⟩
    obtain ⟨h3, h4⟩ := zip_map_mem.mp h1
    have h2 : n = _ := h2
    exact ⟨h3, by rw [← h4]; exact h2⟩
  · rintro ⟨h1, h2⟩
    exact ⟨(c, f c), ⟨zip_map_mem.mpr ⟨h1, rfl⟩, h2⟩, rfl⟩
theorem lasts_sub (z : List Nat) (f : Nat → Int) : (lasts z (z.map f)).Sublist z := by
  unfold lasts
  have h : ∀ (z : List Nat) (q : Nat × Int → Bool), (((z.zip (z.map f)).filter q).map (·.1)).Sublist z := fun z q => by
    induction z with
    | nil => exact List.Sublist.refl _
    | cons x z ih =>
      rw [List.map_cons, List.zip_cons_cons, List.filter_cons]
      split
      · rw [List.map_cons]; exact ih.cons₂ x
      · exact ih.cons x
  exact h z _
theorem lasts_ne {z : List Nat} (f : Nat → Int) (h : z ≠ []) : lasts z (z.map f) ≠ [] := by
  have hm := minI_mem (ns := z.map f) (by simpa using h)
  obtain ⟨c, hc, e⟩ := List.mem_map.mp hm
  have : c ∈ lasts z (z.map f) := mem_lasts.mpr ⟨hc, e⟩
  intro q
  rw [q] at this
  cases this
theorem out_some (ps : List (List Nat × Nat)) {z : List Nat} (h : z ≠ []) : ∃ c, outL ps z = some c ∧ c ∈ z := by
  have hn := lasts_ne (cnt z ps) h
  refine ⟨(lasts z (z.map (cnt z ps))).getLast hn, List.getLast?_eq_some_getLast hn, ?_⟩
  exact (mem_lasts.mp (List.getLast_mem hn)).1
/-- letters one behind the other -/
abbrev Asc (z : List Nat) : Prop := z.Pairwise (· < ·)
theorem Asc.nd {z : List Nat} (h : Asc z) : z.Nodup := h.imp fun h e => by omega
theorem asc_let (n : Nat) : Asc (LET.take n) := List.Pairwise.sublist (List.take_sublist _ _) (by decide)
theorem Asc.out {z : List Nat} (h : Asc z) (c : Nat) : Asc (z.filter fun a => !(a == c)) := h.sublist List.filter_sublist
/-- of letters that ascend the greatest is the last -/
theorem maxS_asc : ∀ (c : Nat) (cs : List Nat), Asc (c :: cs) → maxS [c] (cs.map fun x => [x]) = [(c :: cs).getLast (by simp)]
  | c, [], _ => rfl
  | c, d :: cs, h => by
    have hd : c < d := (List.pairwise_cons.mp h).1 d List.mem_cons_self
    have ih := maxS_asc d cs (List.pairwise_cons.mp h).2
    unfold maxS at ih ⊢
    have hlt : [c] < [d] := List.Lex.rel hd
    rw [List.map_cons, List.foldl_cons, if_pos hlt, ih]
    rfl
theorem maxS_lasts {z : List Nat} (h : Asc z) (f : Nat → Int) {c : Nat} (hc : (lasts z (z.map f)).getLast? = some c) : oMaxS (.lst (sgn (lasts z (z.map f)))) = some (.str [c]) := by
  have ha : Asc (lasts z (z.map f)) := h.sublist (lasts_sub z f)
  generalize lasts z (z.map f) = L at ha hc
  cases L with
  | nil => cases hc
  | cons x L =>
    have hs : strsD (sgn (x :: L)) = some ([x] :: L.map fun y => [y]) := by
      have : sgn (x :: L) = ((x :: L).map fun y => [y]).map .str := by unfold sgn; rw [List.map_map]; rfl
      rw [this, strs_map]
      rfl
    have e : oMaxS (.lst (sgn (x :: L))) = some (.str (maxS [x] (L.map fun y => [y]))) := by
      show (match strsD (sgn (x :: L)) with | some (z :: zs) => some (D.str (maxS z zs)) | _ => none) = _
      rw [hs]
    rw [e, maxS_asc x L ha]
    rw [List.getLast?_eq_some_getLast (by simp)] at hc
    cases hc
    rfl
theorem last_run {ps : List (List Nat × Nat)} {z : List Nat} (hz : z.Nodup) (hzl : z.length ≤ 1000) (hne : z ≠ []) (hp : ∀ p ∈ ps, p.1.length ≤ 1000) (m : D) : f_last_ones [.tup (ps.map encP), .str z] m = .ok (.lst (sgn (lasts z (z.map (cnt z ps))))) m := by
  have hc := counts_run z hz hzl ps hp m
  have e : (z.map fun c => D.int (cnt z ps c)) = (z.map (cnt z ps)).map .int := by rw [List.map_map]; rfl
  rw [e] at hc
  unfold f_last_ones fLast
  dsimp only
  rw [hc]
  dsimp only
  rw [ints_map]
  dsimp only
  rw [if_pos ⟨by rw [List.length_map], hne⟩]
/-- one round -/
theorem blk_run {ps : List (List Nat × Nat)} {z x : List Nat} (ha : Asc z) (hzl : z.length ≤ 1000) (hxl : x.length ≤ 1000) (hp : ∀ p ∈ ps, p.1.length ≤ 1000) {c : Nat} (hc : outL ps z = some c) (x3 : Option Sl) (m : D) :
    wayBlk f_last_ones 0 1 2 3 [some (.v (.tup (ps.map encP))), some (.v (.str z)), some (.v (.str x)), x3] m = .ok .nx [some (.v (.tup (ps.map encP))), some (.v (.str (z.filter fun a => !(a == c)))), some (.v (.str (x ++ [c]))), some (.v (.str [c]))] m := by
  have hne : z ≠ [] := fun e => by rw [e] at hc; cases hc
  have hl := last_run ha.nd hzl hne hp m
  have hm := maxS_lasts ha (cnt z ps) hc
  unfold wayBlk
  dsimp only [List.getElem?_cons_zero, List.getElem?_cons_succ]
  rw [if_pos (by unfold LN; simp; omega), hl]
  dsimp only
  rw [hm]
  rfl
theorem while_run {ps : List (List Nat × Nat)} (hp : ∀ p ∈ ps, p.1.length ≤ 1000) (m : D) : ∀ (k f : Nat) (z x : List Nat) (x3 : Option Sl), z.length = k → k < f → Asc z → z.length ≤ 900 → x.length + z.length ≤ 900 → z ≠ [] →
    ∃ (z' x' : List Nat) (y3 : Option Sl), sWhile (tB (c2 oGt (c1 oLen (cVar 1)) (cK (.int 1)))) (wayBlk f_last_ones 0 1 2 3) f [some (.v (.tup (ps.map encP))), some (.v (.str z)), some (.v (.str x)), x3] m = .ok .nx [some (.v (.tup (ps.map encP))), some (.v (.str z')), some (.v (.str x')), y3] m ∧ x' ++ z' = x ++ wayN ps k z ∧ x'.length + z'.length ≤ 900
  | k, 0, z, x, x3, _, h, _, _, _, _ => by omega
  | 0, f + 1, z, x, x3, h, _, _, _, _, hne => absurd (List.length_eq_zero_iff.mp h) hne
  | k + 1, f + 1, z, x, x3, h, hf, ha, hl, hx, hne => by
    by_cases h1 : z.length ≤ 1
    · refine ⟨z, x, x3, ?_, ?_, hx⟩
      · have hd : decide ((1 : Int) < z.length) = false := decide_eq_false (by omega)
        unfold sWhile
        simp only [ev_bd, ev_pu, ev_some, ev_var, ev_K, ev_c1, ev_c2, ev_tB, ev_tAnd, ev_tOr, ev_tNot, ev_And, ev_Or, ev_Not, ev_If, ev_chain, ev_nil, ev_cons, ev_tup, ev_lst, ev_idx2, idxA_l, idxA_t, idxA_s, idxA_a, idxA_e0, idxA_e1, ev_call, ev_ap, ev_cut, ev_part0, ev_part1, ev_str, ev_tgt, ev_iLst, ev_iTup, ev_iStr, ev_iRng, ev_nop, ev_seq, ev_st, ev_set, ev_new, ev_sTgt, ev_par, ev_sIf, ev_ret, ev_do, ev_raise, ev_for, ev_app, ev_iOwn, ev_enum, ev_oidx, ev_put, ev_yes, lt_len0, lt_lenS, asg_nm, asg_tp, opt_bind_some, len_two, len_one, len_zero, List.getElem?_cons_zero, List.getElem?_cons_succ, List.set_cons_zero, List.set_cons_succ, ↓reduceIte, Bool.false_eq_true, Bool.not_true, Bool.not_false, sl, ro, oLen_s, gt_i, hd]
      · unfold wayN
        rw [if_pos h1]
    · obtain ⟨c, hc, hcz⟩ := out_some ps hne
      have hb := blk_run (x := x) ha (by omega) (by omega) hp hc x3 m
      have hfl := filter_len ha.nd hcz
      have hne' : z.filter (fun a => !(a == c)) ≠ [] := fun e => by rw [e] at hfl; simp at hfl; omega
      obtain ⟨z', x', y3, e1, e2, e3⟩ := while_run hp m k f (z.filter fun a => !(a == c)) (x ++ [c]) (some (.v (.str [c]))) (by omega) (by omega) (ha.out c) (by omega) (by rw [List.length_append]; simp; omega) hne'
      refine ⟨z', x', y3, ?_, ?_, e3⟩
      · have hd : decide ((1 : Int) < z.length) = true := decide_eq_true (by omega)
        rw [sWhile]
        simp only [ev_bd, ev_pu, ev_some, ev_var, ev_K, ev_c1, ev_c2, ev_tB, ev_tAnd, ev_tOr, ev_tNot, ev_And, ev_Or, ev_Not, ev_If, ev_chain, ev_nil, ev_cons, ev_tup, ev_lst, ev_idx2, idxA_l, idxA_t, idxA_s, idxA_a, idxA_e0, idxA_e1, ev_call, ev_ap, ev_cut, ev_part0, ev_part1, ev_str, ev_tgt, ev_iLst, ev_iTup, ev_iStr, ev_iRng, ev_nop, ev_seq, ev_st, ev_set, ev_new, ev_sTgt, ev_par, ev_sIf, ev_ret, ev_do, ev_raise, ev_for, ev_app, ev_iOwn, ev_enum, ev_oidx, ev_put, ev_yes, lt_len0, lt_lenS, asg_nm, asg_tp, opt_bind_some, len_two, len_one, len_zero, List.getElem?_cons_zero, List.getElem?_cons_succ, List.set_cons_zero, List.set_cons_succ, ↓reduceIte, Bool.false_eq_true, Bool.not_true, Bool.not_false, sl, ro, oLen_s, gt_i, hd, hb]
        exact e1
      · rw [e2, wayN, if_neg h1, hc]
        simp
theorem way_run {ps : List (List Nat × Nat)} {z : List Nat} (ha : Asc z) (h5 : z.length ≤ 5) (hne : z ≠ []) (hp : ∀ p ∈ ps, p.1.length ≤ 1000) (m : D) : f_way_of [.tup (ps.map encP), .str z] m = .ok (.str (way ps z)) m := by
  have hs : start 4 [.tup (ps.map encP), .str z] = [some (.v (.tup (ps.map encP))), some (.v (.str z)), none, none] := Eq.trans rfl rfl
  obtain ⟨z', x', y3, e1, e2, e3⟩ := while_run hp m z.length 10 z [] none rfl (by omega) ha (by omega) (by simp; omega) hne
  have e2 : x' ++ z' = way ps z := by rw [e2]; rfl
  unfold f_way_of
  rw [fn_ev (show [D.tup (ps.map encP), D.str z].length = 2 from rfl), hs, c_way_of.eq_1]
  simp only [ev_bd, ev_pu, ev_some, ev_var, ev_K, ev_c1, ev_c2, ev_tB, ev_tAnd, ev_tOr, ev_tNot, ev_And, ev_Or, ev_Not, ev_If, ev_chain, ev_nil, ev_cons, ev_tup, ev_lst, ev_idx2, idxA_l, idxA_t, idxA_s, idxA_a, idxA_e0, idxA_e1, ev_call, ev_ap, ev_cut, ev_part0, ev_part1, ev_str, ev_tgt, ev_iLst, ev_iTup, ev_iStr, ev_iRng, ev_nop, ev_seq, ev_st, ev_set, ev_new, ev_sTgt, ev_par, ev_sIf, ev_ret, ev_do, ev_raise, ev_for, ev_app, ev_iOwn, ev_enum, ev_oidx, ev_put, ev_yes, lt_len0, lt_lenS, asg_nm, asg_tp, opt_bind_some, len_two, len_one, len_zero, List.getElem?_cons_zero, List.getElem?_cons_succ, List.set_cons_zero, List.set_cons_succ, ↓reduceIte, Bool.false_eq_true, Bool.not_true, Bool.not_false, sl, ro, e1, add_s x' z' (by unfold LN; omega), e2]
end Pu

namespace Pu
theorem lcountsL_run (z : List Nat) (hz : z.Nodup) (hzl : z.length ≤ 1000) (ps : List (List Nat × Nat)) (hp : ∀ p ∈ ps, p.1.length ≤ 1000) (m : D) : f__law_countsL [.lst (ps.map encP), .str z] m = .ok (.lst (z.map fun c => .int (cnt z ps c))) m := by
  have hs : start 7 [.lst (ps.map encP), .str z] = [some (.v (.lst (ps.map encP))), some (.v (.str z)), none, none, none, none, none] := Eq.trans rfl rfl
  let I : Nat → Rho → D → Prop := fun i r m' => m' = m ∧ ∃ (x3 x4 x5 : Option Sl), r = [some (.v (.lst (ps.map encP))), some (.v (.str z)), some (.own (.lst (z.map fun x => D.int (cnt z (ps.take i) x)))), x3, x4, x5, none]
  have hrun := forL_inv (tg := .tp (.nm 3) (.nm 4)) (b := (sSeq (sSet 5 (cLc [6] (iStr (cVar 3)) (.nm 6) (tB (c2 (oInN false) (cVar 6) (cVar 1))) (cVar 6)))
  (sIf (tB (c2 oNe (cVar 5) (cLst aNil))) (sPut 2 (c2 oFind (cStr (cVar 1)) (cIdx (cVar 5) (cK (.int 0)))) (c2 oAdd (cOIdx 2 (c2 oFind (cStr (cVar 1)) (cIdx (cVar 5) (cK (.int 0))))) (cVar 4))) sNop))) I (ps.map encP) 0
    [some (.v (.lst (ps.map encP))), some (.v (.str z)), some (.own (.lst (z.map fun x => D.int 0))), none, none, none, none] m ⟨rfl, none, none, none, rfl⟩ ?_
  · obtain ⟨r', m', f5, rfl, x3, x4, x5, rfl⟩ := hrun
    rw [List.length_map, Nat.zero_add, List.take_length] at f5
    unfold f__law_countsL
    rw [fn_ev (show [D.lst (ps.map encP), D.str z].length = 2 from rfl), hs, c__law_countsL.eq_1]
    simp only [ev_bd, ev_pu, ev_some, ev_var, ev_K, ev_c1, ev_c2, ev_tB, ev_tAnd, ev_tOr, ev_tNot, ev_And, ev_Or, ev_Not, ev_If, ev_chain, ev_nil, ev_cons, ev_tup, ev_lst, ev_idx2, idxA_l, idxA_t, idxA_s, idxA_a, idxA_e0, idxA_e1, ev_call, ev_ap, ev_cut, ev_part0, ev_part1, ev_str, ev_tgt, ev_iLst, ev_iTup, ev_iStr, ev_iRng, ev_nop, ev_seq, ev_st, ev_set, ev_new, ev_sTgt, ev_par, ev_sIf, ev_ret, ev_do, ev_raise, ev_for, ev_app, ev_iOwn, ev_enum, ev_oidx, ev_put, ev_yes, lt_len0, lt_lenS, asg_nm, asg_tp, opt_bind_some, len_two, len_one, len_zero, List.getElem?_cons_zero, List.getElem?_cons_succ, List.set_cons_zero, List.set_cons_succ, ↓reduceIte, Bool.false_eq_true, Bool.not_true, Bool.not_false, sl, ro, oLen_s, rep_zero z hzl, f5]
  · intro j d r m' hd hI
    obtain ⟨rfl, x3, x4, x5, rfl⟩ := hI
    rw [List.getElem?_map] at hd
    obtain ⟨p, hpj, rfl⟩ := Option.map_eq_some_iff.mp hd
    have hpm : p ∈ ps := List.mem_of_getElem? hpj
    have htk : ps.take (0 + j + 1) = ps.take j ++ [p] := by
      rw [Nat.zero_add, List.take_succ, hpj]
      rfl
    rw [Nat.zero_add]
    have hlc := fun x5 => left_run z p.1 6 (iStr (cVar 3)) (tB (c2 (oInN false) (cVar 6) (cVar 1))) [some (.v (.lst (ps.map encP))), some (.v (.str z)), some (.own (.lst (z.map fun x => D.int (cnt z (ps.take j) x)))), some (.v (.str p.1)), some (.v (.int p.2)), x5, none] m' (by simp only [ev_bd, ev_pu, ev_some, ev_var, ev_K, ev_c1, ev_c2, ev_tB, ev_tAnd, ev_tOr, ev_tNot, ev_And, ev_Or, ev_Not, ev_If, ev_chain, ev_nil, ev_cons, ev_tup, ev_lst, ev_idx2, idxA_l, idxA_t, idxA_s, idxA_a, idxA_e0, idxA_e1, ev_call, ev_ap, ev_cut, ev_part0, ev_part1, ev_str, ev_tgt, ev_iLst, ev_iTup, ev_iStr, ev_iRng, ev_nop, ev_seq, ev_st, ev_set, ev_new, ev_sTgt, ev_par, ev_sIf, ev_ret, ev_do, ev_raise, ev_for, ev_app, ev_iOwn, ev_enum, ev_oidx, ev_put, ev_yes, lt_len0, lt_lenS, asg_nm, asg_tp, opt_bind_some, len_two, len_one, len_zero, List.getElem?_cons_zero, List.getElem?_cons_succ, List.set_cons_zero, List.set_cons_succ, ↓reduceIte, Bool.false_eq_true, Bool.not_true, Bool.not_false, sl, ro]) (fun x => ⟨[some (.v (.lst (ps.map encP))), some (.v (.str z)), some (.own (.lst (z.map fun x => D.int (cnt z (ps.take j) x)))), some (.v (.str p.1)), some (.v (.int p.2)), x5, some (.v (.str [x]))], rfl, rfl, by simp only [ev_bd, ev_pu, ev_some, ev_var, ev_K, ev_c1, ev_c2, ev_tB, ev_tAnd, ev_tOr, ev_tNot, ev_And, ev_Or, ev_Not, ev_If, ev_chain, ev_nil, ev_cons, ev_tup, ev_lst, ev_idx2, idxA_l, idxA_t, idxA_s, idxA_a, idxA_e0, idxA_e1, ev_call, ev_ap, ev_cut, ev_part0, ev_part1, ev_str, ev_tgt, ev_iLst, ev_iTup, ev_iStr, ev_iRng, ev_nop, ev_seq, ev_st, ev_set, ev_new, ev_sTgt, ev_par, ev_sIf, ev_ret, ev_do, ev_raise, ev_for, ev_app, ev_iOwn, ev_enum, ev_oidx, ev_put, ev_yes, lt_len0, lt_lenS, asg_nm, asg_tp, opt_bind_some, len_two, len_one, len_zero, List.getElem?_cons_zero, List.getElem?_cons_succ, List.set_cons_zero, List.set_cons_succ, ↓reduceIte, Bool.false_eq_true, Bool.not_true, Bool.not_false, sl, ro, in_sign], by simp only [ev_bd, ev_pu, ev_some, ev_var, ev_K, ev_c1, ev_c2, ev_tB, ev_tAnd, ev_tOr, ev_tNot, ev_And, ev_Or, ev_Not, ev_If, ev_chain, ev_nil, ev_cons, ev_tup, ev_lst, ev_idx2, idxA_l, idxA_t, idxA_s, idxA_a, idxA_e0, idxA_e1, ev_call, ev_ap, ev_cut, ev_part0, ev_part1, ev_str, ev_tgt, ev_iLst, ev_iTup, ev_iStr, ev_iRng, ev_nop, ev_seq, ev_st, ev_set, ev_new, ev_sTgt, ev_par, ev_sIf, ev_ret, ev_do, ev_raise, ev_for, ev_app, ev_iOwn, ev_enum, ev_oidx, ev_put, ev_yes, lt_len0, lt_lenS, asg_nm, asg_tp, opt_bind_some, len_two, len_one, len_zero, List.getElem?_cons_zero, List.getElem?_cons_succ, List.set_cons_zero, List.set_cons_succ, ↓reduceIte, Bool.false_eq_true, Bool.not_true, Bool.not_false, sl, ro]⟩)
    have hfl : (p.1.filter fun c => decide (c ∈ z)).length ≤ 1000 := Nat.le_trans (List.length_filter_le _ _) (hp p hpm)
    have hne := ne_nil (p.1.filter fun c => decide (c ∈ z)) hfl
    cases hf : p.1.filter (fun c => decide (c ∈ z)) with
    | nil =>
      rw [hf] at hlc hne
      refine ⟨[some (.v (.lst (ps.map encP))), some (.v (.str z)), some (.own (.lst (z.map fun x => D.int (cnt z (ps.take j) x)))), some (.v (.str p.1)), some (.v (.int p.2)), x5, none], [some (.v (.lst (ps.map encP))), some (.v (.str z)), some (.own (.lst (z.map fun x => D.int (cnt z (ps.take j) x)))), some (.v (.str p.1)), some (.v (.int p.2)), some (.v (.lst (sgn []))), none], m', rfl, ?_, rfl, some (.v (.str p.1)), some (.v (.int p.2)), some (.v (.lst (sgn []))), ?_⟩
      · simp only [ev_bd, ev_pu, ev_some, ev_var, ev_K, ev_c1, ev_c2, ev_tB, ev_tAnd, ev_tOr, ev_tNot, ev_And, ev_Or, ev_Not, ev_If, ev_chain, ev_nil, ev_cons, ev_tup, ev_lst, ev_idx2, idxA_l, idxA_t, idxA_s, idxA_a, idxA_e0, idxA_e1, ev_call, ev_ap, ev_cut, ev_part0, ev_part1, ev_str, ev_tgt, ev_iLst, ev_iTup, ev_iStr, ev_iRng, ev_nop, ev_seq, ev_st, ev_set, ev_new, ev_sTgt, ev_par, ev_sIf, ev_ret, ev_do, ev_raise, ev_for, ev_app, ev_iOwn, ev_enum, ev_oidx, ev_put, ev_yes, lt_len0, lt_lenS, asg_nm, asg_tp, opt_bind_some, len_two, len_one, len_zero, List.getElem?_cons_zero, List.getElem?_cons_succ, List.set_cons_zero, List.set_cons_succ, ↓reduceIte, Bool.false_eq_true, Bool.not_true, Bool.not_false, sl, ro, hlc, hne, List.isEmpty_nil]
      · rw [show j + 1 = 0 + j + 1 by omega, htk]
        have : ∀ x, cnt z (ps.take j ++ [p]) x = cnt z (ps.take j) x := fun x => by
          rw [cnt_snoc]
          have : firstOf z p.1 = none := by unfold firstOf; rw [hf]; rfl
          rw [this]
          simp
        simp only [this]
    | cons c0 rest =>
      rw [hf] at hlc hne
      have hfo : firstOf z p.1 = some c0 := by unfold firstOf; rw [hf]; rfl
      have hc0 : c0 ∈ z := (first_mem hfo).1
      have hl : z.idxOf c0 < z.length := List.idxOf_lt_length_of_mem hc0
      have hat : oIdx (.lst (z.map fun x => D.int (cnt z (ps.take j) x))) (.int (z.idxOf c0)) = some (.int (cnt z (ps.take j) c0)) := by
        refine atI_ok ?_
        rw [List.getElem?_map, List.getElem?_eq_getElem hl]
        simp
      have hix : ixN (z.map fun x => D.int (cnt z (ps.take j) x)).length (z.idxOf c0 : Nat) = some (z.idxOf c0) := ixN_ok (by rw [List.length_map]; exact hl)
      refine ⟨[some (.v (.lst (ps.map encP))), some (.v (.str z)), some (.own (.lst (z.map fun x => D.int (cnt z (ps.take j) x)))), some (.v (.str p.1)), some (.v (.int p.2)), x5, none], [some (.v (.lst (ps.map encP))), some (.v (.str z)), some (.own (.lst (z.map fun x => D.int (if x = c0 then cnt z (ps.take j) x + p.2 else cnt z (ps.take j) x)))), some (.v (.str p.1)), some (.v (.int p.2)), some (.v (.lst (sgn (c0 :: rest)))), none], m', rfl, ?_, rfl, some (.v (.str p.1)), some (.v (.int p.2)), some (.v (.lst (sgn (c0 :: rest)))), ?_⟩
      · simp only [ev_bd, ev_pu, ev_some, ev_var, ev_K, ev_c1, ev_c2, ev_tB, ev_tAnd, ev_tOr, ev_tNot, ev_And, ev_Or, ev_Not, ev_If, ev_chain, ev_nil, ev_cons, ev_tup, ev_lst, ev_idx2, idxA_l, idxA_t, idxA_s, idxA_a, idxA_e0, idxA_e1, ev_call, ev_ap, ev_cut, ev_part0, ev_part1, ev_str, ev_tgt, ev_iLst, ev_iTup, ev_iStr, ev_iRng, ev_nop, ev_seq, ev_st, ev_set, ev_new, ev_sTgt, ev_par, ev_sIf, ev_ret, ev_do, ev_raise, ev_for, ev_app, ev_iOwn, ev_enum, ev_oidx, ev_put, ev_yes, lt_len0, lt_lenS, asg_nm, asg_tp, opt_bind_some, len_two, len_one, len_zero, List.getElem?_cons_zero, List.getElem?_cons_succ, List.set_cons_zero, List.set_cons_succ, ↓reduceIte, Bool.false_eq_true, Bool.not_true, Bool.not_false, sl, ro, hlc, hne, List.isEmpty_cons, find_ok z c0 hc0, idx_first (z := z) (b := z), hat, oAdd_i, hix, set_idx hz (cnt z (ps.take j)) hc0 p.2]
      · rw [show j + 1 = 0 + j + 1 by omega, htk]
        have : ∀ x, (if x = c0 then cnt z (ps.take j) x + p.2 else cnt z (ps.take j) x) = cnt z (ps.take j ++ [p]) x := fun x => by
          rw [cnt_snoc, hfo]
          by_cases e : x = c0
          · subst e; simp
          · have : ¬ (some c0 = some x) := fun q => e (by cases q; rfl)
            simp [e, this]
        simp only [this]

theorem lwayL_run_for {ps : List (List Nat × Nat)} (hp : ∀ p ∈ ps, p.1.length ≤ 1000) (m : D) : ∀ (ds : List D) (z x : List Nat) (x3 x4 x5 : Option Sl), Asc z → z.length = ds.length + 1 → x.length + z.length ≤ 900 →
    ∃ (z' x' : List Nat) (y3 y4 y5 : Option Sl), forL (.nm 3) (sSeq (sSet 4 (cCall f__law_countsL (aCons (cVar 0) (aCons (cVar 1) aNil)))) (lwayBlk 4 1 2 5)) ds [some (.v (.lst (ps.map encP))), some (.v (.str z)), some (.v (.str x)), x3, x4, x5, none, none] m = .ok .nx [some (.v (.lst (ps.map encP))), some (.v (.str z')), some (.v (.str x')), y3, y4, y5, none, none] m ∧ x' ++ z' = x ++ wayN ps z.length z ∧ x'.length + z'.length ≤ 900
  | [], z, x, x3, x4, x5, ha, hl, hx => by
    refine ⟨z, x, x3, x4, x5, ev_forNil, ?_, hx⟩
    have : z.length = 1 := hl
    rw [this, wayN, if_pos (by omega)]
  | d :: ds, z, x, x3, x4, x5, ha, hl, hx => by
    rw [List.length_cons] at hl
    have hne : z ≠ [] := fun e => by rw [e] at hl; simp at hl
    obtain ⟨c, hc, hcz⟩ := out_some ps hne
    have hcn := lcountsL_run z ha.nd (by omega) ps hp m
    have e : (z.map fun c => D.int (cnt z ps c)) = (z.map (cnt z ps)).map .int := by rw [List.map_map]; rfl
    rw [e] at hcn
    have hfl := filter_len ha.nd hcz
    obtain ⟨z', x', y3, y4, y5, e1, e2, e3⟩ := lwayL_run_for hp m ds (z.filter fun a => !(a == c)) (x ++ [c]) (some (.v d)) (some (.v (.lst ((z.map (cnt z ps)).map .int)))) (some (.v (.str [c]))) (ha.out c) (by omega) (by rw [List.length_append]; simp; omega)
    refine ⟨z', x', y3, y4, y5, ?_, ?_, e3⟩
    · have hb : lwayBlk 4 1 2 5 [some (.v (.lst (ps.map encP))), some (.v (.str z)), some (.v (.str x)), some (.v (d)), some (.v (.lst ((z.map (cnt z ps)).map .int))), x5, none, none] m = .ok .nx [some (.v (.lst (ps.map encP))), some (.v (.str (z.filter fun a => !(a == c)))), some (.v (.str (x ++ [c]))), some (.v (d)), some (.v (.lst ((z.map (cnt z ps)).map .int))), some (.v (.str [c])), none, none] m := by
        unfold lwayBlk
        dsimp only [List.getElem?_cons_zero, List.getElem?_cons_succ]
        rw [ints_map]
        dsimp only
        rw [if_pos (by rw [List.length_map]; unfold LN; simp; omega)]
        have hc : (lasts z (z.map (cnt z ps))).getLast? = some c := hc
        rw [hc]
        rfl
      rw [ev_forCons]
      simp only [ev_bd, ev_pu, ev_some, ev_var, ev_K, ev_c1, ev_c2, ev_tB, ev_tAnd, ev_tOr, ev_tNot, ev_And, ev_Or, ev_Not, ev_If, ev_chain, ev_nil, ev_cons, ev_tup, ev_lst, ev_idx2, idxA_l, idxA_t, idxA_s, idxA_a, idxA_e0, idxA_e1, ev_call, ev_ap, ev_cut, ev_part0, ev_part1, ev_str, ev_tgt, ev_iLst, ev_iTup, ev_iStr, ev_iRng, ev_nop, ev_seq, ev_st, ev_set, ev_new, ev_sTgt, ev_par, ev_sIf, ev_ret, ev_do, ev_raise, ev_for, ev_app, ev_iOwn, ev_enum, ev_oidx, ev_put, ev_yes, lt_len0, lt_lenS, asg_nm, asg_tp, opt_bind_some, len_two, len_one, len_zero, List.getElem?_cons_zero, List.getElem?_cons_succ, List.set_cons_zero, List.set_cons_succ, ↓reduceIte, Bool.false_eq_true, Bool.not_true, Bool.not_false, sl, ro, hcn, hb]
      exact e1
    · have hw : wayN ps z.length z = c :: wayN ps (z.filter fun a => !(a == c)).length (z.filter fun a => !(a == c)) := by
        have : z.length = (z.filter fun a => !(a == c)).length + 1 := by omega
        rw [this, wayN, if_neg (by omega), hc]
      rw [e2, hw]
      simp
theorem lwayL_run {ps : List (List Nat × Nat)} {z : List Nat} (ha : Asc z) (h5 : z.length ≤ 5) (hne : z ≠ []) (hp : ∀ p ∈ ps, p.1.length ≤ 1000) (m : D) : f__law_wayL [.lst (ps.map encP), .str z] m = .ok (.str (way ps z)) m := by
  have hs : start 8 [.lst (ps.map encP), .str z] = [some (.v (.lst (ps.map encP))), some (.v (.str z)), none, none, none, none, none, none] := Eq.trans rfl rfl
  have hzl : 0 < z.length := List.length_pos_iff.mpr hne
  obtain ⟨z', x', y3, y4, y5, e1, e2, e3⟩ := lwayL_run_for hp m (rg 0 ((z.length : Int) - 1).toNat) z [] none none none ha (by simp [rg]; omega) (by simp; omega)
  have e2 : x' ++ z' = way ps z := by rw [e2]; rfl
  have hr : ((z.length : Int) - 1).natAbs ≤ 16777216 := by omega
  unfold f__law_wayL
  rw [fn_ev (show [D.lst (ps.map encP), D.str z].length = 2 from rfl), hs, c__law_wayL.eq_1]
  simp only [ev_bd, ev_pu, ev_some, ev_var, ev_K, ev_c1, ev_c2, ev_tB, ev_tAnd, ev_tOr, ev_tNot, ev_And, ev_Or, ev_Not, ev_If, ev_chain, ev_nil, ev_cons, ev_tup, ev_lst, ev_idx2, idxA_l, idxA_t, idxA_s, idxA_a, idxA_e0, idxA_e1, ev_call, ev_ap, ev_cut, ev_part0, ev_part1, ev_str, ev_tgt, ev_iLst, ev_iTup, ev_iStr, ev_iRng, ev_nop, ev_seq, ev_st, ev_set, ev_new, ev_sTgt, ev_par, ev_sIf, ev_ret, ev_do, ev_raise, ev_for, ev_app, ev_iOwn, ev_enum, ev_oidx, ev_put, ev_yes, lt_len0, lt_lenS, asg_nm, asg_tp, opt_bind_some, len_two, len_one, len_zero, List.getElem?_cons_zero, List.getElem?_cons_succ, List.set_cons_zero, List.set_cons_succ, ↓reduceIte, Bool.false_eq_true, Bool.not_true, Bool.not_false, sl, ro, oLen_s, oSub_i, hr, e1, add_s x' z' (by unfold LN; omega), e2]
end Pu

namespace Pu
/-- a loop that looks for the first hit -/
theorem forL_first {tg : Tg} {b : M Fl} {m : D} (I : Rho → Prop) (f : D → Option D) : ∀ (ds : List D) (r : Rho), I r →
    (∀ d ∈ ds, ∀ r, I r → ∃ r1 r2, asg tg d r = some r1 ∧ match f d with | none => b r1 m = .ok .nx r2 m ∧ I r2 | some x => b r1 m = .ok (.rt x) r2 m) →
    ∃ r', match ds.findSome? f with | none => forL tg b ds r m = .ok .nx r' m ∧ I r' | some x => forL tg b ds r m = .ok (.rt x) r' m
  | [], r, h, _ => ⟨r, ev_forNil, h⟩
  | d :: ds, r, h, hs => by
    obtain ⟨r1, r2, h1, h2⟩ := hs d List.mem_cons_self r h
    rw [List.findSome?_cons]
    cases e : f d with
    | some x =>
      rw [e] at h2
      refine ⟨r2, ?_⟩
      dsimp only at h2 ⊢
      rw [ev_forCons, ev_bd, ev_tgt, h1]
      dsimp only
      rw [ev_bd, h2]
      rfl
    | none =>
      rw [e] at h2
      dsimp only at h2 ⊢
      obtain ⟨r', h3⟩ := forL_first I f ds r2 h2.2 fun d hd => hs d (List.mem_cons_of_mem _ hd)
      refine ⟨r', ?_⟩
      have hc : forL tg b (d :: ds) r m = forL tg b ds r2 m := by
        rw [ev_forCons, ev_bd, ev_tgt, h1]
        dsimp only
        rw [ev_bd, h2.1]
      rw [hc]
      exact h3
/-- pairs with so many voters less in one -/
def wout : List (List Nat × Nat) → Nat → Nat → List (List Nat × Nat)
  | [], _, _ => []
  | p :: ps, 0, t => (if t < p.2 then [(p.1, p.2 - t)] else []) ++ ps
  | p :: ps, k + 1, t => p :: wout ps k t
theorem wout_mem : ∀ {ps : List (List Nat × Nat)} {k t : Nat} {q : List Nat × Nat}, q ∈ wout ps k t → ∃ p ∈ ps, q.1 = p.1
  | p :: ps, 0, t, q, h => by
    unfold wout at h
    rcases List.mem_append.mp h with h | h
    · split at h
      · rw [List.mem_singleton.mp h]; exact ⟨p, List.mem_cons_self, rfl⟩
      · cases h
    · exact ⟨q, List.mem_cons_of_mem _ h, rfl⟩
  | p :: ps, k + 1, t, q, h => by
    unfold wout at h
    rcases List.mem_cons.mp h with h | h
    · rw [h]; exact ⟨p, List.mem_cons_self, rfl⟩
    · obtain ⟨p', h1, h2⟩ := wout_mem h
      exact ⟨p', List.mem_cons_of_mem _ h1, h2⟩
/-- what without makes of the pairs from place i on -/
def woutF (k t : Nat) : Nat → List (List Nat × Nat) → List (List Nat × Nat)
  | _, [] => []
  | i, p :: ps => (if i = k then (if t < p.2 then [(p.1, p.2 - t)] else []) else [p]) ++ woutF k t (i + 1) ps
theorem woutF_ge {k t : Nat} : ∀ {i : Nat} {ps : List (List Nat × Nat)}, k < i → woutF k t i ps = ps
  | _, [], _ => rfl
  | i, p :: ps, h => by
    unfold woutF
    rw [if_neg (by omega), woutF_ge (by omega)]
    rfl
theorem woutF_eq {k t : Nat} : ∀ {i : Nat} {ps : List (List Nat × Nat)}, i ≤ k → woutF k t i ps = wout ps (k - i) t
  | _, [], _ => by simp [woutF, wout]
  | i, p :: ps, h => by
    by_cases e : i = k
    · subst e
      unfold woutF
      rw [if_pos rfl, Nat.sub_self, wout, woutF_ge (by omega)]
    · unfold woutF
      rw [if_neg e, woutF_eq (by omega), show k - i = (k - (i + 1)) + 1 by omega, wout]
      rfl
theorem ne_int (i j : Int) : oNe (.int i) (.int j) = some (.bl (!(i == j))) := ne_i i j
theorem without_run (ps : List (List Nat × Nat)) (k t : Nat) (hl : ps.length ≤ 1000) (m : D) : f_without [.tup (ps.map encP), .int k, .int t] m = .ok (.tup ((wout ps k t).map encP)) m := by
  have hs : start 7 [.tup (ps.map encP), .int k, .int t] = [some (.v (.tup (ps.map encP))), some (.v (.int k)), some (.v (.int t)), none, none, none, none] := Eq.trans rfl rfl
  have go : ∀ (qs : List (List Nat × Nat)) (i : Nat) (acc : List (List Nat × Nat)) (x4 x5 x6 : Option Sl), acc.length + qs.length ≤ 1000 → ∃ y4 y5 y6, forL (.tp (.nm 4) (.tp (.nm 5) (.nm 6))) (sIf (tB (c2 oNe (cVar 4) (cVar 1))) (sApp 3 (cTup (aCons (cVar 5) (aCons (cVar 6) aNil)))) (sIf (tB (c2 oGt (cVar 6) (cVar 2))) (sApp 3 (cTup (aCons (cVar 5) (aCons (c2 oSub (cVar 6) (cVar 2)) aNil)))) sNop)) (enumFrom i (qs.map encP)) [some (.v (.tup (ps.map encP))), some (.v (.int k)), some (.v (.int t)), some (.own (.lst (acc.map encP))), x4, x5, x6] m
      = .ok .nx [some (.v (.tup (ps.map encP))), some (.v (.int k)), some (.v (.int t)), some (.own (.lst ((acc ++ woutF k t i qs).map encP))), y4, y5, y6] m := by
    intro qs
    induction qs with
    | nil => intro i acc x4 x5 x6 _; exact ⟨x4, x5, x6, by rw [show woutF k t i [] = [] from rfl, List.append_nil]; exact ev_forNil⟩
    | cons q qs ih =>
      intro i acc x4 x5 x6 hl
      rw [List.length_cons] at hl
      have e0 : enumFrom i ((q :: qs).map encP) = .tup [.int (i : Nat), encP q] :: enumFrom (i + 1) (qs.map encP) := rfl
      have hap : (acc.map encP).length < LN := by rw [List.length_map]; unfold LN; omega
      have easg : ∀ r : Rho, asg (.tp (.nm 4) (.tp (.nm 5) (.nm 6))) (.tup [.int (i : Nat), encP q]) r = (asg (.nm 4) (.int i) r).bind fun r => (asg (.nm 5) (.str q.1) r).bind (asg (.nm 6) (.int q.2)) := fun r => rfl
      by_cases e : i = k
      · have hd : ((i : Int) == (k : Int)) = true := by subst e; simp
        by_cases ht : t < q.2
        · have hg : decide ((t : Int) < (q.2 : Int)) = true := decide_eq_true (by omega)
          have hsub : (q.2 : Int) - (t : Int) = ((q.2 - t : Nat) : Int) := by omega
          obtain ⟨y4, y5, y6, h⟩ := ih (i + 1) (acc ++ [(q.1, q.2 - t)]) (some (.v (.int i))) (some (.v (.str q.1))) (some (.v (.int q.2))) (by rw [List.length_append]; simp; omega)
          refine ⟨y4, y5, y6, ?_⟩
          rw [e0, ev_forCons]
          have hw : acc ++ woutF k t i (q :: qs) = (acc ++ [(q.1, q.2 - t)]) ++ woutF k t (i + 1) qs := by
            rw [woutF, if_pos e, if_pos ht, List.append_assoc]
          rw [hw]
          simp only [ev_bd, ev_pu, ev_some, ev_var, ev_K, ev_c1, ev_c2, ev_tB, ev_tAnd, ev_tOr, ev_tNot, ev_And, ev_Or, ev_Not, ev_If, ev_chain, ev_nil, ev_cons, ev_tup, ev_lst, ev_idx2, idxA_l, idxA_t, idxA_s, idxA_a, idxA_e0, idxA_e1, ev_call, ev_ap, ev_cut, ev_part0, ev_part1, ev_str, ev_tgt, ev_iLst, ev_iTup, ev_iStr, ev_iRng, ev_nop, ev_seq, ev_st, ev_set, ev_new, ev_sTgt, ev_par, ev_sIf, ev_ret, ev_do, ev_raise, ev_for, ev_app, ev_iOwn, ev_enum, ev_oidx, ev_put, ev_yes, lt_len0, lt_lenS, asg_nm, asg_tp, opt_bind_some, len_two, len_one, len_zero, List.getElem?_cons_zero, List.getElem?_cons_succ, List.set_cons_zero, List.set_cons_succ, ↓reduceIte, Bool.false_eq_true, Bool.not_true, Bool.not_false, sl, ro, easg, ne_i, hd, gt_i, hg, oSub_i, hsub, hap]
          rw [List.map_append] at h
          exact h
        · have hg : decide ((t : Int) < (q.2 : Int)) = false := decide_eq_false (by omega)
          obtain ⟨y4, y5, y6, h⟩ := ih (i + 1) acc (some (.v (.int i))) (some (.v (.str q.1))) (some (.v (.int q.2))) (by omega)
          refine ⟨y4, y5, y6, ?_⟩
          rw [e0, ev_forCons]
          have hw : woutF k t i (q :: qs) = woutF k t (i + 1) qs := by
            rw [woutF, if_pos e, if_neg ht, List.nil_append]
          rw [hw]
          simp only [ev_bd, ev_pu, ev_some, ev_var, ev_K, ev_c1, ev_c2, ev_tB, ev_tAnd, ev_tOr, ev_tNot, ev_And, ev_Or, ev_Not, ev_If, ev_chain, ev_nil, ev_cons, ev_tup, ev_lst, ev_idx2, idxA_l, idxA_t, idxA_s, idxA_a, idxA_e0, idxA_e1, ev_call, ev_ap, ev_cut, ev_part0, ev_part1, ev_str, ev_tgt, ev_iLst, ev_iTup, ev_iStr, ev_iRng, ev_nop, ev_seq, ev_st, ev_set, ev_new, ev_sTgt, ev_par, ev_sIf, ev_ret, ev_do, ev_raise, ev_for, ev_app, ev_iOwn, ev_enum, ev_oidx, ev_put, ev_yes, lt_len0, lt_lenS, asg_nm, asg_tp, opt_bind_some, len_two, len_one, len_zero, List.getElem?_cons_zero, List.getElem?_cons_succ, List.set_cons_zero, List.set_cons_succ, ↓reduceIte, Bool.false_eq_true, Bool.not_true, Bool.not_false, sl, ro, easg, ne_i, hd, gt_i, hg]
          exact h
      · have hd : ((i : Int) == (k : Int)) = false := by
          rw [beq_eq_false_iff_ne]; omega
        obtain ⟨y4, y5, y6, h⟩ := ih (i + 1) (acc ++ [q]) (some (.v (.int i))) (some (.v (.str q.1))) (some (.v (.int q.2))) (by rw [List.length_append]; simp; omega)
        refine ⟨y4, y5, y6, ?_⟩
        rw [e0, ev_forCons]
        have hw : acc ++ woutF k t i (q :: qs) = (acc ++ [q]) ++ woutF k t (i + 1) qs := by
          rw [woutF, if_neg e, List.append_assoc]
        rw [hw]
        simp only [ev_bd, ev_pu, ev_some, ev_var, ev_K, ev_c1, ev_c2, ev_tB, ev_tAnd, ev_tOr, ev_tNot, ev_And, ev_Or, ev_Not, ev_If, ev_chain, ev_nil, ev_cons, ev_tup, ev_lst, ev_idx2, idxA_l, idxA_t, idxA_s, idxA_a, idxA_e0, idxA_e1, ev_call, ev_ap, ev_cut, ev_part0, ev_part1, ev_str, ev_tgt, ev_iLst, ev_iTup, ev_iStr, ev_iRng, ev_nop, ev_seq, ev_st, ev_set, ev_new, ev_sTgt, ev_par, ev_sIf, ev_ret, ev_do, ev_raise, ev_for, ev_app, ev_iOwn, ev_enum, ev_oidx, ev_put, ev_yes, lt_len0, lt_lenS, asg_nm, asg_tp, opt_bind_some, len_two, len_one, len_zero, List.getElem?_cons_zero, List.getElem?_cons_succ, List.set_cons_zero, List.set_cons_succ, ↓reduceIte, Bool.false_eq_true, Bool.not_true, Bool.not_false, sl, ro, easg, ne_i, hd, hap]
        rw [List.map_append] at h
        exact h
  obtain ⟨y4, y5, y6, h⟩ := go ps 0 [] none none none (by simpa using hl)
  rw [List.nil_append, woutF_eq (Nat.zero_le _), Nat.sub_zero] at h
  unfold f_without
  rw [fn_ev (show [D.tup (ps.map encP), D.int k, D.int t].length = 3 from rfl), hs, c_without.eq_1]
  have e0 : ([] : List D) = ([] : List (List Nat × Nat)).map encP := rfl
  simp only [ev_bd, ev_pu, ev_some, ev_var, ev_K, ev_c1, ev_c2, ev_tB, ev_tAnd, ev_tOr, ev_tNot, ev_And, ev_Or, ev_Not, ev_If, ev_chain, ev_nil, ev_cons, ev_tup, ev_lst, ev_idx2, idxA_l, idxA_t, idxA_s, idxA_a, idxA_e0, idxA_e1, ev_call, ev_ap, ev_cut, ev_part0, ev_part1, ev_str, ev_tgt, ev_iLst, ev_iTup, ev_iStr, ev_iRng, ev_nop, ev_seq, ev_st, ev_set, ev_new, ev_sTgt, ev_par, ev_sIf, ev_ret, ev_do, ev_raise, ev_for, ev_app, ev_iOwn, ev_enum, ev_oidx, ev_put, ev_yes, lt_len0, lt_lenS, asg_nm, asg_tp, opt_bind_some, len_two, len_one, len_zero, List.getElem?_cons_zero, List.getElem?_cons_succ, List.set_cons_zero, List.set_cons_succ, ↓reduceIte, Bool.false_eq_true, Bool.not_true, Bool.not_false, sl, ro]
  rw [e0, h]
  simp only [ev_bd, ev_pu, ev_some, ev_var, ev_K, ev_c1, ev_c2, ev_tB, ev_tAnd, ev_tOr, ev_tNot, ev_And, ev_Or, ev_Not, ev_If, ev_chain, ev_nil, ev_cons, ev_tup, ev_lst, ev_idx2, idxA_l, idxA_t, idxA_s, idxA_a, idxA_e0, idxA_e1, ev_call, ev_ap, ev_cut, ev_part0, ev_part1, ev_str, ev_tgt, ev_iLst, ev_iTup, ev_iStr, ev_iRng, ev_nop, ev_seq, ev_st, ev_set, ev_new, ev_sTgt, ev_par, ev_sIf, ev_ret, ev_do, ev_raise, ev_for, ev_app, ev_iOwn, ev_enum, ev_oidx, ev_put, ev_yes, lt_len0, lt_lenS, asg_nm, asg_tp, opt_bind_some, len_two, len_one, len_zero, List.getElem?_cons_zero, List.getElem?_cons_succ, List.set_cons_zero, List.set_cons_succ, ↓reduceIte, Bool.false_eq_true, Bool.not_true, Bool.not_false, sl, ro, oTuple_l]
/-- a voter less: the pair with what is left, none where nothing is left -/
theorem cnt_wout (z : List Nat) (c t : Nat) : ∀ (ps : List (List Nat × Nat)) (k : Nat) (p : List Nat × Nat), ps[k]? = some p → t ≤ p.2 → cnt z (wout ps k t) c = cnt z (ps.set k (p.1, p.2 - t)) c
  | q :: ps, 0, p, h, ht => by
    have : q = p := by simpa using h
    subst this
    rw [wout, List.set_cons_zero]
    by_cases e : t < q.2
    · rw [if_pos e]; rfl
    · rw [if_neg e, List.nil_append, cnt]
      have : q.2 - t = 0 := by omega
      rw [this]
      simp
  | q :: ps, k + 1, p, h, ht => by
    rw [wout, List.set_cons_succ, cnt, cnt, cnt_wout z c t ps k p (by simpa using h) ht]
theorem outL_congr {ps qs : List (List Nat × Nat)} (h : ∀ z c, cnt z ps c = cnt z qs c) (z : List Nat) : outL ps z = outL qs z := by
  unfold outL
  have : z.map (cnt z ps) = z.map (cnt z qs) := List.map_congr_left fun c _ => h z c
  rw [this]
theorem wayN_congr {ps qs : List (List Nat × Nat)} (h : ∀ z c, cnt z ps c = cnt z qs c) : ∀ (k : Nat) (z : List Nat), wayN ps k z = wayN qs k z
  | 0, _ => rfl
  | k + 1, z => by
    unfold wayN
    rw [outL_congr h z]
    split
    · rfl
    · split
      · rw [wayN_congr h k]
      · rfl
theorem way_congr {ps qs : List (List Nat × Nat)} (h : ∀ z c, cnt z ps c = cnt z qs c) (z : List Nat) : way ps z = way qs z := wayN_congr h _ z
theorem way_ne (ps : List (List Nat × Nat)) {z : List Nat} (h : z ≠ []) : way ps z ≠ [] := by
  unfold way
  cases hk : z.length with
  | zero => exact absurd (List.length_eq_zero_iff.mp hk) h
  | succ k =>
    unfold wayN
    split
    · exact h
    · split
      · simp
      · exact h
/-- who wins -/
def win (ps : List (List Nat × Nat)) (z : List Nat) : Nat := (way ps z).getLastD 0
theorem last_idx {x : List Nat} (h : x ≠ []) : oIdx (.str x) (.int (-1)) = some (.str [x.getLastD 0]) := by
  show (atI x (-1)).map _ = _
  have hl : 0 < x.length := List.length_pos_iff.mpr h
  have e : atI x (-1) = some (x.getLastD 0) := by
    unfold atI ixN
    rw [if_neg (by omega), if_pos (by omega)]
    show x[(-1 + (x.length : Int)).toNat]? = _
    have : (-1 + (x.length : Int)).toNat = x.length - 1 := by omega
    rw [this, ← List.getLast?_eq_getElem?, List.getLast?_eq_some_getLast h, List.getLastD_eq_getLast?, List.getLast?_eq_some_getLast h]
    rfl
  rw [e]
  rfl
theorem oNeg1 : oNeg (.int 1) = some (.int (-1)) := Eq.trans rfl rfl
theorem win_idx (ps : List (List Nat × Nat)) {z : List Nat} (h : z ≠ []) : oIdx (.str (way ps z)) (.int (-1)) = some (.str [win ps z]) := last_idx (way_ne ps h)
theorem winner_of_run {n : Nat} {ps : List (List Nat × Nat)} (h : Vot n ps) (m : D) : f_winner_of [encV n ps] m = .ok (.str [win ps (LET.take n)]) m := by
  have hs : start 1 [encV n ps] = [some (.v (encV n ps))] := Eq.trans rfl rfl
  have hc : f_candidates_of [encV n ps] m = .ok (.str (LET.take n)) m := cand_run n h.n5 _ m
  have hw := way_run (ps := ps) (asc_let n) (by rw [LET_len h.n5]; exact h.n5) (letn_ne h.n2) h.len5 m
  unfold f_winner_of
  rw [fn_ev (show [encV n ps].length = 1 from rfl), hs, c_winner_of.eq_1]
  simp only [ev_bd, ev_pu, ev_some, ev_var, ev_K, ev_c1, ev_c2, ev_tB, ev_tAnd, ev_tOr, ev_tNot, ev_And, ev_Or, ev_Not, ev_If, ev_chain, ev_nil, ev_cons, ev_tup, ev_lst, ev_idx2, idxA_l, idxA_t, idxA_s, idxA_a, idxA_e0, idxA_e1, ev_call, ev_ap, ev_cut, ev_part0, ev_part1, ev_str, ev_tgt, ev_iLst, ev_iTup, ev_iStr, ev_iRng, ev_nop, ev_seq, ev_st, ev_set, ev_new, ev_sTgt, ev_par, ev_sIf, ev_ret, ev_do, ev_raise, ev_for, ev_app, ev_iOwn, ev_enum, ev_oidx, ev_put, ev_yes, lt_len0, lt_lenS, asg_nm, asg_tp, opt_bind_some, len_two, len_one, len_zero, List.getElem?_cons_zero, List.getElem?_cons_succ, List.set_cons_zero, List.set_cons_succ, ↓reduceIte, Bool.false_eq_true, Bool.not_true, Bool.not_false, sl, ro, hc, hw, oNeg1, win_idx ps (letn_ne h.n2)]
theorem winner_run {n : Nat} {ps : List (List Nat × Nat)} (h : Vot n ps) (m : D) : f_winner [encV n ps] m = .ok (.str [win ps (LET.take n)]) m := by
  have hs : start 1 [encV n ps] = [some (.v (encV n ps))] := Eq.trans rfl rfl
  unfold f_winner
  rw [fn_ev (show [encV n ps].length = 1 from rfl), hs, c_winner.eq_1]
  simp only [ev_bd, ev_pu, ev_some, ev_var, ev_K, ev_c1, ev_c2, ev_tB, ev_tAnd, ev_tOr, ev_tNot, ev_And, ev_Or, ev_Not, ev_If, ev_chain, ev_nil, ev_cons, ev_tup, ev_lst, ev_idx2, idxA_l, idxA_t, idxA_s, idxA_a, idxA_e0, idxA_e1, ev_call, ev_ap, ev_cut, ev_part0, ev_part1, ev_str, ev_tgt, ev_iLst, ev_iTup, ev_iStr, ev_iRng, ev_nop, ev_seq, ev_st, ev_set, ev_new, ev_sTgt, ev_par, ev_sIf, ev_ret, ev_do, ev_raise, ev_for, ev_app, ev_iOwn, ev_enum, ev_oidx, ev_put, ev_yes, lt_len0, lt_lenS, asg_nm, asg_tp, opt_bind_some, len_two, len_one, len_zero, List.getElem?_cons_zero, List.getElem?_cons_succ, List.set_cons_zero, List.set_cons_succ, ↓reduceIte, Bool.false_eq_true, Bool.not_true, Bool.not_false, sl, ro, need_run h, winner_of_run h]
end Pu

namespace Pu
section
variable {r : Rho} {m : D} {i j l : Nat} {a b c : M D}
theorem ev_rng2 : iRng2 a b r m = bd a (fun x => bd b fun y => match x, y with
  | .int i, .int j => if i.natAbs ≤ 1000000 ∧ j.natAbs ≤ 1000000 then pu (rg i (j - i).toNat) else fun _ _ => .bad
  | _, _ => fun _ _ => .bad) r m := Eq.trans rfl rfl
theorem ev_par3 : sPar3 i j l a b c r m = bd a (fun x => bd b fun y => bd c fun z => fun r m => if i < r.length ∧ j < r.length ∧ l < r.length then .ok .nx (((r.set i (some (.v x))).set j (some (.v y))).set l (some (.v z))) m else .bad) r m := Eq.trans rfl rfl
end
theorem is_nn : oIs .non .non = some (.bl true) := Eq.trans rfl rfl
theorem is_tn (ds : List D) : oIs (.tup ds) .non = some (.bl false) := Eq.trans rfl rfl
theorem isnt_nn : oIsNot .non .non = some (.bl false) := Eq.trans rfl rfl
theorem isnt_tn (ds : List D) : oIsNot (.tup ds) .non = some (.bl true) := Eq.trans rfl rfl
/-- a loop that gathers -/
theorem forL_acc {A : Type} {tg : Tg} {b : M Fl} {m : D} (g : A → D → A) (I : A → Rho → Prop) : ∀ (ds : List D) (a : A) (r : Rho), I a r →
    (∀ d ∈ ds, ∀ a r, I a r → ∃ r1 r2, asg tg d r = some r1 ∧ b r1 m = .ok .nx r2 m ∧ I (g a d) r2) → ∃ r', forL tg b ds r m = .ok .nx r' m ∧ I (ds.foldl g a) r'
  | [], a, r, h, _ => ⟨r, ev_forNil, h⟩
  | d :: ds, a, r, h, hs => by
    obtain ⟨r1, r2, h1, h2, h3⟩ := hs d List.mem_cons_self a r h
    obtain ⟨r', h4, h5⟩ := forL_acc g I ds (g a d) r2 h3 fun d hd => hs d (List.mem_cons_of_mem _ hd)
    refine ⟨r', ?_, h5⟩
    rw [ev_forCons, ev_bd, ev_tgt, h1]
    dsimp only
    rw [ev_bd, h2]
    exact h4
/-- the first one is kept -/
def keep1 (f : D → Option D) (due d : D) : D := match due with
  | .non => (f d).getD .non
  | x => x
theorem keep1_fold (f : D → Option D) (hf : ∀ d x, f d = some x → isNon x = false) : ∀ (ds : List D) (a : D), ds.foldl (keep1 f) a = if isNon a then (ds.findSome? f).getD .non else a
  | [], a => by cases a <;> rfl
  | d :: ds, a => by
    rw [List.foldl_cons, keep1_fold f hf ds, List.findSome?_cons]
    cases e : isNon a with
    | false =>
      have : keep1 f a d = a := by cases a <;> first | rfl | simp [isNon] at e
      rw [this, e]
      rfl
    | true =>
      have ha : a = .non := by cases a <;> first | rfl | simp [isNon] at e
      subst ha
      cases q : f d with
      | none =>
        have : keep1 f .non d = .non := by unfold keep1; rw [q]; rfl
        rw [this]
        rfl
      | some x =>
        have : keep1 f .non d = x := by unfold keep1; rw [q]; rfl
        rw [this, hf d x q]
        rfl
theorem findSome_congr {A B : Type} {f g : A → Option B} : ∀ {ds : List A}, (∀ d ∈ ds, f d = g d) → ds.findSome? f = ds.findSome? g
  | [], _ => rfl
  | d :: ds, h => by
    rw [List.findSome?_cons, List.findSome?_cons, h d List.mem_cons_self, findSome_congr fun d hd => h d (List.mem_cons_of_mem _ hd)]
theorem need_not {d m : D} (h : f_is_votes [d] m = .ok (.bl false) m) : f_need_votes [d] m = .exc 0 m := by
  have hs : start 1 [d] = [some (.v (d))] := Eq.trans rfl rfl
  unfold f_need_votes
  rw [fn_ev (show [d].length = 1 from rfl), hs, c_need_votes.eq_1]
  simp only [ev_bd, ev_pu, ev_some, ev_var, ev_K, ev_c1, ev_c2, ev_tB, ev_tAnd, ev_tOr, ev_tNot, ev_And, ev_Or, ev_Not, ev_If, ev_chain, ev_nil, ev_cons, ev_tup, ev_lst, ev_idx2, idxA_l, idxA_t, idxA_s, idxA_a, idxA_e0, idxA_e1, ev_call, ev_ap, ev_cut, ev_part0, ev_part1, ev_str, ev_tgt, ev_iLst, ev_iTup, ev_iStr, ev_iRng, ev_nop, ev_seq, ev_st, ev_set, ev_new, ev_sTgt, ev_par, ev_sIf, ev_ret, ev_do, ev_raise, ev_for, ev_app, ev_iOwn, ev_enum, ev_oidx, ev_put, ev_yes, lt_len0, lt_lenS, asg_nm, asg_tp, opt_bind_some, len_two, len_one, len_zero, List.getElem?_cons_zero, List.getElem?_cons_succ, List.set_cons_zero, List.set_cons_succ, ↓reduceIte, Bool.false_eq_true, Bool.not_true, Bool.not_false, sl, ro, h]
theorem tup0_bad (m : D) : f_is_votes [.tup []] m = .ok (.bl false) m := by
  have hs : start 4 [.tup []] = [some (.v (.tup [])), none, none, none] := Eq.trans rfl rfl
  have i1 : oIsi "tuple" (.tup []) = some (.bl true) := by rw [oIsi_ _ _ "tuple" rfl]; rfl
  have e1 : oNe (.int (([] : List D).length : Nat)) (.int 2) = some (.bl true) := by rw [ne_i]; rfl
  unfold f_is_votes
  rw [fn_ev (show [D.tup []].length = 1 from rfl), hs, c_is_votes.eq_1]
  simp only [ev_bd, ev_pu, ev_some, ev_var, ev_K, ev_c1, ev_c2, ev_tB, ev_tAnd, ev_tOr, ev_tNot, ev_And, ev_Or, ev_Not, ev_If, ev_chain, ev_nil, ev_cons, ev_tup, ev_lst, ev_idx2, idxA_l, idxA_t, idxA_s, idxA_a, idxA_e0, idxA_e1, ev_call, ev_ap, ev_cut, ev_part0, ev_part1, ev_str, ev_tgt, ev_iLst, ev_iTup, ev_iStr, ev_iRng, ev_nop, ev_seq, ev_st, ev_set, ev_new, ev_sTgt, ev_par, ev_sIf, ev_ret, ev_do, ev_raise, ev_for, ev_app, ev_iOwn, ev_enum, ev_oidx, ev_put, ev_yes, lt_len0, lt_lenS, asg_nm, asg_tp, opt_bind_some, len_two, len_one, len_zero, List.getElem?_cons_zero, List.getElem?_cons_succ, List.set_cons_zero, List.set_cons_succ, ↓reduceIte, Bool.false_eq_true, Bool.not_true, Bool.not_false, sl, ro, i1, oLen_t, e1]
/-! ### votes with other numbers of voters -/
def chg (f : Nat → Nat) (ps : List (List Nat × Nat)) : List (List Nat × Nat) := ps.map fun p => (p.1, f p.2)
theorem Vot.chg {n : Nat} {ps : List (List Nat × Nat)} (h : Vot n ps) {f : Nat → Nat} (hf : ∀ t, 1 ≤ f t ∧ f t ≤ 20) : Vot n (Pu.chg f ps) where
  n2 := h.n2
  n5 := h.n5
  len := by unfold Pu.chg; rw [List.length_map]; exact h.len
  bal := fun p hp => by
    obtain ⟨q, hq, rfl⟩ := List.mem_map.mp hp
    exact ⟨(h.bal q hq).1, hf q.2⟩
  nd := by
    have : (Pu.chg f ps).map (·.1) = ps.map (·.1) := by unfold Pu.chg; rw [List.map_map]; rfl
    rw [this]
    exact h.nd
/-! ### pairs of two candidates -/
theorem win_two (ps : List (List Nat × Nat)) {a b : Nat} (h : a ≠ b) : win ps [a, b] = if cnt [a, b] ps a < cnt [a, b] ps b then b else a := by
  have e1 : ([a, b].filter fun x => !(x == a)) = [b] := by simp [h, Ne.symm h]
  have e2 : ([a, b].filter fun x => !(x == b)) = [a] := by simp [h]
  have hw : ∀ c, outL ps [a, b] = some c → way ps [a, b] = c :: [a, b].filter fun x => !(x == c) := fun c hc => by
    show wayN ps 2 [a, b] = _
    rw [wayN, if_neg (by simp), hc]
    show c :: wayN ps 1 _ = _
    congr 1
    rw [wayN]
    split
    · rfl
    · rename_i hn
      exfalso
      have hc' : c ∈ [a, b] := by
        obtain ⟨x, h1, h2⟩ := out_some ps (z := [a, b]) (by simp)
        rw [hc] at h1; cases h1; exact h2
      simp only [List.mem_cons, List.not_mem_nil, or_false] at hc'
      rcases hc' with rfl | rfl
      · rw [e1] at hn; simp at hn
      · rw [e2] at hn; simp at hn
  have ho : outL ps [a, b] = some (if cnt [a, b] ps a < cnt [a, b] ps b then a else b) := by
    unfold outL lasts
    show (List.map (·.1) (List.filter (fun p => decide (p.2 = minI [cnt [a, b] ps a, cnt [a, b] ps b])) [(a, cnt [a, b] ps a), (b, cnt [a, b] ps b)])).getLast? = _
    generalize cnt [a, b] ps a = x
    generalize cnt [a, b] ps b = y
    have hm : minI [x, y] = min x y := rfl
    by_cases hxy : x < y
    · have h1 : decide (x = minI [x, y]) = true := by rw [hm, Int.min_eq_left (by omega)]; simp
      have h2 : decide (y = minI [x, y]) = false := by rw [hm, Int.min_eq_left (by omega)]; simpa using (by omega : y ≠ x)
      simp [List.filter_cons, h1, h2, hxy]
    · have h2 : decide (y = minI [x, y]) = true := by rw [hm, Int.min_eq_right (by omega)]; simp
      by_cases hx : decide (x = minI [x, y]) = true
      · simp [List.filter_cons, hx, h2, hxy]
      · simp [List.filter_cons, hx, h2, hxy]
  unfold win
  rw [hw _ ho]
  by_cases hxy : cnt [a, b] ps a < cnt [a, b] ps b
  · rw [if_pos hxy, if_pos hxy, e1]; rfl
  · rw [if_neg hxy, if_neg hxy, e2]; rfl
theorem cnt_set (z : List Nat) (c : Nat) : ∀ (ps : List (List Nat × Nat)) (k : Nat) (p : List Nat × Nat) (t : Nat), ps[k]? = some p → t ≤ p.2 → cnt z (ps.set k (p.1, p.2 - t)) c = cnt z ps c - (if firstOf z p.1 = some c then (t : Int) else 0)
  | q :: ps, 0, p, t, h, ht => by
    have : q = p := by simpa using h
    subst this
    rw [List.set_cons_zero, cnt, cnt]
    split <;> omega
  | q :: ps, k + 1, p, t, h, ht => by
    rw [List.set_cons_succ, cnt, cnt, cnt_set z c ps k p t (by simpa using h) ht]
    omega
theorem bef_self (b : List Nat) (x : Nat) : bef b x x = false := by
  unfold bef
  by_cases h : x ∈ b <;> simp [h]
end Pu

namespace Pu
/-! ### absences -/
/-- so many voters of the pair at place k stay away: told if it helps -/
def absI (ps : List (List Nat × Nat)) (z : List Nat) (own : Nat) (k : Int) (b : List Nat) : D → Option D
  | .int t => if bef b (win (wout ps k.toNat t.toNat) z) own then some (.tup [.int k, .int t]) else none
  | _ => none
def absO (ps : List (List Nat × Nat)) (z : List Nat) (own : Nat) : D → Option D
  | .tup [.int k, .tup [.str b, .int t]] => (rg 1 t.toNat).findSome? (absI ps z own k b)
  | _ => none
def absD (ps : List (List Nat × Nat)) (z : List Nat) : D := ((enumFrom 0 (ps.map encP)).findSome? (absO ps z (win ps z))).getD .non
theorem rg_mem {lo : Int} {n : Nat} {d : D} (h : d ∈ rg lo n) : ∃ j, j < n ∧ d = .int (lo + (j : Nat)) := by
  obtain ⟨j, h1, rfl⟩ := List.mem_map.mp h
  exact ⟨j, List.mem_range.mp h1, rfl⟩
theorem enumP_mem {ps : List (List Nat × Nat)} {d : D} (h : d ∈ enumFrom 0 (ps.map encP)) : ∃ (k : Nat) (p : List Nat × Nat), ps[k]? = some p ∧ d = .tup [.int k, encP p] := by
  obtain ⟨j, x, hj, rfl⟩ := enum_mem h
  rw [List.getElem?_map] at hj
  obtain ⟨p, hp, rfl⟩ := Option.map_eq_some_iff.mp hj
  exact ⟨j, p, hp, by rw [Nat.zero_add]⟩
theorem wout_len5 {n : Nat} {ps : List (List Nat × Nat)} (h : Vot n ps) (k t : Nat) : ∀ p ∈ wout ps k t, p.1.length ≤ 1000 := fun p hp => by
  obtain ⟨q, h1, h2⟩ := wout_mem hp
  rw [h2]
  exact h.len5 q h1
theorem absence_run {n : Nat} {ps : List (List Nat × Nat)} (h : Vot n ps) (m : D) : f_absence_that_helps [encV n ps] m = .ok (absD ps (LET.take n)) m := by
  have hs : start 8 [encV n ps] = [some (.v (encV n ps)), none, none, none, none, none, none, none] := Eq.trans rfl rfl
  have hc : f_candidates_of [encV n ps] m = .ok (.str (LET.take n)) m := cand_run n h.n5 _ m
  have hw := winner_of_run h m
  generalize hz : LET.take n = z at hc hw
  have hzn : z ≠ [] := by rw [← hz]; exact letn_ne h.n2
  have hza : Asc z := by rw [← hz]; exact asc_let n
  have hz5 : z.length ≤ 5 := by rw [← hz, LET_len h.n5]; exact h.n5
  generalize ho : win ps z = own at hw
  have loop := forL_first (tg := .tp (.nm 3) (.tp (.nm 4) (.nm 5))) (b := sFor (iRng2 (cK (.int 1)) (c2 oAdd (cVar 5) (cK (.int 1)))) (.nm 6) (sSeq (sSet 7 (cIdx (cCall f_way_of (aCons (cCall f_without (aCons (cIdx (cVar 0) (cK (.int 1))) (aCons (cVar 3) (aCons (cVar 6) aNil)))) (aCons (cVar 1) aNil))) (c1 oNeg (cK (.int 1)))))
    (sIf (tB (cCall f_is_before (aCons (cVar 4) (aCons (cVar 7) (aCons (cVar 2) aNil))))) (sRet (cTup (aCons (cVar 3) (aCons (cVar 6) aNil)))) sNop))) (m := m) (fun r => ∃ x3 x4 x5 x6 x7, r = [some (.v (encV n ps)), some (.v (.str z)), some (.v (.str [own])), x3, x4, x5, x6, x7]) (absO ps z own) (enumFrom 0 (ps.map encP))
    [some (.v (encV n ps)), some (.v (.str z)), some (.v (.str [own])), none, none, none, none, none] ⟨none, none, none, none, none, rfl⟩ (by
    intro d hd r hr
    obtain ⟨x3, x4, x5, x6, x7, rfl⟩ := hr
    obtain ⟨k, p, hk, rfl⟩ := enumP_mem hd
    have hpm : p ∈ ps := List.mem_of_getElem? hk
    have ht := (h.bal p hpm).2
    have inner := forL_first (tg := .nm 6) (b := sSeq (sSet 7 (cIdx (cCall f_way_of (aCons (cCall f_without (aCons (cIdx (cVar 0) (cK (.int 1))) (aCons (cVar 3) (aCons (cVar 6) aNil)))) (aCons (cVar 1) aNil))) (c1 oNeg (cK (.int 1)))))
      (sIf (tB (cCall f_is_before (aCons (cVar 4) (aCons (cVar 7) (aCons (cVar 2) aNil))))) (sRet (cTup (aCons (cVar 3) (aCons (cVar 6) aNil)))) sNop)) (m := m) (fun r => ∃ x6 x7, r = [some (.v (encV n ps)), some (.v (.str z)), some (.v (.str [own])), some (.v (.int k)), some (.v (.str p.1)), some (.v (.int p.2)), x6, x7]) (absI ps z own k p.1) (rg 1 p.2)
      [some (.v (encV n ps)), some (.v (.str z)), some (.v (.str [own])), some (.v (.int k)), some (.v (.str p.1)), some (.v (.int p.2)), x6, x7] ⟨x6, x7, rfl⟩ (by
      intro d hd r hr
      obtain ⟨x6, x7, rfl⟩ := hr
      obtain ⟨j, hj, rfl⟩ := rg_mem hd
      have e1 : (1 : Int) + (j : Nat) = ((j + 1 : Nat) : Int) := by omega
      rw [e1]
      have hwo := without_run ps k (j + 1) (by have := h.len; omega) m
      have hwa := way_run (ps := wout ps k (j + 1)) hza hz5 hzn (wout_len5 h k (j + 1)) m
      have hwi := win_idx (wout ps k (j + 1)) hzn
      have hbe := before_run p.1 (win (wout ps k (j + 1)) z) own m
      have hk2 : ((k : Nat) : Int).toNat = k := by omega
      have hj2 : ((j + 1 : Nat) : Int).toNat = j + 1 := by omega
      refine ⟨[some (.v (encV n ps)), some (.v (.str z)), some (.v (.str [own])), some (.v (.int k)), some (.v (.str p.1)), some (.v (.int p.2)), some (.v (.int ((j + 1 : Nat) : Int))), x7], [some (.v (encV n ps)), some (.v (.str z)), some (.v (.str [own])), some (.v (.int k)), some (.v (.str p.1)), some (.v (.int p.2)), some (.v (.int ((j + 1 : Nat) : Int))), some (.v (.str [win (wout ps k (j + 1)) z]))], rfl, ?_⟩
      unfold absI
      dsimp only
      rw [hk2, hj2]
      cases hb : bef p.1 (win (wout ps k (j + 1)) z) own with
      | true =>
        rw [hb] at hbe
        rw [if_pos rfl]
        simp only [ev_bd, ev_pu, ev_some, ev_var, ev_K, ev_c1, ev_c2, ev_tB, ev_tAnd, ev_tOr, ev_tNot, ev_And, ev_Or, ev_Not, ev_If, ev_chain, ev_nil, ev_cons, ev_tup, ev_lst, ev_idx2, idxA_l, idxA_t, idxA_s, idxA_a, idxA_e0, idxA_e1, ev_call, ev_ap, ev_cut, ev_part0, ev_part1, ev_str, ev_tgt, ev_iLst, ev_iTup, ev_iStr, ev_iRng, ev_nop, ev_seq, ev_st, ev_set, ev_new, ev_sTgt, ev_par, ev_sIf, ev_ret, ev_do, ev_raise, ev_for, ev_app, ev_iOwn, ev_enum, ev_oidx, ev_put, ev_yes, lt_len0, lt_lenS, asg_nm, asg_tp, opt_bind_some, len_two, len_one, len_zero, List.getElem?_cons_zero, List.getElem?_cons_succ, List.set_cons_zero, List.set_cons_succ, ↓reduceIte, Bool.false_eq_true, Bool.not_true, Bool.not_false, sl, ro, hwo, hwa, oNeg1, hwi, hbe]
      | false =>
        rw [hb] at hbe
        rw [if_neg Bool.false_ne_true]
        refine ⟨?_, _, _, rfl⟩
        simp only [ev_bd, ev_pu, ev_some, ev_var, ev_K, ev_c1, ev_c2, ev_tB, ev_tAnd, ev_tOr, ev_tNot, ev_And, ev_Or, ev_Not, ev_If, ev_chain, ev_nil, ev_cons, ev_tup, ev_lst, ev_idx2, idxA_l, idxA_t, idxA_s, idxA_a, idxA_e0, idxA_e1, ev_call, ev_ap, ev_cut, ev_part0, ev_part1, ev_str, ev_tgt, ev_iLst, ev_iTup, ev_iStr, ev_iRng, ev_nop, ev_seq, ev_st, ev_set, ev_new, ev_sTgt, ev_par, ev_sIf, ev_ret, ev_do, ev_raise, ev_for, ev_app, ev_iOwn, ev_enum, ev_oidx, ev_put, ev_yes, lt_len0, lt_lenS, asg_nm, asg_tp, opt_bind_some, len_two, len_one, len_zero, List.getElem?_cons_zero, List.getElem?_cons_succ, List.set_cons_zero, List.set_cons_succ, ↓reduceIte, Bool.false_eq_true, Bool.not_true, Bool.not_false, sl, ro, hwo, hwa, oNeg1, hwi, hbe])
    obtain ⟨r', inner⟩ := inner
    refine ⟨[some (.v (encV n ps)), some (.v (.str z)), some (.v (.str [own])), some (.v (.int k)), some (.v (.str p.1)), some (.v (.int p.2)), x6, x7], r', rfl, ?_⟩
    have eo : absO ps z own (.tup [.int k, encP p]) = (rg 1 p.2).findSome? (absI ps z own k p.1) := by
      show (rg 1 ((p.2 : Int)).toNat).findSome? _ = _
      have : ((p.2 : Int)).toNat = p.2 := by omega
      rw [this]
    have hr : (1 : Int).natAbs ≤ 1000000 ∧ ((p.2 : Int) + 1).natAbs ≤ 1000000 := by omega
    have e2 : ((p.2 : Int) + 1 - 1).toNat = p.2 := by omega
    rw [eo]
    cases q : (rg 1 p.2).findSome? (absI ps z own k p.1) with
    | none =>
      rw [q] at inner
      dsimp only at inner ⊢
      obtain ⟨i1, x6', x7', i2⟩ := inner
      refine ⟨?_, some (.v (.int k)), some (.v (.str p.1)), some (.v (.int p.2)), x6', x7', i2⟩
      simp only [ev_bd, ev_pu, ev_some, ev_var, ev_K, ev_c1, ev_c2, ev_tB, ev_tAnd, ev_tOr, ev_tNot, ev_And, ev_Or, ev_Not, ev_If, ev_chain, ev_nil, ev_cons, ev_tup, ev_lst, ev_idx2, idxA_l, idxA_t, idxA_s, idxA_a, idxA_e0, idxA_e1, ev_call, ev_ap, ev_cut, ev_part0, ev_part1, ev_str, ev_tgt, ev_iLst, ev_iTup, ev_iStr, ev_iRng, ev_nop, ev_seq, ev_st, ev_set, ev_new, ev_sTgt, ev_par, ev_sIf, ev_ret, ev_do, ev_raise, ev_for, ev_app, ev_iOwn, ev_enum, ev_oidx, ev_put, ev_yes, lt_len0, lt_lenS, asg_nm, asg_tp, opt_bind_some, len_two, len_one, len_zero, List.getElem?_cons_zero, List.getElem?_cons_succ, List.set_cons_zero, List.set_cons_succ, ↓reduceIte, Bool.false_eq_true, Bool.not_true, Bool.not_false, sl, ro, ev_rng2, oAdd_i, hr, and_self, e2, i1]
    | some x =>
      rw [q] at inner
      dsimp only at inner ⊢
      simp only [ev_bd, ev_pu, ev_some, ev_var, ev_K, ev_c1, ev_c2, ev_tB, ev_tAnd, ev_tOr, ev_tNot, ev_And, ev_Or, ev_Not, ev_If, ev_chain, ev_nil, ev_cons, ev_tup, ev_lst, ev_idx2, idxA_l, idxA_t, idxA_s, idxA_a, idxA_e0, idxA_e1, ev_call, ev_ap, ev_cut, ev_part0, ev_part1, ev_str, ev_tgt, ev_iLst, ev_iTup, ev_iStr, ev_iRng, ev_nop, ev_seq, ev_st, ev_set, ev_new, ev_sTgt, ev_par, ev_sIf, ev_ret, ev_do, ev_raise, ev_for, ev_app, ev_iOwn, ev_enum, ev_oidx, ev_put, ev_yes, lt_len0, lt_lenS, asg_nm, asg_tp, opt_bind_some, len_two, len_one, len_zero, List.getElem?_cons_zero, List.getElem?_cons_succ, List.set_cons_zero, List.set_cons_succ, ↓reduceIte, Bool.false_eq_true, Bool.not_true, Bool.not_false, sl, ro, ev_rng2, oAdd_i, hr, and_self, e2, inner])
  obtain ⟨r', loop⟩ := loop
  unfold f_absence_that_helps absD
  rw [fn_ev (show [encV n ps].length = 1 from rfl), hs, c_absence_that_helps.eq_1, ho]
  cases q : (enumFrom 0 (ps.map encP)).findSome? (absO ps z own) with
  | none =>
    rw [q] at loop
    dsimp only at loop
    simp only [ev_bd, ev_pu, ev_some, ev_var, ev_K, ev_c1, ev_c2, ev_tB, ev_tAnd, ev_tOr, ev_tNot, ev_And, ev_Or, ev_Not, ev_If, ev_chain, ev_nil, ev_cons, ev_tup, ev_lst, ev_idx2, idxA_l, idxA_t, idxA_s, idxA_a, idxA_e0, idxA_e1, ev_call, ev_ap, ev_cut, ev_part0, ev_part1, ev_str, ev_tgt, ev_iLst, ev_iTup, ev_iStr, ev_iRng, ev_nop, ev_seq, ev_st, ev_set, ev_new, ev_sTgt, ev_par, ev_sIf, ev_ret, ev_do, ev_raise, ev_for, ev_app, ev_iOwn, ev_enum, ev_oidx, ev_put, ev_yes, lt_len0, lt_lenS, asg_nm, asg_tp, opt_bind_some, len_two, len_one, len_zero, List.getElem?_cons_zero, List.getElem?_cons_succ, List.set_cons_zero, List.set_cons_succ, ↓reduceIte, Bool.false_eq_true, Bool.not_true, Bool.not_false, sl, ro, need_run h, hc, hw, loop.1]
    rfl
  | some x =>
    rw [q] at loop
    dsimp only at loop
    simp only [ev_bd, ev_pu, ev_some, ev_var, ev_K, ev_c1, ev_c2, ev_tB, ev_tAnd, ev_tOr, ev_tNot, ev_And, ev_Or, ev_Not, ev_If, ev_chain, ev_nil, ev_cons, ev_tup, ev_lst, ev_idx2, idxA_l, idxA_t, idxA_s, idxA_a, idxA_e0, idxA_e1, ev_call, ev_ap, ev_cut, ev_part0, ev_part1, ev_str, ev_tgt, ev_iLst, ev_iTup, ev_iStr, ev_iRng, ev_nop, ev_seq, ev_st, ev_set, ev_new, ev_sTgt, ev_par, ev_sIf, ev_ret, ev_do, ev_raise, ev_for, ev_app, ev_iOwn, ev_enum, ev_oidx, ev_put, ev_yes, lt_len0, lt_lenS, asg_nm, asg_tp, opt_bind_some, len_two, len_one, len_zero, List.getElem?_cons_zero, List.getElem?_cons_succ, List.set_cons_zero, List.set_cons_succ, ↓reduceIte, Bool.false_eq_true, Bool.not_true, Bool.not_false, sl, ro, need_run h, hc, hw, loop]
    rfl
end Pu

namespace Su
open PySem PySem.Spec PyProof.Rows L2
open Pu (D Sl Rho Rs M Ro Fn Fl Tg LN)
section
variable {X : Cx} {T : Tb} {E : XK} {a : Expr} {p pos : Pos} {ca : M D}
/-- list(e), a list of its own -/
theorem so_list (hm : X.mg "list" = none) (ha : SE X T E a ca) (hg : Gl X "list" := by rfl) (he : starEach (a :: []) X.env = (false, eval a X.env) :: starEach [] X.env := by rfl) (hpl : (backTo pos (starEach [] X.env)).any (·.1) = false := by rfl) :
    SO X T E (.Call (.Name "list" p) [a] [] pos) (Pu.c1 Pu.oList ca) := by
  obtain ⟨t, h1, h2⟩ := ha
  refine ⟨_, pe_callTy call_list_of hg hm (by decide +kernel) (pa_cons h1 pa_nil he) (by decide) (by decide) he hpl, fun al r m s G H Q R hP => ?_⟩
  refine h2.thnN R hP fun y r1 m1 v G1 H1 S1 R1 d1 P1 => ?_
  obtain ⟨d, e, P2⟩ := P1.opt_
  cases y <;> simp only [Pu.oList, reduceCtorEq, Option.some.injEq] at e
  · subst e
    obtain ⟨q, xs, rfl, g1, hl, g2⟩ := d1.tup_of
    exact ⟨q, xs, rfl, .inr (SqT.of (R1.same _ _ g1)), fun l n => fin_new R1 P2 g2 hl n⟩
  · subst e
    obtain ⟨q, xs, rfl, g1, hl, g2⟩ := d1.lst_of
    exact ⟨q, xs, rfl, .inl (SqL.of (R1.same _ _ g1)), fun l n => fin_new R1 P2 g2 hl n⟩
end
end Su

namespace Pu
/-- max of a text -/
def oMaxT : D → Option D
  | .str (c :: cs) => some (.str (maxS [c] (cs.map fun y => [y])))
  | _ => none
/-- sorted, texts -/
def leT (a b : List Nat) : Bool := !decide (b < a)
def srt (zs : List (List Nat)) : List (List Nat) := zs.mergeSort leT
def oSrt : D → Option D
  | .lst ds => (strsD ds).map fun zs => .lst ((srt zs).map .str)
  | _ => none
theorem leT_trans (a b c : List Nat) (h1 : leT a b = true) (h2 : leT b c = true) : leT a c = true := by
  simp only [leT, Bool.not_eq_true', decide_eq_false_iff_not] at *
  exact List.not_lt.mpr (List.le_trans (List.not_lt.mp h1) (List.not_lt.mp h2))
theorem leT_total (a b : List Nat) : (leT a b || leT b a) = true := by
  simp only [leT, Bool.or_eq_true, Bool.not_eq_true', decide_eq_false_iff_not]
  by_cases h : b < a
  · exact .inr (List.lt_asymm h)
  · exact .inl h
theorem leT_anti {a b : List Nat} (h1 : leT a b = true) (h2 : leT b a = true) : a = b := by
  simp only [leT, Bool.not_eq_true', decide_eq_false_iff_not] at *
  exact List.le_antisymm (List.not_lt.mp h1) (List.not_lt.mp h2)
theorem srt_only {ys zs : List (List Nat)} (p : ys.Perm zs) (h : ys.Pairwise fun a b => leT a b = true) : ys = srt zs :=
  List.Perm.eq_of_pairwise (le := fun a b => leT a b = true) (fun _ _ _ _ => leT_anti) h (List.pairwise_mergeSort leT_trans leT_total _) (p.trans (List.mergeSort_perm _ _).symm)
theorem srt_perm (zs : List (List Nat)) : (srt zs).Perm zs := List.mergeSort_perm _ _
end Pu
namespace Su
open PySem PySem.Spec PyProof.Rows L2
open Pu (D Sl Rho Rs M Ro Fn Fl Tg LN)
theorem lt_leT : ∀ a b : List Nat, ltCps a b = !Pu.leT b a
  | [], [] => by simp [ltCps, Pu.leT]
  | [], _ :: _ => by simp [ltCps, Pu.leT]
  | _ :: _, [] => by simp [ltCps, Pu.leT]
  | a :: r, b :: t => by
    have ih := lt_leT r t
    simp only [Pu.leT, Bool.not_not] at ih ⊢
    rw [ltCps, ih]
    by_cases h : a < b
    · simp [h, List.cons_lt_cons_iff]
    · by_cases h2 : a = b
      · subst h2; simp [List.cons_lt_cons_iff]
      · simp [h, h2, List.cons_lt_cons_iff]
theorem rising_pw : ∀ (xs : List (List Nat)) (p : List Nat), risingS (mkS p) (xs.map mkS) = true → (∀ x ∈ xs, Pu.leT p x = true) ∧ xs.Pairwise fun a b => Pu.leT a b = true
  | [], _, _ => ⟨fun _ h => absurd h List.not_mem_nil, List.Pairwise.nil⟩
  | x :: xs, p, h => by
    rw [List.map_cons, risingS, mkS_cps, mkS_cps, lt_leT, Bool.not_not, Bool.and_eq_true] at h
    obtain ⟨h1, h2⟩ := h
    obtain ⟨a, b⟩ := rising_pw xs x h2
    exact ⟨fun y hy => (List.mem_cons.mp hy).elim (fun e => e ▸ h1) fun m => Pu.leT_trans _ _ _ h1 (a y m), List.Pairwise.cons a b⟩
theorem sorted_pw : ∀ (xs : List (List Nat)), sortedS (xs.map mkS) = true → xs.Pairwise fun a b => Pu.leT a b = true
  | [], _ => List.Pairwise.nil
  | x :: xs, h => by
    obtain ⟨a, b⟩ := rising_pw xs x h
    exact List.Pairwise.cons a b
theorem mkS_inv (y : Str) : mkS y.cps.toList = y := by
  obtain ⟨⟨l⟩⟩ := y
  rfl
section
variable {X : Cx} {T : Tb} {E : XK} {k : Nat} {a : Expr} {p pos : Pos} {ca : M D}
def rSortAny (K : PySem.W.Frag) : List V → Hp → VK → Prop := fun vs H Q => ∃ (a : Addr) (xs : List Str), vs = [V.ref a] ∧ SqL K H a (xs.map V.str) ∧ xs.length ≤ sizeLine ∧
  ∀ (ys : List Str) (p : Addr), ys.Perm xs → sortedS ys = true → H p = none → Q (.ref p) (upd H p (.lst (ys.map V.str)))
theorem cr_sortAny : CallR X (.builtin "sorted") (rSortAny X.K) := by
  intro pins s σ H vs us Q I r h
  obtain ⟨a, xs, rfl, hs, h64, q⟩ := h
  obtain ⟨its, rv, hl, _⟩ := I.list hs
  rw [Vals.ref1 r]
  have hlen0 := rv.length
  rw [List.length_map] at hlen0
  refine PyProof.Rows.sorted_strsAny hl.isList rv.strs (by rw [← hlen0]; exact h64) fun out ys h1 h2 h3 => ?_
  obtain ⟨ep, he'⟩ := PyProof.Rows.sortedAll_at s.heap its out
  have hlen : (ys.map V.str).length ≤ sizeLine := by rw [List.length_map, h2.length_eq]; exact h64
  exact ⟨.ref _, upd H (s.heap.objs.size + 1) (.lst (ys.map V.str)), I.laid (t' := s.toks) (fun _ _ => PyProof.Rows.sortedAll_old) (Nat.le_succ _) ⟨hlen, out.toList, ep, vals_of_strs h1, he'⟩, rfl, q ys _ h2 h3 (I.hok.fresh (Nat.le_succ _))⟩
theorem dnl_strs {K : PySem.W.Frag} {al : Option Addr} {G : Hp} : ∀ {ns : List (List Nat)}, (∀ z ∈ ns, TxOk z) → DnL K al G ((ns.map mkS).map V.str) (ns.map .str)
  | [], _ => DnL.nil
  | n :: ns, h => .cons (.str n (h n (.head _))) (dnl_strs fun z hz => h z (.tail _ hz))
theorem c1_sort : C1 X T (rSortAny X.K) Pu.oSrt := by
  intro al r m s G H v y d Q R dv e k
  cases y <;> simp only [Pu.oSrt, reduceCtorEq] at e
  obtain ⟨zs, h1, rfl⟩ := Option.map_eq_some_iff.mp e
  rw [Pu.strs_eq h1] at dv
  obtain ⟨q, xs, rfl, g1, hl, g2⟩ := dv.lst_of
  obtain ⟨g3, g4⟩ := DnL.strsD g2
  subst g3
  have hz : zs.length ≤ LN := by rw [List.length_map] at hl; exact hl
  refine ⟨q, zs.map mkS, rfl, SqL.of (R.same _ _ g1), by rw [List.length_map]; rw [ln_eq] at *; exact hz, fun ys p hp hs hn => ?_⟩
  have e1 : ys = (ys.map fun y => y.cps.toList).map mkS := by
    rw [List.map_map]
    conv => lhs; rw [← List.map_id ys]
    exact List.map_congr_left fun y _ => (mkS_inv y).symm
  generalize ys.map (fun y => y.cps.toList) = ws at e1
  subst e1
  have hp2 : ws.Perm zs := by
    have := hp.map (fun y : Str => y.cps.toList)
    simpa [List.map_map, Function.comp_def, mkS_cps] using this
  have e2 := Pu.srt_only hp2 (sorted_pw ws hs)
  subst e2
  exact fin_lst R k (dnl_strs fun z hz => g4 z ((Pu.srt_perm zs).mem_iff.mp hz)) (by rw [List.length_map, (Pu.srt_perm zs).length_eq]; exact hz) hn
theorem se_sort (hm : X.mg "sorted" = none) (ha : SE X T E a ca) (hg : Gl X "sorted" := by rfl) (he : starEach (a :: []) X.env = (false, eval a X.env) :: starEach [] X.env := by rfl) (hpl : (backTo pos (starEach [] X.env)).any (·.1) = false := by rfl) : SE X T E (.Call (.Name "sorted" p) [a] [] pos) (Pu.c1 Pu.oSrt ca) := se_cb1 cr_sortAny c1_sort hm (by decide +kernel) ha hg (by decide) (by decide) he hpl
/-! ### max of a text -/
def rMaxT : List V → Hp → VK → Prop := fun vs H Q => ∃ (c : Nat) (cs : List Nat), vs = [V.str (mkS (c :: cs))] ∧ Q (.str (mkS (Pu.maxS [c] (cs.map fun y => [y])))) H
theorem cr_maxT (hc : X.calm = true) (hu : X.A.units + 64 < cLine) : CallR X (.builtin "max") rMaxT := by
  intro pins s σ H vs us Q I r h
  obtain ⟨c, cs, rfl, q⟩ := h
  obtain ⟨t, rfl⟩ : ∃ t, us = [.str (mkS (c :: cs)) t] := by
    cases r with
    | cons r rr =>
      cases rr
      obtain ⟨t, rfl⟩ := r
      exact ⟨t, rfl⟩
  have hh := I.ok.hd hc
  refine PySem.call_max_walkH (wpAny_pyIter_str fun o St W st => ?_)
  have hx : (mkS (c :: cs)).cps.toList = c :: cs := mkS_cps _
  have hsz : (mkS (c :: cs)).cps.size = cs.length + 1 := by simp [mkS]
  let ds : List PyData := (c :: cs).map fun y => .str (mkS [y])
  have hat : ∀ i v, SignAt (mkS (c :: cs)) i v → ∃ y u, (c :: cs)[i]? = some y ∧ v = .str (mkS [y]) u := fun i v ⟨y, u, h1, h2⟩ => ⟨y, u, by rw [← hx, Array.getElem?_toList]; exact h1, h2⟩
  have hd : ∀ i y, (c :: cs)[i]? = some y → ds.getD i .none = .str (mkS [y]) := fun i y h => by
    simp only [ds, List.getD_eq_getElem?_getD, List.getElem?_map, h, Option.map_some, Option.getD_some]
  have hcmp : PySem.CmpIn X.prog X.w X.A.in1 .Gt s.heap (SignAt (mkS (c :: cs))) (fun i j => PySem.W.dataLt (ds.getD j .none) (ds.getD i .none)) := fun i j vi vj s' Q E hk hi hj hq => by
    obtain ⟨y1, u1, a1, rfl⟩ := hat i vi hi
    obtain ⟨y2, u2, a2, rfl⟩ := hat j vj hj
    dsimp only at hq
    rw [hd i y1 a1, hd j y2 a2] at hq
    refine PySem.W.rcGt_alike _ _ X.A.in1 s' _ _ _ _ (.str _ _) (.str _ _) rfl (fun z => nomatch z) ?_ X.prog X.w E Q hq
    show X.A.units + 1 + min _ _ < _
    simp only [PyData.depth]
    omega
  refine ⟨_, _, _, _, _, _, _, s.heap, _, rfl, (W X.A.in1 hh).toS, st, fun b hb => ?_, by rw [hsz]; omega, fun b o e hb => absurd (Heap.lt_size e) ((List.mem_singleton.mp hb) ▸ Nat.lt_irrefl _), fun b o e => Heap.get?_push_of_some _ e, hcmp, fun v s' hP m => ?_⟩
  · rw [List.mem_singleton.mp hb]
    show _ < (s.heap.push _).objs.size
    rw [Heap.size_push]
    exact Nat.lt_succ_self _
  · obtain ⟨h', tk, rfl, hk'⟩ := PySem.W.moved_old rfl rfl m
    obtain ⟨y, u, a1, rfl⟩ := hat _ v hP
    have e2 := (PySem.W.argBest_fold (fun a b => PySem.W.dataLt b a) PyData.none (.str (mkS [c])) (cs.map fun y => .str (mkS [y])) (cs.map fun y => PyData.str (mkS [y])).length (Nat.le_refl _)).2
    rw [List.take_length] at e2
    have e3 := hd _ y a1
    have e4 : (mkS (c :: cs)).cps.size - 1 = (cs.map fun y => PyData.str (mkS [y])).length := by rw [hsz, List.length_map]; rfl
    rw [e4] at e3
    have e5 := e3.symm.trans e2
    have e6 := Tk.maxD_strs [c] (cs.map fun y => [y])
    unfold PySem.W.maxD at e6
    rw [List.map_map] at e6
    have e7 := e5.trans e6
    injection e7 with e7
    rw [e7]
    exact ⟨.str _, H, I.kept hk', ⟨_, rfl⟩, q⟩
theorem maxS_one (z : Nat) (zs : List Nat) : ∃ c, Pu.maxS [z] (zs.map fun y => [y]) = [c] ∧ (c = z ∨ c ∈ zs) := by
  induction zs generalizing z with
  | nil => exact ⟨z, rfl, .inl rfl⟩
  | cons y zs ih =>
    show ∃ c, Pu.maxS (if [z] < [y] then [y] else [z]) (zs.map fun y => [y]) = [c] ∧ _
    split
    · obtain ⟨c, h1, h2⟩ := ih y
      exact ⟨c, h1, .inr (h2.elim (fun e => e ▸ .head _) (.tail _))⟩
    · obtain ⟨c, h1, h2⟩ := ih z
      exact ⟨c, h1, h2.elim .inl fun h => .inr (.tail _ h)⟩
theorem c1_maxT : C1 X T rMaxT Pu.oMaxT := by
  intro al r m s G H v y d Q R dv e k
  unfold Pu.oMaxT at e
  split at e
  · rename_i c cs
    have e := Option.some.inj e
    subst e
    obtain ⟨e1, k1⟩ := dv.str_of
    subst e1
    refine ⟨c, cs, rfl, fin_ R k (.str _ ?_)⟩
    obtain ⟨x, h1, h2⟩ := maxS_one c cs
    rw [h1]
    refine ⟨?_, fun z hz => ?_⟩
    · have := k1.len
      simp only [List.length_cons, List.length_nil] at this ⊢
      omega
    · rw [List.mem_singleton.mp hz]
      exact k1.cps _ (h2.elim (fun e => e ▸ .head _) (.tail _))
  · cases e
theorem se_maxT (C : Cn k X E) (hm : X.mg "max" = none) (ha : SE X T E a ca) (hg : Gl X "max" := by rfl) (he : starEach (a :: []) X.env = (false, eval a X.env) :: starEach [] X.env := by rfl) (hpl : (backTo pos (starEach [] X.env)).any (·.1) = false := by rfl) : SE X T E (.Call (.Name "max" p) [a] [] pos) (Pu.c1 Pu.oMaxT ca) := se_cb1 (cr_maxT C.calm C.room.units) c1_maxT hm (by decide +kernel) ha hg (by decide) (by decide) he hpl
end
end Su

namespace Pu
def c_with_more : M Fl := (sSeq (sPar 3 4 true false (cLst aNil) (cK (.bl false)))
  (sSeq (sFor (iTup (cVar 0)) (.tp (.nm 5) (.nm 6)) (sSeq (sIf (tB (c2 oEq (cVar 5) (cVar 1))) (sPar 4 6 false false (cK (.bl true)) (c2 oAdd (cVar 6) (cVar 2))) sNop)
  (sApp 3 (cTup (aCons (cVar 5) (aCons (cVar 6) aNil))))))
  (sSeq (sIf (tNot (tB (cVar 4))) (sApp 3 (cTup (aCons (cVar 1) (aCons (cVar 2) aNil)))) sNop)
  (sSeq (sIf (tOr (tB (c2 oGt (c1 oLen (cVar 3)) (cK (.int 8)))) (tB (c1 oAny (cLc [5, 6] (iLst (cVar 3)) (.tp (.nm 5) (.nm 6)) tYes (c2 oGt (cVar 6) (cK (.int 20))))))) (sRaise 8) sNop)
  (sRet (c1 oTuple (cVar 3)))))))
def f_with_more : Fn := fn 3 7 c_with_more
def c_together : M Fl := (sSeq (sDo (cCall f_need_votes (aCons (cVar 0) aNil)))
  (sSeq (sDo (cCall f_need_votes (aCons (cVar 1) aNil)))
  (sSeq (sIf (tB (c2 oNe (cIdx (cVar 0) (cK (.int 0))) (cIdx (cVar 1) (cK (.int 0))))) (sRaise 9) sNop)
  (sSeq (sSet 2 (cIdx (cVar 0) (cK (.int 1))))
  (sSeq (sFor (iTup (cIdx (cVar 1) (cK (.int 1)))) (.tp (.nm 3) (.nm 4)) (sSet 2 (cCall f_with_more (aCons (cVar 2) (aCons (cVar 3) (aCons (cVar 4) aNil))))))
  (sRet (cTup (aCons (cIdx (cVar 0) (cK (.int 0))) (aCons (cVar 2) aNil)))))))))
def f_together : Fn := fn 2 5 c_together
def c_joined : M Fl := (sRet (cCall f_together (aCons (cVar 0) (aCons (cVar 1) aNil))))
def f_joined : Fn := fn 2 2 c_joined
def c_is_split : M Fl := (sSeq (sSet 2 (cCall f_together (aCons (cVar 0) (aCons (cVar 1) aNil))))
  (sRet (cAnd (c2 oEq (cCall f_winner_of (aCons (cVar 0) aNil)) (cCall f_winner_of (aCons (cVar 1) aNil))) (c2 oNe (cCall f_winner_of (aCons (cVar 2) aNil)) (cCall f_winner_of (aCons (cVar 0) aNil))))))
def f_is_split : Fn := fn 2 3 c_is_split
def c_all_ballots : M Fl := (sSeq (sPar 1 2 false false (cLst aNil) (cLst (aCons (cK (.str [])) aNil)))
  (sSeq (sFor (iStr (cVar 0)) (.nm 3) (sSeq (sSet 4 (cLst aNil))
  (sSeq (sFor (iLst (cVar 2)) (.nm 5) (sSet 4 (c2 oAdd (cVar 4) (cLc [6] (iStr (cVar 0)) (.nm 6) (tB (c2 (oInN true) (cVar 6) (cVar 5))) (c2 oAdd (cVar 5) (cVar 6))))))
  (sPar 1 2 false false (c2 oAdd (cVar 1) (cVar 4)) (cVar 4)))))
  (sRet (c1 oSrt (cVar 1)))))
def f_all_ballots : Fn := fn 1 7 c_all_ballots
def c__law_all_ballots : M Fl := (sSeq (sPar 1 2 false false (cLst aNil) (cLst (aCons (cK (.str [])) aNil)))
  (sSeq (sFor (iStr (cVar 0)) (.nm 3) (sSeq (sSet 4 (cLst aNil))
  (sSeq (sFor (iLst (cVar 2)) (.nm 5) (sSet 4 (c2 oAdd (cVar 4) (cLc [6] (iStr (cVar 0)) (.nm 6) (tB (c2 (oInN true) (cVar 6) (cVar 5))) (c2 oAdd (cVar 5) (cVar 6))))))
  (sPar 1 2 false false (c2 oAdd (cVar 1) (cVar 4)) (cVar 4)))))
  (sRet (c1 oSrt (cVar 1)))))
def f__law_all_ballots : Fn := fn 1 7 c__law_all_ballots
def c_order_that_helps : M Fl := (sSeq (sDo (cCall f_need_votes (aCons (cVar 0) aNil)))
  (sSeq (sTgt (.tp (.nm 1) (.nm 2)) (cTup (aCons (cCall f_candidates_of (aCons (cVar 0) aNil)) (aCons (cCall f_winner_of (aCons (cVar 0) aNil)) aNil))))
  (sSeq (sFor (iEnum (iTup (cIdx (cVar 0) (cK (.int 1))))) (.tp (.nm 3) (.tp (.nm 4) (.nm 5))) (sSeq (sSet 6 (cCall f_without (aCons (cIdx (cVar 0) (cK (.int 1))) (aCons (cVar 3) (aCons (cVar 5) aNil)))))
  (sSeq (sSet 7 (cLc [8] (iStr (cVar 1)) (.nm 8) (tAnd (tB (cCall f_is_before (aCons (cVar 4) (aCons (cVar 8) (aCons (cVar 2) aNil))))) (tB (c2 oNe (cVar 8) (cVar 2)))) (cVar 8)))
  (sFor (iLst (cIf (tB (c2 oNe (cVar 7) (cLst aNil))) (cCall f_all_ballots (aCons (cVar 1) aNil)) (cLst aNil))) (.nm 9) (sIf (tAnd (tB (c2 oNe (cVar 9) (cVar 4))) (tB (c2 (oInN false) (cIdx (cCall f_way_of (aCons (c2 oAdd (cVar 6) (cTup (aCons (cTup (aCons (cVar 9) (aCons (cVar 5) aNil))) aNil))) (aCons (cVar 1) aNil))) (c1 oNeg (cK (.int 1)))) (cVar 7)))) (sRet (cTup (aCons (cVar 3) (aCons (cVar 9) aNil)))) sNop)))))
  (sRet (cK .non)))))
def f_order_that_helps : Fn := fn 1 10 c_order_that_helps
end Pu

namespace Pu
/-! ### orders -/
theorem wayN_mem (ps : List (List Nat × Nat)) : ∀ (k : Nat) (z : List Nat) (x : Nat), x ∈ wayN ps k z → x ∈ z
  | 0, _, _, h => h
  | k + 1, z, x, h => by
    unfold wayN at h
    split at h
    · exact h
    · rename_i hn
      split at h
      · rename_i c hc
        rcases List.mem_cons.mp h with e | e
        · obtain ⟨c', h1, h2⟩ := out_some ps (z := z) (fun e => hn (by rw [e]; simp))
          rw [hc] at h1
          cases h1
          rw [e]
          exact h2
        · exact (List.mem_filter.mp (wayN_mem ps k _ x e)).1
      · exact h
theorem win_mem (ps : List (List Nat × Nat)) {z : List Nat} (h : z ≠ []) : win ps z ∈ z := by
  have hw := way_ne ps h
  have : win ps z ∈ way ps z := by
    unfold win
    rw [List.getLastD_eq_getLast?, List.getLast?_eq_some_getLast hw]
    exact List.getLast_mem hw
  exact wayN_mem ps _ z _ this
theorem in_strs (b : List Nat) (bs : List (List Nat)) : oInN false (.str b) (.lst (bs.map .str)) = some (.bl (decide (b ∈ bs))) := by
  have h := notIn_strs b bs
  unfold oInN at h ⊢
  cases e : oIn (.str b) (.lst (bs.map .str)) with
  | none => rw [e] at h; cases h
  | some v =>
    rw [e] at h
    have h : some (D.bl (!v)) = some (.bl (!decide (b ∈ bs))) := h
    injection h with h
    injection h with h
    show some (D.bl v) = _
    congr 2
    exact Bool.not_inj h
theorem in_sgn (c : Nat) (L : List Nat) : oInN false (.str [c]) (.lst (sgn L)) = some (.bl (decide (c ∈ L))) := by
  have e : sgn L = (L.map fun x => [x]).map .str := by unfold sgn; rw [List.map_map]; rfl
  rw [e, in_strs]
  congr 2
  rw [Bool.eq_iff_iff, decide_eq_true_iff, decide_eq_true_iff, List.mem_map]
  constructor
  · rintro ⟨x, h1, h2⟩
    injection h2 with h2
    rw [← h2]; exact h1
  · intro h; exact ⟨c, h, rfl⟩
theorem ne_txt (x y : List Nat) : oNe (.str x) (.str y) = some (.bl (!(x == y))) := Eq.trans rfl rfl
theorem oAdd_t (x y : List D) (h : x.length + y.length ≤ 1000) : oAdd (.tup x) (.tup y) = some (.tup (x ++ y)) := by
  show (if x.length + y.length ≤ LN then _ else _) = _
  rw [if_pos (by unfold LN; omega)]
/-- one pair less, another more: as if it were put in its place -/
theorem cnt_app (z : List Nat) (c : Nat) : ∀ (ps qs : List (List Nat × Nat)), cnt z (ps ++ qs) c = cnt z ps c + cnt z qs c
  | [], qs => by simp [cnt]
  | p :: ps, qs => by
    rw [List.cons_append, cnt, cnt, cnt_app z c ps qs]
    omega
theorem cnt_put (z : List Nat) (c : Nat) (o : List Nat) : ∀ (ps : List (List Nat × Nat)) (k : Nat) (p : List Nat × Nat), ps[k]? = some p →
    cnt z (ps.set k (o, p.2)) c = cnt z ps c - (if firstOf z p.1 = some c then (p.2 : Int) else 0) + (if firstOf z o = some c then (p.2 : Int) else 0)
  | q :: ps, 0, p, h => by
    have : q = p := by simpa using h
    subst this
    rw [List.set_cons_zero, cnt, cnt]
    dsimp only
    split <;> split <;> omega
  | q :: ps, k + 1, p, h => by
    rw [List.set_cons_succ, cnt, cnt, cnt_put z c o ps k p (by simpa using h)]
    omega
theorem cnt_swap (z : List Nat) (c : Nat) (o : List Nat) {ps : List (List Nat × Nat)} {k : Nat} {p : List Nat × Nat} (h : ps[k]? = some p) : cnt z (wout ps k p.2 ++ [(o, p.2)]) c = cnt z (ps.set k (o, p.2)) c := by
  rw [cnt_app, cnt_wout z c p.2 ps k p h (Nat.le_refl _), cnt_set z c ps k p p.2 h (Nat.le_refl _), cnt_put z c o ps k p h]
  simp only [cnt]
  omega
theorem set_self {ps : List (List Nat × Nat)} {k : Nat} {p : List Nat × Nat} (h : ps[k]? = some p) : ps.set k (p.1, p.2) = ps := by
  obtain ⟨hl, e⟩ := List.getElem?_eq_some_iff.mp h
  rw [show (p.1, p.2) = ps[k] from e.symm]
  exact List.set_getElem_self hl
/-- the pair at place k gets that order: told if it helps -/
def ordI (ps : List (List Nat × Nat)) (z : List Nat) (own : Nat) (k : Int) (b : List Nat) (t : Int) : D → Option D
  | .str o => if bef b (win (ps.set k.toNat (o, t.toNat)) z) own then some (.tup [.int k, .str o]) else none
  | _ => none
def ordO (zs : List (List Nat)) (ps : List (List Nat × Nat)) (z : List Nat) (own : Nat) : D → Option D
  | .tup [.int k, .tup [.str b, .int t]] => (zs.map D.str).findSome? (ordI ps z own k b t)
  | _ => none
def ordD (zs : List (List Nat)) (ps : List (List Nat × Nat)) (z : List Nat) : D := ((enumFrom 0 (ps.map encP)).findSome? (ordO zs ps z (win ps z))).getD .non
def goals (z b : List Nat) (own : Nat) : List Nat := z.filter fun c => bef b c own && !(c == own)
theorem mem_goals {z b : List Nat} {own c : Nat} (h : c ∈ z) : c ∈ goals z b own ↔ bef b c own = true := by
  unfold goals
  rw [List.mem_filter, Bool.and_eq_true]
  constructor
  · exact fun h => h.2.1
  · refine fun h2 => ⟨h, h2, ?_⟩
    by_cases e : c = own
    · rw [e, bef_self] at h2; cases h2
    · simpa using e
def inner16 : M Fl := (sIf (tAnd (tB (c2 oNe (cVar 9) (cVar 4))) (tB (c2 (oInN false) (cIdx (cCall f_way_of (aCons (c2 oAdd (cVar 6) (cTup (aCons (cTup (aCons (cVar 9) (aCons (cVar 5) aNil))) aNil))) (aCons (cVar 1) aNil))) (c1 oNeg (cK (.int 1)))) (cVar 7)))) (sRet (cTup (aCons (cVar 3) (aCons (cVar 9) aNil)))) sNop)
def outer16 : M Fl := (sSeq (sSet 6 (cCall f_without (aCons (cIdx (cVar 0) (cK (.int 1))) (aCons (cVar 3) (aCons (cVar 5) aNil)))))
  (sSeq (sSet 7 (cLc [8] (iStr (cVar 1)) (.nm 8) (tAnd (tB (cCall f_is_before (aCons (cVar 4) (aCons (cVar 8) (aCons (cVar 2) aNil))))) (tB (c2 oNe (cVar 8) (cVar 2)))) (cVar 8)))
  (sFor (iLst (cIf (tB (c2 oNe (cVar 7) (cLst aNil))) (cCall f_all_ballots (aCons (cVar 1) aNil)) (cLst aNil))) (.nm 9) inner16)))
theorem order_eq : c_order_that_helps = (sSeq (sDo (cCall f_need_votes (aCons (cVar 0) aNil)))
  (sSeq (sTgt (.tp (.nm 1) (.nm 2)) (cTup (aCons (cCall f_candidates_of (aCons (cVar 0) aNil)) (aCons (cCall f_winner_of (aCons (cVar 0) aNil)) aNil))))
  (sSeq (sFor (iEnum (iTup (cIdx (cVar 0) (cK (.int 1))))) (.tp (.nm 3) (.tp (.nm 4) (.nm 5))) outer16)
  (sRet (cK .non))))) := rfl
theorem wout_len : ∀ (ps : List (List Nat × Nat)) (k t : Nat), (wout ps k t).length ≤ ps.length
  | [], _, _ => Nat.le_refl _
  | p :: ps, 0, t => by
    rw [wout, List.length_append, List.length_cons]
    split <;> simp <;> omega
  | p :: ps, k + 1, t => by
    rw [wout, List.length_cons, List.length_cons]
    have := wout_len ps k t
    omega
theorem inner16_run {n : Nat} {ps : List (List Nat × Nat)} (h : Vot n ps) {z : List Nat} (hza : Asc z) (hz5 : z.length ≤ 5) (hzn : z ≠ []) {k : Nat} {p : List Nat × Nat} (hk : ps[k]? = some p) (x8 : Option Sl) {o : List Nat} (ho : o.length ≤ 1000) (m : D) :
    inner16 [some (.v (encV n ps)), some (.v (.str z)), some (.v (.str [win ps z])), some (.v (.int k)), some (.v (.str p.1)), some (.v (.int p.2)), some (.v (.tup ((wout ps k p.2).map encP))), some (.v (.lst (sgn (goals z p.1 (win ps z))))), x8, some (.v (.str o))] m = match ordI ps z (win ps z) k p.1 p.2 (.str o) with
      | some x => .ok (.rt x) [some (.v (encV n ps)), some (.v (.str z)), some (.v (.str [win ps z])), some (.v (.int k)), some (.v (.str p.1)), some (.v (.int p.2)), some (.v (.tup ((wout ps k p.2).map encP))), some (.v (.lst (sgn (goals z p.1 (win ps z))))), x8, some (.v (.str o))] m
      | none => .ok .nx [some (.v (encV n ps)), some (.v (.str z)), some (.v (.str [win ps z])), some (.v (.int k)), some (.v (.str p.1)), some (.v (.int p.2)), some (.v (.tup ((wout ps k p.2).map encP))), some (.v (.lst (sgn (goals z p.1 (win ps z))))), x8, some (.v (.str o))] m := by
  have hpl : ∀ q ∈ wout ps k p.2 ++ [(o, p.2)], q.1.length ≤ 1000 := fun q hq => by
    rcases List.mem_append.mp hq with e | e
    · exact wout_len5 h k p.2 q e
    · rw [List.mem_singleton.mp e]; exact ho
  have hwa := way_run (ps := wout ps k p.2 ++ [(o, p.2)]) hza hz5 hzn hpl m
  have hwc : way (wout ps k p.2 ++ [(o, p.2)]) z = way (ps.set k (o, p.2)) z := way_congr (fun z c => cnt_swap z c o hk) z
  rw [hwc] at hwa
  have hwi := win_idx (ps.set k (o, p.2)) hzn
  have hwm := win_mem (ps.set k (o, p.2)) hzn
  have hadd : oAdd (.tup ((wout ps k p.2).map encP)) (.tup [.tup [.str o, .int p.2]]) = some (.tup ((wout ps k p.2 ++ [(o, p.2)]).map encP)) := by
    rw [oAdd_t _ _ (by have := wout_len ps k p.2; have := h.len; simp; omega), List.map_append]
    rfl
  have hin := in_sgn (win (ps.set k (o, p.2)) z) (goals z p.1 (win ps z))
  have hk2 : ((k : Nat) : Int).toNat = k := by omega
  have hp2 : ((p.2 : Nat) : Int).toNat = p.2 := by omega
  have eo : ordI ps z (win ps z) k p.1 p.2 (.str o) = if bef p.1 (win (ps.set k (o, p.2)) z) (win ps z) then some (.tup [.int k, .str o]) else none := by
    unfold ordI
    dsimp only
    rw [hk2, hp2]
  rw [eo]
  unfold inner16
  by_cases e : o = p.1
  · have e1 : (o == p.1) = true := by simpa using e
    have e2 : win (ps.set k (o, p.2)) z = win ps z := by rw [e, set_self hk]
    rw [e2, bef_self, if_neg Bool.false_ne_true]
    simp only [ev_bd, ev_pu, ev_some, ev_var, ev_K, ev_c1, ev_c2, ev_tB, ev_tAnd, ev_tOr, ev_tNot, ev_And, ev_Or, ev_Not, ev_If, ev_chain, ev_nil, ev_cons, ev_tup, ev_lst, ev_idx2, idxA_l, idxA_t, idxA_s, idxA_a, idxA_e0, idxA_e1, ev_call, ev_ap, ev_cut, ev_part0, ev_part1, ev_str, ev_tgt, ev_iLst, ev_iTup, ev_iStr, ev_iRng, ev_nop, ev_seq, ev_st, ev_set, ev_new, ev_sTgt, ev_par, ev_sIf, ev_ret, ev_do, ev_raise, ev_for, ev_app, ev_iOwn, ev_enum, ev_oidx, ev_put, ev_yes, lt_len0, lt_lenS, asg_nm, asg_tp, opt_bind_some, len_two, len_one, len_zero, List.getElem?_cons_zero, List.getElem?_cons_succ, List.set_cons_zero, List.set_cons_succ, ↓reduceIte, Bool.false_eq_true, Bool.not_true, Bool.not_false, sl, ro, ne_txt, e1]
  · have e1 : (o == p.1) = false := by simpa using e
    cases hb : bef p.1 (win (ps.set k (o, p.2)) z) (win ps z) with
    | true =>
      rw [decide_eq_true ((mem_goals hwm).mpr hb)] at hin
      rw [if_pos rfl]
      simp only [ev_bd, ev_pu, ev_some, ev_var, ev_K, ev_c1, ev_c2, ev_tB, ev_tAnd, ev_tOr, ev_tNot, ev_And, ev_Or, ev_Not, ev_If, ev_chain, ev_nil, ev_cons, ev_tup, ev_lst, ev_idx2, idxA_l, idxA_t, idxA_s, idxA_a, idxA_e0, idxA_e1, ev_call, ev_ap, ev_cut, ev_part0, ev_part1, ev_str, ev_tgt, ev_iLst, ev_iTup, ev_iStr, ev_iRng, ev_nop, ev_seq, ev_st, ev_set, ev_new, ev_sTgt, ev_par, ev_sIf, ev_ret, ev_do, ev_raise, ev_for, ev_app, ev_iOwn, ev_enum, ev_oidx, ev_put, ev_yes, lt_len0, lt_lenS, asg_nm, asg_tp, opt_bind_some, len_two, len_one, len_zero, List.getElem?_cons_zero, List.getElem?_cons_succ, List.set_cons_zero, List.set_cons_succ, ↓reduceIte, Bool.false_eq_true, Bool.not_true, Bool.not_false, sl, ro, ne_txt, e1, hadd, hwa, oNeg1, hwi, hin]
    | false =>
      rw [decide_eq_false (fun hm => by rw [(mem_goals hwm).mp hm] at hb; cases hb)] at hin
      rw [if_neg Bool.false_ne_true]
      simp only [ev_bd, ev_pu, ev_some, ev_var, ev_K, ev_c1, ev_c2, ev_tB, ev_tAnd, ev_tOr, ev_tNot, ev_And, ev_Or, ev_Not, ev_If, ev_chain, ev_nil, ev_cons, ev_tup, ev_lst, ev_idx2, idxA_l, idxA_t, idxA_s, idxA_a, idxA_e0, idxA_e1, ev_call, ev_ap, ev_cut, ev_part0, ev_part1, ev_str, ev_tgt, ev_iLst, ev_iTup, ev_iStr, ev_iRng, ev_nop, ev_seq, ev_st, ev_set, ev_new, ev_sTgt, ev_par, ev_sIf, ev_ret, ev_do, ev_raise, ev_for, ev_app, ev_iOwn, ev_enum, ev_oidx, ev_put, ev_yes, lt_len0, lt_lenS, asg_nm, asg_tp, opt_bind_some, len_two, len_one, len_zero, List.getElem?_cons_zero, List.getElem?_cons_succ, List.set_cons_zero, List.set_cons_succ, ↓reduceIte, Bool.false_eq_true, Bool.not_true, Bool.not_false, sl, ro, ne_txt, e1, hadd, hwa, oNeg1, hwi, hin]
theorem goals_run {n : Nat} (ps : List (List Nat × Nat)) (z : List Nat) (own : Nat) (k : Nat) (p : List Nat × Nat) (x6 x7 x8 x9 : Option Sl) (m : D) :
    cLc [8] (iStr (cVar 1)) (.nm 8) (tAnd (tB (cCall f_is_before (aCons (cVar 4) (aCons (cVar 8) (aCons (cVar 2) aNil))))) (tB (c2 oNe (cVar 8) (cVar 2)))) (cVar 8) [] [some (.v (encV n ps)), some (.v (.str z)), some (.v (.str [own])), some (.v (.int k)), some (.v (.str p.1)), some (.v (.int p.2)), x6, x7, x8, x9] m = .ok (.lst (sgn (goals z p.1 own))) [some (.v (encV n ps)), some (.v (.str z)), some (.v (.str [own])), some (.v (.int k)), some (.v (.str p.1)), some (.v (.int p.2)), x6, x7, x8, x9] m := by
  have := lc_run (vs := [8]) (it := iStr (cVar 1)) (tg := .nm 8) (t := tAnd (tB (cCall f_is_before (aCons (cVar 4) (aCons (cVar 8) (aCons (cVar 2) aNil))))) (tB (c2 oNe (cVar 8) (cVar 2)))) (e := cVar 8) (r := [some (.v (encV n ps)), some (.v (.str z)), some (.v (.str [own])), some (.v (.int k)), some (.v (.str p.1)), some (.v (.int p.2)), x6, x7, x8, x9]) (m := m) (ds := sgn z) (fun d => bef p.1 (sg1 d) own && !(sg1 d == own)) id (by simp only [ev_bd, ev_pu, ev_some, ev_var, ev_K, ev_c1, ev_c2, ev_tB, ev_tAnd, ev_tOr, ev_tNot, ev_And, ev_Or, ev_Not, ev_If, ev_chain, ev_nil, ev_cons, ev_tup, ev_lst, ev_idx2, idxA_l, idxA_t, idxA_s, idxA_a, idxA_e0, idxA_e1, ev_call, ev_ap, ev_cut, ev_part0, ev_part1, ev_str, ev_tgt, ev_iLst, ev_iTup, ev_iStr, ev_iRng, ev_nop, ev_seq, ev_st, ev_set, ev_new, ev_sTgt, ev_par, ev_sIf, ev_ret, ev_do, ev_raise, ev_for, ev_app, ev_iOwn, ev_enum, ev_oidx, ev_put, ev_yes, lt_len0, lt_lenS, asg_nm, asg_tp, opt_bind_some, len_two, len_one, len_zero, List.getElem?_cons_zero, List.getElem?_cons_succ, List.set_cons_zero, List.set_cons_succ, ↓reduceIte, Bool.false_eq_true, Bool.not_true, Bool.not_false, sl, ro]) (by
    intro d hd
    obtain ⟨c, hc, rfl⟩ := List.mem_map.mp hd
    refine ⟨[some (.v (encV n ps)), some (.v (.str z)), some (.v (.str [own])), some (.v (.int k)), some (.v (.str p.1)), some (.v (.int p.2)), x6, x7, some (.v (.str [c])), x9], rfl, rfl, ?_, fun _ => by simp only [ev_bd, ev_pu, ev_some, ev_var, ev_K, ev_c1, ev_c2, ev_tB, ev_tAnd, ev_tOr, ev_tNot, ev_And, ev_Or, ev_Not, ev_If, ev_chain, ev_nil, ev_cons, ev_tup, ev_lst, ev_idx2, idxA_l, idxA_t, idxA_s, idxA_a, idxA_e0, idxA_e1, ev_call, ev_ap, ev_cut, ev_part0, ev_part1, ev_str, ev_tgt, ev_iLst, ev_iTup, ev_iStr, ev_iRng, ev_nop, ev_seq, ev_st, ev_set, ev_new, ev_sTgt, ev_par, ev_sIf, ev_ret, ev_do, ev_raise, ev_for, ev_app, ev_iOwn, ev_enum, ev_oidx, ev_put, ev_yes, lt_len0, lt_lenS, asg_nm, asg_tp, opt_bind_some, len_two, len_one, len_zero, List.getElem?_cons_zero, List.getElem?_cons_succ, List.set_cons_zero, List.set_cons_succ, ↓reduceIte, Bool.false_eq_true, Bool.not_true, Bool.not_false, sl, ro, id]⟩
    have hs1 : sg1 (.str [c]) = c := rfl
    have hbe := before_run p.1 c own m
    rw [hs1]
    cases hb : bef p.1 c own with
    | true =>
      rw [hb] at hbe
      simp only [ev_bd, ev_pu, ev_some, ev_var, ev_K, ev_c1, ev_c2, ev_tB, ev_tAnd, ev_tOr, ev_tNot, ev_And, ev_Or, ev_Not, ev_If, ev_chain, ev_nil, ev_cons, ev_tup, ev_lst, ev_idx2, idxA_l, idxA_t, idxA_s, idxA_a, idxA_e0, idxA_e1, ev_call, ev_ap, ev_cut, ev_part0, ev_part1, ev_str, ev_tgt, ev_iLst, ev_iTup, ev_iStr, ev_iRng, ev_nop, ev_seq, ev_st, ev_set, ev_new, ev_sTgt, ev_par, ev_sIf, ev_ret, ev_do, ev_raise, ev_for, ev_app, ev_iOwn, ev_enum, ev_oidx, ev_put, ev_yes, lt_len0, lt_lenS, asg_nm, asg_tp, opt_bind_some, len_two, len_one, len_zero, List.getElem?_cons_zero, List.getElem?_cons_succ, List.set_cons_zero, List.set_cons_succ, ↓reduceIte, Bool.false_eq_true, Bool.not_true, Bool.not_false, sl, ro, hbe, ne_sgn, Bool.true_and]
    | false =>
      rw [hb] at hbe
      simp only [ev_bd, ev_pu, ev_some, ev_var, ev_K, ev_c1, ev_c2, ev_tB, ev_tAnd, ev_tOr, ev_tNot, ev_And, ev_Or, ev_Not, ev_If, ev_chain, ev_nil, ev_cons, ev_tup, ev_lst, ev_idx2, idxA_l, idxA_t, idxA_s, idxA_a, idxA_e0, idxA_e1, ev_call, ev_ap, ev_cut, ev_part0, ev_part1, ev_str, ev_tgt, ev_iLst, ev_iTup, ev_iStr, ev_iRng, ev_nop, ev_seq, ev_st, ev_set, ev_new, ev_sTgt, ev_par, ev_sIf, ev_ret, ev_do, ev_raise, ev_for, ev_app, ev_iOwn, ev_enum, ev_oidx, ev_put, ev_yes, lt_len0, lt_lenS, asg_nm, asg_tp, opt_bind_some, len_two, len_one, len_zero, List.getElem?_cons_zero, List.getElem?_cons_succ, List.set_cons_zero, List.set_cons_succ, ↓reduceIte, Bool.false_eq_true, Bool.not_true, Bool.not_false, sl, ro, hbe, Bool.false_and])
  rw [this, List.map_id]
  unfold goals sgn
  rw [List.filter_map]
  rfl
theorem order_run {n : Nat} {ps : List (List Nat × Nat)} (h : Vot n ps) (zs : List (List Nat)) (hz : ∀ o ∈ zs, o.length ≤ 1000) (m : D) (hall : f_all_ballots [.str (LET.take n)] m = .ok (.lst (zs.map .str)) m) : f_order_that_helps [encV n ps] m = .ok (ordD zs ps (LET.take n)) m := by
  have hs : start 10 [encV n ps] = [some (.v (encV n ps)), none, none, none, none, none, none, none, none, none] := Eq.trans rfl rfl
  have hc : f_candidates_of [encV n ps] m = .ok (.str (LET.take n)) m := cand_run n h.n5 _ m
  have hw := winner_of_run h m
  have hzn : LET.take n ≠ [] := letn_ne h.n2
  have hza : Asc (LET.take n) := asc_let n
  have hz5 : (LET.take n).length ≤ 5 := by rw [LET_len h.n5]; exact h.n5
  generalize LET.take n = z at hc hw hall hzn hza hz5
  have loop := forL_first (tg := .tp (.nm 3) (.tp (.nm 4) (.nm 5))) (b := outer16) (m := m) (fun r => ∃ x3 x4 x5 x6 x7 x8 x9, r = [some (.v (encV n ps)), some (.v (.str z)), some (.v (.str [win ps z])), x3, x4, x5, x6, x7, x8, x9]) (ordO zs ps z (win ps z)) (enumFrom 0 (ps.map encP))
    [some (.v (encV n ps)), some (.v (.str z)), some (.v (.str [win ps z])), none, none, none, none, none, none, none] ⟨none, none, none, none, none, none, none, rfl⟩ (by
    intro d hd r hr
    obtain ⟨x3, x4, x5, x6, x7, x8, x9, rfl⟩ := hr
    obtain ⟨k, p, hk, rfl⟩ := enumP_mem hd
    have hwo := without_run ps k p.2 (by have := h.len; omega) m
    have hgo := fun x6 => goals_run (n := n) ps z (win ps z) k p x6 x7 x8 x9 m
    have hgl : (goals z p.1 (win ps z)).length ≤ 1000 := Nat.le_trans (List.length_filter_le _ _) (by omega)
    have hnn := ne_nil (goals z p.1 (win ps z)) hgl
    have hp2 : ((p.2 : Nat) : Int).toNat = p.2 := by omega
    have inner := forL_first (tg := .nm 9) (b := inner16) (m := m) (fun r => ∃ x9, r = [some (.v (encV n ps)), some (.v (.str z)), some (.v (.str [win ps z])), some (.v (.int k)), some (.v (.str p.1)), some (.v (.int p.2)), some (.v (.tup ((wout ps k p.2).map encP))), some (.v (.lst (sgn (goals z p.1 (win ps z))))), x8, x9]) (ordI ps z (win ps z) k p.1 p.2) (zs.map .str)
      [some (.v (encV n ps)), some (.v (.str z)), some (.v (.str [win ps z])), some (.v (.int k)), some (.v (.str p.1)), some (.v (.int p.2)), some (.v (.tup ((wout ps k p.2).map encP))), some (.v (.lst (sgn (goals z p.1 (win ps z))))), x8, x9] ⟨x9, rfl⟩ (by
      intro d hd r hr
      obtain ⟨x9, rfl⟩ := hr
      obtain ⟨o, ho, rfl⟩ := List.mem_map.mp hd
      have hi := inner16_run h hza hz5 hzn hk x8 (hz o ho) m
      refine ⟨[some (.v (encV n ps)), some (.v (.str z)), some (.v (.str [win ps z])), some (.v (.int k)), some (.v (.str p.1)), some (.v (.int p.2)), some (.v (.tup ((wout ps k p.2).map encP))), some (.v (.lst (sgn (goals z p.1 (win ps z))))), x8, some (.v (.str o))], [some (.v (encV n ps)), some (.v (.str z)), some (.v (.str [win ps z])), some (.v (.int k)), some (.v (.str p.1)), some (.v (.int p.2)), some (.v (.tup ((wout ps k p.2).map encP))), some (.v (.lst (sgn (goals z p.1 (win ps z))))), x8, some (.v (.str o))], rfl, ?_⟩
      cases q : ordI ps z (win ps z) k p.1 p.2 (.str o) with
      | some x => rw [q] at hi; exact hi
      | none => rw [q] at hi; exact ⟨hi, _, rfl⟩)
    obtain ⟨r', inner⟩ := inner
    have eo : ordO zs ps z (win ps z) (.tup [.int k, encP p]) = (zs.map .str).findSome? (ordI ps z (win ps z) k p.1 p.2) := rfl
    rw [eo]
    cases hg : (goals z p.1 (win ps z)).isEmpty with
    | true =>
      have hnone : (zs.map D.str).findSome? (ordI ps z (win ps z) k p.1 p.2) = none := by
        rw [List.findSome?_eq_none_iff]
        intro d hd
        obtain ⟨o, ho, rfl⟩ := List.mem_map.mp hd
        unfold ordI
        dsimp only
        refine if_neg fun hb => ?_
        have := (mem_goals (win_mem _ hzn)).mpr hb
        rw [List.isEmpty_iff.mp hg] at this
        cases this
      rw [hnone]
      rw [hg] at hnn
      refine ⟨[some (.v (encV n ps)), some (.v (.str z)), some (.v (.str [win ps z])), some (.v (.int k)), some (.v (.str p.1)), some (.v (.int p.2)), x6, x7, x8, x9], [some (.v (encV n ps)), some (.v (.str z)), some (.v (.str [win ps z])), some (.v (.int k)), some (.v (.str p.1)), some (.v (.int p.2)), some (.v (.tup ((wout ps k p.2).map encP))), some (.v (.lst (sgn (goals z p.1 (win ps z))))), x8, x9], rfl, ?_, _, _, _, _, _, _, _, rfl⟩
      unfold outer16
      simp only [ev_bd, ev_pu, ev_some, ev_var, ev_K, ev_c1, ev_c2, ev_tB, ev_tAnd, ev_tOr, ev_tNot, ev_And, ev_Or, ev_Not, ev_If, ev_chain, ev_nil, ev_cons, ev_tup, ev_lst, ev_idx2, idxA_l, idxA_t, idxA_s, idxA_a, idxA_e0, idxA_e1, ev_call, ev_ap, ev_cut, ev_part0, ev_part1, ev_str, ev_tgt, ev_iLst, ev_iTup, ev_iStr, ev_iRng, ev_nop, ev_seq, ev_st, ev_set, ev_new, ev_sTgt, ev_par, ev_sIf, ev_ret, ev_do, ev_raise, ev_for, ev_app, ev_iOwn, ev_enum, ev_oidx, ev_put, ev_yes, lt_len0, lt_lenS, asg_nm, asg_tp, opt_bind_some, len_two, len_one, len_zero, List.getElem?_cons_zero, List.getElem?_cons_succ, List.set_cons_zero, List.set_cons_succ, ↓reduceIte, Bool.false_eq_true, Bool.not_true, Bool.not_false, sl, ro, hwo, hgo, hnn, ev_forNil, ev_iLst]
    | false =>
      rw [hg] at hnn
      refine ⟨[some (.v (encV n ps)), some (.v (.str z)), some (.v (.str [win ps z])), some (.v (.int k)), some (.v (.str p.1)), some (.v (.int p.2)), x6, x7, x8, x9], r', rfl, ?_⟩
      unfold outer16
      cases q : (zs.map D.str).findSome? (ordI ps z (win ps z) k p.1 p.2) with
      | none =>
        rw [q] at inner
        dsimp only at inner ⊢
        obtain ⟨i1, x9', i2⟩ := inner
        refine ⟨?_, _, _, _, _, _, x8, x9', i2⟩
        simp only [ev_bd, ev_pu, ev_some, ev_var, ev_K, ev_c1, ev_c2, ev_tB, ev_tAnd, ev_tOr, ev_tNot, ev_And, ev_Or, ev_Not, ev_If, ev_chain, ev_nil, ev_cons, ev_tup, ev_lst, ev_idx2, idxA_l, idxA_t, idxA_s, idxA_a, idxA_e0, idxA_e1, ev_call, ev_ap, ev_cut, ev_part0, ev_part1, ev_str, ev_tgt, ev_iLst, ev_iTup, ev_iStr, ev_iRng, ev_nop, ev_seq, ev_st, ev_set, ev_new, ev_sTgt, ev_par, ev_sIf, ev_ret, ev_do, ev_raise, ev_for, ev_app, ev_iOwn, ev_enum, ev_oidx, ev_put, ev_yes, lt_len0, lt_lenS, asg_nm, asg_tp, opt_bind_some, len_two, len_one, len_zero, List.getElem?_cons_zero, List.getElem?_cons_succ, List.set_cons_zero, List.set_cons_succ, ↓reduceIte, Bool.false_eq_true, Bool.not_true, Bool.not_false, sl, ro, hwo, hgo, hnn, hall, i1]
      | some x =>
        rw [q] at inner
        dsimp only at inner ⊢
        simp only [ev_bd, ev_pu, ev_some, ev_var, ev_K, ev_c1, ev_c2, ev_tB, ev_tAnd, ev_tOr, ev_tNot, ev_And, ev_Or, ev_Not, ev_If, ev_chain, ev_nil, ev_cons, ev_tup, ev_lst, ev_idx2, idxA_l, idxA_t, idxA_s, idxA_a, idxA_e0, idxA_e1, ev_call, ev_ap, ev_cut, ev_part0, ev_part1, ev_str, ev_tgt, ev_iLst, ev_iTup, ev_iStr, ev_iRng, ev_nop, ev_seq, ev_st, ev_set, ev_new, ev_sTgt, ev_par, ev_sIf, ev_ret, ev_do, ev_raise, ev_for, ev_app, ev_iOwn, ev_enum, ev_oidx, ev_put, ev_yes, lt_len0, lt_lenS, asg_nm, asg_tp, opt_bind_some, len_two, len_one, len_zero, List.getElem?_cons_zero, List.getElem?_cons_succ, List.set_cons_zero, List.set_cons_succ, ↓reduceIte, Bool.false_eq_true, Bool.not_true, Bool.not_false, sl, ro, hwo, hgo, hnn, hall, inner])
  obtain ⟨r', loop⟩ := loop
  unfold f_order_that_helps ordD
  rw [fn_ev (show [encV n ps].length = 1 from rfl), hs, order_eq]
  cases q : (enumFrom 0 (ps.map encP)).findSome? (ordO zs ps z (win ps z)) with
  | none =>
    rw [q] at loop
    dsimp only at loop
    simp only [ev_bd, ev_pu, ev_some, ev_var, ev_K, ev_c1, ev_c2, ev_tB, ev_tAnd, ev_tOr, ev_tNot, ev_And, ev_Or, ev_Not, ev_If, ev_chain, ev_nil, ev_cons, ev_tup, ev_lst, ev_idx2, idxA_l, idxA_t, idxA_s, idxA_a, idxA_e0, idxA_e1, ev_call, ev_ap, ev_cut, ev_part0, ev_part1, ev_str, ev_tgt, ev_iLst, ev_iTup, ev_iStr, ev_iRng, ev_nop, ev_seq, ev_st, ev_set, ev_new, ev_sTgt, ev_par, ev_sIf, ev_ret, ev_do, ev_raise, ev_for, ev_app, ev_iOwn, ev_enum, ev_oidx, ev_put, ev_yes, lt_len0, lt_lenS, asg_nm, asg_tp, opt_bind_some, len_two, len_one, len_zero, List.getElem?_cons_zero, List.getElem?_cons_succ, List.set_cons_zero, List.set_cons_succ, ↓reduceIte, Bool.false_eq_true, Bool.not_true, Bool.not_false, sl, ro, need_run h, hc, hw, loop.1]
    rfl
  | some x =>
    rw [q] at loop
    dsimp only at loop
    simp only [ev_bd, ev_pu, ev_some, ev_var, ev_K, ev_c1, ev_c2, ev_tB, ev_tAnd, ev_tOr, ev_tNot, ev_And, ev_Or, ev_Not, ev_If, ev_chain, ev_nil, ev_cons, ev_tup, ev_lst, ev_idx2, idxA_l, idxA_t, idxA_s, idxA_a, idxA_e0, idxA_e1, ev_call, ev_ap, ev_cut, ev_part0, ev_part1, ev_str, ev_tgt, ev_iLst, ev_iTup, ev_iStr, ev_iRng, ev_nop, ev_seq, ev_st, ev_set, ev_new, ev_sTgt, ev_par, ev_sIf, ev_ret, ev_do, ev_raise, ev_for, ev_app, ev_iOwn, ev_enum, ev_oidx, ev_put, ev_yes, lt_len0, lt_lenS, asg_nm, asg_tp, opt_bind_some, len_two, len_one, len_zero, List.getElem?_cons_zero, List.getElem?_cons_succ, List.set_cons_zero, List.set_cons_succ, ↓reduceIte, Bool.false_eq_true, Bool.not_true, Bool.not_false, sl, ro, need_run h, hc, hw, loop]
    rfl
end Pu

namespace Pu
/-! ### votes put together -/
theorem eq_txt (x y : List Nat) : oEq (.str x) (.str y) = some (.bl (x == y)) := Eq.trans rfl rfl
/-- so many voters more for a ballot -/
def up1 (b : List Nat) (t : Nat) (p : List Nat × Nat) : List Nat × Nat := (p.1, if p.1 = b then p.2 + t else p.2)
def addB (ps : List (List Nat × Nat)) (q : List Nat × Nat) : List (List Nat × Nat) := ps.map (up1 q.1 q.2) ++ (if q.1 ∈ ps.map (·.1) then [] else [q])
def fitsB (ps : List (List Nat × Nat)) : Bool := decide (ps.length ≤ 8) && ps.all fun p => decide (p.2 ≤ 20)
def turnW : M Fl := (sSeq (sIf (tB (c2 oEq (cVar 5) (cVar 1))) (sPar 4 6 false false (cK (.bl true)) (c2 oAdd (cVar 6) (cVar 2))) sNop)
  (sApp 3 (cTup (aCons (cVar 5) (aCons (cVar 6) aNil)))))
def endW : M Fl := (sIf (tOr (tB (c2 oGt (c1 oLen (cVar 3)) (cK (.int 8)))) (tB (c1 oAny (cLc [5, 6] (iLst (cVar 3)) (.tp (.nm 5) (.nm 6)) tYes (c2 oGt (cVar 6) (cK (.int 20))))))) (sRaise 8) sNop)
theorem with_eq : c_with_more = (sSeq (sPar 3 4 true false (cLst aNil) (cK (.bl false)))
  (sSeq (sFor (iTup (cVar 0)) (.tp (.nm 5) (.nm 6)) turnW)
  (sSeq (sIf (tNot (tB (cVar 4))) (sApp 3 (cTup (aCons (cVar 1) (aCons (cVar 2) aNil)))) sNop)
  (sSeq endW
  (sRet (c1 oTuple (cVar 3))))))) := rfl
theorem turnW_run (ps : List (List Nat × Nat)) (b : List Nat) (t : Nat) (m : D) : ∀ (qs acc : List (List Nat × Nat)) (met : Bool) (x5 x6 : Option Sl), acc.length + qs.length ≤ 1000 →
    ∃ y5 y6, forL (.tp (.nm 5) (.nm 6)) turnW (qs.map encP) [some (.v (.tup (ps.map encP))), some (.v (.str b)), some (.v (.int t)), some (.own (.lst (acc.map encP))), some (.v (.bl met)), x5, x6] m = .ok .nx [some (.v (.tup (ps.map encP))), some (.v (.str b)), some (.v (.int t)), some (.own (.lst ((acc ++ qs.map (up1 b t)).map encP))), some (.v (.bl (met || decide (b ∈ qs.map (·.1))))), y5, y6] m
  | [], acc, met, x5, x6, _ => ⟨x5, x6, by
    have e1 : acc ++ ([] : List (List Nat × Nat)).map (up1 b t) = acc := by simp
    have e2 : (met || decide (b ∈ ([] : List (List Nat × Nat)).map (·.1))) = met := by simp
    rw [e1, e2]
    exact ev_forNil⟩
  | q :: qs, acc, met, x5, x6, hl => by
    rw [List.length_cons] at hl
    have hap : (acc.map encP).length < LN := by rw [List.length_map]; unfold LN; omega
    have easg : ∀ r : Rho, asg (.tp (.nm 5) (.nm 6)) (encP q) r = (asg (.nm 5) (.str q.1) r).bind (asg (.nm 6) (.int q.2)) := fun r => rfl
    have hb1 : (acc ++ [up1 b t q]).length + qs.length ≤ 1000 := by rw [List.length_append]; simp; omega
    have e1 : acc ++ (q :: qs).map (up1 b t) = (acc ++ [up1 b t q]) ++ qs.map (up1 b t) := by rw [List.map_cons, List.append_assoc]; rfl
    rw [e1]
    rw [List.map_cons, ev_forCons]
    unfold turnW
    by_cases e : q.1 = b
    · have hd : (q.1 == b) = true := by simpa using e
      have hu : up1 b t q = (q.1, q.2 + t) := by unfold up1; rw [if_pos e]
      obtain ⟨y5, y6, h⟩ := turnW_run ps b t m qs (acc ++ [up1 b t q]) true (some (.v (.str q.1))) (some (.v (.int ((q.2 : Int) + t)))) hb1
      have e2 : (met || decide (b ∈ (q :: qs).map (·.1))) = (true || decide (b ∈ qs.map (·.1))) := by simp [e]
      rw [e2]
      refine ⟨y5, y6, ?_⟩
      simp only [ev_bd, ev_pu, ev_some, ev_var, ev_K, ev_c1, ev_c2, ev_tB, ev_tAnd, ev_tOr, ev_tNot, ev_And, ev_Or, ev_Not, ev_If, ev_chain, ev_nil, ev_cons, ev_tup, ev_lst, ev_idx2, idxA_l, idxA_t, idxA_s, idxA_a, idxA_e0, idxA_e1, ev_call, ev_ap, ev_cut, ev_part0, ev_part1, ev_str, ev_tgt, ev_iLst, ev_iTup, ev_iStr, ev_iRng, ev_nop, ev_seq, ev_st, ev_set, ev_new, ev_sTgt, ev_par, ev_sIf, ev_ret, ev_do, ev_raise, ev_for, ev_app, ev_iOwn, ev_enum, ev_oidx, ev_put, ev_yes, lt_len0, lt_lenS, asg_nm, asg_tp, opt_bind_some, len_two, len_one, len_zero, List.getElem?_cons_zero, List.getElem?_cons_succ, List.set_cons_zero, List.set_cons_succ, ↓reduceIte, Bool.false_eq_true, Bool.not_true, Bool.not_false, sl, ro, easg, eq_txt, hd, oAdd_i, hap]
      unfold turnW at h
      rw [← h, hu, List.map_append]
      rfl
    · have hd : (q.1 == b) = false := by simpa using e
      have hu : up1 b t q = q := by unfold up1; rw [if_neg e]
      obtain ⟨y5, y6, h⟩ := turnW_run ps b t m qs (acc ++ [up1 b t q]) met (some (.v (.str q.1))) (some (.v (.int q.2))) hb1
      have e2 : (met || decide (b ∈ (q :: qs).map (·.1))) = (met || decide (b ∈ qs.map (·.1))) := by
        congr 1
        rw [Bool.eq_iff_iff, decide_eq_true_iff, decide_eq_true_iff, List.map_cons, List.mem_cons]
        exact ⟨fun h => h.elim (fun h => absurd h.symm e) id, .inr⟩
      rw [e2]
      refine ⟨y5, y6, ?_⟩
      simp only [ev_bd, ev_pu, ev_some, ev_var, ev_K, ev_c1, ev_c2, ev_tB, ev_tAnd, ev_tOr, ev_tNot, ev_And, ev_Or, ev_Not, ev_If, ev_chain, ev_nil, ev_cons, ev_tup, ev_lst, ev_idx2, idxA_l, idxA_t, idxA_s, idxA_a, idxA_e0, idxA_e1, ev_call, ev_ap, ev_cut, ev_part0, ev_part1, ev_str, ev_tgt, ev_iLst, ev_iTup, ev_iStr, ev_iRng, ev_nop, ev_seq, ev_st, ev_set, ev_new, ev_sTgt, ev_par, ev_sIf, ev_ret, ev_do, ev_raise, ev_for, ev_app, ev_iOwn, ev_enum, ev_oidx, ev_put, ev_yes, lt_len0, lt_lenS, asg_nm, asg_tp, opt_bind_some, len_two, len_one, len_zero, List.getElem?_cons_zero, List.getElem?_cons_succ, List.set_cons_zero, List.set_cons_succ, ↓reduceIte, Bool.false_eq_true, Bool.not_true, Bool.not_false, sl, ro, easg, eq_txt, hd, hap]
      unfold turnW at h
      rw [← h, hu, List.map_append]
      rfl
theorem any_bls (L : List Bool) : oAny (.lst (L.map .bl)) = some (.bl (L.any id)) := by
  have : blsD (L.map .bl) = some L := by
    induction L with
    | nil => rfl
    | cons a L ih => simp [blsD, ih]
  show (blsD (L.map .bl)).map _ = _
  rw [this]
  rfl
theorem endW_run (ps qs : List (List Nat × Nat)) (b : List Nat) (t : Nat) (x4 x5 x6 : Option Sl) (m : D) : ∀ s, (s = Sl.own (.lst (qs.map encP)) ∨ s = Sl.v (.lst (qs.map encP))) →
    endW [some (.v (.tup (ps.map encP))), some (.v (.str b)), some (.v (.int t)), some s, x4, x5, x6] m = if fitsB qs then .ok .nx [some (.v (.tup (ps.map encP))), some (.v (.str b)), some (.v (.int t)), some (.v (.lst (qs.map encP))), x4, x5, x6] m else .exc 8 m := by
  intro s hs
  have hlc := lc_run (vs := [5, 6]) (it := iLst (cVar 3)) (tg := .tp (.nm 5) (.nm 6)) (t := tYes) (e := c2 oGt (cVar 6) (cK (.int 20))) (r := [some (.v (.tup (ps.map encP))), some (.v (.str b)), some (.v (.int t)), some (.v (.lst (qs.map encP))), x4, x5, x6]) (m := m) (ds := qs.map encP) (fun _ => true) (fun d => match d with | .tup [_, .int t] => .bl (decide ((20 : Int) < t)) | _ => .non) (by simp only [ev_bd, ev_pu, ev_some, ev_var, ev_K, ev_c1, ev_c2, ev_tB, ev_tAnd, ev_tOr, ev_tNot, ev_And, ev_Or, ev_Not, ev_If, ev_chain, ev_nil, ev_cons, ev_tup, ev_lst, ev_idx2, idxA_l, idxA_t, idxA_s, idxA_a, idxA_e0, idxA_e1, ev_call, ev_ap, ev_cut, ev_part0, ev_part1, ev_str, ev_tgt, ev_iLst, ev_iTup, ev_iStr, ev_iRng, ev_nop, ev_seq, ev_st, ev_set, ev_new, ev_sTgt, ev_par, ev_sIf, ev_ret, ev_do, ev_raise, ev_for, ev_app, ev_iOwn, ev_enum, ev_oidx, ev_put, ev_yes, lt_len0, lt_lenS, asg_nm, asg_tp, opt_bind_some, len_two, len_one, len_zero, List.getElem?_cons_zero, List.getElem?_cons_succ, List.set_cons_zero, List.set_cons_succ, ↓reduceIte, Bool.false_eq_true, Bool.not_true, Bool.not_false, sl, ro]) (by
    intro d hd
    obtain ⟨q, hq, rfl⟩ := List.mem_map.mp hd
    refine ⟨[some (.v (.tup (ps.map encP))), some (.v (.str b)), some (.v (.int t)), some (.v (.lst (qs.map encP))), x4, some (.v (.str q.1)), some (.v (.int q.2))], rfl, rfl, rfl, fun _ => ?_⟩
    simp only [ev_bd, ev_pu, ev_some, ev_var, ev_K, ev_c1, ev_c2, ev_tB, ev_tAnd, ev_tOr, ev_tNot, ev_And, ev_Or, ev_Not, ev_If, ev_chain, ev_nil, ev_cons, ev_tup, ev_lst, ev_idx2, idxA_l, idxA_t, idxA_s, idxA_a, idxA_e0, idxA_e1, ev_call, ev_ap, ev_cut, ev_part0, ev_part1, ev_str, ev_tgt, ev_iLst, ev_iTup, ev_iStr, ev_iRng, ev_nop, ev_seq, ev_st, ev_set, ev_new, ev_sTgt, ev_par, ev_sIf, ev_ret, ev_do, ev_raise, ev_for, ev_app, ev_iOwn, ev_enum, ev_oidx, ev_put, ev_yes, lt_len0, lt_lenS, asg_nm, asg_tp, opt_bind_some, len_two, len_one, len_zero, List.getElem?_cons_zero, List.getElem?_cons_succ, List.set_cons_zero, List.set_cons_succ, ↓reduceIte, Bool.false_eq_true, Bool.not_true, Bool.not_false, sl, ro, gt_i, encP])
  have e1 : ((qs.map encP).filter fun _ => true).map (fun d => match d with | .tup [_, .int t] => D.bl (decide ((20 : Int) < t)) | _ => .non) = (qs.map fun q => decide (20 < q.2)).map .bl := by
    rw [List.filter_eq_self.mpr fun _ _ => rfl, List.map_map, List.map_map]
    apply List.map_congr_left
    intro q _
    show D.bl (decide ((20 : Int) < (q.2 : Int))) = .bl (decide (20 < q.2))
    congr 1
    rw [Bool.eq_iff_iff, decide_eq_true_iff, decide_eq_true_iff]
    omega
  rw [e1] at hlc
  have hany := any_bls (qs.map fun q => decide (20 < q.2))
  have hlen : oLen (.lst (qs.map encP)) = some (.int qs.length) := by
    show some (D.int ((qs.map encP).length : Nat)) = _
    rw [List.length_map]
  unfold endW fitsB
  by_cases h8 : qs.length ≤ 8
  · have hd : decide ((8 : Int) < (qs.length : Int)) = false := decide_eq_false (by omega)
    have hx : (qs.map fun q => decide (20 < q.2)).any id = !qs.all fun p => decide (p.2 ≤ 20) := by
      rw [List.any_map, List.not_all_eq_any_not]
      congr 1
      funext q
      show decide (20 < q.2) = !decide (q.2 ≤ 20)
      by_cases e : q.2 ≤ 20
      · simp [e] <;> omega
      · simp [e] <;> omega
    rw [hx] at hany
    rw [decide_eq_true h8, Bool.true_and]
    cases ha : qs.all fun p => decide (p.2 ≤ 20) with
    | true =>
      rw [ha] at hany
      rw [if_pos rfl]
      rcases hs with rfl | rfl
      · simp only [ev_bd, ev_pu, ev_some, ev_var, ev_K, ev_c1, ev_c2, ev_tB, ev_tAnd, ev_tOr, ev_tNot, ev_And, ev_Or, ev_Not, ev_If, ev_chain, ev_nil, ev_cons, ev_tup, ev_lst, ev_idx2, idxA_l, idxA_t, idxA_s, idxA_a, idxA_e0, idxA_e1, ev_call, ev_ap, ev_cut, ev_part0, ev_part1, ev_str, ev_tgt, ev_iLst, ev_iTup, ev_iStr, ev_iRng, ev_nop, ev_seq, ev_st, ev_set, ev_new, ev_sTgt, ev_par, ev_sIf, ev_ret, ev_do, ev_raise, ev_for, ev_app, ev_iOwn, ev_enum, ev_oidx, ev_put, ev_yes, lt_len0, lt_lenS, asg_nm, asg_tp, opt_bind_some, len_two, len_one, len_zero, List.getElem?_cons_zero, List.getElem?_cons_succ, List.set_cons_zero, List.set_cons_succ, ↓reduceIte, Bool.false_eq_true, Bool.not_true, Bool.not_false, sl, ro, hlen, gt_i, hd, hlc, hany]
      · simp only [ev_bd, ev_pu, ev_some, ev_var, ev_K, ev_c1, ev_c2, ev_tB, ev_tAnd, ev_tOr, ev_tNot, ev_And, ev_Or, ev_Not, ev_If, ev_chain, ev_nil, ev_cons, ev_tup, ev_lst, ev_idx2, idxA_l, idxA_t, idxA_s, idxA_a, idxA_e0, idxA_e1, ev_call, ev_ap, ev_cut, ev_part0, ev_part1, ev_str, ev_tgt, ev_iLst, ev_iTup, ev_iStr, ev_iRng, ev_nop, ev_seq, ev_st, ev_set, ev_new, ev_sTgt, ev_par, ev_sIf, ev_ret, ev_do, ev_raise, ev_for, ev_app, ev_iOwn, ev_enum, ev_oidx, ev_put, ev_yes, lt_len0, lt_lenS, asg_nm, asg_tp, opt_bind_some, len_two, len_one, len_zero, List.getElem?_cons_zero, List.getElem?_cons_succ, List.set_cons_zero, List.set_cons_succ, ↓reduceIte, Bool.false_eq_true, Bool.not_true, Bool.not_false, sl, ro, hlen, gt_i, hd, hlc, hany]
    | false =>
      rw [ha] at hany
      rw [if_neg Bool.false_ne_true]
      rcases hs with rfl | rfl
      · simp only [ev_bd, ev_pu, ev_some, ev_var, ev_K, ev_c1, ev_c2, ev_tB, ev_tAnd, ev_tOr, ev_tNot, ev_And, ev_Or, ev_Not, ev_If, ev_chain, ev_nil, ev_cons, ev_tup, ev_lst, ev_idx2, idxA_l, idxA_t, idxA_s, idxA_a, idxA_e0, idxA_e1, ev_call, ev_ap, ev_cut, ev_part0, ev_part1, ev_str, ev_tgt, ev_iLst, ev_iTup, ev_iStr, ev_iRng, ev_nop, ev_seq, ev_st, ev_set, ev_new, ev_sTgt, ev_par, ev_sIf, ev_ret, ev_do, ev_raise, ev_for, ev_app, ev_iOwn, ev_enum, ev_oidx, ev_put, ev_yes, lt_len0, lt_lenS, asg_nm, asg_tp, opt_bind_some, len_two, len_one, len_zero, List.getElem?_cons_zero, List.getElem?_cons_succ, List.set_cons_zero, List.set_cons_succ, ↓reduceIte, Bool.false_eq_true, Bool.not_true, Bool.not_false, sl, ro, hlen, gt_i, hd, hlc, hany]
      · simp only [ev_bd, ev_pu, ev_some, ev_var, ev_K, ev_c1, ev_c2, ev_tB, ev_tAnd, ev_tOr, ev_tNot, ev_And, ev_Or, ev_Not, ev_If, ev_chain, ev_nil, ev_cons, ev_tup, ev_lst, ev_idx2, idxA_l, idxA_t, idxA_s, idxA_a, idxA_e0, idxA_e1, ev_call, ev_ap, ev_cut, ev_part0, ev_part1, ev_str, ev_tgt, ev_iLst, ev_iTup, ev_iStr, ev_iRng, ev_nop, ev_seq, ev_st, ev_set, ev_new, ev_sTgt, ev_par, ev_sIf, ev_ret, ev_do, ev_raise, ev_for, ev_app, ev_iOwn, ev_enum, ev_oidx, ev_put, ev_yes, lt_len0, lt_lenS, asg_nm, asg_tp, opt_bind_some, len_two, len_one, len_zero, List.getElem?_cons_zero, List.getElem?_cons_succ, List.set_cons_zero, List.set_cons_succ, ↓reduceIte, Bool.false_eq_true, Bool.not_true, Bool.not_false, sl, ro, hlen, gt_i, hd, hlc, hany]
  · have hd : decide ((8 : Int) < (qs.length : Int)) = true := decide_eq_true (by omega)
    rw [decide_eq_false h8, Bool.false_and, if_neg Bool.false_ne_true]
    rcases hs with rfl | rfl
    · simp only [ev_bd, ev_pu, ev_some, ev_var, ev_K, ev_c1, ev_c2, ev_tB, ev_tAnd, ev_tOr, ev_tNot, ev_And, ev_Or, ev_Not, ev_If, ev_chain, ev_nil, ev_cons, ev_tup, ev_lst, ev_idx2, idxA_l, idxA_t, idxA_s, idxA_a, idxA_e0, idxA_e1, ev_call, ev_ap, ev_cut, ev_part0, ev_part1, ev_str, ev_tgt, ev_iLst, ev_iTup, ev_iStr, ev_iRng, ev_nop, ev_seq, ev_st, ev_set, ev_new, ev_sTgt, ev_par, ev_sIf, ev_ret, ev_do, ev_raise, ev_for, ev_app, ev_iOwn, ev_enum, ev_oidx, ev_put, ev_yes, lt_len0, lt_lenS, asg_nm, asg_tp, opt_bind_some, len_two, len_one, len_zero, List.getElem?_cons_zero, List.getElem?_cons_succ, List.set_cons_zero, List.set_cons_succ, ↓reduceIte, Bool.false_eq_true, Bool.not_true, Bool.not_false, sl, ro, hlen, gt_i, hd]
    · simp only [ev_bd, ev_pu, ev_some, ev_var, ev_K, ev_c1, ev_c2, ev_tB, ev_tAnd, ev_tOr, ev_tNot, ev_And, ev_Or, ev_Not, ev_If, ev_chain, ev_nil, ev_cons, ev_tup, ev_lst, ev_idx2, idxA_l, idxA_t, idxA_s, idxA_a, idxA_e0, idxA_e1, ev_call, ev_ap, ev_cut, ev_part0, ev_part1, ev_str, ev_tgt, ev_iLst, ev_iTup, ev_iStr, ev_iRng, ev_nop, ev_seq, ev_st, ev_set, ev_new, ev_sTgt, ev_par, ev_sIf, ev_ret, ev_do, ev_raise, ev_for, ev_app, ev_iOwn, ev_enum, ev_oidx, ev_put, ev_yes, lt_len0, lt_lenS, asg_nm, asg_tp, opt_bind_some, len_two, len_one, len_zero, List.getElem?_cons_zero, List.getElem?_cons_succ, List.set_cons_zero, List.set_cons_succ, ↓reduceIte, Bool.false_eq_true, Bool.not_true, Bool.not_false, sl, ro, hlen, gt_i, hd]
theorem with_run (ps : List (List Nat × Nat)) (q : List Nat × Nat) (hl : ps.length ≤ 900) (m : D) : f_with_more [.tup (ps.map encP), .str q.1, .int q.2] m = if fitsB (addB ps q) then .ok (.tup ((addB ps q).map encP)) m else .exc 8 m := by
  have hs : start 7 [.tup (ps.map encP), .str q.1, .int q.2] = [some (.v (.tup (ps.map encP))), some (.v (.str q.1)), some (.v (.int q.2)), none, none, none, none] := Eq.trans rfl rfl
  obtain ⟨y5, y6, h⟩ := turnW_run ps q.1 q.2 m ps [] false none none (by simp; omega)
  rw [Bool.false_or, List.nil_append] at h
  have e0 : ([] : List (List Nat × Nat)).map encP = [] := rfl
  rw [e0] at h
  unfold f_with_more
  rw [fn_ev (show [D.tup (ps.map encP), D.str q.1, D.int q.2].length = 3 from rfl), hs, with_eq]
  by_cases e : q.1 ∈ ps.map (·.1)
  · have ha : addB ps q = ps.map (up1 q.1 q.2) := by unfold addB; rw [if_pos e, List.append_nil]
    rw [ha]
    have he := endW_run ps (ps.map (up1 q.1 q.2)) q.1 q.2 (some (.v (.bl true))) y5 y6 m (.own (.lst ((ps.map (up1 q.1 q.2)).map encP))) (.inl rfl)
    rw [decide_eq_true e] at h
    cases hf : fitsB (ps.map (up1 q.1 q.2)) with
    | true =>
      rw [hf, if_pos rfl] at he
      rw [if_pos rfl]
      simp only [ev_bd, ev_pu, ev_some, ev_var, ev_K, ev_c1, ev_c2, ev_tB, ev_tAnd, ev_tOr, ev_tNot, ev_And, ev_Or, ev_Not, ev_If, ev_chain, ev_nil, ev_cons, ev_tup, ev_lst, ev_idx2, idxA_l, idxA_t, idxA_s, idxA_a, idxA_e0, idxA_e1, ev_call, ev_ap, ev_cut, ev_part0, ev_part1, ev_str, ev_tgt, ev_iLst, ev_iTup, ev_iStr, ev_iRng, ev_nop, ev_seq, ev_st, ev_set, ev_new, ev_sTgt, ev_par, ev_sIf, ev_ret, ev_do, ev_raise, ev_for, ev_app, ev_iOwn, ev_enum, ev_oidx, ev_put, ev_yes, lt_len0, lt_lenS, asg_nm, asg_tp, opt_bind_some, len_two, len_one, len_zero, List.getElem?_cons_zero, List.getElem?_cons_succ, List.set_cons_zero, List.set_cons_succ, ↓reduceIte, Bool.false_eq_true, Bool.not_true, Bool.not_false, sl, ro, h, he, oTuple_l]
    | false =>
      rw [hf, if_neg Bool.false_ne_true] at he
      rw [if_neg Bool.false_ne_true]
      simp only [ev_bd, ev_pu, ev_some, ev_var, ev_K, ev_c1, ev_c2, ev_tB, ev_tAnd, ev_tOr, ev_tNot, ev_And, ev_Or, ev_Not, ev_If, ev_chain, ev_nil, ev_cons, ev_tup, ev_lst, ev_idx2, idxA_l, idxA_t, idxA_s, idxA_a, idxA_e0, idxA_e1, ev_call, ev_ap, ev_cut, ev_part0, ev_part1, ev_str, ev_tgt, ev_iLst, ev_iTup, ev_iStr, ev_iRng, ev_nop, ev_seq, ev_st, ev_set, ev_new, ev_sTgt, ev_par, ev_sIf, ev_ret, ev_do, ev_raise, ev_for, ev_app, ev_iOwn, ev_enum, ev_oidx, ev_put, ev_yes, lt_len0, lt_lenS, asg_nm, asg_tp, opt_bind_some, len_two, len_one, len_zero, List.getElem?_cons_zero, List.getElem?_cons_succ, List.set_cons_zero, List.set_cons_succ, ↓reduceIte, Bool.false_eq_true, Bool.not_true, Bool.not_false, sl, ro, h, he]
  · have ha : addB ps q = ps.map (up1 q.1 q.2) ++ [q] := by unfold addB; rw [if_neg e]
    rw [ha]
    have he := endW_run ps (ps.map (up1 q.1 q.2) ++ [q]) q.1 q.2 (some (.v (.bl false))) y5 y6 m (.own (.lst ((ps.map (up1 q.1 q.2) ++ [q]).map encP))) (.inl rfl)
    have hm : (ps.map (up1 q.1 q.2) ++ [q]).map encP = (ps.map (up1 q.1 q.2)).map encP ++ [.tup [.str q.1, .int q.2]] := by rw [List.map_append]; rfl
    have hap : ((ps.map (up1 q.1 q.2)).map encP).length < LN := by rw [List.length_map, List.length_map]; unfold LN; omega
    rw [decide_eq_false e] at h
    cases hf : fitsB (ps.map (up1 q.1 q.2) ++ [q]) with
    | true =>
      rw [hf, if_pos rfl, hm] at he
      rw [if_pos rfl, hm]
      simp only [ev_bd, ev_pu, ev_some, ev_var, ev_K, ev_c1, ev_c2, ev_tB, ev_tAnd, ev_tOr, ev_tNot, ev_And, ev_Or, ev_Not, ev_If, ev_chain, ev_nil, ev_cons, ev_tup, ev_lst, ev_idx2, idxA_l, idxA_t, idxA_s, idxA_a, idxA_e0, idxA_e1, ev_call, ev_ap, ev_cut, ev_part0, ev_part1, ev_str, ev_tgt, ev_iLst, ev_iTup, ev_iStr, ev_iRng, ev_nop, ev_seq, ev_st, ev_set, ev_new, ev_sTgt, ev_par, ev_sIf, ev_ret, ev_do, ev_raise, ev_for, ev_app, ev_iOwn, ev_enum, ev_oidx, ev_put, ev_yes, lt_len0, lt_lenS, asg_nm, asg_tp, opt_bind_some, len_two, len_one, len_zero, List.getElem?_cons_zero, List.getElem?_cons_succ, List.set_cons_zero, List.set_cons_succ, ↓reduceIte, Bool.false_eq_true, Bool.not_true, Bool.not_false, sl, ro, h, hap, he, oTuple_l]
    | false =>
      rw [hf, if_neg Bool.false_ne_true, hm] at he
      rw [if_neg Bool.false_ne_true]
      simp only [ev_bd, ev_pu, ev_some, ev_var, ev_K, ev_c1, ev_c2, ev_tB, ev_tAnd, ev_tOr, ev_tNot, ev_And, ev_Or, ev_Not, ev_If, ev_chain, ev_nil, ev_cons, ev_tup, ev_lst, ev_idx2, idxA_l, idxA_t, idxA_s, idxA_a, idxA_e0, idxA_e1, ev_call, ev_ap, ev_cut, ev_part0, ev_part1, ev_str, ev_tgt, ev_iLst, ev_iTup, ev_iStr, ev_iRng, ev_nop, ev_seq, ev_st, ev_set, ev_new, ev_sTgt, ev_par, ev_sIf, ev_ret, ev_do, ev_raise, ev_for, ev_app, ev_iOwn, ev_enum, ev_oidx, ev_put, ev_yes, lt_len0, lt_lenS, asg_nm, asg_tp, opt_bind_some, len_two, len_one, len_zero, List.getElem?_cons_zero, List.getElem?_cons_succ, List.set_cons_zero, List.set_cons_succ, ↓reduceIte, Bool.false_eq_true, Bool.not_true, Bool.not_false, sl, ro, h, hap, he]
end Pu

namespace Pu
def J (ps qs : List (List Nat × Nat)) : List (List Nat × Nat) := qs.foldl addB ps
theorem fits_add {ps : List (List Nat × Nat)} {q : List Nat × Nat} (h : fitsB (addB ps q) = true) : fitsB ps = true := by
  unfold fitsB at h ⊢
  rw [Bool.and_eq_true, decide_eq_true_iff, List.all_eq_true] at h ⊢
  obtain ⟨h1, h2⟩ := h
  unfold addB at h1 h2
  rw [List.length_append, List.length_map] at h1
  refine ⟨by omega, fun p hp => ?_⟩
  have := h2 (up1 q.1 q.2 p) (List.mem_append_left _ (List.mem_map_of_mem hp))
  rw [decide_eq_true_iff] at this ⊢
  unfold up1 at this
  dsimp only at this
  split at this <;> omega
theorem fits_J : ∀ {qs ps : List (List Nat × Nat)}, fitsB (J ps qs) = true → fitsB ps = true
  | [], _, h => h
  | q :: qs, ps, h => fits_add (fits_J (qs := qs) (ps := addB ps q) h)
theorem fits_vot {n : Nat} {ps : List (List Nat × Nat)} (h : Vot n ps) : fitsB ps = true := by
  unfold fitsB
  rw [Bool.and_eq_true, decide_eq_true_iff, List.all_eq_true]
  exact ⟨h.len, fun p hp => decide_eq_true (h.bal p hp).2.2⟩
theorem fits_len {ps : List (List Nat × Nat)} (h : fitsB ps = true) : ps.length ≤ 8 := by
  unfold fitsB at h
  rw [Bool.and_eq_true, decide_eq_true_iff] at h
  exact h.1
def turnT : M Fl := (sSet 2 (cCall f_with_more (aCons (cVar 2) (aCons (cVar 3) (aCons (cVar 4) aNil)))))
theorem together_eq : c_together = (sSeq (sDo (cCall f_need_votes (aCons (cVar 0) aNil)))
  (sSeq (sDo (cCall f_need_votes (aCons (cVar 1) aNil)))
  (sSeq (sIf (tB (c2 oNe (cIdx (cVar 0) (cK (.int 0))) (cIdx (cVar 1) (cK (.int 0))))) (sRaise 9) sNop)
  (sSeq (sSet 2 (cIdx (cVar 0) (cK (.int 1))))
  (sSeq (sFor (iTup (cIdx (cVar 1) (cK (.int 1)))) (.tp (.nm 3) (.nm 4)) turnT)
  (sRet (cTup (aCons (cIdx (cVar 0) (cK (.int 0))) (aCons (cVar 2) aNil))))))))) := rfl
theorem turnT_run (a b m : D) : ∀ (qs ps : List (List Nat × Nat)) (x3 x4 : Option Sl), fitsB ps = true →
    ∃ y3 y4, forL (.tp (.nm 3) (.nm 4)) turnT (qs.map encP) [some (.v (a)), some (.v (b)), some (.v (.tup (ps.map encP))), x3, x4] m = if fitsB (J ps qs) then .ok .nx [some (.v (a)), some (.v (b)), some (.v (.tup ((J ps qs).map encP))), y3, y4] m else .exc 8 m
  | [], ps, x3, x4, hf => ⟨x3, x4, by
    have e : J ps [] = ps := rfl
    rw [e, hf, if_pos rfl]
    exact ev_forNil⟩
  | q :: qs, ps, x3, x4, hf => by
    have hw := with_run ps q (by have := fits_len hf; omega) m
    have easg : ∀ r : Rho, asg (.tp (.nm 3) (.nm 4)) (encP q) r = (asg (.nm 3) (.str q.1) r).bind (asg (.nm 4) (.int q.2)) := fun r => rfl
    have ej : J ps (q :: qs) = J (addB ps q) qs := rfl
    rw [ej, List.map_cons, ev_forCons]
    cases hq : fitsB (addB ps q) with
    | true =>
      rw [hq, if_pos rfl] at hw
      obtain ⟨y3, y4, h⟩ := turnT_run a b m qs (addB ps q) (some (.v (.str q.1))) (some (.v (.int q.2))) hq
      refine ⟨y3, y4, ?_⟩
      rw [← h]
      unfold turnT
      simp only [ev_bd, ev_pu, ev_some, ev_var, ev_K, ev_c1, ev_c2, ev_tB, ev_tAnd, ev_tOr, ev_tNot, ev_And, ev_Or, ev_Not, ev_If, ev_chain, ev_nil, ev_cons, ev_tup, ev_lst, ev_idx2, idxA_l, idxA_t, idxA_s, idxA_a, idxA_e0, idxA_e1, ev_call, ev_ap, ev_cut, ev_part0, ev_part1, ev_str, ev_tgt, ev_iLst, ev_iTup, ev_iStr, ev_iRng, ev_nop, ev_seq, ev_st, ev_set, ev_new, ev_sTgt, ev_par, ev_sIf, ev_ret, ev_do, ev_raise, ev_for, ev_app, ev_iOwn, ev_enum, ev_oidx, ev_put, ev_yes, lt_len0, lt_lenS, asg_nm, asg_tp, opt_bind_some, len_two, len_one, len_zero, List.getElem?_cons_zero, List.getElem?_cons_succ, List.set_cons_zero, List.set_cons_succ, ↓reduceIte, Bool.false_eq_true, Bool.not_true, Bool.not_false, sl, ro, easg, hw]
    | false =>
      rw [hq, if_neg Bool.false_ne_true] at hw
      have hn : ¬fitsB (J (addB ps q) qs) = true := fun h => by rw [fits_J h] at hq; cases hq
      refine ⟨none, none, ?_⟩
      rw [if_neg hn]
      unfold turnT
      simp only [ev_bd, ev_pu, ev_some, ev_var, ev_K, ev_c1, ev_c2, ev_tB, ev_tAnd, ev_tOr, ev_tNot, ev_And, ev_Or, ev_Not, ev_If, ev_chain, ev_nil, ev_cons, ev_tup, ev_lst, ev_idx2, idxA_l, idxA_t, idxA_s, idxA_a, idxA_e0, idxA_e1, ev_call, ev_ap, ev_cut, ev_part0, ev_part1, ev_str, ev_tgt, ev_iLst, ev_iTup, ev_iStr, ev_iRng, ev_nop, ev_seq, ev_st, ev_set, ev_new, ev_sTgt, ev_par, ev_sIf, ev_ret, ev_do, ev_raise, ev_for, ev_app, ev_iOwn, ev_enum, ev_oidx, ev_put, ev_yes, lt_len0, lt_lenS, asg_nm, asg_tp, opt_bind_some, len_two, len_one, len_zero, List.getElem?_cons_zero, List.getElem?_cons_succ, List.set_cons_zero, List.set_cons_succ, ↓reduceIte, Bool.false_eq_true, Bool.not_true, Bool.not_false, sl, ro, easg, hw]
theorem together_run {n n' : Nat} {ps qs : List (List Nat × Nat)} (h : Vot n ps) (h' : Vot n' qs) (m : D) : f_together [encV n ps, encV n' qs] m = if n = n' then (if fitsB (J ps qs) then .ok (encV n (J ps qs)) m else .exc 8 m) else .exc 9 m := by
  have hs : start 5 [encV n ps, encV n' qs] = [some (.v (encV n ps)), some (.v (encV n' qs)), none, none, none] := Eq.trans rfl rfl
  have n1 := need_run h m
  have n2 := need_run h' m
  unfold f_together
  rw [fn_ev (show [encV n ps, encV n' qs].length = 2 from rfl), hs, together_eq]
  by_cases e : n = n'
  · subst e
    have hd : ((n : Int) == (n : Int)) = true := by simp
    obtain ⟨y3, y4, ht⟩ := turnT_run (encV n ps) (encV n qs) m qs ps none none (fits_vot h)
    rw [if_pos rfl]
    cases hf : fitsB (J ps qs) with
    | true =>
      rw [hf, if_pos rfl] at ht
      rw [if_pos rfl]
      simp only [ev_bd, ev_pu, ev_some, ev_var, ev_K, ev_c1, ev_c2, ev_tB, ev_tAnd, ev_tOr, ev_tNot, ev_And, ev_Or, ev_Not, ev_If, ev_chain, ev_nil, ev_cons, ev_tup, ev_lst, ev_idx2, idxA_l, idxA_t, idxA_s, idxA_a, idxA_e0, idxA_e1, ev_call, ev_ap, ev_cut, ev_part0, ev_part1, ev_str, ev_tgt, ev_iLst, ev_iTup, ev_iStr, ev_iRng, ev_nop, ev_seq, ev_st, ev_set, ev_new, ev_sTgt, ev_par, ev_sIf, ev_ret, ev_do, ev_raise, ev_for, ev_app, ev_iOwn, ev_enum, ev_oidx, ev_put, ev_yes, lt_len0, lt_lenS, asg_nm, asg_tp, opt_bind_some, len_two, len_one, len_zero, List.getElem?_cons_zero, List.getElem?_cons_succ, List.set_cons_zero, List.set_cons_succ, ↓reduceIte, Bool.false_eq_true, Bool.not_true, Bool.not_false, sl, ro, n1, n2, ne_i, hd, ht]
      rfl
    | false =>
      rw [hf, if_neg Bool.false_ne_true] at ht
      rw [if_neg Bool.false_ne_true]
      simp only [ev_bd, ev_pu, ev_some, ev_var, ev_K, ev_c1, ev_c2, ev_tB, ev_tAnd, ev_tOr, ev_tNot, ev_And, ev_Or, ev_Not, ev_If, ev_chain, ev_nil, ev_cons, ev_tup, ev_lst, ev_idx2, idxA_l, idxA_t, idxA_s, idxA_a, idxA_e0, idxA_e1, ev_call, ev_ap, ev_cut, ev_part0, ev_part1, ev_str, ev_tgt, ev_iLst, ev_iTup, ev_iStr, ev_iRng, ev_nop, ev_seq, ev_st, ev_set, ev_new, ev_sTgt, ev_par, ev_sIf, ev_ret, ev_do, ev_raise, ev_for, ev_app, ev_iOwn, ev_enum, ev_oidx, ev_put, ev_yes, lt_len0, lt_lenS, asg_nm, asg_tp, opt_bind_some, len_two, len_one, len_zero, List.getElem?_cons_zero, List.getElem?_cons_succ, List.set_cons_zero, List.set_cons_succ, ↓reduceIte, Bool.false_eq_true, Bool.not_true, Bool.not_false, sl, ro, n1, n2, ne_i, hd, ht]
  · have hd : ((n : Int) == (n' : Int)) = false := by rw [beq_eq_false_iff_ne]; omega
    rw [if_neg e]
    simp only [ev_bd, ev_pu, ev_some, ev_var, ev_K, ev_c1, ev_c2, ev_tB, ev_tAnd, ev_tOr, ev_tNot, ev_And, ev_Or, ev_Not, ev_If, ev_chain, ev_nil, ev_cons, ev_tup, ev_lst, ev_idx2, idxA_l, idxA_t, idxA_s, idxA_a, idxA_e0, idxA_e1, ev_call, ev_ap, ev_cut, ev_part0, ev_part1, ev_str, ev_tgt, ev_iLst, ev_iTup, ev_iStr, ev_iRng, ev_nop, ev_seq, ev_st, ev_set, ev_new, ev_sTgt, ev_par, ev_sIf, ev_ret, ev_do, ev_raise, ev_for, ev_app, ev_iOwn, ev_enum, ev_oidx, ev_put, ev_yes, lt_len0, lt_lenS, asg_nm, asg_tp, opt_bind_some, len_two, len_one, len_zero, List.getElem?_cons_zero, List.getElem?_cons_succ, List.set_cons_zero, List.set_cons_succ, ↓reduceIte, Bool.false_eq_true, Bool.not_true, Bool.not_false, sl, ro, n1, n2, ne_i, hd]
theorem joined_run {n n' : Nat} {ps qs : List (List Nat × Nat)} (h : Vot n ps) (h' : Vot n' qs) (m : D) : f_joined [encV n ps, encV n' qs] m = if n = n' then (if fitsB (J ps qs) then .ok (encV n (J ps qs)) m else .exc 8 m) else .exc 9 m := by
  have hs : start 2 [encV n ps, encV n' qs] = [some (.v (encV n ps)), some (.v (encV n' qs))] := Eq.trans rfl rfl
  have ht := together_run h h' m
  unfold f_joined
  rw [fn_ev (show [encV n ps, encV n' qs].length = 2 from rfl), hs, c_joined.eq_1]
  by_cases e : n = n'
  · subst e
    rw [if_pos rfl] at ht ⊢
    cases hf : fitsB (J ps qs) with
    | true =>
      rw [hf, if_pos rfl] at ht
      rw [if_pos rfl]
      simp only [ev_bd, ev_pu, ev_some, ev_var, ev_K, ev_c1, ev_c2, ev_tB, ev_tAnd, ev_tOr, ev_tNot, ev_And, ev_Or, ev_Not, ev_If, ev_chain, ev_nil, ev_cons, ev_tup, ev_lst, ev_idx2, idxA_l, idxA_t, idxA_s, idxA_a, idxA_e0, idxA_e1, ev_call, ev_ap, ev_cut, ev_part0, ev_part1, ev_str, ev_tgt, ev_iLst, ev_iTup, ev_iStr, ev_iRng, ev_nop, ev_seq, ev_st, ev_set, ev_new, ev_sTgt, ev_par, ev_sIf, ev_ret, ev_do, ev_raise, ev_for, ev_app, ev_iOwn, ev_enum, ev_oidx, ev_put, ev_yes, lt_len0, lt_lenS, asg_nm, asg_tp, opt_bind_some, len_two, len_one, len_zero, List.getElem?_cons_zero, List.getElem?_cons_succ, List.set_cons_zero, List.set_cons_succ, ↓reduceIte, Bool.false_eq_true, Bool.not_true, Bool.not_false, sl, ro, ht]
    | false =>
      rw [hf, if_neg Bool.false_ne_true] at ht
      rw [if_neg Bool.false_ne_true]
      simp only [ev_bd, ev_pu, ev_some, ev_var, ev_K, ev_c1, ev_c2, ev_tB, ev_tAnd, ev_tOr, ev_tNot, ev_And, ev_Or, ev_Not, ev_If, ev_chain, ev_nil, ev_cons, ev_tup, ev_lst, ev_idx2, idxA_l, idxA_t, idxA_s, idxA_a, idxA_e0, idxA_e1, ev_call, ev_ap, ev_cut, ev_part0, ev_part1, ev_str, ev_tgt, ev_iLst, ev_iTup, ev_iStr, ev_iRng, ev_nop, ev_seq, ev_st, ev_set, ev_new, ev_sTgt, ev_par, ev_sIf, ev_ret, ev_do, ev_raise, ev_for, ev_app, ev_iOwn, ev_enum, ev_oidx, ev_put, ev_yes, lt_len0, lt_lenS, asg_nm, asg_tp, opt_bind_some, len_two, len_one, len_zero, List.getElem?_cons_zero, List.getElem?_cons_succ, List.set_cons_zero, List.set_cons_succ, ↓reduceIte, Bool.false_eq_true, Bool.not_true, Bool.not_false, sl, ro, ht]
  · rw [if_neg e] at ht ⊢
    simp only [ev_bd, ev_pu, ev_some, ev_var, ev_K, ev_c1, ev_c2, ev_tB, ev_tAnd, ev_tOr, ev_tNot, ev_And, ev_Or, ev_Not, ev_If, ev_chain, ev_nil, ev_cons, ev_tup, ev_lst, ev_idx2, idxA_l, idxA_t, idxA_s, idxA_a, idxA_e0, idxA_e1, ev_call, ev_ap, ev_cut, ev_part0, ev_part1, ev_str, ev_tgt, ev_iLst, ev_iTup, ev_iStr, ev_iRng, ev_nop, ev_seq, ev_st, ev_set, ev_new, ev_sTgt, ev_par, ev_sIf, ev_ret, ev_do, ev_raise, ev_for, ev_app, ev_iOwn, ev_enum, ev_oidx, ev_put, ev_yes, lt_len0, lt_lenS, asg_nm, asg_tp, opt_bind_some, len_two, len_one, len_zero, List.getElem?_cons_zero, List.getElem?_cons_succ, List.set_cons_zero, List.set_cons_succ, ↓reduceIte, Bool.false_eq_true, Bool.not_true, Bool.not_false, sl, ro, ht]
/-! ### what is put together -/
def nms (ps : List (List Nat × Nat)) : List (List Nat) := ps.map (·.1)
theorem nms_up (b : List Nat) (t : Nat) (ps : List (List Nat × Nat)) : nms (ps.map (up1 b t)) = nms ps := by
  unfold nms
  rw [List.map_map]
  rfl
theorem nms_add (ps : List (List Nat × Nat)) (q : List Nat × Nat) : nms (addB ps q) = nms ps ++ (if q.1 ∈ nms ps then [] else [q.1]) := by
  unfold addB
  show List.map _ _ = _
  rw [List.map_append]
  have := nms_up q.1 q.2 ps
  unfold nms at this ⊢
  rw [this]
  split <;> rfl
theorem nd_add {ps : List (List Nat × Nat)} (h : (nms ps).Nodup) (q : List Nat × Nat) : (nms (addB ps q)).Nodup := by
  rw [nms_add]
  split
  · rw [List.append_nil]; exact h
  · rename_i hn
    rw [List.nodup_append]
    refine ⟨h, by simp, fun a ha b hb e => ?_⟩
    rw [List.mem_singleton] at hb
    subst hb e
    exact hn ha
theorem up_not {b : List Nat} {t : Nat} : ∀ {ps : List (List Nat × Nat)}, b ∉ nms ps → ps.map (up1 b t) = ps
  | [], _ => rfl
  | p :: ps, h => by
    have h1 : ¬p.1 = b := fun e => h (e ▸ List.mem_cons_self)
    have h2 : b ∉ nms ps := fun e => h (List.mem_cons_of_mem _ e)
    rw [List.map_cons, up_not h2]
    unfold up1
    rw [if_neg h1]
/-- voters by a mark of their ballots -/
def wsum (f : List Nat → Bool) : List (List Nat × Nat) → Int
  | [] => 0
  | p :: ps => (if f p.1 then (p.2 : Int) else 0) + wsum f ps
theorem wsum_app (f : List Nat → Bool) : ∀ (ps qs : List (List Nat × Nat)), wsum f (ps ++ qs) = wsum f ps + wsum f qs
  | [], qs => by simp [wsum]
  | p :: ps, qs => by rw [List.cons_append, wsum, wsum, wsum_app f ps qs]; omega
theorem wsum_up (f : List Nat → Bool) (b : List Nat) (t : Nat) : ∀ {ps : List (List Nat × Nat)}, (nms ps).Nodup → b ∈ nms ps → wsum f (ps.map (up1 b t)) = wsum f ps + if f b then (t : Int) else 0
  | [], _, h => by cases h
  | p :: ps, nd, h => by
    have nd' := List.nodup_cons.mp (show (p.1 :: nms ps).Nodup from nd)
    rw [List.map_cons, wsum, wsum]
    by_cases e : p.1 = b
    · rw [up_not (by rw [← e]; exact nd'.1)]
      unfold up1
      rw [if_pos e]
      dsimp only
      rw [e]
      split <;> omega
    · have hb : b ∈ nms ps := (List.mem_cons.mp (show b ∈ p.1 :: nms ps from h)).elim (fun q => absurd q.symm e) id
      rw [wsum_up f b t nd'.2 hb]
      unfold up1
      rw [if_neg e]
      dsimp only
      omega
theorem wsum_add (f : List Nat → Bool) {ps : List (List Nat × Nat)} (h : (nms ps).Nodup) (q : List Nat × Nat) : wsum f (addB ps q) = wsum f ps + if f q.1 then (q.2 : Int) else 0 := by
  unfold addB
  rw [wsum_app]
  by_cases e : q.1 ∈ ps.map (·.1)
  · rw [if_pos e, wsum_up f q.1 q.2 h e, wsum]
    omega
  · rw [if_neg e, up_not e, wsum, wsum]
    omega
theorem wsum_J (f : List Nat → Bool) : ∀ {qs ps : List (List Nat × Nat)}, (nms ps).Nodup → wsum f (J ps qs) = wsum f ps + wsum f qs
  | [], ps, _ => by show wsum f ps = _; rw [wsum]; omega
  | q :: qs, ps, h => by
    show wsum f (J (addB ps q) qs) = _
    rw [wsum_J f (nd_add h q), wsum_add f h, wsum]
    omega
theorem cnt_ws (z : List Nat) (c : Nat) : ∀ ps : List (List Nat × Nat), cnt z ps c = wsum (fun b => decide (firstOf z b = some c)) ps
  | [] => rfl
  | p :: ps => by
    rw [cnt, wsum, cnt_ws z c ps]
    by_cases e : firstOf z p.1 = some c <;> simp [e]
theorem tot_ws : ∀ ps : List (List Nat × Nat), tot ps = wsum (fun _ => true) ps
  | [] => rfl
  | p :: ps => by rw [tot_cons, wsum, tot_ws ps, if_pos rfl]
theorem cnt_J (z : List Nat) (c : Nat) {ps : List (List Nat × Nat)} (h : (nms ps).Nodup) (qs : List (List Nat × Nat)) : cnt z (J ps qs) c = cnt z ps c + cnt z qs c := by
  rw [cnt_ws, cnt_ws, cnt_ws, wsum_J _ h]
theorem tot_J {ps : List (List Nat × Nat)} (h : (nms ps).Nodup) (qs : List (List Nat × Nat)) : tot (J ps qs) = tot ps + tot qs := by
  rw [tot_ws, tot_ws, tot_ws, wsum_J _ h]
theorem nd_J : ∀ {qs ps : List (List Nat × Nat)}, (nms ps).Nodup → (nms (J ps qs)).Nodup
  | [], _, h => h
  | q :: qs, ps, h => nd_J (qs := qs) (nd_add h q)
theorem mem_add {P : List Nat → Prop} {ps : List (List Nat × Nat)} {q : List Nat × Nat} (h : ∀ p ∈ ps, P p.1 ∧ 1 ≤ p.2) (hq : P q.1 ∧ 1 ≤ q.2) : ∀ p ∈ addB ps q, P p.1 ∧ 1 ≤ p.2 := by
  intro p hp
  unfold addB at hp
  rcases List.mem_append.mp hp with e | e
  · obtain ⟨a, ha, rfl⟩ := List.mem_map.mp e
    refine ⟨(h a ha).1, ?_⟩
    have := (h a ha).2
    unfold up1
    dsimp only
    split <;> omega
  · split at e
    · cases e
    · rw [List.mem_singleton.mp e]; exact hq
theorem mem_J {P : List Nat → Prop} : ∀ {qs ps : List (List Nat × Nat)}, (∀ p ∈ ps, P p.1 ∧ 1 ≤ p.2) → (∀ p ∈ qs, P p.1 ∧ 1 ≤ p.2) → ∀ p ∈ J ps qs, P p.1 ∧ 1 ≤ p.2
  | [], _, h, _ => h
  | q :: qs, ps, h, hq => mem_J (qs := qs) (mem_add h (hq q List.mem_cons_self)) fun p hp => hq p (List.mem_cons_of_mem _ hp)
theorem vot_J {n : Nat} {ps qs : List (List Nat × Nat)} (h : Vot n ps) (h' : Vot n qs) (hf : fitsB (J ps qs) = true) : Vot n (J ps qs) where
  n2 := h.n2
  n5 := h.n5
  len := fits_len hf
  bal := fun p hp => by
    have h1 := mem_J (P := Bal n) (fun p hp => ⟨(h.bal p hp).1, (h.bal p hp).2.1⟩) (fun p hp => ⟨(h'.bal p hp).1, (h'.bal p hp).2.1⟩) p hp
    unfold fitsB at hf
    rw [Bool.and_eq_true, List.all_eq_true] at hf
    exact ⟨h1.1, h1.2, of_decide_eq_true (hf.2 p hp)⟩
  nd := nd_J h.nd
/-- with two candidates a common winner stays -/
theorem split_two {ps : List (List Nat × Nat)} (h : (nms ps).Nodup) (qs : List (List Nat × Nat)) {a b : Nat} (hab : a ≠ b) (e : win ps [a, b] = win qs [a, b]) : win (J ps qs) [a, b] = win ps [a, b] := by
  rw [win_two _ hab, win_two _ hab] at e
  rw [win_two _ hab, win_two _ hab, cnt_J _ _ h, cnt_J _ _ h]
  by_cases h1 : cnt [a, b] ps a < cnt [a, b] ps b
  · rw [if_pos h1] at e ⊢
    by_cases h2 : cnt [a, b] qs a < cnt [a, b] qs b
    · rw [if_pos (by omega)]
    · rw [if_neg h2] at e; exact absurd e.symm hab
  · rw [if_neg h1] at e ⊢
    by_cases h2 : cnt [a, b] qs a < cnt [a, b] qs b
    · rw [if_pos h2] at e; exact absurd e hab
    · rw [if_neg (by omega)]
def spl (ps qs : List (List Nat × Nat)) (z : List Nat) : Bool := (win ps z == win qs z) && !(win (J ps qs) z == win ps z)
theorem eq_sgn (x y : Nat) : oEq (.str [x]) (.str [y]) = some (.bl (x == y)) := by
  rw [eq_txt]
  congr 2
  rw [Bool.eq_iff_iff]
  simp
theorem split_run {n n' : Nat} {ps qs : List (List Nat × Nat)} (h : Vot n ps) (h' : Vot n' qs) (m : D) : f_is_split [encV n ps, encV n' qs] m = if n = n' then (if fitsB (J ps qs) then .ok (.bl (spl ps qs (LET.take n))) m else .exc 8 m) else .exc 9 m := by
  have hs : start 3 [encV n ps, encV n' qs] = [some (.v (encV n ps)), some (.v (encV n' qs)), none] := Eq.trans rfl rfl
  have ht := together_run h h' m
  unfold f_is_split
  rw [fn_ev (show [encV n ps, encV n' qs].length = 2 from rfl), hs, c_is_split.eq_1]
  by_cases e : n = n'
  · subst e
    rw [if_pos rfl] at ht ⊢
    cases hf : fitsB (J ps qs) with
    | true =>
      rw [hf, if_pos rfl] at ht
      rw [if_pos rfl]
      have w1 := winner_of_run h m
      have w2 := winner_of_run h' m
      have w3 := winner_of_run (vot_J h h' hf) m
      unfold spl
      cases hb : (win ps (LET.take n) == win qs (LET.take n)) with
      | true => simp only [ev_bd, ev_pu, ev_some, ev_var, ev_K, ev_c1, ev_c2, ev_tB, ev_tAnd, ev_tOr, ev_tNot, ev_And, ev_Or, ev_Not, ev_If, ev_chain, ev_nil, ev_cons, ev_tup, ev_lst, ev_idx2, idxA_l, idxA_t, idxA_s, idxA_a, idxA_e0, idxA_e1, ev_call, ev_ap, ev_cut, ev_part0, ev_part1, ev_str, ev_tgt, ev_iLst, ev_iTup, ev_iStr, ev_iRng, ev_nop, ev_seq, ev_st, ev_set, ev_new, ev_sTgt, ev_par, ev_sIf, ev_ret, ev_do, ev_raise, ev_for, ev_app, ev_iOwn, ev_enum, ev_oidx, ev_put, ev_yes, lt_len0, lt_lenS, asg_nm, asg_tp, opt_bind_some, len_two, len_one, len_zero, List.getElem?_cons_zero, List.getElem?_cons_succ, List.set_cons_zero, List.set_cons_succ, ↓reduceIte, Bool.false_eq_true, Bool.not_true, Bool.not_false, sl, ro, ht, w1, w2, w3, eq_sgn, ne_sgn, hb, Bool.true_and]
      | false => simp only [ev_bd, ev_pu, ev_some, ev_var, ev_K, ev_c1, ev_c2, ev_tB, ev_tAnd, ev_tOr, ev_tNot, ev_And, ev_Or, ev_Not, ev_If, ev_chain, ev_nil, ev_cons, ev_tup, ev_lst, ev_idx2, idxA_l, idxA_t, idxA_s, idxA_a, idxA_e0, idxA_e1, ev_call, ev_ap, ev_cut, ev_part0, ev_part1, ev_str, ev_tgt, ev_iLst, ev_iTup, ev_iStr, ev_iRng, ev_nop, ev_seq, ev_st, ev_set, ev_new, ev_sTgt, ev_par, ev_sIf, ev_ret, ev_do, ev_raise, ev_for, ev_app, ev_iOwn, ev_enum, ev_oidx, ev_put, ev_yes, lt_len0, lt_lenS, asg_nm, asg_tp, opt_bind_some, len_two, len_one, len_zero, List.getElem?_cons_zero, List.getElem?_cons_succ, List.set_cons_zero, List.set_cons_succ, ↓reduceIte, Bool.false_eq_true, Bool.not_true, Bool.not_false, sl, ro, ht, w1, w2, w3, eq_sgn, ne_sgn, hb, Bool.false_and]
    | false =>
      rw [hf, if_neg Bool.false_ne_true] at ht
      rw [if_neg Bool.false_ne_true]
      simp only [ev_bd, ev_pu, ev_some, ev_var, ev_K, ev_c1, ev_c2, ev_tB, ev_tAnd, ev_tOr, ev_tNot, ev_And, ev_Or, ev_Not, ev_If, ev_chain, ev_nil, ev_cons, ev_tup, ev_lst, ev_idx2, idxA_l, idxA_t, idxA_s, idxA_a, idxA_e0, idxA_e1, ev_call, ev_ap, ev_cut, ev_part0, ev_part1, ev_str, ev_tgt, ev_iLst, ev_iTup, ev_iStr, ev_iRng, ev_nop, ev_seq, ev_st, ev_set, ev_new, ev_sTgt, ev_par, ev_sIf, ev_ret, ev_do, ev_raise, ev_for, ev_app, ev_iOwn, ev_enum, ev_oidx, ev_put, ev_yes, lt_len0, lt_lenS, asg_nm, asg_tp, opt_bind_some, len_two, len_one, len_zero, List.getElem?_cons_zero, List.getElem?_cons_succ, List.set_cons_zero, List.set_cons_succ, ↓reduceIte, Bool.false_eq_true, Bool.not_true, Bool.not_false, sl, ro, ht]
  · rw [if_neg e] at ht ⊢
    simp only [ev_bd, ev_pu, ev_some, ev_var, ev_K, ev_c1, ev_c2, ev_tB, ev_tAnd, ev_tOr, ev_tNot, ev_And, ev_Or, ev_Not, ev_If, ev_chain, ev_nil, ev_cons, ev_tup, ev_lst, ev_idx2, idxA_l, idxA_t, idxA_s, idxA_a, idxA_e0, idxA_e1, ev_call, ev_ap, ev_cut, ev_part0, ev_part1, ev_str, ev_tgt, ev_iLst, ev_iTup, ev_iStr, ev_iRng, ev_nop, ev_seq, ev_st, ev_set, ev_new, ev_sTgt, ev_par, ev_sIf, ev_ret, ev_do, ev_raise, ev_for, ev_app, ev_iOwn, ev_enum, ev_oidx, ev_put, ev_yes, lt_len0, lt_lenS, asg_nm, asg_tp, opt_bind_some, len_two, len_one, len_zero, List.getElem?_cons_zero, List.getElem?_cons_succ, List.set_cons_zero, List.set_cons_succ, ↓reduceIte, Bool.false_eq_true, Bool.not_true, Bool.not_false, sl, ro, ht]
/-! ### the law's rows -/
def sumO (b : List Nat) (qs : List (List Nat × Nat)) : Nat := ((qs.filter fun q => decide (q.1 = b)).map (·.2)).sum
def rowsJ (ps qs : List (List Nat × Nat)) : List (List Nat × Nat) := ps.map (fun p => (p.1, p.2 + sumO p.1 qs)) ++ qs.filter fun q => !decide (q.1 ∈ nms ps)
theorem sumO_cons (b : List Nat) (q : List Nat × Nat) (qs : List (List Nat × Nat)) : sumO b (q :: qs) = (if q.1 = b then q.2 else 0) + sumO b qs := by
  unfold sumO
  rw [List.filter_cons]
  by_cases e : q.1 = b <;> simp [e]
theorem sumO_not {b : List Nat} {qs : List (List Nat × Nat)} (h : b ∉ nms qs) : sumO b qs = 0 := by
  unfold sumO
  rw [List.filter_eq_nil_iff.mpr fun q hq => by
    simp only [decide_eq_true_eq]
    exact fun e => h (List.mem_map.mpr ⟨q, hq, e⟩)]
  rfl
theorem rows_step {ps qs : List (List Nat × Nat)} {q : List Nat × Nat} (h : q.1 ∉ nms qs) : rowsJ ps (q :: qs) = rowsJ (addB ps q) qs := by
  unfold rowsJ
  by_cases e : q.1 ∈ nms ps
  · have ha : addB ps q = ps.map (up1 q.1 q.2) := by unfold addB; exact (congrArg _ (if_pos e)).trans (List.append_nil _)
    rw [ha, nms_up, List.filter_cons, if_neg (by simp [e]), List.map_map]
    congr 1
    apply List.map_congr_left
    intro p _
    show (p.1, p.2 + sumO p.1 (q :: qs)) = (p.1, (up1 q.1 q.2 p).2 + sumO p.1 qs)
    rw [sumO_cons]
    congr 1
    unfold up1
    dsimp only
    by_cases e2 : q.1 = p.1
    · rw [if_pos e2, if_pos e2.symm]; omega
    · rw [if_neg e2, if_neg (Ne.symm e2)]; omega
  · have ha : addB ps q = ps ++ [q] := by
      unfold addB
      rw [up_not e]
      exact congrArg _ (if_neg e)
    have hn : nms (ps ++ [q]) = nms ps ++ [q.1] := by unfold nms; rw [List.map_append]; rfl
    rw [ha, hn, List.filter_cons, if_pos (by simp [e]), List.map_append, List.append_assoc]
    congr 1
    · apply List.map_congr_left
      intro p hp
      rw [sumO_cons, if_neg (fun z => e (List.mem_map.mpr ⟨p, hp, z.symm⟩)), Nat.zero_add]
    · show q :: _ = [(q.1, q.2 + sumO q.1 qs)] ++ _
      rw [sumO_not h]
      show q :: _ = q :: _
      congr 1
      apply List.filter_congr
      intro x hx
      have hne : x.1 ≠ q.1 := fun z => h (List.mem_map.mpr ⟨x, hx, z⟩)
      simp [hne]
theorem J_rows : ∀ {qs ps : List (List Nat × Nat)}, (nms qs).Nodup → J ps qs = rowsJ ps qs
  | [], ps, _ => by
    show ps = _
    unfold rowsJ sumO
    simp
  | q :: qs, ps, h => by
    have h' := List.nodup_cons.mp (show (q.1 :: nms qs).Nodup from h)
    rw [rows_step h'.1]
    exact J_rows h'.2
end Pu

namespace Pu
/-! ### the other votes cut to the letters of the one -/
theorem lt_one (x y : Nat) : decide (([x] : List Nat) < [y]) = decide (x < y) := by
  rw [Bool.eq_iff_iff, decide_eq_true_iff, decide_eq_true_iff]
  constructor
  · intro h
    rcases (List.cons_lt_cons_iff.mp h) with h | h
    · exact h
    · exact absurd h.2 (List.not_lt_nil _)
  · intro h
    exact List.cons_lt_cons_iff.mpr (.inl h)
theorem maxS_fold : ∀ (cs : List Nat) (c : Nat), ∃ x, maxS [c] (cs.map fun y => [y]) = [x] ∧ c ≤ x ∧ ∀ y ∈ cs, y ≤ x
  | [], c => ⟨c, rfl, Nat.le_refl _, fun _ h => (by cases h)⟩
  | y :: cs, c => by
    have hl := lt_one c y
    by_cases h : c < y
    · obtain ⟨x, h1, h2, h3⟩ := maxS_fold cs y
      refine ⟨x, ?_, by omega, fun w hw => (List.mem_cons.mp hw).elim (fun e => e ▸ h2) (h3 w)⟩
      have hc : ([c] : List Nat) < [y] := of_decide_eq_true (hl.trans (decide_eq_true h))
      show maxS (if [c] < [y] then [y] else [c]) _ = _
      rw [if_pos hc]
      exact h1
    · obtain ⟨x, h1, h2, h3⟩ := maxS_fold cs c
      refine ⟨x, ?_, h2, fun w hw => (List.mem_cons.mp hw).elim (fun e => by omega) (h3 w)⟩
      have hc : ¬([c] : List Nat) < [y] := of_decide_eq_false (hl.trans (decide_eq_false h))
      show maxS (if [c] < [y] then [y] else [c]) _ = _
      rw [if_neg hc]
      exact h1
/-- the last letter of a ballot -/
def mxc : List Nat → Nat
  | [] => 0
  | c :: cs => (maxS [c] (cs.map fun y => [y])).headD 0
theorem mxc_run {b : List Nat} (h : b ≠ []) : oMaxT (.str b) = some (.str [mxc b]) := by
  match b, h with
  | c :: cs, _ =>
    obtain ⟨x, h1, _⟩ := maxS_fold cs c
    show some (D.str (maxS [c] (cs.map fun y => [y]))) = some (.str [(maxS [c] (cs.map fun y => [y])).headD 0])
    rw [h1]
    rfl
theorem le_mxc {b : List Nat} {c : Nat} (h : c ∈ b) : c ≤ mxc b := by
  match b, h with
  | a :: cs, h =>
    obtain ⟨x, h1, h2, h3⟩ := maxS_fold cs a
    show c ≤ (maxS [a] (cs.map fun y => [y])).headD 0
    rw [h1]
    exact (List.mem_cons.mp h).elim (fun e => e ▸ h2) (h3 c)
theorem let_lt {n c : Nat} (hn : n ≤ 5) (h : c ∈ LET) (hl : c < 97 + n) : c ∈ LET.take n := by
  have key : ∀ n ∈ List.range 6, ∀ c ∈ LET, c < 97 + n → c ∈ LET.take n := by decide
  exact key n (List.mem_range.mpr (by omega)) c h hl
def low (n : Nat) (qs : List (List Nat × Nat)) : List (List Nat × Nat) := qs.filter fun q => decide (mxc q.1 < 97 + n)
theorem vot_low {n n' : Nat} {qs : List (List Nat × Nat)} (h2 : 2 ≤ n) (h5 : n ≤ 5) (h : Vot n' qs) : Vot n (low n qs) where
  n2 := h2
  n5 := h5
  len := Nat.le_trans (List.length_filter_le _ _) h.len
  bal := fun p hp => by
    obtain ⟨h1, h3⟩ := List.mem_filter.mp hp
    have hb := h.bal p h1
    have h3 := of_decide_eq_true h3
    refine ⟨⟨hb.1.ne, hb.1.nd, fun c hc => let_lt h5 (List.mem_of_mem_take (hb.1.sub c hc)) ?_⟩, hb.2⟩
    have := le_mxc hc
    omega
  nd := h.nd.sublist (List.filter_sublist.map _)
theorem let_idx {n : Nat} (h : n ≤ 4) : oIdx (.str [97, 98, 99, 100, 101]) (.int n) = some (.str [97 + n]) := by
  rcases (by omega : n = 0 ∨ n = 1 ∨ n = 2 ∨ n = 3 ∨ n = 4) with rfl | rfl | rfl | rfl | rfl <;> rfl
theorem lt_txt (x y : List Nat) : oLt (.str x) (.str y) = some (.bl (decide (x < y))) := Eq.trans rfl rfl
theorem idxA_p0 (q : List Nat × Nat) (m : D) : idxA (encP q) m (.int 0) = some (.str q.1) := Eq.trans rfl rfl
def cut17 : M Fl := (sIf (tB (c2 oGt (cCall f__law_roll (aCons (cVar 1) (aCons (cK (.int 4)) aNil))) (cK (.int 0)))) (sSet 3 (cTup (aCons (cIdx (cVar 2) (cK (.int 0))) (aCons (c1 oTuple (cLc [4] (iTup (cIdx (cVar 3) (cK (.int 1)))) (.nm 4) (tB (c2 oLt (c1 oMaxT (cIdx (cVar 4) (cK (.int 0)))) (cIdx (cK (.str [97, 98, 99, 100, 101])) (cIdx (cVar 2) (cK (.int 0)))))) (cVar 4))) aNil)))) sNop)
theorem low_run {n n' : Nat} {ps qs : List (List Nat × Nat)} (h4 : n ≤ 4) (h' : Vot n' qs) (m : D) :
    cLc [4] (iTup (cIdx (cVar 3) (cK (.int 1)))) (.nm 4) (tB (c2 oLt (c1 oMaxT (cIdx (cVar 4) (cK (.int 0)))) (cIdx (cK (.str [97, 98, 99, 100, 101])) (cIdx (cVar 2) (cK (.int 0)))))) (cVar 4) [] [none, some (.v (.amb)), some (.v (encV n ps)), some (.v (encV n' qs)), none, none, none, none, none, none, none, none, none, none, none] m = .ok (.lst ((low n qs).map encP)) [none, some (.v (.amb)), some (.v (encV n ps)), some (.v (encV n' qs)), none, none, none, none, none, none, none, none, none, none, none] m := by
  have := lc_run (vs := [4]) (it := iTup (cIdx (cVar 3) (cK (.int 1)))) (tg := .nm 4) (t := tB (c2 oLt (c1 oMaxT (cIdx (cVar 4) (cK (.int 0)))) (cIdx (cK (.str [97, 98, 99, 100, 101])) (cIdx (cVar 2) (cK (.int 0)))))) (e := cVar 4) (r := [none, some (.v (.amb)), some (.v (encV n ps)), some (.v (encV n' qs)), none, none, none, none, none, none, none, none, none, none, none]) (m := m) (ds := qs.map encP) (fun d => match d with | .tup [.str b, _] => decide (mxc b < 97 + n) | _ => false) id (by simp only [ev_bd, ev_pu, ev_some, ev_var, ev_K, ev_c1, ev_c2, ev_tB, ev_tAnd, ev_tOr, ev_tNot, ev_And, ev_Or, ev_Not, ev_If, ev_chain, ev_nil, ev_cons, ev_tup, ev_lst, ev_idx2, idxA_l, idxA_t, idxA_s, idxA_a, idxA_e0, idxA_e1, ev_call, ev_ap, ev_cut, ev_part0, ev_part1, ev_str, ev_tgt, ev_iLst, ev_iTup, ev_iStr, ev_iRng, ev_nop, ev_seq, ev_st, ev_set, ev_new, ev_sTgt, ev_par, ev_sIf, ev_ret, ev_do, ev_raise, ev_for, ev_app, ev_iOwn, ev_enum, ev_oidx, ev_put, ev_yes, lt_len0, lt_lenS, asg_nm, asg_tp, opt_bind_some, len_two, len_one, len_zero, List.getElem?_cons_zero, List.getElem?_cons_succ, List.set_cons_zero, List.set_cons_succ, ↓reduceIte, Bool.false_eq_true, Bool.not_true, Bool.not_false, sl, ro]) (by
    intro d hd
    obtain ⟨q, hq, rfl⟩ := List.mem_map.mp hd
    refine ⟨[none, some (.v (.amb)), some (.v (encV n ps)), some (.v (encV n' qs)), some (.v (encP q)), none, none, none, none, none, none, none, none, none, none], rfl, rfl, ?_, fun _ => by simp only [ev_bd, ev_pu, ev_some, ev_var, ev_K, ev_c1, ev_c2, ev_tB, ev_tAnd, ev_tOr, ev_tNot, ev_And, ev_Or, ev_Not, ev_If, ev_chain, ev_nil, ev_cons, ev_tup, ev_lst, ev_idx2, idxA_l, idxA_t, idxA_s, idxA_a, idxA_e0, idxA_e1, ev_call, ev_ap, ev_cut, ev_part0, ev_part1, ev_str, ev_tgt, ev_iLst, ev_iTup, ev_iStr, ev_iRng, ev_nop, ev_seq, ev_st, ev_set, ev_new, ev_sTgt, ev_par, ev_sIf, ev_ret, ev_do, ev_raise, ev_for, ev_app, ev_iOwn, ev_enum, ev_oidx, ev_put, ev_yes, lt_len0, lt_lenS, asg_nm, asg_tp, opt_bind_some, len_two, len_one, len_zero, List.getElem?_cons_zero, List.getElem?_cons_succ, List.set_cons_zero, List.set_cons_succ, ↓reduceIte, Bool.false_eq_true, Bool.not_true, Bool.not_false, sl, ro, id]⟩
    have h1 := mxc_run (h'.bal q hq).1.ne
    have h2 := let_idx h4
    have h3 := lt_one (mxc q.1) (97 + n)
    simp only [ev_bd, ev_pu, ev_some, ev_var, ev_K, ev_c1, ev_c2, ev_tB, ev_tAnd, ev_tOr, ev_tNot, ev_And, ev_Or, ev_Not, ev_If, ev_chain, ev_nil, ev_cons, ev_tup, ev_lst, ev_idx2, idxA_l, idxA_t, idxA_s, idxA_a, idxA_e0, idxA_e1, ev_call, ev_ap, ev_cut, ev_part0, ev_part1, ev_str, ev_tgt, ev_iLst, ev_iTup, ev_iStr, ev_iRng, ev_nop, ev_seq, ev_st, ev_set, ev_new, ev_sTgt, ev_par, ev_sIf, ev_ret, ev_do, ev_raise, ev_for, ev_app, ev_iOwn, ev_enum, ev_oidx, ev_put, ev_yes, lt_len0, lt_lenS, asg_nm, asg_tp, opt_bind_some, len_two, len_one, len_zero, List.getElem?_cons_zero, List.getElem?_cons_succ, List.set_cons_zero, List.set_cons_succ, ↓reduceIte, Bool.false_eq_true, Bool.not_true, Bool.not_false, sl, ro, idxA_p0, h1, h2, lt_txt, h3]
    rfl)
  rw [this, List.map_id, List.filter_map]
  rfl
theorem cut17_run {n n' : Nat} {ps qs : List (List Nat × Nat)} (h : Vot n ps) (h4 : n ≤ 4) (h' : Vot n' qs) (m : D) (hm : Dc m) : ∃ n2 qs2 m', Vot n2 qs2 ∧ Dc m' ∧ cut17 [none, some (.v (.amb)), some (.v (encV n ps)), some (.v (encV n' qs)), none, none, none, none, none, none, none, none, none, none, none] m = .ok .nx [none, some (.v (.amb)), some (.v (encV n ps)), some (.v (encV n2 qs2)), none, none, none, none, none, none, none, none, none, none, none] m' := by
  obtain ⟨v, m', v0, v4, hm', hr⟩ := roll_run 4 (by decide) (by decide) m hm
  unfold cut17
  by_cases e : 0 < v
  · have hd : decide ((0 : Int) < v) = true := decide_eq_true e
    refine ⟨n, low n qs, m', vot_low h.n2 h.n5 h', hm', ?_⟩
    simp only [ev_bd, ev_pu, ev_some, ev_var, ev_K, ev_c1, ev_c2, ev_tB, ev_tAnd, ev_tOr, ev_tNot, ev_And, ev_Or, ev_Not, ev_If, ev_chain, ev_nil, ev_cons, ev_tup, ev_lst, ev_idx2, idxA_l, idxA_t, idxA_s, idxA_a, idxA_e0, idxA_e1, ev_call, ev_ap, ev_cut, ev_part0, ev_part1, ev_str, ev_tgt, ev_iLst, ev_iTup, ev_iStr, ev_iRng, ev_nop, ev_seq, ev_st, ev_set, ev_new, ev_sTgt, ev_par, ev_sIf, ev_ret, ev_do, ev_raise, ev_for, ev_app, ev_iOwn, ev_enum, ev_oidx, ev_put, ev_yes, lt_len0, lt_lenS, asg_nm, asg_tp, opt_bind_some, len_two, len_one, len_zero, List.getElem?_cons_zero, List.getElem?_cons_succ, List.set_cons_zero, List.set_cons_succ, ↓reduceIte, Bool.false_eq_true, Bool.not_true, Bool.not_false, sl, ro, hr, gt_i, hd, low_run h4 h', oTuple_l]
    rfl
  · have hd : decide ((0 : Int) < v) = false := decide_eq_false e
    refine ⟨n', qs, m', h', hm', ?_⟩
    simp only [ev_bd, ev_pu, ev_some, ev_var, ev_K, ev_c1, ev_c2, ev_tB, ev_tAnd, ev_tOr, ev_tNot, ev_And, ev_Or, ev_Not, ev_If, ev_chain, ev_nil, ev_cons, ev_tup, ev_lst, ev_idx2, idxA_l, idxA_t, idxA_s, idxA_a, idxA_e0, idxA_e1, ev_call, ev_ap, ev_cut, ev_part0, ev_part1, ev_str, ev_tgt, ev_iLst, ev_iTup, ev_iStr, ev_iRng, ev_nop, ev_seq, ev_st, ev_set, ev_new, ev_sTgt, ev_par, ev_sIf, ev_ret, ev_do, ev_raise, ev_for, ev_app, ev_iOwn, ev_enum, ev_oidx, ev_put, ev_yes, lt_len0, lt_lenS, asg_nm, asg_tp, opt_bind_some, len_two, len_one, len_zero, List.getElem?_cons_zero, List.getElem?_cons_succ, List.set_cons_zero, List.set_cons_succ, ↓reduceIte, Bool.false_eq_true, Bool.not_true, Bool.not_false, sl, ro, hr, gt_i, hd]
/-! ### equal data -/
theorem deqs_enc : ∀ ps : List (List Nat × Nat), deqs (ps.map encP) (ps.map encP) = true
  | [] => by simp [deqs]
  | p :: ps => by rw [List.map_cons, deqs, deqs_enc ps]; simp [encP, deq, deqs]
theorem ne_encV (n : Nat) (ps : List (List Nat × Nat)) : oNe (encV n ps) (encV n ps) = some (.bl false) := by
  have hs : shp 8 (encV n ps) = true := by
    have : (ps.map encP).all (shp 6) = true := by
      rw [List.all_eq_true]
      intro d hd
      obtain ⟨x, _, rfl⟩ := List.mem_map.mp hd
      rfl
    show ([D.int n, .tup (ps.map encP)] : List D).all (shp 7) = true
    simp only [List.all_cons, List.all_nil, Bool.and_true]
    show (true && (ps.map encP).all (shp 6)) = true
    rw [this]
    rfl
  have hd : deq (encV n ps) (encV n ps) = true := by
    unfold encV
    simp [deq, deqs, deqs_enc]
  unfold oNe
  rw [hs, hd]
  rfl
theorem ne_bl (b : Bool) : oNe (.bl b) (.bl b) = some (.bl false) := by cases b <;> rfl
theorem oAdd_l (x y : List D) (h : x.length + y.length ≤ 1000) : oAdd (.lst x) (.lst y) = some (.lst (x ++ y)) := by
  show (if x.length + y.length ≤ LN then _ else _) = _
  rw [if_pos (by unfold LN; omega)]
theorem all_bls (L : List Bool) : oAll (.lst (L.map .bl)) = some (.bl (L.all id)) := by
  show (blsD (L.map .bl)).map _ = _
  rw [bls_map]
  rfl
end Pu

namespace Pu
/-- texts joined -/
def jn (a : List Nat) : List (List Nat) → List Nat
  | [] => []
  | [p] => p
  | p :: q :: r => p ++ (a ++ jn a (q :: r))
def oJoin : D → D → Option D
  | .str a, .lst ds => (strsD ds).bind fun zs => if (zs.map (·.length)).sum + zs.length * a.length ≤ LN then some (.str (jn a zs)) else none
  | _, _ => none
theorem jn_mem {a : List Nat} {c : Nat} : ∀ {zs : List (List Nat)}, c ∈ jn a zs → c ∈ a ∨ ∃ z ∈ zs, c ∈ z
  | [], h => by cases h
  | [p], h => .inr ⟨p, List.mem_cons_self, h⟩
  | p :: q :: r, h => by
    rcases List.mem_append.mp h with h | h
    · exact .inr ⟨p, List.mem_cons_self, h⟩
    · rcases List.mem_append.mp h with h | h
      · exact .inl h
      · rcases jn_mem (zs := q :: r) h with h | ⟨z, h1, h2⟩
        · exact .inl h
        · exact .inr ⟨z, List.mem_cons_of_mem _ h1, h2⟩
theorem jn_len (a : List Nat) : ∀ zs : List (List Nat), (jn a zs).length ≤ (zs.map (·.length)).sum + zs.length * a.length
  | [] => Nat.zero_le _
  | [p] => by simp [jn]
  | p :: q :: r => by
    have ih := jn_len a (q :: r)
    simp only [jn, List.length_append, List.map_cons, List.sum_cons, List.length_cons, Nat.add_mul, Nat.one_mul] at ih ⊢
    omega
theorem jn_nil : ∀ zs : List (List Nat), jn [] zs = zs.flatten
  | [] => rfl
  | [p] => by simp [jn]
  | p :: q :: r => by rw [jn, jn_nil (q :: r)]; simp
end Pu
namespace Su
open PySem PySem.Spec PyProof.Rows L2
open Pu (D Sl Rho Rs M Ro Fn Fl Tg LN)
section
variable {X : Cx} {T : Tb} {E : XK} {k : Nat} {a b : Expr} {p pos apos : Pos} {ca cb : M D}
theorem joinL_jn (a : List Nat) : ∀ zs : List (List Nat), TL.joinL a zs = Pu.jn a zs
  | [] => rfl
  | [p] => rfl
  | p :: q :: r => by rw [TL.joinL, Pu.jn, joinL_jn a (q :: r)]
theorem join_mk (a : List Nat) (zs : List (List Nat)) : Txt.join (mkS a) (zs.map mkS) = mkS (Pu.jn a zs) := by
  rw [← joinL_jn]
  exact SX.join_S a zs
theorem se_join (ha : SE X T E a ca) (hb : SE X T E b cb) (hs : starEach [b] X.env = [(false, eval b X.env)] := by rfl) (hbase : attributeBase a "join" X.env (eval a X.env) = eval a X.env := by rfl) (hline : (apos.endLine == pos.line) = true := by rfl) :
    SE X T E (.Call (.Attribute a "join" apos) [b] [] pos) (Pu.c2 Pu.oJoin (Pu.cStr ca) cb) := by
  obtain ⟨t, h1, h2⟩ := ha
  obtain ⟨u, h3, h4⟩ := hb
  refine ⟨_, pe_join h1 h3 hs hbase hline, fun al r m s G H Q R hP => ?_⟩
  unfold Pu.c2 Pu.cStr at hP
  rw [bd_bd] at hP
  refine h2.thn R hP fun y r1 m1 v G1 H1 S1 R1 d1 P1 => ?_
  cases y with
  | str z =>
    obtain ⟨e1, k1⟩ := d1.str_of
    subst e1
    refine ⟨⟨_, rfl⟩, ?_⟩
    refine h4.thn R1 P1 fun y2 r2 m2 v2 G2 H2 S2 R2 d2 P2 => ?_
    obtain ⟨d, e, P3⟩ := P2.opt_
    cases y2 with
    | lst ds =>
      obtain ⟨zs, e1, e⟩ := Option.bind_eq_some_iff.mp (show (Pu.strsD ds).bind _ = some d from e)
      simp only [Option.ite_none_right_eq_some, Option.some.injEq] at e
      obtain ⟨hc, e⟩ := e
      subst e
      rw [Pu.strs_eq e1] at d2
      obtain ⟨q, xs, rfl, g1, hl, g2⟩ := d2.lst_of
      obtain ⟨g3, g4⟩ := DnL.strsD g2
      subst g3
      refine ⟨_, q, zs.map mkS, rfl, rfl, .inl (SqL.of (R2.same _ _ g1)), ?_, ?_⟩
      · rw [List.map_map, List.length_map, mkS_len]
        have : (zs.map ((fun x : Str => x.length) ∘ mkS)) = zs.map (·.length) := List.map_congr_left fun x _ => mkS_len x
        rw [this]
        exact hc
      · rw [join_mk]
        refine P3.ok_ R2 (.str _ ⟨Nat.le_trans (Pu.jn_len _ _) hc, fun c hc => ?_⟩)
        rcases Pu.jn_mem hc with h | ⟨z, h1, h2⟩
        · exact k1.cps c h
        · exact (g4 z h1).cps c h2
    | _ => simp [Pu.oJoin] at e
  | _ => exact P1.elim
end
end Su

namespace Pu
end Pu

namespace Pu
/-! ### is_votes of other things -/
theorem votes_notT {d m : D} (h : oIsi "tuple" d = some (.bl false)) : f_is_votes [d] m = .ok (.bl false) m := by
  have hs : start 4 [d] = [some (.v (d)), none, none, none] := Eq.trans rfl rfl
  unfold f_is_votes
  rw [fn_ev (show [d].length = 1 from rfl), hs, c_is_votes.eq_1]
  simp only [ev_bd, ev_pu, ev_some, ev_var, ev_K, ev_c1, ev_c2, ev_tB, ev_tAnd, ev_tOr, ev_tNot, ev_And, ev_Or, ev_Not, ev_If, ev_chain, ev_nil, ev_cons, ev_tup, ev_lst, ev_idx2, idxA_l, idxA_t, idxA_s, idxA_a, idxA_e0, idxA_e1, ev_call, ev_ap, ev_cut, ev_part0, ev_part1, ev_str, ev_tgt, ev_iLst, ev_iTup, ev_iStr, ev_iRng, ev_nop, ev_seq, ev_st, ev_set, ev_new, ev_sTgt, ev_par, ev_sIf, ev_ret, ev_do, ev_raise, ev_for, ev_app, ev_iOwn, ev_enum, ev_oidx, ev_put, ev_yes, lt_len0, lt_lenS, asg_nm, asg_tp, opt_bind_some, len_two, len_one, len_zero, List.getElem?_cons_zero, List.getElem?_cons_succ, List.set_cons_zero, List.set_cons_succ, ↓reduceIte, Bool.false_eq_true, Bool.not_true, Bool.not_false, sl, ro, h]
theorem votes_notL {ds : List D} {m : D} (h : ((ds.length : Int) == 2) = false) : f_is_votes [.tup ds] m = .ok (.bl false) m := by
  have hs : start 4 [.tup ds] = [some (.v (.tup ds)), none, none, none] := Eq.trans rfl rfl
  have i1 : oIsi "tuple" (.tup ds) = some (.bl true) := by rw [oIsi_ _ _ "tuple" rfl]; rfl
  unfold f_is_votes
  rw [fn_ev (show [D.tup ds].length = 1 from rfl), hs, c_is_votes.eq_1]
  simp only [ev_bd, ev_pu, ev_some, ev_var, ev_K, ev_c1, ev_c2, ev_tB, ev_tAnd, ev_tOr, ev_tNot, ev_And, ev_Or, ev_Not, ev_If, ev_chain, ev_nil, ev_cons, ev_tup, ev_lst, ev_idx2, idxA_l, idxA_t, idxA_s, idxA_a, idxA_e0, idxA_e1, ev_call, ev_ap, ev_cut, ev_part0, ev_part1, ev_str, ev_tgt, ev_iLst, ev_iTup, ev_iStr, ev_iRng, ev_nop, ev_seq, ev_st, ev_set, ev_new, ev_sTgt, ev_par, ev_sIf, ev_ret, ev_do, ev_raise, ev_for, ev_app, ev_iOwn, ev_enum, ev_oidx, ev_put, ev_yes, lt_len0, lt_lenS, asg_nm, asg_tp, opt_bind_some, len_two, len_one, len_zero, List.getElem?_cons_zero, List.getElem?_cons_succ, List.set_cons_zero, List.set_cons_succ, ↓reduceIte, Bool.false_eq_true, Bool.not_true, Bool.not_false, sl, ro, idx_t0, idx_t1, i1, oLen_t, ne_i, h]
theorem votes_notN {a b m : D} (h : f_is_whole [a, .int 2, .int 5] m = .ok (.bl false) m) : f_is_votes [.tup [a, b]] m = .ok (.bl false) m := by
  have hs : start 4 [.tup [a, b]] = [some (.v (.tup [a, b])), none, none, none] := Eq.trans rfl rfl
  have i1 : oIsi "tuple" (.tup [a, b]) = some (.bl true) := by rw [oIsi_ _ _ "tuple" rfl]; rfl
  have e2 : ((([a, b] : List D).length : Int) == 2) = true := rfl
  unfold f_is_votes
  rw [fn_ev (show [D.tup [a, b]].length = 1 from rfl), hs, c_is_votes.eq_1]
  simp only [ev_bd, ev_pu, ev_some, ev_var, ev_K, ev_c1, ev_c2, ev_tB, ev_tAnd, ev_tOr, ev_tNot, ev_And, ev_Or, ev_Not, ev_If, ev_chain, ev_nil, ev_cons, ev_tup, ev_lst, ev_idx2, idxA_l, idxA_t, idxA_s, idxA_a, idxA_e0, idxA_e1, ev_call, ev_ap, ev_cut, ev_part0, ev_part1, ev_str, ev_tgt, ev_iLst, ev_iTup, ev_iStr, ev_iRng, ev_nop, ev_seq, ev_st, ev_set, ev_new, ev_sTgt, ev_par, ev_sIf, ev_ret, ev_do, ev_raise, ev_for, ev_app, ev_iOwn, ev_enum, ev_oidx, ev_put, ev_yes, lt_len0, lt_lenS, asg_nm, asg_tp, opt_bind_some, len_two, len_one, len_zero, List.getElem?_cons_zero, List.getElem?_cons_succ, List.set_cons_zero, List.set_cons_succ, ↓reduceIte, Bool.false_eq_true, Bool.not_true, Bool.not_false, sl, ro, idx_t0, idx_t1, i1, oLen_t, ne_i, e2, h]
theorem whole_n {n : Nat} (h2 : 2 ≤ n) (h5 : n ≤ 5) (m : D) : f_is_whole [.int n, .int 2, .int 5] m = .ok (.bl true) m := by
  rw [whole_run, decide_eq_true (by omega), decide_eq_true (by omega)]
  rfl
theorem votes_notP {n : Nat} (h2 : 2 ≤ n) (h5 : n ≤ 5) {b m : D} (h : oIsi "tuple" b = some (.bl false)) : f_is_votes [.tup [.int n, b]] m = .ok (.bl false) m := by
  have hs : start 4 [.tup [.int n, b]] = [some (.v (.tup [.int n, b])), none, none, none] := Eq.trans rfl rfl
  have i1 : oIsi "tuple" (.tup [.int n, b]) = some (.bl true) := by rw [oIsi_ _ _ "tuple" rfl]; rfl
  have e2 : ((([.int n, b] : List D).length : Int) == 2) = true := rfl
  unfold f_is_votes
  rw [fn_ev (show [D.tup [.int n, b]].length = 1 from rfl), hs, c_is_votes.eq_1]
  simp only [ev_bd, ev_pu, ev_some, ev_var, ev_K, ev_c1, ev_c2, ev_tB, ev_tAnd, ev_tOr, ev_tNot, ev_And, ev_Or, ev_Not, ev_If, ev_chain, ev_nil, ev_cons, ev_tup, ev_lst, ev_idx2, idxA_l, idxA_t, idxA_s, idxA_a, idxA_e0, idxA_e1, ev_call, ev_ap, ev_cut, ev_part0, ev_part1, ev_str, ev_tgt, ev_iLst, ev_iTup, ev_iStr, ev_iRng, ev_nop, ev_seq, ev_st, ev_set, ev_new, ev_sTgt, ev_par, ev_sIf, ev_ret, ev_do, ev_raise, ev_for, ev_app, ev_iOwn, ev_enum, ev_oidx, ev_put, ev_yes, lt_len0, lt_lenS, asg_nm, asg_tp, opt_bind_some, len_two, len_one, len_zero, List.getElem?_cons_zero, List.getElem?_cons_succ, List.set_cons_zero, List.set_cons_succ, ↓reduceIte, Bool.false_eq_true, Bool.not_true, Bool.not_false, sl, ro, idx_t0, idx_t1, i1, oLen_t, ne_i, e2, whole_n h2 h5, h]
def pairsE : M D := cLc [1] (iTup (cIdx (cVar 0) (cK (.int 1)))) (.nm 1) tYes (cCall f_is_pair (aCons (cVar 1) (aCons (cCut (cK (.str [97, 98, 99, 100, 101])) none (some (cIdx (cVar 0) (cK (.int 0))))) aNil)))
def namesE : M D := cLc [2, 3] (iTup (cIdx (cVar 0) (cK (.int 1)))) (.tp (.nm 2) (.nm 3)) tYes (cVar 2)
theorem is_votes_eq : c_is_votes = (sSeq (sIf (tOr (tNot (tB (c1 (oIsi "tuple") (cVar 0)))) (tOr (tB (c2 oNe (c1 oLen (cVar 0)) (cK (.int 2)))) (tNot (tB (cCall f_is_whole (aCons (cIdx (cVar 0) (cK (.int 0))) (aCons (cK (.int 2)) (aCons (cK (.int 5)) aNil)))))))) (sRet (cK (.bl false))) sNop)
  (sSeq (sIf (tOr (tNot (tB (c1 (oIsi "tuple") (cIdx (cVar 0) (cK (.int 1)))))) (tB (c2 oGt (c1 oLen (cIdx (cVar 0) (cK (.int 1)))) (cK (.int 8))))) (sRet (cK (.bl false))) sNop)
  (sSeq (sIf (tNot (tB (c1 oAll pairsE))) (sRet (cK (.bl false))) sNop)
  (sRet (c2 oEq (c1 oLenSet namesE) (c1 oLen (cIdx (cVar 0) (cK (.int 1))))))))) := rfl
theorem pairsE_run {n : Nat} (h5 : n ≤ 5) {es : List D} (g : D → Bool) {m : D} (hp : ∀ e ∈ es, f_is_pair [e, .str (LET.take n)] m = .ok (.bl (g e)) m) :
    pairsE [some (.v (.tup [.int n, .tup es])), none, none, none] m = .ok (.lst ((es.map g).map .bl)) [some (.v (.tup [.int n, .tup es])), none, none, none] m := by
  have := lc_run (vs := [1]) (it := iTup (cIdx (cVar 0) (cK (.int 1)))) (tg := .nm 1) (t := tYes) (e := cCall f_is_pair (aCons (cVar 1) (aCons (cCut (cK (.str [97, 98, 99, 100, 101])) none (some (cIdx (cVar 0) (cK (.int 0))))) aNil))) (r := [some (.v (.tup [.int n, .tup es])), none, none, none]) (m := m) (ds := es) (fun _ => true) (fun e => .bl (g e)) (by simp only [ev_bd, ev_pu, ev_some, ev_var, ev_K, ev_c1, ev_c2, ev_tB, ev_tAnd, ev_tOr, ev_tNot, ev_And, ev_Or, ev_Not, ev_If, ev_chain, ev_nil, ev_cons, ev_tup, ev_lst, ev_idx2, idxA_l, idxA_t, idxA_s, idxA_a, idxA_e0, idxA_e1, ev_call, ev_ap, ev_cut, ev_part0, ev_part1, ev_str, ev_tgt, ev_iLst, ev_iTup, ev_iStr, ev_iRng, ev_nop, ev_seq, ev_st, ev_set, ev_new, ev_sTgt, ev_par, ev_sIf, ev_ret, ev_do, ev_raise, ev_for, ev_app, ev_iOwn, ev_enum, ev_oidx, ev_put, ev_yes, lt_len0, lt_lenS, asg_nm, asg_tp, opt_bind_some, len_two, len_one, len_zero, List.getElem?_cons_zero, List.getElem?_cons_succ, List.set_cons_zero, List.set_cons_succ, ↓reduceIte, Bool.false_eq_true, Bool.not_true, Bool.not_false, sl, ro, idx_t0, idx_t1]) (by
    intro d hd
    refine ⟨[some (.v (.tup [.int n, .tup es])), some (.v (d)), none, none], rfl, rfl, rfl, fun _ => ?_⟩
    have h := hp d hd
    simp only [ev_bd, ev_pu, ev_some, ev_var, ev_K, ev_c1, ev_c2, ev_tB, ev_tAnd, ev_tOr, ev_tNot, ev_And, ev_Or, ev_Not, ev_If, ev_chain, ev_nil, ev_cons, ev_tup, ev_lst, ev_idx2, idxA_l, idxA_t, idxA_s, idxA_a, idxA_e0, idxA_e1, ev_call, ev_ap, ev_cut, ev_part0, ev_part1, ev_str, ev_tgt, ev_iLst, ev_iTup, ev_iStr, ev_iRng, ev_nop, ev_seq, ev_st, ev_set, ev_new, ev_sTgt, ev_par, ev_sIf, ev_ret, ev_do, ev_raise, ev_for, ev_app, ev_iOwn, ev_enum, ev_oidx, ev_put, ev_yes, lt_len0, lt_lenS, asg_nm, asg_tp, opt_bind_some, len_two, len_one, len_zero, List.getElem?_cons_zero, List.getElem?_cons_succ, List.set_cons_zero, List.set_cons_succ, ↓reduceIte, Bool.false_eq_true, Bool.not_true, Bool.not_false, sl, ro, idx_t0, idx_t1, cut_let n h5, h])
  unfold pairsE
  rw [this, List.filter_eq_self.mpr fun _ _ => rfl, List.map_map]
  rfl
theorem votes_bad {n : Nat} (h2 : 2 ≤ n) (h5 : n ≤ 5) {es : List D} (g : D → Bool) (hl : es.length ≤ 8) {m : D} (hp : ∀ e ∈ es, f_is_pair [e, .str (LET.take n)] m = .ok (.bl (g e)) m) (hb : es.all g = false) : f_is_votes [.tup [.int n, .tup es]] m = .ok (.bl false) m := by
  have hs : start 4 [.tup [.int n, .tup es]] = [some (.v (.tup [.int n, .tup es])), none, none, none] := Eq.trans rfl rfl
  have i1 : oIsi "tuple" (.tup [.int n, .tup es]) = some (.bl true) := by rw [oIsi_ _ _ "tuple" rfl]; rfl
  have i2 : oIsi "tuple" (.tup es) = some (.bl true) := by rw [oIsi_ _ _ "tuple" rfl]; rfl
  have e2 : ((([.int n, .tup es] : List D).length : Int) == 2) = true := rfl
  have g8 : decide ((8 : Int) < (es.length : Int)) = false := decide_eq_false (by omega)
  have hall := all_bls (es.map g)
  rw [List.all_map, Function.id_comp, hb] at hall
  unfold f_is_votes
  rw [fn_ev (show [D.tup [.int n, .tup es]].length = 1 from rfl), hs, is_votes_eq]
  simp only [ev_bd, ev_pu, ev_some, ev_var, ev_K, ev_c1, ev_c2, ev_tB, ev_tAnd, ev_tOr, ev_tNot, ev_And, ev_Or, ev_Not, ev_If, ev_chain, ev_nil, ev_cons, ev_tup, ev_lst, ev_idx2, idxA_l, idxA_t, idxA_s, idxA_a, idxA_e0, idxA_e1, ev_call, ev_ap, ev_cut, ev_part0, ev_part1, ev_str, ev_tgt, ev_iLst, ev_iTup, ev_iStr, ev_iRng, ev_nop, ev_seq, ev_st, ev_set, ev_new, ev_sTgt, ev_par, ev_sIf, ev_ret, ev_do, ev_raise, ev_for, ev_app, ev_iOwn, ev_enum, ev_oidx, ev_put, ev_yes, lt_len0, lt_lenS, asg_nm, asg_tp, opt_bind_some, len_two, len_one, len_zero, List.getElem?_cons_zero, List.getElem?_cons_succ, List.set_cons_zero, List.set_cons_succ, ↓reduceIte, Bool.false_eq_true, Bool.not_true, Bool.not_false, sl, ro, idx_t0, idx_t1, i1, oLen_t, ne_i, e2, whole_n h2 h5, i2, gt_i, g8, pairsE_run h5 g hp, hall]
def okP (n : Nat) (q : List Nat × Nat) : Bool := al q.1 (LET.take n) && (decide ((1 : Int) ≤ q.2) && decide ((q.2 : Int) ≤ 20))
def okV (n : Nat) (qs : List (List Nat × Nat)) : Bool := (qs.all (okP n)) && decide (nms qs).Nodup
theorem namesE_run {n : Nat} {qs : List (List Nat × Nat)} {m : D} : namesE [some (.v (encV n qs)), none, none, none] m = .ok (.lst ((nms qs).map .str)) [some (.v (encV n qs)), none, none, none] m := by
  have := lc_run (vs := [2, 3]) (it := iTup (cIdx (cVar 0) (cK (.int 1)))) (tg := .tp (.nm 2) (.nm 3)) (t := tYes) (e := cVar 2) (r := [some (.v (encV n qs)), none, none, none]) (m := m) (ds := qs.map encP) (fun _ => true) fstD (by simp only [ev_bd, ev_pu, ev_some, ev_var, ev_K, ev_c1, ev_c2, ev_tB, ev_tAnd, ev_tOr, ev_tNot, ev_And, ev_Or, ev_Not, ev_If, ev_chain, ev_nil, ev_cons, ev_tup, ev_lst, ev_idx2, idxA_l, idxA_t, idxA_s, idxA_a, idxA_e0, idxA_e1, ev_call, ev_ap, ev_cut, ev_part0, ev_part1, ev_str, ev_tgt, ev_iLst, ev_iTup, ev_iStr, ev_iRng, ev_nop, ev_seq, ev_st, ev_set, ev_new, ev_sTgt, ev_par, ev_sIf, ev_ret, ev_do, ev_raise, ev_for, ev_app, ev_iOwn, ev_enum, ev_oidx, ev_put, ev_yes, lt_len0, lt_lenS, asg_nm, asg_tp, opt_bind_some, len_two, len_one, len_zero, List.getElem?_cons_zero, List.getElem?_cons_succ, List.set_cons_zero, List.set_cons_succ, ↓reduceIte, Bool.false_eq_true, Bool.not_true, Bool.not_false, sl, ro]) (by
    intro d hd
    obtain ⟨q, hq, rfl⟩ := List.mem_map.mp hd
    refine ⟨[some (.v (encV n qs)), none, some (.v (.str q.1)), some (.v (.int q.2))], rfl, rfl, rfl, fun _ => ?_⟩
    simp only [ev_bd, ev_pu, ev_some, ev_var, ev_K, ev_c1, ev_c2, ev_tB, ev_tAnd, ev_tOr, ev_tNot, ev_And, ev_Or, ev_Not, ev_If, ev_chain, ev_nil, ev_cons, ev_tup, ev_lst, ev_idx2, idxA_l, idxA_t, idxA_s, idxA_a, idxA_e0, idxA_e1, ev_call, ev_ap, ev_cut, ev_part0, ev_part1, ev_str, ev_tgt, ev_iLst, ev_iTup, ev_iStr, ev_iRng, ev_nop, ev_seq, ev_st, ev_set, ev_new, ev_sTgt, ev_par, ev_sIf, ev_ret, ev_do, ev_raise, ev_for, ev_app, ev_iOwn, ev_enum, ev_oidx, ev_put, ev_yes, lt_len0, lt_lenS, asg_nm, asg_tp, opt_bind_some, len_two, len_one, len_zero, List.getElem?_cons_zero, List.getElem?_cons_succ, List.set_cons_zero, List.set_cons_succ, ↓reduceIte, Bool.false_eq_true, Bool.not_true, Bool.not_false, sl, ro]
    rfl)
  unfold namesE
  rw [this, List.filter_eq_self.mpr fun _ _ => rfl, fst_enc]
  unfold nms
  rw [List.map_map]
  rfl
def gP (n : Nat) : D → Bool
  | .tup [.str b, .int t] => al b (LET.take n) && (decide ((1 : Int) ≤ t) && decide (t ≤ 20))
  | _ => false
theorem gP_enc (n : Nat) (q : List Nat × Nat) : gP n (encP q) = okP n q := rfl
theorem votesG_run {n : Nat} (h2 : 2 ≤ n) (h5 : n ≤ 5) {qs : List (List Nat × Nat)} (hl : qs.length ≤ 8) (hq : ∀ q ∈ qs, q.1.length ≤ 1000) (m : D) : f_is_votes [encV n qs] m = .ok (.bl (okV n qs)) m := by
  have hp : ∀ e ∈ qs.map encP, f_is_pair [e, .str (LET.take n)] m = .ok (.bl (gP n e)) m := fun e he => by
    obtain ⟨q, h1, rfl⟩ := List.mem_map.mp he
    exact pair_run q.1 (LET.take n) q.2 (hq q h1) m
  have hg : (qs.map encP).all (gP n) = qs.all (okP n) := by rw [List.all_map]; rfl
  unfold okV
  cases ha : qs.all (okP n) with
  | false => exact votes_bad h2 h5 (gP n) (by rw [List.length_map]; exact hl) hp (hg.trans ha)
  | true =>
    have hs : start 4 [encV n qs] = [some (.v (encV n qs)), none, none, none] := Eq.trans rfl rfl
    have i1 : oIsi "tuple" (encV n qs) = some (.bl true) := by rw [oIsi_ _ _ "tuple" rfl]; rfl
    have i2 : oIsi "tuple" (.tup (qs.map encP)) = some (.bl true) := by rw [oIsi_ _ _ "tuple" rfl]; rfl
    have l1 : oLen (encV n qs) = some (.int 2) := Eq.trans rfl rfl
    have e2 : ((2 : Int) == 2) = true := rfl
    have g8 : decide ((8 : Int) < ((qs.map encP).length : Int)) = false := decide_eq_false (by rw [List.length_map]; omega)
    have hall := all_bls ((qs.map encP).map (gP n))
    rw [List.all_map, Function.id_comp, hg, ha] at hall
    have hpr := pairsE_run h5 (gP n) hp
    have hset : oLenSet (.lst ((nms qs).map .str)) = some (.int (dd (nms qs)).length) := lenSet_strs _ (by unfold nms; rw [List.length_map]; omega)
    have hdd : (((dd (nms qs)).length : Int) == ((qs.map encP).length : Int)) = decide (nms qs).Nodup := by
      have hl2 : (qs.map encP).length = (nms qs).length := by unfold nms; rw [List.length_map, List.length_map]
      rw [Bool.eq_iff_iff, beq_iff_eq, decide_eq_true_iff, ← dd_len (nms qs), hl2]
      omega
    unfold f_is_votes
    rw [fn_ev (show [encV n qs].length = 1 from rfl), hs, is_votes_eq]
    have ev : D.tup [.int n, .tup (qs.map encP)] = encV n qs := rfl
    rw [ev] at hpr
    simp only [ev_bd, ev_pu, ev_some, ev_var, ev_K, ev_c1, ev_c2, ev_tB, ev_tAnd, ev_tOr, ev_tNot, ev_And, ev_Or, ev_Not, ev_If, ev_chain, ev_nil, ev_cons, ev_tup, ev_lst, ev_idx2, idxA_l, idxA_t, idxA_s, idxA_a, idxA_e0, idxA_e1, ev_call, ev_ap, ev_cut, ev_part0, ev_part1, ev_str, ev_tgt, ev_iLst, ev_iTup, ev_iStr, ev_iRng, ev_nop, ev_seq, ev_st, ev_set, ev_new, ev_sTgt, ev_par, ev_sIf, ev_ret, ev_do, ev_raise, ev_for, ev_app, ev_iOwn, ev_enum, ev_oidx, ev_put, ev_yes, lt_len0, lt_lenS, asg_nm, asg_tp, opt_bind_some, len_two, len_one, len_zero, List.getElem?_cons_zero, List.getElem?_cons_succ, List.set_cons_zero, List.set_cons_succ, ↓reduceIte, Bool.false_eq_true, Bool.not_true, Bool.not_false, sl, ro, idx_t0, idx_t1, i1, l1, ne_i, e2, whole_n h2 h5, i2, oLen_t, gt_i, g8, hpr, hall, namesE_run, hset, eq_i, hdd, Bool.true_and]
/-! ### pairs that are none -/
theorem pair_notT {d z m : D} (h : oIsi "tuple" d = some (.bl false)) : f_is_pair [d, z] m = .ok (.bl false) m := by
  have hs : start 2 [d, z] = [some (.v (d)), some (.v (z))] := Eq.trans rfl rfl
  unfold f_is_pair
  rw [fn_ev (show [d, z].length = 2 from rfl), hs, c_is_pair.eq_1]
  simp only [ev_bd, ev_pu, ev_some, ev_var, ev_K, ev_c1, ev_c2, ev_tB, ev_tAnd, ev_tOr, ev_tNot, ev_And, ev_Or, ev_Not, ev_If, ev_chain, ev_nil, ev_cons, ev_tup, ev_lst, ev_idx2, idxA_l, idxA_t, idxA_s, idxA_a, idxA_e0, idxA_e1, ev_call, ev_ap, ev_cut, ev_part0, ev_part1, ev_str, ev_tgt, ev_iLst, ev_iTup, ev_iStr, ev_iRng, ev_nop, ev_seq, ev_st, ev_set, ev_new, ev_sTgt, ev_par, ev_sIf, ev_ret, ev_do, ev_raise, ev_for, ev_app, ev_iOwn, ev_enum, ev_oidx, ev_put, ev_yes, lt_len0, lt_lenS, asg_nm, asg_tp, opt_bind_some, len_two, len_one, len_zero, List.getElem?_cons_zero, List.getElem?_cons_succ, List.set_cons_zero, List.set_cons_succ, ↓reduceIte, Bool.false_eq_true, Bool.not_true, Bool.not_false, sl, ro, h]
theorem pair_notL {ds : List D} {z m : D} (h : ((ds.length : Int) == 2) = false) : f_is_pair [.tup ds, z] m = .ok (.bl false) m := by
  have hs : start 2 [.tup ds, z] = [some (.v (.tup ds)), some (.v (z))] := Eq.trans rfl rfl
  have i1 : oIsi "tuple" (.tup ds) = some (.bl true) := by rw [oIsi_ _ _ "tuple" rfl]; rfl
  unfold f_is_pair
  rw [fn_ev (show [D.tup ds, z].length = 2 from rfl), hs, c_is_pair.eq_1]
  simp only [ev_bd, ev_pu, ev_some, ev_var, ev_K, ev_c1, ev_c2, ev_tB, ev_tAnd, ev_tOr, ev_tNot, ev_And, ev_Or, ev_Not, ev_If, ev_chain, ev_nil, ev_cons, ev_tup, ev_lst, ev_idx2, idxA_l, idxA_t, idxA_s, idxA_a, idxA_e0, idxA_e1, ev_call, ev_ap, ev_cut, ev_part0, ev_part1, ev_str, ev_tgt, ev_iLst, ev_iTup, ev_iStr, ev_iRng, ev_nop, ev_seq, ev_st, ev_set, ev_new, ev_sTgt, ev_par, ev_sIf, ev_ret, ev_do, ev_raise, ev_for, ev_app, ev_iOwn, ev_enum, ev_oidx, ev_put, ev_yes, lt_len0, lt_lenS, asg_nm, asg_tp, opt_bind_some, len_two, len_one, len_zero, List.getElem?_cons_zero, List.getElem?_cons_succ, List.set_cons_zero, List.set_cons_succ, ↓reduceIte, Bool.false_eq_true, Bool.not_true, Bool.not_false, sl, ro, idx_t0, idx_t1, i1, oLen_t, eq_i, h]
theorem whole_bl (b : Bool) (lo hi : Int) (m : D) : f_is_whole [.bl b, .int lo, .int hi] m = .ok (.bl false) m := by
  have hs : start 3 [.bl b, .int lo, .int hi] = [some (.v (.bl b)), some (.v (.int lo)), some (.v (.int hi))] := Eq.trans rfl rfl
  have i1 : oIsi "int" (.bl b) = some (.bl true) := by rw [oIsi_ _ _ "bool" rfl]; rfl
  have i2 : oIsi "bool" (.bl b) = some (.bl true) := by rw [oIsi_ _ _ "bool" rfl]; rfl
  unfold f_is_whole
  rw [fn_ev (show [D.bl b, .int lo, .int hi].length = 3 from rfl), hs, c_is_whole.eq_1]
  simp only [ev_bd, ev_pu, ev_some, ev_var, ev_K, ev_c1, ev_c2, ev_tB, ev_tAnd, ev_tOr, ev_tNot, ev_And, ev_Or, ev_Not, ev_If, ev_chain, ev_nil, ev_cons, ev_tup, ev_lst, ev_idx2, idxA_l, idxA_t, idxA_s, idxA_a, idxA_e0, idxA_e1, ev_call, ev_ap, ev_cut, ev_part0, ev_part1, ev_str, ev_tgt, ev_iLst, ev_iTup, ev_iStr, ev_iRng, ev_nop, ev_seq, ev_st, ev_set, ev_new, ev_sTgt, ev_par, ev_sIf, ev_ret, ev_do, ev_raise, ev_for, ev_app, ev_iOwn, ev_enum, ev_oidx, ev_put, ev_yes, lt_len0, lt_lenS, asg_nm, asg_tp, opt_bind_some, len_two, len_one, len_zero, List.getElem?_cons_zero, List.getElem?_cons_succ, List.set_cons_zero, List.set_cons_succ, ↓reduceIte, Bool.false_eq_true, Bool.not_true, Bool.not_false, sl, ro, idx_t0, idx_t1, i1, i2]
theorem whole_not {d : D} (h : oIsi "int" d = some (.bl false)) (lo hi : Int) (m : D) : f_is_whole [d, .int lo, .int hi] m = .ok (.bl false) m := by
  have hs : start 3 [d, .int lo, .int hi] = [some (.v (d)), some (.v (.int lo)), some (.v (.int hi))] := Eq.trans rfl rfl
  unfold f_is_whole
  rw [fn_ev (show [d, .int lo, .int hi].length = 3 from rfl), hs, c_is_whole.eq_1]
  simp only [ev_bd, ev_pu, ev_some, ev_var, ev_K, ev_c1, ev_c2, ev_tB, ev_tAnd, ev_tOr, ev_tNot, ev_And, ev_Or, ev_Not, ev_If, ev_chain, ev_nil, ev_cons, ev_tup, ev_lst, ev_idx2, idxA_l, idxA_t, idxA_s, idxA_a, idxA_e0, idxA_e1, ev_call, ev_ap, ev_cut, ev_part0, ev_part1, ev_str, ev_tgt, ev_iLst, ev_iTup, ev_iStr, ev_iRng, ev_nop, ev_seq, ev_st, ev_set, ev_new, ev_sTgt, ev_par, ev_sIf, ev_ret, ev_do, ev_raise, ev_for, ev_app, ev_iOwn, ev_enum, ev_oidx, ev_put, ev_yes, lt_len0, lt_lenS, asg_nm, asg_tp, opt_bind_some, len_two, len_one, len_zero, List.getElem?_cons_zero, List.getElem?_cons_succ, List.set_cons_zero, List.set_cons_succ, ↓reduceIte, Bool.false_eq_true, Bool.not_true, Bool.not_false, sl, ro, h]
theorem pair_bl (b z : List Nat) (t : Bool) (hb : b.length ≤ 1000) (m : D) : f_is_pair [.tup [.str b, .bl t], .str z] m = .ok (.bl false) m := by
  have hs : start 2 [.tup [.str b, .bl t], .str z] = [some (.v (.tup [.str b, .bl t])), some (.v (.str z))] := Eq.trans rfl rfl
  have i1 : oIsi "tuple" (.tup [.str b, .bl t]) = some (.bl true) := by rw [oIsi_ _ _ "tuple" rfl]; rfl
  have e2 : ((([.str b, .bl t] : List D).length : Int) == 2) = true := rfl
  unfold f_is_pair
  rw [fn_ev (show [D.tup [.str b, .bl t], D.str z].length = 2 from rfl), hs, c_is_pair.eq_1]
  cases ha : al b z with
  | false => simp only [ev_bd, ev_pu, ev_some, ev_var, ev_K, ev_c1, ev_c2, ev_tB, ev_tAnd, ev_tOr, ev_tNot, ev_And, ev_Or, ev_Not, ev_If, ev_chain, ev_nil, ev_cons, ev_tup, ev_lst, ev_idx2, idxA_l, idxA_t, idxA_s, idxA_a, idxA_e0, idxA_e1, ev_call, ev_ap, ev_cut, ev_part0, ev_part1, ev_str, ev_tgt, ev_iLst, ev_iTup, ev_iStr, ev_iRng, ev_nop, ev_seq, ev_st, ev_set, ev_new, ev_sTgt, ev_par, ev_sIf, ev_ret, ev_do, ev_raise, ev_for, ev_app, ev_iOwn, ev_enum, ev_oidx, ev_put, ev_yes, lt_len0, lt_lenS, asg_nm, asg_tp, opt_bind_some, len_two, len_one, len_zero, List.getElem?_cons_zero, List.getElem?_cons_succ, List.set_cons_zero, List.set_cons_succ, ↓reduceIte, Bool.false_eq_true, Bool.not_true, Bool.not_false, sl, ro, idx_t0, idx_t1, i1, oLen_t, eq_i, e2, letters_run b z hb, ha]
  | true => simp only [ev_bd, ev_pu, ev_some, ev_var, ev_K, ev_c1, ev_c2, ev_tB, ev_tAnd, ev_tOr, ev_tNot, ev_And, ev_Or, ev_Not, ev_If, ev_chain, ev_nil, ev_cons, ev_tup, ev_lst, ev_idx2, idxA_l, idxA_t, idxA_s, idxA_a, idxA_e0, idxA_e1, ev_call, ev_ap, ev_cut, ev_part0, ev_part1, ev_str, ev_tgt, ev_iLst, ev_iTup, ev_iStr, ev_iRng, ev_nop, ev_seq, ev_st, ev_set, ev_new, ev_sTgt, ev_par, ev_sIf, ev_ret, ev_do, ev_raise, ev_for, ev_app, ev_iOwn, ev_enum, ev_oidx, ev_put, ev_yes, lt_len0, lt_lenS, asg_nm, asg_tp, opt_bind_some, len_two, len_one, len_zero, List.getElem?_cons_zero, List.getElem?_cons_succ, List.set_cons_zero, List.set_cons_succ, ↓reduceIte, Bool.false_eq_true, Bool.not_true, Bool.not_false, sl, ro, idx_t0, idx_t1, i1, oLen_t, eq_i, e2, letters_run b z hb, ha, whole_bl]
end Pu

namespace Pu
/-! ### comprehensions that draw -/
theorem lcGo_draw {vs : List Nat} {tg : Tg} {e : M D} {w : Rho} (P : D → Prop) : ∀ (ds acc : List D) (r : Rho) (m : D), Dc m → wipe r vs = w →
    (∀ d ∈ ds, ∀ m, Dc m → ∃ r1 x m', asg tg d w = some r1 ∧ wipe r1 vs = w ∧ e r1 m = .ok x r1 m' ∧ P x ∧ Dc m') →
    ∃ xs r' m', lcGo vs tg tYes e ds acc r m = .ok (acc ++ xs) r' m' ∧ wipe r' vs = w ∧ xs.length = ds.length ∧ (∀ x ∈ xs, P x) ∧ Dc m'
  | [], acc, r, m, hm, hw, _ => ⟨[], r, m, by simp [lcGo, pu], hw, rfl, fun _ h => (by cases h), hm⟩
  | d :: ds, acc, r, m, hm, hw, h => by
    obtain ⟨r1, x, m1, h1, h2, h3, h4, h5⟩ := h d List.mem_cons_self m hm
    obtain ⟨xs, r', m', g1, g2, g3, g4, g5⟩ := lcGo_draw (e := e) P ds (acc ++ [x]) r1 m1 h5 h2 fun d hd => h d (List.mem_cons_of_mem _ hd)
    refine ⟨x :: xs, r', m', ?_, g2, by rw [List.length_cons, List.length_cons, g3], fun y hy => (List.mem_cons.mp hy).elim (fun z => z ▸ h4) (g4 y), g5⟩
    unfold lcGo tgt
    rw [hw, h1]
    dsimp only
    rw [ev_yes]
    dsimp only
    rw [h3]
    dsimp only
    rw [g1, List.append_assoc]
    rfl
theorem lc_draw {vs : List Nat} {it : M (List D)} {tg : Tg} {e : M D} {r : Rho} {m0 m : D} {ds : List D} (P : D → Prop) (hi : it r m0 = .ok ds r m) (hm : Dc m)
    (h : ∀ d ∈ ds, ∀ m, Dc m → ∃ r1 x m', asg tg d (wipe r vs) = some r1 ∧ wipe r1 vs = wipe r vs ∧ e r1 m = .ok x r1 m' ∧ P x ∧ Dc m') :
    ∃ xs m', cLc vs it tg tYes e [] r m0 = .ok (.lst xs) r m' ∧ xs.length = ds.length ∧ (∀ x ∈ xs, P x) ∧ Dc m' := by
  obtain ⟨xs, r', m', g1, g2, g3, g4, g5⟩ := lcGo_draw (e := e) P ds [] r m hm rfl h
  refine ⟨xs, m', ?_, g3, g4, g5⟩
  unfold cLc
  rw [ev_bd, hi]
  dsimp only
  rw [List.append_nil, g1]
  dsimp only
  rw [List.nil_append, back_wipe g2]
theorem signs_of : ∀ {xs : List D}, (∀ x ∈ xs, ∃ c, x = .str [c]) → ∃ b : List Nat, xs = sgn b
  | [], _ => ⟨[], rfl⟩
  | x :: xs, h => by
    obtain ⟨c, rfl⟩ := h x List.mem_cons_self
    obtain ⟨b, rfl⟩ := signs_of fun y hy => h y (List.mem_cons_of_mem _ hy)
    exact ⟨c :: b, rfl⟩
theorem join_sgn (b : List Nat) (h : b.length ≤ 1000) : oJoin (.str []) (.lst (sgn b)) = some (.str b) := by
  have e : sgn b = (b.map fun c => [c]).map .str := by unfold sgn; rw [List.map_map]; rfl
  show (strsD (sgn b)).bind _ = _
  rw [e, strs_map]
  show (if ((b.map fun c => [c]).map (·.length)).sum + (b.map fun c => [c]).length * ([] : List Nat).length ≤ LN then some (D.str (jn [] (b.map fun c => [c]))) else none) = _
  have hs : ((b.map fun c => [c]).map (·.length)).sum = b.length := by
    clear h e
    induction b with
    | nil => rfl
    | cons c b ih => rw [List.map_cons, List.map_cons, List.sum_cons, ih, List.length_cons, List.length_cons, List.length_nil]; omega
  have hj : (b.map fun c => [c]).flatten = b := by
    clear h e hs
    induction b with
    | nil => rfl
    | cons c b ih => rw [List.map_cons, List.flatten_cons, ih]; rfl
  rw [hs, jn_nil, hj, if_pos (by unfold LN; simp; omega)]
def textE : M D := (c2 oJoin (cStr (cK (.str []))) (cLc [9] (iRng (cCall f__law_roll (aCons (cVar 1) (aCons (cK (.int 5)) aNil)))) (.nm 9) tYes (cIdx (cK (.str [97, 98, 99, 100, 101, 102])) (cCall f__law_roll (aCons (cVar 1) (aCons (cK (.int 6)) aNil))))))
theorem six_idx {v : Int} (h0 : 0 ≤ v) (h6 : v < 6) : ∃ c, oIdx (.str [97, 98, 99, 100, 101, 102]) (.int v) = some (.str [c]) := by
  rcases (by omega : v = 0 ∨ v = 1 ∨ v = 2 ∨ v = 3 ∨ v = 4 ∨ v = 5) with rfl | rfl | rfl | rfl | rfl | rfl <;> exact ⟨_, rfl⟩
theorem textE_run (v s n : D) (x5 x6 x7 x8 x9 x10 x11 x12 : Option Sl) (m : D) (hm : Dc m) : ∃ b m', b.length ≤ 4 ∧ Dc m' ∧ textE [none, some (.v (.amb)), some (.v (v)), some (.v (n)), some (.v (s)), x5, x6, x7, x8, x9, x10, x11, x12] m = .ok (.str b) [none, some (.v (.amb)), some (.v (v)), some (.v (n)), some (.v (s)), x5, x6, x7, x8, x9, x10, x11, x12] m' := by
  obtain ⟨k, m1, k0, k5, hm1, hr⟩ := roll_run 5 (by decide) (by decide) m hm
  have hk : k.natAbs ≤ 16777216 := by omega
  have hit : iRng (cCall f__law_roll (aCons (cVar 1) (aCons (cK (.int 5)) aNil))) [none, some (.v (.amb)), some (.v (v)), some (.v (n)), some (.v (s)), x5, x6, x7, x8, x9, x10, x11, x12] m = .ok (rg 0 k.toNat) [none, some (.v (.amb)), some (.v (v)), some (.v (n)), some (.v (s)), x5, x6, x7, x8, x9, x10, x11, x12] m1 := by
    simp only [ev_bd, ev_pu, ev_some, ev_var, ev_K, ev_c1, ev_c2, ev_tB, ev_tAnd, ev_tOr, ev_tNot, ev_And, ev_Or, ev_Not, ev_If, ev_chain, ev_nil, ev_cons, ev_tup, ev_lst, ev_idx2, idxA_l, idxA_t, idxA_s, idxA_a, idxA_e0, idxA_e1, ev_call, ev_ap, ev_cut, ev_part0, ev_part1, ev_str, ev_tgt, ev_iLst, ev_iTup, ev_iStr, ev_iRng, ev_nop, ev_seq, ev_st, ev_set, ev_new, ev_sTgt, ev_par, ev_sIf, ev_ret, ev_do, ev_raise, ev_for, ev_app, ev_iOwn, ev_enum, ev_oidx, ev_put, ev_yes, lt_len0, lt_lenS, asg_nm, asg_tp, opt_bind_some, len_two, len_one, len_zero, List.getElem?_cons_zero, List.getElem?_cons_succ, List.set_cons_zero, List.set_cons_succ, ↓reduceIte, Bool.false_eq_true, Bool.not_true, Bool.not_false, sl, ro, hr, hk]
  obtain ⟨xs, m2, h1, h2, h3, h4⟩ := lc_draw (vs := [9]) (tg := .nm 9) (e := cIdx (cK (.str [97, 98, 99, 100, 101, 102])) (cCall f__law_roll (aCons (cVar 1) (aCons (cK (.int 6)) aNil)))) (fun x => ∃ c, x = .str [c]) hit hm1 (by
    intro d hd m hm
    obtain ⟨q, m', q0, q6, hm', hq⟩ := roll_run 6 (by decide) (by decide) m hm
    obtain ⟨c, hc⟩ := six_idx q0 q6
    refine ⟨[none, some (.v (.amb)), some (.v (v)), some (.v (n)), some (.v (s)), x5, x6, x7, x8, some (.v (d)), x10, x11, x12], .str [c], m', rfl, rfl, ?_, ⟨c, rfl⟩, hm'⟩
    simp only [ev_bd, ev_pu, ev_some, ev_var, ev_K, ev_c1, ev_c2, ev_tB, ev_tAnd, ev_tOr, ev_tNot, ev_And, ev_Or, ev_Not, ev_If, ev_chain, ev_nil, ev_cons, ev_tup, ev_lst, ev_idx2, idxA_l, idxA_t, idxA_s, idxA_a, idxA_e0, idxA_e1, ev_call, ev_ap, ev_cut, ev_part0, ev_part1, ev_str, ev_tgt, ev_iLst, ev_iTup, ev_iStr, ev_iRng, ev_nop, ev_seq, ev_st, ev_set, ev_new, ev_sTgt, ev_par, ev_sIf, ev_ret, ev_do, ev_raise, ev_for, ev_app, ev_iOwn, ev_enum, ev_oidx, ev_put, ev_yes, lt_len0, lt_lenS, asg_nm, asg_tp, opt_bind_some, len_two, len_one, len_zero, List.getElem?_cons_zero, List.getElem?_cons_succ, List.set_cons_zero, List.set_cons_succ, ↓reduceIte, Bool.false_eq_true, Bool.not_true, Bool.not_false, sl, ro, hq, hc])
  obtain ⟨b, rfl⟩ := signs_of h3
  have hb : b.length ≤ 4 := by
    rw [sgn_len] at h2
    rw [h2]
    unfold rg
    rw [List.length_map, List.length_range]
    omega
  refine ⟨b, m2, hb, h4, ?_⟩
  unfold textE
  simp only [ev_bd, ev_pu, ev_some, ev_var, ev_K, ev_c1, ev_c2, ev_tB, ev_tAnd, ev_tOr, ev_tNot, ev_And, ev_Or, ev_Not, ev_If, ev_chain, ev_nil, ev_cons, ev_tup, ev_lst, ev_idx2, idxA_l, idxA_t, idxA_s, idxA_a, idxA_e0, idxA_e1, ev_call, ev_ap, ev_cut, ev_part0, ev_part1, ev_str, ev_tgt, ev_iLst, ev_iTup, ev_iStr, ev_iRng, ev_nop, ev_seq, ev_st, ev_set, ev_new, ev_sTgt, ev_par, ev_sIf, ev_ret, ev_do, ev_raise, ev_for, ev_app, ev_iOwn, ev_enum, ev_oidx, ev_put, ev_yes, lt_len0, lt_lenS, asg_nm, asg_tp, opt_bind_some, len_two, len_one, len_zero, List.getElem?_cons_zero, List.getElem?_cons_succ, List.set_cons_zero, List.set_cons_succ, ↓reduceIte, Bool.false_eq_true, Bool.not_true, Bool.not_false, sl, ro, h1, join_sgn b (by omega)]
/-! ### ballots -/
theorem isb_run {n : Nat} {ps : List (List Nat × Nat)} (h : Vot n ps) {d m : D} {k : Bool} (hd : f_are_letters [d, .str (LET.take n)] m = .ok (.bl k) m) : f_is_ballot [encV n ps, d] m = .ok (.bl k) m := by
  have hs : start 2 [encV n ps, d] = [some (.v (encV n ps)), some (.v (d))] := Eq.trans rfl rfl
  have hc : f_candidates_of [encV n ps] m = .ok (.str (LET.take n)) m := cand_run n h.n5 _ m
  unfold f_is_ballot
  rw [fn_ev (show [encV n ps, d].length = 2 from rfl), hs, c_is_ballot.eq_1]
  simp only [ev_bd, ev_pu, ev_some, ev_var, ev_K, ev_c1, ev_c2, ev_tB, ev_tAnd, ev_tOr, ev_tNot, ev_And, ev_Or, ev_Not, ev_If, ev_chain, ev_nil, ev_cons, ev_tup, ev_lst, ev_idx2, idxA_l, idxA_t, idxA_s, idxA_a, idxA_e0, idxA_e1, ev_call, ev_ap, ev_cut, ev_part0, ev_part1, ev_str, ev_tgt, ev_iLst, ev_iTup, ev_iStr, ev_iRng, ev_nop, ev_seq, ev_st, ev_set, ev_new, ev_sTgt, ev_par, ev_sIf, ev_ret, ev_do, ev_raise, ev_for, ev_app, ev_iOwn, ev_enum, ev_oidx, ev_put, ev_yes, lt_len0, lt_lenS, asg_nm, asg_tp, opt_bind_some, len_two, len_one, len_zero, List.getElem?_cons_zero, List.getElem?_cons_succ, List.set_cons_zero, List.set_cons_succ, ↓reduceIte, Bool.false_eq_true, Bool.not_true, Bool.not_false, sl, ro, need_run h, hc, hd]
theorem notstr_run {d : D} (h : oIsi "str" d = some (.bl false)) (z m : D) : f_are_letters [d, z] m = .ok (.bl false) m := by
  have hs : start 3 [d, z] = [some (.v (d)), some (.v (z)), none] := Eq.trans rfl rfl
  unfold f_are_letters
  rw [fn_ev (show [d, z].length = 2 from rfl), hs, c_are_letters.eq_1]
  simp only [ev_bd, ev_pu, ev_some, ev_var, ev_K, ev_c1, ev_c2, ev_tB, ev_tAnd, ev_tOr, ev_tNot, ev_And, ev_Or, ev_Not, ev_If, ev_chain, ev_nil, ev_cons, ev_tup, ev_lst, ev_idx2, idxA_l, idxA_t, idxA_s, idxA_a, idxA_e0, idxA_e1, ev_call, ev_ap, ev_cut, ev_part0, ev_part1, ev_str, ev_tgt, ev_iLst, ev_iTup, ev_iStr, ev_iRng, ev_nop, ev_seq, ev_st, ev_set, ev_new, ev_sTgt, ev_par, ev_sIf, ev_ret, ev_do, ev_raise, ev_for, ev_app, ev_iOwn, ev_enum, ev_oidx, ev_put, ev_yes, lt_len0, lt_lenS, asg_nm, asg_tp, opt_bind_some, len_two, len_one, len_zero, List.getElem?_cons_zero, List.getElem?_cons_succ, List.set_cons_zero, List.set_cons_succ, ↓reduceIte, Bool.false_eq_true, Bool.not_true, Bool.not_false, sl, ro, h]
theorem lisb_run {n : Nat} (h5 : n ≤ 5) (b : List Nat) (hb : b.length ≤ 1000) (m : D) : f__law_is_ballot [.int n, .str b] m = .ok (.bl (al b (LET.take n))) m := by
  have hs : start 3 [.int n, .str b] = [some (.v (.int n)), some (.v (.str b)), none] := Eq.trans rfl rfl
  have hlc : cLc [2] (iStr (cVar 1)) (.nm 2) tYes (c2 (oInN false) (cVar 2) (cCut (cK (.str [97, 98, 99, 100, 101])) none (some (cVar 0)))) [] [some (.v (.int n)), some (.v (.str b)), none] m = .ok (.lst ((b.map fun c => decide (c ∈ LET.take n)).map .bl)) [some (.v (.int n)), some (.v (.str b)), none] m := by
    have := lc_run (vs := [2]) (it := iStr (cVar 1)) (tg := .nm 2) (t := tYes) (e := c2 (oInN false) (cVar 2) (cCut (cK (.str [97, 98, 99, 100, 101])) none (some (cVar 0)))) (r := [some (.v (.int n)), some (.v (.str b)), none]) (m := m) (ds := sgn b) (fun _ => true) (fun d => .bl (decide (sg1 d ∈ LET.take n))) (by simp only [ev_bd, ev_pu, ev_some, ev_var, ev_K, ev_c1, ev_c2, ev_tB, ev_tAnd, ev_tOr, ev_tNot, ev_And, ev_Or, ev_Not, ev_If, ev_chain, ev_nil, ev_cons, ev_tup, ev_lst, ev_idx2, idxA_l, idxA_t, idxA_s, idxA_a, idxA_e0, idxA_e1, ev_call, ev_ap, ev_cut, ev_part0, ev_part1, ev_str, ev_tgt, ev_iLst, ev_iTup, ev_iStr, ev_iRng, ev_nop, ev_seq, ev_st, ev_set, ev_new, ev_sTgt, ev_par, ev_sIf, ev_ret, ev_do, ev_raise, ev_for, ev_app, ev_iOwn, ev_enum, ev_oidx, ev_put, ev_yes, lt_len0, lt_lenS, asg_nm, asg_tp, opt_bind_some, len_two, len_one, len_zero, List.getElem?_cons_zero, List.getElem?_cons_succ, List.set_cons_zero, List.set_cons_succ, ↓reduceIte, Bool.false_eq_true, Bool.not_true, Bool.not_false, sl, ro]) (by
      intro d hd
      obtain ⟨x, hx, rfl⟩ := List.mem_map.mp hd
      refine ⟨[some (.v (.int n)), some (.v (.str b)), some (.v (.str [x]))], rfl, rfl, rfl, fun _ => ?_⟩
      simp only [ev_bd, ev_pu, ev_some, ev_var, ev_K, ev_c1, ev_c2, ev_tB, ev_tAnd, ev_tOr, ev_tNot, ev_And, ev_Or, ev_Not, ev_If, ev_chain, ev_nil, ev_cons, ev_tup, ev_lst, ev_idx2, idxA_l, idxA_t, idxA_s, idxA_a, idxA_e0, idxA_e1, ev_call, ev_ap, ev_cut, ev_part0, ev_part1, ev_str, ev_tgt, ev_iLst, ev_iTup, ev_iStr, ev_iRng, ev_nop, ev_seq, ev_st, ev_set, ev_new, ev_sTgt, ev_par, ev_sIf, ev_ret, ev_do, ev_raise, ev_for, ev_app, ev_iOwn, ev_enum, ev_oidx, ev_put, ev_yes, lt_len0, lt_lenS, asg_nm, asg_tp, opt_bind_some, len_two, len_one, len_zero, List.getElem?_cons_zero, List.getElem?_cons_succ, List.set_cons_zero, List.set_cons_succ, ↓reduceIte, Bool.false_eq_true, Bool.not_true, Bool.not_false, sl, ro, cut_let n h5, in_sign]
      rfl)
    rw [this, List.filter_eq_self.mpr fun _ _ => rfl]
    unfold sgn
    rw [List.map_map, List.map_map]
    rfl
  have hall := all_bls (b.map fun c => decide (c ∈ LET.take n))
  rw [List.all_map, Function.id_comp] at hall
  have hset : oLenSet (.str b) = some (.int (dd b).length) := if_pos hb
  have hdd : (((dd b).length : Int) == (b.length : Int)) = decide b.Nodup := by
    rw [Bool.eq_iff_iff, beq_iff_eq, decide_eq_true_iff, ← dd_len b]
    omega
  have hemp : (b == []) = b.isEmpty := by cases b <;> rfl
  unfold f__law_is_ballot al
  rw [fn_ev (show [D.int n, D.str b].length = 2 from rfl), hs, c__law_is_ballot.eq_1]
  cases he : b.isEmpty with
  | true => simp only [ev_bd, ev_pu, ev_some, ev_var, ev_K, ev_c1, ev_c2, ev_tB, ev_tAnd, ev_tOr, ev_tNot, ev_And, ev_Or, ev_Not, ev_If, ev_chain, ev_nil, ev_cons, ev_tup, ev_lst, ev_idx2, idxA_l, idxA_t, idxA_s, idxA_a, idxA_e0, idxA_e1, ev_call, ev_ap, ev_cut, ev_part0, ev_part1, ev_str, ev_tgt, ev_iLst, ev_iTup, ev_iStr, ev_iRng, ev_nop, ev_seq, ev_st, ev_set, ev_new, ev_sTgt, ev_par, ev_sIf, ev_ret, ev_do, ev_raise, ev_for, ev_app, ev_iOwn, ev_enum, ev_oidx, ev_put, ev_yes, lt_len0, lt_lenS, asg_nm, asg_tp, opt_bind_some, len_two, len_one, len_zero, List.getElem?_cons_zero, List.getElem?_cons_succ, List.set_cons_zero, List.set_cons_succ, ↓reduceIte, Bool.false_eq_true, Bool.not_true, Bool.not_false, sl, ro, ne_txt, hemp, he, Bool.false_and]
  | false =>
    cases hn : decide b.Nodup with
    | false => simp only [ev_bd, ev_pu, ev_some, ev_var, ev_K, ev_c1, ev_c2, ev_tB, ev_tAnd, ev_tOr, ev_tNot, ev_And, ev_Or, ev_Not, ev_If, ev_chain, ev_nil, ev_cons, ev_tup, ev_lst, ev_idx2, idxA_l, idxA_t, idxA_s, idxA_a, idxA_e0, idxA_e1, ev_call, ev_ap, ev_cut, ev_part0, ev_part1, ev_str, ev_tgt, ev_iLst, ev_iTup, ev_iStr, ev_iRng, ev_nop, ev_seq, ev_st, ev_set, ev_new, ev_sTgt, ev_par, ev_sIf, ev_ret, ev_do, ev_raise, ev_for, ev_app, ev_iOwn, ev_enum, ev_oidx, ev_put, ev_yes, lt_len0, lt_lenS, asg_nm, asg_tp, opt_bind_some, len_two, len_one, len_zero, List.getElem?_cons_zero, List.getElem?_cons_succ, List.set_cons_zero, List.set_cons_succ, ↓reduceIte, Bool.false_eq_true, Bool.not_true, Bool.not_false, sl, ro, ne_txt, hemp, he, hset, oLen_s, eq_i, hdd, hn, Bool.and_false]
    | true => simp only [ev_bd, ev_pu, ev_some, ev_var, ev_K, ev_c1, ev_c2, ev_tB, ev_tAnd, ev_tOr, ev_tNot, ev_And, ev_Or, ev_Not, ev_If, ev_chain, ev_nil, ev_cons, ev_tup, ev_lst, ev_idx2, idxA_l, idxA_t, idxA_s, idxA_a, idxA_e0, idxA_e1, ev_call, ev_ap, ev_cut, ev_part0, ev_part1, ev_str, ev_tgt, ev_iLst, ev_iTup, ev_iStr, ev_iRng, ev_nop, ev_seq, ev_st, ev_set, ev_new, ev_sTgt, ev_par, ev_sIf, ev_ret, ev_do, ev_raise, ev_for, ev_app, ev_iOwn, ev_enum, ev_oidx, ev_put, ev_yes, lt_len0, lt_lenS, asg_nm, asg_tp, opt_bind_some, len_two, len_one, len_zero, List.getElem?_cons_zero, List.getElem?_cons_succ, List.set_cons_zero, List.set_cons_succ, ↓reduceIte, Bool.false_eq_true, Bool.not_true, Bool.not_false, sl, ro, ne_txt, hemp, he, hset, oLen_s, eq_i, hdd, hn, hlc, hall, Bool.and_true, Bool.true_and]
theorem okV_vot {n : Nat} {ps : List (List Nat × Nat)} (h : Vot n ps) (b : List Nat) : okV n (ps ++ [(b, 1)]) = (al b (LET.take n) && !decide (b ∈ nms ps)) := by
  unfold okV
  have ha : ps.all (okP n) = true := by
    rw [List.all_eq_true]
    intro p hp
    obtain ⟨h1, h2, h3⟩ := h.bal p hp
    unfold okP
    rw [h1.al, decide_eq_true (by omega), decide_eq_true (by omega)]
    rfl
  have hb : okP n (b, 1) = al b (LET.take n) := by
    unfold okP
    dsimp only
    rw [decide_eq_true (by decide), decide_eq_true (by decide)]
    simp
  have hnm : nms (ps ++ [(b, 1)]) = nms ps ++ [b] := by unfold nms; rw [List.map_append]; rfl
  have hnd : decide (nms ps ++ [b]).Nodup = !decide (b ∈ nms ps) := by
    rw [Bool.eq_iff_iff, decide_eq_true_iff, Bool.not_eq_true', decide_eq_false_iff_not, List.nodup_append]
    constructor
    · intro ⟨_, _, h3⟩ hm
      exact h3 b hm b List.mem_cons_self rfl
    · intro hn
      refine ⟨h.nd, by simp, fun a ha c hc e => ?_⟩
      rw [List.mem_singleton] at hc
      subst hc e
      exact hn ha
  rw [List.all_append, ha, hnm, hnd, Bool.true_and, List.all_cons, List.all_nil, Bool.and_true, hb]
end Pu

namespace Pu
/-- x[a], x[p] = c, x a list of its own, a and p locals -/
def sSwap (i ja jp : Nat) (c : M D) : M Fl := bd c fun d => fun r m => match d, r[i]?, r[ja]?, r[jp]? with
  | .tup [x, y], some (some (.own (.lst ds))), some (some (.v (.int a))), some (some (.v (.int p))) => (match ixN ds.length a, ixN ds.length p with
    | some n, some k => .ok .nx (r.set i (some (.own (.lst ((ds.set n x).set k y))))) m
    | _, _ => .bad)
  | _, _, _, _ => .bad
end Pu
namespace Su
open PySem PySem.Spec PyProof.Rows L2
open Pu (D Sl Rho Rs M Ro Fn Fl Tg LN)
section
variable {X : Cx} {T : Tb} {E : XK} {k : Nat} {e : Expr} {pos p1 p2 p3 p4 p5 p6 p7 : Pos} {ca : M D} {x ka kp : Str} {kt : Nat}
theorem ss_swap (C : X.calm = true) (i ja jp : Nat) (h : SE X T E e ca) (hN : X.N[i]? = some x := by rfl) (hv : Vis X.env.scope x := by first | exact Or.inl rfl | exact Or.inr (Or.inl rfl) | exact Or.inr (Or.inr rfl)) (hd : (x == ("__debug__" : Str)) = false := by decide) (hcd : (x == ("__classdict__" : Str)) = false := by decide)
    (hNa : X.N[ja]? = some ka := by rfl) (hva : Vis X.env.scope ka := by first | exact Or.inl rfl | exact Or.inr (Or.inl rfl) | exact Or.inr (Or.inr rfl)) (hda : (ka == ("__debug__" : Str)) = false := by decide) (hcda : (ka == ("__classdict__" : Str)) = false := by decide)
    (hNp : X.N[jp]? = some kp := by rfl) (hvp : Vis X.env.scope kp := by first | exact Or.inl rfl | exact Or.inr (Or.inl rfl) | exact Or.inr (Or.inr rfl)) (hdp : (kp == ("__debug__" : Str)) = false := by decide) (hcdp : (kp == ("__classdict__" : Str)) = false := by decide)
    (ha : ∀ v, assign (.Subscript (.Name x p1) (.Name ka p2) p3) X.env v = (do
      let ov ← holding [v] (eval (.Name x p1) X.env)
      let iv ← holding [v, ov] (eval (.Name ka p2) X.env)
      standAt p3
      holding [v, ov, iv] (setItem ov iv v)
      release [v, ov, iv] []) := by intro _; rfl)
    (hb : ∀ v, assign (.Subscript (.Name x p4) (.Name kp p5) p6) X.env v = (do
      let ov ← holding [v] (eval (.Name x p4) X.env)
      let iv ← holding [v, ov] (eval (.Name kp p5) X.env)
      standAt p6
      holding [v, ov, iv] (setItem ov iv v)
      release [v, ov, iv] []) := by intro _; rfl)
    (hs : swapsWithSole [.Tuple [.Subscript (.Name x p1) (.Name ka p2) p3, .Subscript (.Name x p4) (.Name kp p5) p6] kt p7] e pos.line X.env = pure false := by rfl) (hw : swappedStores [.Tuple [.Subscript (.Name x p1) (.Name ka p2) p3, .Subscript (.Name x p4) (.Name kp p5) p6] kt p7] e X.env = pure none := by rfl)
    (h1 : (assignEach [.Tuple [.Subscript (.Name x p1) (.Name ka p2) p3, .Subscript (.Name x p4) (.Name kp p5) p6] kt p7] X.env).map (·.2) = [assign (.Tuple [.Subscript (.Name x p1) (.Name ka p2) p3, .Subscript (.Name x p4) (.Name kp p5) p6] kt p7) X.env] := by rfl)
    (hq1 : (assignEach [.Subscript (.Name x p1) (.Name ka p2) p3, .Subscript (.Name x p4) (.Name kp p5) p6] X.env).map (·.2) = assign (.Subscript (.Name x p1) (.Name ka p2) p3) X.env :: (assignEach [.Subscript (.Name x p4) (.Name kp p5) p6] X.env).map (·.2) := by rfl)
    (hq2 : (assignEach [.Subscript (.Name x p4) (.Name kp p5) p6] X.env).map (·.2) = assign (.Subscript (.Name x p4) (.Name kp p5) p6) X.env :: (assignEach [] X.env).map (·.2) := by rfl)
    (hn : (assignEach [.Subscript (.Name x p1) (.Name ka p2) p3, .Subscript (.Name x p4) (.Name kp p5) p6] X.env).length = 2 := by rfl) (hst : (assignEach [.Subscript (.Name x p1) (.Name ka p2) p3, .Subscript (.Name x p4) (.Name kp p5) p6] X.env).findIdx? (·.1) = none := by rfl) :
    SS X T E (.Assign [.Tuple [.Subscript (.Name x p1) (.Name ka p2) p3, .Subscript (.Name x p4) (.Name kp p5) p6] kt p7] e pos) (Pu.sSwap i ja jp ca) := by
  obtain ⟨t, h1', h2⟩ := h
  refine ⟨_, ps_asg h1' (pg_tup C (pgs_cons (pg_sub (pe_var hN hv hd hcd) (pe_var hNa hva hda hcda) set_list ha) (pgs_cons (pg_sub (pe_var hN hv hd hcd) (pe_var hNp hvp hdp hcdp) set_list hb) pgs_nil hq2) hq1) hn hst) hs hw h1, fun al r m s G H Z R hP => ?_⟩
  refine h2.thnS R hP fun d r1 m1 v G1 H1 S1 R1 d1 P1 => ?_
  split at P1
  · rename_i dx dy ds aa pp q1 q2 q3
    split at P1
    · rename_i n k hn1 hk1
      obtain ⟨av, vs, rfl, g1, _, dl1⟩ := d1.tup_of
      cases dl1 with
      | cons e1 dl1 =>
        cases dl1 with
        | cons e2 dl1 =>
          cases dl1
          obtain ⟨q, hq, og1, xs, ob1, hl, dl⟩ := R1.owns i _ q1
          obtain ⟨w1, b1, b2⟩ := R1.vals ja _ q2
          obtain ⟨w2, b3, b4⟩ := R1.vals jp _ q3
          refine ⟨av, _, rfl, SqT.of (R1.same _ _ g1), rfl, _, _, rfl, _, hq, _, b1, ?_⟩
          rw [b2.int_of]
          obtain ⟨R3, S3⟩ := R1.writeO (o := .lst (xs.set n _)) (d' := .lst (ds.set n dx)) q1 hq ⟨og1, _, upd_same, by rw [List.length_set]; exact hl, dl.set e1 n⟩
          refine ⟨q, xs, aa, n, rfl, rfl, ob1, by rw [dl.length]; exact hn1, _, _, rfl, _, hq, _, b3, ?_⟩
          rw [b4.int_of]
          have hi : i < r1.length := by
            rcases Nat.lt_or_ge i r1.length with h | h
            · exact h
            · rw [List.getElem?_eq_none h] at q1; cases q1
          have q1' : (r1.set i (some (.own (.lst (ds.set n dx)))))[i]? = some (some (.own (.lst (ds.set n dx)))) := by simp [hi]
          obtain ⟨q', hq', og2, xs2, ob2, hl2, dl2⟩ := R3.owns i _ q1'
          rw [hq] at hq'
          cases hq'
          obtain ⟨R4, S4⟩ := R3.writeO (o := .lst (xs2.set k _)) (d' := .lst ((ds.set n dx).set k dy)) q1' hq ⟨og2, _, upd_same, by rw [List.length_set]; exact hl2, dl2.set (e2.mono S3.mono) k⟩
          refine ⟨q, xs2, pp, k, rfl, rfl, ob2, by rw [dl2.length, List.length_set]; exact hk1, rfl, ?_⟩
          rw [List.set_set] at R4 S4
          exact P1 s G1 _ (S3.trans S4) R4
    · exact P1.elim
  · exact P1.elim
end
end Su

namespace Pu
/-- sorted of a text -/
def oSrtT : D → Option D
  | .str z => some (.lst ((srt (z.map fun c => [c])).map .str))
  | _ => none
end Pu
namespace Su
open PySem PySem.Spec PyProof.Rows L2
open Pu (D Sl Rho Rs M Ro Fn Fl Tg LN)
theorem strs_items {z : List Nat} {acc : Array Value} (h : ItemsOf (SignAt (mkS z)) acc (mkS z).cps.size) : StrsAre acc.toList ((z.map fun c => [c]).map mkS) := by
  have hx : (mkS z).cps.toList = z := mkS_cps _
  have key : ∀ (y : List Nat) (vs : List Value), vs.length = y.length → (∀ (j : Nat) v, vs[j]? = some v → ∃ c u, y[j]? = some c ∧ v = .str (mkS [c]) u) → StrsAre vs ((y.map fun c => [c]).map mkS) := by
    intro y
    induction y with
    | nil =>
      intro vs hl _
      cases vs with
      | nil => exact .nil
      | cons _ _ => simp at hl
    | cons c y ih =>
      intro vs hl hv
      cases vs with
      | nil => simp at hl
      | cons v vs =>
        obtain ⟨c', u, h1, h2⟩ := hv 0 v rfl
        have : c = c' := by simpa using h1
        subst this
        subst h2
        exact .cons _ _ (ih vs (by simpa using hl) fun j w hw => hv (j + 1) w (by simpa using hw))
  refine key z acc.toList ?_ fun j v hv => ?_
  · rw [Array.length_toList, h.1]; simp [mkS]
  · obtain ⟨c, u, h1, h2⟩ := h.2 j v (by rw [← Array.getElem?_toList]; exact hv)
    exact ⟨c, u, by rw [← hx, Array.getElem?_toList]; exact h1, h2⟩
section
variable {X : Cx} {T : Tb} {E : XK} {k : Nat} {a : Expr} {p pos : Pos} {ca : M D}
def rSortT : List V → Hp → VK → Prop := fun vs H Q => ∃ (z : List Nat), vs = [V.str (mkS z)] ∧ z.length ≤ sizeLine ∧
  ∀ (ys : List Str) (p : Addr), ys.Perm ((z.map fun c => [c]).map mkS) → sortedS ys = true → H p = none → Q (.ref p) (upd H p (.lst (ys.map V.str)))
theorem cr_sortT (hc : X.calm = true) : CallR X (.builtin "sorted") rSortT := by
  intro pins s σ H vs us Q I r h
  obtain ⟨z, rfl, hz, q⟩ := h
  obtain ⟨t, rfl⟩ : ∃ t, us = [.str (mkS z) t] := by
    cases r with
    | cons r rr =>
      cases rr
      obtain ⟨t, rfl⟩ := r
      exact ⟨t, rfl⟩
  have hh := I.ok.hd hc
  refine Calls.call_function_entry kind_sorted plain_sorted entry_sorted (args_sorted1 _) ?_
  unfold Builtin.«sorted»
  refine wpAny_bind (m := checkCount "sorted" 1 1 _) (wpAny_pure ?_)
  refine wpAny_bind (wpAny_collect_str (A := X.A.in1) hh (mkS z) t (fun s1 acc hk g1 g2 g3 hi => ?_) (by simpa [mkS] using hz))
  have hS := strs_items hi
  have hlen : acc.toList.length = z.length := by rw [Array.length_toList, hi.1]; simp [mkS]
  refine wpAny_bind (wpAny_newList ?_ (by rw [hlen]; exact hz))
  have I1 : Inv X pins σ H s1 := by
    obtain ⟨hp, g, d, tk, os⟩ := s1
    have e1 : g = s.gens := g1
    have e2 : d = s.drawn := g2
    have e3 : os = s.os := g3
    subst e1 e2 e3
    exact I.kept (t' := tk) hk
  have hoL : (s1.heap.push (seqObj "list" acc.toList.toArray 0)).get? s1.heap.objs.size = some (seqObj "list" acc.toList.toArray 0) := Heap.get?_push_size _ rfl
  show wpAny _ _ _ _ _ { s1 with heap := s1.heap.push (seqObj "list" acc.toList.toArray 0) }
  refine wpAny_bind (wpAny_holding (wpAny_call_entry slot_list_sort ⟨_, hoL, rfl⟩ entry_list_sort (list_sort_treeKAny strKind_oneLt hoL hS.keysOf (fun v₁ v₂ rest e => keyKind_strs (by rw [← e]; exact hS)) (by rw [hlen]; exact hz) fun st' hp hs => ⟨_, rfl, ?_⟩) (args_list_sort _)))
  obtain ⟨ys, h1, h2, h3⟩ := sorted_out_str hS hp hs
  refine wpAny_pure ⟨_, rfl, ?_⟩
  generalize (arrOf st').map (·.2) = out at h1
  have hlen2 : (ys.map V.str).length ≤ sizeLine := by
    rw [List.length_map, h2.length_eq, List.length_map, List.length_map]; exact hz
  obtain ⟨ep, he'⟩ := PyProof.Rows.sortedHeap_at (vs := acc.toList) (out := out) hoL
  have hold : ∀ b o, s1.heap.get? b = some o → (sortedHeap (s1.heap.push (seqObj "list" acc.toList.toArray 0)) s1.heap.objs.size acc.toList out).get? b = some o := fun b o e =>
    (PyProof.Rows.sortedHeap_old (Nat.ne_of_lt (Heap.lt_size e)) (Heap.lt_size (Heap.get?_push_of_some _ e))).trans (Heap.get?_push_of_some _ e)
  exact ⟨.ref _, upd H s1.heap.objs.size (.lst (ys.map V.str)), I1.laid (t' := s1.toks) hold (Nat.le_refl _) ⟨hlen2, out.toList, ep, vals_of_strs h1, he'⟩, rfl, q ys _ h2 h3 (I1.hok.fresh (Nat.le_refl _))⟩
theorem c1_sortT : C1 X T rSortT Pu.oSrtT := by
  intro al r m s G H v y d Q R dv e k
  cases y <;> simp only [Pu.oSrtT, reduceCtorEq, Option.some.injEq] at e
  rename_i z
  subst e
  obtain ⟨e1, k1⟩ := dv.str_of
  subst e1
  refine ⟨z, rfl, by rw [ln_eq]; exact k1.len, fun ys p hp hs hn => ?_⟩
  have e1 : ys = (ys.map fun y => y.cps.toList).map mkS := by
    rw [List.map_map]
    conv => lhs; rw [← List.map_id ys]
    exact List.map_congr_left fun y _ => (mkS_inv y).symm
  generalize ys.map (fun y => y.cps.toList) = ws at e1
  subst e1
  have hp2 : ws.Perm (z.map fun c => [c]) := by
    have := hp.map (fun y : Str => y.cps.toList)
    simpa [List.map_map, Function.comp_def, mkS_cps] using this
  have e2 := Pu.srt_only hp2 (sorted_pw ws hs)
  subst e2
  have hok : ∀ w ∈ Pu.srt (z.map fun c => [c]), TxOk w := fun w hw => by
    obtain ⟨c, hc, rfl⟩ := List.mem_map.mp ((Pu.srt_perm _).mem_iff.mp hw)
    exact ⟨by unfold LN; simp, fun x hx => by rw [List.mem_singleton.mp hx]; exact k1.cps c hc⟩
  exact fin_lst R k (dnl_strs hok) (by rw [List.length_map, (Pu.srt_perm _).length_eq, List.length_map]; exact k1.len) hn
theorem se_sortT (C : Cn k X E) (hm : X.mg "sorted" = none) (ha : SE X T E a ca) (hg : Gl X "sorted" := by rfl) (he : starEach (a :: []) X.env = (false, eval a X.env) :: starEach [] X.env := by rfl) (hpl : (backTo pos (starEach [] X.env)).any (·.1) = false := by rfl) : SE X T E (.Call (.Name "sorted" p) [a] [] pos) (Pu.c1 Pu.oSrtT ca) := se_cb1 (cr_sortT C.calm) c1_sortT hm (by decide +kernel) ha hg (by decide) (by decide) he hpl
/-- list(text), a list of its own -/
theorem so_listS (C : Cn k X E) (hm : X.mg "list" = none) (ha : SE X T E a ca) (hg : Gl X "list" := by rfl) (he : starEach (a :: []) X.env = (false, eval a X.env) :: starEach [] X.env := by rfl) (hpl : (backTo pos (starEach [] X.env)).any (·.1) = false := by rfl) :
    SO X T E (.Call (.Name "list" p) [a] [] pos) (Pu.c1 Pu.oListS ca) := by
  obtain ⟨t, h1, h2⟩ := ha
  refine ⟨_, pe_callTy (cr_listS C.calm) hg hm (by decide +kernel) (pa_cons h1 pa_nil he) (by decide) (by decide) he hpl, fun al r m s G H Q R hP => ?_⟩
  refine h2.thnN R hP fun y r1 m1 v G1 H1 S1 R1 d1 P1 => ?_
  obtain ⟨d, e, P2⟩ := P1.opt_
  cases y <;> simp only [Pu.oListS, reduceCtorEq, Option.ite_none_right_eq_some, Option.some.injEq] at e
  rename_i z
  obtain ⟨l, e⟩ := e
  subst e
  obtain ⟨e1, k1⟩ := d1.str_of
  subst e1
  refine ⟨_, rfl, by rw [ln_eq]; simpa [mkS] using l, fun p n => ?_⟩
  refine fin_new R1 P2 ?_ (by simpa [Pu.sgn] using l) n
  have aux : ∀ cs : List Nat, (∀ c ∈ cs, TxOk [c]) → DnL X.K al G1 (cs.map fun c => V.str (mkS [c])) (Pu.sgn cs) := by
    intro cs
    induction cs with
    | nil => intro _; exact .nil
    | cons c cs ih => intro h; exact .cons (.str [c] (h c List.mem_cons_self)) (ih fun c hc => h c (List.mem_cons_of_mem _ hc))
  have := aux z fun c hc => k1.one hc
  simpa [mkS] using this
end
end Su

namespace Pu
def c_need_ballot : M Fl := (sIf (tNot (tB (cCall f_are_letters (aCons (cVar 1) (aCons (cCut (cK (.str [97, 98, 99, 100, 101])) none (some (cVar 0))) aNil))))) (sRaise 2) sNop)
def f_need_ballot : Fn := fn 2 2 c_need_ballot
def c_need_times : M Fl := (sIf (tNot (tB (cCall f_is_whole (aCons (cVar 0) (aCons (cK (.int 1)) (aCons (cK (.int 20)) aNil)))))) (sRaise 3) sNop)
def f_need_times : Fn := fn 1 1 c_need_times
def c_added : M Fl := (sSeq (sDo (cCall f_need_votes (aCons (cVar 0) aNil)))
  (sSeq (sDo (cCall f_need_ballot (aCons (cIdx (cVar 0) (cK (.int 0))) (aCons (cVar 1) aNil))))
  (sSeq (sDo (cCall f_need_times (aCons (cVar 2) aNil)))
  (sRet (cTup (aCons (cIdx (cVar 0) (cK (.int 0))) (aCons (cCall f_with_more (aCons (cIdx (cVar 0) (cK (.int 1))) (aCons (cVar 1) (aCons (cVar 2) aNil)))) aNil)))))))
def f_added : Fn := fn 3 3 c_added
def c_renamed : M Fl := (sSeq (sDo (cCall f_need_votes (aCons (cVar 0) aNil)))
  (sSeq (sIf (tOr (tNot (tB (c1 (oIsi "str") (cVar 1)))) (tB (c2 oNe (c1 oSrtT (cVar 1)) (c1 oListS (cCall f_candidates_of (aCons (cVar 0) aNil)))))) (sRaise 4) sNop)
  (sSeq (sNew 2 (cLst aNil))
  (sSeq (sFor (iTup (cIdx (cVar 0) (cK (.int 1)))) (.tp (.nm 3) (.nm 4)) (sApp 2 (cTup (aCons (c2 oJoin (cStr (cK (.str []))) (cLc [5] (iStr (cVar 3)) (.nm 5) tYes (cIdx (cVar 1) (c2 oFind (cStr (cK (.str [97, 98, 99, 100, 101]))) (cVar 5))))) (aCons (cVar 4) aNil)))))
  (sRet (cTup (aCons (cIdx (cVar 0) (cK (.int 0))) (aCons (c1 oTuple (cVar 2)) aNil))))))))
def f_renamed : Fn := fn 2 6 c_renamed
end Pu

namespace Pu
/-! ### added -/
theorem needb_run {n : Nat} (h5 : n ≤ 5) {d m : D} (h : f_are_letters [d, .str (LET.take n)] m = .ok (.bl true) m) : f_need_ballot [.int n, d] m = .ok .non m := by
  have hs : start 2 [.int n, d] = [some (.v (.int n)), some (.v (d))] := Eq.trans rfl rfl
  unfold f_need_ballot
  rw [fn_ev (show [D.int n, d].length = 2 from rfl), hs, c_need_ballot.eq_1]
  simp only [ev_bd, ev_pu, ev_some, ev_var, ev_K, ev_c1, ev_c2, ev_tB, ev_tAnd, ev_tOr, ev_tNot, ev_And, ev_Or, ev_Not, ev_If, ev_chain, ev_nil, ev_cons, ev_tup, ev_lst, ev_idx2, idxA_l, idxA_t, idxA_s, idxA_a, idxA_e0, idxA_e1, ev_call, ev_ap, ev_cut, ev_part0, ev_part1, ev_str, ev_tgt, ev_iLst, ev_iTup, ev_iStr, ev_iRng, ev_nop, ev_seq, ev_st, ev_set, ev_new, ev_sTgt, ev_par, ev_sIf, ev_ret, ev_do, ev_raise, ev_for, ev_app, ev_iOwn, ev_enum, ev_oidx, ev_put, ev_yes, lt_len0, lt_lenS, asg_nm, asg_tp, opt_bind_some, len_two, len_one, len_zero, List.getElem?_cons_zero, List.getElem?_cons_succ, List.set_cons_zero, List.set_cons_succ, ↓reduceIte, Bool.false_eq_true, Bool.not_true, Bool.not_false, sl, ro, cut_let n h5, h]
theorem needb_not {n : Nat} (h5 : n ≤ 5) {d m : D} (h : f_are_letters [d, .str (LET.take n)] m = .ok (.bl false) m) : f_need_ballot [.int n, d] m = .exc 2 m := by
  have hs : start 2 [.int n, d] = [some (.v (.int n)), some (.v (d))] := Eq.trans rfl rfl
  unfold f_need_ballot
  rw [fn_ev (show [D.int n, d].length = 2 from rfl), hs, c_need_ballot.eq_1]
  simp only [ev_bd, ev_pu, ev_some, ev_var, ev_K, ev_c1, ev_c2, ev_tB, ev_tAnd, ev_tOr, ev_tNot, ev_And, ev_Or, ev_Not, ev_If, ev_chain, ev_nil, ev_cons, ev_tup, ev_lst, ev_idx2, idxA_l, idxA_t, idxA_s, idxA_a, idxA_e0, idxA_e1, ev_call, ev_ap, ev_cut, ev_part0, ev_part1, ev_str, ev_tgt, ev_iLst, ev_iTup, ev_iStr, ev_iRng, ev_nop, ev_seq, ev_st, ev_set, ev_new, ev_sTgt, ev_par, ev_sIf, ev_ret, ev_do, ev_raise, ev_for, ev_app, ev_iOwn, ev_enum, ev_oidx, ev_put, ev_yes, lt_len0, lt_lenS, asg_nm, asg_tp, opt_bind_some, len_two, len_one, len_zero, List.getElem?_cons_zero, List.getElem?_cons_succ, List.set_cons_zero, List.set_cons_succ, ↓reduceIte, Bool.false_eq_true, Bool.not_true, Bool.not_false, sl, ro, cut_let n h5, h]
theorem needt_run {d m : D} (h : f_is_whole [d, .int 1, .int 20] m = .ok (.bl true) m) : f_need_times [d] m = .ok .non m := by
  have hs : start 1 [d] = [some (.v (d))] := Eq.trans rfl rfl
  unfold f_need_times
  rw [fn_ev (show [d].length = 1 from rfl), hs, c_need_times.eq_1]
  simp only [ev_bd, ev_pu, ev_some, ev_var, ev_K, ev_c1, ev_c2, ev_tB, ev_tAnd, ev_tOr, ev_tNot, ev_And, ev_Or, ev_Not, ev_If, ev_chain, ev_nil, ev_cons, ev_tup, ev_lst, ev_idx2, idxA_l, idxA_t, idxA_s, idxA_a, idxA_e0, idxA_e1, ev_call, ev_ap, ev_cut, ev_part0, ev_part1, ev_str, ev_tgt, ev_iLst, ev_iTup, ev_iStr, ev_iRng, ev_nop, ev_seq, ev_st, ev_set, ev_new, ev_sTgt, ev_par, ev_sIf, ev_ret, ev_do, ev_raise, ev_for, ev_app, ev_iOwn, ev_enum, ev_oidx, ev_put, ev_yes, lt_len0, lt_lenS, asg_nm, asg_tp, opt_bind_some, len_two, len_one, len_zero, List.getElem?_cons_zero, List.getElem?_cons_succ, List.set_cons_zero, List.set_cons_succ, ↓reduceIte, Bool.false_eq_true, Bool.not_true, Bool.not_false, sl, ro, h]
theorem needt_not {d m : D} (h : f_is_whole [d, .int 1, .int 20] m = .ok (.bl false) m) : f_need_times [d] m = .exc 3 m := by
  have hs : start 1 [d] = [some (.v (d))] := Eq.trans rfl rfl
  unfold f_need_times
  rw [fn_ev (show [d].length = 1 from rfl), hs, c_need_times.eq_1]
  simp only [ev_bd, ev_pu, ev_some, ev_var, ev_K, ev_c1, ev_c2, ev_tB, ev_tAnd, ev_tOr, ev_tNot, ev_And, ev_Or, ev_Not, ev_If, ev_chain, ev_nil, ev_cons, ev_tup, ev_lst, ev_idx2, idxA_l, idxA_t, idxA_s, idxA_a, idxA_e0, idxA_e1, ev_call, ev_ap, ev_cut, ev_part0, ev_part1, ev_str, ev_tgt, ev_iLst, ev_iTup, ev_iStr, ev_iRng, ev_nop, ev_seq, ev_st, ev_set, ev_new, ev_sTgt, ev_par, ev_sIf, ev_ret, ev_do, ev_raise, ev_for, ev_app, ev_iOwn, ev_enum, ev_oidx, ev_put, ev_yes, lt_len0, lt_lenS, asg_nm, asg_tp, opt_bind_some, len_two, len_one, len_zero, List.getElem?_cons_zero, List.getElem?_cons_succ, List.set_cons_zero, List.set_cons_succ, ↓reduceIte, Bool.false_eq_true, Bool.not_true, Bool.not_false, sl, ro, h]
theorem added_run {n : Nat} {ps : List (List Nat × Nat)} (h : Vot n ps) {b : List Nat} {t : Nat} (hb : Bal n b) (h1 : 1 ≤ t) (h20 : t ≤ 20) (m : D) : f_added [encV n ps, .str b, .int t] m = if fitsB (addB ps (b, t)) then .ok (encV n (addB ps (b, t))) m else .exc 8 m := by
  have hs : start 3 [encV n ps, .str b, .int t] = [some (.v (encV n ps)), some (.v (.str b)), some (.v (.int t))] := Eq.trans rfl rfl
  have hl : f_are_letters [.str b, .str (LET.take n)] m = .ok (.bl true) m := by rw [letters_run _ _ (by have := hb.len h.n5; omega), hb.al]
  have hw : f_is_whole [.int t, .int 1, .int 20] m = .ok (.bl true) m := by rw [whole_run, decide_eq_true (by omega), decide_eq_true (by omega)]; rfl
  have hm := with_run ps (b, t) (by have := h.len; omega) m
  dsimp only at hm
  unfold f_added
  rw [fn_ev (show [encV n ps, .str b, .int t].length = 3 from rfl), hs, c_added.eq_1]
  cases hf : fitsB (addB ps (b, t)) with
  | true =>
    rw [hf, if_pos rfl] at hm
    rw [if_pos rfl]
    simp only [ev_bd, ev_pu, ev_some, ev_var, ev_K, ev_c1, ev_c2, ev_tB, ev_tAnd, ev_tOr, ev_tNot, ev_And, ev_Or, ev_Not, ev_If, ev_chain, ev_nil, ev_cons, ev_tup, ev_lst, ev_idx2, idxA_l, idxA_t, idxA_s, idxA_a, idxA_e0, idxA_e1, ev_call, ev_ap, ev_cut, ev_part0, ev_part1, ev_str, ev_tgt, ev_iLst, ev_iTup, ev_iStr, ev_iRng, ev_nop, ev_seq, ev_st, ev_set, ev_new, ev_sTgt, ev_par, ev_sIf, ev_ret, ev_do, ev_raise, ev_for, ev_app, ev_iOwn, ev_enum, ev_oidx, ev_put, ev_yes, lt_len0, lt_lenS, asg_nm, asg_tp, opt_bind_some, len_two, len_one, len_zero, List.getElem?_cons_zero, List.getElem?_cons_succ, List.set_cons_zero, List.set_cons_succ, ↓reduceIte, Bool.false_eq_true, Bool.not_true, Bool.not_false, sl, ro, need_run h, needb_run h.n5 hl, needt_run hw, hm]
    rfl
  | false =>
    rw [hf, if_neg Bool.false_ne_true] at hm
    rw [if_neg Bool.false_ne_true]
    simp only [ev_bd, ev_pu, ev_some, ev_var, ev_K, ev_c1, ev_c2, ev_tB, ev_tAnd, ev_tOr, ev_tNot, ev_And, ev_Or, ev_Not, ev_If, ev_chain, ev_nil, ev_cons, ev_tup, ev_lst, ev_idx2, idxA_l, idxA_t, idxA_s, idxA_a, idxA_e0, idxA_e1, ev_call, ev_ap, ev_cut, ev_part0, ev_part1, ev_str, ev_tgt, ev_iLst, ev_iTup, ev_iStr, ev_iRng, ev_nop, ev_seq, ev_st, ev_set, ev_new, ev_sTgt, ev_par, ev_sIf, ev_ret, ev_do, ev_raise, ev_for, ev_app, ev_iOwn, ev_enum, ev_oidx, ev_put, ev_yes, lt_len0, lt_lenS, asg_nm, asg_tp, opt_bind_some, len_two, len_one, len_zero, List.getElem?_cons_zero, List.getElem?_cons_succ, List.set_cons_zero, List.set_cons_succ, ↓reduceIte, Bool.false_eq_true, Bool.not_true, Bool.not_false, sl, ro, need_run h, needb_run h.n5 hl, needt_run hw, hm]
theorem added_badB {n : Nat} {ps : List (List Nat × Nat)} (h : Vot n ps) {d x m : D} (hd : f_are_letters [d, .str (LET.take n)] m = .ok (.bl false) m) : f_added [encV n ps, d, x] m = .exc 2 m := by
  have hs : start 3 [encV n ps, d, x] = [some (.v (encV n ps)), some (.v (d)), some (.v (x))] := Eq.trans rfl rfl
  unfold f_added
  rw [fn_ev (show [encV n ps, d, x].length = 3 from rfl), hs, c_added.eq_1]
  simp only [ev_bd, ev_pu, ev_some, ev_var, ev_K, ev_c1, ev_c2, ev_tB, ev_tAnd, ev_tOr, ev_tNot, ev_And, ev_Or, ev_Not, ev_If, ev_chain, ev_nil, ev_cons, ev_tup, ev_lst, ev_idx2, idxA_l, idxA_t, idxA_s, idxA_a, idxA_e0, idxA_e1, ev_call, ev_ap, ev_cut, ev_part0, ev_part1, ev_str, ev_tgt, ev_iLst, ev_iTup, ev_iStr, ev_iRng, ev_nop, ev_seq, ev_st, ev_set, ev_new, ev_sTgt, ev_par, ev_sIf, ev_ret, ev_do, ev_raise, ev_for, ev_app, ev_iOwn, ev_enum, ev_oidx, ev_put, ev_yes, lt_len0, lt_lenS, asg_nm, asg_tp, opt_bind_some, len_two, len_one, len_zero, List.getElem?_cons_zero, List.getElem?_cons_succ, List.set_cons_zero, List.set_cons_succ, ↓reduceIte, Bool.false_eq_true, Bool.not_true, Bool.not_false, sl, ro, need_run h, needb_not h.n5 hd]
theorem added_badT {n : Nat} {ps : List (List Nat × Nat)} (h : Vot n ps) {b x m : D} (hb : f_are_letters [b, .str (LET.take n)] m = .ok (.bl true) m) (hx : f_is_whole [x, .int 1, .int 20] m = .ok (.bl false) m) : f_added [encV n ps, b, x] m = .exc 3 m := by
  have hs : start 3 [encV n ps, b, x] = [some (.v (encV n ps)), some (.v (b)), some (.v (x))] := Eq.trans rfl rfl
  unfold f_added
  rw [fn_ev (show [encV n ps, b, x].length = 3 from rfl), hs, c_added.eq_1]
  simp only [ev_bd, ev_pu, ev_some, ev_var, ev_K, ev_c1, ev_c2, ev_tB, ev_tAnd, ev_tOr, ev_tNot, ev_And, ev_Or, ev_Not, ev_If, ev_chain, ev_nil, ev_cons, ev_tup, ev_lst, ev_idx2, idxA_l, idxA_t, idxA_s, idxA_a, idxA_e0, idxA_e1, ev_call, ev_ap, ev_cut, ev_part0, ev_part1, ev_str, ev_tgt, ev_iLst, ev_iTup, ev_iStr, ev_iRng, ev_nop, ev_seq, ev_st, ev_set, ev_new, ev_sTgt, ev_par, ev_sIf, ev_ret, ev_do, ev_raise, ev_for, ev_app, ev_iOwn, ev_enum, ev_oidx, ev_put, ev_yes, lt_len0, lt_lenS, asg_nm, asg_tp, opt_bind_some, len_two, len_one, len_zero, List.getElem?_cons_zero, List.getElem?_cons_succ, List.set_cons_zero, List.set_cons_succ, ↓reduceIte, Bool.false_eq_true, Bool.not_true, Bool.not_false, sl, ro, need_run h, needb_run h.n5 hb, needt_not hx]
end Pu

namespace Pu
/-! ### renamed -/
theorem deqs_strs : ∀ xs ys : List (List Nat), deqs (xs.map .str) (ys.map .str) = decide (xs = ys)
  | [], [] => by simp [deqs]
  | [], _ :: _ => by simp [deqs]
  | _ :: _, [] => by simp [deqs]
  | x :: xs, y :: ys => by
    rw [List.map_cons, List.map_cons, deqs, deqs_strs xs ys, deq, Bool.eq_iff_iff]
    simp
theorem ne_strs (xs ys : List (List Nat)) : oNe (.lst (xs.map .str)) (.lst (ys.map .str)) = some (.bl (!decide (xs = ys))) := by
  have hs : ∀ zs : List (List Nat), shp 8 (.lst (zs.map .str)) = true := fun zs => by
    show (zs.map D.str).all (shp 7) = true
    rw [List.all_eq_true]
    intro d hd
    obtain ⟨x, _, rfl⟩ := List.mem_map.mp hd
    rfl
  unfold oNe
  rw [hs, hs, deq, deqs_strs]
  rfl
def one1 (z : List Nat) : List (List Nat) := z.map fun c => [c]
theorem one1_inj {a b : List Nat} (h : (one1 a).Perm (one1 b)) : a.Perm b := by
  have := h.map (fun z : List Nat => z.headD 0)
  unfold one1 at this
  rw [List.map_map, List.map_map] at this
  have e : ∀ z : List Nat, z.map ((fun z : List Nat => z.headD 0) ∘ fun c => [c]) = z := fun z => by
    rw [show ((fun z : List Nat => z.headD 0) ∘ fun c : Nat => [c]) = id from rfl, List.map_id]
  rwa [e, e] at this
theorem asc_srt {z : List Nat} (h : Asc z) : srt (one1 z) = one1 z := by
  refine (srt_only (List.Perm.refl _) ?_).symm
  unfold one1
  rw [List.pairwise_map]
  refine h.imp fun {a b} hab => ?_
  unfold leT
  rw [lt_one]
  simp
  omega
theorem srt_iff {w z : List Nat} (h : Asc z) : srt (one1 w) = one1 z ↔ w.Perm z := by
  constructor
  · intro e
    refine one1_inj ?_
    rw [← e]
    exact (srt_perm _).symm
  · intro p
    rw [← asc_srt h]
    refine srt_only ?_ (List.pairwise_mergeSort leT_trans leT_total _)
    exact (srt_perm _).trans (p.map _)
theorem names_ne {w z : List Nat} (h : Asc z) (k : Bool) (hk : k = true ↔ w.Perm z) : oNe (.lst ((srt (w.map fun c => [c])).map .str)) (.lst (sgn z)) = some (.bl (!k)) := by
  have e : sgn z = (one1 z).map .str := by unfold sgn one1; rw [List.map_map]; rfl
  rw [e, ne_strs]
  congr 3
  rw [Bool.eq_iff_iff, decide_eq_true_iff, hk]
  exact srt_iff h
/-- the letters of a ballot by their new names -/
def rn (w b : List Nat) : List Nat := b.map fun c => w.getD (LET.idxOf c) 0
def ren (w : List Nat) (ps : List (List Nat × Nat)) : List (List Nat × Nat) := ps.map fun p => (rn w p.1, p.2)
def turnR : M Fl := (sApp 2 (cTup (aCons (c2 oJoin (cStr (cK (.str []))) (cLc [5] (iStr (cVar 3)) (.nm 5) tYes (cIdx (cVar 1) (c2 oFind (cStr (cK (.str [97, 98, 99, 100, 101]))) (cVar 5))))) (aCons (cVar 4) aNil))))
theorem renamed_eq : c_renamed = (sSeq (sDo (cCall f_need_votes (aCons (cVar 0) aNil)))
  (sSeq (sIf (tOr (tNot (tB (c1 (oIsi "str") (cVar 1)))) (tB (c2 oNe (c1 oSrtT (cVar 1)) (c1 oListS (cCall f_candidates_of (aCons (cVar 0) aNil)))))) (sRaise 4) sNop)
  (sSeq (sNew 2 (cLst aNil))
  (sSeq (sFor (iTup (cIdx (cVar 0) (cK (.int 1)))) (.tp (.nm 3) (.nm 4)) turnR)
  (sRet (cTup (aCons (cIdx (cVar 0) (cK (.int 0))) (aCons (c1 oTuple (cVar 2)) aNil)))))))) := rfl
theorem oListS_ok (z : List Nat) (h : z.length ≤ 1000) : oListS (.str z) = some (.lst (sgn z)) := by
  show (if z.length ≤ LN then _ else _) = _
  rw [if_pos (by unfold LN; omega)]
theorem let_take {n c : Nat} (h : c ∈ LET.take n) : LET.idxOf c < n ∧ c ∈ LET := by
  refine ⟨?_, List.mem_of_mem_take h⟩
  obtain ⟨j, hj, e⟩ := List.mem_iff_getElem.mp h
  rw [List.length_take] at hj
  have e2 : LET[j]'(by omega) = c := by rw [← e, List.getElem_take]
  have : LET.idxOf c ≤ j := by
    rcases Nat.lt_or_ge j (LET.idxOf c) with h | h
    · have := List.not_of_lt_findIdx (p := (· == c)) (xs := LET) (i := j) (by simpa [List.idxOf] using h)
      simp [e2] at this
    · exact h
  omega
theorem idx_at {w : List Nat} {k : Nat} (h : k < w.length) : oIdx (.str w) (.int k) = some (.str [w.getD k 0]) := by
  show (atI w (k : Int)).map _ = _
  rw [atI_ok (x := w.getD k 0) (by simp [h])]
  rfl
end Pu

namespace Pu
theorem rn_run {n : Nat} (V : D) {w : List Nat} (hw : w.length = n) (a : Sl) {b : List Nat} (hb : ∀ c ∈ b, c ∈ LET.take n) (t : D) (m : D) :
    cLc [5] (iStr (cVar 3)) (.nm 5) tYes (cIdx (cVar 1) (c2 oFind (cStr (cK (.str [97, 98, 99, 100, 101]))) (cVar 5))) [] [some (.v (V)), some (.v (.str w)), some a, some (.v (.str b)), some (.v (t)), none] m = .ok (.lst (sgn (rn w b))) [some (.v (V)), some (.v (.str w)), some a, some (.v (.str b)), some (.v (t)), none] m := by
  have := lc_run (vs := [5]) (it := iStr (cVar 3)) (tg := .nm 5) (t := tYes) (e := cIdx (cVar 1) (c2 oFind (cStr (cK (.str [97, 98, 99, 100, 101]))) (cVar 5))) (r := [some (.v (V)), some (.v (.str w)), some a, some (.v (.str b)), some (.v (t)), none]) (m := m) (ds := sgn b) (fun _ => true) (fun d => .str [w.getD (LET.idxOf (sg1 d)) 0]) (by simp only [ev_bd, ev_pu, ev_some, ev_var, ev_K, ev_c1, ev_c2, ev_tB, ev_tAnd, ev_tOr, ev_tNot, ev_And, ev_Or, ev_Not, ev_If, ev_chain, ev_nil, ev_cons, ev_tup, ev_lst, ev_idx2, idxA_l, idxA_t, idxA_s, idxA_a, idxA_e0, idxA_e1, ev_call, ev_ap, ev_cut, ev_part0, ev_part1, ev_str, ev_tgt, ev_iLst, ev_iTup, ev_iStr, ev_iRng, ev_nop, ev_seq, ev_st, ev_set, ev_new, ev_sTgt, ev_par, ev_sIf, ev_ret, ev_do, ev_raise, ev_for, ev_app, ev_iOwn, ev_enum, ev_oidx, ev_put, ev_yes, lt_len0, lt_lenS, asg_nm, asg_tp, opt_bind_some, len_two, len_one, len_zero, List.getElem?_cons_zero, List.getElem?_cons_succ, List.set_cons_zero, List.set_cons_succ, ↓reduceIte, Bool.false_eq_true, Bool.not_true, Bool.not_false, sl, ro]) (by
    intro d hd
    obtain ⟨c, hc, rfl⟩ := List.mem_map.mp hd
    refine ⟨[some (.v (V)), some (.v (.str w)), some a, some (.v (.str b)), some (.v (t)), some (.v (.str [c]))], rfl, rfl, rfl, fun _ => ?_⟩
    obtain ⟨h1, h2⟩ := let_take (hb c hc)
    have h3 := find_ok LET c h2
    have h4 := idx_at (w := w) (k := LET.idxOf c) (by omega)
    have e : LET = [97, 98, 99, 100, 101] := rfl
    rw [e] at h3 h4
    simp only [ev_bd, ev_pu, ev_some, ev_var, ev_K, ev_c1, ev_c2, ev_tB, ev_tAnd, ev_tOr, ev_tNot, ev_And, ev_Or, ev_Not, ev_If, ev_chain, ev_nil, ev_cons, ev_tup, ev_lst, ev_idx2, idxA_l, idxA_t, idxA_s, idxA_a, idxA_e0, idxA_e1, ev_call, ev_ap, ev_cut, ev_part0, ev_part1, ev_str, ev_tgt, ev_iLst, ev_iTup, ev_iStr, ev_iRng, ev_nop, ev_seq, ev_st, ev_set, ev_new, ev_sTgt, ev_par, ev_sIf, ev_ret, ev_do, ev_raise, ev_for, ev_app, ev_iOwn, ev_enum, ev_oidx, ev_put, ev_yes, lt_len0, lt_lenS, asg_nm, asg_tp, opt_bind_some, len_two, len_one, len_zero, List.getElem?_cons_zero, List.getElem?_cons_succ, List.set_cons_zero, List.set_cons_succ, ↓reduceIte, Bool.false_eq_true, Bool.not_true, Bool.not_false, sl, ro, h3, h4]
    rfl)
  rw [this, List.filter_eq_self.mpr fun _ _ => rfl]
  unfold sgn rn
  rw [List.map_map, List.map_map]
  rfl
theorem turnR_run {n : Nat} (V : D) {w : List Nat} (hw : w.length = n) (m : D) : ∀ (qs acc : List (List Nat × Nat)) (x3 x4 : Option Sl), acc.length + qs.length ≤ 900 → (∀ q ∈ qs, Bal n q.1) → n ≤ 5 →
    ∃ y3 y4, forL (.tp (.nm 3) (.nm 4)) turnR (qs.map encP) [some (.v (V)), some (.v (.str w)), some (.own (.lst (acc.map encP))), x3, x4, none] m = .ok .nx [some (.v (V)), some (.v (.str w)), some (.own (.lst ((acc ++ ren w qs).map encP))), y3, y4, none] m
  | [], acc, x3, x4, _, _, _ => ⟨x3, x4, by
    have e1 : acc ++ ren w [] = acc := by simp [ren]
    rw [e1]
    exact ev_forNil⟩
  | q :: qs, acc, x3, x4, hl, hb, h5 => by
    rw [List.length_cons] at hl
    obtain ⟨y3, y4, h⟩ := turnR_run V hw m qs (acc ++ [(rn w q.1, q.2)]) (some (.v (.str q.1))) (some (.v (.int q.2))) (by rw [List.length_append]; simp; omega) (fun q hq => hb q (List.mem_cons_of_mem _ hq)) h5
    refine ⟨y3, y4, ?_⟩
    have e1 : acc ++ ren w (q :: qs) = (acc ++ [(rn w q.1, q.2)]) ++ ren w qs := by unfold ren; rw [List.map_cons, List.append_assoc]; rfl
    have easg : ∀ r : Rho, asg (.tp (.nm 3) (.nm 4)) (encP q) r = (asg (.nm 3) (.str q.1) r).bind (asg (.nm 4) (.int q.2)) := fun r => rfl
    have hq := hb q List.mem_cons_self
    have hr := rn_run V hw (.own (.lst (acc.map encP))) hq.sub (.int q.2) m
    have hlen : (rn w q.1).length ≤ 1000 := by have := hq.len h5; unfold rn; rw [List.length_map]; omega
    have hj := join_sgn (rn w q.1) hlen
    have hap : (acc.map encP).length < LN := by rw [List.length_map]; unfold LN; omega
    rw [e1, ← h, List.map_cons, ev_forCons, List.map_append]
    unfold turnR
    simp only [ev_bd, ev_pu, ev_some, ev_var, ev_K, ev_c1, ev_c2, ev_tB, ev_tAnd, ev_tOr, ev_tNot, ev_And, ev_Or, ev_Not, ev_If, ev_chain, ev_nil, ev_cons, ev_tup, ev_lst, ev_idx2, idxA_l, idxA_t, idxA_s, idxA_a, idxA_e0, idxA_e1, ev_call, ev_ap, ev_cut, ev_part0, ev_part1, ev_str, ev_tgt, ev_iLst, ev_iTup, ev_iStr, ev_iRng, ev_nop, ev_seq, ev_st, ev_set, ev_new, ev_sTgt, ev_par, ev_sIf, ev_ret, ev_do, ev_raise, ev_for, ev_app, ev_iOwn, ev_enum, ev_oidx, ev_put, ev_yes, lt_len0, lt_lenS, asg_nm, asg_tp, opt_bind_some, len_two, len_one, len_zero, List.getElem?_cons_zero, List.getElem?_cons_succ, List.set_cons_zero, List.set_cons_succ, ↓reduceIte, Bool.false_eq_true, Bool.not_true, Bool.not_false, sl, ro, easg, hr, hj, hap]
    rfl
theorem renamed_run {n : Nat} {ps : List (List Nat × Nat)} (h : Vot n ps) {w : List Nat} (hw : w.Perm (LET.take n)) (m : D) : f_renamed [encV n ps, .str w] m = .ok (encV n (ren w ps)) m := by
  have hs : start 6 [encV n ps, .str w] = [some (.v (encV n ps)), some (.v (.str w)), none, none, none, none] := Eq.trans rfl rfl
  have hc : f_candidates_of [encV n ps] m = .ok (.str (LET.take n)) m := cand_run n h.n5 _ m
  have hwl : w.length = n := by rw [hw.length_eq, LET_len h.n5]
  have i1 : oIsi "str" (.str w) = some (.bl true) := by rw [oIsi_ _ _ "str" rfl]; rfl
  have hn := names_ne (w := w) (asc_let n) true ⟨fun _ => hw, fun _ => rfl⟩
  have ho : oSrtT (.str w) = some (.lst ((srt (w.map fun c => [c])).map .str)) := rfl
  have hl := oListS_ok (LET.take n) (by rw [LET_len h.n5]; have := h.n5; omega)
  obtain ⟨y3, y4, ht⟩ := turnR_run (n := n) (encV n ps) hwl m ps [] none none (by have := h.len; simp; omega) (fun q hq => (h.bal q hq).1) h.n5
  rw [List.nil_append] at ht
  have e0 : ([] : List (List Nat × Nat)).map encP = [] := rfl
  rw [e0] at ht
  unfold f_renamed
  rw [fn_ev (show [encV n ps, .str w].length = 2 from rfl), hs, renamed_eq]
  simp only [ev_bd, ev_pu, ev_some, ev_var, ev_K, ev_c1, ev_c2, ev_tB, ev_tAnd, ev_tOr, ev_tNot, ev_And, ev_Or, ev_Not, ev_If, ev_chain, ev_nil, ev_cons, ev_tup, ev_lst, ev_idx2, idxA_l, idxA_t, idxA_s, idxA_a, idxA_e0, idxA_e1, ev_call, ev_ap, ev_cut, ev_part0, ev_part1, ev_str, ev_tgt, ev_iLst, ev_iTup, ev_iStr, ev_iRng, ev_nop, ev_seq, ev_st, ev_set, ev_new, ev_sTgt, ev_par, ev_sIf, ev_ret, ev_do, ev_raise, ev_for, ev_app, ev_iOwn, ev_enum, ev_oidx, ev_put, ev_yes, lt_len0, lt_lenS, asg_nm, asg_tp, opt_bind_some, len_two, len_one, len_zero, List.getElem?_cons_zero, List.getElem?_cons_succ, List.set_cons_zero, List.set_cons_succ, ↓reduceIte, Bool.false_eq_true, Bool.not_true, Bool.not_false, sl, ro, need_run h, i1, ho, hc, hl, hn, ht, oTuple_l]
  rfl
theorem renamed_not {n : Nat} {ps : List (List Nat × Nat)} (h : Vot n ps) {w : List Nat} (hw : ¬w.Perm (LET.take n)) (m : D) : f_renamed [encV n ps, .str w] m = .exc 4 m := by
  have hs : start 6 [encV n ps, .str w] = [some (.v (encV n ps)), some (.v (.str w)), none, none, none, none] := Eq.trans rfl rfl
  have hc : f_candidates_of [encV n ps] m = .ok (.str (LET.take n)) m := cand_run n h.n5 _ m
  have i1 : oIsi "str" (.str w) = some (.bl true) := by rw [oIsi_ _ _ "str" rfl]; rfl
  have hn := names_ne (w := w) (asc_let n) false ⟨fun z => (by cases z), fun z => absurd z hw⟩
  have ho : oSrtT (.str w) = some (.lst ((srt (w.map fun c => [c])).map .str)) := rfl
  have hl := oListS_ok (LET.take n) (by rw [LET_len h.n5]; have := h.n5; omega)
  unfold f_renamed
  rw [fn_ev (show [encV n ps, .str w].length = 2 from rfl), hs, renamed_eq]
  simp only [ev_bd, ev_pu, ev_some, ev_var, ev_K, ev_c1, ev_c2, ev_tB, ev_tAnd, ev_tOr, ev_tNot, ev_And, ev_Or, ev_Not, ev_If, ev_chain, ev_nil, ev_cons, ev_tup, ev_lst, ev_idx2, idxA_l, idxA_t, idxA_s, idxA_a, idxA_e0, idxA_e1, ev_call, ev_ap, ev_cut, ev_part0, ev_part1, ev_str, ev_tgt, ev_iLst, ev_iTup, ev_iStr, ev_iRng, ev_nop, ev_seq, ev_st, ev_set, ev_new, ev_sTgt, ev_par, ev_sIf, ev_ret, ev_do, ev_raise, ev_for, ev_app, ev_iOwn, ev_enum, ev_oidx, ev_put, ev_yes, lt_len0, lt_lenS, asg_nm, asg_tp, opt_bind_some, len_two, len_one, len_zero, List.getElem?_cons_zero, List.getElem?_cons_succ, List.set_cons_zero, List.set_cons_succ, ↓reduceIte, Bool.false_eq_true, Bool.not_true, Bool.not_false, sl, ro, need_run h, i1, ho, hc, hl, hn]
theorem renamed_nots {n : Nat} {ps : List (List Nat × Nat)} (h : Vot n ps) {d : D} (hd : oIsi "str" d = some (.bl false)) (m : D) : f_renamed [encV n ps, d] m = .exc 4 m := by
  have hs : start 6 [encV n ps, d] = [some (.v (encV n ps)), some (.v (d)), none, none, none, none] := Eq.trans rfl rfl
  unfold f_renamed
  rw [fn_ev (show [encV n ps, d].length = 2 from rfl), hs, renamed_eq]
  simp only [ev_bd, ev_pu, ev_some, ev_var, ev_K, ev_c1, ev_c2, ev_tB, ev_tAnd, ev_tOr, ev_tNot, ev_And, ev_Or, ev_Not, ev_If, ev_chain, ev_nil, ev_cons, ev_tup, ev_lst, ev_idx2, idxA_l, idxA_t, idxA_s, idxA_a, idxA_e0, idxA_e1, ev_call, ev_ap, ev_cut, ev_part0, ev_part1, ev_str, ev_tgt, ev_iLst, ev_iTup, ev_iStr, ev_iRng, ev_nop, ev_seq, ev_st, ev_set, ev_new, ev_sTgt, ev_par, ev_sIf, ev_ret, ev_do, ev_raise, ev_for, ev_app, ev_iOwn, ev_enum, ev_oidx, ev_put, ev_yes, lt_len0, lt_lenS, asg_nm, asg_tp, opt_bind_some, len_two, len_one, len_zero, List.getElem?_cons_zero, List.getElem?_cons_succ, List.set_cons_zero, List.set_cons_succ, ↓reduceIte, Bool.false_eq_true, Bool.not_true, Bool.not_false, sl, ro, need_run h, hd]
end Pu

namespace Pu
theorem ne_tup0 (ps : List (List Nat × Nat)) : oNe (.tup (ps.map encP)) (.tup []) = some (.bl (!ps.isEmpty)) := by
  have hs : shp 8 (.tup (ps.map encP)) = true := by
    show (ps.map encP).all (shp 7) = true
    rw [List.all_eq_true]
    intro d hd
    obtain ⟨x, _, rfl⟩ := List.mem_map.mp hd
    rfl
  unfold oNe
  rw [hs, show shp 8 (.tup []) = true from rfl]
  cases ps with
  | nil => simp [deq, deqs]
  | cons p ps => simp [deq, deqs]
def pick02 : M Fl := (sIf (tAnd (tB (c2 oNe (cVar 4) (cTup aNil))) (tB (c2 oEq (cCall f__law_roll (aCons (cVar 1) (aCons (cK (.int 2)) aNil))) (cK (.int 0))))) (sSet 5 (cIdx (cIdx (cVar 4) (cCall f__law_roll (aCons (cVar 1) (aCons (c1 oLen (cVar 4)) aNil)))) (cK (.int 0)))) sNop)
theorem tup_at {ps : List (List Nat × Nat)} {v : Int} (h0 : 0 ≤ v) (h1 : v < ps.length) : ∃ p ∈ ps, oIdx (.tup (ps.map encP)) (.int v) = some (encP p) := by
  obtain ⟨k, rfl⟩ : ∃ k : Nat, v = (k : Int) := ⟨v.toNat, by omega⟩
  have hk : k < ps.length := by omega
  refine ⟨ps[k], List.getElem_mem hk, ?_⟩
  show atI (ps.map encP) (k : Int) = _
  exact atI_ok (by simp [hk])
theorem pick02_run {n : Nat} {ps : List (List Nat × Nat)} (h : Vot n ps) {b : List Nat} (hb : Bal n b) (t : D) (m : D) (hm : Dc m) : ∃ b' m', Bal n b' ∧ Dc m' ∧ pick02 [none, some (.v (.amb)), some (.v (encV n ps)), some (.v (.int n)), some (.v (.tup (ps.map encP))), some (.v (.str b)), some (.v (t)), none, none, none, none, none, none, none, none, none, none, none, none, none] m = .ok .nx [none, some (.v (.amb)), some (.v (encV n ps)), some (.v (.int n)), some (.v (.tup (ps.map encP))), some (.v (.str b')), some (.v (t)), none, none, none, none, none, none, none, none, none, none, none, none, none] m' := by
  have hne := ne_tup0 ps
  unfold pick02
  cases he : ps.isEmpty with
  | true =>
    rw [he] at hne
    exact ⟨b, m, hb, hm, by simp only [ev_bd, ev_pu, ev_some, ev_var, ev_K, ev_c1, ev_c2, ev_tB, ev_tAnd, ev_tOr, ev_tNot, ev_And, ev_Or, ev_Not, ev_If, ev_chain, ev_nil, ev_cons, ev_tup, ev_lst, ev_idx2, idxA_l, idxA_t, idxA_s, idxA_a, idxA_e0, idxA_e1, ev_call, ev_ap, ev_cut, ev_part0, ev_part1, ev_str, ev_tgt, ev_iLst, ev_iTup, ev_iStr, ev_iRng, ev_nop, ev_seq, ev_st, ev_set, ev_new, ev_sTgt, ev_par, ev_sIf, ev_ret, ev_do, ev_raise, ev_for, ev_app, ev_iOwn, ev_enum, ev_oidx, ev_put, ev_yes, lt_len0, lt_lenS, asg_nm, asg_tp, opt_bind_some, len_two, len_one, len_zero, List.getElem?_cons_zero, List.getElem?_cons_succ, List.set_cons_zero, List.set_cons_succ, ↓reduceIte, Bool.false_eq_true, Bool.not_true, Bool.not_false, sl, ro, hne]⟩
  | false =>
    rw [he] at hne
    obtain ⟨v, m1, v0, v2, hm1, hr⟩ := roll_run 2 (by decide) (by decide) m hm
    have hpos : 0 < ps.length := by
      cases ps with
      | nil => simp at he
      | cons _ _ => simp
    cases hz : (v == 0) with
    | false => exact ⟨b, m1, hb, hm1, by simp only [ev_bd, ev_pu, ev_some, ev_var, ev_K, ev_c1, ev_c2, ev_tB, ev_tAnd, ev_tOr, ev_tNot, ev_And, ev_Or, ev_Not, ev_If, ev_chain, ev_nil, ev_cons, ev_tup, ev_lst, ev_idx2, idxA_l, idxA_t, idxA_s, idxA_a, idxA_e0, idxA_e1, ev_call, ev_ap, ev_cut, ev_part0, ev_part1, ev_str, ev_tgt, ev_iLst, ev_iTup, ev_iStr, ev_iRng, ev_nop, ev_seq, ev_st, ev_set, ev_new, ev_sTgt, ev_par, ev_sIf, ev_ret, ev_do, ev_raise, ev_for, ev_app, ev_iOwn, ev_enum, ev_oidx, ev_put, ev_yes, lt_len0, lt_lenS, asg_nm, asg_tp, opt_bind_some, len_two, len_one, len_zero, List.getElem?_cons_zero, List.getElem?_cons_succ, List.set_cons_zero, List.set_cons_succ, ↓reduceIte, Bool.false_eq_true, Bool.not_true, Bool.not_false, sl, ro, hne, hr, eq_i, hz]⟩
    | true =>
      obtain ⟨u, m2, u0, u1, hm2, hr2⟩ := roll_run (ps.length : Int) (by omega) (by have := h.len; omega) m1 hm1
      obtain ⟨p, hp, hx⟩ := tup_at u0 u1
      have hl : oLen (.tup (ps.map encP)) = some (.int ps.length) := by rw [oLen_t, List.length_map]
      exact ⟨p.1, m2, (h.bal p hp).1, hm2, by simp only [ev_bd, ev_pu, ev_some, ev_var, ev_K, ev_c1, ev_c2, ev_tB, ev_tAnd, ev_tOr, ev_tNot, ev_And, ev_Or, ev_Not, ev_If, ev_chain, ev_nil, ev_cons, ev_tup, ev_lst, ev_idx2, idxA_l, idxA_t, idxA_s, idxA_a, idxA_e0, idxA_e1, ev_call, ev_ap, ev_cut, ev_part0, ev_part1, ev_str, ev_tgt, ev_iLst, ev_iTup, ev_iStr, ev_iRng, ev_nop, ev_seq, ev_st, ev_set, ev_new, ev_sTgt, ev_par, ev_sIf, ev_ret, ev_do, ev_raise, ev_for, ev_app, ev_iOwn, ev_enum, ev_oidx, ev_put, ev_yes, lt_len0, lt_lenS, asg_nm, asg_tp, opt_bind_some, len_two, len_one, len_zero, List.getElem?_cons_zero, List.getElem?_cons_succ, List.set_cons_zero, List.set_cons_succ, ↓reduceIte, Bool.false_eq_true, Bool.not_true, Bool.not_false, sl, ro, hne, hr, eq_i, hz, hl, hr2, hx, idxA_p0]⟩
end Pu

namespace Pu
theorem known02 {n : Nat} (ps : List (List Nat × Nat)) (b t : D) (m : D) : cLc [8, 9] (iTup (cVar 4)) (.tp (.nm 8) (.nm 9)) tYes (cVar 8) [] [none, some (.v (.amb)), some (.v (encV n ps)), some (.v (.int n)), some (.v (.tup (ps.map encP))), some (.v (b)), some (.v (t)), none, none, none, none, none, none, none, none, none, none, none, none, none] m = .ok (.lst ((nms ps).map .str)) [none, some (.v (.amb)), some (.v (encV n ps)), some (.v (.int n)), some (.v (.tup (ps.map encP))), some (.v (b)), some (.v (t)), none, none, none, none, none, none, none, none, none, none, none, none, none] m := by
  have := lc_run (vs := [8, 9]) (it := iTup (cVar 4)) (tg := .tp (.nm 8) (.nm 9)) (t := tYes) (e := cVar 8) (r := [none, some (.v (.amb)), some (.v (encV n ps)), some (.v (.int n)), some (.v (.tup (ps.map encP))), some (.v (b)), some (.v (t)), none, none, none, none, none, none, none, none, none, none, none, none, none]) (m := m) (ds := ps.map encP) (fun _ => true) fstD (by simp only [ev_bd, ev_pu, ev_some, ev_var, ev_K, ev_c1, ev_c2, ev_tB, ev_tAnd, ev_tOr, ev_tNot, ev_And, ev_Or, ev_Not, ev_If, ev_chain, ev_nil, ev_cons, ev_tup, ev_lst, ev_idx2, idxA_l, idxA_t, idxA_s, idxA_a, idxA_e0, idxA_e1, ev_call, ev_ap, ev_cut, ev_part0, ev_part1, ev_str, ev_tgt, ev_iLst, ev_iTup, ev_iStr, ev_iRng, ev_nop, ev_seq, ev_st, ev_set, ev_new, ev_sTgt, ev_par, ev_sIf, ev_ret, ev_do, ev_raise, ev_for, ev_app, ev_iOwn, ev_enum, ev_oidx, ev_put, ev_yes, lt_len0, lt_lenS, asg_nm, asg_tp, opt_bind_some, len_two, len_one, len_zero, List.getElem?_cons_zero, List.getElem?_cons_succ, List.set_cons_zero, List.set_cons_succ, ↓reduceIte, Bool.false_eq_true, Bool.not_true, Bool.not_false, sl, ro]) (by
    intro d hd
    obtain ⟨q, hq, rfl⟩ := List.mem_map.mp hd
    refine ⟨[none, some (.v (.amb)), some (.v (encV n ps)), some (.v (.int n)), some (.v (.tup (ps.map encP))), some (.v (b)), some (.v (t)), none, some (.v (.str q.1)), some (.v (.int q.2)), none, none, none, none, none, none, none, none, none, none], rfl, rfl, rfl, fun _ => ?_⟩
    simp only [ev_bd, ev_pu, ev_some, ev_var, ev_K, ev_c1, ev_c2, ev_tB, ev_tAnd, ev_tOr, ev_tNot, ev_And, ev_Or, ev_Not, ev_If, ev_chain, ev_nil, ev_cons, ev_tup, ev_lst, ev_idx2, idxA_l, idxA_t, idxA_s, idxA_a, idxA_e0, idxA_e1, ev_call, ev_ap, ev_cut, ev_part0, ev_part1, ev_str, ev_tgt, ev_iLst, ev_iTup, ev_iStr, ev_iRng, ev_nop, ev_seq, ev_st, ev_set, ev_new, ev_sTgt, ev_par, ev_sIf, ev_ret, ev_do, ev_raise, ev_for, ev_app, ev_iOwn, ev_enum, ev_oidx, ev_put, ev_yes, lt_len0, lt_lenS, asg_nm, asg_tp, opt_bind_some, len_two, len_one, len_zero, List.getElem?_cons_zero, List.getElem?_cons_succ, List.set_cons_zero, List.set_cons_succ, ↓reduceIte, Bool.false_eq_true, Bool.not_true, Bool.not_false, sl, ro]
    rfl)
  rw [this, List.filter_eq_self.mpr fun _ _ => rfl, fst_enc]
  unfold nms
  rw [List.map_map]
  rfl
def due02 : M Fl := (sIf (tB (c2 (oInN false) (cVar 5) (cVar 7))) (sSet 10 (c1 oTuple (cLc [8, 9] (iTup (cVar 4)) (.tp (.nm 8) (.nm 9)) tYes (cTup (aCons (cVar 8) (aCons (c2 oAdd (cVar 9) (cIf (tB (c2 oEq (cVar 8) (cVar 5))) (cVar 6) (cK (.int 0)))) aNil)))))) (sSet 10 (c2 oAdd (cVar 4) (cTup (aCons (cTup (aCons (cVar 5) (aCons (cVar 6) aNil))) aNil)))))
theorem up02 {n : Nat} (ps : List (List Nat × Nat)) (b : List Nat) (t : Nat) (k : D) (m : D) : cLc [8, 9] (iTup (cVar 4)) (.tp (.nm 8) (.nm 9)) tYes (cTup (aCons (cVar 8) (aCons (c2 oAdd (cVar 9) (cIf (tB (c2 oEq (cVar 8) (cVar 5))) (cVar 6) (cK (.int 0)))) aNil))) [] [none, some (.v (.amb)), some (.v (encV n ps)), some (.v (.int n)), some (.v (.tup (ps.map encP))), some (.v (.str b)), some (.v (.int t)), some (.v (k)), none, none, none, none, none, none, none, none, none, none, none, none] m = .ok (.lst ((ps.map (up1 b t)).map encP)) [none, some (.v (.amb)), some (.v (encV n ps)), some (.v (.int n)), some (.v (.tup (ps.map encP))), some (.v (.str b)), some (.v (.int t)), some (.v (k)), none, none, none, none, none, none, none, none, none, none, none, none] m := by
  have := lc_run (vs := [8, 9]) (it := iTup (cVar 4)) (tg := .tp (.nm 8) (.nm 9)) (t := tYes) (e := cTup (aCons (cVar 8) (aCons (c2 oAdd (cVar 9) (cIf (tB (c2 oEq (cVar 8) (cVar 5))) (cVar 6) (cK (.int 0)))) aNil))) (r := [none, some (.v (.amb)), some (.v (encV n ps)), some (.v (.int n)), some (.v (.tup (ps.map encP))), some (.v (.str b)), some (.v (.int t)), some (.v (k)), none, none, none, none, none, none, none, none, none, none, none, none]) (m := m) (ds := ps.map encP) (fun _ => true) (fun d => match d with | .tup [.str c, .int v] => .tup [.str c, .int (if c = b then v + t else v)] | _ => .non) (by simp only [ev_bd, ev_pu, ev_some, ev_var, ev_K, ev_c1, ev_c2, ev_tB, ev_tAnd, ev_tOr, ev_tNot, ev_And, ev_Or, ev_Not, ev_If, ev_chain, ev_nil, ev_cons, ev_tup, ev_lst, ev_idx2, idxA_l, idxA_t, idxA_s, idxA_a, idxA_e0, idxA_e1, ev_call, ev_ap, ev_cut, ev_part0, ev_part1, ev_str, ev_tgt, ev_iLst, ev_iTup, ev_iStr, ev_iRng, ev_nop, ev_seq, ev_st, ev_set, ev_new, ev_sTgt, ev_par, ev_sIf, ev_ret, ev_do, ev_raise, ev_for, ev_app, ev_iOwn, ev_enum, ev_oidx, ev_put, ev_yes, lt_len0, lt_lenS, asg_nm, asg_tp, opt_bind_some, len_two, len_one, len_zero, List.getElem?_cons_zero, List.getElem?_cons_succ, List.set_cons_zero, List.set_cons_succ, ↓reduceIte, Bool.false_eq_true, Bool.not_true, Bool.not_false, sl, ro]) (by
    intro d hd
    obtain ⟨q, hq, rfl⟩ := List.mem_map.mp hd
    refine ⟨[none, some (.v (.amb)), some (.v (encV n ps)), some (.v (.int n)), some (.v (.tup (ps.map encP))), some (.v (.str b)), some (.v (.int t)), some (.v (k)), some (.v (.str q.1)), some (.v (.int q.2)), none, none, none, none, none, none, none, none, none, none], rfl, rfl, rfl, fun _ => ?_⟩
    show _ = Rs.ok (D.tup [.str q.1, .int (if q.1 = b then (q.2 : Int) + t else q.2)]) _ _
    by_cases e : q.1 = b
    · have e1 : (q.1 == b) = true := by simpa using e
      rw [if_pos e]
      simp only [ev_bd, ev_pu, ev_some, ev_var, ev_K, ev_c1, ev_c2, ev_tB, ev_tAnd, ev_tOr, ev_tNot, ev_And, ev_Or, ev_Not, ev_If, ev_chain, ev_nil, ev_cons, ev_tup, ev_lst, ev_idx2, idxA_l, idxA_t, idxA_s, idxA_a, idxA_e0, idxA_e1, ev_call, ev_ap, ev_cut, ev_part0, ev_part1, ev_str, ev_tgt, ev_iLst, ev_iTup, ev_iStr, ev_iRng, ev_nop, ev_seq, ev_st, ev_set, ev_new, ev_sTgt, ev_par, ev_sIf, ev_ret, ev_do, ev_raise, ev_for, ev_app, ev_iOwn, ev_enum, ev_oidx, ev_put, ev_yes, lt_len0, lt_lenS, asg_nm, asg_tp, opt_bind_some, len_two, len_one, len_zero, List.getElem?_cons_zero, List.getElem?_cons_succ, List.set_cons_zero, List.set_cons_succ, ↓reduceIte, Bool.false_eq_true, Bool.not_true, Bool.not_false, sl, ro, eq_txt, e1, oAdd_i]
    · have e1 : (q.1 == b) = false := by simpa using e
      rw [if_neg e]
      simp only [ev_bd, ev_pu, ev_some, ev_var, ev_K, ev_c1, ev_c2, ev_tB, ev_tAnd, ev_tOr, ev_tNot, ev_And, ev_Or, ev_Not, ev_If, ev_chain, ev_nil, ev_cons, ev_tup, ev_lst, ev_idx2, idxA_l, idxA_t, idxA_s, idxA_a, idxA_e0, idxA_e1, ev_call, ev_ap, ev_cut, ev_part0, ev_part1, ev_str, ev_tgt, ev_iLst, ev_iTup, ev_iStr, ev_iRng, ev_nop, ev_seq, ev_st, ev_set, ev_new, ev_sTgt, ev_par, ev_sIf, ev_ret, ev_do, ev_raise, ev_for, ev_app, ev_iOwn, ev_enum, ev_oidx, ev_put, ev_yes, lt_len0, lt_lenS, asg_nm, asg_tp, opt_bind_some, len_two, len_one, len_zero, List.getElem?_cons_zero, List.getElem?_cons_succ, List.set_cons_zero, List.set_cons_succ, ↓reduceIte, Bool.false_eq_true, Bool.not_true, Bool.not_false, sl, ro, eq_txt, e1, oAdd_i, Int.add_zero])
  rw [this, List.filter_eq_self.mpr fun _ _ => rfl, List.map_map, List.map_map]
  congr 2
  apply List.map_congr_left
  intro q _
  show D.tup [.str q.1, .int (if q.1 = b then (q.2 : Int) + t else q.2)] = .tup [.str q.1, .int ((up1 b t q).2 : Nat)]
  unfold up1
  dsimp only
  split <;> rfl
theorem due02_run {n : Nat} {ps : List (List Nat × Nat)} (h : Vot n ps) (b : List Nat) (t : Nat) (m : D) : due02 [none, some (.v (.amb)), some (.v (encV n ps)), some (.v (.int n)), some (.v (.tup (ps.map encP))), some (.v (.str b)), some (.v (.int t)), some (.v (.lst ((nms ps).map .str))), none, none, none, none, none, none, none, none, none, none, none, none] m = .ok .nx [none, some (.v (.amb)), some (.v (encV n ps)), some (.v (.int n)), some (.v (.tup (ps.map encP))), some (.v (.str b)), some (.v (.int t)), some (.v (.lst ((nms ps).map .str))), none, none, some (.v (.tup ((addB ps (b, t)).map encP))), none, none, none, none, none, none, none, none, none] m := by
  have hi := in_strs b (nms ps)
  have hu := up02 (n := n) ps b t (.lst ((nms ps).map .str)) m
  unfold due02
  by_cases e : b ∈ nms ps
  · rw [decide_eq_true e] at hi
    have ea : addB ps (b, t) = ps.map (up1 b t) := by unfold addB; exact (congrArg _ (if_pos e)).trans (List.append_nil _)
    rw [ea]
    simp only [ev_bd, ev_pu, ev_some, ev_var, ev_K, ev_c1, ev_c2, ev_tB, ev_tAnd, ev_tOr, ev_tNot, ev_And, ev_Or, ev_Not, ev_If, ev_chain, ev_nil, ev_cons, ev_tup, ev_lst, ev_idx2, idxA_l, idxA_t, idxA_s, idxA_a, idxA_e0, idxA_e1, ev_call, ev_ap, ev_cut, ev_part0, ev_part1, ev_str, ev_tgt, ev_iLst, ev_iTup, ev_iStr, ev_iRng, ev_nop, ev_seq, ev_st, ev_set, ev_new, ev_sTgt, ev_par, ev_sIf, ev_ret, ev_do, ev_raise, ev_for, ev_app, ev_iOwn, ev_enum, ev_oidx, ev_put, ev_yes, lt_len0, lt_lenS, asg_nm, asg_tp, opt_bind_some, len_two, len_one, len_zero, List.getElem?_cons_zero, List.getElem?_cons_succ, List.set_cons_zero, List.set_cons_succ, ↓reduceIte, Bool.false_eq_true, Bool.not_true, Bool.not_false, sl, ro, hi, hu, oTuple_l]
  · rw [decide_eq_false e] at hi
    have ea : addB ps (b, t) = ps ++ [(b, t)] := by unfold addB; rw [up_not e]; exact congrArg _ (if_neg e)
    have hadd : oAdd (.tup (ps.map encP)) (.tup [.tup [.str b, .int t]]) = some (.tup ((ps ++ [(b, t)]).map encP)) := by
      rw [oAdd_t _ _ (by have := h.len; simp; omega), List.map_append]
      rfl
    rw [ea]
    simp only [ev_bd, ev_pu, ev_some, ev_var, ev_K, ev_c1, ev_c2, ev_tB, ev_tAnd, ev_tOr, ev_tNot, ev_And, ev_Or, ev_Not, ev_If, ev_chain, ev_nil, ev_cons, ev_tup, ev_lst, ev_idx2, idxA_l, idxA_t, idxA_s, idxA_a, idxA_e0, idxA_e1, ev_call, ev_ap, ev_cut, ev_part0, ev_part1, ev_str, ev_tgt, ev_iLst, ev_iTup, ev_iStr, ev_iRng, ev_nop, ev_seq, ev_st, ev_set, ev_new, ev_sTgt, ev_par, ev_sIf, ev_ret, ev_do, ev_raise, ev_for, ev_app, ev_iOwn, ev_enum, ev_oidx, ev_put, ev_yes, lt_len0, lt_lenS, asg_nm, asg_tp, opt_bind_some, len_two, len_one, len_zero, List.getElem?_cons_zero, List.getElem?_cons_succ, List.set_cons_zero, List.set_cons_succ, ↓reduceIte, Bool.false_eq_true, Bool.not_true, Bool.not_false, sl, ro, hi, hadd]
end Pu

namespace Pu
def fit02 : M D := (cAnd (c2 oLe (c1 oLen (cVar 10)) (cK (.int 8))) (c1 oAll (cLc [8, 9] (iTup (cVar 10)) (.tp (.nm 8) (.nm 9)) tYes (c2 oLe (cVar 9) (cK (.int 20))))))
theorem fit02_run (V N P B T K : D) (rs : List (List Nat × Nat)) (m : D) :
    fit02 [none, some (.v (.amb)), some (.v (V)), some (.v (N)), some (.v (P)), some (.v (B)), some (.v (T)), some (.v (K)), none, none, some (.v (.tup (rs.map encP))), none, none, none, none, none, none, none, none, none] m = .ok (.bl (fitsB rs)) [none, some (.v (.amb)), some (.v (V)), some (.v (N)), some (.v (P)), some (.v (B)), some (.v (T)), some (.v (K)), none, none, some (.v (.tup (rs.map encP))), none, none, none, none, none, none, none, none, none] m := by
  have hlc := lc_run (vs := [8, 9]) (it := iTup (cVar 10)) (tg := .tp (.nm 8) (.nm 9)) (t := tYes) (e := c2 oLe (cVar 9) (cK (.int 20))) (r := [none, some (.v (.amb)), some (.v (V)), some (.v (N)), some (.v (P)), some (.v (B)), some (.v (T)), some (.v (K)), none, none, some (.v (.tup (rs.map encP))), none, none, none, none, none, none, none, none, none]) (m := m) (ds := rs.map encP) (fun _ => true) (fun d => match d with | .tup [_, .int t] => .bl (decide (t ≤ 20)) | _ => .non) (by simp only [ev_bd, ev_pu, ev_some, ev_var, ev_K, ev_c1, ev_c2, ev_tB, ev_tAnd, ev_tOr, ev_tNot, ev_And, ev_Or, ev_Not, ev_If, ev_chain, ev_nil, ev_cons, ev_tup, ev_lst, ev_idx2, idxA_l, idxA_t, idxA_s, idxA_a, idxA_e0, idxA_e1, ev_call, ev_ap, ev_cut, ev_part0, ev_part1, ev_str, ev_tgt, ev_iLst, ev_iTup, ev_iStr, ev_iRng, ev_nop, ev_seq, ev_st, ev_set, ev_new, ev_sTgt, ev_par, ev_sIf, ev_ret, ev_do, ev_raise, ev_for, ev_app, ev_iOwn, ev_enum, ev_oidx, ev_put, ev_yes, lt_len0, lt_lenS, asg_nm, asg_tp, opt_bind_some, len_two, len_one, len_zero, List.getElem?_cons_zero, List.getElem?_cons_succ, List.set_cons_zero, List.set_cons_succ, ↓reduceIte, Bool.false_eq_true, Bool.not_true, Bool.not_false, sl, ro]) (by
    intro d hd
    obtain ⟨q, hq, rfl⟩ := List.mem_map.mp hd
    refine ⟨[none, some (.v (.amb)), some (.v (V)), some (.v (N)), some (.v (P)), some (.v (B)), some (.v (T)), some (.v (K)), some (.v (.str q.1)), some (.v (.int q.2)), some (.v (.tup (rs.map encP))), none, none, none, none, none, none, none, none, none], rfl, rfl, rfl, fun _ => ?_⟩
    simp only [ev_bd, ev_pu, ev_some, ev_var, ev_K, ev_c1, ev_c2, ev_tB, ev_tAnd, ev_tOr, ev_tNot, ev_And, ev_Or, ev_Not, ev_If, ev_chain, ev_nil, ev_cons, ev_tup, ev_lst, ev_idx2, idxA_l, idxA_t, idxA_s, idxA_a, idxA_e0, idxA_e1, ev_call, ev_ap, ev_cut, ev_part0, ev_part1, ev_str, ev_tgt, ev_iLst, ev_iTup, ev_iStr, ev_iRng, ev_nop, ev_seq, ev_st, ev_set, ev_new, ev_sTgt, ev_par, ev_sIf, ev_ret, ev_do, ev_raise, ev_for, ev_app, ev_iOwn, ev_enum, ev_oidx, ev_put, ev_yes, lt_len0, lt_lenS, asg_nm, asg_tp, opt_bind_some, len_two, len_one, len_zero, List.getElem?_cons_zero, List.getElem?_cons_succ, List.set_cons_zero, List.set_cons_succ, ↓reduceIte, Bool.false_eq_true, Bool.not_true, Bool.not_false, sl, ro, le_i, encP])
  have e1 : ((rs.map encP).filter fun _ => true).map (fun d => match d with | .tup [_, .int t] => D.bl (decide (t ≤ 20)) | _ => .non) = (rs.map fun q => decide (q.2 ≤ 20)).map .bl := by
    rw [List.filter_eq_self.mpr fun _ _ => rfl, List.map_map, List.map_map]
    apply List.map_congr_left
    intro q _
    show D.bl (decide ((q.2 : Int) ≤ 20)) = .bl (decide (q.2 ≤ 20))
    congr 1
    rw [Bool.eq_iff_iff, decide_eq_true_iff, decide_eq_true_iff]
    omega
  rw [e1] at hlc
  have hall := all_bls (rs.map fun q => decide (q.2 ≤ 20))
  rw [List.all_map] at hall
  have hlen : oLen (.tup (rs.map encP)) = some (.int rs.length) := by rw [oLen_t, List.length_map]
  unfold fitsB fit02
  by_cases h8 : rs.length ≤ 8
  · have hd : decide ((rs.length : Int) ≤ 8) = true := decide_eq_true (by omega)
    rw [decide_eq_true h8, Bool.true_and]
    simp only [ev_bd, ev_pu, ev_some, ev_var, ev_K, ev_c1, ev_c2, ev_tB, ev_tAnd, ev_tOr, ev_tNot, ev_And, ev_Or, ev_Not, ev_If, ev_chain, ev_nil, ev_cons, ev_tup, ev_lst, ev_idx2, idxA_l, idxA_t, idxA_s, idxA_a, idxA_e0, idxA_e1, ev_call, ev_ap, ev_cut, ev_part0, ev_part1, ev_str, ev_tgt, ev_iLst, ev_iTup, ev_iStr, ev_iRng, ev_nop, ev_seq, ev_st, ev_set, ev_new, ev_sTgt, ev_par, ev_sIf, ev_ret, ev_do, ev_raise, ev_for, ev_app, ev_iOwn, ev_enum, ev_oidx, ev_put, ev_yes, lt_len0, lt_lenS, asg_nm, asg_tp, opt_bind_some, len_two, len_one, len_zero, List.getElem?_cons_zero, List.getElem?_cons_succ, List.set_cons_zero, List.set_cons_succ, ↓reduceIte, Bool.false_eq_true, Bool.not_true, Bool.not_false, sl, ro, hlen, le_i, hd, hlc, hall]
    rfl
  · have hd : decide ((rs.length : Int) ≤ 8) = false := decide_eq_false (by omega)
    rw [decide_eq_false h8, Bool.false_and]
    simp only [ev_bd, ev_pu, ev_some, ev_var, ev_K, ev_c1, ev_c2, ev_tB, ev_tAnd, ev_tOr, ev_tNot, ev_And, ev_Or, ev_Not, ev_If, ev_chain, ev_nil, ev_cons, ev_tup, ev_lst, ev_idx2, idxA_l, idxA_t, idxA_s, idxA_a, idxA_e0, idxA_e1, ev_call, ev_ap, ev_cut, ev_part0, ev_part1, ev_str, ev_tgt, ev_iLst, ev_iTup, ev_iStr, ev_iRng, ev_nop, ev_seq, ev_st, ev_set, ev_new, ev_sTgt, ev_par, ev_sIf, ev_ret, ev_do, ev_raise, ev_for, ev_app, ev_iOwn, ev_enum, ev_oidx, ev_put, ev_yes, lt_len0, lt_lenS, asg_nm, asg_tp, opt_bind_some, len_two, len_one, len_zero, List.getElem?_cons_zero, List.getElem?_cons_succ, List.set_cons_zero, List.set_cons_succ, ↓reduceIte, Bool.false_eq_true, Bool.not_true, Bool.not_false, sl, ro, hlen, le_i, hd]
theorem err8b : errD 8 = .tup [.str [101, 114, 114, 111, 114], .str [84, 111, 111, 77, 97, 110, 121]] := Eq.trans rfl rfl
theorem c8b : (8 < 12) = True := by decide
def chk02 : M Fl := (sIf (tB (c2 oNe (cTold (cCall f_added (aCons (cVar 2) (aCons (cVar 5) (aCons (cVar 6) aNil))))) (cIf (tB (cVar 11)) (cTup (aCons (cVar 3) (aCons (cVar 10) aNil))) (cTup (aCons (cK (.str [101, 114, 114, 111, 114])) (aCons (cK (.str [84, 111, 111, 77, 97, 110, 121])) aNil)))))) (sRet (cK (.bl false))) sNop)
theorem chk02_run {n : Nat} {ps : List (List Nat × Nat)} (h : Vot n ps) {b : List Nat} {t : Nat} (hb : Bal n b) (h1 : 1 ≤ t) (h20 : t ≤ 20) (P K m : D) :
    chk02 [none, some (.v (.amb)), some (.v (encV n ps)), some (.v (.int n)), some (.v (P)), some (.v (.str b)), some (.v (.int t)), some (.v (K)), none, none, some (.v (.tup ((addB ps (b, t)).map encP))), some (.v (.bl (fitsB (addB ps (b, t))))), none, none, none, none, none, none, none, none] m = .ok .nx [none, some (.v (.amb)), some (.v (encV n ps)), some (.v (.int n)), some (.v (P)), some (.v (.str b)), some (.v (.int t)), some (.v (K)), none, none, some (.v (.tup ((addB ps (b, t)).map encP))), some (.v (.bl (fitsB (addB ps (b, t))))), none, none, none, none, none, none, none, none] m := by
  have ha := added_run h hb h1 h20 m
  unfold chk02
  cases hf : fitsB (addB ps (b, t)) with
  | true =>
    rw [hf, if_pos rfl] at ha
    have hx : D.tup [.int n, .tup ((addB ps (b, t)).map encP)] = encV n (addB ps (b, t)) := rfl
    simp only [ev_bd, ev_pu, ev_some, ev_var, ev_K, ev_c1, ev_c2, ev_tB, ev_tAnd, ev_tOr, ev_tNot, ev_And, ev_Or, ev_Not, ev_If, ev_chain, ev_nil, ev_cons, ev_tup, ev_lst, ev_idx2, idxA_l, idxA_t, idxA_s, idxA_a, idxA_e0, idxA_e1, ev_call, ev_ap, ev_cut, ev_part0, ev_part1, ev_str, ev_tgt, ev_iLst, ev_iTup, ev_iStr, ev_iRng, ev_nop, ev_seq, ev_st, ev_set, ev_new, ev_sTgt, ev_par, ev_sIf, ev_ret, ev_do, ev_raise, ev_for, ev_app, ev_iOwn, ev_enum, ev_oidx, ev_put, ev_yes, lt_len0, lt_lenS, asg_nm, asg_tp, opt_bind_some, len_two, len_one, len_zero, List.getElem?_cons_zero, List.getElem?_cons_succ, List.set_cons_zero, List.set_cons_succ, ↓reduceIte, Bool.false_eq_true, Bool.not_true, Bool.not_false, sl, ro, ev_told, frz_cons, frz_nil, frz_v, frz_none, ha, hx, ne_encV]
  | false =>
    rw [hf, if_neg Bool.false_ne_true] at ha
    simp only [ev_bd, ev_pu, ev_some, ev_var, ev_K, ev_c1, ev_c2, ev_tB, ev_tAnd, ev_tOr, ev_tNot, ev_And, ev_Or, ev_Not, ev_If, ev_chain, ev_nil, ev_cons, ev_tup, ev_lst, ev_idx2, idxA_l, idxA_t, idxA_s, idxA_a, idxA_e0, idxA_e1, ev_call, ev_ap, ev_cut, ev_part0, ev_part1, ev_str, ev_tgt, ev_iLst, ev_iTup, ev_iStr, ev_iRng, ev_nop, ev_seq, ev_st, ev_set, ev_new, ev_sTgt, ev_par, ev_sIf, ev_ret, ev_do, ev_raise, ev_for, ev_app, ev_iOwn, ev_enum, ev_oidx, ev_put, ev_yes, lt_len0, lt_lenS, asg_nm, asg_tp, opt_bind_some, len_two, len_one, len_zero, List.getElem?_cons_zero, List.getElem?_cons_succ, List.set_cons_zero, List.set_cons_succ, ↓reduceIte, Bool.false_eq_true, Bool.not_true, Bool.not_false, sl, ro, ev_told, frz_cons, frz_nil, frz_v, frz_none, ha, c8b, ← err8b, ne_errs]
/-! ### the names are shuffled -/
theorem ev_swap {i ja jp : Nat} {c : M D} {r : Rho} {m : D} : sSwap i ja jp c r m = bd c (fun d => fun r m => match d, r[i]?, r[ja]?, r[jp]? with
  | .tup [x, y], some (some (.own (.lst ds))), some (some (.v (.int a))), some (some (.v (.int p))) => (match ixN ds.length a, ixN ds.length p with
    | some n, some k => .ok .nx (r.set i (some (.own (.lst ((ds.set n x).set k y))))) m
    | _, _ => .bad)
  | _, _, _, _ => .bad) r m := Eq.trans rfl rfl
theorem ixN_nat {n k : Nat} (h : k < n) : ixN n (k : Int) = some k := by
  unfold ixN
  rw [if_pos (by omega), if_pos (by omega)]
  simp
def turnS : M Fl := (sSeq (sSet 14 (cCall f__law_roll (aCons (cVar 1) (aCons (cVar 3) aNil))))
  (sSeq (sPar 8 15 false false (cOIdx 12 (cVar 13)) (cOIdx 12 (cVar 14)))
  (sSwap 12 13 14 (cTup (aCons (cVar 15) (aCons (cVar 8) aNil))))))
theorem idxL_at {w : List Nat} {k : Nat} (h : k < w.length) : oIdx (.lst (sgn w)) (.int k) = some (.str [w.getD k 0]) := by
  show atI (sgn w) (k : Int) = _
  exact atI_ok (by unfold sgn; simp [h])
theorem sgn_set (w : List Nat) (k c : Nat) : (sgn w).set k (.str [c]) = sgn (w.set k c) := by
  unfold sgn
  rw [List.map_set]
theorem turnS_run {n : Nat} (h2 : 2 ≤ n) (h5 : n ≤ 5) {w : List Nat} (hw : w.length = n) (V P B T K DU F : D) (x8 x14 x15 : Option D) {j : Nat} (hj : j < n) (m : D) (hm : Dc m) :
    ∃ w' b8 b14 b15 m', w'.Perm w ∧ Dc m' ∧ turnS [none, some (.v (.amb)), some (.v (V)), some (.v (.int n)), some (.v (P)), some (.v (B)), some (.v (T)), some (.v (K)), vv x8, none, some (.v (DU)), some (.v (F)), some (.own (.lst (sgn w))), some (.v (.int j)), vv x14, vv x15, none, none, none, none] m = .ok .nx [none, some (.v (.amb)), some (.v (V)), some (.v (.int n)), some (.v (P)), some (.v (B)), some (.v (T)), some (.v (K)), vv (some b8), none, some (.v (DU)), some (.v (F)), some (.own (.lst (sgn w'))), some (.v (.int j)), vv (some b14), vv (some b15), none, none, none, none] m' := by
  obtain ⟨v, m1, v0, v1, hm1, hr⟩ := roll_run (n : Int) (by omega) (by omega) m hm
  obtain ⟨p, rfl⟩ : ∃ p : Nat, v = (p : Int) := ⟨v.toNat, by omega⟩
  have hp : p < n := by omega
  have hv : ∀ d : D, vv (some d) = some (.v d) := fun _ => rfl
  have i1 := idxL_at (w := w) (k := j) (by omega)
  have i2 := idxL_at (w := w) (k := p) (by omega)
  have hl : (sgn w).length = n := by unfold sgn; rw [List.length_map, hw]
  have k1 : ixN (sgn w).length (j : Int) = some j := by rw [hl]; exact ixN_nat hj
  have k2 : ixN (sgn w).length (p : Int) = some p := by rw [hl]; exact ixN_nat hp
  refine ⟨(w.set j (w.getD p 0)).set p (w.getD j 0), .str [w.getD j 0], .int p, .str [w.getD p 0], m1, ?_, hm1, ?_⟩
  · have hj' : j < w.length := by omega
    have hp' : p < w.length := by omega
    have := List.set_set_perm (as := w) (i := j) (j := p) hj' hp'
    rw [List.getD_eq_getElem?_getD, List.getD_eq_getElem?_getD, List.getElem?_eq_getElem hj', List.getElem?_eq_getElem hp']
    exact this
  · rw [← sgn_set, ← sgn_set, hv, hv, hv]
    unfold turnS
    simp only [ev_bd, ev_pu, ev_some, ev_var, ev_K, ev_c1, ev_c2, ev_tB, ev_tAnd, ev_tOr, ev_tNot, ev_And, ev_Or, ev_Not, ev_If, ev_chain, ev_nil, ev_cons, ev_tup, ev_lst, ev_idx2, idxA_l, idxA_t, idxA_s, idxA_a, idxA_e0, idxA_e1, ev_call, ev_ap, ev_cut, ev_part0, ev_part1, ev_str, ev_tgt, ev_iLst, ev_iTup, ev_iStr, ev_iRng, ev_nop, ev_seq, ev_st, ev_set, ev_new, ev_sTgt, ev_par, ev_sIf, ev_ret, ev_do, ev_raise, ev_for, ev_app, ev_iOwn, ev_enum, ev_oidx, ev_put, ev_yes, lt_len0, lt_lenS, asg_nm, asg_tp, opt_bind_some, len_two, len_one, len_zero, List.getElem?_cons_zero, List.getElem?_cons_succ, List.set_cons_zero, List.set_cons_succ, ↓reduceIte, Bool.false_eq_true, Bool.not_true, Bool.not_false, sl, ro, ev_swap, hr, i1, i2, k1, k2]
end Pu

namespace Pu
/-! ### the rows by their new names -/
def row02 : M Fl := (sApp 10 (cTup (aCons (c2 oJoin (cStr (cK (.str []))) (cLc [8] (iStr (cVar 18)) (.nm 8) tYes (cIdx (cVar 12) (c2 oFind (cStr (cK (.str [97, 98, 99, 100, 101]))) (cVar 8))))) (aCons (cVar 9) aNil))))
theorem rn02_run {n : Nat} {w : List Nat} (hw : w.length = n) {b : List Nat} (hb : ∀ c ∈ b, c ∈ LET.take n) (V N P B T K F X M : D) (a : List D) (x8 x9 x13 x14 x15 : Option D) (m : D) :
    cLc [8] (iStr (cVar 18)) (.nm 8) tYes (cIdx (cVar 12) (c2 oFind (cStr (cK (.str [97, 98, 99, 100, 101]))) (cVar 8))) [] [none, some (.v (.amb)), some (.v (V)), some (.v (N)), some (.v (P)), some (.v (B)), some (.v (T)), some (.v (K)), vv x8, vv x9, some (.own (.lst a)), some (.v (F)), some (.v (.lst (sgn w))), vv x13, vv x14, vv x15, some (.v (X)), some (.v (M)), some (.v (.str b)), none] m = .ok (.lst (sgn (rn w b))) [none, some (.v (.amb)), some (.v (V)), some (.v (N)), some (.v (P)), some (.v (B)), some (.v (T)), some (.v (K)), vv x8, vv x9, some (.own (.lst a)), some (.v (F)), some (.v (.lst (sgn w))), vv x13, vv x14, vv x15, some (.v (X)), some (.v (M)), some (.v (.str b)), none] m := by
  have := lc_run (vs := [8]) (it := iStr (cVar 18)) (tg := .nm 8) (t := tYes) (e := cIdx (cVar 12) (c2 oFind (cStr (cK (.str [97, 98, 99, 100, 101]))) (cVar 8))) (r := [none, some (.v (.amb)), some (.v (V)), some (.v (N)), some (.v (P)), some (.v (B)), some (.v (T)), some (.v (K)), vv x8, vv x9, some (.own (.lst a)), some (.v (F)), some (.v (.lst (sgn w))), vv x13, vv x14, vv x15, some (.v (X)), some (.v (M)), some (.v (.str b)), none]) (m := m) (ds := sgn b) (fun _ => true) (fun d => .str [w.getD (LET.idxOf (sg1 d)) 0]) (by simp only [ev_bd, ev_pu, ev_some, ev_var, ev_K, ev_c1, ev_c2, ev_tB, ev_tAnd, ev_tOr, ev_tNot, ev_And, ev_Or, ev_Not, ev_If, ev_chain, ev_nil, ev_cons, ev_tup, ev_lst, ev_idx2, idxA_l, idxA_t, idxA_s, idxA_a, idxA_e0, idxA_e1, ev_call, ev_ap, ev_cut, ev_part0, ev_part1, ev_str, ev_tgt, ev_iLst, ev_iTup, ev_iStr, ev_iRng, ev_nop, ev_seq, ev_st, ev_set, ev_new, ev_sTgt, ev_par, ev_sIf, ev_ret, ev_do, ev_raise, ev_for, ev_app, ev_iOwn, ev_enum, ev_oidx, ev_put, ev_yes, lt_len0, lt_lenS, asg_nm, asg_tp, opt_bind_some, len_two, len_one, len_zero, List.getElem?_cons_zero, List.getElem?_cons_succ, List.set_cons_zero, List.set_cons_succ, ↓reduceIte, Bool.false_eq_true, Bool.not_true, Bool.not_false, sl, ro]) (by
    intro d hd
    obtain ⟨c, hc, rfl⟩ := List.mem_map.mp hd
    refine ⟨[none, some (.v (.amb)), some (.v (V)), some (.v (N)), some (.v (P)), some (.v (B)), some (.v (T)), some (.v (K)), some (.v (.str [c])), vv x9, some (.own (.lst a)), some (.v (F)), some (.v (.lst (sgn w))), vv x13, vv x14, vv x15, some (.v (X)), some (.v (M)), some (.v (.str b)), none], rfl, rfl, rfl, fun _ => ?_⟩
    obtain ⟨h1, h2⟩ := let_take (hb c hc)
    have h3 := find_ok LET c h2
    have h4 := idxL_at (w := w) (k := LET.idxOf c) (by omega)
    have e : LET = [97, 98, 99, 100, 101] := rfl
    rw [e] at h3 h4
    simp only [ev_bd, ev_pu, ev_some, ev_var, ev_K, ev_c1, ev_c2, ev_tB, ev_tAnd, ev_tOr, ev_tNot, ev_And, ev_Or, ev_Not, ev_If, ev_chain, ev_nil, ev_cons, ev_tup, ev_lst, ev_idx2, idxA_l, idxA_t, idxA_s, idxA_a, idxA_e0, idxA_e1, ev_call, ev_ap, ev_cut, ev_part0, ev_part1, ev_str, ev_tgt, ev_iLst, ev_iTup, ev_iStr, ev_iRng, ev_nop, ev_seq, ev_st, ev_set, ev_new, ev_sTgt, ev_par, ev_sIf, ev_ret, ev_do, ev_raise, ev_for, ev_app, ev_iOwn, ev_enum, ev_oidx, ev_put, ev_yes, lt_len0, lt_lenS, asg_nm, asg_tp, opt_bind_some, len_two, len_one, len_zero, List.getElem?_cons_zero, List.getElem?_cons_succ, List.set_cons_zero, List.set_cons_succ, ↓reduceIte, Bool.false_eq_true, Bool.not_true, Bool.not_false, sl, ro, h3, h4]
    rfl)
  rw [this, List.filter_eq_self.mpr fun _ _ => rfl]
  unfold sgn rn
  rw [List.map_map, List.map_map]
  rfl
theorem row02_run {n : Nat} {w : List Nat} (hw : w.length = n) (h5 : n ≤ 5) (V N P B T K F X M : D) (x8 x13 x14 x15 : Option D) (m : D) : ∀ (qs acc : List (List Nat × Nat)) (x9 x18 : Option D), acc.length + qs.length ≤ 900 → (∀ q ∈ qs, Bal n q.1) →
    ∃ y9 y18 : Option D, forL (.tp (.nm 18) (.nm 9)) row02 (qs.map encP) [none, some (.v (.amb)), some (.v (V)), some (.v (N)), some (.v (P)), some (.v (B)), some (.v (T)), some (.v (K)), vv x8, vv x9, some (.own (.lst (acc.map encP))), some (.v (F)), some (.v (.lst (sgn w))), vv x13, vv x14, vv x15, some (.v (X)), some (.v (M)), vv x18, none] m = .ok .nx [none, some (.v (.amb)), some (.v (V)), some (.v (N)), some (.v (P)), some (.v (B)), some (.v (T)), some (.v (K)), vv x8, vv y9, some (.own (.lst ((acc ++ ren w qs).map encP))), some (.v (F)), some (.v (.lst (sgn w))), vv x13, vv x14, vv x15, some (.v (X)), some (.v (M)), vv y18, none] m
  | [], acc, x9, x18, _, _ => ⟨x9, x18, by
    have e1 : acc ++ ren w [] = acc := by simp [ren]
    rw [e1]
    exact ev_forNil⟩
  | q :: qs, acc, x9, x18, hl, hb => by
    rw [List.length_cons] at hl
    obtain ⟨y9, y18, h⟩ := row02_run hw h5 V N P B T K F X M x8 x13 x14 x15 m qs (acc ++ [(rn w q.1, q.2)]) (some (.int q.2)) (some (.str q.1)) (by rw [List.length_append]; simp; omega) (fun q hq => hb q (List.mem_cons_of_mem _ hq))
    refine ⟨y9, y18, ?_⟩
    have e1 : acc ++ ren w (q :: qs) = (acc ++ [(rn w q.1, q.2)]) ++ ren w qs := by unfold ren; rw [List.map_cons, List.append_assoc]; rfl
    have easg : ∀ r : Rho, asg (.tp (.nm 18) (.nm 9)) (encP q) r = (asg (.nm 18) (.str q.1) r).bind (asg (.nm 9) (.int q.2)) := fun r => rfl
    have hq := hb q List.mem_cons_self
    have hv : ∀ d : D, vv (some d) = some (.v d) := fun _ => rfl
    have hr := rn02_run hw hq.sub V N P B T K F X M (acc.map encP) x8 (some (.int q.2)) x13 x14 x15 m
    have hlen : (rn w q.1).length ≤ 1000 := by have := hq.len h5; unfold rn; rw [List.length_map]; omega
    have hj := join_sgn (rn w q.1) hlen
    have hap : (acc.map encP).length < LN := by rw [List.length_map]; unfold LN; omega
    rw [hv] at hr h
    rw [hv] at h
    rw [e1, ← h, List.map_cons, ev_forCons, List.map_append]
    unfold row02
    simp only [ev_bd, ev_pu, ev_some, ev_var, ev_K, ev_c1, ev_c2, ev_tB, ev_tAnd, ev_tOr, ev_tNot, ev_And, ev_Or, ev_Not, ev_If, ev_chain, ev_nil, ev_cons, ev_tup, ev_lst, ev_idx2, idxA_l, idxA_t, idxA_s, idxA_a, idxA_e0, idxA_e1, ev_call, ev_ap, ev_cut, ev_part0, ev_part1, ev_str, ev_tgt, ev_iLst, ev_iTup, ev_iStr, ev_iRng, ev_nop, ev_seq, ev_st, ev_set, ev_new, ev_sTgt, ev_par, ev_sIf, ev_ret, ev_do, ev_raise, ev_for, ev_app, ev_iOwn, ev_enum, ev_oidx, ev_put, ev_yes, lt_len0, lt_lenS, asg_nm, asg_tp, opt_bind_some, len_two, len_one, len_zero, List.getElem?_cons_zero, List.getElem?_cons_succ, List.set_cons_zero, List.set_cons_succ, ↓reduceIte, Bool.false_eq_true, Bool.not_true, Bool.not_false, sl, ro, easg, hr, hj, hap]
    rfl
/-! ### the bad ones -/
def badB02 : M Fl := (sIf (tB (c2 oNe (cTold (cCall f_added (aCons (cVar 2) (aCons (cVar 19) (aCons (cK (.int 1)) aNil))))) (cTup (aCons (cK (.str [101, 114, 114, 111, 114])) (aCons (cK (.str [73, 110, 118, 97, 108, 105, 100, 66, 97, 108, 108, 111, 116])) aNil))))) (sRet (cK (.bl false))) sNop)
def badT02 : M Fl := (sIf (tB (c2 oNe (cTold (cCall f_added (aCons (cVar 2) (aCons (cK (.str [97])) (aCons (cVar 19) aNil))))) (cTup (aCons (cK (.str [101, 114, 114, 111, 114])) (aCons (cK (.str [73, 110, 118, 97, 108, 105, 100, 84, 105, 109, 101, 115])) aNil))))) (sRet (cK (.bl false))) sNop)
def badN02 : M Fl := (sIf (tB (c2 oNe (cTold (cCall f_renamed (aCons (cVar 2) (aCons (cVar 19) aNil)))) (cTup (aCons (cK (.str [101, 114, 114, 111, 114])) (aCons (cK (.str [73, 110, 118, 97, 108, 105, 100, 78, 97, 109, 101, 115])) aNil))))) (sRet (cK (.bl false))) sNop)
theorem err2b : errD 2 = .tup [.str [101, 114, 114, 111, 114], .str [73, 110, 118, 97, 108, 105, 100, 66, 97, 108, 108, 111, 116]] := Eq.trans rfl rfl
theorem err3b : errD 3 = .tup [.str [101, 114, 114, 111, 114], .str [73, 110, 118, 97, 108, 105, 100, 84, 105, 109, 101, 115]] := Eq.trans rfl rfl
theorem err4b : errD 4 = .tup [.str [101, 114, 114, 111, 114], .str [73, 110, 118, 97, 108, 105, 100, 78, 97, 109, 101, 115]] := Eq.trans rfl rfl
theorem c2b : (2 < 12) = True := by decide
theorem c3b : (3 < 12) = True := by decide
theorem c4b : (4 < 12) = True := by decide
section
variable {n : Nat} {ps : List (List Nat × Nat)} (V N P B T K DU F W X M : D) (x8 x9 x13 x14 x15 x18 : Option D)
theorem badB_run {d m : D} (hd : f_added [V, d, .int 1] m = .exc 2 m) : badB02 [none, some (.v (.amb)), some (.v (V)), some (.v (N)), some (.v (P)), some (.v (B)), some (.v (T)), some (.v (K)), vv x8, vv x9, some (.v (DU)), some (.v (F)), some (.v (W)), vv x13, vv x14, vv x15, some (.v (X)), some (.v (M)), vv x18, some (.v (d))] m = .ok .nx [none, some (.v (.amb)), some (.v (V)), some (.v (N)), some (.v (P)), some (.v (B)), some (.v (T)), some (.v (K)), vv x8, vv x9, some (.v (DU)), some (.v (F)), some (.v (W)), vv x13, vv x14, vv x15, some (.v (X)), some (.v (M)), vv x18, some (.v (d))] m := by
  unfold badB02
  simp only [ev_bd, ev_pu, ev_some, ev_var, ev_K, ev_c1, ev_c2, ev_tB, ev_tAnd, ev_tOr, ev_tNot, ev_And, ev_Or, ev_Not, ev_If, ev_chain, ev_nil, ev_cons, ev_tup, ev_lst, ev_idx2, idxA_l, idxA_t, idxA_s, idxA_a, idxA_e0, idxA_e1, ev_call, ev_ap, ev_cut, ev_part0, ev_part1, ev_str, ev_tgt, ev_iLst, ev_iTup, ev_iStr, ev_iRng, ev_nop, ev_seq, ev_st, ev_set, ev_new, ev_sTgt, ev_par, ev_sIf, ev_ret, ev_do, ev_raise, ev_for, ev_app, ev_iOwn, ev_enum, ev_oidx, ev_put, ev_yes, lt_len0, lt_lenS, asg_nm, asg_tp, opt_bind_some, len_two, len_one, len_zero, List.getElem?_cons_zero, List.getElem?_cons_succ, List.set_cons_zero, List.set_cons_succ, ↓reduceIte, Bool.false_eq_true, Bool.not_true, Bool.not_false, sl, ro, ev_told, frz_cons, frz_nil, frz_v, frz_none, frz_vv, hd, c2b, ← err2b, ne_errs]
theorem badT_run {d m : D} (hd : f_added [V, .str [97], d] m = .exc 3 m) : badT02 [none, some (.v (.amb)), some (.v (V)), some (.v (N)), some (.v (P)), some (.v (B)), some (.v (T)), some (.v (K)), vv x8, vv x9, some (.v (DU)), some (.v (F)), some (.v (W)), vv x13, vv x14, vv x15, some (.v (X)), some (.v (M)), vv x18, some (.v (d))] m = .ok .nx [none, some (.v (.amb)), some (.v (V)), some (.v (N)), some (.v (P)), some (.v (B)), some (.v (T)), some (.v (K)), vv x8, vv x9, some (.v (DU)), some (.v (F)), some (.v (W)), vv x13, vv x14, vv x15, some (.v (X)), some (.v (M)), vv x18, some (.v (d))] m := by
  unfold badT02
  simp only [ev_bd, ev_pu, ev_some, ev_var, ev_K, ev_c1, ev_c2, ev_tB, ev_tAnd, ev_tOr, ev_tNot, ev_And, ev_Or, ev_Not, ev_If, ev_chain, ev_nil, ev_cons, ev_tup, ev_lst, ev_idx2, idxA_l, idxA_t, idxA_s, idxA_a, idxA_e0, idxA_e1, ev_call, ev_ap, ev_cut, ev_part0, ev_part1, ev_str, ev_tgt, ev_iLst, ev_iTup, ev_iStr, ev_iRng, ev_nop, ev_seq, ev_st, ev_set, ev_new, ev_sTgt, ev_par, ev_sIf, ev_ret, ev_do, ev_raise, ev_for, ev_app, ev_iOwn, ev_enum, ev_oidx, ev_put, ev_yes, lt_len0, lt_lenS, asg_nm, asg_tp, opt_bind_some, len_two, len_one, len_zero, List.getElem?_cons_zero, List.getElem?_cons_succ, List.set_cons_zero, List.set_cons_succ, ↓reduceIte, Bool.false_eq_true, Bool.not_true, Bool.not_false, sl, ro, ev_told, frz_cons, frz_nil, frz_v, frz_none, frz_vv, hd, c3b, ← err3b, ne_errs]
theorem badN_run {d m : D} (hd : f_renamed [V, d] m = .exc 4 m) : badN02 [none, some (.v (.amb)), some (.v (V)), some (.v (N)), some (.v (P)), some (.v (B)), some (.v (T)), some (.v (K)), vv x8, vv x9, some (.v (DU)), some (.v (F)), some (.v (W)), vv x13, vv x14, vv x15, some (.v (X)), some (.v (M)), vv x18, some (.v (d))] m = .ok .nx [none, some (.v (.amb)), some (.v (V)), some (.v (N)), some (.v (P)), some (.v (B)), some (.v (T)), some (.v (K)), vv x8, vv x9, some (.v (DU)), some (.v (F)), some (.v (W)), vv x13, vv x14, vv x15, some (.v (X)), some (.v (M)), vv x18, some (.v (d))] m := by
  unfold badN02
  simp only [ev_bd, ev_pu, ev_some, ev_var, ev_K, ev_c1, ev_c2, ev_tB, ev_tAnd, ev_tOr, ev_tNot, ev_And, ev_Or, ev_Not, ev_If, ev_chain, ev_nil, ev_cons, ev_tup, ev_lst, ev_idx2, idxA_l, idxA_t, idxA_s, idxA_a, idxA_e0, idxA_e1, ev_call, ev_ap, ev_cut, ev_part0, ev_part1, ev_str, ev_tgt, ev_iLst, ev_iTup, ev_iStr, ev_iRng, ev_nop, ev_seq, ev_st, ev_set, ev_new, ev_sTgt, ev_par, ev_sIf, ev_ret, ev_do, ev_raise, ev_for, ev_app, ev_iOwn, ev_enum, ev_oidx, ev_put, ev_yes, lt_len0, lt_lenS, asg_nm, asg_tp, opt_bind_some, len_two, len_one, len_zero, List.getElem?_cons_zero, List.getElem?_cons_succ, List.set_cons_zero, List.set_cons_succ, ↓reduceIte, Bool.false_eq_true, Bool.not_true, Bool.not_false, sl, ro, ev_told, frz_cons, frz_nil, frz_v, frz_none, frz_vv, hd, c4b, ← err4b, ne_errs]
end
theorem isS {d : D} {a : String} (h : tyOf d = some a) (hb : isB a "str" = false) : oIsi "str" d = some (.bl false) := by rw [oIsi_ _ _ a h, hb]
theorem isI {d : D} {a : String} (h : tyOf d = some a) (hb : isB a "int" = false) : oIsi "int" d = some (.bl false) := by rw [oIsi_ _ _ a h, hb]
theorem all_badB {n : Nat} {ps : List (List Nat × Nat)} (h : Vot n ps) (m : D) : ∀ d ∈ ([.str [], .str [97, 97], .str [122], .non, .int 5, .lst [.str [97]], .str [97, 98, 99, 100, 101, 102]] : List D), f_added [encV n ps, d, .int 1] m = .exc 2 m := by
  intro d hd
  simp only [List.mem_cons, List.not_mem_nil, or_false] at hd
  refine added_badB h ?_
  rcases hd with rfl | rfl | rfl | rfl | rfl | rfl | rfl
  · rw [letters_run _ _ (by decide)]; rfl
  · rw [letters_run _ _ (by decide)]
    have e : al [97, 97] (LET.take n) = false := by
      unfold al
      rw [show decide ([97, 97] : List Nat).Nodup = false by decide, Bool.and_false]
    rw [e]
  · rw [letters_run _ _ (by decide)]
    have : 122 ∉ LET.take n := fun z => absurd (List.mem_of_mem_take z) (by decide)
    have e : al [122] (LET.take n) = false := by unfold al; simp [this]
    rw [e]
  · exact notstr_run (isS (a := "NoneType") rfl rfl) _ m
  · exact notstr_run (isS (a := "int") rfl rfl) _ m
  · exact notstr_run (isS (a := "list") rfl rfl) _ m
  · rw [letters_run _ _ (by decide)]
    have : 102 ∉ LET.take n := fun z => absurd (List.mem_of_mem_take z) (by decide)
    have e : al [97, 98, 99, 100, 101, 102] (LET.take n) = false := by unfold al; simp [this]
    rw [e]
theorem all_badT {n : Nat} {ps : List (List Nat × Nat)} (h : Vot n ps) (m : D) : ∀ d ∈ ([.int 0, .int 21, .bl true, .non, .str [49]] : List D), f_added [encV n ps, .str [97], d] m = .exc 3 m := by
  intro d hd
  simp only [List.mem_cons, List.not_mem_nil, or_false] at hd
  have ha : f_are_letters [.str [97], .str (LET.take n)] m = .ok (.bl true) m := by
    rw [letters_run _ _ (by decide)]
    obtain ⟨k, rfl⟩ : ∃ k, n = k + 2 := ⟨n - 2, by have := h.n2; omega⟩
    rfl
  refine added_badT h ha ?_
  rcases hd with rfl | rfl | rfl | rfl | rfl
  · rw [whole_run]; rfl
  · rw [whole_run]; rfl
  · exact whole_bl _ _ _ _
  · exact whole_not (isI (a := "NoneType") rfl rfl) _ _ _
  · exact whole_not (isI (a := "str") rfl rfl) _ _ _
theorem all_badN {n : Nat} {ps : List (List Nat × Nat)} (h : Vot n ps) {w : List Nat} (hw : w.Perm (LET.take n)) (m : D) : ∀ d ∈ ([.str [], .str [97], .str (w ++ [97]), .non, .str (w.drop 1 ++ [122]), .lst (sgn w)] : List D), f_renamed [encV n ps, d] m = .exc 4 m := by
  intro d hd
  have hl := LET_len h.n5
  have h2 := h.n2
  have hwl := hw.length_eq
  simp only [List.mem_cons, List.not_mem_nil, or_false] at hd
  rcases hd with rfl | rfl | rfl | rfl | rfl | rfl
  · refine renamed_not h (fun z => ?_) m
    have := z.length_eq
    rw [hl] at this
    simp at this
    omega
  · refine renamed_not h (fun z => ?_) m
    have := z.length_eq
    rw [hl] at this
    simp at this
    omega
  · refine renamed_not h (fun z => ?_) m
    have := z.length_eq
    rw [List.length_append] at this
    simp at this
    simp at hwl
    omega
  · exact renamed_nots h (isS (a := "NoneType") rfl rfl) m
  · refine renamed_not h (fun z => ?_) m
    have : 122 ∈ LET.take n := z.mem_iff.mp (by simp)
    exact absurd (List.mem_of_mem_take this) (by decide)
  · exact renamed_nots h (isS (a := "list") rfl rfl) m
end Pu

namespace Su
open PySem PySem.Spec PyProof.Rows L2 HotX L2H
open Pu (D Sl Rho Rs M Ro Fn Fl Tg LN)
/-! ### defs called while p is handled -/
structure FnP (P : Program) (w : World) (K : PySem.W.Frag) (mg : Str → Option Value) (base : Heap) (CX : CXT) (k : Nat) (f : Addr) (fd : FuncData) (ps : List Str) (p : Addr × Obj) (sp : Sp) : Prop where
  len : ∀ vs H Q E, sp vs H Q E → vs.length = ps.length
  run : ∀ (A : Around) (outer : List Env) (s : Shared) (H : Hp) (args : Args) (us : List Value) (vs : List V) (Q : VK) (E : XK), RoomH k A → Hot1 A p → PinOk outer H s p → Env0 P w K mg base A outer s H → BindsTo s fd args (ps.zip us) → Vals vs us → sp vs H Q E →
    codeAny (model P w) A (.call (.ref f) args) (CR CX outer P w H s Q E) s
theorem fn_ofP {CX : CXT} {P : Program} {w : World} {K : PySem.W.Frag} {mg : Str → Option Value} {base : Heap} {k : Nat} {f : Addr} {name qual : Str} {params : Arguments} {body : List Stmt} {scope : Scope} {dV kV doc pm cdv ct oc : Value} {an od : Option Addr}
    {osl : Array (Option Value)} {N ps : List Str} {sp : Sp} {p : Addr × Obj} (lk : K.lookup f = some ⟨oc, od, .func (PySem.W.fnOf name qual params body scope dV kV doc pm an cdv ct), osl⟩) (hcd : PySem.W.codeIn K cdv qual = true) (S : FnScope N ps scope)
    (len : ∀ vs H Q E, sp vs H Q E → vs.length = ps.length)
    (hbody : ∀ (A : Around) (outer : List Env) (s : Shared) (H : Hp) (vs : List V) (Q : VK) (E : XK), Hot1 A p → RoomH k (A.deeper (envOfC qual scope s.heap.objs.size f cdv)) → sp vs H Q E →
      ∃ t, PSs (cxH CX P w K mg base N qual scope f cdv A outer s H E p) body t ∧ t { nx := fun _ H' => Q .non H', rt := Q } (L2.start N vs) H) :
    FnP P w K mg base CX (k + 1) f (PySem.W.fnOf name qual params body scope dV kV doc pm an cdv ct) ps p sp := by
  refine ⟨len, fun A outer s H args us vs Q E hr hot hpin e0 hb r hsp => ?_⟩
  have hl := len _ _ _ _ hsp
  have KX : K.In s.heap := e0.mod.kin.keeps fun b o e => (e0.bs b o e).1
  have lim : s.heap.NoLimit := e0.mod.nolimit.keeps fun b o e => (e0.bs b o e).1
  have hkind : ∀ y ∈ ps.zip us, scope.names.lookup y.1 = some .local ∨ (scope.names.lookup y.1 = some .cell ∧ ((cellsFrom (s.heap.objs.size + 1) scope.names []).lookup y.1).isSome = true) := fun ⟨n, v⟩ hy => by
    rcases S.par n (List.of_mem_zip hy).1 with q | q
    · exact .inl q
    · exact .inr ⟨q, PySem.W.cellsFrom_some _ _ _ (.inl q)⟩
  refine codeAny_call_function hr.depth (KX _ _ lk) rfl S.co S.gen rfl (PySem.W.codeRec_of KX hcd) (hb _ _ _ _ ?_)
  refine wpAny_newFunctionEnv_cells S.kind hkind fun env he s1 x => ?_
  subst he
  refine ⟨lim.keeps x.toInCall.keep, codeAny_func ?_⟩
  obtain ⟨t, ht, hq⟩ := hbody A outer s H vs Q E hot (hr.deeper _) hsp
  have I : Inv (cxH CX P w K mg base N qual scope f cdv A outer s H E p) [] (L2.start N vs) H s1 := inv_startH S hpin e0 hl r x
  refine wpAny_mono (ht.run [] s1 (L2.start N vs) H _ I hq) (fun fl s' hs => ?_) fun e s' hs => hs
  have fin : ∀ {σ' : L2.St} {H' : Hp} {v : V} {u : Value}, Inv (cxH CX P w K mg base N qual scope f cdv A outer s H E p) [] σ' H' s' → RelV v u → Q v H' → CE outer P w H s Q u s' :=
    fun {σ' H' v u} J rv q => ⟨v, H', J.os, J.bare, J.base, J.hok, rv, q⟩
  cases fl with
  | ret u =>
    obtain ⟨v, σ', H', J, rv, q⟩ := hs
    exact fin J rv q
  | next =>
    obtain ⟨σ', H', J, q⟩ := hs
    exact fin (v := V.non) (u := Value.none) J rfl q
  | brk =>
    obtain ⟨_, _, _, q⟩ := hs
    exact False.elim q
  | cont =>
    obtain ⟨_, _, _, q⟩ := hs
    exact False.elim q
section
variable {X : Cx} {CX : CXT} {k : Nat} {f C : Addr} {fd : FuncData} {ps : List Str} {sp : Sp} {E : XK} {x m : Str} {q pos apos : Pos} {e o : Expr} {es : List Expr} {ta : TE} {t : TA} {p : Addr × Obj}
theorem run_fnP {pins : List (Addr × Obj)} {σ : L2.St} {H : Hp} {s : Shared} {Q : VK} {us : List Value} {vs : List V} (F : FnP X.prog X.w X.K X.mg X.base CX k f fd ps p sp) (hr : RoomH k X.A) (hot : Hot1 X.A p) (hp : p ∈ X.pn) (hb : Binds X.K fd ps []) (hx : PassesAt CX X σ E)
    (I : Inv X pins σ H s) (r : Vals vs us) (h : sp vs H Q E) : wpAny (model X.prog X.w) X.A (call (.ref f) us) (EP X pins σ Q) X.xe s := by
  have hl : us.length = ps.length := by rw [← r.length]; exact F.len _ _ _ _ h
  have b := hb s us I.kIn (by rw [List.append_nil]; exact hl)
  rw [List.append_nil] at b
  have P1 := I.pin p (List.mem_append_left _ hp)
  have hpin : PinOk X.stack H s p := ⟨P1.1, P1.2.1, fun hm => (List.mem_cons.mp (I.stkSub p.1 hm)).elim P1.2.2.1 P1.2.2.2.1, P1.2.2.2.2⟩
  refine wpAny_call (codeAny_mono (F.run X.A X.stack s H ⟨us, []⟩ us vs Q E hr hot hpin I.env0 b r h) fun r s' hq => ?_)
  cases r with
  | error e => exact hx pins H s e s' I hq
  | ok fl =>
    cases fl with
    | ret u => exact I.after hq
    | next => exact False.elim hq
    | brk => exact False.elim hq
    | cont => exact False.elim hq
theorem pe_callP (F : FnP X.prog X.w X.K X.mg X.base CX k f fd ps p sp) (hr : RoomH k X.A) (hot : Hot1 X.A p) (hp : p ∈ X.pn) (hg : Gl X x) (hm : X.mg x = some (.ref f)) (hk : PySem.W.keepIn X.K (.ref f) = true) (hb : Binds X.K fd ps []) (hx : ∀ σ, PassesAt CX X σ E)
    (ha : PA X (e :: es) t) (hdb : (x == ("__debug__" : Str)) = false := by decide) (he : starEach (e :: es) X.env = (false, eval e X.env) :: starEach es X.env := by rfl) (hpl : (backTo pos (starEach es X.env)).any (·.1) = false := by rfl) :
    PE X (.Call (.Name x q) (e :: es) [] pos) (fun σ H Q => t σ H fun vs H1 => sp vs H1 Q E) := by
  refine ⟨fun pins s σ H Q I h => ?_⟩
  refine wpAny_Call_Name_kw (ld_glob I hg hm ?_ hdb)
  refine PySem.W.callWith_K (h₀ := X.base) I.ok.mod.kin hk (thn (ha.run pos pins s σ H _ I h) fun us s1 ⟨vs, H1, I1, r, q⟩ => ⟨I1.kIn, ?_⟩) he hpl
  exact run_fnP F hr hot hp hb (hx σ) I1 r q
/-- isinstance of the exception that is handled -/
theorem call_isP {a D : Addr} {oe : Obj} (C : ExcC X.K D) (hz : Zc (.ref D) none oe) (hf : ∃ vs, oe.data = .fields vs) (hp : (a, oe) ∈ X.pn) : CallR X (.builtin "isinstance") (rIsE X.K D a) := by
  intro pins s σ H xs us Q I r h
  obtain ⟨c, cv, b, rfl, hcv, e, q⟩ := h
  cases r with
  | cons rx rr =>
    cases rr with
    | cons rt rr =>
      cases rr
      cases rx
      have ec := hcv _ rt
      subst ec
      obtain ⟨hget, _⟩ := I.pin (a, oe) (List.mem_append_left _ hp)
      obtain ⟨vs, hv⟩ := hf
      have J : PySem.W.InstAt s.heap a oe D none := by
        obtain ⟨oc, od, oda, osl⟩ := oe
        obtain ⟨h1, h2⟩ := hz
        dsimp only at h1 h2 hv
        subst h1 h2 hv
        exact ⟨hget, rfl, rfl, trivial⟩
      exact PySem.W.kia_one (PySem.W.handS_kitx_exc C.hg C.hk C.hs C.hd C.ha C.hn C.ht C.hm) I.kIn J e (fun z => nomatch z) fun tk => ⟨.bl b, H, I.kept (t' := tk) fun _ _ z => z, rfl, q⟩
end
end Su
namespace Pu
/-- isinstance(e, ..), e the opaque thing at a: b -/
def cIsP (i a : Nat) (b : Bool) : M D := bd (cVar i) fun x => match x with
  | .ob n => if n = a then pu (.bl b) else fun _ _ => .bad
  | _ => fun _ _ => .bad
/-- list.index of a bool -/
def oIndexB : D → D → Option D
  | .lst ds, .bl b => (blsD ds).bind fun bs => if b ∈ bs then some (.int (bs.idxOf b)) else none
  | _, _ => none
def cLst1 (a : M D) : M D := bd a fun x => match x with
  | .lst ds => pu (.lst ds)
  | _ => fun _ _ => .bad
end Pu
namespace Su
open PySem PySem.Spec PyProof.Rows L2 HotX L2H
open Pu (D Sl Rho Rs M Ro Fn Fl Tg LN)
section
variable {X : Cx} {T : Tb} {E : XK} {e a b c : Expr} {es : List Expr} {p p1 p2 p3 pos q apos : Pos} {k j n i : Nat} {ca cb : M D} {x y : Str} {DD aa : Addr} {oe : Obj}
theorem isP_of {al : Option Addr} {r : Rho} {m : D} {s : L2.St} {G H : Hp} {Q : VK} {bb : Bool} (R : Rel X.K T al G H r m s) (hP : Po X.K T al (vD X.K) r s G H E Q (Pu.cIsP i aa bb r m)) : ∃ v, s[i]? = some (some v) ∧ v = .ref aa ∧ Q (.bl bb) H := by
  unfold Pu.cIsP Pu.bd Pu.cVar at hP
  cases q : r[i]? with
  | none => rw [q] at hP; exact hP.elim
  | some o =>
    rw [q] at hP
    cases o with
    | none => exact hP.elim
    | some w =>
      cases w with
      | v d =>
        dsimp only at hP
        cases d with
        | ob n =>
          dsimp only at hP
          split at hP
          · rename_i e
            obtain ⟨v, h1, h2⟩ := R.vals i _ q
            exact ⟨v, h1, by rw [h2.ob_of, e], hP _ G H Step.refl R (.bl _)⟩
          · exact hP.elim
        | _ => exact hP.elim
      | own d =>
        dsimp only at hP
        obtain ⟨p, h1, h2⟩ := R.owns i d q
        cases d with
        | ob n => exact h2.2.elim
        | _ => exact hP.elim
/-- C a class of the module -/
theorem se_isP (i : Nat) {CC : Addr} {r : Bool} (CE : ExcC X.K DD) (hz : Zc (.ref DD) none oe) (hf : ∃ vs, oe.data = .fields vs) (hp : (aa, oe) ∈ X.pn) (hk : PySem.W.kitOne X.K (.ref DD) (.ref CC) = some r) (hm : X.mg "isinstance" = none) (hmC : X.mg y = some (.ref CC))
    (hN : X.N[i]? = some x := by rfl) (hv : Vis X.env.scope x := by first | exact Or.inl rfl | exact Or.inr (Or.inl rfl) | exact Or.inr (Or.inr rfl)) (hd : (x == ("__debug__" : Str)) = false := by decide)
    (hcd : (x == ("__classdict__" : Str)) = false := by decide) (hg : Gl X "isinstance" := by rfl) (hgC : Gl X y := by rfl) (hdC : (y == ("__debug__" : Str)) = false := by decide) :
    SE X T E (.Call (.Name "isinstance" p) [.Name x p1, .Name y p2] [] pos) (Pu.cIsP i aa r) := by
  refine ⟨_, pe_callB (call_isP CE hz hf hp) hg hm (by decide +kernel) (pa_cons (pe_var hN hv hd hcd) (pa_cons (pe_glob (v := .ref CC) hgC hmC rfl hdC) pa_nil rfl) rfl) (by decide) (by decide) rfl rfl, fun al r m s G H Q R hP => ?_⟩
  obtain ⟨v, h1, h2⟩ := isP_of R hP
  exact ⟨v, h1, (.ref CC : V), .ref CC, _, by rw [h2.1], fun _ e => e, hk, h2.2⟩
/-- C a built-in class -/
theorem se_isPB (i : Nat) {TT : String} {r : Bool} (CE : ExcC X.K DD) (hz : Zc (.ref DD) none oe) (hf : ∃ vs, oe.data = .fields vs) (hp : (aa, oe) ∈ X.pn) (hk : PySem.W.kitOne X.K (.ref DD) (.type TT) = some r) (hm : X.mg "isinstance" = none) (hmC : X.mg y = none) (hvC : bootBuiltins y = some (.type TT))
    (hN : X.N[i]? = some x := by rfl) (hv : Vis X.env.scope x := by first | exact Or.inl rfl | exact Or.inr (Or.inl rfl) | exact Or.inr (Or.inr rfl)) (hd : (x == ("__debug__" : Str)) = false := by decide)
    (hcd : (x == ("__classdict__" : Str)) = false := by decide) (hg : Gl X "isinstance" := by rfl) (hgC : Gl X y := by rfl) (hnC : y ≠ "__name__" := by decide) (hdC : (y == ("__debug__" : Str)) = false := by decide) :
    SE X T E (.Call (.Name "isinstance" p) [.Name x p1, .Name y p2] [] pos) (Pu.cIsP i aa r) := by
  refine ⟨_, pe_callB (call_isP CE hz hf hp) hg hm (by decide +kernel) (pa_cons (pe_var hN hv hd hcd) (pa_cons (pe_bltn (v := .ty TT) hgC hmC hvC rfl hnC hdC) pa_nil rfl) rfl) (by decide) (by decide) rfl rfl, fun al r m s G H Q R hP => ?_⟩
  obtain ⟨v, h1, h2⟩ := isP_of R hP
  exact ⟨v, h1, (.ty TT : V), .type TT, _, by rw [h2.1], fun _ e => e, hk, h2.2⟩
/-- list.index of a bool -/
theorem se_indexB (ha : SE X T E a ca) (hb : SE X T E b cb) (hbase : attributeBase a "index" X.env (eval a X.env) = eval a X.env := by rfl) (hline : (apos.endLine == pos.line) = true := by rfl)
    (hfew : ((backTo pos (starEach (b :: []) X.env)).all (fun x => !x.1) && (backToKw pos (keywordEach [] X.env)).all (fun x => x.1.isSome) && decide ((b :: ([] : List Expr)).length + ([] : List Keyword).length + (if ([] : List Keyword).isEmpty then 0 else 1) < 30)) = true := by rfl)
    (hs : starEach (b :: []) X.env = (false, eval b X.env) :: starEach [] X.env := by rfl) (hplain : (backTo pos (starEach [] X.env)).any (·.1) = false := by rfl) :
    SE X T E (.Call (.Attribute a "index" apos) [b] [] pos) (Pu.c2 Pu.oIndexB (Pu.cLst1 ca) cb) := by
  obtain ⟨t, h1, h2⟩ := ha
  obtain ⟨u, h3, h4⟩ := hb
  refine ⟨_, pe_bm PySem.F.plainAttrs_list PySem.F.slot_list_index PySem.F.type_list_index mt_index h1 (pa_cons h3 pa_nil hs) hbase hfew hline hs hplain, fun al r m s G H Q R hP => ?_⟩
  unfold Pu.c2 Pu.cLst1 at hP
  rw [bd_bd] at hP
  refine h2.thn R hP fun y r1 m1 v G1 H1 S1 R1 d1 P1 => ?_
  cases y with
  | lst ds =>
    obtain ⟨qa, vs, rfl, q3, hl, q4⟩ := d1.lst_of
    refine ⟨.inl ⟨rfl, vs, SqL.of (R1.same _ _ q3)⟩, ?_⟩
    refine h4.thn R1 P1 fun y2 r2 m2 v2 G2 H2 S2 R2 d2 P2 => ?_
    obtain ⟨d, e, P3⟩ := P2.opt_
    cases y2 with
    | bl k =>
      simp only [Pu.oIndexB] at e
      obtain ⟨bs, hb1, e⟩ := Option.bind_eq_some_iff.mp e
      simp only [Option.ite_none_right_eq_some, Option.some.injEq] at e
      obtain ⟨hm, e⟩ := e
      subst e
      rw [Pu.bls_eq hb1] at q4
      have ev := DnL.blsD q4
      subst ev
      rw [d2.bl_of]
      have hl : bs.idxOf k < bs.length := List.idxOf_lt_length_of_mem hm
      have hg : bs[bs.idxOf k]? = some k := by simp [hl]
      refine ⟨qa, bs.map V.bl, .bl k, bs.idxOf k, .bl k, rfl, rfl, SqL.of (R2.same _ _ (S2.mono _ _ q3)), rfl, ?_, by rw [List.getElem?_map, hg]; rfl, by simp [eqV], fun mm z' hlt hz => ?_, P3.ok_ R2 (.int _)⟩
      · rw [List.all_eq_true]
        intro z hz
        obtain ⟨b, _, rfl⟩ := List.mem_map.mp hz
        rfl
      · rw [List.getElem?_map] at hz
        cases eb : bs[mm]? with
        | none => rw [eb] at hz; cases hz
        | some bb =>
          rw [eb] at hz
          cases hz
          have := List.not_of_lt_findIdx (p := (· == k)) (xs := bs) (i := mm) (by simpa [List.idxOf] using hlt)
          obtain ⟨hi', e'⟩ := List.getElem?_eq_some_iff.mp eb
          simp [e'] at this
          simpa [eqV] using this
    | _ => simp [Pu.oIndexB] at e
  | _ => exact P1.elim
end
end Su

namespace Su
open PySem PySem.Spec PyProof.Rows L2
def freeNames : List Str := ["ValueError", "all", "any", "bool", "enumerate", "int", "isinstance", "len", "list", "max", "min", "range", "reversed", "set", "sorted", "str", "sum", "tuple"]
/-- what the module says: free names, the letters, the errors -/
structure Kf (K : PySem.W.Frag) (mg : Str → Option Value) (t : Tok) : Prop where
  free : ∀ x : Str, x ∈ freeNames → mg x = none
  letters : mg "LETTERS" = some (.str "abcde" t)
  exq : ∀ n : Nat, n < 12 → PySem.W.excIn K (cad K n) He.veBase "ValueError.__new__" = true
  exg : ∀ n : Nat, n < 12 → mg (exn n) = some (.ref (cad K n))
  exk : ∀ n : Nat, n < 12 → PySem.W.keepIn K (.ref (cad K n)) = true
  exb : ∀ n : Nat, n < 12 → PySem.W.subIn K (.ref (cad K n)) (.type "BaseException") = some true
  ext : ∀ n : Nat, n < 12 → PySem.W.typeIn K (.ref (cad K n)) = some (.type "type")
end Su

namespace Su
open PySem PySem.Spec PyProof.Rows L2 LamX
open Pu (D Sl Rho Rs M Ro Fn Fl Tg LN)
/-! ### the lambda's context, exceptions with their context None -/
def lamN (X : Cx) (A : Around) (outer : List Env) (s : Shared) (H : Hp) (E : XK) (scope : Scope) (f c' : Addr) : Cx :=
  (lamCx X A outer s H E scope f c').tr [] (fun e s' => wpAny (model X.prog X.w) (A.deeper (lamEnv X scope s.heap.objs.size f c')) (leaving (lamEnv X scope s.heap.objs.size f c') e) (fun _ s'' => L2N.CX X.prog X.w outer H s E e s'') (fun e' s'' => L2N.CX X.prog X.w outer H s E e' s'') s')
theorem cn_lam {X : Cx} {A : Around} {outer : List Env} {s : Shared} {H : Hp} {E : XK} {scope : Scope} {f c' : Addr} {k : Nat} (nd : X.N.Nodup) (hr : Room k (A.deeper (lamEnv X scope s.heap.objs.size f c'))) : Cn k (lamN X A outer s H E scope f c') E :=
  have tk : L2N.Takes (lamN X A outer s H E scope f c') (fun cls d _ H => E cls d H) := L2N.takes_of rfl rfl rfl rfl
  ⟨rfl, nd, L2N.passes_call tk fun _ _ _ _ h => h, passes_of rfl, tk, hr⟩
section
variable {X : Cx} {pins : List (Addr × Obj)} {σ : L2.St} {H HZ : Hp} {s s1 : Shared}
theorem inv_tr {pn : List (Addr × Obj)} {xe : Value → Shared → Prop} (I : Inv X [] σ H s) (hp : X.pn = []) : Inv (X.tr [] xe) [] σ H s := by
  refine ⟨I.ok.toTry [] xe, I.os, I.bare, I.base, I.loc, I.cell, I.free, I.freeC, fun p hp => ?_, I.hok, I.len⟩
  exact absurd (show p ∈ ([] : List (Addr × Obj)) ++ [] from hp) (by simp)
theorem lam_startN {A : Around} {outer : List Env} {E : XK} {scope : Scope} {f c' : Addr} {h₁ : Heap} {tk : Nat} (I : Inv X pins σ H s) (L : LamS X.env.scope scope) (e0 : Env0 X.prog X.w X.K X.mg X.base A outer s1 HZ) (hd : A.handled = none)
    (un : Un (frs X.stack) [] H HZ s.heap s1.heap) (hns : h₁.Ns s1.heap.objs.size fun y => ([] : List (Str × Value)).reverse.lookup y) (kp : ∀ b o, s1.heap.get? b = some o → h₁.get? b = some o) :
    Inv (lamN X A outer s1 HZ E scope f c') [] σ HZ { s1 with heap := h₁, toks := tk } := inv_tr (pn := []) (lam_start2 (E := E) (f := f) (c' := c') (tk := tk) I L e0 hd un hns kp) rfl
/-- x(), in the def that got the lambda -/
theorem pe_actN {CXg : CXT} {Eg : XK} {Ng : List Str} {qg : Str} {sg : Scope} {g f c' : Addr} {cdg pm ctv : Value} {params : Arguments} {body : Expr} {scope : Scope} {k i : Nat} {a : Str} {pn : List (Addr × Obj)} {xe : Value → Shared → Prop} {W : WX} {E : XK} {tb : TE} {p1 p2 : Pos}
    (I : Inv X pins σ H s) (L : LamS X.env.scope scope) (hf : s.heap.get? f = some (PySem.W.kla_obj "<lambda>" (X.env.qual ++ "<lambda>") params body scope (cloFrom X.env.cells scope.names []) pm c' ctv)) (hfn : H f = none) (hfr : f ∉ frs X.stack)
    (hbind : bindArgs (PySem.W.kla_fn "<lambda>" (X.env.qual ++ "<lambda>") params body scope (cloFrom X.env.cells scope.names []) pm (.ref c') ctv) ⟨[], []⟩ = pure [])
    (tk : L2N.Takes ((cxOf CXg X.prog X.w X.K X.mg X.base Ng qg sg g cdg X.A X.stack s H Eg).tr pn xe) W) (hW : ∀ cls d σ' H', E cls d H' → W cls d σ' H') (hr : Room (k + 1) (X.A.deeper (envOfC qg sg s.heap.objs.size g cdg)))
    (hbody : ∀ (A : Around) (outer : List Env) (s : Shared) (H : Hp), Room k (A.deeper (lamEnv X scope s.heap.objs.size f c')) → PE (lamN X A outer s H E scope f c') body tb)
    (hN : Ng[i]? = some a) (hv : Vis sg a) (hd : (a == ("__debug__" : Str)) = false := by decide) (hcd : (a == ("__classdict__" : Str)) = false := by decide) :
    PE ((cxOf CXg X.prog X.w X.K X.mg X.base Ng qg sg g cdg X.A X.stack s H Eg).tr pn xe) (.Call (.Name a p1) [] [] p2)
      (fun σZ HZ Q => σZ[i]? = some (some (.ref f)) ∧ HZ c' = some (CodeO c' (X.env.qual ++ "<lambda>")) ∧ tb σ HZ Q) := by
  refine ⟨fun pinsZ sZ σZ HZ Q IZ h => ?_⟩
  obtain ⟨hs, hc, ht⟩ := h
  refine wpAny_Call_Name_kw (thn ((pe_var (pos := p1) (i := i) hN hv hd hcd).run pinsZ sZ σZ HZ (fun v H1 => v = .ref f ∧ H1 = HZ) IZ ⟨.ref f, hs, rfl, rfl⟩) fun u s1 ⟨v, H1, I1, r1, q1⟩ => ?_)
  obtain ⟨ev, eH⟩ := q1
  subst ev
  rw [eH] at I1
  obtain rfl : u = Value.ref f := r1
  have of1 : s1.heap.get? f = some (PySem.W.kla_obj "<lambda>" (X.env.qual ++ "<lambda>") params body scope (cloFrom X.env.cells scope.names []) pm c' ctv) := I1.base.keep f _ hf hfn hfr (fun z => nomatch (show f ∈ ([] : List Addr) from z))
  refine PySem.W.callWith_F0 ⟨_, _, _, _, of1⟩ ?_
  have un : Un (frs X.stack) [] H HZ s.heap s1.heap := I1.base
  obtain ⟨⟨oc, vs, t, hoc, hdc, hvc⟩, _, _⟩ := I1.hok c' _ hc
  have rc : codeAny (model X.prog X.w) (X.A.deeper (envOfC qg sg s.heap.objs.size g cdg)) (.call (.ref f) ⟨[], []⟩) (CR (L2N.CX X.prog X.w) (envOfC qg sg s.heap.objs.size g cdg :: X.stack) X.prog X.w HZ s1 Q E) s1 := by
    refine PySem.W.kla_callFunE hr.depth of1 rfl L.co L.gen rfl ⟨c', oc, vs, t, rfl, hoc, hdc, hvc⟩ ?_
    rw [hbind]
    refine wpAny_pure (wpAny_newFunctionEnv (fun y hy => (L.own y hy).2) (fun y hy => absurd hy (by simp)) (fun h₁ hns hsb => ⟨I1.nolimit.fresh _ hsb, ?_⟩) L.kind)
    show codeAny _ _ (.expr body (lamEnv X scope s1.heap.objs.size f c')) _ _
    have kp : ∀ b o, s1.heap.get? b = some o → h₁.get? b = some o := fun b o e => hsb.extBut b o (Nat.ne_of_lt (Heap.lt_size e)) (Heap.get?_push_of_some _ e)
    have J : Inv (lamN X (X.A.deeper (envOfC qg sg s.heap.objs.size g cdg)) (envOfC qg sg s.heap.objs.size g cdg :: X.stack) s1 HZ E scope f c') [] σ HZ { s1 with heap := h₁, toks := s1.toks + ([] : List (Str × Value)).length } :=
      lam_startN I L I1.env0 hr.hd un hns kp
    refine PySem.W.kla_codeExpr (wpAny_mono ((hbody _ _ s1 HZ (hr.deeper _)).run [] _ _ HZ Q J ht) (fun v s' hq => ?_) fun e s' hq => hq)
    obtain ⟨w', H', J', rv, q⟩ := hq
    exact ⟨w', H', J'.os, J'.bare, J'.base, J'.hok, rv, q⟩
  have hx : Passes (L2N.CX X.prog X.w) ((cxOf CXg X.prog X.w X.K X.mg X.base Ng qg sg g cdg X.A X.stack s H Eg).tr pn xe) E := L2N.passes_call tk hW
  refine wpAny_call (codeAny_mono rc fun r s' hq => ?_)
  cases r with
  | error e => exact hx pinsZ σZ HZ s1 e s' I1 hq
  | ok fl =>
    cases fl with
    | ret u => exact I1.after hq
    | next => exact False.elim hq
    | brk => exact False.elim hq
    | cont => exact False.elim hq
end
def GivesN (X : Cx) (Ng : List Str) (x : Str) (sg : Scope) (g : Addr) (cdg : Value) (bg : List Stmt) (a : Str) (q : Str) (k : Nat) (TT : (XK → Hp → VK → Prop) → Hp → VK → Prop) : Prop :=
  ∀ (f c' : Addr) (s : Shared) (H : Hp) (Q : VK) (tl : XK → Hp → VK → Prop), Room k (X.A.deeper (envOfC x sg s.heap.objs.size g cdg)) →
    (∀ (W : WX) (pn : List (Addr × Obj)) (xe : Value → Shared → Prop) (E : XK) (p1 p2 : Pos), L2N.Takes ((cxOf C8.CX0 X.prog X.w X.K X.mg X.base Ng x sg g cdg X.A X.stack s H C8.E0).tr pn xe) W → (∀ cls d σ' H', E cls d H' → W cls d σ' H') →
      PE ((cxOf C8.CX0 X.prog X.w X.K X.mg X.base Ng x sg g cdg X.A X.stack s H C8.E0).tr pn xe) (.Call (.Name a p1) [] [] p2) (fun σZ HZ Q => σZ[0]? = some (some (.ref f)) ∧ HZ c' = some (CodeO c' q) ∧ tl E HZ Q)) →
    H c' = some (CodeO c' q) → TT tl H Q →
    ∃ t, PSs (cxOf C8.CX0 X.prog X.w X.K X.mg X.base Ng x sg g cdg X.A X.stack s H C8.E0).nox bg t ∧ t { nx := fun _ H' => Q .non H', rt := Q } (L2.start Ng [.ref f]) H
section
variable {X : Cx}
/-- x(lambda: body) -/
theorem pe_lamN {T : List (Addr × Str)} {TT : (XK → Hp → VK → Prop) → Hp → VK → Prop} {x a : Str} {g c P : Addr} {k : Nat} {pg : Arguments} {bg : List Stmt} {sg : Scope} {dV kV doc pm cdv ct oc : Value} {an od : Option Addr} {osl : Array (Option Value)} {Ng : List Str}
    {params : Arguments} {body : Expr} {scope : Scope} {t : XK → TE} {p lpos pos : Pos} (hg : Gl X x) (hm : X.mg x = some (.ref g)) (hk : PySem.W.keepIn X.K (.ref g) = true)
    (lk : X.K.lookup g = some ⟨oc, od, .func (PySem.W.fnOf x x pg bg sg dV kV doc pm an cdv ct), osl⟩) (hcg : PySem.W.codeIn X.K cdv x = true) (hb : L2.Binds X.K (PySem.W.fnOf x x pg bg sg dV kV doc pm an cdv ct) [a] []) (Sg : FnScope Ng [a] sg) (hNg : Ng[0]? = some a) (hva : Vis sg a)
    (hG : GivesN X Ng x sg g cdv bg a (X.env.qual ++ "<lambda>") (k + 1) TT)
    (TB : TabB X.base X.mg c P) (hcode : X.env.code = .ref c) (hmT : (P, X.env.qual ++ "<lambda>") ∈ T) (hu : ∀ p ∈ T, p.1 = P → p.2 = X.env.qual ++ "<lambda>") (hr : Room (k + 2) X.A) (L : LamS X.env.scope scope) (hdef : defaultsOf params X.env = ([], []))
    (hbind : ∀ (q : Str) (cl : List (Str × Addr)) (pm cv ctv : Value), bindArgs (PySem.W.kla_fn "<lambda>" q params body scope cl pm cv ctv) ⟨[], []⟩ = pure [])
    (hbody : ∀ (A : Around) (outer : List Env) (s : Shared) (H : Hp) (E : XK) (f c' : Addr), Room k (A.deeper (lamEnv X scope s.heap.objs.size f c')) → PE (lamN X A outer s H E scope f c') body (t E))
    (hdb : (x == ("__debug__" : Str)) = false := by decide) (hd : (a == ("__debug__" : Str)) = false := by decide) (hcd : (a == ("__classdict__" : Str)) = false := by decide) :
    PE X (.Call (.Name x p) [.Lambda params body scope lpos] [] pos) (tLam T TT t) := by
  refine ⟨fun pins s σ H Q I h => ?_⟩
  obtain ⟨hT, h⟩ := h
  refine wpAny_Call_Name_kw (ld_glob I hg hm ?_ hdb)
  refine PySem.W.callWith_K (h₀ := X.base) I.ok.mod.kin hk ?_ (by rfl) (by rfl)
  show wpAny _ _ (spliced ((false, eval (.Lambda params body scope lpos) X.env) :: backTo pos (starEach [] X.env))) _ _ s
  refine Calls.spliced_cons (lam_make2 I TB hcode hmT hu hT hdef (L.has I.ok) fun f c' pm' ctv H1 s' I1 eN T1 hf hfn hfr hco => ?_)
  refine Calls.spliced_nil ⟨I1.kIn, ?_⟩
  have rc : codeAny (model X.prog X.w) X.A (.call (.ref g) ⟨[.ref f], []⟩) (CR C8.CX0 X.stack X.prog X.w H1 s' Q C8.E0) s' := by
    refine run_ofS (N := Ng) (ps := [a]) (us := [.ref f]) (vs := [.ref f]) lk hcg Sg hr I1.env0 (hb s' [.ref f] I1.kIn rfl) (.cons rfl .nil) rfl fun hr' => ?_
    obtain ⟨t', ht', hq'⟩ := hG f c' s' H1 Q (fun E H' Q' => t E σ H' Q') hr' (fun W pn xe E p1 p2 tk hW => pe_actN (i := 0) I1 L hf hfn hfr (hbind _ _ _ _ _) tk hW hr' (fun A outer s H hr2 => hbody A outer s H E f c' hr2) hNg hva hd hcd) hco (h H1 eN T1)
    exact ⟨t', ht'.nox, hq'⟩
  refine wpAny_call (codeAny_mono rc fun r s2 hq => ?_)
  cases r with
  | error e => exact (show False from hq).elim
  | ok fl =>
    cases fl with
    | ret u => exact I1.after hq
    | next => exact False.elim hq
    | brk => exact False.elim hq
    | cont => exact False.elim hq
end
end Su

namespace Su
open PySem PySem.Spec PyProof.Rows L2 LamX HotX L2H
open Pu (D Sl Rho Rs M Ro Fn Fl Tg LN)
/-! ### rules while an exception is handled -/
section
variable {X : Cx} {T : Tb} {E : XK} {e a b c l tg elt : Expr} {es ifs : List Expr} {p p1 p2 p3 pos q apos : Pos} {k j n i : Nat} {ca cb cl : M D} {ta : M Bool} {x y : Str} {g : Tg} {scope : Scope}
theorem sd_iLst {tl : TE} (h2 : Sd X.K T E tl (vD X.K) ca) : Sd X.K T E (iList X.K tl) (vI X.K) (Pu.iLst ca) := by
  intro al r m s G H Q R hP
  refine h2.thn R hP fun x r1 m1 v G1 H1 S1 R1 d1 P1 => ?_
  cases x with
  | lst ds =>
    obtain ⟨q, xs, rfl, h3, hl, h4⟩ := d1.lst_of
    refine ⟨q, rfl, ⟨xs, SqL.of (R1.same _ _ h3)⟩, P1.ok_ R1 ⟨hl, fun G' H' s1 s2 => ⟨fun i d hd => ?_, ⟨xs, SqL.of (s2 _ _ (s1 _ _ h3)), Nat.le_of_eq h4.length⟩⟩⟩⟩
    obtain ⟨v, h5, h6⟩ := h4.get hd
    refine ⟨⟨xs, v, SqL.of (s2 _ _ (s1 _ _ h3)), h5⟩, fun x H'' ⟨e1, e2⟩ => ⟨G', .inl ⟨rfl, e1⟩, ?_⟩⟩
    have z := e2 xs (SqL.of (s2 _ _ (s1 _ _ h3)))
    rw [h5] at z
    cases z
    exact h6.mono s1
  | _ => exact P1.elim
theorem so_lcH (hot : HotC X) (nd : X.N.Nodup) (own : List (Str × Nat)) (ok : blkC X.N X.env.scope scope own = true) (hv : (slots g).all (fun i => (own.map (·.2)).contains i) = true) (hl : SE X T E l cl)
    (hg : ∀ (s : Shared) (H : Hp) (C : Addr) (cl : List (Str × Addr)) (fp : List Addr), SG (X.blk s H scope (compEnvC scope cl C X.env) fp) T tg g)
    (ht : ∀ (s : Shared) (H : Hp) (C : Addr) (cl : List (Str × Addr)) (fp : List Addr), STs (X.blk s H scope (compEnvC scope cl C X.env) fp) T E0 ifs ta)
    (he : ∀ (s : Shared) (H : Hp) (C : Addr) (cl : List (Str × Addr)) (fp : List Addr), SE (X.blk s H scope (compEnvC scope cl C X.env) fp) T E0 elt ca) (hs : ∀ x, foldedSetIterable l X.env x = pure x := by intro _; rfl) :
    SO X T E (.ListComp elt [⟨tg, l, ifs, 0⟩] scope pos) (Pu.cLc (own.map (·.2)) (Pu.iLst cl) g ta ca) := by
  obtain ⟨tl, h1, h2⟩ := hl
  refine ⟨_, pe_lcH hot nd h1 (blkOk_by ok) (fun _ _ _ _ _ => blkG_pg) (fun _ _ _ _ _ => blkT_pt) (fun _ _ _ _ _ => blkE_pe) hs, fun al r m s G H Q R hP => ?_⟩
  refine (sd_iLst h2).thnN R hP fun ds r1 m1 J G1 H1 S1 R1 y1 P1 => ?_
  have hv' : ∀ i ∈ slots g, i ∈ own.map (·.2) := fun i h => by
    have := List.all_eq_true.mp hv i h
    simpa using this
  rw [List.append_nil] at P1
  exact lc_sound (fun _ z => z) hv' y1.1 hg ht he R1 y1.2.z P1
theorem se_sumH (hot : HotC X) (hm : X.mg "sum" = none) (ha : SE X T E a ca) (hg : Gl X "sum" := by rfl) (he : starEach (a :: []) X.env = (false, eval a X.env) :: starEach [] X.env := by rfl) (hpl : (backTo pos (starEach [] X.env)).any (·.1) = false := by rfl) : SE X T E (.Call (.Name "sum" p) [a] [] pos) (Pu.c1 Pu.oSum ca) := se_cb1 (cr_sumH hot) c1_sum hm (by decide +kernel) ha hg (by decide) (by decide) he hpl
theorem od_neI : OpD X T rNe Pu.oNeI := by
  intro al r m s G H v w x y d Q R dx dy e k
  cases x <;> cases y <;> simp only [Pu.oNeI, reduceCtorEq, Option.some.injEq] at e
  rw [dx.int_of, dy.int_of]
  subst e
  refine ⟨rfl, ?_⟩
  rw [dec_int]
  exact fin_ R k (.bl _)
theorem st_neI (ha : SE X T E a ca) (hb : SE X T E b cb) (hm : behindInMarks .NotEq b = false := by rfl) : ST X T E (.Compare a [.NotEq] [b] pos) (Pu.tB (Pu.c2 Pu.oNeI ca cb)) := st_cmp op_ne od_neI ha hb hm
end
section
variable {P : Program} {w : World} {K : PySem.W.Frag} {mg : Str → Option Value} {base : Heap}
theorem fn_okP {x : Str} {st : Stmt} {fa : Addr} {fd : FuncData} {N ps : List Str} {k n nn : Nat} {cbody : M Fl} {p : Addr × Obj} (F : Fd K x st fa fd) (S : FnScope N ps (defScope st)) (hn : ps.length = n) (hN : N.length = nn)
    (body : ∀ (cdv : Value) (A : Around) (outer : List Env) (s : Shared) (H : Hp) (E : XK), HotC (cxH (L2N.CX P w) P w K mg base N x (defScope st) fa cdv A outer s H E p) → SB (cxH (L2N.CX P w) P w K mg base N x (defScope st) fa cdv A outer s H E p) [] E (defBody st) cbody) :
    FnP P w K mg base (L2N.CX P w) (k + 1) fa fd ps p (spF K n (Pu.fn n nn cbody)) := by
  subst hn hN
  obtain ⟨oc, od, dV, kV, doc, pm, an, cdv, ct, osl, rfl, lk, hcd, _, _⟩ := F.ex
  refine fn_ofP lk hcd S (fun vs H Q E h => h.1) fun A outer s H vs Q E hot hr h => ?_
  obtain ⟨l, al, G, ds, m, sm, dv, am, p'⟩ := h
  obtain ⟨t, h1, h2⟩ := body cdv A outer s H E ⟨p, hot, List.mem_cons_self⟩
  refine ⟨t, h1, h2 al (Pu.start N.length ds) m (L2.start N vs) G H _ (rel_start sm dv am) ?_⟩
  unfold Pu.fn at p'
  rw [if_pos (by rw [← dv.length]; exact l)] at p'
  cases q : cbody (Pu.start N.length ds) m with
  | ok fl r' m' =>
    rw [q] at p'
    cases fl with
    | nx => exact fun s' G' H' S R => p' _ G' H' (step_start S) R.same R.amb .non
    | rt d => exact fun v G' H' S s2 a dn => p' v G' H' (step_start S) s2 a dn
  | exc c m' =>
    rw [q] at p'
    exact fun G' H' S s2 a => p' G' H' (step_start S) s2 a
  | bad => rw [q] at p'; exact p'.elim
end
def fTerm (a c : Nat) : Fn := fun ds m => match ds with
  | [.ob n] => if n = a then (.ok (Pu.errD c) m) else .bad
  | _ => .bad
def TTn (K : PySem.W.Frag) : (XK → Hp → VK → Prop) → Hp → VK → Prop := fun tl H Q =>
  tl (fun cls d H' => ∃ c, c < 12 ∧ cls = .ref (cad K c) ∧ d = none ∧ ∀ a, H' a = none → spF K 1 (fTerm a c) [.ref a] H' Q C8.E0) H Q
section
variable {X : Cx}
theorem takesZ {X : Cx} : L2N.Takes X (fun _ _ _ _ => False) := fun _ _ x => by
  obtain ⟨_, _, _, _, _, _, _, _, _, _, _, _, _, _, _, _, z⟩ := x
  exact z.elim
theorem told_givesN {q : Str} {sg : Scope} {g CS ft : Addr} {cdg : Value} {fdt : FuncData} {k kt : Nat} {p1 p2 p3 p4 p5 p6 p7 p8 p9 p10 : Pos} (hge : sg.names.lookup ("VoteError" : Str) = some .globalImplicit) (hgt : sg.names.lookup ("_law_term" : Str) = some .globalImplicit) (hld : sg.names.lookup ("e" : Str) = some .local) (hme : X.mg "VoteError" = some (.ref CS))
    (hex : ∀ c : Nat, c < 12 → PySem.W.exmOne X.K (.ref (cad X.K c)) (.ref CS) = some true)
    (Ft : ∀ (a : Addr) (oe : Obj) (c : Nat), c < 12 → L2N.Zn (.ref (cad X.K c)) none oe → (∃ vs, oe.data = .fields vs) → FnP X.prog X.w X.K X.mg X.base (L2N.CX X.prog X.w) kt ft fdt ["e"] (a, oe) (spF X.K 1 (fTerm a c)))
    (bt : Binds X.K fdt ["e"] []) (hmt : X.mg "_law_term" = some (.ref ft)) (hkt : PySem.W.keepIn X.K (.ref ft) = true) (hkk : kt ≤ k) :
    GivesN X ["deed", "e"] "_law_told" sg g cdg [.Try [.Return (some (.Call (.Name "deed" p1) [] [] p2)) p3] [.ExceptHandler (some (.Name "VoteError" p4)) (some "e") [.Return (some (.Call (.Name "_law_term" p5) [.Name "e" p6] [] p7)) p8] p9] [] [] p10] "deed" q k (TTn X.K) := by
  intro f c' s H Q tl hr act hc h
  have hgl : Gl (cxOf C8.CX0 X.prog X.w X.K X.mg X.base ["deed", "e"] "_law_told" sg g cdg X.A X.stack s H C8.E0).nox "VoteError" := hge
  refine ⟨_, pss_one (L2N.ps_try_as (X := (cxOf C8.CX0 X.prog X.w X.K X.mg X.base ["deed", "e"] "_law_told" sg g cdg X.A X.stack s H C8.E0).nox) (c := .ref CS) (i := 1)
      (tb := fun W D σ H => ∃ Ech : XK, (∀ cls d σ' H', Ech cls d H' → W cls d σ' H') ∧ σ[0]? = some (some (.ref f)) ∧ H c' = some (CodeO c' q) ∧ tl Ech H D.rt)
      (ts := fun a cls d D σ H => ∃ c σ0, c < 12 ∧ cls = .ref (cad X.K c) ∧ d = none ∧ σ = List.set σ0 1 (some (.ref a)) ∧ spF X.K 1 (fTerm a c) [.ref a] H D.rt C8.E0)
      rfl rfl (show [("deed" : Str), "e"].Nodup by decide) rfl hld ⟨hgl, by decide, .inl hme⟩ takesZ (fun W pn xe tk _ => ?_) (fun a oe cls d pn hz hf => ?_)), ?_⟩
  · refine ⟨fun pins s' σ H' D I h' => ?_⟩
    obtain ⟨Ech, hW, h1, h2, h3⟩ := h'
    have hp := act W pn xe Ech p1 p2 tk hW
    have hq := pss_one (ps_ret (pos := p3) hp)
    exact hq.run pins s' σ H' D I ⟨h1, h2, h3⟩
  · refine ⟨fun pins s' σ H' D I h' => ?_⟩
    obtain ⟨c, σ0, hc12, rfl, rfl, eσ, hsp⟩ := h'
    have hl : σ.length = 2 := I.len
    have hs1 : σ[1]? = some (some (.ref a)) := by
      rw [eσ] at hl ⊢
      rw [List.length_set] at hl
      rw [List.getElem?_set_self (by omega)]
    obtain ⟨vs, hvs⟩ := id hf
    have hot : Hot1 ((cxOf C8.CX0 X.prog X.w X.K X.mg X.base ["deed", "e"] "_law_told" sg g cdg X.A X.stack s H C8.E0).nox.suite a ((a, oe) :: pn)).A (a, oe) := ⟨rfl, vs, hvs, hz.2.2 vs hvs⟩
    have hrH : RoomH kt ((cxOf C8.CX0 X.prog X.w X.K X.mg X.base ["deed", "e"] "_law_told" sg g cdg X.A X.stack s H C8.E0).nox.suite a ((a, oe) :: pn)).A := (roomH_of hr).mono hkk |> fun z => ⟨z.dp, z.un⟩
    have pv : PE ((cxOf C8.CX0 X.prog X.w X.K X.mg X.base ["deed", "e"] "_law_told" sg g cdg X.A X.stack s H C8.E0).nox.suite a ((a, oe) :: pn)) (.Name "e" p6) (tVar 1) := pe_var rfl (.inl hld)
    have P := pss_one (ps_ret (pos := p8) (pe_callP (X := (cxOf C8.CX0 X.prog X.w X.K X.mg X.base ["deed", "e"] "_law_told" sg g cdg X.A X.stack s H C8.E0).nox.suite a ((a, oe) :: pn)) (E := C8.E0) (q := p5) (pos := p7) (Ft a oe c hc12 hz hf) hrH hot List.mem_cons_self hgt hmt hkt bt (fun σ pins H s e s' I z => by
      obtain ⟨_, _, _, _, _, _, _, _, _, _, _, _, zz⟩ := z
      exact zz.elim) (pa_cons pv pa_nil)))
    exact P.run pins s' σ H' D I ⟨.ref a, hs1, hsp⟩
  · refine ⟨fun cls d H' => ∃ c, c < 12 ∧ cls = .ref (cad X.K c) ∧ d = none ∧ ∀ a, H' a = none → spF X.K 1 (fTerm a c) [.ref a] H' Q C8.E0, fun cls d σ' H' hh => ?_, rfl, hc, h⟩
    obtain ⟨c, hc12, rfl, rfl, hsp⟩ := hh
    exact ⟨true, hex c hc12, fun _ a na => ⟨c, σ', hc12, rfl, rfl, rfl, hsp a na⟩, fun z => nomatch z⟩
end
end Su

namespace Su
open PySem PySem.Spec PyProof.Rows L2 LamX HotX L2H
open Pu (D Sl Rho Rs M Ro Fn Fl Tg LN)
/-- a lambda was made: nothing new, or the table grew and a code object is new -/
def LamH (P : Addr) (q : Str) (H H1 : Hp) : Prop := H1 = H ∨ ∃ ps more c', H P = some (.tbl ps) ∧ H c' = none ∧ H1 = upd (upd H P (.tbl (ps ++ more))) c' (CodeO c' q)
section
variable {X : Cx} {pins : List (Addr × Obj)} {σ : L2.St} {H : Hp} {s : Shared}
theorem lam_make3 {T : List (Addr × Str)} {c P : Addr} {params : Arguments} {body : Expr} {scope : Scope} {pos : Pos} {E : Value → Shared → Prop} {Q : Value → Shared → Prop} (I : Inv X pins σ H s) (TB : TabB X.base X.mg c P) (hcode : X.env.code = .ref c)
    (hm : (P, X.env.qual ++ "<lambda>") ∈ T) (hu : ∀ p ∈ T, p.1 = P → p.2 = X.env.qual ++ "<lambda>") (hT : Tabs T H) (hdef : defaultsOf params X.env = ([], [])) (hfree : ∀ y ∈ scope.names, y.2 = .free → ∃ c, X.env.cells.lookup y.1 = some c)
    (h : ∀ (f c' : Addr) (pm ctv : Value) (H1 : Hp) (s' : Shared), Inv X pins σ H1 s' → LamH P (X.env.qual ++ "<lambda>") H H1 → Tabs T H1 →
      s'.heap.get? f = some (PySem.W.kla_obj "<lambda>" (X.env.qual ++ "<lambda>") params body scope (cloFrom X.env.cells scope.names []) pm c' ctv) → H1 f = none → f ∉ frs X.stack → H1 c' = some (CodeO c' (X.env.qual ++ "<lambda>")) → Q (.ref f) s') :
    wpAny (model X.prog X.w) X.A (eval (.Lambda params body scope pos) X.env) Q E s := by
  obtain ⟨ps, hP, ht, ha⟩ := hT _ hm
  refine PySem.W.kla_eval hdef ?_
  have bP : s.heap.BuiltinsAt X.mg P := TB.bm.keeps I.bk
  have hP' : s.heap.get? P = some { cls := .none, data := .fields ps } := I.hok P _ hP
  have nofr : ∀ f, s.heap.objs.size ≤ f → f ∉ frs X.stack := fun f hf z => by
    rcases List.mem_cons.mp (I.stkSub _ z) with e | e
    · have h1 := I.lt
      rw [← e] at h1
      exact Nat.lt_irrefl _ (Nat.lt_of_lt_of_le h1 hf)
    · exact I.nofs hf e
  cases hc : codeAmong pos ps.toList with
  | none =>
    refine PySem.W.kla_makeFunction (mg := X.mg) (c := c) (P := P) (ps := ps) (closure_ok hfree) I.ok.glob (I.mod.glob.keeps I.bk) hcode (TB.code.keeps I.bk) hP' ht hc TB.gP bP fun c' ctv h' tk hx hge hlt hrec htb => ?_
    obtain ⟨c2, oc, vs, t, e2, hoc, hd, hv⟩ := hrec
    cases e2
    have hsz : s.heap.objs.size ≤ h'.objs.size := Nat.le_trans hge (Nat.le_of_lt hlt)
    have nC : H c' = none := I.hok.fresh hge
    have I1 := inv_table (t' := tk) (more := #[rawInt pos.line, rawInt pos.col, .ref c']) (h' := h'.push (PySem.W.kla_obj "<lambda>" (X.env.qual ++ "<lambda>") params body scope (cloFrom X.env.cells scope.names []) ((X.mg "__name__").getD .none) c' ctv)) I hP
      (fun b o hb e => Heap.get?_push_of_some _ (hx b o hb e)) (Heap.get?_push_of_some _ htb) hge ⟨oc, vs, t, Heap.get?_push_of_some _ hoc, hd, hv⟩
    have hE : ExtN H (upd (upd H P (.tbl (ps ++ #[rawInt pos.line, rawInt pos.col, .ref c']))) c' (CodeO c' (X.env.qual ++ "<lambda>"))) := fun b o e n => by
      rw [upd_ne (ne_of_none e nC), upd_ne (fun z => n ps (Option.some.inj (e.symm.trans (by rw [z]; exact hP))))]
      exact e
    have eL : (ps ++ #[rawInt pos.line, rawInt pos.col, .ref c']).toList = ps.toList ++ [rawInt pos.line, rawInt pos.col, .ref c'] := by simp
    refine h h'.objs.size c' ((X.mg "__name__").getD .none) ctv _ _ I1 (.inr ⟨ps, _, c', hP, nC, rfl⟩) (fun p hp => ?_) (Heap.get?_push_size _ rfl) ?_ (nofr _ hsz) upd_same
    · by_cases hb : p.1 = P
      · rw [hu p hp hb, hb]
        refine ⟨_, by rw [upd_ne (ne_of_none hP nC), upd_same], by rw [eL]; exact PySem.TriplesOk_snoc _ _ _ _ ht, fun p' cv hcv => ?_⟩
        rw [eL] at hcv
        rcases among_app _ ht hcv with z | z
        · obtain ⟨c0, e1, e2⟩ := ha p' cv z
          exact ⟨c0, e1, hE _ _ e2 codeO_ne⟩
        · exact ⟨c', z, upd_same⟩
      · obtain ⟨ps', a1, a2, a3⟩ := hT p hp
        refine ⟨ps', by rw [upd_ne (ne_of_none a1 nC), upd_ne hb]; exact a1, a2, fun p' cv hcv => ?_⟩
        obtain ⟨c0, e1, e2⟩ := a3 p' cv hcv
        exact ⟨c0, e1, hE _ _ e2 codeO_ne⟩
    · have n1 : h'.objs.size ≠ c' := Nat.ne_of_gt hlt
      have n2 : h'.objs.size ≠ P := Nat.ne_of_gt (Nat.lt_of_lt_of_le (Heap.lt_size hP') hsz)
      rw [upd_ne n1, upd_ne n2]
      exact I.hok.fresh hsz
  | some cv =>
    obtain ⟨c', e, hco⟩ := ha pos cv hc
    subst e
    refine PySem.W.kla_makeFunctionHit (mg := X.mg) (c := c) (P := P) (ps := ps) (closure_ok hfree) I.ok.glob (I.mod.glob.keeps I.bk) hcode (TB.code.keeps I.bk) hP' ht hc bP fun ctv h' tk hx hsz => ?_
    have I1 : Inv X pins σ H { s with heap := h'.push (PySem.W.kla_obj "<lambda>" (X.env.qual ++ "<lambda>") params body scope (cloFrom X.env.cells scope.names []) ((X.mg "__name__").getD .none) c' ctv), toks := tk } := I.kept fun b o e => Heap.get?_push_of_some _ (hx b o e)
    exact h h'.objs.size c' ((X.mg "__name__").getD .none) ctv H _ I1 (.inl rfl) hT (Heap.get?_push_size _ rfl) (I.hok.fresh hsz) (nofr _ hsz) hco
end
def tLamN (T : List (Addr × Str)) (P : Addr) (q : Str) (TT : (XK → Hp → VK → Prop) → Hp → VK → Prop) (t : XK → TE) : TE := fun σ H Q => Tabs T H ∧ ∀ H1, LamH P q H H1 → Tabs T H1 → TT (fun E H' Q' => t E σ H' Q') H1 Q
/-- what told's def says of itself -/
structure ToldD (K : PySem.W.Frag) (mg : Str → Option Value) (g : Addr) (bg : List Stmt) (sg : Scope) (cdv : Value) : Prop where
  ex : ∃ (pg : Arguments) (dV kV doc pm ct oc : Value) (an od : Option Addr) (osl : Array (Option Value)), K.lookup g = some ⟨oc, od, .func (PySem.W.fnOf "_law_told" "_law_told" pg bg sg dV kV doc pm an cdv ct), osl⟩ ∧ L2.Binds K (PySem.W.fnOf "_law_told" "_law_told" pg bg sg dV kV doc pm an cdv ct) ["deed"] []
  hm : mg "_law_told" = some (.ref g)
  hk : PySem.W.keepIn K (.ref g) = true
  hc : PySem.W.codeIn K cdv "_law_told" = true
  sc : FnScope ["deed", "e"] ["deed"] sg
  va : sg.names.lookup ("deed" : Str) = some .local
section
variable {X : Cx}
theorem pe_lamM {T : List (Addr × Str)} {TT : (XK → Hp → VK → Prop) → Hp → VK → Prop} {g c P : Addr} {k : Nat} {bg : List Stmt} {sg : Scope} {cdv : Value}
    {params : Arguments} {body : Expr} {scope : Scope} {t : XK → TE} {p lpos pos : Pos} (hg : Gl X "_law_told") (TD : ToldD X.K X.mg g bg sg cdv)
    (hG : GivesN X ["deed", "e"] "_law_told" sg g cdv bg "deed" (X.env.qual ++ "<lambda>") (k + 1) TT)
    (TB : TabB X.base X.mg c P) (hcode : X.env.code = .ref c) (hmT : (P, X.env.qual ++ "<lambda>") ∈ T) (hu : ∀ p ∈ T, p.1 = P → p.2 = X.env.qual ++ "<lambda>") (hr : Room (k + 2) X.A) (L : LamS X.env.scope scope) (hdef : defaultsOf params X.env = ([], []))
    (hbind : ∀ (q : Str) (cl : List (Str × Addr)) (pm cv ctv : Value), bindArgs (PySem.W.kla_fn "<lambda>" q params body scope cl pm cv ctv) ⟨[], []⟩ = pure [])
    (hbody : ∀ (A : Around) (outer : List Env) (s : Shared) (H : Hp) (E : XK) (f c' : Addr), Room k (A.deeper (lamEnv X scope s.heap.objs.size f c')) → PE (lamN X A outer s H E scope f c') body (t E)) :
    PE X (.Call (.Name "_law_told" p) [.Lambda params body scope lpos] [] pos) (tLamN T P (X.env.qual ++ "<lambda>") TT t) := by
  refine ⟨fun pins s σ H Q I h => ?_⟩
  obtain ⟨hT, h⟩ := h
  obtain ⟨⟨pg, dV, kV, doc, pm, ct, oc, an, od, osl, lk, hb⟩, hm, hk, hcg, Sg, va⟩ := TD
  refine wpAny_Call_Name_kw (ld_glob I hg hm ?_ (by decide))
  refine PySem.W.callWith_K (h₀ := X.base) I.ok.mod.kin hk ?_ (by rfl) (by rfl)
  show wpAny _ _ (spliced ((false, eval (.Lambda params body scope lpos) X.env) :: backTo pos (starEach [] X.env))) _ _ s
  refine Calls.spliced_cons (lam_make3 I TB hcode hmT hu hT hdef (L.has I.ok) fun f c' pm' ctv H1 s' I1 eN T1 hf hfn hfr hco => ?_)
  refine Calls.spliced_nil ⟨I1.kIn, ?_⟩
  have rc : codeAny (model X.prog X.w) X.A (.call (.ref g) ⟨[.ref f], []⟩) (CR C8.CX0 X.stack X.prog X.w H1 s' Q C8.E0) s' := by
    refine run_ofS (N := ["deed", "e"]) (ps := ["deed"]) (us := [.ref f]) (vs := [.ref f]) lk hcg Sg hr I1.env0 (hb s' [.ref f] I1.kIn rfl) (.cons rfl .nil) rfl fun hr' => ?_
    obtain ⟨t', ht', hq'⟩ := hG f c' s' H1 Q (fun E H' Q' => t E σ H' Q') hr' (fun W pn xe E p1 p2 tk hW => pe_actN (i := 0) I1 L hf hfn hfr (hbind _ _ _ _ _) tk hW hr' (fun A outer s H hr2 => hbody A outer s H E f c' hr2) rfl (.inl va) (by decide) (by decide)) hco (h H1 eN T1)
    exact ⟨t', ht'.nox, hq'⟩
  refine wpAny_call (codeAny_mono rc fun r s2 hq => ?_)
  cases r with
  | error e => exact (show False from hq).elim
  | ok fl =>
    cases fl with
    | ret u => exact I1.after hq
    | next => exact False.elim hq
    | brk => exact False.elim hq
    | cont => exact False.elim hq
/-- the weakest reading of the lambda's body -/
def lamE (X : Cx) (k : Nat) (scope : Scope) (body : Expr) (E : XK) : TE := fun σ H Q => ∀ (A : Around) (outer : List Env) (s0 : Shared) (H0 : Hp) (f c' : Addr), Room k (A.deeper (lamEnv X scope s0.heap.objs.size f c')) → ∀ (pins : List (Addr × Obj)) (s : Shared), Inv (lamN X A outer s0 H0 E scope f c') pins σ H s →
  wpAny (model X.prog X.w) (A.deeper (lamEnv X scope s0.heap.objs.size f c')) (eval body (lamEnv X scope s0.heap.objs.size f c')) (EP (lamN X A outer s0 H0 E scope f c') pins σ Q) (lamN X A outer s0 H0 E scope f c').xe s
end
/-! ### no slot owns -/
section
variable {K : PySem.W.Frag} {T : Tb} {al : Option Addr} {G H G1 H1 : Hp} {r : Rho} {m m' : D} {s : L2.St}
theorem frz_get {i : Nat} {w : Sl} (h : (Pu.frz r)[i]? = some (some w)) : (∃ d, w = .v d) ∧ ∃ w0, r[i]? = some (some w0) ∧ w = Pu.frzS w0 := by
  unfold Pu.frz at h
  rw [List.getElem?_map] at h
  cases e : r[i]? with
  | none => rw [e] at h; cases h
  | some o =>
    rw [e] at h
    cases o with
    | none => cases h
    | some w0 =>
      simp only [Option.map_some, Option.some.injEq] at h
      subst h
      refine ⟨?_, w0, rfl, rfl⟩
      cases w0 with
      | own d => exact ⟨d, rfl⟩
      | v d => exact ⟨d, rfl⟩
theorem frz_ow {a : Addr} : ¬ Ow (Pu.frz r) s a := fun ⟨i, d, h1, _⟩ => by
  obtain ⟨⟨d', e⟩, _⟩ := frz_get h1
  cases e
def frzN : Nat → Rho → Rho
  | 0, r => r
  | n + 1, r => match (frzN n r)[n]? with
    | some (some (.own d)) => (frzN n r).set n (some (.v d))
    | _ => frzN n r
theorem frzN_spec : ∀ (n : Nat) (r : Rho) (i : Nat), (frzN n r)[i]? = if i < n then (Pu.frz r)[i]? else r[i]?
  | 0, r, i => by simp [frzN]
  | n + 1, r, i => by
    have ih := frzN_spec n r
    have hn := ih n
    rw [if_neg (Nat.lt_irrefl n)] at hn
    have hf : (Pu.frz r)[n]? = (r[n]?).map (Option.map Pu.frzS) := by unfold Pu.frz; rw [List.getElem?_map]
    unfold frzN
    cases e : r[n]? with
    | none =>
      rw [hn, e]
      dsimp only
      rw [ih i]
      by_cases hi : i = n
      · subst hi; rw [if_neg (Nat.lt_irrefl _), if_pos (Nat.lt_succ_self _), hf, e]; rfl
      · by_cases h2 : i < n
        · rw [if_pos h2, if_pos (Nat.lt_succ_of_lt h2)]
        · rw [if_neg h2, if_neg (by omega)]
    | some o =>
      rw [hn, e]
      have other : ∀ (rr : Rho), (∀ j, j ≠ n → rr[j]? = (frzN n r)[j]?) → rr[n]? = (Pu.frz r)[n]? → rr[i]? = if i < n + 1 then (Pu.frz r)[i]? else r[i]? := fun rr h1 h2 => by
        by_cases hi : i = n
        · subst hi; rw [if_pos (Nat.lt_succ_self _)]; exact h2
        · rw [h1 i hi, ih i]
          by_cases h3 : i < n
          · rw [if_pos h3, if_pos (Nat.lt_succ_of_lt h3)]
          · rw [if_neg h3, if_neg (by omega)]
      cases o with
      | none => exact other _ (fun _ _ => rfl) (by rw [hn, hf, e]; rfl)
      | some w =>
        cases w with
        | v d => exact other _ (fun _ _ => rfl) (by rw [hn, hf, e]; rfl)
        | own d =>
          refine other _ (fun j hj => by rw [List.getElem?_set_ne (Ne.symm hj)]) ?_
          have hl : n < (frzN n r).length := by
            rw [e] at hn
            exact (List.getElem?_eq_some_iff.mp hn).1
          rw [List.getElem?_set_self hl, hf, e]
          rfl
theorem frzN_all : frzN r.length r = Pu.frz r := by
  apply List.ext_getElem?
  intro i
  rw [frzN_spec]
  by_cases h : i < r.length
  · rw [if_pos h]
  · rw [if_neg h, List.getElem?_eq_none (by omega), List.getElem?_eq_none (by unfold Pu.frz; rw [List.length_map]; omega)]
theorem Rel.frzN (R : Rel K T al G H r m s) : ∀ n : Nat, ∃ G', Rel K T al G' H (Su.frzN n r) m s ∧ Step T al (Ow r s) G H (Ow (Su.frzN n r) s) G' H
  | 0 => ⟨G, R, Step.refl⟩
  | n + 1 => by
    obtain ⟨G1, R1, S1⟩ := Rel.frzN R n
    unfold Su.frzN
    cases e : (Su.frzN n r)[n]? with
    | none => exact ⟨G1, R1, S1⟩
    | some o =>
      cases o with
      | none => exact ⟨G1, R1, S1⟩
      | some w =>
        cases w with
        | v d => exact ⟨G1, R1, S1⟩
        | own d =>
          obtain ⟨p, o, h1, h2, R2, S2, _⟩ := R1.freeze e
          exact ⟨_, R2, S1.trans S2⟩
theorem Rel.frz (R : Rel K T al G H r m s) : ∃ G', Rel K T al G' H (Pu.frz r) m s ∧ Step T al (Ow r s) G H (Ow (Pu.frz r) s) G' H := by
  have := R.frzN r.length
  rw [frzN_all] at this
  exact this
theorem Rel.noT (R : Rel K T al G H r m s) : Rel K [] al G H r m s := ⟨R.same, R.len, R.vals, R.owns, R.dis, R.amb, R.nal, fun _ z => (nomatch z), fun _ z => (nomatch z)⟩
theorem rel_lam {P : Addr} {q : Str} (R : Rel K T al G H (Pu.frz r) m s) (hm : (P, q) ∈ T) (l : LamH P q H H1) (T1 : Tabs T H1) : Rel K T al G H1 (Pu.frz r) m s ∧ Step T al (Ow (Pu.frz r) s) G H (Ow (Pu.frz r) s) G H1 := by
  rcases l with rfl | ⟨ps, more, c', h1, h2, rfl⟩
  · exact ⟨R, Step.refl⟩
  · have gP : G P = none := R.tfree _ hm
    have keep : ∀ a o, H a = some o → a ≠ P → L2.upd (L2.upd H P (.tbl (ps ++ more))) c' (CodeO c' q) a = some o := fun a o e n => by rw [upd_ne (ne_of_none e h2), upd_ne n]; exact e
    refine ⟨⟨fun b u e => keep b u (R.same b u e) (ne_of_none e gP), R.len, R.vals, fun i d e => ?_, R.dis, fun a z => ?_, R.nal, T1, R.tfree⟩, ⟨Same.refl G, fun a o e _ _ n => ⟨keep a o e fun z => n _ hm z.symm, rfl⟩, fun _ z => .inl z, fun a e => ?_⟩⟩
    · obtain ⟨⟨_, z⟩, _⟩ := frz_get e
      cases z
    · have q := R.amb a z
      refine q.move (Same.refl G) q.1 fun o e => keep a o e fun y => ?_
      obtain ⟨o', e', w⟩ := q.some_
      rw [y, h1] at e'
      cases e'
      rcases w with ⟨_, w⟩ | ⟨_, w⟩ <;> cases w
    · by_cases ha : a = c'
      · subst ha; rw [upd_same]; exact fun z => nomatch z
      · rw [upd_ne ha]
        by_cases hp : a = P
        · subst hp; rw [upd_same]; exact fun z => nomatch z
        · rw [upd_ne hp]; exact e
theorem Step.bare {O O' : Addr → Prop} (S : Step [] al O G H O' G1 H1) (h : ∀ a, ¬ O a) : Step [] al noOw G H noOw G1 H1 := ⟨S.mono, fun a o e _ n1 n2 => S.keep a o e (h a) n1 n2, fun _ z => z.elim, S.dom⟩
end
section
variable {X : Cx} {T : Tb} {E : XK}
theorem se_told {g c P : Addr} {k kk : Nat} {bg : List Stmt} {sg : Scope} {cdv : Value} {params : Arguments} {body : Expr} {scope : Scope} {p lpos pos : Pos} {cb : M D} (C : Cn kk X E) (hkk : k + 2 ≤ kk) (TD : ToldD X.K X.mg g bg sg cdv)
    (hG : GivesN X ["deed", "e"] "_law_told" sg g cdv bg "deed" (X.env.qual ++ "<lambda>") (k + 1) (TTn X.K))
    (TB : TabB X.base X.mg c P) (hcode : X.env.code = .ref c) (hmT : (P, X.env.qual ++ "<lambda>") ∈ T) (hu : ∀ p ∈ T, p.1 = P → p.2 = X.env.qual ++ "<lambda>")
    (hbody : ∀ (A : Around) (outer : List Env) (s : Shared) (H : Hp) (E' : XK) (f c' : Addr), Cn k (lamN X A outer s H E' scope f c') E' → SE (lamN X A outer s H E' scope f c') [] E' body cb)
    (L : lamSB X.env.scope scope = true := by rfl) (hg : Gl X "_law_told" := by rfl) (hdef : defaultsOf params X.env = ([], []) := by rfl)
    (hbind : ∀ (q : Str) (cl : List (Str × Addr)) (pm cv ctv : Value), bindArgs (PySem.W.kla_fn "<lambda>" q params body scope cl pm cv ctv) ⟨[], []⟩ = pure [] := by intros; rfl) :
    SE X T E (.Call (.Name "_law_told" p) [.Lambda params body scope lpos] [] pos) (Pu.cTold cb) := by
  refine ⟨_, pe_lamM (t := lamE X k scope body) hg TD hG TB hcode hmT hu (C.room.mono hkk) (lamS_by L) hdef hbind (fun A outer s H E' f c' hr => ⟨fun pins st σ H' Q I h => h A outer s H f c' hr pins st I⟩), fun al r m s G H Q R hP => ?_⟩
  refine ⟨R.tabs, fun H1 l T1 => ?_⟩
  obtain ⟨G0, R0, S0⟩ := R.frz
  obtain ⟨R1, S1⟩ := rel_lam R0 hmT l T1
  show lamE X k scope body _ s H1 Q
  intro A outer s0 H0 f c' hr pins st I
  obtain ⟨t, hpe, hsd⟩ := hbody A outer s0 H0 _ f c' (cn_lam C.nd hr)
  refine hpe.run pins st s H1 Q I (hsd al (Pu.frz r) m s G0 H1 Q R1.noT ?_)
  have S01 := S0.trans S1
  unfold Pu.cTold at hP
  cases q : cb (Pu.frz r) m with
  | ok d r' m' =>
    rw [q] at hP
    intro x G' H' S' R' dv
    have Sb := S'.bare fun a => frz_ow
    exact hP x G' H' (S01.trans (Step.call R1 Sb)) (R1.call Sb R'.same R'.amb) dv
  | exc c m' =>
    rw [q] at hP
    dsimp only at hP
    split at hP
    · rename_i hc12
      intro G' H' S' s2 am
      have Sb := S'.bare fun a => frz_ow
      refine ⟨c, hc12, rfl, rfl, fun a na => ⟨rfl, al, G', [.ob a], m', s2, .cons (.ob a) .nil, am, ?_⟩⟩
      have ef : fTerm a c [.ob a] m' = .ok (Pu.errD c) m' := if_pos rfl
      rw [ef]
      intro v G2 H2 S2 s3 am2 dv
      have Sc := Sb.trans S2
      exact hP v G2 H2 (S01.trans (Step.call R1 Sc)) (R1.call Sc s3 am2) dv
    · exact hP.elim
  | bad => rw [q] at hP; exact hP.elim
end
end Su

namespace Pu
def cTermB (a c : Nat) : M Fl := (sSeq (sSet 1 (cLst (aCons (cIsP 0 a (Nat.beq c 0)) (aCons (cIsP 0 a (Nat.beq c 1)) (aCons (cIsP 0 a (Nat.beq c 2)) aNil)))))
  (sSeq (sSet 1 (c2 oAdd (cVar 1) (cLst (aCons (cIsP 0 a (Nat.beq c 3)) (aCons (cIsP 0 a (Nat.beq c 4)) (aCons (cIsP 0 a (Nat.beq c 5)) aNil))))))
  (sSeq (sSet 1 (c2 oAdd (cVar 1) (cLst (aCons (cIsP 0 a (Nat.beq c 6)) (aCons (cIsP 0 a (Nat.beq c 7)) (aCons (cIsP 0 a (Nat.beq c 8)) aNil))))))
  (sSeq (sSet 1 (c2 oAdd (cVar 1) (cLst (aCons (cIsP 0 a (Nat.beq c 9)) (aCons (cIsP 0 a (Nat.beq c 10)) (aCons (cIsP 0 a (Nat.beq c 11)) aNil))))))
  (sSeq (sSet 2 (cLst (aCons (cK (.str [73, 110, 118, 97, 108, 105, 100, 86, 111, 116, 101, 115])) (aCons (cK (.str [73, 110, 118, 97, 108, 105, 100, 67, 97, 110, 100, 105, 100, 97, 116, 101])) (aCons (cK (.str [73, 110, 118, 97, 108, 105, 100, 66, 97, 108, 108, 111, 116])) (aCons (cK (.str [73, 110, 118, 97, 108, 105, 100, 84, 105, 109, 101, 115])) (aCons (cK (.str [73, 110, 118, 97, 108, 105, 100, 78, 97, 109, 101, 115])) (aCons (cK (.str [73, 110, 118, 97, 108, 105, 100, 67, 97, 110, 100, 105, 100, 97, 116, 101, 115])) aNil))))))))
  (sSeq (sSet 2 (c2 oAdd (cVar 2) (cLst (aCons (cK (.str [73, 110, 118, 97, 108, 105, 100, 78, 117, 109, 98, 101, 114])) (aCons (cK (.str [73, 110, 118, 97, 108, 105, 100, 84, 101, 120, 116])) (aCons (cK (.str [84, 111, 111, 77, 97, 110, 121])) (aCons (cK (.str [85, 110, 108, 105, 107, 101])) (aCons (cK (.str [78, 111, 116, 84, 104, 101, 114, 101])) (aCons (cK (.str [78, 111, 116, 104, 105, 110, 103, 84, 111, 85, 110, 100, 111])) aNil)))))))))
  (sSeq (sIf (tOr (tB (c2 oNeI (c1 oSum (cLc [3] (iLst (cVar 1)) (.nm 3) tYes (c1 oInt (cVar 3)))) (cK (.int 1)))) (tNot (tB (cIsP 0 a true)))) (sRet (cTup (aCons (cK (.str [101, 114, 114, 111, 114])) (aCons (cK (.str [111, 116, 104, 101, 114])) aNil)))) sNop)
  (sRet (cTup (aCons (cK (.str [101, 114, 114, 111, 114])) (aCons (cIdx (cVar 2) (c2 oIndexB (cLst1 (cVar 1)) (cK (.bl true)))) aNil)))))))))))
theorem cIsP_ok {i a : Nat} {b : Bool} {r : Rho} {m : D} (h : r[i]? = some (some (.v (.ob a)))) : cIsP i a b r m = .ok (.bl b) r m := by
  unfold cIsP bd cVar
  rw [h]
  simp [pu]
def tmK (f : M Fl) : M Fl := sSeq (sSet 2 (cLst (aCons (cK (.str [73, 110, 118, 97, 108, 105, 100, 86, 111, 116, 101, 115])) (aCons (cK (.str [73, 110, 118, 97, 108, 105, 100, 67, 97, 110, 100, 105, 100, 97, 116, 101])) (aCons (cK (.str [73, 110, 118, 97, 108, 105, 100, 66, 97, 108, 108, 111, 116])) (aCons (cK (.str [73, 110, 118, 97, 108, 105, 100, 84, 105, 109, 101, 115])) (aCons (cK (.str [73, 110, 118, 97, 108, 105, 100, 78, 97, 109, 101, 115])) (aCons (cK (.str [73, 110, 118, 97, 108, 105, 100, 67, 97, 110, 100, 105, 100, 97, 116, 101, 115])) aNil)))))))) (sSeq (sSet 2 (c2 oAdd (cVar 2) (cLst (aCons (cK (.str [73, 110, 118, 97, 108, 105, 100, 78, 117, 109, 98, 101, 114])) (aCons (cK (.str [73, 110, 118, 97, 108, 105, 100, 84, 101, 120, 116])) (aCons (cK (.str [84, 111, 111, 77, 97, 110, 121])) (aCons (cK (.str [85, 110, 108, 105, 107, 101])) (aCons (cK (.str [78, 111, 116, 84, 104, 101, 114, 101])) (aCons (cK (.str [78, 111, 116, 104, 105, 110, 103, 84, 111, 85, 110, 100, 111])) aNil))))))))) f)
def tmT : M Bool := (tB (c2 oNeI (c1 oSum (cLc [3] (iLst (cVar 1)) (.nm 3) tYes (c1 oInt (cVar 3)))) (cK (.int 1))))
def tmA : M Fl := (sRet (cTup (aCons (cK (.str [101, 114, 114, 111, 114])) (aCons (cK (.str [111, 116, 104, 101, 114])) aNil))))
def tmB : M Fl := (sRet (cTup (aCons (cK (.str [101, 114, 114, 111, 114])) (aCons (cIdx (cVar 2) (c2 oIndexB (cLst1 (cVar 1)) (cK (.bl true)))) aNil))))
def tmF (a : Nat) (f : M Fl) (b0 b1 b2 b3 b4 b5 b6 b7 b8 b9 b10 b11 : Bool) : M Fl := sSeq (sSet 1 (cLst (aCons (cIsP 0 a b0) (aCons (cIsP 0 a b1) (aCons (cIsP 0 a b2) aNil))))) (sSeq (sSet 1 (c2 oAdd (cVar 1) (cLst (aCons (cIsP 0 a b3) (aCons (cIsP 0 a b4) (aCons (cIsP 0 a b5) aNil)))))) (sSeq (sSet 1 (c2 oAdd (cVar 1) (cLst (aCons (cIsP 0 a b6) (aCons (cIsP 0 a b7) (aCons (cIsP 0 a b8) aNil)))))) (sSeq (sSet 1 (c2 oAdd (cVar 1) (cLst (aCons (cIsP 0 a b9) (aCons (cIsP 0 a b10) (aCons (cIsP 0 a b11) aNil)))))) f)))
theorem term_eq (a c : Nat) : cTermB a c = tmF a (tmK (sSeq (sIf (tOr tmT (tNot (tB (cIsP 0 a true)))) tmA sNop) tmB)) (Nat.beq c 0) (Nat.beq c 1) (Nat.beq c 2) (Nat.beq c 3) (Nat.beq c 4) (Nat.beq c 5) (Nat.beq c 6) (Nat.beq c 7) (Nat.beq c 8) (Nat.beq c 9) (Nat.beq c 10) (Nat.beq c 11) := rfl
def tmKs : D := .lst [.str (ename 0), .str (ename 1), .str (ename 2), .str (ename 3), .str (ename 4), .str (ename 5), .str (ename 6), .str (ename 7), .str (ename 8), .str (ename 9), .str (ename 10), .str (ename 11)]
theorem tmK_run (f : M Fl) (x y : Option Sl) (m : D) : tmK f [x, y, none, none] m = f [x, y, some (.v tmKs), none] m := rfl
theorem tm_fin (a : Nat) (m : D) (L : D) (h : tmT [some (.v (.ob a)), some (.v L), some (.v tmKs), none] m = .ok false [some (.v (.ob a)), some (.v L), some (.v tmKs), none] m) :
    tmK (sSeq (sIf (tOr tmT (tNot (tB (cIsP 0 a true)))) tmA sNop) tmB) [some (.v (.ob a)), some (.v L), none, none] m = tmB [some (.v (.ob a)), some (.v L), some (.v tmKs), none] m := by
  rw [tmK_run]
  have k0 : cIsP 0 a true [some (.v (.ob a)), some (.v L), some (.v tmKs), none] m = .ok (.bl true) [some (.v (.ob a)), some (.v L), some (.v tmKs), none] m := cIsP_ok rfl
  simp [sSeq, sIf, tOr, tNot, tB, bd, pu, h, k0, sNop]
theorem tmF_run (a : Nat) (m : D) (f : M Fl) (b0 b1 b2 b3 b4 b5 b6 b7 b8 b9 b10 b11 : Bool) : tmF a f b0 b1 b2 b3 b4 b5 b6 b7 b8 b9 b10 b11 [some (.v (.ob a)), none, none, none] m = f [some (.v (.ob a)), some (.v (.lst [.bl b0, .bl b1, .bl b2, .bl b3, .bl b4, .bl b5, .bl b6, .bl b7, .bl b8, .bl b9, .bl b10, .bl b11])), none, none] m := by
  have k0 : ∀ (b : Bool) (x y z : Option Sl), cIsP 0 a b [some (.v (.ob a)), x, y, z] m = .ok (.bl b) [some (.v (.ob a)), x, y, z] m := fun b x y z => cIsP_ok rfl
  unfold tmF
  simp [sSeq, sSet, bd, cLst, aCons, aNil, k0, pu, opt, st, LN, c2, cVar, oAdd]
theorem term_run (a : Nat) (m : D) : ∀ c : Nat, c < 12 → fn 1 4 (cTermB a c) [.ob a] m = .ok (errD c) m := by
  intro c hc
  unfold fn
  rw [if_pos (show [D.ob a].length = 1 from rfl), show start 4 [.ob a] = [some (.v (.ob a)), none, none, none] from rfl, term_eq, tmF_run]
  match c, hc with
  | 0, _ => rw [tm_fin a m _ (by kernel_rfl)]; kernel_rfl
  | 1, _ => rw [tm_fin a m _ (by kernel_rfl)]; kernel_rfl
  | 2, _ => rw [tm_fin a m _ (by kernel_rfl)]; kernel_rfl
  | 3, _ => rw [tm_fin a m _ (by kernel_rfl)]; kernel_rfl
  | 4, _ => rw [tm_fin a m _ (by kernel_rfl)]; kernel_rfl
  | 5, _ => rw [tm_fin a m _ (by kernel_rfl)]; kernel_rfl
  | 6, _ => rw [tm_fin a m _ (by kernel_rfl)]; kernel_rfl
  | 7, _ => rw [tm_fin a m _ (by kernel_rfl)]; kernel_rfl
  | 8, _ => rw [tm_fin a m _ (by kernel_rfl)]; kernel_rfl
  | 9, _ => rw [tm_fin a m _ (by kernel_rfl)]; kernel_rfl
  | 10, _ => rw [tm_fin a m _ (by kernel_rfl)]; kernel_rfl
  | 11, _ => rw [tm_fin a m _ (by kernel_rfl)]; kernel_rfl
end Pu
namespace Su
open PySem PySem.Spec PyProof.Rows L2 LamX HotX L2H
/-- more of the errors: isinstance, except -/
structure KfT (K : PySem.W.Frag) : Prop where
  exc : ∀ c : Nat, c < 12 → ExcC K (cad K c)
  kit : ∀ c i : Nat, c < 12 → i < 12 → PySem.W.kitOne K (.ref (cad K c)) (.ref (cad K i)) = some (Nat.beq c i)
  kitV : ∀ c : Nat, c < 12 → PySem.W.kitOne K (.ref (cad K c)) (.type "ValueError") = some true
  exm : ∀ c : Nat, c < 12 → PySem.W.exmOne K (.ref (cad K c)) (.ref (He.ga K "VoteError")) = some true
theorem FnP.imp {P : Program} {w : World} {K : PySem.W.Frag} {mg : Str → Option Value} {base : Heap} {CX : CXT} {k : Nat} {f : Addr} {fd : FuncData} {ps : List Str} {p : Addr × Obj} {sp sp' : Sp} (F : FnP P w K mg base CX k f fd ps p sp) (h : ∀ vs H Q E, sp' vs H Q E → sp vs H Q E) : FnP P w K mg base CX k f fd ps p sp' :=
  ⟨fun vs H Q E q => F.len vs H Q E (h _ _ _ _ q), fun A outer s H args us vs Q E hr hot hpin e0 hb r q => F.run A outer s H args us vs Q E hr hot hpin e0 hb r (h _ _ _ _ q)⟩
theorem term_imp {K : PySem.W.Frag} {a c : Nat} (hc : c < 12) : ∀ vs H Q E, spF K 1 (fTerm a c) vs H Q E → spF K 1 (Pu.fn 1 4 (Pu.cTermB a c)) vs H Q E := by
  rintro vs H Q E ⟨l, al, G, ds, m, s, d, am, p⟩
  refine ⟨l, al, G, ds, m, s, d, am, ?_⟩
  match ds, p with
  | [.ob n], p =>
    by_cases e : n = a
    · subst e
      rw [Pu.term_run n m c hc]
      have ef : fTerm n c [.ob n] m = .ok (Pu.errD c) m := if_pos rfl
      rw [ef] at p
      exact p
    · have ef : fTerm a c [.ob n] m = .bad := if_neg e
      rw [ef] at p
      exact p.elim
  | [], p => exact p.elim
  | .non :: _, p => exact p.elim
  | .bl _ :: _, p => exact p.elim
  | .int _ :: _, p => exact p.elim
  | .str _ :: _, p => exact p.elim
  | .tup _ :: _, p => exact p.elim
  | .lst _ :: _, p => exact p.elim
  | .dic _ :: _, p => exact p.elim
  | .scr _ :: _, p => exact p.elim
  | .amb :: _, p => exact p.elim
  | .ob _ :: _ :: _, p => exact p.elim
end Su

namespace Su
open PySem PySem.Spec PyProof.Rows L2 LamX
open Pu (D Sl Rho Rs M Ro Fn Fl Tg LN)
/-- ds: new lists [c, 0], each by itself, in the new list L -/
structure Dices (H H' : Hp) (L : Addr) (ds : List Addr) : Prop where
  old : ∀ b o, H b = some o → H' b = some o
  fresh : H L = none
  lst : H' L = some (.lst (ds.map V.ref))
  nd : ds.Nodup
  out : L ∉ ds
  new : ∀ d ∈ ds, H d = none
  two : ∀ d ∈ ds, ∃ c : Int, H' d = some (.lst [.int c, .int 0])
section
variable {X : Cx} {E : XK} {tg iter elt : Expr} {scope : Scope} {pos : Pos} {k j : Nat} {ci : M (List D)} {ce : M D}
theorem noOw_of {r : Rho} {s : L2.St} (h : ∀ (i : Nat) (d : D), r[i]? ≠ some (some (.own d))) {a : Addr} : ¬ Ow r s a := fun ⟨i, d, e, _⟩ => h i d e
theorem so_rounds (C : Cn k X E) (x : Str) (ok : blkC X.N X.env.scope scope [(x, j)] = true) (hi : SI X [] E tg iter ci)
    (hg : ∀ (s : Shared) (H : Hp) (C : Addr) (cl : List (Str × Addr)) (fp : List Addr), SG (X.blk s H scope (compEnvC scope cl C X.env) fp) [] tg (.nm j))
    (he : ∀ (s : Shared) (H : Hp) (C : Addr) (cl : List (Str × Addr)) (fp : List Addr), SO (X.blk s H scope (compEnvC scope cl C X.env) fp) [] E0 elt ce) (hs : ∀ x, foldedSetIterable iter X.env x = pure x := by intro _; rfl) :
    ∃ t, PE X (.ListComp elt [⟨tg, iter, [], 0⟩] scope pos) t ∧ ∀ (r : Rho) (s : L2.St) (H : Hp) (Q : VK) (n : Nat), Rel X.K [] none H H r .non s → (∀ (i : Nat) (d : D), r[i]? ≠ some (some (.own d))) → j < r.length → ci r .non = .ok (Pu.rg 0 n) r .non → n ≤ 1000 →
      (∀ i : Nat, i < n → ∃ c : Int, ce ((Pu.wipe r [j]).set j (some (.v (.int i)))) .non = .ok (.lst [.int c, .int 0]) ((Pu.wipe r [j]).set j (some (.v (.int i)))) .non) →
      (∀ H' L ds, Dices H H' L ds → Q (.ref L) H') → t s H Q := by
  obtain ⟨wi, h1, h2⟩ := hi
  refine ⟨_, pe_lc C.calm C.nd h1 (blkOk_by ok) (fun _ _ _ _ _ => blkG_pg) (fun _ _ _ _ _ => pts_nil) (fun _ _ _ _ _ => blkE_pe) hs, fun r s H Q n R no hj hci hn hce fin => ?_⟩
  refine h2 none r .non s H H _ R ?_
  rw [hci]
  intro J G1 H1 S1 R1 y1
  have y1 := y1.2
  intro D hD
  have no' : ∀ (i : Nat) (d : Pu.D), (Pu.wipe r [j])[i]? ≠ some (some (.own d)) := fun i d z => by
    obtain ⟨q1, _⟩ := wipeP_get.mp z
    exact no i d q1
  have S1' : ∀ b o, H b = some o → H1 b = some o := fun b o e => (S1.keep b o e (noOw_of no) (fun z => nomatch z) (fun _ z => nomatch z)).1
  have Rw : Rel X.K [] none G1 H1 (Pu.wipe r [j]) .non (L2.wipe s [j]) := R1.wipe (fun _ z => z)
  refine ⟨fun i mm H' => mm = n - i ∧ i ≤ n ∧ ∃ (G' : Hp) (ds : List Addr), Rel X.K [] none G' H' (Pu.wipe r [j]) .non (L2.wipe s [j]) ∧ Same G1 G' ∧ (∀ b o, H1 b = some o → H' b = some o) ∧ H' D = some (.lst (ds.map V.ref)) ∧ G' D = none ∧ ds.Nodup ∧ D ∉ ds ∧ (∀ d ∈ ds, H1 d = none ∧ G' d = none ∧ ∃ c : Int, H' d = some (.lst [.int c, .int 0])) ∧ ds.length = i,
    ⟨n, rfl, Nat.zero_le _, G1, [], Rw.newO hD, Same.refl _, fun b o e => by rw [upd_ne (ne_of_none e hD)]; exact e, upd_same, R1.same.free hD, List.nodup_nil, by simp, fun d hd => by simp at hd, rfl⟩, ?_⟩
  rintro i mm H' ⟨rfl, hi, G', ds, R', sG, kp, eD, gD, nd, nD, hds, hl⟩
  obtain ⟨yi, ye⟩ := y1 G' H' sG R'.same
  have lrg : (Pu.rg 0 n).length = n := by simp [Pu.rg]
  by_cases hlt : i < n
  · have hd : (Pu.rg 0 n)[i]? = some (.int (i : Nat)) := by simp [Pu.rg, hlt]
    obtain ⟨go, nxt⟩ := yi i _ hd
    refine .inr ⟨go, fun H2 => ∃ (G' : Hp) (ds : List Addr), Rel X.K [] none G' H2 (Pu.wipe r [j]) .non (L2.wipe s [j]) ∧ Same G1 G' ∧ (∀ b o, H1 b = some o → H2 b = some o) ∧ H2 D = some (.lst (ds.map V.ref)) ∧ G' D = none ∧ ds.Nodup ∧ D ∉ ds ∧ (∀ d ∈ ds, H1 d = none ∧ G' d = none ∧ ∃ c : Int, H2 d = some (.lst [.int c, .int 0])) ∧ ds.length = i + 1, fun H2 h => ⟨n - (i + 1), by omega, rfl, hlt, h⟩, fun x H'' hy => ?_⟩
    obtain ⟨G2, fx, dn⟩ := nxt x H'' hy
    have R2 := fx.rel R'
    have S2 : Step [] none (Ow (Pu.wipe r [j]) (L2.wipe s [j])) G' H' (Ow (Pu.wipe r [j]) (L2.wipe s [j])) G2 H'' := fx.step R'.same
    have hj' : j < (Pu.wipe r [j]).length := by rw [wipeP_len]; exact hj
    have q : Pu.asg (.nm j) (.int (i : Nat)) (Pu.wipe r [j]) = some ((Pu.wipe r [j]).set j (some (.v (.int i)))) := by simp [Pu.asg, hj']
    intro s0 H0 C cl fp pins st u I ru
    obtain ⟨gg, pg, sg⟩ := hg s0 H0 C cl fp
    refine pg.run pins st _ _ x u _ I ru (sg none _ _ .non _ G2 H'' x _ _ R2 dn q fun s3 w3 S3 R3 => ⟨(w3 [j] (fun i h => by simpa [slots] using h)).trans (wipeS_idem s [j]), ?_⟩)
    simp only [↓reduceIte]
    intro s0 H0 C cl fp pins st I
    obtain ⟨te, pe, sde⟩ := he s0 H0 C cl fp
    obtain ⟨c, hc⟩ := hce i hlt
    refine pe.run pins st _ _ _ I (sde none _ .non s3 G2 H'' _ R3 ?_)
    rw [hc]
    intro p G5 H5 S5 R5 ob no5 na5 hp5
    have no3 : ∀ (i' : Nat) (d : Pu.D), ((Pu.wipe r [j]).set j (some (.v (.int i))))[i']? ≠ some (some (.own d)) := fun i' d z => by
      by_cases hij : j = i'
      · subst hij; rw [List.getElem?_set_self hj'] at z; cases z
      · rw [List.getElem?_set_ne hij] at z; exact no' i' d z
    have S25 := S2.trans (S3.trans S5)
    have kp5 : ∀ b o, H' b = some o → H5 b = some o ∧ G5 b = G' b := fun b o e => S25.keep b o e (noOw_of no') (fun z => nomatch z) (fun _ z => nomatch z)
    obtain ⟨gp, xs, hpx, _, dl⟩ := ob
    have ex : xs = [V.int c, V.int 0] := by
      cases dl with
      | cons h1 h2 =>
        cases h2 with
        | cons h3 h4 =>
          cases h4
          rw [h1.int_of, h3.int_of]
    subst ex
    have pH : H' p = none := by
      cases e : H' p with
      | none => rfl
      | some o => exact absurd hp5 (S2.dom p (by rw [e]; exact fun z => nomatch z))
    have pD : p ≠ D := fun z => by rw [z, eD] at pH; cases pH
    have eD5 := kp5 D _ eD
    have ew : L2.wipe s3 [j] = L2.wipe s [j] := (w3 [j] (fun i h => by simpa [slots] using h)).trans (wipeS_idem s [j])
    have R6 : Rel X.K [] none G5 H5 (Pu.wipe r [j]) .non (L2.wipe s [j]) := by
      have := R5.wipe (vs := [j]) (ws := [j]) (fun _ z => z)
      rw [ew] at this
      have e2 : Pu.wipe ((Pu.wipe r [j]).set j (some (.v (.int (i : Nat))))) [j] = Pu.wipe r [j] := by
        simp [Pu.wipe, List.set_set]
      rw [e2] at this
      exact this
    refine ⟨ds.map V.ref, eD5.1, by rw [List.length_map, hl]; have := sizeLine_eq; omega, G5, ds ++ [p], ?_, fun b o e => S25.mono b o (sG b o e), fun b o e => ?_, ?_, by rw [eD5.2]; exact gD, ?_, ?_, fun d hd => ?_, by rw [List.length_append, hl]; rfl⟩
    · exact R6.upd (by rw [eD5.2]; exact gD) (noOw_of no') (fun z => nomatch z) (fun _ z => nomatch z) fun q z => by
        rw [eD5.1] at z
        unfold LamX.CodeO at z
        cases z
    · rw [upd_ne (fun z => by rw [z, hD] at e; cases e)]
      exact (kp5 b o (kp b o e)).1
    · rw [upd_same, List.map_append]; rfl
    · rw [List.nodup_append]
      refine ⟨nd, by simp, fun a ha b hb => ?_⟩
      rw [List.mem_singleton.mp hb]
      intro z
      obtain ⟨_, _, cc, h3⟩ := hds a ha
      rw [z, pH] at h3
      cases h3
    · intro z
      rcases List.mem_append.mp z with z | z
      · exact nD z
      · exact pD (List.mem_singleton.mp z).symm
    · rcases List.mem_append.mp hd with hd | hd
      · obtain ⟨h1', h2', cc, h3'⟩ := hds d hd
        have := kp5 d _ h3'
        refine ⟨h1', by rw [this.2]; exact h2', cc, ?_⟩
        rw [upd_ne (fun z => nD (by rw [← z]; exact hd))]
        exact this.1
      · rw [List.mem_singleton.mp hd]
        refine ⟨?_, gp, c, ?_⟩
        · cases e : H1 p with
          | none => rfl
          | some o => rw [kp p o e] at pH; cases pH
        · rw [upd_ne pD]; exact hpx
  · have e : i = n := by omega
    subst e
    rw [lrg] at ye
    refine .inl ⟨ye, fin H' D ds ⟨fun b o e => kp b o (S1' b o e), ?_, eD, nd, nD, fun d hd => ?_, fun d hd => (hds d hd).2.2⟩⟩
    · cases e : H D with
      | none => rfl
      | some o => rw [S1' D o e] at hD; cases hD
    · cases e : H d with
      | none => rfl
      | some o => have := (hds d hd).1; rw [S1' d o e] at this; cases this
end
end Su

namespace Pu
def cRoundsI : M (List D) := (iRng (c2 oMax2 (cK (.int 1)) (c2 oMin2 (cVar 1) (c1 oLen (cVar 0)))))
def cRoundsE : M D := (cLst (aCons (cCall f__law_cell (aCons (cVar 0) (aCons (cVar 2) aNil))) (aCons (cK (.int 0)) aNil)))
theorem cell_run (ns : List Int) (h : ns.length ≤ 63) (k : Nat) (m : D) : ∃ c : Int, f__law_cell [.scr ns, .int k] m = .ok (.int c) m := by
  have m1 : ∀ z : Int, oMul (.int z) (.int 7919) = some (.int (z * 7919)) := fun z => oMul_ok (by omega) (by omega)
  have m2 : ∀ z : Int, oMul (.int z) (.int 104729) = some (.int (z * 104729)) := fun z => oMul_ok (by omega) (by omega)
  have hs : start 2 [.scr ns, .int k] = [some (.v (.scr ns)), some (.v (.int k))] := rfl
  have hz : [D.scr ns, .int k].length = 2 := rfl
  have h0' : ([] : List D).length ≤ LN := Nat.zero_le _
  have he : oEq (.scr ns) (.lst []) = some (.bl ns.isEmpty) := rfl
  unfold f__law_cell
  rw [fn_ev hz, hs]
  cases ns with
  | nil =>
    refine ⟨(k : Int) * 7919, ?_⟩
    have key : c__law_cell [some (.v (.scr [])), some (.v (.int k))] m = .ok (.rt (.int ((k : Int) * 7919))) [some (.v (.scr [])), some (.v (.int k))] m := by
      rw [c__law_cell.eq_1]
      simp only [ev_bd, ev_pu, ev_some, ev_var, ev_K, ev_c1, ev_c2, ev_tB, ev_nil, ev_cons, ev_lst, ev_idx, ev_seq, ev_sIf, ev_ret, ev_nop, ev_iRng, List.getElem?_cons_zero, List.getElem?_cons_succ, Bool.false_eq_true, ↓reduceIte, if_true, he, h0', List.isEmpty_nil, m1]
    rw [key]; rfl
  | cons a ns =>
    have hl : (0 : Int) < ((a :: ns).length : Int) := by simp
    have hm : (k : Int) % ((a :: ns).length : Int) < ((a :: ns).length : Int) := Int.emod_lt_of_pos _ hl
    have h0 : 0 ≤ (k : Int) % ((a :: ns).length : Int) := Int.emod_nonneg _ (by omega)
    obtain ⟨x, hx⟩ : ∃ x, oIdx (.scr (a :: ns)) (.int ((k : Int) % ((a :: ns).length : Int))) = some (.int x) := by
      unfold oIdx atI ixN
      dsimp only
      rw [if_pos h0, if_pos hm]
      refine ⟨(a :: ns)[((k : Int) % ((a :: ns).length : Int)).toNat]'(by omega), ?_⟩
      simp only [Option.bind_some]
      rw [List.getElem?_eq_getElem]
      rfl
    have hd : ((a :: ns).length : Int) < 18446744073709551616 := by omega
    have e1 : oLen (.scr (a :: ns)) = some (.int ((a :: ns).length : Int)) := rfl
    have e2 := oMod_ok (i := (k : Int)) hl
    have e3 := oDiv_ok (i := (k : Int)) hl hd
    have e4 : ∀ y z : Int, oAdd (.int y) (.int z) = some (.int (y + z)) := fun _ _ => rfl
    refine ⟨x + (k : Int) / ((a :: ns).length : Int) * 104729, ?_⟩
    have key : c__law_cell [some (.v (.scr (a :: ns))), some (.v (.int k))] m = .ok (.rt (.int (x + (k : Int) / ((a :: ns).length : Int) * 104729))) [some (.v (.scr (a :: ns))), some (.v (.int k))] m := by
      rw [c__law_cell.eq_1]
      simp only [ev_bd, ev_pu, ev_some, ev_var, ev_K, ev_c1, ev_c2, ev_tB, ev_nil, ev_cons, ev_lst, ev_idx, ev_seq, ev_sIf, ev_ret, ev_nop, ev_iRng, List.getElem?_cons_zero, List.getElem?_cons_succ, Bool.false_eq_true, ↓reduceIte, if_true, he, h0', List.isEmpty_cons, m2, e1, e2, e3, hx, e4]
    rw [key]; rfl
theorem rounds_i (ns : List Int) (h : ns.length ≤ 63) (n : Int) (h0 : 0 ≤ n) (h1 : n ≤ 100) : ∃ k : Nat, k ≤ 1000 ∧ cRoundsI (start 3 [.scr ns, .int n]) .non = .ok (rg 0 k) (start 3 [.scr ns, .int n]) .non := by
  have hs : start 3 [.scr ns, .int n] = [some (.v (.scr ns)), some (.v (.int n)), none] := rfl
  have e1 : oLen (.scr ns) = some (.int (ns.length : Int)) := rfl
  have e2 : oMin2 (.int n) (.int (ns.length : Int)) = some (.int (if (ns.length : Int) < n then (ns.length : Int) else n)) := rfl
  have e3 : ∀ z : Int, oMax2 (.int 1) (.int z) = some (.int (if z > 1 then z else 1)) := fun _ => rfl
  generalize hz : (if (ns.length : Int) < n then (ns.length : Int) else n) = z at e2
  have hz1 : z ≤ 100 := by split at hz <;> omega
  have hz0 : 0 ≤ z := by split at hz <;> omega
  generalize hy : (if z > 1 then z else 1) = y
  have hy1 : y ≤ 100 := by split at hy <;> omega
  have hy0 : 0 ≤ y := by split at hy <;> omega
  have e3' : oMax2 (.int 1) (.int z) = some (.int y) := by rw [e3, hy]
  have hr : y.natAbs ≤ 16777216 := by omega
  refine ⟨y.toNat, by omega, ?_⟩
  rw [hs]
  unfold cRoundsI
  simp only [ev_bd, ev_pu, ev_some, ev_var, ev_K, ev_c1, ev_c2, ev_tB, ev_nil, ev_cons, ev_lst, ev_idx, ev_seq, ev_sIf, ev_ret, ev_nop, ev_iRng, List.getElem?_cons_zero, List.getElem?_cons_succ, Bool.false_eq_true, ↓reduceIte, if_true, e1, e2, e3']
  rw [if_pos hr]
  rfl
theorem rounds_e (ns : List Int) (h : ns.length ≤ 63) (n : Int) (i : Nat) : ∃ c : Int, cRoundsE ((wipe (start 3 [.scr ns, .int n]) [2]).set 2 (some (.v (.int i)))) .non = .ok (.lst [.int c, .int 0]) ((wipe (start 3 [.scr ns, .int n]) [2]).set 2 (some (.v (.int i)))) .non := by
  obtain ⟨c, hc⟩ := cell_run ns h i .non
  refine ⟨c, ?_⟩
  have e : (wipe (start 3 [.scr ns, .int n]) [2]).set 2 (some (.v (.int i))) = [some (.v (.scr ns)), some (.v (.int n)), some (.v (.int i))] := rfl
  rw [e]
  simp [cRoundsE, cLst, aCons, aNil, cCall, bd, cVar, pu, ap, hc, opt, cK, LN]
end Pu

namespace Su
open PySem PySem.Spec PyProof.Rows L2 LamX
open Pu (D Sl Rho Rs M Ro Fn Fl Tg LN)
def spR (K : PySem.W.Frag) : Sp := fun vs H Q _ => ∃ (a : Addr) (ns : List Int) (n : Int), vs = [.ref a, .int n] ∧ SqL K H a (ns.map V.int) ∧ ns.length ≤ 63 ∧ 0 ≤ n ∧ n ≤ 100 ∧ ∀ H' L ds, Dices H H' L ds → Q (.ref L) H'
section
variable {P : Program} {w : World} {K : PySem.W.Frag} {mg : Str → Option Value} {base : Heap}
theorem rounds_ok {st : Stmt} {fa : Addr} {fd : FuncData} {k : Nat} {e : Expr} {pos : Pos} (F : Fd K "_law_rounds" st fa fd) (S : FnScope ["script", "most", "k"] ["script", "most"] (defScope st)) (hb : defBody st = [.Return (some e) pos])
    (body : ∀ (cdv : Value) (A : Around) (outer : List Env) (s : Shared) (H : Hp) (E : XK), Cn k (cxOf (L2N.CX P w) P w K mg base ["script", "most", "k"] "_law_rounds" (defScope st) fa cdv A outer s H E) E →
      ∃ t, PE (cxOf (L2N.CX P w) P w K mg base ["script", "most", "k"] "_law_rounds" (defScope st) fa cdv A outer s H E) e t ∧ ∀ (r : Rho) (s : L2.St) (H : Hp) (Q : VK) (n : Nat), Rel K [] none H H r .non s → (∀ (i : Nat) (d : D), r[i]? ≠ some (some (.own d))) → 2 < r.length → Pu.cRoundsI r .non = .ok (Pu.rg 0 n) r .non → n ≤ 1000 →
        (∀ i : Nat, i < n → ∃ c : Int, Pu.cRoundsE ((Pu.wipe r [2]).set 2 (some (.v (.int i)))) .non = .ok (.lst [.int c, .int 0]) ((Pu.wipe r [2]).set 2 (some (.v (.int i)))) .non) →
        (∀ H' L ds, Dices H H' L ds → Q (.ref L) H') → t s H Q) :
    FnOk P w K mg base (L2N.CX P w) (k + 1) fa fd ["script", "most"] (spR K) := by
  obtain ⟨oc, od, dV, kV, doc, pm, an, cdv, ct, osl, rfl, lk, hcd, _, _⟩ := F.ex
  refine fn_of lk hcd S (fun vs H Q E h => by obtain ⟨a, ns, n, rfl, _⟩ := h; rfl) fun A outer s H vs Q E hr h => ?_
  obtain ⟨a, ns, n, rfl, hS, hl, h0, h1, hQ⟩ := h
  obtain ⟨t, h2, h3⟩ := body cdv A outer s H E (cn_of S.nd hr)
  rw [hb]
  refine ⟨_, pss_one (ps_ret h2), ?_⟩
  obtain ⟨kk, hk, hi⟩ := Pu.rounds_i ns hl n h0 h1
  have R : Rel K [] none H H (Pu.start 3 [.scr ns, .int n]) .non (L2.start ["script", "most", "k"] [.ref a, .int n]) :=
    rel_start (N := ["script", "most", "k"]) (Same.refl H) (.cons (.scr hS (Nat.le_trans hl (by decide))) (.cons (.int n) .nil)) (fun _ z => nomatch z)
  refine h3 _ _ H Q kk R (fun i d z => ?_) (by show 2 < 3; decide) hi hk (fun i _ => Pu.rounds_e ns hl n i) hQ
  obtain ⟨d', _, e⟩ := start_get z
  cases e
def spLaw (K : PySem.W.Frag) (Pt : Addr) : Sp := fun vs H Q _ => ∃ (a : Addr) (ns : List Int), vs = [.ref a] ∧ SqL K H a (ns.map V.int) ∧ ns.length ≤ 63 ∧ H Pt = some (.tbl #[]) ∧ ∀ H', Q (.bl true) H'
/-- the body is run from each dice [c, 0] -/
def rDice (n i : Nat) : Rho := (List.replicate n none).set i (some (.v .amb))
def BodyOk (n i : Nat) (cb : M Fl) : Prop := ∀ c : Int, ∃ r' m', cb (rDice n i) (.lst [.int c, .int 0]) = .ok .nx r' m' ∧ r'.length = n
theorem law_ok {st : Stmt} {fa fr : Addr} {fd fdr : FuncData} {N : List Str} {k j i : Nat} {n : Int} {bd : List Stmt} {cb : M Fl} {Pt : Addr} {pd p1 p2 p3 p4 p5 p6 p7 : Pos} {j1 j2 : Nat}
    (F : Fd K "law" st fa fd) (S : FnScope N ["script"] (defScope st)) (hb : defBody st = [.For (.Name "dice" pd) (.Call (.Name "_law_rounds" p1) [.Name "script" p2, .Constant (.int n) j1 p3] [] p4) bd [] p5, .Return (some (.Constant (.bool true) j2 p6)) p7])
    (FR : FnOk P w K mg base (L2N.CX P w) j fr fdr ["script", "most"] (spR K)) (hj : j ≤ k) (hmr : mg "_law_rounds" = some (.ref fr)) (hkr : PySem.W.keepIn K (.ref fr) = true) (hbr : Binds K fdr ["script", "most"] []) (h0 : 0 ≤ n) (h1 : n ≤ 100)
    (hi : N[i]? = some ("dice" : Str)) (hdl : Loc (defScope st) "dice") (hvs : Vis (defScope st) "script") (hN0 : N[0]? = some ("script" : Str)) (hgr : (defScope st).names.lookup ("_law_rounds" : Str) = some .globalImplicit) (ok : BodyOk N.length i cb)
    (body : ∀ (cdv : Value) (A : Around) (outer : List Env) (s : Shared) (H : Hp) (E : XK), PySem.W.codeIn K cdv "law" = true → K.lookup fa ≠ none → Cn k (cxOf (L2N.CX P w) P w K mg base N "law" (defScope st) fa cdv A outer s H E) E → fd.code = cdv →
      SB (cxOf (L2N.CX P w) P w K mg base N "law" (defScope st) fa cdv A outer s H E) [(Pt, (cxOf (L2N.CX P w) P w K mg base N "law" (defScope st) fa cdv A outer s H E).env.qual ++ "<lambda>")] E bd cb) :
    FnOk P w K mg base (L2N.CX P w) (k + 1) fa fd ["script"] (spLaw K Pt) := by
  obtain ⟨oc, od, dV, kV, doc, pm, an, cdv, ct, osl, rfl, lk, hcd, _, _⟩ := F.ex
  refine fn_of lk hcd S (fun vs H Q E h => by obtain ⟨a, ns, rfl, _⟩ := h; rfl) fun A outer s H vs Q E hr h => ?_
  obtain ⟨a, ns, rfl, hS, hl, hT, hQ⟩ := h
  have C : Cn k (cxOf (L2N.CX P w) P w K mg base N "law" (defScope st) fa cdv A outer s H E) E := cn_of S.nd hr
  obtain ⟨tb, hp, hsd⟩ := body cdv A outer s H E hcd (by rw [lk]; exact fun z => nomatch z) C rfl
  rw [hb]
  have pv : PE (cxOf (L2N.CX P w) P w K mg base N "law" (defScope st) fa cdv A outer s H E) (.Name "script" p2) (tVar 0) := pe_var hN0 hvs
  have pr : PE (cxOf (L2N.CX P w) P w K mg base N "law" (defScope st) fa cdv A outer s H E) (.Call (.Name "_law_rounds" p1) [.Name "script" p2, .Constant (.int n) j1 p3] [] p4) _ :=
    pe_call FR (C.room.mono hj) hgr hmr hkr hbr .nil C.pass (pa_cons pv (pa_cons pe_int pa_nil))
  refine ⟨_, pss_cons (ps_for C.own C.calm (pi_list pr) (pg_name S.nd hi hdl (.inl rfl)) hp) (pss_one (ps_ret pe_bl)), ?_⟩
  have hiN : i < N.length := (List.getElem?_eq_some_iff.mp hi).1
  have hsl : (L2.start N [.ref a]).length = N.length := by
    have hpl : 1 ≤ N.length := (List.getElem?_eq_some_iff.mp hN0).1
    unfold L2.start
    rw [List.length_append, List.length_map, List.length_replicate]
    simp
    omega
  refine ⟨.ref a, rfl, a, ns, n, rfl, hS, hl, h0, h1, fun H1 L ds dd => ⟨L, rfl, ⟨_, SqL.of dd.lst⟩, ?_⟩⟩
  generalize hq : (cxOf (L2N.CX P w) P w K mg base N "law" (defScope st) fa cdv A outer s H E).env.qual ++ "<lambda>" = q at hsd
  have nT : ∀ (H' : Hp) (b : Addr) (xs : List V), Tabs [(Pt, q)] H' → H' b = some (.lst xs) → Pt ≠ b := fun H' b xs t e z => by
    obtain ⟨ps, h, _⟩ := t _ List.mem_cons_self
    rw [show (Pt, q).1 = b from z, e] at h
    cases h
  refine ⟨fun ii mm s' H' => mm = ds.length - ii ∧ ii ≤ ds.length ∧ s'.length = N.length ∧ H' L = some (.lst (ds.map V.ref)) ∧ (∀ (jj : Nat) (d : Addr), ii ≤ jj → ds[jj]? = some d → ∃ c : Int, H' d = some (.lst [.int c, .int 0])) ∧ Tabs [(Pt, q)] H',
    ⟨ds.length, rfl, Nat.zero_le _, hsl, dd.lst, fun jj d _ e => dd.two d (List.mem_of_getElem? e), fun p hp => ?_⟩, ?_⟩
  · rw [List.mem_singleton.mp hp]
    exact TabS.nil (dd.old _ _ hT)
  rintro ii mm s' H' ⟨rfl, hii, hsl', eL, hd, tt⟩
  by_cases hlt : ii < ds.length
  · have hdi : ds[ii]? = some ds[ii] := by simp [hlt]
    obtain ⟨c, hc⟩ := hd ii _ (Nat.le_refl _) hdi
    refine .inr ⟨⟨_, .ref ds[ii], SqL.of eL, by rw [List.getElem?_map, hdi]; rfl⟩, fun s2 H2 => s2.length = N.length ∧ H2 L = some (.lst (ds.map V.ref)) ∧ (∀ (jj : Nat) (d : Addr), ii + 1 ≤ jj → ds[jj]? = some d → ∃ c : Int, H2 d = some (.lst [.int c, .int 0])) ∧ Tabs [(Pt, q)] H2,
      fun s2 H2 h => ⟨ds.length - (ii + 1), by omega, rfl, hlt, h⟩, fun x H'' hy => ?_⟩
    obtain ⟨rfl, hx⟩ := hy
    have ex : x = .ref ds[ii] := by
      have := hx _ (SqL.of eL)
      rw [List.getElem?_map, hdi] at this
      cases this
      rfl
    subst ex
    show tb _ (s'.set i (some (.ref ds[ii]))) H''
    obtain ⟨r', m', hrun, hr'⟩ := ok c
    refine hsd (some ds[ii]) (rDice N.length i) (.lst [.int c, .int 0]) _ (fun _ => none) H'' _ ?_ ?_
    · have noO : ∀ (j : Nat) (d : D), (rDice N.length i)[j]? ≠ some (some (.own d)) := fun j d z => by
        unfold rDice at z
        by_cases e : i = j
        · subst e; rw [List.getElem?_set_self (by simpa using hiN)] at z; cases z
        · rw [List.getElem?_set_ne e, List.getElem?_replicate] at z
          split at z <;> cases z
      refine ⟨(fun _ _ z => nomatch z), by unfold rDice; simp [hsl'], fun j d z => ?_, fun j d z => (noO j d z).elim, fun j _ d _ _ z => (noO j d z).elim, fun a' z => ?_, fun a' z w => noOw_of noO w, tt, fun _ _ => rfl⟩
      · unfold rDice at z
        by_cases e : i = j
        · subst e
          rw [List.getElem?_set_self (by simpa using hiN)] at z
          cases z
          exact ⟨.ref ds[ii], by rw [List.getElem?_set_self (by rw [hsl']; exact hiN)], .amb rfl⟩
        · rw [List.getElem?_set_ne e, List.getElem?_replicate] at z
          split at z <;> cases z
      · cases z
        exact ⟨rfl, _, hc, by show 2 ≤ LN; decide, .cons (.int c) (.cons (.int 0) .nil)⟩
    · rw [hrun]
      intro s3 G3 H3 S3 R3
      have kp : ∀ b xs, H'' b = some (.lst xs) → b ≠ ds[ii] → H3 b = some (.lst xs) := fun b xs e n => (S3.keep b _ e (fun z => by
          obtain ⟨j, d, z1, _⟩ := z
          unfold rDice at z1
          by_cases e : i = j
          · subst e; rw [List.getElem?_set_self (by simpa using hiN)] at z1; cases z1
          · rw [List.getElem?_set_ne e, List.getElem?_replicate] at z1
            split at z1 <;> cases z1) (fun z => n (Option.some.inj z).symm) (fun p hp => by
          rw [List.mem_singleton.mp hp]
          exact nT _ b xs tt e)).1
      refine ⟨by rw [← R3.len]; exact hr', kp L _ eL (fun z => dd.out (by rw [z]; exact List.getElem_mem hlt)), fun jj d hjj e => ?_, R3.tabs⟩
      obtain ⟨c', hc'⟩ := hd jj d (by omega) e
      refine ⟨c', kp d _ hc' fun z => ?_⟩
      have : jj = ii := by
        exact ((List.getElem?_inj hlt dd.nd).mp (by rw [hdi, e, z])).symm
      omega
  · have e : ii = ds.length := by omega
    subst e
    exact .inl ⟨⟨_, SqL.of eL, by simp⟩, hQ H'⟩
end
end Su

namespace G
open PySem PySem.Spec PyProof.Rows L2 Su
open Pu (D Sl Rho Rs M Ro Fn Fl Tg LN)
def top (i : Nat) : Stmt := PySem.Challenge.pw_lastout_k02_whole_added.main.body.getD i (.Pass ⟨0, 0, 0, 0⟩)
abbrev s_is_whole : Stmt := top 16
abbrev s_are_letters : Stmt := top 17
abbrev s_is_pair : Stmt := top 18
abbrev s_is_votes : Stmt := top 19
abbrev s_need_votes : Stmt := top 20
abbrev s_candidates_of : Stmt := top 21
abbrev s_need_ballot : Stmt := top 22
abbrev s_need_times : Stmt := top 23
abbrev s_with_more : Stmt := top 24
abbrev s_added : Stmt := top 25
abbrev s_renamed : Stmt := top 26
abbrev s__law_cell : Stmt := top 28
abbrev s__law_drawn : Stmt := top 29
abbrev s__law_roll : Stmt := top 30
abbrev s__law_rounds : Stmt := top 31
abbrev s__law_term : Stmt := top 32
abbrev s__law_told : Stmt := top 33
abbrev s__law_any_ballot : Stmt := top 34
abbrev s__law_any_votes : Stmt := top 35
abbrev s_law : Stmt := top 36
section
variable {P : Program} {w : World} {K : PySem.W.Frag} {mg : Str → Option Value} {base : Heap} {t : Tok}
theorem sc_is_whole : FnScope ["value", "low", "high"] ["value", "low", "high"] (defScope s_is_whole) := ⟨rfl, rfl, rfl, by decide +kernel, rfl, by decide +kernel, by decide +kernel⟩
theorem b_is_whole {fa : Addr} {fd : FuncData} (F : Fd K "is_whole" s_is_whole fa fd) : Binds K fd ["value", "low", "high"] [] := F.bindsN fun _ _ _ _ _ _ us hl => match us, hl with | [_, _, _], _ => rfl
theorem ok_is_whole (Fx : Kf K mg t) {fa : Addr} {fd : FuncData} (F : Fd K "is_whole" s_is_whole fa fd) (hm : mg "is_whole" = some (.ref fa)) : FnS P w K mg base 1 "is_whole" 3 Pu.f_is_whole :=
  fns_of (k := 0) (cbody := Pu.c_is_whole) F hm (b_is_whole F) sc_is_whole rfl rfl fun cdv A outer s H E C => (sb_one (ss_ret (se_and (se_isi "int" (by decide) (Fx.free "isinstance" (by decide)) (Fx.free "int" (by decide)) (by decide +kernel) (se_var 0)) (se_and (se_not (se_isi "bool" (by decide) (Fx.free "isinstance" (by decide)) (Fx.free "bool" (by decide)) (by decide +kernel) (se_var 0))) (se_one (se_chain op_le op_le od_le od_le (se_var 1) (se_var 0) (se_var 2)))))))
theorem sc_are_letters : FnScope ["value", "some", "letter"] ["value", "some"] (defScope s_are_letters) := ⟨rfl, rfl, rfl, by decide +kernel, rfl, by decide +kernel, by decide +kernel⟩
theorem b_are_letters {fa : Addr} {fd : FuncData} (F : Fd K "are_letters" s_are_letters fa fd) : Binds K fd ["value", "some"] [] := F.bindsN fun _ _ _ _ _ _ us hl => match us, hl with | [_, _], _ => rfl
theorem ok_are_letters (Fx : Kf K mg t) {fa : Addr} {fd : FuncData} (F : Fd K "are_letters" s_are_letters fa fd) (hm : mg "are_letters" = some (.ref fa)) : FnS P w K mg base 1 "are_letters" 2 Pu.f_are_letters :=
  fns_of (k := 0) (cbody := Pu.c_are_letters) F hm (b_are_letters F) sc_are_letters rfl rfl fun cdv A outer s H E C => (sb_cons (ss_if (SW.st (sw_or (st_not (st_val (se_isi "str" (by decide) (Fx.free "isinstance" (by decide)) (Fx.free "str" (by decide)) (by decide +kernel) (se_var 0)))) (sw_or (st_eq C (se_var 0) (se_str [] (by decide))) (sw_or1 (st_not (st_val (se_all C (Fx.free "all" (by decide)) (SO.se (so_lc C [("letter", 2)] (by kernel_rfl) (by decide) (si_str (se_var 0)) (fun _ _ _ _ _ => (sg_nm 2 (cn_blk C).nd)) (fun _ _ _ _ _ => sts_nil) (fun _ _ _ _ _ => (se_in (se_var 2) (se_var 1)))))))))))) (sb_one (ss_ret se_bl)) sb_nil)
  (sb_one (ss_ret (se_eq C (se_lenSet C (Fx.free "len" (by decide)) (Fx.free "set" (by decide)) (se_var 0)) (se_len (Fx.free "len" (by decide)) (se_var 0))))))
theorem sc_candidates_of : FnScope ["votes"] ["votes"] (defScope s_candidates_of) := ⟨rfl, rfl, rfl, by decide +kernel, rfl, by decide +kernel, by decide +kernel⟩
theorem b_candidates_of {fa : Addr} {fd : FuncData} (F : Fd K "candidates_of" s_candidates_of fa fd) : Binds K fd ["votes"] [] := F.bindsN fun _ _ _ _ _ _ us hl => match us, hl with | [_], _ => rfl
theorem ok_candidates_of (Fx : Kf K mg t) {fa : Addr} {fd : FuncData} (F : Fd K "candidates_of" s_candidates_of fa fd) (hm : mg "candidates_of" = some (.ref fa)) : FnS P w K mg base 1 "candidates_of" 1 Pu.f_candidates_of :=
  fns_of (k := 0) (cbody := Pu.c_candidates_of) F hm (b_candidates_of F) sc_candidates_of rfl rfl fun cdv A outer s H E C => (sb_one (ss_ret (se_cut (se_gstr [97, 98, 99, 100, 101] Fx.letters (by decide)) sp_none (sp_some (se_idx (se_var 0) se_int)))))
theorem sc_with_more : FnScope ["pairs", "ballot", "times", "found", "is_met", "one", "many"] ["pairs", "ballot", "times"] (defScope s_with_more) := ⟨rfl, rfl, rfl, by decide +kernel, rfl, by decide +kernel, by decide +kernel⟩
theorem b_with_more {fa : Addr} {fd : FuncData} (F : Fd K "with_more" s_with_more fa fd) : Binds K fd ["pairs", "ballot", "times"] [] := F.bindsN fun _ _ _ _ _ _ us hl => match us, hl with | [_, _, _], _ => rfl
theorem ok_with_more (Fx : Kf K mg t) {fa : Addr} {fd : FuncData} (F : Fd K "with_more" s_with_more fa fd) (hm : mg "with_more" = some (.ref fa)) : FnS P w K mg base 1 "with_more" 3 Pu.f_with_more :=
  fns_of (k := 0) (cbody := Pu.c_with_more) F hm (b_with_more F) sc_with_more rfl rfl fun cdv A outer s H E C => (sb_cons (ss_parO1 C 3 4 (so_lst sa_nil) se_bl)
  (sb_cons (ss_for C (si_tup (se_var 0)) (sg_tp C.calm (sg_nm 5 C.nd) (sg_nm 6 C.nd)) (sb_cons (ss_if (st_eq C (se_var 5) (se_var 1)) (sb_one (ss_par C 4 6 se_bl (se_add (se_var 6) (se_var 2)))) sb_nil)
  (sb_one (ss_app 3 (se_tup (sa_cons (se_var 5) (sa_cons (se_var 6) sa_nil)))))))
  (sb_cons (ss_if (st_not (st_val (se_var 4))) (sb_one (ss_app 3 (se_tup (sa_cons (se_var 1) (sa_cons (se_var 2) sa_nil))))) sb_nil)
  (sb_cons (ss_if (SW.st (sw_or (st_gt (se_len (Fx.free "len" (by decide)) (se_var 3)) se_int) (sw_or1 (st_val (se_any C (Fx.free "any" (by decide)) (SO.se (so_lc C [("one", 5), ("many", 6)] (by kernel_rfl) (by decide) (si_lst (se_var 3)) (fun _ _ _ _ _ => (sg_tp (cn_blk C).calm (sg_nm 5 (cn_blk C).nd) (sg_nm 6 (cn_blk C).nd))) (fun _ _ _ _ _ => sts_nil) (fun _ _ _ _ _ => (se_gt (se_var 6) se_int))))))))) (sb_one (ss_raise (n := 8) C (Fx.exq 8 (by decide)) (Fx.exg 8 (by decide)) (Fx.exk 8 (by decide)) (Fx.exb 8 (by decide)) (Fx.ext 8 (by decide)))) sb_nil)
  (sb_one (ss_ret (se_tuple (Fx.free "tuple" (by decide)) (se_var 3))))))))
theorem sc__law_cell : FnScope ["script", "k"] ["script", "k"] (defScope s__law_cell) := ⟨rfl, rfl, rfl, by decide +kernel, rfl, by decide +kernel, by decide +kernel⟩
theorem b__law_cell {fa : Addr} {fd : FuncData} (F : Fd K "_law_cell" s__law_cell fa fd) : Binds K fd ["script", "k"] [] := F.bindsN fun _ _ _ _ _ _ us hl => match us, hl with | [_, _], _ => rfl
theorem ok__law_cell (Fx : Kf K mg t) {fa : Addr} {fd : FuncData} (F : Fd K "_law_cell" s__law_cell fa fd) (hm : mg "_law_cell" = some (.ref fa)) : FnS P w K mg base 1 "_law_cell" 2 Pu.f__law_cell :=
  fns_of (k := 0) (cbody := Pu.c__law_cell) F hm (b__law_cell F) sc__law_cell rfl rfl fun cdv A outer s H E C => (sb_cons (ss_if (st_eq C (se_var 0) (se_lst sa_nil)) (sb_one (ss_ret (se_mul (se_var 1) se_int))) sb_nil)
  (sb_one (ss_ret (se_add (se_idx (se_var 0) (se_mod (se_var 1) (se_len (Fx.free "len" (by decide)) (se_var 0)))) (se_mul (se_div (se_var 1) (se_len (Fx.free "len" (by decide)) (se_var 0))) se_int)))))
theorem sc__law_drawn : FnScope ["cell", "k", "more"] ["cell", "k"] (defScope s__law_drawn) := ⟨rfl, rfl, rfl, by decide +kernel, rfl, by decide +kernel, by decide +kernel⟩
theorem b__law_drawn {fa : Addr} {fd : FuncData} (F : Fd K "_law_drawn" s__law_drawn fa fd) : Binds K fd ["cell", "k"] [] := F.bindsN fun _ _ _ _ _ _ us hl => match us, hl with | [_, _], _ => rfl
theorem ok__law_drawn (Fx : Kf K mg t) {fa : Addr} {fd : FuncData} (F : Fd K "_law_drawn" s__law_drawn fa fd) (hm : mg "_law_drawn" = some (.ref fa)) : FnS P w K mg base 1 "_law_drawn" 2 Pu.f__law_drawn :=
  fns_of (k := 0) (cbody := Pu.c__law_drawn) F hm (b__law_drawn F) sc__law_drawn rfl rfl fun cdv A outer s H E C => (sb_cons (ss_set 2 (se_mod (se_add (se_mul (se_var 0) se_int) (se_mul (se_add (se_var 1) se_int) se_int)) se_int) C.nd)
  (sb_cons (ss_set 2 (se_mod (se_mul (se_var 2) (se_var 2)) se_int) C.nd)
  (sb_cons (ss_set 2 (se_mul (se_mul (se_add (se_mod (se_var 2) se_int) se_int) (se_add (se_div (se_var 2) se_int) se_int)) (se_var 2)) C.nd)
  (sb_one (ss_ret (se_mod (se_var 2) se_int))))))
theorem sc_is_pair : FnScope ["value", "some"] ["value", "some"] (defScope s_is_pair) := ⟨rfl, rfl, rfl, by decide +kernel, rfl, by decide +kernel, by decide +kernel⟩
theorem b_is_pair {fa : Addr} {fd : FuncData} (F : Fd K "is_pair" s_is_pair fa fd) : Binds K fd ["value", "some"] [] := F.bindsN fun _ _ _ _ _ _ us hl => match us, hl with | [_, _], _ => rfl
theorem ok_is_pair (Fx : Kf K mg t) {fa : Addr} {fd : FuncData} (F : Fd K "is_pair" s_is_pair fa fd) (hm : mg "is_pair" = some (.ref fa)) (F_are_letters : FnS P w K mg base 1 "are_letters" 2 Pu.f_are_letters) (F_is_whole : FnS P w K mg base 1 "is_whole" 3 Pu.f_is_whole) : FnS P w K mg base 2 "is_pair" 2 Pu.f_is_pair :=
  fns_of (k := 1) (cbody := Pu.c_is_pair) F hm (b_is_pair F) sc_is_pair rfl rfl fun cdv A outer s H E C => (sb_one (ss_ret (se_and (se_isi "tuple" (by decide) (Fx.free "isinstance" (by decide)) (Fx.free "tuple" (by decide)) (by decide +kernel) (se_var 0)) (se_and (se_eq C (se_len (Fx.free "len" (by decide)) (se_var 0)) se_int) (se_and (se_call C F_are_letters (by decide) (sa_cons (se_idx (se_var 0) se_int) (sa_cons (se_var 1) sa_nil))) (se_one (se_call C F_is_whole (by decide) (sa_cons (se_idx (se_var 0) se_int) (sa_cons se_int (sa_cons se_int sa_nil))))))))))
theorem sc_need_ballot : FnScope ["many", "ballot"] ["many", "ballot"] (defScope s_need_ballot) := ⟨rfl, rfl, rfl, by decide +kernel, rfl, by decide +kernel, by decide +kernel⟩
theorem b_need_ballot {fa : Addr} {fd : FuncData} (F : Fd K "need_ballot" s_need_ballot fa fd) : Binds K fd ["many", "ballot"] [] := F.bindsN fun _ _ _ _ _ _ us hl => match us, hl with | [_, _], _ => rfl
theorem ok_need_ballot (Fx : Kf K mg t) {fa : Addr} {fd : FuncData} (F : Fd K "need_ballot" s_need_ballot fa fd) (hm : mg "need_ballot" = some (.ref fa)) (F_are_letters : FnS P w K mg base 1 "are_letters" 2 Pu.f_are_letters) : FnS P w K mg base 2 "need_ballot" 2 Pu.f_need_ballot :=
  fns_of (k := 1) (cbody := Pu.c_need_ballot) F hm (b_need_ballot F) sc_need_ballot rfl rfl fun cdv A outer s H E C => (sb_one (ss_if (st_not (st_val (se_call C F_are_letters (by decide) (sa_cons (se_var 1) (sa_cons (se_cut (se_gstr [97, 98, 99, 100, 101] Fx.letters (by decide)) sp_none (sp_some (se_var 0))) sa_nil))))) (sb_one (ss_raise (n := 2) C (Fx.exq 2 (by decide)) (Fx.exg 2 (by decide)) (Fx.exk 2 (by decide)) (Fx.exb 2 (by decide)) (Fx.ext 2 (by decide)))) sb_nil))
theorem sc_need_times : FnScope ["times"] ["times"] (defScope s_need_times) := ⟨rfl, rfl, rfl, by decide +kernel, rfl, by decide +kernel, by decide +kernel⟩
theorem b_need_times {fa : Addr} {fd : FuncData} (F : Fd K "need_times" s_need_times fa fd) : Binds K fd ["times"] [] := F.bindsN fun _ _ _ _ _ _ us hl => match us, hl with | [_], _ => rfl
theorem ok_need_times (Fx : Kf K mg t) {fa : Addr} {fd : FuncData} (F : Fd K "need_times" s_need_times fa fd) (hm : mg "need_times" = some (.ref fa)) (F_is_whole : FnS P w K mg base 1 "is_whole" 3 Pu.f_is_whole) : FnS P w K mg base 2 "need_times" 1 Pu.f_need_times :=
  fns_of (k := 1) (cbody := Pu.c_need_times) F hm (b_need_times F) sc_need_times rfl rfl fun cdv A outer s H E C => (sb_one (ss_if (st_not (st_val (se_call C F_is_whole (by decide) (sa_cons (se_var 0) (sa_cons se_int (sa_cons se_int sa_nil)))))) (sb_one (ss_raise (n := 3) C (Fx.exq 3 (by decide)) (Fx.exg 3 (by decide)) (Fx.exk 3 (by decide)) (Fx.exb 3 (by decide)) (Fx.ext 3 (by decide)))) sb_nil))
theorem sc__law_roll : FnScope ["dice", "many", "told"] ["dice", "many"] (defScope s__law_roll) := ⟨rfl, rfl, rfl, by decide +kernel, rfl, by decide +kernel, by decide +kernel⟩
theorem b__law_roll {fa : Addr} {fd : FuncData} (F : Fd K "_law_roll" s__law_roll fa fd) : Binds K fd ["dice", "many"] [] := F.bindsN fun _ _ _ _ _ _ us hl => match us, hl with | [_, _], _ => rfl
theorem ok__law_roll (Fx : Kf K mg t) {fa : Addr} {fd : FuncData} (F : Fd K "_law_roll" s__law_roll fa fd) (hm : mg "_law_roll" = some (.ref fa)) (F__law_drawn : FnS P w K mg base 1 "_law_drawn" 2 Pu.f__law_drawn) : FnS P w K mg base 2 "_law_roll" 2 Pu.f__law_roll :=
  fns_of (k := 1) (cbody := Pu.c__law_roll) F hm (b__law_roll F) sc__law_roll rfl rfl fun cdv A outer s H E C => (sb_cons (ss_if (st_ge (se_idx (se_var 0) se_int) (se_pow se_int se_int)) (sb_cons (ss_set 2 (se_mod (se_idx (se_var 0) se_int) (se_var 1)) C.nd)
  (sb_cons (ss_aput 0 se_int (se_div (se_idx (se_var 0) se_int) (se_var 1)))
  (sb_one (ss_ret (se_var 2))))) sb_nil)
  (sb_cons (ss_aput 0 se_int (se_add (se_idx (se_var 0) se_int) se_int))
  (sb_one (ss_ret (se_mod (se_div (se_call C F__law_drawn (by decide) (sa_cons (se_idx (se_var 0) se_int) (sa_cons (se_idx (se_var 0) se_int) sa_nil))) se_int) (se_var 1))))))
theorem sc__law_rounds : FnScope ["script", "most", "k"] ["script", "most"] (defScope s__law_rounds) := ⟨rfl, rfl, rfl, by decide +kernel, rfl, by decide +kernel, by decide +kernel⟩
theorem b__law_rounds {fa : Addr} {fd : FuncData} (F : Fd K "_law_rounds" s__law_rounds fa fd) : Binds K fd ["script", "most"] [] := F.bindsN fun _ _ _ _ _ _ us hl => match us, hl with | [_, _], _ => rfl
theorem ok__law_rounds (Fx : Kf K mg t) {fa : Addr} {fd : FuncData} (F : Fd K "_law_rounds" s__law_rounds fa fd) (hm : mg "_law_rounds" = some (.ref fa)) (F__law_cell : FnS P w K mg base 1 "_law_cell" 2 Pu.f__law_cell) : FnS P w K mg base 2 "_law_rounds" 2 Pu.f__law_rounds :=
  fns_of (k := 1) (cbody := Pu.c__law_rounds) F hm (b__law_rounds F) sc__law_rounds rfl rfl fun cdv A outer s H E C => (sb_one (ss_ret (SO.se (so_lc C [("k", 2)] (by kernel_rfl) (by decide) (si_rng (Fx.free "range" (by decide)) (se_max2 C (Fx.free "max" (by decide)) se_int (se_min2 C (Fx.free "min" (by decide)) (se_var 1) (se_len (Fx.free "len" (by decide)) (se_var 0))))) (fun _ _ _ _ _ => (sg_nm 2 (cn_blk C).nd)) (fun _ _ _ _ _ => sts_nil) (fun _ _ _ _ _ => (se_lst (sa_cons (se_call (cn_blk C) F__law_cell (by decide) (sa_cons (se_var 0) (sa_cons (se_var 2) sa_nil))) (sa_cons se_int sa_nil))))))))
theorem sc_is_votes : FnScope ["value", "one", "ballot", "times"] ["value"] (defScope s_is_votes) := ⟨rfl, rfl, rfl, by decide +kernel, rfl, by decide +kernel, by decide +kernel⟩
theorem b_is_votes {fa : Addr} {fd : FuncData} (F : Fd K "is_votes" s_is_votes fa fd) : Binds K fd ["value"] [] := F.bindsN fun _ _ _ _ _ _ us hl => match us, hl with | [_], _ => rfl
theorem ok_is_votes (Fx : Kf K mg t) {fa : Addr} {fd : FuncData} (F : Fd K "is_votes" s_is_votes fa fd) (hm : mg "is_votes" = some (.ref fa)) (F_is_whole : FnS P w K mg base 1 "is_whole" 3 Pu.f_is_whole) (F_is_pair : FnS P w K mg base 2 "is_pair" 2 Pu.f_is_pair) : FnS P w K mg base 3 "is_votes" 1 Pu.f_is_votes :=
  fns_of (k := 2) (cbody := Pu.c_is_votes) F hm (b_is_votes F) sc_is_votes rfl rfl fun cdv A outer s H E C => (sb_cons (ss_if (SW.st (sw_or (st_not (st_val (se_isi "tuple" (by decide) (Fx.free "isinstance" (by decide)) (Fx.free "tuple" (by decide)) (by decide +kernel) (se_var 0)))) (sw_or (st_ne C (se_len (Fx.free "len" (by decide)) (se_var 0)) se_int) (sw_or1 (st_not (st_val (se_call C F_is_whole (by decide) (sa_cons (se_idx (se_var 0) se_int) (sa_cons se_int (sa_cons se_int sa_nil)))))))))) (sb_one (ss_ret se_bl)) sb_nil)
  (sb_cons (ss_if (SW.st (sw_or (st_not (st_val (se_isi "tuple" (by decide) (Fx.free "isinstance" (by decide)) (Fx.free "tuple" (by decide)) (by decide +kernel) (se_idx (se_var 0) se_int)))) (sw_or1 (st_gt (se_len (Fx.free "len" (by decide)) (se_idx (se_var 0) se_int)) se_int)))) (sb_one (ss_ret se_bl)) sb_nil)
  (sb_cons (ss_if (st_not (st_val (se_all C (Fx.free "all" (by decide)) (SO.se (so_lc C [("one", 1)] (by kernel_rfl) (by decide) (si_tup (se_idx (se_var 0) se_int)) (fun _ _ _ _ _ => (sg_nm 1 (cn_blk C).nd)) (fun _ _ _ _ _ => sts_nil) (fun _ _ _ _ _ => (se_call (cn_blk C) F_is_pair (by decide) (sa_cons (se_var 1) (sa_cons (se_cut (se_gstr [97, 98, 99, 100, 101] Fx.letters (by decide)) sp_none (sp_some (se_idx (se_var 0) se_int))) sa_nil))))))))) (sb_one (ss_ret se_bl)) sb_nil)
  (sb_one (ss_ret (se_eq C (se_lenSet C (Fx.free "len" (by decide)) (Fx.free "set" (by decide)) (SO.se (so_lc C [("ballot", 2), ("times", 3)] (by kernel_rfl) (by decide) (si_tup (se_idx (se_var 0) se_int)) (fun _ _ _ _ _ => (sg_tp (cn_blk C).calm (sg_nm 2 (cn_blk C).nd) (sg_nm 3 (cn_blk C).nd))) (fun _ _ _ _ _ => sts_nil) (fun _ _ _ _ _ => (se_var 2))))) (se_len (Fx.free "len" (by decide)) (se_idx (se_var 0) se_int))))))))
theorem sc__law_any_ballot : FnScope ["dice", "many", "letters", "found", "turn", "letter", "one"] ["dice", "many"] (defScope s__law_any_ballot) := ⟨rfl, rfl, rfl, by decide +kernel, rfl, by decide +kernel, by decide +kernel⟩
theorem b__law_any_ballot {fa : Addr} {fd : FuncData} (F : Fd K "_law_any_ballot" s__law_any_ballot fa fd) : Binds K fd ["dice", "many"] [] := F.bindsN fun _ _ _ _ _ _ us hl => match us, hl with | [_, _], _ => rfl
theorem ok__law_any_ballot (Fx : Kf K mg t) {fa : Addr} {fd : FuncData} (F : Fd K "_law_any_ballot" s__law_any_ballot fa fd) (hm : mg "_law_any_ballot" = some (.ref fa)) (F__law_roll : FnS P w K mg base 2 "_law_roll" 2 Pu.f__law_roll) : FnS P w K mg base 3 "_law_any_ballot" 2 Pu.f__law_any_ballot :=
  fns_of (k := 2) (cbody := Pu.c__law_any_ballot) F hm (b__law_any_ballot F) sc__law_any_ballot rfl rfl fun cdv A outer s H E C => (sb_cons (ss_par C 2 3 (se_listS C (Fx.free "list" (by decide)) (se_cut (se_str [97, 98, 99, 100, 101] (by decide)) sp_none (sp_some (se_var 1)))) (se_str [] (by decide)))
  (sb_cons (ss_for C (si_rng (Fx.free "range" (by decide)) (se_add se_int (se_call C F__law_roll (by decide) (sa_cons (se_var 0) (sa_cons (se_var 1) sa_nil))))) (sg_nm 4 C.nd) (sb_cons (ss_set 5 (se_idx (se_var 2) (se_call C F__law_roll (by decide) (sa_cons (se_var 0) (sa_cons (se_len (Fx.free "len" (by decide)) (se_var 2)) sa_nil)))) C.nd)
  (sb_one (ss_par C 2 3 (SO.se (so_lc C [("one", 6)] (by kernel_rfl) (by decide) (si_lst (se_var 2)) (fun _ _ _ _ _ => (sg_nm 6 (cn_blk C).nd)) (fun _ _ _ _ _ => (sts_one (st_ne (cn_blk C) (se_var 6) (se_var 5)))) (fun _ _ _ _ _ => (se_var 6)))) (se_add (se_var 3) (se_var 5))))))
  (sb_one (ss_ret (se_var 3)))))
theorem sc_need_votes : FnScope ["votes"] ["votes"] (defScope s_need_votes) := ⟨rfl, rfl, rfl, by decide +kernel, rfl, by decide +kernel, by decide +kernel⟩
theorem b_need_votes {fa : Addr} {fd : FuncData} (F : Fd K "need_votes" s_need_votes fa fd) : Binds K fd ["votes"] [] := F.bindsN fun _ _ _ _ _ _ us hl => match us, hl with | [_], _ => rfl
theorem ok_need_votes (Fx : Kf K mg t) {fa : Addr} {fd : FuncData} (F : Fd K "need_votes" s_need_votes fa fd) (hm : mg "need_votes" = some (.ref fa)) (F_is_votes : FnS P w K mg base 3 "is_votes" 1 Pu.f_is_votes) : FnS P w K mg base 4 "need_votes" 1 Pu.f_need_votes :=
  fns_of (k := 3) (cbody := Pu.c_need_votes) F hm (b_need_votes F) sc_need_votes rfl rfl fun cdv A outer s H E C => (sb_one (ss_if (st_not (st_val (se_call C F_is_votes (by decide) (sa_cons (se_var 0) sa_nil)))) (sb_one (ss_raise (n := 0) C (Fx.exq 0 (by decide)) (Fx.exg 0 (by decide)) (Fx.exk 0 (by decide)) (Fx.exb 0 (by decide)) (Fx.ext 0 (by decide)))) sb_nil))
theorem sc__law_any_votes : FnScope ["dice", "least", "most", "pairs", "many", "found", "high", "turn", "ballot", "one", "times"] ["dice", "least", "most", "pairs"] (defScope s__law_any_votes) := ⟨rfl, rfl, rfl, by decide +kernel, rfl, by decide +kernel, by decide +kernel⟩
theorem b__law_any_votes {fa : Addr} {fd : FuncData} (F : Fd K "_law_any_votes" s__law_any_votes fa fd) : Binds K fd ["dice", "least", "most", "pairs"] [] := F.bindsN fun _ _ _ _ _ _ us hl => match us, hl with | [_, _, _, _], _ => rfl
theorem ok__law_any_votes (Fx : Kf K mg t) {fa : Addr} {fd : FuncData} (F : Fd K "_law_any_votes" s__law_any_votes fa fd) (hm : mg "_law_any_votes" = some (.ref fa)) (F__law_roll : FnS P w K mg base 2 "_law_roll" 2 Pu.f__law_roll) (F__law_any_ballot : FnS P w K mg base 3 "_law_any_ballot" 2 Pu.f__law_any_ballot) : FnS P w K mg base 4 "_law_any_votes" 4 Pu.f__law_any_votes :=
  fns_of (k := 3) (cbody := Pu.c__law_any_votes) F hm (b__law_any_votes F) sc__law_any_votes rfl rfl fun cdv A outer s H E C => (sb_cons (ss_parO C 4 5 (se_add (se_var 1) (se_call C F__law_roll (by decide) (sa_cons (se_var 0) (sa_cons (se_add (se_sub (se_var 2) (se_var 1)) se_int) sa_nil)))) (so_lst sa_nil))
  (sb_cons (ss_set 6 (se_idx (se_lst (sa_cons se_int (sa_cons se_int (sa_cons se_int sa_nil)))) (se_call C F__law_roll (by decide) (sa_cons (se_var 0) (sa_cons se_int sa_nil)))) C.nd)
  (sb_cons (ss_for C (si_rng (Fx.free "range" (by decide)) (se_call C F__law_roll (by decide) (sa_cons (se_var 0) (sa_cons (se_add (se_var 3) se_int) sa_nil)))) (sg_nm 7 C.nd) (sb_cons (ss_set 8 (se_call C F__law_any_ballot (by decide) (sa_cons (se_var 0) (sa_cons (se_var 4) sa_nil))) C.nd)
  (sb_one (ss_if (st_notIn (se_var 8) (SO.se (so_lcO C 5 [("one", 9), ("times", 10)] (by kernel_rfl) (by decide) (fun _ _ _ _ _ => (sg_tp (cn_blk C).calm (sg_nm 9 (cn_blk C).nd) (sg_nm 10 (cn_blk C).nd))) (fun _ _ _ _ _ => sts_nil) (fun _ _ _ _ _ => (se_var 9))))) (sb_one (ss_app 5 (se_tup (sa_cons (se_var 8) (sa_cons (se_add se_int (se_call C F__law_roll (by decide) (sa_cons (se_var 0) (sa_cons (se_var 6) sa_nil)))) sa_nil))))) sb_nil))))
  (sb_one (ss_ret (se_tup (sa_cons (se_var 4) (sa_cons (se_tuple (Fx.free "tuple" (by decide)) (se_var 5)) sa_nil))))))))
theorem sc_added : FnScope ["votes", "ballot", "times"] ["votes", "ballot", "times"] (defScope s_added) := ⟨rfl, rfl, rfl, by decide +kernel, rfl, by decide +kernel, by decide +kernel⟩
theorem b_added {fa : Addr} {fd : FuncData} (F : Fd K "added" s_added fa fd) : Binds K fd ["votes", "ballot", "times"] [] := F.bindsN fun _ _ _ _ _ _ us hl => match us, hl with | [_, _, _], _ => rfl
theorem ok_added (Fx : Kf K mg t) {fa : Addr} {fd : FuncData} (F : Fd K "added" s_added fa fd) (hm : mg "added" = some (.ref fa)) (F_need_votes : FnS P w K mg base 4 "need_votes" 1 Pu.f_need_votes) (F_need_ballot : FnS P w K mg base 2 "need_ballot" 2 Pu.f_need_ballot) (F_need_times : FnS P w K mg base 2 "need_times" 1 Pu.f_need_times) (F_with_more : FnS P w K mg base 1 "with_more" 3 Pu.f_with_more) : FnS P w K mg base 5 "added" 3 Pu.f_added :=
  fns_of (k := 4) (cbody := Pu.c_added) F hm (b_added F) sc_added rfl rfl fun cdv A outer s H E C => (sb_cons (ss_do (se_call C F_need_votes (by decide) (sa_cons (se_var 0) sa_nil)))
  (sb_cons (ss_do (se_call C F_need_ballot (by decide) (sa_cons (se_idx (se_var 0) se_int) (sa_cons (se_var 1) sa_nil))))
  (sb_cons (ss_do (se_call C F_need_times (by decide) (sa_cons (se_var 2) sa_nil)))
  (sb_one (ss_ret (se_tup (sa_cons (se_idx (se_var 0) se_int) (sa_cons (se_call C F_with_more (by decide) (sa_cons (se_idx (se_var 0) se_int) (sa_cons (se_var 1) (sa_cons (se_var 2) sa_nil)))) sa_nil))))))))
theorem sc_renamed : FnScope ["votes", "names", "found", "ballot", "times", "letter"] ["votes", "names"] (defScope s_renamed) := ⟨rfl, rfl, rfl, by decide +kernel, rfl, by decide +kernel, by decide +kernel⟩
theorem b_renamed {fa : Addr} {fd : FuncData} (F : Fd K "renamed" s_renamed fa fd) : Binds K fd ["votes", "names"] [] := F.bindsN fun _ _ _ _ _ _ us hl => match us, hl with | [_, _], _ => rfl
theorem ok_renamed (Fx : Kf K mg t) {fa : Addr} {fd : FuncData} (F : Fd K "renamed" s_renamed fa fd) (hm : mg "renamed" = some (.ref fa)) (F_need_votes : FnS P w K mg base 4 "need_votes" 1 Pu.f_need_votes) (F_candidates_of : FnS P w K mg base 1 "candidates_of" 1 Pu.f_candidates_of) : FnS P w K mg base 5 "renamed" 2 Pu.f_renamed :=
  fns_of (k := 4) (cbody := Pu.c_renamed) F hm (b_renamed F) sc_renamed rfl rfl fun cdv A outer s H E C => (sb_cons (ss_do (se_call C F_need_votes (by decide) (sa_cons (se_var 0) sa_nil)))
  (sb_cons (ss_if (SW.st (sw_or (st_not (st_val (se_isi "str" (by decide) (Fx.free "isinstance" (by decide)) (Fx.free "str" (by decide)) (by decide +kernel) (se_var 1)))) (sw_or1 (st_ne C (se_sortT C (Fx.free "sorted" (by decide)) (se_var 1)) (se_listS C (Fx.free "list" (by decide)) (se_call C F_candidates_of (by decide) (sa_cons (se_var 0) sa_nil))))))) (sb_one (ss_raise (n := 4) C (Fx.exq 4 (by decide)) (Fx.exg 4 (by decide)) (Fx.exk 4 (by decide)) (Fx.exb 4 (by decide)) (Fx.ext 4 (by decide)))) sb_nil)
  (sb_cons (ss_new 2 (so_lst sa_nil) C.nd)
  (sb_cons (ss_for C (si_tup (se_idx (se_var 0) se_int)) (sg_tp C.calm (sg_nm 3 C.nd) (sg_nm 4 C.nd)) (sb_one (ss_app 2 (se_tup (sa_cons (se_join (se_str [] (by decide)) (SO.se (so_lc C [("letter", 5)] (by kernel_rfl) (by decide) (si_str (se_var 3)) (fun _ _ _ _ _ => (sg_nm 5 (cn_blk C).nd)) (fun _ _ _ _ _ => sts_nil) (fun _ _ _ _ _ => (se_idx (se_var 1) (se_find (se_gstr [97, 98, 99, 100, 101] Fx.letters (by decide)) (se_var 5))))))) (sa_cons (se_var 4) sa_nil))))))
  (sb_one (ss_ret (se_tup (sa_cons (se_idx (se_var 0) se_int) (sa_cons (se_tuple (Fx.free "tuple" (by decide)) (se_var 2)) sa_nil)))))))))
theorem sc__law_term : FnScope ["e", "flags", "kinds", "flag"] ["e"] (defScope s__law_term) := ⟨rfl, rfl, rfl, by decide +kernel, rfl, by decide +kernel, by decide +kernel⟩
theorem b__law_term {fa : Addr} {fd : FuncData} (F : Fd K "_law_term" s__law_term fa fd) : Binds K fd ["e"] [] := F.bindsN fun _ _ _ _ _ _ us hl => match us, hl with | [_], _ => rfl
theorem sc__law_told : FnScope ["deed", "e"] ["deed"] (defScope s__law_told) := ⟨rfl, rfl, rfl, by decide +kernel, rfl, by decide +kernel, by decide +kernel⟩
theorem b__law_told {fa : Addr} {fd : FuncData} (F : Fd K "_law_told" s__law_told fa fd) : Binds K fd ["deed"] [] := F.bindsN fun _ _ _ _ _ _ us hl => match us, hl with | [_], _ => rfl
theorem ok__law_term (Fx : Kf K mg t) (Kt : KfT K) {fa : Addr} {fd : FuncData} (F : Fd K "_law_term" s__law_term fa fd) (a : Addr) (oe : Obj) (c : Nat) (hc : c < 12) (hz0 : L2N.Zn (.ref (cad K c)) none oe) (hf : ∃ vs, oe.data = .fields vs) : FnP P w K mg base (L2N.CX P w) 1 fa fd ["e"] (a, oe) (spF K 1 (fTerm a c)) := by
  have hz := hz0.zc
  have CE := Kt.exc c hc
  have hk : ∀ i : Nat, i < 12 → PySem.W.kitOne K (.ref (cad K c)) (.ref (cad K i)) = some (Nat.beq c i) := fun i hi => Kt.kit c i hc hi
  have hkV := Kt.kitV c hc
  refine FnP.imp (fn_okP (k := 0) (cbody := Pu.cTermB a c) F sc__law_term rfl rfl fun cdv A outer s H E hot => ?_) (term_imp hc)
  have hp : (a, oe) ∈ (L2H.cxH (L2N.CX P w) P w K mg base ["e", "flags", "kinds", "flag"] "_law_term" (defScope s__law_term) fa cdv A outer s H E (a, oe)).pn := List.mem_cons_self
  have nd := sc__law_term.nd
  exact (sb_cons (ss_set 1 (se_lst (sa_cons (se_isP 0 CE hz hf hp (hk 0 (by decide)) (Fx.free "isinstance" (by decide)) (Fx.exg 0 (by decide))) (sa_cons (se_isP 0 CE hz hf hp (hk 1 (by decide)) (Fx.free "isinstance" (by decide)) (Fx.exg 1 (by decide))) (sa_cons (se_isP 0 CE hz hf hp (hk 2 (by decide)) (Fx.free "isinstance" (by decide)) (Fx.exg 2 (by decide))) sa_nil)))) nd)
  (sb_cons (ss_set 1 (se_add (se_var 1) (se_lst (sa_cons (se_isP 0 CE hz hf hp (hk 3 (by decide)) (Fx.free "isinstance" (by decide)) (Fx.exg 3 (by decide))) (sa_cons (se_isP 0 CE hz hf hp (hk 4 (by decide)) (Fx.free "isinstance" (by decide)) (Fx.exg 4 (by decide))) (sa_cons (se_isP 0 CE hz hf hp (hk 5 (by decide)) (Fx.free "isinstance" (by decide)) (Fx.exg 5 (by decide))) sa_nil))))) nd)
  (sb_cons (ss_set 1 (se_add (se_var 1) (se_lst (sa_cons (se_isP 0 CE hz hf hp (hk 6 (by decide)) (Fx.free "isinstance" (by decide)) (Fx.exg 6 (by decide))) (sa_cons (se_isP 0 CE hz hf hp (hk 7 (by decide)) (Fx.free "isinstance" (by decide)) (Fx.exg 7 (by decide))) (sa_cons (se_isP 0 CE hz hf hp (hk 8 (by decide)) (Fx.free "isinstance" (by decide)) (Fx.exg 8 (by decide))) sa_nil))))) nd)
  (sb_cons (ss_set 1 (se_add (se_var 1) (se_lst (sa_cons (se_isP 0 CE hz hf hp (hk 9 (by decide)) (Fx.free "isinstance" (by decide)) (Fx.exg 9 (by decide))) (sa_cons (se_isP 0 CE hz hf hp (hk 10 (by decide)) (Fx.free "isinstance" (by decide)) (Fx.exg 10 (by decide))) (sa_cons (se_isP 0 CE hz hf hp (hk 11 (by decide)) (Fx.free "isinstance" (by decide)) (Fx.exg 11 (by decide))) sa_nil))))) nd)
  (sb_cons (ss_set 2 (se_lst (sa_cons (se_str [73, 110, 118, 97, 108, 105, 100, 86, 111, 116, 101, 115] (by decide)) (sa_cons (se_str [73, 110, 118, 97, 108, 105, 100, 67, 97, 110, 100, 105, 100, 97, 116, 101] (by decide)) (sa_cons (se_str [73, 110, 118, 97, 108, 105, 100, 66, 97, 108, 108, 111, 116] (by decide)) (sa_cons (se_str [73, 110, 118, 97, 108, 105, 100, 84, 105, 109, 101, 115] (by decide)) (sa_cons (se_str [73, 110, 118, 97, 108, 105, 100, 78, 97, 109, 101, 115] (by decide)) (sa_cons (se_str [73, 110, 118, 97, 108, 105, 100, 67, 97, 110, 100, 105, 100, 97, 116, 101, 115] (by decide)) sa_nil))))))) nd)
  (sb_cons (ss_set 2 (se_add (se_var 2) (se_lst (sa_cons (se_str [73, 110, 118, 97, 108, 105, 100, 78, 117, 109, 98, 101, 114] (by decide)) (sa_cons (se_str [73, 110, 118, 97, 108, 105, 100, 84, 101, 120, 116] (by decide)) (sa_cons (se_str [84, 111, 111, 77, 97, 110, 121] (by decide)) (sa_cons (se_str [85, 110, 108, 105, 107, 101] (by decide)) (sa_cons (se_str [78, 111, 116, 84, 104, 101, 114, 101] (by decide)) (sa_cons (se_str [78, 111, 116, 104, 105, 110, 103, 84, 111, 85, 110, 100, 111] (by decide)) sa_nil)))))))) nd)
  (sb_cons (ss_if (SW.st (sw_or (st_neI (se_sumH hot (Fx.free "sum" (by decide)) (SO.se (so_lcH hot nd [("flag", 3)] (by kernel_rfl) (by decide) (se_var 1) (fun _ _ _ _ _ => (sg_nm 3 nd)) (fun _ _ _ _ _ => sts_nil) (fun _ _ _ _ _ => (se_toInt (Fx.free "int" (by decide)) (se_var 3)))))) se_int) (sw_or1 (st_not (st_val (se_isPB 0 CE hz hf hp hkV (Fx.free "isinstance" (by decide)) (Fx.free "ValueError" (by decide)) (by decide +kernel))))))) (sb_one (ss_ret (se_tup (sa_cons (se_str [101, 114, 114, 111, 114] (by decide)) (sa_cons (se_str [111, 116, 104, 101, 114] (by decide)) sa_nil))))) sb_nil)
  (sb_one (ss_ret (se_tup (sa_cons (se_str [101, 114, 114, 111, 114] (by decide)) (sa_cons (se_idx (se_var 2) (se_indexB (se_var 1) se_bl)) sa_nil))))))))))))
def c_law : M Fl := open Pu in (sSeq (sSet 2 (cCall f__law_any_votes (aCons (cVar 1) (aCons (cK (.int 2)) (aCons (cK (.int 5)) (aCons (cK (.int 8)) aNil))))))
  (sSeq (sTgt (.tp (.nm 3) (.nm 4)) (cVar 2))
  (sSeq (sTgt (.tp (.nm 5) (.nm 6)) (cTup (aCons (cCall f__law_any_ballot (aCons (cVar 1) (aCons (cVar 3) aNil))) (aCons (c2 oAdd (cK (.int 1)) (cCall f__law_roll (aCons (cVar 1) (aCons (cK (.int 20)) aNil)))) aNil))))
  (sSeq (sIf (tAnd (tB (c2 oNe (cVar 4) (cTup aNil))) (tB (c2 oEq (cCall f__law_roll (aCons (cVar 1) (aCons (cK (.int 2)) aNil))) (cK (.int 0))))) (sSet 5 (cIdx (cIdx (cVar 4) (cCall f__law_roll (aCons (cVar 1) (aCons (c1 oLen (cVar 4)) aNil)))) (cK (.int 0)))) sNop)
  (sSeq (sSet 7 (cLc [8, 9] (iTup (cVar 4)) (.tp (.nm 8) (.nm 9)) tYes (cVar 8)))
  (sSeq (sIf (tB (c2 (oInN false) (cVar 5) (cVar 7))) (sSet 10 (c1 oTuple (cLc [8, 9] (iTup (cVar 4)) (.tp (.nm 8) (.nm 9)) tYes (cTup (aCons (cVar 8) (aCons (c2 oAdd (cVar 9) (cIf (tB (c2 oEq (cVar 8) (cVar 5))) (cVar 6) (cK (.int 0)))) aNil)))))) (sSet 10 (c2 oAdd (cVar 4) (cTup (aCons (cTup (aCons (cVar 5) (aCons (cVar 6) aNil))) aNil)))))
  (sSeq (sSet 11 (cAnd (c2 oLe (c1 oLen (cVar 10)) (cK (.int 8))) (c1 oAll (cLc [8, 9] (iTup (cVar 10)) (.tp (.nm 8) (.nm 9)) tYes (c2 oLe (cVar 9) (cK (.int 20)))))))
  (sSeq (sIf (tB (c2 oNe (cTold (cCall f_added (aCons (cVar 2) (aCons (cVar 5) (aCons (cVar 6) aNil))))) (cIf (tB (cVar 11)) (cTup (aCons (cVar 3) (aCons (cVar 10) aNil))) (cTup (aCons (cK (.str [101, 114, 114, 111, 114])) (aCons (cK (.str [84, 111, 111, 77, 97, 110, 121])) aNil)))))) (sRet (cK (.bl false))) sNop)
  (sSeq (sNew 12 (c1 oListS (cCut (cK (.str [97, 98, 99, 100, 101])) none (some (cVar 3)))))
  (sSeq (sFor (iRng (cVar 3)) (.nm 13) (sSeq (sSet 14 (cCall f__law_roll (aCons (cVar 1) (aCons (cVar 3) aNil))))
  (sSeq (sPar 8 15 false false (cOIdx 12 (cVar 13)) (cOIdx 12 (cVar 14)))
  (sSwap 12 13 14 (cTup (aCons (cVar 15) (aCons (cVar 8) aNil)))))))
  (sSeq (sSet 16 (c2 oJoin (cStr (cK (.str []))) (cVar 12)))
  (sSeq (sSet 17 (cCall f_renamed (aCons (cVar 2) (aCons (cVar 16) aNil))))
  (sSeq (sNew 10 (cLst aNil))
  (sSeq (sFor (iTup (cVar 4)) (.tp (.nm 18) (.nm 9)) (sApp 10 (cTup (aCons (c2 oJoin (cStr (cK (.str []))) (cLc [8] (iStr (cVar 18)) (.nm 8) tYes (cIdx (cVar 12) (c2 oFind (cStr (cK (.str [97, 98, 99, 100, 101]))) (cVar 8))))) (aCons (cVar 9) aNil)))))
  (sSeq (sIf (tB (c2 oNe (cVar 17) (cTup (aCons (cVar 3) (aCons (c1 oTuple (cVar 10)) aNil))))) (sRet (cK (.bl false))) sNop)
  (sSeq (sFor (iLst (cLst (aCons (cK (.str [])) (aCons (cK (.str [97, 97])) (aCons (cK (.str [122])) (aCons (cK .non) (aCons (cK (.int 5)) (aCons (cLst (aCons (cK (.str [97])) aNil)) (aCons (cK (.str [97, 98, 99, 100, 101, 102])) aNil))))))))) (.nm 19) (sIf (tB (c2 oNe (cTold (cCall f_added (aCons (cVar 2) (aCons (cVar 19) (aCons (cK (.int 1)) aNil))))) (cTup (aCons (cK (.str [101, 114, 114, 111, 114])) (aCons (cK (.str [73, 110, 118, 97, 108, 105, 100, 66, 97, 108, 108, 111, 116])) aNil))))) (sRet (cK (.bl false))) sNop))
  (sSeq (sFor (iLst (cLst (aCons (cK (.int 0)) (aCons (cK (.int 21)) (aCons (cK (.bl true)) (aCons (cK .non) (aCons (cK (.str [49])) aNil))))))) (.nm 19) (sIf (tB (c2 oNe (cTold (cCall f_added (aCons (cVar 2) (aCons (cK (.str [97])) (aCons (cVar 19) aNil))))) (cTup (aCons (cK (.str [101, 114, 114, 111, 114])) (aCons (cK (.str [73, 110, 118, 97, 108, 105, 100, 84, 105, 109, 101, 115])) aNil))))) (sRet (cK (.bl false))) sNop))
  (sFor (iLst (cLst (aCons (cK (.str [])) (aCons (cK (.str [97])) (aCons (c2 oAdd (cVar 16) (cK (.str [97]))) (aCons (cK .non) (aCons (c2 oAdd (cCut (cVar 16) (some (cK (.int 1))) none) (cK (.str [122]))) (aCons (c1 oListS (cVar 16)) aNil)))))))) (.nm 19) (sIf (tB (c2 oNe (cTold (cCall f_renamed (aCons (cVar 2) (aCons (cVar 19) aNil)))) (cTup (aCons (cK (.str [101, 114, 114, 111, 114])) (aCons (cK (.str [73, 110, 118, 97, 108, 105, 100, 78, 97, 109, 101, 115])) aNil))))) (sRet (cK (.bl false))) sNop)))))))))))))))))))
theorem sc_law : FnScope ["script", "dice", "votes", "many", "some", "ballot", "times", "known", "one", "voters", "due", "fits", "names", "at", "place", "other", "text", "made", "row", "bad"] ["script"] (defScope s_law) := ⟨rfl, rfl, rfl, by decide +kernel, rfl, by decide +kernel, by decide +kernel⟩
theorem sc__law_roundsR : FnScope ["script", "most", "k"] ["script", "most"] (defScope s__law_rounds) := ⟨rfl, rfl, rfl, by decide +kernel, rfl, by decide +kernel, by decide +kernel⟩
theorem ok_roundsR (Fx : Kf K mg t) {fa : Addr} {fd : FuncData} (F : Fd K "_law_rounds" s__law_rounds fa fd) (F__law_cell : FnS P w K mg base 1 "_law_cell" 2 Pu.f__law_cell) : FnOk P w K mg base (L2N.CX P w) 2 fa fd ["script", "most"] (spR K) :=
  rounds_ok (k := 1) F sc__law_roundsR rfl fun cdv A outer s H E C => so_rounds C "k" (by kernel_rfl) (si_rng (Fx.free "range" (by decide)) (se_max2 C (Fx.free "max" (by decide)) se_int (se_min2 C (Fx.free "min" (by decide)) (se_var 1) (se_len (Fx.free "len" (by decide)) (se_var 0))))) (fun _ _ _ _ _ => sg_nm 2 (cn_blk C).nd) (fun _ _ _ _ _ => so_lst (sa_cons (se_call (cn_blk C) F__law_cell (by decide) (sa_cons (se_var 0) (sa_cons (se_var 2) sa_nil))) (sa_cons se_int sa_nil)))
theorem ok_law (Fx : Kf K mg t) (Kt : KfT K) {ft g : Addr} {fdt fdg : FuncData} (FT : Fd K "_law_term" s__law_term ft fdt) (hmT : mg "_law_term" = some (.ref ft)) (FD : Fd K "_law_told" s__law_told g fdg) (hmD : mg "_law_told" = some (.ref g)) (hmE : mg "VoteError" = some (.ref (He.ga K "VoteError"))) {fa fr c Pt : Addr} {fd fdr : FuncData} (F : Fd K "law" s_law fa fd) (FR : FnOk P w K mg base (L2N.CX P w) 2 fr fdr ["script", "most"] (spR K)) (hmr : mg "_law_rounds" = some (.ref fr)) (hkr : PySem.W.keepIn K (.ref fr) = true) (hbr : Binds K fdr ["script", "most"] []) (hcd : fd.code = .ref c) (TB : LamX.TabB base mg c Pt) (F__law_any_votes : FnS P w K mg base 4 "_law_any_votes" 4 Pu.f__law_any_votes) (F_renamed : FnS P w K mg base 5 "renamed" 2 Pu.f_renamed) (F__law_any_ballot : FnS P w K mg base 3 "_law_any_ballot" 2 Pu.f__law_any_ballot) (F__law_roll : FnS P w K mg base 2 "_law_roll" 2 Pu.f__law_roll) (F_added : FnS P w K mg base 5 "added" 3 Pu.f_added)
    (ok : BodyOk 20 1 c_law) : FnOk P w K mg base (L2N.CX P w) 8 fa fd ["script"] (spLaw K Pt) := by
  obtain ⟨oc, od, dV, kV, doc, pm, an, cdT, ct, osl, rfl, lk, hcdT, _, _⟩ := FD.ex
  have TD : ToldD K mg g (defBody s__law_told) (defScope s__law_told) cdT := ⟨⟨defArgs s__law_told, dV, kV, doc, pm, ct, oc, an, od, osl, lk, b__law_told FD⟩, hmD, FD.kp, hcdT, sc__law_told, rfl⟩
  refine law_ok (k := 7) (i := 1) F sc_law rfl FR (by decide) hmr hkr hbr (by decide) (by decide) rfl (by first | exact Or.inl rfl | exact Or.inr rfl) (by first | exact Or.inl rfl | exact Or.inr (Or.inl rfl)) rfl rfl ok fun cdv A outer s H E hc1 hc2 C hc3 => ?_
  have hcode : cdv = .ref c := by rw [← hc3]; exact hcd
  have hG : ∀ (cdv : Value) (A : Around) (outer : List Env) (s : Shared) (H : Hp) (E : XK), GivesN (cxOf (L2N.CX P w) P w K mg base ["script", "dice", "votes", "many", "some", "ballot", "times", "known", "one", "voters", "due", "fits", "names", "at", "place", "other", "text", "made", "row", "bad"] "law" (defScope s_law) fa cdv A outer s H E) ["deed", "e"] "_law_told" (defScope s__law_told) g cdT (defBody s__law_told) "deed" ((cxOf (L2N.CX P w) P w K mg base ["script", "dice", "votes", "many", "some", "ballot", "times", "known", "one", "voters", "due", "fits", "names", "at", "place", "other", "text", "made", "row", "bad"] "law" (defScope s_law) fa cdv A outer s H E).env.qual ++ "<lambda>") 6 (TTn K) :=
    fun cdv A outer s H E => told_givesN (X := cxOf (L2N.CX P w) P w K mg base _ "law" (defScope s_law) fa cdv A outer s H E) (CS := He.ga K "VoteError") (kt := 1) rfl rfl rfl hmE (fun c hc => Kt.exm c hc) (fun a oe c hc hz hf => ok__law_term Fx Kt FT a oe c hc hz hf) (b__law_term FT) hmT FT.kp (by decide)
  exact (sb_cons (ss_set 2 (se_call C F__law_any_votes (by decide) (sa_cons (se_var 1) (sa_cons se_int (sa_cons se_int (sa_cons se_int sa_nil))))) C.nd)
  (sb_cons (ss_tgt (se_var 2) (sg_tp C.calm (sg_nm 3 C.nd) (sg_nm 4 C.nd)))
  (sb_cons (ss_tgt (se_tup (sa_cons (se_call C F__law_any_ballot (by decide) (sa_cons (se_var 1) (sa_cons (se_var 3) sa_nil))) (sa_cons (se_add se_int (se_call C F__law_roll (by decide) (sa_cons (se_var 1) (sa_cons se_int sa_nil)))) sa_nil))) (sg_tp C.calm (sg_nm 5 C.nd) (sg_nm 6 C.nd)))
  (sb_cons (ss_if (SW.st (sw_and (st_ne C (se_var 4) (se_tup sa_nil)) (sw_and1 (st_eq C (se_call C F__law_roll (by decide) (sa_cons (se_var 1) (sa_cons se_int sa_nil))) se_int)))) (sb_one (ss_set 5 (se_idx (se_idx (se_var 4) (se_call C F__law_roll (by decide) (sa_cons (se_var 1) (sa_cons (se_len (Fx.free "len" (by decide)) (se_var 4)) sa_nil)))) se_int) C.nd)) sb_nil)
  (sb_cons (ss_setLc C 7 [("one", 8), ("voters", 9)] (by kernel_rfl) (by decide) (si_tup (se_var 4)) (fun _ _ _ _ _ => (sg_tp (cn_blk C).calm (sg_nm 8 (cn_blk C).nd) (sg_nm 9 (cn_blk C).nd))) (fun _ _ _ _ _ => sts_nil) (fun _ _ _ _ _ => (se_var 8)))
  (sb_cons (ss_if (st_in (se_var 5) (se_var 7)) (sb_one (ss_set 10 (se_tuple (Fx.free "tuple" (by decide)) (SO.se (so_lc C [("one", 8), ("voters", 9)] (by kernel_rfl) (by decide) (si_tup (se_var 4)) (fun _ _ _ _ _ => (sg_tp (cn_blk C).calm (sg_nm 8 (cn_blk C).nd) (sg_nm 9 (cn_blk C).nd))) (fun _ _ _ _ _ => sts_nil) (fun _ _ _ _ _ => (se_tup (sa_cons (se_var 8) (sa_cons (se_add (se_var 9) (se_if (st_eq (cn_blk C) (se_var 8) (se_var 5)) (se_var 6) se_int)) sa_nil))))))) C.nd)) (sb_one (ss_set 10 (se_add (se_var 4) (se_tup (sa_cons (se_tup (sa_cons (se_var 5) (sa_cons (se_var 6) sa_nil))) sa_nil))) C.nd)))
  (sb_cons (ss_set 11 (se_and (se_le (se_len (Fx.free "len" (by decide)) (se_var 10)) se_int) (se_one (se_all C (Fx.free "all" (by decide)) (SO.se (so_lc C [("one", 8), ("voters", 9)] (by kernel_rfl) (by decide) (si_tup (se_var 10)) (fun _ _ _ _ _ => (sg_tp (cn_blk C).calm (sg_nm 8 (cn_blk C).nd) (sg_nm 9 (cn_blk C).nd))) (fun _ _ _ _ _ => sts_nil) (fun _ _ _ _ _ => (se_le (se_var 9) se_int))))))) C.nd)
  (sb_cons (ss_if (st_ne C (se_told (k := 5) C (by decide) TD (hG cdv A outer s H E) TB hcode List.mem_cons_self (fun p hp _ => by rw [List.mem_singleton.mp hp]) (fun A outer s H E f c C => (se_call C F_added (by decide) (sa_cons (se_var 2) (sa_cons (se_var 5) (sa_cons (se_var 6) sa_nil)))))) (se_if (st_val (se_var 11)) (se_tup (sa_cons (se_var 3) (sa_cons (se_var 10) sa_nil))) (se_tup (sa_cons (se_str [101, 114, 114, 111, 114] (by decide)) (sa_cons (se_str [84, 111, 111, 77, 97, 110, 121] (by decide)) sa_nil))))) (sb_one (ss_ret se_bl)) sb_nil)
  (sb_cons (ss_new 12 (so_listS C (Fx.free "list" (by decide)) (se_cut (se_str [97, 98, 99, 100, 101] (by decide)) sp_none (sp_some (se_var 3)))) C.nd)
  (sb_cons (ss_for C (si_rng (Fx.free "range" (by decide)) (se_var 3)) (sg_nm 13 C.nd) (sb_cons (ss_set 14 (se_call C F__law_roll (by decide) (sa_cons (se_var 1) (sa_cons (se_var 3) sa_nil))) C.nd)
  (sb_cons (ss_par C 8 15 (se_oidx 12 (se_var 13)) (se_oidx 12 (se_var 14)))
  (sb_one (ss_swap C.calm 12 13 14 (se_tup (sa_cons (se_var 15) (sa_cons (se_var 8) sa_nil))))))))
  (sb_cons (ss_set 16 (se_join (se_str [] (by decide)) (se_var 12)) C.nd)
  (sb_cons (ss_set 17 (se_call C F_renamed (by decide) (sa_cons (se_var 2) (sa_cons (se_var 16) sa_nil))) C.nd)
  (sb_cons (ss_new 10 (so_lst sa_nil) C.nd)
  (sb_cons (ss_for C (si_tup (se_var 4)) (sg_tp C.calm (sg_nm 18 C.nd) (sg_nm 9 C.nd)) (sb_one (ss_app 10 (se_tup (sa_cons (se_join (se_str [] (by decide)) (SO.se (so_lc C [("one", 8)] (by kernel_rfl) (by decide) (si_str (se_var 18)) (fun _ _ _ _ _ => (sg_nm 8 (cn_blk C).nd)) (fun _ _ _ _ _ => sts_nil) (fun _ _ _ _ _ => (se_idx (se_var 12) (se_find (se_str [97, 98, 99, 100, 101] (by decide)) (se_var 8))))))) (sa_cons (se_var 9) sa_nil))))))
  (sb_cons (ss_if (st_ne C (se_var 17) (se_tup (sa_cons (se_var 3) (sa_cons (se_tuple (Fx.free "tuple" (by decide)) (se_var 10)) sa_nil)))) (sb_one (ss_ret se_bl)) sb_nil)
  (sb_cons (ss_for C (si_lst (se_lst (sa_cons (se_str [] (by decide)) (sa_cons (se_str [97, 97] (by decide)) (sa_cons (se_str [122] (by decide)) (sa_cons se_non (sa_cons se_int (sa_cons (se_lst (sa_cons (se_str [97] (by decide)) sa_nil)) (sa_cons (se_str [97, 98, 99, 100, 101, 102] (by decide)) sa_nil))))))))) (sg_nm 19 C.nd) (sb_one (ss_if (st_ne C (se_told (k := 5) C (by decide) TD (hG cdv A outer s H E) TB hcode List.mem_cons_self (fun p hp _ => by rw [List.mem_singleton.mp hp]) (fun A outer s H E f c C => (se_call C F_added (by decide) (sa_cons (se_var 2) (sa_cons (se_var 19) (sa_cons se_int sa_nil)))))) (se_tup (sa_cons (se_str [101, 114, 114, 111, 114] (by decide)) (sa_cons (se_str [73, 110, 118, 97, 108, 105, 100, 66, 97, 108, 108, 111, 116] (by decide)) sa_nil)))) (sb_one (ss_ret se_bl)) sb_nil)))
  (sb_cons (ss_for C (si_lst (se_lst (sa_cons se_int (sa_cons se_int (sa_cons se_bl (sa_cons se_non (sa_cons (se_str [49] (by decide)) sa_nil))))))) (sg_nm 19 C.nd) (sb_one (ss_if (st_ne C (se_told (k := 5) C (by decide) TD (hG cdv A outer s H E) TB hcode List.mem_cons_self (fun p hp _ => by rw [List.mem_singleton.mp hp]) (fun A outer s H E f c C => (se_call C F_added (by decide) (sa_cons (se_var 2) (sa_cons (se_str [97] (by decide)) (sa_cons (se_var 19) sa_nil)))))) (se_tup (sa_cons (se_str [101, 114, 114, 111, 114] (by decide)) (sa_cons (se_str [73, 110, 118, 97, 108, 105, 100, 84, 105, 109, 101, 115] (by decide)) sa_nil)))) (sb_one (ss_ret se_bl)) sb_nil)))
  (sb_one (ss_for C (si_lst (se_lst (sa_cons (se_str [] (by decide)) (sa_cons (se_str [97] (by decide)) (sa_cons (se_add (se_var 16) (se_str [97] (by decide))) (sa_cons se_non (sa_cons (se_add (se_cut (se_var 16) (sp_some se_int) sp_none) (se_str [122] (by decide))) (sa_cons (se_listS C (Fx.free "list" (by decide)) (se_var 16)) sa_nil)))))))) (sg_nm 19 C.nd) (sb_one (ss_if (st_ne C (se_told (k := 5) C (by decide) TD (hG cdv A outer s H E) TB hcode List.mem_cons_self (fun p hp _ => by rw [List.mem_singleton.mp hp]) (fun A outer s H E f c C => (se_call C F_renamed (by decide) (sa_cons (se_var 2) (sa_cons (se_var 19) sa_nil))))) (se_tup (sa_cons (se_str [101, 114, 114, 111, 114] (by decide)) (sa_cons (se_str [73, 110, 118, 97, 108, 105, 100, 78, 97, 109, 101, 115] (by decide)) sa_nil)))) (sb_one (ss_ret se_bl)) sb_nil)))))))))))))))))))))
end
end G

namespace Pu
def E02a : M D := (cLst (aCons (cK (.str [])) (aCons (cK (.str [97, 97])) (aCons (cK (.str [122])) (aCons (cK .non) (aCons (cK (.int 5)) (aCons (cLst (aCons (cK (.str [97])) aNil)) (aCons (cK (.str [97, 98, 99, 100, 101, 102])) aNil))))))))
def E02b : M D := (cLst (aCons (cK (.int 0)) (aCons (cK (.int 21)) (aCons (cK (.bl true)) (aCons (cK .non) (aCons (cK (.str [49])) aNil))))))
def E02c : M D := (cLst (aCons (cK (.str [])) (aCons (cK (.str [97])) (aCons (c2 oAdd (cVar 16) (cK (.str [97]))) (aCons (cK .non) (aCons (c2 oAdd (cCut (cVar 16) (some (cK (.int 1))) none) (cK (.str [122]))) (aCons (c1 oListS (cVar 16)) aNil)))))))
theorem E02a_run (r : Rho) (m : D) : E02a r m = .ok (.lst [.str [], .str [97, 97], .str [122], .non, .int 5, .lst [.str [97]], .str [97, 98, 99, 100, 101, 102]]) r m := by
  have l7 : ∀ a b c d e f g : D, ([a, b, c, d, e, f, g] : List D).length ≤ LN := fun _ _ _ _ _ _ _ => by unfold LN; simp
  unfold E02a
  simp only [ev_bd, ev_pu, ev_some, ev_var, ev_K, ev_c1, ev_c2, ev_tB, ev_tAnd, ev_tOr, ev_tNot, ev_And, ev_Or, ev_Not, ev_If, ev_chain, ev_nil, ev_cons, ev_tup, ev_lst, ev_idx2, idxA_l, idxA_t, idxA_s, idxA_a, idxA_e0, idxA_e1, ev_call, ev_ap, ev_cut, ev_part0, ev_part1, ev_str, ev_tgt, ev_iLst, ev_iTup, ev_iStr, ev_iRng, ev_nop, ev_seq, ev_st, ev_set, ev_new, ev_sTgt, ev_par, ev_sIf, ev_ret, ev_do, ev_raise, ev_for, ev_app, ev_iOwn, ev_enum, ev_oidx, ev_put, ev_yes, lt_len0, lt_lenS, asg_nm, asg_tp, opt_bind_some, len_two, len_one, len_zero, List.getElem?_cons_zero, List.getElem?_cons_succ, List.set_cons_zero, List.set_cons_succ, ↓reduceIte, Bool.false_eq_true, Bool.not_true, Bool.not_false, sl, ro, l7]
theorem E02b_run (r : Rho) (m : D) : E02b r m = .ok (.lst [.int 0, .int 21, .bl true, .non, .str [49]]) r m := by
  have l5 : ∀ a b c d e : D, ([a, b, c, d, e] : List D).length ≤ LN := fun _ _ _ _ _ => by unfold LN; simp
  unfold E02b
  simp only [ev_bd, ev_pu, ev_some, ev_var, ev_K, ev_c1, ev_c2, ev_tB, ev_tAnd, ev_tOr, ev_tNot, ev_And, ev_Or, ev_Not, ev_If, ev_chain, ev_nil, ev_cons, ev_tup, ev_lst, ev_idx2, idxA_l, idxA_t, idxA_s, idxA_a, idxA_e0, idxA_e1, ev_call, ev_ap, ev_cut, ev_part0, ev_part1, ev_str, ev_tgt, ev_iLst, ev_iTup, ev_iStr, ev_iRng, ev_nop, ev_seq, ev_st, ev_set, ev_new, ev_sTgt, ev_par, ev_sIf, ev_ret, ev_do, ev_raise, ev_for, ev_app, ev_iOwn, ev_enum, ev_oidx, ev_put, ev_yes, lt_len0, lt_lenS, asg_nm, asg_tp, opt_bind_some, len_two, len_one, len_zero, List.getElem?_cons_zero, List.getElem?_cons_succ, List.set_cons_zero, List.set_cons_succ, ↓reduceIte, Bool.false_eq_true, Bool.not_true, Bool.not_false, sl, ro, l5]
theorem cut_drop (w : List Nat) : oCut (.str w) (some 1) none = some (.str (w.drop 1)) := cutS_from w 1 (by decide)
theorem add_str (a b : List Nat) (h : a.length + b.length ≤ 100) : oAdd (.str a) (.str b) = some (.str (a ++ b)) := add_s a b (by unfold LN; omega)
theorem E02c_run {w : List Nat} (hw : w.length ≤ 5) (r : Rho) (m : D) (hr : r[16]? = some (some (.v (.str w)))) : E02c r m = .ok (.lst [.str [], .str [97], .str (w ++ [97]), .non, .str (w.drop 1 ++ [122]), .lst (sgn w)]) r m := by
  have l6 : ∀ a b c d e f : D, ([a, b, c, d, e, f] : List D).length ≤ LN := fun _ _ _ _ _ _ => by unfold LN; simp
  have a1 := add_str w [97] (by simp; omega)
  have a2 := add_str (w.drop 1) [122] (by simp; omega)
  have hl := oListS_ok w (by omega)
  unfold E02c
  simp only [ev_bd, ev_pu, ev_some, ev_var, ev_K, ev_c1, ev_c2, ev_tB, ev_tAnd, ev_tOr, ev_tNot, ev_And, ev_Or, ev_Not, ev_If, ev_chain, ev_nil, ev_cons, ev_tup, ev_lst, ev_idx2, idxA_l, idxA_t, idxA_s, idxA_a, idxA_e0, idxA_e1, ev_call, ev_ap, ev_cut, ev_part0, ev_part1, ev_str, ev_tgt, ev_iLst, ev_iTup, ev_iStr, ev_iRng, ev_nop, ev_seq, ev_st, ev_set, ev_new, ev_sTgt, ev_par, ev_sIf, ev_ret, ev_do, ev_raise, ev_for, ev_app, ev_iOwn, ev_enum, ev_oidx, ev_put, ev_yes, lt_len0, lt_lenS, asg_nm, asg_tp, opt_bind_some, len_two, len_one, len_zero, List.getElem?_cons_zero, List.getElem?_cons_succ, List.set_cons_zero, List.set_cons_succ, ↓reduceIte, Bool.false_eq_true, Bool.not_true, Bool.not_false, sl, ro, l6, hr, cut_drop w, a1, a2, hl]
end Pu
namespace G
open Pu
theorem c_law_eq : c_law = (sSeq (sSet 2 (cCall f__law_any_votes (aCons (cVar 1) (aCons (cK (.int 2)) (aCons (cK (.int 5)) (aCons (cK (.int 8)) aNil))))))
  (sSeq (sTgt (.tp (.nm 3) (.nm 4)) (cVar 2))
  (sSeq (sTgt (.tp (.nm 5) (.nm 6)) (cTup (aCons (cCall f__law_any_ballot (aCons (cVar 1) (aCons (cVar 3) aNil))) (aCons (c2 oAdd (cK (.int 1)) (cCall f__law_roll (aCons (cVar 1) (aCons (cK (.int 20)) aNil)))) aNil))))
  (sSeq pick02
  (sSeq (sSet 7 (cLc [8, 9] (iTup (cVar 4)) (.tp (.nm 8) (.nm 9)) tYes (cVar 8)))
  (sSeq due02
  (sSeq (sSet 11 fit02)
  (sSeq chk02
  (sSeq (sNew 12 (c1 oListS (cCut (cK (.str [97, 98, 99, 100, 101])) none (some (cVar 3)))))
  (sSeq (sFor (iRng (cVar 3)) (.nm 13) turnS)
  (sSeq (sSet 16 (c2 oJoin (cStr (cK (.str []))) (cVar 12)))
  (sSeq (sSet 17 (cCall f_renamed (aCons (cVar 2) (aCons (cVar 16) aNil))))
  (sSeq (sNew 10 (cLst aNil))
  (sSeq (sFor (iTup (cVar 4)) (.tp (.nm 18) (.nm 9)) row02)
  (sSeq (sIf (tB (c2 oNe (cVar 17) (cTup (aCons (cVar 3) (aCons (c1 oTuple (cVar 10)) aNil))))) (sRet (cK (.bl false))) sNop)
  (sSeq (sFor (iLst E02a) (.nm 19) badB02)
  (sSeq (sFor (iLst E02b) (.nm 19) badT02)
  (sFor (iLst E02c) (.nm 19) badN02)))))))))))))))))) := rfl
theorem body_ok : Su.BodyOk 20 1 c_law := by
  intro c
  obtain ⟨n, ps, m1, _, _, hv, h8, hm1, f1⟩ := votes_run 2 5 8 (by decide) (by decide) (by decide) (by decide) (.lst [.int c, .int 0]) ⟨c, 0, rfl⟩
  have f1 : f__law_any_votes [.amb, .int 2, .int 5, .int 8] (.lst [.int c, .int 0]) = .ok (encV n ps) m1 := f1
  have hr : Su.rDice 20 1 = [none, some (.v (.amb)), none, none, none, none, none, none, none, none, none, none, none, none, none, none, none, none, none, none] := Eq.trans rfl rfl
  have n2 := hv.n2
  have n5 := hv.n5
  obtain ⟨b0, m2, hb0, hm2, f2⟩ := ballot_run n (by omega) n5 m1 hm1
  obtain ⟨v, m3, v0, v20, hm3, f3⟩ := roll_run 20 (by decide) (by decide) m2 hm2
  obtain ⟨t, ht⟩ : ∃ t : Nat, (1 : Int) + v = t := ⟨1 + v.toNat, by omega⟩
  have t1 : 1 ≤ t := by omega
  have t20 : t ≤ 20 := by omega
  obtain ⟨b, m4, hb, hm4, f4⟩ := pick02_run hv hb0 (.int t) m3 hm3
  have f5 := known02 (n := n) ps (.str b) (.int t) m4
  have f6 := due02_run hv b t m4
  have f7 := fit02_run (encV n ps) (.int n) (.tup (ps.map encP)) (.str b) (.int t) (.lst ((nms ps).map .str)) (addB ps (b, t)) m4
  have f8 := chk02_run hv hb t1 t20 (.tup (ps.map encP)) (.lst ((nms ps).map .str)) m4
  generalize D.bl (fitsB (addB ps (b, t))) = F at f7 f8
  generalize D.tup ((addB ps (b, t)).map encP) = DU at f6 f7 f8
  generalize D.lst ((nms ps).map .str) = K at f5 f6 f7 f8
  have hl := oListS_ok (LET.take n) (by rw [LET_len n5]; omega)
  have hc := cut_let n n5
  obtain ⟨r9, m5, f9, hm5, w, hw, x8, x13, x14, x15, e9⟩ := forL_inv (tg := .nm 13) (b := turnS) (fun _ r m => Dc m ∧ ∃ w : List Nat, w.Perm (LET.take n) ∧ ∃ x8 x13 x14 x15, r = [none, some (.v (.amb)), some (.v (encV n ps)), some (.v (.int n)), some (.v (.tup (ps.map encP))), some (.v (.str b)), some (.v (.int t)), some (.v (K)), vv x8, none, some (.v (DU)), some (.v (F)), some (.own (.lst (sgn w))), vv x13, vv x14, vv x15, none, none, none, none]) (rg 0 n) 0 [none, some (.v (.amb)), some (.v (encV n ps)), some (.v (.int n)), some (.v (.tup (ps.map encP))), some (.v (.str b)), some (.v (.int t)), some (.v (K)), none, none, some (.v (DU)), some (.v (F)), some (.own (.lst (sgn (LET.take n)))), none, none, none, none, none, none, none] m4 ⟨hm4, LET.take n, List.Perm.refl _, none, none, none, none, rfl⟩ (fun j d r m hd ⟨hm, w, hw, x8, x13, x14, x15, e⟩ => by
    subst e
    have hwl : w.length = n := by rw [hw.length_eq, LET_len n5]
    obtain ⟨k, hk, ek⟩ := rg_mem (List.mem_of_getElem? hd)
    rw [Int.zero_add] at ek
    subst ek
    obtain ⟨w', b8, b14, b15, m', hp, hm', ht⟩ := turnS_run n2 n5 hwl (encV n ps) (.tup (ps.map encP)) (.str b) (.int t) K DU F x8 x14 x15 hk m hm
    exact ⟨_, _, m', rfl, ht, hm', w', hp.trans hw, some b8, some (.int k), some b14, some b15, rfl⟩)
  subst e9
  have hwl : w.length = n := by rw [hw.length_eq, LET_len n5]
  have hj := join_sgn w (by omega)
  have f10 := renamed_run hv hw m5
  obtain ⟨y9, y18, f11⟩ := row02_run hwl n5 (encV n ps) (.int n) (.tup (ps.map encP)) (.str b) (.int t) K F (.str w) (encV n (ren w ps)) x8 x13 x14 x15 m5 ps [] none none (by have := hv.len; simp; omega) (fun q hq => (hv.bal q hq).1)
  rw [List.nil_append] at f11
  have e0 : ([] : List (List Nat × Nat)).map encP = [] := rfl
  have vn : vv none = none := rfl
  rw [e0, vn] at f11
  have hx : D.tup [.int n, .tup ((ren w ps).map encP)] = encV n (ren w ps) := rfl
  obtain ⟨r12, m12, f12, e12m, a12, e12⟩ := forL_inv (tg := .nm 19) (b := badB02) (fun _ r m => m = m5 ∧ ∃ a12, r = [none, some (.v (.amb)), some (.v (encV n ps)), some (.v (.int n)), some (.v (.tup (ps.map encP))), some (.v (.str b)), some (.v (.int t)), some (.v (K)), vv x8, vv y9, some (.v (.lst ((ren w ps).map encP))), some (.v (F)), some (.v (.lst (sgn w))), vv x13, vv x14, vv x15, some (.v (.str w)), some (.v (encV n (ren w ps))), vv y18, a12]) ([.str [], .str [97, 97], .str [122], .non, .int 5, .lst [.str [97]], .str [97, 98, 99, 100, 101, 102]] : List D) 0 [none, some (.v (.amb)), some (.v (encV n ps)), some (.v (.int n)), some (.v (.tup (ps.map encP))), some (.v (.str b)), some (.v (.int t)), some (.v (K)), vv x8, vv y9, some (.v (.lst ((ren w ps).map encP))), some (.v (F)), some (.v (.lst (sgn w))), vv x13, vv x14, vv x15, some (.v (.str w)), some (.v (encV n (ren w ps))), vv y18, none] m5 ⟨rfl, none, rfl⟩ (fun j d r m hd ⟨em, a12, e⟩ => by
    subst em e
    exact ⟨_, _, m, rfl, badB_run _ _ _ _ _ _ _ _ _ _ _ _ _ _ _ _ _ (all_badB hv m d (List.mem_of_getElem? hd)), rfl, some (.v d), rfl⟩)
  subst e12m e12
  obtain ⟨r13, m13, f13, e13m, a13, e13⟩ := forL_inv (tg := .nm 19) (b := badT02) (fun _ r m => m = m12 ∧ ∃ a12, r = [none, some (.v (.amb)), some (.v (encV n ps)), some (.v (.int n)), some (.v (.tup (ps.map encP))), some (.v (.str b)), some (.v (.int t)), some (.v (K)), vv x8, vv y9, some (.v (.lst ((ren w ps).map encP))), some (.v (F)), some (.v (.lst (sgn w))), vv x13, vv x14, vv x15, some (.v (.str w)), some (.v (encV n (ren w ps))), vv y18, a12]) ([.int 0, .int 21, .bl true, .non, .str [49]] : List D) 0 [none, some (.v (.amb)), some (.v (encV n ps)), some (.v (.int n)), some (.v (.tup (ps.map encP))), some (.v (.str b)), some (.v (.int t)), some (.v (K)), vv x8, vv y9, some (.v (.lst ((ren w ps).map encP))), some (.v (F)), some (.v (.lst (sgn w))), vv x13, vv x14, vv x15, some (.v (.str w)), some (.v (encV n (ren w ps))), vv y18, a12] m12 ⟨rfl, a12, rfl⟩ (fun j d r m hd ⟨em, a12, e⟩ => by
    subst em e
    exact ⟨_, _, m, rfl, badT_run _ _ _ _ _ _ _ _ _ _ _ _ _ _ _ _ _ (all_badT hv m d (List.mem_of_getElem? hd)), rfl, some (.v d), rfl⟩)
  subst e13m e13
  have f14 := E02c_run (w := w) (by omega) [none, some (.v (.amb)), some (.v (encV n ps)), some (.v (.int n)), some (.v (.tup (ps.map encP))), some (.v (.str b)), some (.v (.int t)), some (.v (K)), vv x8, vv y9, some (.v (.lst ((ren w ps).map encP))), some (.v (F)), some (.v (.lst (sgn w))), vv x13, vv x14, vv x15, some (.v (.str w)), some (.v (encV n (ren w ps))), vv y18, a13] m13 rfl
  obtain ⟨r15, m15, f15, e15m, a15, e15⟩ := forL_inv (tg := .nm 19) (b := badN02) (fun _ r m => m = m13 ∧ ∃ a12, r = [none, some (.v (.amb)), some (.v (encV n ps)), some (.v (.int n)), some (.v (.tup (ps.map encP))), some (.v (.str b)), some (.v (.int t)), some (.v (K)), vv x8, vv y9, some (.v (.lst ((ren w ps).map encP))), some (.v (F)), some (.v (.lst (sgn w))), vv x13, vv x14, vv x15, some (.v (.str w)), some (.v (encV n (ren w ps))), vv y18, a12]) ([.str [], .str [97], .str (w ++ [97]), .non, .str (w.drop 1 ++ [122]), .lst (sgn w)] : List D) 0 [none, some (.v (.amb)), some (.v (encV n ps)), some (.v (.int n)), some (.v (.tup (ps.map encP))), some (.v (.str b)), some (.v (.int t)), some (.v (K)), vv x8, vv y9, some (.v (.lst ((ren w ps).map encP))), some (.v (F)), some (.v (.lst (sgn w))), vv x13, vv x14, vv x15, some (.v (.str w)), some (.v (encV n (ren w ps))), vv y18, a13] m13 ⟨rfl, a13, rfl⟩ (fun j d r m hd ⟨em, a12, e⟩ => by
    subst em e
    exact ⟨_, _, m, rfl, badN_run _ _ _ _ _ _ _ _ _ _ _ _ _ _ _ _ _ (all_badN hv hw m d (List.mem_of_getElem? hd)), rfl, some (.v d), rfl⟩)
  subst e15m e15
  have kn : ((n : Int)).natAbs ≤ 16777216 := by omega
  have kb : ((n : Int)).toNat = n := rfl
  have et : ∀ r : Rho, asg (.tp (.nm 3) (.nm 4)) (encV n ps) r = (asg (.nm 3) (.int n) r).bind (asg (.nm 4) (.tup (ps.map encP))) := fun r => rfl
  refine ⟨[none, some (.v (.amb)), some (.v (encV n ps)), some (.v (.int n)), some (.v (.tup (ps.map encP))), some (.v (.str b)), some (.v (.int t)), some (.v (K)), vv x8, vv y9, some (.v (.lst ((ren w ps).map encP))), some (.v (F)), some (.v (.lst (sgn w))), vv x13, vv x14, vv x15, some (.v (.str w)), some (.v (encV n (ren w ps))), vv y18, a15], m15, ?_, rfl⟩
  rw [hr, c_law_eq]
  simp only [ev_bd, ev_pu, ev_some, ev_var, ev_K, ev_c1, ev_c2, ev_tB, ev_tAnd, ev_tOr, ev_tNot, ev_And, ev_Or, ev_Not, ev_If, ev_chain, ev_nil, ev_cons, ev_tup, ev_lst, ev_idx2, idxA_l, idxA_t, idxA_s, idxA_a, idxA_e0, idxA_e1, ev_call, ev_ap, ev_cut, ev_part0, ev_part1, ev_str, ev_tgt, ev_iLst, ev_iTup, ev_iStr, ev_iRng, ev_nop, ev_seq, ev_st, ev_set, ev_new, ev_sTgt, ev_par, ev_sIf, ev_ret, ev_do, ev_raise, ev_for, ev_app, ev_iOwn, ev_enum, ev_oidx, ev_put, ev_yes, lt_len0, lt_lenS, asg_nm, asg_tp, opt_bind_some, len_two, len_one, len_zero, List.getElem?_cons_zero, List.getElem?_cons_succ, List.set_cons_zero, List.set_cons_succ, ↓reduceIte, Bool.false_eq_true, Bool.not_true, Bool.not_false, sl, ro, f1, et, f2, f3, oAdd_i, ht, f4, f5, f6, f7, f8, hc, hl, kn, kb, f9, hj, f10, f11, oTuple_l, hx, ne_encV, E02a_run, f12, E02b_run, f13, f14, f15]
end G

namespace G
open PySem PySem.Spec PyProof.Rows L2 Su
def d_is_whole : He.DefD := ⟨("is_whole", none), "is_whole", "is_whole", defArgs s_is_whole, defBody s_is_whole, defScope s_is_whole, [], []⟩
def d_are_letters : He.DefD := ⟨("are_letters", none), "are_letters", "are_letters", defArgs s_are_letters, defBody s_are_letters, defScope s_are_letters, [], []⟩
def d_is_pair : He.DefD := ⟨("is_pair", none), "is_pair", "is_pair", defArgs s_is_pair, defBody s_is_pair, defScope s_is_pair, [], []⟩
def d_is_votes : He.DefD := ⟨("is_votes", none), "is_votes", "is_votes", defArgs s_is_votes, defBody s_is_votes, defScope s_is_votes, [], []⟩
def d_need_votes : He.DefD := ⟨("need_votes", none), "need_votes", "need_votes", defArgs s_need_votes, defBody s_need_votes, defScope s_need_votes, [], []⟩
def d_candidates_of : He.DefD := ⟨("candidates_of", none), "candidates_of", "candidates_of", defArgs s_candidates_of, defBody s_candidates_of, defScope s_candidates_of, [], []⟩
def d_need_ballot : He.DefD := ⟨("need_ballot", none), "need_ballot", "need_ballot", defArgs s_need_ballot, defBody s_need_ballot, defScope s_need_ballot, [], []⟩
def d_need_times : He.DefD := ⟨("need_times", none), "need_times", "need_times", defArgs s_need_times, defBody s_need_times, defScope s_need_times, [], []⟩
def d_with_more : He.DefD := ⟨("with_more", none), "with_more", "with_more", defArgs s_with_more, defBody s_with_more, defScope s_with_more, [], []⟩
def d_added : He.DefD := ⟨("added", none), "added", "added", defArgs s_added, defBody s_added, defScope s_added, [], []⟩
def d_renamed : He.DefD := ⟨("renamed", none), "renamed", "renamed", defArgs s_renamed, defBody s_renamed, defScope s_renamed, [], []⟩
def d__law_cell : He.DefD := ⟨("_law_cell", none), "_law_cell", "_law_cell", defArgs s__law_cell, defBody s__law_cell, defScope s__law_cell, [], []⟩
def d__law_drawn : He.DefD := ⟨("_law_drawn", none), "_law_drawn", "_law_drawn", defArgs s__law_drawn, defBody s__law_drawn, defScope s__law_drawn, [], []⟩
def d__law_roll : He.DefD := ⟨("_law_roll", none), "_law_roll", "_law_roll", defArgs s__law_roll, defBody s__law_roll, defScope s__law_roll, [], []⟩
def d__law_rounds : He.DefD := ⟨("_law_rounds", none), "_law_rounds", "_law_rounds", defArgs s__law_rounds, defBody s__law_rounds, defScope s__law_rounds, [], []⟩
def d__law_term : He.DefD := ⟨("_law_term", none), "_law_term", "_law_term", defArgs s__law_term, defBody s__law_term, defScope s__law_term, [], []⟩
def d__law_told : He.DefD := ⟨("_law_told", none), "_law_told", "_law_told", defArgs s__law_told, defBody s__law_told, defScope s__law_told, [], []⟩
def d__law_any_ballot : He.DefD := ⟨("_law_any_ballot", none), "_law_any_ballot", "_law_any_ballot", defArgs s__law_any_ballot, defBody s__law_any_ballot, defScope s__law_any_ballot, [], []⟩
def d__law_any_votes : He.DefD := ⟨("_law_any_votes", none), "_law_any_votes", "_law_any_votes", defArgs s__law_any_votes, defBody s__law_any_votes, defScope s__law_any_votes, [], []⟩
def d_law : He.DefD := ⟨("law", none), "law", "law", defArgs s_law, defBody s_law, defScope s_law, [], []⟩
def hfn : List He.DefD := [d_is_whole, d_are_letters, d_is_pair, d_is_votes, d_need_votes, d_candidates_of, d_need_ballot, d_need_times, d_with_more, d_added, d_renamed, d__law_cell, d__law_drawn, d__law_roll, d__law_rounds, d__law_term, d__law_told, d__law_any_ballot, d__law_any_votes, d_law]
def hfa0 : List He.Fa := [.glo "VoteError", .glo "InvalidVotes", .glo "InvalidCandidate", .glo "InvalidBallot", .glo "InvalidTimes", .glo "InvalidNames", .glo "InvalidCandidates", .glo "InvalidNumber", .glo "InvalidText", .glo "TooMany", .glo "Unlike", .glo "NotThere", .glo "NothingToUndo", .glo "is_whole", .glo "are_letters", .glo "is_pair", .glo "is_votes", .glo "need_votes", .glo "candidates_of", .glo "need_ballot", .glo "need_times", .glo "with_more", .glo "added", .glo "renamed", .glo "_law_cell", .glo "_law_drawn", .glo "_law_roll", .glo "_law_rounds", .glo "_law_term", .glo "_law_told"]
def hfa30 : List He.Fa := [.glo "_law_any_ballot", .glo "_law_any_votes", .glo "law", .free "ValueError", .free "all", .free "any", .free "bool", .free "enumerate", .free "int", .free "isinstance", .free "len", .free "list", .free "max", .free "min", .free "range", .free "reversed", .free "set", .free "sorted", .free "str", .free "sum", .free "tuple", .str "LETTERS" "abcde", .exc "VoteError", .exc "InvalidVotes", .exc "InvalidCandidate", .exc "InvalidBallot", .exc "InvalidTimes", .exc "InvalidNames", .exc "InvalidCandidates", .exc "InvalidNumber"]
def hfa60 : List He.Fa := [.exc "InvalidText", .exc "TooMany", .exc "Unlike", .exc "NotThere", .exc "NothingToUndo", .exm "InvalidVotes" "VoteError" true, .exm "InvalidCandidate" "VoteError" true, .exm "InvalidBallot" "VoteError" true, .exm "InvalidTimes" "VoteError" true, .exm "InvalidNames" "VoteError" true, .exm "InvalidCandidates" "VoteError" true, .exm "InvalidNumber" "VoteError" true, .exm "InvalidText" "VoteError" true, .exm "TooMany" "VoteError" true, .exm "Unlike" "VoteError" true, .exm "NotThere" "VoteError" true, .exm "NothingToUndo" "VoteError" true]
def hfa : List He.Fa := hfa0 ++ hfa30 ++ hfa60
def loose0 : List PySem.Str := ["VoteError", "InvalidVotes", "InvalidCandidate", "InvalidBallot", "InvalidTimes", "InvalidNames", "InvalidCandidates", "InvalidNumber", "InvalidText", "TooMany", "Unlike", "NotThere", "NothingToUndo", "is_whole", "are_letters", "is_pair", "is_votes", "need_votes", "candidates_of", "need_ballot", "need_times", "with_more", "added", "renamed", "_law_cell", "_law_drawn", "_law_roll", "_law_rounds", "_law_term", "_law_told"]
def loose30 : List PySem.Str := ["_law_any_ballot", "_law_any_votes", "LETTERS"]
def loose : List PySem.Str := loose0 ++ loose30
def excB (K : PySem.W.Frag) (D : Addr) : Bool := He.eqO (PySem.W.findIn K (.ref D) "__getattribute__") (some (some (.builtin "BaseException.__getattribute__"))) && (He.eqO (PySem.W.findIn K (.ref D) "__getattr__") (some none) && (decide (PySem.W.subIn K (.ref D) (.type "BaseException") = some true) && (PySem.W.hasDictIn K D &&
  (He.eqO (PySem.W.findIn K (.ref D) "__class__") (some (some (.builtin "object.__class__"))) && (He.eqO (PySem.W.specialIn K (.builtin "object.__class__") "__get__") (some (some (.builtin "getset_descriptor.__get__"))) && (decide (PySem.W.takesIn K (.builtin "object.__class__") = some true) && decide (PySem.W.mroIn K D (.type "object") = some true)))))))
def hex (K : PySem.W.Frag) : Bool := (List.range 12).all fun c => excB K (cad K c) && (decide (PySem.W.kitOne K (.ref (cad K c)) (.type "ValueError") = some true) && (List.range 12).all fun i => decide (PySem.W.kitOne K (.ref (cad K c)) (.ref (cad K i)) = some (Nat.beq c i)))
theorem excB_ok {K : PySem.W.Frag} {D : Addr} (h : excB K D = true) : ExcC K D := by
  obtain ⟨h1, h⟩ := He.ba h
  obtain ⟨h2, h⟩ := He.ba h
  obtain ⟨h3, h⟩ := He.ba h
  obtain ⟨h4, h⟩ := He.ba h
  obtain ⟨h5, h⟩ := He.ba h
  obtain ⟨h6, h⟩ := He.ba h
  obtain ⟨h7, h8⟩ := He.ba h
  exact ⟨He.eqO_ok h1, He.eqO_ok h2, of_decide_eq_true h3, h4, He.eqO_ok h5, He.eqO_ok h6, of_decide_eq_true h7, of_decide_eq_true h8⟩
abbrev R : PySem.W.OpenRow := PySem.W.OpenLaw.row PySem.Challenge.rw_lastout_k02_whole_added
def tf : List He.Defn := [("law", none)]
abbrev hk : PySem.W.Hook := He.hookX 4 hfa hfn [] tf hex
def ob (s : PySem.W.SharedT) : He.AlX := He.obsX 4 hfa hfn [] tf hex (HandSHeadRun.getT s)
theorem ob_eq (s : PySem.W.SharedT) : ob s = hk.obs s.abs := He.obsX_eq (HandSHeadRun.getT_eq s)
theorem run (w : World) : HandSHeadRun.RunEq R (PySem.W.view R.prog [36]) hk ob 6000 loose w := by
  intro os
  kernel_rfl
section
variable {P : Program} {w : World} {K : PySem.W.Frag} {h : Heap} {mg : Str → Option Value}
theorem gl {x : Str} (X : K.In h) (Gg : h.Ns mainGlobals mg) (c : He.SaysD hfa hfn K) (hx : He.Fa.glo x ∈ hfa) : mg x = some (.ref (He.ga K x)) := He.glo_ok X Gg (He.SaysD.facts c hx)
theorem kf (X : K.In h) (Gg : h.Ns mainGlobals mg) (c : He.SaysD hfa hfn K) : ∃ t, Kf K mg t := by
  obtain ⟨t, ht⟩ := He.str_ok X Gg (He.SaysD.facts c (f := .str "LETTERS" "abcde") (by simp [hfa, hfa0, hfa30, hfa60]))
  have ex : ∀ n : Nat, n < 12 → (He.Fa.exc (exn n)).ok K = true ∧ He.Fa.glo (exn n) ∈ hfa := fun n hn => by
    match n, hn with

    | 0, _ => exact ⟨He.SaysD.facts c (List.mem_of_getElem? (i := 53) rfl), List.mem_of_getElem? (i := 1) rfl⟩
    | 1, _ => exact ⟨He.SaysD.facts c (List.mem_of_getElem? (i := 54) rfl), List.mem_of_getElem? (i := 2) rfl⟩
    | 2, _ => exact ⟨He.SaysD.facts c (List.mem_of_getElem? (i := 55) rfl), List.mem_of_getElem? (i := 3) rfl⟩
    | 3, _ => exact ⟨He.SaysD.facts c (List.mem_of_getElem? (i := 56) rfl), List.mem_of_getElem? (i := 4) rfl⟩
    | 4, _ => exact ⟨He.SaysD.facts c (List.mem_of_getElem? (i := 57) rfl), List.mem_of_getElem? (i := 5) rfl⟩
    | 5, _ => exact ⟨He.SaysD.facts c (List.mem_of_getElem? (i := 58) rfl), List.mem_of_getElem? (i := 6) rfl⟩
    | 6, _ => exact ⟨He.SaysD.facts c (List.mem_of_getElem? (i := 59) rfl), List.mem_of_getElem? (i := 7) rfl⟩
    | 7, _ => exact ⟨He.SaysD.facts c (List.mem_of_getElem? (i := 60) rfl), List.mem_of_getElem? (i := 8) rfl⟩
    | 8, _ => exact ⟨He.SaysD.facts c (List.mem_of_getElem? (i := 61) rfl), List.mem_of_getElem? (i := 9) rfl⟩
    | 9, _ => exact ⟨He.SaysD.facts c (List.mem_of_getElem? (i := 62) rfl), List.mem_of_getElem? (i := 10) rfl⟩
    | 10, _ => exact ⟨He.SaysD.facts c (List.mem_of_getElem? (i := 63) rfl), List.mem_of_getElem? (i := 11) rfl⟩
    | 11, _ => exact ⟨He.SaysD.facts c (List.mem_of_getElem? (i := 64) rfl), List.mem_of_getElem? (i := 12) rfl⟩
  refine ⟨t, fun x hx => ?_, ht, fun n hn => (He.exc_ok (ex n hn).1).1, fun n hn => gl X Gg c (ex n hn).2, fun n hn => (He.exc_ok (ex n hn).1).2.1, fun n hn => (He.exc_ok (ex n hn).1).2.2.1, fun n hn => (He.exc_ok (ex n hn).1).2.2.2⟩
  simp only [freeNames, List.mem_cons, List.not_mem_nil, or_false] at hx
  rcases hx with rfl | rfl | rfl | rfl | rfl | rfl | rfl | rfl | rfl | rfl | rfl | rfl | rfl | rfl | rfl | rfl | rfl | rfl

  · exact He.free_ok X Gg (He.SaysD.facts c (List.mem_of_getElem? (i := 33) rfl))
  · exact He.free_ok X Gg (He.SaysD.facts c (List.mem_of_getElem? (i := 34) rfl))
  · exact He.free_ok X Gg (He.SaysD.facts c (List.mem_of_getElem? (i := 35) rfl))
  · exact He.free_ok X Gg (He.SaysD.facts c (List.mem_of_getElem? (i := 36) rfl))
  · exact He.free_ok X Gg (He.SaysD.facts c (List.mem_of_getElem? (i := 37) rfl))
  · exact He.free_ok X Gg (He.SaysD.facts c (List.mem_of_getElem? (i := 38) rfl))
  · exact He.free_ok X Gg (He.SaysD.facts c (List.mem_of_getElem? (i := 39) rfl))
  · exact He.free_ok X Gg (He.SaysD.facts c (List.mem_of_getElem? (i := 40) rfl))
  · exact He.free_ok X Gg (He.SaysD.facts c (List.mem_of_getElem? (i := 41) rfl))
  · exact He.free_ok X Gg (He.SaysD.facts c (List.mem_of_getElem? (i := 42) rfl))
  · exact He.free_ok X Gg (He.SaysD.facts c (List.mem_of_getElem? (i := 43) rfl))
  · exact He.free_ok X Gg (He.SaysD.facts c (List.mem_of_getElem? (i := 44) rfl))
  · exact He.free_ok X Gg (He.SaysD.facts c (List.mem_of_getElem? (i := 45) rfl))
  · exact He.free_ok X Gg (He.SaysD.facts c (List.mem_of_getElem? (i := 46) rfl))
  · exact He.free_ok X Gg (He.SaysD.facts c (List.mem_of_getElem? (i := 47) rfl))
  · exact He.free_ok X Gg (He.SaysD.facts c (List.mem_of_getElem? (i := 48) rfl))
  · exact He.free_ok X Gg (He.SaysD.facts c (List.mem_of_getElem? (i := 49) rfl))
  · exact He.free_ok X Gg (He.SaysD.facts c (List.mem_of_getElem? (i := 50) rfl))
theorem kt (c : He.SaysD hfa hfn K) (m : hex K = true) : KfT K := by
  have a := fun n (hn : n < 12) => He.ba (List.all_eq_true.mp m n (List.mem_range.mpr hn))
  refine ⟨fun n hn => excB_ok (a n hn).1, fun n i hn hi => ?_, fun n hn => of_decide_eq_true (He.ba (a n hn).2).1, fun n hn => ?_⟩
  · exact of_decide_eq_true (List.all_eq_true.mp (He.ba (a n hn).2).2 i (List.mem_range.mpr hi))
  · match n, hn with
    | 0, _ => exact He.exm_ok (He.SaysD.facts c (List.mem_of_getElem? (i := 65) rfl))
    | 1, _ => exact He.exm_ok (He.SaysD.facts c (List.mem_of_getElem? (i := 66) rfl))
    | 2, _ => exact He.exm_ok (He.SaysD.facts c (List.mem_of_getElem? (i := 67) rfl))
    | 3, _ => exact He.exm_ok (He.SaysD.facts c (List.mem_of_getElem? (i := 68) rfl))
    | 4, _ => exact He.exm_ok (He.SaysD.facts c (List.mem_of_getElem? (i := 69) rfl))
    | 5, _ => exact He.exm_ok (He.SaysD.facts c (List.mem_of_getElem? (i := 70) rfl))
    | 6, _ => exact He.exm_ok (He.SaysD.facts c (List.mem_of_getElem? (i := 71) rfl))
    | 7, _ => exact He.exm_ok (He.SaysD.facts c (List.mem_of_getElem? (i := 72) rfl))
    | 8, _ => exact He.exm_ok (He.SaysD.facts c (List.mem_of_getElem? (i := 73) rfl))
    | 9, _ => exact He.exm_ok (He.SaysD.facts c (List.mem_of_getElem? (i := 74) rfl))
    | 10, _ => exact He.exm_ok (He.SaysD.facts c (List.mem_of_getElem? (i := 75) rfl))
    | 11, _ => exact He.exm_ok (He.SaysD.facts c (List.mem_of_getElem? (i := 76) rfl))
theorem facts (ok : BodyOk 20 1 c_law) {f : Addr} (X : K.In h) (Gg : h.Ns mainGlobals mg) (hfa' : mg ("law" : Str) = some (.ref f)) (c : He.SaysX hfa hfn [] tf hex w h K) :
    ∃ fd : FuncData, (∀ (s : Shared) (v : Value), BindsTo s fd ⟨[v], []⟩ [("script", v)]) ∧ ∀ base : Heap, K.In base → base.Ns mainGlobals mg → LamX.TabB base mg (He.cT K ("law", none)).1 (He.cT K ("law", none)).2 → FnOk P w K mg base (L2N.CX P w) 8 f fd ["script"] (spLaw K (He.cT K ("law", none)).2) := by
  obtain ⟨t, Fx⟩ := kf X Gg c.t.d
  have Kt := kt c.t.d c.more
  obtain ⟨fd_is_whole, D_is_whole⟩ := c.t.d.def_ 0 (d := d_is_whole) rfl
  obtain ⟨fd_are_letters, D_are_letters⟩ := c.t.d.def_ 1 (d := d_are_letters) rfl
  obtain ⟨fd_is_pair, D_is_pair⟩ := c.t.d.def_ 2 (d := d_is_pair) rfl
  obtain ⟨fd_is_votes, D_is_votes⟩ := c.t.d.def_ 3 (d := d_is_votes) rfl
  obtain ⟨fd_need_votes, D_need_votes⟩ := c.t.d.def_ 4 (d := d_need_votes) rfl
  obtain ⟨fd_candidates_of, D_candidates_of⟩ := c.t.d.def_ 5 (d := d_candidates_of) rfl
  obtain ⟨fd_need_ballot, D_need_ballot⟩ := c.t.d.def_ 6 (d := d_need_ballot) rfl
  obtain ⟨fd_need_times, D_need_times⟩ := c.t.d.def_ 7 (d := d_need_times) rfl
  obtain ⟨fd_with_more, D_with_more⟩ := c.t.d.def_ 8 (d := d_with_more) rfl
  obtain ⟨fd_added, D_added⟩ := c.t.d.def_ 9 (d := d_added) rfl
  obtain ⟨fd_renamed, D_renamed⟩ := c.t.d.def_ 10 (d := d_renamed) rfl
  obtain ⟨fd__law_cell, D__law_cell⟩ := c.t.d.def_ 11 (d := d__law_cell) rfl
  obtain ⟨fd__law_drawn, D__law_drawn⟩ := c.t.d.def_ 12 (d := d__law_drawn) rfl
  obtain ⟨fd__law_roll, D__law_roll⟩ := c.t.d.def_ 13 (d := d__law_roll) rfl
  obtain ⟨fd__law_rounds, D__law_rounds⟩ := c.t.d.def_ 14 (d := d__law_rounds) rfl
  obtain ⟨fd__law_term, D__law_term⟩ := c.t.d.def_ 15 (d := d__law_term) rfl
  obtain ⟨fd__law_told, D__law_told⟩ := c.t.d.def_ 16 (d := d__law_told) rfl
  obtain ⟨fd__law_any_ballot, D__law_any_ballot⟩ := c.t.d.def_ 17 (d := d__law_any_ballot) rfl
  obtain ⟨fd__law_any_votes, D__law_any_votes⟩ := c.t.d.def_ 18 (d := d__law_any_votes) rfl
  obtain ⟨fd_law, D_law⟩ := c.t.d.def_ 19 (d := d_law) rfl
  have e := hfa'.symm.trans (gl X Gg c.t.d (List.mem_of_getElem? (i := 32) rfl))
  cases e
  have b := FunD.bindsA (ps := ["script"]) D_law fun _ _ _ _ _ _ us hl => match us, hl with | [_], _ => rfl
  refine ⟨fd_law, fun s v => b s [v] rfl, fun base KB GB TB => ?_⟩
  have O_is_whole := ok_is_whole (P := P) (w := w) (base := base) Fx D_is_whole (gl X Gg c.t.d (List.mem_of_getElem? (i := 13) rfl))
  have O_are_letters := ok_are_letters (P := P) (w := w) (base := base) Fx D_are_letters (gl X Gg c.t.d (List.mem_of_getElem? (i := 14) rfl))
  have O_candidates_of := ok_candidates_of (P := P) (w := w) (base := base) Fx D_candidates_of (gl X Gg c.t.d (List.mem_of_getElem? (i := 18) rfl))
  have O_with_more := ok_with_more (P := P) (w := w) (base := base) Fx D_with_more (gl X Gg c.t.d (List.mem_of_getElem? (i := 21) rfl))
  have O__law_cell := ok__law_cell (P := P) (w := w) (base := base) Fx D__law_cell (gl X Gg c.t.d (List.mem_of_getElem? (i := 24) rfl))
  have O__law_drawn := ok__law_drawn (P := P) (w := w) (base := base) Fx D__law_drawn (gl X Gg c.t.d (List.mem_of_getElem? (i := 25) rfl))
  have O_is_pair := ok_is_pair (P := P) (w := w) (base := base) Fx D_is_pair (gl X Gg c.t.d (List.mem_of_getElem? (i := 15) rfl)) O_are_letters O_is_whole
  have O_need_ballot := ok_need_ballot (P := P) (w := w) (base := base) Fx D_need_ballot (gl X Gg c.t.d (List.mem_of_getElem? (i := 19) rfl)) O_are_letters
  have O_need_times := ok_need_times (P := P) (w := w) (base := base) Fx D_need_times (gl X Gg c.t.d (List.mem_of_getElem? (i := 20) rfl)) O_is_whole
  have O__law_roll := ok__law_roll (P := P) (w := w) (base := base) Fx D__law_roll (gl X Gg c.t.d (List.mem_of_getElem? (i := 26) rfl)) O__law_drawn
  have O_is_votes := ok_is_votes (P := P) (w := w) (base := base) Fx D_is_votes (gl X Gg c.t.d (List.mem_of_getElem? (i := 16) rfl)) O_is_whole O_is_pair
  have O__law_any_ballot := ok__law_any_ballot (P := P) (w := w) (base := base) Fx D__law_any_ballot (gl X Gg c.t.d (List.mem_of_getElem? (i := 30) rfl)) O__law_roll
  have O_need_votes := ok_need_votes (P := P) (w := w) (base := base) Fx D_need_votes (gl X Gg c.t.d (List.mem_of_getElem? (i := 17) rfl)) O_is_votes
  have O__law_any_votes := ok__law_any_votes (P := P) (w := w) (base := base) Fx D__law_any_votes (gl X Gg c.t.d (List.mem_of_getElem? (i := 31) rfl)) O__law_roll O__law_any_ballot
  have O_added := ok_added (P := P) (w := w) (base := base) Fx D_added (gl X Gg c.t.d (List.mem_of_getElem? (i := 22) rfl)) O_need_votes O_need_ballot O_need_times O_with_more
  have O_renamed := ok_renamed (P := P) (w := w) (base := base) Fx D_renamed (gl X Gg c.t.d (List.mem_of_getElem? (i := 23) rfl)) O_need_votes O_candidates_of
  have O_R := ok_roundsR (P := P) (w := w) (base := base) Fx D__law_rounds O__law_cell
  have hcd : fd_law.code = .ref (He.cT K ("law", none)).1 := by
    obtain ⟨oc, od, dV, kV, doc, pm, an, cdv, ct, osl, efd, lk, hc, _, _⟩ := D_law.ex
    have hc2 : fd_law.code = cdv := by first | (rw [efd]; done) | (rw [efd]; rfl)
    obtain ⟨cc, e⟩ := He.codeIn_ref hc
    rw [hc2, e]
    have := He.codeOf_eq (p := ("law", none)) lk (hc2.trans e)
    rw [← this]
    rfl
  exact ok_law Fx Kt D__law_term (gl X Gg c.t.d (List.mem_of_getElem? (i := 28) rfl)) D__law_told (gl X Gg c.t.d (List.mem_of_getElem? (i := 29) rfl)) (gl X Gg c.t.d (List.mem_of_getElem? (i := 0) rfl)) D_law O_R (gl X Gg c.t.d (List.mem_of_getElem? (i := 27) rfl)) D__law_rounds.kp (D__law_rounds.bindsN fun _ _ _ _ _ _ us hl => match us, hl with | [_, _], _ => rfl) hcd TB  O__law_any_votes O_renamed O__law_any_ballot O__law_roll O_added ok
end
end G
open PySem PySem.W PySem.Calls PyProof.Rows
theorem the_law : PySem.Challenge.rw_lastout_k02_whole_added.Holds := by
  w_on; o_law
  refine HandSHeadRun.head_any (r := OpenLaw.row PySem.Challenge.rw_lastout_k02_whole_added) (q := view (OpenLaw.row PySem.Challenge.rw_lastout_k02_whole_added).prog [36]) (H := G.hk) (ob := G.ob) (M := 6000) (loose := G.loose) (d := HandSHeadRun.topDef (OpenLaw.row PySem.Challenge.rw_lastout_k02_whole_added).prog 36) (kwd := []) G.ob_eq
    (by kernel_rfl) (fun s => by kernel_rfl) G.run (by kernel_rfl) (by kernel_rfl) (by kernel_rfl) (by rfl) (by first | assumption | decide +kernel) (by decide +kernel) ⟨rfl, rfl, rfl, rfl, rfl, by decide +kernel⟩ ?hw ?hc
  case hw => w_witness2
  case hc =>
    refine LamX.walk_ofTsE (l := PySem.Challenge.rw_lastout_k02_whole_added) (n := 63) (k := 8) (x := "script") (CX := fun w => L2N.CX (PySem.Challenge.rw_lastout_k02_whole_added).prog w) rfl (by decide) (by kernel_rfl) ⟨rfl, by decide, by decide⟩ ?F (fun w H s e s' z => by
      obtain ⟨_, _, _, _, _, _, _, _, _, _, _, _, zz⟩ := z
      exact zz)
    intro w mg fa h Y Gg hmg0
    obtain ⟨K, KX, c⟩ := Y
    have hmg : mg ("law" : PySem.Str) = some (.ref fa) := by
      have e : (HandSHeadRun.topDef (OpenLaw.row PySem.Challenge.rw_lastout_k02_whole_added).prog 36).name = ("law" : PySem.Str) := by kernel_rfl
      rw [← e]
      exact hmg0
    obtain ⟨fd, hb, hF⟩ := G.facts (P := (PySem.Challenge.rw_lastout_k02_whole_added).prog) (w := w) G.body_ok KX Gg hmg c
    refine ⟨K, KX, fd, [He.cT K ("law", none)], Su.spLaw K (He.cT K ("law", none)).2, fun p hp => ?_, fun p hp => ?_, fun p hp => ?_, hb, fun H a ns hl _ hT hS => ⟨a, ns, rfl, hS, hl, hT _ List.mem_cons_self, fun _ => rfl⟩, fun base KB GB TB => hF base KB GB (TB _ List.mem_cons_self)⟩
    · rw [List.mem_singleton.mp hp]; exact c.empty _ List.mem_cons_self
    · rw [List.mem_singleton.mp hp]; exact c.out _ List.mem_cons_self
    · rw [List.mem_singleton.mp hp]; exact PySem.W.codeHd_of_K KX (c.hd _ List.mem_cons_self)



theorem PySem.Challenge.cw_lastout_k02_whole_added_holds : PySem.Challenge.rw_lastout_k02_whole_added.Holds :=
  the_law
