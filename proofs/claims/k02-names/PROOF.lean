import PyProof.Rows.All
import Wide.All
import OpenK.AllK
import Wide.FinOn
import HandS.ForMost
import HandS.ForExc
import HandS.Wide
import HandS.Deep
import HandS.IsInst
import HandS.Flow
import HandS.Zip
import HandS.TupSets
import HandS.TupAny
import HandS.More
import HandS.HeadHook1
import HandS.Small
import HandS.Defaults
import HandS.Ends
import HandS.Codes
import HandS.Head0
import HandS.Head1
import HandS.Head2
import HandS.HeadEnd
import HandS.HeadHook2
import HandS.HeadHook3
import HandS.HeadHook4
import PySem.Challenge.RW_updownworths_k02_names_of_formulas
set_option Elab.async false
set_option linter.all false
set_option maxRecDepth 100000
set_option maxHeartbeats 0
/-! M: a small interpreter for defs over plain data, lists as values; what it answers the model does (below). -/
namespace M
open PySem L2
inductive R (ε α : Type) where
  | ok (a : α)
  | exc (e : ε)
  | stuck
namespace R
variable {ε α β : Type}
def bind (x : R ε α) (f : α → R ε β) : R ε β :=
  match x with
  | .ok a => f a
  | .exc e => .exc e
  | .stuck => .stuck
def ofO : Option α → R ε α
  | some a => .ok a
  | none => .stuck
end R
instance {ε : Type} : Monad (R ε) where
  pure := R.ok
  bind := R.bind
/-- what a slot holds: shared data, a list of its own, one handed in by reference, one that a loop walks -/
inductive Own where
  | sh | ow | rf | ln
  deriving DecidableEq
abbrev Slot := PyData × Own
abbrev Env := List (Option Slot)
/-- an expression's value: data (fresh: a list that nobody else holds), or the own list of a slot -/
inductive EV where
  | va (d : PyData) (fr : Bool)
  | sl (i : Nat)
/-- an exception: its class, its fields -/
structure Exn where
  c : Nat
  fs : List PyData
inductive Arg where
  | v (d : PyData)
  | r (d : PyData)
structure Ret where
  d : PyData
  fr : Bool
  rs : List PyData
abbrev RE := R (Exn × Env)
abbrev CallT := Nat → List Arg → R Exn Ret
inductive IK where
  | ex | r1 | r2 | en | zp
  deriving DecidableEq
inductive Blt where
  | len | abs | sum | all | any | min1 | max1 | min2 | max2 | srt | lst | tup | int | str | repr | sset
  deriving DecidableEq
inductive Ty where
  | int | bool | str | tuple | list
  deriving DecidableEq
inductive Mut where
  | append | extend | clear | insert | pop | remove
  deriving DecidableEq
inductive MT where
  | nm (i : Nat)
  | tp (ts : List MT)
inductive ME where
  | var (i : Nat)
  | cst (d : PyData)
  | glo (x : Nat)
  | ref (i : Nat)
  | bin (op : Operator) (a b : ME)
  | neg (a : ME)
  | not (a : ME)
  | and (a b : ME)
  | or (a b : ME)
  | cmp (op : CmpOp) (a b : ME)
  | chn (op op' : CmpOp) (a b c : ME)
  | ife (c a b : ME)
  | call (f : Nat) (es : List ME)
  | blt (b : Blt) (es : List ME)
  | isi (e : ME) (t : Ty)
  | sub (a b : ME)
  | slc (a : ME) (lo hi : Option ME)
  | tup (es : List ME)
  | lst (es : List ME)
  | lc (t : MT) (k : IK) (src : List ME) (cs : List ME) (e : ME)
inductive MS where
  | nop
  | set (i : Nat) (e : ME)
  | setT (ts : List MT) (e : ME)
  | setI (i : Nat) (ix e : ME)
  | mut (i : Nat) (m : Mut) (es : List ME)
  | ext (i : Nat) (e : ME)
  | expr (e : ME)
  | ret (e : ME)
  | retN
  | ite (c : ME) (a b : List MS)
  | forr (t : MT) (k : IK) (src : List ME) (body : List MS)
  | whl (c : ME) (body : List MS)
  | rais (c : Nat) (ini : Bool) (es : List ME)
/-! ### plain data -/
def mulOk (i j : Int) : Bool := decide (((-(2 ^ 64) < i ∧ i < 2 ^ 64) ∨ (-(2 ^ 64) < j ∧ j < 2 ^ 64)) ∨ i.natAbs.log2 + j.natAbs.log2 < 1000000)
def binD : Operator → PyData → PyData → Option (PyData × Bool)
  | .Add, .int i, .int j => some (.int (i + j), false)
  | .Add, .str x, .str y => if x.length + y.length ≤ sizeLine then some (.str (x ++ y), false) else none
  | .Add, .tuple xs, .tuple ys => if xs.length + ys.length ≤ sizeLine then some (.tuple (xs ++ ys), false) else none
  | .Add, .list xs, .list ys => if xs.length + ys.length ≤ sizeLine then some (.list (xs ++ ys), true) else none
  | .Sub, .int i, .int j => some (.int (i - j), false)
  | .Mult, .int i, .int j => if mulOk i j = true then some (.int (i * j), false) else none
  | .FloorDiv, .int i, .int j => if 0 < j ∧ j < 1073741824 then some (.int (i / j), false) else none
  | .Mod, .int i, .int j => if 0 < j then some (.int (i % j), false) else none
  | .Pow, .int i, .int j => if 0 ≤ j ∧ j ≤ 1000000 ∧ i.natAbs < 2 ^ 64 then some (.int (i ^ j.toNat), false) else none
  | _, _, _ => none
def truD : PyData → Option Bool
  | .none => some false
  | .bool b => some b
  | .int i => some (i != 0)
  | .str x => some ((x.length : Int) != 0)
  | .list xs => some (!xs.isEmpty)
  | .tuple xs => some (!xs.isEmpty)
  | .dict _ => none
def flatD : PyData → Bool
  | .none | .bool _ | .int _ | .str _ => true
  | _ => false
def ndB : PyData → Bool
  | .dict _ => false
  | _ => true
def eqOk (d e : PyData) : Bool := ndB d && (ndB e && decide (d.depth ≤ 64 ∨ e.depth ≤ 64))
def cmpD : CmpOp → PyData → PyData → Option Bool
  | .Eq, d, e => if eqOk d e = true then some (PyData.eqv d e) else none
  | .NotEq, d, e => if eqOk d e = true then some (!PyData.eqv d e) else none
  | .Lt, .int i, .int j => some (decide (i < j))
  | .LtE, .int i, .int j => some (decide (i ≤ j))
  | .Gt, .int i, .int j => some (decide (j < i))
  | .GtE, .int i, .int j => some (decide (j ≤ i))
  | .Is, .none, .none => some true
  | .Is, _, .none => some false
  | .IsNot, .none, .none => some false
  | .IsNot, _, .none => some true
  | .In, d, .list ds => if ndB d = true ∧ d.depth ≤ 64 then some (ds.any fun z => PyData.eqv z d) else none
  | .NotIn, d, .list ds => if ndB d = true ∧ d.depth ≤ 64 then some (!ds.any fun z => PyData.eqv z d) else none
  | .In, .str x, .dict kvs => some (kvs.any fun p => PyData.eqv p.1 (.str x))
  | .NotIn, .str x, .dict kvs => some (!kvs.any fun p => PyData.eqv p.1 (.str x))
  | _, _, _ => none
def intsD : List PyData → Option (List Int)
  | [] => some []
  | .int i :: r => (intsD r).map (i :: ·)
  | _ :: _ => none
def boolsD : List PyData → Option (List Bool)
  | [] => some []
  | .bool i :: r => (boolsD r).map (i :: ·)
  | _ :: _ => none
def isD : Ty → PyData → Bool
  | .int, .int _ | .int, .bool _ => true
  | .bool, .bool _ => true
  | .str, .str _ => true
  | .tuple, .tuple _ => true
  | .list, .list _ => true
  | _, _ => false
/-- tuples of two ints, as pairs -/
def pairsD : List PyData → Option (List (Int × Int))
  | [] => some []
  | .tuple [.int i, .int j] :: r => if 0 ≤ i ∧ 0 ≤ j then (pairsD r).map ((i, j) :: ·) else none
  | _ :: _ => none
def pLt (p q : Int × Int) : Bool := decide (p.1 < q.1 ∨ (p.1 = q.1 ∧ p.2 < q.2))
/-- put into a rising list of unlike pairs -/
def pIns (p : Int × Int) : List (Int × Int) → List (Int × Int)
  | [] => [p]
  | q :: r => if pLt p q = true then p :: q :: r else if p = q then q :: r else q :: pIns p r
def pSort : List (Int × Int) → List (Int × Int)
  | [] => []
  | p :: r => pIns p (pSort r)
def pD (p : Int × Int) : PyData := .tuple [.int p.1, .int p.2]
def bltD : Blt → List PyData → Option (PyData × Bool)
  | .len, [.list xs] => some (.int xs.length, false)
  | .len, [.tuple xs] => some (.int xs.length, false)
  | .len, [.str x] => some (.int x.length, false)
  | .abs, [.int i] => some (.int (if i < 0 then -i else i), false)
  | .sum, [.list xs] => (intsD xs).map fun ns => (.int ns.sum, false)
  | .all, [.list xs] => (boolsD xs).map fun bs => (.bool (bs.all id), false)
  | .any, [.list xs] => (boolsD xs).map fun bs => (.bool (bs.any id), false)
  | .min2, [.int i, .int j] => some (.int (if j < i then j else i), false)
  | .max2, [.int i, .int j] => some (.int (if j > i then j else i), false)
  | .lst, [.list xs] => some (.list xs, true)
  | .lst, [.tuple xs] => some (.list xs, true)
  | .tup, [.list xs] => some (.tuple xs, false)
  | .tup, [.tuple xs] => some (.tuple xs, false)
  | .sset, [.list xs] => if xs.length < 64 then (pairsD xs).map fun ps => (.list ((pSort ps).map pD), true) else none
  | _, _ => none
def cutD (xs : List PyData) (lo hi : Option Int) : List PyData := (xs.drop (HT.sIx xs.length 0 lo)).take (HT.sIx xs.length xs.length hi - HT.sIx xs.length 0 lo)
def subD : PyData → PyData → Option PyData
  | .list xs, .int i => atI xs i
  | .tuple xs, .int i => atI xs i
  | .dict kvs, .str x => (kvs.find? fun p => PyData.eqv p.1 (.str x)).map (·.2)
  | _, _ => none
def slcD : PyData → Option Int → Option Int → Option (PyData × Bool)
  | .list xs, lo, hi => some (.list (cutD xs lo hi), true)
  | .tuple xs, lo, hi => some (.tuple (cutD xs lo hi), false)
  | _, _, _ => none
def itemsD : IK → List PyData → Option (List PyData)
  | .ex, [.list xs] => some xs
  | .ex, [.tuple xs] => some xs
  | .r1, [.int n] => if -(2 ^ 62) ≤ n ∧ n ≤ (sizeLine : Int) then some ((List.range n.toNat).map fun (i : Nat) => .int (i : Int)) else none
  | .r2, [.int a, .int b] => if (-(2 ^ 62) ≤ a ∧ a < 2 ^ 62 ∧ -(2 ^ 62) ≤ b ∧ b < 2 ^ 62) ∧ (b - a).toNat ≤ sizeLine then some ((List.range (b - a).toNat).map fun (i : Nat) => .int (a + i)) else none
  | .en, [.list xs] => some (xs.zipIdx.map fun p => .tuple [.int (p.2 : Int), p.1])
  | .zp, [.list xs, .list ys] => some (List.zipWith (fun x y => .tuple [x, y]) xs ys)
  | .zp, [.tuple xs, .tuple ys] => some (List.zipWith (fun x y => .tuple [x, y]) xs ys)
  | _, _ => none
def mutD : Mut → PyData → List PyData → Option PyData
  | .append, .list xs, [d] => if xs.length < sizeLine then some (.list (xs ++ [d])) else none
  | .clear, .list _, [] => some (.list [])
  | _, _, _ => none
def setD : PyData → PyData → PyData → Option PyData
  | .list xs, .int i, d => (ixN xs.length i).map fun j => .list (xs.set j d)
  | _, _, _ => none
def extD : PyData → List PyData → Option PyData
  | .list xs, ys => if xs.length + ys.length ≤ sizeLine then some (.list (xs ++ ys)) else none
  | _, _ => none
/-! ### slots -/
def rdv (env : Env) : EV → RE PyData
  | .va d _ => .ok d
  | .sl i => match env[i]? with
    | some (some (d, _)) => .ok d
    | _ => .stuck
def rdAll (env : Env) : List EV → RE (List PyData)
  | [] => .ok []
  | w :: r => do
    let d ← rdv env w
    let ds ← rdAll env r
    .ok (d :: ds)
def fzv (env : Env) : EV → RE (PyData × Env)
  | .va d _ => .ok (d, env)
  | .sl i => match env[i]? with
    | some (some (d, .ow)) => .ok (d, env.set i (some (d, .sh)))
    | some (some (d, .sh)) => .ok (d, env)
    | _ => .stuck
/-- .. of what may lie in lists and tuples -/
def fzn (env : Env) (w : EV) : RE (PyData × Env) :=
  match fzv env w with
  | .ok (d, env') => if ndB d = true then .ok (d, env') else .stuck
  | .exc e => .exc e
  | .stuck => .stuck
/-- a list of its own stands there -/
def ownS : Option (Option Slot) → Bool
  | some (some (_, .ow)) => true
  | some (some (_, .rf)) => true
  | _ => false
/-- may a slot be bound anew? -/
def freeS : Option (Option Slot) → Bool
  | some (some (_, .rf)) => false
  | some (some (_, .ln)) => false
  | some _ => true
  | none => false
def setS (i : Nat) (d : PyData) (k : Own) (env : Env) : Option Env := if freeS env[i]? = true then some (env.set i (some (d, k))) else none
mutual
def bindT : MT → PyData → Env → Option Env
  | .nm i, d, env => setS i d .sh env
  | .tp ts, .tuple ds, env => bindTs ts ds env
  | .tp _, _, _ => none
def bindTs : List MT → List PyData → Env → Option Env
  | [], [], env => some env
  | t :: ts, d :: ds, env => (bindT t d env).bind fun env' => bindTs ts ds env'
  | _, _, _ => none
end
mutual
def MT.vars : MT → List Nat
  | .nm i => [i]
  | .tp ts => MT.varsL ts
def MT.varsL : List MT → List Nat
  | [] => []
  | t :: ts => MT.vars t ++ MT.varsL ts
end
def wipeE (env : Env) : List Nat → Env
  | [] => env
  | v :: vs => (wipeE env vs).set v none
/-- the slots of vs as they stood -/
def backE (env0 env : Env) : List Nat → Env
  | [] => env
  | v :: vs => (backE env0 env vs).set v (env0[v]?.join)
def lend1 (env : Env) (i : Nat) : Env := match env[i]? with
  | some (some (d, .ow)) => env.set i (some (d, .ln))
  | some (some (d, .rf)) => env.set i (some (d, .ln))
  | _ => env
def lendE (env : Env) : List Nat → Env
  | [] => env
  | i :: r => lend1 (lendE env r) i
/-- a slot whose data is shared by now is but its data -/
def normW (env : Env) : EV → EV
  | .sl i => match env[i]? with
    | some (some (d, .sh)) => .va d false
    | _ => .sl i
  | w => w
def slots : List EV → List Nat
  | [] => []
  | .sl i :: r => i :: slots r
  | .va _ _ :: r => slots r
/-- the slots that a loop walks -/
def lent (env : Env) (ws : List EV) : List Nat := slots (ws.map (normW env))
inductive SR where
  | nx (env : Env)
  | rt (d : PyData) (fr : Bool) (env : Env)
/-- arguments: those by reference are named by their slots -/
def refsOf : List (Sum Nat PyData) → List Nat
  | [] => []
  | .inl i :: r => i :: refsOf r
  | .inr _ :: r => refsOf r
def argsAt (env : Env) : List (Sum Nat PyData) → Option (List Arg)
  | [] => some []
  | .inr d :: r => (argsAt env r).map (.v d :: ·)
  | .inl i :: r => match env[i]? with
    | some (some (d, .ow)) => (argsAt env r).map (.r d :: ·)
    | some (some (d, .rf)) => (argsAt env r).map (.r d :: ·)
    | _ => none
def putRefs (env : Env) : List Nat → List PyData → Option Env
  | [], [] => some env
  | i :: is, d :: ds => match env[i]? with
    | some (some (_, k)) => putRefs (env.set i (some (d, k))) is ds
    | _ => none
  | _, _ => none
def callAt (C : CallT) (f : Nat) (as : List (Sum Nat PyData)) (env : Env) : RE (EV × Env) :=
  if (refsOf as).Nodup then
    match argsAt env as with
    | none => .stuck
    | some args => match C f args with
      | .ok r => match putRefs env (refsOf as) r.rs with
        | some env' => .ok (.va r.d r.fr, env')
        | none => .stuck
      | .exc x => if refsOf as = [] then .exc (x, env) else .stuck
      | .stuck => .stuck
  else .stuck
def lcLoop (f : PyData → Env → RE (Option PyData × Env)) : List PyData → Env → RE (List PyData × Env)
  | [], env => .ok ([], env)
  | x :: r, env => match f x env with
    | .ok (o, env1) => match lcLoop f r env1 with
      | .ok (ds, env2) => .ok (o.toList ++ ds, env2)
      | .exc _ => .stuck
      | .stuck => .stuck
    | .exc _ => .stuck
    | .stuck => .stuck
def forLoop (f : PyData → Env → RE SR) : List PyData → Env → RE SR
  | [], env => .ok (.nx env)
  | x :: r, env => match f x env with
    | .ok (.nx env1) => forLoop f r env1
    | .ok (.rt d fr env1) => .ok (.rt d fr env1)
    | .exc e => .exc e
    | .stuck => .stuck
def whLoop (c : Env → RE (Bool × Env)) (b : Env → RE SR) : Nat → Env → RE SR
  | 0, _ => .stuck
  | n + 1, env => match c env with
    | .ok (false, env1) => .ok (.nx env1)
    | .ok (true, env1) => match b env1 with
      | .ok (.nx env2) => whLoop c b n env2
      | .ok (.rt d fr env2) => .ok (.rt d fr env2)
      | .exc e => .exc e
      | .stuck => .stuck
    | .exc e => .exc e
    | .stuck => .stuck
def truW (env : Env) (w : EV) : RE Bool := do
  let d ← rdv env w
  R.ofO (truD d)
section
variable (C : CallT) (G : List PyData)
mutual
def ev : ME → Env → RE (EV × Env)
  | .var i, env => match env[i]? with
    | some (some (d, .sh)) => .ok (.va d false, env)
    | some (some (_, _)) => .ok (.sl i, env)
    | _ => .stuck
  | .cst d, env => .ok (.va d false, env)
  | .glo x, env => match G[x]? with
    | some d => .ok (.va d false, env)
    | none => .stuck
  | .ref _, _ => .stuck
  | .bin op a b, env => do
    let (x, env) ← ev a env
    let (y, env) ← ev b env
    let d ← rdv env x
    let e ← rdv env y
    let p ← R.ofO (binD op d e)
    .ok (.va p.1 p.2, env)
  | .neg a, env => do
    let (x, env) ← ev a env
    match ← rdv env x with
    | .int i => .ok (.va (.int (-i)) false, env)
    | _ => .stuck
  | .not a, env => do
    let (x, env) ← ev a env
    let k ← truW env x
    .ok (.va (.bool (!k)) false, env)
  | .and a b, env => do
    let (x, env) ← ev a env
    let k ← truW env x
    if k = true then ev b env else .ok (x, env)
  | .or a b, env => do
    let (x, env) ← ev a env
    let k ← truW env x
    if k = true then .ok (x, env) else ev b env
  | .cmp op a b, env => do
    let (x, env) ← ev a env
    let (y, env) ← ev b env
    let d ← rdv env x
    let e ← rdv env y
    let k ← R.ofO (cmpD op d e)
    .ok (.va (.bool k) false, env)
  | .chn op op' a b c, env => do
    let (x, env) ← ev a env
    let (y, env) ← ev b env
    let d ← rdv env x
    let e ← rdv env y
    let k ← R.ofO (cmpD op d e)
    if k = true then
      let (z, env) ← ev c env
      let e ← rdv env y
      let g ← rdv env z
      let k ← R.ofO (cmpD op' e g)
      .ok (.va (.bool k) false, env)
    else .ok (.va (.bool false) false, env)
  | .ife c a b, env => do
    let (x, env) ← ev c env
    let k ← truW env x
    if k = true then ev a env else ev b env
  | .call f es, env => do
    let (as, env) ← evG es env
    callAt C f as env
  | .blt b es, env => do
    let (ws, env) ← evE es env
    let ds ← rdAll env ws
    let p ← R.ofO (bltD b ds)
    .ok (.va p.1 p.2, env)
  | .isi e t, env => do
    let (x, env) ← ev e env
    let d ← rdv env x
    .ok (.va (.bool (isD t d)) false, env)
  | .sub a b, env => do
    let (x, env) ← ev a env
    let (y, env) ← ev b env
    let d ← rdv env x
    let e ← rdv env y
    let g ← R.ofO (subD d e)
    .ok (.va g false, env)
  | .slc a lo hi, env => do
    let (x, env) ← ev a env
    let (l, env) ← evO lo env
    let (h, env) ← evO hi env
    let d ← rdv env x
    let p ← R.ofO (slcD d l h)
    .ok (.va p.1 p.2, env)
  | .tup es, env => do
    let (ds, env) ← evA es env
    if ds.length ≤ sizeLine then .ok (.va (.tuple ds) false, env) else .stuck
  | .lst es, env => do
    let (ds, env) ← evA es env
    if ds.length ≤ sizeLine then .ok (.va (.list ds) true, env) else .stuck
  | .lc t k src cs e, env => do
    let (ws, env1) ← evE src env
    let ds ← rdAll env1 ws
    let items ← R.ofO (itemsD k ds)
    if (lent env1 ws).any (fun i => t.vars.contains i) = true then .stuck else
    match lcLoop (fun x env => do
        let env ← R.ofO (bindT t x env)
        let (b, env) ← evC cs env
        if b = true then
          let (w, env) ← ev e env
          let (d, env) ← fzn env w
          .ok (some d, wipeE env t.vars)
        else .ok (none, wipeE env t.vars)) items (wipeE (lendE env1 (lent env1 ws)) t.vars) with
    | .ok q => .ok (.va (.list q.1) true, backE env1 (backE (lendE env1 (lent env1 ws)) q.2 t.vars) (lent env1 ws))
    | .exc _ => .stuck
    | .stuck => .stuck
/-- items, each frozen -/
def evA : List ME → Env → RE (List PyData × Env)
  | [], env => .ok ([], env)
  | e :: es, env => do
    let (w, env) ← ev e env
    let (d, env) ← fzn env w
    let (ds, env) ← evA es env
    .ok (d :: ds, env)
/-- values to be read -/
def evE : List ME → Env → RE (List EV × Env)
  | [], env => .ok ([], env)
  | e :: es, env => do
    let (w, env) ← ev e env
    let (ws, env) ← evE es env
    .ok (w :: ws, env)
/-- a call's arguments -/
def evG : List ME → Env → RE (List (Sum Nat PyData) × Env)
  | [], env => .ok ([], env)
  | .ref i :: es, env => if ownS env[i]? = true then do
      let (as, env) ← evG es env
      .ok (.inl i :: as, env)
    else .stuck
  | e :: es, env => do
    let (w, env) ← ev e env
    let (d, env) ← fzv env w
    let (as, env) ← evG es env
    .ok (.inr d :: as, env)
def evO : Option ME → Env → RE (Option Int × Env)
  | none, env => .ok (none, env)
  | some e, env => do
    let (w, env) ← ev e env
    match ← rdv env w with
    | .int i => .ok (some i, env)
    | _ => .stuck
/-- tests, all of them -/
def evC : List ME → Env → RE (Bool × Env)
  | [], env => .ok (true, env)
  | e :: es, env => do
    let (w, env) ← ev e env
    let k ← truW env w
    if k = true then evC es env else .ok (false, env)
end
def evT (e : ME) (env : Env) : RE (Bool × Env) := do
  let (w, env) ← ev C G e env
  let k ← truW env w
  .ok (k, env)
def FUEL : Nat := 2 ^ 60
def unlend (env1 : Env) (is : List Nat) : SR → SR
  | .nx env => .nx (backE env1 env is)
  | .rt d fr env => .rt d fr (backE env1 env is)
def unlR (env1 : Env) (is : List Nat) : RE SR → RE SR
  | .ok r => .ok (unlend env1 is r)
  | .exc x => .exc (x.1, backE env1 x.2 is)
  | .stuck => .stuck
/-- a slot's own list is changed -/
def mutS (i : Nat) (env : Env) (f : PyData → Option PyData) : RE SR := match env[i]? with
  | some (some (c, .ow)) => (R.ofO (f c)).bind fun c => .ok (.nx (env.set i (some (c, .ow))))
  | some (some (c, .rf)) => (R.ofO (f c)).bind fun c => .ok (.nx (env.set i (some (c, .rf))))
  | _ => .stuck
mutual
def evS : MS → Env → RE SR
  | .nop, env => .ok (.nx env)
  | .set i e, env => do
    let (w, env) ← ev C G e env
    match w with
    | .va d fr => (R.ofO (setS i d (if fr = true then .ow else .sh) env)).bind fun env => .ok (.nx env)
    | .sl j => do
      let (d, env) ← fzv env (.sl j)
      (R.ofO (setS i d .sh env)).bind fun env => .ok (.nx env)
  | .setT ts e, env => do
    let (w, env) ← ev C G e env
    let (d, env) ← fzv env w
    (R.ofO (bindT (.tp ts) d env)).bind fun env => .ok (.nx env)
  | .setI i ix e, env => do
    let (w, env) ← ev C G e env
    let (d, env) ← fzn env w
    if ownS env[i]? = true then
      let (y, env) ← ev C G ix env
      let k ← rdv env y
      mutS i env fun c => setD c k d
    else .stuck
  | .mut i m es, env => if ownS env[i]? = true then do
      let (ds, env) ← evA C G es env
      mutS i env fun c => mutD m c ds
    else .stuck
  | .ext i e, env => if ownS env[i]? = true then do
      let (w, env) ← ev C G e env
      match w with
      | .va (.list ys) true => mutS i env fun c => extD c ys
      | _ => .stuck
    else .stuck
  | .expr e, env => do
    let (_, env) ← ev C G e env
    .ok (.nx env)
  | .ret e, env => do
    let (w, env) ← ev C G e env
    match w with
    | .va d fr => .ok (.rt d fr env)
    | .sl i => match env[i]? with
      | some (some (d, .ow)) => .ok (.rt d true (env.set i none))
      | _ => .stuck
  | .retN, env => .ok (.rt .none false env)
  | .ite c a b, env => do
    let (k, env) ← evT C G c env
    if k = true then evSs a env else evSs b env
  | .forr t k src body, env => do
    let (ws, env1) ← evE C G src env
    let ds ← rdAll env1 ws
    let items ← R.ofO (itemsD k ds)
    unlR env1 (lent env1 ws) (forLoop (fun x env => do
        let env ← R.ofO (bindT t x env)
        evSs body env) items (lendE env1 (lent env1 ws)))
  | .whl c body, env => whLoop (fun env => evT C G c env) (fun env => evSs body env) FUEL env
  | .rais c ini es, env => do
    let (ds, env) ← evA C G es env
    .exc (⟨c, if ini = true then ds else []⟩, env)
def evSs : List MS → Env → RE SR
  | [], env => .ok (.nx env)
  | s :: r, env => match evS s env with
    | .ok (.nx env) => evSs r env
    | .ok (.rt d fr env) => .ok (.rt d fr env)
    | .exc e => .exc e
    | .stuck => .stuck
end
end
/-- a def: which parameters are by reference, how many slots, the body -/
structure MFn where
  refs : List Bool
  nsl : Nat
  body : List MS
def slotOf : Arg → Option Slot
  | .v d => some (d, .sh)
  | .r d => some (d, .rf)
def isR : Arg → Bool
  | .v _ => false
  | .r _ => true
def startE (n : Nat) (args : List Arg) : Env := args.map slotOf ++ List.replicate (n - args.length) none
def rfs : List Bool → Env → Option (List PyData)
  | [], _ => some []
  | false :: r, _ :: env => rfs r env
  | true :: r, some (d, .rf) :: env => (rfs r env).map (d :: ·)
  | _, _ => none
def retOf (refs : List Bool) : RE SR → R Exn Ret
  | .ok (.nx env) => (R.ofO (rfs refs env)).bind fun ds => .ok ⟨.none, false, ds⟩
  | .ok (.rt d fr env) => (R.ofO (rfs refs env)).bind fun ds => .ok ⟨d, fr, ds⟩
  | .exc (x, _) => .exc x
  | .stuck => .stuck
def callF (F : List MFn) (G : List PyData) : Nat → CallT
  | 0, _, _ => .stuck
  | k + 1, f, args => match F[f]? with
    | none => .stuck
    | some fn => if args.map isR = fn.refs ∧ args.length ≤ fn.nsl then retOf fn.refs (evSs (callF F G k) G fn.body (startE fn.nsl args)) else .stuck
end M
/-! M, second part: from the statement's own syntax to the small one. -/
namespace M
open PySem L2
/-- the names of a text: its defs (with their parameters by reference), its constants, its error classes -/
structure Nm where
  fns : List (Str × List Bool)
  gls : List Str
  cls : List (Str × Bool)
def ixOf (x : Str) : List Str → Option Nat
  | [] => none
  | y :: r => if y = x then some 0 else (ixOf x r).map (· + 1)
theorem ixOf_get : ∀ {x : Str} {l : List Str} {i : Nat}, ixOf x l = some i → l[i]? = some x
  | x, y :: r, i, h => by
    unfold ixOf at h
    split at h
    · rename_i e
      cases h
      rw [e]
      rfl
    · cases q : ixOf x r with
      | none => rw [q] at h; cases h
      | some j =>
        rw [q] at h
        cases h
        show r[j]? = some x
        exact ixOf_get q
def mapO {α β : Type} (f : α → Option β) : List α → Option (List β)
  | [] => some []
  | x :: r => (f x).bind fun y => (mapO f r).bind fun ys => some (y :: ys)
def visB (sc : Scope) (x : Str) : Bool := match sc.names.lookup x with
  | some .local | some .cell | some .free => true
  | _ => false
def glB (sc : Scope) (x : Str) : Bool := (match sc.names.lookup x with
  | some .globalImplicit => true
  | _ => false) && !(x == ("__debug__" : Str))
/-- may it be stored into here? -/
def stB (rs : Scope) (x : Str) : Bool := match rs.names.lookup x with
  | some .local | some .cell => true
  | _ => false
def okName (x : Str) : Bool := !(x == ("__debug__" : Str)) && !(x == ("__classdict__" : Str))
def cstO : Const → Option PyData
  | .none => some .none
  | .bool b => some (.bool b)
  | .int i => some (.int i)
  | .str x => if (PyData.strOk x && decide (x.length ≤ sizeLine)) = true then some (.str x) else none
  | _ => none
def bltO (x : Str) (n : Nat) : Option Blt :=
  if x = "len" ∧ n = 1 then some .len
  else if x = "abs" ∧ n = 1 then some .abs
  else if x = "sum" ∧ n = 1 then some .sum
  else if x = "all" ∧ n = 1 then some .all
  else if x = "any" ∧ n = 1 then some .any
  else if x = "min" ∧ n = 2 then some .min2
  else if x = "max" ∧ n = 2 then some .max2
  else if x = "list" ∧ n = 1 then some .lst
  else if x = "tuple" ∧ n = 1 then some .tup
  else none
def tyO (x : Str) : Option Ty :=
  if x = "int" then some .int
  else if x = "bool" then some .bool
  else if x = "str" then some .str
  else if x = "tuple" then some .tuple
  else if x = "list" then some .list
  else none
def mutO (x : Str) (n : Nat) : Option Mut :=
  if x = "append" ∧ n = 1 then some .append
  else if x = "clear" ∧ n = 0 then some .clear
  else none
section
variable (nm : Nm) (N : List Str)
def cBool (op : BoolOp) : List ME → Option ME
  | [] => none
  | [a] => some a
  | a :: r => (cBool op r).bind fun b => some (match op with | .And => .and a b | .Or => .or a b)
def cTg (rs : Scope) : Nat → Expr → Option MT
  | 0, _ => none
  | n + 1, e => match e with
    | .Name x _ => if (stB rs x && okName x) = true then (ixOf x N).map .nm else none
    | .Tuple es _ _ => (mapO (cTg rs n) es).map .tp
    | _ => none
/-- the names of a target, with their slots -/
def ownOf (t : MT) : List (Str × Nat) := t.vars.filterMap fun i => (N[i]?).map fun x => (x, i)
def isTupE : Expr → Bool
  | .Tuple .. => true
  | _ => false
/-- arguments of a call, those by reference as slots -/
def cArgs (f : Expr → Option ME) : List Bool → List Expr → Option (List ME)
  | [], [] => some []
  | false :: r, e :: es => (f e).bind fun m => (cArgs f r es).bind fun ms => some (m :: ms)
  | true :: r, e :: es => (f e).bind fun m => match m with
    | .var i => (cArgs f r es).bind fun ms => some (.ref i :: ms)
    | _ => none
  | _, _ => none
def cIter (f : Expr → Option ME) (sc : Scope) (tup : Bool) (e : Expr) : Option (IK × List ME) :=
  match e with
  | .Call (.Name x _) [a] [] _ =>
    if x = "range" then (if glB sc x = true then (f a).map fun m => (.r1, [m]) else none)
    else if x = "enumerate" then (if (glB sc x && tup) = true then (f a).map fun m => (.en, [m]) else none)
    else (f e).map fun m => (.ex, [m])
  | .Call (.Name x _) [a, b] [] _ =>
    if x = "range" then (if glB sc x = true then (f a).bind fun m => (f b).map fun m' => (.r2, [m, m']) else none)
    else if x = "zip" then (if (glB sc x && tup) = true then (f a).bind fun m => (f b).map fun m' => (.zp, [m, m']) else none)
    else (f e).map fun m => (.ex, [m])
  | .Set .. => none
  | e => (f e).map fun m => (.ex, [m])
def cCall (f : Expr → Option ME) (sc : Scope) (x : Str) (args : List Expr) : Option ME :=
  if glB sc x = true then
    if x = "isinstance" then
      match args with
      | [e, .Name y _] => if glB sc y = true then (tyO y).bind fun t => (f e).map fun m => .isi m t else none
      | _ => none
    else if x = "sorted" then
      match args with
      | [.Call (.Name y _) [e] [] _] => if (decide (y = "set") && glB sc y) = true then (f e).map fun m => .blt .sset [m] else none
      | _ => none
    else match bltO x args.length with
      | some b => (mapO f args).map fun ms => .blt b ms
      | none => (ixOf x (nm.fns.map (·.1))).bind fun i => (nm.fns[i]?).bind fun p => (cArgs f p.2 args).map fun ms => .call i ms
  else none
def cE : Nat → Scope → Expr → Option ME
  | 0, _, _ => none
  | n + 1, sc, e => match e with
    | .Name x _ => if okName x = true then (if visB sc x = true then (ixOf x N).map .var else if glB sc x = true then (ixOf x nm.gls).map .glo else none) else none
    | .Constant c _ _ => (cstO c).map .cst
    | .BinOp a op b _ => (cE n sc a).bind fun a' => (cE n sc b).map fun b' => .bin op a' b'
    | .UnaryOp .Not a _ => (cE n sc a).map .not
    | .UnaryOp .USub a _ => (cE n sc a).map .neg
    | .BoolOp op es _ => (mapO (cE n sc) es).bind (cBool op)
    | .Compare a [op] [b] _ => if behindInMarks op b = false then (cE n sc a).bind fun a' => (cE n sc b).map fun b' => .cmp op a' b' else none
    | .Compare a [op, op'] [b, c] _ => if behindInMarks op' c = false then (cE n sc a).bind fun a' => (cE n sc b).bind fun b' => (cE n sc c).map fun c' => .chn op op' a' b' c' else none
    | .IfExp c a b _ => (cE n sc c).bind fun c' => (cE n sc a).bind fun a' => (cE n sc b).map fun b' => .ife c' a' b'
    | .Call (.Name x _) args [] _ => cCall nm (cE n sc) sc x args
    | .Subscript a (.Slice lo hi none _) _ => (cE n sc a).bind fun a' =>
        match lo, hi with
        | none, none => some (.slc a' none none)
        | some l, none => (cE n sc l).map fun l' => .slc a' (some l') none
        | none, some h => (cE n sc h).map fun h' => .slc a' none (some h')
        | some l, some h => (cE n sc l).bind fun l' => (cE n sc h).map fun h' => .slc a' (some l') (some h')
    | .Subscript a b _ => (cE n sc a).bind fun a' => (cE n sc b).map fun b' => .sub a' b'
    | .Tuple es _ _ => (mapO (cE n sc) es).map .tup
    | .List es _ => (mapO (cE n sc) es).map .lst
    | .ListComp elt [⟨tg, iter, ifs, 0⟩] scope _ => (cTg N scope n tg).bind fun t =>
        if (blkC N sc scope (ownOf N t) && decide (ifs.length ≤ 1)) = true then
          (cIter (cE n sc) sc (isTupE tg) iter).bind fun ki => (mapO (cE n (relS scope sc)) ifs).bind fun cs => (cE n (relS scope sc) elt).map fun m => .lc t ki.1 ki.2 cs m
        else none
    | _ => none
/-- statements; sc is the def's scope -/
def cS (sc : Scope) : Nat → Stmt → Option MS
  | 0, _ => none
  | n + 1, st => match st with
    | .Pass _ => some .nop
    | .Assign [.Name x p] e pos => (cTg N sc n (.Name x p)).bind fun t => match t with
      | .nm i => (cE nm N n sc e).map fun m => .set i m
      | _ => none
    | .Assign [.Tuple ts k p] e pos => if isTupE e = true then none else (cTg N sc n (.Tuple ts k p)).bind fun t => match t with
      | .tp ts' => (cE nm N n sc e).map fun m => .setT ts' m
      | _ => none
    | .Assign [.Subscript (.Name x p) ix _] e pos => (cE nm N n sc (.Name x p)).bind fun a => match a with
      | .var i => (cE nm N n sc ix).bind fun m => (cE nm N n sc e).map fun m' => .setI i m m'
      | _ => none
    | .Expr (.Call (.Attribute (.Name x p) m apos) es [] cpos) _ => if (apos.endLine == cpos.line && decide (es.length < 30)) = true then (cE nm N n sc (.Name x p)).bind fun a => match a with
      | .var i => if m = "extend" then (match es with
          | [e] => (cE nm N n sc e).map fun e' => .ext i e'
          | _ => none)
        else (mutO m es.length).bind fun u => (mapO (cE nm N n sc) es).map fun ms => .mut i u ms
      | _ => none
      else none
    | .Expr (.Constant (.str _) _ _) _ => some .nop
    | .Expr (.Call (.Name x p) es [] q) _ => (cE nm N n sc (.Call (.Name x p) es [] q)).map .expr
    | .Return (some e) _ => (cE nm N n sc e).map .ret
    | .Return none _ => some .retN
    | .If c a b _ => (cE nm N n sc c).bind fun c' => (mapO (cS sc n) a).bind fun a' => (mapO (cS sc n) b).map fun b' => .ite c' a' b'
    | .For tg iter body [] _ => (cTg N sc n tg).bind fun t => (cIter (cE nm N n sc) sc (isTupE tg) iter).bind fun ki => (mapO (cS sc n) body).map fun b => .forr t ki.1 ki.2 b
    | .While c body [] _ => (cE nm N n sc c).bind fun c' => (mapO (cS sc n) body).map fun b => .whl c' b
    | .Raise (some (.Call (.Name x _) [.Constant (.str _) _ _] [] _)) none _ => if glB sc x = true then (ixOf x (nm.cls.map (·.1))).bind fun i => (nm.cls[i]?).bind fun p => if p.2 = false then some (.rais i false []) else none else none
    | _ => none
end
end M
/-! M, third part: what the abstract heap says of data; slots; steps. -/
namespace M
open PySem L2
abbrev St := List (Option V)
/-- what is fixed through a text: the written part, its tables, where its error classes stand -/
structure Wd where
  K : PySem.W.Frag
  DK : Addr → List (PyData × PyData) → Prop
  ca : Nat → Addr
/-- a list, a tuple that nobody changes: tracked outside Av, or written -/
def LsA (K : PySem.W.Frag) (H : Hp) (Av : Addr → Prop) (a : Addr) (xs : List V) : Prop :=
  (¬ Av a ∧ Rd H a (.lst xs)) ∨ ∃ (o : Obj) (its : Array Value) (n : Nat), K.lookup a = some o ∧ o.cls = .type "list" ∧ o.dict = none ∧ o.data = .seq its n ∧ its.size ≤ sizeLine ∧ Vals xs its.toList
def TpA (K : PySem.W.Frag) (H : Hp) (Av : Addr → Prop) (a : Addr) (xs : List V) : Prop :=
  (¬ Av a ∧ Rd H a (.tup xs)) ∨ ∃ (o : Obj) (its : Array Value) (n : Nat), K.lookup a = some o ∧ o.cls = .type "tuple" ∧ o.data = .seq its n ∧ its.size ≤ sizeLine ∧ Vals xs its.toList
theorem LsA.sq {K : PySem.W.Frag} {H : Hp} {Av : Addr → Prop} {a : Addr} {xs : List V} (h : LsA K H Av a xs) : SqL K H a xs := h.elim (fun x => .inl x.2) .inr
theorem TpA.sq {K : PySem.W.Frag} {H : Hp} {Av : Addr → Prop} {a : Addr} {xs : List V} (h : TpA K H Av a xs) : SqT K H a xs := h.elim (fun x => .inl x.2) .inr
theorem rd_some {H : Hp} {a : Addr} {u : HO} (h : Rd H a u) : H a ≠ none := by
  rcases h with h | ⟨o, h⟩ <;> (rw [h]; simp)
theorem rd_kept {H H' : Hp} {a : Addr} {u : HO} (h : Rd H a u) (k : ∀ o, H a = some o → H' a = some o) : Rd H' a u := by
  rcases h with h | ⟨o, h⟩
  · exact .inl (k _ h)
  · exact .inr ⟨o, k _ h⟩
/-- from H and Av to H' and Av': what is not in Av and stands stays, and does not come into Av' -/
structure Tr (H H' : Hp) (Av Av' : Addr → Prop) : Prop where
  keep : ∀ a o, ¬ Av a → H a = some o → H' a = some o
  out : ∀ a, ¬ Av a → H a ≠ none → ¬ Av' a
theorem LsA.tr {K : PySem.W.Frag} {H H' : Hp} {Av Av' : Addr → Prop} {a : Addr} {xs : List V} (t : Tr H H' Av Av') (h : LsA K H Av a xs) : LsA K H' Av' a xs :=
  h.elim (fun x => .inl ⟨t.out a x.1 (rd_some x.2), rd_kept x.2 fun o e => t.keep a o x.1 e⟩) .inr
theorem TpA.tr {K : PySem.W.Frag} {H H' : Hp} {Av Av' : Addr → Prop} {a : Addr} {xs : List V} (t : Tr H H' Av Av') (h : TpA K H Av a xs) : TpA K H' Av' a xs :=
  h.elim (fun x => .inl ⟨t.out a x.1 (rd_some x.2), rd_kept x.2 fun o e => t.keep a o x.1 e⟩) .inr
/-! ### data and values -/
mutual
def Rep (W : Wd) (H : Hp) (Av : Addr → Prop) : PyData → V → Prop
  | .none, v => v = .non
  | .bool b, v => v = .bl b
  | .int i, v => v = .int i
  | .str x, v => v = .str x ∧ PyData.strOk x = true ∧ x.length ≤ sizeLine
  | .list ds, v => ∃ a vs, v = .ref a ∧ LsA W.K H Av a vs ∧ vs.length ≤ sizeLine ∧ RepAll W H Av ds vs
  | .tuple ds, v => ∃ a vs, v = .ref a ∧ TpA W.K H Av a vs ∧ vs.length ≤ sizeLine ∧ RepAll W H Av ds vs
  | .dict kvs, v => ∃ a, v = .ref a ∧ W.DK a kvs
def RepAll (W : Wd) (H : Hp) (Av : Addr → Prop) : List PyData → List V → Prop
  | [], vs => vs = []
  | d :: ds, vs => ∃ v r, vs = v :: r ∧ ndD d ∧ Rep W H Av d v ∧ RepAll W H Av ds r
/-- no table -/
def ndD : PyData → Prop
  | .dict _ => False
  | _ => True
end
section
variable {W : Wd} {H H' : Hp} {Av Av' : Addr → Prop}
mutual
theorem Rep.tr (t : Tr H H' Av Av') : ∀ {d : PyData} {v : V}, Rep W H Av d v → Rep W H' Av' d v
  | .none, _, h => by simpa only [Rep] using h
  | .bool _, _, h => by simpa only [Rep] using h
  | .int _, _, h => by simpa only [Rep] using h
  | .str _, _, h => by simpa only [Rep] using h
  | .list ds, _, h => by
    simp only [Rep] at h ⊢
    obtain ⟨a, vs, e, l, z, r⟩ := h
    exact ⟨a, vs, e, l.tr t, z, RepAll.tr t r⟩
  | .tuple ds, _, h => by
    simp only [Rep] at h ⊢
    obtain ⟨a, vs, e, l, z, r⟩ := h
    exact ⟨a, vs, e, l.tr t, z, RepAll.tr t r⟩
  | .dict _, _, h => by simpa only [Rep] using h
theorem RepAll.tr (t : Tr H H' Av Av') : ∀ {ds : List PyData} {vs : List V}, RepAll W H Av ds vs → RepAll W H' Av' ds vs
  | [], _, h => by simpa only [RepAll] using h
  | d :: ds, _, h => by
    simp only [RepAll] at h ⊢
    obtain ⟨v, r, e, n, h1, h2⟩ := h
    exact ⟨v, r, e, n, Rep.tr t h1, RepAll.tr t h2⟩
end
theorem RepAll.length : ∀ {ds : List PyData} {vs : List V}, RepAll W H Av ds vs → vs.length = ds.length
  | [], _, h => by simp only [RepAll] at h; rw [h]; rfl
  | d :: ds, _, h => by
    simp only [RepAll] at h
    obtain ⟨v, r, e, _, _, h2⟩ := h
    rw [e, List.length_cons, List.length_cons, RepAll.length h2]
theorem RepAll.get : ∀ {ds : List PyData} {vs : List V} {i : Nat} {d : PyData}, RepAll W H Av ds vs → ds[i]? = some d → ∃ v, vs[i]? = some v ∧ ndD d ∧ Rep W H Av d v
  | d :: ds, _, 0, x, h, e => by
    simp only [RepAll] at h
    obtain ⟨v, r, rfl, n, h1, _⟩ := h
    cases Option.some.inj e
    exact ⟨v, rfl, n, h1⟩
  | d :: ds, _, i + 1, x, h, e => by
    simp only [RepAll] at h
    obtain ⟨v, r, rfl, _, _, h2⟩ := h
    exact RepAll.get (i := i) h2 e
  | [], _, _, _, _, e => by simp at e
theorem RepAll.getV : ∀ {ds : List PyData} {vs : List V} {i : Nat} {v : V}, RepAll W H Av ds vs → vs[i]? = some v → ∃ d, ds[i]? = some d ∧ ndD d ∧ Rep W H Av d v
  | d :: ds, _, 0, x, h, e => by
    simp only [RepAll] at h
    obtain ⟨v, r, rfl, n, h1, _⟩ := h
    cases Option.some.inj e
    exact ⟨d, rfl, n, h1⟩
  | d :: ds, _, i + 1, x, h, e => by
    simp only [RepAll] at h
    obtain ⟨v, r, rfl, _, _, h2⟩ := h
    exact RepAll.getV (i := i) h2 e
  | [], _, _, _, h, e => by
    simp only [RepAll] at h
    rw [h] at e
    simp at e
theorem RepAll.append : ∀ {ds es : List PyData} {vs ws : List V}, RepAll W H Av ds vs → RepAll W H Av es ws → RepAll W H Av (ds ++ es) (vs ++ ws)
  | [], _, _, _, h, h2 => by
    simp only [RepAll] at h
    rw [h]
    exact h2
  | d :: ds, es, _, ws, h, h2 => by
    simp only [RepAll] at h
    obtain ⟨v, r, rfl, n, h1, h3⟩ := h
    show RepAll W H Av (d :: (ds ++ es)) (v :: (r ++ ws))
    simp only [RepAll]
    exact ⟨v, r ++ ws, rfl, n, h1, RepAll.append h3 h2⟩
theorem RepAll.drop : ∀ {ds : List PyData} {vs : List V} (n : Nat), RepAll W H Av ds vs → RepAll W H Av (ds.drop n) (vs.drop n)
  | _, _, 0, h => h
  | [], _, n + 1, h => by
    simp only [RepAll] at h
    rw [h]
    simp [RepAll]
  | d :: ds, _, n + 1, h => by
    simp only [RepAll] at h
    obtain ⟨v, r, rfl, _, _, h3⟩ := h
    exact RepAll.drop n h3
theorem RepAll.take : ∀ {ds : List PyData} {vs : List V} (n : Nat), RepAll W H Av ds vs → RepAll W H Av (ds.take n) (vs.take n)
  | _, _, 0, h => by simp [RepAll]
  | [], _, n + 1, h => by
    simp only [RepAll] at h
    rw [h]
    simp [RepAll]
  | d :: ds, _, n + 1, h => by
    simp only [RepAll] at h
    obtain ⟨v, r, rfl, m, h1, h3⟩ := h
    show RepAll W H Av (d :: ds.take n) (v :: r.take n)
    simp only [RepAll]
    exact ⟨v, _, rfl, m, h1, RepAll.take n h3⟩
theorem RepAll.set : ∀ {ds : List PyData} {vs : List V} {d : PyData} {v : V} (j : Nat), RepAll W H Av ds vs → ndD d → Rep W H Av d v → RepAll W H Av (ds.set j d) (vs.set j v)
  | [], _, _, _, _, h, _, _ => by
    simp only [RepAll] at h
    rw [h]
    simp [RepAll]
  | d :: ds, _, _, _, 0, h, n, h0 => by
    simp only [RepAll] at h
    obtain ⟨v, r, rfl, m, h1, h3⟩ := h
    simp only [List.set_cons_zero, RepAll]
    exact ⟨_, _, rfl, n, h0, h3⟩
  | d :: ds, _, _, _, j + 1, h, n, h0 => by
    simp only [RepAll] at h
    obtain ⟨v, r, rfl, m, h1, h3⟩ := h
    simp only [List.set_cons_succ, RepAll]
    exact ⟨_, _, rfl, m, h1, RepAll.set j h3 n h0⟩
theorem RepAll.one {d : PyData} {v : V} (n : ndD d) (h : Rep W H Av d v) : RepAll W H Av [d] [v] := by
  simp only [RepAll]
  exact ⟨v, [], rfl, n, h, rfl⟩
theorem RepAll.cons {d : PyData} {v : V} {ds : List PyData} {vs : List V} (n : ndD d) (h : Rep W H Av d v) (h2 : RepAll W H Av ds vs) : RepAll W H Av (d :: ds) (v :: vs) := by
  simp only [RepAll]
  exact ⟨v, vs, rfl, n, h, h2⟩
end
/-- a list of one's own: nobody else holds it -/
def OwnAt (W : Wd) (H : Hp) (Av : Addr → Prop) : PyData → Addr → Prop
  | .list ds, a => ∃ vs, H a = some (.lst vs) ∧ vs.length ≤ sizeLine ∧ RepAll W H Av ds vs
  | _, _ => False
theorem OwnAt.tr {W : Wd} {H H' : Hp} {Av Av' : Addr → Prop} (t : Tr H H' Av Av') {d : PyData} {a : Addr} (h : OwnAt W H Av d a) (k : ∀ o, H a = some o → H' a = some o) : OwnAt W H' Av' d a := by
  cases d with
  | list ds =>
    obtain ⟨vs, e, z, r⟩ := h
    exact ⟨vs, k _ e, z, r.tr t⟩
  | _ => exact h
theorem OwnAt.some {W : Wd} {H : Hp} {Av : Addr → Prop} {d : PyData} {a : Addr} (h : OwnAt W H Av d a) : H a ≠ none := by
  cases d with
  | list ds =>
    obtain ⟨vs, e, _⟩ := h
    rw [e]
    simp
  | _ => exact False.elim h
/-- what may be read -/
def Rb (W : Wd) (H : Hp) (Av : Addr → Prop) (d : PyData) (v : V) : Prop := Rep W H Av d v ∨ ∃ a, v = .ref a ∧ OwnAt W H Av d a
/-! ### slots -/
def Owns (env : Env) (σ : St) (i : Nat) (a : Addr) : Prop := ∃ d k, env[i]? = some (some (d, k)) ∧ k ≠ Own.sh ∧ σ[i]? = some (some (.ref a))
def Ownd (env : Env) (σ : St) (a : Addr) : Prop := ∃ i, Owns env σ i a
def Av (T : Addr → Prop) (env : Env) (σ : St) : Addr → Prop := fun a => T a ∨ Ownd env σ a
def SlotOk (W : Wd) (H : Hp) (A : Addr → Prop) (d : PyData) (k : Own) (v : V) : Prop :=
  match k with
  | .sh => Rep W H A d v
  | _ => ∃ a, v = .ref a ∧ OwnAt W H A d a
structure Rel (W : Wd) (T : Addr → Prop) (env : Env) (σ : St) (H : Hp) : Prop where
  len : env.length = σ.length
  slot : ∀ (i : Nat) (d : PyData) (k : Own), env[i]? = some (some (d, k)) → ∃ v, σ[i]? = some (some v) ∧ SlotOk W H (Av T env σ) d k v
  inj : ∀ (i j : Nat) (a : Addr), Owns env σ i a → Owns env σ j a → i = j
  prot : ∀ (a : Addr), T a → ¬ Ownd env σ a ∧ H a ≠ none
/-- by reference, or walked by a loop: stays -/
def Fixd (k : Own) : Prop := k = .rf ∨ k = .ln
structure Step (env : Env) (σ : St) (H : Hp) (env' : Env) (σ' : St) (H' : Hp) : Prop where
  keep : ∀ a o, H a = some o → ¬ Ownd env σ a → H' a = some o
  own : ∀ a, Ownd env' σ' a → Ownd env σ a ∨ H a = none
  dom : ∀ a, H a ≠ none → H' a ≠ none
  fix : ∀ (i : Nat) (d : PyData) (k : Own), Fixd k → env[i]? = some (some (d, k)) → ∃ d', env'[i]? = some (some (d', k)) ∧ σ'[i]? = σ[i]? ∧ (k = .ln → d' = d)
theorem Step.refl {env : Env} {σ : St} {H : Hp} : Step env σ H env σ H :=
  ⟨fun _ _ e _ => e, fun _ h => .inl h, fun _ h => h, fun i d k _ e => ⟨d, e, rfl, fun _ => rfl⟩⟩
theorem Step.trans {env env1 env2 : Env} {σ σ1 σ2 : St} {H H1 H2 : Hp} (a : Step env σ H env1 σ1 H1) (b : Step env1 σ1 H1 env2 σ2 H2) : Step env σ H env2 σ2 H2 := by
  refine ⟨fun p o e n => ?_, fun p h => ?_, fun p h => b.dom p (a.dom p h), fun i d k hk e => ?_⟩
  · refine b.keep p o (a.keep p o e n) fun q => ?_
    rcases a.own p q with q | q
    · exact n q
    · rw [e] at q; cases q
  · rcases b.own p h with q | q
    · exact a.own p q
    · by_cases z : H p = none
      · exact .inr z
      · exact absurd q (a.dom p z)
  · obtain ⟨d1, e1, s1, l1⟩ := a.fix i d k hk e
    obtain ⟨d2, e2, s2, l2⟩ := b.fix i d1 k hk e1
    exact ⟨d2, e2, s2.trans s1, fun z => (l2 z).trans (l1 z)⟩
theorem Step.same {env : Env} {σ : St} {H H' : Hp} (s : Same H H') : Step env σ H env σ H' :=
  ⟨fun a o e _ => s a o e, fun _ h => .inl h, fun a h => by
    cases q : H a with
    | none => exact absurd q h
    | some o => rw [s a o q]; simp, fun i d k _ e => ⟨d, e, rfl, fun _ => rfl⟩⟩
section
variable {W : Wd} {T T' : Addr → Prop} {env env' : Env} {σ σ' : St} {H H' : Hp}
theorem Step.tr (s : Step env σ H env' σ' H') (hT : ∀ a, T' a → T a ∨ H a = none) : Tr H H' (Av T env σ) (Av T' env' σ') :=
  ⟨fun a o n e => s.keep a o e fun q => n (.inr q), fun a n e q => by
    rcases q with q | q
    · rcases hT a q with z | z
      · exact n (.inl z)
      · exact e z
    · rcases s.own a q with z | z
      · exact n (.inr z)
      · exact e z⟩
theorem Same.tr {A : Addr → Prop} (s : Same H H') : Tr H H' A A := ⟨fun a o _ e => s a o e, fun a n _ => n⟩
/-- with one new place that is kept apart -/
theorem Same.tr1 {A : Addr → Prop} {p : Addr} (s : Same H H') (hp : H p = none) : Tr H H' A (fun b => A b ∨ b = p) := ⟨fun a o _ e => s a o e, fun a n e q => by
  rcases q with q | q
  · exact n q
  · rw [q] at e; exact e hp⟩
theorem SlotOk.tr {A A' : Addr → Prop} (t : Tr H H' A A') {d : PyData} {k : Own} {v : V} (h : SlotOk W H A d k v) (hk : ∀ a, v = .ref a → k ≠ .sh → ∀ o, H a = some o → H' a = some o) : SlotOk W H' A' d k v := by
  cases k with
  | sh => exact Rep.tr (W := W) t h
  | ow =>
    obtain ⟨a, e, o⟩ := h
    exact ⟨a, e, o.tr t (hk a e (by decide))⟩
  | rf =>
    obtain ⟨a, e, o⟩ := h
    exact ⟨a, e, o.tr t (hk a e (by decide))⟩
  | ln =>
    obtain ⟨a, e, o⟩ := h
    exact ⟨a, e, o.tr t (hk a e (by decide))⟩
theorem Rel.same (R : Rel W T env σ H) (s : Same H H') : Rel W T env σ H' :=
  ⟨R.len, fun i d k e => by
    obtain ⟨v, h1, h2⟩ := R.slot i d k e
    exact ⟨v, h1, h2.tr (Same.tr s) fun a _ _ o q => s a o q⟩, R.inj, fun a t => ⟨(R.prot a t).1, (Step.same (env := env) (σ := σ) s).dom a (R.prot a t).2⟩⟩
theorem Rel.av (R : Rel W T env σ H) {a : Addr} (h : Av T env σ a) : H a ≠ none := by
  rcases h with h | ⟨i, d, k, e, hk, es⟩
  · exact (R.prot a h).2
  · obtain ⟨v, h1, h2⟩ := R.slot i d k e
    rw [es] at h1
    have h1 := Option.some.inj (Option.some.inj h1)
    subst h1
    cases k with
    | sh => exact absurd rfl hk
    | ow => obtain ⟨b, eb, o⟩ := h2; cases eb; exact o.some
    | rf => obtain ⟨b, eb, o⟩ := h2; cases eb; exact o.some
    | ln => obtain ⟨b, eb, o⟩ := h2; cases eb; exact o.some
/-- fewer places kept apart -/
theorem Rel.less (R : Rel W T env σ H) (h : ∀ a, T' a → T a) : Rel W T' env σ H :=
  ⟨R.len, fun i d k e => by
    obtain ⟨v, h1, h2⟩ := R.slot i d k e
    refine ⟨v, h1, h2.tr ⟨fun a o _ e => e, fun a n _ q => n (q.elim (fun z => .inl (h a z)) .inr)⟩ fun a _ _ o q => q⟩, R.inj, fun a t => R.prot a (h a t)⟩
/-- a new place kept apart -/
theorem Rel.more (R : Rel W T env σ H) {p : Addr} (s : Same H H') (hp : H p = none) (hp' : H' p ≠ none) : Rel W (fun b => T b ∨ b = p) env σ H' := by
  refine ⟨R.len, fun i d k e => ?_, R.inj, fun a t => ?_⟩
  · obtain ⟨v, h1, h2⟩ := R.slot i d k e
    refine ⟨v, h1, h2.tr ⟨fun a o _ e => s a o e, fun a n e q => ?_⟩ fun a _ _ o q => s a o q⟩
    rcases q with (q | q) | q
    · exact n (.inl q)
    · rw [q] at e; exact e hp
    · exact n (.inr q)
  · rcases t with t | t
    · exact ⟨(R.prot a t).1, (Step.same (env := env) (σ := σ) s).dom a (R.prot a t).2⟩
    · subst t
      exact ⟨fun q => R.av (T := T) (.inr q) hp, hp'⟩
end
/-! ### an expression's value -/
def Tw (T : Addr → Prop) : EV → V → Addr → Prop
  | .va _ true, v => fun a => T a ∨ v = .ref a
  | _, _ => T
def VOk (W : Wd) (T : Addr → Prop) (H0 H : Hp) (env : Env) (σ : St) : EV → V → Prop
  | .va d false, v => Rep W H (Av T env σ) d v
  | .va d true, v => ∃ a, v = .ref a ∧ ¬ T a ∧ H0 a = none ∧ OwnAt W H (fun b => Av T env σ b ∨ b = a) d a
  | .sl i, v => σ[i]? = some (some v)
theorem Tw_sub {T : Addr → Prop} {w : EV} {v : V} {a : Addr} (h : T a) : Tw T w v a := by
  cases w with
  | va d fr => cases fr with
    | false => exact h
    | true => exact .inl h
  | sl i => exact h
end M
/-! M, fourth part: operators and built-ins, by data. -/
namespace M
open PySem L2 PyProof.Rows
/-- the outcome of an operation: shared data, or a new list of one's own -/
def ResV (W : Wd) (H H' : Hp) (A : Addr → Prop) (d : PyData) : Bool → V → Prop
  | false, v => Rep W H' A d v
  | true, v => ∃ a, v = .ref a ∧ H a = none ∧ OwnAt W H' (fun b => A b ∨ b = a) d a
def AvOk (H : Hp) (A : Addr → Prop) : Prop := ∀ a, A a → H a ≠ none
section
variable {W : Wd} {H H' : Hp} {A : Addr → Prop} {d : PyData} {v : V}
theorem Rb.int {i : Int} (h : Rb W H A (.int i) v) : v = .int i := by
  rcases h with h | ⟨a, _, h⟩
  · simpa only [Rep] using h
  · exact False.elim h
theorem Rb.str {x : Str} (h : Rb W H A (.str x) v) : v = .str x ∧ PyData.strOk x = true ∧ x.length ≤ sizeLine := by
  rcases h with h | ⟨a, _, h⟩
  · simpa only [Rep] using h
  · exact False.elim h
theorem Rb.bool {b : Bool} (h : Rb W H A (.bool b) v) : v = .bl b := by
  rcases h with h | ⟨a, _, h⟩
  · simpa only [Rep] using h
  · exact False.elim h
theorem Rb.non (h : Rb W H A .none v) : v = .non := by
  rcases h with h | ⟨a, _, h⟩
  · simpa only [Rep] using h
  · exact False.elim h
theorem Rb.list {ds : List PyData} (h : Rb W H A (.list ds) v) : ∃ a vs, v = .ref a ∧ SqL W.K H a vs ∧ vs.length ≤ sizeLine ∧ RepAll W H A ds vs := by
  rcases h with h | ⟨a, e, h⟩
  · simp only [Rep] at h
    obtain ⟨a, vs, e, l, z, r⟩ := h
    exact ⟨a, vs, e, l.sq, z, r⟩
  · obtain ⟨vs, e2, z, r⟩ := h
    exact ⟨a, vs, e, SqL.of e2, z, r⟩
theorem Rb.tuple {ds : List PyData} (h : Rb W H A (.tuple ds) v) : ∃ a vs, v = .ref a ∧ TpA W.K H A a vs ∧ vs.length ≤ sizeLine ∧ RepAll W H A ds vs := by
  rcases h with h | ⟨a, e, h⟩
  · simpa only [Rep] using h
  · exact False.elim h
theorem Rb.dict {kvs : List (PyData × PyData)} (h : Rb W H A (.dict kvs) v) : ∃ a, v = .ref a ∧ W.DK a kvs := by
  rcases h with h | ⟨a, e, h⟩
  · simpa only [Rep] using h
  · exact False.elim h
theorem Rb.tr {A' : Addr → Prop} (t : Tr H H' A A') (h : Rep W H A d v) : Rb W H' A' d v := .inl (Rep.tr t h)
/-! ### as the library's data -/
mutual
theorem Rep.dp : ∀ {d : PyData} {v : V}, ndD d → Rep W H A d v → Dp W.K H v d ∧ d.canLay0 = true
  | .none, _, _, h => by
    simp only [Rep] at h
    subst h
    exact ⟨.non, rfl⟩
  | .bool b, _, _, h => by
    simp only [Rep] at h
    subst h
    exact ⟨.bl b, rfl⟩
  | .int b, _, _, h => by
    simp only [Rep] at h
    subst h
    exact ⟨.int b, rfl⟩
  | .str x, _, _, h => by
    simp only [Rep] at h
    obtain ⟨rfl, h, _⟩ := h
    exact ⟨.str x, by simpa only [PyData.canLay0] using h⟩
  | .list ds, _, _, h => by
    simp only [Rep] at h
    obtain ⟨a, vs, rfl, l, _, r⟩ := h
    obtain ⟨h1, h2⟩ := RepAll.dp r
    exact ⟨.lst l.sq h1, by simpa only [PyData.canLay0] using h2⟩
  | .tuple ds, _, _, h => by
    simp only [Rep] at h
    obtain ⟨a, vs, rfl, l, _, r⟩ := h
    obtain ⟨h1, h2⟩ := RepAll.dp r
    exact ⟨.tup l.sq h1, by simpa only [PyData.canLay0] using h2⟩
  | .dict _, _, n, _ => False.elim (by simpa only [ndD] using n)
theorem RepAll.dp : ∀ {ds : List PyData} {vs : List V}, RepAll W H A ds vs → DpAll W.K H vs ds ∧ PyData.canLayAll0 ds = true
  | [], _, h => by
    simp only [RepAll] at h
    subst h
    exact ⟨.nil, rfl⟩
  | d :: ds, _, h => by
    simp only [RepAll] at h
    obtain ⟨v, r, rfl, n, h1, h2⟩ := h
    obtain ⟨q1, q2⟩ := Rep.dp n h1
    obtain ⟨q3, q4⟩ := RepAll.dp h2
    exact ⟨.cons q1 q3, by simp only [PyData.canLayAll0, q2, q4, Bool.and_self]⟩
end
theorem Rb.dp (n : ndD d) (h : Rb W H A d v) : Dp W.K H v d ∧ d.canLay0 = true := by
  rcases h with h | ⟨a, rfl, h⟩
  · exact Rep.dp n h
  · cases d with
    | list ds =>
      obtain ⟨vs, e2, z, r⟩ := h
      obtain ⟨h1, h2⟩ := RepAll.dp r
      exact ⟨.lst (SqL.of e2) h1, by simpa only [PyData.canLay0] using h2⟩
    | _ => exact False.elim h
theorem same_upd {p : Addr} {o : HO} (h : H p = none) : Same H (upd H p o) := fun b x e => by
  rw [upd_ne (ne_of_none e h)]
  exact e
/-- a new tuple -/
theorem new_tup (hA : AvOk H A) {p : Addr} {ds : List PyData} {vs : List V} (hp : H p = none) (hz : vs.length ≤ sizeLine) (r : RepAll W H A ds vs) : Rep W (upd H p (.tup vs)) A (.tuple ds) (.ref p) := by
  simp only [Rep]
  exact ⟨p, vs, rfl, .inl ⟨fun q => hA p q hp, .inl upd_same⟩, hz, r.tr (Same.tr (same_upd hp))⟩
/-- a new list -/
theorem new_lst {p : Addr} {ds : List PyData} {vs : List V} (hp : H p = none) (hz : vs.length ≤ sizeLine) (r : RepAll W H A ds vs) : ResV W H (upd H p (.lst vs)) A (.list ds) true (.ref p) :=
  ⟨p, rfl, hp, vs, upd_same, hz, r.tr (Same.tr1 (same_upd hp) hp)⟩
theorem RepAll.ints : ∀ {ds : List PyData} {vs : List V} {ns : List Int}, RepAll W H A ds vs → intsD ds = some ns → vs = ns.map V.int
  | [], _, _, h, e => by
    simp only [RepAll] at h
    subst h
    cases e
    rfl
  | d :: ds, _, ns, h, e => by
    simp only [RepAll] at h
    obtain ⟨v, r, rfl, n, h1, h2⟩ := h
    cases d with
    | int i =>
      simp only [intsD] at e
      cases q : intsD ds with
      | none => rw [q] at e; cases e
      | some ms =>
        rw [q] at e
        cases e
        simp only [Rep] at h1
        rw [h1, RepAll.ints h2 q]
        rfl
    | _ => simp [intsD] at e
theorem RepAll.bools : ∀ {ds : List PyData} {vs : List V} {ns : List Bool}, RepAll W H A ds vs → boolsD ds = some ns → vs = ns.map V.bl
  | [], _, _, h, e => by
    simp only [RepAll] at h
    subst h
    cases e
    rfl
  | d :: ds, _, ns, h, e => by
    simp only [RepAll] at h
    obtain ⟨v, r, rfl, n, h1, h2⟩ := h
    cases d with
    | bool i =>
      simp only [boolsD] at e
      cases q : boolsD ds with
      | none => rw [q] at e; cases e
      | some ms =>
        rw [q] at e
        cases e
        simp only [Rep] at h1
        rw [h1, RepAll.bools h2 q]
        rfl
    | _ => simp [boolsD] at e
end
section
variable {X : Cx} {W : Wd}
/-! ### list + list, whatever holds them -/
theorem op_catL : OpR X (binaryOp .Add) (fun x y H Q => ∃ l b xs zs, x = .ref l ∧ y = .ref b ∧ SqL X.K H l xs ∧ SqL X.K H b zs ∧ xs.length + zs.length ≤ sizeLine ∧ ∀ p, H p = none → Q (.ref p) (upd H p (.lst (xs ++ zs)))) := by
  intro pins s σ H x y v u Q I rx ry h
  obtain ⟨l, b, xs, zs, rfl, rfl, hH, hB, hz, q⟩ := h
  cases rx
  cases ry
  obtain ⟨its, r, ⟨⟨cls, dd, data, sl⟩, n, ho, hc, hdn, hd⟩, z⟩ := I.list hH
  obtain ⟨its2, r2, ⟨⟨cls2, dd2, data2, sl2⟩, n2, ho2, hc2, hdn2, hd2⟩, z2⟩ := I.list hB
  simp only at hc hd hc2 hd2
  subst hc hd hc2 hd2
  have e : its.toArray ++ its2.toArray = (its ++ its2).toArray := by simp
  have hl := r.length
  have hl2 := r2.length
  refine concat_meets ⟨_, ho, rfl⟩ ⟨_, ho2, rfl⟩ noFill_list_add seq_list_add PySem.F.slot_list_add PySem.F.entry_list_add (PySem.F.args_list_add_2 _ _) (list_addW l b its.toArray its2.toArray n n2 dd dd2 sl sl2 (by simp only [List.size_toArray]; omega)) ⟨ho, ho2, ?_⟩
  rw [e]
  exact ⟨.ref _, _, I.lnew (t' := s.toks) (r.append r2) (by rw [List.length_append]; omega), rfl, q _ I.fresh⟩
def rBin (W : Wd) (op : Operator) : R2 := fun x y H Q => ∃ A d e p, AvOk H A ∧ Rb W H A d x ∧ Rb W H A e y ∧ binD op d e = some p ∧ ∀ v H', Same H H' → ResV W H H' A p.1 p.2 v → Q v H'
theorem strOk_append {x y : Str} (hx : PyData.strOk x = true) (hy : PyData.strOk y = true) : PyData.strOk (x ++ y) = true := by
  unfold PyData.strOk at *
  show (x.cps ++ y.cps).all _ = true
  rw [Array.all_append, hx, hy]
  rfl
theorem str_len_append (x y : Str) : (x ++ y).length = x.length + y.length := by
  show (x.cps ++ y.cps).size = _
  exact Array.size_append
theorem op_bin (hK : W.K = X.K) (op : Operator) : OpR X (binaryOp op) (rBin W op) := by
  intro pins s σ H x y v u Q I rx ry h
  obtain ⟨A, d, e, p, hA, hd, he, hp, q⟩ := h
  have q0 : ∀ (g : PyData) (z : V), p = (g, false) → Rep W H A g z → Q z H := fun g z e r => by
    subst e
    exact q z H (Same.refl H) r
  cases op <;> cases d <;> cases e <;> simp only [binD, reduceCtorEq] at hp
  case Add.int.int i j =>
    cases hp
    exact op_add pins s σ H x y v u Q I rx ry ⟨i, j, hd.int, he.int, q0 _ _ rfl (by simp only [Rep])⟩
  case Add.str.str i j =>
    split at hp
    · rename_i hz
      cases hp
      obtain ⟨e1, s1, l1⟩ := hd.str
      obtain ⟨e2, s2, l2⟩ := he.str
      exact op_add_str pins s σ H x y v u Q I rx ry ⟨i, j, e1, e2, hz, q0 _ _ rfl (by simp only [Rep]; exact ⟨trivial, strOk_append s1 s2, by rw [str_len_append]; exact hz⟩)⟩
    · cases hp
  case Add.list.list ds es =>
    split at hp
    · rename_i hz
      cases hp
      obtain ⟨a, vs, e1, s1, l1, r1⟩ := hd.list
      obtain ⟨b, ws, e2, s2, l2, r2⟩ := he.list
      rw [hK] at s1 s2
      have hl : (vs ++ ws).length ≤ sizeLine := by rw [List.length_append, r1.length, r2.length]; exact hz
      exact op_catL pins s σ H x y v u Q I rx ry ⟨a, b, vs, ws, e1, e2, s1, s2, by rw [List.length_append] at hl; exact hl, fun p hp => q _ _ (same_upd hp) (new_lst hp hl (r1.append r2))⟩
    · cases hp
  case Add.tuple.tuple ds es =>
    split at hp
    · rename_i hz
      cases hp
      obtain ⟨a, vs, e1, s1, l1, r1⟩ := hd.tuple
      obtain ⟨b, ws, e2, s2, l2, r2⟩ := he.tuple
      have t1 := s1.sq
      have t2 := s2.sq
      rw [hK] at t1 t2
      have hl : (vs ++ ws).length ≤ sizeLine := by rw [List.length_append, r1.length, r2.length]; exact hz
      have n1 := r1.length
      have n2 := r2.length
      refine op_catA pins s σ H x y v u Q I rx ry ⟨a, b, vs, ws, e1, e2, t1, t2, by rw [List.length_append] at hl; exact hl, fun z => ?_, fun _ z => ?_, fun _ _ p hp => ?_⟩
      · subst z
        have : ds = [] := List.length_eq_zero_iff.mp n1.symm
        subst this
        exact q0 _ _ rfl (by simp only [Rep]; exact ⟨b, ws, rfl, s2, l2, r2⟩)
      · subst z
        have : es = [] := List.length_eq_zero_iff.mp n2.symm
        subst this
        exact q0 _ _ rfl (by simp only [Rep, List.append_nil]; exact ⟨a, vs, rfl, s1, l1, r1⟩)
      · exact q _ _ (same_upd hp) (new_tup hA hp hl (r1.append r2))
    · cases hp
  case Sub.int.int i j =>
    cases hp
    exact op_sub pins s σ H x y v u Q I rx ry ⟨i, j, hd.int, he.int, q0 _ _ rfl (by simp only [Rep])⟩
  case Mult.int.int i j =>
    split at hp
    · rename_i hz
      cases hp
      unfold mulOk at hz
      rcases of_decide_eq_true hz with hz | hz
      · exact op_mul pins s σ H x y v u Q I rx ry ⟨i, j, hd.int, he.int, hz, q0 _ _ rfl (by simp only [Rep])⟩
      · exact op_mulW pins s σ H x y v u Q I rx ry ⟨i, j, hd.int, he.int, hz, q0 _ _ rfl (by simp only [Rep])⟩
    · cases hp
  case Mod.int.int i j =>
    split at hp
    · rename_i hz
      cases hp
      exact op_mod pins s σ H x y v u Q I rx ry ⟨i, j, hd.int, he.int, hz, q0 _ _ rfl (by simp only [Rep])⟩
    · cases hp
  case Pow.int.int i j =>
    split at hp
    · rename_i hz
      cases hp
      exact op_pow pins s σ H x y v u Q I rx ry ⟨i, j, hd.int, he.int, hz, q0 _ _ rfl (by simp only [Rep])⟩
    · cases hp
  case FloorDiv.int.int i j =>
    split at hp
    · rename_i hz
      cases hp
      exact op_fdiv pins s σ H x y v u Q I rx ry ⟨i, j, hd.int, he.int, hz, q0 _ _ rfl (by simp only [Rep])⟩
    · cases hp
end
end M
namespace M
open PySem L2 PyProof.Rows
theorem ndB_iff {d : PyData} (h : ndB d = true) : ndD d := by
  cases d with
  | dict _ => cases h
  | _ => simp only [ndD]
/-- a table of the text with text keys, its values ints -/
structure DKp (X : Cx) (a : Addr) (kvs : List (PyData × PyData)) : Prop where
  kd : ∃ es n, KDict X.K X.w a es n
  look : ∀ z : Str, (∃ p u i, kvs.find? (fun p => PyData.eqv p.1 (.str z)) = some p ∧ PySem.W.nsIn X.K a z = some (some u) ∧ p.2 = .int i ∧ RelV (.int i) u) ∨ (kvs.find? (fun p => PyData.eqv p.1 (.str z)) = none ∧ PySem.W.nsIn X.K a z = some none)
section
variable {X : Cx} {W : Wd}
def rCmp (W : Wd) (op : CmpOp) : R2 := fun x y H Q => ∃ A d e k, Rb W H A d x ∧ Rb W H A e y ∧ cmpD op d e = some k ∧ Q (.bl k) H
theorem depth_list (ds : List PyData) : PyData.depth (.list ds) = PyData.depthAll ds + 1 := by simp only [PyData.depth]
def isNon : PyData → Bool
  | .none => true
  | _ => false
theorem any_find {α : Type} (p : α → Bool) : ∀ l : List α, l.any p = (l.find? p).isSome
  | [] => rfl
  | x :: r => by
    rw [List.any_cons, List.find?_cons]
    cases p x with
    | true => rfl
    | false => rw [Bool.false_or]; exact any_find p r
theorem op_cmp (hK : W.K = X.K) (hD : ∀ a kvs, W.DK a kvs → DKp X a kvs) (hu : X.A.units + 200 < cLine) (op : CmpOp) : OpR X (compareOp op) (rCmp W op) := by
  intro pins s σ H x y v u Q I rx ry h
  obtain ⟨A, d, e, k, hd, he, hp, q⟩ := h
  have reads : ∀ {d : PyData} {x : V} {v : Value}, Rb W H A d x → RelV x v → ndB d = true → ∃ as, Reads s.heap v d as ∧ d.canLay0 = true := fun {d x v} h r n => by
    obtain ⟨h1, h2⟩ := h.dp (ndB_iff n)
    rw [hK] at h1
    obtain ⟨as, h3⟩ := Dp.reads I d x v h1 r
    exact ⟨as, h3, h2⟩
  have eqs : eqOk d e = true → ndB d = true ∧ ndB e = true ∧ X.A.units + min d.depth e.depth < cLine := fun z => by
    unfold eqOk at z
    simp only [Bool.and_eq_true, decide_eq_true_eq] at z
    obtain ⟨z1, z2, z3⟩ := z
    refine ⟨z1, z2, ?_⟩
    have := Nat.min_le_left d.depth e.depth
    have := Nat.min_le_right d.depth e.depth
    omega
  have nonAll : ∀ {d : PyData} {x : V}, Rb W H A d x → (decide (x = V.non) = isNon d) := fun {d x} h => by
    cases d with
    | none => rw [h.non]; rfl
    | bool b => rw [h.bool]; rfl
    | int b => rw [h.int]; rfl
    | str b => rw [h.str.1]; rfl
    | list b => obtain ⟨a, _, rfl, _⟩ := h.list; rfl
    | tuple b => obtain ⟨a, _, rfl, _⟩ := h.tuple; rfl
    | dict b => obtain ⟨a, rfl, _⟩ := h.dict; rfl
  cases op with
  | Eq =>
    simp only [cmpD] at hp
    split at hp
    · rename_i z
      cases hp
      obtain ⟨z1, z2, z3⟩ := eqs z
      obtain ⟨as, r1, c1⟩ := reads hd rx z1
      obtain ⟨bs, r2, c2⟩ := reads he ry z2
      exact SeqAt.compareEq_reads r1 r2 c1 c2 z3 ⟨.bl _, H, I, rfl, q⟩
    · cases hp
  | NotEq =>
    simp only [cmpD] at hp
    split at hp
    · rename_i z
      cases hp
      obtain ⟨z1, z2, z3⟩ := eqs z
      obtain ⟨as, r1, c1⟩ := reads hd rx z1
      obtain ⟨bs, r2, c2⟩ := reads he ry z2
      exact SeqAt.compareNe_reads r1 r2 c1 c2 z3 ⟨.bl _, H, I, rfl, q⟩
    · cases hp
  | Lt =>
    cases d <;> cases e <;> simp only [cmpD, reduceCtorEq] at hp
    cases hp
    exact op_lt pins s σ H x y v u Q I rx ry ⟨_, _, hd.int, he.int, q⟩
  | LtE =>
    cases d <;> cases e <;> simp only [cmpD, reduceCtorEq] at hp
    cases hp
    exact op_le pins s σ H x y v u Q I rx ry ⟨_, _, hd.int, he.int, q⟩
  | Gt =>
    cases d <;> cases e <;> simp only [cmpD, reduceCtorEq] at hp
    cases hp
    exact op_gt pins s σ H x y v u Q I rx ry ⟨_, _, hd.int, he.int, q⟩
  | GtE =>
    cases d <;> cases e <;> simp only [cmpD, reduceCtorEq] at hp
    cases hp
    exact op_ge pins s σ H x y v u Q I rx ry ⟨_, _, hd.int, he.int, q⟩
  | Is =>
    have e1 : e = .none ∧ k = isNon d := by
      cases d <;> cases e <;> simp only [cmpD, reduceCtorEq] at hp <;> cases hp <;> exact ⟨rfl, rfl⟩
    obtain ⟨rfl, rfl⟩ := e1
    refine op_isN pins s σ H x y v u Q I rx ry ⟨he.non, ?_⟩
    rw [nonAll hd]
    exact q
  | IsNot =>
    have e1 : e = .none ∧ k = !isNon d := by
      cases d <;> cases e <;> simp only [cmpD, reduceCtorEq] at hp <;> cases hp <;> exact ⟨rfl, rfl⟩
    obtain ⟨rfl, rfl⟩ := e1
    refine op_notN pins s σ H x y v u Q I rx ry ⟨he.non, ?_⟩
    rw [nonAll hd]
    exact q
  | In =>
    cases e with
    | list ds =>
      have hp' : (if ndB d = true ∧ d.depth ≤ 64 then some (ds.any fun z => PyData.eqv z d) else none) = some k := by
        rw [← hp]; cases d <;> rfl
      split at hp'
      · rename_i z
        cases hp'
        obtain ⟨as, r1, c1⟩ := reads hd rx z.1
        obtain ⟨bs, r2, c2⟩ := reads he ry rfl
        have hm : X.A.units + 1 + min (PyData.depthAll ds) d.depth < cLine := by
          have := Nat.min_le_right (PyData.depthAll ds) d.depth
          omega
        exact SeqAt.in_list_reads r2 r1 c2 c1 hm ⟨.bl _, H, I, rfl, q⟩
      · cases hp'
    | dict kvs =>
      cases d with
      | str z =>
        simp only [cmpD] at hp
        cases hp
        obtain ⟨a, rfl, ha⟩ := he.dict
        obtain ⟨⟨es, n, kd⟩, lk⟩ := hD a kvs ha
        rw [any_find] at q
        rcases lk z with ⟨p, u', i, h1, h2, _⟩ | ⟨h1, h2⟩
        · rw [h1] at q
          exact op_in_kd kd pins s σ H x _ v u Q I rx ry ⟨z, some u', hd.str.1, rfl, h2, q⟩
        · rw [h1] at q
          exact op_in_kd kd pins s σ H x _ v u Q I rx ry ⟨z, none, hd.str.1, rfl, h2, q⟩
      | _ => simp [cmpD] at hp
    | _ => cases d <;> simp [cmpD] at hp
  | NotIn =>
    cases e with
    | list ds =>
      have hp' : (if ndB d = true ∧ d.depth ≤ 64 then some (!ds.any fun z => PyData.eqv z d) else none) = some k := by
        rw [← hp]; cases d <;> rfl
      split at hp'
      · rename_i z
        cases hp'
        obtain ⟨as, r1, c1⟩ := reads hd rx z.1
        obtain ⟨bs, r2, c2⟩ := reads he ry rfl
        have hm : X.A.units + 1 + min (PyData.depthAll ds) d.depth < cLine := by
          have := Nat.min_le_right (PyData.depthAll ds) d.depth
          omega
        exact SeqAt.notIn_list_reads r2 r1 c2 c1 hm ⟨.bl _, H, I, rfl, q⟩
      · cases hp'
    | dict kvs =>
      cases d with
      | str z =>
        simp only [cmpD] at hp
        cases hp
        obtain ⟨a, rfl, ha⟩ := he.dict
        obtain ⟨⟨es, n, kd⟩, lk⟩ := hD a kvs ha
        rw [any_find] at q
        rcases lk z with ⟨p, u', i, h1, h2, _⟩ | ⟨h1, h2⟩
        · rw [h1] at q
          exact op_notIn_kd kd pins s σ H x _ v u Q I rx ry ⟨z, some u', hd.str.1, rfl, h2, q⟩
        · rw [h1] at q
          exact op_notIn_kd kd pins s σ H x _ v u Q I rx ry ⟨z, none, hd.str.1, rfl, h2, q⟩
      | _ => simp [cmpD] at hp
    | _ => cases d <;> simp [cmpD] at hp
/-! ### truth -/
theorem isEmpty_of_len {α β : Type} {xs : List α} {ys : List β} (h : xs.length = ys.length) : xs.isEmpty = ys.isEmpty := by
  cases xs <;> cases ys <;> simp_all
theorem truV_of {H : Hp} {A : Addr → Prop} {d : PyData} {x : V} {k : Bool} (h : Rb W H A d x) (e : truD d = some k) : TruV W.K x H k := by
  cases d with
  | none => cases e; rw [h.non]; rfl
  | bool b => cases e; rw [h.bool]; rfl
  | int b => cases e; rw [h.int]; rfl
  | str b =>
    cases e
    obtain ⟨rfl, _, z⟩ := h.str
    exact ⟨z, rfl⟩
  | list b =>
    cases e
    obtain ⟨a, vs, rfl, l, _, r⟩ := h.list
    exact .inl ⟨vs, l, by rw [isEmpty_of_len r.length]⟩
  | tuple b =>
    cases e
    obtain ⟨a, vs, rfl, l, _, r⟩ := h.tuple
    exact .inr (.inl ⟨vs, l.sq, by rw [isEmpty_of_len r.length]⟩)
  | dict b => cases e
/-! ### isinstance -/
def tyN : Ty → String
  | .int => "int"
  | .bool => "bool"
  | .str => "str"
  | .tuple => "tuple"
  | .list => "list"
def dTy : PyData → String
  | .none => "NoneType"
  | .bool _ => "bool"
  | .int _ => "int"
  | .str _ => "str"
  | .list _ => "list"
  | .tuple _ => "tuple"
  | .dict _ => "dict"
theorem kit_all (t : Ty) (d : PyData) : kitB (dTy d) (tyN t) = some (isD t d) := by
  cases t <;> cases d <;> (simp only [dTy, tyN, isD]; decide +kernel)
theorem tyX_of (hK : W.K = X.K) (hD : ∀ a kvs, W.DK a kvs → DKp X a kvs) {H : Hp} {A : Addr → Prop} {d : PyData} {x : V} (h : Rb W H A d x) : TyX X.K H x (.type (dTy d)) := by
  cases d with
  | none => rw [h.non]; exact .base .non
  | bool b => rw [h.bool]; exact .base (.bl b)
  | int b => rw [h.int]; exact .base (.int b)
  | str b => rw [h.str.1]; exact .base (.str b)
  | list b =>
    obtain ⟨a, vs, rfl, l, _, r⟩ := h.list
    rw [hK] at l
    rcases l with (l | ⟨o, l⟩) | ⟨o, its, n, hk, hc, _⟩
    · exact .base (.lst l)
    · exact .base (.frz l)
    · exact .kList hk hc
  | tuple b =>
    obtain ⟨a, vs, rfl, l, _, r⟩ := h.tuple
    have l := l.sq
    rw [hK] at l
    rcases l with (l | ⟨o, l⟩) | ⟨o, its, n, hk, hc, _⟩
    · exact .base (.tup l)
    · exact .fTuple l
    · exact .kTuple hk hc
  | dict b =>
    obtain ⟨a, rfl, ha⟩ := h.dict
    obtain ⟨⟨es, n, kd⟩, _⟩ := hD a b ha
    exact .kDict kd.at_ rfl
def rIsiM (W : Wd) (t : Ty) : List V → Hp → VK → Prop := fun xs H Q => ∃ A d x, xs = [x, .ty (tyN t)] ∧ Rb W H A d x ∧ Q (.bl (isD t d)) H
theorem call_isiM (hK : W.K = X.K) (hD : ∀ a kvs, W.DK a kvs → DKp X a kvs) (t : Ty) : CallR X (.builtin "isinstance") (rIsiM W t) := by
  intro pins s σ H xs us Q I r h
  obtain ⟨A, d, x, rfl, hx, q⟩ := h
  exact call_isi pins s σ H _ us Q I r ⟨x, .ty (tyN t), .type (dTy d), .type (tyN t), isD t d, rfl, .ty _, tyX_of hK hD hx, kit_ty (kit_all t d), q⟩
/-! ### subscripts -/
theorem atI_rep {H : Hp} {A : Addr → Prop} {ds : List PyData} {vs : List V} {i : Int} {g : PyData} (r : RepAll W H A ds vs) (h : atI ds i = some g) : ∃ v, atI vs i = some v ∧ ndD g ∧ Rep W H A g v := by
  unfold atI at h ⊢
  rw [r.length]
  cases e : ixN ds.length i with
  | none => rw [e] at h; cases h
  | some j =>
    rw [e] at h
    exact r.get h
def rSubM (W : Wd) : R2 := fun x y H Q => ∃ A d e g, Rb W H A d x ∧ Rb W H A e y ∧ subD d e = some g ∧ ∀ v, Rep W H A g v → Q v H
theorem ix_sub (hK : W.K = X.K) (hD : ∀ a kvs, W.DK a kvs → DKp X a kvs) : IxR X (rSubM W) := by
  intro value slice pins s σ H x y v u Q I rx ry h hs
  obtain ⟨A, d, e, g, hd, he, hg, q⟩ := h
  cases d <;> cases e <;> simp only [subD, reduceCtorEq] at hg
  case list.int ds i =>
    obtain ⟨a, vs, rfl, l, z, r⟩ := hd.list
    rw [hK] at l
    obtain ⟨w, h1, _, h2⟩ := atI_rep r hg
    exact ix_list value slice pins s σ H _ y v u Q I rx ry ⟨a, vs, i, w, rfl, he.int, l, h1, q w h2⟩ hs
  case tuple.int ds i =>
    obtain ⟨a, vs, rfl, l, z, r⟩ := hd.tuple
    have l := l.sq
    rw [hK] at l
    obtain ⟨w, h1, _, h2⟩ := atI_rep r hg
    exact ix_tup value slice pins s σ H _ y v u Q I rx ry ⟨a, vs, i, w, rfl, he.int, l, h1, q w h2⟩ hs
  case dict.str kvs z =>
    obtain ⟨a, rfl, ha⟩ := hd.dict
    obtain ⟨⟨es, n, kd⟩, lk⟩ := hD a kvs ha
    rcases lk z with ⟨p, u', i, h1, h2, h3, h4⟩ | ⟨h1, h2⟩
    · rw [h1] at hg
      cases hg
      have e1 := he.str.1
      subst e1
      cases rx
      obtain ⟨t, rfl⟩ := ry
      exact tail_any (kd_type kd I) slot_dict_getitem.lookup (op_item_kd kd pins s σ H (.ref a) (.str z) _ _ Q I rfl ⟨t, rfl⟩ ⟨z, u', .int i, rfl, rfl, h2, h4, q _ (by show Rep W H A p.2 _; rw [h3]; simp only [Rep])⟩) hs
    · rw [h1] at hg
      cases hg
/-! ### slices -/
theorem cut_rep {H : Hp} {A : Addr → Prop} {ds : List PyData} {vs : List V} (r : RepAll W H A ds vs) (lo hi : Option Int) : RepAll W H A (cutD ds lo hi) (cutV vs lo hi) := by
  unfold cutD cutV
  rw [r.length]
  exact (r.drop _).take _
def rSlM (W : Wd) : V → Option Int → Option Int → Hp → VK → Prop := fun x lo hi H Q => ∃ A d p, AvOk H A ∧ Rb W H A d x ∧ slcD d lo hi = some p ∧ ∀ v H', Same H H' → ResV W H H' A p.1 p.2 v → Q v H'
theorem sl_slc (hK : W.K = X.K) : SlR X (rSlM W) := by
  intro pins s σ H x v vl vu lo hi sl Q I rx hs pl pu h
  obtain ⟨A, d, p, hA, hd, hp, q⟩ := h
  cases d <;> simp only [slcD, reduceCtorEq] at hp
  case list ds =>
    cases hp
    obtain ⟨a, vs, rfl, l, z, r⟩ := hd.list
    rw [hK] at l
    exact sl_list pins s σ H _ v vl vu lo hi sl Q I rx hs pl pu ⟨a, vs, rfl, l, fun p hp => q _ _ (same_upd hp) (new_lst hp (Nat.le_trans (cutV_length vs lo hi) z) (cut_rep r lo hi))⟩
  case tuple ds =>
    cases hp
    obtain ⟨a, vs, rfl, l, z, r⟩ := hd.tuple
    have l' := l.sq
    rw [hK] at l'
    refine sl_tupA pins s σ H _ v vl vu lo hi sl Q I rx hs pl pu ⟨a, vs, rfl, l', fun hw => q _ H (Same.refl H) ?_, fun hw p hp => q _ _ (same_upd hp) (new_tup hA hp (Nat.le_trans (cutV_length vs lo hi) z) (cut_rep r lo hi))⟩
    show Rep W H A (.tuple (cutD ds lo hi)) (.ref a)
    have e : cutD ds lo hi = ds := by
      unfold cutD
      rw [← r.length, hw.1, hw.2, List.drop_zero, Nat.sub_zero, r.length, List.take_length]
    rw [e]
    simp only [Rep]
    exact ⟨a, vs, rfl, l, z, r⟩
end
end M
namespace M
open PySem L2 PyProof.Rows
def RbAll (W : Wd) (H : Hp) (A : Addr → Prop) : List PyData → List V → Prop
  | [], vs => vs = []
  | d :: ds, vs => ∃ v r, vs = v :: r ∧ Rb W H A d v ∧ RbAll W H A ds r
theorem RbAll.one {W : Wd} {H : Hp} {A : Addr → Prop} {d : PyData} {vs : List V} (h : RbAll W H A [d] vs) : ∃ v, vs = [v] ∧ Rb W H A d v := by
  obtain ⟨v, r, rfl, h1, h2⟩ := h
  cases h2
  exact ⟨v, rfl, h1⟩
theorem RbAll.two {W : Wd} {H : Hp} {A : Addr → Prop} {d e : PyData} {vs : List V} (h : RbAll W H A [d, e] vs) : ∃ v w, vs = [v, w] ∧ Rb W H A d v ∧ Rb W H A e w := by
  obtain ⟨v, r, rfl, h1, h2⟩ := h
  obtain ⟨w, rfl, h3⟩ := RbAll.one h2
  exact ⟨v, w, rfl, h1, h3⟩
def bltV : Blt → Value
  | .len => .builtin "len"
  | .abs => .builtin "abs"
  | .sum => .builtin "sum"
  | .all => .builtin "all"
  | .any => .builtin "any"
  | .min1 => .builtin "min"
  | .max1 => .builtin "max"
  | .min2 => .builtin "min"
  | .max2 => .builtin "max"
  | .srt => .builtin "sorted"
  | .lst => .type "list"
  | .tup => .type "tuple"
  | .int => .type "int"
  | .str => .type "str"
  | .repr => .builtin "repr"
  | .sset => .builtin "sorted"
def rBlt (W : Wd) (b : Blt) : List V → Hp → VK → Prop := fun xs H Q => ∃ A ds p, AvOk H A ∧ RbAll W H A ds xs ∧ bltD b ds = some p ∧ ∀ v H', Same H H' → ResV W H H' A p.1 p.2 v → Q v H'
section
variable {X : Cx} {W : Wd}
theorem call_blt (hK : W.K = X.K) (hc : X.calm = true) (b : Blt) (hb : b ≠ .sset) : CallR X (bltV b) (rBlt W b) := by
  intro pins s σ H xs us Q I r h
  obtain ⟨A, ds, p, hA, hx, hp, q⟩ := h
  have q0 : ∀ (g : PyData) (z : V), p = (g, false) → Rep W H A g z → Q z H := fun g z e r => by
    subst e
    exact q z H (Same.refl H) r
  cases b with
  | len =>
    match ds, hp, hx with
    | [.list ys], hp, hx =>
      cases hp
      obtain ⟨v, rfl, hv⟩ := hx.one
      obtain ⟨a, vs, rfl, l, z, rr⟩ := hv.list
      rw [hK] at l
      exact call_len_seq pins s σ H _ us Q I r ⟨a, vs, rfl, .inl l, q0 _ _ rfl (by simp only [Rep]; rw [rr.length])⟩
    | [.tuple ys], hp, hx =>
      cases hp
      obtain ⟨v, rfl, hv⟩ := hx.one
      obtain ⟨a, vs, rfl, l, z, rr⟩ := hv.tuple
      have l := l.sq
      rw [hK] at l
      exact call_len_seq pins s σ H _ us Q I r ⟨a, vs, rfl, .inr l, q0 _ _ rfl (by simp only [Rep]; rw [rr.length])⟩
    | [.str y], hp, hx =>
      cases hp
      obtain ⟨v, rfl, hv⟩ := hx.one
      obtain ⟨rfl, _, z⟩ := hv.str
      exact call_len_str pins s σ H _ us Q I r ⟨y, rfl, z, q0 _ _ rfl (by simp only [Rep])⟩
  | abs =>
    match ds, hp, hx with
    | [.int i], hp, hx =>
      cases hp
      obtain ⟨v, rfl, hv⟩ := hx.one
      exact call_abs pins s σ H _ us Q I r ⟨i, by rw [hv.int], q0 _ _ rfl (by simp only [Rep])⟩
  | sum =>
    match ds, hp, hx with
    | [.list ys], hp, hx =>
      obtain ⟨v, rfl, hv⟩ := hx.one
      obtain ⟨a, vs, rfl, l, z, rr⟩ := hv.list
      rw [hK] at l
      simp only [bltD] at hp
      cases e : intsD ys with
      | none => rw [e] at hp; cases hp
      | some ns =>
        rw [e] at hp
        cases hp
        rw [rr.ints e] at l
        exact cr_sum hc pins s σ H _ us Q I r ⟨a, ns, rfl, l, q0 _ _ rfl (by simp only [Rep])⟩
  | all =>
    match ds, hp, hx with
    | [.list ys], hp, hx =>
      obtain ⟨v, rfl, hv⟩ := hx.one
      obtain ⟨a, vs, rfl, l, z, rr⟩ := hv.list
      rw [hK] at l
      simp only [bltD] at hp
      cases e : boolsD ys with
      | none => rw [e] at hp; cases hp
      | some ns =>
        rw [e] at hp
        cases hp
        rw [rr.bools e] at l
        exact cr_all hc pins s σ H _ us Q I r ⟨a, ns, rfl, l, q0 _ _ rfl (by simp only [Rep])⟩
  | any =>
    match ds, hp, hx with
    | [.list ys], hp, hx =>
      obtain ⟨v, rfl, hv⟩ := hx.one
      obtain ⟨a, vs, rfl, l, z, rr⟩ := hv.list
      rw [hK] at l
      simp only [bltD] at hp
      cases e : boolsD ys with
      | none => rw [e] at hp; cases hp
      | some ns =>
        rw [e] at hp
        cases hp
        rw [rr.bools e] at l
        exact cr_any hc pins s σ H _ us Q I r ⟨a, ns, rfl, l, q0 _ _ rfl (by simp only [Rep])⟩
  | min2 =>
    match ds, hp, hx with
    | [.int i, .int j], hp, hx =>
      cases hp
      obtain ⟨v, w, rfl, h1, h2⟩ := hx.two
      exact call_min2 hc pins s σ H _ us Q I r ⟨i, j, by rw [h1.int, h2.int], q0 _ _ rfl (by simp only [Rep])⟩
  | max2 =>
    match ds, hp, hx with
    | [.int i, .int j], hp, hx =>
      cases hp
      obtain ⟨v, w, rfl, h1, h2⟩ := hx.two
      exact call_max2 hc pins s σ H _ us Q I r ⟨i, j, by rw [h1.int, h2.int], q0 _ _ rfl (by simp only [Rep])⟩
  | lst =>
    match ds, hp, hx with
    | [.list ys], hp, hx =>
      cases hp
      obtain ⟨v, rfl, hv⟩ := hx.one
      obtain ⟨a, vs, rfl, l, z, rr⟩ := hv.list
      rw [hK] at l
      exact call_list_of pins s σ H _ us Q I r ⟨a, vs, rfl, .inl l, fun p hp => q _ _ (same_upd hp) (new_lst hp z rr)⟩
    | [.tuple ys], hp, hx =>
      cases hp
      obtain ⟨v, rfl, hv⟩ := hx.one
      obtain ⟨a, vs, rfl, l, z, rr⟩ := hv.tuple
      have l := l.sq
      rw [hK] at l
      exact call_list_of pins s σ H _ us Q I r ⟨a, vs, rfl, .inr l, fun p hp => q _ _ (same_upd hp) (new_lst hp z rr)⟩
  | tup =>
    match ds, hp, hx with
    | [.list ys], hp, hx =>
      cases hp
      obtain ⟨v, rfl, hv⟩ := hx.one
      obtain ⟨a, vs, rfl, l, z, rr⟩ := hv.list
      rw [hK] at l
      exact call_tuple_of pins s σ H _ us Q I r ⟨a, vs, rfl, .inl ⟨l, fun p hp => q _ _ (same_upd hp) (new_tup hA hp z rr)⟩⟩
    | [.tuple ys], hp, hx =>
      cases hp
      obtain ⟨v, rfl, hv⟩ := hx.one
      obtain ⟨a, vs, rfl, l, z, rr⟩ := hv.tuple
      have l' := l.sq
      rw [hK] at l'
      exact call_tuple_of pins s σ H _ us Q I r ⟨a, vs, rfl, .inr ⟨l', q0 _ _ rfl (by simp only [Rep]; exact ⟨a, vs, rfl, l, z, rr⟩)⟩⟩
  | sset => exact absurd rfl hb
  | _ => simp [bltD] at hp
end
/-! ### sorted(set(..)) of pairs -/
theorem uniq {α : Type} {r : α → α → Prop} (ir : ∀ x, ¬ r x x) (asy : ∀ x y, r x y → ¬ r y x) : ∀ {l m : List α}, l.Pairwise r → m.Pairwise r → (∀ x, x ∈ l ↔ x ∈ m) → l = m
  | [], [], _, _, _ => rfl
  | [], y :: m, _, _, h => absurd ((h y).mpr List.mem_cons_self) (by simp)
  | x :: l, [], _, _, h => absurd ((h x).mp List.mem_cons_self) (by simp)
  | x :: l, y :: m, h1, h2, h => by
    obtain ⟨a1, a2⟩ := List.pairwise_cons.mp h1
    obtain ⟨b1, b2⟩ := List.pairwise_cons.mp h2
    have e : x = y := by
      rcases List.mem_cons.mp ((h x).mp List.mem_cons_self) with e | e
      · exact e
      · rcases List.mem_cons.mp ((h y).mpr List.mem_cons_self) with e' | e'
        · exact e'.symm
        · exact absurd (b1 x e) (asy _ _ (a1 y e'))
    subst e
    congr 1
    refine uniq ir asy a2 b2 fun z => ⟨fun hz => ?_, fun hz => ?_⟩
    · rcases List.mem_cons.mp ((h z).mp (List.mem_cons_of_mem _ hz)) with e | e
      · subst e; exact absurd (a1 z hz) (ir z)
      · exact e
    · rcases List.mem_cons.mp ((h z).mpr (List.mem_cons_of_mem _ hz)) with e | e
      · subst e; exact absurd (b1 z hz) (ir z)
      · exact e
abbrev PLt (p q : Int × Int) : Prop := p.1 < q.1 ∨ (p.1 = q.1 ∧ p.2 < q.2)
theorem pIns_mem (p x : Int × Int) : ∀ l, x ∈ pIns p l ↔ x = p ∨ x ∈ l
  | [] => by simp [pIns]
  | q :: r => by
    unfold pIns
    split
    · simp [List.mem_cons]
    · split
      · rename_i e
        subst e
        simp only [List.mem_cons]
        constructor
        · rintro (e | e)
          · exact .inl e
          · exact .inr (.inr e)
        · rintro (e | e | e)
          · exact .inl e
          · exact .inl e
          · exact .inr e
      · simp only [List.mem_cons, pIns_mem p x r]
        constructor
        · rintro (e | e | e)
          · exact .inr (.inl e)
          · exact .inl e
          · exact .inr (.inr e)
        · rintro (e | e | e)
          · exact .inr (.inl e)
          · exact .inl e
          · exact .inr (.inr e)
theorem pIns_srt (p : Int × Int) : ∀ {l}, l.Pairwise PLt → (pIns p l).Pairwise PLt
  | [], _ => by simp [pIns]
  | q :: r, h => by
    obtain ⟨a1, a2⟩ := List.pairwise_cons.mp h
    unfold pIns
    split
    · rename_i e
      have e : PLt p q := of_decide_eq_true e
      refine List.pairwise_cons.mpr ⟨fun x hx => ?_, h⟩
      rcases List.mem_cons.mp hx with z | z
      · subst z; exact e
      · have := a1 x z
        simp only [PLt] at *
        omega
    · rename_i e
      have e : ¬ PLt p q := fun z => e (decide_eq_true z)
      split
      · exact h
      · rename_i n
        refine List.pairwise_cons.mpr ⟨fun x hx => ?_, pIns_srt p a2⟩
        rcases (pIns_mem p x r).mp hx with z | z
        · subst z
          simp only [PLt] at *
          have : ¬ (x.1 = q.1 ∧ x.2 = q.2) := fun z => n (Prod.ext z.1 z.2)
          omega
        · exact a1 x z
theorem pSort_mem (x : Int × Int) : ∀ l, x ∈ pSort l ↔ x ∈ l
  | [] => by simp [pSort]
  | p :: r => by
    unfold pSort
    rw [pIns_mem, pSort_mem x r, List.mem_cons]
theorem pSort_srt : ∀ l, (pSort l).Pairwise PLt
  | [] => by simp [pSort]
  | p :: r => pIns_srt p (pSort_srt r)
def lp (p : Int × Int) : List Int := [p.1, p.2]
theorem lp_inj {p q : Int × Int} (h : lp p = lp q) : p = q := by
  unfold lp at h
  injection h with h1 h2
  injection h2 with h2 _
  exact Prod.ext h1 h2
/-- a bound of all numbers in pairs -/
def pMax : List (Int × Int) → Int
  | [] => 1
  | p :: r => max (max p.1 p.2) (pMax r) + 1
theorem pMax_pos : ∀ l, 0 < pMax l
  | [] => by simp [pMax]
  | p :: r => by
    have := pMax_pos r
    simp only [pMax]
    omega
theorem pMax_lt : ∀ {l : List (Int × Int)} {p}, p ∈ l → p.1 < pMax l ∧ p.2 < pMax l
  | q :: r, p, h => by
    simp only [pMax]
    rcases List.mem_cons.mp h with e | e
    · subst e; omega
    · have := pMax_lt e
      omega
theorem pairs_nonneg : ∀ {ds : List PyData} {ps : List (Int × Int)}, pairsD ds = some ps → ∀ p ∈ ps, 0 ≤ p.1 ∧ 0 ≤ p.2
  | [], _, h, p, hp => by cases h; cases hp
  | d :: ds, ps, h, p, hp => by
    unfold pairsD at h
    split at h
    · cases h; cases hp
    · rename_i i j r heq
      injection heq with e1 e2
      subst e2
      split at h
      · rename_i hz
        cases q : pairsD ds with
        | none => rw [q] at h; cases h
        | some qs =>
          rw [q] at h
          cases h
          rcases List.mem_cons.mp hp with e | e
          · subst e; exact hz
          · exact pairs_nonneg q p e
      · cases h
    · cases h
section
variable {W : Wd} {H : Hp} {A : Addr → Prop}
theorem pairs_ks : ∀ {ds : List PyData} {vs : List V} {ps : List (Int × Int)}, RepAll W H A ds vs → pairsD ds = some ps →
    ∃ ks : List (Addr × List Int), vs = ks.map (fun p => V.ref p.1) ∧ ks.map (·.2) = ps.map lp ∧ ∀ q ∈ ks, ∃ p, q.2 = lp p ∧ Rep W H A (pD p) (.ref q.1)
  | [], _, _, h, e => by
    cases e
    simp only [RepAll] at h
    exact ⟨[], h, rfl, fun q hq => nomatch hq⟩
  | d :: ds, _, ps, h, e => by
    simp only [RepAll] at h
    obtain ⟨v, r, rfl, n, h1, h2⟩ := h
    unfold pairsD at e
    split at e
    · rename_i z; cases z
    · rename_i i j r' heq
      injection heq with e1 e2
      subst e1 e2
      split at e
      · cases q : pairsD ds with
        | none => rw [q] at e; cases e
        | some qs =>
          rw [q] at e
          cases e
          obtain ⟨ks, k1, k2, k3⟩ := pairs_ks h2 q
          have h1' := h1
          simp only [Rep] at h1
          obtain ⟨a, vs, rfl, _⟩ := h1
          refine ⟨(a, [i, j]) :: ks, by rw [k1]; rfl, by rw [List.map_cons, k2]; rfl, fun q hq => ?_⟩
          rcases List.mem_cons.mp hq with e | e
          · subst e
            exact ⟨(i, j), rfl, h1'⟩
          · exact k3 q e
      · cases e
    · cases e
theorem rep_pair {p : Int × Int} {a : Addr} (h : Rep W H A (pD p) (.ref a)) : SqT W.K H a ((lp p).map V.int) := by
  unfold pD at h
  simp only [Rep] at h
  obtain ⟨b, vs, e, l, _, r⟩ := h
  cases e
  have : vs = (lp p).map V.int := r.ints (by simp [intsD, lp])
  rw [← this]
  exact l.sq
theorem seqT_upd {K : PySem.W.Frag} {H H' : Hp} {a : Addr} {xs : List V} (s : Same H H') (h : SqT K H a xs) : SqT K H' a xs := by
  rcases h with (h | ⟨o, h⟩) | h
  · exact .inl (.inl (s _ _ h))
  · exact .inl (.inr ⟨o, s _ _ h⟩)
  · exact .inr h
theorem code_lt {B : Int} {p q : Int × Int} (hp : 0 ≤ p.1 ∧ p.1 < B ∧ 0 ≤ p.2 ∧ p.2 < B) (hq : 0 ≤ q.1 ∧ q.1 < B ∧ 0 ≤ q.2 ∧ q.2 < B) (h : TS.code B (lp p) ≤ TS.code B (lp q)) (ne : p ≠ q) : PLt p q := by
  have e : ∀ r : Int × Int, TS.code B (lp r) = r.1 * B + r.2 := fun r => by
    show r.1 * B ^ 1 + (r.2 * B ^ 0 + 0) = _
    simp [Int.pow_succ]
  rw [e, e] at h
  simp only [PLt]
  rcases Int.lt_trichotomy p.1 q.1 with z | z | z
  · exact .inl z
  · right
    refine ⟨z, ?_⟩
    rw [z] at h
    have : ¬ p.2 = q.2 := fun y => ne (Prod.ext z y)
    omega
  · exfalso
    have : (q.1 + 1) * B ≤ p.1 * B := Int.mul_le_mul_of_nonneg_right (by omega) (by omega)
    rw [Int.add_mul] at this
    omega
/-- what the two calls ask -/
theorem sset_read {X : Cx} (hK : W.K = X.K) (hA : AvOk H A) {v : V} {xs : List PyData} {ps : List (Int × Int)} {Q : VK} (hv : Rb W H A (.list xs) v) (hp : pairsD xs = some ps) (hz : xs.length < 64)
    (q : ∀ v H', Same H H' → ResV W H H' A (.list ((pSort ps).map pD)) true v → Q v H') :
    rSetOfT X.K X.prog X.w [v] H (fun z H1 => rSortedT X.K X.prog X.w [z] H1 Q) := by
  obtain ⟨l, vs, rfl, hl, hlen, r⟩ := hv.list
  rw [hK] at hl
  obtain ⟨ks, rfl, k2, k3⟩ := pairs_ks r hp
  have nn := pairs_nonneg hp
  have memk : ∀ q ∈ ks, ∃ p ∈ ps, q.2 = lp p ∧ Rep W H A (pD p) (.ref q.1) := fun q hq => by
    obtain ⟨p, e, h⟩ := k3 q hq
    have : q.2 ∈ ps.map lp := by rw [← k2]; exact List.mem_map.mpr ⟨q, hq, rfl⟩
    obtain ⟨p', hp', e'⟩ := List.mem_map.mp this
    have : p' = p := lp_inj (e'.trans e)
    subst this
    exact ⟨p', hp', e, h⟩
  have klen : ks.length < 64 := by
    have e := r.length
    rw [List.length_map] at e
    omega
  refine ⟨l, ks, rfl, hl, fun q hq => ?_, klen, fun a L ha hsub hall => ?_⟩
  · obtain ⟨p, _, e, h⟩ := memk q hq
    rw [e, ← hK]
    exact rep_pair h
  · have s1 : Same H (upd H a (SetTO X.prog X.w a L)) := same_upd ha
    refine ⟨a, L, 2, pMax ps, rfl, upd_same, fun q hq => ?_, by decide, fun q hq => ?_, fun L' p pm nd few pw hpn => ?_⟩
    · obtain ⟨p, _, e, h⟩ := memk q (hsub q hq)
      rw [e, ← hK]
      exact seqT_upd s1 (rep_pair h)
    · obtain ⟨p, hp', e, h⟩ := memk q (hsub q hq)
      rw [e]
      refine ⟨rfl, fun m hm => ?_⟩
      have b := pMax_lt hp'
      have n := nn p hp'
      unfold lp at hm
      simp only [List.mem_cons, List.not_mem_nil, or_false] at hm
      rcases hm with rfl | rfl
      · exact ⟨n.1, b.1⟩
      · exact ⟨n.2, b.2⟩
    · have hH : H p = none := s1.free hpn
      have s2 : Same H (upd (upd H a (SetTO X.prog X.w a L)) p (.lst (L'.map fun q => V.ref q.1))) := s1.trans (same_upd hpn)
      refine q _ _ s2 ⟨p, rfl, hH, L'.map (fun q => V.ref q.1), upd_same, ?_, ?_⟩
      · rw [List.length_map, sizeLine_eq]; omega
      · -- the pairs of L'
        have mem' : ∀ q ∈ L', q ∈ ks := fun q hq => hsub q (pm.mem_iff.mp hq)
        have hpair : ∀ q ∈ L', ∃ p ∈ ps, q.2 = lp p ∧ Rep W H A (pD p) (.ref q.1) := fun q hq => memk q (mem' q hq)
        have hpp : ∃ pp : List (Int × Int), L'.map (·.2) = pp.map lp ∧ (∀ x, x ∈ pp → x ∈ ps) ∧ RepAll W H A (pp.map pD) (L'.map fun q => V.ref q.1) := by
          clear pm nd few pw mem' q s2
          induction L' with
          | nil => exact ⟨[], rfl, (fun x hx => nomatch hx), by simp [RepAll]⟩
          | cons q L' ih =>
            obtain ⟨pp, i1, i2, i3⟩ := ih (fun q hq => hpair q (List.mem_cons_of_mem _ hq))
            obtain ⟨p, p1, p2, p3⟩ := hpair q List.mem_cons_self
            refine ⟨p :: pp, by rw [List.map_cons, List.map_cons, i1, p2], fun x hx => ?_, ?_⟩
            · rcases List.mem_cons.mp hx with e | e
              · subst e; exact p1
              · exact i2 x e
            · rw [List.map_cons, List.map_cons]
              exact RepAll.cons (by simp [pD, ndD]) p3 i3
        obtain ⟨pp, e1, e2, e3⟩ := hpp
        have ndp : pp.Nodup := by
          have : (pp.map lp).Nodup := by rw [← e1]; exact nd
          exact List.Pairwise.of_map lp (fun a b h e => h (by rw [e])) this
        have pwp : pp.Pairwise (fun x y => TS.code (pMax ps) (lp x) ≤ TS.code (pMax ps) (lp y)) := by
          have h1 : (L'.map (·.2)).Pairwise (fun x y => TS.code (pMax ps) x ≤ TS.code (pMax ps) y) := (List.pairwise_map (f := fun q : Addr × List Int => q.2) (R := fun x y => TS.code (pMax ps) x ≤ TS.code (pMax ps) y)).mpr pw
          rw [e1] at h1
          exact (List.pairwise_map (f := lp) (R := fun x y => TS.code (pMax ps) x ≤ TS.code (pMax ps) y)).mp h1
        have bd : ∀ x ∈ pp, 0 ≤ x.1 ∧ x.1 < pMax ps ∧ 0 ≤ x.2 ∧ x.2 < pMax ps := fun x hx => by
          have b := pMax_lt (e2 x hx)
          have n := nn x (e2 x hx)
          omega
        have srt : pp.Pairwise PLt := by
          have both := List.Pairwise.and pwp ndp
          exact List.Pairwise.imp_of_mem (fun {x y} hx hy h => code_lt (bd x hx) (bd y hy) h.1 h.2) both
        have key : pp = pSort ps := by
          refine uniq (fun x => by simp only [PLt]; omega) (fun x y h => by simp only [PLt] at *; omega) srt (pSort_srt ps) fun x => ?_
          rw [pSort_mem]
          refine ⟨e2 x, fun hx => ?_⟩
          have h1 : lp x ∈ ks.map (·.2) := by rw [k2]; exact List.mem_map.mpr ⟨x, hx, rfl⟩
          obtain ⟨q, hq, eq⟩ := List.mem_map.mp h1
          have h2 := hall q hq
          obtain ⟨q', hq', eq'⟩ := List.mem_map.mp h2
          have h3 : q'.2 ∈ L'.map (·.2) := List.mem_map.mpr ⟨q', pm.mem_iff.mpr hq', rfl⟩
          rw [e1] at h3
          obtain ⟨y, hy, ey⟩ := List.mem_map.mp h3
          have : y = x := lp_inj (ey.trans (eq'.trans eq))
          rw [← this]
          exact hy
        rw [← key]
        exact e3.tr (Same.tr1 s2 hH)
end
end M
/-! M, fifth part: expressions. -/
namespace M
open PySem L2 PyProof.Rows
/-- an exception as it lies -/
def XOk (W : Wd) (H : Hp) (x : Exn) (cls : Value) (d : Option Addr) : Prop := cls = .ref (W.ca x.c) ∧ (x.fs = [] → d = none)
def PostX (W : Wd) (Z : L2.WX) (T : Addr → Prop) (env : Env) (σ : St) (H : Hp) (x : Exn × Env) : Prop :=
  ∀ cls d H', Step env σ H x.2 σ H' → Rel W T x.2 σ H' → XOk W H' x.1 cls d → Z cls d σ H'
def PostE (W : Wd) (Z : L2.WX) (T : Addr → Prop) (env : Env) (σ : St) (H : Hp) (r : RE (EV × Env)) (Q : VK) : Prop :=
  match r with
  | .ok p => ∀ v H', Step env σ H p.2 σ H' → Rel W (Tw T p.1 v) p.2 σ H' → VOk W T H H' p.2 σ p.1 v → Q v H'
  | .exc x => PostX W Z T env σ H x
  | .stuck => False
def tE (C : CallT) (G : List PyData) (W : Wd) (Z : L2.WX) (m : ME) : TE := fun σ H Q => ∃ T env, Rel W T env σ H ∧ PostE W Z T env σ H (ev C G m env) Q
/-- what may be read of a value -/
def Hold (W : Wd) (T : Addr → Prop) (env : Env) (σ : St) (H : Hp) (w : EV) (v : V) : Prop := ∀ d, rdv env w = .ok d → Rb W H (Av T env σ) d v
section
variable {W : Wd} {Z : L2.WX} {T T1 T2 : Addr → Prop} {env env1 env2 env' : Env} {σ : St} {H H0 H1 H2 H' : Hp} {w : EV} {v : V} {C : CallT} {G : List PyData}
theorem PostX.pre {x : Exn × Env} (S : Step env σ H env1 σ H1) (hT : ∀ a, T a → T1 a) (h : PostX W Z T env σ H x) : PostX W Z T1 env1 σ H1 x :=
  fun cls d H' s r k => h cls d H' (S.trans s) (r.less hT) k
theorem VOk.pre (S : Step env σ H env1 σ H1) (h : VOk W T H1 H' env' σ w v) : VOk W T H H' env' σ w v := by
  cases w with
  | va d fr =>
    cases fr with
    | false => exact h
    | true =>
      obtain ⟨a, e, n, z, o⟩ := h
      refine ⟨a, e, n, ?_, o⟩
      by_cases q : H a = none
      · exact q
      · exact absurd z (S.dom a q)
  | sl i => exact h
theorem PostE.pre {r : RE (EV × Env)} {Q : VK} (S : Step env σ H env1 σ H1) (h : PostE W Z T env σ H r Q) : PostE W Z T env1 σ H1 r Q := by
  cases r with
  | ok p => exact fun v H' s r k => h v H' (S.trans s) r (k.pre S)
  | exc x => exact PostX.pre S (fun _ z => z) h
  | stuck => exact h
theorem tE_mono {m : ME} {Q Q' : VK} (h : tE C G W Z m σ H Q) (q : ∀ v H', Q v H' → Q' v H') : tE C G W Z m σ H Q' := by
  obtain ⟨T, env, R, h⟩ := h
  refine ⟨T, env, R, ?_⟩
  cases e : ev C G m env with
  | ok p => rw [e] at h; exact fun v H' s r k => q _ _ (h v H' s r k)
  | exc x => rw [e] at h; exact h
  | stuck => rw [e] at h; exact h
theorem Rep.less {A A' : Addr → Prop} {d : PyData} (h : Rep W H A d v) (k : ∀ a, A' a → A a) : Rep W H A' d v := Rep.tr ⟨fun _ _ _ e => e, fun a n _ q => n (k a q)⟩ h
theorem OwnAt.less {A A' : Addr → Prop} {d : PyData} {a : Addr} (h : OwnAt W H A d a) (k : ∀ a, A' a → A a) : OwnAt W H A' d a := OwnAt.tr ⟨fun _ _ _ e => e, fun a n _ q => n (k a q)⟩ h fun _ e => e
theorem av_less (h : ∀ a, T a → T1 a) : ∀ a, Av T env σ a → Av T1 env σ a := fun a q => q.elim (fun z => .inl (h a z)) .inr
/-- a value waits while the state goes on -/
theorem VOk.step (R1 : Rel W (Tw T w v) env σ H) (h : VOk W T H0 H env σ w v) (S : Step env σ H env' σ H') : VOk W T H0 H' env' σ w v := by
  cases w with
  | va d fr =>
    cases fr with
    | false => exact Rep.tr (S.tr (T := T) (T' := T) fun _ z => .inl z) h
    | true =>
      obtain ⟨a, e, n, z, o⟩ := h
      subst e
      have pa := R1.prot a (.inr rfl)
      refine ⟨a, rfl, n, z, o.tr ⟨fun b ob nb e => S.keep b ob e fun q => nb (.inl (.inr q)), fun b nb e q => ?_⟩ fun ob e => S.keep a ob e pa.1⟩
      rcases q with (q | q) | q
      · exact nb (.inl (.inl q))
      · rcases S.own b q with y | y
        · exact nb (.inl (.inr y))
        · exact e y
      · exact nb (.inr q)
  | sl i => exact h
theorem VOk.hold (hT1 : ∀ a, T a → T1 a) (R : Rel W T2 env σ H) (hT2 : ∀ a, T a → T2 a) (h : VOk W T1 H0 H env σ w v) : Hold W T env σ H w v := by
  intro d e
  cases w with
  | va d' fr =>
    cases e
    cases fr with
    | false => exact .inl (Rep.less h (av_less hT1))
    | true =>
      obtain ⟨a, e, _, _, o⟩ := h
      exact .inr ⟨a, e, o.less fun b q => .inl (av_less hT1 b q)⟩
  | sl i =>
    simp only [rdv] at e
    split at e
    · rename_i d' k q
      cases e
      obtain ⟨v', e1, e2⟩ := R.slot i d k q
      have h : σ[i]? = some (some v) := h
      rw [h] at e1
      cases e1
      cases k with
      | sh => exact .inl (Rep.less e2 (av_less hT2))
      | ow => obtain ⟨a, e, o⟩ := e2; exact .inr ⟨a, e, o.less (av_less hT2)⟩
      | rf => obtain ⟨a, e, o⟩ := e2; exact .inr ⟨a, e, o.less (av_less hT2)⟩
      | ln => obtain ⟨a, e, o⟩ := e2; exact .inr ⟨a, e, o.less (av_less hT2)⟩
    · cases e
theorem tw_sub : ∀ a, T a → Tw T w v a := fun a h => Tw_sub h
/-- an operation's end -/
theorem fin_op {d : PyData} {fr : Bool} (R : Rel W T env2 σ H2) (S : Step env σ H env2 σ H2) (s : Same H2 H') (r : ResV W H2 H' (Av T env2 σ) d fr v) :
    Step env σ H env2 σ H' ∧ Rel W (Tw T (.va d fr) v) env2 σ H' ∧ VOk W T H H' env2 σ (.va d fr) v := by
  refine ⟨S.trans (Step.same s), ?_⟩
  cases fr with
  | false => exact ⟨R.same s, r⟩
  | true =>
    obtain ⟨a, e, hn, o⟩ := r
    subst e
    refine ⟨(R.more (p := a) s hn o.some).less fun b q => ?_, a, rfl, fun t => (R.prot a t).2 hn, ?_, o⟩
    · rcases q with q | q
      · exact .inl q
      · cases q; exact .inr rfl
    · by_cases q : H a = none
      · exact q
      · exact absurd hn (S.dom a q)
theorem avOk (R : Rel W T env σ H) : AvOk H (Av T env σ) := fun a h => R.av h
/-- .. put to use -/
theorem PostE.op {d : PyData} {fr : Bool} {Q : VK} (h : PostE W Z T env σ H (.ok (.va d fr, env2)) Q) (R : Rel W T env2 σ H2) (S : Step env σ H env2 σ H2) (s : Same H2 H') (r : ResV W H2 H' (Av T env2 σ) d fr v) : Q v H' :=
  let ⟨a, b, c⟩ := fin_op R S s r
  h v H' a b c
theorem one_ok {ma : ME} {f : EV → Env → RE (EV × Env)} {Q : VK} (R : Rel W T env σ H) (h : PostE W Z T env σ H (M.R.bind (ev C G ma env) fun p => f p.1 p.2) Q) :
    tE C G W Z ma σ H (fun x H1 => ∃ w env1, Step env σ H env1 σ H1 ∧ Rel W (Tw T w x) env1 σ H1 ∧ VOk W T H H1 env1 σ w x ∧ PostE W Z T env σ H (f w env1) Q) := by
  refine ⟨T, env, R, ?_⟩
  cases e : ev C G ma env with
  | ok p =>
    rw [e] at h
    exact fun v H1 S R1 V => ⟨p.1, p.2, S, R1, V, h⟩
  | exc x => rw [e] at h; exact h
  | stuck => rw [e] at h; exact h
theorem two_ok {ma mb : ME} {f : EV → EV → Env → RE (EV × Env)} {Q : VK} (R : Rel W T env σ H) (h : PostE W Z T env σ H (M.R.bind (ev C G ma env) fun p => M.R.bind (ev C G mb p.2) fun q => f p.1 q.1 q.2) Q) :
    tE C G W Z ma σ H (fun x H1 => tE C G W Z mb σ H1 fun y H2 => ∃ w1 w2 env2, Step env σ H env2 σ H2 ∧ Rel W T env2 σ H2 ∧ Hold W T env2 σ H2 w1 x ∧ Hold W T env2 σ H2 w2 y ∧ PostE W Z T env σ H (f w1 w2 env2) Q) := by
  refine tE_mono (one_ok (f := fun w env1 => M.R.bind (ev C G mb env1) fun q => f w q.1 q.2) R h) fun x H1 h => ?_
  obtain ⟨w1, env1, S1, R1, V1, h⟩ := h
  refine ⟨Tw T w1 x, env1, R1, ?_⟩
  cases e : ev C G mb env1 with
  | ok p =>
    rw [e] at h
    refine fun y H2 S2 R2 V2 => ⟨w1, p.1, p.2, S1.trans S2, R2.less fun a z => Tw_sub (Tw_sub z), ?_, ?_, h⟩
    · exact (V1.step R1 S2).hold (fun _ z => z) R2 (fun a z => Tw_sub (Tw_sub z))
    · exact V2.hold (fun _ z => Tw_sub z) R2 (fun a z => Tw_sub (Tw_sub z))
  | exc x => rw [e] at h; exact PostX.pre S1 (fun _ z => Tw_sub z) h
  | stuck => rw [e] at h; exact h
end
theorem pe_imp {X : Cx} {e : Expr} {t t' : TE} (h : PE X e t) (i : ∀ σ H Q, t' σ H Q → t σ H Q) : PE X e t' := ⟨fun pins s σ H Q I q => h.run pins s σ H Q I (i _ _ _ q)⟩
theorem pt_imp {X : Cx} {e : Expr} {t t' : TT} (h : PT X e t) (i : ∀ σ H Q, t' σ H Q → t σ H Q) : PT X e t' := ⟨fun pins s σ H Q I q => h.run pins s σ H Q I (i _ _ _ q)⟩
/-! ### tests -/
def PostT (W : Wd) (Z : L2.WX) (T : Addr → Prop) (env : Env) (σ : St) (H : Hp) (r : RE (Bool × Env)) (Q : Bool → Hp → Prop) : Prop :=
  match r with
  | .ok p => ∀ H', Step env σ H p.2 σ H' → Rel W T p.2 σ H' → Q p.1 H'
  | .exc x => PostX W Z T env σ H x
  | .stuck => False
def tT (C : CallT) (G : List PyData) (W : Wd) (Z : L2.WX) (m : ME) : TT := fun σ H Q => ∃ T env, Rel W T env σ H ∧ PostT W Z T env σ H (evT C G m env) Q
section
variable {W : Wd} {Z : L2.WX} {T T1 T2 : Addr → Prop} {env env1 env2 env' : Env} {σ : St} {H H0 H1 H2 H' : Hp} {w : EV} {v : V} {C : CallT} {G : List PyData} {m ma mb : ME}
theorem PostT.pre {r : RE (Bool × Env)} {Q : Bool → Hp → Prop} (S : Step env σ H env1 σ H1) (h : PostT W Z T env σ H r Q) : PostT W Z T env1 σ H1 r Q := by
  cases r with
  | ok p => exact fun H' s r => h H' (S.trans s) r
  | exc x => exact PostX.pre S (fun _ z => z) h
  | stuck => exact h
theorem tT_mono {Q Q' : Bool → Hp → Prop} (h : tT C G W Z m σ H Q) (q : ∀ v H', Q v H' → Q' v H') : tT C G W Z m σ H Q' := by
  obtain ⟨T, env, R, h⟩ := h
  refine ⟨T, env, R, ?_⟩
  cases e : evT C G m env with
  | ok p => rw [e] at h; exact fun H' s r => q _ _ (h H' s r)
  | exc x => rw [e] at h; exact h
  | stuck => rw [e] at h; exact h
theorem truW_hold (h : Hold W T env σ H w v) {k : Bool} (e : truW env w = .ok k) : TruV W.K v H k := by
  unfold truW at e
  cases q : rdv env w with
  | ok d =>
    have e' : R.ofO (truD d) = (.ok k : RE Bool) := by
      rw [q] at e
      exact e
    cases z : truD d with
    | none => rw [z] at e'; cases e'
    | some k' =>
      rw [z] at e'
      cases e'
      exact truV_of (h d q) z
  | exc x => rw [q] at e; cases e
  | stuck => rw [q] at e; cases e
theorem truW_noexc {x : Exn × Env} (e : truW env w = .exc x) : False := by
  unfold truW at e
  cases w with
  | va d fr =>
    have e' : R.ofO (truD d) = (.exc x : RE Bool) := e
    cases z : truD d <;> (rw [z] at e'; cases e')
  | sl i =>
    cases q : rdv env (.sl i) with
    | ok d =>
      rw [q] at e
      have e' : R.ofO (truD d) = (.exc x : RE Bool) := e
      cases z : truD d <;> (rw [z] at e'; cases e')
    | exc y =>
      simp only [rdv] at q
      split at q <;> cases q
    | stuck => rw [q] at e; cases e
theorem post_rd {α : Type} {f : PyData → RE α} {P : RE α → Prop} (h : P (M.R.bind (rdv env w) f)) (n : ¬ P .stuck) : ∃ d, rdv env w = .ok d ∧ P (f d) := by
  cases e : rdv env w with
  | ok d => rw [e] at h; exact ⟨d, rfl, h⟩
  | exc x => cases w <;> simp only [rdv] at e <;> (try split at e) <;> cases e
  | stuck => rw [e] at h; exact (n h).elim
theorem post_of {α β : Type} {o : Option β} {f : β → RE α} {P : RE α → Prop} (h : P (M.R.bind (M.R.ofO o) f)) (n : ¬ P .stuck) : ∃ d, o = some d ∧ P (f d) := by
  cases e : o with
  | some d => rw [e] at h; exact ⟨d, rfl, h⟩
  | none => rw [e] at h; exact (n h).elim
theorem post_tru {α : Type} {f : Bool → RE α} {P : RE α → Prop} (h : P (M.R.bind (truW env w) f)) (n : ¬ P .stuck) : ∃ d, truW env w = .ok d ∧ P (f d) := by
  cases e : truW env w with
  | ok d => rw [e] at h; exact ⟨d, rfl, h⟩
  | exc x => exact (truW_noexc e).elim
  | stuck => rw [e] at h; exact (n h).elim
/-- a test by its value -/
theorem tT_val {Q : Bool → Hp → Prop} (h : tT C G W Z m σ H Q) : tE C G W Z m σ H (fun x H' => ∃ k, TruV W.K x H' k ∧ Q k H') := by
  obtain ⟨T, env, R, h⟩ := h
  refine ⟨T, env, R, ?_⟩
  unfold evT at h
  cases e : ev C G m env with
  | ok p =>
    rw [e] at h
    have h : PostT W Z T env σ H (M.R.bind (truW p.2 p.1) fun k => .ok (k, p.2)) Q := h
    cases q : truW p.2 p.1 with
    | ok k =>
      rw [q] at h
      exact fun v H' S R' V => ⟨k, truW_hold (V.hold (fun _ z => z) R' fun a z => Tw_sub z) q, h H' S (R'.less fun a z => Tw_sub z)⟩
    | exc x => exact (truW_noexc q).elim
    | stuck => rw [q] at h; exact h.elim
  | exc x => rw [e] at h; exact h
  | stuck => rw [e] at h; exact h
end
end M
namespace M
open PySem L2 PyProof.Rows
def bltNames : List Str := ["len", "abs", "sum", "all", "any", "min", "max", "list", "tuple", "isinstance", "sorted", "set", "range", "enumerate", "zip", "int", "bool", "str"]
/-- the parameters' slots behind a call -/
def putA : List Arg → List PyData → Env
  | [], _ => []
  | .v d :: r, ds => some (d, .sh) :: putA r ds
  | .r _ :: r, d :: ds => some (d, .rf) :: putA r ds
  | .r d :: r, [] => some (d, .rf) :: putA r []
/-- what a def promises, by what the small interpreter says of it -/
def spF (W : Wd) (C : CallT) (f : Nat) (refs : List Bool) : Sp := fun vs H Q E => ∃ T args, args.map isR = refs ∧ Rel W T (args.map slotOf) (vs.map some) H ∧
  match C f args with
  | .ok r => ∀ v H', Step (args.map slotOf) (vs.map some) H (putA args r.rs) (vs.map some) H' → Rel W (Tw T (.va r.d r.fr) v) (putA args r.rs) (vs.map some) H' → VOk W T H H' (putA args r.rs) (vs.map some) (.va r.d r.fr) v → Q v H'
  | .exc x => ∀ cls d H', (∀ a o, H a = some o → ¬ Ownd (args.map slotOf) (vs.map some) a → H' a = some o) → XOk W H' x cls d → E cls d H'
  | .stuck => False
structure Gd (nm : Nm) (C : CallT) (G : List PyData) (W : Wd) (k : Nat) (Z : L2.WX) (X : Cx) : Prop where
  calm : X.calm = true
  nd : X.N.Nodup
  room : Room k X.A
  K : W.K = X.K
  dk : ∀ a kvs, W.DK a kvs → DKp X a kvs
  tk : Takes X Z
  po : PassesOwn (model X.prog X.w) X.A X.env X.xe
  fns : ∀ (f : Nat) x refs, nm.fns[f]? = some (x, refs) → ∃ fa fd ps, X.mg x = some (.ref fa) ∧ PySem.W.keepIn X.K (.ref fa) = true ∧ Binds X.K fd ps [] ∧ FnOk X.prog X.w X.K X.mg X.base (CX X.prog X.w) k fa fd ps (spF W C f refs)
  gls : ∀ (j : Nat) x, nm.gls[j]? = some x → ∃ d u v, G[j]? = some d ∧ X.mg x = some u ∧ RelV v u ∧ ∀ H A, Rep W H A d v
  cls : ∀ (c : Nat) x, nm.cls[c]? = some (x, false) → X.mg x = some (.ref (W.ca c)) ∧ PySem.W.excIn X.K (W.ca c) He.veBase "ValueError.__new__" = true ∧ PySem.W.keepIn X.K (.ref (W.ca c)) = true ∧ Raises X (.ref (W.ca c))
  blt : ∀ x ∈ bltNames, X.mg x = none
section
variable {nm : Nm} {C : CallT} {G : List PyData} {W : Wd} {k : Nat} {Z : L2.WX} {X : Cx}
theorem Gd.units (g : Gd nm C G W k Z X) : X.A.units + 200 < cLine := by
  have := g.room.un
  omega
/-- a comprehension's block -/
theorem Gd.blk (g : Gd nm C G W k Z X) (s : Shared) (H : Hp) (scope : Scope) (cl : List (Str × Addr)) (c : Addr) (fp : List Addr) : Gd nm C G W k (fun _ _ _ _ => False) (X.blk s H scope (compEnvC scope cl c X.env) fp) :=
  { calm := g.calm, nd := g.nd, room := g.room, K := g.K, dk := fun a kvs h => let q := g.dk a kvs h; ⟨q.kd, q.look⟩, tk := fun u s' h => by obtain ⟨_, _, _, _, _, _, _, _, _, _, _, _, _, _, _, _, q⟩ := h; exact q.elim, po := PassesOwn.never,
    fns := g.fns, gls := g.gls, cls := fun c x h => let q := g.cls c x h; ⟨q.1, q.2.1, q.2.2.1, q.2.2.2⟩, blt := g.blt }
variable {a b c e : Expr} {pos : Pos} {ma mb mc m : ME}
theorem pm_bin (g : Gd nm C G W k Z X) (op : Operator) (ha : PE X a (tE C G W Z ma)) (hb : PE X b (tE C G W Z mb)) : PE X (.BinOp a op b pos) (tE C G W Z (.bin op ma mb)) := by
  refine pe_imp (pe_op (op_bin g.K op) ha hb) fun σ H Q ⟨T, env, rl, h⟩ => ?_
  simp only [ev] at h
  refine tE_mono (two_ok (f := fun x y env => rdv env x >>= fun d => rdv env y >>= fun e => M.R.ofO (binD op d e) >>= fun p => .ok (.va p.1 p.2, env)) rl h) fun x H1 h => tE_mono h fun y H2 h => ?_
  obtain ⟨w1, w2, env2, S, R2, h1, h2, h⟩ := h
  obtain ⟨d, e1, h⟩ := post_rd (P := fun r => PostE W Z T env σ H r Q) h id
  obtain ⟨e, e2, h⟩ := post_rd (P := fun r => PostE W Z T env σ H r Q) h id
  obtain ⟨p, e3, h⟩ := post_of (P := fun r => PostE W Z T env σ H r Q) h id
  exact ⟨Av T env2 σ, d, e, p, avOk R2, h1 d e1, h2 e e2, e3, fun v H' s r => PostE.op h R2 S s r⟩
end
end M
namespace M
open PySem L2 PyProof.Rows
section
variable {W : Wd} {Z : L2.WX} {T T1 T2 : Addr → Prop} {env env1 env2 env' : Env} {σ : St} {H H0 H1 H2 H' : Hp} {w : EV} {v : V} {C : CallT} {G : List PyData} {m ma mb mc : ME} {α : Type} {P : RE α → Prop}
theorem one_gen {f : EV → Env → RE α} (rl : Rel W T env σ H) (hX : ∀ x, P (.exc x) → PostX W Z T env σ H x) (hS : ¬ P .stuck) (h : P (M.R.bind (ev C G ma env) fun p => f p.1 p.2)) :
    tE C G W Z ma σ H (fun x H1 => ∃ w env1, Step env σ H env1 σ H1 ∧ Rel W (Tw T w x) env1 σ H1 ∧ VOk W T H H1 env1 σ w x ∧ P (f w env1)) := by
  refine ⟨T, env, rl, ?_⟩
  cases e : ev C G ma env with
  | ok p =>
    rw [e] at h
    exact fun v H1 S R1 V => ⟨p.1, p.2, S, R1, V, h⟩
  | exc x => rw [e] at h; exact hX x h
  | stuck => rw [e] at h; exact (hS h).elim
theorem two_gen {f : EV → EV → Env → RE α} (rl : Rel W T env σ H) (hX : ∀ x, P (.exc x) → PostX W Z T env σ H x) (hS : ¬ P .stuck) (h : P (M.R.bind (ev C G ma env) fun p => M.R.bind (ev C G mb p.2) fun q => f p.1 q.1 q.2)) :
    tE C G W Z ma σ H (fun x H1 => tE C G W Z mb σ H1 fun y H2 => ∃ w1 w2 env2, Step env σ H env2 σ H2 ∧ Rel W T env2 σ H2 ∧ Hold W T env2 σ H2 w1 x ∧ Hold W T env2 σ H2 w2 y ∧ P (f w1 w2 env2)) := by
  refine tE_mono (one_gen (f := fun w env1 => M.R.bind (ev C G mb env1) fun q => f w q.1 q.2) rl hX hS h) fun x H1 h => ?_
  obtain ⟨w1, env1, S1, R1, V1, h⟩ := h
  refine ⟨Tw T w1 x, env1, R1, ?_⟩
  cases e : ev C G mb env1 with
  | ok p =>
    rw [e] at h
    refine fun y H2 S2 R2 V2 => ⟨w1, p.1, p.2, S1.trans S2, R2.less fun a z => Tw_sub (Tw_sub z), ?_, ?_, h⟩
    · exact (V1.step R1 S2).hold (fun _ z => z) R2 (fun a z => Tw_sub (Tw_sub z))
    · exact V2.hold (fun _ z => Tw_sub z) R2 (fun a z => Tw_sub (Tw_sub z))
  | exc x => rw [e] at h; exact PostX.pre S1 (fun _ z => Tw_sub z) (hX x h)
  | stuck => rw [e] at h; exact (hS h).elim
theorem test_gen {f : Bool → Env → RE α} (rl : Rel W T env σ H) (hX : ∀ x, P (.exc x) → PostX W Z T env σ H x) (hS : ¬ P .stuck) (h : P (M.R.bind (ev C G mc env) fun p => M.R.bind (truW p.2 p.1) fun k => f k p.2)) :
    tT C G W Z mc σ H (fun k H1 => ∃ env1, Step env σ H env1 σ H1 ∧ Rel W T env1 σ H1 ∧ P (f k env1)) := by
  refine ⟨T, env, rl, ?_⟩
  unfold evT
  cases e : ev C G mc env with
  | ok p =>
    rw [e] at h
    have h : P (M.R.bind (truW p.2 p.1) fun k => f k p.2) := h
    obtain ⟨k, e2, h⟩ := post_tru h hS
    show PostT W Z T env σ H (M.R.bind (truW p.2 p.1) fun k => .ok (k, p.2)) _
    rw [e2]
    exact fun H1 S R1 => ⟨p.2, S, R1, h⟩
  | exc x => rw [e] at h; exact hX x h
  | stuck => rw [e] at h; exact (hS h).elim
end
section
variable {nm : Nm} {C : CallT} {G : List PyData} {W : Wd} {k : Nat} {Z : L2.WX} {X : Cx} {a b c e : Expr} {pos : Pos} {ma mb mc m : ME}
theorem pm_var {i : Nat} {x : Str} (hN : X.N[i]? = some x) (hv : Vis X.env.scope x) (h1 : (x == ("__debug__" : Str)) = false) (h2 : (x == ("__classdict__" : Str)) = false) : PE X (.Name x pos) (tE C G W Z (.var i)) := by
  refine pe_imp (pe_var hN hv h1 h2) fun σ H Q ⟨T, env, rl, h⟩ => ?_
  simp only [ev] at h
  split at h
  · rename_i d q
    obtain ⟨v, e1, e2⟩ := rl.slot i d .sh q
    exact ⟨v, e1, h v H .refl rl e2⟩
  · rename_i d k n q
    obtain ⟨v, e1, e2⟩ := rl.slot i _ _ q
    exact ⟨v, e1, h v H .refl rl e1⟩
  · exact h.elim
theorem rep_cst {c : Const} {d : PyData} (h : cstO c = some d) : (∃ v, (∀ (X : Cx) j pos, PE X (.Constant c j pos) (tC v)) ∧ ∀ W H A, Rep W H A d v) := by
  cases c with
  | none => cases h; exact ⟨.non, fun _ _ _ => pe_non, fun _ _ _ => by simp only [Rep]⟩
  | bool b => cases h; exact ⟨.bl b, fun _ _ _ => pe_bl, fun _ _ _ => by simp only [Rep]⟩
  | int b => cases h; exact ⟨.int b, fun _ _ _ => pe_int, fun _ _ _ => by simp only [Rep]⟩
  | str x =>
    simp only [cstO] at h
    split at h
    · rename_i q
      cases h
      rw [Bool.and_eq_true, decide_eq_true_eq] at q
      exact ⟨.str x, fun _ _ _ => pe_str, fun _ _ _ => by simp only [Rep]; exact ⟨trivial, q⟩⟩
    · cases h
  | _ => cases h
theorem pm_cst {c : Const} {d : PyData} {j : Nat} (h : cstO c = some d) : PE X (.Constant c j pos) (tE C G W Z (.cst d)) := by
  obtain ⟨v, h1, h2⟩ := rep_cst h
  refine pe_imp (h1 X j pos) fun σ H Q ⟨T, env, rl, h⟩ => ?_
  simp only [ev] at h
  exact h v H .refl rl (h2 _ _ _)
theorem pm_glo (g : Gd nm C G W k Z X) {j : Nat} {x : Str} (hj : nm.gls[j]? = some x) (hg : Gl X x) (h1 : (x == ("__debug__" : Str)) = false) : PE X (.Name x pos) (tE C G W Z (.glo j)) := by
  obtain ⟨d, u, v, e1, e2, e3, e4⟩ := g.gls j x hj
  refine pe_imp (pe_glob hg e2 e3 h1) fun σ H Q ⟨T, env, rl, h⟩ => ?_
  simp only [ev, e1] at h
  exact h v H .refl rl (e4 _ _)
theorem pm_neg (ha : PE X a (tE C G W Z ma)) : PE X (.UnaryOp .USub a pos) (tE C G W Z (.neg ma)) := by
  refine pe_imp (pe_un un_neg ha) fun σ H Q ⟨T, env, rl, h⟩ => ?_
  simp only [ev] at h
  refine tE_mono (one_gen (P := fun r => PostE W Z T env σ H r Q) (f := fun x env => rdv env x >>= fun d => match d with | .int i => .ok (.va (.int (-i)) false, env) | _ => .stuck) rl (fun _ h => h) id h) fun x H1 h => ?_
  obtain ⟨w, env1, S, R1, V, h⟩ := h
  obtain ⟨d, e1, h⟩ := post_rd (P := fun r => PostE W Z T env σ H r Q) h id
  have hd := (V.hold (fun _ z => z) R1 fun a z => Tw_sub z) d e1
  cases d with
  | int i => exact ⟨i, hd.int, PostE.op h (R1.less fun a z => Tw_sub z) S (Same.refl H1) (by show Rep _ _ _ _ _; simp only [Rep])⟩
  | _ => exact h.elim
theorem pm_not (g : Gd nm C G W k Z X) (ha : PE X a (tE C G W Z ma)) : PE X (.UnaryOp .Not a pos) (tE C G W Z (.not ma)) := by
  refine pe_imp (pe_notT ha) fun σ H Q ⟨T, env, rl, h⟩ => ?_
  simp only [ev] at h
  refine tE_mono (one_gen (P := fun r => PostE W Z T env σ H r Q) (f := fun x env => truW env x >>= fun k => .ok (.va (.bool (!k)) false, env)) rl (fun _ h => h) id h) fun x H1 h => ?_
  obtain ⟨w, env1, S, R1, V, h⟩ := h
  obtain ⟨k, e1, h⟩ := post_tru (P := fun r => PostE W Z T env σ H r Q) h id
  have hd := truW_hold (V.hold (fun _ z => z) R1 fun a z => Tw_sub z) e1
  rw [g.K] at hd
  exact ⟨k, hd, PostE.op h (R1.less fun a z => Tw_sub z) S (Same.refl H1) (by show Rep _ _ _ _ _; simp only [Rep])⟩
theorem pm_and (g : Gd nm C G W k Z X) {rest : List Expr} (ha : PE X a (tE C G W Z ma)) (hb : PE X (.BoolOp .And (b :: rest) pos) (tE C G W Z mb)) : PE X (.BoolOp .And (a :: b :: rest) pos) (tE C G W Z (.and ma mb)) := by
  refine pe_imp (pe_andT ha hb) fun σ H Q ⟨T, env, rl, h⟩ => ?_
  simp only [ev] at h
  refine tE_mono (one_gen (P := fun r => PostE W Z T env σ H r Q) (f := fun x env => truW env x >>= fun k => if k = true then ev C G mb env else .ok (x, env)) rl (fun _ h => h) id h) fun x H1 h => ?_
  obtain ⟨w, env1, S, R1, V, h⟩ := h
  obtain ⟨k, e1, h⟩ := post_tru (P := fun r => PostE W Z T env σ H r Q) h id
  have hd := truW_hold (V.hold (fun _ z => z) R1 fun a z => Tw_sub z) e1
  rw [g.K] at hd
  refine ⟨k, hd, ?_⟩
  cases k with
  | true => exact ⟨T, env1, R1.less fun a z => Tw_sub z, PostE.pre S h⟩
  | false => exact h x H1 S R1 V
theorem pm_or (g : Gd nm C G W k Z X) {rest : List Expr} (ha : PE X a (tE C G W Z ma)) (hb : PE X (.BoolOp .Or (b :: rest) pos) (tE C G W Z mb)) : PE X (.BoolOp .Or (a :: b :: rest) pos) (tE C G W Z (.or ma mb)) := by
  refine pe_imp (pe_orT ha hb) fun σ H Q ⟨T, env, rl, h⟩ => ?_
  simp only [ev] at h
  refine tE_mono (one_gen (P := fun r => PostE W Z T env σ H r Q) (f := fun x env => truW env x >>= fun k => if k = true then .ok (x, env) else ev C G mb env) rl (fun _ h => h) id h) fun x H1 h => ?_
  obtain ⟨w, env1, S, R1, V, h⟩ := h
  obtain ⟨k, e1, h⟩ := post_tru (P := fun r => PostE W Z T env σ H r Q) h id
  have hd := truW_hold (V.hold (fun _ z => z) R1 fun a z => Tw_sub z) e1
  rw [g.K] at hd
  refine ⟨k, hd, ?_⟩
  cases k with
  | false => exact ⟨T, env1, R1.less fun a z => Tw_sub z, PostE.pre S h⟩
  | true => exact h x H1 S R1 V
theorem pm_cmp (g : Gd nm C G W k Z X) (op : CmpOp) (hm : behindInMarks op b = false) (ha : PE X a (tE C G W Z ma)) (hb : PE X b (tE C G W Z mb)) : PE X (.Compare a [op] [b] pos) (tE C G W Z (.cmp op ma mb)) := by
  refine pe_imp (pe_cmpR (op_cmp g.K g.dk g.units op) ha hb hm) fun σ H Q ⟨T, env, rl, h⟩ => ?_
  simp only [ev] at h
  refine tE_mono (two_gen (P := fun r => PostE W Z T env σ H r Q) (f := fun x y env => rdv env x >>= fun d => rdv env y >>= fun e => M.R.ofO (cmpD op d e) >>= fun k => .ok (.va (.bool k) false, env)) rl (fun _ h => h) id h) fun x H1 h => tE_mono h fun y H2 h => ?_
  obtain ⟨w1, w2, env2, S, R2, h1, h2, h⟩ := h
  obtain ⟨d, e1, h⟩ := post_rd (P := fun r => PostE W Z T env σ H r Q) h id
  obtain ⟨e, e2, h⟩ := post_rd (P := fun r => PostE W Z T env σ H r Q) h id
  obtain ⟨p, e3, h⟩ := post_of (P := fun r => PostE W Z T env σ H r Q) h id
  exact ⟨Av T env2 σ, d, e, p, h1 d e1, h2 e e2, e3, PostE.op h R2 S (Same.refl H2) (by show Rep _ _ _ _ _; simp only [Rep])⟩
theorem pm_isi (g : Gd nm C G W k Z X) {t : Ty} {y : Str} {p q : Pos} (hg : Gl X "isinstance") (hy : Gl X y) (ht : tyO y = some t) (ha : PE X a (tE C G W Z ma)) (hst : starEach [a, .Name y p] X.env = (false, eval a X.env) :: starEach [.Name y p] X.env) : PE X (.Call (.Name "isinstance" q) [a, .Name y p] [] pos) (tE C G W Z (.isi ma t)) := by
  have hb : PE X (.Name y p) (tC (.ty (tyN t))) := by
    unfold tyO at ht
    split at ht
    · rename_i e; subst e; cases ht; exact pe_bltn hy (g.blt _ (by decide)) (by decide +kernel) rfl
    · split at ht
      · rename_i e; subst e; cases ht; exact pe_bltn hy (g.blt _ (by decide)) (by decide +kernel) rfl
      · split at ht
        · rename_i e; subst e; cases ht; exact pe_bltn hy (g.blt _ (by decide)) (by decide +kernel) rfl
        · split at ht
          · rename_i e; subst e; cases ht; exact pe_bltn hy (g.blt _ (by decide)) (by decide +kernel) rfl
          · split at ht
            · rename_i e; subst e; cases ht; exact pe_bltn hy (g.blt _ (by decide)) (by decide +kernel) rfl
            · cases ht
  refine pe_imp (pe_callB (call_isiM g.K g.dk t) hg (g.blt _ (by decide)) (by decide +kernel) (pa_cons ha (pa_cons hb pa_nil) hst) (by decide) (by decide) hst) fun σ H Q ⟨T, env, rl, h⟩ => ?_
  simp only [ev] at h
  refine tE_mono (one_gen (P := fun r => PostE W Z T env σ H r Q) (f := fun x env => rdv env x >>= fun d => .ok (.va (.bool (isD t d)) false, env)) rl (fun _ h => h) id h) fun x H1 h => ?_
  obtain ⟨w, env1, S, R1, V, h⟩ := h
  obtain ⟨d, e1, h⟩ := post_rd (P := fun r => PostE W Z T env σ H r Q) h id
  have hd := (V.hold (fun _ z => z) R1 fun a z => Tw_sub z) d e1
  exact ⟨Av T env1 σ, d, x, rfl, hd, PostE.op h (R1.less fun a z => Tw_sub z) S (Same.refl H1) (by show Rep _ _ _ _ _; simp only [Rep])⟩
theorem pm_sub (g : Gd nm C G W k Z X) (hs : PlainIx b) (ha : PE X a (tE C G W Z ma)) (hb : PE X b (tE C G W Z mb)) : PE X (.Subscript a b pos) (tE C G W Z (.sub ma mb)) := by
  refine pe_imp (pe_ix (ix_sub g.K g.dk) ha hb hs) fun σ H Q ⟨T, env, rl, h⟩ => ?_
  simp only [ev] at h
  refine tE_mono (two_gen (P := fun r => PostE W Z T env σ H r Q) (f := fun x y env => rdv env x >>= fun d => rdv env y >>= fun e => M.R.ofO (subD d e) >>= fun k => .ok (.va k false, env)) rl (fun _ h => h) id h) fun x H1 h => tE_mono h fun y H2 h => ?_
  obtain ⟨w1, w2, env2, S, R2, h1, h2, h⟩ := h
  obtain ⟨d, e1, h⟩ := post_rd (P := fun r => PostE W Z T env σ H r Q) h id
  obtain ⟨e, e2, h⟩ := post_rd (P := fun r => PostE W Z T env σ H r Q) h id
  obtain ⟨p, e3, h⟩ := post_of (P := fun r => PostE W Z T env σ H r Q) h id
  exact ⟨Av T env2 σ, d, e, p, h1 d e1, h2 e e2, e3, fun v r => PostE.op h R2 S (Same.refl H2) r⟩
/-! ### tests -/
theorem pt_of (g : Gd nm C G W k Z X) (ha : PE X a (tE C G W Z ma)) (he : ∀ whole, isTrue a X.env whole = (do let v ← whole; standAt a.pos; holding [v] (truthy v))) : PT X a (tT C G W Z ma) := by
  refine pt_imp (pt_truth ha he) fun σ H Q h => ?_
  have q := tT_val h
  rw [g.K] at q
  exact q
theorem pt_cmpM (g : Gd nm C G W k Z X) (op : CmpOp) (hm : behindInMarks op b = false) (ha : PE X a (tE C G W Z ma)) (hb : PE X b (tE C G W Z mb)) : PT X (.Compare a [op] [b] pos) (tT C G W Z (.cmp op ma mb)) := by
  refine pt_imp (pt_cmpR (op_cmp g.K g.dk g.units op) ha hb hm) fun σ H Q ⟨T, env, rl, h⟩ => ?_
  unfold evT at h
  simp only [ev] at h
  show tE C G W Z ma σ H fun x H1 => tE C G W Z mb σ H1 fun y H2 => rCmp W op x y H2 (fun x H' => ∃ k, x = .bl k ∧ Q k H')
  have h : PostT W Z T env σ H (M.R.bind (ev C G ma env) fun p => M.R.bind (ev C G mb p.2) fun q => (rdv q.2 p.1 >>= fun d => rdv q.2 q.1 >>= fun e => M.R.ofO (cmpD op d e) >>= fun k => .ok (k, q.2))) Q := by
    cases e1 : ev C G ma env with
    | ok p =>
      rw [e1] at h
      show PostT W Z T env σ H (M.R.bind (ev C G mb p.2) fun q => (rdv q.2 p.1 >>= fun d => rdv q.2 q.1 >>= fun e => M.R.ofO (cmpD op d e) >>= fun k => .ok (k, q.2))) Q
      cases e2 : ev C G mb p.2 with
      | ok q =>
        simp only [bind, M.R.bind, e2] at h ⊢
        cases e3 : rdv q.2 p.1 with
        | ok d =>
          simp only [e3] at h ⊢
          cases e4 : rdv q.2 q.1 with
          | ok e =>
            simp only [e4] at h ⊢
            cases e5 : cmpD op d e with
            | some k =>
              simp only [e5, M.R.ofO, truW, rdv, truD, bind, M.R.bind] at h ⊢
              exact h
            | none => simp only [e5, M.R.ofO] at h ⊢; exact h
          | exc x => simp only [e4] at h ⊢; exact h
          | stuck => simp only [e4] at h ⊢; exact h
        | exc x => simp only [e3] at h ⊢; exact h
        | stuck => simp only [e3] at h ⊢; exact h
      | exc x => simp only [bind, M.R.bind, e2] at h ⊢; exact h
      | stuck => simp only [bind, M.R.bind, e2] at h ⊢; exact h
    | exc x => rw [e1] at h; exact h
    | stuck => rw [e1] at h; exact h
  refine tE_mono (two_gen (P := fun r => PostT W Z T env σ H r Q) (f := fun x y env => rdv env x >>= fun d => rdv env y >>= fun e => M.R.ofO (cmpD op d e) >>= fun k => .ok (k, env)) rl (fun _ h => h) id h) fun x H1 h => tE_mono h fun y H2 h => ?_
  obtain ⟨w1, w2, env2, S, R2, h1, h2, h⟩ := h
  obtain ⟨d, e1, h⟩ := post_rd (P := fun r => PostT W Z T env σ H r Q) h id
  obtain ⟨e, e2, h⟩ := post_rd (P := fun r => PostT W Z T env σ H r Q) h id
  obtain ⟨p, e3, h⟩ := post_of (P := fun r => PostT W Z T env σ H r Q) h id
  exact ⟨Av T env2 σ, d, e, p, h1 d e1, h2 e e2, e3, p, rfl, h H2 S R2⟩
end
end M
namespace M
open PySem L2 PyProof.Rows
/-! ### tests: and, or, not, chains -/
section
variable {C : CallT} {G : List PyData} {ma mb mc : ME} {env : Env}
theorem evT_and : evT C G (.and ma mb) env = (evT C G ma env >>= fun p => if p.1 = true then evT C G mb p.2 else .ok (false, p.2)) := by
  unfold evT
  simp only [ev]
  cases e1 : ev C G ma env with
  | ok p =>
    show (M.R.bind (M.R.bind (truW p.2 p.1) fun k => if k = true then ev C G mb p.2 else .ok (p.1, p.2)) fun p => M.R.bind (truW p.2 p.1) fun k => .ok (k, p.2)) = (M.R.bind (M.R.bind (truW p.2 p.1) fun k => .ok (k, p.2)) fun p => if p.1 = true then (M.R.bind (ev C G mb p.2) fun p => M.R.bind (truW p.2 p.1) fun k => .ok (k, p.2)) else .ok (false, p.2))
    cases e2 : truW p.2 p.1 with
    | ok k =>
      cases k with
      | true => rfl
      | false => simp only [M.R.bind, Bool.false_eq_true, if_false, e2]
    | exc x => rfl
    | stuck => rfl
  | exc x => rfl
  | stuck => rfl
theorem evT_or : evT C G (.or ma mb) env = (evT C G ma env >>= fun p => if p.1 = true then .ok (true, p.2) else evT C G mb p.2) := by
  unfold evT
  simp only [ev]
  cases e1 : ev C G ma env with
  | ok p =>
    show (M.R.bind (M.R.bind (truW p.2 p.1) fun k => if k = true then .ok (p.1, p.2) else ev C G mb p.2) fun p => M.R.bind (truW p.2 p.1) fun k => .ok (k, p.2)) = (M.R.bind (M.R.bind (truW p.2 p.1) fun k => .ok (k, p.2)) fun p => if p.1 = true then .ok (true, p.2) else (M.R.bind (ev C G mb p.2) fun p => M.R.bind (truW p.2 p.1) fun k => .ok (k, p.2)))
    cases e2 : truW p.2 p.1 with
    | ok k =>
      cases k with
      | true => simp only [M.R.bind, if_true, e2]
      | false => rfl
    | exc x => rfl
    | stuck => rfl
  | exc x => rfl
  | stuck => rfl
theorem evT_not : evT C G (.not ma) env = (evT C G ma env >>= fun p => .ok (!p.1, p.2)) := by
  unfold evT
  simp only [ev]
  cases e1 : ev C G ma env with
  | ok p =>
    show (M.R.bind (M.R.bind (truW p.2 p.1) fun k => .ok (.va (.bool (!k)) false, p.2)) fun p => M.R.bind (truW p.2 p.1) fun k => .ok (k, p.2)) = (M.R.bind (M.R.bind (truW p.2 p.1) fun k => .ok (k, p.2)) fun p => .ok (!p.1, p.2))
    cases e2 : truW p.2 p.1 with
    | ok k => rfl
    | exc x => rfl
    | stuck => rfl
  | exc x => rfl
  | stuck => rfl
end
section
variable {W : Wd} {Z : L2.WX} {T T1 T2 : Addr → Prop} {env env1 env2 env' : Env} {σ : St} {H H0 H1 H2 H' : Hp} {w : EV} {v : V} {C : CallT} {G : List PyData} {m ma mb mc : ME} {α : Type} {P : RE α → Prop}
theorem tT_gen {f : Bool × Env → RE α} (rl : Rel W T env σ H) (hX : ∀ x, P (.exc x) → PostX W Z T env σ H x) (hS : ¬ P .stuck) (h : P (M.R.bind (evT C G mc env) f)) :
    tT C G W Z mc σ H (fun k H1 => ∃ env1, Step env σ H env1 σ H1 ∧ Rel W T env1 σ H1 ∧ P (f (k, env1))) := by
  refine ⟨T, env, rl, ?_⟩
  cases e : evT C G mc env with
  | ok p => rw [e] at h; exact fun H1 S R1 => ⟨p.2, S, R1, h⟩
  | exc x => rw [e] at h; exact hX x h
  | stuck => rw [e] at h; exact (hS h).elim
end
section
variable {nm : Nm} {C : CallT} {G : List PyData} {W : Wd} {k : Nat} {Z : L2.WX} {X : Cx} {a b c e : Expr} {pos : Pos} {ma mb mc m : ME}
theorem pw_imp {e : Expr} {t t' : TT} (h : PW X e t) (i : ∀ σ H Q, t' σ H Q → t σ H Q) : PW X e t' := ⟨fun wh pins s σ H Q I q => h.run wh pins s σ H Q I (i _ _ _ q)⟩
theorem pw_andM {rest : List Expr} (ha : PT X a (tT C G W Z ma)) (hb : PW X (.BoolOp .And (b :: rest) pos) (tT C G W Z mb)) : PW X (.BoolOp .And (a :: b :: rest) pos) (tT C G W Z (.and ma mb)) := by
  refine pw_imp (pw_and ha hb) fun σ H Q ⟨T, env, rl, h⟩ => ?_
  rw [evT_and] at h
  refine tT_mono (tT_gen (P := fun r => PostT W Z T env σ H r Q) rl (fun _ h => h) id h) fun k H1 h => ?_
  obtain ⟨env1, S, R1, h⟩ := h
  cases k with
  | true => exact ⟨T, env1, R1, PostT.pre S h⟩
  | false => exact h H1 S R1
theorem pw_orM {rest : List Expr} (ha : PT X a (tT C G W Z ma)) (hb : PW X (.BoolOp .Or (b :: rest) pos) (tT C G W Z mb)) : PW X (.BoolOp .Or (a :: b :: rest) pos) (tT C G W Z (.or ma mb)) := by
  refine pw_imp (pw_or ha hb) fun σ H Q ⟨T, env, rl, h⟩ => ?_
  rw [evT_or] at h
  refine tT_mono (tT_gen (P := fun r => PostT W Z T env σ H r Q) rl (fun _ h => h) id h) fun k H1 h => ?_
  obtain ⟨env1, S, R1, h⟩ := h
  cases k with
  | false => exact ⟨T, env1, R1, PostT.pre S h⟩
  | true => exact h H1 S R1
theorem pt_notM (ha : PT X a (tT C G W Z ma)) : PT X (.UnaryOp .Not a pos) (tT C G W Z (.not ma)) := by
  refine pt_imp (pt_not ha) fun σ H Q ⟨T, env, rl, h⟩ => ?_
  rw [evT_not] at h
  refine tT_mono (tT_gen (P := fun r => PostT W Z T env σ H r Q) rl (fun _ h => h) id h) fun k H1 h => ?_
  obtain ⟨env1, S, R1, h⟩ := h
  exact h H1 S R1
theorem pm_ife (hc : PT X c (tT C G W Z mc)) (ha : PE X a (tE C G W Z ma)) (hb : PE X b (tE C G W Z mb)) : PE X (.IfExp c a b pos) (tE C G W Z (.ife mc ma mb)) := by
  refine pe_imp (pe_ifExp hc ha hb) fun σ H Q ⟨T, env, rl, h⟩ => ?_
  simp only [ev] at h
  refine tT_mono (test_gen (P := fun r => PostE W Z T env σ H r Q) (f := fun k env => if k = true then ev C G ma env else ev C G mb env) rl (fun _ h => h) id h) fun k H1 h => ?_
  obtain ⟨env1, S, R1, h⟩ := h
  cases k with
  | true => exact ⟨T, env1, R1, PostE.pre S h⟩
  | false => exact ⟨T, env1, R1, PostE.pre S h⟩
end
/-! ### freezing -/
section
variable {W : Wd} {Z : L2.WX} {T T1 T2 : Addr → Prop} {env env1 env2 env' : Env} {σ : St} {H H0 H1 H2 H' : Hp} {w : EV} {v : V} {d : PyData}
theorem own_rep {A : Addr → Prop} {a : Addr} (h : OwnAt W H A d a) {A' : Addr → Prop} (k : ∀ b, A' b → A b) (n : ¬ A' a) : Rep W H A' d (.ref a) := by
  cases d with
  | list ds =>
    obtain ⟨vs, e, z, r⟩ := h
    simp only [Rep]
    exact ⟨a, vs, rfl, .inl ⟨n, .inl e⟩, z, r.tr ⟨fun _ _ _ e => e, fun b m _ q => m (k b q)⟩⟩
  | _ => exact h.elim
theorem getElem?_set_ne' {α : Type} {l : List α} {i j : Nat} {x : α} (h : i ≠ j) : (l.set i x)[j]? = l[j]? := List.getElem?_set_ne h
theorem getElem?_set_eq' {α : Type} {l : List α} {i : Nat} {x y : α} (h : l[i]? = some y) : (l.set i x)[i]? = some x := List.getElem?_set_self (List.getElem?_eq_some_iff.mp h).1
/-- one slot's own list becomes shared -/
theorem owns_set_sh {i : Nat} {d d0 : PyData} {k0 : Own} (e : env[i]? = some (some (d0, k0))) {j : Nat} {b : Addr} (h : Owns (env.set i (some (d, .sh))) σ j b) : j ≠ i ∧ Owns env σ j b := by
  obtain ⟨d', k', e1, nk, e2⟩ := h
  by_cases hj : i = j
  · subst hj
    rw [getElem?_set_eq' e] at e1
    cases e1
    exact absurd rfl nk
  · rw [getElem?_set_ne' hj] at e1
    exact ⟨fun z => hj z.symm, d', k', e1, nk, e2⟩
theorem fz_ok (R1 : Rel W (Tw T w v) env σ H) (V : VOk W T H0 H env σ w v) (e : fzv env w = .ok (d, env')) : Step env σ H env' σ H ∧ Rel W T env' σ H ∧ Rep W H (Av T env' σ) d v := by
  cases w with
  | va d' fr =>
    cases e
    refine ⟨.refl, R1.less fun a z => Tw_sub z, ?_⟩
    cases fr with
    | false => exact V
    | true =>
      obtain ⟨a, rfl, n, _, o⟩ := V
      exact own_rep o (fun b q => .inl q) fun q => q.elim n (R1.prot a (.inr rfl)).1
  | sl i =>
    have V : σ[i]? = some (some v) := V
    simp only [fzv] at e
    split at e
    · rename_i d' q
      cases e
      obtain ⟨v', e1, e2⟩ := R1.slot i d .ow q
      rw [V] at e1
      cases e1
      obtain ⟨a, rfl, o⟩ := e2
      have oa : Owns env σ i a := ⟨d, .ow, q, by decide, V⟩
      have less : ∀ b, Av T (env.set i (some (d, .sh))) σ b → Av T env σ b := fun b z => z.elim .inl fun ⟨j, hj⟩ => .inr ⟨j, (owns_set_sh q hj).2⟩
      have na : ¬ Av T (env.set i (some (d, .sh))) σ a := fun z => by
        rcases z with z | ⟨j, hj⟩
        · exact (R1.prot a z).1 ⟨i, oa⟩
        · obtain ⟨nj, oj⟩ := owns_set_sh q hj
          exact nj (R1.inj j i a oj oa)
      refine ⟨⟨fun _ _ e _ => e, fun b ⟨j, hj⟩ => .inl ⟨j, (owns_set_sh q hj).2⟩, fun _ z => z, fun j d' k' hk e => ?_⟩, ⟨by rw [List.length_set]; exact R1.len, fun j d' k' e => ?_, fun j j' b h1 h2 => R1.inj j j' b (owns_set_sh q h1).2 (owns_set_sh q h2).2, fun b z => ⟨fun ⟨j, hj⟩ => (R1.prot b z).1 ⟨j, (owns_set_sh q hj).2⟩, (R1.prot b z).2⟩⟩, own_rep o less na⟩
      · by_cases hj : i = j
        · subst hj
          rw [q] at e
          cases e
          rcases hk with h | h <;> cases h
        · exact ⟨d', by rw [getElem?_set_ne' hj]; exact e, rfl, fun _ => rfl⟩
      · by_cases hj : i = j
        · subst hj
          rw [getElem?_set_eq' q] at e
          cases e
          exact ⟨.ref a, V, own_rep o less na⟩
        · rw [getElem?_set_ne' hj] at e
          obtain ⟨v', e1, e2⟩ := R1.slot j d' k' e
          exact ⟨v', e1, e2.tr ⟨fun _ _ _ e => e, fun b n _ q => n (less b q)⟩ fun _ _ _ _ e => e⟩
    · rename_i d' q
      cases e
      obtain ⟨v', e1, e2⟩ := R1.slot i d .sh q
      rw [V] at e1
      cases e1
      exact ⟨.refl, R1.less fun a z => Tw_sub z, e2⟩
    · cases e
theorem post_fz {α : Type} {f : PyData × Env → RE α} {P : RE α → Prop} (h : P (M.R.bind (fzv env w) f)) (n : ¬ P .stuck) : ∃ p, fzv env w = .ok p ∧ P (f p) := by
  cases e : fzv env w with
  | ok d => rw [e] at h; exact ⟨d, rfl, h⟩
  | exc x => cases w <;> simp only [fzv] at e <;> (try split at e) <;> cases e
  | stuck => rw [e] at h; exact (n h).elim
theorem fzn_ok {p : PyData × Env} (h : fzn env w = .ok p) : fzv env w = .ok p ∧ ndD p.1 := by
  unfold fzn at h
  split at h
  · rename_i d env' e
    split at h
    · rename_i hn
      cases h
      exact ⟨e, ndB_iff hn⟩
    · cases h
  · cases h
  · cases h
theorem post_fzn {α : Type} {f : PyData × Env → RE α} {P : RE α → Prop} (h : P (M.R.bind (fzn env w) f)) (n : ¬ P .stuck) : ∃ p, fzv env w = .ok p ∧ ndD p.1 ∧ P (f p) := by
  cases e : fzn env w with
  | ok d => rw [e] at h; exact ⟨d, (fzn_ok e).1, (fzn_ok e).2, h⟩
  | exc x =>
    unfold fzn at e
    split at e
    · split at e <;> cases e
    · rename_i x' q
      cases w <;> simp only [fzv] at q <;> (try split at q) <;> cases q
    · cases e
  | stuck => rw [e] at h; exact (n h).elim
end
end M
namespace M
open PySem L2 PyProof.Rows
/-- a value that waits, kept apart no more -/
def HoldS (W : Wd) (T : Addr → Prop) (env : Env) (σ : St) (H : Hp) : EV → V → Prop
  | .va d _, v => Rep W H (Av T env σ) d v
  | .sl i, v => σ[i]? = some (some v)
def HoldL (W : Wd) (T : Addr → Prop) (env : Env) (σ : St) (H : Hp) : List EV → List V → Prop
  | [], vs => vs = []
  | w :: ws, vs => ∃ v r, vs = v :: r ∧ HoldS W T env σ H w v ∧ HoldL W T env σ H ws r
def PostL (W : Wd) (Z : L2.WX) (T : Addr → Prop) (env : Env) (σ : St) (H : Hp) (r : RE (List EV × Env)) (Q : List V → Hp → Prop) : Prop :=
  match r with
  | .ok p => ∀ vs H', Step env σ H p.2 σ H' → Rel W T p.2 σ H' → HoldL W T p.2 σ H' p.1 vs → Q vs H'
  | .exc x => PostX W Z T env σ H x
  | .stuck => False
def tLE (C : CallT) (G : List PyData) (W : Wd) (Z : L2.WX) (ms : List ME) : TA := fun σ H Q => ∃ T env, Rel W T env σ H ∧ PostL W Z T env σ H (evE C G ms env) Q
def PostA (W : Wd) (Z : L2.WX) (T : Addr → Prop) (env : Env) (σ : St) (H : Hp) (r : RE (List PyData × Env)) (Q : List V → Hp → Prop) : Prop :=
  match r with
  | .ok p => ∀ vs H', Step env σ H p.2 σ H' → Rel W T p.2 σ H' → RepAll W H' (Av T p.2 σ) p.1 vs → Q vs H'
  | .exc x => PostX W Z T env σ H x
  | .stuck => False
def tLA (C : CallT) (G : List PyData) (W : Wd) (Z : L2.WX) (ms : List ME) : TA := fun σ H Q => ∃ T env, Rel W T env σ H ∧ PostA W Z T env σ H (evA C G ms env) Q
def ArgL (W : Wd) (T : Addr → Prop) (env : Env) (σ : St) (H : Hp) : List (Sum Nat PyData) → List V → Prop
  | [], vs => vs = []
  | .inr d :: as, vs => ∃ v r, vs = v :: r ∧ Rep W H (Av T env σ) d v ∧ ArgL W T env σ H as r
  | .inl i :: as, vs => ∃ v r, vs = v :: r ∧ σ[i]? = some (some v) ∧ ArgL W T env σ H as r
def PostG (W : Wd) (Z : L2.WX) (T : Addr → Prop) (env : Env) (σ : St) (H : Hp) (r : RE (List (Sum Nat PyData) × Env)) (Q : List V → Hp → Prop) : Prop :=
  match r with
  | .ok p => ∀ vs H', Step env σ H p.2 σ H' → Rel W T p.2 σ H' → ArgL W T p.2 σ H' p.1 vs → Q vs H'
  | .exc x => PostX W Z T env σ H x
  | .stuck => False
def tLG (C : CallT) (G : List PyData) (W : Wd) (Z : L2.WX) (ms : List ME) : TA := fun σ H Q => ∃ T env, Rel W T env σ H ∧ PostG W Z T env σ H (evG C G ms env) Q
theorem pa_imp {X : Cx} {es : List Expr} {t t' : TA} (h : PA X es t) (i : ∀ σ H Q, t' σ H Q → t σ H Q) : PA X es t' := ⟨fun pos pins s σ H Q I q => h.run pos pins s σ H Q I (i _ _ _ q)⟩
section
variable {W : Wd} {Z : L2.WX} {T T1 T2 : Addr → Prop} {env env1 env2 env' : Env} {σ : St} {H H0 H1 H2 H' : Hp} {w : EV} {v : V} {C : CallT} {G : List PyData} {m : ME} {ms : List ME}
theorem Rb.less {A A' : Addr → Prop} {d : PyData} (h : Rb W H A d v) (k : ∀ a, A' a → A a) : Rb W H A' d v := by
  rcases h with h | ⟨a, e, h⟩
  · exact .inl (Rep.less h k)
  · exact .inr ⟨a, e, h.less k⟩
theorem Hold.less (h : Hold W T1 env σ H w v) (k : ∀ a, T a → T1 a) : Hold W T env σ H w v := fun d e => (h d e).less (av_less k)
theorem HoldS.less (h : HoldS W T1 env σ H w v) (k : ∀ a, T a → T1 a) : HoldS W T env σ H w v := by
  cases w with
  | va d fr => exact Rep.less (show Rep W H (Av T1 env σ) d v from h) (av_less k)
  | sl i => exact h
theorem VOk.holdS (R : Rel W T2 env σ H) (hT : ∀ a, Tw T w v a → T2 a) (h : VOk W T H0 H env σ w v) : HoldS W T env σ H w v := by
  cases w with
  | va d fr =>
    cases fr with
    | false => exact h
    | true =>
      obtain ⟨a, rfl, n, _, o⟩ := h
      exact own_rep o (fun b q => .inl q) fun q => q.elim n (R.prot a (hT a (.inr rfl))).1
  | sl i => exact h
theorem HoldS.hold (R : Rel W T env σ H) (h : HoldS W T env σ H w v) : Hold W T env σ H w v := by
  cases w with
  | va d fr => exact fun d' e => by cases e; exact .inl h
  | sl i => exact VOk.hold (T1 := T) (H0 := H) (fun _ z => z) R (fun _ z => z) h
theorem HoldS.step (h : HoldS W T env σ H w v) (S : Step env σ H env' σ H') : HoldS W T env' σ H' w v := by
  cases w with
  | va d fr => exact Rep.tr (S.tr (T := T) (T' := T) fun _ z => .inl z) (show Rep W H (Av T env σ) d v from h)
  | sl i => exact h
theorem HoldL.less (k : ∀ a, T a → T1 a) : ∀ {ws : List EV} {vs : List V}, HoldL W T1 env σ H ws vs → HoldL W T env σ H ws vs
  | [], _, h => h
  | w :: ws, _, h => by
    obtain ⟨v, r, e, h1, h2⟩ := h
    exact ⟨v, r, e, h1.less k, HoldL.less k h2⟩
theorem HoldL.rd (R : Rel W T env σ H) : ∀ {ws : List EV} {vs : List V} {ds : List PyData}, HoldL W T env σ H ws vs → rdAll env ws = .ok ds → RbAll W H (Av T env σ) ds vs
  | [], _, _, h, e => by cases e; exact h
  | w :: ws, _, ds, h, e => by
    obtain ⟨v, r, e1, h1, h2⟩ := h
    unfold rdAll at e
    cases q1 : rdv env w with
    | ok d =>
      cases q2 : rdAll env ws with
      | ok es =>
        simp only [bind, M.R.bind, q1, q2] at e
        cases e
        exact ⟨v, r, e1, h1.hold R d q1, HoldL.rd R h2 q2⟩
      | exc x => simp only [bind, M.R.bind, q1, q2] at e; cases e
      | stuck => simp only [bind, M.R.bind, q1, q2] at e; cases e
    | exc x => simp only [bind, M.R.bind, q1] at e; cases e
    | stuck => simp only [bind, M.R.bind, q1] at e; cases e
theorem rdAll_noexc : ∀ {ws : List EV} {x : Exn × Env}, rdAll env ws = .exc x → False
  | [], _, e => by cases e
  | w :: ws, x, e => by
    unfold rdAll at e
    cases q1 : rdv env w with
    | ok d =>
      cases q2 : rdAll env ws with
      | ok es => simp only [bind, M.R.bind, q1, q2] at e; cases e
      | exc y => exact rdAll_noexc q2
      | stuck => simp only [bind, M.R.bind, q1, q2] at e; cases e
    | exc y => cases w <;> simp only [rdv] at q1 <;> (try split at q1) <;> cases q1
    | stuck => simp only [bind, M.R.bind, q1] at e; cases e
theorem post_rdAll {ws : List EV} {α : Type} {f : List PyData → RE α} {P : RE α → Prop} (h : P (M.R.bind (rdAll env ws) f)) (n : ¬ P .stuck) : ∃ d, rdAll env ws = .ok d ∧ P (f d) := by
  cases e : rdAll env ws with
  | ok d => rw [e] at h; exact ⟨d, rfl, h⟩
  | exc x => exact (rdAll_noexc e).elim
  | stuck => rw [e] at h; exact (n h).elim
theorem ArgL.step (S : Step env σ H env' σ H') : ∀ {as : List (Sum Nat PyData)} {vs : List V}, ArgL W T env σ H as vs → ArgL W T env' σ H' as vs
  | [], _, h => h
  | .inr d :: as, _, h => by
    obtain ⟨v, r, e, h1, h2⟩ := h
    exact ⟨v, r, e, Rep.tr (S.tr (T := T) (T' := T) fun _ z => .inl z) h1, ArgL.step S h2⟩
  | .inl i :: as, _, h => by
    obtain ⟨v, r, e, h1, h2⟩ := h
    exact ⟨v, r, e, h1, ArgL.step S h2⟩
end
section
variable {nm : Nm} {C : CallT} {G : List PyData} {W : Wd} {k : Nat} {Z : L2.WX} {X : Cx} {a b c e : Expr} {es : List Expr} {pos : Pos} {ma mb mc m : ME} {ms : List ME}
theorem pl_nil : PA X [] (tLE C G W Z []) := pa_imp pa_nil fun σ H Q ⟨T, env, rl, h⟩ => by
  simp only [evE] at h
  exact h [] H .refl rl rfl
theorem pl_cons (he : PE X e (tE C G W Z m)) (hes : PA X es (tLE C G W Z ms)) (hs : starEach (e :: es) X.env = (false, eval e X.env) :: starEach es X.env) : PA X (e :: es) (tLE C G W Z (m :: ms)) := by
  refine pa_imp (pa_cons he hes hs) fun σ H Q ⟨T, env, rl, h⟩ => ?_
  simp only [evE] at h
  refine tE_mono (one_gen (P := fun r => PostL W Z T env σ H r Q) (f := fun w env => evE C G ms env >>= fun q => .ok (w :: q.1, q.2)) rl (fun _ h => h) id h) fun x H1 h => ?_
  obtain ⟨w, env1, S, R1, V, h⟩ := h
  refine ⟨Tw T w x, env1, R1, ?_⟩
  cases e1 : evE C G ms env1 with
  | ok q =>
    simp only [bind, M.R.bind, e1] at h
    refine fun vs H2 S2 R2 hl => h (x :: vs) H2 (S.trans S2) (R2.less fun a z => Tw_sub z) ⟨x, vs, rfl, ?_, hl.less fun a z => Tw_sub z⟩
    exact (V.step R1 S2).holdS R2 (fun _ z => z)
  | exc y => simp only [bind, M.R.bind, e1] at h; exact PostX.pre S (fun _ z => Tw_sub z) h
  | stuck => simp only [bind, M.R.bind, e1] at h; exact h
theorem pl_nilA : PA X [] (tLA C G W Z []) := pa_imp pa_nil fun σ H Q ⟨T, env, rl, h⟩ => by
  simp only [evA] at h
  exact h [] H .refl rl (by simp only [RepAll])
theorem pl_consA (he : PE X e (tE C G W Z m)) (hes : PA X es (tLA C G W Z ms)) (hs : starEach (e :: es) X.env = (false, eval e X.env) :: starEach es X.env) : PA X (e :: es) (tLA C G W Z (m :: ms)) := by
  refine pa_imp (pa_cons he hes hs) fun σ H Q ⟨T, env, rl, h⟩ => ?_
  simp only [evA] at h
  refine tE_mono (one_gen (P := fun r => PostA W Z T env σ H r Q) (f := fun w env => fzn env w >>= fun p => evA C G ms p.2 >>= fun q => .ok (p.1 :: q.1, q.2)) rl (fun _ h => h) id h) fun x H1 h => ?_
  obtain ⟨w, env1, S, R1, V, h⟩ := h
  obtain ⟨p, e1, n1, h⟩ := post_fzn (P := fun r => PostA W Z T env σ H r Q) h id
  obtain ⟨S1, R2, r1⟩ := fz_ok R1 V (show fzv env1 w = .ok (p.1, p.2) from e1)
  refine ⟨T, p.2, R2, ?_⟩
  cases e2 : evA C G ms p.2 with
  | ok q =>
    simp only [bind, M.R.bind, e2] at h
    exact fun vs H2 S2 R3 hl => h (x :: vs) H2 ((S.trans S1).trans S2) R3 (RepAll.cons n1 (Rep.tr (S2.tr (T := T) (T' := T) fun _ z => .inl z) r1) hl)
  | exc y => simp only [bind, M.R.bind, e2] at h; exact PostX.pre (S.trans S1) (fun _ z => z) h
  | stuck => simp only [bind, M.R.bind, e2] at h; exact h
theorem pl_nilG : PA X [] (tLG C G W Z []) := pa_imp pa_nil fun σ H Q ⟨T, env, rl, h⟩ => by
  simp only [evG] at h
  exact h [] H .refl rl rfl
theorem evG_val {env : Env} (hm : ∀ i, m ≠ .ref i) : evG C G (m :: ms) env = (ev C G m env >>= fun p => fzv p.2 p.1 >>= fun p => evG C G ms p.2 >>= fun q => .ok (.inr p.1 :: q.1, q.2)) := by
  cases m with
  | ref i => exact absurd rfl (hm i)
  | _ => simp only [evG]
theorem pl_consG (hm : ∀ i, m ≠ .ref i) (he : PE X e (tE C G W Z m)) (hes : PA X es (tLG C G W Z ms)) (hs : starEach (e :: es) X.env = (false, eval e X.env) :: starEach es X.env) : PA X (e :: es) (tLG C G W Z (m :: ms)) := by
  refine pa_imp (pa_cons he hes hs) fun σ H Q ⟨T, env, rl, h⟩ => ?_
  rw [evG_val hm] at h
  refine tE_mono (one_gen (P := fun r => PostG W Z T env σ H r Q) (f := fun w env => fzv env w >>= fun p => evG C G ms p.2 >>= fun q => .ok (.inr p.1 :: q.1, q.2)) rl (fun _ h => h) id h) fun x H1 h => ?_
  obtain ⟨w, env1, S, R1, V, h⟩ := h
  obtain ⟨p, e1, h⟩ := post_fz (P := fun r => PostG W Z T env σ H r Q) h id
  obtain ⟨S1, R2, r1⟩ := fz_ok R1 V (show fzv env1 w = .ok (p.1, p.2) from e1)
  refine ⟨T, p.2, R2, ?_⟩
  cases e2 : evG C G ms p.2 with
  | ok q =>
    simp only [bind, M.R.bind, e2] at h
    exact fun vs H2 S2 R3 hl => h (x :: vs) H2 ((S.trans S1).trans S2) R3 ⟨x, vs, rfl, Rep.tr (S2.tr (T := T) (T' := T) fun _ z => .inl z) r1, hl⟩
  | exc y => simp only [bind, M.R.bind, e2] at h; exact PostX.pre (S.trans S1) (fun _ z => z) h
  | stuck => simp only [bind, M.R.bind, e2] at h; exact h
theorem pl_consR {i : Nat} (he : PE X e (tVar i)) (hes : PA X es (tLG C G W Z ms)) (hs : starEach (e :: es) X.env = (false, eval e X.env) :: starEach es X.env) : PA X (e :: es) (tLG C G W Z (.ref i :: ms)) := by
  refine pa_imp (pa_cons he hes hs) fun σ H Q ⟨T, env, rl, h⟩ => ?_
  simp only [evG] at h
  split at h
  · rename_i ho
    have : ∃ d k, env[i]? = some (some (d, k)) := by
      unfold ownS at ho
      split at ho
      · rename_i d q; exact ⟨_, _, q⟩
      · rename_i d q; exact ⟨_, _, q⟩
      · cases ho
    obtain ⟨d, k, q⟩ := this
    obtain ⟨v, e1, _⟩ := rl.slot i d k q
    refine ⟨v, e1, T, env, rl, ?_⟩
    cases e2 : evG C G ms env with
    | ok q =>
      simp only [bind, M.R.bind, e2] at h
      exact fun vs H2 S2 R3 hl => h (v :: vs) H2 S2 R3 ⟨v, vs, rfl, e1, hl⟩
    | exc y => simp only [bind, M.R.bind, e2] at h; exact h
    | stuck => simp only [bind, M.R.bind, e2] at h; exact h
  · exact h.elim
/-! ### displays, built-ins -/
theorem pm_tup {x1 : Nat} (h : PA X es (tLA C G W Z ms)) : PE X (.Tuple es x1 pos) (tE C G W Z (.tup ms)) := by
  refine pe_imp (pe_tup h) fun σ H Q ⟨T, env, rl, h⟩ => ?_
  simp only [ev] at h
  refine ⟨T, env, rl, ?_⟩
  cases e1 : evA C G ms env with
  | ok p =>
    simp only [bind, M.R.bind, e1] at h
    split at h
    · rename_i hz
      refine fun vs H1 S R1 r => ⟨by rw [r.length]; exact hz, fun p hp => ?_⟩
      exact PostE.op h R1 S (same_upd hp) (new_tup (avOk R1) hp (by rw [r.length]; exact hz) r)
    · exact h.elim
  | exc y => simp only [bind, M.R.bind, e1] at h; exact h
  | stuck => simp only [bind, M.R.bind, e1] at h; exact h
theorem pm_lst (h : PA X es (tLA C G W Z ms)) : PE X (.List es pos) (tE C G W Z (.lst ms)) := by
  refine pe_imp (pe_lst h) fun σ H Q ⟨T, env, rl, h⟩ => ?_
  simp only [ev] at h
  refine ⟨T, env, rl, ?_⟩
  cases e1 : evA C G ms env with
  | ok p =>
    simp only [bind, M.R.bind, e1] at h
    split at h
    · rename_i hz
      refine fun vs H1 S R1 r => ⟨by rw [r.length]; exact hz, fun p hp => ?_⟩
      exact PostE.op h R1 S (same_upd hp) (new_lst hp (by rw [r.length]; exact hz) r)
    · exact h.elim
  | exc y => simp only [bind, M.R.bind, e1] at h; exact h
  | stuck => simp only [bind, M.R.bind, e1] at h; exact h
theorem tLE_blt {bl : Blt} {Q : VK} {σ : St} {H : Hp} (h : tE C G W Z (.blt bl ms) σ H Q) : tLE C G W Z ms σ H (fun vs H1 => rBlt W bl vs H1 Q) := by
  obtain ⟨T, env, rl, h⟩ := h
  simp only [ev] at h
  refine ⟨T, env, rl, ?_⟩
  cases e1 : evE C G ms env with
  | ok p =>
    rw [e1] at h
    have h : PostE W Z T env σ H (rdAll p.2 p.1 >>= fun ds => M.R.ofO (bltD bl ds) >>= fun q => .ok (.va q.1 q.2, p.2)) Q := h
    obtain ⟨ds, e2, h⟩ := post_rdAll (P := fun r => PostE W Z T env σ H r Q) h id
    obtain ⟨q, e3, h⟩ := post_of (P := fun r => PostE W Z T env σ H r Q) h id
    exact fun vs H1 S R1 hl => ⟨Av T p.2 σ, ds, q, avOk R1, hl.rd R1 e2, e3, fun v H' s r => PostE.op h R1 S s r⟩
  | exc y => rw [e1] at h; exact h
  | stuck => rw [e1] at h; exact h
theorem pm_sset (g : Gd nm C G W k Z X) {p q q2 : Pos} (hg : Gl X "sorted") (hg2 : Gl X "set") (he : PE X e (tE C G W Z m)) (hst : starEach [e] X.env = (false, eval e X.env) :: starEach [] X.env) :
    PE X (.Call (.Name "sorted" p) [.Call (.Name "set" q) [e] [] q2] [] pos) (tE C G W Z (.blt .sset [m])) := by
  refine pe_imp (pe_callB (cr_sortedT g.calm) hg (g.blt _ (by decide)) (by decide +kernel) (pa_cons (pe_callTy (cr_setOfT g.calm (by have := g.units; omega)) hg2 (g.blt _ (by decide)) (by decide +kernel) (pa_cons he pa_nil hst) (by decide) (by decide) hst) pa_nil)) fun σ H Q h => ?_
  obtain ⟨T, env, rl, h⟩ := h
  simp only [ev, evE] at h
  show tE C G W Z m σ H fun x H1 => rSetOfT X.K X.prog X.w [x] H1 fun z H2 => rSortedT X.K X.prog X.w [z] H2 Q
  refine ⟨T, env, rl, ?_⟩
  cases e1 : ev C G m env with
  | ok p =>
    rw [e1] at h
    have h : PostE W Z T env σ H (rdAll p.2 [p.1] >>= fun ds => M.R.ofO (bltD .sset ds) >>= fun q => .ok (.va q.1 q.2, p.2)) Q := h
    obtain ⟨ds, e2, h⟩ := post_rdAll (P := fun r => PostE W Z T env σ H r Q) h id
    obtain ⟨q, e3, h⟩ := post_of (P := fun r => PostE W Z T env σ H r Q) h id
    intro x H1 S R1 V
    have R0 := R1.less (T' := T) fun a z => Tw_sub z
    have hl : HoldL W T p.2 σ H1 [p.1] [x] := ⟨x, [], rfl, V.holdS R1 (fun _ z => z), rfl⟩
    have hr := hl.rd R0 e2
    match ds, e3, hr with
    | [.list xs], e3, hr =>
      obtain ⟨v, ev, hv⟩ := hr.one
      cases ev
      simp only [bltD] at e3
      split at e3
      · rename_i hz
        cases e4 : pairsD xs with
        | none => rw [e4] at e3; cases e3
        | some ps =>
          rw [e4] at e3
          cases e3
          exact sset_read g.K (avOk R0) hv e4 hz fun v H' s r => PostE.op h R0 S s r
      · cases e3
  | exc y => rw [e1] at h; exact h
  | stuck => rw [e1] at h; exact h
end
end M
namespace M
open PySem L2 PyProof.Rows
/-! ### slices -/
def PostO (W : Wd) (Z : L2.WX) (T : Addr → Prop) (env : Env) (σ : St) (H : Hp) (r : RE (Option Int × Env)) (Q : Option Int → Hp → Prop) : Prop :=
  match r with
  | .ok p => ∀ H', Step env σ H p.2 σ H' → Rel W T p.2 σ H' → Q p.1 H'
  | .exc x => PostX W Z T env σ H x
  | .stuck => False
def tO (C : CallT) (G : List PyData) (W : Wd) (Z : L2.WX) (m : Option ME) : TO := fun σ H Q => ∃ T env, Rel W T env σ H ∧ PostO W Z T env σ H (evO C G m env) Q
theorem po_imp {X : Cx} {e : Option Expr} {t t' : TO} (h : PO X e t) (i : ∀ σ H Q, t' σ H Q → t σ H Q) : PO X e t' := ⟨fun pins s σ H Q I q => h.run pins s σ H Q I (i _ _ _ q)⟩
section
variable {nm : Nm} {C : CallT} {G : List PyData} {W : Wd} {k : Nat} {Z : L2.WX} {X : Cx} {a b c e : Expr} {es : List Expr} {pos p2 : Pos} {ma mb mc m : ME} {ms : List ME} {lo hi : Option Expr} {ml mh : Option ME}
theorem po_noneM : PO X none (tO C G W Z none) := po_imp po_none fun σ H Q ⟨T, env, rl, h⟩ => by
  simp only [evO] at h
  exact h H .refl rl
theorem po_someM (ha : PE X a (tE C G W Z ma)) : PO X (some a) (tO C G W Z (some ma)) := by
  refine po_imp (po_some ha) fun σ H Q ⟨T, env, rl, h⟩ => ?_
  simp only [evO] at h
  refine tE_mono (one_gen (P := fun r => PostO W Z T env σ H r Q) (f := fun x env => rdv env x >>= fun d => match d with | .int i => .ok (some i, env) | _ => .stuck) rl (fun _ h => h) id h) fun x H1 h => ?_
  obtain ⟨w, env1, S, R1, V, h⟩ := h
  obtain ⟨d, e1, h⟩ := post_rd (P := fun r => PostO W Z T env σ H r Q) h id
  have hd := (V.hold (fun _ z => z) R1 fun a z => Tw_sub z) d e1
  cases d with
  | int i => exact ⟨i, hd.int, h H1 S (R1.less fun a z => Tw_sub z)⟩
  | _ => exact h.elim
theorem pm_slc (g : Gd nm C G W k Z X) (ha : PE X a (tE C G W Z ma)) (hl : PO X lo (tO C G W Z ml)) (hh : PO X hi (tO C G W Z mh)) : PE X (.Subscript a (.Slice lo hi none p2) pos) (tE C G W Z (.slc ma ml mh)) := by
  refine pe_imp (pe_slice (sl_slc g.K) ha hl hh) fun σ H Q ⟨T, env, rl, h⟩ => ?_
  simp only [ev] at h
  refine tE_mono (one_gen (P := fun r => PostE W Z T env σ H r Q) (f := fun x env => evO C G ml env >>= fun l => evO C G mh l.2 >>= fun h => rdv h.2 x >>= fun d => M.R.ofO (slcD d l.1 h.1) >>= fun p => .ok (.va p.1 p.2, h.2)) rl (fun _ h => h) id h) fun x H1 h => ?_
  obtain ⟨w, env1, S, R1, V, h⟩ := h
  refine ⟨Tw T w x, env1, R1, ?_⟩
  cases e1 : evO C G ml env1 with
  | ok l =>
    rw [e1] at h
    intro H2 S2 R2
    refine ⟨Tw T w x, l.2, R2, ?_⟩
    have h : PostE W Z T env σ H (evO C G mh l.2 >>= fun h => rdv h.2 w >>= fun d => M.R.ofO (slcD d l.1 h.1) >>= fun p => .ok (.va p.1 p.2, h.2)) Q := h
    cases e2 : evO C G mh l.2 with
    | ok u =>
      rw [e2] at h
      intro H3 S3 R3
      have h : PostE W Z T env σ H (rdv u.2 w >>= fun d => M.R.ofO (slcD d l.1 u.1) >>= fun p => .ok (.va p.1 p.2, u.2)) Q := h
      obtain ⟨d, e3, h⟩ := post_rd (P := fun r => PostE W Z T env σ H r Q) h id
      obtain ⟨p, e4, h⟩ := post_of (P := fun r => PostE W Z T env σ H r Q) h id
      have hd := (((V.step R1 S2).step R2 S3).hold (fun _ z => z) R3 fun a z => Tw_sub z) d e3
      have R0 := R3.less (T' := T) fun a z => Tw_sub z
      exact ⟨Av T u.2 σ, d, p, avOk R0, hd, e4, fun v H' s r => PostE.op h R0 ((S.trans S2).trans S3) s r⟩
    | exc y => rw [e2] at h; exact PostX.pre (S.trans S2) (fun _ z => Tw_sub z) h
    | stuck => rw [e2] at h; exact h
  | exc y => rw [e1] at h; exact PostX.pre S (fun _ z => Tw_sub z) h
  | stuck => rw [e1] at h; exact h
/-! ### chains -/
theorem chn_read {op op' : CmpOp} {Q : VK} {σ : St} {H : Hp} (hK : W.K = X.K) (h : tE C G W Z (.chn op op' ma mb mc) σ H Q) :
    tE C G W Z ma σ H fun x H1 => tE C G W Z mb σ H1 fun y H2 => rCmp W op x y H2 fun z H3 => ∃ k, z = .bl k ∧ (if k = true then tE C G W Z mc σ H3 fun w' H4 => rCmp W op' y w' H4 Q else Q (.bl false) H3) := by
  obtain ⟨T, env, rl, h⟩ := h
  simp only [ev] at h
  refine tE_mono (one_gen (P := fun r => PostE W Z T env σ H r Q) (f := fun x env => ev C G mb env >>= fun y => rdv y.2 x >>= fun d => rdv y.2 y.1 >>= fun e => M.R.ofO (cmpD op d e) >>= fun k => if k = true then ev C G mc y.2 >>= fun z => rdv z.2 y.1 >>= fun e => rdv z.2 z.1 >>= fun g => M.R.ofO (cmpD op' e g) >>= fun k => .ok (.va (.bool k) false, z.2) else .ok (.va (.bool false) false, y.2)) rl (fun _ h => h) id h) fun x H1 h => ?_
  obtain ⟨w, env1, S, R1, V, h⟩ := h
  refine ⟨Tw T w x, env1, R1, ?_⟩
  cases e1 : ev C G mb env1 with
  | ok y =>
    rw [e1] at h
    intro v2 H2 S2 R2 V2
    have h : PostE W Z T env σ H (rdv y.2 w >>= fun d => rdv y.2 y.1 >>= fun e => M.R.ofO (cmpD op d e) >>= fun k => if k = true then ev C G mc y.2 >>= fun z => rdv z.2 y.1 >>= fun e => rdv z.2 z.1 >>= fun g => M.R.ofO (cmpD op' e g) >>= fun k => .ok (.va (.bool k) false, z.2) else .ok (.va (.bool false) false, y.2)) Q := h
    obtain ⟨d, e2, h⟩ := post_rd (P := fun r => PostE W Z T env σ H r Q) h id
    obtain ⟨e, e3, h⟩ := post_rd (P := fun r => PostE W Z T env σ H r Q) h id
    obtain ⟨k, e4, h⟩ := post_of (P := fun r => PostE W Z T env σ H r Q) h id
    have hd := ((V.step R1 S2).hold (T := T) (fun _ z => z) R2 fun a z => Tw_sub (Tw_sub z)) d e2
    have he := (V2.hold (T := T) (fun _ z => Tw_sub z) R2 fun a z => Tw_sub (Tw_sub z)) e e3
    refine ⟨Av T y.2 σ, d, e, k, hd, he, e4, k, rfl, ?_⟩
    cases k with
    | false => exact PostE.op h (R2.less fun a z => Tw_sub (Tw_sub z)) (S.trans S2) (Same.refl H2) (by show Rep _ _ _ _ _; simp only [Rep])
    | true =>
      have h : PostE W Z T env σ H (ev C G mc y.2 >>= fun z => rdv z.2 y.1 >>= fun e => rdv z.2 z.1 >>= fun g => M.R.ofO (cmpD op' e g) >>= fun k => .ok (.va (.bool k) false, z.2)) Q := h
      refine ⟨Tw (Tw T w x) y.1 v2, y.2, R2, ?_⟩
      cases e5 : ev C G mc y.2 with
      | ok z =>
        rw [e5] at h
        intro v3 H3 S3 R3 V3
        have h : PostE W Z T env σ H (rdv z.2 y.1 >>= fun e => rdv z.2 z.1 >>= fun g => M.R.ofO (cmpD op' e g) >>= fun k => .ok (.va (.bool k) false, z.2)) Q := h
        obtain ⟨d', e6, h⟩ := post_rd (P := fun r => PostE W Z T env σ H r Q) h id
        obtain ⟨e', e7, h⟩ := post_rd (P := fun r => PostE W Z T env σ H r Q) h id
        obtain ⟨k', e8, h⟩ := post_of (P := fun r => PostE W Z T env σ H r Q) h id
        have hd' := ((V2.step R2 S3).hold (T := T) (fun _ z => Tw_sub z) R3 fun a z => Tw_sub (Tw_sub (Tw_sub z))) d' e6
        have he' := (V3.hold (T := T) (fun _ z => Tw_sub (Tw_sub z)) R3 fun a z => Tw_sub (Tw_sub (Tw_sub z))) e' e7
        exact ⟨Av T z.2 σ, d', e', k', hd', he', e8, PostE.op h (R3.less fun a z => Tw_sub (Tw_sub (Tw_sub z))) ((S.trans S2).trans S3) (Same.refl H3) (by show Rep _ _ _ _ _; simp only [Rep])⟩
      | exc u => rw [e5] at h; exact PostX.pre (S.trans S2) (fun _ z => Tw_sub (Tw_sub z)) h
      | stuck => rw [e5] at h; exact h
  | exc y => rw [e1] at h; exact PostX.pre S (fun _ z => Tw_sub z) h
  | stuck => rw [e1] at h; exact h
theorem pm_chn (g : Gd nm C G W k Z X) (op op' : CmpOp) (hm : lastMarks [op, op'] [b, c] = false) (ha : PE X a (tE C G W Z ma)) (hb : PE X b (tE C G W Z mb)) (hc : PE X c (tE C G W Z mc)) : PE X (.Compare a [op, op'] [b, c] pos) (tE C G W Z (.chn op op' ma mb mc)) :=
  pe_imp (pe_chain (op_cmp g.K g.dk g.units op) (op_cmp g.K g.dk g.units op') ha hb hc hm) fun σ H Q h => chn_read g.K h
theorem pt_chnM (g : Gd nm C G W k Z X) (op op' : CmpOp) (hm : lastMarks [op, op'] [b, c] = false) (ha : PE X a (tE C G W Z ma)) (hb : PE X b (tE C G W Z mb)) (hc : PE X c (tE C G W Z mc)) : PT X (.Compare a [op, op'] [b, c] pos) (tT C G W Z (.chn op op' ma mb mc)) := by
  refine pt_imp (pt_chain (op_cmp g.K g.dk g.units op) (op_cmp g.K g.dk g.units op') ha hb hc hm) fun σ H Q h => chn_read (X := X) g.K ?_
  obtain ⟨T, env, rl, h⟩ := h
  refine ⟨T, env, rl, ?_⟩
  unfold evT at h
  -- the value is a truth: its test is itself
  have key : ∀ p, ev C G (.chn op op' ma mb mc) env = .ok p → ∃ k, p.1 = .va (.bool k) false := fun p e => by
    simp only [ev] at e
    cases e1 : ev C G ma env with
    | ok x =>
      simp only [bind, M.R.bind, e1] at e
      cases e2 : ev C G mb x.2 with
      | ok y =>
        simp only [e2] at e
        cases e3 : rdv y.2 x.1 with
        | ok d =>
          simp only [e3] at e
          cases e4 : rdv y.2 y.1 with
          | ok d' =>
            simp only [e4] at e
            cases e5 : cmpD op d d' with
            | some k =>
              simp only [e5, M.R.ofO] at e
              cases k with
              | false =>
                simp only [Bool.false_eq_true, if_false] at e
                cases e
                exact ⟨false, rfl⟩
              | true =>
                simp only [if_true] at e
                cases e6 : ev C G mc y.2 with
                | ok z =>
                  simp only [e6] at e
                  cases e7 : rdv z.2 y.1 with
                  | ok d2 =>
                    simp only [e7] at e
                    cases e8 : rdv z.2 z.1 with
                    | ok d3 =>
                      simp only [e8] at e
                      cases e9 : cmpD op' d2 d3 with
                      | some k2 =>
                        simp only [e9] at e
                        cases e
                        exact ⟨k2, rfl⟩
                      | none => simp only [e9] at e; cases e
                    | exc _ => simp only [e8] at e; cases e
                    | stuck => simp only [e8] at e; cases e
                  | exc _ => simp only [e7] at e; cases e
                  | stuck => simp only [e7] at e; cases e
                | exc _ => simp only [e6] at e; cases e
                | stuck => simp only [e6] at e; cases e
            | none => simp only [e5, M.R.ofO] at e; cases e
          | exc _ => simp only [e4] at e; cases e
          | stuck => simp only [e4] at e; cases e
        | exc _ => simp only [e3] at e; cases e
        | stuck => simp only [e3] at e; cases e
      | exc _ => simp only [e2] at e; cases e
      | stuck => simp only [e2] at e; cases e
    | exc _ => simp only [bind, M.R.bind, e1] at e; cases e
    | stuck => simp only [bind, M.R.bind, e1] at e; cases e
  cases e : ev C G (.chn op op' ma mb mc) env with
  | ok p =>
    obtain ⟨kk, hk⟩ := key p e
    obtain ⟨w, env'⟩ := p
    cases hk
    rw [e] at h
    intro v H' S R' V
    have V : Rep W H' (Av T env' σ) (.bool kk) v := V
    simp only [Rep] at V
    exact ⟨kk, V, h H' S R'⟩
  | exc x => rw [e] at h; exact h
  | stuck => rw [e] at h; exact h
end
end M
namespace M
open PySem L2 PyProof.Rows
/-! ### calls of the text's own defs -/
def isRefM : ME → Bool
  | .ref _ => true
  | _ => false
def isInl : Sum Nat PyData → Bool
  | .inl _ => true
  | .inr _ => false
section
variable {C : CallT} {G : List PyData} {env env' : Env}
theorem evG_kinds : ∀ {ms : List ME} {env env' : Env} {as : List (Sum Nat PyData)}, evG C G ms env = .ok (as, env') → as.map isInl = ms.map isRefM
  | [], _, _, _, h => by
    simp only [evG] at h
    cases h
    rfl
  | m :: ms, env, env', as, h => by
    by_cases hm : ∃ i, m = .ref i
    · obtain ⟨i, rfl⟩ := hm
      simp only [evG] at h
      split at h
      · cases e : evG C G ms env with
        | ok p =>
          simp only [bind, M.R.bind, e] at h
          cases h
          rw [List.map_cons, List.map_cons, evG_kinds e]
          rfl
        | exc x => simp only [bind, M.R.bind, e] at h; cases h
        | stuck => simp only [bind, M.R.bind, e] at h; cases h
      · cases h
    · rw [evG_val fun i z => hm ⟨i, z⟩] at h
      cases e1 : ev C G m env with
      | ok p =>
        simp only [bind, M.R.bind, e1] at h
        cases e2 : fzv p.2 p.1 with
        | ok q =>
          simp only [e2] at h
          cases e3 : evG C G ms q.2 with
          | ok r =>
            simp only [e3] at h
            cases h
            rw [List.map_cons, List.map_cons, evG_kinds e3]
            cases m with
            | ref i => exact absurd ⟨i, rfl⟩ hm
            | _ => rfl
          | exc x => simp only [e3] at h; cases h
          | stuck => simp only [e3] at h; cases h
        | exc x => simp only [e2] at h; cases h
        | stuck => simp only [e2] at h; cases h
      | exc x => simp only [bind, M.R.bind, e1] at h; cases h
      | stuck => simp only [bind, M.R.bind, e1] at h; cases h
theorem argsAt_kinds : ∀ {as : List (Sum Nat PyData)} {args : List Arg}, argsAt env as = some args → args.map isR = as.map isInl
  | [], _, h => by cases h; rfl
  | .inr d :: as, args, h => by
    simp only [argsAt] at h
    cases e : argsAt env as with
    | none => rw [e] at h; cases h
    | some r =>
      rw [e] at h
      cases h
      show isR (.v d) :: r.map isR = isInl (.inr d) :: as.map isInl
      rw [argsAt_kinds e]
      rfl
  | .inl i :: as, args, h => by
    simp only [argsAt] at h
    split at h
    · cases e : argsAt env as with
      | none => rw [e] at h; cases h
      | some r =>
        rw [e] at h
        cases h
        rename_i d _
        show isR (.r d) :: r.map isR = isInl (.inl i) :: as.map isInl
        rw [argsAt_kinds e]
        rfl
    · cases e : argsAt env as with
      | none => rw [e] at h; cases h
      | some r =>
        rw [e] at h
        cases h
        rename_i d _
        show isR (.r d) :: r.map isR = isInl (.inl i) :: as.map isInl
        rw [argsAt_kinds e]
        rfl
    · cases h
/-- argument j -/
theorem argsAt_get : ∀ {as : List (Sum Nat PyData)} {args : List Arg} {j : Nat}, argsAt env as = some args → (∀ d, as[j]? = some (.inr d) → args[j]? = some (.v d)) ∧ (∀ i, as[j]? = some (.inl i) → ∃ d k, env[i]? = some (some (d, k)) ∧ (k = .ow ∨ k = .rf) ∧ args[j]? = some (.r d)) ∧ (as[j]? = none → args[j]? = none)
  | [], _, j, h => by
    cases h
    exact ⟨fun d e => by simp at e, fun i e => by simp at e, fun _ => by simp⟩
  | x :: as, args, j, h => by
    have key : ∃ y r, args = y :: r ∧ argsAt env as = some r ∧ ((∃ d, x = .inr d ∧ y = .v d) ∨ ∃ i d k, x = .inl i ∧ y = .r d ∧ env[i]? = some (some (d, k)) ∧ (k = .ow ∨ k = .rf)) := by
      cases x with
      | inr d =>
        simp only [argsAt] at h
        cases e : argsAt env as with
        | none => rw [e] at h; cases h
        | some r => rw [e] at h; cases h; exact ⟨_, r, rfl, rfl, .inl ⟨d, rfl, rfl⟩⟩
      | inl i =>
        simp only [argsAt] at h
        split at h
        · rename_i d q
          cases e : argsAt env as with
          | none => rw [e] at h; cases h
          | some r => rw [e] at h; cases h; exact ⟨_, r, rfl, rfl, .inr ⟨i, d, .ow, rfl, rfl, q, .inl rfl⟩⟩
        · rename_i d q
          cases e : argsAt env as with
          | none => rw [e] at h; cases h
          | some r => rw [e] at h; cases h; exact ⟨_, r, rfl, rfl, .inr ⟨i, d, .rf, rfl, rfl, q, .inr rfl⟩⟩
        · cases h
    obtain ⟨y, r, rfl, er, hxy⟩ := key
    cases j with
    | zero =>
      rcases hxy with ⟨d, rfl, rfl⟩ | ⟨i, d, k, rfl, rfl, q, hk⟩
      · exact ⟨fun d' e => by cases Option.some.inj e; rfl, (fun i e => by cases Option.some.inj e), fun e => by simp at e⟩
      · exact ⟨(fun d' e => by cases Option.some.inj e), fun i' e => by cases Option.some.inj e; exact ⟨d, k, q, hk, rfl⟩, fun e => by simp at e⟩
    | succ j => exact argsAt_get (j := j) er
theorem refs_get : ∀ {as : List (Sum Nat PyData)} {t i : Nat}, (refsOf as)[t]? = some i → ∃ j : Nat, as[j]? = some (.inl i)
  | .inl x :: as, 0, i, h => by cases Option.some.inj h; exact ⟨0, rfl⟩
  | .inl x :: as, t + 1, i, h => by
    obtain ⟨j, e⟩ := refs_get (as := as) (t := t) h
    exact ⟨j + 1, e⟩
  | .inr x :: as, t, i, h => by
    obtain ⟨j, e⟩ := refs_get (as := as) (t := t) h
    exact ⟨j + 1, e⟩
theorem refs_mem : ∀ {as : List (Sum Nat PyData)} {j i : Nat}, as[j]? = some (.inl i) → i ∈ refsOf as
  | .inl x :: as, 0, i, h => by cases Option.some.inj h; exact List.mem_cons_self
  | .inl x :: as, j + 1, i, h => List.mem_cons_of_mem _ (refs_mem (as := as) (j := j) h)
  | .inr x :: as, 0, i, h => by cases Option.some.inj h
  | .inr x :: as, j + 1, i, h => refs_mem (as := as) (j := j) h
theorem refs_inj : ∀ {as : List (Sum Nat PyData)} {j j' i : Nat}, (refsOf as).Nodup → as[j]? = some (.inl i) → as[j']? = some (.inl i) → j = j'
  | .inl x :: as, 0, 0, i, _, _, _ => rfl
  | .inl x :: as, 0, j' + 1, i, n, h, h' => by
    cases Option.some.inj h
    exact absurd (refs_mem (as := as) (j := j') h') (List.nodup_cons.mp n).1
  | .inl x :: as, j + 1, 0, i, n, h, h' => by
    cases Option.some.inj h'
    exact absurd (refs_mem (as := as) (j := j) h) (List.nodup_cons.mp n).1
  | .inl x :: as, j + 1, j' + 1, i, n, h, h' => congrArg (· + 1) (refs_inj (as := as) (j := j) (j' := j') (List.nodup_cons.mp n).2 h h')
  | .inr x :: as, 0, _, i, _, h, _ => by cases Option.some.inj h
  | .inr x :: as, _ + 1, 0, i, _, _, h' => by cases Option.some.inj h'
  | .inr x :: as, j + 1, j' + 1, i, n, h, h' => congrArg (· + 1) (refs_inj (as := as) (j := j) (j' := j') n h h')
theorem putRefs_spec : ∀ {is : List Nat} {ds : List PyData} {env env' : Env}, putRefs env is ds = some env' → is.Nodup → env'.length = env.length ∧ is.length = ds.length ∧ (∀ i, i ∉ is → env'[i]? = env[i]?) ∧
    ∀ (t i : Nat), is[t]? = some i → ∃ d0 d k, ds[t]? = some d ∧ env[i]? = some (some (d0, k)) ∧ env'[i]? = some (some (d, k))
  | [], [], env, env', h, _ => by
    cases h
    exact ⟨rfl, rfl, fun _ _ => rfl, fun t i e => by simp at e⟩
  | i :: is, d :: ds, env, env', h, n => by
    simp only [putRefs] at h
    split at h
    · rename_i d0 k q
      obtain ⟨n1, n2⟩ := List.nodup_cons.mp n
      obtain ⟨h1, h2, h3, h4⟩ := putRefs_spec h n2
      refine ⟨by rw [h1, List.length_set], by simp [h2], fun j hj => ?_, fun t j e => ?_⟩
      · rw [List.mem_cons, not_or] at hj
        rw [h3 j hj.2, getElem?_set_ne' (fun z => hj.1 z.symm)]
      · cases t with
        | zero =>
          cases Option.some.inj e
          exact ⟨d0, d, k, rfl, q, by rw [h3 i n1, getElem?_set_eq' q]⟩
        | succ t =>
          obtain ⟨d1, d2, k2, g1, g2, g3⟩ := h4 t j e
          have hne : i ≠ j := fun z => by
            subst z
            exact n1 (List.mem_of_getElem? (show is[t]? = some i from e))
          rw [getElem?_set_ne' hne] at g2
          exact ⟨d1, d2, k2, g1, g2, g3⟩
    · cases h
  | [], _ :: _, _, _, h, _ => by simp [putRefs] at h
  | _ :: _, [], _, _, h, _ => by simp [putRefs] at h
/-- the slots of the parameters, by place -/
theorem putA_get : ∀ {as : List (Sum Nat PyData)} {args : List Arg} {ds : List PyData} {j : Nat} {d : PyData} {k : Own}, argsAt env as = some args → (putA args ds)[j]? = some (some (d, k)) → (k = .sh ∧ as[j]? = some (.inr d)) ∨ (k = .rf ∧ ∃ i, as[j]? = some (.inl i))
  | [], _, _, j, d, k, h, e => by cases h; simp [putA] at e
  | x :: as, args, ds, j, d, k, h, e => by
    have key : ∃ y r, args = y :: r ∧ argsAt env as = some r ∧ ((∃ d, x = .inr d ∧ y = .v d) ∨ ∃ i d, x = .inl i ∧ y = .r d) := by
      cases x with
      | inr d =>
        simp only [argsAt] at h
        cases e : argsAt env as with
        | none => rw [e] at h; cases h
        | some r => rw [e] at h; cases h; exact ⟨_, r, rfl, rfl, .inl ⟨d, rfl, rfl⟩⟩
      | inl i =>
        simp only [argsAt] at h
        split at h
        · cases e : argsAt env as with
          | none => rw [e] at h; cases h
          | some r => rw [e] at h; cases h; exact ⟨_, r, rfl, rfl, .inr ⟨i, _, rfl, rfl⟩⟩
        · cases e : argsAt env as with
          | none => rw [e] at h; cases h
          | some r => rw [e] at h; cases h; exact ⟨_, r, rfl, rfl, .inr ⟨i, _, rfl, rfl⟩⟩
        · cases h
    obtain ⟨y, r, rfl, er, hxy⟩ := key
    rcases hxy with ⟨d', rfl, rfl⟩ | ⟨i, d', rfl, rfl⟩
    · simp only [putA] at e
      cases j with
      | zero => cases e; exact .inl ⟨rfl, rfl⟩
      | succ j => exact putA_get (j := j) er e
    · cases ds with
      | nil =>
        simp only [putA] at e
        cases j with
        | zero => cases e; exact .inr ⟨rfl, i, rfl⟩
        | succ j => exact putA_get (j := j) er e
      | cons d1 ds =>
        simp only [putA] at e
        cases j with
        | zero => cases e; exact .inr ⟨rfl, i, rfl⟩
        | succ j => exact putA_get (j := j) er e
theorem putA_ref : ∀ {as : List (Sum Nat PyData)} {args : List Arg} {ds : List PyData} {t i : Nat} {d : PyData}, argsAt env as = some args → (refsOf as)[t]? = some i → ds[t]? = some d → ∃ j : Nat, as[j]? = some (.inl i) ∧ (putA args ds)[j]? = some (some (d, .rf))
  | x :: as, args, ds, t, i, d, h, e, ed => by
    cases x with
    | inr d' =>
      simp only [argsAt] at h
      cases q : argsAt env as with
      | none => rw [q] at h; cases h
      | some r =>
        rw [q] at h
        cases h
        obtain ⟨j, h1, h2⟩ := putA_ref (as := as) q e ed
        exact ⟨j + 1, h1, by simp only [putA]; exact h2⟩
    | inl i' =>
      have key : ∃ d' r, args = .r d' :: r ∧ argsAt env as = some r := by
        simp only [argsAt] at h
        split at h
        · cases e : argsAt env as with
          | none => rw [e] at h; cases h
          | some r => rw [e] at h; cases h; exact ⟨_, r, rfl, rfl⟩
        · cases e : argsAt env as with
          | none => rw [e] at h; cases h
          | some r => rw [e] at h; cases h; exact ⟨_, r, rfl, rfl⟩
        · cases h
      obtain ⟨d', r, rfl, q⟩ := key
      cases ds with
      | nil => simp at ed
      | cons d1 ds =>
        cases t with
        | zero =>
          cases Option.some.inj e
          cases Option.some.inj ed
          exact ⟨0, rfl, rfl⟩
        | succ t =>
          obtain ⟨j, h1, h2⟩ := putA_ref (as := as) q e ed
          exact ⟨j + 1, h1, by simp only [putA]; exact h2⟩
end
section
variable {W : Wd} {T : Addr → Prop} {env : Env} {σ : St} {H : Hp}
theorem ArgL.get : ∀ {as : List (Sum Nat PyData)} {vs : List V} {j : Nat}, ArgL W T env σ H as vs → (∀ d, as[j]? = some (.inr d) → ∃ v, vs[j]? = some v ∧ Rep W H (Av T env σ) d v) ∧ (∀ i, as[j]? = some (.inl i) → ∃ v, vs[j]? = some v ∧ σ[i]? = some (some v))
  | [], _, j, h => ⟨fun d e => by simp at e, fun i e => by simp at e⟩
  | .inr d :: as, _, j, h => by
    obtain ⟨v, r, rfl, h1, h2⟩ := h
    cases j with
    | zero => exact ⟨fun d' e => by cases Option.some.inj e; exact ⟨v, rfl, h1⟩, (fun i e => by cases Option.some.inj e)⟩
    | succ j => exact ArgL.get (j := j) h2
  | .inl i :: as, _, j, h => by
    obtain ⟨v, r, rfl, h1, h2⟩ := h
    cases j with
    | zero => exact ⟨(fun i e => by cases Option.some.inj e), fun d' e => by cases Option.some.inj e; exact ⟨v, rfl, h1⟩⟩
    | succ j => exact ArgL.get (j := j) h2
theorem ArgL.length : ∀ {as : List (Sum Nat PyData)} {vs : List V}, ArgL W T env σ H as vs → vs.length = as.length
  | [], _, h => by rw [show _ = [] from h]; rfl
  | .inr d :: as, _, h => by
    obtain ⟨v, r, rfl, h1, h2⟩ := h
    rw [List.length_cons, List.length_cons, ArgL.length h2]
  | .inl d :: as, _, h => by
    obtain ⟨v, r, rfl, h1, h2⟩ := h
    rw [List.length_cons, List.length_cons, ArgL.length h2]
theorem getElem?_map_some {α : Type} {l : List α} {j : Nat} {v : α} : (l.map some)[j]? = some (some v) ↔ l[j]? = some v := by
  rw [List.getElem?_map]
  cases l[j]? <;> simp
theorem slot_get {args : List Arg} {j : Nat} {d : PyData} {k : Own} : (args.map slotOf)[j]? = some (some (d, k)) ↔ (k = .sh ∧ args[j]? = some (.v d)) ∨ (k = .rf ∧ args[j]? = some (.r d)) := by
  rw [List.getElem?_map]
  cases args[j]? with
  | none => simp
  | some x => cases x <;> simp [slotOf] <;> constructor <;> (rintro ⟨rfl, rfl⟩; exact ⟨rfl, rfl⟩)
end
section
variable {nm : Nm} {C : CallT} {G : List PyData} {W : Wd} {k : Nat} {Z : L2.WX} {X : Cx} {ms : List ME}
/-- from a call's reading to the def's promise -/
theorem call_read {f : Nat} {refs : List Bool} {σ : St} {H : Hp} {Q : VK} (hr : ms.map isRefM = refs) (h : tE C G W Z (.call f ms) σ H Q) : tLG C G W Z ms σ H (fun vs H1 => spF W C f refs vs H1 Q (WE Z σ)) := by
  obtain ⟨T, env, rl, h⟩ := h
  simp only [ev] at h
  refine ⟨T, env, rl, ?_⟩
  cases e1 : evG C G ms env with
  | exc y => rw [e1] at h; exact h
  | stuck => rw [e1] at h; exact h
  | ok p =>
    obtain ⟨as, env1⟩ := p
    rw [e1] at h
    have h : PostE W Z T env σ H (callAt C f as env1) Q := h
    intro vs H1 S R1 hl
    have hl : ArgL W T env1 σ H1 as vs := hl
    have R1 : Rel W T env1 σ H1 := R1
    have S : Step env σ H env1 σ H1 := S
    unfold callAt at h
    split at h
    · rename_i nd
      split at h
      · exact h.elim
      · rename_i args ea
        have hk : args.map isR = refs := by rw [argsAt_kinds ea, evG_kinds e1, hr]
        -- what the callee owns stands in slots of ours
        have own0 : ∀ {E : Env} {j : Nat} {a : Addr}, (∀ d k, E[j]? = some (some (d, k)) → k ≠ .sh → k = .rf ∧ ∃ i, as[j]? = some (.inl i)) → Owns E (vs.map some) j a → ∃ i, as[j]? = some (.inl i) ∧ Owns env1 σ i a := fun {E j a} hE ⟨d, k, q1, q2, q3⟩ => by
          obtain ⟨_, i, hi⟩ := hE d k q1 q2
          obtain ⟨v, hv, hs⟩ := (hl.get (j := j)).2 i hi
          obtain ⟨d', k', g1, g2, _⟩ := (argsAt_get (j := j) ea).2.1 i hi
          rw [getElem?_map_some] at q3
          rw [q3] at hv
          cases hv
          exact ⟨i, hi, d', k', g1, by rcases g2 with z | z <;> (rw [z]; decide), hs⟩
        have k0 : ∀ {j : Nat} d k, (args.map slotOf)[j]? = some (some (d, k)) → k ≠ .sh → k = .rf ∧ ∃ i, as[j]? = some (.inl i) := fun {j} d k q n => by
          rcases slot_get.mp q with ⟨z, _⟩ | ⟨z, q⟩
          · exact absurd z n
          · refine ⟨z, ?_⟩
            cases hj : as[j]? with
            | none => rw [(argsAt_get (j := j) ea).2.2 hj] at q; cases q
            | some x =>
              cases x with
              | inl i => exact ⟨i, rfl⟩
              | inr d' => rw [(argsAt_get (j := j) ea).1 d' hj] at q; cases q
        let B : Addr → Prop := fun a => ∃ i, i ∈ refsOf as ∧ Owns env1 σ i a
        let T' : Addr → Prop := fun a => Av T env1 σ a ∧ ¬ B a
        have o0 : ∀ a, Ownd (args.map slotOf) (vs.map some) a → B a := fun a ⟨j, hj⟩ => by
          obtain ⟨i, hi, ho⟩ := own0 (fun d k => k0 d k) hj
          exact ⟨i, refs_mem hi, ho⟩
        have less0 : ∀ a, Av T' (args.map slotOf) (vs.map some) a → Av T env1 σ a := fun a z => by
          rcases z with z | z
          · exact z.1
          · obtain ⟨i, _, ho⟩ := o0 a z
            exact .inr ⟨i, ho⟩
        have hlen : args.length = vs.length := by
          have e1 := congrArg List.length (argsAt_kinds ea)
          rw [List.length_map, List.length_map] at e1
          rw [e1, hl.length]
        refine ⟨T', args, hk, ⟨by rw [List.length_map, List.length_map]; exact hlen, fun j d k q => ?_, fun j j' a h1 h2 => ?_, fun a z => ⟨fun q => z.2 (o0 a q), R1.av z.1⟩⟩, ?_⟩
        · rcases slot_get.mp q with ⟨rfl, q'⟩ | ⟨rfl, q'⟩
          · cases hj : as[j]? with
            | none => rw [(argsAt_get (j := j) ea).2.2 hj] at q'; cases q'
            | some x =>
              cases x with
              | inl i => obtain ⟨_, _, _, _, z⟩ := (argsAt_get (j := j) ea).2.1 i hj; rw [z] at q'; cases q'
              | inr d' =>
                rw [(argsAt_get (j := j) ea).1 d' hj] at q'
                cases q'
                obtain ⟨v, hv, hrp⟩ := (hl.get (j := j)).1 d hj
                exact ⟨v, getElem?_map_some.mpr hv, Rep.less hrp less0⟩
          · obtain ⟨_, i, hi⟩ := k0 d .rf q (by decide)
            obtain ⟨d', k', g1, g2, g3⟩ := (argsAt_get (j := j) ea).2.1 i hi
            rw [g3] at q'
            cases q'
            obtain ⟨v, hv, hs⟩ := (hl.get (j := j)).2 i hi
            obtain ⟨v', hv', so⟩ := R1.slot i d k' g1
            rw [hs] at hv'
            cases hv'
            refine ⟨v, getElem?_map_some.mpr hv, ?_⟩
            rcases g2 with rfl | rfl
            · obtain ⟨a, ea, o⟩ := so
              exact ⟨a, ea, o.less less0⟩
            · obtain ⟨a, ea, o⟩ := so
              exact ⟨a, ea, o.less less0⟩
        · obtain ⟨i, hi, ho⟩ := own0 (fun d k => k0 d k) h1
          obtain ⟨i', hi', ho'⟩ := own0 (fun d k => k0 d k) h2
          have := R1.inj i i' a ho ho'
          subst this
          exact refs_inj nd hi hi'
        · cases ec : C f args with
          | stuck => simp only [ec] at h; exact h
          | exc x =>
            simp only [ec] at h
            split at h
            · rename_i hn
              intro cls d H' keep xo
              have same : Same H1 H' := fun a o e => keep a o e fun q => by
                obtain ⟨i, hi, _⟩ := o0 a q
                rw [hn] at hi
                cases hi
              exact h cls d H' (S.trans (Step.same same)) (R1.same same) xo
            · exact h.elim
          | ok r =>
            simp only [ec] at h
            split at h
            · rename_i env' ep
              obtain ⟨pl, plen, pout, pin⟩ := putRefs_spec ep nd
              intro v H' Sc Rc Vc
              have kA : ∀ {j : Nat} d k, (putA args r.rs)[j]? = some (some (d, k)) → k ≠ .sh → k = .rf ∧ ∃ i, as[j]? = some (.inl i) := fun {j} d k q n => by
                rcases putA_get ea q with ⟨z, _⟩ | z
                · exact absurd z n
                · exact z
              -- the slots behind the call
              have slotE : ∀ {i : Nat} {d : PyData} {k : Own}, env'[i]? = some (some (d, k)) → (i ∉ refsOf as ∧ env1[i]? = some (some (d, k))) ∨ (i ∈ refsOf as ∧ (∃ d0, env1[i]? = some (some (d0, k))) ∧ (k = .ow ∨ k = .rf) ∧ ∃ j : Nat, as[j]? = some (.inl i) ∧ (putA args r.rs)[j]? = some (some (d, .rf))) := fun {i d k} q => by
                by_cases hi : i ∈ refsOf as
                · obtain ⟨t, ht, et⟩ := List.mem_iff_getElem.mp hi
                  have et' : (refsOf as)[t]? = some i := by rw [List.getElem?_eq_getElem ht, et]
                  obtain ⟨d0, d1, k1, g1, g2, g3⟩ := pin t i et'
                  rw [q] at g3
                  cases g3
                  obtain ⟨j, hj1, hj2⟩ := putA_ref ea et' g1
                  obtain ⟨d', k', y1, y2, y3⟩ := (argsAt_get (j := j) ea).2.1 i hj1
                  rw [g2] at y1
                  cases y1
                  exact .inr ⟨hi, ⟨_, g2⟩, y2, j, hj1, hj2⟩
                · rw [pout i hi] at q
                  exact .inl ⟨hi, q⟩
              have own' : ∀ {i : Nat} {a : Addr}, Owns env' σ i a → Owns env1 σ i a := fun {i a} ⟨d, k, q1, q2, q3⟩ => by
                rcases slotE q1 with ⟨_, z⟩ | ⟨_, ⟨d0, z⟩, _⟩
                · exact ⟨d, k, z, q2, q3⟩
                · exact ⟨d0, k, z, q2, q3⟩
              have oA : ∀ a, B a → Ownd (putA args r.rs) (vs.map some) a := fun a ⟨i, hi, d, k, q1, q2, q3⟩ => by
                obtain ⟨t, ht, et⟩ := List.mem_iff_getElem.mp hi
                have et' : (refsOf as)[t]? = some i := by rw [List.getElem?_eq_getElem ht, et]
                obtain ⟨d0, d1, k1, g1, g2, g3⟩ := pin t i et'
                obtain ⟨j, hj1, hj2⟩ := putA_ref ea et' g1
                obtain ⟨w, hw, hs⟩ := (hl.get (j := j)).2 i hj1
                rw [q3] at hs
                cases hs
                exact ⟨j, d1, .rf, hj2, by decide, getElem?_map_some.mpr hw⟩
              have avA : ∀ a, Av T env1 σ a → Av T' (putA args r.rs) (vs.map some) a := fun a z => by
                by_cases hb : B a
                · exact .inr (oA a hb)
                · exact .inl ⟨z, hb⟩
              have avE : ∀ a, Av T env' σ a → Av T' (putA args r.rs) (vs.map some) a := fun a z => avA a (z.elim .inl fun ⟨i, hi⟩ => .inr ⟨i, own' hi⟩)
              have domc := Sc.dom
              have Sq : Step env1 σ H1 env' σ H' := by
                refine ⟨fun a o e n => Sc.keep a o e fun q => ?_, fun a ⟨i, hi⟩ => .inl ⟨i, own' hi⟩, domc, fun i d k hk e => ?_⟩
                · obtain ⟨i, _, ho⟩ := o0 a q
                  exact n ⟨i, ho⟩
                · by_cases hi : i ∈ refsOf as
                  · obtain ⟨t, ht, et⟩ := List.mem_iff_getElem.mp hi
                    have et' : (refsOf as)[t]? = some i := by rw [List.getElem?_eq_getElem ht, et]
                    obtain ⟨d0, d1, k1, g1, g2, g3⟩ := pin t i et'
                    obtain ⟨j, hj1, _⟩ := putA_ref ea et' g1
                    obtain ⟨d', k', y1, y2, y3⟩ := (argsAt_get (j := j) ea).2.1 i hj1
                    rw [e] at g2 y1
                    cases g2
                    cases y1
                    refine ⟨d1, g3, rfl, fun z => ?_⟩
                    rw [z] at y2
                    rcases y2 with y2 | y2 <;> cases y2
                  · exact ⟨d, by rw [pout i hi]; exact e, rfl, fun _ => rfl⟩
              have fresh : ∀ a, (∃ d, EV.va r.d r.fr = .va d true ∧ v = .ref a) → H1 a = none ∧ H' a ≠ none := fun a ⟨d, e, ev⟩ => by
                cases hf : r.fr with
                | false => rw [hf] at e; cases e
                | true =>
                  rw [hf] at Vc
                  obtain ⟨b, eb, _, hn, o⟩ := Vc
                  rw [ev] at eb
                  cases eb
                  exact ⟨hn, o.some⟩
              have twc : ∀ a, Tw T (.va r.d r.fr) v a → T a ∨ ∃ d, EV.va r.d r.fr = .va d true ∧ v = .ref a := fun a z => by
                cases hf : r.fr with
                | false => rw [hf] at z; exact .inl z
                | true => rw [hf] at z; exact z.elim .inl fun y => .inr ⟨r.d, rfl, y⟩
              have twA : ∀ a, Av (Tw T (.va r.d r.fr) v) env' σ a → Av (Tw T' (.va r.d r.fr) v) (putA args r.rs) (vs.map some) a := fun a z => by
                rcases z with z | z
                · rcases twc a z with y | y
                  · rcases avE a (.inl y) with q | q
                    · exact .inl (Tw_sub q)
                    · exact .inr q
                  · left
                    cases hf : r.fr with
                    | false => rw [hf] at y; obtain ⟨_, y, _⟩ := y; cases y
                    | true => exact .inr (by obtain ⟨_, _, y⟩ := y; exact y)
                · rcases avE a (.inr z) with q | q
                  · exact .inl (Tw_sub q)
                  · exact .inr q
              have tr1 : Tr H1 H' (Av T env1 σ) (Av (Tw T (.va r.d r.fr) v) env' σ) := ⟨fun a o n e => Sq.keep a o e fun q => n (.inr q), fun a n e q => by
                rcases q with q | ⟨i, hi⟩
                · rcases twc a q with y | y
                  · exact n (.inl y)
                  · exact e (fresh a y).1
                · exact n (.inr ⟨i, own' hi⟩)⟩
              refine h v H' (S.trans Sq) ⟨by rw [pl]; exact R1.len, fun i d k q => ?_, fun i j a h1 h2 => R1.inj i j a (own' h1) (own' h2), fun a z => ?_⟩ ?_
              · rcases slotE q with ⟨hi, q1⟩ | ⟨hi, ⟨d0, q1⟩, hkk, j, hj1, hj2⟩
                · obtain ⟨v0, e0, so⟩ := R1.slot i d k q1
                  refine ⟨v0, e0, so.tr tr1 fun a ea nk o e => Sc.keep a o e fun q => ?_⟩
                  obtain ⟨i', hi', ho'⟩ := o0 a q
                  subst ea
                  have := R1.inj i i' a ⟨d, k, q1, nk, e0⟩ ho'
                  subst this
                  exact hi hi'
                · obtain ⟨v0, e0, so⟩ := Rc.slot j d .rf hj2
                  rw [getElem?_map_some] at e0
                  obtain ⟨w, hw, hs⟩ := (hl.get (j := j)).2 i hj1
                  rw [e0] at hw
                  cases hw
                  obtain ⟨a, ea, o⟩ := so
                  refine ⟨v0, hs, ?_⟩
                  rcases hkk with rfl | rfl
                  · exact ⟨a, ea, o.less twA⟩
                  · exact ⟨a, ea, o.less twA⟩
              · rcases twc a z with y | y
                · exact ⟨fun ⟨i, hi⟩ => (R1.prot a y).1 ⟨i, own' hi⟩, domc a (R1.prot a y).2⟩
                · obtain ⟨y1, y2⟩ := fresh a y
                  exact ⟨fun ⟨i, hi⟩ => R1.av (.inr ⟨i, own' hi⟩) y1, y2⟩
              · cases hf : r.fr with
                | false =>
                  rw [hf] at Vc
                  exact Rep.less (show Rep W H' (Av T' (putA args r.rs) (vs.map some)) r.d v from Vc) avE
                | true =>
                  rw [hf] at Vc
                  obtain ⟨b, eb, _, hn, o⟩ := Vc
                  refine ⟨b, eb, fun t => (R1.prot b t).2 hn, ?_, o.less fun c z => z.elim (fun y => .inl (avE c y)) .inr⟩
                  by_cases q : H b = none
                  · exact q
                  · exact absurd hn (S.dom b q)
            · exact h.elim
    · exact h.elim
/-- f() -/
theorem pe_callS0 {x : Str} {p pos : Pos} {f : Addr} {fd : FuncData} {ps : List Str} {sp : Sp} {E : L2.St → XK} {CX' : CXT} (F : FnOk X.prog X.w X.K X.mg X.base CX' k f fd ps sp) (hr : Room k X.A) (hg : Gl X x) (hm : X.mg x = some (.ref f)) (hk : PySem.W.keepIn X.K (.ref f) = true) (hb : Binds X.K fd ps []) (hx : ∀ σ, PassesAt CX' X σ (E σ))
    (hdb : (x == ("__debug__" : Str)) = false) : PE X (.Call (.Name x p) [] [] pos) (tCallS sp E tNil) := by
  refine ⟨fun pins s σ H Q I h => ?_⟩
  refine wpAny_Call_Name_kw (ld_glob I hg hm ?_ hdb)
  exact PySem.W.callWith_K0 I.kIn hk (run_fnS (us := []) F hr hb (hx σ) I .nil h)
theorem pm_call0 (g : Gd nm C G W k Z X) {f : Nat} {x : Str} {p pos : Pos} (hf : nm.fns[f]? = some (x, [])) (hg : Gl X x) (hdb : (x == ("__debug__" : Str)) = false) : PE X (.Call (.Name x p) [] [] pos) (tE C G W Z (.call f [])) := by
  obtain ⟨fa, fd, ps, h1, h2, h3, h4⟩ := g.fns f x [] hf
  refine pe_imp (pe_callS0 h4 g.room hg h1 h2 h3 (fun σ => passAt g.tk σ) hdb) fun σ H Q h => ?_
  obtain ⟨T, env, rl, h⟩ := call_read (refs := []) rfl h
  simp only [evG] at h
  exact h [] H .refl rl rfl
theorem pm_call (g : Gd nm C G W k Z X) {f : Nat} {x : Str} {refs : List Bool} {p pos : Pos} {e : Expr} {es : List Expr} (hf : nm.fns[f]? = some (x, refs)) (hr : ms.map isRefM = refs) (hg : Gl X x) (hdb : (x == ("__debug__" : Str)) = false) (ha : PA X (e :: es) (tLG C G W Z ms))
    (he : starEach (e :: es) X.env = (false, eval e X.env) :: starEach es X.env) (hpl : (backTo pos (starEach es X.env)).any (·.1) = false) : PE X (.Call (.Name x p) (e :: es) [] pos) (tE C G W Z (.call f ms)) := by
  obtain ⟨fa, fd, ps, h1, h2, h3, h4⟩ := g.fns f x refs hf
  exact pe_imp (pe_callS h4 g.room hg h1 h2 h3 (fun σ => passAt g.tk σ) ha hdb he hpl) fun σ H Q h => call_read hr h
end
end M
namespace M
open PySem L2 PyProof.Rows
/-! ### what is walked -/
structure Wk (W : Wd) (J : It) (ds : List PyData) (vs : List V) (items : List PyData) : Prop where
  go : ∀ (i : Nat) H A, RbAll W H A ds vs → i < items.length → J.go i H
  stop : ∀ (i : Nat) H A, RbAll W H A ds vs → items.length ≤ i → J.stop i H
  yld : ∀ (i : Nat) H A x H' d, AvOk H A → RbAll W H A ds vs → items[i]? = some d → J.yld i H x H' → Same H H' ∧ ndD d ∧ Rep W H' A d x
def iM (C : CallT) (G : List PyData) (W : Wd) (Z : L2.WX) (k : IK) (ms : List ME) : TI := fun σ H R => tLE C G W Z ms σ H fun vs H1 => ∃ A ds items, AvOk H1 A ∧ RbAll W H1 A ds vs ∧ itemsD k ds = some items ∧ ∀ J, Wk W J ds vs items → R J H1
theorem pi_imp {X : Cx} {tg e : Expr} {t t' : TI} (h : PI X tg e t) (i : ∀ σ H R, t' σ H R → t σ H R) : PI X tg e t' := ⟨fun pins s σ H R I q => h.run pins s σ H R I (i _ _ _ q)⟩
section
variable {X : Cx} {tg : Expr}
/-- a list or a tuple -/
theorem pi_seq {l : Expr} {tl : TE} (hl : PE X l tl) : PI X tg l (fun σ H R => tl σ H fun x H1 => ∃ a, x = .ref a ∧ (((∃ xs, SqL X.K H1 a xs) ∧ R (Itl X.K a) H1) ∨ ((∃ xs, SqT X.K H1 a xs) ∧ R (Itt X.K a) H1))) := by
  refine ⟨fun pins s σ H R I h => ?_⟩
  refine thn (hl.run pins s σ H _ I h) fun v s1 ⟨x, H1, I1, r1, q1⟩ => ?_
  obtain ⟨a, e, q1⟩ := q1
  subst e
  cases r1
  rcases q1 with ⟨⟨xs, hq⟩, q⟩ | ⟨⟨xs, hq⟩, q⟩
  · obtain ⟨its, rv, p, hz⟩ := I1.list hq
    refine wpAny_pyIter_list p.isList ?_
    refine ⟨s1.heap.objs.size, [s1.heap.objs.size], _, _, H1, rfl, I1.kept (t' := s1.toks) fun b o e => Heap.get?_push_of_some _ e, turn_list a _, ⟨_, Heap.get?_push_size _ rfl, rfl, rfl⟩, fun b hb => ?_, q⟩
    have e : b = s1.heap.objs.size := by simpa using hb
    subst e
    exact I1.fpOk (Nat.le_refl _) (I1.hok.fresh (Nat.le_refl _))
  · obtain ⟨its, rv, p, hz⟩ := I1.tuple hq
    refine wpAny_pyIter_tuple (show s1.heap.IsTuple a its.toArray from p) ?_
    refine ⟨s1.heap.objs.size, [s1.heap.objs.size], _, _, H1, rfl, I1.kept (t' := s1.toks) fun b o e => Heap.get?_push_of_some _ e, turn_tuple a _, ⟨_, Heap.get?_push_size _ rfl, rfl, rfl⟩, fun b hb => ?_, q⟩
    have e : b = s1.heap.objs.size := by simpa using hb
    subst e
    exact I1.fpOk (Nat.le_refl _) (I1.hok.fresh (Nat.le_refl _))
end
section
variable {W : Wd} {K : PySem.W.Frag}
theorem wk_list {a : Addr} {ds : List PyData} (hK : W.K = K) : Wk W (Itl K a) [.list ds] [.ref a] ds := by
  refine ⟨fun i H A h hi => ?_, fun i H A h hi => ?_, fun i H A x H' d hA h hd hy => ?_⟩
  · obtain ⟨v, e, h⟩ := h.one
    cases e
    obtain ⟨b, vs, e, l, _, r⟩ := h.list
    cases e
    rw [hK] at l
    obtain ⟨v, hv, _⟩ := r.get (List.getElem?_eq_getElem hi)
    exact ⟨vs, v, l, hv⟩
  · obtain ⟨v, e, h⟩ := h.one
    cases e
    obtain ⟨b, vs, e, l, _, r⟩ := h.list
    cases e
    rw [hK] at l
    exact ⟨vs, l, by rw [r.length]; exact hi⟩
  · obtain ⟨v, e, h⟩ := h.one
    cases e
    obtain ⟨b, vs, e, l, _, r⟩ := h.list
    cases e
    rw [hK] at l
    obtain ⟨eH, hy⟩ := hy
    subst eH
    obtain ⟨v, hv, n, rp⟩ := r.get hd
    have := hy vs l
    rw [hv] at this
    cases this
    exact ⟨Same.refl _, n, rp⟩
theorem wk_tup {a : Addr} {ds : List PyData} (hK : W.K = K) : Wk W (Itt K a) [.tuple ds] [.ref a] ds := by
  refine ⟨fun i H A h hi => ?_, fun i H A h hi => ?_, fun i H A x H' d hA h hd hy => ?_⟩
  · obtain ⟨v, e, h⟩ := h.one
    cases e
    obtain ⟨b, vs, e, l, _, r⟩ := h.tuple
    cases e
    have l := l.sq
    rw [hK] at l
    obtain ⟨v, hv, _⟩ := r.get (List.getElem?_eq_getElem hi)
    exact ⟨vs, v, l, hv⟩
  · obtain ⟨v, e, h⟩ := h.one
    cases e
    obtain ⟨b, vs, e, l, _, r⟩ := h.tuple
    cases e
    have l := l.sq
    rw [hK] at l
    exact ⟨vs, l, by rw [r.length]; exact hi⟩
  · obtain ⟨v, e, h⟩ := h.one
    cases e
    obtain ⟨b, vs, e, l, _, r⟩ := h.tuple
    cases e
    have l := l.sq
    rw [hK] at l
    obtain ⟨eH, hy⟩ := hy
    subst eH
    obtain ⟨v, hv, n, rp⟩ := r.get hd
    have := hy vs l
    rw [hv] at this
    cases this
    exact ⟨Same.refl _, n, rp⟩
theorem wk_rng {lo : Int} {n : Nat} {ds : List PyData} {vs : List V} : Wk W (Itr lo n) ds vs ((List.range n).map fun (i : Nat) => .int (lo + i)) := by
  refine ⟨fun i H A h hi => ?_, fun i H A h hi => ?_, fun i H A x H' d hA h hd hy => ?_⟩
  · rw [List.length_map, List.length_range] at hi
    exact hi
  · rw [List.length_map, List.length_range] at hi
    exact hi
  · obtain ⟨eH, hy⟩ := hy
    subst eH
    rw [List.getElem?_map] at hd
    cases e : (List.range n)[i]? with
    | none => rw [e] at hd; cases hd
    | some j =>
      rw [e] at hd
      cases hd
      have : j = i := by
        have := List.getElem?_eq_some_iff.mp e
        obtain ⟨h1, h2⟩ := this
        rw [List.getElem_range] at h2
        exact h2.symm
      subst this
      exact ⟨Same.refl _, by simp only [ndD], by simp only [Rep]; exact hy⟩
theorem pair_new {H : Hp} {A : Addr → Prop} {t : Addr} {x y : V} {d e : PyData} (hA : AvOk H A) (ht : H t = none) (n1 : ndD d) (r1 : Rep W H A d x) (n2 : ndD e) (r2 : Rep W H A e y) : Same H (upd H t (.tup [x, y])) ∧ ndD (.tuple [d, e]) ∧ Rep W (upd H t (.tup [x, y])) A (.tuple [d, e]) (.ref t) :=
  ⟨same_upd ht, by simp only [ndD], new_tup hA ht (by show 2 ≤ sizeLine; rw [sizeLine_eq]; decide) (RepAll.cons n1 r1 (RepAll.one n2 r2))⟩
theorem zipIdx_get {α : Type} {xs : List α} {i : Nat} : xs.zipIdx[i]? = (xs[i]?).map fun x => (x, i) := by
  rw [List.getElem?_zipIdx]
  cases xs[i]? <;> simp
theorem wk_enum {a : Addr} {ds : List PyData} (hK : W.K = K) : Wk W (Ite K a) [.list ds] [.ref a] (ds.zipIdx.map fun p => .tuple [.int (p.2 : Int), p.1]) := by
  refine ⟨fun i H A h hi => ?_, fun i H A h hi => ?_, fun i H A x H' d hA h hd hy => ?_⟩
  · obtain ⟨v, e, h⟩ := h.one
    cases e
    obtain ⟨b, vs, e, l, _, r⟩ := h.list
    cases e
    rw [hK] at l
    rw [List.length_map, List.length_zipIdx] at hi
    obtain ⟨v, hv, _⟩ := r.get (List.getElem?_eq_getElem hi)
    exact ⟨vs, v, l, hv⟩
  · obtain ⟨v, e, h⟩ := h.one
    cases e
    obtain ⟨b, vs, e, l, _, r⟩ := h.list
    cases e
    rw [hK] at l
    rw [List.length_map, List.length_zipIdx] at hi
    exact ⟨vs, l, by rw [r.length]; exact hi⟩
  · obtain ⟨v, e, h⟩ := h.one
    cases e
    obtain ⟨b, vs, e, l, _, r⟩ := h.list
    cases e
    rw [hK] at l
    obtain ⟨t, y, rfl, ht, rfl, hy⟩ := hy
    rw [List.getElem?_map, zipIdx_get] at hd
    cases e : ds[i]? with
    | none => rw [e] at hd; cases hd
    | some g =>
      rw [e] at hd
      cases hd
      obtain ⟨v, hv, n, rp⟩ := r.get e
      have := hy vs l
      rw [hv] at this
      cases this
      exact pair_new hA ht (by simp only [ndD]) (by simp only [Rep]) n rp
theorem wk_zip {a b : Addr} {ds es : List PyData} (hK : W.K = K) : Wk W (Itz K a b) [.list ds, .list es] [.ref a, .ref b] (List.zipWith (fun x y => .tuple [x, y]) ds es) := by
  refine ⟨fun i H A h hi => ?_, fun i H A h hi => ?_, fun i H A x H' d hA h hd hy => ?_⟩
  · obtain ⟨v, w, e, h1, h2⟩ := h.two
    cases e
    obtain ⟨_, vs, e, l, _, r⟩ := h1.list
    cases e
    obtain ⟨_, ws, e, l2, _, r2⟩ := h2.list
    cases e
    rw [hK] at l l2
    rw [List.length_zipWith] at hi
    obtain ⟨v, hv, _⟩ := r.get (List.getElem?_eq_getElem (show i < ds.length by omega))
    obtain ⟨w, hw, _⟩ := r2.get (List.getElem?_eq_getElem (show i < es.length by omega))
    exact ⟨vs, ws, v, w, l, l2, hv, hw⟩
  · obtain ⟨v, w, e, h1, h2⟩ := h.two
    cases e
    obtain ⟨_, vs, e, l, _, r⟩ := h1.list
    cases e
    obtain ⟨_, ws, e, l2, _, r2⟩ := h2.list
    cases e
    rw [hK] at l l2
    rw [List.length_zipWith] at hi
    exact ⟨vs, ws, l, l2, by rw [r.length, r2.length]; omega⟩
  · obtain ⟨v, w, e, h1, h2⟩ := h.two
    cases e
    obtain ⟨_, vs, e, l, _, r⟩ := h1.list
    cases e
    obtain ⟨_, ws, e, l2, _, r2⟩ := h2.list
    cases e
    rw [hK] at l l2
    obtain ⟨t, y1, y2, rfl, ht, rfl, g1, g2⟩ := hy
    rw [List.getElem?_zipWith] at hd
    cases e1 : ds[i]? with
    | none => rw [e1] at hd; cases hd
    | some d1 =>
      cases e2 : es[i]? with
      | none => rw [e1, e2] at hd; cases hd
      | some d2 =>
        rw [e1, e2] at hd
        cases hd
        obtain ⟨v, hv, n, rp⟩ := r.get e1
        obtain ⟨w, hw, n2, rp2⟩ := r2.get e2
        have q1 := g1 vs l
        have q2 := g2 ws l2
        rw [hv] at q1
        rw [hw] at q2
        cases q1
        cases q2
        exact pair_new hA ht n rp n2 rp2
theorem wk_zipT {a b : Addr} {ds es : List PyData} (hK : W.K = K) : Wk W (RZ.ItzT K a b) [.tuple ds, .tuple es] [.ref a, .ref b] (List.zipWith (fun x y => .tuple [x, y]) ds es) := by
  refine ⟨fun i H A h hi => ?_, fun i H A h hi => ?_, fun i H A x H' d hA h hd hy => ?_⟩
  · obtain ⟨v, w, e, h1, h2⟩ := h.two
    cases e
    obtain ⟨_, vs, e, l, _, r⟩ := h1.tuple
    cases e
    obtain ⟨_, ws, e, l2, _, r2⟩ := h2.tuple
    cases e
    have l := l.sq
    have l2 := l2.sq
    rw [hK] at l l2
    rw [List.length_zipWith] at hi
    obtain ⟨v, hv, _⟩ := r.get (List.getElem?_eq_getElem (show i < ds.length by omega))
    obtain ⟨w, hw, _⟩ := r2.get (List.getElem?_eq_getElem (show i < es.length by omega))
    exact ⟨vs, ws, v, w, l, l2, hv, hw⟩
  · obtain ⟨v, w, e, h1, h2⟩ := h.two
    cases e
    obtain ⟨_, vs, e, l, _, r⟩ := h1.tuple
    cases e
    obtain ⟨_, ws, e, l2, _, r2⟩ := h2.tuple
    cases e
    have l := l.sq
    have l2 := l2.sq
    rw [hK] at l l2
    rw [List.length_zipWith] at hi
    exact ⟨vs, ws, l, l2, by rw [r.length, r2.length]; omega⟩
  · obtain ⟨v, w, e, h1, h2⟩ := h.two
    cases e
    obtain ⟨_, vs, e, l, _, r⟩ := h1.tuple
    cases e
    obtain ⟨_, ws, e, l2, _, r2⟩ := h2.tuple
    cases e
    have l := l.sq
    have l2 := l2.sq
    rw [hK] at l l2
    obtain ⟨t, y1, y2, rfl, ht, rfl, g1, g2⟩ := hy
    rw [List.getElem?_zipWith] at hd
    cases e1 : ds[i]? with
    | none => rw [e1] at hd; cases hd
    | some d1 =>
      cases e2 : es[i]? with
      | none => rw [e1, e2] at hd; cases hd
      | some d2 =>
        rw [e1, e2] at hd
        cases hd
        obtain ⟨v, hv, n, rp⟩ := r.get e1
        obtain ⟨w, hw, n2, rp2⟩ := r2.get e2
        have q1 := g1 vs l
        have q2 := g2 ws l2
        rw [hv] at q1
        rw [hw] at q2
        cases q1
        cases q2
        exact pair_new hA ht n rp n2 rp2
end
section
variable {nm : Nm} {C : CallT} {G : List PyData} {W : Wd} {k : Nat} {Z : L2.WX} {X : Cx} {tg a b c e : Expr} {pos p : Pos} {ma mb mc m : ME}
theorem tLE_mono {ms : List ME} {σ : St} {H : Hp} {Q Q' : List V → Hp → Prop} (h : tLE C G W Z ms σ H Q) (q : ∀ v H', Q v H' → Q' v H') : tLE C G W Z ms σ H Q' := by
  obtain ⟨T, env, R, h⟩ := h
  refine ⟨T, env, R, ?_⟩
  cases e : evE C G ms env with
  | ok p => rw [e] at h; exact fun v H' s r k => q _ _ (h v H' s r k)
  | exc x => rw [e] at h; exact h
  | stuck => rw [e] at h; exact h
/-- one value, as a list of one -/
theorem tLE_one {σ : St} {H : Hp} {Q : List V → Hp → Prop} (h : tLE C G W Z [m] σ H Q) : tE C G W Z m σ H (fun x H1 => Q [x] H1) := by
  obtain ⟨T, env, rl, h⟩ := h
  refine ⟨T, env, rl, ?_⟩
  simp only [evE] at h
  cases e : ev C G m env with
  | ok p =>
    rw [e] at h
    exact fun v H' S R1 V => h [v] H' S (R1.less fun a z => Tw_sub z) ⟨v, [], rfl, V.holdS R1 (fun _ z => z), rfl⟩
  | exc x => rw [e] at h; exact h
  | stuck => rw [e] at h; exact h
theorem pi_ex (g : Gd nm C G W k Z X) (ha : PE X a (tE C G W Z ma)) : PI X tg a (iM C G W Z .ex [ma]) := by
  refine pi_imp (pi_seq ha) fun σ H R h => tE_mono (tLE_one h) fun x H1 h => ?_
  obtain ⟨A, ds, items, hA, hr, hi, h⟩ := h
  match ds, hi, hr with
  | [.list xs], hi, hr =>
    cases hi
    obtain ⟨v, e, hv⟩ := hr.one
    cases e
    obtain ⟨a, vs, rfl, l, _, _⟩ := hv.list
    rw [g.K] at l
    exact ⟨a, rfl, .inl ⟨⟨vs, l⟩, h _ (wk_list g.K)⟩⟩
  | [.tuple xs], hi, hr =>
    cases hi
    obtain ⟨v, e, hv⟩ := hr.one
    cases e
    obtain ⟨a, vs, rfl, l, _, _⟩ := hv.tuple
    have l := l.sq
    rw [g.K] at l
    exact ⟨a, rfl, .inr ⟨⟨vs, l⟩, h _ (wk_tup g.K)⟩⟩
theorem pi_r1 (g : Gd nm C G W k Z X) (hg : Gl X "range") (ha : PA X [a] (tLE C G W Z [ma])) (hs : starEach [a] X.env = [(false, eval a X.env)]) : PI X tg (.Call (.Name "range" p) [a] [] pos) (iM C G W Z .r1 [ma]) := by
  refine pi_imp (pi_range1 hg (g.blt _ (by decide)) ha hs) fun σ H R h => tLE_mono h fun vs H1 h => ?_
  obtain ⟨A, ds, items, hA, hr, hi, h⟩ := h
  match ds, hi, hr with
  | [.int n], hi, hr =>
    simp only [itemsD] at hi
    split at hi
    · rename_i hz
      cases hi
      obtain ⟨v, e, hv⟩ := hr.one
      have := hv.int
      subst this
      rw [sizeLine_eq] at hz
      refine ⟨n, e, hz.1, by omega, h _ ?_⟩
      have := wk_rng (W := W) (lo := 0) (n := n.toNat) (ds := [.int n]) (vs := vs)
      simpa using this
    · cases hi
theorem pi_r2 (g : Gd nm C G W k Z X) (hg : Gl X "range") (ha : PA X [a, b] (tLE C G W Z [ma, mb])) (hs : starEach [a, b] X.env = [(false, eval a X.env), (false, eval b X.env)]) (hs2 : starEach [b] X.env = [(false, eval b X.env)]) : PI X tg (.Call (.Name "range" p) [a, b] [] pos) (iM C G W Z .r2 [ma, mb]) := by
  refine pi_imp (pi_range2 hg (g.blt _ (by decide)) ha hs hs2) fun σ H R h => tLE_mono h fun vs H1 h => ?_
  obtain ⟨A, ds, items, hA, hr, hi, h⟩ := h
  match ds, hi, hr with
  | [.int n, .int m], hi, hr =>
    simp only [itemsD] at hi
    split at hi
    · rename_i hz
      cases hi
      obtain ⟨v, w, e, hv, hw⟩ := hr.two
      have := hv.int
      subst this
      have := hw.int
      subst this
      exact ⟨n, m, e, hz.1, h _ wk_rng⟩
    · cases hi
theorem pi_en (g : Gd nm C G W k Z X) {elts : List Expr} {kk : Nat} {tpos : Pos} (hg : Gl X "enumerate") (ha : PA X [a] (tLE C G W Z [ma])) (hs : starEach [a] X.env = [(false, eval a X.env)]) : PI X (.Tuple elts kk tpos) (.Call (.Name "enumerate" p) [a] [] pos) (iM C G W Z .en [ma]) := by
  refine pi_imp (pi_enum hg (g.blt _ (by decide)) ha hs) fun σ H R h => tLE_mono h fun vs H1 h => ?_
  obtain ⟨A, ds, items, hA, hr, hi, h⟩ := h
  match ds, hi, hr with
  | [.list xs], hi, hr =>
    cases hi
    obtain ⟨v, e, hv⟩ := hr.one
    subst e
    obtain ⟨a, vs, rfl, l, _, _⟩ := hv.list
    rw [g.K] at l
    exact ⟨a, vs, rfl, l, h _ (wk_enum g.K)⟩
theorem pi_zp (g : Gd nm C G W k Z X) {elts : List Expr} {kk : Nat} {tpos : Pos} (hg : Gl X "zip") (ha : PA X [a, b] (tLE C G W Z [ma, mb])) (hs : starEach [a, b] X.env = (false, eval a X.env) :: starEach [b] X.env) (hpl : (backTo pos (starEach [b] X.env)).any (·.1) = false) : PI X (.Tuple elts kk tpos) (.Call (.Name "zip" p) [a, b] [] pos) (iM C G W Z .zp [ma, mb]) := by
  refine pi_imp (RZ.pi_zipA hg (g.blt _ (by decide)) ha hs hpl) fun σ H R h => tLE_mono h fun vs H1 h => ?_
  obtain ⟨A, ds, items, hA, hr, hi, h⟩ := h
  match ds, hi, hr with
  | [.list xs, .list ys], hi, hr =>
    cases hi
    obtain ⟨v, w, e, hv, hw⟩ := hr.two
    subst e
    obtain ⟨a, vs, rfl, l, _, _⟩ := hv.list
    obtain ⟨b, ws, rfl, l2, _, _⟩ := hw.list
    rw [g.K] at l l2
    exact ⟨a, b, vs, ws, rfl, .inl ⟨l, l2, h _ (wk_zip g.K)⟩⟩
  | [.tuple xs, .tuple ys], hi, hr =>
    cases hi
    obtain ⟨v, w, e, hv, hw⟩ := hr.two
    subst e
    obtain ⟨a, vs, rfl, l, _, _⟩ := hv.tuple
    obtain ⟨b, ws, rfl, l2, _, _⟩ := hw.tuple
    have l := l.sq
    have l2 := l2.sq
    rw [g.K] at l l2
    exact ⟨a, b, vs, ws, rfl, .inr ⟨l, l2, h _ (wk_zipT g.K)⟩⟩
end
end M
namespace M
open PySem L2 PyProof.Rows
/-! ### storing into a slot -/
section
variable {W : Wd} {T : Addr → Prop} {env env0 env' : Env} {σ : St} {H H0 : Hp} {v : V} {d : PyData} {i : Nat}
theorem setS_inv {k : Own} (e : setS i d k env = some env') : (∃ o, env[i]? = some o ∧ ∀ d k, o = some (d, k) → ¬ Fixd k) ∧ env' = env.set i (some (d, k)) := by
  unfold setS at e
  split at e
  · rename_i h
    cases e
    refine ⟨?_, rfl⟩
    unfold freeS at h
    split at h
    · cases h
    · cases h
    · rename_i o n1 n2 q
      refine ⟨o, q, fun d k e hk => ?_⟩
      subst e
      rcases hk with rfl | rfl
      · exact n1 d rfl
      · exact n2 d rfl
    · cases h
  · cases e
theorem owns_set {k : Own} (hi : i < σ.length) (he : i < env.length) {j : Nat} {a : Addr} (h : Owns (env.set i (some (d, k))) (σ.set i (some v)) j a) : (j = i ∧ k ≠ .sh ∧ v = .ref a) ∨ (j ≠ i ∧ Owns env σ j a) := by
  obtain ⟨d', k', q1, q2, q3⟩ := h
  by_cases hj : i = j
  · subst hj
    rw [List.getElem?_set_self he] at q1
    rw [List.getElem?_set_self hi] at q3
    cases q1
    cases q3
    exact .inl ⟨rfl, q2, rfl⟩
  · rw [List.getElem?_set_ne hj] at q1 q3
    exact .inr ⟨fun z => hj z.symm, d', k', q1, q2, q3⟩
theorem setS_ok {fr : Bool} (S : Step env0 σ H0 env σ H) (R1 : Rel W (Tw T (.va d fr) v) env σ H) (V : VOk W T H0 H env σ (.va d fr) v) (e : setS i d (if fr = true then .ow else .sh) env = some env') :
    Step env0 σ H0 env' (σ.set i (some v)) H ∧ Rel W T env' (σ.set i (some v)) H := by
  obtain ⟨⟨o, eo, no⟩, rfl⟩ := setS_inv e
  have he : i < env.length := (List.getElem?_eq_some_iff.mp eo).1
  have hi : i < σ.length := by rw [← R1.len]; exact he
  -- a newly owned place is the fresh one
  have fresh : ∀ a, (if fr = true then Own.ow else Own.sh) ≠ .sh → v = .ref a → fr = true ∧ ¬ T a ∧ H0 a = none ∧ Tw T (.va d fr) v a ∧ OwnAt W H (fun b => Av T env σ b ∨ b = a) d a := fun a hk hv => by
    cases fr with
    | false => exact absurd rfl hk
    | true =>
      obtain ⟨b, eb, n, z, o⟩ := V
      rw [hv] at eb
      cases eb
      exact ⟨rfl, n, z, .inr hv, o⟩
  refine ⟨⟨S.keep, fun a ⟨j, hj⟩ => ?_, S.dom, fun j d0 k0 hk e0 => ?_⟩, ⟨by rw [List.length_set, List.length_set]; exact R1.len, fun j d0 k0 q => ?_, fun j j' a h1 h2 => ?_, fun a t => ⟨fun ⟨j, hj⟩ => ?_, (R1.prot a (Tw_sub t)).2⟩⟩⟩
  · rcases owns_set hi he hj with ⟨_, hk, hv⟩ | ⟨_, ho⟩
    · exact .inr (fresh a hk hv).2.2.1
    · exact S.own a ⟨j, ho⟩
  · obtain ⟨d1, e1, s1, l1⟩ := S.fix j d0 k0 hk e0
    have hne : i ≠ j := fun z => by
      subst z
      rw [eo] at e1
      cases e1
      exact no _ _ rfl hk
    exact ⟨d1, by rw [List.getElem?_set_ne hne]; exact e1, by rw [List.getElem?_set_ne hne], l1⟩
  · by_cases hj : i = j
    · subst hj
      rw [List.getElem?_set_self he] at q
      cases q
      refine ⟨v, List.getElem?_set_self hi, ?_⟩
      cases fr with
      | false =>
        refine Rep.less (show Rep W H (Av T env σ) d v from V) fun a z => z.elim .inl fun ⟨j, hj⟩ => ?_
        rcases owns_set hi he hj with ⟨_, hk, _⟩ | ⟨_, ho⟩
        · exact absurd rfl hk
        · exact .inr ⟨j, ho⟩
      | true =>
        obtain ⟨a, ea, n, z, o⟩ := V
        refine ⟨a, ea, o.less fun b q => ?_⟩
        rcases q with q | ⟨j, hj⟩
        · exact .inl (.inl q)
        · rcases owns_set hi he hj with ⟨_, _, hv⟩ | ⟨_, ho⟩
          · rw [ea] at hv
            cases hv
            exact .inr rfl
          · exact .inl (.inr ⟨j, ho⟩)
    · rw [List.getElem?_set_ne hj] at q
      obtain ⟨v0, e0, so⟩ := R1.slot j d0 k0 q
      refine ⟨v0, by rw [List.getElem?_set_ne hj]; exact e0, so.tr ⟨fun _ _ _ e => e, fun a n _ z => n ?_⟩ fun _ _ _ _ e => e⟩
      rcases z with z | ⟨j', hj'⟩
      · exact .inl (Tw_sub z)
      · rcases owns_set hi he hj' with ⟨_, hk, hv⟩ | ⟨_, ho⟩
        · exact .inl (fresh a hk hv).2.2.2.1
        · exact .inr ⟨j', ho⟩
  · rcases owns_set hi he h1 with ⟨e1, hk, hv⟩ | ⟨n1, o1⟩
    · rcases owns_set hi he h2 with ⟨e2, _, _⟩ | ⟨n2, o2⟩
      · rw [e1, e2]
      · exact absurd ⟨j', o2⟩ (R1.prot a (fresh a hk hv).2.2.2.1).1
    · rcases owns_set hi he h2 with ⟨e2, hk, hv⟩ | ⟨n2, o2⟩
      · exact absurd ⟨j, o1⟩ (R1.prot a (fresh a hk hv).2.2.2.1).1
      · exact R1.inj j j' a o1 o2
  · rcases owns_set hi he hj with ⟨_, hk, hv⟩ | ⟨_, ho⟩
    · exact (fresh a hk hv).2.1 t
    · exact (R1.prot a (Tw_sub t)).1 ⟨j, ho⟩
end
/-! ### targets -/
structure Only (vs : List Nat) (σ σ' : St) : Prop where
  len : σ'.length = σ.length
  out : ∀ i, i ∉ vs → σ'[i]? = σ[i]?
theorem Only.refl {vs : List Nat} {σ : St} : Only vs σ σ := ⟨rfl, fun _ _ => rfl⟩
theorem Only.trans {vs ws : List Nat} {σ σ1 σ2 : St} (a : Only vs σ σ1) (b : Only ws σ1 σ2) : Only (vs ++ ws) σ σ2 :=
  ⟨b.len.trans a.len, fun i h => by
    rw [List.mem_append, not_or] at h
    exact (b.out i h.2).trans (a.out i h.1)⟩
mutual
def gOf (K : PySem.W.Frag) : MT → TG
  | .nm i => gName i
  | .tp ts => gTup K ts.length (gOfs K ts)
def gOfs (K : PySem.W.Frag) : List MT → TGs
  | [] => gNil
  | t :: ts => gCons (gOf K t) (gOfs K ts)
end
section
variable {W : Wd} {T : Addr → Prop} {H : Hp}
mutual
theorem bindT_ok : ∀ {t : MT} {d : PyData} {env env' : Env} {σ : St} {v : V} {Q : St → Hp → Prop}, Rel W T env σ H → Rep W H (Av T env σ) d v → bindT t d env = some env' → (∀ σ', Step env σ H env' σ' H → Rel W T env' σ' H → Only t.vars σ σ' → Q σ' H) → gOf W.K t v σ H Q
  | .nm i, d, env, env', σ, v, Q, rl, hr, e, q => by
    simp only [bindT] at e
    simp only [gOf]
    obtain ⟨h1, h2⟩ := setS_ok (fr := false) (T := T) (H0 := H) (env0 := env) (v := v) .refl rl hr e
    exact q _ h1 h2 ⟨List.length_set .., fun j hj => List.getElem?_set_ne (fun z => hj (by simp only [MT.vars, List.mem_singleton]; exact z.symm))⟩
  | .tp ts, d, env, env', σ, v, Q, rl, hr, e, q => by
    cases d with
    | tuple ds =>
      simp only [bindT] at e
      simp only [Rep] at hr
      obtain ⟨a, vs, rfl, l, z, r⟩ := hr
      simp only [gOf]
      have hl := bindTs_len e
      exact ⟨a, vs, rfl, l.sq, by rw [r.length, hl], bindTs_ok rl r e (by simpa only [MT.vars] using q)⟩
    | _ => simp [bindT] at e
theorem bindTs_ok : ∀ {ts : List MT} {ds : List PyData} {env env' : Env} {σ : St} {vs : List V} {Q : St → Hp → Prop}, Rel W T env σ H → RepAll W H (Av T env σ) ds vs → bindTs ts ds env = some env' → (∀ σ', Step env σ H env' σ' H → Rel W T env' σ' H → Only (MT.varsL ts) σ σ' → Q σ' H) → gOfs W.K ts vs σ H Q
  | [], ds, env, env', σ, vs, Q, rl, hr, e, q => by
    cases ds with
    | nil =>
      simp only [bindTs] at e
      cases e
      simp only [RepAll] at hr
      subst hr
      simp only [gOfs]
      exact ⟨rfl, q σ .refl rl .refl⟩
    | cons d ds => simp [bindTs] at e
  | t :: ts, ds, env, env', σ, vs, Q, rl, hr, e, q => by
    cases ds with
    | nil => simp [bindTs] at e
    | cons d ds =>
      simp only [bindTs] at e
      cases e1 : bindT t d env with
      | none => rw [e1] at e; cases e
      | some env1 =>
        rw [e1] at e
        simp only [RepAll] at hr
        obtain ⟨v, r, rfl, n, h1, h2⟩ := hr
        simp only [gOfs]
        refine ⟨v, r, rfl, bindT_ok rl h1 e1 fun σ1 S1 R1 o1 => bindTs_ok R1 (h2.tr (S1.tr (T := T) (T' := T) fun _ z => .inl z)) e fun σ2 S2 R2 o2 => q σ2 (S1.trans S2) R2 ?_⟩
        simp only [MT.varsL]
        exact o1.trans o2
theorem bindTs_len : ∀ {ts : List MT} {ds : List PyData} {env env' : Env}, bindTs ts ds env = some env' → ds.length = ts.length
  | [], ds, _, _, e => by
    cases ds with
    | nil => rfl
    | cons d ds => simp [bindTs] at e
  | t :: ts, ds, env, _, e => by
    cases ds with
    | nil => simp [bindTs] at e
    | cons d ds =>
      simp only [bindTs] at e
      cases e1 : bindT t d env with
      | none => rw [e1] at e; cases e
      | some env1 =>
        rw [e1] at e
        rw [List.length_cons, List.length_cons, bindTs_len e]
end
end
/-! ### the syntax of targets -/
theorem mapO_cons {α β : Type} {f : α → Option β} {x : α} {r : List α} {ys : List β} (h : mapO f (x :: r) = some ys) : ∃ y zs, f x = some y ∧ mapO f r = some zs ∧ ys = y :: zs := by
  simp only [mapO] at h
  cases e : f x with
  | none => rw [e] at h; cases h
  | some y =>
    rw [e] at h
    cases e2 : mapO f r with
    | none => simp [e2] at h
    | some zs => simp [e2] at h; exact ⟨y, zs, rfl, rfl, h.symm⟩
theorem mapO_len {α β : Type} {f : α → Option β} : ∀ {l : List α} {ys : List β}, mapO f l = some ys → ys.length = l.length
  | [], _, h => by cases h; rfl
  | x :: r, _, h => by
    obtain ⟨y, zs, _, h2, rfl⟩ := mapO_cons h
    rw [List.length_cons, List.length_cons, mapO_len h2]
/-- what may be stored into in X -/
def StOk (rs : Scope) (X : Cx) : Prop := ∀ x, stB rs x = true → Loc X.env.scope x ∧ (X.fn x = true ∨ X.env.scope.names.lookup x = some .local)
theorem okName_of {x : Str} (h : okName x = true) : (x == ("__debug__" : Str)) = false ∧ (x == ("__classdict__" : Str)) = false := by
  unfold okName at h
  simp only [Bool.and_eq_true, Bool.not_eq_true'] at h
  exact h
theorem cTg_form {N : List Str} {rs : Scope} {n : Nat} {e : Expr} {t : MT} (h : cTg N rs n e = some t) : (∃ x p, e = .Name x p) ∨ ∃ es k p, e = .Tuple es k p := by
  cases n with
  | zero => cases h
  | succ n =>
    unfold cTg at h
    split at h
    · exact .inl ⟨_, _, rfl⟩
    · exact .inr ⟨_, _, _, rfl⟩
    · cases h
theorem assign_each {N : List Str} {rs : Scope} {n : Nat} {e : Expr} {t : MT} (h : cTg N rs n e = some t) (es : List Expr) (env : PySem.Env) : assignEach (e :: es) env = (false, assign e env) :: assignEach es env := by
  rcases cTg_form h with ⟨x, p, rfl⟩ | ⟨es', k, p, rfl⟩ <;> rfl
theorem assign_eachs {N : List Str} {rs : Scope} {n : Nat} {env : PySem.Env} : ∀ {es : List Expr} {ts : List MT}, mapO (cTg N rs n) es = some ts → (assignEach es env).length = es.length ∧ (assignEach es env).findIdx? (·.1) = none
  | [], ts, h => ⟨rfl, rfl⟩
  | e :: es, ts, h => by
    obtain ⟨t, zs, h1, h2, rfl⟩ := mapO_cons h
    obtain ⟨i1, i2⟩ := assign_eachs (env := env) h2
    rw [assign_each h1]
    refine ⟨by rw [List.length_cons, List.length_cons, i1], ?_⟩
    rw [List.findIdx?_cons]
    simp [i2]
theorem pg_of {X : Cx} {rs : Scope} (hc : X.calm = true) (hN : X.N.Nodup) (hS : StOk rs X) : ∀ (n : Nat) {e : Expr} {t : MT}, cTg X.N rs n e = some t → PG X e (gOf X.K t)
  | 0, e, t, h => by cases h
  | n + 1, e, t, h => by
    unfold cTg at h
    split at h
    · rename_i x p
      split at h
      · rename_i q
        cases q2 : ixOf x X.N with
        | none => rw [q2] at h; cases h
        | some i =>
          rw [q2] at h
          cases h
          rw [Bool.and_eq_true] at q
          obtain ⟨h1, h2⟩ := hS x q.1
          simp only [gOf]
          exact pg_name hN (ixOf_get q2) h1 h2
      · cases h
    · rename_i es k p
      cases q : mapO (cTg X.N rs n) es with
      | none => rw [q] at h; cases h
      | some ts =>
        rw [q] at h
        cases h
        simp only [gOf]
        rw [mapO_len q]
        have pgs : ∀ {es : List Expr} {ts : List MT}, mapO (cTg X.N rs n) es = some ts → PGs X es (gOfs X.K ts) := fun {es} => by
          induction es with
          | nil => intro ts h; cases h; simp only [gOfs]; exact pgs_nil
          | cons e es ih =>
            intro ts h
            obtain ⟨t, zs, h1, h2, rfl⟩ := mapO_cons h
            simp only [gOfs]
            exact pgs_cons (pg_of hc hN hS n h1) (ih h2) (by rw [assign_each h1]; rfl)
        exact pg_tup hc (pgs q) (assign_eachs q).1 (assign_eachs q).2
    · cases h
end M
namespace M
open PySem L2 PyProof.Rows
/-! ### slots lent to a loop, and given back -/
theorem lend1_get (env : Env) (i j : Nat) : (∃ d k, env[i]? = some (some (d, k)) ∧ (k = .ow ∨ k = .rf) ∧ (lend1 env i)[j]? = if j = i then some (some (d, .ln)) else env[j]?) ∨ ((∀ d k, env[i]? = some (some (d, k)) → k = .sh ∨ k = .ln) ∧ lend1 env i = env) := by
  unfold lend1
  split
  · rename_i d q
    refine .inl ⟨d, .ow, q, .inl rfl, ?_⟩
    split
    · rename_i h; subst h; exact getElem?_set_eq' q
    · rename_i h; exact getElem?_set_ne' (fun z => h z.symm)
  · rename_i d q
    refine .inl ⟨d, .rf, q, .inr rfl, ?_⟩
    split
    · rename_i h; subst h; exact getElem?_set_eq' q
    · rename_i h; exact getElem?_set_ne' (fun z => h z.symm)
  · rename_i n1 n2
    refine .inr ⟨fun d k e => ?_, rfl⟩
    cases k with
    | ow => exact absurd e (n1 d)
    | rf => exact absurd e (n2 d)
    | sh => exact .inl rfl
    | ln => exact .inr rfl
/-- the slots of L become lent, the others stay -/
theorem lendE_get (env : Env) : ∀ (L : List Nat) (j : Nat), (j ∉ L → (lendE env L)[j]? = env[j]?) ∧ (j ∈ L → (∀ d k, env[j]? = some (some (d, k)) → k ≠ .sh → (lendE env L)[j]? = some (some (d, .ln))) ∧ ((∀ d k, env[j]? = some (some (d, k)) → k = .sh) → (lendE env L)[j]? = env[j]?))
  | [], j => ⟨fun _ => rfl, fun h => nomatch h⟩
  | i :: L, j => by
    have ih := lendE_get env L j
    have ihi := lendE_get env L i
    refine ⟨fun h => ?_, fun h => ⟨fun d k e hk => ?_, fun hsh => ?_⟩⟩
    · rw [List.mem_cons, not_or] at h
      show (lend1 (lendE env L) i)[j]? = _
      rcases lend1_get (lendE env L) i j with ⟨d, k, _, _, e⟩ | ⟨_, e⟩
      · rw [e, if_neg h.1]
        exact ih.1 h.2
      · rw [e]
        exact ih.1 h.2
    · show (lend1 (lendE env L) i)[j]? = _
      have cur : (lendE env L)[j]? = some (some (d, k)) ∨ (lendE env L)[j]? = some (some (d, .ln)) := by
        by_cases hj : j ∈ L
        · exact .inr ((ih.2 hj).1 d k e hk)
        · exact .inl ((ih.1 hj).trans e)
      rcases lend1_get (lendE env L) i j with ⟨d', k', e1, _, e2⟩ | ⟨n, e2⟩
      · rw [e2]
        split
        · rename_i hji
          subst hji
          rw [e1] at cur
          rcases cur with z | z <;> (cases z; rfl)
        · rename_i hji
          rcases List.mem_cons.mp h with z | z
          · exact absurd z hji
          · exact (ih.2 z).1 d k e hk
      · rw [e2]
        rcases List.mem_cons.mp h with z | z
        · subst z
          rcases cur with y | y
          · rcases n d k y with q | q
            · exact absurd q hk
            · rw [y, q]
          · exact y
        · exact (ih.2 z).1 d k e hk
    · show (lend1 (lendE env L) i)[j]? = _
      have cur : (lendE env L)[j]? = env[j]? := by
        by_cases hj : j ∈ L
        · exact (ih.2 hj).2 hsh
        · exact ih.1 hj
      rcases lend1_get (lendE env L) i j with ⟨d', k', e1, hk', e2⟩ | ⟨n, e2⟩
      · rw [e2]
        split
        · rename_i hji
          subst hji
          rw [cur] at e1
          have := hsh d' k' e1
          subst this
          rcases hk' with z | z <;> cases z
        · exact cur
      · rw [e2]; exact cur
theorem lendE_len (env : Env) : ∀ L : List Nat, (lendE env L).length = env.length
  | [] => rfl
  | i :: L => by
    show (lend1 (lendE env L) i).length = _
    unfold lend1
    split
    · rw [List.length_set, lendE_len env L]
    · rw [List.length_set, lendE_len env L]
    · exact lendE_len env L
theorem backE_len (env0 env : Env) : ∀ L : List Nat, (backE env0 env L).length = env.length
  | [] => rfl
  | i :: L => by
    show ((backE env0 env L).set i _).length = _
    rw [List.length_set, backE_len env0 env L]
theorem backE_get (env0 env : Env) : ∀ (L : List Nat) (j : Nat), (j ∉ L → (backE env0 env L)[j]? = env[j]?) ∧ (j ∈ L → j < env.length → (backE env0 env L)[j]? = some (env0[j]?.join))
  | [], j => ⟨fun _ => rfl, (fun h => nomatch h)⟩
  | i :: L, j => by
    obtain ⟨h1, h2⟩ := backE_get env0 env L j
    refine ⟨fun h => ?_, fun h hl => ?_⟩
    · rw [List.mem_cons, not_or] at h
      show ((backE env0 env L).set i _)[j]? = _
      rw [List.getElem?_set_ne (fun z => h.1 z.symm)]
      exact h1 h.2
    · show ((backE env0 env L).set i _)[j]? = _
      by_cases hj : i = j
      · subst hj
        rw [List.getElem?_set_self (by rw [backE_len]; exact hl)]
      · rw [List.getElem?_set_ne hj]
        rcases List.mem_cons.mp h with z | z
        · exact absurd z.symm hj
        · exact h2 z hl
theorem wipeE_len (env : Env) : ∀ L : List Nat, (wipeE env L).length = env.length
  | [] => rfl
  | i :: L => by
    show ((wipeE env L).set i none).length = _
    rw [List.length_set, wipeE_len env L]
theorem wipeE_get (env : Env) : ∀ (L : List Nat) (j : Nat), (j ∉ L → (wipeE env L)[j]? = env[j]?) ∧ (j ∈ L → ∀ x, (wipeE env L)[j]? ≠ some (some x))
  | [], j => ⟨fun _ => rfl, (fun h => nomatch h)⟩
  | i :: L, j => by
    obtain ⟨h1, h2⟩ := wipeE_get env L j
    refine ⟨fun h => ?_, fun h x e => ?_⟩
    · rw [List.mem_cons, not_or] at h
      show ((wipeE env L).set i none)[j]? = _
      rw [List.getElem?_set_ne (fun z => h.1 z.symm)]
      exact h1 h.2
    · have e : ((wipeE env L).set i none)[j]? = some (some x) := e
      by_cases hj : i = j
      · subst hj
        rw [List.getElem?_set] at e
        simp at e
      · rw [List.getElem?_set_ne hj] at e
        rcases List.mem_cons.mp h with z | z
        · exact absurd z.symm hj
        · exact h2 z x e
theorem wipe_get (σ : St) : ∀ (L : List Nat) (j : Nat), j ∉ L → (wipe σ L)[j]? = σ[j]?
  | [], j, _ => rfl
  | i :: L, j, h => by
    rw [List.mem_cons, not_or] at h
    show ((wipe σ L).set i none)[j]? = _
    rw [List.getElem?_set_ne (fun z => h.1 z.symm)]
    exact wipe_get σ L j h.2
section
variable {W : Wd} {T T2 : Addr → Prop} {env1 env2 : Env} {σ1 σ2 : St} {H1 H2 : Hp} {L : List Nat}
theorem lend_kind {j : Nat} {d : PyData} {k : Own} (h : (lendE env1 L)[j]? = some (some (d, k))) : ∃ k0, env1[j]? = some (some (d, k0)) ∧ (k0 = .sh ↔ k = .sh) ∧ (j ∉ L → k0 = k) := by
  by_cases hj : j ∈ L
  · have q := (lendE_get env1 L j).2 hj
    by_cases hs : ∀ d k, env1[j]? = some (some (d, k)) → k = .sh
    · rw [q.2 hs] at h
      exact ⟨k, h, Iff.rfl, fun _ => rfl⟩
    · have hs' : ∃ d0 k0, env1[j]? = some (some (d0, k0)) ∧ k0 ≠ .sh := by
        cases e : env1[j]? with
        | none => exact absurd (fun d k e' => by rw [e] at e'; cases e') hs
        | some o =>
          cases o with
          | none => exact absurd (fun d k e' => by rw [e] at e'; cases e') hs
          | some p =>
            obtain ⟨d0, k0⟩ := p
            by_cases hk : k0 = .sh
            · exact absurd (fun d k e' => by rw [e] at e'; cases e'; exact hk) hs
            · exact ⟨d0, k0, rfl, hk⟩
      obtain ⟨d0, k0, e0, hk0⟩ := hs'
      rw [q.1 d0 k0 e0 hk0] at h
      cases h
      exact ⟨k0, e0, ⟨fun z => absurd z hk0, fun z => by cases z⟩, fun z => absurd hj z⟩
  · rw [(lendE_get env1 L j).1 hj] at h
    exact ⟨k, h, Iff.rfl, fun _ => rfl⟩
theorem lend_owns {j : Nat} {a : Addr} : Owns (lendE env1 L) σ1 j a ↔ Owns env1 σ1 j a := by
  constructor
  · rintro ⟨d, k, q1, q2, q3⟩
    obtain ⟨k0, e0, hk, _⟩ := lend_kind q1
    exact ⟨d, k0, e0, fun z => q2 (hk.mp z), q3⟩
  · rintro ⟨d, k, q1, q2, q3⟩
    by_cases hj : j ∈ L
    · exact ⟨d, .ln, ((lendE_get env1 L j).2 hj).1 d k q1 q2, by decide, q3⟩
    · exact ⟨d, k, by rw [(lendE_get env1 L j).1 hj]; exact q1, q2, q3⟩
theorem lend_ownd {a : Addr} : Ownd (lendE env1 L) σ1 a ↔ Ownd env1 σ1 a := ⟨fun ⟨j, h⟩ => ⟨j, lend_owns.mp h⟩, fun ⟨j, h⟩ => ⟨j, lend_owns.mpr h⟩⟩
theorem lend_av {a : Addr} : Av T (lendE env1 L) σ1 a ↔ Av T env1 σ1 a := or_congr Iff.rfl lend_ownd
theorem SlotOk.kind {H : Hp} {A : Addr → Prop} {d : PyData} {k k' : Own} {v : V} (h : SlotOk W H A d k v) (e : k = .sh ↔ k' = .sh) : SlotOk W H A d k' v := by
  cases k <;> cases k' <;> first | exact h | (exfalso; have := e.mp rfl; cases this) | (exfalso; have := e.mpr rfl; cases this)
theorem SlotOk.less {H : Hp} {A A' : Addr → Prop} {d : PyData} {k : Own} {v : V} (h : SlotOk W H A d k v) (i : ∀ a, A' a → A a) : SlotOk W H A' d k v := h.tr ⟨fun _ _ _ e => e, fun a n _ q => n (i a q)⟩ fun _ _ _ _ e => e
theorem lend_rel (R : Rel W T env1 σ1 H1) : Rel W T (lendE env1 L) σ1 H1 :=
  ⟨by rw [lendE_len]; exact R.len, fun j d k q => by
    obtain ⟨k0, e0, hk, _⟩ := lend_kind q
    obtain ⟨v, e1, so⟩ := R.slot j d k0 e0
    exact ⟨v, e1, (so.kind hk).less fun a z => lend_av.mp z⟩, fun i j a h1 h2 => R.inj i j a (lend_owns.mp h1) (lend_owns.mp h2), fun a t => ⟨fun z => (R.prot a t).1 (lend_ownd.mp z), (R.prot a t).2⟩⟩
/-- given back -/
theorem unlend_ok (hL : ∀ j ∈ L, ∃ d k, env1[j]? = some (some (d, k)) ∧ k ≠ .sh) (S : Step (lendE env1 L) σ1 H1 env2 σ2 H2) (R2 : Rel W T2 env2 σ2 H2) :
    Step env1 σ1 H1 (backE env1 env2 L) σ2 H2 ∧ Rel W T2 (backE env1 env2 L) σ2 H2 ∧ (∀ j a, Owns (backE env1 env2 L) σ2 j a ↔ Owns env2 σ2 j a) := by
  -- a lent slot is still there
  have stay : ∀ j ∈ L, ∃ d k, env1[j]? = some (some (d, k)) ∧ k ≠ .sh ∧ env2[j]? = some (some (d, .ln)) ∧ σ2[j]? = σ1[j]? ∧ (backE env1 env2 L)[j]? = some (some (d, k)) := fun j hj => by
    obtain ⟨d, k, e, hk⟩ := hL j hj
    obtain ⟨d', e2, s2, l2⟩ := S.fix j d .ln (.inr rfl) (((lendE_get env1 L j).2 hj).1 d k e hk)
    have := l2 rfl
    subst this
    refine ⟨d', k, e, hk, e2, s2, ?_⟩
    rw [(backE_get env1 env2 L j).2 hj (List.getElem?_eq_some_iff.mp e2).1, e]
    rfl
  have own : ∀ j a, Owns (backE env1 env2 L) σ2 j a ↔ Owns env2 σ2 j a := fun j a => by
    by_cases hj : j ∈ L
    · obtain ⟨d, k, e, hk, e2, s2, eb⟩ := stay j hj
      constructor
      · rintro ⟨d', k', q1, q2, q3⟩
        exact ⟨d, .ln, e2, by decide, q3⟩
      · rintro ⟨d', k', q1, q2, q3⟩
        exact ⟨d, k, eb, hk, q3⟩
    · constructor
      · rintro ⟨d', k', q1, q2, q3⟩
        rw [(backE_get env1 env2 L j).1 hj] at q1
        exact ⟨d', k', q1, q2, q3⟩
      · rintro ⟨d', k', q1, q2, q3⟩
        exact ⟨d', k', by rw [(backE_get env1 env2 L j).1 hj]; exact q1, q2, q3⟩
  have ownd : ∀ a, Ownd (backE env1 env2 L) σ2 a ↔ Ownd env2 σ2 a := fun a => ⟨fun ⟨j, h⟩ => ⟨j, (own j a).mp h⟩, fun ⟨j, h⟩ => ⟨j, (own j a).mpr h⟩⟩
  refine ⟨⟨fun a o e n => S.keep a o e fun z => n (lend_ownd.mp z), fun a z => (S.own a ((ownd a).mp z)).imp lend_ownd.mp id, S.dom, fun j d k hk e => ?_⟩, ⟨by rw [backE_len]; exact R2.len, fun j d k q => ?_, fun i j a h1 h2 => R2.inj i j a ((own i a).mp h1) ((own j a).mp h2), fun a t => ⟨fun z => (R2.prot a t).1 ((ownd a).mp z), (R2.prot a t).2⟩⟩, own⟩
  · by_cases hj : j ∈ L
    · obtain ⟨d', k', e', _, _, s2, eb⟩ := stay j hj
      rw [e] at e'
      cases e'
      exact ⟨d, eb, s2, fun _ => rfl⟩
    · obtain ⟨d', e', s', l'⟩ := S.fix j d k hk (by rw [(lendE_get env1 L j).1 hj]; exact e)
      exact ⟨d', by rw [(backE_get env1 env2 L j).1 hj]; exact e', s', l'⟩
  · by_cases hj : j ∈ L
    · obtain ⟨d', k', e', hk', e2, s2, eb⟩ := stay j hj
      rw [eb] at q
      cases q
      obtain ⟨v, ev, so⟩ := R2.slot j d .ln e2
      exact ⟨v, ev, (so.kind ⟨fun z => (by cases z), fun z => absurd z hk'⟩).less fun a z => z.imp id (ownd a).mp⟩
    · rw [(backE_get env1 env2 L j).1 hj] at q
      obtain ⟨v, ev, so⟩ := R2.slot j d k q
      exact ⟨v, ev, so.less fun a z => z.imp id (ownd a).mp⟩
end
/-! ### a comprehension's own slots -/
section
variable {W : Wd} {T T2 : Addr → Prop} {e0 env2 : Env} {σ : St} {H1 H2 : Hp} {vs : List Nat}
/-- what the hidden slots own -/
def hid (e0 : Env) (σ : St) (vs : List Nat) : Addr → Prop := fun a => ∃ i, i ∈ vs ∧ Owns e0 σ i a
theorem wipe_owns {j : Nat} {a : Addr} (h : Owns (wipeE e0 vs) (wipe σ vs) j a) : j ∉ vs ∧ Owns e0 σ j a := by
  obtain ⟨d, k, q1, q2, q3⟩ := h
  by_cases hj : j ∈ vs
  · exact absurd q1 ((wipeE_get e0 vs j).2 hj _)
  · rw [(wipeE_get e0 vs j).1 hj] at q1
    rw [wipe_get σ vs j hj] at q3
    exact ⟨hj, d, k, q1, q2, q3⟩
theorem wipe_rel (R : Rel W T e0 σ H1) : Rel W (fun a => T a ∨ hid e0 σ vs a) (wipeE e0 vs) (wipe σ vs) H1 := by
  have less : ∀ a, Av (fun a => T a ∨ hid e0 σ vs a) (wipeE e0 vs) (wipe σ vs) a → Av T e0 σ a := fun a z => by
    rcases z with (z | ⟨i, _, z⟩) | ⟨j, z⟩
    · exact .inl z
    · exact .inr ⟨i, z⟩
    · exact .inr ⟨j, (wipe_owns z).2⟩
  refine ⟨by rw [wipeE_len, wipe_length]; exact R.len, fun j d k q => ?_, fun i j a h1 h2 => R.inj i j a (wipe_owns h1).2 (wipe_owns h2).2, fun a t => ⟨fun ⟨j, z⟩ => ?_, ?_⟩⟩
  · by_cases hj : j ∈ vs
    · exact absurd q ((wipeE_get e0 vs j).2 hj _)
    · rw [(wipeE_get e0 vs j).1 hj] at q
      obtain ⟨v, ev, so⟩ := R.slot j d k q
      exact ⟨v, by rw [wipe_get σ vs j hj]; exact ev, so.less less⟩
  · obtain ⟨nj, oj⟩ := wipe_owns z
    rcases t with t | ⟨i, hi, oi⟩
    · exact (R.prot a t).1 ⟨j, oj⟩
    · have := R.inj i j a oi oj
      subst this
      exact nj hi
  · rcases t with t | ⟨i, hi, oi⟩
    · exact (R.prot a t).2
    · exact R.av (.inr ⟨i, oi⟩)
/-- the block is left -/
theorem unwipe_ok (R : Rel W T e0 σ H1) (S : Step (wipeE e0 vs) (wipe σ vs) H1 env2 (wipe σ vs) H2) (hT : ∀ a, T2 a → T a ∨ H1 a = none) (hn : ∀ a, T2 a → H2 a ≠ none) (R2 : Rel W (fun a => T2 a ∨ hid e0 σ vs a) env2 (wipe σ vs) H2) :
    Step e0 σ H1 (backE e0 env2 vs) σ H2 ∧ Rel W T2 (backE e0 env2 vs) σ H2 ∧ ∀ a, Av T2 (backE e0 env2 vs) σ a → Av (fun a => T2 a ∨ hid e0 σ vs a) env2 (wipe σ vs) a := by
  have len : env2.length = e0.length := by
    have h1 := R2.len
    rw [wipe_length] at h1
    rw [h1]
    exact R.len.symm
  have back : ∀ {j : Nat}, j ∈ vs → ∀ {x}, (backE e0 env2 vs)[j]? = some (some x) → e0[j]? = some (some x) := fun {j} hj {x} q => by
    have hl : j < env2.length := by
      have := (List.getElem?_eq_some_iff.mp q).1
      rw [backE_len] at this
      exact this
    rw [(backE_get e0 env2 vs j).2 hj hl] at q
    cases e : e0[j]? with
    | none => rw [e] at q; cases q
    | some o => rw [e] at q; cases q; rfl
  have own : ∀ {j : Nat} {a : Addr}, Owns (backE e0 env2 vs) σ j a → (j ∈ vs ∧ Owns e0 σ j a) ∨ (j ∉ vs ∧ Owns env2 (wipe σ vs) j a) := fun {j a} ⟨d, k, q1, q2, q3⟩ => by
    by_cases hj : j ∈ vs
    · exact .inl ⟨hj, d, k, back hj q1, q2, q3⟩
    · rw [(backE_get e0 env2 vs j).1 hj] at q1
      exact .inr ⟨hj, d, k, q1, q2, by rw [wipe_get σ vs j hj]; exact q3⟩
  have less : ∀ a, Av T2 (backE e0 env2 vs) σ a → Av (fun a => T2 a ∨ hid e0 σ vs a) env2 (wipe σ vs) a := fun a z => by
    rcases z with z | ⟨j, z⟩
    · exact .inl (.inl z)
    · rcases own z with ⟨hj, oj⟩ | ⟨_, oj⟩
      · exact .inl (.inr ⟨j, hj, oj⟩)
      · exact .inr ⟨j, oj⟩
  have sown : ∀ a, Ownd (backE e0 env2 vs) σ a → Ownd e0 σ a ∨ H1 a = none := fun a ⟨j, z⟩ => by
    rcases own z with ⟨_, oj⟩ | ⟨_, oj⟩
    · exact .inl ⟨j, oj⟩
    · rcases S.own a ⟨j, oj⟩ with ⟨i, y⟩ | y
      · exact .inl ⟨i, (wipe_owns y).2⟩
      · exact .inr y
  have keep : ∀ a o, H1 a = some o → ¬ Ownd e0 σ a → H2 a = some o := fun a o e n => S.keep a o e fun ⟨j, z⟩ => n ⟨j, (wipe_owns z).2⟩
  refine ⟨⟨keep, sown, S.dom, fun j d k hk e => ?_⟩, ⟨by rw [backE_len, len]; exact R.len, fun j d k q => ?_, fun i j a h1 h2 => ?_, fun a t => ⟨fun ⟨j, z⟩ => ?_, hn a t⟩⟩, less⟩
  · by_cases hj : j ∈ vs
    · refine ⟨d, ?_, rfl, fun _ => rfl⟩
      rw [(backE_get e0 env2 vs j).2 hj (by rw [len]; exact (List.getElem?_eq_some_iff.mp e).1), e]
      rfl
    · obtain ⟨d', e', _, l'⟩ := S.fix j d k hk (by rw [(wipeE_get e0 vs j).1 hj]; exact e)
      exact ⟨d', by rw [(backE_get e0 env2 vs j).1 hj]; exact e', rfl, l'⟩
  · by_cases hj : j ∈ vs
    · have q' := back hj q
      obtain ⟨v, ev, so⟩ := R.slot j d k q'
      refine ⟨v, ev, so.tr ⟨fun a o n e => keep a o e fun z => n (.inr z), fun a n e z => ?_⟩ fun a ea nk o e => S.keep a o e fun ⟨j', z⟩ => ?_⟩
      · rcases z with z | z
        · rcases hT a z with y | y
          · exact n (.inl y)
          · exact e y
        · rcases sown a z with y | y
          · exact n (.inr y)
          · exact e y
      · obtain ⟨nj, oj⟩ := wipe_owns z
        subst ea
        have := R.inj j j' a ⟨d, k, q', nk, ev⟩ oj
        subst this
        exact nj hj
    · rw [(backE_get e0 env2 vs j).1 hj] at q
      obtain ⟨v, ev, so⟩ := R2.slot j d k q
      rw [wipe_get σ vs j hj] at ev
      exact ⟨v, ev, so.less less⟩
  · rcases own h1 with ⟨i1, o1⟩ | ⟨n1, o1⟩
    · rcases own h2 with ⟨i2, o2⟩ | ⟨n2, o2⟩
      · exact R.inj i j a o1 o2
      · exact absurd ⟨j, o2⟩ (R2.prot a (.inr ⟨i, i1, o1⟩)).1
    · rcases own h2 with ⟨i2, o2⟩ | ⟨n2, o2⟩
      · exact absurd ⟨i, o1⟩ (R2.prot a (.inr ⟨j, i2, o2⟩)).1
      · exact R2.inj i j a o1 o2
  · rcases own z with ⟨i1, o1⟩ | ⟨n1, o1⟩
    · rcases hT a t with y | y
      · exact (R.prot a y).1 ⟨j, o1⟩
      · exact R.av (.inr ⟨j, o1⟩) y
    · exact (R2.prot a (.inl t)).1 ⟨j, o1⟩
end
end M
namespace M
open PySem L2 PyProof.Rows
/-! ### what a loop walks stays -/
section
variable {W : Wd} {T T' : Addr → Prop} {env env' : Env} {σ σ' : St} {H H' : Hp}
theorem norm_rd : ∀ {ws : List EV} {ds : List PyData}, rdAll env ws = .ok ds → rdAll env (ws.map (normW env)) = .ok ds := fun {ws ds} h => by
  have one : ∀ w, rdv env (normW env w) = rdv env w := fun w => by
    cases w with
    | va d fr => rfl
    | sl i =>
      simp only [normW]
      split
      · rename_i d q
        simp only [rdv, q]
      · rfl
  have all : ∀ ws, rdAll env (ws.map (normW env)) = rdAll env ws := fun ws => by
    induction ws with
    | nil => rfl
    | cons w r ih =>
      show rdAll env (normW env w :: r.map (normW env)) = _
      unfold rdAll
      rw [one, ih]
  rw [all, h]
theorem norm_hold (R : Rel W T env σ H) : ∀ {ws : List EV} {vs : List V}, HoldL W T env σ H ws vs → HoldL W T env σ H (ws.map (normW env)) vs
  | [], _, h => h
  | w :: ws, _, h => by
    obtain ⟨v, r, rfl, h1, h2⟩ := h
    refine ⟨v, r, rfl, ?_, norm_hold R h2⟩
    cases w with
    | va d fr => exact h1
    | sl i =>
      simp only [normW]
      split
      · rename_i d q
        obtain ⟨v', e, so⟩ := R.slot i d .sh q
        have h1 : σ[i]? = some (some v) := h1
        rw [h1] at e
        cases e
        exact so
      · exact h1
theorem slots_mem : ∀ {ws : List EV} {i : Nat}, EV.sl i ∈ ws ↔ i ∈ slots ws
  | [], i => by simp [slots]
  | .va d fr :: ws, i => by
    rw [List.mem_cons]
    show _ ↔ i ∈ slots ws
    rw [← slots_mem (ws := ws)]
    constructor
    · rintro (h | h)
      · cases h
      · exact h
    · exact .inr
  | .sl j :: ws, i => by
    rw [List.mem_cons]
    show _ ↔ i ∈ j :: slots ws
    rw [List.mem_cons, ← slots_mem (ws := ws)]
    constructor
    · rintro (h | h)
      · cases h; exact .inl rfl
      · exact .inr h
    · rintro (h | h)
      · subst h; exact .inl rfl
      · exact .inr h
theorem rd_slots : ∀ {ws : List EV} {ds : List PyData}, rdAll env ws = .ok ds → ∀ i ∈ slots ws, ∃ d k, env[i]? = some (some (d, k))
  | [], _, _, i, hi => by cases hi
  | w :: ws, ds, h, i, hi => by
    unfold rdAll at h
    cases e1 : rdv env w with
    | ok d =>
      simp only [bind, M.R.bind, e1] at h
      cases e2 : rdAll env ws with
      | ok es =>
        cases w with
        | va d' fr => exact rd_slots e2 i hi
        | sl j =>
          rcases List.mem_cons.mp (show i ∈ j :: slots ws from hi) with z | z
          · subst z
            simp only [rdv] at e1
            split at e1
            · rename_i d' k q; exact ⟨d', k, q⟩
            · cases e1
          · exact rd_slots e2 i z
      | exc x => simp only [e2] at h; cases h
      | stuck => simp only [e2] at h; cases h
    | exc x => simp only [bind, M.R.bind, e1] at h; cases h
    | stuck => simp only [bind, M.R.bind, e1] at h; cases h
theorem rd_same : ∀ {ws : List EV} {ds : List PyData}, rdAll env ws = .ok ds → (∀ i ∈ slots ws, ∀ d k, env[i]? = some (some (d, k)) → ∃ k', env'[i]? = some (some (d, k'))) → rdAll env' ws = .ok ds
  | [], _, h, _ => h
  | w :: ws, ds, h, hs => by
    unfold rdAll at h ⊢
    cases e1 : rdv env w with
    | ok d =>
      simp only [bind, M.R.bind, e1] at h
      cases e2 : rdAll env ws with
      | ok es =>
        simp only [e2] at h
        cases h
        have t1 : rdv env' w = .ok d := by
          cases w with
          | va d' fr => exact e1
          | sl j =>
            simp only [rdv] at e1
            split at e1
            · rename_i d' k q
              cases e1
              obtain ⟨k', q'⟩ := hs j (List.mem_cons_self) d k q
              simp only [rdv, q']
            · cases e1
        have t2 : rdAll env' ws = .ok es := rd_same e2 fun i hi => hs i (by cases w with | va _ _ => exact hi | sl j => exact List.mem_cons_of_mem _ hi)
        simp only [bind, M.R.bind, t1, t2]
      | exc x => simp only [e2] at h; cases h
      | stuck => simp only [e2] at h; cases h
    | exc x => simp only [bind, M.R.bind, e1] at h; cases h
    | stuck => simp only [bind, M.R.bind, e1] at h; cases h
theorem HoldL.tr (t : Tr H H' (Av T env σ) (Av T' env' σ')) : ∀ {ws : List EV} {vs : List V}, HoldL W T env σ H ws vs → (∀ i ∈ slots ws, σ'[i]? = σ[i]?) → HoldL W T' env' σ' H' ws vs
  | [], _, h, _ => h
  | w :: ws, _, h, hs => by
    obtain ⟨v, r, rfl, h1, h2⟩ := h
    refine ⟨v, r, rfl, ?_, HoldL.tr t h2 fun i hi => hs i (by cases w with | va _ _ => exact hi | sl j => exact List.mem_cons_of_mem _ hi)⟩
    cases w with
    | va d fr => exact Rep.tr t (show Rep W H (Av T env σ) d v from h1)
    | sl j => exact (hs j List.mem_cons_self).trans h1
theorem lent_own {ws : List EV} {ds : List PyData} (h : rdAll env ws = .ok ds) : ∀ i ∈ lent env ws, ∃ d k, env[i]? = some (some (d, k)) ∧ k ≠ .sh := fun i hi => by
  obtain ⟨d, k, e⟩ := rd_slots (norm_rd h) i hi
  refine ⟨d, k, e, fun z => ?_⟩
  subst z
  obtain ⟨w, hw, ew⟩ := List.mem_map.mp (slots_mem.mpr hi)
  cases w with
  | va d' fr => cases ew
  | sl j =>
    simp only [normW] at ew
    split at ew
    · cases ew
    · rename_i n
      cases ew
      exact n d e
theorem items_len {k : IK} {ds items : List PyData} {vs : List V} {A : Addr → Prop} (h : RbAll W H A ds vs) (e : itemsD k ds = some items) : items.length ≤ sizeLine := by
  have ll : ∀ {xs v}, Rb W H A (.list xs) v → xs.length ≤ sizeLine := fun {xs v} h => by
    obtain ⟨a, vs, _, _, z, r⟩ := h.list
    rw [← r.length]; exact z
  have lt : ∀ {xs v}, Rb W H A (.tuple xs) v → xs.length ≤ sizeLine := fun {xs v} h => by
    obtain ⟨a, vs, _, _, z, r⟩ := h.tuple
    rw [← r.length]; exact z
  cases k with
  | ex =>
    match ds, e, h with
    | [.list xs], e, h => cases e; obtain ⟨v, _, h⟩ := h.one; exact ll h
    | [.tuple xs], e, h => cases e; obtain ⟨v, _, h⟩ := h.one; exact lt h
  | r1 =>
    match ds, e, h with
    | [.int n], e, h =>
      simp only [itemsD] at e
      split at e
      · rename_i hz
        cases e
        rw [List.length_map, List.length_range]
        omega
      · cases e
  | r2 =>
    match ds, e, h with
    | [.int n, .int m], e, h =>
      simp only [itemsD] at e
      split at e
      · rename_i hz
        cases e
        rw [List.length_map, List.length_range]
        exact hz.2
      · cases e
  | en =>
    match ds, e, h with
    | [.list xs], e, h => cases e; obtain ⟨v, _, h⟩ := h.one; rw [List.length_map, List.length_zipIdx]; exact ll h
  | zp =>
    match ds, e, h with
    | [.list xs, .list ys], e, h => cases e; obtain ⟨v, w, _, h, _⟩ := h.two; rw [List.length_zipWith]; have := ll h; omega
    | [.tuple xs, .tuple ys], e, h => cases e; obtain ⟨v, w, _, h, _⟩ := h.two; rw [List.length_zipWith]; have := lt h; omega
/-- something is written at a place kept apart -/
theorem Rel.updT {p : Addr} {o : HO} (R : Rel W T env σ H) (hp : T p) : Rel W T env σ (upd H p o) := by
  have np := (R.prot p hp).1
  refine ⟨R.len, fun i d k e => ?_, R.inj, fun a t => ⟨(R.prot a t).1, ?_⟩⟩
  · obtain ⟨v, e1, so⟩ := R.slot i d k e
    refine ⟨v, e1, so.tr ⟨fun a o n q => ?_, fun a n _ => n⟩ fun a ea nk o q => ?_⟩
    · rw [upd_ne (fun z => n (.inl (by rw [z]; exact hp)))]; exact q
    · rw [upd_ne (fun z => np ⟨i, d, k, e, nk, by rw [e1, ea, z]⟩)]; exact q
  · by_cases z : a = p
    · subst z; rw [upd_same]; simp
    · rw [upd_ne z]; exact (R.prot a t).2
theorem tr_updT {p : Addr} {o : HO} {A : Addr → Prop} (hp : A p) : Tr H (upd H p o) A A := ⟨fun a o n q => by rw [upd_ne (fun z => n (by rw [z]; exact hp))]; exact q, fun a n _ => n⟩
theorem Step.updNew {env0 : Env} {σ0 : St} {H0 : Hp} {p : Addr} {o : HO} (S : Step env0 σ0 H0 env σ H) (hp : H0 p = none) : Step env0 σ0 H0 env σ (upd H p o) :=
  ⟨fun a o e n => by rw [upd_ne (ne_of_none e hp)]; exact S.keep a o e n, S.own, fun a h => by
    by_cases z : a = p
    · subst z; exact absurd hp h
    · rw [upd_ne z]; exact S.dom a h, S.fix⟩
theorem wipe_only {vs : List Nat} {σ2 : St} (o : Only vs (wipe σ vs) σ2) : wipe σ2 vs = wipe σ vs := by
  have full : ∀ (σ : St) (L : List Nat) (j : Nat), j ∈ L → (wipe σ L)[j]? = if j < σ.length then some none else none := fun σ L j => by
    induction L with
    | nil => intro h; cases h
    | cons i L ih =>
      intro h
      show ((wipe σ L).set i none)[j]? = _
      by_cases hj : i = j
      · subst hj
        rw [List.getElem?_set]
        simp [wipe_length]
      · rw [List.getElem?_set_ne hj]
        rcases List.mem_cons.mp h with z | z
        · exact absurd z.symm hj
        · exact ih z
  apply List.ext_getElem?
  intro j
  by_cases hj : j ∈ vs
  · rw [full σ2 vs j hj, full σ vs j hj, o.len, wipe_length]
  · rw [wipe_get σ2 vs j hj, o.out j hj]
/-- a turn's end: the block's own slots are hidden again -/
theorem wipe_step {vs : List Nat} {σ2 : St} (hw : ∀ j ∈ vs, ∀ x, env[j]? ≠ some (some x)) (e2 : wipe σ2 vs = wipe σ vs) (S : Step env (wipe σ vs) H env' σ2 H') : Step env (wipe σ vs) H (wipeE env' vs) (wipe σ vs) H' := by
  refine ⟨S.keep, fun a ⟨j, z⟩ => ?_, S.dom, fun j d k hk e => ?_⟩
  · rw [← e2] at z
    exact S.own a ⟨j, (wipe_owns z).2⟩
  · have hj : j ∉ vs := fun h => hw j h _ e
    obtain ⟨d', e', s', l'⟩ := S.fix j d k hk e
    exact ⟨d', by rw [(wipeE_get env' vs j).1 hj]; exact e', rfl, l'⟩
end
/-! ### the tests of a comprehension -/
def tCs (C : CallT) (G : List PyData) (W : Wd) (Z : L2.WX) (cs : List ME) : TT := fun σ H Q => ∃ T env, Rel W T env σ H ∧ PostT W Z T env σ H (evC C G cs env) Q
theorem pts_M {X : Cx} {C : CallT} {G : List PyData} {W : Wd} {Z : L2.WX} {ifs : List Expr} {cs : List ME} (hl : ifs.length ≤ 1) (h : ∀ e m, ifs = [e] → cs = [m] → PT X e (tT C G W Z m)) (hc : cs.length = ifs.length) : PTs X ifs (tCs C G W Z cs) := by
  match ifs, cs, hl, hc with
  | [], [], _, _ =>
    refine ⟨fun pins s σ H Q I q => pts_nil.run pins s σ H Q I ?_⟩
    obtain ⟨T, env, rl, q⟩ := q
    simp only [evC] at q
    exact q H .refl rl
  | [e], [m], _, _ =>
    refine ⟨fun pins s σ H Q I q => (pts_one (h e m rfl rfl)).run pins s σ H Q I ?_⟩
    obtain ⟨T, env, rl, q⟩ := q
    refine ⟨T, env, rl, ?_⟩
    unfold evT
    simp only [evC] at q
    cases e1 : ev C G m env with
    | ok p =>
      simp only [bind, M.R.bind, e1] at q ⊢
      cases e2 : truW p.2 p.1 with
      | ok k =>
        simp only [e2] at q ⊢
        cases k with
        | true => exact q
        | false => exact q
      | exc x => simp only [e2] at q ⊢; exact q
      | stuck => simp only [e2] at q ⊢; exact q
    | exc x => simp only [bind, M.R.bind, e1] at q ⊢; exact q
    | stuck => simp only [bind, M.R.bind, e1] at q ⊢; exact q
/-- a turn of a comprehension -/
def lcTurn (C : CallT) (G : List PyData) (t : MT) (cs : List ME) (e : ME) (x : PyData) (env : Env) : RE (Option PyData × Env) := do
  let env ← R.ofO (bindT t x env)
  let (b, env) ← evC C G cs env
  if b = true then
    let (w, env) ← ev C G e env
    let (d, env) ← fzn env w
    .ok (some d, wipeE env t.vars)
  else .ok (none, wipeE env t.vars)
abbrev Z0 : L2.WX := fun _ _ _ _ => False
section
variable {C : CallT} {G : List PyData} {W : Wd} {T : Addr → Prop} {env env1 : Env} {σ : St} {H : Hp} {t : MT} {cs : List ME} {e : ME} {d : PyData} {x : V} {D : Addr} {o : Option PyData}
theorem turn_ok (rl : Rel W T env (wipe σ t.vars) H) (hw : ∀ j ∈ t.vars, ∀ y, env[j]? ≠ some (some y)) (hr : Rep W H (Av T env (wipe σ t.vars)) d x) (hf : lcTurn C G t cs e d env = .ok (o, env1)) {Nx : Hp → Prop} {accv : List V} (hD : T D) (hacc : H D = some (.lst accv)) (hz : accv.length < sizeLine)
    (q0 : o = none → ∀ H3, Step env (wipe σ t.vars) H env1 (wipe σ t.vars) H3 → Rel W T env1 (wipe σ t.vars) H3 → Nx H3)
    (q1 : ∀ g, o = some g → ∀ H4 y, Step env (wipe σ t.vars) H env1 (wipe σ t.vars) H4 → Rel W T env1 (wipe σ t.vars) H4 → ndD g → Rep W H4 (Av T env1 (wipe σ t.vars)) g y → Nx (upd H4 D (.lst (accv ++ [y])))) :
    gOf W.K t x (wipe σ t.vars) H fun σ2 H2 => wipe σ2 t.vars = wipe σ t.vars ∧ tCs C G W Z0 cs σ2 H2 fun b H3 => if b = true then tE C G W Z0 e σ2 H3 fun y H4 => ∃ acc, H4 D = some (.lst acc) ∧ acc.length < sizeLine ∧ Nx (upd H4 D (.lst (acc ++ [y]))) else Nx H3 := by
  unfold lcTurn at hf
  cases e1 : bindT t d env with
  | none => simp only [bind, M.R.bind, M.R.ofO, e1] at hf; cases hf
  | some envb =>
    simp only [bind, M.R.bind, M.R.ofO, e1] at hf
    refine bindT_ok rl hr e1 fun σ2 S1 R1 o1 => ?_
    have ew := wipe_only o1
    refine ⟨ew, T, envb, R1, ?_⟩
    have wr : ∀ {E : Env} {H' : Hp}, Rel W T E σ2 H' → Rel W T (wipeE E t.vars) (wipe σ t.vars) H' := fun {E H'} r => by
      have := wipe_rel (vs := t.vars) r
      rw [ew] at this
      exact this.less fun a z => .inl z
    have wl : ∀ {E : Env} (a : Addr), Av T (wipeE E t.vars) (wipe σ t.vars) a → Av T E σ2 a := fun {E} a z => by
      rcases z with z | ⟨j, z⟩
      · exact .inl z
      · rw [← ew] at z
        exact .inr ⟨j, (wipe_owns z).2⟩
    cases e2 : evC C G cs envb with
    | ok p =>
      obtain ⟨b, envc⟩ := p
      simp only [e2] at hf
      intro H3 S2 R2
      cases b with
      | false =>
        simp only [Bool.false_eq_true, if_false] at hf ⊢
        cases hf
        exact q0 rfl H3 (wipe_step hw ew (S1.trans S2)) (wr R2)
      | true =>
        simp only [if_true] at hf ⊢
        refine ⟨T, envc, R2, ?_⟩
        cases e3 : ev C G e envc with
        | ok p =>
          obtain ⟨w, enve⟩ := p
          simp only [e3] at hf
          cases e4 : fzn enve w with
          | ok p =>
            obtain ⟨g, envf⟩ := p
            simp only [e4] at hf
            cases hf
            intro y H4 S3 R3 V3
            obtain ⟨e5, n5⟩ := fzn_ok e4
            obtain ⟨S4, R4, r4⟩ := fz_ok R3 V3 e5
            have S := ((S1.trans S2).trans S3).trans S4
            refine ⟨accv, ?_, hz, q1 g rfl H4 y (wipe_step hw ew S) (wr R4) n5 (Rep.less r4 wl)⟩
            exact S.keep D _ hacc (rl.prot D hD).1
          | exc x => simp only [e4] at hf; cases hf
          | stuck => simp only [e4] at hf; cases hf
        | exc x => simp only [e3] at hf; cases hf
        | stuck => simp only [e3] at hf; cases hf
    | exc x => simp only [e2] at hf; cases hf
    | stuck => simp only [e2] at hf; cases hf
end
end M
namespace M
open PySem L2 PyProof.Rows
section
variable {C : CallT} {G : List PyData} {W : Wd} {Z : L2.WX} {t : MT} {kk : IK} {src cs : List ME} {m : ME}
theorem ev_lc (env : Env) : ev C G (.lc t kk src cs m) env = (evE C G src env >>= fun p => rdAll p.2 p.1 >>= fun ds => M.R.ofO (itemsD kk ds) >>= fun items =>
    if (lent p.2 p.1).any (fun i => t.vars.contains i) = true then .stuck else
    match lcLoop (lcTurn C G t cs m) items (wipeE (lendE p.2 (lent p.2 p.1)) t.vars) with
    | .ok q => .ok (.va (.list q.1) true, backE p.2 (backE (lendE p.2 (lent p.2 p.1)) q.2 t.vars) (lent p.2 p.1))
    | .exc _ => .stuck
    | .stuck => .stuck) := by
  simp only [ev]
  rfl
theorem lcLoop_cons {f : PyData → Env → RE (Option PyData × Env)} {x : PyData} {r : List PyData} {env : Env} {q : List PyData × Env} (h : lcLoop f (x :: r) env = .ok q) : ∃ o env1 ds, f x env = .ok (o, env1) ∧ lcLoop f r env1 = .ok (ds, q.2) ∧ q.1 = o.toList ++ ds := by
  simp only [lcLoop] at h
  split at h
  · rename_i o env1 e1
    split at h
    · rename_i ds env2 e2
      cases h
      exact ⟨o, env1, ds, e1, e2, rfl⟩
    · cases h
    · cases h
  · cases h
  · cases h
theorem lc_read {σ : St} {H : Hp} {Q : VK} (h : tE C G W Z (.lc t kk src cs m) σ H Q) : tLc (iM C G W Z kk src) (gOf W.K t) (tCs C G W Z0 cs) (tE C G W Z0 m) t.vars σ H Q := by
  obtain ⟨T, env, rl, h⟩ := h
  rw [ev_lc] at h
  refine ⟨T, env, rl, ?_⟩
  cases e1 : evE C G src env with
  | exc x => rw [e1] at h; exact h
  | stuck => rw [e1] at h; exact h
  | ok p =>
    obtain ⟨ws, env1⟩ := p
    rw [e1] at h
    have h : PostE W Z T env σ H (rdAll env1 ws >>= fun ds => M.R.ofO (itemsD kk ds) >>= fun items =>
      if (lent env1 ws).any (fun i => t.vars.contains i) = true then .stuck else
      match lcLoop (lcTurn C G t cs m) items (wipeE (lendE env1 (lent env1 ws)) t.vars) with
      | .ok q => .ok (.va (.list q.1) true, backE env1 (backE (lendE env1 (lent env1 ws)) q.2 t.vars) (lent env1 ws))
      | .exc _ => .stuck
      | .stuck => .stuck) Q := h
    obtain ⟨ds, e2, h⟩ := post_rdAll (P := fun r => PostE W Z T env σ H r Q) h id
    obtain ⟨items, e3, h⟩ := post_of (P := fun r => PostE W Z T env σ H r Q) h id
    intro vals H1 S R1 hl
    have S : Step env σ H env1 σ H1 := S
    have R1 : Rel W T env1 σ H1 := R1
    have hl : HoldL W T env1 σ H1 ws vals := hl
    have hrb := hl.rd R1 e2
    refine ⟨Av T env1 σ, ds, items, avOk R1, hrb, e3, fun J wk D hD => ?_⟩
    generalize hL : lent env1 ws = L at h
    split at h
    · exact h.elim
    · rename_i hbad
      -- the lent slots are none of the block's own
      have apart : ∀ i ∈ L, i ∉ t.vars := fun i hi hv => hbad (List.any_eq_true.mpr ⟨i, hi, by simpa using hv⟩)
      split at h
      · rename_i q eq
        have h : PostE W Z T env σ H (.ok (.va (.list q.1) true, backE env1 (backE (lendE env1 L) q.2 t.vars) L)) Q := h
        have hown : ∀ j ∈ L, ∃ d k, env1[j]? = some (some (d, k)) ∧ k ≠ .sh := by rw [← hL]; exact lent_own e2
        have R0 : Rel W T (lendE env1 L) σ H1 := lend_rel R1
        -- inside
        let Tin : Addr → Prop := fun a => (T a ∨ a = D) ∨ hid (lendE env1 L) σ t.vars a
        have hHD : Same H1 (upd H1 D (.lst [])) := same_upd hD
        have Rin : Rel W Tin (wipeE (lendE env1 L) t.vars) (wipe σ t.vars) (upd H1 D (.lst [])) := by
          have r := (wipe_rel (vs := t.vars) R0).more (p := D) hHD hD (by rw [upd_same]; simp)
          refine r.less fun a z => ?_
          rcases z with (z | z) | z
          · exact .inl (.inl z)
          · exact .inr z
          · exact .inl (.inr z)
        have avin : ∀ a, Av Tin (wipeE (lendE env1 L) t.vars) (wipe σ t.vars) a → Av T env1 σ a ∨ a = D := fun a z => by
          rcases z with ((z | z) | ⟨i, _, z⟩) | ⟨j, z⟩
          · exact .inl (.inl z)
          · exact .inr z
          · exact .inl (.inr ⟨i, lend_owns.mp z⟩)
          · exact .inl (.inr ⟨j, lend_owns.mp (wipe_owns z).2⟩)
        have wsE : slots (ws.map (normW env1)) = L := hL
        have hl0 : HoldL W Tin (wipeE (lendE env1 L) t.vars) (wipe σ t.vars) (upd H1 D (.lst [])) (ws.map (normW env1)) vals := by
          refine HoldL.tr ⟨fun a o n e => hHD a o e, fun a n e z => ?_⟩ (norm_hold R1 hl) fun i hi => ?_
          · rcases avin a z with y | y
            · exact n y
            · rw [y] at e; exact e hD
          · rw [wsE] at hi
            exact wipe_get σ t.vars i (apart i hi)
        have rd0 : rdAll (wipeE (lendE env1 L) t.vars) (ws.map (normW env1)) = .ok ds := by
          refine rd_same (norm_rd e2) fun i hi d k e => ?_
          rw [wsE] at hi
          obtain ⟨d', k', e', nk⟩ := hown i hi
          rw [e] at e'
          cases e'
          refine ⟨.ln, ?_⟩
          rw [(wipeE_get _ t.vars i).1 (apart i hi)]
          exact ((lendE_get env1 L i).2 hi).1 d k e nk
        have ln0 : ∀ i ∈ L, ∃ d, (wipeE (lendE env1 L) t.vars)[i]? = some (some (d, .ln)) := fun i hi => by
          obtain ⟨d, k, e, nk⟩ := hown i hi
          refine ⟨d, ?_⟩
          rw [(wipeE_get _ t.vars i).1 (apart i hi)]
          exact ((lendE_get env1 L i).2 hi).1 d k e nk
        have hitems : items.length ≤ sizeLine := items_len hrb e3
        -- the invariant
        refine ⟨fun i n H' => n = items.length - i ∧ i ≤ items.length ∧ ∃ envi accd accv rest, Rel W Tin envi (wipe σ t.vars) H' ∧ Step (wipeE (lendE env1 L) t.vars) (wipe σ t.vars) H1 envi (wipe σ t.vars) H' ∧ (∀ j ∈ t.vars, ∀ y, envi[j]? ≠ some (some y)) ∧
          H' D = some (.lst accv) ∧ accv.length ≤ i ∧ RepAll W H' (Av Tin envi (wipe σ t.vars)) accd accv ∧ lcLoop (lcTurn C G t cs m) (items.drop i) envi = .ok (rest, q.2) ∧ q.1 = accd ++ rest ∧
          rdAll envi (ws.map (normW env1)) = .ok ds ∧ HoldL W Tin envi (wipe σ t.vars) H' (ws.map (normW env1)) vals, ⟨items.length, by simp, Nat.zero_le _, _, [], [], q.1, Rin, Step.same hHD, fun j hj y => (wipeE_get _ t.vars j).2 hj y, upd_same, Nat.le_refl _, by simp only [RepAll], by rw [List.drop_zero]; exact eq, rfl, rd0, hl0⟩, ?_⟩
        rintro i n Hi ⟨rfl, hi, envi, accd, accv, rest, Ri, Si, wi, hDi, hai, hacc, hloop, hq, rdi, hli⟩
        have hrbi := hli.rd Ri rdi
        by_cases hlt : i < items.length
        · refine .inr ⟨wk.go i Hi _ hrbi hlt, fun H' => items.length - (i + 1) = items.length - (i + 1) ∧ i + 1 ≤ items.length ∧ ∃ envi accd accv rest, Rel W Tin envi (wipe σ t.vars) H' ∧ Step (wipeE (lendE env1 L) t.vars) (wipe σ t.vars) H1 envi (wipe σ t.vars) H' ∧ (∀ j ∈ t.vars, ∀ y, envi[j]? ≠ some (some y)) ∧
            H' D = some (.lst accv) ∧ accv.length ≤ i + 1 ∧ RepAll W H' (Av Tin envi (wipe σ t.vars)) accd accv ∧ lcLoop (lcTurn C G t cs m) (items.drop (i + 1)) envi = .ok (rest, q.2) ∧ q.1 = accd ++ rest ∧
            rdAll envi (ws.map (normW env1)) = .ok ds ∧ HoldL W Tin envi (wipe σ t.vars) H' (ws.map (normW env1)) vals, fun H' nx => ⟨items.length - (i + 1), by omega, nx⟩, fun x H' hy => ?_⟩
          have hgi : items[i]? = some items[i] := List.getElem?_eq_getElem hlt
          obtain ⟨sm, nd, rp⟩ := wk.yld i Hi _ x H' items[i] (avOk Ri) hrbi hgi hy
          rw [List.drop_eq_getElem_cons hlt] at hloop
          obtain ⟨o, env', ds', f1, f2, f3⟩ := lcLoop_cons hloop
          have f3 : rest = o.toList ++ ds' := f3
          have R' := Ri.same sm
          have S' : Step envi (wipe σ t.vars) Hi envi (wipe σ t.vars) H' := Step.same sm
          have hD' : H' D = some (.lst accv) := sm _ _ hDi
          have tinD : Tin D := .inl (.inr rfl)
          -- the sources behind a step
          have srcs : ∀ {E : Env} {H3 : Hp}, Step envi (wipe σ t.vars) H' E (wipe σ t.vars) H3 → rdAll E (ws.map (normW env1)) = .ok ds ∧ HoldL W Tin E (wipe σ t.vars) H3 (ws.map (normW env1)) vals := fun {E H3} s => by
            refine ⟨rd_same rdi fun j hj d k e => ?_, HoldL.tr ((S'.trans s).tr (T := Tin) (T' := Tin) fun _ z => .inl z) hli fun _ _ => rfl⟩
            rw [wsE] at hj
            obtain ⟨d0, k0, e0, _⟩ := hown j hj
            obtain ⟨d1, e1⟩ := ln0 j hj
            obtain ⟨d2, e2', _, l2⟩ := Si.fix j d1 .ln (.inr rfl) e1
            obtain ⟨d3, e3', _, l3⟩ := (S'.trans s).fix j d2 .ln (.inr rfl) e2'
            rw [e2'] at e
            cases e
            have := l3 rfl
            subst this
            exact ⟨.ln, e3'⟩
          have hwipe : ∀ j ∈ t.vars, ∀ y, env'[j]? ≠ some (some y) := fun j hj y e => by
            -- a turn ends with a wipe
            unfold lcTurn at f1
            cases b1 : bindT t items[i] envi with
            | none => simp only [bind, M.R.bind, M.R.ofO, b1] at f1; cases f1
            | some envb =>
              simp only [bind, M.R.bind, M.R.ofO, b1] at f1
              cases b2 : evC C G cs envb with
              | ok p =>
                simp only [b2] at f1
                split at f1
                · cases b3 : ev C G m p.2 with
                  | ok p' =>
                    simp only [b3] at f1
                    cases b4 : fzn p'.2 p'.1 with
                    | ok p'' => simp only [b4] at f1; cases f1; exact (wipeE_get _ t.vars j).2 hj y e
                    | exc _ => simp only [b4] at f1; cases f1
                    | stuck => simp only [b4] at f1; cases f1
                  | exc _ => simp only [b3] at f1; cases f1
                  | stuck => simp only [b3] at f1; cases f1
                · cases f1; exact (wipeE_get _ t.vars j).2 hj y e
              | exc _ => simp only [b2] at f1; cases f1
              | stuck => simp only [b2] at f1; cases f1
          refine turn_ok R' wi rp f1 tinD hD' (by omega) (fun ho H3 s r => ?_) (fun g ho H4 y s r n rg => ?_)
          · subst ho
            obtain ⟨a1, a2⟩ := srcs s
            exact ⟨rfl, hlt, env', accd, accv, ds', r, Si.trans (S'.trans s), hwipe, s.keep D _ hD' (R'.prot D tinD).1, by omega, hacc.tr ((S'.trans s).tr (T := Tin) (T' := Tin) fun _ z => .inl z), f2, by rw [hq, f3]; rfl, a1, a2⟩
          · subst ho
            obtain ⟨a1, a2⟩ := srcs s
            have tu : Tr H4 (upd H4 D (.lst (accv ++ [y]))) (Av Tin env' (wipe σ t.vars)) (Av Tin env' (wipe σ t.vars)) := tr_updT (.inl tinD)
            refine ⟨rfl, hlt, env', accd ++ [g], accv ++ [y], ds', r.updT tinD, (Si.trans (S'.trans s)).updNew hD, hwipe, upd_same, by rw [List.length_append]; simp; omega, ?_, f2, by rw [hq, f3]; simp, a1, HoldL.tr tu a2 fun _ _ => rfl⟩
            exact RepAll.append ((hacc.tr ((S'.trans s).tr (T := Tin) (T' := Tin) fun _ z => .inl z)).tr tu) (RepAll.one n (Rep.tr tu rg))
        · have hi' : i = items.length := by omega
          subst hi'
          refine .inl ⟨wk.stop _ Hi _ hrbi (Nat.le_refl _), ?_⟩
          rw [List.drop_length] at hloop
          simp only [lcLoop] at hloop
          cases hloop
          rw [List.append_nil] at hq
          -- back in the def
          obtain ⟨S2, R2, l2⟩ := unwipe_ok (T2 := fun a => T a ∨ a = D) R0 Si (fun a z => z.imp id fun y => by rw [y]; exact hD) (fun a z => by
            rcases z with z | z
            · exact Si.dom a (R0.prot a z).2
            · rw [z, hDi]; simp) Ri
          obtain ⟨S3, R3, o3⟩ := unlend_ok hown S2 R2
          have hHn : H D = none := by
            by_cases z : H D = none
            · exact z
            · exact absurd hD (S.dom D z)
          refine h (.ref D) Hi (S.trans S3) (R3.less fun a z => ?_) ⟨D, rfl, fun z => (R1.prot D z).2 hD, hHn, accv, hDi, by omega, ?_⟩
          · rcases z with z | z
            · exact .inl z
            · cases z; exact .inr rfl
          · rw [hq]
            refine hacc.tr ⟨fun _ _ _ e => e, fun a n _ z => n ?_⟩
            refine l2 a ?_
            rcases z with (z | ⟨j, z⟩) | z
            · exact .inl (.inl z)
            · exact .inr ⟨j, (o3 j a).mp z⟩
            · exact .inl (.inr z)
      · exact h.elim
      · exact h.elim
end
section
variable {nm : Nm} {C : CallT} {G : List PyData} {W : Wd} {k : Nat} {Z : L2.WX} {X : Cx} {elt tg iter : Expr} {ifs : List Expr} {scope : Scope} {own : List (Str × Nat)} {pos : Pos} {t : MT} {kk : IK} {src cs : List ME} {m : ME}
theorem pm_lc (g : Gd nm C G W k Z X) (hi : PI X tg iter (iM C G W Z kk src)) (ok : BlkOk X.N X.env.scope scope own) (ho : own.map (·.2) = t.vars)
    (hg : ∀ (s : Shared) (H : Hp) (c : Addr) (cl : List (Str × Addr)) (fp : List Addr), PG (X.blk s H scope (compEnvC scope cl c X.env) fp) tg (gOf W.K t))
    (ht : ∀ (s : Shared) (H : Hp) (c : Addr) (cl : List (Str × Addr)) (fp : List Addr), PTs (X.blk s H scope (compEnvC scope cl c X.env) fp) ifs (tCs C G W Z0 cs))
    (he : ∀ (s : Shared) (H : Hp) (c : Addr) (cl : List (Str × Addr)) (fp : List Addr), PE (X.blk s H scope (compEnvC scope cl c X.env) fp) elt (tE C G W Z0 m))
    (hs : ∀ x, foldedSetIterable iter X.env x = pure x) : PE X (.ListComp elt [⟨tg, iter, ifs, 0⟩] scope pos) (tE C G W Z (.lc t kk src cs m)) := by
  refine pe_imp (pe_lc g.calm g.nd hi ok hg ht he hs) fun σ H Q h => ?_
  rw [ho]
  exact lc_read h
end
end M
/-! M, sixth part: every expression of the small language. -/
namespace M
open PySem L2 PyProof.Rows
/-! ### syntax -/
theorem star_one {e : Expr} (h : ∀ v p, e ≠ .Starred v p) (es : List Expr) (env : PySem.Env) : starEach (e :: es) env = (false, eval e env) :: starEach es env := by
  cases e <;> first | rfl | exact absurd rfl (h _ _)
theorem star_none {es : List Expr} {env : PySem.Env} {pos : Pos} (h : ∀ e ∈ es, ∀ v p, e ≠ .Starred v p) : (backTo pos (starEach es env)).any (·.1) = false := by
  induction es with
  | nil => rfl
  | cons e es ih =>
    rw [star_one (h e List.mem_cons_self)]
    show (false || (backTo pos (starEach es env)).any (·.1)) = false
    rw [ih fun e he => h e (List.mem_cons_of_mem _ he)]
    rfl
theorem star_all {es : List Expr} {env : PySem.Env} {pos : Pos} (h : ∀ e ∈ es, ∀ v p, e ≠ .Starred v p) : (backTo pos (starEach es env)).all (fun x => !x.1) = true := by
  induction es with
  | nil => rfl
  | cons e es ih =>
    rw [star_one (h e List.mem_cons_self)]
    show (true && (backTo pos (starEach es env)).all (fun x => !x.1)) = true
    rw [ih fun e he => h e (List.mem_cons_of_mem _ he)]
    rfl
theorem glB_of {X : Cx} {x : Str} (h : glB X.env.scope x = true) : Gl X x ∧ (x == ("__debug__" : Str)) = false := by
  unfold glB at h
  rw [Bool.and_eq_true] at h
  obtain ⟨h1, h2⟩ := h
  refine ⟨?_, by simpa using h2⟩
  split at h1
  · rename_i q; exact q
  · cases h1
theorem visB_of {sc : Scope} {x : Str} (h : visB sc x = true) : Vis sc x := by
  unfold visB at h
  split at h
  · rename_i q; exact .inl q
  · rename_i q; exact .inr (.inl q)
  · rename_i q; exact .inr (.inr q)
  · cases h
theorem lookup_relS (scope sc : Scope) (x : Str) : (relS scope sc).names.lookup x = (scope.names.lookup x).map fun k => if (k == .free && sc.kind == .function && sc.names.lookup x == some .cell) = true then .cell else k := by
  show ((scope.names.map fun (n, k) => if (k == .free && sc.kind == .function && sc.names.lookup n == some .cell) then (n, .cell) else (n, k)).lookup x) = _
  induction scope.names with
  | nil => rfl
  | cons p r ih =>
    obtain ⟨n, k⟩ := p
    rw [List.map_cons]
    by_cases hx : x = n
    · subst hx
      by_cases hc : (k == .free && sc.kind == .function && sc.names.lookup x == some .cell) = true
      · simp only [hc, if_true, List.lookup_cons, beq_self_eq_true, Option.map_some]
      · simp only [hc, if_false, List.lookup_cons, beq_self_eq_true, Option.map_some, Bool.false_eq_true]
    · have hb : (x == n) = false := beq_eq_false_iff_ne.mpr hx
      by_cases hc : (k == .free && sc.kind == .function && sc.names.lookup n == some .cell) = true
      · simp only [hc, if_true, List.lookup_cons, hb]; exact ih
      · simp only [hc, List.lookup_cons, hb, Bool.false_eq_true, if_false]; exact ih
theorem stOk_blk {X : Cx} {s : Shared} {H : Hp} {scope : Scope} {cl : List (Str × Addr)} {c : Addr} {fp : List Addr} : StOk scope (X.blk s H scope (compEnvC scope cl c X.env) fp) := by
  intro x h
  unfold stB at h
  have e : (X.blk s H scope (compEnvC scope cl c X.env) fp).env.scope = relS scope X.env.scope := rfl
  rw [e]
  have l := lookup_relS scope X.env.scope x
  split at h
  · rename_i q
    rw [q] at l
    have l : (relS scope X.env.scope).names.lookup x = some .local := l
    exact ⟨.inl l, .inr l⟩
  · rename_i q
    rw [q] at l
    have l : (relS scope X.env.scope).names.lookup x = some .cell := l
    refine ⟨.inr l, .inl ?_⟩
    show (scope.names.lookup x == some .cell) = true
    rw [q]
    rfl
  · cases h
mutual
theorem vars_ok {N : List Str} {rs : Scope} : ∀ {n : Nat} {e : Expr} {t : MT}, cTg N rs n e = some t → ∀ i ∈ t.vars, ∃ x, N[i]? = some x
  | 0, _, _, h => by cases h
  | n + 1, e, t, h => by
    unfold cTg at h
    split at h
    · split at h
      · rename_i x p q
        cases q2 : ixOf x N with
        | none => rw [q2] at h; cases h
        | some j =>
          rw [q2] at h
          cases h
          intro i hi
          simp only [MT.vars, List.mem_singleton] at hi
          subst hi
          exact ⟨x, ixOf_get q2⟩
      · cases h
    · rename_i es k p
      cases q : mapO (cTg N rs n) es with
      | none => rw [q] at h; cases h
      | some ts =>
        rw [q] at h
        cases h
        simp only [MT.vars]
        exact varsL_ok q
    · cases h
  termination_by n _ _ _ => (n, 0)
theorem varsL_ok {N : List Str} {rs : Scope} : ∀ {n : Nat} {es : List Expr} {ts : List MT}, mapO (cTg N rs n) es = some ts → ∀ i ∈ MT.varsL ts, ∃ x, N[i]? = some x
  | n, [], ts, h => by cases h; intro i hi; simp [MT.varsL] at hi
  | n, e :: es, ts, h => by
    obtain ⟨t, zs, h1, h2, rfl⟩ := mapO_cons h
    intro i hi
    simp only [MT.varsL, List.mem_append] at hi
    rcases hi with hi | hi
    · exact vars_ok h1 i hi
    · exact varsL_ok h2 i hi
  termination_by n es _ _ => (n, es.length + 1)
end
theorem own_vars {N : List Str} {t : MT} (h : ∀ i ∈ t.vars, ∃ x, N[i]? = some x) : (ownOf N t).map (·.2) = t.vars := by
  unfold ownOf
  generalize t.vars = l at h
  induction l with
  | nil => rfl
  | cons i r ih =>
    obtain ⟨x, e⟩ := h i List.mem_cons_self
    rw [List.filterMap_cons, e]
    show i :: _ = _
    rw [ih fun j hj => h j (List.mem_cons_of_mem _ hj)]
section
variable {nm : Nm} {C : CallT} {G : List PyData} {W : Wd} {k : Nat} {Z : L2.WX} {X : Cx} {a b c e : Expr} {es : List Expr} {pos : Pos} {ma mb mc m : ME} {ms : List ME}
theorem evT_ife {env : Env} : evT C G (.ife mc ma mb) env = (evT C G mc env >>= fun p => if p.1 = true then evT C G ma p.2 else evT C G mb p.2) := by
  unfold evT
  simp only [ev]
  cases e1 : ev C G mc env with
  | ok p =>
    show (M.R.bind (M.R.bind (truW p.2 p.1) fun k => if k = true then ev C G ma p.2 else ev C G mb p.2) fun p => M.R.bind (truW p.2 p.1) fun k => .ok (k, p.2)) = (M.R.bind (M.R.bind (truW p.2 p.1) fun k => .ok (k, p.2)) fun p => if p.1 = true then (M.R.bind (ev C G ma p.2) fun p => M.R.bind (truW p.2 p.1) fun k => .ok (k, p.2)) else (M.R.bind (ev C G mb p.2) fun p => M.R.bind (truW p.2 p.1) fun k => .ok (k, p.2)))
    cases e2 : truW p.2 p.1 with
    | ok k => cases k <;> rfl
    | exc x => rfl
    | stuck => rfl
  | exc x => rfl
  | stuck => rfl
theorem pt_ifeM (hc : PT X c (tT C G W Z mc)) (ha : PT X a (tT C G W Z ma)) (hb : PT X b (tT C G W Z mb)) : PT X (.IfExp c a b pos) (tT C G W Z (.ife mc ma mb)) := by
  refine ⟨fun pins s σ H Q I h => ?_⟩
  obtain ⟨T, env, rl, h⟩ := h
  rw [evT_ife] at h
  have h := tT_gen (P := fun r => PostT W Z T env σ H r Q) rl (fun _ h => h) id h
  show wpAny _ _ (do if ← isTrue c X.env (eval c X.env) then isTrue a X.env (eval a X.env) else isTrue b X.env (eval b X.env)) _ _ s
  refine wpAny_bind (thn (hc.run pins s σ H _ I h) fun k s1 ⟨H1, I1, env1, S, R1, q⟩ => ?_)
  cases k with
  | true => exact ha.run pins s1 σ H1 Q I1 ⟨T, env1, R1, PostT.pre S q⟩
  | false => exact hb.run pins s1 σ H1 Q I1 ⟨T, env1, R1, PostT.pre S q⟩
/-- lists of expressions -/
theorem pas_E (h : ∀ e ∈ es, ∀ v p, e ≠ .Starred v p) : ∀ {ms : List ME}, (∀ (i : Nat) e m, es[i]? = some e → ms[i]? = some m → PE X e (tE C G W Z m)) → ms.length = es.length → PA X es (tLE C G W Z ms) := by
  induction es with
  | nil =>
    intro ms _ hl
    cases ms with
    | nil => exact pl_nil
    | cons m ms => cases hl
  | cons e es ih =>
    intro ms hp hl
    cases ms with
    | nil => cases hl
    | cons m ms => exact pl_cons (hp 0 e m rfl rfl) (ih (fun e he => h e (List.mem_cons_of_mem _ he)) (fun i e m h1 h2 => hp (i + 1) e m h1 h2) (by simpa using hl)) (star_one (h e List.mem_cons_self) es X.env)
theorem pas_A (h : ∀ e ∈ es, ∀ v p, e ≠ .Starred v p) : ∀ {ms : List ME}, (∀ (i : Nat) e m, es[i]? = some e → ms[i]? = some m → PE X e (tE C G W Z m)) → ms.length = es.length → PA X es (tLA C G W Z ms) := by
  induction es with
  | nil =>
    intro ms _ hl
    cases ms with
    | nil => exact pl_nilA
    | cons m ms => cases hl
  | cons e es ih =>
    intro ms hp hl
    cases ms with
    | nil => cases hl
    | cons m ms => exact pl_consA (hp 0 e m rfl rfl) (ih (fun e he => h e (List.mem_cons_of_mem _ he)) (fun i e m h1 h2 => hp (i + 1) e m h1 h2) (by simpa using hl)) (star_one (h e List.mem_cons_self) es X.env)
end
theorem mapO_get {α β : Type} {f : α → Option β} : ∀ {l : List α} {ys : List β}, mapO f l = some ys → ∀ (i : Nat) x y, l[i]? = some x → ys[i]? = some y → f x = some y
  | [], _, _, i, x, y, h1, _ => by simp at h1
  | a :: r, _, h, i, x, y, h1, h2 => by
    obtain ⟨b, zs, e1, e2, rfl⟩ := mapO_cons h
    cases i with
    | zero => cases Option.some.inj h1; cases Option.some.inj h2; exact e1
    | succ i => exact mapO_get e2 i x y h1 h2
theorem mapO_mem {α β : Type} {f : α → Option β} : ∀ {l : List α} {ys : List β}, mapO f l = some ys → ∀ x ∈ l, ∃ y, f x = some y
  | [], _, _, x, h => by cases h
  | a :: r, _, h, x, hx => by
    obtain ⟨b, zs, e1, e2, rfl⟩ := mapO_cons h
    rcases List.mem_cons.mp hx with e | e
    · subst e; exact ⟨b, e1⟩
    · exact mapO_mem e2 x e
theorem cE_star {nm : Nm} {N : List Str} {n : Nat} {sc : Scope} {e : Expr} {m : ME} (h : cE nm N n sc e = some m) : ∀ v p, e ≠ .Starred v p := fun v p z => by
  subst z
  cases n <;> simp [cE] at h
section
variable {nm : Nm} {C : CallT} {G : List PyData} {W : Wd} {k : Nat}
theorem cBool_ok {X : Cx} {Z : L2.WX} (g : Gd nm C G W k Z X) {op : BoolOp} {pos : Pos} : ∀ {es : List Expr} {ms : List ME} {m : ME}, ms.length = es.length → (∀ (i : Nat) e m, es[i]? = some e → ms[i]? = some m → PE X e (tE C G W Z m) ∧ PT X e (tT C G W Z m) ∧ ∀ i, m ≠ .ref i) → cBool op ms = some m →
    PE X (.BoolOp op es pos) (tE C G W Z m) ∧ PW X (.BoolOp op es pos) (tT C G W Z m) ∧ ∀ i, m ≠ .ref i
  | [], [], m, _, _, h => by cases h
  | [e], [m1], m, _, hp, h => by
    simp only [cBool] at h
    cases h
    obtain ⟨h1, h2, h3⟩ := hp 0 e _ rfl rfl
    refine ⟨pe_one h1, ?_, h3⟩
    cases op with
    | And => exact pw_and1 h2
    | Or => exact pw_or1 h2
  | e1 :: e2 :: es, m1 :: m2 :: ms, m, hl, hp, h => by
    simp only [cBool, Option.bind_eq_some_iff] at h
    obtain ⟨mr, hr, h⟩ := h
    cases h
    obtain ⟨h1, h2, h3⟩ := hp 0 e1 m1 rfl rfl
    obtain ⟨i1, i2, i3⟩ := cBool_ok g (pos := pos) (es := e2 :: es) (ms := m2 :: ms) (m := mr) (by simpa using hl) (fun i e m a b => hp (i + 1) e m a b) (by simpa only [cBool, Option.bind_eq_some_iff] using hr)
    cases op with
    | And => exact ⟨pm_and g h1 i1, pw_andM h2 i2, fun i z => by cases z⟩
    | Or => exact ⟨pm_or g h1 i1, pw_orM h2 i2, fun i z => by cases z⟩
/-- arguments of a call -/
theorem cArgs_ok {X : Cx} {Z : L2.WX} {f : Expr → Option ME} (hp : ∀ e m, f e = some m → PE X e (tE C G W Z m) ∧ (∀ i, m ≠ .ref i) ∧ (∀ v p, e ≠ .Starred v p) ∧ ∀ i, m = .var i → PE X e (tVar i)) : ∀ {refs : List Bool} {es : List Expr} {ms : List ME}, cArgs f refs es = some ms → PA X es (tLG C G W Z ms) ∧ ms.map isRefM = refs ∧ ∀ e ∈ es, ∀ v p, e ≠ .Starred v p
  | [], [], ms, h => by
    cases h
    exact ⟨pl_nilG, rfl, fun e he => by cases he⟩
  | false :: refs, e :: es, ms, h => by
    simp only [cArgs, Option.bind_eq_some_iff] at h
    obtain ⟨m, h1, ms', h2, h⟩ := h
    cases h
    obtain ⟨p1, p2, p3, _⟩ := hp e m h1
    obtain ⟨i1, i2, i3⟩ := cArgs_ok hp h2
    refine ⟨pl_consG p2 p1 i1 (star_one p3 es X.env), ?_, fun e' he => ?_⟩
    · rw [List.map_cons, i2]
      cases m with
      | ref i => exact absurd rfl (p2 i)
      | _ => rfl
    · rcases List.mem_cons.mp he with z | z
      · subst z; exact p3
      · exact i3 e' z
  | true :: refs, e :: es, ms, h => by
    simp only [cArgs, Option.bind_eq_some_iff] at h
    obtain ⟨m, h1, h⟩ := h
    obtain ⟨p1, p2, p3, p4⟩ := hp e m h1
    split at h
    · rename_i i
      rw [Option.bind_eq_some_iff] at h
      obtain ⟨ms', h2, h⟩ := h
      cases h
      obtain ⟨i1, i2, i3⟩ := cArgs_ok hp h2
      refine ⟨pl_consR (p4 i rfl) i1 (star_one p3 es X.env), ?_, fun e' he => ?_⟩
      · rw [List.map_cons, i2]; rfl
      · rcases List.mem_cons.mp he with z | z
        · subst z; exact p3
        · exact i3 e' z
    · cases h
  | [], _ :: _, ms, h => by simp [cArgs] at h
  | true :: _, [], ms, h => by simp [cArgs] at h
  | false :: _, [], ms, h => by simp [cArgs] at h
theorem cE_var {X : Cx} {n : Nat} {e : Expr} {i : Nat} (h : cE nm X.N n X.env.scope e = some (.var i)) : PE X e (tVar i) := by
  cases n with
  | zero => simp [cE] at h
  | succ n =>
    unfold cE at h
    split at h
    · rename_i x p
      split at h
      · rename_i ho
        split at h
        · rename_i hv
          rw [Option.map_eq_some_iff] at h
          obtain ⟨j, h1, h2⟩ := h
          cases h2
          obtain ⟨o1, o2⟩ := okName_of ho
          exact pe_var (ixOf_get h1) (visB_of hv) o1 o2
        · split at h
          · simp [Option.map_eq_some_iff] at h
          · cases h
      · cases h
    · simp [Option.map_eq_some_iff] at h
    · simp [Option.bind_eq_some_iff, Option.map_eq_some_iff] at h
    · simp [Option.map_eq_some_iff] at h
    · simp [Option.map_eq_some_iff] at h
    · -- a chain of and, or is no name, but one alone: then it is the name itself
      rename_i op es p
      rw [Option.bind_eq_some_iff] at h
      obtain ⟨ms, h1, h2⟩ := h
      match es, ms, h1, h2 with
      | [], [], h1, h2 => cases h2
      | [e1], [m1], h1, h2 =>
        obtain ⟨y, zs, g1, g2, g3⟩ := mapO_cons h1
        cases g3
        simp only [cBool] at h2
        cases h2
        exact pe_one (cE_var g1)
      | e1 :: e2 :: es, m1 :: m2 :: ms, h1, h2 =>
        simp only [cBool, Option.bind_eq_some_iff] at h2
        obtain ⟨mr, _, h2⟩ := h2
        cases op <;> cases h2
      | [], _ :: _, h1, h2 => cases h1
      | [_], [], h1, h2 => obtain ⟨_, _, _, _, g3⟩ := mapO_cons h1; cases g3
      | [_], _ :: _ :: _, h1, h2 => obtain ⟨_, _, _, g2, g3⟩ := mapO_cons h1; cases g3; cases g2
      | _ :: _ :: _, [], h1, h2 => obtain ⟨_, _, _, _, g3⟩ := mapO_cons h1; cases g3
      | _ :: _ :: _, [_], h1, h2 => obtain ⟨_, _, _, g2, g3⟩ := mapO_cons h1; cases g3; obtain ⟨_, _, _, _, g4⟩ := mapO_cons g2; cases g4
    · split at h
      · simp [Option.bind_eq_some_iff, Option.map_eq_some_iff] at h
      · cases h
    · split at h
      · simp [Option.bind_eq_some_iff, Option.map_eq_some_iff] at h
      · cases h
    · simp [Option.bind_eq_some_iff, Option.map_eq_some_iff] at h
    · unfold cCall at h
      split at h
      · split at h
        · split at h
          · split at h
            · simp [Option.bind_eq_some_iff, Option.map_eq_some_iff] at h
            · cases h
          · cases h
        · split at h
          · split at h
            · split at h
              · simp [Option.map_eq_some_iff] at h
              · cases h
            · cases h
          · split at h
            · simp [Option.map_eq_some_iff] at h
            · simp [Option.bind_eq_some_iff, Option.map_eq_some_iff] at h
      · cases h
    · rw [Option.bind_eq_some_iff] at h
      obtain ⟨a', _, h⟩ := h
      split at h <;> simp [Option.bind_eq_some_iff, Option.map_eq_some_iff] at h
    · simp [Option.bind_eq_some_iff, Option.map_eq_some_iff] at h
    · simp [Option.map_eq_some_iff] at h
    · simp [Option.map_eq_some_iff] at h
    · rw [Option.bind_eq_some_iff] at h
      obtain ⟨t, _, h⟩ := h
      split at h
      · simp [Option.bind_eq_some_iff, Option.map_eq_some_iff] at h
      · cases h
    · cases h
end
end M
namespace M
open PySem L2 PyProof.Rows
section
variable {nm : Nm} {C : CallT} {G : List PyData} {W : Wd} {k : Nat}
/-- what is shown of an expression -/
def EOk (C : CallT) (G : List PyData) (W : Wd) (Z : L2.WX) (X : Cx) (e : Expr) (m : ME) : Prop := PE X e (tE C G W Z m) ∧ PT X e (tT C G W Z m) ∧ ∀ i, m ≠ .ref i
theorem EOk.of {X : Cx} {Z : L2.WX} (g : Gd nm C G W k Z X) {e : Expr} {m : ME} (h : PE X e (tE C G W Z m)) (he : ∀ whole, isTrue e X.env whole = (do let v ← whole; standAt e.pos; holding [v] (truthy v))) (n : ∀ i, m ≠ .ref i) : EOk C G W Z X e m := ⟨h, pt_of g h he, n⟩
theorem blt_name {x : Str} {n : Nat} {b : Blt} (h : bltO x n = some b) : x ∈ bltNames ∧ b ≠ .sset ∧ x ≠ "__name__" ∧ (bootBuiltins x = some (bltV b)) ∧ ((∃ id, bltV b = .builtin id) ∨ ∃ T, bltV b = .type T) := by
  unfold bltO at h
  repeat' split at h
  all_goals first
    | (rename_i e; obtain ⟨rfl, _⟩ := e; cases h; exact ⟨by decide, by decide, by decide, by decide +kernel, by first | exact .inl ⟨_, rfl⟩ | exact .inr ⟨_, rfl⟩⟩)
    | cases h
theorem pm_blt {X : Cx} {Z : L2.WX} (g : Gd nm C G W k Z X) {x : Str} {p pos : Pos} {e : Expr} {es : List Expr} {b : Blt} {n : Nat} {ms : List ME} (h : bltO x n = some b) (hg : Gl X x) (hdb : (x == ("__debug__" : Str)) = false) (ha : PA X (e :: es) (tLE C G W Z ms))
    (he : starEach (e :: es) X.env = (false, eval e X.env) :: starEach es X.env) (hpl : (backTo pos (starEach es X.env)).any (·.1) = false) : PE X (.Call (.Name x p) (e :: es) [] pos) (tE C G W Z (.blt b ms)) := by
  obtain ⟨h1, h2, h3, h4, h5⟩ := blt_name h
  have hc := call_blt (X := X) (W := W) g.K g.calm b h2
  rcases h5 with ⟨id, h5⟩ | ⟨T, h5⟩
  · rw [h5] at hc h4
    exact pe_imp (pe_callB hc hg (g.blt x h1) h4 ha h3 hdb he hpl) fun σ H Q h => tLE_blt h
  · rw [h5] at hc h4
    exact pe_imp (pe_callTy hc hg (g.blt x h1) h4 ha h3 hdb he hpl) fun σ H Q h => tLE_blt h
theorem bltO_pos {x : Str} {n : Nat} {b : Blt} (h : bltO x n = some b) : 0 < n := by
  unfold bltO at h
  repeat' split at h
  all_goals first
    | (rename_i e; obtain ⟨_, e⟩ := e; omega)
    | cases h
/-- what is walked -/
theorem cIter_ok {X : Cx} {Z : L2.WX} (g : Gd nm C G W k Z X) {f : Expr → Option ME} (hp : ∀ e m, f e = some m → PE X e (tE C G W Z m) ∧ ∀ v p, e ≠ .Starred v p) {tg e : Expr} {ki : IK × List ME} (h : cIter f X.env.scope (isTupE tg) e = some ki) :
    PI X tg e (iM C G W Z ki.1 ki.2) ∧ ∀ x, foldedSetIterable e X.env x = pure x := by
  have ex : ∀ {e : Expr} {m : ME}, f e = some m → PI X tg e (iM C G W Z .ex [m]) := fun {e m} h => pi_ex g (hp e m h).1
  have tup : isTupE tg = true → ∃ a b c, tg = .Tuple a b c := fun h => by
    cases tg <;> simp [isTupE] at h
    exact ⟨_, _, _, rfl⟩
  unfold cIter at h
  split at h
  · rename_i x p a q
    refine ⟨?_, fun _ => rfl⟩
    split at h
    · rename_i hx
      subst hx
      split at h
      · rename_i hg
        rw [Option.map_eq_some_iff] at h
        obtain ⟨m, h1, h2⟩ := h
        cases h2
        obtain ⟨p1, p2⟩ := hp a m h1
        exact pi_r1 g (glB_of hg).1 (pl_cons p1 pl_nil (star_one p2 [] X.env)) (star_one p2 [] X.env)
      · cases h
    · split at h
      · rename_i hx
        subst hx
        split at h
        · rename_i hg
          rw [Bool.and_eq_true] at hg
          rw [Option.map_eq_some_iff] at h
          obtain ⟨m, h1, h2⟩ := h
          cases h2
          obtain ⟨p1, p2⟩ := hp a m h1
          obtain ⟨t1, t2, t3, rfl⟩ := tup hg.2
          exact pi_en g (glB_of hg.1).1 (pl_cons p1 pl_nil (star_one p2 [] X.env)) (star_one p2 [] X.env)
        · cases h
      · rw [Option.map_eq_some_iff] at h
        obtain ⟨m, h1, h2⟩ := h
        cases h2
        exact ex h1
  · rename_i x p a b q
    refine ⟨?_, fun _ => rfl⟩
    split at h
    · rename_i hx
      subst hx
      split at h
      · rename_i hg
        rw [Option.bind_eq_some_iff] at h
        obtain ⟨m, h1, h⟩ := h
        rw [Option.map_eq_some_iff] at h
        obtain ⟨m', h2, h3⟩ := h
        cases h3
        obtain ⟨p1, p2⟩ := hp a m h1
        obtain ⟨p3, p4⟩ := hp b m' h2
        have s2 := star_one p4 [] X.env
        have s1 := star_one p2 [b] X.env
        rw [s2] at s1
        exact pi_r2 g (glB_of hg).1 (pl_cons p1 (pl_cons p3 pl_nil s2) (star_one p2 [b] X.env)) s1 s2
      · cases h
    · split at h
      · rename_i hx
        subst hx
        split at h
        · rename_i hg
          rw [Bool.and_eq_true] at hg
          rw [Option.bind_eq_some_iff] at h
          obtain ⟨m, h1, h⟩ := h
          rw [Option.map_eq_some_iff] at h
          obtain ⟨m', h2, h3⟩ := h
          cases h3
          obtain ⟨p1, p2⟩ := hp a m h1
          obtain ⟨p3, p4⟩ := hp b m' h2
          obtain ⟨t1, t2, t3, rfl⟩ := tup hg.2
          refine pi_zp g (glB_of hg.1).1 (pl_cons p1 (pl_cons p3 pl_nil (star_one p4 [] X.env)) (star_one p2 [b] X.env)) (star_one p2 [b] X.env) (star_none fun e he => ?_)
          cases List.mem_singleton.mp he
          exact p4
        · cases h
      · rw [Option.map_eq_some_iff] at h
        obtain ⟨m, h1, h2⟩ := h
        cases h2
        exact ex h1
  · cases h
  · rename_i e' n1 n2 n3
    rw [Option.map_eq_some_iff] at h
    obtain ⟨m, h1, h2⟩ := h
    cases h2
    refine ⟨ex h1, fun x => ?_⟩
    cases e <;> first | rfl | exact absurd rfl (n3 _ _ _)
theorem cE_ok : ∀ (n : Nat) {Z : L2.WX} {X : Cx} {e : Expr} {m : ME}, Gd nm C G W k Z X → cE nm X.N n X.env.scope e = some m → EOk C G W Z X e m
  | 0, Z, X, e, m, g, h => by simp [cE] at h
  | n + 1, Z, X, e, m, g, h => by
    have ih : ∀ {e : Expr} {m : ME}, cE nm X.N n X.env.scope e = some m → EOk C G W Z X e m := fun h => cE_ok n g h
    have ihs : ∀ {es : List Expr} {ms : List ME}, mapO (cE nm X.N n X.env.scope) es = some ms → (∀ (i : Nat) e m, es[i]? = some e → ms[i]? = some m → PE X e (tE C G W Z m)) ∧ (∀ e ∈ es, ∀ v p, e ≠ .Starred v p) ∧ ms.length = es.length := fun {es ms} h =>
      ⟨fun i e m h1 h2 => (ih (mapO_get h i e m h1 h2)).1, fun e he => let ⟨m, hm⟩ := mapO_mem h e he; cE_star hm, mapO_len h⟩
    unfold cE at h
    split at h
    · rename_i x p
      split at h
      · rename_i ho
        obtain ⟨o1, o2⟩ := okName_of ho
        split at h
        · rename_i hv
          rw [Option.map_eq_some_iff] at h
          obtain ⟨j, h1, h2⟩ := h
          cases h2
          exact .of g (pm_var (ixOf_get h1) (visB_of hv) o1 o2) (fun _ => rfl) (fun i z => by cases z)
        · split at h
          · rename_i hg
            rw [Option.map_eq_some_iff] at h
            obtain ⟨j, h1, h2⟩ := h
            cases h2
            exact .of g (pm_glo g (ixOf_get h1) (glB_of hg).1 o1) (fun _ => rfl) (fun i z => by cases z)
          · cases h
      · cases h
    · rw [Option.map_eq_some_iff] at h
      obtain ⟨d, h1, h2⟩ := h
      cases h2
      exact .of g (pm_cst h1) (fun _ => rfl) (fun i z => by cases z)
    · rw [Option.bind_eq_some_iff] at h
      obtain ⟨a', h1, h⟩ := h
      rw [Option.map_eq_some_iff] at h
      obtain ⟨b', h2, h3⟩ := h
      cases h3
      exact .of g (pm_bin g _ (ih h1).1 (ih h2).1) (fun _ => rfl) (fun i z => by cases z)
    · rw [Option.map_eq_some_iff] at h
      obtain ⟨a', h1, h2⟩ := h
      cases h2
      exact ⟨pm_not g (ih h1).1, pt_notM (ih h1).2.1, (fun i z => by cases z)⟩
    · rw [Option.map_eq_some_iff] at h
      obtain ⟨a', h1, h2⟩ := h
      cases h2
      exact .of g (pm_neg (ih h1).1) (fun _ => rfl) (fun i z => by cases z)
    · rename_i op es p
      rw [Option.bind_eq_some_iff] at h
      obtain ⟨ms, h1, h2⟩ := h
      obtain ⟨q1, q2, q3⟩ := cBool_ok g (pos := p) (mapO_len h1) (fun i e m a b => ih (mapO_get h1 i e m a b)) h2
      exact ⟨q1, q2.pt, q3⟩
    · split at h
      · rename_i hm
        rw [Option.bind_eq_some_iff] at h
        obtain ⟨a', h1, h⟩ := h
        rw [Option.map_eq_some_iff] at h
        obtain ⟨b', h2, h3⟩ := h
        cases h3
        exact ⟨pm_cmp g _ hm (ih h1).1 (ih h2).1, pt_cmpM g _ hm (ih h1).1 (ih h2).1, (fun i z => by cases z)⟩
      · cases h
    · split at h
      · rename_i hm
        rw [Option.bind_eq_some_iff] at h
        obtain ⟨a', h1, h⟩ := h
        rw [Option.bind_eq_some_iff] at h
        obtain ⟨b', h2, h⟩ := h
        rw [Option.map_eq_some_iff] at h
        obtain ⟨c', h3, h4⟩ := h
        cases h4
        exact ⟨pm_chn g _ _ hm (ih h1).1 (ih h2).1 (ih h3).1, pt_chnM g _ _ hm (ih h1).1 (ih h2).1 (ih h3).1, (fun i z => by cases z)⟩
      · cases h
    · rw [Option.bind_eq_some_iff] at h
      obtain ⟨c', h1, h⟩ := h
      rw [Option.bind_eq_some_iff] at h
      obtain ⟨a', h2, h⟩ := h
      rw [Option.map_eq_some_iff] at h
      obtain ⟨b', h3, h4⟩ := h
      cases h4
      exact ⟨pm_ife (ih h1).2.1 (ih h2).1 (ih h3).1, pt_ifeM (ih h1).2.1 (ih h2).2.1 (ih h3).2.1, (fun i z => by cases z)⟩
    · rename_i x p args q
      unfold cCall at h
      split at h
      · rename_i hgl
        obtain ⟨hg, hdb⟩ := glB_of hgl
        split at h
        · rename_i hx
          subst hx
          split at h
          · rename_i e y p2
            split at h
            · rename_i hy
              rw [Option.bind_eq_some_iff] at h
              obtain ⟨t, h1, h⟩ := h
              rw [Option.map_eq_some_iff] at h
              obtain ⟨m', h2, h3⟩ := h
              cases h3
              exact .of g (pm_isi g hg (glB_of hy).1 h1 (ih h2).1 (star_one (cE_star h2) _ X.env)) (fun _ => rfl) (fun i z => by cases z)
            · cases h
          · cases h
        · split at h
          · rename_i hx
            subst hx
            split at h
            · rename_i y p2 e q2
              split at h
              · rename_i hy
                rw [Bool.and_eq_true, decide_eq_true_eq] at hy
                obtain ⟨hy1, hy2⟩ := hy
                subst hy1
                rw [Option.map_eq_some_iff] at h
                obtain ⟨m', h2, h3⟩ := h
                cases h3
                exact .of g (pm_sset g hg (glB_of hy2).1 (ih h2).1 (star_one (cE_star h2) _ X.env)) (fun _ => rfl) (fun i z => by cases z)
              · cases h
            · cases h
          · split at h
            · rename_i b hb
              rw [Option.map_eq_some_iff] at h
              obtain ⟨ms, h1, h2⟩ := h
              cases h2
              cases args with
              | nil => exact absurd (bltO_pos hb) (by simp)
              | cons e es =>
                obtain ⟨q1, q2, q3⟩ := ihs h1
                exact .of g (pm_blt g hb hg hdb (pas_E q2 q1 q3) (star_one (q2 e List.mem_cons_self) es X.env) (star_none fun e he => q2 e (List.mem_cons_of_mem _ he))) (fun _ => rfl) (fun i z => by cases z)
            · rw [Option.bind_eq_some_iff] at h
              obtain ⟨f, h1, h⟩ := h
              rw [Option.bind_eq_some_iff] at h
              obtain ⟨pr, h2, h⟩ := h
              rw [Option.map_eq_some_iff] at h
              obtain ⟨ms, h3, h4⟩ := h
              cases h4
              obtain ⟨x', refs⟩ := pr
              have hx' := ixOf_get h1
              rw [List.getElem?_map, h2] at hx'
              cases hx'
              obtain ⟨a1, a2, a3⟩ := cArgs_ok (X := X) (C := C) (G := G) (W := W) (Z := Z) (f := cE nm X.N n X.env.scope) (fun e m he => ⟨(ih he).1, (ih he).2.2, cE_star he, fun i z => by subst z; exact cE_var he⟩) h3
              cases args with
              | nil =>
                have : ms = [] ∧ refs = [] := by
                  cases refs with
                  | nil => simp only [cArgs] at h3; cases h3; exact ⟨rfl, rfl⟩
                  | cons r rs => cases r <;> simp [cArgs] at h3
                obtain ⟨rfl, rfl⟩ := this
                exact .of g (pm_call0 g h2 hg hdb) (fun _ => rfl) (fun i z => by cases z)
              | cons e es =>
                exact .of g (pm_call g h2 a2 hg hdb a1 (star_one (a3 e List.mem_cons_self) es X.env) (star_none fun e he => a3 e (List.mem_cons_of_mem _ he))) (fun _ => rfl) (fun i z => by cases z)
      · cases h
    · rename_i a lo hi p2 p
      rw [Option.bind_eq_some_iff] at h
      obtain ⟨a', h1, h⟩ := h
      split at h
      · cases h
        exact .of g (pm_slc g (ih h1).1 po_noneM po_noneM) (fun _ => rfl) (fun i z => by cases z)
      · rw [Option.map_eq_some_iff] at h
        obtain ⟨l', h2, h3⟩ := h
        cases h3
        exact .of g (pm_slc g (ih h1).1 (po_someM (ih h2).1) po_noneM) (fun _ => rfl) (fun i z => by cases z)
      · rw [Option.map_eq_some_iff] at h
        obtain ⟨l', h2, h3⟩ := h
        cases h3
        exact .of g (pm_slc g (ih h1).1 po_noneM (po_someM (ih h2).1)) (fun _ => rfl) (fun i z => by cases z)
      · rw [Option.bind_eq_some_iff] at h
        obtain ⟨l', h2, h⟩ := h
        rw [Option.map_eq_some_iff] at h
        obtain ⟨u', h3, h4⟩ := h
        cases h4
        exact .of g (pm_slc g (ih h1).1 (po_someM (ih h2).1) (po_someM (ih h3).1)) (fun _ => rfl) (fun i z => by cases z)
    · rename_i a b p hno
      rw [Option.bind_eq_some_iff] at h
      obtain ⟨a', h1, h⟩ := h
      rw [Option.map_eq_some_iff] at h
      obtain ⟨b', h2, h3⟩ := h
      cases h3
      have pl : PlainIx b := fun o i => by
        cases b with
        | Slice lo hi st p3 => cases n <;> simp [cE] at h2
        | _ => rfl
      exact .of g (pm_sub g pl (ih h1).1 (ih h2).1) (fun _ => rfl) (fun i z => by cases z)
    · rw [Option.map_eq_some_iff] at h
      obtain ⟨ms, h1, h2⟩ := h
      cases h2
      obtain ⟨q1, q2, q3⟩ := ihs h1
      exact .of g (pm_tup (pas_A q2 q1 q3)) (fun _ => rfl) (fun i z => by cases z)
    · rw [Option.map_eq_some_iff] at h
      obtain ⟨ms, h1, h2⟩ := h
      cases h2
      obtain ⟨q1, q2, q3⟩ := ihs h1
      exact .of g (pm_lst (pas_A q2 q1 q3)) (fun _ => rfl) (fun i z => by cases z)
    · rename_i elt tg iter ifs scope p
      rw [Option.bind_eq_some_iff] at h
      obtain ⟨t, h1, h⟩ := h
      split at h
      · rename_i hb
        rw [Bool.and_eq_true, decide_eq_true_eq] at hb
        obtain ⟨hb1, hb2⟩ := hb
        rw [Option.bind_eq_some_iff] at h
        obtain ⟨ki, h2, h⟩ := h
        rw [Option.bind_eq_some_iff] at h
        obtain ⟨cs, h3, h⟩ := h
        rw [Option.map_eq_some_iff] at h
        obtain ⟨m', h4, h5⟩ := h
        cases h5
        obtain ⟨pi, fs⟩ := cIter_ok g (f := cE nm X.N n X.env.scope) (fun e m he => ⟨(ih he).1, cE_star he⟩) h2
        refine .of g (pm_lc (own := ownOf X.N t) g pi (blkOk_by hb1) (own_vars (vars_ok h1)) (fun s H c cl fp => ?_) (fun s H c cl fp => ?_) (fun s H c cl fp => ?_) fs) (fun _ => rfl) (fun i z => by cases z)
        · have gb := g.blk s H scope cl c fp
          have := pg_of (X := X.blk s H scope (compEnvC scope cl c X.env) fp) (rs := scope) gb.calm gb.nd stOk_blk n h1
          rw [g.K]
          exact this
        · have gb := g.blk s H scope cl c fp
          refine pts_M hb2 (fun e m he hm => ?_) (mapO_len h3)
          subst he hm
          exact (cE_ok n gb (mapO_get h3 0 e m rfl rfl)).2.1
        · exact (cE_ok n (g.blk s H scope cl c fp) h4).1
      · cases h
    · cases h
end
end M
/-! M: statements. -/
namespace M
open PySem L2 PyProof.Rows
def PostXS (W : Wd) (Z : L2.WX) (T : Addr → Prop) (env : Env) (σ : St) (H : Hp) (x : Exn × Env) : Prop :=
  ∀ cls d σ' H', Step env σ H x.2 σ' H' → Rel W T x.2 σ' H' → XOk W H' x.1 cls d → Z cls d σ' H'
/-- what is handed back -/
def VRt (W : Wd) (T : Addr → Prop) (env : Env) (σ : St) (H H' : Hp) (env' : Env) (σ' : St) (d : PyData) : Bool → V → Prop
  | false, v => Rep W H' (Av T env' σ') d v
  | true, v => ∃ a, v = .ref a ∧ ¬ T a ∧ (Ownd env σ a ∨ H a = none) ∧ OwnAt W H' (fun b => Av T env' σ' b ∨ b = a) d a
def PostS (W : Wd) (Z : L2.WX) (T : Addr → Prop) (env : Env) (σ : St) (H : Hp) (r : RE SR) (D : Ends) : Prop :=
  match r with
  | .ok (.nx env') => ∀ σ' H', Step env σ H env' σ' H' → Rel W T env' σ' H' → D.nx σ' H'
  | .ok (.rt d fr env') => ∀ v σ' H', Step env σ H env' σ' H' → Rel W (Tw T (.va d fr) v) env' σ' H' → VRt W T env σ H H' env' σ' d fr v → D.rt v H'
  | .exc x => PostXS W Z T env σ H x
  | .stuck => False
def tS (C : CallT) (G : List PyData) (W : Wd) (Z : L2.WX) (m : MS) : TS := fun D σ H => ∃ T env, Rel W T env σ H ∧ PostS W Z T env σ H (evS C G m env) D
def tSs (C : CallT) (G : List PyData) (W : Wd) (Z : L2.WX) (ms : List MS) : TS := fun D σ H => ∃ T env, Rel W T env σ H ∧ PostS W Z T env σ H (evSs C G ms env) D
theorem ps_imp {X : Cx} {e : Stmt} {t t' : TS} (h : PS X e t) (i : ∀ D σ H, t' D σ H → t D σ H) : PS X e t' := ⟨fun pins s σ H D I q => h.run pins s σ H D I (i _ _ _ q)⟩
theorem pss_imp {X : Cx} {e : List Stmt} {t t' : TS} (h : PSs X e t) (i : ∀ D σ H, t' D σ H → t D σ H) : PSs X e t' := ⟨fun pins s σ H D I q => h.run pins s σ H D I (i _ _ _ q)⟩
section
variable {W : Wd} {Z : L2.WX} {T T1 T2 : Addr → Prop} {env env1 env2 env' : Env} {σ σ1 σ' : St} {H H0 H1 H2 H' : Hp} {w : EV} {v : V} {C : CallT} {G : List PyData} {m ma mb mc : ME} {d : PyData} {D : Ends}
theorem PostXS.x {x : Exn × Env} (h : PostXS W Z T env σ H x) : PostX W Z T env σ H x := fun cls d H' s r k => h cls d σ H' s r k
theorem PostXS.pre {x : Exn × Env} (S : Step env σ H env1 σ1 H1) (h : PostXS W Z T env σ H x) : PostXS W Z T env1 σ1 H1 x := fun cls d σ' H' s r k => h cls d σ' H' (S.trans s) r k
theorem VRt.pre {fr : Bool} (S : Step env σ H env1 σ1 H1) (h : VRt W T env1 σ1 H1 H' env' σ' d fr v) : VRt W T env σ H H' env' σ' d fr v := by
  cases fr with
  | false => exact h
  | true =>
    obtain ⟨a, e, n, z, o⟩ := h
    refine ⟨a, e, n, ?_, o⟩
    rcases z with z | z
    · exact S.own a z
    · by_cases q : H a = none
      · exact .inr q
      · exact absurd z (S.dom a q)
theorem PostS.pre {r : RE SR} (S : Step env σ H env1 σ1 H1) (h : PostS W Z T env σ H r D) : PostS W Z T env1 σ1 H1 r D := by
  cases r with
  | ok q =>
    cases q with
    | nx env' => exact fun σ' H' s r => h σ' H' (S.trans s) r
    | rt d fr env' => exact fun v σ' H' s r k => h v σ' H' (S.trans s) r (k.pre S)
  | exc x => exact PostXS.pre S h
  | stuck => exact h
theorem VOk.rt {fr : Bool} (h : VOk W T H H' env' σ (.va d fr) v) : VRt W T env σ H H' env' σ d fr v := by
  cases fr with
  | false => exact h
  | true =>
    obtain ⟨a, e, n, z, o⟩ := h
    exact ⟨a, e, n, .inr z, o⟩
/-- a list of one's own is changed -/
theorem owns_same {i : Nat} {c c' : PyData} {k : Own} (e : env[i]? = some (some (c, k))) (j : Nat) (a : Addr) : Owns (env.set i (some (c', k))) σ j a ↔ Owns env σ j a := by
  by_cases hj : i = j
  · subst hj
    constructor
    · rintro ⟨d, k', q1, q2, q3⟩
      rw [getElem?_set_eq' e] at q1
      cases q1
      exact ⟨c, k, e, q2, q3⟩
    · rintro ⟨d, k', q1, q2, q3⟩
      rw [e] at q1
      cases q1
      exact ⟨c', k, getElem?_set_eq' e, q2, q3⟩
  · constructor
    · rintro ⟨d, k', q1, q2, q3⟩
      rw [getElem?_set_ne' hj] at q1
      exact ⟨d, k', q1, q2, q3⟩
    · rintro ⟨d, k', q1, q2, q3⟩
      exact ⟨d, k', by rw [getElem?_set_ne' hj]; exact q1, q2, q3⟩
theorem mut_ok {i : Nat} {c : PyData} {k : Own} {a : Addr} {ds : List PyData} {vs : List V} (R : Rel W T env σ H) (e : env[i]? = some (some (c, k))) (hk : k = .ow ∨ k = .rf) (hs : σ[i]? = some (some (.ref a))) (hz : vs.length ≤ sizeLine) (r : RepAll W H (Av T env σ) ds vs) :
    Step env σ H (env.set i (some (.list ds, k))) σ (upd H a (.lst vs)) ∧ Rel W T (env.set i (some (.list ds, k))) σ (upd H a (.lst vs)) := by
  have nk : k ≠ .sh := by rcases hk with z | z <;> (rw [z]; decide)
  have oa : Owns env σ i a := ⟨c, k, e, nk, hs⟩
  have own : ∀ j b, Owns (env.set i (some (.list ds, k))) σ j b ↔ Owns env σ j b := owns_same e
  have ownd : ∀ b, Ownd (env.set i (some (.list ds, k))) σ b ↔ Ownd env σ b := fun b => ⟨fun ⟨j, h⟩ => ⟨j, (own j b).mp h⟩, fun ⟨j, h⟩ => ⟨j, (own j b).mpr h⟩⟩
  have tr : Tr H (upd H a (.lst vs)) (Av T env σ) (Av T (env.set i (some (.list ds, k))) σ) := ⟨fun b o n q => by rw [upd_ne (fun z => n (.inr ⟨i, by rw [z]; exact oa⟩))]; exact q, fun b n _ z => n (z.imp id (ownd b).mp)⟩
  refine ⟨⟨fun b o q n => by rw [upd_ne (fun z => n ⟨i, by rw [z]; exact oa⟩)]; exact q, fun b z => .inl ((ownd b).mp z), fun b h => ?_, fun j d k' hf q => ?_⟩, ⟨by rw [List.length_set]; exact R.len, fun j d k' q => ?_, fun j j' b h1 h2 => R.inj j j' b ((own j b).mp h1) ((own j' b).mp h2), fun b t => ⟨fun z => (R.prot b t).1 ((ownd b).mp z), ?_⟩⟩⟩
  · by_cases z : b = a
    · subst z; rw [upd_same]; simp
    · rw [upd_ne z]; exact h
  · by_cases hj : i = j
    · subst hj
      rw [e] at q
      cases q
      refine ⟨.list ds, getElem?_set_eq' e, rfl, fun z => ?_⟩
      subst z
      rcases hk with z | z <;> cases z
    · exact ⟨d, by rw [getElem?_set_ne' hj]; exact q, rfl, fun _ => rfl⟩
  · by_cases hj : i = j
    · subst hj
      rw [getElem?_set_eq' e] at q
      cases q
      refine ⟨.ref a, hs, ?_⟩
      have : OwnAt W (upd H a (.lst vs)) (Av T (env.set i (some (.list ds, k))) σ) (.list ds) a := ⟨vs, upd_same, hz, r.tr tr⟩
      rcases hk with rfl | rfl
      · exact ⟨a, rfl, this⟩
      · exact ⟨a, rfl, this⟩
    · rw [getElem?_set_ne' hj] at q
      obtain ⟨v, ev, so⟩ := R.slot j d k' q
      refine ⟨v, ev, so.tr tr fun b eb nb o q' => ?_⟩
      rw [upd_ne (fun z => ?_)]
      · exact q'
      · subst eb z
        exact hj (R.inj i j b oa ⟨d, k', q, nb, ev⟩)
  · by_cases z : b = a
    · subst z; rw [upd_same]; simp
    · rw [upd_ne z]; exact (R.prot b t).2
/-- the own list of a slot -/
theorem slot_own {i : Nat} {c : PyData} {k : Own} (R : Rel W T env σ H) (e : env[i]? = some (some (c, k))) (hk : k = .ow ∨ k = .rf) : ∃ a ds vs, c = .list ds ∧ σ[i]? = some (some (.ref a)) ∧ H a = some (.lst vs) ∧ vs.length ≤ sizeLine ∧ RepAll W H (Av T env σ) ds vs := by
  obtain ⟨v, ev, so⟩ := R.slot i c k e
  have : ∃ a, v = .ref a ∧ OwnAt W H (Av T env σ) c a := by
    rcases hk with rfl | rfl
    · exact so
    · exact so
  obtain ⟨a, rfl, o⟩ := this
  cases c with
  | list ds =>
    obtain ⟨vs, h1, h2, h3⟩ := o
    exact ⟨a, ds, vs, rfl, ev, h1, h2, h3⟩
  | _ => exact o.elim
end
section
variable {nm : Nm} {C : CallT} {G : List PyData} {W : Wd} {k : Nat} {Z : L2.WX} {X : Cx} {a b c e : Expr} {es : List Expr} {pos p : Pos} {ma mb mc m : ME} {ms : List ME}
theorem sm_nop1 : PS X (.Pass pos) (tS C G W Z .nop) := ps_imp ps_pass fun D σ H ⟨T, env, rl, h⟩ => by
  simp only [evS] at h
  exact h σ H .refl rl
theorem sm_nop2 {x : Str} {j : Nat} {p2 : Pos} : PS X (.Expr (.Constant (.str x) j p2) pos) (tS C G W Z .nop) := ps_imp ps_doc fun D σ H ⟨T, env, rl, h⟩ => by
  simp only [evS] at h
  exact h σ H .refl rl
/-- x = e, by its value -/
theorem set_read {i : Nat} {D : Ends} {σ : St} {H : Hp} (h : tS C G W Z (.set i m) D σ H) : tE C G W Z m σ H fun x H1 => D.nx (σ.set i (some x)) H1 := by
  obtain ⟨T, env, rl, h⟩ := h
  simp only [evS] at h
  refine tE_mono (one_gen (P := fun r => PostS W Z T env σ H r D) (f := fun w env => match w with
    | .va d fr => (M.R.ofO (setS i d (if fr = true then .ow else .sh) env)).bind fun env => .ok (.nx env)
    | .sl j => fzv env (.sl j) >>= fun p => (M.R.ofO (setS i p.1 .sh p.2)).bind fun env => .ok (.nx env)) rl (fun _ h => PostXS.x h) id h) fun x H1 h => ?_
  obtain ⟨w, env1, S, R1, V, h⟩ := h
  cases w with
  | va d fr =>
    obtain ⟨env2, e, h⟩ := post_of (P := fun r => PostS W Z T env σ H r D) h id
    obtain ⟨h1, h2⟩ := setS_ok S R1 V e
    exact h _ _ h1 h2
  | sl j =>
    obtain ⟨q, e1, h⟩ := post_fz (P := fun r => PostS W Z T env σ H r D) h id
    obtain ⟨env2, e, h⟩ := post_of (P := fun r => PostS W Z T env σ H r D) h id
    obtain ⟨S1, R2, r1⟩ := fz_ok R1 V (show fzv env1 (.sl j) = .ok (q.1, q.2) from e1)
    obtain ⟨h1, h2⟩ := setS_ok (fr := false) (T := T) (v := x) (S.trans S1) R2 r1 e
    exact h _ _ h1 h2
theorem sm_set {i : Nat} {x : Str} (hN : X.N.Nodup) (hi : X.N[i]? = some x) (hx : Loc X.env.scope x) (hf : X.fn x = true ∨ X.env.scope.names.lookup x = some .local) (he : PE X e (tE C G W Z m)) (hs : swapsWith e (some (.Name x p)) pos.line X.env = pure false) : PS X (.Assign [.Name x p] e pos) (tS C G W Z (.set i m)) :=
  ps_imp (ps_set hN hi hx he hs hf) fun D σ H h => set_read h
theorem sm_setT (g : Gd nm C G W k Z X) {rs : Scope} (hS : StOk rs X) {n : Nat} {ts : List Expr} {kk : Nat} {mts : List MT} (ht : cTg X.N rs n (.Tuple ts kk p) = some (.tp mts)) (hne : isTupE e = false) (he : PE X e (tE C G W Z m)) : PS X (.Assign [.Tuple ts kk p] e pos) (tS C G W Z (.setT mts m)) := by
  have pg := pg_of g.calm g.nd hS n ht
  refine ps_imp (ps_asg he pg ?_ ?_ rfl) fun D σ H h => ?_
  · cases e <;> rfl
  · cases e <;> first | rfl | (simp [isTupE] at hne)
  · obtain ⟨T, env, rl, h⟩ := h
    simp only [evS] at h
    refine tE_mono (one_gen (P := fun r => PostS W Z T env σ H r D) (f := fun w env => fzv env w >>= fun q => (M.R.ofO (bindT (.tp mts) q.1 q.2)).bind fun env => .ok (.nx env)) rl (fun _ h => PostXS.x h) id h) fun x H1 h => ?_
    obtain ⟨w, env1, S, R1, V, h⟩ := h
    obtain ⟨q, e1, h⟩ := post_fz (P := fun r => PostS W Z T env σ H r D) h id
    obtain ⟨env2, e2, h⟩ := post_of (P := fun r => PostS W Z T env σ H r D) h id
    obtain ⟨S1, R2, r1⟩ := fz_ok R1 V (show fzv env1 w = .ok (q.1, q.2) from e1)
    rw [← g.K]
    exact bindT_ok R2 r1 e2 fun σ' S2 R3 _ => h σ' H1 ((S.trans S1).trans S2) R3
theorem mutS_inv {i : Nat} {env : Env} {f : PyData → Option PyData} {T : Addr → Prop} {env0 : Env} {σ : St} {H : Hp} {D : Ends} (h : PostS W Z T env0 σ H (mutS i env f) D) : ∃ c k c', env[i]? = some (some (c, k)) ∧ (k = .ow ∨ k = .rf) ∧ f c = some c' ∧ PostS W Z T env0 σ H (.ok (.nx (env.set i (some (c', k))))) D := by
  unfold mutS at h
  split at h
  · rename_i c q
    obtain ⟨c', e, h⟩ := post_of (P := fun r => PostS W Z T env0 σ H r D) h id
    exact ⟨c, .ow, c', q, .inl rfl, e, h⟩
  · rename_i c q
    obtain ⟨c', e, h⟩ := post_of (P := fun r => PostS W Z T env0 σ H r D) h id
    exact ⟨c, .rf, c', q, .inr rfl, e, h⟩
  · exact h.elim
theorem own_val {i : Nat} {env : Env} {σ : St} {H : Hp} {T : Addr → Prop} (R : Rel W T env σ H) (h : ownS env[i]? = true) : ∃ v, σ[i]? = some (some v) := by
  unfold ownS at h
  split at h
  · rename_i d q; obtain ⟨v, e, _⟩ := R.slot i _ _ q; exact ⟨v, e⟩
  · rename_i d q; obtain ⟨v, e, _⟩ := R.slot i _ _ q; exact ⟨v, e⟩
  · cases h
theorem sm_setI {i : Nat} {x : Str} {p2 : Pos} {ix : Expr} (hns : ∀ l u s p, ix ≠ .Slice l u s p) (hv : PE X (.Name x p) (tVar i)) (hi : PE X ix (tE C G W Z mb)) (he : PE X e (tE C G W Z ma)) : PS X (.Assign [.Subscript (.Name x p) ix p2] e pos) (tS C G W Z (.setI i mb ma)) := by
  refine ps_imp (ps_asg he (pg_sub hv hi set_list (fun v => by cases ix <;> first | rfl | exact absurd rfl (hns _ _ _ _))) ?_ ?_ rfl) fun D σ H h => ?_
  · cases e <;> rfl
  · cases e <;> rfl
  · obtain ⟨T, env, rl, h⟩ := h
    simp only [evS] at h
    refine tE_mono (one_gen (P := fun r => PostS W Z T env σ H r D) (f := fun w env => fzn env w >>= fun q => if ownS q.2[i]? = true then (ev C G mb q.2 >>= fun y => rdv y.2 y.1 >>= fun kx => mutS i y.2 fun c => setD c kx q.1) else .stuck) rl (fun _ h => PostXS.x h) id h) fun x H1 h => ?_
    obtain ⟨w, env1, S, R1, V, h⟩ := h
    obtain ⟨q, e1, n1, h⟩ := post_fzn (P := fun r => PostS W Z T env σ H r D) h id
    obtain ⟨S1, R2, r1⟩ := fz_ok R1 V (show fzv env1 w = .ok (q.1, q.2) from e1)
    split at h
    · rename_i ho
      obtain ⟨v0, hv0⟩ := own_val R2 ho
      refine ⟨v0, hv0, T, q.2, R2, ?_⟩
      cases e2 : ev C G mb q.2 with
      | ok y =>
        rw [e2] at h
        have h : PostS W Z T env σ H (rdv y.2 y.1 >>= fun kx => mutS i y.2 fun c => setD c kx q.1) D := h
        intro v3 H3 S3 R3 V3
        obtain ⟨kx, e3, h⟩ := post_rd (P := fun r => PostS W Z T env σ H r D) h id
        obtain ⟨c, k', c', e4, hk, e5, h⟩ := mutS_inv h
        have R3' := R3.less (T' := T) fun a z => Tw_sub z
        obtain ⟨a, ds, vs, rfl, ea, hH, hz, hr⟩ := slot_own R3' e4 hk
        rw [hv0] at ea
        cases ea
        have hx := (V3.hold (T := T) (fun _ z => z) R3 fun a z => Tw_sub z) kx e3
        cases kx with
        | int n =>
          simp only [setD, Option.map_eq_some_iff] at e5
          obtain ⟨jj, e6, e7⟩ := e5
          subst e7
          have rd' := Rep.tr (S3.tr (T := T) (T' := T) fun _ z => .inl z) r1
          refine ⟨a, vs, n, jj, rfl, hx.int, hH, by rw [hr.length]; exact e6, ?_⟩
          obtain ⟨S4, R4⟩ := mut_ok (ds := ds.set jj q.1) (vs := vs.set jj x) R3' e4 hk hv0 (by rw [List.length_set]; exact hz) (hr.set jj n1 rd')
          exact h σ _ (((S.trans S1).trans S3).trans S4) R4
        | _ => simp [setD] at e5
      | exc z => rw [e2] at h; exact PostX.pre (S.trans S1) (fun _ z => z) (PostXS.x h)
      | stuck => rw [e2] at h; exact h
    · exact h.elim
theorem sm_append {i : Nat} {x : Str} {apos cpos : Pos} (hv : PE X (.Name x p) (tVar i)) (he : PE X e (tE C G W Z m)) (hst : ∀ v p, e ≠ .Starred v p) (hl : (apos.endLine == cpos.line) = true) (hK : W.K = X.K) : PS X (.Expr (.Call (.Attribute (.Name x p) "append" apos) [e] [] cpos) pos) (tS C G W Z (.mut i .append [m])) := by
  refine ps_imp (ps_expr (pe_bm PySem.F.plainAttrs_list PySem.F.slot_list_append PySem.F.type_list_append mt_append hv (pl_consA he pl_nilA (star_one hst [] X.env)) rfl (by rw [star_one hst [] X.env]; rfl) hl (star_one hst [] X.env) rfl)) fun D σ H h => ?_
  obtain ⟨T, env, rl, h⟩ := h
  simp only [evS] at h
  split at h
  · rename_i ho
    have ho' := ho
    have : ∃ c k, env[i]? = some (some (c, k)) ∧ (k = .ow ∨ k = .rf) := by
      unfold ownS at ho'
      split at ho'
      · rename_i d q; exact ⟨_, _, q, .inl rfl⟩
      · rename_i d q; exact ⟨_, _, q, .inr rfl⟩
      · cases ho'
    obtain ⟨c, k', e4, hk⟩ := this
    obtain ⟨a, ds, vs, rfl, ea, hH, hz, hr⟩ := slot_own rl e4 hk
    refine ⟨.ref a, ea, .inl ⟨rfl, vs, SqL.of hH⟩, T, env, rl, ?_⟩
    cases e2 : evA C G [m] env with
    | ok y =>
      rw [e2] at h
      have h : PostS W Z T env σ H (mutS i y.2 fun c => mutD .append c y.1) D := h
      intro vs2 H3 S3 R3 r3
      obtain ⟨c2, k2, c', e5, hk2, e6, h⟩ := mutS_inv h
      obtain ⟨a2, ds2, vs3, rfl, ea2, hH2, hz2, hr2⟩ := slot_own R3 e5 hk2
      rw [ea] at ea2
      cases ea2
      have hlen : y.1.length = 1 := by
        simp only [evA] at e2
        cases q1 : ev C G m env with
        | ok w =>
          simp only [bind, M.R.bind, q1] at e2
          cases q2 : fzn w.2 w.1 with
          | ok w2 => simp only [q2] at e2; cases e2; rfl
          | exc _ => simp only [q2] at e2; cases e2
          | stuck => simp only [q2] at e2; cases e2
        | exc _ => simp only [bind, M.R.bind, q1] at e2; cases e2
        | stuck => simp only [bind, M.R.bind, q1] at e2; cases e2
      match y1 : y.1, hlen with
      | [d1], _ =>
        rw [y1] at e6 r3
        simp only [mutD] at e6
        split at e6
        · rename_i hlt
          cases e6
          simp only [RepAll] at r3
          obtain ⟨v1, r', rfl, n1, rp, rfl⟩ := r3
          refine ⟨a, vs3, v1, rfl, rfl, hH2, by rw [hr2.length]; exact hlt, ?_⟩
          obtain ⟨S4, R4⟩ := mut_ok (ds := ds2 ++ [d1]) (vs := vs3 ++ [v1]) R3 e5 hk2 ea (by rw [List.length_append, hr2.length]; simp; omega) (hr2.append (RepAll.one n1 rp))
          exact h σ _ (S3.trans S4) R4
        · cases e6
    | exc z => rw [e2] at h; exact PostXS.x h
    | stuck => rw [e2] at h; exact h
  · exact h.elim
theorem sm_clear {i : Nat} {x : Str} {apos cpos : Pos} (hv : PE X (.Name x p) (tVar i)) (hl : (apos.endLine == cpos.line) = true) : PS X (.Expr (.Call (.Attribute (.Name x p) "clear" apos) [] [] cpos) pos) (tS C G W Z (.mut i .clear [])) := by
  refine ps_imp (ps_expr (pe_bm0 PySem.F.plainAttrs_list PySem.F.slot_list_clear PySem.F.type_list_clear mt_clear hv rfl hl)) fun D σ H h => ?_
  obtain ⟨T, env, rl, h⟩ := h
  simp only [evS, evA] at h
  split at h
  · have h : PostS W Z T env σ H (mutS i env fun c => mutD .clear c []) D := h
    obtain ⟨c, k', c', e4, hk, e5, h⟩ := mutS_inv h
    obtain ⟨a, ds, vs, rfl, ea, hH, hz, hr⟩ := slot_own rl e4 hk
    cases e5
    refine ⟨.ref a, ea, .inl ⟨rfl, vs, SqL.of hH⟩, a, vs, rfl, rfl, hH, ?_⟩
    obtain ⟨S4, R4⟩ := mut_ok (ds := []) (vs := []) rl e4 hk ea (Nat.zero_le _) (by simp only [RepAll])
    exact h σ _ S4 R4
  · exact h.elim
theorem sm_extend {i : Nat} {x : Str} {apos cpos : Pos} (hv : PE X (.Name x p) (tVar i)) (he : PE X e (tE C G W Z m)) (hst : ∀ v p, e ≠ .Starred v p) (hl : (apos.endLine == cpos.line) = true) : PS X (.Expr (.Call (.Attribute (.Name x p) "extend" apos) [e] [] cpos) pos) (tS C G W Z (.ext i m)) := by
  refine ps_imp (ps_expr (pe_bm PySem.F.plainAttrs_list PySem.F.slot_list_extend PySem.F.type_list_extend mt_extend hv (pa_cons he pa_nil (star_one hst [] X.env)) rfl (by rw [star_one hst [] X.env]; rfl) hl (star_one hst [] X.env) rfl)) fun D σ H h => ?_
  obtain ⟨T, env, rl, h⟩ := h
  simp only [evS] at h
  split at h
  · rename_i ho
    have ho' := ho
    have : ∃ c k, env[i]? = some (some (c, k)) ∧ (k = .ow ∨ k = .rf) := by
      unfold ownS at ho'
      split at ho'
      · rename_i d q; exact ⟨_, _, q, .inl rfl⟩
      · rename_i d q; exact ⟨_, _, q, .inr rfl⟩
      · cases ho'
    obtain ⟨c, k', e4, hk⟩ := this
    obtain ⟨a, ds, vs, rfl, ea, hH, hz, hr⟩ := slot_own rl e4 hk
    refine ⟨.ref a, ea, .inl ⟨rfl, vs, SqL.of hH⟩, T, env, rl, ?_⟩
    cases e2 : ev C G m env with
    | ok y =>
      obtain ⟨w, env2⟩ := y
      rw [e2] at h
      intro v2 H3 S3 R3 V3
      cases w with
      | sl j => exact h.elim
      | va d fr =>
        cases fr with
        | false => cases d <;> exact h.elim
        | true =>
          cases d with
          | list ys =>
            have h : PostS W Z T env σ H (mutS i env2 fun c => extD c ys) D := h
            obtain ⟨c2, k2, c', e5, hk2, e6, h⟩ := mutS_inv h
            have R3' : Rel W T env2 σ H3 := R3.less (T' := T) fun a z => Tw_sub z
            obtain ⟨a2, ds2, vs3, rfl, ea2, hH2, hz2, hr2⟩ := slot_own R3' e5 hk2
            rw [ea] at ea2
            cases ea2
            obtain ⟨b, rfl, nT, _, o⟩ := V3
            obtain ⟨zs, hb, hbz, hbr⟩ := o
            simp only [extD] at e6
            split at e6
            · rename_i hlt
              cases e6
              refine ⟨a, b, vs3, zs, rfl, rfl, hH2, hb, by rw [hr2.length, hbr.length]; exact hlt, ?_⟩
              obtain ⟨S4, R4⟩ := mut_ok (ds := ds2 ++ ys) (vs := vs3 ++ zs) R3' e5 hk2 ea (by rw [List.length_append, hr2.length, hbr.length]; exact hlt) (hr2.append (hbr.tr ⟨fun _ _ _ e => e, fun a n _ q => n (.inl q)⟩))
              exact h σ _ (S3.trans S4) R4
            · cases e6
          | _ => exact h.elim
    | exc z => rw [e2] at h; exact PostXS.x h
    | stuck => rw [e2] at h; exact h
  · exact h.elim
theorem sm_expr (he : PE X e (tE C G W Z m)) (hs : swapsWith e none pos.line X.env = pure false) : PS X (.Expr e pos) (tS C G W Z (.expr m)) := by
  refine ps_imp (ps_expr he hs) fun D σ H ⟨T, env, rl, h⟩ => ?_
  simp only [evS] at h
  refine tE_mono (one_gen (P := fun r => PostS W Z T env σ H r D) (f := fun w env => .ok (.nx env)) rl (fun _ h => PostXS.x h) id h) fun x H1 h => ?_
  obtain ⟨w, env1, S, R1, V, h⟩ := h
  exact h σ H1 S (R1.less fun a z => Tw_sub z)
theorem sm_ret (he : PE X e (tE C G W Z m)) : PS X (.Return (some e) pos) (tS C G W Z (.ret m)) := by
  refine ps_imp (ps_ret he) fun D σ H ⟨T, env, rl, h⟩ => ?_
  simp only [evS] at h
  refine tE_mono (one_gen (P := fun r => PostS W Z T env σ H r D) (f := fun w env => match w with
    | .va d fr => .ok (.rt d fr env)
    | .sl i => match env[i]? with
      | some (some (d, .ow)) => .ok (.rt d true (env.set i none))
      | _ => .stuck) rl (fun _ h => PostXS.x h) id h) fun x H1 h => ?_
  obtain ⟨w, env1, S, R1, V, h⟩ := h
  cases w with
  | va d fr => exact h x σ H1 S R1 V.rt
  | sl i =>
    have h : PostS W Z T env σ H (match env1[i]? with
      | some (some (d, .ow)) => .ok (.rt d true (env1.set i none))
      | _ => .stuck) D := h
    split at h
    · rename_i d q
      have V : σ[i]? = some (some x) := V
      have R1 : Rel W T env1 σ H1 := R1
      obtain ⟨v, ev, so⟩ := R1.slot i d .ow q
      rw [V] at ev
      cases ev
      obtain ⟨a, rfl, o⟩ := so
      have oa : Owns env1 σ i a := ⟨d, .ow, q, by decide, V⟩
      have own : ∀ {j b}, Owns (env1.set i none) σ j b → j ≠ i ∧ Owns env1 σ j b := fun {j b} ⟨d', k', q1, q2, q3⟩ => by
        by_cases hj : i = j
        · subst hj
          rw [getElem?_set_eq' q] at q1
          cases q1
        · rw [getElem?_set_ne' hj] at q1
          exact ⟨fun z => hj z.symm, d', k', q1, q2, q3⟩
      have na : ¬ Ownd (env1.set i none) σ a := fun ⟨j, hj⟩ => (own hj).1 (R1.inj j i a (own hj).2 oa)
      have less : ∀ b, (Av T (env1.set i none) σ b ∨ b = a) → Av T env1 σ b := fun b z => by
        rcases z with (z | ⟨j, z⟩) | z
        · exact .inl z
        · exact .inr ⟨j, (own z).2⟩
        · subst z; exact .inr ⟨i, oa⟩
      have S1 : Step env1 σ H1 (env1.set i none) σ H1 := ⟨fun _ _ e _ => e, fun b ⟨j, hj⟩ => .inl ⟨j, (own hj).2⟩, fun _ z => z, fun j d' k' hk e => by
        by_cases hj : i = j
        · subst hj
          rw [q] at e
          cases e
          rcases hk with z | z <;> cases z
        · exact ⟨d', by rw [getElem?_set_ne' hj]; exact e, rfl, fun _ => rfl⟩⟩
      have nT : ¬ T a := fun t => (R1.prot a t).1 ⟨i, oa⟩
      refine h (.ref a) σ H1 (S.trans S1) ⟨by rw [List.length_set]; exact R1.len, fun j d' k' e => ?_, fun j j' b h1 h2 => R1.inj j j' b (own h1).2 (own h2).2, fun b t => ?_⟩ ⟨a, rfl, nT, S.own a ⟨i, oa⟩, o.less less⟩
      · by_cases hj : i = j
        · subst hj
          rw [getElem?_set_eq' q] at e
          cases e
        · rw [getElem?_set_ne' hj] at e
          obtain ⟨v, ev, so⟩ := R1.slot j d' k' e
          refine ⟨v, ev, so.less fun b z => less b ?_⟩
          rcases z with (z | z) | z
          · exact .inl (.inl z)
          · cases z; exact .inr rfl
          · exact .inl (.inr z)
      · rcases t with t | t
        · exact ⟨fun ⟨j, hj⟩ => (R1.prot b t).1 ⟨j, (own hj).2⟩, (R1.prot b t).2⟩
        · cases t
          exact ⟨na, o.some⟩
    · exact h.elim
theorem sm_retN : PS X (.Return none pos) (tS C G W Z .retN) := ps_imp ps_retN fun D σ H ⟨T, env, rl, h⟩ => by
  simp only [evS] at h
  exact h .non σ H .refl rl (by show Rep _ _ _ _ _; simp only [Rep])
theorem sm_if {as bs : List Stmt} {mas mbs : List MS} (hc : PT X c (tT C G W Z mc)) (ha : PSs X as (tSs C G W Z mas)) (hb : PSs X bs (tSs C G W Z mbs)) : PS X (.If c as bs pos) (tS C G W Z (.ite mc mas mbs)) := by
  refine ps_imp (ps_if hc ha hb) fun D σ H ⟨T, env, rl, h⟩ => ?_
  simp only [evS] at h
  refine tT_mono (tT_gen (P := fun r => PostS W Z T env σ H r D) rl (fun _ h => PostXS.x h) id h) fun k H1 h => ?_
  obtain ⟨env1, S, R1, h⟩ := h
  cases k with
  | true => exact ⟨T, env1, R1, PostS.pre S h⟩
  | false => exact ⟨T, env1, R1, PostS.pre S h⟩
theorem sm_raise (g : Gd nm C G W k Z X) {x y : Str} {j : Nat} {p1 p2 p3 : Pos} {ci : Nat} (hc : nm.cls[ci]? = some (x, false)) (hg : Gl X x) (hd : (x == ("__debug__" : Str)) = false) : PS X (.Raise (some (.Call (.Name x p1) [.Constant (.str y) j p2] [] p3)) none pos) (tS C G W Z (.rais ci false [])) := by
  obtain ⟨h1, h2, h3, h4⟩ := g.cls ci x hc
  refine ps_imp (ps_raise g.calm g.tk (pmk_own PySem.F.excBase_ValueError h2 h1 h3 h4 hg hd)) fun D σ H ⟨T, env, rl, h⟩ => ?_
  simp only [evS, evA] at h
  exact h (.ref (W.ca ci)) none σ H .refl rl ⟨rfl, fun _ => rfl⟩
theorem sms_nil : PSs X [] (tSs C G W Z []) := pss_imp pss_nil fun D σ H ⟨T, env, rl, h⟩ => by
  simp only [evSs] at h
  exact h σ H .refl rl
theorem sms_cons {s : Stmt} {r : List Stmt} {ms : MS} {mr : List MS} (hs : PS X s (tS C G W Z ms)) (hr : PSs X r (tSs C G W Z mr)) : PSs X (s :: r) (tSs C G W Z (ms :: mr)) := by
  refine pss_imp (pss_cons hs hr) fun D σ H ⟨T, env, rl, h⟩ => ?_
  simp only [evSs] at h
  refine ⟨T, env, rl, ?_⟩
  cases e : evS C G ms env with
  | ok q =>
    cases q with
    | nx env' =>
      simp only [e] at h
      exact fun σ' H' S R' => ⟨T, env', R', PostS.pre S h⟩
    | rt d fr env' => simp only [e] at h; exact h
  | exc x => simp only [e] at h; exact h
  | stuck => simp only [e] at h; exact h
end
end M
/-! M: loops. -/
namespace M
open PySem L2 PyProof.Rows
section
variable {W : Wd} {Z : L2.WX} {T T1 T2 : Addr → Prop} {env env1 env2 env' : Env} {σ σ1 σ2 σ' : St} {H H0 H1 H2 H' : Hp} {w : EV} {v : V} {C : CallT} {G : List PyData} {m ma mb mc : ME} {d : PyData} {D : Ends} {t : MT} {kk : IK} {src : List ME} {body : List MS}
def forTurn (C : CallT) (G : List PyData) (t : MT) (body : List MS) (x : PyData) (env : Env) : RE SR := (R.ofO (bindT t x env)).bind fun env => evSs C G body env
theorem evS_for (env : Env) : evS C G (.forr t kk src body) env = (evE C G src env >>= fun p => rdAll p.2 p.1 >>= fun ds => M.R.ofO (itemsD kk ds) >>= fun items =>
    unlR p.2 (lent p.2 p.1) (forLoop (forTurn C G t body) items (lendE p.2 (lent p.2 p.1)))) := by
  simp only [evS]
  rfl
theorem VRt.same {fr : Bool} (i : ∀ a, Av T env2 σ' a → Av T env' σ' a) (h : VRt W T env σ H H' env' σ' d fr v) : VRt W T env σ H H' env2 σ' d fr v := by
  cases fr with
  | false => exact Rep.less (show Rep W H' (Av T env' σ') d v from h) i
  | true =>
    obtain ⟨a, e, n, z, o⟩ := h
    exact ⟨a, e, n, z, o.less fun b q => q.imp (i b) id⟩
/-- the body's end, seen from ahead of the loop -/
theorem loop_end {r : RE SR} {L : List Nat} {D' : Ends} (hrt : D'.rt = D.rt) (hL : ∀ j ∈ L, ∃ d k, env1[j]? = some (some (d, k)) ∧ k ≠ .sh) (S0 : Step env σ H env1 σ1 H1) (S : Step (lendE env1 L) σ1 H1 env2 σ2 H2)
    (hn : ∀ env', r = .ok (.nx env') → ∀ σ' H', Step env2 σ2 H2 env' σ' H' → Rel W T env' σ' H' → D'.nx σ' H')
    (h : (∃ env', r = .ok (.nx env')) ∨ PostS W Z T env σ H (unlR env1 L r) D) : PostS W Z T env2 σ2 H2 r D' := by
  cases r with
  | stuck => rcases h with ⟨_, h⟩ | h; cases h; exact h
  | exc x =>
    rcases h with ⟨_, h⟩ | h; cases h
    intro cls d σ' H' s r k
    obtain ⟨S3, R3, _⟩ := unlend_ok hL (S.trans s) r
    exact h cls d σ' H' (S0.trans S3) R3 k
  | ok q =>
    cases q with
    | nx env' => exact hn env' rfl
    | rt d fr env' =>
      rcases h with ⟨_, h⟩ | h; cases h
      intro v σ' H' s r k
      obtain ⟨S3, R3, o3⟩ := unlend_ok hL (S.trans s) r
      rw [hrt]
      refine h v σ' H' (S0.trans S3) R3 ?_
      have ww : ∀ a, Av T (backE env1 env' L) σ' a → Av T env' σ' a := fun a z => z.imp id fun ⟨j, y⟩ => ⟨j, (o3 j a).mp y⟩
      have k1 := (k.pre S).same ww
      cases fr with
      | false => exact k1
      | true =>
        obtain ⟨a, e, n, z, o⟩ := k1
        refine ⟨a, e, n, ?_, o⟩
        rcases z with z | z
        · exact S0.own a (lend_ownd.mp z)
        · by_cases q : H a = none
          · exact .inr q
          · exact absurd z (S0.dom a q)
theorem for_read (h : tS C G W Z (.forr t kk src body) D σ H) : tFor (iM C G W Z kk src) (gOf W.K t) (tSs C G W Z body) D σ H := by
  obtain ⟨T, env, rl, h⟩ := h
  rw [evS_for] at h
  refine ⟨T, env, rl, ?_⟩
  cases e1 : evE C G src env with
  | exc x => rw [e1] at h; exact PostXS.x h
  | stuck => rw [e1] at h; exact h
  | ok p =>
    obtain ⟨ws, env1⟩ := p
    rw [e1] at h
    have h : PostS W Z T env σ H (rdAll env1 ws >>= fun ds => M.R.ofO (itemsD kk ds) >>= fun items => unlR env1 (lent env1 ws) (forLoop (forTurn C G t body) items (lendE env1 (lent env1 ws)))) D := h
    obtain ⟨ds, e2, h⟩ := post_rdAll (P := fun r => PostS W Z T env σ H r D) h id
    obtain ⟨items, e3, h⟩ := post_of (P := fun r => PostS W Z T env σ H r D) h id
    intro vals H1 S R1 hl
    have S : Step env σ H env1 σ H1 := S
    have R1 : Rel W T env1 σ H1 := R1
    have hl : HoldL W T env1 σ H1 ws vals := hl
    have hrb := hl.rd R1 e2
    refine ⟨Av T env1 σ, ds, items, avOk R1, hrb, e3, fun J wk => ?_⟩
    generalize hL : lent env1 ws = L at h
    have hown : ∀ j ∈ L, ∃ d k, env1[j]? = some (some (d, k)) ∧ k ≠ .sh := by rw [← hL]; exact lent_own e2
    have R0 : Rel W T (lendE env1 L) σ H1 := lend_rel R1
    have wsE : slots (ws.map (normW env1)) = L := hL
    have ln0 : ∀ i ∈ L, ∃ d, (lendE env1 L)[i]? = some (some (d, .ln)) := fun i hi => by
      obtain ⟨d, k, e, nk⟩ := hown i hi
      exact ⟨d, ((lendE_get env1 L i).2 hi).1 d k e nk⟩
    have hl0 : HoldL W T (lendE env1 L) σ H1 (ws.map (normW env1)) vals := HoldL.tr ⟨fun a o n e => e, fun a n _ z => n (lend_av.mp z)⟩ (norm_hold R1 hl) fun i hi => rfl
    have rd0 : rdAll (lendE env1 L) (ws.map (normW env1)) = .ok ds := by
      refine rd_same (norm_rd e2) fun i hi d k e => ?_
      rw [wsE] at hi
      obtain ⟨d', k', e', nk⟩ := hown i hi
      rw [e] at e'
      cases e'
      exact ⟨.ln, ((lendE_get env1 L i).2 hi).1 d k e nk⟩
    let Inv : Nat → St → Hp → Prop := fun i σi Hi => i ≤ items.length ∧ ∃ envi, Rel W T envi σi Hi ∧ Step (lendE env1 L) σ H1 envi σi Hi ∧ PostS W Z T env σ H (unlR env1 L (forLoop (forTurn C G t body) (items.drop i) envi)) D ∧ rdAll envi (ws.map (normW env1)) = .ok ds ∧ HoldL W T envi σi Hi (ws.map (normW env1)) vals
    refine ⟨fun i n σi Hi => n = items.length - i ∧ Inv i σi Hi, ⟨items.length, by simp, Nat.zero_le _, _, R0, .refl, by rw [List.drop_zero]; exact h, rd0, hl0⟩, ?_⟩
    rintro i n σi Hi ⟨rfl, hi, envi, Ri, Si, hloop, rdi, hli⟩
    have hrbi := hli.rd Ri rdi
    by_cases hlt : i < items.length
    · refine .inr ⟨wk.go i Hi _ hrbi hlt, Inv (i + 1), fun σ' H' nx => ⟨items.length - (i + 1), by omega, rfl, nx⟩, fun x H' hy => ?_⟩
      have hgi : items[i]? = some items[i] := List.getElem?_eq_getElem hlt
      obtain ⟨sm, nd, rp⟩ := wk.yld i Hi _ x H' items[i] (avOk Ri) hrbi hgi hy
      rw [List.drop_eq_getElem_cons hlt] at hloop
      have R' := Ri.same sm
      have S' : Step envi σi Hi envi σi H' := Step.same sm
      simp only [forLoop, forTurn] at hloop
      cases b1 : bindT t items[i] envi with
      | none => simp only [b1, M.R.ofO, M.R.bind] at hloop; exact hloop.elim
      | some envb =>
        simp only [b1, M.R.ofO, M.R.bind] at hloop
        refine bindT_ok R' rp b1 fun σ2 S1 R2 _ => ⟨T, envb, R2, ?_⟩
        have Sb := (Si.trans S').trans S1
        refine loop_end (D := D) rfl hown S Sb ?_ ?_
        · intro env' e σ' H'' s r
          rw [e] at hloop
          refine ⟨hlt, env', r, Sb.trans s, hloop, ?_, ?_⟩
          · refine rd_same rdi fun j hj d k e => ?_
            rw [wsE] at hj
            obtain ⟨d1, e1⟩ := ln0 j hj
            obtain ⟨d2, e2', _, _⟩ := Si.fix j d1 .ln (.inr rfl) e1
            obtain ⟨d3, e3', _, l3⟩ := ((S'.trans S1).trans s).fix j d2 .ln (.inr rfl) e2'
            rw [e2'] at e
            cases e
            have := l3 rfl
            subst this
            exact ⟨.ln, e3'⟩
          · refine HoldL.tr (((S'.trans S1).trans s).tr (T := T) (T' := T) fun _ z => .inl z) hli fun j hj => ?_
            rw [wsE] at hj
            obtain ⟨d1, e1⟩ := ln0 j hj
            obtain ⟨d2, e2', _, _⟩ := Si.fix j d1 .ln (.inr rfl) e1
            obtain ⟨d3, _, s3, _⟩ := ((S'.trans S1).trans s).fix j d2 .ln (.inr rfl) e2'
            exact s3
        · cases e : evSs C G body envb with
          | ok q =>
            cases q with
            | nx env' => exact .inl ⟨env', rfl⟩
            | rt d fr env' => rw [e] at hloop; exact .inr hloop
          | exc x => rw [e] at hloop; exact .inr hloop
          | stuck => rw [e] at hloop; exact .inr hloop
    · have hi' : i = items.length := by omega
      subst hi'
      refine .inl ⟨wk.stop _ Hi _ hrbi (Nat.le_refl _), ?_⟩
      rw [List.drop_length] at hloop
      simp only [forLoop, unlR, unlend] at hloop
      obtain ⟨S3, R3, o3⟩ := unlend_ok hown Si Ri
      exact hloop σi Hi (S.trans S3) R3
theorem wh_read (h : tS C G W Z (.whl mc body) D σ H) : tWhile (tT C G W Z mc) (tSs C G W Z body) D σ H := by
  obtain ⟨T, env, rl, h⟩ := h
  simp only [evS] at h
  refine ⟨fun n σi Hi => ∃ envi, Rel W T envi σi Hi ∧ Step env σ H envi σi Hi ∧ PostS W Z T env σ H (whLoop (fun env => evT C G mc env) (fun env => evSs C G body env) n envi) D, ⟨FUEL, env, rl, .refl, h⟩, ?_⟩
  rintro n σi Hi ⟨envi, Ri, Si, hl⟩
  cases n with
  | zero => exact hl.elim
  | succ n =>
    simp only [whLoop] at hl
    refine ⟨T, envi, Ri, ?_⟩
    cases e : evT C G mc envi with
    | stuck => rw [e] at hl; exact hl
    | exc x =>
      rw [e] at hl
      have hl : PostXS W Z T env σ H x := hl
      exact PostXS.x (PostXS.pre Si hl)
    | ok p =>
      obtain ⟨b, env1⟩ := p
      rw [e] at hl
      intro H1 S1 R1
      cases b with
      | false =>
        rw [if_neg (fun z => by cases z)]
        exact hl σi H1 (Si.trans S1) R1
      | true =>
        rw [if_pos rfl]
        refine ⟨fun σ' H' => ∃ envi, Rel W T envi σ' H' ∧ Step env σ H envi σ' H' ∧ PostS W Z T env σ H (whLoop (fun env => evT C G mc env) (fun env => evSs C G body env) n envi) D, fun σ' H' q => ⟨n, Nat.lt_succ_self _, q⟩, T, env1, R1, ?_⟩
        have SS := Si.trans S1
        cases e2 : evSs C G body env1 with
        | stuck => simp only [e2] at hl; exact hl
        | exc x => simp only [e2] at hl; exact PostXS.pre SS hl
        | ok q =>
          cases q with
          | nx env2 =>
            simp only [e2] at hl
            intro σ' H' s r
            exact ⟨env2, r, SS.trans s, hl⟩
          | rt d fr env2 =>
            simp only [e2] at hl
            exact fun v σ' H' s r k => hl v σ' H' (SS.trans s) r (k.pre SS)
end
section
variable {nm : Nm} {C : CallT} {G : List PyData} {W : Wd} {k : Nat} {Z : L2.WX} {X : Cx} {e : Expr} {p pos : Pos} {m : ME}
theorem sm_for (g : Gd nm C G W k Z X) {tg iter : Expr} {bs : List Stmt} {t : MT} {kk : IK} {src : List ME} {mbs : List MS} (hi : PI X tg iter (iM C G W Z kk src)) (hg : PG X tg (gOf W.K t)) (hb : PSs X bs (tSs C G W Z mbs)) (hs : ∀ x, foldedSetIterable iter X.env x = pure x) : PS X (.For tg iter bs [] pos) (tS C G W Z (.forr t kk src mbs)) :=
  ps_imp (ps_for g.po g.calm hi hg hb hs) fun D σ H h => for_read h
theorem sm_while (g : Gd nm C G W k Z X) {c : Expr} {bs : List Stmt} {mc : ME} {mbs : List MS} (hc : PT X c (tT C G W Z mc)) (hb : PSs X bs (tSs C G W Z mbs)) : PS X (.While c bs [] pos) (tS C G W Z (.whl mc mbs)) :=
  ps_imp (ps_while g.po hc hb) fun D σ H h => wh_read h
theorem sm_setLc (g : Gd nm C G W k Z X) {i : Nat} {y : Str} {py lp : Pos} {elt tg iter : Expr} {ifs : List Expr} {scope : Scope} (hy : X.N[i]? = some y) (hyl : X.env.scope.names.lookup y = some .local)
    (hsw : swapsWith (.ListComp elt [⟨tg, iter, ifs, 0⟩] scope lp) (some (.Name y py)) pos.line X.env = pure true) {n : Nat} (h : cE nm X.N (n + 1) X.env.scope (.ListComp elt [⟨tg, iter, ifs, 0⟩] scope lp) = some m) : PS X (.Assign [.Name y py] (.ListComp elt [⟨tg, iter, ifs, 0⟩] scope lp) pos) (tS C G W Z (.set i m)) := by
  simp only [cE] at h
  rw [Option.bind_eq_some_iff] at h
  obtain ⟨t, h1, h⟩ := h
  split at h
  · rename_i hb
    rw [Bool.and_eq_true, decide_eq_true_eq] at hb
    obtain ⟨hb1, hb2⟩ := hb
    rw [Option.bind_eq_some_iff] at h
    obtain ⟨ki, h2, h⟩ := h
    rw [Option.bind_eq_some_iff] at h
    obtain ⟨cs, h3, h⟩ := h
    rw [Option.map_eq_some_iff] at h
    obtain ⟨m', h4, h5⟩ := h
    cases h5
    obtain ⟨pi, fs⟩ := cIter_ok g (f := cE nm X.N n X.env.scope) (fun e m he => ⟨(cE_ok n g he).1, cE_star he⟩) h2
    refine ps_imp (ps_setLc (own := ownOf X.N t) (g := gOf W.K t) (tt := tCs C G W Z0 cs) (te := tE C G W Z0 m') g.calm g.nd hy hyl hsw pi (blkOk_by hb1) (fun s H c cl fp => ?_) (fun s H c cl fp => ?_) (fun s H c cl fp => ?_) fs) fun D σ H h => ?_
    · have gb := g.blk s H scope cl c fp
      have := pg_of (X := X.blk s H scope (compEnvC scope cl c X.env) fp) (rs := scope) gb.calm gb.nd stOk_blk n h1
      rw [g.K]
      exact this
    · have gb := g.blk s H scope cl c fp
      refine pts_M hb2 (fun e m he hm => ?_) (mapO_len h3)
      subst he hm
      exact (cE_ok n gb (mapO_get h3 0 e m rfl rfl)).2.1
    · exact (cE_ok n (g.blk s H scope cl c fp) h4).1
    · rw [own_vars (vars_ok h1)]
      exact lc_read (set_read h)
  · cases h
theorem swaps_form {x : Str} {py : Pos} {line : Nat} {env : PySem.Env} : swapsWith e (some (.Name x py)) line env = pure false ∨ (∃ elt gens scope lp, e = .ListComp elt gens scope lp ∧ (swapsWith e (some (.Name x py)) line env = pure true ∧ env.scope.names.lookup x = some .local)) ∨ (∃ elt gens scope lp, e = .SetComp elt gens scope lp) ∨ ∃ a b gens scope lp, e = .DictComp a b gens scope lp := by
  cases e with
  | ListComp elt gens scope lp =>
    cases q : (env.blockKind == .function && env.kindOf x == some .local && py.line == lp.line && !(scope.names.any fun (n, k) => n == x && (k == .local || k == .cell))) with
    | false => exact .inl (congrArg pure q)
    | true =>
      refine .inr (.inl ⟨_, _, _, _, rfl, congrArg pure q, ?_⟩)
      simp only [Bool.and_eq_true, beq_iff_eq] at q
      exact q.1.1.2
  | SetComp elt gens scope lp => exact .inr (.inr (.inl ⟨_, _, _, _, rfl⟩))
  | DictComp a b gens scope lp => exact .inr (.inr (.inr ⟨_, _, _, _, _, rfl⟩))
  | _ => exact .inl rfl
theorem cTg_nm {X : Cx} {n : Nat} {x : Str} {i : Nat} (hS : StOk X.env.scope X) (h : cTg X.N X.env.scope n (.Name x p) = some (.nm i)) : X.N[i]? = some x ∧ Loc X.env.scope x ∧ (X.fn x = true ∨ X.env.scope.names.lookup x = some .local) := by
  cases n with
  | zero => cases h
  | succ n =>
    simp only [cTg] at h
    split at h
    · rename_i q
      rw [Bool.and_eq_true] at q
      rw [Option.map_eq_some_iff] at h
      obtain ⟨j, h1, h2⟩ := h
      cases h2
      exact ⟨ixOf_get h1, hS x q.1⟩
    · cases h
theorem sms_all {f : Stmt → Option MS} (hf : ∀ s m, f s = some m → PS X s (tS C G W Z m)) : ∀ {ss : List Stmt} {ms : List MS}, mapO f ss = some ms → PSs X ss (tSs C G W Z ms)
  | [], ms, h => by cases h; exact sms_nil
  | s :: r, ms, h => by
    obtain ⟨y, zs, h1, h2, rfl⟩ := mapO_cons h
    exact sms_cons (hf s y h1) (sms_all hf h2)
theorem cE_list {X : Cx} {n : Nat} {elt : Expr} {gens : List Comprehension} {scope : Scope} {lp : Pos} (h : cE nm X.N n X.env.scope (.ListComp elt gens scope lp) = some m) : ∃ n' tg iter ifs, n = n' + 1 ∧ gens = [⟨tg, iter, ifs, 0⟩] := by
  cases n with
  | zero => simp [cE] at h
  | succ n =>
    unfold cE at h
    split at h
    all_goals first | contradiction | skip
    all_goals rename_i q
    all_goals first | (cases q; exact ⟨_, _, _, _, rfl, rfl⟩) | cases q
theorem cS_ok (g : Gd nm C G W k Z X) (hS : StOk X.env.scope X) : ∀ (n : Nat) {st : Stmt} {m : MS}, cS nm X.N X.env.scope n st = some m → PS X st (tS C G W Z m)
  | 0, st, m, h => by simp [cS] at h
  | n + 1, st, m, h => by
    have ih : ∀ st m, cS nm X.N X.env.scope n st = some m → PS X st (tS C G W Z m) := fun st m h => cS_ok g hS n h
    have ie : ∀ {e : Expr} {m : ME}, cE nm X.N n X.env.scope e = some m → EOk C G W Z X e m := fun h => cE_ok n g h
    unfold cS at h
    split at h
    · cases h; exact sm_nop1
    · rename_i x p e pos
      rw [Option.bind_eq_some_iff] at h
      obtain ⟨t, h1, h⟩ := h
      split at h
      · rename_i i
        rw [Option.map_eq_some_iff] at h
        obtain ⟨m', h2, h3⟩ := h
        cases h3
        obtain ⟨q1, q2, q3⟩ := cTg_nm hS h1
        rcases swaps_form (e := e) (x := x) (py := p) (line := pos.line) (env := X.env) with z | ⟨elt, gens, scope, lp, rfl, z, y⟩ | ⟨elt, gens, scope, lp, rfl⟩ | ⟨a, b, gens, scope, lp, rfl⟩
        · exact sm_set g.nd q1 q2 q3 (ie h2).1 z
        · obtain ⟨n', tg, iter, ifs, rfl, rfl⟩ := cE_list h2
          exact sm_setLc g q1 y z h2
        · cases n <;> simp [cE] at h2
        · cases n <;> simp [cE] at h2
      · cases h
    · rename_i ts kk p e pos
      split at h
      · cases h
      · rename_i hne
        rw [Option.bind_eq_some_iff] at h
        obtain ⟨t, h1, h⟩ := h
        split at h
        · rename_i ts'
          rw [Option.map_eq_some_iff] at h
          obtain ⟨m', h2, h3⟩ := h
          cases h3
          exact sm_setT g hS h1 (by simpa using hne) (ie h2).1
        · cases h
    · rename_i x p ix p2 e pos
      rw [Option.bind_eq_some_iff] at h
      obtain ⟨a, h1, h⟩ := h
      split at h
      · rename_i i
        rw [Option.bind_eq_some_iff] at h
        obtain ⟨mi, h2, h⟩ := h
        rw [Option.map_eq_some_iff] at h
        obtain ⟨m', h3, h4⟩ := h
        cases h4
        exact sm_setI (fun l u s p3 z => by subst z; cases n <;> simp [cE] at h2) (cE_var h1) (ie h2).1 (ie h3).1
      · cases h
    · rename_i x p mn apos es cpos pos
      split at h
      · rename_i hq
        rw [Bool.and_eq_true] at hq
        rw [Option.bind_eq_some_iff] at h
        obtain ⟨a, h1, h⟩ := h
        split at h
        · rename_i i
          split at h
          · rename_i hx
            subst hx
            split at h
            · rename_i e
              rw [Option.map_eq_some_iff] at h
              obtain ⟨m', h3, h4⟩ := h
              cases h4
              exact sm_extend (cE_var h1) (ie h3).1 (cE_star h3) hq.1
            · cases h
          · rw [Option.bind_eq_some_iff] at h
            obtain ⟨u, h2, h⟩ := h
            rw [Option.map_eq_some_iff] at h
            obtain ⟨ms, h3, h4⟩ := h
            cases h4
            unfold mutO at h2
            split at h2
            · rename_i hx
              cases h2
              obtain ⟨rfl, hl⟩ := hx
              match es, hl, h3 with
              | [e], _, h3 =>
                obtain ⟨y, zs, q1, q2, rfl⟩ := mapO_cons h3
                cases q2
                exact sm_append (cE_var h1) (ie q1).1 (cE_star q1) hq.1 g.K
            · split at h2
              · rename_i hx
                cases h2
                obtain ⟨rfl, hl⟩ := hx
                match es, hl, h3 with
                | [], _, h3 =>
                  cases h3
                  exact sm_clear (cE_var h1) hq.1
              · cases h2
        · cases h
      · cases h
    · cases h; exact sm_nop2
    · rw [Option.map_eq_some_iff] at h
      obtain ⟨m', h2, h3⟩ := h
      cases h3
      exact sm_expr (ie h2).1 rfl
    · rw [Option.map_eq_some_iff] at h
      obtain ⟨m', h2, h3⟩ := h
      cases h3
      exact sm_ret (ie h2).1
    · cases h; exact sm_retN
    · rw [Option.bind_eq_some_iff] at h
      obtain ⟨c', h1, h⟩ := h
      rw [Option.bind_eq_some_iff] at h
      obtain ⟨a', h2, h⟩ := h
      rw [Option.map_eq_some_iff] at h
      obtain ⟨b', h3, h4⟩ := h
      cases h4
      exact sm_if (ie h1).2.1 (sms_all ih h2) (sms_all ih h3)
    · rw [Option.bind_eq_some_iff] at h
      obtain ⟨t, h1, h⟩ := h
      rw [Option.bind_eq_some_iff] at h
      obtain ⟨ki, h2, h⟩ := h
      rw [Option.map_eq_some_iff] at h
      obtain ⟨b', h3, h4⟩ := h
      cases h4
      obtain ⟨pi, fs⟩ := cIter_ok g (f := cE nm X.N n X.env.scope) (fun e m he => ⟨(ie he).1, cE_star he⟩) h2
      have pg := pg_of g.calm g.nd hS n h1
      rw [← g.K] at pg
      exact sm_for g pi pg (sms_all ih h3) fs
    · rw [Option.bind_eq_some_iff] at h
      obtain ⟨c', h1, h⟩ := h
      rw [Option.map_eq_some_iff] at h
      obtain ⟨b', h3, h4⟩ := h
      cases h4
      exact sm_while g (ie h1).2.1 (sms_all ih h3)
    · split at h
      · rename_i hg
        rw [Option.bind_eq_some_iff] at h
        obtain ⟨i, h1, h⟩ := h
        rw [Option.bind_eq_some_iff] at h
        obtain ⟨pr, h2, h⟩ := h
        split at h
        · rename_i hp
          cases h
          obtain ⟨x', b⟩ := pr
          have hx' := ixOf_get h1
          rw [List.getElem?_map, h2] at hx'
          cases hx'
          have hp : b = false := hp
          subst hp
          exact sm_raise g h2 (glB_of hg).1 (glB_of hg).2
        · cases h
      · cases h
    · cases h
end
end M
/-! M: all defs at once. -/
namespace M
open PySem L2 PyProof.Rows
section
variable {W : Wd} {T : Addr → Prop} {env env' : Env} {σ σ' : St} {H H' : Hp}
theorem pad_get {n : Nat} {j : Nat} {x : Slot} : (env ++ List.replicate n none)[j]? = some (some x) ↔ env[j]? = some (some x) := by
  by_cases h : j < env.length
  · rw [List.getElem?_append_left h]
  · rw [List.getElem?_append_right (by omega), List.getElem?_replicate]
    have : env[j]? = none := List.getElem?_eq_none (by omega)
    rw [this]
    split
    · constructor <;> (intro z; cases z)
    · exact Iff.rfl
theorem pad_gets {n : Nat} {j : Nat} {x : V} : (σ ++ List.replicate n none)[j]? = some (some x) ↔ σ[j]? = some (some x) := by
  by_cases h : j < σ.length
  · rw [List.getElem?_append_left h]
  · rw [List.getElem?_append_right (by omega), List.getElem?_replicate]
    have : σ[j]? = none := List.getElem?_eq_none (by omega)
    rw [this]
    split
    · constructor <;> (intro z; cases z)
    · exact Iff.rfl
theorem pad_owns {n m : Nat} {j : Nat} {a : Addr} : Owns (env ++ List.replicate n none) (σ ++ List.replicate m none) j a ↔ Owns env σ j a :=
  ⟨fun ⟨d, k, h1, h2, h3⟩ => ⟨d, k, pad_get.mp h1, h2, pad_gets.mp h3⟩, fun ⟨d, k, h1, h2, h3⟩ => ⟨d, k, pad_get.mpr h1, h2, pad_gets.mpr h3⟩⟩
theorem pad_ownd {n m : Nat} {a : Addr} : Ownd (env ++ List.replicate n none) (σ ++ List.replicate m none) a ↔ Ownd env σ a := ⟨fun ⟨j, h⟩ => ⟨j, pad_owns.mp h⟩, fun ⟨j, h⟩ => ⟨j, pad_owns.mpr h⟩⟩
theorem pad_rel {n : Nat} (R : Rel W T env σ H) : Rel W T (env ++ List.replicate n none) (σ ++ List.replicate n none) H :=
  ⟨by rw [List.length_append, List.length_append, R.len, List.length_replicate, List.length_replicate], fun i d k e => by
    obtain ⟨v, e1, so⟩ := R.slot i d k (pad_get.mp e)
    exact ⟨v, pad_gets.mpr e1, so.less fun a z => z.imp id pad_ownd.mp⟩, fun i j a h1 h2 => R.inj i j a (pad_owns.mp h1) (pad_owns.mp h2), fun a t => ⟨fun z => (R.prot a t).1 (pad_ownd.mp z), (R.prot a t).2⟩⟩
/-- what stands at a by-reference slot at the end -/
theorem rfs_put : ∀ {args : List Arg} {env' : Env} {ds : List PyData}, (∀ (i : Nat) d, (args.map slotOf)[i]? = some (some (d, .rf)) → ∃ d', env'[i]? = some (some (d', .rf))) → rfs (args.map isR) env' = some ds → (∀ (i : Nat) d k, (putA args ds)[i]? = some (some (d, k)) → (k = .sh ∧ (args.map slotOf)[i]? = some (some (d, .sh))) ∨ (k = .rf ∧ env'[i]? = some (some (d, .rf)) ∧ ∃ d', (args.map slotOf)[i]? = some (some (d', .rf)))) ∧ (∀ (i : Nat) d, (args.map slotOf)[i]? = some (some (d, .rf)) → ∃ d', (putA args ds)[i]? = some (some (d', .rf))) ∧ (putA args ds).length = args.length
  | [], env', ds, _, h => ⟨fun i d k e => by simp [putA] at e, fun i d e => by simp at e, rfl⟩
  | .v x :: r, env', ds, hf, h => by
    cases env' with
    | nil => simp [rfs, isR] at h
    | cons y env' =>
      obtain ⟨h1, h2, h3⟩ := rfs_put (args := r) (env' := env') (ds := ds) (fun i d e => hf (i + 1) d e) h
      refine ⟨fun i d k e => ?_, fun i d e => ?_, by simp [putA, h3]⟩
      · cases i with
        | zero => cases e; exact .inl ⟨rfl, rfl⟩
        | succ i => exact h1 i d k e
      · cases i with
        | zero => cases e
        | succ i => exact h2 i d e
  | .r x :: r, env', ds, hf, h => by
    cases env' with
    | nil => simp [rfs, isR] at h
    | cons y env' =>
      obtain ⟨d', e'⟩ := hf 0 x rfl
      cases e'
      have h : (rfs (r.map isR) env').map (d' :: ·) = some ds := h
      rw [Option.map_eq_some_iff] at h
      obtain ⟨ds', hh, rfl⟩ := h
      obtain ⟨h1, h2, h3⟩ := rfs_put (args := r) (env' := env') (ds := ds') (fun i d e => hf (i + 1) d e) hh
      refine ⟨fun i d k e => ?_, fun i d e => ?_, by simp [putA, h3]⟩
      · cases i with
        | zero => cases e; exact .inr ⟨rfl, rfl, x, rfl⟩
        | succ i => exact h1 i d k e
      · cases i with
        | zero => exact ⟨d', rfl⟩
        | succ i => exact h2 i d e
/-- a def's end, seen from its call -/
theorem def_end {args : List Arg} {vs : List V} {n m : Nat} {T2 : Addr → Prop} {ds : List PyData} (hlen : args.length = vs.length) (R : Rel W T (args.map slotOf) (vs.map some) H) (S : Step (args.map slotOf ++ List.replicate n none) (vs.map some ++ List.replicate m none) H env' σ' H') (R' : Rel W T2 env' σ' H') (hT : ∀ a, T2 a → T a ∨ H a = none) (hr : rfs (args.map isR) env' = some ds) :
    Step (args.map slotOf) (vs.map some) H (putA args ds) (vs.map some) H' ∧ Rel W T2 (putA args ds) (vs.map some) H' ∧ (∀ a, Ownd (putA args ds) (vs.map some) a → Ownd env' σ' a) ∧ (∀ a, Ownd (args.map slotOf) (vs.map some) a → Ownd env' σ' a) := by
  have fix : ∀ (i : Nat) d, (args.map slotOf)[i]? = some (some (d, .rf)) → ∃ d', env'[i]? = some (some (d', .rf)) ∧ ∀ v, (vs.map some)[i]? = some (some v) → σ'[i]? = some (some v) := fun i d e => by
    obtain ⟨d', e1, e2, _⟩ := S.fix i d .rf (.inl rfl) (pad_get.mpr e)
    exact ⟨d', e1, fun v ev => by rw [e2]; exact pad_gets.mpr ev⟩
  have kinds : ∀ (i : Nat) d k, (args.map slotOf)[i]? = some (some (d, k)) → k = .sh ∨ k = .rf := fun i d k e => by
    rw [List.getElem?_map, Option.map_eq_some_iff] at e
    obtain ⟨x, _, e⟩ := e
    cases x <;> cases e
    · exact .inl rfl
    · exact .inr rfl
  obtain ⟨p1, p2, p3⟩ := rfs_put (fun i d e => let ⟨d', e', _⟩ := fix i d e; ⟨d', e'⟩) hr
  have own1 : ∀ {j a}, Owns (putA args ds) (vs.map some) j a → Owns env' σ' j a ∧ Owns (args.map slotOf) (vs.map some) j a := fun {j a} ⟨d, k, e1, e2, e3⟩ => by
    rcases p1 j d k e1 with ⟨z, _⟩ | ⟨z, y, d', y'⟩
    · exact absurd z e2
    · subst z
      obtain ⟨_, _, q⟩ := fix j d' y'
      exact ⟨⟨d, .rf, y, e2, q _ e3⟩, ⟨d', .rf, y', e2, e3⟩⟩
  have own2 : ∀ {j a}, Owns (args.map slotOf) (vs.map some) j a → Owns env' σ' j a ∧ Owns (putA args ds) (vs.map some) j a := fun {j a} ⟨d, k, e1, e2, e3⟩ => by
    rcases kinds j d k e1 with z | z
    · exact absurd z e2
    · subst z
      obtain ⟨d', e', q⟩ := fix j d e1
      obtain ⟨d'', e''⟩ := p2 j d e1
      exact ⟨⟨d', .rf, e', e2, q _ e3⟩, ⟨d'', .rf, e'', e2, e3⟩⟩
  have av : ∀ a, Av T2 (putA args ds) (vs.map some) a → Av T2 env' σ' a := fun a z => z.imp id fun ⟨j, y⟩ => ⟨j, (own1 y).1⟩
  have tr : Tr H H' (Av T (args.map slotOf) (vs.map some)) (Av T2 (putA args ds) (vs.map some)) := ⟨fun a o n e => S.keep a o e fun z => n (.inr (pad_ownd.mp z)), fun a n e z => by
    rcases z with z | ⟨j, z⟩
    · rcases hT a z with y | y
      · exact n (.inl y)
      · exact e y
    · exact n (.inr ⟨j, (own1 z).2⟩)⟩
  refine ⟨⟨fun a o e n => S.keep a o e fun z => n (pad_ownd.mp z), fun a ⟨j, z⟩ => .inl ⟨j, (own1 z).2⟩, S.dom, fun i d k hk e => ?_⟩, ⟨by rw [p3, List.length_map]; exact hlen, fun i d k e => ?_, fun i j a h1 h2 => R.inj i j a (own1 h1).2 (own1 h2).2, fun a t => ⟨fun ⟨j, z⟩ => (R'.prot a t).1 ⟨j, (own1 z).1⟩, (R'.prot a t).2⟩⟩, fun a ⟨j, z⟩ => ⟨j, (own1 z).1⟩, fun a ⟨j, z⟩ => ⟨j, (own2 z).1⟩⟩
  · rcases kinds i d k e with z | z
    · subst z; rcases hk with z | z <;> cases z
    · subst z
      obtain ⟨d', e'⟩ := p2 i d e
      exact ⟨d', e', rfl, fun z => by cases z⟩
  · rcases p1 i d k e with ⟨z, y⟩ | ⟨z, y, d', y'⟩
    · subst z
      obtain ⟨v, ev, so⟩ := R.slot i d .sh y
      exact ⟨v, ev, Rep.tr tr (show Rep W H _ d v from so)⟩
    · subst z
      obtain ⟨v, ev, so⟩ := R.slot i d' .rf y'
      obtain ⟨_, _, q⟩ := fix i d' y'
      obtain ⟨v2, ev2, so2⟩ := R'.slot i d .rf y
      rw [q v ev] at ev2
      cases ev2
      exact ⟨v, ev, so2.less av⟩
end
/-- a def of the text -/
def DefAt (K : PySem.W.Frag) (mg : Str → Option Value) (nm : Nm) (F : List MFn) (f : Nat) (x : Str) (refs : List Bool) (fa : Addr) (fd : FuncData) (ps : List Str) : Prop :=
  ∃ params body scope kws N fn n, mg x = some (.ref fa) ∧ FunD K x x params body scope [] kws fa fd ∧ Binds K fd ps [] ∧ FnScope N ps scope ∧ F[f]? = some fn ∧ fn.refs = refs ∧ refs.length = ps.length ∧ fn.nsl = N.length ∧ mapO (cS nm N scope n) body = some fn.body
def DefOk (K : PySem.W.Frag) (mg : Str → Option Value) (nm : Nm) (F : List MFn) (f : Nat) (x : Str) (refs : List Bool) : Prop := ∃ fa fd ps, DefAt K mg nm F f x refs fa fd ps
structure Md (w : World) (K : PySem.W.Frag) (mg : Str → Option Value) (nm : Nm) (F : List MFn) (G : List PyData) (W : Wd) : Prop where
  kk : W.K = K
  dk : ∀ a kvs, W.DK a kvs → ∀ X : Cx, X.K = K → X.w = w → DKp X a kvs
  gls : ∀ (j : Nat) x, nm.gls[j]? = some x → ∃ d u v, G[j]? = some d ∧ mg x = some u ∧ RelV v u ∧ ∀ H A, Rep W H A d v
  cls : ∀ (c : Nat) x, nm.cls[c]? = some (x, false) → mg x = some (.ref (W.ca c)) ∧ PySem.W.excIn K (W.ca c) He.veBase "ValueError.__new__" = true ∧ PySem.W.keepIn K (.ref (W.ca c)) = true ∧ ∀ X : Cx, X.K = K → Raises X (.ref (W.ca c))
  blt : ∀ x ∈ bltNames, mg x = none
  defs : ∀ (f : Nat) x refs, nm.fns[f]? = some (x, refs) → DefOk K mg nm F f x refs
theorem stOk_def {CX : CXT} {P : Program} {w : World} {K : PySem.W.Frag} {mg : Str → Option Value} {base : Heap} {N : List Str} {qual : Str} {scope : Scope} {f : Addr} {cd : Value} {A : Around} {outer : List PySem.Env} {s : Shared} {H : Hp} {E : XK} : StOk scope (cxOf CX P w K mg base N qual scope f cd A outer s H E) := fun x h => by
  refine ⟨?_, .inl rfl⟩
  unfold stB at h
  show Loc scope x
  split at h
  · rename_i q; exact .inl q
  · rename_i q; exact .inr q
  · cases h
theorem fn_at {P : Program} {w : World} {K : PySem.W.Frag} {mg : Str → Option Value} {base : Heap} {nm : Nm} {F : List MFn} {G : List PyData} {W : Wd} (mm : Md w K mg nm F G W) {k f : Nat} {x : Str} {refs : List Bool} {fa : Addr} {fd : FuncData} {ps : List Str} (hd : DefAt K mg nm F f x refs fa fd ps)
    (ih : ∀ (f : Nat) (x : Str) (refs : List Bool), nm.fns[f]? = some (x, refs) → ∃ fa fd ps, mg x = some (.ref fa) ∧ PySem.W.keepIn K (.ref fa) = true ∧ Binds K fd ps [] ∧ FnOk P w K mg base (CX P w) k fa fd ps (spF W (callF F G k) f refs)) :
    FnOk P w K mg base (CX P w) (k + 1) fa fd ps (spF W (callF F G (k + 1)) f refs) := by
  obtain ⟨params, body, scope, kws, N, fn, n, h1, h2, h3, h4, h5, h6, h7, h8, h9⟩ := hd
  refine h2.ok h4 (fun vs H Q E h => ?_) (fun cdv A outer s H vs Q E hr h => ?_)
  · obtain ⟨T, as, e, R, _⟩ := h
    have := R.len
    rw [List.length_map, List.length_map] at this
    rw [← this, ← h7, ← e, List.length_map]
  · have g : Gd nm (callF F G k) G W k (fun cls d _ H => E cls d H) (cxOf (CX P w) P w K mg base N x scope fa cdv A outer s H E) :=
      { calm := rfl, nd := h4.nd, room := hr, K := mm.kk, dk := fun a kvs h => mm.dk a kvs h _ rfl rfl, tk := takes_of rfl rfl rfl rfl, po := passes_of rfl,
        fns := ih, gls := mm.gls, cls := fun c x h => let q := mm.cls c x h; ⟨q.1, q.2.1, q.2.2.1, q.2.2.2 _ rfl⟩, blt := mm.blt }
    refine ⟨tSs (callF F G k) G W (fun cls d _ H => E cls d H) fn.body, sms_all (fun st m h => cS_ok g stOk_def n h) h9, ?_⟩
    obtain ⟨T, args, er, R, h⟩ := h
    have hlen : args.length = vs.length := by
      have := R.len
      rwa [List.length_map, List.length_map] at this
    have hc : callF F G (k + 1) f args = if args.map isR = fn.refs ∧ args.length ≤ fn.nsl then retOf fn.refs (evSs (callF F G k) G fn.body (startE fn.nsl args)) else .stuck := by
      rw [callF, h5]
    rw [hc] at h
    by_cases hq : args.map isR = fn.refs ∧ args.length ≤ fn.nsl
    · rw [if_pos hq] at h
      have est : L2.start N vs = vs.map some ++ List.replicate (fn.nsl - args.length) none := by rw [L2.start, h8, hlen]
      refine ⟨T, startE fn.nsl args, by rw [est]; exact pad_rel R, ?_⟩
      rw [est]
      unfold startE at h ⊢
      rw [← hq.1] at h
      cases e : evSs (callF F G k) G fn.body (args.map slotOf ++ List.replicate (fn.nsl - args.length) none) with
      | stuck => rw [e] at h; exact h
      | exc y =>
        rw [e] at h
        exact fun cls d σ' H' S R' xo => h cls d H' (fun a o e n => S.keep a o e fun z => n (pad_ownd.mp z)) xo
      | ok q =>
        cases q with
        | nx env' =>
          rw [e] at h
          simp only [retOf] at h
          cases e2 : rfs (args.map isR) env' with
          | none => rw [e2] at h; exact h.elim
          | some ds =>
            rw [e2] at h
            intro σ' H' S R'
            obtain ⟨S1, R1, o1, o2⟩ := def_end hlen R S R' (fun a z => .inl z) e2
            exact h .non H' S1 R1 (by show Rep _ _ _ _ _; simp only [Rep])
        | rt d fr env' =>
          rw [e] at h
          simp only [retOf] at h
          cases e2 : rfs (args.map isR) env' with
          | none => rw [e2] at h; exact h.elim
          | some ds =>
            rw [e2] at h
            intro v σ' H' S R' V
            cases fr with
            | false =>
              obtain ⟨S1, R1, o1, o2⟩ := def_end hlen R S R' (fun a z => .inl z) e2
              refine h v H' S1 R1 ?_
              exact Rep.less (show Rep W H' (Av T env' σ') d v from V) fun a z => z.imp id (o1 a)
            | true =>
              obtain ⟨a, rfl, nT, hn, o⟩ := V
              have hHn : H a = none := by
                rcases hn with z | z
                · obtain ⟨j, d', k', q1, q2, q3⟩ := pad_ownd.mp z
                  have : ∃ d'', env'[j]? = some (some (d'', .rf)) ∧ σ'[j]? = (vs.map some ++ List.replicate (fn.nsl - args.length) none)[j]? := by
                    rw [List.getElem?_map, Option.map_eq_some_iff] at q1
                    obtain ⟨y, hy, q1⟩ := q1
                    cases y with
                    | v d0 => cases q1; exact absurd rfl q2
                    | r d0 =>
                      cases q1
                      obtain ⟨d', e1, e2, _⟩ := S.fix j _ .rf (.inl rfl) (pad_get.mpr (by rw [List.getElem?_map, hy]; rfl))
                      exact ⟨d', e1, e2⟩
                  obtain ⟨d'', e1, e2⟩ := this
                  exact absurd ⟨j, d'', .rf, e1, by decide, by rw [e2]; exact pad_gets.mpr q3⟩ (R'.prot a (.inr rfl)).1
                · exact z
              obtain ⟨S1, R1, o1, o2⟩ := def_end hlen R S R' (fun b z => by
                rcases z with z | z
                · exact .inl z
                · cases z; exact .inr hHn) e2
              exact h (.ref a) H' S1 R1 ⟨a, rfl, nT, hHn, o.less fun b z => z.imp (fun y => y.imp id (o1 b)) id⟩
    · rw [if_neg hq] at h
      exact h.elim
theorem fns_ok {P : Program} {w : World} {K : PySem.W.Frag} {mg : Str → Option Value} {base : Heap} {nm : Nm} {F : List MFn} {G : List PyData} {W : Wd} (mm : Md w K mg nm F G W) : ∀ (k f : Nat) (x : Str) (refs : List Bool), nm.fns[f]? = some (x, refs) →
    ∃ fa fd ps, mg x = some (.ref fa) ∧ PySem.W.keepIn K (.ref fa) = true ∧ Binds K fd ps [] ∧ FnOk P w K mg base (CX P w) k fa fd ps (spF W (callF F G k) f refs)
  | 0, f, x, refs, hf => by
    obtain ⟨fa, fd, ps, params, body, scope, kws, N, fn, n, h1, h2, h3, h4, h5, h6, h7, h8, h9⟩ := mm.defs f x refs hf
    refine ⟨fa, fd, ps, h1, h2.kp, h3, ⟨fun vs H Q E h => ?_, fun A outer s H args us vs Q E _ _ _ _ h => ?_⟩⟩
    · obtain ⟨T, as, _, _, h⟩ := h; exact h.elim
    · obtain ⟨T, as, _, _, h⟩ := h; exact h.elim
  | k + 1, f, x, refs, hf => by
    obtain ⟨fa, fd, ps, hd⟩ := mm.defs f x refs hf
    obtain ⟨params, body, scope, kws, N, fn, n, h1, h2, h3, _⟩ := id hd
    exact ⟨fa, fd, ps, h1, h2.kp, h3, fn_at mm hd fun f x refs h => fns_ok mm k f x refs h⟩
end M
/-! M: from a plain equation to a law. -/
namespace M
open PySem PySem.Spec L2 PyProof.Rows
theorem walk_M {l : PySem.W.OpenLaw} {n k : Nat} {q : Program} {loose : List Str} {XP : (Str → Option Value) → Heap → Prop} {YP : World → Heap → Prop} {d : DefRec} {x : Str}
    (hn : l.most = some n) (hn2 : n ≤ sizeLine) (hdf : d.params.defaults = []) (hr : Room k callerA)
    (F : ∀ (w : World) (mg : Str → Option Value) (fa : Addr) (h : Heap), YP w h → h.Ns mainGlobals mg → mg d.name = some (.ref fa) →
      ∃ (K : PySem.W.Frag) (fd : FuncData) (sp : Sp), K.In h ∧ (∀ (s : Shared) (u : Value), BindsTo s fd ⟨[u], []⟩ [(x, u)]) ∧
        (∀ (H : Hp) (a : Addr) (ns : List Int), ns.length ≤ n → SqL K H a (ns.map V.int) → sp [.ref a] H (fun v _ => v = .bl true) fun _ _ _ => False) ∧
        ∀ base : Heap, K.In base → base.Ns mainGlobals mg → FnOk l.prog w K mg base (CX l.prog w) k fa fd [x] sp) :
    PySem.W.WalkO q loose XP YP l.row.toRowW d [] (fun f vs => PySem.call f vs) := by
  refine Att.attach_call hn hdf fun w s₀ s₁ mg mb fa o pm cd doc a vs ns G Y ho hd hcd hmg hobj hints hlen hg => ?_
  obtain ⟨K, fd, sp, KX, hb, hsp, hF⟩ := F w mg fa _ Y G.T.g hmg
  refine law_call KX G.T.g G.T.b G.T.builtins G.T.nolimit hg hobj hints (Nat.le_trans hlen hn2) hr hF hb (fun H hO hS => hsp H a ns hlen hS) fun H e s' hc => ?_
  obtain ⟨_, _, _, _, _, _, _, _, _, _, _, _, z⟩ := hc
  exact z
theorem repAll_ints {W : Wd} {H : Hp} {A : Addr → Prop} : ∀ (ns : List Int), RepAll W H A (ns.map PyData.int) (ns.map V.int)
  | [] => by simp only [List.map_nil, RepAll]
  | n :: r => by
    rw [List.map_cons, List.map_cons]
    simp only [RepAll]
    exact ⟨_, _, rfl, trivial, by simp only [Rep], repAll_ints r⟩
/-- the law's promise at a script -/
theorem sp_law {W : Wd} {C : CallT} {f : Nat} {H : Hp} {a : Addr} {ns : List Int} (hz : ns.length ≤ sizeLine) (hS : SqL W.K H a (ns.map V.int)) (h : C f [.v (.list (ns.map PyData.int))] = .ok ⟨.bool true, false, []⟩) : spF W C f [false] [.ref a] H (fun v _ => v = .bl true) fun _ _ _ => False := by
  have no : ∀ b, ¬ Ownd ([Arg.v (.list (ns.map PyData.int))].map slotOf) ([V.ref a].map some) b := fun b ⟨j, d, k, e1, e2, _⟩ => by
    cases j with
    | zero => cases e1; exact e2 rfl
    | succ j => simp at e1
  refine ⟨fun _ => False, [.v (.list (ns.map PyData.int))], rfl, ⟨rfl, fun i d k e => ?_, fun i j b h1 _ => absurd ⟨i, h1⟩ (no b), fun b z => z.elim⟩, ?_⟩
  · cases i with
    | succ j => simp at e
    | zero =>
      cases e
      refine ⟨.ref a, rfl, ?_⟩
      show Rep W H _ _ _
      simp only [Rep]
      refine ⟨a, ns.map V.int, rfl, ?_, by rw [List.length_map]; exact hz, repAll_ints ns⟩
      rcases hS with z | z
      · exact .inl ⟨fun q => by
          rcases q with q | q
          · exact q
          · exact no a q, z⟩
      · exact .inr z
  · rw [h]
    intro v H' _ _ V
    simpa only [VOk, Rep] using V
/-! ### the module's names -/
def AllD (K : PySem.W.Frag) (mg : Str → Option Value) (nm : Nm) (F : List MFn) : Nat → List (Str × List Bool) → Prop
  | _, [] => True
  | i, p :: l => DefOk K mg nm F i p.1 p.2 ∧ AllD K mg nm F (i + 1) l
theorem AllD.get {K : PySem.W.Frag} {mg : Str → Option Value} {nm : Nm} {F : List MFn} : ∀ {i : Nat} {l : List (Str × List Bool)}, AllD K mg nm F i l → ∀ (j : Nat) x refs, l[j]? = some (x, refs) → DefOk K mg nm F (i + j) x refs
  | i, [], _, j, x, refs, e => by simp at e
  | i, p :: l, h, 0, x, refs, e => by cases e; exact h.1
  | i, p :: l, h, j + 1, x, refs, e => by
    have := AllD.get h.2 j x refs e
    rwa [Nat.add_right_comm, Nat.add_assoc] at this
theorem defAt_of {K : PySem.W.Frag} {mg : Str → Option Value} {nm : Nm} {F : List MFn} {f n : Nat} {x : Str} {refs : List Bool} {ps N : List Str} {fn : MFn} {pa : Arguments} {bd : List Stmt} {sc : Scope} {fd : FuncData} (g : mg x = some (.ref (He.ga K x))) (hF : FunD K x x pa bd sc [] [] (He.ga K x) fd)
    (hb : ∀ (kV doc pm : Value) (an : Option Addr) (cdv ct : Value) (us : List Value), us.length = ps.length → bindArgs (PySem.W.fnOf x x pa bd sc .none kV doc pm an cdv ct) ⟨us, []⟩ = pure (ps.zip us))
    (hs : C8.scC N ps sc = true) (h1 : F[f]? = some fn) (h2 : fn.refs = refs) (h3 : refs.length = ps.length) (h4 : fn.nsl = N.length) (h5 : mapO (cS nm N sc n) bd = some fn.body) : DefAt K mg nm F f x refs (He.ga K x) fd ps := ⟨pa, bd, sc, [], N, fn, n, g, hF, hF.bindsN hb, C8.fnScope_by hs, h1, h2, h3, h4, h5⟩
/-! ### a dict of the top with text keys, numbers as values -/
def kvD (kvs : List (Str × Int)) : List (PyData × PyData) := kvs.map fun p => (.str p.1, .int p.2)
def kvV (kvs : List (Str × Int)) : List (Str × He.Dv) := kvs.map fun p => (p.1, .int p.2)
theorem find_kv : ∀ (kvs : List (Str × Int)) (z : Str), (∃ p, p ∈ kvs ∧ p.1 = z ∧ (kvD kvs).find? (fun p => PyData.eqv p.1 (.str z)) = some (.str p.1, .int p.2)) ∨ ((∀ p ∈ kvs, p.1 ≠ z) ∧ (kvD kvs).find? (fun p => PyData.eqv p.1 (.str z)) = none)
  | [], z => .inr ⟨by simp, rfl⟩
  | p :: r, z => by
    have e : PyData.eqv (.str p.1) (.str z) = (p.1 == z) := by
      simp only [PyData.eqv]
    unfold kvD
    rw [List.map_cons, List.find?_cons]
    dsimp only
    rw [e]
    cases q : p.1 == z with
    | true => exact .inl ⟨p, List.mem_cons_self, beq_iff_eq.mp q, rfl⟩
    | false =>
      rcases find_kv r z with ⟨p', h1, h2, h3⟩ | ⟨h1, h2⟩
      · exact .inl ⟨p', List.mem_cons_of_mem _ h1, h2, h3⟩
      · refine .inr ⟨fun p' hp => ?_, h2⟩
        rcases List.mem_cons.mp hp with y | y
        · subst y; intro y; rw [y] at q; simp at q
        · exact h1 p' y
theorem es_find {P : Params} {z : Str} : ∀ {l : List DictEntry} {ks : List Str}, l.map He.keyOf = He.keysIn P ks → (∀ k ∈ ks, k ≠ z) → l.find? (·.key.isStr z) = none ∧ l.any (·.refKey) = false
  | [], ks, _, _ => ⟨rfl, rfl⟩
  | e :: r, [], h, _ => by cases h
  | e :: r, k :: ks, h, hz => by
    unfold He.keysIn at h
    rw [List.map_cons, List.map_cons] at h
    injection h with h1 h2
    obtain ⟨i1, i2⟩ := es_find (l := r) (ks := ks) h2 fun k hk => hz k (List.mem_cons_of_mem _ hk)
    unfold He.keyOf at h1
    cases q : e.key with
    | str x t =>
      rw [q] at h1
      injection h1 with h1
      injection h1 with h1 _
      subst h1
      have nz : x ≠ z := hz x List.mem_cons_self
      refine ⟨?_, ?_⟩
      · rw [List.find?_cons]
        have : (e.key.isStr z) = false := by
          rw [q, PySem.W.isStr_of]
          simp only [Value.isStrOf]
          simpa using nz
        rw [this]
        exact i1
      · rw [List.any_cons, i2]
        have : e.refKey = false := by unfold DictEntry.refKey; rw [q]
        rw [this]; rfl
    | _ => rw [q] at h1; cases h1
theorem dk_of {K : PySem.W.Frag} {w : World} {a : Addr} {kvs : List (Str × Int)} (h1 : He.dicW K a = some (He.keysIn w.params (kvs.map (·.1)))) (h2 : He.valsB K a (kvV kvs) = true) (X : Cx) (eK : X.K = K) (ew : X.w = w) : DKp X a (kvD kvs) := by
  subst eK ew
  obtain ⟨es, n, kd⟩ := He.dicW_ok h1
  refine ⟨⟨es, n, kd⟩, fun z => ?_⟩
  rcases find_kv kvs z with ⟨p, hp, e, f⟩ | ⟨hn, f⟩
  · obtain ⟨u, h3, h4⟩ := He.valsB_ok h2 (q := (p.1, .int p.2)) (List.mem_map.mpr ⟨p, hp, rfl⟩)
    exact .inl ⟨_, u, p.2, f, by rw [← e]; exact h3, rfl, h4⟩
  · refine .inr ⟨f, ?_⟩
    have hm : es.toList.map He.keyOf = He.keysIn X.w.params (kvs.map (·.1)) := by
      unfold He.dicW at h1
      rw [kd.at_] at h1
      dsimp only at h1
      split at h1
      · exact Option.some.inj h1
      · cases h1
    obtain ⟨i1, i2⟩ := es_find (z := z) hm fun k hk => by
      obtain ⟨p, hp, e⟩ := List.mem_map.mp hk
      rw [← e]; exact hn p hp
    unfold PySem.W.nsIn
    rw [kd.at_]
    dsimp only
    rw [i1, i2]
    rfl
end M
/-! M: the evaluator's equations in an order that simp can follow. -/
namespace M
open PySem L2
section
variable {ε α β : Type}
theorem rbind_ok {a : α} {f : α → R ε β} : M.R.bind (.ok a) f = f a := rfl
theorem rbind_exc {e : ε} {f : α → R ε β} : M.R.bind (.exc e) f = .exc e := rfl
theorem rbind_stuck {f : α → R ε β} : M.R.bind .stuck f = .stuck := rfl
theorem ofO_some {a : α} : (M.R.ofO (some a) : R ε α) = .ok a := rfl
theorem ofO_none : (M.R.ofO none : R ε α) = .stuck := rfl
end
/-- what follows a statement -/
def seqS (r : RE SR) (f : Env → RE SR) : RE SR := match r with
  | .ok (.nx env) => f env
  | .ok (.rt d fr env) => .ok (.rt d fr env)
  | .exc e => .exc e
  | .stuck => .stuck
theorem seqS_nx {env : Env} {f : Env → RE SR} : seqS (.ok (.nx env)) f = f env := rfl
theorem seqS_rt {d : PyData} {fr : Bool} {env : Env} {f : Env → RE SR} : seqS (.ok (.rt d fr env)) f = .ok (.rt d fr env) := rfl
theorem seqS_exc {e : Exn × Env} {f : Env → RE SR} : seqS (.exc e) f = .exc e := rfl
def lcCons (o : Option PyData) (r : RE (List PyData × Env)) : RE (List PyData × Env) := match r with
  | .ok (ds, env2) => .ok (o.toList ++ ds, env2)
  | .exc _ => .stuck
  | .stuck => .stuck
def lcStep (r : RE (Option PyData × Env)) (f : Env → RE (List PyData × Env)) : RE (List PyData × Env) := match r with
  | .ok (o, env1) => lcCons o (f env1)
  | .exc _ => .stuck
  | .stuck => .stuck
def lcNext (f : PyData → Env → RE (Option PyData × Env)) (r : List PyData) (env : Env) : RE (List PyData × Env) := lcLoop f r env
theorem lcNext_E {f : PyData → Env → RE (Option PyData × Env)} {r : List PyData} {env : Env} : lcNext f r env = lcLoop f r env := rfl
theorem lcStep_ok {o : Option PyData} {env : Env} {f : Env → RE (List PyData × Env)} : lcStep (.ok (o, env)) f = lcCons o (f env) := rfl
theorem lcCons_ok {o : Option PyData} {ds : List PyData} {env : Env} : lcCons o (.ok (ds, env)) = .ok (o.toList ++ ds, env) := rfl
theorem lcLoop_nil {f : PyData → Env → RE (Option PyData × Env)} {env : Env} : lcLoop f [] env = .ok ([], env) := rfl
theorem lcLoop_step {f : PyData → Env → RE (Option PyData × Env)} {x : PyData} {r : List PyData} {env : Env} : lcLoop f (x :: r) env = lcStep (f x env) (lcNext f r) := by
  unfold lcStep lcCons lcNext
  simp only [lcLoop] <;> (split <;> rename_i q <;> simp only [q] <;> (split <;> rename_i q2 <;> simp only [q2]))
def foNext (f : PyData → Env → RE SR) (r : List PyData) (env : Env) : RE SR := forLoop f r env
theorem foNext_E {f : PyData → Env → RE SR} {r : List PyData} {env : Env} : foNext f r env = forLoop f r env := rfl
theorem forLoop_nil {f : PyData → Env → RE SR} {env : Env} : forLoop f [] env = .ok (.nx env) := rfl
theorem forLoop_step {f : PyData → Env → RE SR} {x : PyData} {r : List PyData} {env : Env} : forLoop f (x :: r) env = seqS (f x env) (foNext f r) := by
  unfold seqS foNext
  simp only [forLoop] <;> (split <;> rename_i q <;> simp only [q])
section
variable {C : CallT} {G : List PyData} {env : Env} {a b c e : ME} {op op' : Operator} {cp cp' : CmpOp} {es : List ME} {i : Nat} {p : EV × Env}
def ssNext (C : CallT) (G : List PyData) (r : List MS) (env : Env) : RE SR := evSs C G r env
theorem ssNext_E {r : List MS} : ssNext C G r env = evSs C G r env := rfl
theorem evSs_nil : evSs C G [] env = .ok (.nx env) := by simp only [evSs]
theorem evSs_cons {s : MS} {r : List MS} : evSs C G (s :: r) env = seqS (evS C G s env) (ssNext C G r) := by
  unfold seqS ssNext
  simp only [evSs] <;> (split <;> rename_i q <;> simp only [q])
theorem x_var : ev C G (.var i) env = match env[i]? with
    | some (some (d, .sh)) => .ok (.va d false, env)
    | some (some (_, _)) => .ok (.sl i, env)
    | _ => .stuck := by simp only [ev] <;> rfl
theorem x_cst {d : PyData} : ev C G (.cst d) env = .ok (.va d false, env) := by simp only [ev]
theorem x_glo : ev C G (.glo i) env = match G[i]? with
    | some d => .ok (.va d false, env)
    | none => .stuck := by simp only [ev] <;> rfl
def cBin (C : CallT) (G : List PyData) (op : Operator) (b : ME) (p : EV × Env) : RE (EV × Env) := M.R.bind (ev C G b p.2) fun q => M.R.bind (rdv q.2 p.1) fun d => M.R.bind (rdv q.2 q.1) fun e => M.R.bind (M.R.ofO (binD op d e)) fun r => .ok (.va r.1 r.2, q.2)
theorem x_bin : ev C G (.bin op a b) env = M.R.bind (ev C G a env) (cBin C G op b) := by simp only [ev]; rfl
theorem y_bin : cBin C G op b p = M.R.bind (ev C G b p.2) fun q => M.R.bind (rdv q.2 p.1) fun d => M.R.bind (rdv q.2 q.1) fun e => M.R.bind (M.R.ofO (binD op d e)) fun r => .ok (.va r.1 r.2, q.2) := rfl
theorem x_neg : ev C G (.neg a) env = M.R.bind (ev C G a env) fun p => M.R.bind (rdv p.2 p.1) fun d => match d with
    | .int i => .ok (.va (.int (-i)) false, p.2)
    | _ => .stuck := by simp only [ev]; rfl
theorem x_not : ev C G (.not a) env = M.R.bind (ev C G a env) fun p => M.R.bind (truW p.2 p.1) fun k => .ok (.va (.bool (!k)) false, p.2) := by simp only [ev]; rfl
def cAnd2 (C : CallT) (G : List PyData) (b : ME) (p : EV × Env) (k : Bool) : RE (EV × Env) := if k = true then ev C G b p.2 else .ok p
def cAnd (C : CallT) (G : List PyData) (b : ME) (p : EV × Env) : RE (EV × Env) := M.R.bind (truW p.2 p.1) (cAnd2 C G b p)
theorem x_and : ev C G (.and a b) env = M.R.bind (ev C G a env) (cAnd C G b) := by simp only [ev]; rfl
theorem y_and : cAnd C G b p = M.R.bind (truW p.2 p.1) (cAnd2 C G b p) := rfl
theorem z_and {k : Bool} : cAnd2 C G b p k = if k = true then ev C G b p.2 else .ok p := rfl
def cOr2 (C : CallT) (G : List PyData) (b : ME) (p : EV × Env) (k : Bool) : RE (EV × Env) := if k = true then .ok p else ev C G b p.2
def cOr (C : CallT) (G : List PyData) (b : ME) (p : EV × Env) : RE (EV × Env) := M.R.bind (truW p.2 p.1) (cOr2 C G b p)
theorem x_or : ev C G (.or a b) env = M.R.bind (ev C G a env) (cOr C G b) := by simp only [ev]; rfl
theorem y_or : cOr C G b p = M.R.bind (truW p.2 p.1) (cOr2 C G b p) := rfl
theorem z_or {k : Bool} : cOr2 C G b p k = if k = true then .ok p else ev C G b p.2 := rfl
def cCmp (C : CallT) (G : List PyData) (op : CmpOp) (b : ME) (p : EV × Env) : RE (EV × Env) := M.R.bind (ev C G b p.2) fun q => M.R.bind (rdv q.2 p.1) fun d => M.R.bind (rdv q.2 q.1) fun e => M.R.bind (M.R.ofO (cmpD op d e)) fun r => .ok (.va (.bool r) false, q.2)
theorem x_cmp : ev C G (.cmp cp a b) env = M.R.bind (ev C G a env) (cCmp C G cp b) := by simp only [ev]; rfl
theorem y_cmp : cCmp C G cp b p = M.R.bind (ev C G b p.2) fun q => M.R.bind (rdv q.2 p.1) fun d => M.R.bind (rdv q.2 q.1) fun e => M.R.bind (M.R.ofO (cmpD cp d e)) fun r => .ok (.va (.bool r) false, q.2) := rfl
def cChn3 (C : CallT) (G : List PyData) (op : CmpOp) (c : ME) (y : EV) (env : Env) (k : Bool) : RE (EV × Env) := if k = true then M.R.bind (ev C G c env) fun q => M.R.bind (rdv q.2 y) fun e => M.R.bind (rdv q.2 q.1) fun g => M.R.bind (M.R.ofO (cmpD op e g)) fun r => .ok (.va (.bool r) false, q.2) else .ok (.va (.bool false) false, env)
def cChn2 (C : CallT) (G : List PyData) (op op' : CmpOp) (c : ME) (x : EV) (q : EV × Env) : RE (EV × Env) := M.R.bind (rdv q.2 x) fun d => M.R.bind (rdv q.2 q.1) fun e => M.R.bind (M.R.ofO (cmpD op d e)) (cChn3 C G op' c q.1 q.2)
def cChn (C : CallT) (G : List PyData) (op op' : CmpOp) (b c : ME) (p : EV × Env) : RE (EV × Env) := M.R.bind (ev C G b p.2) (cChn2 C G op op' c p.1)
theorem x_chn : ev C G (.chn cp cp' a b c) env = M.R.bind (ev C G a env) (cChn C G cp cp' b c) := by simp only [ev]; rfl
theorem y_chn : cChn C G cp cp' b c p = M.R.bind (ev C G b p.2) (cChn2 C G cp cp' c p.1) := rfl
theorem z_chn {x : EV} : cChn2 C G cp cp' c x p = M.R.bind (rdv p.2 x) fun d => M.R.bind (rdv p.2 p.1) fun e => M.R.bind (M.R.ofO (cmpD cp d e)) (cChn3 C G cp' c p.1 p.2) := rfl
theorem w_chnT {y : EV} : cChn3 C G cp c y env true = M.R.bind (ev C G c env) fun q => M.R.bind (rdv q.2 y) fun e => M.R.bind (rdv q.2 q.1) fun g => M.R.bind (M.R.ofO (cmpD cp e g)) fun r => .ok (.va (.bool r) false, q.2) := rfl
theorem w_chnF {y : EV} : cChn3 C G cp c y env false = .ok (.va (.bool false) false, env) := rfl
def cIfe2 (C : CallT) (G : List PyData) (a b : ME) (env : Env) (k : Bool) : RE (EV × Env) := if k = true then ev C G a env else ev C G b env
def cIfe (C : CallT) (G : List PyData) (a b : ME) (p : EV × Env) : RE (EV × Env) := M.R.bind (truW p.2 p.1) (cIfe2 C G a b p.2)
theorem x_ife : ev C G (.ife c a b) env = M.R.bind (ev C G c env) (cIfe C G a b) := by simp only [ev]; rfl
theorem y_ife : cIfe C G a b p = M.R.bind (truW p.2 p.1) (cIfe2 C G a b p.2) := rfl
theorem z_ife {k : Bool} : cIfe2 C G a b env k = if k = true then ev C G a env else ev C G b env := rfl
theorem x_call {f : Nat} : ev C G (.call f es) env = M.R.bind (evG C G es env) fun p => callAt C f p.1 p.2 := by simp only [ev]; rfl
theorem x_blt {f : Blt} : ev C G (.blt f es) env = M.R.bind (evE C G es env) fun p => M.R.bind (rdAll p.2 p.1) fun ds => M.R.bind (M.R.ofO (bltD f ds)) fun q => .ok (.va q.1 q.2, p.2) := by simp only [ev]; rfl
theorem x_isi {t : Ty} : ev C G (.isi a t) env = M.R.bind (ev C G a env) fun p => M.R.bind (rdv p.2 p.1) fun d => .ok (.va (.bool (isD t d)) false, p.2) := by simp only [ev]; rfl
def cSub (C : CallT) (G : List PyData) (b : ME) (p : EV × Env) : RE (EV × Env) := M.R.bind (ev C G b p.2) fun q => M.R.bind (rdv q.2 p.1) fun d => M.R.bind (rdv q.2 q.1) fun e => M.R.bind (M.R.ofO (subD d e)) fun r => .ok (.va r false, q.2)
theorem x_sub : ev C G (.sub a b) env = M.R.bind (ev C G a env) (cSub C G b) := by simp only [ev]; rfl
theorem y_sub : cSub C G b p = M.R.bind (ev C G b p.2) fun q => M.R.bind (rdv q.2 p.1) fun d => M.R.bind (rdv q.2 q.1) fun e => M.R.bind (M.R.ofO (subD d e)) fun r => .ok (.va r false, q.2) := rfl
def cSlc2 (C : CallT) (G : List PyData) (hi : Option ME) (x : EV) (q : Option Int × Env) : RE (EV × Env) := M.R.bind (evO C G hi q.2) fun r => M.R.bind (rdv r.2 x) fun d => M.R.bind (M.R.ofO (slcD d q.1 r.1)) fun s => .ok (.va s.1 s.2, r.2)
def cSlc (C : CallT) (G : List PyData) (lo hi : Option ME) (p : EV × Env) : RE (EV × Env) := M.R.bind (evO C G lo p.2) (cSlc2 C G hi p.1)
theorem x_slc {lo hi : Option ME} : ev C G (.slc a lo hi) env = M.R.bind (ev C G a env) (cSlc C G lo hi) := by simp only [ev]; rfl
theorem y_slc {lo hi : Option ME} : cSlc C G lo hi p = M.R.bind (evO C G lo p.2) (cSlc2 C G hi p.1) := rfl
theorem z_slc {hi : Option ME} {x : EV} {q : Option Int × Env} : cSlc2 C G hi x q = M.R.bind (evO C G hi q.2) fun r => M.R.bind (rdv r.2 x) fun d => M.R.bind (M.R.ofO (slcD d q.1 r.1)) fun s => .ok (.va s.1 s.2, r.2) := rfl
theorem x_tup : ev C G (.tup es) env = M.R.bind (evA C G es env) fun p => if p.1.length ≤ sizeLine then .ok (.va (.tuple p.1) false, p.2) else .stuck := by simp only [ev]; rfl
theorem x_lst : ev C G (.lst es) env = M.R.bind (evA C G es env) fun p => if p.1.length ≤ sizeLine then .ok (.va (.list p.1) true, p.2) else .stuck := by simp only [ev]; rfl
theorem a_nil : evA C G [] env = .ok ([], env) := by simp only [evA]
def cA2 (C : CallT) (G : List PyData) (es : List ME) (q : PyData × Env) : RE (List PyData × Env) := M.R.bind (evA C G es q.2) fun r => .ok (q.1 :: r.1, r.2)
def cA (C : CallT) (G : List PyData) (es : List ME) (p : EV × Env) : RE (List PyData × Env) := M.R.bind (fzn p.2 p.1) (cA2 C G es)
theorem a_cons : evA C G (e :: es) env = M.R.bind (ev C G e env) (cA C G es) := by simp only [evA]; rfl
theorem a_cons1 : cA C G es p = M.R.bind (fzn p.2 p.1) (cA2 C G es) := rfl
theorem a_cons2 {q : PyData × Env} : cA2 C G es q = M.R.bind (evA C G es q.2) fun r => .ok (q.1 :: r.1, r.2) := rfl
theorem e_nil : evE C G [] env = .ok ([], env) := by simp only [evE]
def cE1 (C : CallT) (G : List PyData) (es : List ME) (p : EV × Env) : RE (List EV × Env) := M.R.bind (evE C G es p.2) fun r => .ok (p.1 :: r.1, r.2)
theorem e_cons : evE C G (e :: es) env = M.R.bind (ev C G e env) (cE1 C G es) := by simp only [evE]; rfl
theorem e_cons1 : cE1 C G es p = M.R.bind (evE C G es p.2) fun r => .ok (p.1 :: r.1, r.2) := rfl
theorem g_nil : evG C G [] env = .ok ([], env) := by simp only [evG]
theorem g_ref : evG C G (.ref i :: es) env = if ownS env[i]? = true then M.R.bind (evG C G es env) fun p => .ok (.inl i :: p.1, p.2) else .stuck := by simp only [evG]; rfl
def cG2 (C : CallT) (G : List PyData) (es : List ME) (q : PyData × Env) : RE (List (Sum Nat PyData) × Env) := M.R.bind (evG C G es q.2) fun r => .ok (.inr q.1 :: r.1, r.2)
def cG (C : CallT) (G : List PyData) (es : List ME) (p : EV × Env) : RE (List (Sum Nat PyData) × Env) := M.R.bind (fzv p.2 p.1) (cG2 C G es)
theorem g_cons (h : isRefM e = false) : evG C G (e :: es) env = M.R.bind (ev C G e env) (cG C G es) := by
  cases e <;> first | (simp only [evG]; rfl) | cases h
theorem g_c0 {i : Nat} : evG C G (.var i :: es) env = M.R.bind (ev C G (.var i) env) (cG C G es) := g_cons rfl
theorem g_c1 {d : PyData} : evG C G (.cst d :: es) env = M.R.bind (ev C G (.cst d) env) (cG C G es) := g_cons rfl
theorem g_c2 {i : Nat} : evG C G (.glo i :: es) env = M.R.bind (ev C G (.glo i) env) (cG C G es) := g_cons rfl
theorem g_c3 {op : Operator} {a b : ME} : evG C G (.bin op a b :: es) env = M.R.bind (ev C G (.bin op a b) env) (cG C G es) := g_cons rfl
theorem g_c4 {a : ME} : evG C G (.neg a :: es) env = M.R.bind (ev C G (.neg a) env) (cG C G es) := g_cons rfl
theorem g_c5 {a : ME} : evG C G (.not a :: es) env = M.R.bind (ev C G (.not a) env) (cG C G es) := g_cons rfl
theorem g_c6 {a b : ME} : evG C G (.and a b :: es) env = M.R.bind (ev C G (.and a b) env) (cG C G es) := g_cons rfl
theorem g_c7 {a b : ME} : evG C G (.or a b :: es) env = M.R.bind (ev C G (.or a b) env) (cG C G es) := g_cons rfl
theorem g_c8 {op : CmpOp} {a b : ME} : evG C G (.cmp op a b :: es) env = M.R.bind (ev C G (.cmp op a b) env) (cG C G es) := g_cons rfl
theorem g_c9 {op op' : CmpOp} {a b c : ME} : evG C G (.chn op op' a b c :: es) env = M.R.bind (ev C G (.chn op op' a b c) env) (cG C G es) := g_cons rfl
theorem g_c10 {a b c : ME} : evG C G (.ife a b c :: es) env = M.R.bind (ev C G (.ife a b c) env) (cG C G es) := g_cons rfl
theorem g_c11 {f : Nat} {fs : List ME} : evG C G (.call f fs :: es) env = M.R.bind (ev C G (.call f fs) env) (cG C G es) := g_cons rfl
theorem g_c12 {f : Blt} {fs : List ME} : evG C G (.blt f fs :: es) env = M.R.bind (ev C G (.blt f fs) env) (cG C G es) := g_cons rfl
theorem g_c13 {a : ME} {t : Ty} : evG C G (.isi a t :: es) env = M.R.bind (ev C G (.isi a t) env) (cG C G es) := g_cons rfl
theorem g_c14 {a b : ME} : evG C G (.sub a b :: es) env = M.R.bind (ev C G (.sub a b) env) (cG C G es) := g_cons rfl
theorem g_c15 {a : ME} {lo hi : Option ME} : evG C G (.slc a lo hi :: es) env = M.R.bind (ev C G (.slc a lo hi) env) (cG C G es) := g_cons rfl
theorem g_c16 {fs : List ME} : evG C G (.tup fs :: es) env = M.R.bind (ev C G (.tup fs) env) (cG C G es) := g_cons rfl
theorem g_c17 {fs : List ME} : evG C G (.lst fs :: es) env = M.R.bind (ev C G (.lst fs) env) (cG C G es) := g_cons rfl
theorem g_c18 {t : MT} {kk : IK} {src cs : List ME} {m : ME} : evG C G (.lc t kk src cs m :: es) env = M.R.bind (ev C G (.lc t kk src cs m) env) (cG C G es) := g_cons rfl
theorem g_cons1 : cG C G es p = M.R.bind (fzv p.2 p.1) (cG2 C G es) := rfl
theorem g_cons2 {q : PyData × Env} : cG2 C G es q = M.R.bind (evG C G es q.2) fun r => .ok (.inr q.1 :: r.1, r.2) := rfl
theorem o_none : evO C G none env = .ok (none, env) := by simp only [evO]
theorem o_some : evO C G (some e) env = M.R.bind (ev C G e env) fun p => M.R.bind (rdv p.2 p.1) fun d => match d with
    | .int i => .ok (some i, p.2)
    | _ => .stuck := by simp only [evO]; rfl
theorem c_nil : evC C G [] env = .ok (true, env) := by simp only [evC]
def cC2 (C : CallT) (G : List PyData) (es : List ME) (env : Env) (k : Bool) : RE (Bool × Env) := if k = true then evC C G es env else .ok (false, env)
def cC (C : CallT) (G : List PyData) (es : List ME) (p : EV × Env) : RE (Bool × Env) := M.R.bind (truW p.2 p.1) (cC2 C G es p.2)
theorem c_cons : evC C G (e :: es) env = M.R.bind (ev C G e env) (cC C G es) := by simp only [evC]; rfl
theorem c_cons1 : cC C G es p = M.R.bind (truW p.2 p.1) (cC2 C G es p.2) := rfl
theorem c_cons2 {k : Bool} : cC2 C G es env k = if k = true then evC C G es env else .ok (false, env) := rfl
theorem t_E : evT C G e env = M.R.bind (ev C G e env) fun p => M.R.bind (truW p.2 p.1) fun k => .ok (k, p.2) := rfl
theorem truW_E {w : EV} : truW env w = M.R.bind (rdv env w) fun d => M.R.ofO (truD d) := rfl
theorem rdAll_nil : rdAll env [] = .ok [] := by simp only [rdAll]
theorem rdAll_cons {w : EV} {ws : List EV} : rdAll env (w :: ws) = M.R.bind (rdv env w) fun d => M.R.bind (rdAll env ws) fun ds => .ok (d :: ds) := by simp only [rdAll]; rfl
/-- how a comprehension ends -/
def lcEnd (env1 : Env) (L vs : List Nat) (r : RE (List PyData × Env)) : RE (EV × Env) := match r with
  | .ok q => .ok (.va (.list q.1) true, backE env1 (backE (lendE env1 L) q.2 vs) L)
  | .exc _ => .stuck
  | .stuck => .stuck
theorem lcEnd_ok {env1 : Env} {L vs : List Nat} {q : List PyData × Env} : lcEnd env1 L vs (.ok q) = .ok (.va (.list q.1) true, backE env1 (backE (lendE env1 L) q.2 vs) L) := rfl
def cTurn3 (t : MT) (q : PyData × Env) : RE (Option PyData × Env) := .ok (some q.1, wipeE q.2 t.vars)
def cTurn2 (C : CallT) (G : List PyData) (t : MT) (m : ME) (p : Bool × Env) : RE (Option PyData × Env) := if p.1 = true then M.R.bind (ev C G m p.2) fun q => M.R.bind (fzn q.2 q.1) (cTurn3 t) else .ok (none, wipeE p.2 t.vars)
def cTurn (C : CallT) (G : List PyData) (t : MT) (cs : List ME) (m : ME) (env : Env) : RE (Option PyData × Env) := M.R.bind (evC C G cs env) (cTurn2 C G t m)
theorem turn_E {t : MT} {cs : List ME} {m : ME} {x : PyData} : lcTurn C G t cs m x env = M.R.bind (M.R.ofO (bindT t x env)) (cTurn C G t cs m) := rfl
theorem turn_E1 {t : MT} {cs : List ME} {m : ME} : cTurn C G t cs m env = M.R.bind (evC C G cs env) (cTurn2 C G t m) := rfl
theorem turn_E2 {t : MT} {m : ME} {p : Bool × Env} : cTurn2 C G t m p = if p.1 = true then M.R.bind (ev C G m p.2) fun q => M.R.bind (fzn q.2 q.1) (cTurn3 t) else .ok (none, wipeE p.2 t.vars) := rfl
theorem turn_E3 {t : MT} {q : PyData × Env} : cTurn3 t q = .ok (some q.1, wipeE q.2 t.vars) := rfl
def cLc2 (C : CallT) (G : List PyData) (t : MT) (cs : List ME) (m : ME) (p : List EV × Env) (items : List PyData) : RE (EV × Env) :=
    if (lent p.2 p.1).any (fun i => t.vars.contains i) = true then .stuck else
    lcEnd p.2 (lent p.2 p.1) t.vars (lcLoop (lcTurn C G t cs m) items (wipeE (lendE p.2 (lent p.2 p.1)) t.vars))
def cLc (C : CallT) (G : List PyData) (t : MT) (kk : IK) (cs : List ME) (m : ME) (p : List EV × Env) : RE (EV × Env) := M.R.bind (rdAll p.2 p.1) fun ds => M.R.bind (M.R.ofO (itemsD kk ds)) (cLc2 C G t cs m p)
theorem x_lc {t : MT} {kk : IK} {src cs : List ME} {m : ME} : ev C G (.lc t kk src cs m) env = M.R.bind (evE C G src env) (cLc C G t kk cs m) := by
  rw [ev_lc]
  rfl
theorem y_lc {t : MT} {kk : IK} {cs : List ME} {m : ME} {p : List EV × Env} : cLc C G t kk cs m p = M.R.bind (rdAll p.2 p.1) fun ds => M.R.bind (M.R.ofO (itemsD kk ds)) (cLc2 C G t cs m p) := rfl
theorem z_lc {t : MT} {cs : List ME} {m : ME} {p : List EV × Env} {items : List PyData} : cLc2 C G t cs m p items = if (lent p.2 p.1).any (fun i => t.vars.contains i) = true then .stuck else
    lcEnd p.2 (lent p.2 p.1) t.vars (lcLoop (lcTurn C G t cs m) items (wipeE (lendE p.2 (lent p.2 p.1)) t.vars)) := rfl
def cFor (C : CallT) (G : List PyData) (t : MT) (kk : IK) (body : List MS) (p : List EV × Env) : RE SR := M.R.bind (rdAll p.2 p.1) fun ds => M.R.bind (M.R.ofO (itemsD kk ds)) fun items =>
    unlR p.2 (lent p.2 p.1) (forLoop (M.forTurn C G t body) items (lendE p.2 (lent p.2 p.1)))
def cFor2 (C : CallT) (G : List PyData) (t : MT) (body : List MS) (p : List EV × Env) (items : List PyData) : RE SR := unlR p.2 (lent p.2 p.1) (forLoop (M.forTurn C G t body) items (lendE p.2 (lent p.2 p.1)))
theorem s_for {t : MT} {kk : IK} {src : List ME} {body : List MS} : evS C G (.forr t kk src body) env = M.R.bind (evE C G src env) (cFor C G t kk body) := evS_for env
theorem s_for1 {t : MT} {kk : IK} {body : List MS} {p : List EV × Env} : cFor C G t kk body p = M.R.bind (rdAll p.2 p.1) fun ds => M.R.bind (M.R.ofO (itemsD kk ds)) (cFor2 C G t body p) := rfl
theorem s_for2 {t : MT} {body : List MS} {p : List EV × Env} {items : List PyData} : cFor2 C G t body p items = unlR p.2 (lent p.2 p.1) (forLoop (M.forTurn C G t body) items (lendE p.2 (lent p.2 p.1))) := rfl
def cBody (C : CallT) (G : List PyData) (body : List MS) (env : Env) : RE SR := evSs C G body env
theorem fturn_E {t : MT} {body : List MS} {x : PyData} : M.forTurn C G t body x env = M.R.bind (M.R.ofO (bindT t x env)) (cBody C G body) := rfl
theorem fturn_E1 {body : List MS} : cBody C G body env = evSs C G body env := rfl
theorem unlR_ok {env1 : Env} {L : List Nat} {r : SR} : unlR env1 L (.ok r) = .ok (unlend env1 L r) := rfl
theorem s_nop : evS C G .nop env = .ok (.nx env) := by simp only [evS]
theorem s_set : evS C G (.set i e) env = M.R.bind (ev C G e env) fun p => match p.1 with
    | .va d fr => (M.R.ofO (setS i d (if fr = true then .ow else .sh) p.2)).bind fun env => .ok (.nx env)
    | .sl j => M.R.bind (fzv p.2 (.sl j)) fun q => (M.R.ofO (setS i q.1 .sh q.2)).bind fun env => .ok (.nx env) := by simp only [evS]; rfl
theorem s_setT {ts : List MT} : evS C G (.setT ts e) env = M.R.bind (ev C G e env) fun p => M.R.bind (fzv p.2 p.1) fun q => (M.R.ofO (bindT (.tp ts) q.1 q.2)).bind fun env => .ok (.nx env) := by simp only [evS]; rfl
def cSetI (C : CallT) (G : List PyData) (i : Nat) (ix : ME) (q : PyData × Env) : RE SR := if ownS q.2[i]? = true then M.R.bind (ev C G ix q.2) fun y => M.R.bind (rdv y.2 y.1) fun k => mutS i y.2 fun c => setD c k q.1 else .stuck
theorem s_setI {ix : ME} : evS C G (.setI i ix e) env = M.R.bind (ev C G e env) fun p => M.R.bind (fzn p.2 p.1) (cSetI C G i ix) := by simp only [evS]; rfl
theorem s_setI1 {ix : ME} {q : PyData × Env} : cSetI C G i ix q = if ownS q.2[i]? = true then M.R.bind (ev C G ix q.2) fun y => M.R.bind (rdv y.2 y.1) fun k => mutS i y.2 fun c => setD c k q.1 else .stuck := rfl
theorem s_mut {m : Mut} : evS C G (.mut i m es) env = if ownS env[i]? = true then M.R.bind (evA C G es env) fun p => mutS i p.2 fun c => mutD m c p.1 else .stuck := by simp only [evS]; rfl
theorem s_ext : evS C G (.ext i e) env = if ownS env[i]? = true then M.R.bind (ev C G e env) fun p => match p.1 with
      | .va (.list ys) true => mutS i p.2 fun c => extD c ys
      | _ => .stuck else .stuck := by simp only [evS]; rfl
theorem s_expr : evS C G (.expr e) env = M.R.bind (ev C G e env) fun p => .ok (.nx p.2) := by simp only [evS]; rfl
theorem s_ret : evS C G (.ret e) env = M.R.bind (ev C G e env) fun p => match p.1 with
    | .va d fr => .ok (.rt d fr p.2)
    | .sl i => match p.2[i]? with
      | some (some (d, .ow)) => .ok (.rt d true (p.2.set i none))
      | _ => .stuck := by simp only [evS]; rfl
theorem s_retN : evS C G .retN env = .ok (.rt .none false env) := by simp only [evS]
def cIte (C : CallT) (G : List PyData) (a b : List MS) (p : Bool × Env) : RE SR := if p.1 = true then evSs C G a p.2 else evSs C G b p.2
theorem s_ite {as bs : List MS} : evS C G (.ite c as bs) env = M.R.bind (evT C G c env) (cIte C G as bs) := by simp only [evS]; rfl
theorem s_ite1 {as bs : List MS} {p : Bool × Env} : cIte C G as bs p = if p.1 = true then evSs C G as p.2 else evSs C G bs p.2 := rfl
theorem s_rais {k : Nat} {ini : Bool} : evS C G (.rais k ini es) env = M.R.bind (evA C G es env) fun p => .exc (⟨k, if ini = true then p.1 else []⟩, p.2) := by simp only [evS]; rfl
/-- a call -/
def callEnd (env : Env) (rs : List Nat) (r : R Exn Ret) : RE (EV × Env) := match r with
  | .ok r => (match putRefs env rs r.rs with
    | some env' => .ok (.va r.d r.fr, env')
    | none => .stuck)
  | .exc x => if rs = [] then .exc (x, env) else .stuck
  | .stuck => .stuck
theorem callEnd_ok {rs : List Nat} {r : Ret} : callEnd env rs (.ok r) = (M.R.ofO (putRefs env rs r.rs)).bind fun env' => .ok (.va r.d r.fr, env') := by
  unfold callEnd
  dsimp only
  cases putRefs env rs r.rs <;> rfl
theorem callEnd_exc {x : Exn} : callEnd env [] (.exc x) = .exc (x, env) := rfl
def cAt (C : CallT) (f : Nat) (rs : List Nat) (env : Env) (args : List Arg) : RE (EV × Env) := callEnd env rs (C f args)
theorem callAt_E {f : Nat} {as : List (Sum Nat PyData)} : callAt C f as env = if (refsOf as).Nodup then M.R.bind (M.R.ofO (argsAt env as)) (cAt C f (refsOf as) env) else .stuck := by
  unfold callAt cAt callEnd
  split
  · cases argsAt env as <;> rfl
  · rfl
theorem callAt_E1 {f : Nat} {rs : List Nat} {args : List Arg} : cAt C f rs env args = callEnd env rs (C f args) := rfl
end
theorem callF_at {F : List MFn} {G : List PyData} {k f : Nat} {fn : MFn} {args : List Arg} (h : F[f]? = some fn) (h1 : args.map isR = fn.refs) (h2 : args.length ≤ fn.nsl) : callF F G (k + 1) f args = retOf fn.refs (evSs (callF F G k) G fn.body (startE fn.nsl args)) := by
  rw [callF, h]
  exact if_pos ⟨h1, h2⟩
theorem toNat_inj : ∀ {a b : List Char}, a.map Char.toNat = b.map Char.toNat → a = b
  | [], [], _ => rfl
  | [], _ :: _, h => by cases h
  | _ :: _, [], h => by cases h
  | x :: r, y :: q, h => by
    rw [List.map_cons, List.map_cons] at h
    injection h with h1 h2
    rw [toNat_inj h2]
    congr 1
    exact Char.ext (UInt32.toNat_inj.mp h1)
theorem ofStr_beq (a b : String) : (Str.ofString a == Str.ofString b) = (a == b) := by
  rw [Bool.eq_iff_iff, beq_iff_eq, beq_iff_eq]
  constructor
  · intro h
    rw [Str.ofString_eq_toList, Str.ofString_eq_toList] at h
    injection h with h
    exact String.toList_inj.mp (toNat_inj (by simpa using h))
  · intro h; rw [h]
theorem mulOk_r {i j : Int} (h : -(2 ^ 64) < j ∧ j < 2 ^ 64) : mulOk i j = true := by
  unfold mulOk
  rw [decide_eq_true_eq]
  exact .inl (.inr h)
theorem mulOk_l {i j : Int} (h : -(2 ^ 64) < i ∧ i < 2 ^ 64) : mulOk i j = true := by
  unfold mulOk
  rw [decide_eq_true_eq]
  exact .inl (.inl h)
theorem nd_int {i : Int} : ndB (.int i) = true := rfl
theorem nd_bool {i : Bool} : ndB (.bool i) = true := rfl
theorem nd_str {i : Str} : ndB (.str i) = true := rfl
theorem nd_none : ndB .none = true := rfl
theorem nd_list {i : List PyData} : ndB (.list i) = true := rfl
theorem nd_tuple {i : List PyData} : ndB (.tuple i) = true := rfl
theorem eqv_int {i j : Int} : PyData.eqv (.int i) (.int j) = (i == j) := by simp only [PyData.eqv]
theorem eqv_str {i j : Str} : PyData.eqv (.str i) (.str j) = (i == j) := by simp only [PyData.eqv]
theorem eqv_bool {i j : Bool} : PyData.eqv (.bool i) (.bool j) = (i == j) := by simp only [PyData.eqv]
theorem eqv_list {i j : List PyData} : PyData.eqv (.list i) (.list j) = PyData.eqvAll i j := by simp only [PyData.eqv]
theorem eqv_tuple {i j : List PyData} : PyData.eqv (.tuple i) (.tuple j) = PyData.eqvAll i j := by simp only [PyData.eqv]
theorem eqva_nil : PyData.eqvAll [] [] = true := by simp only [PyData.eqvAll]
theorem eqva_cons {x y : PyData} {r q : List PyData} : PyData.eqvAll (x :: r) (y :: q) = (PyData.eqv x y && PyData.eqvAll r q) := by simp only [PyData.eqvAll]
theorem eqva_l {x : PyData} {r : List PyData} : PyData.eqvAll (x :: r) [] = false := by simp only [PyData.eqvAll]
theorem eqva_r {x : PyData} {r : List PyData} : PyData.eqvAll [] (x :: r) = false := by simp only [PyData.eqvAll]
theorem dp_int {i : Int} : PyData.depth (.int i) = 0 := by simp only [PyData.depth]
theorem dp_str {i : Str} : PyData.depth (.str i) = 0 := by simp only [PyData.depth]
theorem dp_bool {i : Bool} : PyData.depth (.bool i) = 0 := by simp only [PyData.depth]
theorem dp_list {i : List PyData} : PyData.depth (.list i) = PyData.depthAll i + 1 := by simp only [PyData.depth]
theorem dp_tuple {i : List PyData} : PyData.depth (.tuple i) = PyData.depthAll i + 1 := by simp only [PyData.depth]
theorem dpa_nil : PyData.depthAll [] = 0 := by simp only [PyData.depthAll]
theorem dpa_cons {x : PyData} {r : List PyData} : PyData.depthAll (x :: r) = max (PyData.depth x) (PyData.depthAll r) := by simp only [PyData.depthAll]
mutual
def ndAll : PyData → Prop
  | .dict _ => False
  | .list ds => ndAlls ds
  | .tuple ds => ndAlls ds
  | _ => True
def ndAlls : List PyData → Prop
  | [] => True
  | d :: ds => ndAll d ∧ ndAlls ds
end
mutual
theorem eqv_refl : ∀ (d : PyData), ndAll d → PyData.eqv d d = true
  | .none, _ => by simp only [PyData.eqv]
  | .bool b, _ => by simp only [PyData.eqv, beq_self_eq_true]
  | .int b, _ => by simp only [PyData.eqv, beq_self_eq_true]
  | .str b, _ => by simp only [PyData.eqv, beq_self_eq_true]
  | .list b, h => by simp only [PyData.eqv]; exact eqva_refl b (by simpa only [ndAll] using h)
  | .tuple b, h => by simp only [PyData.eqv]; exact eqva_refl b (by simpa only [ndAll] using h)
  | .dict b, h => by simp only [ndAll] at h
theorem eqva_refl : ∀ (d : List PyData), ndAlls d → PyData.eqvAll d d = true
  | [], _ => by simp only [PyData.eqvAll]
  | x :: r, h => by
    simp only [ndAlls] at h
    simp only [PyData.eqvAll, eqv_refl x h.1, eqva_refl r h.2, Bool.and_self]
end
theorem isd_int_none  : isD .int (.none ) = false := rfl
theorem isd_int_bool {i : Bool} : isD .int (.bool i) = true := rfl
theorem isd_int_int {i : Int} : isD .int (.int i) = true := rfl
theorem isd_int_str {i : Str} : isD .int (.str i) = false := rfl
theorem isd_int_list {i : List PyData} : isD .int (.list i) = false := rfl
theorem isd_int_tuple {i : List PyData} : isD .int (.tuple i) = false := rfl
theorem isd_bool_none  : isD .bool (.none ) = false := rfl
theorem isd_bool_bool {i : Bool} : isD .bool (.bool i) = true := rfl
theorem isd_bool_int {i : Int} : isD .bool (.int i) = false := rfl
theorem isd_bool_str {i : Str} : isD .bool (.str i) = false := rfl
theorem isd_bool_list {i : List PyData} : isD .bool (.list i) = false := rfl
theorem isd_bool_tuple {i : List PyData} : isD .bool (.tuple i) = false := rfl
theorem isd_str_none  : isD .str (.none ) = false := rfl
theorem isd_str_bool {i : Bool} : isD .str (.bool i) = false := rfl
theorem isd_str_int {i : Int} : isD .str (.int i) = false := rfl
theorem isd_str_str {i : Str} : isD .str (.str i) = true := rfl
theorem isd_str_list {i : List PyData} : isD .str (.list i) = false := rfl
theorem isd_str_tuple {i : List PyData} : isD .str (.tuple i) = false := rfl
theorem isd_tuple_none  : isD .tuple (.none ) = false := rfl
theorem isd_tuple_bool {i : Bool} : isD .tuple (.bool i) = false := rfl
theorem isd_tuple_int {i : Int} : isD .tuple (.int i) = false := rfl
theorem isd_tuple_str {i : Str} : isD .tuple (.str i) = false := rfl
theorem isd_tuple_list {i : List PyData} : isD .tuple (.list i) = false := rfl
theorem isd_tuple_tuple {i : List PyData} : isD .tuple (.tuple i) = true := rfl
theorem isd_list_none  : isD .list (.none ) = false := rfl
theorem isd_list_bool {i : Bool} : isD .list (.bool i) = false := rfl
theorem isd_list_int {i : Int} : isD .list (.int i) = false := rfl
theorem isd_list_str {i : Str} : isD .list (.str i) = false := rfl
theorem isd_list_list {i : List PyData} : isD .list (.list i) = true := rfl
theorem isd_list_tuple {i : List PyData} : isD .list (.tuple i) = false := rfl
theorem szl : sizeLine = 16777216 := rfl
theorem fr_none : freeS (some none) = true := rfl
theorem fr_sh {d : PyData} : freeS (some (some (d, .sh))) = true := rfl
theorem fr_ow {d : PyData} : freeS (some (some (d, .ow))) = true := rfl
theorem fr_rf {d : PyData} : freeS (some (some (d, .rf))) = false := rfl
theorem fr_ln {d : PyData} : freeS (some (some (d, .ln))) = false := rfl
end M
/-! printed by tr.py -/
namespace K02
open PySem PySem.Spec L2 PyProof.Rows M
abbrev fi_is_number : Nat := 0
abbrev fi_numbers_fit : Nat := 1
abbrev fi_inner_of : Nat := 2
abbrev fi_deep_of : Nat := 3
abbrev fi_is_formula : Nat := 4
abbrev fi_look_at_formula : Nat := 5
abbrev fi_names_in : Nat := 6
abbrev fi_formula_reads : Nat := 7
abbrev fi_law_mixed : Nat := 8
abbrev fi_law_cell : Nat := 9
abbrev fi_law_take : Nat := 10
abbrev fi_law_formula : Nat := 11
abbrev fi_law_any_names : Nat := 12
abbrev fi_law_found : Nat := 13
abbrev fi_law : Nat := 14
def nm : Nm := ⟨[("is_number", [false]), ("numbers_fit", [false]), ("inner_of", [false]), ("deep_of", [false, false]), ("is_formula", [false]), ("look_at_formula", [false]), ("names_in", [false]), ("formula_reads", [false]), ("_law_mixed", [false, false]), ("_law_cell", [false, false]), ("_law_take", [true, false]), ("_law_formula", [true, false, false]), ("_law_any_names", []), ("_law_found", [false]), ("law", [false])], ["MOST_PARTS", "MOST_DEEP", "WORDS"], [("BookError", false), ("NoFormula", false)]⟩
def N_is_number : List PySem.Str := ["thing"]
def b_is_number : List M.MS :=
  [.ret (.and (.isi (.var 0) .int) (.not (.isi (.var 0) .bool)))]
def f_is_number : MFn := ⟨[false], 1, b_is_number⟩
def N_numbers_fit : List PySem.Str := ["thing", "part"]
def b_numbers_fit : List M.MS :=
  [.ite (.cmp .Eq (.sub (.var 0) (.cst (.int 0))) (.cst (.str "num"))) [.ret (.and (.cmp .Eq (.blt .len [(.var 0)]) (.cst (.int 2))) (.and (.call fi_is_number [(.sub (.var 0) (.cst (.int 1)))]) (.cmp .Lt (.blt .abs [(.sub (.var 0) (.cst (.int 1)))]) (.bin .Pow (.cst (.int 10)) (.cst (.int 6))))))] [],
   .ite (.cmp .Eq (.sub (.var 0) (.cst (.int 0))) (.cst (.str "worth"))) [.ret (.and (.cmp .Eq (.blt .len [(.var 0)]) (.cst (.int 3))) (.blt .all [(.lc (.nm 1) .ex [(.slc (.var 0) (some (.cst (.int 1))) none)] [] (.and (.call fi_is_number [(.var 1)]) (.cmp .GtE (.var 1) (.cst (.int 0)))))]))] [],
   .ite (.cmp .Eq (.sub (.var 0) (.cst (.int 0))) (.cst (.str "times"))) [.ret (.and (.cmp .Eq (.blt .len [(.var 0)]) (.cst (.int 3))) (.and (.call fi_is_number [(.sub (.var 0) (.cst (.int 1)))]) (.cmp .Lt (.blt .abs [(.sub (.var 0) (.cst (.int 1)))]) (.bin .Pow (.cst (.int 10)) (.cst (.int 4))))))] [],
   .ite (.cmp .Eq (.sub (.var 0) (.cst (.int 0))) (.cst (.str "rest"))) [.ret (.and (.cmp .Eq (.blt .len [(.var 0)]) (.cst (.int 3))) (.and (.call fi_is_number [(.sub (.var 0) (.cst (.int 1)))]) (.chn .Lt .Lt (.cst (.int 0)) (.sub (.var 0) (.cst (.int 1))) (.bin .Pow (.cst (.int 10)) (.cst (.int 4))))))] [],
   .ret (.cmp .Eq (.blt .len [(.var 0)]) (.bin .Add (.cst (.int 1)) (.sub (.glo 2) (.sub (.var 0) (.cst (.int 0))))))]
def f_numbers_fit : MFn := ⟨[false], 2, b_numbers_fit⟩
def N_inner_of : List PySem.Str := ["formula", "many"]
def b_inner_of : List M.MS :=
  [.set 1 (.sub (.glo 2) (.sub (.var 0) (.cst (.int 0)))),
   .ret (.slc (.var 0) (some (.bin .Sub (.blt .len [(.var 0)]) (.var 1))) none)]
def f_inner_of : MFn := ⟨[false], 2, b_inner_of⟩
def N_deep_of : List PySem.Str := ["thing", "deep", "part"]
def b_deep_of : List M.MS :=
  [.ite (.or (.cmp .Gt (.var 1) (.glo 1)) (.or (.not (.isi (.var 0) .tuple)) (.or (.cmp .Eq (.blt .len [(.var 0)]) (.cst (.int 0))) (.not (.isi (.sub (.var 0) (.cst (.int 0))) .str))))) [.ret (.bin .Add (.glo 0) (.cst (.int 1)))] [],
   .ite (.or (.cmp .NotIn (.sub (.var 0) (.cst (.int 0))) (.glo 2)) (.not (.call fi_numbers_fit [(.var 0)]))) [.ret (.bin .Add (.glo 0) (.cst (.int 1)))] [],
   .ret (.bin .Add (.cst (.int 1)) (.blt .sum [(.lc (.nm 2) .ex [(.call fi_inner_of [(.var 0)])] [] (.call fi_deep_of [(.var 2), (.bin .Add (.var 1) (.cst (.int 1)))]))]))]
def f_deep_of : MFn := ⟨[false, false], 3, b_deep_of⟩
def N_is_formula : List PySem.Str := ["thing"]
def b_is_formula : List M.MS :=
  [.ret (.cmp .LtE (.call fi_deep_of [(.var 0), (.cst (.int 1))]) (.glo 0))]
def f_is_formula : MFn := ⟨[false], 1, b_is_formula⟩
def N_look_at_formula : List PySem.Str := ["thing"]
def b_look_at_formula : List M.MS :=
  [.ite (.not (.call fi_is_formula [(.var 0)])) [.rais 1 false []] []]
def f_look_at_formula : MFn := ⟨[false], 1, b_look_at_formula⟩
def N_names_in : List PySem.Str := ["formula", "found", "part"]
def b_names_in : List M.MS :=
  [.ite (.cmp .Eq (.sub (.var 0) (.cst (.int 0))) (.cst (.str "worth"))) [.ret (.lst [(.tup [(.sub (.var 0) (.cst (.int 1))), (.sub (.var 0) (.cst (.int 2)))])])] [],
   .set 1 (.lst []),
   .forr (.nm 2) .ex [(.call fi_inner_of [(.var 0)])] [.set 1 (.bin .Add (.var 1) (.call fi_names_in [(.var 2)]))],
   .ret (.var 1)]
def f_names_in : MFn := ⟨[false], 3, b_names_in⟩
def N_formula_reads : List PySem.Str := ["formula"]
def b_formula_reads : List M.MS :=
  [.expr (.call fi_look_at_formula [(.var 0)]),
   .ret (.blt .sset [(.call fi_names_in [(.var 0)])])]
def f_formula_reads : MFn := ⟨[false], 1, b_formula_reads⟩
def N_law_mixed : List PySem.Str := ["_law_cell_here", "_law_k", "_law_number"]
def b_law_mixed : List M.MS :=
  [.set 2 (.bin .Mod (.bin .Add (.bin .Add (.bin .Mult (.bin .Mod (.var 0) (.cst (.int 2147483647))) (.cst (.int 48271))) (.bin .Mult (.var 1) (.cst (.int 69621)))) (.cst (.int 1048583))) (.cst (.int 2147483629))),
   .set 2 (.bin .Mod (.bin .Mult (.var 2) (.var 2)) (.cst (.int 2147483587))),
   .ret (.bin .Mod (.bin .Mult (.var 2) (.bin .Add (.var 2) (.cst (.int 2)))) (.cst (.int 2147483579)))]
def f_law_mixed : MFn := ⟨[false, false], 3, b_law_mixed⟩
def N_law_cell : List PySem.Str := ["_law_script", "_law_k", "_law_cell_here", "_law_found_here", "_law_j"]
def b_law_cell : List M.MS :=
  [.set 2 (.cst (.int 0)),
   .ite (.cmp .Lt (.var 1) (.blt .len [(.var 0)])) [.set 2 (.sub (.var 0) (.var 1))] [],
   .ite (.cmp .GtE (.var 2) (.bin .Pow (.cst (.int 10)) (.cst (.int 18)))) [.ret (.bin .Mod (.bin .Sub (.var 2) (.bin .Pow (.cst (.int 10)) (.cst (.int 18)))) (.bin .Mult (.bin .Mult (.bin .Mult (.bin .Pow (.cst (.int 10)) (.cst (.int 60))) (.bin .Pow (.cst (.int 10)) (.cst (.int 60)))) (.bin .Pow (.cst (.int 10)) (.cst (.int 60)))) (.bin .Pow (.cst (.int 10)) (.cst (.int 60)))))] [],
   .set 3 (.cst (.int 0)),
   .forr (.nm 4) .r1 [(.cst (.int 24))] [.set 3 (.bin .Add (.bin .Mult (.var 3) (.cst (.int 2147483579))) (.call fi_law_mixed [(.var 2), (.bin .Add (.bin .Add (.bin .Mult (.cst (.int 7)) (.var 1)) (.bin .Mult (.cst (.int 100)) (.var 4))) (.bin .Mult (.var 4) (.var 4)))]))],
   .ret (.var 3)]
def f_law_cell : MFn := ⟨[false, false], 5, b_law_cell⟩
def N_law_take : List PySem.Str := ["_law_pile", "_law_size", "_law_digit"]
def b_law_take : List M.MS :=
  [.set 2 (.bin .Mod (.sub (.var 0) (.cst (.int 0))) (.var 1)),
   .setI 0 (.cst (.int 0)) (.bin .FloorDiv (.sub (.var 0) (.cst (.int 0))) (.var 1)),
   .ret (.var 2)]
def f_law_take : MFn := ⟨[true, false], 3, b_law_take⟩
def N_law_formula : List PySem.Str := ["_law_pile", "_law_names", "_law_deep", "_law_way", "_law_word", "_law_inner", "_law_k"]
def b_law_formula : List M.MS :=
  [.set 3 (.call fi_law_take [(.ref 0), (.cst (.int 10))]),
   .ite (.or (.cmp .Eq (.var 2) (.cst (.int 0))) (.cmp .Lt (.var 3) (.cst (.int 3)))) [.ite (.or (.cmp .Eq (.var 1) (.lst [])) (.cmp .Eq (.call fi_law_take [(.ref 0), (.cst (.int 5))]) (.cst (.int 0)))) [.ret (.tup [(.cst (.str "num")), (.bin .Sub (.call fi_law_take [(.ref 0), (.cst (.int 19))]) (.cst (.int 9)))])] [], .ret (.bin .Add (.tup [(.cst (.str "worth"))]) (.sub (.var 1) (.call fi_law_take [(.ref 0), (.blt .len [(.var 1)])])))] [],
   .set 4 (.sub (.lst [(.cst (.str "sum")), (.cst (.str "less")), (.cst (.str "least")), (.cst (.str "greatest")), (.cst (.str "times")), (.cst (.str "rest")), (.cst (.str "pick"))]) (.bin .Sub (.var 3) (.cst (.int 3)))),
   .set 5 (.blt .tup [(.lc (.nm 6) .r1 [(.sub (.lst [(.cst (.int 2)), (.cst (.int 2)), (.cst (.int 2)), (.cst (.int 2)), (.cst (.int 1)), (.cst (.int 1)), (.cst (.int 3))]) (.bin .Sub (.var 3) (.cst (.int 3))))] [] (.call fi_law_formula [(.ref 0), (.var 1), (.bin .Sub (.var 2) (.cst (.int 1)))]))]),
   .ite (.cmp .Eq (.var 4) (.cst (.str "times"))) [.ret (.bin .Add (.tup [(.var 4), (.bin .Sub (.call fi_law_take [(.ref 0), (.cst (.int 7))]) (.cst (.int 3)))]) (.var 5))] [],
   .ite (.cmp .Eq (.var 4) (.cst (.str "rest"))) [.ret (.bin .Add (.tup [(.var 4), (.bin .Add (.cst (.int 1)) (.call fi_law_take [(.ref 0), (.cst (.int 7))]))]) (.var 5))] [],
   .ret (.bin .Add (.tup [(.var 4)]) (.var 5))]
def f_law_formula : MFn := ⟨[true, false, false], 7, b_law_formula⟩
def N_law_any_names : List PySem.Str := []
def b_law_any_names : List M.MS :=
  [.ret (.lst [(.tup [(.cst (.int 0)), (.cst (.int 0))]), (.tup [(.cst (.int 0)), (.cst (.int 1))]), (.tup [(.cst (.int 1)), (.cst (.int 0))]), (.tup [(.cst (.int 2)), (.cst (.int 3))]), (.tup [(.cst (.int 0)), (.bin .Pow (.cst (.int 10)) (.cst (.int 20)))]), (.tup [(.cst (.int 7)), (.cst (.int 2))])])]
def f_law_any_names : MFn := ⟨[], 0, b_law_any_names⟩
def N_law_found : List PySem.Str := ["_law_formula_here", "_law_found_here", "_law_one"]
def b_law_found : List M.MS :=
  [.ite (.cmp .Eq (.sub (.var 0) (.cst (.int 0))) (.cst (.str "worth"))) [.ret (.lst [(.slc (.var 0) (some (.cst (.int 1))) none)])] [],
   .set 1 (.lst []),
   .forr (.nm 2) .ex [(.slc (.var 0) (some (.cst (.int 1))) none)] [.ite (.isi (.var 2) .tuple) [.set 1 (.bin .Add (.var 1) (.call fi_law_found [(.var 2)]))] []],
   .ret (.var 1)]
def f_law_found : MFn := ⟨[false], 3, b_law_found⟩
def N_law : List PySem.Str := ["_law_script", "_law_k", "_law_pile", "_law_formula_here", "_law_due", "_law_found_here", "_law_name"]
def b_law : List M.MS :=
  [.forr (.nm 1) .r1 [(.cst (.int 6))] [.set 2 (.lst [(.call fi_law_cell [(.var 0), (.var 1)])]), .set 3 (.call fi_law_formula [(.ref 2), (.call fi_law_any_names []), (.cst (.int 2))]), .ite (.cmp .Eq (.call fi_law_take [(.ref 2), (.cst (.int 2))]) (.cst (.int 1))) [.set 3 (.tup [(.cst (.str "times")), (.cst (.int 3)), (.var 3)])] [], .set 4 (.blt .sset [(.call fi_law_found [(.var 3)])]), .set 5 (.call fi_formula_reads [(.var 3)]), .ite (.or (.not (.isi (.var 5) .list)) (.cmp .NotEq (.var 5) (.var 4))) [.ret (.cst (.bool false))] [], .forr (.nm 6) .ex [(.var 5)] [.ite (.or (.not (.isi (.var 6) .tuple)) (.or (.isi (.sub (.var 6) (.cst (.int 0))) .bool) (.isi (.sub (.var 6) (.cst (.int 1))) .bool))) [.ret (.cst (.bool false))] []], .mut 5 .clear [], .ite (.cmp .NotEq (.call fi_formula_reads [(.var 3)]) (.var 4)) [.ret (.cst (.bool false))] []],
   .ret (.cst (.bool true))]
def f_law : MFn := ⟨[false], 7, b_law⟩
def F : List MFn := [f_is_number, f_numbers_fit, f_inner_of, f_deep_of, f_is_formula, f_look_at_formula, f_names_in, f_formula_reads, f_law_mixed, f_law_cell, f_law_take, f_law_formula, f_law_any_names, f_law_found, f_law]
def kv_WORDS : List (PySem.Str × Int) := [("sum", 2), ("less", 2), ("least", 2), ("greatest", 2), ("pick", 3), ("times", 1), ("rest", 1), ("num", 0), ("worth", 0)]
def G : List PyData := [(.int 15), (.int 4), (.dict (kvD kv_WORDS))]
abbrev rw0 : PySem.W.OpenLaw := PySem.Challenge.rw_updownworths_k02_names_of_formulas
def top (i : Nat) : Stmt := rw0.prog.main.body.getD i (.Pass ⟨0, 0, 0, 0⟩)
def dd (x : PySem.Str) (i : Nat) : He.DefD := ⟨(x, none), x, x, defArgs (top i), defBody (top i), defScope (top i), [], []⟩
def fn : List He.DefD := [dd "is_number" 7, dd "numbers_fit" 8, dd "inner_of" 9, dd "deep_of" 10, dd "is_formula" 11, dd "look_at_formula" 12, dd "names_in" 13, dd "formula_reads" 14, dd "_law_mixed" 16, dd "_law_cell" 17, dd "_law_take" 18, dd "_law_formula" 19, dd "_law_any_names" 20, dd "_law_found" 21, dd "law" 22]
def fa : List He.Fa := [.glo "is_number", .glo "numbers_fit", .glo "inner_of", .glo "deep_of", .glo "is_formula", .glo "look_at_formula", .glo "names_in", .glo "formula_reads", .glo "_law_mixed", .glo "_law_cell", .glo "_law_take", .glo "_law_formula", .glo "_law_any_names", .glo "_law_found", .glo "law", .free "len", .free "abs", .free "sum", .free "all", .free "any", .free "min", .free "max", .free "list", .free "tuple", .free "isinstance", .free "sorted", .free "set", .free "range", .free "enumerate", .free "zip", .free "int", .free "bool", .free "str", .int "MOST_PARTS" 15, .int "MOST_DEEP" 4, .glo "WORDS", .glo "BookError", .exc "BookError", .glo "NoFormula", .exc "NoFormula"]
def ts : List He.Tab := [(fun K => He.ga K "WORDS", kv_WORDS.map (·.1))]
def ex (K : PySem.W.Frag) : Bool := He.valsB K (He.ga K "WORDS") (kvV kv_WORDS)
abbrev R : PySem.W.OpenRow := PySem.W.OpenLaw.row rw0
abbrev hk : PySem.W.Hook := He.hookX 5 fa fn ts [] ex
def ob (s : PySem.W.SharedT) : He.AlX := He.obsX 5 fa fn ts [] ex (HandSHeadRun.getT s)
theorem ob_eq (s : PySem.W.SharedT) : ob s = hk.obs s.abs := He.obsX_eq (HandSHeadRun.getT_eq s)
def loose : List PySem.Str := ["__name__", "BookError", "NoFormula", "MOST_PARTS", "MOST_DEEP", "WORDS", "is_number", "numbers_fit", "inner_of", "deep_of", "is_formula", "look_at_formula", "names_in", "formula_reads", "_law_mixed", "_law_cell", "_law_take", "_law_formula", "_law_any_names", "_law_found"]
theorem run_f (w : World) : HandSHeadRun.RunEq R (PySem.W.view R.prog [22]) hk ob 20000 loose (w.withFollow "special-get-raises" false) := by
  intro os
  kernel_rfl
theorem run_t (w : World) : HandSHeadRun.RunEq R (PySem.W.view R.prog [22]) hk ob 20000 loose (w.withFollow "special-get-raises" true) := by
  intro os
  kernel_rfl
theorem run (w : World) : HandSHeadRun.RunEq R (PySem.W.view R.prog [22]) hk ob 20000 loose w := PySem.W.byRow2 "special-get-raises" (P := fun w => HandSHeadRun.RunEq R (PySem.W.view R.prog [22]) hk ob 20000 loose w) run_f run_t w
def wd (K : PySem.W.Frag) : Wd := ⟨K, fun a kvs => (a = He.ga K "WORDS" ∧ kvs = kvD kv_WORDS), fun c => if c = 0 then He.ga K "BookError" else if c = 1 then He.ga K "NoFormula" else 0⟩
section
variable {w : World} {K : PySem.W.Frag} {h : Heap} {mg : PySem.Str → Option Value}
theorem d_is_number (X : K.In h) (Gm : h.Ns mainGlobals mg) (c : He.SaysX fa fn ts [] ex w h K) {fd : FuncData} (Fl : FunD K "is_number" "is_number" (defArgs (top 7)) (defBody (top 7)) (defScope (top 7)) [] [] (He.ga K "is_number") fd) : DefAt K mg nm F 0 "is_number" [false] (He.ga K "is_number") fd ["thing"] :=
  defAt_of (fn := f_is_number) (N := N_is_number) (n := 60) (He.glo_ok X Gm (c.t.d.fact 0 (f := .glo "is_number") rfl)) Fl (fun _ _ _ _ _ _ us hl => match us, hl with | [_], _ => rfl) (by decide +kernel) rfl rfl rfl rfl (by kernel_rfl)
theorem d_numbers_fit (X : K.In h) (Gm : h.Ns mainGlobals mg) (c : He.SaysX fa fn ts [] ex w h K) {fd : FuncData} (Fl : FunD K "numbers_fit" "numbers_fit" (defArgs (top 8)) (defBody (top 8)) (defScope (top 8)) [] [] (He.ga K "numbers_fit") fd) : DefAt K mg nm F 1 "numbers_fit" [false] (He.ga K "numbers_fit") fd ["thing"] :=
  defAt_of (fn := f_numbers_fit) (N := N_numbers_fit) (n := 60) (He.glo_ok X Gm (c.t.d.fact 1 (f := .glo "numbers_fit") rfl)) Fl (fun _ _ _ _ _ _ us hl => match us, hl with | [_], _ => rfl) (by decide +kernel) rfl rfl rfl rfl (by kernel_rfl)
theorem d_inner_of (X : K.In h) (Gm : h.Ns mainGlobals mg) (c : He.SaysX fa fn ts [] ex w h K) {fd : FuncData} (Fl : FunD K "inner_of" "inner_of" (defArgs (top 9)) (defBody (top 9)) (defScope (top 9)) [] [] (He.ga K "inner_of") fd) : DefAt K mg nm F 2 "inner_of" [false] (He.ga K "inner_of") fd ["formula"] :=
  defAt_of (fn := f_inner_of) (N := N_inner_of) (n := 60) (He.glo_ok X Gm (c.t.d.fact 2 (f := .glo "inner_of") rfl)) Fl (fun _ _ _ _ _ _ us hl => match us, hl with | [_], _ => rfl) (by decide +kernel) rfl rfl rfl rfl (by kernel_rfl)
theorem d_deep_of (X : K.In h) (Gm : h.Ns mainGlobals mg) (c : He.SaysX fa fn ts [] ex w h K) {fd : FuncData} (Fl : FunD K "deep_of" "deep_of" (defArgs (top 10)) (defBody (top 10)) (defScope (top 10)) [] [] (He.ga K "deep_of") fd) : DefAt K mg nm F 3 "deep_of" [false, false] (He.ga K "deep_of") fd ["thing", "deep"] :=
  defAt_of (fn := f_deep_of) (N := N_deep_of) (n := 60) (He.glo_ok X Gm (c.t.d.fact 3 (f := .glo "deep_of") rfl)) Fl (fun _ _ _ _ _ _ us hl => match us, hl with | [_, _], _ => rfl) (by decide +kernel) rfl rfl rfl rfl (by kernel_rfl)
theorem d_is_formula (X : K.In h) (Gm : h.Ns mainGlobals mg) (c : He.SaysX fa fn ts [] ex w h K) {fd : FuncData} (Fl : FunD K "is_formula" "is_formula" (defArgs (top 11)) (defBody (top 11)) (defScope (top 11)) [] [] (He.ga K "is_formula") fd) : DefAt K mg nm F 4 "is_formula" [false] (He.ga K "is_formula") fd ["thing"] :=
  defAt_of (fn := f_is_formula) (N := N_is_formula) (n := 60) (He.glo_ok X Gm (c.t.d.fact 4 (f := .glo "is_formula") rfl)) Fl (fun _ _ _ _ _ _ us hl => match us, hl with | [_], _ => rfl) (by decide +kernel) rfl rfl rfl rfl (by kernel_rfl)
theorem d_look_at_formula (X : K.In h) (Gm : h.Ns mainGlobals mg) (c : He.SaysX fa fn ts [] ex w h K) {fd : FuncData} (Fl : FunD K "look_at_formula" "look_at_formula" (defArgs (top 12)) (defBody (top 12)) (defScope (top 12)) [] [] (He.ga K "look_at_formula") fd) : DefAt K mg nm F 5 "look_at_formula" [false] (He.ga K "look_at_formula") fd ["thing"] :=
  defAt_of (fn := f_look_at_formula) (N := N_look_at_formula) (n := 60) (He.glo_ok X Gm (c.t.d.fact 5 (f := .glo "look_at_formula") rfl)) Fl (fun _ _ _ _ _ _ us hl => match us, hl with | [_], _ => rfl) (by decide +kernel) rfl rfl rfl rfl (by kernel_rfl)
theorem d_names_in (X : K.In h) (Gm : h.Ns mainGlobals mg) (c : He.SaysX fa fn ts [] ex w h K) {fd : FuncData} (Fl : FunD K "names_in" "names_in" (defArgs (top 13)) (defBody (top 13)) (defScope (top 13)) [] [] (He.ga K "names_in") fd) : DefAt K mg nm F 6 "names_in" [false] (He.ga K "names_in") fd ["formula"] :=
  defAt_of (fn := f_names_in) (N := N_names_in) (n := 60) (He.glo_ok X Gm (c.t.d.fact 6 (f := .glo "names_in") rfl)) Fl (fun _ _ _ _ _ _ us hl => match us, hl with | [_], _ => rfl) (by decide +kernel) rfl rfl rfl rfl (by kernel_rfl)
theorem d_formula_reads (X : K.In h) (Gm : h.Ns mainGlobals mg) (c : He.SaysX fa fn ts [] ex w h K) {fd : FuncData} (Fl : FunD K "formula_reads" "formula_reads" (defArgs (top 14)) (defBody (top 14)) (defScope (top 14)) [] [] (He.ga K "formula_reads") fd) : DefAt K mg nm F 7 "formula_reads" [false] (He.ga K "formula_reads") fd ["formula"] :=
  defAt_of (fn := f_formula_reads) (N := N_formula_reads) (n := 60) (He.glo_ok X Gm (c.t.d.fact 7 (f := .glo "formula_reads") rfl)) Fl (fun _ _ _ _ _ _ us hl => match us, hl with | [_], _ => rfl) (by decide +kernel) rfl rfl rfl rfl (by kernel_rfl)
theorem d_law_mixed (X : K.In h) (Gm : h.Ns mainGlobals mg) (c : He.SaysX fa fn ts [] ex w h K) {fd : FuncData} (Fl : FunD K "_law_mixed" "_law_mixed" (defArgs (top 16)) (defBody (top 16)) (defScope (top 16)) [] [] (He.ga K "_law_mixed") fd) : DefAt K mg nm F 8 "_law_mixed" [false, false] (He.ga K "_law_mixed") fd ["_law_cell_here", "_law_k"] :=
  defAt_of (fn := f_law_mixed) (N := N_law_mixed) (n := 60) (He.glo_ok X Gm (c.t.d.fact 8 (f := .glo "_law_mixed") rfl)) Fl (fun _ _ _ _ _ _ us hl => match us, hl with | [_, _], _ => rfl) (by decide +kernel) rfl rfl rfl rfl (by kernel_rfl)
theorem d_law_cell (X : K.In h) (Gm : h.Ns mainGlobals mg) (c : He.SaysX fa fn ts [] ex w h K) {fd : FuncData} (Fl : FunD K "_law_cell" "_law_cell" (defArgs (top 17)) (defBody (top 17)) (defScope (top 17)) [] [] (He.ga K "_law_cell") fd) : DefAt K mg nm F 9 "_law_cell" [false, false] (He.ga K "_law_cell") fd ["_law_script", "_law_k"] :=
  defAt_of (fn := f_law_cell) (N := N_law_cell) (n := 60) (He.glo_ok X Gm (c.t.d.fact 9 (f := .glo "_law_cell") rfl)) Fl (fun _ _ _ _ _ _ us hl => match us, hl with | [_, _], _ => rfl) (by decide +kernel) rfl rfl rfl rfl (by kernel_rfl)
theorem d_law_take (X : K.In h) (Gm : h.Ns mainGlobals mg) (c : He.SaysX fa fn ts [] ex w h K) {fd : FuncData} (Fl : FunD K "_law_take" "_law_take" (defArgs (top 18)) (defBody (top 18)) (defScope (top 18)) [] [] (He.ga K "_law_take") fd) : DefAt K mg nm F 10 "_law_take" [true, false] (He.ga K "_law_take") fd ["_law_pile", "_law_size"] :=
  defAt_of (fn := f_law_take) (N := N_law_take) (n := 60) (He.glo_ok X Gm (c.t.d.fact 10 (f := .glo "_law_take") rfl)) Fl (fun _ _ _ _ _ _ us hl => match us, hl with | [_, _], _ => rfl) (by decide +kernel) rfl rfl rfl rfl (by kernel_rfl)
theorem d_law_formula (X : K.In h) (Gm : h.Ns mainGlobals mg) (c : He.SaysX fa fn ts [] ex w h K) {fd : FuncData} (Fl : FunD K "_law_formula" "_law_formula" (defArgs (top 19)) (defBody (top 19)) (defScope (top 19)) [] [] (He.ga K "_law_formula") fd) : DefAt K mg nm F 11 "_law_formula" [true, false, false] (He.ga K "_law_formula") fd ["_law_pile", "_law_names", "_law_deep"] :=
  defAt_of (fn := f_law_formula) (N := N_law_formula) (n := 60) (He.glo_ok X Gm (c.t.d.fact 11 (f := .glo "_law_formula") rfl)) Fl (fun _ _ _ _ _ _ us hl => match us, hl with | [_, _, _], _ => rfl) (by decide +kernel) rfl rfl rfl rfl (by kernel_rfl)
theorem d_law_any_names (X : K.In h) (Gm : h.Ns mainGlobals mg) (c : He.SaysX fa fn ts [] ex w h K) {fd : FuncData} (Fl : FunD K "_law_any_names" "_law_any_names" (defArgs (top 20)) (defBody (top 20)) (defScope (top 20)) [] [] (He.ga K "_law_any_names") fd) : DefAt K mg nm F 12 "_law_any_names" [] (He.ga K "_law_any_names") fd [] :=
  defAt_of (fn := f_law_any_names) (N := N_law_any_names) (n := 60) (He.glo_ok X Gm (c.t.d.fact 12 (f := .glo "_law_any_names") rfl)) Fl (fun _ _ _ _ _ _ us hl => match us, hl with | [], _ => rfl) (by decide +kernel) rfl rfl rfl rfl (by kernel_rfl)
theorem d_law_found (X : K.In h) (Gm : h.Ns mainGlobals mg) (c : He.SaysX fa fn ts [] ex w h K) {fd : FuncData} (Fl : FunD K "_law_found" "_law_found" (defArgs (top 21)) (defBody (top 21)) (defScope (top 21)) [] [] (He.ga K "_law_found") fd) : DefAt K mg nm F 13 "_law_found" [false] (He.ga K "_law_found") fd ["_law_formula_here"] :=
  defAt_of (fn := f_law_found) (N := N_law_found) (n := 60) (He.glo_ok X Gm (c.t.d.fact 13 (f := .glo "_law_found") rfl)) Fl (fun _ _ _ _ _ _ us hl => match us, hl with | [_], _ => rfl) (by decide +kernel) rfl rfl rfl rfl (by kernel_rfl)
theorem d_law (X : K.In h) (Gm : h.Ns mainGlobals mg) (c : He.SaysX fa fn ts [] ex w h K) {fd : FuncData} (Fl : FunD K "law" "law" (defArgs (top 22)) (defBody (top 22)) (defScope (top 22)) [] [] (He.ga K "law") fd) : DefAt K mg nm F 14 "law" [false] (He.ga K "law") fd ["_law_script"] :=
  defAt_of (fn := f_law) (N := N_law) (n := 60) (He.glo_ok X Gm (c.t.d.fact 14 (f := .glo "law") rfl)) Fl (fun _ _ _ _ _ _ us hl => match us, hl with | [_], _ => rfl) (by decide +kernel) rfl rfl rfl rfl (by kernel_rfl)
theorem md (X : K.In h) (Gm : h.Ns mainGlobals mg) (c : He.SaysX fa fn ts [] ex w h K) : Md w K mg nm F G (wd K) where
  kk := rfl
  dk := fun a kvs e X eK ew => by
    obtain ⟨rfl, rfl⟩ := e
    refine dk_of ?_ c.more X eK ew
    have e := congrArg (fun z : He.AlT => z.2) c.t
    exact List.head_eq_of_cons_eq e
  gls := fun j x e => by
    match j, e with
    | 0, e => cases e; obtain ⟨t, e⟩ := He.int_ok X Gm (c.t.d.fact 33 (f := .int "MOST_PARTS" 15) rfl); exact ⟨_, _, .int 15, rfl, e, ⟨t, rfl⟩, fun H A => by simp only [Rep]⟩
    | 1, e => cases e; obtain ⟨t, e⟩ := He.int_ok X Gm (c.t.d.fact 34 (f := .int "MOST_DEEP" 4) rfl); exact ⟨_, _, .int 4, rfl, e, ⟨t, rfl⟩, fun H A => by simp only [Rep]⟩
    | 2, e => cases e; exact ⟨_, _, .ref (He.ga K "WORDS"), rfl, He.glo_ok X Gm (c.t.d.fact 35 (f := .glo "WORDS") rfl), rfl, fun H A => by simp only [Rep]; exact ⟨_, rfl, ⟨rfl, rfl⟩⟩⟩
    | j + 3, e => cases e
  cls := fun j x e => by
    match j, e with
    | 0, e => cases e; obtain ⟨e1, e2, e3, e4⟩ := He.exc_ok (c.t.d.fact 37 (f := .exc "BookError") rfl); exact ⟨He.glo_ok X Gm (c.t.d.fact 36 (f := .glo "BookError") rfl), e1, e2, fun X eK => by subst eK; exact raises_own e3 e4⟩
    | 1, e => cases e; obtain ⟨e1, e2, e3, e4⟩ := He.exc_ok (c.t.d.fact 39 (f := .exc "NoFormula") rfl); exact ⟨He.glo_ok X Gm (c.t.d.fact 38 (f := .glo "NoFormula") rfl), e1, e2, fun X eK => by subst eK; exact raises_own e3 e4⟩
    | j + 2, e => cases e
  blt := fun x hx => by
    simp only [bltNames, List.mem_cons, List.not_mem_nil, or_false] at hx
    rcases hx with rfl | rfl | rfl | rfl | rfl | rfl | rfl | rfl | rfl | rfl | rfl | rfl | rfl | rfl | rfl | rfl | rfl | rfl
    · exact He.free_ok X Gm (c.t.d.fact 15 (f := .free "len") rfl)
    · exact He.free_ok X Gm (c.t.d.fact 16 (f := .free "abs") rfl)
    · exact He.free_ok X Gm (c.t.d.fact 17 (f := .free "sum") rfl)
    · exact He.free_ok X Gm (c.t.d.fact 18 (f := .free "all") rfl)
    · exact He.free_ok X Gm (c.t.d.fact 19 (f := .free "any") rfl)
    · exact He.free_ok X Gm (c.t.d.fact 20 (f := .free "min") rfl)
    · exact He.free_ok X Gm (c.t.d.fact 21 (f := .free "max") rfl)
    · exact He.free_ok X Gm (c.t.d.fact 22 (f := .free "list") rfl)
    · exact He.free_ok X Gm (c.t.d.fact 23 (f := .free "tuple") rfl)
    · exact He.free_ok X Gm (c.t.d.fact 24 (f := .free "isinstance") rfl)
    · exact He.free_ok X Gm (c.t.d.fact 25 (f := .free "sorted") rfl)
    · exact He.free_ok X Gm (c.t.d.fact 26 (f := .free "set") rfl)
    · exact He.free_ok X Gm (c.t.d.fact 27 (f := .free "range") rfl)
    · exact He.free_ok X Gm (c.t.d.fact 28 (f := .free "enumerate") rfl)
    · exact He.free_ok X Gm (c.t.d.fact 29 (f := .free "zip") rfl)
    · exact He.free_ok X Gm (c.t.d.fact 30 (f := .free "int") rfl)
    · exact He.free_ok X Gm (c.t.d.fact 31 (f := .free "bool") rfl)
    · exact He.free_ok X Gm (c.t.d.fact 32 (f := .free "str") rfl)
  defs := fun f x refs e => by
    obtain ⟨fd0, F0⟩ := c.t.d.def_ 0 (d := dd "is_number" 7) rfl
    obtain ⟨fd1, F1⟩ := c.t.d.def_ 1 (d := dd "numbers_fit" 8) rfl
    obtain ⟨fd2, F2⟩ := c.t.d.def_ 2 (d := dd "inner_of" 9) rfl
    obtain ⟨fd3, F3⟩ := c.t.d.def_ 3 (d := dd "deep_of" 10) rfl
    obtain ⟨fd4, F4⟩ := c.t.d.def_ 4 (d := dd "is_formula" 11) rfl
    obtain ⟨fd5, F5⟩ := c.t.d.def_ 5 (d := dd "look_at_formula" 12) rfl
    obtain ⟨fd6, F6⟩ := c.t.d.def_ 6 (d := dd "names_in" 13) rfl
    obtain ⟨fd7, F7⟩ := c.t.d.def_ 7 (d := dd "formula_reads" 14) rfl
    obtain ⟨fd8, F8⟩ := c.t.d.def_ 8 (d := dd "_law_mixed" 16) rfl
    obtain ⟨fd9, F9⟩ := c.t.d.def_ 9 (d := dd "_law_cell" 17) rfl
    obtain ⟨fd10, F10⟩ := c.t.d.def_ 10 (d := dd "_law_take" 18) rfl
    obtain ⟨fd11, F11⟩ := c.t.d.def_ 11 (d := dd "_law_formula" 19) rfl
    obtain ⟨fd12, F12⟩ := c.t.d.def_ 12 (d := dd "_law_any_names" 20) rfl
    obtain ⟨fd13, F13⟩ := c.t.d.def_ 13 (d := dd "_law_found" 21) rfl
    obtain ⟨fd14, F14⟩ := c.t.d.def_ 14 (d := dd "law" 22) rfl
    have := AllD.get (K := K) (mg := mg) (nm := nm) (F := F) (i := 0) (l := nm.fns) ⟨⟨_, _, _, d_is_number X Gm c F0⟩, ⟨_, _, _, d_numbers_fit X Gm c F1⟩, ⟨_, _, _, d_inner_of X Gm c F2⟩, ⟨_, _, _, d_deep_of X Gm c F3⟩, ⟨_, _, _, d_is_formula X Gm c F4⟩, ⟨_, _, _, d_look_at_formula X Gm c F5⟩, ⟨_, _, _, d_names_in X Gm c F6⟩, ⟨_, _, _, d_formula_reads X Gm c F7⟩, ⟨_, _, _, d_law_mixed X Gm c F8⟩, ⟨_, _, _, d_law_cell X Gm c F9⟩, ⟨_, _, _, d_law_take X Gm c F10⟩, ⟨_, _, _, d_law_formula X Gm c F11⟩, ⟨_, _, _, d_law_any_names X Gm c F12⟩, ⟨_, _, _, d_law_found X Gm c F13⟩, ⟨_, _, _, d_law X Gm c F14⟩, trivial⟩ f x refs e
    rwa [Nat.zero_add] at this
end
theorem holds {k : Nat} (hk1 : Room (k + 1) callerA) (eq : ∀ ns : List Int, ns.length ≤ 63 → callF F G (k + 1) fi_law [.v (.list (ns.map PyData.int))] = .ok ⟨.bool true, false, []⟩) : rw0.Holds := by
  w_on; o_law
  refine HandSHeadRun.head_any (r := PySem.W.OpenLaw.row rw0) (q := PySem.W.view (PySem.W.OpenLaw.row rw0).prog [22]) (H := hk) (ob := ob) (M := 20000) (loose := loose) (d := HandSHeadRun.topDef (PySem.W.OpenLaw.row rw0).prog 22) (kwd := []) ob_eq
    (by kernel_rfl) (fun s => by kernel_rfl) run (by kernel_rfl) (by kernel_rfl) (by kernel_rfl) (by rfl) (by first | assumption | decide +kernel) (by decide +kernel) ⟨rfl, rfl, rfl, rfl, rfl, by decide +kernel⟩ ?hw ?hc
  case hw => w_witness2
  case hc =>
    refine walk_M (l := rw0) (n := 63) (k := k + 1) (x := "_law_script") rfl (by decide) (by kernel_rfl) hk1 ?F
    intro w mg fa h Y Gm hmg0
    obtain ⟨K, KX, c⟩ := Y
    have hmg : mg ("law" : PySem.Str) = some (.ref fa) := by
      have e : (HandSHeadRun.topDef (PySem.W.OpenLaw.row rw0).prog 22).name = ("law" : PySem.Str) := by kernel_rfl
      rw [← e]
      exact hmg0
    have e := hmg.symm.trans (He.glo_ok KX Gm (c.t.d.fact 14 (f := .glo "law") rfl))
    cases e
    obtain ⟨fd, Fl⟩ := c.t.d.def_ 14 (d := dd "law" 22) rfl
    have b := FunD.bindsA (ps := ["_law_script"]) Fl fun _ _ _ _ _ _ us hl => match us, hl with | [_], _ => rfl
    exact ⟨K, fd, _, KX, fun s u => b s [u] rfl, fun H a ns hl hS => sp_law (W := wd K) (Nat.le_trans hl (by decide)) hS (eq ns hl), fun base _ _ => fn_at (md KX Gm c) (d_law KX Gm c Fl) (fns_ok (md KX Gm c) k)⟩
end K02
namespace K02
open PySem M
theorem e_take (k : Nat) (x n : Int) (h : 0 < n) (h2 : n < 1073741824) : callF F G (k + 1) fi_law_take [.r (.list [.int x]), .v (.int n)] = .ok ⟨.int (x % n), false, [.list [.int (x / n)]]⟩ := by
  rw [callF_at (fn := f_law_take) rfl rfl (Nat.le_of_ble_eq_true rfl)]
  simp [rbind_ok, rbind_exc, rbind_stuck, ofO_some, ofO_none, seqS_nx, seqS_rt, seqS_exc, lcNext_E, lcStep_ok, lcCons_ok, lcLoop_nil, lcLoop_step, foNext_E, forLoop_nil, forLoop_step, ssNext_E, evSs_nil, evSs_cons, x_var, x_cst, x_glo, x_bin, y_bin, x_neg, x_not, x_and, y_and, z_and, x_or, y_or, z_or, x_cmp, y_cmp, x_chn, y_chn, z_chn, w_chnT, w_chnF, x_ife, y_ife, z_ife, x_call, x_blt, x_isi, x_sub, y_sub, x_slc, y_slc, z_slc, x_tup, x_lst, a_nil, a_cons, a_cons1, a_cons2, e_nil, e_cons, e_cons1, g_nil, g_ref, g_c0, g_c1, g_c2, g_c3, g_c4, g_c5, g_c6, g_c7, g_c8, g_c9, g_c10, g_c11, g_c12, g_c13, g_c14, g_c15, g_c16, g_c17, g_c18, g_cons1, g_cons2, o_none, o_some, c_nil, c_cons, c_cons1, c_cons2, t_E, truW_E, rdAll_nil, rdAll_cons, lcEnd_ok, turn_E, turn_E1, turn_E2, turn_E3, x_lc, y_lc, z_lc, s_for, s_for1, s_for2, fturn_E, fturn_E1, unlR_ok, s_nop, s_set, s_setT, s_setI, s_setI1, s_mut, s_ext, s_expr, s_ret, s_retN, s_ite, s_ite1, s_rais, callEnd_ok, callEnd_exc, callAt_E, callAt_E1, retOf, M.rfs, startE, slotOf, isR, refsOf, argsAt, putRefs, fzv, fzn, rdv, setS, fr_none, fr_sh, fr_ow, fr_rf, fr_ln, bindT, bindTs, MT.vars, MT.varsL, mutS, ownS, isd_int_none, isd_int_bool, isd_int_int, isd_int_str, isd_int_list, isd_int_tuple, isd_bool_none, isd_bool_bool, isd_bool_int, isd_bool_str, isd_bool_list, isd_bool_tuple, isd_str_none, isd_str_bool, isd_str_int, isd_str_str, isd_str_list, isd_str_tuple, isd_tuple_none, isd_tuple_bool, isd_tuple_int, isd_tuple_str, isd_tuple_list, isd_tuple_tuple, isd_list_none, isd_list_bool, isd_list_int, isd_list_str, isd_list_list, isd_list_tuple, eqOk, lendE, lend1, backE, wipeE, lent, slots, normW, unlend, L2.atI, L2.ixN, cutD, eqv_int, eqv_str, eqv_bool, eqv_list, eqv_tuple, eqva_nil, eqva_cons, eqva_l, eqva_r, dp_int, dp_str, dp_bool, dp_list, dp_tuple, dpa_nil, dpa_cons, ofStr_beq, intsD, boolsD, nd_int, nd_bool, nd_str, nd_none, nd_list, nd_tuple, szl, M.truD.eq_1, M.truD.eq_2, M.truD.eq_3, M.truD.eq_4, M.truD.eq_5, M.truD.eq_6, M.truD.eq_7, M.setD.eq_1, M.subD.eq_1, M.subD.eq_2, M.subD.eq_3, M.slcD.eq_1, M.slcD.eq_2, M.itemsD.eq_1, M.itemsD.eq_2, M.itemsD.eq_3, M.itemsD.eq_4, M.itemsD.eq_5, M.itemsD.eq_6, M.itemsD.eq_7, M.cmpD.eq_1, M.cmpD.eq_2, M.cmpD.eq_3, M.cmpD.eq_4, M.cmpD.eq_5, M.cmpD.eq_6, M.cmpD.eq_7, M.cmpD.eq_9, M.cmpD.eq_11, M.cmpD.eq_12, M.cmpD.eq_13, M.cmpD.eq_14, M.binD.eq_1, M.binD.eq_2, M.binD.eq_3, M.binD.eq_4, M.binD.eq_5, M.binD.eq_6, M.binD.eq_7, M.binD.eq_8, M.binD.eq_9, M.bltD.eq_1, M.bltD.eq_2, M.bltD.eq_3, M.bltD.eq_4, M.bltD.eq_5, M.bltD.eq_6, M.bltD.eq_7, M.bltD.eq_8, M.bltD.eq_9, M.bltD.eq_10, M.bltD.eq_11, M.bltD.eq_12, M.bltD.eq_13, M.bltD.eq_14, M.mutD.eq_1, M.mutD.eq_2, M.extD.eq_1, HT.sIx.eq_1, HT.sIx.eq_2, f_law_take, b_law_take, h, h2]
inductive Wo where
  | sum | less | least | greatest
def Wo.s : Wo → PySem.Str
  | .sum => "sum"
  | .less => "less"
  | .least => "least"
  | .greatest => "greatest"
inductive Fm where
  | num (n : Int)
  | worth (i j : Int)
  | two (w : Wo) (a b : Fm)
  | times (c : Int) (a : Fm)
  | rest (c : Int) (a : Fm)
  | pick (a b c : Fm)
def enc : Fm → PyData
  | .num n => .tuple [.str "num", .int n]
  | .worth i j => .tuple [.str "worth", .int i, .int j]
  | .two w a b => .tuple [.str w.s, enc a, enc b]
  | .times c a => .tuple [.str "times", .int c, enc a]
  | .rest c a => .tuple [.str "rest", .int c, enc a]
  | .pick a b c => .tuple [.str "pick", enc a, enc b, enc c]
def Fit : Fm → Prop
  | .num n => -1000000 < n ∧ n < 1000000
  | .worth i j => 0 ≤ i ∧ 0 ≤ j
  | .two _ a b => Fit a ∧ Fit b
  | .times c a => (-10000 < c ∧ c < 10000) ∧ Fit a
  | .rest c a => (0 < c ∧ c < 10000) ∧ Fit a
  | .pick a b c => Fit a ∧ Fit b ∧ Fit c
def kids : Fm → List Fm
  | .num _ | .worth _ _ => []
  | .two _ a b => [a, b]
  | .times _ a | .rest _ a => [a]
  | .pick a b c => [a, b, c]
def deep : Fm → Nat
  | .num _ | .worth _ _ => 1
  | .two _ a b => max (deep a) (deep b) + 1
  | .times _ a | .rest _ a => deep a + 1
  | .pick a b c => max (deep a) (max (deep b) (deep c)) + 1
def parts : Fm → Int
  | .num _ | .worth _ _ => 1
  | .two _ a b => 1 + (parts a + parts b)
  | .times _ a | .rest _ a => 1 + parts a
  | .pick a b c => 1 + (parts a + (parts b + parts c))
def names : Fm → List (Int × Int)
  | .num _ => []
  | .worth i j => [(i, j)]
  | .two _ a b => names a ++ names b
  | .times _ a | .rest _ a => names a
  | .pick a b c => names a ++ (names b ++ names c)
def WD : PyData := .dict (kvD kv_WORDS)
theorem gw : G[0]? = some (.int 15) ∧ G[1]? = some (.int 4) ∧ G[2]? = some WD ∧ (subD WD (.str "sum") = some (.int 2) ∧ subD WD (.str "less") = some (.int 2) ∧ subD WD (.str "least") = some (.int 2) ∧ subD WD (.str "greatest") = some (.int 2) ∧ subD WD (.str "pick") = some (.int 3) ∧ subD WD (.str "times") = some (.int 1) ∧ subD WD (.str "rest") = some (.int 1) ∧ subD WD (.str "num") = some (.int 0) ∧ subD WD (.str "worth") = some (.int 0)) ∧
  (cmpD .NotIn (.str "sum") WD = some false ∧ cmpD .NotIn (.str "less") WD = some false ∧ cmpD .NotIn (.str "least") WD = some false ∧ cmpD .NotIn (.str "greatest") WD = some false ∧ cmpD .NotIn (.str "pick") WD = some false ∧ cmpD .NotIn (.str "times") WD = some false ∧ cmpD .NotIn (.str "rest") WD = some false ∧ cmpD .NotIn (.str "num") WD = some false ∧ cmpD .NotIn (.str "worth") WD = some false) := by
  refine ⟨rfl, rfl, rfl, ?_, ?_⟩
  · simp [WD, kvD, kv_WORDS, subD, PyData.eqv, ofStr_beq]
  · simp [WD, kvD, kv_WORDS, cmpD, PyData.eqv, ofStr_beq]
theorem enc_nd (f : Fm) : ndB (enc f) = true := by cases f <;> simp [enc, ndB]
theorem e_num (k : Nat) (n : Int) : callF F G (k + 1) fi_is_number [.v (.int n)] = .ok ⟨.bool true, false, []⟩ := rfl
theorem w_all {w : Wo} : (w = .sum ∨ w = .less) ∨ (w = .least ∨ w = .greatest) := by cases w <;> simp
theorem e_inner (k : Nat) (f : Fm) : callF F G (k + 1) fi_inner_of [.v (enc f)] = .ok ⟨.tuple ((kids f).map enc), false, []⟩ := by
  rw [callF_at (fn := f_inner_of) rfl rfl (Nat.le_of_ble_eq_true rfl)]
  cases f with
  | two w a b => cases w <;> simp [rbind_ok, rbind_exc, rbind_stuck, ofO_some, ofO_none, seqS_nx, seqS_rt, seqS_exc, lcNext_E, lcStep_ok, lcCons_ok, lcLoop_nil, lcLoop_step, foNext_E, forLoop_nil, forLoop_step, ssNext_E, evSs_nil, evSs_cons, x_var, x_cst, x_glo, x_bin, y_bin, x_neg, x_not, x_and, y_and, z_and, x_or, y_or, z_or, x_cmp, y_cmp, x_chn, y_chn, z_chn, w_chnT, w_chnF, x_ife, y_ife, z_ife, x_call, x_blt, x_isi, x_sub, y_sub, x_slc, y_slc, z_slc, x_tup, x_lst, a_nil, a_cons, a_cons1, a_cons2, e_nil, e_cons, e_cons1, g_nil, g_ref, g_c0, g_c1, g_c2, g_c3, g_c4, g_c5, g_c6, g_c7, g_c8, g_c9, g_c10, g_c11, g_c12, g_c13, g_c14, g_c15, g_c16, g_c17, g_c18, g_cons1, g_cons2, o_none, o_some, c_nil, c_cons, c_cons1, c_cons2, t_E, truW_E, rdAll_nil, rdAll_cons, lcEnd_ok, turn_E, turn_E1, turn_E2, turn_E3, x_lc, y_lc, z_lc, s_for, s_for1, s_for2, fturn_E, fturn_E1, unlR_ok, s_nop, s_set, s_setT, s_setI, s_setI1, s_mut, s_ext, s_expr, s_ret, s_retN, s_ite, s_ite1, s_rais, callEnd_ok, callEnd_exc, callAt_E, callAt_E1, retOf, M.rfs, startE, slotOf, isR, refsOf, argsAt, putRefs, fzv, fzn, rdv, setS, fr_none, fr_sh, fr_ow, fr_rf, fr_ln, bindT, bindTs, MT.vars, MT.varsL, mutS, ownS, isd_int_none, isd_int_bool, isd_int_int, isd_int_str, isd_int_list, isd_int_tuple, isd_bool_none, isd_bool_bool, isd_bool_int, isd_bool_str, isd_bool_list, isd_bool_tuple, isd_str_none, isd_str_bool, isd_str_int, isd_str_str, isd_str_list, isd_str_tuple, isd_tuple_none, isd_tuple_bool, isd_tuple_int, isd_tuple_str, isd_tuple_list, isd_tuple_tuple, isd_list_none, isd_list_bool, isd_list_int, isd_list_str, isd_list_list, isd_list_tuple, eqOk, lendE, lend1, backE, wipeE, lent, slots, normW, unlend, L2.atI, L2.ixN, cutD, eqv_int, eqv_str, eqv_bool, eqv_list, eqv_tuple, eqva_nil, eqva_cons, eqva_l, eqva_r, dp_int, dp_str, dp_bool, dp_list, dp_tuple, dpa_nil, dpa_cons, ofStr_beq, intsD, boolsD, nd_int, nd_bool, nd_str, nd_none, nd_list, nd_tuple, szl, M.truD.eq_1, M.truD.eq_2, M.truD.eq_3, M.truD.eq_4, M.truD.eq_5, M.truD.eq_6, M.truD.eq_7, M.setD.eq_1, M.subD.eq_1, M.subD.eq_2, M.subD.eq_3, M.slcD.eq_1, M.slcD.eq_2, M.itemsD.eq_1, M.itemsD.eq_2, M.itemsD.eq_3, M.itemsD.eq_4, M.itemsD.eq_5, M.itemsD.eq_6, M.itemsD.eq_7, M.cmpD.eq_1, M.cmpD.eq_2, M.cmpD.eq_3, M.cmpD.eq_4, M.cmpD.eq_5, M.cmpD.eq_6, M.cmpD.eq_7, M.cmpD.eq_9, M.cmpD.eq_11, M.cmpD.eq_12, M.cmpD.eq_13, M.cmpD.eq_14, M.binD.eq_1, M.binD.eq_2, M.binD.eq_3, M.binD.eq_4, M.binD.eq_5, M.binD.eq_6, M.binD.eq_7, M.binD.eq_8, M.binD.eq_9, M.bltD.eq_1, M.bltD.eq_2, M.bltD.eq_3, M.bltD.eq_4, M.bltD.eq_5, M.bltD.eq_6, M.bltD.eq_7, M.bltD.eq_8, M.bltD.eq_9, M.bltD.eq_10, M.bltD.eq_11, M.bltD.eq_12, M.bltD.eq_13, M.bltD.eq_14, M.mutD.eq_1, M.mutD.eq_2, M.extD.eq_1, HT.sIx.eq_1, HT.sIx.eq_2, f_inner_of, b_inner_of, gw, enc, kids, Wo.s]
  | _ => simp [rbind_ok, rbind_exc, rbind_stuck, ofO_some, ofO_none, seqS_nx, seqS_rt, seqS_exc, lcNext_E, lcStep_ok, lcCons_ok, lcLoop_nil, lcLoop_step, foNext_E, forLoop_nil, forLoop_step, ssNext_E, evSs_nil, evSs_cons, x_var, x_cst, x_glo, x_bin, y_bin, x_neg, x_not, x_and, y_and, z_and, x_or, y_or, z_or, x_cmp, y_cmp, x_chn, y_chn, z_chn, w_chnT, w_chnF, x_ife, y_ife, z_ife, x_call, x_blt, x_isi, x_sub, y_sub, x_slc, y_slc, z_slc, x_tup, x_lst, a_nil, a_cons, a_cons1, a_cons2, e_nil, e_cons, e_cons1, g_nil, g_ref, g_c0, g_c1, g_c2, g_c3, g_c4, g_c5, g_c6, g_c7, g_c8, g_c9, g_c10, g_c11, g_c12, g_c13, g_c14, g_c15, g_c16, g_c17, g_c18, g_cons1, g_cons2, o_none, o_some, c_nil, c_cons, c_cons1, c_cons2, t_E, truW_E, rdAll_nil, rdAll_cons, lcEnd_ok, turn_E, turn_E1, turn_E2, turn_E3, x_lc, y_lc, z_lc, s_for, s_for1, s_for2, fturn_E, fturn_E1, unlR_ok, s_nop, s_set, s_setT, s_setI, s_setI1, s_mut, s_ext, s_expr, s_ret, s_retN, s_ite, s_ite1, s_rais, callEnd_ok, callEnd_exc, callAt_E, callAt_E1, retOf, M.rfs, startE, slotOf, isR, refsOf, argsAt, putRefs, fzv, fzn, rdv, setS, fr_none, fr_sh, fr_ow, fr_rf, fr_ln, bindT, bindTs, MT.vars, MT.varsL, mutS, ownS, isd_int_none, isd_int_bool, isd_int_int, isd_int_str, isd_int_list, isd_int_tuple, isd_bool_none, isd_bool_bool, isd_bool_int, isd_bool_str, isd_bool_list, isd_bool_tuple, isd_str_none, isd_str_bool, isd_str_int, isd_str_str, isd_str_list, isd_str_tuple, isd_tuple_none, isd_tuple_bool, isd_tuple_int, isd_tuple_str, isd_tuple_list, isd_tuple_tuple, isd_list_none, isd_list_bool, isd_list_int, isd_list_str, isd_list_list, isd_list_tuple, eqOk, lendE, lend1, backE, wipeE, lent, slots, normW, unlend, L2.atI, L2.ixN, cutD, eqv_int, eqv_str, eqv_bool, eqv_list, eqv_tuple, eqva_nil, eqva_cons, eqva_l, eqva_r, dp_int, dp_str, dp_bool, dp_list, dp_tuple, dpa_nil, dpa_cons, ofStr_beq, intsD, boolsD, nd_int, nd_bool, nd_str, nd_none, nd_list, nd_tuple, szl, M.truD.eq_1, M.truD.eq_2, M.truD.eq_3, M.truD.eq_4, M.truD.eq_5, M.truD.eq_6, M.truD.eq_7, M.setD.eq_1, M.subD.eq_1, M.subD.eq_2, M.subD.eq_3, M.slcD.eq_1, M.slcD.eq_2, M.itemsD.eq_1, M.itemsD.eq_2, M.itemsD.eq_3, M.itemsD.eq_4, M.itemsD.eq_5, M.itemsD.eq_6, M.itemsD.eq_7, M.cmpD.eq_1, M.cmpD.eq_2, M.cmpD.eq_3, M.cmpD.eq_4, M.cmpD.eq_5, M.cmpD.eq_6, M.cmpD.eq_7, M.cmpD.eq_9, M.cmpD.eq_11, M.cmpD.eq_12, M.cmpD.eq_13, M.cmpD.eq_14, M.binD.eq_1, M.binD.eq_2, M.binD.eq_3, M.binD.eq_4, M.binD.eq_5, M.binD.eq_6, M.binD.eq_7, M.binD.eq_8, M.binD.eq_9, M.bltD.eq_1, M.bltD.eq_2, M.bltD.eq_3, M.bltD.eq_4, M.bltD.eq_5, M.bltD.eq_6, M.bltD.eq_7, M.bltD.eq_8, M.bltD.eq_9, M.bltD.eq_10, M.bltD.eq_11, M.bltD.eq_12, M.bltD.eq_13, M.bltD.eq_14, M.mutD.eq_1, M.mutD.eq_2, M.extD.eq_1, HT.sIx.eq_1, HT.sIx.eq_2, f_inner_of, b_inner_of, gw, enc, kids]
theorem e_fit (k : Nat) (f : Fm) (h : Fit f) : callF F G (k + 2) fi_numbers_fit [.v (enc f)] = .ok ⟨.bool true, false, []⟩ := by
  rw [callF_at (fn := f_numbers_fit) rfl rfl (Nat.le_of_ble_eq_true rfl)]
  cases f with
  | two w a b => cases w <;> simp [rbind_ok, rbind_exc, rbind_stuck, ofO_some, ofO_none, seqS_nx, seqS_rt, seqS_exc, lcNext_E, lcStep_ok, lcCons_ok, lcLoop_nil, lcLoop_step, foNext_E, forLoop_nil, forLoop_step, ssNext_E, evSs_nil, evSs_cons, x_var, x_cst, x_glo, x_bin, y_bin, x_neg, x_not, x_and, y_and, z_and, x_or, y_or, z_or, x_cmp, y_cmp, x_chn, y_chn, z_chn, w_chnT, w_chnF, x_ife, y_ife, z_ife, x_call, x_blt, x_isi, x_sub, y_sub, x_slc, y_slc, z_slc, x_tup, x_lst, a_nil, a_cons, a_cons1, a_cons2, e_nil, e_cons, e_cons1, g_nil, g_ref, g_c0, g_c1, g_c2, g_c3, g_c4, g_c5, g_c6, g_c7, g_c8, g_c9, g_c10, g_c11, g_c12, g_c13, g_c14, g_c15, g_c16, g_c17, g_c18, g_cons1, g_cons2, o_none, o_some, c_nil, c_cons, c_cons1, c_cons2, t_E, truW_E, rdAll_nil, rdAll_cons, lcEnd_ok, turn_E, turn_E1, turn_E2, turn_E3, x_lc, y_lc, z_lc, s_for, s_for1, s_for2, fturn_E, fturn_E1, unlR_ok, s_nop, s_set, s_setT, s_setI, s_setI1, s_mut, s_ext, s_expr, s_ret, s_retN, s_ite, s_ite1, s_rais, callEnd_ok, callEnd_exc, callAt_E, callAt_E1, retOf, M.rfs, startE, slotOf, isR, refsOf, argsAt, putRefs, fzv, fzn, rdv, setS, fr_none, fr_sh, fr_ow, fr_rf, fr_ln, bindT, bindTs, MT.vars, MT.varsL, mutS, ownS, isd_int_none, isd_int_bool, isd_int_int, isd_int_str, isd_int_list, isd_int_tuple, isd_bool_none, isd_bool_bool, isd_bool_int, isd_bool_str, isd_bool_list, isd_bool_tuple, isd_str_none, isd_str_bool, isd_str_int, isd_str_str, isd_str_list, isd_str_tuple, isd_tuple_none, isd_tuple_bool, isd_tuple_int, isd_tuple_str, isd_tuple_list, isd_tuple_tuple, isd_list_none, isd_list_bool, isd_list_int, isd_list_str, isd_list_list, isd_list_tuple, eqOk, lendE, lend1, backE, wipeE, lent, slots, normW, unlend, L2.atI, L2.ixN, cutD, eqv_int, eqv_str, eqv_bool, eqv_list, eqv_tuple, eqva_nil, eqva_cons, eqva_l, eqva_r, dp_int, dp_str, dp_bool, dp_list, dp_tuple, dpa_nil, dpa_cons, ofStr_beq, intsD, boolsD, nd_int, nd_bool, nd_str, nd_none, nd_list, nd_tuple, szl, M.truD.eq_1, M.truD.eq_2, M.truD.eq_3, M.truD.eq_4, M.truD.eq_5, M.truD.eq_6, M.truD.eq_7, M.setD.eq_1, M.subD.eq_1, M.subD.eq_2, M.subD.eq_3, M.slcD.eq_1, M.slcD.eq_2, M.itemsD.eq_1, M.itemsD.eq_2, M.itemsD.eq_3, M.itemsD.eq_4, M.itemsD.eq_5, M.itemsD.eq_6, M.itemsD.eq_7, M.cmpD.eq_1, M.cmpD.eq_2, M.cmpD.eq_3, M.cmpD.eq_4, M.cmpD.eq_5, M.cmpD.eq_6, M.cmpD.eq_7, M.cmpD.eq_9, M.cmpD.eq_11, M.cmpD.eq_12, M.cmpD.eq_13, M.cmpD.eq_14, M.binD.eq_1, M.binD.eq_2, M.binD.eq_3, M.binD.eq_4, M.binD.eq_5, M.binD.eq_6, M.binD.eq_7, M.binD.eq_8, M.binD.eq_9, M.bltD.eq_1, M.bltD.eq_2, M.bltD.eq_3, M.bltD.eq_4, M.bltD.eq_5, M.bltD.eq_6, M.bltD.eq_7, M.bltD.eq_8, M.bltD.eq_9, M.bltD.eq_10, M.bltD.eq_11, M.bltD.eq_12, M.bltD.eq_13, M.bltD.eq_14, M.mutD.eq_1, M.mutD.eq_2, M.extD.eq_1, HT.sIx.eq_1, HT.sIx.eq_2, f_numbers_fit, b_numbers_fit, gw, enc, Wo.s]
  | num n =>
    have : (if n < 0 then -n else n) < 1000000 := by simp only [Fit] at h; omega
    simp [rbind_ok, rbind_exc, rbind_stuck, ofO_some, ofO_none, seqS_nx, seqS_rt, seqS_exc, lcNext_E, lcStep_ok, lcCons_ok, lcLoop_nil, lcLoop_step, foNext_E, forLoop_nil, forLoop_step, ssNext_E, evSs_nil, evSs_cons, x_var, x_cst, x_glo, x_bin, y_bin, x_neg, x_not, x_and, y_and, z_and, x_or, y_or, z_or, x_cmp, y_cmp, x_chn, y_chn, z_chn, w_chnT, w_chnF, x_ife, y_ife, z_ife, x_call, x_blt, x_isi, x_sub, y_sub, x_slc, y_slc, z_slc, x_tup, x_lst, a_nil, a_cons, a_cons1, a_cons2, e_nil, e_cons, e_cons1, g_nil, g_ref, g_c0, g_c1, g_c2, g_c3, g_c4, g_c5, g_c6, g_c7, g_c8, g_c9, g_c10, g_c11, g_c12, g_c13, g_c14, g_c15, g_c16, g_c17, g_c18, g_cons1, g_cons2, o_none, o_some, c_nil, c_cons, c_cons1, c_cons2, t_E, truW_E, rdAll_nil, rdAll_cons, lcEnd_ok, turn_E, turn_E1, turn_E2, turn_E3, x_lc, y_lc, z_lc, s_for, s_for1, s_for2, fturn_E, fturn_E1, unlR_ok, s_nop, s_set, s_setT, s_setI, s_setI1, s_mut, s_ext, s_expr, s_ret, s_retN, s_ite, s_ite1, s_rais, callEnd_ok, callEnd_exc, callAt_E, callAt_E1, retOf, M.rfs, startE, slotOf, isR, refsOf, argsAt, putRefs, fzv, fzn, rdv, setS, fr_none, fr_sh, fr_ow, fr_rf, fr_ln, bindT, bindTs, MT.vars, MT.varsL, mutS, ownS, isd_int_none, isd_int_bool, isd_int_int, isd_int_str, isd_int_list, isd_int_tuple, isd_bool_none, isd_bool_bool, isd_bool_int, isd_bool_str, isd_bool_list, isd_bool_tuple, isd_str_none, isd_str_bool, isd_str_int, isd_str_str, isd_str_list, isd_str_tuple, isd_tuple_none, isd_tuple_bool, isd_tuple_int, isd_tuple_str, isd_tuple_list, isd_tuple_tuple, isd_list_none, isd_list_bool, isd_list_int, isd_list_str, isd_list_list, isd_list_tuple, eqOk, lendE, lend1, backE, wipeE, lent, slots, normW, unlend, L2.atI, L2.ixN, cutD, eqv_int, eqv_str, eqv_bool, eqv_list, eqv_tuple, eqva_nil, eqva_cons, eqva_l, eqva_r, dp_int, dp_str, dp_bool, dp_list, dp_tuple, dpa_nil, dpa_cons, ofStr_beq, intsD, boolsD, nd_int, nd_bool, nd_str, nd_none, nd_list, nd_tuple, szl, M.truD.eq_1, M.truD.eq_2, M.truD.eq_3, M.truD.eq_4, M.truD.eq_5, M.truD.eq_6, M.truD.eq_7, M.setD.eq_1, M.subD.eq_1, M.subD.eq_2, M.subD.eq_3, M.slcD.eq_1, M.slcD.eq_2, M.itemsD.eq_1, M.itemsD.eq_2, M.itemsD.eq_3, M.itemsD.eq_4, M.itemsD.eq_5, M.itemsD.eq_6, M.itemsD.eq_7, M.cmpD.eq_1, M.cmpD.eq_2, M.cmpD.eq_3, M.cmpD.eq_4, M.cmpD.eq_5, M.cmpD.eq_6, M.cmpD.eq_7, M.cmpD.eq_9, M.cmpD.eq_11, M.cmpD.eq_12, M.cmpD.eq_13, M.cmpD.eq_14, M.binD.eq_1, M.binD.eq_2, M.binD.eq_3, M.binD.eq_4, M.binD.eq_5, M.binD.eq_6, M.binD.eq_7, M.binD.eq_8, M.binD.eq_9, M.bltD.eq_1, M.bltD.eq_2, M.bltD.eq_3, M.bltD.eq_4, M.bltD.eq_5, M.bltD.eq_6, M.bltD.eq_7, M.bltD.eq_8, M.bltD.eq_9, M.bltD.eq_10, M.bltD.eq_11, M.bltD.eq_12, M.bltD.eq_13, M.bltD.eq_14, M.mutD.eq_1, M.mutD.eq_2, M.extD.eq_1, HT.sIx.eq_1, HT.sIx.eq_2, f_numbers_fit, b_numbers_fit, gw, enc, e_num, this]
  | worth i j =>
    obtain ⟨h1, h2⟩ := h
    simp [rbind_ok, rbind_exc, rbind_stuck, ofO_some, ofO_none, seqS_nx, seqS_rt, seqS_exc, lcNext_E, lcStep_ok, lcCons_ok, lcLoop_nil, lcLoop_step, foNext_E, forLoop_nil, forLoop_step, ssNext_E, evSs_nil, evSs_cons, x_var, x_cst, x_glo, x_bin, y_bin, x_neg, x_not, x_and, y_and, z_and, x_or, y_or, z_or, x_cmp, y_cmp, x_chn, y_chn, z_chn, w_chnT, w_chnF, x_ife, y_ife, z_ife, x_call, x_blt, x_isi, x_sub, y_sub, x_slc, y_slc, z_slc, x_tup, x_lst, a_nil, a_cons, a_cons1, a_cons2, e_nil, e_cons, e_cons1, g_nil, g_ref, g_c0, g_c1, g_c2, g_c3, g_c4, g_c5, g_c6, g_c7, g_c8, g_c9, g_c10, g_c11, g_c12, g_c13, g_c14, g_c15, g_c16, g_c17, g_c18, g_cons1, g_cons2, o_none, o_some, c_nil, c_cons, c_cons1, c_cons2, t_E, truW_E, rdAll_nil, rdAll_cons, lcEnd_ok, turn_E, turn_E1, turn_E2, turn_E3, x_lc, y_lc, z_lc, s_for, s_for1, s_for2, fturn_E, fturn_E1, unlR_ok, s_nop, s_set, s_setT, s_setI, s_setI1, s_mut, s_ext, s_expr, s_ret, s_retN, s_ite, s_ite1, s_rais, callEnd_ok, callEnd_exc, callAt_E, callAt_E1, retOf, M.rfs, startE, slotOf, isR, refsOf, argsAt, putRefs, fzv, fzn, rdv, setS, fr_none, fr_sh, fr_ow, fr_rf, fr_ln, bindT, bindTs, MT.vars, MT.varsL, mutS, ownS, isd_int_none, isd_int_bool, isd_int_int, isd_int_str, isd_int_list, isd_int_tuple, isd_bool_none, isd_bool_bool, isd_bool_int, isd_bool_str, isd_bool_list, isd_bool_tuple, isd_str_none, isd_str_bool, isd_str_int, isd_str_str, isd_str_list, isd_str_tuple, isd_tuple_none, isd_tuple_bool, isd_tuple_int, isd_tuple_str, isd_tuple_list, isd_tuple_tuple, isd_list_none, isd_list_bool, isd_list_int, isd_list_str, isd_list_list, isd_list_tuple, eqOk, lendE, lend1, backE, wipeE, lent, slots, normW, unlend, L2.atI, L2.ixN, cutD, eqv_int, eqv_str, eqv_bool, eqv_list, eqv_tuple, eqva_nil, eqva_cons, eqva_l, eqva_r, dp_int, dp_str, dp_bool, dp_list, dp_tuple, dpa_nil, dpa_cons, ofStr_beq, intsD, boolsD, nd_int, nd_bool, nd_str, nd_none, nd_list, nd_tuple, szl, M.truD.eq_1, M.truD.eq_2, M.truD.eq_3, M.truD.eq_4, M.truD.eq_5, M.truD.eq_6, M.truD.eq_7, M.setD.eq_1, M.subD.eq_1, M.subD.eq_2, M.subD.eq_3, M.slcD.eq_1, M.slcD.eq_2, M.itemsD.eq_1, M.itemsD.eq_2, M.itemsD.eq_3, M.itemsD.eq_4, M.itemsD.eq_5, M.itemsD.eq_6, M.itemsD.eq_7, M.cmpD.eq_1, M.cmpD.eq_2, M.cmpD.eq_3, M.cmpD.eq_4, M.cmpD.eq_5, M.cmpD.eq_6, M.cmpD.eq_7, M.cmpD.eq_9, M.cmpD.eq_11, M.cmpD.eq_12, M.cmpD.eq_13, M.cmpD.eq_14, M.binD.eq_1, M.binD.eq_2, M.binD.eq_3, M.binD.eq_4, M.binD.eq_5, M.binD.eq_6, M.binD.eq_7, M.binD.eq_8, M.binD.eq_9, M.bltD.eq_1, M.bltD.eq_2, M.bltD.eq_3, M.bltD.eq_4, M.bltD.eq_5, M.bltD.eq_6, M.bltD.eq_7, M.bltD.eq_8, M.bltD.eq_9, M.bltD.eq_10, M.bltD.eq_11, M.bltD.eq_12, M.bltD.eq_13, M.bltD.eq_14, M.mutD.eq_1, M.mutD.eq_2, M.extD.eq_1, HT.sIx.eq_1, HT.sIx.eq_2, f_numbers_fit, b_numbers_fit, gw, enc, e_num, h1, h2]
  | times c a =>
    have : (if c < 0 then -c else c) < 10000 := by simp only [Fit] at h; omega
    simp [rbind_ok, rbind_exc, rbind_stuck, ofO_some, ofO_none, seqS_nx, seqS_rt, seqS_exc, lcNext_E, lcStep_ok, lcCons_ok, lcLoop_nil, lcLoop_step, foNext_E, forLoop_nil, forLoop_step, ssNext_E, evSs_nil, evSs_cons, x_var, x_cst, x_glo, x_bin, y_bin, x_neg, x_not, x_and, y_and, z_and, x_or, y_or, z_or, x_cmp, y_cmp, x_chn, y_chn, z_chn, w_chnT, w_chnF, x_ife, y_ife, z_ife, x_call, x_blt, x_isi, x_sub, y_sub, x_slc, y_slc, z_slc, x_tup, x_lst, a_nil, a_cons, a_cons1, a_cons2, e_nil, e_cons, e_cons1, g_nil, g_ref, g_c0, g_c1, g_c2, g_c3, g_c4, g_c5, g_c6, g_c7, g_c8, g_c9, g_c10, g_c11, g_c12, g_c13, g_c14, g_c15, g_c16, g_c17, g_c18, g_cons1, g_cons2, o_none, o_some, c_nil, c_cons, c_cons1, c_cons2, t_E, truW_E, rdAll_nil, rdAll_cons, lcEnd_ok, turn_E, turn_E1, turn_E2, turn_E3, x_lc, y_lc, z_lc, s_for, s_for1, s_for2, fturn_E, fturn_E1, unlR_ok, s_nop, s_set, s_setT, s_setI, s_setI1, s_mut, s_ext, s_expr, s_ret, s_retN, s_ite, s_ite1, s_rais, callEnd_ok, callEnd_exc, callAt_E, callAt_E1, retOf, M.rfs, startE, slotOf, isR, refsOf, argsAt, putRefs, fzv, fzn, rdv, setS, fr_none, fr_sh, fr_ow, fr_rf, fr_ln, bindT, bindTs, MT.vars, MT.varsL, mutS, ownS, isd_int_none, isd_int_bool, isd_int_int, isd_int_str, isd_int_list, isd_int_tuple, isd_bool_none, isd_bool_bool, isd_bool_int, isd_bool_str, isd_bool_list, isd_bool_tuple, isd_str_none, isd_str_bool, isd_str_int, isd_str_str, isd_str_list, isd_str_tuple, isd_tuple_none, isd_tuple_bool, isd_tuple_int, isd_tuple_str, isd_tuple_list, isd_tuple_tuple, isd_list_none, isd_list_bool, isd_list_int, isd_list_str, isd_list_list, isd_list_tuple, eqOk, lendE, lend1, backE, wipeE, lent, slots, normW, unlend, L2.atI, L2.ixN, cutD, eqv_int, eqv_str, eqv_bool, eqv_list, eqv_tuple, eqva_nil, eqva_cons, eqva_l, eqva_r, dp_int, dp_str, dp_bool, dp_list, dp_tuple, dpa_nil, dpa_cons, ofStr_beq, intsD, boolsD, nd_int, nd_bool, nd_str, nd_none, nd_list, nd_tuple, szl, M.truD.eq_1, M.truD.eq_2, M.truD.eq_3, M.truD.eq_4, M.truD.eq_5, M.truD.eq_6, M.truD.eq_7, M.setD.eq_1, M.subD.eq_1, M.subD.eq_2, M.subD.eq_3, M.slcD.eq_1, M.slcD.eq_2, M.itemsD.eq_1, M.itemsD.eq_2, M.itemsD.eq_3, M.itemsD.eq_4, M.itemsD.eq_5, M.itemsD.eq_6, M.itemsD.eq_7, M.cmpD.eq_1, M.cmpD.eq_2, M.cmpD.eq_3, M.cmpD.eq_4, M.cmpD.eq_5, M.cmpD.eq_6, M.cmpD.eq_7, M.cmpD.eq_9, M.cmpD.eq_11, M.cmpD.eq_12, M.cmpD.eq_13, M.cmpD.eq_14, M.binD.eq_1, M.binD.eq_2, M.binD.eq_3, M.binD.eq_4, M.binD.eq_5, M.binD.eq_6, M.binD.eq_7, M.binD.eq_8, M.binD.eq_9, M.bltD.eq_1, M.bltD.eq_2, M.bltD.eq_3, M.bltD.eq_4, M.bltD.eq_5, M.bltD.eq_6, M.bltD.eq_7, M.bltD.eq_8, M.bltD.eq_9, M.bltD.eq_10, M.bltD.eq_11, M.bltD.eq_12, M.bltD.eq_13, M.bltD.eq_14, M.mutD.eq_1, M.mutD.eq_2, M.extD.eq_1, HT.sIx.eq_1, HT.sIx.eq_2, f_numbers_fit, b_numbers_fit, gw, enc, e_num, this]
  | rest c a =>
    obtain ⟨⟨h1, h2⟩, _⟩ := h
    simp [rbind_ok, rbind_exc, rbind_stuck, ofO_some, ofO_none, seqS_nx, seqS_rt, seqS_exc, lcNext_E, lcStep_ok, lcCons_ok, lcLoop_nil, lcLoop_step, foNext_E, forLoop_nil, forLoop_step, ssNext_E, evSs_nil, evSs_cons, x_var, x_cst, x_glo, x_bin, y_bin, x_neg, x_not, x_and, y_and, z_and, x_or, y_or, z_or, x_cmp, y_cmp, x_chn, y_chn, z_chn, w_chnT, w_chnF, x_ife, y_ife, z_ife, x_call, x_blt, x_isi, x_sub, y_sub, x_slc, y_slc, z_slc, x_tup, x_lst, a_nil, a_cons, a_cons1, a_cons2, e_nil, e_cons, e_cons1, g_nil, g_ref, g_c0, g_c1, g_c2, g_c3, g_c4, g_c5, g_c6, g_c7, g_c8, g_c9, g_c10, g_c11, g_c12, g_c13, g_c14, g_c15, g_c16, g_c17, g_c18, g_cons1, g_cons2, o_none, o_some, c_nil, c_cons, c_cons1, c_cons2, t_E, truW_E, rdAll_nil, rdAll_cons, lcEnd_ok, turn_E, turn_E1, turn_E2, turn_E3, x_lc, y_lc, z_lc, s_for, s_for1, s_for2, fturn_E, fturn_E1, unlR_ok, s_nop, s_set, s_setT, s_setI, s_setI1, s_mut, s_ext, s_expr, s_ret, s_retN, s_ite, s_ite1, s_rais, callEnd_ok, callEnd_exc, callAt_E, callAt_E1, retOf, M.rfs, startE, slotOf, isR, refsOf, argsAt, putRefs, fzv, fzn, rdv, setS, fr_none, fr_sh, fr_ow, fr_rf, fr_ln, bindT, bindTs, MT.vars, MT.varsL, mutS, ownS, isd_int_none, isd_int_bool, isd_int_int, isd_int_str, isd_int_list, isd_int_tuple, isd_bool_none, isd_bool_bool, isd_bool_int, isd_bool_str, isd_bool_list, isd_bool_tuple, isd_str_none, isd_str_bool, isd_str_int, isd_str_str, isd_str_list, isd_str_tuple, isd_tuple_none, isd_tuple_bool, isd_tuple_int, isd_tuple_str, isd_tuple_list, isd_tuple_tuple, isd_list_none, isd_list_bool, isd_list_int, isd_list_str, isd_list_list, isd_list_tuple, eqOk, lendE, lend1, backE, wipeE, lent, slots, normW, unlend, L2.atI, L2.ixN, cutD, eqv_int, eqv_str, eqv_bool, eqv_list, eqv_tuple, eqva_nil, eqva_cons, eqva_l, eqva_r, dp_int, dp_str, dp_bool, dp_list, dp_tuple, dpa_nil, dpa_cons, ofStr_beq, intsD, boolsD, nd_int, nd_bool, nd_str, nd_none, nd_list, nd_tuple, szl, M.truD.eq_1, M.truD.eq_2, M.truD.eq_3, M.truD.eq_4, M.truD.eq_5, M.truD.eq_6, M.truD.eq_7, M.setD.eq_1, M.subD.eq_1, M.subD.eq_2, M.subD.eq_3, M.slcD.eq_1, M.slcD.eq_2, M.itemsD.eq_1, M.itemsD.eq_2, M.itemsD.eq_3, M.itemsD.eq_4, M.itemsD.eq_5, M.itemsD.eq_6, M.itemsD.eq_7, M.cmpD.eq_1, M.cmpD.eq_2, M.cmpD.eq_3, M.cmpD.eq_4, M.cmpD.eq_5, M.cmpD.eq_6, M.cmpD.eq_7, M.cmpD.eq_9, M.cmpD.eq_11, M.cmpD.eq_12, M.cmpD.eq_13, M.cmpD.eq_14, M.binD.eq_1, M.binD.eq_2, M.binD.eq_3, M.binD.eq_4, M.binD.eq_5, M.binD.eq_6, M.binD.eq_7, M.binD.eq_8, M.binD.eq_9, M.bltD.eq_1, M.bltD.eq_2, M.bltD.eq_3, M.bltD.eq_4, M.bltD.eq_5, M.bltD.eq_6, M.bltD.eq_7, M.bltD.eq_8, M.bltD.eq_9, M.bltD.eq_10, M.bltD.eq_11, M.bltD.eq_12, M.bltD.eq_13, M.bltD.eq_14, M.mutD.eq_1, M.mutD.eq_2, M.extD.eq_1, HT.sIx.eq_1, HT.sIx.eq_2, f_numbers_fit, b_numbers_fit, gw, enc, e_num, h1, h2]
  | pick a b c => simp [rbind_ok, rbind_exc, rbind_stuck, ofO_some, ofO_none, seqS_nx, seqS_rt, seqS_exc, lcNext_E, lcStep_ok, lcCons_ok, lcLoop_nil, lcLoop_step, foNext_E, forLoop_nil, forLoop_step, ssNext_E, evSs_nil, evSs_cons, x_var, x_cst, x_glo, x_bin, y_bin, x_neg, x_not, x_and, y_and, z_and, x_or, y_or, z_or, x_cmp, y_cmp, x_chn, y_chn, z_chn, w_chnT, w_chnF, x_ife, y_ife, z_ife, x_call, x_blt, x_isi, x_sub, y_sub, x_slc, y_slc, z_slc, x_tup, x_lst, a_nil, a_cons, a_cons1, a_cons2, e_nil, e_cons, e_cons1, g_nil, g_ref, g_c0, g_c1, g_c2, g_c3, g_c4, g_c5, g_c6, g_c7, g_c8, g_c9, g_c10, g_c11, g_c12, g_c13, g_c14, g_c15, g_c16, g_c17, g_c18, g_cons1, g_cons2, o_none, o_some, c_nil, c_cons, c_cons1, c_cons2, t_E, truW_E, rdAll_nil, rdAll_cons, lcEnd_ok, turn_E, turn_E1, turn_E2, turn_E3, x_lc, y_lc, z_lc, s_for, s_for1, s_for2, fturn_E, fturn_E1, unlR_ok, s_nop, s_set, s_setT, s_setI, s_setI1, s_mut, s_ext, s_expr, s_ret, s_retN, s_ite, s_ite1, s_rais, callEnd_ok, callEnd_exc, callAt_E, callAt_E1, retOf, M.rfs, startE, slotOf, isR, refsOf, argsAt, putRefs, fzv, fzn, rdv, setS, fr_none, fr_sh, fr_ow, fr_rf, fr_ln, bindT, bindTs, MT.vars, MT.varsL, mutS, ownS, isd_int_none, isd_int_bool, isd_int_int, isd_int_str, isd_int_list, isd_int_tuple, isd_bool_none, isd_bool_bool, isd_bool_int, isd_bool_str, isd_bool_list, isd_bool_tuple, isd_str_none, isd_str_bool, isd_str_int, isd_str_str, isd_str_list, isd_str_tuple, isd_tuple_none, isd_tuple_bool, isd_tuple_int, isd_tuple_str, isd_tuple_list, isd_tuple_tuple, isd_list_none, isd_list_bool, isd_list_int, isd_list_str, isd_list_list, isd_list_tuple, eqOk, lendE, lend1, backE, wipeE, lent, slots, normW, unlend, L2.atI, L2.ixN, cutD, eqv_int, eqv_str, eqv_bool, eqv_list, eqv_tuple, eqva_nil, eqva_cons, eqva_l, eqva_r, dp_int, dp_str, dp_bool, dp_list, dp_tuple, dpa_nil, dpa_cons, ofStr_beq, intsD, boolsD, nd_int, nd_bool, nd_str, nd_none, nd_list, nd_tuple, szl, M.truD.eq_1, M.truD.eq_2, M.truD.eq_3, M.truD.eq_4, M.truD.eq_5, M.truD.eq_6, M.truD.eq_7, M.setD.eq_1, M.subD.eq_1, M.subD.eq_2, M.subD.eq_3, M.slcD.eq_1, M.slcD.eq_2, M.itemsD.eq_1, M.itemsD.eq_2, M.itemsD.eq_3, M.itemsD.eq_4, M.itemsD.eq_5, M.itemsD.eq_6, M.itemsD.eq_7, M.cmpD.eq_1, M.cmpD.eq_2, M.cmpD.eq_3, M.cmpD.eq_4, M.cmpD.eq_5, M.cmpD.eq_6, M.cmpD.eq_7, M.cmpD.eq_9, M.cmpD.eq_11, M.cmpD.eq_12, M.cmpD.eq_13, M.cmpD.eq_14, M.binD.eq_1, M.binD.eq_2, M.binD.eq_3, M.binD.eq_4, M.binD.eq_5, M.binD.eq_6, M.binD.eq_7, M.binD.eq_8, M.binD.eq_9, M.bltD.eq_1, M.bltD.eq_2, M.bltD.eq_3, M.bltD.eq_4, M.bltD.eq_5, M.bltD.eq_6, M.bltD.eq_7, M.bltD.eq_8, M.bltD.eq_9, M.bltD.eq_10, M.bltD.eq_11, M.bltD.eq_12, M.bltD.eq_13, M.bltD.eq_14, M.mutD.eq_1, M.mutD.eq_2, M.extD.eq_1, HT.sIx.eq_1, HT.sIx.eq_2, f_numbers_fit, b_numbers_fit, gw, enc]
end K02
namespace K02
open PySem M
theorem deep_pos (f : Fm) : 1 ≤ deep f := by cases f <;> simp [deep]
theorem e_fit2 (n : Nat) (f : Fm) (h : Fit f) (hn : 2 ≤ n) : callF F G n fi_numbers_fit [.v (enc f)] = .ok ⟨.bool true, false, []⟩ := by
  obtain ⟨m, rfl⟩ : ∃ m, n = m + 2 := ⟨n - 2, by omega⟩
  exact e_fit m f h
theorem e_deep : ∀ (f : Fm) (n : Nat) (d : Int), Fit f → d + deep f ≤ 5 → deep f + 2 ≤ n → callF F G n fi_deep_of [.v (enc f), .v (.int d)] = .ok ⟨.int (parts f), false, []⟩
  | f, 0, d, _, _, h => by omega
  | f, 1, d, _, _, h => by omega
  | f, n + 2, d, hf, hd, hn => by
    rw [callF_at (fn := f_deep_of) rfl rfl (Nat.le_of_ble_eq_true rfl)]
    have h4 : ¬ (4 : Int) < d := by have := deep_pos f; omega
    have e1 := e_inner n f
    have e2 := e_fit2 (n + 1) f hf (by have := deep_pos f; omega)
    match f, hf, hd, hn, e1, e2 with
    | .num i, hf, hd, hn, e1, e2 =>
      simp only [enc] at e1 e2
      simp [rbind_ok, rbind_exc, rbind_stuck, ofO_some, ofO_none, seqS_nx, seqS_rt, seqS_exc, lcNext_E, lcStep_ok, lcCons_ok, lcLoop_nil, lcLoop_step, foNext_E, forLoop_nil, forLoop_step, ssNext_E, evSs_nil, evSs_cons, x_var, x_cst, x_glo, x_bin, y_bin, x_neg, x_not, x_and, y_and, z_and, x_or, y_or, z_or, x_cmp, y_cmp, x_chn, y_chn, z_chn, w_chnT, w_chnF, x_ife, y_ife, z_ife, x_call, x_blt, x_isi, x_sub, y_sub, x_slc, y_slc, z_slc, x_tup, x_lst, a_nil, a_cons, a_cons1, a_cons2, e_nil, e_cons, e_cons1, g_nil, g_ref, g_c0, g_c1, g_c2, g_c3, g_c4, g_c5, g_c6, g_c7, g_c8, g_c9, g_c10, g_c11, g_c12, g_c13, g_c14, g_c15, g_c16, g_c17, g_c18, g_cons1, g_cons2, o_none, o_some, c_nil, c_cons, c_cons1, c_cons2, t_E, truW_E, rdAll_nil, rdAll_cons, lcEnd_ok, turn_E, turn_E1, turn_E2, turn_E3, x_lc, y_lc, z_lc, s_for, s_for1, s_for2, fturn_E, fturn_E1, unlR_ok, s_nop, s_set, s_setT, s_setI, s_setI1, s_mut, s_ext, s_expr, s_ret, s_retN, s_ite, s_ite1, s_rais, callEnd_ok, callEnd_exc, callAt_E, callAt_E1, retOf, M.rfs, startE, slotOf, isR, refsOf, argsAt, putRefs, fzv, fzn, rdv, setS, fr_none, fr_sh, fr_ow, fr_rf, fr_ln, bindT, bindTs, MT.vars, MT.varsL, mutS, ownS, isd_int_none, isd_int_bool, isd_int_int, isd_int_str, isd_int_list, isd_int_tuple, isd_bool_none, isd_bool_bool, isd_bool_int, isd_bool_str, isd_bool_list, isd_bool_tuple, isd_str_none, isd_str_bool, isd_str_int, isd_str_str, isd_str_list, isd_str_tuple, isd_tuple_none, isd_tuple_bool, isd_tuple_int, isd_tuple_str, isd_tuple_list, isd_tuple_tuple, isd_list_none, isd_list_bool, isd_list_int, isd_list_str, isd_list_list, isd_list_tuple, eqOk, lendE, lend1, backE, wipeE, lent, slots, normW, unlend, L2.atI, L2.ixN, cutD, eqv_int, eqv_str, eqv_bool, eqv_list, eqv_tuple, eqva_nil, eqva_cons, eqva_l, eqva_r, dp_int, dp_str, dp_bool, dp_list, dp_tuple, dpa_nil, dpa_cons, ofStr_beq, intsD, boolsD, nd_int, nd_bool, nd_str, nd_none, nd_list, nd_tuple, szl, M.truD.eq_1, M.truD.eq_2, M.truD.eq_3, M.truD.eq_4, M.truD.eq_5, M.truD.eq_6, M.truD.eq_7, M.setD.eq_1, M.subD.eq_1, M.subD.eq_2, M.subD.eq_3, M.slcD.eq_1, M.slcD.eq_2, M.itemsD.eq_1, M.itemsD.eq_2, M.itemsD.eq_3, M.itemsD.eq_4, M.itemsD.eq_5, M.itemsD.eq_6, M.itemsD.eq_7, M.cmpD.eq_1, M.cmpD.eq_2, M.cmpD.eq_3, M.cmpD.eq_4, M.cmpD.eq_5, M.cmpD.eq_6, M.cmpD.eq_7, M.cmpD.eq_9, M.cmpD.eq_11, M.cmpD.eq_12, M.cmpD.eq_13, M.cmpD.eq_14, M.binD.eq_1, M.binD.eq_2, M.binD.eq_3, M.binD.eq_4, M.binD.eq_5, M.binD.eq_6, M.binD.eq_7, M.binD.eq_8, M.binD.eq_9, M.bltD.eq_1, M.bltD.eq_2, M.bltD.eq_3, M.bltD.eq_4, M.bltD.eq_5, M.bltD.eq_6, M.bltD.eq_7, M.bltD.eq_8, M.bltD.eq_9, M.bltD.eq_10, M.bltD.eq_11, M.bltD.eq_12, M.bltD.eq_13, M.bltD.eq_14, M.mutD.eq_1, M.mutD.eq_2, M.extD.eq_1, HT.sIx.eq_1, HT.sIx.eq_2, f_deep_of, b_deep_of, gw, enc, h4, e1, e2, kids, parts]
    | .worth i j, hf, hd, hn, e1, e2 =>
      simp only [enc] at e1 e2
      simp [rbind_ok, rbind_exc, rbind_stuck, ofO_some, ofO_none, seqS_nx, seqS_rt, seqS_exc, lcNext_E, lcStep_ok, lcCons_ok, lcLoop_nil, lcLoop_step, foNext_E, forLoop_nil, forLoop_step, ssNext_E, evSs_nil, evSs_cons, x_var, x_cst, x_glo, x_bin, y_bin, x_neg, x_not, x_and, y_and, z_and, x_or, y_or, z_or, x_cmp, y_cmp, x_chn, y_chn, z_chn, w_chnT, w_chnF, x_ife, y_ife, z_ife, x_call, x_blt, x_isi, x_sub, y_sub, x_slc, y_slc, z_slc, x_tup, x_lst, a_nil, a_cons, a_cons1, a_cons2, e_nil, e_cons, e_cons1, g_nil, g_ref, g_c0, g_c1, g_c2, g_c3, g_c4, g_c5, g_c6, g_c7, g_c8, g_c9, g_c10, g_c11, g_c12, g_c13, g_c14, g_c15, g_c16, g_c17, g_c18, g_cons1, g_cons2, o_none, o_some, c_nil, c_cons, c_cons1, c_cons2, t_E, truW_E, rdAll_nil, rdAll_cons, lcEnd_ok, turn_E, turn_E1, turn_E2, turn_E3, x_lc, y_lc, z_lc, s_for, s_for1, s_for2, fturn_E, fturn_E1, unlR_ok, s_nop, s_set, s_setT, s_setI, s_setI1, s_mut, s_ext, s_expr, s_ret, s_retN, s_ite, s_ite1, s_rais, callEnd_ok, callEnd_exc, callAt_E, callAt_E1, retOf, M.rfs, startE, slotOf, isR, refsOf, argsAt, putRefs, fzv, fzn, rdv, setS, fr_none, fr_sh, fr_ow, fr_rf, fr_ln, bindT, bindTs, MT.vars, MT.varsL, mutS, ownS, isd_int_none, isd_int_bool, isd_int_int, isd_int_str, isd_int_list, isd_int_tuple, isd_bool_none, isd_bool_bool, isd_bool_int, isd_bool_str, isd_bool_list, isd_bool_tuple, isd_str_none, isd_str_bool, isd_str_int, isd_str_str, isd_str_list, isd_str_tuple, isd_tuple_none, isd_tuple_bool, isd_tuple_int, isd_tuple_str, isd_tuple_list, isd_tuple_tuple, isd_list_none, isd_list_bool, isd_list_int, isd_list_str, isd_list_list, isd_list_tuple, eqOk, lendE, lend1, backE, wipeE, lent, slots, normW, unlend, L2.atI, L2.ixN, cutD, eqv_int, eqv_str, eqv_bool, eqv_list, eqv_tuple, eqva_nil, eqva_cons, eqva_l, eqva_r, dp_int, dp_str, dp_bool, dp_list, dp_tuple, dpa_nil, dpa_cons, ofStr_beq, intsD, boolsD, nd_int, nd_bool, nd_str, nd_none, nd_list, nd_tuple, szl, M.truD.eq_1, M.truD.eq_2, M.truD.eq_3, M.truD.eq_4, M.truD.eq_5, M.truD.eq_6, M.truD.eq_7, M.setD.eq_1, M.subD.eq_1, M.subD.eq_2, M.subD.eq_3, M.slcD.eq_1, M.slcD.eq_2, M.itemsD.eq_1, M.itemsD.eq_2, M.itemsD.eq_3, M.itemsD.eq_4, M.itemsD.eq_5, M.itemsD.eq_6, M.itemsD.eq_7, M.cmpD.eq_1, M.cmpD.eq_2, M.cmpD.eq_3, M.cmpD.eq_4, M.cmpD.eq_5, M.cmpD.eq_6, M.cmpD.eq_7, M.cmpD.eq_9, M.cmpD.eq_11, M.cmpD.eq_12, M.cmpD.eq_13, M.cmpD.eq_14, M.binD.eq_1, M.binD.eq_2, M.binD.eq_3, M.binD.eq_4, M.binD.eq_5, M.binD.eq_6, M.binD.eq_7, M.binD.eq_8, M.binD.eq_9, M.bltD.eq_1, M.bltD.eq_2, M.bltD.eq_3, M.bltD.eq_4, M.bltD.eq_5, M.bltD.eq_6, M.bltD.eq_7, M.bltD.eq_8, M.bltD.eq_9, M.bltD.eq_10, M.bltD.eq_11, M.bltD.eq_12, M.bltD.eq_13, M.bltD.eq_14, M.mutD.eq_1, M.mutD.eq_2, M.extD.eq_1, HT.sIx.eq_1, HT.sIx.eq_2, f_deep_of, b_deep_of, gw, enc, h4, e1, e2, kids, parts]
    | .two w a b, hf, hd, hn, e1, e2 =>
      simp only [deep] at hd hn
      have i1 := e_deep a (n + 1) (d + 1) hf.1 (by omega) (by omega)
      have i2 := e_deep b (n + 1) (d + 1) hf.2 (by omega) (by omega)
      simp only [enc] at e1 e2
      cases w <;> simp only [Wo.s] at e1 e2 <;> simp [rbind_ok, rbind_exc, rbind_stuck, ofO_some, ofO_none, seqS_nx, seqS_rt, seqS_exc, lcNext_E, lcStep_ok, lcCons_ok, lcLoop_nil, lcLoop_step, foNext_E, forLoop_nil, forLoop_step, ssNext_E, evSs_nil, evSs_cons, x_var, x_cst, x_glo, x_bin, y_bin, x_neg, x_not, x_and, y_and, z_and, x_or, y_or, z_or, x_cmp, y_cmp, x_chn, y_chn, z_chn, w_chnT, w_chnF, x_ife, y_ife, z_ife, x_call, x_blt, x_isi, x_sub, y_sub, x_slc, y_slc, z_slc, x_tup, x_lst, a_nil, a_cons, a_cons1, a_cons2, e_nil, e_cons, e_cons1, g_nil, g_ref, g_c0, g_c1, g_c2, g_c3, g_c4, g_c5, g_c6, g_c7, g_c8, g_c9, g_c10, g_c11, g_c12, g_c13, g_c14, g_c15, g_c16, g_c17, g_c18, g_cons1, g_cons2, o_none, o_some, c_nil, c_cons, c_cons1, c_cons2, t_E, truW_E, rdAll_nil, rdAll_cons, lcEnd_ok, turn_E, turn_E1, turn_E2, turn_E3, x_lc, y_lc, z_lc, s_for, s_for1, s_for2, fturn_E, fturn_E1, unlR_ok, s_nop, s_set, s_setT, s_setI, s_setI1, s_mut, s_ext, s_expr, s_ret, s_retN, s_ite, s_ite1, s_rais, callEnd_ok, callEnd_exc, callAt_E, callAt_E1, retOf, M.rfs, startE, slotOf, isR, refsOf, argsAt, putRefs, fzv, fzn, rdv, setS, fr_none, fr_sh, fr_ow, fr_rf, fr_ln, bindT, bindTs, MT.vars, MT.varsL, mutS, ownS, isd_int_none, isd_int_bool, isd_int_int, isd_int_str, isd_int_list, isd_int_tuple, isd_bool_none, isd_bool_bool, isd_bool_int, isd_bool_str, isd_bool_list, isd_bool_tuple, isd_str_none, isd_str_bool, isd_str_int, isd_str_str, isd_str_list, isd_str_tuple, isd_tuple_none, isd_tuple_bool, isd_tuple_int, isd_tuple_str, isd_tuple_list, isd_tuple_tuple, isd_list_none, isd_list_bool, isd_list_int, isd_list_str, isd_list_list, isd_list_tuple, eqOk, lendE, lend1, backE, wipeE, lent, slots, normW, unlend, L2.atI, L2.ixN, cutD, eqv_int, eqv_str, eqv_bool, eqv_list, eqv_tuple, eqva_nil, eqva_cons, eqva_l, eqva_r, dp_int, dp_str, dp_bool, dp_list, dp_tuple, dpa_nil, dpa_cons, ofStr_beq, intsD, boolsD, nd_int, nd_bool, nd_str, nd_none, nd_list, nd_tuple, szl, M.truD.eq_1, M.truD.eq_2, M.truD.eq_3, M.truD.eq_4, M.truD.eq_5, M.truD.eq_6, M.truD.eq_7, M.setD.eq_1, M.subD.eq_1, M.subD.eq_2, M.subD.eq_3, M.slcD.eq_1, M.slcD.eq_2, M.itemsD.eq_1, M.itemsD.eq_2, M.itemsD.eq_3, M.itemsD.eq_4, M.itemsD.eq_5, M.itemsD.eq_6, M.itemsD.eq_7, M.cmpD.eq_1, M.cmpD.eq_2, M.cmpD.eq_3, M.cmpD.eq_4, M.cmpD.eq_5, M.cmpD.eq_6, M.cmpD.eq_7, M.cmpD.eq_9, M.cmpD.eq_11, M.cmpD.eq_12, M.cmpD.eq_13, M.cmpD.eq_14, M.binD.eq_1, M.binD.eq_2, M.binD.eq_3, M.binD.eq_4, M.binD.eq_5, M.binD.eq_6, M.binD.eq_7, M.binD.eq_8, M.binD.eq_9, M.bltD.eq_1, M.bltD.eq_2, M.bltD.eq_3, M.bltD.eq_4, M.bltD.eq_5, M.bltD.eq_6, M.bltD.eq_7, M.bltD.eq_8, M.bltD.eq_9, M.bltD.eq_10, M.bltD.eq_11, M.bltD.eq_12, M.bltD.eq_13, M.bltD.eq_14, M.mutD.eq_1, M.mutD.eq_2, M.extD.eq_1, HT.sIx.eq_1, HT.sIx.eq_2, f_deep_of, b_deep_of, gw, enc, h4, e1, e2, kids, parts, i1, i2, Wo.s]
    | .times c a, hf, hd, hn, e1, e2 =>
      simp only [deep] at hd hn
      have i1 := e_deep a (n + 1) (d + 1) hf.2 (by omega) (by omega)
      simp only [enc] at e1 e2
      simp [rbind_ok, rbind_exc, rbind_stuck, ofO_some, ofO_none, seqS_nx, seqS_rt, seqS_exc, lcNext_E, lcStep_ok, lcCons_ok, lcLoop_nil, lcLoop_step, foNext_E, forLoop_nil, forLoop_step, ssNext_E, evSs_nil, evSs_cons, x_var, x_cst, x_glo, x_bin, y_bin, x_neg, x_not, x_and, y_and, z_and, x_or, y_or, z_or, x_cmp, y_cmp, x_chn, y_chn, z_chn, w_chnT, w_chnF, x_ife, y_ife, z_ife, x_call, x_blt, x_isi, x_sub, y_sub, x_slc, y_slc, z_slc, x_tup, x_lst, a_nil, a_cons, a_cons1, a_cons2, e_nil, e_cons, e_cons1, g_nil, g_ref, g_c0, g_c1, g_c2, g_c3, g_c4, g_c5, g_c6, g_c7, g_c8, g_c9, g_c10, g_c11, g_c12, g_c13, g_c14, g_c15, g_c16, g_c17, g_c18, g_cons1, g_cons2, o_none, o_some, c_nil, c_cons, c_cons1, c_cons2, t_E, truW_E, rdAll_nil, rdAll_cons, lcEnd_ok, turn_E, turn_E1, turn_E2, turn_E3, x_lc, y_lc, z_lc, s_for, s_for1, s_for2, fturn_E, fturn_E1, unlR_ok, s_nop, s_set, s_setT, s_setI, s_setI1, s_mut, s_ext, s_expr, s_ret, s_retN, s_ite, s_ite1, s_rais, callEnd_ok, callEnd_exc, callAt_E, callAt_E1, retOf, M.rfs, startE, slotOf, isR, refsOf, argsAt, putRefs, fzv, fzn, rdv, setS, fr_none, fr_sh, fr_ow, fr_rf, fr_ln, bindT, bindTs, MT.vars, MT.varsL, mutS, ownS, isd_int_none, isd_int_bool, isd_int_int, isd_int_str, isd_int_list, isd_int_tuple, isd_bool_none, isd_bool_bool, isd_bool_int, isd_bool_str, isd_bool_list, isd_bool_tuple, isd_str_none, isd_str_bool, isd_str_int, isd_str_str, isd_str_list, isd_str_tuple, isd_tuple_none, isd_tuple_bool, isd_tuple_int, isd_tuple_str, isd_tuple_list, isd_tuple_tuple, isd_list_none, isd_list_bool, isd_list_int, isd_list_str, isd_list_list, isd_list_tuple, eqOk, lendE, lend1, backE, wipeE, lent, slots, normW, unlend, L2.atI, L2.ixN, cutD, eqv_int, eqv_str, eqv_bool, eqv_list, eqv_tuple, eqva_nil, eqva_cons, eqva_l, eqva_r, dp_int, dp_str, dp_bool, dp_list, dp_tuple, dpa_nil, dpa_cons, ofStr_beq, intsD, boolsD, nd_int, nd_bool, nd_str, nd_none, nd_list, nd_tuple, szl, M.truD.eq_1, M.truD.eq_2, M.truD.eq_3, M.truD.eq_4, M.truD.eq_5, M.truD.eq_6, M.truD.eq_7, M.setD.eq_1, M.subD.eq_1, M.subD.eq_2, M.subD.eq_3, M.slcD.eq_1, M.slcD.eq_2, M.itemsD.eq_1, M.itemsD.eq_2, M.itemsD.eq_3, M.itemsD.eq_4, M.itemsD.eq_5, M.itemsD.eq_6, M.itemsD.eq_7, M.cmpD.eq_1, M.cmpD.eq_2, M.cmpD.eq_3, M.cmpD.eq_4, M.cmpD.eq_5, M.cmpD.eq_6, M.cmpD.eq_7, M.cmpD.eq_9, M.cmpD.eq_11, M.cmpD.eq_12, M.cmpD.eq_13, M.cmpD.eq_14, M.binD.eq_1, M.binD.eq_2, M.binD.eq_3, M.binD.eq_4, M.binD.eq_5, M.binD.eq_6, M.binD.eq_7, M.binD.eq_8, M.binD.eq_9, M.bltD.eq_1, M.bltD.eq_2, M.bltD.eq_3, M.bltD.eq_4, M.bltD.eq_5, M.bltD.eq_6, M.bltD.eq_7, M.bltD.eq_8, M.bltD.eq_9, M.bltD.eq_10, M.bltD.eq_11, M.bltD.eq_12, M.bltD.eq_13, M.bltD.eq_14, M.mutD.eq_1, M.mutD.eq_2, M.extD.eq_1, HT.sIx.eq_1, HT.sIx.eq_2, f_deep_of, b_deep_of, gw, enc, h4, e1, e2, kids, parts, i1]
    | .rest c a, hf, hd, hn, e1, e2 =>
      simp only [deep] at hd hn
      have i1 := e_deep a (n + 1) (d + 1) hf.2 (by omega) (by omega)
      simp only [enc] at e1 e2
      simp [rbind_ok, rbind_exc, rbind_stuck, ofO_some, ofO_none, seqS_nx, seqS_rt, seqS_exc, lcNext_E, lcStep_ok, lcCons_ok, lcLoop_nil, lcLoop_step, foNext_E, forLoop_nil, forLoop_step, ssNext_E, evSs_nil, evSs_cons, x_var, x_cst, x_glo, x_bin, y_bin, x_neg, x_not, x_and, y_and, z_and, x_or, y_or, z_or, x_cmp, y_cmp, x_chn, y_chn, z_chn, w_chnT, w_chnF, x_ife, y_ife, z_ife, x_call, x_blt, x_isi, x_sub, y_sub, x_slc, y_slc, z_slc, x_tup, x_lst, a_nil, a_cons, a_cons1, a_cons2, e_nil, e_cons, e_cons1, g_nil, g_ref, g_c0, g_c1, g_c2, g_c3, g_c4, g_c5, g_c6, g_c7, g_c8, g_c9, g_c10, g_c11, g_c12, g_c13, g_c14, g_c15, g_c16, g_c17, g_c18, g_cons1, g_cons2, o_none, o_some, c_nil, c_cons, c_cons1, c_cons2, t_E, truW_E, rdAll_nil, rdAll_cons, lcEnd_ok, turn_E, turn_E1, turn_E2, turn_E3, x_lc, y_lc, z_lc, s_for, s_for1, s_for2, fturn_E, fturn_E1, unlR_ok, s_nop, s_set, s_setT, s_setI, s_setI1, s_mut, s_ext, s_expr, s_ret, s_retN, s_ite, s_ite1, s_rais, callEnd_ok, callEnd_exc, callAt_E, callAt_E1, retOf, M.rfs, startE, slotOf, isR, refsOf, argsAt, putRefs, fzv, fzn, rdv, setS, fr_none, fr_sh, fr_ow, fr_rf, fr_ln, bindT, bindTs, MT.vars, MT.varsL, mutS, ownS, isd_int_none, isd_int_bool, isd_int_int, isd_int_str, isd_int_list, isd_int_tuple, isd_bool_none, isd_bool_bool, isd_bool_int, isd_bool_str, isd_bool_list, isd_bool_tuple, isd_str_none, isd_str_bool, isd_str_int, isd_str_str, isd_str_list, isd_str_tuple, isd_tuple_none, isd_tuple_bool, isd_tuple_int, isd_tuple_str, isd_tuple_list, isd_tuple_tuple, isd_list_none, isd_list_bool, isd_list_int, isd_list_str, isd_list_list, isd_list_tuple, eqOk, lendE, lend1, backE, wipeE, lent, slots, normW, unlend, L2.atI, L2.ixN, cutD, eqv_int, eqv_str, eqv_bool, eqv_list, eqv_tuple, eqva_nil, eqva_cons, eqva_l, eqva_r, dp_int, dp_str, dp_bool, dp_list, dp_tuple, dpa_nil, dpa_cons, ofStr_beq, intsD, boolsD, nd_int, nd_bool, nd_str, nd_none, nd_list, nd_tuple, szl, M.truD.eq_1, M.truD.eq_2, M.truD.eq_3, M.truD.eq_4, M.truD.eq_5, M.truD.eq_6, M.truD.eq_7, M.setD.eq_1, M.subD.eq_1, M.subD.eq_2, M.subD.eq_3, M.slcD.eq_1, M.slcD.eq_2, M.itemsD.eq_1, M.itemsD.eq_2, M.itemsD.eq_3, M.itemsD.eq_4, M.itemsD.eq_5, M.itemsD.eq_6, M.itemsD.eq_7, M.cmpD.eq_1, M.cmpD.eq_2, M.cmpD.eq_3, M.cmpD.eq_4, M.cmpD.eq_5, M.cmpD.eq_6, M.cmpD.eq_7, M.cmpD.eq_9, M.cmpD.eq_11, M.cmpD.eq_12, M.cmpD.eq_13, M.cmpD.eq_14, M.binD.eq_1, M.binD.eq_2, M.binD.eq_3, M.binD.eq_4, M.binD.eq_5, M.binD.eq_6, M.binD.eq_7, M.binD.eq_8, M.binD.eq_9, M.bltD.eq_1, M.bltD.eq_2, M.bltD.eq_3, M.bltD.eq_4, M.bltD.eq_5, M.bltD.eq_6, M.bltD.eq_7, M.bltD.eq_8, M.bltD.eq_9, M.bltD.eq_10, M.bltD.eq_11, M.bltD.eq_12, M.bltD.eq_13, M.bltD.eq_14, M.mutD.eq_1, M.mutD.eq_2, M.extD.eq_1, HT.sIx.eq_1, HT.sIx.eq_2, f_deep_of, b_deep_of, gw, enc, h4, e1, e2, kids, parts, i1]
    | .pick a b c, hf, hd, hn, e1, e2 =>
      simp only [deep] at hd hn
      have i1 := e_deep a (n + 1) (d + 1) hf.1 (by omega) (by omega)
      have i2 := e_deep b (n + 1) (d + 1) hf.2.1 (by omega) (by omega)
      have i3 := e_deep c (n + 1) (d + 1) hf.2.2 (by omega) (by omega)
      simp only [enc] at e1 e2
      simp [rbind_ok, rbind_exc, rbind_stuck, ofO_some, ofO_none, seqS_nx, seqS_rt, seqS_exc, lcNext_E, lcStep_ok, lcCons_ok, lcLoop_nil, lcLoop_step, foNext_E, forLoop_nil, forLoop_step, ssNext_E, evSs_nil, evSs_cons, x_var, x_cst, x_glo, x_bin, y_bin, x_neg, x_not, x_and, y_and, z_and, x_or, y_or, z_or, x_cmp, y_cmp, x_chn, y_chn, z_chn, w_chnT, w_chnF, x_ife, y_ife, z_ife, x_call, x_blt, x_isi, x_sub, y_sub, x_slc, y_slc, z_slc, x_tup, x_lst, a_nil, a_cons, a_cons1, a_cons2, e_nil, e_cons, e_cons1, g_nil, g_ref, g_c0, g_c1, g_c2, g_c3, g_c4, g_c5, g_c6, g_c7, g_c8, g_c9, g_c10, g_c11, g_c12, g_c13, g_c14, g_c15, g_c16, g_c17, g_c18, g_cons1, g_cons2, o_none, o_some, c_nil, c_cons, c_cons1, c_cons2, t_E, truW_E, rdAll_nil, rdAll_cons, lcEnd_ok, turn_E, turn_E1, turn_E2, turn_E3, x_lc, y_lc, z_lc, s_for, s_for1, s_for2, fturn_E, fturn_E1, unlR_ok, s_nop, s_set, s_setT, s_setI, s_setI1, s_mut, s_ext, s_expr, s_ret, s_retN, s_ite, s_ite1, s_rais, callEnd_ok, callEnd_exc, callAt_E, callAt_E1, retOf, M.rfs, startE, slotOf, isR, refsOf, argsAt, putRefs, fzv, fzn, rdv, setS, fr_none, fr_sh, fr_ow, fr_rf, fr_ln, bindT, bindTs, MT.vars, MT.varsL, mutS, ownS, isd_int_none, isd_int_bool, isd_int_int, isd_int_str, isd_int_list, isd_int_tuple, isd_bool_none, isd_bool_bool, isd_bool_int, isd_bool_str, isd_bool_list, isd_bool_tuple, isd_str_none, isd_str_bool, isd_str_int, isd_str_str, isd_str_list, isd_str_tuple, isd_tuple_none, isd_tuple_bool, isd_tuple_int, isd_tuple_str, isd_tuple_list, isd_tuple_tuple, isd_list_none, isd_list_bool, isd_list_int, isd_list_str, isd_list_list, isd_list_tuple, eqOk, lendE, lend1, backE, wipeE, lent, slots, normW, unlend, L2.atI, L2.ixN, cutD, eqv_int, eqv_str, eqv_bool, eqv_list, eqv_tuple, eqva_nil, eqva_cons, eqva_l, eqva_r, dp_int, dp_str, dp_bool, dp_list, dp_tuple, dpa_nil, dpa_cons, ofStr_beq, intsD, boolsD, nd_int, nd_bool, nd_str, nd_none, nd_list, nd_tuple, szl, M.truD.eq_1, M.truD.eq_2, M.truD.eq_3, M.truD.eq_4, M.truD.eq_5, M.truD.eq_6, M.truD.eq_7, M.setD.eq_1, M.subD.eq_1, M.subD.eq_2, M.subD.eq_3, M.slcD.eq_1, M.slcD.eq_2, M.itemsD.eq_1, M.itemsD.eq_2, M.itemsD.eq_3, M.itemsD.eq_4, M.itemsD.eq_5, M.itemsD.eq_6, M.itemsD.eq_7, M.cmpD.eq_1, M.cmpD.eq_2, M.cmpD.eq_3, M.cmpD.eq_4, M.cmpD.eq_5, M.cmpD.eq_6, M.cmpD.eq_7, M.cmpD.eq_9, M.cmpD.eq_11, M.cmpD.eq_12, M.cmpD.eq_13, M.cmpD.eq_14, M.binD.eq_1, M.binD.eq_2, M.binD.eq_3, M.binD.eq_4, M.binD.eq_5, M.binD.eq_6, M.binD.eq_7, M.binD.eq_8, M.binD.eq_9, M.bltD.eq_1, M.bltD.eq_2, M.bltD.eq_3, M.bltD.eq_4, M.bltD.eq_5, M.bltD.eq_6, M.bltD.eq_7, M.bltD.eq_8, M.bltD.eq_9, M.bltD.eq_10, M.bltD.eq_11, M.bltD.eq_12, M.bltD.eq_13, M.bltD.eq_14, M.mutD.eq_1, M.mutD.eq_2, M.extD.eq_1, HT.sIx.eq_1, HT.sIx.eq_2, f_deep_of, b_deep_of, gw, enc, h4, e1, e2, kids, parts, i1, i2, i3]
end K02
namespace K02
open PySem M
theorem enc_isT (f : Fm) : isD .tuple (enc f) = true := by cases f <;> rfl
theorem e_names : ∀ (f : Fm) (n : Nat), (names f).length ≤ 60 → deep f + 1 ≤ n → callF F G n fi_names_in [.v (enc f)] = .ok ⟨.list ((names f).map pD), true, []⟩
  | f, 0, _, h => by omega
  | f, n + 1, hz, hn => by
    rw [callF_at (fn := f_names_in) rfl rfl (Nat.le_of_ble_eq_true rfl)]
    obtain ⟨m, rfl⟩ : ∃ m, n = m + 1 := ⟨n - 1, by have := deep_pos f; omega⟩
    have e1 := e_inner m f
    match f, hz, hn, e1 with
    | .num i, hz, hn, e1 =>
      simp only [enc] at e1
      simp [rbind_ok, rbind_exc, rbind_stuck, ofO_some, ofO_none, seqS_nx, seqS_rt, seqS_exc, lcNext_E, lcStep_ok, lcCons_ok, lcLoop_nil, lcLoop_step, foNext_E, forLoop_nil, forLoop_step, ssNext_E, evSs_nil, evSs_cons, x_var, x_cst, x_glo, x_bin, y_bin, x_neg, x_not, x_and, y_and, z_and, x_or, y_or, z_or, x_cmp, y_cmp, x_chn, y_chn, z_chn, w_chnT, w_chnF, x_ife, y_ife, z_ife, x_call, x_blt, x_isi, x_sub, y_sub, x_slc, y_slc, z_slc, x_tup, x_lst, a_nil, a_cons, a_cons1, a_cons2, e_nil, e_cons, e_cons1, g_nil, g_ref, g_c0, g_c1, g_c2, g_c3, g_c4, g_c5, g_c6, g_c7, g_c8, g_c9, g_c10, g_c11, g_c12, g_c13, g_c14, g_c15, g_c16, g_c17, g_c18, g_cons1, g_cons2, o_none, o_some, c_nil, c_cons, c_cons1, c_cons2, t_E, truW_E, rdAll_nil, rdAll_cons, lcEnd_ok, turn_E, turn_E1, turn_E2, turn_E3, x_lc, y_lc, z_lc, s_for, s_for1, s_for2, fturn_E, fturn_E1, unlR_ok, s_nop, s_set, s_setT, s_setI, s_setI1, s_mut, s_ext, s_expr, s_ret, s_retN, s_ite, s_ite1, s_rais, callEnd_ok, callEnd_exc, callAt_E, callAt_E1, retOf, M.rfs, startE, slotOf, isR, refsOf, argsAt, putRefs, fzv, fzn, rdv, setS, fr_none, fr_sh, fr_ow, fr_rf, fr_ln, bindT, bindTs, MT.vars, MT.varsL, mutS, ownS, isd_int_none, isd_int_bool, isd_int_int, isd_int_str, isd_int_list, isd_int_tuple, isd_bool_none, isd_bool_bool, isd_bool_int, isd_bool_str, isd_bool_list, isd_bool_tuple, isd_str_none, isd_str_bool, isd_str_int, isd_str_str, isd_str_list, isd_str_tuple, isd_tuple_none, isd_tuple_bool, isd_tuple_int, isd_tuple_str, isd_tuple_list, isd_tuple_tuple, isd_list_none, isd_list_bool, isd_list_int, isd_list_str, isd_list_list, isd_list_tuple, eqOk, lendE, lend1, backE, wipeE, lent, slots, normW, unlend, L2.atI, L2.ixN, cutD, eqv_int, eqv_str, eqv_bool, eqv_list, eqv_tuple, eqva_nil, eqva_cons, eqva_l, eqva_r, dp_int, dp_str, dp_bool, dp_list, dp_tuple, dpa_nil, dpa_cons, ofStr_beq, intsD, boolsD, nd_int, nd_bool, nd_str, nd_none, nd_list, nd_tuple, szl, M.truD.eq_1, M.truD.eq_2, M.truD.eq_3, M.truD.eq_4, M.truD.eq_5, M.truD.eq_6, M.truD.eq_7, M.setD.eq_1, M.subD.eq_1, M.subD.eq_2, M.subD.eq_3, M.slcD.eq_1, M.slcD.eq_2, M.itemsD.eq_1, M.itemsD.eq_2, M.itemsD.eq_3, M.itemsD.eq_4, M.itemsD.eq_5, M.itemsD.eq_6, M.itemsD.eq_7, M.cmpD.eq_1, M.cmpD.eq_2, M.cmpD.eq_3, M.cmpD.eq_4, M.cmpD.eq_5, M.cmpD.eq_6, M.cmpD.eq_7, M.cmpD.eq_9, M.cmpD.eq_11, M.cmpD.eq_12, M.cmpD.eq_13, M.cmpD.eq_14, M.binD.eq_1, M.binD.eq_2, M.binD.eq_3, M.binD.eq_4, M.binD.eq_5, M.binD.eq_6, M.binD.eq_7, M.binD.eq_8, M.binD.eq_9, M.bltD.eq_1, M.bltD.eq_2, M.bltD.eq_3, M.bltD.eq_4, M.bltD.eq_5, M.bltD.eq_6, M.bltD.eq_7, M.bltD.eq_8, M.bltD.eq_9, M.bltD.eq_10, M.bltD.eq_11, M.bltD.eq_12, M.bltD.eq_13, M.bltD.eq_14, M.mutD.eq_1, M.mutD.eq_2, M.extD.eq_1, HT.sIx.eq_1, HT.sIx.eq_2, f_names_in, b_names_in, gw, enc, e1, kids, names]
    | .worth i j, hz, hn, e1 =>
      simp [rbind_ok, rbind_exc, rbind_stuck, ofO_some, ofO_none, seqS_nx, seqS_rt, seqS_exc, lcNext_E, lcStep_ok, lcCons_ok, lcLoop_nil, lcLoop_step, foNext_E, forLoop_nil, forLoop_step, ssNext_E, evSs_nil, evSs_cons, x_var, x_cst, x_glo, x_bin, y_bin, x_neg, x_not, x_and, y_and, z_and, x_or, y_or, z_or, x_cmp, y_cmp, x_chn, y_chn, z_chn, w_chnT, w_chnF, x_ife, y_ife, z_ife, x_call, x_blt, x_isi, x_sub, y_sub, x_slc, y_slc, z_slc, x_tup, x_lst, a_nil, a_cons, a_cons1, a_cons2, e_nil, e_cons, e_cons1, g_nil, g_ref, g_c0, g_c1, g_c2, g_c3, g_c4, g_c5, g_c6, g_c7, g_c8, g_c9, g_c10, g_c11, g_c12, g_c13, g_c14, g_c15, g_c16, g_c17, g_c18, g_cons1, g_cons2, o_none, o_some, c_nil, c_cons, c_cons1, c_cons2, t_E, truW_E, rdAll_nil, rdAll_cons, lcEnd_ok, turn_E, turn_E1, turn_E2, turn_E3, x_lc, y_lc, z_lc, s_for, s_for1, s_for2, fturn_E, fturn_E1, unlR_ok, s_nop, s_set, s_setT, s_setI, s_setI1, s_mut, s_ext, s_expr, s_ret, s_retN, s_ite, s_ite1, s_rais, callEnd_ok, callEnd_exc, callAt_E, callAt_E1, retOf, M.rfs, startE, slotOf, isR, refsOf, argsAt, putRefs, fzv, fzn, rdv, setS, fr_none, fr_sh, fr_ow, fr_rf, fr_ln, bindT, bindTs, MT.vars, MT.varsL, mutS, ownS, isd_int_none, isd_int_bool, isd_int_int, isd_int_str, isd_int_list, isd_int_tuple, isd_bool_none, isd_bool_bool, isd_bool_int, isd_bool_str, isd_bool_list, isd_bool_tuple, isd_str_none, isd_str_bool, isd_str_int, isd_str_str, isd_str_list, isd_str_tuple, isd_tuple_none, isd_tuple_bool, isd_tuple_int, isd_tuple_str, isd_tuple_list, isd_tuple_tuple, isd_list_none, isd_list_bool, isd_list_int, isd_list_str, isd_list_list, isd_list_tuple, eqOk, lendE, lend1, backE, wipeE, lent, slots, normW, unlend, L2.atI, L2.ixN, cutD, eqv_int, eqv_str, eqv_bool, eqv_list, eqv_tuple, eqva_nil, eqva_cons, eqva_l, eqva_r, dp_int, dp_str, dp_bool, dp_list, dp_tuple, dpa_nil, dpa_cons, ofStr_beq, intsD, boolsD, nd_int, nd_bool, nd_str, nd_none, nd_list, nd_tuple, szl, M.truD.eq_1, M.truD.eq_2, M.truD.eq_3, M.truD.eq_4, M.truD.eq_5, M.truD.eq_6, M.truD.eq_7, M.setD.eq_1, M.subD.eq_1, M.subD.eq_2, M.subD.eq_3, M.slcD.eq_1, M.slcD.eq_2, M.itemsD.eq_1, M.itemsD.eq_2, M.itemsD.eq_3, M.itemsD.eq_4, M.itemsD.eq_5, M.itemsD.eq_6, M.itemsD.eq_7, M.cmpD.eq_1, M.cmpD.eq_2, M.cmpD.eq_3, M.cmpD.eq_4, M.cmpD.eq_5, M.cmpD.eq_6, M.cmpD.eq_7, M.cmpD.eq_9, M.cmpD.eq_11, M.cmpD.eq_12, M.cmpD.eq_13, M.cmpD.eq_14, M.binD.eq_1, M.binD.eq_2, M.binD.eq_3, M.binD.eq_4, M.binD.eq_5, M.binD.eq_6, M.binD.eq_7, M.binD.eq_8, M.binD.eq_9, M.bltD.eq_1, M.bltD.eq_2, M.bltD.eq_3, M.bltD.eq_4, M.bltD.eq_5, M.bltD.eq_6, M.bltD.eq_7, M.bltD.eq_8, M.bltD.eq_9, M.bltD.eq_10, M.bltD.eq_11, M.bltD.eq_12, M.bltD.eq_13, M.bltD.eq_14, M.mutD.eq_1, M.mutD.eq_2, M.extD.eq_1, HT.sIx.eq_1, HT.sIx.eq_2, f_names_in, b_names_in, gw, enc, names, pD]
    | .two w a b, hz, hn, e1 =>
      simp only [deep, names, List.length_append] at hz hn
      have i1 := e_names a (m + 1) (by omega) (by omega)
      have i2 := e_names b (m + 1) (by omega) (by omega)
      have z1 : (names a).length ≤ 16777216 := by omega
      have z2 : (names a).length + (names b).length ≤ 16777216 := by omega
      simp only [enc] at e1
      cases w <;> simp only [Wo.s] at e1 <;> simp [rbind_ok, rbind_exc, rbind_stuck, ofO_some, ofO_none, seqS_nx, seqS_rt, seqS_exc, lcNext_E, lcStep_ok, lcCons_ok, lcLoop_nil, lcLoop_step, foNext_E, forLoop_nil, forLoop_step, ssNext_E, evSs_nil, evSs_cons, x_var, x_cst, x_glo, x_bin, y_bin, x_neg, x_not, x_and, y_and, z_and, x_or, y_or, z_or, x_cmp, y_cmp, x_chn, y_chn, z_chn, w_chnT, w_chnF, x_ife, y_ife, z_ife, x_call, x_blt, x_isi, x_sub, y_sub, x_slc, y_slc, z_slc, x_tup, x_lst, a_nil, a_cons, a_cons1, a_cons2, e_nil, e_cons, e_cons1, g_nil, g_ref, g_c0, g_c1, g_c2, g_c3, g_c4, g_c5, g_c6, g_c7, g_c8, g_c9, g_c10, g_c11, g_c12, g_c13, g_c14, g_c15, g_c16, g_c17, g_c18, g_cons1, g_cons2, o_none, o_some, c_nil, c_cons, c_cons1, c_cons2, t_E, truW_E, rdAll_nil, rdAll_cons, lcEnd_ok, turn_E, turn_E1, turn_E2, turn_E3, x_lc, y_lc, z_lc, s_for, s_for1, s_for2, fturn_E, fturn_E1, unlR_ok, s_nop, s_set, s_setT, s_setI, s_setI1, s_mut, s_ext, s_expr, s_ret, s_retN, s_ite, s_ite1, s_rais, callEnd_ok, callEnd_exc, callAt_E, callAt_E1, retOf, M.rfs, startE, slotOf, isR, refsOf, argsAt, putRefs, fzv, fzn, rdv, setS, fr_none, fr_sh, fr_ow, fr_rf, fr_ln, bindT, bindTs, MT.vars, MT.varsL, mutS, ownS, isd_int_none, isd_int_bool, isd_int_int, isd_int_str, isd_int_list, isd_int_tuple, isd_bool_none, isd_bool_bool, isd_bool_int, isd_bool_str, isd_bool_list, isd_bool_tuple, isd_str_none, isd_str_bool, isd_str_int, isd_str_str, isd_str_list, isd_str_tuple, isd_tuple_none, isd_tuple_bool, isd_tuple_int, isd_tuple_str, isd_tuple_list, isd_tuple_tuple, isd_list_none, isd_list_bool, isd_list_int, isd_list_str, isd_list_list, isd_list_tuple, eqOk, lendE, lend1, backE, wipeE, lent, slots, normW, unlend, L2.atI, L2.ixN, cutD, eqv_int, eqv_str, eqv_bool, eqv_list, eqv_tuple, eqva_nil, eqva_cons, eqva_l, eqva_r, dp_int, dp_str, dp_bool, dp_list, dp_tuple, dpa_nil, dpa_cons, ofStr_beq, intsD, boolsD, nd_int, nd_bool, nd_str, nd_none, nd_list, nd_tuple, szl, M.truD.eq_1, M.truD.eq_2, M.truD.eq_3, M.truD.eq_4, M.truD.eq_5, M.truD.eq_6, M.truD.eq_7, M.setD.eq_1, M.subD.eq_1, M.subD.eq_2, M.subD.eq_3, M.slcD.eq_1, M.slcD.eq_2, M.itemsD.eq_1, M.itemsD.eq_2, M.itemsD.eq_3, M.itemsD.eq_4, M.itemsD.eq_5, M.itemsD.eq_6, M.itemsD.eq_7, M.cmpD.eq_1, M.cmpD.eq_2, M.cmpD.eq_3, M.cmpD.eq_4, M.cmpD.eq_5, M.cmpD.eq_6, M.cmpD.eq_7, M.cmpD.eq_9, M.cmpD.eq_11, M.cmpD.eq_12, M.cmpD.eq_13, M.cmpD.eq_14, M.binD.eq_1, M.binD.eq_2, M.binD.eq_3, M.binD.eq_4, M.binD.eq_5, M.binD.eq_6, M.binD.eq_7, M.binD.eq_8, M.binD.eq_9, M.bltD.eq_1, M.bltD.eq_2, M.bltD.eq_3, M.bltD.eq_4, M.bltD.eq_5, M.bltD.eq_6, M.bltD.eq_7, M.bltD.eq_8, M.bltD.eq_9, M.bltD.eq_10, M.bltD.eq_11, M.bltD.eq_12, M.bltD.eq_13, M.bltD.eq_14, M.mutD.eq_1, M.mutD.eq_2, M.extD.eq_1, HT.sIx.eq_1, HT.sIx.eq_2, f_names_in, b_names_in, gw, enc, e1, kids, names, i1, i2, z1, z2, Wo.s]
    | .times c a, hz, hn, e1 =>
      simp only [deep, names] at hz hn
      have i1 := e_names a (m + 1) (by omega) (by omega)
      have z1 : (names a).length ≤ 16777216 := by omega
      simp only [enc] at e1
      simp [rbind_ok, rbind_exc, rbind_stuck, ofO_some, ofO_none, seqS_nx, seqS_rt, seqS_exc, lcNext_E, lcStep_ok, lcCons_ok, lcLoop_nil, lcLoop_step, foNext_E, forLoop_nil, forLoop_step, ssNext_E, evSs_nil, evSs_cons, x_var, x_cst, x_glo, x_bin, y_bin, x_neg, x_not, x_and, y_and, z_and, x_or, y_or, z_or, x_cmp, y_cmp, x_chn, y_chn, z_chn, w_chnT, w_chnF, x_ife, y_ife, z_ife, x_call, x_blt, x_isi, x_sub, y_sub, x_slc, y_slc, z_slc, x_tup, x_lst, a_nil, a_cons, a_cons1, a_cons2, e_nil, e_cons, e_cons1, g_nil, g_ref, g_c0, g_c1, g_c2, g_c3, g_c4, g_c5, g_c6, g_c7, g_c8, g_c9, g_c10, g_c11, g_c12, g_c13, g_c14, g_c15, g_c16, g_c17, g_c18, g_cons1, g_cons2, o_none, o_some, c_nil, c_cons, c_cons1, c_cons2, t_E, truW_E, rdAll_nil, rdAll_cons, lcEnd_ok, turn_E, turn_E1, turn_E2, turn_E3, x_lc, y_lc, z_lc, s_for, s_for1, s_for2, fturn_E, fturn_E1, unlR_ok, s_nop, s_set, s_setT, s_setI, s_setI1, s_mut, s_ext, s_expr, s_ret, s_retN, s_ite, s_ite1, s_rais, callEnd_ok, callEnd_exc, callAt_E, callAt_E1, retOf, M.rfs, startE, slotOf, isR, refsOf, argsAt, putRefs, fzv, fzn, rdv, setS, fr_none, fr_sh, fr_ow, fr_rf, fr_ln, bindT, bindTs, MT.vars, MT.varsL, mutS, ownS, isd_int_none, isd_int_bool, isd_int_int, isd_int_str, isd_int_list, isd_int_tuple, isd_bool_none, isd_bool_bool, isd_bool_int, isd_bool_str, isd_bool_list, isd_bool_tuple, isd_str_none, isd_str_bool, isd_str_int, isd_str_str, isd_str_list, isd_str_tuple, isd_tuple_none, isd_tuple_bool, isd_tuple_int, isd_tuple_str, isd_tuple_list, isd_tuple_tuple, isd_list_none, isd_list_bool, isd_list_int, isd_list_str, isd_list_list, isd_list_tuple, eqOk, lendE, lend1, backE, wipeE, lent, slots, normW, unlend, L2.atI, L2.ixN, cutD, eqv_int, eqv_str, eqv_bool, eqv_list, eqv_tuple, eqva_nil, eqva_cons, eqva_l, eqva_r, dp_int, dp_str, dp_bool, dp_list, dp_tuple, dpa_nil, dpa_cons, ofStr_beq, intsD, boolsD, nd_int, nd_bool, nd_str, nd_none, nd_list, nd_tuple, szl, M.truD.eq_1, M.truD.eq_2, M.truD.eq_3, M.truD.eq_4, M.truD.eq_5, M.truD.eq_6, M.truD.eq_7, M.setD.eq_1, M.subD.eq_1, M.subD.eq_2, M.subD.eq_3, M.slcD.eq_1, M.slcD.eq_2, M.itemsD.eq_1, M.itemsD.eq_2, M.itemsD.eq_3, M.itemsD.eq_4, M.itemsD.eq_5, M.itemsD.eq_6, M.itemsD.eq_7, M.cmpD.eq_1, M.cmpD.eq_2, M.cmpD.eq_3, M.cmpD.eq_4, M.cmpD.eq_5, M.cmpD.eq_6, M.cmpD.eq_7, M.cmpD.eq_9, M.cmpD.eq_11, M.cmpD.eq_12, M.cmpD.eq_13, M.cmpD.eq_14, M.binD.eq_1, M.binD.eq_2, M.binD.eq_3, M.binD.eq_4, M.binD.eq_5, M.binD.eq_6, M.binD.eq_7, M.binD.eq_8, M.binD.eq_9, M.bltD.eq_1, M.bltD.eq_2, M.bltD.eq_3, M.bltD.eq_4, M.bltD.eq_5, M.bltD.eq_6, M.bltD.eq_7, M.bltD.eq_8, M.bltD.eq_9, M.bltD.eq_10, M.bltD.eq_11, M.bltD.eq_12, M.bltD.eq_13, M.bltD.eq_14, M.mutD.eq_1, M.mutD.eq_2, M.extD.eq_1, HT.sIx.eq_1, HT.sIx.eq_2, f_names_in, b_names_in, gw, enc, e1, kids, names, i1, z1]
    | .rest c a, hz, hn, e1 =>
      simp only [deep, names] at hz hn
      have i1 := e_names a (m + 1) (by omega) (by omega)
      have z1 : (names a).length ≤ 16777216 := by omega
      simp only [enc] at e1
      simp [rbind_ok, rbind_exc, rbind_stuck, ofO_some, ofO_none, seqS_nx, seqS_rt, seqS_exc, lcNext_E, lcStep_ok, lcCons_ok, lcLoop_nil, lcLoop_step, foNext_E, forLoop_nil, forLoop_step, ssNext_E, evSs_nil, evSs_cons, x_var, x_cst, x_glo, x_bin, y_bin, x_neg, x_not, x_and, y_and, z_and, x_or, y_or, z_or, x_cmp, y_cmp, x_chn, y_chn, z_chn, w_chnT, w_chnF, x_ife, y_ife, z_ife, x_call, x_blt, x_isi, x_sub, y_sub, x_slc, y_slc, z_slc, x_tup, x_lst, a_nil, a_cons, a_cons1, a_cons2, e_nil, e_cons, e_cons1, g_nil, g_ref, g_c0, g_c1, g_c2, g_c3, g_c4, g_c5, g_c6, g_c7, g_c8, g_c9, g_c10, g_c11, g_c12, g_c13, g_c14, g_c15, g_c16, g_c17, g_c18, g_cons1, g_cons2, o_none, o_some, c_nil, c_cons, c_cons1, c_cons2, t_E, truW_E, rdAll_nil, rdAll_cons, lcEnd_ok, turn_E, turn_E1, turn_E2, turn_E3, x_lc, y_lc, z_lc, s_for, s_for1, s_for2, fturn_E, fturn_E1, unlR_ok, s_nop, s_set, s_setT, s_setI, s_setI1, s_mut, s_ext, s_expr, s_ret, s_retN, s_ite, s_ite1, s_rais, callEnd_ok, callEnd_exc, callAt_E, callAt_E1, retOf, M.rfs, startE, slotOf, isR, refsOf, argsAt, putRefs, fzv, fzn, rdv, setS, fr_none, fr_sh, fr_ow, fr_rf, fr_ln, bindT, bindTs, MT.vars, MT.varsL, mutS, ownS, isd_int_none, isd_int_bool, isd_int_int, isd_int_str, isd_int_list, isd_int_tuple, isd_bool_none, isd_bool_bool, isd_bool_int, isd_bool_str, isd_bool_list, isd_bool_tuple, isd_str_none, isd_str_bool, isd_str_int, isd_str_str, isd_str_list, isd_str_tuple, isd_tuple_none, isd_tuple_bool, isd_tuple_int, isd_tuple_str, isd_tuple_list, isd_tuple_tuple, isd_list_none, isd_list_bool, isd_list_int, isd_list_str, isd_list_list, isd_list_tuple, eqOk, lendE, lend1, backE, wipeE, lent, slots, normW, unlend, L2.atI, L2.ixN, cutD, eqv_int, eqv_str, eqv_bool, eqv_list, eqv_tuple, eqva_nil, eqva_cons, eqva_l, eqva_r, dp_int, dp_str, dp_bool, dp_list, dp_tuple, dpa_nil, dpa_cons, ofStr_beq, intsD, boolsD, nd_int, nd_bool, nd_str, nd_none, nd_list, nd_tuple, szl, M.truD.eq_1, M.truD.eq_2, M.truD.eq_3, M.truD.eq_4, M.truD.eq_5, M.truD.eq_6, M.truD.eq_7, M.setD.eq_1, M.subD.eq_1, M.subD.eq_2, M.subD.eq_3, M.slcD.eq_1, M.slcD.eq_2, M.itemsD.eq_1, M.itemsD.eq_2, M.itemsD.eq_3, M.itemsD.eq_4, M.itemsD.eq_5, M.itemsD.eq_6, M.itemsD.eq_7, M.cmpD.eq_1, M.cmpD.eq_2, M.cmpD.eq_3, M.cmpD.eq_4, M.cmpD.eq_5, M.cmpD.eq_6, M.cmpD.eq_7, M.cmpD.eq_9, M.cmpD.eq_11, M.cmpD.eq_12, M.cmpD.eq_13, M.cmpD.eq_14, M.binD.eq_1, M.binD.eq_2, M.binD.eq_3, M.binD.eq_4, M.binD.eq_5, M.binD.eq_6, M.binD.eq_7, M.binD.eq_8, M.binD.eq_9, M.bltD.eq_1, M.bltD.eq_2, M.bltD.eq_3, M.bltD.eq_4, M.bltD.eq_5, M.bltD.eq_6, M.bltD.eq_7, M.bltD.eq_8, M.bltD.eq_9, M.bltD.eq_10, M.bltD.eq_11, M.bltD.eq_12, M.bltD.eq_13, M.bltD.eq_14, M.mutD.eq_1, M.mutD.eq_2, M.extD.eq_1, HT.sIx.eq_1, HT.sIx.eq_2, f_names_in, b_names_in, gw, enc, e1, kids, names, i1, z1]
    | .pick a b c, hz, hn, e1 =>
      simp only [deep, names, List.length_append] at hz hn
      have i1 := e_names a (m + 1) (by omega) (by omega)
      have i2 := e_names b (m + 1) (by omega) (by omega)
      have i3 := e_names c (m + 1) (by omega) (by omega)
      have z1 : (names a).length ≤ 16777216 := by omega
      have z2 : (names a).length + (names b).length ≤ 16777216 := by omega
      have z3 : (names a).length + ((names b).length + (names c).length) ≤ 16777216 := by omega
      have z4 : (names a).length + (names b).length + (names c).length ≤ 16777216 := by omega
      simp only [enc] at e1
      simp [rbind_ok, rbind_exc, rbind_stuck, ofO_some, ofO_none, seqS_nx, seqS_rt, seqS_exc, lcNext_E, lcStep_ok, lcCons_ok, lcLoop_nil, lcLoop_step, foNext_E, forLoop_nil, forLoop_step, ssNext_E, evSs_nil, evSs_cons, x_var, x_cst, x_glo, x_bin, y_bin, x_neg, x_not, x_and, y_and, z_and, x_or, y_or, z_or, x_cmp, y_cmp, x_chn, y_chn, z_chn, w_chnT, w_chnF, x_ife, y_ife, z_ife, x_call, x_blt, x_isi, x_sub, y_sub, x_slc, y_slc, z_slc, x_tup, x_lst, a_nil, a_cons, a_cons1, a_cons2, e_nil, e_cons, e_cons1, g_nil, g_ref, g_c0, g_c1, g_c2, g_c3, g_c4, g_c5, g_c6, g_c7, g_c8, g_c9, g_c10, g_c11, g_c12, g_c13, g_c14, g_c15, g_c16, g_c17, g_c18, g_cons1, g_cons2, o_none, o_some, c_nil, c_cons, c_cons1, c_cons2, t_E, truW_E, rdAll_nil, rdAll_cons, lcEnd_ok, turn_E, turn_E1, turn_E2, turn_E3, x_lc, y_lc, z_lc, s_for, s_for1, s_for2, fturn_E, fturn_E1, unlR_ok, s_nop, s_set, s_setT, s_setI, s_setI1, s_mut, s_ext, s_expr, s_ret, s_retN, s_ite, s_ite1, s_rais, callEnd_ok, callEnd_exc, callAt_E, callAt_E1, retOf, M.rfs, startE, slotOf, isR, refsOf, argsAt, putRefs, fzv, fzn, rdv, setS, fr_none, fr_sh, fr_ow, fr_rf, fr_ln, bindT, bindTs, MT.vars, MT.varsL, mutS, ownS, isd_int_none, isd_int_bool, isd_int_int, isd_int_str, isd_int_list, isd_int_tuple, isd_bool_none, isd_bool_bool, isd_bool_int, isd_bool_str, isd_bool_list, isd_bool_tuple, isd_str_none, isd_str_bool, isd_str_int, isd_str_str, isd_str_list, isd_str_tuple, isd_tuple_none, isd_tuple_bool, isd_tuple_int, isd_tuple_str, isd_tuple_list, isd_tuple_tuple, isd_list_none, isd_list_bool, isd_list_int, isd_list_str, isd_list_list, isd_list_tuple, eqOk, lendE, lend1, backE, wipeE, lent, slots, normW, unlend, L2.atI, L2.ixN, cutD, eqv_int, eqv_str, eqv_bool, eqv_list, eqv_tuple, eqva_nil, eqva_cons, eqva_l, eqva_r, dp_int, dp_str, dp_bool, dp_list, dp_tuple, dpa_nil, dpa_cons, ofStr_beq, intsD, boolsD, nd_int, nd_bool, nd_str, nd_none, nd_list, nd_tuple, szl, M.truD.eq_1, M.truD.eq_2, M.truD.eq_3, M.truD.eq_4, M.truD.eq_5, M.truD.eq_6, M.truD.eq_7, M.setD.eq_1, M.subD.eq_1, M.subD.eq_2, M.subD.eq_3, M.slcD.eq_1, M.slcD.eq_2, M.itemsD.eq_1, M.itemsD.eq_2, M.itemsD.eq_3, M.itemsD.eq_4, M.itemsD.eq_5, M.itemsD.eq_6, M.itemsD.eq_7, M.cmpD.eq_1, M.cmpD.eq_2, M.cmpD.eq_3, M.cmpD.eq_4, M.cmpD.eq_5, M.cmpD.eq_6, M.cmpD.eq_7, M.cmpD.eq_9, M.cmpD.eq_11, M.cmpD.eq_12, M.cmpD.eq_13, M.cmpD.eq_14, M.binD.eq_1, M.binD.eq_2, M.binD.eq_3, M.binD.eq_4, M.binD.eq_5, M.binD.eq_6, M.binD.eq_7, M.binD.eq_8, M.binD.eq_9, M.bltD.eq_1, M.bltD.eq_2, M.bltD.eq_3, M.bltD.eq_4, M.bltD.eq_5, M.bltD.eq_6, M.bltD.eq_7, M.bltD.eq_8, M.bltD.eq_9, M.bltD.eq_10, M.bltD.eq_11, M.bltD.eq_12, M.bltD.eq_13, M.bltD.eq_14, M.mutD.eq_1, M.mutD.eq_2, M.extD.eq_1, HT.sIx.eq_1, HT.sIx.eq_2, f_names_in, b_names_in, gw, enc, e1, kids, names, i1, i2, i3, z1, z2, z3, z4]
theorem e_found : ∀ (f : Fm) (n : Nat), (names f).length ≤ 60 → deep f + 1 ≤ n → callF F G n fi_law_found [.v (enc f)] = .ok ⟨.list ((names f).map pD), true, []⟩
  | f, 0, _, h => by omega
  | f, n + 1, hz, hn => by
    rw [callF_at (fn := f_law_found) rfl rfl (Nat.le_of_ble_eq_true rfl)]
    match f, hz, hn with
    | .num i, hz, hn =>
      simp [rbind_ok, rbind_exc, rbind_stuck, ofO_some, ofO_none, seqS_nx, seqS_rt, seqS_exc, lcNext_E, lcStep_ok, lcCons_ok, lcLoop_nil, lcLoop_step, foNext_E, forLoop_nil, forLoop_step, ssNext_E, evSs_nil, evSs_cons, x_var, x_cst, x_glo, x_bin, y_bin, x_neg, x_not, x_and, y_and, z_and, x_or, y_or, z_or, x_cmp, y_cmp, x_chn, y_chn, z_chn, w_chnT, w_chnF, x_ife, y_ife, z_ife, x_call, x_blt, x_isi, x_sub, y_sub, x_slc, y_slc, z_slc, x_tup, x_lst, a_nil, a_cons, a_cons1, a_cons2, e_nil, e_cons, e_cons1, g_nil, g_ref, g_c0, g_c1, g_c2, g_c3, g_c4, g_c5, g_c6, g_c7, g_c8, g_c9, g_c10, g_c11, g_c12, g_c13, g_c14, g_c15, g_c16, g_c17, g_c18, g_cons1, g_cons2, o_none, o_some, c_nil, c_cons, c_cons1, c_cons2, t_E, truW_E, rdAll_nil, rdAll_cons, lcEnd_ok, turn_E, turn_E1, turn_E2, turn_E3, x_lc, y_lc, z_lc, s_for, s_for1, s_for2, fturn_E, fturn_E1, unlR_ok, s_nop, s_set, s_setT, s_setI, s_setI1, s_mut, s_ext, s_expr, s_ret, s_retN, s_ite, s_ite1, s_rais, callEnd_ok, callEnd_exc, callAt_E, callAt_E1, retOf, M.rfs, startE, slotOf, isR, refsOf, argsAt, putRefs, fzv, fzn, rdv, setS, fr_none, fr_sh, fr_ow, fr_rf, fr_ln, bindT, bindTs, MT.vars, MT.varsL, mutS, ownS, isd_int_none, isd_int_bool, isd_int_int, isd_int_str, isd_int_list, isd_int_tuple, isd_bool_none, isd_bool_bool, isd_bool_int, isd_bool_str, isd_bool_list, isd_bool_tuple, isd_str_none, isd_str_bool, isd_str_int, isd_str_str, isd_str_list, isd_str_tuple, isd_tuple_none, isd_tuple_bool, isd_tuple_int, isd_tuple_str, isd_tuple_list, isd_tuple_tuple, isd_list_none, isd_list_bool, isd_list_int, isd_list_str, isd_list_list, isd_list_tuple, eqOk, lendE, lend1, backE, wipeE, lent, slots, normW, unlend, L2.atI, L2.ixN, cutD, eqv_int, eqv_str, eqv_bool, eqv_list, eqv_tuple, eqva_nil, eqva_cons, eqva_l, eqva_r, dp_int, dp_str, dp_bool, dp_list, dp_tuple, dpa_nil, dpa_cons, ofStr_beq, intsD, boolsD, nd_int, nd_bool, nd_str, nd_none, nd_list, nd_tuple, szl, M.truD.eq_1, M.truD.eq_2, M.truD.eq_3, M.truD.eq_4, M.truD.eq_5, M.truD.eq_6, M.truD.eq_7, M.setD.eq_1, M.subD.eq_1, M.subD.eq_2, M.subD.eq_3, M.slcD.eq_1, M.slcD.eq_2, M.itemsD.eq_1, M.itemsD.eq_2, M.itemsD.eq_3, M.itemsD.eq_4, M.itemsD.eq_5, M.itemsD.eq_6, M.itemsD.eq_7, M.cmpD.eq_1, M.cmpD.eq_2, M.cmpD.eq_3, M.cmpD.eq_4, M.cmpD.eq_5, M.cmpD.eq_6, M.cmpD.eq_7, M.cmpD.eq_9, M.cmpD.eq_11, M.cmpD.eq_12, M.cmpD.eq_13, M.cmpD.eq_14, M.binD.eq_1, M.binD.eq_2, M.binD.eq_3, M.binD.eq_4, M.binD.eq_5, M.binD.eq_6, M.binD.eq_7, M.binD.eq_8, M.binD.eq_9, M.bltD.eq_1, M.bltD.eq_2, M.bltD.eq_3, M.bltD.eq_4, M.bltD.eq_5, M.bltD.eq_6, M.bltD.eq_7, M.bltD.eq_8, M.bltD.eq_9, M.bltD.eq_10, M.bltD.eq_11, M.bltD.eq_12, M.bltD.eq_13, M.bltD.eq_14, M.mutD.eq_1, M.mutD.eq_2, M.extD.eq_1, HT.sIx.eq_1, HT.sIx.eq_2, f_law_found, b_law_found, enc, names]
    | .worth i j, hz, hn =>
      simp [rbind_ok, rbind_exc, rbind_stuck, ofO_some, ofO_none, seqS_nx, seqS_rt, seqS_exc, lcNext_E, lcStep_ok, lcCons_ok, lcLoop_nil, lcLoop_step, foNext_E, forLoop_nil, forLoop_step, ssNext_E, evSs_nil, evSs_cons, x_var, x_cst, x_glo, x_bin, y_bin, x_neg, x_not, x_and, y_and, z_and, x_or, y_or, z_or, x_cmp, y_cmp, x_chn, y_chn, z_chn, w_chnT, w_chnF, x_ife, y_ife, z_ife, x_call, x_blt, x_isi, x_sub, y_sub, x_slc, y_slc, z_slc, x_tup, x_lst, a_nil, a_cons, a_cons1, a_cons2, e_nil, e_cons, e_cons1, g_nil, g_ref, g_c0, g_c1, g_c2, g_c3, g_c4, g_c5, g_c6, g_c7, g_c8, g_c9, g_c10, g_c11, g_c12, g_c13, g_c14, g_c15, g_c16, g_c17, g_c18, g_cons1, g_cons2, o_none, o_some, c_nil, c_cons, c_cons1, c_cons2, t_E, truW_E, rdAll_nil, rdAll_cons, lcEnd_ok, turn_E, turn_E1, turn_E2, turn_E3, x_lc, y_lc, z_lc, s_for, s_for1, s_for2, fturn_E, fturn_E1, unlR_ok, s_nop, s_set, s_setT, s_setI, s_setI1, s_mut, s_ext, s_expr, s_ret, s_retN, s_ite, s_ite1, s_rais, callEnd_ok, callEnd_exc, callAt_E, callAt_E1, retOf, M.rfs, startE, slotOf, isR, refsOf, argsAt, putRefs, fzv, fzn, rdv, setS, fr_none, fr_sh, fr_ow, fr_rf, fr_ln, bindT, bindTs, MT.vars, MT.varsL, mutS, ownS, isd_int_none, isd_int_bool, isd_int_int, isd_int_str, isd_int_list, isd_int_tuple, isd_bool_none, isd_bool_bool, isd_bool_int, isd_bool_str, isd_bool_list, isd_bool_tuple, isd_str_none, isd_str_bool, isd_str_int, isd_str_str, isd_str_list, isd_str_tuple, isd_tuple_none, isd_tuple_bool, isd_tuple_int, isd_tuple_str, isd_tuple_list, isd_tuple_tuple, isd_list_none, isd_list_bool, isd_list_int, isd_list_str, isd_list_list, isd_list_tuple, eqOk, lendE, lend1, backE, wipeE, lent, slots, normW, unlend, L2.atI, L2.ixN, cutD, eqv_int, eqv_str, eqv_bool, eqv_list, eqv_tuple, eqva_nil, eqva_cons, eqva_l, eqva_r, dp_int, dp_str, dp_bool, dp_list, dp_tuple, dpa_nil, dpa_cons, ofStr_beq, intsD, boolsD, nd_int, nd_bool, nd_str, nd_none, nd_list, nd_tuple, szl, M.truD.eq_1, M.truD.eq_2, M.truD.eq_3, M.truD.eq_4, M.truD.eq_5, M.truD.eq_6, M.truD.eq_7, M.setD.eq_1, M.subD.eq_1, M.subD.eq_2, M.subD.eq_3, M.slcD.eq_1, M.slcD.eq_2, M.itemsD.eq_1, M.itemsD.eq_2, M.itemsD.eq_3, M.itemsD.eq_4, M.itemsD.eq_5, M.itemsD.eq_6, M.itemsD.eq_7, M.cmpD.eq_1, M.cmpD.eq_2, M.cmpD.eq_3, M.cmpD.eq_4, M.cmpD.eq_5, M.cmpD.eq_6, M.cmpD.eq_7, M.cmpD.eq_9, M.cmpD.eq_11, M.cmpD.eq_12, M.cmpD.eq_13, M.cmpD.eq_14, M.binD.eq_1, M.binD.eq_2, M.binD.eq_3, M.binD.eq_4, M.binD.eq_5, M.binD.eq_6, M.binD.eq_7, M.binD.eq_8, M.binD.eq_9, M.bltD.eq_1, M.bltD.eq_2, M.bltD.eq_3, M.bltD.eq_4, M.bltD.eq_5, M.bltD.eq_6, M.bltD.eq_7, M.bltD.eq_8, M.bltD.eq_9, M.bltD.eq_10, M.bltD.eq_11, M.bltD.eq_12, M.bltD.eq_13, M.bltD.eq_14, M.mutD.eq_1, M.mutD.eq_2, M.extD.eq_1, HT.sIx.eq_1, HT.sIx.eq_2, f_law_found, b_law_found, enc, names, pD]
    | .two w a b, hz, hn =>
      simp only [deep, names, List.length_append] at hz hn
      have i1 := e_found a n (by omega) (by omega)
      have i2 := e_found b n (by omega) (by omega)
      have z1 : (names a).length ≤ 16777216 := by omega
      have z2 : (names a).length + (names b).length ≤ 16777216 := by omega
      cases w <;> simp [rbind_ok, rbind_exc, rbind_stuck, ofO_some, ofO_none, seqS_nx, seqS_rt, seqS_exc, lcNext_E, lcStep_ok, lcCons_ok, lcLoop_nil, lcLoop_step, foNext_E, forLoop_nil, forLoop_step, ssNext_E, evSs_nil, evSs_cons, x_var, x_cst, x_glo, x_bin, y_bin, x_neg, x_not, x_and, y_and, z_and, x_or, y_or, z_or, x_cmp, y_cmp, x_chn, y_chn, z_chn, w_chnT, w_chnF, x_ife, y_ife, z_ife, x_call, x_blt, x_isi, x_sub, y_sub, x_slc, y_slc, z_slc, x_tup, x_lst, a_nil, a_cons, a_cons1, a_cons2, e_nil, e_cons, e_cons1, g_nil, g_ref, g_c0, g_c1, g_c2, g_c3, g_c4, g_c5, g_c6, g_c7, g_c8, g_c9, g_c10, g_c11, g_c12, g_c13, g_c14, g_c15, g_c16, g_c17, g_c18, g_cons1, g_cons2, o_none, o_some, c_nil, c_cons, c_cons1, c_cons2, t_E, truW_E, rdAll_nil, rdAll_cons, lcEnd_ok, turn_E, turn_E1, turn_E2, turn_E3, x_lc, y_lc, z_lc, s_for, s_for1, s_for2, fturn_E, fturn_E1, unlR_ok, s_nop, s_set, s_setT, s_setI, s_setI1, s_mut, s_ext, s_expr, s_ret, s_retN, s_ite, s_ite1, s_rais, callEnd_ok, callEnd_exc, callAt_E, callAt_E1, retOf, M.rfs, startE, slotOf, isR, refsOf, argsAt, putRefs, fzv, fzn, rdv, setS, fr_none, fr_sh, fr_ow, fr_rf, fr_ln, bindT, bindTs, MT.vars, MT.varsL, mutS, ownS, isd_int_none, isd_int_bool, isd_int_int, isd_int_str, isd_int_list, isd_int_tuple, isd_bool_none, isd_bool_bool, isd_bool_int, isd_bool_str, isd_bool_list, isd_bool_tuple, isd_str_none, isd_str_bool, isd_str_int, isd_str_str, isd_str_list, isd_str_tuple, isd_tuple_none, isd_tuple_bool, isd_tuple_int, isd_tuple_str, isd_tuple_list, isd_tuple_tuple, isd_list_none, isd_list_bool, isd_list_int, isd_list_str, isd_list_list, isd_list_tuple, eqOk, lendE, lend1, backE, wipeE, lent, slots, normW, unlend, L2.atI, L2.ixN, cutD, eqv_int, eqv_str, eqv_bool, eqv_list, eqv_tuple, eqva_nil, eqva_cons, eqva_l, eqva_r, dp_int, dp_str, dp_bool, dp_list, dp_tuple, dpa_nil, dpa_cons, ofStr_beq, intsD, boolsD, nd_int, nd_bool, nd_str, nd_none, nd_list, nd_tuple, szl, M.truD.eq_1, M.truD.eq_2, M.truD.eq_3, M.truD.eq_4, M.truD.eq_5, M.truD.eq_6, M.truD.eq_7, M.setD.eq_1, M.subD.eq_1, M.subD.eq_2, M.subD.eq_3, M.slcD.eq_1, M.slcD.eq_2, M.itemsD.eq_1, M.itemsD.eq_2, M.itemsD.eq_3, M.itemsD.eq_4, M.itemsD.eq_5, M.itemsD.eq_6, M.itemsD.eq_7, M.cmpD.eq_1, M.cmpD.eq_2, M.cmpD.eq_3, M.cmpD.eq_4, M.cmpD.eq_5, M.cmpD.eq_6, M.cmpD.eq_7, M.cmpD.eq_9, M.cmpD.eq_11, M.cmpD.eq_12, M.cmpD.eq_13, M.cmpD.eq_14, M.binD.eq_1, M.binD.eq_2, M.binD.eq_3, M.binD.eq_4, M.binD.eq_5, M.binD.eq_6, M.binD.eq_7, M.binD.eq_8, M.binD.eq_9, M.bltD.eq_1, M.bltD.eq_2, M.bltD.eq_3, M.bltD.eq_4, M.bltD.eq_5, M.bltD.eq_6, M.bltD.eq_7, M.bltD.eq_8, M.bltD.eq_9, M.bltD.eq_10, M.bltD.eq_11, M.bltD.eq_12, M.bltD.eq_13, M.bltD.eq_14, M.mutD.eq_1, M.mutD.eq_2, M.extD.eq_1, HT.sIx.eq_1, HT.sIx.eq_2, f_law_found, b_law_found, enc, names, i1, i2, z1, z2, Wo.s, enc_isT]
    | .times c a, hz, hn =>
      simp only [deep, names] at hz hn
      have i1 := e_found a n (by omega) (by omega)
      have z1 : (names a).length ≤ 16777216 := by omega
      simp [rbind_ok, rbind_exc, rbind_stuck, ofO_some, ofO_none, seqS_nx, seqS_rt, seqS_exc, lcNext_E, lcStep_ok, lcCons_ok, lcLoop_nil, lcLoop_step, foNext_E, forLoop_nil, forLoop_step, ssNext_E, evSs_nil, evSs_cons, x_var, x_cst, x_glo, x_bin, y_bin, x_neg, x_not, x_and, y_and, z_and, x_or, y_or, z_or, x_cmp, y_cmp, x_chn, y_chn, z_chn, w_chnT, w_chnF, x_ife, y_ife, z_ife, x_call, x_blt, x_isi, x_sub, y_sub, x_slc, y_slc, z_slc, x_tup, x_lst, a_nil, a_cons, a_cons1, a_cons2, e_nil, e_cons, e_cons1, g_nil, g_ref, g_c0, g_c1, g_c2, g_c3, g_c4, g_c5, g_c6, g_c7, g_c8, g_c9, g_c10, g_c11, g_c12, g_c13, g_c14, g_c15, g_c16, g_c17, g_c18, g_cons1, g_cons2, o_none, o_some, c_nil, c_cons, c_cons1, c_cons2, t_E, truW_E, rdAll_nil, rdAll_cons, lcEnd_ok, turn_E, turn_E1, turn_E2, turn_E3, x_lc, y_lc, z_lc, s_for, s_for1, s_for2, fturn_E, fturn_E1, unlR_ok, s_nop, s_set, s_setT, s_setI, s_setI1, s_mut, s_ext, s_expr, s_ret, s_retN, s_ite, s_ite1, s_rais, callEnd_ok, callEnd_exc, callAt_E, callAt_E1, retOf, M.rfs, startE, slotOf, isR, refsOf, argsAt, putRefs, fzv, fzn, rdv, setS, fr_none, fr_sh, fr_ow, fr_rf, fr_ln, bindT, bindTs, MT.vars, MT.varsL, mutS, ownS, isd_int_none, isd_int_bool, isd_int_int, isd_int_str, isd_int_list, isd_int_tuple, isd_bool_none, isd_bool_bool, isd_bool_int, isd_bool_str, isd_bool_list, isd_bool_tuple, isd_str_none, isd_str_bool, isd_str_int, isd_str_str, isd_str_list, isd_str_tuple, isd_tuple_none, isd_tuple_bool, isd_tuple_int, isd_tuple_str, isd_tuple_list, isd_tuple_tuple, isd_list_none, isd_list_bool, isd_list_int, isd_list_str, isd_list_list, isd_list_tuple, eqOk, lendE, lend1, backE, wipeE, lent, slots, normW, unlend, L2.atI, L2.ixN, cutD, eqv_int, eqv_str, eqv_bool, eqv_list, eqv_tuple, eqva_nil, eqva_cons, eqva_l, eqva_r, dp_int, dp_str, dp_bool, dp_list, dp_tuple, dpa_nil, dpa_cons, ofStr_beq, intsD, boolsD, nd_int, nd_bool, nd_str, nd_none, nd_list, nd_tuple, szl, M.truD.eq_1, M.truD.eq_2, M.truD.eq_3, M.truD.eq_4, M.truD.eq_5, M.truD.eq_6, M.truD.eq_7, M.setD.eq_1, M.subD.eq_1, M.subD.eq_2, M.subD.eq_3, M.slcD.eq_1, M.slcD.eq_2, M.itemsD.eq_1, M.itemsD.eq_2, M.itemsD.eq_3, M.itemsD.eq_4, M.itemsD.eq_5, M.itemsD.eq_6, M.itemsD.eq_7, M.cmpD.eq_1, M.cmpD.eq_2, M.cmpD.eq_3, M.cmpD.eq_4, M.cmpD.eq_5, M.cmpD.eq_6, M.cmpD.eq_7, M.cmpD.eq_9, M.cmpD.eq_11, M.cmpD.eq_12, M.cmpD.eq_13, M.cmpD.eq_14, M.binD.eq_1, M.binD.eq_2, M.binD.eq_3, M.binD.eq_4, M.binD.eq_5, M.binD.eq_6, M.binD.eq_7, M.binD.eq_8, M.binD.eq_9, M.bltD.eq_1, M.bltD.eq_2, M.bltD.eq_3, M.bltD.eq_4, M.bltD.eq_5, M.bltD.eq_6, M.bltD.eq_7, M.bltD.eq_8, M.bltD.eq_9, M.bltD.eq_10, M.bltD.eq_11, M.bltD.eq_12, M.bltD.eq_13, M.bltD.eq_14, M.mutD.eq_1, M.mutD.eq_2, M.extD.eq_1, HT.sIx.eq_1, HT.sIx.eq_2, f_law_found, b_law_found, enc, names, i1, z1, enc_isT]
    | .rest c a, hz, hn =>
      simp only [deep, names] at hz hn
      have i1 := e_found a n (by omega) (by omega)
      have z1 : (names a).length ≤ 16777216 := by omega
      simp [rbind_ok, rbind_exc, rbind_stuck, ofO_some, ofO_none, seqS_nx, seqS_rt, seqS_exc, lcNext_E, lcStep_ok, lcCons_ok, lcLoop_nil, lcLoop_step, foNext_E, forLoop_nil, forLoop_step, ssNext_E, evSs_nil, evSs_cons, x_var, x_cst, x_glo, x_bin, y_bin, x_neg, x_not, x_and, y_and, z_and, x_or, y_or, z_or, x_cmp, y_cmp, x_chn, y_chn, z_chn, w_chnT, w_chnF, x_ife, y_ife, z_ife, x_call, x_blt, x_isi, x_sub, y_sub, x_slc, y_slc, z_slc, x_tup, x_lst, a_nil, a_cons, a_cons1, a_cons2, e_nil, e_cons, e_cons1, g_nil, g_ref, g_c0, g_c1, g_c2, g_c3, g_c4, g_c5, g_c6, g_c7, g_c8, g_c9, g_c10, g_c11, g_c12, g_c13, g_c14, g_c15, g_c16, g_c17, g_c18, g_cons1, g_cons2, o_none, o_some, c_nil, c_cons, c_cons1, c_cons2, t_E, truW_E, rdAll_nil, rdAll_cons, lcEnd_ok, turn_E, turn_E1, turn_E2, turn_E3, x_lc, y_lc, z_lc, s_for, s_for1, s_for2, fturn_E, fturn_E1, unlR_ok, s_nop, s_set, s_setT, s_setI, s_setI1, s_mut, s_ext, s_expr, s_ret, s_retN, s_ite, s_ite1, s_rais, callEnd_ok, callEnd_exc, callAt_E, callAt_E1, retOf, M.rfs, startE, slotOf, isR, refsOf, argsAt, putRefs, fzv, fzn, rdv, setS, fr_none, fr_sh, fr_ow, fr_rf, fr_ln, bindT, bindTs, MT.vars, MT.varsL, mutS, ownS, isd_int_none, isd_int_bool, isd_int_int, isd_int_str, isd_int_list, isd_int_tuple, isd_bool_none, isd_bool_bool, isd_bool_int, isd_bool_str, isd_bool_list, isd_bool_tuple, isd_str_none, isd_str_bool, isd_str_int, isd_str_str, isd_str_list, isd_str_tuple, isd_tuple_none, isd_tuple_bool, isd_tuple_int, isd_tuple_str, isd_tuple_list, isd_tuple_tuple, isd_list_none, isd_list_bool, isd_list_int, isd_list_str, isd_list_list, isd_list_tuple, eqOk, lendE, lend1, backE, wipeE, lent, slots, normW, unlend, L2.atI, L2.ixN, cutD, eqv_int, eqv_str, eqv_bool, eqv_list, eqv_tuple, eqva_nil, eqva_cons, eqva_l, eqva_r, dp_int, dp_str, dp_bool, dp_list, dp_tuple, dpa_nil, dpa_cons, ofStr_beq, intsD, boolsD, nd_int, nd_bool, nd_str, nd_none, nd_list, nd_tuple, szl, M.truD.eq_1, M.truD.eq_2, M.truD.eq_3, M.truD.eq_4, M.truD.eq_5, M.truD.eq_6, M.truD.eq_7, M.setD.eq_1, M.subD.eq_1, M.subD.eq_2, M.subD.eq_3, M.slcD.eq_1, M.slcD.eq_2, M.itemsD.eq_1, M.itemsD.eq_2, M.itemsD.eq_3, M.itemsD.eq_4, M.itemsD.eq_5, M.itemsD.eq_6, M.itemsD.eq_7, M.cmpD.eq_1, M.cmpD.eq_2, M.cmpD.eq_3, M.cmpD.eq_4, M.cmpD.eq_5, M.cmpD.eq_6, M.cmpD.eq_7, M.cmpD.eq_9, M.cmpD.eq_11, M.cmpD.eq_12, M.cmpD.eq_13, M.cmpD.eq_14, M.binD.eq_1, M.binD.eq_2, M.binD.eq_3, M.binD.eq_4, M.binD.eq_5, M.binD.eq_6, M.binD.eq_7, M.binD.eq_8, M.binD.eq_9, M.bltD.eq_1, M.bltD.eq_2, M.bltD.eq_3, M.bltD.eq_4, M.bltD.eq_5, M.bltD.eq_6, M.bltD.eq_7, M.bltD.eq_8, M.bltD.eq_9, M.bltD.eq_10, M.bltD.eq_11, M.bltD.eq_12, M.bltD.eq_13, M.bltD.eq_14, M.mutD.eq_1, M.mutD.eq_2, M.extD.eq_1, HT.sIx.eq_1, HT.sIx.eq_2, f_law_found, b_law_found, enc, names, i1, z1, enc_isT]
    | .pick a b c, hz, hn =>
      simp only [deep, names, List.length_append] at hz hn
      have i1 := e_found a n (by omega) (by omega)
      have i2 := e_found b n (by omega) (by omega)
      have i3 := e_found c n (by omega) (by omega)
      have z1 : (names a).length ≤ 16777216 := by omega
      have z2 : (names a).length + (names b).length ≤ 16777216 := by omega
      have z3 : (names a).length + ((names b).length + (names c).length) ≤ 16777216 := by omega
      have z4 : (names a).length + (names b).length + (names c).length ≤ 16777216 := by omega
      simp [rbind_ok, rbind_exc, rbind_stuck, ofO_some, ofO_none, seqS_nx, seqS_rt, seqS_exc, lcNext_E, lcStep_ok, lcCons_ok, lcLoop_nil, lcLoop_step, foNext_E, forLoop_nil, forLoop_step, ssNext_E, evSs_nil, evSs_cons, x_var, x_cst, x_glo, x_bin, y_bin, x_neg, x_not, x_and, y_and, z_and, x_or, y_or, z_or, x_cmp, y_cmp, x_chn, y_chn, z_chn, w_chnT, w_chnF, x_ife, y_ife, z_ife, x_call, x_blt, x_isi, x_sub, y_sub, x_slc, y_slc, z_slc, x_tup, x_lst, a_nil, a_cons, a_cons1, a_cons2, e_nil, e_cons, e_cons1, g_nil, g_ref, g_c0, g_c1, g_c2, g_c3, g_c4, g_c5, g_c6, g_c7, g_c8, g_c9, g_c10, g_c11, g_c12, g_c13, g_c14, g_c15, g_c16, g_c17, g_c18, g_cons1, g_cons2, o_none, o_some, c_nil, c_cons, c_cons1, c_cons2, t_E, truW_E, rdAll_nil, rdAll_cons, lcEnd_ok, turn_E, turn_E1, turn_E2, turn_E3, x_lc, y_lc, z_lc, s_for, s_for1, s_for2, fturn_E, fturn_E1, unlR_ok, s_nop, s_set, s_setT, s_setI, s_setI1, s_mut, s_ext, s_expr, s_ret, s_retN, s_ite, s_ite1, s_rais, callEnd_ok, callEnd_exc, callAt_E, callAt_E1, retOf, M.rfs, startE, slotOf, isR, refsOf, argsAt, putRefs, fzv, fzn, rdv, setS, fr_none, fr_sh, fr_ow, fr_rf, fr_ln, bindT, bindTs, MT.vars, MT.varsL, mutS, ownS, isd_int_none, isd_int_bool, isd_int_int, isd_int_str, isd_int_list, isd_int_tuple, isd_bool_none, isd_bool_bool, isd_bool_int, isd_bool_str, isd_bool_list, isd_bool_tuple, isd_str_none, isd_str_bool, isd_str_int, isd_str_str, isd_str_list, isd_str_tuple, isd_tuple_none, isd_tuple_bool, isd_tuple_int, isd_tuple_str, isd_tuple_list, isd_tuple_tuple, isd_list_none, isd_list_bool, isd_list_int, isd_list_str, isd_list_list, isd_list_tuple, eqOk, lendE, lend1, backE, wipeE, lent, slots, normW, unlend, L2.atI, L2.ixN, cutD, eqv_int, eqv_str, eqv_bool, eqv_list, eqv_tuple, eqva_nil, eqva_cons, eqva_l, eqva_r, dp_int, dp_str, dp_bool, dp_list, dp_tuple, dpa_nil, dpa_cons, ofStr_beq, intsD, boolsD, nd_int, nd_bool, nd_str, nd_none, nd_list, nd_tuple, szl, M.truD.eq_1, M.truD.eq_2, M.truD.eq_3, M.truD.eq_4, M.truD.eq_5, M.truD.eq_6, M.truD.eq_7, M.setD.eq_1, M.subD.eq_1, M.subD.eq_2, M.subD.eq_3, M.slcD.eq_1, M.slcD.eq_2, M.itemsD.eq_1, M.itemsD.eq_2, M.itemsD.eq_3, M.itemsD.eq_4, M.itemsD.eq_5, M.itemsD.eq_6, M.itemsD.eq_7, M.cmpD.eq_1, M.cmpD.eq_2, M.cmpD.eq_3, M.cmpD.eq_4, M.cmpD.eq_5, M.cmpD.eq_6, M.cmpD.eq_7, M.cmpD.eq_9, M.cmpD.eq_11, M.cmpD.eq_12, M.cmpD.eq_13, M.cmpD.eq_14, M.binD.eq_1, M.binD.eq_2, M.binD.eq_3, M.binD.eq_4, M.binD.eq_5, M.binD.eq_6, M.binD.eq_7, M.binD.eq_8, M.binD.eq_9, M.bltD.eq_1, M.bltD.eq_2, M.bltD.eq_3, M.bltD.eq_4, M.bltD.eq_5, M.bltD.eq_6, M.bltD.eq_7, M.bltD.eq_8, M.bltD.eq_9, M.bltD.eq_10, M.bltD.eq_11, M.bltD.eq_12, M.bltD.eq_13, M.bltD.eq_14, M.mutD.eq_1, M.mutD.eq_2, M.extD.eq_1, HT.sIx.eq_1, HT.sIx.eq_2, f_law_found, b_law_found, enc, names, i1, i2, i3, z1, z2, z3, z4, enc_isT]
end K02
namespace K02
open PySem M
def anyN : List PyData := [.tuple [.int 0, .int 0], .tuple [.int 0, .int 1], .tuple [.int 1, .int 0], .tuple [.int 2, .int 3], .tuple [.int 0, .int (10 ^ 20)], .tuple [.int 7, .int 2]]
theorem e_any (n : Nat) : callF F G (n + 1) fi_law_any_names [] = .ok ⟨.list anyN, true, []⟩ := rfl
theorem anyN_len : anyN.length = 6 := rfl
theorem anyN_ne : PyData.eqvAll anyN [] = false := by simp only [anyN, PyData.eqvAll]
theorem anyN_at (y : Int) : ∃ i j, L2.atI anyN (y % 6) = some (.tuple [.int i, .int j]) ∧ 0 ≤ i ∧ 0 ≤ j := by
  have h : y % 6 = 0 ∨ y % 6 = 1 ∨ y % 6 = 2 ∨ y % 6 = 3 ∨ y % 6 = 4 ∨ y % 6 = 5 := by omega
  rcases h with h | h | h | h | h | h <;> rw [h]
  · exact ⟨0, 0, rfl, by decide, by decide⟩
  · exact ⟨0, 1, rfl, by decide, by decide⟩
  · exact ⟨1, 0, rfl, by decide, by decide⟩
  · exact ⟨2, 3, rfl, by decide, by decide⟩
  · exact ⟨0, 10 ^ 20, rfl, by decide, by decide⟩
  · exact ⟨7, 2, rfl, by decide, by decide⟩
def pm : Nat → Int
  | 0 => 1
  | d + 1 => 1 + 3 * pm d
def tm : Nat → Nat
  | 0 => 1
  | d + 1 => 3 * tm d
def Good (d : Nat) (f : Fm) : Prop := Fit f ∧ deep f ≤ d + 1 ∧ (names f).length ≤ tm d ∧ parts f ≤ pm d
theorem pm_pos : ∀ d, 1 ≤ pm d
  | 0 => by decide
  | d + 1 => by have := pm_pos d; simp only [pm]; omega
theorem tm_pos : ∀ d, 1 ≤ tm d
  | 0 => by decide
  | d + 1 => by have := tm_pos d; simp only [tm]; omega
theorem leaf_good (d : Nat) (f : Fm) (h : Fit f) (h1 : deep f = 1) (h2 : (names f).length ≤ 1) (h3 : parts f = 1) : Good d f := by
  have := pm_pos d
  have := tm_pos d
  exact ⟨h, by omega, by omega, by omega⟩
theorem gen_leaf (n d : Nat) (x : Int) (hn : 1 ≤ n) (h : (d : Int) = 0 ∨ x % 10 < 3) : ∃ f x', callF F G (n + 1) fi_law_formula [.r (.list [.int x]), .v (.list anyN), .v (.int d)] = .ok ⟨enc f, false, [.list [.int x']]⟩ ∧ Good d f := by
  obtain ⟨n, rfl⟩ : ∃ m, n = m + 1 := ⟨n - 1, by omega⟩
  have hb : (((d : Int) == 0) || decide (x % 10 < 3)) = true := by
    rcases h with h | h
    · rw [h]; rfl
    · simp [h]
  have key : ∀ f x', callF F G (n + 1 + 1) fi_law_formula [.r (.list [.int x]), .v (.list anyN), .v (.int d)] = .ok ⟨enc f, false, [.list [.int x']]⟩ → Good d f → ∃ f x', callF F G (n + 1 + 1) fi_law_formula [.r (.list [.int x]), .v (.list anyN), .v (.int d)] = .ok ⟨enc f, false, [.list [.int x']]⟩ ∧ Good d f := fun f x' a b => ⟨f, x', a, b⟩
  by_cases h5 : x / 10 % 5 = 0
  · refine key (.num (x / 10 / 5 % 19 - 9)) (x / 10 / 5 / 19) ?_ (leaf_good d _ (by simp only [Fit]; omega) rfl (by simp [names]) rfl)
    rw [callF_at (fn := f_law_formula) rfl rfl (Nat.le_of_ble_eq_true rfl)]
    rcases h with h | h
    · simp [rbind_ok, rbind_exc, rbind_stuck, ofO_some, ofO_none, seqS_nx, seqS_rt, seqS_exc, lcNext_E, lcStep_ok, lcCons_ok, lcLoop_nil, lcLoop_step, foNext_E, forLoop_nil, forLoop_step, ssNext_E, evSs_nil, evSs_cons, x_var, x_cst, x_glo, x_bin, y_bin, x_neg, x_not, x_and, y_and, z_and, x_or, y_or, z_or, x_cmp, y_cmp, x_chn, y_chn, z_chn, w_chnT, w_chnF, x_ife, y_ife, z_ife, x_call, x_blt, x_isi, x_sub, y_sub, x_slc, y_slc, z_slc, x_tup, x_lst, a_nil, a_cons, a_cons1, a_cons2, e_nil, e_cons, e_cons1, g_nil, g_ref, g_c0, g_c1, g_c2, g_c3, g_c4, g_c5, g_c6, g_c7, g_c8, g_c9, g_c10, g_c11, g_c12, g_c13, g_c14, g_c15, g_c16, g_c17, g_c18, g_cons1, g_cons2, o_none, o_some, c_nil, c_cons, c_cons1, c_cons2, t_E, truW_E, rdAll_nil, rdAll_cons, lcEnd_ok, turn_E, turn_E1, turn_E2, turn_E3, x_lc, y_lc, z_lc, s_for, s_for1, s_for2, fturn_E, fturn_E1, unlR_ok, s_nop, s_set, s_setT, s_setI, s_setI1, s_mut, s_ext, s_expr, s_ret, s_retN, s_ite, s_ite1, s_rais, callEnd_ok, callEnd_exc, callAt_E, callAt_E1, retOf, M.rfs, startE, slotOf, isR, refsOf, argsAt, putRefs, fzv, fzn, rdv, setS, fr_none, fr_sh, fr_ow, fr_rf, fr_ln, bindT, bindTs, MT.vars, MT.varsL, mutS, ownS, isd_int_none, isd_int_bool, isd_int_int, isd_int_str, isd_int_list, isd_int_tuple, isd_bool_none, isd_bool_bool, isd_bool_int, isd_bool_str, isd_bool_list, isd_bool_tuple, isd_str_none, isd_str_bool, isd_str_int, isd_str_str, isd_str_list, isd_str_tuple, isd_tuple_none, isd_tuple_bool, isd_tuple_int, isd_tuple_str, isd_tuple_list, isd_tuple_tuple, isd_list_none, isd_list_bool, isd_list_int, isd_list_str, isd_list_list, isd_list_tuple, eqOk, lendE, lend1, backE, wipeE, lent, slots, normW, unlend, cutD, eqv_int, eqv_str, eqv_bool, eqv_list, eqv_tuple, eqva_nil, eqva_cons, eqva_l, eqva_r, dp_int, dp_str, dp_bool, dp_list, dp_tuple, dpa_nil, dpa_cons, ofStr_beq, intsD, boolsD, nd_int, nd_bool, nd_str, nd_none, nd_list, nd_tuple, szl, M.truD.eq_1, M.truD.eq_2, M.truD.eq_3, M.truD.eq_4, M.truD.eq_5, M.truD.eq_6, M.truD.eq_7, M.setD.eq_1, M.subD.eq_1, M.subD.eq_2, M.subD.eq_3, M.slcD.eq_1, M.slcD.eq_2, M.itemsD.eq_1, M.itemsD.eq_2, M.itemsD.eq_3, M.itemsD.eq_4, M.itemsD.eq_5, M.itemsD.eq_6, M.itemsD.eq_7, M.cmpD.eq_1, M.cmpD.eq_2, M.cmpD.eq_3, M.cmpD.eq_4, M.cmpD.eq_5, M.cmpD.eq_6, M.cmpD.eq_7, M.cmpD.eq_9, M.cmpD.eq_11, M.cmpD.eq_12, M.cmpD.eq_13, M.cmpD.eq_14, M.binD.eq_1, M.binD.eq_2, M.binD.eq_3, M.binD.eq_4, M.binD.eq_5, M.binD.eq_6, M.binD.eq_7, M.binD.eq_8, M.binD.eq_9, M.bltD.eq_1, M.bltD.eq_2, M.bltD.eq_3, M.bltD.eq_4, M.bltD.eq_5, M.bltD.eq_6, M.bltD.eq_7, M.bltD.eq_8, M.bltD.eq_9, M.bltD.eq_10, M.bltD.eq_11, M.bltD.eq_12, M.bltD.eq_13, M.bltD.eq_14, M.mutD.eq_1, M.mutD.eq_2, M.extD.eq_1, HT.sIx.eq_1, HT.sIx.eq_2, f_law_formula, b_law_formula, e_take, h, h5, anyN_len, anyN_ne, enc]
    · by_cases h0 : (d : Int) = 0
      · simp [rbind_ok, rbind_exc, rbind_stuck, ofO_some, ofO_none, seqS_nx, seqS_rt, seqS_exc, lcNext_E, lcStep_ok, lcCons_ok, lcLoop_nil, lcLoop_step, foNext_E, forLoop_nil, forLoop_step, ssNext_E, evSs_nil, evSs_cons, x_var, x_cst, x_glo, x_bin, y_bin, x_neg, x_not, x_and, y_and, z_and, x_or, y_or, z_or, x_cmp, y_cmp, x_chn, y_chn, z_chn, w_chnT, w_chnF, x_ife, y_ife, z_ife, x_call, x_blt, x_isi, x_sub, y_sub, x_slc, y_slc, z_slc, x_tup, x_lst, a_nil, a_cons, a_cons1, a_cons2, e_nil, e_cons, e_cons1, g_nil, g_ref, g_c0, g_c1, g_c2, g_c3, g_c4, g_c5, g_c6, g_c7, g_c8, g_c9, g_c10, g_c11, g_c12, g_c13, g_c14, g_c15, g_c16, g_c17, g_c18, g_cons1, g_cons2, o_none, o_some, c_nil, c_cons, c_cons1, c_cons2, t_E, truW_E, rdAll_nil, rdAll_cons, lcEnd_ok, turn_E, turn_E1, turn_E2, turn_E3, x_lc, y_lc, z_lc, s_for, s_for1, s_for2, fturn_E, fturn_E1, unlR_ok, s_nop, s_set, s_setT, s_setI, s_setI1, s_mut, s_ext, s_expr, s_ret, s_retN, s_ite, s_ite1, s_rais, callEnd_ok, callEnd_exc, callAt_E, callAt_E1, retOf, M.rfs, startE, slotOf, isR, refsOf, argsAt, putRefs, fzv, fzn, rdv, setS, fr_none, fr_sh, fr_ow, fr_rf, fr_ln, bindT, bindTs, MT.vars, MT.varsL, mutS, ownS, isd_int_none, isd_int_bool, isd_int_int, isd_int_str, isd_int_list, isd_int_tuple, isd_bool_none, isd_bool_bool, isd_bool_int, isd_bool_str, isd_bool_list, isd_bool_tuple, isd_str_none, isd_str_bool, isd_str_int, isd_str_str, isd_str_list, isd_str_tuple, isd_tuple_none, isd_tuple_bool, isd_tuple_int, isd_tuple_str, isd_tuple_list, isd_tuple_tuple, isd_list_none, isd_list_bool, isd_list_int, isd_list_str, isd_list_list, isd_list_tuple, eqOk, lendE, lend1, backE, wipeE, lent, slots, normW, unlend, cutD, eqv_int, eqv_str, eqv_bool, eqv_list, eqv_tuple, eqva_nil, eqva_cons, eqva_l, eqva_r, dp_int, dp_str, dp_bool, dp_list, dp_tuple, dpa_nil, dpa_cons, ofStr_beq, intsD, boolsD, nd_int, nd_bool, nd_str, nd_none, nd_list, nd_tuple, szl, M.truD.eq_1, M.truD.eq_2, M.truD.eq_3, M.truD.eq_4, M.truD.eq_5, M.truD.eq_6, M.truD.eq_7, M.setD.eq_1, M.subD.eq_1, M.subD.eq_2, M.subD.eq_3, M.slcD.eq_1, M.slcD.eq_2, M.itemsD.eq_1, M.itemsD.eq_2, M.itemsD.eq_3, M.itemsD.eq_4, M.itemsD.eq_5, M.itemsD.eq_6, M.itemsD.eq_7, M.cmpD.eq_1, M.cmpD.eq_2, M.cmpD.eq_3, M.cmpD.eq_4, M.cmpD.eq_5, M.cmpD.eq_6, M.cmpD.eq_7, M.cmpD.eq_9, M.cmpD.eq_11, M.cmpD.eq_12, M.cmpD.eq_13, M.cmpD.eq_14, M.binD.eq_1, M.binD.eq_2, M.binD.eq_3, M.binD.eq_4, M.binD.eq_5, M.binD.eq_6, M.binD.eq_7, M.binD.eq_8, M.binD.eq_9, M.bltD.eq_1, M.bltD.eq_2, M.bltD.eq_3, M.bltD.eq_4, M.bltD.eq_5, M.bltD.eq_6, M.bltD.eq_7, M.bltD.eq_8, M.bltD.eq_9, M.bltD.eq_10, M.bltD.eq_11, M.bltD.eq_12, M.bltD.eq_13, M.bltD.eq_14, M.mutD.eq_1, M.mutD.eq_2, M.extD.eq_1, HT.sIx.eq_1, HT.sIx.eq_2, f_law_formula, b_law_formula, e_take, h0, h5, anyN_len, anyN_ne, enc]
      · have h0' : ¬ d = 0 := by omega
        simp [rbind_ok, rbind_exc, rbind_stuck, ofO_some, ofO_none, seqS_nx, seqS_rt, seqS_exc, lcNext_E, lcStep_ok, lcCons_ok, lcLoop_nil, lcLoop_step, foNext_E, forLoop_nil, forLoop_step, ssNext_E, evSs_nil, evSs_cons, x_var, x_cst, x_glo, x_bin, y_bin, x_neg, x_not, x_and, y_and, z_and, x_or, y_or, z_or, x_cmp, y_cmp, x_chn, y_chn, z_chn, w_chnT, w_chnF, x_ife, y_ife, z_ife, x_call, x_blt, x_isi, x_sub, y_sub, x_slc, y_slc, z_slc, x_tup, x_lst, a_nil, a_cons, a_cons1, a_cons2, e_nil, e_cons, e_cons1, g_nil, g_ref, g_c0, g_c1, g_c2, g_c3, g_c4, g_c5, g_c6, g_c7, g_c8, g_c9, g_c10, g_c11, g_c12, g_c13, g_c14, g_c15, g_c16, g_c17, g_c18, g_cons1, g_cons2, o_none, o_some, c_nil, c_cons, c_cons1, c_cons2, t_E, truW_E, rdAll_nil, rdAll_cons, lcEnd_ok, turn_E, turn_E1, turn_E2, turn_E3, x_lc, y_lc, z_lc, s_for, s_for1, s_for2, fturn_E, fturn_E1, unlR_ok, s_nop, s_set, s_setT, s_setI, s_setI1, s_mut, s_ext, s_expr, s_ret, s_retN, s_ite, s_ite1, s_rais, callEnd_ok, callEnd_exc, callAt_E, callAt_E1, retOf, M.rfs, startE, slotOf, isR, refsOf, argsAt, putRefs, fzv, fzn, rdv, setS, fr_none, fr_sh, fr_ow, fr_rf, fr_ln, bindT, bindTs, MT.vars, MT.varsL, mutS, ownS, isd_int_none, isd_int_bool, isd_int_int, isd_int_str, isd_int_list, isd_int_tuple, isd_bool_none, isd_bool_bool, isd_bool_int, isd_bool_str, isd_bool_list, isd_bool_tuple, isd_str_none, isd_str_bool, isd_str_int, isd_str_str, isd_str_list, isd_str_tuple, isd_tuple_none, isd_tuple_bool, isd_tuple_int, isd_tuple_str, isd_tuple_list, isd_tuple_tuple, isd_list_none, isd_list_bool, isd_list_int, isd_list_str, isd_list_list, isd_list_tuple, eqOk, lendE, lend1, backE, wipeE, lent, slots, normW, unlend, cutD, eqv_int, eqv_str, eqv_bool, eqv_list, eqv_tuple, eqva_nil, eqva_cons, eqva_l, eqva_r, dp_int, dp_str, dp_bool, dp_list, dp_tuple, dpa_nil, dpa_cons, ofStr_beq, intsD, boolsD, nd_int, nd_bool, nd_str, nd_none, nd_list, nd_tuple, szl, M.truD.eq_1, M.truD.eq_2, M.truD.eq_3, M.truD.eq_4, M.truD.eq_5, M.truD.eq_6, M.truD.eq_7, M.setD.eq_1, M.subD.eq_1, M.subD.eq_2, M.subD.eq_3, M.slcD.eq_1, M.slcD.eq_2, M.itemsD.eq_1, M.itemsD.eq_2, M.itemsD.eq_3, M.itemsD.eq_4, M.itemsD.eq_5, M.itemsD.eq_6, M.itemsD.eq_7, M.cmpD.eq_1, M.cmpD.eq_2, M.cmpD.eq_3, M.cmpD.eq_4, M.cmpD.eq_5, M.cmpD.eq_6, M.cmpD.eq_7, M.cmpD.eq_9, M.cmpD.eq_11, M.cmpD.eq_12, M.cmpD.eq_13, M.cmpD.eq_14, M.binD.eq_1, M.binD.eq_2, M.binD.eq_3, M.binD.eq_4, M.binD.eq_5, M.binD.eq_6, M.binD.eq_7, M.binD.eq_8, M.binD.eq_9, M.bltD.eq_1, M.bltD.eq_2, M.bltD.eq_3, M.bltD.eq_4, M.bltD.eq_5, M.bltD.eq_6, M.bltD.eq_7, M.bltD.eq_8, M.bltD.eq_9, M.bltD.eq_10, M.bltD.eq_11, M.bltD.eq_12, M.bltD.eq_13, M.bltD.eq_14, M.mutD.eq_1, M.mutD.eq_2, M.extD.eq_1, HT.sIx.eq_1, HT.sIx.eq_2, f_law_formula, b_law_formula, e_take, h0, h0', h, h5, anyN_len, anyN_ne, enc]
  · obtain ⟨i, j, hi, h1, h2⟩ := anyN_at (x / 10 / 5)
    refine key (.worth i j) (x / 10 / 5 / 6) ?_ (leaf_good d _ ⟨h1, h2⟩ rfl (by simp [names]) rfl)
    rw [callF_at (fn := f_law_formula) rfl rfl (Nat.le_of_ble_eq_true rfl)]
    rcases h with h | h
    · simp [rbind_ok, rbind_exc, rbind_stuck, ofO_some, ofO_none, seqS_nx, seqS_rt, seqS_exc, lcNext_E, lcStep_ok, lcCons_ok, lcLoop_nil, lcLoop_step, foNext_E, forLoop_nil, forLoop_step, ssNext_E, evSs_nil, evSs_cons, x_var, x_cst, x_glo, x_bin, y_bin, x_neg, x_not, x_and, y_and, z_and, x_or, y_or, z_or, x_cmp, y_cmp, x_chn, y_chn, z_chn, w_chnT, w_chnF, x_ife, y_ife, z_ife, x_call, x_blt, x_isi, x_sub, y_sub, x_slc, y_slc, z_slc, x_tup, x_lst, a_nil, a_cons, a_cons1, a_cons2, e_nil, e_cons, e_cons1, g_nil, g_ref, g_c0, g_c1, g_c2, g_c3, g_c4, g_c5, g_c6, g_c7, g_c8, g_c9, g_c10, g_c11, g_c12, g_c13, g_c14, g_c15, g_c16, g_c17, g_c18, g_cons1, g_cons2, o_none, o_some, c_nil, c_cons, c_cons1, c_cons2, t_E, truW_E, rdAll_nil, rdAll_cons, lcEnd_ok, turn_E, turn_E1, turn_E2, turn_E3, x_lc, y_lc, z_lc, s_for, s_for1, s_for2, fturn_E, fturn_E1, unlR_ok, s_nop, s_set, s_setT, s_setI, s_setI1, s_mut, s_ext, s_expr, s_ret, s_retN, s_ite, s_ite1, s_rais, callEnd_ok, callEnd_exc, callAt_E, callAt_E1, retOf, M.rfs, startE, slotOf, isR, refsOf, argsAt, putRefs, fzv, fzn, rdv, setS, fr_none, fr_sh, fr_ow, fr_rf, fr_ln, bindT, bindTs, MT.vars, MT.varsL, mutS, ownS, isd_int_none, isd_int_bool, isd_int_int, isd_int_str, isd_int_list, isd_int_tuple, isd_bool_none, isd_bool_bool, isd_bool_int, isd_bool_str, isd_bool_list, isd_bool_tuple, isd_str_none, isd_str_bool, isd_str_int, isd_str_str, isd_str_list, isd_str_tuple, isd_tuple_none, isd_tuple_bool, isd_tuple_int, isd_tuple_str, isd_tuple_list, isd_tuple_tuple, isd_list_none, isd_list_bool, isd_list_int, isd_list_str, isd_list_list, isd_list_tuple, eqOk, lendE, lend1, backE, wipeE, lent, slots, normW, unlend, cutD, eqv_int, eqv_str, eqv_bool, eqv_list, eqv_tuple, eqva_nil, eqva_cons, eqva_l, eqva_r, dp_int, dp_str, dp_bool, dp_list, dp_tuple, dpa_nil, dpa_cons, ofStr_beq, intsD, boolsD, nd_int, nd_bool, nd_str, nd_none, nd_list, nd_tuple, szl, M.truD.eq_1, M.truD.eq_2, M.truD.eq_3, M.truD.eq_4, M.truD.eq_5, M.truD.eq_6, M.truD.eq_7, M.setD.eq_1, M.subD.eq_1, M.subD.eq_2, M.subD.eq_3, M.slcD.eq_1, M.slcD.eq_2, M.itemsD.eq_1, M.itemsD.eq_2, M.itemsD.eq_3, M.itemsD.eq_4, M.itemsD.eq_5, M.itemsD.eq_6, M.itemsD.eq_7, M.cmpD.eq_1, M.cmpD.eq_2, M.cmpD.eq_3, M.cmpD.eq_4, M.cmpD.eq_5, M.cmpD.eq_6, M.cmpD.eq_7, M.cmpD.eq_9, M.cmpD.eq_11, M.cmpD.eq_12, M.cmpD.eq_13, M.cmpD.eq_14, M.binD.eq_1, M.binD.eq_2, M.binD.eq_3, M.binD.eq_4, M.binD.eq_5, M.binD.eq_6, M.binD.eq_7, M.binD.eq_8, M.binD.eq_9, M.bltD.eq_1, M.bltD.eq_2, M.bltD.eq_3, M.bltD.eq_4, M.bltD.eq_5, M.bltD.eq_6, M.bltD.eq_7, M.bltD.eq_8, M.bltD.eq_9, M.bltD.eq_10, M.bltD.eq_11, M.bltD.eq_12, M.bltD.eq_13, M.bltD.eq_14, M.mutD.eq_1, M.mutD.eq_2, M.extD.eq_1, HT.sIx.eq_1, HT.sIx.eq_2, f_law_formula, b_law_formula, e_take, h, h5, anyN_len, anyN_ne, enc, hi]
    · by_cases h0 : (d : Int) = 0
      · simp [rbind_ok, rbind_exc, rbind_stuck, ofO_some, ofO_none, seqS_nx, seqS_rt, seqS_exc, lcNext_E, lcStep_ok, lcCons_ok, lcLoop_nil, lcLoop_step, foNext_E, forLoop_nil, forLoop_step, ssNext_E, evSs_nil, evSs_cons, x_var, x_cst, x_glo, x_bin, y_bin, x_neg, x_not, x_and, y_and, z_and, x_or, y_or, z_or, x_cmp, y_cmp, x_chn, y_chn, z_chn, w_chnT, w_chnF, x_ife, y_ife, z_ife, x_call, x_blt, x_isi, x_sub, y_sub, x_slc, y_slc, z_slc, x_tup, x_lst, a_nil, a_cons, a_cons1, a_cons2, e_nil, e_cons, e_cons1, g_nil, g_ref, g_c0, g_c1, g_c2, g_c3, g_c4, g_c5, g_c6, g_c7, g_c8, g_c9, g_c10, g_c11, g_c12, g_c13, g_c14, g_c15, g_c16, g_c17, g_c18, g_cons1, g_cons2, o_none, o_some, c_nil, c_cons, c_cons1, c_cons2, t_E, truW_E, rdAll_nil, rdAll_cons, lcEnd_ok, turn_E, turn_E1, turn_E2, turn_E3, x_lc, y_lc, z_lc, s_for, s_for1, s_for2, fturn_E, fturn_E1, unlR_ok, s_nop, s_set, s_setT, s_setI, s_setI1, s_mut, s_ext, s_expr, s_ret, s_retN, s_ite, s_ite1, s_rais, callEnd_ok, callEnd_exc, callAt_E, callAt_E1, retOf, M.rfs, startE, slotOf, isR, refsOf, argsAt, putRefs, fzv, fzn, rdv, setS, fr_none, fr_sh, fr_ow, fr_rf, fr_ln, bindT, bindTs, MT.vars, MT.varsL, mutS, ownS, isd_int_none, isd_int_bool, isd_int_int, isd_int_str, isd_int_list, isd_int_tuple, isd_bool_none, isd_bool_bool, isd_bool_int, isd_bool_str, isd_bool_list, isd_bool_tuple, isd_str_none, isd_str_bool, isd_str_int, isd_str_str, isd_str_list, isd_str_tuple, isd_tuple_none, isd_tuple_bool, isd_tuple_int, isd_tuple_str, isd_tuple_list, isd_tuple_tuple, isd_list_none, isd_list_bool, isd_list_int, isd_list_str, isd_list_list, isd_list_tuple, eqOk, lendE, lend1, backE, wipeE, lent, slots, normW, unlend, cutD, eqv_int, eqv_str, eqv_bool, eqv_list, eqv_tuple, eqva_nil, eqva_cons, eqva_l, eqva_r, dp_int, dp_str, dp_bool, dp_list, dp_tuple, dpa_nil, dpa_cons, ofStr_beq, intsD, boolsD, nd_int, nd_bool, nd_str, nd_none, nd_list, nd_tuple, szl, M.truD.eq_1, M.truD.eq_2, M.truD.eq_3, M.truD.eq_4, M.truD.eq_5, M.truD.eq_6, M.truD.eq_7, M.setD.eq_1, M.subD.eq_1, M.subD.eq_2, M.subD.eq_3, M.slcD.eq_1, M.slcD.eq_2, M.itemsD.eq_1, M.itemsD.eq_2, M.itemsD.eq_3, M.itemsD.eq_4, M.itemsD.eq_5, M.itemsD.eq_6, M.itemsD.eq_7, M.cmpD.eq_1, M.cmpD.eq_2, M.cmpD.eq_3, M.cmpD.eq_4, M.cmpD.eq_5, M.cmpD.eq_6, M.cmpD.eq_7, M.cmpD.eq_9, M.cmpD.eq_11, M.cmpD.eq_12, M.cmpD.eq_13, M.cmpD.eq_14, M.binD.eq_1, M.binD.eq_2, M.binD.eq_3, M.binD.eq_4, M.binD.eq_5, M.binD.eq_6, M.binD.eq_7, M.binD.eq_8, M.binD.eq_9, M.bltD.eq_1, M.bltD.eq_2, M.bltD.eq_3, M.bltD.eq_4, M.bltD.eq_5, M.bltD.eq_6, M.bltD.eq_7, M.bltD.eq_8, M.bltD.eq_9, M.bltD.eq_10, M.bltD.eq_11, M.bltD.eq_12, M.bltD.eq_13, M.bltD.eq_14, M.mutD.eq_1, M.mutD.eq_2, M.extD.eq_1, HT.sIx.eq_1, HT.sIx.eq_2, f_law_formula, b_law_formula, e_take, h0, h5, anyN_len, anyN_ne, enc, hi]
      · have h0' : ¬ d = 0 := by omega
        simp [rbind_ok, rbind_exc, rbind_stuck, ofO_some, ofO_none, seqS_nx, seqS_rt, seqS_exc, lcNext_E, lcStep_ok, lcCons_ok, lcLoop_nil, lcLoop_step, foNext_E, forLoop_nil, forLoop_step, ssNext_E, evSs_nil, evSs_cons, x_var, x_cst, x_glo, x_bin, y_bin, x_neg, x_not, x_and, y_and, z_and, x_or, y_or, z_or, x_cmp, y_cmp, x_chn, y_chn, z_chn, w_chnT, w_chnF, x_ife, y_ife, z_ife, x_call, x_blt, x_isi, x_sub, y_sub, x_slc, y_slc, z_slc, x_tup, x_lst, a_nil, a_cons, a_cons1, a_cons2, e_nil, e_cons, e_cons1, g_nil, g_ref, g_c0, g_c1, g_c2, g_c3, g_c4, g_c5, g_c6, g_c7, g_c8, g_c9, g_c10, g_c11, g_c12, g_c13, g_c14, g_c15, g_c16, g_c17, g_c18, g_cons1, g_cons2, o_none, o_some, c_nil, c_cons, c_cons1, c_cons2, t_E, truW_E, rdAll_nil, rdAll_cons, lcEnd_ok, turn_E, turn_E1, turn_E2, turn_E3, x_lc, y_lc, z_lc, s_for, s_for1, s_for2, fturn_E, fturn_E1, unlR_ok, s_nop, s_set, s_setT, s_setI, s_setI1, s_mut, s_ext, s_expr, s_ret, s_retN, s_ite, s_ite1, s_rais, callEnd_ok, callEnd_exc, callAt_E, callAt_E1, retOf, M.rfs, startE, slotOf, isR, refsOf, argsAt, putRefs, fzv, fzn, rdv, setS, fr_none, fr_sh, fr_ow, fr_rf, fr_ln, bindT, bindTs, MT.vars, MT.varsL, mutS, ownS, isd_int_none, isd_int_bool, isd_int_int, isd_int_str, isd_int_list, isd_int_tuple, isd_bool_none, isd_bool_bool, isd_bool_int, isd_bool_str, isd_bool_list, isd_bool_tuple, isd_str_none, isd_str_bool, isd_str_int, isd_str_str, isd_str_list, isd_str_tuple, isd_tuple_none, isd_tuple_bool, isd_tuple_int, isd_tuple_str, isd_tuple_list, isd_tuple_tuple, isd_list_none, isd_list_bool, isd_list_int, isd_list_str, isd_list_list, isd_list_tuple, eqOk, lendE, lend1, backE, wipeE, lent, slots, normW, unlend, cutD, eqv_int, eqv_str, eqv_bool, eqv_list, eqv_tuple, eqva_nil, eqva_cons, eqva_l, eqva_r, dp_int, dp_str, dp_bool, dp_list, dp_tuple, dpa_nil, dpa_cons, ofStr_beq, intsD, boolsD, nd_int, nd_bool, nd_str, nd_none, nd_list, nd_tuple, szl, M.truD.eq_1, M.truD.eq_2, M.truD.eq_3, M.truD.eq_4, M.truD.eq_5, M.truD.eq_6, M.truD.eq_7, M.setD.eq_1, M.subD.eq_1, M.subD.eq_2, M.subD.eq_3, M.slcD.eq_1, M.slcD.eq_2, M.itemsD.eq_1, M.itemsD.eq_2, M.itemsD.eq_3, M.itemsD.eq_4, M.itemsD.eq_5, M.itemsD.eq_6, M.itemsD.eq_7, M.cmpD.eq_1, M.cmpD.eq_2, M.cmpD.eq_3, M.cmpD.eq_4, M.cmpD.eq_5, M.cmpD.eq_6, M.cmpD.eq_7, M.cmpD.eq_9, M.cmpD.eq_11, M.cmpD.eq_12, M.cmpD.eq_13, M.cmpD.eq_14, M.binD.eq_1, M.binD.eq_2, M.binD.eq_3, M.binD.eq_4, M.binD.eq_5, M.binD.eq_6, M.binD.eq_7, M.binD.eq_8, M.binD.eq_9, M.bltD.eq_1, M.bltD.eq_2, M.bltD.eq_3, M.bltD.eq_4, M.bltD.eq_5, M.bltD.eq_6, M.bltD.eq_7, M.bltD.eq_8, M.bltD.eq_9, M.bltD.eq_10, M.bltD.eq_11, M.bltD.eq_12, M.bltD.eq_13, M.bltD.eq_14, M.mutD.eq_1, M.mutD.eq_2, M.extD.eq_1, HT.sIx.eq_1, HT.sIx.eq_2, f_law_formula, b_law_formula, e_take, h0, h0', h, h5, anyN_len, anyN_ne, enc, hi]
end K02
namespace K02
open PySem M
def GenOk (n d : Nat) : Prop := ∀ x : Int, ∃ f x', callF F G n fi_law_formula [.r (.list [.int x]), .v (.list anyN), .v (.int d)] = .ok ⟨enc f, false, [.list [.int x']]⟩ ∧ Good d f
theorem gen_step (n d : Nat) (hn : 1 ≤ n) (ih : GenOk n d) : GenOk (n + 1) (d + 1) := by
  intro x
  by_cases h3 : x % 10 < 3
  · exact gen_leaf n (d + 1) x hn (.inr h3)
  · obtain ⟨n, rfl⟩ : ∃ m, n = m + 1 := ⟨n - 1, by omega⟩
    obtain ⟨f1, x1, i1, g1⟩ := ih (x / 10)
    obtain ⟨f2, x2, i2, g2⟩ := ih x1
    obtain ⟨f3, x3, i3, g3⟩ := ih x2
    obtain ⟨a1, a2, a3, a4⟩ := g1
    obtain ⟨b1, b2, b3, b4⟩ := g2
    obtain ⟨c1, c2, c3, c4⟩ := g3
    have hp := pm_pos d
    have ht := tm_pos d
    have good : ∀ f, Fit f → deep f ≤ d + 2 → (names f).length ≤ 3 * tm d → parts f ≤ 1 + 3 * pm d → Good (d + 1) f := fun f q1 q2 q3 q4 => ⟨q1, q2, q3, q4⟩
    have key : ∀ f x', callF F G (n + 1 + 1) fi_law_formula [.r (.list [.int x]), .v (.list anyN), .v (.int ((d + 1 : Nat) : Int))] = .ok ⟨enc f, false, [.list [.int x']]⟩ → Good (d + 1) f → ∃ f x', callF F G (n + 1 + 1) fi_law_formula [.r (.list [.int x]), .v (.list anyN), .v (.int ((d + 1 : Nat) : Int))] = .ok ⟨enc f, false, [.list [.int x']]⟩ ∧ Good (d + 1) f := fun f x' a b => ⟨f, x', a, b⟩
    have h0 : ¬ ((d : Int) + 1 = 0) := by omega
    have hs : ((d : Int) + 1 - 1) = d := by omega
    have two : ∀ w : Wo, Good (d + 1) (.two w f1 f2) := fun w => good _ ⟨a1, b1⟩ (by simp only [deep]; omega) (by simp only [names, List.length_append]; omega) (by simp only [parts]; omega)
    have hw : x % 10 = 3 ∨ x % 10 = 4 ∨ x % 10 = 5 ∨ x % 10 = 6 ∨ x % 10 = 7 ∨ x % 10 = 8 ∨ x % 10 = 9 := by omega
    rcases hw with hw | hw | hw | hw | hw | hw | hw
    · refine key (.two .sum f1 f2) x2 ?_ (two _)
      rw [callF_at (fn := f_law_formula) rfl rfl (Nat.le_of_ble_eq_true rfl)]
      simp [rbind_ok, rbind_exc, rbind_stuck, ofO_some, ofO_none, seqS_nx, seqS_rt, seqS_exc, lcNext_E, lcStep_ok, lcCons_ok, lcLoop_nil, lcLoop_step, foNext_E, forLoop_nil, forLoop_step, ssNext_E, evSs_nil, evSs_cons, x_var, x_cst, x_glo, x_bin, y_bin, x_neg, x_not, x_and, y_and, z_and, x_or, y_or, z_or, x_cmp, y_cmp, x_chn, y_chn, z_chn, w_chnT, w_chnF, x_ife, y_ife, z_ife, x_call, x_blt, x_isi, x_sub, y_sub, x_slc, y_slc, z_slc, x_tup, x_lst, a_nil, a_cons, a_cons1, a_cons2, e_nil, e_cons, e_cons1, g_nil, g_ref, g_c0, g_c1, g_c2, g_c3, g_c4, g_c5, g_c6, g_c7, g_c8, g_c9, g_c10, g_c11, g_c12, g_c13, g_c14, g_c15, g_c16, g_c17, g_c18, g_cons1, g_cons2, o_none, o_some, c_nil, c_cons, c_cons1, c_cons2, t_E, truW_E, rdAll_nil, rdAll_cons, lcEnd_ok, turn_E, turn_E1, turn_E2, turn_E3, x_lc, y_lc, z_lc, s_for, s_for1, s_for2, fturn_E, fturn_E1, unlR_ok, s_nop, s_set, s_setT, s_setI, s_setI1, s_mut, s_ext, s_expr, s_ret, s_retN, s_ite, s_ite1, s_rais, callEnd_ok, callEnd_exc, callAt_E, callAt_E1, retOf, M.rfs, startE, slotOf, isR, refsOf, argsAt, putRefs, fzv, fzn, rdv, setS, fr_none, fr_sh, fr_ow, fr_rf, fr_ln, bindT, bindTs, MT.vars, MT.varsL, mutS, ownS, isd_int_none, isd_int_bool, isd_int_int, isd_int_str, isd_int_list, isd_int_tuple, isd_bool_none, isd_bool_bool, isd_bool_int, isd_bool_str, isd_bool_list, isd_bool_tuple, isd_str_none, isd_str_bool, isd_str_int, isd_str_str, isd_str_list, isd_str_tuple, isd_tuple_none, isd_tuple_bool, isd_tuple_int, isd_tuple_str, isd_tuple_list, isd_tuple_tuple, isd_list_none, isd_list_bool, isd_list_int, isd_list_str, isd_list_list, isd_list_tuple, eqOk, lendE, lend1, backE, wipeE, lent, slots, normW, unlend, L2.atI, L2.ixN, cutD, eqv_int, eqv_str, eqv_bool, eqv_list, eqv_tuple, eqva_nil, eqva_cons, eqva_l, eqva_r, dp_int, dp_str, dp_bool, dp_list, dp_tuple, dpa_nil, dpa_cons, ofStr_beq, intsD, boolsD, nd_int, nd_bool, nd_str, nd_none, nd_list, nd_tuple, szl, M.truD.eq_1, M.truD.eq_2, M.truD.eq_3, M.truD.eq_4, M.truD.eq_5, M.truD.eq_6, M.truD.eq_7, M.setD.eq_1, M.subD.eq_1, M.subD.eq_2, M.subD.eq_3, M.slcD.eq_1, M.slcD.eq_2, M.itemsD.eq_1, M.itemsD.eq_2, M.itemsD.eq_3, M.itemsD.eq_4, M.itemsD.eq_5, M.itemsD.eq_6, M.itemsD.eq_7, M.cmpD.eq_1, M.cmpD.eq_2, M.cmpD.eq_3, M.cmpD.eq_4, M.cmpD.eq_5, M.cmpD.eq_6, M.cmpD.eq_7, M.cmpD.eq_9, M.cmpD.eq_11, M.cmpD.eq_12, M.cmpD.eq_13, M.cmpD.eq_14, M.binD.eq_1, M.binD.eq_2, M.binD.eq_3, M.binD.eq_4, M.binD.eq_5, M.binD.eq_6, M.binD.eq_7, M.binD.eq_8, M.binD.eq_9, M.bltD.eq_1, M.bltD.eq_2, M.bltD.eq_3, M.bltD.eq_4, M.bltD.eq_5, M.bltD.eq_6, M.bltD.eq_7, M.bltD.eq_8, M.bltD.eq_9, M.bltD.eq_10, M.bltD.eq_11, M.bltD.eq_12, M.bltD.eq_13, M.bltD.eq_14, M.mutD.eq_1, M.mutD.eq_2, M.extD.eq_1, HT.sIx.eq_1, HT.sIx.eq_2, f_law_formula, b_law_formula, e_take, h0, hs, hw, i1, i2, enc, enc_nd, Wo.s, List.range_succ, List.range_zero]
    · refine key (.two .less f1 f2) x2 ?_ (two _)
      rw [callF_at (fn := f_law_formula) rfl rfl (Nat.le_of_ble_eq_true rfl)]
      simp [rbind_ok, rbind_exc, rbind_stuck, ofO_some, ofO_none, seqS_nx, seqS_rt, seqS_exc, lcNext_E, lcStep_ok, lcCons_ok, lcLoop_nil, lcLoop_step, foNext_E, forLoop_nil, forLoop_step, ssNext_E, evSs_nil, evSs_cons, x_var, x_cst, x_glo, x_bin, y_bin, x_neg, x_not, x_and, y_and, z_and, x_or, y_or, z_or, x_cmp, y_cmp, x_chn, y_chn, z_chn, w_chnT, w_chnF, x_ife, y_ife, z_ife, x_call, x_blt, x_isi, x_sub, y_sub, x_slc, y_slc, z_slc, x_tup, x_lst, a_nil, a_cons, a_cons1, a_cons2, e_nil, e_cons, e_cons1, g_nil, g_ref, g_c0, g_c1, g_c2, g_c3, g_c4, g_c5, g_c6, g_c7, g_c8, g_c9, g_c10, g_c11, g_c12, g_c13, g_c14, g_c15, g_c16, g_c17, g_c18, g_cons1, g_cons2, o_none, o_some, c_nil, c_cons, c_cons1, c_cons2, t_E, truW_E, rdAll_nil, rdAll_cons, lcEnd_ok, turn_E, turn_E1, turn_E2, turn_E3, x_lc, y_lc, z_lc, s_for, s_for1, s_for2, fturn_E, fturn_E1, unlR_ok, s_nop, s_set, s_setT, s_setI, s_setI1, s_mut, s_ext, s_expr, s_ret, s_retN, s_ite, s_ite1, s_rais, callEnd_ok, callEnd_exc, callAt_E, callAt_E1, retOf, M.rfs, startE, slotOf, isR, refsOf, argsAt, putRefs, fzv, fzn, rdv, setS, fr_none, fr_sh, fr_ow, fr_rf, fr_ln, bindT, bindTs, MT.vars, MT.varsL, mutS, ownS, isd_int_none, isd_int_bool, isd_int_int, isd_int_str, isd_int_list, isd_int_tuple, isd_bool_none, isd_bool_bool, isd_bool_int, isd_bool_str, isd_bool_list, isd_bool_tuple, isd_str_none, isd_str_bool, isd_str_int, isd_str_str, isd_str_list, isd_str_tuple, isd_tuple_none, isd_tuple_bool, isd_tuple_int, isd_tuple_str, isd_tuple_list, isd_tuple_tuple, isd_list_none, isd_list_bool, isd_list_int, isd_list_str, isd_list_list, isd_list_tuple, eqOk, lendE, lend1, backE, wipeE, lent, slots, normW, unlend, L2.atI, L2.ixN, cutD, eqv_int, eqv_str, eqv_bool, eqv_list, eqv_tuple, eqva_nil, eqva_cons, eqva_l, eqva_r, dp_int, dp_str, dp_bool, dp_list, dp_tuple, dpa_nil, dpa_cons, ofStr_beq, intsD, boolsD, nd_int, nd_bool, nd_str, nd_none, nd_list, nd_tuple, szl, M.truD.eq_1, M.truD.eq_2, M.truD.eq_3, M.truD.eq_4, M.truD.eq_5, M.truD.eq_6, M.truD.eq_7, M.setD.eq_1, M.subD.eq_1, M.subD.eq_2, M.subD.eq_3, M.slcD.eq_1, M.slcD.eq_2, M.itemsD.eq_1, M.itemsD.eq_2, M.itemsD.eq_3, M.itemsD.eq_4, M.itemsD.eq_5, M.itemsD.eq_6, M.itemsD.eq_7, M.cmpD.eq_1, M.cmpD.eq_2, M.cmpD.eq_3, M.cmpD.eq_4, M.cmpD.eq_5, M.cmpD.eq_6, M.cmpD.eq_7, M.cmpD.eq_9, M.cmpD.eq_11, M.cmpD.eq_12, M.cmpD.eq_13, M.cmpD.eq_14, M.binD.eq_1, M.binD.eq_2, M.binD.eq_3, M.binD.eq_4, M.binD.eq_5, M.binD.eq_6, M.binD.eq_7, M.binD.eq_8, M.binD.eq_9, M.bltD.eq_1, M.bltD.eq_2, M.bltD.eq_3, M.bltD.eq_4, M.bltD.eq_5, M.bltD.eq_6, M.bltD.eq_7, M.bltD.eq_8, M.bltD.eq_9, M.bltD.eq_10, M.bltD.eq_11, M.bltD.eq_12, M.bltD.eq_13, M.bltD.eq_14, M.mutD.eq_1, M.mutD.eq_2, M.extD.eq_1, HT.sIx.eq_1, HT.sIx.eq_2, f_law_formula, b_law_formula, e_take, h0, hs, hw, i1, i2, enc, enc_nd, Wo.s, List.range_succ, List.range_zero]
    · refine key (.two .least f1 f2) x2 ?_ (two _)
      rw [callF_at (fn := f_law_formula) rfl rfl (Nat.le_of_ble_eq_true rfl)]
      simp [rbind_ok, rbind_exc, rbind_stuck, ofO_some, ofO_none, seqS_nx, seqS_rt, seqS_exc, lcNext_E, lcStep_ok, lcCons_ok, lcLoop_nil, lcLoop_step, foNext_E, forLoop_nil, forLoop_step, ssNext_E, evSs_nil, evSs_cons, x_var, x_cst, x_glo, x_bin, y_bin, x_neg, x_not, x_and, y_and, z_and, x_or, y_or, z_or, x_cmp, y_cmp, x_chn, y_chn, z_chn, w_chnT, w_chnF, x_ife, y_ife, z_ife, x_call, x_blt, x_isi, x_sub, y_sub, x_slc, y_slc, z_slc, x_tup, x_lst, a_nil, a_cons, a_cons1, a_cons2, e_nil, e_cons, e_cons1, g_nil, g_ref, g_c0, g_c1, g_c2, g_c3, g_c4, g_c5, g_c6, g_c7, g_c8, g_c9, g_c10, g_c11, g_c12, g_c13, g_c14, g_c15, g_c16, g_c17, g_c18, g_cons1, g_cons2, o_none, o_some, c_nil, c_cons, c_cons1, c_cons2, t_E, truW_E, rdAll_nil, rdAll_cons, lcEnd_ok, turn_E, turn_E1, turn_E2, turn_E3, x_lc, y_lc, z_lc, s_for, s_for1, s_for2, fturn_E, fturn_E1, unlR_ok, s_nop, s_set, s_setT, s_setI, s_setI1, s_mut, s_ext, s_expr, s_ret, s_retN, s_ite, s_ite1, s_rais, callEnd_ok, callEnd_exc, callAt_E, callAt_E1, retOf, M.rfs, startE, slotOf, isR, refsOf, argsAt, putRefs, fzv, fzn, rdv, setS, fr_none, fr_sh, fr_ow, fr_rf, fr_ln, bindT, bindTs, MT.vars, MT.varsL, mutS, ownS, isd_int_none, isd_int_bool, isd_int_int, isd_int_str, isd_int_list, isd_int_tuple, isd_bool_none, isd_bool_bool, isd_bool_int, isd_bool_str, isd_bool_list, isd_bool_tuple, isd_str_none, isd_str_bool, isd_str_int, isd_str_str, isd_str_list, isd_str_tuple, isd_tuple_none, isd_tuple_bool, isd_tuple_int, isd_tuple_str, isd_tuple_list, isd_tuple_tuple, isd_list_none, isd_list_bool, isd_list_int, isd_list_str, isd_list_list, isd_list_tuple, eqOk, lendE, lend1, backE, wipeE, lent, slots, normW, unlend, L2.atI, L2.ixN, cutD, eqv_int, eqv_str, eqv_bool, eqv_list, eqv_tuple, eqva_nil, eqva_cons, eqva_l, eqva_r, dp_int, dp_str, dp_bool, dp_list, dp_tuple, dpa_nil, dpa_cons, ofStr_beq, intsD, boolsD, nd_int, nd_bool, nd_str, nd_none, nd_list, nd_tuple, szl, M.truD.eq_1, M.truD.eq_2, M.truD.eq_3, M.truD.eq_4, M.truD.eq_5, M.truD.eq_6, M.truD.eq_7, M.setD.eq_1, M.subD.eq_1, M.subD.eq_2, M.subD.eq_3, M.slcD.eq_1, M.slcD.eq_2, M.itemsD.eq_1, M.itemsD.eq_2, M.itemsD.eq_3, M.itemsD.eq_4, M.itemsD.eq_5, M.itemsD.eq_6, M.itemsD.eq_7, M.cmpD.eq_1, M.cmpD.eq_2, M.cmpD.eq_3, M.cmpD.eq_4, M.cmpD.eq_5, M.cmpD.eq_6, M.cmpD.eq_7, M.cmpD.eq_9, M.cmpD.eq_11, M.cmpD.eq_12, M.cmpD.eq_13, M.cmpD.eq_14, M.binD.eq_1, M.binD.eq_2, M.binD.eq_3, M.binD.eq_4, M.binD.eq_5, M.binD.eq_6, M.binD.eq_7, M.binD.eq_8, M.binD.eq_9, M.bltD.eq_1, M.bltD.eq_2, M.bltD.eq_3, M.bltD.eq_4, M.bltD.eq_5, M.bltD.eq_6, M.bltD.eq_7, M.bltD.eq_8, M.bltD.eq_9, M.bltD.eq_10, M.bltD.eq_11, M.bltD.eq_12, M.bltD.eq_13, M.bltD.eq_14, M.mutD.eq_1, M.mutD.eq_2, M.extD.eq_1, HT.sIx.eq_1, HT.sIx.eq_2, f_law_formula, b_law_formula, e_take, h0, hs, hw, i1, i2, enc, enc_nd, Wo.s, List.range_succ, List.range_zero]
    · refine key (.two .greatest f1 f2) x2 ?_ (two _)
      rw [callF_at (fn := f_law_formula) rfl rfl (Nat.le_of_ble_eq_true rfl)]
      simp [rbind_ok, rbind_exc, rbind_stuck, ofO_some, ofO_none, seqS_nx, seqS_rt, seqS_exc, lcNext_E, lcStep_ok, lcCons_ok, lcLoop_nil, lcLoop_step, foNext_E, forLoop_nil, forLoop_step, ssNext_E, evSs_nil, evSs_cons, x_var, x_cst, x_glo, x_bin, y_bin, x_neg, x_not, x_and, y_and, z_and, x_or, y_or, z_or, x_cmp, y_cmp, x_chn, y_chn, z_chn, w_chnT, w_chnF, x_ife, y_ife, z_ife, x_call, x_blt, x_isi, x_sub, y_sub, x_slc, y_slc, z_slc, x_tup, x_lst, a_nil, a_cons, a_cons1, a_cons2, e_nil, e_cons, e_cons1, g_nil, g_ref, g_c0, g_c1, g_c2, g_c3, g_c4, g_c5, g_c6, g_c7, g_c8, g_c9, g_c10, g_c11, g_c12, g_c13, g_c14, g_c15, g_c16, g_c17, g_c18, g_cons1, g_cons2, o_none, o_some, c_nil, c_cons, c_cons1, c_cons2, t_E, truW_E, rdAll_nil, rdAll_cons, lcEnd_ok, turn_E, turn_E1, turn_E2, turn_E3, x_lc, y_lc, z_lc, s_for, s_for1, s_for2, fturn_E, fturn_E1, unlR_ok, s_nop, s_set, s_setT, s_setI, s_setI1, s_mut, s_ext, s_expr, s_ret, s_retN, s_ite, s_ite1, s_rais, callEnd_ok, callEnd_exc, callAt_E, callAt_E1, retOf, M.rfs, startE, slotOf, isR, refsOf, argsAt, putRefs, fzv, fzn, rdv, setS, fr_none, fr_sh, fr_ow, fr_rf, fr_ln, bindT, bindTs, MT.vars, MT.varsL, mutS, ownS, isd_int_none, isd_int_bool, isd_int_int, isd_int_str, isd_int_list, isd_int_tuple, isd_bool_none, isd_bool_bool, isd_bool_int, isd_bool_str, isd_bool_list, isd_bool_tuple, isd_str_none, isd_str_bool, isd_str_int, isd_str_str, isd_str_list, isd_str_tuple, isd_tuple_none, isd_tuple_bool, isd_tuple_int, isd_tuple_str, isd_tuple_list, isd_tuple_tuple, isd_list_none, isd_list_bool, isd_list_int, isd_list_str, isd_list_list, isd_list_tuple, eqOk, lendE, lend1, backE, wipeE, lent, slots, normW, unlend, L2.atI, L2.ixN, cutD, eqv_int, eqv_str, eqv_bool, eqv_list, eqv_tuple, eqva_nil, eqva_cons, eqva_l, eqva_r, dp_int, dp_str, dp_bool, dp_list, dp_tuple, dpa_nil, dpa_cons, ofStr_beq, intsD, boolsD, nd_int, nd_bool, nd_str, nd_none, nd_list, nd_tuple, szl, M.truD.eq_1, M.truD.eq_2, M.truD.eq_3, M.truD.eq_4, M.truD.eq_5, M.truD.eq_6, M.truD.eq_7, M.setD.eq_1, M.subD.eq_1, M.subD.eq_2, M.subD.eq_3, M.slcD.eq_1, M.slcD.eq_2, M.itemsD.eq_1, M.itemsD.eq_2, M.itemsD.eq_3, M.itemsD.eq_4, M.itemsD.eq_5, M.itemsD.eq_6, M.itemsD.eq_7, M.cmpD.eq_1, M.cmpD.eq_2, M.cmpD.eq_3, M.cmpD.eq_4, M.cmpD.eq_5, M.cmpD.eq_6, M.cmpD.eq_7, M.cmpD.eq_9, M.cmpD.eq_11, M.cmpD.eq_12, M.cmpD.eq_13, M.cmpD.eq_14, M.binD.eq_1, M.binD.eq_2, M.binD.eq_3, M.binD.eq_4, M.binD.eq_5, M.binD.eq_6, M.binD.eq_7, M.binD.eq_8, M.binD.eq_9, M.bltD.eq_1, M.bltD.eq_2, M.bltD.eq_3, M.bltD.eq_4, M.bltD.eq_5, M.bltD.eq_6, M.bltD.eq_7, M.bltD.eq_8, M.bltD.eq_9, M.bltD.eq_10, M.bltD.eq_11, M.bltD.eq_12, M.bltD.eq_13, M.bltD.eq_14, M.mutD.eq_1, M.mutD.eq_2, M.extD.eq_1, HT.sIx.eq_1, HT.sIx.eq_2, f_law_formula, b_law_formula, e_take, h0, hs, hw, i1, i2, enc, enc_nd, Wo.s, List.range_succ, List.range_zero]
    · refine key (.times (x1 % 7 - 3) f1) (x1 / 7) ?_ (good _ ⟨by omega, a1⟩ (by simp only [deep]; omega) (by simp only [names]; omega) (by simp only [parts]; omega))
      rw [callF_at (fn := f_law_formula) rfl rfl (Nat.le_of_ble_eq_true rfl)]
      simp [rbind_ok, rbind_exc, rbind_stuck, ofO_some, ofO_none, seqS_nx, seqS_rt, seqS_exc, lcNext_E, lcStep_ok, lcCons_ok, lcLoop_nil, lcLoop_step, foNext_E, forLoop_nil, forLoop_step, ssNext_E, evSs_nil, evSs_cons, x_var, x_cst, x_glo, x_bin, y_bin, x_neg, x_not, x_and, y_and, z_and, x_or, y_or, z_or, x_cmp, y_cmp, x_chn, y_chn, z_chn, w_chnT, w_chnF, x_ife, y_ife, z_ife, x_call, x_blt, x_isi, x_sub, y_sub, x_slc, y_slc, z_slc, x_tup, x_lst, a_nil, a_cons, a_cons1, a_cons2, e_nil, e_cons, e_cons1, g_nil, g_ref, g_c0, g_c1, g_c2, g_c3, g_c4, g_c5, g_c6, g_c7, g_c8, g_c9, g_c10, g_c11, g_c12, g_c13, g_c14, g_c15, g_c16, g_c17, g_c18, g_cons1, g_cons2, o_none, o_some, c_nil, c_cons, c_cons1, c_cons2, t_E, truW_E, rdAll_nil, rdAll_cons, lcEnd_ok, turn_E, turn_E1, turn_E2, turn_E3, x_lc, y_lc, z_lc, s_for, s_for1, s_for2, fturn_E, fturn_E1, unlR_ok, s_nop, s_set, s_setT, s_setI, s_setI1, s_mut, s_ext, s_expr, s_ret, s_retN, s_ite, s_ite1, s_rais, callEnd_ok, callEnd_exc, callAt_E, callAt_E1, retOf, M.rfs, startE, slotOf, isR, refsOf, argsAt, putRefs, fzv, fzn, rdv, setS, fr_none, fr_sh, fr_ow, fr_rf, fr_ln, bindT, bindTs, MT.vars, MT.varsL, mutS, ownS, isd_int_none, isd_int_bool, isd_int_int, isd_int_str, isd_int_list, isd_int_tuple, isd_bool_none, isd_bool_bool, isd_bool_int, isd_bool_str, isd_bool_list, isd_bool_tuple, isd_str_none, isd_str_bool, isd_str_int, isd_str_str, isd_str_list, isd_str_tuple, isd_tuple_none, isd_tuple_bool, isd_tuple_int, isd_tuple_str, isd_tuple_list, isd_tuple_tuple, isd_list_none, isd_list_bool, isd_list_int, isd_list_str, isd_list_list, isd_list_tuple, eqOk, lendE, lend1, backE, wipeE, lent, slots, normW, unlend, L2.atI, L2.ixN, cutD, eqv_int, eqv_str, eqv_bool, eqv_list, eqv_tuple, eqva_nil, eqva_cons, eqva_l, eqva_r, dp_int, dp_str, dp_bool, dp_list, dp_tuple, dpa_nil, dpa_cons, ofStr_beq, intsD, boolsD, nd_int, nd_bool, nd_str, nd_none, nd_list, nd_tuple, szl, M.truD.eq_1, M.truD.eq_2, M.truD.eq_3, M.truD.eq_4, M.truD.eq_5, M.truD.eq_6, M.truD.eq_7, M.setD.eq_1, M.subD.eq_1, M.subD.eq_2, M.subD.eq_3, M.slcD.eq_1, M.slcD.eq_2, M.itemsD.eq_1, M.itemsD.eq_2, M.itemsD.eq_3, M.itemsD.eq_4, M.itemsD.eq_5, M.itemsD.eq_6, M.itemsD.eq_7, M.cmpD.eq_1, M.cmpD.eq_2, M.cmpD.eq_3, M.cmpD.eq_4, M.cmpD.eq_5, M.cmpD.eq_6, M.cmpD.eq_7, M.cmpD.eq_9, M.cmpD.eq_11, M.cmpD.eq_12, M.cmpD.eq_13, M.cmpD.eq_14, M.binD.eq_1, M.binD.eq_2, M.binD.eq_3, M.binD.eq_4, M.binD.eq_5, M.binD.eq_6, M.binD.eq_7, M.binD.eq_8, M.binD.eq_9, M.bltD.eq_1, M.bltD.eq_2, M.bltD.eq_3, M.bltD.eq_4, M.bltD.eq_5, M.bltD.eq_6, M.bltD.eq_7, M.bltD.eq_8, M.bltD.eq_9, M.bltD.eq_10, M.bltD.eq_11, M.bltD.eq_12, M.bltD.eq_13, M.bltD.eq_14, M.mutD.eq_1, M.mutD.eq_2, M.extD.eq_1, HT.sIx.eq_1, HT.sIx.eq_2, f_law_formula, b_law_formula, e_take, h0, hs, hw, i1, enc, enc_nd, List.range_succ, List.range_zero]
    · refine key (.rest (1 + x1 % 7) f1) (x1 / 7) ?_ (good _ ⟨by omega, a1⟩ (by simp only [deep]; omega) (by simp only [names]; omega) (by simp only [parts]; omega))
      rw [callF_at (fn := f_law_formula) rfl rfl (Nat.le_of_ble_eq_true rfl)]
      simp [rbind_ok, rbind_exc, rbind_stuck, ofO_some, ofO_none, seqS_nx, seqS_rt, seqS_exc, lcNext_E, lcStep_ok, lcCons_ok, lcLoop_nil, lcLoop_step, foNext_E, forLoop_nil, forLoop_step, ssNext_E, evSs_nil, evSs_cons, x_var, x_cst, x_glo, x_bin, y_bin, x_neg, x_not, x_and, y_and, z_and, x_or, y_or, z_or, x_cmp, y_cmp, x_chn, y_chn, z_chn, w_chnT, w_chnF, x_ife, y_ife, z_ife, x_call, x_blt, x_isi, x_sub, y_sub, x_slc, y_slc, z_slc, x_tup, x_lst, a_nil, a_cons, a_cons1, a_cons2, e_nil, e_cons, e_cons1, g_nil, g_ref, g_c0, g_c1, g_c2, g_c3, g_c4, g_c5, g_c6, g_c7, g_c8, g_c9, g_c10, g_c11, g_c12, g_c13, g_c14, g_c15, g_c16, g_c17, g_c18, g_cons1, g_cons2, o_none, o_some, c_nil, c_cons, c_cons1, c_cons2, t_E, truW_E, rdAll_nil, rdAll_cons, lcEnd_ok, turn_E, turn_E1, turn_E2, turn_E3, x_lc, y_lc, z_lc, s_for, s_for1, s_for2, fturn_E, fturn_E1, unlR_ok, s_nop, s_set, s_setT, s_setI, s_setI1, s_mut, s_ext, s_expr, s_ret, s_retN, s_ite, s_ite1, s_rais, callEnd_ok, callEnd_exc, callAt_E, callAt_E1, retOf, M.rfs, startE, slotOf, isR, refsOf, argsAt, putRefs, fzv, fzn, rdv, setS, fr_none, fr_sh, fr_ow, fr_rf, fr_ln, bindT, bindTs, MT.vars, MT.varsL, mutS, ownS, isd_int_none, isd_int_bool, isd_int_int, isd_int_str, isd_int_list, isd_int_tuple, isd_bool_none, isd_bool_bool, isd_bool_int, isd_bool_str, isd_bool_list, isd_bool_tuple, isd_str_none, isd_str_bool, isd_str_int, isd_str_str, isd_str_list, isd_str_tuple, isd_tuple_none, isd_tuple_bool, isd_tuple_int, isd_tuple_str, isd_tuple_list, isd_tuple_tuple, isd_list_none, isd_list_bool, isd_list_int, isd_list_str, isd_list_list, isd_list_tuple, eqOk, lendE, lend1, backE, wipeE, lent, slots, normW, unlend, L2.atI, L2.ixN, cutD, eqv_int, eqv_str, eqv_bool, eqv_list, eqv_tuple, eqva_nil, eqva_cons, eqva_l, eqva_r, dp_int, dp_str, dp_bool, dp_list, dp_tuple, dpa_nil, dpa_cons, ofStr_beq, intsD, boolsD, nd_int, nd_bool, nd_str, nd_none, nd_list, nd_tuple, szl, M.truD.eq_1, M.truD.eq_2, M.truD.eq_3, M.truD.eq_4, M.truD.eq_5, M.truD.eq_6, M.truD.eq_7, M.setD.eq_1, M.subD.eq_1, M.subD.eq_2, M.subD.eq_3, M.slcD.eq_1, M.slcD.eq_2, M.itemsD.eq_1, M.itemsD.eq_2, M.itemsD.eq_3, M.itemsD.eq_4, M.itemsD.eq_5, M.itemsD.eq_6, M.itemsD.eq_7, M.cmpD.eq_1, M.cmpD.eq_2, M.cmpD.eq_3, M.cmpD.eq_4, M.cmpD.eq_5, M.cmpD.eq_6, M.cmpD.eq_7, M.cmpD.eq_9, M.cmpD.eq_11, M.cmpD.eq_12, M.cmpD.eq_13, M.cmpD.eq_14, M.binD.eq_1, M.binD.eq_2, M.binD.eq_3, M.binD.eq_4, M.binD.eq_5, M.binD.eq_6, M.binD.eq_7, M.binD.eq_8, M.binD.eq_9, M.bltD.eq_1, M.bltD.eq_2, M.bltD.eq_3, M.bltD.eq_4, M.bltD.eq_5, M.bltD.eq_6, M.bltD.eq_7, M.bltD.eq_8, M.bltD.eq_9, M.bltD.eq_10, M.bltD.eq_11, M.bltD.eq_12, M.bltD.eq_13, M.bltD.eq_14, M.mutD.eq_1, M.mutD.eq_2, M.extD.eq_1, HT.sIx.eq_1, HT.sIx.eq_2, f_law_formula, b_law_formula, e_take, h0, hs, hw, i1, enc, enc_nd, List.range_succ, List.range_zero]
    · refine key (.pick f1 f2 f3) x3 ?_ (good _ ⟨a1, b1, c1⟩ (by simp only [deep]; omega) (by simp only [names, List.length_append]; omega) (by simp only [parts]; omega))
      rw [callF_at (fn := f_law_formula) rfl rfl (Nat.le_of_ble_eq_true rfl)]
      simp [rbind_ok, rbind_exc, rbind_stuck, ofO_some, ofO_none, seqS_nx, seqS_rt, seqS_exc, lcNext_E, lcStep_ok, lcCons_ok, lcLoop_nil, lcLoop_step, foNext_E, forLoop_nil, forLoop_step, ssNext_E, evSs_nil, evSs_cons, x_var, x_cst, x_glo, x_bin, y_bin, x_neg, x_not, x_and, y_and, z_and, x_or, y_or, z_or, x_cmp, y_cmp, x_chn, y_chn, z_chn, w_chnT, w_chnF, x_ife, y_ife, z_ife, x_call, x_blt, x_isi, x_sub, y_sub, x_slc, y_slc, z_slc, x_tup, x_lst, a_nil, a_cons, a_cons1, a_cons2, e_nil, e_cons, e_cons1, g_nil, g_ref, g_c0, g_c1, g_c2, g_c3, g_c4, g_c5, g_c6, g_c7, g_c8, g_c9, g_c10, g_c11, g_c12, g_c13, g_c14, g_c15, g_c16, g_c17, g_c18, g_cons1, g_cons2, o_none, o_some, c_nil, c_cons, c_cons1, c_cons2, t_E, truW_E, rdAll_nil, rdAll_cons, lcEnd_ok, turn_E, turn_E1, turn_E2, turn_E3, x_lc, y_lc, z_lc, s_for, s_for1, s_for2, fturn_E, fturn_E1, unlR_ok, s_nop, s_set, s_setT, s_setI, s_setI1, s_mut, s_ext, s_expr, s_ret, s_retN, s_ite, s_ite1, s_rais, callEnd_ok, callEnd_exc, callAt_E, callAt_E1, retOf, M.rfs, startE, slotOf, isR, refsOf, argsAt, putRefs, fzv, fzn, rdv, setS, fr_none, fr_sh, fr_ow, fr_rf, fr_ln, bindT, bindTs, MT.vars, MT.varsL, mutS, ownS, isd_int_none, isd_int_bool, isd_int_int, isd_int_str, isd_int_list, isd_int_tuple, isd_bool_none, isd_bool_bool, isd_bool_int, isd_bool_str, isd_bool_list, isd_bool_tuple, isd_str_none, isd_str_bool, isd_str_int, isd_str_str, isd_str_list, isd_str_tuple, isd_tuple_none, isd_tuple_bool, isd_tuple_int, isd_tuple_str, isd_tuple_list, isd_tuple_tuple, isd_list_none, isd_list_bool, isd_list_int, isd_list_str, isd_list_list, isd_list_tuple, eqOk, lendE, lend1, backE, wipeE, lent, slots, normW, unlend, L2.atI, L2.ixN, cutD, eqv_int, eqv_str, eqv_bool, eqv_list, eqv_tuple, eqva_nil, eqva_cons, eqva_l, eqva_r, dp_int, dp_str, dp_bool, dp_list, dp_tuple, dpa_nil, dpa_cons, ofStr_beq, intsD, boolsD, nd_int, nd_bool, nd_str, nd_none, nd_list, nd_tuple, szl, M.truD.eq_1, M.truD.eq_2, M.truD.eq_3, M.truD.eq_4, M.truD.eq_5, M.truD.eq_6, M.truD.eq_7, M.setD.eq_1, M.subD.eq_1, M.subD.eq_2, M.subD.eq_3, M.slcD.eq_1, M.slcD.eq_2, M.itemsD.eq_1, M.itemsD.eq_2, M.itemsD.eq_3, M.itemsD.eq_4, M.itemsD.eq_5, M.itemsD.eq_6, M.itemsD.eq_7, M.cmpD.eq_1, M.cmpD.eq_2, M.cmpD.eq_3, M.cmpD.eq_4, M.cmpD.eq_5, M.cmpD.eq_6, M.cmpD.eq_7, M.cmpD.eq_9, M.cmpD.eq_11, M.cmpD.eq_12, M.cmpD.eq_13, M.cmpD.eq_14, M.binD.eq_1, M.binD.eq_2, M.binD.eq_3, M.binD.eq_4, M.binD.eq_5, M.binD.eq_6, M.binD.eq_7, M.binD.eq_8, M.binD.eq_9, M.bltD.eq_1, M.bltD.eq_2, M.bltD.eq_3, M.bltD.eq_4, M.bltD.eq_5, M.bltD.eq_6, M.bltD.eq_7, M.bltD.eq_8, M.bltD.eq_9, M.bltD.eq_10, M.bltD.eq_11, M.bltD.eq_12, M.bltD.eq_13, M.bltD.eq_14, M.mutD.eq_1, M.mutD.eq_2, M.extD.eq_1, HT.sIx.eq_1, HT.sIx.eq_2, f_law_formula, b_law_formula, e_take, h0, hs, hw, i1, i2, i3, enc, enc_nd, List.range_succ, List.range_zero]
theorem gen0 (n : Nat) (hn : 2 ≤ n) : GenOk n 0 := fun x => by
  obtain ⟨n, rfl⟩ : ∃ m, n = m + 1 := ⟨n - 1, by omega⟩
  exact gen_leaf n 0 x (by omega) (.inl rfl)
theorem gen2 (n : Nat) (hn : 4 ≤ n) : GenOk n 2 := by
  obtain ⟨n, rfl⟩ : ∃ m, n = m + 4 := ⟨n - 4, by omega⟩
  exact gen_step (n + 3) 1 (by omega) (gen_step (n + 2) 0 (by omega) (gen0 (n + 2) (by omega)))
end K02
namespace K02
open PySem M
theorem mulOk_modl {x m j : Int} (h : 0 < m) (h2 : m < 18446744073709551616) : mulOk (x % m) j = true := mulOk_l ⟨by have := Int.emod_nonneg x (Int.ne_of_gt h); omega, by have := Int.emod_lt_of_pos x h; omega⟩
def mix1 (c j : Int) : Int := (c % 2147483647 * 48271 + j * 69621 + 1048583) % 2147483629
def mix (c j : Int) : Int := (mix1 c j * mix1 c j % 2147483587) * (mix1 c j * mix1 c j % 2147483587 + 2) % 2147483579
theorem e_mixed (n : Nat) (c j : Int) : ∃ y, callF F G (n + 1) fi_law_mixed [.v (.int c), .v (.int j)] = .ok ⟨.int y, false, []⟩ := by
  have m1 : ∀ i, mulOk i 48271 = true := fun i => mulOk_r (by decide)
  have m2 : ∀ i, mulOk i 69621 = true := fun i => mulOk_r (by decide)
  refine ⟨mix c j, ?_⟩
  rw [callF_at (fn := f_law_mixed) rfl rfl (Nat.le_of_ble_eq_true rfl)]
  simp [rbind_ok, rbind_exc, rbind_stuck, ofO_some, ofO_none, seqS_nx, seqS_rt, seqS_exc, lcNext_E, lcStep_ok, lcCons_ok, lcLoop_nil, lcLoop_step, foNext_E, forLoop_nil, forLoop_step, ssNext_E, evSs_nil, evSs_cons, x_var, x_cst, x_glo, x_bin, y_bin, x_neg, x_not, x_and, y_and, z_and, x_or, y_or, z_or, x_cmp, y_cmp, x_chn, y_chn, z_chn, w_chnT, w_chnF, x_ife, y_ife, z_ife, x_call, x_blt, x_isi, x_sub, y_sub, x_slc, y_slc, z_slc, x_tup, x_lst, a_nil, a_cons, a_cons1, a_cons2, e_nil, e_cons, e_cons1, g_nil, g_ref, g_c0, g_c1, g_c2, g_c3, g_c4, g_c5, g_c6, g_c7, g_c8, g_c9, g_c10, g_c11, g_c12, g_c13, g_c14, g_c15, g_c16, g_c17, g_c18, g_cons1, g_cons2, o_none, o_some, c_nil, c_cons, c_cons1, c_cons2, t_E, truW_E, rdAll_nil, rdAll_cons, lcEnd_ok, turn_E, turn_E1, turn_E2, turn_E3, x_lc, y_lc, z_lc, s_for, s_for1, s_for2, fturn_E, fturn_E1, unlR_ok, s_nop, s_set, s_setT, s_setI, s_setI1, s_mut, s_ext, s_expr, s_ret, s_retN, s_ite, s_ite1, s_rais, callEnd_ok, callEnd_exc, callAt_E, callAt_E1, retOf, M.rfs, startE, slotOf, isR, refsOf, argsAt, putRefs, fzv, fzn, rdv, setS, fr_none, fr_sh, fr_ow, fr_rf, fr_ln, bindT, bindTs, MT.vars, MT.varsL, mutS, ownS, isd_int_none, isd_int_bool, isd_int_int, isd_int_str, isd_int_list, isd_int_tuple, isd_bool_none, isd_bool_bool, isd_bool_int, isd_bool_str, isd_bool_list, isd_bool_tuple, isd_str_none, isd_str_bool, isd_str_int, isd_str_str, isd_str_list, isd_str_tuple, isd_tuple_none, isd_tuple_bool, isd_tuple_int, isd_tuple_str, isd_tuple_list, isd_tuple_tuple, isd_list_none, isd_list_bool, isd_list_int, isd_list_str, isd_list_list, isd_list_tuple, eqOk, lendE, lend1, backE, wipeE, lent, slots, normW, unlend, L2.atI, L2.ixN, cutD, eqv_int, eqv_str, eqv_bool, eqv_list, eqv_tuple, eqva_nil, eqva_cons, eqva_l, eqva_r, dp_int, dp_str, dp_bool, dp_list, dp_tuple, dpa_nil, dpa_cons, ofStr_beq, intsD, boolsD, nd_int, nd_bool, nd_str, nd_none, nd_list, nd_tuple, szl, M.truD.eq_1, M.truD.eq_2, M.truD.eq_3, M.truD.eq_4, M.truD.eq_5, M.truD.eq_6, M.truD.eq_7, M.setD.eq_1, M.subD.eq_1, M.subD.eq_2, M.subD.eq_3, M.slcD.eq_1, M.slcD.eq_2, M.itemsD.eq_1, M.itemsD.eq_2, M.itemsD.eq_3, M.itemsD.eq_4, M.itemsD.eq_5, M.itemsD.eq_6, M.itemsD.eq_7, M.cmpD.eq_1, M.cmpD.eq_2, M.cmpD.eq_3, M.cmpD.eq_4, M.cmpD.eq_5, M.cmpD.eq_6, M.cmpD.eq_7, M.cmpD.eq_9, M.cmpD.eq_11, M.cmpD.eq_12, M.cmpD.eq_13, M.cmpD.eq_14, M.binD.eq_1, M.binD.eq_2, M.binD.eq_3, M.binD.eq_4, M.binD.eq_5, M.binD.eq_6, M.binD.eq_7, M.binD.eq_8, M.binD.eq_9, M.bltD.eq_1, M.bltD.eq_2, M.bltD.eq_3, M.bltD.eq_4, M.bltD.eq_5, M.bltD.eq_6, M.bltD.eq_7, M.bltD.eq_8, M.bltD.eq_9, M.bltD.eq_10, M.bltD.eq_11, M.bltD.eq_12, M.bltD.eq_13, M.bltD.eq_14, M.mutD.eq_1, M.mutD.eq_2, M.extD.eq_1, HT.sIx.eq_1, HT.sIx.eq_2, f_law_mixed, b_law_mixed, m1, m2, mulOk_modl, mix, mix1]
def bCell : List MS := [.set 3 (.bin .Add (.bin .Mult (.var 3) (.cst (.int 2147483579))) (.call fi_law_mixed [(.var 2), (.bin .Add (.bin .Add (.bin .Mult (.cst (.int 7)) (.var 1)) (.bin .Mult (.cst (.int 100)) (.var 4))) (.bin .Mult (.var 4) (.var 4)))]))]
theorem cell_loop (n : Nat) (s : Option Slot) (kk c : Int) : ∀ (l : List PyData), (∀ d ∈ l, ∃ j : Int, d = .int j ∧ 0 ≤ j ∧ j < 24) → ∀ (acc : Int) (o : Option Slot), freeS (some o) = true → ∃ acc' o', forLoop (M.forTurn (callF F G (n + 1)) G (.nm 4) bCell) l [s, some (.int kk, .sh), some (.int c, .sh), some (.int acc, .sh), o] = .ok (.nx [s, some (.int kk, .sh), some (.int c, .sh), some (.int acc', .sh), o'])
  | [], _, acc, o, _ => ⟨acc, o, rfl⟩
  | d :: l, hl, acc, o, ho => by
    obtain ⟨j, rfl, j0, j1⟩ := hl d List.mem_cons_self
    obtain ⟨y, hy⟩ := e_mixed n c (7 * kk + 100 * j + j * j)
    obtain ⟨acc', o', h⟩ := cell_loop n s kk c l (fun d hd => hl d (List.mem_cons_of_mem _ hd)) (acc * 2147483579 + y) (some (.int j, .sh)) rfl
    refine ⟨acc', o', ?_⟩
    have m1 : ∀ i, mulOk i 2147483579 = true := fun i => mulOk_r (by decide)
    have m2 : ∀ i, mulOk 7 i = true := fun i => mulOk_l (by decide)
    have m3 : ∀ i, mulOk 100 i = true := fun i => mulOk_l (by decide)
    have m4 : mulOk j j = true := mulOk_r ⟨by omega, by omega⟩
    rw [forLoop_step, ← h]
    have e : M.forTurn (callF F G (n + 1)) G (.nm 4) bCell (.int j) [s, some (.int kk, .sh), some (.int c, .sh), some (.int acc, .sh), o] = .ok (.nx [s, some (.int kk, .sh), some (.int c, .sh), some (.int (acc * 2147483579 + y), .sh), some (.int j, .sh)]) := by
      have hb : bindT (.nm 4) (.int j) [s, some (.int kk, .sh), some (.int c, .sh), some (.int acc, .sh), o] = some [s, some (.int kk, .sh), some (.int c, .sh), some (.int acc, .sh), some (.int j, .sh)] := by
        match o, ho with
        | none, _ => rfl
        | some (d, .sh), _ => rfl
        | some (d, .ow), _ => rfl
      unfold M.forTurn
      rw [hb]
      simp [rbind_ok, rbind_exc, rbind_stuck, ofO_some, ofO_none, seqS_nx, seqS_rt, seqS_exc, lcNext_E, lcStep_ok, lcCons_ok, lcLoop_nil, lcLoop_step, foNext_E, forLoop_nil, forLoop_step, ssNext_E, evSs_nil, evSs_cons, x_var, x_cst, x_glo, x_bin, y_bin, x_neg, x_not, x_and, y_and, z_and, x_or, y_or, z_or, x_cmp, y_cmp, x_chn, y_chn, z_chn, w_chnT, w_chnF, x_ife, y_ife, z_ife, x_call, x_blt, x_isi, x_sub, y_sub, x_slc, y_slc, z_slc, x_tup, x_lst, a_nil, a_cons, a_cons1, a_cons2, e_nil, e_cons, e_cons1, g_nil, g_ref, g_c0, g_c1, g_c2, g_c3, g_c4, g_c5, g_c6, g_c7, g_c8, g_c9, g_c10, g_c11, g_c12, g_c13, g_c14, g_c15, g_c16, g_c17, g_c18, g_cons1, g_cons2, o_none, o_some, c_nil, c_cons, c_cons1, c_cons2, t_E, truW_E, rdAll_nil, rdAll_cons, lcEnd_ok, turn_E, turn_E1, turn_E2, turn_E3, x_lc, y_lc, z_lc, s_for, s_for1, s_for2, fturn_E, fturn_E1, unlR_ok, s_nop, s_set, s_setT, s_setI, s_setI1, s_mut, s_ext, s_expr, s_ret, s_retN, s_ite, s_ite1, s_rais, callEnd_ok, callEnd_exc, callAt_E, callAt_E1, retOf, M.rfs, startE, slotOf, isR, refsOf, argsAt, putRefs, fzv, fzn, rdv, setS, fr_none, fr_sh, fr_ow, fr_rf, fr_ln, bindT, bindTs, MT.vars, MT.varsL, mutS, ownS, isd_int_none, isd_int_bool, isd_int_int, isd_int_str, isd_int_list, isd_int_tuple, isd_bool_none, isd_bool_bool, isd_bool_int, isd_bool_str, isd_bool_list, isd_bool_tuple, isd_str_none, isd_str_bool, isd_str_int, isd_str_str, isd_str_list, isd_str_tuple, isd_tuple_none, isd_tuple_bool, isd_tuple_int, isd_tuple_str, isd_tuple_list, isd_tuple_tuple, isd_list_none, isd_list_bool, isd_list_int, isd_list_str, isd_list_list, isd_list_tuple, eqOk, lendE, lend1, backE, wipeE, lent, slots, normW, unlend, L2.atI, L2.ixN, cutD, eqv_int, eqv_str, eqv_bool, eqv_list, eqv_tuple, eqva_nil, eqva_cons, eqva_l, eqva_r, dp_int, dp_str, dp_bool, dp_list, dp_tuple, dpa_nil, dpa_cons, ofStr_beq, intsD, boolsD, nd_int, nd_bool, nd_str, nd_none, nd_list, nd_tuple, szl, M.truD.eq_1, M.truD.eq_2, M.truD.eq_3, M.truD.eq_4, M.truD.eq_5, M.truD.eq_6, M.truD.eq_7, M.setD.eq_1, M.subD.eq_1, M.subD.eq_2, M.subD.eq_3, M.slcD.eq_1, M.slcD.eq_2, M.itemsD.eq_1, M.itemsD.eq_2, M.itemsD.eq_3, M.itemsD.eq_4, M.itemsD.eq_5, M.itemsD.eq_6, M.itemsD.eq_7, M.cmpD.eq_1, M.cmpD.eq_2, M.cmpD.eq_3, M.cmpD.eq_4, M.cmpD.eq_5, M.cmpD.eq_6, M.cmpD.eq_7, M.cmpD.eq_9, M.cmpD.eq_11, M.cmpD.eq_12, M.cmpD.eq_13, M.cmpD.eq_14, M.binD.eq_1, M.binD.eq_2, M.binD.eq_3, M.binD.eq_4, M.binD.eq_5, M.binD.eq_6, M.binD.eq_7, M.binD.eq_8, M.binD.eq_9, M.bltD.eq_1, M.bltD.eq_2, M.bltD.eq_3, M.bltD.eq_4, M.bltD.eq_5, M.bltD.eq_6, M.bltD.eq_7, M.bltD.eq_8, M.bltD.eq_9, M.bltD.eq_10, M.bltD.eq_11, M.bltD.eq_12, M.bltD.eq_13, M.bltD.eq_14, M.mutD.eq_1, M.mutD.eq_2, M.extD.eq_1, HT.sIx.eq_1, HT.sIx.eq_2, bCell, m1, m2, m3, m4, hy]
    rw [e]
    rfl
def mBig : ME := (.bin .Mult (.bin .Mult (.bin .Mult (.bin .Pow (.cst (.int 10)) (.cst (.int 60))) (.bin .Pow (.cst (.int 10)) (.cst (.int 60)))) (.bin .Pow (.cst (.int 10)) (.cst (.int 60)))) (.bin .Pow (.cst (.int 10)) (.cst (.int 60))))
theorem e_big (C : CallT) (env : M.Env) : ev C G mBig env = .ok (.va (.int (10 ^ 240)) false, env) := by kernel_rfl
theorem b_cell : b_law_cell = [.set 2 (.cst (.int 0)),
   .ite (.cmp .Lt (.var 1) (.blt .len [(.var 0)])) [.set 2 (.sub (.var 0) (.var 1))] [],
   .ite (.cmp .GtE (.var 2) (.bin .Pow (.cst (.int 10)) (.cst (.int 18)))) [.ret (.bin .Mod (.bin .Sub (.var 2) (.bin .Pow (.cst (.int 10)) (.cst (.int 18)))) mBig)] [],
   .set 3 (.cst (.int 0)),
   .forr (.nm 4) .r1 [(.cst (.int 24))] bCell,
   .ret (.var 3)] := rfl
theorem range_ok : ∀ d ∈ (List.range 24).map (fun (i : Nat) => PyData.int i), ∃ j : Int, d = .int j ∧ 0 ≤ j ∧ j < 24 := fun d hd => by
  obtain ⟨i, hi, rfl⟩ := List.mem_map.mp hd
  have := List.mem_range.mp hi
  exact ⟨i, rfl, by omega, by omega⟩
theorem cell_tail (n : Nat) (s : Option Slot) (kk c : Int) : ∃ x, retOf [false, false] (evSs (callF F G (n + 1)) G [.ite (.cmp .GtE (.var 2) (.bin .Pow (.cst (.int 10)) (.cst (.int 18)))) [.ret (.bin .Mod (.bin .Sub (.var 2) (.bin .Pow (.cst (.int 10)) (.cst (.int 18)))) mBig)] [],
   .set 3 (.cst (.int 0)),
   .forr (.nm 4) .r1 [(.cst (.int 24))] bCell,
   .ret (.var 3)] [s, some (.int kk, .sh), some (.int c, .sh), none, none]) = .ok ⟨.int x, false, []⟩ := by
  by_cases hc : 1000000000000000000 ≤ c
  · refine ⟨(c - 1000000000000000000) % 10 ^ 240, ?_⟩
    simp [rbind_ok, rbind_exc, rbind_stuck, ofO_some, ofO_none, seqS_nx, seqS_rt, seqS_exc, lcNext_E, lcStep_ok, lcCons_ok, lcLoop_nil, lcLoop_step, foNext_E, forLoop_nil, forLoop_step, ssNext_E, evSs_nil, evSs_cons, x_var, x_cst, x_glo, x_bin, y_bin, x_neg, x_not, x_and, y_and, z_and, x_or, y_or, z_or, x_cmp, y_cmp, x_chn, y_chn, z_chn, w_chnT, w_chnF, x_ife, y_ife, z_ife, x_call, x_blt, x_isi, x_sub, y_sub, x_slc, y_slc, z_slc, x_tup, x_lst, a_nil, a_cons, a_cons1, a_cons2, e_nil, e_cons, e_cons1, g_nil, g_ref, g_c0, g_c1, g_c2, g_c3, g_c4, g_c5, g_c6, g_c7, g_c8, g_c9, g_c10, g_c11, g_c12, g_c13, g_c14, g_c15, g_c16, g_c17, g_c18, g_cons1, g_cons2, o_none, o_some, c_nil, c_cons, c_cons1, c_cons2, t_E, truW_E, rdAll_nil, rdAll_cons, lcEnd_ok, turn_E, turn_E1, turn_E2, turn_E3, x_lc, y_lc, z_lc, s_for, s_for1, s_for2, fturn_E, fturn_E1, unlR_ok, s_nop, s_set, s_setT, s_setI, s_setI1, s_mut, s_ext, s_expr, s_ret, s_retN, s_ite, s_ite1, s_rais, callEnd_ok, callEnd_exc, callAt_E, callAt_E1, retOf, M.rfs, startE, slotOf, isR, refsOf, argsAt, putRefs, fzv, fzn, rdv, setS, fr_none, fr_sh, fr_ow, fr_rf, fr_ln, bindT, bindTs, MT.vars, MT.varsL, mutS, ownS, isd_int_none, isd_int_bool, isd_int_int, isd_int_str, isd_int_list, isd_int_tuple, isd_bool_none, isd_bool_bool, isd_bool_int, isd_bool_str, isd_bool_list, isd_bool_tuple, isd_str_none, isd_str_bool, isd_str_int, isd_str_str, isd_str_list, isd_str_tuple, isd_tuple_none, isd_tuple_bool, isd_tuple_int, isd_tuple_str, isd_tuple_list, isd_tuple_tuple, isd_list_none, isd_list_bool, isd_list_int, isd_list_str, isd_list_list, isd_list_tuple, eqOk, lendE, lend1, backE, wipeE, lent, slots, normW, unlend, L2.atI, L2.ixN, cutD, eqv_int, eqv_str, eqv_bool, eqv_list, eqv_tuple, eqva_nil, eqva_cons, eqva_l, eqva_r, dp_int, dp_str, dp_bool, dp_list, dp_tuple, dpa_nil, dpa_cons, ofStr_beq, intsD, boolsD, nd_int, nd_bool, nd_str, nd_none, nd_list, nd_tuple, szl, M.truD.eq_1, M.truD.eq_2, M.truD.eq_3, M.truD.eq_4, M.truD.eq_5, M.truD.eq_6, M.truD.eq_7, M.setD.eq_1, M.subD.eq_1, M.subD.eq_2, M.subD.eq_3, M.slcD.eq_1, M.slcD.eq_2, M.itemsD.eq_1, M.itemsD.eq_2, M.itemsD.eq_3, M.itemsD.eq_4, M.itemsD.eq_5, M.itemsD.eq_6, M.itemsD.eq_7, M.cmpD.eq_1, M.cmpD.eq_2, M.cmpD.eq_3, M.cmpD.eq_4, M.cmpD.eq_5, M.cmpD.eq_6, M.cmpD.eq_7, M.cmpD.eq_9, M.cmpD.eq_11, M.cmpD.eq_12, M.cmpD.eq_13, M.cmpD.eq_14, M.binD.eq_1, M.binD.eq_2, M.binD.eq_3, M.binD.eq_4, M.binD.eq_5, M.binD.eq_6, M.binD.eq_7, M.binD.eq_8, M.binD.eq_9, M.bltD.eq_1, M.bltD.eq_2, M.bltD.eq_3, M.bltD.eq_4, M.bltD.eq_5, M.bltD.eq_6, M.bltD.eq_7, M.bltD.eq_8, M.bltD.eq_9, M.bltD.eq_10, M.bltD.eq_11, M.bltD.eq_12, M.bltD.eq_13, M.bltD.eq_14, M.mutD.eq_1, M.mutD.eq_2, M.extD.eq_1, HT.sIx.eq_1, HT.sIx.eq_2, ↓e_big, hc]
  · obtain ⟨acc', o', h⟩ := cell_loop n s kk c _ range_ok 0 none rfl
    refine ⟨acc', ?_⟩
    simp [rbind_ok, rbind_exc, rbind_stuck, ofO_some, ofO_none, seqS_nx, seqS_rt, seqS_exc, lcNext_E, lcStep_ok, lcCons_ok, lcLoop_nil, lcLoop_step, foNext_E, ssNext_E, evSs_nil, evSs_cons, x_var, x_cst, x_glo, x_bin, y_bin, x_neg, x_not, x_and, y_and, z_and, x_or, y_or, z_or, x_cmp, y_cmp, x_chn, y_chn, z_chn, w_chnT, w_chnF, x_ife, y_ife, z_ife, x_call, x_blt, x_isi, x_sub, y_sub, x_slc, y_slc, z_slc, x_tup, x_lst, a_nil, a_cons, a_cons1, a_cons2, e_nil, e_cons, e_cons1, g_nil, g_ref, g_c0, g_c1, g_c2, g_c3, g_c4, g_c5, g_c6, g_c7, g_c8, g_c9, g_c10, g_c11, g_c12, g_c13, g_c14, g_c15, g_c16, g_c17, g_c18, g_cons1, g_cons2, o_none, o_some, c_nil, c_cons, c_cons1, c_cons2, t_E, truW_E, rdAll_nil, rdAll_cons, lcEnd_ok, turn_E, turn_E1, turn_E2, turn_E3, x_lc, y_lc, z_lc, s_for, s_for1, s_for2, fturn_E, fturn_E1, unlR_ok, s_nop, s_set, s_setT, s_setI, s_setI1, s_mut, s_ext, s_expr, s_ret, s_retN, s_ite, s_ite1, s_rais, callEnd_ok, callEnd_exc, callAt_E, callAt_E1, retOf, M.rfs, startE, slotOf, isR, refsOf, argsAt, putRefs, fzv, fzn, rdv, setS, fr_none, fr_sh, fr_ow, fr_rf, fr_ln, bindT, bindTs, MT.vars, MT.varsL, mutS, ownS, isd_int_none, isd_int_bool, isd_int_int, isd_int_str, isd_int_list, isd_int_tuple, isd_bool_none, isd_bool_bool, isd_bool_int, isd_bool_str, isd_bool_list, isd_bool_tuple, isd_str_none, isd_str_bool, isd_str_int, isd_str_str, isd_str_list, isd_str_tuple, isd_tuple_none, isd_tuple_bool, isd_tuple_int, isd_tuple_str, isd_tuple_list, isd_tuple_tuple, isd_list_none, isd_list_bool, isd_list_int, isd_list_str, isd_list_list, isd_list_tuple, eqOk, lendE, lend1, backE, wipeE, lent, slots, normW, unlend, L2.atI, L2.ixN, cutD, eqv_int, eqv_str, eqv_bool, eqv_list, eqv_tuple, eqva_nil, eqva_cons, eqva_l, eqva_r, dp_int, dp_str, dp_bool, dp_list, dp_tuple, dpa_nil, dpa_cons, ofStr_beq, intsD, boolsD, nd_int, nd_bool, nd_str, nd_none, nd_list, nd_tuple, szl, M.truD.eq_1, M.truD.eq_2, M.truD.eq_3, M.truD.eq_4, M.truD.eq_5, M.truD.eq_6, M.truD.eq_7, M.setD.eq_1, M.subD.eq_1, M.subD.eq_2, M.subD.eq_3, M.slcD.eq_1, M.slcD.eq_2, M.itemsD.eq_1, M.itemsD.eq_2, M.itemsD.eq_3, M.itemsD.eq_4, M.itemsD.eq_5, M.itemsD.eq_6, M.itemsD.eq_7, M.cmpD.eq_1, M.cmpD.eq_2, M.cmpD.eq_3, M.cmpD.eq_4, M.cmpD.eq_5, M.cmpD.eq_6, M.cmpD.eq_7, M.cmpD.eq_9, M.cmpD.eq_11, M.cmpD.eq_12, M.cmpD.eq_13, M.cmpD.eq_14, M.binD.eq_1, M.binD.eq_2, M.binD.eq_3, M.binD.eq_4, M.binD.eq_5, M.binD.eq_6, M.binD.eq_7, M.binD.eq_8, M.binD.eq_9, M.bltD.eq_1, M.bltD.eq_2, M.bltD.eq_3, M.bltD.eq_4, M.bltD.eq_5, M.bltD.eq_6, M.bltD.eq_7, M.bltD.eq_8, M.bltD.eq_9, M.bltD.eq_10, M.bltD.eq_11, M.bltD.eq_12, M.bltD.eq_13, M.bltD.eq_14, M.mutD.eq_1, M.mutD.eq_2, M.extD.eq_1, HT.sIx.eq_1, HT.sIx.eq_2, hc, h]
theorem at_ints (ns : List Int) (k : Nat) (h : k < ns.length) : L2.atI (ns.map PyData.int) (k : Int) = some (.int ns[k]) := by
  unfold L2.atI L2.ixN
  rw [if_pos (by omega), if_pos (by rw [List.length_map]; omega)]
  simp [h]
theorem e_cell (n : Nat) (ns : List Int) (k : Nat) : ∃ x, callF F G (n + 2) fi_law_cell [.v (.list (ns.map PyData.int)), .v (.int k)] = .ok ⟨.int x, false, []⟩ := by
  rw [callF_at (fn := f_law_cell) rfl rfl (Nat.le_of_ble_eq_true rfl)]
  have s1 : evS (callF F G (n + 1)) G (.set 2 (.cst (.int 0))) [some (.list (ns.map PyData.int), .sh), some (.int k, .sh), none, none, none] = .ok (.nx [some (.list (ns.map PyData.int), .sh), some (.int k, .sh), some (.int 0, .sh), none, none]) := rfl
  have s2 : ∃ c, evS (callF F G (n + 1)) G (.ite (.cmp .Lt (.var 1) (.blt .len [(.var 0)])) [.set 2 (.sub (.var 0) (.var 1))] []) [some (.list (ns.map PyData.int), .sh), some (.int k, .sh), some (.int 0, .sh), none, none] = .ok (.nx [some (.list (ns.map PyData.int), .sh), some (.int k, .sh), some (.int c, .sh), none, none]) := by
    by_cases hk : k < ns.length
    · have ha := at_ints ns k hk
      refine ⟨ns[k], ?_⟩
      simp [rbind_ok, rbind_exc, rbind_stuck, ofO_some, ofO_none, seqS_nx, seqS_rt, seqS_exc, lcNext_E, lcStep_ok, lcCons_ok, lcLoop_nil, lcLoop_step, foNext_E, forLoop_nil, forLoop_step, ssNext_E, evSs_nil, evSs_cons, x_var, x_cst, x_glo, x_bin, y_bin, x_neg, x_not, x_and, y_and, z_and, x_or, y_or, z_or, x_cmp, y_cmp, x_chn, y_chn, z_chn, w_chnT, w_chnF, x_ife, y_ife, z_ife, x_call, x_blt, x_isi, x_sub, y_sub, x_slc, y_slc, z_slc, x_tup, x_lst, a_nil, a_cons, a_cons1, a_cons2, e_nil, e_cons, e_cons1, g_nil, g_ref, g_c0, g_c1, g_c2, g_c3, g_c4, g_c5, g_c6, g_c7, g_c8, g_c9, g_c10, g_c11, g_c12, g_c13, g_c14, g_c15, g_c16, g_c17, g_c18, g_cons1, g_cons2, o_none, o_some, c_nil, c_cons, c_cons1, c_cons2, t_E, truW_E, rdAll_nil, rdAll_cons, lcEnd_ok, turn_E, turn_E1, turn_E2, turn_E3, x_lc, y_lc, z_lc, s_for, s_for1, s_for2, fturn_E, fturn_E1, unlR_ok, s_nop, s_set, s_setT, s_setI, s_setI1, s_mut, s_ext, s_expr, s_ret, s_retN, s_ite, s_ite1, s_rais, callEnd_ok, callEnd_exc, callAt_E, callAt_E1, retOf, M.rfs, startE, slotOf, isR, refsOf, argsAt, putRefs, fzv, fzn, rdv, setS, fr_none, fr_sh, fr_ow, fr_rf, fr_ln, bindT, bindTs, MT.vars, MT.varsL, mutS, ownS, isd_int_none, isd_int_bool, isd_int_int, isd_int_str, isd_int_list, isd_int_tuple, isd_bool_none, isd_bool_bool, isd_bool_int, isd_bool_str, isd_bool_list, isd_bool_tuple, isd_str_none, isd_str_bool, isd_str_int, isd_str_str, isd_str_list, isd_str_tuple, isd_tuple_none, isd_tuple_bool, isd_tuple_int, isd_tuple_str, isd_tuple_list, isd_tuple_tuple, isd_list_none, isd_list_bool, isd_list_int, isd_list_str, isd_list_list, isd_list_tuple, eqOk, lendE, lend1, backE, wipeE, lent, slots, normW, unlend, cutD, eqv_int, eqv_str, eqv_bool, eqv_list, eqv_tuple, eqva_nil, eqva_cons, eqva_l, eqva_r, dp_int, dp_str, dp_bool, dp_list, dp_tuple, dpa_nil, dpa_cons, ofStr_beq, intsD, boolsD, nd_int, nd_bool, nd_str, nd_none, nd_list, nd_tuple, szl, M.truD.eq_1, M.truD.eq_2, M.truD.eq_3, M.truD.eq_4, M.truD.eq_5, M.truD.eq_6, M.truD.eq_7, M.setD.eq_1, M.subD.eq_1, M.subD.eq_2, M.subD.eq_3, M.slcD.eq_1, M.slcD.eq_2, M.itemsD.eq_1, M.itemsD.eq_2, M.itemsD.eq_3, M.itemsD.eq_4, M.itemsD.eq_5, M.itemsD.eq_6, M.itemsD.eq_7, M.cmpD.eq_1, M.cmpD.eq_2, M.cmpD.eq_3, M.cmpD.eq_4, M.cmpD.eq_5, M.cmpD.eq_6, M.cmpD.eq_7, M.cmpD.eq_9, M.cmpD.eq_11, M.cmpD.eq_12, M.cmpD.eq_13, M.cmpD.eq_14, M.binD.eq_1, M.binD.eq_2, M.binD.eq_3, M.binD.eq_4, M.binD.eq_5, M.binD.eq_6, M.binD.eq_7, M.binD.eq_8, M.binD.eq_9, M.bltD.eq_1, M.bltD.eq_2, M.bltD.eq_3, M.bltD.eq_4, M.bltD.eq_5, M.bltD.eq_6, M.bltD.eq_7, M.bltD.eq_8, M.bltD.eq_9, M.bltD.eq_10, M.bltD.eq_11, M.bltD.eq_12, M.bltD.eq_13, M.bltD.eq_14, M.mutD.eq_1, M.mutD.eq_2, M.extD.eq_1, HT.sIx.eq_1, HT.sIx.eq_2, ha, hk]
    · refine ⟨0, ?_⟩
      simp [rbind_ok, rbind_exc, rbind_stuck, ofO_some, ofO_none, seqS_nx, seqS_rt, seqS_exc, lcNext_E, lcStep_ok, lcCons_ok, lcLoop_nil, lcLoop_step, foNext_E, forLoop_nil, forLoop_step, ssNext_E, evSs_nil, evSs_cons, x_var, x_cst, x_glo, x_bin, y_bin, x_neg, x_not, x_and, y_and, z_and, x_or, y_or, z_or, x_cmp, y_cmp, x_chn, y_chn, z_chn, w_chnT, w_chnF, x_ife, y_ife, z_ife, x_call, x_blt, x_isi, x_sub, y_sub, x_slc, y_slc, z_slc, x_tup, x_lst, a_nil, a_cons, a_cons1, a_cons2, e_nil, e_cons, e_cons1, g_nil, g_ref, g_c0, g_c1, g_c2, g_c3, g_c4, g_c5, g_c6, g_c7, g_c8, g_c9, g_c10, g_c11, g_c12, g_c13, g_c14, g_c15, g_c16, g_c17, g_c18, g_cons1, g_cons2, o_none, o_some, c_nil, c_cons, c_cons1, c_cons2, t_E, truW_E, rdAll_nil, rdAll_cons, lcEnd_ok, turn_E, turn_E1, turn_E2, turn_E3, x_lc, y_lc, z_lc, s_for, s_for1, s_for2, fturn_E, fturn_E1, unlR_ok, s_nop, s_set, s_setT, s_setI, s_setI1, s_mut, s_ext, s_expr, s_ret, s_retN, s_ite, s_ite1, s_rais, callEnd_ok, callEnd_exc, callAt_E, callAt_E1, retOf, M.rfs, startE, slotOf, isR, refsOf, argsAt, putRefs, fzv, fzn, rdv, setS, fr_none, fr_sh, fr_ow, fr_rf, fr_ln, bindT, bindTs, MT.vars, MT.varsL, mutS, ownS, isd_int_none, isd_int_bool, isd_int_int, isd_int_str, isd_int_list, isd_int_tuple, isd_bool_none, isd_bool_bool, isd_bool_int, isd_bool_str, isd_bool_list, isd_bool_tuple, isd_str_none, isd_str_bool, isd_str_int, isd_str_str, isd_str_list, isd_str_tuple, isd_tuple_none, isd_tuple_bool, isd_tuple_int, isd_tuple_str, isd_tuple_list, isd_tuple_tuple, isd_list_none, isd_list_bool, isd_list_int, isd_list_str, isd_list_list, isd_list_tuple, eqOk, lendE, lend1, backE, wipeE, lent, slots, normW, unlend, cutD, eqv_int, eqv_str, eqv_bool, eqv_list, eqv_tuple, eqva_nil, eqva_cons, eqva_l, eqva_r, dp_int, dp_str, dp_bool, dp_list, dp_tuple, dpa_nil, dpa_cons, ofStr_beq, intsD, boolsD, nd_int, nd_bool, nd_str, nd_none, nd_list, nd_tuple, szl, M.truD.eq_1, M.truD.eq_2, M.truD.eq_3, M.truD.eq_4, M.truD.eq_5, M.truD.eq_6, M.truD.eq_7, M.setD.eq_1, M.subD.eq_1, M.subD.eq_2, M.subD.eq_3, M.slcD.eq_1, M.slcD.eq_2, M.itemsD.eq_1, M.itemsD.eq_2, M.itemsD.eq_3, M.itemsD.eq_4, M.itemsD.eq_5, M.itemsD.eq_6, M.itemsD.eq_7, M.cmpD.eq_1, M.cmpD.eq_2, M.cmpD.eq_3, M.cmpD.eq_4, M.cmpD.eq_5, M.cmpD.eq_6, M.cmpD.eq_7, M.cmpD.eq_9, M.cmpD.eq_11, M.cmpD.eq_12, M.cmpD.eq_13, M.cmpD.eq_14, M.binD.eq_1, M.binD.eq_2, M.binD.eq_3, M.binD.eq_4, M.binD.eq_5, M.binD.eq_6, M.binD.eq_7, M.binD.eq_8, M.binD.eq_9, M.bltD.eq_1, M.bltD.eq_2, M.bltD.eq_3, M.bltD.eq_4, M.bltD.eq_5, M.bltD.eq_6, M.bltD.eq_7, M.bltD.eq_8, M.bltD.eq_9, M.bltD.eq_10, M.bltD.eq_11, M.bltD.eq_12, M.bltD.eq_13, M.bltD.eq_14, M.mutD.eq_1, M.mutD.eq_2, M.extD.eq_1, HT.sIx.eq_1, HT.sIx.eq_2, hk]
  obtain ⟨c, s2⟩ := s2
  obtain ⟨x, h⟩ := cell_tail n (some (.list (ns.map PyData.int), .sh)) k c
  refine ⟨x, ?_⟩
  rw [← h]
  show retOf [false, false] (evSs _ _ b_law_cell [some (.list (ns.map PyData.int), .sh), some (.int k, .sh), none, none, none]) = _
  rw [b_cell, evSs_cons, s1, seqS_nx, ssNext_E, evSs_cons, s2, seqS_nx, ssNext_E]
end K02
namespace K02
open PySem M
theorem names_nn : ∀ (f : Fm), Fit f → ∀ p ∈ names f, 0 ≤ p.1 ∧ 0 ≤ p.2
  | .num i, _, p, hp => by simp [names] at hp
  | .worth i j, h, p, hp => by
    simp only [names, List.mem_singleton] at hp
    subst hp
    exact h
  | .two w a b, h, p, hp => by
    simp only [names, List.mem_append] at hp
    rcases hp with hp | hp
    · exact names_nn a h.1 p hp
    · exact names_nn b h.2 p hp
  | .times c a, h, p, hp => names_nn a h.2 p hp
  | .rest c a, h, p, hp => names_nn a h.2 p hp
  | .pick a b c, h, p, hp => by
    simp only [names, List.mem_append] at hp
    rcases hp with hp | hp | hp
    · exact names_nn a h.1 p hp
    · exact names_nn b h.2.1 p hp
    · exact names_nn c h.2.2 p hp
theorem pairs_ok : ∀ (l : List (Int × Int)), (∀ p ∈ l, 0 ≤ p.1 ∧ 0 ≤ p.2) → pairsD (l.map pD) = some l
  | [], _ => rfl
  | p :: r, h => by
    show pairsD (PyData.tuple [.int p.1, .int p.2] :: r.map pD) = _
    simp only [pairsD]
    rw [if_pos (h p List.mem_cons_self), pairs_ok r fun q hq => h q (List.mem_cons_of_mem _ hq)]
    rfl
def so (f : Fm) : List PyData := (pSort (names f)).map pD
theorem e_sset (f : Fm) (h : Fit f) (hz : (names f).length ≤ 60) : bltD .sset [.list ((names f).map pD)] = some (.list (so f), true) := by
  simp only [bltD]
  rw [if_pos (by rw [List.length_map]; omega), pairs_ok _ (names_nn f h)]
  rfl
theorem e_isf (n : Nat) (f : Fm) (h : Fit f) (hd : deep f ≤ 4) (hp : parts f ≤ 15) (hn : deep f + 3 ≤ n) : callF F G n fi_is_formula [.v (enc f)] = .ok ⟨.bool true, false, []⟩ := by
  obtain ⟨n, rfl⟩ : ∃ m, n = m + 1 := ⟨n - 1, by omega⟩
  rw [callF_at (fn := f_is_formula) rfl rfl (Nat.le_of_ble_eq_true rfl)]
  have e := e_deep f n 1 h (by omega) (by omega)
  simp [rbind_ok, rbind_exc, rbind_stuck, ofO_some, ofO_none, seqS_nx, seqS_rt, seqS_exc, lcNext_E, lcStep_ok, lcCons_ok, lcLoop_nil, lcLoop_step, foNext_E, forLoop_nil, forLoop_step, ssNext_E, evSs_nil, evSs_cons, x_var, x_cst, x_glo, x_bin, y_bin, x_neg, x_not, x_and, y_and, z_and, x_or, y_or, z_or, x_cmp, y_cmp, x_chn, y_chn, z_chn, w_chnT, w_chnF, x_ife, y_ife, z_ife, x_call, x_blt, x_isi, x_sub, y_sub, x_slc, y_slc, z_slc, x_tup, x_lst, a_nil, a_cons, a_cons1, a_cons2, e_nil, e_cons, e_cons1, g_nil, g_ref, g_c0, g_c1, g_c2, g_c3, g_c4, g_c5, g_c6, g_c7, g_c8, g_c9, g_c10, g_c11, g_c12, g_c13, g_c14, g_c15, g_c16, g_c17, g_c18, g_cons1, g_cons2, o_none, o_some, c_nil, c_cons, c_cons1, c_cons2, t_E, truW_E, rdAll_nil, rdAll_cons, lcEnd_ok, turn_E, turn_E1, turn_E2, turn_E3, x_lc, y_lc, z_lc, s_for, s_for1, s_for2, fturn_E, fturn_E1, unlR_ok, s_nop, s_set, s_setT, s_setI, s_setI1, s_mut, s_ext, s_expr, s_ret, s_retN, s_ite, s_ite1, s_rais, callEnd_ok, callEnd_exc, callAt_E, callAt_E1, retOf, M.rfs, startE, slotOf, isR, refsOf, argsAt, putRefs, fzv, fzn, rdv, setS, fr_none, fr_sh, fr_ow, fr_rf, fr_ln, bindT, bindTs, MT.vars, MT.varsL, mutS, ownS, isd_int_none, isd_int_bool, isd_int_int, isd_int_str, isd_int_list, isd_int_tuple, isd_bool_none, isd_bool_bool, isd_bool_int, isd_bool_str, isd_bool_list, isd_bool_tuple, isd_str_none, isd_str_bool, isd_str_int, isd_str_str, isd_str_list, isd_str_tuple, isd_tuple_none, isd_tuple_bool, isd_tuple_int, isd_tuple_str, isd_tuple_list, isd_tuple_tuple, isd_list_none, isd_list_bool, isd_list_int, isd_list_str, isd_list_list, isd_list_tuple, eqOk, lendE, lend1, backE, wipeE, lent, slots, normW, unlend, L2.atI, L2.ixN, cutD, eqv_int, eqv_str, eqv_bool, eqv_list, eqv_tuple, eqva_nil, eqva_cons, eqva_l, eqva_r, dp_int, dp_str, dp_bool, dp_list, dp_tuple, dpa_nil, dpa_cons, ofStr_beq, intsD, boolsD, nd_int, nd_bool, nd_str, nd_none, nd_list, nd_tuple, szl, M.truD.eq_1, M.truD.eq_2, M.truD.eq_3, M.truD.eq_4, M.truD.eq_5, M.truD.eq_6, M.truD.eq_7, M.setD.eq_1, M.subD.eq_1, M.subD.eq_2, M.subD.eq_3, M.slcD.eq_1, M.slcD.eq_2, M.itemsD.eq_1, M.itemsD.eq_2, M.itemsD.eq_3, M.itemsD.eq_4, M.itemsD.eq_5, M.itemsD.eq_6, M.itemsD.eq_7, M.cmpD.eq_1, M.cmpD.eq_2, M.cmpD.eq_3, M.cmpD.eq_4, M.cmpD.eq_5, M.cmpD.eq_6, M.cmpD.eq_7, M.cmpD.eq_9, M.cmpD.eq_11, M.cmpD.eq_12, M.cmpD.eq_13, M.cmpD.eq_14, M.binD.eq_1, M.binD.eq_2, M.binD.eq_3, M.binD.eq_4, M.binD.eq_5, M.binD.eq_6, M.binD.eq_7, M.binD.eq_8, M.binD.eq_9, M.bltD.eq_1, M.bltD.eq_2, M.bltD.eq_3, M.bltD.eq_4, M.bltD.eq_5, M.bltD.eq_6, M.bltD.eq_7, M.bltD.eq_8, M.bltD.eq_9, M.bltD.eq_10, M.bltD.eq_11, M.bltD.eq_12, M.bltD.eq_13, M.bltD.eq_14, M.mutD.eq_1, M.mutD.eq_2, M.extD.eq_1, HT.sIx.eq_1, HT.sIx.eq_2, f_is_formula, b_is_formula, gw, e, hp]
theorem e_look (n : Nat) (f : Fm) (h : Fit f) (hd : deep f ≤ 4) (hp : parts f ≤ 15) (hn : deep f + 4 ≤ n) : callF F G n fi_look_at_formula [.v (enc f)] = .ok ⟨.none, false, []⟩ := by
  obtain ⟨n, rfl⟩ : ∃ m, n = m + 1 := ⟨n - 1, by omega⟩
  rw [callF_at (fn := f_look_at_formula) rfl rfl (Nat.le_of_ble_eq_true rfl)]
  have e := e_isf n f h hd hp (by omega)
  simp [rbind_ok, rbind_exc, rbind_stuck, ofO_some, ofO_none, seqS_nx, seqS_rt, seqS_exc, lcNext_E, lcStep_ok, lcCons_ok, lcLoop_nil, lcLoop_step, foNext_E, forLoop_nil, forLoop_step, ssNext_E, evSs_nil, evSs_cons, x_var, x_cst, x_glo, x_bin, y_bin, x_neg, x_not, x_and, y_and, z_and, x_or, y_or, z_or, x_cmp, y_cmp, x_chn, y_chn, z_chn, w_chnT, w_chnF, x_ife, y_ife, z_ife, x_call, x_blt, x_isi, x_sub, y_sub, x_slc, y_slc, z_slc, x_tup, x_lst, a_nil, a_cons, a_cons1, a_cons2, e_nil, e_cons, e_cons1, g_nil, g_ref, g_c0, g_c1, g_c2, g_c3, g_c4, g_c5, g_c6, g_c7, g_c8, g_c9, g_c10, g_c11, g_c12, g_c13, g_c14, g_c15, g_c16, g_c17, g_c18, g_cons1, g_cons2, o_none, o_some, c_nil, c_cons, c_cons1, c_cons2, t_E, truW_E, rdAll_nil, rdAll_cons, lcEnd_ok, turn_E, turn_E1, turn_E2, turn_E3, x_lc, y_lc, z_lc, s_for, s_for1, s_for2, fturn_E, fturn_E1, unlR_ok, s_nop, s_set, s_setT, s_setI, s_setI1, s_mut, s_ext, s_expr, s_ret, s_retN, s_ite, s_ite1, s_rais, callEnd_ok, callEnd_exc, callAt_E, callAt_E1, retOf, M.rfs, startE, slotOf, isR, refsOf, argsAt, putRefs, fzv, fzn, rdv, setS, fr_none, fr_sh, fr_ow, fr_rf, fr_ln, bindT, bindTs, MT.vars, MT.varsL, mutS, ownS, isd_int_none, isd_int_bool, isd_int_int, isd_int_str, isd_int_list, isd_int_tuple, isd_bool_none, isd_bool_bool, isd_bool_int, isd_bool_str, isd_bool_list, isd_bool_tuple, isd_str_none, isd_str_bool, isd_str_int, isd_str_str, isd_str_list, isd_str_tuple, isd_tuple_none, isd_tuple_bool, isd_tuple_int, isd_tuple_str, isd_tuple_list, isd_tuple_tuple, isd_list_none, isd_list_bool, isd_list_int, isd_list_str, isd_list_list, isd_list_tuple, eqOk, lendE, lend1, backE, wipeE, lent, slots, normW, unlend, L2.atI, L2.ixN, cutD, eqv_int, eqv_str, eqv_bool, eqv_list, eqv_tuple, eqva_nil, eqva_cons, eqva_l, eqva_r, dp_int, dp_str, dp_bool, dp_list, dp_tuple, dpa_nil, dpa_cons, ofStr_beq, intsD, boolsD, nd_int, nd_bool, nd_str, nd_none, nd_list, nd_tuple, szl, M.truD.eq_1, M.truD.eq_2, M.truD.eq_3, M.truD.eq_4, M.truD.eq_5, M.truD.eq_6, M.truD.eq_7, M.setD.eq_1, M.subD.eq_1, M.subD.eq_2, M.subD.eq_3, M.slcD.eq_1, M.slcD.eq_2, M.itemsD.eq_1, M.itemsD.eq_2, M.itemsD.eq_3, M.itemsD.eq_4, M.itemsD.eq_5, M.itemsD.eq_6, M.itemsD.eq_7, M.cmpD.eq_1, M.cmpD.eq_2, M.cmpD.eq_3, M.cmpD.eq_4, M.cmpD.eq_5, M.cmpD.eq_6, M.cmpD.eq_7, M.cmpD.eq_9, M.cmpD.eq_11, M.cmpD.eq_12, M.cmpD.eq_13, M.cmpD.eq_14, M.binD.eq_1, M.binD.eq_2, M.binD.eq_3, M.binD.eq_4, M.binD.eq_5, M.binD.eq_6, M.binD.eq_7, M.binD.eq_8, M.binD.eq_9, M.bltD.eq_1, M.bltD.eq_2, M.bltD.eq_3, M.bltD.eq_4, M.bltD.eq_5, M.bltD.eq_6, M.bltD.eq_7, M.bltD.eq_8, M.bltD.eq_9, M.bltD.eq_10, M.bltD.eq_11, M.bltD.eq_12, M.bltD.eq_13, M.bltD.eq_14, M.mutD.eq_1, M.mutD.eq_2, M.extD.eq_1, HT.sIx.eq_1, HT.sIx.eq_2, f_look_at_formula, b_look_at_formula, gw, e]
theorem e_reads (n : Nat) (f : Fm) (h : Fit f) (hd : deep f ≤ 4) (hp : parts f ≤ 15) (hz : (names f).length ≤ 60) (hn : deep f + 5 ≤ n) : callF F G n fi_formula_reads [.v (enc f)] = .ok ⟨.list (so f), true, []⟩ := by
  obtain ⟨n, rfl⟩ : ∃ m, n = m + 1 := ⟨n - 1, by omega⟩
  rw [callF_at (fn := f_formula_reads) rfl rfl (Nat.le_of_ble_eq_true rfl)]
  have e := e_look n f h hd hp (by omega)
  have e2 := e_names f n hz (by omega)
  have e3 := e_sset f h hz
  simp [rbind_ok, rbind_exc, rbind_stuck, ofO_some, ofO_none, seqS_nx, seqS_rt, seqS_exc, lcNext_E, lcStep_ok, lcCons_ok, lcLoop_nil, lcLoop_step, foNext_E, forLoop_nil, forLoop_step, ssNext_E, evSs_nil, evSs_cons, x_var, x_cst, x_glo, x_bin, y_bin, x_neg, x_not, x_and, y_and, z_and, x_or, y_or, z_or, x_cmp, y_cmp, x_chn, y_chn, z_chn, w_chnT, w_chnF, x_ife, y_ife, z_ife, x_call, x_blt, x_isi, x_sub, y_sub, x_slc, y_slc, z_slc, x_tup, x_lst, a_nil, a_cons, a_cons1, a_cons2, e_nil, e_cons, e_cons1, g_nil, g_ref, g_c0, g_c1, g_c2, g_c3, g_c4, g_c5, g_c6, g_c7, g_c8, g_c9, g_c10, g_c11, g_c12, g_c13, g_c14, g_c15, g_c16, g_c17, g_c18, g_cons1, g_cons2, o_none, o_some, c_nil, c_cons, c_cons1, c_cons2, t_E, truW_E, rdAll_nil, rdAll_cons, lcEnd_ok, turn_E, turn_E1, turn_E2, turn_E3, x_lc, y_lc, z_lc, s_for, s_for1, s_for2, fturn_E, fturn_E1, unlR_ok, s_nop, s_set, s_setT, s_setI, s_setI1, s_mut, s_ext, s_expr, s_ret, s_retN, s_ite, s_ite1, s_rais, callEnd_ok, callEnd_exc, callAt_E, callAt_E1, retOf, M.rfs, startE, slotOf, isR, refsOf, argsAt, putRefs, fzv, fzn, rdv, setS, fr_none, fr_sh, fr_ow, fr_rf, fr_ln, bindT, bindTs, MT.vars, MT.varsL, mutS, ownS, isd_int_none, isd_int_bool, isd_int_int, isd_int_str, isd_int_list, isd_int_tuple, isd_bool_none, isd_bool_bool, isd_bool_int, isd_bool_str, isd_bool_list, isd_bool_tuple, isd_str_none, isd_str_bool, isd_str_int, isd_str_str, isd_str_list, isd_str_tuple, isd_tuple_none, isd_tuple_bool, isd_tuple_int, isd_tuple_str, isd_tuple_list, isd_tuple_tuple, isd_list_none, isd_list_bool, isd_list_int, isd_list_str, isd_list_list, isd_list_tuple, eqOk, lendE, lend1, backE, wipeE, lent, slots, normW, unlend, L2.atI, L2.ixN, cutD, eqv_int, eqv_str, eqv_bool, eqv_list, eqv_tuple, eqva_nil, eqva_cons, eqva_l, eqva_r, dp_int, dp_str, dp_bool, dp_list, dp_tuple, dpa_nil, dpa_cons, ofStr_beq, intsD, boolsD, nd_int, nd_bool, nd_str, nd_none, nd_list, nd_tuple, szl, M.truD.eq_1, M.truD.eq_2, M.truD.eq_3, M.truD.eq_4, M.truD.eq_5, M.truD.eq_6, M.truD.eq_7, M.setD.eq_1, M.subD.eq_1, M.subD.eq_2, M.subD.eq_3, M.slcD.eq_1, M.slcD.eq_2, M.itemsD.eq_1, M.itemsD.eq_2, M.itemsD.eq_3, M.itemsD.eq_4, M.itemsD.eq_5, M.itemsD.eq_6, M.itemsD.eq_7, M.cmpD.eq_1, M.cmpD.eq_2, M.cmpD.eq_3, M.cmpD.eq_4, M.cmpD.eq_5, M.cmpD.eq_6, M.cmpD.eq_7, M.cmpD.eq_9, M.cmpD.eq_11, M.cmpD.eq_12, M.cmpD.eq_13, M.cmpD.eq_14, M.binD.eq_1, M.binD.eq_2, M.binD.eq_3, M.binD.eq_4, M.binD.eq_5, M.binD.eq_6, M.binD.eq_7, M.binD.eq_8, M.binD.eq_9, M.bltD.eq_1, M.bltD.eq_2, M.bltD.eq_3, M.bltD.eq_4, M.bltD.eq_5, M.bltD.eq_6, M.bltD.eq_7, M.bltD.eq_8, M.bltD.eq_9, M.bltD.eq_10, M.bltD.eq_11, M.bltD.eq_12, M.bltD.eq_13, M.bltD.eq_14, M.mutD.eq_1, M.mutD.eq_2, M.extD.eq_1, HT.sIx.eq_1, HT.sIx.eq_2, f_formula_reads, b_formula_reads, gw, e, e2, ↓e3]
theorem so_nd (f : Fm) : ndAlls (so f) := by
  unfold so
  generalize pSort (names f) = l
  induction l with
  | nil => simp only [List.map_nil, ndAlls]
  | cons p r ih => rw [List.map_cons]; simp only [ndAlls, pD, ndAll]; exact ⟨⟨trivial, trivial, trivial⟩, ih⟩
theorem so_depth (f : Fm) : PyData.depthAll (so f) ≤ 1 := by
  unfold so
  generalize pSort (names f) = l
  induction l with
  | nil => simp only [List.map_nil, PyData.depthAll]; omega
  | cons p r ih => rw [List.map_cons]; simp only [dpa_cons, pD, dp_tuple, dp_int, dpa_nil]; omega
def bChk : List MS := [.ite (.or (.not (.isi (.var 6) .tuple)) (.or (.isi (.sub (.var 6) (.cst (.int 0))) .bool) (.isi (.sub (.var 6) (.cst (.int 1))) .bool))) [.ret (.cst (.bool false))] []]
theorem chk_loop (C : CallT) (s0 s1 s2 s3 s4 s5 : Option Slot) : ∀ (l : List (Int × Int)) (o : Option Slot), freeS (some o) = true → ∃ o', freeS (some o') = true ∧ forLoop (M.forTurn C G (.nm 6) bChk) (l.map pD) [s0, s1, s2, s3, s4, s5, o] = .ok (.nx [s0, s1, s2, s3, s4, s5, o'])
  | [], o, ho => ⟨o, ho, rfl⟩
  | p :: r, o, ho => by
    obtain ⟨o', ho', h⟩ := chk_loop C s0 s1 s2 s3 s4 s5 r (some (pD p, .sh)) rfl
    refine ⟨o', ho', ?_⟩
    rw [List.map_cons, forLoop_step, ← h]
    have e : M.forTurn C G (.nm 6) bChk (pD p) [s0, s1, s2, s3, s4, s5, o] = .ok (.nx [s0, s1, s2, s3, s4, s5, some (pD p, .sh)]) := by
      have hb : bindT (.nm 6) (pD p) [s0, s1, s2, s3, s4, s5, o] = some [s0, s1, s2, s3, s4, s5, some (pD p, .sh)] := by
        match o, ho with
        | none, _ => rfl
        | some (d, .sh), _ => rfl
        | some (d, .ow), _ => rfl
      unfold M.forTurn
      rw [hb]
      simp [rbind_ok, rbind_exc, rbind_stuck, ofO_some, ofO_none, seqS_nx, seqS_rt, seqS_exc, lcNext_E, lcStep_ok, lcCons_ok, lcLoop_nil, lcLoop_step, foNext_E, forLoop_nil, forLoop_step, ssNext_E, evSs_nil, evSs_cons, x_var, x_cst, x_glo, x_bin, y_bin, x_neg, x_not, x_and, y_and, z_and, x_or, y_or, z_or, x_cmp, y_cmp, x_chn, y_chn, z_chn, w_chnT, w_chnF, x_ife, y_ife, z_ife, x_call, x_blt, x_isi, x_sub, y_sub, x_slc, y_slc, z_slc, x_tup, x_lst, a_nil, a_cons, a_cons1, a_cons2, e_nil, e_cons, e_cons1, g_nil, g_ref, g_c0, g_c1, g_c2, g_c3, g_c4, g_c5, g_c6, g_c7, g_c8, g_c9, g_c10, g_c11, g_c12, g_c13, g_c14, g_c15, g_c16, g_c17, g_c18, g_cons1, g_cons2, o_none, o_some, c_nil, c_cons, c_cons1, c_cons2, t_E, truW_E, rdAll_nil, rdAll_cons, lcEnd_ok, turn_E, turn_E1, turn_E2, turn_E3, x_lc, y_lc, z_lc, s_for, s_for1, s_for2, fturn_E, fturn_E1, unlR_ok, s_nop, s_set, s_setT, s_setI, s_setI1, s_mut, s_ext, s_expr, s_ret, s_retN, s_ite, s_ite1, s_rais, callEnd_ok, callEnd_exc, callAt_E, callAt_E1, retOf, M.rfs, startE, slotOf, isR, refsOf, argsAt, putRefs, fzv, fzn, rdv, setS, fr_none, fr_sh, fr_ow, fr_rf, fr_ln, bindT, bindTs, MT.vars, MT.varsL, mutS, ownS, isd_int_none, isd_int_bool, isd_int_int, isd_int_str, isd_int_list, isd_int_tuple, isd_bool_none, isd_bool_bool, isd_bool_int, isd_bool_str, isd_bool_list, isd_bool_tuple, isd_str_none, isd_str_bool, isd_str_int, isd_str_str, isd_str_list, isd_str_tuple, isd_tuple_none, isd_tuple_bool, isd_tuple_int, isd_tuple_str, isd_tuple_list, isd_tuple_tuple, isd_list_none, isd_list_bool, isd_list_int, isd_list_str, isd_list_list, isd_list_tuple, eqOk, lendE, lend1, backE, wipeE, lent, slots, normW, unlend, L2.atI, L2.ixN, cutD, eqv_int, eqv_str, eqv_bool, eqv_list, eqv_tuple, eqva_nil, eqva_cons, eqva_l, eqva_r, dp_int, dp_str, dp_bool, dp_list, dp_tuple, dpa_nil, dpa_cons, ofStr_beq, intsD, boolsD, nd_int, nd_bool, nd_str, nd_none, nd_list, nd_tuple, szl, M.truD.eq_1, M.truD.eq_2, M.truD.eq_3, M.truD.eq_4, M.truD.eq_5, M.truD.eq_6, M.truD.eq_7, M.setD.eq_1, M.subD.eq_1, M.subD.eq_2, M.subD.eq_3, M.slcD.eq_1, M.slcD.eq_2, M.itemsD.eq_1, M.itemsD.eq_2, M.itemsD.eq_3, M.itemsD.eq_4, M.itemsD.eq_5, M.itemsD.eq_6, M.itemsD.eq_7, M.cmpD.eq_1, M.cmpD.eq_2, M.cmpD.eq_3, M.cmpD.eq_4, M.cmpD.eq_5, M.cmpD.eq_6, M.cmpD.eq_7, M.cmpD.eq_9, M.cmpD.eq_11, M.cmpD.eq_12, M.cmpD.eq_13, M.cmpD.eq_14, M.binD.eq_1, M.binD.eq_2, M.binD.eq_3, M.binD.eq_4, M.binD.eq_5, M.binD.eq_6, M.binD.eq_7, M.binD.eq_8, M.binD.eq_9, M.bltD.eq_1, M.bltD.eq_2, M.bltD.eq_3, M.bltD.eq_4, M.bltD.eq_5, M.bltD.eq_6, M.bltD.eq_7, M.bltD.eq_8, M.bltD.eq_9, M.bltD.eq_10, M.bltD.eq_11, M.bltD.eq_12, M.bltD.eq_13, M.bltD.eq_14, M.mutD.eq_1, M.mutD.eq_2, M.extD.eq_1, HT.sIx.eq_1, HT.sIx.eq_2, bChk, pD]
    rw [e]
    rfl
def bLaw : List MS := [.set 2 (.lst [(.call fi_law_cell [(.var 0), (.var 1)])]), .set 3 (.call fi_law_formula [(.ref 2), (.call fi_law_any_names []), (.cst (.int 2))]), .ite (.cmp .Eq (.call fi_law_take [(.ref 2), (.cst (.int 2))]) (.cst (.int 1))) [.set 3 (.tup [(.cst (.str "times")), (.cst (.int 3)), (.var 3)])] [], .set 4 (.blt .sset [(.call fi_law_found [(.var 3)])]), .set 5 (.call fi_formula_reads [(.var 3)]), .ite (.or (.not (.isi (.var 5) .list)) (.cmp .NotEq (.var 5) (.var 4))) [.ret (.cst (.bool false))] [], .forr (.nm 6) .ex [(.var 5)] bChk, .mut 5 .clear [], .ite (.cmp .NotEq (.call fi_formula_reads [(.var 3)]) (.var 4)) [.ret (.cst (.bool false))] []]
theorem law_body : b_law = [.forr (.nm 1) .r1 [(.cst (.int 6))] bLaw, .ret (.cst (.bool true))] := rfl
end K02
namespace K02
open PySem M
def bA : List MS := bLaw.take 3
def bB : List MS := bLaw.drop 3
theorem evSs_app {C : CallT} {G : List PyData} : ∀ {a b : List MS} {env : M.Env}, evSs C G (a ++ b) env = seqS (evSs C G a env) fun env => evSs C G b env
  | [], b, env => by rw [List.nil_append, evSs_nil, seqS_nx]
  | s :: r, b, env => by
    rw [List.cons_append, evSs_cons, evSs_cons]
    cases evS C G s env with
    | ok q =>
      cases q with
      | nx env' =>
        show evSs C G (r ++ b) env' = seqS (evSs C G r env') _
        exact evSs_app
      | rt d fr env' => rfl
    | exc x => rfl
    | stuck => rfl
theorem turn_a (n : Nat) (ns : List Int) (k : Nat) (o2 o3 o4 o5 o6 : Option Slot) (h2 : freeS (some o2) = true) (h3 : freeS (some o3) = true) : ∃ g y, evSs (callF F G (n + 10)) G bA [some (.list (ns.map PyData.int), .sh), some (.int k, .sh), o2, o3, o4, o5, o6] = .ok (.nx [some (.list (ns.map PyData.int), .sh), some (.int k, .sh), some (.list [.int y], .ow), some (enc g, .sh), o4, o5, o6]) ∧ Fit g ∧ deep g ≤ 4 ∧ parts g ≤ 15 ∧ (names g).length ≤ 60 := by
  obtain ⟨x, hx⟩ := e_cell (n + 8) ns k
  obtain ⟨f, y, hf, g1, g2, g3, g4⟩ := gen2 (n + 10) (by omega) x
  have ea := e_any (n + 9)
  have hf : callF F G (n + 10) fi_law_formula [.r (.list [.int x]), .v (.list anyN), .v (.int 2)] = .ok ⟨enc f, false, [.list [.int y]]⟩ := hf
  have p : pm 2 = 13 := rfl
  have t : tm 2 = 9 := rfl
  by_cases h1 : y % 2 = 1
  · refine ⟨.times 3 f, y / 2, ?_, ⟨by omega, g1⟩, by simp only [deep]; omega, by simp only [parts]; omega, by simp only [names]; omega⟩
    simp [rbind_ok, rbind_exc, rbind_stuck, ofO_some, ofO_none, seqS_nx, seqS_rt, seqS_exc, lcNext_E, lcStep_ok, lcCons_ok, lcLoop_nil, lcLoop_step, foNext_E, forLoop_nil, forLoop_step, ssNext_E, evSs_nil, evSs_cons, x_var, x_cst, x_glo, x_bin, y_bin, x_neg, x_not, x_and, y_and, z_and, x_or, y_or, z_or, x_cmp, y_cmp, x_chn, y_chn, z_chn, w_chnT, w_chnF, x_ife, y_ife, z_ife, x_call, x_blt, x_isi, x_sub, y_sub, x_slc, y_slc, z_slc, x_tup, x_lst, a_nil, a_cons, a_cons1, a_cons2, e_nil, e_cons, e_cons1, g_nil, g_ref, g_c0, g_c1, g_c2, g_c3, g_c4, g_c5, g_c6, g_c7, g_c8, g_c9, g_c10, g_c11, g_c12, g_c13, g_c14, g_c15, g_c16, g_c17, g_c18, g_cons1, g_cons2, o_none, o_some, c_nil, c_cons, c_cons1, c_cons2, t_E, truW_E, rdAll_nil, rdAll_cons, lcEnd_ok, turn_E, turn_E1, turn_E2, turn_E3, x_lc, y_lc, z_lc, s_for, s_for1, s_for2, fturn_E, fturn_E1, unlR_ok, s_nop, s_set, s_setT, s_setI, s_setI1, s_mut, s_ext, s_expr, s_ret, s_retN, s_ite, s_ite1, s_rais, callEnd_ok, callEnd_exc, callAt_E, callAt_E1, retOf, M.rfs, startE, slotOf, isR, refsOf, argsAt, putRefs, fzv, fzn, rdv, setS, fr_none, fr_sh, fr_ow, fr_rf, fr_ln, bindT, bindTs, MT.vars, MT.varsL, mutS, ownS, isd_int_none, isd_int_bool, isd_int_int, isd_int_str, isd_int_list, isd_int_tuple, isd_bool_none, isd_bool_bool, isd_bool_int, isd_bool_str, isd_bool_list, isd_bool_tuple, isd_str_none, isd_str_bool, isd_str_int, isd_str_str, isd_str_list, isd_str_tuple, isd_tuple_none, isd_tuple_bool, isd_tuple_int, isd_tuple_str, isd_tuple_list, isd_tuple_tuple, isd_list_none, isd_list_bool, isd_list_int, isd_list_str, isd_list_list, isd_list_tuple, eqOk, lendE, lend1, backE, wipeE, lent, slots, normW, unlend, L2.atI, L2.ixN, cutD, eqv_int, eqv_str, eqv_bool, eqv_list, eqv_tuple, eqva_nil, eqva_cons, eqva_l, eqva_r, dp_int, dp_str, dp_bool, dp_list, dp_tuple, dpa_nil, dpa_cons, ofStr_beq, intsD, boolsD, nd_int, nd_bool, nd_str, nd_none, nd_list, nd_tuple, szl, M.truD.eq_1, M.truD.eq_2, M.truD.eq_3, M.truD.eq_4, M.truD.eq_5, M.truD.eq_6, M.truD.eq_7, M.setD.eq_1, M.subD.eq_1, M.subD.eq_2, M.subD.eq_3, M.slcD.eq_1, M.slcD.eq_2, M.itemsD.eq_1, M.itemsD.eq_2, M.itemsD.eq_3, M.itemsD.eq_4, M.itemsD.eq_5, M.itemsD.eq_6, M.itemsD.eq_7, M.cmpD.eq_1, M.cmpD.eq_2, M.cmpD.eq_3, M.cmpD.eq_4, M.cmpD.eq_5, M.cmpD.eq_6, M.cmpD.eq_7, M.cmpD.eq_9, M.cmpD.eq_11, M.cmpD.eq_12, M.cmpD.eq_13, M.cmpD.eq_14, M.binD.eq_1, M.binD.eq_2, M.binD.eq_3, M.binD.eq_4, M.binD.eq_5, M.binD.eq_6, M.binD.eq_7, M.binD.eq_8, M.binD.eq_9, M.bltD.eq_1, M.bltD.eq_2, M.bltD.eq_3, M.bltD.eq_4, M.bltD.eq_5, M.bltD.eq_6, M.bltD.eq_7, M.bltD.eq_8, M.bltD.eq_9, M.bltD.eq_10, M.bltD.eq_11, M.bltD.eq_12, M.bltD.eq_13, M.bltD.eq_14, M.mutD.eq_1, M.mutD.eq_2, M.extD.eq_1, HT.sIx.eq_1, HT.sIx.eq_2, bA, bLaw, hx, hf, ea, e_take, h1, h2, h3, enc, enc_nd]
  · refine ⟨f, y / 2, ?_, g1, by omega, by omega, by omega⟩
    simp [rbind_ok, rbind_exc, rbind_stuck, ofO_some, ofO_none, seqS_nx, seqS_rt, seqS_exc, lcNext_E, lcStep_ok, lcCons_ok, lcLoop_nil, lcLoop_step, foNext_E, forLoop_nil, forLoop_step, ssNext_E, evSs_nil, evSs_cons, x_var, x_cst, x_glo, x_bin, y_bin, x_neg, x_not, x_and, y_and, z_and, x_or, y_or, z_or, x_cmp, y_cmp, x_chn, y_chn, z_chn, w_chnT, w_chnF, x_ife, y_ife, z_ife, x_call, x_blt, x_isi, x_sub, y_sub, x_slc, y_slc, z_slc, x_tup, x_lst, a_nil, a_cons, a_cons1, a_cons2, e_nil, e_cons, e_cons1, g_nil, g_ref, g_c0, g_c1, g_c2, g_c3, g_c4, g_c5, g_c6, g_c7, g_c8, g_c9, g_c10, g_c11, g_c12, g_c13, g_c14, g_c15, g_c16, g_c17, g_c18, g_cons1, g_cons2, o_none, o_some, c_nil, c_cons, c_cons1, c_cons2, t_E, truW_E, rdAll_nil, rdAll_cons, lcEnd_ok, turn_E, turn_E1, turn_E2, turn_E3, x_lc, y_lc, z_lc, s_for, s_for1, s_for2, fturn_E, fturn_E1, unlR_ok, s_nop, s_set, s_setT, s_setI, s_setI1, s_mut, s_ext, s_expr, s_ret, s_retN, s_ite, s_ite1, s_rais, callEnd_ok, callEnd_exc, callAt_E, callAt_E1, retOf, M.rfs, startE, slotOf, isR, refsOf, argsAt, putRefs, fzv, fzn, rdv, setS, fr_none, fr_sh, fr_ow, fr_rf, fr_ln, bindT, bindTs, MT.vars, MT.varsL, mutS, ownS, isd_int_none, isd_int_bool, isd_int_int, isd_int_str, isd_int_list, isd_int_tuple, isd_bool_none, isd_bool_bool, isd_bool_int, isd_bool_str, isd_bool_list, isd_bool_tuple, isd_str_none, isd_str_bool, isd_str_int, isd_str_str, isd_str_list, isd_str_tuple, isd_tuple_none, isd_tuple_bool, isd_tuple_int, isd_tuple_str, isd_tuple_list, isd_tuple_tuple, isd_list_none, isd_list_bool, isd_list_int, isd_list_str, isd_list_list, isd_list_tuple, eqOk, lendE, lend1, backE, wipeE, lent, slots, normW, unlend, L2.atI, L2.ixN, cutD, eqv_int, eqv_str, eqv_bool, eqv_list, eqv_tuple, eqva_nil, eqva_cons, eqva_l, eqva_r, dp_int, dp_str, dp_bool, dp_list, dp_tuple, dpa_nil, dpa_cons, ofStr_beq, intsD, boolsD, nd_int, nd_bool, nd_str, nd_none, nd_list, nd_tuple, szl, M.truD.eq_1, M.truD.eq_2, M.truD.eq_3, M.truD.eq_4, M.truD.eq_5, M.truD.eq_6, M.truD.eq_7, M.setD.eq_1, M.subD.eq_1, M.subD.eq_2, M.subD.eq_3, M.slcD.eq_1, M.slcD.eq_2, M.itemsD.eq_1, M.itemsD.eq_2, M.itemsD.eq_3, M.itemsD.eq_4, M.itemsD.eq_5, M.itemsD.eq_6, M.itemsD.eq_7, M.cmpD.eq_1, M.cmpD.eq_2, M.cmpD.eq_3, M.cmpD.eq_4, M.cmpD.eq_5, M.cmpD.eq_6, M.cmpD.eq_7, M.cmpD.eq_9, M.cmpD.eq_11, M.cmpD.eq_12, M.cmpD.eq_13, M.cmpD.eq_14, M.binD.eq_1, M.binD.eq_2, M.binD.eq_3, M.binD.eq_4, M.binD.eq_5, M.binD.eq_6, M.binD.eq_7, M.binD.eq_8, M.binD.eq_9, M.bltD.eq_1, M.bltD.eq_2, M.bltD.eq_3, M.bltD.eq_4, M.bltD.eq_5, M.bltD.eq_6, M.bltD.eq_7, M.bltD.eq_8, M.bltD.eq_9, M.bltD.eq_10, M.bltD.eq_11, M.bltD.eq_12, M.bltD.eq_13, M.bltD.eq_14, M.mutD.eq_1, M.mutD.eq_2, M.extD.eq_1, HT.sIx.eq_1, HT.sIx.eq_2, bA, bLaw, hx, hf, ea, e_take, h1, h2, h3, enc, enc_nd]
theorem turn_b (n : Nat) (s0 s1 s2 : Option Slot) (g : Fm) (o4 o5 o6 : Option Slot) (h4 : freeS (some o4) = true) (h5 : freeS (some o5) = true) (h6 : freeS (some o6) = true) (q1 : Fit g) (q2 : deep g ≤ 4) (q3 : parts g ≤ 15) (q4 : (names g).length ≤ 60) : ∃ o6', freeS (some o6') = true ∧ evSs (callF F G (n + 10)) G bB [s0, s1, s2, some (enc g, .sh), o4, o5, o6] = .ok (.nx [s0, s1, s2, some (enc g, .sh), some (.list (so g), .ow), some (.list [], .ow), o6']) := by
  have e1 := e_found g (n + 10) q4 (by omega)
  have e2 := e_sset g q1 q4
  have e3 := e_reads (n + 10) g q1 q2 q3 q4 (by omega)
  have e4 : PyData.eqvAll (so g) (so g) = true := eqva_refl _ (so_nd g)
  have e5 : PyData.depthAll (so g) ≤ 63 := by have := so_depth g; omega
  obtain ⟨o6', h6', h⟩ := chk_loop (callF F G (n + 10)) s0 s1 s2 (some (enc g, .sh)) (some (.list (so g), .ow)) (some (.list (so g), .ln)) (pSort (names g)) o6 h6
  have h : forLoop (M.forTurn (callF F G (n + 10)) G (.nm 6) bChk) (so g) [s0, s1, s2, some (enc g, .sh), some (.list (so g), .ow), some (.list (so g), .ln), o6] = .ok (.nx [s0, s1, s2, some (enc g, .sh), some (.list (so g), .ow), some (.list (so g), .ln), o6']) := h
  refine ⟨o6', h6', ?_⟩
  simp [rbind_ok, rbind_exc, rbind_stuck, ofO_some, ofO_none, seqS_nx, seqS_rt, seqS_exc, lcNext_E, lcStep_ok, lcCons_ok, lcLoop_nil, lcLoop_step, foNext_E, ssNext_E, evSs_nil, evSs_cons, x_var, x_cst, x_glo, x_bin, y_bin, x_neg, x_not, x_and, y_and, z_and, x_or, y_or, z_or, x_cmp, y_cmp, x_chn, y_chn, z_chn, w_chnT, w_chnF, x_ife, y_ife, z_ife, x_call, x_blt, x_isi, x_sub, y_sub, x_slc, y_slc, z_slc, x_tup, x_lst, a_nil, a_cons, a_cons1, a_cons2, e_nil, e_cons, e_cons1, g_nil, g_ref, g_c0, g_c1, g_c2, g_c3, g_c4, g_c5, g_c6, g_c7, g_c8, g_c9, g_c10, g_c11, g_c12, g_c13, g_c14, g_c15, g_c16, g_c17, g_c18, g_cons1, g_cons2, o_none, o_some, c_nil, c_cons, c_cons1, c_cons2, t_E, truW_E, rdAll_nil, rdAll_cons, lcEnd_ok, turn_E, turn_E1, turn_E2, turn_E3, x_lc, y_lc, z_lc, s_for, s_for1, s_for2, fturn_E, fturn_E1, unlR_ok, s_nop, s_set, s_setT, s_setI, s_setI1, s_mut, s_ext, s_expr, s_ret, s_retN, s_ite, s_ite1, s_rais, callEnd_ok, callEnd_exc, callAt_E, callAt_E1, retOf, M.rfs, startE, slotOf, isR, refsOf, argsAt, putRefs, fzv, fzn, rdv, setS, fr_none, fr_sh, fr_ow, fr_rf, fr_ln, bindT, bindTs, MT.vars, MT.varsL, mutS, ownS, isd_int_none, isd_int_bool, isd_int_int, isd_int_str, isd_int_list, isd_int_tuple, isd_bool_none, isd_bool_bool, isd_bool_int, isd_bool_str, isd_bool_list, isd_bool_tuple, isd_str_none, isd_str_bool, isd_str_int, isd_str_str, isd_str_list, isd_str_tuple, isd_tuple_none, isd_tuple_bool, isd_tuple_int, isd_tuple_str, isd_tuple_list, isd_tuple_tuple, isd_list_none, isd_list_bool, isd_list_int, isd_list_str, isd_list_list, isd_list_tuple, eqOk, lendE, lend1, backE, wipeE, lent, slots, normW, unlend, L2.atI, L2.ixN, cutD, eqv_int, eqv_str, eqv_bool, eqv_list, eqv_tuple, eqva_nil, eqva_cons, eqva_l, eqva_r, dp_int, dp_str, dp_bool, dp_list, dp_tuple, dpa_nil, dpa_cons, ofStr_beq, intsD, boolsD, nd_int, nd_bool, nd_str, nd_none, nd_list, nd_tuple, szl, M.truD.eq_1, M.truD.eq_2, M.truD.eq_3, M.truD.eq_4, M.truD.eq_5, M.truD.eq_6, M.truD.eq_7, M.setD.eq_1, M.subD.eq_1, M.subD.eq_2, M.subD.eq_3, M.slcD.eq_1, M.slcD.eq_2, M.itemsD.eq_1, M.itemsD.eq_2, M.itemsD.eq_3, M.itemsD.eq_4, M.itemsD.eq_5, M.itemsD.eq_6, M.itemsD.eq_7, M.cmpD.eq_1, M.cmpD.eq_2, M.cmpD.eq_3, M.cmpD.eq_4, M.cmpD.eq_5, M.cmpD.eq_6, M.cmpD.eq_7, M.cmpD.eq_9, M.cmpD.eq_11, M.cmpD.eq_12, M.cmpD.eq_13, M.cmpD.eq_14, M.binD.eq_1, M.binD.eq_2, M.binD.eq_3, M.binD.eq_4, M.binD.eq_5, M.binD.eq_6, M.binD.eq_7, M.binD.eq_8, M.binD.eq_9, M.bltD.eq_1, M.bltD.eq_2, M.bltD.eq_3, M.bltD.eq_4, M.bltD.eq_5, M.bltD.eq_6, M.bltD.eq_7, M.bltD.eq_8, M.bltD.eq_9, M.bltD.eq_10, M.bltD.eq_11, M.bltD.eq_12, M.bltD.eq_13, M.bltD.eq_14, M.mutD.eq_1, M.mutD.eq_2, M.extD.eq_1, HT.sIx.eq_1, HT.sIx.eq_2, bB, bLaw, e1, ↓e2, e3, e4, e5, h4, h5, h]
def Sh (ns : List Int) (env : M.Env) : Prop := ∃ o1 o2 o3 o4 o5 o6, env = [some (.list (ns.map PyData.int), .sh), o1, o2, o3, o4, o5, o6] ∧ freeS (some o1) = true ∧ freeS (some o2) = true ∧ freeS (some o3) = true ∧ freeS (some o4) = true ∧ freeS (some o5) = true ∧ freeS (some o6) = true
theorem law_loop (n : Nat) (ns : List Int) : ∀ (l : List Nat) (env : M.Env), Sh ns env → ∃ env', Sh ns env' ∧ forLoop (M.forTurn (callF F G (n + 10)) G (.nm 1) bLaw) (l.map fun (i : Nat) => .int (i : Int)) env = .ok (.nx env')
  | [], env, h => ⟨env, h, rfl⟩
  | k :: l, env, h => by
    obtain ⟨o1, o2, o3, o4, o5, o6, rfl, h1, h2, h3, h4, h5, h6⟩ := h
    obtain ⟨g, y, e1, q1, q2, q3, q4⟩ := turn_a n ns k o2 o3 o4 o5 o6 h2 h3
    obtain ⟨o6', h6', e2⟩ := turn_b n (some (.list (ns.map PyData.int), .sh)) (some (.int k, .sh)) (some (.list [.int y], .ow)) g o4 o5 o6 h4 h5 h6 q1 q2 q3 q4
    obtain ⟨env', hs, e3⟩ := law_loop n ns l [some (.list (ns.map PyData.int), .sh), some (.int k, .sh), some (.list [.int y], .ow), some (enc g, .sh), some (.list (so g), .ow), some (.list [], .ow), o6'] ⟨_, _, _, _, _, _, rfl, rfl, rfl, rfl, rfl, rfl, h6'⟩
    refine ⟨env', hs, ?_⟩
    rw [List.map_cons, forLoop_step]
    have hb : bindT (.nm 1) (.int k) [some (.list (ns.map PyData.int), .sh), o1, o2, o3, o4, o5, o6] = some [some (.list (ns.map PyData.int), .sh), some (.int k, .sh), o2, o3, o4, o5, o6] := by
      simp [bindT, setS, h1]
    have hsp : bLaw = bA ++ bB := (List.take_append_drop 3 bLaw).symm
    unfold M.forTurn
    rw [hb, ofO_some, rbind_ok, hsp, evSs_app, e1, seqS_nx, e2, seqS_nx]
    rw [hsp] at e3
    exact e3
theorem law_eq (n : Nat) (ns : List Int) : callF F G (n + 11) fi_law [.v (.list (ns.map PyData.int))] = .ok ⟨.bool true, false, []⟩ := by
  rw [callF_at (fn := f_law) rfl rfl (Nat.le_of_ble_eq_true rfl)]
  obtain ⟨env', ⟨o1, o2, o3, o4, o5, o6, rfl, _⟩, e⟩ := law_loop n ns (List.range 6) [some (.list (ns.map PyData.int), .sh), none, none, none, none, none, none] ⟨_, _, _, _, _, _, rfl, rfl, rfl, rfl, rfl, rfl, rfl⟩
  show retOf [false] (evSs _ _ b_law [some (.list (ns.map PyData.int), .sh), none, none, none, none, none, none]) = _
  rw [law_body]
  simp [rbind_ok, rbind_exc, rbind_stuck, ofO_some, ofO_none, seqS_nx, seqS_rt, seqS_exc, lcNext_E, lcStep_ok, lcCons_ok, lcLoop_nil, lcLoop_step, foNext_E, ssNext_E, evSs_nil, evSs_cons, x_var, x_cst, x_glo, x_bin, y_bin, x_neg, x_not, x_and, y_and, z_and, x_or, y_or, z_or, x_cmp, y_cmp, x_chn, y_chn, z_chn, w_chnT, w_chnF, x_ife, y_ife, z_ife, x_call, x_blt, x_isi, x_sub, y_sub, x_slc, y_slc, z_slc, x_tup, x_lst, a_nil, a_cons, a_cons1, a_cons2, e_nil, e_cons, e_cons1, g_nil, g_ref, g_c0, g_c1, g_c2, g_c3, g_c4, g_c5, g_c6, g_c7, g_c8, g_c9, g_c10, g_c11, g_c12, g_c13, g_c14, g_c15, g_c16, g_c17, g_c18, g_cons1, g_cons2, o_none, o_some, c_nil, c_cons, c_cons1, c_cons2, t_E, truW_E, rdAll_nil, rdAll_cons, lcEnd_ok, turn_E, turn_E1, turn_E2, turn_E3, x_lc, y_lc, z_lc, s_for, s_for1, s_for2, fturn_E, fturn_E1, unlR_ok, s_nop, s_set, s_setT, s_setI, s_setI1, s_mut, s_ext, s_expr, s_ret, s_retN, s_ite, s_ite1, s_rais, callEnd_ok, callEnd_exc, callAt_E, callAt_E1, retOf, M.rfs, startE, slotOf, isR, refsOf, argsAt, putRefs, fzv, fzn, rdv, setS, fr_none, fr_sh, fr_ow, fr_rf, fr_ln, bindT, bindTs, MT.vars, MT.varsL, mutS, ownS, isd_int_none, isd_int_bool, isd_int_int, isd_int_str, isd_int_list, isd_int_tuple, isd_bool_none, isd_bool_bool, isd_bool_int, isd_bool_str, isd_bool_list, isd_bool_tuple, isd_str_none, isd_str_bool, isd_str_int, isd_str_str, isd_str_list, isd_str_tuple, isd_tuple_none, isd_tuple_bool, isd_tuple_int, isd_tuple_str, isd_tuple_list, isd_tuple_tuple, isd_list_none, isd_list_bool, isd_list_int, isd_list_str, isd_list_list, isd_list_tuple, eqOk, lendE, lend1, backE, wipeE, lent, slots, normW, unlend, L2.atI, L2.ixN, cutD, eqv_int, eqv_str, eqv_bool, eqv_list, eqv_tuple, eqva_nil, eqva_cons, eqva_l, eqva_r, dp_int, dp_str, dp_bool, dp_list, dp_tuple, dpa_nil, dpa_cons, ofStr_beq, intsD, boolsD, nd_int, nd_bool, nd_str, nd_none, nd_list, nd_tuple, szl, M.truD.eq_1, M.truD.eq_2, M.truD.eq_3, M.truD.eq_4, M.truD.eq_5, M.truD.eq_6, M.truD.eq_7, M.setD.eq_1, M.subD.eq_1, M.subD.eq_2, M.subD.eq_3, M.slcD.eq_1, M.slcD.eq_2, M.itemsD.eq_1, M.itemsD.eq_2, M.itemsD.eq_3, M.itemsD.eq_4, M.itemsD.eq_5, M.itemsD.eq_6, M.itemsD.eq_7, M.cmpD.eq_1, M.cmpD.eq_2, M.cmpD.eq_3, M.cmpD.eq_4, M.cmpD.eq_5, M.cmpD.eq_6, M.cmpD.eq_7, M.cmpD.eq_9, M.cmpD.eq_11, M.cmpD.eq_12, M.cmpD.eq_13, M.cmpD.eq_14, M.binD.eq_1, M.binD.eq_2, M.binD.eq_3, M.binD.eq_4, M.binD.eq_5, M.binD.eq_6, M.binD.eq_7, M.binD.eq_8, M.binD.eq_9, M.bltD.eq_1, M.bltD.eq_2, M.bltD.eq_3, M.bltD.eq_4, M.bltD.eq_5, M.bltD.eq_6, M.bltD.eq_7, M.bltD.eq_8, M.bltD.eq_9, M.bltD.eq_10, M.bltD.eq_11, M.bltD.eq_12, M.bltD.eq_13, M.bltD.eq_14, M.mutD.eq_1, M.mutD.eq_2, M.extD.eq_1, HT.sIx.eq_1, HT.sIx.eq_2, e]
theorem main : rw0.Holds := holds (k := 10) ⟨rfl, by decide, by decide⟩ fun ns _ => law_eq 0 ns
end K02
theorem PySem.Challenge.cw_updownworths_k02_names_of_formulas_holds : PySem.Challenge.rw_updownworths_k02_names_of_formulas.Holds := by
  exact K02.main
